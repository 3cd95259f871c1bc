import PyProof.Rows.All
import Wide.All
import OpenK.AllK
import Wide.FinOn
import PySem.Challenge.RW_sm0013_01
set_option Elab.async false
set_option maxRecDepth 100000
set_option maxHeartbeats 4000000
set_option genSizeOf false
set_option bootstrap.genMatcherCode false
set_option genInjectivity false
set_option linter.all false
set_option tactic.hygienic false
set_option genCtorIdx false
namespace Mine.Internal
open And renaming imp_left->Ed
open Array renaming length_toList->Aq,getElem?_eq_getElem->BQ,getElem?_eq_none->Cj,getElem?_eq_some_iff->Dq,size_append->DS,getElem?_toList->GJ,getElem?_setIfInBounds_self_of_lt->GQ,toList_append->HM,eq_empty_of_size_eq_zero->Jy
open Bool renaming false_ne_true->AH,not_eq_true'->B6,false_eq_true->C0,rec->Dw,and_eq_true->Ew,noConfusion->JF,or_eq_true_iff->Qp
open Classical renaming byContradiction->JG
open ForInStep renaming yield->D4
open Int renaming ofNat_le->Am,natCast_nonneg->AE,ofNat_lt->Bg,not_lt->Bu,le_antisymm->B0,fmod->Cb,eq_ofNat_of_zero_le->Cf,ne_of_gt->Fm,toNat_natCast->FQ,ofNat_inj->Ga,le_of_lt_add_one->HN,sub_nonneg_of_le->HO,natAbs_add_le->Jz,natAbs_ne_zero->Sq
open LawfulBEq renaming eq_of_beq->A6
open List renaming length_append->Ak,mem_cons->Al,mem_singleton->An,getElem?_eq_some_iff->Aw,length_map->A0,mem_of_getElem?->A2,getElem?_append_left->A9,mem_append_right->AF,mem_append->AJ,mem_append_left->AQ,mem_cons_of_mem->AR,contains_iff_mem->AT,getElem?_eq_getElem->AX,append_assoc->Bd,mem_cons_self->Be,append_nil->Bq,replicate->Bz,lookup_cons->B1,mem_map->B2,length_reverse->B5,mem_filterMap->BA,all_eq_true->BF,getElem?_append_right->BL,lookup->BP,getElem?_set_self->Ck,take_of_length_le->Cm,length_cons->Cy,mem_filter->C7,getElem?_of_mem->Dy,map_cons->DA,map_append->DD,reverse_cons->DX,set_set->DY,length_drop->Ez,getElem?_set_ne->EG,length_set->EO,nil_append->EP,drop_eq_getElem_cons->FA,flatMap_cons->FH,size_toArray->FJ,length_take->Gg,not_mem_nil->Gh,range->G9,getElem?_eq_none->GV,length_filter_le->GW,set_append_right->GX,dropLast_concat->HD,drop_zero->HE,mem_of_mem_drop->HF,contains_cons->Iy,getElem?_map->IU,getElem?_nil->IV,map_map->IW,cons_ne_nil->JH,drop_length->JI,isEmpty_iff->JJ,getElem?_concat_length->LC,mem_or_eq_of_mem_set->Ml
open Nat renaming le_trans->Ag,le_refl->Ay,zero_le->A3,sub_add_cancel->AI,le_antisymm->AL,ne_of_lt->AW,le_add_right->BG,pow_le_pow_right->BH,succ_pos->BM,ne_of_gt->Cq,le_of_lt->CB,le_of_eq->CZ,lt_of_lt_of_le->Da,lt_of_le_of_lt->DJ,sub_le->DK,add_le_add->Ee,lt_irrefl->EH,min_eq_left->ET,lt_or_ge->Fo,zero_add->Fp,not_lt->Fv,lt_succ_of_lt->FR,add_assoc->Gb,add_sub_cancel_left->Gv,lt_of_not_le->Gw,min_eq_right->Gx,min_le_right->Gy,lt_trans->GL,sub_self->GM,add_le_add_right->HQ,div_lt_of_lt_mul->HS,pow_add->HT,le_of_succ_le->J0,le_of_not_lt->JY,lt_succ_self->JZ,succ_le_succ->Ka,succ_ne_self->Kb,pow_lt_pow_iff_right->NK
open Ne renaming symm->BB
open Option renaming map_eq_some_iff->Bc,isNone_iff_eq_none->B3,bind_eq_some_iff->BC,none->DE,isSome_iff_exists->FB,bind_some->IX
open Option.some renaming inj->Ad
open PyProof renaming noPylong_of_log2->LD
open PyProof.Rows renaming subscriptTail->D2,Fr->DZ,slot_tuple_getitem->Eg,StrsAre->IZ,sortedHeap->Kw
open PySem renaming wpAny_bind->Aa,Value->Ab,wpAny_pure->Ac,Shared->Ae,Heap->Ah,Addr->Ai,Str->Ao,wpAny_holding->Au,wpAny->Av,Builtin->Ax,wpAny_mono->A4,wpAny_field->A5,model->AD,strKind->AM,wpAny_newObj_type->AP,rawInt->AU,wpAny_call_entry->AZ,wpAny_callSpecial?_slot->Bb,wpAny_of_eq->Bj,wpAny_ite_split->Bk,sizeLine->Bp,Around->Bt,wpAny_specialOf->Bv,wpAny_standAt->Bw,builtinLookup_eq_fast->Bx,wpAny_truthy_bool->By,Program->B7,strKind_is->BE,DictEntry->BK,wpAny_seqItems->BU,codeAny->BY,World->Cc,wpAny_setField->Ci,getMethod_builtin->Cp,typeLookup_type->Cv,wpAny_ite_false->Cw,NameKind->Cz,wpAny_attempt->C2,isSubtype_type->C8,assignEach->CQ,wpAny_rule->CU,firstArgMember->Dc,wpAny_isInstance->Dd,Obj->Df,sysModules->Dl,callEnvC->Dt,starEach->Du,partValue->D1,Spec->DF,FuncData->DT,Stmt->Ef,wpAny_call->Eh,mainGlobals->Em,Operator->E8,Scope->EA,notedBy->EB,wpAny_typeOf->EC,compareOp->EU,pyNext->EY,typeLookup->Fa,codeAny_call_builtin->Fq,wpAny_loadName_local->Ft,wpAny_updateSeq->F8,codeAny_mono->FM,eval->FO,wpAny_ite_true->Gc,wpAny_pyIter_tuple->Gd,relabel->GB,slot_list_setitem->GG,wpAny_loadPart_at->GH,assign->GN,backTo->GO,entryFor_of_tree->Hz,wpAny_Call_NameR->HB,frameOf->Ii,getAttrByItsOwn->Im,letOwnedTupleGo->Io,passOn->IJ,isSubtype_stop->IK,unpackItems->IN,wpAny_letTemporaryGo->IP,getItem->Jn,wpAny_raiseNew_none->JE,comprehension->JM,evalPart_none->JN,cameBackBy->Ke,ks_wpAt_execs_cons->Kq,typeIs_str->Ky,wpAny_Name->K0,wpAny_setField_rec->K1,call_meetsIn->LG,slot_list_getitem->LK,wpAny_Assign_Name->LL,wpAny_alloc'->LM,wpAny_sequenceKey->LN,wpAny_comp_letGo->ML,wpAny_execs_cons->MM,wpAny_getItem_list_slice->Rn,wpAny_list_append_plain->Sn,wpAny_Assign_Subscript->Sy,wpAny_allTrue_And_cons->Sz,wpAny_pyNext_list_item->S6
open PySem.Answers renaming of_false_bool->Gu,of_false_int->GI,of_false_tuple->Mj
open PySem.Builtin.List renaming listExtendWith->Bm,listTooLong->BO,listLengthHint->BZ,listSameRef->C1,listItems->D6,listSubscript?->Ei
open PySem.Builtin.ObjectAttr renaming storeInDict->Ge
open PySem.Builtin.Range renaming rangeSize->IQ
open PySem.Builtin.Slice renaming slicePlaces->E7,sliceApplied->Ir,sliceAdjust->Iw
open PySem.Builtin.SmallTypes renaming nextOf->CP,calledThroughType->NR
open PySem.Builtin.Str renaming strSliceIndices->Ix
open PySem.Builtin.Tuple renaming tupleExact->Dj,tupleItemsOf->Iu
open PySem.Calls renaming spliced_cons->Iv,spliced_nil->II
open PySem.EntryCells renaming newEntry->G4
open PySem.Env renaming kindOf->D3
open PySem.ExceptHandler renaming ExceptHandler->Ig
open PySem.F renaming slot_tuple_iterator_next->C3,isi_meta_tuple->D8,isi_meta_list->DL,slot_dict_get->Ea,isi_meta_str->Es,plainAttrs_dict->FK,plainAttrs_list->FL,slot_dict_pop->G0,args_tuple_iterator_next_1->HU,entry_tuple_iterator_next->Ih,args_object_init_2->Kc,excBase_Exception->K8,plain_extend_loop->K9,slot_str_getitem->LF,args_dict_pop_3->LO,entry_dict_get->Mm,entry_dict_pop->Mn,plainAttrs_str->Mo,slot_tuple_iterator_next->NJ
open PySem.Heap renaming get?_push_of_some->Af,get?_push_size->Az,get?_update_other->A1,get?_update_self->A8,SameBut->AA,lt_size->AB,size_push->Dx,get?_push_at->DW,ExtBut->EF,size_update->Gf
open PySem.Heap.SameBut renaming update->BD
open PySem.NameKind renaming cell->Hu,free->Hw
open PySem.Obj renaming data_mapFields->BW,mapFields->CF,mapSeq->CG,isFreed_of_fields->Dk,cls_mapFields->J1
open PySem.PyData renaming keyHash->BJ,strOk->Gi
open PySem.Spec renaming ltCps->Fu
open PySem.Str renaming ofString->Cr
open PySem.Value renaming none->Bh,ref->B9,type->Ds
open PySem.W renaming kms_lo->Cu,putL->C4,Frag->CD,InstAt->CH,dictOf->Db,getL->Dr,kms_hi->EX,kms_pick->Fs,findIn->GP,keepIn->HZ,plainGet_of->IM,emptyDict->Jf,looks_findIn->LJ
open PySem.W.Fast renaming sEq->HC
theorem lB {a b : Nat} (h : Nat.ble a b = true) : a ≤ b := Nat.le_of_ble_eq_true h
theorem aI {a b : Prop} (h : a) (k : b) : a ∧ b := And.intro h k
theorem bM {a b : Bool} (h : (a && b) = true) : a = true ∧ b = true := Bool.and_eq_true_iff.mp h
theorem bZ {a b : Bool} (h : a = true ∧ b = true) : (a && b) = true := Bool.and_eq_true_iff.mpr h
section
universe u
theorem FN{p:Prop}(h:∀g:Prop,(p->g)->g):p:=h p id
@[elab_as_elim] theorem Aj{α:Sort u}{a b:α}{motive:α->Prop}(e:a=b)(h:motive b):motive a:=e▸h
@[elab_as_elim] theorem D5{α:Sort u}{a b:α}{motive:α->Prop}(e:b=a)(h:motive b):motive a:=e▸h
theorem Cd{A B:Prop}{g:Prop}(h:A/\B)(k:A->B->g):g:=k h.1 h.2
theorem Gj{A B C:Prop}{g:Prop}(h:A/\B/\C)(k:A->B->C->g):g:=Cd h.2 (k h.1)
theorem iM{A B C D:Prop}{g:Prop}(h:A/\B/\C/\D)(k:A->B->C->D->g):g:=Gj h.2 (k h.1)
theorem Xz{A B C D E:Prop}{g:Prop}(h:A/\B/\C/\D/\E)(k:A->B->C->D->E->g):g:=iM h.2 (k h.1)
theorem oH{A B C D E F:Prop}{g:Prop}(h:A/\B/\C/\D/\E/\F)(k:A->B->C->D->E->F->g):g:=Xz h.2 (k h.1)
theorem Eb{α:Sort _}{A:α->Prop}{g:Prop}(h:∃x,A x)(k:∀x,A x->g):g:=h.elim k
theorem AO{α:Sort _}{A B:α->Prop}{g:Prop}(h:∃x,A x/\B x)(k:∀x,A x->B x->g):g:=h.elim fun x h=>Cd h (k x)
theorem C9{α:Sort _}{A B C:α->Prop}{g:Prop}(h:∃x,A x/\B x/\C x)(k:∀x,A x->B x->C x->g):g:=h.elim fun x h=>Gj h (k x)
theorem jZ{α:Sort _}{A B C D:α->Prop}{g:Prop}(h:∃x,A x/\B x/\C x/\D x)(k:∀x,A x->B x->C x->D x->g):g:=h.elim fun x h=>iM h (k x)
theorem oK{α:Sort _}{A B C D E:α->Prop}{g:Prop}(h:∃x,A x/\B x/\C x/\D x/\E x)(k:∀x,A x->B x->C x->D x->E x->g):g:=h.elim fun x h=>Xz h (k x)
theorem mZ{α:Sort _}{A B C D E F:α->Prop}{g:Prop}(h:∃x,A x/\B x/\C x/\D x/\E x/\F x)(k:∀x,A x->B x->C x->D x->E x->F x->g):g:=h.elim fun x h=>oH h (k x)
theorem Oe{α:Sort _}{β:Sort _}{A:α->β->Prop}{g:Prop}(h:∃x y,A x y)(k:∀x y,A x y->g):g:=h.elim fun x h=>Eb h (k x)
theorem LH{α:Sort _}{β:Sort _}{A B:α->β->Prop}{g:Prop}(h:∃x y,A x y/\B x y)(k:∀x y,A x y->B x y->g):g:=h.elim fun x h=>AO h (k x)
theorem EM{α:Sort _}{β:Sort _}{A B C:α->β->Prop}{g:Prop}(h:∃x y,A x y/\B x y/\C x y)(k:∀x y,A x y->B x y->C x y->g):g:=h.elim fun x h=>C9 h (k x)
theorem cM{α:Sort _}{β:Sort _}{A B C D:α->β->Prop}{g:Prop}(h:∃x y,A x y/\B x y/\C x y/\D x y)(k:∀x y,A x y->B x y->C x y->D x y->g):g:=h.elim fun x h=>jZ h (k x)
theorem kA{α:Sort _}{β:Sort _}{A B C D E:α->β->Prop}{g:Prop}(h:∃x y,A x y/\B x y/\C x y/\D x y/\E x y)(k:∀x y,A x y->B x y->C x y->D x y->E x y->g):g:=h.elim fun x h=>oK h (k x)
theorem oL{α:Sort _}{β:Sort _}{A B C D E F:α->β->Prop}{g:Prop}(h:∃x y,A x y/\B x y/\C x y/\D x y/\E x y/\F x y)(k:∀x y,A x y->B x y->C x y->D x y->E x y->F x y->g):g:=h.elim fun x h=>mZ h (k x)
theorem nA{α:Sort _}{β:Sort _}{γ:Sort _}{A:α->β->γ->Prop}{g:Prop}(h:∃x y z,A x y z)(k:∀x y z,A x y z->g):g:=h.elim fun x h=>Oe h (k x)
theorem VT{α:Sort _}{β:Sort _}{γ:Sort _}{A B:α->β->γ->Prop}{g:Prop}(h:∃x y z,A x y z/\B x y z)(k:∀x y z,A x y z->B x y z->g):g:=h.elim fun x h=>LH h (k x)
theorem Kk{α:Sort _}{β:Sort _}{γ:Sort _}{A B C:α->β->γ->Prop}{g:Prop}(h:∃x y z,A x y z/\B x y z/\C x y z)(k:∀x y z,A x y z->B x y z->C x y z->g):g:=h.elim fun x h=>EM h (k x)
theorem LI{α:Sort _}{β:Sort _}{γ:Sort _}{A B C D:α->β->γ->Prop}{g:Prop}(h:∃x y z,A x y z/\B x y z/\C x y z/\D x y z)(k:∀x y z,A x y z->B x y z->C x y z->D x y z->g):g:=h.elim fun x h=>cM h (k x)
theorem Ss{α:Sort _}{β:Sort _}{γ:Sort _}{A B C D E:α->β->γ->Prop}{g:Prop}(h:∃x y z,A x y z/\B x y z/\C x y z/\D x y z/\E x y z)(k:∀x y z,A x y z->B x y z->C x y z->D x y z->E x y z->g):g:=h.elim fun x h=>kA h (k x)
theorem kB{α:Sort _}{β:Sort _}{γ:Sort _}{A B C D E F:α->β->γ->Prop}{g:Prop}(h:∃x y z,A x y z/\B x y z/\C x y z/\D x y z/\E x y z/\F x y z)(k:∀x y z,A x y z->B x y z->C x y z->D x y z->E x y z->F x y z->g):g:=h.elim fun x h=>oL h (k x)
theorem cN{α:Sort _}{β:Sort _}{γ:Sort _}{δ:Sort _}{A B:α->β->γ->δ->Prop}{g:Prop}(h:∃x y z u,A x y z u/\B x y z u)(k:∀x y z u,A x y z u->B x y z u->g):g:=h.elim fun x h=>VT h (k x)
theorem oO{α:Sort _}{β:Sort _}{γ:Sort _}{δ:Sort _}{A B C:α->β->γ->δ->Prop}{g:Prop}(h:∃x y z u,A x y z u/\B x y z u/\C x y z u)(k:∀x y z u,A x y z u->B x y z u->C x y z u->g):g:=h.elim fun x h=>Kk h (k x)
theorem aW{α:Sort _}{β:Sort _}{γ:Sort _}{δ:Sort _}{A B C D:α->β->γ->δ->Prop}{g:Prop}(h:∃x y z u,A x y z u/\B x y z u/\C x y z u/\D x y z u)(k:∀x y z u,A x y z u->B x y z u->C x y z u->D x y z u->g):g:=h.elim fun x h=>LI h (k x)
theorem QD{A B C:Prop}(h0:A)(h1:B)(h2:C):A/\B/\C:=⟨h0,h1,h2⟩
theorem YT{A B C D:Prop}(h0:A)(h1:B)(h2:C)(h3:D):A/\B/\C/\D:=⟨h0,h1,h2,h3⟩
theorem kJ{A B C D E:Prop}(h0:A)(h1:B)(h2:C)(h3:D)(h4:E):A/\B/\C/\D/\E:=⟨h0,h1,h2,h3,h4⟩
theorem Bn{α:Sort _}{A B:α->Prop}(x:α)(h0:A x)(h1:B x):∃x,A x/\B x:=⟨x,h0,h1⟩
theorem EN{α:Sort _}{A B C:α->Prop}(x:α)(h0:A x)(h1:B x)(h2:C x):∃x,A x/\B x/\C x:=⟨x,h0,h1,h2⟩
theorem oS{α:Sort _}{A B C D:α->Prop}(x:α)(h0:A x)(h1:B x)(h2:C x)(h3:D x):∃x,A x/\B x/\C x/\D x:=⟨x,h0,h1,h2,h3⟩
theorem YU{α:Sort _}{β:Sort _}{A:α->β->Prop}(x:α)(y:β)(h0:A x y):∃x y,A x y:=⟨x,y,h0⟩
theorem RN{α:Sort _}{β:Sort _}{A B:α->β->Prop}(x:α)(y:β)(h0:A x y)(h1:B x y):∃x y,A x y/\B x y:=⟨x,y,h0,h1⟩
theorem F1{α:Sort _}{β:Sort _}{A B C:α->β->Prop}(x:α)(y:β)(h0:A x y)(h1:B x y)(h2:C x y):∃x y,A x y/\B x y/\C x y:=⟨x,y,h0,h1,h2⟩
theorem aX{α:Sort _}{β:Sort _}{A B C D:α->β->Prop}(x:α)(y:β)(h0:A x y)(h1:B x y)(h2:C x y)(h3:D x y):∃x y,A x y/\B x y/\C x y/\D x y:=⟨x,y,h0,h1,h2,h3⟩
theorem nF{α:Sort _}{β:Sort _}{A B C D E:α->β->Prop}(x:α)(y:β)(h0:A x y)(h1:B x y)(h2:C x y)(h3:D x y)(h4:E x y):∃x y,A x y/\B x y/\C x y/\D x y/\E x y:=⟨x,y,h0,h1,h2,h3,h4⟩
theorem nG{α:Sort _}{β:Sort _}{γ:Sort _}{A:α->β->γ->Prop}(x:α)(y:β)(z:γ)(h0:A x y z):∃x y z,A x y z:=⟨x,y,z,h0⟩
theorem oU{α:Sort _}{β:Sort _}{γ:Sort _}{A B:α->β->γ->Prop}(x:α)(y:β)(z:γ)(h0:A x y z)(h1:B x y z):∃x y z,A x y z/\B x y z:=⟨x,y,z,h0,h1⟩
theorem RO{α:Sort _}{β:Sort _}{γ:Sort _}{A B C:α->β->γ->Prop}(x:α)(y:β)(z:γ)(h0:A x y z)(h1:B x y z)(h2:C x y z):∃x y z,A x y z/\B x y z/\C x y z:=⟨x,y,z,h0,h1,h2⟩
theorem RP{α:Sort _}{β:Sort _}{γ:Sort _}{A B C D:α->β->γ->Prop}(x:α)(y:β)(z:γ)(h0:A x y z)(h1:B x y z)(h2:C x y z)(h3:D x y z):∃x y z,A x y z/\B x y z/\C x y z/\D x y z:=⟨x,y,z,h0,h1,h2,h3⟩
theorem Sv{α:Sort _}{β:Sort _}{γ:Sort _}{A B C D E:α->β->γ->Prop}(x:α)(y:β)(z:γ)(h0:A x y z)(h1:B x y z)(h2:C x y z)(h3:D x y z)(h4:E x y z):∃x y z,A x y z/\B x y z/\C x y z/\D x y z/\E x y z:=⟨x,y,z,h0,h1,h2,h3,h4⟩
theorem oV{α:Sort _}{β:Sort _}{γ:Sort _}{A B C D E F:α->β->γ->Prop}(x:α)(y:β)(z:γ)(h0:A x y z)(h1:B x y z)(h2:C x y z)(h3:D x y z)(h4:E x y z)(h5:F x y z):∃x y z,A x y z/\B x y z/\C x y z/\D x y z/\E x y z/\F x y z:=⟨x,y,z,h0,h1,h2,h3,h4,h5⟩
theorem oX{α:Sort _}{β:Sort _}{γ:Sort _}{δ:Sort _}{A B C D:α->β->γ->δ->Prop}(x:α)(y:β)(z:γ)(u:δ)(h0:A x y z u)(h1:B x y z u)(h2:C x y z u)(h3:D x y z u):∃x y z u,A x y z u/\B x y z u/\C x y z u/\D x y z u:=⟨x,y,z,u,h0,h1,h2,h3⟩
end
section
open Nat.Internal.Linear (Context ExprCnstr)
noncomputable abbrev Lx:=Nat.Internal.Linear.Expr
inductive Lc where
 |l (a b:Lx) | t (a b:Lx) | e (a b:Lx) | f (a b:Lx) | m (a b:Lx) | u (a b:Lx)
noncomputable def Lc.d(x:Context):Lc->Prop
 |.l a b=>a.denote x<=b.denote x
 |.t a b=>a.denote x<b.denote x
 |.e a b=>a.denote x=b.denote x
 |.f a b=>a.denote x=b.denote x
 |.m a b=>¬a.denote x<=b.denote x
 |.u a b=>¬a.denote x<b.denote x
noncomputable def Lc.p:Lc->Lx×Lx
 |.l a b=>(a,b)
 |.t a b=>(.add a (.num 1),b)
 |.e a b=>(a,b)
 |.f a b=>(b,a)
 |.m a b=>(.add b (.num 1),a)
 |.u a b=>(b,a)
noncomputable def Hh(x:Context)(g:Prop):List Lc->Prop
 |[]=>g
 |c::cs=>c.d x->Hh x g cs
noncomputable def Hj:Lx×Lx->List Lc->Lx×Lx
 |s,[]=>s
 |s,c::cs=>Hj (.add s.1 c.p.1,.add s.2 c.p.2) cs
noncomputable def OQ(s:Lx×Lx):Bool:=(ExprCnstr.mk false s.1 s.2).toNormPoly.isUnsat
noncomputable abbrev nK(x:Context)(s:Lx×Lx):Prop:=s.1.denote x<=s.2.denote x
theorem Lc.le{x:Context}:(c:Lc)->c.d x->nK x c.p
 |.l _ _=>fun h=>h
 |.t _ _=>fun h=>h
 |.e _ _=>fun h=>CZ h
 |.f _ _=>fun h=>CZ h.symm
 |.m _ _=>fun h=>Gw h
 |.u _ _=>fun h=>JY h
theorem Kr{x:Context}{g:Prop}:(cs:List Lc)->(s:Lx×Lx)->OQ (Hj s cs)=true->(¬g->nK x s)->Hh x g cs
 |[]=>fun s k h=>JG fun q=>by
  have:=ExprCnstr.eq_false_of_isUnsat x (ExprCnstr.mk false s.1 s.2) k
  exact this▸h q
 |c::cs=>fun s k h=>fun q=>Kr cs _ k fun z=>Ee (h z) (c.le q)
theorem TZ(x:Context)(a b:Lx)(cs:List Lc)(k:OQ (Hj (.add b (.num 1),a) cs)=true):Hh x (a.denote x<=b.denote x) cs:=Kr cs _ k Gw
theorem Ua(x:Context)(a b:Lx)(cs:List Lc)(k:OQ (Hj (b,a) cs)=true):Hh x (a.denote x<b.denote x) cs:=Kr cs _ k JY
theorem eC(x:Context)(cs:List Lc)(k:OQ (Hj (.num 0,.num 0) cs)=true):Hh x False cs:=Kr cs _ k fun ø=>Ay 0
noncomputable abbrev R1(a:Nat):Context:=.leaf a
noncomputable abbrev R2(a b:Nat):Context:=.branch 1 (.leaf a) (.leaf b)
noncomputable abbrev R3(a b c:Nat):Context:=.branch 1 (.leaf a) (.branch 2 (.leaf b) (.leaf c))
noncomputable abbrev R4(a b c d:Nat):Context:=.branch 1 (.leaf a) (.branch 2 (.leaf b) (.branch 3 (.leaf c) (.leaf d)))
noncomputable abbrev R5(a b c d e:Nat):Context:=.branch 1 (.leaf a) (.branch 2 (.leaf b) (.branch 3 (.leaf c) (.branch 4 (.leaf d) (.leaf e))))
noncomputable abbrev xa:Lx:=.var 0
noncomputable abbrev xb:Lx:=.var 1
noncomputable abbrev xc:Lx:=.var 2
noncomputable abbrev xd:Lx:=.var 3
noncomputable abbrev xe:Lx:=.var 4
noncomputable abbrev xf:Lx:=.var 5
noncomputable abbrev Lp(a b:Lx):Lx:=.add a b
theorem D7{α:Type}{P:α->Prop}{a:α}{l:List α}(h:P a)(t:∀u,u∈l->P u):∀u,u∈a::l->P u:=fun ø q=>(Al.mp q).elim (fun e=>e▸h) (t _)
theorem RU{α:Type}{P:α->Prop}:∀u,u∈([]:List α)->P u:=fun ø q=>nomatch q
theorem OB(a b:Nat):a<=a-b+b:=Nat.le_add_of_sub_le (Ay _)
noncomputable abbrev As:true=true:=Eq.refl true
theorem GK{a:Nat}(p q:Lx)(cs:List Lc)(k:OQ (Hj (.add q (.num 1),p) cs)=true):Hh (R1 a) (p.denote (R1 a)<=q.denote (R1 a)) cs:=TZ _ p q cs k
theorem V7{a:Nat}(p q:Lx)(cs:List Lc)(k:OQ (Hj (q,p) cs)=true):Hh (R1 a) (p.denote (R1 a)<q.denote (R1 a)) cs:=Ua _ p q cs k
theorem lZ{a:Nat}(cs:List Lc)(k:OQ (Hj (.num 0,.num 0) cs)=true):Hh (R1 a) False cs:=eC _ cs k
theorem CY{a b:Nat}(p q:Lx)(cs:List Lc)(k:OQ (Hj (.add q (.num 1),p) cs)=true):Hh (R2 a b) (p.denote (R2 a b)<=q.denote (R2 a b)) cs:=TZ _ p q cs k
theorem OX{a b:Nat}(p q:Lx)(cs:List Lc)(k:OQ (Hj (q,p) cs)=true):Hh (R2 a b) (p.denote (R2 a b)<q.denote (R2 a b)) cs:=Ua _ p q cs k
theorem nV{a b:Nat}(cs:List Lc)(k:OQ (Hj (.num 0,.num 0) cs)=true):Hh (R2 a b) False cs:=eC _ cs k
theorem Fc{a b c:Nat}(p q:Lx)(cs:List Lc)(k:OQ (Hj (.add q (.num 1),p) cs)=true):Hh (R3 a b c) (p.denote (R3 a b c)<=q.denote (R3 a b c)) cs:=TZ _ p q cs k
theorem Sr{a b c:Nat}(p q:Lx)(cs:List Lc)(k:OQ (Hj (q,p) cs)=true):Hh (R3 a b c) (p.denote (R3 a b c)<q.denote (R3 a b c)) cs:=Ua _ p q cs k
theorem OP{a b c d:Nat}(p q:Lx)(cs:List Lc)(k:OQ (Hj (.add q (.num 1),p) cs)=true):Hh (R4 a b c d) (p.denote (R4 a b c d)<=q.denote (R4 a b c d)) cs:=TZ _ p q cs k
theorem Xj{a b c d:Nat}(p q:Lx)(cs:List Lc)(k:OQ (Hj (q,p) cs)=true):Hh (R4 a b c d) (p.denote (R4 a b c d)<q.denote (R4 a b c d)) cs:=Ua _ p q cs k
theorem mA{a b c d e:Nat}(p q:Lx)(cs:List Lc)(k:OQ (Hj (.add q (.num 1),p) cs)=true):Hh (R5 a b c d e) (p.denote (R5 a b c d e)<=q.denote (R5 a b c d e)) cs:=TZ _ p q cs k
theorem qB{a b c d e:Nat}(p q:Lx)(cs:List Lc)(k:OQ (Hj (q,p) cs)=true):Hh (R5 a b c d e) (p.denote (R5 a b c d e)<q.denote (R5 a b c d e)) cs:=Ua _ p q cs k
noncomputable abbrev Zx:=Int.Internal.Linear.Expr
inductive Zc where
 |l (a b:Zx) | t (a b:Zx) | e (a b:Zx) | f (a b:Zx) | m (a b:Zx) | u (a b:Zx)
noncomputable abbrev Zm:=Int.Internal.Linear.Context
noncomputable def Zc.d(x:Zm):Zc->Prop
 |.l a b=>a.denote x<=b.denote x
 |.t a b=>a.denote x<b.denote x
 |.e a b=>a.denote x=b.denote x
 |.f a b=>a.denote x=b.denote x
 |.m a b=>¬a.denote x<=b.denote x
 |.u a b=>¬a.denote x<b.denote x
noncomputable def Zc.p:Zc->Zx×Zx
 |.l a b=>(a,b)
 |.t a b=>(.add a (.num 1),b)
 |.e a b=>(a,b)
 |.f a b=>(b,a)
 |.m a b=>(.add b (.num 1),a)
 |.u a b=>(b,a)
noncomputable def JW(x:Zm)(g:Prop):List Zc->Prop
 |[]=>g
 |c::cs=>c.d x->JW x g cs
noncomputable def JX:Zx×Zx->List Zc->Zx×Zx
 |s,[]=>s
 |s,c::cs=>JX (.add s.1 c.p.1,.add s.2 c.p.2) cs
noncomputable def Vv(s:Zx×Zx):Bool:=(s.1.sub s.2).norm.isUnsatLe
noncomputable abbrev nU(x:Zm)(s:Zx×Zx):Prop:=s.1.denote x<=s.2.denote x
theorem Zc.le{x:Zm}:(c:Zc)->c.d x->nU x c.p
 |.l _ _=>fun h=>h
 |.t _ _=>fun h=>h
 |.e _ _=>fun h=>Int.le_of_eq h
 |.f _ _=>fun h=>Int.le_of_eq h.symm
 |.m _ _=>fun h=>Int.lt_of_not_ge h
 |.u _ _=>fun h=>Bu.1 h
theorem NI{x:Zm}{g:Prop}:(cs:List Zc)->(s:Zx×Zx)->Vv (JX s cs)=true->(¬g->nU x s)->JW x g cs
 |[]=>fun s k h=>JG fun q=>(Int.Internal.Linear.le_eq_false x s.1 s.2 k)▸h q
 |c::cs=>fun s k h=>fun q=>NI cs _ k fun z=>Int.add_le_add (h z) (c.le q)
theorem Xe(x:Zm)(a b:Zx)(cs:List Zc)(k:Vv (JX (.add b (.num 1),a) cs)=true):JW x (a.denote x<=b.denote x) cs:=NI cs _ k Int.lt_of_not_ge
theorem Xf(x:Zm)(a b:Zx)(cs:List Zc)(k:Vv (JX (b,a) cs)=true):JW x (a.denote x<b.denote x) cs:=NI cs _ k Bu.1
noncomputable abbrev I1(a:Int):Zm:=.leaf a
noncomputable abbrev I2(a b:Int):Zm:=.branch 1 (.leaf a) (.leaf b)
noncomputable abbrev I3(a b c:Int):Zm:=.branch 1 (.leaf a) (.branch 2 (.leaf b) (.leaf c))
noncomputable abbrev I4(a b c d:Int):Zm:=.branch 1 (.leaf a) (.branch 2 (.leaf b) (.branch 3 (.leaf c) (.leaf d)))
noncomputable abbrev za:Zx:=.var 0
noncomputable abbrev zb:Zx:=.var 1
noncomputable abbrev zc:Zx:=.var 2
noncomputable abbrev zd:Zx:=.var 3
theorem BV{a:Int}(p q:Zx)(cs:List Zc)(k:Vv (JX (.add q (.num 1),p) cs)=true):JW (I1 a) (p.denote (I1 a)<=q.denote (I1 a)) cs:=Xe _ p q cs k
theorem DU{a:Int}(p q:Zx)(cs:List Zc)(k:Vv (JX (q,p) cs)=true):JW (I1 a) (p.denote (I1 a)<q.denote (I1 a)) cs:=Xf _ p q cs k
theorem MO{a b:Int}(p q:Zx)(cs:List Zc)(k:Vv (JX (.add q (.num 1),p) cs)=true):JW (I2 a b) (p.denote (I2 a b)<=q.denote (I2 a b)) cs:=Xe _ p q cs k
theorem aT{a b:Int}(p q:Zx)(cs:List Zc)(k:Vv (JX (q,p) cs)=true):JW (I2 a b) (p.denote (I2 a b)<q.denote (I2 a b)) cs:=Xf _ p q cs k
theorem Vz{a b c:Int}(p q:Zx)(cs:List Zc)(k:Vv (JX (.add q (.num 1),p) cs)=true):JW (I3 a b c) (p.denote (I3 a b c)<=q.denote (I3 a b c)) cs:=Xe _ p q cs k
theorem bV{a b c:Int}(p q:Zx)(cs:List Zc)(k:Vv (JX (q,p) cs)=true):JW (I3 a b c) (p.denote (I3 a b c)<q.denote (I3 a b c)) cs:=Xf _ p q cs k
theorem jO{a b c d:Int}(p q:Zx)(cs:List Zc)(k:Vv (JX (.add q (.num 1),p) cs)=true):JW (I4 a b c d) (p.denote (I4 a b c d)<=q.denote (I4 a b c d)) cs:=Xe _ p q cs k
theorem qC{a b c d:Int}(p q:Zx)(cs:List Zc)(k:Vv (JX (q,p) cs)=true):JW (I4 a b c d) (p.denote (I4 a b c d)<q.denote (I4 a b c d)) cs:=Xf _ p q cs k
theorem lY{i:Int}(h:0<=i):(i.toNat:Int)=i:=Int.toNat_of_nonneg h
theorem Ld{a:Int}{n:Nat}(h:-(n:Int)<a)(k:a<n):a.natAbs<n:=by omega
theorem qA{a b:Nat}(h:b<=a):((a-b:Nat):Int)+(b:Int)=a:=by omega
theorem dU{i:Int}{n:Nat}(h:0<=i):min i (n:Int)=((min i.toNat n:Nat):Int):=by
 obtain⟨k,rfl⟩:=Cf h
 rcases Nat.le_total k n with h | h
 ·rw[Int.min_eq_left (Am.2 h),show(k:Int).toNat=k from rfl,ET h]
 ·rw[Int.min_eq_right (Am.2 h),show(k:Int).toNat=k from rfl,Gx h]
theorem oZ{a b n:Nat}(h:a-b=n)(k:a<=n):min (a-b) (n-b)=n:=by
 have:n<=n-b:=Ag (CZ h.symm) (Nat.sub_le_sub_right k b)
 rw[h]
 exact ET this
end
section
open PySem PySem.SeqAt PyProof.Rows
set_option genCtorIdx true in
inductive Bi where
 |len | isi | abs | min | ord | sorted | tStr | tTuple | tList
noncomputable def Bi.val:Bi->Ab
 |.len=>.builtin "len" | .isi=>.builtin "isinstance" | .abs=>.builtin "abs" | .min=>.builtin "min" | .ord=>.builtin "ord" | .sorted=>.builtin "sorted"
 |.tStr=>.type "str" | .tTuple=>.type "tuple" | .tList=>.type "list"
set_option genCtorIdx true in
inductive V where
 |none | bool (b:Bool) | int (i:Int) | str (s:Ao)
 |tup (xs:List V) | lst (xs:List V)
 |ref (i:Nat) | fn (a:Ai) | bi (b:Bi) | cd (a:Ai)
 |meth (f:Ai) (i:Nat)
inductive De where
 |list (xs:List V)
 |dict (es:List (Ao×V))
 |inst (C:Ai) (fs:List (Ao×V))
noncomputable abbrev MH:=List De
mutual
noncomputable def V.nr:V->Bool
 |.ref _=>false
 |.meth _ _=>false
 |.tup xs=>V.nrs xs
 |.lst xs=>V.nrs xs
 |_=>true
noncomputable def V.nrs:List V->Bool
 |[]=>true
 |x::xs=>V.nr x&&V.nrs xs
end
mutual
noncomputable def V.py:V->Option PyData
 |.none=>some .none
 |.bool b=>some (.bool b)
 |.int i=>some (.int i)
 |.str s=>some (.str s)
 |.tup xs=>(V.pys xs).map .tuple
 |.lst xs=>(V.pys xs).map .list
 |_=>DE
noncomputable def V.pys:List V->Option (List PyData)
 |[]=>some []
 |x::xs=>(V.py x).bind fun a=>(V.pys xs).map (a::·)
end
noncomputable def Ao.cut(s:Ao)(lo hi:Nat):Ao:=⟨((s.cps.toList.take hi).drop lo).toArray⟩
noncomputable def E4{α:Type}(xs:List α)(lo hi:Nat):List α:=(xs.take hi).drop lo
noncomputable def Ap:Nat:=1000000
noncomputable def IF(i:Int):Prop:=-(2 ^ 62)<i/\i<2 ^ 62
inductive Tg where
 |one (i:Nat)
 |two (i j:Nat)
inductive Pt where
 |v (i:Nat)
 |t (is:List Nat)
mutual
inductive E where
 |bad
 |k (v:V)
 |l (i:Nat)
 |bin (op:E8) (a b:E)
 |neg (a:E)
 |not (a:E)
 |cmp (op:CmpOp) (a b:E)
 |cmp2 (op1 op2:CmpOp) (a b c:E)
 |and (a b:E)
 |or (a b:E)
 |ite (t a b:E)
 |tup (es:List E)
 |lst (mu:Bool) (es:List E)
 |dct
 |rep (a n:E)
 |call (f:E) (as:List E)
 |attr (o:E) (n:Ao)
 |mcall (o:E) (n:Ao) (as:List E)
 |extend (o:E) (it:It)
 |copy (mu:Bool) (e:E)
 |listRev (mu:Bool) (e:E)
 |idx (o i:E)
 |slc (o:E) (lo hi:Option E)
 |rev (o:E)
 |comp (mu:Bool) (tg:Tg) (it:It) (cond:Option E) (elt:E)
inductive It where
 |it (e:E)
 |rev (e:E)
 |zip (a b:E)
 |enum (e:E)
 |range (e:E)
end
inductive S where
 |bad
 |asg (i:Nat) (e:E)
 |asgT (ps:List Pt) (e:E)
 |asgTT (ps:List Pt) (es:List E)
 |setA (o:E) (n:Ao) (e:E)
 |setI (o i:E) (e:E)
 |setS (o hi:E) (e:E)
 |aug (i:Nat) (op:E8) (e:E)
 |augA (o:E) (n:Ao) (op:E8) (e:E)
 |ite (t:E) (a b:List S)
 |for_ (tg:Tg) (it:It) (body:List S)
 |while_ (t:E) (body:List S)
 |ret (e:E)
 |raise (as:List E)
 |expr (e:E)
 |fin (body final:List S)
 |try_ (body:List S)
noncomputable abbrev Fr:=List (Option V)
noncomputable abbrev QV:=V->MH->Prop
noncomputable abbrev EV:=Ao->MH->Prop
noncomputable abbrev NV:=Fr->MH->Prop
noncomputable abbrev RT:=V->Fr->MH->Prop
structure FP where
 call:Bool->Ai->List V->MH->QV->EV->Prop
 meth:Ai->Ao->Option Ai
 fld:Ai->Ao->Bool
 isFn:Ai->Bool
 cdt:Ai->Option (List (Ao×V))
 hd:Bool
 fuel:Nat
section
variable {α:Type}
noncomputable def vO(o:Option α)(k:α->Prop):Prop:=match o with
 |some a=>k a
 |none=>False
noncomputable def vInt(x:V)(k:Int->Prop):Prop:=match x with
 |.int i=>k i
 |_=>False
noncomputable def vStr(x:V)(k:Ao->Prop):Prop:=match x with
 |.str i=>k i
 |_=>False
noncomputable def vBool(x:V)(k:Bool->Prop):Prop:=match x with
 |.bool i=>k i
 |_=>False
noncomputable def Jw(x:V)(k:List V->Prop):Prop:=match x with
 |.lst i=>k i
 |_=>False
noncomputable def WY(x:V)(k:List V->Prop):Prop:=match x with
 |.tup i=>k i
 |_=>False
noncomputable def HL(x:V)(k:Nat->Prop):Prop:=match x with
 |.ref i=>k i
 |_=>False
noncomputable def JV(x:V)(k:List V->Prop):Prop:=match x with
 |.tup xs=>k xs
 |.lst xs=>k xs
 |_=>False
noncomputable def vB(x:V)(p q:Prop):Prop:=vBool x fun b=>(b=true->p)/\(b=false->q)
noncomputable def DI(H:MH)(i:Nat)(k:List V->Prop):Prop:=vO H[i]? fun o=>match o with
 |.list xs=>k xs
 |_=>False
noncomputable def Hs(H:MH)(i:Nat)(k:List (Ao×V)->Prop):Prop:=vO H[i]? fun o=>match o with
 |.dict xs=>k xs
 |_=>False
noncomputable def Ht(H:MH)(i:Nat)(k:Ai->List (Ao×V)->Prop):Prop:=vO H[i]? fun o=>match o with
 |.inst K fs=>k K fs
 |_=>False
noncomputable def vL(H:MH)(x:V)(k:List V->Prop):Prop:=match x with
 |.lst xs=>k xs
 |.ref i=>DI H i k
 |_=>False
noncomputable def Yo(H:MH)(x:V)(k:List V->Prop):Prop:=match x with
 |.tup xs=>k xs
 |x=>vL H x k
noncomputable def v1(l:List α)(k:α->Prop):Prop:=match l with
 |[a]=>k a
 |_=>False
noncomputable def v2(l:List α)(k:α->α->Prop):Prop:=match l with
 |[a,b]=>k a b
 |_=>False
noncomputable def WV(l:List α)(k:α->Prop)(k2:α->α->Prop):Prop:=match l with
 |[a]=>k a
 |[a,b]=>k2 a b
 |_=>False
end
noncomputable def gT(a b:V)(H:MH)(k:V->Prop):Prop:=match a with
 |.int x=>vInt b fun y=>k (.int (x+y))
 |.str x=>vStr b fun y=>x.length+y.length<=Ap/\k (.str (x++y))
 |a=>vL H a fun xs=>vL H b fun ys=>xs.length+ys.length<=Ap/\k (.lst (xs++ys))
noncomputable def OJ(op:E8)(a b:V)(H:MH)(k:V->Prop):Prop:=match op with
 |.Add=>gT a b H k
 |.Sub=>vInt a fun x=>vInt b fun y=>k (.int (x-y))
 |.Mult=>vInt a fun x=>vInt b fun y=>IF x/\k (.int (x*y))
 |.FloorDiv=>vInt a fun x=>vInt b fun y=>(0<y/\IF y)/\k (.int (x.fdiv y))
 |.Mod=>vInt a fun x=>vInt b fun y=>0<y/\k (.int (x.fmod y))
 |.Pow=>vInt a fun x=>vInt b fun y=>(x=10/\0<=y/\y<=18)/\k (.int (10 ^ y.toNat))
 |.LShift=>vInt a fun x=>vInt b fun y=>(x=1/\0<=y/\y<=60)/\k (.int (2 ^ y.toNat))
 |_=>False
noncomputable def aG(a b:V)(k:Bool->Prop):Prop:=vO a.py fun x=>vO b.py fun y=>(shaped x=true/\shaped y=true)/\k (PyData.eqv x y)
noncomputable def iW(a b:V)(k:Bool->Prop):Prop:=match a with
 |.int i=>vInt b fun j=>k (decide (i=j))
 |.str i=>vStr b fun j=>k (decide (i=j))
 |a=>aG a b k
noncomputable def F7:List V->(List Ao->Prop)->Prop
 |[],k=>k []
 |x::xs,k=>vStr x fun s=>F7 xs fun r=>k (s::r)
noncomputable def LA:List V->(List Int->Prop)->Prop
 |[],k=>k []
 |x::xs,k=>vInt x fun s=>LA xs fun r=>k (s::r)
noncomputable def gY(i:Int)(xs:List V)(k:Bool->Prop):Prop:=match xs with
 |.str s::r=>F7 (.str s::r) fun l=>l.all Gi=true/\k false
 |xs=>LA xs fun l=>k (l.contains i)
noncomputable def lR(C:FP)(a b:V)(H:MH)(k:Bool->Prop):Prop:=match b with
 |.tup xs=>match a with
  |.str s=>F7 xs fun l=>k (l.contains s)
  |a=>vInt a fun i=>gY i xs k
 |.lst xs=>vStr a fun s=>F7 xs fun l=>k (l.contains s)
 |.cd d=>vStr a fun s=>vO (C.cdt d) fun es=>k (es.lookup s).isSome
 |.ref i=>vStr a fun s=>Hs H i fun es=>k (es.lookup s).isSome
 |.str t=>vStr a fun s=>v1 s.cps.toList fun c=>k (t.cps.toList.contains c)
 |_=>False
noncomputable def Rj(x:V)(k:Bool->Prop):Prop:=match x with
 |.none=>k true
 |.bi _=>False
 |_=>k false
noncomputable def lS(a b:V)(k:Bool->Prop):Prop:=match b with
 |.none=>Rj a k
 |_=>False
noncomputable def Qo(C:FP)(op:CmpOp)(a b:V)(H:MH)(k:Bool->Prop):Prop:=match op with
 |.Eq=>iW a b k
 |.NotEq=>iW a b fun r=>k (!r)
 |.Lt=>vInt a fun x=>vInt b fun y=>k (decide (x<y))
 |.LtE=>match a with
  |.str s=>vStr b fun t=>v1 s.cps.toList fun c=>v1 t.cps.toList fun d=>k (decide (c<=d))
  |a=>vInt a fun x=>vInt b fun y=>k (decide (x<=y))
 |.Gt=>vInt a fun x=>vInt b fun y=>k (decide (y<x))
 |.GtE=>vInt a fun x=>vInt b fun y=>k (decide (y<=x))
 |.Is=>lS a b k
 |.IsNot=>lS a b fun r=>k (!r)
 |.In=>lR C a b H k
 |.NotIn=>lR C a b H fun r=>k (!r)
noncomputable def iY(xs:List V)(i:V)(k:V->Prop):Prop:=vInt i fun j=>(0<=j/\j<2 ^ 62)/\vO xs[j.toNat]? k
noncomputable def WX(C:FP)(o i:V)(H:MH)(k:V->Prop):Prop:=match o with
 |.cd d=>vStr i fun s=>vO (C.cdt d) fun es=>vO (es.lookup s) k
 |.str s=>vInt i fun j=>(0<=j/\j<2 ^ 62)/\vO s.cps.toList[j.toNat]? fun c=>k (.str ⟨#[c]⟩)
 |.ref r=>vO H[r]? fun o=>match o with
  |.dict es=>vStr i fun s=>vO (es.lookup s) k
  |.list xs=>iY xs i k
  |_=>False
 |.tup xs=>iY xs i k
 |.lst xs=>iY xs i k
 |_=>False
noncomputable def FZ(o:Option V)(d:Nat)(k:Nat->Prop):Prop:=match o with
 |DE=>k d
 |some x=>vInt x fun j=>(0<=j/\j<2 ^ 62)/\k j.toNat
noncomputable def gZ(o:V)(lo hi:Option V)(k:V->Prop):Prop:=match o with
 |.tup xs=>FZ lo 0 fun a=>FZ hi xs.length fun b=>xs.length<=Ap/\k (.tup (E4 xs a b))
 |.lst xs=>FZ lo 0 fun a=>FZ hi xs.length fun b=>xs.length<=Ap/\k (.lst (E4 xs a b))
 |.str s=>FZ lo 0 fun a=>FZ hi s.length fun b=>s.length<=Ap/\k (.str (Ao.cut s a b))
 |_=>False
noncomputable def putL(k:Ao)(v:V):List (Ao×V)->List (Ao×V)
 |[]=>[(k,v)]
 |(k',v')::r=>if k'=k then(k',v)::r else(k',v')::putL k v r
noncomputable def LW(k:Ao):List (Ao×V)->List (Ao×V)
 |[]=>[]
 |(k',v')::r=>if k'=k then r else(k',v')::LW k r
noncomputable def UZ(C:FP)(o:V)(n:Ao)(H:MH)(k:V->Prop):Prop:=HL o fun i=>Ht H i fun K fs=>match fs.lookup n with
 |some v=>C.fld K n=true/\k v
 |DE=>vO (C.meth K n) fun f=>k (.meth f i)
noncomputable def pQ:V->Option Bi
 |.str _=>some .tStr
 |.tup _=>some .tTuple
 |.lst _=>some .tList
 |_=>DE
noncomputable def plain:V->Bool
 |.none | .bool _ | .int _ | .str _ | .tup _ | .lst _=>true
 |_=>false
noncomputable def V2(x:V):Bi->Option Bool
 |.tStr=>some (match x with | .str _=>true | _=>false)
 |.tTuple=>some (match x with | .tup _=>true | _=>false)
 |.tList=>some (match x with | .lst _=>true | _=>false)
 |_=>DE
noncomputable def bG(x:V)(k:Bi->Prop):Prop:=match x with
 |.bi b=>k b
 |_=>False
noncomputable def gV(x t:V)(k:Bool->Prop):Prop:=plain x=true/\match t with
 |.bi t=>vO (V2 x t) k
 |.tup ts=>v2 ts fun t u=>bG t fun t=>bG u fun u=>vO (V2 x t) fun p=>vO (V2 x u) fun q=>k (p||q)
 |_=>False
noncomputable def gW(x:V)(H:MH)(k:V->Prop):Prop:=match x with
 |.str s=>s.length<=Ap/\k (.int s.length)
 |x=>Yo H x fun xs=>xs.length<=Ap/\k (.int xs.length)
noncomputable def gX(as:List V)(k:V->Prop):Prop:=match as with
 |[a,b]=>vInt a fun i=>vInt b fun j=>k (.int (if j<i then j else i))
 |[a,b,c]=>vInt a fun i=>vInt b fun j=>vInt c fun h=>k (.int (if h<(if j<i then j else i) then h else if j<i then j else i))
 |_=>False
noncomputable def gU(hd:Bool)(f:Bi)(as:List V)(H:MH)(k:V->Prop):Prop:=match f with
 |.len=>v1 as fun x=>gW x H k
 |.isi=>v2 as fun x t=>gV x t fun r=>k (.bool r)
 |.abs=>v1 as fun x=>vInt x fun i=>k (.int (if i<0 then-i else i))
 |.min=>hd=false/\gX as k
 |.ord=>v1 as fun x=>vStr x fun s=>v1 s.cps.toList fun c=>k (.int c)
 |.sorted=>hd=false/\v1 as fun x=>HL x fun i=>Hs H i fun es=>(es.length<=60/\(es.map (·.1)).Pairwise fun a b=>Fu b.cps.toList a.cps.toList=false)/\k (.lst ((es.map (·.1)).map .str))
 |.tStr=>v1 as fun x=>vInt x fun i=>i=0/\k (.str ⟨#[48]⟩)
 |_=>False
noncomputable abbrev Nt:Ao:=⟨#[97,112,112,101,110,100]⟩
noncomputable abbrev W1:Ao:=⟨#[112,111,112]⟩
noncomputable abbrev Zu:Ao:=⟨#[103,101,116]⟩
noncomputable abbrev W2:Ao:=⟨#[114,115,116,114,105,112]⟩
noncomputable abbrev eI:Ao:=⟨#[102,105,110,100]⟩
noncomputable abbrev AK:=(List V->MH->Prop)->Prop
noncomputable def pY(i:Nat)(n:Ao)(A:AK)(Q:QV):Prop:=
 if n=Nt then A fun vs H=>v1 vs fun x=>DI H i fun xs=>xs.length<=Ap/\Q .none (H.set i (.list (xs++[x])))
 else n=W1/\A fun vs H=>vs=[]/\DI H i fun xs=>xs.length<=Ap/\vO xs.getLast? fun x=>Q x (H.set i (.list xs.dropLast))
noncomputable def pW(i:Nat)(n:Ao)(A:AK)(Q:QV):Prop:=
 if n=Zu then A fun vs H=>Hs H i fun es=>WV vs (fun s=>vStr s fun s=>Q ((es.lookup s).getD .none) H) fun s d=>vStr s fun s=>Q ((es.lookup s).getD d) H
 else n=W1/\A fun vs H=>Hs H i fun es=>es.length<=1000/\WV vs (fun s=>vStr s fun s=>vO (es.lookup s) fun v=>Q v (H.set i (.dict (LW s es))))
  fun s d=>vStr s fun s=>match es.lookup s with
   |some v=>Q v (H.set i (.dict (LW s es)))
   |DE=>Q d H
noncomputable def pU(C:FP)(d:Ai)(n:Ao)(A:AK)(Q:QV):Prop:=
 n=Zu/\vO (C.cdt d) fun es=>A fun vs H=>v2 vs fun s d=>vStr s fun s=>Q ((es.lookup s).getD d) H
noncomputable def pZ(s:Ao)(n:Ao)(A:AK)(Q:QV):Prop:=
 if n=W2 then A fun vs H=>v1 vs fun t=>vStr t fun t=>s.length<=Ap/\Q (.str (Txt.rstripChars s t)) H
 else n=eI/\A fun vs H=>v2 vs fun t k=>vStr t fun t=>vInt k fun k=>Q (.int (Txt.find3 s t k)) H
noncomputable def Yn(C:FP)(x:V)(n:Ao)(H:MH)(A:AK)(Q:QV)(X:EV):Prop:=match x with
 |.ref i=>vO H[i]? fun o=>match o with
  |.inst K fs=>fs.lookup n=DE/\vO (C.meth K n) fun f=>A fun vs H=>C.call C.hd f (.ref i::vs) H Q X
  |.list _=>pY i n A Q
  |.dict _=>pW i n A Q
 |.cd d=>pU C d n A Q
 |.str s=>pZ s n A Q
 |_=>False
noncomputable def Ri(C:FP)(g:V)(vs:List V)(H:MH)(Q:QV)(X:EV):Prop:=match g with
 |.fn a=>C.call C.hd a vs H Q X
 |.meth a i=>C.isFn a=true/\C.call C.hd a (.ref i::vs) H Q X
 |.bi f=>gU C.hd f vs H fun v=>Q v H
 |_=>False
noncomputable def AC(fr:Fr)(i:Nat)(v:V):Fr:=fr.set i (some v)
noncomputable def aH:Fr->List Nat->List V->(Fr->Prop)->Prop
 |fr,[],[],k=>k fr
 |fr,i::is,v::vs,k=>aH (AC fr i v) is vs k
 |_,_,_,_=>False
noncomputable def bH(fr:Fr)(p:Pt)(v:V)(k:Fr->Prop):Prop:=match p with
 |.v i=>k (AC fr i v)
 |.t is=>match v with
  |.tup vs=>aH fr is vs k
  |_=>False
noncomputable def NN:Fr->List Pt->List V->(Fr->Prop)->Prop
 |fr,[],[],k=>k fr
 |fr,p::ps,v::vs,k=>bH fr p v fun fr'=>NN fr' ps vs k
 |_,_,_,_=>False
noncomputable def Tg.pt:Tg->Pt
 |.one i=>.v i
 |.two i j=>.t [i,j]
noncomputable abbrev Kz(fr:Fr)(tg:Tg)(v:V)(k:Fr->Prop):Prop:=bH fr tg.pt v k
noncomputable def I0:Nat->List V->List V
 |_,[]=>[]
 |n,x::xs=>.tup [.int n,x]::I0 (n+1) xs
noncomputable def Mi:List V->List V->List V
 |a::as,b::bs=>.tup [a,b]::Mi as bs
 |_,_=>[]
noncomputable def Gq(n:Nat):List V:=(G9 n).map fun(i:Nat)=>.int (i:Int)
noncomputable def vC(step:V->MH->(Option V->MH->Prop)->Prop):List V->MH->(List V->MH->Prop)->Prop
 |[],H,Q=>Q [] H
 |x::xs,H,Q=>step x H fun r H=>vC step xs H fun rs H=>Q (r.toList++rs) H
noncomputable def Vb(mu:Bool)(xs:List V)(H:MH)(Q:QV):Prop:=match mu with
 |true=>Q (.ref H.length) (H++[.list xs])
 |false=>Q (.lst xs) H
mutual
noncomputable def vE(C:FP):E->Fr->MH->QV->EV->Prop
 |.bad,_,_,_,_=>False
 |.k v,_,H,Q,_=>Q v H
 |.l i,fr,H,Q,_=>vO fr[i]? fun o=>vO o fun v=>Q v H
 |.bin op a b,fr,H,Q,X=>vE C a fr H (fun x H=>vE C b fr H (fun y H=>OJ op x y H fun v=>Q v H) X) X
 |.neg a,fr,H,Q,X=>vE C a fr H (fun x H=>vInt x fun i=>Q (.int (-i)) H) X
 |.not a,fr,H,Q,X=>vE C a fr H (fun x H=>vBool x fun b=>Q (.bool (!b)) H) X
 |.cmp op a b,fr,H,Q,X=>vE C a fr H (fun x H=>vE C b fr H (fun y H=>Qo C op x y H fun v=>Q (.bool v) H) X) X
 |.cmp2 o1 o2 a b c,fr,H,Q,X=>vE C a fr H (fun x H=>vE C b fr H (fun y H=>Qo C o1 x y H fun t=>vB (.bool t) (vE C c fr H (fun z H=>Qo C o2 y z H fun v=>Q (.bool v) H) X) (Q (.bool false) H)) X) X
 |.and a b,fr,H,Q,X=>vE C a fr H (fun x H=>vB x (vE C b fr H Q X) (Q (.bool false) H)) X
 |.or a b,fr,H,Q,X=>vE C a fr H (fun x H=>vB x (Q (.bool true) H) (vE C b fr H Q X)) X
 |.ite t a b,fr,H,Q,X=>vE C t fr H (fun x H=>vB x (vE C a fr H Q X) (vE C b fr H Q X)) X
 |.tup es,fr,H,Q,X=>OL C es fr H (fun vs H=>Q (.tup vs) H) X
 |.lst mu es,fr,H,Q,X=>OL C es fr H (fun vs H=>Vb mu vs H Q) X
 |.dct,_,H,Q,_=>Q (.ref H.length) (H++[.dict []])
 |.rep a n,fr,H,Q,X=>vE C a fr H (fun x H=>vE C n fr H (fun k H=>vInt k fun k=>(0<=k/\k<=Ap)/\Q (.ref H.length) (H++[.list (Bz k.toNat x)])) X) X
 |.call f as,fr,H,Q,X=>vE C f fr H (fun g H=>OL C as fr H (fun vs H=>Ri C g vs H Q X) X) X
 |.attr o n,fr,H,Q,X=>vE C o fr H (fun x H=>UZ C x n H fun v=>Q v H) X
 |.mcall o n as,fr,H,Q,X=>vE C o fr H (fun x H=>Yn C x n H (fun K=>OL C as fr H K X) Q X) X
 |.extend o it,fr,H,Q,X=>vE C o fr H (fun x H=>HL x fun i=>DI H i fun ø=>vI C it fr H (fun ys H=>C.hd=false/\DI H i fun xs=>xs.length+ys.length<=Ap/\Q .none (H.set i (.list (xs++ys)))) X) X
 |.copy mu e,fr,H,Q,X=>vE C e fr H (fun x H=>Yo H x fun ys=>ys.length<=Ap/\Vb mu ys H Q) X
 |.listRev mu e,fr,H,Q,X=>vE C e fr H (fun x H=>C.hd=false/\JV x fun ys=>ys.length<=Ap/\Vb mu ys.reverse H Q) X
 |.idx o i,fr,H,Q,X=>vE C o fr H (fun x H=>vE C i fr H (fun y H=>WX C x y H fun v=>Q v H) X) X
 |.slc o lo hi,fr,H,Q,X=>vE C o fr H (fun x H=>lT C lo fr H (fun a H=>lT C hi fr H (fun b H=>gZ x a b fun v=>Q v H) X) X) X
 |.rev o,fr,H,Q,X=>vE C o fr H (fun x H=>Jw x fun xs=>xs.length<=Ap/\Q (.lst xs.reverse) H) X
 |.comp mu tg it none elt,fr,H,Q,X=>vI C it fr H (fun xs H=>(C.hd=false/\xs.length<=Ap)/\
   vC (fun x H Q=>Kz fr tg x fun fr'=>vE C elt fr' H (fun v H=>Q (some v) H) X) xs H fun rs H=>Vb mu rs H Q) X
 |.comp mu tg it (some t) elt,fr,H,Q,X=>vI C it fr H (fun xs H=>(C.hd=false/\xs.length<=Ap)/\
   vC (fun x H Q=>Kz fr tg x fun fr'=>vE C t fr' H (fun b H=>vB b (vE C elt fr' H (fun v H=>Q (some v) H) X) (Q none H)) X) xs H fun rs H=>Vb mu rs H Q) X
noncomputable def OL(C:FP):List E->Fr->MH->(List V->MH->Prop)->EV->Prop
 |[],_,H,Q,_=>Q [] H
 |e::es,fr,H,Q,X=>vE C e fr H (fun v H=>OL C es fr H (fun vs H=>Q (v::vs) H) X) X
noncomputable def lT(C:FP):Option E->Fr->MH->(Option V->MH->Prop)->EV->Prop
 |none,_,H,Q,_=>Q none H
 |some e,fr,H,Q,X=>vE C e fr H (fun v H=>Q (some v) H) X
noncomputable def vI(C:FP):It->Fr->MH->(List V->MH->Prop)->EV->Prop
 |.it e,fr,H,Q,X=>vE C e fr H (fun v H=>JV v fun xs=>Q xs H) X
 |.rev e,fr,H,Q,X=>vE C e fr H (fun v H=>C.hd=false/\JV v fun xs=>xs.length<=Ap/\Q xs.reverse H) X
 |.zip a b,fr,H,Q,X=>vE C a fr H (fun v H=>vE C b fr H (fun u H=>C.hd=false/\Jw v fun xs=>Jw u fun ys=>Q (Mi xs ys) H) X) X
 |.enum e,fr,H,Q,X=>vE C e fr H (fun v H=>C.hd=false/\JV v fun xs=>Q (I0 0 xs) H) X
 |.range e,fr,H,Q,X=>vE C e fr H (fun v H=>C.hd=false/\vInt v fun k=>(0<=k/\k<=1000)/\Q (Gq k.toNat) H) X
end
noncomputable def HK(step:V->Fr->MH->NV->Prop):List V->Fr->MH->NV->Prop
 |[],fr,H,N=>N fr H
 |x::xs,fr,H,N=>step x fr H fun fr H=>HK step xs fr H N
noncomputable def DQ(test:Fr->MH->QV->Prop)(body:Fr->MH->NV->Prop):Nat->Fr->MH->NV->Prop
 |0,_,_,_=>False
 |n+1,fr,H,N=>test fr H fun b H=>vB b (body fr H fun fr H=>DQ test body n fr H N) (N fr H)
noncomputable def CT:Ao:=⟨#[99,111,100,101]⟩
mutual
noncomputable def vS(C:FP):S->Fr->MH->NV->RT->EV->Prop
 |.bad,_,_,_,_,_=>False
 |.asg i e,fr,H,N,_,X=>vE C e fr H (fun v H=>N (AC fr i v) H) X
 |.asgT is e,fr,H,N,_,X=>vE C e fr H (fun v H=>JV v fun xs=>NN fr is xs fun fr'=>N fr' H) X
 |.asgTT is es,fr,H,N,_,X=>OL C es fr H (fun vs H=>NN fr is vs fun fr'=>N fr' H) X
 |.setA o n e,fr,H,N,_,X=>vE C e fr H (fun v H=>vE C o fr H (fun x H=>HL x fun i=>Ht H i fun K fs=>(C.fld K n=true/\fs.length<=900)/\N fr (H.set i (.inst K (putL n v fs)))) X) X
 |.setI o j e,fr,H,N,_,X=>vE C e fr H (fun v H=>vE C o fr H (fun x H=>vE C j fr H (fun y H=>HL x fun i=>vO H[i]? fun o=>match o with
   |.dict es=>vStr y fun s=>es.length<=1000/\N fr (H.set i (.dict (putL s v es)))
   |.list xs=>vInt y fun k=>(0<=k/\k<xs.length/\xs.length<=Ap)/\N fr (H.set i (.list (xs.set k.toNat v)))
   |_=>False) X) X) X
 |.setS o hi e,fr,H,N,_,X=>vE C e fr H (fun v H=>vE C o fr H (fun x H=>vE C hi fr H (fun y H=>HL x fun i=>vInt y fun k=>Jw v fun ys=>DI H i fun xs=>
   (0<=k/\k<xs.length+1/\xs.length<=1000/\ys.length=k.toNat)/\N fr (H.set i (.list (ys++xs.drop k.toNat)))) X) X) X
 |.aug i op e,fr,H,N,_,X=>vO fr[i]? fun o=>vO o fun x=>vInt x fun a=>vE C e fr H (fun y H=>vInt y fun b=>OJ op (.int a) (.int b) H fun v=>N (AC fr i v) H) X
 |.augA o n op e,fr,H,N,_,X=>vE C o fr H (fun x H=>HL x fun i=>Ht H i fun K fs=>vO (fs.lookup n) fun a=>vInt a fun a=>C.fld K n=true/\
   vE C e fr H (fun y H=>vInt y fun b=>Ht H i fun K fs=>(C.fld K n=true/\fs.length<=900)/\OJ op (.int a) (.int b) H fun v=>N fr (H.set i (.inst K (putL n v fs)))) X) X
 |.ite t a b,fr,H,N,R,X=>vE C t fr H (fun x H=>vB x (AV C a fr H N R X) (AV C b fr H N R X)) X
 |.for_ tg it body,fr,H,N,R,X=>vI C it fr H (fun xs H=>HK (fun x fr H N=>Kz fr tg x fun fr'=>AV C body fr' H N R X) xs fr H N) X
 |.while_ t body,fr,H,N,R,X=>DQ (fun fr H Q=>vE C t fr H Q X) (fun fr H N=>AV C body fr H N R X) C.fuel fr H N
 |.ret e,fr,H,_,R,X=>vE C e fr H (fun v H=>R v fr H) X
 |.raise as,fr,H,_,_,X=>OL C as fr H (fun vs H=>C.hd=false/\WV vs (fun c=>vStr c fun c=>X c H) fun c ø=>vStr c fun c=>X c H) X
 |.expr e,fr,H,N,_,X=>vE C e fr H (fun ø H=>N fr H) X
 |.fin body final,fr,H,N,R,X=>AV C body fr H (fun fr H=>AV C final fr H N (fun ø ø ø=>False) X) (fun v fr H=>AV C final fr H (fun fr H=>R v fr H) (fun ø ø ø=>False) X)
   (fun c H=>AV {C with hd:=true} final fr H (fun ø H=>X c H) (fun ø ø ø=>False) (fun ø ø=>False))
 |.try_ body,fr,H,N,R,X=>C.hd=false/\AV C body fr H N R (fun c H=>R (.str c) [] H)
noncomputable def AV(C:FP):List S->Fr->MH->NV->RT->EV->Prop
 |[],fr,H,N,_,_=>N fr H
 |s::ss,fr,H,N,R,X=>vS C s fr H (fun fr H=>AV C ss fr H N R X) R X
end
structure Fn where
 np:Nat
 dfl:List V
 ns:Nat
 body:List S
 pure:Bool
set_option genCtorIdx true in
inductive Yq where
 |fn (f:Fn)
 |cls (init:Ai) (np:Nat)
noncomputable def Fh(ns:Nat)(vs:List V):Fr:=vs.map some++Bz (ns-vs.length) DE
noncomputable def Br(H:MH):V->V
 |.ref i=>match H[i]? with
  |some (.list xs)=>.lst xs
  |_=>.ref i
 |v=>v
noncomputable def WW(C:FP)(f:Fn)(vs:List V)(H:MH)(Q:QV)(X:EV):Prop:=match f.pure with
 |true=>V.nrs vs=true/\AV C f.body (Fh f.ns vs) [] (fun ø ø=>Q .none H) (fun v ø H'=>V.nr (Br H' v)=true/\Q (Br H' v) H) (fun c ø=>X c H)
 |false=>AV C f.body (Fh f.ns vs) H (fun ø H'=>Q .none H') (fun v ø H'=>Q v H') X
noncomputable def iX(C:FP)(f:Fn)(vs:List V)(H:MH)(Q:QV)(X:EV):Prop:=
 vs.length+f.dfl.length=f.np/\WW C f (vs++f.dfl) H Q X
structure VE where
 glo:Ai->Option Yq
 meth:Ai->Ao->Option Ai
 fld:Ai->Ao->Bool
 cdt:Ai->Option (List (Ao×V))
 fuel:Nat
noncomputable def VE.isFn(T:VE)(a:Ai):Bool:=match T.glo a with
 |some (.fn _)=>true
 |_=>false
noncomputable def OK(T:VE):Nat->Bool->Ai->List V->MH->QV->EV->Prop
 |0,_,_,_,_,_,_=>False
 |n+1,hd,a,vs,H,Q,X=>vO (T.glo a) fun g=>match g with
  |.fn f=>iX ⟨OK T n,T.meth,T.fld,T.isFn,T.cdt,hd,T.fuel⟩ f vs H Q X
  |.cls init _=>OK T n hd init (.ref H.length::vs) (H++[.inst a []]) (fun v H'=>v=.none/\Q (.ref H.length) H') X
end
section
open PySem PySem.W PyProof.Rows PySem.Calls PySem.SeqAt PySem.Spec
noncomputable abbrev CE:Ai:=89
noncomputable abbrev Ey:=Ai->Df->Prop
noncomputable abbrev Ce:=List (Ai×Ai)
noncomputable def mu(ρ:Ce)(b:Ai):Prop:=∃p∈ρ,b=p.1\/b=p.2
structure Na where
 l:List Ai
 ex:List Ai
noncomputable def Kn(na:Na)(h:Ah)(ρ:Ce):Ey:=fun a o=>h.get? a=some o/\¬mu ρ a/\a∉na.l
noncomputable def Ep(vs:Array Ab):Df:={cls:=.type "tuple",data:=.seq vs}
noncomputable def Cg(o:Df):Prop:=(∃vs,o=Ep vs)\/(o.cls=.type "list"/\∃vs n,o.data=.seq vs n)\/(o.cls=.type "method"/\∃fs,o.data=.fields fs)
theorem Cg.tup(d:Cg o)(h:o.cls=.type "tuple"):∃vs,o=Ep vs:=by
 rcases d with d | d | d
 ·exact d
 ·have:=d.1;rw[h] at this;simp at this
 ·have:=d.1;rw[h] at this;simp at this
theorem Cg.noCell(d:Cg o)(h:o.data=.cell v):False:=by
 rcases d with⟨vs,rfl⟩ | ⟨_,vs,n,d⟩ | ⟨_,fs,d⟩
 ·cases h
 ·replace d:=h▸d;cases d
 ·rw[h] at d;cases d
structure Kd (na:Na)(h:Ah)(ρ:Ce)(a:Ai)(o:Df):Prop where
 kn:Kn na h ρ a o
 dat:Cg o
 nex:a∉na.ex
mutual
inductive VR (P:Ey)(ρ:Ce):V->Ab->Prop
 |none:VR P ρ .none .none
 |bool (b):VR P ρ (.bool b) (.bool b)
 |int (i t):VR P ρ (.int i) (.int i t)
 |str (s t):VR P ρ (.str s) (.str s t)
 |tup {xs a o vs n}:P a o->o.cls=.type "tuple"->o.data=.seq vs n->B8 P ρ xs vs.toList->VR P ρ (.tup xs) (.ref a)
 |lst {xs a o vs n}:P a o->o.cls=.type "list"->o.data=.seq vs n->B8 P ρ xs vs.toList->VR P ρ (.lst xs) (.ref a)
 |ref {i p}:ρ[i]?=some p->VR P ρ (.ref i) (.ref p.1)
 |fn (a):VR P ρ (.fn a) (.ref a)
 |bi (b):VR P ρ (.bi b) b.val
 |cd (a):VR P ρ (.cd a) (.ref a)
 |meth {q f i p}:P q (methodObj (.ref f) (.ref p.1))->ρ[i]?=some p->VR P ρ (.meth f i) (.ref q)
inductive B8 (P:Ey)(ρ:Ce):List V->List Ab->Prop
 |nil:B8 P ρ [] []
 |cons {x v xs vs}:VR P ρ x v->B8 P ρ xs vs->B8 P ρ (x::xs) (v::vs)
end
theorem VR.fn_eq(h:VR P ρ (.fn a) u):u=.ref a:=by cases h;rfl
noncomputable def E0(ρ ρ':Ce):Prop:=∀(i:Nat) (p:Ai×Ai),ρ[i]?=some p->ρ'[i]?=some p
theorem E0.refl(ρ:Ce):E0 ρ ρ:=fun ø ø e=>e
theorem E0.trans{a b c:Ce}(x:E0 a b)(y:E0 b c):E0 a c:=fun i p e=>y i p (x i p e)
theorem E0.app(ρ:Ce)(l:Ce):E0 ρ (ρ++l):=fun i p e=>by
 exact Aj (A9 (Aw.mp e).1) e
theorem E0.mu{ρ ρ':Ce}(x:E0 ρ ρ'){b:Ai}(m:mu ρ b):mu ρ' b:=by
 refine AO m fun p hp q=>?_
 obtain⟨i,hi⟩:=Dy hp
 exact Bn p (A2 (x i p hi)) q
theorem VR.mono(hP:∀a o,P a o->P' a o)(hρ:E0 ρ ρ')(h:VR P ρ x v):VR P' ρ' x v:=
 h.rec (motive_1:=fun x v ø=>VR P' ρ' x v) (motive_2:=fun xs vs ø=>B8 P' ρ' xs vs) .none .bool .int .str (fun a b c ø d=>.tup (hP _ _ a) b c d) (fun a b c ø d=>.lst (hP _ _ a) b c d) (fun e=>.ref (hρ _ _ e)) .fn .bi .cd (fun a b=>.meth (hP _ _ a) (hρ _ _ b)) .nil fun ø ø a b=>.cons a b
theorem B8.mono(hP:∀a o,P a o->P' a o)(hρ:E0 ρ ρ')(h:B8 P ρ x v):B8 P' ρ' x v:=
 h.rec (motive_1:=fun x v ø=>VR P' ρ' x v) (motive_2:=fun xs vs ø=>B8 P' ρ' xs vs) .none .bool .int .str (fun a b c ø d=>.tup (hP _ _ a) b c d) (fun a b c ø d=>.lst (hP _ _ a) b c d) (fun e=>.ref (hρ _ _ e)) .fn .bi .cd (fun a b=>.meth (hP _ _ a) (hρ _ _ b)) .nil fun ø ø a b=>.cons a b
inductive DR (w:Cc)(P:Ey)(ρ:Ce):List (Ao×V)->List BK->Prop
 |nil:DR w P ρ [] []
 |cons {k t x v es ds}:VR P ρ x v->DR w P ρ es ds->DR w P ρ ((k,x)::es) (⟨BJ w.params k,.str k t,v⟩::ds)
theorem DR.mono(hP:∀a o,P a o->P' a o)(hρ:E0 ρ ρ')(d:DR w P ρ es ds):DR w P' ρ' es ds:=by
 induction d with
 |nil=>exact .nil
 |cons a _ ih=>exact .cons (a.mono hP hρ) ih
noncomputable def OR(w:Cc)(na:Na)(h:Ah)(ρ:Ce)(p:Ai×Ai):De->Prop
 |.list xs=>p.2=p.1/\∃vs,h.PlainList p.1 vs/\B8 (Kd na h ρ) ρ xs vs.toList
 |.dict es=>(p.2=p.1/\(p.1==Dl)=false)/\(es.map (·.1)).Nodup/\∃ds n,h.get? p.1=some (Db ds n)/\DR w (Kd na h ρ) ρ es ds
 |.inst C fs=>p.1≠p.2/\h.get? p.1=some (instObj C p.2)/\(fs.map (·.1)).Nodup/\∃ds n,h.get? p.2=some (Db ds n)/\DR w (Kd na h ρ) ρ fs ds
structure HR (w:Cc)(hb:Ah)(na:Na)(h:Ah)(ρ:Ce)(H:MH):Prop where
 len:ρ.length=H.length
 rep:∀(i:Nat) (p:Ai×Ai) (o:De),ρ[i]?=some p->H[i]?=some o->OR w na h ρ p o
 sep:∀(i j:Nat) (p q:Ai×Ai),ρ[i]?=some p->ρ[j]?=some q->i≠j->p.1≠q.1/\p.1≠q.2/\p.2≠q.1/\p.2≠q.2
 new:∀a,mu ρ a->hb.get? a=none
 nam:∀a∈na.l,hb.get? a=none/\¬mu ρ a/\∃m,h.Ns a m
 old:∀a o,hb.get? a=some o->h.get? a=some o
 exl:∀a∈na.ex,hb.get? a=none/\∃o,Kn na h ρ a o/\Cg o
structure Ek (na:Na)(h:Ah)(ρ:Ce)(h':Ah)(ρ':Ce):Prop where
 le:E0 ρ ρ'
 kn:∀a o,Kn na h ρ a o->Kn na h' ρ' a o
 ns:∀a∈na.l,∀m,h.Ns a m->h'.Ns a m
theorem Ek.refl(na:Na)(h:Ah)(ρ:Ce):Ek na h ρ h ρ:=⟨.refl _,fun ø ø e=>e,fun ø ø ø e=>e⟩
theorem Ek.trans{na:Na}{h h' h'':Ah}{ρ ρ' ρ'':Ce}(x:Ek na h ρ h' ρ')(y:Ek na h' ρ' h'' ρ''):Ek na h ρ h'' ρ'':=
 ⟨x.le.trans y.le,fun a o e=>y.kn a o (x.kn a o e),fun a m k e=>y.ns a m k (x.ns a m k e)⟩
theorem Ek.kd(x:Ek na h ρ h' ρ'):∀a o,Kd na h ρ a o->Kd na h' ρ' a o:=fun a o e=>⟨x.kn a o e.1,e.2,e.3⟩
theorem Ek.vr(x:Ek na h ρ h' ρ')(r:VR (Kd na h ρ) ρ v u):VR (Kd na h' ρ') ρ' v u:=r.mono x.kd x.le
theorem Ek.vrs(x:Ek na h ρ h' ρ')(r:B8 (Kd na h ρ) ρ v u):B8 (Kd na h' ρ') ρ' v u:=r.mono x.kd x.le
noncomputable def CO(s s':Ae):Prop:=s'.gens=s.gens/\s'.os=s.os
theorem CO.refl(s:Ae):CO s s:=⟨rfl,rfl⟩
theorem CO.trans{s s' s'':Ae}(x:CO s s')(y:CO s' s''):CO s s'':=⟨y.1.trans x.1,y.2.trans x.2⟩
theorem B8.ind{P:Ey}{ρ:Ce}{M:List V->List Ab->Prop}(n:M [] [])(c:∀{x v xs vs},VR P ρ x v->B8 P ρ xs vs->M xs vs->M (x::xs) (v::vs)){xs:List V}{vs:List Ab}(h:B8 P ρ xs vs):M xs vs:=
 h.rec (motive_1:=fun ø ø ø=>True) (motive_2:=fun xs vs ø=>M xs vs) trivial (fun ø=>trivial) (fun ø ø=>trivial) (fun ø ø=>trivial) (fun ø ø ø ø ø=>trivial) (fun ø ø ø ø ø=>trivial) (fun ø=>trivial) (fun ø=>trivial) (fun ø=>trivial) (fun ø=>trivial) (fun ø ø=>trivial) n fun a b ø m=>c a b m
section
variable {P:Ey}{ρ:Ce}{xs ys:List V}{vs us:List Ab}{x:V}{v:Ab}
theorem B8.length(h:B8 P ρ xs vs):vs.length=xs.length:=h.ind (M:=fun xs vs=>vs.length=xs.length) rfl fun ø ø m=>congrArg (·+1) m
theorem B8.get(h:B8 P ρ xs vs):∀{i:Nat} {x:V},xs[i]?=some x->∃v,vs[i]?=some v/\VR P ρ x v:=
 h.ind (M:=fun xs vs=>∀{i:Nat} {x:V},xs[i]?=some x->∃v,vs[i]?=some v/\VR P ρ x v) (fun e=>nomatch e) fun {_ v _ _} a _ m {i _}=>i.casesOn (fun e=>Bn v rfl (Ad e▸a)) fun ø e=>m e
theorem B8.app(h:B8 P ρ xs vs)(k:B8 P ρ ys us):B8 P ρ (xs++ys) (vs++us):=h.ind (M:=fun xs vs=>B8 P ρ (xs++ys) (vs++us)) k fun a ø m=>.cons a m
theorem B8.take(h:B8 P ρ xs vs):∀n:Nat,B8 P ρ (xs.take n) (vs.take n):=
 h.ind (M:=fun xs vs=>∀n:Nat,B8 P ρ (xs.take n) (vs.take n)) (fun n=>n.casesOn .nil fun ø=>.nil) fun a ø m n=>n.casesOn .nil fun n=>.cons a (m n)
theorem B8.drop(h:B8 P ρ xs vs):∀n:Nat,B8 P ρ (xs.drop n) (vs.drop n):=
 h.ind (M:=fun xs vs=>∀n:Nat,B8 P ρ (xs.drop n) (vs.drop n)) (fun n=>n.casesOn .nil fun ø=>.nil) fun a b m n=>n.casesOn (.cons a b) m
theorem B8.rev(h:B8 P ρ xs vs):B8 P ρ xs.reverse vs.reverse:=h.ind (M:=fun xs vs=>B8 P ρ xs.reverse vs.reverse) .nil fun a ø m=>by
 refine Aj DX (Aj DX ?_)
 exact m.app (.cons a .nil)
theorem B8.set(h:B8 P ρ xs vs)(r:VR P ρ x v):∀n:Nat,B8 P ρ (xs.set n x) (vs.set n v):=
 h.ind (M:=fun xs vs=>∀n:Nat,B8 P ρ (xs.set n x) (vs.set n v)) (fun ø=>.nil) fun a b m n=>n.casesOn (.cons r b) fun n=>.cons a (m n)
theorem B8.rep(r:VR P ρ x v)(n:Nat):B8 P ρ (Bz n x) (Bz n v):=n.rec .nil fun ø m=>.cons r m
end
theorem TT(k:∀b o,b∉na.l->h.get? b=some o->h'.get? b=some o):∀a o,Kn na h ρ a o->Kn na h' ρ a o:=fun a o e=>⟨k a o e.2.2 e.1,e.2⟩
theorem Ek.of(k:∀b o,b∉na.l->h.get? b=some o->h'.get? b=some o)(ns:∀a∈na.l,∀m,h.Ns a m->h'.Ns a m):Ek na h ρ h' ρ:=⟨.refl _,TT k,ns⟩
theorem Ek.all(k:∀b o,h.get? b=some o->h'.get? b=some o):Ek na h ρ h' ρ:=.of (fun b o ø=>k b o) fun ø ø ø n=>n.keeps k
theorem OR.keeps{w:Cc}{na:Na}{h h':Ah}{ρ ρ':Ce}{p:Ai×Ai}{o:De}(x:OR w na h ρ p o)(k:∀a o,Kd na h ρ a o->Kd na h' ρ' a o)(le:E0 ρ ρ')(k1:∀o,h.get? p.1=some o->h'.get? p.1=some o)(k2:∀o,h.get? p.2=some o->h'.get? p.2=some o):
  OR w na h' ρ' p o:=by
 induction o with
 |list xs=>obtain⟨e,vs,a,b⟩:=x;exact⟨e,vs,a.at fun o=>k1 o,b.mono k le⟩
 |dict es=>obtain⟨e,nd,ds,n,a,b⟩:=x;exact⟨e,nd,ds,n,k1 _ a,b.mono k le⟩
 |inst C fs=>obtain⟨ne,a,nd,ds,n,c,b⟩:=x;exact⟨ne,k1 _ a,nd,ds,n,k2 _ c,b.mono k le⟩
theorem OR.there(x:OR w na h ρ p o):(∃o,h.get? p.1=some o)/\∃o,h.get? p.2=some o:=by
 induction o with
 |list xs=>obtain⟨e,vs,⟨n,a⟩,_⟩:=x;exact Aj e ⟨⟨_,a⟩,⟨_,a⟩⟩
 |dict es=>obtain⟨⟨e,_⟩,_,ds,n,a,_⟩:=x;exact Aj e ⟨⟨_,a⟩,⟨_,a⟩⟩
 |inst C fs=>obtain⟨_,a,_,ds,n,c,_⟩:=x;exact⟨⟨_,a⟩,⟨_,c⟩⟩
section
variable {w:Cc}{hb:Ah}{na:Na}{h h':Ah}{ρ ρ':Ce}{H H':MH}
theorem HR.mu_there(R:HR w hb na h ρ H){a:Ai}(m:mu ρ a):∃o,h.get? a=some o:=by
 refine AO m fun p hp q=>?_
 obtain⟨i,hi⟩:=Dy hp
 have hl:i<H.length:=D5 R.len ((Aw.mp hi).1)
 have:=(R.rep i p _ hi (AX hl)).there
 rcases q with rfl | rfl
 ·exact this.1
 ·exact this.2
theorem HR.fresh(R:HR w hb na h ρ H)(e:h.get? a=none):¬mu ρ a:=fun m=>by
 obtain⟨o,ho⟩:=R.mu_there m
 replace ho:=e▸ho;cases ho
theorem HR.fresh_na(R:HR w hb na h ρ H){a:Ai}(e:h.get? a=none):a∉na.l:=fun m=>by
 refine Gj (R.nam a m) fun ø ø zz1=>cN zz1 fun ø o ø ø ho ø=>?_
 replace ho:=e▸ho;exact nomatch ho
theorem HR.fresh_ex(R:HR w hb na h ρ H)(e:h.get? a=none):a∉na.ex:=fun m=>by
 refine Cd (R.exl a m) fun ø zz1=>AO zz1 fun o x ø=>?_
 replace e:=x.1▸e;cases e
theorem HR.fresh_hb(R:HR w hb na h ρ H){a:Ai}(e:h.get? a=none):hb.get? a=none:=by
 cases q:hb.get? a with
 |none=>rfl
 |some o=>replace e:=R.old a o q▸e;exact nomatch e
theorem AG(h:Ah):h.get? h.objs.size=none:=by
 cases q:h.get? h.objs.size with
 |none=>rfl
 |some o=>exact absurd (AB q) (EH _)
theorem HR.keeps(R:HR w hb na h ρ H)(k:∀b o,b∉na.l->h.get? b=some o->h'.get? b=some o)(ns:∀a∈na.l,∀m,h.Ns a m->h'.Ns a m):HR w hb na h' ρ H where
 len:=R.len
 rep:=fun i p o e1 e2=>by
  have hm:∀b,b=p.1\/b=p.2->b∉na.l:=fun b hb hn=>(R.nam b hn).2.1 (Bn p (A2 e1) hb)
  exact(R.rep i p o e1 e2).keeps (fun a o e=>⟨⟨k a o e.1.2.2 e.1.1,e.1.2⟩,e.2,e.3⟩) (.refl _) (fun o=>k _ o (hm _ (.inl rfl))) (fun o=>k _ o (hm _ (.inr rfl)))
 sep:=R.sep
 new:=R.new
 nam:=fun a ha=>⟨(R.nam a ha).1,(R.nam a ha).2.1,Eb ((R.nam a ha).2.2) fun m x=>⟨m,ns a ha m x⟩⟩
 old:=fun a o e=>k a o (fun hn=>by replace e:=(R.nam a hn).1▸e;exact nomatch e) (R.old a o e)
 exl:=fun a ha=>⟨(R.exl a ha).1,AO ((R.exl a ha).2) fun o x d=>(Bn o ⟨k a o x.2.2 x.1,x.2⟩ d)⟩
theorem Rx{α:Type}{l:List α}{a q:α}{i:Nat}(e:(l++[a])[i]?=some q):(i<l.length/\l[i]?=some q)\/(i=l.length/\q=a):=by
 rcases Nat.lt_trichotomy i l.length with hi | hi | hi
 ·exact .inl ⟨hi,(A9 hi).symm.trans e⟩
 ·refine .inr ⟨hi,?_⟩
  rw[hi,LC] at e
  exact(Ad e).symm
 ·rw[GV (by rw[Ak];exact hi)] at e
  exact nomatch e
theorem HR.push(R:HR w hb na h ρ H){p:Ai×Ai}{o:De}(k:∀b o,b∉na.l->h.get? b=some o->h'.get? b=some o)(ns:∀a∈na.l,∀m,h.Ns a m->h'.Ns a m)
  (f1:h.get? p.1=none) (f2:h.get? p.2=none) (r:OR w na h' (ρ++[p]) p o):HR w hb na h' (ρ++[p]) (H++[o])/\Ek na h ρ h' (ρ++[p])/\(ρ++[p])[H.length]?=some p:=by
 have nf:∀a,mu (ρ++[p]) a->mu ρ a\/a=p.1\/a=p.2:=fun a zz=>AO zz fun q hq e=>by
  rcases AJ.mp hq with hq | hq
  ·exact .inl (Bn q hq e)
  ·rw[An.mp hq] at e;exact .inr e
 have kn:∀a o,Kn na h ρ a o->Kn na h' (ρ++[p]) a o:=fun a o e=>by
  refine⟨k a o e.2.2 e.1,fun m=>?_,e.2.2⟩
  have hx:∀b,h.get? b=none->a≠b:=fun b z q=>by rw[<-q,e.1] at z;exact nomatch z
  exact(nf a m).elim e.2.1 fun z=>z.elim (hx _ f1) (hx _ f2)
 have at_:(ρ++[p])[H.length]?=some p:=by rw[<-R.len];simp
 refine⟨⟨by simp[R.len],fun i q o' e1 e2=>?_,fun i j q q' e1 e2 ne=>?_,fun a m=>?_,fun a ha=>?_,fun a o e=>?_,fun a ha=>⟨(R.exl a ha).1,(R.exl a ha).2.imp fun o=>Ed (kn a o)⟩⟩,⟨.app _ _,kn,ns⟩,at_⟩
 ·rcases Rx e1 with⟨hi,e1⟩ | ⟨hi,hq⟩
  ·have e2:=(A9 (D5 R.len hi)).symm.trans e2
   have hm:∀b,b=q.1\/b=q.2->b∉na.l:=fun b hb hn=>(R.nam b hn).2.1 (Bn q (A2 e1) hb)
   exact(R.rep i q o' e1 e2).keeps (fun a o e=>⟨kn a o e.1,e.2,e.3⟩) (.app _ _) (fun o=>k _ o (hm _ (.inl rfl))) (fun o=>k _ o (hm _ (.inr rfl)))
  ·rcases Rx e2 with⟨hj,_⟩ | ⟨_,ho⟩
   ·exact absurd hj (Fv.mpr (CZ (R.len.symm.trans hi.symm)))
   ·exact Aj hq (Aj ho r)
 ·have key:∀i q,(ρ++[p])[i]?=some q->(ρ[i]?=some q/\(∃o,h.get? q.1=some o)/\∃o,h.get? q.2=some o)\/(i=ρ.length/\q=p):=fun i q e=>(Rx e).imp_left fun z=>⟨z.2,R.mu_there ⟨q,A2 z.2,.inl rfl⟩,R.mu_there ⟨q,A2 z.2,.inr rfl⟩⟩
  have hne:∀a b,(∃o,h.get? a=some o)->h.get? b=none->a≠b:=fun a b zz y z=>Eb zz fun o x=>by rw[z,y] at x;exact nomatch x
  exact(key i q e1).elim (fun a=>(key j q' e2).elim (fun b=>R.sep i j q q' a.1 b.1 ne) fun b=>Aj b.2 ⟨hne _ _ a.2.1 f1,hne _ _ a.2.1 f2,hne _ _ a.2.2 f1,hne _ _ a.2.2 f2⟩) fun a=>(key j q' e2).elim (fun b=>Aj a.2 ⟨(hne _ _ b.2.1 f1).symm,(hne _ _ b.2.2 f1).symm,(hne _ _ b.2.1 f2).symm,(hne _ _ b.2.2 f2).symm⟩) fun b=>absurd (a.1.trans b.1.symm) ne
 ·exact(nf a m).elim (R.new a) fun z=>z.elim (fun z=>z▸R.fresh_hb f1) fun z=>z▸R.fresh_hb f2
 ·refine⟨(R.nam a ha).1,fun m=>?_,(R.nam a ha).2.2.imp fun m x=>ns a ha m x⟩
  exact(nf a m).elim (R.nam a ha).2.1 fun z=>z.elim (fun z=>R.fresh_na f1 (z▸ha)) fun z=>R.fresh_na f2 (z▸ha)
 ·exact k a o (fun hn=>by rw[(R.nam a hn).1] at e;exact nomatch e) (R.old a o e)
theorem HR.upd(R:HR w hb na h ρ H)(hp:ρ[i]?=some p)(k:∀b x,b≠p.1->b≠p.2->b∉na.l->h.get? b=some x->h'.get? b=some x)(ns:∀a∈na.l,∀m,h.Ns a m->h'.Ns a m)
  (r:(∀a x,Kd na h ρ a x->Kd na h' ρ a x)->OR w na h' ρ p o):HR w hb na h' ρ (H.set i o)/\Ek na h ρ h' ρ:=by
 have hmp:∀b,b=p.1\/b=p.2->mu ρ b:=fun b hb=>Bn p (A2 hp) hb
 have kn:∀a x,Kn na h ρ a x->Kn na h' ρ a x:=fun a x e=>⟨k a x (fun q=>e.2.1 (hmp a (.inl q))) (fun q=>e.2.1 (hmp a (.inr q))) e.2.2 e.1,e.2⟩
 have kd:∀a x,Kd na h ρ a x->Kd na h' ρ a x:=fun a x e=>⟨kn a x e.1,e.2,e.3⟩
 refine⟨⟨by simp[R.len],fun j q o' e1 e2=>?_,R.sep,R.new,fun a ha=>?_,fun a x e=>?_,fun a ha=>⟨(R.exl a ha).1,AO ((R.exl a ha).2) fun o x d=>⟨o,kn a o x,d⟩⟩⟩,⟨.refl _,kn,ns⟩⟩
 ·by_cases hij:i=j
  ·subst hij
   replace e1:=hp▸e1;refine D5 (Ad e1) ?_
   have hl:i<H.length:=D5 R.len ((Aw.mp hp).1)
   replace e2:=Ck hl▸e2;refine D5 (Ad e2) ?_
   exact r kd
  ·rw[EG hij] at e2
   have sp:=R.sep i j p q hp e1 hij
   have hm:∀b,b=q.1\/b=q.2->b∉na.l:=fun b hb hn=>(R.nam b hn).2.1 (Bn q (A2 e1) hb)
   exact(R.rep j q o' e1 e2).keeps kd (.refl _) (fun x=>k _ x sp.1.symm sp.2.2.1.symm (hm _ (.inl rfl))) (fun x=>k _ x sp.2.1.symm sp.2.2.2.symm (hm _ (.inr rfl)))
 ·exact⟨(R.nam a ha).1,(R.nam a ha).2.1,(R.nam a ha).2.2.imp fun m=>ns a ha m⟩
 ·have hn:∀b,b=p.1\/b=p.2->a≠b:=fun b hb q=>by replace e:=R.new b (hmp b hb)▸(q▸e);exact nomatch e
  exact k a x (hn _ (.inl rfl)) (hn _ (.inr rfl)) (fun hn=>by replace e:=(R.nam a hn).1▸e;exact nomatch e) (R.old a x e)
theorem HR.kn_hb(R:HR w hb na h ρ H)(e:hb.get? a=some o):Kn na h ρ a o:=
 ⟨R.old a o e,(fun m=>by replace e:=R.new a m▸e;cases e),(fun m=>by replace e:=(R.nam a m).1▸e;cases e)⟩
theorem HR.kd_hb(R:HR w hb na h ρ H)(e:hb.get? a=some o)(d:Cg o):Kd na h ρ a o:=
 ⟨R.kn_hb e,d,fun m=>by replace e:=(R.exl a m).1▸e;exact nomatch e⟩
end
structure Xk where
 l:List (Ao×Nat)
 fixed:Bool
structure Ct where
 A:Bt
 fs:List Env
 na:Na
 env:Env
 L:Ai
 cx:Xk
structure Ct0 (n:Nat)(ct:Ct):Prop where
 frames:ct.A.frames=some ct.fs
 fna:∀e∈ct.fs,e.scope.kind≠.module/\∃a∈ct.na.l,e.frame=some a
 depth:ct.A.depth+3*n<990
 units:ct.A.units+30*n+200<cLine
structure GS (n:Nat)(ct:Ct):Prop extends Ct0 n ct where
 head:∃fe outer,ct.fs=fe::outer/\fe.frame=some ct.L
 envf:ct.env.frame=some ct.L
 loc:ct.env.locals∈ct.na.l
 glob:ct.env.globals=Em
 blt:ct.env.builtins=builtinsNs
 kind:ct.env.scope.kind=.function
structure Vw (h₀ h:Ah)(na:Na)(ρ:Ce)(a:Ai)(o:Df):Prop where
 at_:h.get? a=some o
 new:h₀.get? a=none
 na_:a∉na.l
 mu_:¬mu ρ a
noncomputable def jN(h₀ h:Ah)(na:Na)(ρ:Ce)(e:Ai)(vs:Array Ab):Option Ab->Prop
 |none=>vs[1]?=some .none
 |some f=>∃T oT ts,Vw h₀ h na ρ T oT/\vs[1]?=some (.ref T)/\oT.cls=.type "traceback"/\oT.data=.fields ts/\ts[3]?=some f/\T≠e
structure jB (c:Ao)(oe:Df)(vs:Array Ab)(dx:Ai)(od:Df):Prop where
 cls:oe.cls=.ref CE
 dict:oe.dict=some dx
 data:oe.data=.fields vs
 ctx:vs[2]?=some .none
 dd:∃es n,od.data=.dict es n
 look:∃t,lookIn CT od=some (some (.str c t))
noncomputable def Ex(h₀ h:Ah)(na:Na)(ρ:Ce)(e:Ai)(c:Ao)(fl:Option Ab):Prop:=
 ∃oe vs dx od,Vw h₀ h na ρ e oe/\Vw h₀ h na ρ dx od/\jB c oe vs dx od/\jN h₀ h na ρ e vs fl
theorem Ex.map(x:Ex h₀ h na ρ e c fl)(k:∀a o,(∀ov,o.data≠.cell ov)->Vw h₀ h na ρ a o->Vw h₀' h' na' ρ' a o):Ex h₀' h' na' ρ' e c fl:=
 aW x fun oe vs dx od xe xd xi tb=>
 ⟨oe,vs,dx,od,k _ _ (fun ov q=>nomatch xi.data.symm.trans q) xe,k _ _ (fun ov q=>Oe xi.dd fun ø ø d=>nomatch d.symm.trans q) xd,xi,by
  clear x;induction fl with
  |none=>exact tb
  |some f=>exact kB tb fun T oT ts xt t1 t2 t3 t4 t5=>oV T oT ts (k _ _ (fun ov q=>nomatch t3.symm.trans q) xt) t1 t2 t3 t4 t5⟩
structure EE (na:Na)(bad:List Ai)(h h':Ah):Prop where
 keep:∀b o,b∉na.l->b∉bad->h.get? b=some o->h'.get? b=some o
 ns:∀a∈na.l,∀m,h.Ns a m->h'.Ns a m
theorem Uk{h h':Ah}{a:Ai}{m:Ao->Option Ab}(k:∀o,h.get? a=some o->∃sl,h'.get? a=some {o with slots:=sl})(n:h.Ns a m):h'.Ns a m:=by
 refine Kk n fun o es ep ho hd r=>?_
 obtain⟨sl,e⟩:=k o ho
 exact RO _ es ep e hd r
section
variable {w:Cc}{hb:Ah}{na:Na}{h₀ h h':Ah}{ρ₀ ρ:Ce}{H:MH}{bad:List Ai}
theorem EE.hr(X:EE na bad h h')(R:HR w hb na h ρ H)(hbad:∀b∈bad,¬mu ρ b/\hb.get? b=none/\∀o,h.get? b=some o->¬Cg o):HR w hb na h' ρ H where
 len:=R.len
 rep:=fun i p o e1 e2=>by
  have hm:∀b,b=p.1\/b=p.2->b∉na.l/\b∉bad:=fun b q=>⟨fun hn=>(R.nam b hn).2.1 ⟨p,A2 e1,q⟩,fun hn=>(hbad b hn).1 ⟨p,A2 e1,q⟩⟩
  exact(R.rep i p o e1 e2).keeps (fun a o e=>⟨⟨X.keep a o e.1.2.2 (fun q=>(hbad a q).2.2 o e.1.1 e.2) e.1.1,e.1.2⟩,e.2,e.3⟩) (.refl _) (fun o=>X.keep _ o (hm _ (.inl rfl)).1 (hm _ (.inl rfl)).2) (fun o=>X.keep _ o (hm _ (.inr rfl)).1 (hm _ (.inr rfl)).2)
 sep:=R.sep
 new:=R.new
 nam:=fun a ha=>⟨(R.nam a ha).1,(R.nam a ha).2.1,Eb ((R.nam a ha).2.2) fun m x=>⟨m,X.ns a ha m x⟩⟩
 old:=fun a o e=>X.keep a o (fun hn=>by replace e:=(R.nam a hn).1▸e;cases e) (fun hn=>by replace e:=(hbad a hn).2.1▸e;cases e) (R.old a o e)
 exl:=fun a ha=>⟨(R.exl a ha).1,AO ((R.exl a ha).2) fun o x d=>(Bn o ⟨X.keep a o x.2.2 (fun q=>(hbad a q).2.2 o x.1 d) x.1,x.2⟩ d)⟩
theorem EE.stp(X:EE na bad h h')(S:Ek na h₀ ρ₀ h ρ)(hbad:∀b∈bad,h₀.get? b=none):Ek na h₀ ρ₀ h' ρ where
 le:=S.le
 kn:=fun a o e=>by
  have z:=S.kn a o e
  exact⟨X.keep a o z.2.2 (fun q=>by have:=e.1;replace this:=hbad a q▸this;exact nomatch this) z.1,z.2⟩
 ns:=fun a ha m n=>X.ns a ha m (S.ns a ha m n)
theorem EE.trans(X:EE na bad h h')(Y:EE na bad h' h''):EE na bad h h'':=
 ⟨fun b o n1 n2 e=>Y.keep b o n1 n2 (X.keep b o n1 n2 e),fun a ha m n=>Y.ns a ha m (X.ns a ha m n)⟩
theorem EE.mono(X:EE na bad h h')(k:∀b∈bad,b∈bad'):EE na bad' h h':=⟨fun b o n1 n2 e=>X.keep b o n1 (fun q=>n2 (k b q)) e,X.ns⟩
end
theorem I6{h:Ah}{na:Na}(nam:∀a∈na.l,∃m,h.Ns a m):∀{fs:List Env},(∀e∈fs,e.scope.kind≠.module/\∃a∈na.l,e.frame=some a)->h.FunFrames ⟨#[],{}⟩ fs
 |[]=>fun ø=>trivial
 |e::r=>fun k=>by
  refine Cd (k e (.head _)) fun k1 zz1=>AO zz1 fun a ha hf=>?_
  refine oO (nam a ha) fun m o es ep ho hd ø=>?_
  refine⟨k1,⟨a,o,hf,?_,ho,fun vs q=>by replace q:=hd▸q;cases q⟩,I6 nam fun e he=>k e (.tail _ he)⟩
  simp[Ah.get?]
theorem RM{na:Na}{fs:List Env}(k:∀e∈fs,e.scope.kind≠.module/\∃a∈na.l,e.frame=some a){b:Ai}(hb:b∈fs.filterMap (·.frame)):b∈na.l:=by
 refine AO (BA.mp hb) fun e he hf=>?_
 refine Cd (k e he) fun ø zz1=>AO zz1 fun a ha hfa=>?_
 replace hfa:=hf▸hfa;refine Aj (Ad hfa) ?_;exact ha
section
variable {M:Model}{n:Nat}{ct:Ct}{E:Ab->Ae->Prop}{s:Ae}
theorem P9(C:GS n ct)(nam:∀a∈ct.na.l,∃m,s.heap.Ns a m){Q:Ab->Ae->Prop}
  (h:∀h',Ah.SlotsOnly (ct.fs.filterMap (·.frame)) s.heap h'->Q (.ref ct.L) {s with heap:=h'}):Av M ct.A (Ii ct.env) Q E s:=by
 refine LH C.head fun fe outer hfs hfe=>?_
 unfold Ii
 refine Aa (wpAny_frameEnvs C.frames ?_)
 have hdw:(ct.fs.dropWhile fun x=>x.frame !=ct.env.frame)=ct.fs:=by rw[hfs];simp[List.dropWhile,hfe,C.envf]
 refine Aj hdw (Aj hfs ?_)
 unfold frameObject
 have ff:=I6 nam C.fna
 rw[hfs] at ff
 refine Aa (Aa (wpAny_readyFrames_fun ff fun h₁ hs₁=>Ac ?_))
 refine Aj hfe ?_
 exact Ac (h h₁ (Aj hfs hs₁))
theorem Tv(C:GS n ct)(nam:∀a∈ct.na.l,∃m,s.heap.Ns a m){e:Ai}{oe:Df}{vs:Array Ab}{head:Ab}{hadNext:Bool}{Q:Unit->Ae->Prop}
  (he:s.heap.get? e=some oe) (hena:e∉ct.na.l) (hd:oe.data=.fields vs) (hsz:1<vs.size)
  (h:∀h' T oT ts,EE ct.na [e] s.heap h'->s.heap.get? T=none->h'.get? e=some {oe with data:=.fields (vs.setIfInBounds 1 (.ref T))}->h'.get? T=some oT->oT.cls=.type "traceback"->oT.data=.fields ts->ts[3]?=some (AU ct.L)->Q () {s with heap:=h'}):
  Av M ct.A (do let a <-Ii ct.env;let pl <-entryPlaceOf ct.L hadNext;let b <-G4 head a .none (AU ct.L) .none pl;setField (.ref e) 1 b) Q E s:=by
 refine Aa (P9 C nam fun h₁ hs₁=>?_)
 refine Aa (wpAny_entryPlaceOf fun pl hpl=>?_)
 unfold G4 newFields
 refine Aa (AP ?_ (hpl.sizeOk5 _ _ _ _ _))
 have hnf:∀b,b∉ct.na.l->b∉ct.fs.filterMap (·.frame):=fun b hb q=>hb (RM C.fna q)
 have he₁:h₁.get? e=some oe:=(hs₁.2.1 e (hnf e hena)).trans he
 have he₂:=Af (h:=h₁) {cls:=.type "traceback",dict:=none,data:=.fields ([head,.ref ct.L,.none,AU ct.L,.none]++(if pl.isEmpty then Bz 6 Bh else pl)).toArray} he₁
 refine Ci he₂ hd hsz ?_
 have hTe:h₁.objs.size≠e:=Cq (AB he₁)
 obtain⟨oc,od,dt,osl⟩:=oe
 dsimp only at hd
 clear he₁ he;subst hd
 refine h _ h₁.objs.size _ _ ⟨fun b o n1 n2 e1=>?_,fun a ha m n=>?_⟩ ?_ (A8 _ he₂ rfl) ((A1 _ _ (BB hTe)).trans (Az h₁ rfl)) rfl rfl ?_
 ·have e2:h₁.get? b=some o:=(hs₁.2.1 b (hnf b n1)).trans e1
  exact(A1 _ _ (fun q=>n2 (by exact D5 q (.head _)))).trans (Af _ e2)
 ·refine Uk (fun o e1=>?_) n
  obtain⟨sl,e2⟩:=hs₁.2.2 a o e1
  exact⟨sl,(A1 _ _ (fun q=>hena (by exact Aj q ha))).trans (Af _ e2)⟩
 ·exact Aj hs₁.1 (AG _)
 ·simp
theorem Ek.fresh(S:Ek na h₀ ρ₀ h ρ)(e:h.get? a=none)(ha:a∉na.l)(hm:¬mu ρ a):h₀.get? a=none:=by
 cases q:h₀.get? a with
 |none=>rfl
 |some o=>have:=(S.kn a o ⟨q,fun m=>hm (S.le.mu m),ha⟩).1;replace this:=e▸this;exact nomatch this
noncomputable def K4(na:Na)(h₀ h h':Ah):Prop:=∃bad,EE na bad h h'/\∀b∈bad,h₀.get? b=none
theorem K4.refl(na:Na)(h₀ h:Ah):K4 na h₀ h h:=Bn ([]) ⟨fun ø ø ø ø e=>e,fun ø ø ø n=>n⟩ (fun ø q=>by cases q)
theorem K4.trans(x:K4 na h₀ h h')(y:K4 na h₀ h' h''):K4 na h₀ h h'':=by
 refine AO x fun b1 e1 f1=>?_
 refine AO y fun b2 e2 f2=>?_
 refine(Bn (b1++b2) ((e1.mono fun b q=>AQ _ q).trans (e2.mono fun b q=>AF _ q)) (fun b q=>?_))
 rcases AJ.mp q with q | q
 ·exact f1 b q
 ·exact f2 b q
theorem K4.back(x:K4 na h₀ h h')(ha:a∉na.l)(e:h'.get? a=none):h.get? a=none\/h₀.get? a=none:=by
 refine AO x fun bad X f=>?_
 by_cases q:a∈bad
 ·exact .inr (f a q)
 ·cases z:h.get? a with
  |none=>exact .inl rfl
  |some o=>replace e:=X.keep a o ha q z▸e;cases e
theorem K4.stp(x:K4 na h₀ h h')(S:Ek na h₀ ρ₀ h ρ):Ek na h₀ ρ₀ h' ρ:=AO x fun ø X f=>X.stp S f
noncomputable def iD(na:Na)(h₀ h:Ah)(ρ:Ce):Prop:=∀a,h.get? a=none->a∉na.l->¬mu ρ a->h₀.get? a=none
theorem Ek.frh(S:Ek na h₀ ρ₀ h ρ):iD na h₀ h ρ:=fun ø e n m=>S.fresh e n m
theorem Iq(hc:oe.cls=v)(h1:v≠.type "tuple")(h2:v≠.type "list")(h3:v≠.type "method"):¬Cg oe:=by
 subst hc;rintro (⟨vs,z⟩ | z | z)
 ·exact h1 (by refine Aj z ?_;rfl)
 ·exact h2 z.1
 ·exact h3 z.1
theorem EE.exo(X:EE na bad h h')(R:HR w hb na h ρ H)(hk:∀a o,hb.get? a=some o->h₀.get? a=some o)(x:∀b∈bad,∃o,Vw h₀ h na ρ b o/\¬Cg o):K4 na h₀ h h'/\HR w hb na h' ρ H:=
 ⟨(Bn bad X (fun b q=>AO (x b q) fun ø x ø=>x.new)),X.hr R fun b q=>by
  refine AO (x b q) fun o x d=>?_
  refine⟨x.mu_,?_,fun o' e=>by replace e:=x.at_▸e;refine D5 (Ad e) ?_;exact d⟩
  cases z:hb.get? b with
  |none=>rfl
  |some o=>exact nomatch (hk b o z).symm.trans x.new⟩
theorem Ku(C:GS n ct)(R:HR w hb ct.na s.heap ρ H)(hk:∀a o,hb.get? a=some o->h₀.get? a=some o)
  (S:iD ct.na h₀ s.heap ρ) (X:Ex h₀ s.heap ct.na ρ e c fl) (hfl:fl=none\/fl=some .none\/fl=some (AU ct.L))
  (h:∀h',K4 ct.na h₀ s.heap h'->HR w hb ct.na h' ρ H->Ex h₀ h' ct.na ρ e c (some (AU ct.L))->Q () {s with heap:=h'}):Av M ct.A (noteFrame (.ref e) ct.env) Q E s:=by
 refine aW (id X) fun oe vs dx od xe xd xi tb=>?_
 have hsz:2<vs.size:=(Dq.mp xi.ctx).1
 have nde:¬Cg oe:=Iq xi.cls nofun nofun nofun
 have ned:∀{a:Ai} {o:Df} {fs:Array Ab},s.heap.get? a=some o->o.data=.fields fs->dx≠a:=fun {a o fs} e d q=>by
  refine Oe xi.dd fun ø ø d2=>?_
  have:=xd.at_
  replace this:=e▸(q▸this);clear e;obtain rfl:=Ad this
  exact nomatch d2.symm.trans d
 have fin:∀{head:Ab} {hadNext:Bool} (h1:Ah) (bad:List Ai),EE ct.na bad s.heap h1->(∀b∈bad,dx≠b/\∃o,Vw h₀ s.heap ct.na ρ b o/\¬Cg o)->h1.get? e=some oe->(∀b,h1.get? b=none->s.heap.get? b=none)->
   Av M ct.A (do let a <-Ii ct.env;let pl <-entryPlaceOf ct.L hadNext;let b <-G4 head a .none (AU ct.L) .none pl;setField (.ref e) 1 b) Q E {s with heap:=h1}:=fun h1 bad X1 hbad he k=>by
  refine Tv (s:={s with heap:=h1}) C (fun a ha=>Eb ((R.nam a ha).2.2) fun m x=>⟨m,X1.ns a ha m x⟩) he xe.na_ xi.data (Nat.lt_of_succ_lt hsz) fun h' T oT ts X2 hT e1 e2 e3 e4 e5=>?_
  have hT0:=k _ hT
  have XX:EE ct.na (e::bad) s.heap h':=(X1.mono fun b q=>.tail _ q).trans (X2.mono fun b q=>(An.mp q)▸.head _)
  obtain⟨ed,hr⟩:=XX.exo R hk fun b q=>(Al.mp q).elim (fun q=>q▸(Bn oe xe nde)) fun q=>(hbad b q).2
  refine h h' ed hr ⟨_,_,dx,od,⟨e1,xe.new,xe.na_,xe.mu_⟩,⟨XX.keep _ _ xd.na_ (fun q=>(Al.mp q).elim (ned xe.at_ xi.data) fun q=>(hbad _ q).1 rfl) xd.at_,xd.new,xd.na_,xd.mu_⟩,
   ⟨xi.cls,xi.dict,rfl,Aj (Array.getElem?_setIfInBounds_ne (by decide)) xi.ctx,xi.dd,xi.look⟩,T,oT,ts,⟨e2,S _ hT0 (R.fresh_na hT0) (R.fresh hT0),R.fresh_na hT0,R.fresh hT0⟩,GQ (Nat.lt_of_succ_lt hsz),e3,e4,e5,fun q=>?_⟩
  exact nomatch (q▸hT0).symm.trans xe.at_
 unfold noteFrame
 simp only[C.envf]
 induction fl with
 |none=>
  refine Aa (A5 xe.at_ xi.data tb ?_)
  refine Aj (if_neg (by decide)) ?_
  exact fin s.heap [] ⟨fun ø ø ø ø e=>e,fun ø ø ø n=>n⟩ nofun xe.at_ fun ø e=>e
 |some f=>
  refine kB tb fun T oT ts xt t1 t2 t3 t4 t5=>?_
  refine Aa (A5 xe.at_ xi.data t1 ?_)
  refine Aj (if_pos (show(B9 T !=Bh)=true from by simp)) ?_
  refine Aa (A5 xt.at_ t3 t4 ?_)
  by_cases hf:f=AU ct.L
  ·clear t4 tb hfl;subst hf
   refine Aj (if_pos (show(AU ct.L==AU ct.L)=true from by simp)) ?_
   exact Ac (h _ (.refl _ _ _) R X)
  ·have hf':f=.none:=hfl.elim nofun fun q=>q.elim Ad fun q=>absurd (Ad q) hf
   refine Aj hf' ?_
   refine Aj (if_neg (show ¬((Bh==AU ct.L)=true) from by simp[AU])) ?_
   refine Aa (Ci xt.at_ t3 (Dq.mp t4).1 ?_)
   have other:∀b,b≠T->(s.heap.update T (CF (·.setIfInBounds 3 Bh))).get? b=s.heap.get? b:=fun b hb=>A1 _ _ (BB hb)
   refine fin _ [T] ⟨fun b o ø n2 e=>(other b fun q=>n2 (q▸.head _)).trans e,fun a ha m n=>n.at' fun o e=>(other a fun q=>xt.na_ (q▸ha)).trans e⟩ (fun b q=>An.mp q▸⟨ned xt.at_ t3,oT,xt,Iq t2 nofun nofun nofun⟩) ((other e (BB t5)).trans xe.at_) fun b e1=>?_
   by_cases q:b=T
   ·clear other t5 t1;subst q
    replace e1:=A8 _ xt.at_ (Dk (BW t3 _))▸e1;cases e1
   ·exact(other b q).symm.trans e1
theorem FT(R:HR w hb na s.heap ρ H)(hk:∀a o,hb.get? a=some o->h₀.get? a=some o)
  (X:Ex h₀ s.heap na ρ e c fl)
  (h:∀h',K4 na h₀ s.heap h'->HR w hb na h' ρ H->Ex h₀ h' na ρ e c (fl.map fun ø=>fr.elim .none fun f=>AU f)->Q () {s with heap:=h'}):Av M A (setFlight (.ref e) fr) Q E s:=by
 refine aW (id X) fun oe vs dx od xe xd xi tb=>?_
 unfold setFlight
 induction fl with
 |none=>
  refine Aa (A5 xe.at_ xi.data tb ?_)
  rw[if_neg (by decide)]
  exact Ac (h _ (.refl _ _ _) R X)
 |some f=>
  refine kB tb fun T oT ts xt t1 t2 t3 t4 t5=>?_
  refine Aa (A5 xe.at_ xi.data t1 ?_)
  refine Aj (if_pos (show(B9 T !=Bh)=true from by simp)) ?_
  have h3:3<ts.size:=(Dq.mp t4).1
  refine Ci xt.at_ t3 h3 ?_
  have other:∀b,b≠T->(s.heap.update T (CF (·.setIfInBounds 3 (fr.elim Bh fun f=>AU f)))).get? b=s.heap.get? b:=fun b hb=>A1 _ _ (BB hb)
  have X1:EE na [T] s.heap (s.heap.update T (CF (·.setIfInBounds 3 (fr.elim Bh fun f=>AU f)))):=
   ⟨fun b o ø n2 e=>(other b fun q=>n2 (q▸.head _)).trans e,fun a ha m n=>n.at' fun o e=>(other a fun q=>xt.na_ (q▸ha)).trans e⟩
  obtain⟨ed,hr⟩:=X1.exo R hk fun b q=>An.mp q▸(Bn oT xt (Iq t2 nofun nofun nofun))
  have hd':=BW t3 (·.setIfInBounds 3 (fr.elim Bh fun f=>AU f))
  refine h _ ed hr ⟨oe,vs,dx,od,⟨(other e (BB t5)).trans xe.at_,xe.2,xe.3,xe.4⟩,⟨(other dx fun q=>?_).trans xd.at_,xd.2,xd.3,xd.4⟩,xi,T,_,_,⟨A8 _ xt.at_ (Dk hd'),xt.2,xt.3,xt.4⟩,t1,(J1 _ _).trans t2,hd',GQ h3,t5⟩
  have d:=xd.at_
  replace d:=xt.at_▸(q▸d);clear hd' t2 xt;obtain rfl:=Ad d
  exact Oe xi.dd fun ø ø d2=>nomatch d2.symm.trans t3
theorem QM{α:Type}{hb h₀:Ah}{w:Cc}{ρ:Ce}{H:MH}{e:Ai}{c:Ao}{f:Ab}{na:Na}{env:Env}{site:String}{Q:α->Ae->Prop}{E:Ab->Ae->Prop}{A:Bt}(R:HR w hb na s.heap ρ H)(hk:∀a o,hb.get? a=some o->h₀.get? a=some o)
  (X:Ex h₀ s.heap na ρ e c (some f)) (h:∀h',K4 na h₀ s.heap h'->HR w hb na h' ρ H->Ex h₀ h' na ρ e c (some (env.frame.elim .none fun f=>AU f))->E (.ref e) {s with heap:=h'}):Av M A (IJ site (.ref e) env:Sem α) Q E s:=by
 refine FN fun g0 k0=>?_
 obtain⟨oe,vs,dx,od,xe,xd,xi,T,oT,ts,xt,t1,_⟩:=id X
 refine k0 ?_
 unfold IJ
 refine Aa (A5 xe.at_ xi.data t1 ?_)
 refine Aj (if_neg (show ¬((B9 T==Bh)=true) from by simp)) ?_
 exact Aa (FT R hk X fun h' ed hr x=>wpAny_throw (h h' ed hr x))
theorem TY(C:GS n ct)(R:HR w hb ct.na s.heap ρ H)(hk:∀a o,hb.get? a=some o->h₀.get? a=some o)
  (S:iD ct.na h₀ s.heap ρ) (X:Ex h₀ s.heap ct.na ρ e c fl) (hfl:fl=none\/fl=some .none\/fl=some (AU ct.L))
  (h:∀h',K4 ct.na h₀ s.heap h'->HR w hb ct.na h' ρ H->Ex h₀ h' ct.na ρ e c (some .none)->Q () {s with heap:=h'}):Av M ct.A (leaving ct.env (.ref e)) Q E s:=by
 unfold leaving
 refine Aa (Ku C R hk S X hfl fun h' S' R' X'=>?_)
 exact FT (s:={s with heap:=h'}) (fr:=none) R' hk X' fun h'' S'' R'' X''=>h h'' (S'.trans S'') R'' X''
end
structure Hx where
 prog:B7
 w:Cc
 K:CD
 p:B7
 loose:List Ao
 mean:ExcName->Option Ab
 mg:Ao->Option Ab
 mb:Ao->Option Ab
 hb:Ah
structure Xo (W:Hx):Prop where
 kin:W.K.In W.hb
 top:Top W.p W.loose W.mean W.mg W.mb W.hb
noncomputable abbrev Hx.M(W:Hx):Model:=AD W.prog W.w
noncomputable def Place(ct:Ct)(h:Ah)(ρ:Ce)(x:Ao)(ov:Option Ab):Prop:=
 (ct.env.kindOf x=some .local/\∃m,h.Ns ct.env.locals m/\m x=ov)\/
 ((ct.env.kindOf x=some .cell\/ct.env.kindOf x=some .free)/\∃c o,ct.env.cells.lookup x=some c/\Kn ct.na h ρ c o/\o.data=.cell ov)
noncomputable def LR(ct:Ct)(h:Ah)(ρ:Ce)(fr:Fr):Prop:=
 ∀x i,(x,i)∈ct.cx.l->∃ov,Place ct h ρ x ov/\∀v,fr[i]?=some (some v)->∃u,ov=some u/\VR (Kd ct.na h ρ) ρ v u
noncomputable def OW(A:Bt)(na:Na)(h:Ah)(ρ:Ce):Bool->Prop
 |false=>A.handled=none
 |true=>∃e o vs,A.handled=some (.ref e)/\Kn na h ρ e o/\o.data=.fields vs/\vs[2]?=some .none
structure St (W:Hx)(ct:Ct)(s:Ae)(ρ:Ce)(H:MH)(fr:Fr)(hd:Bool):Prop where
 hr:HR W.w W.hb ct.na s.heap ρ H
 lr:LR ct s.heap ρ fr
 hdl:OW ct.A ct.na s.heap ρ hd
theorem LR.map(l:LR ct h ρ fr)(he:ct'.env=ct.env)(hx:ct'.cx=ct.cx)(f:∀m,h.Ns ct.env.locals m->h'.Ns ct.env.locals m)(k:∀c o v,Kn ct.na h ρ c o->o.data=.cell v->Kn ct'.na h' ρ' c o)
  (r:∀v u,VR (Kd ct.na h ρ) ρ v u->VR (Kd ct'.na h' ρ') ρ' v u):LR ct' h' ρ' fr:=by
 unfold LR Place
 rw[he,hx]
 exact fun x i q=>(l x i q).imp fun ov=>And.imp (Or.imp (And.imp_right (Exists.imp fun m=>Ed (f m))) (And.imp_right (Exists.imp fun c=>Exists.imp fun o z=>⟨z.1,k c o ov z.2.1 z.2.2,z.2.2⟩))) fun z v hv=>(z v hv).imp fun u=>And.imp_right (r v u)
theorem LR.stp(hl:ct.env.locals∈ct.na.l)(l:LR ct h ρ fr)(S:Ek ct.na h ρ h' ρ'):LR ct h' ρ' fr:=l.map rfl rfl (fun m=>S.ns _ hl m) (fun ø ø ø n ø=>S.kn _ _ n) fun ø ø=>S.vr
theorem OW.stp(x:OW A na h ρ hd)(S:Ek na h ρ h' ρ'):OW A na h' ρ' hd:=by
 induction hd with
 |false=>exact x
 |true=>exact Kk x fun e o vs a b c=>RO e o vs a (S.kn _ _ b) c
noncomputable def Yp(ct:Ct)(fl:Option Ab):Prop:=fl=none\/fl=some .none\/fl=some (AU ct.L)
noncomputable def OU(W:Hx)(ct:Ct)(h₀:Ah)(ρ₀:Ce)(c:Ao)(H':MH)(e:Ab)(s':Ae):Prop:=
 ∃a ρ' fl,e=.ref a/\Ek ct.na h₀ ρ₀ s'.heap ρ'/\HR W.w W.hb ct.na s'.heap ρ' H'/\Ex h₀ s'.heap ct.na ρ' a c fl/\Yp ct fl
theorem Ex.older(x:Ex h₁ h na ρ e c fl)(k:∀a,h₁.get? a=none->a∉na.l->¬mu ρ a->h₀.get? a=none):Ex h₀ h na ρ e c fl:=
 x.map fun a o ø e=>⟨e.1,k a e.2 e.3 e.4,e.3,e.4⟩
theorem OU.back(x:OU W ct h₁ ρ₁ c H' e s')(S:Ek ct.na h₀ ρ₀ h₁ ρ₁):OU W ct h₀ ρ₀ c H' e s':=
 Ss x fun a ρ' fl e1 s1 r1 x1 f1=>
 (Sv a ρ' fl e1 (S.trans s1) r1 (x1.older fun ø q n m=>S.fresh q n fun z=>m (s1.le.mu z)) f1)
structure Cx where
 cx:Xk
 scope:EA
structure jA (W:Hx)(ct:Ct):Prop where
 cinj:∀x y c,ct.env.cells.lookup x=some c->ct.env.cells.lookup y=some c->x=y
 cnew:∀x c,ct.env.kindOf x=some .cell->ct.env.cells.lookup x=some c->W.hb.get? c=none
 inj:∀x y i,(x,i)∈ct.cx.l->(y,i)∈ct.cx.l->x=y
 fn:∀x i j,(x,i)∈ct.cx.l->(x,j)∈ct.cx.l->i=j
theorem GS.room(ok:GS n ct):ct.A.units+64<cLine:=by have:=ok.units;exact Sr (Lp xa (.num 64)) xb [.t (Lp (Lp xa (.mulL 30 xc)) (.num 200)) xb] As this
structure Txt where
 W:Hx
 X:Cx
 C:FP
 n:Nat
structure Act (T:Txt) where
 ct:Ct
 ok:GS T.n ct
 cs:jA T.W ct
 hx:ct.cx=T.X.cx
 hsc:ct.env.scope=T.X.scope
structure Sg {T:Txt}(g:Act T)(fr:Fr) where
 s:Ae
 ρ:Ce
 H:MH
 st:St T.W g.ct s ρ H fr T.C.hd
noncomputable abbrev Rl(α β:Type):=Ey->Ce->α->β->Prop
noncomputable abbrev RV:Rl V Ab:=VR
noncomputable abbrev nX:Rl (List V) (List Ab):=B8
section
variable {T:Txt}{g:Act T}{fr:Fr}{α β γ δ:Type}{σ σ₀ τ υ:Sg g fr}{R:Rl α β}{R':Rl γ δ}{Q:α->MH->Prop}{X:EV}
noncomputable abbrev Sg.k(σ:Sg g fr):Ey:=Kd g.ct.na σ.s.heap σ.ρ
noncomputable abbrev Sg.hr(σ:Sg g fr):HR T.W.w T.W.hb g.ct.na σ.s.heap σ.ρ σ.H:=σ.st.hr
noncomputable abbrev Sg.v(σ:Sg g fr)(x:V)(u:Ab):Prop:=VR σ.k σ.ρ x u
structure Sg.To (σ τ:Sg g fr):Prop where
 rest:CO σ.s τ.s
 stp:Ek g.ct.na σ.s.heap σ.ρ τ.s.heap τ.ρ
theorem Sg.To.refl(σ:Sg g fr):σ.To σ:=⟨.refl _,.refl _ _ _⟩
theorem Sg.To.trans(a:σ.To τ)(b:τ.To υ):σ.To υ:=⟨a.rest.trans b.rest,a.stp.trans b.stp⟩
theorem Sg.To.v(a:σ.To τ)(r:σ.v x u):τ.v x u:=a.stp.vr r
noncomputable def Sg.P(σ:Sg g fr)(R:Rl α β)(Q:α->MH->Prop)(u:β)(s':Ae):Prop:=∃τ:Sg g fr,τ.s=s'/\σ.To τ/\∃v,R τ.k τ.ρ v u/\Q v τ.H
noncomputable def Sg.E(σ:Sg g fr)(X:EV)(e:Ab)(s':Ae):Prop:=∃c H',CO σ.s s'/\OU T.W g.ct σ.s.heap σ.ρ c H' e s'/\X c H'
noncomputable abbrev Sg.wp(σ:Sg g fr)(t:Sem β)(P:β->Ae->Prop)(E:Ab->Ae->Prop):Prop:=Av T.W.M g.ct.A t P E σ.s
theorem Sg.To.x(S:σ.To τ)(x:τ.E X e s'):σ.E X e s':=EM x fun c H' r e q=>F1 c H' (S.rest.trans r) (e.back S.stp) q
theorem sq(S:σ.To τ)(h:τ.wp t (τ.P R Q) (τ.E X))(k:∀(υ:Sg g fr) (v:α) (u:β),τ.To υ->R υ.k υ.ρ v u->Q v υ.H->G u υ.s):τ.wp t G (σ.E X):=
 A4 h (fun u ø zz=>C9 zz fun υ e S' hz=>AO hz fun v r q=>e▸k υ v u S' r q) fun ø ø x=>S.x x
theorem Sg.To.up(S:σ.To τ)(h:τ.wp t (τ.P R Q) (τ.E X)):τ.wp t (σ.P R Q) (σ.E X):=sq S h fun υ v ø S2 r q=>⟨υ,rfl,S.trans S2,v,r,q⟩
theorem Sg.To.end(S:σ.To τ){s':Ae}{ρ':Ce}{H':MH}{v:α}{u:β}(r:CO τ.s s')(S':Ek g.ct.na τ.s.heap τ.ρ s'.heap ρ')(R':HR T.W.w T.W.hb g.ct.na s'.heap ρ' H')(rv:R (Kd g.ct.na s'.heap ρ') ρ' v u)(q:Q v H'):σ.P R Q u s':=
 ⟨⟨s',ρ',H',R',τ.st.lr.stp g.ok.loc S',τ.st.hdl.stp S'⟩,rfl,⟨S.rest.trans r,S.stp.trans S'⟩,v,rv,q⟩
theorem Sg.To.here(S:σ.To τ){v:α}{u:β}{tk:Tok}(rv:R τ.k τ.ρ v u)(q:Q v τ.H):σ.P R Q u {τ.s with toks:=tk}:=S.end (s':={τ.s with toks:=tk}) ⟨rfl,rfl⟩ (.refl _ _ _) τ.hr rv q
theorem Sg.To.now(S:σ.To τ){v:α}{u:β}(rv:R τ.k τ.ρ v u)(q:Q v τ.H):σ.P R Q u τ.s:=⟨τ,rfl,S,v,rv,q⟩
noncomputable def Sg.tick(τ:Sg g fr)(tk:Tok):Sg g fr:=⟨{τ.s with toks:=tk},τ.ρ,τ.H,⟨τ.st.hr,τ.st.lr,τ.st.hdl⟩⟩
theorem Sg.to_tick(τ:Sg g fr)(tk:Tok):τ.To (τ.tick tk):=⟨⟨rfl,rfl⟩,.refl _ _ _⟩
theorem Sg.To.grown(S:σ.To τ){h':Ah}{v:α}{u:β}{tk:Tok}(k:∀b o,τ.s.heap.get? b=some o->h'.get? b=some o)(rv:R (Kd g.ct.na h' τ.ρ) τ.ρ v u)(q:Q v τ.H):σ.P R Q u {τ.s with heap:=h',toks:=tk}:=
 S.end (s':={τ.s with heap:=h',toks:=tk}) ⟨rfl,rfl⟩ (.all k) (τ.hr.keeps (fun b x ø=>k b x) fun ø ø ø n=>n.keeps k) rv q
end
section
variable {P:Ey}{ρ:Ce}{x:V}{u:Ab}{G:Ab->Prop}
@[elab_as_elim] theorem vInt.el{k:Int->Prop}(h:vInt x k)(r:VR P ρ x u)(f:∀i t,k i->G (.int i t)):G u:=by
 induction r using VR.casesOn with
 |int i t=>exact f i t h
 |_=>exact h.elim
@[elab_as_elim] theorem vStr.el{k:Ao->Prop}(h:vStr x k)(r:VR P ρ x u)(f:∀i t,k i->G (.str i t)):G u:=by
 induction r using VR.casesOn with
 |str i t=>exact f i t h
 |_=>exact h.elim
@[elab_as_elim] theorem vBool.el{k:Bool->Prop}(h:vBool x k)(r:VR P ρ x u)(f:∀b,k b->G (.bool b)):G u:=by
 induction r using VR.casesOn with
 |bool b=>exact f b h
 |_=>exact h.elim
@[elab_as_elim] theorem HL.el{k:Nat->Prop}(h:HL x k)(r:VR P ρ x u)(f:∀i p,ρ[i]?=some p->k i->G (.ref p.1)):G u:=by
 induction r using VR.casesOn with
 |ref e=>exact f _ _ e h
 |_=>exact h.elim
@[elab_as_elim] theorem vB.el{p q:Prop}(h:vB x p q)(r:VR P ρ x u)(f:p->G (.bool true))(k:q->G (.bool false)):G u:=
 vBool.el h r fun b h=>b.casesOn (motive:=fun b=>(b=true->p)/\(b=false->q)->G (.bool b)) (fun h=>k (h.2 rfl)) (fun h=>f (h.1 rfl)) h
theorem vO.el{α:Type}{o:Option α}{k:α->Prop}{G:Prop}(h:vO o k)(f:∀a,o=some a->k a->G):G:=by
 induction o with
 |none=>exact h.elim
 |some a=>exact f a rfl h
@[elab_as_elim] theorem JV.el{k:List V->Prop}(h:JV x k)(r:VR P ρ x u)(f:∀xs a o vs n,P a o->(o.cls=.type "tuple"\/o.cls=.type "list")->o.data=.seq vs n->B8 P ρ xs vs.toList->k xs->G (.ref a)):G u:=by
 induction r using VR.casesOn with
 |tup a b c d=>exact f _ _ _ _ _ a (.inl b) c d h
 |lst a b c d=>exact f _ _ _ _ _ a (.inr b) c d h
 |_=>exact h.elim
@[elab_as_elim] theorem Jw.el{k:List V->Prop}(h:Jw x k)(r:VR P ρ x u)(f:∀xs a o vs n,P a o->o.cls=.type "list"->o.data=.seq vs n->B8 P ρ xs vs.toList->k xs->G (.ref a)):G u:=by
 induction r using VR.casesOn with
 |lst a b c d=>exact f _ _ _ _ _ a b c d h
 |_=>exact h.elim
theorem DI.el{H:MH}{i:Nat}{k:List V->Prop}{G:Prop}(h:DI H i k)(f:∀xs,H[i]?=some (.list xs)->k xs->G):G:=
 vO.el h fun o e h=>match o,e,h with
  |.list xs,e,h=>f xs e h
theorem Hs.el{H:MH}{i:Nat}{k:List (Ao×V)->Prop}{G:Prop}(h:Hs H i k)(f:∀xs,H[i]?=some (.dict xs)->k xs->G):G:=
 vO.el h fun o e h=>match o,e,h with
  |.dict xs,e,h=>f xs e h
theorem Ht.el{H:MH}{i:Nat}{k:Ai->List (Ao×V)->Prop}{G:Prop}(h:Ht H i k)(f:∀K fs,H[i]?=some (.inst K fs)->k K fs->G):G:=
 vO.el h fun o e h=>match o,e,h with
  |.inst K fs,e,h=>f K fs e h
end
section
variable {w:Cc}{hb:Ah}{na:Na}{h h':Ah}{ρ:Ce}{H:MH}
theorem HR.pushed(R:HR w hb na h ρ H)(o:Df):HR w hb na (h.push o) ρ H/\Ek na h ρ (h.push o) ρ/\(o.isFreed=false->Kn na (h.push o) ρ h.objs.size o):=
 have k:∀b x,h.get? b=some x->(h.push o).get? b=some x:=fun b x e=>Af o e
 ⟨R.keeps (fun b x ø=>k b x) fun ø ø ø n=>n.keeps k,.all k,fun hf=>⟨Az h hf,R.fresh (AG h),R.fresh_na (AG h)⟩⟩
theorem HR.kd_push(R:HR w hb na h ρ H)(hf:o.isFreed=false)(d:Cg o):Kd na (h.push o) ρ h.objs.size o:=⟨(R.pushed o).2.2 hf,d,R.fresh_ex (AG h)⟩
@[elab_as_elim] theorem vL.el{x:V}{u:Ab}{k:List V->Prop}{G:Ab->Prop}(e:vL H x k)(R:HR w hb na h ρ H)(r:VR (Kd na h ρ) ρ x u)
  (f:∀xs l o vs n,h.get? l=some o->o.cls=.type "list"->o.data=.seq vs n->B8 (Kd na h ρ) ρ xs vs.toList->k xs->G (.ref l)):G u:=by
 induction r using VR.casesOn with
 |lst a b c d=>exact f _ _ _ _ _ a.1.1 b c d e
 |@ref i p hp=>exact DI.el e fun xs hH q=>Cd (R.rep i p _ hp hH) fun ø zz=>AO zz fun vs zz rr=>Eb zz fun n hl=>f xs _ _ vs n hl rfl rfl rr q
 |_=>exact e.elim
@[elab_as_elim] theorem Yo.el{x:V}{u:Ab}{k:List V->Prop}{G:Ab->Prop}(e:Yo H x k)(R:HR w hb na h ρ H)(r:VR (Kd na h ρ) ρ x u)
  (f:∀xs l o vs n,h.get? l=some o->(o.cls=.type "list"\/o.cls=.type "tuple")->o.data=.seq vs n->B8 (Kd na h ρ) ρ xs vs.toList->k xs->G (.ref l)):G u:=by
 induction r using VR.casesOn with
 |tup a b c d=>exact f _ _ _ _ _ a.1.1 (.inr b) c d e
 |lst a b c d=>exact f _ _ _ _ _ a.1.1 (.inl b) c d e
 |@ref i p hp=>exact DI.el e fun xs hH q=>Cd (R.rep i p _ hp hH) fun ø zz=>AO zz fun vs zz rr=>Eb zz fun n hl=>f xs _ _ vs n hl (.inl rfl) rfl rr q
 |_=>exact e.elim
theorem O2(r:VR (Kd na h ρ) ρ x v):∀{d:PyData},x.py=some d->∃as,Reads h v d as:=
 r.rec (motive_1:=fun x v ø=>∀{d:PyData},x.py=some d->∃as,Reads h v d as) (motive_2:=fun xs vs ø=>∀{d:List PyData},V.pys xs=some d->∃as,ReadsAll h vs d as)
  (fun e=>⟨_,Ad e▸Reads.none⟩) (fun b ø e=>⟨_,Ad e▸Reads.bool b⟩) (fun i t ø e=>⟨_,Ad e▸Reads.int i t⟩) (fun i t ø e=>⟨_,Ad e▸Reads.str i t⟩)
  (fun a b c ø m ø e=>AO (Bc.mp e) fun ø hds q=>Eb (m hds) fun ø ra=>⟨_,q▸Reads.tuple a.1.1 b c ra⟩)
  (fun a b c ø m ø e=>AO (Bc.mp e) fun ø hds q=>Eb (m hds) fun ø ra=>⟨_,q▸Reads.list a.1.1 b c ra⟩)
  (fun ø ø e=>nomatch e) (fun ø ø e=>nomatch e) (fun ø ø e=>nomatch e) (fun ø ø e=>nomatch e) (fun ø ø ø e=>nomatch e)
  (fun e=>⟨_,Ad e▸ReadsAll.nil⟩) fun ø ø m n ø e=>AO (BC.mp e) fun ø e1 e=>AO (Bc.mp e) fun ø e2 q=>Eb (m e1) fun ø r1=>Eb (n e2) fun ø r2=>⟨_,q▸ReadsAll.cons r1 r2⟩
end
theorem M6(hx:IF x):IntMulOk x y:=.of_left (intBits_le_64 (by have:=hx.1;exact DU (.neg (.num 18446744073709551616)) za [.t (.neg (.num 4611686018427387904)) za] As this) (by have:=hx.2;exact DU za (.num 18446744073709551616) [.t za (.num 4611686018427387904)] As this))
theorem Ry{x y:Ao}(h:x.length=0):x++y=y:=by
 show Ao.mk (x.cps++y.cps)=y
 exact Aj (show x.cps=#[] from Jy h) (Aj Array.empty_append rfl)
theorem Rz{x y:Ao}(h:y.length=0):x++y=x:=by
 show Ao.mk (x.cps++y.cps)=x
 exact Aj (show y.cps=#[] from Jy h) (Aj Array.append_empty rfl)
theorem VG{x y:Ao}:(x++y).length=x.length+y.length:=DS ..
section
variable {T:Txt}{g:Act T}{fr:Fr}{σ τ:Sg g fr}{Q:QV}{X:EV}{E:Ab->Ae->Prop}{a b:V}{u v:Ab}
theorem Sg.To.seqT(S:σ.To τ)(r:B8 τ.k τ.ρ xs vs.toList)(q:Q (.tup xs) τ.H):
  σ.P RV Q (.ref τ.s.heap.objs.size) {τ.s with heap:=τ.s.heap.push {cls:=.type "tuple",data:=.seq vs},toks:=tk}:=
 S.end (s':={τ.s with heap:=_,toks:=tk}) ⟨rfl,rfl⟩ (τ.hr.pushed _).2.1 (τ.hr.pushed _).1 (.tup (τ.hr.kd_push rfl (.inl ⟨_,rfl⟩)) rfl rfl ((τ.hr.pushed _).2.1.vrs r)) q
theorem M4(k:∀b o,b∉na.l->h.get? b=some o->h'.get? b=some o)(ns:∀a∈na.l,∀m,h.Ns a m->h'.Ns a m)(f1:h.get? p.1=none)(f2:h.get? p.2=none):Ek na h ρ h' (ρ++[p]):=
 ⟨.app _ _,fun a o e=>⟨k a o e.2.2 e.1,fun zz=>AO zz fun q hq z=>(AJ.mp hq).elim (fun hq=>e.2.1 (Bn q hq z)) fun hq=>by
  rw[An.mp hq] at z
  rcases z with rfl | rfl
  ·exact absurd e.1 (by rw[f1];nofun)
  ·exact absurd e.1 (by rw[f2];nofun),e.2.2⟩,ns⟩
theorem Sg.To.mkl(S:σ.To τ)(re:CO τ.s s')(k:∀b o,τ.s.heap.get? b=some o->s'.heap.get? b=some o)(hD:τ.s.heap.get? D=none)
  (hn:s'.heap.get? D=some {cls:=.type "list",data:=.seq vs c}) (r:B8 τ.k τ.ρ xs vs.toList) (q:Vb mu_ xs τ.H Q):σ.P RV Q (.ref D) s':=by
 induction mu_ with
 |false=>exact S.end re (.all k) (τ.hr.keeps (fun b x ø=>k b x) fun ø ø ø n=>n.keeps k) (.lst ⟨⟨hn,τ.hr.fresh hD,τ.hr.fresh_na hD⟩,.inr (.inl ⟨rfl,_,_,rfl⟩),τ.hr.fresh_ex hD⟩ rfl rfl ((Ek.all k).vrs r)) q
 |true=>
  refine Gj (τ.hr.push (p:=(D,D)) (o:=.list xs) (fun b x ø=>k b x) (fun ø ø ø n=>n.keeps k) hD hD ⟨rfl,vs,⟨c,hn⟩,(M4 (fun b x ø=>k b x) (fun ø ø ø n=>n.keeps k) hD hD).vrs r⟩) fun R' S' at_=>?_
  exact S.end re S' R' (.ref at_) q
theorem Sg.To.seqK(S:σ.To τ){mu_:Bool}{xs:List V}{vs:Array Ab}{k:Nat}(r:B8 τ.k τ.ρ xs vs.toList)(q:Vb mu_ xs τ.H Q){tk:Nat}:
  σ.P RV Q (.ref τ.s.heap.objs.size) {τ.s with heap:=τ.s.heap.push {cls:=.type "list",data:=.seq vs k},toks:=tk}:=
 S.mkl (s':={τ.s with heap:=_,toks:=tk}) ⟨rfl,rfl⟩ (fun b x e=>Af _ e) (AG _) (Az _ rfl) r q
theorem Sg.To.seqL(S:σ.To τ){xs:List V}{vs:Array Ab}(r:B8 τ.k τ.ρ xs vs.toList)(q:Q (.lst xs) τ.H){tk:Nat}:
  σ.P RV Q (.ref τ.s.heap.objs.size) {τ.s with heap:=τ.s.heap.push {cls:=.type "list",data:=.seq vs},toks:=tk}:=S.seqK (mu_:=false) r q
set_option tactic.hygienic true in
theorem Yu(S:σ.To τ)(h:gT a b τ.H fun z=>Q z τ.H)(ra:τ.v a u)(rb:τ.v b v):τ.wp (binaryOp .Add u v) (σ.P RV Q) E:=by
 have lists:(vL τ.H a fun xs=>vL τ.H b fun ys=>xs.length+ys.length<=Ap/\Q (.lst (xs++ys)) τ.H)->τ.wp (binaryOp .Add u v) (σ.P RV Q) E:=fun h=>
  vL.el h τ.hr ra fun xs l o vs n ho hc hd rx h=>vL.el h τ.hr rb fun ys l' o' vs' n' ho' hc' hd' ry zz=>Cd zz fun hl q=>by
   obtain⟨cls,dd,data,sl⟩:=o
   obtain⟨cls2,dd2,data2,sl2⟩:=o'
   cases hc;cases hd;cases hc';cases hd'
   have l1:=rx.length
   have l2:=ry.length
   simp only[Aq] at l1 l2
   exact PySem.concat_meets ⟨_,ho,rfl⟩ ⟨_,ho',rfl⟩ noFill_list_add seq_list_add PySem.F.slot_list_add PySem.F.entry_list_add (PySem.F.args_list_add_2 _ _) (list_addW l l' vs vs' n n' dd dd2 sl sl2 (by unfold Ap at hl;unfold Bp;exact OP (Lp xa xb) (.num 16777216) [.e xa xc,.e xb xd,.l (Lp xc xd) (.num 1000000)] As l1 l2 hl))
    ⟨ho,ho',S.seqL (Aj HM (rx.app ry)) q⟩
 induction ra using VR.casesOn with
 |int x t=>exact vInt.el h rb fun y t' h=>P.add_int (S.here (.int _ _) h)
 |str x t=>
  refine vStr.el h rb fun y t' h=>P.add_str ?_
  split
  ·rename_i e;exact S.now (.str _ _) (by have q:=h.2;rwa [Ry (by simpa using e)] at q)
  ·split
   ·rename_i e;exact S.now (.str _ _) (by have q:=h.2;rwa [Rz (by simpa using e)] at q)
   ·exact⟨by refine Aj VG ?_;have:=h.1;unfold Ap at this;unfold Bp;exact CY (Lp xa xb) (.num 16777216) [.l (Lp xa xb) (.num 1000000)] As this,S.here (.str _ _) h.2⟩
 |lst a1 a2 a3 a4=>exact lists h
 |ref hp=>exact lists h
 |_=>exact h.elim
theorem Yx(S:σ.To τ)(h:OJ op a b τ.H fun z=>Q z τ.H)(ra:τ.v a u)(rb:τ.v b v):τ.wp (binaryOp op u v) (σ.P RV Q) E:=by
 induction op with
 |Add=>exact Yu S h ra rb
 |Sub=>exact vInt.el h ra fun x t h=>vInt.el h rb fun y t' h=>P.sub_int (S.here (.int _ _) h)
 |Mult=>exact vInt.el h ra fun x t h=>vInt.el h rb fun y t' h=>P.mul_int (S.here (.int _ _) h.2) (M6 h.1)
 |FloorDiv=>
  exact vInt.el h ra fun x t h=>vInt.el h rb fun y t' h=>floordiv_int (Fm h.1.1) (S.here (.int _ _) h.2) (.inl (LD (by
   have h1:=h.1.1
   have h2:=h.1.2.2
   have:=(Nat.log2_lt (n:=y.natAbs) (k:=62) (Sq.mpr (Fm h.1.1))).mpr (Ld (DU (.neg (.num 4611686018427387904)) za [.t (.num 0) za] As h.1.1) (DU za (.num 4611686018427387904) [.t za (.num 4611686018427387904)] As h2))
   exact V7 xa (.num 9000) [.t xa (.num 62)] As this)))
 |Mod=>exact vInt.el h ra fun x t h=>vInt.el h rb fun y t' h=>mod_int' (Fm h.1) (S.here (.int _ _) h.2)
 |Pow=>exact vInt.el h ra fun x t h=>vInt.el h rb fun y t' zz=>Cd zz fun zy0 h=>Gj zy0 fun e h1 h2=>e▸pow_int_small h1 (BV za (.num 1000000) [.l za (.num 18)] As zz.1.2.2) (by decide) (S.here (.int _ _) h)
 |LShift=>exact vInt.el h ra fun x t h=>vInt.el h rb fun y t' zz=>Cd zz fun zy0 h=>Gj zy0 fun e h1 h2=>e▸lshift_int_small h1 (BV za (.num 1000000) [.l za (.num 60)] As zz.1.2.2) (by decide) (S.here (.int _ _) (by rw[Int.one_mul];exact h))
 |_=>exact h.elim
end
inductive KV (P:Ey)(ρ:Ce):List (Ao×V)->List (Ao×Ab)->Prop
 |nil:KV P ρ [] []
 |cons {k x v es kvs}:VR P ρ x v->KV P ρ es kvs->KV P ρ ((k,x)::es) ((k,v)::kvs)
section
variable {P:Ey}{ρ:Ce}{es:List (Ao×V)}{kvs:List (Ao×Ab)}{k:Ao}
theorem KV.keys(x:KV P ρ es kvs):kvs.map (·.1)=es.map (·.1):=by
 induction x with
 |nil=>rfl
 |cons _ _ ih=>simp[ih]
theorem KV.length(x:KV P ρ es kvs):kvs.length=es.length:=by
 have:=congrArg List.length x.keys
 simpa using this
theorem KV.look(x:KV P ρ es kvs):match es.lookup k with
  |some y=>∃v,valueAt kvs k=some v/\VR P ρ y v
  |none=>valueAt kvs k=none:=by
 induction x with
 |nil=>rfl
 |@cons k' y v es kvs a b ih=>
  unfold BP valueAt
  by_cases h:k=k'
  ·subst h
   refine Aj (show(k==k)=true by simp) ?_
   exact Bn v (by simp) a
  ·refine Aj (show(k==k')=false by simpa using h) ?_
   have h':¬k'=k:=fun q=>h q.symm
   simp only[List.find?,h',decide_false]
   exact ih
theorem KV.isSome(x:KV P ρ es kvs):(valueAt kvs k).isSome=(es.lookup k).isSome:=by
 have l:=x.look (k:=k)
 cases z:es.lookup k with
 |none=>rw[z] at l;refine Aj (show valueAt kvs k=none from l) ?_;rfl
 |some y=>rw[z] at l;obtain⟨v,l1,_⟩:=l;refine Aj l1 ?_;rfl
theorem KV.put(x:KV P ρ es kvs)(r:VR P ρ y v)(nd:(es.map (·.1)).Nodup):KV P ρ (putL k y es) (stored kvs k v):=by
 induction x with
 |nil=>exact .cons r .nil
 |@cons k' z u es kvs a b ih=>
  rw[DA,List.nodup_cons] at nd
  have ih:=ih nd.2
  show KV P ρ (if k'=k then(k',y)::es else(k',z)::putL k y es) _
  by_cases h:k'=k
  ·refine D5 h ?_
   refine Aj (if_pos rfl) ?_
   have:stored ((k',u)::kvs) k' v=(k',v)::kvs:=by
    unfold stored
    rw[if_pos (by simp)]
    simp only[DA,if_true]
    congr 1
    refine(List.map_congr_left fun p hp=>?_).trans (List.map_id _)
    have:p.1≠k':=fun q=>nd.1 (D5 b.keys (B2.mpr ⟨p,hp,q⟩))
    simp[this]
   refine Aj this ?_
   exact .cons r b
  ·refine Aj (if_neg h) ?_
   have:stored ((k',u)::kvs) k v=(k',u)::stored kvs k v:=by
    unfold stored
    simp only[List.any_cons,h,decide_false,Bool.false_or,DA,if_false]
    split<;>rfl
   rw[this]
   exact .cons a ih
theorem M9(k:Ao)(y:V):∀es:List (Ao×V),(putL k y es).map (·.1)=if k∈es.map (·.1) then es.map (·.1) else es.map (·.1)++[k]
 |[]=>(if_neg Gh).symm
 |(k',z)::es=>by
  show(if k'=k then(k',y)::es else(k',z)::putL k y es).map (·.1)=_
  by_cases h:k'=k
  ·subst h;simp
  ·have h':¬k=k':=fun q=>h q.symm
   refine Aj (if_neg h) ?_
   simp only[DA,M9 k y es,Al,h',false_or]
   split<;>simp
set_option tactic.hygienic true in
theorem Lk(nd:(es.map (·.1)).Nodup):((putL k y es).map (·.1)).Nodup:=by
 rw[M9]
 split
 ·exact nd
 ·rename_i h
  rw[List.nodup_append]
  exact⟨nd,by simp,fun a ha b hb q=>h (D5 (An.mp hb) (D5 q ha))⟩
theorem He(k:Ao):∀(es:List (Ao×V)),(es.map (·.1)).Nodup->LW k es=es.filter fun kv=>decide (kv.1≠k)
 |[]=>fun ø=>rfl
 |(k',z)::es=>fun nd=>by
  rw[DA,List.nodup_cons] at nd
  show(if k'=k then es else(k',z)::LW k es)=_
  by_cases h:k'=k
  ·subst h
   rw[if_pos rfl]
   simp only[List.filter,ne_eq,not_true_eq_false,decide_false]
   exact(List.filter_eq_self.mpr fun p hp=>by
    have:p.1≠k':=fun q=>nd.1 (B2.mpr ⟨p,hp,q⟩)
    simpa using this).symm
  ·rw[if_neg h]
   simp only[List.filter,ne_eq,h,not_false_eq_true,decide_true]
   exact Aj (He k es nd.2) rfl
theorem KV.filter(x:KV P ρ es kvs):KV P ρ (es.filter fun kv=>decide (kv.1≠k)) (without kvs k):=by
 induction x with
 |nil=>exact .nil
 |@cons k' z u es kvs a b ih=>
  unfold without at ih ⊢
  by_cases h:k'=k
  ·simp only[List.filter,h,ne_eq,not_true_eq_false,decide_false]
   simpa using ih
  ·simp only[List.filter,h,ne_eq,not_false_eq_true,decide_true]
   exact .cons a (by simpa using ih)
theorem KV.del(x:KV P ρ es kvs)(nd:(es.map (·.1)).Nodup):KV P ρ (LW k es) (without kvs k):=by
 exact Aj (He k es nd) x.filter
theorem Pj(nd:(es.map (·.1)).Nodup):((LW k es).map (·.1)).Nodup:=by
 refine Aj (He k es nd) ?_
 exact nd.sublist (List.Sublist.map _ List.filter_sublist)
theorem DR.kv(d:DR w P ρ es ds):∃kvs,KV P ρ es kvs/\PySem.Pairs (AM prog w) ds kvs/\∀e∈ds,∃k,(AM prog w).is k e.key=true/\e.hash=(AM prog w).hash k:=by
 induction d with
 |nil=>exact EN ([]) .nil .nil (by simp)
 |@cons k t x v es ds a b ih=>
  refine C9 ih fun kvs k1 k2 k3=>?_
  refine(EN ((k,v)::kvs) (.cons a k1) (.cons (BE prog w k t) rfl k2) (fun e he=>?_))
  rcases Al.mp he with rfl | he
  ·exact Bn k (BE prog w k t) rfl
  ·exact k3 e he
set_option tactic.hygienic true in
theorem KV.dr(x:KV P ρ es kvs):∀{ds:List BK},PySem.Pairs (AM prog w) ds kvs->(∀e∈ds,∃k,(AM prog w).is k e.key=true/\e.hash=(AM prog w).hash k)->DR w P ρ es ds:=by
 induction x with
 |nil=>intro ds h _;cases h;exact .nil
 |cons a _ ih=>
  intro ds h hh
  cases h with
  |cons h1 h2 h3=>
   rename_i e _
   obtain⟨eh,ek,ev⟩:=e
   obtain⟨t,rfl⟩:=Ab.isStrOf_shape h1
   refine AO (hh _ (.head _)) fun k' g1 g2=>?_
   cases (AM prog w).inj _ _ _ g1 h1
   clear g1 h1;cases g2;cases h2
   exact .cons a (ih h3 fun e he=>hh e (.tail _ he))
theorem DR.dictOf{prog:B7}{w:Cc}{ds:List BK}{h:Ah}{a:Ai}{n:Nat}(d:DR w P ρ es ds)(nd:(es.map (·.1)).Nodup)(ha:h.get? a=some (Db ds n)):
  ∃kvs,KV P ρ es kvs/\h.DictOf (AM prog w) a kvs:=by
 refine C9 (d.kv (prog:=prog)) fun kvs k1 k2 k3=>?_
 exact⟨kvs,k1,_,ds.toArray,n,ha,⟨rfl,rfl,rfl⟩,rfl,fun e he=>k3 e (by simpa using he),by simpa using k2,Aj k1.keys nd⟩
theorem Mx{prog:B7}{w:Cc}{h:Ah}{a:Ai}(x:KV P ρ es kvs)(d:h.DictOf (AM prog w) a kvs):∃ds n,h.get? a=some (Db ds n)/\DR w P ρ es ds:=by
 refine FN fun g0 k0=>?_
 obtain⟨⟨c,dd,dt,sl⟩,ea,n,ha,⟨h1,h2,h3⟩,h4,h5,h6,h7⟩:=d
 refine k0 ?_
 dsimp only at h1 h2 h3 h4
 subst h1 h2 h3 h4
 exact RN ea.toList n (by simpa using ha) (x.dr h6 fun e he=>h5 e (by simpa using he))
end
noncomputable def Rq(W:Hx)(cdt:Ai->Option (List (Ao×V))):Prop:=∀d es,cdt d=some es->
 (es.map (·.1)).Nodup/\(d==Dl)=false/\∃ds n,W.hb.get? d=some (Db ds n)/\∀P:Ey,(∀a o,W.hb.get? a=some o->Cg o->P a o)->DR W.w P [] es ds
theorem F7.are(r:B8 P ρ xs vs):∀{k:List Ao->Prop},F7 xs k->∃ss,IZ vs ss/\k ss:=
 r.ind (M:=fun xs vs=>∀{k:List Ao->Prop},F7 xs k->∃ss,IZ vs ss/\k ss) (fun h=>Bn _ .nil h) fun a ø m ø h=>vStr.el h a fun ø ø h=>AO (m h) fun ø x q=>Bn _ (.cons _ _ x) q
theorem LA.are(r:B8 P ρ xs vs):∀{k:List Int->Prop},LA xs k->∃ss,IntsAre vs ss/\k ss:=
 r.ind (M:=fun xs vs=>∀{k:List Int->Prop},LA xs k->∃ss,IntsAre vs ss/\k ss) (fun h=>Bn _ .nil h) fun a ø m ø h=>vInt.el h a fun ø ø h=>AO (m h) fun ø x q=>Bn _ (.cons _ _ x) q
theorem v1.one{s:Ao}{k:Nat->Prop}(h:v1 s.cps.toList k):∃c,s=⟨#[c]⟩/\k c:=by
 obtain⟨⟨l⟩⟩:=s
 match l,h with
 |[c],h=>exact Bn c rfl h
theorem TD(y:Ao)(c:Nat):(!(Ax.Str.occurrences y ⟨#[c]⟩ 0 y.length 1).isEmpty)=y.cps.toList.contains c:=by
 rw[PySem.StrLaws.found_one]
 simp
theorem Dz{α:Type}[BEq α][LawfulBEq α](l:List α)(x:α):l.any (·==x)=l.contains x:=by
 induction l with
 |nil=>rfl
 |cons a l ih=>simp only[List.any_cons,Iy,ih];congr 1;exact BEq.comm
theorem KZ{prog:B7}{w:Cc}{A:Bt}{E:Ab->Ae->Prop}{s:Ae}{t:Ai}{items:Array Ab}{ys:List Ao}{i:Int}{u:Tok}{P:Fin->Ae->Prop}(hu:A.units<cLine)(ht:IsTup s.heap t items)(hi:IZ items.toList ys)(ok:ys.all Gi=true)
  (h:P (.done (.ret (.bool false))) s):Av (AD prog w) A (Ax.«tuple.__contains__» ⟨[.ref t,.int i u],[]⟩) P E s:=by
 show Av _ _ (Iu (.ref t)>>=_) _ _ s
 refine Aa (tupleItemsOf_ ht ?_)
 refine Aa (forIn_array_ _ (fun rest b s'=>b.1=none/\s'=s/\∃ms,IZ rest ms/\ms.all Gi=true) _ ?_ ?_ items _ ⟨rfl,rfl,ys,hi,ok⟩)
 ·rintro y rest b s' ⟨hb,rfl,ms,hm,hP⟩
  cases hm with
  |cons n tk hm'=>
   rw[List.all_cons,Ew] at hP
   exact Aa (eqBoolOverData _ _ _ _ _ _ _ (.str n) (.int i) _ _ _ (.str n tk) (.int i u) hP.1 rfl hu (Ac ⟨rfl,rfl,_,hm',hP.2⟩))
 ·rintro ⟨b1,b2⟩ s' ⟨hb,rfl,ms,hm,hP⟩
  simp only at hb
  subst hb
  exact Ac h
theorem J8{prog:B7}{w:Cc}{A:Bt}{E:Ab->Ae->Prop}{s:Ae}{t:Ai}{items:Array Ab}{ys:List Ao}{i:Int}{u:Tok}{Q:Bool->Ae->Prop}(hu:A.units+64<cLine)(ht:IsTup s.heap t items)(hi:IZ items.toList ys)(ok:ys.all Gi=true)
  (h:Q false s):Av (AD prog w) A (contains (.ref t) (.int i u)) Q E s:=by
 unfold contains
 refine Au ?_
 refine Aa (Bv ht.typeIs slot_tuple_contains.lookup ?_)
 refine Aj (if_neg (by decide)) ?_
 exact Aa (wpAny_callSpecialUnlessNone?_slot (name:=Cr "__contains__") ht.typeIs slot_tuple_contains
  (AZ slot_tuple_contains ht.typeIs entry_tuple_contains (KZ (by show A.units+_<_;exact OX (Lp xa (.num 1)) xb [.t (Lp xa (.num 64)) xb] As hu) ht hi ok (Bn _ rfl (By h))) (args_tuple_contains _ _)))
section
variable {T:Txt}{g:Act T}{fr:Fr}{σ τ:Sg g fr}{Q:Ab->Ae->Prop}{E:Ab->Ae->Prop}{a b:V}{u v:Ab}
theorem Q0(hC:Rq T.W T.C.cdt)(τ:Sg g fr){d:Ai}{es:List (Ao×V)}(e:T.C.cdt d=some es):
  (d==Dl)=false/\∃kvs,KV τ.k τ.ρ es kvs/\τ.s.heap.DictOf (AM T.W.prog T.W.w) d kvs:=
 Gj (hC d es e) fun nd h1 hz=>LH hz fun ø ø h2 h3=>AO (((h3 τ.k fun a o x y=>τ.hr.kd_hb x y).mono (ρ':=τ.ρ) (fun ø ø x=>x) (fun ø ø x=>by simp at x)).dictOf (prog:=T.W.prog) nd (τ.hr.old _ _ h2)) fun kvs k1 k2=>
 ⟨h1,kvs,k1,k2⟩
theorem Fx(τ:Sg g fr){i:Nat}{p:Ai×Ai}{es:List (Ao×V)}(hp:τ.ρ[i]?=some p)(e:τ.H[i]?=some (.dict es)):
  (p.2=p.1/\(p.1==Dl)=false)/\(es.map (·.1)).Nodup/\∃kvs,KV τ.k τ.ρ es kvs/\τ.s.heap.DictOf (AM T.W.prog T.W.w) p.1 kvs:=
 Gj (τ.hr.rep i p _ hp e) fun q nd hz=>LH hz fun ø ø h1 h2=>AO (h2.dictOf (prog:=T.W.prog) nd h1) fun kvs k1 k2=>
 ⟨q,nd,kvs,k1,k2⟩
noncomputable def Wp(neg:Bool):CmpOp:=if neg then .NotIn else .In
noncomputable def cO(neg:Bool):CmpOp:=if neg then .NotEq else .Eq
noncomputable def lU(neg r:Bool):Bool:=if neg then !r else r
theorem TK(neg:Bool){d:Ai}{es:List (Ao×V)}{kvs:List (Ao×Ab)}{s:Ao}{t:Tok}(hd:(d==Dl)=false)(k1:KV τ.k τ.ρ es kvs)(k2:τ.s.heap.DictOf (AM T.W.prog T.W.w) d kvs)
  {k:Bool->Prop} (f:∀r tk,k r->Q (.bool (lU neg r)) {τ.s with toks:=tk}) (q:k (es.lookup s).isSome):τ.wp (EU (Wp neg) (.str s t) (.ref d)) Q E:=by
 induction neg
 ·exact wpAny_in_of (BE T.W.prog T.W.w _ _) hd k2.mapOf (Aj k1.isSome (f _ _ q))
 ·exact wpAny_notIn_of (BE T.W.prog T.W.w _ _) hd k2.mapOf (Aj k1.isSome (f _ _ q))
set_option tactic.hygienic true in
theorem XH(neg:Bool){k:Bool->Prop}(h:lR T.C a b τ.H k)(f:∀r tk,k r->Q (.bool (lU neg r)) {τ.s with toks:=tk})(ra:τ.v a u)(rb:τ.v b v)(hC:Rq T.W T.C.cdt):
  τ.wp (EU (Wp neg) u v) Q E:=by
 induction rb using VR.casesOn with
 |tup a1 a2 a3 a4=>
  rename_i xs _ _ _ _
  have nums:(vInt a fun i=>gY i xs k)->τ.wp (EU (Wp neg) u (.ref _)) Q E:=fun h=>vInt.el h ra fun i t h=>by
   have whole:(LA xs fun l=>k (l.contains i))->τ.wp (EU (Wp neg) (.int i t) (.ref _)) Q E:=fun h=>by
    refine AO (LA.are a4 h) fun ss e q=>?_
    cases neg
    ·exact in_tuple_ints ⟨_,a1.1.1,a2,_,a3⟩ e (by rw[Dz];exact f _ _ q)
    ·exact notin_tuple_ints ⟨_,a1.1.1,a2,_,a3⟩ e (by rw[Dz];exact f _ _ q)
   cases xs with
   |nil=>exact whole h
   |cons x xs=>cases x with
    |str s=>
     refine C9 (F7.are a4 (show F7 (.str s::xs) fun l=>l.all Gi=true/\k false from h)) fun ss e ok q=>?_
     clear whole;induction neg
     ·exact Aa (J8 g.ok.room ⟨_,a1.1.1,a2,_,a3⟩ e ok (Ac (f _ _ q)))
     ·exact Aa (J8 g.ok.room ⟨_,a1.1.1,a2,_,a3⟩ e ok (Ac (f _ _ q)))
    |_=>exact whole h
  induction ra using VR.casesOn with
  |str s t=>
   refine AO (F7.are a4 h) fun ss e q=>?_
   clear nums;cases neg
   ·exact in_tuple_strs ⟨_,a1.1.1,a2,_,a3⟩ e (by rw[Dz];exact f _ _ q)
   ·exact notin_tuple_strs ⟨_,a1.1.1,a2,_,a3⟩ e (by rw[Dz];exact f _ _ q)
  |int i t=>exact nums h
  |_=>exact h.elim
 |lst a1 a2 a3 a4=>
  exact vStr.el h ra fun s t h=>by
   obtain⟨ss,e,q⟩:=F7.are a4 h
   induction neg
   ·exact in_list_strs ⟨_,a1.1.1,a2,_,by simpa using a3⟩ e (by rw[Dz];exact f _ _ q)
   ·exact notin_list_strs ⟨_,a1.1.1,a2,_,by simpa using a3⟩ e (by rw[Dz];exact f _ _ q)
 |cd d=>exact vStr.el h ra fun s t h=>vO.el h fun es e q=>Cd (Q0 hC τ e) fun hd zz=>AO zz fun ø k1 k2=>TK neg hd k1 k2 f q
 |ref hp=>exact vStr.el h ra fun s t h=>Hs.el h fun es e q=>Gj (Fx τ hp e) fun hd ø zz=>AO zz fun ø k1 k2=>TK neg hd.2 k1 k2 f q
 |str y t'=>
  exact vStr.el h ra fun s t h=>by
   refine AO (v1.one h) fun c eq1 q=>?_
   refine Aj eq1 ?_
   cases neg
   ·exact P.in_str (by rw[TD];exact f _ _ q)
   ·exact P.notIn_str (by rw[TD];exact f _ _ q)
 |_=>exact h.elim
theorem X4(neg:Bool)(h:iW a b k)(f:∀r tk,k r->Q (.bool (lU neg r)) {τ.s with toks:=tk})(ra:τ.v a u)(rb:τ.v b v):τ.wp (EU (cO neg) u v) Q E:=by
 have deep:aG a b k->τ.wp (EU (cO neg) u v) Q E:=fun h=>vO.el h fun x h1 h=>vO.el h fun y h2 zz=>Cd zz fun zy0 q=>Cd zy0 fun h3 h4=>by
  obtain⟨as,r1⟩:=O2 ra h1
  obtain⟨bs,r2⟩:=O2 rb h2
  induction neg
  ·exact eq_dataH r1 r2 h3 h4 g.ok.room (f _ τ.s.toks q)
  ·exact ne_dataH r1 r2 h3 h4 g.ok.room (f _ τ.s.toks q)
 induction ra using VR.casesOn with
 |int i t=>
  exact vInt.el h rb fun j t' q=>by
   clear deep;induction neg
   ·exact P.eq_int (f _ τ.s.toks q)
   ·exact P.ne_int (f _ τ.s.toks q)
 |str i t=>
  exact vStr.el h rb fun j t' q=>by
   have e:(i.cps.toList==j.cps.toList)=decide (i=j):=by
    rw[Bool.eq_iff_iff,beq_iff_eq,decide_eq_true_eq]
    exact⟨fun h=>congrArg Ao.mk (Array.toList_inj.mp h),fun h=>h▸rfl⟩
   clear deep;cases neg
   ·exact P.eq_str (Aj e (f _ τ.s.toks q))
   ·exact P.ne_str (by rw[bne,e];exact f _ τ.s.toks q)
 |_=>exact deep h
theorem XM(h:lS a b k)(ra:τ.v a u)(rb:τ.v b v):∃r,v=.none/\PySem.plainIs u .none=true/\(u==Bh)=r/\k r:=by
 induction rb using VR.casesOn with
 |none=>
  induction ra using VR.casesOn with
  |bi b=>exact h.elim
  |_=>exact oS _ rfl rfl rfl h
 |_=>exact h.elim
theorem Je{op:CmpOp}{k:Bool->Prop}(h:Qo T.C op a b τ.H k)(f:∀r tk,k r->Q (.bool r) {τ.s with toks:=tk})(ra:τ.v a u)(rb:τ.v b v)(hC:Rq T.W T.C.cdt):τ.wp (EU op u v) Q E:=by
 have nums:∀{c:Int->Int->Bool},(vInt a fun x=>vInt b fun y=>k (c x y))->(∀x y t t',Q (.bool (c x y)) τ.s->τ.wp (EU op (.int x t) (.int y t')) Q E)->τ.wp (EU op u v) Q E:=
  fun h m=>vInt.el h ra fun x t h=>vInt.el h rb fun y t' h=>m x y t t' (f _ τ.s.toks h)
 induction op with
 |Eq=>exact X4 false h f ra rb
 |NotEq=>exact X4 (k:=fun r=>k (!r)) true h (fun r tk=>f (!r) tk) ra rb
 |In=>exact XH false h f ra rb hC
 |NotIn=>exact XH (k:=fun r=>k (!r)) true h (fun r tk=>f (!r) tk) ra rb hC
 |Lt=>exact nums h fun ø ø ø ø=>P.lt_int
 |Gt=>exact nums h fun ø ø ø ø=>P.gt_int
 |GtE=>exact nums h fun ø ø ø ø=>P.ge_int
 |LtE=>
  induction ra using VR.casesOn with
  |str x t=>
   exact vStr.el h rb fun y t' h=>by
    refine AO (v1.one h) fun c eq1 h1=>?_
    refine Aj eq1 ?_
    refine AO (v1.one h1) fun d eq1 h2=>?_
    clear nums h;refine Aj eq1 ?_
    refine P.le_str ?_
    have e:(!decide ([d]<[c]))=decide (c<=d):=by
     rw[Bool.eq_iff_iff]
     simp only[B6,decide_eq_false_iff_not,decide_eq_true_eq,List.cons_lt_cons_iff]
     simp
    exact Aj e (f _ τ.s.toks h2)
  |int x t=>exact nums (c:=fun x y=>decide (x<=y)) h fun ø ø ø ø=>P.le_int
  |_=>exact h.elim
 |Is=>
  refine jZ (XM h ra rb) fun r eq1 h1 eq3 h2=>?_
  clear nums h;subst eq1 eq3
  exact wpAny_is_plain h1 (f _ τ.s.toks h2)
 |IsNot=>
  clear nums;obtain⟨r,rfl,h1,rfl,h2⟩:=XM h ra rb
  exact wpAny_isNot_plain h1 (f _ τ.s.toks h2)
end
theorem Sb(a b:Nat):sliceRange (a:Int) (b:Int) 1=(G9 (b-a)).map (a+·):=by
 unfold sliceRange
 have h1:((1:Int)>0):=by decide
 simp only[h1,if_true]
 have e:(if (a:Int)<(b:Int) then((b:Int)-a+1-1) / 1 else 0).toNat=b-a:=by
  split
  ·rw[Int.ediv_one,Int.add_sub_cancel];exact Int.toNat_sub b a
  ·rename_i h;exact(Nat.sub_eq_zero_of_le (Am.1 (Bu.1 h))).symm
 refine Aj e ?_
 exact List.map_congr_left fun k ø=>congrArg (fun x:Int=>((a:Int)+x).toNat) (Int.one_mul k)
theorem ZV(lo hi:Option Int)(n:Nat):Ix lo hi 1 n=(G9 (EX hi n-Cu lo n)).map (Cu lo n+·):=by
 have h:=kms_bounds lo hi n
 have e:Ix lo hi 1 n=sliceRange (sliceBounds lo hi none n).1 (sliceBounds lo hi none n).2.1 1:=rfl
 rw[e,h,Sb]
noncomputable def PR(P:Ey)(ρ:Ce):Option V->Ab->Prop
 |some v,u=>VR P ρ v u
 |none,u=>u=.none
theorem FZ.lo{P:Ey}{ρ:Ce}{o:Option V}{u:Ab}{k:Nat->Prop}(h:FZ o 0 k)(r:PR P ρ o u):
  ∃(p:Option (Int×Tok)) (a:Nat),u=D1 p/\(∀n,Cu (p.map (·.1)) n=min a n)/\(∀i t,p=some (i,t)->0<=i)/\k a:=
 match o,h,r with
 |none,h,r=>aX none 0 r (fun n=>(Nat.zero_min n).symm) nofun h
 |some _,h,r=>vInt.el h r fun i t h=>aX (some (i,t)) i.toNat rfl (fun n=>by simp[Cu,show ¬i<0 from Bu.mpr h.1.1]) (fun ø ø e=>by cases e;exact h.1.1) h.2
theorem FZ.hi{P:Ey}{ρ:Ce}{o:Option V}{u:Ab}{n:Nat}{k:Nat->Prop}(h:FZ o n k)(r:PR P ρ o u):
  ∃(p:Option (Int×Tok)) (a:Nat),u=D1 p/\EX (p.map (·.1)) n=min a n/\(∀i t,p=some (i,t)->0<=i)/\k a:=
 match o,h,r with
 |none,h,r=>aX none n r ((Nat.min_self n).symm) nofun h
 |some _,h,r=>vInt.el h r fun i t h=>aX (some (i,t)) i.toNat rfl (by simp[EX,show ¬i<0 from Bu.mpr h.1.1]) (fun ø ø e=>by cases e;exact h.1.1) h.2
theorem YC{α:Type}(l:List α)(a b:Nat):(l.drop (min a l.length)).take (min b l.length-min a l.length)=E4 l a b:=by
 unfold E4
 refine Aj List.drop_take ?_
 by_cases h:a<=l.length
 ·rw[ET h]
  by_cases h2:b<=l.length
  ·rw[ET h2]
  ·exact Aj (Gx (by exact CY xa xb [.m xb xa] As h2)) (Aj (Cm (by simp)) (Aj (Cm (by simp;exact OP xa (Lp xb xc) [.m xd xa,.l xd (Lp xb xc)] As h2 (OB _ _))) rfl))
 ·simp only[Gx (show l.length<=a from CY xa xb [.m xb xa] As h),JI,List.drop_eq_nil_of_le (show l.length<=a from CY xa xb [.m xb xa] As h),List.take_nil]
section
variable {prog:B7}{w:Cc}{A:Bt}{E:Ab->Ae->Prop}{s:Ae}
theorem Js{sl:Ai}{n:Nat}{p q:Option (Int×Tok)}{Q:Int×Int×Nat->Ae->Prop}(hs:s.heap.IsSliceOf sl (D1 p) (D1 q) .none)
  (h:Q ((Cu (p.map (·.1)) n:Nat),1,EX (q.map (·.1)) n-Cu (p.map (·.1)) n) s) (hp:∀i t,p=some (i,t)->0<=i) (hq:∀i t,q=some (i,t)->0<=i):
  Av (AD prog w) A (Ir (.ref sl) (pure (n:Int))) Q E s:=by
 refine C9 (id hs) fun os hos hcs hds=>?_
 unfold Ir Ax.Slice.sliceFields
 refine Aa (Aa (A5 hos hds (x:=D1 p) rfl (Aa (A5 hos hds (x:=D1 q) rfl (Aa (A5 hos hds (x:=.none) rfl (Ac ?_)))))))
 refine Aa (slicePart_none ?_)
 refine Aj (if_neg (by decide)) ?_
 have part:∀(p:Option (Int×Tok)) {Q:Option Int->Ae->Prop},Q (p.map (·.1)) s->Av (AD prog w) A (Ax.Slice.slicePartIndex (D1 p)) Q E s:=fun p Q h=>by
  induction p with
  |none=>exact slicePart_none h
  |some p=>obtain⟨i,t⟩:=p;exact slicePart_int h
 refine Aa (part p (Aa (part q (Aa (Ac ?_)))))
 have e:Iw (p.map (·.1)) (q.map (·.1)) 1 (n:Int)=(((Cu (p.map (·.1)) n:Nat):Int),((EX (q.map (·.1)) n:Nat):Int)):=by
  unfold Iw
  have h1:¬((1:Int)<0):=by decide
  simp only[h1,if_false]
  refine Prod.ext ?_ ?_
  ·cases p with
   |none=>rfl
   |some p=>
    obtain⟨i,t⟩:=p
    have:=hp i t rfl
    have h2:¬i<0:=Bu.2 (BV (.num 0) za [.l (.num 0) za] As this)
    simp only[Option.map_some,h2,if_false,Cu]
    exact dU this
  ·cases q with
   |none=>rfl
   |some p=>
    obtain⟨i,t⟩:=p
    have:=hq i t rfl
    have h2:¬i<0:=Bu.2 (BV (.num 0) za [.l (.num 0) za] As this)
    simp only[Option.map_some,h2,if_false,EX]
    exact dU this
 refine Aj e ?_
 have e2:∀a b:Nat,E7 (a:Int) (b:Int) 1=b-a:=fun a b=>by
  unfold E7
  have h1:(1:Int)>0:=by decide
  simp only[h1,if_true,Int.ediv_one]
  split
  ·rw[Int.sub_add_cancel];exact Int.toNat_sub b a
  ·rename_i h;exact(Nat.sub_eq_zero_of_le (Am.1 (Bu.1 h))).symm
 refine(?_:Av _ _ (pure (((Cu (p.map (·.1)) n:Nat):Int),(1:Int),E7 ((Cu (p.map (·.1)) n:Nat):Int) ((EX (q.map (·.1)) n:Nat):Int) 1)) _ _ s)
 rw[e2]
 exact Ac h
theorem HI{t sl:Ai}{items:Array Ab}{p q:Option (Int×Tok)}{Q:Ab->Ae->Prop}(ht:IsTup s.heap t items)(hs:s.heap.IsSliceOf sl (D1 p) (D1 q) .none)
  (hp:∀i t,p=some (i,t)->0<=i) (hq:∀i t,q=some (i,t)->0<=i)
  (h0:Fs items.toList (p.map (·.1)) (q.map (·.1))=items.toList->Q (.ref t) s)
  (h:Q (.ref s.heap.objs.size) {s with heap:=s.heap.push {cls:=.type "tuple",data:=.seq (Fs items.toList (p.map (·.1)) (q.map (·.1))).toArray}})
  (hsz:items.size<=Bp):Av (AD prog w) A (Jn (.ref t) (.ref sl)) Q E s:=by
 have hk:sizeOk (.seq (Fs items.toList (p.map (·.1)) (q.map (·.1))).toArray):=by
  show(Fs items.toList (p.map (·.1)) (q.map (·.1))).toArray.size<=Bp
  unfold Fs
  refine Aj FJ (Aj Gg (Aj Ez (Aj Aq ?_)))
  exact OP xa xb [.l xa xc,.l xc xd,.l xd xb] As (Gy _ _) (DK _ _) hsz
 refine C9 (id hs) fun os hos hcs hds=>?_
 have hTs:s.TypeIs (.ref sl) "slice":=Bn os hos hcs
 unfold Jn
 try with_reducible refine Au ?_
 first | refine Aa (Ac ?_) | skip
 refine Aa (LN ht.typeIs (by decide) ?_)
 refine Aa (Bb (name:=Cr "__getitem__") ht.typeIs Eg
  (AZ Eg ht.typeIs entry_tuple_getitem ?_ (args_tuple_getitem _ _)))
 refine(?_:Av _ _ (Iu (.ref t)>>=_) _ _ s)
 refine Aa (tupleItemsOf_ ht ?_)
 refine Aa (EC hTs ?_)
 refine Aj (if_pos (by decide)) ?_
 refine Aa (Js hs ?_ hp hq)
 have e1:(fun(k:Nat)=>items[(((Cu (p.map (·.1)) items.size:Nat):Int)+(k:Int)*1).toNat]?)=fun k=>items[Cu (p.map (·.1)) items.size+k]?:=by
  funext k
  congr 1
  rw[Int.mul_one];rfl
 have e2:((G9 (EX (q.map (·.1)) items.size-Cu (p.map (·.1)) items.size)).filterMap fun k=>items[Cu (p.map (·.1)) items.size+k]?)=Fs items.toList (p.map (·.1)) (q.map (·.1)):=by
  have:=pick_run items (Cu (p.map (·.1)) items.size) (EX (q.map (·.1)) items.size-Cu (p.map (·.1)) items.size)
  replace this:=List.filterMap_map▸this
  unfold Fs
  refine Aj Aq (D5 this ?_)
  rfl
 refine(?_:Av _ _ (if (((Cu (p.map (·.1)) items.size:Nat):Int)==0&&(1:Int)==1&&(EX (q.map (·.1)) items.size-Cu (p.map (·.1)) items.size)==items.size)=true then _ else _) _ _ s)
 by_cases hw:(((Cu (p.map (·.1)) items.size:Nat):Int)==0&&(1:Int)==1&&(EX (q.map (·.1)) items.size-Cu (p.map (·.1)) items.size)==items.size)=true
 ·rw[if_pos hw]
  simp only[Ew,beq_iff_eq] at hw
  have h0:=h0 (by
   unfold Fs
   refine Aj Aq (Aj hw.2 (Aj (show Cu (p.map (·.1)) items.size=0 from(AL (Am.1 (BV za (.num 0) [.e za (.num 0)] As hw.1.1)) (Am.1 (BV (.num 0) za [.f za (.num 0)] As hw.1.1)))) ?_))
   exact Cm (by simp))
  refine Aa (m:=Ax.Tuple.tupleIsExact _) (Aa (EC ht.typeIs (Ac ?_)))
  refine Aj (if_pos (by decide)) ?_
  exact Aa (CU (Ac (Bn _ rfl (Ac h0))))
 ·refine Aj (if_neg hw) (Aj e1 (Aj e2 ?_))
  first
   |exact Aa (m:=Dj _) (AP (Ac (Bn _ rfl (Ac h))) hk)
   |exact Aa (m:=Dj _) (AP (Aa (Ac (Ac ⟨_,rfl,Ac h⟩))) hk)
   |exact Aa (Aa (m:=Dj _) (AP (Ac (Ac ⟨_,rfl,Ac h⟩)) hk))
   |exact Aa (Aa (m:=Dj _) (AP (Ac ⟨_,rfl,Ac h⟩) hk))
set_option tactic.hygienic true in
theorem lL(h:∀l,Av (AD prog w) A (operate l (Jn o i)) Q E s):Av (AD prog w) A (subscripted slice false o i) Q E s:=by
 have h1:=h [i,o]
 have h0:=h [o,i]
 cases slice with
 |Slice a b c p=>induction c with
  |none=>exact h1
  |some c=>exact h0
 |_=>exact h0
theorem WN(hsl:∀l q p,slice≠.Slice l q none p):subscripted slice false o i=operate [o,i] (Jn o i):=by
 have h0:operate [o,i] (Jn o i)=operate [o,i] (Jn o i):=rfl
 cases slice with
 |Slice a b c p=>induction c with
  |none=>exact absurd rfl (hsl _ _ _)
  |some c=>exact h0
 |_=>exact h0
theorem Fk{value slice:Expr}{o i:Ab}{T id:String}{Q:Ab->Ae->Prop}(hT:s.TypeIs o T)(hl:Fa (.type T) "__getitem__"=pure (some (.builtin id)))
  (h:Av (AD prog w) A (Jn o i) Q E s):Av (AD prog w) A (D2 value slice o i) Q E s:=by
 unfold D2
 have hh:Av (AD prog w) A (Jn o i) (fun r s'=>Av (AD prog w) A (do letTemporaryGo value o r;pure r) Q E s') E s:=
  A4 h (fun r s' q=>Aa (IP (Ac q))) fun ø ø x=>x
 refine Aa (m:=getitemInPython o) ?_
 unfold getitemInPython
 refine Aa (Bv hT hl (Ac ?_))
 exact Aa (lL fun l=>wpAny_operate' hh)
end
theorem Hq(h0:0<=k)(h1:k.toNat<n):seqIndex? k n=some k.toNat:=by
 unfold seqIndex?
 have:¬k<0:=Bu.2 (BV (.num 0) za [.l (.num 0) za] As h0)
 simp[this]
 exact⟨BV (.num 0) za [.l (.num 0) za] As h0,bV za zb [.t zc zb,.l za zc] As (Bg.2 h1) (Int.self_le_toNat _)⟩
theorem KF{α:Type}{xs:List α}{a b:Nat}(h:(E4 xs a b).length=xs.length):E4 xs a b=xs:=
 ((List.drop_sublist _ _).trans (List.take_sublist _ _)).eq_of_length h
theorem VO{α:Type}(xs:List α)(a b:Nat):(E4 xs a b).length<=xs.length:=((List.drop_sublist _ _).trans (List.take_sublist _ _)).length_le
theorem Lj{α:Type}{n x y:Nat}{p q:Option (Int×Tok)}(l:List α)(hn:l.length=n)(hp:∀n,Cu (p.map (·.1)) n=min x n)(hq:EX (q.map (·.1)) n=min y n):
  (l.drop (Cu (p.map (·.1)) l.length)).take (EX (q.map (·.1)) l.length-Cu (p.map (·.1)) l.length)=E4 l x y:=by
 subst hn
 rw[hp,hq,YC]
theorem IsPart.of(p:Option (Int×Tok)):IsPart (D1 p) (p.map (·.1)):=match p with
 |none=>.none
 |some _=>.int _ _
section
variable {T:Txt}{g:Act T}{fr:Fr}{σ τ:Sg g fr}{Q:QV}{E:Ab->Ae->Prop}{a b:V}{u v:Ab}{value slice:Expr}
theorem Ot(S:σ.To τ)(k1:KV τ.k τ.ρ es kvs)(k2:τ.s.heap.DictOf (AM T.W.prog T.W.w) d kvs)
  (h:vStr b fun s=>vO (es.lookup s) fun z=>Q z τ.H) (rb:τ.v b v):τ.wp (D2 value slice (.ref d) v) (σ.P RV Q) E:=
 vStr.el h rb fun s t h=>vO.el h fun z e q=>by
  have l:=k1.look (k:=s)
  rw[e] at l
  exact AO l fun y l1 l2=>Fk k2.typeIs slot_dict_getitem.lookup (wpAny_getItem_of (BE T.W.prog T.W.w _ _) k2.mapOf l1 (S.here l2 q))
theorem item_list(S:σ.To τ)(h1:τ.s.heap.get? l=some o)(h2:o.cls=.type "list")(h3:o.data=.seq vs n)(h4:B8 τ.k τ.ρ xs vs.toList)
  (h:iY xs b fun z=>Q z τ.H) (rb:τ.v b v):τ.wp (D2 value slice (.ref l) v) (σ.P RV Q) E:=
 vInt.el h rb fun i t zz=>Cd zz fun hc h=>vO.el h fun z e q=>AO (h4.get e) fun ø g1 g2=>
  Fk ⟨_,h1,h2⟩ LK.lookup (wpAny_getItem_list ⟨_,h1,h2,_,h3⟩ hc.1 (by have:=hc.2;exact DU za (.num 9223372036854775808) [.t za (.num 4611686018427387904)] As zz.1.2) (by simpa using g1) (S.now g2 q))
theorem YW(S:σ.To τ)(hsl:∀l q p,slice≠.Slice l q none p)(h:WX T.C a b τ.H fun z=>Q z τ.H)(ra:τ.v a u)(rb:τ.v b v)(hC:Rq T.W T.C.cdt):
  τ.wp (D2 value slice u v) (σ.P RV Q) E:=by
 induction ra using VR.casesOn with
 |cd d=>exact vStr.el (G:=fun v=>τ.wp (D2 value slice (.ref d) v) (σ.P RV Q) E) h rb fun s t h=>vO.el h fun es e h=>Cd (Q0 hC τ e) fun ø zz=>AO zz fun ø k1 k2=>Ot (b:=.str s) S k1 k2 h (.str s t)
 |str s t=>
  exact vInt.el h rb fun i t' zz=>Cd zz fun hc h=>vO.el h fun c e q=>by
   have hlt:=(Aw.mp e).1
   refine Fk (Ky τ.s _ t) LF.lookup (P.getItem_str ?_ ?_ (S.here (.str _ _) q))
   ·simp only[Bool.or_eq_false_iff,decide_eq_false_iff_not];exact⟨Bu.2 (BV (.neg (.num 9223372036854775808)) za [.l (.num 0) za] As zz.1.1),Int.not_le.2 (DU za (.num 9223372036854775808) [.t za (.num 4611686018427387904)] As zz.1.2)⟩
   ·refine Aj (Hq hc.1 (by simpa [Ao.length] using hlt)) ?_
    simpa using e
 |ref hp=>
  refine vO.el h fun o e h=>?_
  induction o with
  |dict es=>exact Gj (Fx τ hp e) fun ø ø zz=>AO zz fun ø k1 k2=>Ot S k1 k2 h rb
  |list xs=>exact Cd (τ.hr.rep _ _ _ hp e) fun ø zz=>AO zz fun vs zz rr=>Eb zz fun n hl=>item_list S hl rfl rfl rr h rb
  |_=>exact h.elim
 |lst a1 a2 a3 a4=>exact item_list S a1.1.1 a2 a3 a4 h rb
 |@tup xs l o vs n a1 a2 a3 a4=>
  exact vInt.el h rb fun i t zz=>Cd zz fun hc h=>vO.el h fun z e q=>by
   refine AO (a4.get e) fun y g1 g2=>?_
   have hlt:=(Aw.mp g1).1
   refine item_tupleT (l:=vs.toList) ⟨_,a1.1.1,a2,n,by simpa using a3⟩ (BV (.neg (.num 9223372036854775808)) za [.l (.num 0) za] As zz.1.1) (by have:=hc.2;exact DU za (.num 9223372036854775808) [.t za (.num 4611686018427387904)] As zz.1.2) (Hq hc.1 hlt) g1 (S.now g2 q) (WN hsl)
 |_=>exact h.elim
noncomputable def Sg.push(τ:Sg g fr)(o:Df):Sg g fr:=⟨{τ.s with heap:=τ.s.heap.push o},τ.ρ,τ.H,(τ.hr.pushed o).1,τ.st.lr.stp g.ok.loc (τ.hr.pushed o).2.1,τ.st.hdl.stp (τ.hr.pushed o).2.1⟩
theorem Sg.to_push(τ:Sg g fr)(o:Df):τ.To (τ.push o):=⟨⟨rfl,rfl⟩,(τ.hr.pushed o).2.1⟩
noncomputable abbrev FE(l u st:Ab):Df:={cls:=.type "slice",data:=.fields #[l,u,st]}
@[elab_as_elim] theorem vSl.el{P:Ey}{ρ:Ce}{lo hi:Option V}{l' u':Ab}{n:Nat}{K:Nat->Nat->Prop}{G:Ab->Ab->Prop}(h:FZ lo 0 fun a=>FZ hi n fun b=>n<=Ap/\K a b)(rl:PR P ρ lo l')(ru:PR P ρ hi u')
  (f:∀(p:Option (Int×Tok)) (x:Nat) (q:Option (Int×Tok)) (y:Nat),(∀n,Cu (p.map (·.1)) n=min x n)->(∀i t,p=some (i,t)->0<=i)->EX (q.map (·.1)) n=min y n->(∀i t,q=some (i,t)->0<=i)->n<=Ap->K x y->G (D1 p) (D1 q)):G l' u':=by
 refine cM (FZ.lo h rl) fun p x eq1 p1 p2 h=>?_;subst eq1
 obtain⟨q,y,rfl,q1,q2,hl,h⟩:=FZ.hi h ru
 exact f p x q y p1 p2 q1 q2 hl h
set_option tactic.hygienic true in
theorem ZS{lo hi:Option V}{l' u':Ab}(S:σ.To τ)(h:gZ a lo hi fun z=>Q z τ.H)(ra:τ.v a u)(rl:PR τ.k τ.ρ lo l')(ru:PR τ.k τ.ρ hi u'):
  (τ.push (FE l' u' .none)).wp (D2 value slice u (.ref τ.s.heap.objs.size)) (σ.P RV Q) E:=by
 have S1:=S.trans (τ.to_push (FE l' u' .none))
 have hsl:(τ.s.heap.push (FE l' u' .none)).get? τ.s.heap.objs.size=some (FE l' u' .none):=Az _ rfl
 have ra:=(τ.to_push (FE l' u' .none)).v ra
 induction ra using VR.casesOn with
 |@tup xs l o vs n a1 a2 a3 a4=>
  have h:FZ lo 0 fun a=>FZ hi xs.length fun b=>xs.length<=Ap/\Q (.tup (E4 xs a b)) τ.H:=h
  revert a1 a4 S1 hsl
  refine vSl.el h rl ru fun p x q y p1 p2 q1 q2 hl h S1 hsl a1 a4=>?_
  have ln:=a4.length
  have e:Fs vs.toList (p.map (·.1)) (q.map (·.1))=E4 vs.toList x y:=Lj vs.toList ln p1 q1
  have rr:B8 _ _ (E4 xs x y) (E4 vs.toList x y):=(a4.take y).drop x
  refine Fk ⟨_,a1.1.1,a2⟩ Eg.lookup (HI ⟨_,a1.1.1,a2,_,a3⟩ (EN _ hsl rfl rfl) p2 q2 (fun w=>?_) ?_ (by rw[Aq] at ln;unfold Ap at hl;unfold Bp;exact CY xa (.num 16777216) [.e xa xb,.l xb (.num 1000000)] As ln hl))
  ·rw[e] at w
   rw[KF (by exact D5 rr.length (Aj w (Aj ln rfl)))] at h
   exact S1.now (.tup a1 a2 a3 a4) h
  ·refine Aj e ?_
   exact S1.seqT (Aj List.toList_toArray rr) h
 |@lst xs l o vs n a1 a2 a3 a4=>
  have h:FZ lo 0 fun a=>FZ hi xs.length fun b=>xs.length<=Ap/\Q (.lst (E4 xs a b)) τ.H:=h
  revert a1 a4 S1 hsl
  refine vSl.el h rl ru fun p x q y p1 p2 q1 q2 hl h S1 hsl a1 a4=>?_
  have ln:=a4.length
  have rr:B8 _ _ (E4 xs x y) (E4 vs.toList x y):=(a4.take y).drop x
  refine Fk ⟨_,a1.1.1,a2⟩ LK.lookup (Rn ⟨_,a1.1.1,a2,_,a3⟩ (EN _ hsl rfl rfl) (Internal.IsPart.of p) (Internal.IsPart.of q) .none (by simp) ?_ (by rw[Aq] at ln;unfold Ap at hl;unfold Bp;exact CY xa (.num 16777216) [.e xa xb,.l xb (.num 1000000)] As ln hl))
  rw[kms_pick_eq,show Fs vs.toList (p.map (·.1)) (q.map (·.1))=E4 vs.toList x y from Lj vs.toList ln p1 q1]
  exact S1.seqL (Aj List.toList_toArray rr) h
 |str xs t=>
  have h:FZ lo 0 fun a=>FZ hi xs.length fun b=>xs.length<=Ap/\Q (.str (Ao.cut xs a b)) τ.H:=h
  revert S1 hsl
  refine vSl.el h rl ru fun p x q y p1 p2 q1 q2 hl h S1 hsl=>?_
  have ln:xs.cps.toList.length=xs.length:=Aq
  have ei:slicePicked xs p q none=(G9 (EX (q.map (·.1)) xs.length-Cu (p.map (·.1)) xs.length)).map (Cu (p.map (·.1)) xs.length+·):=ZV _ _ _
  have pk:=Lj xs.cps.toList ln p1 q1
  refine Fk (Ky _ xs t) LF.lookup (wpAny_getItem_str_slice (l:=p) (u:=q) (st:=none) (EN _ hsl rfl rfl) rfl ?_)
  unfold sliceMade
  split
  ·rename_i hw
   have hw:=beq_iff_eq.mp (bM hw).2
   rw[ei,A0,List.length_range] at hw
   have l2:(E4 xs.cps.toList x y).length=xs.cps.toList.length:=by
    refine D5 pk (Aj Gg (Aj Ez (Aj ln (oZ hw (Ag (CZ q1) (Gy _ _))))))
   rw[show Ao.cut xs x y=xs from congrArg (fun l:List Nat=>Ao.mk l.toArray) (KF l2)] at h
   exact S1.now (.str _ _) h
  ·rw[ei,PySem.pick_run,<-ln,pk]
   refine⟨?_,S1.here (.str _ _) h⟩
   show(E4 xs.cps.toList x y).toArray.size<=Bp
   have:=VO xs.cps.toList x y
   refine Aj FJ ?_
   unfold Ap at hl
   unfold Bp
   exact Fc xa (.num 16777216) [.l xa xb,.e xb xc,.l xc (.num 1000000)] As this ln hl
 |_=>exact h.elim
theorem ZJ(S:σ.To τ)(h:Jw a fun xs=>xs.length<=Ap/\Q (.lst xs.reverse) τ.H)(ra:τ.v a u):
  (τ.push (FE .none .none (.int (-1) t))).wp (D2 value slice u (.ref τ.s.heap.objs.size)) (σ.P RV Q) E:=
 Jw.el h ((τ.to_push (FE .none .none (.int (-1) t))).v ra) fun xs l o vs n a1 a2 a3 a4 zz=>Cd zz fun hl h=>by
  have ln:=a4.length
  rw[Aq] at ln
  refine Fk ⟨_,a1.1.1,a2⟩ LK.lookup (Rn ⟨_,a1.1.1,a2,_,a3⟩ (EN _ (Az _ rfl) rfl rfl) .none .none (.int _ _) (by simp) ?_ (by unfold Ap at hl;unfold Bp;exact CY xa (.num 16777216) [.e xa xb,.l xb (.num 1000000)] As ln hl))
  rw[krv_pick]
  exact(S.trans (τ.to_push _)).seqL (by simpa using a4.rev) h
end
noncomputable def Pc(h:Ah)(bad:List Ai):List (Ai×Df):=(G9 h.objs.size).filterMap fun b=>if b∈bad then none else(h.get? b).map fun o=>(b,o)
set_option tactic.hygienic true in
theorem CX:p∈Pc h bad↔p.1∉bad/\h.get? p.1=some p.2:=by
 unfold Pc
 rw[BA]
 constructor
 ·rintro ⟨b,_,e⟩
  split at e
  ·exact nomatch e
  ·rename_i hb
   refine AO (Bc.mp e) fun o ho eq2=>?_
   clear e;subst eq2
   exact⟨hb,ho⟩
 ·rintro ⟨h1,h2⟩
  exact Bn p.1 (List.mem_range.mpr (AB h2)) (by refine Aj (if_neg h1) (Aj h2 ?_);rfl)
noncomputable abbrev Nj:Ah:=⟨#[],{}⟩
theorem Fj(a:Ai):Nj.get? a=none:=by simp[Ah.get?]
theorem X8(hn:h.Ns L m):DZ Nj L h m:=⟨hn,fun b o e=>by(rw[Fj] at e;cases e),A3 _⟩
theorem XS(h:Ah)(L:Ai):News Nj L h (Pc h [L]):=fun ø hp=>⟨(CX.mp hp).2,(fun q=>(CX.mp hp).1 (Aj q (.head _))),Fj _⟩
theorem RW(N:News Nj L h' (x++Pc h [L])):∀b o,b≠L->h.get? b=some o->h'.get? b=some o:=fun b o hb e=>
 (N (b,o) (AF _ (CX.mpr ⟨by simpa using hb,e⟩))).1
theorem FU{h:Ah}{a:Ai}{m m':Ao->Option Ab}(x:h.Ns a m)(y:h.Ns a m'):m=m':=by
 refine LI x fun o1 es1 ep1 g1 g2 ø g3=>?_
 refine LI y fun o2 es2 ep2 k1 k2 ø k3=>?_
 replace k1:=g1▸k1;obtain rfl:=Ad k1
 replace k2:=g2▸k2;cases k2
 exact funext fun z=>(g3 z).symm.trans (k3 z)
theorem Answers.of_false_none(hne:(Ds "NoneType"==Ds T)=false)(hty:typeOf (.type T)=pure (.type "type"))(hsub:isSubtype (.type "NoneType") (.type T)=pure false):
  Answers (fun s=>s.TypeIs .none "NoneType") .none (.type T) false:=
 fun ø ø ø ø ø ø s hs=>by
  obtain⟨h,g,d,t,os⟩:=s
  exact isinstance_nested_false_none hne hty hsub (hs.2 (t+1))
noncomputable def SD(v:Ab)(Tx:String)(x:V):Prop:=∀t r,V2 x t=some r->Answers (fun s=>s.TypeIs v Tx) v t.val r
theorem SD.of(h:∀t r,V2 x t=some r->(t=.tStr/\r=a)\/(t=.tTuple/\r=b)\/(t=.tList/\r=c))
  (h1:Answers (fun s=>s.TypeIs v Tx) v (.type "str") a) (h2:Answers (fun s=>s.TypeIs v Tx) v (.type "tuple") b) (h3:Answers (fun s=>s.TypeIs v Tx) v (.type "list") c):SD v Tx x:=fun t r e=>by
 rcases h t r e with⟨rfl,rfl⟩ | ⟨rfl,rfl⟩ | ⟨rfl,rfl⟩
 ·exact h1
 ·exact h2
 ·exact h3
theorem EW(ha:V2 x .tStr=some a)(hb:V2 x .tTuple=some b)(hc:V2 x .tList=some c)(t:Bi)(r:Bool)(e:V2 x t=some r):
  (t=.tStr/\r=a)\/(t=.tTuple/\r=b)\/(t=.tList/\r=c):=by
 induction t with
 |tStr=>exact .inl ⟨rfl,Ad (e.symm.trans ha)⟩
 |tTuple=>exact .inr (.inl ⟨rfl,Ad (e.symm.trans hb)⟩)
 |tList=>exact .inr (.inr ⟨rfl,Ad (e.symm.trans hc)⟩)
 |_=>cases e
section
variable {na:Na}{h:Ah}{ρ:Ce}{x:V}{v:Ab}
theorem YZ(p:plain x=true)(r:VR (Kd na h ρ) ρ x v):∃Tx,(∀s:Ae,s.heap=h->s.TypeIs v Tx)/\SD v Tx x:=by
 induction r using VR.casesOn with
 |none=>exact Bn ("NoneType") (fun ø ø=>rfl) (.of (EW rfl rfl rfl) (by with_reducible exact Answers.of_false_none rfl Es F.sub_NoneType_str) (by with_reducible exact Answers.of_false_none rfl D8 F.sub_NoneType_tuple) (by with_reducible exact Answers.of_false_none rfl DL F.sub_NoneType_list))
 |bool b=>exact Bn ("bool") (fun ø ø=>rfl) (.of (EW rfl rfl rfl) (by with_reducible exact Gu rfl Es F.sub_bool_str) (by with_reducible exact Gu rfl D8 F.sub_bool_tuple) (by with_reducible exact Gu rfl DL F.sub_bool_list))
 |int i t=>exact Bn ("int") (fun s ø=>typeIs_int s _ _) (.of (EW rfl rfl rfl) (by with_reducible exact GI rfl Es F.sub_int_str) (by with_reducible exact GI rfl D8 F.sub_int_tuple) (by with_reducible exact GI rfl DL F.sub_int_list))
 |str i t=>exact Bn ("str") (fun s ø=>Ky s _ _) (.of (EW rfl rfl rfl) (by with_reducible exact Answers.of_true Es F.sub_str_str) (by with_reducible exact Answers.of_false_str rfl D8 F.sub_str_tuple) (by with_reducible exact Answers.of_false_str rfl DL F.sub_str_list))
 |tup a1 a2 a3 a4=>exact Bn ("tuple") (fun s e=>⟨_,e▸a1.1.1,a2⟩) (.of (EW rfl rfl rfl) (by with_reducible exact Mj rfl Es F.sub_tuple_str) (by with_reducible exact Answers.of_true D8 F.sub_tuple_tuple) (by with_reducible exact Mj rfl DL F.sub_tuple_list))
 |lst a1 a2 a3 a4=>exact Bn ("list") (fun s e=>⟨_,e▸a1.1.1,a2⟩) (.of (EW rfl rfl rfl) (by with_reducible exact Answers.of_false_list rfl Es F.sub_list_str) (by with_reducible exact Answers.of_false_list rfl D8 F.sub_list_tuple) (by with_reducible exact Answers.of_true DL F.sub_list_list))
 |_=>cases p
theorem B8.one(r:B8 P ρ [x] vs):∃v,vs=[v]/\VR P ρ x v:=by
 cases r with | cons a b=>cases b;exact Bn _ rfl a
@[elab_as_elim] theorem v1.er{P:Ey}{xs:List V}{vs:List Ab}{k:V->Prop}{G:List Ab->Prop}(h:v1 xs k)(r:B8 P ρ xs vs)(f:∀x v,VR P ρ x v->k x->G [v]):G vs:=by
 induction r using B8.casesOn with
 |nil=>exact h.elim
 |cons a b=>induction b using B8.casesOn with
  |nil=>exact f _ _ a h
  |cons _ _=>exact h.elim
@[elab_as_elim] theorem v2.er{P:Ey}{xs:List V}{vs:List Ab}{k:V->V->Prop}{G:List Ab->Prop}(h:v2 xs k)(r:B8 P ρ xs vs)(f:∀x v y u,VR P ρ x v->VR P ρ y u->k x y->G [v,u]):G vs:=by
 induction r using B8.casesOn with
 |nil=>exact h.elim
 |cons a b=>induction b using B8.casesOn with
  |nil=>exact h.elim
  |cons b c=>induction c using B8.casesOn with
   |nil=>exact f _ _ _ _ a b h
   |cons _ _=>exact h.elim
@[elab_as_elim] theorem WV.er{P:Ey}{xs:List V}{vs:List Ab}{k:V->Prop}{k2:V->V->Prop}{G:List Ab->Prop}(h:WV xs k k2)(r:B8 P ρ xs vs)(f:∀x v,VR P ρ x v->k x->G [v])(f2:∀x v y u,VR P ρ x v->VR P ρ y u->k2 x y->G [v,u]):G vs:=by
 induction r using B8.casesOn with
 |nil=>exact h.elim
 |cons a b=>induction b using B8.casesOn with
  |nil=>exact f _ _ a h
  |cons b c=>induction c using B8.casesOn with
   |nil=>exact f2 _ _ _ _ a b h
   |cons _ _=>exact h.elim
@[elab_as_elim] theorem bG.el{P:Ey}{k:Bi->Prop}{G:Ab->Prop}(h:bG x k)(r:VR P ρ x v)(f:∀b,k b->G b.val):G v:=by
 induction r using VR.casesOn with
 |bi b=>exact f b h
 |_=>exact h.elim
end
section
variable {T:Txt}{g:Act T}{fr:Fr}{σ τ:Sg g fr}{Q:QV}{E:Ab->Ae->Prop}{a b:V}{u v:Ab}
theorem Za(S:σ.To τ)(h:gV a b fun r=>Q (.bool r) τ.H)(ra:τ.v a u)(rb:τ.v b v):τ.wp (call (.builtin "isinstance") [u,v]) (σ.P RV Q) E:=by
 obtain⟨hp,h⟩:=h
 refine AO (YZ hp ra) fun Tx hT ans=>?_
 induction rb using VR.casesOn with
 |bi t=>
  exact vO.el h fun r e q=>call_isinstance (S:=fun ø R s=>s.TypeIs u Tx/\∀tk,R (.ok (.ret (.bool r))) {s with toks:=tk})
   (fun pr w A R s hs=>isinstance_outer (ans t r e 0 0 pr w A R s hs) (Ae.TypeIs.not_mainsLoader hs.1)) ⟨hT _ rfl,fun tk=>S.here (.bool _) q⟩
 |@tup xs l o vs n a1 a2 a3 a4=>
  refine FN fun g0 k0=>?_
  refine Eb (a1.2.tup a2) fun us eq1=>?_
  subst eq1
  cases a3
  refine k0 ?_
  have k:∀(ws:List Ab),B8 τ.k τ.ρ xs ws->τ.s.heap.get? l=some {cls:=.type "tuple",data:=.seq ws.toArray}->τ.wp (call (.builtin "isinstance") [u,.ref l]) (σ.P RV Q) E:=fun ws a4 ho=>
   v2.er (G:=fun ws=>τ.s.heap.get? l=some {cls:=.type "tuple",data:=.seq ws.toArray}->τ.wp (call (.builtin "isinstance") [u,.ref l]) (σ.P RV Q) E) h a4 (fun x v y w rx ry h=>
    bG.el (G:=fun v=>τ.s.heap.get? l=some {cls:=.type "tuple",data:=.seq [v,w].toArray}->τ.wp (call (.builtin "isinstance") [u,.ref l]) (σ.P RV Q) E) h rx fun t h=>bG.el (G:=fun w=>τ.s.heap.get? l=some {cls:=.type "tuple",data:=.seq [t.val,w].toArray}->τ.wp (call (.builtin "isinstance") [u,.ref l]) (σ.P RV Q) E) h ry fun t' h=>vO.el h fun p e h=>vO.el h fun q e' h=>fun ho=>
     call_isinstance (isinstance_tuple (cs:=[t.val,t'.val]) (vs:=[p,q]) ⟨ans _ _ e,ans _ _ e',trivial⟩) ⟨hT _ rfl,ho,fun tk=>S.here (Aj (show[p,q].any id=(p||q) by simp) (.bool _)) h⟩) ho
  exact k vs.toList a4 a1.1.1
 |_=>exact h.elim
theorem Zp(S:σ.To τ)(h:gW a τ.H fun z=>Q z τ.H)(ra:τ.v a u):τ.wp (call (.builtin "len") [u]) (σ.P RV Q) E:=by
 have seq:(Yo τ.H a fun xs=>xs.length<=Ap/\Q (.int xs.length) τ.H)->τ.wp (call (.builtin "len") [u]) (σ.P RV Q) E:=fun h=>Yo.el h τ.hr ra fun xs l o vs n h1 h2 h3 h4 zz=>Cd zz fun hl q=>by
  have ln:=h4.length
  replace ln:=Aq▸ln
  rw[<-ln] at q hl
  rcases h2 with h2 | h2
  ·exact Calls.call_len_list ⟨_,h1,h2,_,h3⟩ (by unfold Ap at hl;exact DU za (.num 9223372036854775808) [.l za (.num 1000000)] As (Am.2 hl)) (S.here (.int _ _) q)
  ·exact len_tuple ⟨_,h1,h2,_,h3⟩ (by unfold Ap at hl;exact DU za (.num 9223372036854775808) [.l za (.num 1000000)] As (Am.2 hl)) (S.here (.int _ _) q)
 induction ra using VR.casesOn with
 |str s t=>exact P.len_str (by have:=h.1;unfold Ap at this;exact Int.not_le.2 (DU za (.num 9223372036854775808) [.l za (.num 1000000)] As (Am.2 this))) (S.here (.int _ _) h.2)
 |tup a1 a2 a3 a4=>exact seq h
 |lst a1 a2 a3 a4=>exact seq h
 |ref hp=>exact seq h
 |_=>exact h.elim
set_option tactic.hygienic true in
theorem Zs(S:σ.To τ)(hh:g.ct.A.handled=none)(h:gX as fun z=>Q z τ.H)(ra:B8 τ.k τ.ρ as vs):τ.wp (call (.builtin "min") vs) (σ.P RV Q) E:=by
 induction ra using B8.casesOn with
 |nil=>exact h.elim
 |cons r1 ra=>induction ra using B8.casesOn with
  |nil=>exact h.elim
  |cons r2 ra=>induction ra using B8.casesOn with
   |nil=>
    exact vInt.el h r1 fun i t h=>vInt.el h r2 fun j t' h=>min_two_ints hh fun h' tk k=>by
     split
     ·rename_i q;rw[if_pos q] at h;exact S.grown k (.int _ _) h
     ·rename_i q;rw[if_neg q] at h;exact S.grown k (.int _ _) h
   |cons r3 ra=>induction ra using B8.casesOn with
    |nil=>
     exact vInt.el h r1 fun i t h=>vInt.el h r2 fun j t' h=>vInt.el h r3 fun l t'' h=>min_three_ints hh fun h' tk k=>by
      split
      ·rename_i q;rw[if_pos q] at h
       split
       ·rename_i q;rw[if_pos q] at h;exact S.grown k (.int _ _) h
       ·rename_i q;rw[if_neg q] at h;exact S.grown k (.int _ _) h
      ·rename_i q;rw[if_neg q] at h
       split
       ·rename_i q;rw[if_pos q] at h;exact S.grown k (.int _ _) h
       ·rename_i q;rw[if_neg q] at h;exact S.grown k (.int _ _) h
    |cons _ _=>exact h.elim
theorem gL:((toString (0:Int):String):Ao)=⟨#[48]⟩:=by decide+kernel
theorem J9:∀{l:List Ao},risingS p l=true->(p::l).Pairwise fun a b=>ltCps b.cps.toList a.cps.toList=false
 |[]=>fun ø=>List.pairwise_singleton ..
 |x::r=>fun h=>by
  have h:=bM h
  have ih:=J9 h.2
  have hx:ltCps x.cps.toList p.cps.toList=false:=(B6 _).mp h.1
  refine List.pairwise_cons.mpr ⟨fun y hy=>?_,ih⟩
  rcases Al.mp hy with rfl | hy
  ·exact hx
  ·have hy:=(List.pairwise_cons.mp ih).1 y hy
   rw[ltCps_eq,decide_eq_false_iff_not,List.not_lt] at*
   exact List.le_trans hx hy
theorem WD{a b:List Ao}(h:a.Perm b)(ha:sortedS a=true)(hb:b.Pairwise fun a b=>ltCps b.cps.toList a.cps.toList=false):a=b:=by
 refine List.Perm.eq_of_pairwise (le:=fun a b=>ltCps b.cps.toList a.cps.toList=false) (fun x y ø ø p q=>?_) ?_ hb h
 ·rw[ltCps_eq,decide_eq_false_iff_not,List.not_lt] at p q
  have:=List.le_antisymm p q
  clear q p;induction x;induction y
  congr
  exact Array.toList_inj.mp this
 ·induction a with
  |nil=>exact .nil
  |cons=>exact J9 ha
theorem B8.strs(h:IZ vs ss):B8 P ρ (ss.map .str) vs:=by
 induction h with
 |nil=>exact .nil
 |cons x t _ ih=>exact .cons (.str x t) ih
theorem Rb:∀{vs:List Ab} {kvs:List (Ao×Ab)},vs.length=kvs.length->(∀(j:Nat) (v:Ab),vs[j]?=some v->∃k x,kvs[j]?=some (k,x)/\(AM prog w).is k v=true)->IZ vs (kvs.map (·.1))
 |[],[]=>fun ø ø=>.nil
 |[],_::_=>fun h ø=>nomatch h
 |_::_,[]=>fun h ø=>nomatch h
 |v::vs,(k,x)::kvs=>fun h f=>by
  refine LH (f 0 v rfl) fun k' x' e hi=>?_
  cases e
  obtain⟨t,rfl⟩:=Ab.isStrOf_shape hi
  exact .cons k t (Rb (Nat.succ.inj h) fun j v e=>f (j+1) v e)
theorem Sf(S:σ.To τ)(hh:g.ct.A.handled=none){i:Nat}{p:Ai×Ai}{es:List (Ao×V)}(hp:τ.ρ[i]?=some p)(e:τ.H[i]?=some (.dict es))(hn:es.length<=60)
  (ho:(es.map (·.1)).Pairwise fun a b=>ltCps b.cps.toList a.cps.toList=false) (q:Q (.lst ((es.map (·.1)).map .str)) τ.H):τ.wp (call (.builtin "sorted") [.ref p.1]) (σ.P RV Q) E:=by
 refine FN fun g0 k0=>?_
 refine Gj (Fx τ hp e) fun zz1 nd zz2=>AO zz2 fun kvs k1 k2=>Cd zz1 fun ø lo=>?_
 obtain⟨ep,hat⟩:=k2.dictAt
 refine k0 ?_
 have hloc:=g.ok.loc
 obtain⟨m,hm⟩:=(τ.hr.nam _ hloc).2.2
 have kl:=k1.length
 refine kdu_sorted (kdl_dict (knd:=AM T.W.prog T.W.w) (kvs:=kvs) (ep:=ep) lo) hh (X8 hm) (XS _ _) hat (by refine Aj kl (Aj sizeLine_eq ?_);exact GK xa (.num 16777216) [.l xa (.num 60)] As hn) fun D h' tk vs F' N' lD hl hv=>?_
 have hD:=N' _ (.head _)
 have hS:IZ vs (es.map (·.1)):=k1.keys▸Rb hl hv
 refine AZ slot_list_sort (Bn _ hD.1 rfl) entry_list_sort (list_sort_treeK strKind_oneLt hD.1 hS.keysOf (fun v₁ v₂ rest e=>keyKind_strs (D5 e hS)) (by refine Aj hl (Aj kl ?_);exact V7 xa (.num 64) [.l xa (.num 60)] As hn) fun st' a1 a2=>⟨_,rfl,?_⟩) (args_list_sort _)
 refine C9 (sorted_out_str hS a1 a2) fun ss' h1 h2 h3=>?_
 obtain rfl:=WD h2 h3 ho
 have keep:∀b o,b≠g.ct.env.locals->τ.s.heap.get? b=some o->b≠D/\(Kw h' D vs ((arrOf st').map (·.2))).get? b=some o:=fun b o hb e=>by
  have hm:=CX (p:=(b,o)) (bad:=[g.ct.env.locals]) |>.mpr ⟨by simpa using hb,e⟩
  have e':=(N' _ (.tail _ hm)).1
  have ne:=AW (lD _ hm)
  exact⟨ne,(sortedHeap_old ne (AB e')).trans e'⟩
 have Lo:∀b o,b∉g.ct.na.l->τ.s.heap.get? b=some o->b≠D/\(Kw h' D vs ((arrOf st').map (·.2))).get? b=some o:=fun b o hb=>keep b o fun q=>hb (q▸hloc)
 have ns:∀a∈g.ct.na.l,∀m,τ.s.heap.Ns a m->a≠D/\(Kw h' D vs ((arrOf st').map (·.2))).Ns a m:=fun a ø m' n=>by
  by_cases q:a=g.ct.env.locals
  ·subst q
   refine Aj (FU n hm) ?_
   exact⟨hD.2.1.symm,F'.ns.at' fun o e=>(sortedHeap_old hD.2.1.symm (AB e)).trans e⟩
  ·refine VT (id n) fun o ø ø ho ø=>?_
   exact⟨(keep a o q ho).1,n.at' fun o e=>(keep a o q e).2⟩
 obtain⟨n',hd⟩:=sortedHeap_at (out:=(arrOf st').map (·.2)) hD.1
 have S':Ek g.ct.na τ.s.heap τ.ρ (Kw h' D vs ((arrOf st').map (·.2))) τ.ρ:=.of (fun b o hb e=>(Lo b o hb e).2) fun a ha m n=>(ns a ha m n).2
 have nD:D∉g.ct.na.l:=fun q=>Eb ((τ.hr.nam D q).2.2) fun m n=>(ns D q m n).1 rfl
 refine S.end (s':={τ.s with heap:=Kw h' D vs ((arrOf st').map (·.2)),toks:=tk}) ⟨rfl,rfl⟩ S' (τ.hr.keeps (fun b o hb e=>(Lo b o hb e).2) fun a ha m n=>(ns a ha m n).2) (.lst ⟨⟨hd,fun q=>?_,nD⟩,.inr (.inl ⟨rfl,_,_,rfl⟩),fun q=>?_⟩ rfl rfl (B8.strs h1)) q
 ·obtain⟨o,e⟩:=τ.hr.mu_there q
  exact(Lo D o nD e).1 rfl
 ·refine Cd (τ.hr.exl D q) fun ø zz1=>AO zz1 fun o x ø=>?_
  exact(Lo D o nD x.1).1 rfl
theorem CW(h:T.C.hd=false):∀{τ:Sg g fr},g.ct.A.handled=none:=fun {τ}=>by have:=τ.st.hdl;rw[h] at this;exact this
theorem Yz(S:σ.To τ){f:Bi}{as:List V}{vs:List Ab}(h:gU T.C.hd f as τ.H fun z=>Q z τ.H)(ra:B8 τ.k τ.ρ as vs):τ.wp (call f.val vs) (σ.P RV Q) E:=by
 induction f with
 |len=>exact v1.er h ra fun x v r h=>Zp S h r
 |isi=>exact v2.er h ra fun x v y u rx ry h=>Za S h rx ry
 |abs=>exact v1.er h ra fun x v r h=>vInt.el h r fun i t h=>call_abs_int fun u tk=>S.here (.int _ _) h
 |min=>exact Zs S (CW h.1 (τ:=τ)) h.2 ra
 |ord=>exact v1.er h ra fun x v r h=>vStr.el h r fun s t h=>AO (v1.one h) fun ø e q=>e▸P.ord_of_char (S.here (.int _ _) q)
 |sorted=>exact v1.er h.2 ra fun x v r k=>HL.el k r fun i p hp k=>Hs.el k fun es e q=>Sf S (CW h.1 (τ:=τ)) hp e q.1.1 q.1.2 q.2
 |tStr=>
  exact v1.er h ra fun x v r h=>vInt.el h r fun i t zz=>Cd zz fun e q=>by
   subst e
   exact PySem.P.str_of_int (by decide) (Aj gL (S.here (.str _ _) q))
 |_=>exact h.elim
end
noncomputable def Bf(x:Expr):Bool:=!Nat.beq x.ctorIdx 22
noncomputable def Eu(x:Expr):Bool:=!Nat.beq x.ctorIdx 16
noncomputable def Ow(x:Expr):Bool:=!Nat.beq x.ctorIdx 26
noncomputable def EJ(x:Expr):Bool:=!Nat.beq x.ctorIdx 7
theorem H9(h:Bf x=true):Du (x::rest) env=(false,FO x env)::Du rest env:=by
 cases x<;>first | rfl | cases h
theorem MR(h:Eu o=true):attributeBase o attr env w=w:=by
 cases o<;>first | rfl | cases h
theorem QG(h:EJ x=true):behindInMarks op x=false:=by
 cases x<;>first | rfl | cases h
noncomputable def Mk(W:Hx)(ct:Ct)(s:Ae)(ρ:Ce)(Q:QV)(X:EV)(r:Result)(s':Ae):Prop:=match r with
 |.ok (.ret u)=>∃ρ' H' v,CO s s'/\Ek ct.na s.heap ρ s'.heap ρ'/\HR W.w W.hb ct.na s'.heap ρ' H'/\VR (Kd ct.na s'.heap ρ') ρ' v u/\Q v H'
 |.ok _=>False
 |.error e=>∃c H',CO s s'/\OU W ct s.heap ρ c H' e s'/\X c H'
noncomputable def K2(W:Hx)(C:FP)(n:Nat):Prop:=∀ct s ρ H hd a vs us Q X,GS n ct->HR W.w W.hb ct.na s.heap ρ H->OW ct.A ct.na s.heap ρ hd->B8 (Kd ct.na s.heap ρ) ρ vs us->
 C.call hd a vs H Q X->HZ W.K (.ref a)=true/\BY W.M ct.A (.call (.ref a) ⟨us,[]⟩) (Mk W ct s ρ Q X) s
noncomputable def XP(K:CD)(a:Ai):Option Df:=@List.rec (Ai×Df) (fun ø=>Option Df) none (fun p ø ih=>@Prod.rec Ai Df (fun ø=>Option Df) (fun b o=>@Dw (fun ø=>Option Df) ih (some o) (Nat.beq a b)) p) K
theorem pD(a b:Nat):(a==b)=Nat.beq a b:=Bool.eq_iff_iff.mpr (beq_iff_eq.trans ⟨fun h=>h▸Nat.beq_refl a,Nat.eq_of_beq_eq_true⟩)
theorem Ub(a:Ai):∀K:CD,XP K a=BP a K
 |[]=>rfl
 |(b,o)::r=>by
  rw[B1,<-Ub a r,pD]
  show @Dw (fun ø=>Option Df) (XP r a) (some o) (Nat.beq a b)=_
  cases Nat.beq a b<;>rfl
theorem bA{K:CD}{a:Ai}{o:Df}(h:XP K a=some o):BP a K=some o:=(Ub a K).symm.trans h
theorem N8(a b:Ao):(a==b)=HC a b:=Bool.eq_iff_iff.mpr (beq_iff_eq.trans Fast.sEq_iff.symm)
noncomputable def Ra{β:Type}(l:List (Ao×β))(x:Ao):Option β:=@List.rec (Ao×β) (fun ø=>Option β) none (fun p ø ih=>@Prod.rec Ao β (fun ø=>Option β) (fun y b=>@Dw (fun ø=>Option β) ih (some b) (HC x y)) p) l
theorem Jt{β:Type}(x:Ao):∀l:List (Ao×β),Ra l x=BP x l
 |[]=>rfl
 |(y,b)::r=>by
  rw[B1,<-Jt x r,N8]
  show @Dw (fun ø=>Option β) (Ra r x) (some b) (HC x y)=_
  cases HC x y<;>rfl
theorem Dp{α β:Type}[BEq α][LawfulBEq α]{a:α}{b:β}:∀{l:List (α×β)},l.lookup a=some b->(a,b)∈l
 |[]=>fun e=>nomatch e
 |(y,d)::l=>fun e=>by
  rw[B1] at e
  cases hb:a==y with
  |true=>
   rw[hb] at e
   refine Aj (Ad e) ?_
   exact Aj (beq_iff_eq.mp hb) (.head _)
  |false=>rw[hb] at e;exact .tail _ (Dp e)
theorem H8{β:Type}{x:Ao}{b:β}{l:List (Ao×β)}(h:Ra l x=some b):(x,b)∈l:=Dp ((Jt _ _).symm.trans h)
noncomputable def bD(a b:Ao):Bool:=!Fast.sEq a b
theorem Ug(a b:Ao):bD a b=(a !=b):=congrArg _ (N8 a b).symm
noncomputable def W4(x:Ao)(l:List Ao):Bool:=@List.rec Ao (fun ø=>Bool) true (fun y ø ih=>@Dw (fun ø=>Bool) ih false (HC x y)) l
noncomputable def iL(l:List Ao):Bool:=@List.rec Ao (fun ø=>Bool) true (fun x t ih=>@Dw (fun ø=>Bool) false ih (W4 x t)) l
noncomputable def nI:Ab->Nat
 |.str s _=>Fast.code s.cps.toList
 |_=>0
theorem Zf{v:Ab}{n:Ao}(h:v.isStr n=true):nI v=Fast.code n.cps.toList:=by
 induction v with
 |str s t=>exact congrArg (fun s:Ao=>Fast.code s.cps.toList) (A6 h)
 |_=>exact absurd h AH
noncomputable def nO(fin:Option (Option Ab))(n:Ao)(l:List BK):Option (Option Ab):=@List.rec BK (fun ø=>Option (Option Ab)) fin (fun e ø ih=>@Dw (fun ø=>Option (Option Ab)) ih (@Dw (fun ø=>Option (Option Ab)) ih (some (some e.val)) (e.key.isStr n)) (Nat.beq (nI e.key) (Fast.code n.cps.toList))) l
theorem pE{c d:Bool}{x y:Option (Option Ab)}(h:d=true->c=true):@Dw (fun ø=>Option (Option Ab)) x (@Dw (fun ø=>Option (Option Ab)) x y d) c=@Dw (fun ø=>Option (Option Ab)) x y d:=by
 cases d with
 |true=>rw[h rfl]
 |false=>cases c<;>rfl
theorem Ui(fin:Option (Option Ab))(n:Ao):∀l:List BK,nO fin n l=match l.find? (·.key.isStr n) with
  |some e=>some (some e.val)
  |none=>fin
 |[]=>rfl
 |d::r=>by
  rw[List.find?_cons]
  refine(pE fun h=>Zf h▸Nat.beq_refl _).trans ?_
  cases d.key.isStr n with
  |true=>rfl
  |false=>exact Ui fin n r
noncomputable def X6:Data->Option DT
 |.func fd=>some fd
 |_=>none
theorem kW{α:Type}{x:α}{P:Prop}(h:none=some x):P:=nomatch h
theorem X6.el{d:Data}{fd:DT}(h:X6 d=some fd):d=.func fd:=by
 induction d with
 |func f=>exact congrArg _ (Ad h)
 |_=>exact kW h
noncomputable def VP:Data->Option (Array BK)
 |.dict es _=>some es
 |_=>none
theorem VP.el{d:Data}{l:Array BK}(h:VP d=some l):∃k,d=.dict l k:=by
 induction d with
 |dict es k=>exact⟨k,congrArg (Data.dict · k) (Ad h)⟩
 |_=>exact kW h
noncomputable def iU(K:CD)(a:Ai)(n:Ao):Option (Option Ab):=(XP K a).bind fun o=>(VP o.data).bind fun es=>nO (if es.toList.any (·.refKey) then none else some none) n es.toList
theorem eJ{K:CD}{a:Ai}{o:Df}{es:Array BK}{k:Nat}{n:Ao}(z:BP a K=some o)(e:o.data=.dict es k):nsIn K a n=match es.toList.find? (·.key.isStr n) with
  |some e=>some (some e.val)
  |none=>if es.toList.any (·.refKey) then none else some none:=by
 induction o with | mk c d dd sl=>
 unfold nsIn;rw[z,show dd=_ from e];rfl
theorem W8{K:CD}{a:Ai}{n:Ao}{r:Option Ab}(h:iU K a n=some r):nsIn K a n=some r:=
 AO (BC.mp h) fun o h1 h'=>AO (BC.mp h') fun es h2 h3=>Eb (VP.el h2) fun k e=>
  (eJ (bA h1) e).trans ((Ui _ _ _).symm.trans h3)
theorem Nn{K:CD}{a:Ai}{o:Df}{fd:DT}(e1:BP a K=some o)(e2:o.data=.func fd):HZ K (.ref a)=true/\fnIn K a=true:=by
 induction o with | mk c d dd sl=>
 unfold HZ fnIn;dsimp only;rw[e1,show dd=_ from e2];exact⟨rfl,rfl⟩
theorem WR{K:CD}{v:Ab}(h1:specialIn K v "__set__"=some none)(h2:specialIn K v "__delete__"=some none):takesIn K v=some false:=by
 unfold takesIn;rw[h1,h2];rfl
noncomputable def iP(K:CD)(f:Ai):Bool:=(XP K f).any fun o=>o.cls==.type "function"&&(X6 o.data).isSome
theorem iP.out{K:CD}{f:Ai}(h:iP K f=true):typeIn K (.ref f)=some (.type "function")/\specialIn K (.ref f) "__get__"=some (some (.builtin "function.__get__"))/\takesIn K (.ref f)=some false/\fnIn K f=true:=
 AO ((Option.any_eq_true _ _).mp h) fun o e h=>Cd (bM h) fun h1 h2=>Eb (FB.mp h2) fun fd h2=>
  have t:typeIn K (.ref f)=some (.type "function"):=(congrArg (Option.map Df.cls) (bA e)).trans (congrArg some (A6 h1))
  have sp:∀n,specialIn K (.ref f) n=fastLookup "function" n:=fun n=>congrArg (fun x=>Option.bind x fun t=>GP K t n) t
  ⟨t,(sp _).trans (by decide+kernel),WR ((sp _).trans (by decide+kernel)) ((sp _).trans (by decide+kernel)),(Nn (bA e) (X6.el h2)).2⟩
noncomputable def KW(K:CD)(Cl:Ai)(name:Ao):Bool:=
 plainGet K Cl name&&hasDictIn K Cl&&GP K (.ref Cl) name==some none&&GP K (.ref Cl) "__setattr__"==some (some (.builtin "object.__setattr__"))&&plainOver K Cl&&takerIn K Cl name==some none
noncomputable def Ip(K:CD)(Cl:Ai)(name:Ao)(f:Ai):Bool:=
 plainGet K Cl name&&hasDictIn K Cl&&GP K (.ref Cl) name==some (some (.ref f))&&(iP K f&&!copiedNames.contains name)
structure Et (T:Txt):Prop where
 wok:Xo T.W
 cd:Rq T.W T.C.cdt
 call:K2 T.W T.C T.n
 sys:∃c o,Dl<c/\T.W.hb.get? c=some o
 fld:∀K name,T.C.fld K name=true->KW T.W.K K name=true
 meth:∀K name f,T.C.meth K name=some f->Ip T.W.K K name f=true
 isFn:∀a,T.C.isFn a=true->fnIn T.W.K a=true
noncomputable abbrev RB:Rl Bool Bool:=fun ø ø a b=>a=b
noncomputable abbrev jC:Rl (Option V) Ab:=PR
section
variable (T:Txt)
noncomputable def AS(e:E)(x:Expr):Prop:=∀(g:Act T) (fr:Fr) (σ:Sg g fr) Q X,vE T.C e fr σ.H Q X->σ.wp (FO x g.ct.env) (σ.P RV Q) (σ.E X)
noncomputable def FC(e:E)(x:Expr):Prop:=∀(g:Act T) (fr:Fr) (σ:Sg g fr) (Q:Bool->MH->Prop) X,vE T.C e fr σ.H (fun x H=>vBool x fun b=>Q b H) X->σ.wp (isTrue x g.ct.env (FO x g.ct.env)) (σ.P RB Q) (σ.E X)
noncomputable def E2(es:List E)(xs:List Expr):Prop:=∀(g:Act T) (fr:Fr) (σ:Sg g fr) pos Q X,OL T.C es fr σ.H Q X->σ.wp (spliced (GO pos (Du xs g.ct.env))) (σ.P nX fun vs H=>vs.length=es.length/\Q vs H) (σ.E X)
noncomputable def SK(e:Option E)(x:Option Expr):Prop:=∀(g:Act T) (fr:Fr) (σ:Sg g fr) Q X,lT T.C e fr σ.H Q X->σ.wp (evalPart x g.ct.env) (σ.P jC Q) (σ.E X)
noncomputable def KB(op:BoolOp)(e:E)(ys:List Expr):Prop:=∀(g:Act T) (fr:Fr) (σ:Sg g fr) (Q:Bool->MH->Prop) X,vE T.C e fr σ.H (fun x H=>vBool x fun b=>Q b H) X->σ.wp (allTrue op ys g.ct.env) (σ.P RB Q) (σ.E X)
noncomputable def Mr(op:BoolOp)(pos:Pos)(e:E)(ys:List Expr):Prop:=∀(g:Act T) (fr:Fr) (σ:Sg g fr) Q X,vE T.C e fr σ.H Q X->σ.wp (boolOp pos op (evalEach ys g.ct.env)) (σ.P RV Q) (σ.E X)
end
section
variable {T:Txt}{a b c e t:Internal.E}{x y xa xb xc xt:Expr}{es:List Internal.E}{xs ys:List Expr}{pos:Pos}{op:E8}{cop o1 o2:CmpOp}{VH:BoolOp}
theorem Sg.kin{g:Act T}{fr:Fr}(k:Et T)(σ:Sg g fr):T.W.K.In σ.s.heap:=k.wok.kin.keeps σ.hr.old
theorem FW:E2 T [] []:=fun ø ø σ ø ø ø h=>II ((Sg.To.refl σ).now .nil ⟨rfl,h⟩)
theorem Eo(hx:Bf x=true)(ha:AS T a x)(hb:E2 T es xs):E2 T (a::es) (x::xs):=fun g fr σ pos Q X h=>by
 refine Aj (H9 hx) ?_
 exact Iv (sq (.refl σ) (ha g fr σ _ _ h) fun τ v u S r h=>sq S (hb g fr τ pos _ _ h) fun υ vs us S2 rs h=>(S.trans S2).now (.cons (S2.v r) rs) ⟨congrArg (·+1) h.1,h.2⟩)
theorem eX(ha:AS T a xa)(hb:AS T b xb):AS T (.bin op a b) (.BinOp xa op xb pos):=fun g fr σ ø ø h=>
 wpAny_BinOp (sq (.refl σ) (ha g fr σ _ _ h) fun τ ø ø S r h=>sq S (hb g fr τ _ _ h) fun ø ø ø S2 r2 h=>Yx (S.trans S2) h (S2.v r) r2)
theorem eY(k:Et T)(hs:EJ xb=true)(ha:AS T a xa)(hb:AS T b xb):AS T (.cmp cop a b) (.Compare xa [cop] [xb] pos):=fun g fr σ ø ø h=>
 wpAny_Compare1 (sq (.refl σ) (ha g fr σ _ _ h) fun τ ø ø S r h=>sq S (hb g fr τ _ _ h) fun υ ø ø S2 r2 h=>Je h (fun r ø q=>(S.trans S2).here (.bool r) q) (S2.v r) r2 k.cd) (QG hs)
theorem gO(k:Et T)(hs:EJ xb=true)(ha:AS T a xa)(hb:AS T b xb):FC T (.cmp cop a b) (.Compare xa [cop] [xb] pos):=fun g fr σ ø ø h=>
 wpAny_isTrue_Compare1 (sq (.refl σ) (ha g fr σ _ _ h) fun τ ø ø S r h=>sq S (hb g fr τ _ _ h) fun υ ø ø S2 r2 h=>Je h (fun r ø q=>By ((S.trans S2).here (R:=RB) rfl q)) (S2.v r) r2 k.cd) (QG hs)
theorem Hi(h:n<=Ap):n<=Bp:=Ag h (by decide)
theorem Yc(hl:es.length<=Ap)(ha:E2 T es xs):AS T (.tup es) (.Tuple xs k pos):=fun g fr σ ø ø h=>
 wpAny_Tuple (sq (.refl σ) (ha g fr σ pos _ _ h) fun τ ø ø S r h=>⟨Hi (r.length▸h.1▸hl),S.seqT (by simpa using r) h.2⟩)
theorem fF{mu:Bool}(hl:es.length<=Ap)(ha:E2 T es xs):AS T (.lst mu es) (.List xs pos):=fun g fr σ ø ø h=>
 wpAny_List (sq (.refl σ) (ha g fr σ pos _ _ h) fun τ ø ø S r h=>⟨Hi (r.length▸h.1▸hl),S.seqK (by simpa using r) h.2⟩)
theorem fD(k:Et T)(hs:Ow xb=true)(ha:AS T a xa)(hb:AS T b xb):AS T (.idx a b) (.Subscript xa xb pos):=fun g fr σ ø ø h=>
 Subscript_ (sq (.refl σ) (ha g fr σ _ _ h) fun τ ø ø S r h=>sq S (hb g fr τ _ _ h) fun υ ø ø S2 r2 h=>YW (S.trans S2) (by rintro l q p rfl;cases hs) h (S2.v r) r2 k.cd)
theorem fG(ha:AS T a x):AS T (.neg a) (.UnaryOp .USub x pos):=fun g fr σ ø ø h=>
 wpAny_UnaryOp (sq (.refl σ) (ha g fr σ _ _ h) fun τ ø ø S r h=>vInt.el h r fun ø ø h=>P.neg_int (S.here (.int _ _) h))
theorem fH(ha:AS T a x):AS T (.not a) (.UnaryOp .Not x pos):=fun g fr σ ø ø h=>
 wpAny_UnaryOp (sq (.refl σ) (ha g fr σ _ _ h) fun τ ø ø S r h=>vBool.el h r fun b h=>by
  unfold unaryOp
  exact Aa (By (Ac (S.now (.bool _) h))))
noncomputable def PU(x:Expr):Bool:=[23,16,19,21,20].contains x.ctorIdx
theorem aB(h:PU x=true)(ha:AS T a x):FC T a x:=fun g fr σ ø ø k=>
 wpAny_isTrue_value (sq (.refl σ) (ha g fr σ _ _ k) fun τ ø ø S r h=>vBool.el h r fun b h=>By (S.now (R:=RB) rfl h)) (by cases x<;>first | rfl | cases h)
theorem gP(ha:FC T a x):FC T (.not a) (.UnaryOp .Not x pos):=fun g fr σ Q X h=>
 wpAny_isTrue_Not (sq (.refl σ) (ha g fr σ (fun b H=>Q (!b) H) X h) fun τ v u S r h=>r▸S.now (R:=RB) rfl h)
theorem tw{g:Act T}{fr:Fr}{τ:Sg g fr}{v u:Bool}{p q A B:Prop}(r:RB τ.k τ.ρ v u)(h:vB (.bool v) p q)(f:p->A)(k:q->B):if u=true then A else B:=by
 cases (r:v=u)
 induction v with
 |true=>exact f (h.1 rfl)
 |false=>exact k (h.2 rfl)
theorem gN(ha:FC T a x)(hb:KB T .And b ys):FC T (.and a b) (.BoolOp .And (x::ys) pos):=fun g fr σ Q X h=>
 wpAny_isTrue_BoolOp (Sz (sq (.refl σ) (ha g fr σ (fun v H=>vB (.bool v) (vE T.C b fr H _ X) (Q false H)) X h) fun τ v u S r h=>
  tw r h (fun h=>S.up (hb g fr τ Q X h)) fun h=>S.now (R:=RB) rfl h))
theorem lM(ha:FC T a x)(hb:KB T .Or b ys):FC T (.or a b) (.BoolOp .Or (x::ys) pos):=fun g fr σ Q X h=>
 wpAny_isTrue_BoolOp (wpAny_allTrue_Or_cons (sq (.refl σ) (ha g fr σ (fun v H=>vB (.bool v) (Q true H) (vE T.C b fr H _ X)) X h) fun τ v u S r h=>
  tw r h (fun h=>S.now (R:=RB) rfl h) fun h=>S.up (hb g fr τ Q X h)))
theorem Ql(hb:FC T b y):KB T .And b [y]:=fun g fr σ Q X h=>
 Sz (sq (.refl σ) (hb g fr σ Q X h) fun τ v u S r h=>by
  cases (r:v=u)
  induction v with
  |true=>rw[if_pos rfl];exact wpAny_allTrue_And_nil (S.now (R:=RB) rfl h)
  |false=>rw[if_neg AH];exact S.now (R:=RB) rfl h)
theorem Sh(hb:FC T b y):KB T .Or b [y]:=fun g fr σ Q X h=>
 wpAny_allTrue_Or_cons (sq (.refl σ) (hb g fr σ Q X h) fun τ v u S r h=>by
  cases (r:v=u)
  induction v with
  |true=>rw[if_pos rfl];exact S.now (R:=RB) rfl h
  |false=>rw[if_neg AH];exact Ac (S.now (R:=RB) rfl h))
theorem aA(hb:FC T b (.BoolOp VH ys pos)):KB T VH b ys:=fun g fr σ Q X h=>by
 have:=hb g fr σ Q X h
 rwa [arm_isTrue_BoolOp] at this
theorem eU(ha:AS T a x)(hb:Mr T .And pos b (y::ys)):AS T (.and a b) (.BoolOp .And (x::y::ys) pos):=fun g fr σ Q X h=>by
 rw[arm_eval_BoolOp]
 show σ.wp (FO x g.ct.env>>=_) _ _
 exact Aa (sq (.refl σ) (ha g fr σ _ _ h) fun τ v u S r h=>vB.el h r
  (fun h=>Aa (Bw (Aa (Au (By (S.up (hb g fr τ _ _ h)))))))
  fun h=>Aa (Bw (Aa (Au (By (Ac (S.now (.bool _) h)))))))
theorem lA(ha:AS T a x)(hb:Mr T .Or pos b (y::ys)):AS T (.or a b) (.BoolOp .Or (x::y::ys) pos):=fun g fr σ Q X h=>by
 rw[arm_eval_BoolOp]
 show σ.wp (FO x g.ct.env>>=_) _ _
 exact Aa (sq (.refl σ) (ha g fr σ _ _ h) fun τ v u S r h=>vB.el h r
  (fun h=>Aa (Bw (Aa (Au (By (Ac (S.now (.bool _) h)))))))
  fun h=>Aa (Bw (Aa (Au (By (S.up (hb g fr τ _ _ h)))))))
theorem ZE(hb:AS T b y):Mr T VH pos b [y]:=hb
theorem ZF(hb:AS T b (.BoolOp VH ys pos)):Mr T VH pos b ys:=hb
theorem fE(ht:FC T t xt)(ha:AS T a xa)(hb:AS T b xb):AS T (.ite t a b) (.IfExp xt xa xb pos):=fun g fr σ Q X h=>
 wpAny_IfExp (sq (.refl σ) (ht g fr σ (fun v H=>vB (.bool v) (vE T.C a fr H Q X) (vE T.C b fr H Q X)) X h) fun τ v u S r h=>
  tw r h (fun h=>S.up (ha g fr τ Q X h))
   fun h=>S.up (hb g fr τ Q X h))
end
noncomputable def WT(u:Ab)(k:Int->Bool):Bool:=match u with
 |.int i _=>k i
 |_=>false
noncomputable def WU(u:Ab)(k:Ao->Bool):Bool:=match u with
 |.str i _=>k i
 |_=>false
noncomputable def Sj(u:Ab)(k:Ai->Bool):Bool:=match u with
 |.ref a=>k a
 |_=>false
theorem WT.out(h:WT u k=true):∃i t,u=.int i t/\k i=true:=by
 induction u with
 |int i t=>exact RN i t rfl h
 |_=>cases h
theorem WU.out(h:WU u k=true):∃i t,u=.str i t/\k i=true:=by
 induction u with
 |str i t=>exact RN i t rfl h
 |_=>cases h
theorem Sj.out(h:Sj u k=true):∃a,u=.ref a/\k a=true:=by
 induction u with
 |ref a=>exact Bn a rfl h
 |_=>cases h
noncomputable def Tn(x:V)(u:Ab):Bool:=match x with
 |.none=>u==.none
 |.bool b=>u==.bool b
 |.int i=>WT u (i==·)
 |.str s=>WU u (s==·)
 |.bi b=>u==b.val
 |.fn a=>u==.ref a
 |.cd a=>u==.ref a
 |_=>false
noncomputable def Y9:List V->List Ab->Bool
 |[],[]=>true
 |x::xs,v::vs=>Tn x v&&Y9 xs vs
 |_,_=>false
noncomputable def OG(K:CD)(a:Ai)(k:List Ab->Bool):Bool:=match BP a K with
 |some o=>match o.data with
  |.seq vs n=>o.cls==.type "tuple"&&(o.dict.isNone&&(Nat.beq n 0&&(o.slots.toList.isEmpty&&k vs.toList)))
  |_=>false
 |none=>false
noncomputable def mW(K:CD)(x:V)(u:Ab):Bool:=match x with
 |.tup xs=>Sj u fun a=>OG K a (Y9 xs)
 |x=>Tn x u
theorem Kg(h:Tn x u=true):VR P ρ x u:=by
 cases x with
 |none=>exact A6 h▸.none
 |bool b=>exact A6 h▸.bool b
 |int i=>exact LH (WT.out h) fun ø ø e q=>e▸A6 q▸.int _ _
 |str i=>exact LH (WU.out h) fun ø ø e q=>e▸A6 q▸.str _ _
 |bi b=>exact A6 h▸.bi b
 |fn a=>exact A6 h▸.fn a
 |cd a=>exact A6 h▸.cd a
 |_=>cases h
theorem Q2:∀{xs:List V} {us:List Ab},Y9 xs us=true->B8 P ρ xs us
 |[],[]=>fun ø=>.nil
 |_::_,_::_=>fun h=>have h:=bM h;.cons (Kg h.1) (Q2 h.2)
 |[],_::_=>fun h=>nomatch h
 |_::_,[]=>fun h=>nomatch h
set_option tactic.hygienic true in
theorem OG.out{K:CD}{a:Ai}{k:List Ab->Bool}(h:OG K a k=true):∃vs,BP a K=some (Ep vs)/\k vs.toList=true:=by
 unfold OG at h
 cases q:BP a K with
 |none=>rw[q] at h;cases h
 |some o=>
  rw[q] at h
  obtain⟨c,d,dd,sl⟩:=o
  clear q;induction dd with
  |seq vs n=>
   have h:=bM h
   have h2:=bM h.2
   have h3:=bM h2.2
   have h4:=bM h3.2
   have e1:c=.type "tuple":=A6 h.1
   have e2:d=none:=B3.mp h2.1
   have e3:n=0:=Nat.eq_of_beq_eq_true h3.1
   have e4:sl=#[]:=Array.toList_eq_nil_iff.mp (JJ.mp h4.1)
   exact Bn vs (by rw[e1,e2,e3,e4];rfl) h4.2
  |_=>cases h
theorem Y8{W:Hx}{na:Na}{h:Ah}{ρ:Ce}{H:MH}(hk:W.K.In W.hb)(R:HR W.w W.hb na h ρ H){x:V}{u:Ab}(e:mW W.K x u=true):VR (Kd na h ρ) ρ x u:=by
 cases x with
 |tup xs=>
  refine AO (Sj.out e) fun a eq1 e=>?_
  subst eq1
  refine AO (OG.out e) fun vs e1 e2=>?_
  exact .tup (R.kd_hb (hk _ _ e1) (.inl ⟨vs,rfl⟩)) rfl rfl (Q2 e2)
 |_=>exact Kg e
noncomputable def iQ(v:V)(i:Int):Bool:=match v with
 |.int j=>j==i
 |_=>false
noncomputable def iS(v:V)(i:Ao):Bool:=match v with
 |.str j=>j==i
 |_=>false
theorem iQ.out(h:iQ v i=true):v=.int i:=by
 cases v with
 |int j=>exact congrArg V.int (A6 h)
 |_=>cases h
theorem iS.out(h:iS v i=true):v=.str i:=by
 cases v with
 |str j=>exact congrArg V.str (A6 h)
 |_=>cases h
noncomputable def MU(v:V)(c:Const):Bool:=match c with
 |.none=>Tn v .none
 |.bool b=>Tn v (.bool b)
 |.int i=>iQ v i
 |.str s=>iS v s
 |_=>false
noncomputable def Fz(K:CD)(X:Cx)(id:Ao)(k:Ab->Bool):Bool:=
 (bD id "__debug__"&&Ra X.scope.names id==some .globalImplicit)&&(match iU K Em id with
  |some (some u)=>k u
  |some none=>bD id "__name__"&&(match bootBuiltins id with
   |some u=>k u
   |none=>false)
  |none=>false)
noncomputable def XE(K:CD)(X:Cx)(v:V)(id:Ao):Bool:=Fz K X id (mW K v)
section
variable {T:Txt}{a b c o e t:Internal.E}{lo hi:Option Internal.E}{x y xa xb xo xc xt:Expr}{es:List Internal.E}{xs ys:List Expr}{p pos:Pos}{v:V}{id:Ao}{k:Nat}
theorem WF{c:Const}(h:MU v c=true):AS T (.k v) (.Constant c k pos):=fun g fr σ Q X q=>by
 induction c with
 |none=>exact wpAny_Constant_none ((Sg.To.refl σ).now (Kg h) q)
 |bool b=>exact wpAny_Constant_bool ((Sg.To.refl σ).now (Kg h) q)
 |int i=>exact wpAny_Constant_int ((Sg.To.refl σ).here (iQ.out h▸.int _ _) q)
 |str s=>exact wpAny_Constant_str ((Sg.To.refl σ).here (iS.out h▸.str _ _) q)
 |_=>cases h
set_option tactic.hygienic true in
theorem Fz.load(k:Et T)(h:Fz T.W.K T.X id f=true):∃u,f u=true/\∀{g:Act T} {fr:Fr} (σ:Sg g fr) {pos:Pos} {G:Ab->Ae->Prop} {E:Ab->Ae->Prop},G u σ.s->σ.wp (FO (.Name id pos) g.ct.env) G E:=by
 have h:=bM h
 have h1:=bM h.1
 have h3:=h.2
 have nd:∀{y:Ao},bD id y=true->(id==y)=false:=fun h=>(N8 _ _).trans ((B6 _).mp h)
 have st:∀{g:Act T} {fr:Fr} (σ:Sg g fr) {pos:Pos} {G:Ab->Ae->Prop} {E:Ab->Ae->Prop},σ.wp (loadGlobal g.ct.env id) G E->σ.wp (FO (.Name id pos) g.ct.env) G E:=fun {g _} σ _ _ _ w=>
  K0 (Aj (loadName_read g.ok.kind (by unfold D3;exact Aj g.hsc ((Jt _ _).symm.trans (A6 h1.2)))) w) (nd h1.1)
 have hg:∀{g:Act T} {fr:Fr} (σ:Sg g fr),σ.s.heap.Ns g.ct.env.globals T.W.mg:=fun {g _} σ=>Aj g.ok.glob (k.wok.top.g.keeps σ.hr.old)
 cases hu:iU T.W.K Em id with
 |none=>rw[hu] at h3;exact nomatch h3
 |some o=>
  rw[hu] at h3
  replace hu:=W8 hu
  cases o with
  |some u=>exact Bn u h3 (fun σ ø ø ø q=>st σ (Calls.loadGlobal_global (hg σ) (mg_of k.wok.kin k.wok.top.g hu) q))
  |none=>
   have h3:=bM h3
   have h5:=h3.2
   cases hb:bootBuiltins id with
   |none=>rw[hb] at h5;exact nomatch h5
   |some u=>
    rw[hb] at h5
    exact Bn u h5 (fun {g _} σ _ _ _ q=>st σ (Calls.loadGlobal_builtin (hg σ) (mg_none_of k.wok.kin k.wok.top.g hu) (Aj g.ok.blt (k.wok.top.b.keeps σ.hr.old)) ((k.wok.top.builtins _ (ne_of_beq_false (nd h3.1))).trans hb) q))
theorem fC(k:Et T)(h:XE T.W.K T.X v id=true):AS T (.k v) (.Name id pos):=fun g fr σ Q X q=>
 AO (Fz.load k h) fun ø e l=>
 l σ ((Sg.To.refl σ).now (Y8 k.wok.kin σ.hr e) q)
theorem pJ(h:(id,i)∈T.X.cx.l)(hd:(id !="__debug__"&&id !="__classdict__")=true):AS T (.l i) (.Name id pos):=fun g fr σ Q X q=>by
 have hd:=bM hd
 refine K0 ?_ (by simpa using hd.1)
 refine AO (σ.st.lr id i (Aj g.hx h)) fun ov pl rv=>?_
 refine vO.el q fun o e q=>vO.el q fun v e' q=>?_
 refine AO (rv v (e'▸e)) fun u eq1 r=>?_
 clear rv;subst eq1
 have z:σ.P RV Q u σ.s:=(Sg.To.refl σ).now r q
 rcases pl with⟨k,m,hm,e⟩ | ⟨k | k,c,o,hc,ho,hdat⟩
 ·exact Ft g.ok.kind k hm e z
 ·exact wpAny_loadName_cell g.ok.kind k hc ⟨o,ho.1,hdat⟩ z
 ·exact wpAny_loadName_free g.ok.kind k hc ⟨o,ho.1,hdat⟩ z (by simpa using hd.2)
theorem Uz:SK T none none:=fun g fr σ Q X h=>by
 rw[JN]
 exact Ac ((Sg.To.refl σ).now (R:=jC) (v:=none) rfl h)
theorem U0(ha:AS T a x):SK T (some a) (some x):=fun g fr σ Q X h=>by
 rw[evalPart_some]
 exact sq (.refl σ) (ha g fr σ _ _ h) fun τ v u S r h=>S.now (R:=jC) (v:=some v) r h
theorem PR.stp{na:Na}{h h':Ah}{ρ ρ':Ce}{o:Option V}{u:Ab}(r:PR (Kd na h ρ) ρ o u)(S:Ek na h ρ h' ρ'):PR (Kd na h' ρ') ρ' o u:=match o,r with
 |none,r=>r
 |some _,r=>S.vr r
theorem fN(ho:AS T o xo)(hl:SK T lo l)(hu:SK T hi u):AS T (.slc o lo hi) (.Subscript xo (.Slice l u none p) pos):=fun g fr σ Q X h=>
 Subscript_ (sq (.refl σ) (ho g fr σ _ _ h) fun τ ø ø S r h=>wpAny_Slice (sq S (hl g fr τ _ _ h) fun υ ø ø S2 r2 h=>sq (S.trans S2) (hu g fr υ _ _ h) fun ω ø ø S3 r3 h=>by
  rw[JN]
  exact Ac (ZS ((S.trans S2).trans S3) h (S3.v (S2.v r)) (PR.stp r2 S3.stp) r3)))
theorem fM(ho:AS T o xo):AS T (.rev o) (.Subscript xo (.Slice none none (some (.UnaryOp .USub (.Constant (.int 1) k p1) p2)) p) pos):=fun g fr σ Q X h=>
 Subscript_ (sq (.refl σ) (ho g fr σ _ _ h) fun τ ø ø S r h=>wpAny_Slice (by
  rw[JN,evalPart_some]
  exact Ac (Ac (wpAny_UnaryOp (wpAny_Constant_int (P.neg_int (ZJ (τ:=⟨{τ.s with toks:=τ.s.toks+1+1},τ.ρ,τ.H,⟨τ.st.hr,τ.st.lr,τ.st.hdl⟩⟩) (S.trans ⟨⟨rfl,rfl⟩,.refl _ _ _⟩) h r)))))))
theorem eZ(k:Et T):AS T .dct (.Dict [] [] pos):=fun g fr σ Q X h=>
 LH k.sys fun ø ø hc ho=>
 have f:=AG σ.s.heap
 have k0:∀b x,σ.s.heap.get? b=some x->(σ.s.heap.push {cls:=.type "dict",data:=.dict #[]}).get? b=some x:=fun b x e=>Af _ e
 Gj (σ.hr.push (p:=(σ.s.heap.objs.size,σ.s.heap.objs.size)) (o:=.dict []) (h':=σ.s.heap.push {cls:=.type "dict",data:=.dict #[]}) (fun b x ø=>k0 b x) (fun ø ø ø n=>n.keeps k0) f f
  ⟨⟨rfl,beq_eq_false_iff_ne.mpr (Cq (GL hc (AB (σ.hr.old _ _ ho))))⟩,List.nodup_nil,[],0,Az _ rfl,.nil⟩) fun R' S' at_=>
 wpAny_Dict_empty ((Sg.To.refl σ).end (s':={σ.s with heap:=_}) ⟨rfl,rfl⟩ S' R' (.ref at_) h)
end
section
variable {w:Cc}{P:Ey}{ρ:Ce}
theorem H7(k name:Ao)(t:Tok):(Ab.str k t).isStr name=(k==name):=rfl
theorem PZ(h:Int)(k:Ao)(t:Tok)(v:Ab):(BK.mk h (.str k t) v).refKey=false:=rfl
theorem DR.refs(d:DR w P ρ es ds):ds.any (·.refKey)=false:=by
 induction d with
 |nil=>rfl
 |cons _ _ ih=>simp only[List.any_cons,ih,PZ,Bool.or_false]
theorem DR.get{es:List (Ao×V)}{ds:List BK}(d:DR w P ρ es ds)(k:Ao):match es.lookup k with
  |some x=>∃v,Dr k ds=some (some v)/\VR P ρ x v
  |none=>Dr k ds=some none:=by
 have key:match es.lookup k with
  |some x=>∃e,ds.find? (·.key.isStr k)=some e/\VR P ρ x e.val
  |none=>ds.find? (·.key.isStr k)=none:=by
  induction d with
  |nil=>rfl
  |@cons k' t x v es ds a b ih=>
   unfold BP
   by_cases h:k=k'
   ·subst h
    refine Aj (show(k==k)=true by simp) ?_
    exact⟨⟨BJ w.params k,.str k t,v⟩,by simp[H7],a⟩
   ·refine Aj (show(k==k')=false by simpa using h) ?_
    have h':(k'==k)=false:=by simpa using fun q=>h q.symm
    simp only[List.find?_cons,H7,h']
    exact ih
 unfold Dr
 cases h:es.lookup k with
 |some x=>rw[h] at key;refine AO key fun e h1 h2=>?_;exact Aj h1 (Bn _ rfl h2)
 |none=>rw[h] at key;refine Aj (show ds.find? (·.key.isStr k)=none from key) (Aj d.refs ?_);rfl
theorem DR.det(d:DR w P ρ es ds)(k:Ao):(Dr k ds).isSome=true:=by
 have:=d.get k
 split at this
 ·refine AO this fun v e ø=>?_;refine Aj e ?_;rfl
 ·refine Aj this ?_;rfl
theorem DR.put(d:DR w P ρ es ds)(r:VR P ρ x v):DR w P ρ (putL k x es) (C4 k (BJ w.params k) (.str k t) v ds):=by
 induction d with
 |nil=>exact .cons r .nil
 |@cons k' t' y u es ds a b ih=>
  show DR w P ρ (if k'=k then(k',x)::es else(k',y)::Internal.putL k x es) _
  unfold C4
  by_cases h:k'=k
  ·refine Aj h ?_
   refine Aj (if_pos rfl) (Aj (if_pos (by simp[H7])) ?_)
   exact .cons r b
  ·refine Aj (if_neg h) (Aj (if_neg (by simp[H7,h])) ?_)
   exact .cons a ih
theorem DR.length(d:DR w P ρ es ds):ds.length=es.length:=by
 induction d with
 |nil=>rfl
 |cons _ _ ih=>simp[ih]
theorem ER(k:Ao)(h:Int)(key v:Ab):∀ds:List BK,(C4 k h key v ds).length<=ds.length+1
 |[]=>by simp[C4]
 |e::r=>by
  unfold C4
  split
  ·simp
  ·simp only[Cy];have:=ER k h key v r;exact CY (Lp xa (.num 1)) (Lp (Lp xb (.num 1)) (.num 1)) [.l xa (Lp xb (.num 1))] As this
end
structure bL (K:CD)(Cl:Ai)(name:Ao):Prop where
 get:plainGet K Cl name=true
 dict:hasDictIn K Cl=true
 find:GP K (.ref Cl) name=some none
 set:GP K (.ref Cl) "__setattr__"=some (some (.builtin "object.__setattr__"))
 over:plainOver K Cl=true
 taker:takerIn K Cl name=some none
theorem KW.out{K:CD}{Cl:Ai}{name:Ao}(h:KW K Cl name=true):bL K Cl name:=by
 have h:=bM h
 have h1:=bM h.1
 have h2:=bM h1.1
 have h3:=bM h2.1
 have h4:=bM h3.1
 exact⟨h4.1,h4.2,A6 h3.2,A6 h2.2,h1.2,A6 h.2⟩
structure Ys (K:CD)(Cl:Ai)(name:Ao)(f:Ai):Prop where
 get:plainGet K Cl name=true
 dict:hasDictIn K Cl=true
 find:GP K (.ref Cl) name=some (some (.ref f))
 fn:typeIn K (.ref f)=some (.type "function")
 spec:specialIn K (.ref f) "__get__"=some (some (.builtin "function.__get__"))
 take:takesIn K (.ref f)=some false
 cop:copiedNames.contains name=false
 fnIn:fnIn K f=true
theorem Ip.out{K:CD}{Cl:Ai}{name:Ao}{f:Ai}(h:Ip K Cl name f=true):Ys K Cl name f:=by
 have h:=bM h
 have h0:=bM h.2
 have h5:=bM h.1
 have h6:=bM h5.1
 have q:=iP.out h0.1
 exact⟨h6.1,h6.2,A6 h5.2,q.1,q.2.1,q.2.2.1,(B6 _).mp h0.2,q.2.2.2⟩
structure Yr {T:Txt}{g:Act T}{fr:Fr}(τ:Sg g fr)(p:Ai×Ai)(K:Ai)(fs:List (Ao×V))(ds:List BK)(k:Nat):Prop where
 at_:CH τ.s.heap p.1 (instObj K p.2) K (some (Db ds k))
 dr:DR T.W.w τ.k τ.ρ fs ds
 nd:(fs.map (·.1)).Nodup
 get:τ.s.heap.get? p.2=some (Db ds k)
 ne:p.1≠p.2
section
variable {T:Txt}{g:Act T}{fr:Fr}{σ τ:Sg g fr}{Q:QV}{E:Ab->Ae->Prop}{i:Nat}{p:Ai×Ai}{K f:Ai}{fs:List (Ao×V)}{name:Ao}{x:V}{v:Ab}{expr:Bool}
theorem Sg.inst(τ:Sg g fr)(hp:τ.ρ[i]?=some p)(e:τ.H[i]?=some (.inst K fs)):∃ds k,Yr τ p K fs ds k:=
 iM (τ.hr.rep i p _ hp e) fun ne h1 nd hz=>LH hz fun ds k h2 h3=>⟨ds,k,⟨h1,rfl,rfl,h2⟩,h3,nd,h2,ne⟩
theorem Oo(S:σ.To τ)(k:Et T)(hp:τ.ρ[i]?=some p)(e:τ.H[i]?=some (.inst K fs))(hl:fs.lookup name=some x)(hf:T.C.fld K name=true)(q:Q x τ.H):τ.wp (getAttr (.ref p.1) name expr) (σ.P RV Q) E:=by
 refine Oe (τ.inst hp e) fun ds n I=>?_
 have f:=KW.out (k.fld _ _ hf)
 have gt:=I.dr.get name
 rw[hl] at gt
 obtain⟨v,g1,g2⟩:=gt
 refine get_value (τ.kin k) I.at_ (IM f.get).1 (findObj_own f.dict f.find rfl (by rw[lookIn_dict];exact g1)) ?_ (S.here g2 q)
 clear g1 q hl;induction g2 using VR.casesOn with
 |bi b=>induction b<;>rfl
 |_=>rfl
theorem SW(S:σ.To τ)(k:Et T)(hp:τ.ρ[i]?=some p)(e:τ.H[i]?=some (.inst K fs))(hl:fs.lookup name=none)(hf:T.C.meth K name=some f)(q:Q (.meth f i) τ.H):τ.wp (getAttr (.ref p.1) name expr) (σ.P RV Q) E:=by
 refine Oe (τ.inst hp e) fun ds n I=>?_
 have m:=Ip.out (k.meth _ _ _ hf)
 have gt:=I.dr.get name
 rw[hl] at gt
 refine get_bind (τ.kin k) I.at_ (IM m.get).1 (findObj_fn m.dict m.find m.spec m.take m.cop (by rw[lookIn_dict];exact gt)) (IM m.get).2
  (Eh (fn_get (s:={τ.s with toks:=τ.s.toks+1}) (τ.kin k) m.fn (handed_on rfl ?_)))
 exact S.end (s':={τ.s with heap:=_,toks:=τ.s.toks+1}) ⟨rfl,rfl⟩ (τ.hr.pushed _).2.1 (τ.hr.pushed _).1 (.meth (τ.hr.kd_push rfl (.inr (.inr ⟨rfl,_,rfl⟩))) hp) q
theorem Wj(τ:Sg g fr)(k:Et T){pl:Sem Bool}{Q:Ab×List Ab->Ae->Prop}(hp:τ.ρ[i]?=some p)(e:τ.H[i]?=some (.inst K fs))(hl:fs.lookup name=none)(hf:T.C.meth K name=some f)(h:Q (.ref f,[.ref p.1]) τ.s):
  τ.wp (getMethod (.ref p.1) name pl) Q E:=by
 refine Oe (τ.inst hp e) fun ds n I=>?_
 have m:=Ip.out (k.meth _ _ _ hf)
 have gt:=I.dr.get name
 rw[hl] at gt
 refine method_fn (τ.kin k) I.at_ (IM m.get).1 (IM m.get).2 m.find m.fn ?_ h
 show(lookIn name (Db ds n)).map _=_
 rw[lookIn_dict,show Dr name ds=some none from gt];rfl
theorem QX(τ:Sg g fr)(k:Et T){Q:Unit->Ae->Prop}(hp:τ.ρ[i]?=some p)(e:τ.H[i]?=some (.inst K fs))(r:τ.v x v)(hf:T.C.fld K name=true)(hz:fs.length<=900)
  (h:∀s',CO τ.s s'->HR T.W.w T.W.hb g.ct.na s'.heap τ.ρ (τ.H.set i (.inst K (putL name x fs)))->Ek g.ct.na τ.s.heap τ.ρ s'.heap τ.ρ->Q () s'):τ.wp (setAttr (.ref p.1) name v) Q E:=by
 refine Oe (τ.inst hp e) fun ds n I=>?_
 have f:=KW.out (k.fld _ _ hf)
 have hloc:=g.ok.loc
 obtain⟨m,hm⟩:=(τ.hr.nam _ hloc).2.2
 have mup:∀b,b=p.1\/b=p.2->mu τ.ρ b:=fun b q=>Bn p (A2 hp) q
 have nmu:∀{a},a∈g.ct.na.l->∀b,b=p.1\/b=p.2->b≠a:=fun ha b q z=>(τ.hr.nam _ ha).2.1 (z▸mup b q)
 have N:News Nj g.ct.env.locals τ.s.heap ([]++(p.2,Db ds n)::Pc τ.s.heap [g.ct.env.locals,p.2]):=fun q hq=>by
  rcases Al.mp hq with rfl | hq
  ·exact⟨I.get,nmu hloc _ (.inr rfl),Fj _⟩
  ·exact⟨(CX.mp hq).2,(fun z=>(CX.mp hq).1 (Aj z (.head _))),Fj _⟩
 refine set_plain (τ.kin k) I.at_ f.set (osa_dict (s:={τ.s with toks:=τ.s.toks+1}) (X8 hm) N (τ.kin k) I.at_ rfl f.over f.taker f.dict (by rw[lookIn_dict];exact I.dr.det name) (fun q hq=>by cases hq)
  (fun q hq z=>(CX.mp hq).1 (Aj z (.tail _ (.head _)))) (putName_dict ..) rfl (Ag (ER _ _ _ _ _) (by have:=I.dr.length;exact CY (Lp xa (.num 1)) (.num 1000) [.e xa xb,.l xb (.num 900)] As this hz)) fun h' F' N'=>?_)
 have keep:∀b o,b≠p.2->b≠g.ct.env.locals->τ.s.heap.get? b=some o->h'.get? b=some o:=fun b o q1 q2 q3=>(N' (b,o) (.tail _ (CX.mpr ⟨by simp[q1,q2],q3⟩))).1
 obtain⟨R',S'⟩:=τ.hr.upd (h':=h') hp (fun b o ø q2 q3=>keep b o q2 fun q=>q3 (q▸hloc)) (fun a ha m' hn=>by
   by_cases q:a=g.ct.env.locals
   ·clear ha;subst q
    exact Aj (FU hn hm) F'.ns
   ·exact hn.at' fun o e=>keep a o (nmu ha _ (.inr rfl)).symm q e) (o:=.inst K (putL name x fs)) fun kd=>
  ⟨I.ne,keep _ _ I.ne (nmu hloc _ (.inl rfl)) I.at_.at_,Lk I.nd,_,_,(N' (p.2,_) (.head _)).1,(I.dr.mono kd (.refl _)).put (r.mono kd (.refl _))⟩
 exact h _ ⟨rfl,rfl⟩ R' S'
end
theorem Ju(h:xs.all Bf=true):(GO pos (Du xs env)).any (·.1)=false:=by
 induction xs with
 |nil=>rfl
 |cons x xs ih=>
  have h:=bM h
  refine Aj (H9 h.1) ?_
  exact ih h.2
section
variable {T:Txt}{g:Act T}{fr:Fr}{σ τ:Sg g fr}{Q:QV}{X:EV}{E:Ab->Ae->Prop}{as:List Internal.E}{xs:List Expr}{pos cpos p:Pos}
theorem Gk{A:Bt}{s:Ae}{f:Ab}{env:Env}{Q:Args->Ae->Prop}(hs:xs.all Bf=true)
  (h:Av T.W.M A (spliced (GO pos (Du xs env))) (fun vs s'=>Q ⟨vs,[]⟩ s') E s):Av T.W.M A (evalArgs f true (GO pos (Du xs env)) []) Q E s:=by
 induction xs with
 |nil=>
  unfold evalArgs
  exact Aa (A4 h (fun vs s' h'=>Aa (Ac (Au (Aa (Ac (Aa (Ac (Ac h')))))))) fun ø ø x=>x)
 |cons x xs=>
  have hs:=bM hs
  rw[H9 hs.1] at h ⊢
  exact Calls.evalArgs_plain h
theorem E5{u:Ab}{first:List Ab}{Q:List V->MH->Prop}{G:Ab->Ae->Prop}(S:σ.To τ)(hs:xs.all Bf=true)(ha:E2 T as xs)(h:OL T.C as fr τ.H Q X)
  (P:Ah->Prop) (hP:∀h,P h->∃k,(k=Keeper.frame\/k=Keeper.machine\/k=Keeper.boundFrame)/\Looks T.W.M h (keeperOf u) k)
  (hk:∀(υ:Sg g fr) vs us,τ.To υ->B8 υ.k υ.ρ vs us->Q vs υ.H->P υ.s.heap/\υ.wp (call u (first++us)) G (σ.E X)):
  τ.wp (callWith cpos u first (GO pos (Du xs g.ct.env)) []) G (σ.E X):=
 callWith_of (P:=P) (by refine Aj (Ju hs) ?_;rfl) hP (Gk hs (sq S (ha g fr τ pos _ _ h) fun υ vs us S2 r q=>hk υ vs us S2 r q.2))
theorem Mk.to(S:σ.To τ)(h:BY T.W.M g.ct.A c (Mk T.W g.ct τ.s τ.ρ Q X) τ.s):BY T.W.M g.ct.A c (fun r s'=>match r with | .ok (.ret v)=>σ.P RV Q v s' | .ok _=>False | .error e=>σ.E X e s') τ.s:=
 FM h fun r s' q=>by
  induction r with
  |error=>exact EM q fun c H' r e q=>F1 c H' (S.rest.trans r) (e.back S.stp) q
  |ok f=>induction f with
   |ret=>exact Ss q fun ø ø ø r S' R' rv q=>S.end r S' R' rv q
   |_=>exact q
theorem kR(f:Bi)(e:u=f.val):∀h:Ah,True->∃k,(k=Keeper.frame\/k=Keeper.machine\/k=Keeper.boundFrame)/\Looks M h (keeperOf u) k:=fun ø ø=>
 ⟨.machine,.inr (.inl rfl),.of_pure (by induction f<;>(refine Aj e ?_;rfl))⟩
theorem Th(k:Et T)(S:σ.To τ)(r:B8 τ.k τ.ρ vs us)(q:T.C.call T.C.hd a vs τ.H Q X):HZ T.W.K (.ref a)=true/\BY T.W.M g.ct.A (.call (.ref a) ⟨us,[]⟩) (fun r s'=>match r with | .ok (.ret v)=>σ.P RV Q v s' | .ok _=>False | .error e=>σ.E X e s') τ.s:=
 Cd (k.call g.ct τ.s τ.ρ τ.H T.C.hd a vs us Q X g.ok τ.hr τ.st.hdl r q) fun c1 c2=>
 ⟨c1,Mk.to S c2⟩
theorem Oc(k:Et T)(S:σ.To τ){f:V}{u:Ab}(hs:xs.all Bf=true)(ha:E2 T as xs)(rg:τ.v f u)(h:OL T.C as fr τ.H (fun vs H=>Ri T.C f vs H Q X) X):
  τ.wp (callWith cpos u [] (GO pos (Du xs g.ct.env)) []) (σ.P RV Q) (σ.E X):=by
 induction rg using VR.casesOn with
 |fn a=>exact E5 S hs ha h (fun h=>T.W.K.In h/\HZ T.W.K (.ref a)=true) (fun h q=>keeps_K q.2 h q.1) fun υ vs us S2 r q=>Cd (Th k (S.trans S2) r q) fun c1 c2=>⟨⟨υ.kin k,c1⟩,Eh c2⟩
 |@meth q f i p a1 a2=>
  exact E5 S hs ha h (fun h=>MethP T.W.K q f (.ref p.1) h/\fnIn T.W.K f=true) (fun h q=>keeps_M q.2 h q.1) fun υ vs us S2 r z=>
   have hq:=(S2.stp.kd _ _ a1).1.1
   ⟨⟨⟨hq,υ.kin k⟩,k.isFn f z.1⟩,Eh (method_call hq (Th k (S.trans S2) (.cons (.ref (S2.stp.le _ _ a2)) r) z.2).2)⟩
 |bi f=>exact E5 S hs ha h (fun ø=>True) (kR f rfl) fun υ vs us S2 r q=>⟨trivial,Yz (S.trans S2) q r⟩
 |_=>exact E5 S hs ha h (fun ø=>False) (fun h q=>q.elim) fun υ vs us S2 r q=>q.elim
end
section
variable {T:Txt}{a f o:Internal.E}{x xo:Expr}{as:List Internal.E}{xs:List Expr}{pos p:Pos}{id name:Ao}
theorem ZA(k:Et T)(hs:xs.all Bf=true)(hf:AS T f (.Name id p))(ha:E2 T as xs):AS T (.call f as) (.Call (.Name id p) xs [] pos):=fun g fr σ Q X h=>
 HB (sq (.refl σ) (hf g fr σ _ _ h) fun τ v u S r h=>Oc k S hs ha r h)
theorem Z8(k:Et T)(hc:Eu xo=true)(ho:AS T o xo):AS T (.attr o name) (.Attribute xo name pos):=fun g fr σ Q X h=>by
 rw[arm_eval_Attribute,MR hc]
 refine Aa (sq (.refl σ) (ho g fr σ _ _ h) fun τ v u S r h=>Aa (Bw (Aa (Au ?_))))
 have tail:∀{u},τ.wp (getAttr u name true) (σ.P RV Q) (σ.E X)->τ.wp (getAttr u name true) (fun r s'=>Av T.W.M g.ct.A (letTemporaryGo xo u r>>=fun ø=>pure r) (σ.P RV Q) (σ.E X) s') (σ.E X):=fun h=>
  A4 h (fun ø ø q=>Aa (IP (Ac q))) fun ø ø x=>x
 exact HL.el h r fun i p hp h=>Ht.el h fun K fs e h=>by
  cases hl:fs.lookup name with
  |some v=>rw[hl] at h;exact tail (Oo S k hp e hl h.1 h.2)
  |none=>replace h:=hl▸h;exact vO.el h fun f hm q=>tail (SW S k hp e hl hm q)
end
theorem B8.app_inv:∀{xs:List V} {vs:List Ab},B8 P ρ (xs++ys) vs->∃us ws,vs=us++ws/\B8 P ρ xs us/\B8 P ρ ys ws:=by
 intro xs
 induction xs with
 |nil=>exact fun {vs} r=>F1 ([]) vs rfl .nil r
 |cons x xs ih=>
  intro vs r
  cases (show B8 P ρ (x::(xs++ys)) vs from r) with
  |cons a b=>exact EM (ih b) fun us ws e r q=>F1 (_::us) ws (congrArg _ e) (.cons a r) q
theorem B8.last(r:B8 P ρ xs vs)(h:xs.getLast?=some x):∃us y,vs=us++[y]/\B8 P ρ xs.dropLast us/\VR P ρ x y:=by
 refine Eb (List.getLast?_eq_some_iff.mp h) fun l eq1=>?_
 clear h;subst eq1
 refine Aj HD ?_
 refine EM r.app_inv fun us ws e r1 r2=>?_
 refine AO r2.one fun y eq1 r3=>?_
 clear r2;subst eq1
 exact F1 us y e r1 r3
section
variable {T:Txt}{g:Act T}{fr:Fr}{σ τ:Sg g fr}{Q:QV}{X:EV}{E:Ab->Ae->Prop}{i:Nat}{p:Ai×Ai}{xs:List V}{es:List (Ao×V)}{x:V}{v:Ab}
theorem Sg.upd_list(τ:Sg g fr)(hp:τ.ρ[i]?=some p)(hs:∀b x,b≠p.1->τ.s.heap.get? b=some x->h'.get? b=some x)(r:(∀a x,Kd g.ct.na τ.s.heap τ.ρ a x->Kd g.ct.na h' τ.ρ a x)->OR T.W.w g.ct.na h' τ.ρ p o):
  HR T.W.w T.W.hb g.ct.na h' τ.ρ (τ.H.set i o)/\Ek g.ct.na τ.s.heap τ.ρ h' τ.ρ:=
 τ.hr.upd hp (fun b x q1 ø ø e=>hs b x q1 e) (fun a ha m hn=>hn.at' fun o e=>hs a o (fun z=>(τ.hr.nam a ha).2.1 (z▸(Bn p (A2 hp) (.inl rfl)))) e) r
theorem R0(S:σ.To τ)(hp:τ.ρ[i]?=some p)(r:τ.v x v)(h:DI τ.H i fun xs=>xs.length<=Ap/\Q .none (τ.H.set i (.list (xs++[x])))):τ.wp (call (.builtin "list.append") [.ref p.1,v]) (σ.P RV Q) E:=
 DI.el h fun xs e zz=>Cd zz fun hl q=>by
  obtain⟨hpp,vs,pl,rx⟩:=τ.hr.rep i p _ hp e
  have ln:=rx.length
  rw[Aq] at ln
  refine Sn pl (fun h' hl' hs=>?_) (by unfold Ap at hl;unfold Bp;exact CY xa (.num 16777216) [.e xa xb,.l xb (.num 1000000)] As ln hl)
  obtain⟨R',S'⟩:=τ.upd_list (o:=.list (xs++[x])) (h':=h') hp (fun b x q e=>(hs.2 b q).trans e) fun kd=>
   ⟨hpp,_,hl',Aj Array.toList_push ((rx.mono kd (.refl _)).app (.cons (r.mono kd (.refl _)) .nil))⟩
  exact S.end (s':={τ.s with heap:=h'}) ⟨rfl,rfl⟩ S' R' .none q
theorem Sg.one(τ:Sg g fr)(hp:τ.ρ[i]?=some p)(ho:τ.s.heap.get? p.1=some o):∃m,DZ Nj g.ct.env.locals τ.s.heap m/\News Nj g.ct.env.locals τ.s.heap ((p.1,o)::Pc τ.s.heap [g.ct.env.locals,p.1])/\
  ∀(h':Ah) (o':Df),DZ Nj g.ct.env.locals h' m->News Nj g.ct.env.locals h' ((p.1,o')::Pc τ.s.heap [g.ct.env.locals,p.1])->
   h'.get? p.1=some o'/\(∀b o,b≠p.1->b∉g.ct.na.l->τ.s.heap.get? b=some o->h'.get? b=some o)/\∀a∈g.ct.na.l,∀m,τ.s.heap.Ns a m->h'.Ns a m:=by
 have hloc:=g.ok.loc
 obtain⟨m,hm⟩:=(τ.hr.nam _ hloc).2.2
 have hL:∀a∈g.ct.na.l,a≠p.1:=fun a ha q=>(τ.hr.nam _ ha).2.1 (q▸(Bn p (A2 hp) (.inl rfl)))
 refine(EN m (X8 hm) (fun q hq=>?_) (fun h' o' F' N'=>?_))
 ·rcases Al.mp hq with rfl | hq
  ·exact⟨ho,(hL _ hloc).symm,Fj _⟩
  ·exact⟨(CX.mp hq).2,(fun z=>(CX.mp hq).1 (Aj z (.head _))),Fj _⟩
 ·have keep:∀b o,b≠p.1->b≠g.ct.env.locals->τ.s.heap.get? b=some o->h'.get? b=some o:=fun b o q1 q2 q3=>(N' (b,o) (.tail _ (CX.mpr ⟨by simp[q1,q2],q3⟩))).1
  refine⟨(N' (p.1,_) (.head _)).1,fun b o q1 q3=>keep b o q1 fun z=>q3 (z▸hloc),fun a ha m' hn=>?_⟩
  by_cases q:a=g.ct.env.locals
  ·clear ha;subst q
   exact Aj (FU hn hm) F'.ns
  ·exact hn.at' fun o e=>keep a o (hL a ha) q e
theorem PH(S:σ.To τ)(hp:τ.ρ[i]?=some p)(h:DI τ.H i fun xs=>xs.length<=Ap/\vO xs.getLast? fun x=>Q x (τ.H.set i (.list xs.dropLast))):τ.wp (call (.builtin "list.pop") [.ref p.1]) (σ.P RV Q) E:=
 DI.el h fun xs e zz=>Cd zz fun hl h=>vO.el h fun x hx q=>by
  refine FN fun g0 k0=>?_
  obtain⟨hpp,vs,⟨k,ho⟩,rx⟩:=τ.hr.rep i p _ hp e
  refine EM (rx.last hx) fun us y hv r1 r2=>?_
  refine C9 (τ.one hp ho) fun m F N fin=>?_
  refine k0 ?_
  refine kl_pop F N (p:=us) (y:=y) (Aj hv (kpa_last y us)) (.head fun q hq z=>(CX.mp hq).1 (Aj z (.tail _ (.head _)))) (Aj rx.length (Hi hl)) fun h' F' N'=>?_
  refine Gj (fin h' _ F' N') fun g1 g2 g3=>?_
  obtain⟨R',S'⟩:=τ.hr.upd (h':=h') (o:=.list xs.dropLast) hp (fun b o q1 ø q3=>g2 b o q1 q3) g3 fun kd=>⟨hpp,us.toArray,⟨_,g1⟩,by simpa using r1.mono kd (.refl _)⟩
  exact S.end (s':={τ.s with heap:=h'}) ⟨rfl,rfl⟩ S' R' (S'.vr r2) q
theorem KV.getD(x:KV P ρ es kvs)(r:VR P ρ d u):VR P ρ ((es.lookup k).getD d) ((valueAt kvs k).getD u):=by
 have l:=x.look (k:=k)
 cases z:es.lookup k with
 |none=>rw[z] at l;exact Aj (show valueAt kvs k=none from l) r
 |some y=>rw[z] at l;refine AO l fun v l1 l2=>?_;exact Aj l1 l2
theorem Q3{d:Ai}{kvs:List (Ao×Ab)}{ks:Ao}{t:Tok}{u:Ab}{dv:V}(S:σ.To τ)(hs:(d==Dl)=false)(k1:KV τ.k τ.ρ es kvs)(k2:τ.s.heap.DictOf (AM T.W.prog T.W.w) d kvs)
  (r:τ.v dv u) (q:Q ((es.lookup ks).getD dv) τ.H):τ.wp (call (.builtin "dict.get") [.ref d,.str ks t,u]) (σ.P RV Q) E:=
 LG Ea k2.typeIs Mm (PySem.F.args_dict_get_3 _ _ _) (meets_dict_get_default (AM T.W.prog T.W.w) d (BE T.W.prog T.W.w _ _) hs u) (Bn _ k2.mapOf (S.here (k1.getD r) q))
theorem Tt{d:Ai}{kvs:List (Ao×Ab)}{ks:Ao}{t:Tok}(S:σ.To τ)(hs:(d==Dl)=false)(k1:KV τ.k τ.ρ es kvs)(k2:τ.s.heap.DictOf (AM T.W.prog T.W.w) d kvs)
  (q:Q ((es.lookup ks).getD .none) τ.H):τ.wp (call (.builtin "dict.get") [.ref d,.str ks t]) (σ.P RV Q) E:=
 LG Ea k2.typeIs Mm (PySem.F.args_dict_get_2 _ _) (meets_dict_get (AM T.W.prog T.W.w) d (BE T.W.prog T.W.w _ _) hs) (Bn _ k2.mapOf (S.here (k1.getD .none) q))
theorem Q5(k:Et T){ks:Ao}{t:Tok}{as:List Ab}{x:V}(S:σ.To τ)(hp:τ.ρ[i]?=some p)(e:τ.H[i]?=some (.dict es))(hl:es.length<=1000)(hv:es.lookup ks=some x)(ha:as=[]\/∃u,as=[u])
  (q:Q x (τ.H.set i (.dict (LW ks es)))):τ.wp (call (.builtin "dict.pop") (.ref p.1::.str ks t::as)) (σ.P RV Q) E:=by
 refine FN fun g0 k0=>?_
 refine Gj (Fx τ hp e) fun hpp nd zz1=>AO zz1 fun kvs k1 k2=>?_
 refine k0 ?_
 have l:=k1.look (k:=ks)
 rw[hv] at l
 refine AO l fun u l1 l2=>?_
 refine LG G0 k2.typeIs Mn (ha.elim (fun e=>e▸PySem.F.args_dict_pop_2 _ _) fun zz=>Eb zz fun ø e=>e▸LO _ _ _) (meets_dict_pop_there (AM T.W.prog T.W.w) p.1 (BE T.W.prog T.W.w _ _) as ha rfl)
  (aX kvs u k2 (by rw[k1.length];unfold Bp;exact GK xa (.num 16777216) [.l xa (.num 1000)] As hl) l1 (fun h' hm hsb=>?_))
 refine LH (Mx (h:=h') (k1.del nd) hm) fun ds n g1 g2=>?_
 obtain⟨R',S'⟩:=τ.upd_list (o:=.dict (LW ks es)) (h':=h') hp (fun b x q e=>(hsb.2 b q).trans e) fun kd=>⟨hpp,Pj nd,ds,n,g1,g2.mono kd (.refl _)⟩
 exact S.end (s':={τ.s with heap:=h',toks:=τ.s.toks+1}) ⟨rfl,rfl⟩ S' R' (S'.vr l2) q
theorem Tu(k:Et T){ks:Ao}{t:Tok}{u:Ab}{dv:V}(S:σ.To τ)(hp:τ.ρ[i]?=some p)(e:τ.H[i]?=some (.dict es))(hv:es.lookup ks=none)(r:τ.v dv u)(q:Q dv τ.H):τ.wp (call (.builtin "dict.pop") [.ref p.1,.str ks t,u]) (σ.P RV Q) E:=by
 refine FN fun g0 k0=>?_
 refine Gj (Fx τ hp e) fun zz1 ø zz2=>AO zz2 fun kvs k1 k2=>Cd zz1 fun ø hd=>?_
 refine k0 ?_
 have l:=k1.look (k:=ks)
 rw[hv] at l
 exact LG G0 k2.typeIs Mn (LO _ _ _) (meets_dict_pop_default (AM T.W.prog T.W.w) p.1 (BE T.W.prog T.W.w _ _) hd rfl u) (EN kvs k2 l (S.here r q))
theorem J5{Q:Ab->Ae->Prop}{o:Expr}{name:Ao}{apos pos:Pos}{xs:List Expr}{env:Env}{A:Bt}{s:Ae}(hb:Eu o=true)(hl:(apos.endLine==pos.line)=true)(hs:xs.all Bf=true)(hn:xs.length<29)
  (h:∀pl:Sem Bool,Av T.W.M A (FO o env) (fun ov s₁=>Av T.W.M A (getMethod ov name pl) (fun fx s₂=>Av T.W.M A (callWith pos fx.1 fx.2 (GO pos (Du xs env)) []) Q E s₂) E s₁) E s):
  Av T.W.M A (FO (.Call (.Attribute o name apos) xs [] pos) env) Q E s:=by
 rw[arm_eval_Call,MR hb]
 have hform:methodCallForm (xs.length+([]:List Keyword).length) (GO pos (Du xs env)) (backToKw pos (keywordEach [] env))=true:=by
  unfold methodCallForm
  have:(GO pos (Du xs env)).all (fun x=>!x.1)=true:=by
   have:=Ju (env:=env) (pos:=pos) hs
   rw[List.all_eq_not_any_not]
   simpa using this
  refine Aj this ?_
  refine(?_:(true&&true&&decide (xs.length+0+0<30))=true)
  simp;exact V7 xa (.num 30) [.t xa (.num 29)] As hn
 refine Aa (A4 (h (do return (<-importBound o env).getD true)) (fun ov s₁ h₁=>Aa (Bw ?_)) fun ø ø x=>x)
 unfold methodCall
 refine Aj hform ?_
 exact Aa (Au (A4 h₁ (fun fx s₂ h₂=>Aa (Aj (show methodCallPos true o env apos pos=pure pos from if_pos (show(false||(apos.endLine==pos.line))=true from hl)) (Ac h₂))) fun ø ø x=>x))
theorem En(S:σ.To τ){as:List Internal.E}{xs:List Expr}{pos cpos:Pos}{f:String}{first:List Ab}{K:List V->MH->Prop}{G:Ab->Ae->Prop}(hs:xs.all Bf=true)(ha:E2 T as xs)(h:OL T.C as fr τ.H K X)
  (hk:∀(υ:Sg g fr) vs us,τ.To υ->B8 υ.k υ.ρ vs us->K vs υ.H->υ.wp (call (.builtin f) (first++us)) G (σ.E X)):τ.wp (callWith cpos (.builtin f) first (GO pos (Du xs g.ct.env)) []) G (σ.E X):=
 E5 S hs ha h (fun ø=>True) (fun ø ø=>Bn .machine (.inr (.inl rfl)) (.of_pure rfl)) fun υ vs us S2 r q=>⟨trivial,hk υ vs us S2 r q⟩
theorem M3(R:OR T.W.w g.ct.na τ.s.heap τ.ρ p (.list xs)):τ.s.TypeIs (.ref p.1) "list"/\∀a,B9 p.1=.ref a->∃ob,τ.s.heap.get? a=some ob/\ob.dict=none:=
 Cd R fun ø zz=>AO zz fun ø zz ø=>Eb zz fun ø h=>⟨⟨_,h,rfl⟩,fun ø q=>by cases q;exact(Bn _ h rfl)⟩
theorem Jo{d:Ai}{kvs:List (Ao×Ab)}(k:τ.s.heap.DictOf (AM T.W.prog T.W.w) d kvs):∀a,B9 d=.ref a->∃ob,τ.s.heap.get? a=some ob/\ob.dict=none:=fun ø q=>by
 refine FN fun g0 k0=>?_
 cases q
 refine Kk k fun o es' ep h1 zz1 ø=>Gj zz1 fun ø h2 ø=>?_
 refine k0 ?_
 exact Bn o h1 h2
end
section
variable {T:Txt}{o:Internal.E}{xo:Expr}{as:List Internal.E}{xs:List Expr}{apos pos:Pos}{name:Ao}
@[elab_as_elim] theorem kL{n m1 m2:Ao}{A B:Prop}{motive:Ao->Prop}(h:if n=m1 then A else n=m2/\B)(a:A->motive m1)(b:B->motive m2):motive n:=by
 by_cases e:n=m1
 ·rw[if_pos e] at h;exact e▸a h
 ·rw[if_neg e] at h;exact h.1▸b h.2
theorem WG(k:Et T)(hb:Eu xo=true)(hl:(apos.endLine==pos.line)=true)(hs:xs.all Bf=true)(hn:xs.length<29)(ho:AS T o xo)(ha:E2 T as xs):AS T (.mcall o name as) (.Call (.Attribute xo name apos) xs [] pos):=fun g fr σ Q X h=>
 J5 hb hl hs hn fun pl=>sq (.refl σ) (ho g fr σ _ _ h) fun τ x u S rx h=>by
  induction rx using VR.casesOn with
  |@ref i p hp=>
   refine vO.el h fun ob e h=>?_
   induction ob with
   |inst K fs=>
    refine vO.el h.2 fun f hm h'=>Wj τ k hp e h.1 hm (E5 S hs ha h' (fun h=>T.W.K.In h/\HZ T.W.K (.ref f)=true) (fun h q=>keeps_K q.2 h q.1) fun υ vs us S2 r q=>?_)
    exact Cd (Th k (S.trans S2) (.cons (.ref (S2.stp.le _ _ hp)) r) q) fun c1 c2=>⟨⟨υ.kin k,c1⟩,Eh c2⟩
   |list ys=>
    obtain⟨hT,hnd⟩:=M3 (τ.hr.rep _ _ _ hp e)
    refine kL (n:=name) h (fun h1=>?_) fun h2=>?_
    ·exact Cp hT FL PySem.F.slot_list_append PySem.F.type_list_append hnd (En S hs ha h1 fun υ vs us S2 r q=>v1.er q r fun x v r q=>R0 (S.trans S2) (S2.stp.le _ _ hp) r q)
    ·exact Cp hT FL PySem.F.slot_list_pop PySem.F.type_list_pop hnd (En S hs ha h2 fun υ vs us S2 r zz=>Cd zz fun e q=>by
      clear zz;subst e
      cases r
      exact PH (S.trans S2) (S2.stp.le _ _ hp) q)
   |dict es=>
    refine Gj (Fx τ hp e) fun ø ø zz1=>AO zz1 fun kvs ø k2=>?_
    refine kL (n:=name) h (fun h1=>?_) fun h2=>?_
    ·refine Cp k2.typeIs FK Ea PySem.F.type_dict_get (Jo k2) (En S hs ha h1 fun υ vs us S2 r q=>Hs.el q fun es e q=>?_)
     refine FN fun g0 k0=>?_
     refine Gj (Fx υ (S2.stp.le _ _ hp) e) fun zz1 ø zz2=>AO zz2 fun ø k1 k2=>Cd zz1 fun ø hd=>?_
     refine k0 ?_
     exact WV.er q r (fun x v r q=>vStr.el q r fun s t q=>Tt (S.trans S2) hd k1 k2 q) fun x v y w r r2 q=>vStr.el q r fun s t q=>Q3 (S.trans S2) hd k1 k2 r2 q
    ·refine Cp k2.typeIs FK G0 PySem.F.type_dict_pop (Jo k2) (En S hs ha h2 fun υ vs us S2 r q=>Hs.el q fun es e q=>?_)
     obtain⟨hl,q⟩:=q
     refine WV.er q r (fun x v r q=>vStr.el q r fun s t q=>vO.el q fun v hv q=>Q5 k (S.trans S2) (S2.stp.le _ _ hp) e hl hv (.inl rfl) q) fun x v y w r r2 q=>?_
     ·refine vStr.el q r fun s t q=>?_
      cases hv:es.lookup s with
      |some v=>rw[hv] at q;exact Q5 k (S.trans S2) (S2.stp.le _ _ hp) e hl hv (.inr ⟨_,rfl⟩) q
      |none=>replace q:=hv▸q;exact Tu k (S.trans S2) (S2.stp.le _ _ hp) e hv r2 q
  |cd d=>
   refine Cd h fun hname h1=>Aj hname ?_
   refine vO.el h1 fun es e h1=>?_
   refine Cd (Q0 k.cd τ e) fun ø zz1=>AO zz1 fun ø ø k2=>?_
   exact Cp k2.typeIs FK Ea PySem.F.type_dict_get (Jo k2) (En S hs ha h1 fun υ vs us S2 r q=>v2.er q r fun x v y w r r2 q=>vStr.el q r fun s t q=>
    Cd (Q0 k.cd υ e) fun hd zz=>AO zz fun ø k1 k2=>Q3 (S.trans S2) hd k1 k2 r2 q)
  |str sx t=>
   refine kL (n:=name) h (fun h1=>?_) fun h2=>?_
   ·with_reducible refine Cp (id:="str.rstrip") (Ky _ _ _) Mo ?_ ?_ ?_ ?_
    ·exact PySem.F.slot_str_rstrip
    ·exact PySem.F.type_str_rstrip
    ·exact fun a q=>by cases q
    exact(En S hs ha h1 fun υ vs us S2 r q=>v1.er q r fun x v r q=>vStr.el q r fun s t zz=>Cd zz fun hl q=>
     PySem.SC.rstripChars (fun t' k=>(S.trans S2).here (.str _ _) q) (Hi hl))
   ·with_reducible refine Cp (id:="str.find") (Ky _ _ _) Mo ?_ ?_ ?_ ?_
    ·exact PySem.F.slot_str_find
    ·exact PySem.F.type_str_find
    ·exact fun a q=>by cases q
    exact(En S hs ha h2 fun υ vs us S2 r q=>v2.er q r fun x v y w r r2 q=>vStr.el q r fun s t q=>vInt.el q r2 fun i t q=>
     PySem.SC.find3 ((S.trans S2).here (.int _ _) q))
  |_=>exact h.elim
end
noncomputable def own(ct:Ct):List Ai:=ct.env.locals::if ct.cx.fixed then[] else ct.cx.l.filterMap fun p=>if ct.env.kindOf p.1=some .local then none else ct.env.cells.lookup p.1
structure Ca (ct:Ct)(h:Ah)(ρ:Ce)(h':Ah)(ρ':Ce):Prop where
 le:E0 ρ ρ'
 kn:∀a o,a∉own ct->Kn ct.na h ρ a o->Kn ct.na h' ρ' a o
 ns:∀a∈ct.na.l,a∉own ct->∀m,h.Ns a m->h'.Ns a m
 kd:∀a o,Kd ct.na h ρ a o->Kd ct.na h' ρ' a o
 th:∀a,¬mu ρ' a->a∉ct.na.l->h'.get? a=none->h.get? a=none
section
variable {W:Hx}{ct:Ct}{h h' h'':Ah}{ρ ρ' ρ'':Ce}
theorem Ca.of(S:Ek ct.na h ρ h' ρ'):Ca ct h ρ h' ρ' where
 le:=S.le
 kn:=fun a o ø e=>S.kn a o e
 ns:=fun a ha ø m e=>S.ns a ha m e
 kd:=S.kd
 th:=fun ø hm hn e=>S.fresh e hn hm
theorem Ca.trans(x:Ca ct h ρ h' ρ')(y:Ca ct h' ρ' h'' ρ''):Ca ct h ρ h'' ρ'' where
 le:=x.le.trans y.le
 kn:=fun a o n e=>y.kn a o n (x.kn a o n e)
 ns:=fun a ha n m e=>y.ns a ha n m (x.ns a ha n m e)
 kd:=fun a o e=>y.kd a o (x.kd a o e)
 th:=fun a hm hn e=>x.th a (fun m=>hm (y.le.mu m)) hn (y.th a hm hn e)
theorem Ca.vr(S:Ca ct h ρ h' ρ')(r:VR (Kd ct.na h ρ) ρ v u):VR (Kd ct.na h' ρ') ρ' v u:=r.mono S.kd S.le
theorem Ca.vrs(S:Ca ct h ρ h' ρ')(r:B8 (Kd ct.na h ρ) ρ v u):B8 (Kd ct.na h' ρ') ρ' v u:=r.mono S.kd S.le
end
noncomputable def OV(W:Hx)(ct:Ct)(h₀:Ah)(ρ₀:Ce)(c:Ao)(H':MH)(e:Ab)(s':Ae):Prop:=
 ∃a ρ' fl,e=.ref a/\Ca ct h₀ ρ₀ s'.heap ρ'/\HR W.w W.hb ct.na s'.heap ρ' H'/\Ex h₀ s'.heap ct.na ρ' a c fl/\Yp ct fl
theorem OU.toS(x:OU W ct h₀ ρ₀ c H' e s'):OV W ct h₀ ρ₀ c H' e s':=
 Kk x fun a ρ' fl e1 s1 r=>RO a ρ' fl e1 (.of s1) r
theorem OV.back(x:OV W ct h₁ ρ₁ c H' e s')(S:Ca ct h₀ ρ₀ h₁ ρ₁):OV W ct h₀ ρ₀ c H' e s':=
 Ss x fun a ρ' fl e1 s1 r1 x1 f1=>
 (Sv a ρ' fl e1 (S.trans s1) r1 (x1.older fun b q n m=>S.th b (fun z=>m (s1.le.mu z)) n q) f1)
section
variable {T:Txt}{g:Act T}{fr fr' fr'':Internal.Fr}{σ:Sg g fr}{τ:Sg g fr'}{υ:Sg g fr''}{N:NV}{R:RT}{X:EV}{α β:Type}{Rr:Rl α β}{Q:α->MH->Prop}
structure Sg.ToS (σ:Sg g fr)(τ:Sg g fr'):Prop where
 rest:CO σ.s τ.s
 stp:Ca g.ct σ.s.heap σ.ρ τ.s.heap τ.ρ
theorem Sg.To.s{τ:Sg g fr}(S:σ.To τ):σ.ToS τ:=⟨S.rest,.of S.stp⟩
theorem Sg.ToS.refl(σ:Sg g fr):σ.ToS σ:=(Sg.To.refl σ).s
theorem Sg.ToS.trans(a:σ.ToS τ)(b:τ.ToS υ):σ.ToS υ:=⟨a.rest.trans b.rest,a.stp.trans b.stp⟩
noncomputable def Sg.fl(τ:Sg g fr)(N:NV)(R:RT):Flow->Prop
 |.next=>N fr τ.H
 |.ret u=>∃v,τ.v v u/\R v fr τ.H
 |_=>False
noncomputable def Sg.PS(σ:Sg g fr)(N:NV)(R:RT)(fl:Flow)(s':Ae):Prop:=∃fr',∃τ:Sg g fr',τ.s=s'/\σ.ToS τ/\τ.fl N R fl
theorem Sg.PS.el{N:NV}{R:RT}{fl:Flow}{s':Ae}{G:Prop}(h:σ.PS N R fl s')(k:∀fr' (υ:Sg g fr'),υ.s=s'->σ.ToS υ->υ.fl N R fl->G):G:=Eb h fun fr' h=>C9 h fun υ e S q=>k fr' υ e S q
noncomputable def Sg.ES(σ:Sg g fr)(X:EV)(e:Ab)(s':Ae):Prop:=∃c H',CO σ.s s'/\OV T.W g.ct σ.s.heap σ.ρ c H' e s'/\X c H'
theorem Sg.ToS.x(S:σ.ToS τ)(x:τ.ES X e s'):σ.ES X e s':=EM x fun c H' r e q=>F1 c H' (S.rest.trans r) (e.back S.stp) q
theorem Sg.E.s(x:σ.E X e s'):σ.ES X e s':=EM x fun c H' r e q=>F1 c H' r e.toS q
theorem MG(S:σ.ToS τ)(h:τ.wp t (τ.P Rr Q) (τ.E X))(k:∀(υ:Sg g fr') (v:α) (u:β),τ.To υ->Rr υ.k υ.ρ v u->Q v υ.H->G u υ.s):τ.wp t G (σ.ES X):=
 A4 h (fun u ø z=>C9 z fun υ e S' z=>AO z fun v r q=>e▸k υ v u S' r q) fun ø ø x=>S.x x.s
theorem iV{t:Sem Flow}(S:σ.ToS τ)(h:τ.wp t (τ.PS N R) (τ.ES X)){G:Flow->Ae->Prop}(k:∀(fr'':Internal.Fr) (υ:Sg g fr'') (fl:Flow),τ.ToS υ->υ.fl N R fl->G fl υ.s):τ.wp t G (σ.ES X):=
 A4 h (fun fl ø zz=>zz.el fun fr'' υ e S' q=>e▸k fr'' υ fl S' q) fun ø ø x=>S.x x
theorem Sg.ToS.up(S:σ.ToS τ)(h:τ.wp t (τ.PS N R) (τ.ES X)):τ.wp t (σ.PS N R) (σ.ES X):=iV S h fun fr'' υ ø S2 q=>⟨fr'',υ,rfl,S.trans S2,q⟩
theorem Sg.ToS.now(S:σ.ToS τ){fl:Flow}(q:τ.fl N R fl):σ.PS N R fl τ.s:=⟨fr',τ,rfl,S,q⟩
theorem Sg.ToS.end(S:σ.ToS τ)(r:CO τ.s s')(S':Ek g.ct.na τ.s.heap τ.ρ s'.heap ρ')(R':HR T.W.w T.W.hb g.ct.na s'.heap ρ' H')(q:N fr' H'):σ.PS N R .next s':=
 ⟨fr',⟨s',ρ',H',R',τ.st.lr.stp g.ok.loc S',τ.st.hdl.stp S'⟩,rfl,S.trans ⟨r,.of S'⟩,q⟩
end
section
variable (T:Txt)
noncomputable def DM(e:S)(x:Ef):Prop:=∀(g:Act T) (fr:Internal.Fr) (σ:Sg g fr) N R X,vS T.C e fr σ.H N R X->σ.wp (exec x g.ct.env) (σ.PS N R) (σ.ES X)
noncomputable def Fe(es:List S)(xs:List Ef):Prop:=∀(g:Act T) (fr:Internal.Fr) (σ:Sg g fr) N R X,AV T.C es fr σ.H N R X->σ.wp (execs xs g.ct.env) (σ.PS N R) (σ.ES X)
end
theorem HR.keepsW(R:HR w hb na h ρ H)(k:∀b o,b∉na.l->h.get? b=some o->h'.get? b=some o)(ns:∀a∈na.l,(∃m,h.Ns a m)->∃m,h'.Ns a m):HR w hb na h' ρ H where
 len:=R.len
 rep:=fun i p o e1 e2=>
  have hm:∀b,b=p.1\/b=p.2->b∉na.l:=fun b hb hn=>(R.nam b hn).2.1 (Bn p (A2 e1) hb)
  (R.rep i p o e1 e2).keeps (fun a o e=>⟨⟨k a o e.1.2.2 e.1.1,e.1.2⟩,e.2,e.3⟩) (.refl _) (fun o=>k _ o (hm _ (.inl rfl))) (fun o=>k _ o (hm _ (.inr rfl)))
 sep:=R.sep
 new:=R.new
 nam:=fun a ha=>⟨(R.nam a ha).1,(R.nam a ha).2.1,ns a ha (R.nam a ha).2.2⟩
 old:=fun a o e=>k a o (fun hn=>by replace e:=(R.nam a hn).1▸e;cases e) (R.old a o e)
 exl:=fun a ha=>⟨(R.exl a ha).1,AO ((R.exl a ha).2) fun o x d=>(Bn o ⟨k a o x.2.2 x.1,x.2⟩ d)⟩
noncomputable def DB(X:Cx)(x:Ao)(i:Nat):Bool:=Ra X.cx.l x==some i&&(Ra X.scope.names x==some .local||(Ra X.scope.names x==some .cell&&!X.cx.fixed))
section
variable {T:Txt}{g:Act T}{fr fr':Internal.Fr}{σ:Sg g fr}{τ:Sg g fr'}{X:EV}{E:Ab->Ae->Prop}{x:Ao}{i:Nat}{a:V}{v:Ab}
theorem NY(τ:Sg g fr')(hx:(x,i)∈g.ct.cx.l)(r:τ.v a v)(k1:∀b o,b∉own g.ct->τ.s.heap.get? b=some o->h'.get? b=some o)(k2:∀b∈g.ct.na.l,b≠g.ct.env.locals->∀m,τ.s.heap.Ns b m->h'.Ns b m)
  (k4:∀b,h'.get? b=none->τ.s.heap.get? b=none) (k5:∀b o,b∉g.ct.na.l->(∀ov,o.data≠.cell ov)->τ.s.heap.get? b=some o->h'.get? b=some o) (hr:HR T.W.w T.W.hb g.ct.na h' τ.ρ τ.H)
  (px:Place g.ct h' τ.ρ x (some v)) (py:∀y j,(y,j)∈g.ct.cx.l->y≠x->∀ov,Place g.ct τ.s.heap τ.ρ y ov->Place g.ct h' τ.ρ y ov):
  Ca g.ct τ.s.heap τ.ρ h' τ.ρ/\LR g.ct h' τ.ρ (AC fr' i a)/\OW g.ct.A g.ct.na h' τ.ρ T.C.hd:=by
 have kd:∀a o,Kd g.ct.na τ.s.heap τ.ρ a o->Kd g.ct.na h' τ.ρ a o:=fun a o e=>⟨⟨k5 a o e.1.2.2 (fun ov q=>e.2.noCell q) e.1.1,e.1.2⟩,e.2,e.3⟩
 have S:Ca g.ct τ.s.heap τ.ρ h' τ.ρ:=⟨.refl _,fun a o ha e=>⟨k1 a o ha e.1,e.2⟩,fun a ha hn m e=>k2 a ha (fun q=>hn (Aj q (.head _))) m e,kd,fun a ø ø e=>k4 a e⟩
 refine⟨S,fun y j hy=>?_,?_⟩
 ·by_cases hyx:y=x
  ·clear py;subst hyx
   have hji:j=i:=g.cs.fn _ _ _ hy hx
   clear hx;subst hji
   refine(Bn (some v) px (fun w hw=>⟨v,rfl,?_⟩))
   unfold AC at hw
   by_cases hi:j<fr'.length
   ·replace hw:=Ck hi▸hw
    cases hw
    exact S.vr r
   ·rw[List.set_eq_of_length_le (by exact CY xa xb [.u xb xa] As hi),GV (by exact CY xa xb [.u xb xa] As hi)] at hw
    cases hw
  ·refine AO (τ.st.lr y j hy) fun ov pl rr=>?_
   refine(Bn ov (py y j hy hyx ov pl) (fun w hw=>?_))
   unfold AC at hw
   rw[EG (fun q:i=j=>hyx (g.cs.inj _ _ _ hy (q▸hx)))] at hw
   exact AO (rr w hw) fun u e rv=>Bn u e (S.vr rv)
 ·have hdl:=τ.st.hdl
  cases hd:T.C.hd with
  |false=>rw[hd] at hdl;exact hdl
  |true=>
   rw[hd] at hdl
   exact LI hdl fun e o vs a1 a2 a3 a4=>RP e o vs a1 ⟨k5 e o a2.2.2 (fun ov q=>by replace q:=a3▸q;cases q) a2.1,a2.2⟩ a3 a4
theorem DP(τ:Sg g fr')(hb:DB T.X x i=true)(r:τ.v a v)(h:∀υ:Sg g (AC fr' i a),(∀N:NV,N (AC fr' i a) τ.H->N (AC fr' i a) υ.H)->τ.ToS υ->Q () υ.s):τ.wp (storeName g.ct.env x v) Q E:=by
 have hb:=bM hb
 have hx:(x,i)∈g.ct.cx.l:=Aj g.hx (H8 (A6 hb.1))
 have ok:=g.ok
 have fin:∀h' tk,HR T.W.w T.W.hb g.ct.na h' τ.ρ τ.H->(Ca g.ct τ.s.heap τ.ρ h' τ.ρ/\LR g.ct h' τ.ρ (AC fr' i a)/\OW g.ct.A g.ct.na h' τ.ρ T.C.hd)->Q () {τ.s with heap:=h',toks:=tk}:=fun h' tk hr zz=>Gj zz fun S l d=>
  h ⟨{τ.s with heap:=h',toks:=tk},τ.ρ,τ.H,hr,l,d⟩ (fun ø n=>n) ⟨⟨rfl,rfl⟩,S⟩
 refine AO (τ.st.lr x i hx) fun ov pl ø=>?_
 rcases pl with⟨k,m,hm,e⟩ | ⟨k,c,o,hc,ho,hdat⟩
 ·refine wpAny_storeName_local k hm (fun h' hn hs=>?_) (by refine Aj ok.kind ?_;rfl)
  have nl:∀b,b∉g.ct.na.l->b≠g.ct.env.locals:=fun b hb q=>hb (q▸ok.loc)
  have n2:∀b∈g.ct.na.l,b≠g.ct.env.locals->∀m,τ.s.heap.Ns b m->h'.Ns b m:=fun b ø hb m hn=>hn.sameBut hs hb
  have hr:HR T.W.w T.W.hb g.ct.na h' τ.ρ τ.H:=τ.hr.keepsW (fun b o hb e=>(hs.2 b (nl b hb)).trans e) fun a ha zz=>Eb zz fun m hm=>by
   by_cases q:a=g.ct.env.locals
   ·clear hm zz ha;subst q;exact⟨_,hn⟩
   ·exact⟨m,n2 a ha q m hm⟩
  refine fin h' _ hr (NY τ hx r (fun b o hb e=>(hs.2 b (fun q=>hb (Aj q (.head _)))).trans e) n2 (fun b e=>?_) (fun b o hb ø e=>(hs.2 b (nl b hb)).trans e) hr (.inl ⟨k,_,hn,if_pos rfl⟩) fun y j hy hyx ov pl=>?_)
  ·by_cases q:b=g.ct.env.locals
   ·subst q
    refine VT hn fun o ø ø ho ø=>?_
    replace e:=ho▸e;cases e
   ·exact D5 (hs.2 b q) e
  ·rcases pl with⟨k',m',hm',e'⟩ | ⟨k',c,o,hc,ho,hdat⟩
   ·refine .inl ⟨k',_,hn,(if_neg hyx).trans ?_⟩
    exact D5 (FU hm' hm) e'
   ·exact .inr ⟨k',c,o,hc,⟨(hs.2 c (nl c ho.2.2)).trans ho.1,ho.2⟩,hdat⟩
 ·obtain⟨kc,hfx⟩:g.ct.env.kindOf x=some .cell/\g.ct.cx.fixed=false:=by
   have kk:g.ct.env.kindOf x=Ra T.X.scope.names x:=by refine Aj (Jt _ _) ?_;unfold D3;exact Aj g.hsc rfl
   rcases Qp.mp hb.2 with q | q
   ·have q:=kk.trans (A6 q)
    rcases k with k | k<;>(replace k:=q▸k;cases k)
   ·have q:=bM q
    exact⟨kk.trans (A6 q.1),Aj g.hx ((B6 _).mp q.2)⟩
  refine wpAny_storeName_cell ok.kind kc hc ⟨o,ho.1,hdat⟩ fun h' hcell hs=>?_
  have hne:∀b∈g.ct.na.l,b≠c:=fun b hb q=>ho.2.2 (q▸hb)
  have n2:∀b∈g.ct.na.l,∀m,τ.s.heap.Ns b m->h'.Ns b m:=fun b hb m hn=>hn.sameBut hs (hne b hb)
  have notd:∀b o',τ.s.heap.get? b=some o'->(∀ov,o'.data≠.cell ov)->b≠c:=fun b o' e q z=>by
   replace e:=ho.1▸(z▸e);obtain rfl:=Ad e;exact q _ hdat
  have hr:HR T.W.w T.W.hb g.ct.na h' τ.ρ τ.H:=(show EE g.ct.na [c] τ.s.heap h' from⟨fun b o ø q e=>(hs.2 b (by simpa using q)).trans e,n2⟩).hr τ.hr fun b hb=>by
   refine Aj (An.mp hb) ?_
   exact⟨ho.2.1,g.cs.cnew x c kc hc,fun o2 e q=>by replace e:=ho.1▸e;obtain rfl:=Ad e;exact q.noCell hdat⟩
  refine AO hcell fun o' ho' hd'=>?_
  have inown:c∈own g.ct:=.tail _ (Aj hfx (BA.mpr (Bn (x,i) hx (Aj kc hc))))
  refine fin h' _ hr (NY τ hx r (fun b o hb e=>(hs.2 b (fun q=>hb (q▸inown))).trans e) (fun b hb ø m hn=>n2 b hb m hn) (fun b e=>?_) (fun b o' ø q e=>(hs.2 b (notd b o' e q)).trans e) hr (.inr ⟨.inl kc,c,o',hc,⟨ho',ho.2⟩,hd'⟩) fun y j hy hyx ov pl=>?_)
  ·by_cases q:b=c
   ·clear inown notd hne hs hcell ho hc;subst q;replace e:=ho'▸e;cases e
   ·refine D5 (hs.2 b q) ?_;exact e
  ·rcases pl with⟨k',m',hm',e'⟩ | ⟨k',c',o2,hc',ho2,hdat2⟩
   ·exact .inl ⟨k',_,n2 _ ok.loc _ hm',e'⟩
   ·exact .inr ⟨k',c',o2,hc',⟨(hs.2 c' (fun q=>hyx (g.cs.cinj _ _ c (q▸hc') hc))).trans ho2.1,ho2.2⟩,hdat2⟩
end
noncomputable def D9(x:Expr):Bool:=![8,9,10].contains x.ctorIdx
theorem FY(h:D9 v=true):swapsWith v t l env=pure false:=by
 cases v<;>first | rfl | cases h
theorem Mf{prog:B7}{w:Cc}{A:Bt}{s:Ae}{E:Ab->Ae->Prop}{l:Ai}{items:Array Ab}{k:Int}{t:Tok}{v:Ab}{Q:Unit->Ae->Prop}(hl:s.heap.PlainList l items)
  (h0:0<=k) (hfit:k<2 ^ 63) (hn:k<items.size)
  (hQ:∀h',h'.PlainList l (items.setIfInBounds k.toNat v)->AA l s.heap h'->Q () {s with heap:=h'}):
  Av (AD prog w) A (setItem (.ref l) (.int k t) v) Q E s:=by
 refine Eb hl fun ne ho=>?_
 have hT:s.TypeIs (.ref l) "list":=Bn _ ho rfl
 unfold setItem
 try with_reducible refine Au ?_
 first | refine Aa (Ac ?_) | skip
 refine Aa (LN hT (by decide) ?_)
 refine Aa (Bb (name:=Cr "__setitem__") hT GG
  (AZ GG hT entry_list_setitem ?_ (args_list_setitem _ _ _)))
 refine(?_:Av _ _ (Ei (.int k t)>>=_) _ _ s)
 refine Aa (wpAny_listSubscript_int (fitsIndex_of h0 hfit) ?_)
 clear hfit
 obtain⟨j,rfl⟩:=Cf h0
 have hj:j<items.size:=Bg.1 (aT za zb [.t za zb] As hn)
 have hx':items[j]?=some items[j]:=BQ hj
 refine Aa (Aa (wpAny_seqItemAt ho rfl (Ac ?_)))
 refine Aj hx' ?_
 have e:CG (·.setIfInBounds j v) {cls:=.type "list",data:=.seq items ne}=({cls:=.type "list",data:=.seq (items.setIfInBounds j v) ne}:Df):=by
  simp[CG]
 have hfin:(s.heap.update l (CG (·.setIfInBounds j v))).PlainList l (items.setIfInBounds j v):=
  ⟨ne,by exact Aj (A8 _ ho (by refine Aj e ?_;rfl)) (Aj e rfl)⟩
 refine Aa (wpAny_setSeqItemAt ho rfl ?_)
 first
  |exact Aa (Ac (Ac (QD .none rfl (Ac (hQ _ hfin (BD ..))))))
  |exact Ac ⟨.none,rfl,Ac (hQ _ hfin (BD ..))⟩
section
variable {T:Txt}{a b e o j t hi:Internal.E}{sa sb es:List S}{x xt xo xj xhi v:Expr}{xa xb xs:List Ef}{pos p p2:Pos}{id name:Ao}{i:Nat}{op:E8}
theorem NW{o:Expr}{name:Ao}{p pos:Pos}{v:Expr}{env:Env}{A:Bt}{s:Ae}{Q:Flow->Ae->Prop}{E:Ab->Ae->Prop}(hv:D9 v=true)
  (h:Av T.W.M A (FO v env) (fun u s₁=>Av T.W.M A (FO o env) (fun ov s₂=>Av T.W.M A (setAttr ov name u) (fun ø=>Q .next) E s₂) E s₁) E s):Av T.W.M A (exec (.Assign [.Attribute o name p] v pos) env) Q E s:=by
 refine wpAny_Assign_stores ?_ (show swapsWith v (some (.Attribute o name p)) pos.line env=pure false from FY hv) rfl
 refine A4 h (fun u s₁ h₁=>?_) fun ø ø x=>x
 refine(?_:Av T.W.M A (GN (.Attribute o name p) env u) (fun ø=>Q .next) E s₁)
 rw[arm_assign_Attribute]
 refine Aa (Au (A4 h₁ (fun ov s₂ h₂=>?_) fun ø ø x=>x))
 exact Aa (Bw (Aa (Au (A4 h₂ (fun ø s₃ h₃=>wpAny_release h₃) fun ø ø x=>x))))
theorem U1:Fe T [] []:=fun g fr σ N R X h=>Ac ((Sg.ToS.refl σ).now (fl:=.next) h)
theorem Sa(ha:DM T s y)(hb:Fe T es xs):Fe T (s::es) (y::xs):=fun g fr σ N R X h=>
 MM (iV (.refl σ) (ha g fr σ _ R X h) fun fr' τ fl S q=>match fl,q with
  |.next,q=>S.up (hb g fr' τ N R X q)
  |.ret u,q=>S.now (fl:=.ret u) q)
theorem eV(hv:D9 v=true)(hb:DB T.X id i=true)(ha:AS T a v):DM T (.asg i a) (.Assign [.Name id p] v pos):=fun g fr σ N R X h=>
 LL (MG (.refl σ) (ha g fr σ _ X h) fun τ y u S r h=>DP τ hb r fun υ up S2=>(S.s.trans S2).now (fl:=.next) (up N h)) (FY hv)
theorem ZD(hv:D9 v=true)(ha:AS T a v):DM T (.expr a) (.Expr v pos):=fun g fr σ N R X h=>
 wpAny_Expr_any (MG (.refl σ) (ha g fr σ _ X h) fun τ y u S r h=>S.s.now (fl:=.next) h) (by unfold interactive;refine Aj g.ok.kind ?_;rfl) (FY hv)
theorem fK(ha:AS T a v):DM T (.ret a) (.Return (some v) pos):=fun g fr σ N R X h=>
 wpAny_Return_some (MG (.refl σ) (ha g fr σ _ X h) fun τ y u S r h=>S.s.now (fl:=.ret u) (Bn y r h))
theorem kZ(ht:FC T t xt)(ha:Fe T sa xa)(hb:Fe T sb xb):DM T (.ite t sa sb) (.If xt xa xb pos):=fun g fr σ N R X h=>
 wpAny_If (MG (.refl σ) (ht g fr σ (fun v H=>vB (.bool v) (AV T.C sa fr H N R X) (AV T.C sb fr H N R X)) X h) fun τ v u S r h=>tw r h (fun h=>S.s.up (ha g fr τ N R X h)) fun h=>S.s.up (hb g fr τ N R X h))
theorem ZG(k:Et T)(hv:D9 v=true)(ho:AS T o xo)(ha:AS T a v):DM T (.setA o name a) (.Assign [.Attribute xo name p] v pos):=fun g fr σ N R X h=>
 NW hv (MG (.refl σ) (ha g fr σ _ X h) fun τ y u S r h=>MG S.s (ho g fr τ _ X h) fun υ z w S2 r2 h=>HL.el h r2 fun i q hp h=>Ht.el h fun K fs e zz=>Cd zz fun zy0 h=>Cd zy0 fun h1 h2=>
  QX υ k hp e (S2.v r) h1 h2 fun s' r3 R3 S3=>(S.trans S2).s.end r3 S3 R3 h)
theorem ZH(k:Et T)(hv:D9 v=true)(ho:AS T o xo)(hj:AS T j xj)(ha:AS T a v):DM T (.setI o j a) (.Assign [.Subscript xo xj p] v pos):=fun g fr σ N R X h=>
 Sy (MG (.refl σ) (ha g fr σ _ X h) fun τ y u S r h=>MG S.s (ho g fr τ _ X h) fun υ z w S2 r2 h=>MG (S.trans S2).s (hj g fr υ _ X h) fun ω z3 w3 S3 r3 h=>by
  have r:=S3.v (S2.v r)
  have SS:=((S.trans S2).trans S3).s
  refine HL.el h (S3.v r2) fun i q hp h=>vO.el h fun ob e h=>?_
  induction ob with
  |dict es=>
   exact vStr.el h r3 fun ks t zz=>Cd zz fun hl h=>by
    refine FN fun g0 k0=>?_
    refine Gj (Fx ω hp e) fun hpp nd zz1=>AO zz1 fun kvs k1 k2=>?_
    refine k0 ?_
    refine wpAny_setItem_pairs (BE T.W.prog T.W.w _ _) k2 (fun h' hm hs=>?_) (by rw[k1.length];unfold Bp;exact GK xa (.num 16777216) [.l xa (.num 1000)] As zz.1)
    refine LH (Mx (h:=h') (k1.put r nd) hm) fun ds n g1 g2=>?_
    obtain⟨R',S'⟩:=ω.upd_list (o:=.dict (putL ks y es)) (h':=h') hp (fun b x q e=>(hs.2 b q).trans e) fun kd=>⟨hpp,Lk nd,ds,n,g1,g2.mono kd (.refl _)⟩
    exact SS.end (s':={ω.s with heap:=h',toks:=_}) ⟨rfl,rfl⟩ S' R' h
  |list xs=>
   exact vInt.el h r3 fun n t zz=>Cd zz fun zy0 h=>Gj zy0 fun h0 h1 h2=>by
    refine FN fun g0 k0=>?_
    obtain⟨hpp,vs,pl,rr⟩:=ω.hr.rep i q _ hp e
    refine k0 ?_
    have ln:=rr.length
    replace ln:=Aq▸ln
    refine Mf pl h0 (by unfold Ap at h2;exact aT za (.num 9223372036854775808) [.t za zb,.l zb (.num 1000000)] As zz.1.2.1 (Am.2 h2)) (Aj ln h1) fun h' hl' hs=>?_
    obtain⟨R',S'⟩:=ω.upd_list (o:=.list (xs.set n.toNat y)) (h':=h') hp (fun b x q e=>(hs.2 b q).trans e) fun kd=>
     ⟨hpp,_,hl',Aj Array.toList_setIfInBounds ((rr.mono kd (.refl _)).set (r.mono kd (.refl _)) _)⟩
    exact SS.end (s':={ω.s with heap:=h'}) ⟨rfl,rfl⟩ S' R' h
  |_=>exact h.elim) (FY hv)
noncomputable def Qx:E8->Bool
 |.Add | .Sub | .Mult | .FloorDiv | .Mod=>true
 |_=>false
theorem TP{A:Bt}{s:Ae}{E:Ab->Ae->Prop}{H:MH}{a b:Int}{t t':Tok}{K:V->Prop}{Q:Ab->Ae->Prop}(hop:Qx op=true)(hz:OJ op (.int a) (.int b) H K)(h:∀i tk,K (.int i)->Q (.int i tk) {s with toks:=s.toks+1}):
  Av T.W.M A (inplaceOp op (.int a t) (.int b t')) Q E s:=by
 induction op with
 |Add=>exact P.iadd_int (h _ _ hz)
 |Sub=>exact P.isub_int (h _ _ hz)
 |Mult=>exact P.imul_int (h _ _ hz.2) (M6 hz.1)
 |Mod=>exact imod_int (Fm hz.1) (h _ _ hz.2)
 |FloorDiv=>
  exact ifloordiv_int (Fm hz.1.1) (h _ _ hz.2) (.inl (LD (by
   have h1:=hz.1.1
   have h2:=hz.1.2.2
   have:=(Nat.log2_lt (n:=b.natAbs) (k:=62) (Sq.mpr (Fm h1))).mpr (Ld (DU (.neg (.num 4611686018427387904)) za [.t (.num 0) za] As h1) (DU za (.num 4611686018427387904) [.t za (.num 4611686018427387904)] As h2))
   exact V7 xa (.num 9000) [.t xa (.num 62)] As this)))
 |_=>cases hop
theorem QF{g:Act T}{fr:Internal.Fr}(τ:Sg g fr){c:V}{Q:Ab->Ae->Prop}{E:Ab->Ae->Prop}(h:(id,i)∈T.X.cx.l)(hd:id≠"__classdict__")(hv:fr[i]?=some (some c))(k:∀u,τ.v c u->Q u τ.s):τ.wp (loadName g.ct.env id) Q E:=by
 refine AO (τ.st.lr id i (Aj g.hx h)) fun ov pl rv=>?_
 refine AO (rv c hv) fun u eq1 r=>?_
 clear rv;subst eq1
 rcases pl with⟨m,_,hm,e⟩ | ⟨m | m,c,o,hc,ho,hdat⟩
 ·exact Ft g.ok.kind m hm e (k u r)
 ·exact wpAny_loadName_cell g.ok.kind m hc ⟨o,ho.1,hdat⟩ (k u r)
 ·exact wpAny_loadName_free g.ok.kind m hc ⟨o,ho.1,hdat⟩ (k u r) (by simpa using hd)
theorem eW(hop:Qx op=true)(hb:DB T.X id i=true)(hd:(id !="__classdict__")=true)(ha:AS T a v):DM T (.aug i op a) (.AugAssign (.Name id p) op v pos):=fun g fr σ N R X h=>
 wpAny_AugAssign_Name (vO.el h fun c e h=>vO.el h fun y e' h=>QF σ (H8 (A6 (bM hb).1)) (by simpa using hd) (e'▸e) fun u ru=>vInt.el h ru fun n t h=>
  MG (.refl σ) (ha g fr σ _ X h) fun τ z w S r h=>vInt.el h r fun m t' h=>by
   with_reducible refine TP hop h ?_
   exact fun n' tk h=>
   DP (τ.tick (τ.s.toks+1)) hb (.int n' tk) fun υ up S2=>(S.s.trans ((τ.to_tick _).s.trans S2)).now (fl:=.next) (up N h))
theorem Z9(k:Et T)(hop:Qx op=true)(ho:AS T o xo)(ha:AS T a v):DM T (.augA o name op a) (.AugAssign (.Attribute xo name p) op v pos):=fun g fr σ N R X h=>
 wpAny_AugAssign_AttributeAny (MG (.refl σ) (ho g fr σ _ X h) fun τ x u S rx h=>HL.el h rx fun i q hp h=>Ht.el h fun K fs e h=>vO.el h fun c hl h=>by
  obtain⟨n,rfl,h1,h⟩:∃n,c=.int n/\T.C.fld K name=true/\vE T.C a fr τ.H (fun y H=>vInt y fun b=>Ht H i fun K fs=>(T.C.fld K name=true/\fs.length<=900)/\OJ op (.int n) (.int b) H fun v=>N fr (H.set i (.inst K (putL name v fs)))) X:=by
   clear hl;cases c with
   |int n=>exact Bn n rfl h
   |_=>exact h.elim
  exact MG S.s (Oo (Q:=fun y H=>y=.int n/\H=τ.H) (.refl τ) k hp e hl h1 ⟨rfl,rfl⟩) fun υ z w S2 r2 zz=>Cd zz fun e2 e3=>by
   clear zz;subst e2
   rw[<-e3] at h
   refine FN fun g0 k0=>?_
   cases r2
   refine k0 ?_
   exact MG (S.trans S2).s (ha g fr υ _ X h) fun ω y w S3 r h=>vInt.el h r fun m t' h=>by
    with_reducible refine Ht.el h ?_
    intro K fs e zz
    with_reducible refine Cd zz ?_
    intro zy0 h
    with_reducible refine Cd zy0 ?_
    intro h1 h2
    with_reducible refine TP hop h ?_
    exact fun n' tk h=>QX (ω.tick (ω.s.toks+1)) k (S3.stp.le _ _ (S2.stp.le _ _ hp)) e (.int n' tk) h1 h2 fun s' r3 R3 S4=>(((S.trans S2).trans S3).trans (ω.to_tick _)).s.end r3 S4 R3 h)
end
theorem K4.sstp(x:K4 ct.na h₀ h h')(S:Ca ct h₀ ρ₀ h ρ):Ca ct h₀ ρ₀ h' ρ:=by
 have x0:=x
 refine AO x fun bad X f=>?_
 have nb:∀a o,h₀.get? a=some o->a∉bad:=fun a o e q=>by replace e:=f a q▸e;cases e
 refine⟨S.le,fun a o n e=>?_,fun a ha n m e=>X.ns a ha m (S.ns a ha n m e),fun a o e=>?_,fun a hm hn e=>?_⟩
 ·have z:=S.kn a o n e
  exact⟨X.keep a o z.2.2 (nb a o e.1) z.1,z.2⟩
 ·have z:=S.kd a o e
  exact⟨⟨X.keep a o z.1.2.2 (nb a o e.1.1) z.1.1,z.1.2⟩,z.2,z.3⟩
 ·rcases x0.back hn e with q | q
  ·exact S.th a hm hn q
  ·exact q
noncomputable def bJ(W:Hx)(ct:Ct)(h₀:Ah)(ρ₀:Ce)(c:Ao)(H':MH)(e:Ab)(s':Ae):Prop:=
 ∃a ρ',e=.ref a/\Ca ct h₀ ρ₀ s'.heap ρ'/\HR W.w W.hb ct.na s'.heap ρ' H'/\Ex h₀ s'.heap ct.na ρ' a c (some (AU ct.L))
section
variable {W:Hx}{n:Nat}{ct:Ct}{s':Ae}{H':MH}{h₀:Ah}{ρ₀:Ce}{c:Ao}{e:Ab}
theorem Ox(ok:GS n ct)(hk:∀a o,W.hb.get? a=some o->h₀.get? a=some o)(er:OV W ct h₀ ρ₀ c H' e s')(k:∀s'',CO s' s''->bJ W ct h₀ ρ₀ c H' e s''->R e s''):EB W.M ct.A ct.env R e s':=by
 refine Ss er fun a ρ' fl eq3 S hr x f=>?_
 clear er;subst eq3
 exact Ku ok hr hk (fun a e n m=>S.th a m n e) x f fun h' ed hr' x'=>k _ ⟨rfl,rfl⟩ (aX a ρ' rfl (ed.sstp S) hr' x')
theorem VK(ok:GS n ct)(hk:∀a o,W.hb.get? a=some o->h₀.get? a=some o)(er:bJ W ct h₀ ρ₀ c H' e s')(k:∀s'',CO s' s''->OV W ct h₀ ρ₀ c H' e s''->R e s''):Ke W.M ct.A ct.env R e s':=by
 refine cM er fun a ρ' eq2 S hr x=>?_
 clear er;subst eq2
 unfold Ke
 refine FN fun g0 k0=>?_
 obtain⟨oe,vs,dx,od,xe,xd,xi,T,oT,ts,xt,t1,_⟩:=id x
 refine k0 ?_
 refine Aa (A5 xe.at_ xi.data t1 ?_)
 refine Aj (if_neg (show ¬((B9 T==Bh)=true) from by simp)) ?_
 refine FT (fr:=ct.env.frame) hr hk x fun h' ed hr' x'=>?_
 exact k _ ⟨rfl,rfl⟩ (Sv a ρ' _ rfl (ed.sstp S) hr' x' (Aj ok.envf (.inr (.inr rfl))))
end
section
variable {prog:B7}{w:Cc}{A:Bt}{E:Ab->Ae->Prop}{s:Ae}
theorem NZ{k:Int}{n:Nat}(h0:0<=k)(h1:k<=n):sliceBounds none (some k) none n=(0,k,1):=by
 unfold sliceBounds
 simp only[Option.getD_none]
 have e:(1:Int)>0:=by decide
 simp only[e,if_true,Prod.mk.injEq,and_true,true_and]
 rw[if_neg (Bu.mpr h0),Int.min_eq_left h1,Int.max_eq_right h0]
theorem N9{l sl b:Ai}{ob:Df}{items new:Array Ab}{c m:Nat}{k:Int}{t:Tok}{Q:Unit->Ae->Prop}(hl:s.heap.get? l=some {cls:=.type "list",data:=.seq items c})(hs:s.heap.IsSliceOf sl .none (.int k t) .none)
  (hb:s.heap.get? b=some ob) (hbc:ob.cls=.type "list") (hbd:ob.data=.seq new m) (hlb:l≠b) (h0:0<=k) (h1:k<=items.size) (h2:new.size=k.toNat) (hsz:items.size<=1000)
  (hQ:∀h',AA l s.heap h'->h'.PlainList l (new++items.extract k.toNat items.size)->Q () {s with heap:=h'}):
  Av (AD prog w) A (setItem (.ref l) (.ref sl) (.ref b)) Q E s:=by
 have hT:s.TypeIs (.ref l) "list":=Bn _ hl rfl
 refine C9 (id hs) fun os hos hcs hds=>?_
 have hTs:s.TypeIs (.ref sl) "slice":=Bn os hos hcs
 unfold setItem
 try with_reducible refine Au ?_
 first | refine Aa (Ac ?_) | skip
 refine Aa (LN hT (by decide) ?_)
 refine Aa (Bb (name:=Cr "__setitem__") hT GG
  (AZ GG hT entry_list_setitem ?_ (args_list_setitem _ _ _)))
 refine(?_:Av _ _ (Ei (.ref sl)>>=_) _ _ s)
 refine Aa ?_
 unfold Ei
 refine Aa (Bv hTs slice_no_index ?_)
 refine Ac ?_
 refine Aa (EC hTs ?_)
 refine Aj (if_neg (by decide)) ?_
 rw[listSliceParts_eq]
 refine Aa (Aa (A5 hos hds (x:=.none) rfl (Aa (wpAny_listPart .none ?_))))
 refine Aj (if_neg (by exact AH)) ?_
 refine Aa (A5 hos hds (x:=.none) rfl (Aa (wpAny_listPart .none ?_)))
 refine Aa (A5 hos hds (x:=.int k t) rfl (Aa (wpAny_listPart (.int k t) (Ac ?_))))
 have hsame:C1 (.ref l) (.ref b)=false:=by simp[C1,hlb]
 refine Aj hsame ?_
 dsimp only
 refine Aj (if_neg AH) ?_
 refine Aa ?_
 unfold Ax.List.listAllItems
 refine Aa (EC (Bn ob hb hbc) ?_)
 refine Aj (if_pos (by decide)) ?_
 unfold D6
 refine Aa (BU hb hbd (Ac ?_))
 refine Aa ?_
 refine Aa (BU hl rfl (Ac ?_))
 refine Aa (Bj (sliceIndices_raw none (some k) none items.size (by simp)) ?_)
 refine Aj (NZ h0 h1) ?_
 refine(?_:Av _ _ (if ((1:Int)==1)=true then _ else _) _ _ s)
 rw[if_pos (by decide)]
 refine Aa (CU ?_)
 have hlong:BO (items.size+new.size)=false:=by
  unfold BO Bp
  simp;exact Am.1 (jO (.add za zb) (.num 16777216) [.l za (.num 1000),.e zb zc,.e zc zd,.l zd za,.l za (.num 1000)] As (Am.2 hsz) (congrArg Int.ofNat h2) (lY (BV (.num 0) za [.l (.num 0) za] As h0)) h1 (Am.2 hsz))
 refine Aj hlong (Aj (if_neg AH) ?_)
 show Av _ _ (updateSeq l (fun xs=>xs.extract 0 (0:Int).toNat++new++xs.extract (max (0:Int) k).toNat xs.size)>>=_) _ _ s
 have e1:items.extract 0 (0:Int).toNat++new++items.extract (max (0:Int) k).toNat items.size=new++items.extract k.toNat items.size:=by
  rw[Int.max_eq_right h0]
  simp
 refine Aa (F8 (hz:=by unfold Bp;exact GK xa (.num 16777216) [.l xa (.num 1000)] As hsz) (_hz':=by
  refine Aj e1 (Aj DS (Aj Array.size_extract ?_));rw[Nat.min_self];exact OP (Lp xa xb) (.num 16777217) [.e xa xc,.l xb xd,.l xc xd,.l xd (.num 1000),.l xd (.num 1000)] As h2 (DK _ _) (Int.toNat_le.2 h1) hsz hsz) hl rfl ?_)
 have hS2:=A8 (CG (fun xs:Array Ab=>xs.extract 0 (0:Int).toNat++new++xs.extract (max (0:Int) k).toNat xs.size)) hl rfl
 refine Aa (wpAny_letGo ?_)
 refine Ac ⟨_,rfl,Ac (hQ _ (BD ..) ?_)⟩
 simp only[CG,e1] at hS2
 exact⟨_,hS2⟩
end
section
variable {T:Txt}{g:Act T}{fr fr':Internal.Fr}{σ:Sg g fr}{X:EV}
theorem Sg.ES.loop(x:σ.ES X e s'):EB T.W.M g.ct.A g.ct.env (Ke T.W.M g.ct.A g.ct.env (σ.ES X)) e s':=
 EM x fun c H' r er q=>
 Ox g.ok σ.hr.old er fun ø r1 en=>VK g.ok σ.hr.old en fun ø r2 er'=>F1 c H' (r.trans (r1.trans r2)) er' q
theorem NH{β:Type}{τ:Sg g fr'}{t:Sem β}{G:β->Ae->Prop}(h:τ.wp t G (σ.ES X)):τ.wp t G (EB T.W.M g.ct.A g.ct.env (Ke T.W.M g.ct.A g.ct.env (σ.ES X))):=
 A4 h (fun ø ø q=>q) fun ø ø x=>x.loop
end
section
variable {T:Txt}{a b c e o t hi:Internal.E}{body:List S}{xa xb xc xo xt xhi v:Expr}{xs:List Ef}{o1 o2:CmpOp}{pos p p2:Pos}
theorem WI(ht:FC T t xt)(hb:Fe T body xs):DM T (.while_ t body) (.While xt xs [] pos):=fun g fr σ N R X h=>
 wpAny_While (codeAny_whileLoop (fun m s'=>∃fr',∃τ:Sg g fr',τ.s=s'/\σ.ToS τ/\DQ (fun fr H Q=>vE T.C t fr H Q X) (fun fr H N=>AV T.C body fr H N R X) m fr' τ.H N) (fun m s' zz=>Eb zz fun fr' zz=>C9 zz fun τ e S h=>by
  clear zz;clear zz;subst e
  induction m with
  |zero=>exact h.elim
  |succ m=>
   exact NH (MG S (ht g fr' τ (fun v H=>vB (.bool v) (AV T.C body fr' H (fun fr H=>DQ _ _ m fr H N) R X) (N fr' H)) X h) fun υ v u S2 r h=>
    tw r h (fun h=>NH (iV (S.trans S2.s) (hb g fr' υ _ R X h) fun fr2 ω fl S3 q=>by
      induction fl with
      |next=>exact⟨m,JZ m,fr2,ω,rfl,(S.trans S2.s).trans S3,q⟩
      |ret u=>exact((S.trans S2.s).trans S3).now (fl:=.ret u) q
      |_=>exact q.elim))
     fun h=>Ac ((S.trans S2.s).now (fl:=.next) h))) T.C.fuel ⟨fr,σ,rfl,.refl σ,h⟩)
theorem ZB(k:Et T)(hm:lastMarks [o1,o2] [xb,xc]=false)(ha:AS T a xa)(hb:AS T b xb)(hc:AS T c xc):AS T (.cmp2 o1 o2 a b c) (.Compare xa [o1,o2] [xb,xc] pos):=fun g fr σ Q X h=>
 Compare_chain (sq (.refl σ) (ha g fr σ _ _ h) fun τ x u S r h=>chain_link (sq S (hb g fr τ _ _ h) fun υ y v S2 r2 h=>Je h (fun r' tk h=>By (by
  induction r' with
  |false=>exact(S.trans S2).here (.bool _) (h.2 rfl)
  |true=>
   refine Aj (if_pos rfl) ?_
   exact chain_last (sq ((S.trans S2).trans (υ.to_tick tk)) (hc g fr (υ.tick tk) _ _ (h.1 rfl)) fun ω z w S3 r3 h=>Je h (fun r' ø q=>(((S.trans S2).trans (υ.to_tick tk)).trans S3).here (.bool r') q) (S3.v ((υ.to_tick tk).v r2)) r3 k.cd))) (S2.v r) r2 k.cd)) hm
theorem ZZ(k:Et T)(hm:lastMarks [o1,o2] [xb,xc]=false)(ha:AS T a xa)(hb:AS T b xb)(hc:AS T c xc):FC T (.cmp2 o1 o2 a b c) (.Compare xa [o1,o2] [xb,xc] pos):=fun g fr σ Q X h=>
 isTrue_chain (sq (.refl σ) (ha g fr σ _ _ h) fun τ x u S r h=>test_link (sq S (hb g fr τ _ _ h) fun υ y v S2 r2 h=>Je h (fun r' tk h=>By (by
  induction r' with
  |false=>exact(S.trans S2).here (R:=RB) rfl (h.2 rfl)
  |true=>
   refine Aj (if_pos rfl) ?_
   exact test_last (sq ((S.trans S2).trans (υ.to_tick tk)) (hc g fr (υ.tick tk) _ _ (h.1 rfl)) fun ω z w S3 r3 h=>Je h (fun r' ø q=>By ((((S.trans S2).trans (υ.to_tick tk)).trans S3).here (R:=RB) rfl q)) (S3.v ((υ.to_tick tk).v r2)) r3 k.cd))) (S2.v r) r2 k.cd)) hm
theorem ZI(hv:D9 v=true)(ho:AS T o xo)(hj:AS T hi xhi)(ha:AS T a v):DM T (.setS o hi a) (.Assign [.Subscript xo (.Slice none (some xhi) none p2) p] v pos):=fun g fr σ N R X h=>
 Sy (MG (.refl σ) (ha g fr σ _ X h) fun τ y u S r h=>MG S.s (ho g fr τ _ X h) fun υ z w S2 r2 h=>wpAny_Slice (by
  rw[JN,evalPart_some]
  refine Ac (MG (S.trans S2).s (hj g fr υ _ X h) fun ω z3 w3 S3 r3 h=>Ac ?_)
  have r:=S3.v (S2.v r)
  refine HL.el h (S3.v r2) fun i q hp h=>vInt.el h r3 fun k t h=>Jw.el h r fun ys l ol ws n b1 b2 b3 b4 h=>DI.el h fun xs e zz=>Cd zz fun zy0 h=>iM zy0 fun h0 h1 h2 h3=>?_
  refine FN fun g0 k0=>?_
  obtain⟨hpp,us,⟨c,hl⟩,rr⟩:=ω.hr.rep i q _ hp e
  refine k0 ?_
  have ln:=rr.length
  replace ln:=Aq▸ln
  have lb:=b4.length
  rw[Aq] at lb
  have S4:=ω.to_push (FE .none (.int k t) .none)
  have b5:=S4.stp.kd _ _ b1
  refine N9 (s:=(ω.push (FE .none (.int k t) .none)).s) (Af _ hl) (EN _ (Az _ rfl) rfl rfl) b5.1.1 b2 b3 (fun z=>b1.1.2.1 (Bn q (A2 hp) (.inl z.symm))) h0 (by refine Aj ln ?_;exact MO za zb [.t za (.add zb (.num 1))] As zz.1.2.1) (Aj lb h3) (Aj ln h2) fun h' hs hl'=>?_
  obtain⟨R',S'⟩:=(ω.push (FE .none (.int k t) .none)).upd_list (o:=.list (ys++xs.drop k.toNat)) (h':=h') hp (fun b x q e=>(hs.2 b q).trans e) fun kd=>by
   refine⟨hpp,_,hl',?_⟩
   rw[HM]
   refine((S4.stp.vrs b4).mono kd (.refl _)).app ?_
   refine Aj Array.toList_extract (Aj List.extract_eq_drop_take (Aj (Cm (by simp)) ?_))
   exact((S4.stp.vrs rr).mono kd (.refl _)).drop _
  exact(((S.trans S2).trans S3).trans S4).s.end (s':={ω.s with heap:=h'}) ⟨rfl,rfl⟩ S' R' h)) (FY hv)
end
theorem LX:entryFor table "proto.unchain"=some Ax.«proto.unchain»:=Hz (by kernel_rfl)
noncomputable def GU(A:Bt)(h:Ah):Bool->Prop
 |false=>A.handled=none
 |true=>∃e o vs,A.handled=some (.ref e)/\h.get? e=some o/\o.data=.fields vs/\vs[2]?=some .none
theorem OW.w(x:OW A na h ρ hd):GU A h hd:=by
 induction hd with
 |false=>exact x
 |true=>obtain⟨e,o,vs,a1,a2,a3,a4⟩:=x;exact RP e o vs a1 a2.1 a3 a4
theorem GU.in1(x:GU A h hd):GU A.in1 h hd:=by induction hd<;>exact x
theorem GU.keep(x:GU A h hd)(k:∀b o,A.handled=some (.ref b)->h.get? b=some o->h'.get? b=some o):GU A h' hd:=by
 induction hd with
 |false=>exact x
 |true=>obtain⟨e,o,vs,a1,a2,a3⟩:=x;exact RO e o vs a1 (k _ _ a1 a2) a3
theorem JA{prog:B7}{w:Cc}{A:Bt}{s:Ae}{α:Type}{e:Ai}{oe:Df}{es:Array Ab}{hd:Bool}{Q:α->Ae->Prop}{E:Ab->Ae->Prop}(hh:GU A s.heap hd)(he:s.heap.get? e=some oe)(hdat:oe.data=.fields es)(h2:2<es.size)
  (hne:∀h,A.handled=some (.ref h)->h≠e) (h:∀h' o',h'.get? e=some o'->o'.cls=oe.cls->AA e s.heap h'->E (.ref e) {s with heap:=h'}):Av (AD prog w) A (raiseNew (.ref e):Sem α) Q E s:=by
 unfold raiseNew
 refine Aa (wpAny_handled ?_)
 induction hd with
 |false=>
  refine Aj (show A.handled=none from hh) ?_
  refine Aa (Ac (wpAny_throw (h s.heap oe he rfl ?_)))
  exact⟨rfl,fun ø ø=>rfl⟩
 |true=>
  refine LI hh fun x o vs a1 a2 a3 a4=>?_
  refine Aj a1 ?_
  have hx:x≠e:=hne x a1
  dsimp only
  refine Aj (if_pos (show(B9 x !=B9 e)=true from by simpa using hx)) ?_
  refine Aa (Au (wpAny_runValue (codeAny_builtin LX ?_)))
  unfold Ax.«proto.unchain»
  dsimp only
  refine Aa (A5 a2 a3 a4 ?_)
  refine Aj (if_pos (by decide)) ?_
  refine Aa (Ac (Ac ?_))
  unfold updateField
  refine Aa (Aa (wpAny_load he ?_))
  obtain⟨c,d,dt,sl⟩:=oe
  dsimp only at hdat
  subst hdat
  dsimp only
  refine Aj (if_pos h2) ?_
  refine wpAny_update he ?_
  have e2:(CF (·.setIfInBounds 2 (.ref x)) ⟨c,d,.fields es,sl⟩:Df)=⟨c,d,.fields (es.setIfInBounds 2 (.ref x)),sl⟩:=rfl
  exact wpAny_throw (h _ _ (A8 _ he (by refine Aj e2 ?_;rfl)) rfl (BD ..))
section
variable {prog:B7}{w:Cc}{A:Bt}{E:Ab->Ae->Prop}{s:Ae}{hd:Bool}
theorem Ou{it l:Ai}{i:Nat}{items}{Q:Option Ab->Ae->Prop}(hh:GU A s.heap hd)(hne:∀h,A.handled=some (.ref h)->h≠it/\∃o,s.heap.get? h=some o)
  (hit:s.heap.IsListIter it l i) (hl:s.heap.IsList l items) (hx:items[i]?=none)
  (hQ:∀h',EF it s.heap h'->Q none {s with heap:=h'}):Av (AD prog w) A (EY (.ref it)) Q E s:=by
 refine FN fun g0 k0=>?_
 refine C9 (id hit) fun o ho hc hd=>?_
 refine C9 hl fun ol hol ø zz1=>Eb zz1 fun nl hdl=>?_
 refine k0 ?_
 unfold EY
 refine Aa (C2 (Bb (name:=Cr "__next__") hit.typeIs slot_listiter_next
  (AZ slot_listiter_next hit.typeIs entry_listiter_next ?_ (args_listiter_next _))))
 refine(?_:Av _ _ (field (.ref it) 0>>=_) _ _ s)
 refine Aa (A5 ho hd (x:=.ref l) rfl ?_)
 refine Aj (if_neg (show ¬((B9 l==Bh)=true) from AH)) ?_
 refine Aa (A5 ho hd (x:=.int i 0) rfl ?_)
 refine Aa (BU hol hdl ?_)
 simp only[FQ,hx]
 refine Aa (CU (Aa (Ci ho hd (by simp) ?_)))
 refine Aa ?_
 simp only[newExc,newTuple]
 refine Aa (AP ?_ (by size_fits))
 refine Aa (m:=Dc _ _) (Bj (a:=Bh) (by first | rfl | (simp only[Dc];rfl)) ?_)
 refine AP ?_ (by size_fits)
 refine JA (A:=A.in1) (GU.in1 (hh.keep fun b x q e=>?_)) (Az _ rfl) rfl (by simp;exact V7 (.num 2) (Lp (.num 6) xa) [] As) (fun h q=>?_) fun h' o' g1 g2 g3=>?_
 ·exact Af _ (Af _ ((A1 _ _ (BB (hne b q).1)).trans e))
 ·refine Cd (hne h q) fun n1 zz1=>Eb zz1 fun x e=>?_
  have:=AB e
  show h≠((s.heap.update it _).push _).objs.size
  rw[Dx,Gf]
  exact AW (FR this)
 ·refine Aa (Dd (T:="StopIteration") (b:=true) (Bn o' g1 g2) IK ?_)
  refine Ac (hQ _ fun b x hb e=>?_)
  refine(g3.2 b ?_).trans (Af _ (Af _ ((A1 _ _ (BB hb)).trans e)))
  have:=AB e
  show b≠((s.heap.update it _).push _).objs.size
  rw[Dx,Gf]
  exact AW (FR this)
theorem MJ{it l:Ai}{i:Nat}{items}{Q:Option Ab->Ae->Prop}(hh:GU A s.heap hd)(hne:∀h,A.handled=some (.ref h)->h≠it/\∃o,s.heap.get? h=some o)
  (hit:s.heap.IsTupleIter it l i) (hl:s.heap.IsTuple l items) (hx:items[i]?=none)
  (hQ:∀h',EF it s.heap h'->Q none {s with heap:=h'}):Av (AD prog w) A (EY (.ref it)) Q E s:=by
 refine FN fun g0 k0=>?_
 refine C9 (id hit) fun o ho hc hd=>?_
 refine C9 hl fun ol hol ø zz1=>Eb zz1 fun nl hdl=>?_
 refine k0 ?_
 unfold EY
 refine Aa (C2 (Bb (name:=Cr "__next__") hit.typeIs NJ
  (AZ NJ hit.typeIs F.entry_tuple_iterator_next ?_ (F.args_tuple_iterator_next_1 _))))
 refine(?_:Av _ _ (field (.ref it) 0>>=_) _ _ s)
 refine Aa (A5 ho hd (x:=.ref l) rfl ?_)
 refine Aj (if_neg (show ¬((B9 l==Bh)=true) from AH)) ?_
 refine Aa (A5 ho hd (x:=.int i 0) rfl ?_)
 refine Aa (BU hol hdl ?_)
 simp only[FQ,hx]
 refine Aa (CU (Aa (Ci ho hd (by simp) ?_)))
 refine Aa ?_
 simp only[newExc,newTuple]
 refine Aa (AP ?_ (by size_fits))
 refine Aa (m:=Dc _ _) (Bj (a:=Bh) (by first | rfl | (simp only[Dc];rfl)) ?_)
 refine AP ?_ (by size_fits)
 refine JA (A:=A.in1) (GU.in1 (hh.keep fun b x q e=>?_)) (Az _ rfl) rfl (by simp;exact V7 (.num 2) (Lp (.num 6) xa) [] As) (fun h q=>?_) fun h' o' g1 g2 g3=>?_
 ·exact Af _ (Af _ ((A1 _ _ (BB (hne b q).1)).trans e))
 ·refine Cd (hne h q) fun n1 zz1=>Eb zz1 fun x e=>?_
  have:=AB e
  show h≠((s.heap.update it _).push _).objs.size
  rw[Dx,Gf]
  exact AW (FR this)
 ·refine Aa (Dd (T:="StopIteration") (b:=true) (Bn o' g1 g2) IK ?_)
  refine Ac (hQ _ fun b x hb e=>?_)
  refine(g3.2 b ?_).trans (Af _ (Af _ ((A1 _ _ (BB hb)).trans e)))
  have:=AB e
  show b≠((s.heap.update it _).push _).objs.size
  rw[Dx,Gf]
  exact AW (FR this)
end
section
variable {prog:B7}{w:Cc}{A:Bt}{E:Ab->Ae->Prop}{s:Ae}{hd:Bool}
theorem GU.apart(hh:GU A s.heap hd)(hit:s.heap.get? it=none)(k:∀b o,b≠it->s.heap.get? b=some o->h'.get? b=some o):
  GU A h' hd/\∀h,A.handled=some (.ref h)->h≠it/\∃o,h'.get? h=some o:=by
 induction hd with
 |false=>exact⟨hh,fun h q=>by rw[show A.handled=none from hh] at q;cases q⟩
 |true=>
  refine Kk hh fun e o vs a1 a2 a3=>?_
  have ne:e≠it:=fun q=>by replace a2:=hit▸(q▸a2);cases a2
  refine⟨⟨e,o,vs,a1,k _ _ ne a2,a3⟩,fun h q=>?_⟩
  replace q:=a1▸q;cases q
  exact⟨ne,o,k _ _ ne a2⟩
theorem unpackItems_tuple(hh:GU A s.heap hd)(ht:s.heap.IsTuple t items)
  (hQ:∀h',EF s.heap.objs.size s.heap h'->Q items.toList {s with heap:=h'}):Av (AD prog w) A (IN (.ref t) items.size none) Q E s:=by
 have hlt:t≠s.heap.objs.size:=by refine AO ht fun o ho ø=>?_;exact AW (AB ho)
 unfold IN
 refine Aa ?_
 ·unfold notIterableAtAll
  refine Aa (Bv ht.typeIs F.slot_tuple_iter.lookup ?_)
  refine Ac ?_
  simp only[C0,if_false]
  refine Aa (Au (Gd ht ?_))
  refine Aa (Au (wpAny_draw_tuple hlt items.size 0 _ _ (EN _ (Az _ rfl) rfl rfl) (ht.push _) (GK (Lp (.num 0) xa) xa [] As) fun h₁ hit₁ hs₁=>?_))
  have hall:List.take items.size (List.drop 0 items.toList)=items.toList:=by
   exact Aj HE (Cm (by simp))
  refine Aj hall ?_
  refine Aj (if_neg (by simp)) ?_
  have ht₁:h₁.IsTuple t items:=(ht.push _).extBut hs₁.extBut hlt
  have k1:∀b o,b≠s.heap.objs.size->s.heap.get? b=some o->h₁.get? b=some o:=fun b o q e=>(hs₁.2 b q).trans (Af _ e)
  refine Cd (hh.apart (AG _) k1) fun hw ha=>?_
  refine Aa (Au (MJ (hd:=hd) hw ha hit₁ ht₁ (by simp) fun h₂ he₂=>?_))
  simp only[Option.isSome_none,C0,if_false]
  refine Ac (hQ h₂ fun b o hb e=>he₂ b o hb (hs₁.extBut b o hb (Af _ e)))
theorem My(hne:t≠it):∀(n i:Nat) (s:Ae) (Q:List Ab->Ae->Prop),s.heap.IsListIter it t i->s.heap.IsList t items->i+n<=items.size->
  (∀h',h'.IsListIter it t (i+n)->AA it s.heap h'->Q ((items.toList.drop i).take n) {s with heap:=h'})->Av (AD prog w) A (draw (.ref it) n) Q E s
 |0=>fun i s Q hit ø ø hQ=>by
  exact Ac (by simpa using hQ s.heap hit (AA.refl ..))
 |n+1=>fun i s Q hit ht hle hQ=>by
  have hlt:i<items.size:=Sr xa xb [.l (Lp xa (Lp xc (.num 1))) xb] As hle
  refine Aa (S6 hit ht (x:=items[i]) (by simp[hlt]) fun h₁ hit₁ hs₁=>?_)
  refine Aa (Au (My hne n (i+1) _ _ hit₁ (ht.extBut hs₁.extBut hne) (Fc (Lp (Lp xa (.num 1)) xb) xc [.l (Lp xa (Lp xb (.num 1))) xc] As hle) fun h₂ hit₂ hs₂=>Ac ?_))
  have hd:items.toList.drop i=items[i]::items.toList.drop (i+1):=by simp[FA,hlt]
  have:=hQ h₂ (Aj (show i+(n+1)=i+1+n from AL (CY (Lp xa (Lp xb (.num 1))) (Lp (Lp xa (.num 1)) xb) [] As) (CY (Lp (Lp xa (.num 1)) xb) (Lp xa (Lp xb (.num 1))) [] As)) hit₂) (hs₁.trans hs₂)
  rw[hd,List.take_succ_cons] at this
  exact this
theorem Jv(hh:GU A s.heap hd)(ht:s.heap.IsList t items)
  (hQ:∀h',EF s.heap.objs.size s.heap h'->Q items.toList {s with heap:=h'}):Av (AD prog w) A (IN (.ref t) items.size none) Q E s:=by
 have hlt:t≠s.heap.objs.size:=by refine AO ht fun o ho ø=>?_;exact AW (AB ho)
 unfold IN
 refine Aa ?_
 ·unfold notIterableAtAll
  refine Aa (Bv ht.typeIs slot_list_iter.lookup ?_)
  refine Ac ?_
  simp only[C0,if_false]
  refine Aa (Au (wpAny_pyIter_list ht ?_))
  refine Aa (Au (My hlt items.size 0 _ _ (EN _ (Az _ rfl) rfl rfl) (ht.push _) (GK (Lp (.num 0) xa) xa [] As) fun h₁ hit₁ hs₁=>?_))
  have hall:List.take items.size (List.drop 0 items.toList)=items.toList:=by
   exact Aj HE (Cm (by simp))
  refine Aj hall ?_
  refine Aj (if_neg (by simp)) ?_
  have ht₁:h₁.IsList t items:=(ht.push _).extBut hs₁.extBut hlt
  have k1:∀b o,b≠s.heap.objs.size->s.heap.get? b=some o->h₁.get? b=some o:=fun b o q e=>(hs₁.2 b q).trans (Af _ e)
  refine Cd (hh.apart (AG _) k1) fun hw ha=>?_
  refine Aa (Au (Ou (hd:=hd) hw ha hit₁ ht₁ (by simp) fun h₂ he₂=>?_))
  simp only[Option.isSome_none,C0,if_false]
  refine Ac (hQ h₂ fun b o hb e=>he₂ b o hb (hs₁.extBut b o hb (Af _ e)))
end
noncomputable def Yt{T:Txt}{g:Act T}{fr:Internal.Fr}(σ:Sg g fr)(K:Internal.Fr->Prop)(Q:Unit->Ae->Prop):Prop:=∀(fr':Internal.Fr) (υ:Sg g fr'),K fr'->(∀N:NV,N fr' σ.H->N fr' υ.H)->σ.ToS υ->Q () υ.s
section
variable (T:Txt)
noncomputable def GZ(p:Pt)(e:Expr):Prop:=∀(g:Act T) (fr:Internal.Fr) (σ:Sg g fr) v u K Q E,σ.v v u->bH fr p v K->Yt σ K Q->σ.wp (GN e g.ct.env u) Q E
noncomputable def Fd:List Pt->List Expr->Prop
 |[],[]=>True
 |p::ps,e::es=>(GZ T p e/\∀env es',CQ (e::es') env=(false,GN e env)::CQ es' env)/\Fd ps es
 |_,_=>False
end
section
variable {T:Txt}{a:Internal.E}{as:List Internal.E}{x v:Expr}{xs ts vs:List Expr}{ps:List Pt}{is:List Nat}{i j k:Nat}{id:Ao}{p p' pos:Pos}
theorem Yt.next{g:Act T}{fr fr':Internal.Fr}{σ:Sg g fr}{τ:Sg g fr'}{K:Internal.Fr->Prop}{Q:Unit->Ae->Prop}(h:Yt σ K Q)(up:∀N:NV,N fr' σ.H->N fr' τ.H)(S:σ.ToS τ):Yt τ K Q:=fun fr2 υ q up2 S2=>
 h fr2 υ q (fun N n=>up2 N (up (fun ø H=>N fr2 H) n)) (S.trans S2)
theorem eR(hb:DB T.X id i=true):GZ T (.v i) (.Name id p):=fun g fr σ v u K Q E r q h=>wpAny_assign_Name (DP σ hb r fun υ up S=>h _ υ q up S)
theorem QO:∀{ps:List Pt} {xs:List Expr} {env:Env},Fd T ps xs->(CQ xs env).length=ps.length/\(CQ xs env).findIdx? (·.1)=none
 |[],[],_,_=>⟨rfl,rfl⟩
 |_::_,_::_,env,h=>by
  refine Cd (QO (env:=env) h.2) fun a b=>?_
  rw[h.1.2]
  exact⟨by simp[a],by simp[List.findIdx?_cons,b]⟩
 |[],_::_,_,h=>h.elim
 |_::_,[],_,h=>h.elim
theorem aH.out:∀{is:List Nat} {fr:Internal.Fr} {vs:List V} {K:Internal.Fr->Prop},aH fr is vs K->(∃fr',K fr')/\NN fr (is.map .v) vs K
 |[],fr,[],_,h=>⟨⟨fr,h⟩,h⟩
 |i::is,fr,v::vs,_,h=>aH.out (is:=is) (fr:=AC fr i v) (vs:=vs) h
 |[],_,_::_,_,h=>h.elim
 |_::_,_,[],_,h=>h.elim
theorem bH.out{p:Pt}{fr:Internal.Fr}{v:V}{K:Internal.Fr->Prop}(h:bH fr p v K):∃fr',K fr':=by
 induction p with
 |v _=>exact⟨_,h⟩
 |t _=>induction v using V.casesOn with
  |tup _=>exact(aH.out h).1
  |_=>exact h.elim
theorem Rk:∀{ps:List Pt} {fr:Internal.Fr} {vs:List V} {K:Internal.Fr->Prop},NN fr ps vs K->vs.length=ps.length
 |[],_,[],_,_=>rfl
 |_::_,_,_::_,_,h=>congrArg (·+1) (Eb (bH.out h) fun ø h=>Rk h)
 |[],_,_::_,_,h=>h.elim
 |_::_,_,[],_,h=>h.elim
theorem B8.uncons(r:B8 P ρ (c::cs) us):∃u us',us=u::us'/\VR P ρ c u/\B8 P ρ cs us':=by
 cases r with | cons a b=>exact F1 _ _ rfl a b
theorem Z5{g:Act T}{Q:Unit->Ae->Prop}{E:Ab->Ae->Prop}(ps:List Pt):∀(xs:List Expr) {fr:Internal.Fr} (σ:Sg g fr) {vs:List V} {us:List Ab} {K:Internal.Fr->Prop},Fd T ps xs->B8 σ.k σ.ρ vs us->NN fr ps vs K->Yt σ K Q->
  σ.wp (assignInOrder ((CQ xs g.ct.env).map (·.2)) us) Q E:=by
 induction ps with
 |nil=>
  intro xs fr σ vs us K hp r q h
  induction xs with
  |nil=>induction vs with
   |nil=>cases r;exact Ac (h fr σ q (fun ø n=>n) (.refl σ))
   |cons _ _=>exact q.elim
  |cons _ _=>exact hp.elim
 |cons p ps ih=>
  intro xs fr σ vs us K hp r q h
  cases xs with
  |nil=>exact hp.elim
  |cons x xs=>cases vs with
   |nil=>exact q.elim
   |cons v vs=>
    refine EM r.uncons fun u us eq2 r1 r2=>?_
    clear r;subst eq2
    rw[hp.1.2]
    show σ.wp (do holding us (GN x g.ct.env u);assignInOrder ((CQ xs g.ct.env).map (·.2)) us) Q E
    exact Aa (Au (hp.1.1 g fr σ v u _ _ E r1 q fun fr' υ q up S=>ih xs υ hp.2 (S.stp.vrs r2) q (h.next up S)))
theorem Qm{g:Act T}{fr:Internal.Fr}{kk:Nat}{Q:Unit->Ae->Prop}{E:Ab->Ae->Prop}(hp:Fd T ps xs)(σ:Sg g fr){c:V}{u:Ab}{K:Internal.Fr->Prop}(r:σ.v c u)(q:JV c fun vs=>NN fr ps vs K)(h:Yt σ K Q):
  σ.wp (GN (.Tuple xs kk p) g.ct.env u) Q E:=by
 rw[arm_assign_Tuple]
 refine Aa (Bw ?_)
 refine Cd (QO (env:=g.ct.env) hp) fun p1 p2=>?_
 have fin:∀(vs:List V) (us:Array Ab),B8 σ.k σ.ρ vs us.toList->NN fr ps vs K->(CQ xs g.ct.env).length=us.size/\∀h',EF σ.s.heap.objs.size σ.s.heap h'->Av T.W.M g.ct.A (assignInOrder ((CQ xs g.ct.env).map (·.2)) us.toList) Q E {σ.s with heap:=h'}:=fun vs us rr q=>by
  have ln:=rr.length
  rw[Aq] at ln
  refine⟨by exact Aj p1 (Aj ln (Aj (Rk q) rfl)),fun h' hs=>?_⟩
  have k:∀b o,σ.s.heap.get? b=some o->h'.get? b=some o:=fun b o q=>hs b o (AW (AB q)) q
  have S:Ek g.ct.na σ.s.heap σ.ρ h' σ.ρ:=.all k
  exact Z5 ps xs (⟨{σ.s with heap:=h'},σ.ρ,σ.H,σ.hr.keeps (fun b o ø=>k b o) fun ø ø ø n=>n.keeps k,σ.st.lr.stp g.ok.loc S,σ.st.hdl.stp S⟩:Sg g fr) hp (S.vrs rr) q (h.next (fun ø n=>n) (Sg.To.s ⟨⟨rfl,rfl⟩,S⟩))
 unfold unpack
 refine Aj p2 ?_
 induction r using VR.casesOn with
 |@tup vs l o us m a1 a2 a3 a4=>
  obtain⟨e,f⟩:=fin vs us a4 q
  rw[e]
  exact Aa (Au (unpackItems_tuple σ.st.hdl.w ⟨o,a1.1.1,a2,m,a3⟩ f))
 |@lst vs l o us m a1 a2 a3 a4=>
  obtain⟨e,f⟩:=fin vs us a4 q
  rw[e]
  exact Aa (Au (Jv σ.st.hdl.w ⟨o,a1.1.1,a2,m,a3⟩ f))
 |_=>exact q.elim
theorem kY(hp:Fd T (is.map .v) xs):GZ T (.t is) (.Tuple xs kk p):=fun g fr σ v u K Q E r q h=>
 Qm hp σ r (by induction v using V.casesOn with | tup _=>exact(aH.out q).2 | _=>exact q.elim) h
noncomputable def Lg(x:Expr):Bool:=!Nat.beq x.ctorIdx 25
theorem Qj(h:Lg v=true):swappedStores [.Tuple ts kk p] v env=pure none:=by
 cases v<;>first | rfl | cases h
theorem MI:swapsWithSole [.Tuple ts kk p] v l env=pure false:=by
 cases v<;>rfl
theorem Z7(hv:Lg v=true)(hp:Fd T ps ts)(ha:AS T a v):DM T (.asgT ps a) (.Assign [.Tuple ts kk p] v pos):=fun g fr σ N R X h=>
 wpAny_Assign_stores (MG (.refl σ) (ha g fr σ _ X h) fun τ y u S r h=>Qm (kk:=kk) (p:=p) hp τ r h fun fr' υ q up S2=>(S.s.trans S2).now (fl:=.next) (up N q)) MI (Qj hv)
noncomputable def EZ(sc:EA)(ts vs:List Expr):Option (Option (List Ao)):=
 if !(ts.length==2||ts.length==3)||vs.length !=ts.length then some none
 else if (vs.any fun | .Starred ..=>true | _=>false)=true then none
 else
  let line:=(ts.head?.map (·.pos.line)).getD 0
  let names:=ts.filterMap fun
   |.Name id pos=>if sc.names.lookup id==some .local&&pos.line==line then some id else none
   |_=>none
  if (names.length !=ts.length||names.eraseDups.length !=names.length)=true then some none
  else if vs.all (foldedForSure 8) then some none
  else if vs.all (constantsAlone 8) then none
  else some (some names)
theorem dS{c d:Prop}[Decidable c][Decidable d]{β γ:Type}{x y:Option β}{o:β}{X Y Z:γ}(e:d↔c)(h:(if c then x else y)=some o)(f:x=some o->X=Z)(g:y=some o->Y=Z):(if d then X else Y)=Z:=by
 by_cases k:c
 ·rw[if_pos k] at h;rw[if_pos (e.mpr k)];exact f h
 ·rw[if_neg k] at h;rw[if_neg (mt e.mp k)];exact g h
theorem NC{sc:EA}{ts vs:List Expr}{o:Option (List Ao)}{env:Env}{k k':Nat}{p p':Pos}(h:EZ sc ts vs=some o)(hsc:env.scope=sc)(hk:env.scope.kind=.function):
  swappedStores [.Tuple ts k p] (.Tuple vs k' p') env=pure o:=by
 have hb:(env.blockKind !=.function)=false:=by unfold Env.blockKind;refine Aj hk ?_;rfl
 subst hsc
 have pu:∀{a:Option (List Ao)},some a=some o->(pure a:Sem (Option (List Ao)))=pure o:=fun h=>congrArg pure (Ad h)
 exact dS (iff_of_eq (by rw[hb,Bool.or_false])) h pu fun h=>dS .rfl h (fun h=>nomatch h) fun h=>dS .rfl h pu fun h=>dS .rfl h pu fun h=>dS .rfl h (fun h=>nomatch h) pu
theorem E3{g:Act T}{fr:Internal.Fr}{us:List Ab}{t:Sem Unit}{Q:Unit->Ae->Prop}{E:Ab->Ae->Prop}(σ:Sg g fr)(hb:DB T.X id i=true){c:V}{u:Ab}(r:σ.v c u)
  (h:∀υ:Sg g (AC fr i c),(∀N:NV,N (AC fr i c) σ.H->N (AC fr i c) υ.H)->σ.ToS υ->υ.wp t Q E):σ.wp (do holding us (bindName g.ct.env id u);t) Q E:=
 Aa (Au (wpAny_bindName (DP σ hb r h)))
theorem WM{fr:Internal.Fr}{i j:Nat}{a b:V}(h:(i !=j)=true):AC (AC fr i a) j b=AC (AC fr j b) i a:=List.set_comm _ _ (bne_iff_ne.mp h)
theorem NN.two{fr:Internal.Fr}{cs:List V}{K:Internal.Fr->Prop}(h:NN fr [.v i,.v j] cs K):∃c d,cs=[c,d]/\K (AC (AC fr i c) j d):=match cs,h with
 |[c,d],h=>RN c d rfl h
theorem NN.three{fr:Internal.Fr}{cs:List V}{K:Internal.Fr->Prop}(h:NN fr [.v i,.v j,.v k] cs K):∃c d e,cs=[c,d,e]/\K (AC (AC (AC fr i c) j d) k e):=match cs,h with
 |[c,d,e],h=>oU c d e rfl h
theorem WY.out{x:V}{k:List V->Prop}(h:WY x k):∃l,x=.tup l/\k l:=by
 cases x with
 |tup l=>exact Bn l rfl h
 |_=>exact h.elim
theorem Qw{kk kk':Nat}{o:Option (List Ao)}(hl:as.length<=Ap)(hsw:EZ T.X.scope ts vs=some o)(ha:E2 T as vs)
  (k:∀(g:Act T) (fr:Internal.Fr) (τ:Sg g fr) (l:Ai) (cs:List V) (K:Internal.Fr->Prop) (G:Flow->Ae->Prop) (E:Ab->Ae->Prop),τ.v (.tup cs) (.ref l)->NN fr ps cs K->Yt τ K (fun ø=>G .next)->
   τ.wp (assignStores g.ct.env (.ref l) o [fun v=>GN (.Tuple ts kk p) g.ct.env v]) G E):
  DM T (.asgTT ps as) (.Assign [.Tuple ts kk p] (.Tuple vs kk' p') pos):=fun g fr σ N R X h0=>by
 rw[exec_Assign_arm]
 refine Aa (Bw ?_)
 refine Aj MI ?_
 refine Aa (Ac ?_)
 refine Aj (if_neg (by decide)) ?_
 refine Aa (MG (.refl σ) (Yc hl ha g fr σ (fun c H=>WY c fun cs=>NN fr ps cs fun fr'=>N fr' H) X h0) fun τ c u S r hh=>?_)
 refine Aj (NC (k:=kk) (k':=kk') (p:=p) (p':=p') hsw g.hsc g.ok.kind) ?_
 refine Aa (Ac ?_)
 refine AO (WY.out hh) fun cs ec h=>?_
 clear hh;subst ec
 obtain⟨l,rfl⟩:∃l,u=.ref l:=by cases r;exact⟨_,rfl⟩
 exact k g fr τ l cs _ (σ.PS N R) (σ.ES X) r h fun fr' υ q up S2=>(S.s.trans S2).now (fl:=.next) (up N q)
theorem Ut(hl:as.length<=Ap)(hsw:EZ T.X.scope ts vs=some none)(hp:Fd T ps ts)(ha:E2 T as vs):DM T (.asgTT ps as) (.Assign [.Tuple ts kk p] (.Tuple vs kk' p') pos):=
 Qw hl hsw ha fun g fr τ l cs K G E r q h=>Aa (Qm (kk:=kk) (p:=p) (Q:=fun ø s'=>Av T.W.M g.ct.A (pure Flow.next) G E s') hp τ r q fun fr' υ q up S=>Ac (h fr' υ q up S))
theorem Ly{g:Act T}{fr:Internal.Fr}{τ:Sg g fr}{l:Ai}{cs:List V}{n:Nat}(hn:cs.length=n)(r:τ.v (.tup cs) (.ref l)){Q:List Ab->Ae->Prop}{E:Ab->Ae->Prop}
  (h:∀(υ:Sg g fr) us,B8 υ.k υ.ρ cs us->(∀N:NV,N fr τ.H->N fr υ.H)->τ.To υ->Q us υ.s):τ.wp (IN (.ref l) n none) Q E:=by
 cases r with
 |@tup _ _ ob us m a1 a2 a3 a4=>
  have ln:=a4.length
  rw[Aq] at ln
  refine D5 hn (D5 ln ?_)
  refine unpackItems_tuple τ.st.hdl.w ⟨ob,a1.1.1,a2,m,a3⟩ fun h' hs=>?_
  have k:∀b o,τ.s.heap.get? b=some o->h'.get? b=some o:=fun b o q=>hs b o (AW (AB q)) q
  have S:Ek g.ct.na τ.s.heap τ.ρ h' τ.ρ:=.all k
  exact h ⟨{τ.s with heap:=h'},τ.ρ,τ.H,τ.hr.keeps (fun b o ø=>k b o) fun ø ø ø n=>n.keeps k,τ.st.lr.stp g.ok.loc S,τ.st.hdl.stp S⟩ us.toList (S.vrs a4) (fun ø n=>n) ⟨⟨rfl,rfl⟩,S⟩
theorem Uu{kk kk':Nat}{x y:Ao}(hl:as.length<=Ap)(hsw:EZ T.X.scope ts vs=some (some [x,y]))(hx:DB T.X x i=true)(hy:DB T.X y j=true)(hij:(i !=j)=true)(ha:E2 T as vs):
  DM T (.asgTT [.v i,.v j] as) (.Assign [.Tuple ts kk p] (.Tuple vs kk' p') pos):=
 Qw hl hsw ha fun g fr τ l cs K G E r q h=>by
  refine LH (NN.two q) fun c d eq2 q=>?_
  subst eq2
  refine Aa (CU (Aa (Ly rfl r fun υ us rr up S=>?_)))
  obtain⟨u,us,rfl,r1,rr⟩:=rr.uncons
  refine AO rr.one fun w eq1 r2=>?_
  clear rr;clear rr;subst eq1
  exact Aa (E3 υ hy r2 fun ω1 up1 T1=>E3 ω1 hx (T1.stp.vr r1) fun ω2 up2 T2=>Ac (Ac (h _ ω2 (WM hij▸q) (fun N n=>up2 N (up1 (fun fr H=>N (AC fr i c) H) (up (fun fr H=>N (AC (AC fr j d) i c) H) n))) (S.s.trans (T1.trans T2)))))
theorem Uv{kk kk':Nat}{x y z:Ao}(hl:as.length<=Ap)(hsw:EZ T.X.scope ts vs=some (some [x,y,z]))(hx:DB T.X x i=true)(hy:DB T.X y j=true)(hz:DB T.X z k=true)
  (hij:(i !=j)=true) (hjk:(j !=k)=true) (hik:(i !=k)=true) (ha:E2 T as vs):
  DM T (.asgTT [.v i,.v j,.v k] as) (.Assign [.Tuple ts kk p] (.Tuple vs kk' p') pos):=
 Qw hl hsw ha fun g fr τ l cs K G E r q h=>by
  refine VT (NN.three q) fun c d e eq3 q1=>?_
  clear q;subst eq3
  refine Aa (CU (Aa (Ly rfl r fun υ us rr up S=>?_)))
  refine FN fun g0 k0=>?_
  obtain⟨u,us,rfl,r1,rr⟩:=rr.uncons
  obtain⟨w,us,rfl,r2,rr⟩:=rr.uncons
  refine AO rr.one fun v eq1 r3=>?_
  clear rr;clear rr;clear rr;subst eq1
  refine k0 ?_
  rw[WM hij,WM hik,WM hjk] at q1
  exact Aa (E3 υ hz r3 fun ω1 up1 T1=>E3 ω1 hy (T1.stp.vr r2) fun ω2 up2 T2=>E3 ω2 hx (T2.stp.vr (T1.stp.vr r1)) fun ω3 up3 T3=>
   Ac (Ac (h _ ω3 q1 (fun N n=>up3 N (up2 (fun fr H=>N (AC fr i c) H) (up1 (fun fr H=>N (AC (AC fr j d) i c) H) (up (fun fr H=>N (AC (AC (AC fr k e) j d) i c) H) n)))) (S.s.trans (T1.trans (T2.trans T3))))))
end
noncomputable def Ev(o:Df):Prop:=∃T fs,o.cls=.type T/\T≠"method"/\o.data=.fields fs
theorem Ev.notDat(x:Ev o):¬Cg o:=by
 refine EM x fun T fs h1 h2 h3=>?_
 rintro (⟨vs,rfl⟩ | ⟨_,vs,n,d⟩ | ⟨c,fs,d⟩)
 ·cases h3
 ·replace d:=h3▸d;cases d
 ·replace c:=h1▸c;cases c;exact h2 rfl
theorem Ev.notCell(x:Ev o):o.data≠.cell ov:=by
 refine EM x fun T fs h1 h2 h3=>?_
 refine Aj h3 ?_;intro q;cases q
noncomputable def MN(na:Na)(h₀:Ah)(ρ:Ce)(h h':Ah):Prop:=∃bad,EE na bad h h'/\(∀b∈bad,h₀.get? b=none/\¬mu ρ b/\∀o,h.get? b=some o->Ev o\/(b∈na.ex/\Cg o))/\
 ∀b∈bad,b∈na.ex->(∃o,h.get? b=some o/\Ev o)\/∃o,h'.get? b=some o/\Cg o
theorem EE.hrx(X:EE na bad h h')(R:HR w hb na h ρ H)(kd:∀a o,Kd na h ρ a o->Kd na h' ρ a o)(hbad:∀b∈bad,¬mu ρ b/\hb.get? b=none)
  (hex:∀b∈bad,b∈na.ex->∃o,h'.get? b=some o/\Cg o):HR w hb na h' ρ H where
 len:=R.len
 rep:=fun i p o e1 e2=>by
  have hm:∀b,b=p.1\/b=p.2->b∉na.l/\b∉bad:=fun b q=>⟨fun hn=>(R.nam b hn).2.1 ⟨p,A2 e1,q⟩,fun hn=>(hbad b hn).1 ⟨p,A2 e1,q⟩⟩
  exact(R.rep i p o e1 e2).keeps kd (.refl _) (fun o=>X.keep _ o (hm _ (.inl rfl)).1 (hm _ (.inl rfl)).2) (fun o=>X.keep _ o (hm _ (.inr rfl)).1 (hm _ (.inr rfl)).2)
 sep:=R.sep
 new:=R.new
 nam:=fun a ha=>⟨(R.nam a ha).1,(R.nam a ha).2.1,Eb ((R.nam a ha).2.2) fun m x=>⟨m,X.ns a ha m x⟩⟩
 old:=fun a o e=>X.keep a o (fun hn=>by replace e:=(R.nam a hn).1▸e;cases e) (fun hn=>by replace e:=(hbad a hn).2▸e;cases e) (R.old a o e)
 exl:=fun a ha=>⟨(R.exl a ha).1,by
  refine AO ((R.exl a ha).2) fun o x d=>?_
  by_cases hq:a∈bad
  ·refine AO (hex a hq ha) fun o' e d'=>?_
   exact Bn o' ⟨e,x.2⟩ d'
  ·exact⟨o,⟨X.keep a o x.2.2 hq x.1,x.2⟩,d⟩⟩
theorem MN.edf(x:MN na h₀ ρ h h'):K4 na h₀ h h':=C9 x fun bad X f ø=>Bn bad X (fun b q=>(f b q).1)
theorem MN.kd(x:MN na h₀ ρ h h'):∀a o,Kd na h ρ a o->Kd na h' ρ a o:=
 C9 x fun ø X f ø=>
 fun a o e=>⟨⟨X.keep a o e.1.2.2 (fun q=>((f a q).2.2 o e.1.1).elim (fun z=>z.notDat e.2) fun z=>e.3 z.1) e.1.1,e.1.2⟩,e.2,e.3⟩
theorem Um{prog:B7}{w:Cc}{A:Bt}{s:Ae}{E:Ab->Ae->Prop}{target:Expr}{v:Ab}{I:Ai}{o:Df}{T:String}{fs:Array Ab}{Q:Unit->Ae->Prop}(ho:s.heap.get? I=some o)(hc:o.cls=.type T)(hd:o.data=.fields fs)
  (hT:["enumerate","zip","dict_itemiterator","dict_reverseitemiterator","odict_iterator","itertools.zip_longest","itertools.pairwise"].contains T=false) (hQ:Q () s):Av (AD prog w) A (Io target (.ref I) v) Q E s:=by
 have main:∀a,Av (AD prog w) A (do
   let o <-load I
   match o.cls,o.data with
   |.type n,.fields vs=>
    if ["enumerate","zip","dict_itemiterator","dict_reverseitemiterator","odict_iterator","itertools.zip_longest","itertools.pairwise"].contains n&&vs[0]?==some (AU a) then
     rule "for.unpacks-the-owned-tuple"
     updateField I 0 .none
   |_,_=>pure ():Sem Unit) Q E s:=fun a=>by
  refine Aa (wpAny_load ho ?_)
  refine Aj hc (Aj hd ?_)
  dsimp only
  rw[hT,Bool.false_and]
  exact Ac hQ
 have h0:Av (AD prog w) A (pure ():Sem Unit) Q E s:=Ac hQ
 have h1:Av (AD prog w) A (Io (.List [] ⟨0,0,0,0⟩) (.ref I) v) Q E s:=by
  induction v<;>first | exact main _ | exact h0
 cases target<;>first | exact h1 | exact h0
noncomputable def HY:Expr->Bool
 |.Tuple _ _ _=>true
 |_=>false
structure Bs {T:Txt}(g:Act T) where
 s:Ae
 hk:∀a o,T.W.hb.get? a=some o->s.heap.get? a=some o
 hh:∀e,g.ct.A.handled=some (.ref e)->∃o,s.heap.get? e=some o
section
variable {T:Txt}{g:Act T}{fr:Internal.Fr}{σ:Bs g}{τ υ ω:Sg g fr}
theorem Sg.hdl_there(σ:Sg g fr):∀e,g.ct.A.handled=some (.ref e)->∃o,σ.s.heap.get? e=some o:=fun e q=>by
 have x:=σ.st.hdl
 cases hd:T.C.hd with
 |false=>replace x:=hd▸x;rw[show g.ct.A.handled=none from x] at q;cases q
 |true=>
  rw[hd] at x
  refine Kk x fun e0 o0 ø g1 g2 ø=>?_
  replace q:=g1▸q;cases q
  exact⟨o0,g2.1⟩
theorem MN.st(σ:Bs g)(τ:Sg g fr)(x:MN g.ct.na σ.s.heap τ.ρ τ.s.heap h'):St T.W g.ct {τ.s with heap:=h',toks:=tk} τ.ρ τ.H fr T.C.hd:=by
 have kd:=x.kd
 refine C9 x fun bad X f gg=>?_
 refine⟨X.hrx τ.hr kd (fun a ha=>⟨(f a ha).2.1,?_⟩) fun a ha hx=>?_,τ.st.lr.map rfl rfl (fun m=>X.ns _ g.ok.loc m) (fun c o v ho hdat=>⟨X.keep c o ho.2.2 (fun q=>((f c q).2.2 o ho.1).elim (fun z=>z.notCell hdat) fun z=>z.2.noCell hdat) ho.1,ho.2⟩) (fun ø ø rv=>rv.mono kd (.refl _)),?_⟩
 ·cases z:T.W.hb.get? a with
  |none=>rfl
  |some o=>have:=σ.hk a o z;replace this:=(f a ha).1▸this;exact nomatch this
 ·rcases gg a ha hx with⟨o,z1,z2⟩ | z
  ·refine Cd (τ.hr.exl a hx) fun ø zz1=>AO zz1 fun o' y1 y2=>?_
   replace z1:=y1.1▸z1;obtain rfl:=Ad z1
   exact absurd y2 z2.notDat
  ·exact z
 ·have s1:=τ.st.hdl
  cases hd:T.C.hd with
  |false=>rw[hd] at s1;exact s1
  |true=>
   rw[hd] at s1
   refine LI s1 fun e o vs a1 a2 a3 a4=>?_
   refine(RP e o vs a1 ⟨X.keep e o a2.2.2 (fun q=>?_) a2.1,a2.2⟩ a3 a4)
   obtain⟨o',z⟩:=σ.hh e a1
   exact nomatch (f e q).1▸z
theorem M2(σ:Bs g)(τ:Sg g fr)(hI:σ.s.heap.get? I=none):∀e,g.ct.A.handled=some (.ref e)->e≠I/\∃o,τ.s.heap.get? e=some o:=fun e q=>
 ⟨fun w=>(by obtain⟨_,z⟩:=σ.hh e q;replace z:=hI▸(w▸z);exact nomatch z),τ.hdl_there e q⟩
structure Iz (σ:Bs g)(ws:List Ai)(τ υ:Sg g fr):Prop where
 rest:CO τ.s υ.s
 rho:υ.ρ=τ.ρ
 up:υ.H=τ.H
 kd:∀a o,Kd g.ct.na τ.s.heap τ.ρ a o->Kd g.ct.na υ.s.heap τ.ρ a o
 hk:∀b o,b∉ws->τ.s.heap.get? b=some o->υ.s.heap.get? b=some o
 ed:K4 g.ct.na σ.s.heap τ.s.heap υ.s.heap
theorem Iz.refl(σ:Bs g)(ws:List Ai)(τ:Sg g fr):Iz σ ws τ τ:=⟨.refl _,rfl,rfl,fun ø ø e=>e,fun ø ø ø e=>e,.refl _ _ _⟩
theorem Iz.trans(a:Iz σ ws τ υ)(b:Iz σ ws υ ω):Iz σ ws τ ω:=
 ⟨a.rest.trans b.rest,b.rho.trans a.rho,b.up.trans a.up,fun x o e=>a.rho▸b.kd x o (a.rho▸a.kd x o e),fun x o q e=>b.hk x o q (a.hk x o q e),a.ed.trans b.ed⟩
theorem Iz.v(a:Iz σ ws τ υ)(r:τ.v x u):υ.v x u:=by
 have:=r.mono a.kd (.refl _)
 rw[<-a.rho] at this;exact this
theorem Iz.s(a:Iz σ ws τ υ)(S:Ca g.ct σ.s.heap ρ0 τ.s.heap τ.ρ):Ca g.ct σ.s.heap ρ0 υ.s.heap υ.ρ:=Aj a.rho (a.ed.sstp S)
theorem MN.turn(x:MN g.ct.na σ.s.heap τ.ρ τ.s.heap h')(hs:∀b o,b∉ws->τ.s.heap.get? b=some o->h'.get? b=some o)(tk:Nat):Iz σ ws τ ⟨{τ.s with heap:=h',toks:=tk},τ.ρ,τ.H,x.st σ τ⟩:=
 ⟨⟨rfl,rfl⟩,rfl,rfl,x.kd,hs,x.edf⟩
end
section
variable {T:Txt}{g:Act T}
structure SE (σ:Bs g)(I:Ai)(ws:List Ai)(tp:Bool)(xs:List V)(At:Nat->Ah->Ce->Prop)(Mid:Nat->Ab->Ah->Ce->Prop):Prop where
 self:∀{fr} (τ:Sg g fr) {Q E},At 0 τ.s.heap τ.ρ->Q (.ref I) τ.s->τ.wp (pyIter (.ref I)) Q E
 keep:∀{j h ρ h' ρ'},At j h ρ->Ca g.ct h ρ h' ρ'->At j h' ρ'
 keepD:∀{j h ρ h' D},At j h ρ->D∉ws->(∀b o,b≠D->h.get? b=some o->h'.get? b=some o)->(∀a o,Kd g.ct.na h ρ a o->Kd g.ct.na h' ρ a o)->At j h' ρ
 item:∀{j x fr} (τ:Sg g fr) {Q:Option Ab->Ae->Prop} {E},xs[j]?=some x->At j τ.s.heap τ.ρ->(∀v (υ:Sg g fr),Iz σ ws τ υ->Mid j v υ.s.heap υ.ρ->υ.v x v->Q (some v) υ.s)->τ.wp (EY (.ref I)) Q E
 own_:∀{j target x v fr} (τ:Sg g fr) {Q:Unit->Ae->Prop} {E},(tp=true->HY target=true)->Mid j v τ.s.heap τ.ρ->τ.v x v->(∀υ:Sg g fr,Iz σ ws τ υ->At (j+1) υ.s.heap υ.ρ->υ.v x v->Q () υ.s)->τ.wp (Io target (.ref I) v) Q E
 done:∀{fr} (τ:Sg g fr) {Q:Option Ab->Ae->Prop} {E},At xs.length τ.s.heap τ.ρ->(∀υ:Sg g fr,Iz σ ws τ υ->Q none υ.s)->τ.wp (EY (.ref I)) Q E
structure BX (ct:Ct)(h₀:Ah)(T It:String)(fs:Nat->Ab)(I l:Ai)(xs:List V)(j:Nat)(h:Ah)(ρ:Ce):Prop where
 it:∃oI,Kn ct.na h ρ I oI/\oI.cls=.type It/\oI.data=.fields #[.ref l,fs j]
 own:I∉own ct
 new:h₀.get? I=none
 seq:∃o vs k,Kd ct.na h ρ l o/\o.cls=.type T/\o.data=.seq vs k/\B8 (Kd ct.na h ρ) ρ xs vs.toList
section
variable {ct:Ct}{h₀ h h':Ah}{ρ ρ':Ce}{Ty It:String}{fs:Nat->Ab}{I l:Ai}{xs:List V}{j:Nat}
theorem BX.keep(x:BX ct h₀ Ty It fs I l xs j h ρ)(S:Ca ct h ρ h' ρ'):BX ct h₀ Ty It fs I l xs j h' ρ':=
 C9 x.it fun oI a1 a2 a3=>LI x.seq fun o vs k c1 c2 c3 c4=>
 ⟨(EN oI (S.kn _ _ x.own a1) a2 a3),x.own,x.new,o,vs,k,S.kd _ _ c1,c2,c3,S.vrs c4⟩
theorem BX.edit(x:BX ct h₀ Ty It fs I l xs j h ρ)(hI:∃oI,h'.get? I=some oI/\oI.cls=.type It/\oI.data=.fields #[.ref l,fs i])(kd:∀a o,Kd ct.na h ρ a o->Kd ct.na h' ρ a o):BX ct h₀ Ty It fs I l xs i h' ρ:=
 AO x.it fun ø a1 ø=>C9 hI fun oI d1 d2 d3=>LI x.seq fun o vs k c1 c2 c3 c4=>
 ⟨(EN oI ⟨d1,a1.2⟩ d2 d3),x.own,x.new,o,vs,k,kd _ _ c1,c2,c3,c4.mono kd (.refl _)⟩
theorem BX.keepD(x:BX ct h₀ Ty It fs I l xs j h ρ)(hD:D≠I)(hk:∀b o,b≠D->h.get? b=some o->h'.get? b=some o)(kd:∀a o,Kd ct.na h ρ a o->Kd ct.na h' ρ a o):BX ct h₀ Ty It fs I l xs j h' ρ:=
 C9 x.it fun oI a1 a2 a3=>
 x.edit (EN oI (hk _ _ (BB hD) a1.1) a2 a3) kd
theorem BX.turn(x:BX ct h₀ Ty It fs I l xs j h ρ)(hIt:It≠"method")(hs:∀b o,b≠I->h.get? b=some o->h'.get? b=some o):MN ct.na h₀ ρ h h':=by
 refine C9 x.it fun oI a1 a2 a3=>?_
 have od:Ev oI:=F1 It _ a2 hIt a3
 refine(EN ([I]) ⟨fun b o ø q e=>hs b o (by simpa using q) e,fun a ha m hn=>hn.at' fun o e=>hs a o (fun q=>a1.2.2 (q▸ha)) e⟩ (fun b hb=>?_) (fun b hb ø=>.inl ⟨oI,Aj (An.mp hb) a1.1,od⟩))
 refine Aj (An.mp hb) ?_
 exact⟨x.new,a1.2.1,fun o e=>.inl (Ad (a1.1.symm.trans e)▸od)⟩
end
structure GY (σ:Bs g)(Ty It:String)(fs:Nat->Ab)(ord:List V->List V)(I l:Ai)(xs:List V):Prop where
 self:∀{fr} (τ:Sg g fr) {Q E},BX g.ct σ.s.heap Ty It fs I l xs 0 τ.s.heap τ.ρ->Q (.ref I) τ.s->τ.wp (pyIter (.ref I)) Q E
 item:∀{j x fr} (τ:Sg g fr) {Q:Option Ab->Ae->Prop} {E},(ord xs)[j]?=some x->BX g.ct σ.s.heap Ty It fs I l xs j τ.s.heap τ.ρ->
  (∀v h' tk,τ.v x v->(∀b o,b≠I->τ.s.heap.get? b=some o->h'.get? b=some o)->(∃oI,h'.get? I=some oI/\oI.cls=.type It/\oI.data=.fields #[.ref l,fs (j+1)])->Q (some v) {τ.s with heap:=h',toks:=tk})->τ.wp (EY (.ref I)) Q E
 done:∀{fr} (τ:Sg g fr) {Q:Option Ab->Ae->Prop} {E},BX g.ct σ.s.heap Ty It fs I l xs (ord xs).length τ.s.heap τ.ρ->(∀h' tk,(∀b o,b≠I->τ.s.heap.get? b=some o->h'.get? b=some o)->Q none {τ.s with heap:=h',toks:=tk})->τ.wp (EY (.ref I)) Q E
theorem Gn{σ:Bs g}{Ty It:String}{fs:Nat->Ab}{ord:List V->List V}{I l:Ai}{xs:List V}(hIt:It≠"method")(hT:["enumerate","zip","dict_itemiterator","dict_reverseitemiterator","odict_iterator","itertools.zip_longest","itertools.pairwise"].contains It=false)
  (K:GY σ Ty It fs ord I l xs):SE σ I [I] false (ord xs) (BX g.ct σ.s.heap Ty It fs I l xs) (fun j ø=>BX g.ct σ.s.heap Ty It fs I l xs (j+1)) where
 self:=K.self
 keepD:=fun x hD hk kd=>x.keepD (fun q=>hD (by simp[q])) hk kd
 keep:=fun x S=>x.keep S
 item:=fun τ ø ø hx x k=>K.item τ hx x fun v h' tk rv hs hI=>
  have e:=x.turn hIt hs
  k v _ (e.turn (fun b o q=>hs b o (by simpa using q)) tk) (x.edit hI e.kd) (rv.mono e.kd (.refl _))
 own_:=fun τ ø ø ø x rv k=>C9 x.it fun ø a1 a2 a3=>Um a1.1 a2 a3 hT (k τ (.refl _ _ _) x rv)
 done:=fun τ ø ø x k=>K.done τ x fun h' tk hs=>k _ ((x.turn hIt hs).turn (fun b o q=>hs b o (by simpa using q)) tk)
noncomputable abbrev XB(j:Nat):Ab:=.int j 0
theorem Qf(σ:Bs g):GY σ "list" "list_iterator" XB id I l xs where
 self:=fun τ ø ø x hq=>C9 x.it fun oI a1 a2 a3=>wpAny_pyIter_listiter (i:=0) (l:=l) (EN oI a1.1 a2 a3) hq
 item:=fun τ ø ø hx x k=>by
  refine C9 x.it fun oI a1 a2 a3=>?_
  refine LI x.seq fun o vs n c1 c2 c3 c4=>?_
  refine AO (c4.get hx) fun v g1 g2=>?_
  exact S6 (EN oI a1.1 a2 a3) ⟨o,c1.1.1,c2,n,c3⟩ (by simpa using g1) fun h' hit' hs'=>k v h' τ.s.toks g2 (fun b o q e=>(hs'.2 b q).trans e) hit'
 done:=fun τ ø ø x k=>by
  refine FN fun g0 k0=>?_
  refine C9 x.it fun oI a1 a2 a3=>?_
  refine LI x.seq fun o vs n c1 c2 c3 c4=>?_
  refine k0 ?_
  have ln:=c4.length
  rw[Aq] at ln
  exact Ou τ.st.hdl.w (M2 σ τ x.new) (EN oI a1.1 a2 a3) ⟨o,c1.1.1,c2,n,c3⟩ (by simp[ln]) fun h' hs'=>k h' τ.s.toks fun b o q e=>hs' b o q e
theorem OD(σ:Bs g):GY σ "tuple" "tuple_iterator" XB id I l xs where
 self:=fun τ ø ø x hq=>C9 x.it fun oI a1 a2 a3=>wpAny_pyIter_tupleiter (i:=0) (t:=l) (EN oI a1.1 a2 a3) hq
 item:=fun τ ø ø hx x k=>by
  refine C9 x.it fun oI a1 a2 a3=>?_
  refine LI x.seq fun o vs n c1 c2 c3 c4=>?_
  refine AO (c4.get hx) fun v g1 g2=>?_
  exact wpAny_pyNext_tuple_item (EN oI a1.1 a2 a3) ⟨o,c1.1.1,c2,n,c3⟩ (by simpa using g1) fun h' hit' hs'=>k v h' τ.s.toks g2 (fun b o q e=>(hs'.2 b q).trans e) hit'
 done:=fun τ ø ø x k=>by
  refine FN fun g0 k0=>?_
  refine C9 x.it fun oI a1 a2 a3=>?_
  refine LI x.seq fun o vs n c1 c2 c3 c4=>?_
  refine k0 ?_
  have ln:=c4.length
  rw[Aq] at ln
  exact MJ τ.st.hdl.w (M2 σ τ x.new) (EN oI a1.1 a2 a3) ⟨o,c1.1.1,c2,n,c3⟩ (by simp[ln]) fun h' hs'=>k h' τ.s.toks fun b o q e=>hs' b o q e
end
end
section
open PySem PySem.W PyProof.Rows PySem.Calls PySem.SeqAt PySem.Spec
open AutoSeq1 (wpAny_loadPart')
namespace F0
theorem slot_rev_next:Slot "reversed" "__next__" "reversed.__next__":=
 .of (owner:="reversed") (n:="__next__") (by rw[Cv,Bx];kernel_rfl) (by decide+kernel) (by decide+kernel) (by decide+kernel)
  (by first | exact .inl (by decide+kernel) | exact .inr (by decide+kernel)) (by rw[C8];kernel_rfl)
theorem entry_rev_next:entryFor table "reversed.__next__"=some Ax.«reversed.__next__»:=Hz (by kernel_rfl)
theorem owner_rev:Manifest.owners.lookup (String.ofList ['d','e','s','r','e','v','e','r'].reverse)=some Manifest.sig_reversed:=by kernel_rfl
theorem args_rev_next(a:Ab):argsOk "reversed.__next__" ⟨[a],[]⟩:=by
 unfold argsOk;rw[signature?_of (id:="reversed.__next__") (n:=['_','_','t','x','e','n','_','_']) (o:=['d','e','s','r','e','v','e','r']) (by kernel_rfl) owner_rev];kernel_rfl
theorem slot_rev_iter:Slot "reversed" "__iter__" "reversed.__iter__":=
 .of (owner:="reversed") (n:="__iter__") (by rw[Cv,Bx];kernel_rfl) (by decide+kernel) (by decide+kernel) (by decide+kernel)
  (by first | exact .inl (by decide+kernel) | exact .inr (by decide+kernel)) (by rw[C8];kernel_rfl)
theorem args_rev_iter(a:Ab):argsOk "reversed.__iter__" ⟨[a],[]⟩:=by
 unfold argsOk;rw[signature?_of (id:="reversed.__iter__") (n:=['_','_','r','e','t','i','_','_']) (o:=['d','e','s','r','e','v','e','r']) (by kernel_rfl) owner_rev];kernel_rfl
theorem entry_rev_iter:entryFor table "reversed.__iter__"=some Ax.«dict_keyiterator.__iter__»:=
 entryFor_alias (id':="dict_keyiterator.__iter__") (by rw[fastTable_eq_tree];kernel_rfl) (by decide+kernel) (by decide+kernel) (by rw[fastTable_eq_tree];kernel_rfl)
end F0
section
variable {prog:B7}{w:Cc}{A:Bt}{E:Ab->Ae->Prop}{s:Ae}{h:Ah}
noncomputable def F9(h:Ah)(a l:Ai)(i:Int):Prop:=∃o,h.get? a=some o/\o.cls=.type "reversed"/\o.data=.fields #[.ref l,AU i]
theorem F9.typeIs{a l:Ai}{i:Int}(x:F9 s.heap a l i):s.TypeIs (.ref a) "reversed":=C9 x fun o ho hc ø=>Bn o ho hc
theorem Hm{it l:Ai}{i:Int}{Q:Ab->Ae->Prop}(hit:F9 s.heap it l i)(h:Q (.ref it) s):Av (AD prog w) A (pyIter (.ref it)) Q E s:=by
 refine wpAny_pyIter_slot hit.typeIs F0.slot_rev_iter (AZ F0.slot_rev_iter hit.typeIs F0.entry_rev_iter ?_ (F0.args_rev_iter _))
 exact Ac ⟨_,rfl,"reversed",_,hit.typeIs,F0.slot_rev_next.lookup,h⟩
theorem MA{it l:Ai}{i:Nat}{items:Array Ab}{x:Ab}{Q:Option Ab->Ae->Prop}(hit:F9 s.heap it l (i:Int))(hl:IsTup s.heap l items)(hx:items[i]?=some x)(hi:(i:Int)<2 ^ 62)
  (hQ:∀h' tk,F9 h' it l ((i:Int)-1)->AA it s.heap h'->Q (some x) {s with heap:=h',toks:=tk}):Av (AD prog w) A (EY (.ref it)) Q E s:=by
 refine FN fun g0 k0=>?_
 refine C9 (id hit) fun o ho hc hd=>?_
 obtain⟨ol,hol,hlc,nl,hdl⟩:=id hl
 refine k0 ?_
 have hT:s.TypeIs (.ref l) "tuple":=Bn ol hol hlc
 unfold EY
 refine Aa (C2 (Bb (name:=Cr "__next__") hit.typeIs F0.slot_rev_next
  (AZ F0.slot_rev_next hit.typeIs F0.entry_rev_next ?_ (F0.args_rev_next _))))
 unfold Ax.«reversed.__next__»
 refine Aa (Bj (a:=(B9 it,[])) rfl ?_)
 try dsimp only
 refine Aa (A5 ho hd (x:=.ref l) rfl ?_)
 refine Aa (A5 ho hd (x:=AU (i:Int)) rfl ?_)
 show Av _ _ (if (i:Int)<0 then _ else _) _ _ s
 refine Aj (if_neg (Bu.2 (BV (.num 0) za [.l (.num 0) za] As (AE _)))) ?_
 refine Aa (Bv hT Eg.lookup ?_)
 refine Aj (if_neg (by decide)) ?_
 show Av _ _ (mkInt (i:Int)>>=_) _ _ s
 refine Aa (wpAny_mkInt ?_)
 refine Aa (C2 ?_)
 have hlt:i<items.size:=by
  rcases Fo i items.size with q | q
  ·exact q
  ·replace hx:=Cj q▸hx;cases hx
 refine getItem_tuple (s:={s with toks:=s.toks+1}) (k:=(i:Int)) (j:=i) hl (BV (.neg (.num 9223372036854775808)) za [.l (.num 0) za] As (AE _)) (DU za (.num 9223372036854775808) [.t za (.num 4611686018427387904)] As hi) (by have:=Hq (k:=(i:Int)) (n:=items.size) (BV (.num 0) za [.l (.num 0) za] As (AE _)) (by simpa using hlt);simpa using this) hx ?_
 dsimp only
 refine Aa (A5 (s:={s with toks:=s.toks+1}) ho hd (x:=AU (i:Int)) rfl ?_)
 refine Aa (Ci (s:={s with toks:=s.toks+1}) ho hd (by simp) ?_)
 refine Ac (Bn x rfl (Ac (hQ _ _ ?_ (BD ..))))
 exact⟨_,A8 _ ho (Dk (BW hd _)),(J1 ..).trans hc,by
  rw[BW hd];simp⟩
theorem O6{it l:Ai}{Q:Option Ab->Ae->Prop}(hh:A.handled=none)(hit:F9 s.heap it l (-1))
  (hQ:∀h',EF it s.heap h'->Q none {s with heap:=h'}):Av (AD prog w) A (EY (.ref it)) Q E s:=by
 refine C9 (id hit) fun o ho hc hd=>?_
 unfold EY
 refine Aa (C2 (Bb (name:=Cr "__next__") hit.typeIs F0.slot_rev_next
  (AZ F0.slot_rev_next hit.typeIs F0.entry_rev_next ?_ (F0.args_rev_next _))))
 unfold Ax.«reversed.__next__»
 refine Aa (Bj (a:=(B9 it,[])) rfl ?_)
 try dsimp only
 refine Aa (A5 ho hd (x:=.ref l) rfl ?_)
 refine Aa (A5 ho hd (x:=AU (-1)) rfl ?_)
 show Av _ _ (if (-1:Int)<0 then _ else _) _ _ s
 refine Aj (if_pos (by decide)) ?_
 refine Aa (CU ?_)
 refine Aa (Aa (Ci ho hd (by simp) ?_))
 have ho2:=A8 (CF (·.setIfInBounds 1 (AU (-1)))) ho (Dk (BW hd _))
 refine Ci ho2 (BW hd _) (by simp) ?_
 refine Aa (Aa ?_)
 unfold newExc newTuple
 refine Aa (AP ?_ (by size_fits))
 refine Aa (m:=Dc _ _) (Bj (a:=Bh) (by first | rfl | (simp only[Dc];rfl)) ?_)
 refine AP ?_ (by size_fits)
 refine JE hh ?_
 refine Aa (Dd (T:="StopIteration") (b:=true) (Bn _ (Az _ rfl) rfl) IK ?_)
 refine Ac (hQ _ fun b o hb e=>Af _ (Af _ ((A1 _ _ (BB hb)).trans ((A1 _ _ (BB hb)).trans e))))
theorem Mg:Slot "reversed" "__init__" "object.__init__":=
 .of (owner:="object") (n:="__init__") (by rw[Cv,Bx];kernel_rfl) (by decide+kernel) (by decide+kernel) (by decide+kernel)
  (by first | exact .inl (by decide+kernel) | exact .inr (by decide+kernel)) (by rw[C8];kernel_rfl)
theorem JL:TypeCalled "reversed" "reversed.__new__" "object.__init__":=
 ⟨by decide+kernel,by decide+kernel,(YU _ _ PySem.F.mro_reversed),PySem.F.made_reversed,by decide+kernel,by rw[C8];kernel_rfl,Mg⟩
theorem IA:Fa (.type "tuple") "__reversed__"=pure none:=by rw[Cv,Bx];kernel_rfl
theorem HJ(l:Ai)(items:Array Ab):
  Meets (Ax.«reversed.__new__» ⟨[.type "reversed",.ref l],[]⟩) (fun ø R s=>IsTup s.heap l items/\items.size<=2 ^ 24/\
   ∀tk,R (.ok (.ret (.ref s.heap.objs.size))) {s with heap:=s.heap.push {cls:=.type "reversed",data:=.fields #[.ref l,AU ((items.size:Int)-1)]},toks:=tk}):=
 .of_wp fun prog w A R s hh=>by
  refine FN fun g0 k0=>?_
  obtain⟨hl,hsz,h⟩:=hh
  obtain⟨ol,hol,hlc,nl,hdl⟩:=id hl
  refine k0 ?_
  have hT:s.TypeIs (.ref l) "tuple":=Bn ol hol hlc
  unfold Ax.«reversed.__new__»
  refine Aa (Bj (newClass_reversed _) ?_)
  try dsimp only
  refine Aa (Bj (a:=()) (by first | rfl | kernel_rfl) ?_)
  refine Aa (Bj (a:=()) (by first | rfl | kernel_rfl) ?_)
  try dsimp only
  refine Aa (Bv hT IA ?_)
  try dsimp only
  refine Aa ?_
  wp_delta
  refine Aa (Dd (T:="tuple") (b:=false) hT (by rw[C8];kernel_rfl) ?_)
  refine Bk (fun hab=>absurd hab (by decide)) (fun ø=>?_)
  refine Aa (Bv hT Eg.lookup ?_)
  dsimp only
  refine Bk (fun ø=>?_) (fun hab=>absurd (by decide+kernel) hab)
  refine Ac ?_
  refine Bk (fun hab=>absurd hab (by decide)) (fun ø=>?_)
  refine Aa (len_tuple hl (DU za (.num 9223372036854775808) [.l za (.num 16777216)] As (Am.2 hsz)) ?_)
  refine Aa (Ac ?_)
  dsimp only
  refine Aa ?_
  show Av _ _ (newObj (.type "reversed") (.fields #[.ref l,AU ((items.size:Int)-1)])) _ _ _
  refine AP ?_ (by size_fits)
  exact Ac (Bn _ rfl (h _))
theorem HG{l:Ai}{items:Array Ab}{Q:Ab->Ae->Prop}(hl:IsTup s.heap l items)(hsz:items.size<=2 ^ 24)
  (h:∀tk,Q (.ref s.heap.objs.size) {s with heap:=s.heap.push {cls:=.type "reversed",data:=.fields #[.ref l,AU ((items.size:Int)-1)]},toks:=tk}):Av (AD prog w) A (call (.type "reversed") [.ref l]) Q E s:=
 callType_new JL (by decide) (PySem.F.typeCall_reversed_1 _) (PySem.F.newCall_reversed_1 _) (fun obj=>Kc obj _) PySem.F.entry_reversed_new
  (HJ l items) ⟨hl,hsz,fun tk=>⟨(Bn _ (Az _ rfl) rfl),h tk⟩⟩
end
set_option tactic.hygienic true in
theorem Pe{prog:B7}{w:Cc}{A:Bt}{E:Ab->Ae->Prop}{c:Ab}{Q:Bool->Ae->Prop}{s:Ae}(h:∀b,Q b s):Av (AD prog w) A (NR c) Q E s:=Aa (wpAny_stack_any fun ø=>Ac (h _))
theorem Hk(l:Ai)(items:Array Ab)(n:Nat)(dct:Option Ai)(sl:Array (Option Ab)):
  Meets (Ax.«enumerate.__new__» ⟨[.type "enumerate",.ref l],[]⟩) (fun ø R s=>s.heap.get? l=some {cls:=.type "tuple",dict:=dct,data:=.seq items n,slots:=sl}/\
   R (.ok (.ret (.ref (s.heap.push {cls:=.type "tuple_iterator",data:=.fields #[.ref l,.int 0 0]}).objs.size)))
    {s with heap:=(s.heap.push {cls:=.type "tuple_iterator",data:=.fields #[.ref l,.int 0 0]}).push {cls:=.type "enumerate",data:=.fields #[.none,.bool false,.ref s.heap.objs.size,AU 0,.none,.none]}}):=
 .of_wp fun prog w A R s h=>by
  obtain⟨hp,g,d,tk,os⟩:=s;obtain⟨hl,h⟩:=h
  have hsub:=sub_enumerate
  have hL:Ah.IsTuple (Ae.heap ⟨hp,g,d,tk,os⟩) l items:=⟨_,hl,rfl,n,rfl⟩
  repeat first | with_reducible apply Pe | with_reducible refine Ac ?_ | with_reducible refine Aa ?_ | with_reducible refine Bj (by assumption) ?_ | ((with_reducible apply Cw);focus (rfl;done)) | ((with_reducible apply Gc);focus (rfl;done)) | wp_delta
  intro c
  cases c
  ·repeat first | with_reducible apply Gd hL | with_reducible refine Ac ?_ | with_reducible refine Aa ?_ | with_reducible refine LM ?_ | ((with_reducible apply Cw);focus (rfl;done)) | wp_delta
   exact⟨_,rfl,h⟩
  ·repeat first | with_reducible apply Gd hL | with_reducible refine Ac ?_ | with_reducible refine Aa ?_ | with_reducible refine LM ?_ | ((with_reducible apply Cw);focus (rfl;done)) | ((with_reducible apply Gc);focus (rfl;done)) | wp_delta
   exact⟨_,rfl,h⟩
section
variable {prog:B7}{w:Cc}{A:Bt}{E:Ab->Ae->Prop}{s:Ae}
theorem Hb{l:Ai}{items:Array Ab}{Q:Ab->Ae->Prop}(hl:IsTup s.heap l items)
  (h:∀h',IsEnum h' (s.heap.objs.size+1) s.heap.objs.size 0 .none->h'.get? s.heap.objs.size=some {cls:=.type "tuple_iterator",data:=.fields #[.ref l,.int 0 0]}->
   (∀b o,s.heap.get? b=some o->h'.get? b=some o)->Q (.ref (s.heap.objs.size+1)) {s with heap:=h'}):
  Av (AD prog w) A (call (.type "enumerate") [.ref l]) Q E s:=by
 refine FN fun g0 k0=>?_
 obtain⟨⟨cls,dd,data,sl⟩,ho,hc,n,hd⟩:=id hl
 refine k0 ?_
 simp only at hc hd
 subst hc hd
 refine callType_new PySem.F.called_enumerate (by decide) (PySem.F.typeCall_enumerate_1 _) (PySem.F.newCall_enumerate_1 _) (fun obj=>Kc obj _) PySem.F.entry_enumerate_new
  (Hk l items n dd sl) ⟨ho,?_⟩
 have hz:(s.heap.push {cls:=.type "tuple_iterator",data:=.fields #[.ref l,.int 0 0]}).objs.size=s.heap.objs.size+1:=Dx ..
 refine Aj hz ?_
 have he:IsEnum ((s.heap.push {cls:=.type "tuple_iterator",data:=.fields #[.ref l,.int 0 0]}).push
   {cls:=.type "enumerate",data:=.fields #[.none,.bool false,.ref s.heap.objs.size,AU 0,.none,.none]}) (s.heap.objs.size+1) s.heap.objs.size 0 .none:=by
  have:=Az (s.heap.push {cls:=.type "tuple_iterator",data:=.fields #[.ref l,.int 0 0]})
   (o:={cls:=.type "enumerate",data:=.fields #[.none,.bool false,.ref s.heap.objs.size,AU 0,.none,.none]}) rfl
  rw[hz] at this;exact this
 exact⟨(Bn _ he rfl),h _ he (Af _ (Az _ rfl)) fun b o x=>Af _ (Af _ x)⟩
theorem I9{it l:Ai}{i:Nat}{items}{x:Ab}{Q:Ab->Ae->Prop}(hit:s.heap.IsTupleIter it l i)
  (hl:s.heap.IsTuple l items) (hx:items[i]?=some x)
  (hQ:∀h',h'.IsTupleIter it l (i+1)->AA it s.heap h'->Q x {s with heap:=h'}):
  Av (AD prog w) A (CP (.ref it)) Q E s:=by
 refine FN fun g0 k0=>?_
 refine C9 (id hit) fun o ho hc hd=>?_
 obtain⟨ol,hol,_,nl,hdl⟩:=hl
 refine k0 ?_
 unfold CP
 refine Aa (Bb (name:=Cr "__next__") hit.typeIs C3
  (AZ C3 hit.typeIs Ih ?_ (HU _)))
 show Av _ _ (field (.ref it) 0>>=_) _ _ s
 refine Aa (A5 ho hd (x:=.ref l) rfl ?_)
 refine Aj (if_neg (show ¬((B9 l==Bh)=true) from AH)) ?_
 refine Aa (A5 ho hd (x:=.int i 0) rfl ?_)
 refine Aa (BU hol hdl ?_)
 simp only[FQ,hx]
 refine Aa (Ci ho hd (by simp) (Ac (Bn x rfl (Ac (hQ _ ?_ (BD ..))))))
 exact⟨_,A8 _ ho (Dk (BW hd _)),(J1 ..).trans hc,by
  rw[BW hd];simp[AU]⟩
theorem Jp{it l:Ai}{i:Nat}{items}{Q:Ab->Ae->Prop}(hh:A.handled=none)
  (hit:s.heap.IsTupleIter it l i) (hl:s.heap.IsTuple l items) (hx:items[i]?=none)
  (hE:∀h' e,EF it s.heap h'->(∃o,h'.get? e=some o/\o.cls=.type "StopIteration")->E (.ref e) {s with heap:=h'}):
  Av (AD prog w) A (CP (.ref it)) Q E s:=by
 refine FN fun g0 k0=>?_
 refine C9 (id hit) fun o ho hc hd=>?_
 obtain⟨ol,hol,_,nl,hdl⟩:=hl
 refine k0 ?_
 unfold CP
 refine Aa (Bb (name:=Cr "__next__") hit.typeIs C3
  (AZ C3 hit.typeIs Ih ?_ (HU _)))
 show Av _ _ (field (.ref it) 0>>=_) _ _ s
 refine Aa (A5 ho hd (x:=.ref l) rfl ?_)
 refine Aj (if_neg (show ¬((B9 l==Bh)=true) from AH)) ?_
 refine Aa (A5 ho hd (x:=.int i 0) rfl ?_)
 refine Aa (BU hol hdl ?_)
 simp only[FQ,hx]
 refine Aa (CU (Aa (Ci ho hd (by simp) ?_)))
 refine Aa ?_
 unfold newExc newTuple
 refine Aa (AP ?_ (by size_fits))
 refine Aa (m:=Dc _ _) (Bj (a:=Bh) (by first | rfl | (simp only[Dc];rfl)) ?_)
 refine AP ?_ (by size_fits)
 refine JE hh ?_
 exact hE _ _ (((BD ..).extBut.push _).push _) (Bn _ (Az _ rfl) rfl)
end
theorem Pk{prog:B7}{w:Cc}{A:Bt}(hh:A.handled=none)(it l:Ai)(hne:l≠it)(items:Array Ab):
  Draws prog w A it [it,l] items.size (fun i v=>items[i]?=some v) (fun i h=>h.IsTupleIter it l i/\h.IsTuple l items) where
 live:=fun ø ø st=>AO st.1 fun o ho ø=>⟨o,ho⟩
 frame:=fun ø ø ø st hk=>⟨st.1.at fun o e=>hk it (by simp) o e,st.2.at fun o e=>hk l (by simp) o e⟩
 item:=fun i s Q E hi st hQ=>by
  refine I9 st.1 st.2 (x:=items[i]) (by simp[hi]) fun h' hit' hs'=>?_
  exact hQ _ h' s.toks (by simp[hi]) ⟨hit',st.2.extBut hs'.extBut hne⟩ hs'
 done:=fun s Q E st hE=>Jp hh st.1 st.2 (by simp) hE
end
section
open PySem PySem.W PyProof.Rows PySem.Calls PySem.SeqAt PySem.Spec
theorem RC(xs:List V):∀(a j:Nat),(I0 a xs)[j]?=(xs[j]?).map fun x=>.tup [.int ((a+j:Nat):Int),x]:=by
 induction xs with
 |nil=>intro a j;show([]:List V)[j]?=([]:List V)[j]?.map _;rw[IV];rfl
 |cons x xs ih=>
  intro a j
  induction j with
  |zero=>rfl
  |succ j=>
   show(I0 (a+1) xs)[j]?=xs[j]?.map _
   rw[ih (a+1) j]
   rw[show a+1+j=a+(j+1) from AL (CY (Lp (Lp xa (.num 1)) xb) (Lp xa (Lp xb (.num 1))) [] As) (CY (Lp xa (Lp xb (.num 1))) (Lp (Lp xa (.num 1)) xb) [] As)]
theorem RD(xs:List V):∀a,(I0 a xs).length=xs.length:=by
 induction xs with
 |nil=>intro a;rfl
 |cons x xs ih=>exact fun a=>congrArg (·+1) (ih _)
theorem Vr(xs:List V):∀(ys:List V) (j:Nat) (x:V),(Mi xs ys)[j]?=some x->∃a b,xs[j]?=some a/\ys[j]?=some b/\x=.tup [a,b]:=by
 induction xs with
 |nil=>intro ys j x e;cases (show(none:Option V)=some x from IV.symm.trans e)
 |cons a xs ih=>
  intro ys j x e
  cases ys with
  |nil=>cases (show(none:Option V)=some x from IV.symm.trans e)
  |cons b ys=>
   induction j with
   |zero=>exact F1 a b rfl rfl (Ad e).symm
   |succ j=>
    exact ih ys j x e
theorem Vs(xs:List V):∀ys,(Mi xs ys).length=min xs.length ys.length:=by
 induction xs with
 |nil=>exact fun ys=>(Nat.zero_min _).symm
 |cons x xs ih=>
  intro ys
  induction ys with
  |nil=>exact(Nat.min_zero _).symm
  |cons y ys=>exact(congrArg (·+1) (ih ys)).trans (Nat.succ_min_succ _ _).symm
section
variable {prog:B7}{w:Cc}{A:Bt}{E:Ab->Ae->Prop}{s:Ae}
theorem Vu(hh:A.handled=none)(D:ZipApart z TI TO i1 i2 l1 l2)
  (hz:IsZip s.heap z TI TO .none) (hTI:IsPair s.heap TI (.ref i1) (.ref i2)) (hTO:IsPair s.heap TO a b)
  (h1:s.heap.IsListIter i1 l1 k1) (h2:s.heap.IsListIter i2 l2 k2) (hl1:s.heap.IsList l1 xs) (hl2:s.heap.IsList l2 ys) (hend:xs[k1]?=none\/ys[k2]?=none)
  (hQ:∀h',(∀c o,c≠z->c≠TO->c≠i1->c≠i2->s.heap.get? c=some o->h'.get? c=some o)->(∃a b,IsPair h' TO a b)->Q none {s with heap:=h'}):Av (AD prog w) A (EY (.ref z)) Q E s:=by
 have hT:s.TypeIs (.ref z) "zip":=Bn _ hz rfl
 have last:∀(h':Ah) e,(∀c o,c≠z->c≠TO->c≠i1->c≠i2->s.heap.get? c=some o->h'.get? c=some o)->(∃a b,IsPair h' TO a b)->(∃o,h'.get? e=some o/\o.cls=.type "StopIteration")->
   Av (AD prog w) A (do if <-isInstance (.ref e) (.type "StopIteration") then pure none else throw (.ref e):Sem (Option Ab)) Q E {s with heap:=h'}:=fun h' e k1 k2 zz=>AO zz fun o ho hc=>
  Aa (Dd (T:="StopIteration") (b:=true) (Bn o ho hc) IK (Ac (hQ h' k1 k2)))
 unfold EY
 refine Aa (C2 (Bb (name:=Cr "__next__") hT PySem.F.slot_zip_next
  (AZ PySem.F.slot_zip_next hT PySem.F.entry_zip_next ?_ (PySem.F.args_zip_next_1 _))))
 refine(?_:Av _ _ (field (.ref z) 2>>=_) _ _ _)
 refine Aa (A5 hz rfl (x:=.bool false) rfl ?_)
 refine Aa (A5 hz rfl (x:=.ref TI) rfl ?_)
 refine Aa (BU hTI rfl ?_)
 refine Aa ?_
 unfold Ax.SmallTypes.ownedTupleIsFree
 refine Aa (A5 hz rfl (x:=.none) rfl (Ac ?_))
 refine Aj (if_pos rfl) ?_
 refine Aa (CU ?_)
 refine Aa (A5 hz rfl (x:=.ref TO) rfl ?_)
 refine Aa (K1 hz (by simp) fun g₁ hz₁ hs₁=>?_)
 replace hz₁:IsZip g₁ z TI TO .ellipsis:=hz₁
 refine Aa ?_
 rw[List.zipIdx_cons,List.forIn_cons]
 refine Aa (Aa (wpAny_onRaise ?_))
 cases hx:xs[k1]? with
 |none=>
  refine Aa (wpAny_nextOf_list_end hh (h1.extBut hs₁.extBut D.i1z) (hl1.extBut hs₁.extBut D.l1z) hx fun g₂ e hs₂ he=>?_)
  refine AO he fun oe hoe hce=>?_
  have hz₂:IsZip g₂ z TI TO .ellipsis:=hs₂ _ _ D.i1z.symm hz₁
  have hez:e≠z:=fun x=>by clear hz₁ hs₁ last hT hQ hz D;subst x;replace hoe:=hz₂▸hoe;obtain rfl:=Ad hoe;simp at hce
  refine K1 hz₂ (by simp) fun g₃ ø hs₃=>?_
  exact last g₃ e (fun c o c1 ø c3 ø x=>hs₃.extBut _ _ c1 (hs₂ _ _ c3 (hs₁.extBut _ _ c1 x))) (YU a b (hs₃.extBut _ _ D.TOz (hs₂ _ _ D.TOi1 (hs₁.extBut _ _ D.TOz hTO)))) (Bn oe (hs₃.extBut _ _ hez hoe) hce)
 |some x=>
  have hy:ys[k2]?=none:=by rcases hend with h | h;replace h:=hx▸h;cases h;exact h
  refine Aa (wpAny_nextOf_list_item (h1.extBut hs₁.extBut D.i1z) (hl1.extBut hs₁.extBut D.l1z) hx fun g₂ h1₂ hs₂=>Ac ?_)
  have hTO₂:IsPair g₂ TO a b:=hs₂.extBut _ _ D.TOi1 (hs₁.extBut _ _ D.TOz hTO)
  refine Aa (BU hTO₂ rfl ?_)
  refine Aa (wpAny_updateSeq_pair hTO₂ fun g₃ hTO₃ hs₃=>?_)
  refine Aa (wpAny_letGo (Ac ?_))
  show Av _ _ (forIn (_::_) _ _) _ _ _
  rw[List.forIn_cons]
  refine Aa (Aa (wpAny_onRaise ?_))
  refine Aa (wpAny_nextOf_list_end hh (((h2.extBut hs₁.extBut D.i2z).extBut hs₂.extBut D.i12.symm).extBut hs₃.extBut D.TOi2.symm)
   (((hl2.extBut hs₁.extBut D.l2z).extBut hs₂.extBut D.l2i1).extBut hs₃.extBut D.l2TO) hy fun g₄ e hs₄ he=>?_)
  refine AO he fun oe hoe hce=>?_
  have hz₄:IsZip g₄ z TI TO .ellipsis:=hs₄ _ _ D.i2z.symm (hs₃.extBut _ _ D.TOz.symm (hs₂.extBut _ _ D.i1z.symm hz₁))
  have hez:e≠z:=fun x=>by clear hz₁ hs₁ last hT hQ hz D;subst x;replace hoe:=hz₄▸hoe;obtain rfl:=Ad hoe;simp at hce
  refine K1 hz₄ (by simp) fun g₅ ø hs₅=>?_
  exact last g₅ e (fun c o c1 c2 c3 c4 x=>hs₅.extBut _ _ c1 (hs₄ _ _ c4 (hs₃.extBut _ _ c2 (hs₂.extBut _ _ c3 (hs₁.extBut _ _ c1 x))))) (YU _ _ (hs₅.extBut _ _ D.TOz (hs₄ _ _ D.TOi2 hTO₃))) (Bn oe (hs₅.extBut _ _ hez hoe) hce)
end
noncomputable abbrev aU(n:Nat)(j:Nat):Ab:=AU ((n:Int)-1-(j:Int))
theorem QQ{α:Type}{xs:List α}{j:Nat}{x:α}(h:xs.reverse[j]?=some x):j<xs.length/\xs[xs.length-1-j]?=some x:=by
 have hj:j<xs.length:=by
  have:=(Aw.mp h).1
  simpa using this
 exact⟨hj,by rw[List.getElem?_reverse hj] at h;exact h⟩
theorem Xq(h:j<n):((n-1-j:Nat):Int)=(n:Int)-1-j:=by rw[Int.ofNat_sub (Nat.le_sub_one_of_lt h),Int.ofNat_sub (Nat.one_le_of_lt h)];rfl
theorem Oa{n j:Nat}(h:j<n):AU (((n-1-j:Nat):Int)-1)=aU n (j+1):=congrArg AU ((congrArg (·-1) (Xq h)).trans (Int.sub_sub _ _ _))
theorem SX{n j:Nat}(h:j<n):AU ((n-1-j:Nat):Int)=aU n j:=congrArg AU (Xq h)
noncomputable def Ej(na:Na)(h₀ h h':Ah)(ρ:Ce):List Ai->Prop
 |[]=>True
 |b::L=>(h₀.get? b=none/\∃o,Kn na h ρ b o/\(Ev o\/(b∈na.ex/\Cg o/\∃o',h'.get? b=some o'/\Cg o')))/\Ej na h₀ h h' ρ L
theorem Ej.at{na:Na}{h₀ h h':Ah}{ρ:Ce}{b:Ai}:∀{L:List Ai},Ej na h₀ h h' ρ L->b∈L->h₀.get? b=none/\∃o,Kn na h ρ b o/\(Ev o\/(b∈na.ex/\Cg o/\∃o',h'.get? b=some o'/\Cg o'))
 |_::_,x,hb=>(Al.mp hb).elim (fun e=>e▸x.1) fun hb=>x.2.at hb
theorem Ej.ed(x:Ej na h₀ h h' ρ L)(hs:∀b o,b∉L->h.get? b=some o->h'.get? b=some o):MN na h₀ ρ h h':=
 ⟨L,⟨fun b o ø q e=>hs b o q e,fun a ha m hn=>hn.at' fun o e=>hs a o (fun q=>Cd (x.at q) fun ø zz=>AO zz fun ø k ø=>k.2.2 ha) e⟩,
  fun b hb=>Cd (x.at hb) fun f zz=>AO zz fun o k d=>⟨f,k.2.1,fun o' e=>Ad (k.1.symm.trans e)▸d.imp id fun d=>⟨d.1,d.2.1⟩⟩,
  fun b hb ø=>Cd (x.at hb) fun ø zz=>AO zz fun o k d=>d.imp (fun d=>⟨o,k.1,d⟩) fun d=>d.2.2⟩
theorem Kt(h:a∉b::L):a≠b:=List.ne_of_not_mem_cons h
theorem Nv(h:a∉b::L):a∉L:=List.not_mem_of_not_mem_cons h
section
variable {T:Txt}{g:Act T}{σ:Bs g}{I l:Ai}{xs:List V}
theorem BX.own1{ct:Ct}{h₀ h h':Ah}{ρ:Ce}{Ty It:String}{fs:Nat->Ab}{j:Nat}(x:BX ct h₀ Ty It fs I l xs j h ρ)(hIt:It≠"method"):h₀.get? I=none/\∃o,Kn ct.na h ρ I o/\(Ev o\/(I∈ct.na.ex/\Cg o/\∃o',h'.get? I=some o'/\Cg o')):=
 C9 x.it fun o a1 a2 a3=>⟨x.new,o,a1,.inl (F1 It _ a2 hIt a3)⟩
theorem Qg(hh:T.C.hd=false):GY σ "list" "list_reverseiterator" (aU xs.length) List.reverse I l xs where
 self:=fun τ ø ø x hq=>C9 x.it fun oI a1 a2 a3=>wpAny_pyIter_revIter (l:=l) (EN oI a1.1 a2 a3) hq
 item:=fun {j _ _} τ _ _ hx x k=>by
  refine C9 x.it fun oI a1 a2 a3=>?_
  refine LI x.seq fun o vs n c1 c2 c3 c4=>?_
  obtain⟨hj,hx⟩:=QQ hx
  refine AO (c4.get hx) fun v g1 g2=>?_
  exact wpAny_pyNext_rev_item (i:=xs.length-1-j) (EN oI a1.1 a2 (Aj (SX hj) a3)) ⟨o,c1.1.1,c2,n,c3⟩ (by simpa using g1) fun h' zz hs'=>C9 zz fun o' q1 q2 q3=>k v h' τ.s.toks g2 (fun b o q e=>(hs'.2 b q).trans e) (EN o' q1 q2 (by exact Aj q3 (Aj (Oa hj) rfl)))
 done:=fun τ ø ø x k=>by
  refine C9 x.it fun oI a1 a2 a3=>?_
  exact wpAny_pyNext_rev_end (l:=l) (CW hh (τ:=τ)) ⟨oI,a1.1,a2,Aj a3 (Aj B5 (congrArg (fun i=>Data.fields #[.ref l,AU i]) (B0 (BV (.sub (.sub za (.num 1)) za) (.neg (.num 1)) [] As) (BV (.neg (.num 1)) (.sub (.sub za (.num 1)) za) [] As))))⟩ fun h' hs'=>k h' τ.s.toks fun b o q e=>hs' b o q e
theorem Qh(hh:T.C.hd=false)(hlen:xs.length<=Ap):GY σ "tuple" "reversed" (aU xs.length) List.reverse I l xs where
 self:=fun τ ø ø x hq=>C9 x.it fun oI a1 a2 a3=>Hm (l:=l) (EN oI a1.1 a2 a3) hq
 item:=fun {j _ _} τ _ _ hx x k=>by
  refine C9 x.it fun oI a1 a2 a3=>?_
  refine LI x.seq fun o vs n c1 c2 c3 c4=>?_
  obtain⟨hj,hx⟩:=QQ hx
  refine AO (c4.get hx) fun v g1 g2=>?_
  exact MA (i:=xs.length-1-j) (EN oI a1.1 a2 (Aj (SX hj) a3)) ⟨o,c1.1.1,c2,n,c3⟩ (by simpa using g1) (by unfold Ap at hlen;exact bV za (.num 4611686018427387904) [.l za zb,.l zb zc,.l zc (.num 1000000)] As (Am.2 (DK _ _)) (Am.2 (DK _ _)) (Am.2 hlen)) fun h' tk zz hs'=>C9 zz fun o' q1 q2 q3=>k v h' tk g2 (fun b o q e=>(hs'.2 b q).trans e) (EN o' q1 q2 (by exact Aj q3 (Aj (Oa hj) rfl)))
 done:=fun τ ø ø x k=>by
  refine C9 x.it fun oI a1 a2 a3=>?_
  exact O6 (l:=l) (CW hh (τ:=τ)) ⟨oI,a1.1,a2,Aj a3 (Aj B5 (congrArg (fun i=>Data.fields #[.ref l,AU i]) (B0 (BV (.sub (.sub za (.num 1)) za) (.neg (.num 1)) [] As) (BV (.neg (.num 1)) (.sub (.sub za (.num 1)) za) [] As))))⟩ fun h' hs'=>k h' τ.s.toks fun b o q e=>hs' b o q e
structure Qr (ct:Ct)(h₀:Ah)(I:Ai)(n:Nat)(j:Nat)(h:Ah)(ρ:Ce):Prop where
 it:Kn ct.na h ρ I {cls:=.type "range_iterator",dict:=none,data:=.fields #[AU ((0:Int)+(j:Nat)*1),AU ((n:Int)-(j:Nat)),AU 1],slots:=#[]}
 own:I∉own ct
 new:h₀.get? I=none
theorem PY(hx:(Gq n)[j]?=some x):j<n/\x=.int (j:Int):=by
 unfold Gq at hx
 rw[IU] at hx
 refine AO (Bc.mp hx) fun i h1 h2=>?_
 obtain⟨h3,h4⟩:=Aw.mp h1
 simp at h3 h4
 clear h1;subst h4
 exact⟨h3,h2.symm⟩
theorem PF(hh:T.C.hd=false):SE σ I [I] false (Gq n) (Qr g.ct σ.s.heap I n) (fun j ø=>Qr g.ct σ.s.heap I n (j+1)) where
 self:=fun τ ø ø x hq=>wpAny_pyIter_rangeiter x.it.1 hq
 keepD:=fun x hD hk ø=>⟨⟨hk _ _ (fun q=>hD (by simp[q])) x.it.1,x.it.2⟩,x.own,x.new⟩
 keep:=fun x S=>⟨S.kn _ _ x.own x.it,x.own,x.new⟩
 item:=fun {j _ _} τ _ _ hx x k=>by
  obtain⟨hj,rfl⟩:=PY hx
  refine(Walks.range (A:=g.ct.A) (CW hh (τ:=τ)) I 0 1 n).item j τ.s _ _ hj x.it.1 fun v h' tk hP st' hk=>?_
  obtain⟨t,rfl⟩:=hP
  have e:MN g.ct.na σ.s.heap τ.ρ τ.s.heap h':=Ej.ed (L:=[I]) ⟨⟨x.new,_,x.it,.inl (F1 _ _ rfl (by decide) rfl)⟩,trivial⟩ hk
  exact k _ _ (e.turn hk tk) ⟨⟨st',x.it.2⟩,x.own,x.new⟩ (Aj (show(0:Int)+(j:Int)*1=(j:Int) from B0 (BV (.add (.num 0) (.mulR za 1)) za [] As) (BV za (.add (.num 0) (.mulR za 1)) [] As)) (.int _ _))
 own_:=fun τ ø ø ø x rv k=>Um x.it.1 rfl rfl (by decide) (k τ (.refl _ _ _) x rv)
 done:=fun τ ø ø x k=>by
  have hlen:(Gq n).length=n:=by simp[Gq]
  replace x:=hlen▸x
  refine(Walks.range (A:=g.ct.A) (CW hh (τ:=τ)) I 0 1 n).done τ.s _ _ x.it.1 fun h' tk hk=>?_
  have e:MN g.ct.na σ.s.heap τ.ρ τ.s.heap h':=Ej.ed (L:=[I]) ⟨⟨x.new,_,x.it,.inl ⟨_,_,rfl,by decide,rfl⟩⟩,trivial⟩ hk
  exact k _ (e.turn hk tk)
noncomputable abbrev MX(i:Ai)(f0:Ab)(j:Int)(old:Ab):Df:={cls:=.type "enumerate",dict:=none,data:=.fields #[f0,.bool false,.ref i,AU j,.none,old],slots:=#[]}
structure SA (ct:Ct)(h₀:Ah)(Ty It:String)(e i l:Ai)(xs:List V)(f0:Ab)(j:Nat)(h:Ah)(ρ:Ce):Prop where
 it:∃old,Kn ct.na h ρ e (MX i f0 (j:Nat) old)
 own:e∉own ct
 new:h₀.get? e=none
 sq:BX ct h₀ Ty It XB i l xs j h ρ
noncomputable def NS(Ty It:String):Prop:=(Ty="list"/\It="list_iterator")\/(Ty="tuple"/\It="tuple_iterator")
theorem NS.ne{Ty It:String}(h:NS Ty It):It≠"method":=by rcases h with⟨_,q⟩ | ⟨_,q⟩<;>(refine Aj q ?_;decide)
theorem BX.apart{ct:Ct}{h₀ h:Ah}{ρ:Ce}{Ty It:String}{fs:Nat->Ab}{j:Nat}(x:BX ct h₀ Ty It fs I l xs j h ρ){b:Ai}{o:Df}{vs:Array Ab}(e:h.get? b=some o)(d:o.data=.fields vs):l≠b:=fun q=>by
 refine LI x.seq fun o' ws k c1 ø c3 ø=>?_
 replace e:=c1.1.1▸(Eq.symm q▸e);clear c1;obtain rfl:=Ad e;replace c3:=d▸c3;cases c3
theorem ME{Ty It:String}{e i:Ai}{j:Nat}(hT:NS Ty It)(hh:T.C.hd=false){fr:Internal.Fr}(τ:Sg g fr){f0 old:Ab}(hei:e≠i)(a1:τ.s.heap.get? e=some (MX i f0 (j:Nat) old))(x:BX g.ct σ.s.heap Ty It XB i l xs j τ.s.heap τ.ρ):
  ∃(vs:Array Ab) (S:Nat->Ah->Prop),B8 τ.k τ.ρ xs vs.toList/\Draws T.W.prog T.W.w g.ct.A.in1 i [i,l] vs.size (fun n v=>vs[n]?=some v) S/\S j τ.s.heap/\e∉[i,l]/\(∀n h,S n h->∃oI,h.get? i=some oI/\oI.cls=.type It/\oI.data=.fields #[.ref l,XB n]):=by
 refine C9 x.it fun oI i1 i2 i3=>?_
 refine LI x.seq fun o vs m c1 c2 c3 c4=>?_
 have hn:g.ct.A.in1.handled=none:=CW hh (τ:=τ)
 have hle:=x.apart a1 rfl
 have hli:=x.apart i1.1 i3
 clear x;rcases hT with⟨rfl,rfl⟩ | ⟨rfl,rfl⟩
 ·exact nF vs _ c4 (Draws.list hn i l hli vs) ⟨⟨oI,i1.1,i2,i3⟩,o,c1.1.1,c2,m,c3⟩ (by simp[hei,hle.symm]) (fun n h s=>s.1)
 ·exact nF vs _ c4 (Pk hn i l hli vs) ⟨⟨oI,i1.1,i2,i3⟩,o,c1.1.1,c2,m,c3⟩ (by simp[hei,hle.symm]) (fun n h s=>s.1)
theorem RR{Ty It:String}{e i:Ai}(hh:T.C.hd=false)(hT:NS Ty It)(hei:e≠i):
  SE σ e [e,i] true (I0 0 xs) (SA g.ct σ.s.heap Ty It e i l xs .none) (fun j v h ρ=>∃T',v=.ref T'/\SA g.ct σ.s.heap Ty It e i l xs (AU T') (j+1) h ρ) where
 self:=fun τ ø ø x hq=>Eb x.it fun ø a1=>wpAny_pyIter_enum a1.1 hq
 keepD:=fun x hD hk kd=>Eb x.it fun old a1=>
  ⟨⟨old,hk _ _ (Kt (L:=[_]) hD |>.symm) a1.1,a1.2⟩,x.own,x.new,x.sq.keepD (Kt (Nv hD)) hk kd⟩
 keep:=fun x S=>Eb x.it fun old a1=>⟨⟨old,S.kn _ _ x.own a1⟩,x.own,x.new,x.sq.keep S⟩
 item:=fun {j _ _} τ _ _ hx x k=>by
  obtain⟨old,a1⟩:=x.it
  refine kA (ME hT hh τ hei a1.1 x.sq) fun vs S c4 D s0 ni si=>?_
  rw[RC] at hx
  refine AO (Bc.mp hx) fun y hy hxy=>?_
  refine AO (c4.get hy) fun v g1 g2=>?_
  replace g1:=GJ▸g1
  refine wpAny_pyNext_enum_itemD D a1.1 s0 (Dq.mp g1).1 hei ni fun u h' tk p1 p2 p3 p4 ø p5=>?_
  obtain rfl:u=v:=Ad (p1.symm.trans g1)
  have hs:∀b o,b∉[e,i]->τ.s.heap.get? b=some o->h'.get? b=some o:=fun b o q=>p5 b o (Kt q) (Kt (Nv q))
  have ed:MN g.ct.na σ.s.heap τ.ρ τ.s.heap h':=Ej.ed (L:=[e,i]) ⟨⟨x.new,_,a1,.inl (F1 _ _ rfl (by decide) rfl)⟩,x.sq.own1 hT.ne,trivial⟩ hs
  have f:=AG τ.s.heap
  refine k _ _ (ed.turn hs (tk+1)) ⟨_,rfl,⟨u,p2,a1.2⟩,x.own,x.new,x.sq.edit (si _ _ p3) ed.kd⟩ ?_
  refine D5 hxy ?_
  refine .tup ⟨⟨p4,τ.hr.fresh f,τ.hr.fresh_na f⟩,.inl ⟨_,rfl⟩,τ.hr.fresh_ex f⟩ rfl rfl ?_
  refine Aj (show((0+j:Nat):Int)=(j:Int) by simp) ?_
  exact .cons (.int _ _) (.cons (g2.mono ed.kd (.refl _)) .nil)
 own_:=fun {_ target _ _ _} τ _ _ ht mid rv k=>by
  obtain⟨T',rfl,x⟩:=mid
  obtain⟨old,a1⟩:=x.it
  cases target with
  |Tuple es c p=>
   refine wpAny_letOwnedTupleGo_enum a1.1 fun h' he' hs'=>?_
   have hs:∀b o,b∉[e]->τ.s.heap.get? b=some o->h'.get? b=some o:=fun b o q z=>(hs'.2 b (Kt q)).trans z
   have ed:MN g.ct.na σ.s.heap τ.ρ τ.s.heap h':=Ej.ed (L:=[e]) ⟨⟨x.new,_,a1,.inl (F1 _ _ rfl (by decide) rfl)⟩,trivial⟩ hs
   have tn:=ed.turn (ws:=[e,i]) (fun b o q=>hs b o (fun z=>Kt q (An.mp z))) τ.s.toks
   exact k _ tn ⟨⟨old,he',a1.2⟩,x.own,x.new,x.sq.keepD hei (fun b o q z=>(hs'.2 b q).trans z) ed.kd⟩ (tn.v rv)
  |_=>exact absurd (ht rfl) AH
 done:=fun τ ø ø x k=>by
  obtain⟨old,a1⟩:=x.it
  refine kA (ME hT hh τ hei a1.1 x.sq) fun vs S c4 D s0 ni si=>?_
  have ln:=c4.length
  rw[Aq] at ln
  have sq:=x.sq
  rw[RD,<-ln] at a1 s0
  refine wpAny_pyNext_enum_endD D a1.1 s0 fun h' hs'=>?_
  have hs:∀b o,b∉[i]->τ.s.heap.get? b=some o->h'.get? b=some o:=fun b o q z=>hs' b o (Kt q) z
  have ed:MN g.ct.na σ.s.heap τ.ρ τ.s.heap h':=Ej.ed (L:=[i]) ⟨sq.own1 hT.ne,trivial⟩ hs
  exact k _ (ed.turn (ws:=[e,i]) (fun b o q=>hs b o (fun z=>Kt (Nv q) (An.mp z))) τ.s.toks)
end
section
variable {T:Txt}{g:Act T}{σ:Bs g}{xs ys:List V}
noncomputable abbrev Vt(TI TO:Ai)(f0:Ab):Df:={cls:=.type "zip",dict:=none,data:=.fields #[f0,.bool false,.bool false,.ref TI,.ref TO],slots:=#[]}
structure Qu (ct:Ct)(h₀:Ah)(z TI TO i1 i2 l1 l2:Ai)(xs ys:List V)(f0:Ab)(j:Nat)(h:Ah)(ρ:Ce):Prop where
 it:Kn ct.na h ρ z (Vt TI TO f0)
 own:z∉own ct
 new:h₀.get? z=none
 ti:Kn ct.na h ρ TI (Ep #[.ref i1,.ref i2])
 tiown:TI∉Internal.own ct
 to:∃a b,Kn ct.na h ρ TO (Ep #[a,b])
 toown:TO∉Internal.own ct
 tonew:h₀.get? TO=none
 toex:TO∈ct.na.ex
 s1:BX ct h₀ "list" "list_iterator" XB i1 l1 xs j h ρ
 s2:BX ct h₀ "list" "list_iterator" XB i2 l2 ys j h ρ
theorem Qu.ed(x:Qu ct h₀ z TI TO i1 i2 l1 l2 xs ys f0 j h ρ)(tn:∃c d,h'.get? TO=some (Ep #[c,d]))
  (hs:∀b o,b∉[z,TO,i1,i2]->h.get? b=some o->h'.get? b=some o):MN ct.na h₀ ρ h h':=
 Oe x.to fun ø ø t1=>Oe tn fun ø ø tn=>
 Ej.ed (L:=[z,TO,i1,i2]) (kJ ⟨x.new,_,x.it,.inl (F1 _ _ rfl (by decide) rfl)⟩ ⟨x.tonew,_,t1,.inr ⟨x.toex,.inl ⟨_,rfl⟩,_,tn,.inl ⟨_,rfl⟩⟩⟩ (x.s1.own1 (by decide)) (x.s2.own1 (by decide)) trivial) hs
theorem TR(hh:T.C.hd=false)(D:ZipApart z TI TO i1 i2 l1 l2):
  SE σ z [z,TO,i1,i2,TI] true (Mi xs ys) (Qu g.ct σ.s.heap z TI TO i1 i2 l1 l2 xs ys .none) (fun j v h ρ=>∃T',v=.ref T'/\Qu g.ct σ.s.heap z TI TO i1 i2 l1 l2 xs ys (AU T') (j+1) h ρ) where
 self:=fun τ ø ø x hq=>wpAny_pyIter_zip x.it.1 hq
 keepD:=fun x hD hk kd=>
  have h1:=Nv hD;have h2:=Nv h1;have h3:=Nv h2;have h4:=Nv h3
  Oe x.to fun a b t1=>
  ⟨⟨hk _ _ (Kt hD).symm x.it.1,x.it.2⟩,x.own,x.new,⟨hk _ _ (Kt h4).symm x.ti.1,x.ti.2⟩,x.tiown,(RN a b (hk _ _ (Kt h1).symm t1.1) t1.2),x.toown,x.tonew,x.toex,x.s1.keepD (Kt h2) hk kd,x.s2.keepD (Kt h3) hk kd⟩
 keep:=fun x S=>Oe x.to fun a b t1=>
  ⟨S.kn _ _ x.own x.it,x.own,x.new,S.kn _ _ x.tiown x.ti,x.tiown,(YU a b (S.kn _ _ x.toown t1)),x.toown,x.tonew,x.toex,x.s1.keep S,x.s2.keep S⟩
 item:=fun τ ø ø hx x k=>by
  refine Oe x.to fun pa pb a6=>?_
  refine C9 x.s1.it fun oI c1 c2 c3=>?_
  refine LI x.s1.seq fun o vs m d1 d2 d3 d4=>?_
  refine C9 x.s2.it fun oJ e1 e2 e3=>?_
  refine LI x.s2.seq fun o' us m' f1 f2 f3 f4=>?_
  refine EM (Vr _ _ _ _ hx) fun xa xb hxa hxb eq4=>?_
  subst eq4
  refine AO (d4.get hxa) fun va g1 g2=>?_
  refine AO (f4.get hxb) fun vb k1 k2=>?_
  refine wpAny_pyNext_zip_item D x.it.1 x.ti.1 a6.1 (EN oI c1.1 c2 c3) (EN oJ e1.1 e2 e3) ⟨o,d1.1.1,d2,m,d3⟩ ⟨o',f1.1.1,f2,m',f3⟩ (by simpa using g1) (by simpa using k1) fun h' p1 p2 p3 p4 p5 ø p7=>?_
  have hs:∀b o,b∉[z,TO,i1,i2]->τ.s.heap.get? b=some o->h'.get? b=some o:=fun b o q=>p7 b o (Kt q) (Kt (Nv q)) (Kt (Nv (Nv q))) (Kt (Nv (Nv (Nv q))))
  have ed:MN g.ct.na σ.s.heap τ.ρ τ.s.heap h':=x.ed (YU _ _ p2) hs
  have f:=AG τ.s.heap
  refine k _ _ (ed.turn (ws:=[z,TO,i1,i2,TI]) (fun b o q=>hs b o fun w=>q (AQ [TI] w)) τ.s.toks) ⟨_,rfl,⟨p1,x.it.2⟩,x.own,x.new,⟨p7 _ _ D.TIz D.TITO D.TIi1 D.TIi2 x.ti.1,x.ti.2⟩,x.tiown,(RN _ _ p2 a6.2),x.toown,x.tonew,x.toex,x.s1.edit p3 ed.kd,x.s2.edit p4 ed.kd⟩ ?_
  exact .tup ⟨⟨p5,τ.hr.fresh f,τ.hr.fresh_na f⟩,.inl ⟨_,rfl⟩,τ.hr.fresh_ex f⟩ rfl rfl (.cons (g2.mono ed.kd (.refl _)) (.cons (k2.mono ed.kd (.refl _)) .nil))
 own_:=fun {_ target _ _ _} τ _ _ ht mid rv k=>by
  obtain⟨T',rfl,x⟩:=mid
  refine Oe x.to fun pa pb a6=>?_
  cases target with
  |Tuple es c p=>
   refine wpAny_letOwnedTupleGo_zip x.it.1 fun h' hz' hs'=>?_
   have hk:∀b o,b≠z->τ.s.heap.get? b=some o->h'.get? b=some o:=fun b o q e=>(hs'.2 b q).trans e
   have ed:MN g.ct.na σ.s.heap τ.ρ τ.s.heap h':=Ej.ed (L:=[z]) ⟨⟨x.new,_,x.it,.inl ⟨_,_,rfl,by decide,rfl⟩⟩,trivial⟩ fun b o q=>hk b o (Kt q)
   have tn:=ed.turn (ws:=[z,TO,i1,i2,TI]) (fun b o q=>hk b o (Kt q)) τ.s.toks
   exact k _ tn ⟨⟨hz',x.it.2⟩,x.own,x.new,⟨hk _ _ D.TIz x.ti.1,x.ti.2⟩,x.tiown,(RN _ _ (hk _ _ D.TOz a6.1) a6.2),x.toown,x.tonew,x.toex,x.s1.keepD D.i1z.symm hk ed.kd,x.s2.keepD D.i2z.symm hk ed.kd⟩ (tn.v rv)
  |_=>exact absurd (ht rfl) AH
 done:=fun τ ø ø x k=>by
  refine FN fun g0 k0=>?_
  obtain⟨pa,pb,a6⟩:=x.to
  refine C9 x.s1.it fun oI c1 c2 c3=>?_
  refine LI x.s1.seq fun o vs m d1 d2 d3 d4=>?_
  refine C9 x.s2.it fun oJ e1 e2 e3=>?_
  refine LI x.s2.seq fun o' us m' f1 f2 f3 f4=>?_
  refine k0 ?_
  have l1':=d4.length
  have l2':=f4.length
  rw[Aq] at l1' l2'
  have hend:vs[(Mi xs ys).length]?=none\/us[(Mi xs ys).length]?=none:=by
   rw[Vs,<-l1',<-l2']
   rcases Nat.le_total vs.size us.size with h | h
   ·exact .inl (Aj (ET h) (Cj (Ay _)))
   ·exact .inr (Aj (Gx h) (Cj (Ay _)))
  refine Vu (CW hh (τ:=τ)) D x.it.1 x.ti.1 a6.1 (EN oI c1.1 c2 c3) (EN oJ e1.1 e2 e3) ⟨o,d1.1.1,d2,m,d3⟩ ⟨o',f1.1.1,f2,m',f3⟩ hend fun h' p7 tn=>?_
  have hs:∀b o,b∉[z,TO,i1,i2]->τ.s.heap.get? b=some o->h'.get? b=some o:=fun b o q=>p7 b o (Kt q) (Kt (Nv q)) (Kt (Nv (Nv q))) (Kt (Nv (Nv (Nv q))))
  exact k _ ((x.ed tn hs).turn (fun b o q=>hs b o fun w=>q (AQ [TI] w)) τ.s.toks)
end
theorem X7(h:EJ e=true)(x:Ab):foldedSetIterable e env x=pure x:=by
 cases e<;>first | rfl | cases h
section
variable {ρ:Ce}
structure IR (na na':Na)(h₀:Ah):Prop where
 l:∀a,a∈na'.l->a∈na.l\/h₀.get? a=none
 ex:∀a,a∈na'.ex->a∈na.ex\/h₀.get? a=none
 l':∀a∈na.l,a∈na'.l
 ex':∀a∈na.ex,a∈na'.ex
theorem IR.kn(x:IR na na' h₀)(e:Kn na h₀ ρ a o):Kn na' h₀ ρ a o:=
 ⟨e.1,e.2.1,fun q=>(x.l a q).elim e.2.2 fun z=>by replace z:=e.1▸z;cases z⟩
theorem IR.kd(x:IR na na' h₀)(e:Kd na h₀ ρ a o):Kd na' h₀ ρ a o:=
 ⟨x.kn e.1,e.2,fun q=>(x.ex a q).elim e.3 fun z=>by replace z:=e.1.1▸z;exact nomatch z⟩
theorem IR.kdk(x:IR na na' h₀)(k:∀b o,h₀.get? b=some o->h.get? b=some o)(e:Kd na h₀ ρ a o):Kd na' h ρ a o:=
 let z:=x.kd e;⟨⟨k _ _ z.1.1,z.1.2⟩,z.2,z.3⟩
theorem IR.back(x:IR na na' h₀)(e:Kn na' h ρ a o):Kn na h ρ a o:=⟨e.1,e.2.1,fun q=>e.2.2 (x.l' a q)⟩
theorem IR.backd(x:IR na na' h₀)(e:Kd na' h ρ a o):Kd na h ρ a o:=⟨x.back e.1,e.2,fun q=>e.3 (x.ex' a q)⟩
noncomputable def Gz(h₀ h:Ah)(ρ:Ce)(I:Ai)(o:Df):Prop:=h₀.get? I=none/\h.get? I=some o/\¬mu ρ I
noncomputable def NQ(h₀ h:Ah)(ρ:Ce)(I l:Ai)(It:String):Prop:=h₀.get? I=none/\(∃o,h.get? I=some o/\o.cls=.type It/\o.data=.fields #[.ref l,.int 0 0])/\¬mu ρ I
noncomputable def Fw(na:Na)(h:Ah)(ρ:Ce)(T:String)(l:Ai)(xs:List V):Prop:=∃o vs k,Kd na h ρ l o/\o.cls=.type T/\o.data=.seq vs k/\B8 (Kd na h ρ) ρ xs vs.toList
noncomputable def Qs(na:Na)(h₀ h:Ah)(ρ:Ce)(xs:List V)(I:Ai):Prop:=
 (∃l,Gz h₀ h ρ I {cls:=.type "list_reverseiterator",data:=.fields #[.ref l,AU ((xs.length:Int)-1)]}/\Fw na h₀ ρ "list" l xs)\/
 ∃l,Gz h₀ h ρ I {cls:=.type "reversed",data:=.fields #[.ref l,AU ((xs.length:Int)-1)]}/\Fw na h₀ ρ "tuple" l xs
inductive Pa (na:Na)(hd:Bool)(h₀ h:Ah)(ρ:Ce):Bool->List Ai->Bool->List V->Ai->Prop
 |tup {xs l}:Fw na h₀ ρ "tuple" l xs->Pa na hd h₀ h ρ false [] false xs l
 |lst {xs l}:Fw na h₀ ρ "list" l xs->Pa na hd h₀ h ρ false [] false xs l
 |range {n r t u v}:hd=false->n<=1000->Gz h₀ h ρ r {cls:=.type "range",dict:=none,data:=.fields #[.int 0 t,.int (n:Nat) u,.int 1 v],slots:=#[]}->Pa na hd h₀ h ρ false [] false (Gq n) r
 |itT {xs I l}:NQ h₀ h ρ I l "tuple_iterator"->Fw na h₀ ρ "tuple" l xs->Pa na hd h₀ h ρ true [] false xs I
 |itL {xs I l}:NQ h₀ h ρ I l "list_iterator"->Fw na h₀ ρ "list" l xs->Pa na hd h₀ h ρ true [] false xs I
 |itR {n I}:hd=false->Gz h₀ h ρ I {cls:=.type "range_iterator",dict:=none,data:=.fields #[AU 0,AU (n:Nat),AU 1],slots:=#[]}->Pa na hd h₀ h ρ true [] false (Gq n) I
 |rev {b xs I}:hd=false->xs.length<=Ap->Qs na h₀ h ρ xs I->Pa na hd h₀ h ρ b [] false xs.reverse I
 |zip {b xs ys z TI TO i1 i2 l1 l2}:hd=false->ZipApart z TI TO i1 i2 l1 l2->Gz h₀ h ρ z (Vt TI TO .none)->Gz h₀ h ρ TI (Ep #[.ref i1,.ref i2])->Gz h₀ h ρ TO (Ep #[.none,.none])->
   NQ h₀ h ρ i1 l1 "list_iterator"->NQ h₀ h ρ i2 l2 "list_iterator"->Fw na h₀ ρ "list" l1 xs->Fw na h₀ ρ "list" l2 ys->Pa na hd h₀ h ρ b [TO] true (Mi xs ys) z
 |enum {b xs e i l Ty It}:hd=false->NS Ty It->e≠i->Gz h₀ h ρ e (MX i .none 0 .none)->NQ h₀ h ρ i l It->Fw na h₀ ρ Ty l xs->Pa na hd h₀ h ρ b [] true (I0 0 xs) e
noncomputable def FV(o:Df):Prop:=(∀es ep,o.data≠.dict es ep)/\∀ov,o.data≠.cell ov
theorem OH(vs:Array Ab):FV (Ep vs):=⟨fun es ep q=>(by cases q),fun ov q=>(by cases q)⟩
theorem DH(h:o.data=.fields fs):FV o:=⟨fun es ep q=>(by replace q:=h▸q;cases q),fun ov q=>(by replace q:=h▸q;cases q)⟩
theorem OR.keeps2(x:OR w na h ρ p o)(k:∀a o,Kd na h ρ a o->Kd na' h' ρ a o)(k1:∀o,h.get? p.1=some o->h'.get? p.1=some o)(k2:∀o,h.get? p.2=some o->h'.get? p.2=some o):
  OR w na' h' ρ p o:=by
 induction o with
 |list xs=>obtain⟨e,vs,a,b⟩:=x;exact⟨e,vs,a.at fun o=>k1 o,b.mono k (.refl _)⟩
 |dict es=>obtain⟨e,nd,ds,n,a,b⟩:=x;exact⟨e,nd,ds,n,k1 _ a,b.mono k (.refl _)⟩
 |inst C fs=>obtain⟨ne,a,nd,ds,n,c,b⟩:=x;exact⟨ne,k1 _ a,nd,ds,n,k2 _ c,b.mono k (.refl _)⟩
theorem Ll(n:Nat):IQ 0 (n:Int) 1=(n:Int):=by
 unfold IQ
 by_cases h:n=0
 ·subst h;rfl
 ·simp;lia
theorem HR.enl(R:HR w hb na h₀ ρ H)(en:IR na na' h₀)(k:∀b o,h₀.get? b=some o->h.get? b=some o)(hn:∀a,a∈na'.l->h₀.get? a=none->¬mu ρ a/\∃m,h.Ns a m)
  (hx:∀a,a∈na'.ex->h₀.get? a=none->¬mu ρ a/\a∉na'.l/\∃o,h.get? a=some o/\Cg o):HR w hb na' h ρ H where
 len:=R.len
 rep:=fun i p o e1 e2=>(R.rep i p o e1 e2).keeps2 (fun a o e=>en.kdk k e) (fun o e=>k _ _ e) (fun o e=>k _ _ e)
 sep:=R.sep
 new:=R.new
 nam:=fun a ha=>by
  rcases en.l a ha with q | q
  ·obtain⟨a1,a2,m,a3⟩:=R.nam a q
   exact⟨a1,a2,m,a3.keeps k⟩
  ·refine⟨?_,hn a ha q⟩
   cases z:hb.get? a with
   |none=>rfl
   |some o=>replace q:=R.old a o z▸q;exact nomatch q
 old:=fun a o e=>k _ _ (R.old a o e)
 exl:=fun a ha=>by
  rcases en.ex a ha with q | q
  ·obtain⟨a1,o,a2,a3⟩:=R.exl a q
   refine⟨a1,o,⟨k _ _ a2.1,a2.2.1,fun z=>?_⟩,a3⟩
   rcases en.l a z with y | y
   ·exact a2.2.2 y
   ·replace y:=a2.1▸y;exact nomatch y
  ·obtain⟨b1,b2,o,b3,b4⟩:=hx a ha q
   refine⟨?_,o,⟨b3,b1,b2⟩,b4⟩
   cases z:hb.get? a with
   |none=>rfl
   |some o=>rw[R.old a o z] at q;exact nomatch q
theorem HR.back(R:HR w hb na' h ρ H)(en:IR na na' h₀):HR w hb na h ρ H where
 len:=R.len
 rep:=fun i p o e1 e2=>(R.rep i p o e1 e2).keeps2 (fun a o e=>en.backd e) (fun o e=>e) (fun o e=>e)
 sep:=R.sep
 new:=R.new
 nam:=fun a ha=>R.nam a (en.l' a ha)
 old:=R.old
 exl:=fun a ha=>by
  obtain⟨a1,o,a2,a3⟩:=R.exl a (en.ex' a ha)
  exact⟨a1,o,en.back a2,a3⟩
end
section
variable {T:Txt}{g:Act T}{fr:Internal.Fr}
theorem PQ(τ:Sg g fr)(q:a∈own g.ct):∃o,τ.s.heap.get? a=some o/\(a∈g.ct.na.l\/∃ov,o.data=.cell ov):=by
 rcases Al.mp q with rfl | q
 ·exact cN ((τ.hr.nam _ g.ok.loc).2.2) fun ø o' ø ø ho ø=>Bn o' ho (.inl g.ok.loc)
 ·split at q
  ·exact nomatch q
  obtain⟨⟨x,i⟩,hx,hc⟩:=BA.mp q
  refine AO (τ.st.lr x i hx) fun ov pl ø=>?_
  rcases pl with⟨k,_⟩ | ⟨k,c,o,hc',ho,hdat⟩
  ·replace hc:=k▸hc;cases hc
  ·dsimp only at hc
   rw[if_neg (by rcases k with k | k<;>(refine Aj k ?_;decide)),hc'] at hc
   refine D5 (Ad hc) ?_
   exact Bn o ho.1 (.inr ⟨_,hdat⟩)
theorem Lb(τ:Sg g fr)(e:τ.s.heap.get? a=some o)(od:FV o):a∉g.ct.na.l:=fun q=>by
 obtain⟨_,_,m,o',es,ep,ho,hd',_⟩:=τ.hr.nam a q
 replace ho:=e▸ho;obtain rfl:=Ad ho
 exact od.1 _ _ hd'
theorem M7(τ:Sg g fr)(e:τ.s.heap.get? a=some o)(od:FV o):a∉own g.ct:=fun q=>by
 refine AO (PQ τ q) fun o' e' n=>?_
 rw[e] at e';obtain rfl:=Ad e'
 exact n.elim (Lb τ e od) fun zz=>Eb zz fun ø d=>od.2 _ d
theorem RX(τ:Sg g fr)(e:τ.s.heap.get? a=none):a∉own g.ct:=fun q=>by
 refine AO (PQ τ q) fun o' e' ø=>?_
 rw[e] at e';exact nomatch e'
theorem Gz.at(τ:Sg g fr)(x:Gz h₀ h τ.ρ I o)(k:∀b o,h.get? b=some o->τ.s.heap.get? b=some o)(p:FV o):Kn g.ct.na τ.s.heap τ.ρ I o/\I∉own g.ct/\h₀.get? I=none:=
 ⟨⟨k _ _ x.2.1,x.2.2,Lb τ (k _ _ x.2.1) p⟩,M7 τ (k _ _ x.2.1) p,x.1⟩
theorem Fw.enl{ρ:Ce}{na na':Na}{h₀ h:Ah}{Ty:String}{l:Ai}{xs:List V}(x:Fw na h₀ ρ Ty l xs)(en:IR na na' h₀)(k:∀b o,h₀.get? b=some o->h.get? b=some o):Fw na' h ρ Ty l xs:=
 LI x fun o vs m a1 a2 a3 a4=>RP o vs m (en.kdk k a1) a2 a3 (a4.mono (fun ø ø e=>en.kdk k e) (.refl _))
theorem NQ.at{na:Na}{h₀ h:Ah}{I l:Ai}{It Ty:String}{xs:List V}(τ:Sg g fr)(x:NQ h₀ h τ.ρ I l It)(k:∀b o,h.get? b=some o->τ.s.heap.get? b=some o)(q:Fw na h₀ τ.ρ Ty l xs)(en:IR na g.ct.na h₀)(k0:∀b o,h₀.get? b=some o->τ.s.heap.get? b=some o):
  BX g.ct h₀ Ty It XB I l xs 0 τ.s.heap τ.ρ:=
 Gj x fun x1 zz x5=>C9 zz fun o x2 x3 x4=>
 ⟨(EN o ⟨k _ _ x2,x5,Lb τ (k _ _ x2) (DH x4)⟩ x3 x4),M7 τ (k _ _ x2) (DH x4),x1,q.enl en k0⟩
theorem jR(n:Nat):aU n 0=AU ((n:Int)-1):=congrArg AU (B0 (BV (.sub (.sub za (.num 1)) (.num 0)) (.sub za (.num 1)) [] As) (BV (.sub za (.num 1)) (.sub (.sub za (.num 1)) (.num 0)) [] As))
theorem Gz.rev{na:Na}{h₀ h:Ah}{I l:Ai}{It Ty:String}{xs:List V}(τ:Sg g fr)(x:Gz h₀ h τ.ρ I {cls:=.type It,data:=.fields #[.ref l,AU ((xs.length:Int)-1)]})(k:∀b o,h.get? b=some o->τ.s.heap.get? b=some o)(q:Fw na h₀ τ.ρ Ty l xs)(en:IR na g.ct.na h₀)(k0:∀b o,h₀.get? b=some o->τ.s.heap.get? b=some o):
  BX g.ct h₀ Ty It (aU xs.length) I l xs 0 τ.s.heap τ.ρ:=
 Gj (x.at τ k (DH rfl)) fun a1 a2 a3=>
 ⟨(EN _ a1 rfl (by rw[jR])),a2,a3,q.enl en k0⟩
theorem OC{W:Hx}{A:Bt}{H:MH}{na na':Na}{hd:Bool}{s:Ae}{h₀:Ah}{ρ:Ce}{exs:List Ai}{tp raw:Bool}{xs:List V}{u:Ai}{Q:Ab->Ae->Prop}{E:Ab->Ae->Prop}(R:HR W.w W.hb na' s.heap ρ H)
  (k0:∀b o,h₀.get? b=some o->s.heap.get? b=some o) (x:Pa na hd h₀ s.heap ρ raw exs tp xs u)
  (k:∀I s1,CO s s1->(∀b o,s.heap.get? b=some o->s1.heap.get? b=some o)->Pa na hd h₀ s1.heap ρ true exs tp xs I->Q (.ref I) s1):raw=false->Av W.M A (pyIter (.ref u)) Q E s:=by
 intro hraw
 have f:=AG s.heap
 have f0:h₀.get? s.heap.objs.size=none:=by
  cases z:h₀.get? s.heap.objs.size with
  |none=>rfl
  |some o=>replace f:=k0 _ _ z▸f;exact nomatch f
 have kp:∀(o:Df) b x,s.heap.get? b=some x->(s.heap.push o).get? b=some x:=fun o b x e=>Af _ e
 induction x using Pa.casesOn with
 |tup q=>
  obtain⟨o,vs,m,a1,a2,a3,a4⟩:=id q
  exact Gd ⟨o,k0 _ _ a1.1.1,a2,m,a3⟩ (k _ {s with heap:=_} ⟨rfl,rfl⟩ (kp _) (.itT ⟨f0,(EN _ (Az _ rfl) rfl rfl),R.fresh f⟩ q))
 |lst q=>
  obtain⟨o,vs,m,a1,a2,a3,a4⟩:=id q
  exact wpAny_pyIter_list ⟨o,k0 _ _ a1.1.1,a2,m,a3⟩ (k _ {s with heap:=_} ⟨rfl,rfl⟩ (kp _) (.itL ⟨f0,(EN _ (Az _ rfl) rfl rfl),R.fresh f⟩ q))
 |rev hh hlen x=>
  rcases id x with⟨l,o1,q⟩ | ⟨l,o1,q⟩
  ·exact wpAny_pyIter_revIter (EN _ o1.2.1 rfl rfl) (k _ s (.refl _) (fun b o e=>e) (.rev hh hlen x))
  ·exact Hm (EN _ o1.2.1 rfl rfl) (k _ s (.refl _) (fun b o e=>e) (.rev hh hlen x))
 |zip hh D z1 t1 t2 i1 i2 q1 q2=>exact wpAny_pyIter_zip z1.2.1 (k _ s (.refl _) (fun b o e=>e) (.zip hh D z1 t1 t2 i1 i2 q1 q2))
 |enum hh hT hei o1 o2 q=>exact wpAny_pyIter_enum o1.2.1 (k _ s (.refl _) (fun b o e=>e) (.enum hh hT hei o1 o2 q))
 |@range n' r t u v hh hn o1=>
  refine wpAny_pyIter_range o1.2.1 ?_ ?_
  ·unfold Ax.Range.small Ax.Range.rangeFitsLong
   rw[Ll,if_pos (by decide)]
   simp only[Ew,Bool.or_eq_true,decide_eq_true_eq]
   refine⟨⟨⟨⟨?_,?_⟩,?_⟩,?_⟩,.inr ?_⟩<;>lia
  ·rw[Ll]
   exact k _ {s with heap:=_} ⟨rfl,rfl⟩ (kp _) (.itR hh ⟨f0,Az _ rfl,R.fresh f⟩)
 |_=>cases hraw
theorem O5{σ:Bs g}{na:Na}{exs:List Ai}{tp raw:Bool}{xs:List V}{I:Ai}{h1:Ah}(τ:Sg g fr)(en:IR na g.ct.na σ.s.heap)(hex:∀a∈exs,a∈g.ct.na.ex)
  (k0:∀b o,σ.s.heap.get? b=some o->τ.s.heap.get? b=some o) (k1:∀b o,h1.get? b=some o->τ.s.heap.get? b=some o) (x:Pa na T.C.hd σ.s.heap h1 τ.ρ raw exs tp xs I):
  raw=true->∃ws At Mid,SE σ I ws tp xs At Mid/\(∀b∈ws,∃o,h1.get? b=some o)/\At 0 τ.s.heap τ.ρ:=by
 intro hraw
 have one:∀{I:Ai},(∃o,h1.get? I=some o)->∀b∈[I],∃o,h1.get? b=some o:=fun h b hb=>(An.mp hb)▸h
 have io:∀{I l It},NQ σ.s.heap h1 τ.ρ I l It->∃o,h1.get? I=some o:=fun x=>AO x.2.1 fun o x ø=>⟨o,x⟩
 have cons:∀{a:Ai} {L:List Ai},(∃o,h1.get? a=some o)->(∀b∈L,∃o,h1.get? b=some o)->∀b∈a::L,∃o,h1.get? b=some o:=fun h k b hb=>(Al.mp hb).elim (fun e=>e▸h) (k b)
 induction x using Pa.casesOn with
 |itT o1 q=>exact RO _ _ _ (Gn (ord:=id) (by decide) (by decide) (OD σ)) (one (io o1)) (o1.at τ k1 q en k0)
 |itL o1 q=>exact RO _ _ _ (Gn (ord:=id) (by decide) (by decide) (Qf σ)) (one (io o1)) (o1.at τ k1 q en k0)
 |itR hh o1=>exact Gj (o1.at τ k1 (DH rfl)) fun a1 a2 a3=>⟨_,_,_,PF hh,one ⟨_,o1.2.1⟩,by simpa using a1,a2,a3⟩
 |rev hh hlen x=>
  rcases x with⟨l,o1,q⟩ | ⟨l,o1,q⟩
  ·exact RO _ _ _ (Gn (by decide) (by decide) (Qg hh)) (one ⟨_,o1.2.1⟩) (o1.rev τ k1 q en k0)
  ·exact RO _ _ _ (Gn (by decide) (by decide) (Qh hh hlen)) (one ⟨_,o1.2.1⟩) (o1.rev τ k1 q en k0)
 |zip hh D z1 t1 t2 i1 i2 q1 q2=>
  exact Gj (z1.at τ k1 (DH rfl)) fun a1 a2 a3=>Gj (t1.at τ k1 (OH _)) fun b1 b2 ø=>Gj (t2.at τ k1 (OH _)) fun c1 c2 c3=>
   ⟨_,_,_,TR hh D,cons ⟨_,z1.2.1⟩ (cons ⟨_,t2.2.1⟩ (cons (io i1) (cons (io i2) (one ⟨_,t1.2.1⟩)))),a1,a2,a3,b1,b2,(YU _ _ c1),c2,c3,hex _ (.head _),i1.at τ k1 q1 en k0,i2.at τ k1 q2 en k0⟩
 |enum hh hT hei o1 o2 q=>
  exact Gj (o1.at τ k1 (DH rfl)) fun a1 a2 a3=>⟨_,_,_,RR hh hT hei,cons ⟨_,o1.2.1⟩ (one (io o2)),⟨_,a1⟩,a2,a3,o2.at τ k1 q en k0⟩
 |_=>exact nomatch hraw
end
section
variable {T:Txt}{g:Act T}{exs:List Ai}
noncomputable def Act.plus(g:Act T)(exs:List Ai):Act T:=⟨{g.ct with na:=⟨g.ct.na.l,exs++g.ct.na.ex⟩},⟨⟨g.ok.frames,g.ok.fna,g.ok.depth,g.ok.units⟩,g.ok.head,g.ok.envf,g.ok.loc,g.ok.glob,g.ok.blt,g.ok.kind⟩,⟨g.cs.cinj,g.cs.cnew,g.cs.inj,g.cs.fn⟩,g.hx,g.hsc⟩
theorem Ff(h:∀a∈exs,h₀.get? a=none):IR g.ct.na (g.plus exs).ct.na h₀:=
 ⟨fun a q=>.inl q,fun a q=>(AJ.mp q).elim (fun q=>.inr (h a q)) .inl,fun a q=>q,fun a q=>AF _ q⟩
theorem N0(e:Kd (g.plus exs).ct.na h ρ a o):Kd g.ct.na h ρ a o:=⟨e.1,e.2,fun q=>e.3 (AF _ q)⟩
noncomputable def Qq(h h':Ah)(ρ:Ce)(exs:List Ai):Prop:=∀a∈exs,h.get? a=none/\¬mu ρ a/\∃o,h'.get? a=some o/\Cg o
theorem Sg.plus_st{fr:Internal.Fr}(σ:Sg g fr){s:Ae}(k:∀b o,σ.s.heap.get? b=some o->s.heap.get? b=some o)(h:Qq σ.s.heap s.heap σ.ρ exs):St T.W (g.plus exs).ct s σ.ρ σ.H fr T.C.hd:=by
 have en:IR g.ct.na (g.plus exs).ct.na σ.s.heap:=Ff fun a q=>(h a q).1
 refine⟨σ.hr.enl en k (fun a q z=>absurd z ?_) (fun a q z=>?_),σ.st.lr.map rfl rfl (fun m hm=>hm.keeps k) (fun ø ø ø ho ø=>⟨k _ _ ho.1,ho.2⟩) (fun ø ø rv=>rv.mono (fun ø ø e=>en.kdk k e) (.refl _)),?_⟩
 ·refine Gj (σ.hr.nam a q) fun ø ø zz1=>cN zz1 fun m o ø ø ho ø=>?_
  rw[ho];simp
 ·rcases AJ.mp q with q | q
  ·exact⟨(h a q).2.1,fun w=>σ.hr.fresh_na z w,(h a q).2.2⟩
  ·refine FN fun g0 k0=>?_
   refine Cd (σ.hr.exl a q) fun ø zz1=>AO zz1 fun o a2 ø=>?_
   refine k0 ?_
   rw[a2.1] at z;exact nomatch z
 ·have x:=σ.st.hdl
  cases hd:T.C.hd with
  |false=>rw[hd] at x;exact x
  |true=>rw[hd] at x;exact Kk x fun e o vs a b c=>RO e o vs a ⟨k _ _ b.1,b.2⟩ c
noncomputable def Sg.unplus{fr:Internal.Fr}(τ:Sg (g.plus exs) fr):Sg g fr:=⟨τ.s,τ.ρ,τ.H,τ.hr.back (Ff (h₀:=⟨#[],{}⟩) fun a ø=>Fj a),τ.st.lr.map rfl rfl (fun ø n=>n) (fun ø ø ø n ø=>n) (fun ø ø rv=>rv.mono (fun ø ø e=>N0 e) (.refl _)),τ.st.hdl⟩
theorem Ca.unplus(S:Ca (g.plus exs).ct h₀ ρ0 h ρ)(hx:∀a∈exs,h₀.get? a=none):Ca g.ct h₀ ρ0 h ρ:=
 ⟨S.le,S.kn,S.ns,fun a o e=>N0 (S.kd a o ((Ff hx).kd e)),S.th⟩
structure Sg.ToP {fr fr':Internal.Fr}(σ:Sg g fr)(τ:Sg (g.plus exs) fr'):Prop where
 rest:CO σ.s τ.s
 stp:Ca (g.plus exs).ct σ.s.heap σ.ρ τ.s.heap τ.ρ
theorem Sg.ToP.trans{fr fr' fr'':Internal.Fr}{σ:Sg g fr}{τ:Sg (g.plus exs) fr'}{υ:Sg (g.plus exs) fr''}(a:σ.ToP τ)(b:τ.ToS υ):σ.ToP υ:=⟨a.rest.trans b.rest,a.stp.trans b.stp⟩
theorem Sg.ToP.fl{fr fr':Internal.Fr}{τ:Sg (g.plus exs) fr'}{N:NV}{R:RT}{fl:Flow}(q:τ.fl N R fl):τ.unplus.fl N R fl:=match fl,q with
 |.next,q=>q
 |.ret _,⟨v,r,q⟩=>Bn v (r.mono (fun ø ø e=>N0 e) (.refl _)) q
theorem Sg.ToP.now{X8 fr fr':Internal.Fr}{σ₀:Sg g X8}{σ:Sg g fr}{τ:Sg (g.plus exs) fr'}(S0:σ₀.ToS σ)(S:σ.ToP τ)(hx:∀a∈exs,σ.s.heap.get? a=none){N:NV}{R:RT}{fl:Flow}(q:τ.fl N R fl):σ₀.PS N R fl τ.s:=
 (S0.trans (⟨S.rest,S.stp.unplus hx⟩:σ.ToS τ.unplus)).now (Sg.ToP.fl (fr:=fr) q)
theorem Sg.ToP.x{X8 fr fr':Internal.Fr}{σ₀:Sg g X8}{σ:Sg g fr}{τ:Sg (g.plus exs) fr'}(S0:σ₀.ToS σ)(S:σ.ToP τ)(hx:∀a∈exs,σ.s.heap.get? a=none){X:EV}{e:Ab}{s':Ae}(x:τ.ES X e s'):σ₀.ES X e s':=
 EM x fun c H' r er q=>Ss (er.back S.stp) fun a ρ' fl e1 s1 r1 x1 f1=>S0.x (F1 c H' (S.rest.trans r) (Sv a ρ' fl e1 (s1.unplus hx) (r1.back (Ff hx)) (x1.map fun ø ø ø e=>⟨e.1,e.2,e.3,e.4⟩) f1) q)
end
noncomputable def It.tp:It->Bool
 |.zip _ _ | .enum _=>true
 |_=>false
noncomputable def KA(T:Txt)(it:It)(x:Expr):Prop:=
 ∀(g:Act T) (fr:Internal.Fr) (σ:Sg g fr) Q X (G:Ab->Ae->Prop),vI T.C it fr σ.H Q X->
  (∀xs (τ:Sg g fr) I s' exs,σ.To τ->Q xs τ.H->CO τ.s s'->(∀b o,τ.s.heap.get? b=some o->s'.heap.get? b=some o)->Qq τ.s.heap s'.heap τ.ρ exs->Pa g.ct.na T.C.hd τ.s.heap s'.heap τ.ρ false exs (It.tp it) xs I->G (.ref I) s')->
  σ.wp (FO x g.ct.env) G (σ.E X)
section
variable {T:Txt}{tg:Tg}{it:It}{body:List S}{xt xi:Expr}{xb:List Ef}{pos:Pos}
noncomputable def FI{g:Act T}{fr:Internal.Fr}(τ:Sg g fr)(exs:List Ai)(xs:List V)(At:Nat->Ah->Ce->Prop)(st:V->Internal.Fr->MH->NV->Prop)(N:NV)(m:Nat)(s':Ae):Prop:=
 ∃j fr',∃υ:Sg (g.plus exs) fr',υ.s=s'/\m=xs.length-j/\j<=xs.length/\τ.ToP υ/\At j υ.s.heap υ.ρ/\HK st (xs.drop j) fr' υ.H N
section
variable {g:Act T}{fr fr':Internal.Fr}{τ:Sg g fr}{exs:List Ai}{xs:List V}{At:Nat->Ah->Ce->Prop}{st:V->Internal.Fr->MH->NV->Prop}{N:NV}{j:Nat}
theorem FI.mk(υ:Sg (g.plus exs) fr')(h:j<=xs.length)(a:τ.ToP υ)(c:At j υ.s.heap υ.ρ)(k:HK st (xs.drop j) fr' υ.H N):FI τ exs xs At st N (xs.length-j) υ.s:=⟨j,fr',υ,rfl,rfl,h,a,c,k⟩
theorem FI.next(υ:Sg (g.plus exs) fr')(h:j<xs.length)(a:τ.ToP υ)(c:At (j+1) υ.s.heap υ.ρ)(k:HK st (xs.drop (j+1)) fr' υ.H N):∃m,m<xs.length-j/\FI τ exs xs At st N m υ.s:=⟨_,Nat.sub_lt_sub_left h (JZ j),.mk υ h a c k⟩
@[elab_as_elim] theorem FI.el{G:Nat->Ae->Prop}{m:Nat}{s:Ae}(h:FI τ exs xs At st N m s)(k:∀j fr' (υ:Sg (g.plus exs) fr'),j<=xs.length->τ.ToP υ->At j υ.s.heap υ.ρ->HK st (xs.drop j) fr' υ.H N->G (xs.length-j) υ.s):G m s:=by
 obtain⟨j,fr',υ,rfl,rfl,h⟩:=h
 exact k j fr' υ h.1 h.2.1 h.2.2.1 h.2.2.2
end
theorem fB(hns:EJ xi=true)(htp:It.tp it=true->HY xt=true)(htg:GZ T tg.pt xt)(hi:KA T it xi)(hb:Fe T body xb):DM T (.for_ tg it body) (.For xt xi xb [] pos):=fun g fr σ N R X h=>by
 let step:V->Internal.Fr->MH->NV->Prop:=fun x fr H N=>Kz fr tg x fun fr'=>AV T.C body fr' H N R X
 refine wpAny_For (A4 (hi g fr σ _ X _ h fun xs τ u s' exs S q r2 k2 hex src=>?_) (fun ø ø q=>q) fun ø ø x=>x.s) (X7 hns)
 have hxn:∀a∈exs,τ.s.heap.get? a=none:=fun a q=>(hex a q).1
 have stp:=τ.plus_st (exs:=exs) k2 hex
 refine OC stp.hr k2 src (fun I s2 r3 k3 raw=>?_) rfl
 have k23:∀b o,τ.s.heap.get? b=some o->s2.heap.get? b=some o:=fun b o e=>k3 b o (k2 b o e)
 let τ2:Sg (g.plus exs) fr:=⟨s2,τ.ρ,τ.H,τ.plus_st k23 fun a q=>⟨(hex a q).1,(hex a q).2.1,AO (hex a q).2.2 fun o x d=>Bn o (k3 _ _ x) d⟩⟩
 let σb:Bs (g.plus exs):=⟨τ.s,τ.hr.old,τ.hdl_there⟩
 refine FN fun g0 k0=>?_
 refine Kk (O5 (σ:=σb) τ2 (Ff hxn) (fun a q=>AQ _ q) k23 (fun ø ø e=>e) raw rfl) fun ws At Mid it ø at0=>?_
 refine k0 ?_
 have err:∀{fr':Internal.Fr} {υ:Sg (g.plus exs) fr'},τ.ToP υ->∀e s',υ.ES X e s'->EB T.W.M g.ct.A g.ct.env (Ke T.W.M g.ct.A g.ct.env (σ.ES X)) e s':=fun S1 e s' x=>(S1.x S.s hxn x).loop
 refine codeAny_forLoop_any (A:=g.ct.A) (env:=g.ct.env) (FI τ exs xs At step N) ?_ xs.length (.mk (j:=0) τ2 (A3 _) ⟨r2.trans r3,.of (.all k23)⟩ at0 q)
 intro m s' z
 refine z.el fun j fr' υ hj S1 at_ q=>?_
 by_cases hlt:j<xs.length
 ·rw[FA hlt] at q
  refine it.item υ (AX hlt) at_ fun v ω t1 mid rv=>?_
  refine it.own_ (target:=xt) ω htp mid rv fun ω2 t2 at1 rv=>?_
  have S2:τ.ToP ω2:=⟨S1.rest.trans (t1.rest.trans t2.rest),t2.s (t1.s S1.stp)⟩
  have q:step xs[j] fr' ω2.H fun fr H=>HK step (xs.drop (j+1)) fr H N:=by rw[t2.up,t1.up];exact q
  refine htg (g.plus exs) fr' ω2 xs[j] v _ _ _ rv q fun fr2 ω3 q up S3=>?_
  have S4:=S2.trans S3
  refine A4 (hb (g.plus exs) fr2 ω3 _ R X (up (fun fr H=>AV T.C body fr H (fun fr H=>HK step (xs.drop (j+1)) fr H N) R X) q)) (fun fl s5 zz=>zz.el fun fr5 ω5 e S5 q=>?_) (err S4)
  subst e
  induction fl with
  |next=>exact FI.next ω5 hlt (S4.trans S5) (it.keep at1 (S3.trans S5).stp) q
  |ret u=>exact(S4.trans S5).now S.s hxn (fl:=.ret u) q
  |_=>exact q.elim
 ·have hje:j=xs.length:=AL (CY Internal.xa Internal.xb [.l Internal.xa Internal.xb] As hj) (CY Internal.xa Internal.xb [.u Internal.xb Internal.xa] As hlt)
  subst hje
  rw[JI] at q
  refine it.done υ at_ fun ω t1=>Ac ?_
  exact Sg.ToP.now S.s (⟨S1.rest.trans t1.rest,t1.s S1.stp⟩:τ.ToP ω) hxn (fl:=.next) (by refine(?_:N fr' ω.H);rw[t1.up];exact q)
end
noncomputable abbrev L8(T:Txt)(Ty:String)(id:Ao):Bool:=Fz T.W.K T.X id (·==.type Ty)
section
variable {T:Txt}{a b e:Internal.E}{as:List Internal.E}{x y:Expr}{xs:List Expr}{id:Ao}{p pos:Pos}{Ty:String}
theorem FS(k:Et T)(hg:L8 T Ty id=true)(hs:xs.all Bf=true)(ha:E2 T as xs){g:Act T}{fr:Internal.Fr}(σ:Sg g fr){Q:List V->MH->Prop}{X:EV}{G:Ab->Ae->Prop}(h:OL T.C as fr σ.H Q X)
  (hk:∀(υ:Sg g fr) vs us,σ.To υ->B8 υ.k υ.ρ vs us->Q vs υ.H->υ.wp (call (.type Ty) us) G (σ.E X)):σ.wp (FO (.Call (.Name id p) xs [] pos) g.ct.env) G (σ.E X):=
 AO (Fz.load k hg) fun u e l=>
 HB (l σ (by
  refine Aj (A6 e) ?_
  exact E5 (.refl σ) hs ha h (fun ø=>True) (fun ø ø=>Bn .machine (.inr (.inl rfl)) (.of_pure rfl)) fun υ vs us S r q=>⟨trivial,hk υ vs us S r q⟩))
theorem kK(ha:AS T e x):KA T (.it e) x:=fun g fr σ Q X G h ko=>sq (.refl σ) (ha g fr σ _ X h) fun τ v u S r q=>by
 induction r using VR.casesOn with
 |tup a b c d=>exact ko _ τ _ τ.s [] S q (.refl _) (fun ø ø e=>e) (fun ø q=>nomatch q) (.tup (RP _ _ _ a b c d))
 |lst a b c d=>exact ko _ τ _ τ.s [] S q (.refl _) (fun ø ø e=>e) (fun ø q=>nomatch q) (.lst (RP _ _ _ a b c d))
 |_=>exact q.elim
theorem Km(h:Ah)(n:Nat):h.get? (h.objs.size+n)=none:=by
 cases q:h.get? (h.objs.size+n) with
 |none=>rfl
 |some o=>exact absurd (AB q) (Fv.mpr (BG _ _))
theorem Lq(k:Et T)(hg:L8 T "reversed" id=true)(hs:Bf x=true)(ha:AS T e x){g:Act T}{fr:Internal.Fr}(σ:Sg g fr){Q:List V->MH->Prop}{X:EV}{G:Ab->Ae->Prop}
  (h:vE T.C e fr σ.H (fun v H=>T.C.hd=false/\JV v fun xs=>xs.length<=Ap/\Q xs.reverse H) X)
  (ko:T.C.hd=false->∀xs (τ:Sg g fr) I s',xs.length<=Ap->σ.To τ->Q xs.reverse τ.H->CO τ.s s'->(∀b o,τ.s.heap.get? b=some o->s'.heap.get? b=some o)->Qs g.ct.na τ.s.heap s'.heap τ.ρ xs I->G (.ref I) s'):
  σ.wp (FO (.Call (.Name id p) [x] [] pos) g.ct.env) G (σ.E X):=
 FS k hg (by simp[hs]) (Eo hs ha FW) σ (Q:=fun vs H=>v1 vs fun v=>T.C.hd=false/\JV v fun xs=>xs.length<=Ap/\Q xs.reverse H) h fun υ vs us S r q=>v1.er q r fun v u r q=>by
  obtain⟨hh,q⟩:=q
  have f:=AG υ.s.heap
  have kp:∀(o:Df) b x,υ.s.heap.get? b=some x->(υ.s.heap.push o).get? b=some x:=fun o b x e=>Af _ e
  induction r using VR.casesOn with
  |tup a1 a2 a3 a4=>
   have ln:=a4.length
   rw[Aq] at ln
   refine HG ⟨_,a1.1.1,a2,_,a3⟩ (by have:=q.1;unfold Ap at this;exact CY xa (.num 16777216) [.e xa xb,.l xb (.num 1000000)] As ln this) fun tk=>?_
   refine Aj ln ?_
   exact ko hh _ υ _ {υ.s with heap:=_,toks:=tk} q.1 S q.2 ⟨rfl,rfl⟩ (kp _) (.inr ⟨_,⟨f,Az _ rfl,υ.hr.fresh f⟩,(RP _ _ _ a1 a2 a3 a4)⟩)
  |lst a1 a2 a3 a4=>
   have ln:=a4.length
   rw[Aq] at ln
   refine call_reversed_list ⟨_,a1.1.1,a2,_,a3⟩ ?_
   rw[ln]
   exact ko hh _ υ _ {υ.s with heap:=_,toks:=_} q.1 S q.2 ⟨rfl,rfl⟩ (kp _) (.inl (Bn _ ⟨f,Az _ rfl,υ.hr.fresh f⟩ (RP _ _ _ a1 a2 a3 a4)))
  |_=>exact q.elim
theorem dQ(k:Et T)(hg:L8 T "reversed" id=true)(hs:Bf x=true)(ha:AS T e x):KA T (.rev e) (.Call (.Name id p) [x] [] pos):=fun g fr σ Q X G h ko=>
 Lq k hg hs ha σ h fun hh xs τ I s' hl S q r2 k2 x=>ko _ τ I s' [] S q r2 k2 (fun ø q=>nomatch q) (.rev hh hl x)
theorem YV(k:Et T)(hg:L8 T "enumerate" id=true)(hs:Bf x=true)(ha:AS T e x):KA T (.enum e) (.Call (.Name id p) [x] [] pos):=fun g fr σ Q X G h ko=>
 FS k hg (by simp[hs]) (Eo hs ha FW) σ (Q:=fun vs H=>v1 vs fun v=>T.C.hd=false/\JV v fun xs=>Q (I0 0 xs) H) h fun υ vs us S r q=>v1.er q r fun v u r q=>by
  obtain⟨hh,q⟩:=q
  have f:=Km υ.s.heap 0
  have f1:=Km υ.s.heap 1
  induction r using VR.casesOn with
  |tup a1 a2 a3 a4=>
   exact Hb ⟨_,a1.1.1,a2,_,a3⟩ fun h' he hi hk=>ko _ υ _ {υ.s with heap:=h'} [] S q ⟨rfl,rfl⟩ hk (fun ø q=>nomatch q) (.enum hh (.inr ⟨rfl,rfl⟩) (Kb _) ⟨f1,he,υ.hr.fresh f1⟩ ⟨f,(EN _ hi rfl rfl),υ.hr.fresh f⟩ (RP _ _ _ a1 a2 a3 a4))
  |lst a1 a2 a3 a4=>
   exact call_enumerate_list ⟨_,a1.1.1,a2,_,a3⟩ fun h' he hi ø hk=>ko _ υ _ {υ.s with heap:=h'} [] S q ⟨rfl,rfl⟩ hk (fun ø q=>nomatch q) (.enum hh (.inl ⟨rfl,rfl⟩) (Kb _) ⟨f1,he,υ.hr.fresh f1⟩ ⟨f,hi,υ.hr.fresh f⟩ (RP _ _ _ a1 a2 a3 a4))
  |_=>exact q.elim
theorem Wn(k:Et T)(hg:L8 T "range" id=true)(hs:Bf x=true)(ha:AS T e x):KA T (.range e) (.Call (.Name id p) [x] [] pos):=fun g fr σ Q X G h ko=>
 FS k hg (by simp[hs]) (Eo hs ha FW) σ (Q:=fun vs H=>v1 vs fun v=>T.C.hd=false/\vInt v fun k=>(0<=k/\k<=1000)/\Q (Gq k.toNat) H) h fun υ vs us S r q=>v1.er q r fun v u r q=>vInt.el q.2 r fun n t zz=>Cd zz fun zy0 z=>Cd zy0 fun h0 h1=>by
  have f:=AG υ.s.heap
  have hk:n=((n.toNat:Nat):Int):=(Int.toNat_of_nonneg h0).symm
  refine call_range_1 (ko _ υ _ {υ.s with heap:=_,toks:=_} [] S z ⟨rfl,rfl⟩ (fun b x e=>Af _ e) (fun ø q=>nomatch q) (.range (t:=υ.s.toks) (u:=t) (v:=υ.s.toks+1) q.1 (Am.1 (MO za (.num 1000) [.f zb za,.l zb (.num 1000)] As hk zz.1.2)) ⟨f,?_,υ.hr.fresh f⟩))
  refine D5 hk ?_
  exact Az _ rfl
theorem dR(k:Et T)(hg:L8 T "zip" id=true)(hs:Bf x=true)(hs2:Bf y=true)(ha:AS T a x)(hb:AS T b y):KA T (.zip a b) (.Call (.Name id p) [x,y] [] pos):=fun g fr σ Q X G h ko=>
 FS k hg (by simp[hs,hs2]) (Eo hs ha (Eo hs2 hb FW)) σ (Q:=fun vs H=>v2 vs fun v u=>T.C.hd=false/\Jw v fun xs=>Jw u fun ys=>Q (Mi xs ys) H) h fun υ vs us S r q=>v2.er q r fun v u w z r r2 q=>
  Jw.el q.2 r fun xs l o vs m a1 a2 a3 a4 h=>Jw.el h r2 fun ys l' o' vs' m' b1 b2 b3 b4 h=>by
   have fr:∀n:Nat,υ.s.heap.get? (υ.s.heap.objs.size+n)=none:=Km υ.s.heap
   refine call_zip_2 ⟨o,a1.1.1,a2,m,a3⟩ ⟨o',b1.1.1,b2,m',b3⟩ fun h' hz hTI hTO h1 h2 ø hk=>ko _ υ _ {υ.s with heap:=h'} [υ.s.heap.objs.size+3] S h ⟨rfl,rfl⟩ hk (fun a q=>?_)
    (.zip q.1 (ktu_apart _ _ _ (AB a1.1.1) (AB b1.1.1)) ⟨fr 4,hz,υ.hr.fresh (fr 4)⟩ ⟨fr 2,hTI,υ.hr.fresh (fr 2)⟩ ⟨fr 3,hTO,υ.hr.fresh (fr 3)⟩ ⟨fr 0,h1,υ.hr.fresh (fr 0)⟩ ⟨fr 1,h2,υ.hr.fresh (fr 1)⟩ (RP o vs m a1 a2 a3 a4) (RP o' vs' m' b1 b2 b3 b4))
   refine Aj (An.mp q) ?_
   exact⟨fr 3,υ.hr.fresh (fr 3),_,hTO,.inl ⟨_,rfl⟩⟩
end
noncomputable def CJ(env:Env)(names:List (Ao×Cz)):List (Ao×Ai):=names.filterMap fun z=>if z.2==.free then(env.cells.lookup z.1).map fun a=>(z.1,a) else none
theorem LV(h:∀z∈scope.names,z.2=.free->∃a,env.cells.lookup z.1=some a):closureFor scope env=pure (CJ env scope.names).reverse:=by
 have key:∀(l:List (Ao×Cz)) (acc:List (Ao×Ai)),(∀z∈l,z.2=.free->∃a,env.cells.lookup z.1=some a)->
   (forIn l acc (fun(z:Ao×Cz) (cs:List (Ao×Ai))=>if (z.2==Hw)=true then(do let a <-cellOf env z.1;pure (D4 ((z.1,a)::cs))) else pure (D4 cs)):Sem _)=pure ((CJ env l).reverse++acc):=by
  intro l
  induction l with
  |nil=>intro acc _;rfl
  |cons z l ih=>
   intro acc hl
   rw[List.forIn_cons]
   cases hz:(z.2==Hw) with
   |true=>
    obtain⟨a,ha⟩:=hl z (Be ..) (by simpa using hz)
    have hc:cellOf env z.1=pure a:=by unfold cellOf;exact Aj ha rfl
    simp only[if_true,hc,pure_bind]
    refine Aj (ih _ fun y hy=>hl y (AR _ hy)) ?_
    have e1:CJ env (z::l)=(z.1,a)::CJ env l:=by
     unfold CJ
     refine Aj List.filterMap_cons ?_
     simp only[hz,ha,if_true,Option.map_some]
    rw[e1,DX,Bd]
    rfl
   |false=>
    simp only[C0,if_false,pure_bind]
    rw[ih _ fun y hy=>hl y (AR _ hy)]
    have e1:CJ env (z::l)=CJ env l:=by
     unfold CJ
     rw[List.filterMap_cons]
     simp only[hz,C0,if_false]
    exact Aj e1 rfl
 unfold closureFor
 have:=key scope.names [] h
 rw[Bq] at this
 show(forIn scope.names [] _>>=_)=_
 refine Aj (show(forIn scope.names ([]:List (Ao×Ai)) _:Sem _)=_ from this) ?_
 rfl
set_option tactic.hygienic true in
theorem I7(h:(CJ env l).reverse.lookup x=some c):env.cells.lookup x=some c/\(x,.free)∈l:=by
 have hm:(x,c)∈(CJ env l).reverse:=by
  generalize (CJ env l).reverse=r at h
  induction r with
  |nil=>cases h
  |cons y r ih=>
   obtain⟨y1,y2⟩:=y
   unfold BP at h
   split at h
   ·rename_i hb
    cases h
    refine Aj (beq_iff_eq.mp hb) ?_
    exact .head _
   ·exact .tail _ (ih h)
 rw[List.mem_reverse] at hm
 refine AO (BA.mp hm) fun z hz e=>?_
 obtain⟨z1,z2⟩:=z
 dsimp only at e
 split at e
 ·rename_i hf
  refine AO (Bc.mp e) fun a ha e=>?_
  cases e
  have:z2=.free:=by simpa using hf
  refine D5 this ?_
  exact⟨ha,hz⟩
 ·cases e
set_option tactic.hygienic true in
theorem RS(hx:(x,.free)∈l)(hc:env.cells.lookup x=some c):(CJ env l).reverse.lookup x=some c:=by
 have hm:(x,c)∈(CJ env l).reverse:=by
  rw[List.mem_reverse]
  exact BA.mpr ⟨(x,.free),hx,by simp[hc]⟩
 have:∃d,(CJ env l).reverse.lookup x=some d:=by
  generalize (CJ env l).reverse=r at hm
  induction r with
  |nil=>cases hm
  |cons y r ih=>
   obtain⟨y1,y2⟩:=y
   unfold BP
   split
   ·exact⟨_,rfl⟩
   ·rename_i hb
    rcases Al.mp hm with q | q
    ·clear hm;cases q;simp at hb
    ·exact ih q
 obtain⟨d,hd⟩:=this
 refine Aj hd ?_
 have:=(I7 hd).1
 rw[hc] at this;exact this.symm
section
variable {M:Model}{A:Bt}{E:Ab->Ae->Prop}{s:Ae}{env:Env}
noncomputable def J3(M:Model)(A:Bt)(E:Ab->Ae->Prop)(use:Option (Ab->Sem Unit))(Q:Ab->Ae->Prop)(acc:Ab)(cenv:Env)(r:Result)(s':Ae):Prop:=
 match r,use with
 |.ok _,none=>∃m,s'.heap.Ns cenv.locals m/\∀h',AA cenv.locals s'.heap h'->Q acc {s' with heap:=h'}
 |.ok _,some u=>Av M A (u acc) (fun ø s''=>∃m,s''.heap.Ns cenv.locals m/\∀h',AA cenv.locals s''.heap h'->Q .none {s'' with heap:=h'}) E s'
 |.error x,_=>∃m,s'.heap.Ns cenv.locals m/\∀h',AA cenv.locals s'.heap h'->Av M A (passOn "comprehension.variables-let-go" x cenv:Sem Ab) (fun ø ø=>False) E {s' with heap:=h'}
theorem R9
  (hcl:clausesOf e=g::gs) (hs:∀x,foldedSetIterable g.iter env x=pure x) (hclos:closureFor scope env=pure cl)
  (hkind:scope.kind=.function) (hnames:∀x∈scope.names,x.2=.local->scope.names.lookup x.1=some .local)
  (h:Av M A first (fun x s₁=>Av M A (pyIter x) (fun it s₂=>Av M A newAcc (fun acc s₃=>
   Av M A (newFunctionEnv scope env.globals cl [] env.qual none .none (some env)) (fun cenv s₄=>
    BY M A (.compStart e 0 it acc {cenv with scope:=GB scope env}) (J3 M A E use Q acc {cenv with scope:=GB scope env}) s₄) E s₃) E s₂) E s₁) E s):
  Av M A (JM e scope env pos newAcc false first use) Q E s:=by
 unfold JM
 refine Aj hclos (Aj hcl ?_)
 refine Aa (A4 h (fun x s₁ h₁=>Aa (Bw (Aa (Bj (hs x) (Aa (Au (A4 h₁ (fun it s₂ h₂=>
  wpAny_standIf (Aa (A4 h₂ (fun acc s₃ h₃=>Aa (Ac (Aa (A4 h₃ (fun cenv s₄ h₄=>?_) fun ø ø h'=>h')))) fun ø ø h'=>h')))
   fun ø ø h'=>h'))))))) fun ø ø h'=>h')
 dsimp only
 have hv:∀x∈(scope.names.filter fun x=>(x.2==.local||x.2==.cell)&&x.1 !=(".0":Ao)).reverse,x.2=.local->
   D3 {cenv with scope:=GB scope env} x.1=some .local:=fun x hx hl=>lookup_relabel_local (hnames x (C7.mp (List.mem_reverse.mp hx)).1 hl)
 have hv':∀x∈(scope.names.filter fun x=>(x.2==.local||x.2==.cell)&&x.1 !=(".0":Ao)).reverse.drop 1++(scope.names.filter fun x=>(x.2==.local||x.2==.cell)&&x.1 !=(".0":Ao)).reverse.take 1,
   x.2=.local->D3 {cenv with scope:=GB scope env} x.1=some .local:=fun x hx hl=>by
  rcases AJ.mp hx with h1 | h1
  ·exact hv x (HF h1) hl
  ·exact hv x (List.mem_of_mem_take h1) hl
 refine Au (Aa (C2 (Au (wpAny_run (FM h₄ fun r s' hr=>?_)))))
 clear h₄ h₃ h₂ h₁ h;induction r with
 |ok f=>
  induction use with
  |none=>
   refine AO hr fun m hn hr=>?_
   exact Aa (Au (ML (cenv:={cenv with scope:=GB scope env}) hkind _ s' m hv hn fun h' m' ø hs'=>Ac (hr h' hs')))
  |some u=>
   refine Aa (CU (Aa (Au (A4 hr (fun ø s'' hr'=>?_) fun ø ø h'=>h'))))
   refine AO hr' fun m hn hr'=>?_
   exact Aa (ML (cenv:={cenv with scope:=GB scope env}) hkind _ s'' m hv' hn fun h' m' ø hs'=>Ac (hr' h' hs'))
 |error x=>
  have hr':∃m,s'.heap.Ns cenv.locals m/\∀h',AA cenv.locals s'.heap h'->Av M A (passOn "comprehension.variables-let-go" x {cenv with scope:=GB scope env}:Sem Ab) (fun ø ø=>False) E {s' with heap:=h'}:=by induction use<;>exact hr
  refine AO hr' fun m hn hr=>?_
  exact Aa (Au (ML (cenv:={cenv with scope:=GB scope env}) hkind _ s' m hv hn fun h' m' ø hs'=>A4 (hr h' hs') (fun ø ø f=>f.elim) fun ø ø y=>y))
end
section
variable {prog:B7}{w:Cc}{A:Bt}{R:Result->Ae->Prop}{s:Ae}
theorem RA(I:Nat->Ae->Prop)
  (turn:∀n s,I n s->Av (AD prog w) A (EY it) (fun r s₁=>match r with
   |none=>R (.ok .next) s₁
   |some v=>Av (AD prog w) A (Io target it v) (fun ø s₀=>Av (AD prog w) A (GN target env v) (fun ø s₂=>
     Av (AD prog w) A (forIn ifs true fun c r=>if r=true then do let ok <-isTrue c env (FO c env);pure (D4 ok) else pure (D4 r)) (fun ok s₃=>
      if ok=true then Av (AD prog w) A (FO elt env) (fun x s₄=>
       Av (AD prog w) A (call (.builtin "list.append") [acc,x]) (fun ø s₅=>∃m,m<n/\I m s₅) (EB (AD prog w) A env fun e s'=>R (.error e) s') s₄) (EB (AD prog w) A env fun e s'=>R (.error e) s') s₃
      else ∃m,m<n/\I m s₃) (EB (AD prog w) A env fun e s'=>R (.error e) s') s₂) (EB (AD prog w) A env fun e s'=>R (.error e) s') s₀) (EB (AD prog w) A env fun e s'=>R (.error e) s') s₁) (EB (AD prog w) A env fun e s'=>R (.error e) s') s)
  (n:Nat) (h:I n s):
  BY (AD prog w) A (.compLoop (.ListComp elt [⟨target,iter,ifs,0⟩] scope pos) 0 it acc env) R s:=by
 refine codeAny_loop rfl I (fun n s hI=>?_) n h
 refine(?_:Av _ A ((compTurn (.ListComp elt [⟨target,iter,ifs,0⟩] scope pos) 0 it acc env).onRaise (fun x=>do noteFrame x env;theTreesLotGoes x)) _ _ s)
 refine wpAny_noted ?_
 rw[compTurn_list]
 refine Aa (Bw (Aa (A4 (turn n s hI) (fun r s₁ h₁=>?_) fun ø ø h'=>h')))
 induction r with
 |none=>exact Ac h₁
 |some v=>
  refine Aa (A4 h₁ (fun ø s₀ h₀=>?_) fun ø ø h'=>h')
  refine Aa (A4 h₀ (fun ø s₂ h₂=>Aa (A4 h₂ (fun ok s₃ h₃=>?_) fun ø ø h'=>h')) fun ø ø h'=>h')
  induction ok with
  |false=>exact Ac ⟨rfl,h₃⟩
  |true=>
   exact Aa (Aa (A4 h₃ (fun x s₄ h₄=>Aa (A4 h₄ (fun ø s₅ h₅=>Ac (Ac ⟨rfl,h₅⟩)) fun ø ø h'=>h')) fun ø ø h'=>h'))
end
noncomputable def Tg.idx:Tg->List Nat
 |.one i=>[i]
 |.two i j=>[i,j]
noncomputable def Tg.ok:Tg->Bool
 |.one _=>true
 |.two i j=>i !=j
noncomputable def D0(fr:Internal.Fr):Tg->Internal.Fr
 |.one i=>fr.set i none
 |.two i j=>(fr.set i none).set j none
set_option tactic.hygienic true in
theorem Jd(h:(D0 fr tg)[k]?=some (some v)):k∉tg.idx/\fr[k]?=some (some v):=by
 have one:∀(f:Internal.Fr) (i:Nat),(f.set i none)[k]?=some (some v)->k≠i/\f[k]?=some (some v):=fun f i e=>by
  replace e:=List.getElem?_set▸e
  split at e
  ·split at e<;>exact nomatch e
  ·rename_i hne
   exact⟨fun q=>hne q.symm,e⟩
 induction tg with
 |one i=>
  obtain⟨a,b⟩:=one _ _ h
  exact⟨by simp[Tg.idx,a],b⟩
 |two i j=>
  obtain⟨a,b⟩:=one _ _ h
  obtain⟨c,d⟩:=one _ _ b
  exact⟨by simp[Tg.idx,a,c],d⟩
theorem Kz.clear(h:tg.ok=true)(q:Kz fr tg x k):Kz (D0 fr tg) tg x k:=by
 induction tg with
 |one i=>
  show k (AC (D0 fr (.one i)) i x)
  unfold D0 AC
  rw[DY];exact q
 |two i j=>
  have hij:i≠j:=bne_iff_ne.mp h
  match x,q with
  |.tup [a,b],q=>
   refine(?_:k (AC (AC (D0 fr (.two i j)) i a) j b))
   unfold D0 AC
   rw[List.set_comm none (some a) (BB hij),DY,DY];exact q
theorem Kz.keep(h:tg.ok=true)(q:Kz fr tg x k):Kz fr tg x fun fr'=>k fr'/\D0 fr' tg=D0 fr tg:=by
 induction tg with
 |one i=>exact⟨q,by show(List.set fr i (some x)).set i none=fr.set i none;rw[DY]⟩
 |two i j=>
  have hij:i≠j:=bne_iff_ne.mp h
  match x,q with
  |.tup [a,b],q=>exact⟨q,by show(((List.set fr i (some a)).set j (some b)).set i none).set j none=(fr.set i none).set j none;rw[List.set_comm (some b) none (BB hij),DY,DY]⟩
noncomputable def Ln(scope sc:EA):EA:=
 {scope with names:=scope.names.map fun(n,k)=>if (k==.free&&sc.kind==.function&&sc.names.lookup n==some .cell) then(n,.cell) else(n,k)}
theorem Qa(scope:EA)(env:Env):GB scope env=Ln scope env.scope:=rfl
noncomputable def BS{α:Type}[BEq α]:List α->Bool
 |[]=>true
 |x::xs=>!xs.contains x&&BS xs
theorem QH(x:Ao):∀l:List Ao,W4 x l=!l.contains x
 |[]=>rfl
 |y::r=>by
  rw[Iy,N8]
  show @Dw (fun ø=>Bool) (W4 x r) false (HC x y)=_
  rw[QH x r]
  cases HC x y<;>rfl
theorem Pm:∀l:List Ao,iL l=BS l
 |[]=>rfl
 |x::r=>by
  show @Dw (fun ø=>Bool) false (iL r) (W4 x r)=(!r.contains x&&BS r)
  rw[QH,Pm r]
  cases !r.contains x<;>rfl
theorem DN{α β:Type}[BEq α][LawfulBEq α](f:β->α):∀{l:List β},BS (l.map f)=true->∀a b,a∈l->b∈l->f a=f b->a=b:=by
 intro l
 induction l with
 |nil=>intro _ a b ha;cases ha
 |cons x l ih=>
  intro h a b ha hb e
  rw[DA] at h
  replace h:(!(l.map f).contains (f x)&&BS (l.map f))=true:=h
  simp only[Ew,B6,AT] at h
  obtain⟨h1,h2⟩:=h
  have hn:f x∉l.map f:=fun q=>by
   have:=AT.mpr q
   replace this:=h1▸this;cases this
  rcases Al.mp ha with ha1 | ha1
  ·rcases Al.mp hb with hb1 | hb1
   ·exact Aj ha1 (Aj hb1 rfl)
   ·refine absurd ?_ hn
    exact D5 ha1 (Aj e (B2.mpr ⟨b,hb1,rfl⟩))
  ·rcases Al.mp hb with hb1 | hb1
   ·refine absurd ?_ hn
    exact D5 hb1 (D5 e (B2.mpr ⟨a,ha1,rfl⟩))
   ·exact ih h2 a b ha1 hb1 e
noncomputable def Pf(X:Cx)(scope:EA)(cx':List (Ao×Nat))(is:List Nat):Bool:=
 scope.kind==.function&&scope.names.all (fun z=>z.2 !=.cell)&&scope.names.all (fun z=>z.2 !=.local||scope.names.lookup z.1==some .local)&&
 scope.names.all (fun z=>z.2 !=.free||(X.scope.names.lookup z.1==some .cell&&X.cx.l.any (fun p=>p.1==z.1)))&&
 cx'.all (fun p=>(scope.names.lookup p.1==some .local&&is.contains p.2)||(scope.names.contains (p.1,.free)&&scope.names.lookup p.1==some .free&&X.cx.l.contains p))&&
 BS (cx'.map (·.1))&&BS (cx'.map (·.2))
noncomputable def Mv(X:Cx)(scope:EA)(cx':List (Ao×Nat)):Cx:=⟨⟨cx',true⟩,Ln scope X.scope⟩
noncomputable def Y6(ct:Ct)(scope:EA)(cl:List (Ao×Ai))(C D:Ai)(exs:List Ai)(cx':List (Ao×Nat)):Ct:=
 {A:=ct.A,fs:=ct.fs,na:=⟨C::ct.na.l,D::(exs++ct.na.ex)⟩,env:=compEnvC scope cl C ct.env,L:=ct.L,cx:=⟨cx',true⟩}
set_option tactic.hygienic true in
theorem La{sc:EA}:∀{names:List (Ao×Cz)} {x:Ao} {k:Cz},names.lookup x=some k->
  (names.map fun(n,k)=>if (k==Hw&&sc.kind==.function&&sc.names.lookup n==some .cell) then(n,Hu) else(n,k)).lookup x=some (if (k==Hw&&sc.kind==.function&&sc.names.lookup x==some .cell) then Hu else k)
 |[],_,_,h=>by simp at h
 |(n,k0)::r,x,k,h=>by
  have ih:=@La sc r x k
  refine Aj DA ?_
  dsimp only
  cases hx:x==n with
  |true=>
   simp only[B1,hx] at h
   clear ih;refine Aj (Ad h) ?_
   obtain rfl:=beq_iff_eq.mp hx
   split<;>rename_i hc<;>simp[B1,hc]
  |false=>
   simp only[B1,hx] at h
   split<;>(simp only[B1,hx];exact ih h)
section
variable {X:Cx}{scope:EA}{cx':List (Ao×Nat)}
structure GR (X:Cx)(scope:EA)(cx':List (Ao×Nat))(is:List Nat):Prop where
 kind:scope.kind=.function
 nocell:∀z∈scope.names,z.2≠.cell
 loc:∀z∈scope.names,z.2=.local->scope.names.lookup z.1=some .local
 free:∀z∈scope.names,z.2=.free->X.scope.names.lookup z.1=some .cell/\∃i,(z.1,i)∈X.cx.l
 cx:∀p∈cx',(scope.names.lookup p.1=some .local/\p.2∈is)\/((p.1,.free)∈scope.names/\scope.names.lookup p.1=some .free/\p∈X.cx.l)
 d1:BS (cx'.map (·.1))=true
 d2:BS (cx'.map (·.2))=true
theorem Y7(h:Pf X scope cx' is=true):GR X scope cx' is:=by
 unfold Pf at h
 simp only[Ew,BF,Bool.or_eq_true,bne_iff_ne,beq_iff_eq,AT,List.any_eq_true] at h
 obtain⟨⟨⟨⟨⟨⟨h1,h2⟩,h3⟩,h4⟩,h5⟩,h6⟩,h7⟩:=h
 refine⟨h1,h2,fun z hz e=>?_,fun z hz e=>?_,fun p hp=>?_,h6,h7⟩
 ·rcases h3 z hz with q | q
  ·exact absurd e q
  ·exact q
 ·rcases h4 z hz with q | ⟨q,p,hp,he⟩
  ·exact absurd e q
  ·refine⟨q,p.2,?_⟩
   exact D5 he hp
 ·rcases h5 p hp with q | q
  ·exact .inl q
  ·exact .inr ⟨q.1.1,q.1.2,q.2⟩
end
noncomputable def CK(T:Txt)(scope:EA)(cx':List (Ao×Nat)):Txt:={T with X:=Mv T.X scope cx'}
section
variable {T:Txt}{g:Act T}{fr:Internal.Fr}{scope:EA}{cx':List (Ao×Nat)}{Cn D:Ai}{exs:List Ai}{tg:Tg}{is:List Nat}
theorem Ph(ci:GR T.X scope cx' is)(σ:Sg g fr):∀z∈scope.names,z.2=.free->∃a,g.ct.env.cells.lookup z.1=some a:=fun z hz e=>by
 refine Cd (ci.free z hz e) fun q zz1=>Eb zz1 fun i hi=>?_
 refine AO (σ.st.lr z.1 i (Aj g.hx hi)) fun ov pl ø=>?_
 rcases pl with⟨k,_⟩ | ⟨_,c,o,hc,_⟩
 ·unfold D3 at k;replace k:=q▸(g.hsc▸k);cases k
 ·exact⟨c,hc⟩
noncomputable abbrev HV(g:Act T)(scope:EA)(Cn D:Ai)(exs:List Ai)(cx':List (Ao×Nat)):Ct:=Y6 g.ct scope (CJ g.ct.env scope.names).reverse Cn D exs cx'
noncomputable def Act.comp(g:Act T)(ci:GR T.X scope cx' is)(Cn D:Ai)(exs:List Ai):Act (CK T scope cx') where
 ct:=HV g scope Cn D exs cx'
 ok:=⟨⟨g.ok.frames,fun e he=>⟨(g.ok.fna e he).1,(g.ok.fna e he).2.imp fun a=>Ed (AR _)⟩,g.ok.depth,g.ok.units⟩,g.ok.head,g.ok.envf,Be ..,g.ok.glob,g.ok.blt,ci.kind⟩
 cs:=⟨fun x y c h1 h2=>g.cs.cinj x y c (I7 h1).1 (I7 h2).1,fun x c ø h2=>Cd (I7 h2) fun h3 h4=>g.cs.cnew x c (by unfold D3;rw[g.hsc];exact(ci.free _ h4 rfl).1) h3,
  fun x y i h1 h2=>congrArg Prod.fst (DN (fun p:Ao×Nat=>p.2) ci.d2 (x,i) (y,i) h1 h2 rfl),fun x i j h1 h2=>congrArg Prod.snd (DN (fun p:Ao×Nat=>p.1) ci.d1 (x,i) (x,j) h1 h2 rfl)⟩
 hx:=rfl
 hsc:=by show GB scope g.ct.env=_;rw[Qa,g.hsc];rfl
theorem Of(hC:h.get? Cn=none)(hD:h.get? D=none)(hex:∀a∈exs,h.get? a=none):IR g.ct.na (HV g scope Cn D exs cx').na h:=
 ⟨fun a q=>(Al.mp q).elim (fun e=>.inr (e▸hC)) .inl,fun a q=>(Al.mp q).elim (fun e=>.inr (e▸hD)) fun q=>(AJ.mp q).elim (fun q=>.inr (hex a q)) .inl,fun a q=>AR _ q,fun a q=>AR _ (AF _ q)⟩
theorem VL(ci:GR T.X scope cx' tg.idx)(σ:Sg g fr)(k:∀b o,σ.s.heap.get? b=some o->s4.heap.get? b=some o)(hC:σ.s.heap.get? Cn=none)(hD:σ.s.heap.get? D=none)(hCD:D≠Cn)
 (hns:s4.heap.Ns Cn m) (hDo:s4.heap.get? D=some o) (od:Cg o) (hex:Qq σ.s.heap s4.heap σ.ρ exs):St T.W (HV g scope Cn D exs cx') s4 σ.ρ σ.H (D0 fr tg) T.C.hd:=by
 have en:IR g.ct.na (HV g scope Cn D exs cx').na σ.s.heap:=Of hC hD fun a q=>(hex a q).1
 have nodat:∀o,s4.heap.get? Cn=some o->¬Cg o:=fun o e d=>by
  refine Kk hns fun o' es ep h1 h2 ø=>?_
  replace h1:=e▸h1;clear e;obtain rfl:=Ad h1
  rcases d with⟨vs,rfl⟩ | ⟨_,vs,n,d⟩ | ⟨_,fs,d⟩
  ·cases h2
  ·replace d:=h2▸d;cases d
  ·rw[h2] at d;cases d
 refine⟨σ.hr.enl en k (fun a q z=>?_) (fun a q z=>?_),fun x i hxi=>?_,?_⟩
 ·rcases Al.mp q with rfl | q
  ·exact⟨σ.hr.fresh z,m,hns⟩
  ·refine FN fun g0 k0=>?_
   refine Gj (σ.hr.nam a q) fun ø ø zz1=>cN zz1 fun m o ø ø ho ø=>?_
   refine k0 ?_
   replace z:=ho▸z;cases z
 ·have old:a∈g.ct.na.ex->False:=fun q=>by
   refine Cd (σ.hr.exl a q) fun ø zz1=>AO zz1 fun o' a2 ø=>?_
   replace z:=a2.1▸z;cases z
  refine⟨σ.hr.fresh z,fun w=>?_,?_⟩
  ·rcases Al.mp w with w | w
   ·rcases Al.mp q with q | q
    ·exact hCD (q.symm.trans w)
    ·exact(AJ.mp q).elim (fun q=>AO (hex a q).2.2 fun o' h1 h2=>nodat o' (w▸h1) h2) old
   ·exact σ.hr.fresh_na z w
  ·rcases Al.mp q with rfl | q
   ·exact Bn _ hDo od
   ·exact(AJ.mp q).elim (fun q=>(hex a q).2.2) fun q=>(old q).elim
 ·have hxi:(x,i)∈cx':=hxi
  have kind':D3 (HV g scope Cn D exs cx').env x=(Ln scope g.ct.env.scope).names.lookup x:=rfl
  rcases ci.cx _ hxi with⟨h1,h2⟩ | ⟨h0,h1,h2⟩
  ·exact Bn (m x) (.inl ⟨kind'.trans (La h1),m,hns,rfl⟩) (fun v hv=>absurd h2 (Jd hv).1)
  ·have hcell:=(ci.free _ h0 rfl).1
   refine AO (σ.st.lr x i (Aj g.hx h2)) fun ov pl r=>?_
   rcases pl with⟨kk,_⟩ | ⟨kk,c,oc,hc,ho,hdat⟩
   ·unfold D3 at kk;replace kk:=hcell▸(g.hsc▸kk);cases kk
   ·refine(Bn ov (.inr ⟨.inl ?_,c,oc,RS h0 hc,⟨k _ _ (en.kn ho).1,(en.kn ho).2⟩,hdat⟩) (fun v hv=>AO (r v (Jd hv).2) fun u e rv=>Bn u e (rv.mono (fun ø ø e=>en.kdk k e) (.refl _))))
    refine Aj kind' ?_
    refine(La h1).trans ?_
    refine Aj g.hsc (Aj hcell (Aj (show T.X.scope.kind=.function by exact D5 g.hsc g.ok.kind) ?_))
    rfl
 ·have x:=σ.st.hdl
  cases hd:T.C.hd with
  |false=>rw[hd] at x;exact x
  |true=>rw[hd] at x;exact Kk x fun e o vs a b c=>RO e o vs a ⟨k _ _ (en.kn b).1,(en.kn b).2⟩ c
theorem Ca.comp(en:IR g.ct.na (HV g scope Cn D exs cx').na h₀)(hC:h₀.get? Cn=none)(S:Ca (HV g scope Cn D exs cx') h₀ ρ0 h ρ):Ek g.ct.na h₀ ρ0 h ρ where
 le:=S.le
 kn:=fun a o e=>en.back (S.kn a o (fun q=>(by rw[show own (HV g scope Cn D exs cx')=[Cn] from rfl,An] at q;have z:=e.1;replace z:=hC▸(q▸z);cases z)) (en.kn e))
 ns:=fun a ha m e=>S.ns a (en.l' a ha) (fun q=>(by
  rw[show own (HV g scope Cn D exs cx')=[Cn] from rfl,An] at q
  refine VT e fun o ø ø ho ø=>?_
  replace ho:=hC▸(q▸ho);cases ho)) m e
end
noncomputable def Tl(C:FP)(cond:Option Internal.E)(fr:Internal.Fr)(H:MH)(A B:MH->Prop)(X:EV):Prop:=match cond with
 |none=>A H
 |some t=>vE C t fr H (fun b H=>vB b (A H) (B H)) X
noncomputable def IH(C:FP)(tg:Tg)(cond:Option Internal.E)(elt:Internal.E)(fr:Internal.Fr)(X:EV)(x:V)(H:MH)(Q:Option V->MH->Prop):Prop:=Kz fr tg x fun fr'=>
 Tl C cond fr' H (fun H=>vE C elt fr' H (fun v H=>Q (some v) H) X) (Q none) X
noncomputable def Hy(T:Txt):Option Internal.E->List Expr->Prop
 |none,[]=>True
 |some t,[c]=>FC T t c
 |_,_=>False
section
variable {T:Txt}{g:Act T}{fr fr':Internal.Fr}{scope:EA}{cx':List (Ao×Nat)}{tg:Tg}
theorem US{cond:Option Internal.E}{ifs:List Expr}(hc:Hy T cond ifs)(σ:Sg g fr){A B:MH->Prop}{X:EV}(q:Tl T.C cond fr σ.H A B X){Q:Bool->Ae->Prop}{E:Ab->Ae->Prop}
  (yes:∀τ:Sg g fr,σ.To τ->A τ.H->Q true τ.s) (no:∀τ:Sg g fr,σ.To τ->B τ.H->Q false τ.s) (err:∀e s',σ.E X e s'->E e s'):
  σ.wp (forIn ifs true fun c r=>if r=true then do let ok <-isTrue c g.ct.env (FO c g.ct.env);pure (D4 ok) else pure (D4 r)) Q E:=by
 induction cond with
 |none=>induction ifs with
  |nil=>exact Ac (yes σ (.refl _) q)
  |cons _ _=>exact hc.elim
 |some t=>cases ifs with
  |nil=>exact hc.elim
  |cons c cs=>induction cs with
   |cons _ _=>exact hc.elim
   |nil=>
    refine wpAny_tests_one (A4 (hc g fr σ (fun b H=>(b=true->A H)/\(b=false->B H)) X q) (fun u s7 zz=>C9 zz fun ω7 e7 S7 hz=>AO hz fun b hb q=>?_) err)
    refine D5 e7 ?_
    obtain rfl:u=b:=(show b=u from hb).symm
    clear hb zz hz;induction u with
    |true=>exact yes ω7 S7 (q.1 rfl)
    |false=>exact no ω7 S7 (q.2 rfl)
noncomputable def Sg.clearTo{f:Internal.Fr}(τ:Sg g fr')(h:D0 fr' tg=f):Sg g f:=⟨τ.s,τ.ρ,τ.H,τ.hr,fun y i hy=>AO (τ.st.lr y i hy) fun ov pl r=>Bn ov pl fun v hv=>r v (Jd (tg:=tg) (Aj h hv)).2,τ.st.hdl⟩
theorem Le{W:Hx}{na:Na}{h h':Ah}{ρ:Ce}{H:MH}{Cn:Ai}{m:Ao->Option Ab}(R:HR W.w W.hb na h ρ H)(hm:¬mu ρ Cn)(hb:W.hb.get? Cn=none)(hn:Cn∉na.l)(ns:h.Ns Cn m)(hs:AA Cn h h'):HR W.w W.hb na h' ρ H/\EE na [Cn] h h':=by
 have ED:EE na [Cn] h h':=⟨fun b o ø q e=>(hs.2 b (by simpa using q)).trans e,fun a ha m hn'=>hn'.at' fun o e=>(hs.2 a (fun q=>hn (q▸ha))).trans e⟩
 refine⟨ED.hr R fun b hb'=>?_,ED⟩
 rw[An.mp hb']
 refine⟨hm,hb,fun o e d=>?_⟩
 refine Kk ns fun o' es ep h1 h2 ø=>?_
 rw[e] at h1;clear e;obtain rfl:=Ad h1
 rcases d with⟨vs,rfl⟩ | ⟨_,vs,n,d⟩ | ⟨_,fs,d⟩
 ·cases h2
 ·rw[h2] at d;cases d
 ·rw[h2] at d;cases d
noncomputable def CI(g:Act T)(f:Internal.Fr)(xs:List V)(D:Ai)(At:Nat->Ah->Ce->Prop)(st:V->MH->(Option V->MH->Prop)->Prop)(K:List V->MH->Prop)(s₀:Ae)(ρ₀:Ce)(m:Nat)(s:Ae):Prop:=
 ∃j,∃υ:Sg g f,∃rs ys,υ.s=s/\m=xs.length-j/\j<=xs.length/\CO s₀ υ.s/\Ca g.ct s₀.heap ρ₀ υ.s.heap υ.ρ/\At j υ.s.heap υ.ρ/\υ.s.heap.PlainList D ys/\B8 υ.k υ.ρ rs ys.toList/\rs.length<=j/\vC st (xs.drop j) υ.H fun r H=>K (rs++r) H
section
variable {f:Internal.Fr}{xs:List V}{D:Ai}{At:Nat->Ah->Ce->Prop}{st:V->MH->(Option V->MH->Prop)->Prop}{K:List V->MH->Prop}{s₀:Ae}{ρ₀:Ce}
@[elab_as_elim] theorem CI.el{G:Nat->Ae->Prop}{m:Nat}{s:Ae}(h:CI g f xs D At st K s₀ ρ₀ m s)(k:∀j (υ:Sg g f) rs ys,j<=xs.length->CO s₀ υ.s->Ca g.ct s₀.heap ρ₀ υ.s.heap υ.ρ->At j υ.s.heap υ.ρ->υ.s.heap.PlainList D ys->B8 υ.k υ.ρ rs ys.toList->rs.length<=j->
  vC st (xs.drop j) υ.H (fun r H=>K (rs++r) H)->G (xs.length-j) υ.s):G m s:=by
 obtain⟨j,υ,rs,ys,rfl,rfl,h⟩:=h
 exact k j υ rs ys h.1 h.2.1 h.2.2.1 h.2.2.2.1 h.2.2.2.2.1 h.2.2.2.2.2.1 h.2.2.2.2.2.2.1 h.2.2.2.2.2.2.2
theorem CI.mk(υ:Sg g f)(h:j<=xs.length)(a:CO s₀ υ.s)(b:Ca g.ct s₀.heap ρ₀ υ.s.heap υ.ρ)(c:At j υ.s.heap υ.ρ)(d:υ.s.heap.PlainList D ys)(e:B8 υ.k υ.ρ rs ys.toList)(i:rs.length<=j)
  (k:vC st (xs.drop j) υ.H (fun r H=>K (rs++r) H)):CI g f xs D At st K s₀ ρ₀ (xs.length-j) υ.s:=⟨j,υ,rs,ys,rfl,rfl,h,a,b,c,d,e,i,k⟩
theorem CI.next(υ:Sg g f)(h:j+1<=xs.length)(a:CO s₀ υ.s)(b:Ca g.ct s₀.heap ρ₀ υ.s.heap υ.ρ)(c:At (j+1) υ.s.heap υ.ρ)(d:υ.s.heap.PlainList D ys)(e:B8 υ.k υ.ρ rs ys.toList)(i:rs.length<=j+1)
  (k:vC st (xs.drop (j+1)) υ.H (fun r H=>K (rs++r) H)):∃m,m<xs.length-j/\CI g f xs D At st K s₀ ρ₀ m υ.s:=⟨_,Nat.sub_lt_sub_left h (JZ j),.mk υ h a b c d e i k⟩
end
theorem R6{M:Model}{A:Bt}{E:Ab->Ae->Prop}{use:Option (Ab->Sem Unit)}{Q:Ab->Ae->Prop}{v e:Ab}{env:Env}{s:Ae}(h:∃m,s.heap.Ns env.locals m/\∀h',AA env.locals s.heap h'->Av M A (IJ "comprehension.variables-let-go" e env:Sem Ab) (fun ø ø=>False) E {s with heap:=h'}):J3 M A E use Q v env (.error e) s:=by
 induction use<;>exact h
theorem Mw{it:It}{cond:Option Internal.E}{elt:Internal.E}{xt xi xelt:Expr}{ifs:List Expr}{pos pos':Pos}{use:Option (Ab->Sem Unit)}{K:List V->MH->Prop}{X:EV}{Q:Ab->Ae->Prop}{E:Ab->Ae->Prop}
  (ci:GR T.X scope cx' tg.idx) (htgok:tg.ok=true) (hns:EJ xi=true) (htp:It.tp it=true->HY xt=true) (htg:GZ (CK T scope cx') tg.pt xt) (hi:KA T it xi) (hc:Hy (CK T scope cx') cond ifs) (he:AS (CK T scope cx') elt xelt)
  (σ:Sg g fr) (h:vI T.C it fr σ.H (fun xs H=>(T.C.hd=false/\xs.length<=Ap)/\vC (IH T.C tg cond elt fr X) xs H K) X)
  (KE:∀e s',σ.E X e s'->E e s')
  (KO:T.C.hd=false->∀rs D (υ:Sg (g.plus [D]) fr) (cenv:Env),K rs υ.H->CO σ.s υ.s->Ek g.ct.na σ.s.heap σ.ρ υ.s.heap υ.ρ->(∃ys,υ.s.heap.PlainList D ys/\B8 υ.k υ.ρ rs ys.toList)->σ.s.heap.get? D=none->
   σ.s.heap.get? cenv.locals=none->¬mu υ.ρ cenv.locals->cenv.locals∉g.ct.na.l->cenv.locals≠D->(∃m,υ.s.heap.Ns cenv.locals m)->J3 T.W.M g.ct.A E use Q (.ref D) cenv (.ok .next) υ.s):
  σ.wp (JM (.ListComp xelt [⟨xt,xi,ifs,0⟩] scope pos') scope g.ct.env pos (newList []) false (FO xi g.ct.env) use) Q E:=by
 refine R9 rfl (X7 hns) (LV (Ph ci σ)) ci.kind ci.loc ?_
 refine A4 (hi g fr σ _ X _ h fun xs τ u s' exs S q r2 k2 hex src=>?_) (fun ø ø q=>q) KE
 refine Cd q fun zz1 q=>Cd zz1 fun hhd hlen=>?_
 refine OC (τ.plus_st (exs:=exs) k2 hex).hr k2 src (fun I s2 r3 k3 raw=>?_) rfl
 refine AP ?_ (by size_fits)
 generalize hD:s2.heap.objs.size=D
 refine wpAny_newFunctionEnv ci.nocell (by intro y hy;simp at hy) (fun h4 hns4 hsb=>?_) ci.kind
 dsimp only at hns4 hsb ⊢
 generalize hCn:(s2.heap.push {cls:=.type "list",dict:=none,data:=.seq ([]:List Ab).toArray}).objs.size=Cn at hns4 hsb ⊢
 have f2:=AG s2.heap
 have k12:∀b o,τ.s.heap.get? b=some o->s2.heap.get? b=some o:=fun b o e=>k3 b o (k2 b o e)
 have hCn':Cn=s2.heap.objs.size+1:=by rw[<-hCn,Dx]
 have k24:∀b o,s2.heap.get? b=some o->h4.get? b=some o:=fun b o e=>(hsb.2 b fun q=>by
  have:=AB e
  rw[q,hCn'] at this
  exact absurd this (Fv.mpr (Nat.le_succ _))).trans (Af _ (Af _ e))
 have k14:∀b o,τ.s.heap.get? b=some o->h4.get? b=some o:=fun b o e=>k24 b o (k12 b o e)
 have none1:∀b,s2.heap.get? b=none->τ.s.heap.get? b=none:=fun b e=>by
  cases z:τ.s.heap.get? b with
  |none=>rfl
  |some o=>rw[k12 b o z] at e;cases e
 have hD2:s2.heap.get? D=none:=hD▸f2
 have hC2:s2.heap.get? Cn=none:=hCn'▸Km s2.heap 1
 have hDC:D≠Cn:=AW (Sr xa xb [.f xc xa,.f xb (Lp xc (.num 1))] As hD hCn')
 have hDo:h4.get? D=some {cls:=.type "list",data:=.seq #[]}:=(hsb.2 D hDC).trans (Af _ (by rw[<-hD];exact Az _ rfl))
 have hex4:Qq τ.s.heap h4 τ.ρ exs:=fun a q=>⟨(hex a q).1,(hex a q).2.1,(hex a q).2.2.imp fun o=>Ed fun x=>k24 _ _ (k3 _ _ x)⟩
 have hC1:=none1 _ hC2
 have hD1:=none1 _ hD2
 have en:IR g.ct.na (HV g scope Cn D exs cx').na τ.s.heap:=Of hC1 hD1 fun a q=>(hex a q).1
 generalize hs4:({s2 with heap:=h4,toks:=s2.toks+([]:List (Ao×Ab)).length}:Ae)=s4
 have hh4:s4.heap=h4:=by rw[<-hs4]
 have r24:CO s2 s4:=by rw[<-hs4];exact⟨rfl,rfl⟩
 rw[<-hh4] at hns4 k24 k14 hDo hex4
 let g':Act (CK T scope cx'):=g.comp ci Cn D exs
 let υ0:Sg g' (D0 fr tg):=⟨s4,τ.ρ,τ.H,VL ci τ k14 hC1 hD1 hDC hns4 hDo (.inr (.inl ⟨rfl,_,_,rfl⟩)) hex4⟩
 let σb:Bs g':=⟨τ.s,τ.hr.old,τ.hdl_there⟩
 refine Kk (O5 (σ:=σb) υ0 en (fun a q=>AR _ (AQ _ q)) k14 k24 raw rfl) fun ws At Mid itr hws at0=>?_
 have hCna:Cn∉g.ct.na.l:=τ.hr.fresh_na hC1
 have hCb:T.W.hb.get? Cn=none:=τ.hr.fresh_hb hC1
 have hDws:D∉ws:=fun q=>by
  obtain⟨o,e⟩:=hws D q
  rw[hD2] at e;cases e
 have hDex:D∈g'.ct.na.ex:=Be ..
 have hCin:Cn∈g'.ct.na.l:=Be ..
 have toStp:∀{h:Ah} {ρ':Ce},Ca g'.ct τ.s.heap τ.ρ h ρ'->Ek g.ct.na τ.s.heap τ.ρ h ρ':=fun S=>S.comp en hC1
 have dKn:∀{fr':Internal.Fr} (υ:Sg g' fr') {o:Df},υ.s.heap.get? D=some o->Kn g'.ct.na υ.s.heap υ.ρ D o:=fun υ ø e=>⟨e,(υ.hr.exl D hDex).2.choose_spec.1.2⟩
 have keepD:∀{fr1 fr2:Internal.Fr} {υ:Sg g' fr1} {ω:Sg g' fr2} {ys:Array Ab},υ.ToS ω->υ.s.heap.PlainList D ys->ω.s.heap.PlainList D ys:=fun {_ _ υ _ _} S=>Exists.imp fun k e=>(S.stp.kn _ _ (fun q=>hDC (An.mp q)) (dKn υ e)).1
 have errK:∀{fr':Internal.Fr} (υ:Sg g' fr'),CO τ.s υ.s->Ca g'.ct τ.s.heap τ.ρ υ.s.heap υ.ρ->∀e s',υ.E X e s'->EB T.W.M g.ct.A g'.ct.env (fun e s'=>J3 T.W.M g.ct.A E use Q (.ref D) g'.ct.env (.error e) s') e s':=fun υ r S1 e s' x=>by
  refine EM x fun c H' r5 er qx=>?_
  refine Ox (ct:=g'.ct) g'.ok τ.hr.old (er.toS.back S1) fun s'' r'' er'=>?_
  obtain⟨a,ρ',rfl,S',hr',x⟩:=er'
  refine Gj (hr'.nam Cn hCin) fun ø hmu zz1=>Eb zz1 fun m hm=>?_
  have key:∃m,s''.heap.Ns Cn m/\∀h',AA Cn s''.heap h'->Av T.W.M g.ct.A (IJ "comprehension.variables-let-go" (.ref a) g'.ct.env:Sem Ab) (fun ø ø=>False) E {s'' with heap:=h'}:=by
   refine⟨m,hm,fun h' hs=>?_⟩
   refine Cd (Le (hr'.back en) hmu hCb hCna hm hs) fun hr2 ED=>?_
   have S2:Ek g.ct.na τ.s.heap τ.ρ h' ρ':=ED.stp (toStp S') fun b hb=>by rw[An.mp hb];exact hC1
   refine QM (s:={s'' with heap:=h'}) (na:=g.ct.na) hr2 τ.hr.old (x.map fun a o ø e=>⟨(hs.2 a fun q=>e.3 (q▸hCin)).trans e.1,e.2,fun q=>e.3 (en.l' a q),e.4⟩) fun h5 ed hr5 x5=>KE _ _ (S.x ⟨c,H',r.trans (r5.trans (r''.trans ⟨rfl,rfl⟩)),⟨a,ρ',_,rfl,ed.stp S2,hr5,x5,?_⟩,qx⟩)
   rw[show g'.ct.env.frame=some g.ct.L from g.ok.envf];exact .inr (.inr rfl)
  exact R6 key
 have loop:BY T.W.M g.ct.A (.compLoop (.ListComp xelt [⟨xt,xi,ifs,0⟩] scope pos') 0 (.ref I) (.ref D) g'.ct.env) (J3 T.W.M g.ct.A E use Q (.ref D) g'.ct.env) s4:=by
  refine RA (A:=g.ct.A) (CI g' (D0 fr tg) xs D At (IH T.C tg cond elt fr X) K τ.s τ.ρ) ?_ xs.length
   (.mk (j:=0) υ0 (rs:=[]) (ys:=#[]) (A3 _) ((r2.trans r3).trans r24) (.of (.all k14)) at0 ⟨_,hDo⟩ .nil (A3 _) q)
  intro m s' h0
  refine h0.el fun j υ rs ys hj rr SS at_ hpl hrs hrl q=>?_
  by_cases hlt:j<xs.length
  ·rw[FA hlt] at q
   refine itr.item υ (AX hlt) at_ fun v ω t1 mid rv=>?_
   refine itr.own_ (target:=xt) ω htp mid rv fun ω2 t2 at1 rv=>?_
   have T2:=t1.trans t2
   have pl2:ω2.s.heap.PlainList D ys:=hpl.imp fun k e=>T2.hk _ _ hDws e
   have rs2:B8 ω2.k ω2.ρ rs ys.toList:=by have:=hrs.mono T2.kd (.refl _);rw[<-T2.rho] at this;exact this
   let F:Internal.Fr->MH->Prop:=fun fr2 H=>Tl T.C cond fr2 H (fun H=>vE T.C elt fr2 H (fun v H=>vC (IH T.C tg cond elt fr X) (xs.drop (j+1)) H fun r H=>K (rs++((some v).toList++r)) H) X) (fun H=>vC (IH T.C tg cond elt fr X) (xs.drop (j+1)) H fun r H=>K (rs++r) H) X
   have q0:Kz fr tg xs[j] fun fr'=>F fr' υ.H:=q
   refine htg g' _ ω2 xs[j] v _ _ _ rv (Kz.clear htgok (Kz.keep htgok q0)) fun fr2 ω3 zz up S3=>Cd zz fun q ek=>?_
   have q:=up F (by rw[T2.up];exact q)
   have r3':CO τ.s ω3.s:=rr.trans (T2.rest.trans S3.rest)
   have SS3:Ca g'.ct τ.s.heap τ.ρ ω3.s.heap ω3.ρ:=(T2.s SS).trans S3.stp
   have elem:∀ω4:Sg g' fr2,ω3.To ω4->vE T.C elt fr2 ω4.H (fun v H=>vC (IH T.C tg cond elt fr X) (xs.drop (j+1)) H fun r H=>K (rs++((some v).toList++r)) H) X->
     ω4.wp (FO xelt g'.ct.env) (fun x s₄=>Av T.W.M g.ct.A (call (.builtin "list.append") [.ref D,x]) (fun ø s₅=>∃m,m<xs.length-j/\CI g' (D0 fr tg) xs D At (IH T.C tg cond elt fr X) K τ.s τ.ρ m s₅) (EB T.W.M g.ct.A g'.ct.env fun e s'=>J3 T.W.M g.ct.A E use Q (.ref D) g'.ct.env (.error e) s') s₄) (EB T.W.M g.ct.A g'.ct.env fun e s'=>J3 T.W.M g.ct.A E use Q (.ref D) g'.ct.env (.error e) s'):=fun ω4 S4 q=>by
    refine A4 (he g' fr2 ω4 _ X q) (fun x s5 zz=>C9 zz fun ω5 e5 S5 zz=>AO zz fun w rw_ q=>?_) (errK ω4 (r3'.trans S4.rest) (SS3.trans (.of S4.stp)))
    subst e5
    have S35:=S3.trans (S4.trans S5).s
    have pl5:=keepD S35 pl2
    have rs5:=S35.stp.vrs rs2
    have ln:=rs5.length
    rw[Aq] at ln
    refine Sn pl5 (fun h' hl' hs=>?_) (by unfold Ap at hlen;unfold Bp;exact OP xa (.num 16777216) [.e xa xb,.l xb xc,.l xc xd,.l xd (.num 1000000)] As ln hrl hj hlen)
    refine Cd (ω5.hr.exl D hDex) fun ø zz1=>AO zz1 fun od kD dD=>?_
    have x8:MN g'.ct.na σb.s.heap ω5.ρ ω5.s.heap h':=Ej.ed (L:=[D]) ⟨⟨hD1,_,kD,.inr ⟨hDex,dD,hl'.elim fun k e=>⟨_,e,.inr (.inl ⟨rfl,_,_,rfl⟩)⟩⟩⟩,trivial⟩ fun b o q e=>(hs.2 b (Kt q)).trans e
    have q2:vC (IH T.C tg cond elt fr X) (xs.drop (j+1)) ω5.H fun r H=>K ((rs++[w])++r) H:=by
     simp only[Bd];exact q
    exact CI.next ((⟨{ω5.s with heap:=h'},ω5.ρ,ω5.H,x8.st σb ω5⟩:Sg g' fr2).clearTo ek) hlt ((r3'.trans (S4.rest.trans S5.rest)).trans ⟨rfl,rfl⟩) (x8.edf.sstp ((SS3.trans (.of S4.stp)).trans (.of S5.stp)))
     (itr.keepD (itr.keep at1 S35.stp) hDws (fun b o q e=>(hs.2 b q).trans e) x8.kd) hl' (Aj Array.toList_push ((rs5.mono x8.kd (.refl _)).app (.cons (rw_.mono x8.kd (.refl _)) .nil))) (Aj Ak (Ka hrl)) q2
   refine US hc ω3 q (fun ω4 S4 q=>elem ω4 S4 q) (fun ω7 S7 q=>?_) (errK ω3 r3' SS3)
   have S37:ω2.ToS ω7:=S3.trans S7.s
   exact CI.next (ω7.clearTo ek) hlt (r3'.trans S7.rest) (SS3.trans (.of S7.stp)) (itr.keep at1 S37.stp) (keepD (ω:=ω7) S37 pl2) (S37.stp.vrs rs2) (Nat.le_succ_of_le hrl) q
  ·have hje:j=xs.length:=AL (CY xa xb [.l xa xb] As hj) (CY xa xb [.u xb xa] As hlt)
   subst hje
   refine itr.done υ at_ fun ω t1=>?_
   rw[JI] at q
   have q:K rs ω.H:=by rw[t1.up,<-Bq rs];exact q
   have SS3:=t1.s SS
   have Sp:=toStp SS3
   have en2:IR (g.plus [D]).ct.na g'.ct.na τ.s.heap:=⟨fun a q=>(Al.mp q).elim (fun e=>.inr (e▸hC1)) .inl,fun a q=>(Al.mp q).elim (fun e=>.inl (e▸Be ..)) fun q=>(AJ.mp q).elim (fun q=>.inr (hex4 a q).1) fun q=>.inl (AR _ q),
    fun a q=>AR _ q,fun a q=>(Al.mp q).elim (fun e=>e▸Be ..) fun q=>AR _ (AF _ q)⟩
   have rs3:B8 (Kd g'.ct.na ω.s.heap ω.ρ) ω.ρ rs ys.toList:=by have:=hrs.mono t1.kd (.refl _);rw[<-t1.rho] at this;exact this
   refine Gj (ω.hr.nam Cn hCin) fun ø hmu zz1=>Eb zz1 fun m hm=>?_
   refine KO hhd rs D (⟨ω.s,ω.ρ,ω.H,ω.hr.back en2,τ.st.lr.map rfl rfl (fun m=>Sp.ns _ g.ok.loc m) (fun ø ø ø ho ø=>Sp.kn _ _ ho) (fun ø ø rv=>rv.mono (fun a o e=>en2.backd (SS3.kd a o (en.kd e))) Sp.le),τ.st.hdl.stp Sp⟩:Sg (g.plus [D]) fr) g'.ct.env q (S.rest.trans (rr.trans t1.rest)) (S.stp.trans Sp) ⟨ys,hpl.imp fun k e=>t1.hk _ _ hDws e,rs3.mono (fun a o e=>en2.backd e) (.refl _)⟩
    (S.stp.frh D hD1 (τ.hr.fresh_na hD1) (τ.hr.fresh hD1)) (S.stp.frh Cn hC1 hCna (τ.hr.fresh hC1)) hmu hCna hDC.symm ⟨m,hm⟩
 exact codeAny_compStart_list (rest:=[]) loop (itr.self υ0 (Q:=fun it' s'=>BY T.W.M g.ct.A (.compLoop (.ListComp xelt [⟨xt,xi,ifs,0⟩] scope pos') 0 it' (.ref D) g'.ct.env) (J3 T.W.M g.ct.A E use Q (.ref D) g'.ct.env) s') at0 loop)
end
theorem OR.keeps3(x:OR w na h ρ p o)(k:∀a o,Kd na h ρ a o->Kd na' h ρ' a o)(le:E0 ρ ρ'):OR w na' h ρ' p o:=by
 induction o with
 |list xs=>obtain⟨e,vs,a,b⟩:=x;exact⟨e,vs,a,b.mono k le⟩
 |dict es=>obtain⟨e,nd,ds,n,a,b⟩:=x;exact⟨e,nd,ds,n,a,b.mono k le⟩
 |inst C fs=>obtain⟨ne,a,nd,ds,n,c,b⟩:=x;exact⟨ne,a,nd,ds,n,c,b.mono k le⟩
section
variable {T:Txt}{g:Act T}{fr:Internal.Fr}{ρ ρ0:Ce}{H:MH}{Cn D:Ai}
theorem Xp{h:Ah}{rs:List V}{ys:Array Ab}(R:HR T.W.w T.W.hb (g.plus [D]).ct.na h ρ H)(pl:h.PlainList D ys)(rr:B8 (Kd (g.plus [D]).ct.na h ρ) ρ rs ys.toList)(hex:D∉g.ct.na.ex):
  HR T.W.w T.W.hb g.ct.na h (ρ++[(D,D)]) (H++[.list rs])/\(ρ++[(D,D)])[H.length]?=some (D,D)/\∀{h₀:Ah},h₀.get? D=none->Ek g.ct.na h₀ ρ0 h ρ->Ek g.ct.na h₀ ρ0 h (ρ++[(D,D)]):=by
 refine Cd (R.exl D (Be ..)) fun hb zz1=>AO zz1 fun oD kD ø=>?_
 have nf:∀a,mu (ρ++[(D,D)]) a->mu ρ a\/a=D:=fun a zz=>AO zz fun q hq e=>by
  exact(AJ.mp hq).elim (fun hq=>.inl ⟨q,hq,e⟩) fun hq=>.inr (e.elim (fun z=>z.trans (congrArg Prod.fst (An.mp hq))) fun z=>z.trans (congrArg Prod.snd (An.mp hq)))
 have kd:∀a o,Kd (g.plus [D]).ct.na h ρ a o->Kd g.ct.na h (ρ++[(D,D)]) a o:=fun a o e=>by
  have hne:a≠D:=fun q=>e.3 (q▸Be ..)
  exact⟨⟨e.1.1,fun m=>(nf a m).elim e.1.2.1 hne,e.1.2.2⟩,e.2,fun q=>e.3 (AR _ q)⟩
 have at_:(ρ++[(D,D)])[H.length]?=some (D,D):=by refine D5 R.len ?_;simp
 have hne:∀p∈ρ,p.1≠D/\p.2≠D:=fun p hp=>⟨fun q=>kD.2.1 ⟨p,hp,.inl q.symm⟩,fun q=>kD.2.1 ⟨p,hp,.inr q.symm⟩⟩
 refine⟨⟨by simp[R.len],fun i q o' e1 e2=>?_,fun i j q q' e1 e2 ne=>?_,fun a m=>?_,fun a ha=>?_,R.old,fun a ha=>?_⟩,at_,fun h0 S=>⟨S.le.trans (.app _ _),fun a o e=>?_,S.ns⟩⟩
 ·rcases Rx e1 with⟨hi,e1⟩ | ⟨hi,hq⟩
  ·exact(R.rep i q o' e1 ((A9 (D5 R.len hi)).symm.trans e2)).keeps3 kd (.app _ _)
  ·rcases Rx e2 with⟨hj,_⟩ | ⟨_,ho⟩
   ·exact absurd hj (Fv.mpr (CZ (R.len.symm.trans hi.symm)))
   ·exact Aj hq (Aj ho ⟨rfl,ys,pl,rr.mono kd (.app _ _)⟩)
 ·have key:∀i q,(ρ++[(D,D)])[i]?=some q->(ρ[i]?=some q/\q∈ρ)\/(i=ρ.length/\q=(D,D)):=fun i q e=>(Rx e).imp_left fun z=>⟨z.2,A2 z.2⟩
  exact(key i q e1).elim (fun a=>(key j q' e2).elim (fun b=>R.sep i j q q' a.1 b.1 ne) fun b=>Aj b.2 (YT (hne q a.2).1 (hne q a.2).1 (hne q a.2).2 (hne q a.2).2)) fun a=>(key j q' e2).elim (fun b=>Aj a.2 (YT (hne q' b.2).1.symm (hne q' b.2).2.symm (hne q' b.2).1.symm (hne q' b.2).2.symm)) fun b=>absurd (a.1.trans b.1.symm) ne
 ·exact(nf a m).elim (R.new a) fun z=>z▸hb
 ·refine Gj (R.nam a ha) fun a1 a2 a3=>?_
  exact⟨a1,fun m=>(nf a m).elim a2 fun q=>kD.2.2 (q▸ha),a3⟩
 ·refine Cd (R.exl a (AR _ ha)) fun a1 zz1=>AO zz1 fun o a2 a3=>?_
  exact⟨a1,o,⟨a2.1,fun m=>(nf a m).elim a2.2.1 fun q=>hex (q▸ha),a2.2.2⟩,a3⟩
 ·have z:=S.kn a o e
  exact⟨z.1,fun m=>(nf a m).elim z.2.1 fun q=>(by have:=e.1;replace this:=h0▸(q▸this);cases this),z.2.2⟩
theorem XF(ns:h.Ns Cn m)(hs:AA Cn h h'):∀a o,Kd na h ρ a o->Kd na h' ρ a o:=fun a o e=>by
 refine⟨⟨(hs.2 a fun q=>?_).trans e.1.1,e.1.2⟩,e.2,e.3⟩
 refine Kk ns fun o' es ep h1 h2 ø=>?_
 replace h1:=e.1.1▸(Eq.symm q▸h1);obtain rfl:=Ad h1
 rcases e.2 with⟨vs,rfl⟩ | ⟨_,vs,n,d⟩ | ⟨_,fs,d⟩
 ·cases h2
 ·replace d:=h2▸d;cases d
 ·rw[h2] at d;cases d
theorem Ca.go{h₀ h h':Ah}{ρ0 ρ:Ce}{m:Ao->Option Ab}(S:Ca g.ct h₀ ρ0 h ρ)(hC:h₀.get? Cn=none)(hn:Cn∉g.ct.na.l)(hs:AA Cn h h'):Ca g.ct h₀ ρ0 h' ρ:=
 K4.sstp (Bn ([Cn]) ⟨fun b o ø q e=>(hs.2 b (by simpa using q)).trans e,fun a ha m hn'=>hn'.at' fun o e=>(hs.2 a (fun q=>hn (q▸ha))).trans e⟩ (fun b q=>Aj (An.mp q) hC)) S
noncomputable def Sg.go{h':Ah}{m:Ao->Option Ab}(τ:Sg g fr)(hm:¬mu τ.ρ Cn)(hb:T.W.hb.get? Cn=none)(hn:Cn∉g.ct.na.l)(ns:τ.s.heap.Ns Cn m)(hs:AA Cn τ.s.heap h')(hhd:T.C.hd=false):Sg g fr where
 s:={τ.s with heap:=h'}
 ρ:=τ.ρ
 H:=τ.H
 st:=by
  have kd:=XF (ρ:=τ.ρ) (na:=g.ct.na) ns hs
  refine⟨(Le τ.hr hm hb hn ns hs).1,τ.st.lr.map rfl rfl (fun ø hm'=>hm'.at' fun o e=>(hs.2 _ (fun q=>hn (q▸g.ok.loc))).trans e) (fun c o v ho hdat=>⟨(hs.2 c fun q=>Kk ns fun o' es ep h1 h2 ø=>by
    rw[<-q,ho.1] at h1;cases h1
    rw[hdat] at h2;cases h2).trans ho.1,ho.2⟩) (fun ø ø rv=>rv.mono kd (.refl _)),?_⟩
  ·have:=τ.st.hdl;rw[hhd] at this ⊢;exact this
end
section
variable {T:Txt}{scope:EA}{cx':List (Ao×Nat)}{tg:Tg}{mu_:Bool}{it:It}{cond:Option Internal.E}{elt:Internal.E}{xt xi xelt:Expr}{ifs:List Expr}{pos spos p:Pos}{i:Nat}{x:Ao}
theorem Uw(ci:GR T.X scope cx' tg.idx)(htgok:tg.ok=true)(hns:EJ xi=true)(htp:It.tp it=true->HY xt=true)(htg:GZ (CK T scope cx') tg.pt xt)(hi:KA T it xi)(hc:Hy (CK T scope cx') cond ifs)(he:AS (CK T scope cx') elt xelt):
  AS T (.comp mu_ tg it cond elt) (.ListComp xelt [⟨xt,xi,ifs,0⟩] scope pos):=fun g fr σ Q X h=>by
 rw[eval_ListComp]
 have hv:vI T.C it fr σ.H (fun xs H=>(T.C.hd=false/\xs.length<=Ap)/\vC (IH T.C tg cond elt fr X) xs H fun rs H=>Vb mu_ rs H Q) X:=by induction cond<;>exact h
 refine Mw (use:=none) ci htgok hns htp htg hi hc he σ hv (fun ø ø x=>x) fun _ rs D υ cenv q r S zz hD hC hmu hna hCD ⟨m,hm⟩=>AO zz fun ys pl rr=>Bn m hm (fun h' hs=>?_)
 have en:IR g.ct.na (g.plus [D]).ct.na σ.s.heap:=Ff fun a q=>Aj (An.mp q) hD
 have hex:D∉g.ct.na.ex:=σ.hr.fresh_ex hD
 obtain⟨k,hDo⟩:=pl
 have kD:=(υ.hr.exl D (Be ..)).2.choose_spec.1
 have hrp:=Le υ.hr hmu (σ.hr.fresh_hb hC) hna hm hs
 have hDo':h'.get? D=some {cls:=.type "list",data:=.seq ys k}:=(hs.2 D hCD.symm).trans hDo
 have rr':=rr.mono (XF (na:=(g.plus [D]).ct.na) hm hs) (.refl _)
 have S':Ek g.ct.na σ.s.heap σ.ρ h' υ.ρ:=EE.stp (na:=g.ct.na) ⟨hrp.2.keep,hrp.2.ns⟩ S fun b q=>Aj (An.mp q) hC
 clear hv h;induction mu_ with
 |false=>exact(Sg.To.refl σ).end (s':={υ.s with heap:=h'}) (r.trans ⟨rfl,rfl⟩) S' (hrp.1.back en) (.lst ⟨⟨hDo',kD.2⟩,.inr (.inl ⟨rfl,_,_,rfl⟩),hex⟩ rfl rfl (rr'.mono (fun a o e=>en.backd e) (.refl _))) q
 |true=>
  refine Gj (Xp (ρ0:=σ.ρ) hrp.1 ⟨k,hDo'⟩ rr' hex) fun R at_ k2=>?_
  exact(Sg.To.refl σ).end (s':={υ.s with heap:=h'}) (r.trans ⟨rfl,rfl⟩) (k2 hD S') R (.ref at_) q
section
variable {X:Cx}
noncomputable def Qk(X:Cx)(scope:EA)(t:Ao)(l1 l2:Nat):Bool:=X.scope.names.lookup t==some .local&&l1==l2&&!(scope.names.any fun(n,k)=>n==t&&(k==.local||k==.cell))
theorem UQ{xelt:Expr}{gens:List Comprehension}{pos tp:Pos}{t:Ao}{l:Nat}{env:Env}(hsc:env.scope=X.scope)(hk:env.scope.kind=.function):swapsWith (.ListComp xelt gens scope pos) (some (.Name t tp)) l env=pure (Qk X scope t tp.line pos.line):=by
 unfold swapsWith
 have hb:(env.blockKind==.function)=true:=by unfold Env.blockKind;refine Aj hk ?_;rfl
 refine(?_:(pure (env.blockKind==.function&&env.kindOf t==some .local&&tp.line==pos.line&&!(scope.names.any fun(n,k)=>n==t&&(k==.local||k==.cell))):Sem Bool)=_)
 refine Aj hb ?_
 unfold Qk D3
 rw[hsc,Bool.true_and]
end
theorem Z6(hb:DB T.X x i=true)(ci:GR T.X scope cx' tg.idx)(htgok:tg.ok=true)(hns:EJ xi=true)(htp:It.tp it=true->HY xt=true)(htg:GZ (CK T scope cx') tg.pt xt)(hi:KA T it xi)(hc:Hy (CK T scope cx') cond ifs)
  (he:AS (CK T scope cx') elt xelt):DM T (.asg i (.comp mu_ tg it cond elt)) (.Assign [.Name x p] (.ListComp xelt [⟨xt,xi,ifs,0⟩] scope pos) spos):=fun g fr σ N R X h=>by
 have hsw:=UQ (X:=T.X) (xelt:=xelt) (gens:=[⟨xt,xi,ifs,0⟩]) (scope:=scope) (pos:=pos) (tp:=p) (t:=x) (l:=spos.line) g.hsc g.ok.kind
 cases hsb:Qk T.X scope x p.line pos.line with
 |false=>
  rw[hsb] at hsw
  exact LL (MG (.refl σ) (Uw (mu_:=mu_) ci htgok hns htp htg hi hc he g fr σ _ X h) fun τ y u S r h=>DP τ hb r fun υ up S2=>(S.s.trans S2).now (fl:=.next) (up N h)) hsw
 |true=>
  rw[hsb] at hsw
  rw[exec_Assign_arm]
  refine Aa (Bw ?_)
  refine Aj (show swapsWithSole [.Name x p] (.ListComp xelt [⟨xt,xi,ifs,0⟩] scope pos) spos.line g.ct.env=pure true from hsw) ?_
  refine Aa (Ac ?_)
  refine Aj (if_pos rfl) ?_
  refine Aa ?_
  refine(?_:σ.wp (do let _ <-JM (.ListComp xelt [⟨xt,xi,ifs,0⟩] scope pos) scope g.ct.env (firstIterPos [⟨xt,xi,ifs,0⟩] pos) (newList []) false (FO xi g.ct.env) (some fun v=>GN (.Name x p) g.ct.env v);pure ()) _ (σ.ES X))
  have hv:vI T.C it fr σ.H (fun xs H=>(T.C.hd=false/\xs.length<=Ap)/\vC (IH T.C tg cond elt fr X) xs H fun rs H=>Vb mu_ rs H fun v H=>N (AC fr i v) H) X:=by induction cond<;>exact h
  refine Aa (Mw ci htgok hns htp htg hi hc he σ hv (fun ø ø x=>x.s) fun hh rs D υ cenv q r S zp hD hC hmu hna hCD zm=>?_)
  refine AO zp fun ys pl rr=>?_
  refine Eb zm fun m hm=>?_
  clear zp zm
  have hb':T.W.hb.get? cenv.locals=none:=σ.hr.fresh_hb hC
  have hex:D∉g.ct.na.ex:=σ.hr.fresh_ex hD
  have en:IR g.ct.na (g.plus [D]).ct.na σ.s.heap:=Ff fun a q=>Aj (An.mp q) hD
  refine VT (id hm) fun oC es ep h1 h2=>?_
  obtain⟨k,hDo⟩:=pl
  have kD:=(υ.hr.exl D (Be ..)).2.choose_spec.1
  refine(?_:Av T.W.M g.ct.A (GN (.Name x p) g.ct.env (.ref D)) _ (σ.ES X) υ.s)
  have fin:∀(τ2:Sg g fr) a,τ2.s=υ.s->σ.To τ2->τ2.v a (.ref D)->¬mu τ2.ρ cenv.locals->cenv.locals∉own g.ct->N (AC fr i a) τ2.H->
    Av T.W.M g.ct.A (GN (.Name x p) g.ct.env (.ref D)) (fun ø s''=>∃m,s''.heap.Ns cenv.locals m/\∀h',AA cenv.locals s''.heap h'->Av T.W.M g.ct.A (pure ()) (fun ø s₂=>Av T.W.M g.ct.A (pure Flow.next) (σ.PS N R) (σ.ES X) s₂) (σ.ES X) {s'' with heap:=h'}) (σ.ES X) υ.s:=fun τ2 a e S2 rv hmu2 hown q=>by
   refine D5 e ?_
   refine wpAny_assign_Name (DP τ2 hb rv fun ω up S3=>?_)
   have hC3:=(S3.stp.kn _ _ hown ⟨Aj e h1,hmu2,hna⟩)
   have hm3:ω.s.heap.Ns cenv.locals m:=⟨oC,es,ep,hC3.1,h2⟩
   refine⟨m,hm3,fun h' hs=>Ac (Ac ?_)⟩
   have S4:=S2.s.trans S3
   exact(show σ.ToS (ω.go hC3.2.1 hb' hna hm3 hs hh) from⟨S4.rest.trans ⟨rfl,rfl⟩,S4.stp.go (m:=m) hC hna hs⟩).now (fl:=.next) (up N q)
  have hown:cenv.locals∉own g.ct:=RX σ hC
  clear hv h;induction mu_ with
  |false=>
   exact fin υ.unplus (.lst rs) rfl ⟨r,S⟩ (.lst ⟨⟨hDo,kD.2⟩,.inr (.inl ⟨rfl,_,_,rfl⟩),hex⟩ rfl rfl (rr.mono (fun a o e=>en.backd e) (.refl _))) hmu hown q
  |true=>
   refine Gj (Xp (ρ0:=σ.ρ) υ.hr ⟨k,hDo⟩ rr hex) fun R' at_ k2=>?_
   have S2:=k2 hD S
   exact fin ⟨υ.s,υ.ρ++[(D,D)],υ.H++[.list rs],R',σ.st.lr.stp g.ok.loc S2,σ.st.hdl.stp S2⟩ (.ref υ.H.length) rfl ⟨r,S2⟩ (.ref at_) (fun⟨q,hq,e⟩=>(AJ.mp hq).elim (fun hq=>hmu ⟨q,hq,e⟩) fun hq=>by
    rw[An.mp hq] at e
    exact hCD (e.elim id id)) hown q
end
section
variable {prog:B7}{w:Cc}{A:Bt}{E:Ab->Ae->Prop}{s:Ae}{R:Result->Ae->Prop}
theorem OM{I:Ai}{fp wr:List Ai}{n:Nat}{P:Nat->Ab->Prop}{St:Nat->Ah->Prop}(Wk:Walks prog w A I fp wr n P St)(acc:Array Ab):
  Walks prog w A I fp wr (acc.size+n) (fun i v=>(i<acc.size->acc[i]?=some v)/\(acc.size<=i->P (i-acc.size) v)) (fun i h=>acc.size<=i/\St (i-acc.size) h) where
 sub:=Wk.sub
 frame:=fun i h h' st hk=>⟨st.1,Wk.frame _ _ _ st.2 hk⟩
 item:=fun i s Q E hi st hQ=>Wk.item (i-acc.size) s Q E (Xj xa xb [.e (Lp xa xc) xd,.t xd (Lp xc xb)] As (AI (CY xa xb [.l xa xb] As st.1)) hi) st.2 fun v h' tk hP st' hk=>hQ v h' tk ⟨fun q=>absurd st.1 (Nat.not_le_of_lt (OX xa xb [.t xa xb] As q)),fun ø=>hP⟩ ⟨CY xa (Lp xb (.num 1)) [.l xa xb] As st.1,Aj (show i+1-acc.size=i-acc.size+1 from AL (OP xa (Lp xb (.num 1)) [.e (Lp xa xc) (Lp xd (.num 1)),.l xd (Lp xb xc)] As (AI (CY xa (Lp xb (.num 1)) [.l xa xb] As st.1)) (OB _ _)) (OP (Lp xa (.num 1)) xb [.e (Lp xa xc) xd,.l (Lp xd (.num 1)) (Lp xb xc)] As (AI (CY xa xb [.l xa xb] As st.1)) (OB _ _))) st'⟩ hk
 done:=fun s Q E st hQ=>Wk.done s Q E (by have:=st.2;rw[show acc.size+n-acc.size=n from AL (Fc xa xb [.e (Lp xa xc) (Lp xc xb)] As (AI (CY xa (Lp xa xb) [] As))) (Fc xa xb [.l (Lp xc xa) (Lp xb xc)] As (OB _ _))] at this;exact this) hQ
 self:=fun i s Q E st hQ=>Wk.self _ s Q E st.2 hQ
theorem T4{I:Ai}{fp wr:List Ai}{n:Nat}{P:Nat->Ab->Prop}{St:Nat->Ah->Prop}(Wk:Walks prog w A.in1 I fp wr n P St){S:Ai}(hSf:S∉fp){acc:Array Ab}{c:Nat}{res:Ab}(hn:acc.size+n<=Bp)(hst:St 0 s.heap)
  (hS:s.heap.get? S=some {cls:=.type "list",dict:=none,data:=.seq acc c,slots:=#[]})
  (hR:∀h' tk acc' c',(∀b o,b≠S->b∉wr->s.heap.get? b=some o->h'.get? b=some o)->h'.get? S=some {cls:=.type "list",dict:=none,data:=.seq acc' c',slots:=#[]}->acc'.size=acc.size+n->(∀i,i<acc.size->acc'[i]?=acc[i]?)->(∀i v,acc'[acc.size+i]?=some v->P i v)->R (.ok (.ret res)) {s with heap:=h',toks:=tk}):
  BY (AD prog w) A (.builtin "list.extend.loop" ⟨[.ref S,.ref I,res],[]⟩) R s:=by
 refine codeAny_extend_loopS (OM Wk acc).toS hn S hSf res n acc.size s acc c (AL (Fc xa xb [.e (Lp xa xc) (Lp xc xb)] As (AI (CY xa (Lp xa xb) [] As))) (Fc xa xb [.l (Lp xc xa) (Lp xb xc)] As (OB _ _))) (BG _ _) ⟨Ay _,by rw[GM];exact hst⟩ hS ⟨rfl,fun j v e=>?_⟩ fun s' acc' c' hm hS' hacc=>?_
 ·have hj:j<acc.size:=by
   rcases Fo j acc.size with q | q
   ·exact q
   ·replace e:=Cj q▸e;cases e
  exact⟨fun ø=>e,fun q=>absurd hj (Nat.not_lt_of_le (CY xa xb [.l xa xb] As q))⟩
 ·refine Aj (Moved.eq_with hm) ?_
  refine hR s'.heap s'.toks acc' c' (fun b o hb hw e=>hm.heap b o (fun q=>?_) e) hS' hacc.1 (fun i hi=>?_) fun i v e=>?_
  ·rcases Al.mp q with q | q
   ·exact hb q
   ·exact hw q
  ·have hlt:i<acc'.size:=by rw[hacc.1];exact Sr xa (Lp xb xc) [.t xa xb] As hi
   have:=(hacc.2 i acc'[i] (BQ hlt)).1 hi
   exact Aj this (BQ hlt)
  ·have:=(hacc.2 _ v e).2 (BG _ _)
   rwa [show acc.size+i-acc.size=i from AL (Fc xa xb [.e (Lp xa xc) (Lp xc xb)] As (AI (CY xa (Lp xa xb) [] As))) (Fc xa xb [.l (Lp xc xa) (Lp xb xc)] As (OB _ _))] at this
theorem Ze{acc acc':Array Ab}{l:List Ab}(h1:acc'.size=acc.size+l.length)(h2:∀i,i<acc.size->acc'[i]?=acc[i]?)(h3:∀i v,acc'[acc.size+i]?=some v->l[i]?=some v):acc'.toList=acc.toList++l:=by
 apply List.ext_getElem?
 intro i
 refine Aj (GJ) ?_
 rcases Fo i acc.size with q | q
 ·exact Aj (h2 i q) (Aj (A9 (by simpa using q)) (Aj (GJ) rfl))
 ·refine Aj (BL (by simpa using q)) ?_
  rcases Fo i acc'.size with z | z
  ·have:=h3 (i-acc.size) acc'[i] (Aj (show acc.size+(i-acc.size)=i from AL (Fc (Lp xa xb) xc [.e (Lp xb xa) xc] As (AI (CY xa xb [.l xa xb] As q))) (Fc xa (Lp xb xc) [.l xa (Lp xc xb)] As (OB _ _))) (BQ z))
   refine Aj (BQ z) ?_
   simpa using this.symm
  ·exact Aj (Cj z) (Aj (GV (by simp;exact mA xa xb [.f xc (Lp xd xa),.l xc xe,.l xe (Lp xb xd)] As h1 z (OB _ _))) rfl)
noncomputable def Sk(hh:A.handled=none)(I l:Ai)(hne:l≠I)(items:Array Ab)(hsz:items.size<=2 ^ 24):
  Walks prog w A I [I,l] [I] items.size (fun i v=>items[items.size-1-i]?=some v) (fun i h=>i<=items.size/\F9 h I l ((items.size:Int)-1-(i:Int))/\IsTup h l items) where
 sub:=fun b hb=>by simp at hb;simp[hb]
 frame:=fun ø ø ø x hk=>⟨x.1,x.2.1.imp fun o=>Ed (hk I (by simp) o),x.2.2.imp fun o=>Ed (hk l (by simp) o)⟩
 item:=fun i s Q E hi x hQ=>by
  have e:(items.size:Int)-1-(i:Int)=((items.size-1-i:Nat):Int):=by omega
  have hit:=x.2.1
  rw[e] at hit
  have hx:items[items.size-1-i]?=some (items[items.size-1-i]'(Sr xa xb [.l xa xc,.e (Lp xc (.num 1)) xb] As (DK _ _) (AI (CY (.num 1) xa [.t xb xa] As hi)))):=BQ (Sr xa xb [.l xa xc,.e (Lp xc (.num 1)) xb] As (DK _ _) (AI (CY (.num 1) xa [.t xb xa] As hi)))
  refine MA hit x.2.2 hx (bV za (.num 4611686018427387904) [.f (.sub (.sub zb (.num 1)) zc) za,.l zb (.num 16777216),.l (.num 0) zc] As e (Am.2 hsz) (AE _)) fun h' tk hit' hs'=>?_
  have e2:((items.size-1-i:Nat):Int)-1=(items.size:Int)-1-((i+1:Nat):Int):=B0 (Vz (.sub za (.num 1)) (.sub (.sub zb (.num 1)) (.add zc (.num 1))) [.f (.sub (.sub zb (.num 1)) zc) za] As e) (Vz (.sub (.sub za (.num 1)) (.add zb (.num 1))) (.sub zc (.num 1)) [.e (.sub (.sub za (.num 1)) zb) zc] As e)
  rw[e2] at hit'
  exact hQ _ h' tk hx ⟨hi,hit',x.2.2.imp fun o=>Ed (hs'.2 l hne).trans⟩ fun b o hb eo=>(hs'.2 b (fun h=>hb (by simp[h]))).trans eo
 done:=fun s Q E x hQ=>by
  have e:(items.size:Int)-1-(items.size:Int)=-1:=B0 (BV (.sub (.sub za (.num 1)) za) (.neg (.num 1)) [] As) (BV (.neg (.num 1)) (.sub (.sub za (.num 1)) za) [] As)
  have hit:=x.2.1
  rw[e] at hit
  exact O6 hh hit fun h' he'=>hQ h' s.toks fun b o hb eo=>he' b o (fun h=>hb (by simp[h])) eo
 self:=fun ø ø ø ø x hQ=>Hm x.2.1 hQ
end
namespace F0
theorem no_lri_len:Fa (.type "list_reverseiterator") "__len__"=pure none:=by rw[Cv,Bx];kernel_rfl
theorem no_rev_len:Fa (.type "reversed") "__len__"=pure none:=by rw[Cv,Bx];kernel_rfl
theorem lri_hint:Fa (.type "list_reverseiterator") "__length_hint__"=pure (some (.builtin "list_reverseiterator.__length_hint__")):=by rw[Cv,Bx];kernel_rfl
theorem slot_rev_hint:Slot "reversed" "__length_hint__" "reversed.__length_hint__":=
 .of (owner:="reversed") (n:="__length_hint__") (by rw[Cv,Bx];kernel_rfl) (by decide+kernel) (by decide+kernel) (by decide+kernel)
  (by first | exact .inl (by decide+kernel) | exact .inr (by decide+kernel)) (by rw[C8];kernel_rfl)
theorem entry_rev_hint:entryFor table "reversed.__length_hint__"=some Ax.«reversed.__length_hint__»:=Hz (by kernel_rfl)
theorem args_rev_hint(a:Ab):argsOk "reversed.__length_hint__" ⟨[a],[]⟩:=by
 unfold argsOk;rw[signature?_of (id:="reversed.__length_hint__") (n:=['_','_','t','n','i','h','_','h','t','g','n','e','l','_','_']) (o:=['d','e','s','r','e','v','e','r']) (by kernel_rfl) owner_rev];kernel_rfl
end F0
section
variable {prog:B7}{w:Cc}{A:Bt}{E:Ab->Ae->Prop}{s:Ae}
theorem TH(hT:s.TypeIs (.ref r) "list_reverseiterator")(h:Q false s):Av (AD prog w) A (BZ (.ref r)) Q E s:=by
 unfold BZ
 refine Aa (Bv hT F0.no_lri_len ?_)
 refine Bk (fun hab=>absurd hab (by decide)) (fun ø=>?_)
 refine Bk (fun hab=>absurd hab (by decide)) (fun ø=>?_)
 refine Aa (Bv hT F0.lri_hint ?_)
 generalize hid:("list_reverseiterator.__length_hint__":String)=id0
 wp_delta
 refine Aj (show splitId id0=some ("list_reverseiterator","__length_hint__") from by subst hid;decide+kernel) ?_
 subst hid
 refine Aa (Dd (T:="list_reverseiterator") (b:=true) hT (by rw[C8];kernel_rfl) ?_)
 refine Bk (fun hab=>absurd hab (by decide)) (fun ø=>?_)
 refine Bk (fun ø=>?_) (fun hab=>absurd (by decide+kernel) hab)
 refine Bk (fun hab=>absurd hab (by decide+kernel)) (fun ø=>?_)
 exact Ac h
end
section
variable {prog:B7}{w:Cc}{A:Bt}{E:Ab->Ae->Prop}{s:Ae}
theorem LU(hit:F9 s.heap it l ((items.size:Int)-1))(hl:IsTup s.heap l items)(hsz:items.size<=2 ^ 24)
  (hQ:∀tk tk',Q (.int (items.size:Int) tk') {s with toks:=tk}):Av (AD prog w) A (call (.builtin "reversed.__length_hint__") [.ref it]) Q E s:=by
 refine C9 (id hit) fun o ho hc hd=>?_
 refine AZ F0.slot_rev_hint hit.typeIs F0.entry_rev_hint ?_ (F0.args_rev_hint _)
 unfold Ax.«reversed.__length_hint__»
 refine Aa (Bj (a:=B9 it) rfl ?_)
 refine Aa (A5 ho hd (x:=.ref l) rfl ?_)
 refine Aj (if_neg (show ¬((B9 l==Bh)=true) from AH)) ?_
 refine Aa (len_tuple hl (DU za (.num 9223372036854775808) [.l za (.num 16777216)] As (Am.2 hsz)) ?_)
 refine Aa (Ac ?_)
 dsimp only
 refine Aa (A5 (s:={s with toks:=s.toks+1+1}) ho hd (x:=AU ((items.size:Int)-1)) rfl ?_)
 refine(?_:Av _ _ (if (items.size:Int)<(items.size:Int)-1+1 then _ else _) _ _ _)
 refine Aj (if_neg (Bu.2 (BV (.add (.sub za (.num 1)) (.num 1)) za [] As))) ?_
 refine Aj (show(items.size:Int)-1+1=(items.size:Int) from B0 (BV (.add (.sub za (.num 1)) (.num 1)) za [] As) (BV za (.add (.sub za (.num 1)) (.num 1)) [] As)) ?_
 refine Aa (wpAny_mkInt ?_)
 exact Ac (Bn _ rfl (hQ _ _))
theorem TJ(hit:F9 s.heap it l ((items.size:Int)-1))(hl:IsTup s.heap l items)(hsz:items.size<=2 ^ 24)
  (hQ:∀b tk,Q b {s with toks:=tk}):Av (AD prog w) A (BZ (.ref it)) Q E s:=by
 have hT:=hit.typeIs
 unfold BZ
 refine Aa (Bv hT F0.no_rev_len ?_)
 refine Bk (fun hab=>absurd hab (by decide)) (fun ø=>?_)
 refine Bk (fun hab=>absurd hab (by decide)) (fun ø=>?_)
 refine Aa (Bv hT F0.slot_rev_hint.lookup ?_)
 generalize hid:("reversed.__length_hint__":String)=id0
 wp_delta
 refine Aj (show splitId id0=some ("reversed","__length_hint__") from by subst hid;decide+kernel) ?_
 subst hid
 refine Aa (Dd (T:="reversed") (b:=true) hT (by rw[C8];kernel_rfl) ?_)
 refine Bk (fun hab=>absurd hab (by decide)) (fun ø=>?_)
 refine Bk (fun hab=>absurd hab (by decide+kernel)) (fun ø=>?_)
 refine Aa (CU ?_)
 have hb:=F0.slot_rev_hint.bind (.ref it)
 refine Aj hb ?_
 refine Aa (Ac ?_)
 refine Aa (C2 (LU hit hl hsz fun tk tk'=>?_))
 generalize hk:(items.size:Int)=k
 have h1:0<=k:=MO (.num 0) za [.e zb za,.l (.num 0) zb] As hk (AE _)
 have h2:k<=2 ^ 24:=MO za (.num 16777216) [.f zb za,.l zb (.num 16777216)] As hk (Am.2 hsz)
 clear hk
 refine Aa (Bj (a:=some k) rfl ?_)
 refine(?_:Av _ _ (if (!Builtin.List.listFitsIndex k)=true then _ else if k<0 then _ else if BO k.toNat=true then _ else _) _ _ _)
 refine Aj (if_neg (by simp[Ax.List.listFitsIndex];exact⟨BV (.neg (.num 9223372036854775808)) za [.l (.num 0) za] As h1,DU za (.num 9223372036854775808) [.l za (.num 16777216)] As h2⟩)) (Aj (if_neg (Bu.2 (BV (.num 0) za [.l (.num 0) za] As h1))) (Aj (if_neg (by simp[BO,Bp];exact BV za (.num 16777216) [.l za (.num 16777216)] As h2)) ?_))
 exact Ac (hQ _ _)
end
section
variable {prog:B7}{w:Cc}{A:Bt}{E:Ab->Ae->Prop}{s:Ae}{R:Result->Ae->Prop}
theorem Oh{T:String}{I:Ai}{fp:List Ai}{n:Nat}{P:Nat->Ab->Prop}{St:Nat->Ah->Prop}(Wk:Walks prog w A.in1 I fp [I] n P St)(hTn:(Ds T==Ds "list")=false/\(Ds T==Ds "tuple")=false)
  (hTy:s.TypeIs (.ref I) T) (hI:I∈fp) (hint:∀(Q:Bool->Ae->Prop) (E:Ab->Ae->Prop),(∀b tk,Q b {s with toks:=tk})->Av (AD prog w) A.in1 (BZ (.ref I)) Q E s)
  {S:Ai} (hSf:S∉fp) {acc:Array Ab} {c:Nat} {res:Ab} (hn:acc.size+n<Bp) (hst:St 0 s.heap) (hS:s.heap.get? S=some {cls:=.type "list",dict:=none,data:=.seq acc c,slots:=#[]})
  (hR:∀h' tk acc' c',(∀b o,b≠S->b≠I->s.heap.get? b=some o->h'.get? b=some o)->h'.get? S=some {cls:=.type "list",dict:=none,data:=.seq acc' c',slots:=#[]}->acc'.size=acc.size+n->(∀i,i<acc.size->acc'[i]?=acc[i]?)->(∀i v,acc'[acc.size+i]?=some v->P i v)->R (.ok (.ret res)) {s with heap:=h',toks:=tk}):
  Av (AD prog w) A.in1 (Bm (.ref S) (.ref I) res)
   (fun fin s'=>match fin with | .done f=>R (.ok f) s' | .again c'=>c'.quiet=true/\BY (AD prog w) A c' R s') (fun e s'=>R (.error e) s') s:=by
 have hSI:S≠I:=fun q=>hSf (q▸hI)
 unfold Bm
 refine Aa (EC (T:=T) hTy ?_)
 have h1:C1 (.ref S) (.ref I)=false:=by simp[C1,hSI]
 simp only[h1,hTn.1,hTn.2,Bool.or_false,C0,if_false]
 refine Aa (Wk.self 0 _ _ _ hst ?_)
 refine Aa (Au (hint _ _ fun b tk=>?_))
 have key:∀h tk c₁,St 0 h->(∀b o,b≠S->s.heap.get? b=some o->h.get? b=some o)->h.get? S=some {cls:=.type "list",dict:=none,data:=.seq acc c₁,slots:=#[]}->
   BY (AD prog w) A (.builtin "list.extend.loop" ⟨[.ref S,.ref I,res],[]⟩) R {s with heap:=h,toks:=tk}:=fun h tk c₁ st1 hk hS1=>
  T4 (s:={s with heap:=h,toks:=tk}) Wk hSf (CB hn) st1 hS1 fun h' tk' acc' c' k1 k2 k3 k4 k5=>hR h' tk' acc' c' (fun b o hb hi e=>k1 b o hb (by simpa using hi) (hk b o hb e)) k2 k3 k4 k5
 refine Bk (fun ø=>?_) (fun ø=>Ac ⟨plainId_quiet K9 _,key _ _ c hst (fun b o ø e=>e) hS⟩)
 refine Aa (CU ?_)
 refine Aa ?_
 have hpz:(acc.push Bh).size<=Bp+1:=by rw[Array.size_push];exact Fc (Lp xa (.num 1)) (Lp xb (.num 1)) [.t (Lp xa xc) xb] As hn
 refine Aa (F8 (s:={s with toks:=tk}) (hz:=Fc xa xb [.t (Lp xa xc) xb] As hn) (_hz':=hpz) hS rfl ?_)
 have hS₂:=A8 (CG (·.push Bh)) hS rfl
 refine F8 (hz:=by rw[Array.size_push];exact Fc (Lp xa (.num 1)) xb [.t (Lp xa xc) xb] As hn) (_hz':=by rw[Array.size_pop,Array.size_push];exact OP xa (Lp xb (.num 1)) [.l xa (Lp xc (.num 1)),.t (Lp xc xd) xb] As (DK _ _) hn) hS₂ rfl ?_
 have hS₃:=A8 (CG (·.pop)) hS₂ rfl
 refine Ac ⟨plainId_quiet K9 _,key _ _ _ ?_ (fun b o hb e=>?_) (by simpa [CG] using hS₃)⟩
 ·refine Wk.frame 0 _ _ hst fun b hb o e=>?_
  have hbS:b≠S:=fun h=>hSf (h▸hb)
  exact(A1 _ _ (BB hbS)).trans ((A1 _ _ (BB hbS)).trans e)
 ·exact(A1 _ _ (BB hb)).trans ((A1 _ _ (BB hb)).trans e)
theorem VY{S l:Ai}{T:String}{o:Df}{acc items:Array Ab}{n c:Nat}{res:Ab}(hT:T="list"\/T="tuple")
  (hS:s.heap.get? S=some {cls:=.type "list",data:=.seq acc c}) (ho:s.heap.get? l=some o) (hc:o.cls=.type T) (hd:o.data=.seq items n) (hn:acc.size+items.size<Bp)
  (hR:∀h' c',AA S s.heap h'->h'.get? S=some {cls:=.type "list",data:=.seq (acc++items) c'}->R (.ok (.ret res)) {s with heap:=h'}):
  Av (AD prog w) A.in1 (Bm (.ref S) (.ref l) res)
   (fun fin s'=>match fin with | .done f=>R (.ok f) s' | .again c'=>c'.quiet=true/\BY (AD prog w) A c' R s') (fun e s'=>R (.error e) s') s:=by
 unfold Bm
 refine Aa (EC (Bn o ho hc) ?_)
 have h1:(C1 (.ref S) (.ref l)||Ds T==Ds "list"||Ds T==Ds "tuple")=true:=by
  rcases hT with rfl | rfl<;>simp
 simp only[h1,if_true]
 refine Aa ?_
 unfold D6
 refine Aa (BU ho hd (Ac ?_))
 refine Aa ?_
 refine Aa (BU hS rfl (Ac ?_))
 have hlt:BO (acc.size+items.size)=false:=by
  unfold BO
  simp;exact Fc (Lp xa xb) xc [.t (Lp xa xb) xc] As hn
 refine Bk (fun hab=>absurd hab (by rw[hlt,Bool.and_false];exact AH)) (fun ø=>?_)
 refine Aa (F8 (hz:=Fc xa xb [.t (Lp xa xc) xb] As hn) (_hz':=by refine Aj DS ?_;exact Fc (Lp xa xb) (Lp xc (.num 1)) [.t (Lp xa xb) xc] As hn) hS rfl ?_)
 have hS2:=A8 (CG (·++items)) hS rfl
 exact Ac (hR _ (if items=#[] then c else c+1) (BD ..) (by simpa [CG] using hS2))
end
section
variable {prog:B7}{w:Cc}{A:Bt}{E:Ab->Ae->Prop}{s:Ae}
theorem J4{S:Ai}{x:Ab}{Q:Ab->Ae->Prop}(hT:s.TypeIs (.ref S) "list")
  (h:Av (AD prog w) A.in1 (Bm (.ref S) x .none)
   (fun fin s'=>match fin with | .done f=>wants Q E (.ok f) s' | .again c'=>c'.quiet=true/\BY (AD prog w) A c' (wants Q E) s') (fun e s'=>wants Q E (.error e) s') s):
  Av (AD prog w) A (call (.builtin "list.extend") [.ref S,x]) Q E s:=by
 refine Eh (Fq PySem.F.slot_list_extend.plain PySem.F.entry_list_extend (PySem.F.slot_list_extend.check _ _ _ _ _ _ _ _ hT (PySem.F.args_list_extend_2 _ _) ?_))
 refine A4 h (fun fin s' h'=>?_) fun e s' h'=>?_
 ·induction fin with
  |done f=>exact h'
  |again c'=>exact h'
 ·exact h'
end
section
variable {prog:B7}{w:Cc}{A:Bt}{E:Ab->Ae->Prop}{s:Ae}{R:Result->Ae->Prop}
noncomputable def J2(h:Ah)(I l:Ai)(items:Array Ab):Prop:=(h.IsRevIter I l ((items.size:Int)-1)/\h.IsList l items)\/(F9 h I l ((items.size:Int)-1)/\IsTup h l items)
theorem J2.keep(x:J2 h I l items)(k1:∀o,h.get? I=some o->h'.get? I=some o)(k2:∀o,h.get? l=some o->h'.get? l=some o):J2 h' I l items:=by
 rcases x with⟨a,b⟩ | ⟨a,b⟩
 ·exact .inl ⟨a.at k1,b.at k2⟩
 ·exact .inr ⟨AO a fun o ho r=>⟨o,k1 _ ho,r⟩,AO b fun o ho r=>(Bn o (k2 _ ho) r)⟩
theorem J2.ne(x:J2 h I l items):l≠I:=by
 rcases x with⟨⟨o,ho,hc,_⟩,⟨o',ho',hc',_⟩⟩ | ⟨⟨o,ho,hc,_⟩,⟨o',ho',hc',_⟩⟩<;>(intro q;rw[q,ho] at ho';obtain rfl:=Ad ho';rw[hc] at hc';simp at hc')
theorem Q8(hh:A.handled=none){I l S:Ai}{items acc:Array Ab}{c:Nat}{res:Ab}(x:J2 s.heap I l items)(hsz:items.size<=2 ^ 24)(hSI:S≠I)(hSl:S≠l)(hn:acc.size+items.size<Bp)
  (hS:s.heap.get? S=some {cls:=.type "list",data:=.seq acc c})
  (hR:∀h' tk acc' c',(∀b o,b≠S->b≠I->s.heap.get? b=some o->h'.get? b=some o)->h'.get? S=some {cls:=.type "list",data:=.seq acc' c'}->acc'.toList=acc.toList++items.toList.reverse->R (.ok (.ret res)) {s with heap:=h',toks:=tk}):
  Av (AD prog w) A.in1 (Bm (.ref S) (.ref I) res)
   (fun fin s'=>match fin with | .done f=>R (.ok f) s' | .again c'=>c'.quiet=true/\BY (AD prog w) A c' R s') (fun e s'=>R (.error e) s') s:=by
 have hne:=x.ne
 have hSf:S∉[I,l]:=by simp[hSI,hSl]
 have fin:∀acc':Array Ab,acc'.size=acc.size+items.size->(∀i,i<acc.size->acc'[i]?=acc[i]?)->(∀i v,acc'[acc.size+i]?=some v->items[items.size-1-i]?=some v)->acc'.toList=acc.toList++items.toList.reverse:=fun acc' h1 h2 h3=>by
  refine Ze (by simp[h1]) h2 fun i v e=>?_
  have hi:i<items.size:=by
   have:acc.size+i<acc'.size:=by
    rcases Fo (acc.size+i) acc'.size with q | q
    ·exact q
    ·replace e:=Cj q▸e;exact nomatch e
   exact Xj xa xb [.t (Lp xc xa) xd,.e xd (Lp xc xb)] As this h1
  have:=h3 i v e
  refine Aj (List.getElem?_reverse (by simpa using hi)) ?_
  simpa using this
 rcases x with⟨a,b⟩ | ⟨a,b⟩
 ·refine Oh (T:="list_reverseiterator") (Walks.listRev (A:=A.in1) hh I l hne items) (by decide) a.typeIs (by simp) (fun Q E hQ=>TH a.typeIs (hQ false s.toks)) hSf hn ⟨A3 _,by simpa using a,b⟩ hS fun h' tk acc' c' k1 k2 k3 k4 k5=>hR h' tk acc' c' k1 k2 (fin acc' k3 k4 k5)
 ·refine Oh (T:="reversed") (Sk (A:=A.in1) hh I l hne items hsz) (by decide) a.typeIs (by simp) (fun Q E hQ=>TJ a b hsz fun b tk=>hQ b tk) hSf hn ⟨A3 _,by simpa using a,b⟩ hS fun h' tk acc' c' k1 k2 k3 k4 k5=>hR h' tk acc' c' k1 k2 (fin acc' k3 k4 k5)
theorem LS(hh:A.handled=none)(x:J2 s.heap I l items)(hsz:items.size<=Ap)
  (hQ:∀h' tk acc' c',(∀b o,b≠I->s.heap.get? b=some o->h'.get? b=some o)->h'.get? s.heap.objs.size=some {cls:=.type "list",data:=.seq acc' c'}->acc'.toList=items.toList.reverse->Q (.ref s.heap.objs.size) {s with heap:=h',toks:=tk}):
  Av (AD prog w) A (call (.type "list") [.ref I]) Q E s:=by
 have hI:I≠s.heap.objs.size:=by
  rcases x with⟨⟨o,ho,_⟩,_⟩ | ⟨⟨o,ho,_⟩,_⟩<;>exact AW (AB ho)
 have hl:l≠s.heap.objs.size:=by
  rcases x with⟨_,⟨o,ho,_⟩⟩ | ⟨_,⟨o,ho,_⟩⟩<;>exact AW (AB ho)
 refine callType_codes (Q₁:=fun obj s₁=>obj=.ref s.heap.objs.size/\s₁={s with heap:=s.heap.push {cls:=.type "list",data:=.seq #[]}}) PySem.F.called_list (PySem.F.typeCall_list_1 _) PySem.F.entry_list_init
  (code_list_new _ ⟨rfl,rfl⟩) fun obj s₁ h₁=>?_
 obtain⟨rfl,rfl⟩:=h₁
 have hS:(s.heap.push {cls:=.type "list",data:=.seq #[]}).get? s.heap.objs.size=some {cls:=.type "list",data:=.seq #[]}:=Az _ rfl
 refine⟨(Bn _ hS rfl),PySem.F.args_list_init_2 _ _,?_⟩
 show Av _ A.in1.in1 (do let old <-D6 (.ref _);Ax.List.listUpdate (.ref _) (fun ø=>#[]);letGo old.toList.reverse;Bm (.ref _) (.ref I) .none) _ _ _
 refine Aa ?_
 unfold D6
 refine Aa (BU hS rfl (Ac ?_))
 refine Aa (F8 hS rfl ?_)
 have hS₂:=A8 (CG (fun ø=>(#[]:Array Ab))) hS rfl
 have oth:∀b o,b≠s.heap.objs.size->s.heap.get? b=some o->((s.heap.push {cls:=.type "list",data:=.seq #[]}).update s.heap.objs.size (CG (fun ø=>(#[]:Array Ab)))).get? b=some o:=
  fun b o hb e=>(A1 _ _ (BB hb)).trans (Af _ e)
 refine Aa (wpAny_letGo ?_)
 have h24:items.size<2 ^ 24:=by unfold Ap at hsz;exact V7 xa (.num 16777216) [.l xa (.num 1000000)] As hsz
 refine Q8 (A:=A.in1) hh (acc:=#[]) (x.keep (fun o e=>oth _ _ hI e) (fun o e=>oth _ _ hl e)) (CB h24) hI.symm hl.symm (by show 0+items.size<Bp;unfold Bp;exact V7 (Lp (.num 0) xa) (.num 16777216) [.t xa (.num 16777216)] As h24) hS₂ fun h' tk acc' c' k1 k2 k3=>?_
 exact⟨rfl,hQ h' tk acc' c' (fun b o hb e=>k1 b o (AW (AB e)) hb (oth b o (AW (AB e)) e)) k2 (by simpa using k3)⟩
end
section
variable {T:Txt}{g:Act T}{fr:Internal.Fr}{σ τ:Sg g fr}{Q:QV}{X:EV}{E:Ab->Ae->Prop}{a b e o:Internal.E}{x xo xa xb:Expr}{id id2:Ao}{p pos p2 pos2 apos:Pos}{mu_:Bool}
theorem MQ{A:Bt}{s:Ae}{env:Env}{Q:List Ab->Ae->Prop}(hs:Bf x=true)(h:Av T.W.M A (FO x env) (fun v s'=>Q [v] s') E s):Av T.W.M A (spliced (GO pos (Du [x] env))) Q E s:=by
 refine Aj (H9 hs) ?_
 exact Iv (A4 h (fun v s' h'=>II h') fun ø ø e=>e)
theorem Qs.is{na:Na}{h₀ h:Ah}{ρ:Ce}{xs:List V}{I:Ai}(x:Qs na h₀ h ρ xs I)(k:∀b o,h₀.get? b=some o->h.get? b=some o):
  ∃l items,J2 h I l items/\B8 (Kd na h₀ ρ) ρ xs items.toList/\(∃o,Kd na h₀ ρ l o)/\h₀.get? I=none:=by
 rcases x with⟨l,o1,o,vs,m,a1,a2,a3,a4⟩ | ⟨l,o1,o,vs,m,a1,a2,a3,a4⟩
 ·refine⟨l,vs,.inl ⟨(EN _ o1.2.1 rfl (?_)),⟨o,k _ _ a1.1.1,a2,m,a3⟩⟩,a4,⟨o,a1⟩,o1.1⟩
  rw[show xs.length=vs.size from a4.length.symm]
 ·refine⟨l,vs,.inr ⟨(EN _ o1.2.1 rfl (?_)),⟨o,k _ _ a1.1.1,a2,m,a3⟩⟩,a4,⟨o,a1⟩,o1.1⟩
  rw[show xs.length=vs.size from a4.length.symm]
theorem ZC(k:Et T)(hg:L8 T "list" id=true)(hs:Bf x=true)(ha:AS T e x):AS T (.copy mu_ e) (.Call (.Name id p) [x] [] pos):=fun g fr σ Q X h=>
 FS k hg (by simp[hs]) (Eo hs ha FW) σ (Q:=fun vs H=>v1 vs fun v=>Yo H v fun ys=>ys.length<=Ap/\Vb mu_ ys H Q) h fun υ vs us S r q=>v1.er q r fun v u r q=>Yo.el q υ.hr r fun ys l o vs n h1 h2 h3 h4 zz=>Cd zz fun hl q=>by
  have ln:=h4.length
  rw[Aq] at ln
  have hT:∃T,(T="list"\/T="tuple")/\o.cls=.type T:=h2.elim (fun q=>⟨_,.inl rfl,q⟩) fun q=>⟨_,.inr rfl,q⟩
  refine AO hT fun T hT hc=>?_
  exact call_list_seq l hT h1 hc h3 (fun h' c' k hn=>S.mkl (s':={υ.s with heap:=h'}) ⟨rfl,rfl⟩ k (AG _) hn h4 q) (ln▸Hi hl)
theorem RZ(k:Et T)(hg:L8 T "list" id=true)(hg2:L8 T "reversed" id2=true)(hs:Bf x=true)(ha:AS T e x):AS T (.listRev mu_ e) (.Call (.Name id p) [.Call (.Name id2 p2) [x] [] pos2] [] pos):=fun g fr σ Q X h=>
 AO (Fz.load k hg) fun u e l=>
 HB (l σ (by
  refine Aj (A6 e) ?_
  refine callWith_of (P:=fun ø=>True) (by rfl) (fun h ø=>Bn .machine (.inr (.inl rfl)) (Looks.of_pure rfl)) (Gk (by rfl) (MQ (by rfl) (Lq k hg2 hs ha σ (Q:=fun ys H=>Vb mu_ ys H Q) h fun hh xs τ I s' hl S q r2 k2 x=>⟨trivial,?_⟩)))
  refine cM (x.is k2) fun l items x rv ø hI=>?_
  have ln:=rv.length
  rw[Aq] at ln
  refine LS (CW hh (τ:=τ)) x (ln▸hl) fun h' tk acc' c' k h1 h2=>S.mkl (s':={s' with heap:=h',toks:=tk}) (r2.trans ⟨rfl,rfl⟩) (fun b o e=>k b o (fun q=>by replace e:=hI▸(q▸e);cases e) (k2 b o e)) ?_ h1 (h2▸rv.rev) q
  cases z:τ.s.heap.get? s'.heap.objs.size with
  |none=>rfl
  |some o=>exact absurd (AB (k2 _ _ z)) (EH _)))
theorem fJ(hs:Bf xa=true)(ha:AS T a xa)(hb:AS T b xb):AS T (.rep a b) (.BinOp (.List [xa] p) .Mult xb pos):=fun g fr σ Q X h=>
 wpAny_BinOp (wpAny_List (MQ hs (sq (.refl σ) (ha g fr σ _ _ h) fun τ v u S rv h=>⟨(by decide:1<=Bp),sq (S.trans (τ.to_push {cls:=.type "list",data:=.seq [u].toArray})) (hb g fr (τ.push _) _ _ h) fun υ y w S3 ry h=>vInt.el h ry fun k t zz=>Cd zz fun hk q=>by
  obtain⟨m,hm⟩:=(υ.hr.nam _ g.ok.loc).2.2
  have hk2:=hk.2
  unfold Ap at hk2
  have ho:=(S3.stp.kn _ _ ((τ.hr.pushed _).2.2 rfl)).1
  refine mul_list (X8 hm) (XS υ.s.heap g.ct.env.locals) ho (BV (.neg (.num 9223372036854775808)) za [.l (.num 0) za] As zz.1.1) (DU za (.num 9223372036854775808) [.l za (.num 1000000)] As hk2) (by simp;exact BV za (.num 16777216) [.l za (.num 1000000)] As hk2) fun h' F' N'=>?_
  have hkeep:∀b o,b≠g.ct.env.locals->υ.s.heap.get? b=some o->h'.get? b=some o:=fun b o hb e=>RW (x:=[(υ.s.heap.objs.size,_)]) N' b o hb e
  have hns:∀a∈g.ct.na.l,∀m,υ.s.heap.Ns a m->h'.Ns a m:=fun a ha m' hn'=>by
   by_cases q:a=g.ct.env.locals
   ·subst q
    exact Aj (FU hn' hm) F'.1
   ·exact hn'.at' fun o e=>hkeep a o q e
  have hnl:∀b,b∉g.ct.na.l->b≠g.ct.env.locals:=fun b hb q=>hb (q▸g.ok.loc)
  have f3:=AG υ.s.heap
  have hx3:(List.foldl (fun x1 x2=>x1++x2) #[] (Bz (if ([u].toArray:Array Ab).isEmpty=true then 0 else k.toNat) [u].toArray)).toList=Bz k.toNat u:=by
   rw[if_neg (by simp),listMul_foldl]
   exact lm_rep_flat_one u k.toNat
  have S0:=M4 (ρ:=υ.ρ) (p:=(υ.s.heap.objs.size,υ.s.heap.objs.size)) (fun b o hb=>hkeep b o (hnl b hb)) hns f3 f3
  obtain⟨R',S',at_⟩:=υ.hr.push (p:=(υ.s.heap.objs.size,υ.s.heap.objs.size)) (o:=.list (Bz k.toNat v)) (h':=h') (fun b x hb=>hkeep b x (hnl b hb)) hns f3 f3
   ⟨rfl,_,⟨_,(N' _ (.head _)).1⟩,Aj hx3 (B8.rep (S0.vr (S3.v ((τ.to_push _).v rv))) _)⟩
  exact((S.trans (τ.to_push _)).trans S3).end (s':={υ.s with heap:=h'}) ⟨rfl,rfl⟩ S' R' (.ref at_) q⟩)))
noncomputable abbrev I8:Ao:=⟨#[101,120,116,101,110,100]⟩
theorem Q7(S:σ.To τ){i:Nat}{p:Ai×Ai}{xs ys:List V}{acc':Array Ab}{us:List Ab}{c':Nat}{s':Ae}(r:CO τ.s s')(hp:τ.ρ[i]?=some p)(hpp:p.2=p.1)(hk:∀b o,b≠p.1->τ.s.heap.get? b=some o->s'.heap.get? b=some o)
  (hn:s'.heap.get? p.1=some {cls:=.type "list",data:=.seq acc' c'}) (hu:B8 τ.k τ.ρ (xs++ys) us) (he:acc'.toList=us) (q:Q .none (τ.H.set i (.list (xs++ys)))):σ.P RV Q .none s':=
 Cd (τ.upd_list (o:=.list (xs++ys)) (h':=s'.heap) hp hk fun kd=>⟨hpp,acc',⟨c',hn⟩,Aj he (hu.mono kd (.refl _))⟩) fun R' S'=>
 S.end r S' R' .none q
theorem KH(hb:Eu xo=true)(hl:(apos.endLine==pos.line)=true)(hs:Bf x=true)(ho:AS T o xo){it:It}(σ:Sg g fr)(h:vE T.C (.extend o it) fr σ.H Q X)
  (k:∀(τ:Sg g fr) i p,σ.To τ->τ.ρ[i]?=some p->vI T.C it fr τ.H (fun ys H=>T.C.hd=false/\DI H i fun xs=>xs.length+ys.length<=Ap/\Q .none (H.set i (.list (xs++ys)))) X->
   τ.wp (FO x g.ct.env) (fun v s'=>Av T.W.M g.ct.A (call (.builtin "list.extend") [.ref p.1,v]) (σ.P RV Q) (σ.E X) s') (σ.E X)):
  σ.wp (FO (.Call (.Attribute xo I8 apos) [x] [] pos) g.ct.env) (σ.P RV Q) (σ.E X):=
 J5 hb hl (by simp[hs]) (by simp) fun pl=>sq (.refl σ) (ho g fr σ _ _ h) fun τ v u S r h=>HL.el h r fun i p hp h=>DI.el h fun zs e h=>by
  refine Cd (M3 (τ.hr.rep _ _ _ hp e)) fun hT hnd=>?_
  exact Cp hT FL PySem.F.slot_list_extend PySem.F.type_list_extend hnd
   (callWith_of (P:=fun ø=>True) (by refine Aj (Ju (by simp[hs])) ?_;rfl) (fun h ø=>Bn .machine (.inr (.inl rfl)) (Looks.of_pure rfl)) (Gk (by simp[hs]) (MQ hs (A4 (k τ i p S hp h) (fun v s' q=>⟨trivial,q⟩) fun ø ø x=>x))))
theorem Uy(hb:Eu xo=true)(hl:(apos.endLine==pos.line)=true)(hs:Bf x=true)(ho:AS T o xo)(ha:AS T e x):AS T (.extend o (.it e)) (.Call (.Attribute xo I8 apos) [x] [] pos):=fun g fr σ Q X h=>
 KH hb hl hs ho σ h fun τ i p S hp h=>sq S (ha g fr τ _ _ h) fun υ v u S2 r h=>JV.el h r fun ys l ob vs m q1 q2 q3 q4 zz=>Cd zz fun ø h=>DI.el h fun xs e zz=>Cd zz fun hlen q=>by
  have hp2:=S2.stp.le _ _ hp
  refine FN fun g0 k0=>?_
  obtain⟨hpp,us,⟨c,hlp⟩,rr⟩:=υ.hr.rep i p _ hp2 e
  refine k0 ?_
  have ln:=rr.length
  have lv:=q4.length
  rw[Aq] at ln lv
  obtain⟨T',hT',hc⟩:∃T',(T'="list"\/T'="tuple")/\ob.cls=.type T':=q2.elim (fun q=>⟨_,.inr rfl,q⟩) fun q=>⟨_,.inl rfl,q⟩
  exact J4 (Bn _ hlp rfl) (VY hT' hlp q1.1.1 hc q3 (by unfold Ap at hlen;unfold Bp;exact Xj (Lp xa xb) (.num 16777216) [.e xa xc,.e xb xd,.l (Lp xc xd) (.num 1000000)] As ln lv hlen) fun h' c' hs' hn=>
   Q7 (S.trans S2) (s':={υ.s with heap:=h'}) ⟨rfl,rfl⟩ hp2 hpp (fun b o q e=>(hs'.2 b q).trans e) hn (rr.app q4) (by exact Aj HM rfl) q)
theorem RY(k:Et T)(hg:L8 T "reversed" id=true)(hb:Eu xo=true)(hl:(apos.endLine==pos.line)=true)(hs:Bf x=true)(ho:AS T o xo)(ha:AS T e x):AS T (.extend o (.rev e)) (.Call (.Attribute xo I8 apos) [.Call (.Name id p2) [x] [] pos2] [] pos):=fun g fr σ Q X h=>
 KH hb hl (by rfl) ho σ h fun τ i p S hp h=>A4 (Lq (G:=fun v s'=>Av T.W.M g.ct.A (call (.builtin "list.extend") [.ref p.1,v]) (σ.P RV Q) (σ.E X) s') k hg hs ha τ (Q:=fun ys H=>T.C.hd=false/\DI H i fun xs=>xs.length+ys.length<=Ap/\Q .none (H.set i (.list (xs++ys))))
  h fun hh ys υ I s' hyl S2 q r2 k2 x=>DI.el q.2 fun xs e zz=>Cd zz fun hlen q=>by
   refine FN fun g0 k0=>?_
   refine cM (x.is k2) fun l items x rv zz1 hI=>Eb zz1 fun ol hol=>?_
   refine k0 ?_
   have hp2:=S2.stp.le _ _ hp
   refine FN fun g0 k0=>?_
   obtain⟨hpp,us,⟨c,hlp⟩,rr⟩:=υ.hr.rep i p _ hp2 e
   refine k0 ?_
   have ln:=rr.length
   have lv:=rv.length
   rw[Aq] at ln lv
   rw[B5] at hlen
   have hlp3:=k2 _ _ hlp
   exact J4 (Bn _ hlp3 rfl) (Q8 (CW hh (τ:=υ)) x (by unfold Ap at hyl;exact CY xa (.num 16777216) [.e xa xb,.l xb (.num 1000000)] As lv hyl) (fun q=>by replace hI:=hlp▸(Eq.symm q▸hI);cases hI) (fun q=>hol.1.2.1 (Bn p (A2 hp2) (.inl q.symm))) (by unfold Ap at hlen;unfold Bp;exact Xj (Lp xa xb) (.num 16777216) [.e xa xc,.e xb xd,.l (Lp xc xd) (.num 1000000)] As ln lv hlen) hlp3 fun h' tk acc' c' k4 h1 h2=>
    Q7 (S.trans S2) (s':={s' with heap:=h',toks:=tk}) (r2.trans ⟨rfl,rfl⟩) hp2 hpp (fun b o hb e=>k4 b o hb (fun q=>by replace e:=hI▸(q▸e);cases e) (k2 _ _ e)) h1 (rr.app rv.rev) h2 q)) (fun ø ø x=>x) fun ø ø x=>S.x x
end
section
variable {W:Hx}{n:Nat}{ct:Ct}{h₀:Ah}{c:Ao}{H':MH}{e:Ab}{s':Ae}{Rr:Ah->Ce->Prop}
noncomputable def Er(W:Hx)(ct:Ct)(h₀:Ah)(Rr:Ah->Ce->Prop)(c:Ao)(H':MH)(e:Ab)(s':Ae):Prop:=
 ∃a ρ' fl,e=.ref a/\Rr s'.heap ρ'/\HR W.w W.hb ct.na s'.heap ρ' H'/\Ex h₀ s'.heap ct.na ρ' a c fl/\Yp ct fl
structure V4 (W:Hx)(ct:Ct)(h₀:Ah)(Rr:Ah->Ce->Prop):Prop where
 old:∀a o,W.hb.get? a=some o->h₀.get? a=some o
 frh:∀h ρ,Rr h ρ->iD ct.na h₀ h ρ
 ed:∀h h' ρ,K4 ct.na h₀ h h'->Rr h ρ->Rr h' ρ
theorem W6{E:Ab->Ae->Prop}{P:Unit->Ae->Prop}(ok:GS n ct)(x:V4 W ct h₀ Rr)(er:Er W ct h₀ Rr c H' e s')(k:∀s'',CO s' s''->Er W ct h₀ Rr c H' e s''->P () s''):Av W.M ct.A (noteFrame e ct.env) P E s':=by
 refine Ss er fun a ρ' fl eq3 S hr ex f=>?_
 clear er;subst eq3
 exact Ku ok hr x.old (x.frh _ _ S) ex f fun h' ed hr' x'=>k {s' with heap:=h'} ⟨rfl,rfl⟩ (Sv a ρ' _ rfl (x.ed _ _ _ ed S) hr' x' (.inr (.inr rfl)))
theorem Mu{E:Ab->Ae->Prop}{P:Unit->Ae->Prop}(ok:GS n ct)(x:V4 W ct h₀ Rr)(er:Er W ct h₀ Rr c H' e s')
  (k:∀a ρ' s'',e=.ref a->CO s' s''->Rr s''.heap ρ'->HR W.w W.hb ct.na s''.heap ρ' H'->Ex h₀ s''.heap ct.na ρ' a c (some .none)->P () s''):
  Av W.M ct.A (noteFrame e ct.env) (fun ø s₂=>Av W.M ct.A (setFlight e none) P E s₂) E s':=by
 refine Ss er fun a ρ' fl eq3 S hr ex f=>?_
 clear er;subst eq3
 exact Ku ok hr x.old (x.frh _ _ S) ex f fun h' ed hr' x'=>FT (s:={s' with heap:=h'}) (fr:=none) hr' x.old x' fun h2 ed2 hr2 x2=>k a ρ' _ rfl ⟨rfl,rfl⟩ (x.ed _ _ _ (ed.trans ed2) S) hr2 x2
end
noncomputable def Txt.hd1(T:Txt):Txt:={T with C:={T.C with hd:=true}}
section
variable {T:Txt}{g:Act T}{fr:Internal.Fr}
noncomputable def Act.mark(g:Act T)(e:Ab):Act T.hd1:=⟨{g.ct with A:=g.ct.A.mark (some e)},⟨⟨g.ok.frames,g.ok.fna,g.ok.depth,g.ok.units⟩,g.ok.head,g.ok.envf,g.ok.loc,g.ok.glob,g.ok.blt,g.ok.kind⟩,⟨g.cs.cinj,g.cs.cnew,g.cs.inj,g.cs.fn⟩,g.hx,g.hsc⟩
theorem Ex.hdl{h₀:Ah}{s:Ae}{ρ:Ce}{a:Ai}{c:Ao}{fl:Option Ab}(x:Ex h₀ s.heap g.ct.na ρ a c fl):OW (g.mark (.ref a)).ct.A g.ct.na s.heap ρ true:=
 aW x fun oe vs ø ø xe ø xi ø=>RP a oe vs rfl ⟨xe.at_,xe.mu_,xe.na_⟩ xi.data xi.ctx
theorem Ex.stay(τ:Sg g fr)(x:Ex h₀ τ.s.heap g.ct.na τ.ρ e c fl)(S:Ca g.ct τ.s.heap τ.ρ h' ρ'):Ex h₀ h' g.ct.na ρ' e c fl:=
 x.map fun a o nc e=>
  have k:=S.kn a o (fun q=>AO (PQ τ q) fun o' e' z=>z.elim e.3 fun zz=>Eb zz fun ov d=>nc ov (by rw[e.1] at e';clear zz z;refine Aj (Ad e') ?_;exact d)) ⟨e.1,e.4,e.3⟩
  ⟨k.1,e.2,e.3,k.2.1⟩
theorem UX(S:Ca (g.mark a).ct h ρ h' ρ'):Ca g.ct h ρ h' ρ':=⟨S.le,S.kn,S.ns,S.kd,S.th⟩
theorem Sg.erP(σ:Sg g fr):V4 T.W g.ct σ.s.heap fun h ρ=>Ek g.ct.na σ.s.heap σ.ρ h ρ:=⟨σ.hr.old,fun ø ø S=>S.frh,fun ø ø ø ed S=>ed.stp S⟩
theorem Sg.erS(σ:Sg g fr):V4 T.W g.ct σ.s.heap fun h ρ=>Ca g.ct σ.s.heap σ.ρ h ρ:=⟨σ.hr.old,fun ø ø S a e n m=>S.th a m n e,fun ø ø ø ed S=>ed.sstp S⟩
theorem fA(hv:D9 v=true)(hb:DB T.X x i=true)(ha:AS T e v)(hf:Fe T final (f0::fs))(hf2:Fe T.hd1 final (f0::fs)):
  DM T (.fin [.asg i e] final) (.Try [.Assign [.Name x p] v pos] [] [] (f0::fs) pos2):=fun g fr σ N R X h=>by
 have h1:vE T.C e fr σ.H (fun v H=>AV T.C final (AC fr i v) H N (fun ø ø ø=>False) X) fun c H=>AV T.hd1.C final fr H (fun ø H=>X c H) (fun ø ø ø=>False) (fun ø ø=>False):=h
 refine wpAny_Try_finally (MM (LL (A4 (ha g fr σ _ _ h1) (fun u s1 zz=>C9 zz fun τ e1 S hz=>AO hz fun a rv q=>?_) fun e' s1 zz=>EM zz fun c H1 r1 er q=>?_) (FY hv)))
 ·-- the body comes to its end
  clear zz;subst e1
  refine DP τ hb rv fun υ up S2=>?_
  refine Ac ?_
  refine(?_:Av T.W.M g.ct.A (execs [] g.ct.env) _ _ υ.s)
  refine Ac ?_
  refine NH (iV (S.s.trans S2) (hf g _ υ N _ X (up (fun fr H=>AV T.C final fr H N (fun ø ø ø=>False) X) q)) fun fr3 ω fl S3 q=>?_)
  induction fl with
  |next=>exact((S.s.trans S2).trans S3).now (fl:=.next) q
  |ret u=>exact AO q fun ø ø z=>z.elim
  |_=>exact q.elim
 ·-- the body has raised
  refine W6 g.ok σ.erP er fun s2 r2 er2=>?_
  refine VT (id er2) fun a0 ø ø ea ø=>?_
  refine⟨Aj ea (ref_ne_byPass _),Mu g.ok σ.erP er2 fun a ρ2 s3 ha2 r3 S2 R2 x2=>?_⟩
  clear ea er2 er zz;subst ha2
  let υ:Sg (g.mark (.ref a)) fr:=⟨s3,ρ2,H1,R2,σ.st.lr.stp g.ok.loc S2,x2.hdl⟩
  refine A4 (hf2 (g.mark (.ref a)) fr υ _ _ _ q) (fun fl s4 zz=>zz.el fun fr3 ω e3 S3 qf=>?_) fun ø ø zz=>EM zz fun ø ø ø ø z=>z.elim
  clear zz;subst e3
  have S3':=(Ca.of S2).trans (UX S3.stp)
  cases fl with
  |next=>exact QM ω.hr σ.hr.old (x2.stay υ S3.stp) fun h5 ed hr5 x5=>F1 c ω.H (r1.trans (r2.trans (r3.trans (S3.rest.trans ⟨rfl,rfl⟩)))) (Sv a ω.ρ _ rfl (K4.sstp (ct:=g.ct) ed S3') hr5 x5 (Aj g.ok.envf (.inr (.inr rfl)))) qf
  |ret u=>exact AO qf fun ø ø z=>z.elim
  |_=>exact qf.elim
end
noncomputable abbrev HX:List Ab:=[.type "Exception",.type "BaseException",.type "object"]
structure V5 (K:CD)(name:Ao):Prop where
 cls:∃cd,clsIn K CE=some cd/\cd.mro=.ref CE::HX
 ga:GP K (.ref CE) "__getattribute__"=some (some (.builtin "BaseException.__getattribute__"))
 gr:GP K (.ref CE) "__getattr__"=some none
 dict:hasDictIn K CE=true
 find:GP K (.ref CE) name=some none
theorem VX{prog:B7}{w:Cc}{A:Bt}{E:Ab->Ae->Prop}{s:Ae}{K:CD}{x:Ai}{ox od:Df}{name:Ao}{expr:Bool}{v:Ab}{Q:Ab->Ae->Prop}(e:V5 K name)(X:K.In s.heap)(I:CH s.heap x ox CE (some od))
  (hl:lookIn name od=some (some v)) (hh:handedIn v=true) (hq:Q v {s with toks:=s.toks+1}):Av (AD prog w) A (getAttr (.ref x) name expr) Q E s:=by
 refine AO e.cls fun cd hc hm=>?_
 obtain⟨h,g,d,t,os⟩:=s
 have L0:=I.type (M:=AD prog w)
 have L1:=LJ (M:=AD prog w) X e.ga
 have L2:=LJ (M:=AD prog w) X e.gr
 have L3:=looks_find (M:=AD prog w) X I (findObj_own e.dict e.find rfl hl)
 have FG:=PySem.F.attr_Exception.ga
 have sub:Looks (AD prog w) h (isInstance (.ref x) (.type "BaseException")) true:=I.type.andThen (looks_mroIn X (by unfold mroIn;rw[hc,IX,hm];rfl))
 have hk:builtinKind "BaseException.__getattribute__"=some .slot:=by decide+kernel
 have hsp:splitId "BaseException.__getattribute__"=some ("BaseException","__getattribute__"):=by decide+kernel
 unfold getAttr getAttrBy
 refine Aa (wpAny_mkText (Au (Aa (L0.at (Aa (L1.at ?_))))))
 refine(?_:Av _ _ (Im (.ref x) (.str name t) (.ref CE) (.builtin "BaseException.__getattribute__") true expr) _ _ _)
 unfold Im hookBefore callGetattribute boundAndCalled
 have hx0:(expr&&onTheHeap (Ab.builtin "BaseException.__getattribute__"))=false:=by induction expr<;>rfl
 refine Aa (L2.at ?_)
 refine Aj hx0 ?_
 refine Aa (C2 (Au ?_))
 refine Aa (Bj (FG.bind _) ?_)
 refine A4 (Q:=fun u s'=>u=v/\s'=⟨h,g,d,t+1,os⟩) (E:=fun ø ø=>False) (Eh (Fq FG.plain PySem.F.entry_bexc_ga (@check_slot (AD prog w) _ _ ⟨h,g,d,t+1,os⟩ "BaseException.__getattribute__" "BaseException" "__getattribute__" (.ref x) [.str name t] [] _ hk hsp sub (PySem.F.args_bexc_ga (.ref x) (.str name t)) ?_))) (fun u s' hv=>?_) fun ø ø z=>z.elim
 ·unfold Ax.«object.__getattribute__»
  refine Aa (Ac (Aa (Ac (Aa (L0.at (Aa (L3.at (Ac ?_))))))))
  exact⟨rfl,rfl⟩
 ·clear L3 hl;obtain⟨rfl,rfl⟩:=hv
  refine(?_:Av _ _ (handedOut u) _ _ _)
  exact Aj (handedOut_of hh) (Ac hq)
section
variable {T:Txt}{g:Act T}{fr:Internal.Fr}
theorem jB.inst(x:jB c oe vs dx od)(e:Vw h₀ h na ρ a oe)(d:Vw h₀ h na ρ dx od):CH h a oe CE (some od):=
 ⟨e.at_,x.cls,by unfold notCls;exact Aj x.data rfl,Aj x.dict d.at_⟩
theorem Nr(g:Act T)(hloc:∀p∈g.ct.cx.l,g.ct.env.kindOf p.1=some .local)(R:HR T.W.w T.W.hb g.ct.na h ρ H)(hf:∀(i:Nat) (v:V),fr[i]?≠some (some v)):LR g.ct h ρ fr:=fun x i hx=>
 (R.nam _ g.ok.loc).2.2.elim fun m hm=>
 (Bn (m x) (.inl ⟨hloc _ hx,m,hm,rfl⟩) (fun v hv=>absurd hv (hf i v)))
theorem Nw{k i:Nat}{v:V}:(Bz k (none:Option V))[i]?≠some (some v):=by
 intro e
 replace e:=List.getElem?_replicate▸e
 split at e<;>exact nomatch e
theorem Uc(g:Act T)(R:HR T.W.w T.W.hb g.ct.na h ρ H)(hn:h'.Ns g.ct.env.locals m')(hs:AA g.ct.env.locals h h'):HR T.W.w T.W.hb g.ct.na h' ρ H/\Ca g.ct h ρ h' ρ:=by
 have nl:∀b,b∉g.ct.na.l->b≠g.ct.env.locals:=fun b hb q=>hb (q▸g.ok.loc)
 refine⟨R.keepsW (fun b o hb e=>(hs.2 b (nl b hb)).trans e) fun a ha zz=>Eb zz fun m hm=>?_,.refl _,fun a o ha e=>⟨(hs.2 a (fun q=>ha (Aj q (.head _)))).trans e.1,e.2⟩,fun a ha hno m e=>e.sameBut hs (fun q=>hno (Aj q (.head _))),fun a o e=>⟨⟨(hs.2 a (nl a e.1.2.2)).trans e.1.1,e.1.2⟩,e.2,e.3⟩,fun a ø hna e=>?_⟩
 ·by_cases q:a=g.ct.env.locals
  ·clear hm zz ha;subst q;exact⟨_,hn⟩
  ·exact⟨m,hm.sameBut hs q⟩
 ·exact D5 (hs.2 a (nl a hna)) e
theorem Et.hd1(k:Et T):Et T.hd1:=⟨k.wok,k.cd,k.call,k.sys,k.fld,k.meth,k.isFn⟩
theorem U2{T:Txt}{g:Act T}{fr:Internal.Fr}(ω:Sg g fr)(k:Et T)(hf:V5 T.W.K CT){x:Ao}{i:Nat}{a:Ai}{c:Ao}{h₀:Ah}{fl:Option Ab}{p2 p3 p4:Pos}(hmem:(x,i)∈T.X.cx.l)(h1:(x=="__debug__")=false)(h2:x≠"__classdict__")(hl:fr[i]?=some (some (.fn a)))
  (X:Ex h₀ ω.s.heap g.ct.na ω.ρ a c fl) {Q:Flow->Ae->Prop} {E:Ab->Ae->Prop} (q:∀t,Q (.ret (.str c t)) {ω.s with toks:=ω.s.toks+1}):ω.wp (execs [.Return (some (.Attribute (.Name x p2) CT p3)) p4] g.ct.env) Q E:=by
 refine aW X fun oe vs dx od ye yd yi ø=>Eb yi.look fun t lk=>?_
 refine MM (wpAny_Return_some ?_)
 rw[arm_eval_Attribute,MR (show Eu (.Name x p2)=true from rfl)]
 refine Aa (K0 (QF ω hmem h2 (c:=.fn a) hl fun u ru=>?_) h1)
 refine Aj ru.fn_eq ?_
 exact Aa (Bw (Aa (Au (VX hf (ω.kin k) (yi.inst ye yd) lk rfl (Aa (IP (Ac (q t))))))))
theorem fP{i:Nat}{x idE:Ao}{body:List S}{xb:List Ef}{p1 p2 p3 p4 p5 pos:Pos}(hloc:T.X.cx.l.all (fun p=>T.X.scope.names.lookup p.1==some .local)=true)(hb:DB T.X x i=true)(hkx:(T.X.scope.names.lookup x==some .local)=true)
  (hd:(x !="__debug__"&&x !="__classdict__")=true) (hg:Fz T.W.K T.X idE (·==.ref CE)=true) (hx1:exmOne T.W.K (.ref CE) (.ref CE)=some true) (hf:V5 T.W.K CT) (k:Et T) (hbody:Fe T body xb):
  DM T (.try_ body) (.Try xb [.ExceptHandler (some (.Name idE p1)) (some x) [.Return (some (.Attribute (.Name x p2) CT p3)) p4] p5] [] [] pos):=fun g fr σ N R X h=>by
 refine Cd h fun hh h=>?_
 have hd:=bM hd
 have kind:∀y,T.X.scope.names.lookup y=some .local->g.ct.env.kindOf y=some .local:=fun y q=>by unfold D3;exact Aj g.hsc q
 have hloc':∀p∈g.ct.cx.l,g.ct.env.kindOf p.1=some .local:=fun p hp=>kind _ (A6 (BF.mp hloc p (g.hx▸hp)))
 have hn0:g.ct.A.handled=none:=CW hh (τ:=σ)
 have hmem:(x,i)∈T.X.cx.l:=H8 (A6 (bM hb).1)
 refine wpAny_Try_except (A4 (hbody g fr σ N R (fun c H=>R (.str c) [] H) h) (fun fl s1 zz=>zz.el fun fr1 τ e1 S q=>?_) fun e s1 zz=>EM zz fun c H1 r1 er q=>?_)
 ·subst e1
  induction fl with
  |next=>exact Ac (S.now (fl:=.next) q)
  |ret u=>exact S.now (fl:=.ret u) q
  |_=>exact q.elim
 ·refine Mu g.ok σ.erS er fun a ρ2 s2 ha r2 S2 R2 x2=>?_
  subst ha
  let υ:Sg (g.mark (.ref a)) (Bz (i+1) none):=⟨s2,ρ2,H1,R2,Nr (g.mark (.ref a)) hloc' R2 fun ø ø=>Nw,x2.hdl⟩
  refine AO (Fz.load k.hd1 hg) fun u eu ld=>?_
  refine wpAny_handleBy_cons (codeAny_handlers_test (ld υ ?_)) (by intro q;cases q)
  refine Aj (A6 eu) ?_
  refine aW (id x2) fun oe vs dx od xe xd xi ø=>?_
  refine(exm_one (υ.kin k.hd1) (xi.inst xe xd).type hx1).here ?_
  refine codeAny_handlers_suite_as (FT (na:=g.ct.na) (fr:=none) R2 σ.hr.old x2 fun h4 ed4 R4 x4=>?_)
  let υ4:Sg (g.mark (.ref a)) (Bz (i+1) none):=⟨{s2 with heap:=h4},ρ2,H1,R4,Nr (g.mark (.ref a)) hloc' R4 fun ø ø=>Nw,x4.hdl⟩
  refine DP υ4 hb (.fn a) fun ω up S5=>?_
  refine U2 ω k.hd1 hf hmem (by simpa using hd.1) (by simpa using hd.2) (by unfold AC;exact Aj (Ck (by simp)) rfl) (x4.stay υ4 S5.stp) fun t5=>?_
  let ω6:Sg g (AC (Bz (i+1) none) i (.fn a)):=⟨{ω.s with toks:=ω.s.toks+1},ω.ρ,ω.H,ω.hr,ω.st.lr,Aj hh hn0⟩
  refine Aa (wpAny_bindName (DP ω6 hb .none fun ω7 up7 S7=>?_))
  unfold unbindBehindTheSuite
  refine wpAny_onRaise ?_
  refine AO (ω7.st.lr x i (Aj g.hx hmem)) fun ov pl rvx=>?_
  refine AO (rvx .none (by unfold AC;rw[DY,Ck (by simp)])) fun uu e7 ø=>?_
  subst e7
  have hkl:=kind x (A6 hkx)
  rcases pl with⟨_,m,hm,e⟩ | ⟨k,_⟩
  ·refine wpAny_unbindName_local hkl hm e (by refine Aj g.ok.kind ?_;rfl) fun h8 u8 hn8 hs8=>?_
   obtain⟨R8,S8⟩:=Uc g ω7.hr hn8 hs8
   exact⟨[],⟨{ω7.s with heap:=h8},ω7.ρ,ω7.H,R8,Nr g hloc' R8 fun i v=>by simp,Aj hh hn0⟩,rfl,
    ⟨r1.trans (r2.trans (CO.trans (s':=υ4.s) ⟨rfl,rfl⟩ (S5.rest.trans (CO.trans (s':=ω6.s) ⟨rfl,rfl⟩ (S7.rest.trans ⟨rfl,rfl⟩))))),(ed4.sstp S2).trans ((UX S5.stp).trans (S7.stp.trans S8))⟩,
    .str c,.str _ _,up7 (fun ø H=>R (.str c) [] H) (up (fun ø H=>R (.str c) [] H) q)⟩
  ·rcases k with k | k<;>(rw[hkl] at k;exact nomatch k)
end
theorem Ij{kindOf:Ao->Option Cz}{x:Ao}:∀(names:List Ao) (us:List Ab) (m c:Ao->Option Ab),x∉names->bindL kindOf (names.zip us) m x=m x/\bindC kindOf (names.zip us) c x=c x
 |[],us=>fun m c ø=>by induction us<;>exact⟨rfl,rfl⟩
 |n::names,[]=>fun m c ø=>⟨rfl,rfl⟩
 |n::names,u::us=>fun m c h=>by
  have k:=fun m c=>Ij (kindOf:=kindOf) names us m c fun q=>h (.tail _ q)
  have:x≠n:=fun q=>h (q▸.head _)
  rw[List.zip_cons_cons,bindL,bindC,(k _ c).1,(k m _).2]
  by_cases q:kindOf n=some .local
  ·exact Aj (if_pos q) (Aj (if_pos q) ⟨if_neg this,rfl⟩)
  ·exact Aj (if_neg q) (Aj (if_neg q) ⟨rfl,if_neg this⟩)
theorem HW{α:Type}[BEq α][LawfulBEq α]{x:α}{l:List α}(h:BS (x::l)=true):x∉l/\BS l=true:=
 have h:=bM h
 ⟨fun q=>(by rw[AT.mpr q] at h;exact(nomatch h.1)),h.2⟩
theorem NX{kindOf:Ao->Option Cz}{x:Ao}:∀(names:List Ao) (us:List Ab) (m c:Ao->Option Ab) (j:Nat) (u:Ab),BS names=true->names[j]?=some x->us[j]?=some u->
  (kindOf x=some .local->bindL kindOf (names.zip us) m x=some u)/\(kindOf x≠some .local->bindC kindOf (names.zip us) c x=some u):=by
 intro names
 induction names with
 |nil=>exact fun ø ø ø j ø ø h ø=>nomatch h
 |cons n names ih=>
  intro us m c j u hd h1 h2
  cases us with
  |nil=>exact nomatch h2
  |cons w us=>
  obtain⟨hn,hd⟩:=HW hd
  rw[List.zip_cons_cons,bindL,bindC]
  induction j with
  |zero=>
   cases (show some n=some x from h1)
   cases (show some w=some u from h2)
   exact⟨fun k=>Aj (if_pos k) (Aj ((Ij _ _ _ c hn).1) (if_pos rfl)),fun k=>Aj (if_neg k) (Aj ((Ij _ _ m _ hn).2) (if_pos rfl))⟩
  |succ j=>exact⟨fun k=>(ih us _ c j u hd h1 h2).1 k,fun k=>(ih us m _ j u hd h1 h2).2 k⟩
set_option tactic.hygienic true in
theorem cellsFrom_some:∀(names:List (Ao×Cz)) (n:Nat) (acc:List (Ao×Ai)),((x,Hu)∈names\/(acc.lookup x).isSome=true)->((cellsFrom n names acc).lookup x).isSome=true
 |[]=>fun n acc h=>by
  rcases h with h | h
  ·cases h
  ·exact h
 |(y,k)::r=>fun n acc h=>by
  unfold cellsFrom
  split
  ·refine cellsFrom_some r (n+1) _ ?_
   by_cases hx:x=y
   ·clear h;subst hx;exact .inr (by simp[B1])
   ·have hb:(x==y)=false:=by simpa using hx
    rcases h with h | h
    ·clear hb;rcases Al.mp h with h | h
     ·cases h;exact absurd rfl hx
     ·exact .inl h
    ·exact .inr (by simp only[B1,hb];exact h)
  ·rename_i hk
   refine cellsFrom_some r n acc ?_
   rcases h with h | h
   ·rcases Al.mp h with h | h
    ·cases h;exact absurd rfl hk
    ·exact .inl h
   ·exact .inr h
set_option tactic.hygienic true in
theorem Un{l:List (Ao×Ai)}(h:l.Pairwise fun x y=>x.2≠y.2){x y:Ao}{c:Ai}(hx:(x,c)∈l)(hy:(y,c)∈l):x=y:=by
 induction l with
 |nil=>cases hx
 |cons z l ih=>
  obtain⟨h1,h2⟩:=List.pairwise_cons.mp h
  rcases Al.mp hx with q | q
  ·rcases Al.mp hy with w | w
   ·rw[<-w] at q;exact congrArg Prod.fst q
   ·exact absurd (by exact D5 q rfl) (h1 _ w)
  ·rcases Al.mp hy with w | w
   ·exact absurd (by exact D5 w rfl) (h1 _ q)
   ·exact ih h2 q w
noncomputable def Ch(fd:DT):List Ao:=fd.params.args.map (·.arg)
structure FnAt (T:Txt)(a:Ai)(f:Fn)(fd:DT)(body:List Ef):Prop where
 keep:HZ T.W.K (.ref a)=true
 at_:∃o,T.W.K.lookup a=some o/\o.data=.func fd
 stmts:fd.body=.stmts body
 scope:fd.scope=T.X.scope
 kind:T.X.scope.kind=.function
 co:fd.scope.isCoroutine=false
 gen:fd.scope.isGenerator=false
 glob:fd.globals=Em
 blt:fd.builtins=builtinsNs
 clo:fd.closure=[]
 code:codeIn T.W.K fd.code fd.qualname=true
 np:(Ch fd).length=f.np
 pars:∀j x,(Ch fd)[j]?=some x->(x,j)∈T.X.cx.l
 dp:BS (Ch fd)=true
 cx:∀p∈T.X.cx.l,T.X.scope.names.lookup p.1=some .local\/(T.X.scope.names.lookup p.1=some .cell/\(p.1,Hu)∈T.X.scope.names)
 d1:BS (T.X.cx.l.map (·.1))=true
 d2:BS (T.X.cx.l.map (·.2))=true
 bind:∃ds,(∀P ρ,B8 P ρ f.dfl ds)/\∀(us:List Ab) (s:Ae),T.W.K.In s.heap->us.length+f.dfl.length=f.np->BindsTo s fd ⟨us,[]⟩ ((Ch fd).zip (us++ds))
noncomputable def BR(ct:Ct)(X:Cx)(fd:DT)(L a:Ai)(exs:List Ai):Ct:=
 {A:=ct.A.deeper (Dt fd L a),fs:=Dt fd L a::ct.fs,na:=⟨L::ct.na.l,exs++ct.na.ex⟩,env:=Dt fd L a,L:=L,cx:=X.cx}
theorem Go{h:Ah}{b:Ai}(hb:h.objs.size<=b):h.get? b=none:=by
 cases z:h.get? b with
 |none=>rfl
 |some o=>exact absurd (AB z) (Fv.mpr hb)
section
variable {T:Txt}{ct:Ct}{s s1:Ae}{ρ:Ce}{H:MH}{a:Ai}{f:Fn}{fd:DT}{body:List Ef}{exs:List Ai}
noncomputable abbrev G8(s:Ae)(fd:DT)(a:Ai)(us:List Ab)(s1:Ae):Prop:=
 InCallC s (Dt fd s.heap.objs.size a).locals (bindL (Dt fd s.heap.objs.size a).kindOf ((Ch fd).zip us) fun ø=>none) (Dt fd s.heap.objs.size a).cells (bindC (Dt fd s.heap.objs.size a).kindOf ((Ch fd).zip us) fun ø=>none) s1
theorem G8.up(x:G8 s fd a us s1)(e:(Dt fd s.heap.objs.size a).cells.lookup y=some c):s.heap.objs.size<c:=x.above _ _ (Dp e)
theorem Ct0.callee(ok:Ct0 (n+1) ct)(fa:FnAt T a f fd body)(L:Ai):GS n (BR ct T.X fd L a exs) where
 frames:=by show Option.map _ ct.A.frames=_;refine Aj ok.frames ?_;rfl
 head:=RN _ _ rfl rfl
 envf:=rfl
 fna:=fun e he=>by
  rcases Al.mp he with rfl | he
  ·exact⟨by show fd.scope.kind≠_;refine Aj fa.scope (Aj fa.kind ?_);decide,L,Be ..,rfl⟩
  ·exact⟨(ok.fna e he).1,AO ((ok.fna e he).2) fun b x y=>(Bn b (AR _ x) y)⟩
 loc:=Be ..
 glob:=fa.glob
 blt:=fa.blt
 kind:=by show fd.scope.kind=_;exact Aj fa.scope (Aj fa.kind rfl)
 depth:=by have:=ok.depth;refine(?_:ct.A.depth+1+3*n<990);exact OX (Lp (Lp xa (.num 1)) (.mulL 3 xb)) (.num 990) [.t (Lp xa (.mulL 3 (Lp xb (.num 1)))) (.num 990)] As this
 units:=by have:=ok.units;refine(?_:ct.A.units+3+30*n+200<cLine);exact Sr (Lp (Lp (Lp xa (.num 3)) (.mulL 30 xb)) (.num 200)) xc [.t (Lp (Lp xa (.mulL 30 (Lp xb (.num 1)))) (.num 200)) xc] As this
theorem jA.callee{us:List Ab}(fa:FnAt T a f fd body)(x:G8 s fd a us s1)(old:∀b o,T.W.hb.get? b=some o->s.heap.get? b=some o):jA T.W (BR ct T.X fd s.heap.objs.size a exs) where
 cinj:=fun y z c h1 h2=>Un x.apart (Dp h1) (Dp h2)
 cnew:=fun y c ø h2=>by
  cases z:T.W.hb.get? c with
  |none=>rfl
  |some o=>exact nomatch (old c o z).symm.trans (Go (CB (G8.up x h2)))
 inj:=fun y z i h1 h2=>congrArg Prod.fst (DN (fun p:Ao×Nat=>p.2) fa.d2 (y,i) (z,i) h1 h2 rfl)
 fn:=fun y i j h1 h2=>congrArg Prod.snd (DN (fun p:Ao×Nat=>p.1) fa.d1 (y,i) (y,j) h1 h2 rfl)
noncomputable def Act.callee{us:List Ab}(ok:Ct0 (T.n+1) ct)(fa:FnAt T a f fd body)(x:G8 s fd a us s1)(old:∀b o,T.W.hb.get? b=some o->s.heap.get? b=some o)(exs:List Ai):Act T:=
 ⟨BR ct T.X fd s.heap.objs.size a exs,ok.callee fa _,.callee fa x old,rfl,fa.scope⟩
theorem Li{us:List Ab}(x:G8 s fd a us s1){b:Ai}(hb:b∈own (BR ct T.X fd s.heap.objs.size a exs)):s.heap.get? b=none:=by
 rcases Al.mp hb with hb | hb
 ·exact Aj hb (AG _)
 ·split at hb
  ·exact nomatch hb
  ·refine AO (BA.mp hb) fun p hp hc=>?_
   split at hc
   ·exact nomatch hc
   ·exact Go (CB (G8.up x hc))
theorem St.callee{us:List Ab}{vs:List V}{ρc:Ce}{Hc:MH}{hd:Bool}(fa:FnAt T a f fd body)(x:G8 s fd a us s1)
  (R:HR T.W.w T.W.hb ⟨ct.na.l,exs++ct.na.ex⟩ s.heap ρc Hc) (hdl:OW ct.A ⟨ct.na.l,exs++ct.na.ex⟩ s.heap ρc hd) (rv:B8 (Kd ⟨ct.na.l,exs++ct.na.ex⟩ s.heap ρc) ρc vs us) (hl:vs.length=f.np):
  St T.W (BR ct T.X fd s.heap.objs.size a exs) s1 ρc Hc (Fh f.ns vs) hd:=by
 have k:=x.toInCall.keep
 have fL:=AG s.heap
 have en:IR ⟨ct.na.l,exs++ct.na.ex⟩ (BR ct T.X fd s.heap.objs.size a exs).na s.heap:=
  ⟨fun b q=>(Al.mp q).elim (fun q=>.inr (q▸fL)) .inl,fun b q=>.inl q,fun b q=>.tail _ q,fun b q=>q⟩
 have kof:∀y,(Dt fd s.heap.objs.size a).kindOf y=T.X.scope.names.lookup y:=fun y=>by
  show fd.scope.names.lookup y=_
  exact Aj fa.scope rfl
 refine⟨R.enl en k (fun b q z=>?_) (fun b q z=>?_),fun y i hy=>?_,?_⟩
 ·rcases Al.mp q with rfl | q
  ·exact⟨R.fresh fL,_,x.toInCall.ns⟩
  ·refine FN fun g0 k0=>?_
   refine Gj (R.nam b q) fun ø ø zz1=>cN zz1 fun m' o ø ø ho ø=>?_
   refine k0 ?_
   replace z:=ho▸z;exact nomatch z
 ·refine Cd (R.exl b q) fun ø zz1=>AO zz1 fun o a2 ø=>?_
  replace z:=a2.1▸z;exact nomatch z
 ·have hval:∀v,(Fh f.ns vs)[i]?=some (some v)->∃u,(Ch fd)[i]?=some y/\us[i]?=some u/\VR (Kd (BR ct T.X fd s.heap.objs.size a exs).na s1.heap ρc) ρc v u:=fun v hv=>by
   unfold Fh at hv
   have hi:i<vs.length:=by
    rcases Fo i vs.length with q | q
    ·exact q
    ·rw[BL (by simpa using q)] at hv
     exact absurd hv Nw
   rw[A9 (by simpa using hi),IU] at hv
   refine AO (Bc.mp hv) fun w hw e=>?_
   refine D5 (Ad e) ?_
   refine AO (rv.get hw) fun u hu ru=>?_
   have hp:i<(Ch fd).length:=Aj fa.np (D5 hl hi)
   have hpi:=AX hp
   have:y=(Ch fd)[i]:=congrArg Prod.fst (DN (fun p:Ao×Nat=>p.2) fa.d2 (y,i) ((Ch fd)[i],i) hy (fa.pars _ _ hpi) rfl)
   exact EN u (Aj this hpi) hu (ru.mono (fun ø ø e=>en.kdk k e) (.refl _))
  rcases fa.cx _ hy with h1 | ⟨h1,h2⟩
  ·exact⟨_,.inl ⟨(kof y).trans h1,_,x.toInCall.ns,rfl⟩,fun v hv=>C9 (hval v hv) fun u p1 p2 p3=>(Bn u ((NX _ _ _ (fun ø=>none) i u fa.dp p1 p2).1 ((kof y).trans h1)) p3)⟩
  ·have hk:(Dt fd s.heap.objs.size a).kindOf y=some .cell:=(kof y).trans h1
   refine Eb (FB.mp (cellsFrom_some fd.scope.names (s.heap.objs.size+1) [] (x:=y) (.inl (Aj fa.scope h2)))) fun c hc=>?_
   refine AO (x.cell y c hc) fun o ho hdat=>?_
   have ab:=G8.up x hc
   have fc:=Go (CB ab)
   exact Bn _ (.inr ⟨.inl hk,c,o,hc,⟨ho,R.fresh fc,fun q=>(Al.mp q).elim (fun q=>absurd q (Cq ab)) (R.fresh_na fc)⟩,hdat⟩) (fun v hv=>C9 (hval v hv) fun u p1 p2 p3=>Bn u ((NX _ _ (fun ø=>none) _ i u fa.dp p1 p2).2 (by rw[hk];decide)) p3)
 ·induction hd with
  |false=>exact hdl
  |true=>exact Kk hdl fun e o vs' q1 q2 q3=>RO e o vs' q1 ⟨k _ _ (en.kn q2).1,(en.kn q2).2⟩ q3
end
section
variable {P P':Ey}{ρ ρ':Ce}
theorem VR.carry(hP:∀a o,P a o->P' a o)(h:VR P ρ x v):x.nr=true->VR P' ρ' x v:=
 h.rec (motive_1:=fun x v ø=>x.nr=true->VR P' ρ' x v) (motive_2:=fun xs vs ø=>V.nrs xs=true->B8 P' ρ' xs vs) (fun ø=>.none) (fun b ø=>.bool b) (fun i t ø=>.int i t) (fun i t ø=>.str i t)
  (fun a b c ø m h=>.tup (hP _ _ a) b c (m h)) (fun a b c ø m h=>.lst (hP _ _ a) b c (m h)) (fun ø h=>nomatch h) (fun a ø=>.fn a) (fun a ø=>.bi a) (fun a ø=>.cd a) (fun ø ø h=>nomatch h) (fun ø=>.nil)
  fun ø ø m n h=>have h:=bM h;.cons (m h.1) (n h.2)
theorem B8.carry(hP:∀a o,P a o->P' a o)(h:B8 P ρ xs vs):V.nrs xs=true->B8 P' ρ' xs vs:=by
 induction xs generalizing vs with
 |nil=>cases h;exact fun ø=>.nil
 |cons x xs ih=>
  cases h with
  |cons a b=>exact fun h=>have h:=bM h;.cons (a.carry hP h.1) (ih b h.2)
end
noncomputable def J6(ρ:Ce)(H:MH):List Ai:=(ρ.zip H).filterMap fun q=>match q.2 with
 |.list _=>some q.1.1
 |_=>none
theorem CA:¬mu [] b:=fun zz=>AO zz fun ø h ø=>nomatch h
section
variable {w:Cc}{hb:Ah}{na:Na}{h:Ah}{ρ:Ce}{H:MH}
theorem Q4:¬Cg (Db ds k):=by
 rintro (⟨vs,z⟩ | ⟨z,_⟩ | ⟨z,_⟩)
 ·exact nomatch congrArg Df.data z
 ·exact absurd z (by unfold Db;simp)
 ·exact absurd z (by unfold Db;simp)
theorem HR.exs(R:HR w hb na h ρ H)(m:b∈J6 ρ H):mu ρ b/\∃o,h.get? b=some o/\Cg o:=by
 obtain⟨⟨p,o⟩,hm,e⟩:=BA.mp m
 obtain⟨i,hi⟩:=Dy hm
 obtain⟨h1,h2⟩:=List.getElem?_zip_eq_some.mp hi
 clear hi hm;clear m;induction o with
 |list xs=>
  refine D5 (Ad e) ?_
  exact Cd (R.rep i p _ h1 h2) fun ø zz=>AO zz fun vs zz ø=>Eb zz fun k hp=>⟨(Bn p (A2 h1) (.inl rfl)),_,hp,.inr (.inl ⟨rfl,_,_,rfl⟩)⟩
 |dict es=>cases e
 |inst C fs=>cases e
theorem HR.mu_what(R:HR w hb na h ρ H)(m:mu ρ b):b∈J6 ρ H\/∃o,h.get? b=some o/\¬Cg o:=by
 refine AO m fun p hpm hq=>?_
 obtain⟨i,hi⟩:=Dy hpm
 have hH:=AX (show i<H.length by exact D5 R.len ((Aw.mp hi).1))
 generalize H[i]'_=o at hH
 have rep:=R.rep i p _ hi hH
 induction o with
 |list xs=>exact .inl (BA.mpr (Bn (p,.list xs) (A2 (i:=i) (List.getElem?_zip_eq_some.mpr ⟨hi,hH⟩)) (congrArg some (hq.elim Eq.symm fun q=>(q.trans rep.1).symm))))
 |dict es=>exact Gj rep fun zz ø zz2=>LH zz2 fun ds k hg ø=>Cd zz fun z ø=>.inr ⟨_,(hq.elim id fun q=>q.trans z)▸hg,Q4⟩
 |inst C fs=>
  obtain⟨_,hg1,_,ds,k,hg2,_⟩:=rep
  rcases hq with rfl | rfl
  ·refine .inr ⟨_,hg1,?_⟩
   rintro (⟨vs,z⟩ | ⟨z,_⟩ | ⟨z,_⟩)<;>(unfold instObj at z;first | (cases z;done) | (unfold Ep at z;cases z;done))
  ·exact .inr (Bn _ hg2 Q4)
theorem HR.bare(R:HR w hb na h ρ H):HR w hb ⟨na.l,J6 ρ H++na.ex⟩ h [] [] where
 len:=rfl
 rep:=fun i p o e=>nomatch e
 sep:=fun i j p q e=>nomatch e
 new:=fun a m=>(CA m).elim
 nam:=fun a ha=>⟨(R.nam a ha).1,CA,(R.nam a ha).2.2⟩
 old:=R.old
 exl:=fun a ha=>(AJ.mp ha).elim (fun q=>Cd (R.exs q) fun m zz=>AO zz fun o e d=>⟨R.new a m,o,⟨e,CA,fun z=>(R.nam a z).2.1 m⟩,d⟩) fun q=>Cd (R.exl a q) fun a1 zz=>AO zz fun o a2 a3=>⟨a1,o,⟨a2.1,CA,a2.2.2⟩,a3⟩
theorem HR.toB(R:HR w hb na h ρ H)(e:Kd na h ρ b o):Kd ⟨na.l,J6 ρ H++na.ex⟩ h [] b o:=
 ⟨⟨e.1.1,CA,e.1.2.2⟩,e.2,fun q=>(AJ.mp q).elim (fun q=>e.1.2.1 (R.exs q).1) e.3⟩
end
section
variable {T:Txt}{ct:Ct}{s s1:Ae}{ρ ρc ρ':Ce}{H Hc:MH}{a:Ai}{f:Fn}{fd:DT}{body:List Ef}{exs:List Ai}{us:List Ab}{vs:List V}{h':Ah}
theorem TA(wok:Xo T.W)(fa:FnAt T a f fd body)(ok:Ct0 (n+1) ct)(old:∀b o,T.W.hb.get? b=some o->s.heap.get? b=some o)(h1:us.length+f.dfl.length=f.np)
  (h:∀ds s1,(∀P ρ,B8 P ρ f.dfl ds)->G8 s fd a (us++ds) s1->
   Av T.W.M (ct.A.deeper (Dt fd s.heap.objs.size a)) (execs body (Dt fd s.heap.objs.size a)) (fun f s'=>R (.ok (.ret (match f with | .ret v=>v | _=>.none))) s')
    (fun e s'=>Av T.W.M (ct.A.deeper (Dt fd s.heap.objs.size a)) (leaving (Dt fd s.heap.objs.size a) e) (fun ø s''=>R (.error e) s'') (fun e' s''=>R (.error e') s'') s') s1):
  BY T.W.M ct.A (.call (.ref a) ⟨us,[]⟩) R s:=by
 have kin:T.W.K.In s.heap:=wok.kin.keeps old
 refine AO fa.at_ fun o ho hdata=>?_
 have hk:fd.scope.kind=.function:=by exact Aj fa.scope (Aj fa.kind rfl)
 refine codeAny_call_function (by have:=ok.depth;unfold recursionLimit;exact OX xa (.num 1000) [.t (Lp xa (.mulL 3 (Lp xb (.num 1)))) (.num 990)] As this) (kin _ _ ho) hdata fa.co fa.gen fa.stmts (codeRec_of kin fa.code) ?_
 refine AO fa.bind fun ds hv hb=>?_
 refine hb us s kin h1 _ _ _ _ ?_
 refine Aj fa.clo ?_
 refine wpAny_newFunctionEnv_cells hk (fun x hx=>?_) fun env he s1 x=>?_
 ·have hm:x.1∈Ch fd:=(List.of_mem_zip hx).1
  obtain⟨j,hj⟩:=Dy hm
  refine Aj fa.scope ?_
  exact(fa.cx _ (fa.pars j _ hj)).elim .inl fun q=>.inr ⟨q.1,cellsFrom_some _ _ _ (.inl q.2)⟩
 ·subst he
  exact⟨(wok.top.nolimit.keeps old).keeps x.toInCall.keep,codeAny_func (h ds s1 hv x)⟩
theorem Jb(x:G8 s fd a us s1)(S:Ca (BR ct T.X fd s.heap.objs.size a exs) s1.heap ρc h' ρ')(e:s.heap.get? b=some o)(hm:¬mu ρc b)(hn:b∉ct.na.l):Kn (BR ct T.X fd s.heap.objs.size a exs).na h' ρ' b o:=by
 refine S.kn b o (fun q=>?_) ⟨x.toInCall.keep b o e,hm,fun q=>(Al.mp q).elim (fun q=>?_) hn⟩
 ·replace e:=Li x q▸e;cases e
 ·rw[q,AG] at e;exact nomatch e
theorem Jc(x:G8 s fd a us s1)(S:Ca (BR ct T.X fd s.heap.objs.size a exs) s1.heap ρc h' ρ')(hn:b∈ct.na.l)(m':Ao->Option Ab)(e:s.heap.Ns b m'):h'.Ns b m':=by
 refine S.ns b (.tail _ hn) (fun q=>?_) m' (e.keeps x.toInCall.keep)
 refine VT e fun o ø ø ho ø=>?_
 replace ho:=Li x q▸ho;exact nomatch ho
theorem TB(wok:Xo T.W)(fa:FnAt T a f fd body)(hb:Fe T f.body body)(ok:Ct0 (T.n+1) ct)(hl:vs.length+f.dfl.length=f.np)
  (R:HR T.W.w T.W.hb ⟨ct.na.l,exs++ct.na.ex⟩ s.heap ρc Hc) (hdl:OW ct.A ⟨ct.na.l,exs++ct.na.ex⟩ s.heap ρc T.C.hd) (hu:vs.length=us.length) (rv:∀ds,(∀P ρ,B8 P ρ f.dfl ds)->B8 (Kd ⟨ct.na.l,exs++ct.na.ex⟩ s.heap ρc) ρc (vs++f.dfl) (us++ds))
  (h:AV T.C f.body (Fh f.ns (vs++f.dfl)) Hc N Rt X)
  (ko:∀us' s1 (x:G8 s fd a us' s1) fr' (τ:Sg (Act.callee ok fa x R.old exs) fr') fl,CO s τ.s->Ca (BR ct T.X fd s.heap.objs.size a exs) s1.heap ρc τ.s.heap τ.ρ->τ.fl N Rt fl->G (.ok (.ret (match fl with | .ret v=>v | _=>.none))) τ.s)
  (ke:∀us' s1 (_:G8 s fd a us' s1) c H' e0 ρ2 s',CO s s'->Ca (BR ct T.X fd s.heap.objs.size a exs) s1.heap ρc s'.heap ρ2->HR T.W.w T.W.hb (BR ct T.X fd s.heap.objs.size a exs).na s'.heap ρ2 H'->
   Ex s1.heap s'.heap (BR ct T.X fd s.heap.objs.size a exs).na ρ2 e0 c (some .none)->X c H'->G (.error (.ref e0)) s'):BY T.W.M ct.A (.call (.ref a) ⟨us,[]⟩) G s:=by
 refine TA wok fa ok R.old (hu▸hl) fun ds s1 hds x=>?_
 have rs:CO s s1:=LH x.done fun ø ø e ø=>e▸⟨rfl,rfl⟩
 let g':=Act.callee ok fa x R.old exs
 let τ:Sg g' _:=⟨s1,ρc,Hc,St.callee fa x R hdl (rv ds hds) (Aj Ak hl)⟩
 refine A4 (hb g' _ τ N Rt X h) (fun fl s2 zz=>zz.el fun fr' υ e S q=>?_) fun e s2 zz=>EM zz fun c H' r er q=>Ss er fun e0 ρ2 fl e1 S R1 x1 f1=>?_
 ·refine D5 e ?_
  exact ko _ _ x fr' υ fl (rs.trans S.rest) S.stp q
 ·refine Aj e1 ?_
  exact TY g'.ok R1 (fun b o e=>x.toInCall.keep b o (R.old b o e)) (fun b e hn hm=>S.th b hm hn e) x1 f1 fun h' ED R2 x2=>ke _ _ x c H' e0 ρ2 {s2 with heap:=h'} (rs.trans (r.trans ⟨rfl,rfl⟩)) (K4.sstp (ct:=g'.ct) ED S) R2 x2 q
theorem Uh(x:G8 s fd a us s1)(e:s1.heap.get? b=none):s.heap.get? b=none:=by
 cases z:s.heap.get? b with
 |none=>rfl
 |some o=>exact nomatch (x.toInCall.keep b o z).symm.trans e
theorem dF(R':HR w hb na' h ρ' H')(kdB:∀b o,Kd na' h ρ' b o->Kd na h ρ b o)(nw:∀b,mu ρ' b->¬mu ρ b/\b∉na.l/\b∉na.ex)(rf:VR (Kd na' h ρ') ρ' v u)(hfz:V.nr (Br H' v)=true):VR (Kd na h ρ) ρ (Br H' v) u:=by
 cases v with
 |ref i=>
  cases rf with
  |@ref _ p e=>
   have hH:=AX (show i<H'.length by exact D5 R'.len ((Aw.mp e).1))
   generalize H'[i]'_=o at hH
   unfold Br at hfz ⊢
   dsimp only at hfz ⊢
   rw[hH] at hfz ⊢
   induction o with
   |list xs=>
    refine Cd (R'.rep i p _ e hH) fun ø zz=>AO zz fun vs' zz rx=>Eb zz fun k hpl=>?_
    have z:=nw _ (Bn p (A2 e) (.inl rfl))
    exact .lst ⟨⟨hpl,z.1,z.2.1⟩,.inr (.inl ⟨rfl,_,_,rfl⟩),z.2.2⟩ rfl rfl (rx.carry kdB hfz)
   |_=>cases hfz
 |_=>exact rf.carry kdB hfz
theorem U4(wok:Xo T.W)(fa:FnAt T a f fd body)(hb:Fe T f.body body)(ok:Ct0 (T.n+1) ct)(R:HR T.W.w T.W.hb ct.na s.heap ρ H)(hdl:OW ct.A ct.na s.heap ρ T.C.hd)(rv:B8 (Kd ct.na s.heap ρ) ρ vs us)(q:iX T.C f vs H Q X):
  BY T.W.M ct.A (.call (.ref a) ⟨us,[]⟩) (Mk T.W ct s ρ Q X) s:=by
 refine Cd q fun hl q=>?_
 unfold WW at q
 cases hp:f.pure with
 |false=>
  replace q:=hp▸q
  have en:IR ct.na (BR ct T.X fd s.heap.objs.size a []).na s.heap:=⟨fun b q=>(Al.mp q).elim (fun q=>.inr (q▸AG _)) .inl,fun b q=>.inl q,fun b q=>.tail _ q,fun b q=>q⟩
  have stp:∀{us':List Ab} {s1:Ae} {h':Ah} {ρ':Ce},G8 s fd a us' s1->Ca (BR ct T.X fd s.heap.objs.size a []) s1.heap ρ h' ρ'->Ek ct.na s.heap ρ h' ρ':=fun x S=>⟨S.le,fun b o e=>en.back (Jb x S e.1 e.2.1 e.2.2),fun b hb m e=>Jc x S hb m e⟩
  refine TB (exs:=[]) wok fa hb ok hl R hdl rv.length.symm (fun ds hds=>rv.app (hds _ _)) q (fun us' s1 x fr' τ fl r S q=>?_) fun us' s1 x c H' e0 ρ2 s' r S R2 x2 q=>F1 c H' r (Sv e0 ρ2 _ rfl (stp x S) (R2.back en) (x2.map fun b o ø e=>⟨e.1,Uh x e.2,fun z=>e.3 (.tail _ z),e.4⟩) (.inr (.inl rfl))) q
  induction fl with
  |next=>exact Sv τ.ρ τ.H .none r (stp x S) (τ.hr.back en) .none q
  |ret u=>exact AO q fun v rv q=>Sv τ.ρ τ.H v r (stp x S) (τ.hr.back en) (rv.mono (fun b o e=>en.backd e) (.refl _)) q
  |_=>exact q.elim
 |true=>
  rw[hp] at q
  obtain⟨hnr,q⟩:=q
  have hdlB:OW ct.A ⟨ct.na.l,J6 ρ H++ct.na.ex⟩ s.heap [] T.C.hd:=by
   revert hdl
   cases T.C.hd with
   |false=>exact id
   |true=>exact fun zz=>Kk zz fun e o vs' q1 q2 q3=>RO e o vs' q1 ⟨q2.1,CA,q2.2.2⟩ q3
  have keep:∀{us':List Ab} {s1:Ae} {h':Ah} {ρ':Ce},G8 s fd a us' s1->Ca (BR ct T.X fd s.heap.objs.size a (J6 ρ H)) s1.heap [] h' ρ'->∀b o,b∉ct.na.l->s.heap.get? b=some o->h'.get? b=some o:=fun x S b o hn e=>(Jb x S e CA hn).1
  have stp:∀{us':List Ab} {s1:Ae} {h':Ah} {ρ':Ce},G8 s fd a us' s1->Ca (BR ct T.X fd s.heap.objs.size a (J6 ρ H)) s1.heap [] h' ρ'->Ek ct.na s.heap ρ h' ρ/\HR T.W.w T.W.hb ct.na h' ρ H:=fun x S=>
   ⟨.of (keep x S) fun b hb m e=>Jc x S hb m e,R.keeps (keep x S) fun b hb m e=>Jc x S hb m e⟩
  refine TB (exs:=J6 ρ H) wok fa hb ok hl R.bare hdlB rv.length.symm (fun ds hds=>(rv.app (hds _ _)).carry (fun ø ø e=>R.toB e) hnr) q (fun us' s1 x fr' τ fl r S q=>?_) fun us' s1 x c H' e0 ρ2 s' r S R2 x2 q=>
   (F1 c H r (Sv e0 ρ _ rfl ((stp x S).1) ((stp x S).2) (x2.map fun b o ø e=>⟨e.1,Uh x e.2,fun z=>e.3 (.tail _ z),R.fresh (Uh x e.2)⟩) (.inr (.inl rfl))) q)
  cases fl with
  |next=>exact Sv ρ H .none r ((stp x S).1) ((stp x S).2) .none q
  |ret u=>
   refine C9 q fun v rf hfz q=>?_
   have kdB:∀b o,τ.k b o->Kd ct.na τ.s.heap ρ b o:=fun b o e=>by
    have hbn:b∉ct.na.l:=fun q=>e.1.2.2 (.tail _ q)
    refine⟨⟨e.1.1,fun m=>(R.mu_what m).elim (fun z=>e.3 (AQ _ z)) fun zz=>AO zz fun o' z nd=>?_,hbn⟩,e.2,fun q=>e.3 (AF _ q)⟩
    have:=keep x S b o' hbn z
    replace this:=e.1.1▸this;clear z;obtain rfl:=Ad this
    exact nd e.2
   exact Sv ρ H _ r (stp x S).1 (stp x S).2 (dF τ.hr kdB (fun b m=>by
    have hna:b∉ct.na.l:=fun q=>(τ.hr.nam b (.tail _ q)).2.1 m
    have hno:s.heap.get? b=none:=by
     cases z:s.heap.get? b with
     |none=>rfl
     |some o=>exact absurd m (Jb x S z CA hna).2.1
    exact⟨R.fresh hno,hna,R.fresh_ex hno⟩) rf hfz) q
  |_=>exact q.elim
end
theorem FF:Slot "wrapper_descriptor" "__get__" "wrapper_descriptor.__get__":=.of (owner:="wrapper_descriptor") (n:="__get__") (by rw[Cv,Bx];kernel_rfl) (by decide+kernel) (by decide+kernel) (by decide+kernel)
 (by first | exact .inl (by decide+kernel) | exact .inr (by decide+kernel)) (by rw[C8];kernel_rfl)
theorem KG:entryFor table "wrapper_descriptor.__get__"=some Ax.«wrapper_descriptor.__get__»:=Hz (by kernel_rfl)
theorem LQ(a b c:Ab):argsOk "wrapper_descriptor.__get__" ⟨[a,b,c],[]⟩:=by unfold argsOk;kernel_rfl
theorem Ib:typeOf (.builtin "Exception.__init__")=pure (.type "wrapper_descriptor"):=by kernel_rfl
theorem Pd(K:CD):alongIn K "__init__" HX=some (some (.builtin "Exception.__init__")):=by kernel_rfl
section
variable {prog:B7}{w:Cc}{A:Bt}{E:Ab->Ae->Prop}{h:Ah}{g:Array GenState}{d:Drawn}{t:Nat}{os:OsState}{K:CD}{so D x C:Ai}
variable {nm q:Ao}{N:Ai}{bs:List Ab}{sn:List Ao}{sub:List Ab}{ab:Bool}{col:Option Bool}{dd:Option Ai}{k0 k1 k2 k3 k5:Option Ab}
noncomputable abbrev wrapObj(x:Ai):Df:={cls:=.type "method-wrapper",dict:=none,data:=.fields #[.builtin "Exception.__init__",.ref x],slots:=#[]}
theorem Vq(hC:h.get? C=some (excClassObj nm q C N bs HX true sn sub ab col dd k0 k1 k2 k3 k5 "Exception.__new__"))(hx:h.get? x=some ox)(hc:ox.cls=.ref C)
  (hq:R (.ok (.ret (.ref h.objs.size))) ⟨h.push (wrapObj x),g,d,t,os⟩):BY (AD prog w) A (.call (.builtin "wrapper_descriptor.__get__") ⟨[.builtin "Exception.__init__",.ref x,.ref C],[]⟩) R ⟨h,g,d,t,os⟩:=by
 have hcB:(B9 C::HX).contains (.type "Exception")=true:=by rw[Iy];simp
 refine Fq FF.plain KG (FF.check _ _ _ _ _ _ _ _ Ib (LQ _ _ _) ?_)
 unfold Ax.«wrapper_descriptor.__get__»
 repeat first | (with_reducible refine GH hx ?_;rw[hc]) | with_reducible refine Aa ?_ | with_reducible refine Ac ?_ | wp_delta | ((with_reducible apply Cw);focus (rfl;done))
 rw[show ".".intercalate (("Exception.__init__".cutAt '.').dropLast)="Exception" by decide+kernel]
 refine wpAny_isSubtype_exc hC ?_
 rw[hcB]
 refine Ac ?_
 unfold newFields
 exact Aa (AP (Ac hq) (by size_fits))
theorem UP
  (hso:h.get? so=some (ks_superObj D x C)) (hno:Looks (AD prog w) h (opaqueClassAbove (.ref C)) none)
  (hC:Looks (AD prog w) h (mroOf (.ref C)) l₀) (hl:(l₀.dropWhile (· !=.ref D)).drop 1=l) (X:K.In h)
  (hf:alongIn K name l=some (some (.builtin i))) (ht:typeOf (.builtin i)=pure (.type T)) (hlk:Fa (.type T) "__get__"=pure (some (.builtin gt))) (hxC:x≠C) (hn:(name==("__class__":Ao))=false)
  (hq:BY (AD prog w) A (.call (.builtin gt) ⟨[.builtin i,.ref x,.ref C],[]⟩) (fun r s'=>match r with | .ok (.ret v)=>Q (.done (.ret v)) s' | .ok _=>False | .error e=>E e s') ⟨h,g,d,t,os⟩):
  Av (AD prog w) A (Ax.«super.__getattribute__» ⟨[.ref so,.str name tk],[]⟩) Q E ⟨h,g,d,t,os⟩:=by
 have hne:(B9 x==B9 C)=false:=by simp[hxC]
 have hdt:(ks_superObj D x C).data=.fields #[.ref D,.ref x,.ref C]:=rfl
 have f0:(#[.ref D,.ref x,.ref C]:Array Ab)[0]?=some (.ref D):=rfl
 have f1:(#[.ref D,.ref x,.ref C]:Array Ab)[1]?=some (.ref x):=rfl
 have f2:(#[.ref D,.ref x,.ref C]:Array Ab)[2]?=some (.ref C):=rfl
 unfold Ax.«super.__getattribute__»
 repeat first | with_reducible refine Aa ?_ | with_reducible refine Ac ?_ | (with_reducible refine A5 hso hdt f0 ?_) | (with_reducible refine A5 hso hdt f1 ?_) | (with_reducible refine A5 hso hdt f2 ?_) | (with_reducible refine ks_wpAny_notOpaque hno ?_) | (with_reducible refine Looks.at hC ?_;rw[hl]) | (refine ks_forIn_along X (fun ø ø=>rfl) rfl ?_ hf) | (with_reducible refine Bj ht ?_) | with_reducible refine Au ?_ | with_reducible refine Bj (by assumption) ?_ | wp_delta | with_reducible refine Eh ?_ | ((with_reducible apply Cw);focus (rfl;done)) | ((with_reducible apply Cw);focus (simp[*];done)) | dsimp only
 refine Aj hne ?_
 exact FM hq fun r s' z=>match r,z with
  |.ok (.ret v),z=>Aa (Ac (Ac (Ac z)))
  |.error e,z=>z
theorem NB
  (hso:h.get? so=some (ks_superObj D x C)) (hno:Looks (AD prog w) h (opaqueClassAbove (.ref C)) none)
  (hC:Looks (AD prog w) h (mroOf (.ref C)) l₀) (hl:(l₀.dropWhile (· !=.ref D)).drop 1=l) (X:K.In h)
  (hf:alongIn K name l=some (some (.builtin i))) (ht:typeOf (.builtin i)=pure (.type T)) (hlk:Fa (.type T) "__get__"=pure (some (.builtin gt))) (hxC:x≠C) (hn:(name==("__class__":Ao))=false)
  (hg:∀(A:Bt) (t:Nat) (R:Result->Ae->Prop),R (.ok (.ret (.ref r))) ⟨h',g,d,t,os⟩->BY (AD prog w) A (.call (.builtin gt) ⟨[.builtin i,.ref x,.ref C],[]⟩) R ⟨h,g,d,t,os⟩)
  (hq:Q (.ref r,[]) ⟨h',g,d,t+1,os⟩):Av (AD prog w) A (getMethod (.ref so) name pl) Q E ⟨h,g,d,t,os⟩:=by
 have hlk2:=PySem.F.ks_slot_super_ga.lookup
 have hcan:=PySem.F.ks_canon_super_ga
 have hT:∀t',(⟨h,g,d,t',os⟩:Ae).TypeIs (.ref so) "super":=fun ø=>⟨_,hso,rfl⟩
 unfold getMethod
 refine Aa (Bv (hT _) hlk2 ?_)
 refine(?_:Av _ _ (if (Manifest.canonical "super.__getattribute__" !="object.__getattribute__")=true then _ else _) _ _ _)
 rw[if_pos hcan]
 unfold getAttr getAttrBy
 refine Aa (Aa (wpAny_mkText (Au (Aa (EC (hT _) (Aa (Bj hlk2 ?_)))))))
 refine(?_:Av _ _ (Im (.ref so) (.str name t) (.type "super") (.builtin "super.__getattribute__") true false) _ _ _)
 unfold Im hookBefore callGetattribute boundAndCalled
 refine Aa (Bj (show(if onTheHeap (.type "super") then Fa (.type "super") "__getattr__" else pure none)=pure none from rfl) ?_)
 refine Aa (C2 (Au ?_))
 show Av _ _ (bindSpecial (.builtin "super.__getattribute__") (.ref so)>>=_) _ _ _
 refine Aa (Bj (PySem.F.ks_slot_super_ga.bind _) ?_)
 refine A4 (Q:=fun v s'=>v=.ref r/\s'=⟨h',g,d,t+1,os⟩) (E:=fun ø ø=>False)
  (AZ PySem.F.ks_slot_super_ga (hT _) PySem.F.ks_entry_super_ga (UP hso hno hC hl X hf ht hlk hxC hn (hg _ _ _ ⟨_,rfl,rfl,rfl⟩)) (PySem.F.ks_gaArgs_super _ _)) (fun v s' hv=>?_) fun ø ø z=>z.elim
 obtain⟨rfl,rfl⟩:=hv
 exact Ac (Ac hq)
theorem So(hC:h.get? C=some (excClassObj nm q C N bs HX true sn sub ab col dd k0 k1 k2 k3 k5 "Exception.__new__"))(hm:h.get? mw=some (wrapObj x))(hx:h.get? x=some {cls:=.ref C,data:=.fields #[.ref t0,.none,.none,.none,.bool false,.none]})
  (hq:Q .none ⟨(h.push {cls:=.type "tuple",data:=.seq #[a]}).update x (CF (·.setIfInBounds 0 (.ref h.objs.size))),g,d,t,os⟩):Av (AD prog w) A (call (.ref mw) [a]) Q E ⟨h,g,d,t,os⟩:=by
 have F:=K8
 have hx2:=Af {cls:=.type "tuple",data:=.seq #[a]} hx
 refine Eh (codeAny_of_tree ?_)
 refine(?_:Av _ _ (callAny (.ref mw) _) _ _ _)
 unfold callAny
 refine Aa (wpAny_load hm ?_)
 refine(?_:Av _ _ (checkBoundCall "Exception.__init__" ⟨[.ref x,a],[]⟩>>=_) _ _ _)
 refine Aa ?_
 unfold checkBoundCall
 refine Aj F.initRow ?_
 refine Aj F.initKind ?_
 dsimp only
 rw[if_pos (by decide)]
 unfold Bind.checkArgs
 have hshort:=F.noStar
 repeat first | with_reducible refine GH hx ?_ | with_reducible refine Aa ?_ | with_reducible refine Ac ?_ | wp_delta | ((with_reducible apply wpAny_load');focus (heap_get;done)) | ((with_reducible apply Cw);focus (rfl;done)) | ((with_reducible apply Gc);focus (rfl;done)) | with_reducible_and_instances refine Ac ?_
 refine⟨Code.quiet_builtin _ (by decide+kernel),codeAny_builtin F.initEntry ?_⟩
 show Av _ _ (Ax.«BaseException.__init__» ⟨[.ref x,a],[]⟩) _ _ _
 repeat first | with_reducible refine Aa ?_ | with_reducible refine Ac ?_ | with_reducible refine Au ?_ | wp_delta | with_reducible refine wpAny_point ?_ | with_reducible refine LM ?_ | ((with_reducible apply wpAny_load');focus (heap_get;done)) | ((with_reducible apply wpAny_update');focus (heap_get;done)) | ((with_reducible apply Cw);focus (rfl;done)) | ((with_reducible apply Gc);focus (rfl;done))
 exact hq
end
noncomputable abbrev F6:Ao:=⟨#[116,111,108,100]⟩
noncomputable abbrev Yf:Ao:=⟨#[95,95,105,110,105,116,95,95]⟩
noncomputable abbrev ID:Ao:=⟨#[115,101,108,102]⟩
noncomputable abbrev Os(p0 p1 p2 p3 p4 p5 p6 p7 p8 p9 p10 p11 p12 p13:Pos):List Ef:=
 [.Expr (.Call (.Attribute (.Call (.Name "super" p0) [] [] p1) "__init__" p2) [.Name CT p3] [] p4) p5,
  .Assign [.Attribute (.Name ID p6) CT p7] (.Name CT p8) p9,.Assign [.Attribute (.Name ID p10) F6 p11] (.Name F6 p12) p13]
set_option tactic.hygienic true in
theorem PP{K:CD}{h:Ah}{N:Ai}{m:Ao->Option Ab}{n:Ao}{v:Ab}(X:K.In h)(G:h.Ns N m)(e:nsIn K N n=some (some v)):m n=some v:=by
 refine LI G fun o es ep ho hd ø hf=>?_
 unfold nsIn at e
 cases q:K.lookup N with
 |none=>rw[q] at e;cases e
 |some x=>
  rw[q] at e
  have:=Ad ((X _ _ q).symm.trans ho)
  obtain⟨c,d,dd,sl⟩:=x
  rw[<-this] at hd
  have hd:dd=_:=hd
  subst hd
  clear this ho q
  dsimp only at e
  cases he:es.toList.find? (fun x=>x.key.isStr n) with
  |some en=>
   rw[he] at e
   refine D5 (Ad e) ?_
   rw[<-hf]
   unfold nsFind findBy
   exact D5 Array.find?_toList (Aj he rfl)
  |none=>
   rw[he] at e
   dsimp only at e
   cases z:es.toList.any (·.refKey)<;>(rw[z] at e;exact nomatch e)
structure IS (W:Hx) where
 nm:Ao
 q:Ao
 N:Ai
 fI:Ai
 cc:Ai
 cda:Ai
 bs:List Ab
 sn:List Ao
 sub:List Ab
 ab:Bool
 col:Option Bool
 dd:Option Ai
 k0:Option Ab
 k1:Option Ab
 k2:Option Ab
 k3:Option Ab
 k5:Option Ab
 name:Ao
 qual:Ao
 params:Arguments
 ps:List Pos
 dV:Ab
 kV:Ab
 doc:Ab
 pm:Ab
 ct:Ab
 an:Option Ai
 od:Option Ai
 osl:Array (Option Ab)
 scope:EA
 vs:Array Ab
 file:Ao
 tf:Tok
 ccl:Ab
 cdd:Option Ai
 ccs:Array (Option Ab)
 cl:Ab
 cld:Option Ai
 csl:Array (Option Ab)
 dfl:Ab
 hC:W.K.lookup CE=some (excClassObj nm q CE N bs HX true sn sub ab col dd k0 k1 k2 k3 k5 "Exception.__new__")
 hN:nsOkIn W.K N=true
 hi:nsIn W.K N Yf=some (some (.ref fI))
 hs:nsIn W.K N "__setattr__"=some none
 hc:nsIn W.K N CT=some none
 ht:nsIn W.K N F6=some none
 body:List Ef
 hbody:∃p0 p1 p2 p3 p4 p5 p6 p7 p8 p9 p10 p11 p12 p13,body=Os p0 p1 p2 p3 p4 p5 p6 p7 p8 p9 p10 p11 p12 p13/\(p2.endLine==p4.line)=true
 ho:W.K.lookup fI=some ⟨.type "function",od,.func (ksFn name qual params body scope dV kV doc pm an (.ref cda) ct cc),osl⟩
 hcd:codeIn W.K (.ref cda) qual=true
 hcell:W.K.lookup cc=some ⟨cl,cld,.cell (some (.ref CE)),csl⟩
 hcode:W.K.lookup cda=some ⟨ccl,cdd,.fields vs,ccs⟩
 hvs:vs[2]?=some (.str file tf)
 hfile:((W.prog.main.file:Ao)==file)=true
 htop:(W.prog.main.scope.names.lookup ("super":Ao)).isSome=false
 hsup:nsIn W.K Em "super"=some none
 hany:nsIn W.K cStatics "thirdparty.any"=some none
 hself:∃ar,(params.posonlyargs++params.args).head?=some ar/\ar.arg=ID
 sc1:scope.names.lookup ("super":Ao)=some .globalImplicit
 sc2:scope.names.lookup ("__class__":Ao)=some .free
 sc3:scope.names.lookup ID=some .local
 sc4:scope.names.lookup CT=some .local
 sc5:scope.names.lookup F6=some .local
 sk:scope.kind=.function
 sco:scope.isCoroutine=false
 sge:scope.isGenerator=false
 sce:∀x∈scope.names,x.2≠.cell
 bind1:∀a b S,peek W.K S (bindArgs (ksFn name qual params body scope dV kV doc pm an (.ref cda) ct cc) ⟨[a,b],[]⟩)=some [(ID,a),(CT,b),(F6,dfl)]
 bind2:∀a b c S,peek W.K S (bindArgs (ksFn name qual params body scope dV kV doc pm an (.ref cda) ct cc) ⟨[a,b,c],[]⟩)=some [(ID,a),(CT,b),(F6,c)]
structure SB (h:Ah)(x:Ai)(c:Ab)(h':Ah):Prop where
 keep:∀b o,b≠x->h.get? b=some o->h'.get? b=some o
 made:∃dx t od,h.get? dx=none/\h'.get? x=some {cls:=.ref CE,dict:=some dx,data:=.fields #[t,.none,.none,.none,.bool false,.none]}/\h'.get? dx=some od/\(∃es k,od.data=.dict es k)/\lookIn CT od=some (some c)
section
variable {W:Hx}{A:Bt}{h:Ah}{g:Array GenState}{d:Drawn}{t:Nat}{os:OsState}{x t0:Ai}{R:Result->Ae->Prop}
theorem Wq(hl:(p2.endLine==p4.line)=true):FO (.Call (.Attribute o name p2) [.Name y p3] [] p4) env=(do
   let ov <-attributeBase o name env (FO o env)
   standAt p2.atName
   let (f,first) <-holding [ov] (getMethod ov name (do return (<-importBound o env).getD true))
   callWith p4 f first (GO p4 (Du [.Name y p3] env)) []):=by
 rw[arm_eval_Call]
 unfold methodCall
 have hm:∀b,methodCallPos b o env p2 p4=pure p4:=fun b=>if_pos (by rw[hl,Bool.or_true])
 rw[hm]
 rfl
structure K6 (K:CD)(name:Ao):Prop where
 cls:∃cd,clsIn K CE=some cd/\cd.mro=.ref CE::HX/\cd.hasDict=true
 set:GP K (.ref CE) "__setattr__"=some (some (.builtin "object.__setattr__"))
 no:takerIn K CE name=some none
section
variable {prog:B7}{w:Cc}{A:Bt}{E:Ab->Ae->Prop}{h:Ah}{g:Array GenState}{d:Drawn}{t:Nat}{os:OsState}{x dx:Ai}{ox:Df}{od:Option Df}{K:CD}{name:Ao}{v:Ab}{Q:Unit->Ae->Prop}
theorem Og(e:K6 K name)(X:K.In h)(I:CH h x ox CE od)
  (hq:∀b,Av (AD prog w) A.in1 (Ax.ObjectAttr.storeInOwnDict (.ref x) (.ref CE) (.str name t) name v b) (fun(f:PySem.Fin) s1=>f=.done (.ret .none)/\Q () s1) (fun ø ø=>False) ⟨h,g,d,t+1,os⟩):Av (AD prog w) A (setAttr (.ref x) name v) Q E ⟨h,g,d,t,os⟩:=by
 refine FN fun g0 k0=>?_
 refine C9 e.cls fun cd hc hm ø=>?_
 refine k0 ?_
 have SF:=PySem.F.store_Exception
 have I':CH (⟨h,g,d,t+1,os⟩:Ae).heap x ox CE od:=I
 refine set_plain (s:=⟨h,g,d,t,os⟩) X I e.set (Fq SF.slot.plain SF.entry (@check_slot (AD prog w) _ _ ⟨h,g,d,t+1,os⟩ "object.__setattr__" "object" "__setattr__" (.ref x) [.str name t,v] [] _ SF.kind SF.split ?_ (SF.args (.ref x) (.str name t) v) ?_))
 ·exact I.type.andThen (looks_mroIn X (by unfold mroIn;rw[hc,IX,hm];rfl))
 refine AO (BC.mp e.no) fun attr ha hr=>?_
 have hm':Looks (AD prog w) h (mroOf (.ref CE)) cd.mro:=(looks_clsIn X hc).andThen .now
 have L3:Looks (AD prog w) h (Ax.ObjectAttr.storeTaker? attr) none:=by
  clear ha;induction attr with
  |none=>exact .now
  |some a=>
   refine AO (Bc.mp hr) fun b hb hn=>?_
   induction b with
   |true=>cases hn
   |false=>exact(looks_takesIn X hb).andThen .now
 rw[osa_eq,refuse_eq]
 rw[hm] at hm'
 refine Aa (Aa (I.type.here (Aa (hm'.here ?_))))
 rw[refuseLoop_ref,SF.passes]
 refine Ac (Aa (I.type.here (Aa ((LJ X ha).here (Aa (L3.here ?_))))))
 refine A4 (hq attr.isSome) (fun f s' q=>?_) fun ø ø z=>z.elim
 obtain⟨rfl,q⟩:=q
 exact q
set_option tactic.hygienic true in
theorem OE{es:List BK}{n:Nat}(hd:h.get? dx=some (Db es n))(hl:(Dr name es).isSome=true)(hz:es.length<1000){Q:Fin->Ae->Prop}
  (hq:∀h' t' key n',h'.get? dx=some (Db (C4 name (BJ w.params name) (.str name key) v es) n')->(∀b o,b≠dx->h.get? b=some o->h'.get? b=some o)->Q (.done (.ret .none)) ⟨h',g,d,t',os⟩) {tk:Nat}:
  Av (AD prog w) A (Ge dx (.str name tk) name v) Q E ⟨h,g,d,t,os⟩:=by
 unfold Ge Ax.ObjectAttr.newKeyGuard
 refine Aa (Ac (Aa ?_))
 unfold nsSet
 refine Aa (Aa (wpAny_askSetting (Ac (Aa (wpAny_mkText (Aa (wpAny_loadPart hd ?_)))))))
 have c:aRefKeyMayBeTheName name es.toArray=false:=by
  rw[aRefKeyMayBeTheName_at,<-Array.any_toList,<-Array.any_toList]
  replace hl:(match es.find? fun e:BK=>e.key.isStr name with | some e=>some (some e.val) | none=>if es.any BK.refKey then none else some none).isSome=true:=hl
  cases he:es.find? fun e:BK=>e.key.isStr name with
  |some en=>
   rw[List.any_eq_true.mpr (Bn en (List.mem_of_find?_eq_some he) (List.find?_some he))];rfl
  |none=>
   rw[he] at hl
   refine Bool.and_eq_false_iff.mpr (.inr ?_)
   cases z:es.any BK.refKey with
   |true=>rw[z] at hl;exact nomatch hl
   |false=>rfl
 refine(?_:Av _ _ (if aRefKeyMayBeTheName name es.toArray=true then _ else _) _ _ _)
 refine Aj c ?_
 have hput:=putName_dict name (BJ w.params name) (.str name t) v es n
 have hd':(h.update dx (Df.putName name (BJ w.params name) (.str name t) v)).get? dx=some (Db (C4 name (BJ w.params name) (.str name t) v es) (putN name es n)):=by
  exact Aj (A8 _ hd (by refine Aj hput ?_;rfl)) (Aj hput rfl)
 refine wpAny_updatePart hd ?_
 refine Aa (wpAny_lookBehind hd' (pastItsLine_dict (by have:=ER name (BJ w.params name) (.str name t) v es;refine Aj FJ (Aj sizeLine_eq ?_);exact CY xa (Lp (.num 16777216) (.num 1)) [.l xa (Lp xb (.num 1)),.t xb (.num 1000)] As this hz)) ?_)
 exact Ac (hq _ _ _ _ hd' fun b o hb e=>(A1 _ _ (BB hb)).trans e)
theorem Tw{vs:Array Ab}(e:K6 K name)(X:K.In h)(hx:h.get? x=some {cls:=.ref CE,data:=.fields vs})
  (hq:∀h' t' key n',h'.get? x=some {cls:=.ref CE,dict:=some h.objs.size,data:=.fields vs}->h'.get? h.objs.size=some (Db (C4 name (BJ w.params name) (.str name key) v []) n')->(∀b o,b≠x->h.get? b=some o->h'.get? b=some o)->Q () ⟨h',g,d,t',os⟩):
  Av (AD prog w) A (setAttr (.ref x) name v) Q E ⟨h,g,d,t,os⟩:=by
 refine C9 e.cls fun cd hc hm hd=>?_
 refine Og e X (show CH h x _ CE none from⟨hx,rfl,rfl,trivial⟩) fun b=>?_
 refine Aa (Ac (Aa (Aa (wpAny_loadPart hx (Aa ((looks_clsIn X hc).here ?_))))))
 refine Aj hd ?_
 have hx1:(h.push Jf).get? x=some {cls:=.ref CE,data:=.fields vs}:=Af _ hx
 have hne:h.objs.size≠x:=Cq (AB hx)
 have hx2:((h.push Jf).update x fun o=>{o with dict:=some h.objs.size}).get? x=some {cls:=.ref CE,dict:=some h.objs.size,data:=.fields vs}:=A8 _ hx1 rfl
 have Su:((h.push Jf).update x fun o=>{o with dict:=some h.objs.size}).get? h.objs.size=some (Db [] 0):=(A1 _ _ (BB hne)).trans (DW rfl rfl)
 refine Aa (LM (Aa (wpAny_update' hx1 (Ac ?_))))
 refine OE Su rfl (by decide) fun h' t' key n' e1 k=>⟨rfl,hq h' t' key n' (k _ _ (BB hne) hx2) e1 fun b o hb eb=>k b o (AW (AB eb)) ((A1 _ _ (BB hb)).trans (Af _ eb))⟩
theorem Tz{vs:Array Ab}{es:List BK}{n:Nat}(e:K6 K name)(X:K.In h)(hx:h.get? x=some {cls:=.ref CE,dict:=some dx,data:=.fields vs})(hd:h.get? dx=some (Db es n))(hl:(Dr name es).isSome=true)(hz:es.length<1000)
  (hq:∀h' t' key n',h'.get? dx=some (Db (C4 name (BJ w.params name) (.str name key) v es) n')->(∀b o,b≠dx->h.get? b=some o->h'.get? b=some o)->Q () ⟨h',g,d,t',os⟩):
  Av (AD prog w) A (setAttr (.ref x) name v) Q E ⟨h,g,d,t,os⟩:=by
 refine C9 e.cls fun cd hc hm hcd=>?_
 refine Og e X (show CH h x _ CE (some (Db es n)) from⟨hx,rfl,rfl,hd⟩) fun b=>?_
 refine Aa (Ac (Aa (Aa (wpAny_loadPart hx (Aa ((looks_clsIn X hc).here ?_))))))
 refine Aj hcd ?_
 exact Ac (OE hd hl hz fun h' t' key n' e1 k=>⟨rfl,hq h' t' key n' e1 k⟩)
end
theorem TM(I:IS W){b:List Ef}{p0 p1 p2 p3 p4 p5 p6 p7 p8 p9 p10 p11 p12 p13:Pos}{L:Ai}{h1:Ah}{m:Ao->Option Ab}{c v:Ab}{Q:Flow->Ae->Prop}{E:Ab->Ae->Prop}(hpl:(p2.endLine==p4.line)=true)(X:W.K.In h)(hxK:W.K.lookup x=none)(ec:K6 W.K CT)(et:K6 W.K F6)(T:Top W.p W.loose W.mean W.mg W.mb h)
  (F:DZ h L h1 m) (hx:h.get? x=some {cls:=.ref CE,data:=.fields #[.ref t0,.none,.none,.none,.bool false,.none]}) (ms:m ID=some (.ref x)) (mc:m CT=some c) (mt:m F6=some v)
  (hq:∀h' t',SB h x c h'->Q .next ⟨h',g,d,t',os⟩):
  PySem.wpAt W.M A (.func b (ksEnv I.qual I.scope L I.fI (.ref I.cda) I.cc)) (execs (Os p0 p1 p2 p3 p4 p5 p6 p7 p8 p9 p10 p11 p12 p13) (ksEnv I.qual I.scope L I.fI (.ref I.cda) I.cc)) Q E ⟨h1,g,d,t,os⟩:=by
 have hxC:x≠CE:=by
  rintro rfl
  have:=X _ _ I.hC
  replace this:=hx▸this;cases this
 refine AO I.hself fun ar har hse=>?_
 obtain⟨cd,hcls,hmro⟩:∃cd,clsIn W.K CE=some cd/\cd.mro=.ref CE::HX:=⟨_,by unfold clsIn;exact Aj I.hC rfl,rfl⟩
 refine Kq (ks_wpAt_Expr_any (ks_wpAt_MethodCall (ks_node (s:=⟨h1,g,d,t,os⟩) F X (news:=[]) (fun ø q=>nomatch q) T I.ho har (Aj hse ms) (show CH h1 x _ CE none from⟨F.keep _ _ hx,rfl,rfl,trivial⟩) I.hcode I.hvs I.hfile I.hcell hcls ?_ I.hsup (by decide+kernel) I.sc1 I.sc2 (Aj hse I.sc3) I.sk I.htop (by decide+kernel) fun so h2 F2 N2 ø=>?_) (Wq hpl)) (by unfold interactive;refine Aj (show(ksEnv I.qual I.scope L I.fI (.ref I.cda) I.cc).scope.kind=_ from I.sk) ?_;rfl) rfl)
 ·unfold mroIn;rw[hcls,IX,hmro];rfl
 have X2:W.K.In h2:=X.keeps F2.keep
 have hC2:=X2 _ _ I.hC
 have xne:x≠L:=fun q=>by
  clear N2 F2;subst q
  refine Kk F.ns fun o ø ø e dd ø=>?_
  replace e:=F.keep _ _ hx▸e;obtain rfl:=Ad e;cases dd
 have hx2:=F2.keep _ _ hx
 have hm:Looks (AD W.prog W.w) h2 (mroOf (.ref CE)) cd.mro:=(looks_clsIn X2 hcls).andThen .now
 refine NB (N2 _ (.head _)).1 (looks_opaque X2 I.hany) hm (by refine Aj hmro ?_;rfl) X2 (Pd _) Ib FF.lookup hxC (by decide+kernel) (fun A t R r=>Vq hC2 hx2 rfl r) ?_
 have hx3:=Af (wrapObj x) hx2
 have F3:DZ h L (h2.push (wrapObj x)) m:=F2.push _
 refine callWith_of (P:=fun h=>h.get? h2.objs.size=some (wrapObj x)) rfl (fun h e=>Bn .machine (.inr (.inl rfl)) ((Looks.ld e).andThen .now)) (Calls.evalArgs_plain (Iv (K0 (Ft I.sk I.sc4 F3.ns mc (II ⟨DW rfl rfl,?_⟩)) (by decide+kernel))))
 refine So (Af _ hC2) (DW rfl rfl) hx3 ?_
 generalize hT:(h2.push (wrapObj x)).objs.size=T0
 have k5:∀b o,b≠x->h2.get? b=some o->(((h2.push (wrapObj x)).push {cls:=.type "tuple",data:=.seq #[c]}).update x (CF fun y=>y.setIfInBounds 0 (.ref T0))).get? b=some o:=fun b o hb e=>
  (A1 _ _ (BB hb)).trans (Af _ (Af _ e))
 have hx5:(((h2.push (wrapObj x)).push {cls:=.type "tuple",data:=.seq #[c]}).update x (CF fun y=>y.setIfInBounds 0 (.ref T0))).get? x=some {cls:=.ref CE,data:=.fields #[.ref T0,.none,.none,.none,.bool false,.none]}:=
  A8 _ (Af _ hx3) rfl
 generalize ((h2.push (wrapObj x)).push {cls:=.type "tuple",data:=.seq #[c]}).update x (CF fun y=>y.setIfInBounds 0 (.ref T0))=h5 at k5 hx5 ⊢
 have ns5:h5.Ns L m:=F2.ns.at' fun o e=>k5 L o (BB xne) e
 have inK:∀{h':Ah},(∀b o,b≠x->h2.get? b=some o->h'.get? b=some o)->W.K.In h':=fun k a o e=>k a o (fun q=>by replace e:=hxK▸(q▸e);cases e) (X2 _ _ e)
 have ld:∀{h':Ah} {t':Nat} {nm:Ao} {u:Ab} {p:Pos} {Q:Ab->Ae->Prop} {E:Ab->Ae->Prop},h'.Ns L m->I.scope.names.lookup nm=some .local->m nm=some u->(nm==("__debug__":Ao))=false->Q u ⟨h',g,d,t',os⟩->Av W.M A (FO (.Name nm p) (ksEnv I.qual I.scope L I.fI (.ref I.cda) I.cc)) Q E ⟨h',g,d,t',os⟩:=fun n l e nd q=>
  K0 (Ft I.sk l n e q) nd
 refine Kq (ks_wpAt_Assign_Attr (wpAt_of_wpAny (ld ns5 I.sc4 mc (by decide+kernel) (ld ns5 I.sc3 ms (by decide+kernel) ?_))) rfl)
 refine Tw ec (inK k5) hx5 fun h6 t6 key n6 e6 d6 k6=>?_
 have ns6:h6.Ns L m:=ns5.at' fun o e=>k6 L o (BB xne) e
 have k26:∀b o,b≠x->h2.get? b=some o->h6.get? b=some o:=fun b o hb e=>k6 b o hb (k5 b o hb e)
 refine Kq (ks_wpAt_Assign_Attr (wpAt_of_wpAny (ld ns6 I.sc5 mt (by decide+kernel) (ld ns6 I.sc3 ms (by decide+kernel) ?_))) rfl)
 have hgl:(Dr F6 (C4 CT (BJ W.w.params CT) (.str CT key) c [])).isSome=true:=rfl
 refine Tz et (inK k26) e6 d6 hgl (DJ (ER _ _ _ _ _) (by decide)) fun h7 t7 key7 n7 d7 k7=>?_
 have lt:∀b o,b≠x->h.get? b=some o->b≠h5.objs.size:=fun b o hb e=>AW (AB (k5 b o hb (F2.keep _ _ e)))
 have xs:x≠h5.objs.size:=AW (AB hx5)
 refine wpAt_of_wpAny (Ac (hq h7 t7 ⟨fun b o hb e=>k7 b o (lt b o hb e) (k26 b o hb (F2.keep _ _ e)),h5.objs.size,_,_,?_,k7 _ _ xs e6,d7,(YU _ _ rfl),rfl⟩))
 cases z:h.get? h5.objs.size with
 |none=>rfl
 |some o=>exact absurd rfl (lt _ o (BB xs) z)
theorem RQ(I:IS W){args:Args}{c v:Ab}(hroom:A.depth<recursionLimit)(X:W.K.In h)(hxK:W.K.lookup x=none)(ec:K6 W.K CT)(et:K6 W.K F6)(T:Top W.p W.loose W.mean W.mg W.mb h)
  (hx:h.get? x=some {cls:=.ref CE,data:=.fields #[.ref t0,.none,.none,.none,.bool false,.none]})
  (hb:BindsTo ⟨h,g,d,t,os⟩ (ksFn I.name I.qual I.params I.body I.scope I.dV I.kV I.doc I.pm I.an (.ref I.cda) I.ct I.cc) args [(ID,.ref x),(CT,c),(F6,v)])
  (hq:∀h' t',SB h x c h'->R (.ok (.ret .none)) ⟨h',g,d,t',os⟩):BY W.M A (.call (.ref I.fI) args) R ⟨h,g,d,t,os⟩:=by
 refine FN fun g0 k0=>?_
 obtain⟨p0,p1,p2,p3,p4,p5,p6,p7,p8,p9,p10,p11,p12,p13,hbd,hpl⟩:=I.hbody
 refine k0 ?_
 refine ks_codeAny_call_defAt hroom (X _ _ I.ho) rfl T.nolimit (codeRec_of X I.hcd) rfl hb I.sce ?_ (fun h1 hns hk=>?_) I.sco I.sge I.sk
 ·intro y hy
  simp only[Al,Gh,or_false] at hy
  rcases hy with rfl | rfl | rfl
  ·exact I.sc3
  ·exact I.sc4
  ·exact I.sc5
 ·refine Aj hbd ?_
  exact TM I hpl X hxK ec et T ⟨hns,hk,Ay _⟩ hx rfl rfl rfl hq
end
theorem PX{M:Model}{A:Bt}{E:Ab->Ae->Prop}{env:Env}{s:Ae}{x:Sem Ab}{Q:Flow->Ae->Prop}{cls:Ae->Prop}
  (hcls:∀s,cls s->∃nm q N bs sub sn ab col dd k0 k1 k2 k3 k5,s.heap.get? CE=some (excClassObj nm q CE N bs HX true sn sub ab col dd k0 k1 k2 k3 k5 "Exception.__new__"))
  (h:Av M A x (fun v s₁=>∃e dx a0,v=.ref e/\A.handled=none/\cls s₁/\s₁.heap.get? e=some {cls:=.ref CE,dict:=dx,data:=.fields #[a0,.none,.none,.none,.bool false,.none]}/\E (.ref e) s₁) E s):
  Av M A (raiseStmt env (some x) none) Q E s:=by
 have hcB:(B9 CE::HX).contains (.type "BaseException")=true:=by decide+kernel
 unfold raiseStmt
 refine Aa (A4 h (fun v s₁ h₁=>?_) fun ø ø x=>x)
 refine FN fun g0 k0=>?_
 refine Ss h₁ fun e dx a0 eq3 hh hc he hE=>?_
 subst eq3
 obtain⟨nm,q,N,bs,sub,sn,ab,col,dd,k0,k1,k2,k3,k5,hC⟩:=hcls _ hc
 obtain⟨h,g,d,t,os⟩:=s₁
 refine k0 ?_
 repeat first | with_reducible refine GH he ?_ | with_reducible refine GH hC ?_ | (with_reducible refine wpAny_isSubtype_exc hC ?_;refine Aj hcB ?_) | with_reducible refine Aa ?_ | with_reducible refine Ac ?_ | with_reducible refine Au ?_ | wp_delta | ((with_reducible apply wpAny_load');focus (heap_get;done)) | ((with_reducible apply Cw);focus (rfl;done)) | ((with_reducible apply Gc);focus (rfl;done))
 exact JE hh hE
section
variable {T:Txt}{as:List Internal.E}{xs:List Expr}{pos cpos p:Pos}{id:Ao}
theorem SR{W:Hx}(I:IS W){P:Ey}{ρ:Ce}{vs:List V}{us:List Ab}(r:B8 P ρ vs us){X:Ao->Prop}(q:WV vs (fun c=>vStr c X) fun c ø=>vStr c X):
  ∃c cv,([]++us).length<=Bp/\X c/\∀(s:Ae) (e:Ai),W.K.In s.heap->∃tv,BindsTo s (ksFn I.name I.qual I.params I.body I.scope I.dV I.kV I.doc I.pm I.an (.ref I.cda) I.ct I.cc) ⟨.ref e::us,[]⟩ [(ID,.ref e),(CT,.str c cv),(F6,tv)]:=
 WV.er q r (fun x v r q=>vStr.el q r fun c cv q=>F1 c cv (lB rfl) q fun s e X=>⟨_,kp_binds X (I.bind1 _ _)⟩) fun x v y w r r2 q=>vStr.el q r fun c cv q=>F1 c cv (lB rfl) q fun s e X=>⟨_,kp_binds X (I.bind2 _ _ _)⟩
theorem WH(k:Et T)(I:IS T.W)(ec:K6 T.W.K CT)(et:K6 T.W.K F6)(hke:HZ T.W.K (.ref CE)=true)(hs:xs.all Bf=true)(hg:Fz T.W.K T.X id (·==.ref CE)=true)(ha:E2 T as xs):
  DM T (.raise as) (.Raise (some (.Call (.Name id p) xs [] cpos)) none pos):=fun g fr σ N R X h=>by
 rw[arm_exec_Raise]
 refine Aa (Bw ?_)
 refine AO (Fz.load k hg) fun u eu ld=>?_
 obtain rfl:=A6 eu
 refine PX (cls:=fun s=>T.W.K.In s.heap) (fun s X=>⟨_,_,_,_,_,_,_,_,_,_,_,_,_,_,X _ _ I.hC⟩) (Aa (A4 (HB (ld σ (E5 (P:=fun h=>T.W.K.In h/\HZ T.W.K (.ref CE)=true) (.refl σ) hs ha h (fun h q=>keeps_K q.2 h q.1) fun υ vs us S r q=>?_))) (fun v s3 h3=>Aa (Bw (Ac h3))) fun ø ø x=>x.s))
 have hh:=CW q.1 (τ:=υ)
 have X0:=υ.kin k
 refine⟨⟨X0,hke⟩,?_⟩
 have G:=Ah.Ns.of_isNs (isNs_of_in X0 I.hN)
 have XK:∀{h:Ah},(∀b o,T.W.hb.get? b=some o->h.get? b=some o)->T.W.K.In h:=fun x=>k.wok.kin.keeps x
 refine EM (SR I r (X:=fun c=>X c υ.H) q.2) fun c cv hsz hc hb=>?_
 refine wpAny_call_exc_init (h:=υ.s.heap) (hrest:=hsz) K8 (X0 _ _ I.hC) G (PP X0 G I.hi) (X0 _ _ I.ho) rfl fun h1 e M=>?_
 refine FN fun g0 k0=>?_
 refine C9 M.there fun t0 e1 ø ø=>?_
 refine k0 ?_
 have old1:∀b o,T.W.hb.get? b=some o->h1.get? b=some o:=fun b o x=>M.keeps b o (υ.hr.old b o x)
 have hxK:T.W.K.lookup e=none:=by
  cases z:T.W.K.lookup e with
  |none=>rfl
  |some o=>exact nomatch (X0 _ _ z).symm.trans M.new
 refine Eb (hb ⟨h1,υ.s.gens,υ.s.drawn,υ.s.toks,υ.s.os⟩ e (XK old1)) fun tv hb=>?_
 refine Eh (RQ I (by have:=g.ok.depth;refine(?_:g.ct.A.depth+1<_);unfold recursionLimit;exact OX (Lp xa (.num 1)) (.num 1000) [.t (Lp xa (.mulL 3 xb)) (.num 990)] As this) (XK old1) hxK ec et (k.wok.top.keeps old1) e1 hb fun h2 t2 i=>⟨rfl,e,?_⟩)
 refine Ss i.made fun dx a0 od n1 e2 e3 e4 e5=>?_
 have ne:∀b o,υ.s.heap.get? b=some o->b≠e:=fun b o x q=>nomatch (q▸x).symm.trans M.new
 have keep:∀b o,υ.s.heap.get? b=some o->h2.get? b=some o:=fun b o x=>i.keep b o (ne b o x) (M.keeps b o x)
 have fx:υ.s.heap.get? dx=none:=by
  cases z:υ.s.heap.get? dx with
  |none=>rfl
  |some o=>exact nomatch (M.keeps dx o z).symm.trans n1
 have S2:Ek g.ct.na υ.s.heap υ.ρ h2 υ.ρ:=.all keep
 have exo:∀{a o},υ.s.heap.get? a=none->h2.get? a=some o->Vw σ.s.heap h2 g.ct.na υ.ρ a o:=fun z y=>⟨y,S.stp.fresh z (υ.hr.fresh_na z) (υ.hr.fresh z),υ.hr.fresh_na z,υ.hr.fresh z⟩
 exact⟨some dx,a0,rfl,hh,XK fun b o x=>keep b o (υ.hr.old b o x),e2,c,υ.H,S.rest.trans ⟨rfl,rfl⟩,⟨e,υ.ρ,none,rfl,.of (S.stp.trans S2),υ.hr.keeps (fun b o ø x=>keep b o x) fun b ø m n=>n.keeps keep,
  (oX _ _ dx od (exo M.new e2) (exo fx e3) ⟨rfl,rfl,rfl,rfl,e4,_,e5⟩ rfl),.inl rfl⟩,hc⟩
end
noncomputable def Ct.under(ct:Ct)(c:Code):Ct:={ct with A:=ct.A.under c}
theorem GS.under(ok:GS (n+1) ct):GS n (ct.under (.builtin "type.__call__" ⟨.ref a::us,[]⟩)) where
 frames:=ok.frames
 head:=ok.head
 envf:=ok.envf
 fna:=ok.fna
 loc:=ok.loc
 glob:=ok.glob
 blt:=ok.blt
 kind:=ok.kind
 depth:=by have:=ok.depth;refine(?_:ct.A.depth+1+3*n<990);exact OX (Lp (Lp xa (.num 1)) (.mulL 3 xb)) (.num 990) [.t (Lp xa (.mulL 3 (Lp xb (.num 1)))) (.num 990)] As this
 units:=by have:=ok.units;refine(?_:ct.A.units+1+30*n+200<cLine);exact Sr (Lp (Lp (Lp xa (.num 1)) (.mulL 30 xb)) (.num 200)) xc [.t (Lp (Lp xa (.mulL 30 (Lp xb (.num 1)))) (.num 200)) xc] As this
noncomputable abbrev VE.cfg(T:VE)(n:Nat)(hd:Bool):FP:=⟨OK T n,T.meth,T.fld,T.isFn,T.cdt,hd,T.fuel⟩
structure S9 (K:CD)(a f:Ai):Prop where
 makes:makesIn K a=true
 init:GP K (.ref a) Yf=some (some (.ref f))
 fn:typeIn K (.ref f)=some (.type "function")
 keep:HZ K (.ref a)=true
theorem Wz(ih:∀hd,K2 W (T.cfg n hd) n)(wok:Xo W)(c:S9 W.K a init)
  (ok:GS (n+1) ct) (R:HR W.w W.hb ct.na s.heap ρ H) (hdl:OW ct.A ct.na s.heap ρ hd) (rv:B8 (Kd ct.na s.heap ρ) ρ vs us) (q:OK T n hd init (.ref H.length::vs) (H++[.inst a []]) (fun v H'=>v=.none/\Q (.ref H.length) H') X):
  BY W.M ct.A (.call (.ref a) ⟨us,[]⟩) (Mk W ct s ρ Q X) s:=by
 obtain⟨h,g,d,t,os⟩:=s
 have X0:W.K.In h:=wok.kin.keeps R.old
 refine make_core (makes_of X0 c.makes) (LJ X0 c.init) (fun self=>bind_fn X0 self c.fn) (.inl rfl) ?_
 have k:∀b o,h.get? b=some o->((h.push Jf).push (instObj a h.objs.size)).get? b=some o:=fun b o e=>Af _ (Af _ e)
 have hx:((h.push Jf).push (instObj a h.objs.size)).get? (h.objs.size+1)=some (instObj a h.objs.size):=DW (by rw[Dx]) rfl
 obtain⟨R1,S1,at_⟩:=R.push (p:=(h.objs.size+1,h.objs.size)) (o:=.inst a []) (fun b o ø e=>k b o e) (fun ø ø ø n=>n.keeps k) (Go (Nat.le_succ _)) (AG _)
  ⟨Kb _,hx,List.nodup_nil,[],0,Af _ (DW rfl rfl),.nil⟩
 have z:=(ih hd (ct.under (.builtin "type.__call__" ⟨.ref a::us,[]⟩)) ⟨(h.push Jf).push (instObj a h.objs.size),g,d,t,os⟩ _ _ hd init (.ref H.length::vs) (.ref (h.objs.size+1)::us) _ X ok.under R1 (hdl.stp S1) (.cons (.ref at_) (S1.vrs rv)) q).2
 refine FM z fun r s' y=>?_
 induction r with
 |error e=>exact EM y fun c H' r er q=>F1 c H' r (er.back S1) q
 |ok f=>induction f with
  |ret u=>
   refine Ss y fun ρ' H' v r S R' rv hq=>Cd hq fun e q=>?_
   clear y;clear hq;subst e
   cases rv
   exact⟨rfl,ρ',H',_,r,S1.trans S,R',.ref (S.le _ _ at_),q⟩
  |_=>exact y
noncomputable def Xi(W:Hx)(T:VE)(a:Ai)(f:Fn):Prop:=∃X fd body,∀C n,Et ⟨W,X,C,n⟩->(C.cdt=T.cdt/\C.meth=T.meth/\C.fld=T.fld)->FnAt ⟨W,X,C,n⟩ a f fd body/\Fe ⟨W,X,C,n⟩ f.body body
structure Qt (W:Hx)(T:VE):Prop where
 wok:Xo W
 cd:Rq W T.cdt
 sys:∃c o,Dl<c/\W.hb.get? c=some o
 fld:∀K name,T.fld K name=true->KW W.K K name=true
 meth:∀K name f,T.meth K name=some f->Ip W.K K name f=true
 isFn:∀a,T.isFn a=true->fnIn W.K a=true
 glo:∀a g,T.glo a=some g->match g with
  |.fn f=>Xi W T a f
  |.cls init _=>S9 W.K a init
theorem Qt.tok(k:Qt W T)(h:K2 W (T.cfg n hd) n)(X:Cx):Et ⟨W,X,T.cfg n hd,n⟩:=⟨k.wok,k.cd,h,k.sys,k.fld,k.meth,k.isFn⟩
theorem KD(k:Qt W T):∀n hd,K2 W (T.cfg n hd) n
 |0=>fun ø=>fun ø ø ø ø ø ø ø ø ø ø ø ø ø ø q=>q.elim
 |n+1=>fun ø=>fun ct s ρ H hd a vs us Q X ok R hdl rv q=>by
  refine AO (vO.el (G:=∃g,T.glo a=some g/\_) q fun g e q=>Bn g e q) fun gl e q=>?_
  have z:=k.glo a gl e
  clear e;induction gl with
  |fn f=>
   refine nA z fun X' fd body z=>?_
   obtain⟨fa,hb⟩:=z _ _ (k.tok (KD k n hd) X') ⟨rfl,rfl,rfl⟩
   exact⟨fa.keep,U4 k.wok fa hb ok.toCt0 R hdl rv q⟩
  |cls init np=>exact⟨z.keep,Wz (KD k n) k.wok z ok R hdl rv q⟩
noncomputable def gd{α:Type}(b:Bool)(a:α):Option α:=bif b then some a else none
theorem gd.el{α:Type}{b:Bool}{a e:α}{G:Prop}(h:gd b a=some e)(f:b=true->a=e->G):G:=by
 induction b with
 |true=>exact f rfl (Ad h)
 |false=>cases h
theorem CC{α β:Type}{o:Option α}{f:α->Option β}{e:β}{G:Prop}(h:o.bind f=some e)(k:∀a,o=some a->f a=some e->G):G:=
 AO (BC.mp h) fun a h1 h2=>k a h1 h2
theorem om{α β:Type}{o:Option α}{f:α->β}{e:β}{G:Prop}(h:o.map f=some e)(k:∀a,o=some a->f a=e->G):G:=
 AO (Bc.mp h) fun a h1 h2=>k a h1 h2
theorem an{a b:Bool}{G:Prop}(h:(a&&b)=true)(k:a=true->b=true->G):G:=Cd (bM h) fun x y=>k x y
set_option genCtorIdx true in
inductive Kx where
 |const | name | bin | un | cmp | bool | ite | tup | lst | dct | call | attr | sub | slc | comp | no
 deriving DecidableEq
structure Ux where
 t:Kx
 p:Pos
 a:Expr
 b:Expr
 c:Expr
 l:List Expr
 s:Ao
 k:Const
 op:E8
 u:UnaryOp
 bo:BoolOp
 os:List CmpOp
 oa:Option Expr
 ob:Option Expr
 oc:Option Expr
 g:List Comprehension
 sc:EA
noncomputable abbrev e0:Expr:=.Name ⟨#[]⟩ ⟨0,0,0,0⟩
noncomputable abbrev OS:Ux:=⟨.no,⟨0,0,0,0⟩,e0,e0,e0,[],⟨#[]⟩,.none,.Add,.Not,.And,[],none,none,none,[],⟨.function,[],false,false,[]⟩⟩
noncomputable def Bo:Expr->Ux
 |.Constant c _ p=>{OS with t:=.const,k:=c,p:=p}
 |.Name s p=>{OS with t:=.name,s:=s,p:=p}
 |.BinOp a op b p=>{OS with t:=.bin,a:=a,op:=op,b:=b,p:=p}
 |.UnaryOp u a p=>{OS with t:=.un,u:=u,a:=a,p:=p}
 |.Compare a os l p=>{OS with t:=.cmp,a:=a,os:=os,l:=l,p:=p}
 |.BoolOp bo l p=>{OS with t:=.bool,bo:=bo,l:=l,p:=p}
 |.IfExp a b c p=>{OS with t:=.ite,a:=a,b:=b,c:=c,p:=p}
 |.Tuple l _ p=>{OS with t:=.tup,l:=l,p:=p}
 |.List l p=>{OS with t:=.lst,l:=l,p:=p}
 |.Dict ks vs p=>{OS with t:=match ks,vs with | [],[]=>.dct | _,_=>.no,p:=p}
 |.Call a l ks p=>{OS with t:=match ks with | []=>.call | _=>.no,a:=a,l:=l,p:=p}
 |.Attribute a s p=>{OS with t:=.attr,a:=a,s:=s,p:=p}
 |.Subscript a b p=>{OS with t:=.sub,a:=a,b:=b,p:=p}
 |.Slice a b c p=>{OS with t:=.slc,oa:=a,ob:=b,oc:=c,p:=p}
 |.ListComp a g sc p=>{OS with t:=.comp,a:=a,g:=g,sc:=sc,p:=p}
 |_=>OS
noncomputable def Ux.Is(k:Kx)(u:Ux)(x:Expr):Prop:=match k with
 |.const=>∃k,x=.Constant u.k k u.p
 |.name=>x=.Name u.s u.p
 |.bin=>x=.BinOp u.a u.op u.b u.p
 |.un=>x=.UnaryOp u.u u.a u.p
 |.cmp=>x=.Compare u.a u.os u.l u.p
 |.bool=>x=.BoolOp u.bo u.l u.p
 |.ite=>x=.IfExp u.a u.b u.c u.p
 |.tup=>∃k,x=.Tuple u.l k u.p
 |.lst=>x=.List u.l u.p
 |.dct=>x=.Dict [] [] u.p
 |.call=>x=.Call u.a u.l [] u.p
 |.attr=>x=.Attribute u.a u.s u.p
 |.sub=>x=.Subscript u.a u.b u.p
 |.slc=>x=.Slice u.oa u.ob u.oc u.p
 |.comp=>x=.ListComp u.a u.g u.sc u.p
 |.no=>True
theorem hX(x:Expr):Ux.Is (Bo x).t (Bo x) x:=by
 cases x with
 |Constant=>exact⟨_,rfl⟩
 |Tuple=>exact⟨_,rfl⟩
 |Dict ks vs=>cases ks<;>induction vs<;>first | rfl | trivial
 |Call f xs ks=>induction ks<;>first | rfl | trivial
 |_=>first | rfl | trivial
set_option genCtorIdx true in
inductive Ks where
 |asg | aug | ite | for_ | while_ | ret | raise | expr | try_ | no
 deriving DecidableEq
structure Us where
 t:Ks
 p:Pos
 x:Expr
 y:Expr
 l:List Expr
 op:E8
 a:List Ef
 b:List Ef
 h:List ExceptHandler
noncomputable abbrev Sx:Us:=⟨.no,⟨0,0,0,0⟩,e0,e0,[],.Add,[],[],[]⟩
noncomputable def DV:Ef->Us
 |.Assign l y p=>{Sx with t:=.asg,l:=l,y:=y,p:=p}
 |.AugAssign x op y p=>{Sx with t:=.aug,x:=x,op:=op,y:=y,p:=p}
 |.If x a b p=>{Sx with t:=.ite,x:=x,a:=a,b:=b,p:=p}
 |.For x y a b p=>{Sx with t:=match b with | []=>.for_ | _=>.no,x:=x,y:=y,a:=a,p:=p}
 |.While x a b p=>{Sx with t:=match b with | []=>.while_ | _=>.no,x:=x,a:=a,p:=p}
 |.Return x p=>match x with
  |some x=>{Sx with t:=.ret,x:=x,p:=p}
  |none=>Sx
 |.Raise x y p=>match x,y with
  |some x,none=>{Sx with t:=.raise,x:=x,p:=p}
  |_,_=>Sx
 |.Expr x p=>{Sx with t:=.expr,x:=x,p:=p}
 |.Try a h c b p=>{Sx with t:=match c with | []=>.try_ | _=>.no,a:=a,h:=h,b:=b,p:=p}
 |_=>Sx
noncomputable def Us.Is(k:Ks)(u:Us)(s:Ef):Prop:=match k with
 |.asg=>s=.Assign u.l u.y u.p
 |.aug=>s=.AugAssign u.x u.op u.y u.p
 |.ite=>s=.If u.x u.a u.b u.p
 |.for_=>s=.For u.x u.y u.a [] u.p
 |.while_=>s=.While u.x u.a [] u.p
 |.ret=>s=.Return (some u.x) u.p
 |.raise=>s=.Raise (some u.x) none u.p
 |.expr=>s=.Expr u.x u.p
 |.try_=>s=.Try u.a u.h [] u.b u.p
 |.no=>True
theorem aJ(s:Ef):Us.Is (DV s).t (DV s) s:=by
 cases s with
 |For _ _ _ b=>induction b<;>first | rfl | trivial
 |While _ _ b=>induction b<;>first | rfl | trivial
 |Return x=>induction x<;>first | rfl | trivial
 |Raise x y=>induction x<;>induction y<;>first | rfl | trivial
 |Try _ _ c=>induction c<;>first | rfl | trivial
 |_=>first | rfl | trivial
theorem BN{x:Expr}{k:Kx}(h:(Bo x).t=k):Ux.Is k (Bo x) x:=h▸hX x
theorem Fl{x:Ef}{k:Ks}(h:(DV x).t=k):Us.Is k (DV x) x:=h▸aJ x
section
variable (K:CD)(m:List Ao)
noncomputable def sv:Ab->V
 |.str s _=>.str s
 |.int i _=>.int i
 |_=>.none
noncomputable def mQ:List (String×Bi):=[("len",.len),("isinstance",.isi),("abs",.abs),("min",.min),("ord",.ord),("sorted",.sorted),("str",.tStr),("tuple",.tTuple),("list",.tList)]
noncomputable def gv:Ab->V
 |.builtin s=>.bi ((mQ.lookup s).getD .len)
 |.type s=>.bi ((mQ.lookup s).getD .len)
 |.ref a=>match XP K a with
  |some o=>match o.data with
   |.dict _ _=>.cd a
   |.seq vs _=>.tup (vs.toList.map sv)
   |_=>.fn a
  |none=>.none
 |u=>sv u
noncomputable def cv:Const->V
 |.bool b=>.bool b
 |.int i=>.int i
 |.str s=>.str s
 |_=>.none
noncomputable def XC(id:Ao):V:=match iU K Em id with
 |some (some u)=>gv K u
 |_=>((bootBuiltins id).map (gv K)).getD .none
noncomputable def Qz(X:Cx)(id:Ao):Option E:=match Ra X.cx.l id with
 |some i=>gd (bD id "__debug__"&&bD id "__classdict__") (.l i)
 |none=>gd (XE K X (XC K id) id) (.k (XC K id))
noncomputable def dW(X:Cx)(id:Ao)(t:String):Bool:=Fz K X id (·==.type t)
noncomputable def Xx(x:Expr):Option (Ao×List Expr):=gd ((Bo x).t==.call&&(Bo (Bo x).a).t==.name) ((Bo (Bo x).a).s,(Bo x).l)
noncomputable def Kp{α β:Type}(l:List α)(k:α->Option β):Option β:=match l with
 |[a]=>k a
 |_=>none
noncomputable def Su{α β:Type}(l:List α)(k:α->α->Option β):Option β:=match l with
 |[a,b]=>k a b
 |_=>none
noncomputable def Xt(f:Bool->Expr->Option E):List Bool->List Expr->Option (List E)
 |_,[]=>some []
 |bs,x::xs=>(f (bs.headD false) x).bind fun e=>(Xt f bs.tail xs).bind fun es=>gd (Bf x) (e::es)
noncomputable def VH(op:BoolOp)(a b:E):E:=match op with
 |.And=>.and a b
 |.Or=>.or a b
noncomputable def cB(f:Expr->Option E)(op:BoolOp):List Expr->Option E
 |[]=>none
 |y::ys=>match ys with
  |[]=>f y
  |_=>(f y).bind fun a=>(cB f op ys).map (VH op a)
noncomputable def Mt(X:Cx)(x:Expr)(t:String):Option Expr:=(Xx x).bind fun c=>Kp c.2 fun y=>gd (dW K X c.1 t&&Bf y) y
noncomputable def cI(X:Cx)(f:Expr->Option E)(x:Expr):Option It:=match Mt K X x "reversed" with
 |some y=>(f y).map .rev
 |none=>match Mt K X x "enumerate" with
  |some y=>(f y).map .enum
  |none=>match Mt K X x "range" with
   |some y=>(f y).map .range
   |none=>match (Xx x).bind fun c=>Su c.2 fun y z=>gd (dW K X c.1 "zip"&&(Bf y&&Bf z)) (y,z) with
    |some yz=>(f yz.1).bind fun e=>(f yz.2).map (.zip e)
    |none=>(f x).map .it
noncomputable def JK(X:Cx)(id:Ao):Option Nat:=(Ra X.cx.l id).bind fun i=>gd (DB X id i) i
noncomputable def jS(X:Cx):List Expr->Option (List Nat)
 |[]=>some []
 |x::xs=>(gd ((Bo x).t==.name) (Bo x).s).bind fun s=>(JK X s).bind fun i=>(jS X xs).map (i::·)
noncomputable def iK(X:Cx)(x:Expr):Option Pt:=if (Bo x).t=.name then(JK X (Bo x).s).map .v else(gd ((Bo x).t==.tup) (Bo x).l).bind fun l=>(jS X l).map .t
noncomputable def VJ(X:Cx):List Expr->Option (List Pt)
 |[]=>some []
 |x::xs=>(iK X x).bind fun p=>(VJ X xs).map (p::·)
noncomputable def jV(X:Cx)(x:Expr):Option Tg:=(iK X x).bind fun p=>match p with
 |.v i=>some (.one i)
 |.t is=>Su is fun i j=>some (.two i j)
noncomputable def Xy(X:Cx):Nat->List (Ao×Cz)->List (Ao×Nat)
 |_,[]=>[]
 |n,(x,k)::r=>if k=.local then(if x=⟨#[46,48]⟩ then Xy X n r else(x,n)::Xy X (n+1) r) else match X.cx.l.lookup x with
  |some i=>(x,i)::Xy X n r
  |none=>Xy X n r
noncomputable def lN(it:It)(xt:Expr)(tg:Tg):Bool:=tg.ok&&(!It.tp it||HY xt)
noncomputable def cC(X:Cx)(f:Expr->Option E)(g:Cx->Expr->Option E)(t:Expr->Bool)(mu:Bool)(u:Ux):Option E:=Kp u.g fun G=>
 (jV (Mv X u.sc (Xy X X.cx.l.length u.sc.names)) G.target).bind fun tg=>(cI K X f G.iter).bind fun it=>(g (Mv X u.sc (Xy X X.cx.l.length u.sc.names)) u.a).bind fun e=>
  (match G.ifs with
   |[]=>some none
   |[c]=>(g (Mv X u.sc (Xy X X.cx.l.length u.sc.names)) c).bind fun ce=>gd (t c) (some ce)
   |_=>none).bind fun cond=>gd (G.is_async==0&&(Pf X u.sc (Xy X X.cx.l.length u.sc.names) tg.idx&&(lN it G.target tg&&EJ G.iter))) (.comp mu tg it cond e)
noncomputable def NE(t:Expr->Bool)(x:Expr):Bool:=if (Bo x).t=.cmp then true else if (Bo x).t=.bool then(Bo x).l.all t else if (Bo x).t=.un then(Bo x).u==.Not&&t (Bo x).a else PU x
noncomputable def Yl:Nat->Expr->Bool
 |0=>fun ø=>false
 |n+1=>NE (Yl n)
noncomputable def Xv(X:Cx)(f:Bool->Expr->Option E)(u o:Ux):Option E:=(f false o.a).bind fun eo=>(gd (Eu o.a&&o.p.endLine==u.p.line) ()).bind fun ø=>
 bif o.s==I8 then Kp u.l fun y=>(match Mt K X y "reversed" with
  |some z=>(f false z).map It.rev
  |none=>(f false y).bind fun e=>gd (Bf y) (It.it e)).map (.extend eo)
 else(Xt f [] u.l).bind fun es=>gd (decide (u.l.length<29)) (.mcall eo o.s es)
noncomputable def SY(X:Cx)(f:Bool->Expr->Option E)(mu:Bool)(x:Expr)(id:Ao)(xs:List Expr):Option E:=match Mt K X x "list" with
 |some y=>match Mt K X y "reversed" with
  |some z=>(f false z).map (.listRev mu)
  |none=>(f false y).map (.copy mu)
 |none=>(Qz K X id).bind fun e=>(Xt f [] xs).map (.call e)
noncomputable def jT(f:Expr->Option E):Option Expr->Option (Option E)
 |none=>some none
 |some x=>(f x).map some
noncomputable def Wr(x:Expr):Bool:=(Bo x).t==.un&&((Bo x).u==.USub&&((Bo (Bo x).a).t==.const&&MU (.int 1) (Bo (Bo x).a).k))
noncomputable def mS(f:Cx->Bool->Expr->Option E)(t:Expr->Bool)(X:Cx)(mu:Bool)(x:Expr)(k:Kx):Option E:=match k with
 |.const=>gd (MU (cv (Bo x).k) (Bo x).k) (.k (cv (Bo x).k))
 |.name=>Qz K X (Bo x).s
 |.bin=>(f X false (Bo x).b).bind fun eb=>if (Bo (Bo x).a).t=.lst/\(Bo x).op=.Mult then Kp (Bo (Bo x).a).l fun y=>(f X false y).bind fun ey=>gd (Bf y) (.rep ey eb)
   else(f X false (Bo x).a).map (.bin (Bo x).op · eb)
 |.un=>(f X false (Bo x).a).bind fun e=>if (Bo x).u=.USub then some (.neg e) else gd ((Bo x).u==.Not) (.not e)
 |.cmp=>(f X false (Bo x).a).bind fun ea=>match Kp (Bo x).os fun o=>Kp (Bo x).l fun b=>some (o,b) with
   |some ob=>(f X false ob.2).bind fun eb=>gd (EJ ob.2) (.cmp ob.1 ea eb)
   |none=>Su (Bo x).os fun o o2=>Su (Bo x).l fun b c=>(f X false b).bind fun eb=>(f X false c).bind fun ec=>gd (!lastMarks [o,o2] [b,c]) (.cmp2 o o2 ea eb ec)
 |.bool=>(gd (decide (2<=(Bo x).l.length)) ()).bind fun ø=>cB (f X false) (Bo x).bo (Bo x).l
 |.ite=>(f X false (Bo x).a).bind fun et=>(f X false (Bo x).b).bind fun ea=>(f X false (Bo x).c).bind fun eb=>gd (t (Bo x).a) (.ite et ea eb)
 |.tup=>(Xt (f X) [] (Bo x).l).bind fun es=>gd (decide (es.length<=Ap)) (.tup es)
 |.lst=>(Xt (f X) [] (Bo x).l).bind fun es=>gd (decide (es.length<=Ap)) (.lst mu es)
 |.dct=>some .dct
 |.call=>if (Bo (Bo x).a).t=.name then SY K X (f X) mu x (Bo (Bo x).a).s (Bo x).l else(gd ((Bo (Bo x).a).t==.attr) (Bo (Bo x).a)).bind fun o=>Xv K X (f X) (Bo x) o
 |.attr=>(f X false (Bo x).a).bind fun eo=>gd (Eu (Bo x).a) (.attr eo (Bo x).s)
 |.sub=>(f X false (Bo x).a).bind fun eo=>if (Bo (Bo x).b).t=.slc then(match (Bo (Bo x).b).oc with
    |none=>(jT (f X false) (Bo (Bo x).b).oa).bind fun l=>(jT (f X false) (Bo (Bo x).b).ob).map (.slc eo l)
    |some s=>gd (Wr s&&((Bo (Bo x).b).oa.isNone&&(Bo (Bo x).b).ob.isNone)) (.rev eo))
   else(f X false (Bo x).b).bind fun e=>gd (Ow (Bo x).b) (.idx eo e)
 |.comp=>cC K X (f X false) (fun X=>f X false) (t) mu (Bo x)
 |_=>none
noncomputable def mR(f:Cx->Bool->Expr->Option E)(t:Expr->Bool)(X:Cx)(mu:Bool)(x:Expr):Option E:=mS K f t X mu x (Bo x).t
noncomputable def cE:Nat->Cx->Bool->Expr->Option E
 |0=>fun ø ø ø=>none
 |n+1=>mR K (cE n) (Yl n)
noncomputable def kT(x:Expr):Bool:=(Bo x).t==.name&&m.contains (Bo x).s
noncomputable def mU(n:Nat)(X:Cx)(ts vs:List Expr):Option S:=(Xt (cE K n X) (ts.map (kT m)) vs).bind fun es=>(gd (decide (es.length<=Ap)) ()).bind fun ø=>(EZ X.scope ts vs).bind fun o=>match o with
 |none=>(VJ X ts).map (.asgTT · es)
 |some l=>match l with
  |[x,y]=>(JK X x).bind fun i=>(JK X y).bind fun j=>gd (i !=j) (.asgTT [.v i,.v j] es)
  |[x,y,z]=>(JK X x).bind fun i=>(JK X y).bind fun j=>(JK X z).bind fun k=>gd (i !=j&&(j !=k&&i !=k)) (.asgTT [.v i,.v j,.v k] es)
  |_=>none
noncomputable def Y0(n:Nat)(X:Cx)(t v:Expr):Option S:=if (Bo t).t=.name then(JK X (Bo t).s).bind fun i=>
  if (Bo v).t=.comp then(cC K X (cE K n X false) (fun X=>cE K n X false) (Yl n) (m.contains (Bo t).s) (Bo v)).map (.asg i) else(cE K n X (m.contains (Bo t).s) v).bind fun e=>gd (D9 v) (.asg i e)
 else if (Bo t).t=.tup then(if (Bo v).t=.tup then mU K m n X (Bo t).l (Bo v).l else(VJ X (Bo t).l).bind fun ps=>(cE K n X false v).bind fun e=>gd (Lg v) (.asgT ps e))
 else(cE K n X ((Bo t).t==.attr&&m.contains (Bo t).s) v).bind fun e=>(gd (D9 v) ()).bind fun ø=>(cE K n X false (Bo t).a).bind fun eo=>
  if (Bo t).t=.attr then some (.setA eo (Bo t).s e) else(gd ((Bo t).t==.sub) ()).bind fun ø=>
  if (Bo (Bo t).b).t=.slc then(Bo (Bo t).b).ob.bind fun h=>(cE K n X false h).bind fun eh=>gd ((Bo (Bo t).b).oa.isNone&&(Bo (Bo t).b).oc.isNone) (.setS eo eh e)
  else(cE K n X false (Bo t).b).map (.setI eo · e)
structure Hv where
 id:Ao
 x:Ao
 p1:Pos
 p2:Pos
 p3:Pos
 p4:Pos
 p5:Pos
noncomputable def QC(l:List ExceptHandler):Option Hv:=Kp l fun
 |.ExceptHandler t x b p5=>t.bind fun t=>x.bind fun x=>Kp b fun r=>gd ((Bo t).t==.name&&((DV r).t==.ret&&((Bo (DV r).x).t==.attr&&((Bo (Bo (DV r).x).a).t==.name&&((Bo (Bo (DV r).x).a).s==x&&(Bo (DV r).x).s==CT))))) ⟨(Bo t).s,x,(Bo t).p,(Bo (Bo (DV r).x).a).p,(Bo (DV r).x).p,(DV r).p,p5⟩
noncomputable def V0(f:Ef->Option S):List Ef->Option (List S)
 |[]=>some []
 |x::xs=>(f x).bind fun s=>(V0 f xs).map (s::·)
noncomputable def jU(n:Nat)(f:Cx->Ef->Option S)(X:Cx)(x:Ef)(k:Ks):Option S:=match k with
 |.asg=>Kp (DV x).l fun t=>Y0 K m n X t (DV x).y
 |.aug=>(cE K n X false (DV x).y).bind fun e=>(gd (Qx (DV x).op) ()).bind fun ø=>if (Bo (DV x).x).t=.name then(JK X (Bo (DV x).x).s).bind fun i=>gd ((Bo (DV x).x).s !="__classdict__") (.aug i (DV x).op e)
   else(cE K n X false (Bo (DV x).x).a).bind fun eo=>gd ((Bo (DV x).x).t==.attr) (.augA eo (Bo (DV x).x).s (DV x).op e)
 |.ite=>(cE K n X false (DV x).x).bind fun et=>(V0 (f X) (DV x).a).bind fun sa=>(V0 (f X) (DV x).b).bind fun sb=>gd (Yl n (DV x).x) (.ite et sa sb)
 |.for_=>(jV X (DV x).x).bind fun tg=>(cI K X (cE K n X false) (DV x).y).bind fun it=>(V0 (f X) (DV x).a).bind fun sb=>gd (EJ (DV x).y&&(!It.tp it||HY (DV x).x)) (.for_ tg it sb)
 |.while_=>(cE K n X false (DV x).x).bind fun et=>(V0 (f X) (DV x).a).bind fun sb=>gd (Yl n (DV x).x) (.while_ et sb)
 |.ret=>(cE K n X false (DV x).x).map .ret
 |.raise=>(Xx (DV x).x).bind fun c=>(Xt (cE K n X) [] c.2).bind fun es=>gd (Fz K X c.1 (·==.ref CE)) (.raise es)
 |.expr=>(cE K n X false (DV x).x).bind fun e=>gd (D9 (DV x).x) (.expr e)
 |.try_=>match (DV x).h with
   |[]=>Kp (DV x).a fun a=>Kp (DV a).l fun t=>(JK X (Bo t).s).bind fun i=>(cE K n X false (DV a).y).bind fun e=>(V0 (f X) (DV x).b).bind fun sf=>gd ((DV a).t==.asg&&((Bo t).t==.name&&(D9 (DV a).y&&!(DV x).b.isEmpty))) (.fin [.asg i e] sf)
   |hs=>(QC hs).bind fun h=>(JK X h.x).bind fun ø=>(V0 (f X) (DV x).a).bind fun sb=>
     gd ((DV x).b.isEmpty&&(X.cx.l.all (fun p=>X.scope.names.lookup p.1==some .local)&&((X.scope.names.lookup h.x==some .local)&&((h.x !="__debug__"&&h.x !="__classdict__")&&Fz K X h.id (·==.ref CE))))) (.try_ sb)
 |_=>none
noncomputable def mT(n:Nat)(f:Cx->Ef->Option S)(X:Cx)(x:Ef):Option S:=jU K m n f X x (DV x).t
noncomputable def cS(n:Nat):Nat->Cx->Ef->Option S
 |0=>fun ø ø=>none
 |k+1=>mT K m n (cS n k)
end
noncomputable def YE:Nat->List (Ao×Cz)->List (Ao×Nat)
 |_,[]=>[]
 |n,(x,k)::r=>if k=.local\/k=.cell then(x,n)::YE (n+1) r else YE n r
noncomputable def iO(sc:EA):Cx:=⟨⟨YE 0 sc.names,false⟩,sc⟩
theorem R7{K L:CD}{c:Ai}{q:Ao}(z:BP c K=BP c L):codeIn K (.ref c) q=codeIn L (.ref c) q:=by
 unfold codeIn;dsimp only;rw[z]
noncomputable def Q1(K:CD)(v:Ab)(q:Ao):Bool:=Sj v fun c=>(XP K c).any fun o=>codeIn [(c,o)] (.ref c) q
theorem Q1.out{K:CD}{v:Ab}{q:Ao}(h:Q1 K v q=true):codeIn K v q=true:=
 AO (Sj.out h) fun c e h=>AO ((Option.any_eq_true _ _).mp h) fun o e1 h=>e▸(R7 ((bA e1).trans (by rw[B1,beq_self_eq_true]))).trans h
noncomputable def T9(K:CD)(a:Ai):Option DT:=(XP K a).bind fun o=>X6 o.data
noncomputable def Qy:FuncBody->Option (List Ef)
 |.stmts b=>some b
 |.expr _=>none
theorem Qy.el{x:FuncBody}{b:List Ef}(h:Qy x=some b):x=.stmts b:=by
 induction x with
 |stmts f=>exact congrArg _ (Ad h)
 |expr _=>exact kW h
noncomputable def Yy(fd:DT):Option (List Ef):=Qy fd.body
noncomputable def cF(K:CD)(m:List Ao)(a:Ai):Option (List S):=(T9 K a).bind fun fd=>(Yy fd).bind fun b=>V0 (cS K m 12 8 (iO fd.scope)) b
theorem Kp.el{α β:Type}{l:List α}{k:α->Option β}{e:β}{G:Prop}(h:Kp l k=some e)(f:∀a,l=[a]->k a=some e->G):G:=by
 cases l with
 |nil=>cases h
 |cons a l=>induction l with
  |nil=>exact f a rfl h
  |cons=>cases h
theorem Su.el{α β:Type}{l:List α}{k:α->α->Option β}{e:β}{G:Prop}(h:Su l k=some e)(f:∀a b,l=[a,b]->k a b=some e->G):G:=by
 cases l with
 |nil=>cases h
 |cons a l=>cases l with
  |nil=>cases h
  |cons b l=>induction l with
   |nil=>exact f a b rfl h
   |cons=>cases h
theorem ie{p:Prop}[Decidable p]{α:Type}{a b e:α}{G:Prop}(h:(if p then a else b)=e)(f:p->a=e->G)(g:b=e->G):G:=by
 by_cases q:p
 ·rw[if_pos q] at h;exact f q h
 ·rw[if_neg q] at h;exact g h
theorem kq{a b:Kx}(h:(a==b)=true):a=b:=A6 h
theorem Xx.el{x:Expr}{c:Ao×List Expr}(h:Xx x=some c):∃p pos,x=.Call (.Name c.1 p) c.2 [] pos:=
 gd.el h fun h e=>an h fun h1 h2=>⟨_,_,by
  refine D5 e ?_
  exact(BN (kq h1)).trans (congrArg (fun f=>Expr.Call f _ [] _) (BN (kq h2)))⟩
section
variable {T:Txt}{pos:Pos}{e:Internal.E}{x:Expr}{xs:List Expr}{id:Ao}{f:Expr->Option Internal.E}
theorem Ob(k:Et T)(h:Qz T.W.K T.X id=some e):AS T e (.Name id pos):=by
 unfold Qz at h
 cases q:Ra T.X.cx.l id with
 |some i=>rw[q] at h;exact gd.el h fun h e=>e▸pJ (H8 q) (by rw[Ug,Ug] at h;exact h)
 |none=>replace h:=q▸h;exact gd.el h fun h e=>e▸fC k h
theorem Mt.el{y:Expr}{t:String}(h:Mt T.W.K T.X x t=some y):∃id p pos,x=.Call (.Name id p) [y] [] pos/\L8 T t id=true/\Bf y=true:=
 CC h fun c h1 h2=>Kp.el h2 fun z h3 h4=>gd.el h4 fun h5 h6=>an h5 fun h7 h8=>by
  refine Oe (Xx.el h1) fun p pos e=>?_
  refine D5 h6 ?_
  exact RO _ p pos (h3▸e) h7 h8
noncomputable abbrev aN(T:Txt)(f:Expr->Option Internal.E):Prop:=∀x e,f x=some e->AS T e x
theorem Ik{f:Bool->Expr->Option Internal.E}(hf:∀b,aN T (f b)):∀{xs:List Expr} {bs:List Bool} {es:List Internal.E},Xt f bs xs=some es->E2 T es xs/\xs.all Bf=true
 |[],_,_,h=>Ad h▸⟨FW,rfl⟩
 |x::xs,_,_,h=>CC h fun e h1 h=>CC h fun es h2 h=>gd.el h fun h3 h4=>Cd (Ik hf h2) fun a b=>h4▸⟨Eo h3 (hf _ _ _ h1) a,by refine Aj List.all_cons (Aj h3 (Aj b ?_));rfl⟩
set_option tactic.hygienic true in
theorem Xu(k:Et T)(hf:aN T f){it:It}(h:cI T.W.K T.X f x=some it):KA T it x:=by
 unfold cI at h
 cases q1:Mt T.W.K T.X x "reversed" with
 |some y=>rw[q1] at h;exact Kk (Mt.el q1) fun ø ø ø e h1 h2=>om h fun a ha h=>h▸e▸dQ k h1 h2 (hf _ _ ha)
 |none=>
  rw[q1] at h
  dsimp only at h
  cases q2:Mt T.W.K T.X x "enumerate" with
  |some y=>rw[q2] at h;exact Kk (Mt.el q2) fun ø ø ø e h1 h2=>om h fun a ha h=>h▸e▸YV k h1 h2 (hf _ _ ha)
  |none=>
   replace h:=q2▸h
   dsimp only at h
   cases q3:Mt T.W.K T.X x "range" with
   |some y=>rw[q3] at h;exact Kk (Mt.el q3) fun ø ø ø e h1 h2=>om h fun a ha h=>h▸e▸Wn k h1 h2 (hf _ _ ha)
   |none=>
    rw[q3] at h
    dsimp only at h
    split at h
    ·rename_i yz q
     exact CC q fun c h1 h2=>Su.el h2 fun y z h3 h4=>gd.el h4 fun h5 h6=>an h5 fun h7 h8=>an h8 fun h9 h10=>by
      refine Oe (Xx.el h1) fun p pos e=>?_
      clear h4 h2 q;subst h6
      exact CC h fun a ha h=>om h fun b hb h=>h▸e▸h3▸dR k h7 h9 h10 (hf _ _ ha) (hf _ _ hb)
    ·exact om h fun a ha h=>h▸kK (hf _ _ ha)
theorem JK.el{i:Nat}(h:JK T.X id=some i):DB T.X id i=true:=CC h fun j h1 h2=>gd.el h2 fun h3 h4=>h4▸h3
theorem O0{p:Pt}{ps:List Pt}(h1:GZ T p x)(h2:∀env es',CQ (x::es') env=(false,GN x env)::CQ es' env)(h3:Fd T ps xs):Fd T (p::ps) (x::xs):=⟨⟨h1,h2⟩,h3⟩
theorem Tb:∀{xs:List Expr} {is:List Nat},jS T.X xs=some is->Fd T (is.map .v) xs
 |[],_,h=>Ad h▸trivial
 |x::xs,_,h=>CC h fun s h1 h=>CC h fun i h2 h=>om h fun is h3 h4=>gd.el h1 fun h5 h6=>by
  clear h;clear h;clear h;clear h1;subst h6 h4
  have z:x=.Name _ _:=BN (kq h5)
  refine Aj z ?_
  exact O0 (eR (JK.el h2)) (fun ø ø=>rfl) (Tb h3)
theorem Td{p:Pt}(h:iK T.X x=some p):GZ T p x/\∀env es',CQ (x::es') env=(false,GN x env)::CQ es' env:=by
 unfold iK at h
 refine ie h (fun q h=>om h fun i h1 h2=>?_) fun h=>CC h fun l h1 h=>om h fun is h2 h3=>gd.el h1 fun h4 h5=>?_
 ·have z:x=.Name _ _:=BN q
  refine D5 h2 ?_
  refine Aj z ?_
  exact⟨eR (JK.el h1),fun ø ø=>rfl⟩
 ·refine Eb (BN (kq h4)) fun k z=>?_
  clear h;clear h;clear h;clear h1;subst h5 h3
  rw[z]
  exact⟨kY (Tb h2),fun ø ø=>rfl⟩
theorem MS:∀{xs:List Expr} {ps:List Pt},VJ T.X xs=some ps->Fd T ps xs
 |[],_,h=>Ad h▸trivial
 |x::xs,_,h=>CC h fun p h1 h=>om h fun ps h2 h3=>Cd (Td h1) fun a b=>h3▸O0 a b (MS h2)
theorem Tf{tg:Tg}(h:jV T.X x=some tg):GZ T tg.pt x:=CC h fun p h1 h=>by
 have z:=(Td h1).1
 clear h1;induction p with
 |v i=>refine D5 (Ad h) ?_;exact z
 |t is=>exact Su.el h fun i j h2 h3=>by clear h;clear h;refine D5 (Ad h3) ?_;subst h2;exact z
end
section
variable {T:Txt}{pos:Pos}{e:Internal.E}{x:Expr}{xs:List Expr}{id:Ao}{f:Expr->Option Internal.E}{mu:Bool}{n:Nat}
noncomputable abbrev LP(T:Txt)(t:Bool)(e:Internal.E)(x:Expr):Prop:=AS T e x/\(t=true->FC T e x)
structure Xh (T:Txt)(mu:Bool)(u:Ux)(e:Internal.E) where
 tg:Tg
 it:It
 cond:Option Internal.E
 elt:Internal.E
 xt:Expr
 xi:Expr
 ifs:List Expr
 cx':List (Ao×Nat)
 eq:e=.comp mu tg it cond elt
 g:u.g=[⟨xt,xi,ifs,0⟩]
 ci:GR T.X u.sc cx' tg.idx
 ok:tg.ok=true
 ns:EJ xi=true
 tp:It.tp it=true->HY xt=true
 pt:GZ (CK T u.sc cx') tg.pt xt
 hi:KA T it xi
 hc:Hy (CK T u.sc cx') cond ifs
 he:AS (CK T u.sc cx') elt u.a
theorem UU(h:(!It.tp it||HY xt)=true)(q:It.tp it=true):HY xt=true:=by rw[q] at h;exact h
theorem VM{T:Txt}{g:Expr->Option Internal.E}{t:Expr->Bool}(hg:∀x e,g x=some e->LP T (t x) e x){ifs:List Expr}{cond:Option Internal.E}(h:(match ifs with
   |[]=>some none
   |[c]=>(g c).bind fun ce=>gd (t c) (some ce)
   |_=>none)=some cond):Hy T cond ifs:=by
 cases ifs with
 |nil=>refine D5 (Ad h) ?_;trivial
 |cons c r=>induction r with
  |nil=>exact CC h fun ce h6 h7=>gd.el h7 fun h8 h9=>by refine D5 h9 ?_;exact(hg _ _ h6).2 h8
  |cons=>cases h
theorem nZ{G:Comprehension}(h:(G.is_async==0)=true):G=⟨G.1,G.2,G.3,0⟩:=by
 cases G
 cases A6 h
 rfl
theorem Xs{u:Ux}{g:Cx->Expr->Option Internal.E}{t:Expr->Bool}(k:Et T)(hf:aN T f)(hg:∀cx' x e,g (Mv T.X u.sc cx') x=some e->LP (CK T u.sc cx') (t x) e x)(h:cC T.W.K T.X f g t mu u=some e):Nonempty (Xh T mu u e):=
 Kp.el h fun G h1 h=>CC h fun tg h2 h=>CC h fun it h3 h=>CC h fun elt h4 h=>CC h fun cond h5 h=>gd.el h fun h6 h7=>an h6 fun h8 h9=>an h9 fun h10 h11=>an h11 fun h12 h13=>an h12 fun h14 h15=>
  ⟨⟨tg,it,cond,elt,G.1,G.2,G.3,_,h7.symm,h1.trans (congrArg (fun x=>[x]) (nZ h8)),Y7 h10,h14,h13,UU h15,Tf (T:=CK T u.sc _) h2,Xu k hf h3,VM (fun x e=>hg _ x e) h5,(hg _ _ _ h4).1⟩⟩
theorem Tk(c:Xh T mu u e):AS T e (.ListComp u.a u.g u.sc pos):=by rw[c.eq,c.g];exact Uw c.ci c.ok c.ns c.tp c.pt c.hi c.hc c.he
theorem SU(ha:AS T a y)(hb:∀pos,Mr T op pos b ys)(hne:ys≠[]):AS T (VH op a b) (.BoolOp op (y::ys) pos):=by
 cases ys with
 |nil=>exact absurd rfl hne
 |cons z zs=>induction op with
  |And=>exact eU ha (hb _)
  |Or=>exact lA ha (hb _)
theorem SV(ha:FC T a y)(hb:KB T op b ys):FC T (VH op a b) (.BoolOp op (y::ys) pos):=by
 induction op with
 |And=>exact gN ha hb
 |Or=>exact lM ha hb
theorem Xr(hf:∀x e,f x=some e->LP T (t x) e x):∀{ys:List Expr} {e:Internal.E},cB f op ys=some e->(∀pos,Mr T op pos e ys)/\(ys.all t=true->KB T op e ys)/\(2<=ys.length->∀pos,LP T (ys.all t) e (.BoolOp op ys pos))
 |[y],e,h=>
  have z:=hf _ _ h
  ⟨fun ø=>ZE z.1,fun q=>by
   have q:=(bM q).1
   clear h;induction op with
   |And=>exact Ql (z.2 q)
   |Or=>exact Sh (z.2 q),fun q=>absurd q (show ¬2<=1 by decide)⟩
 |y::z::zs,e,h=>CC h fun a h1 h=>om h fun b h2 h3=>
  have ih:=Xr hf h2
  have z:=hf _ _ h1
  have E:∀pos,AS T e (.BoolOp op (y::_::zs) pos):=fun pos=>h3▸SU z.1 ih.1 nofun
  have T':(y::_::zs).all t=true->∀pos,FC T e (.BoolOp op (y::_::zs) pos):=fun q pos=>an q fun q1 q2=>h3▸SV (z.2 q1) (ih.2.1 q2)
  ⟨fun pos=>ZF (E pos),fun q=>aA (T' q ⟨0,0,0,0⟩),fun ø pos=>⟨E pos,fun q=>T' q pos⟩⟩
theorem Tc(hf:aN T f)(h:jT f o=some r):SK T r o:=match o,h with
 |none,h=>Ad h▸Uz
 |some x,h=>om h fun e h1 h2=>h2▸U0 (hf _ _ h1)
theorem Wr.el(h:Wr x=true):∃k p1 p2,x=.UnaryOp .USub (.Constant (.int 1) k p1) p2:=an h fun h1 h=>an h fun h2 h=>an h fun h3 h4=>by
 obtain⟨k,z⟩:=BN (kq h3)
 have z1:x=.UnaryOp _ _ _:=BN (kq h1)
 have z2:(Bo (Bo x).a).k=.int 1:=by
  cases q:(Bo (Bo x).a).k with
  |int i=>rw[q] at h4;exact congrArg Const.int (A6 h4).symm
  |_=>rw[q] at h4;cases h4
 exact nG k _ _ (by rw[z1,A6 h2,z,z2])
theorem SZ{f:Bool->Expr->Option Internal.E}{p:Pos}(k:Et T)(hf:∀b,aN T (f b))(hx:x=.Call (.Name id p) xs [] pos)(h:SY T.W.K T.X f mu x id xs=some e):AS T e x:=by
 unfold SY at h
 cases q:Mt T.W.K T.X x "list" with
 |some y=>
  rw[q] at h
  refine Kk (Mt.el q) fun ø ø ø ex h1 h2=>?_
  rw[ex]
  dsimp only at h
  cases q2:Mt T.W.K T.X y "reversed" with
  |some z=>rw[q2] at h;exact Kk (Mt.el q2) fun ø ø ø ey h3 h4=>om h fun a ha h=>h▸ey▸RZ k h1 h3 h4 (hf _ _ _ ha)
  |none=>rw[q2] at h;exact om h fun a ha h=>h▸ZC k h1 h2 (hf _ _ _ ha)
 |none=>rw[q] at h;exact CC h fun g h1 h=>om h fun es h2 h=>Cd (Ik hf h2) fun a b=>h▸hx▸ZA k b (Ob k h1) a
theorem Ta{f:Bool->Expr->Option Internal.E}{u o:Ux}{x:Expr}(k:Et T)(hf:∀b,aN T (f b))(h:Xv T.W.K T.X f u o=some e)(hx:x=.Call (.Attribute o.a o.s o.p) u.l [] u.p):AS T e x:=by
 rw[hx]
 exact CC h fun eo h1 h=>CC h fun ø h2 h=>gd.el h2 fun h2 ø=>an h2 fun h3 h4=>by
  cases q:o.s==I8 with
  |true=>
   rw[q] at h
   refine Kp.el h fun y h5 h=>om h fun it h6 h7=>?_
   rw[<-h7,h5,A6 q]
   cases q2:Mt T.W.K T.X y "reversed" with
   |some z=>rw[q2] at h6;exact Kk (Mt.el q2) fun ø ø ø ey h8 h9=>om h6 fun a ha h=>h▸ey▸RY k h8 h3 h4 h9 (hf _ _ _ h1) (hf _ _ _ ha)
   |none=>rw[q2] at h6;exact CC h6 fun a ha h=>gd.el h fun h8 h=>h▸Uy h3 h4 h8 (hf _ _ _ h1) (hf _ _ _ ha)
  |false=>rw[q] at h;exact CC h fun es h5 h=>gd.el h fun h6 h7=>Cd (Ik hf h5) fun a b=>h7▸WG k h3 h4 b (of_decide_eq_true h6) (hf _ _ _ h1) a
theorem Si(q:(Bo x).t=k)(h1:k≠.cmp)(h2:k≠.bool)(h3:k≠.un)(h:NE t x=true):PU x=true:=by
 unfold NE at h
 rw[q,if_neg h1,if_neg h2,if_neg h3] at h
 exact h
theorem KU(q:(Bo x).t=k)(hk:(k !=.cmp&&(k !=.bool&&k !=.un))=true)(a:AS T e x):LP T (NE t x) e x:=⟨a,fun h=>Cd (bM hk) fun h1 hk=>Cd (bM hk) fun h2 h3=>aB (Si q (bne_iff_ne.mp h1) (bne_iff_ne.mp h2) (bne_iff_ne.mp h3) h) a⟩
end
theorem Et.at{T:Txt}(k:Et T)(X:Cx):Et {T with X:=X}:=⟨k.wok,k.cd,k.call,k.sys,k.fld,k.meth,k.isFn⟩
set_option tactic.hygienic true in
theorem Y1{T:Txt}(k:Et T){f:Cx->Bool->Expr->Option Internal.E}{t:Expr->Bool}{mu:Bool}{x:Expr}{e:Internal.E}(ihc:∀X b x e,f X b x=some e->LP {T with X:=X} (t x) e x)(h:mR T.W.K f t T.X mu x=some e):LP T (NE t x) e x:=by
  have ih:∀b x e,f T.X b x=some e->AS T e x:=fun b x e h=>(ihc T.X b x e h).1
  have iht:∀x e,f T.X false x=some e->LP T (t x) e x:=fun x e h=>ihc T.X false x e h
  refine(?_:∀kk,(Bo x).t=kk->mS T.W.K f t T.X mu x kk=some e->LP T (NE t x) e x) _ rfl h
  intro kk q h
  induction kk with
  |const=>
   obtain⟨kk,z⟩:=BN q
   exact gd.el h fun h h2=>KU q rfl (by rw[z,<-h2];exact WF h)
  |name=>
   have z:x=_:=BN q
   exact KU q rfl (by rw[z];exact Ob k h)
  |bin=>
   have z:x=_:=BN q
   refine KU q rfl (CC h fun eb h1 h=>ie h (fun zz h=>Cd zz fun qa qo=>Kp.el h fun y h2 h=>CC h fun ey h3 h=>gd.el h fun h4 h5=>?_) fun h=>om h fun ea h2 h=>?_)
   ·have za:(Bo x).a=_:=BN qa
    rw[z,za,h2,qo,<-h5]
    exact fJ h4 (ih _ _ _ h3) (ih _ _ _ h1)
   ·rw[z,<-h];exact eX (ih _ _ _ h2) (ih _ _ _ h1)
  |un=>
   have z:x=_:=BN q
   refine CC h fun a h1 h=>ie h (fun qu h=>?_) fun h=>gd.el h fun qu h=>?_
   ·refine D5 (Ad h) ?_
    exact⟨by rw[z,qu];exact fG (ih _ _ _ h1),fun h=>by
     unfold NE at h
     rw[q,if_neg (by decide),if_neg (by decide),if_pos rfl,qu] at h
     exact nomatch h⟩
   ·subst h
    have qu:(Bo x).u=.Not:=A6 qu
    have w:=iht _ _ h1
    exact⟨by rw[z,qu];exact fH w.1,fun h=>by
     unfold NE at h
     rw[q,if_neg (by decide),if_neg (by decide),if_pos rfl] at h
     rw[z,qu];exact gP (w.2 (bM h).2)⟩
  |cmp=>
   have z:x=_:=BN q
   refine CC h fun ea h1 h=>?_
   split at h
   ·rename_i p qq
    refine Kp.el qq fun o h2 h3=>Kp.el h3 fun b h4 h5=>CC h fun eb h6 h=>gd.el h fun h7 h8=>?_
    clear h h3;clear h qq;obtain rfl:=Ad h5
    rw[z,h2,h4,<-h8]
    exact⟨eY k h7 (ih _ _ _ h1) (ih _ _ _ h6),fun ø=>gO k h7 (ih _ _ _ h1) (ih _ _ _ h6)⟩
   ·refine Su.el h fun o o2 h2 h=>Su.el h fun b c h3 h=>CC h fun eb h4 h=>CC h fun ec h5 h=>gd.el h fun h7 h8=>?_
    rw[z,h2,h3,<-h8]
    have h7:=(B6 _).mp h7
    exact⟨ZB k h7 (ih _ _ _ h1) (ih _ _ _ h4) (ih _ _ _ h5),fun ø=>ZZ k h7 (ih _ _ _ h1) (ih _ _ _ h4) (ih _ _ _ h5)⟩
  |bool=>
   have z:x=_:=BN q
   refine CC h fun ø h1 h=>gd.el h1 fun h1 ø=>?_
   have w:=(Xr iht h).2.2 (of_decide_eq_true h1) (Bo x).p
   refine⟨by rw[z];exact w.1,fun h=>?_⟩
   unfold NE at h
   rw[q,if_neg (by decide),if_pos rfl] at h
   rw[z];exact w.2 h
  |ite=>
   have z:x=_:=BN q
   exact KU q rfl (CC h fun et h1 h=>CC h fun ea h2 h=>CC h fun eb h3 h=>gd.el h fun h4 h5=>by rw[z,<-h5];exact fE ((iht _ _ h1).2 h4) (ih _ _ _ h2) (ih _ _ _ h3))
  |tup=>
   obtain⟨kk,z⟩:=BN q
   exact KU q rfl (CC h fun es h1 h=>gd.el h fun h2 h3=>by rw[z,<-h3];exact Yc (of_decide_eq_true h2) (Ik ih h1).1)
  |lst=>
   have z:x=_:=BN q
   exact KU q rfl (CC h fun es h1 h=>gd.el h fun h2 h3=>by rw[z,<-h3];exact fF (of_decide_eq_true h2) (Ik ih h1).1)
  |dct=>
   have z:x=_:=BN q
   refine D5 (Ad h) ?_
   exact KU q rfl (by rw[z];exact eZ k)
  |call=>
   have z:x=_:=BN q
   refine KU q rfl (ie h (fun qa h=>?_) fun h=>CC h fun o h1 h=>gd.el h1 fun h1 h2=>?_)
   ·have za:(Bo x).a=_:=BN qa
    exact SZ k ih (z.trans (congrArg (fun f=>Expr.Call f _ [] _) za)) h
   ·have za:(Bo x).a=_:=BN (kq h1)
    subst h2
    exact Ta k ih h (z.trans (congrArg (fun f=>Expr.Call f _ [] _) za))
  |attr=>
   have z:x=_:=BN q
   exact KU q rfl (CC h fun eo h1 h=>gd.el h fun h2 h3=>by rw[z,<-h3];exact Z8 k h2 (ih _ _ _ h1))
  |sub=>
   have z:x=_:=BN q
   refine KU q rfl (CC h fun eo h1 h=>ie h (fun qb h=>?_) fun h=>CC h fun ei h2 h=>gd.el h fun h3 h4=>?_)
   ·have zb:(Bo x).b=_:=BN qb
    rw[z,zb]
    cases qc:(Bo (Bo x).b).oc with
    |none=>rw[qc] at h;exact CC h fun l h2 h=>om h fun r h3 h=>h▸fN (ih _ _ _ h1) (Tc (ih _) h2) (Tc (ih _) h3)
    |some s=>
     rw[qc] at h
     exact gd.el h fun h2 h3=>an h2 fun h4 h5=>an h5 fun h6 h7=>by
      refine nA (Wr.el h4) fun kk p1 p2 zs=>?_
      rw[B3.mp h6,B3.mp h7,zs,<-h3]
      exact fM (ih _ _ _ h1)
   ·rw[z,<-h4];exact fD k h3 (ih _ _ _ h1) (ih _ _ _ h2)
  |comp=>
   have z:x=_:=BN q
   have h:cC T.W.K T.X (f T.X false) (fun X=>f X false) t mu (Bo x)=some e:=h
   obtain⟨c⟩:=Xs k (ih _) (fun cx' x e h=>ihc _ _ _ _ h) h
   exact KU q rfl (by rw[z];exact Tk c)
  |_=>cases h
theorem Ms:∀(n:Nat) {T:Txt} (k:Et T) {b:Bool} {x:Expr} {e:Internal.E},cE T.W.K n T.X b x=some e->LP T (Yl n x) e x
 |0,_,_,_,_,_,h=>nomatch h
 |n+1,T,k,b,x,e,h=>Y1 (T:=T) (f:=cE T.W.K n) (t:=Yl n) (mu:=b) (x:=x) (e:=e) k (fun X b x e h=>Ms n (T:={T with X:=X}) (k.at X) (b:=b) (x:=x) (e:=e) h) h
section
variable {T:Txt}{pos p:Pos}{m:List Ao}{n:Nat}{s:S}{ts vs:List Expr}
theorem Y3(k:Et T)(h:mU T.W.K m n T.X ts vs=some s):DM T s (.Assign [.Tuple ts kk p] (.Tuple vs kk' p') pos):=
 CC h fun es h1 h=>CC h fun ø h2 h=>gd.el h2 fun h2 ø=>CC h fun o h3 h=>by
  have ha:=(Ik (fun b x e h=>(Ms n k h).1) h1).1
  have hl:=of_decide_eq_true h2
  induction o with
  |none=>exact om h fun ps h4 h5=>h5▸Ut hl h3 (MS h4) ha
  |some l=>cases l with
   |nil=>cases h
   |cons x l=>cases l with
    |nil=>cases h
    |cons y l=>cases l with
     |nil=>exact CC h fun i h4 h=>CC h fun j h5 h=>gd.el h fun h6 h7=>h7▸Uu hl h3 (JK.el h4) (JK.el h5) h6 ha
     |cons z l=>cases l with
      |nil=>exact CC h fun i h4 h=>CC h fun j h5 h=>CC h fun l h6 h=>gd.el h fun h7 h8=>an h7 fun h9 h10=>an h10 fun h11 h12=>h8▸Uv hl h3 (JK.el h4) (JK.el h5) (JK.el h6) h9 h11 h12 ha
      |cons=>cases h
theorem VI(k:Et T)(h:Y0 T.W.K m n T.X t v=some s):DM T s (.Assign [t] v pos):=by
 have ih:∀b x e,cE T.W.K n T.X b x=some e->AS T e x:=fun b x e h=>(Ms n k h).1
 unfold Y0 at h
 refine ie h (fun qt h=>CC h fun i h1 h=>?_) fun h=>ie h (fun qt h=>?_) fun h=>CC h fun e h1 h=>CC h fun ø h2 h=>gd.el h2 fun h2 ø=>CC h fun eo h3 h=>ie h (fun qt h=>?_) fun h=>CC h fun ø h4 h=>gd.el h4 fun h4 ø=>?_
 ·have z:t=_:=BN qt
  rw[z]
  refine ie h (fun qv h=>om h fun e h2 h3=>?_) fun h=>CC h fun e h2 h=>gd.el h fun h3 h4=>h4▸eV h3 (JK.el h1) (ih _ _ _ h2)
  have zv:v=_:=BN qv
  obtain⟨c⟩:=Xs k (ih _) (fun cx' x e h=>Ms n (T:={T with X:=Mv T.X _ cx'}) (k.at _) h) h2
  rw[zv,<-h3,c.eq,c.g]
  exact Z6 (JK.el h1) c.ci c.ok c.ns c.tp c.pt c.hi c.hc c.he
 ·obtain⟨kk,z⟩:=BN qt
  rw[z]
  refine ie h (fun qv h=>?_) fun h=>CC h fun ps h1 h=>CC h fun e h2 h=>gd.el h fun h3 h4=>h4▸Z7 h3 (MS h1) (ih _ _ _ h2)
  obtain⟨kk',zv⟩:=BN qv
  rw[zv]
  exact Y3 k h
 ·have z:t=_:=BN qt
  refine D5 (Ad h) ?_
  rw[z]
  exact ZG k h2 (ih _ _ _ h3) (ih _ _ _ h1)
 ·have z:t=_:=BN (kq h4)
  rw[z]
  refine ie h (fun qb h=>CC h fun hh h5 h=>CC h fun eh h6 h=>gd.el h fun h7 h8=>?_) fun h=>om h fun ej h5 h6=>h6▸ZH k h2 (ih _ _ _ h3) (ih _ _ _ h5) (ih _ _ _ h1)
  have zb:(Bo t).b=_:=BN qb
  have h7:=bM h7
  rw[zb,h5,B3.mp h7.1,B3.mp h7.2,<-h8]
  exact ZI h2 (ih _ _ _ h3) (ih _ _ _ h6) (ih _ _ _ h1)
theorem MT(hf:∀x s,f x=some s->DM T s x):∀{xs:List Ef} {ss:List S},V0 f xs=some ss->Fe T ss xs
 |[],_,h=>Ad h▸U1
 |x::xs,_,h=>CC h fun s h1 h=>om h fun ss h2 h3=>h3▸Sa (hf _ _ h1) (MT hf h2)
theorem nJ{a b:Ks}(h:(a==b)=true):a=b:=A6 h
theorem QC.el{l:List ExceptHandler}{v:Hv}(h:QC l=some v):l=[.ExceptHandler (some (.Name v.id v.p1)) (some v.x) [.Return (some (.Attribute (.Name v.x v.p2) CT v.p3)) v.p4] v.p5]:=
 Kp.el h fun a h1 h=>by
  obtain⟨t,x,b,p5⟩:=a
  exact CC h fun t h2 h=>CC h fun x h3 h=>Kp.el h fun r h4 h=>gd.el h fun h5 h6=>an h5 fun a1 h5=>an h5 fun a2 h5=>an h5 fun a3 h5=>an h5 fun a4 h5=>an h5 fun a5 a6=>by
   have z1:t=_:=BN (kq a1)
   have z2:r=_:=Fl (nJ a2)
   have z3:(DV r).x=_:=BN (kq a3)
   have z4:(Bo (DV r).x).a=_:=BN (kq a4)
   rw[A6 a5] at z4
   rw[z4,A6 a6] at z3
   rw[z3] at z2
   refine D5 h6 ?_
   rw[h1,h2,h3,h4]
   exact(congrArg (fun t=>[Ig (some t) (some x) [r] p5]) z1).trans (congrArg (fun r=>[Ig (some (Expr.Name (Bo t).s (Bo t).p)) (some x) [r] p5]) z2)
structure K5 (W:Hx):Prop where
 init:Nonempty (IS W)
 ec:K6 W.K CT
 et:K6 W.K F6
 eg:V5 W.K CT
 keep:HZ W.K (.ref CE)=true
 one:exmOne W.K (.ref CE) (.ref CE)=some true
set_option tactic.hygienic true in
theorem Y2{f:Cx->Ef->Option S}{x:Ef}(k:Et T)(a:K5 T.W)(hf:∀x s,f T.X x=some s->DM T s x/\DM T.hd1 s x)(h:mT T.W.K m n f T.X x=some s):DM T s x:=by
 have ih:∀b x e,cE T.W.K n T.X b x=some e->AS T e x:=fun b x e h=>(Ms n k h).1
 have iht:∀b x e,cE T.W.K n T.X b x=some e->Yl n x=true->FC T e x:=fun b x e h=>(Ms n k h).2
 have ihs:∀{xs:List Ef} {ss:List S},V0 (f T.X) xs=some ss->Fe T ss xs:=fun h=>MT (fun x s h=>(hf x s h).1) h
 refine(?_:∀kk,(DV x).t=kk->jU T.W.K m n f T.X x kk=some s->DM T s x) _ rfl h
 intro kk q h
 induction kk with
 |asg=>
  have z:x=_:=Fl q
  exact Kp.el h fun t h1 h=>by rw[z,h1];exact VI k h
 |aug=>
  have z:x=_:=Fl q
  rw[z]
  refine CC h fun e h1 h=>CC h fun ø h2 h=>gd.el h2 fun h2 ø=>ie h (fun qx h=>CC h fun i h3 h=>gd.el h fun h4 h5=>?_) fun h=>CC h fun eo h3 h=>gd.el h fun h4 h5=>?_
  ·have zx:(DV x).x=_:=BN qx
   rw[zx,<-h5]
   exact eW h2 (JK.el h3) h4 (ih _ _ _ h1)
  ·have zx:(DV x).x=_:=BN (kq h4)
   rw[zx,<-h5]
   exact Z9 k h2 (ih _ _ _ h3) (ih _ _ _ h1)
 |ite=>
  have z:x=_:=Fl q
  rw[z]
  exact CC h fun et h1 h=>CC h fun sa h2 h=>CC h fun sb h3 h=>gd.el h fun h4 h5=>h5▸kZ (iht _ _ _ h1 h4) (ihs h2) (ihs h3)
 |for_=>
  have z:x=_:=Fl q
  rw[z]
  exact CC h fun tg h1 h=>CC h fun it h2 h=>CC h fun sb h3 h=>gd.el h fun h4 h5=>an h4 fun h6 h7=>h5▸fB h6 (UU h7) (Tf h1) (Xu k (ih _) h2) (ihs h3)
 |while_=>
  have z:x=_:=Fl q
  rw[z]
  exact CC h fun et h1 h=>CC h fun sb h2 h=>gd.el h fun h3 h4=>h4▸WI (iht _ _ _ h1 h3) (ihs h2)
 |ret=>
  have z:x=_:=Fl q
  rw[z]
  exact om h fun e h1 h2=>h2▸fK (ih _ _ _ h1)
 |raise=>
  have z:x=_:=Fl q
  refine CC h fun c h1 h=>CC h fun es h2 h=>gd.el h fun h3 h4=>?_
  refine Oe (Xx.el h1) fun p pos e=>?_
  obtain⟨I⟩:=a.init
  have w:=Ik ih h2
  rw[z,e,<-h4]
  exact WH k I a.ec a.et a.keep w.2 h3 w.1
 |expr=>
  have z:x=_:=Fl q
  rw[z]
  exact CC h fun e h1 h=>gd.el h fun h2 h3=>h3▸ZD h2 (ih _ _ _ h1)
 |try_=>
  have z:x=_:=Fl q
  rw[z]
  delta jU at h;dsimp only at h
  cases q2:(DV x).h with
  |nil=>
   rw[q2] at h;dsimp only at h
   refine Kp.el h fun a h1 h=>Kp.el h fun t h2 h=>CC h fun i h3 h=>CC h fun e h4 h=>CC h fun sf h5 h=>gd.el h fun h6 h7=>an h6 fun h8 h6=>an h6 fun h9 h6=>an h6 fun h10 h11=>?_
   have za:a=_:=Fl (nJ h8)
   have zt:t=_:=BN (kq h9)
   rw[h1,za,h2,zt,<-h7]
   cases qb:(DV x).b with
   |nil=>rw[qb] at h11;exact nomatch h11
   |cons f0 fs=>rw[qb] at h5;exact fA h10 (JK.el h3) (ih _ _ _ h4) (ihs h5) (MT (fun x s h=>(hf x s h).2) h5)
  |cons v0 vs0=>
   rw[q2] at h;dsimp only at h
   refine CC h fun v h1 h=>CC h fun i h2 h=>CC h fun sb h3 h=>gd.el h fun h4 h5=>an h4 fun h6 h4=>an h4 fun h7 h4=>an h4 fun h8 h4=>an h4 fun h9 h10=>?_
   rw[QC.el h1,JJ.mp h6,<-h5]
   exact fP h7 (JK.el h2) h8 h9 h10 a.one a.eg k (ihs h3)
 |no=>cases h
theorem Te:∀(d:Nat) {T:Txt} (k:Et T) (a:K5 T.W) {x:Ef} {s:S},cS T.W.K m n d T.X x=some s->DM T s x
 |0,_,_,_,_,_,h=>nomatch h
 |d+1,T,k,a,x,s,h=>Y2 (T:=T) (m:=m) (n:=n) (f:=cS T.W.K m n d) k a (fun x s h=>⟨Te d k a h,Te d (T:=T.hd1) k.hd1 a h⟩) h
end
noncomputable def V3:Nat->Type
 |0=>Setting->Option (List (Ao×Ab))
 |n+1=>Ab->V3 n
noncomputable def cG(f:List Ab->Setting->Option (List (Ao×Ab))):(n:Nat)->List Ab->V3 n
 |0,us=>f us
 |n+1,us=>fun u=>cG f n (us++[u])
theorem YB:∀{acc us:List Ab},cG f n acc=cG g n acc->us.length=n->∀S,f (acc++us) S=g (acc++us) S:=by
 induction n with
 |zero=>
  intro acc us h e S
  induction us with
  |nil=>rw[Bq];exact congrFun h S
  |cons=>cases e
 |succ n ih=>
  intro acc us h e S
  cases us with
  |nil=>cases e
  |cons u us=>
   have z:=ih (congrFun h u) (Nat.succ.inj e) S
   rw[Bd] at z
   exact z
noncomputable def T8(K:CD)(a:Ai)(f:Fn)(fd:DT):Bool:=
 (fd.scope.kind==.function&&(!fd.scope.isCoroutine&&(!fd.scope.isGenerator&&(fd.globals==Em&&(fd.builtins==builtinsNs&&(fd.closure.isEmpty&&Q1 K fd.code fd.qualname))))))&&
 (((Ch fd).length==f.np&&(iL (Ch fd)&&(iL ((YE 0 fd.scope.names).map (·.1))&&BS ((YE 0 fd.scope.names).map (·.2)))))&&
 ((Ch fd).zipIdx.all (fun p=>Ra (YE 0 fd.scope.names) p.1==some p.2)&&(YE 0 fd.scope.names).all fun p=>Ra fd.scope.names p.1==some .local||Ra fd.scope.names p.1==some .cell))
noncomputable def bY(K:CD)(a:Ai)(f:Fn):Bool:=(T9 K a).any (T8 K a f)
noncomputable def mX(K:CD)(a:Ai)(f:Fn):V3 (f.np-f.dfl.length):=cG (fun us S=>(T9 K a).bind fun fd=>peek K S (bindArgs fd ⟨us,[]⟩)) _ []
noncomputable def mY(K:CD)(a:Ai)(f:Fn)(ds:List Ab):V3 (f.np-f.dfl.length):=cG (fun us ø=>(T9 K a).map fun fd=>(Ch fd).zip (us++ds)) _ []
structure NO (K:CD)(m:List Ao)(a:Ai)(f:Fn):Prop where
 body:cF K m a=some f.body
 chk:bY K a f=true
 bind:∃ds,(∀P ρ,B8 P ρ f.dfl ds)/\mX K a f=mY K a f ds
theorem NO.fnIn{K:CD}(d:NO K m a f):PySem.W.fnIn K a=true:=
 CC d.body fun ø h1 ø=>AO (BC.mp h1) fun ø e1 e2=>(Nn (bA e1) (X6.el e2)).2
theorem NO.ok(d:NO W.K m a f)(ex:K5 W):Xi W T a f:=
 CC d.body fun fd h1 h=>CC h fun b h2 h=>by
  have ck:(T9 W.K a).any (T8 W.K a f)=true:=d.chk
  refine AO d.bind fun ds hv hb=>?_
  rw[h1] at ck
  refine(nG (iO fd.scope) fd b (fun C n k ø=>⟨?_,MT (T:=⟨W,iO fd.scope,C,n⟩) (fun x s h=>Te 8 (T:=⟨W,iO fd.scope,C,n⟩) k ex h) h⟩))
  have ck:T8 W.K a f fd=true:=ck
  refine an ck fun c1 c2=>an c1 fun a1 c1=>an c1 fun a2 c1=>an c1 fun a3 c1=>an c1 fun a4 c1=>an c1 fun a5 c1=>an c1 fun a6 a7=>an c2 fun c2 c3=>an c2 fun b1 c2=>an c2 fun b2 c2=>an c2 fun b3 b4=>an c3 fun b5 b6=>?_
  have np:(Ch fd).length=f.np:=A6 b1
  refine AO (BC.mp h1) fun o e1 e2=>?_
  replace e1:=bA e1
  refine⟨(Nn e1 (X6.el e2)).1,(Bn o e1 (?_)),?_,rfl,A6 a1,(B6 _).mp a2,(B6 _).mp a3,A6 a4,A6 a5,JJ.mp a6,Q1.out a7,np,fun j x hj=>?_,Pm _▸b2,fun p hp=>?_,Pm _▸b3,b4,ds,hv,fun us s X hl=>?_⟩
  ·exact X6.el e2
  ·exact Qy.el h2
  ·exact H8 (A6 (BF.mp b5 (x,j) (List.mem_zipIdx_iff_getElem?.mpr hj)))
  ·rcases Qp.mp (BF.mp b6 p hp) with z | z
   ·exact .inl ((Jt _ _).symm.trans (A6 z))
   ·exact .inr ⟨(Jt _ _).symm.trans (A6 z),H8 (A6 z)⟩
  ·exact kp_binds X fun S=>by have:=YB (acc:=[]) hb (us:=us) (AL (OP xa xb [.e (Lp xa xc) xd,.l xd (Lp xb xc)] As hl (OB _ _)) (OP xa xb [.e (Lp xa xc) xd,.f (Lp xb xc) xd] As (AI (Fc xa xb [.e (Lp xc xa) xb] As hl)) hl)) S;rwa [h1] at this
end
section
open PySem
noncomputable def KP:Fn:=⟨1,[],1,[.ite (.cmp .Eq (.idx (.l 0) (.k (.int 0))) (.k (.str ⟨#[110,97,109,101]⟩))) [.ret (.idx (.l 0) (.k (.int 1)))] [],
 .ite (.cmp .Eq (.idx (.l 0) (.k (.int 0))) (.k (.str ⟨#[105,116,101,109]⟩))) [.ret (.bin .Add (.idx (.l 0) (.k (.int 1))) (.k (.str ⟨#[40,41]⟩)))] [],
 .ret (.ite (.cmp .Eq (.idx (.l 0) (.k (.int 0))) (.k (.str ⟨#[102,110]⟩))) (.idx (.l 0) (.k (.int 1))) (.k (.str ⟨#[]⟩)))],true⟩
noncomputable def RG:Fn:=⟨1,[],1,[.ret (.and (.call (.k (.bi .isi)) [(.l 0),(.k (.bi .tTuple))]) (.and (.cmp .Gt (.call (.k (.bi .len)) [(.l 0)]) (.k (.int 1))) (.and (.cmp .In (.idx (.l 0) (.k (.int 0))) (.tup [(.k (.str ⟨#[110,97,109,101]⟩)),(.k (.str ⟨#[105,116,101,109]⟩)),(.k (.str ⟨#[102,110]⟩))])) (.call (.k (.bi .isi)) [(.idx (.l 0) (.k (.int 1))),(.k (.bi .tStr))]))))],true⟩
noncomputable def EQ:Fn:=⟨1,[],4,[.asgTT [.v 1,.v 2] [(.lst true []),(.listRev true (.l 0))],
 .while_ (.cmp .Gt (.call (.k (.bi .len)) [(.l 2)]) (.k (.int 0))) [.asg 3 (.mcall (.l 2) ⟨#[112,111,112]⟩ []),
  .ite (.call (.k (.fn 42)) [(.l 3)]) [.expr (.mcall (.l 1) ⟨#[97,112,112,101,110,100]⟩ [(.call (.k (.fn 35)) [(.l 3)])]),
   .expr (.extend (.l 2) (.rev (.slc (.l 3) (some (.k (.int 2))) .none)))] [.ite (.call (.k (.bi .isi)) [(.l 3),(.tup [(.k (.bi .tTuple)),(.k (.bi .tList))])]) [.expr (.extend (.l 2) (.rev (.l 3)))] []]],
 .ret (.l 1)],true⟩
noncomputable def J7:Fn:=⟨1,[],5,[.asg 1 (.idx (.l 0) (.k (.int 0))),
 .asg 2 (.comp false (.one 3) (.it (.mcall (.k (.cd 22)) ⟨#[103,101,116]⟩ [(.l 1),(.tup [])])) .none (.idx (.l 0) (.l 3))),
 .ite (.cmp .In (.l 1) (.k (.cd 26))) [.asg 2 (.bin .Add (.l 2) (.copy false (.idx (.l 0) (.idx (.k (.cd 26)) (.l 1)))))] [],
 .ret (.l 2)],true⟩
noncomputable def Fg:Fn:=⟨1,[],6,[.asgTT [.v 1,.v 2] [(.idx (.l 0) (.k (.int 0))),(.lst true [])],
 .for_ (.one 3) (.it (.call (.k (.fn 54)) [(.l 0)])) [.expr (.mcall (.l 2) ⟨#[97,112,112,101,110,100]⟩ [(.tup [(.call (.k (.fn 35)) [(.l 3)]),(.k (.str ⟨#[115,101,116]⟩))])]),
  .expr (.extend (.l 2) (.it (.comp false (.one 4) (.it (.call (.k (.fn 49)) [(.slc (.l 3) (some (.k (.int 2))) .none)])) .none (.tup [(.l 4),(.k (.str ⟨#[114,101,97,100]⟩))]))))],
 .ite (.cmp .In (.l 1) (.k (.cd 27))) [.expr (.mcall (.l 2) ⟨#[97,112,112,101,110,100]⟩ [(.tup [(.idx (.l 0) (.idx (.k (.cd 27)) (.l 1))),(.k (.str ⟨#[115,101,116]⟩))])])] [],
 .ite (.cmp .In (.l 1) (.k (.cd 28))) [.expr (.extend (.l 2) (.it (.comp false (.one 4) (.it (.idx (.l 0) (.idx (.k (.cd 28)) (.l 1)))) .none (.tup [(.l 4),(.k (.str ⟨#[114,101,97,100]⟩))]))))] [],
 .ite (.cmp .In (.l 1) (.tup [(.k (.str ⟨#[68,69,70]⟩)),(.k (.str ⟨#[68,69,70,76,73,78,69,83]⟩))])) [.expr (.mcall (.l 2) ⟨#[97,112,112,101,110,100]⟩ [(.tup [(.idx (.l 0) (.k (.int 1))),(.k (.str ⟨#[115,101,116]⟩))])])] [],
 .ite (.cmp .Eq (.l 1) (.k (.str ⟨#[69,82,65,83,69]⟩))) [.expr (.extend (.l 2) (.it (.comp false (.one 4) (.it (.idx (.l 0) (.k (.int 1)))) .none (.tup [(.bin .Add (.l 4) (.k (.str ⟨#[40,41]⟩))),(.k (.str ⟨#[114,101,97,100]⟩))]))))] [],
 .ite (.cmp .Eq (.l 1) (.k (.str ⟨#[68,73,77]⟩))) [.expr (.extend (.l 2) (.it (.comp false (.two 4 5) (.it (.idx (.l 0) (.k (.int 1)))) .none (.tup [(.bin .Add (.l 4) (.k (.str ⟨#[40,41]⟩))),(.k (.str ⟨#[115,101,116]⟩))]))))] [],
 .ite (.cmp .Eq (.l 1) (.k (.str ⟨#[70,73,69,76,68]⟩))) [.expr (.extend (.l 2) (.it (.comp false (.two 4 5) (.it (.idx (.l 0) (.k (.int 2)))) .none (.tup [(.l 5),(.k (.str ⟨#[115,101,116]⟩))]))))] [],
 .ite (.cmp .Eq (.l 1) (.k (.str ⟨#[77,65,84]⟩))) [.expr (.extend (.l 2) (.it (.call (.k (.fn 59)) [(.l 0)])))] [],
 .ret (.bin .Add (.l 2) (.comp false (.one 4) (.it (.call (.k (.fn 49)) [(.call (.k (.fn 69)) [(.l 0)])])) .none (.tup [(.l 4),(.k (.str ⟨#[114,101,97,100]⟩))])))],true⟩
noncomputable def I5:Fn:=⟨1,[],6,[.asg 1 (.idx (.l 0) (.k (.int 0))),
 .ite (.cmp .Eq (.l 1) (.k (.str ⟨#[73,70]⟩))) [.ret (.lst false [(.idx (.l 0) (.k (.int 1)))])] [],
 .ite (.cmp .In (.l 1) (.k (.cd 26))) [.asg 2 (.idx (.k (.cd 26)) (.l 1)),
  .ret (.bin .Add (.copy false (.slc (.l 0) (some (.k (.int 1))) (some (.l 2)))) (.copy false (.slc (.l 0) (some (.bin .Add (.l 2) (.k (.int 1)))) .none)))] [],
 .ite (.cmp .Eq (.l 1) (.k (.str ⟨#[70,73,69,76,68]⟩))) [.ret (.bin .Add (.lst false [(.idx (.l 0) (.k (.int 1)))]) (.comp false (.two 4 5) (.it (.idx (.l 0) (.k (.int 2)))) .none (.l 4)))] [],
 .asg 3 (.mcall (.k (.cd 22)) ⟨#[103,101,116]⟩ [(.l 1),(.tup [])]),
 .ret (.comp false (.two 4 5) (.enum (.l 0)) (some (.and (.cmp .Gt (.l 4) (.k (.int 0))) (.cmp .NotIn (.l 4) (.l 3)))) (.l 5))],true⟩
noncomputable def RI:Fn:=⟨1,[],1,[.ite (.call (.k (.bi .isi)) [(.l 0),(.k (.bi .tStr))]) [.ret (.k (.str ⟨#[116,101,120,116]⟩))] [],
 .ret (.ite (.call (.k (.bi .isi)) [(.l 0),(.k (.bi .tTuple))]) (.k (.str ⟨#[100,101,99,105,109,97,108]⟩)) (.k (.str ⟨#[119,104,111,108,101]⟩)))],true⟩
noncomputable def KJ:Fn:=⟨2,[],3,[.asg 2 (.idx (.l 0) (.bin .Sub (.call (.k (.bi .len)) [(.l 0)]) (.k (.int 1)))),
 .ite (.cmp .Eq (.l 2) (.k (.str ⟨#[36]⟩))) [.ret (.k (.str ⟨#[116,101,120,116]⟩))] [],
 .ite (.cmp .Eq (.l 2) (.k (.str ⟨#[37]⟩))) [.ret (.k (.str ⟨#[119,104,111,108,101]⟩))] [],
 .ret (.ite (.cmp .Eq (.l 2) (.k (.str ⟨#[33]⟩))) (.k (.str ⟨#[100,101,99,105,109,97,108]⟩)) (.mcall (.l 1) ⟨#[103,101,116]⟩ [(.idx (.l 0) (.k (.int 0))),(.k (.str ⟨#[100,101,99,105,109,97,108]⟩))]))],false⟩
noncomputable def Mc:Fn:=⟨1,[],1,[.ite (.cmp .Eq (.l 0) (.k (.str ⟨#[116,101,120,116]⟩))) [.ret (.k (.str ⟨#[]⟩))] [],
 .ret (.ite (.cmp .Eq (.l 0) (.k (.str ⟨#[119,104,111,108,101]⟩))) (.k (.int 0)) (.tup [(.k (.int 0)),(.k (.int 0))]))],true⟩
noncomputable def Nf:Fn:=⟨1,[],3,[.asgTT [.v 1,.v 2] [(.k (.int 1)),(.k (.int 10))],
 .while_ (.cmp .LtE (.l 2) (.l 0)) [.aug 2 .Mult (.k (.int 10)),
  .aug 1 .Add (.k (.int 1))],
 .ret (.l 1)],true⟩
noncomputable def Gm:Fn:=⟨2,[],5,[.ite (.cmp .LtE (.l 1) (.k (.int 0))) [.ret (.l 0)] [],
 .ite (.cmp .Gt (.l 1) (.bin .Add (.call (.k (.fn 141)) [(.l 0)]) (.k (.int 1)))) [.ret (.k (.int 0))] [],
 .asg 2 (.bin .Pow (.k (.int 10)) (.l 1)),
 .asgTT [.v 3,.v 4] [(.bin .FloorDiv (.l 0) (.l 2)),(.bin .Mod (.l 0) (.l 2))],
 .ite (.or (.cmp .Gt (.bin .Mult (.k (.int 2)) (.l 4)) (.l 2)) (.and (.cmp .Eq (.bin .Mult (.k (.int 2)) (.l 4)) (.l 2)) (.cmp .Eq (.bin .Mod (.l 3) (.k (.int 2))) (.k (.int 1))))) [.aug 3 .Add (.k (.int 1))] [],
 .ret (.l 3)],true⟩
noncomputable def Jh:Fn:=⟨3,[],6,[.asg 3 (.call (.k (.bi .abs)) [(.l 0)]),
 .asg 4 (.bin .Sub (.call (.k (.fn 141)) [(.l 3)]) (.l 2)),
 .ite (.cmp .Gt (.l 4) (.k (.int 0))) [.asgTT [.v 3,.v 1] [(.call (.k (.fn 148)) [(.l 3),(.l 4)]),(.bin .Add (.l 1) (.l 4))]] [],
 .ite (.cmp .Eq (.l 3) (.k (.int 0))) [.ret (.tup [(.k (.int 0)),(.k (.int 0))])] [],
 .while_ (.cmp .Eq (.bin .Mod (.l 3) (.k (.int 10))) (.k (.int 0))) [.asgTT [.v 3,.v 1] [(.bin .FloorDiv (.l 3) (.k (.int 10))),(.bin .Add (.l 1) (.k (.int 1)))]],
 .asg 5 (.bin .Sub (.bin .Add (.l 1) (.call (.k (.fn 141)) [(.l 3)])) (.k (.int 1))),
 .ite (.cmp .Gt (.l 5) (.k (.int 99))) [.raise [(.k (.str ⟨#[79,86]⟩))]] [],
 .ite (.cmp .Lt (.l 5) (.neg (.k (.int 99)))) [.ret (.tup [(.k (.int 0)),(.k (.int 0))])] [],
 .ret (.tup [(.ite (.cmp .Lt (.l 0) (.k (.int 0))) (.neg (.l 3)) (.l 3)),(.l 1)])],true⟩
noncomputable def Nh:Fn:=⟨1,[],4,[.asgT [.v 1,.v 2] (.l 0),
 .ite (.cmp .GtE (.l 2) (.k (.int 0))) [.ret (.bin .Mult (.l 1) (.bin .Pow (.k (.int 10)) (.l 2)))] [],
 .asg 3 (.call (.k (.fn 148)) [(.call (.k (.bi .abs)) [(.l 1)]),(.neg (.l 2))]),
 .ret (.ite (.cmp .Lt (.l 1) (.k (.int 0))) (.neg (.l 3)) (.l 3))],true⟩
noncomputable def YN:Fn:=⟨2,[],2,[.ret (.cmp2 .LtE .Lt (.neg (.bin .LShift (.k (.int 1)) (.bin .Sub (.l 1) (.k (.int 1))))) (.l 0) (.bin .LShift (.k (.int 1)) (.bin .Sub (.l 1) (.k (.int 1)))))],true⟩
noncomputable def KT:Fn:=⟨2,[],3,[.ite (.call (.k (.bi .isi)) [(.l 0),(.k (.bi .tStr))]) [.raise [(.k (.str ⟨#[84,77]⟩))]] [],
 .asg 2 (.ite (.call (.k (.bi .isi)) [(.l 0),(.k (.bi .tTuple))]) (.call (.k (.fn 162)) [(.l 0)]) (.l 0)),
 .ite (.not (.call (.k (.fn 169)) [(.l 2),(.l 1)])) [.raise [(.k (.str ⟨#[79,86]⟩))]] [],
 .ret (.l 2)],true⟩
noncomputable def Nc:Fn:=⟨2,[],2,[.ite (.call (.k (.bi .isi)) [(.l 0),(.k (.bi .tStr))]) [.raise [(.k (.str ⟨#[84,77]⟩))]] [],
 .ret (.ite (.call (.k (.bi .isi)) [(.l 0),(.k (.bi .tTuple))]) (.call (.k (.fn 155)) [(.idx (.l 0) (.k (.int 0))),(.idx (.l 0) (.k (.int 1))),(.l 1)]) (.call (.k (.fn 155)) [(.l 0),(.k (.int 0)),(.l 1)]))],true⟩
noncomputable def RL:Fn:=⟨1,[],1,[.ite (.not (.call (.k (.bi .isi)) [(.l 0),(.k (.bi .tStr))])) [.raise [(.k (.str ⟨#[84,77]⟩))]] [],
 .ret (.l 0)],true⟩
noncomputable def KI:Fn:=⟨1,[],1,[.ite (.cmp .Gt (.call (.k (.bi .len)) [(.l 0)]) (.k (.int 255))) [.raise [(.k (.str ⟨#[76,83]⟩))]] [],
 .ret (.l 0)],true⟩
noncomputable def T6:Fn:=⟨4,[],4,[.ite (.cmp .Eq (.l 1) (.k (.str ⟨#[116,101,120,116]⟩))) [.ret (.call (.k (.fn 197)) [(.call (.k (.fn 190)) [(.l 0)])])] [],
 .ret (.ite (.cmp .Eq (.l 1) (.k (.str ⟨#[119,104,111,108,101]⟩))) (.call (.k (.fn 176)) [(.l 0),(.l 2)]) (.call (.k (.fn 183)) [(.l 0),(.l 3)]))],true⟩
noncomputable def MZ:Fn:=⟨4,[],4,[.setA (.l 0) ⟨#[107,105,110,100]⟩ (.l 1),
 .setA (.l 0) ⟨#[104,105,103,104,115]⟩ (.copy false (.l 2)),
 .setA (.l 0) ⟨#[98,97,115,101]⟩ (.l 3),
 .setA (.l 0) ⟨#[105,116,101,109,115]⟩ (.rep (.call (.k (.fn 134)) [(.l 1)]) (.call (.k (.fn 239)) [(.l 2),(.l 3)])),
 .setA (.l 0) ⟨#[114,111,111,109]⟩ (.call (.k (.bi .len)) [(.attr (.l 0) ⟨#[105,116,101,109,115]⟩)])],false⟩
noncomputable def Pn:Fn:=⟨2,[],4,[.asg 2 (.k (.int 1)),
 .for_ (.one 3) (.it (.l 0)) [.asg 2 (.bin .Mult (.l 2) (.bin .Add (.bin .Sub (.l 3) (.l 1)) (.k (.int 1))))],
 .ret (.l 2)],true⟩
noncomputable def RH:Fn:=⟨2,[],2,[.ret (.call (.k (.fn 127)) [(.l 1),(.attr (.l 0) ⟨#[107,105,110,100,115]⟩)])],false⟩
noncomputable def Ma:Fn:=⟨2,[],3,[.ite (.cmp .Eq (.call (.k (.bi .len)) [(.l 1)]) (.k (.int 0))) [.raise [(.k (.str ⟨#[83,78]⟩)),(.k (.str ⟨#[68,73,77]⟩))]] [],
 .for_ (.one 2) (.it (.l 1)) [.ite (.cmp .Lt (.l 2) (.attr (.l 0) ⟨#[98,97,115,101]⟩)) [.raise [(.k (.str ⟨#[70,67]⟩)),(.l 2)]] []],
 .ite (.cmp .Gt (.call (.k (.fn 239)) [(.l 1),(.attr (.l 0) ⟨#[98,97,115,101]⟩)]) (.attr (.l 0) ⟨#[114,111,111,109]⟩)) [.raise [(.k (.str ⟨#[79,77]⟩)),(.call (.k (.fn 239)) [(.l 1),(.attr (.l 0) ⟨#[98,97,115,101]⟩)])]] []],false⟩
noncomputable def cR:Fn:=⟨3,[],3,[.ite (.cmp .In (.l 1) (.attr (.l 0) ⟨#[97,114,114,97,121,115]⟩)) [.raise [(.k (.str ⟨#[68,68]⟩)),(.l 1)]] [],
 .expr (.call (.k (.fn 253)) [(.l 0),(.l 2)]),
 .setI (.attr (.l 0) ⟨#[97,114,114,97,121,115]⟩) (.l 1) (.call (.k (.fn 228)) [(.call (.k (.fn 246)) [(.l 0),(.l 1)]),(.l 2),(.attr (.l 0) ⟨#[98,97,115,101]⟩)])],false⟩
noncomputable def RF:Fn:=⟨3,[],3,[.ite (.cmp .NotIn (.l 1) (.attr (.l 0) ⟨#[97,114,114,97,121,115]⟩)) [.expr (.call (.k (.fn 260)) [(.l 0),(.l 1),(.rep (.k (.int 10)) (.l 2))])] [],
 .ret (.idx (.attr (.l 0) ⟨#[97,114,114,97,121,115]⟩) (.l 1))],false⟩
noncomputable def P4:Fn:=⟨2,[],5,[.ite (.cmp .NotEq (.call (.k (.bi .len)) [(.l 1)]) (.call (.k (.bi .len)) [(.attr (.l 0) ⟨#[104,105,103,104,115]⟩)])) [.raise [(.k (.str ⟨#[66,83]⟩)),(.call (.k (.bi .len)) [(.l 1)])]] [],
 .asg 2 (.k (.int 0)),
 .for_ (.two 3 4) (.zip (.l 1) (.attr (.l 0) ⟨#[104,105,103,104,115]⟩)) [.ite (.not (.cmp2 .LtE .LtE (.attr (.l 0) ⟨#[98,97,115,101]⟩) (.l 3) (.l 4))) [.raise [(.k (.str ⟨#[66,83]⟩)),(.l 3)]] [],
  .asg 2 (.bin .Sub (.bin .Add (.bin .Mult (.l 2) (.bin .Add (.bin .Sub (.l 4) (.attr (.l 0) ⟨#[98,97,115,101]⟩)) (.k (.int 1)))) (.l 3)) (.attr (.l 0) ⟨#[98,97,115,101]⟩))],
 .ret (.l 2)],false⟩
noncomputable def Po:Fn:=⟨3,[],4,[.asg 3 (.call (.k (.fn 267)) [(.l 0),(.l 1),(.call (.k (.bi .len)) [(.l 2)])]),
 .ret (.idx (.attr (.l 3) ⟨#[105,116,101,109,115]⟩) (.call (.k (.fn 274)) [(.l 3),(.l 2)]))],false⟩
noncomputable def El:Fn:=⟨4,[],6,[.asg 4 (.call (.k (.fn 267)) [(.l 0),(.l 1),(.call (.k (.bi .len)) [(.l 2)])]),
 .asg 5 (.call (.k (.fn 274)) [(.l 4),(.l 2)]),
 .setI (.attr (.l 4) ⟨#[105,116,101,109,115]⟩) (.l 5) (.call (.k (.fn 204)) [(.l 3),(.attr (.l 4) ⟨#[107,105,110,100]⟩),(.attr (.l 0) ⟨#[98,105,116,115]⟩),(.attr (.l 0) ⟨#[100,105,103,105,116,115]⟩)])],false⟩
noncomputable def LZ:Fn:=⟨6,[.int 2000,.int 20,.int 2000],6,[.setA (.l 0) ⟨#[98,105,116,115]⟩ (.l 1),
 .setA (.l 0) ⟨#[100,105,103,105,116,115]⟩ (.l 2),
 .setA (.l 0) ⟨#[109,111,115,116,95,115,116,101,112,115]⟩ (.l 3),
 .setA (.l 0) ⟨#[109,111,115,116,95,100,101,112,116,104]⟩ (.l 4),
 .setA (.l 0) ⟨#[114,111,111,109]⟩ (.l 5),
 .setA (.l 0) ⟨#[110,97,109,101,115]⟩ .dct,
 .setA (.l 0) ⟨#[97,114,114,97,121,115]⟩ .dct,
 .setA (.l 0) ⟨#[107,105,110,100,115]⟩ .dct,
 .setA (.l 0) ⟨#[102,110,115]⟩ .dct,
 .setA (.l 0) ⟨#[111,117,116]⟩ (.lst false []),
 .setA (.l 0) ⟨#[114,111,119]⟩ (.k (.str ⟨#[]⟩)),
 .setA (.l 0) ⟨#[105,110,112,117,116,115]⟩ (.lst false []),
 .setA (.l 0) ⟨#[102,105,108,101,115]⟩ .dct,
 .setA (.l 0) ⟨#[111,112,101,110]⟩ .dct,
 .setA (.l 0) ⟨#[102,105,101,108,100,115]⟩ .dct,
 .setA (.l 0) ⟨#[100,97,116,97]⟩ (.lst false []),
 .setA (.l 0) ⟨#[115,112,111,116]⟩ (.k (.int 0)),
 .setA (.l 0) ⟨#[98,97,115,101]⟩ (.k (.int 0)),
 .setA (.l 0) ⟨#[115,101,101,100]⟩ (.k (.int 1)),
 .setA (.l 0) ⟨#[115,116,101,112,115]⟩ (.k (.int 0)),
 .setA (.l 0) ⟨#[100,101,112,116,104]⟩ (.k (.int 0)),
 .setA (.l 0) ⟨#[104,97,110,100,108,101,114]⟩ (.k (.int 0)),
 .setA (.l 0) ⟨#[105,115,95,104,97,110,100,108,105,110,103]⟩ (.k (.bool false)),
 .setA (.l 0) ⟨#[101,114,114,111,114,95,108,105,110,101]⟩ (.k (.int 0)),
 .setA (.l 0) ⟨#[101,114,114,111,114,95,99,111,100,101]⟩ (.k (.str ⟨#[]⟩)),
 .setA (.l 0) ⟨#[105,115,95,116,114,97,99,101,100]⟩ (.k (.bool false)),
 .setA (.l 0) ⟨#[116,114,97,99,101,115]⟩ (.lst false []),
 .setA (.l 0) ⟨#[99,111,109,109,111,110]⟩ (.lst false [])],false⟩
noncomputable def Ol:Fn:=⟨2,[],2,[.ret (.call (.k (.fn 127)) [(.l 1),(.attr (.l 0) ⟨#[107,105,110,100,115]⟩)])],false⟩
noncomputable def Pq:Fn:=⟨2,[],2,[.ret (.ite (.cmp .In (.l 1) (.attr (.l 0) ⟨#[110,97,109,101,115]⟩)) (.idx (.attr (.l 0) ⟨#[110,97,109,101,115]⟩) (.l 1)) (.call (.k (.fn 134)) [(.call (.k (.fn 317)) [(.l 0),(.l 1)])]))],false⟩
noncomputable def KQ:Fn:=⟨3,[],3,[.setI (.attr (.l 0) ⟨#[110,97,109,101,115]⟩) (.l 1) (.call (.k (.fn 204)) [(.l 2),(.call (.k (.fn 317)) [(.l 0),(.l 1)]),(.attr (.l 0) ⟨#[98,105,116,115]⟩),(.attr (.l 0) ⟨#[100,105,103,105,116,115]⟩)])],false⟩
noncomputable def Hf:Fn:=⟨3,[],7,[.asg 3 (.idx (.l 2) (.k (.int 1))),
 .ite (.cmp .Eq (.idx (.l 3) (.k (.int 0))) (.k (.str ⟨#[110,97,109,101]⟩))) [.expr (.mcall (.l 0) ⟨#[115,116,111,114,101]⟩ [(.idx (.l 3) (.k (.int 1))),(.mcall (.l 0) ⟨#[119,111,114,116,104]⟩ [(.idx (.l 2) (.k (.int 2)))])])] [.asg 4 (.comp false (.one 5) (.it (.idx (.l 3) (.k (.int 2)))) .none (.mcall (.l 0) ⟨#[119,111,114,116,104]⟩ [(.l 5)])),
  .expr (.mcall (.l 0) ⟨#[112,117,116]⟩ [(.idx (.l 3) (.k (.int 1))),(.l 4),(.mcall (.l 0) ⟨#[119,111,114,116,104]⟩ [(.idx (.l 2) (.k (.int 2)))])])],
 .ret (.bin .Add (.l 1) (.k (.int 1)))],false⟩
noncomputable def Jg:Fn:=⟨2,[],3,[.asg 2 (.ite (.cmp .Eq (.idx (.l 1) (.k (.int 0))) (.k (.str ⟨#[105,116,101,109]⟩))) (.mcall (.attr (.attr (.l 0) ⟨#[119,111,114,108,100]⟩) ⟨#[97,114,114,97,121,115]⟩) ⟨#[103,101,116]⟩ [(.idx (.l 1) (.k (.int 1)))]) (.k .none)),
 .ret (.ite (.cmp .Is (.l 2) (.k .none)) (.call (.k (.fn 317)) [(.attr (.l 0) ⟨#[119,111,114,108,100]⟩),(.idx (.l 1) (.k (.int 1)))]) (.attr (.l 2) ⟨#[107,105,110,100]⟩))],false⟩
noncomputable def Mz:Fn:=⟨2,[],4,[.for_ (.one 2) (.it (.l 1)) [.asg 3 (.call (.k (.fn 355)) [(.l 0),(.l 2)]),
  .expr (.call (.k (.fn 369)) [(.l 0),(.l 3),(.mcall (.l 0) ⟨#[110,101,120,116,95,100,97,116,97]⟩ [(.call (.k (.fn 343)) [(.l 0),(.l 2)])])])]],false⟩
noncomputable def DO:Fn:=⟨2,[],5,[.ite (.cmp .Eq (.idx (.l 1) (.k (.int 0))) (.k (.str ⟨#[110,97,109,101]⟩))) [.ret (.l 1)] [],
 .asg 2 (.comp false (.one 3) (.it (.idx (.l 1) (.k (.int 2)))) .none (.mcall (.l 0) ⟨#[119,111,114,116,104]⟩ [(.l 3)])),
 .expr (.mcall (.l 0) ⟨#[105,116,101,109,95,111,102]⟩ [(.idx (.l 1) (.k (.int 1))),(.l 2)]),
 .ret (.tup [(.k (.str ⟨#[105,116,101,109]⟩)),(.idx (.l 1) (.k (.int 1))),(.l 2)])],false⟩
noncomputable def P5:Fn:=⟨2,[],2,[.ret (.ite (.cmp .Eq (.idx (.l 1) (.k (.int 0))) (.k (.str ⟨#[110,97,109,101]⟩))) (.mcall (.l 0) ⟨#[118,97,108,117,101,95,111,102,95,110,97,109,101]⟩ [(.idx (.l 1) (.k (.int 1)))]) (.mcall (.l 0) ⟨#[105,116,101,109,95,111,102]⟩ [(.idx (.l 1) (.k (.int 1))),(.idx (.l 1) (.k (.int 2)))]))],false⟩
noncomputable def T5:Fn:=⟨3,[],3,[.ite (.cmp .Eq (.idx (.l 1) (.k (.int 0))) (.k (.str ⟨#[110,97,109,101]⟩))) [.expr (.mcall (.l 0) ⟨#[115,116,111,114,101]⟩ [(.idx (.l 1) (.k (.int 1))),(.l 2)])] [.expr (.mcall (.l 0) ⟨#[112,117,116]⟩ [(.idx (.l 1) (.k (.int 1))),(.idx (.l 1) (.k (.int 2))),(.l 2)])]],false⟩
noncomputable def Co:Fn:=⟨2,[],8,[.asgTT [.v 2,.v 3,.v 4] [(.idx (.l 1) (.k (.int 1))),(.idx (.l 1) (.k (.int 2))),(.attr (.l 0) ⟨#[119,111,114,108,100]⟩)],
 .asg 5 (.call (.k (.fn 343)) [(.l 0),(.l 2)]),
 .ite (.cmp .NotEq (.l 5) (.call (.k (.fn 343)) [(.l 0),(.l 3)])) [.raise [(.k (.str ⟨#[84,77]⟩))]] [],
 .asgTT [.v 2,.v 3] [(.call (.k (.fn 355)) [(.l 0),(.l 2)]),(.call (.k (.fn 355)) [(.l 0),(.l 3)])],
 .asgTT [.v 6,.v 7] [(.call (.k (.fn 362)) [(.l 0),(.l 2)]),(.call (.k (.fn 362)) [(.l 0),(.l 3)])],
 .expr (.call (.k (.fn 204)) [(.l 7),(.l 5),(.attr (.l 4) ⟨#[98,105,116,115]⟩),(.attr (.l 4) ⟨#[100,105,103,105,116,115]⟩)]),
 .expr (.call (.k (.fn 204)) [(.l 6),(.l 5),(.attr (.l 4) ⟨#[98,105,116,115]⟩),(.attr (.l 4) ⟨#[100,105,103,105,116,115]⟩)]),
 .expr (.call (.k (.fn 369)) [(.l 0),(.l 2),(.l 7)]),
 .expr (.call (.k (.fn 369)) [(.l 0),(.l 3),(.l 6)])],false⟩
noncomputable def CV:Fn:=⟨2,[],13,[.asgT [.v 2,.v 3,.v 4,.v 5,.v 6] (.l 1),
 .asg 7 (.call (.k (.fn 355)) [(.l 0),(.l 3)]),
 .asgTT [.v 8,.v 9] [(.mcall (.l 0) ⟨#[119,104,111,108,101]⟩ [(.l 4)]),(.ite (.cmp .Is (.l 5) (.k .none)) (.k .none) (.mcall (.l 0) ⟨#[119,104,111,108,101]⟩ [(.l 5)]))],
 .asgTT [.v 10,.v 11] [(.call (.k (.fn 190)) [(.mcall (.l 0) ⟨#[119,111,114,116,104]⟩ [(.l 6)])]),(.call (.k (.fn 190)) [(.call (.k (.fn 362)) [(.l 0),(.l 7)])])],
 .ite (.or (.not (.cmp2 .LtE .LtE (.k (.int 1)) (.l 8) (.call (.k (.bi .len)) [(.l 11)]))) (.and (.cmp .IsNot (.l 9) (.k .none)) (.cmp .Lt (.l 9) (.k (.int 0))))) [.raise [(.k (.str ⟨#[70,67]⟩))]] [],
 .asg 12 (.call (.k (.bi .min)) [(.call (.k (.bi .len)) [(.l 10)]),(.bin .Add (.bin .Sub (.call (.k (.bi .len)) [(.l 11)]) (.l 8)) (.k (.int 1))),(.ite (.cmp .Is (.l 9) (.k .none)) (.call (.k (.bi .len)) [(.l 10)]) (.l 9))]),
 .expr (.call (.k (.fn 369)) [(.l 0),(.l 7),(.bin .Add (.bin .Add (.slc (.l 11) .none (some (.bin .Sub (.l 8) (.k (.int 1))))) (.slc (.l 10) .none (some (.l 12)))) (.slc (.l 11) (some (.bin .Add (.bin .Sub (.l 8) (.k (.int 1))) (.l 12))) .none))])],false⟩
noncomputable def Oj:Fn:=⟨1,[],1,[.ret (.tup [(.bin .Sub (.k (.int 0)) (.idx (.l 0) (.k (.int 0)))),(.idx (.l 0) (.k (.int 1)))])],true⟩
noncomputable def VZ:Fn:=⟨2,[],3,[.asg 2 (.call (.k (.bi .min)) [(.idx (.l 0) (.k (.int 1))),(.idx (.l 1) (.k (.int 1)))]),
 .ret (.tup [(.bin .Mult (.idx (.l 0) (.k (.int 0))) (.bin .Pow (.k (.int 10)) (.bin .Sub (.idx (.l 0) (.k (.int 1))) (.l 2)))),(.bin .Mult (.idx (.l 1) (.k (.int 0))) (.bin .Pow (.k (.int 10)) (.bin .Sub (.idx (.l 1) (.k (.int 1))) (.l 2)))),(.l 2)])],true⟩
noncomputable def Wa:Fn:=⟨3,[],6,[.asgT [.v 3,.v 4,.v 5] (.call (.k (.fn 399)) [(.l 0),(.l 1)]),
 .ret (.call (.k (.fn 155)) [(.bin .Add (.l 3) (.l 4)),(.l 5),(.l 2)])],true⟩
noncomputable def Wc:Fn:=⟨3,[],3,[.ret (.call (.k (.fn 406)) [(.l 0),(.call (.k (.fn 392)) [(.l 1)]),(.l 2)])],true⟩
noncomputable def Wb:Fn:=⟨3,[],3,[.ret (.call (.k (.fn 155)) [(.bin .Mult (.idx (.l 0) (.k (.int 0))) (.idx (.l 1) (.k (.int 0)))),(.bin .Add (.idx (.l 0) (.k (.int 1))) (.idx (.l 1) (.k (.int 1)))),(.l 2)])],true⟩
noncomputable def Ji:Fn:=⟨2,[],4,[.asgTT [.v 2,.v 3] [(.k (.int 0)),(.l 1)],
 .while_ (.and (.cmp .Lt (.l 1) (.call (.k (.bi .len)) [(.l 0)])) (.and (.cmp2 .LtE .LtE (.k (.str ⟨#[48]⟩)) (.idx (.l 0) (.l 1)) (.k (.str ⟨#[57]⟩))) (.cmp .Lt (.bin .Sub (.l 1) (.l 3)) (.k (.int 300))))) [.asg 2 (.bin .Sub (.bin .Add (.bin .Mult (.k (.int 10)) (.l 2)) (.call (.k (.bi .ord)) [(.idx (.l 0) (.l 1))])) (.k (.int 48))),
  .aug 1 .Add (.k (.int 1))],
 .ret (.tup [(.l 2),(.bin .Sub (.l 1) (.l 3)),(.l 1)])],true⟩
noncomputable def Mb:Fn:=⟨2,[],7,[.ite (.or (.cmp .GtE (.l 1) (.call (.k (.bi .len)) [(.l 0)])) (.cmp .NotIn (.idx (.l 0) (.l 1)) (.k (.str ⟨#[69,101,68,100]⟩)))) [.ret (.tup [(.k (.int 0)),(.l 1)])] [],
 .asg 2 (.bin .Add (.l 1) (.k (.int 1))),
 .asg 3 (.ite (.cmp .Eq (.slc (.l 0) (some (.l 2)) (some (.bin .Add (.l 2) (.k (.int 1))))) (.k (.str ⟨#[45]⟩))) (.neg (.k (.int 1))) (.k (.int 1))),
 .ite (.cmp .In (.slc (.l 0) (some (.l 2)) (some (.bin .Add (.l 2) (.k (.int 1))))) (.tup [(.k (.str ⟨#[43]⟩)),(.k (.str ⟨#[45]⟩))])) [.aug 2 .Add (.k (.int 1))] [],
 .asgT [.v 4,.v 5,.v 6] (.call (.k (.fn 462)) [(.l 0),(.l 2)]),
 .ite (.cmp .Eq (.l 5) (.k (.int 0))) [.ret (.tup [(.k (.int 0)),(.l 1)])] [],
 .ret (.tup [(.bin .Mult (.l 3) (.call (.k (.bi .min)) [(.l 4),(.k (.int 9999))])),(.l 6)])],true⟩
noncomputable def Ok:Fn:=⟨2,[],10,[.asg 2 (.k (.int 0)),
 .while_ (.and (.cmp .Lt (.l 2) (.call (.k (.bi .len)) [(.l 0)])) (.cmp .In (.idx (.l 0) (.l 2)) (.k (.str ⟨#[32,9]⟩)))) [.aug 2 .Add (.k (.int 1))],
 .asg 3 (.cmp .Eq (.slc (.l 0) (some (.l 2)) (some (.bin .Add (.l 2) (.k (.int 1))))) (.k (.str ⟨#[45]⟩))),
 .ite (.cmp .In (.slc (.l 0) (some (.l 2)) (some (.bin .Add (.l 2) (.k (.int 1))))) (.tup [(.k (.str ⟨#[43]⟩)),(.k (.str ⟨#[45]⟩))])) [.aug 2 .Add (.k (.int 1))] [],
 .asgT [.v 4,.v 5,.v 2] (.call (.k (.fn 462)) [(.l 0),(.l 2)]),
 .asg 6 (.k (.int 0)),
 .ite (.cmp .Eq (.slc (.l 0) (some (.l 2)) (some (.bin .Add (.l 2) (.k (.int 1))))) (.k (.str ⟨#[46]⟩))) [.asgT [.v 7,.v 6,.v 8] (.call (.k (.fn 462)) [(.l 0),(.bin .Add (.l 2) (.k (.int 1)))]),
  .asgTT [.v 4,.v 2] [(.bin .Add (.bin .Mult (.l 4) (.bin .Pow (.k (.int 10)) (.l 6))) (.l 7)),(.ite (.cmp .Gt (.bin .Add (.l 5) (.l 6)) (.k (.int 0))) (.l 8) (.l 2))]] [],
 .ite (.cmp .Eq (.bin .Add (.l 5) (.l 6)) (.k (.int 0))) [.ret (.k .none)] [],
 .asgT [.v 9,.v 2] (.call (.k (.fn 469)) [(.l 0),(.l 2)]),
 .ret (.tup [(.call (.k (.fn 483)) [(.ite (.l 3) (.bin .Sub (.k (.int 0)) (.l 4)) (.l 4)),(.bin .Sub (.l 9) (.l 6)),(.l 1)]),(.l 2)])],true⟩
noncomputable def KS:Fn:=⟨3,[],4,[.asg 3 (.bin .Sub (.bin .Add (.l 1) (.call (.k (.fn 141)) [(.call (.k (.bi .abs)) [(.l 0)])])) (.k (.int 1))),
 .ite (.or (.cmp .Eq (.l 0) (.k (.int 0))) (.cmp .Lt (.l 3) (.bin .Mult (.neg (.k (.int 2))) (.k (.int 99))))) [.ret (.k (.tup [(.int 0),(.int 0)]))] [],
 .ite (.cmp .Gt (.l 3) (.bin .Mult (.k (.int 2)) (.k (.int 99)))) [.raise [(.k (.str ⟨#[79,86]⟩))]] [],
 .ret (.call (.k (.fn 155)) [(.l 0),(.l 1),(.l 2)])],true⟩
noncomputable def Ps:Fn:=⟨1,[],1,[.ite (.call (.k (.bi .isi)) [(.l 0),(.k (.bi .tStr))]) [.raise [(.k (.str ⟨#[84,77]⟩))]] [],
 .ret (.not (.call (.k (.bi .isi)) [(.l 0),(.k (.bi .tTuple))]))],true⟩
noncomputable def RK:Fn:=⟨3,[],3,[.ret (.ite (.call (.k (.fn 169)) [(.l 0),(.l 1)]) (.l 0) (.call (.k (.fn 155)) [(.l 0),(.k (.int 0)),(.l 2)]))],true⟩
noncomputable def Jl:Fn:=⟨5,[],5,[.ite (.cmp .Eq (.l 0) (.k (.str ⟨#[43]⟩))) [.ret (.call (.k (.fn 497)) [(.bin .Add (.l 1) (.l 2)),(.l 3),(.l 4)])] [],
 .ret (.call (.k (.fn 497)) [(.ite (.cmp .Eq (.l 0) (.k (.str ⟨#[45]⟩))) (.bin .Sub (.l 1) (.l 2)) (.bin .Mult (.l 1) (.l 2))),(.l 3),(.l 4)])],true⟩
noncomputable def DC:Fn:=⟨5,[],10,[.asgTT [.v 5,.v 6] [(.call (.k (.fn 490)) [(.l 1)]),(.call (.k (.fn 490)) [(.l 2)])],
 .ite (.cmp .Eq (.l 0) (.k (.str ⟨#[94]⟩))) [.ret (.call (.k (.fn 539)) [(.l 1),(.l 2),(.l 3),(.l 4)])] [],
 .ite (.or (.cmp .Eq (.l 0) (.k (.str ⟨#[92]⟩))) (.cmp .Eq (.l 0) (.k (.str ⟨#[77,79,68]⟩)))) [.asg 7 (.ite (.cmp .Eq (.l 0) (.k (.str ⟨#[92]⟩))) (.k (.fn 511)) (.k (.fn 518))),
  .ret (.call (.k (.fn 497)) [(.call (.l 7) [(.call (.k (.fn 176)) [(.l 1),(.l 3)]),(.call (.k (.fn 176)) [(.l 2),(.l 3)])]),(.l 3),(.l 4)])] [],
 .ite (.and (.cmp .NotEq (.l 0) (.k (.str ⟨#[47]⟩))) (.and (.l 5) (.l 6))) [.ret (.call (.k (.fn 504)) [(.l 0),(.l 1),(.l 2),(.l 3),(.l 4)])] [],
 .asgTT [.v 8,.v 9] [(.call (.k (.fn 183)) [(.l 1),(.l 4)]),(.call (.k (.fn 183)) [(.l 2),(.l 4)])],
 .ite (.cmp .Eq (.l 0) (.k (.str ⟨#[43]⟩))) [.ret (.call (.k (.fn 406)) [(.l 8),(.l 9),(.l 4)])] [],
 .ite (.cmp .Eq (.l 0) (.k (.str ⟨#[45]⟩))) [.ret (.call (.k (.fn 413)) [(.l 8),(.l 9),(.l 4)])] [],
 .ret (.ite (.cmp .Eq (.l 0) (.k (.str ⟨#[42]⟩))) (.call (.k (.fn 420)) [(.l 8),(.l 9),(.l 4)]) (.call (.k (.fn 434)) [(.l 8),(.l 9),(.l 4)]))],true⟩
noncomputable def JO:Fn:=⟨2,[],2,[.setA (.l 0) ⟨#[112,105,108,101]⟩ (.lst false []),
 .setA (.l 0) ⟨#[109,111,115,116]⟩ (.l 1),
 .setA (.l 0) ⟨#[102,97,105,108,101,100,95,97,116]⟩ (.neg (.k (.int 1)))],false⟩
noncomputable def Nd:Fn:=⟨2,[],5,[.ite (.cmp .NotIn (.l 1) (.attr (.l 0) ⟨#[102,105,101,108,100,115]⟩)) [.ret (.k .none)] [],
 .asgT [.v 2,.v 3,.v 4] (.idx (.attr (.l 0) ⟨#[102,105,101,108,100,115]⟩) (.l 1)),
 .ret (.slc (.idx (.idx (.attr (.l 0) ⟨#[111,112,101,110]⟩) (.l 2)) (.k (.str ⟨#[98,117,102,102,101,114]⟩))) (some (.l 3)) (some (.bin .Add (.l 3) (.l 4))))],false⟩
noncomputable def P0:Fn:=⟨2,[],2,[.ite (.cmp .In (.l 1) (.attr (.l 0) ⟨#[102,105,101,108,100,115]⟩)) [.expr (.mcall (.attr (.l 0) ⟨#[102,105,101,108,100,115]⟩) ⟨#[112,111,112]⟩ [(.l 1)])] []],false⟩
noncomputable def Md:Fn:=⟨3,[],4,[.for_ (.one 3) (.it (.l 1)) [.ite (.cmp .In (.l 3) (.attr (.l 0) ⟨#[102,105,101,108,100,115]⟩)) [.setI (.attr (.l 0) ⟨#[102,105,101,108,100,115]⟩) (.bin .Add (.call (.k (.bi .tStr)) [(.l 2)]) (.l 3)) (.mcall (.attr (.l 0) ⟨#[102,105,101,108,100,115]⟩) ⟨#[112,111,112]⟩ [(.l 3)])] []]],false⟩
noncomputable def Ng:Fn:=⟨3,[],4,[.for_ (.one 3) (.it (.l 1)) [.expr (.call (.k (.fn 616)) [(.l 0),(.l 3)])],
 .for_ (.one 3) (.it (.l 1)) [.ite (.cmp .In (.bin .Add (.call (.k (.bi .tStr)) [(.l 2)]) (.l 3)) (.attr (.l 0) ⟨#[102,105,101,108,100,115]⟩)) [.setI (.attr (.l 0) ⟨#[102,105,101,108,100,115]⟩) (.l 3) (.mcall (.attr (.l 0) ⟨#[102,105,101,108,100,115]⟩) ⟨#[112,111,112]⟩ [(.bin .Add (.call (.k (.bi .tStr)) [(.l 2)]) (.l 3))])] []]],false⟩
noncomputable def Jk:Fn:=⟨2,[],3,[.ite (.cmp .Eq (.l 1) (.k (.str ⟨#[69,82,82]⟩))) [.ret (.call (.k (.fn 602)) [(.l 0)])] [],
 .ite (.cmp .Eq (.l 1) (.k (.str ⟨#[69,82,76]⟩))) [.ret (.attr (.l 0) ⟨#[101,114,114,111,114,95,108,105,110,101]⟩)] [],
 .asg 2 (.call (.k (.fn 609)) [(.l 0),(.l 1)]),
 .ret (.ite (.cmp .Is (.l 2) (.k .none)) (.call (.k (.fn 324)) [(.l 0),(.l 1)]) (.l 2))],false⟩
noncomputable def EI:Fn:=⟨3,[],3,[.expr (.call (.k (.fn 331)) [(.l 0),(.l 1),(.l 2)]),
 .expr (.call (.k (.fn 616)) [(.l 0),(.l 1)])],false⟩
noncomputable def CR:Fn:=⟨5,[],16,[.ite (.cmp .NotIn (.l 1) (.attr (.l 0) ⟨#[102,110,115]⟩)) [.raise [(.k (.str ⟨#[85,70]⟩)),(.l 1)]] [],
 .asgT [.v 5,.v 6,.v 7] (.idx (.attr (.l 0) ⟨#[102,110,115]⟩) (.l 1)),
 .ite (.cmp .NotEq (.call (.k (.bi .len)) [(.l 5)]) (.call (.k (.bi .len)) [(.l 2)])) [.raise [(.k (.str ⟨#[83,78]⟩)),(.l 1)]] [],
 .ite (.cmp .GtE (.attr (.l 0) ⟨#[100,101,112,116,104]⟩) (.attr (.l 0) ⟨#[109,111,115,116,95,100,101,112,116,104]⟩)) [.raise [(.k (.str ⟨#[79,77]⟩)),(.l 1)]] [],
 .asg 8 (.bin .Add (.l 5) (.lst false [(.l 1)])),
 .asg 10 (.comp false (.one 14) (.it (.l 8)) .none (.tup [(.l 14),(.mcall (.attr (.l 0) ⟨#[110,97,109,101,115]⟩) ⟨#[103,101,116]⟩ [(.l 14)])])),
 .asg 12 (.comp false (.two 14 15) (.zip (.l 5) (.l 2)) .none (.call (.k (.fn 204)) [(.l 15),(.call (.k (.fn 317)) [(.l 0),(.l 14)]),(.attr (.l 0) ⟨#[98,105,116,115]⟩),(.attr (.l 0) ⟨#[100,105,103,105,116,115]⟩)])),
 .expr (.call (.k (.fn 623)) [(.l 0),(.l 8),(.attr (.l 0) ⟨#[100,101,112,116,104]⟩)]),
 .for_ (.two 9 11) (.zip (.l 5) (.l 12)) [.setI (.attr (.l 0) ⟨#[110,97,109,101,115]⟩) (.l 9) (.l 11)],
 .augA (.l 0) ⟨#[100,101,112,116,104]⟩ .Add (.k (.int 1)),
 .fin [.asg 13 (.ite (.cmp .Lt (.l 7) (.k (.int 0))) (.call (.l 3) [(.l 6)]) (.call (.l 4) [(.l 1),(.l 7)]))] [.augA (.l 0) ⟨#[100,101,112,116,104]⟩ .Sub (.k (.int 1)),
  .for_ (.two 9 11) (.it (.rev (.l 10))) [.expr (.mcall (.attr (.l 0) ⟨#[110,97,109,101,115]⟩) ⟨#[112,111,112]⟩ [(.l 9),(.k .none)]),
   .ite (.cmp .IsNot (.l 11) (.k .none)) [.setI (.attr (.l 0) ⟨#[110,97,109,101,115]⟩) (.l 9) (.l 11)] []],
  .expr (.call (.k (.fn 630)) [(.l 0),(.l 8),(.attr (.l 0) ⟨#[100,101,112,116,104]⟩)])],
 .ret (.call (.k (.fn 204)) [(.l 13),(.call (.k (.fn 317)) [(.l 0),(.l 1)]),(.attr (.l 0) ⟨#[98,105,116,115]⟩),(.attr (.l 0) ⟨#[100,105,103,105,116,115]⟩)])],false⟩
noncomputable def Oi:Fn:=⟨2,[],2,[.while_ (.and (.cmp .Lt (.l 1) (.call (.k (.bi .len)) [(.l 0)])) (.cmp .In (.idx (.l 0) (.l 1)) (.k (.str ⟨#[32,9]⟩)))) [.aug 1 .Add (.k (.int 1))],
 .ret (.l 1)],true⟩
noncomputable def Hg:Fn:=⟨2,[],3,[.asg 2 (.mcall (.l 0) ⟨#[102,105,110,100]⟩ [(.k (.str ⟨#[34]⟩)),(.bin .Add (.l 1) (.k (.int 1)))]),
 .ite (.cmp .Lt (.l 2) (.k (.int 0))) [.ret (.tup [(.slc (.l 0) (some (.bin .Add (.l 1) (.k (.int 1)))) .none),(.call (.k (.bi .len)) [(.l 0)])])] [],
 .ret (.tup [(.slc (.l 0) (some (.bin .Add (.l 1) (.k (.int 1)))) (some (.l 2))),(.call (.k (.fn 656)) [(.l 0),(.bin .Add (.l 2) (.k (.int 1)))])])],true⟩
noncomputable def Jj:Fn:=⟨3,[],3,[.ite (.cmp .Eq (.l 1) (.k (.str ⟨#[116,101,120,116]⟩))) [.ret (.l 0)] [],
 .ret (.ite (.cmp .Eq (.l 0) (.k (.str ⟨#[]⟩))) (.k (.int 0)) (.call (.l 2) [(.l 0)]))],false⟩
noncomputable def KR:Fn:=⟨1,[],3,[.ite (.cmp .NotEq (.slc (.l 0) .none (some (.k (.int 1)))) (.k (.str ⟨#[34]⟩))) [.ret (.l 0)] [],
 .asgT [.v 1,.v 2] (.call (.k (.fn 663)) [(.l 0),(.k (.int 0))]),
 .ret (.ite (.cmp .Eq (.l 2) (.call (.k (.bi .len)) [(.l 0)])) (.l 1) (.k .none))],true⟩
noncomputable def DG:Fn:=⟨3,[],6,[.ite (.cmp .GtE (.attr (.l 0) ⟨#[115,112,111,116]⟩) (.call (.k (.bi .len)) [(.attr (.l 0) ⟨#[100,97,116,97]⟩)])) [.raise [(.k (.str ⟨#[79,68]⟩))]] [],
 .asgT [.v 3,.v 4] (.idx (.attr (.l 0) ⟨#[100,97,116,97]⟩) (.attr (.l 0) ⟨#[115,112,111,116]⟩)),
 .asg 5 (.ite (.cmp .Eq (.l 1) (.k (.str ⟨#[116,101,120,116]⟩))) (.call (.k (.fn 677)) [(.l 4)]) (.call (.k (.fn 670)) [(.l 4),(.l 1),(.l 2)])),
 .ite (.cmp .Is (.l 5) (.k .none)) [.raise [(.k (.str ⟨#[83,78]⟩)),(.l 3)]] [],
 .augA (.l 0) ⟨#[115,112,111,116]⟩ .Add (.k (.int 1)),
 .ret (.l 5)],false⟩
noncomputable def G2:Fn:=⟨1,[],1,[.ite (.cmp .In (.idx (.l 0) (.k (.int 0))) (.tup [(.k (.str ⟨#[105,116,101,109]⟩)),(.k (.str ⟨#[99,97,108,108]⟩)),(.k (.str ⟨#[102,110]⟩))])) [.ret (.idx (.l 0) (.k (.int 2)))] [],
 .ite (.cmp .Eq (.idx (.l 0) (.k (.int 0))) (.k (.str ⟨#[116,119,111]⟩))) [.ret (.lst false [(.idx (.l 0) (.k (.int 2))),(.idx (.l 0) (.k (.int 3)))])] [],
 .ret (.ite (.cmp .In (.idx (.l 0) (.k (.int 0))) (.tup [(.k (.str ⟨#[110,101,103]⟩)),(.k (.str ⟨#[110,111,116]⟩))])) (.lst false [(.idx (.l 0) (.k (.int 1)))]) (.lst false []))],true⟩
noncomputable def Jm:Fn:=⟨3,[],3,[.ite (.cmp .In (.l 0) (.k (.tup [(.str ⟨#[61]⟩),(.str ⟨#[60,62]⟩),(.str ⟨#[60]⟩),(.str ⟨#[62]⟩),(.str ⟨#[60,61]⟩),(.str ⟨#[62,61]⟩)]))) [.ret (.call (.k (.fn 707)) [(.l 0),(.call (.k (.fn 700)) [(.l 1),(.l 2)])])] [],
 .ite (.cmp .NotEq (.l 0) (.k (.str ⟨#[43]⟩))) [.raise [(.k (.str ⟨#[84,77]⟩)),(.l 0)]] [],
 .ret (.call (.k (.fn 197)) [(.bin .Add (.l 1) (.l 2))])],true⟩
noncomputable def Do:Fn:=⟨5,[],8,[.asg 5 (.comp false (.one 6) (.it (.tup [(.l 1),(.l 2)])) .none (.cmp .Eq (.call (.k (.fn 120)) [(.l 6)]) (.k (.str ⟨#[116,101,120,116]⟩)))),
 .ite (.cmp .NotEq (.idx (.l 5) (.k (.int 0))) (.idx (.l 5) (.k (.int 1)))) [.raise [(.k (.str ⟨#[84,77]⟩)),(.l 0)]] [],
 .ite (.idx (.l 5) (.k (.int 0))) [.ret (.call (.k (.fn 714)) [(.l 0),(.l 1),(.l 2)])] [],
 .ite (.cmp .In (.l 0) (.k (.tup [(.str ⟨#[61]⟩),(.str ⟨#[60,62]⟩),(.str ⟨#[60]⟩),(.str ⟨#[62]⟩),(.str ⟨#[60,61]⟩),(.str ⟨#[62,61]⟩)]))) [.ret (.call (.k (.fn 707)) [(.l 0),(.call (.k (.fn 560)) [(.l 1),(.l 2)])])] [],
 .ite (.cmp .In (.l 0) (.k (.tup [(.str ⟨#[65,78,68]⟩),(.str ⟨#[79,82]⟩),(.str ⟨#[88,79,82]⟩),(.str ⟨#[69,81,86]⟩),(.str ⟨#[73,77,80]⟩)]))) [.ret (.call (.k (.fn 574)) [(.l 0),(.l 1),(.l 2),(.l 3)])] [],
 .ret (.call (.k (.fn 546)) [(.l 0),(.l 1),(.l 2),(.l 3),(.l 4)])],true⟩
noncomputable def JT:Fn:=⟨3,[],5,[.asgT [.v 3,.v 4] (.l 0),
 .ite (.cmp .Eq (.l 3) (.k (.str ⟨#[116,101,120,116]⟩))) [.ret (.l 4)] [],
 .ret (.ite (.and (.cmp .Eq (.l 3) (.k (.str ⟨#[119,104,111,108,101]⟩))) (.call (.k (.fn 169)) [(.l 4),(.l 1)])) (.l 4) (.call (.k (.fn 183)) [(.l 4),(.l 2)]))],true⟩
noncomputable def JU:Fn:=⟨3,[],4,[.asg 3 (.idx (.l 0) (.k (.int 0))),
 .ite (.cmp .Eq (.l 3) (.k (.str ⟨#[116,119,111]⟩))) [.ret (.call (.k (.fn 719)) [(.idx (.l 0) (.k (.int 1))),(.idx (.l 1) (.k (.int 0))),(.idx (.l 1) (.k (.int 1))),(.attr (.l 2) ⟨#[98,105,116,115]⟩),(.attr (.l 2) ⟨#[100,105,103,105,116,115]⟩)])] [],
 .ite (.or (.cmp .Eq (.l 3) (.k (.str ⟨#[110,101,103]⟩))) (.cmp .Eq (.l 3) (.k (.str ⟨#[110,111,116]⟩)))) [.ret (.call (.k (.fn 726)) [(.l 3),(.idx (.l 1) (.k (.int 0))),(.attr (.l 2) ⟨#[98,105,116,115]⟩),(.attr (.l 2) ⟨#[100,105,103,105,116,115]⟩)])] [],
 .ite (.cmp .Eq (.l 3) (.k (.str ⟨#[110,97,109,101]⟩))) [.ret (.mcall (.l 2) ⟨#[118,97,108,117,101,95,111,102,95,110,97,109,101]⟩ [(.idx (.l 0) (.k (.int 1)))])] [],
 .ite (.cmp .Eq (.l 3) (.k (.str ⟨#[105,116,101,109]⟩))) [.ret (.mcall (.l 2) ⟨#[105,116,101,109,95,111,102]⟩ [(.idx (.l 0) (.k (.int 1))),(.l 1)])] [],
 .ite (.cmp .Eq (.l 3) (.k (.str ⟨#[99,97,108,108]⟩))) [.ret (.mcall (.l 2) ⟨#[99,97,108,108]⟩ [(.idx (.l 0) (.k (.int 1))),(.l 1)])] [],
 .ret (.ite (.cmp .Eq (.l 3) (.k (.str ⟨#[102,110]⟩))) (.mcall (.l 2) ⟨#[102,110]⟩ [(.idx (.l 0) (.k (.int 1))),(.l 1)]) (.call (.k (.fn 733)) [(.l 0),(.attr (.l 2) ⟨#[98,105,116,115]⟩),(.attr (.l 2) ⟨#[100,105,103,105,116,115]⟩)]))],false⟩
noncomputable def Q9:Fn:=⟨2,[],11,[.asgTT [.v 2,.v 3] [(.lst true [(.tup [(.l 0),(.k (.bool false))])]),(.lst false [])],
 .while_ (.cmp .Gt (.call (.k (.bi .len)) [(.l 2)]) (.k (.int 0))) [.asgT [.v 4,.v 5] (.mcall (.l 2) ⟨#[112,111,112]⟩ []),
  .asg 6 (.call (.k (.fn 691)) [(.l 4)]),
  .ite (.or (.l 5) (.cmp .Eq (.call (.k (.bi .len)) [(.l 6)]) (.k (.int 0)))) [.asg 7 (.bin .Sub (.call (.k (.bi .len)) [(.l 3)]) (.call (.k (.bi .len)) [(.l 6)])),
   .asg 8 (.call (.k (.fn 740)) [(.l 4),(.slc (.l 3) (some (.l 7)) .none),(.l 1)]),
   .asg 3 (.bin .Add (.slc (.l 3) .none (some (.l 7))) (.lst false [(.l 8)]))] [.expr (.mcall (.l 2) ⟨#[97,112,112,101,110,100]⟩ [(.tup [(.l 4),(.k (.bool true))])]),
   .expr (.extend (.l 2) (.it (.comp false (.one 9) (.rev (.l 6)) .none (.tup [(.l 9),(.k (.bool false))]))))]],
 .ret (.idx (.l 3) (.k (.int 0)))],false⟩
noncomputable def JP:Fn:=⟨4,[],4,[.setA (.l 0) ⟨#[119,111,114,108,100]⟩ (.l 1),
 .setA (.l 0) ⟨#[102,108,97,116]⟩ (.l 2),
 .setA (.l 0) ⟨#[97,110,115,119,101,114,115]⟩ (.l 3),
 .setA (.l 0) ⟨#[98,105,116,115]⟩ (.attr (.l 1) ⟨#[98,105,116,115]⟩),
 .setA (.l 0) ⟨#[100,105,103,105,116,115]⟩ (.attr (.l 1) ⟨#[100,105,103,105,116,115]⟩),
 .setA (.l 0) ⟨#[99,111,110,116,114,111,108]⟩ (.call (.k (.fn 591)) [(.k (.int 20))]),
 .setA (.l 0) ⟨#[97,115,107,101,100]⟩ (.lst true [])],false⟩
noncomputable def JR:Fn:=⟨2,[],2,[.ret (.call (.k (.fn 745)) [(.l 1),(.l 0)])],false⟩
noncomputable def G1:Fn:=⟨2,[],2,[.ret (.call (.k (.fn 176)) [(.call (.k (.fn 745)) [(.l 1),(.l 0)]),(.attr (.l 0) ⟨#[98,105,116,115]⟩)])],false⟩
noncomputable def CL:Fn:=⟨2,[],2,[.expr (.mcall (.attr (.l 0) ⟨#[97,115,107,101,100]⟩) ⟨#[97,112,112,101,110,100]⟩ [(.l 1)]),
 .ret (.call (.k (.fn 637)) [(.attr (.l 0) ⟨#[119,111,114,108,100]⟩),(.l 1)])],false⟩
noncomputable def C6:Fn:=⟨3,[],6,[.asg 3 (.comp false (.one 4) (.it (.l 2)) .none (.call (.k (.fn 176)) [(.l 4),(.attr (.l 0) ⟨#[98,105,116,115]⟩)])),
 .expr (.mcall (.attr (.l 0) ⟨#[97,115,107,101,100]⟩) ⟨#[97,112,112,101,110,100]⟩ [(.tup [(.l 1),(.l 3)])]),
 .ret (.call (.k (.fn 281)) [(.attr (.l 0) ⟨#[119,111,114,108,100]⟩),(.l 1),(.l 3)])],false⟩
noncomputable def Nb:Fn:=⟨3,[],3,[.ite (.cmp .In (.l 1) (.attr (.attr (.l 0) ⟨#[119,111,114,108,100]⟩) ⟨#[102,110,115]⟩)) [.ret (.call (.k (.fn 649)) [(.attr (.l 0) ⟨#[119,111,114,108,100]⟩),(.l 1),(.l 2),(.attr (.l 0) ⟨#[119,111,114,116,104]⟩),(.attr (.l 0) ⟨#[114,111,119,115,95,119,111,114,116,104]⟩)])] [],
 .ret (.mcall (.l 0) ⟨#[97,110,115,119,101,114,101,100]⟩ [(.l 1),(.l 2)])],false⟩
noncomputable def JQ:Fn:=⟨3,[],3,[.expr (.call (.k (.fn 644)) [(.attr (.l 0) ⟨#[119,111,114,108,100]⟩),(.l 1),(.l 2)])],false⟩
noncomputable def LY:Fn:=⟨4,[],6,[.expr (.call (.k (.fn 288)) [(.attr (.l 0) ⟨#[119,111,114,108,100]⟩),(.l 1),(.comp false (.one 4) (.it (.l 2)) .none (.call (.k (.fn 176)) [(.l 4),(.attr (.l 0) ⟨#[98,105,116,115]⟩)])),(.l 3)])],false⟩
noncomputable def HH:Fn:=⟨2,[],2,[.ret (.call (.k (.fn 684)) [(.attr (.l 0) ⟨#[119,111,114,108,100]⟩),(.l 1),(.attr (.l 0) ⟨#[110,117,109,98,101,114,95,116,111,108,100]⟩)])],false⟩
noncomputable def GA:Fn:=⟨2,[],3,[.asg 2 (.call (.k (.fn 476)) [(.l 1),(.attr (.l 0) ⟨#[100,105,103,105,116,115]⟩)]),
 .ret (.ite (.and (.cmp .IsNot (.l 2) (.k .none)) (.cmp .Eq (.idx (.l 2) (.k (.int 1))) (.call (.k (.bi .len)) [(.mcall (.l 1) ⟨#[114,115,116,114,105,112]⟩ [(.k (.str ⟨#[32]⟩))])]))) (.idx (.l 2) (.k (.int 0))) (.k .none))],false⟩
noncomputable def RJ:Fn:=⟨2,[],4,[.asg 2 (.lst false [(.k (.int 12)),(.k (.int 2)),(.k (.int 1)),(.k (.int 3)),(.k (.int 6)),(.k (.int 0)),(.k (.int 0)),(.k (.int 0)),(.k (.int 0)),(.k (.int 3)),(.k (.int 5)),(.k (.int 1)),(.k (.int 1)),(.k (.int 0)),(.k (.int 2)),(.k (.int 3)),(.k (.int 2)),(.k (.int 1)),(.k (.int 4)),(.k (.int 1)),(.k (.int 0)),(.k (.int 0)),(.k (.int 1)),(.k (.int 2)),(.k (.int 4)),(.k (.int 2))]),
 .asg 3 (.idx (.l 0) (.k (.int 1))),
 .setI (.l 0) (.k (.int 1)) (.bin .Add (.l 3) (.k (.int 1))),
 .ret (.bin .Mod (.ite (.cmp .Lt (.l 3) (.call (.k (.bi .len)) [(.idx (.l 0) (.k (.int 0)))])) (.idx (.idx (.l 0) (.k (.int 0))) (.l 3)) (.idx (.l 2) (.bin .Mod (.l 3) (.call (.k (.bi .len)) [(.l 2)])))) (.l 1))],false⟩
noncomputable def Px:Fn:=⟨2,[],3,[.asg 2 (.call (.k (.fn 867)) [(.l 0),(.k (.int 6))]),
 .ret (.tup [(.k (.str ⟨#[105,116,101,109]⟩)),(.l 1),(.lst false [(.ite (.cmp .Gt (.l 2) (.k (.int 4))) (.tup [(.k (.str ⟨#[110,97,109,101]⟩)),(.k (.str ⟨#[66,37]⟩))]) (.tup [(.k (.str ⟨#[119,104,111,108,101]⟩)),(.l 2)]))])])],false⟩
noncomputable def Py:Fn:=⟨2,[],3,[.ite (.l 1) [.asg 2 (.call (.k (.fn 867)) [(.l 0),(.k (.int 3))]),
  .ret (.ite (.cmp .Lt (.l 2) (.k (.int 2))) (.idx (.lst false [(.tup [(.k (.str ⟨#[110,97,109,101]⟩)),(.k (.str ⟨#[67,36]⟩))]),(.tup [(.k (.str ⟨#[116,101,120,116]⟩)),(.k (.str ⟨#[120,121]⟩))])]) (.l 2)) (.call (.k (.fn 874)) [(.l 0),(.k (.str ⟨#[83,36]⟩))]))] [],
 .asg 2 (.call (.k (.fn 867)) [(.l 0),(.k (.int 6))]),
 .ite (.cmp .Eq (.l 2) (.k (.int 3))) [.ret (.call (.k (.fn 874)) [(.l 0),(.k (.str ⟨#[82]⟩))])] [],
 .ret (.idx (.lst false [(.tup [(.k (.str ⟨#[110,97,109,101]⟩)),(.k (.str ⟨#[65]⟩))]),(.tup [(.k (.str ⟨#[110,97,109,101]⟩)),(.k (.str ⟨#[66,37]⟩))]),(.tup [(.k (.str ⟨#[119,104,111,108,101]⟩)),(.k (.int 3))]),(.k .none),(.tup [(.k (.str ⟨#[102,110]⟩)),(.k (.str ⟨#[70,78,65]⟩)),(.lst false [(.tup [(.k (.str ⟨#[110,97,109,101]⟩)),(.k (.str ⟨#[66,37]⟩))])])]),(.tup [(.k (.str ⟨#[100,101,99,105,109,97,108]⟩)),(.tup [(.k (.int 25)),(.bin .Sub (.k (.int 0)) (.k (.int 2)))])])]) (.l 2))],false⟩
noncomputable def On:Fn:=⟨2,[],4,[.asgTT [.v 2,.v 3] [(.call (.k (.fn 867)) [(.l 0),(.k (.int 4))]),(.call (.k (.fn 881)) [(.l 0),(.l 1)])],
 .ite (.cmp .Eq (.l 2) (.k (.int 0))) [.ret (.l 3)] [],
 .ret (.tup [(.k (.str ⟨#[116,119,111]⟩)),(.ite (.l 1) (.k (.str ⟨#[43]⟩)) (.idx (.lst false [(.k (.str ⟨#[43]⟩)),(.k (.str ⟨#[45]⟩)),(.k (.str ⟨#[42]⟩))]) (.bin .Sub (.l 2) (.k (.int 1))))),(.l 3),(.call (.k (.fn 881)) [(.l 0),(.l 1)])])],false⟩
noncomputable def Pw:Fn:=⟨1,[],3,[.asg 1 (.lst false [(.k (.str ⟨#[65]⟩)),(.k (.str ⟨#[66,37]⟩)),(.k (.str ⟨#[67,36]⟩)),(.k (.str ⟨#[82,40,41]⟩)),(.k (.str ⟨#[83,36,40,41]⟩))]),
 .asg 2 (.call (.k (.fn 867)) [(.l 0),(.k (.int 5))]),
 .ite (.cmp .Lt (.l 2) (.k (.int 3))) [.ret (.tup [(.tup [(.k (.str ⟨#[110,97,109,101]⟩)),(.idx (.l 1) (.l 2))]),(.cmp .Eq (.l 2) (.k (.int 2)))])] [],
 .ret (.tup [(.call (.k (.fn 874)) [(.l 0),(.idx (.lst false [(.k (.str ⟨#[82]⟩)),(.k (.str ⟨#[83,36]⟩))]) (.bin .Sub (.l 2) (.k (.int 3))))]),(.cmp .Eq (.l 2) (.k (.int 4)))])],false⟩
noncomputable def JS:Fn:=⟨1,[],6,[.asgTT [.v 1,.t [2,3]] [(.call (.k (.fn 867)) [(.l 0),(.k (.int 4))]),(.call (.k (.fn 895)) [(.l 0)])],
 .ite (.cmp .Eq (.l 1) (.k (.int 1))) [.ret (.tup [(.k (.str ⟨#[83,87,65,80]⟩)),(.l 2),(.idx (.call (.k (.fn 895)) [(.l 0)]) (.k (.int 0)))])] [],
 .ite (.cmp .Eq (.l 1) (.k (.int 2))) [.asgTT [.v 4,.v 5] [(.tup [(.k (.str ⟨#[119,104,111,108,101]⟩)),(.call (.k (.fn 867)) [(.l 0),(.k (.int 4))])]),(.call (.k (.fn 867)) [(.l 0),(.k (.int 4))])],
  .ret (.tup [(.k (.str ⟨#[77,73,68,83,69,84]⟩)),(.l 2),(.l 4),(.ite (.cmp .Eq (.l 5) (.k (.int 3))) (.k .none) (.tup [(.k (.str ⟨#[119,104,111,108,101]⟩)),(.l 5)])),(.call (.k (.fn 888)) [(.l 0),(.k (.bool true))])])] [],
 .ite (.cmp .Eq (.l 1) (.k (.int 3))) [.ret (.tup [(.k (.str ⟨#[82,69,65,68]⟩)),(.bin .Add (.lst false [(.l 2)]) (.ite (.cmp .Eq (.call (.k (.fn 867)) [(.l 0),(.k (.int 2))]) (.k (.int 1))) (.lst false [(.idx (.call (.k (.fn 895)) [(.l 0)]) (.k (.int 0)))]) (.lst false [])))])] [],
 .ret (.tup [(.k (.str ⟨#[76,69,84]⟩)),(.l 2),(.call (.k (.fn 888)) [(.l 0),(.ite (.cmp .Gt (.call (.k (.fn 867)) [(.l 0),(.k (.int 6))]) (.k (.int 0))) (.l 3) (.not (.l 3)))])])],false⟩
noncomputable def Fy:Fn:=⟨3,[],15,[.asg 3 (.lst false [(.k (.str ⟨#[65]⟩)),(.k (.str ⟨#[66,37]⟩)),(.k (.str ⟨#[67,36]⟩)),(.k (.str ⟨#[82,40,41]⟩)),(.k (.str ⟨#[83,36,40,41]⟩))]),
 .asg 4 (.call (.k (.fn 306)) [(.k (.int 16)),(.k (.int 4))]),
 .asgT [.v 7,.v 8,.v 9,.v 10,.v 11] (.comp false (.two 13 14) (.zip (.l 0) (.l 3)) .none (.bin .Add (.l 13) (.ite (.or (.cmp .Is (.l 2) (.k .none)) (.cmp .In (.l 14) (.l 2))) (.k (.int 0)) (.k (.int 3))))),
 .expr (.call (.k (.fn 331)) [(.l 4),(.k (.str ⟨#[65]⟩)),(.tup [(.l 7),(.bin .Sub (.k (.int 0)) (.k (.int 1)))])]),
 .expr (.call (.k (.fn 331)) [(.l 4),(.k (.str ⟨#[66,37]⟩)),(.bin .Mod (.l 8) (.k (.int 6)))]),
 .expr (.call (.k (.fn 331)) [(.l 4),(.k (.str ⟨#[67,36]⟩)),(.slc (.k (.str ⟨#[97,98,99,100,101,102,103]⟩)) (some (.bin .Mod (.l 9) (.k (.int 3)))) (some (.bin .Add (.k (.int 3)) (.bin .Mod (.l 9) (.k (.int 5))))))]),
 .for_ (.two 6 5) (.it (.tup [(.tup [(.k (.str ⟨#[82]⟩)),(.l 10)]),(.tup [(.k (.str ⟨#[83,36]⟩)),(.l 11)])])) [.expr (.call (.k (.fn 260)) [(.l 4),(.l 6),(.lst false [(.ite (.or (.cmp .Is (.l 2) (.k .none)) (.cmp .In (.bin .Add (.l 6) (.k (.str ⟨#[40,41]⟩))) (.l 2))) (.k (.int 3)) (.k (.int 4)))])]),
  .asg 12 (.comp false (.one 13) (.range (.k (.int 4))) .none (.ite (.cmp .Eq (.l 6) (.k (.str ⟨#[82]⟩))) (.tup [(.bin .Add (.bin .Mod (.bin .Add (.l 5) (.l 13)) (.k (.int 9))) (.k (.int 1))),(.k (.int 0))]) (.slc (.k (.str ⟨#[107,108,109,110,111,112]⟩)) (some (.l 13)) (some (.bin .Add (.l 13) (.bin .Mod (.l 5) (.k (.int 4)))))))),
  .setS (.attr (.idx (.attr (.l 4) ⟨#[97,114,114,97,121,115]⟩) (.l 6)) ⟨#[105,116,101,109,115]⟩) (.k (.int 4)) (.l 12)],
 .setI (.attr (.l 4) ⟨#[102,110,115]⟩) (.k (.str ⟨#[70,78,65]⟩)) (.l 1),
 .setA (.l 4) ⟨#[100,97,116,97]⟩ (.lst false [(.tup [(.k (.int 10)),(.k (.str ⟨#[53]⟩))]),(.tup [(.k (.int 10)),(.k (.str ⟨#[45,50]⟩))]),(.tup [(.k (.int 10)),(.k (.str ⟨#[120]⟩))]),(.tup [(.k (.int 10)),(.k (.str ⟨#[34,113,34]⟩))])]),
 .setA (.l 4) ⟨#[115,112,111,116]⟩ (.idx (.l 0) (.k (.int 5))),
 .ret (.l 4)],false⟩
noncomputable def KL:Fn:=⟨2,[],4,[.asg 2 (.call (.k (.fn 856)) [(.l 0),(.k .none),.dct]),
 .try_ [.ite (.cmp .Eq (.idx (.l 1) (.k (.int 0))) (.k (.str ⟨#[76,69,84]⟩))) [.expr (.call (.k (.fn 336)) [(.l 2),(.k (.int 0)),(.l 1)])] [.ite (.cmp .Eq (.idx (.l 1) (.k (.int 0))) (.k (.str ⟨#[83,87,65,80]⟩))) [.expr (.call (.k (.fn 376)) [(.l 2),(.l 1)])] [.ite (.cmp .Eq (.idx (.l 1) (.k (.int 0))) (.k (.str ⟨#[77,73,68,83,69,84]⟩))) [.expr (.call (.k (.fn 383)) [(.l 2),(.l 1)])] [.expr (.call (.k (.fn 350)) [(.l 2),(.idx (.l 1) (.k (.int 1)))])]]]],
 .ret (.k (.str ⟨#[]⟩))],false⟩
noncomputable def KM:Fn:=⟨1,[],7,[.asg 1 (.lst false [(.k (.str ⟨#[65]⟩)),(.k (.str ⟨#[66,37]⟩)),(.k (.str ⟨#[67,36]⟩)),(.k (.str ⟨#[82,40,41]⟩)),(.k (.str ⟨#[83,36,40,41]⟩))]),
 .asg 3 (.comp true (.one 5) (.it (.slc (.l 1) .none (some (.k (.int 3))))) .none (.mcall (.attr (.l 0) ⟨#[110,97,109,101,115]⟩) ⟨#[103,101,116]⟩ [(.l 5)])),
 .for_ (.one 2) (.it (.tup [(.k (.str ⟨#[82]⟩)),(.k (.str ⟨#[83,36]⟩))])) [.asg 4 (.idx (.attr (.l 0) ⟨#[97,114,114,97,121,115]⟩) (.l 2)),
  .expr (.mcall (.l 3) ⟨#[97,112,112,101,110,100]⟩ [(.tup [(.copy false (.attr (.l 4) ⟨#[104,105,103,104,115]⟩)),(.copy false (.attr (.l 4) ⟨#[105,116,101,109,115]⟩))])])],
 .ret (.bin .Add (.l 3) (.lst false [(.attr (.l 0) ⟨#[115,112,111,116]⟩),(.call (.k (.bi .sorted)) [(.attr (.l 0) ⟨#[110,97,109,101,115]⟩)]),(.call (.k (.bi .sorted)) [(.attr (.l 0) ⟨#[97,114,114,97,121,115]⟩)])]))],false⟩
noncomputable def KN:Fn:=⟨2,[],6,[.asg 2 (.call (.k (.fn 64)) [(.l 0)]),
 .asg 3 (.comp false (.two 4 5) (.it (.l 2)) .none (.l 4)),
 .ite (.cmp .In (.k (.str ⟨#[70,78,65]⟩)) (.l 3)) [.asg 3 (.bin .Add (.l 3) (.comp false (.two 4 5) (.it (.call (.k (.fn 64)) [(.tup [(.k (.str ⟨#[68,69,70]⟩)),(.k (.str ⟨#[70,78,65]⟩)),(.idx (.l 1) (.k (.int 0))),(.idx (.l 1) (.k (.int 1)))])])) .none (.l 4)))] [],
 .ret (.tup [(.comp false (.two 4 5) (.it (.l 2)) (some (.cmp .Eq (.l 5) (.k (.str ⟨#[115,101,116]⟩)))) (.l 4)),(.l 3)])],true⟩
noncomputable def Dh:Fn:=⟨3,[],14,[.asg 3 (.lst false [(.k (.str ⟨#[65]⟩)),(.k (.str ⟨#[66,37]⟩)),(.k (.str ⟨#[67,36]⟩)),(.k (.str ⟨#[82,40,41]⟩)),(.k (.str ⟨#[83,36,40,41]⟩))]),
 .asgT [.v 4,.v 5] (.call (.k (.fn 924)) [(.l 2),(.l 1)]),
 .asgTT [.v 6,.v 7] [(.call (.k (.fn 907)) [(.l 0),(.l 1),(.k .none)]),(.call (.k (.fn 907)) [(.l 0),(.l 1),(.l 5)])],
 .asgTT [.v 8,.v 9] [(.call (.k (.fn 919)) [(.l 6)]),(.call (.k (.fn 919)) [(.l 7)])],
 .ite (.cmp .NotEq (.call (.k (.fn 914)) [(.l 6),(.l 2)]) (.call (.k (.fn 914)) [(.l 7),(.l 2)])) [.ret (.k (.bool false))] [],
 .asgTT [.v 10,.v 11] [(.call (.k (.fn 919)) [(.l 6)]),(.call (.k (.fn 919)) [(.l 7)])],
 .for_ (.two 12 13) (.enum (.l 3)) [.ite (.and (.cmp .NotIn (.l 13) (.l 4)) (.or (.cmp .NotEq (.idx (.l 10) (.l 12)) (.idx (.l 8) (.l 12))) (.cmp .NotEq (.idx (.l 11) (.l 12)) (.idx (.l 9) (.l 12))))) [.ret (.k (.bool false))] [],
  .ite (.and (.cmp .In (.l 13) (.l 5)) (.cmp .NotEq (.idx (.l 10) (.l 12)) (.idx (.l 11) (.l 12)))) [.ret (.k (.bool false))] []],
 .ret (.and (.cmp .Eq (.slc (.l 10) (some (.k (.int 5))) .none) (.slc (.l 11) (some (.k (.int 5))) .none)) (.or (.cmp .Eq (.idx (.l 2) (.k (.int 0))) (.k (.str ⟨#[82,69,65,68]⟩))) (.cmp .Eq (.slc (.l 10) (some (.k (.int 5))) .none) (.slc (.l 8) (some (.k (.int 5))) .none))))],true⟩
noncomputable def AY:Fn:=⟨4,[],14,[.asgTT [.t [4,5],.t [6,7]] [(.call (.k (.fn 924)) [(.l 2),(.l 1)]),(.call (.k (.fn 924)) [(.l 3),(.l 1)])],
 .ite (.or (.and (.cmp .Eq (.idx (.l 2) (.k (.int 0))) (.k (.str ⟨#[82,69,65,68]⟩))) (.cmp .Eq (.idx (.l 3) (.k (.int 0))) (.k (.str ⟨#[82,69,65,68]⟩)))) (.cmp .NotEq (.bin .Add (.comp false (.one 12) (.it (.l 4)) (some (.cmp .In (.l 12) (.l 7))) (.l 12)) (.comp false (.one 12) (.it (.l 6)) (some (.cmp .In (.l 12) (.l 5))) (.l 12))) (.lst false []))) [.ret (.k (.bool true))] [],
 .asgTT [.v 8,.v 9] [(.call (.k (.fn 907)) [(.l 0),(.l 1),(.k .none)]),(.call (.k (.fn 907)) [(.l 0),(.l 1),(.k .none)])],
 .asg 10 (.lst false [(.call (.k (.fn 914)) [(.l 8),(.l 2)]),(.call (.k (.fn 914)) [(.l 8),(.l 3)])]),
 .asg 11 (.lst false [(.call (.k (.fn 914)) [(.l 9),(.l 3)]),(.call (.k (.fn 914)) [(.l 9),(.l 2)])]),
 .ret (.and (.cmp .Eq (.l 10) (.rev (.l 11))) (.cmp .Eq (.call (.k (.fn 919)) [(.l 8)]) (.call (.k (.fn 919)) [(.l 9)])))],true⟩
noncomputable def Om:Fn:=⟨1,[],9,[.asg 1 (.lst true [(.slc (.l 0) .none (some (.k (.int 44)))),(.k (.int 0))]),
 .asg 2 (.comp false (.one 7) (.it (.tup [(.k (.int 90)),(.k (.int 6)),(.k (.int 40)),(.k (.int 40)),(.k (.int 40)),(.k (.int 5))])) .none (.call (.k (.fn 867)) [(.l 1),(.l 7)])),
 .asg 3 (.tup [(.k (.str ⟨#[116,119,111]⟩)),(.idx (.lst false [(.k (.str ⟨#[43]⟩)),(.k (.str ⟨#[42]⟩))]) (.call (.k (.fn 867)) [(.l 1),(.k (.int 2))])),(.tup [(.k (.str ⟨#[110,97,109,101]⟩)),(.k (.str ⟨#[88]⟩))]),(.call (.k (.fn 881)) [(.l 1),(.k (.bool false))])]),
 .asg 4 (.tup [(.lst false [(.k (.str ⟨#[88]⟩))]),(.ite (.cmp .NotEq (.idx (.idx (.l 3) (.k (.int 3))) (.k (.int 0))) (.k (.str ⟨#[102,110]⟩))) (.l 3) (.idx (.l 3) (.k (.int 2)))),(.bin .Sub (.k (.int 0)) (.k (.int 1)))]),
 .asg 5 (.comp false (.one 7) (.range (.k (.int 3))) .none (.call (.k (.fn 902)) [(.l 1)])),
 .for_ (.one 6) (.it (.l 5)) [.ite (.not (.call (.k (.fn 931)) [(.l 2),(.l 4),(.l 6)])) [.ret (.k (.bool false))] []],
 .ret (.and (.call (.k (.fn 936)) [(.l 2),(.l 4),(.idx (.l 5) (.k (.int 0))),(.idx (.l 5) (.k (.int 1)))]) (.call (.k (.fn 936)) [(.l 2),(.l 4),(.idx (.l 5) (.k (.int 1))),(.idx (.l 5) (.k (.int 2)))]))],true⟩
noncomputable def WQ:List (Ai×Yq):=[(35,.fn KP),(42,.fn RG),(49,.fn EQ),(54,.fn J7),(64,.fn Fg),(69,.fn I5),(120,.fn RI),(127,.fn KJ),(134,.fn Mc),(141,.fn Nf),(148,.fn Gm),(155,.fn Jh),(162,.fn Nh),(169,.fn YN),(176,.fn KT),(183,.fn Nc),(190,.fn RL),(197,.fn KI),(204,.fn T6),(225,.fn MZ),(239,.fn Pn),(246,.fn RH),(253,.fn Ma),(260,.fn cR),(267,.fn RF),(274,.fn P4),(281,.fn Po),(288,.fn El),(303,.fn LZ),(317,.fn Ol),(324,.fn Pq),(331,.fn KQ),(336,.fn Hf),(343,.fn Jg),(350,.fn Mz),(355,.fn DO),(362,.fn P5),(369,.fn T5),(376,.fn Co),(383,.fn CV),(392,.fn Oj),(399,.fn VZ),(406,.fn Wa),(413,.fn Wc),(420,.fn Wb),(462,.fn Ji),(469,.fn Mb),(476,.fn Ok),(483,.fn KS),(490,.fn Ps),(497,.fn RK),(504,.fn Jl),(546,.fn DC),(588,.fn JO),(609,.fn Nd),(616,.fn P0),(623,.fn Md),(630,.fn Ng),(637,.fn Jk),(644,.fn EI),(649,.fn CR),(656,.fn Oi),(663,.fn Hg),(670,.fn Jj),(677,.fn KR),(684,.fn DG),(691,.fn G2),(714,.fn Jm),(719,.fn Do),(733,.fn JT),(740,.fn JU),(745,.fn Q9),(759,.fn JP),(766,.fn JR),(773,.fn G1),(780,.fn CL),(785,.fn C6),(799,.fn Nb),(827,.fn JQ),(832,.fn LY),(839,.fn HH),(846,.fn GA),(867,.fn RJ),(874,.fn Px),(881,.fn Py),(888,.fn On),(895,.fn Pw),(902,.fn JS),(907,.fn Fy),(914,.fn KL),(919,.fn KM),(924,.fn KN),(931,.fn Dh),(936,.fn AY),(941,.fn Om),(228,.cls 225 0),(306,.cls 303 0),(591,.cls 588 0),(856,.cls 759 0)]
noncomputable def aD:List (Ai×List (Ao×Ai)):=[(228,[]),(306,[]),(591,[]),(856,[(⟨#[119,111,114,116,104]⟩,766),(⟨#[119,104,111,108,101]⟩,773),(⟨#[118,97,108,117,101,95,111,102,95,110,97,109,101]⟩,780),(⟨#[105,116,101,109,95,111,102]⟩,785),(⟨#[99,97,108,108]⟩,792),(⟨#[102,110]⟩,799),(⟨#[114,111,119,115,95,119,111,114,116,104]⟩,806),(⟨#[97,110,115,119,101,114,101,100]⟩,813),(⟨#[97,115,115,105,103,110]⟩,820),(⟨#[115,116,111,114,101]⟩,827),(⟨#[112,117,116]⟩,832),(⟨#[110,101,120,116,95,100,97,116,97]⟩,839),(⟨#[110,117,109,98,101,114,95,116,111,108,100]⟩,846),(⟨#[112,108,117,115]⟩,853)])]
noncomputable def aC:List (Ai×List (Ao×V)):=[(22,[(⟨#[76,69,84]⟩,(.tup [(.int 1)])),(⟨#[77,73,68,83,69,84]⟩,(.tup [(.int 1)])),(⟨#[83,87,65,80]⟩,(.tup [(.int 1),(.int 2)]))]),(26,[(⟨#[82,69,65,68]⟩,(.int 1)),(⟨#[73,78,80,85,84]⟩,(.int 4)),(⟨#[76,73,78,69]⟩,(.int 4))]),(27,[(⟨#[70,79,82]⟩,(.int 1)),(⟨#[76,83,69,84]⟩,(.int 1)),(⟨#[82,83,69,84]⟩,(.int 1))]),(28,[(⟨#[78,69,88,84]⟩,(.int 1)),(⟨#[67,79,77,77,79,78]⟩,(.int 1))])]
noncomputable def WP:List (Ai×List Ao):=[(228,[⟨#[107,105,110,100]⟩,⟨#[104,105,103,104,115]⟩,⟨#[98,97,115,101]⟩,⟨#[105,116,101,109,115]⟩,⟨#[114,111,111,109]⟩]),(306,[⟨#[98,105,116,115]⟩,⟨#[100,105,103,105,116,115]⟩,⟨#[109,111,115,116,95,115,116,101,112,115]⟩,⟨#[109,111,115,116,95,100,101,112,116,104]⟩,⟨#[114,111,111,109]⟩,⟨#[110,97,109,101,115]⟩,⟨#[97,114,114,97,121,115]⟩,⟨#[107,105,110,100,115]⟩,⟨#[102,110,115]⟩,⟨#[111,117,116]⟩,⟨#[114,111,119]⟩,⟨#[105,110,112,117,116,115]⟩,⟨#[102,105,108,101,115]⟩,⟨#[111,112,101,110]⟩,⟨#[102,105,101,108,100,115]⟩,⟨#[100,97,116,97]⟩,⟨#[115,112,111,116]⟩,⟨#[98,97,115,101]⟩,⟨#[115,101,101,100]⟩,⟨#[115,116,101,112,115]⟩,⟨#[100,101,112,116,104]⟩,⟨#[104,97,110,100,108,101,114]⟩,⟨#[105,115,95,104,97,110,100,108,105,110,103]⟩,⟨#[101,114,114,111,114,95,108,105,110,101]⟩,⟨#[101,114,114,111,114,95,99,111,100,101]⟩,⟨#[105,115,95,116,114,97,99,101,100]⟩,⟨#[116,114,97,99,101,115]⟩,⟨#[99,111,109,109,111,110]⟩]),(591,[⟨#[112,105,108,101]⟩,⟨#[109,111,115,116]⟩,⟨#[102,97,105,108,101,100,95,97,116]⟩]),(856,[⟨#[119,111,114,108,100]⟩,⟨#[102,108,97,116]⟩,⟨#[97,110,115,119,101,114,115]⟩,⟨#[98,105,116,115]⟩,⟨#[100,105,103,105,116,115]⟩,⟨#[99,111,110,116,114,111,108]⟩,⟨#[97,115,107,101,100]⟩])]
noncomputable def Mh:VE:=⟨fun a=>WQ.lookup a,fun c n=>(aD.lookup c).bind (·.lookup n),fun c n=>match WP.lookup c with | some l=>l.contains n | none=>false,fun a=>aC.lookup a,400⟩
end
section
open PySem PySem.W PyProof.Rows PySem.Calls PySem.SeqAt PySem.Spec
noncomputable def bN(K:CD)(a:Ai):Yq->Prop
 |.fn f=>∃m,NO K m a f
 |.cls i _=>S9 K a i
noncomputable def OT(K:CD):List (Ai×Yq)->Prop
 |[]=>True
 |p::r=>bN K p.1 p.2/\OT K r
theorem OT.mem{K:CD}{p:Ai×Yq}:∀{l:List (Ai×Yq)},OT K l->p∈l->bN K p.1 p.2
 |[],_,e=>nomatch e
 |_::_,h,e=>(Al.mp e).elim (fun q=>q▸h.1) (OT.mem h.2)
theorem dq{K:CD}{a:Ai}{f:Fn}{r:List (Ai×Yq)}(m:List Ao)(b:cF K m a=some f.body)(c:bY K a f=true)(d:mX K a f=mY K a f [])(e:f.dfl=[])(h:OT K r):OT K ((a,.fn f)::r):=
 ⟨⟨m,b,c,[],fun ø ø=>e▸.nil,d⟩,h⟩
noncomputable def Od(W:Hx):List (Ai×List (Ao×V))->Prop
 |[]=>True
 |(d,es)::r=>((BS (es.map (·.1))&&!(d==Dl))=true/\∃ds n,W.K.lookup d=some (Db ds n)/\∀P:Ey,(∀a o,W.K.lookup a=some o->Cg o->P a o)->DR W.w P [] es ds)/\Od W r
theorem Ov{α:Type}[BEq α][LawfulBEq α]:∀{l:List α},BS l=true->l.Nodup
 |[]=>fun ø=>.nil
 |x::l=>fun h=>by
  obtain⟨h1,h2⟩:=HW h
  exact List.nodup_cons.mpr ⟨h1,Ov h2⟩
theorem Od.out{W:Hx}(hk:W.K.In W.hb){d:Ai}{es:List (Ao×V)}:∀{l:List (Ai×List (Ao×V))},Od W l->(d,es)∈l->(es.map (·.1)).Nodup/\(d==Dl)=false/\∃ds n,W.hb.get? d=some (Db ds n)/\∀P:Ey,(∀a o,W.hb.get? a=some o->Cg o->P a o)->DR W.w P [] es ds
 |(b,fs)::r,h,e=>by
  refine FN fun g0 k0=>?_
  obtain⟨⟨h1,ds,n,h2,h3⟩,h⟩:=h
  refine k0 ?_
  rcases Al.mp e with e | e
  ·refine FN fun g0 k0=>?_
   cases e
   refine k0 ?_
   have h1:=bM h1
   exact⟨Ov h1.1,(B6 _).mp h1.2,ds,n,hk _ _ h2,fun P hP=>h3 P fun a o e=>hP a o (hk _ _ e)⟩
  ·exact Od.out hk h e
structure NP (W:Hx):Prop where
 ex:K5 W
 cd:Od W aC
 sys:(W.K.lookup 941).isSome=true
 fld:WP.all (fun p=>p.2.all (KW W.K p.1))=true
 meth:aD.all (fun p=>p.2.all fun q=>Ip W.K p.1 q.1 q.2)=true
 glo:OT W.K WQ
set_option tactic.hygienic true in
theorem NP.tab{W:Hx}(k:NP W)(wok:Xo W):Qt W Mh where
 wok:=wok
 cd:=fun d es e=>k.cd.out wok.kin (Dp e)
 sys:=Eb (FB.mp k.sys) fun o h=>RN 941 o (by decide) (wok.kin _ _ h)
 fld:=fun C n e=>by
  have e:(match WP.lookup C with | some l=>l.contains n | none=>false)=true:=e
  cases h:WP.lookup C with
  |none=>rw[h] at e;cases e
  |some l=>rw[h] at e;exact BF.mp (BF.mp k.fld _ (Dp h)) n (AT.mp e)
 meth:=fun C n f e=>CC (show(aD.lookup C).bind (·.lookup n)=some f from e) fun l h1 h2=>BF.mp (BF.mp k.meth _ (Dp h1)) _ (Dp h2)
 isFn:=fun a e=>by
  unfold VE.isFn at e
  cases h:Mh.glo a with
  |none=>rw[h] at e;cases e
  |some f=>induction f with
   |fn f=>exact Eb (k.glo.mem (Dp (l:=WQ) h)) fun ø d=>d.fnIn
   |cls=>rw[h] at e;cases e
 glo:=fun a g e=>by
  have z:=k.glo.mem (Dp (l:=WQ) e)
  cases g with
  |fn f=>exact Eb z fun ø d=>d.ok k.ex
  |cls i n=>exact z
end
section
open PySem
noncomputable abbrev A7:=Bool->Ai->List V->MH->QV->EV->Prop
noncomputable abbrev cf(c:A7)(hd:Bool):FP:=⟨c,Mh.meth,Mh.fld,Mh.isFn,Mh.cdt,hd,Mh.fuel⟩
noncomputable def step(c:A7):A7:=fun hd a vs H Q X=>vO (Mh.glo a) fun g=>match g with
 |.fn f=>iX (cf c hd) f vs H Q X
 |.cls init _=>c hd init (.ref H.length::vs) (H++[.inst a []]) (fun v H'=>v=.none/\Q (.ref H.length) H') X
noncomputable def nc:Nat->A7
 |0=>fun ø ø ø ø ø ø=>False
 |n+1=>step (nc n)
theorem XR:∀n,OK Mh n=nc n
 |0=>rfl
 |n+1=>congrArg step (XR n)
theorem vO.e{α:Type}{o:Option α}{a:α}{k:α->Prop}(h:o=some a)(q:k a):vO o k:=h▸q
theorem hO.e{H:MH}{i:Nat}{o:De}{k:De->Prop}(h:H[i]?=some o)(q:k o):vO H[i]? k:=h▸q
theorem lO.e{es:List (Ao×V)}{s:Ao}{v:V}{k:V->Prop}(h:es.lookup s=some v)(q:k v):vO (es.lookup s) k:=h▸q
section
variable {c:A7}{hd:Bool}{a:Ai}{f:Fn}{vs:List V}{H:MH}{Q:QV}{X:EV}
theorem CS(hg:Mh.glo a=some (.fn f))(hp:f.pure=true)(hl:vs.length+f.dfl.length=f.np)(nr:V.nrs (vs++f.dfl)=true)
  (h:AV (cf c hd) f.body (Fh f.ns (vs++f.dfl)) [] (fun ø ø=>Q .none H) (fun v ø H'=>V.nr (Br H' v)=true/\Q (Br H' v) H) (fun c ø=>X c H)):step c hd a vs H Q X:=
 vO.e hg ⟨hl,by unfold WW;exact Aj hp ⟨nr,h⟩⟩
theorem CM(hg:Mh.glo a=some (.fn f))(hp:f.pure=false)(hl:vs.length+f.dfl.length=f.np)
  (h:AV (cf c hd) f.body (Fh f.ns (vs++f.dfl)) H (fun ø H'=>Q .none H') (fun v ø H'=>Q v H') X):step c hd a vs H Q X:=
 vO.e hg ⟨hl,by unfold WW;exact Aj hp h⟩
end
theorem vB.t{p q:Prop}(h:b=true)(k:p):vB (.bool b) p q:=⟨fun ø=>k,fun e=>(JF (h.symm.trans e))⟩
theorem vB.f{b:Bool}{p q:Prop}(h:b=false)(k:q):vB (.bool b) p q:=⟨fun e=>(JF (h.symm.trans e)),fun ø=>k⟩
theorem vB.d{r p q:Prop}[Decidable r](h1:r->p)(h2:¬r->q):vB (.bool (decide r)) p q:=⟨fun e=>h1 (of_decide_eq_true e),fun e=>h2 (of_decide_eq_false e)⟩
noncomputable def PE(C:FP)(e:E)(fr:Fr)(H:MH)(v:V):Prop:=∀(Q:QV) (X:EV),Q v H->vE C e fr H Q X
noncomputable def OY(C:FP)(es:List E)(fr:Fr)(H:MH)(vs:List V):Prop:=∀(Q:List V->MH->Prop) (X:EV),Q vs H->OL C es fr H Q X
noncomputable def PK(C:FP)(e:E)(fr:Fr)(H:MH)(f:Ai)(vs:List V):Prop:=∀(Q:QV) (X:EV),C.call C.hd f vs H Q X->vE C e fr H Q X
noncomputable abbrev PV(c:A7)(hd:Bool)(a:Ai)(vs:List V)(H:MH)(v:V):Prop:=∀(Q:QV) (X:EV),Q v H->c hd a vs H Q X
noncomputable def PI(C:FP)(it:It)(fr:Fr)(H:MH)(xs:List V):Prop:=∀(Q:List V->MH->Prop) (X:EV),Q xs H->vI C it fr H Q X
noncomputable def V9(C:FP)(es:List E)(fr:Fr)(H:MH)(f:Ai)(vs:List V)(F:V->List V):Prop:=∀(Q:List V->MH->Prop) (X:EV),C.call C.hd f vs H (fun v H=>Q (F v) H) X->OL C es fr H Q X
noncomputable def iR(Q:QV):RT:=fun v ø H'=>Q v H'
noncomputable def iN(Q:QV):NV:=fun ø H'=>Q .none H'
noncomputable def pR(Q:QV)(H:MH):RT:=fun v ø H'=>V.nr (Br H' v)=true/\Q (Br H' v) H
noncomputable def pN(Q:QV)(H:MH):NV:=fun ø ø=>Q .none H
noncomputable def pX(X:EV)(H:MH):EV:=fun c ø=>X c H
noncomputable def XV(C:FP)(o:De)(n:Ao):Option V:=match o with
 |.inst K fs=>if C.fld K n then fs.lookup n else none
 |_=>none
noncomputable def Z1(o:De)(n:Ao):Option Bool:=match o with
 |.dict es=>some (es.lookup n).isSome
 |_=>none
noncomputable def eN(o:De)(n:Ao):Option V:=match o with
 |.dict es=>es.lookup n
 |_=>none
noncomputable def Oy(C:FP)(o:De)(n:Ao):Option Ai:=match o with
 |.inst K fs=>if (fs.lookup n).isNone then C.meth K n else none
 |_=>none
section
variable {C:FP}{H:MH}{i:Nat}{o:De}{n:Ao}
set_option tactic.hygienic true in
theorem IB{v:V}{k:V->Prop}(h:H[i]?=some o)(e:XV C o n=some v)(q:k v):UZ C (.ref i) n H k:=hO.e h (by
 clear h;induction o with
 |inst K fs=>
  have e:(if C.fld K n then fs.lookup n else none)=some v:=e
  split at e
  ·rename_i hf
   show match fs.lookup n with | some v=>C.fld K n=true/\k v | none=>_
   rw[e];exact⟨hf,q⟩
  ·exact nomatch e
 |_=>cases e)
theorem QL{b:Bool}{k:Bool->Prop}(h:H[i]?=some o)(e:Z1 o n=some b)(q:k b):Hs H i fun es=>k (es.lookup n).isSome:=hO.e h (by
 clear h;induction o with
 |dict es=>obtain rfl:=Ad e;exact q
 |_=>cases e)
theorem W9{v:V}{k:V->Prop}(h:H[i]?=some o)(e:eN o n=some v)(q:k v):WX C (.ref i) (.str n) H k:=hO.e h (by
 clear h;induction o with
 |dict es=>exact lO.e e q
 |_=>cases e)
set_option tactic.hygienic true in
theorem Oz{f:Ai}{A:AK}{Q:QV}{X:EV}(h:H[i]?=some o)(e:Oy C o n=some f)(q:A fun vs H=>C.call C.hd f (.ref i::vs) H Q X):Yn C (.ref i) n H A Q X:=hO.e h (by
 clear h;induction o with
 |inst K fs=>
  have e:(if (fs.lookup n).isNone then C.meth K n else none)=some f:=e
  split at e
  ·rename_i hf
   exact⟨B3.mp hf,vO.e e q⟩
  ·exact nomatch e
 |_=>cases e)
set_option tactic.hygienic true in
theorem Zz{f:Ai}{k:V->Prop}(h:H[i]?=some o)(e:Oy C o n=some f)(q:k (.meth f i)):UZ C (.ref i) n H k:=hO.e h (by
 clear h;induction o with
 |inst K fs=>
  have e:(if (fs.lookup n).isNone then C.meth K n else none)=some f:=e
  split at e
  ·rename_i hf
   show match fs.lookup n with | some v=>C.fld K n=true/\k v | none=>vO (C.meth K n) fun f=>k (.meth f i)
   rw[B3.mp hf];exact vO.e e q
  ·exact nomatch e
 |_=>exact nomatch e)
end
noncomputable def aZ(x:V)(j:Int):Option V:=if 0<=j/\j<2 ^ 62 then match x with
 |.tup xs=>xs[j.toNat]?
 |.lst xs=>xs[j.toNat]?
 |_=>none else none
set_option tactic.hygienic true in
theorem TS{C:FP}{x v:V}{j:Int}{H:MH}{k:V->Prop}(h:aZ x j=some v)(q:k v):WX C x (.int j) H k:=by
 unfold aZ at h
 split at h
 ·rename_i hj
  cases x with
  |tup xs=>exact⟨hj,vO.e h q⟩
  |lst xs=>exact⟨hj,vO.e h q⟩
  |_=>cases h
 ·exact nomatch h
section
variable {C:FP}{e t o b:E}{es:List E}{ss a es2:List S}{fr:Fr}{H:MH}{N:NV}{R:RT}{X:EV}{v x:V}{vs:List V}{i n:Nat}{f K:Ai}{fs:List (Ao×V)}{s:Ao}
theorem PE.l{a:Nat}(h:fr[a]?=some (some v)):PE C (.l a) fr H v:=fun ø ø q=>by refine(?_:vO fr[a]? _);rw[h];exact q
theorem PE.k:PE C (.k v) fr H v:=fun ø ø q=>q
theorem PE.ix(ho:PE C o fr H x)(h:aZ x j=some v):PE C (.idx o (.k (.int j))) fr H v:=fun ø ø q=>ho _ _ (TS h q)
theorem PE.attr(ho:PE C o fr H (.ref i))(h:H[i]?=some ob)(hn:XV C ob s=some v):PE C (.attr o s) fr H v:=fun ø ø q=>ho _ _ (IB h hn q)
theorem PE.din{ob:De}{b:Bool}(ha:PE C e fr H (.str s))(ho:PE C o fr H (.ref i))(h:H[i]?=some ob)(hb:Z1 ob s=some b):PE C (.cmp .In e o) fr H (.bool b):=fun Q ø q=>ha _ _ (ho _ _ (QL (k:=fun b=>Q (.bool b) H) h hb q))
theorem PE.dni{ob:De}{b:Bool}(ha:PE C e fr H (.str s))(ho:PE C o fr H (.ref i))(h:H[i]?=some ob)(hb:Z1 ob s=some (!b)):PE C (.cmp .NotIn e o) fr H (.bool b):=fun Q ø q=>ha _ _ (ho _ _ (QL (k:=fun b=>Q (.bool !b) H) h hb (by rw[Bool.not_not];exact q)))
theorem PE.dix(ho:PE C o fr H (.ref i))(ha:PE C e fr H (.str s))(h:H[i]?=some ob)(hv:eN ob s=some v):PE C (.idx o e) fr H v:=fun ø ø q=>ho _ _ (ha _ _ (W9 h hv q))
theorem PE.ns{y:Ao}{e':E}(ha:PE C e fr H (.str s))(hb:PE C e' fr H (.str y))(h:s≠y):PE C (.cmp .Eq e e') fr H (.bool false):=fun Q ø q=>ha _ _ (hb _ _ (show Q (.bool (decide (s=y))) H from Aj (decide_eq_false h) q))
theorem PE.iff(h:PE C t fr H (.bool false))(hb:PE C b fr H v):PE C (.ite t e b) fr H v:=fun ø ø q=>h _ _ (vB.f rfl (hb _ _ q))
theorem PE.ift(h:PE C t fr H (.bool true))(hb:PE C e fr H v):PE C (.ite t e b) fr H v:=fun ø ø q=>h _ _ (vB.t rfl (hb _ _ q))
theorem PE.orf(h:PE C e fr H (.bool false))(k:PE C b fr H v):PE C (.or e b) fr H v:=fun ø ø q=>h _ _ (vB.f rfl (k _ _ q))
theorem PE.ort(h:PE C e fr H (.bool true)):PE C (.or e b) fr H (.bool true):=fun ø ø q=>h _ _ (vB.t rfl q)
theorem PE.not{b:Bool}(h:PE C e fr H (.bool b)):PE C (.not e) fr H (.bool !b):=fun ø ø q=>h _ _ q
theorem PE.btw{x y z:Int}(h1:PE C e fr H (.int x))(h2:PE C o fr H (.int y))(h3:PE C b fr H (.int z)):PE C (.cmp2 .LtE .LtE e o b) fr H (.bool (decide (x<=y/\y<=z))):=fun Q ø q=>h1 _ _ (h2 _ _ (vB.d (fun a=>h3 _ _ (show Q (.bool (decide (y<=z))) H from D5 (decide_eq_decide.mpr (and_iff_right a)) q)) fun a=>D5 (decide_eq_false fun z=>a z.1) q))
theorem PE.eq(h:PE C e fr H v)(k:v=y):PE C e fr H y:=k▸h
theorem PE.len(h:PE C e fr H (.lst xs))(hl:xs.length<=Ap):PE C (.call (.k (.bi .len)) [e]) fr H (.int xs.length):=fun ø ø q=>h _ _ ⟨hl,q⟩
theorem PI.lst(h:PE C e fr H (.lst xs)):PI C (.it e) fr H xs:=fun ø ø q=>h _ _ q
theorem PI.zip(hd:C.hd=false)(h:PE C e fr H (.lst xs))(k:PE C o fr H (.lst ys)):PI C (.zip e o) fr H (Mi xs ys):=fun ø ø q=>h _ _ (k _ _ ⟨hd,q⟩)
theorem OY.nil:OY C [] fr H []:=fun ø ø q=>q
theorem OY.cons(h:PE C e fr H v)(hs:OY C es fr H vs):OY C (e::es) fr H (v::vs):=fun ø ø q=>h _ _ (hs _ _ q)
theorem PK.iff(h:PE C t fr H (.bool false))(hb:PK C b fr H f vs):PK C (.ite t e b) fr H f vs:=fun ø ø q=>h _ _ (vB.f rfl (hb _ _ q))
theorem PK.ift(h:PE C t fr H (.bool true))(hb:PK C e fr H f vs):PK C (.ite t e b) fr H f vs:=fun ø ø q=>h _ _ (vB.t rfl (hb _ _ q))
theorem PK.call(hs:OY C es fr H vs):PK C (.call (.k (.fn f)) es) fr H f vs:=fun ø ø q=>hs _ _ q
theorem PE.call(hs:OY C es fr H vs)(h:PV C.call C.hd f vs H v):PE C (.call (.k (.fn f)) es) fr H v:=fun ø ø q=>hs _ _ (h _ _ q)
theorem PE.ge(h1:PE C e fr H (.int y))(h2:PE C o fr H (.int z)):PE C (.cmp .GtE e o) fr H (.bool (decide (z<=y))):=fun ø ø q=>h1 _ _ (h2 _ _ q)
theorem N4(h:PE C e fr H (.tup xs))(k:NN fr ps xs fun fr'=>AV C ss fr' H N R X):AV C (.asgT ps e::ss) fr H N R X:=h _ _ k
theorem PK.m(ho:PE C o fr H (.ref i))(h:H[i]?=some ob)(hm:Oy C ob s=some f)(hs:OY C es fr H vs):PK C (.mcall o s es) fr H f (.ref i::vs):=fun ø ø q=>ho _ _ (Oz h hm (hs _ _ q))
theorem Ls(k:N fr H):AV C [] fr H N R X:=k
theorem AN(h:PE C e fr H v)(k:AV C ss (AC fr i v) H N R X):AV C (.asg i e::ss) fr H N R X:=h _ _ k
theorem Ba(h:PE C e fr H v)(k:R v fr H):AV C (.ret e::ss) fr H N R X:=h _ _ k
theorem B4(h:PE C t fr H (.bool false))(k:AV C ss fr H N R X):AV C (.ite t a []::ss) fr H N R X:=h _ _ (vB.f rfl k)
theorem Yj(h:PE C t fr H (.bool true))(k:AV C a fr H (fun fr H=>AV C ss fr H N R X) R X):AV C (.ite t a []::ss) fr H N R X:=h _ _ (vB.t rfl k)
theorem Ho(h:PE C t fr H (.bool true))(h2:PE C e fr H v)(k:R v fr H):AV C (.ite t [.ret e] []::ss) fr H N R X:=h _ _ (vB.t rfl (h2 _ _ k))
theorem N5(h:PE C t fr H (.bool true))(h2:PK C e fr H f vs)(k:C.call C.hd f vs H (fun v H=>R v fr H) X):AV C (.ite t [.ret e] []::ss) fr H N R X:=h _ _ (vB.t rfl (h2 _ _ k))
theorem E6(h:PK C e fr H f vs)(k:C.call C.hd f vs H (fun v H=>R v fr H) X):AV C (.ret e::ss) fr H N R X:=h _ _ k
theorem UC(h:PK C e fr H f vs)(k:C.call C.hd f vs H (fun v H=>AV C ss (AC fr i v) H N R X) X):AV C (.asg i e::ss) fr H N R X:=h _ _ k
theorem IE(h:PK C e fr H f vs)(k:C.call C.hd f vs H (fun ø H=>AV C ss fr H N R X) X):AV C (.expr e::ss) fr H N R X:=h _ _ k
theorem O8{xs:List V}(ho:PE C o fr H (.ref i))(he:PE C e fr H x)(h:H[i]?=some (.list xs))(hl:xs.length<=Ap)(k:AV C ss fr (H.set i (.list (xs++[x]))) N R X):AV C (.expr (.mcall o Nt [e])::ss) fr H N R X:=ho _ _ (hO.e h (he _ _ (hO.e h ⟨hl,k⟩)))
theorem Hp(h:PE C t fr H (.bool true))(hd:C.hd=false)(hs:OY C es fr H (.str c::vs))(hv:vs.length<=1)(k:X c H):AV C (.ite t [.raise es] []::ss) fr H N R X:=h _ _ (vB.t rfl (hs _ _ ⟨hd,by
 rcases vs with _ | ⟨_,_ | _⟩
 ·exact k
 ·exact k
 ·exact absurd hv (by simp)⟩))
theorem UB(hd:C.hd=false)(he:PE C e fr H (.lst [x]))(hk:PK C o (AC fr m x) H f vs)(k:C.call C.hd f vs H (fun v H=>AV C ss (AC fr i (.lst [v])) H N R X) X):AV C (.asg i (.comp false (.one m) (.it e) .none o)::ss) fr H N R X:=
 he _ _ (aI ⟨hd,lB rfl⟩ (hk _ _ k))
theorem PE.ne{C:FP}{fr:Fr}{H:MH}{e e':E}{x y:Ao}(ha:PE C e fr H (.str x))(hb:PE C e' fr H (.str y)):PE C (.cmp .Eq e e') fr H (.bool (decide (x=y))):=fun ø ø q=>ha _ _ (hb _ _ q)
theorem vC.map{step:V->MH->(Option V->MH->Prop)->Prop}{g:V->V}(hs:∀x H K,K (some (g x)) H->step x H K):∀{xs:List V} {H:MH} {K:List V->MH->Prop},K (xs.map g) H->vC step xs H K
 |[],_,_,q=>q
 |x::_,_,_,q=>hs x _ _ (vC.map hs q)
theorem PI.compR{g:V->V}{m:Nat}{xs:List V}(hd:C.hd=false)(he:PE C e fr H (.lst xs))(hl:xs.length<=Ap)(hs:∀x H,PE C o (AC fr m x) H (g x)):PI C (.it (.comp false (.one m) (.rev e) .none o)) fr H (xs.reverse.map g):=
 fun ø ø q=>he _ _ (aI hd (aI hl (aI ⟨hd,Aj B5 hl⟩ (vC.map (fun x H ø q=>hs x H _ _ q) q))))
theorem fX{it:It}{xs ys:List V}(hd:C.hd=false)(ho:PE C o fr H (.ref i))(h:H[i]?=some (.list xs))(hi:PI C it fr H ys)(hl:xs.length+ys.length<=Ap)(k:AV C ss fr (H.set i (.list (xs++ys))) N R X):AV C (.expr (.extend o it)::ss) fr H N R X:=
 ho _ _ (hO.e h (hi _ _ (aI hd (hO.e h (aI hl k)))))
theorem UD(h:PE C e fr H v)(k:AV C ss fr H N R X):AV C (.expr e::ss) fr H N R X:=h _ _ k
theorem Qc{op:E8}{a z y:Int}(ho:PE C o fr H (.ref i))(h:H[i]?=some (.inst K fs))(hl:fs.lookup s=some (.int a))(hf:C.fld K s=true/\fs.length<=900)(hb:∀k:V->Prop,k (.int y)->OJ op (.int a) (.int z) H k)(k:AV C ss fr (H.set i (.inst K (putL s (.int y) fs))) N R X):AV C (.augA o s op (.k (.int z))::ss) fr H N R X:=
 ho _ _ (hO.e h (lO.e hl (aI hf.1 (hO.e h (aI hf (hb _ k))))))
theorem ZO{es:List (Ao×V)}(ho:PE C o fr H (.ref i))(he:PE C e fr H (.str s))(h:H[i]?=some (.dict es))(hl:es.length<=1000)(hv:es.lookup s=some v)(k:AV C ss fr (H.set i (.dict (LW s es))) N R X):AV C (.expr (.mcall o W1 [e,.k x])::ss) fr H N R X:=
 ho _ _ (hO.e h (aI rfl (he _ _ (hO.e h (aI hl (by show match es.lookup s with | some _=>_ | none=>_;rw[hv];exact k))))))
theorem ZN{es:List (Ao×V)}(ho:PE C o fr H (.ref i))(he:PE C e fr H (.str s))(h:H[i]?=some (.dict es))(hl:es.length<=1000)(hv:es.lookup s=none)(k:AV C ss fr H N R X):AV C (.expr (.mcall o W1 [e,.k x])::ss) fr H N R X:=
 ho _ _ (hO.e h (aI rfl (he _ _ (hO.e h (aI hl (by show match es.lookup s with | some _=>_ | none=>_;rw[hv];exact k))))))
theorem UE{es:List (Ao×V)}(he:PE C e fr H v)(ho:PE C o fr H (.ref i))(hj:PE C t fr H (.str s))(h:H[i]?=some (.dict es))(hl:es.length<=1000)(k:AV C ss fr (H.set i (.dict (putL s v es))) N R X):AV C (.setI o t e::ss) fr H N R X:=
 he _ _ (ho _ _ (hj _ _ (hO.e h (aI hl k))))
theorem PK.meth(ho:PE C o fr H (.meth f i))(hf:C.isFn f=true)(hs:OY C es fr H vs):PK C (.call o es) fr H f (.ref i::vs):=fun ø ø q=>ho _ _ (hs _ _ (aI hf q))
theorem fY(h:AV C a fr H (fun fr H=>AV C final fr H (fun fr H=>AV C ss fr H N R X) (fun ø ø ø=>False) X) (fun v fr H=>AV C final fr H (fun fr H=>R v fr H) (fun ø ø ø=>False) X) (fun c H=>AV {C with hd:=true} final fr H (fun ø H=>X c H) (fun ø ø ø=>False) (fun ø ø=>False))):AV C (.fin a final::ss) fr H N R X:=h
theorem PE.tup(hs:OY C es fr H vs):PE C (.tup es) fr H (.tup vs):=fun ø ø q=>hs _ _ q
theorem PE.dget{es:List (Ao×V)}(ho:PE C o fr H (.ref i))(he:PE C e fr H (.str s))(h:H[i]?=some (.dict es)):PE C (.mcall o Zu [e]) fr H ((es.lookup s).getD .none):=fun ø ø q=>ho _ _ (hO.e h (he _ _ (hO.e h q)))
theorem PE.comp2{m:Nat}{x1 x2 v1 v2:V}(hd:C.hd=false)(he:PE C e fr H (.lst [x1,x2]))(h1:PE C o (AC fr m x1) H v1)(h2:PE C o (AC fr m x2) H v2):PE C (.comp false (.one m) (.it e) .none o) fr H (.lst [v1,v2]):=fun ø ø q=>he _ _ (aI ⟨hd,lB rfl⟩ (h1 _ _ (h2 _ _ q)))
theorem fU(hd:C.hd=false)(he:PE C e fr H (.lst [x]))(he':PE C b fr H (.lst [y]))(hk:PK C o (AC (AC fr m x) n y) H f vs)(k:C.call C.hd f vs H (fun v H=>AV C ss (AC fr i (.lst [v])) H N R X) X):AV C (.asg i (.comp false (.two m n) (.zip e b) .none o)::ss) fr H N R X:=
 he _ _ (he' _ _ (aI hd (aI ⟨hd,lB rfl⟩ (hk _ _ k))))
theorem PE.am(ho:PE C o fr H (.ref i))(h:H[i]?=some ob)(hm:Oy C ob s=some f):PE C (.attr o s) fr H (.meth f i):=fun Q ø q=>ho _ _ (Zz h hm (k:=fun v=>Q v H) q)
theorem V9.comp(hd:C.hd=false)(he:PE C e fr H (.lst [x]))(hk:PK C o (AC fr m x) H f vs)(hs:∀H Q X,OL C es fr H Q X=Q us H):V9 C (.comp false (.one m) (.it e) .none o::es) fr H f vs (fun v=>.lst [v]::us):=fun Q X q=>
 he _ _ (aI ⟨hd,lB rfl⟩ (hk _ _ ((show(fun v H=>Q (.lst [v]::us) H)=_ from funext fun v=>funext fun H=>(hs H (fun vs H=>Q (.lst [v]::vs) H) X).symm)▸q)))
theorem V9.last(h:PK C e fr H f vs):V9 C [e] fr H f vs (fun v=>[v]):=fun ø ø q=>h _ _ q
theorem V9.there(h:PE C e fr H v)(hs:V9 C es fr H f vs F):V9 C (e::es) fr H f vs (fun u=>v::F u):=fun ø ø q=>h _ _ (hs _ _ q)
theorem Yh(hs:V9 C es fr H f vs F)(k:C.call C.hd f vs H (fun v H=>C.call C.hd f2 (F v) H (fun ø H=>AV C ss fr H N R X) X) X):AV C (.expr (.call (.k (.fn f2)) es)::ss) fr H N R X:=hs _ _ k
theorem Yi(ho:PE C o fr H (.ref i))(h:H[i]?=some ob)(hm:Oy C ob s=some f2)(hs:V9 C es fr H f vs F)(k:C.call C.hd f vs H (fun v H=>C.call C.hd f2 (.ref i::F v) H (fun ø H=>AV C ss fr H N R X) X) X):AV C (.expr (.mcall o s es)::ss) fr H N R X:=ho _ _ (Oz h hm (hs _ _ k))
theorem UF(h:PK C e fr H f vs)(k:C.call C.hd f vs H (fun v H=>AV C (.setI o t (.k v)::ss) fr H N R X) X):AV C (.setI o t e::ss) fr H N R X:=h _ _ k
theorem ZP{xs:List V}{j:Int}(he:PE C e fr H v)(ho:PE C o fr H (.ref i))(hj:PE C t fr H (.int j))(h:H[i]?=some (.list xs))(hl:0<=j/\j<xs.length/\xs.length<=Ap)(k:AV C ss fr (H.set i (.list (xs.set j.toNat v))) N R X):AV C (.setI o t e::ss) fr H N R X:=
 he _ _ (ho _ _ (hj _ _ (hO.e h (aI hl k))))
theorem PE.ixe(ho:PE C o fr H x)(he:PE C e fr H (.int j))(h:aZ x j=some v):PE C (.idx o e) fr H v:=fun ø ø q=>ho _ _ (he _ _ (TS h q))
theorem PE.is{b:Bool}(h:PE C e fr H v)(hv:∀k:Bool->Prop,k b->Rj v k):PE C (.cmp .Is e (.k .none)) fr H (.bool b):=fun Q ø q=>h _ _ (hv (fun b=>Q (.bool b) H) q)
theorem WL(h:PE C t fr H (.bool true))(k:AV C a fr H (fun fr H=>AV C ss fr H N R X) R X):AV C (.ite t a es2::ss) fr H N R X:=h _ _ (vB.t rfl k)
theorem Qd(h:PE C t fr H (.bool false))(k:AV C es2 fr H (fun fr H=>AV C ss fr H N R X) R X):AV C (.ite t a es2::ss) fr H N R X:=h _ _ (vB.f rfl k)
theorem OA(hs:OY C es fr H vs)(k:NN fr ps vs fun fr'=>AV C ss fr' H N R X):AV C (.asgTT ps es::ss) fr H N R X:=hs _ _ k
theorem O7(h:PK C e fr H f vs)(k:C.call C.hd f vs H (fun v H=>vE C o fr H (fun u H=>AV C ss (AC (AC fr i v) j u) H N R X) X) X):AV C (.asgTT [.v i,.v j] [e,o]::ss) fr H N R X:=h _ _ k
theorem PE.nes{y:Ao}(ha:PE C e fr H (.str s))(hb:PE C o fr H (.str y)){b:Bool}(h:(!decide (s=y))=b):PE C (.cmp .NotEq e o) fr H (.bool b):=fun Q ø q=>ha _ _ (hb _ _ (show Q (.bool (!decide (s=y))) H from h.symm▸q))
theorem gA(h:PK C e fr H f vs)(k:C.call C.hd f vs H (fun v H=>OL C es fr H (fun us H=>C.call C.hd f2 (v::us) H (fun v H=>R v fr H) X) X) X):AV C (.ret (.call (.k (.fn f2)) (e::es))::ss) fr H N R X:=h _ _ k
theorem ZM(h:PK C e fr H f vs)(k:C.call C.hd f vs H (fun v H=>C.call C.hd f2 [v] H (fun u H=>vE C o fr H (fun u' H=>AV C ss (AC (AC fr i u) j u') H N R X) X) X) X):AV C (.asgTT [.v i,.v j] [.call (.k (.fn f2)) [e],o]::ss) fr H N R X:=h _ _ k
theorem PE.andt(h:PE C e fr H (.bool true))(k:PE C b fr H v):PE C (.and e b) fr H v:=fun ø ø q=>h _ _ (vB.t rfl (k _ _ q))
theorem PE.andf(h:PE C e fr H (.bool false)):PE C (.and e b) fr H (.bool false):=fun ø ø q=>h _ _ (vB.f rfl q)
theorem PE.lt(h1:PE C e fr H (.int y))(h2:PE C o fr H (.int z)):PE C (.cmp .Lt e o) fr H (.bool (decide (y<z))):=fun ø ø q=>h1 _ _ (h2 _ _ q)
theorem PE.sub(h1:PE C e fr H (.int y))(h2:PE C o fr H (.int z))(hu:y-z=u):PE C (.bin .Sub e o) fr H (.int u):=fun Q ø q=>h1 _ _ (h2 _ _ (show Q (.int (y-z)) H from hu.symm▸q))
theorem PE.add(h1:PE C e fr H (.int y))(h2:PE C o fr H (.int z))(hu:y+z=u):PE C (.bin .Add e o) fr H (.int u):=fun Q ø q=>h1 _ _ (h2 _ _ (show Q (.int (y+z)) H from hu.symm▸q))
theorem PE.cat(h1:PE C e fr H (.str y))(h2:PE C o fr H (.str z))(hl:y.length+z.length<=Ap):PE C (.bin .Add e o) fr H (.str (y++z)):=fun ø ø q=>h1 _ _ (h2 _ _ (aI hl q))
theorem PE.lenS(h:PE C e fr H (.str s))(hl:s.length<=Ap):PE C (.call (.k (.bi .len)) [e]) fr H (.int s.length):=fun ø ø q=>h _ _ ⟨hl,q⟩
theorem PE.hi{m:Nat}(ho:PE C o fr H (.str s))(he:PE C e fr H (.int m))(hm:m<=Ap)(hl:s.length<=Ap):PE C (.slc o .none (some e)) fr H (.str (Ao.cut s 0 m)):=fun ø ø q=>ho _ _ (he _ _ (aI ⟨AE m,Int.lt_of_le_of_lt (Am.mpr hm) (by decide)⟩ (aI hl q)))
theorem PE.lo{m:Nat}(ho:PE C o fr H (.str s))(he:PE C e fr H (.int m))(hm:m<=Ap)(hl:s.length<=Ap):PE C (.slc o (some e) .none) fr H (.str (Ao.cut s m s.length)):=fun ø ø q=>ho _ _ (he _ _ (aI ⟨AE m,Int.lt_of_le_of_lt (Am.mpr hm) (by decide)⟩ (aI hl q)))
theorem PE.min3(hd:C.hd=false)(h1:PE C e fr H (.int i))(h2:PE C o fr H (.int j))(h3:PE C b fr H (.int h))(hu:(if h<(if j<i then j else i) then h else if j<i then j else i)=u):PE C (.call (.k (.bi .min)) [e,o,b]) fr H (.int u):=fun Q ø q=>h1 _ _ (h2 _ _ (h3 _ _ (aI hd (show Q (.int (if h<(if j<i then j else i) then h else if j<i then j else i)) H from hu.symm▸q))))
theorem PE.orb{x y:Bool}(h:PE C e fr H (.bool x))(k:PE C b fr H (.bool y)):PE C (.or e b) fr H (.bool (x||y)):=by
 induction x with
 |true=>exact .ort h
 |false=>exact .orf h k
theorem PE.andb{x y:Bool}(h:PE C e fr H (.bool x))(k:PE C b fr H (.bool y)):PE C (.and e b) fr H (.bool (x&&y)):=by
 induction x with
 |true=>exact .andt h k
 |false=>exact .andf h
theorem PE.le(h1:PE C e fr H (.int y))(h2:PE C o fr H (.int z)):PE C (.cmp .LtE e o) fr H (.bool (decide (y<=z))):=fun ø ø q=>h1 _ _ (h2 _ _ q)
theorem PE.gt(h1:PE C e fr H (.int y))(h2:PE C o fr H (.int z)):PE C (.cmp .Gt e o) fr H (.bool (decide (z<y))):=fun ø ø q=>h1 _ _ (h2 _ _ q)
theorem PE.ei(h1:PE C e fr H (.int y))(h2:PE C o fr H (.int z)):PE C (.cmp .Eq e o) fr H (.bool (decide (y=z))):=fun ø ø q=>h1 _ _ (h2 _ _ q)
theorem PE.mul(h1:PE C e fr H (.int y))(h2:PE C o fr H (.int z))(hs:IF y)(hu:y*z=u):PE C (.bin .Mult e o) fr H (.int u):=fun Q ø q=>h1 _ _ (h2 _ _ (aI hs (show Q (.int (y*z)) H from hu.symm▸q)))
theorem PE.fdiv(h1:PE C e fr H (.int y))(h2:PE C o fr H (.int z))(hs:0<z/\IF z)(hu:y.fdiv z=u):PE C (.bin .FloorDiv e o) fr H (.int u):=fun Q ø q=>h1 _ _ (h2 _ _ (aI hs (show Q (.int (y.fdiv z)) H from hu.symm▸q)))
theorem PE.fmod(h1:PE C e fr H (.int y))(h2:PE C o fr H (.int z))(hs:0<z)(hu:y.fmod z=u):PE C (.bin .Mod e o) fr H (.int u):=fun Q ø q=>h1 _ _ (h2 _ _ (aI hs (show Q (.int (y.fmod z)) H from hu.symm▸q)))
theorem PE.pow(h2:PE C o fr H (.int z))(hs:0<=z/\z<=18)(hu:10 ^ z.toNat=u):PE C (.bin .Pow (.k (.int 10)) o) fr H (.int u):=fun Q ø q=>h2 _ _ (aI ⟨rfl,hs⟩ (show Q (.int (10 ^ z.toNat)) H from hu.symm▸q))
theorem PE.neg(h1:PE C e fr H (.int y))(hu:-y=u):PE C (.neg e) fr H (.int u):=fun Q ø q=>h1 _ _ (show Q (.int (-y)) H from hu.symm▸q)
theorem PE.abs(h1:PE C e fr H (.int y))(hu:(if y<0 then-y else y)=u):PE C (.call (.k (.bi .abs)) [e]) fr H (.int u):=fun Q ø q=>h1 _ _ (show Q (.int (if y<0 then-y else y)) H from hu.symm▸q)
theorem PE.isi{t:Bi}{b:Bool}(h:PE C e fr H v)(hp:plain v=true)(hk:V2 v t=some b):PE C (.call (.k (.bi .isi)) [e,.k (.bi t)]) fr H (.bool b):=fun Q ø q=>h _ _ (aI hp (vO.e hk q))
theorem PE.btl{x y z:Int}(h1:PE C e fr H (.int x))(h2:PE C o fr H (.int y))(h3:PE C b fr H (.int z)):PE C (.cmp2 .LtE .Lt e o b) fr H (.bool (decide (x<=y/\y<z))):=fun Q ø q=>h1 _ _ (h2 _ _ (vB.d (fun a=>h3 _ _ (show Q (.bool (decide (y<z))) H from D5 (decide_eq_decide.mpr (and_iff_right a)) q)) fun a=>D5 (decide_eq_false fun z=>a z.1) q))
theorem QU{op:E8}{a z y:Int}(hx:fr[i]?=some (some (.int a)))(he:PE C e fr H (.int z))(hb:∀k:V->Prop,k (.int y)->OJ op (.int a) (.int z) H k)(k:AV C ss (AC fr i (.int y)) H N R X):AV C (.aug i op e::ss) fr H N R X:=by
 show vO fr[i]? _
 rw[hx]
 exact he _ _ (hb _ k)
theorem fZ(h:PK C e fr H f vs)(k:C.call C.hd f vs H (fun v H=>C.call C.hd f2 [v] H (fun v H=>R v fr H) X) X):AV C (.ret (.call (.k (.fn f2)) [e])::ss) fr H N R X:=h _ _ k
theorem O9(h:PE C e fr H (.tup [x,y,z]))(k:AV C ss (AC (AC (AC fr i x) j y) l z) H N R X):AV C (.asgT [.v i,.v j,.v l] e::ss) fr H N R X:=h _ _ k
theorem PE.inK{l:List Ao}{xs:List V}{b:Bool}(h:PE C e fr H (.str s))(hx:∀k:List Ao->Prop,k l->F7 xs k)(hc:l.contains s=b):PE C (.cmp .In e (.k (.tup xs))) fr H (.bool b):=fun Q ø q=>h _ _ (hx (fun l=>Q (.bool (l.contains s)) H) (show Q (.bool (l.contains s)) H from hc.symm▸q))
theorem PE.copyL(h:PE C e fr H (.lst xs))(hl:xs.length<=Ap):PE C (.copy false e) fr H (.lst xs):=fun ø ø q=>h _ _ (aI hl q)
theorem PE.copyR{xs:List V}(h:PE C e fr H (.ref i))(hi:H[i]?=some (.list xs))(hl:xs.length<=Ap):PE C (.copy false e) fr H (.lst xs):=fun ø ø q=>h _ _ (hO.e hi (aI hl q))
theorem PE.sorted{es:List (Ao×V)}(hd:C.hd=false)(h:PE C e fr H (.ref i))(hi:H[i]?=some (.dict es))(hl:es.length<=60/\(es.map (·.1)).Pairwise fun a b=>Fu b.cps.toList a.cps.toList=false):PE C (.call (.k (.bi .sorted)) [e]) fr H (.lst ((es.map (·.1)).map .str)):=fun ø ø q=>h _ _ (aI hd (hO.e hi (aI hl q)))
theorem PE.addR{xs ys:List V}(h:PE C e fr H (.ref i))(k:PE C o fr H (.lst ys))(hi:H[i]?=some (.list xs))(hl:xs.length+ys.length<=Ap):PE C (.bin .Add e o) fr H (.lst (xs++ys)):=fun ø ø q=>h _ _ (k _ _ (hO.e hi (aI hl q)))
theorem PE.lst(hs:OY C es fr H vs):PE C (.lst false es) fr H (.lst vs):=fun ø ø q=>hs _ _ q
theorem PI.tup(h:PE C e fr H (.tup xs)):PI C (.it e) fr H xs:=fun ø ø q=>h _ _ q
theorem fV{m:Nat}{x1 x2 x3 v1 v2 v3:V}(hd:C.hd=false)(he:PE C e fr H (.lst [x1,x2,x3]))(h1:PE C o (AC fr m x1) H v1)(h2:PE C o (AC fr m x2) H v2)(h3:PE C o (AC fr m x3) H v3)(k:AV C ss (AC fr i (.ref H.length)) (H++[.list [v1,v2,v3]]) N R X):AV C (.asg i (.comp true (.one m) (.it e) .none o)::ss) fr H N R X:=
 he _ _ (aI ⟨hd,lB rfl⟩ (h1 _ _ (h2 _ _ (h3 _ _ k))))
theorem nT(h:PE C t fr H (.bool true))(k:AV C a fr H (fun fr H=>DQ (fun fr H Q=>vE C t fr H Q X) (fun fr H N=>AV C a fr H N R X) n fr H N) R X):DQ (fun fr H Q=>vE C t fr H Q X) (fun fr H N=>AV C a fr H N R X) (n+1) fr H N:=h _ _ (vB.t rfl k)
theorem Xa(h:PE C t fr H (.bool false))(k:N fr H):DQ (fun fr H Q=>vE C t fr H Q X) (fun fr H N=>AV C a fr H N R X) (n+1) fr H N:=h _ _ (vB.f rfl k)
theorem N6(hn:C.fuel=n)(k:DQ (fun fr H Q=>vE C t fr H Q X) (fun fr H N=>AV C a fr H N R X) n fr H fun fr H=>AV C ss fr H N R X):AV C (.while_ t a::ss) fr H N R X:=by
 show DQ _ _ C.fuel fr H _
 rw[hn]
 exact k
theorem Yg(h:PE C e fr H (.tup [x,y]))(k:AV C ss (AC (AC fr i x) j y) H N R X):AV C (.asgT [.v i,.v j] e::ss) fr H N R X:=h _ _ k
theorem JB(h:PI C it fr H xs)(k:HK (fun x fr H N=>Kz fr tg x fun fr'=>AV C a fr' H N R X) xs fr H fun fr H=>AV C ss fr H N R X):AV C (.for_ tg it a::ss) fr H N R X:=h _ _ k
end
section
variable {c:A7}{hd:Bool}{a:Ai}{f:Fn}{vs:List V}{H:MH}{Q:QV}{X:EV}
theorem IL(hg:Mh.glo a=some (.fn f))(hp:f.pure=true)(hl:vs.length+f.dfl.length=f.np)(nr:V.nrs (vs++f.dfl)=true)
  (h:AV (cf c hd) f.body (Fh f.ns (vs++f.dfl)) [] (pN Q H) (pR Q H) (pX X H)):step c hd a vs H Q X:=CS hg hp hl nr h
theorem PB(hg:Mh.glo a=some (.fn f))(hp:f.pure=false)(hl:vs.length+f.dfl.length=f.np)
  (h:AV (cf c hd) f.body (Fh f.ns (vs++f.dfl)) H (iN Q) (iR Q) X):step c hd a vs H Q X:=CM hg hp hl h
end
noncomputable abbrev C5(s:Ao):Prop:=PySem.PyData.strOk s=true
set_option genCtorIdx true in
inductive Rs where
 |ok (v:V)
 |er (s:Ao)
noncomputable def Rs.sat(r:Rs)(Q:V->Prop)(X:Ao->Prop):Prop:=match r with
 |.ok v=>Q v
 |.er s=>X s
noncomputable def PC(c:A7)(a:Ai)(vs:List V)(r:Rs):Prop:=∀(H:MH) (Q:QV) (X:EV),r.sat (Q · H) (X · H)->c false a vs H Q X
noncomputable def Pu(c:A7)(a:Ai)(vs:List V)(P:V->Prop)(E:Ao->Prop):Prop:=∃r:Rs,r.sat P E/\PC c a vs r
noncomputable abbrev Pp:=(V->Prop)->(Ao->Prop)->Prop
noncomputable def zN(K:V->Prop):NV:=fun ø ø=>K .none
noncomputable def zR(K:V->Prop):RT:=fun v ø H=>V.nr (Br H v)=true/\K (Br H v)
noncomputable def zX(Y:Ao->Prop):EV:=fun c ø=>Y c
noncomputable def pz(c:A7)(ss:List S)(fr:Fr)(H:MH):Pp:=fun K Y=>AV (cf c false) ss fr H (zN K) (zR K) (zX Y)
noncomputable def Pz(p:Pp)(P:V->Prop)(E:Ao->Prop):Prop:=∃r:Rs,r.sat P E/\∀K Y,r.sat K Y->p K Y
section
variable {c:A7}{a:Ai}{f:Fn}{vs:List V}{P P':V->Prop}{E E':Ao->Prop}{p q:Pp}
theorem Rs.imp{r:Rs}(h:r.sat P E)(k:∀v,P v->P' v)(l:∀s,E s->E' s):r.sat P' E':=by
 induction r with
 |ok v=>exact k v h
 |er s=>exact l s h
theorem Pu.fn(hg:Mh.glo a=some (.fn f))(hp:f.pure=true)(hl:vs.length+f.dfl.length=f.np)(nr:V.nrs (vs++f.dfl)=true)(h:Pz (pz c f.body (Fh f.ns (vs++f.dfl)) []) P E):Pu (step c) a vs P E:=
 AO h fun r h1 h2=>Bn r h1 fun H Q X q=>IL hg hp hl nr (h2 _ _ q)
theorem Pu.mono(h:Pu c a vs P E)(k:∀v,P v->P' v)(l:∀s,E s->E' s):Pu c a vs P' E':=AO h fun r h1 h2=>Bn r (Rs.imp h1 k l) h2
theorem Pz.step(g:∀K Y,q K Y->p K Y)(h:Pz q P E):Pz p P E:=AO h fun r h1 h2=>Bn r h1 fun K Y z=>g K Y (h2 K Y z)
theorem Pz.ok(hP:P v)(g:∀K (Y:Ao->Prop),K v->p K Y):Pz p P E:=Bn (.ok v) hP fun K Y z=>g K Y z
theorem Pz.er(hE:E s)(g:∀(K:V->Prop) Y,Y s->p K Y):Pz p P E:=Bn (.er s) hE fun K Y z=>g K Y z
theorem Pz.call{P1:V->Prop}{E1:Ao->Prop}{F:V->MH->Pp}(h:Pu c a vs P1 E1)(hE:∀s,E1 s->E s)(g:∀K Y,c false a vs [] (fun v H=>F v H K Y) (fun s ø=>Y s)->p K Y)(k:∀v,P1 v->Pz (F v []) P E):Pz p P E:=AO h fun r h1 h2=>by
 induction r with
 |er s=>exact Bn (.er s) (hE s h1) (fun K Y z=>g K Y (h2 _ _ _ z))
 |ok v=>exact AO (k v h1) fun r k1 k2=>Bn r k1 (fun K Y z=>g K Y (h2 _ _ _ (k2 K Y z)))
theorem Pz.tail(h:Pu c a vs P E)(hf:∀v,P v->∀H,Br H v=v/\V.nr v=true)(g:∀K Y,c false a vs [] (fun v H=>zR K v [] H) (fun s ø=>Y s)->p K Y):Pz p P E:=
 .call h (fun ø h=>h) g fun v hv=>.ok hv fun K Y z=>by
  show V.nr (Br [] v)=true/\K (Br [] v)
  refine Aj ((hf v hv []).1) ?_
  exact⟨(hf v hv []).2,z⟩
end
noncomputable def NT(c:A7):Prop:=∀{n:Nat},n<10 ^ 18->∃k:Nat,(k<=18/\n<10 ^ k/\(k=1\/10 ^ (k-1)<=n)/\0<k)/\∀{H:MH},PV c false 141 [.int n] H (.int k)
theorem nP(h:k<=18):10 ^ k<=10 ^ 18:=BH (by decide) h
theorem MF{k:Nat}(h:k<=10 ^ 18):IF k:=⟨DU (.neg (.num 4611686018427387904)) za [.l (.num 0) za] As (AE _),DU za (.num 4611686018427387904) [.l za (.num 1000000000000000000)] As (Am.2 h)⟩
noncomputable abbrev cW(n k:Nat):Fr:=[some (.int n),some (.int k),some (.int (10 ^ k:Nat))]
theorem Op{n:Nat}(hn:n<10 ^ 18):∀(f k:Nat),18<f+k->k<=18->0<k->(k=1\/10 ^ (k-1)<=n)->∃j:Nat,(j<=18/\n<10 ^ j/\(j=1\/10 ^ (j-1)<=n)/\0<j)/\∀{C:FP} {R:RT} {X:EV} {N:NV},N (cW n j) []->
  DQ (fun fr H Q=>vE C (.cmp .LtE (.l 2) (.l 0)) fr H Q X) (fun fr H N=>AV C [.aug 2 .Mult (.k (.int 10)),.aug 1 .Add (.k (.int 1))] fr H N R X) f (cW n k) [] N
 |0=>fun k h h2 ø ø=>absurd h (Nat.not_lt_of_le (GK (Lp (.num 0) xa) (.num 18) [.l xa (.num 18)] As h2))
 |f+1=>fun k h h2 h3 h4=>
  if e:10 ^ k<=n then
   have hk:k<18:=Gw fun h=>EH _ (Da hn (Ag (BH (by decide) h) e))
   AO (Op hn f (k+1) (OX (.num 18) (Lp xa (Lp xb (.num 1))) [.t (.num 18) (Lp (Lp xa (.num 1)) xb)] As h) hk (BM k) (.inr e)) fun j h1 h2=>Bn j h1 fun q=>vB.t (decide_eq_true (Am.mpr e)) (aI (MF (nP (CB hk))) (h2 q))
  else Bn k ⟨h2,Gw e,h4,h3⟩ fun q=>vB.f (decide_eq_false fun h=>e (Am.mp h)) q
theorem YO:NT (step c):=fun hn=>AO (Op hn 400 1 (by decide) (by decide) (by decide) (.inl rfl)) fun j h1 h2=>Bn j h1 fun Q X q=>CS rfl rfl rfl rfl (h2 (aI rfl q))
theorem QN(j:Nat):(10:Int) ^ j=((10 ^ j:Nat):Int):=(Int.natCast_pow 10 j).symm
noncomputable def VD(c:A7):Prop:=∀{n:Nat} {p:Int},n<10 ^ 18->p<=18->∃k:Nat,((p<=0->k=n)/\∀j m:Nat,p=j->n<10 ^ (m+j)->k<=10 ^ m)/\∀{H:MH},PV c false 148 [.int n,.int p] H (.int k)
theorem ZK{c:A7}(NL:NT c):VD (step c):=fun {n p} hn hp=>by
 by_cases e:p<=0
 ·refine⟨n,⟨fun ø=>rfl,fun j m e1 e2=>?_⟩,fun Q X q=>IL rfl rfl rfl rfl (Ho (.eq (.le (.l rfl) .k) (congrArg V.bool (decide_eq_true e))) (.l rfl) (aI rfl q))⟩
  have:j=0:=AL (Am.1 (MO za (.num 0) [.f zb za,.l zb (.num 0)] As e1 e)) (Am.1 (BV (.num 0) za [.l (.num 0) za] As (AE _)))
  subst this;exact CB e2
 refine AO (NL hn) fun k hk fk=>?_
 have st:∀{Q:QV} {X:EV} {H:MH} {b:Bool},decide ((k:Int)+1<p)=b->(b=true->Q (.int 0) H)->(b=false->AV (cf c false) (Gm.body.drop 2) (Fh 5 [.int n,.int p]) [] (pN Q H) (pR Q H) (pX X H))->step c false 148 [.int n,.int p] H Q X:=fun {Q X H b} hb q1 q2=>
  IL rfl rfl rfl rfl (B4 (.eq (.le (.l rfl) .k) (congrArg V.bool (decide_eq_false e))) (by
   have t:=fun {Q' X'}=>PE.eq (v:=.bool (decide ((k:Int)+1<p))) (C:=cf c false) (fr:=Fh 5 [.int n,.int p]) (H:=[]) (e:=.cmp .Gt (.l 1) (.bin .Add (.call (.k (.fn 141)) [.l 0]) (.k (.int 1)))) (.gt (.l rfl) (.add (.call (.cons (.l rfl) .nil) fk) .k rfl)) (congrArg V.bool hb) (Q:=Q') (X:=X')
   induction b with
   |true=>exact Ho (fun Q' X'=>t) .k (aI rfl (q1 rfl))
   |false=>exact B4 (fun Q' X'=>t) (q2 rfl)))
 by_cases e2:(k:Int)+1<p
 ·exact⟨0,⟨fun h=>absurd h e,fun ø ø ø ø=>A3 _⟩,fun Q X q=>st (decide_eq_true e2) (fun ø=>q) fun h=>nomatch h⟩
 refine Eb (Cf (Int.le_of_lt (Int.not_le.mp e))) fun j eq1=>?_
 subst eq1
 have hd:Int.fdiv n (10 ^ j)=(n / 10 ^ j:Nat):=by rw[QN];exact(Int.ofNat_fdiv _ _).symm
 have h0:(0:Int)<10 ^ j:=by rw[QN];exact Bg.mpr (Nat.pow_pos (by decide))
 have hs:IF (10 ^ j):=by rw[QN];exact MF (nP (Am.mp hp))
 have hb:∀m,n<10 ^ (m+j)->n / 10 ^ j<10 ^ m:=fun m h=>HS (by rw[Nat.mul_comm,<-HT];exact h)
 have hz:∀{k:Nat},k<=n / 10 ^ j+1->((j:Int)<=0->k=n)/\∀i m:Nat,(j:Int)=i->n<10 ^ (m+i)->k<=10 ^ m:=fun hk=>⟨fun h=>absurd h e,fun i m e1 e2=>by
  cases Ga.mp e1
  exact Ag hk (hb m e2)⟩
 have ts:∃b,PE (cf c false) (.or (.cmp .Gt (.bin .Mult (.k (.int 2)) (.l 4)) (.l 2)) (.and (.cmp .Eq (.bin .Mult (.k (.int 2)) (.l 4)) (.l 2)) (.cmp .Eq (.bin .Mod (.l 3) (.k (.int 2))) (.k (.int 1))))) [some (.int n),some (.int j),some (.int (10 ^ j)),some (.int (n / 10 ^ j:Nat)),some (.int (Cb n (10 ^ j)))] [] (.bool b):=
  ⟨_,.orb (.gt (.mul .k (.l rfl) ⟨by decide,by decide⟩ rfl) (.l rfl)) (.andb (.ei (.mul .k (.l rfl) ⟨by decide,by decide⟩ rfl) (.l rfl)) (.ei (.fmod (.l rfl) .k (by decide) rfl) .k))⟩
 have go:∀{Q:QV} {X:EV} {H:MH},AV (cf c false) (Gm.body.drop 4) [some (.int n),some (.int j),some (.int (10 ^ j)),some (.int (n / 10 ^ j:Nat)),some (.int (Cb n (10 ^ j)))] [] (pN Q H) (pR Q H) (pX X H)->step c false 148 [.int n,.int j] H Q X:=fun q=>
  st (decide_eq_false e2) (fun h=>nomatch h) fun ø=>AN (.pow (.l rfl) ⟨AE j,hp⟩ rfl) (OA (.cons (.fdiv (.l rfl) (.l rfl) ⟨h0,hs⟩ hd) (.cons (.fmod (.l rfl) (.l rfl) h0 rfl) .nil)) q)
 refine Eb ts fun b tb=>?_
 induction b with
 |true=>exact Bn (n / 10 ^ j+1) (hz (Ay _)) (fun Q X q=>go (Yj tb (QU rfl .k (fun ø q=>q) (Ls (Ba (.l rfl) (aI rfl q))))))
 |false=>exact Bn (n / 10 ^ j) (hz (Nat.le_succ _)) (fun Q X q=>go (B4 tb (Ba (.l rfl) (aI rfl q))))
noncomputable def K3(g m c e:Int):Prop:=-g<=e/\∃k:Nat,0<k/\c.natAbs<10 ^ k/\e+k<=m
noncomputable def V.dec(c e:Int):V:=.tup [.int c,.int e]
noncomputable def Dv(g m:Int)(v:V):Prop:=∃a e,v=V.dec a e/\a.natAbs<10 ^ 4/\K3 g m a e
noncomputable def E9(m:Int)(s:Ao):Prop:=90<m/\C5 s
noncomputable def Mq(c:A7):Prop:=∀{a e g m:Int},a.natAbs<10 ^ 18->K3 g m a e->0<=g->0<=m->Pu c 155 [.int a,.int e,.int 4] (Dv g (m+1)) (E9 m)
theorem Qv(a:Int):(if a<0 then-a else a)=(a.natAbs:Int):=by split<;>lia
noncomputable abbrev X9(a e s:Int)(d:V):Fr:=[some (.int a),some (.int e),some (.int 4),some (.int s),some d,none]
theorem UN{g m e:Int}{s:Nat}(h:s % 10=0)(h2:0<s)(h4:K3 g m s e):K3 g m (s / 10:Nat) (e+1):=by
 refine Cd h4 fun h5 zz1=>C9 zz1 fun k h6 h7 h8=>?_
 have h7:s<10 ^ k:=h7
 rcases k with _ | _ | k
 ·exact absurd h6 (EH 0)
 ·exact absurd h7 (by lia)
 ·rw[Nat.pow_succ] at h7
  exact⟨MO (.neg za) (.add zb (.num 1)) [.l (.neg za) zb] As h5,k+1,BM k,HS (Nat.mul_comm ..▸h7),by lia⟩
theorem Lw:∀(f s:Nat) (e:Int),s<10 ^ f->0<s->s<=10 ^ 4->K3 g m s e->∃(s':Nat) (e':Int),(0<s'/\s'<10 ^ 4/\K3 g m s' e')/\∀{C:FP} {R:RT} {X:EV} {N:NV},N (X9 a e' s' d) []->
  DQ (fun fr H Q=>vE C (.cmp .Eq (.bin .Mod (.l 3) (.k (.int 10))) (.k (.int 0))) fr H Q X) (fun fr H N=>AV C [.asgTT [.v 3,.v 1] [.bin .FloorDiv (.l 3) (.k (.int 10)),.bin .Add (.l 1) (.k (.int 1))]] fr H N R X) f (X9 a e s d) [] N
 |0=>fun s e h h2 ø ø=>absurd h (Fv.mpr h2)
 |f+1=>fun s e h h2 h3 h4=>
  if e2:s % 10=0 then
   LH (Lw f (s / 10) (e+1) (HS (by rw[Nat.mul_comm,<-Nat.pow_succ];exact h)) (by lia) (by lia) (UN e2 h2 h4)) fun s' e' k1 k2=>RN s' e' k1 fun q=>
    aI (by decide) (vB.t (decide_eq_true ((Int.ofNat_fmod s 10).symm.trans (congrArg Int.ofNat e2))) (OA (.cons (.fdiv (.l rfl) .k ⟨by decide,by decide,by decide⟩ (Int.ofNat_fdiv s 10).symm) (.cons (.add (.l rfl) .k rfl) .nil)) (k2 q)))
  else RN s e ⟨h2,by lia,h4⟩ fun q=>aI (by decide) (vB.f (decide_eq_false fun e1=>e2 (Ga.mp ((Int.ofNat_fmod s 10).trans e1))) q)
theorem Zr{g m e:Int}{s k:Nat}(h:K3 g m s e)(h3:k=1\/10 ^ (k-1)<=s)(ex:99<e+k-1):91<m:=by
 obtain⟨h5,j,h6,h7,h8⟩:=h
 rcases h3 with rfl | h3
 ·exact bV (.num 91) za [.l (.add zb zc) za,.t (.num 99) (.sub (.add zb (.num 1)) (.num 1)),.t (.num 0) zc] As h8 ex (Bg.2 h6)
 ·have:=(NK (a:=10) (by decide)).mp (DJ h3 h7)
  lia
theorem XY:C5 ⟨#[79,86]⟩:=by decide+kernel
theorem Dv.ok(h:a.natAbs<10 ^ 4)(d:K3 g m a e):Dv g m (V.dec a e):=F1 a e rfl h d
theorem M5{c:A7}(NL:NT c){a e m g:Int}{s:Nat}{d:V}(hs:s<=10 ^ 4)(hd:K3 g (m+1) s e)(hg:0<=g)(hm:0<=m):Pz (pz c (Jh.body.drop 3) (X9 a e s d) []) (Dv g (m+1)) (E9 m):=by
 have z0:Dv g (m+1) (V.dec 0 0):=.ok (by decide) ⟨BV (.neg za) (.num 0) [.l (.num 0) za] As hg,1,by decide,by decide,BV (.add (.num 0) (.num 1)) (.add za (.num 1)) [.l (.num 0) za] As hm⟩
 by_cases e1:s=0
 ·refine Aj e1 ?_
  exact .ok z0 fun K Y z=>Ho (fun ø ø q=>q) (.tup (.cons .k (.cons .k .nil))) (aI rfl z)
 refine LH (Lw (a:=a) (d:=d) 400 s e (DJ hs (Nat.pow_lt_pow_right (by decide) (by decide))) (Nat.pos_of_ne_zero e1) hs hd) fun s' e' h run=>?_
 refine AO (NL (GL h.2.1 (show 10 ^ 4<10 ^ 18 by decide))) fun k hk fk=>?_
 refine .step (q:=pz c (Jh.body.drop 6) (AC (X9 a e' s' d) 5 (.int (e'+k-1))) []) (fun K Y z=>B4 (.eq (.ei (.l rfl) .k) (congrArg V.bool (decide_eq_false fun h=>e1 (Ga.mp h)))) (run (AN (.sub (.add (.l rfl) (.call (.cons (.l rfl) .nil) fk) rfl) .k rfl) z))) ?_
 by_cases ex:99<e'+k-1
 ·exact .er ⟨by have:=Zr h.2.2 hk.2.2.1 ex;exact DU (.num 90) za [.t (.num 91) (.add za (.num 1))] As this,XY⟩ fun K Y z=>Hp (.eq (.gt (.l rfl) .k) (congrArg V.bool (decide_eq_true ex))) rfl (.cons .k .nil) (A3 _) z
 refine .step (q:=pz c (Jh.body.drop 7) (AC (X9 a e' s' d) 5 (.int (e'+k-1))) []) (fun K Y z=>B4 (.eq (.gt (.l rfl) .k) (congrArg V.bool (decide_eq_false ex))) z) ?_
 have lt:∀{b H},decide (e'+k-1< -99)=b->PE (cf c false) (.cmp .Lt (.l 5) (.neg (.k (.int 99)))) (AC (X9 a e' s' d) 5 (.int (e'+k-1))) H (.bool b):=fun h=>.eq (.lt (.l rfl) (.neg .k rfl)) (congrArg V.bool h)
 by_cases en:e'+k-1< -99
 ·exact .ok z0 fun K Y z=>Ho (lt (decide_eq_true en)) (.tup (.cons .k (.cons .k .nil))) (aI rfl z)
 have ta:∀{b H},decide (a<0)=b->PE (cf c false) (.cmp .Lt (.l 0) (.k (.int 0))) (AC (X9 a e' s' d) 5 (.int (e'+k-1))) H (.bool b):=fun h=>.eq (.lt (.l rfl) .k) (congrArg V.bool h)
 by_cases ha:a<0
 ·exact .ok (v:=V.dec (-s') e') (.ok (Ld (DU (.neg (.num 10000)) (.neg za) [.t za (.num 10000)] As (Bg.2 h.2.1)) (DU (.neg za) (.num 10000) [.t (.num 0) za] As (Bg.2 h.1))) (by obtain⟨h5,k,h6,h7,h8⟩:=h.2.2;exact⟨h5,k,h6,by lia,h8⟩)) fun K Y z=>B4 (lt (decide_eq_false en)) (Ba (.tup (.cons (.ift (ta (decide_eq_true ha)) (.neg (.l rfl) rfl)) (.cons (.l rfl) .nil))) (aI rfl z))
 ·exact .ok (v:=V.dec s' e') (.ok (Ld (DU (.neg (.num 10000)) za [.t (.num 0) za] As (Bg.2 h.1)) (DU za (.num 10000) [.t za (.num 10000)] As (Bg.2 h.2.1))) h.2.2) fun K Y z=>B4 (lt (decide_eq_false en)) (Ba (.tup (.cons (.iff (ta (decide_eq_false ha)) (.l rfl)) (.cons (.l rfl) .nil))) (aI rfl z))
theorem Wy{c:A7}(NL:NT c)(bF:VD c):Mq (step c):=fun {a e g m} ha hd hg hm=>.fn rfl rfl rfl rfl (by
 refine FN fun g0 k0=>?_
 obtain⟨h5,k,h6,h7,h8⟩:=hd
 refine AO (NL ha) fun k' hk fk=>?_
 refine k0 ?_
 have hkk:k'<=k:=by
  rcases hk.2.2.1 with h3 | h3
  ·exact CY xa xb [.e xa (.num 1),.t (.num 0) xb] As h3 h6
  ·exact JY fun h=>EH _ (Da h7 (Ag (BH (by decide) (Fc xa xb [.t xa xc,.l xc (Lp xb (.num 1))] As h (OB _ _))) h3))
 have st:∀{K Y},AV (cf c false) (Jh.body.drop 2) (X9 a e a.natAbs (.int (k'-4))) [] (zN K) (zR K) (zX Y)->pz c Jh.body (Fh 6 ([.int a,.int e,.int 4]++[])) [] K Y:=fun z=>AN (.abs (.l rfl) (Qv a)) (AN (.sub (.call (.cons (.l rfl) .nil) fk) (.l rfl) rfl) z)
 by_cases e1:(0:Int)<k'-4
 ·refine AO (bF ha (show(k':Int)-4<=18 from BV (.sub za (.num 4)) (.num 18) [.l za (.num 18)] As (Am.2 hk.1))) fun s hs fs=>?_
  have h9:s<=10 ^ 4:=hs.2 (k'-4) 4 (B0 (MO (.sub za (.num 4)) zb [.l za (.add zb (.num 4))] As (Am.2 (OB _ _))) (MO za (.sub zb (.num 4)) [.e (.add za (.num 4)) zb] As (qA (Am.1 (BV (.num 4) za [.t (.num 0) (.sub za (.num 4))] As e1))))) (Aj (show 4+(k'-4)=k' by lia) hk.2.1)
  exact .step (fun K Y z=>st (Yj (.eq (.gt (.l rfl) .k) (congrArg V.bool (decide_eq_true e1))) (OA (.cons (.call (.cons (.l rfl) (.cons (.l rfl) .nil)) fs) (.cons (.add (.l rfl) (.l rfl) rfl) .nil)) z))) (M5 (s:=s) (e:=e+(k'-4)) (d:=.int (k'-4)) NL h9 ⟨Vz (.neg za) (.add zb (.sub zc (.num 4))) [.l (.neg za) zb,.t (.num 0) (.sub zc (.num 4))] As h5 e1,5,by decide,DJ h9 (by decide),jO (.add (.add za (.sub zb (.num 4))) (.num 5)) (.add zc (.num 1)) [.l (.add za zd) zc,.l zb zd] As h8 (Am.2 hkk)⟩ hg hm)
 ·exact .step (fun K Y z=>st (B4 (.eq (.gt (.l rfl) .k) (congrArg V.bool (decide_eq_false e1))) z)) (M5 (s:=a.natAbs) NL (CB (Da hk.2.1 (BH (by decide) (Am.1 (BV za (.num 4) [.u (.num 0) (.sub za (.num 4))] As e1))))) ⟨h5,k,h6,h7,Vz (.add za zb) (.add zc (.num 1)) [.l (.add za zb) zc] As h8⟩ hg hm))
noncomputable def SL(c:A7):Prop:=∀{a e g m:Int},a.natAbs<10 ^ 4->K3 g m a e->g<=18->m<=19->∃i:Int,(e=0->i=a)/\∀{H:MH},PV c false 162 [V.dec a e] H (.int i)
theorem W3(bF:VD c):SL (step c):=fun {a e g m} ha hd hg hm=>by
 obtain⟨h5,k,h6,h7,h8⟩:=hd
 by_cases h:0<=e
 ·exact Bn (a*10 ^ e.toNat) (fun h=>by subst h;exact Int.mul_one a) (fun Q X q=>IL rfl rfl rfl rfl (N4 (.l rfl) (Ho (.eq (.ge (.l rfl) .k) (congrArg V.bool (decide_eq_true h))) (.mul (.l rfl) (.pow (.l rfl) ⟨h,Vz za (.num 18) [.l (.add za zb) zc,.t (.num 0) zb,.l zc (.num 19)] As h8 (Bg.2 h6) hm⟩ rfl) ⟨by lia,by lia⟩ rfl) (aI rfl q))))
 refine AO (bF (p:=-e) (GL ha (by decide)) (MO (.neg za) (.num 18) [.l (.neg zb) za,.l zb (.num 18)] As h5 hg)) fun s ø fs=>?_
 have run:∀{Q:QV} {X:EV} {H:MH} {i:Int},PE (cf c false) (.ite (.cmp .Lt (.l 1) (.k (.int 0))) (.neg (.l 3)) (.l 3)) [some (V.dec a e),some (.int a),some (.int e),some (.int s)] [] (.int i)->Q (.int i) H->step c false 162 [V.dec a e] H Q X:=fun t q=>
  IL rfl rfl rfl rfl (N4 (.l rfl) (B4 (.eq (.ge (.l rfl) .k) (congrArg V.bool (decide_eq_false h))) (AN (.call (.cons (.abs (.l rfl) (Qv a)) (.cons (.neg (.l rfl) rfl) .nil)) fs) (Ba t (aI rfl q)))))
 by_cases h0:a<0
 ·exact⟨_,fun h'=>absurd (h'▸Int.le_refl 0) h,fun Q X q=>run (.ift (.eq (.lt (.l rfl) .k) (congrArg V.bool (decide_eq_true h0))) (.neg (.l rfl) rfl)) q⟩
 ·exact⟨_,fun h'=>absurd (h'▸Int.le_refl 0) h,fun Q X q=>run (.iff (.eq (.lt (.l rfl) .k) (congrArg V.bool (decide_eq_false h0))) (.l rfl)) q⟩
noncomputable def Mp(c:A7):Prop:=∀{n:Int} {b:Bool},decide (-32768<=n/\n<32768)=b->∀{H:MH},PV c false 169 [.int n,.int 16] H (.bool b)
theorem QA:Mp (step c):=fun {n b} h Q X H q=>
 have sh:∀{fr:Fr},fr[1]?=some (some (.int 16))->PE (cf c false) (.bin .LShift (.k (.int 1)) (.bin .Sub (.l 1) (.k (.int 1)))) fr [] (.int 32768):=fun h1 ø ø q=>(PE.sub (.l h1) .k rfl) _ _ (aI ⟨rfl,by decide,by decide⟩ q)
 IL rfl rfl rfl rfl (Ba (.eq (.btl (.neg (sh rfl) rfl) (.l rfl) (sh rfl)) (congrArg V.bool h)) (aI rfl q))
inductive Bl (g m:Int):V->Prop
 |str (s:Ao) (h:s.length<=255) (o:C5 s):Bl g m (.str s)
 |int (i:Int) (k:Nat) (h:i.natAbs<10 ^ k) (h0:0<k) (hm:k<=m) (h16:k<=16):Bl g m (.int i)
 |dec (a e:Int) (h:a.natAbs<10 ^ 4) (d:K3 g m a e):Bl g m (V.dec a e)
theorem PT(h:n<10 ^ a)(e:a<=b):n<10 ^ b:=Da h (BH (by decide) e)
theorem Bl.nr(h:Bl g m v):V.nr v=true:=by induction h using Bl.casesOn<;>rfl
theorem Bl.nrs(h:Bl g m v)(e:V.nrs r=true):V.nrs (v::r)=true:=bZ ⟨h.nr,e⟩
theorem Bl.fz(h:Bl g m v)(H:MH):Br H v=v/\V.nr v=true:=⟨by induction h using Bl.casesOn<;>rfl,h.nr⟩
theorem Bl.fz'(v:V)(h:Bl g m v)(H:MH):Br H v=v/\V.nr v=true:=h.fz H
theorem Dv.fz(v:V)(h:Dv g m v)(H:MH):Br H v=v/\V.nr v=true:=LH h fun a e h ø=>h▸⟨rfl,rfl⟩
theorem Dv.val(h:Dv g m v):Bl g m v:=EM h fun a e h h1 h2=>h▸.dec a e h1 h2
noncomputable def V8(v u:V):Prop:=∃i:Int,u=.int i/\(-32768<=i/\i<32768)/\(∀j,v=.int j->i=j)/\∀a,v=V.dec a 0->i=a
theorem JC:C5 ⟨#[84,77]⟩:=by decide+kernel
theorem eD:C5 ⟨#[76,83]⟩:=by decide+kernel
noncomputable def Pb(c:A7):Prop:=∀{g m:Int} {v:V},Bl g m v->g<=18->m<=19->Pu c 176 [v,.int 16] (V8 v) C5
theorem Vg(Il:Mp c)(hj:∀j,v=.int j->n=j)(ha:∀a,v=V.dec a 0->n=a):Pz (pz c (KT.body.drop 2) [some v,some (.int 16),some (.int n)] []) (V8 v) C5:=
 if h:-32768<=n/\n<32768 then .ok (v:=.int n) ⟨n,rfl,h,hj,ha⟩ fun K Y z=>B4 (.not (b:=true) (.call (.cons (.l rfl) (.cons (.l rfl) .nil)) (Il (decide_eq_true h)))) (Ba (.l rfl) (aI rfl z))
 else .er XY fun K Y z=>Hp (.not (b:=false) (.call (.cons (.l rfl) (.cons (.l rfl) .nil)) (Il (decide_eq_false h)))) rfl (.cons .k .nil) (A3 _) z
theorem Vi(Zw:SL c)(Il:Mp c):Pb (step c):=fun {g m v} hv hg hm=>.fn rfl rfl rfl (hv.nrs rfl) (by
 induction hv using Bl.casesOn with
 |str s h=>exact .er JC fun K Y z=>Hp (.isi (.l rfl) rfl rfl) rfl (.cons .k .nil) (A3 _) z
 |int i=>exact .step (fun K Y z=>B4 (.isi (.l rfl) rfl rfl) (AN (.iff (.isi (.l rfl) rfl rfl) (.l rfl)) z)) (Vg Il (fun j h=>by cases h;rfl) fun a h=>nomatch h)
 |dec a e h d=>exact AO (Zw h d hg hm) fun i hi ni=>.step (fun K Y z=>B4 (.isi (.l rfl) rfl rfl) (AN (.ift (.isi (.l rfl) rfl rfl) (.call (.cons (.l rfl) .nil) ni)) z)) (Vg Il (fun j h=>nomatch h) fun a h=>by clear ni d;cases h;exact hi rfl))
noncomputable def Rv(c:A7):Prop:=∀{g m:Int} {v:V},Bl g m v->0<=g->1<=m->Pu c 183 [v,.int 4] (Dv g (m+1)) C5
theorem YF(made:Mq c):Rv (step c):=fun {g m v} hv hg hm=>.fn rfl rfl rfl (hv.nrs rfl) (by
 have h9:∀s,E9 m s->C5 s:=fun s h=>h.2
 induction hv using Bl.casesOn with
 |str s h=>exact .er JC fun K Y z=>Hp (.isi (.l rfl) rfl rfl) rfl (.cons .k .nil) (A3 _) z
 |int i k h h0 hk h16=>exact .tail ((made (PT h (GK xa (.num 18) [.l xa (.num 16)] As h16)) ⟨BV (.neg za) (.num 0) [.l (.num 0) za] As hg,k,h0,h,MO (.add (.num 0) za) zb [.l za zb] As hk⟩ hg (BV (.num 0) za [.l (.num 1) za] As hm)).mono (fun ø h=>h) h9) Dv.fz fun K Y z=>B4 (.isi (.l rfl) rfl rfl) (E6 (.iff (.isi (.l rfl) rfl rfl) (.call (.cons (.l rfl) (.cons .k (.cons (.l rfl) .nil))))) z)
 |dec a e h d=>exact .tail ((made (GL h (by decide)) d hg (BV (.num 0) za [.l (.num 1) za] As hm)).mono (fun ø h=>h) h9) Dv.fz fun K Y z=>B4 (.isi (.l rfl) rfl rfl) (E6 (.ift (.isi (.l rfl) rfl rfl) (.call (.cons (.ix (.l rfl) rfl) (.cons (.ix (.l rfl) rfl) (.cons (.l rfl) .nil))))) z))
noncomputable def SN(c:A7):Prop:=∀{g m:Int} {v:V},Bl g m v->Pu c 190 [v] (fun u=>∃s:Ao,u=.str s/\v=.str s/\s.length<=255) C5
theorem WS:SN (step c):=fun {g m v} hv=>.fn rfl rfl rfl (hv.nrs rfl) (by
 induction hv using Bl.casesOn with
 |str s h=>exact .ok (v:=.str s) ⟨s,rfl,rfl,h⟩ fun K Y z=>B4 (.not (b:=true) (.isi (.l rfl) rfl rfl)) (Ba (.l rfl) (aI rfl z))
 |int | dec=>exact .er JC fun K Y z=>Hp (.not (b:=false) (.isi (.l rfl) rfl rfl)) rfl (.cons .k .nil) (A3 _) z)
noncomputable def VA(c:A7):Prop:=∀{s:Ao},s.length<=Ap->Pu c 197 [.str s] (fun u=>u=.str s/\s.length<=255) C5
theorem Y5:VA (step c):=fun {s} h=>.fn rfl rfl rfl rfl (
 have t:∀{b},decide ((255:Int)<s.length)=b->PE (cf c false) (.cmp .Gt (.call (.k (.bi .len)) [.l 0]) (.k (.int 255))) (Fh 1 [.str s]) [] (.bool b):=fun e=>.eq (.gt (.lenS (.l rfl) h) .k) (congrArg V.bool e)
 if e:(255:Int)<s.length then .er eD fun K Y z=>Hp (t (decide_eq_true e)) rfl (.cons .k .nil) (A3 _) z
 else .ok (v:=.str s) ⟨rfl,Am.mp (Bu.mp e)⟩ fun K Y z=>B4 (t (decide_eq_false e)) (Ba (.l rfl) (aI rfl z)))
set_option genCtorIdx true in
inductive IT where
 |text | whole | dec
noncomputable abbrev F5:Ao:=⟨#[116,101,120,116]⟩
noncomputable abbrev Jq:Ao:=⟨#[119,104,111,108,101]⟩
noncomputable abbrev Hn:Ao:=⟨#[100,101,99,105,109,97,108]⟩
noncomputable def IT.str:IT->Ao
 |.text=>F5
 |.whole=>Jq
 |.dec=>Hn
noncomputable def IT.ok(k:IT)(g m:Int)(v w:V):Prop:=match k with
 |.text=>w=v/\∃s:Ao,v=.str s/\s.length<=255
 |.whole=>V8 v w
 |.dec=>Dv g (m+1) w
noncomputable def Xn(c:A7):Prop:=∀(k:IT) {g m:Int} {v:V},Bl g m v->(0<=g/\g<=18)->(1<=m/\m<=19)->Pu c 204 [v,.str k.str,.int 16,.int 4] (k.ok g m v) C5
theorem WO(whole:Pb c)(dec:Rv c)(text:SN c)(chk:VA c):Xn (step c):=fun k g m v hv hg hm=>.fn rfl rfl rfl (hv.nrs rfl) (by
 induction k with
 |text=>
  refine .call (F:=fun u H K Y=>c false 197 [u] H (fun v H=>zR K v [] H) (fun s ø=>Y s)) (text hv) (fun ø h=>h) (fun K Y z=>Yj (fun ø ø q=>q) (fZ (.call (.cons (.l rfl) .nil)) z)) fun u hu=>C9 hu fun s e ev hs=>?_
  clear hu hv;subst e ev
  exact .tail ((chk (Ag hs (by decide))).mono (fun u h=>⟨h.1,s,rfl,h.2⟩) fun ø h=>h) (fun v h H=>h.1▸⟨rfl,rfl⟩) fun K Y z=>z
 |whole=>exact .tail (whole hv hg.2 hm.2) (fun v h H=>Eb h fun i h=>h.1▸⟨rfl,rfl⟩) fun K Y z=>B4 (fun ø ø q=>q) (E6 (.ift (fun ø ø q=>q) (.call (.cons (.l rfl) (.cons (.l rfl) .nil)))) z)
 |dec=>exact .tail (dec hv hg.1 hm.1) Dv.fz fun K Y z=>B4 (fun ø ø q=>q) (E6 (.iff (fun ø ø q=>q) (.call (.cons (.l rfl) (.cons (.l rfl) .nil)))) z))
theorem K3.mono(h:K3 g m a e)(hg:g<=g')(hm:m<=m'):K3 g' m' a e:=Cd h fun h1 zz=>C9 zz fun k h2 h3 h4=>⟨Vz (.neg za) zb [.l (.neg zc) zb,.l zc za] As h1 hg,k,h2,h3,jO (.add za zb) zc [.l zd zc,.l (.add za zb) zd] As hm h4⟩
theorem Dv.mono(h:Dv g m v)(hg:g<=g')(hm:m<=m'):Dv g' m' v:=EM h fun a e h h1 h2=>F1 a e h h1 (h2.mono hg hm)
theorem Zy:PV (step c) false 392 [V.dec a e] H (V.dec (0-a) e):=fun Q X q=>IL rfl rfl rfl rfl (Ba (.tup (.cons (.sub .k (.ix (.l rfl) rfl) rfl) (.cons (.ix (.l rfl) rfl) .nil))) (aI rfl q))
noncomputable def SI(c:A7):Prop:=∀{a e b f g m:Int},a.natAbs<10 ^ 4->b.natAbs<10 ^ 4->K3 g m a e->K3 g m b f->g+m<=13->∃x y l:Int,(x.natAbs<10 ^ 17/\y.natAbs<10 ^ 17/\K3 g m x l/\K3 g m y l)/\∀{H:MH},PV c false 399 [V.dec a e,V.dec b f] H (.tup [.int x,.int y,.int l])
theorem Rf(ha:a.natAbs<10 ^ 4)(hd:K3 g m a e)(hl:-g<=l)(hle:l<=e)(hgm:g+m<=13):(a*10 ^ (e-l).toNat).natAbs<10 ^ 17/\K3 g m (a*10 ^ (e-l).toNat) l:=by
 refine Cd hd fun h5 zz1=>C9 zz1 fun k h6 h7 h8=>?_
 obtain⟨j,hj⟩:=Cf (Int.sub_nonneg.mpr hle)
 have hm:(a*10 ^ (e-l).toNat).natAbs=a.natAbs*10 ^ j:=by rw[hj,Int.natAbs_mul,QN];rfl
 have lt:∀i,a.natAbs<10 ^ i->a.natAbs*10 ^ j<10 ^ (i+j):=fun i h=>by rw[HT];exact Nat.mul_lt_mul_of_pos_right h (Nat.pow_pos (by decide))
 rw[K3,hm]
 exact⟨PT (lt 4 ha) (by lia),hl,k+j,OX (.num 0) (Lp xa xb) [.t (.num 0) xa] As h6,lt k h7,by lia⟩
theorem UJ(h:a.natAbs<b)(hb:b<=2 ^ 62):IF a:=by
 have h:a.natAbs<2 ^ 62:=Da h hb
 exact⟨by lia,by lia⟩
theorem lK(h:a.natAbs<10 ^ 4):IF a:=UJ h (by decide)
theorem SO:SI (step c):=fun {a e b f g m} ha hb da db hgm=>by
 have h:∃l:Int,(if f<e then f else e)=l/\-g<=l/\l<=e/\l<=f/\e-l<=18/\f-l<=18:=by
  refine FN fun g0 k0=>?_
  obtain⟨h1,k1,h2,_,h3⟩:=da
  obtain⟨i1,j1,i2,_,i3⟩:=db
  refine k0 ?_
  split
  ·exact Bn f rfl (by lia)
  ·exact Bn e rfl (by lia)
 refine mZ h fun l hl h1 h2 h3 h4 h5=>?_
 refine⟨_,_,l,⟨(Rf ha da h1 h2 hgm).1,(Rf hb db h1 h3 hgm).1,(Rf ha da h1 h2 hgm).2,(Rf hb db h1 h3 hgm).2⟩,fun Q X q=>IL rfl rfl rfl rfl (AN (v:=.int l) (.eq (fun ø ø q=>aI (by decide) (aI (by decide) (aI rfl q))) (congrArg V.int hl))
  (Ba (.tup (.cons (.mul (.ix (.l rfl) rfl) (.pow (.sub (.ix (.l rfl) rfl) (.l rfl) rfl) ⟨HO h2,h4⟩ rfl) (lK ha) rfl) (.cons (.mul (.ix (.l rfl) rfl) (.pow (.sub (.ix (.l rfl) rfl) (.l rfl) rfl) ⟨HO h3,h5⟩ rfl) (lK hb) rfl) (.cons (.l rfl) .nil)))) (aI rfl q)))⟩
noncomputable def IY(f:Ai)(c:A7):Prop:=∀{a e b e' g m:Int},a.natAbs<10 ^ 4->b.natAbs<10 ^ 4->K3 g m a e->K3 g m b e'->0<=g->1<=m->g+m<=13->Pu c f [V.dec a e,V.dec b e',.int 4] (Dv (2*g) (2*m+1)) C5
theorem kC(s:Ao)(h:E9 m s):C5 s:=h.2
theorem UO(hx:x<10 ^ M)(hy:y<10 ^ M)(h:r<=x+y):r<10 ^ (M+1):=by rw[Nat.pow_succ];exact Xj xa (.mulR xb 10) [.l xa (Lp xc xd),.t xc xb,.t xd xb] As h hx hy
theorem VF(alike:SI c)(made:Mq c):IY 406 (step c):=fun {a e b e' g m} ha hb da db hg hm hgm=>.fn rfl rfl rfl rfl (VT (alike ha hb da db hgm) fun p r l h al=>by
 refine FN fun g0 k0=>?_
 refine Xz h fun h1 h2 zz1 i5 zz2=>C9 zz2 fun j i6 i7 i8=>Cd zz1 fun h5 zz3=>C9 zz3 fun k h6 h7 h8=>?_
 refine k0 ?_
 have hM:l+(max k j:Nat)<=m:=(Nat.le_total k j).elim (fun h=>Aj (Nat.max_eq_right h) i8) fun h=>Aj (Nat.max_eq_left h) h8
 exact .tail ((made (a:=p+r) (e:=l) (g:=g) (m:=m+1) (Da (UO h1 h2 (Jz p r)) (BH (by decide) (by decide))) ⟨h5,max k j+1,BM _,UO (PT h7 (Nat.le_max_left k j)) (PT i7 (Nat.le_max_right k j)) (Jz p r),by rw[Int.natCast_add,<-Int.add_assoc];exact Int.add_le_add_right hM 1⟩ hg (BV (.num 0) (.add za (.num 1)) [.l (.num 1) za] As hm)).mono (fun v h=>h.mono (BV za (.mulL 2 za) [.l (.num 0) za] As hg) (BV (.add (.add za (.num 1)) (.num 1)) (.add (.mulL 2 za) (.num 1)) [.l (.num 1) za] As hm)) kC) Dv.fz fun K Y z=>O9 (.call (.cons (.l rfl) (.cons (.l rfl) .nil)) al) (E6 (.call (.cons (.add (.l rfl) (.l rfl) rfl) (.cons (.l rfl) (.cons (.l rfl) .nil)))) z))
theorem ZW(neg:∀{a e:Int} {H:MH},PV c false 392 [V.dec a e] H (V.dec (0-a) e))(add:IY 406 c):IY 413 (step c):=fun {a e b e' g m} ha hb da db hg hm hgm=>.fn rfl rfl rfl rfl (
 have nb:(0-b).natAbs=b.natAbs:=by rw[Int.zero_sub];exact Int.natAbs_neg b
 .tail (add ha (nb▸hb) da (Cd db fun h5 h=>C9 h fun k h6 h7 h8=>⟨h5,k,h6,nb▸h7,h8⟩) hg hm hgm) Dv.fz fun K Y z=>E6 (.call (.cons (.l rfl) (.cons (.call (.cons (.l rfl) .nil) neg) (.cons (.l rfl) .nil)))) z)
theorem PL{a b:Int}{i j:Nat}(ha:a.natAbs<10 ^ i)(hb:b.natAbs<10 ^ j):(a*b).natAbs<10 ^ (i+j):=by
 rw[Int.natAbs_mul,HT];exact Nat.mul_lt_mul'' ha hb
theorem Zt{c:A7}(made:Mq c):IY 420 (step c):=fun {a e b e' g m} ha hb da db hg hm hgm=>.fn rfl rfl rfl rfl (by
 refine FN fun g0 k0=>?_
 refine Cd da fun h5 zz1=>C9 zz1 fun k h6 h7 h8=>?_
 refine Cd db fun i5 zz1=>C9 zz1 fun j i6 i7 i8=>?_
 refine k0 ?_
 exact .tail ((made (a:=a*b) (e:=e+e') (g:=2*g) (m:=2*m) (PT (PL ha hb) (by decide)) ⟨Vz (.neg (.mulL 2 za)) (.add zb zc) [.l (.neg za) zb,.l (.neg za) zc] As h5 i5,k+j,Nat.add_pos_left h6 j,PL h7 i7,by lia⟩ (BV (.num 0) (.mulL 2 za) [.l (.num 0) za,.l (.num 0) za] As hg hg) (BV (.num 0) (.mulL 2 za) [.l (.num 1) za,.l (.num 1) za] As hm hm)).mono (fun v h=>h) kC) Dv.fz fun K Y z=>E6 (.call (.cons (.mul (.ix (.l rfl) rfl) (.ix (.l rfl) rfl) (lK ha) rfl) (.cons (.add (.ix (.l rfl) rfl) (.ix (.l rfl) rfl) rfl) (.cons (.l rfl) .nil)))) z)
set_option genCtorIdx true in
inductive O3 where
 |add | sub | mul
noncomputable def O3.str:O3->Ao
 |.add=>⟨#[43]⟩
 |.sub=>⟨#[45]⟩
 |.mul=>⟨#[42]⟩
noncomputable def V.isI:V->Bool
 |.int _=>true
 |_=>false
noncomputable def Xl(c:A7):Prop:=∀{g m:Int} {v:V},Bl g m v->Pu c 490 [v] (fun u=>u=.bool v.isI) C5
theorem Ws:Xl (step c):=fun {g m v} hv=>.fn rfl rfl rfl (hv.nrs rfl) (by
 induction hv using Bl.casesOn with
 |str s h=>exact .er JC fun K Y z=>Hp (.isi (.l rfl) rfl rfl) rfl (.cons .k .nil) (A3 _) z
 |int i k h h0 hk h16=>exact .ok rfl fun K Y z=>B4 (.isi (.l rfl) rfl rfl) (Ba (.not (b:=false) (.isi (.l rfl) rfl rfl)) (aI rfl z))
 |dec a e h d=>exact .ok rfl fun K Y z=>B4 (.isi (.l rfl) rfl rfl) (Ba (.not (b:=true) (.isi (.l rfl) rfl rfl)) (aI rfl z)))
noncomputable def bT(c:A7):Prop:=∀{g m i:Int} {k:Nat},i.natAbs<10 ^ k->0<k->k<=16->k<=m->0<=g->Pu c 497 [.int i,.int 16,.int 4] (Bl g (m+1)) C5
theorem ZR(Il:Mp c)(made:Mq c):bT (step c):=fun {g m i k} h h0 h16 hk hg=>.fn rfl rfl rfl rfl (
 if hf:-32768<=i/\i<32768 then .ok (.int i k h h0 (MO za (.add zb (.num 1)) [.l za zb] As hk) h16) fun K Y z=>Ba (.ift (.call (.cons (.l rfl) (.cons (.l rfl) .nil)) (Il (decide_eq_true hf))) (.l rfl)) (aI rfl z)
 else .tail ((made (PT h (GK xa (.num 18) [.l xa (.num 16)] As h16)) ⟨BV (.neg za) (.num 0) [.l (.num 0) za] As hg,k,h0,h,MO (.add (.num 0) za) zb [.l za zb] As hk⟩ hg (MO (.num 0) za [.l zb za,.t (.num 0) zb] As hk (Bg.2 h0))).mono (fun v h=>h.val) kC) Bl.fz' fun K Y z=>E6 (.iff (.call (.cons (.l rfl) (.cons (.l rfl) .nil)) (Il (decide_eq_false hf))) (.call (.cons (.l rfl) (.cons .k (.cons (.l rfl) .nil))))) z)
noncomputable def jM(c:A7):Prop:=∀(o:O3) {g m i j:Int} {k l:Nat},i.natAbs<10 ^ k->0<k->k<=8->k<=m->j.natAbs<10 ^ l->0<l->l<=8->l<=m->0<=g->Pu c 504 [.str o.str,.int i,.int j,.int 16,.int 4] (Bl g (2*m+1)) C5
theorem UV(hx:x<10 ^ k)(hy:y<10 ^ l)(hk:0<k)(hl:0<l)(hr:r<=x+y):r<10 ^ (k+l):=by
 have h1:10 ^ k*2<=10 ^ (k+l):=by rw[HT];exact Nat.mul_le_mul_left _ (Ag (by decide) (BH (n:=10) (by decide) hl))
 have h2:10 ^ l*2<=10 ^ (k+l):=by rw[Nat.add_comm,HT];exact Nat.mul_le_mul_left _ (Ag (by decide) (BH (n:=10) (by decide) hk))
 lia
theorem iB(set:bT c):jM (step c):=fun o g m i j k l hi hk hk8 hkm hj hl hl8 hlm hg=>.fn rfl rfl rfl (by induction o<;>rfl) (by
 have st:∀{r:Int},r.natAbs<10 ^ (k+l)->Pu c 497 [.int r,.int 16,.int 4] (Bl g (2*m+1)) C5:=fun h=>set h (Nat.add_pos_left hk l) (Ee hk8 hl8) (Vz (.add za zb) (.mulL 2 zc) [.l za zc,.l zb zc] As hkm hlm) hg
 induction o with
 |add=>exact .tail (st (UV hi hj hk hl (Jz i j))) Bl.fz' fun K Y z=>N5 (fun ø ø q=>q) (.call (.cons (.add (.l rfl) (.l rfl) rfl) (.cons (.l rfl) (.cons (.l rfl) .nil)))) z
 |sub=>exact .tail (st (UV hi hj hk hl (Int.natAbs_sub_le i j))) Bl.fz' fun K Y z=>B4 (fun ø ø q=>q) (E6 (.call (.cons (.ift (fun ø ø q=>q) (.sub (.l rfl) (.l rfl) rfl)) (.cons (.l rfl) (.cons (.l rfl) .nil)))) z)
 |mul=>
  have:=PT hi hk8
  exact .tail (st (PL hi hj)) Bl.fz' fun K Y z=>B4 (fun ø ø q=>q) (E6 (.call (.cons (.iff (fun ø ø q=>q) (.mul (.l rfl) (.l rfl) (UJ this (by decide)) rfl)) (.cons (.l rfl) (.cons (.l rfl) .nil)))) z))
theorem Bl.mono(h:Bl g m v)(hg:g<=g')(hm:m<=m'):Bl g' m' v:=by
 induction h using Bl.casesOn with
 |str s h o=>exact .str s h o
 |int i k h h0 hk h16=>exact .int i k h h0 (Vz za zb [.l zc zb,.l za zc] As hm hk) h16
 |dec a e h d=>exact .dec a e h (d.mono hg hm)
noncomputable abbrev bE(o:O3)(v w:V)(b b':Bool):Fr:=[some (.str o.str),some v,some w,some (.int 16),some (.int 4),some (.bool b),some (.bool b'),none,none,none]
noncomputable def jJ(c:A7):Prop:=∀(o:O3) {g m:Int} {v w:V},Bl g m v->Bl g m w->0<=g->2<=m->m<=8->g+m<=12->Pu c 546 [.str o.str,v,w,.int 16,.int 4] (Bl (2*g) (2*m+3)) C5
theorem WJ(dec:Rv c)(add:IY 406 c)(sub:IY 413 c)(mul:IY 420 c)(hv:Bl g m v)(hw:Bl g m w)(hg:0<=g)(hm:2<=m)(hgm:g+m<=12):
  Pz (pz c (DC.body.drop 4) (bE o v w b b') []) (Bl (2*g) (2*m+3)) C5:=
 .call (F:=fun x H K Y=>vE (cf c false) (.call (.k (.fn 183)) [.l 2,.l 4]) (bE o v w b b') H (fun y H=>AV (cf c false) (DC.body.drop 5) (AC (AC (bE o v w b b') 8 x) 9 y) H (zN K) (zR K) (zX Y)) (zX Y)) (dec hv hg (BV (.num 1) za [.l (.num 2) za] As hm)) (fun ø h=>h) (fun K Y z=>O7 (.call (.cons (.l rfl) (.cons (.l rfl) .nil))) z) fun x hx=>
 .call (F:=fun y H=>pz c (DC.body.drop 5) (AC (AC (bE o v w b b') 8 x) 9 y) H) (dec hw hg (BV (.num 1) za [.l (.num 2) za] As hm)) (fun ø h=>h) (fun K Y z=>(PK.call (.cons (.l rfl) (.cons (.l rfl) .nil))) _ _ z) fun y hy=>by
  have k:∀u,Dv (2*g) (2*(m+1)+1) u->Bl (2*g) (2*m+3) u:=fun u h=>(h.mono (Int.le_refl _) (BV (.add (.mulL 2 (.add za (.num 1))) (.num 1)) (.add (.mulL 2 za) (.num 3)) [] As)).val
  refine EM hx fun a e e1 a1 a2=>EM hy fun a' e' e2 b1 b2=>?_
  refine Aj e1 (Aj e2 ?_)
  have hm1:1<=m+1:=BV (.num 1) (.add za (.num 1)) [.l (.num 2) za] As hm
  have hg1:g+(m+1)<=13:=MO (.add za (.add zb (.num 1))) (.num 13) [.l (.add za zb) (.num 12)] As hgm
  induction o with
  |add=>exact .tail ((add a1 b1 a2 b2 hg hm1 hg1).mono k fun ø h=>h) Bl.fz' fun K Y z=>N5 (fun ø ø q=>q) (.call (.cons (.l rfl) (.cons (.l rfl) (.cons (.l rfl) .nil)))) z
  |sub=>exact .tail ((sub a1 b1 a2 b2 hg hm1 hg1).mono k fun ø h=>h) Bl.fz' fun K Y z=>B4 (fun ø ø q=>q) (N5 (fun ø ø q=>q) (.call (.cons (.l rfl) (.cons (.l rfl) (.cons (.l rfl) .nil)))) z)
  |mul=>exact .tail ((mul a1 b1 a2 b2 hg hm1 hg1).mono k fun ø h=>h) Bl.fz' fun K Y z=>B4 (fun ø ø q=>q) (B4 (fun ø ø q=>q) (E6 (.ift (fun ø ø q=>q) (.call (.cons (.l rfl) (.cons (.l rfl) (.cons (.l rfl) .nil))))) z))
theorem O3.ne(o:O3)(h:s∈[(⟨#[94]⟩:Ao),⟨#[92]⟩,⟨#[77,79,68]⟩,⟨#[47]⟩]):o.str≠s:=by
 have d:∀o,o∈[(⟨#[43]⟩:Ao),⟨#[45]⟩,⟨#[42]⟩]->∀s,s∈[(⟨#[94]⟩:Ao),⟨#[92]⟩,⟨#[77,79,68]⟩,⟨#[47]⟩]->o≠s:=by decide
 exact d _ (by induction o<;>decide) _ h
theorem fR(iswh:Xl c)(wr:jM c)(dec:Rv c)(add:IY 406 c)(sub:IY 413 c)(mul:IY 420 c):jJ (step c):=fun o g m v w hv hw hg hm hm8 hgm=>.fn rfl rfl rfl (by induction hv using Bl.casesOn<;>induction hw using Bl.casesOn<;>rfl) (
 .call (F:=fun x H K Y=>vE (cf c false) (.call (.k (.fn 490)) [.l 2]) (Fh 10 [.str o.str,v,w,.int 16,.int 4]) H (fun y H=>AV (cf c false) (DC.body.drop 1) (AC (AC (Fh 10 [.str o.str,v,w,.int 16,.int 4]) 5 x) 6 y) H (zN K) (zR K) (zX Y)) (zX Y)) (iswh hv) (fun ø h=>h) (fun K Y z=>O7 (.call (.cons (.l rfl) .nil)) z) fun x ex=>by
 subst ex
 refine .call (F:=fun y H=>pz c (DC.body.drop 1) (AC (AC (Fh 10 [.str o.str,v,w,.int 16,.int 4]) 5 (.bool v.isI)) 6 y) H) (iswh hw) (fun ø h=>h) (fun K Y z=>(PK.call (.cons (.l rfl) .nil)) _ _ z) fun y ey=>?_
 subst ey
 refine .step (q:=pz c (DC.body.drop 3) (bE o v w v.isI w.isI) []) (fun K Y z=>B4 (.ns (.l rfl) .k (o.ne (by decide))) (B4 (.orf (.ns (.l rfl) .k (o.ne (by decide))) (.ns (.l rfl) .k (o.ne (by decide)))) z)) ?_
 have t:=fun b b'=>WJ (b:=b) (b':=b') dec add sub mul (o:=o) hv hw hg hm hgm
 have ts:∀{v w b b' p},(b&&b')=p->PE (cf c false) (.and (.cmp .NotEq (.l 0) (.k (.str ⟨#[47]⟩))) (.and (.l 5) (.l 6))) (bE o v w b b') [] (.bool p):=fun {v w b b' p} h=>.andt (.nes (.l rfl) .k (by refine Aj (decide_eq_false (o.ne (by decide))) ?_;rfl)) (.eq (.andb (.l rfl) (.l rfl)) (congrArg V.bool h))
 induction hv using Bl.casesOn with
 |int i k h h0 hk h16=>induction hw using Bl.casesOn with
  |int j l h' h0' hk' h16'=>exact .tail ((wr o h h0 (Am.1 (MO za (.num 8) [.l za zb,.l zb (.num 8)] As hk hm8)) hk h' h0' (Am.1 (MO za (.num 8) [.l za zb,.l zb (.num 8)] As hk' hm8)) hk' hg).mono (fun u h=>h.mono (BV za (.mulL 2 za) [.l (.num 0) za] As hg) (BV (.add (.mulL 2 za) (.num 1)) (.add (.mulL 2 za) (.num 3)) [] As)) fun ø h=>h) Bl.fz' fun K Y z=>N5 (ts rfl) (.call (.cons (.l rfl) (.cons (.l rfl) (.cons (.l rfl) (.cons (.l rfl) (.cons (.l rfl) .nil)))))) z
  |str s h=>exact .step (fun K Y z=>B4 (ts rfl) z) (t _ _)
  |dec a e h d=>exact .step (fun K Y z=>B4 (ts rfl) z) (t _ _)
 |str s h=>exact .step (fun K Y z=>B4 (ts rfl) z) (t _ _)
 |dec a e h d=>exact .step (fun K Y z=>B4 (ts rfl) z) (t _ _))
noncomputable def V.kd:V->Ao
 |.str _=>F5
 |.tup _=>Hn
 |_=>Jq
noncomputable def Xm(c:A7):Prop:=∀{g m:Int} {v:V},Bl g m v->∀{H:MH},PV c false 120 [v] H (.str v.kd)
theorem Wu:Xm (step c):=fun {g m v} hv H Q X q=>IL rfl rfl rfl (hv.nrs rfl) (by
 induction hv using Bl.casesOn with
 |str s h=>exact Ho (.isi (.l rfl) rfl rfl) .k (aI rfl q)
 |int i k h h0 hk h16=>exact B4 (.isi (.l rfl) rfl rfl) (Ba (.iff (.isi (.l rfl) rfl rfl) .k) (aI rfl q))
 |dec a e h d=>exact B4 (.isi (.l rfl) rfl rfl) (Ba (.ift (.isi (.l rfl) rfl rfl) .k) (aI rfl q)))
theorem NA(hs:C5 s)(ht:C5 t):C5 (s++t):=by
 show(s.cps++t.cps).all _=true
 refine Aj Array.all_append ?_
 exact bZ ⟨hs,ht⟩
noncomputable def mP(c:A7):Prop:=∀(o:O3) {s t:Ao},s.length<=255->t.length<=255->C5 s->C5 t->Pu c 714 [.str o.str,.str s,.str t] (fun u=>∃s:Ao,u=.str s/\s.length<=255/\C5 s) C5
theorem iC(chk:VA c):mP (step c):=fun o s t hs ht os ot=>.fn rfl rfl rfl rfl (by
 have hl:s.length+t.length<=Ap:=Ag (Ee hs ht) (by decide)
 have no:∀o:O3,[(⟨#[61]⟩:Ao),⟨#[60,62]⟩,⟨#[60]⟩,⟨#[62]⟩,⟨#[60,61]⟩,⟨#[62,61]⟩].contains o.str=false:=fun o=>by induction o<;>decide+kernel
 have i1:∀{fr:Fr},fr[0]?=some (some (.str o.str))->PE (cf c false) (.cmp .In (.l 0) (.k (.tup [.str ⟨#[61]⟩,.str ⟨#[60,62]⟩,.str ⟨#[60]⟩,.str ⟨#[62]⟩,.str ⟨#[60,61]⟩,.str ⟨#[62,61]⟩]))) fr [] (.bool false):=fun h=>.inK (.l h) (fun ø q=>q) (no o)
 induction o with
 |add=>exact .tail ((chk (show(s++t).length<=Ap from Ag (CZ (DS ..)) hl)).mono (fun u h=>EN _ h.1 h.2 (NA os ot)) fun ø h=>h) (fun v h H=>Eb h fun i h=>h.1▸⟨rfl,rfl⟩) fun K Y z=>B4 (i1 rfl) (B4 (.nes (.l rfl) .k (by decide)) (E6 (.call (.cons (.cat (.l rfl) (.l rfl) hl) .nil)) z))
 |sub=>exact .er JC fun K Y z=>B4 (i1 rfl) (Hp (.nes (.l rfl) .k (by decide)) rfl (.cons .k (.cons (.l rfl) .nil)) (Ay 1) z)
 |mul=>exact .er JC fun K Y z=>B4 (i1 rfl) (Hp (.nes (.l rfl) .k (by decide)) rfl (.cons .k (.cons (.l rfl) .nil)) (Ay 1) z))
noncomputable def mM(c:A7):Prop:=∀(o:O3) {g m:Int} {v w:V},Bl g m v->Bl g m w->0<=g->2<=m->m<=8->g+m<=12->Pu c 719 [.str o.str,v,w,.int 16,.int 4] (Bl (2*g) (2*m+3)) C5
noncomputable abbrev iZ(o:O3)(v w:V)(x y:Bool):Fr:=[some (.str o.str),some v,some w,some (.int 16),some (.int 4),some (.lst [.bool x,.bool y]),none,none]
theorem hY(kind:Xm c)(wt:mP c)(rk:jJ c):mM (step c):=fun o g m v w hv hw hg hm hm8 hgm=>.fn rfl rfl rfl (by induction hv using Bl.casesOn<;>induction hw using Bl.casesOn<;>rfl) (by
 have i0:(0:Int)<=0/\(0:Int)<2 ^ 62:=⟨by decide,by decide⟩
 have i1:(0:Int)<=1/\(1:Int)<2 ^ 62:=⟨by decide,by decide⟩
 have go:∀{v w},Bl g m v->Bl g m w->∀{x y},decide (v.kd=F5)=x->decide (w.kd=F5)=y->Pz (pz c (Do.body.drop 1) (iZ o v w x y) []) (Bl (2*g) (2*m+3)) C5->Pz (pz c Do.body (Fh 8 [.str o.str,v,w,.int 16,.int 4]) []) (Bl (2*g) (2*m+3)) C5:=fun {v w} hv hw {x y} hx hy=>
  .step fun K Y z=>(fun q=>q) (AN (v:=.lst [.bool x,.bool y]) (fun Q ø q=>aI ⟨rfl,lB rfl⟩ (kind hv _ _ (kind hw _ _ (by
   refine(?_:Q (.lst [.bool (decide (v.kd=F5)),.bool (decide (w.kd=F5))]) [])
   exact Aj hx (Aj hy q))))) z)
 have ne:∀{v w b x y},(!PyData.eqv (.bool x) (.bool y))=b->PE (cf c false) (.cmp .NotEq (.idx (.l 5) (.k (.int 0))) (.idx (.l 5) (.k (.int 1)))) (iZ o v w x y) [] (.bool b):=fun h=>.eq (fun ø ø q=>aI i0 (aI i1 (aI ⟨rfl,rfl⟩ q))) (congrArg V.bool h)
 have bad:∀{v w x y},(!PyData.eqv (.bool x) (.bool y))=true->Pz (pz c (Do.body.drop 1) (iZ o v w x y) []) (Bl (2*g) (2*m+3)) C5:=fun h=>.er JC fun K Y z=>Hp (ne h) rfl (.cons .k (.cons (.l rfl) .nil)) (Ay 1) z
 have no:∀l,l∈[[(⟨#[61]⟩:Ao),⟨#[60,62]⟩,⟨#[60]⟩,⟨#[62]⟩,⟨#[60,61]⟩,⟨#[62,61]⟩],[⟨#[65,78,68]⟩,⟨#[79,82]⟩,⟨#[88,79,82]⟩,⟨#[69,81,86]⟩,⟨#[73,77,80]⟩]]->l.contains o.str=false:=by clear bad ne go;induction o<;>decide+kernel
 have nt:∀{v w},Bl g m v->Bl g m w->Pz (pz c (Do.body.drop 1) (iZ o v w false false) []) (Bl (2*g) (2*m+3)) C5:=fun hv hw=>.tail (rk o hv hw hg hm hm8 hgm) Bl.fz' fun K Y z=>
  B4 (ne rfl) (B4 (.ix (.l rfl) rfl) (B4 (.inK (.l rfl) (fun ø q=>q) (no _ (.head _))) (B4 (.inK (.l rfl) (fun ø q=>q) (no _ (.tail _ (.head _)))) (E6 (.call (.cons (.l rfl) (.cons (.l rfl) (.cons (.l rfl) (.cons (.l rfl) (.cons (.l rfl) .nil)))))) z))))
 refine go hv hw rfl rfl ?_
 induction hv using Bl.casesOn with
 |str s h os=>induction hw using Bl.casesOn with
  |str t h' ot=>exact .tail ((wt o h h' os ot).mono (fun u h=>C9 h fun s e h1 h2=>e▸.str s h1 h2) fun ø h=>h) Bl.fz' fun K Y z=>B4 (ne rfl) (N5 (.ix (.l rfl) rfl) (.call (.cons (.l rfl) (.cons (.l rfl) (.cons (.l rfl) .nil)))) z)
  |int | dec=>exact bad rfl
 |int i k h h0 hk h16=>induction hw using Bl.casesOn with
  |str=>exact bad rfl
  |int j l h' h0' hk' h16'=>exact nt (.int i k h h0 hk h16) (.int j l h' h0' hk' h16')
  |dec a' e' h' d'=>exact nt (.int i k h h0 hk h16) (.dec a' e' h' d')
 |dec a e h d=>induction hw using Bl.casesOn with
  |str=>exact bad rfl
  |int j l h' h0' hk' h16'=>exact nt (.dec a e h d) (.int j l h' h0' hk' h16')
  |dec a' e' h' d'=>exact nt (.dec a e h d) (.dec a' e' h' d'))
noncomputable def mN(c:A7):Prop:=∀{g m:Int} {v:V},Bl g m v->0<=g->1<=m->Pu c 733 [.tup [.str v.kd,v],.int 16,.int 4] (Bl g (m+1)) C5
theorem hZ(Il:Mp c)(dec:Rv c):mN (step c):=fun {g m v} hv hg hm=>.fn rfl rfl rfl (by induction hv using Bl.casesOn<;>rfl) (by
 have dv:=(dec hv hg hm).mono (fun u h=>h.val) fun ø h=>h
 induction hv using Bl.casesOn with
 |str s h o=>exact .ok (.str s h o) fun K Y z=>N4 (.l rfl) (Ho (fun ø ø q=>q) (.l rfl) (aI rfl z))
 |int i k h h0 hk h16=>
  exact if hf:-32768<=i/\i<32768 then .ok (.int i k h h0 (MO za (.add zb (.num 1)) [.l za zb] As hk) h16) fun K Y z=>N4 (.l rfl) (B4 (fun ø ø q=>q) (Ba (.ift (.andt (fun ø ø q=>q) (.call (.cons (.l rfl) (.cons (.l rfl) .nil)) (Il (decide_eq_true hf)))) (.l rfl)) (aI rfl z)))
   else .tail dv Bl.fz' fun K Y z=>N4 (.l rfl) (B4 (fun ø ø q=>q) (E6 (.iff (.andt (fun ø ø q=>q) (.call (.cons (.l rfl) (.cons (.l rfl) .nil)) (Il (decide_eq_false hf)))) (.call (.cons (.l rfl) (.cons (.l rfl) .nil)))) z))
 |dec a e h d=>exact .tail dv Bl.fz' fun K Y z=>N4 (.l rfl) (B4 (fun ø ø q=>q) (E6 (.iff (.andf (fun ø ø q=>q)) (.call (.cons (.l rfl) (.cons (.l rfl) .nil)))) z)))
noncomputable abbrev wA:Ao:=⟨#[65]⟩
noncomputable abbrev wB:Ao:=⟨#[66,37]⟩
noncomputable abbrev wC:Ao:=⟨#[67,36]⟩
noncomputable abbrev wR:Ao:=⟨#[82]⟩
noncomputable abbrev wS:Ao:=⟨#[83,36]⟩
noncomputable abbrev wX:Ao:=⟨#[88]⟩
noncomputable abbrev wF:Ao:=⟨#[70,78,65]⟩
structure Wd where
 i:Nat
 j:Nat
 H0:MH
 fn:V
 rr:V
 rs:V
structure EL where
 g:Nat->V
 x:Option V
 d:Int
noncomputable def Wl:V->V
 |.tup [h,_]=>h
 |_=>.none
noncomputable def dX:V->List V
 |.tup [_,.lst l]=>l
 |_=>[]
noncomputable def xL:Option V->List (Ao×V)
 |none=>[]
 |some v=>[(wX,v)]
noncomputable abbrev Tr:V:=.lst [.tup [.int 10,.str ⟨#[53]⟩],.tup [.int 10,.str ⟨#[45,50]⟩],.tup [.int 10,.str ⟨#[120]⟩],.tup [.int 10,.str ⟨#[34,113,34]⟩]]
noncomputable def oW(w:Wd)(s:EL):De:=.inst 306 [(⟨#[98,105,116,115]⟩,.int 16),
 (⟨#[100,105,103,105,116,115]⟩,.int 4),
 (⟨#[109,111,115,116,95,115,116,101,112,115]⟩,.int 2000),
 (⟨#[109,111,115,116,95,100,101,112,116,104]⟩,.int 20),
 (⟨#[114,111,111,109]⟩,.int 2000),
 (⟨#[110,97,109,101,115]⟩,.ref (w.i+1)),
 (⟨#[97,114,114,97,121,115]⟩,.ref (w.i+2)),
 (⟨#[107,105,110,100,115]⟩,.ref (w.i+3)),
 (⟨#[102,110,115]⟩,.ref (w.i+4)),
 (⟨#[111,117,116]⟩,.lst []),
 (⟨#[114,111,119]⟩,.str ⟨#[]⟩),
 (⟨#[105,110,112,117,116,115]⟩,.lst []),
 (⟨#[102,105,108,101,115]⟩,.ref (w.i+5)),
 (⟨#[111,112,101,110]⟩,.ref (w.i+6)),
 (⟨#[102,105,101,108,100,115]⟩,.ref (w.i+7)),
 (⟨#[100,97,116,97]⟩,Tr),
 (⟨#[115,112,111,116]⟩,s.g 5),
 (⟨#[98,97,115,101]⟩,.int 0),
 (⟨#[115,101,101,100]⟩,.int 1),
 (⟨#[115,116,101,112,115]⟩,.int 0),
 (⟨#[100,101,112,116,104]⟩,.int s.d),
 (⟨#[104,97,110,100,108,101,114]⟩,.int 0),
 (⟨#[105,115,95,104,97,110,100,108,105,110,103]⟩,.bool false),
 (⟨#[101,114,114,111,114,95,108,105,110,101]⟩,.int 0),
 (⟨#[101,114,114,111,114,95,99,111,100,101]⟩,.str ⟨#[]⟩),
 (⟨#[105,115,95,116,114,97,99,101,100]⟩,.bool false),
 (⟨#[116,114,97,99,101,115]⟩,.lst []),
 (⟨#[99,111,109,109,111,110]⟩,.lst [])]
noncomputable def oG(kd hi it rm:V):De:=.inst 228 [(⟨#[107,105,110,100]⟩,kd),(⟨#[104,105,103,104,115]⟩,hi),(⟨#[98,97,115,101]⟩,.int 0),(⟨#[105,116,101,109,115]⟩,it),(⟨#[114,111,111,109]⟩,rm)]
noncomputable def oN(s:EL):De:=.dict ((wA,s.g 0)::(wB,s.g 1)::(wC,s.g 2)::xL s.x)
noncomputable def WB(w:Wd)(s:EL):List De:=[oW w s,oN s,.dict [(wR,.ref (w.i+8)),(wS,.ref (w.i+10))],.dict [],.dict [(wF,w.fn)],.dict [],.dict [],.dict [],
 oG (.str Hn) (Wl (s.g 3)) (.ref (w.i+9)) w.rr,.list (dX (s.g 3)),oG (.str F5) (Wl (s.g 4)) (.ref (w.i+11)) w.rs,.list (dX (s.g 4))]
noncomputable def oR(w:Wd):De:=.inst 856 [(⟨#[119,111,114,108,100]⟩,.ref w.i),(⟨#[102,108,97,116]⟩,.none),(⟨#[97,110,115,119,101,114,115]⟩,.ref w.j),(⟨#[98,105,116,115]⟩,.int 16),(⟨#[100,105,103,105,116,115]⟩,.int 4),(⟨#[99,111,110,116,114,111,108]⟩,.ref (w.j+2)),(⟨#[97,115,107,101,100]⟩,.ref (w.j+3))]
structure In (w:Wd)(L:List (Nat×De))(s:EL)(B:Nat)(H:MH):Prop where
 ij:w.i+12<=w.j
 blk:∀k o,(WB w s)[k]?=some o->H[w.i+k]?=some o
 run:H[w.j+1]?=some (oR w)
 asked:∃l,H[w.j+3]?=some (.list l)/\l.length+B<=1000
 old:∀k,k<w.j->(k<w.i\/w.i+12<=k)->H[k]?=w.H0[k]?
 len:w.j+4<=H.length
 pin:∀p,p∈L->w.j+4<=p.1/\H[p.1]?=some p.2
section
variable {w:Wd}{L:List (Nat×De)}{s s':EL}{B:Nat}{H:MH}
theorem Qe(h:n<H.length):(H.set n o)[n]?=some o:=by exact Aj (Ck h) rfl
theorem Di(h:n≠m):(H.set n o)[m]?=H[m]?:=EG h
theorem In.put(h:In w L s B H)(k:Nat)(hk:k<12)(e:WB w s'=(WB w s).set k o):In w L s' B (H.set (w.i+k) o) where
 ij:=h.ij
 blk:=fun m o' hm=>by
  rw[e] at hm
  by_cases h1:k=m
  ·subst h1
   replace hm:=Ck (show k<(WB w s).length from hk)▸hm
   refine Aj (Ad hm) ?_
   exact Qe (by have a1:=h.ij;have a2:=h.len;exact Xj (Lp xa xb) xc [.l (Lp xa (.num 12)) xd,.t xb (.num 12),.l (Lp xd (.num 4)) xc] As a1 hk a2)
  ·rw[EG h1] at hm
   exact Aj (Di (by lia)) (h.blk m o' hm)
 run:=Aj (Di (by have:=h.ij;exact AW (Sr (Lp xa xb) (Lp xc (.num 1)) [.l (Lp xa (.num 12)) xc,.t xb (.num 12)] As this hk))) h.run
 asked:=Aj (Di (by have:=h.ij;exact AW (Sr (Lp xa xb) (Lp xc (.num 3)) [.l (Lp xa (.num 12)) xc,.t xb (.num 12)] As this hk))) h.asked
 old:=fun m h1 h2=>Aj (Di (by lia)) (h.old m h1 h2)
 len:=Aj EO h.len
 pin:=fun p hp=>⟨(h.pin p hp).1,Aj (Di (by have a1:=h.ij;have a2:=(h.pin p hp).1;exact AW (Xj (Lp xa xb) xc [.l (Lp xa (.num 12)) xd,.t xb (.num 12),.l (Lp xd (.num 4)) xc] As a1 hk a2))) ((h.pin p hp).2)⟩
theorem In.W(h:In w L s B H):H[w.i]?=some (oW w s):=h.blk 0 _ rfl
theorem In.N(h:In w L s B H):H[w.i+1]?=some (oN s):=h.blk 1 _ rfl
theorem In.ask(h:In w L s (B+1) H):∃l,H[w.j+3]?=some (.list l)/\l.length<=Ap/\∀v,In w L s B (H.set (w.j+3) (.list (l++[v]))):=by
 refine AO h.asked fun l h1 h2=>?_
 refine(EN l h1 (Ag (show l.length<=1000 from CY xa (.num 1000) [.l (Lp xa (Lp xb (.num 1))) (.num 1000)] As h2) (by decide)) (fun v=>?_))
 exact {
  ij:=h.ij
  blk:=fun m o' hm=>by
   have:m<12:=(Aw.mp hm).1
   exact Aj (Di (by have:=h.ij;lia)) (h.blk m o' hm)
  run:=Aj (Di (Cq (V7 (Lp xa (.num 1)) (Lp xa (.num 3)) [] As))) h.run
  asked:=Bn _ (Qe (by have:=h.len;exact OX (Lp xa (.num 3)) xb [.l (Lp xa (.num 4)) xb] As this)) (by rw[Ak];show l.length+1+B<=1000;exact CY (Lp (Lp xa (.num 1)) xb) (.num 1000) [.l (Lp xa (Lp xb (.num 1))) (.num 1000)] As h2)
  old:=fun m h1 h2=>Aj (Di (Cq (OX xa (Lp xb (.num 3)) [.t xa xb] As h1))) (h.old m h1 h2)
  len:=Aj EO h.len
  pin:=fun p hp=>⟨(h.pin p hp).1,Aj (Di (by have:=(h.pin p hp).1;exact AW (OX (Lp xa (.num 3)) xb [.l (Lp xa (.num 4)) xb] As this))) ((h.pin p hp).2)⟩}
theorem In.new(h:In w L s B H)(o:De):In w ((H.length,o)::L) s B (H++[o]) where
 ij:=h.ij
 blk:=fun m o' hm=>by
  have:=h.blk m o' hm
  exact Aj (A9 (Aw.mp this).1) this
 run:=Aj (A9 (by have:=h.len;exact OX (Lp xa (.num 1)) xb [.l (Lp xa (.num 4)) xb] As this)) h.run
 asked:=Aj (A9 (by have:=h.len;exact OX (Lp xa (.num 3)) xb [.l (Lp xa (.num 4)) xb] As this)) h.asked
 old:=fun m h1 h2=>Aj (A9 (by have:=h.len;exact Sr xa xb [.t xa xc,.l (Lp xc (.num 4)) xb] As h1 this)) (h.old m h1 h2)
 len:=by refine Aj Ak ?_;have:=h.len;exact Fc (Lp xa (.num 4)) (Lp xb xc) [.l (Lp xa (.num 4)) xb] As this
 pin:=fun p hp=>by
  rcases Al.mp hp with rfl | hp
  ·exact⟨h.len,by rw[BL (Ay _),GM];rfl⟩
  ·have:=h.pin p hp
   exact⟨this.1,Aj (A9 (Aw.mp this.2).1) this.2⟩
theorem In.unpin(h:In w (q::L) s B H):In w L s B H:={h with pin:=fun p hp=>h.pin p (.tail _ hp)}
theorem In.less(h:In w L s B H)(hb:B'<=B):In w L s B' H:={h with asked:=AO h.asked fun l h1 h2=>(Bn l h1 (Ag (Nat.add_le_add_left hb _) h2))}
theorem In.edit(h:In w ((n,o)::L) s B H)(hn:∀p,p∈L->p.1≠n):In w ((n,o')::L) s B (H.set n o') where
 ij:=h.ij
 blk:=fun m o' hm=>by
  have:m<12:=(Aw.mp hm).1
  exact Aj (Di (by have a1:=h.ij;have a2:=(h.pin _ (.head _)).1;simp only at a2;exact Cq (Xj (Lp xa xb) xc [.l (Lp xa (.num 12)) xd,.t xb (.num 12),.l (Lp xd (.num 4)) xc] As a1 this a2))) (h.blk m o' hm)
 run:=Aj (Di (by have:=(h.pin _ (.head _)).1;simp only at this;exact Cq (OX (Lp xa (.num 1)) xb [.l (Lp xa (.num 4)) xb] As this))) h.run
 asked:=Aj (Di (by have:=(h.pin _ (.head _)).1;simp only at this;exact Cq (OX (Lp xa (.num 3)) xb [.l (Lp xa (.num 4)) xb] As this))) h.asked
 old:=fun m h1 h2=>Aj (Di (by have:=(h.pin _ (.head _)).1;simp only at this;exact Cq (Sr xa xb [.t xa xc,.l (Lp xc (.num 4)) xb] As h1 this))) (h.old m h1 h2)
 len:=Aj EO h.len
 pin:=fun p hp=>by
  have z:=h.pin _ (.head _)
  rcases Al.mp hp with rfl | hp
  ·exact⟨z.1,Qe (Aw.mp z.2).1⟩
  ·exact⟨(h.pin p (.tail _ hp)).1,Aj (Di (hn p hp).symm) ((h.pin p (.tail _ hp)).2)⟩
end
noncomputable def Rs.to(r:Rs)(w:Wd)(L:List (Nat×De))(s:EL)(B:Nat)(Q:QV)(X:EV):Prop:=match r with
 |.ok v=>∀H',In w L s B H'->Q v H'
 |.er e=>∀H',In w L s B H'->X e H'
set_option genCtorIdx true in
inductive Nm where
 |A | B | C | R | S | X | F
noncomputable def Nm.s:Nm->Ao
 |.A=>wA
 |.B=>wB
 |.C=>wC
 |.R=>wR
 |.S=>wS
 |.X=>wX
 |.F=>wF
noncomputable def Nm.kd:Nm->IT
 |.B=>.whole
 |.C=>.text
 |.S=>.text
 |_=>.dec
structure CN where
 t:Nat->Prop
 g:Nat->V
 x:Option V
 d:Int
 fn:V
structure K7 (κ:CN)(w:Wd)(s:EL):Prop where
 g:∀k,κ.t k->s.g k=κ.g k
 x:s.x=κ.x
 d:s.d=κ.d
 fn:w.fn=κ.fn
noncomputable def nS(g:Nat->V)(k:Nat)(v:V):Nat->V:=fun m=>if m=k then v else g m
noncomputable def EL.up(s:EL)(k:Nat)(v:V):EL:={s with g:=nS s.g k v}
noncomputable def EL.ups(s:EL):List (Nat×V)->EL
 |[]=>s
 |p::us=>(s.up p.1 p.2).ups us
noncomputable def CN.up(κ:CN)(n:Nat)(v:V):CN:={κ with g:=nS κ.g n v}
noncomputable def CN.ups(κ:CN):List (Nat×V)->CN
 |[]=>κ
 |p::us=>(κ.up p.1 p.2).ups us
theorem K7.up(k:K7 κ w s)(n:Nat)(x:V):K7 (κ.up n x) w (s.up n x) where
 g:=fun m h=>by
  refine(?_:(if m=n then x else s.g m)=if m=n then x else κ.g m)
  exact Aj (k.g m h) rfl
 x:=k.x
 d:=k.d
 fn:=k.fn
theorem K7.ups:∀{us:List (Nat×V)} {s:EL},K7 κ w s->K7 (κ.ups us) w (s.ups us)
 |[],_,k=>k
 |p::us,_,k=>K7.ups (us:=us) (k.up p.1 p.2)
theorem Rg:∀{us:List (Nat×V)} {s:EL},s.ups (us++vs)=(s.ups us).ups vs
 |[],_=>rfl
 |_::us,_=>Rg (us:=us)
theorem Rh:∀{us:List (Nat×V)} {κ:CN},(κ.ups us).t=κ.t
 |[],_=>rfl
 |_::us,_=>Rh (us:=us)
noncomputable abbrev Pg:=Wd->MH->QV->EV->Prop
noncomputable def pV(u:V):Pg:=fun ø H Q ø=>Q u H
noncomputable abbrev pC(c:A7)(a:Ai)(as:Wd->List V):Pg:=fun w H Q X=>c false a (as w) H Q X
noncomputable def pS(c:A7)(ss:List S)(fr:Wd->Fr):Pg:=fun w H Q X=>AV (cf c false) ss (fr w) H (iN Q) (iR Q) X
noncomputable def pT(c:A7)(e:E)(fr:Wd->Fr)(i:Nat)(ss:List S)(fr':Wd->Fr):Pg:=fun w H Q X=>vE (cf c false) e (fr w) H (fun v H=>AV (cf c false) ss (AC (fr' w) i v) H (iN Q) (iR Q) X) X
noncomputable def pB(p:Pg)(K:V->Pg):Pg:=fun w H Q X=>p w H (fun v H'=>K v w H' Q X) X
noncomputable def fS(fr:Wd->Fr)(i:Nat)(v:V):Wd->Fr:=fun w=>AC (fr w) i v
noncomputable def fW(fr:Wd->Fr)(i:Nat)(v:Wd->V):Wd->Fr:=fun w=>AC (fr w) i (v w)
noncomputable def fO(f:Fn)(as:Wd->List V):Wd->Fr:=fun w=>Fh f.ns (as w++f.dfl)
noncomputable def Rp(κ:CN)(p:Pg)(b:Nat)(us:List (Nat×V))(r:Rs):Prop:=∀w L s B H (Q:QV) (X:EV),K7 κ w s->In w L s (B+b) H->r.to w L (s.ups us) B Q X->p w H Q X
noncomputable abbrev Rd(κ:CN)(c:A7)(a:Ai)(as:Wd->List V)(b:Nat)(r:Rs):Prop:=Rp κ (pC c a as) b [] r
theorem gR{r r':Rs}(e:r=r'){w:Wd}{L:List (Nat×De)}{s:EL}{B:Nat}{Q:QV}{X:EV}(q:r.to w L s B Q X):r'.to w L s B Q X:=e▸q
structure Acc (κ:CN)(w:Wd)(s:EL)(H:MH):Prop where
 kn:K7 κ w s
 blk:∀k o,(WB w s)[k]?=some o->H[w.i+k]?=some o
 run:H[w.j+1]?=some (oR w)
theorem Acc.N(h:Acc κ w s H):H[w.i+1]?=some (oN s):=h.blk 1 _ rfl
theorem Acc.W(h:Acc κ w s H):H[w.i]?=some (oW w s):=h.blk 0 _ rfl
noncomputable def Fi(κ:CN)(G:Nat×V->Prop)(R:List (Nat×V)->V->Prop)(p:Pg)(b:Nat):Prop:=∃us r,(∀q,q∈us->G q)/\r.sat (R us) C5/\Rp κ p b us r
noncomputable def pF:Nat×V->Prop:=fun ø=>False
noncomputable abbrev EK(κ:CN)(P:V->Prop)(p:Pg)(b:Nat):Prop:=Fi κ pF (fun ø=>P) p b
theorem In.acc(h:In w L s B H)(k:K7 κ w s):Acc κ w s H:=⟨k,h.blk,h.run⟩
section
variable {κ:CN}{G:Nat×V->Prop}{R:List (Nat×V)->V->Prop}{P:V->Prop}{p q:Pg}{K:V->Pg}{b b1 b2:Nat}{c:A7}{a:Ai}{as:Wd->List V}
theorem Rp.less(h:Rp κ p b us r)(hb:b<=b1):Rp κ p b1 us r:=fun w L s B H Q X kn hi q=>h w L s B H Q X kn (hi.less (Nat.add_le_add_left hb _)) q
theorem Fi.less(h:Fi κ G R p b)(hb:b<=b1):Fi κ G R p b1:=EM h fun us r h1 h2 h3=>F1 us r h1 h2 (h3.less hb)
theorem Fi.mono(h:Fi κ G R p b)(k:∀us v,R us v->R' us v)(hG:∀q,G q->G' q):Fi κ G' R' p b:=EM h fun us r h1 h2 h3=>F1 us r (fun q m=>hG q (h1 q m)) (by induction r with
 |ok v=>exact k us v h2
 |er=>exact h2) h3
theorem EK.of(h:∃r:Rs,r.sat P C5/\Rp κ p b [] r):EK κ P p b:=AO h fun r h1 h2=>F1 [] r (fun ø h=>nomatch h) h1 h2
theorem EK.r(h:EK κ P p b):∃r:Rs,r.sat P C5/\Rp κ p b [] r:=EM h fun us r h1 h2 h3=>by
 induction us with
 |nil=>exact Bn r h2 h3
 |cons q us=>exact(h1 q (.head _)).elim
theorem EK.pc(h:∃r:Rs,r.sat P C5/\PC c a vs r):EK κ P (pC c a fun ø=>vs) 0:=AO h fun r h1 h2=>.of (Bn r h1 fun w L s B H Q X ø hi q=>h2 H Q X (by clear h2 h1;induction r<;>exact q H hi))
theorem Fi.fn(hg:Mh.glo a=some (.fn f))(hp:f.pure=false)(hl:∀w,(as w).length+f.dfl.length=f.np)(h:Fi κ G R (pS c f.body (fO f as)) b):Fi κ G R (pC (step c) a as) b:=
 EM h fun us r h1 h2 h3=>F1 us r h1 h2 fun w L s B H Q X kn hi q=>PB hg hp (hl w) (h3 w L s B H Q X kn hi q)
theorem Fi.step(g:∀w s H Q X,Acc κ w s H->q w H Q X->p w H Q X)(k:Fi κ G R q b):Fi κ G R p b:=
 EM k fun us r h1 h2 h3=>F1 us r h1 h2 fun w L s B H Q X kn hi z=>g w s H Q X (hi.acc kn) (h3 w L s B H Q X kn hi z)
theorem Fi.ask{v:Wd->V}(g:∀w s H Q X l,Acc κ w s H->H[w.j+3]?=some (.list l)->l.length<=Ap->q w (H.set (w.j+3) (.list (l++[v w]))) Q X->p w H Q X)(k:Fi κ G R q b):Fi κ G R p (b+1):=
 EM k fun us r h1 h2 h3=>F1 us r h1 h2 fun w L s B H Q X kn hi z=>C9 hi.ask fun l k1 k2 k3=>g w s H Q X l (hi.acc kn) k1 k2 (h3 w L s B _ Q X kn (k3 _) z)
theorem Fi.er(hs:C5 e)(g:∀w s H Q X,Acc κ w s H->X e H->p w H Q X):Fi κ G R p b:=
 F1 [] (.er e) (fun ø h=>nomatch h) hs fun w L s B H Q X kn hi z=>g w s H Q X (hi.acc kn) (z H (hi.less (BG _ _)))
theorem Fi.ok(hR:R [] v)(g:∀w s H Q X,Acc κ w s H->Q v H->p w H Q X):Fi κ G R p b:=
 F1 [] (.ok v) (fun ø h=>nomatch h) hR fun w L s B H Q X kn hi z=>g w s H Q X (hi.acc kn) (z H (hi.less (BG _ _)))
theorem Fi.callS(h:Fi κ G' A q b1)(hG:∀z,G' z->G z)(hb:b1+b2<=b)(g:∀w s H Q X,Acc κ w s H->pB q K w H Q X->p w H Q X)
  (k:∀us v,(∀z,z∈us->G' z)->A us v->Fi (κ.ups us) G (fun vs=>R (us++vs)) (K v) b2):Fi κ G R p b:=EM h fun us r h1 h2 h3=>by
 have hb:∀{w L s B H},In w L s (B+b) H->In w L s (B+b2+b1) H:=fun h=>h.less (OP (Lp (Lp xa xb) xc) (Lp xa xd) [.l (Lp xc xb) xd] As hb)
 induction r with
 |er e=>exact F1 us (.er e) (fun z m=>hG z (h1 z m)) h2 (fun w L s B H Q X kn hi z=>g w s H Q X (hi.acc kn) (h3 w L s (B+b2) H _ X kn (hb hi) fun H' h'=>z H' (h'.less (BG _ _))))
 |ok v=>
  refine EM (k us v h1 h2) fun vs r k1 k2 k3=>?_
  exact⟨us++vs,r,fun z m=>(AJ.mp m).elim (fun m=>hG z (h1 z m)) (k1 z),k2,fun w L s B H Q X kn hi z=>
   g w s H Q X (hi.acc kn) (h3 w L s (B+b2) H _ X kn (hb hi) fun H' h'=>k3 w L _ B H' Q X kn.ups h' (Rg (s:=s)▸z))⟩
theorem Fi.call(h:EK κ P q b1)(hb:b1+b2<=b)(g:∀w s H Q X,Acc κ w s H->pB q K w H Q X->p w H Q X)(k:∀v,P v->Fi κ G R (K v) b2):Fi κ G R p b:=
 .callS h (fun ø h=>h.elim) hb g fun us v hu h=>by
  induction us with
  |nil=>exact k v h
  |cons q us=>exact(hu q (.head _)).elim
theorem Fi.then(h:Fi κ G A q b)(g:∀w s H Q X,Acc κ w s H->pB q K w H Q X->p w H Q X)(e:∀{κ' w s H Q X} v,Acc κ' w s H->Q u H->K v w H Q X)(hA:∀us v,A us v->R us u):Fi κ G R p b:=EM h fun us r h1 h2 h3=>by
 induction r with
 |er e=>exact⟨us,.er e,h1,h2,fun w L s B H Q X kn hi z=>g w s H Q X (hi.acc kn) (h3 w L s B H _ X kn hi z)⟩
 |ok v=>exact⟨us,.ok u,h1,hA us v h2,fun w L s B H Q X kn hi z=>g w s H Q X (hi.acc kn) (h3 w L s B H _ X kn hi fun H' h'=>e v (h'.acc (kn.ups (us:=us))) (z H' h'))⟩
theorem Fi.set(hG:G (n,x))(hR:R [(n,x)] u)(g:∀w L s B H Q X,In w L s B H->K7 κ w s->(∀H',In w L (s.up n x) B H'->Q u H')->p w H Q X):Fi κ G R p b:=
 F1 [(n,x)] (.ok u) (fun q m=>An.mp m▸hG) hR fun w L s B H Q X kn hi z=>g w L s B H Q X (hi.less (BG _ _)) kn z
theorem Fi.tail(h:Fi κ G R q b)(g:∀w s H Q X,Acc κ w s H->q w H Q X->p w H Q X):Fi κ G R p b:=.step g h
end
noncomputable def iG(c:A7):Prop:=∀(n:Nm) {i:Nat} {H:MH},H[i]?=some (.dict [])->PV c false 127 [.str n.s,.ref i] H (.str n.kd.str)
theorem TU:iG (step c):=fun n i H h Q X q=>by
 have i0:(0:Int)<=0/\(0:Int)<2 ^ 62:=⟨by decide,by decide⟩
 have i1:(0:Int)<=1/\(1:Int)<2 ^ 62:=⟨by decide,by decide⟩
 induction n with
 |A=>exact CM rfl rfl rfl (QD (by decide) i0 (vB.f rfl (vB.f rfl (vB.f rfl (hO.e h (aI i0 (vO.e rfl (hO.e h q))))))))
 |B=>exact CM rfl rfl rfl (QD (by decide) i1 (vB.f rfl (vB.t rfl q)))
 |C=>exact CM rfl rfl rfl (QD (by decide) i1 (vB.t rfl q))
 |S=>exact CM rfl rfl rfl (QD (by decide) i1 (vB.t rfl q))
 |R=>exact CM rfl rfl rfl (QD (by decide) i0 (vB.f rfl (vB.f rfl (vB.f rfl (hO.e h (aI i0 (vO.e rfl (hO.e h q))))))))
 |X=>exact CM rfl rfl rfl (QD (by decide) i0 (vB.f rfl (vB.f rfl (vB.f rfl (hO.e h (aI i0 (vO.e rfl (hO.e h q))))))))
 |F=>exact CM rfl rfl rfl (QD (by decide) ⟨by decide,by decide⟩ (vB.f rfl (vB.f rfl (vB.f rfl (hO.e h (aI i0 (vO.e rfl (hO.e h q))))))))
noncomputable def aQ(c:A7):Prop:=∀(n:Nm) {κ:CN} {w:Wd} {s:EL} {H:MH},Acc κ w s H->PV c false 317 [.ref w.i,.str n.s] H (.str n.kd.str)
theorem dY(kn:iG c):aQ (step c):=fun n κ w s H h Q X q=>PB rfl rfl rfl (Ba (.call (.cons (.l rfl) (.cons (.attr (.l rfl) h.W rfl) .nil)) (kn n (h.blk 3 _ rfl))) q)
noncomputable def nL(s:EL):List (Ao×V):=(wA,s.g 0)::(wB,s.g 1)::(wC,s.g 2)::xL s.x
noncomputable def mD(c:A7):Prop:=∀{κ:CN} {w:Wd} {s:EL} {H:MH} (n:Ao),Acc κ w s H->PV c false 609 [.ref w.i,.str n] H .none
theorem dC:mD (step c):=fun n h Q X q=>PB rfl rfl rfl (Ho (.dni (.l rfl) (.attr (.l rfl) h.W rfl) (h.blk 7 _ rfl) rfl) .k q)
noncomputable def mF(c:A7):Prop:=∀{κ:CN} {w:Wd} {s:EL} {H:MH} {n:Ao} {v:V},Acc κ w s H->(nL s).lookup n=some v->PV c false 324 [.ref w.i,.str n] H v
theorem dM:mF (step c):=fun h e Q X q=>PB rfl rfl rfl (Ba (.ift (.din (.l rfl) (.attr (.l rfl) h.W rfl) h.N (congrArg (fun o=>some (Option.isSome o)) e)) (.dix (.attr (.l rfl) h.W rfl) (.l rfl) h.N e)) q)
noncomputable def mL(c:A7):Prop:=∀{κ:CN} {w:Wd} {s:EL} {H:MH} {n:Nm} {v:V},Acc κ w s H->(nL s).lookup n.s=some v->PV c false 637 [.ref w.i,.str n.s] H v
theorem hV(ft:mD c)(gn:mF c):mL (step c):=fun {κ w s H n v} h e Q X q=>
 have h1:n.s≠⟨#[69,82,82]⟩/\n.s≠⟨#[69,82,76]⟩:=by clear e;induction n<;>decide
 PB rfl rfl rfl (B4 (.ns (.l rfl) .k h1.1) (B4 (.ns (.l rfl) .k h1.2) (AN (.call (.cons (.l rfl) (.cons (.l rfl) .nil)) (ft n.s h)) (Ba (.ift (fun ø ø q=>q) (.call (.cons (.l rfl) (.cons (.l rfl) .nil)) (gn h e))) q))))
noncomputable def SG(κ:CN)(n:Nm)(v:V):Prop:=∀w s,K7 κ w s->(nL s).lookup n.s=some v
noncomputable def mK(c:A7):Prop:=∀{κ:CN} {P:V->Prop} {n:Nm} {v:V},SG κ n v->P v->EK κ P (pC c 780 fun w=>[.ref (w.j+1),.str n.s]) 1
theorem hU(vv:mL c):mK (step c):=fun {κ P n v} e hP=>.fn rfl rfl (fun ø=>rfl) (.ask (q:=pS c (CL.body.drop 1) (fO CL _)) (fun w s H Q X l a h1 h2 q=>O8 (.attr (.l rfl) a.run rfl) (.l rfl) h1 h2 q)
 (.ok hP fun w s H Q X a q=>Ba (.call (.cons (.attr (.l rfl) a.run rfl) (.cons (.l rfl) .nil)) (vv a (e w s a.kn))) q))
noncomputable abbrev fT:Ao:=⟨#[66,83]⟩
theorem U6:C5 fT:=by decide+kernel
noncomputable def V.arr(h:Nat)(xs:List V):V:=.tup [.lst [.int h],.lst xs]
set_option genCtorIdx true in
inductive Ar where
 |R | S
noncomputable def Ar.nm:Ar->Nm
 |.R=>.R
 |.S=>.S
noncomputable def Ar.k:Ar->Nat
 |.R=>3
 |.S=>4
noncomputable def Ar.o:Ar->Nat
 |.R=>8
 |.S=>10
noncomputable def Ar.rm(w:Wd):Ar->V
 |.R=>w.rr
 |.S=>w.rs
theorem Acc.G(h:Acc κ w s H)(a:Ar)(e:s.g a.k=V.arr n xs):H[w.i+a.o]?=some (oG (.str a.nm.kd.str) (.lst [.int n]) (.ref (w.i+(a.o+1))) (a.rm w))/\H[w.i+(a.o+1)]?=some (.list xs):=by
 induction a with
 |R=>exact⟨(h.blk 8 _ rfl).trans (by rw[show s.g 3=_ from e];rfl),(h.blk 9 _ rfl).trans (by rw[show s.g 3=_ from e];rfl)⟩
 |S=>exact⟨(h.blk 10 _ rfl).trans (by rw[show s.g 4=_ from e];rfl),(h.blk 11 _ rfl).trans (by rw[show s.g 4=_ from e];rfl)⟩
noncomputable def iE(c:A7):Prop:=∀{κ:CN} {w:Wd} {s:EL} {H:MH} (a:Ar),Acc κ w s H->PV c false 267 [.ref w.i,.str a.nm.s,.int 1] H (.ref (w.i+a.o))
theorem XG:iE (step c):=fun a h Q X q=>by
 induction a<;>exact PB rfl rfl rfl (B4 (.dni (.l rfl) (.attr (.l rfl) h.W rfl) (h.blk 2 _ rfl) rfl) (Ba (.dix (.attr (.l rfl) h.W rfl) (.l rfl) (h.blk 2 _ rfl) rfl) q))
noncomputable def iH(c:A7):Prop:=∀(i:Int) (g n:Nat) kd it rm H (Q:QV) (X:EV),H[g]?=some (oG kd (.lst [.int n]) it rm)->(0<=i/\i<=n->Q (.int i) H)->(¬(0<=i/\i<=n)->X fT H)->c false 274 [.ref g,.lst [.int i]] H Q X
theorem XZ:iH (step c):=fun i g n kd it rm H Q X h q x=>
 PB rfl rfl rfl (B4 (fun ø ø q=>aI (lB rfl) (IB h rfl (aI (lB rfl) q))) (AN .k (JB (.zip rfl (.l rfl) (.attr (.l rfl) h rfl)) (if hi:0<=i/\i<=n then
  B4 (.eq (.not (.btw (.attr (.l rfl) h rfl) (.l rfl) (.l rfl))) (congrArg (fun b=>V.bool !b) (decide_eq_true hi))) (AN (v:=.int i) (fun Q ø z=>IB h rfl (aI ⟨by decide,by decide⟩ (IB h rfl (show Q (.int (0*((n:Int)-0+1)+i-0)) H from Aj (show 0*((n:Int)-0+1)+i-0=i from B0 (MO (.sub (.add (.mulL 0 (.add (.sub za (.num 0)) (.num 1))) zb) (.num 0)) zb [] As) (MO za (.sub (.add (.mulL 0 (.add (.sub zb (.num 0)) (.num 1))) za) (.num 0)) [] As)) z)))) (Ls (Ba (.l rfl) (q hi))))
  else Hp (.eq (.not (.btw (.attr (.l rfl) h rfl) (.l rfl) (.l rfl))) (congrArg (fun b=>V.bool !b) (decide_eq_false hi))) rfl (.cons .k (.cons (.l rfl) .nil)) (Ay 1) (x hi)))))
structure bI (κ:CN)(a:Ar)(n:Nat)(xs:List V):Prop where
 t:κ.t a.k
 e:κ.g a.k=V.arr n xs
 l:xs.length=n+1/\n<=10
noncomputable def jF(c:A7):Prop:=∀{κ:CN} {P:V->Prop} {a:Ar} (i:Int) {n:Nat} {xs:List V},bI κ a n xs->(∀v,v∈xs->P v)->EK κ P (pC c 281 fun w=>[.ref w.i,.str a.nm.s,.lst [.int i]]) 0
theorem XD{κ:CN}{c:A7}(go:iE c)(po:iH c){a:Ar}{i:Int}{n:Nat}{xs:List V}(k:bI κ a n xs){w:Wd}{s:EL}{H:MH}{Q:QV}{X:EV}(h:Acc κ w s H)(q:0<=i/\i<=n->∀v,xs[i.toNat]?=some v->Q v H)(x:¬(0<=i/\i<=n)->X fT H):step c false 281 [.ref w.i,.str a.nm.s,.lst [.int i]] H Q X:=
 Cd (h.G a ((h.kn.g _ k.t).trans k.e)) fun g1 g2=>PB rfl rfl rfl (AN (.call (.cons (.l rfl) (.cons (.l rfl) (.cons (fun ø ø q=>aI (lB rfl) q) .nil))) (go a h)) (hO.e g1 (aI rfl (po i _ n _ _ _ _ _ _ g1
  (fun hi=>
   have hl:i.toNat<xs.length:=by have:=k.l.1;lia
   hO.e g2 (aI ⟨hi.1,by have:=k.l;exact aT za (.num 4611686018427387904) [.l za zb,.l zb (.num 10)] As hi.2 (Am.2 this.2)⟩ (vO.e (AX hl) (q hi _ (AX hl))))) x))))
theorem dG{c:A7}(go:iE c)(po:iH c):jF (step c):=fun {κ P a} i {n xs} k hx=>.of (if hi:0<=i/\i<=n then
  have hl:i.toNat<xs.length:=by have:=k.l.1;lia
  Bn (.ok xs[i.toNat]) (hx _ (List.getElem_mem _)) fun w L s B H Q X kn h q=>XD go po k (h.acc kn) (fun ø v e=>Ad ((AX hl).symm.trans e)▸q H h) (absurd hi)
 else Bn (.er fT) U6 fun w L s B H Q X kn h q=>XD go po k (h.acc kn) (fun h=>absurd h hi) fun ø=>q H h)
theorem TN(gi:jF c)(hp:∃r:Rs,r.sat (fun u=>∃i:Int,u=.int i) C5/\PC c 176 [p,.int 16] r)(k:bI κ a n xs)(hx:∀v,v∈xs->P v):EK κ P (pC (step c) 785 fun w=>[.ref (w.j+1),.str a.nm.s,.lst [p]]) 1:=
 .fn rfl rfl (fun ø=>rfl) (.call (EK.pc hp) (K:=fun u=>pS c (C6.body.drop 1) (fS (fO C6 _) 3 (.lst [u]))) (Ay 1) (fun w s H Q X a q=>UB rfl (.l rfl) (.call (.cons (.l rfl) (.cons (.attr (.l rfl) a.run rfl) .nil))) q) fun u hu=>by
  obtain⟨i,rfl⟩:=hu
  exact .ask (q:=pS c (C6.body.drop 2) (fS (fO C6 _) 3 (.lst [.int i]))) (fun w s H Q X l a h1 h2 q=>O8 (.attr (.l rfl) a.run rfl) (fun ø ø q=>q) h1 h2 q)
   (.tail (gi i k hx) fun w s H Q X a q=>E6 (.call (.cons (.attr (.l rfl) a.run rfl) (.cons (.l rfl) (.cons (.l rfl) .nil)))) q))
noncomputable abbrev FX:Ao:=⟨#[110,97,109,101]⟩
noncomputable abbrev F4:Ao:=⟨#[105,116,101,109]⟩
noncomputable abbrev Sw:Ao:=⟨#[102,110]⟩
noncomputable abbrev Sd:Ao:=⟨#[116,119,111]⟩
theorem i0:(0:Int)<=0/\(0:Int)<2 ^ 62:=⟨by decide,by decide⟩
theorem i1:(0:Int)<=1/\(1:Int)<2 ^ 62:=⟨by decide,by decide⟩
theorem i2:(0:Int)<=2/\(2:Int)<2 ^ 62:=⟨by decide,by decide⟩
theorem i3:(0:Int)<=3/\(3:Int)<2 ^ 62:=⟨by decide,by decide⟩
section
variable {κ:CN}{c:A7}{P:V->Prop}{b:Nat}
theorem OO{n:Nm}(h:EK κ P (pC c 780 fun w=>[.ref (w.j+1),.str n.s]) b):EK κ P (pC (step c) 740 fun w=>[.tup [.str FX,.str n.s],.lst [],.ref (w.j+1)]) b:=
 .fn rfl rfl (fun ø=>rfl) (.tail h fun w s H Q X a q=>AN (.ix (.l rfl) rfl) (B4 (fun ø ø q=>q) (B4 (.orf (fun ø ø q=>q) (fun ø ø q=>q)) (N5 (fun ø ø q=>q) (.m (.l rfl) a.run rfl (.cons (.ix (.l rfl) rfl) .nil)) q))))
theorem Vo{a:Ar}{sub p:V}(h:EK κ P (pC c 785 fun w=>[.ref (w.j+1),.str a.nm.s,.lst [p]]) b):EK κ P (pC (step c) 740 fun w=>[.tup [.str F4,.str a.nm.s,sub],.lst [p],.ref (w.j+1)]) b:=
 .fn rfl rfl (fun ø=>rfl) (.tail h fun w s H Q X a q=>AN (.ix (.l rfl) rfl) (B4 (fun ø ø q=>q) (B4 (.orf (fun ø ø q=>q) (fun ø ø q=>q)) (B4 (fun ø ø q=>q) (N5 (fun ø ø q=>q) (.m (.l rfl) a.run rfl (.cons (.ix (.l rfl) rfl) (.cons (.l rfl) .nil))) q)))))
theorem Xd{o:O3}{l r u v:V}(h:∃r:Rs,r.sat P C5/\PC c 719 [.str o.str,u,v,.int 16,.int 4] r):EK κ P (pC (step c) 740 fun w=>[.tup [.str Sd,.str o.str,l,r],.lst [u,v],.ref (w.j+1)]) 0:=
 .fn rfl rfl (fun ø=>rfl) (.tail (EK.pc h) fun w s H Q X a q=>AN (.ix (.l rfl) rfl) (N5 (fun ø ø q=>q) (.call (.cons (.ix (.l rfl) rfl) (.cons (.ix (.l rfl) rfl) (.cons (.ix (.l rfl) rfl) (.cons (.attr (.l rfl) a.run rfl) (.cons (.attr (.l rfl) a.run rfl) .nil)))))) q))
theorem XN(hv:Bl g m v):∀y,y∈[Sd,⟨#[110,101,103]⟩,⟨#[110,111,116]⟩,FX,F4,⟨#[99,97,108,108]⟩,Sw]->v.kd≠y:=by
 have d:∀k,k∈[Jq,F5,Hn]->∀y,y∈[Sd,⟨#[110,101,103]⟩,⟨#[110,111,116]⟩,FX,F4,⟨#[99,97,108,108]⟩,Sw]->k≠y:=by decide
 induction hv using Bl.casesOn<;>first | exact d _ (.head _) | exact d _ (.tail _ (.head _)) | exact d _ (.tail _ (.tail _ (.head _)))
theorem Vp(hv:Bl g m v)(h:∃r:Rs,r.sat P C5/\PC c 733 [.tup [.str v.kd,v],.int 16,.int 4] r):EK κ P (pC (step c) 740 fun w=>[.tup [.str v.kd,v],.lst [],.ref (w.j+1)]) 0:=
 have n:=XN hv
 .fn rfl rfl (fun ø=>rfl) (.tail (EK.pc h) fun w s H Q X a q=>AN (.ix (.l rfl) rfl) (B4 (.ns (.l rfl) .k (n _ (.head _))) (B4 (.orf (.ns (.l rfl) .k (n _ (.tail _ (.head _)))) (.ns (.l rfl) .k (n _ (.tail _ (.tail _ (.head _)))))) (B4 (.ns (.l rfl) .k (n FX (by decide))) (B4 (.ns (.l rfl) .k (n F4 (by decide))) (B4 (.ns (.l rfl) .k (n _ (by decide))) (E6 (.iff (.ns (.l rfl) .k (n Sw (by decide))) (.call (.cons (.l rfl) (.cons (.attr (.l rfl) a.run rfl) (.cons (.attr (.l rfl) a.run rfl) .nil))))) q)))))))
end
inductive T where
 |leaf (v:V) | name (n:Nm) | item (a:Ar) (s:T) | fna (s:T) | two (o:O3) (l r:T)
noncomputable def T.v:T->V
 |.leaf v=>.tup [.str v.kd,v]
 |.name n=>.tup [.str FX,.str n.s]
 |.item a s=>.tup [.str F4,.str a.nm.s,.lst [s.v]]
 |.fna s=>.tup [.str Sw,.str wF,.lst [s.v]]
 |.two o l r=>.tup [.str Sd,.str o.str,l.v,r.v]
noncomputable def T.kids:T->List V
 |.item _ s=>[s.v]
 |.fna s=>[s.v]
 |.two _ l r=>[l.v,r.v]
 |_=>[]
noncomputable def T.cost:T->Nat
 |.item _ s=>s.cost+2
 |.fna s=>s.cost+2
 |.two _ l r=>r.cost+l.cost+2
 |_=>1
noncomputable def T.leaves:T->Prop
 |.leaf v=>Bl 2 1 v
 |.name _=>True
 |.item _ s=>s.leaves
 |.fna s=>s.leaves
 |.two _ l r=>l.leaves/\r.leaves
theorem T.nr:∀{t:T},t.leaves->V.nr t.v=true
 |.leaf v=>fun h=>by
  show(true&&(V.nr v&&true))=true
  refine Aj (Bl.nr h) ?_;rfl
 |.name _=>fun ø=>rfl
 |.item _ s=>fun h=>by
  show(true&&(true&&((V.nr s.v&&true)&&true)))=true
  rw[T.nr (t:=s) h];rfl
 |.fna s=>fun h=>by
  show(true&&(true&&((V.nr s.v&&true)&&true)))=true
  rw[T.nr (t:=s) h];rfl
 |.two _ l r=>fun h=>by
  refine(?_:(true&&(true&&(V.nr l.v&&(V.nr r.v&&true))))=true)
  refine Aj (T.nr (t:=l) h.1) (Aj (T.nr (t:=r) h.2) ?_);rfl
noncomputable def bS(c:A7):Prop:=∀{t:T} {H:MH},t.leaves->PV c false 691 [t.v] H (.lst t.kids)
theorem Wt:∀{t:T},t.leaves->V.nr (.lst t.kids)=true
 |.leaf _,_=>rfl
 |.name _,_=>rfl
 |.item _ s,h=>bZ ⟨T.nr (t:=s) h,rfl⟩
 |.fna s,h=>bZ ⟨T.nr (t:=s) h,rfl⟩
 |.two _ l r,h=>bZ ⟨T.nr (t:=l) h.1,bZ ⟨T.nr (t:=r) h.2,rfl⟩⟩
theorem kX:∀{t:T},t.leaves->(∀fr,R (.lst t.kids) fr [])->AV C G2.body (Fh 1 [t.v]) [] N R X
 |.leaf v=>fun h q=>
  have n:=XN h
  have nc:∀ks:List Ao,(∀y,y∈ks->y∈[Sd,⟨#[110,101,103]⟩,⟨#[110,111,116]⟩,FX,F4,⟨#[99,97,108,108]⟩,Sw])->ks.contains v.kd=false:=fun ks h=>by
   rw[List.contains_eq_mem]
   exact decide_eq_false fun m=>n _ (h _ m) rfl
  B4 (.eq (fun ø ø q=>aI i0 q) (congrArg V.bool (nc [F4,⟨#[99,97,108,108]⟩,Sw] (by decide)))) (B4 (.ns (.ix (.l rfl) rfl) .k (n _ (.head _))) (Ba (.iff (.eq (fun ø ø q=>aI i0 q) (congrArg V.bool (nc [⟨#[110,101,103]⟩,⟨#[110,111,116]⟩] (by decide)))) (fun ø ø q=>q)) (q _)))
 |.name _=>fun ø q=>B4 (fun ø ø q=>aI i0 q) (B4 (fun ø ø q=>aI i0 q) (Ba (.iff (fun ø ø q=>aI i0 q) (fun ø ø q=>q)) (q _)))
 |.item _ _=>fun ø q=>Ho (fun ø ø q=>aI i0 q) (.ix (.l rfl) rfl) (q _)
 |.fna _=>fun ø q=>Ho (fun ø ø q=>aI i0 q) (.ix (.l rfl) rfl) (q _)
 |.two _ _ _=>fun ø q=>B4 (fun ø ø q=>aI i0 q) (Ho (fun ø ø q=>aI i0 q) (fun ø ø q=>aI i2 (aI i3 q)) (q _))
theorem M8:bS (step c):=fun {t H} ht Q X q=>IL rfl rfl rfl (bZ ⟨T.nr ht,rfl⟩) (kX ht fun ø=>aI (Wt ht) q)
noncomputable def Vd:List S:=match Q9.body with
 |[_,.while_ _ b,_]=>b
 |_=>[]
noncomputable abbrev V1(tr:V)(w:Wd)(k:Nat)(vs:List V)(a b c d e:Option V):Fr:=[some tr,some (.ref (w.j+1)),some (.ref k),some (.lst vs),a,b,c,d,e,none,none]
noncomputable abbrev JD(c:A7)(R:RT)(X:EV):Nat->Fr->MH->NV->Prop:=DQ (fun fr H Q=>vE (cf c false) (.cmp .Gt (.call (.k (.bi .len)) [.l 2]) (.k (.int 0))) fr H Q X) (fun fr H N=>AV (cf c false) Vd fr H N R X)
theorem TF(h:PE C t fr H (.bool false))(k:AV C b fr H N R X):AV C [.ite t a b] fr H N R X:=h _ _ (vB.f rfl k)
theorem TG(h:PE C t fr H (.bool true))(k:AV C a fr H N R X):AV C [.ite t a b] fr H N R X:=h _ _ (vB.t rfl k)
theorem Re{c:A7}(pt:bS c){t:T}(ht:t.leaves){b:Bool}
  {w:Wd} {L:List (Nat×De)} {s:EL} {B k:Nat} {W vs:List V} {tr:V} {a1 a2 a3 a4 a5:Option V} {n:Nat} {H:MH} {N:NV} {R:RT} {X:EV} (hL:∀p,p∈L->p.1≠k) (hW:W.length<=900)
  (h:In w ((k,.list (W++[.tup [t.v,.bool b]]))::L) s B H)
  (q:∀H',In w ((k,.list W)::L) s B H'->AV (cf c false) (Vd.drop 2) (V1 tr w k vs (some t.v) (some (.bool b)) (some (.lst t.kids)) a4 a5) H' (fun fr H=>JD c R X n fr H N) R X):
  JD c R X (n+1) (V1 tr w k vs a1 a2 a3 a4 a5) H N:=
 have hq:H[k]?=some (.list (W++[.tup [t.v,.bool b]])):=(h.pin _ (.head _)).2
 have hl:(W++[V.tup [t.v,.bool b]]).length<=Ap:=Aj Ak (Ag (HQ hW 1) (by decide))
 hO.e hq (aI hl (vB.t (decide_eq_true (Aj Ak (Bg.mpr (BM _)))) (hO.e hq (QD rfl rfl (hO.e hq (aI hl (vO.e List.getLast?_concat (AN (.call (.cons (.l rfl) .nil) (pt ht)) (q _ (Aj HD (h.edit hL)))))))))))
theorem No{t:T}:t.kids.length<=2:=by induction t<;>exact lB rfl
theorem Np{t:T}:t.kids.length<=Ap:=Ag No (by decide)
noncomputable abbrev pG:E:=.or (.l 5) (.cmp .Eq (.call (.k (.bi .len)) [.l 6]) (.k (.int 0)))
theorem XW{C:FP}{t:T}{b:Bool}{tr:V}{w:Wd}{k:Nat}{vs:List V}{a1 a4 a5:Option V}{H:MH}{p:Bool}(e:(b||decide ((t.kids.length:Int)=0))=p):PE C pG (V1 tr w k vs a1 (some (.bool b)) (some (.lst t.kids)) a4 a5) H (.bool p):=by
 subst e
 induction b with
 |true=>exact .ort (.l rfl)
 |false=>exact .orf (.l rfl) fun ø ø q=>aI Np q
theorem P6{κ:CN}{c:A7}(pt:bS c){t:T}{r:Rs}{z:Nat}{ps:List V}(ht:t.leaves)(hk:ps.length=t.kids.length)(hr:Rd κ c 740 (fun w=>[t.v,.lst ps,.ref (w.j+1)]) z r){b:Bool}(hb:b=true\/t.kids=[])
  {w:Wd} {L:List (Nat×De)} {s:EL} {B k:Nat} {W vs:List V} {tr:V} {a1 a2 a3 a4 a5:Option V} {n:Nat} {H:MH} {N:NV} {R:RT} {X:EV} (kn:K7 κ w s) (hL:∀p,p∈L->p.1≠k) (hW:W.length<=900) (hv:vs.length<=900)
  (h:In w ((k,.list (W++[.tup [t.v,.bool b]]))::L) s (B+z) H)
  (q:match r with
   |.ok v=>∀a1 a2 a3 a4 a5 H',In w ((k,.list W)::L) s B H'->JD c R X n (V1 tr w k (vs++[v]) a1 a2 a3 a4 a5) H' N
   |.er e=>∀H',In w L s B H'->X e H'):
  JD c R X (n+1) (V1 tr w k (vs++ps) a1 a2 a3 a4 a5) H N:=Re pt ht hL hW h fun H2 h2=>by
 have hkl:=No (t:=t)
 have hvl:(vs++ps).length<=902:=Aj Ak (Fc (Lp xa xb) (.num 902) [.l xa (.num 900),.e xb xc,.l xc (.num 2)] As hv hk hkl)
 have hvm:=Ag hvl (show 902<=Ap by decide)
 have hj:(0:Int)<=(vs.length:Int)/\(vs.length:Int)<2 ^ 62:=⟨BV (.num 0) za [.l (.num 0) za] As (AE _),DU za (.num 4611686018427387904) [.l za (.num 900)] As (Am.2 hv)⟩
 have ej:((vs++ps).length:Int)-(t.kids.length:Int)=vs.length:=by refine Aj Ak (Aj hk ?_);lia
 have e1:E4 (vs++ps) vs.length (vs++ps).length=ps:=by rw[E4,List.take_length,List.drop_left]
 have e2:E4 (vs++ps) 0 vs.length=vs:=by rw[E4,HE,List.take_left]
 have eb:(b||decide ((t.kids.length:Int)=0))=true:=hb.elim (fun h=>by refine Aj h ?_;rfl) fun h=>Aj h (Bool.or_true _)
 refine TG (XW eb) (AN (v:=.int vs.length) (.eq (fun ø ø q=>aI hvm (aI Np q)) (congrArg V.int ej)) (UC (.call (.cons (.l rfl) (.cons (v:=.lst ps) (.eq (fun ø ø q=>aI hj (aI hvm q)) (congrArg V.lst e1)) (.cons (.l rfl) .nil)))) (hr w _ s B _ _ _ kn h2 ?_)))
 clear hr;induction r with
 |er e=>exact fun H' h'=>q H' h'.unpin
 |ok v=>
  have e3:(E4 (vs++ps) 0 vs.length).length+1<=Ap:=Aj e2 (Ag (Ka hv) (by decide))
  exact fun H' h'=>AN (v:=.lst (vs++[v])) (.eq (fun ø ø q=>aI hj (aI hvm (aI e3 q))) (congrArg (fun z=>V.lst (z++[v])) e2)) (q (some t.v) (some (.bool b)) (some (.lst t.kids)) (some (.int vs.length)) (some v) H' h')
theorem QP{c:A7}(pt:bS c){t:T}(ht:t.leaves)(hk:t.kids≠[])
  {w:Wd} {L:List (Nat×De)} {s:EL} {B k:Nat} {W vs:List V} {tr:V} {a1 a2 a3 a4 a5:Option V} {n:Nat} {H:MH} {N:NV} {R:RT} {X:EV} (hL:∀p,p∈L->p.1≠k) (hW:W.length<=900)
  (h:In w ((k,.list (W++[.tup [t.v,.bool false]]))::L) s B H)
  (q:∀a1 a2 a3 H',In w ((k,.list ((W++[.tup [t.v,.bool true]])++(t.kids.reverse.map fun v=>.tup [v,.bool false])))::L) s B H'->JD c R X n (V1 tr w k vs a1 a2 a3 a4 a5) H' N):
  JD c R X (n+1) (V1 tr w k vs a1 a2 a3 a4 a5) H N:=Re pt ht hL hW h fun H2 h2=>
 have h3:=h2.edit (o':=.list (W++[.tup [t.v,.bool true]])) hL
 have q3:=(h3.pin _ (.head _)).2
 have q:=q (some t.v) (some (.bool false)) (some (.lst t.kids)) _ (h3.edit (o':=.list ((W++[.tup [t.v,.bool true]])++(t.kids.reverse.map fun v=>.tup [v,.bool false]))) hL)
 TF (XW (decide_eq_false fun e=>hk (List.length_eq_zero_iff.mp (Ga.mp e)))) (O8 (.l rfl) (fun ø ø q=>q) (h2.pin _ (.head _)).2 (Ag hW (by decide)) (fX rfl (.l rfl) q3 (.compR rfl (.l rfl) Np fun x ø ø ø q=>q) (Ag (Ee (Aj Ak (HQ hW 1)) (show _<=2 from Aj (A0 _) (Aj B5 No))) (show 903<=Ap by decide)) q))
theorem NL(n:Nat):NT (nc (n+1)):=YO
theorem bF(n:Nat):VD (nc (n+2)):=ZK (NL n)
theorem eG(n:Nat):Mq (nc (n+3)):=Wy (NL (n+1)) (bF n)
theorem Zw(n:Nat):SL (nc (n+3)):=W3 (bF n)
theorem Il(n:Nat):Mp (nc (n+1)):=QA
theorem whole(n:Nat):Pb (nc (n+4)):=Vi (Zw n) (Il (n+2))
theorem jW(n:Nat):Rv (nc (n+4)):=YF (eG n)
theorem nR(n:Nat):SN (nc (n+1)):=WS
theorem cA(n:Nat):VA (nc (n+1)):=Y5
theorem suit(n:Nat):Xn (nc (n+5)):=WO (whole n) (jW n) (nR (n+3)) (cA (n+3))
theorem cH(n:Nat):IY 406 (nc (n+4)):=VF (c:=nc (n+3)) (SO (c:=nc (n+2))) (eG n)
theorem jY(n:Nat):IY 413 (nc (n+5)):=ZW (c:=nc (n+4)) (fun {_ _ _}=>Zy (c:=nc (n+3))) (cH n)
theorem jX(n:Nat):IY 420 (nc (n+4)):=Zt (eG n)
theorem wr(n:Nat):jM (nc (n+5)):=iB (c:=nc (n+4)) (ZR (c:=nc (n+3)) (Il (n+2)) (eG n))
theorem rk(n:Nat):jJ (nc (n+6)):=fR (c:=nc (n+5)) (Ws (c:=nc (n+4))) (wr n) (jW (n+1)) (cH (n+1)) (jY n) (jX (n+1))
theorem w2(n:Nat):mM (nc (n+7)):=hY (c:=nc (n+6)) (Wu (c:=nc (n+5))) (iC (c:=nc (n+5)) (cA (n+4))) (rk n)
theorem wl(n:Nat):mN (nc (n+5)):=hZ (c:=nc (n+4)) (Il (n+3)) (jW n)
structure Pure (c:A7):Prop where
 whole:∀g m v,Bl g m v->g<=18->m<=19->Pu c 176 [v,.int 16] (V8 v) C5
 w2:∀(o:O3) g m v w,Bl g m v->Bl g m w->0<=g->2<=m->m<=8->g+m<=12->Pu c 719 [.str o.str,v,w,.int 16,.int 4] (Bl (2*g) (2*m+3)) C5
 wl:∀g m v,Bl g m v->0<=g->1<=m->Pu c 733 [.tup [.str v.kd,v],.int 16,.int 4] (Bl g (m+1)) C5
 suit:∀(k:IT) g m v,Bl g m v->(0<=g/\g<=18)->(1<=m/\m<=19)->Pu c 204 [v,.str k.str,.int 16,.int 4] (k.ok g m v) C5
 text:∀g m v,Bl g m v->Pu c 190 [v] (fun u=>∃s:Ao,u=.str s/\v=.str s/\s.length<=255) C5
theorem PW(n:Nat):Pure (nc (n+7)) where
 whole:=fun g m v h h1 h2=>whole (n+3) h h1 h2
 w2:=fun o g m v w=>w2 n o
 wl:=fun g m v=>wl (n+2)
 suit:=fun k g m v=>suit (n+2) k
 text:=fun g m v=>nR (n+6)
theorem vn(n:Nat):mK (nc (n+3)):=hU (c:=nc (n+2)) (hV (c:=nc (n+1)) dC dM)
theorem gi(n:Nat):jF (nc (n+2)):=dG (c:=nc (n+1)) XG XZ
noncomputable def T.asks:T->Nat
 |.leaf _=>0
 |.name _=>1
 |.item _ s=>s.asks+1
 |.fna s=>s.asks+10
 |.two _ l r=>r.asks+l.asks
noncomputable def Rs.lp(r:Rs)(c:A7)(R:RT)(X:EV)(n:Nat)(tr:V)(w:Wd)(k:Nat)(vs W:List V)(L:List (Nat×De))(s:EL)(B:Nat)(N:NV):Prop:=match r with
 |.ok v=>∀a1 a2 a3 a4 a5 H',In w ((k,.list W)::L) s B H'->JD c R X n (V1 tr w k (vs++[v]) a1 a2 a3 a4 a5) H' N
 |.er e=>∀H',In w L s B H'->X e H'
noncomputable def Pr(κ:CN)(c:A7)(t:T)(r:Rs):Prop:=∀w L s B k W vs tr a1 a2 a3 a4 a5 n H (N:NV) (R:RT) (X:EV),K7 κ w s->(∀p,p∈L->p.1≠k)->W.length+t.cost<=900->vs.length+t.cost<=900->
 In w ((k,.list (W++[.tup [t.v,.bool false]]))::L) s (B+t.asks) H->r.lp c R X n tr w k vs W L s B N->JD c R X (n+t.cost) (V1 tr w k vs a1 a2 a3 a4 a5) H N
noncomputable def PA(κ:CN)(c:A7)(P:V->Prop)(t:T):Prop:=∃r:Rs,r.sat P C5/\Pr κ c t r
theorem Rs.lp_er(q:(Rs.er e).lp c R X n tr w k vs W L s B N):(Rs.er e).lp c R X n' tr w k vs' W' L s (B+a) N:=fun H' h'=>q H' (h'.less (BG _ _))
theorem PA.mono(h:PA κ c P t)(k:∀v,P v->P' v):PA κ c P' t:=AO h fun r h1 h2=>Bn r (by induction r with
 |ok v=>exact k v h1
 |er=>exact h1) h2
section
variable {κ:CN}{c:A7}{P P1 P2:V->Prop}{t:T}(pt:bS c)(ht:t.leaves)
include pt ht
theorem N1(hk:t.kids=[])(hc:t.cost=1)(hr:EK κ P (pC c 740 fun w=>[t.v,.lst [],.ref (w.j+1)]) t.asks):PA κ c P t:=AO hr.r fun r r1 r2=>⟨r,r1,fun w L s B k W vs tr a1 a2 a3 a4 a5 n H N R X kn hL hW hv h q=>by
 rw[hc] at hW hv ⊢
 have z:=P6 (ps:=[]) (vs:=vs) (W:=W) (n:=n) (N:=N) (R:=R) (X:=X) (tr:=tr) (a1:=a1) (a2:=a2) (a3:=a3) (a4:=a4) (a5:=a5) pt ht (hk▸rfl) r2 (.inr hk) kn hL (J0 hW) (J0 hv) h (by clear r2 r1;induction r<;>exact q)
 rw[Bq] at z
 exact z⟩
theorem Uo(hk:t.kids=[p.v])(hc:t.cost=p.cost+2)(a:Nat)(ha:t.asks=p.asks+a)(hp:PA κ c P1 p)(hr:∀v,P1 v->EK κ P (pC c 740 fun w=>[t.v,.lst [v],.ref (w.j+1)]) a):PA κ c P t:=AO hp fun rp p1 p2=>by
 have main:∀{r:Rs},(∀v,rp=.ok v->Rd κ c 740 (fun w=>[t.v,.lst [v],.ref (w.j+1)]) a r)->(∀e,rp=.er e->r=.er e)->Pr κ c t r:=fun {r} r1 r2 w L s B k W vs tr a1 a2 a3 a4 a5 n H N R X kn hL hW hv h q=>by
  rw[hc] at hW hv ⊢
  rw[ha,<-Gb,Nat.add_right_comm] at h
  refine Aj (show n+(p.cost+2)=(n+1+p.cost)+1 from AL (CY (Lp xa (Lp xb (.num 2))) (Lp (Lp (Lp xa (.num 1)) xb) (.num 1)) [] As) (CY (Lp (Lp (Lp xa (.num 1)) xb) (.num 1)) (Lp xa (Lp xb (.num 2))) [] As)) ?_
  refine QP pt ht (Aj hk (JH _ _)) hL (CY xa (.num 900) [.l (Lp xa (Lp xb (.num 2))) (.num 900)] As hW) h fun b1 b2 b3 H1 h1=>?_
  rw[hk] at h1
  refine p2 w L s (B+a) k (W++[.tup [t.v,.bool true]]) vs tr b1 b2 b3 a4 a5 (n+1) H1 N R X kn hL (by refine Aj Ak ?_;show W.length+1+_<=_;exact CY (Lp (Lp xa (.num 1)) xb) (.num 900) [.l (Lp xa (Lp xb (.num 2))) (.num 900)] As hW) (CY (Lp xa xb) (.num 900) [.l (Lp xa (Lp xb (.num 2))) (.num 900)] As hv) h1 ?_
  clear p2 p1;induction rp with
  |er e=>exact Rs.lp_er (r2 e rfl▸q)
  |ok v=>exact fun c1 c2 c3 c4 c5 H' h'=>P6 (ps:=[v]) pt ht (by refine Aj hk ?_;rfl) (r1 v rfl) (.inl rfl) kn hL (CY xa (.num 900) [.l (Lp xa (Lp xb (.num 2))) (.num 900)] As hW) (CY xa (.num 900) [.l (Lp xa (Lp xb (.num 2))) (.num 900)] As hv) h' (by clear r2 r1;induction r<;>exact q)
 induction rp with
 |er e=>exact Bn (.er e) p1 (main (fun ø h=>nomatch h) fun ø h=>by refine Aj h ?_;rfl)
 |ok v=>exact AO (hr v p1).r fun r h1 h2=>Bn r h1 (main (fun ø h=>by cases h;exact h2) fun ø h=>nomatch h)
theorem Z4(hk:t.kids=[l.v,x.v])(hc:t.cost=x.cost+l.cost+2)(ha:t.asks=x.asks+l.asks)(hl:PA κ c P1 l)(hx:PA κ c P2 x)(hr:∀v u,P1 v->P2 u->EK κ P (pC c 740 fun w=>[t.v,.lst [v,u],.ref (w.j+1)]) 0):PA κ c P t:=AO hl fun rl l1 l2=>AO hx fun rx x1 x2=>by
 have main:∀{r:Rs},(∀v u,rl=.ok v->rx=.ok u->Rd κ c 740 (fun w=>[t.v,.lst [v,u],.ref (w.j+1)]) 0 r)->(∀e,(rl=.er e\/∃v,rl=.ok v/\rx=.er e)->r=.er e)->Pr κ c t r:=fun {r} r1 r2 w L s B k W vs tr a1 a2 a3 a4 a5 n H N R X kn hL hW hv h q=>by
  rw[hc] at hW hv ⊢
  rw[ha,<-Gb] at h
  refine Aj (show n+(x.cost+l.cost+2)=(n+1+x.cost+l.cost)+1 from AL (Fc (Lp xa (Lp (Lp xb xc) (.num 2))) (Lp (Lp (Lp (Lp xa (.num 1)) xb) xc) (.num 1)) [] As) (Fc (Lp (Lp (Lp (Lp xa (.num 1)) xb) xc) (.num 1)) (Lp xa (Lp (Lp xb xc) (.num 2))) [] As)) ?_
  refine QP pt ht (Aj hk (JH _ _)) hL (Fc xa (.num 900) [.l (Lp xa (Lp (Lp xb xc) (.num 2))) (.num 900)] As hW) h fun b1 b2 b3 H1 h1=>?_
  rw[hk] at h1
  refine l2 w L s (B+x.asks) k (W++[.tup [t.v,.bool true]]++[.tup [x.v,.bool false]]) vs tr b1 b2 b3 a4 a5 (n+1+x.cost) H1 N R X kn hL (by refine Aj Ak (Aj Ak ?_);show W.length+1+1+_<=_;exact Fc (Lp (Lp (Lp xa (.num 1)) (.num 1)) xb) (.num 900) [.l (Lp xa (Lp (Lp xc xb) (.num 2))) (.num 900)] As hW) (Fc (Lp xa xb) (.num 900) [.l (Lp xa (Lp (Lp xc xb) (.num 2))) (.num 900)] As hv) (by rw[Bd (W++_)];exact h1) ?_
  clear l2 l1;induction rl with
  |er e=>exact Rs.lp_er (r2 e (.inl rfl)▸q)
  |ok v=>
  refine fun c1 c2 c3 c4 c5 H2 h2=>x2 w L s B k (W++[.tup [t.v,.bool true]]) (vs++[v]) tr c1 c2 c3 c4 c5 (n+1) H2 N R X kn hL (by refine Aj Ak ?_;show W.length+1+_<=_;exact Fc (Lp (Lp xa (.num 1)) xb) (.num 900) [.l (Lp xa (Lp (Lp xb xc) (.num 2))) (.num 900)] As hW) (by refine Aj Ak ?_;show vs.length+1+_<=_;exact Fc (Lp (Lp xa (.num 1)) xb) (.num 900) [.l (Lp xa (Lp (Lp xb xc) (.num 2))) (.num 900)] As hv) h2 ?_
  clear x2 x1;induction rx with
  |er e=>exact Rs.lp_er (a:=0) (r2 e (.inr ⟨v,rfl,rfl⟩)▸q)
  |ok u=>exact fun d1 d2 d3 d4 d5 H' h'=>(Bd vs [v] [u]).symm▸P6 (ps:=[v,u]) pt ht (by refine Aj hk ?_;rfl) (r1 v u rfl rfl) (.inl rfl) kn hL (Fc xa (.num 900) [.l (Lp xa (Lp (Lp xb xc) (.num 2))) (.num 900)] As hW) (Fc xa (.num 900) [.l (Lp xa (Lp (Lp xb xc) (.num 2))) (.num 900)] As hv) h' (by clear r2 r1;induction r<;>exact q)
 induction rl with
 |er e=>exact Bn (.er e) l1 (main (fun ø ø h=>nomatch h) fun ø h=>h.elim (fun h=>by refine Aj h ?_;rfl) fun zz=>AO zz fun ø h ø=>nomatch h)
 |ok v=>induction rx with
  |er e=>exact Bn (.er e) x1 (main (fun ø ø ø h=>nomatch h) fun ø h=>h.elim (fun h=>nomatch h) fun zz=>AO zz fun ø ø h=>by refine Aj h ?_;rfl)
  |ok u=>exact AO (hr v u l1 x1).r fun r h1 h2=>Bn r h1 (main (fun ø ø h h'=>by cases h;cases h';exact h2) fun ø h=>h.elim (fun h=>nomatch h) fun zz=>AO zz fun ø ø h=>nomatch h)
end
theorem Vh(z:DQ (fun fr H Q=>vE C t fr H Q X) (fun fr H N=>AV C b fr H N R X) C.fuel fr H fun fr H=>AV C ss fr H N R X):AV C (.while_ t b::ss) fr H N R X:=z
theorem VN(z:vS C x fr H (fun fr H=>AV C ss fr H N R X) R X):AV C (x::ss) fr H N R X:=z
theorem Vm(z:N (some u::o::some (.ref H.length)::some (.lst [])::r) (H++[.list [.tup [u,b]]])):
  vS C (.asgTT [.v 2,.v 3] [.lst true [.tup [.l 0,.k b]],.lst false []]) (some u::o::none::none::r) H N R X:=z
theorem Vj(h:PA κ c P t)(hc:t.cost<=300):EK κ P (pC (step c) 745 fun w=>[t.v,.ref (w.j+1)]) t.asks:=AO h fun r h0 hp=>.of (Bn r h0 fun w L s B H Q X kn h q=>by
 refine CM rfl rfl rfl ?_
 have hL:∀p,p∈L->p.1≠H.length:=fun p hp e=>by
  have:=(Aw.mp (h.pin p hp).2).1
  exact nV [.t xa xb,.f xa xb] As this e
 have z:=hp w L s B H.length [] [] t.v none none none none none (400-t.cost) (H++[.list [.tup [t.v,.bool false]]]) (fun fr H=>AV (cf c false) [.ret (.idx (.l 3) (.k (.int 0)))] fr H (fun ø H'=>Q .none H') (fun v ø H'=>Q v H') X) (fun v ø H'=>Q v H') X kn hL (show 0+_<=900 from GK (Lp (.num 0) xa) (.num 900) [.l xa (.num 300)] As hc) (show 0+_<=900 from GK (Lp (.num 0) xa) (.num 900) [.l xa (.num 300)] As hc) (h.new _) ?_
 ·have fu:Mh.fuel=400-t.cost+t.cost:=by
   rw[AI (Ag hc (by decide))];rfl
  rw[<-fu] at z
  exact VN (Vm (Vh (C:=cf c false) (b:=Vd) (fr:=V1 t.v w H.length [] none none none none none) z))
 induction r with
 |er e=>exact q
 |ok v=>
  intro a1 a2 a3 a4 a5 H' h'
  obtain⟨m,hm⟩:∃m,400-t.cost=m+1:=⟨399-t.cost,AL (Fc xa (Lp xb (.num 1)) [.e (Lp xa xc) (.num 400),.l (.num 399) (Lp xb xc)] As (AI (GK xa (.num 400) [.l xa (.num 300)] As hc)) (OB _ _)) (Fc (Lp xa (.num 1)) xb [.e (Lp xa xc) (.num 399),.l (.num 400) (Lp xb xc)] As (AI (GK xa (.num 399) [.l xa (.num 300)] As hc)) (OB _ _))⟩
  refine Aj hm ?_
  exact hO.e (h'.pin _ (.head _)).2 (aI (A3 _) (vB.f rfl (aI i0 (q H' h'.unpin)))))
theorem U5(h:EK κ P (pC c 745 fun w=>[v,.ref (w.j+1)]) b):EK κ P (pC (step c) 766 fun w=>[.ref (w.j+1),v]) b:=
 .fn rfl rfl (fun ø=>rfl) (.tail h fun w s H Q X a q=>E6 (.call (.cons (.l rfl) (.cons (.l rfl) .nil))) q)
noncomputable def T.one:T->Prop
 |.two _ _ _=>False
 |_=>True
noncomputable def Ro(κ:CN)(a:Ar):Prop:=∃n xs,bI κ a n xs/\∀v,v∈xs->Bl 2 2 v
noncomputable def T.ok(κ:CN)(F:Prop):T->Prop
 |.leaf v=>Bl 2 1 v
 |.name n=>∃v,SG κ n v/\Bl 2 2 v
 |.item a s=>s.one/\s.ok κ F/\Ro κ a
 |.fna s=>s=.name .B/\F
 |.two _ l r=>(l.one/\r.one)/\l.ok κ F/\r.ok κ F
theorem T.ok.leaves{F:Prop}:∀{t:T},t.ok κ F->t.leaves
 |.leaf _=>fun h=>h
 |.name _=>fun ø=>trivial
 |.item _ s=>fun h=>T.ok.leaves (t:=s) h.2.1
 |.fna _=>fun h=>h.1▸trivial
 |.two _ l r=>fun h=>⟨T.ok.leaves (t:=l) h.2.1,T.ok.leaves (t:=r) h.2.2⟩
theorem Xb(p:Pure c)(h:Bl g m v)(h1:g<=18)(h2:m<=19):Pu c 176 [v,.int 16] (fun u=>∃i:Int,u=.int i) C5:=(p.whole g m v h h1 h2).mono (fun u h=>AO h fun i e ø=>⟨i,e⟩) fun ø h=>h
section
variable {κ:CN}{F:Prop}{n:Nat}{g m:Int}(hg:2<=g/\2<=m/\g<=18/\m<=19)(hF:F->PA κ (nc (n+9)) (Bl g m) (.fna (.name .B)))
include hg hF
theorem X5:∀t:T,t.one->t.ok κ F->PA κ (nc (n+9)) (Bl g m) t
 |.leaf v=>fun ø h=>(N1 (c:=nc (n+9)) (t:=.leaf v) M8 h rfl rfl (Vp (c:=nc (n+8)) h ((PW (n+1)).wl 2 1 v h (by decide) (by decide)))).mono fun v h=>h.mono hg.1 hg.2.1
 |.name nm=>fun ø h=>AO h fun v h1 h2=>N1 (c:=nc (n+9)) (t:=.name nm) M8 trivial rfl rfl (OO (c:=nc (n+8)) (vn (n+5) h1 (h2.mono hg.1 hg.2.1)))
 |.item a s=>fun ø h=>Uo (c:=nc (n+9)) (t:=.item a s) M8 (T.ok.leaves (t:=s) h.2.1) rfl rfl 1 rfl (X5 s h.1 h.2.1) fun v hv=>LH h.2.2 fun l xs k hx=>Vo (c:=nc (n+8)) (TN (c:=nc (n+7)) (gi (n+5)) (Xb (PW n) hv hg.2.2.1 hg.2.2.2) k fun v m=>(hx v m).mono hg.1 hg.2.1)
 |.fna s=>fun ø h=>h.1▸hF h.2
 |.two _ _ _=>fun h ø=>h.elim
theorem nB(h2:m<=8)(h3:g+m<=12)(t:T)(h:t.ok κ F):PA κ (nc (n+9)) (Bl (2*g) (2*m+3)) t:=by
 have up:∀{t},PA κ (nc (n+9)) (Bl g m) t->PA κ (nc (n+9)) (Bl (2*g) (2*m+3)) t:=fun z=>z.mono fun v h=>h.mono (BV za (.mulL 2 za) [.l (.num 2) za] As hg.1) (BV za (.add (.mulL 2 za) (.num 3)) [.l (.num 2) za] As hg.2.1)
 induction t with
 |two o l x=>exact Z4 (c:=nc (n+9)) (t:=.two o l x) M8 (T.ok.leaves (t:=.two o l x) h) rfl rfl rfl (X5 hg hF l h.1.1 h.2.1) (X5 hg hF x h.1.2 h.2.2) fun v u hv hu=>Xd (c:=nc (n+8)) ((PW (n+1)).w2 o g m v u hv hu (BV (.num 0) za [.l (.num 2) za] As hg.1) hg.2.1 h2 h3)
 |leaf v=>exact up (X5 hg hF (.leaf v) trivial h)
 |name v=>exact up (X5 hg hF (.name v) trivial h)
 |item a s=>exact up (X5 hg hF (.item a s) trivial h)
 |fna s=>exact up (X5 hg hF (.fna s) trivial h)
end
noncomputable def Rs.nx(rb:Rs)(P:V->Prop)(r:Rs):Prop:=match rb with
 |.ok u=>P u
 |.er e=>r=.er e
noncomputable def jI(c:A7):Prop:=∀{hd:Bool} {κ:CN} {w:Wd} {s:EL} {H:MH} (n:Ao),Acc κ w s H->PV c hd 616 [.ref w.i,.str n] H .none
theorem XT{c:A7}:jI (step c):=fun n h Q X q=>PB rfl rfl rfl (B4 (.din (.l rfl) (.attr (.l rfl) h.W rfl) (h.blk 7 _ rfl) rfl) q)
noncomputable abbrev PM:V:=.lst [.str wX,.str wF]
noncomputable def SJ(c:A7):Prop:=∀{κ:CN} {w:Wd} {s:EL} {H:MH} (d:Int),Acc κ w s H->PV c false 623 [.ref w.i,PM,.int d] H .none
theorem Wm{c:A7}:SJ (step c):=fun d h Q X q=>PB rfl rfl rfl (JB (.lst (.l rfl)) (B4 (.din (.l rfl) (.attr (.l rfl) h.W rfl) (h.blk 7 _ rfl) rfl) (B4 (.din (.l rfl) (.attr (.l rfl) h.W rfl) (h.blk 7 _ rfl) rfl) q)))
noncomputable def VC(c:A7):Prop:=∀{hd:Bool} {κ:CN} {w:Wd} {s:EL} {H:MH},Acc κ w s H->PV c hd 630 [.ref w.i,PM,.int 0] H .none
theorem Zo{c:A7}(nf:jI c):VC (step c):=fun h Q X q=>
 PB rfl rfl rfl (JB (.lst (.l rfl)) (UD (.call (.cons (.l rfl) (.cons (.l rfl) .nil)) (nf wX h)) (UD (.call (.cons (.l rfl) (.cons (.l rfl) .nil)) (nf wF h)) (JB (.lst (.l rfl))
  (B4 (.din (s:=⟨#[48]⟩++wX) (fun ø ø q=>aI rfl (aI (lB rfl) q)) (.attr (.l rfl) h.W rfl) (h.blk 7 _ rfl) rfl) (B4 (.din (s:=⟨#[48]⟩++wF) (fun ø ø q=>aI rfl (aI (lB rfl) q)) (.attr (.l rfl) h.W rfl) (h.blk 7 _ rfl) rfl) q))))))
noncomputable def CN.inn(κ:CN)(v:V):CN:={κ with x:=some v,d:=1}
noncomputable abbrev N7:V:=.lst [.tup [.str wX,.none],.tup [.str wF,.none]]
noncomputable abbrev nC(w:Wd)(m:Nat)(v fb xv:V)(y z:Option V):Fr:=[some (.ref w.i),some (.str wF),some (.lst [v]),some (.meth 766 (w.j+1)),some (.meth m (w.j+1)),some (.lst [.str wX]),some fb,some (.int (-1)),some PM,some (.str wX),some N7,y,some (.lst [xv]),z,none,none]
noncomputable def cT:List S:=match CR.body.drop 10 with
 |.fin _ l::_=>l
 |_=>[]
theorem T7{κ:CN}{c:A7}(lay:VC c){hd:Bool}{w:Wd}{L:List (Nat×De)}{g:Nat->V}{xv v fb:V}{m B:Nat}{z:Option V}{H:MH}{N:NV}{R:RT}{X:EV}(kn:K7 κ w ⟨g,none,0⟩)(h:In w L ⟨g,some xv,1⟩ B H)(k:∀H',In w L ⟨g,none,0⟩ B H'->N (nC w m v fb xv (some .none) z) H'):
  AV (cf c hd) cT (nC w m v fb xv (some xv) z) H N R X:=
 have h2:In w L ⟨g,some xv,0⟩ B (H.set w.i (oW w ⟨g,some xv,0⟩)):=h.put 0 (by decide) rfl
 have h3:In w L ⟨g,none,0⟩ B ((H.set w.i (oW w ⟨g,some xv,0⟩):MH).set (w.i+1) (oN ⟨g,none,0⟩)):=h2.put 1 (by decide) rfl
 Qc (y:=0) (.l rfl) h.W rfl ⟨rfl,lB rfl⟩ (fun ø q=>q) (JB (.lst fun ø ø q=>aI (lB rfl) q)
  (ZN (.attr (.l rfl) h2.W rfl) (.l rfl) h2.N (lB rfl) rfl (B4 (fun ø ø q=>q) (ZO (.attr (.l rfl) h2.W rfl) (.l rfl) h2.N (lB rfl) rfl (B4 (fun ø ø q=>q)
   (UD (.call (.cons (.l rfl) (.cons (.l rfl) (.cons (.attr (.l rfl) h3.W rfl) .nil))) (lay (h3.acc kn))) (k _ h3)))))))
theorem Wf{κ:CN}{c:A7}(kh:aQ c)(hide:SJ c)(lay:VC c){as:Wd->List V}{w:Wd}{L:List (Nat×De)}{g:Nat->V}{fb v xv:V}{rb r:Rs}{b m B:Nat}{H:MH}{Q:QV}{X:EV}(kn:K7 κ w ⟨g,none,0⟩)(h:In w L ⟨g,none,0⟩ (B+b) H)
  (hb:Rd (κ.inn xv) c 766 (fun w=>[.ref (w.j+1),fb]) b rb) (hr:rb.nx (fun u=>PC c 204 [u,.str Hn,.int 16,.int 4] r) r) (q:r.to w L ⟨g,none,0⟩ B Q X):AV (cf c false) (CR.body.drop 7) [some (.ref w.i),some (.str wF),some (.lst [v]),some (.meth 766 (w.j+1)),some (.meth m (w.j+1)),some (.lst [.str wX]),some fb,some (.int (-1)),some PM,none,some N7,none,some (.lst [xv]),none,none,none] H (iN Q) (iR Q) X:=
 have h1:In w L ⟨g,some xv,0⟩ (B+b) (H.set (w.i+1) (oN ⟨g,some xv,0⟩)):=h.put 1 (by decide) rfl
 have h2:In w L ⟨g,some xv,1⟩ (B+b) ((H.set (w.i+1) (oN ⟨g,some xv,0⟩):MH).set w.i (oW w ⟨g,some xv,1⟩)):=h1.put 0 (by decide) rfl
 UD (.call (.cons (.l rfl) (.cons (.l rfl) (.cons (.attr (.l rfl) h.W rfl) .nil))) (hide 0 (h.acc kn))) (JB (.zip rfl (.l rfl) (.l rfl)) (UE (.l rfl) (.attr (.l rfl) h.W rfl) (.l rfl) h.N (lB rfl)
  (Qc (y:=1) (.l rfl) h1.W rfl ⟨rfl,lB rfl⟩ (fun ø q=>q) (fY (UC (.ift (fun ø ø q=>q) (.meth (.l rfl) rfl (.cons (.l rfl) .nil))) (hb w L ⟨g,some xv,1⟩ B _ _ _ ⟨kn.g,rfl,rfl,kn.fn⟩ h2 (by
   clear hb;cases rb with
   |er e=>exact fun H3 h3=>T7 lay kn h3 fun H' h'=>gR (show r=.er e from hr) q H' h'
   |ok u=>exact fun H3 h3=>T7 lay kn h3 fun H' h'=>E6 (.call (.cons (.l rfl) (.cons (.call (.cons (.l rfl) (.cons (.l rfl) .nil)) (kh .F (h'.acc kn))) (.cons (.attr (.l rfl) h'.W rfl) (.cons (.attr (.l rfl) h'.W rfl) .nil))))) (hr _ _ _ (by clear hr;cases r<;>exact q H' h')))))))))
theorem cU{κ:CN}{c:A7}(kh:aQ c)(hide:SJ c)(lay:VC c){fb v:V}{P1 P2 P3:V->Prop}{b m:Nat}(hx:κ.x=none)(hd:κ.d=0)(hf:κ.fn=.tup [.lst [.str wX],fb,.int (-1)])(hs:∃r:Rs,r.sat P1 C5/\PC c 204 [v,.str Hn,.int 16,.int 4] r)
  (hb:∀xv,P1 xv->EK (κ.inn xv) P2 (pC c 766 fun w=>[.ref (w.j+1),fb]) b) (hr:∀u,P2 u->∃r:Rs,r.sat P3 C5/\PC c 204 [u,.str Hn,.int 16,.int 4] r):EK κ P3 (pC (step c) 649 fun w=>[.ref w.i,.str wF,.lst [v],.meth 766 (w.j+1),.meth m (w.j+1)]) b:=
 .fn rfl rfl (fun ø=>rfl) (.call (EK.pc hs) (K:=fun xv=>pS c (CR.body.drop 7) (fS (fS (fS (fS (fS (fS (fO CR fun w=>[.ref w.i,.str wF,.lst [v],.meth 766 (w.j+1),.meth m (w.j+1)]) 5 (.lst [.str wX])) 6 fb) 7 (.int (-1))) 8 PM) 10 N7) 12 (.lst [xv]))) (by rw[Fp];exact Ay b)
  (fun w s H Q X a q=>
   have le:∀k:Nat,k<=10->k<=Ap:=fun k h=>Ag h (by decide)
   have hxl:(xL s.x)=[]:=by rw[a.kn.x,hx];rfl
   show AV (cf c false) CR.body [some (.ref w.i),some (.str wF),some (.lst [v]),some (.meth 766 (w.j+1)),some (.meth m (w.j+1)),none,none,none,none,none,none,none,none,none,none,none] H (iN Q) (iR Q) X from
   B4 (.dni (.l rfl) (.attr (.l rfl) a.W rfl) (a.blk 4 _ rfl) rfl) (N4 (.eq (.dix (.attr (.l rfl) a.W rfl) (.l rfl) (a.blk 4 _ rfl) rfl) (a.kn.fn.trans hf)) (B4 (fun ø ø q=>aI (le 1 (by decide)) (aI (le 1 (by decide)) q)) (B4 (.ge (z:=20) (.eq (.attr (.l rfl) a.W rfl) (congrArg V.int (a.kn.d.trans hd))) (.attr (.l rfl) a.W rfl))
    (AN (v:=PM) (fun ø ø q=>aI (le 2 (by decide)) q) (AN (.comp2 rfl (.l rfl) (.tup (.cons (.l rfl) (.cons (.eq (.dget (.attr (.l rfl) a.W rfl) (.l rfl) a.N) (y:=.none) (by rw[hxl];rfl)) .nil))) (.tup (.cons (.l rfl) (.cons (.eq (.dget (.attr (.l rfl) a.W rfl) (.l rfl) a.N) (y:=.none) (by rw[hxl];rfl)) .nil))))
     (fU rfl (.l rfl) (.l rfl) (.call (.cons (.l rfl) (.cons (.call (.cons (.l rfl) (.cons (.l rfl) .nil)) (kh .X a)) (.cons (.attr (.l rfl) a.W rfl) (.cons (.attr (.l rfl) a.W rfl) .nil))))) q)))))))
  fun xv h1=>AO (hb xv h1).r fun rb b1 b2=>by
   have run:∀{r:Rs},rb.nx (fun u=>PC c 204 [u,.str Hn,.int 16,.int 4] r) r->Rp κ (pS c (CR.body.drop 7) (fS (fS (fS (fS (fS (fS (fO CR fun w=>[.ref w.i,.str wF,.lst [v],.meth 766 (w.j+1),.meth m (w.j+1)]) 5 (.lst [.str wX])) 6 fb) 7 (.int (-1))) 8 PM) 10 N7) 12 (.lst [xv]))) b [] r:=fun {r} hr w L s B H Q X kn h q=>by
    obtain⟨g,x,d⟩:=s
    have e1:x=none:=kn.x.trans hx
    have e2:d=0:=kn.d.trans hd
    subst e1 e2
    exact Wf (as:=fun ø=>[]) kh hide lay kn h b2 hr q
   clear b2;cases rb with
   |er e=>exact EK.of (Bn (.er e) b1 (run rfl))
   |ok u=>exact AO (hr u b1) fun r r1 r2=>EK.of (Bn r r1 (run r2)))
section
variable {κ:CN}{c:A7}{P:V->Prop}{v:V}{b:Nat}
theorem cY(h:EK κ P (pC c 649 fun w=>[.ref w.i,.str wF,.lst [v],.meth 766 (w.j+1),.meth 806 (w.j+1)]) b):EK κ P (pC (step c) 799 fun w=>[.ref (w.j+1),.str wF,.lst [v]]) b:=
 .fn rfl rfl (fun ø=>rfl) (.tail h fun w s H Q X a q=>N5 (.din (.l rfl) (.attr (.attr (.l rfl) a.run rfl) a.W rfl) (a.blk 4 _ rfl) rfl) (.call (.cons (.attr (.l rfl) a.run rfl) (.cons (.l rfl) (.cons (.l rfl) (.cons (.am (.l rfl) a.run rfl) (.cons (.am (.l rfl) a.run rfl) .nil)))))) q)
theorem aL{sub:V}(h:EK κ P (pC c 799 fun w=>[.ref (w.j+1),.str wF,.lst [v]]) b):EK κ P (pC (step c) 740 fun w=>[.tup [.str Sw,.str wF,sub],.lst [v],.ref (w.j+1)]) b:=
 .fn rfl rfl (fun ø=>rfl) (.tail h fun w s H Q X a q=>AN (.ix (.l rfl) rfl) (B4 (fun ø ø q=>q) (B4 (.orf (fun ø ø q=>q) (fun ø ø q=>q)) (B4 (fun ø ø q=>q) (B4 (fun ø ø q=>q) (B4 (fun ø ø q=>q) (E6 (.ift (fun ø ø q=>q) (.m (.l rfl) a.run rfl (.cons (.ix (.l rfl) rfl) (.cons (.l rfl) .nil)))) q)))))))
end
structure HP (κ:CN)(fb:T):Prop where
 x:κ.x=none
 d:κ.d=0
 fn:κ.fn=.tup [.lst [.str wX],fb.v,.int (-1)]
 a:κ.t 0->Bl 2 2 (κ.g 0)
 b:κ.t 1->Bl 2 1 (κ.g 1)
 c:κ.t 2->Bl 2 2 (κ.g 2)
 ar:∀a:Ar,κ.t a.k->∃n xs,κ.g a.k=V.arr n xs/\(xs.length=n+1/\n<=10)/\∀v,v∈xs->Bl 2 2 v
 asks:fb.asks<=10
 cost:fb.cost<=100
noncomputable def bK(κ:CN)(fb:T):Prop:=κ.t 1/\∀xv,Bl 2 2 xv->fb.ok (κ.inn xv) False
theorem kh(n:Nat):aQ (nc (n+2)):=dY (c:=nc (n+1)) TU
theorem kU(h:κ.t 1):SG κ .B (κ.g 1):=fun w s k=>by
 refine(?_:some (s.g 1)=_)
 exact Aj (k.g 1 h) rfl
theorem Ki(h:IT.dec.ok g m v w):Bl g (m+1) w:=Dv.val h
theorem TC(k:HP κ fb)(n:Nat)(f:bK κ fb):PA κ (nc (n+14)) (Bl 4 8) (.fna (.name .B)):=
 Uo (c:=nc (n+14)) (t:=.fna (.name .B)) (p:=.name .B) (P1:=fun v=>v=κ.g 1) M8 trivial rfl rfl 10 rfl (N1 (c:=nc (n+14)) (t:=.name .B) M8 trivial rfl rfl (OO (c:=nc (n+13)) (vn (n+10) (kU f.1) rfl))) fun v e=>by
  subst e
  exact aL (c:=nc (n+13)) (cY (c:=nc (n+12)) (cU (c:=nc (n+11)) (m:=806) (kh (n+9)) Wm (Zo (c:=nc (n+10)) XT) k.x k.d k.fn ((PW (n+4)).suit .dec 2 1 _ (k.b f.1) (by decide) (by decide))
   (fun xv h=>(U5 (c:=nc (n+10)) (Vj (c:=nc (n+9)) (nB (n:=n) (g:=2) (m:=2) (by decide) (fun h=>h.elim) (by decide) (by decide) fb (f.2 _ (Ki h))) (Ag k.cost (by decide)))).less k.asks)
   fun u hu=>((PW (n+4)).suit .dec 4 7 u hu (by decide) (by decide)).mono (fun v h=>Ki h) fun ø h=>h))
theorem Sl{κ:CN}{fb:T}(k:HP κ fb)(n:Nat){t:T}(h:t.ok κ (bK κ fb))(hc:t.cost<=300):EK κ (Bl 8 19) (pC (nc (n+15)) 745 fun w=>[t.v,.ref (w.j+1)]) t.asks:=
 Vj (c:=nc (n+14)) (nB (κ:=κ) (n:=n+5) (g:=4) (m:=8) (by decide) (TC k n) (by decide) (by decide) t h) hc
theorem MK{κ:CN}{fb:T}(k:HP κ fb)(n:Nat){t:T}(h:t.ok κ (bK κ fb))(h1:t.one)(hc:t.cost<=300):EK κ (Bl 4 8) (pC (nc (n+15)) 745 fun w=>[t.v,.ref (w.j+1)]) t.asks:=
 Vj (c:=nc (n+14)) (X5 (κ:=κ) (n:=n+5) (g:=4) (m:=8) (by decide) (TC k n) t h1 h) hc
noncomputable def tx:Nat->Ao
 |0=>⟨#[53]⟩
 |1=>⟨#[45,50]⟩
 |2=>⟨#[120]⟩
 |_=>⟨#[34,113,34]⟩
noncomputable def tt:Nat->Ao
 |0=>⟨#[53]⟩
 |1=>⟨#[45,50]⟩
 |2=>⟨#[120]⟩
 |_=>⟨#[113]⟩
noncomputable def dt:Nat->V
 |0=>.tup [V.dec 5 0,.int 1]
 |1=>.tup [V.dec (-2) 0,.int 2]
 |_=>.none
noncomputable def nt:Nat->V
 |0=>V.dec 5 0
 |1=>V.dec (-2) 0
 |_=>.none
noncomputable def mC(c:A7):Prop:=∀{p:Nat} {H:MH},p<4->PV c false 476 [.str (tx p),.int 4] H (dt p)
theorem lE:PV (step c) false 462 [.str ⟨#[53]⟩,.int 0] H (.tup [.int 5,.int 1,.int 1]):=fun Q X q=>IL rfl rfl rfl rfl (OA (.cons .k (.cons (.l rfl) .nil)) (N6 (n:=400) rfl (nT (by intro Q X q;repeat(first|exact q|refine vB.t rfl ?_|refine vB.f rfl ?_|refine aI (by decide) ?_|refine ⟨⟨by decide,by decide⟩,?_⟩)) (AN (v:=.int 5) (by intro Q X q;repeat(first|exact q|refine vB.t rfl ?_|refine vB.f rfl ?_|refine aI (by decide) ?_|refine ⟨⟨by decide,by decide⟩,?_⟩)) (QU rfl .k (fun ø q=>q) (Ls (Xa (by intro Q X q;repeat(first|exact q|refine vB.t rfl ?_|refine vB.f rfl ?_|refine aI (by decide) ?_|refine ⟨⟨by decide,by decide⟩,?_⟩)) (Ba (v:=.tup [.int 5,.int 1,.int 1]) (by intro Q X q;repeat(first|exact q|refine vB.t rfl ?_|refine vB.f rfl ?_|refine aI (by decide) ?_|refine ⟨⟨by decide,by decide⟩,?_⟩)) (aI rfl q)))))))))
theorem lC:PV (step c) false 462 [.str ⟨#[45,50]⟩,.int 1] H (.tup [.int 2,.int 1,.int 2]):=fun Q X q=>IL rfl rfl rfl rfl (OA (.cons .k (.cons (.l rfl) .nil)) (N6 (n:=400) rfl (nT (by intro Q X q;repeat(first|exact q|refine vB.t rfl ?_|refine vB.f rfl ?_|refine aI (by decide) ?_|refine ⟨⟨by decide,by decide⟩,?_⟩)) (AN (v:=.int 2) (by intro Q X q;repeat(first|exact q|refine vB.t rfl ?_|refine vB.f rfl ?_|refine aI (by decide) ?_|refine ⟨⟨by decide,by decide⟩,?_⟩)) (QU rfl .k (fun ø q=>q) (Ls (Xa (by intro Q X q;repeat(first|exact q|refine vB.t rfl ?_|refine vB.f rfl ?_|refine aI (by decide) ?_|refine ⟨⟨by decide,by decide⟩,?_⟩)) (Ba (v:=.tup [.int 2,.int 1,.int 2]) (by intro Q X q;repeat(first|exact q|refine vB.t rfl ?_|refine vB.f rfl ?_|refine aI (by decide) ?_|refine ⟨⟨by decide,by decide⟩,?_⟩)) (aI rfl q)))))))))
theorem lG:PV (step c) false 462 [.str ⟨#[120]⟩,.int 0] H (.tup [.int 0,.int 0,.int 0]):=fun Q X q=>IL rfl rfl rfl rfl (OA (.cons .k (.cons (.l rfl) .nil)) (N6 (n:=400) rfl (Xa (by intro Q X q;repeat(first|exact q|refine vB.t rfl ?_|refine vB.f rfl ?_|refine aI (by decide) ?_|refine ⟨⟨by decide,by decide⟩,?_⟩)) (Ba (v:=.tup [.int 0,.int 0,.int 0]) (by intro Q X q;repeat(first|exact q|refine vB.t rfl ?_|refine vB.f rfl ?_|refine aI (by decide) ?_|refine ⟨⟨by decide,by decide⟩,?_⟩)) (aI rfl q)))))
theorem lF:PV (step c) false 462 [.str ⟨#[34,113,34]⟩,.int 0] H (.tup [.int 0,.int 0,.int 0]):=fun Q X q=>IL rfl rfl rfl rfl (OA (.cons .k (.cons (.l rfl) .nil)) (N6 (n:=400) rfl (Xa (by intro Q X q;repeat(first|exact q|refine vB.t rfl ?_|refine vB.f rfl ?_|refine aI (by decide) ?_|refine ⟨⟨by decide,by decide⟩,?_⟩)) (Ba (v:=.tup [.int 0,.int 0,.int 0]) (by intro Q X q;repeat(first|exact q|refine vB.t rfl ?_|refine vB.f rfl ?_|refine aI (by decide) ?_|refine ⟨⟨by decide,by decide⟩,?_⟩)) (aI rfl q)))))
theorem Q6(h:s.length=n)(hm:n<=Ap):PV (step c) false 469 [.str s,.int n] H (.tup [.int 0,.int n]):=fun Q X q=>IL rfl rfl rfl rfl (Ho (.ort (.eq (.ge (.l rfl) (.lenS (.l rfl) (h▸hm))) (congrArg V.bool (decide_eq_true (by rw[h];exact Int.le_refl _))))) (.tup (.cons .k (.cons (.l rfl) .nil))) (aI rfl q))
theorem cV{c:A7}(NL:NT c){n:Nat}(h0:0<n)(h:n<10){H:MH}:PV c false 141 [.int n] H (.int 1):=AO (NL (GL h (by decide))) fun k hk fk=>by
 have k1:k=1:=hk.2.2.1.elim id fun h'=>by
  have:=(NK (a:=10) (by decide)).mp (DJ h' (show n<10 ^ 1 from h))
  exact AL (CY xa (.num 1) [.l xa (Lp xb (.num 1)),.t xb (.num 1)] As (OB _ _) this) (GK (.num 1) xa [.t (.num 0) xa] As hk.2.2.2)
 clear hk;subst k1
 exact fk
theorem eF{c:A7}(NL:NT c){a:Int}(h0:0<a.natAbs)(h:a.natAbs<10){H:MH}:PV (step c) false 155 [.int a,.int 0,.int 4] H (V.dec a 0):=fun Q X q=>
 have f:=fun {H}=>cV NL h0 h (H:=H)
 have ns:((a.natAbs:Int)).fmod 10=(a.natAbs:Nat):=(Int.ofNat_fmod a.natAbs 10).symm.trans (congrArg Int.ofNat (Nat.mod_eq_of_lt h))
 have n0:¬(a.natAbs:Int)=0:=fun e=>Cq h0 (Ga.mp e)
 have fin:PE (cf c false) (.ite (.cmp .Lt (.l 0) (.k (.int 0))) (.neg (.l 3)) (.l 3)) [some (.int a),some (.int 0),some (.int 4),some (.int a.natAbs),some (.int (-3)),some (.int 0)] [] (.int a):=by
  by_cases ha:a<0
  ·exact .ift (.eq (.lt (.l rfl) .k) (congrArg V.bool (decide_eq_true ha))) (.neg (.l rfl) (by lia))
  ·exact .iff (.eq (.lt (.l rfl) .k) (congrArg V.bool (decide_eq_false ha))) (.eq (.l rfl) (congrArg V.int (by lia)))
 IL rfl rfl rfl rfl (AN (.abs (.l rfl) (Qv a)) (AN (v:=.int (-3)) (.sub (.call (.cons (.l rfl) .nil) f) (.l rfl) rfl) (B4 (.gt (y:=-3) (z:=0) (.l rfl) .k) (B4 (.eq (.ei (.l rfl) .k) (congrArg V.bool (decide_eq_false n0))) (N6 (n:=400) rfl (Xa (.eq (.ei (.fmod (.l rfl) .k (by decide) ns) .k) (congrArg V.bool (decide_eq_false n0)))
  (AN (v:=.int 0) (.sub (.add (.l rfl) (.call (.cons (.l rfl) .nil) f) rfl) .k rfl) (B4 (.gt (y:=0) (z:=99) (.l rfl) .k) (B4 (.lt (y:=0) (z:=-99) (.l rfl) (.neg .k rfl)) (Ba (.tup (.cons fin (.cons (.l rfl) .nil))) (aI rfl q)))))))))))
theorem pP{c:A7}(NL:NT c)(md:∀{a:Int},0<a.natAbs->a.natAbs<10->∀{H:MH},PV c false 155 [.int a,.int 0,.int 4] H (V.dec a 0)){a:Int}(h0:0<a.natAbs)(h:a.natAbs<10){H:MH}:PV (step c) false 483 [.int a,.int 0,.int 4] H (V.dec a 0):=fun Q X q=>
 have n0:¬a=0:=fun e=>by clear q h;subst e;exact EH 0 h0
 IL rfl rfl rfl rfl (AN (v:=.int 0) (.sub (.add (.l rfl) (.call (.cons (.abs (.l rfl) (Qv a)) .nil) (cV NL h0 h)) rfl) .k rfl) (B4 (.orf (.eq (.ei (.l rfl) .k) (congrArg V.bool (decide_eq_false n0))) (.lt (y:=0) (z:=-198) (.l rfl) (.mul (y:=-2) (z:=99) (.neg .k rfl) .k ⟨by decide,by decide⟩ rfl))) (B4 (.gt (y:=0) (z:=198) (.l rfl) (.mul (y:=2) (z:=99) .k .k ⟨by decide,by decide⟩ rfl)) (Ba (.call (.cons (.l rfl) (.cons (.l rfl) (.cons (.l rfl) .nil))) (md h0 h)) (aI rfl q)))))
theorem oB(td:∀{a:Int},0<a.natAbs->a.natAbs<10->∀{H:MH},PV (step c) false 483 [.int a,.int 0,.int 4] H (V.dec a 0)):PV (step (step c)) false 476 [.str ⟨#[53]⟩,.int 4] H (.tup [V.dec (5) 0,.int 1]):=fun Q X q=>IL rfl rfl rfl rfl (AN .k (N6 (n:=400) rfl (Xa (by intro Q X q;repeat(first|exact q|refine vB.t rfl ?_|refine vB.f rfl ?_|refine aI (by decide) ?_|refine ⟨⟨by decide,by decide⟩,?_⟩)) (AN (v:=.bool false) (by intro Q X q;repeat(first|exact q|refine vB.t rfl ?_|refine vB.f rfl ?_|refine aI (by decide) ?_|refine ⟨⟨by decide,by decide⟩,?_⟩)) (B4 (by intro Q X q;repeat(first|exact q|refine vB.t rfl ?_|refine vB.f rfl ?_|refine aI (by decide) ?_|refine ⟨⟨by decide,by decide⟩,?_⟩)) (O9 (.call (.cons (.l rfl) (.cons (.l rfl) .nil)) lE) (AN .k (B4 (by intro Q X q;repeat(first|exact q|refine vB.t rfl ?_|refine vB.f rfl ?_|refine aI (by decide) ?_|refine ⟨⟨by decide,by decide⟩,?_⟩)) (B4 (by intro Q X q;repeat(first|exact q|refine vB.t rfl ?_|refine vB.f rfl ?_|refine aI (by decide) ?_|refine ⟨⟨by decide,by decide⟩,?_⟩)) (Yg (.call (.cons (.l rfl) (.cons (.l rfl) .nil)) (Q6 (n:=1) rfl (by decide))) (Ba (.tup (.cons (.call (.cons (v:=.int (5)) (by intro Q X q;repeat(first|exact q|refine vB.t rfl ?_|refine vB.f rfl ?_|refine aI (by decide) ?_|refine ⟨⟨by decide,by decide⟩,?_⟩)) (.cons (v:=.int 0) (by intro Q X q;repeat(first|exact q|refine vB.t rfl ?_|refine vB.f rfl ?_|refine aI (by decide) ?_|refine ⟨⟨by decide,by decide⟩,?_⟩)) (.cons (.l rfl) .nil))) (td (by decide) (by decide))) (.cons (.l rfl) .nil))) (aI rfl q))))))))))))
theorem oA(td:∀{a:Int},0<a.natAbs->a.natAbs<10->∀{H:MH},PV (step c) false 483 [.int a,.int 0,.int 4] H (V.dec a 0)):PV (step (step c)) false 476 [.str ⟨#[45,50]⟩,.int 4] H (.tup [V.dec (-2) 0,.int 2]):=fun Q X q=>IL rfl rfl rfl rfl (AN .k (N6 (n:=400) rfl (Xa (by intro Q X q;repeat(first|exact q|refine vB.t rfl ?_|refine vB.f rfl ?_|refine aI (by decide) ?_|refine ⟨⟨by decide,by decide⟩,?_⟩)) (AN (v:=.bool true) (by intro Q X q;repeat(first|exact q|refine vB.t rfl ?_|refine vB.f rfl ?_|refine aI (by decide) ?_|refine ⟨⟨by decide,by decide⟩,?_⟩)) (Yj (by intro Q X q;repeat(first|exact q|refine vB.t rfl ?_|refine vB.f rfl ?_|refine aI (by decide) ?_|refine ⟨⟨by decide,by decide⟩,?_⟩)) (QU rfl .k (fun ø q=>q) (Ls (O9 (.call (.cons (.l rfl) (.cons (.l rfl) .nil)) lC) (AN .k (B4 (by intro Q X q;repeat(first|exact q|refine vB.t rfl ?_|refine vB.f rfl ?_|refine aI (by decide) ?_|refine ⟨⟨by decide,by decide⟩,?_⟩)) (B4 (by intro Q X q;repeat(first|exact q|refine vB.t rfl ?_|refine vB.f rfl ?_|refine aI (by decide) ?_|refine ⟨⟨by decide,by decide⟩,?_⟩)) (Yg (.call (.cons (.l rfl) (.cons (.l rfl) .nil)) (Q6 (n:=2) rfl (by decide))) (Ba (.tup (.cons (.call (.cons (v:=.int (-2)) (by intro Q X q;repeat(first|exact q|refine vB.t rfl ?_|refine vB.f rfl ?_|refine aI (by decide) ?_|refine ⟨⟨by decide,by decide⟩,?_⟩)) (.cons (v:=.int 0) (by intro Q X q;repeat(first|exact q|refine vB.t rfl ?_|refine vB.f rfl ?_|refine aI (by decide) ?_|refine ⟨⟨by decide,by decide⟩,?_⟩)) (.cons (.l rfl) .nil))) (td (by decide) (by decide))) (.cons (.l rfl) .nil))) (aI rfl q))))))))))))))
theorem oF:PV (step (step c)) false 476 [.str ⟨#[120]⟩,.int 4] H .none:=fun Q X q=>IL rfl rfl rfl rfl (AN .k (N6 (n:=400) rfl (Xa (by intro Q X q;repeat(first|exact q|refine vB.t rfl ?_|refine vB.f rfl ?_|refine aI (by decide) ?_|refine ⟨⟨by decide,by decide⟩,?_⟩)) (AN (v:=.bool false) (by intro Q X q;repeat(first|exact q|refine vB.t rfl ?_|refine vB.f rfl ?_|refine aI (by decide) ?_|refine ⟨⟨by decide,by decide⟩,?_⟩)) (B4 (by intro Q X q;repeat(first|exact q|refine vB.t rfl ?_|refine vB.f rfl ?_|refine aI (by decide) ?_|refine ⟨⟨by decide,by decide⟩,?_⟩)) (O9 (.call (.cons (.l rfl) (.cons (.l rfl) .nil)) lG) (AN .k (B4 (by intro Q X q;repeat(first|exact q|refine vB.t rfl ?_|refine vB.f rfl ?_|refine aI (by decide) ?_|refine ⟨⟨by decide,by decide⟩,?_⟩)) (Ho (by intro Q X q;repeat(first|exact q|refine vB.t rfl ?_|refine vB.f rfl ?_|refine aI (by decide) ?_|refine ⟨⟨by decide,by decide⟩,?_⟩)) .k (aI rfl q))))))))))
theorem oE:PV (step (step c)) false 476 [.str ⟨#[34,113,34]⟩,.int 4] H .none:=fun Q X q=>IL rfl rfl rfl rfl (AN .k (N6 (n:=400) rfl (Xa (by intro Q X q;repeat(first|exact q|refine vB.t rfl ?_|refine vB.f rfl ?_|refine aI (by decide) ?_|refine ⟨⟨by decide,by decide⟩,?_⟩)) (AN (v:=.bool false) (by intro Q X q;repeat(first|exact q|refine vB.t rfl ?_|refine vB.f rfl ?_|refine aI (by decide) ?_|refine ⟨⟨by decide,by decide⟩,?_⟩)) (B4 (by intro Q X q;repeat(first|exact q|refine vB.t rfl ?_|refine vB.f rfl ?_|refine aI (by decide) ?_|refine ⟨⟨by decide,by decide⟩,?_⟩)) (O9 (.call (.cons (.l rfl) (.cons (.l rfl) .nil)) lF) (AN .k (B4 (by intro Q X q;repeat(first|exact q|refine vB.t rfl ?_|refine vB.f rfl ?_|refine aI (by decide) ?_|refine ⟨⟨by decide,by decide⟩,?_⟩)) (Ho (by intro Q X q;repeat(first|exact q|refine vB.t rfl ?_|refine vB.f rfl ?_|refine aI (by decide) ?_|refine ⟨⟨by decide,by decide⟩,?_⟩)) .k (aI rfl q))))))))))
theorem cL(n:Nat):mC (nc (n+8)):=fun {p H} hp=>by
 have td:=fun {a} (h0:0<Int.natAbs a) h {H}=>pP (c:=nc (n+6)) (NL (n+5)) (fun {a} h0 h {H}=>eF (c:=nc (n+5)) (NL (n+4)) h0 h (H:=H)) h0 h (H:=H)
 rcases p with _ | _ | _ | _ | p
 ·exact oB (c:=nc (n+6)) td
 ·exact oA (c:=nc (n+6)) td
 ·exact oF (c:=nc (n+6))
 ·exact oE (c:=nc (n+6))
 ·lia
theorem YP:Txt.find3 ⟨#[34,113,34]⟩ ⟨#[34]⟩ 1=2:=by decide+kernel
theorem eT(n:Nat)(q:Q (.tup [.str ⟨#[113]⟩,.int 3]) H):nc (n+2) false 663 [.str ⟨#[34,113,34]⟩,.int 0] H Q X:=by
 refine CS (c:=nc (n+1)) rfl rfl rfl rfl ?_
 refine aI rfl ?_
 show AV (cf (nc (n+1)) false) (Hg.body.drop 1) [some (.str ⟨#[34,113,34]⟩),some (.int 0),some (.int (Txt.find3 ⟨#[34,113,34]⟩ ⟨#[34]⟩ 1))] [] _ _ _
 refine Aj YP ?_
 repeat(first|exact q|refine vB.t rfl ?_|refine vB.f rfl ?_|refine aI (by decide) ?_|refine ⟨⟨by decide,by decide⟩,?_⟩ | refine aI ⟨by decide,by decide,by decide⟩ ?_)
noncomputable def mJ(c:A7):Prop:=∀{p:Nat} {H:MH},p<4->PV c false 677 [.str (tx p)] H (.str (tt p))
theorem gQ(n:Nat):mJ (nc (n+3)):=fun {p H} hp Q X q=>by
 refine CS (c:=nc (n+2)) rfl rfl rfl rfl ?_
 rcases p with _ | _ | _ | _ | p
 ·repeat(first|exact q|refine vB.t rfl ?_|refine vB.f rfl ?_|refine aI (by decide) ?_|refine ⟨⟨by decide,by decide⟩,?_⟩ | refine aI ⟨by decide,by decide,by decide⟩ ?_)
 ·repeat(first|exact q|refine vB.t rfl ?_|refine vB.f rfl ?_|refine aI (by decide) ?_|refine ⟨⟨by decide,by decide⟩,?_⟩ | refine aI ⟨by decide,by decide,by decide⟩ ?_)
 ·repeat(first|exact q|refine vB.t rfl ?_|refine vB.f rfl ?_|refine aI (by decide) ?_|refine ⟨⟨by decide,by decide⟩,?_⟩ | refine aI ⟨by decide,by decide,by decide⟩ ?_)
 ·exact QD (by decide) (by decide) (vB.f rfl (eT n (aI (by decide) (vB.t rfl (aI rfl q)))))
 ·omega
theorem UL:(Txt.rstripChars (tx 0) ⟨#[32]⟩).length=1:=by decide+kernel
theorem UM:(Txt.rstripChars (tx 1) ⟨#[32]⟩).length=2:=by decide+kernel
noncomputable def mH(c:A7):Prop:=∀{κ:CN} {w:Wd} {s:EL} {H:MH} {p:Nat},p<4->Acc κ w s H->PV c false 846 [.ref (w.j+1),.str (tx p)] H (nt p)
theorem eM(d:mC c):mH (step c):=fun {κ w s H p} hp h Q X q=>PB rfl rfl rfl (AN (.call (.cons (.l rfl) (.cons (.attr (.l rfl) h.run rfl) .nil)) (d hp)) (by
 rcases p with _ | _ | _ | _ | p
 ·exact vB.t rfl (YT i1 (by decide) (by rw[UL];decide) (vB.t (by rw[UL];rfl) (aI i0 q)))
 ·exact vB.t rfl (YT i1 (by decide) (by rw[UM];decide) (vB.t (by rw[UM];rfl) (aI i0 q)))
 ·exact vB.f rfl (vB.f rfl q)
 ·exact vB.f rfl (vB.f rfl q)
 ·omega))
noncomputable abbrev pM:Ao:=⟨#[79,68]⟩
noncomputable abbrev pO:Ao:=⟨#[83,78]⟩
theorem ZL:C5 pM:=by decide+kernel
theorem UA:C5 pO:=by decide+kernel
noncomputable def IT.rv(k:IT)(v:V):Prop:=match k with
 |.text=>∃s:Ao,v=.str s/\s.length<=255
 |_=>∃a:Int,v=V.dec a 0/\a.natAbs<10
theorem lQ:C5 ⟨#[113]⟩:=by decide+kernel
theorem gS:∀p,C5 (tt p)
 |0=>by decide+kernel
 |1=>by decide+kernel
 |2=>by decide+kernel
 |_+3=>lQ
noncomputable def jK(c:A7):Prop:=∀{κ:CN} {w:Wd} {s:EL} {H:MH} {p:Nat} {k:Ao},p<4->k≠F5->Acc κ w s H->PV c false 670 [.str (tx p),.str k,.meth 846 (w.j+1)] H (nt p)
theorem hB(nt:mH c):jK (step c):=fun {κ w s H p k} hp hk h Q X q=>
 have hn:tx p≠⟨#[]⟩:=by rcases p with _ | _ | _ | _ | p<;>first | decide | omega
 PB rfl rfl rfl (B4 (.ns (.l rfl) .k hk) (E6 (.iff (.ns (.l rfl) .k hn) (.meth (.l rfl) rfl (.cons (.l rfl) .nil))) (nt hp h _ _ q)))
noncomputable def aP(κ:CN)(p:Nat)(k:IT)(q:Pg):Prop:=Fi κ (fun q=>q=(5,.int (p+1))) (fun us v=>us=[(5,.int (p+1))]/\Bl 2 1 v/\k.rv v) q 0
noncomputable def cZ(k:IT):Wd->Fr:=fO DG fun w=>[.ref w.i,.str k.str,.meth 846 (w.j+1)]
noncomputable def kG(p:Nat)(k:IT):Wd->Fr:=fS (fS (cZ k) 3 (.int 10)) 4 (.str (tx p))
noncomputable abbrev X3:E:=.attr (.l 0) ⟨#[115,112,111,116]⟩
noncomputable abbrev kE:E:=.ite (.cmp .Eq (.l 1) (.k (.str F5))) (.call (.k (.fn 677)) [.l 4]) (.call (.k (.fn 670)) [.l 4,.l 1,.l 2])
section
variable {κ:CN}{c:A7}{p:Nat}(h5:κ.t 5)(hp:κ.g 5=.int p)
include h5 hp
theorem QR(a:Acc κ w s H):PE (cf c false) X3 (cZ k w) H (.int p):=.eq (.attr (.l rfl) a.W rfl) ((a.kn.g 5 h5).trans hp)
theorem QS(a:Acc κ w s H)(h:decide ((4:Int)<=p)=b):PE (cf c false) (.cmp .GtE X3 (.call (.k (.bi .len)) [.attr (.l 0) ⟨#[100,97,116,97]⟩])) (cZ k w) H (.bool b):=
 .eq (.ge (QR h5 hp a) (fun ø ø q=>hO.e a.W (aI rfl (aI (lB rfl) q)))) (congrArg V.bool h)
theorem Qb(hu:∀q:Bool->Prop,q false->Rj u q)(h1:Bl 2 1 u)(h2:k.rv u):aP κ p k (pS c (DG.body.drop 3) (fS (kG p k) 5 u)):=
 .set rfl ⟨rfl,h1,h2⟩ fun w L s B H Q X h kn q=>B4 (.is (.l rfl) hu) (Qc (y:=p+1) (.l rfl) h.W (congrArg some ((kn.g 5 h5).trans hp)) ⟨rfl,lB rfl⟩ (fun ø q=>q) (Ba (.l rfl) (q _ (h.put 0 (by decide) rfl))))
theorem Ye(lt:p<4)(hu:∀{w s H},Acc κ w s H->PE (cf c false) kE (kG p k w) H u)(z:aP κ p k (pS c (DG.body.drop 3) (fS (kG p k) 5 u))):aP κ p k (pS c DG.body (cZ k)):=
 have it:aZ Tr p=some (.tup [.int 10,.str (tx p)]):=(if_pos ⟨BV (.num 0) za [.l (.num 0) za] As (AE _),DU za (.num 4611686018427387904) [.t za (.num 4)] As (Bg.2 lt)⟩).trans (by rcases p with _ | _ | _ | _ | p<;>first | rfl | omega)
 .step (fun w s H Q X a q=>B4 (QS h5 hp a (decide_eq_false (Int.not_le.2 (DU za (.num 4) [.t za (.num 4)] As (Bg.2 lt))))) (N4 (.ixe (.attr (.l rfl) a.W rfl) (QR h5 hp a) it) (AN (hu a) q))) z
theorem U3(vf:jK c)(hk:k.str≠F5)(rv:∀a:Int,a.natAbs<10->k.rv (V.dec a 0))(lt:p<4):aP κ p k (pS c DG.body (cZ k)):=by
 refine Ye h5 hp lt (fun a=>.iff (.ns (.l rfl) .k hk) (.call (.cons (.l rfl) (.cons (.l rfl) (.cons (.l rfl) .nil))) (vf lt hk a))) ?_
 rcases p with _ | _ | _ | _ | p
 ·exact Qb (u:=V.dec 5 0) h5 hp (fun ø q=>q) (.dec 5 0 (by decide) ⟨by decide,1,by decide,by decide,by decide⟩) (rv 5 (by decide))
 ·exact Qb (u:=V.dec (-2) 0) h5 hp (fun ø q=>q) (.dec (-2) 0 (by decide) ⟨by decide,1,by decide,by decide,by decide⟩) (rv (-2) (by decide))
 ·exact Fi.er UA fun w s H Q X a x=>Hp (.is (v:=.none) (.l rfl) fun ø q=>q) rfl (.cons .k (.cons (.l rfl) .nil)) (Ay 1) x
 ·exact Fi.er UA fun w s H Q X a x=>Hp (.is (v:=.none) (.l rfl) fun ø q=>q) rfl (.cons .k (.cons (.l rfl) .nil)) (Ay 1) x
 ·omega
theorem fQ(ti:mJ c)(vf:jK c)(k:IT):aP κ p k (pC (step c) 684 fun w=>[.ref w.i,.str k.str,.meth 846 (w.j+1)]):=.fn rfl rfl (fun ø=>rfl) (by
 by_cases lt:p<4
 ·induction k with
  |whole=>exact U3 h5 hp vf (by decide) (fun a h=>⟨a,rfl,h⟩) lt
  |dec=>exact U3 h5 hp vf (by decide) (fun a h=>⟨a,rfl,h⟩) lt
  |text=>
   have l:(tt p).length<=255:=by rcases p with _ | _ | _ | p<;>exact lB rfl
   exact Ye (k:=.text) h5 hp lt (fun a=>.ift (fun ø ø q=>q) (.call (.cons (.l rfl) .nil) (ti lt))) (Qb (u:=.str (tt p)) h5 hp (fun ø q=>q) (.str _ l (gS p)) ⟨_,rfl,l⟩)
 ·exact Fi.er ZL fun w s H Q X a x=>Hp (QS h5 hp a (decide_eq_true (BV (.num 4) za [.u za (.num 4)] As (mt Bg.1 lt)))) rfl (.cons .k .nil) (A3 _) x)
end
theorem nd(n:Nat)(h5:κ.t 5)(hp:κ.g 5=.int p)(k:IT):aP κ p k (pC (nc (n+12)) 839 fun w=>[.ref (w.j+1),.str k.str]):=
 .fn (c:=nc (n+11)) rfl rfl (fun ø=>rfl) (.tail (fQ (c:=nc (n+10)) h5 hp (gQ (n+7)) (hB (c:=nc (n+9)) (eM (c:=nc (n+8)) (cL n))) k) fun w s H Q X a q=>E6 (.call (.cons (.attr (.l rfl) a.run rfl) (.cons (.l rfl) (.cons (.am (.l rfl) a.run rfl) .nil)))) q)
set_option genCtorIdx true in
inductive Vn where
 |A | B | C
noncomputable def Vn.nm:Vn->Nm
 |.A=>.A
 |.B=>.B
 |.C=>.C
noncomputable def Vn.k:Vn->Nat
 |.A=>0
 |.B=>1
 |.C=>2
theorem In.nup(h:In w L s B H)(n:Vn)(x:V):In w L (s.up n.k x) B (H.set (w.i+1) (.dict (putL n.nm.s x ((wA,s.g 0)::(wB,s.g 1)::(wC,s.g 2)::xL s.x)))):=by
 induction n<;>exact h.put 1 (by decide) rfl
theorem In.aup(h:In w L s B H)(a:Ar)(e:s.g a.k=V.arr n xs):In w L (s.up a.k (V.arr n ys)) B (H.set (w.i+(a.o+1)) (.list ys)):=by
 induction a with
 |R=>exact h.put 9 (by decide) (by
   have e1:Wl (s.g 3)=.lst [.int n]:=by rw[show s.g 3=_ from e];rfl
   unfold WB;refine Aj e1 ?_;rfl)
 |S=>exact h.put 11 (by decide) (by
   have e1:Wl (s.g 4)=.lst [.int n]:=by rw[show s.g 4=_ from e];rfl
   unfold WB;rw[e1];rfl)
section
variable {κ:CN}{c:A7}{G:Nat×V->Prop}{R:List (Nat×V)->V->Prop}{P:V->Prop}{v:V}
theorem gH(kh:aQ c)(n:Vn)(hp:∃r:Rs,r.sat P C5/\PC c 204 [v,.str n.nm.kd.str,.int 16,.int 4] r)(hG:∀x,P x->G (n.k,x))(hR:∀x,P x->R [(n.k,x)] .none):Fi κ G R (pC (step c) 331 fun w=>[.ref w.i,.str n.nm.s,v]) 0:=
 .fn rfl rfl (fun ø=>rfl) (.call (EK.pc hp) (K:=fun x=>pS c [.setI (.attr (.l 0) ⟨#[110,97,109,101,115]⟩) (.l 1) (.k x)] (fO KQ _)) (b2:=0) (Ay 0)
  (fun w s H Q X a q=>UF (.call (.cons (.l rfl) (.cons (.call (.cons (.l rfl) (.cons (.l rfl) .nil)) (kh n.nm a)) (.cons (.attr (.l rfl) a.W rfl) (.cons (.attr (.l rfl) a.W rfl) .nil))))) q)
  fun x hx=>.set (hG x hx) (hR x hx) fun w L s B H Q X h kn q=>UE .k (.attr (.l rfl) h.W rfl) (.l rfl) h.N (by cases s.x<;>exact lB rfl) (q _ (h.nup n x)))
theorem dO(nf:jI c)(n:Vn)(h:Fi κ G R (pC c 331 fun w=>[.ref w.i,.str n.nm.s,v]) 0)(hR:∀us v,R us v->R us .none):Fi κ G R (pC (step c) 644 fun w=>[.ref w.i,.str n.nm.s,v]) 0:=
 .fn rfl rfl (fun ø=>rfl) (.then (K:=fun ø=>pS c (EI.body.drop 1) (fO EI fun w=>[.ref w.i,.str n.nm.s,v])) h
   (fun w s H Q X a q=>IE (.call (.cons (.l rfl) (.cons (.l rfl) (.cons (.l rfl) .nil)))) q) (fun v a q=>UD (.call (.cons (.l rfl) (.cons (.l rfl) .nil)) (nf n.nm.s a)) q) hR)
theorem gK(n:Vn)(h:Fi κ G R (pC c 644 fun w=>[.ref w.i,.str n.nm.s,v]) 0)(hR:∀us v,R us v->R us .none):Fi κ G R (pC (step c) 827 fun w=>[.ref (w.j+1),.str n.nm.s,v]) 0:=
 .fn rfl rfl (fun ø=>rfl) (.then (K:=fun ø=>pV .none) h
  (fun w s H Q X a q=>IE (.call (.cons (.attr (.l rfl) a.run rfl) (.cons (.l rfl) (.cons (.l rfl) .nil)))) q) (fun ø ø q=>q) hR)
theorem gD(go:iE c)(po:iH c)(k:bI κ a n xs)(hp:∃r:Rs,r.sat P C5/\PC c 204 [v,.str a.nm.kd.str,.int 16,.int 4] r)(hG:∀x,P x->G (a.k,V.arr n (xs.set i.toNat x)))(hR:∀x,P x->R [(a.k,V.arr n (xs.set i.toNat x))] .none):
  Fi κ G R (pC (step c) 288 fun w=>[.ref w.i,.str a.nm.s,.lst [.int i],v]) 0:=
 .fn rfl rfl (fun ø=>rfl) (
  have st:∀{w s H Q X},Acc κ w s H->(¬(0<=i/\i<=n)->X fT H)->(0<=i/\i<=n->pS c (El.body.drop 2) (fS (fun w=>AC (fO El (fun w=>[.ref w.i,.str a.nm.s,.lst [.int i],v]) w) 4 (.ref (w.i+a.o))) 5 (.int i)) w H Q X)->pS c El.body (fO El fun w=>[.ref w.i,.str a.nm.s,.lst [.int i],v]) w H Q X:=fun h x q=>
   AN (.call (.cons (.l rfl) (.cons (.l rfl) (.cons (fun ø ø q=>aI (lB rfl) q) .nil))) (go a h)) (UC (.call (.cons (.l rfl) (.cons (.l rfl) .nil))) (po i _ n _ _ _ _ _ _ (h.G a ((h.kn.g _ k.t).trans k.e)).1 q x))
  if hi:0<=i/\i<=n then
   .call (EK.pc hp) (K:=fun x=>pS c [.setI (.attr (.l 4) ⟨#[105,116,101,109,115]⟩) (.l 5) (.k x)] (fS (fun w=>AC (fO El (fun w=>[.ref w.i,.str a.nm.s,.lst [.int i],v]) w) 4 (.ref (w.i+a.o))) 5 (.int i))) (b2:=0) (Ay 0)
    (fun w s H Q X h q=>st h (absurd hi) fun ø=>UF (.call (.cons (.l rfl) (.cons (.attr (.l rfl) (h.G a ((h.kn.g _ k.t).trans k.e)).1 rfl) (.cons (.attr (.l rfl) h.W rfl) (.cons (.attr (.l rfl) h.W rfl) .nil))))) q)
    fun x hx=>.set (hG x hx) (hR x hx) fun w L s B H Q X h kn q=>Cd ((h.acc kn).G a ((kn.g _ k.t).trans k.e)) fun g1 g2=>
     ZP .k (.attr (.l rfl) g1 rfl) (.l rfl) g2 (by have:=k.l;exact⟨hi.1,by lia,Ag (show xs.length<=11 from CY xa (.num 11) [.e xa (Lp xb (.num 1)),.l xb (.num 10)] As this.1 this.2) (by decide)⟩) (q _ (h.aup a ((kn.g _ k.t).trans k.e)))
  else .er U6 fun w s H Q X h x=>st h (fun ø=>x) fun h=>absurd h hi)
theorem eS{a:Ar}{p:V}(hp:∃r:Rs,r.sat (fun u=>∃i:Int,u=.int i) C5/\PC c 176 [p,.int 16] r)(h:∀i:Int,Fi κ G R (pC c 288 fun w=>[.ref w.i,.str a.nm.s,.lst [.int i],v]) 0)(hR:∀us v,R us v->R us .none):Fi κ G R (pC (step c) 832 fun w=>[.ref (w.j+1),.str a.nm.s,.lst [p],v]) 0:=
 .fn rfl rfl (fun ø=>rfl) (.call (EK.pc hp) (K:=fun u=>pB (pC c 288 fun w=>[.ref w.i,.str a.nm.s,.lst [u],v]) fun ø=>pV .none) (b2:=0) (Ay 0)
  (fun w s H Q X a q=>Yh (.there (.attr (.l rfl) a.run rfl) (.there (.l rfl) (.comp rfl (.l rfl) (.call (.cons (.l rfl) (.cons (.attr (.l rfl) a.run rfl) .nil))) fun ø ø ø=>rfl))) q)
  fun u hu=>by
   obtain⟨i,rfl⟩:=hu
   exact .then (K:=fun ø=>pV .none) (h i) (fun ø ø ø ø ø ø q=>q) (fun ø ø q=>q) hR)
end
noncomputable def T.syn(t:Nat->Prop)(F:Prop)(x:Bool):T->Prop
 |.leaf v=>Bl 2 1 v
 |.name n=>match n with
  |.A=>t 0
  |.B=>t 1
  |.C=>t 2
  |.X=>x=true
  |_=>False
 |.item a s=>s.one/\s.syn t F x/\t a.k
 |.fna s=>s=.name .B/\t 1/\F
 |.two _ l r=>(l.one/\r.one)/\l.syn t F x/\r.syn t F x
theorem W5{κ:CN}{n:Vn}(h:κ.t n.k):SG κ n.nm (κ.g n.k):=fun w s k=>by
 induction n with
 |A=>exact congrArg some (k.g 0 h)
 |B=>exact congrArg some (k.g 1 h)
 |C=>exact congrArg some (k.g 2 h)
theorem HP.arK(k:HP κ fb)(a:Ar)(t:κ.t a.k):Ro κ a:=EM (k.ar a t) fun n xs e l hx=>RN n xs ⟨t,e,l⟩ hx
theorem Ro.inn(h:Ro κ a):Ro (κ.inn v) a:=LH h fun n xs k hx=>RN n xs ⟨k.t,k.e,k.l⟩ hx
theorem kP{w:Wd}{s:EL}{κ:CN}{v:V}(h:κ.x=some v):SG κ .X v:=fun w s k=>by
 refine(?_:(xL s.x).lookup wX=_)
 refine Aj (k.x.trans h) ?_;rfl
theorem L4{κ:CN}{F G:Prop}{x:Bool}(ha:κ.t 0->Bl 2 2 (κ.g 0))(hb:κ.t 1->Bl 2 1 (κ.g 1))(hc:κ.t 2->Bl 2 2 (κ.g 2))(ar:∀a:Ar,κ.t a.k->Ro κ a)
  (hx:x=true->∃v,κ.x=some v/\Bl 2 2 v) (hF:κ.t 1->F->G):∀{t:T},t.syn κ.t F x->t.ok κ G
 |.leaf _=>fun h=>h
 |.name .A=>fun h=>Bn _ (W5 (n:=.A) h) (ha h)
 |.name .B=>fun h=>Bn _ (W5 (n:=.B) h) ((hb h).mono (by decide) (by decide))
 |.name .C=>fun h=>Bn _ (W5 (n:=.C) h) (hc h)
 |.name .X=>fun h=>AO (hx h) fun v h1 h2=>Bn v (kP (w:=⟨0,0,[],.none,.none,.none⟩) (s:=⟨fun ø=>.none,none,0⟩) h1) h2
 |.name .R=>fun h=>h.elim
 |.name .S=>fun h=>h.elim
 |.name .F=>fun h=>h.elim
 |.item a s=>fun h=>⟨h.1,L4 ha hb hc ar hx hF (t:=s) h.2.1,ar a h.2.2⟩
 |.fna s=>fun h=>⟨h.1,hF h.2.1 h.2.2⟩
 |.two _ l r=>fun h=>⟨h.1,L4 ha hb hc ar hx hF (t:=l) h.2.1,L4 ha hb hc ar hx hF (t:=r) h.2.2⟩
theorem HP.fok(k:HP κ fb)(h1:κ.t 1)(h:fb.syn κ.t False true):bK κ fb:=⟨h1,fun xv hv=>L4 (κ:=κ.inn xv) k.a k.b k.c (fun a t=>(k.arK a t).inn) (fun ø=>Bn xv rfl hv) (fun ø f=>f) h⟩
noncomputable def T.told(x:T)(t:Nat->Prop)(fb:T):Prop:=x.syn t (fb.syn t False true) false
theorem HP.tree{κ:CN}{fb t:T}(k:HP κ fb)(h:t.told κ.t fb):t.ok κ (bK κ fb):=L4 k.a k.b k.c k.arK (fun h=>JF h) (fun h1 h2=>k.fok h1 h2) h
inductive Gl where
 |name (n:Vn) | item (a:Ar) (s:T)
noncomputable def Gl.v:Gl->V
 |.name n=>.tup [.str FX,.str n.nm.s]
 |.item a s=>.tup [.str F4,.str a.nm.s,.lst [s.v]]
noncomputable def Gl.k:Gl->Nat
 |.name n=>n.k
 |.item a _=>a.k
noncomputable def Gl.kd:Gl->IT
 |.name n=>n.nm.kd
 |.item a _=>a.nm.kd
noncomputable def Gl.told(t:Nat->Prop)(fb:T):Gl->Prop
 |.name n=>t n.k
 |.item a s=>t a.k/\s.told t fb/\s.one/\s.cost<=10/\s.asks<=20
inductive Pl where
 |name (n:Vn) | item (a:Ar) (p:V)
noncomputable def Pl.v:Pl->V
 |.name n=>.tup [.str FX,.str n.nm.s]
 |.item a p=>.tup [.str F4,.str a.nm.s,.lst [p]]
noncomputable def Pl.ok(t:Nat->Prop)(k:Nat):Pl->Prop
 |.name n=>t n.k/\n.k=k
 |.item a p=>t a.k/\a.k=k/\Bl 4 8 p
theorem XO(kh:aQ c)(γ:Gl)(a:Acc κ w s H):PV (step c) false 343 [.ref (w.j+1),γ.v] H (.str γ.kd.str):=fun Q X q=>PB rfl rfl rfl (by
 induction γ with
 |name n=>exact AN (.iff (fun ø ø q=>aI i0 q) .k) (Ba (.ift (fun ø ø q=>q) (.call (.cons (.attr (.l rfl) a.run rfl) (.cons (.ix (.l rfl) rfl) .nil)) (kh n.nm a))) q)
 |item b x=>
  refine AN (v:=.ref (w.i+b.o)) (.ift (fun ø ø q=>aI i0 q) (.eq (.dget (.attr (.attr (.l rfl) a.run rfl) a.W rfl) (.ix (.l rfl) rfl) (a.blk 2 _ rfl)) (by cases b<;>rfl))) (Ba (.iff (.is (.l rfl) fun ø q=>q) ?_) q)
  induction b with
  |R=>exact .attr (.l rfl) (a.blk 8 _ rfl) rfl
  |S=>exact .attr (.l rfl) (a.blk 10 _ rfl) rfl)
theorem LB{κ:CN}{fb:T}(k:HP κ fb)(n:Nat){p:Pl}{i:Nat}(hp:p.ok κ.t i):EK κ (Bl 4 8) (pC (nc (n+10)) 362 fun w=>[.ref (w.j+1),p.v]) 1:=.fn (c:=nc (n+9)) rfl rfl (fun ø=>rfl) (by
 induction p with
 |name m=>
  have hv:Bl 4 8 (κ.g m.k):=by
   induction m with
   |A=>exact(k.a hp.1).mono (by decide) (by decide)
   |B=>exact(k.b hp.1).mono (by decide) (by decide)
   |C=>exact(k.c hp.1).mono (by decide) (by decide)
  exact .tail (vn (n+6) (W5 hp.1) hv) fun w s H Q X a q=>E6 (.ift (fun ø ø q=>aI i0 q) (.m (.l rfl) a.run rfl (.cons (.ix (.l rfl) rfl) .nil))) q
 |item a p=>exact LH (k.arK a hp.1) fun m xs ka hx=>.tail (TN (c:=nc (n+8)) (gi (n+6)) (Xb (PW (n+1)) hp.2.2 (by decide) (by decide)) ka fun v m=>(hx v m).mono (by decide) (by decide)) fun w s H Q X a q=>E6 (.iff (fun ø ø q=>aI i0 q) (.m (.l rfl) a.run rfl (.cons (.ix (.l rfl) rfl) (.cons (.ix (.l rfl) rfl) .nil)))) q)
theorem MB{κ:CN}{fb:T}(k:HP κ fb)(n:Nat){t:T}(h:t.told κ.t fb)(hc:t.cost<=300):EK κ (Bl 8 19) (pC (nc (n+16)) 766 fun w=>[.ref (w.j+1),t.v]) t.asks:=U5 (c:=nc (n+15)) (Sl k n (k.tree h) hc)
theorem QT{κ:CN}{fb:T}(k:HP κ fb)(n:Nat){t:T}(h:t.told κ.t fb)(h1:t.one)(hc:t.cost<=300):EK κ (Bl 4 8) (pC (nc (n+16)) 766 fun w=>[.ref (w.j+1),t.v]) t.asks:=U5 (c:=nc (n+15)) (MK k n (k.tree h) h1 hc)
noncomputable def Pl.kd:Pl->IT
 |.name n=>n.nm.kd
 |.item a _=>a.nm.kd
theorem Gp{κ:CN}{fb:T}(k:HP κ fb)(n:Nat){γ:Gl}(h:γ.told κ.t fb):EK κ (fun v=>∃p:Pl,v=p.v/\p.ok κ.t γ.k/\p.kd=γ.kd) (pC (nc (n+17)) 355 fun w=>[.ref (w.j+1),γ.v]) 30:=.fn (c:=nc (n+16)) rfl rfl (fun ø=>rfl) (by
 induction γ with
 |name m=>exact .ok ⟨.name m,rfl,⟨h,rfl⟩,rfl⟩ fun w s H Q X a q=>Ho (fun ø ø q=>aI i0 q) (.l rfl) q
 |item a x=>
  exact .call ((QT k n h.2.1 h.2.2.1 (Ag h.2.2.2.1 (by decide))).less h.2.2.2.2) (K:=fun p=>pS (nc (n+16)) (DO.body.drop 2) (fS (fO DO _) 2 (.lst [p]))) (b2:=1) (by decide)
   (fun w s H Q X a q=>B4 (fun ø ø q=>aI i0 q) (UB rfl (.ix (.l rfl) rfl) (.m (.l rfl) a.run rfl (.cons (.l rfl) .nil)) q))
   fun p hp=>LH (k.arK a h.1) fun m xs ka ø=>.call (P:=fun ø=>True) (TN (c:=nc (n+15)) (gi (n+13)) (Xb (PW (n+8)) hp (by decide) (by decide)) ka fun ø ø=>trivial) (K:=fun ø=>pS (nc (n+16)) (DO.body.drop 3) (fS (fO DO _) 2 (.lst [p]))) (b2:=0) (Ay 1)
    (fun w s H Q X a q=>IE (.m (.l rfl) a.run rfl (.cons (.ix (.l rfl) rfl) (.cons (.l rfl) .nil))) q)
    fun ø ø=>.ok ⟨.item a p,rfl,⟨h.1,rfl,hp⟩,rfl⟩ fun w s H Q X a q=>Ba (.tup (.cons .k (.cons (.ix (.l rfl) rfl) (.cons (.l rfl) .nil)))) q)
theorem HP.up{κ:CN}{fb:T}(k:HP κ fb){n:Nat}{x:V}(h0:n=0->Bl 2 2 x)(h1:n=1->Bl 2 1 x)(h2:n=2->Bl 2 2 x)(h3:∀a:Ar,n=a.k->∃m xs,x=V.arr m xs/\(xs.length=m+1/\m<=10)/\∀v,v∈xs->Bl 2 2 v):HP (κ.up n x) fb where
 x:=k.x
 d:=k.d
 fn:=k.fn
 a:=fun t=>by
  show Bl 2 2 (if 0=n then x else κ.g 0)
  split
  ·exact h0 (Eq.symm ‹_›)
  ·exact k.a t
 b:=fun t=>by
  show Bl 2 1 (if 1=n then x else κ.g 1)
  split
  ·exact h1 (Eq.symm ‹_›)
  ·exact k.b t
 c:=fun t=>by
  show Bl 2 2 (if 2=n then x else κ.g 2)
  split
  ·exact h2 (Eq.symm ‹_›)
  ·exact k.c t
 ar:=fun a t=>by
  refine(?_:∃m xs,(if a.k=n then x else κ.g a.k)=_/\_)
  by_cases h:a.k=n
  ·exact Aj (if_pos h) (h3 a h.symm)
  ·exact Aj (if_neg h) (k.ar a t)
 asks:=k.asks
 cost:=k.cost
inductive Pv:V->Prop
 |str (s:Ao) (o:C5 s):Pv (.str s)
 |int (i:Int):Pv (.int i)
 |dec (a e:Int):Pv (V.dec a e)
theorem Bl.pv{g m:Int}{v:V}(h:Bl g m v):Pv v:=by
 induction h using Bl.casesOn with
 |str s _ o=>exact .str s o
 |int i=>exact .int i
 |dec a e=>exact .dec a e
theorem IT.ok.pv{k:IT}{g m:Int}{v w:V}(h:k.ok g m v w)(hv:Bl g m v):Pv w:=by
 induction k with
 |text=>exact h.1▸hv.pv
 |whole=>exact AO h fun i e ø=>e▸.int i
 |dec=>exact LH h fun a b e ø=>e▸.dec a b
noncomputable def Xg(x:V):Prop:=∃n xs,x=V.arr n xs/\(xs.length=n+1/\n<=10)/\∀v,v∈xs->Pv v
noncomputable def Dm(q:Nat×V):Prop:=(q.1<3->Pv q.2)/\(∀a:Ar,q.1=a.k->Xg q.2)/\(q.1=5->∃p:Nat,q.2=.int p)
noncomputable def aM(κ:CN):Prop:=∀a:Ar,κ.t a.k->Xg (κ.g a.k)
theorem HP.sh{κ:CN}{fb:T}(k:HP κ fb):aM κ:=fun a t=>EM (k.ar a t) fun n xs e h hx=>F1 n xs e h (fun v hv=>(hx v hv).pv)
theorem aM.ups:∀{us:List (Nat×V)} {κ:CN},aM κ->(∀q,q∈us->Dm q)->aM (κ.ups us)
 |[],_,k,_=>k
 |q::us,κ,k,h=>aM.ups (us:=us) (fun a t=>by
  show Xg (if a.k=q.1 then q.2 else κ.g a.k)
  by_cases hn:a.k=q.1
  ·rw[if_pos hn];exact(h q (.head _)).2.1 a hn.symm
  ·rw[if_neg hn];exact k a t) fun q m=>h q (.tail _ m)
noncomputable def SH(κ:CN)(fb:T)(i:Nat)(g m:Int)(v:V)(kd:IT)(us:List (Nat×V)):Prop:=∃x,us=[(i,x)]/\(HP κ fb->g<=2->m<=1->kd.rv v->HP (κ.up i x) fb)
noncomputable def GC(i:Nat)(q:Nat×V):Prop:=q.1=i/\Dm q
section
variable {κ:CN}{fb:T}{g m:Int}{v x:V}
theorem Yb{y:Vn}(hv:Bl g m v)(h1:y.nm.kd.ok g m v x):GC y.k (y.k,x)/\SH κ fb y.k g m v y.nm.kd [(y.k,x)]:=by
 refine⟨⟨rfl,fun ø=>h1.pv hv,(fun a h=>by clear h1;induction y<;>induction a<;>cases h),fun h=>by clear h1;induction y<;>cases h⟩,x,rfl,fun k g2 m1 rv=>?_⟩
 induction y with
 |A=>exact k.up (fun ø=>(Ki h1).mono g2 (BV (.add za (.num 1)) (.num 2) [.l za (.num 1)] As m1)) (fun h=>nomatch h) (fun h=>nomatch h) (fun a h=>by induction a<;>cases h)
 |B=>
  refine AO rv fun a eq1 ha=>?_
  clear rv hv;subst eq1
  refine jZ h1 fun j eq1 ø ø h4=>?_
  clear h1;subst eq1
  cases h4 a rfl
  exact k.up (fun h=>nomatch h) (fun ø=>.int a 1 ha (by decide) (by decide) (by decide)) (fun h=>nomatch h) (fun a h=>by induction a<;>cases h)
 |C=>exact k.up (fun h=>nomatch h) (fun h=>nomatch h) (fun ø=>h1.1.symm▸hv.mono g2 (BV za (.num 2) [.l za (.num 1)] As m1)) (fun a h=>by induction a<;>cases h)
theorem Ya{a:Ar}{l i:Nat}{xs:List V}(hv:Bl g m v)(hk:a.k=i)(hl:xs.length=l+1/\l<=10)(ar:HP κ fb->∀v,v∈xs->Bl 2 2 v)(hpv:∀v,v∈xs->Pv v)(r1:a.nm.kd.ok g m v x)(j:Nat):GC i (a.k,V.arr l (xs.set j x))/\SH κ fb i g m v a.nm.kd [(a.k,V.arr l (xs.set j x))]:=by
 subst hk
 refine⟨⟨rfl,fun h=>by cases a<;>exact absurd h (fun h=>Nat.not_le_of_lt h (lB rfl)),fun b hb=>⟨l,_,rfl,⟨(EO ..).trans hl.1,hl.2⟩,fun z hz=>(Ml hz).elim (hpv z) fun h=>h▸r1.pv hv⟩,fun h=>by cases a<;>cases h⟩,_,rfl,fun k g2 m1 rv=>?_⟩
 have vx:Bl 2 2 x:=by
  induction a with
  |R=>exact(Ki r1).mono g2 (BV (.add za (.num 1)) (.num 2) [.l za (.num 1)] As m1)
  |S=>exact r1.1.symm▸hv.mono g2 (BV za (.num 2) [.l za (.num 1)] As m1)
 exact k.up (fun h=>by cases a<;>cases h) (fun h=>by cases a<;>cases h) (fun h=>by cases a<;>cases h) fun b hb=>F1 l _ rfl ⟨(EO ..).trans hl.1,hl.2⟩ (fun z hz=>(Ml hz).elim (ar k z) fun h=>h▸vx)
end
section
variable {κ:CN}(fb:T)(n:Nat){g m:Int}{v:V}(hv:Bl g m v)(hg:0<=g/\g<=18)(hm:1<=m/\m<=19)
include hv hg hm
theorem Uq(y:Vn):Fi κ (GC y.k) (fun us ø=>SH κ fb y.k g m v y.nm.kd us) (pC (nc (n+11)) 827 fun w=>[.ref (w.j+1),.str y.nm.s,v]) 0:=
 gK (c:=nc (n+10)) y (dO (c:=nc (n+9)) XT y (gH (c:=nc (n+8)) (kh (n+6)) y ((PW (n+1)).suit y.nm.kd g m v hv hg hm) (fun x h=>(Yb (fb:=fb) (κ:=κ) hv h).1) fun x h=>(Yb hv h).2) fun ø ø h=>h) fun ø ø h=>h
theorem Up{a:Ar}{p:V}(k:Xg (κ.g a.k))(t:κ.t a.k)(hp:Bl 4 8 p):Fi κ (GC a.k) (fun us ø=>SH κ fb a.k g m v a.nm.kd us) (pC (nc (n+11)) 832 fun w=>[.ref (w.j+1),.str a.nm.s,.lst [p],v]) 0:=EM k fun l xs e hl hpv=>
 have ar:HP κ fb->∀v,v∈xs->Bl 2 2 v:=fun ko=>EM (ko.ar a t) fun l' ys e' ø hx=>by
  cases e.symm.trans e'
  exact hx
 eS (c:=nc (n+10)) (Xb (PW (n+3)) hp (by decide) (by decide)) (fun j=>gD (c:=nc (n+9)) XG XZ ⟨t,e,hl⟩ ((PW (n+2)).suit a.nm.kd g m v hv hg hm) (fun x h=>(Ya (fb:=fb) hv rfl hl ar hpv h _).1) fun x h=>(Ya hv rfl hl ar hpv h _).2) fun ø ø h=>h
theorem N3(k:aM κ){p:Pl}{i:Nat}(hp:p.ok κ.t i):Fi κ (GC i) (fun us ø=>SH κ fb i g m v p.kd us) (pC (nc (n+12)) 369 fun w=>[.ref (w.j+1),p.v,v]) 0:=.fn (c:=nc (n+11)) rfl rfl (fun ø=>rfl) (by
 induction p with
 |name y=>
  obtain⟨_,rfl⟩:=hp
  exact .then (K:=fun ø=>pV .none) (Uq fb n hv hg hm y) (fun w s H Q X a q=>TG (fun ø ø q=>aI i0 q) (IE (.m (.l rfl) a.run rfl (.cons (.ix (.l rfl) rfl) (.cons (.l rfl) .nil))) q)) (fun ø ø q=>q) fun ø ø h=>h
 |item a p=>
  refine Gj hp fun t eq1 vp=>?_
  refine D5 eq1 ?_
  exact .then (K:=fun ø=>pV .none) (Up fb n hv hg hm (k a t) t vp) (fun w s H Q X a q=>TF (fun ø ø q=>aI i0 q) (IE (.m (.l rfl) a.run rfl (.cons (.ix (.l rfl) rfl) (.cons (.ix (.l rfl) rfl) (.cons (.l rfl) .nil)))) q)) (fun ø ø q=>q) fun ø ø h=>h)
end
noncomputable abbrev U8:Ao:=⟨#[76,69,84]⟩
noncomputable abbrev MC:Ao:=⟨#[83,87,65,80]⟩
noncomputable abbrev U9:Ao:=⟨#[77,73,68,83,69,84]⟩
noncomputable abbrev G3:Ao:=⟨#[82,69,65,68]⟩
noncomputable abbrev Ru:List (Nat×V)->V->Prop:=fun ø ø=>True
noncomputable def oY:List S:=match Hf.body with
 |[_,.ite _ _ b,r]=>b.drop 1++[r]
 |_=>[]
noncomputable def kQ(γ:Gl)(t:T):Wd->Fr:=fS (fO Hf fun w=>[.ref (w.j+1),.int 0,.tup [.str U8,γ.v,t.v]]) 3 γ.v
theorem YK{κ:CN}{fb:T}(k:HP κ fb)(n:Nat){γ:Gl}{t:T}(hg:γ.told κ.t fb)(ht:t.told κ.t fb)(hc:t.cost<=300)(ha:t.asks<=60):Fi κ (GC γ.k) Ru (pC (nc (n+17)) 336 fun w=>[.ref (w.j+1),.int 0,.tup [.str U8,γ.v,t.v]]) 100:=
 have wt:=(MB k n ht hc).less ha
 .fn (c:=nc (n+16)) rfl rfl (fun ø=>rfl) (by
 induction γ with
 |name m=>
  exact .call wt (K:=fun v=>pB (pC (nc (n+16)) 827 fun w=>[.ref (w.j+1),.str m.nm.s,v]) fun ø=>pS (nc (n+16)) (Hf.body.drop 2) (kQ (.name m) t)) (b2:=0) (by decide)
   (fun w s H Q X a q=>AN (.ix (.l rfl) rfl) (WL (fun ø ø q=>aI i0 q) (Yi (.l rfl) a.run rfl (.there (.ix (.l rfl) rfl) (.last (.m (.l rfl) a.run rfl (.cons (.ix (.l rfl) rfl) .nil)))) q)))
   fun v hv=>.then (Uq fb (n+5) hv (by decide) (by decide) m) (fun ø ø ø ø ø ø q=>q) (fun ø ø q=>Ba (v:=.int (0+1)) (fun ø ø q=>q) q) fun ø ø ø=>trivial
 |item a x=>
  exact .call ((QT k n hg.2.1 hg.2.2.1 (Ag hg.2.2.2.1 (by decide))).less hg.2.2.2.2) (K:=fun p=>pS (nc (n+16)) oY (fS (kQ (.item a x) t) 4 (.lst [p]))) (b2:=60) (by decide)
   (fun w s H Q X a q=>AN (.ix (.l rfl) rfl) (Qd (fun ø ø q=>aI i0 q) (UB rfl (.ix (.l rfl) rfl) (.m (.l rfl) a.run rfl (.cons (.l rfl) .nil)) q)))
   fun p hp=>.call wt (K:=fun v=>pB (pC (nc (n+16)) 832 fun w=>[.ref (w.j+1),.str a.nm.s,.lst [p],v]) fun ø=>pS (nc (n+16)) (Hf.body.drop 2) (fS (kQ (.item a x) t) 4 (.lst [p]))) (b2:=0) (by decide)
    (fun w s H Q X a q=>Yi (.l rfl) a.run rfl (.there (.ix (.l rfl) rfl) (.there (.l rfl) (.last (.m (.l rfl) a.run rfl (.cons (.ix (.l rfl) rfl) .nil))))) q)
    fun v hv=>.then (Up fb (n+5) hv (by decide) (by decide) (k.sh a hg.1) hg.1 hp) (fun ø ø ø ø ø ø q=>q) (fun ø ø q=>Ba (v:=.int (0+1)) (fun ø ø q=>q) q) fun ø ø ø=>trivial)
noncomputable def GD(i j:Nat)(q:Nat×V):Prop:=(q.1=i\/q.1=j)/\Dm q
theorem GC.l(q:Nat×V)(h:GC i q):GD i j q:=⟨.inl h.1,h.2⟩
theorem GC.r(q:Nat×V)(h:GC j q):GD i j q:=⟨.inr h.1,h.2⟩
noncomputable abbrev eK(i:Nat):E:=.call (.k (.fn 343)) [.l 0,.l i]
noncomputable abbrev eP(f:Ai)(i:Nat):E:=.call (.k (.fn f)) [.l 0,.l i]
section
variable {κ:CN}{fb:T}(k:HP κ fb)(n:Nat)
include k
theorem gM{p q:Pl}{i j:Nat}(hp:p.ok κ.t i)(hq:q.ok κ.t j)(kd:IT){fr:Wd->Fr}{u v:V}(hu:Bl 4 8 u)(hv:Bl 4 8 v)(f0:∀w,(fr w)[0]?=some (some (.ref (w.j+1))))(f2:∀w,(fr w)[2]?=some (some p.v))(f3:∀w,(fr w)[3]?=some (some q.v))(f4:∀w,(fr w)[4]?=some (some (.ref w.i)))(f5:∀w,(fr w)[5]?=some (some (.str kd.str)))(f6:∀w,(fr w)[6]?=some (some u))(f7:∀w,(fr w)[7]?=some (some v)):
  Fi κ (GD i j) Ru (pS (nc (n+17)) (Co.body.drop 5) fr) 0:=
 have st:∀{x l w s H},Acc κ w s H->(fr w)[l]?=some (some x)->PK (cf (nc (n+17)) false) (.call (.k (.fn 204)) [.l l,.l 5,.attr (.l 4) ⟨#[98,105,116,115]⟩,.attr (.l 4) ⟨#[100,105,103,105,116,115]⟩]) (fr w) H 204 [x,.str kd.str,.int 16,.int 4]:=fun {x l w s H} a h=>.call (.cons (.l h) (.cons (.l (f5 w)) (.cons (.attr (.l (f4 w)) a.W rfl) (.cons (.attr (.l (f4 w)) a.W rfl) .nil))))
 .call (EK.pc ((PW (n+10)).suit kd 4 8 v hv (by decide) (by decide))) (K:=fun ø=>pS (nc (n+17)) (Co.body.drop 6) fr) (b2:=0) (Ay 0) (fun w s H Q X a q=>IE (st a (f7 w)) q) fun ø ø=>
 .call (EK.pc ((PW (n+10)).suit kd 4 8 u hu (by decide) (by decide))) (K:=fun ø=>pS (nc (n+17)) (Co.body.drop 7) fr) (b2:=0) (Ay 0) (fun w s H Q X a q=>IE (st a (f6 w)) q) fun ø ø=>
 .callS (N3 fb (n+5) hv (by decide) (by decide) k.sh hp) GC.l (K:=fun ø=>pS (nc (n+17)) (Co.body.drop 8) fr) (b2:=0) (Ay 0) (fun w s H Q X a q=>IE (.call (.cons (.l (f0 w)) (.cons (.l (f2 w)) (.cons (.l (f7 w)) .nil)))) q) fun us ø hus ø=>
 .then (K:=fun ø=>pV .none) ((N3 fb (n+5) hu (by decide) (by decide) (k.sh.ups fun q m=>(hus q m).2) (p:=q) (i:=j) (Rh (κ:=κ)▸hq)).mono (R':=Ru) (fun ø ø ø=>trivial) GC.r) (fun w s H Q X a q=>IE (.call (.cons (.l (f0 w)) (.cons (.l (f3 w)) (.cons (.l (f6 w)) .nil)))) q) (fun ø ø q=>q) fun ø ø h=>h
noncomputable def Yk(γ δ:Gl):Wd->Fr:=fS (fW (fS (fS (fO Co fun w=>[.ref (w.j+1),.tup [.str MC,γ.v,δ.v]]) 2 γ.v) 3 δ.v) 4 fun w=>.ref w.i) 5 (.str γ.kd.str)
theorem VS{γ δ:Gl}(hg:γ.told κ.t fb)(hd:δ.told κ.t fb):Fi κ (GD γ.k δ.k) Ru (pC (nc (n+18)) 376 fun w=>[.ref (w.j+1),.tup [.str MC,γ.v,δ.v]]) 100:=
 have kt:∀{γ:Gl} {w s H},Acc κ w s H->PV (nc (n+17)) false 343 [.ref (w.j+1),γ.v] H (.str γ.kd.str):=fun {γ w s H} a=>XO (c:=nc (n+16)) (kh (n+14)) γ a
 have st:∀{w s H Q X},Acc κ w s H->pS (nc (n+17)) (Co.body.drop 2) (Yk γ δ) w H Q X->pS (nc (n+17)) Co.body (fO Co fun w=>[.ref (w.j+1),.tup [.str MC,γ.v,δ.v]]) w H Q X:=fun a q=>
  OA (.cons (.ix (.l rfl) rfl) (.cons (.ix (.l rfl) rfl) (.cons (.attr (.l rfl) a.run rfl) .nil))) (AN (.call (.cons (.l rfl) (.cons (.l rfl) .nil)) (kt a)) q)
 have ts:∀{w s H b},Acc κ w s H->(!decide (γ.kd.str=δ.kd.str))=b->PE (cf (nc (n+17)) false) (.cmp .NotEq (.l 5) (eK 3)) (Yk γ δ w) H (.bool b):=fun a h=>.nes (.l rfl) (.call (.cons (.l rfl) (.cons (.l rfl) .nil)) (kt a)) h
 .fn (c:=nc (n+17)) rfl rfl (fun ø=>rfl) (if hk:γ.kd.str=δ.kd.str then
  .call (Gp k n hg) (K:=fun u=>pT (nc (n+17)) (eP 355 3) (Yk γ δ) 3 (Co.body.drop 4) (fS (Yk γ δ) 2 u)) (b2:=70) (by decide)
   (fun w s H Q X a q=>st a (B4 (ts a (by rw[decide_eq_true hk];rfl)) (O7 (.call (.cons (.l rfl) (.cons (.l rfl) .nil))) q))) fun u hu=>C9 hu fun p e hp ø=>by
  subst e
  exact .call (Gp k n hd) (K:=fun v=>pS (nc (n+17)) (Co.body.drop 4) (fS (fS (Yk γ δ) 2 p.v) 3 v)) (b2:=2) (by decide)
   (fun w s H Q X a q=>(PK.call (.cons (.l rfl) (.cons (.l rfl) .nil))) _ _ q) fun v hv=>C9 hv fun p' e hp' ø=>by
   subst e
   exact .call (LB k (n+7) hp) (K:=fun u=>pT (nc (n+17)) (eP 362 3) (fS (fS (Yk γ δ) 2 p.v) 3 p'.v) 7 (Co.body.drop 5) (fS (fS (fS (Yk γ δ) 2 p.v) 3 p'.v) 6 u)) (b2:=1) (by decide)
    (fun w s H Q X a q=>O7 (.call (.cons (.l rfl) (.cons (.l rfl) .nil))) q) fun u hu=>
   .call (LB k (n+7) hp') (K:=fun v=>pS (nc (n+17)) (Co.body.drop 5) (fS (fS (fS (fS (Yk γ δ) 2 p.v) 3 p'.v) 6 u) 7 v)) (b2:=0) (by decide)
    (fun w s H Q X a q=>(PK.call (.cons (.l rfl) (.cons (.l rfl) .nil))) _ _ q) fun v hv=>
   gM k n hp hp' γ.kd hu hv (fun ø=>by kernel_rfl) (fun ø=>by kernel_rfl) (fun ø=>by kernel_rfl) (fun ø=>by kernel_rfl) (fun ø=>by kernel_rfl) (fun ø=>by kernel_rfl) (fun ø=>by kernel_rfl)
 else .er JC fun w s H Q X a x=>st a (Hp (ts a (by rw[decide_eq_false hk];rfl)) rfl (.cons .k .nil) (A3 _) x))
end
noncomputable abbrev oQ(i:Nat):E:=.mcall (.l 0) ⟨#[119,104,111,108,101]⟩ [.l i]
noncomputable def pA(c:A7)(f:Ai)(v:V)(es:List E)(fr:Wd->Fr):Pg:=fun w H Q X=>OL (cf c false) es (fr w) H (fun vs H=>c false f (v::vs) H Q X) X
theorem Sc{κ:CN}{fb:T}(k:HP κ fb)(n:Nat){t:T}(h:t.told κ.t fb)(h1:t.one)(hc:t.cost<=300)(ha:t.asks=0):EK κ (fun u=>∃i:Int,u=.int i/\(-32768<=i/\i<32768)) (pC (nc (n+16)) 773 fun w=>[.ref (w.j+1),t.v]) 0:=
 .fn (c:=nc (n+15)) rfl rfl (fun ø=>rfl) (.call (MK k n (k.tree h) h1 hc) (K:=fun v=>pA (nc (n+15)) 176 v [.attr (.l 0) ⟨#[98,105,116,115]⟩] (fO G1 _)) (b2:=0) (CZ ha) (fun w s H Q X a q=>gA (.call (.cons (.l rfl) (.cons (.l rfl) .nil))) q)
  fun v hv=>.tail (.mono (EK.pc ((PW (n+8)).whole 4 8 v hv (by decide) (by decide))) (fun ø ø h=>C9 h fun i e h ø=>Bn i e h) fun ø h=>h) fun w s H Q X a q=>(OY.cons (.attr (.l rfl) a.run rfl) .nil) _ _ q)
theorem Kh:(Ao.cut s a b).length=min b s.length-a:=by
 show((s.cps.toList.take b).drop a).toArray.size=_
 refine Aj FJ (Aj Ez (Aj Gg (Aj Aq ?_)));rfl
theorem Kv(h:C5 s):C5 (Ao.cut s a b):=by
 have h:s.cps.all (·<0x110000)=true:=h
 show(((s.cps.toList.take b).drop a).toArray).all (·<0x110000)=true
 rw[<-Array.all_toList] at h ⊢
 exact BF.mpr fun x hx=>BF.mp h x (List.mem_of_mem_take (HF hx))
theorem Bl.sok(h:Bl g m (.str s)):C5 s:=by cases h;assumption
theorem Lu{x y:Ao}:(x++y).length=x.length+y.length:=DS ..
noncomputable abbrev pK:Ao:=⟨#[70,67]⟩
theorem U7:C5 pK:=by decide+kernel
noncomputable def mV:Option Int->V
 |none=>.none
 |some j=>.int j
noncomputable def Ud:Option T->V
 |none=>.none
 |some x=>x.v
theorem MV:(Ao.cut s 0 a).length<=a:=Aj Kh (Nat.min_le_left _ _)
theorem YD:(Ao.cut s a s.length).length=s.length-a:=by rw[Kh,Nat.min_self]
theorem Tp{x y:Ao}{a r:Nat}(h:a+r<=y.length):(Ao.cut y 0 a).length+(Ao.cut x 0 r).length<=y.length/\(Ao.cut y 0 a++Ao.cut x 0 r++Ao.cut y (a+r) y.length).length<=y.length:=
 ⟨Ag (Ee MV MV) h,by
  refine Aj Lu (Aj Lu (Aj YD ?_))
  exact Ag (HQ (Ee MV MV) _) (CZ (Nat.add_sub_cancel' h))⟩
theorem nW(h:PK C e fr H f vs)(q:C.call C.hd f vs H (fun v H=>C.call C.hd f2 [v] H Q X) X):vE C (.call (.k (.fn f2)) [e]) fr H Q X:=h _ _ q
theorem pT.pe(h:PE (cf c false) e (fr w) H v)(q:pS c ss (fS fr' i v) w H Q X):pT c e fr i ss fr' w H Q X:=h _ _ q
theorem pT.pk(h:PK (cf c false) e (fr w) H f vs)(q:c false f vs H (fun v H'=>pS c ss (fS fr' i v) w H' Q X) X):pT c e fr i ss fr' w H Q X:=h _ _ q
theorem W0{h b:Int}{a lx ly:Nat}(h0:0<=h)(ea:b-1=a)(la:a+1<=ly):∃r:Nat,(if h<(if (ly:Int)-b+1<lx then(ly:Int)-b+1 else lx) then h else if (ly:Int)-b+1<lx then(ly:Int)-b+1 else lx)=r/\a+r<=ly:=
 have:∀m:Int,0<=m->m<=ly-a->∃r:Nat,(if h<m then h else m)=r/\a+r<=ly:=fun m m0 m1=>Bn ((if h<m then h else m).toNat) (by split<;>lia) (by split<;>lia)
 this _ (by split<;>lia) (by split<;>lia)
noncomputable abbrev oP:E:=.or (.not (.cmp2 .LtE .LtE (.k (.int 1)) (.l 8) (.call (.k (.bi .len)) [.l 11]))) (.and (.cmp .IsNot (.l 9) (.k .none)) (.cmp .Lt (.l 9) (.k (.int 0))))
noncomputable abbrev nN(γ:Gl)(f:T)(m:Option T)(t:T):V:=.tup [.str U9,γ.v,f.v,Ud m,t.v]
noncomputable def NM(γ:Gl)(f:T)(m:Option T)(t:T)(pl:V):Wd->Fr:=fun w=>[some (.ref (w.j+1)),some (nN γ f m t),some (.str U9),some γ.v,some f.v,some (Ud m),some t.v,some pl,none,none,none,none,none]
noncomputable def bC(fr:Wd->Fr)(b:Int)(j:Option Int)(x y:Ao):Wd->Fr:=fS (fS (fS (fS fr 8 (.int b)) 9 (mV j)) 10 (.str x)) 11 (.str y)
section
variable {κ:CN}{fb:T}(k:HP κ fb)(n:Nat)
include k
theorem Ue{γ:Gl}{f t:T}{m:Option T}{p:Pl}{i:Nat}(hp:p.ok κ.t i){b:Int}{j:Option Int}{x y:Ao}(hx:x.length<=255)(hy:y.length<=255)(ox:C5 x)(oy:C5 y)(h1:1<=b/\b<=y.length){h:Int}(h0:0<=h)
  (e1:∀{w H},PE (cf (nc (n+17)) false) oP (bC (NM γ f m t p.v) b j x y w) H (.bool false)) (e2:∀{w H},PE (cf (nc (n+17)) false) (.ite (.cmp .Is (.l 9) (.k .none)) (.call (.k (.bi .len)) [.l 10]) (.l 9)) (bC (NM γ f m t p.v) b j x y w) H (.int h)):
  Fi κ (GC i) Ru (pS (nc (n+17)) (CV.body.drop 4) (bC (NM γ f m t p.v) b j x y)) 0:=
 have ly:y.length<=Ap:=Ag hy (by decide)
 have lx:x.length<=Ap:=Ag hx (by decide)
 Eb (Cf (show 0<=b-1 from HO h1.1)) fun a ea=>
 have la:a+1<=y.length:=Am.1 (Vz (.add za (.num 1)) zb [.l zc zb,.f (.sub zc (.num 1)) za] As h1.2 ea)
 AO (W0 (lx:=x.length) h0 ea la) fun r er lr=>
 have c3:=Tp (x:=x) lr
 have am:a<=Ap:=Ag (J0 la) ly
 .then (K:=fun ø=>pV .none) ((N3 fb (n+5) (g:=8) (m:=19) (.str _ (Ag c3.2 hy) (NA (NA (Kv oy) (Kv ox)) (Kv oy))) (by decide) (by decide) k.sh hp).mono (R':=Ru) (fun ø ø ø=>trivial) fun ø h=>h)
  (fun w s H Q X ø q=>B4 e1 (AN (.min3 rfl (.lenS (.l rfl) lx) (.add (.sub (.lenS (.l rfl) ly) (.l rfl) rfl) .k rfl) e2 er) (IE (.call (.cons (.l rfl) (.cons (.l rfl) (.cons (.cat (.cat (.hi (.l rfl) (.sub (.l rfl) .k ea) am ly) (.hi (.l rfl) (.l rfl) (Ag (Nat.le_of_add_left_le lr) ly) lx) (Ag c3.1 ly))
   (.lo (m:=a+r) (.l rfl) (.add (.sub (.l rfl) .k ea) (.l rfl) rfl) (Ag lr ly) ly) (D5 Lu (Ag c3.2 ly))) .nil)))) q))) (fun ø ø q=>q) fun ø ø h=>h
theorem Uf{γ:Gl}{f t:T}{m:Option T}{p:Pl}{i:Nat}(hp:p.ok κ.t i){b:Int}{j:Option Int}{x y:Ao}(hx:x.length<=255)(hy:y.length<=255)(ox:C5 x)(oy:C5 y):
  Fi κ (GC i) Ru (pS (nc (n+17)) (CV.body.drop 4) (bC (NM γ f m t p.v) b j x y)) 0:=
 have bt:∀{w H},PE (cf (nc (n+17)) false) (.not (.cmp2 .LtE .LtE (.k (.int 1)) (.l 8) (.call (.k (.bi .len)) [.l 11]))) (bC (NM γ f m t p.v) b j x y w) H (.bool (!decide (1<=b/\b<=y.length))):=.not (.btw .k (.l rfl) (.lenS (.l rfl) (Ag hy (by decide))))
 if h1:1<=b/\b<=y.length then by
  have bf:=fun {w H}=>(bt (w:=w) (H:=H)).eq (congrArg (fun b=>V.bool !b) (decide_eq_true h1))
  clear bt;induction j with
  |none=>exact Ue k n hp hx hy ox oy h1 (AE x.length) (.orf bf (.andf fun ø ø q=>q)) (.ift (fun ø ø q=>q) (.lenS (.l rfl) (Ag hx (by decide))))
  |some z=>
   have lt:=fun {w H d} (h:decide (z<0)=d)=>(PE.lt (C:=cf (nc (n+17)) false) (fr:=bC (NM γ f m t p.v) b (some z) x y w) (H:=H) (.l (a:=9) rfl) (.k (v:=.int 0))).eq (congrArg V.bool h)
   by_cases hz:z<0
   ·exact .er U7 fun w s H Q X a x=>Hp (.orf bf (.andt (fun ø ø q=>q) (lt (decide_eq_true hz)))) rfl (.cons .k .nil) (A3 _) x
   ·exact Ue k n hp hx hy ox oy h1 (Bu.mp hz) (.orf bf (.andt (fun ø ø q=>q) (lt (decide_eq_false hz)))) (.iff (fun ø ø q=>q) (.l rfl))
 else .er U7 fun w s H Q X a x=>Hp (.ort (bt.eq (congrArg (fun b=>V.bool !b) (decide_eq_false h1)))) rfl (.cons .k .nil) (A3 _) x
theorem YL{γ:Gl}{t f:T}{m:Option T}(hg:γ.told κ.t fb)(ht:t.told κ.t fb)(hc:t.cost<=300)(ha:t.asks<=60)(hf:f.told κ.t fb/\f.one/\f.cost=1/\f.asks=0)(hm:∀x,m=some x->x.told κ.t fb/\x.one/\x.cost=1/\x.asks=0):
  Fi κ (GC γ.k) Ru (pC (nc (n+18)) 383 fun w=>[.ref (w.j+1),nN γ f m t]) 100:=
 have wh:∀{t:T},t.told κ.t fb/\t.one/\t.cost=1/\t.asks=0->EK κ (fun u=>∃i:Int,u=.int i/\(-32768<=i/\i<32768)) (pC (nc (n+17)) 773 fun w=>[.ref (w.j+1),t.v]) 0:=fun h=>Sc k (n+1) h.1 h.2.1 (h.2.2.1▸(by decide)) h.2.2.2
 .fn (c:=nc (n+17)) rfl rfl (fun ø=>rfl) (.call (Gp k n hg) (K:=fun u=>pS (nc (n+17)) (CV.body.drop 2) (NM γ f m t u)) (b2:=61) (by decide) (fun w s H Q X a q=>N4 (.l rfl) (UC (.call (.cons (.l rfl) (.cons (.l rfl) .nil))) q)) fun u hu=>C9 hu fun p e hp ø=>by
  refine Aj e ?_
  refine .call (wh hf) (K:=fun b=>pT (nc (n+17)) (.ite (.cmp .Is (.l 5) (.k .none)) (.k .none) (oQ 5)) (NM γ f m t p.v) 9 (CV.body.drop 3) (fS (NM γ f m t p.v) 8 b)) (b2:=61) (Ay 61) (fun w s H Q X a q=>O7 (.m (.l rfl) a.run rfl (.cons (.l rfl) .nil)) q) fun b hb=>AO hb fun b e hb=>?_
  subst e
  have rest:∀j,Fi κ (GC γ.k) Ru (pS (nc (n+17)) (CV.body.drop 3) (fS (fS (NM γ f m t p.v) 8 (.int b)) 9 (mV j))) 61:=fun j=>
   .call ((MB k (n+1) ht hc).less ha) (K:=fun v=>pB (pC (nc (n+17)) 190 fun ø=>[v]) fun x=>pT (nc (n+17)) (.call (.k (.fn 190)) [eP 362 7]) (fS (fS (NM γ f m t p.v) 8 (.int b)) 9 (mV j)) 11 (CV.body.drop 4) (fS (fS (fS (NM γ f m t p.v) 8 (.int b)) 9 (mV j)) 10 x)) (b2:=1) (by decide)
    (fun w s H Q X a q=>ZM (.m (.l rfl) a.run rfl (.cons (.l rfl) .nil)) q) fun v hv=>
   .call (EK.pc ((PW (n+10)).text 8 19 v hv)) (K:=fun x=>pT (nc (n+17)) (.call (.k (.fn 190)) [eP 362 7]) (fS (fS (NM γ f m t p.v) 8 (.int b)) 9 (mV j)) 11 (CV.body.drop 4) (fS (fS (fS (NM γ f m t p.v) 8 (.int b)) 9 (mV j)) 10 x)) (b2:=1) (Ay 1) (fun ø ø ø ø ø ø q=>q) fun xv hxv=>C9 hxv fun x e ev hx=>by
    clear hxv;subst e ev
    refine .call (LB k (n+7) hp) (K:=fun v=>pB (pC (nc (n+17)) 190 fun ø=>[v]) fun y=>pS (nc (n+17)) (CV.body.drop 4) (fS (fS (fS (fS (NM γ f m t p.v) 8 (.int b)) 9 (mV j)) 10 (.str x)) 11 y)) (b2:=0) (Ay 1) (fun w s H Q X a q=>nW (.call (.cons (.l rfl) (.cons (.l rfl) .nil))) q) fun ov ho=>
     .call (EK.pc ((PW (n+10)).text 4 8 ov ho)) (K:=fun y=>pS (nc (n+17)) (CV.body.drop 4) (fS (fS (fS (fS (NM γ f m t p.v) 8 (.int b)) 9 (mV j)) 10 (.str x)) 11 y)) (b2:=0) (Ay 0) (fun ø ø ø ø ø ø q=>q) fun yv hyv=>C9 hyv fun y e ev hy=>?_
    clear hyv;subst e ev
    exact Uf k n hp hx hy hv.sok ho.sok
  induction m with
  |none=>exact .step (q:=pS (nc (n+17)) (CV.body.drop 3) (fS (fS (NM γ f none t p.v) 8 (.int b)) 9 .none)) (fun w s H Q X a q=>pT.pe (.ift (fun ø ø q=>q) .k) q) (rest none)
  |some z=>
   have zn:∀q:Bool->Prop,q false->Rj z.v q:=fun ø q=>by clear rest hm;induction z<;>exact q
   exact .call (wh (hm z rfl)) (K:=fun b'=>pS (nc (n+17)) (CV.body.drop 3) (fS (fS (NM γ f (some z) t p.v) 8 (.int b)) 9 b')) (b2:=61) (Ay 61) (fun w s H Q X a q=>pT.pk (.iff (.is (.l rfl) zn) (.m (.l rfl) a.run rfl (.cons (.l rfl) .nil))) q) fun u hu=>AO hu fun j e ø=>e▸rest (some j))
end
noncomputable def O4:List S:=match Mz.body with
 |[.for_ _ _ b]=>b
 |_=>[]
noncomputable def pL(c:A7)(ss:List S)(fr:Wd->Fr)(xs:List V):Pg:=fun w H Q X=>AV (cf c false) ss (fr w) H (fun fr H=>HK (fun x fr H N=>Kz fr (.one 2) x fun fr'=>AV (cf c false) O4 fr' H N (iR Q) X) xs fr H (iN Q)) (iR Q) X
noncomputable def G5(i:Nat)(q:Nat×V):Prop:=(q.1=i\/q.1=5)/\Dm q
theorem g5(p:Nat):Dm (5,.int (p+1)):=⟨fun h=>absurd (show 5<3 from h) (by decide),(fun a h=>by induction a<;>cases h),fun ø=>⟨p+1,rfl⟩⟩
theorem Gl.k5(γ:Gl):¬5=γ.k:=by
 induction γ with
 |name m=>induction m<;>decide
 |item a x=>induction a<;>exact fun h=>nomatch h
theorem Lm{κ:CN}{fb:T}(k:HP κ fb)(n:Nat){γ:Gl}(hg:γ.told κ.t fb)(h5:κ.t 5){p:Nat}(hp:κ.g 5=.int p){fr:Wd->Fr}{tg:V}{o:Option V}(hf:fr=fun w=>[some (.ref (w.j+1)),some tg,some γ.v,o]){xs:List V}{G:Nat×V->Prop}(hG:∀q,G5 γ.k q->G q){b:Nat}
  (z:∀us u,HP (κ.ups us) fb->(∃p:Nat,(κ.ups us).g 5=.int p)->Fi (κ.ups us) G Ru (pL (nc (n+17)) [] (fun w=>[some (.ref (w.j+1)),some tg,some γ.v,some u]) xs) b):Fi κ G Ru (pL (nc (n+17)) O4 fr xs) (30+b):=by
 subst hf
 refine .call (Gp k n hg) (K:=fun u=>pL (nc (n+17)) (O4.drop 1) (fun w=>[some (.ref (w.j+1)),some tg,some γ.v,some u]) xs) (Ay _) (fun w s H Q X a q=>UC (.call (.cons (.l rfl) (.cons (.l rfl) .nil))) q) fun u hu=>C9 hu fun pl e hp1 hkd=>?_
 refine Aj e ?_
 refine .callS (nd (n+5) h5 hp γ.kd) (fun q e=>hG q (by refine Aj e ?_;exact⟨.inr rfl,g5 p⟩)) (K:=fun v=>pB (pC (nc (n+17)) 369 fun w=>[.ref (w.j+1),pl.v,v]) fun ø=>pL (nc (n+17)) [] (fun w=>[some (.ref (w.j+1)),some tg,some γ.v,some pl.v]) xs) (b2:=b) (by rw[Fp];exact Ay b)
  (fun w s H Q X a q=>Yh (.there (.l rfl) (.there (.l rfl) (.last (.m (.l rfl) a.run rfl (.cons (.call (.cons (.l rfl) (.cons (.l rfl) .nil)) (XO (c:=nc (n+16)) (kh (n+14)) γ a)) .nil))))) q) fun us v ø h=>Gj h fun e v1 v2=>?_
 clear h;refine Aj e ?_
 have k5:HP (κ.up 5 (.int (p+1))) fb:=k.up (fun h=>nomatch h) (fun h=>nomatch h) (fun h=>nomatch h) (fun a h=>by induction a<;>cases h)
 refine .callS (N3 (κ:=κ.up 5 (.int (p+1))) fb (n+5) v1 (by decide) (by decide) k5.sh hp1) (fun q h=>hG q ⟨.inl h.1,h.2⟩) (b2:=b) (by rw[Fp];exact Ay b) (fun ø ø ø ø ø ø q=>q) fun us ø ø hz=>AO hz fun x e hk=>?_
 clear hz;refine Aj e ?_
 exact z [(5,.int (p+1)),(γ.k,x)] pl.v (hk k5 (by decide) (by decide) (hkd▸v2)) ⟨p+1,if_neg γ.k5⟩
noncomputable def G6(γ:Gl)(m:Option Gl)(q:Nat×V):Prop:=(q.1=γ.k\/q.1=5\/∃x,m=some x/\q.1=x.k)/\Dm q
theorem VQ{κ:CN}{fb:T}(k:HP κ fb)(n:Nat){γ:Gl}{m:Option Gl}(hg:γ.told κ.t fb)(hm:∀x,m=some x->x.told κ.t fb)(h5:κ.t 5){p:Nat}(hp:κ.g 5=.int p):
  Fi κ (G6 γ m) Ru (pC (nc (n+18)) 350 fun w=>[.ref (w.j+1),.lst (γ.v::(m.map Gl.v).toList)]) 100:=
 have one:∀q,G5 γ.k q->G6 γ m q:=fun q h=>⟨h.1.imp_right .inl,h.2⟩
 have fin:∀{κ fr},Fi κ (G6 γ m) Ru (pL (nc (n+17)) [] fr []) 0:=.ok (v:=.none) trivial fun ø ø ø ø ø ø q=>q
 .fn (c:=nc (n+17)) rfl rfl (fun ø=>rfl) (.step (q:=pL (nc (n+17)) O4 (fun w=>[some (.ref (w.j+1)),some (.lst (γ.v::(m.map Gl.v).toList)),some γ.v,none]) (m.map Gl.v).toList) (fun w s H Q X a q=>JB (.lst (.l rfl)) q) (by
  induction m with
  |none=>exact Fi.less (Lm k n hg h5 hp rfl one fun us u ø ø=>fin) (by decide)
  |some δ=>
   refine Fi.less (Lm k n hg h5 hp rfl one fun us u k2 h2=>Eb h2 fun p2 hp2=>?_) (b:=30+30) (by decide)
   exact .step (q:=pL (nc (n+17)) O4 (fun w=>[some (.ref (w.j+1)),some (.lst (γ.v::((some δ).map Gl.v).toList)),some δ.v,some u]) []) (fun w s H Q X a q=>q) (Lm k2 n (Rh (κ:=κ)▸hm δ rfl) (Rh (κ:=κ)▸h5) hp2 rfl (b:=0) (fun q h=>⟨h.1.elim (fun h=>.inr (.inr ⟨δ,rfl,h⟩)) (fun h=>.inr (.inl h)),h.2⟩) fun us u ø ø=>fin)))
end
section
open PySem PySem.SeqAt
noncomputable def G7(d:Nat)(v:V):Prop:=∃x,v.py=some x/\x.canLay0=true/\x.depth<=d
theorem G7.int(i:Int)(d:Nat):G7 d (.int i):=EN (.int i) rfl rfl (A3 _)
theorem G7.str(h:C5 s)(d:Nat):G7 d (.str s):=EN (.str s) rfl h (A3 _)
theorem G7.all:∀{xs:List V},(∀v,v∈xs->G7 d v)->∃ys,V.pys xs=some ys/\PyData.canLayAll0 ys=true/\PyData.depthAll ys<=d
 |[]=>fun ø=>EN ([]) rfl rfl (A3 _)
 |x::xs=>fun h=>by
  refine C9 (h x (.head _)) fun y h1 h2 h3=>?_
  refine C9 (G7.all (xs:=xs) fun v hv=>h v (.tail _ hv)) fun ys k1 k2 k3=>?_
  exact EN (y::ys) (by refine(?_:(V.py x).bind _=_);refine Aj h1 ?_;refine(?_:(V.pys xs).map _=_);refine Aj k1 ?_;rfl) (bZ ⟨h2,k2⟩) (Nat.max_le.mpr ⟨h3,k3⟩)
theorem G7.tup(h:∀v,v∈xs->G7 d v):G7 (d+1) (.tup xs):=by
 refine C9 (G7.all h) fun ys k1 k2 k3=>?_
 exact EN (.tuple ys) (by show(V.pys xs).map _=_;refine Aj k1 ?_;rfl) k2 (by rw[PyData.depth];exact CY (Lp xa (.num 1)) (Lp xb (.num 1)) [.l xa xb] As k3)
theorem G7.lst(h:∀v,v∈xs->G7 d v):G7 (d+1) (.lst xs):=by
 refine C9 (G7.all h) fun ys k1 k2 k3=>?_
 exact EN (.list ys) (by show(V.pys xs).map _=_;refine Aj k1 ?_;rfl) k2 (by rw[PyData.depth];exact CY (Lp xa (.num 1)) (Lp xb (.num 1)) [.l xa xb] As k3)
theorem G7.up(h:G7 d v)(he:d<=e):G7 e v:=C9 h fun x h1 h2 h3=>EN x h1 h2 (Ag h3 he)
theorem eq_self(h:G7 64 v)(q:k true):iW v v k:=by
 refine C9 h fun x h1 h2 h3=>?_
 have z:aG v v k:=vO.e h1 (vO.e h1 (aI ⟨bZ ⟨h2,decide_eq_true h3⟩,bZ ⟨h2,decide_eq_true h3⟩⟩ (Aj (eqv_refl x h2) q)))
 cases v with
 |int i=>exact(show k (decide (i=i)) from(decide_eq_true (rfl:i=i)).symm▸q)
 |str i=>exact(show k (decide (i=i)) from(decide_eq_true (rfl:i=i)).symm▸q)
 |none | bool | tup | lst=>exact z
 |_=>cases h1
theorem Pv.eqr(h:Pv v):G7 1 v:=by
 induction h using Pv.casesOn with
 |str s o=>exact .str o _
 |int i=>exact .int i _
 |dec a e=>
  refine .tup fun v hv=>?_
  rcases Al.mp hv with rfl | hv
  ·exact .int _ _
  ·cases An.mp hv;exact .int _ _
theorem Xg.eqr(h:Xg v):G7 3 v:=by
 refine EM h fun n xs eq2 ø hx=>?_
 subst eq2
 exact .tup fun v hv=>by
  rcases Al.mp hv with rfl | hv
  ·exact .lst fun v hv=>by cases An.mp hv;exact .int _ _
  ·cases An.mp hv;exact .lst fun v hv=>(hx v hv).eqr
section
variable {C:FP}{H L L0:MH}{fr:Fr}{N:NV}{R:RT}{X:EV}{ss:List S}{k:Nat}
theorem FD(h:L[k]?=some o):(H++L)[H.length+k]?=some o:=by
 rw[BL (BG _ _),Gv];exact h
theorem MP:(H++L).set (H.length+k) o=H++L.set k o:=by
 rw[GX _ _ (BG _ _),Gv]
theorem Ha(h:H[k]?=some o):(H++L)[k]?=some o:=by
 exact Aj (A9 (Aw.mp h).1) h
theorem aO.e(h:L[k]?=some o)(q:K o):vO (H++L)[H.length+k]? K:=hO.e (FD h) q
theorem al{P:V->MH->Prop}{o:De}(hk:L.length=k)(q:P (.ref (H.length+k)) (H++(L++[o]))):P (.ref (H++L).length) ((H++L)++[o]):=by
 rw[Ak,hk,Bd];exact q
theorem GF(h0:fr[m]?=some (some (.ref (H.length+k))))(he:∀Q:QV,Q v (H++L)->vE C e fr (H++L0) Q X)(hL:L[k]?=some (.inst K fs))(hf:C.fld K n=true/\fs.length<=900)
  (q:AV C ss fr (H++L.set k (.inst K (putL n v fs))) N R X):AV C (.setA (.l m) n e::ss) fr (H++L0) N R X:=
 he _ (vO.e h0 (aO.e hL (aI hf (Aj MP q))))
theorem Ti(hg:Mh.glo a=some (.cls init np))(hk:L.length=k)
  (h:c hd init (.ref (H.length+k)::vs) (H++(L++[.inst a []])) (fun v H'=>v=.none/\Q (.ref (H.length+k)) H') X):step c hd a vs (H++L) Q X:=
 vO.e hg (by rw[Ak,hk,Bd];exact h)
end
noncomputable def At(w:Wd)(s:EL)(H:MH):Prop:=∀k o,(WB w s)[k]?=some o->H[w.i+k]?=some o
noncomputable def oC:De:=.inst 591 [(⟨#[112,105,108,101]⟩,.lst []),(⟨#[109,111,115,116]⟩,.int 20),(⟨#[102,97,105,108,101,100,95,97,116]⟩,.int (-1))]
noncomputable def bO(c:A7):Prop:=∀(H L:MH) (k:Nat) (Q:QV) (X:EV),L.length=k->Q (.ref (H.length+k)) (H++(L++[oC]))->c false 591 [.int 20] (H++L) Q X
theorem Yv(h:L.length=k):(L++[a])[k]?=some a:=by
 subst h;exact LC ..
theorem Yw(h:L.length=k):(L++[a]).set k b=L++[b]:=by
 subst h;rw[GX _ _ (Ay _),GM];rfl
theorem YA:bO (step (step c)):=fun H L k Q X hk q=>by
 refine Ti rfl hk (CM rfl rfl rfl ?_)
 refine GF rfl (fun ø q=>q) (Yv hk) ⟨rfl,lB rfl⟩ ?_
 refine Aj (Yw hk) ?_
 refine GF rfl (fun ø q=>q) (Yv hk) ⟨rfl,lB rfl⟩ ?_
 refine Aj (Yw hk) ?_
 refine GF rfl (fun ø q=>q) (Yv hk) ⟨rfl,lB rfl⟩ ?_
 rw[Yw hk]
 exact aI rfl q
theorem WK{c:A7}(hc:bO c){w:Wd}{s:EL}{H:MH}{Q:QV}{X:EV}(ha:At w s H)(hj:w.j=H.length)(q:Q (.ref (w.j+1)) (H++[.dict [],oR w,oC,.list []])):step (step c) false 856 [.ref w.i,.none,.ref w.j] (H++[.dict []]) Q X:=by
 have hW:∀L,(H++L)[w.i]?=some (oW w s):=fun L=>Ha (ha 0 _ rfl)
 obtain⟨i,j,H0,fn,rr,rs⟩:=w
 clear ha;cases hj
 refine Ti (k:=1) rfl rfl (CM rfl rfl rfl ?_)
 refine GF (k:=1) rfl (fun ø q=>q) rfl ⟨rfl,lB rfl⟩ ?_
 refine GF (k:=1) rfl (fun ø q=>q) rfl ⟨rfl,lB rfl⟩ ?_
 refine GF (k:=1) rfl (fun ø q=>q) rfl ⟨rfl,lB rfl⟩ ?_
 refine GF (k:=1) rfl (fun ø q=>hO.e (hW _) (aI rfl q)) rfl ⟨rfl,lB rfl⟩ ?_
 refine GF (k:=1) rfl (fun ø q=>hO.e (hW _) (aI rfl q)) rfl ⟨rfl,lB rfl⟩ ?_
 refine GF (k:=1) rfl (fun Q q=>hc H _ 2 _ _ rfl q) rfl ⟨rfl,lB rfl⟩ ?_
 refine GF (k:=1) rfl (fun Q q=>al (k:=3) rfl q) rfl ⟨rfl,lB rfl⟩ ?_
 exact aI rfl q
inductive Sm where
 |lt (γ:Gl) (t:T)
 |sw (γ δ:Gl)
 |md (γ:Gl) (f:T) (m:Option T) (t:T)
 |rd (γ:Gl) (m:Option Gl)
noncomputable def Sm.v:Sm->V
 |.lt γ t=>.tup [.str U8,γ.v,t.v]
 |.sw γ δ=>.tup [.str MC,γ.v,δ.v]
 |.md γ f m t=>.tup [.str U9,γ.v,f.v,Ud m,t.v]
 |.rd γ m=>.tup [.str G3,.lst (γ.v::(m.map Gl.v).toList)]
noncomputable def Sm.gk:Sm->Nat->Prop
 |.lt γ _,i=>i=γ.k
 |.sw γ δ,i=>i=γ.k\/i=δ.k
 |.md γ _ _ _,i=>i=γ.k
 |.rd γ m,i=>i=γ.k\/i=5\/∃x,m=some x/\i=x.k
noncomputable def T.low(t:T):Prop:=t.cost<=300/\t.asks<=60
noncomputable def T.lit(t:T):Prop:=t.one/\t.cost=1/\t.asks=0
noncomputable def Sm.told(κ:CN)(fb:T):Sm->Prop
 |.lt γ t=>γ.told κ.t fb/\t.told κ.t fb/\t.low
 |.sw γ δ=>γ.told κ.t fb/\δ.told κ.t fb
 |.md γ f m t=>γ.told κ.t fb/\(t.told κ.t fb/\t.low)/\(f.told κ.t fb/\f.lit)/\∀x,m=some x->x.told κ.t fb/\x.lit
 |.rd γ m=>γ.told κ.t fb/\(∀x,m=some x->x.told κ.t fb)/\κ.t 5/\∃p:Nat,κ.g 5=.int p
noncomputable def Dn(κ:CN)(c:A7)(v:V)(us:List (Nat×V))(e:Ao):Prop:=∀(w:Wd) s H (Q:QV) (X:EV),K7 κ w s->At w s H->w.i+12<=w.j->w.j=H.length->w.H0=H->(∀H',In w [] (s.ups us) 0 H'->Q (.str e) H')->c false 914 [.ref w.i,v] H Q X
theorem YX(ha:At w s H)(hi:w.i+12<=w.j)(hj:w.j=H.length)(hh:w.H0=H):In w [] s 1000 (H++[.dict [],oR w,oC,.list []]) where
 ij:=hi
 blk:=fun k o h=>Ha (ha k o h)
 run:=Aj hj (FD (k:=1) rfl)
 asked:=Bn ([]) (Aj hj (FD (k:=3) rfl)) (Ay _)
 old:=fun k h ø=>by exact Aj hh (Aj (A9 (hj▸h)) rfl)
 len:=Aj Ak (Aj hj (Ay _))
 pin:=fun p h=>nomatch h
noncomputable def mI(c:A7):Prop:=∀(w:Wd) s H (Q:QV) (X:EV),At w s H->w.j=H.length->Q (.ref (w.j+1)) (H++[.dict [],oR w,oC,.list []])->c false 856 [.ref w.i,.none,.ref w.j] (H++[.dict []]) Q X
noncomputable def Sm.a:Sm->Ai
 |.lt ..=>336
 |.sw ..=>376
 |.md ..=>383
 |.rd ..=>350
noncomputable def Sm.as(st:Sm)(w:Wd):List V:=match st with
 |.lt ..=>[.ref (w.j+1),.int 0,st.v]
 |.sw ..=>[.ref (w.j+1),st.v]
 |.md ..=>[.ref (w.j+1),st.v]
 |.rd γ m=>[.ref (w.j+1),.lst (γ.v::(m.map Gl.v).toList)]
noncomputable def Rs.code:Rs->Ao
 |.ok _=>⟨#[]⟩
 |.er e=>e
theorem Kj{κ:CN}{c:A7}(hc:mI c){us:List (Nat×V)}{r:Rs}{st:Sm}(hs:Rp κ (pC c st.a st.as) 100 us r):Dn κ (step c) st.v us r.code:=fun w s H Q X kn ha hi hj hh q=>by
 have n1:=YX ha hi hj hh
 refine CM rfl rfl rfl ?_
 have z:=hc w s H (fun v H'=>AV (cf c false) (KL.body.drop 1) [some (.ref w.i),some st.v,some v,none] H' (iN Q) (iR Q) X) X ha hj ?_
 ·rw[hj] at z;exact z
 have c1:r.to w [] (s.ups us) 900 (fun ø H'=>Q (.str ⟨#[]⟩) H') (fun c H'=>Q (.str c) H'):=by
  clear hs;induction r with
  |ok v=>exact fun H' h'=>q H' (h'.less (A3 _))
  |er e=>exact fun H' h'=>q H' (h'.less (A3 _))
 have z:=hs w [] s 900 _ _ _ kn n1 c1
 refine aI rfl ?_
 clear hs;induction st with
 |lt γ t=>exact WL (fun ø ø q=>aI i0 q) (IE (.call (.cons (.l rfl) (.cons .k (.cons (.l rfl) .nil)))) z)
 |sw γ δ=>exact Qd (fun ø ø q=>aI i0 q) (WL (fun ø ø q=>aI i0 q) (IE (.call (.cons (.l rfl) (.cons (.l rfl) .nil))) z))
 |md γ f m t=>exact Qd (fun ø ø q=>aI i0 q) (Qd (fun ø ø q=>aI i0 q) (WL (fun ø ø q=>aI i0 q) (IE (.call (.cons (.l rfl) (.cons (.l rfl) .nil))) z)))
 |rd γ m=>exact Qd (fun ø ø q=>aI i0 q) (Qd (fun ø ø q=>aI i0 q) (Qd (fun ø ø q=>aI i0 q) (IE (.call (.cons (.l rfl) (.cons (.ix (.l rfl) rfl) .nil))) z)))
theorem Kf{R:V->Prop}{r:Rs}(h:r.sat R C5):C5 r.code:=by
 induction r with
 |ok=>show C5 ⟨#[]⟩;decide+kernel
 |er=>exact h
theorem UK{κ:CN}{fb:T}(k:HP κ fb)(n:Nat){st:Sm}(h:st.told κ fb):∃us e,(∀z,z∈us->st.gk z.1/\Dm z)/\Dn κ (nc (n+19)) st.v us e/\C5 e:=by
 have rn:mI (nc (n+18)):=fun w s H Q X ha hj q=>WK (c:=nc (n+16)) (YA (c:=nc (n+14))) ha hj q
 induction st with
 |lt γ t=>exact EM (YK k (n+1) h.1 h.2.1 h.2.2.1 h.2.2.2) fun us r h1 h3 h2=>F1 us _ h1 (Kj (c:=nc (n+18)) rn (st:=.lt γ t) h2) (Kf h3)
 |sw γ δ=>exact EM (VS k n h.1 h.2) fun us r h1 h3 h2=>F1 us _ h1 (Kj (c:=nc (n+18)) rn (st:=.sw γ δ) h2) (Kf h3)
 |md γ f m t=>exact EM (YL k n h.1 h.2.1.1 h.2.1.2.1 h.2.1.2.2 h.2.2.1 h.2.2.2) fun us r h1 h3 h2=>F1 us _ h1 (Kj (c:=nc (n+18)) rn (st:=.md γ f m t) h2) (Kf h3)
 |rd γ m=>exact Eb h.2.2.2 fun p hp=>EM (VQ k n h.1 h.2.1 h.2.2.1 hp) fun us r h1 h3 h2=>F1 us _ h1 (Kj (c:=nc (n+18)) rn (st:=.rd γ m) h2) (Kf h3)
noncomputable def V6(H H':MH):Prop:=∀(k:Nat) (o:De),H[k]?=some o->H'[k]?=some o
theorem At.ex(h:At w s H)(e:V6 H H'):At w s H':=fun k o hk=>e _ _ (h k o hk)
theorem V6.trans(h:V6 H H1)(e:V6 H1 H2):V6 H H2:=fun k o hk=>e _ _ (h k o hk)
noncomputable def BI(g:Nat->V):V:=.lst [g 0,g 1,g 2,g 3,g 4,g 5,.lst [.str wA,.str wB,.str wC],.lst [.str wR,.str wS]]
noncomputable def bU(c:A7):Prop:=∀(w:Wd) s H (Q:QV) (X:EV),At w s H->s.x=none->(∀a:Ar,Xg (s.g a.k))->(∀H',V6 H H'->Q (BI s.g) H')->c false 919 [.ref w.i] H Q X
theorem pH:List.Pairwise (fun a b:Ao=>Fu b.cps.toList a.cps.toList=false) [wA,wB,wC]:=by decide
theorem pI:List.Pairwise (fun a b:Ao=>Fu b.cps.toList a.cps.toList=false) [wR,wS]:=by decide
theorem At.ar(h:At w s H)(a:Ar)(e:s.g a.k=V.arr n xs):H[w.i+a.o]?=some (oG (.str a.nm.kd.str) (.lst [.int n]) (.ref (w.i+(a.o+1))) (a.rm w))/\H[w.i+(a.o+1)]?=some (.list xs):=by
 induction a with
 |R=>exact⟨(h 8 _ rfl).trans (by rw[show s.g 3=_ from e];rfl),(h 9 _ rfl).trans (by rw[show s.g 3=_ from e];rfl)⟩
 |S=>exact⟨(h 10 _ rfl).trans (by rw[show s.g 4=_ from e];rfl),(h 11 _ rfl).trans (by rw[show s.g 4=_ from e];rfl)⟩
theorem MD(a:Ar)(e:s.g a.k=V.arr m xs)(hl:xs.length=m+1/\m<=10)(h:At w s H)(hn:H[n]?=some (.list ys))(hy:ys.length<=5)
  (k:N [some (.ref w.i),b,some (.str a.nm.s),some (.ref n),some (.ref (w.i+a.o)),f5,f6] (H.set n (.list (ys++[V.arr m xs])))):Kz [some (.ref w.i),b,d,some (.ref n),e4,f5,f6] (.one 2) (.str a.nm.s) fun fr'=>AV (cf c false) [.asg 4 (.idx (.attr (.l 0) ⟨#[97,114,114,97,121,115]⟩) (.l 2)),.expr (.mcall (.l 3) Nt [.tup [.copy false (.attr (.l 4) ⟨#[104,105,103,104,115]⟩),.copy false (.attr (.l 4) ⟨#[105,116,101,109,115]⟩)]])] fr' H N R X:=by
 refine Cd (h.ar a e) fun g1 g2=>?_
 have lx:xs.length<=Ap:=Ag (show xs.length<=11 from CY xa (.num 11) [.e xa (Lp xb (.num 1)),.l xb (.num 10)] As hl.1 hl.2) (by decide)
 exact AN (.dix (.attr (.l rfl) (h 0 _ rfl) rfl) (.l rfl) (h 2 _ rfl) (by clear g2 g1 k e;induction a<;>rfl)) (O8 (.l rfl) (.tup (.cons (.copyL (.attr (.l rfl) g1 rfl) (lB rfl)) (.cons (.copyR (.attr (.l rfl) g1 rfl) g2 lx) .nil))) hn (Ag hy (by decide)) k)
theorem V6.app:V6 H (H++L):=fun ø ø h=>Ha h
theorem QW:bU (step c):=fun w s H Q X ha hx har q=>by
 refine EM (har .R) fun nr xr er hr ø=>EM (har .S) fun ns xs es hs ø=>?_
 have a1:H[w.i+1]?=some (.dict [(wA,s.g 0),(wB,s.g 1),(wC,s.g 2)]):=(ha 1 _ rfl).trans (by show some (De.dict (_::_::_::xL s.x))=_;refine Aj hx ?_;rfl)
 have st:∀v u,(H++[v]).set H.length u=H++[u]:=fun v u=>MP (k:=0)
 have fin:∀{fr:Fr},fr[0]?=some (some (.ref w.i))->fr[3]?=some (some (.ref H.length))->AV (cf c false) (KM.body.drop 3) fr (H++[.list [s.g 0,s.g 1,s.g 2,V.arr nr xr,V.arr ns xs]]) (iN Q) (iR Q) X:=fun f0 f3=>
  have o:=ha.ex (V6.app (L:=[.list [s.g 0,s.g 1,s.g 2,V.arr nr xr,V.arr ns xs]]))
  Ba (v:=BI s.g) (.eq (.addR (.l f3) (.lst (.cons (.attr (.l f0) (o 0 _ rfl) rfl) (.cons (.sorted rfl (.attr (.l f0) (o 0 _ rfl) rfl) (Ha a1) ⟨lB rfl,pH⟩) (.cons (.sorted rfl (.attr (.l f0) (o 0 _ rfl) rfl) (o 2 _ rfl) ⟨lB rfl,pI⟩) .nil)))) (FD (k:=0) rfl) (lB rfl)) (by rw[BI,show s.g 3=_ from er,show s.g 4=_ from es];rfl)) (q _ .app)
 refine PB rfl rfl rfl (AN (fun ø ø q=>q) (fV rfl (fun ø ø q=>aI i3 (aI (lB rfl) q)) (.dget (.attr (.l rfl) (ha 0 _ rfl) rfl) (.l rfl) a1) (.dget (.attr (.l rfl) (ha 0 _ rfl) rfl) (.l rfl) a1) (.dget (.attr (.l rfl) (ha 0 _ rfl) rfl) (.l rfl) a1) (JB (.tup fun ø ø q=>q)
  (MD .R er hr (ha.ex .app) (FD (k:=0) rfl) (lB rfl) ?_))))
 refine Aj (st _ _) (MD .S es hs (ha.ex .app) (FD (k:=0) rfl) (lB rfl) ?_)
 exact Aj (st _ _) (fin rfl rfl)
theorem Qi(n:Nat)(h:0<=a/\a<100):∃w,Dv 2 2 w/\PC (nc (n+7)) 204 [V.dec a (-1),.str Hn,.int 16,.int 4] (.ok w):=by
 have hd:Pu (nc (n+6)) 183 [V.dec a (-1),.int 4] (Dv 2 2) (fun ø=>False):=.fn (c:=nc (n+5)) rfl rfl rfl rfl (.tail ((eG (n+2) (a:=a) (e:=-1) (g:=2) (m:=1) (Ld (DU (.neg (.num 1000000000000000000)) za [.l (.num 0) za] As h.1) (DU za (.num 1000000000000000000) [.t za (.num 100)] As h.2)) ⟨by decide,2,by decide,Ld (DU (.neg (.num 100)) za [.l (.num 0) za] As h.1) (DU za (.num 100) [.t za (.num 100)] As h.2),by decide⟩ (by decide) (by decide)).mono (fun ø h=>h) fun s h=>absurd h.1 (by decide)) Dv.fz fun K Y z=>
  B4 (.isi (.l rfl) rfl rfl) (E6 (.ift (.isi (.l rfl) rfl rfl) (.call (.cons (.ix (.l rfl) rfl) (.cons (.ix (.l rfl) rfl) (.cons (.l rfl) .nil))))) z))
 have hs:Pu (nc (n+7)) 204 [V.dec a (-1),.str Hn,.int 16,.int 4] (Dv 2 2) (fun ø=>False):=.fn (c:=nc (n+6)) rfl rfl rfl rfl (.tail hd Dv.fz fun K Y z=>B4 (fun ø ø q=>q) (E6 (.iff (fun ø ø q=>q) (.call (.cons (.l rfl) (.cons (.l rfl) .nil)))) z))
 refine AO hs fun r h1 h2=>?_
 induction r with
 |ok w=>exact Bn w h1 h2
 |er=>exact h1.elim
theorem ZX(h:-32768<=i/\i<32768):PC (step (step (step c))) 204 [.int i,.str Jq,.int 16,.int 4] (.ok (.int i)):=fun H Q X q=>
 have hw:∀{H},PV (step (step c)) false 176 [.int i,.int 16] H (.int i):=fun Q X q=>IL rfl rfl rfl rfl (B4 (.isi (.l rfl) rfl rfl) (AN (.iff (.isi (.l rfl) rfl rfl) (.l rfl)) (B4 (.not (b:=true) (.call (.cons (.l rfl) (.cons (.l rfl) .nil)) (QA (decide_eq_true h)))) (Ba (.l rfl) (aI rfl q)))))
 IL rfl rfl rfl rfl (B4 (fun ø ø q=>q) (Ba (.ift (fun ø ø q=>q) (.call (.cons (.l rfl) (.cons (.l rfl) .nil)) hw)) (aI rfl q)))
theorem ZY(h:s.length<=255):PC (step (step c)) 204 [.str s,.str F5,.int 16,.int 4] (.ok (.str s)):=fun H Q X q=>
 have ht:∀{H},PV (step c) false 190 [.str s] H (.str s):=fun Q X q=>IL rfl rfl rfl rfl (B4 (.not (b:=true) (.isi (.l rfl) rfl rfl)) (Ba (.l rfl) (aI rfl q)))
 have hc:∀{H},PV (step c) false 197 [.str s] H (.str s):=fun Q X q=>IL rfl rfl rfl rfl (B4 (.eq (.gt (.lenS (.l rfl) (Ag h (by decide))) .k) (congrArg V.bool (decide_eq_false (Bu.mpr (Am.mpr h))))) (Ba (.l rfl) (aI rfl q)))
 IL rfl rfl rfl rfl (Yj (fun ø ø q=>q) (Ba (.call (.cons (.call (.cons (.l rfl) .nil) ht) .nil) hc) (aI rfl q)))
section
variable {C:FP}{H L L0:MH}{fr:Fr}{N:NV}{R:RT}{X:EV}{ss:List S}{k:Nat}
theorem ZQ(he:∀Q:QV,Q v (H++L)->vE C e fr (H++L0) Q X)(ho:∀Q:QV,Q (.ref (H.length+k)) (H++L)->vE C o fr (H++L) Q X)(hj:∀Q:QV,Q (.str s) (H++L)->vE C j fr (H++L) Q X)(hL:L[k]?=some (.dict es))(hn:es.length<=1000)
  (q:AV C ss fr (H++L.set k (.dict (putL s v es))) N R X):AV C (.setI o j e::ss) fr (H++L0) N R X:=
 he _ (ho _ (hj _ (aO.e hL (aI hn (Aj MP q)))))
theorem gC(he:∀Q:QV,Q (.lst ys) (H++L)->vE C e fr (H++L0) Q X)(ho:∀Q:QV,Q (.ref (H.length+k)) (H++L)->vE C o fr (H++L) Q X)(hj:∀Q:QV,Q (.int 4) (H++L)->vE C j fr (H++L) Q X)(hL:L[k]?=some (.list xs))(hn:4<=xs.length/\xs.length<=1000)(hy:ys.length=4)
  (q:AV C ss fr (H++L.set k (.list (ys++xs.drop 4))) N R X):AV C (.setS o j e::ss) fr (H++L0) N R X:=
 he _ (ho _ (hj _ (aO.e hL (aI ⟨by decide,DU (.num 4) (.add za (.num 1)) [.l (.num 4) za] As (Am.2 hn.1),hn.2,hy⟩ (Aj MP q)))))
theorem UH(he:∀Q:QV,Q v (H++L)->vE C e fr (H++L0) Q X)(q:AV C ss fr (H++L) N R X):AV C (.expr e::ss) fr (H++L0) N R X:=he _ q
theorem gB(he:∀Q:QV,Q v (H++L)->vE C e fr (H++L0) Q X)(q:AV C ss (AC fr i v) (H++L) N R X):AV C (.asg i e::ss) fr (H++L0) N R X:=he _ q
theorem Rw(h:L.length=k):(L++a::M)[k]?=some a:=by
 subst h;rw[BL (Ay _),GM];rfl
theorem SP(h:L.length=k):(L++a::M).set k b=L++b::M:=by
 subst h;rw[GX _ _ (Ay _),GM];rfl
end
noncomputable abbrev TL:=Option (List Ao)
noncomputable def TL.v:TL->V
 |none=>.none
 |some l=>.lst (l.map .str)
noncomputable def XJ(τ:TL)(w:Ao):Bool:=match τ with
 |none=>true
 |some l=>l.contains w
theorem Gr:∀{l:List Ao} {k:List Ao->Prop},k l->F7 (l.map .str) k
 |[],_,h=>h
 |x::l,k,h=>Gr (l:=l) (k:=fun r=>k (x::r)) h
theorem ND(h2:fr[2]?=some (some τ.v))(he:∀Q:QV,Q (.str w) H->vE C e fr H Q X)(q:Q (.bool (XJ τ w)) H):vE C (.or (.cmp .Is (.l 2) (.k .none)) (.cmp .In e (.l 2))) fr H Q X:=by
 induction τ with
 |none=>exact vO.e h2 (vB.t rfl q)
 |some l=>exact vO.e h2 (vB.f rfl (he _ (vO.e h2 (Gr q))))
theorem PD(ht:∀Q:QV,Q (.bool b) H->vE C t fr H Q X)(hz:(if b then x else y)=z)(q:Q (.int z) H):vE C (.ite t (.k (.int x)) (.k (.int y))) fr H Q X:=ht _ (by
 clear ht;subst hz
 induction b with
 |true=>exact vB.t rfl q
 |false=>exact vB.f rfl q)
noncomputable def oM(i:Nat)(dt sp:V):De:=.inst 306 [(⟨#[98,105,116,115]⟩,.int 16),
 (⟨#[100,105,103,105,116,115]⟩,.int 4),
 (⟨#[109,111,115,116,95,115,116,101,112,115]⟩,.int 2000),
 (⟨#[109,111,115,116,95,100,101,112,116,104]⟩,.int 20),
 (⟨#[114,111,111,109]⟩,.int 2000),
 (⟨#[110,97,109,101,115]⟩,.ref (i+1)),
 (⟨#[97,114,114,97,121,115]⟩,.ref (i+2)),
 (⟨#[107,105,110,100,115]⟩,.ref (i+3)),
 (⟨#[102,110,115]⟩,.ref (i+4)),
 (⟨#[111,117,116]⟩,.lst []),
 (⟨#[114,111,119]⟩,.str ⟨#[]⟩),
 (⟨#[105,110,112,117,116,115]⟩,.lst []),
 (⟨#[102,105,108,101,115]⟩,.ref (i+5)),
 (⟨#[111,112,101,110]⟩,.ref (i+6)),
 (⟨#[102,105,101,108,100,115]⟩,.ref (i+7)),
 (⟨#[100,97,116,97]⟩,dt),
 (⟨#[115,112,111,116]⟩,sp),
 (⟨#[98,97,115,101]⟩,.int 0),
 (⟨#[115,101,101,100]⟩,.int 1),
 (⟨#[115,116,101,112,115]⟩,.int 0),
 (⟨#[100,101,112,116,104]⟩,.int 0),
 (⟨#[104,97,110,100,108,101,114]⟩,.int 0),
 (⟨#[105,115,95,104,97,110,100,108,105,110,103]⟩,.bool false),
 (⟨#[101,114,114,111,114,95,108,105,110,101]⟩,.int 0),
 (⟨#[101,114,114,111,114,95,99,111,100,101]⟩,.str ⟨#[]⟩),
 (⟨#[105,115,95,116,114,97,99,101,100]⟩,.bool false),
 (⟨#[116,114,97,99,101,115]⟩,.lst []),
 (⟨#[99,111,109,109,111,110]⟩,.lst [])]
theorem O1:∀{fs:List (Ao×V)},(∀p,p∈fs->p.1≠n)->putL n v fs=fs++[(n,v)]
 |[]=>fun ø=>rfl
 |(m,u)::fs=>fun h=>by
  show(if _=_ then _ else _)=_
  rw[if_neg (h _ (.head _)),O1 fun p hp=>h p (.tail _ hp)];rfl
theorem Ww{fs:List (Ao×V)}:fs.lookup n=none->∀p,p∈fs->p.1≠n:=by
 induction fs with
 |nil=>exact fun ø p hp=>nomatch hp
 |cons x fs ih=>
  intro h p hp
  obtain⟨m,u⟩:=x
  rw[B1] at h
  cases e:n==m with
  |true=>rw[e] at h;cases h
  |false=>
   rw[e] at h
   rcases Al.mp hp with rfl | hp
   ·exact fun z=>by subst z;rw[beq_self_eq_true] at e;exact nomatch e
   ·exact ih h p hp
theorem Ec(h0:fr[0]?=some (some (.ref (H.length+0))))(he:∀Q:QV,Q v (H++.inst K rs.reverse::M)->vE C e fr (H++.inst K rs.reverse::M0) Q X)
  (hf:C.fld K n=true) (hn:rs.lookup n=none) (hl:rs.length<=900) (q:AV C ss fr (H++.inst K ((n,v)::rs).reverse::M) N R X):AV C (.setA (.l 0) n e::ss) fr (H++.inst K rs.reverse::M0) N R X:=
 GF (k:=0) h0 he rfl ⟨hf,Aj B5 hl⟩ (by
  exact Aj (O1 fun p hp=>Ww hn p (List.mem_reverse.mp hp)) (D5 DX q))
theorem Y4(hg:Mh.glo a=some (.cls init np))
  (h:c hd init (.ref (H.length+0)::vs) (H++[.inst a []]) (fun v H'=>v=.none/\Q (.ref H.length) H') X):step c hd a vs H Q X:=vO.e hg h
noncomputable def mO(c:A7):Prop:=∀H (Q:QV) (X:EV),Q (.ref H.length) (H++[oM H.length (.lst []) (.int 0),.dict [],.dict [],.dict [],.dict [],.dict [],.dict [],.dict []])->c false 306 [.int 16,.int 4] H Q X
theorem iA:mO (step (step c)):=fun H Q X q=>by
 refine Y4 rfl (CM rfl rfl rfl ?_)
 refine(?_:AV (cf _ _) _ _ (H++.inst 306 ([]:List (Ao×V)).reverse::[]) _ _ _)
 refine Ec rfl (fun Q q=>q) rfl rfl (lB rfl) ?_
 refine Ec rfl (fun Q q=>q) rfl rfl (lB rfl) ?_
 refine Ec rfl (fun Q q=>q) rfl rfl (lB rfl) ?_
 refine Ec rfl (fun Q q=>q) rfl rfl (lB rfl) ?_
 refine Ec rfl (fun Q q=>q) rfl rfl (lB rfl) ?_
 refine Ec rfl (fun Q q=>al (k:=1) rfl q) rfl rfl (lB rfl) ?_
 refine Ec rfl (fun Q q=>al (k:=2) rfl q) rfl rfl (lB rfl) ?_
 refine Ec rfl (fun Q q=>al (k:=3) rfl q) rfl rfl (lB rfl) ?_
 refine Ec rfl (fun Q q=>al (k:=4) rfl q) rfl rfl (lB rfl) ?_
 refine Ec rfl (fun Q q=>q) rfl rfl (lB rfl) ?_
 refine Ec rfl (fun Q q=>q) rfl rfl (lB rfl) ?_
 refine Ec rfl (fun Q q=>q) rfl rfl (lB rfl) ?_
 refine Ec rfl (fun Q q=>al (k:=5) rfl q) rfl rfl (lB rfl) ?_
 refine Ec rfl (fun Q q=>al (k:=6) rfl q) rfl rfl (lB rfl) ?_
 refine Ec rfl (fun Q q=>al (k:=7) rfl q) rfl rfl (lB rfl) ?_
 refine Ec rfl (fun Q q=>q) rfl rfl (lB rfl) ?_
 refine Ec rfl (fun Q q=>q) rfl rfl (lB rfl) ?_
 refine Ec rfl (fun Q q=>q) rfl rfl (lB rfl) ?_
 refine Ec rfl (fun Q q=>q) rfl rfl (lB rfl) ?_
 refine Ec rfl (fun Q q=>q) rfl rfl (lB rfl) ?_
 refine Ec rfl (fun Q q=>q) rfl rfl (lB rfl) ?_
 refine Ec rfl (fun Q q=>q) rfl rfl (lB rfl) ?_
 refine Ec rfl (fun Q q=>q) rfl rfl (lB rfl) ?_
 refine Ec rfl (fun Q q=>q) rfl rfl (lB rfl) ?_
 refine Ec rfl (fun Q q=>q) rfl rfl (lB rfl) ?_
 refine Ec rfl (fun Q q=>q) rfl rfl (lB rfl) ?_
 refine Ec rfl (fun Q q=>q) rfl rfl (lB rfl) ?_
 refine Ec rfl (fun Q q=>q) rfl rfl (lB rfl) ?_
 exact aI rfl q
noncomputable abbrev HA:Ao:=⟨#[82,40,41]⟩
noncomputable abbrev Ic:Ao:=⟨#[83,36,40,41]⟩
noncomputable def Ar.w:Ar->Ao
 |.R=>HA
 |.S=>Ic
theorem Ar.w_app(a:Ar):a.nm.s++(⟨#[40,41]⟩:Ao)=a.w:=by induction a<;>decide+kernel
noncomputable def Vy(c:A7)(v:V)(b:Bool):Prop:=∀H (Q:QV) (X:EV),Q (.bool b) H->c false 42 [v] H Q X
noncomputable def cX:V->Bool
 |.none=>true
 |.int _=>true
 |.str _=>true
 |_=>false
section
variable {c:A7}
theorem PE.lenT(h:PE C e fr H (.tup xs))(hl:xs.length<=Ap):PE C (.call (.k (.bi .len)) [e]) fr H (.int xs.length):=fun ø ø q=>h _ _ ⟨hl,q⟩
theorem PE.inT{C:FP}{e:E}{es:List E}{fr:Internal.Fr}{H:MH}{s:Ao}{l:List Ao}{xs:List V}{b:Bool}(h:PE C e fr H (.str s))(he:OY C es fr H xs)(hx:∀k:List Ao->Prop,k l->F7 xs k)(hc:l.contains s=b):PE C (.cmp .In e (.tup es)) fr H (.bool b):=
 fun Q ø q=>h _ _ (he _ _ (hx (fun l=>Q (.bool (l.contains s)) H) (show Q (.bool (l.contains s)) H from hc.symm▸q)))
theorem QE(h:cX v=true):Vy (step c) v false:=fun H Q X q=>by
 cases v with
 |none | int | str=>exact CS rfl rfl rfl rfl (Ba (.andf (.isi (.l rfl) rfl rfl)) (aI rfl q))
 |_=>cases h
theorem Nk(nr:V.nrs xs=true):Vy (step c) (.lst xs) false:=fun H Q X q=>
 CS rfl rfl rfl (bZ ⟨nr,rfl⟩) (Ba (.andf (.isi (.l rfl) rfl rfl)) (aI rfl q))
theorem nE:decide ((1:Int)<((x::y::r).length:Int))=true:=decide_eq_true (by refine Aj Cy (Aj Cy ?_);exact DU (.num 1) (.add (.add za (.num 1)) (.num 1)) [.l (.num 0) za] As (AE _))
theorem UW(hl:r.length<=10):PE C (.cmp .Gt (.call (.k (.bi .len)) [.l 0]) (.k (.int 1))) [some (.tup (x::y::r))] H (.bool true):=
 .eq (.gt (.lenT (.l rfl) (Ag (show r.length+1+1<=12 from GK (Lp (Lp xa (.num 1)) (.num 1)) (.num 12) [.l xa (.num 10)] As hl) (by decide))) .k) (congrArg V.bool nE)
theorem TQ(ht:[FX,F4,Sw].contains t=false)(hl:r.length<=10)(nr:V.nrs (y::r)=true):Vy (step c) (.tup (.str t::y::r)) false:=fun H Q X q=>
 CS rfl rfl rfl (bZ ⟨nr,rfl⟩) (Ba (.andt (.isi (.l rfl) rfl rfl) (.andt (UW hl) (.andf (.inT (.ix (.l rfl) rfl) (.cons .k (.cons .k (.cons .k .nil))) (fun ø q=>q) ht)))) (aI rfl q))
theorem Zd:Vy (step c) (.tup [.int a,.int b]) false:=fun H Q X q=>
 CS rfl rfl rfl rfl (aI rfl (vB.t rfl (aI (lB rfl) (vB.t nE (QD i0 (by decide+kernel) (vB.f rfl (aI rfl q)))))))
theorem Nl(ht:[FX,F4,Sw].contains t=true)(hl:r.length<=10)(nr:V.nrs r=true):Vy (step c) (.tup (.str t::.str w::r)) true:=fun H Q X q=>
 CS rfl rfl rfl (bZ ⟨nr,rfl⟩) (Ba (.andt (.isi (.l rfl) rfl rfl) (.andt (UW hl) (.andt (.inT (.ix (.l rfl) rfl) (.cons .k (.cons .k (.cons .k .nil))) (fun ø q=>q) ht) (.isi (.ix (.l rfl) rfl) rfl rfl)))) (aI rfl q))
noncomputable def OZ(c:A7)(v:V)(w:Ao):Prop:=∀H (Q:QV) (X:EV),Q (.str w) H->c false 35 [v] H Q X
theorem QK:OZ (step c) (.tup [.str FX,.str n]) n:=fun H Q X q=>CS rfl rfl rfl rfl (Ho (.eq (.ne (.ix (.l rfl) rfl) .k) rfl) (.ix (.l rfl) rfl) (aI rfl q))
theorem QJ{a:Ar}{r:List V}(nr:V.nrs r=true):OZ (step c) (.tup (.str F4::.str a.nm.s::r)) a.w:=fun H Q X q=>by
 rw[<-Ar.w_app] at q
 exact CS rfl rfl rfl (bZ ⟨nr,rfl⟩) (B4 (.eq (.ne (.ix (.l rfl) rfl) .k) rfl) (Ho (.eq (.ne (.ix (.l rfl) rfl) .k) rfl) (.cat (.ix (.l rfl) rfl) .k (by clear q nr;induction a<;>exact lB rfl)) (aI rfl q)))
theorem eL(nr:V.nrs r=true):OZ (step c) (.tup (.str Sw::.str n::r)) n:=fun H Q X q=>
 CS rfl rfl rfl (bZ ⟨nr,rfl⟩) (B4 (.eq (.ne (.ix (.l rfl) rfl) .k) rfl) (B4 (.eq (.ne (.ix (.l rfl) rfl) .k) rfl) (Ba (.ift (.eq (.ne (.ix (.l rfl) rfl) .k) rfl) (.ix (.l rfl) rfl)) (aI rfl q))))
noncomputable def PN:List S:=match EQ.body with
 |[_,.while_ _ b,_]=>b
 |_=>[]
noncomputable abbrev Hl(c:A7)(R:RT)(X:EV):Nat->Fr->MH->NV->Prop:=DQ (fun fr H Q=>vE (cf c false) (.cmp .Gt (.call (.k (.bi .len)) [.l 2]) (.k (.int 0))) fr H Q X) (fun fr H N=>AV (cf c false) PN fr H N R X)
noncomputable abbrev W7(a:V)(x:Option V):Fr:=[some a,some (.ref 0),some (.ref 1),x]
noncomputable def sV(ws:List Ao):List V:=ws.map .str
structure Wk (c:A7)(v:V)(k:Nat)(ws:List Ao):Prop where
 len:ws.length<=k
 run:∀n a x (out st:List V) (N:NV) (R:RT) (X:EV),out.length+k<=900->st.length+k<=900->(∀x,Hl c R X n (W7 a x) [.list (out++sV ws),.list st] N)->Hl c R X (n+k) (W7 a x) [.list out,.list (st++[v])] N
structure Ja (c:A7)(vs:List V)(k:Nat)(ws:List Ao):Prop where
 len:ws.length<=k
 size:vs.length<=k
 run:∀n a x (out st:List V) (N:NV) (R:RT) (X:EV),out.length+k<=900->st.length+k<=900->(∀x,Hl c R X n (W7 a x) [.list (out++sV ws),.list st] N)->Hl c R X (n+k) (W7 a x) [.list out,.list (st++vs.reverse)] N
theorem Ja.nil:Ja c [] 0 [] where
 len:=Ay _
 size:=Ay _
 run:=fun n a x out st N R X ø ø q=>by rw[List.reverse_nil,Bq];have z:=q x;rw[show sV []=[] from rfl,Bq] at z;exact z
theorem Ja.cons{v:V}{vs:List V}{k1 k2 k:Nat}{w1 w2:List Ao}(h1:Wk c v k1 w1)(h2:Ja c vs k2 w2)(h0:0<k1)(e:k=k2+k1):Ja c (v::vs) k (w1++w2) where
 len:=by refine Aj Ak ?_;have a1:=h1.len;have a2:=h2.len;exact mA (Lp xa xb) xc [.l xa xd,.l xb xe,.f xc (Lp xe xd)] As a1 a2 e
 size:=by refine Aj Cy ?_;have:=h2.size;exact OP (Lp xa (.num 1)) xb [.l xa xc,.f xb (Lp xc xd),.t (.num 0) xd] As this e h0
 run:=fun n a x out st N R X ho hs q=>by
  have l1:=h1.len
  have l2:=h2.size
  subst e
  rw[DX,<-Bd,<-Gb]
  refine h1.run (n+k2) a x out (st++vs.reverse) N R X (Fc (Lp xa xb) (.num 900) [.l (Lp xa (Lp xc xb)) (.num 900)] As ho) (by refine Aj Ak (Aj B5 ?_);exact OP (Lp (Lp xa xb) xc) (.num 900) [.l (Lp xa (Lp xd xc)) (.num 900),.l xb xd] As hs l2) fun x=>?_
  refine h2.run n a x (out++sV w1) st N R X (by refine Aj Ak (Aj (show(sV w1).length=w1.length from A0 ..) ?_);exact OP (Lp (Lp xa xb) xc) (.num 900) [.l (Lp xa (Lp xc xd)) (.num 900),.l xb xd] As ho l1) (Fc (Lp xa xb) (.num 900) [.l (Lp xa (Lp xb xc)) (.num 900)] As hs) fun x=>?_
  have z:=q x
  rw[show sV (w1++w2)=sV w1++sV w2 from DD,<-Bd] at z
  exact z
theorem Nq(h:n<=900):n<=Ap:=Ag h (by decide)
theorem Nx(hi:Vy c v b)(hs:st.length+1<=900)
  (q:AV (cf c false) (PN.drop 1) (W7 a (some v)) [.list out,.list st] (fun fr H=>Hl c R X n fr H N) R X):Hl c R X (n+1) (W7 a x) [.list out,.list (st++[v])] N:=by
 have hl:(st++[v]).length<=Ap:=Aj Ak (Nq hs)
 refine aI hl (vB.t (decide_eq_true (Aj Ak (Bg.mpr (BM _)))) ?_)
 refine YT rfl rfl hl (vO.e List.getLast?_concat ?_)
 have:AV (cf c false) (PN.drop 1) (W7 a (some v)) [.list out,.list (st++[v]).dropLast] (fun fr H=>Hl c R X n fr H N) R X:=Aj HD q
 exact this
theorem Wk.flat(h:cX v=true):Wk (step c) v 1 [] where
 len:=A3 _
 run:=fun n a x out st N R X ho hs q=>by
  refine Nx (QE h) hs ?_
  have z:=q (some v)
  rw[show sV []=[] from rfl,Bq] at z
  cases v with
  |none | int | str=>exact QE rfl _ _ _ (vB.f rfl (aI rfl (vB.f rfl z)))
  |_=>exact nomatch h
theorem Wk.seq(hv:v=.lst vs\/v=.tup vs)(hi:Vy c v false)(h:Ja c vs k ws)(e:m=k+1):Wk c v m ws where
 len:=by have:=h.len;exact Fc xa xb [.l xa xc,.f xb (Lp xc (.num 1))] As this e
 run:=fun n a x out st N R X ho hs q=>by
  have h3:=h.size
  subst e
  rw[<-Gb]
  have z:=h.run n a (some v) out st N R X (CY (Lp xa xb) (.num 900) [.l (Lp xa (Lp xb (.num 1))) (.num 900)] As ho) (CY (Lp xa xb) (.num 900) [.l (Lp xa (Lp xb (.num 1))) (.num 900)] As hs) q
  have l1:vs.length<=Ap:=Nq (Fc xa (.num 900) [.l xa xb,.l (Lp xc (Lp xb (.num 1))) (.num 900)] As h3 ho)
  have l2:st.length+vs.reverse.length<=Ap:=Nq (by refine Aj B5 ?_;exact Fc (Lp xa xb) (.num 900) [.l (Lp xa (Lp xc (.num 1))) (.num 900),.l xb xc] As hs h3)
  refine Nx hi (CY (Lp xa (.num 1)) (.num 900) [.l (Lp xa (Lp xb (.num 1))) (.num 900)] As hs) (hi _ _ _ ?_)
  rcases hv with rfl | rfl
  ·exact vB.f rfl (aI rfl (vB.t rfl (kJ rfl l1 rfl l2 z)))
  ·exact vB.f rfl (aI rfl (vB.t rfl (aI rfl (YT l1 rfl l2 z))))
theorem Wk.tree(hi:Vy c (.tup (.str t::.str n::vs)) true)(hn:OZ c (.tup (.str t::.str n::vs)) w)(h:Ja c vs k ws)(e:m=k+1):Wk c (.tup (.str t::.str n::vs)) m (w::ws) where
 len:=by have:=h.len;refine Aj Cy ?_;exact Fc (Lp xa (.num 1)) xb [.l xa xc,.f xb (Lp xc (.num 1))] As this e
 run:=fun n' a x out st N R X ho hs q=>by
  have h3:=h.size
  subst e
  rw[<-Gb]
  have z:=h.run n' a (some (.tup (.str t::.str n::vs))) (out++[.str w]) st N R X (by rw[Ak];show out.length+1+k<=_;exact CY (Lp (Lp xa (.num 1)) xb) (.num 900) [.l (Lp xa (Lp xb (.num 1))) (.num 900)] As ho) (CY (Lp xa xb) (.num 900) [.l (Lp xa (Lp xb (.num 1))) (.num 900)] As hs) fun x=>by
   have z:=q x
   rw[show sV (w::ws)=[V.str w]++sV ws from rfl,<-Bd] at z
   exact z
  have l1:vs.length<=Ap:=Nq (Fc xa (.num 900) [.l xa xb,.l (Lp xc (Lp xb (.num 1))) (.num 900)] As h3 ho)
  have l2:st.length+vs.reverse.length<=Ap:=Nq (by rw[B5];exact Fc (Lp xa xb) (.num 900) [.l (Lp xa (Lp xc (.num 1))) (.num 900),.l xb xc] As hs h3)
  have l4:(V.str t::.str n::vs).length<=Ap:=Ag (show vs.length+2<=902 from Fc (Lp xa (.num 2)) (.num 902) [.l xa xb,.l (Lp xc (Lp xb (.num 1))) (.num 900)] As h3 ho) (by decide)
  have e2:E4 (V.str t::.str n::vs) 2 (vs.length+2)=vs:=by
   show(List.take vs.length vs)=vs
   exact List.take_length
  refine Nx hi (CY (Lp xa (.num 1)) (.num 900) [.l (Lp xa (Lp xb (.num 1))) (.num 900)] As hs) (hi _ _ _ (vB.t rfl (hn _ _ _ (aI (Nq (CY xa (.num 900) [.l (Lp xa (Lp xb (.num 1))) (.num 900)] As ho)) ?_))))
  refine QD ⟨by decide,by decide⟩ l4 ?_
  have go:∀us,us=vs->false=false/\us.length<=Ap/\(false=false/\st.length+us.reverse.length<=Ap/\Hl c R X (n'+k) (W7 a (some (.tup (.str t::.str n::vs)))) [.list (out++[.str w]),.list (st++us.reverse)] N):=fun us e=>by
   refine Aj e ?_;exact kJ rfl l1 rfl l2 z
  exact go _ e2
end
noncomputable def iF(a:Ai)(c:A7):Prop:=∀(n:Nm) H L dt sp (Q:QV) (X:EV),L[0]?=some (oM H.length dt sp)->L[3]?=some (.dict [])->Q (.str n.kd.str) (H++L)->c false a [.ref H.length,.str n.s] (H++L) Q X
theorem eA(kn:iG c):iF 317 (step c):=fun n H L dt sp Q X h0 h3 q=>CM rfl rfl rfl (aO.e (k:=0) h0 (aI rfl (kn n (FD h3) _ _ q)))
theorem dZ(kn:iG c):iF 246 (step c):=fun n H L dt sp Q X h0 h3 q=>CM rfl rfl rfl (aO.e (k:=0) h0 (aI rfl (kn n (FD h3) _ _ q)))
theorem gF{c:A7}(km:iF 317 c){n:Nm}{v u:V}{H L:MH}{es:List (Ao×V)}{dt sp:V}{Q:QV}{X:EV}(h0:L[0]?=some (oM H.length dt sp))(h1:L[1]?=some (.dict es))(hn:es.length<=1000)(h3:L[3]?=some (.dict []))(hp:PC c 204 [v,.str n.kd.str,.int 16,.int 4] (.ok u))
  (q:Q .none (H++L.set 1 (.dict (putL n.s u es)))):step c false 331 [.ref H.length,.str n.s,v] (H++L) Q X:=
 CM rfl rfl rfl (ZQ (k:=1) (fun Q q=>km n H L dt sp _ _ h0 h3 (aO.e (k:=0) h0 (aI rfl (aO.e (k:=0) h0 (aI rfl (hp _ _ _ q)))))) (fun Q q=>aO.e (k:=0) h0 (aI rfl q)) (fun Q q=>q) h1 hn q)
noncomputable def jD(c:A7):Prop:=∀(h:Nat) H (Q:QV) (X:EV),h<=100->Q (.int ((h+1:Nat):Int)) H->c false 239 [.lst [.int h],.int 0] H Q X
theorem Xw:jD (step c):=fun h H Q X hh q=>by
 refine CS rfl rfl rfl rfl (QD ⟨by decide,by decide⟩ rfl ?_)
 have:Q (.int (1*((h:Int)-0+1))) H:=Aj (show 1*((h:Int)-0+1)=((h+1:Nat):Int) from B0 (BV (.mulL 1 (.add (.sub za (.num 0)) (.num 1))) (.add za (.num 1)) [] As) (BV (.add za (.num 1)) (.mulL 1 (.add (.sub za (.num 0)) (.num 1))) [] As)) q
 exact this
noncomputable def mB(c:A7):Prop:=∀(h:Nat) H L dt sp (Q:QV) (X:EV),h<=100->L[0]?=some (oM H.length dt sp)->Q .none (H++L)->c false 253 [.ref H.length,.lst [.int h]] (H++L) Q X
theorem bX(cn:jD c):mB (step c):=fun h H L dt sp Q X hh h0 q=>by
 refine CM rfl rfl rfl (aI (lB rfl) (vB.f rfl ?_))
 refine aO.e (k:=0) h0 (aI rfl (vB.f (decide_eq_false (Bu.2 (BV (.num 0) za [.l (.num 0) za] As (AE _)))) ?_))
 exact aO.e (k:=0) h0 (aI rfl (cn h _ _ _ hh (aO.e (k:=0) h0 (aI rfl (vB.f (decide_eq_false (Bu.2 (BV (.add za (.num 1)) (.num 2000) [.l za (.num 100)] As (Am.2 hh)))) q)))))
noncomputable def YS:IT->V
 |.text=>.str ⟨#[]⟩
 |.whole=>.int 0
 |.dec=>V.dec 0 0
noncomputable def mE(c:A7):Prop:=∀(k:IT) H (Q:QV) (X:EV),Q (YS k) H->c false 134 [.str k.str] H Q X
theorem dE:mE (step c):=fun k H Q X q=>by
 induction k with
 |text=>exact CS rfl rfl rfl rfl (vB.t rfl (aI rfl q))
 |whole=>exact CS rfl rfl rfl rfl (vB.f rfl (vB.t rfl (aI rfl q)))
 |dec=>exact CS rfl rfl rfl rfl (vB.f rfl (vB.f rfl (aI rfl q)))
noncomputable def Oq(k:IT)(h:Nat):List V:=Bz (h+1) (YS k)
noncomputable def Z0(k:IT)(h i:Nat):De:=oG (.str k.str) (.lst [.int h]) (.ref i) (.int (Oq k h).length)
noncomputable def mG(c:A7):Prop:=∀(kd:IT) (h:Nat) H L k (Q:QV) (X:EV),h<=100->L.length=k->Q (.ref (H.length+k)) (H++(L++[Z0 kd h (H.length+(k+1)),.list (Oq kd h)]))->c false 228 [.str kd.str,.lst [.int h],.int 0] (H++L) Q X
theorem dN(cn:jD c)(fv:mE c):mG (step (step c)):=fun kd h H L k Q X hh hk q=>by
 refine Ti rfl hk (CM rfl rfl rfl ?_)
 refine GF rfl (fun ø q=>q) (Rw hk) ⟨rfl,lB rfl⟩ ?_
 refine Aj (SP hk) ?_
 refine GF rfl (fun ø q=>aI (lB rfl) q) (Rw hk) ⟨rfl,lB rfl⟩ ?_
 refine Aj (SP hk) ?_
 refine GF rfl (fun ø q=>q) (Rw hk) ⟨rfl,lB rfl⟩ ?_
 rw[SP hk]
 refine GF (L:=L++[_,.list (Oq kd h)]) (v:=.ref (H.length+(k+1))) rfl (fun Q q=>fv kd _ _ _ (cn h _ _ _ hh (aI ⟨BV (.num 0) (.add za (.num 1)) [.l (.num 0) za] As (AE _),Am.mpr (Ag (show h+1<=101 from GK (Lp xa (.num 1)) (.num 101) [.l xa (.num 100)] As hh) (show 101<=Ap by decide))⟩ (al (k:=k+1) (by refine Aj Ak (Aj hk ?_);rfl) (by rw[Bd];exact q))))) (Rw hk) ⟨rfl,lB rfl⟩ ?_
 rw[SP hk]
 refine GF rfl (fun Q q=>aO.e (Rw hk) (aI rfl (hO.e (FD (by
  rw[BL (by exact CY xa (Lp xb (.num 1)) [.e xa xb] As hk),hk,Gv];rfl)) (aI ?_ q)))) (Rw hk) ⟨rfl,lB rfl⟩ ?_
 ·show(Oq kd h).length<=_
  rw[Oq,List.length_replicate];exact Ag (show h+1<=101 from GK (Lp xa (.num 1)) (.num 101) [.l xa (.num 100)] As hh) (by decide)
 rw[SP hk]
 exact aI rfl q
theorem cJ{c:A7}(ch:mB c)(ki:iF 246 c)(gr:mG c){n:Nm}{h:Nat}{H L:MH}{k:Nat}{es:List (Ao×V)}{dt sp:V}{Q:QV}{X:EV}(hh:h<=100)(hk:L.length=k)(h0:L[0]?=some (oM H.length dt sp))(h2:L[2]?=some (.dict es))(he:(es.lookup n.s).isSome=false)(hn:es.length<=1000)(h3:L[3]?=some (.dict []))
  (q:Q .none (H++(L++[Z0 n.kd h (H.length+(k+1)),.list (Oq n.kd h)]).set 2 (.dict (putL n.s (.ref (H.length+k)) es)))):step c false 260 [.ref H.length,.str n.s,.lst [.int h]] (H++L) Q X:=by
 refine CM rfl rfl rfl (aO.e (k:=0) h0 (aI rfl (aO.e h2 (vB.f he ?_))))
 refine ch h H L dt sp _ _ hh h0 ?_
 exact ZQ (k:=2) (fun Q q=>ki n H L dt sp _ _ h0 h3 (aO.e (k:=0) h0 (aI rfl (gr n.kd h H L k _ _ hh hk q)))) (fun Q q=>aO.e (k:=0) (Ha h0) (aI rfl q)) (fun Q q=>q) (Ha h2) hn q
noncomputable abbrev bW:Ao:=⟨#[97,98,99,100,101,102,103]⟩
noncomputable abbrev kO:Ao:=⟨#[107,108,109,110,111,112]⟩
noncomputable def dT(τ:TL)(w:Ao):Int:=if XJ τ w then 0 else 3
noncomputable def hT(τ:TL)(w:Ao):Nat:=if XJ τ w then 3 else 4
noncomputable def iJ(n:Int):V:=.int (Cb n 6)
noncomputable def aV(n:Int):Ao:=Ao.cut bW (Cb n 3).toNat (3+Cb n 5).toNat
noncomputable def itR(n:Int):List V:=[0,1,2,3].map fun p:Nat=>V.dec (Cb (n+p) 9+1) 0
noncomputable def sS(n:Int)(p:Nat):Ao:=Ao.cut kO p ((p:Int)+Cb n 4).toNat
noncomputable def aY(n:Int):List V:=[0,1,2,3].map fun p:Nat=>.str (sS n p)
noncomputable def Dg(va:V)(n1 n2 n3 n4 n5:Int)(τ:TL):Nat->V
 |0=>va
 |1=>iJ (n1+dT τ wB)
 |2=>.str (aV (n2+dT τ wC))
 |3=>V.arr (hT τ HA) (itR (n3+dT τ HA)++(Oq .dec (hT τ HA)).drop 4)
 |4=>V.arr (hT τ Ic) (aY (n4+dT τ Ic)++(Oq .text (hT τ Ic)).drop 4)
 |_=>.int n5
noncomputable def Jx(i:Nat)(fn:V)(τ:TL):Wd:=⟨i,0,[],fn,.int (Oq .dec (hT τ HA)).length,.int (Oq .text (hT τ Ic)).length⟩
theorem dP(τ:TL)(w:Ao):(if XJ τ w then(3:Int) else 4)=((hT τ w:Nat):Int):=by unfold hT;split<;>rfl
theorem M1(τ:TL)(w:Ao):3<=hT τ w/\hT τ w<=4:=by unfold hT;split<;>exact⟨by decide,by decide⟩
theorem Ko(k:IT)(h:Nat):(Oq k h).length=h+1:=List.length_replicate ..
theorem fm(h:0<k):0<=Cb n k/\Cb n k<k:=⟨Int.fmod_nonneg_of_pos _ h,Int.fmod_lt_of_pos _ h⟩
theorem jP:wR++(⟨#[40,41]⟩:Ao)=HA:=by decide+kernel
theorem jQ:wS++(⟨#[40,41]⟩:Ao)=Ic:=by decide+kernel
noncomputable def nM:List S:=match Fy.body.drop 6 with
 |.for_ _ _ b::_=>b
 |_=>[]
noncomputable def bB:E:=.bin .Add (.l 13) (.ite (.or (.cmp .Is (.l 2) (.k .none)) (.cmp .In (.l 14) (.l 2))) (.k (.int 0)) (.k (.int 3)))
noncomputable abbrev Zq(ns:List V)(fn tv w:V)(a b:Option V):Fr:=[some (.lst ns),some fn,some tv,some (.lst [.str wA,.str wB,.str wC,.str HA,.str Ic]),some w,none,none,none,none,none,none,none,none,a,b]
theorem KC(q:Q (.int (n+dT τ w)) H):vE C bB (Zq ns fn τ.v ww (some (.int n)) (some (.str w))) H Q X:=
 PD (fun Q q=>ND (C:=C) (fr:=Zq ns fn τ.v ww (some (.int n)) (some (.str w))) rfl (fun Q q=>q) q) rfl q
noncomputable def nY(c c':A7):Prop:=∀{n:Nm} {v u:V} {H L:MH} {es:List (Ao×V)} {dt sp:V} {Q:QV} {X:EV},L[0]?=some (oM H.length dt sp)->L[1]?=some (.dict es)->es.length<=1000->L[3]?=some (.dict [])->PC c' 204 [v,.str n.kd.str,.int 16,.int 4] (.ok u)->
  Q .none (H++L.set 1 (.dict (putL n.s u es)))->c false 331 [.ref H.length,.str n.s,v] (H++L) Q X
noncomputable def jE(c:A7):Prop:=∀{n:Nm} {h:Nat} {H L:MH} {k:Nat} {es:List (Ao×V)} {dt sp:V} {Q:QV} {X:EV},h<=100->L.length=k->L[0]?=some (oM H.length dt sp)->L[2]?=some (.dict es)->(es.lookup n.s).isSome=false->es.length<=1000->L[3]?=some (.dict [])->
  Q .none (H++(L++[Z0 n.kd h (H.length+(k+1)),.list (Oq n.kd h)]).set 2 (.dict (putL n.s (.ref (H.length+k)) es)))->c false 260 [.ref H.length,.str n.s,.lst [.int h]] (H++L) Q X
section
variable {C:FP}{H:MH}{fr:Fr}{N:NV}{R:RT}{X:EV}{ss body:List S}{tg:Tg}
theorem lI(hi:∀Q:List V->MH->Prop,Q xs H->vI C it fr H Q X)(q:HK (fun x fr H N=>Kz fr tg x fun fr'=>AV C body fr' H N R X) xs fr H (fun fr H=>AV C ss fr H N R X)):AV C (.for_ tg it body::ss) fr H N R X:=hi _ q
theorem P7(hf:∀K:Fr->Prop,K fr'->Kz fr tg x K)(q:AV C body fr' H (fun fr H=>HK (fun x fr H N=>Kz fr tg x fun fr'=>AV C body fr' H N R X) xs fr H N) R X):HK (fun x fr H N=>Kz fr tg x fun fr'=>AV C body fr' H N R X) (x::xs) fr H N:=hf (fun fr'=>AV C body fr' H (fun fr H=>HK (fun x fr H N=>Kz fr tg x fun fr'=>AV C body fr' H N R X) xs fr H N) R X) q
end
noncomputable abbrev Wx(ns:List V)(fn tv ww a b c r s:V)(nu wo it:Option V):Fr:=[some (.lst ns),some fn,some tv,some (.lst [.str wA,.str wB,.str wC,.str HA,.str Ic]),some ww,nu,wo,some a,some b,some c,some r,some s,it,none,none]
theorem kM(dm:jE c)
  (q:N (Wx ns fn τ.v (.ref H.length) va vb vc vr vs (some (.int n)) (some (.str wR)) (some (.lst (itR n)))) (H++[oM H.length (.lst []) (.int 0),.dict es,.dict [(wR,.ref (H.length+8))],.dict [],.dict [],.dict [],.dict [],.dict [],Z0 .dec (hT τ HA) (H.length+9),.list (itR n++(Oq .dec (hT τ HA)).drop 4)])):
  AV (cf c false) nM (Wx ns fn τ.v (.ref H.length) va vb vc vr vs (some (.int n)) (some (.str wR)) it) (H++[oM H.length (.lst []) (.int 0),.dict es,.dict [],.dict [],.dict [],.dict [],.dict [],.dict []]) N R X:=by
 have hh:=M1 τ HA
 refine UH (fun Q q=>PD (b:=XJ τ HA) (fun Q q=>ND (C:=cf c false) (fr:=Wx ns fn τ.v (.ref H.length) va vb vc vr vs (some (.int n)) (some (.str wR)) it) rfl (fun Q q=>aI (lB rfl) (jP.symm▸q)) q) (dP τ HA) (dm (n:=.R) (h:=hT τ HA) (k:=8) (es:=[]) (GK xa (.num 100) [.l xa (.num 4)] As hh.2) rfl rfl rfl rfl (lB rfl) rfl q)) ?_
 refine gB (v:=.lst (itR n)) (fun Q q=>YT rfl ⟨by decide,by decide⟩ ⟨rfl,lB rfl⟩ (vB.t rfl (aI (by decide) (vB.t rfl (aI (by decide) (vB.t rfl (aI (by decide) (vB.t rfl (aI (by decide) q))))))))) ?_
 refine gC (k:=9) (fun Q q=>q) (fun Q q=>aO.e (k:=0) rfl (aI rfl (aO.e (k:=2) rfl (aO.e (k:=8) rfl (aI rfl q))))) (fun Q q=>q) rfl (by rw[Ko];exact⟨Am.1 (BV (.num 4) (.add za (.num 1)) [.l (.num 3) za] As (Am.2 hh.1)),Am.1 (BV (.add za (.num 1)) (.num 1000) [.l za (.num 4)] As (Am.2 hh.2))⟩) rfl ?_
 exact q
theorem kN{c:A7}(dm:jE c){ns:List V}{fn va vb vc vr vs:V}{it:Option V}{n:Int}{τ:TL}{H:MH}{es:List (Ao×V)}{g l:De}{N:NV}{R:RT}{X:EV}
  (q:N (Wx ns fn τ.v (.ref H.length) va vb vc vr vs (some (.int n)) (some (.str wS)) (some (.lst (aY n)))) (H++[oM H.length (.lst []) (.int 0),.dict es,.dict [(wR,.ref (H.length+8)),(wS,.ref (H.length+10))],.dict [],.dict [],.dict [],.dict [],.dict [],g,l,Z0 .text (hT τ Ic) (H.length+11),.list (aY n++(Oq .text (hT τ Ic)).drop 4)])):
  AV (cf c false) nM (Wx ns fn τ.v (.ref H.length) va vb vc vr vs (some (.int n)) (some (.str wS)) it) (H++[oM H.length (.lst []) (.int 0),.dict es,.dict [(wR,.ref (H.length+8))],.dict [],.dict [],.dict [],.dict [],.dict [],g,l]) N R X:=by
 have hh:=M1 τ Ic
 have m4:=fm (n:=n) (k:=4) (by decide)
 have b0:(0:Int)<=((0:Nat):Int)+Cb n 4:=BV (.num 0) (.add (.num 0) za) [.l (.num 0) za] As m4.1
 have t0:((0:Nat):Int)+Cb n 4<2 ^ 62:=DU (.add (.num 0) za) (.num 4611686018427387904) [.t za (.num 4)] As m4.2
 have b1:(0:Int)<=((1:Nat):Int)+Cb n 4:=BV (.num 0) (.add (.num 1) za) [.l (.num 0) za] As m4.1
 have t1:((1:Nat):Int)+Cb n 4<2 ^ 62:=DU (.add (.num 1) za) (.num 4611686018427387904) [.t za (.num 4)] As m4.2
 have b2:(0:Int)<=((2:Nat):Int)+Cb n 4:=BV (.num 0) (.add (.num 2) za) [.l (.num 0) za] As m4.1
 have t2:((2:Nat):Int)+Cb n 4<2 ^ 62:=DU (.add (.num 2) za) (.num 4611686018427387904) [.t za (.num 4)] As m4.2
 have b3:(0:Int)<=((3:Nat):Int)+Cb n 4:=BV (.num 0) (.add (.num 3) za) [.l (.num 0) za] As m4.1
 have t3:((3:Nat):Int)+Cb n 4<2 ^ 62:=DU (.add (.num 3) za) (.num 4611686018427387904) [.t za (.num 4)] As m4.2
 refine UH (fun Q q=>PD (b:=XJ τ Ic) (fun Q q=>ND (C:=cf c false) (fr:=Wx ns fn τ.v (.ref H.length) va vb vc vr vs (some (.int n)) (some (.str wS)) it) rfl (fun Q q=>aI (lB rfl) (jQ.symm▸q)) q) (dP τ Ic) (dm (n:=.S) (h:=hT τ Ic) (k:=10) (es:=[(wR,.ref (H.length+8))]) (GK xa (.num 100) [.l xa (.num 4)] As hh.2) rfl rfl rfl rfl (lB rfl) rfl q)) ?_
 refine gB (v:=.lst (aY n)) (fun Q q=>aI rfl (aI ⟨by decide,by decide⟩ (aI ⟨rfl,lB rfl⟩ (vB.f rfl (aI (by decide) (aI ⟨by decide,by decide⟩ (aI ⟨b0,t0⟩ (aI (lB rfl) (vB.f rfl (aI (by decide) (aI ⟨by decide,by decide⟩ (aI ⟨b1,t1⟩ (aI (lB rfl) (vB.f rfl (aI (by decide) (aI ⟨by decide,by decide⟩ (aI ⟨b2,t2⟩ (aI (lB rfl) (vB.f rfl (aI (by decide) (aI ⟨by decide,by decide⟩ (aI ⟨b3,t3⟩ (aI (lB rfl) (q)))))))))))))))))))))))) ?_
 refine gC (k:=11) (fun Q q=>q) (fun Q q=>aO.e (k:=0) rfl (aI rfl (aO.e (k:=2) rfl (aO.e (k:=10) rfl (aI rfl q))))) (fun Q q=>q) rfl (by rw[Ko];exact⟨Am.1 (BV (.num 4) (.add za (.num 1)) [.l (.num 3) za] As (Am.2 hh.1)),Am.1 (BV (.add za (.num 1)) (.num 1000) [.l za (.num 4)] As (Am.2 hh.2))⟩) rfl ?_
 exact q
theorem Xc{c:A7}{fn tv a b c1 r s va:V}{nu wo it:Option V}{n0 n1 n2 n3 n4 n5:Int}{τ:TL}{H:MH}{N:NV}{X:EV}{Q:QV}(q:Q (.ref H.length) (H++WB (Jx H.length fn τ) ⟨Dg va n1 n2 n3 n4 n5 τ,none,0⟩)):
  AV (cf c false) (Fy.body.drop 7) (Wx [.int n0,.int n1,.int n2,.int n3,.int n4,.int n5] fn tv (.ref H.length) a b c1 r s nu wo it) (H++[oM H.length (.lst []) (.int 0),.dict [(wA,va),(wB,iJ (n1+dT τ wB)),(wC,.str (aV (n2+dT τ wC)))],.dict [(wR,.ref (H.length+8)),(wS,.ref (H.length+10))],.dict [],.dict [],.dict [],.dict [],.dict [],Z0 .dec (hT τ HA) (H.length+9),.list (itR (n3+dT τ HA)++(Oq .dec (hT τ HA)).drop 4),Z0 .text (hT τ Ic) (H.length+11),.list (aY (n4+dT τ Ic)++(Oq .text (hT τ Ic)).drop 4)]) N (fun v ø H=>Q v H) X:=by
 refine ZQ (k:=4) (es:=[]) (v:=fn) (s:=wF) (fun Q q=>q) (fun Q q=>aO.e (k:=0) rfl (aI rfl q)) (fun Q q=>q) rfl (A3 _) ?_
 refine GF (m:=4) (k:=0) (v:=Tr) rfl (fun Q q=>q) rfl ⟨rfl,lB rfl⟩ ?_
 refine GF (m:=4) (k:=0) (v:=.int n5) rfl (fun Q q=>aI ⟨by decide,by decide⟩ q) rfl ⟨rfl,lB rfl⟩ ?_
 exact q
noncomputable def bR(c c':A7):Prop:=∀{va:V} {n0 n1 n2 n3 n4 n5:Int} {τ:TL} {fn:V} {H:MH} {Q:QV} {X:EV},PC c' 204 [V.dec (n0+dT τ wA) (-1),.str Hn,.int 16,.int 4] (.ok va)->
  Q (.ref H.length) (H++WB (Jx H.length fn τ) ⟨Dg va n1 n2 n3 n4 n5 τ,none,0⟩)->c false 907 [.lst [.int n0,.int n1,.int n2,.int n3,.int n4,.int n5],fn,τ.v] H Q X
theorem Vk{c c':A7}(wn:mO c)(sm:nY c c')(dm:jE c)(sb:∀i:Int,0<=i->i<6->PC c' 204 [.int i,.str Jq,.int 16,.int 4] (.ok (.int i)))(sc:∀s:Ao,s.length<=255->PC c' 204 [.str s,.str F5,.int 16,.int 4] (.ok (.str s))):bR (step c) c':=by
 intro va n0 n1 n2 n3 n4 n5 τ fn H Q X ha q
 refine CM rfl rfl rfl (wn H _ _ ?_)
 refine aI rfl (aI ⟨rfl,lB rfl⟩ ?_)
 show vE (cf c false) bB (Zq [.int n0,.int n1,.int n2,.int n3,.int n4,.int n5] fn τ.v (.ref H.length) (some (.int n0)) (some (.str wA))) (H++_) _ _
 refine KC ?_
 refine(?_:vE (cf c false) bB (Zq [.int n0,.int n1,.int n2,.int n3,.int n4,.int n5] fn τ.v (.ref H.length) (some (.int n1)) (some (.str wB))) (H++_) _ _)
 refine KC ?_
 refine(?_:vE (cf c false) bB (Zq [.int n0,.int n1,.int n2,.int n3,.int n4,.int n5] fn τ.v (.ref H.length) (some (.int n2)) (some (.str wC))) (H++_) _ _)
 refine KC ?_
 refine(?_:vE (cf c false) bB (Zq [.int n0,.int n1,.int n2,.int n3,.int n4,.int n5] fn τ.v (.ref H.length) (some (.int n3)) (some (.str HA))) (H++_) _ _)
 refine KC ?_
 refine(?_:vE (cf c false) bB (Zq [.int n0,.int n1,.int n2,.int n3,.int n4,.int n5] fn τ.v (.ref H.length) (some (.int n4)) (some (.str Ic))) (H++_) _ _)
 refine KC ?_
 refine(?_:AV (cf c false) (Fy.body.drop 3) [some (.lst [.int n0,.int n1,.int n2,.int n3,.int n4,.int n5]),some fn,some τ.v,some (.lst [.str wA,.str wB,.str wC,.str HA,.str Ic]),some (.ref H.length),none,none,some (.int (n0+dT τ wA)),some (.int (n1+dT τ wB)),some (.int (n2+dT τ wC)),some (.int (n3+dT τ HA)),some (.int (n4+dT τ Ic)),none,none,none] (H++_) _ _ _)
 have c3:=fm (n:=n2+dT τ wC) (k:=3) (by decide)
 have c5:=fm (n:=n2+dT τ wC) (k:=5) (by decide)
 have b6:=fm (n:=n1+dT τ wB) (k:=6) (by decide)
 refine UH (fun Q q=>sm (n:=.A) rfl rfl (lB rfl) rfl ha q) ?_
 refine UH (fun Q q=>aI (by decide) (sm (n:=.B) rfl rfl (lB rfl) rfl (sb _ b6.1 b6.2) q)) ?_
 refine UH (fun Q q=>aI (by decide) (aI (by decide) (aI ⟨c3.1,DU za (.num 4611686018427387904) [.t za (.num 3)] As c3.2⟩ (aI ⟨BV (.num 0) (.add (.num 3) za) [.l (.num 0) za] As c5.1,DU (.add (.num 3) za) (.num 4611686018427387904) [.t za (.num 5)] As c5.2⟩ (aI (lB rfl) (sm (n:=.C) rfl rfl (lB rfl) rfl (sc (aV (n2+dT τ wC)) ?_) q)))))) ?_
 ·rw[aV,Kh]
  have:bW.length=7:=rfl
  exact Fc xa (.num 255) [.l xa xb,.l xb xc,.e xc (.num 7)] As (DK _ _) (Gy _ _) this
 refine lI (xs:=[.tup [.str wR,.int (n3+dT τ HA)],.tup [.str wS,.int (n4+dT τ Ic)]]) (fun Q q=>q) ?_
 refine P7 (fr':=Wx [.int n0,.int n1,.int n2,.int n3,.int n4,.int n5] fn τ.v (.ref H.length) (.int (n0+dT τ wA)) (.int (n1+dT τ wB)) (.int (n2+dT τ wC)) (.int (n3+dT τ HA)) (.int (n4+dT τ Ic)) (some (.int (n3+dT τ HA))) (some (.str wR)) none) (fun K q=>q) (kM dm ?_)
 refine P7 (fr':=Wx [.int n0,.int n1,.int n2,.int n3,.int n4,.int n5] fn τ.v (.ref H.length) (.int (n0+dT τ wA)) (.int (n1+dT τ wB)) (.int (n2+dT τ wC)) (.int (n3+dT τ HA)) (.int (n4+dT τ Ic)) (some (.int (n4+dT τ Ic))) (some (.str wS)) (some (.lst (itR (n3+dT τ HA))))) (fun K q=>q) (kN dm ?_)
 exact Xc q
theorem ON(n:Nat):bR (nc (n+9)) (nc (n+7)):=
 Vk (c:=nc (n+8)) (iA (c:=nc (n+6))) (gF (c:=nc (n+7)) (eA (c:=nc (n+6)) (TU (c:=nc (n+5)))))
  (cJ (c:=nc (n+7)) (bX (c:=nc (n+6)) (Xw (c:=nc (n+5)))) (dZ (c:=nc (n+6)) (TU (c:=nc (n+5)))) (dN (c:=nc (n+5)) (Xw (c:=nc (n+4))) (dE (c:=nc (n+4)))))
  (fun i h1 h2=>ZX (c:=nc (n+4)) ⟨BV (.neg (.num 32768)) za [.l (.num 0) za] As h1,DU za (.num 32768) [.t za (.num 6)] As h2⟩) (fun s h=>ZY (c:=nc (n+5)) h)
structure Wo (g:Nat->V):Prop where
 a:Bl 2 2 (g 0)
 b:Bl 2 1 (g 1)
 c:Bl 2 2 (g 2)
 ar:∀a:Ar,∃n xs,g a.k=V.arr n xs/\(xs.length=n+1/\n<=10)/\∀v,v∈xs->Bl 2 2 v
 p:∃p:Nat,g 5=.int p
theorem Wo.cell(h:Wo g)(hk:k<=5):Dm (k,g k):=by
 refine⟨fun h3=>?_,fun a e=>?_,fun e=>?_⟩
 ·clear hk;rcases k with _ | _ | _ | k
  ·exact h.a.pv
  ·exact h.b.pv
  ·exact h.c.pv
  ·exact absurd h3 (Fv.mpr (Nat.le_add_left 3 k))
 ·clear hk;cases e
  refine EM (h.ar a) fun n xs e hn hx=>?_
  exact F1 n xs e hn (fun v hv=>(hx v hv).pv)
 ·cases e;exact h.p
theorem Wo.kok(h:Wo g)(ha:fb.asks<=10)(hc:fb.cost<=100)(t:Nat->Prop):HP ⟨t,g,none,0,.tup [.lst [.str wX],fb.v,.int (-1)]⟩ fb where
 x:=rfl
 d:=rfl
 fn:=rfl
 a:=fun ø=>h.a
 b:=fun ø=>h.b
 c:=fun ø=>h.c
 ar:=fun a ø=>h.ar a
 asks:=ha
 cost:=hc
theorem Wo.dec{a:Int}(h:0<=a/\a<10):Bl 2 2 (V.dec a 0):=.dec a 0 (Ld (DU (.neg (.num 10000)) za [.l (.num 0) za] As h.1) (DU za (.num 10000) [.t za (.num 10)] As h.2)) ⟨by decide,1,by decide,Ld (DU (.neg (.num 10)) za [.l (.num 0) za] As h.1) (DU za (.num 10) [.t za (.num 10)] As h.2),by decide⟩
theorem Wo.str{s:Ao}{a b:Nat}(h:s.length<=255)(o:C5 s):Bl 2 2 (.str (Ao.cut s a b)):=.str _ (by refine Aj Kh ?_;exact Fc xa (.num 255) [.l xa xb,.l xb xc,.l xc (.num 255)] As (DK _ _) (Gy _ _) h) (Kv o)
theorem QB(hv:v∈(Oq k h).drop j):v=YS k:=List.eq_of_mem_replicate (HF hv)
theorem Hd{va:V}{n1 n2 n3 n4:Int}{p:Nat}{τ:TL}(ha:Bl 2 2 va):Wo (Dg va n1 n2 n3 n4 p τ) where
 a:=ha
 b:=by
  have:=fm (n:=n1+dT τ wB) (k:=6) (by decide)
  exact .int _ 1 (Ld (DU (.neg (.num 10)) za [.l (.num 0) za] As this.1) (DU za (.num 10) [.t za (.num 6)] As this.2)) (by decide) (by decide) (by decide)
 c:=Wo.str (lB rfl) (by decide+kernel)
 ar:=fun a=>by
  induction a with
  |R=>
   refine(F1 _ _ rfl ⟨?_,Ag (M1 τ HA).2 (by decide)⟩ (fun v hv=>?_))
   ·have:=M1 τ HA
    rw[Ak,Ez,Ko];show 4+_=_;exact AL (CY (Lp (.num 4) xa) (Lp xb (.num 1)) [.e (Lp xa (.num 4)) (Lp xb (.num 1))] As (AI (GK (.num 4) (Lp xa (.num 1)) [.l (.num 3) xa] As this.1))) (CY (Lp xa (.num 1)) (Lp (.num 4) xb) [.l (Lp xa (.num 1)) (Lp xb (.num 4))] As (OB _ _))
   ·rcases AJ.mp hv with hv | hv
    ·refine AO (B2.mp hv) fun q ø eq2=>?_
     refine D5 eq2 ?_
     have:=fm (n:=n3+dT τ HA+q) (k:=9) (by decide)
     exact Wo.dec ⟨BV (.num 0) (.add za (.num 1)) [.l (.num 0) za] As this.1,DU (.add za (.num 1)) (.num 10) [.t za (.num 9)] As this.2⟩
    ·rw[QB hv];exact Wo.dec ⟨by decide,by decide⟩
  |S=>
   refine(F1 _ _ rfl ⟨?_,Ag (M1 τ Ic).2 (by decide)⟩ (fun v hv=>?_))
   ·have:=M1 τ Ic
    rw[Ak,Ez,Ko];show 4+_=_;exact AL (CY (Lp (.num 4) xa) (Lp xb (.num 1)) [.e (Lp xa (.num 4)) (Lp xb (.num 1))] As (AI (GK (.num 4) (Lp xa (.num 1)) [.l (.num 3) xa] As this.1))) (CY (Lp xa (.num 1)) (Lp (.num 4) xb) [.l (Lp xa (.num 1)) (Lp xb (.num 4))] As (OB _ _))
   ·rcases AJ.mp hv with hv | hv
    ·refine AO (B2.mp hv) fun q ø eq1=>?_;clear hv;clear hv;subst eq1
     exact Wo.str (lB rfl) (by decide+kernel)
    ·rw[QB hv];exact .str _ (A3 _) (by decide+kernel)
 p:=⟨p,rfl⟩
noncomputable def cw:Nat->Ao
 |0=>wA
 |1=>wB
 |2=>wC
 |3=>HA
 |4=>Ic
 |_=>⟨#[]⟩
theorem Tq(h:XJ τ w=true):dT τ w=dT none w/\hT τ w=hT none w:=by unfold dT hT;exact Aj h ⟨rfl,rfl⟩
theorem Tj(hk:k<5->XJ τ (cw k)=true)(h0:k=0->vb=va):Dg vb n1 n2 n3 n4 p τ k=Dg va n1 n2 n3 n4 p none k:=by
 rcases k with _ | _ | _ | _ | _ | k
 ·exact h0 rfl
 ·refine(?_:iJ _=iJ _);refine Aj (show dT τ wB=_ from(Tq (hk (by decide))).1) ?_;rfl
 ·refine(?_:V.str (aV _)=.str (aV _));refine Aj (show dT τ wC=_ from(Tq (hk (by decide))).1) ?_;rfl
 ·have e:=Tq (hk (by decide));show V.arr (hT τ HA) (itR (n3+dT τ HA)++_)=_;refine Aj (show dT τ HA=_ from e.1) (Aj (show hT τ HA=_ from e.2) ?_);rfl
 ·have e:=Tq (hk (by decide));show V.arr (hT τ Ic) (aY (n4+dT τ Ic)++_)=_;refine Aj (show dT τ Ic=_ from e.1) (Aj (show hT τ Ic=_ from e.2) ?_);rfl
 ·rfl
theorem Ny:∀ws:List Ao,V.nrs (sV ws)=true
 |[]=>rfl
 |_::ws=>Ny ws
noncomputable def SM(c:A7)(vs:List V)(ws:List Ao):Prop:=∀a H (Q:QV) (X:EV),(a=.lst vs\/a=.tup vs)->Q (.lst (sV ws)) H->c false 49 [a] H Q X
theorem Lh(h:Ja c vs k ws)(nr:V.nrs vs=true)(hk:k<=390):SM (step c) vs ws:=fun a H Q X ha q=>by
 have h2:=h.size
 have go:AV (cf c false) (EQ.body.drop 1) (W7 a none) [.list [],.list vs.reverse] (fun ø ø=>Q .none H) (fun v ø H'=>V.nr (Br H' v)=true/\Q (Br H' v) H) (fun c ø=>X c H):=by
  have z:=h.run (399-k+1) a none [] [] (fun fr H'=>AV (cf c false) (EQ.body.drop 2) fr H' (fun ø ø=>Q .none H) (fun v ø H'=>V.nr (Br H' v)=true/\Q (Br H' v) H) (fun c ø=>X c H)) (fun v ø H'=>V.nr (Br H' v)=true/\Q (Br H' v) H) (fun c ø=>X c H) (by show 0+k<=900;exact GK (Lp (.num 0) xa) (.num 900) [.l xa (.num 390)] As hk) (by show 0+k<=900;exact GK (Lp (.num 0) xa) (.num 900) [.l xa (.num 390)] As hk)
   (fun x=>aI (A3 _) (vB.f rfl (aI (Ny ws) q)))
  rw[show 399-k+1+k=400 from AL (CY (Lp (Lp xa (.num 1)) xb) (.num 400) [.e (Lp xa xb) (.num 399)] As (AI (GK xa (.num 399) [.l xa (.num 390)] As hk))) (CY (.num 400) (Lp (Lp xa (.num 1)) xb) [.l (.num 399) (Lp xa xb)] As (OB _ _)),EP] at z
  exact z
 have hl:vs.length<=Ap:=Nq (CY xa (.num 900) [.l xa xb,.l xb (.num 390)] As h2 hk)
 rcases ha with rfl | rfl
 ·exact CS rfl rfl rfl (bZ ⟨nr,rfl⟩) (QD rfl hl go)
 ·exact CS rfl rfl rfl (bZ ⟨nr,rfl⟩) (aI rfl (aI hl go))
noncomputable def T.ws:T->List Ao
 |.leaf _=>[]
 |.name n=>[n.s]
 |.item a s=>a.w::s.ws
 |.fna s=>wF::s.ws
 |.two _ l r=>l.ws++r.ws
noncomputable def T.kw:T->Nat
 |.leaf v=>match v with
  |.tup _=>5
  |_=>3
 |.name _=>1
 |.item _ s=>s.kw+2
 |.fna s=>s.kw+2
 |.two _ l r=>r.kw+l.kw+3
theorem T.kw0:∀t:T,0<t.kw
 |.leaf v=>by cases v<;>exact BM _
 |.name _=>BM _
 |.item _ _=>BM _
 |.fna _=>BM _
 |.two _ _ _=>BM _
theorem Wk.two{c:A7}{u v:V}{k1 k2 k:Nat}{w1 w2:List Ao}(h1:Wk c u k1 w1)(h2:Wk c v k2 w2)(p1:0<k1)(p2:0<k2)(e:k=k2+k1):Ja c [u,v] k (w1++w2):=by
 have z:=Ja.cons h1 (Ja.cons h2 Ja.nil p2 (Fp _).symm) p1 e
 rw[Bq] at z;exact z
theorem Wk.one(h1:Wk c u k w)(p1:0<k):Ja c [u] k w:=by
 have z:=Ja.cons h1 Ja.nil p1 (Fp _).symm
 rw[Bq] at z;exact z
theorem Uj(h:Bl g m v):[FX,F4,Sw].contains v.kd=false:=by
 have e:∀s:Ao,(s=F5\/s=Jq\/s=Hn)->[FX,F4,Sw].contains s=false:=fun s h=>by rcases h with rfl | rfl | rfl<;>decide+kernel
 exact e _ (by induction h using Bl.casesOn<;>first | exact .inl rfl | exact .inr (.inl rfl) | exact .inr (.inr rfl))
theorem T.wk{c:A7}:∀t:T,t.leaves->Wk (step c) t.v t.kw t.ws
 |.leaf v=>fun h=>by
  have i:Vy (step c) (.tup [.str v.kd,v]) false:=TQ (Uj h) (A3 _) (by show(V.nr v&&true)=true;rw[Bl.nr h];rfl)
  induction h using Bl.casesOn with
  |str | int=>exact Wk.seq (.inr rfl) i (Wk.two (Wk.flat rfl) (Wk.flat rfl) (by decide) (by decide) rfl) rfl
  |dec a e=>exact Wk.seq (.inr rfl) i (Wk.two (k2:=3) (Wk.flat rfl) (Wk.seq (.inr rfl) Zd (Wk.two (Wk.flat rfl) (Wk.flat rfl) (by decide) (by decide) rfl) rfl) (by decide) (by decide) rfl) rfl
 |.name n=>fun ø=>Wk.tree (Nl (by decide+kernel) (A3 _) rfl) QK Ja.nil rfl
 |.item a s=>fun h=>Wk.tree (Nl (by decide+kernel) (lB rfl) (by show(V.nr s.v&&true)&&true=true;rw[T.nr (t:=s) h];rfl)) (QJ (by show(V.nr s.v&&true)&&true=true;rw[T.nr (t:=s) h];rfl))
   (Wk.one (Wk.seq (.inl rfl) (Nk (by show V.nr s.v&&true=true;rw[T.nr (t:=s) h];rfl)) (Wk.one (T.wk s h) s.kw0) rfl) (BM _)) rfl
 |.fna s=>fun h=>Wk.tree (Nl (by decide+kernel) (lB rfl) (by show(V.nr s.v&&true)&&true=true;rw[T.nr (t:=s) h];rfl)) (eL (by show(V.nr s.v&&true)&&true=true;rw[T.nr (t:=s) h];rfl))
   (Wk.one (Wk.seq (.inl rfl) (Nk (by show V.nr s.v&&true=true;rw[T.nr (t:=s) h];rfl)) (Wk.one (T.wk s h) s.kw0) rfl) (BM _)) rfl
 |.two o l r=>fun h=>by
  have i:Vy (step c) (T.two o l r).v false:=TQ (by decide+kernel) (lB rfl) (by show(true&&(V.nr l.v&&(V.nr r.v&&true)))=true;refine Aj (T.nr (t:=l) h.1) (Aj (T.nr (t:=r) h.2) ?_);rfl)
  have z:=Ja.cons (Wk.flat (c:=c) (v:=.str Sd) rfl) (Ja.cons (Wk.flat (v:=.str o.str) rfl) (Wk.two (T.wk l h.1) (T.wk r h.2) l.kw0 r.kw0 rfl) (by decide) rfl) (by decide) rfl
  exact Wk.seq (.inr rfl) i z rfl
noncomputable abbrev lH:Ao:=⟨#[115,101,116]⟩
noncomputable abbrev IC:Ao:=⟨#[114,101,97,100]⟩
noncomputable abbrev Me:Ao:=⟨#[68,69,70]⟩
noncomputable abbrev NU:=List (Ao×Bool)
noncomputable def pv(p:Ao×Bool):V:=.tup [.str p.1,.str (if p.2 then lH else IC)]
noncomputable def rd(ws:List Ao):NU:=ws.map fun w=>(w,false)
noncomputable def Gl.w:Gl->Ao
 |.name n=>n.nm.s
 |.item a _=>a.w
noncomputable def Gl.sub:Gl->List Ao
 |.name _=>[]
 |.item _ s=>s.ws
noncomputable def Gl.rest:Gl->List V
 |.name _=>[]
 |.item _ s=>[.lst [s.v]]
noncomputable def Gl.us(γ:Gl):NU:=(γ.w,true)::rd γ.sub
noncomputable def Gl.fine:Gl->Prop
 |.name _=>True
 |.item _ s=>s.leaves/\s.kw<=100
theorem T.ws_le:∀t:T,t.ws.length<=t.kw
 |.leaf v=>A3 _
 |.name _=>Ay _
 |.item _ s=>by have:=T.ws_le s;refine(?_:s.ws.length+1<=s.kw+2);exact CY (Lp xa (.num 1)) (Lp xb (.num 2)) [.l xa xb] As this
 |.fna s=>by have:=T.ws_le s;refine(?_:s.ws.length+1<=s.kw+2);exact CY (Lp xa (.num 1)) (Lp xb (.num 2)) [.l xa xb] As this
 |.two _ l r=>by have:=T.ws_le l;have:=T.ws_le r;refine(?_:(l.ws++r.ws).length<=r.kw+l.kw+3);refine Aj Ak ?_;lia
theorem Gl.sub_le{γ:Gl}(h:γ.fine):γ.sub.length<=100:=by
 induction γ with
 |name=>exact A3 _
 |item a s=>exact Ag s.ws_le h.2
theorem Gl.nrr{γ:Gl}(h:γ.fine):V.nrs γ.rest=true:=by
 induction γ with
 |name=>rfl
 |item a s=>refine(?_:(V.nr s.v&&true)&&true=true);refine Aj (T.nr h.1) ?_;rfl
theorem Gl.nr{γ:Gl}(h:γ.fine):V.nr γ.v=true:=by
 induction γ with
 |name=>rfl
 |item a s=>refine(?_:(true&&(true&&((V.nr s.v&&true)&&true)))=true);refine Aj (T.nr h.1) ?_;rfl
theorem PO:∀{ts:List Gl},(∀γ,γ∈ts->γ.fine)->V.nrs (ts.map Gl.v)=true
 |[]=>fun ø=>rfl
 |_::_=>fun h=>bZ ⟨Gl.nr (h _ (.head _)),PO fun γ hγ=>h γ (.tail _ hγ)⟩
theorem XU:∀us:NU,V.nrs (us.map pv)=true
 |[]=>rfl
 |_::us=>XU us
theorem Yd(ws:List Ao):(sV ws).map (fun x=>V.tup [x,.str IC])=(rd ws).map pv:=by rw[sV,rd,IW,IW];rfl
theorem NG{f:V->V}{step:V->MH->(Option V->MH->Prop)->Prop}(hs:∀x H (Q:Option V->MH->Prop),Q (some (f x)) H->step x H Q):∀{xs:List V} {H:MH} {Q:List V->MH->Prop},Q (xs.map f) H->vC step xs H Q
 |[],_,_,q=>q
 |x::xs,_,_,q=>hs _ _ _ (NG hs (xs:=xs) q)
theorem Va{f:Ao×Bool->V}{step:V->MH->(Option V->MH->Prop)->Prop}(hs:∀p H (Q:Option V->MH->Prop),Q (some (f p)) H->step (pv p) H Q):∀{xs:NU} {H:MH} {Q:List V->MH->Prop},Q (xs.map f) H->vC step (xs.map pv) H Q
 |[],_,_,q=>q
 |x::xs,_,_,q=>hs _ _ _ (Va hs (xs:=xs) q)
theorem Qn{step:V->MH->(Option V->MH->Prop)->Prop}(hs:∀w H (Q:Option V->MH->Prop),Q (some (.str w)) H->step (pv (w,true)) H Q)(hn:∀w H (Q:Option V->MH->Prop),Q none H->step (pv (w,false)) H Q):∀{xs:NU} {H:MH} {Q:List V->MH->Prop},Q (sV ((xs.filter (·.2)).map (·.1))) H->vC step (xs.map pv) H Q
 |[],_,_,q=>q
 |(w,true)::xs,_,_,q=>hs _ _ _ (Qn hs hn (xs:=xs) q)
 |(w,false)::xs,_,_,q=>hn _ _ _ (Qn hs hn (xs:=xs) q)
noncomputable def Z2:List S:=match Fg.body.drop 1 with
 |.for_ _ _ b::_=>b
 |_=>[]
noncomputable abbrev eO(st K:V)(x:Option V):Fr:=[some st,some K,some (.ref 0),x,none,none]
section
variable {c:A7}
theorem dJ{γ:Gl}(h:γ.fine):SM (step (step c)) γ.rest γ.sub:=by
 induction γ with
 |name=>exact Lh Ja.nil rfl (A3 _)
 |item a s=>exact Lh (Wk.one (Wk.seq (.inl rfl) (Nk (by show V.nr s.v&&true=true;refine Aj (T.nr h.1) ?_;rfl)) (Wk.one (T.wk s h.1) s.kw0) rfl) (BM _)) (Gl.nrr (γ:=.item a s) h) (by have:=h.2;exact GK (Lp xa (.num 1)) (.num 390) [.l xa (.num 100)] As this)
theorem dK{γ:Gl}(h:γ.fine):OZ (step c) γ.v γ.w:=by
 induction γ with
 |name=>exact QK
 |item a s=>exact QJ (Gl.nrr (γ:=.item a s) h)
theorem kH{γ:Gl}{C:FP}{H:MH}{fr:Fr}{Q:QV}{X:EV}(h3:fr[3]?=some (some γ.v))(q:Q (.tup γ.rest) H):vE C (.slc (.l 3) (some (.k (.int 2))) none) fr H Q X:=by
 induction γ with
 |name=>exact vO.e h3 (aI ⟨by decide,by decide⟩ (aI (lB rfl) q))
 |item a s=>exact vO.e h3 (aI ⟨by decide,by decide⟩ (aI (lB rfl) q))
theorem WA(hn:∀{γ:Gl},γ.fine->OZ c γ.v γ.w)(hr:∀{γ:Gl},γ.fine->SM c γ.rest γ.sub):∀{ts:List Gl} {out:NU} {x:Option V},(∀γ,γ∈ts->γ.fine)->out.length+(ts.flatMap Gl.us).length<=900->
  (∀x,N (eO st K x) [.list ((out++ts.flatMap Gl.us).map pv)])->HK (fun x fr H N=>Kz fr (.one 3) x fun fr'=>AV (cf c false) Z2 fr' H N R X) (ts.map Gl.v) (eO st K x) [.list (out.map pv)] N:=by
 intro ts
 induction ts with
 |nil=>intro out x _ _ q;have z:=q x;rw[List.flatMap_nil,Bq] at z;exact z
 |cons γ ts ih=>
  intro out x hf hl q
  have hγ:=hf γ (.head _)
  replace hl:=Ak▸(FH▸hl)
  have lu:γ.us.length=γ.sub.length+1:=by rw[Gl.us,Cy,rd,A0]
  have lo:(out.map pv).length=out.length:=A0 ..
  have z:=ih (out:=out++γ.us) (x:=some γ.v) (fun δ hδ=>hf δ (.tail _ hδ)) (by refine Aj Ak ?_;exact Fc (Lp (Lp xa xb) xc) (.num 900) [.l (Lp xa (Lp xb xc)) (.num 900)] As hl) fun x=>by
   have z:=q x
   rw[FH,<-Bd] at z;exact z
  have e:(out++γ.us).map pv=(out.map pv++[pv (γ.w,true)])++(sV γ.sub).map (fun x=>V.tup [x,.str IC]):=by
   rw[Yd,DD,Bd];rfl
  replace z:=e▸z
  have l3:(out.map pv++[pv (γ.w,true)]).length+((sV γ.sub).map (fun x=>V.tup [x,.str IC])).length<=Ap:=by
   rw[Ak,A0,A0,sV,A0]
   exact Nq (by show out.length+1+_<=_;exact OP (Lp (Lp xa (.num 1)) xb) (.num 900) [.l (Lp xa (Lp xc xd)) (.num 900),.f xc (Lp xb (.num 1))] As hl lu)
  have l4:(sV γ.sub).length<=Ap:=Nq (by rw[sV,A0];have:=Gl.sub_le hγ;exact GK xa (.num 900) [.l xa (.num 100)] As this)
  clear e lu q hf;induction γ with
  |name m=>exact hn hγ _ _ _ (aI (Nq (by refine Aj lo ?_;exact Fc xa (.num 900) [.l (Lp xa (Lp xb xc)) (.num 900)] As hl)) (aI ⟨by decide,by decide⟩ (aI (lB rfl) (hr hγ _ _ _ _ (.inr rfl) (aI ⟨rfl,l4⟩ (NG (f:=fun x=>V.tup [x,.str IC]) (fun x H Q q=>q) (aI rfl (aI l3 z))))))))
  |item a s=>exact hn hγ _ _ _ (aI (Nq (by refine Aj lo ?_;exact Fc xa (.num 900) [.l (Lp xa (Lp xb xc)) (.num 900)] As hl)) (aI ⟨by decide,by decide⟩ (aI (lB rfl) (hr hγ _ _ _ _ (.inr rfl) (aI ⟨rfl,l4⟩ (NG (f:=fun x=>V.tup [x,.str IC]) (fun x H Q q=>q) (aI rfl (aI l3 z))))))))
noncomputable def aR(c:A7)(v:V)(us:NU):Prop:=∀H (Q:QV) (X:EV),Q (.lst (us.map pv)) H->c false 64 [v] H Q X
noncomputable def aS(c:A7)(v:V)(ps:List V):Prop:=∀H (Q:QV) (X:EV),Q (.lst ps) H->c false 69 [v] H Q X
noncomputable def iI(c:A7)(v:V)(ps:List V):Prop:=∀H (Q:QV) (X:EV),Q (.lst ps) H->c false 54 [v] H Q X
theorem Ul{st K:V}{ps:List V}{ws:List Ao}{out:NU}{x:Option V}{N:NV}{X:EV}{Q:V->Prop}(hp:aS c st ps)(hr:SM c ps ws)(hl:out.length+ws.length<=900)(q:Q (.lst ((out++rd ws).map pv))):
  AV (cf c false) (Fg.body.drop 9) (eO st K x) [.list (out.map pv)] N (fun v ø H'=>V.nr (Br H' v)=true/\Q (Br H' v)) X:=by
 refine hp _ _ _ (hr _ _ _ _ (.inl rfl) (aI ⟨rfl,Nq (by rw[sV,A0];exact CY xa (.num 900) [.l (Lp xb xa) (.num 900)] As hl)⟩ (NG (f:=fun x=>V.tup [x,.str IC]) (fun x H Q q=>q) (aI ?_ ?_))))
 ·rw[A0,A0,sV,A0];exact Nq hl
 ·show V.nr (.lst (out.map pv++(sV ws).map (fun x=>V.tup [x,.str IC])))=true/\Q (.lst (out.map pv++(sV ws).map (fun x=>V.tup [x,.str IC])))
  rw[Yd,<-DD]
  exact⟨XU _,q⟩
noncomputable def YY(K:Ao):Prop:=K=U8\/K=MC\/K=U9\/K=G3
theorem WC{st:V}{K:Ao}{ps:List V}{ws:List Ao}{out:NU}{x:Option V}{N:NV}{X:EV}{Q:V->Prop}(hK:YY K)(hp:aS c st ps)(hr:SM c ps ws)(hl:out.length+ws.length<=900)(q:Q (.lst ((out++rd ws).map pv))):
  AV (cf c false) (Fg.body.drop 2) (eO st (.str K) x) [.list (out.map pv)] N (fun v ø H'=>V.nr (Br H' v)=true/\Q (Br H' v)) X:=by
 have z:=Ul (K:=.str K) (x:=x) (N:=N) (X:=X) hp hr hl q
 rcases hK with rfl | rfl | rfl | rfl<;>exact vO.e rfl (vB.f rfl (vO.e rfl (vB.f rfl (vB.f rfl (vB.f rfl (vB.f rfl (vB.f rfl (vB.f rfl z))))))))
theorem eQ{K:Ao}{r:List V}{ts:List Gl}{ps:List V}{ws:List Ao}(hn:∀{γ:Gl},γ.fine->OZ c γ.v γ.w)(hg:∀{γ:Gl},γ.fine->SM c γ.rest γ.sub)(hK:YY K)(nr:V.nrs r=true)(hf:∀γ,γ∈ts->γ.fine)
  (hs:iI c (.tup (.str K::r)) (ts.map Gl.v)) (hp:aS c (.tup (.str K::r)) ps) (hr:SM c ps ws) (hl:(ts.flatMap Gl.us).length+ws.length<=900):aR (step c) (.tup (.str K::r)) (ts.flatMap Gl.us++rd ws):=fun H Q X q=>by
 refine CS rfl rfl rfl (bZ ⟨nr,rfl⟩) (aI i0 (hs _ _ _ ?_))
 exact WA hn hg (out:=[]) (x:=none) hf (by show 0+_<=_;exact CY (Lp (.num 0) xa) (.num 900) [.l (Lp xa xb) (.num 900)] As hl) fun x=>WC (out:=[]++ts.flatMap Gl.us) (Q:=fun v=>Q v H) hK hp hr (by rw[EP];exact hl) (by rw[EP];exact q)
theorem Z3{r:List V}{ps:List V}{ws:List Ao}(nr:V.nrs r=true)(hs:iI c (.tup (.str Me::.str wF::r)) [])(hp:aS c (.tup (.str Me::.str wF::r)) ps)(hr:SM c ps ws)(hl:ws.length<=800):aR (step c) (.tup (.str Me::.str wF::r)) ((wF,true)::rd ws):=fun H Q X q=>by
 refine CS rfl rfl rfl (bZ ⟨nr,rfl⟩) (aI i0 (hs _ _ _ ?_))
 have z:=Ul (c:=c) (K:=.str Me) (out:=[(wF,true)]) (x:=none) (N:=fun ø ø=>Q .none H) (X:=fun c ø=>X c H) (Q:=fun v=>Q v H) hp hr (by show 1+_<=_;exact GK (Lp (.num 1) xa) (.num 900) [.l xa (.num 800)] As hl) q
 refine(?_:AV (cf c false) (Fg.body.drop 2) (eO (.tup (.str Me::.str wF::r)) (.str Me) none) [.list []] (fun ø ø=>Q .none H) (fun v ø H'=>V.nr (Br H' v)=true/\Q (Br H' v) H) (fun c ø=>X c H))
 exact B4 (fun ø ø q=>vO.e rfl q) (B4 (fun ø ø q=>vO.e rfl q) (Yj (fun ø ø q=>q) (O8 (.l rfl) (.tup (.cons (.ix (.l rfl) rfl) (.cons .k .nil))) rfl (A3 _) (Ls (B4 (fun ø ø q=>q) (B4 (fun ø ø q=>q) (B4 (fun ø ø q=>q) (B4 (fun ø ø q=>q) z))))))))
noncomputable def bQ(c:A7)(st fn:V)(gs ts:List Ao):Prop:=∀H (Q:QV) (X:EV),Q (.tup [.lst (sV gs),.lst (sV ts)]) H->c false 924 [st,fn] H Q X
noncomputable def Ie(us:NU):List Ao:=us.map (·.1)
noncomputable def Lv(us:NU):List Ao:=(us.filter (·.2)).map (·.1)
theorem Ve(us:NU):us.map (fun p=>V.str p.1)=sV (Ie us):=by rw[sV,Ie,IW];rfl
theorem eE{st fb:V}{us us2:NU}(nr:V.nr st=true)(nb:V.nr fb=true)(h1:aR c st us)(h2:aR c (.tup [.str Me,.str wF,.lst [.str wX],fb]) us2)(hl:us.length+us2.length<=900):
  bQ (step c) st (.tup [.lst [.str wX],fb,.int (-1)]) (Lv us) (Ie us++if (Ie us).contains wF then Ie us2 else[]):=fun H Q X q=>by
 have fin:∀ts,Q (.tup [.lst (sV (Lv us)),.lst (sV ts)]) H->AV (cf c false) (KN.body.drop 3) [some st,some (.tup [.lst [.str wX],fb,.int (-1)]),some (.lst (us.map pv)),some (.lst (sV ts)),none,none] [] (fun ø ø=>Q .none H) (fun v ø H'=>V.nr (Br H' v)=true/\Q (Br H' v) H) (fun c ø=>X c H):=fun ts q=>by
  refine aI ⟨rfl,Nq (by rw[A0];exact CY xa (.num 900) [.l (Lp xa xb) (.num 900)] As hl)⟩ (Qn (fun w H Q q=>vB.t rfl q) (fun w H Q q=>vB.f rfl q) (aI ?_ q))
  show(V.nrs (sV (Lv us))&&(V.nrs (sV ts)&&true))=true
  rw[Ny,Ny];rfl
 refine CS rfl rfl rfl (by show(V.nr st&&((true&&(V.nr fb&&true))&&true))=true;refine Aj nr (Aj nb ?_);rfl) (h1 _ _ _ (aI ⟨rfl,Nq (by rw[A0];exact CY xa (.num 900) [.l (Lp xa xb) (.num 900)] As hl)⟩ (Va (f:=fun p=>V.str p.1) (fun p H Q q=>q) ?_)))
 rw[Ve]
 refine Gr (l:=Ie us) ?_
 cases e:(Ie us).contains wF with
 |false=>
  rw[e,if_neg AH,Bq] at q
  exact vB.f rfl (fin _ q)
 |true=>
  rw[e,if_pos rfl] at q
  have f2:=fin _ q
  rw[show sV (Ie us++Ie us2)=sV (Ie us)++sV (Ie us2) from DD] at f2
  refine vB.t rfl (aI i0 (aI i1 (h2 _ _ _ (aI ⟨rfl,Nq (by rw[A0];exact CY xa (.num 900) [.l (Lp xb xa) (.num 900)] As hl)⟩ (Va (f:=fun p=>V.str p.1) (fun p H Q q=>q) ?_)))))
  rw[Ve]
  exact aI (Nq (by rw[sV,sV,A0,A0,Ie,Ie,A0,A0];exact hl)) f2
end
noncomputable def T.sh(x:Bool):T->Prop
 |.leaf v=>Bl 2 1 v
 |.name n=>match n with
  |.A=>True
  |.B=>True
  |.C=>True
  |.X=>x=true
  |_=>False
 |.item _ s=>s.one/\s.sh x
 |.fna s=>s=.name .B/\x=false
 |.two _ l r=>(l.one/\r.one)/\l.sh x/\r.sh x
theorem T.sh.leaves:∀{t:T},t.sh x->t.leaves
 |.leaf _=>fun h=>h
 |.name _=>fun ø=>trivial
 |.item _ s=>fun h=>T.sh.leaves (t:=s) h.2
 |.fna _=>fun h=>h.1▸trivial
 |.two _ l r=>fun h=>⟨T.sh.leaves (t:=l) h.2.1,T.sh.leaves (t:=r) h.2.2⟩
theorem Ar.cw(a:Ar):cw a.k=a.w:=by induction a<;>rfl
theorem Ar.k5(a:Ar):a.k<5:=by induction a<;>decide
theorem Lz{L:List Ao}{t:Nat->Prop}{F:Prop}{x:Bool}(ht:∀k,k<5->cw k∈L->t k):∀{y:T},y.sh x->(∀w,w∈y.ws->w∈L)->(x=false->wF∈y.ws->F)->y.syn t F x
 |.leaf _=>fun h ø ø=>h
 |.name .A=>fun ø h ø=>ht 0 (by decide) (h _ (.head _))
 |.name .B=>fun ø h ø=>ht 1 (by decide) (h _ (.head _))
 |.name .C=>fun ø h ø=>ht 2 (by decide) (h _ (.head _))
 |.name .X=>fun h ø ø=>h
 |.name .R=>fun h ø ø=>h.elim
 |.name .S=>fun h ø ø=>h.elim
 |.name .F=>fun h ø ø=>h.elim
 |.item a s=>fun h hw hf=>⟨h.1,Lz ht (y:=s) h.2 (fun w m=>hw w (.tail _ m)) (fun e m=>hf e (.tail _ m)),ht a.k a.k5 (a.cw▸hw _ (.head _))⟩
 |.fna s=>fun h hw hf=>⟨h.1,ht 1 (by decide) (hw _ (.tail _ (Aj h.1 (.head _)))),hf h.2 (.head _)⟩
 |.two _ l r=>fun h hw hf=>⟨h.1,Lz ht (y:=l) h.2.1 (fun w m=>hw w (AQ _ m)) (fun e m=>hf e (AQ _ m)),Lz ht (y:=r) h.2.2 (fun w m=>hw w (AF _ m)) (fun e m=>hf e (AF _ m))⟩
noncomputable def Gl.sh:Gl->Prop
 |.name _=>True
 |.item _ s=>s.one/\s.sh false/\s.cost<=10/\s.asks<=20/\s.kw<=100
noncomputable def kS:Option T->List Ao
 |none=>[]
 |some x=>x.ws
noncomputable def Sm.sh:Sm->Prop
 |.lt γ t=>γ.sh/\t.sh false/\t.low/\t.kw<=100
 |.sw γ δ=>γ.sh/\δ.sh
 |.md γ f m t=>γ.sh/\(t.sh false/\t.low/\t.kw<=100)/\(f.sh false/\f.lit/\f.kw<=100)/\∀x,m=some x->x.sh false/\x.lit/\x.kw<=100
 |.rd γ m=>γ.sh/\∀x,m=some x->x.sh
theorem Gl.sh.fine{γ:Gl}(h:γ.sh):γ.fine:=by
 induction γ with
 |name=>trivial
 |item a s=>exact⟨h.2.1.leaves,h.2.2.2.2⟩
noncomputable def Sm.K:Sm->Ao
 |.lt ..=>U8
 |.sw ..=>MC
 |.md ..=>U9
 |.rd ..=>G3
noncomputable def Sm.r:Sm->List V
 |.lt γ t=>[γ.v,t.v]
 |.sw γ δ=>[γ.v,δ.v]
 |.md γ f m t=>[γ.v,f.v,Ud m,t.v]
 |.rd γ m=>[.lst (γ.v::(m.map Gl.v).toList)]
noncomputable def Sm.ts:Sm->List Gl
 |.lt γ _=>[γ]
 |.sw γ δ=>[γ,δ]
 |.md γ _ _ _=>[γ]
 |.rd γ m=>γ::m.toList
noncomputable def Sm.ps:Sm->List V
 |.lt _ t=>[t.v]
 |.md _ f m t=>[f.v,Ud m,t.v]
 |_=>[]
noncomputable def Sm.pw:Sm->List Ao
 |.lt _ t=>t.ws
 |.md _ f m t=>f.ws++(kS m++t.ws)
 |_=>[]
noncomputable def Sm.us(st:Sm):NU:=st.ts.flatMap Gl.us++Internal.rd st.pw
theorem Sm.v_eq(st:Sm):st.v=.tup (.str st.K::st.r):=by induction st<;>rfl
theorem Sm.k4(st:Sm):YY st.K:=by
 induction st
 ·exact .inl rfl
 ·exact .inr (.inl rfl)
 ·exact .inr (.inr (.inl rfl))
 ·exact .inr (.inr (.inr rfl))
theorem Sm.sh.ts{st:Sm}(h:st.sh):∀γ,γ∈st.ts->γ.sh:=fun γ hγ=>by
 induction st with
 |lt δ t=>cases An.mp hγ;exact h.1
 |sw δ ε=>
  rcases Al.mp hγ with rfl | hγ
  ·exact h.1
  ·cases An.mp hγ;exact h.2
 |md δ f m t=>cases An.mp hγ;exact h.1
 |rd δ m=>
  rcases Al.mp hγ with rfl | hγ
  ·exact h.1
  ·exact h.2 γ (Option.mem_toList.mp hγ)
theorem XQ(h:∀x,m=some x->x.sh false/\x.lit/\x.kw<=100):V.nr (Ud m)=true:=by
 induction m with
 |none=>rfl
 |some x=>exact T.nr (h x rfl).1.leaves
theorem Sm.sh.nr{st:Sm}(h:st.sh):V.nrs st.r=true:=by
 induction st with
 |lt γ t=>show(V.nr γ.v&&(V.nr t.v&&true))=true;refine Aj (Gl.nr h.1.fine) (Aj (T.nr h.2.1.leaves) ?_);rfl
 |sw γ δ=>show(V.nr γ.v&&(V.nr δ.v&&true))=true;refine Aj (Gl.nr h.1.fine) (Aj (Gl.nr h.2.fine) ?_);rfl
 |md γ f m t=>refine(?_:(V.nr γ.v&&(V.nr f.v&&(V.nr (Ud m)&&(V.nr t.v&&true))))=true);refine Aj (Gl.nr h.1.fine) (Aj (T.nr h.2.2.1.1.leaves) (Aj (XQ h.2.2.2) (Aj (T.nr h.2.1.1.leaves) ?_)));rfl
 |rd γ m=>
  have z:=PO (ts:=γ::m.toList) fun δ hδ=>(h.ts δ hδ).fine
  induction m<;>exact bZ ⟨z,rfl⟩
theorem gJ:∀{st:Sm},(∀fr,R (.lst (st.ts.map Gl.v)) fr [])->AV (cf c false) J7.body (Fh 5 [.tup (.str st.K::st.r)]) [] N R X:=by
 intro st q
 induction st with
 |lt γ t=>exact AN (.ix (.l rfl) rfl) (AN (v:=.lst [γ.v]) (fun ø ø q=>aI rfl (vO.e rfl (aI ⟨rfl,lB rfl⟩ (aI i1 (vO.e rfl q))))) (B4 (fun ø ø q=>vO.e rfl q) (Ba (.l rfl) (q _))))
 |sw γ δ=>exact AN (.ix (.l rfl) rfl) (AN (v:=.lst [γ.v,δ.v]) (fun ø ø q=>aI rfl (vO.e rfl (aI ⟨rfl,lB rfl⟩ (aI i1 (aI i2 (vO.e rfl q)))))) (B4 (fun ø ø q=>vO.e rfl q) (Ba (.l rfl) (q _))))
 |md γ f m t=>exact AN (.ix (.l rfl) rfl) (AN (v:=.lst [γ.v]) (fun ø ø q=>aI rfl (vO.e rfl (aI ⟨rfl,lB rfl⟩ (aI i1 (vO.e rfl q))))) (B4 (fun ø ø q=>vO.e rfl q) (Ba (.l rfl) (q _))))
 |rd γ m=>induction m<;>exact AN (.ix (.l rfl) rfl) (AN (v:=.lst []) (fun ø ø q=>aI rfl (vO.e rfl (aI ⟨rfl,lB rfl⟩ q))) (Yj (fun ø ø q=>vO.e rfl q) (AN (fun ø ø q=>vO.e rfl (vO.e rfl (aI i1 (aI (lB rfl) (aI (lB rfl) q))))) (Ls (Ba (.l rfl) (q _))))))
theorem ZU{c:A7}{st:Sm}(h:st.sh):iI (step c) (.tup (.str st.K::st.r)) (st.ts.map Gl.v):=fun H Q X q=>
 IL rfl rfl rfl (bZ ⟨h.nr,rfl⟩) (gJ fun ø=>aI (PO fun γ hγ=>(h.ts γ hγ).fine) q)
theorem Sm.sh.nrp{st:Sm}(h:st.sh):V.nrs st.ps=true:=by
 induction st with
 |lt γ t=>show(V.nr t.v&&true)=true;rw[T.nr h.2.1.leaves];rfl
 |md γ f m t=>refine(?_:(V.nr f.v&&(V.nr (Ud m)&&(V.nr t.v&&true)))=true);refine Aj (T.nr h.2.2.1.1.leaves) (Aj (XQ h.2.2.2) (Aj (T.nr h.2.1.1.leaves) ?_));rfl
 |_=>rfl
theorem gI:∀{st:Sm},(∀fr,R (.lst st.ps) fr [])->AV (cf c false) I5.body (Fh 6 [.tup (.str st.K::st.r)]) [] N R X:=by
 intro st q
 induction st with
 |lt γ t=>exact AN (.ix (.l rfl) rfl) (B4 (fun ø ø q=>q) (B4 (fun ø ø q=>vO.e rfl q) (B4 (fun ø ø q=>q) (AN (v:=.tup [.int 1]) (fun ø ø q=>aI rfl (vO.e rfl q)) (Ba (v:=.lst [t.v]) (fun ø ø q=>aI rfl (aI ⟨rfl,lB rfl⟩ (vB.f rfl (vB.f rfl (vB.t rfl (vB.f rfl (vB.t rfl (vB.t rfl q)))))))) (q _))))))
 |sw γ δ=>exact AN (.ix (.l rfl) rfl) (B4 (fun ø ø q=>q) (B4 (fun ø ø q=>vO.e rfl q) (B4 (fun ø ø q=>q) (AN (v:=.tup [.int 1,.int 2]) (fun ø ø q=>aI rfl (vO.e rfl q)) (Ba (v:=.lst []) (fun ø ø q=>aI rfl (aI ⟨rfl,lB rfl⟩ (vB.f rfl (vB.f rfl (vB.t rfl (vB.f rfl (vB.t rfl (vB.f rfl q)))))))) (q _))))))
 |md γ f m t=>exact AN (.ix (.l rfl) rfl) (B4 (fun ø ø q=>q) (B4 (fun ø ø q=>vO.e rfl q) (B4 (fun ø ø q=>q) (AN (v:=.tup [.int 1]) (fun ø ø q=>aI rfl (vO.e rfl q)) (Ba (v:=.lst [f.v,Ud m,t.v]) (fun ø ø q=>aI rfl (aI ⟨rfl,lB rfl⟩ (vB.f rfl (vB.f rfl (vB.t rfl (vB.f rfl (vB.t rfl (vB.t rfl (vB.t rfl (vB.t rfl (vB.t rfl (vB.t rfl q)))))))))))) (q _))))))
 |rd γ m=>induction m<;>exact AN (.ix (.l rfl) rfl) (B4 (fun ø ø q=>q) (Yj (fun ø ø q=>vO.e rfl q) (AN (v:=.int 1) (fun ø ø q=>vO.e rfl (vO.e rfl q)) (Ba (v:=.lst []) (fun ø ø q=>aI i1 (aI i1 (aI (lB rfl) (aI (lB rfl) (aI i2 (aI (lB rfl) (aI (lB rfl) (aI (lB rfl) q)))))))) (q _)))))
theorem ZT{c:A7}{st:Sm}(h:st.sh):aS (step c) (.tup (.str st.K::st.r)) st.ps:=fun H Q X q=>IL rfl rfl rfl (bZ ⟨h.nr,rfl⟩) (gI fun ø=>aI h.nrp q)
noncomputable abbrev Kl(fb:T):V:=.tup [.lst [.str wX],fb.v,.int (-1)]
section
variable {c:A7}{fb:T}(hb:fb.sh true)
include hb
theorem MW:V.nrs [.str wF,.lst [.str wX],fb.v]=true:=by show(true&&(true&&(V.nr fb.v&&true)))=true;refine Aj (T.nr hb.leaves) ?_;rfl
theorem YJ:iI (step c) (.tup [.str Me,.str wF,.lst [.str wX],fb.v]) []:=fun H Q X q=>
 CS rfl rfl rfl (bZ ⟨MW hb,rfl⟩) (AN (.ix (.l rfl) rfl) (AN (v:=.lst []) (fun ø ø q=>aI rfl (vO.e rfl (aI ⟨rfl,lB rfl⟩ q))) (B4 (fun ø ø q=>vO.e rfl q) (Ba (.l rfl) (aI rfl q)))))
theorem YI:aS (step c) (.tup [.str Me,.str wF,.lst [.str wX],fb.v]) [.str wF,.lst [.str wX],fb.v]:=fun H Q X q=>
 CS rfl rfl rfl (bZ ⟨MW hb,rfl⟩) (AN (.ix (.l rfl) rfl) (B4 (fun ø ø q=>q) (B4 (fun ø ø q=>vO.e rfl q) (B4 (fun ø ø q=>q) (AN (v:=.tup []) (fun ø ø q=>aI rfl (vO.e rfl q))
  (Ba (v:=.lst [.str wF,.lst [.str wX],fb.v]) (fun ø ø q=>aI rfl (aI ⟨rfl,lB rfl⟩ (vB.f rfl (vB.f rfl (vB.t rfl (vB.t rfl (vB.t rfl (vB.t rfl (vB.t rfl (vB.t rfl q)))))))))) (aI (MW hb) q)))))))
theorem YG(hk:fb.kw<=100):SM (step (step c)) [.str wF,.lst [.str wX],fb.v] fb.ws:=by
 have z:Ja (step c) [.str wF,.lst [.str wX],fb.v] (fb.kw+2+1) ([]++([]++(fb.ws++[]))):=
  Ja.cons (Wk.flat rfl) (Ja.cons (Wk.seq (.inl rfl) (Nk rfl) (Wk.one (Wk.flat rfl) (by decide)) rfl) (Ja.cons (T.wk fb hb.leaves) Ja.nil fb.kw0 (Fp _).symm) (by decide) rfl) (by decide) rfl
 rw[EP,EP,Bq] at z
 exact Lh z (MW hb) (GK (Lp (Lp xa (.num 2)) (.num 1)) (.num 390) [.l xa (.num 100)] As hk)
theorem YH(hk:fb.kw<=100):aR (step (step (step c))) (.tup [.str Me,.str wF,.lst [.str wX],fb.v]) ((wF,true)::rd fb.ws):=
 Z3 (c:=step (step c)) (by show(true&&(V.nr fb.v&&true))=true;refine Aj (T.nr hb.leaves) ?_;rfl) (YJ hb) (YI hb) (YG hb hk) (Ag fb.ws_le (Ag hk (by decide)))
end
theorem gE{c:A7}{st:Sm}(h:st.sh):SM (step (step c)) st.ps st.pw:=by
 induction st with
 |lt γ t=>exact Lh (Wk.one (T.wk t h.2.1.leaves) t.kw0) (h.nrp (st:=.lt γ t)) (Ag h.2.2.2 (by decide))
 |sw=>exact Lh Ja.nil rfl (A3 _)
 |rd=>exact Lh Ja.nil rfl (A3 _)
 |md γ f m t=>
  have k1:=h.2.1.2.2
  have k2:=h.2.2.1.2.2
  have z:∀k w,Wk (step c) (Ud m) k w->0<k->k<=100->SM (step (step c)) [f.v,Ud m,t.v] (f.ws++(w++t.ws)):=fun k w hm h0 hk=>
   Lh (Ja.cons (T.wk f h.2.2.1.1.leaves) (Wk.two hm (T.wk t h.2.1.1.leaves) h0 t.kw0 rfl) f.kw0 rfl) (h.nrp (st:=.md γ f m t)) (Fc (Lp (Lp xa xb) xc) (.num 390) [.l xa (.num 100),.l xb (.num 100),.l xc (.num 100)] As k1 hk k2)
  induction m with
  |none=>exact z 1 [] (Wk.flat rfl) (by decide) (by decide)
  |some x=>exact z _ _ (T.wk x (h.2.2.2 x rfl).1.leaves) x.kw0 (h.2.2.2 x rfl).2.2
theorem Gl.us_le{γ:Gl}(h:γ.fine):γ.us.length<=101:=by
 rw[Gl.us,Cy,rd,A0];exact Ka (Gl.sub_le h)
theorem UT{st:Sm}(h:st.sh):(st.ts.flatMap Gl.us).length<=202:=by
 have one:∀γ,γ.fine->([γ].flatMap Gl.us).length<=101:=fun γ h=>by rw[FH,List.flatMap_nil,Bq];exact Gl.us_le h
 have two:∀γ δ,γ.fine->δ.fine->([γ,δ].flatMap Gl.us).length<=202:=fun γ δ h1 h2=>by
  refine Aj FH (Aj Ak ?_);have a1:=Gl.us_le h1;have a2:=one δ h2;exact CY (Lp xa xb) (.num 202) [.l xa (.num 101),.l xb (.num 101)] As a1 a2
 induction st with
 |lt γ t=>exact Ag (one γ h.1.fine) (by decide)
 |sw γ δ=>exact two γ δ h.1.fine h.2.fine
 |md γ f m t=>exact Ag (one γ h.1.fine) (by decide)
 |rd γ m=>
  induction m with
  |none=>exact Ag (one γ h.1.fine) (by decide)
  |some δ=>exact two γ δ h.1.fine (h.2 δ rfl).fine
theorem Ur{st:Sm}(h:st.sh):st.pw.length<=300:=by
 induction st with
 |lt γ t=>exact Ag t.ws_le (Ag h.2.2.2 (by decide))
 |sw=>exact A3 _
 |rd=>exact A3 _
 |md γ f m t=>
  have k1:=Ag t.ws_le h.2.1.2.2
  have k2:=Ag f.ws_le h.2.2.1.2.2
  have k3:(kS m).length<=100:=by
   induction m with
   |none=>exact A3 _
   |some x=>exact Ag x.ws_le (h.2.2.2 x rfl).2.2
  refine(?_:(f.ws++(kS m++t.ws)).length<=300)
  refine Aj Ak (Aj Ak ?_);exact Fc (Lp xa (Lp xb xc)) (.num 300) [.l xa (.num 100),.l xb (.num 100),.l xc (.num 100)] As k2 k3 k1
theorem gG{c:A7}{st:Sm}(h:st.sh):aR (step (step (step c))) st.v st.us:=by
 refine Aj st.v_eq ?_
 exact eQ (c:=step (step c)) (fun h=>dK h) (fun h=>dJ h) st.k4 h.nr (fun γ hγ=>(h.ts γ hγ).fine) (ZU h) (ZT h) (gE h) (by have a1:=UT h;have a2:=Ur h;exact CY (Lp xa xb) (.num 900) [.l xa (.num 202),.l xb (.num 300)] As a1 a2)
noncomputable def Ia(st:Sm)(fb:T):List Ao:=Ie st.us++if (Ie st.us).contains wF then Ie ((wF,true)::rd fb.ws) else[]
theorem L7(n:Nat)(h:st.sh)(hb:fb.sh true)(hk:fb.kw<=100):bQ (nc (n+4)) st.v (Kl fb) (Lv st.us) (Ia st fb):=by
 refine eE (c:=nc (n+3)) (Aj st.v_eq h.nr) (T.nr hb.leaves) (gG (c:=nc n) h) (YH (c:=nc n) hb hk) ?_
 have:=UT h
 have:=Ur h
 have:=Ag fb.ws_le hk
 rw[Sm.us,Ak,Cy,Internal.rd,Internal.rd,A0,A0];lia
theorem Rm(a b:NU):Ie (a++b)=Ie a++Ie b:=DD
theorem Vf(ws:List Ao):Ie (rd ws)=ws:=by rw[Ie,rd,IW];exact List.map_id _
theorem Gl.cw(γ:Gl):cw γ.k=γ.w:=by
 induction γ with
 |name n=>induction n<;>rfl
 |item a s=>exact a.cw
theorem lP{ts:List Gl}{γ:Gl}(h:γ∈ts){r:NU}{w:Ao}(hw:w=γ.w\/w∈γ.sub):w∈Ie (ts.flatMap Gl.us++r):=by
 rw[Rm]
 refine AQ _ ?_
 have:∀p,p∈γ.us->p.1∈Ie (ts.flatMap Gl.us):=fun p hp=>B2.mpr ⟨p,List.mem_flatMap.mpr ⟨γ,h,hp⟩,rfl⟩
 rcases hw with rfl | hw
 ·exact this (γ.w,true) (.head _)
 ·exact this (w,false) (.tail _ (B2.mpr ⟨w,hw,rfl⟩))
theorem aF{ts:List Gl}{γ:Gl}(h:γ∈ts){r:NU}:γ.w∈Lv (ts.flatMap Gl.us++r):=
 B2.mpr ⟨(γ.w,true),C7.mpr ⟨AQ _ (List.mem_flatMap.mpr ⟨γ,h,.head _⟩),rfl⟩,rfl⟩
theorem WE{st:Sm}{w:Ao}(h:w∈st.pw):w∈Ie st.us:=by
 rw[Sm.us,Rm,Vf];exact AF _ h
theorem Ni{st:Sm}{k:Nat}(h:st.gk k)(hk:k<5):cw k∈Lv st.us:=by
 have z:∀{γ:Gl},γ∈st.ts->k=γ.k->cw k∈Lv st.us:=fun {γ} h e=>Aj e (Aj γ.cw (aF h))
 induction st with
 |lt γ t=>exact z (.head _) h
 |sw γ δ=>exact h.elim (z (.head _)) (z (.tail _ (.head _)))
 |md γ f m t=>exact z (.head _) h
 |rd γ m=>
  rcases h with h | h | ⟨x,hx,h⟩
  ·exact z (.head _) h
  ·lia
  ·exact z (.tail _ (Option.mem_toList.mpr hx)) h
theorem UI(h:w∈Lv us):w∈Ie us:=by
 refine AO (B2.mp h) fun p hp eq2=>?_
 refine D5 eq2 ?_
 exact B2.mpr ⟨p,(C7.mp hp).1,rfl⟩
noncomputable def Sm.isR:Sm->Prop
 |.rd ..=>True
 |_=>False
theorem Rc{κ:CN}{fb:T}{st:Sm}{L:List Ao}(h:st.sh)(hb:fb.sh true)(hL:∀w,w∈Ie st.us->w∈L)(hF:wF∈Ie st.us->∀w,w∈fb.ws->w∈L)(ht:∀k,k<5->cw k∈L->κ.t k)(h5:st.isR->κ.t 5)(hp:∃p:Nat,κ.g 5=.int p):st.told κ fb:=by
 have tr:∀{x:T},x.sh false->(∀w,w∈x.ws->w∈Ie st.us)->x.told κ.t fb:=fun {x} hx hw=>
  Lz ht hx (fun w m=>hL w (hw w m)) fun ø m=>Lz ht hb (hF (hw _ m)) fun e=>nomatch e
 have gl:∀{γ:Gl},γ∈st.ts->γ.told κ.t fb:=fun {γ} hγ=>by
  have hs:=h.ts γ hγ
  have w1:∀w,w=γ.w\/w∈γ.sub->w∈Ie st.us:=fun w hw=>lP hγ hw
  clear hγ;induction γ with
  |name n=>exact ht n.k (by clear w1 hs;induction n<;>decide) (hL _ (w1 _ (.inl (Gl.name n).cw)))
  |item a s=>exact⟨ht a.k a.k5 (hL _ (w1 _ (.inl a.cw))),tr hs.2.1 (fun w m=>w1 w (.inr m)),hs.1,hs.2.2.1,hs.2.2.2.1⟩
 induction st with
 |lt γ t=>exact⟨gl (.head _),tr h.2.1 (fun w m=>WE (st:=.lt γ t) m),h.2.2.1⟩
 |sw γ δ=>exact⟨gl (.head _),gl (.tail _ (.head _))⟩
 |md γ f m t=>exact⟨gl (.head _),⟨tr h.2.1.1 (fun w hm=>WE (st:=.md γ f m t) (AF _ (AF _ hm))),h.2.1.2.1⟩,⟨tr h.2.2.1.1 (fun w hm=>WE (st:=.md γ f m t) (AQ _ hm)),h.2.2.1.2.1⟩,
   fun x hx=>⟨tr (h.2.2.2 x hx).1 (fun w hm=>WE (st:=.md γ f m t) (AF _ (AQ _ (Aj hx hm)))),(h.2.2.2 x hx).2.1⟩⟩
 |rd γ m=>exact⟨gl (.head _),fun x hx=>gl (.tail _ (Option.mem_toList.mpr hx)),h5 trivial,hp⟩
theorem L6(h:w∈Ie st.us):w∈Ia st fb:=AQ _ h
theorem OF(h:wF∈Ie st.us)(hw:w∈fb.ws):w∈Ia st fb:=by
 refine AF _ ?_
 refine Aj (if_pos (AT.mpr h)) ?_
 exact AR _ (by show w∈Ie (rd fb.ws);rw[Vf];exact hw)
theorem IG:∀{us:List (Nat×V)} {s:EL},(∀z,z∈us->z.1≠k)->(s.ups us).g k=s.g k
 |[],_,_=>rfl
 |p::us,s,h=>by
  refine(IG (us:=us) fun z hz=>h z (.tail _ hz)).trans ?_
  show(if k=p.1 then p.2 else s.g k)=s.g k
  exact Aj (if_neg fun e=>h p (.head _) e.symm) rfl
theorem L9:∀{us:List (Nat×V)} {s s':EL},s.g k=s'.g k->(s.ups us).g k=(s'.ups us).g k
 |[],_,_,h=>h
 |p::us,s,s',h=>by
  refine L9 (us:=us) ?_
  refine(?_:(if k=p.1 then p.2 else s.g k)=if k=p.1 then p.2 else s'.g k)
  exact Aj h rfl
theorem OI:∀{us:List (Nat×V)} {s:EL},(∀z,z∈us->Dm z)->Dm (k,s.g k)->Dm (k,(s.ups us).g k)
 |[],_,_,h=>h
 |p::us,s,hu,h=>by
  refine OI (us:=us) (fun z hz=>hu z (.tail _ hz)) ?_
  show Dm (k,if k=p.1 then p.2 else s.g k)
  by_cases e:k=p.1
  ·exact Aj (if_pos e) (Aj e (hu p (.head _)))
  ·exact Aj (if_neg e) h
theorem Hr:∀{us:List (Nat×V)} {s:EL},(s.ups us).x=s.x/\(s.ups us).d=s.d
 |[],_=>⟨rfl,rfl⟩
 |p::us,s=>Hr (us:=us) (s:=s.up p.1 p.2)
noncomputable def Cs(s:EL):Prop:=∀k,k<=5->Dm (k,s.g k)
theorem Cs.ups(h:Cs s)(hu:∀z,z∈us->Dm z):Cs (s.ups us):=fun k hk=>OI hu (h k hk)
theorem Cs.ar(h:Cs s)(a:Ar):Xg (s.g a.k):=(h a.k (CB a.k5)).2.1 a rfl
theorem Cs.eqr(h:Cs s)(hk:k<=5):G7 3 (s.g k):=by
 rcases k with _ | _ | _ | _ | _ | _ | k
 ·exact((h 0 hk).1 (show 0<3 by decide)).eqr.up (by decide)
 ·exact((h 1 hk).1 (show 1<3 by decide)).eqr.up (by decide)
 ·exact((h 2 hk).1 (show 2<3 by decide)).eqr.up (by decide)
 ·exact(h.ar .R).eqr
 ·exact(h.ar .S).eqr
 ·obtain⟨p,hp⟩:=(h 5 hk).2.2 rfl
  exact Aj (show s.g (0+1+1+1+1+1)=_ from hp) (.int _ _)
 ·lia
noncomputable def Wd.at(w:Wd)(H:MH):Wd:=⟨w.i,H.length,H,w.fn,w.rr,w.rs⟩
theorem At.at(h:At w s H):At (w.at H') s H:=h
theorem At.len(h:At w s H):w.i+12<=H.length:=(Aw.mp (h 11 _ rfl)).1
theorem At.new:At (Jx H.length fn τ) s (H++WB (Jx H.length fn τ) s):=fun ø ø h=>FD h
theorem At.kept{w w':Wd}{s s':EL}{H H':MH}{B:Nat}(h:At w' s' H)(hi:In (w.at H) [] s B H')(hd:w'.i+12<=w.i\/w.i+12<=w'.i):At w' s' H':=fun k o hk=>by
 have h1:=h k o hk
 have h2:=(Aw.mp h1).1
 have h3:k<12:=(Aw.mp hk).1
 exact(hi.old _ h2 (by refine(?_:_<w.i\/w.i+12<=_);lia)).trans h1
theorem In.at(hi:In (w.at H) [] s B H'):At w s H':=hi.blk
theorem Dn.run(h:Dn κ c v us e)(kn:K7 κ w s)(ha:At w s H)(q:∀H',In (w.at H) [] (s.ups us) 0 H'->Q (.str e) H'):c false 914 [.ref w.i,v] H Q X:=
 h (w.at H) s H Q X ⟨kn.g,kn.x,kn.d,kn.fn⟩ ha ha.len rfl rfl q
theorem Jr{g:Nat->V}{k:Nat}(h:k<=5):[g 0,g 1,g 2,g 3,g 4,g 5,.lst [.str wA,.str wB,.str wC],.lst [.str wR,.str wS]][k]?=some (g k):=by
 rcases k with _ | _ | _ | _ | _ | _ | k<;>first | rfl | omega
noncomputable abbrev aK:List Ao:=[wA,wB,wC,HA,Ic]
noncomputable abbrev YR(ns:List V)(fn st gs ts r6 r7 b el af la:V)(x y:Option V):Fr:=[some (.lst ns),some fn,some st,some (.lst (sV aK)),some gs,some ts,some r6,some r7,some b,some el,some af,some la,x,y]
noncomputable def P8:List S:=match Dh.body.drop 6 with
 |.for_ _ _ b::_=>b
 |_=>[]
theorem Nu(e:u=v)(h:G7 3 u)(q:k false):Qo C .NotEq u v H k:=e▸eq_self (k:=fun r=>k (!r)) (h.up (by decide)) q
theorem MY(e:u=v)(h:G7 64 u)(q:k true):Qo C .Eq u v H k:=e▸eq_self h q
theorem Wi{c:A7}{ns:List V}{fn st r6 r7:V}{gs ts:List Ao}{b el af la:EL}{k:Nat}{x:Option V}{H:MH}{N:NV}{R:RT}{X:EV}(hk:k<5)(ha:Cs af)(hl:Cs la)(h1:cw k∉gs->af.g k=b.g k/\la.g k=el.g k)(h2:cw k∈ts->af.g k=la.g k)
  (q:N (YR ns fn st (.lst (sV gs)) (.lst (sV ts)) r6 r7 (BI b.g) (BI el.g) (BI af.g) (BI la.g) (some (.int k)) (some (.str (cw k)))) H):
  AV (cf c false) P8 (YR ns fn st (.lst (sV gs)) (.lst (sV ts)) r6 r7 (BI b.g) (BI el.g) (BI af.g) (BI la.g) (some (.int k)) (some (.str (cw k)))) H N R X:=by
 have hk5:k<=5:=CB hk
 have ki:(0:Int)<=k/\(k:Int)<2 ^ 62:=⟨BV (.num 0) za [.l (.num 0) za] As (AE _),DU za (.num 4611686018427387904) [.t za (.num 5)] As (Bg.2 hk)⟩
 have z:AV (cf c false) (P8.drop 1) (YR ns fn st (.lst (sV gs)) (.lst (sV ts)) r6 r7 (BI b.g) (BI el.g) (BI af.g) (BI la.g) (some (.int k)) (some (.str (cw k)))) H N R X:=by
  refine Gr (l:=ts) ?_
  cases e:ts.contains (cw k) with
  |false=>exact vB.f rfl (vB.f rfl q)
  |true=>
   have h:=h2 (AT.mp e)
   refine vB.t rfl (aI ki (vO.e (Jr hk5) (aI ki (vO.e (Jr hk5) (Nu h (ha.eqr hk5) (vB.f rfl q))))))
 refine Gr (l:=gs) ?_
 cases e:gs.contains (cw k) with
 |true=>exact vB.f rfl (vB.f rfl z)
 |false=>
  refine Cd (h1 fun m=>by replace e:=AT.mpr m▸e;cases e) fun h3 h4=>?_
  refine vB.t rfl (aI ki (vO.e (Jr hk5) (aI ki (vO.e (Jr hk5) (Nu h3 (ha.eqr hk5) (vB.f rfl (aI ki (vO.e (Jr hk5) (aI ki (vO.e (Jr hk5) (Nu h4 (hl.eqr hk5) (vB.f rfl z))))))))))))
section
variable {c:A7}{ns:List V}{fn st r6 r7:V}{gs ts:List Ao}{b el af la:EL}
theorem Wg(ha:Cs af)(hl:Cs la)(h1:∀k,k<5->cw k∉gs->af.g k=b.g k/\la.g k=el.g k)(h2:∀k,k<5->cw k∈ts->af.g k=la.g k)
  (q:N (YR ns fn st (.lst (sV gs)) (.lst (sV ts)) r6 r7 (BI b.g) (BI el.g) (BI af.g) (BI la.g) (some (.int (4:Nat))) (some (.str (cw 4)))) H):
  HK (fun x fr H N=>Kz fr (.two 12 13) x fun fr'=>AV (cf c false) P8 fr' H N R X) (I0 0 (sV aK)) (YR ns fn st (.lst (sV gs)) (.lst (sV ts)) r6 r7 (BI b.g) (BI el.g) (BI af.g) (BI la.g) none none) H N:=by
 have t:=fun(k:Nat) (hk:k<5) (N:NV) (q)=>Wi (c:=c) (ns:=ns) (fn:=fn) (st:=st) (r6:=r6) (r7:=r7) (b:=b) (el:=el) (x:=none) (H:=H) (N:=N) (R:=R) (X:=X) hk ha hl (h1 k hk) (h2 k hk) q
 exact P7 (fun K q=>q) (t 0 (by decide) _ (P7 (fun K q=>q) (t 1 (by decide) _ (P7 (fun K q=>q) (t 2 (by decide) _ (P7 (fun K q=>q) (t 3 (by decide) _ (P7 (fun K q=>q) (t 4 (by decide) _ q)))))))))
noncomputable abbrev L5(v:V):V:=.lst [v,.lst [.str wA,.str wB,.str wC],.lst [.str wR,.str wS]]
theorem UR(h:G7 3 v):G7 64 (L5 v):=by
 have s:∀{w:Ao},C5 w->G7 3 (.str w):=fun h=>.str h _
 have z:G7 5 (L5 v):=.lst (D7 (h.up (by decide)) (D7 (.lst (D7 (s (by decide+kernel)) (D7 (s (by decide+kernel)) (D7 (s (by decide+kernel)) RU)))) (D7 (.lst (D7 (s (by decide+kernel)) (D7 (s (by decide+kernel)) RU))) RU)))
 exact z.up (by decide)
end
theorem nH:(0:Int)<=5/\(5:Int)<2 ^ 62:=⟨by decide,by decide⟩
theorem nQ(h1:fr[i]?=some (some (BI a)))(h2:fr[j]?=some (some (BI b)))(h:a 5=b 5)(e:G7 64 (L5 (a 5))):PE C (.cmp .Eq (.slc (.l i) (some (.k (.int 5))) .none) (.slc (.l j) (some (.k (.int 5))) .none)) fr H (.bool true):=fun Q X q=>
 vO.e h1 (aI nH (aI (lB rfl) (vO.e h2 (aI nH (aI (lB rfl) (MY (k:=fun b=>Q (.bool b) H) (u:=L5 (a 5)) (v:=L5 (b 5)) (congrArg L5 h) e q))))))
theorem YQ{c:A7}{ns:List V}{fn r6 r7:V}{gs ts:List Ao}{b el af la:EL}{st:Sm}{x y:Option V}{H:MH}{N:NV}{R:RT}{X:EV}(ha:Cs af)(h5:af.g 5=la.g 5)(h6:¬st.isR->af.g 5=b.g 5)
  (q:R (.bool true) (YR ns fn st.v (.lst (sV gs)) (.lst (sV ts)) r6 r7 (BI b.g) (BI el.g) (BI af.g) (BI la.g) x y) H):
  AV (cf c false) (Dh.body.drop 7) (YR ns fn st.v (.lst (sV gs)) (.lst (sV ts)) r6 r7 (BI b.g) (BI el.g) (BI af.g) (BI la.g) x y) H N R X:=by
 have e:G7 64 (L5 (af.g 5)):=UR (ha.eqr (Ay _))
 refine Ba (.andt (nQ rfl rfl h5 e) (v:=.bool true) ?_) q
 induction st with
 |lt | sw | md=>exact .orf (.eq (.ne (.ix (.l rfl) rfl) .k) rfl) (nQ rfl rfl (h6 id) e)
 |rd=>exact .ort (.eq (.ne (.ix (.l rfl) rfl) .k) rfl)
theorem Wh{c:A7}(sn:bU c){κ:CN}{st:Sm}{us:List (Nat×V)}{e:Ao}(dn:Dn κ c st.v us e)(hu:∀z,z∈us->st.gk z.1/\Dm z){w1 w2:Wd}{s1 s2:EL}{H:MH}(kn1:K7 κ w1 s1)(kn2:K7 κ w2 s2)(c1:Cs s1)(c2:Cs s2)(a1:At w1 s1 H)(a2:At w2 s2 H)(hd:w1.i+12<=w2.i)
  (x1:s1.x=none) (x2:s2.x=none) {gs ts:List Ao} (hg:∀k,k<5->st.gk k->cw k∈gs) (ht:∀k,k<5->cw k∈ts->s1.g k=s2.g k) (h5:s1.g 5=s2.g 5) {ns:List V} {fn:V} {N:NV} {X:EV} {Q:V->Prop} (q:Q (.bool true)):
  AV (cf c false) (Dh.body.drop 3) [some (.lst ns),some fn,some st.v,some (.lst (sV aK)),some (.lst (sV gs)),some (.lst (sV ts)),some (.ref w1.i),some (.ref w2.i),none,none,none,none,none,none] H N (fun v ø H'=>V.nr (Br H' v)=true/\Q (Br H' v)) X:=by
 refine sn w1 s1 H _ _ a1 x1 c1.ar fun H1 e1=>sn w2 s2 H1 _ _ (a2.ex e1) x2 c2.ar fun H2 e2=>?_
 refine dn.run kn1 ((a1.ex e1).ex e2) fun H3 h3=>dn.run kn2 (((a2.ex e1).ex e2).kept h3 (.inr hd)) fun H4 h4=>vB.f (by refine Aj (decide_eq_true rfl) ?_;rfl) ?_
 have hc:∀z,z∈us->Dm z:=fun z hz=>(hu z hz).2
 have b1:At w1 (s1.ups us) H4:=h3.at.kept h4 (.inl hd)
 refine sn w1 (s1.ups us) H4 _ _ b1 (Hr.1.trans x1) (c1.ups hc).ar fun H5 e5=>sn w2 (s2.ups us) H5 _ _ (h4.at.ex e5) (Hr.1.trans x2) (c2.ups hc).ar fun H6 e6=>?_
 have hn:∀k,k<5->cw k∉gs->∀z,z∈us->z.1≠k:=fun k hk h z hz e=>h (hg k hk (e▸(hu z hz).1))
 refine aI rfl (Wg (c1.ups hc) (c2.ups hc) (fun k hk h=>⟨IG (hn k hk h),IG (hn k hk h)⟩) (fun k hk h=>L9 (ht k hk h)) ?_)
 refine YQ (c1.ups hc) (L9 h5) (fun h=>IG fun z hz e=>?_) (aI rfl q)
 have g5:=e▸(hu z hz).1
 have k5:∀γ:Gl,5≠γ.k:=fun γ=>by
  induction γ with
  |name n=>induction n<;>decide
  |item a _=>induction a<;>exact fun h=>nomatch h
 induction st with
 |lt γ t=>exact k5 γ g5
 |sw γ δ=>exact g5.elim (k5 γ) (k5 δ)
 |md γ f m t=>exact k5 γ g5
 |rd=>exact h trivial
noncomputable abbrev Nz(n0 n1 n2 n3 n4:Int)(p:Nat):List V:=[.int n0,.int n1,.int n2,.int n3,.int n4,.int p]
theorem dA{c c':A7}(lw:bR c c')(sn:bU c){st:Sm}{fb:T}{gs ts:List Ao}(nst:V.nr st.v=true)(nfb:V.nr fb.v=true)(lt:bQ c st.v (Kl fb) gs ts){va vb:V}{n0 n1 n2 n3 n4:Int}{p:Nat}
  (pa:PC c' 204 [V.dec (n0+dT none wA) (-1),.str Hn,.int 16,.int 4] (.ok va)) (pb:PC c' 204 [V.dec (n0+dT (some ts) wA) (-1),.str Hn,.int 16,.int 4] (.ok vb)) (ca:Bl 2 2 va) (cb:Bl 2 2 vb) (hab:wA∈ts->vb=va)
  {κ:CN} {us:List (Nat×V)} {e:Ao} (dn:Dn κ c st.v us e) (hu:∀z,z∈us->st.gk z.1/\Dm z) (hκ:κ=⟨fun k=>(k<5/\cw k∈ts)\/k=5,Dg va n1 n2 n3 n4 p none,none,0,Kl fb⟩)
  (hg:∀k,k<5->st.gk k->cw k∈gs) {H:MH} {Q:QV} {X:EV} (q:Q (.bool true) H):step c false 931 [.lst (Nz n0 n1 n2 n3 n4 p),Kl fb,st.v] H Q X:=by
 have eq:∀k,(k<5/\cw k∈ts)\/k=5->Dg vb n1 n2 n3 n4 p (some ts) k=Dg va n1 n2 n3 n4 p none k:=fun k hk=>
  Tj (fun h5=>hk.elim (fun h=>AT.mpr h.2) (fun h=>by lia)) fun h0=>hab (hk.elim (fun h=>by have h:=h.2;rw[h0] at h;exact h) (fun h=>by lia))
 refine CS rfl rfl rfl (by show(true&&((true&&(V.nr fb.v&&(true&&true)))&&(V.nr st.v&&true)))=true;refine Aj nst (Aj nfb ?_);rfl) (lt _ _ _ ?_)
 refine lw (τ:=none) (H:=[]) pa ?_
 refine lw (τ:=some ts) pb ?_
 have a1:At (Jx ([]:MH).length (Kl fb) none) ⟨Dg va n1 n2 n3 n4 p none,none,0⟩ ([]++WB (Jx ([]:MH).length (Kl fb) none) ⟨Dg va n1 n2 n3 n4 p none,none,0⟩):=At.new
 refine Wh sn dn hu (κ:=κ) (s1:=⟨Dg va n1 n2 n3 n4 p none,none,0⟩) (s2:=⟨Dg vb n1 n2 n3 n4 p (some ts),none,0⟩) (w1:=Jx ([]:MH).length (Kl fb) none) (w2:=Jx (([]:MH)++WB (Jx ([]:MH).length (Kl fb) none) ⟨Dg va n1 n2 n3 n4 p none,none,0⟩).length (Kl fb) (some ts)) ?_ ?_ (fun k hk=>(Hd ca).cell hk) (fun k hk=>(Hd cb).cell hk) (fun k o h=>Ha (a1 k o h)) At.new a1.len rfl rfl hg (fun k hk h=>(eq k (.inl ⟨hk,h⟩)).symm) rfl (Q:=fun v=>Q v H) q
 ·subst hκ;exact⟨fun k ø=>rfl,rfl,rfl,rfl⟩
 ·subst hκ;exact⟨fun k hk=>eq k hk,rfl,rfl,rfl⟩
theorem dB(n:Nat){st:Sm}(h:st.sh){fb:T}(hb:fb.sh true)(hk:fb.kw<=100)(ha:fb.asks<=10)(hc:fb.cost<=100){n0 n1 n2 n3 n4:Int}{p:Nat}(h0:0<=n0/\n0<90){H:MH}{Q:QV}{X:EV}(q:Q (.bool true) H):
  nc (n+20) false 931 [.lst (Nz n0 n1 n2 n3 n4 p),Kl fb,st.v] H Q X:=by
 have dr:∀τ,0<=n0+dT τ wA/\n0+dT τ wA<100:=fun τ=>by unfold dT;split<;>lia
 refine AO (Qi (n+10) (dr none)) fun va ca pa=>?_
 have ex:∃vb,Bl 2 2 vb/\PC (nc (n+17)) 204 [V.dec (n0+dT (some (Ia st fb)) wA) (-1),.str Hn,.int 16,.int 4] (.ok vb)/\(wA∈Ia st fb->vb=va):=by
  by_cases hm:wA∈Ia st fb
  ·exact⟨va,Dv.val ca,Aj ((Tq (τ:=some (Ia st fb)) (w:=wA) (AT.mpr hm)).1) pa,fun ø=>rfl⟩
  ·refine AO (Qi (n+10) (dr (some (Ia st fb)))) fun vb cb pb=>?_
   exact⟨vb,Dv.val cb,pb,fun h=>(hm h).elim⟩
 refine C9 ex fun vb cb pb hab=>?_
 have ko:=(Hd (n1:=n1) (n2:=n2) (n3:=n3) (n4:=n4) (p:=p) (τ:=none) (Dv.val ca)).kok (fb:=fb) ha hc fun k=>(k<5/\cw k∈Ia st fb)\/k=5
 refine EM (UK ko n (Rc h hb (fun w m=>L6 m) (fun m w hw=>OF m hw) (fun k h1 h2=>.inl ⟨h1,h2⟩) (fun ø=>.inr rfl) ⟨p,rfl⟩)) fun us e hu dn ø=>?_
 exact dA (c:=nc (n+19)) (ON (n+10)) QW (Aj st.v_eq h.nr) (T.nr hb.leaves) (L7 (n+15) h hb hk) pa pb (Dv.val ca) cb hab dn hu rfl (fun k hk g=>Ni g hk) q
theorem NF{b:Ao->Bool}{step:V->MH->(Option V->MH->Prop)->Prop}(hs:∀w H (Q:Option V->MH->Prop),(b w=true->Q (some (.str w)) H)->(b w=false->Q none H)->step (.str w) H Q):∀{ws:List Ao} {H:MH} {Q:List V->MH->Prop},Q (sV (ws.filter b)) H->vC step (sV ws) H Q
 |[],_,_,q=>q
 |w::ws,_,_,q=>hs _ _ _ (fun e=>NF hs (ws:=ws) (by rw[List.filter_cons_of_pos e] at q;exact q)) (fun e=>NF hs (ws:=ws) (by rw[List.filter_cons_of_neg (by exact Aj e AH)] at q;exact q))
theorem Zv(ok:∀w,w∈ws->C5 w)(h0:ws=[]->k false)(h1:ws≠[]->k true):Qo C .NotEq (.lst (sV ws)) (.lst []) H k:=by
 induction ws with
 |nil=>exact vO.e rfl (vO.e rfl (aI ⟨rfl,rfl⟩ (h0 rfl)))
 |cons w ws=>
  obtain⟨ys,k1,k2,k3⟩:=G7.all (d:=0) (xs:=sV ws) fun v hv=>by
   refine AO (B2.mp hv) fun u hu eq2=>?_
   subst eq2
   exact .str (ok u (.tail _ hu)) _
  have e:V.py (.lst (sV (w::ws)))=some (.list (.str w::ys)):=by
   show(V.pys (V.str w::sV ws)).map PyData.list=_
   show(((V.pys (sV ws)).map (PyData.str w::·)).map PyData.list)=_
   rw[k1];rfl
  have d:(PyData.list (.str w::ys)).depth<=64:=by
   rw[PyData.depth]
   have:PyData.depthAll (.str w::ys)<=0:=Nat.max_le.mpr ⟨Ay _,k3⟩
   exact GK (Lp xa (.num 1)) (.num 64) [.l xa (.num 0)] As this
  exact vO.e e (vO.e rfl (aI ⟨bZ ⟨bZ ⟨ok w (.head _),k2⟩,decide_eq_true d⟩,rfl⟩ (h1 (JH _ _))))
theorem QZ{st:Sm}:∀w,w∈Lv st.us->C5 w:=fun w h=>by
 refine AO (B2.mp h) fun p hp eq2=>?_
 refine D5 eq2 ?_
 obtain⟨h1,h2⟩:=C7.mp hp
 clear eq2;rcases AJ.mp h1 with h1 | h1
 ·refine AO (List.mem_flatMap.mp h1) fun γ ø h3=>?_
  rcases Al.mp h3 with rfl | h3
  ·clear h3 h1 h2;clear h1 h hp;induction γ with
   |name n=>induction n<;>decide+kernel
   |item a _=>
    refine(?_:C5 a.w)
    induction a<;>decide+kernel
  ·clear h1;clear h1 h hp;refine AO (B2.mp h3) fun u ø eq1=>?_;subst eq1;cases h2
 ·obtain⟨u,_,rfl⟩:=B2.mp h1;cases h2
noncomputable def kF:E:=match AY.body.drop 1 with
 |.ite t _ _::_=>t
 |_=>.bad
noncomputable abbrev XA(ns:List V)(fn one other:V)(g1 t1 g2 t2:List Ao)(a b x y:Option V):Fr:=[some (.lst ns),some fn,some one,some other,some (.lst (sV g1)),some (.lst (sV t1)),some (.lst (sV g2)),some (.lst (sV t2)),a,b,x,y,none,none]
noncomputable def SQ(g1 t1 g2 t2:List Ao):Prop:=(∀w,w∈g1->w∉t2)/\∀w,w∈g2->w∉t1
theorem VW{c:A7}{ns:List V}{fn:V}{k1 k2:Ao}{r1 r2:List V}{g1 t1 g2 t2:List Ao}{H:MH}{Q:QV}{X:EV}(o1:∀w,w∈g1->C5 w)(o2:∀w,w∈g2->C5 w)(l1:g1.length<=900)(l2:g2.length<=900)
  (qt:Q (.bool true) H) (qf:SQ g1 t1 g2 t2->¬(k1=G3/\k2=G3)->Q (.bool false) H):vE (cf c false) kF (XA ns fn (.tup (.str k1::r1)) (.tup (.str k2::r2)) g1 t1 g2 t2 none none none none) H Q X:=by
 have z:¬(k1=G3/\k2=G3)->vE (cf c false) (match kF with | .or _ b=>b | _=>.bad) (XA ns fn (.tup (.str k1::r1)) (.tup (.str k2::r2)) g1 t1 g2 t2 none none none none) H Q X:=fun hk=>by
  have f1:=GW t2.contains g1
  have f2:=GW t1.contains g2
  refine aI ⟨rfl,Nq (by rw[sV,A0];exact l1)⟩ (NF (b:=t2.contains) (fun w H Q h1 h2=>Gr (l:=t2) (aI h1 h2)) ?_)
  refine aI ⟨rfl,Nq (by rw[sV,A0];exact l2)⟩ (NF (b:=t1.contains) (fun w H Q h1 h2=>Gr (l:=t1) (aI h1 h2)) ?_)
  refine aI (Ag (show _<=1800 by rw[sV,sV,A0,A0];exact OP (Lp xa xb) (.num 1800) [.l xa xc,.l xb xd,.l xc (.num 900),.l xd (.num 900)] As f1 f2 l1 l2) (by decide)) ?_
  refine D5 (show sV (g1.filter t2.contains++g2.filter t1.contains)=sV (g1.filter t2.contains)++sV (g2.filter t1.contains) from DD) ?_
  refine Zv (C:=cf c false) (H:=H) (k:=fun v=>Q (.bool v) H) (fun w hw=>(AJ.mp hw).elim (fun h=>o1 w (C7.mp h).1) fun h=>o2 w (C7.mp h).1) (fun e=>qf ?_ hk) (fun ø=>qt)
  obtain⟨e1,e2⟩:=List.append_eq_nil_iff.mp e
  exact⟨fun w h1 h2=>absurd (e1▸C7.mpr ⟨h1,AT.mpr h2⟩) Gh,fun w h1 h2=>absurd (e2▸C7.mpr ⟨h1,AT.mpr h2⟩) Gh⟩
 refine aI i0 (vB.d (fun e1=>aI i0 (vB.d (fun e2=>qt) fun e2=>z fun h=>e2 h.2)) fun e1=>vB.f rfl (z fun h=>e1 h.1))
theorem UG(h:Cs s):G7 64 (BI s.g):=by
 have w:∀{w:Ao},C5 w->G7 3 (.str w):=fun h=>.str h _
 have c:∀k,k<=5->G7 4 (s.g k):=fun k hk=>(h.eqr hk).up (by decide)
 have z:G7 5 (BI s.g):=.lst (D7 (c 0 (by decide)) (D7 (c 1 (by decide)) (D7 (c 2 (by decide)) (D7 (c 3 (by decide)) (D7 (c 4 (by decide)) (D7 (c 5 (by decide)) (D7 (.lst (D7 (w (by decide+kernel)) (D7 (w (by decide+kernel)) (D7 (w (by decide+kernel)) RU)))) (D7 (.lst (D7 (w (by decide+kernel)) (D7 (w (by decide+kernel)) RU))) RU))))))))
 exact z.up (by decide)
theorem Se(h:∀k,g k=g' k):BI g=BI g':=congrArg BI (funext h)
theorem dH{st:Sm}{k:Nat}(h:st.gk k):k<5\/(k=5/\st.isR):=by
 have z:∀γ:Gl,γ.k<5:=fun γ=>by
  induction γ with
  |name n=>induction n<;>decide
  |item a _=>exact a.k5
 induction st with
 |lt γ t=>exact .inl (Aj (show k=γ.k from h) (z γ))
 |sw γ δ=>exact .inl (h.elim (fun e=>e▸z γ) fun e=>e▸z δ)
 |md γ f m t=>exact .inl (Aj (show k=γ.k from h) (z γ))
 |rd γ m=>
  rcases h with h | h | ⟨x,_,h⟩
  ·exact .inl (h▸z γ)
  ·exact .inr ⟨h,trivial⟩
  ·exact .inl (h▸z x)
theorem XI{st:Sm}(h:st.isR):st.K=G3:=by induction st<;>first | exact h.elim | rfl
noncomputable def aE(st:Sm)(ts:List Ao):Nat->Prop:=fun k=>(k<5/\cw k∈ts)\/(k=5/\st.isR)
theorem KY{one other:Sm}{g1 t1 g2 t2:List Ao}(ap:SQ g1 t1 g2 t2)(hr:¬(one.K=G3/\other.K=G3))(h1:∀k,k<5->one.gk k->cw k∈g1){k:Nat}(h:one.gk k):¬aE other t2 k:=fun ht=>by
 rcases dH h with h5 | ⟨h5,r1⟩
 ·exact ht.elim (fun ht=>ap.1 _ (h1 k h5 h) ht.2) fun ht=>lZ [.f xa (.num 5),.t xa (.num 5)] As ht.1 h5
 ·exact ht.elim (fun ht=>lZ [.f xa (.num 5),.t xa (.num 5)] As h5 ht.1) fun ht=>hr ⟨XI r1,XI ht.2⟩
theorem dI(ht:∀k,k<5->st.gk k->cw k∈ts)(h:st.gk k):aE st ts k:=(dH h).imp (fun h5=>⟨h5,ht k h5 h⟩) id
theorem UY{us vs:List (Nat×V)}{s:EL}{k:Nat}(h:∀z,z∈us->∀y,y∈vs->z.1=k->y.1=k->False):((s.ups us).ups vs).g k=((s.ups vs).ups us).g k:=by
 by_cases h1:∃z,z∈us/\z.1=k
 ·refine AO h1 fun z hz e=>?_
  have hv:∀y,y∈vs->y.1≠k:=fun y hy e2=>h z hz y hy e e2
  refine Aj (IG hv) ?_
  exact L9 (IG hv).symm
 ·have hu:∀z,z∈us->z.1≠k:=fun z hz e=>h1 ⟨z,hz,e⟩
  refine Aj (IG (us:=us) (s:=s.ups vs) hu) ?_
  exact L9 (IG hu)
theorem VV{c:A7}(sn:bU c){κ1 κ2:CN}{one other:Sm}{us vs:List (Nat×V)}{e1 e2:Ao}(d1:Dn κ1 c one.v us e1)(d2:Dn κ2 c other.v vs e2)(o1:C5 e1)(o2:C5 e2)(hu:∀z,z∈us->Dm z)(hv:∀z,z∈vs->Dm z)
  {w1 w2:Wd} {s:EL} {H:MH} (k1:∀w s',w.fn=w1.fn->s'.x=s.x->s'.d=s.d->(s'=s\/s'=s.ups vs)->K7 κ1 w s') (k2:∀w s',w.fn=w1.fn->s'.x=s.x->s'.d=s.d->(s'=s\/s'=s.ups us)->K7 κ2 w s') (hf:w2.fn=w1.fn) (cs:Cs s) (a1:At w1 s H) (a2:At w2 s H) (hd:w1.i+12<=w2.i) (hx:s.x=none)
  (ap:∀k z,z∈us->∀y,y∈vs->z.1=k->y.1=k->False) {ns:List V} {fn:V} {g1 t1 g2 t2:List Ao} {N:NV} {X:EV} {Q:V->Prop} (q:Q (.bool true)):
  AV (cf c false) (AY.body.drop 3) (XA ns fn one.v other.v g1 t1 g2 t2 (some (.ref w1.i)) (some (.ref w2.i)) none none) H N (fun v ø H'=>V.nr (Br H' v)=true/\Q (Br H' v)) X:=by
 refine d1.run (k1 w1 s rfl rfl rfl (.inl rfl)) a1 fun H1 h1=>?_
 refine d2.run (k2 w1 _ rfl Hr.1 Hr.2 (.inr rfl)) h1.at fun H2 h2=>?_
 have b2:At w2 s H2:=(a2.kept h1 (.inr hd)).kept h2 (.inr hd)
 refine d2.run (k2 w2 s hf rfl rfl (.inl rfl)) b2 fun H3 h3=>?_
 refine d1.run (k1 w2 _ hf Hr.1 Hr.2 (.inr rfl)) h3.at fun H4 h4=>?_
 have b1:At w1 ((s.ups us).ups vs) H4:=(h2.at.kept h3 (.inl hd)).kept h4 (.inl hd)
 have es:G7 64 (.lst [.str e1,.str e2]):=G7.up (d:=1) (.lst fun v hv=>by
  rcases Al.mp hv with rfl | hv
  ·exact .str o1 _
  ·cases An.mp hv;exact .str o2 _) (by decide)
 refine aI (lB rfl) (MY (u:=.lst [.str e1,.str e2]) (v:=.lst [.str e1,.str e2]) rfl es (vB.t rfl ?_))
 have cf1:=(cs.ups hu).ups hv
 have cf2:=(cs.ups hv).ups hu
 refine sn w1 _ H4 _ _ b1 (Hr.1.trans (Hr.1.trans hx)) cf1.ar fun H5 e5=>sn w2 _ H5 _ _ (h4.at.ex e5) (Hr.1.trans (Hr.1.trans hx)) cf2.ar fun H6 e6=>?_
 exact MY (u:=BI ((s.ups us).ups vs).g) (v:=BI ((s.ups vs).ups us).g) (Se fun k=>UY fun z hz y hy=>ap k z hz y hy) (UG cf1) (aI rfl q)
theorem lJ(ht:vE C t fr H (fun x H=>vB x (AV C a fr H (fun fr H=>AV C ss fr H N R X) R X) (AV C b fr H (fun fr H=>AV C ss fr H N R X) R X)) X):AV C (.ite t a b::ss) fr H N R X:=ht
theorem YM:AY.body.drop 1=.ite kF [.ret (.k (.bool true))] []::AY.body.drop 2:=rfl
theorem VU{c:A7}{ns:List V}{fn:V}{one other:Sm}{g1 t1 g2 t2:List Ao}{H:MH}{N:NV}{R:RT}{X:EV}(o1:∀w,w∈g1->C5 w)(o2:∀w,w∈g2->C5 w)(l1:g1.length<=900)(l2:g2.length<=900)
  (qt:R (.bool true) (XA ns fn one.v other.v g1 t1 g2 t2 none none none none) H) (qf:SQ g1 t1 g2 t2->¬(one.K=G3/\other.K=G3)->AV (cf c false) (AY.body.drop 2) (XA ns fn one.v other.v g1 t1 g2 t2 none none none none) H N R X):
  AV (cf c false) (AY.body.drop 1) (XA ns fn one.v other.v g1 t1 g2 t2 none none none none) H N R X:=by
 refine Aj YM ?_
 refine lJ ?_
 have e1:=one.v_eq
 have e2:=other.v_eq
 generalize one.v=v1 at*
 generalize other.v=v2 at*
 subst e1 e2
 exact VW o1 o2 l1 l2 (vB.t rfl qt) fun ap hr=>vB.f rfl (qf ap hr)
theorem RE{c c':A7}(lw:bR c c'){va:V}{m0 m1 m2 m3 m4:Int}{p:Nat}{fn a b:V}{g1 t1 g2 t2:List Ao}(pa:PC c' 204 [V.dec (m0+dT none wA) (-1),.str Hn,.int 16,.int 4] (.ok va)){N:NV}{R:RT}{X:EV}
  (q:∀w1 w2 H,At w1 ⟨Dg va m1 m2 m3 m4 p none,none,0⟩ H->At w2 ⟨Dg va m1 m2 m3 m4 p none,none,0⟩ H->w1.i+12<=w2.i->w1.fn=fn->w2.fn=fn->AV (cf c false) (AY.body.drop 3) (XA (Nz m0 m1 m2 m3 m4 p) fn a b g1 t1 g2 t2 (some (.ref w1.i)) (some (.ref w2.i)) none none) H N R X):
  AV (cf c false) (AY.body.drop 2) (XA (Nz m0 m1 m2 m3 m4 p) fn a b g1 t1 g2 t2 none none none none) [] N R X:=by
 refine lw (τ:=none) (H:=[]) pa ?_
 refine lw (τ:=none) pa ?_
 have a1:At (Jx ([]:MH).length fn none) ⟨Dg va m1 m2 m3 m4 p none,none,0⟩ ([]++WB (Jx ([]:MH).length fn none) ⟨Dg va m1 m2 m3 m4 p none,none,0⟩):=At.new
 exact q _ (Jx (([]:MH)++WB (Jx ([]:MH).length fn none) ⟨Dg va m1 m2 m3 m4 p none,none,0⟩).length fn none) _ (fun k o h=>Ha (a1 k o h)) At.new a1.len rfl rfl
theorem cP{c c':A7}(lw:bR c c')(sn:bU c){one other:Sm}{fb:T}{g1 t1 g2 t2:List Ao}(n1:V.nr one.v=true)(n2:V.nr other.v=true)(nfb:V.nr fb.v=true)(lt1:bQ c one.v (Kl fb) g1 t1)(lt2:bQ c other.v (Kl fb) g2 t2){va:V}{m0 m1 m2 m3 m4:Int}{p:Nat}
  (pa:PC c' 204 [V.dec (m0+dT none wA) (-1),.str Hn,.int 16,.int 4] (.ok va)) (ca:Bl 2 2 va) {κ1 κ2:CN} {us vs:List (Nat×V)} {e1 e2:Ao} (d1:Dn κ1 c one.v us e1) (d2:Dn κ2 c other.v vs e2) (s1:C5 e1) (s2:C5 e2) (hu:∀z,z∈us->one.gk z.1/\Dm z) (hv:∀z,z∈vs->other.gk z.1/\Dm z)
  (k1:κ1=⟨aE one t1,Dg va m1 m2 m3 m4 p none,none,0,Kl fb⟩) (k2:κ2=⟨aE other t2,Dg va m1 m2 m3 m4 p none,none,0,Kl fb⟩) (h1:∀k,k<5->one.gk k->cw k∈g1) (h2:∀k,k<5->other.gk k->cw k∈g2) (h4:∀k,k<5->other.gk k->cw k∈t2)
  (o1:∀w,w∈g1->C5 w) (o2:∀w,w∈g2->C5 w) (l1:g1.length<=900) (l2:g2.length<=900) {H:MH} {Q:QV} {X:EV} (q:Q (.bool true) H):step c false 936 [.lst (Nz m0 m1 m2 m3 m4 p),Kl fb,one.v,other.v] H Q X:=by
 have kn:∀{st st':Sm} {t:List Ao} {xs:List (Nat×V)} (_:∀z,z∈xs->st'.gk z.1/\Dm z) (_:∀{k},st'.gk k->¬aE st t k) (w:Wd) (s':EL),w.fn=Kl fb->s'.x=none->s'.d=0->(s'=⟨Dg va m1 m2 m3 m4 p none,none,0⟩\/s'=EL.ups ⟨Dg va m1 m2 m3 m4 p none,none,0⟩ xs)->K7 ⟨aE st t,Dg va m1 m2 m3 m4 p none,none,0,Kl fb⟩ w s':=fun {st st' t xs} hx ha w s' e1 e2 e3 e4=>
  ⟨fun k hk=>e4.elim (fun e=>e▸rfl) (fun e=>Aj e (IG fun z hz ez=>ha (hx z hz).1 (ez▸hk))),e2,e3,e1⟩
 subst k1 k2
 refine CS rfl rfl rfl (by show(true&&((true&&(V.nr fb.v&&(true&&true)))&&(V.nr one.v&&(V.nr other.v&&true))))=true;refine Aj n1 (Aj n2 (Aj nfb ?_));rfl) (lt1 _ _ _ (lt2 _ _ _ ?_))
 refine VU o1 o2 l1 l2 (aI rfl q) fun ap hr=>RE lw pa fun w1 w2 H' a1 a2 hd f1 f2=>?_
 exact VV sn d1 d2 s1 s2 (fun z hz=>(hu z hz).2) (fun z hz=>(hv z hz).2)
  (fun w s' e1 e2 e3 e4=>kn hv (fun {k} h=>KY ⟨ap.2,ap.1⟩ (fun h=>hr ⟨h.2,h.1⟩) h2 h) w s' (e1.trans f1) e2 e3 e4) (fun w s' e1 e2 e3 e4=>kn hu (fun {k} h=>KY ap hr h1 h) w s' (e1.trans f1) e2 e3 e4)
  (f2.trans f1.symm) (fun k hk=>(Hd ca).cell hk) a1 a2 hd rfl (fun k z hz y hy ez ey=>KY ap hr h1 (ez▸(hu z hz).1) (dI h4 (ey▸(hv y hy).1))) (Q:=fun v=>Q v H) q
theorem QY{st:Sm}(h:st.sh):(Lv st.us).length<=900:=by
 have:=UT h
 have:=Ur h
 rw[Lv,A0]
 refine Ag (GW _ _) ?_
 rw[Sm.us,Ak,Internal.rd,A0];lia
theorem cQ(n:Nat){one other:Sm}(h1:one.sh)(h2:other.sh){fb:T}(hb:fb.sh true)(hk:fb.kw<=100)(ha:fb.asks<=10)(hc:fb.cost<=100){n0 n1 n2 n3 n4:Int}{p:Nat}(h0:0<=n0/\n0<90){H:MH}{Q:QV}{X:EV}(q:Q (.bool true) H):
  nc (n+20) false 936 [.lst (Nz n0 n1 n2 n3 n4 p),Kl fb,one.v,other.v] H Q X:=by
 have dr:0<=n0+dT none wA/\n0+dT none wA<100:=by
  refine Aj (show dT none wA=0 from rfl) ?_;exact⟨BV (.num 0) (.add za (.num 0)) [.l (.num 0) za] As h0.1,DU (.add za (.num 0)) (.num 100) [.t za (.num 90)] As h0.2⟩
 refine AO (Qi (n+10) dr) fun va ca pa=>?_
 have ko:=fun t=>(Hd (n1:=n1) (n2:=n2) (n3:=n3) (n4:=n4) (p:=p) (τ:=none) (Dv.val ca)).kok (fb:=fb) ha hc t
 have go:∀{st:Sm},st.sh->∃us e,(∀z,z∈us->st.gk z.1/\Dm z)/\Dn ⟨aE st (Ia st fb),Dg va n1 n2 n3 n4 p none,none,0,Kl fb⟩ (nc (n+19)) st.v us e/\C5 e:=fun {st} h=>
  UK (ko _) n (Rc h hb (fun w m=>L6 m) (fun m w hw=>OF m hw) (fun k h1 h2=>.inl ⟨h1,h2⟩) (fun h=>.inr ⟨rfl,h⟩) ⟨p,rfl⟩)
 refine EM (go h1) fun us e1 hu d1 o1=>?_
 refine EM (go h2) fun vs e2 hv d2 o2=>?_
 exact cP (c:=nc (n+19)) (ON (n+10)) QW (Aj one.v_eq h1.nr) (Aj other.v_eq h2.nr) (T.nr hb.leaves) (L7 (n+15) h1 hb hk) (L7 (n+15) h2 hb hk) pa (Dv.val ca) d1 d2 o1 o2 hu hv rfl rfl
  (fun k hk g=>Ni g hk) (fun k hk g=>Ni g hk) (fun k hk g=>L6 (UI (Ni g hk))) QZ QZ (QY h1) (QY h2) q
noncomputable def We(sc:List Int)(pos:Int):MH:=[.list [.lst (sc.map .int),.int pos]]
noncomputable def Ym:List Int:=[12,2,1,3,6,0,0,0,0,3,5,1,1,0,2,3,2,1,4,1,0,0,1,2,4,2]
theorem int_at{l:List Int}{k:Nat}(h:k<l.length):(l.map V.int)[k]?=some (.int l[k]):=by refine Aj (IU) (Aj (AX h) ?_);rfl
noncomputable def Vx(c:A7)(sc:List Int):Prop:=∀(pos m:Int) (Q:QV) (X:EV),0<=pos->0<m->(∀r:Int,0<=r->r<m->Q (.int r) (We sc (pos+1)))->c false 867 [.ref 0,.int m] (We sc pos) Q X
theorem cK{c:A7}{sc:List Int}(hs:sc.length<=63):Vx (step c) sc:=fun pos m Q X hp hm q=>by
 have ls:(sc.map V.int).length=sc.length:=A0 ..
 have lm:(sc.map V.int).length<=Ap:=Ag (show _<=63 by exact Aj ls hs) (by decide)
 have q2:∀x:Int,Q (.int (x.fmod m)) (We sc (pos+1)):=fun x=>q _ (fm hm).1 (fm hm).2
 refine CM rfl rfl rfl (aI i1 (aI ⟨by decide,(show(1:Int)<2 by decide),lB rfl⟩ (aI i0 (aI lm (vB.d (fun h=>?_) fun h=>?_)))))
 ·have h:pos<((sc.map V.int).length:Int):=h
  replace h:=ls▸h
  exact aI i0 (aI ⟨hp,aT za (.num 4611686018427387904) [.t za zb,.l zb (.num 63)] As h (Am.2 hs)⟩ (vO.e (int_at (l:=sc) (show pos.toNat<sc.length from Bg.1 (bV za zb [.t zc zb,.e za zc] As h (lY (BV (.num 0) za [.l (.num 0) za] As hp))))) (aI hm (q2 _))))
 ·have f:=fm (n:=pos) (k:=26) (by decide)
  have u:(Cb pos 26).toNat<Ym.length:=by show _<26;exact Bg.1 (aT za (.num 26) [.e za zb,.t zb (.num 26)] As (lY (BV (.num 0) za [.l (.num 0) za] As f.1)) f.2)
  exact aI (lB rfl) (aI (by decide) (aI ⟨f.1,by show Cb pos 26<_;exact DU za (.num 4611686018427387904) [.t za (.num 26)] As f.2⟩ (vO.e (int_at (l:=Ym) u) (aI hm (q2 _)))))
noncomputable def Ts(s:T):Prop:=s=.name .B\/∃i:Int,s=.leaf (.int i)/\0<=i/\i<10
noncomputable def VB(c:A7)(sc:List Int):Prop:=∀(a:Ar) (pos:Int) (Q:QV) (X:EV),0<=pos->(∀s pos',Ts s->0<=pos'->Q (T.item a s).v (We sc pos'))->c false 874 [.ref 0,.str a.nm.s] (We sc pos) Q X
theorem Zb(dp:Vx c sc):VB (step c) sc:=fun a pos Q X hp q=>
 CM rfl rfl rfl (dp pos 6 _ _ hp (by decide) fun r h0 h1=>vB.d (fun ø=>q (.name .B) _ (.inl rfl) (BV (.num 0) (.add za (.num 1)) [.l (.num 0) za] As hp)) fun ø=>q (.leaf (.int r)) _ (.inr ⟨r,rfl,h0,DU za (.num 10) [.t za (.num 6)] As h1⟩) (BV (.num 0) (.add za (.num 1)) [.l (.num 0) za] As hp))
inductive Lf:T->Prop
 |A:Lf (.name .A)
 |B:Lf (.name .B)
 |C:Lf (.name .C)
 |w:Lf (.leaf (.int 3))
 |x:Lf (.leaf (.str ⟨#[120,121]⟩))
 |d:Lf (.leaf (V.dec 25 (-2)))
 |f:Lf (.fna (.name .B))
 |i (a:Ar) (s:T) (h:Ts s):Lf (.item a s)
noncomputable def bP(c:A7)(sc:List Int):Prop:=∀(b:Bool) (pos:Int) (Q:QV) (X:EV),0<=pos->(∀t pos',Lf t->0<=pos'->Q t.v (We sc pos'))->c false 881 [.ref 0,.bool b] (We sc pos) Q X
theorem iT{r:Int}{m:Int}(h0:0<=r)(h:r<m)(hm:m<=10):0<=r/\r<2 ^ 62:=⟨h0,aT za (.num 4611686018427387904) [.t za zb,.l zb (.num 10)] As h hm⟩
theorem lX{r n:Int}(k:r<n+1):r<n\/r=n:=Int.lt_or_eq_of_le (HN k)
theorem lV{r:Int}(h:0<=r)(k:r<2):r=0\/r=1:=(lX (n:=1) k).imp_left fun k=>B0 (HN k) h
theorem lW{r:Int}(h:0<=r)(k:r<3):r=0\/r=1\/r=2:=(lX (n:=2) k).elim (fun k=>(lV h k).imp_right .inl) fun e=>.inr (.inr e)
theorem eB{c:A7}{sc:List Int}(dp:Vx c sc)(it:VB c sc):bP (step c) sc:=fun b pos Q X hp q=>by
 induction b with
 |true=>
  refine CM rfl rfl rfl (vB.t rfl (dp pos 3 _ _ hp (by decide) fun r h0 h1=>vB.d (fun h=>aI (iT h0 h1 (by decide)) ?_) fun h=>it .S _ _ _ (BV (.num 0) (.add za (.num 1)) [.l (.num 0) za] As hp) fun s p hs h=>q (.item .S s) p (.i .S s hs) h))
  have:=lV h0 h
  rcases this with rfl | rfl
  ·exact q (.name .C) _ .C (BV (.num 0) (.add za (.num 1)) [.l (.num 0) za] As hp)
  ·exact q (.leaf (.str ⟨#[120,121]⟩)) _ .x (BV (.num 0) (.add za (.num 1)) [.l (.num 0) za] As hp)
 |false=>
  refine CM rfl rfl rfl (vB.f rfl (dp pos 6 _ _ hp (by decide) fun r h0 h1=>vB.d (fun h=>it .R _ _ _ (BV (.num 0) (.add za (.num 1)) [.l (.num 0) za] As hp) fun s p hs h=>q (.item .R s) p (.i .R s hs) h) fun h=>aI (iT h0 h1 (by decide)) ?_))
  have:r=0\/r=1\/r=2\/r=4\/r=5:=by lia
  clear h h1 h0;rcases this with rfl | rfl | rfl | rfl | rfl
  ·exact q (.name .A) _ .A (BV (.num 0) (.add za (.num 1)) [.l (.num 0) za] As hp)
  ·exact q (.name .B) _ .B (BV (.num 0) (.add za (.num 1)) [.l (.num 0) za] As hp)
  ·exact q (.leaf (.int 3)) _ .w (BV (.num 0) (.add za (.num 1)) [.l (.num 0) za] As hp)
  ·exact q (.fna (.name .B)) _ .f (BV (.num 0) (.add za (.num 1)) [.l (.num 0) za] As hp)
  ·exact q (.leaf (V.dec 25 (-2))) _ .d (BV (.num 0) (.add za (.num 1)) [.l (.num 0) za] As hp)
inductive Vl:T->Prop
 |one (t:T) (h:Lf t):Vl t
 |two (o:O3) (l r:T) (h:Lf l) (k:Lf r):Vl (.two o l r)
noncomputable def jL(c:A7)(sc:List Int):Prop:=∀(b:Bool) (pos:Int) (Q:QV) (X:EV),0<=pos->(∀t pos',Vl t->0<=pos'->Q t.v (We sc pos'))->c false 888 [.ref 0,.bool b] (We sc pos) Q X
theorem hJ(dp:Vx c sc)(lf:bP c sc):jL (step c) sc:=fun b pos Q X hp q=>by
 refine CM rfl rfl rfl (dp pos 4 _ _ hp (by decide) fun r h0 h1=>lf b _ _ _ (BV (.num 0) (.add za (.num 1)) [.l (.num 0) za] As hp) fun l p1 hl h2=>vB.d (fun h=>q l p1 (.one l hl) h2) fun h=>?_)
 induction b with
 |true=>exact vB.t rfl (lf true _ _ _ h2 fun r p2 hr h3=>q (.two .add l r) p2 (.two .add l r hl hr) h3)
 |false=>
  refine vB.f rfl (aI ⟨by lia,DU (.sub za (.num 1)) (.num 4611686018427387904) [.t za (.num 4)] As h1⟩ ?_)
  have:r=1\/r=2\/r=3:=by lia
  clear h h1 h0;rcases this with rfl | rfl | rfl
  ·exact lf false _ _ _ h2 fun r p2 hr h3=>q (.two .add l r) p2 (.two .add l r hl hr) h3
  ·exact lf false _ _ _ h2 fun r p2 hr h3=>q (.two .sub l r) p2 (.two .sub l r hl hr) h3
  ·exact lf false _ _ _ h2 fun r p2 hr h3=>q (.two .mul l r) p2 (.two .mul l r hl hr) h3
noncomputable def Gs:Gl->Prop
 |.name _=>True
 |.item _ s=>Ts s
noncomputable def jG(c:A7)(sc:List Int):Prop:=∀(pos:Int) (Q:QV) (X:EV),0<=pos->(∀γ b pos',Gs γ->0<=pos'->Q (.tup [γ.v,.bool b]) (We sc pos'))->c false 895 [.ref 0] (We sc pos) Q X
theorem dL{c:A7}{sc:List Int}(dp:Vx c sc)(it:VB c sc):jG (step c) sc:=fun pos Q X hp q=>by
 refine CM rfl rfl rfl (dp pos 5 _ _ hp (by decide) fun r h0 h1=>vB.d (fun h=>aI (iT h0 h1 (by decide)) ?_) fun h=>aI ⟨BV (.num 0) (.sub za (.num 3)) [.u za (.num 3)] As h,DU (.sub za (.num 3)) (.num 4611686018427387904) [.t za (.num 5)] As h1⟩ ?_)
 ·have:=lW h0 h
  clear h h1 h0;rcases this with rfl | rfl | rfl
  ·exact q (.name .A) _ _ trivial (BV (.num 0) (.add za (.num 1)) [.l (.num 0) za] As hp)
  ·exact q (.name .B) _ _ trivial (BV (.num 0) (.add za (.num 1)) [.l (.num 0) za] As hp)
  ·exact q (.name .C) _ _ trivial (BV (.num 0) (.add za (.num 1)) [.l (.num 0) za] As hp)
 ·have:=(lX (n:=4) h1).imp_left fun k=>B0 (HN k) (Bu.1 h)
  clear h h1 h0;rcases this with rfl | rfl
  ·exact it .R _ _ _ (BV (.num 0) (.add za (.num 1)) [.l (.num 0) za] As hp) fun s p hs h=>q (.item .R s) _ p hs h
  ·exact it .S _ _ _ (BV (.num 0) (.add za (.num 1)) [.l (.num 0) za] As hp) fun s p hs h=>q (.item .S s) _ p hs h
theorem Ts.sh(h:Ts s)(x:Bool):s.one/\s.sh x/\s.cost<=1/\s.asks<=1/\s.kw<=3:=by
 rcases h with rfl | ⟨i,rfl,h0,h1⟩
 ·exact⟨trivial,trivial,Ay _,Ay _,by decide⟩
 ·exact⟨trivial,.int i 1 (Ld (DU (.neg (.num 10)) za [.l (.num 0) za] As h0) (DU za (.num 10) [.t za (.num 10)] As h1)) (by decide) (by decide) (by decide),Ay _,A3 _,Ay _⟩
theorem Gs.sh(h:Gs γ):γ.sh:=by
 induction γ with
 |name=>trivial
 |item a s=>exact⟨(Ts.sh h false).1,(Ts.sh h false).2.1,Ag (Ts.sh h false).2.2.1 (by decide),Ag (Ts.sh h false).2.2.2.1 (by decide),Ag (Ts.sh h false).2.2.2.2 (by decide)⟩
theorem WZ(h:0<=i/\i<10):Bl 2 1 (.int i):=.int i 1 (Ld (DU (.neg (.num 10)) za [.l (.num 0) za] As h.1) (DU za (.num 10) [.t za (.num 10)] As h.2)) (by decide) (by decide) (by decide)
theorem Lf.sh(h:Lf t):t.one/\t.sh false/\t.cost<=5/\t.asks<=15/\t.kw<=10:=by
 induction h using Lf.casesOn with
 |A=>exact⟨trivial,trivial,by decide,by decide,by decide⟩
 |B=>exact⟨trivial,trivial,by decide,by decide,by decide⟩
 |C=>exact⟨trivial,trivial,by decide,by decide,by decide⟩
 |w=>exact⟨trivial,WZ ⟨by decide,by decide⟩,by decide,by decide,lB rfl⟩
 |x=>exact⟨trivial,.str _ (lB rfl) (by decide+kernel),by decide,by decide,lB rfl⟩
 |d=>exact⟨trivial,.dec 25 (-2) (by decide) ⟨by decide,2,by decide,by decide,by decide⟩,by decide,by decide,lB rfl⟩
 |f=>exact⟨trivial,⟨rfl,rfl⟩,by decide,by decide,by decide⟩
 |i a s h=>
  refine Xz (h.sh false) fun h1 h2 h3 h4 h5=>?_
  exact⟨trivial,⟨h1,h2⟩,by show s.cost+2<=5;exact GK (Lp xa (.num 2)) (.num 5) [.l xa (.num 1)] As h3,by show s.asks+1<=15;exact GK (Lp xa (.num 1)) (.num 15) [.l xa (.num 1)] As h4,by show s.kw+2<=10;exact GK (Lp xa (.num 2)) (.num 10) [.l xa (.num 3)] As h5⟩
structure Fb (fb:T):Prop where
 sh:fb.sh true
 kw:fb.kw<=100
 asks:fb.asks<=10
 cost:fb.cost<=100
theorem Lf.fb(h:Lf t)(o:O3):(t=.fna (.name .B)/\Fb (.name .X))\/(t.sh true/\Fb (.two o (.name .X) t)):=by
 have go:t.sh true->t.asks<=3->Fb (.two o (.name .X) t):=fun h1 h2=>by
  refine Xz h.sh fun k1 k2 k3 k4 k5=>?_
  exact⟨⟨⟨trivial,k1⟩,rfl,h1⟩,by show t.kw+1+3<=100;exact GK (Lp (Lp xa (.num 1)) (.num 3)) (.num 100) [.l xa (.num 10)] As k5,by show t.asks+1<=10;exact GK (Lp xa (.num 1)) (.num 10) [.l xa (.num 3)] As h2,by show t.cost+1+2<=100;exact GK (Lp (Lp xa (.num 1)) (.num 2)) (.num 100) [.l xa (.num 5)] As k3⟩
 induction h using Lf.casesOn with
 |f=>exact .inl ⟨rfl,rfl,by decide,by decide,by decide⟩
 |i a s k=>
  refine Xz (k.sh true) fun h1 h2 h3 h4 h5=>?_
  exact .inr ⟨⟨h1,h2⟩,go ⟨h1,h2⟩ (by show s.asks+1<=3;exact GK (Lp xa (.num 1)) (.num 3) [.l xa (.num 1)] As h4)⟩
 |A=>exact .inr ⟨trivial,go trivial (by decide)⟩
 |B=>exact .inr ⟨trivial,go trivial (by decide)⟩
 |C=>exact .inr ⟨trivial,go trivial (by decide)⟩
 |w=>exact .inr ⟨WZ ⟨by decide,by decide⟩,go (WZ ⟨by decide,by decide⟩) (by decide)⟩
 |x=>exact .inr ⟨.str _ (lB rfl) (by decide+kernel),go (.str _ (lB rfl) (by decide+kernel)) (by decide)⟩
 |d=>exact .inr ⟨.dec 25 (-2) (by decide) ⟨by decide,2,by decide,by decide,by decide⟩,go (.dec 25 (-2) (by decide) ⟨by decide,2,by decide,by decide,by decide⟩) (by decide)⟩
theorem Vl.sh(h:Vl t):t.sh false/\t.low/\t.kw<=100:=by
 induction h using Vl.casesOn with
 |one t h=>exact⟨h.sh.2.1,⟨Ag h.sh.2.2.1 (by decide),Ag h.sh.2.2.2.1 (by decide)⟩,Ag h.sh.2.2.2.2 (by decide)⟩
 |two o l r h k=>
  refine Xz h.sh fun a1 a2 a3 a4 a5=>?_
  refine Xz k.sh fun b1 b2 b3 b4 b5=>?_
  exact⟨⟨⟨a1,b1⟩,a2,b2⟩,⟨by show r.cost+l.cost+2<=300;exact CY (Lp (Lp xa xb) (.num 2)) (.num 300) [.l xa (.num 5),.l xb (.num 5)] As b3 a3,by show r.asks+l.asks<=60;exact CY (Lp xa xb) (.num 60) [.l xa (.num 15),.l xb (.num 15)] As b4 a4⟩,by show r.kw+l.kw+3<=100;exact CY (Lp (Lp xa xb) (.num 3)) (.num 100) [.l xa (.num 10),.l xb (.num 10)] As b5 a5⟩
theorem PJ(h0:0<=r)(h1:r<4):(T.leaf (.int r)).sh false/\(T.leaf (.int r)).lit/\(T.leaf (.int r)).kw<=100:=⟨WZ ⟨h0,DU za (.num 10) [.t za (.num 4)] As h1⟩,⟨trivial,rfl,rfl⟩,by show 3<=100;decide⟩
noncomputable def jH(c:A7)(sc:List Int):Prop:=∀(pos:Int) (Q:QV) (X:EV),0<=pos->(∀(st:Sm) pos',st.sh->0<=pos'->Q st.v (We sc pos'))->c false 902 [.ref 0] (We sc pos) Q X
theorem eH(dp:Vx c sc)(gl:jG c sc)(vl:jL c sc):jH (step c) sc:=fun pos Q X hp q=>by
 refine CM rfl rfl rfl (dp pos 4 _ _ hp (by decide) fun r h0 h1=>gl _ _ _ (BV (.num 0) (.add za (.num 1)) [.l (.num 0) za] As hp) fun γ b p1 hγ g1=>vB.d (fun h=>?_) fun h=>vB.d (fun h=>?_) fun h=>vB.d (fun h=>?_) fun h=>?_)
 ·exact gl _ _ _ g1 fun δ b' p2 hδ g2=>aI i0 (q (.sw γ δ) p2 ⟨hγ.sh,hδ.sh⟩ g2)
 ·refine dp _ 4 _ _ g1 (by decide) fun r2 h2 h3=>dp _ 4 _ _ (BV (.num 0) (.add za (.num 1)) [.l (.num 0) za] As g1) (by decide) fun r3 h4 h5=>vB.d (fun h=>?_) fun h=>?_
  ·exact vl true _ _ _ (BV (.num 0) (.add (.add za (.num 1)) (.num 1)) [.l (.num 0) za] As g1) fun t p2 ht g2=>q (.md γ (.leaf (.int r2)) none t) p2 ⟨hγ.sh,ht.sh,PJ h2 h3,fun x e=>nomatch e⟩ g2
  ·exact vl true _ _ _ (BV (.num 0) (.add (.add za (.num 1)) (.num 1)) [.l (.num 0) za] As g1) fun t p2 ht g2=>q (.md γ (.leaf (.int r2)) (some (.leaf (.int r3))) t) p2 ⟨hγ.sh,ht.sh,PJ h2 h3,fun x e=>Ad e▸PJ h4 h5⟩ g2
 ·refine dp _ 2 _ _ g1 (by decide) fun r2 h2 h3=>vB.d (fun h=>?_) fun h=>?_
  ·exact gl _ _ _ (BV (.num 0) (.add za (.num 1)) [.l (.num 0) za] As g1) fun δ b' p2 hδ g2=>aI i0 (aI (lB rfl) (q (.rd γ (some δ)) p2 ⟨hγ.sh,fun x e=>Ad e▸hδ.sh⟩ g2))
  ·exact aI (lB rfl) (q (.rd γ none) _ ⟨hγ.sh,fun x e=>nomatch e⟩ (BV (.num 0) (.add za (.num 1)) [.l (.num 0) za] As g1))
 ·refine dp _ 6 _ _ g1 (by decide) fun r2 h2 h3=>vB.d (fun h=>?_) fun h=>?_
  ·exact vl b _ _ _ (BV (.num 0) (.add za (.num 1)) [.l (.num 0) za] As g1) fun t p2 ht g2=>q (.lt γ t) p2 ⟨hγ.sh,ht.sh⟩ g2
  ·exact vl (!b) _ _ _ (BV (.num 0) (.add za (.num 1)) [.l (.num 0) za] As g1) fun t p2 ht g2=>q (.lt γ t) p2 ⟨hγ.sh,ht.sh⟩ g2
theorem TV{c:A7}{nu fn x0 x1 x3:V}(fr:∀st:Sm,st.sh->∀H (Q:QV) (X:EV),Q (.bool true) H->c false 931 [nu,fn,st.v] H Q X)(ex:∀s t:Sm,s.sh->t.sh->∀H (Q:QV) (X:EV),Q (.bool true) H->c false 936 [nu,fn,s.v,t.v] H Q X)
  {s1 s2 s3:Sm} (h1:s1.sh) (h2:s2.sh) (h3:s3.sh) {H:MH} {N:NV} {X:EV} {Q:V->Prop} (q:Q (.bool true)):
  AV (cf c false) (Om.body.drop 5) [some x0,some x1,some nu,some x3,some fn,some (.lst [s1.v,s2.v,s3.v]),none,none,none] H N (fun v ø H'=>V.nr (Br H' v)=true/\Q (Br H' v)) X:=by
 refine fr s1 h1 _ _ _ (vB.f rfl (fr s2 h2 _ _ _ (vB.f rfl (fr s3 h3 _ _ _ (vB.f rfl ?_)))))
 exact aI i0 (aI i1 (ex s1 s2 h1 h2 _ _ _ (vB.t rfl (aI i1 (aI i2 (ex s2 s3 h2 h3 _ _ _ (aI rfl q)))))))
theorem QI:∀sc:List Int,V.nrs (sc.map .int)=true
 |[]=>rfl
 |_::sc=>QI sc
noncomputable def PG(n:Nat):E:=match Om.body[n]? with
 |some (.asg _ e)=>e
 |_=>.bad
theorem Zg{C:FP}{sc:List Int}(hs:sc.length<=63){Q:QV}{X:EV}(q:Q (.ref 0) [.list [.lst ((sc.take 44).map .int),.int 0]]):vE C (PG 0) [some (.lst (sc.map .int)),none,none,none,none,none,none,none,none] [] Q X:=by
 have lm:(sc.map V.int).length<=Ap:=Ag (show _<=63 by rw[A0];exact hs) (by decide)
 have e:E4 (sc.map V.int) 0 44=(sc.take 44).map V.int:=by rw[E4,HE,List.map_take]
 rw[<-e] at q
 exact aI ⟨by decide,by decide⟩ (aI lm q)
section
variable {c:A7}{sc:List Int}{x0 x2 x3 x4 x5 x6 x7 x8:Option V}{Q:QV}{X:EV}
theorem Zh(dp:Vx c sc)(q:∀(n0 n1 n2 n3 n4:Int) (p:Nat) (p1:Int),0<=n0/\n0<90->0<=p1->Q (.lst (Nz n0 n1 n2 n3 n4 p)) (We sc p1)):vE (cf c false) (PG 1) [x0,some (.ref 0),x2,x3,x4,x5,x6,x7,x8] (We sc 0) Q X:=by
 refine aI ⟨rfl,lB rfl⟩ (dp 0 90 _ _ (by decide) (by decide) fun n0 a0 b0=>dp _ 6 _ _ (by decide) (by decide) fun n1 ø ø=>dp _ 40 _ _ (by decide) (by decide) fun n2 ø ø=>dp _ 40 _ _ (by decide) (by decide) fun n3 ø ø=>dp _ 40 _ _ (by decide) (by decide) fun n4 ø ø=>dp _ 5 _ _ (by decide) (by decide) fun n5 a5 ø=>?_)
 refine Eb (Cf a5) fun p e=>?_
 subst e
 exact q n0 n1 n2 n3 n4 p _ ⟨a0,b0⟩ (by decide)
theorem Zi(dp:Vx c sc)(lf:bP c sc)(h0:0<=p0)(q:∀(o:O3) (l:T) (p1:Int),Lf l->0<=p1->Q (T.two o (.name .X) l).v (We sc p1)):vE (cf c false) (PG 2) [x0,some (.ref 0),x2,x3,x4,x5,x6,x7,x8] (We sc p0) Q X:=by
 have h1:0<=p0+1:=Int.add_nonneg h0 (by decide)
 refine dp _ 2 _ _ h0 (by decide) fun r r0 r1=>aI (iT r0 r1 (by decide)) ?_
 have:=lV r0 r1
 rcases this with rfl | rfl
 ·exact lf false _ _ _ h1 fun l p1 hl g1=>q .add l p1 hl g1
 ·exact lf false _ _ _ h1 fun l p1 hl g1=>q .mul l p1 hl g1
theorem Zj(o:O3)(hl:Lf l)(q:∀fb,Fb fb->Q (Kl fb) H):vE (cf c false) (PG 3) [x0,some (.ref 0),x2,some (T.two o (.name .X) l).v,x4,x5,x6,x7,x8] H Q X:=by
 rcases hl.fb o with⟨rfl,hb⟩ | ⟨hn,hb⟩
 ·exact(show PE (cf c false) (PG 3) _ H (Kl (.name .X)) from .tup (.cons (.lst (.cons .k .nil)) (.cons (.iff (.nes (.ix (.ix (.l rfl) rfl) rfl) .k rfl) (.ix (.l rfl) rfl)) (.cons (.sub .k .k rfl) .nil)))) _ _ (q (.name .X) hb)
 ·have k:∃s:Ao,aZ l.v 0=some (.str s)/\(!decide (s=⟨#[102,110]⟩))=true:=by
   clear hb q
   induction hl using Lf.casesOn with
   |f=>exact absurd hn.2 (fun h=>nomatch h)
   |A | B | C | w | x | d | i=>exact Bn _ rfl rfl
  exact AO k fun s h1 h2=>(show PE (cf c false) (PG 3) _ H (Kl (.two o (.name .X) l)) from .tup (.cons (.lst (.cons .k .nil)) (.cons (.ift (.nes (.ix (.ix (.l rfl) rfl) h1) .k h2) (.l rfl)) (.cons (.sub .k .k rfl) .nil)))) _ _ (q _ hb)
theorem Zk(ms:jH c sc)(h0:0<=p0)(q:∀(s1 s2 s3:Sm) (p1:Int),s1.sh->s2.sh->s3.sh->Q (.lst [s1.v,s2.v,s3.v]) (We sc p1)):vE (cf c false) (PG 4) [x0,some (.ref 0),x2,x3,x4,x5,x6,x7,x8] (We sc p0) Q X:=
 aI rfl (aI ⟨by decide,by decide⟩ (aI ⟨rfl,lB rfl⟩ (ms _ _ _ h0 fun s1 p2 h1 g1=>ms _ _ _ g1 fun s2 p3 h2 g2=>ms _ _ _ g2 fun s3 p4 h3 g3=>q s1 s2 s3 p4 h1 h2 h3)))
end
theorem Lr(h:vE C e fr H (fun v H=>AV C ss (AC fr i v) H N R X) X):AV C (.asg i e::ss) fr H N R X:=h
theorem Zl{c:A7}{sc:List Int}(hs:sc.length<=63)(dp:Vx c (sc.take 44))(lf:bP c (sc.take 44))(ms:jH c (sc.take 44))
  (fr:∀{n0 n1 n2 n3 n4:Int} {p:Nat} {fb:T},Fb fb->0<=n0/\n0<90->∀st:Sm,st.sh->∀H (Q:QV) (X:EV),Q (.bool true) H->c false 931 [.lst (Nz n0 n1 n2 n3 n4 p),Kl fb,st.v] H Q X)
  (ex:∀{n0 n1 n2 n3 n4:Int} {p:Nat} {fb:T},Fb fb->0<=n0/\n0<90->∀s t:Sm,s.sh->t.sh->∀H (Q:QV) (X:EV),Q (.bool true) H->c false 936 [.lst (Nz n0 n1 n2 n3 n4 p),Kl fb,s.v,t.v] H Q X)
  {H:MH} {Q:QV} {X:EV} (q:Q (.bool true) H):step c false 941 [.lst (sc.map .int)] H Q X:=by
 refine CS rfl rfl rfl (bZ ⟨QI sc,rfl⟩) ?_
 refine Lr (Zg hs ?_)
 refine Lr (Zh dp fun n0 n1 n2 n3 n4 p p1 h0 hp=>?_)
 refine Lr (Zi dp lf hp fun o l p1 hl hp=>?_)
 refine Lr (Zj o hl fun fb hb=>?_)
 refine Lr (Zk ms hp fun s1 s2 s3 p1 h1 h2 h3=>?_)
 exact TV (Q:=fun v=>Q v H) (fr hb h0) (ex hb h0) h1 h2 h3 q
theorem Zn(n:Nat){sc:List Int}(hs:sc.length<=63){H:MH}{Q:QV}{X:EV}(q:Q (.bool true) H):nc (n+21) false 941 [.lst (sc.map .int)] H Q X:=by
 have h44:(sc.take 44).length<=63:=Ag (Aj Gg (Nat.min_le_left _ _)) (show 44<=63 by decide)
 have dp:∀m,Vx (nc (m+1)) (sc.take 44):=fun m=>cK (c:=nc m) h44
 have it:∀m,VB (nc (m+2)) (sc.take 44):=fun m=>Zb (c:=nc (m+1)) (dp m)
 have lf:∀m,bP (nc (m+3)) (sc.take 44):=fun m=>eB (c:=nc (m+2)) (dp (m+1)) (it m)
 have vl:∀m,jL (nc (m+4)) (sc.take 44):=fun m=>hJ (c:=nc (m+3)) (dp (m+2)) (lf m)
 have gl:∀m,jG (nc (m+3)) (sc.take 44):=fun m=>dL (c:=nc (m+2)) (dp (m+1)) (it m)
 exact Zl (c:=nc (n+20)) hs (dp _) (lf (n+17)) (eH (c:=nc (n+19)) (dp _) (gl (n+16)) (vl (n+15)))
  (fun hb h0 st h H Q X q=>dB n h hb.sh hb.kw hb.asks hb.cost h0 q) (fun hb h0 s t h1 h2 H Q X q=>cQ n h1 h2 hb.sh hb.kw hb.asks hb.cost h0 q) q
end
section
open PySem PySem.W PyProof.Rows PySem.Calls PySem.SeqAt PySem.Spec
theorem Vc{P:Ey}{ρ:Ce}{vs:List Ab}{ns:List Int}(h:IntsAre vs ns):B8 P ρ (ns.map .int) vs:=by
 induction h with
 |nil=>exact .nil
 |cons n t h ih=>exact .cons (.int _ _) ih
noncomputable def cD:Ct:=⟨callerA,[],⟨[],[]⟩,default,0,⟨[],true⟩⟩
theorem kI(W:Hx):HR W.w W.hb ⟨[],[]⟩ W.hb [] [] where
 len:=rfl
 rep:=fun _ _ _ e=>nomatch e
 sep:=fun _ _ _ _ e=>nomatch e
 new:=fun _ ⟨_,m,_⟩=>nomatch m
 nam:=fun _ m=>nomatch m
 old:=fun _ _ e=>e
 exl:=fun _ m=>nomatch m
theorem TX{W:Hx}(F:NP W)(wok:Xo W){s:Ae}(hs:s.heap=W.hb){l:Ai}{vs:List Ab}{ns:List Int}(hL:s.heap.IsList l vs.toArray)(hI:IntsAre vs ns)(hn:ns.length≤63):
  BY W.M callerA (.call (.ref 941) ⟨[.ref l],[]⟩) (fun r s'=>r=.ok (.ret (.bool true))∧(∀b o,s.heap.get? b=some o→s'.heap.get? b=some o)∧CO s s') s:=by
 have tk:∀n,K2 W (Mh.cfg n false) n:=fun n=>KD (F.tab wok) n false
 obtain⟨X',fd,body,z⟩:=(F.tab wok).glo 941 (.fn Om) rfl
 obtain⟨fa,hb⟩:=z _ 20 ((F.tab wok).tok (hd:=false) (tk 20) X') ⟨rfl,rfl,rfl⟩
 have q:iX (Mh.cfg 20 false) Om [.lst (ns.map .int)] [] (fun v _=>v=.bool true) (fun _ _=>False):=by
  have q:=Zn 0 hn (H:=[]) (Q:=fun v _=>v=.bool true) (X:=fun _ _=>False) rfl
  rw[←XR] at q
  exact q
 obtain⟨o,ho,hc,n,hd⟩:=hL
 obtain⟨h,g,d,t,os⟩:=s
 subst hs
 have R:=kI W
 have rv:B8 (Kd cD.na W.hb []) [] [.lst (ns.map .int)] [.ref l]:=.cons (.lst ⟨⟨ho,CA,fun m=>nomatch m⟩,.inr (.inl ⟨hc,_,_,hd⟩),fun m=>nomatch m⟩ hc hd (Vc hI)) .nil
 refine FM (U4 (T:=⟨W,X',Mh.cfg 20 false,20⟩) (ct:=cD) wok fa hb ⟨rfl,(fun _ m=>nomatch m),(by decide:callerA.depth+3*21<990),(by decide:callerA.units+30*21+200<cLine)⟩ R rfl rv q) fun r s' y=>?_
 cases r with
 |error e=>exact EM y fun c H' r er q=>q.elim
 |ok o=>cases o with
  |ret u=>
   refine Ss y fun ρ' H' v r S R' rv q=>?_
   cases q
   cases rv
   exact⟨rfl,fun b o e=>(S.kn b o ⟨e,CA,fun m=>nomatch m⟩).1,r⟩
  |_=>exact y.elim
theorem Wv{K:Params→CD}{P p:B7}{w:Cc}{s:Ae}{loose:List Ao}{mean:ExcName→Option Ab}{mg mb:Ao→Option Ab}{nm:Ao}{fa l:Ai}{vs:List Ab}{ns:List Int}{c:ClaimW}{cl:Ao→Option Ai}{me:ExcName→Option Ab}{args:List WData}
  (F:∀W:Hx,W.K=K W.w.params→W.prog=P→NP W) (KX:(K w.params).In s.heap) (T:Top p loose mean mg mb s.heap) (hmg:mg nm=some (.ref fa)) (hnm:∀q,nsIn (K q) Em nm=some (some (.ref 941))) (hL:s.heap.IsList l vs.toArray) (hI:IntsAre vs ns) (hn:¬(63:Int)<ns.length)
  (hg:s.gens=#[]) (hr:∀cls,c.raises args cls=false) (hp:c.post args (ofPy (.bool true)) args=true):BY (AD P w) callerA (.call (.ref fa) ⟨[.ref l],[]⟩) (GoodWG c cl me args s) s:=by
 let W:Hx:=⟨P,w,K w.params,p,loose,mean,mg,mb,s.heap⟩
 have e:=(mg_of KX T.g (hnm _)).symm.trans hmg
 cases e
 refine FM (TX (W:=W) (F W rfl rfl) ⟨KX,T⟩ rfl hL hI (by omega)) fun r s' y=>?_
 obtain⟨rfl,k,r1,r2⟩:=y
 exact GoodW.toG ⟨.inl ⟨_,ofPy (.bool true),[],rfl,hr,.bool true,hp,fun _=>⟨.nil,fun _ m=>nomatch m⟩⟩,k,r2,r1.trans hg⟩
end
end Mine.Internal
namespace Mine
open Internal
namespace top
def tw16900427199656544559:=Nat
def tw18164388396756303480:=Nat
def tw13305523845174962083:=Nat
def tw7079599612431449588:=Nat
def tw1139600151236580504:=Nat
def tw10996937224433265937:=Nat
def tw16104615914030681952:=Nat
def tw8025738503920905074:=Nat
def tw6733462575251390621:=Nat
def tw5240762971458559404:=Nat
def tw18186074749648716422:=Nat
def tw18085771088847121727:=Nat
def tw705360758644809490:=Nat
def tw17807222030613408314:=Nat
def tw8657480035899644758:=Nat
def tw3969286963782609292:=Nat
def tw9272544492142499777:=Nat
def tw8693662901424576113:=Nat
def tw2763123919098950967:=Nat
def tw10079171474624433434:=Nat
def tw2619622883677149074:=Nat
def tw8237333600419904120:=Nat
def tw4134505453457115739:=Nat
def tw7033079012710635876:=Nat
def tw4773702212245658779:=Nat
def tw5483185372664623402:=Nat
def tw3479634599624807885:=Nat
def tw10005945817407372193:=Nat
def tw10915162052029792233:=Nat
def tw10936122117785486979:=Nat
def tw17712237780357452925:=Nat
def tw17810072253543177317:=Nat
def tw5868845118606482295:=Nat
def tw4807402645868434406:=Nat
def tw13177472732611162249:=Nat
def tw6023681309508064863:=Nat
def tw7444641836354208208:=Nat
def tw6859976401760118174:=Nat
def tw1312780250039628139:=Nat
def tw18289109515434150305:=Nat
def tw2104741419117168686:=Nat
def tw4186445540838780016:=Nat
def tw14371913498598963198:=Nat
def tw15696354942287192291:=Nat
def tw14917401599646851644:=Nat
def tw10579768621468169598:=Nat
def tw16262243036561855896:=Nat
def tw9673933992889287130:=Nat
def tw10773188271377071773:=Nat
def tw3453223234828964814:=Nat
def tw12415523145999629524:=Nat
def tw672699306608606093:=Nat
def tw15874363893724204672:=Nat
def tw15177526630643400193:=Nat
def tw9962302188120564619:=Nat
def tw5379463472682653830:=Nat
def tw11457754044182789617:=Nat
def tw17050326753033342646:=Nat
def tw5341934141677670832:=Nat
def tw15095372191486117680:=Nat
def tw2822501910515967889:=Nat
def tw10657950659306570408:=Nat
def tw2029088862249889922:=Nat
def tw2220570432770164149:=Nat
def tw7671549972530922468:=Nat
def tw15569959144833144457:=Nat
def tw1284575025550258836:=Nat
def tw8297286125493194097:=Nat
def tw1559226430018442191:=Nat
def tw8968299171318014206:=Nat
def tw14168018189251442112:=Nat
def tw16982378080980825192:=Nat
def tw5766051744304087583:=Nat
def tw1516213087968936877:=Nat
def tw17444329988762607307:=Nat
def tw8148004212497801138:=Nat
def tw9694206877528517478:=Nat
def tw13369591340354186047:=Nat
def tw6460121766331871944:=Nat
def tw2377541652452675900:=Nat
def tw14042817526060737062:=Nat
def tw2965125352208521119:=Nat
def tw8393700709775954928:=Nat
def tw8874702517807110003:=Nat
def tw9590735534726013551:=Nat
def tw17741875731164886585:=Nat
def tw8892184565913893157:=Nat
def tw18326957874037197240:=Nat
def tw987869383939708018:=Nat
def tw17176029603704830031:=Nat
def tw6694047246710070196:=Nat
def tw2544169868661182894:=Nat
def tw11779653239440661071:=Nat
def tw4292522238394942308:=Nat
def tw17620759639134147866:=Nat
def tw1974259917200649262:=Nat
def tw3254097082911018636:=Nat
def tw11917448952958348678:=Nat
def tw7436774141650363327:=Nat
def tw1304757597395314617:=Nat
def tw8640399195822439974:=Nat
def tw13191473780850816973:=Nat
def tw12094960947251128927:=Nat
def tw7990429038631628895:=Nat
def tw13501252493785611398:=Nat
def tw339143206060000330:=Nat
def tw2047080938173012442:=Nat
def tw4331257952254489624:=Nat
def tw15383718091736126541:=Nat
def tw7681529838311687354:=Nat
def tw13890846271309207196:=Nat
def tw6756868429301003459:=Nat
def tw6662652255960138227:=Nat
def tw1212798325632107971:=Nat
def tw4856909995586565122:=Nat
def tw304654302220672320:=Nat
def tw12317137736924338119:=Nat
def tw5667650583090716360:=Nat
def tw6623532728838073528:=Nat
def tw8374938949443298174:=Nat
def tw18200808041648558556:=Nat
def tw2502181453436431679:=Nat
def tw16054190913257422852:=Nat
def tw17470836177267949868:=Nat
def tw15245507539482535896:=Nat
def tw17046948494117081484:=Nat
def tw11546936639936008217:=Nat
def tw17219337458794519322:=Nat
def tw14901070454687303710:=Nat
def tw5176459694589498394:=Nat
def tw15877122091014420850:=Nat
def tw5692499903750754813:=Nat
def tw5240389563564037448:=Nat
def tw4655869559712951663:=Nat
def tw12080426169559351053:=Nat
def tw17492772389151264855:=Nat
def tw11263669390164206178:=Nat
def tw3764141193738528704:=Nat
def tw1706793611546318481:=Nat
def tw2617719716777270872:=Nat
def tw18236624570336363585:=Nat
def tw83393220934416808:=Nat
def tw2972514686349903234:=Nat
def tw10362775142378211054:=Nat
def tw14724332232928298890:=Nat
def tw3002795768020413707:=Nat
def tw5590232498371695878:=Nat
def tw2670627174450433442:=Nat
def tw7657828476027519975:=Nat
def tw13896958669275611876:=Nat
def tw1169771345039838236:=Nat
def tw4498253355057717688:=Nat
def tw13549259019975226677:=Nat
def tw16541100652227675460:=Nat
def tw10617020205504526918:=Nat
def tw7817637940432870852:=Nat
def tw11468358511172941013:=Nat
def tw3584897518013459382:=Nat
def tw15008207993883188931:=Nat
def tw53344730913325255:=Nat
def tw8628236747792435071:=Nat
def tw6572447435987645144:=Nat
def tw1611750394293783599:=Nat
def tw2686433634493928565:=Nat
def tw14399976873020721970:=Nat
def tw5915399644114372684:=Nat
def tw10768140376307724812:=Nat
def tw12012865196380796599:=Nat
def tw1584292188352093569:=Nat
def tw15361541807878343388:=Nat
def tw11577829705659331004:=Nat
def tw10574840078274726829:=Nat
def tw16713831800681072344:=Nat
def tw16597617366809209970:=Nat
def tw7743179893348639699:=Nat
def tw4828031223510198475:=Nat
def tw16795567611416646642:=Nat
def tw2685012915969955173:=Nat
def tw6287420888163001789:=Nat
def tw2896640688883821729:=Nat
def tw16734371015571099844:=Nat
def tw15878805988109762761:=Nat
def tw3712731000106771831:=Nat
def tw10467260515200827399:=Nat
def tw708234853630380328:=Nat
def tw17828378304095215089:=Nat
def tw8327351992414209593:=Nat
def tw1047907039808853306:=Nat
def tw956942650209027819:=Nat
def tw47109162367338493:=Nat
def tw11141966352661209427:=Nat
def tw8281120267493503204:=Nat
def tw5058314954733539658:=Nat
def tw84136930442132756:=Nat
def tw6893477703608230032:=Nat
def tw1803303928475200142:=Nat
def tw661290744650703789:=Nat
def tw4010397242664982755:=Nat
def tw2910609919460849807:=Nat
def tw9919435345466941130:=Nat
def tw1112988674713690477:=Nat
def tw953821971998124167:=Nat
def tw8973803690348224638:=Nat
def tw17683472795295644477:=Nat
def tw8443935842833279946:=Nat
def tw17103585973383926153:=Nat
def tw7761843605638006849:=Nat
def tw8204474986945543665:=Nat
def tw15823732540823425666:=Nat
def tw6930518751129746686:=Nat
def tw12904532413392791838:=Nat
def tw7744093853086628109:=Nat
def tw13272337422414781067:=Nat
def tw15735037969156040135:=Nat
def tw13562833436174130633:=Nat
def tw9990226795618131978:=Nat
def tw13820912127525551613:=Nat
def tw1293289543672728842:=Nat
def tw8813761850579938390:=Nat
def tw5235370132326077648:=Nat
def tw8999917154711486175:=Nat
def tw9961057766049560675:=Nat
def tw10414433010598505635:=Nat
def tw594810645892935528:=Nat
def tw10987319290404115282:=Nat
def tw7715697345341360870:=Nat
def tw13370750898655102155:=Nat
def tw10001883323181062329:=Nat
def tw13899568491130100285:=Nat
def tw6345181382737326586:=Nat
def tw9854493187847425173:=Nat
def tw681777741448182936:=Nat
def tw14851680436948445374:=Nat
def tw11133666699803404755:=Nat
def tw8455645898260960030:=Nat
def tw16612331741718818515:=Nat
def tw14450715343900746980:=Nat
def tw5105846836358774362:=Nat
def tw2103985501979894447:=Nat
def tw2617181576586992344:=Nat
def tw1186331607622873149:=Nat
def tw10956490626425055710:=Nat
def tw12488038555639769405:=Nat
def tw12622177474791663080:=Nat
def tw16878204669230926818:=Nat
def tw9465783595903631515:=Nat
def tw15362295582089109014:=Nat
def tw13968125046926948103:=Nat
def tw13420762306968818387:=Nat
def tw650146959520709813:=Nat
def tw104434173382791472:=Nat
def tw12379415707883124570:=Nat
def tw12762922103008790111:=Nat
def tw7059692629156357883:=Nat
def tw15508944514630427714:=Nat
def tw10367675484739944270:=Nat
def tw5088376156974544275:=Nat
def tw2514443458684651071:=Nat
def tw3033006917804047512:=Nat
def tw8823455108540655025:=Nat
def tw6761616313442571491:=Nat
def tw13994475860397038760:=Nat
def tw5225916559131626549:=Nat
def tw10219655510578893393:=Nat
def tw12209182163369298222:=Nat
def tw2770239361232196585:=Nat
def tw10242591131026960117:=Nat
def tw10017263926548143515:=Nat
def tw682014064893787789:=Nat
def tw10195997230039290492:=Nat
def tw4695670854781333657:=Nat
def tw5609151216138764652:=Nat
def tw16885616592811714743:=Nat
def tw12425085872883035938:=Nat
def tw7213333562754528385:=Nat
def tw3831216023754155268:=Nat
def tw3796891538752321733:=Nat
def tw1209819496270969543:=Nat
def tw6916252892733821390:=Nat
def tw18064794426631996164:=Nat
def tw2926424126403749041:=Nat
def tw2446586112883488508:=Nat
def tw16550210197400561554:=Nat
def tw9229161468869434483:=Nat
def tw12764151676501842404:=Nat
def tw6430265229019958763:=Nat
def tw2506305409684761478:=Nat
def tw9456006794991739263:=Nat
def tw2665807947273092163:=Nat
def tw453181688931711583:=Nat
def tw2847958352784047137:=Nat
def tw9666326922614434849:=Nat
def tw8912170899635468890:=Nat
def tw5892708079436301921:=Nat
def tw8043003576528973991:=Nat
def tw2988451766255067171:=Nat
def tw7429413206186439793:=Nat
def tw1601500998369573665:=Nat
def tw15740088241188596515:=Nat
def tw2835187731363253809:=Nat
def tw6906291655842520137:=Nat
def tw11982747722937265360:=Nat
def tw8140125068956082859:=Nat
def tw9233715247699887402:=Nat
def tw7600245330811189008:=Nat
def tw6659320528611288953:=Nat
def tw13990698242589431971:=Nat
def tw7249705126575804556:=Nat
def tw5163715390036670947:=Nat
def tw649594095290182367:=Nat
def tw15799541711010589177:=Nat
def tw114735475811551136:=Nat
def tw1655259298481077034:=Nat
def tw18367679650794681301:=Nat
def tw17177869089781658578:=Nat
def tw16415559393655328363:=Nat
def tw8547604310838440241:=Nat
def tw1886144042066472794:=Nat
def tw127126225481002756:=Nat
def tw14771320824794740959:=Nat
def tw4835499133494076262:=Nat
def tw6187478851450931391:=Nat
def tw17565814175750979855:=Nat
def tw1275901062530889299:=Nat
def tw14861896470697024400:=Nat
def tw4232285709927190386:=Nat
def tw1833847959688406909:=Nat
def tw1483126911874232274:=Nat
def tw4859757453598101857:=Nat
def tw2307138979858485370:=Nat
def tw4047667213573674445:=Nat
def tw10694878333477680388:=Nat
def tw7160873610591055699:=Nat
def tw8598144960395782539:=Nat
def tw13012589842206080548:=Nat
def tw2812155379371279736:=Nat
def tw11760055953109336660:=Nat
def tw6459276657848829223:=Nat
def tw9503340733035011235:=Nat
def tw7522852383072776753:=Nat
def tw1332587269233701865:=Nat
def tw2464713573024523455:=Nat
def tw17342085116792181814:=Nat
def tw2405475915293451298:=Nat
def tw8321918168302905379:=Nat
def tw6754034310392073148:=Nat
def tw3570499242123996262:=Nat
def tw8265191368974092141:=Nat
def tw17030962893124633753:=Nat
def tw1971433849790844608:=Nat
def tw13385996262653078937:=Nat
def tw9843447840031818808:=Nat
def tw8265311939077410998:=Nat
def tw7538252964068480738:=Nat
def tw2105017259488925948:=Nat
def tw6623253995193511850:=Nat
def tw17434308400759680031:=Nat
def tw14983691940233647259:=Nat
def tw17022078359063049780:=Nat
def tw7458633546980236471:=Nat
def tw11423202765487971197:=Nat
def tw2369445192022557226:=Nat
def tw1195175773429642966:=Nat
def tw657111498738832265:=Nat
def tw10562855833978642645:=Nat
def tw15740948416001004644:=Nat
def tw2424727229257130912:=Nat
def tw2683898200743741643:=Nat
def tw3347922821702440152:=Nat
def tw12638030207367898728:=Nat
def tw13385244156195431271:=Nat
def tw13134186033006778460:=Nat
def tw1843344800811705456:=Nat
def tw3207569582813703071:=Nat
def tw10567129059001840431:=Nat
def tw14826035006057030972:=Nat
def tw1638113669730673903:=Nat
def tw93012567124736588:=Nat
def tw17469865338272021226:=Nat
def tw18185382058313985135:=Nat
def tw3739144386018749749:=Nat
def tw15860264024139754761:=Nat
def tw14657780768301432306:=Nat
def tw5860347150701562758:=Nat
def tw13710211086531791108:=Nat
def tw11592465598724292549:=Nat
def tw3715792687998586317:=Nat
def tw2446451932059125521:=Nat
def tw1294077662247117797:=Nat
def tw887695700811335699:=Nat
def tw8689318265317240412:=Nat
def tw11842451847925006096:=Nat
def tw9059832203979395877:=Nat
def tw5581607755468803823:=Nat
def tw620129878449983639:=Nat
def tw10361075674979980167:=Nat
def tw9576743257966636567:=Nat
def tw4205137553216949640:=Nat
def tw12535971307161669396:=Nat
def tw11593399256984752444:=Nat
def tw7250933059871147345:=Nat
def tw9892616901177910922:=Nat
def tw14526540143163920134:=Nat
def tw6583040956863952856:=Nat
def tw3901323768455840569:=Nat
def tw16439428074185983240:=Nat
def tw2213029860928159205:=Nat
def tw9614876229902214918:=Nat
def tw13983857475226248213:=Nat
def tw12287887523310495049:=Nat
def tw7439886461454727182:=Nat
def tw3767615275625035234:=Nat
def tw3474246075231452896:=Nat
def tw18237780215024852062:=Nat
def tw2312856594315299383:=Nat
def tw6973401727384321114:=Nat
def tw16782997733028217545:=Nat
def tw13822267516522204269:=Nat
def tw7847352863974893604:=Nat
def tw5889316905344633881:=Nat
def tw17671270875357681807:=Nat
def tw3378803678994701225:=Nat
def tw13975414291046593716:=Nat
def tw16342770487823414484:=Nat
def tw3664424711883983056:=Nat
def tw15092371282622821202:=Nat
def tw11470690223818410786:=Nat
def tw13261893007816960818:=Nat
def tw11520865232209809239:=Nat
def tw15058813355848621054:=Nat
def tw5196900775432865589:=Nat
def tw13370185576492129568:=Nat
def tw17774833976778514315:=Nat
def tw6075534854705499898:=Nat
def tw16131081028893534354:=Nat
def tw81815255157605957:=Nat
def tw12166907935582030026:=Nat
def tw12385144161495827662:=Nat
def tw10276331973627342096:=Nat
def tw12376051458212225564:=Nat
def tw17981982808018919739:=Nat
def tw9843949296442739443:=Nat
def tw15525995667512963556:=Nat
def tw15234444972351076034:=Nat
def tw11383000496634168614:=Nat
def tw7325726471975496349:=Nat
def tw17582957951858275007:=Nat
def tw9739860059890490050:=Nat
def tw8472579005086612782:=Nat
def tw13307591127769906961:=Nat
def tw13985988839938425345:=Nat
def tw8054331753737935190:=Nat
def tw3337584539547039419:=Nat
def tw411662067469150650:=Nat
def tw5839659824258004927:=Nat
def tw12783364522390391256:=Nat
def tw9149571693438533347:=Nat
def tw15299407806266782574:=Nat
def tw13047834502658803893:=Nat
def tw6505410396798821541:=Nat
def tw17315540178315561739:=Nat
def tw7673058066778466091:=Nat
def tw7414872774492366064:=Nat
def tw2555065506035805374:=Nat
def tw9233335307524088747:=Nat
def tw17781115878593249900:=Nat
def tw12625694945159114441:=Nat
def tw13160728816969591200:=Nat
def tw13178059906610389163:=Nat
def tw13889309363888878346:=Nat
def tw12545222027267286695:=Nat
def tw12483720753089274532:=Nat
def tw5244899138074338376:=Nat
def tw2809488002615124206:=Nat
def tw2707679213066786127:=Nat
def tw4691186174975459493:=Nat
def tw9108098604805947806:=Nat
def tw10648311167861321448:=Nat
def tw14597223018079223185:=Nat
def tw11145643937294416527:=Nat
def tw16896751376397280635:=Nat
def tw15646934709686841381:=Nat
def tw12609604535291364189:=Nat
def tw860223938195835975:=Nat
def tw15073315481182737699:=Nat
def tw18374746225686918389:=Nat
def tw9016798869158615873:=Nat
def tw17097589658546579393:=Nat
def tw6487610083215253720:=Nat
def tw15262977503361262276:=Nat
def tw6664487174759623829:=Nat
def tw1717825165581474212:=Nat
def tw5647976800219259906:=Nat
def tw11960245374511038805:=Nat
def tw6286779285267259847:=Nat
def tw5728218623943512802:=Nat
def tw18062624165398249997:=Nat
def tw9759319705405543751:=Nat
def tw5957926153307538237:=Nat
def tw11279390925490393535:=Nat
def tw14317375437502057738:=Nat
def tw14301671488300290737:=Nat
def tw14459580976405569124:=Nat
def tw8620165645458168473:=Nat
def tw4791253341166991637:=Nat
def tw11466170419677230873:=Nat
def tw11131206648525784891:=Nat
def tw7386116660499605909:=Nat
def tw1142415686869020238:=Nat
def tw13345470168829271861:=Nat
def tw18016941796951652274:=Nat
def tw814325599930780420:=Nat
def tw7198060816514059695:=Nat
def tw3644161924160858147:=Nat
def tw11072019736110318841:=Nat
def tw6674990990233134667:=Nat
def tw16866024460163772082:=Nat
def tw16258771989139608452:=Nat
def tw9166809390415177425:=Nat
def tw16325430554902658873:=Nat
def tw5596365628329696591:=Nat
def tw10783980745131425670:=Nat
def tw2968346561183084112:=Nat
def tw6176384092110617959:=Nat
def tw76412952228603488:=Nat
def tw16821654228018055803:=Nat
def tw6143595290313323761:=Nat
def tw7108139096449030536:=Nat
def tw7273676953221729872:=Nat
def tw132903981291199154:=Nat
def tw8645369167282567922:=Nat
def tw6520327441239513222:=Nat
def tw17486766287000646611:=Nat
def tw4250876409542091131:=Nat
def tw9059672392935016618:=Nat
def tw8729362747519067210:=Nat
def tw196536941598035525:=Nat
def tw6786057226368545225:=Nat
def tw17366924284538989914:=Nat
def tw17474498911051797155:=Nat
def tw17576975557295073227:=Nat
def tw2417791160451022400:=Nat
def tw3217022616335106338:=Nat
def tw1353657120722975067:=Nat
def tw12392516345856041104:=Nat
def tw14248925298954806443:=Nat
def tw7215319984434753242:=Nat
def tw2581206410525282061:=Nat
def tw5476889619067714990:=Nat
def tw15212760480394562756:=Nat
def tw1149218181149386328:=Nat
def tw568400683779154973:=Nat
def tw4002441696211005659:=Nat
def tw18086089286151905521:=Nat
def tw1142465760834251562:=Nat
def tw9768079942903668216:=Nat
def tw9743097575036673082:=Nat
def tw1670607248958778201:=Nat
def tw5292242308059857560:=Nat
def tw8069049012094873728:=Nat
def tw8538268897159353584:=Nat
def tw11045010717311733409:=Nat
def tw8369368087495890639:=Nat
def tw11762496359356365647:=Nat
def tw7008692893051332821:=Nat
def tw5938664839603501006:=Nat
def tw14762295962024373759:=Nat
def tw1897025099450329940:=Nat
def tw9378254376102152143:=Nat
def tw729201693064108563:=Nat
def tw9589608677651300831:=Nat
def tw7381879191629600215:=Nat
def tw984902984118615328:=Nat
def tw6211089042160764376:=Nat
def tw10090393231696489298:=Nat
def tw10577272966987657301:=Nat
def tw5072613934562372735:=Nat
def tw10180943152330463961:=Nat
def tw13759081321499198575:=Nat
def tw2727672472851901052:=Nat
def tw4736427724481360342:=Nat
def tw4626048006780466326:=Nat
def tw4052878762203253943:=Nat
def tw11189890337720088615:=Nat
def tw14349089067433371257:=Nat
def tw16800595933775061595:=Nat
def tw16068562728529669930:=Nat
def tw2443449257678562572:=Nat
def tw2859833716702649255:=Nat
def tw2770563814800254177:=Nat
def tw3704924817259034979:=Nat
def tw2165817408578904141:=Nat
def tw16759092144687519636:=Nat
def tw16240068400928781132:=Nat
def tw17272798071934308931:=Nat
def tw13432635357386499347:=Nat
def tw10404823597219466188:=Nat
def tw864819663365544661:=Nat
def tw4321519831107876412:=Nat
def tw9178861053002065721:=Nat
def tw2462062305354472974:=Nat
def tw12404371757195491109:=Nat
def tw3696473221133414273:=Nat
def tw13290321428070320777:=Nat
def tw7595965112463008938:=Nat
def tw1123975283337734383:=Nat
def tw8184561461823581802:=Nat
def tw5552270689369575618:=Nat
def tw3995942328266245912:=Nat
def tw18177719399980262173:=Nat
def tw5186518429493523239:=Nat
def tw8435561252592420358:=Nat
def tw5597187220613765494:=Nat
def tw7737320934136571279:=Nat
def tw877433047237710547:=Nat
def tw14390669486469195807:=Nat
def tw370947364307004932:=Nat
def tw8637452081102412489:=Nat
def tw6448850889433096767:=Nat
def tw2758071753971750899:=Nat
def tw1124271682379634556:=Nat
def tw14214649769353832295:=Nat
def tw2596539476470345881:=Nat
def tw4796303294375832693:=Nat
def tw12865423146811077096:=Nat
def tw5571243529121415630:=Nat
def tw1394568958698188020:=Nat
def tw12643520174271941249:=Nat
def tw14297960882044545977:=Nat
def tw4181406029030974548:=Nat
def tw2630061898475652689:=Nat
def tw5303079699428457377:=Nat
def tw3776753064480771068:=Nat
def tw4177254973167742082:=Nat
def tw18394268562011335289:=Nat
def tw11459358961799972967:=Nat
def tw17542608870123051758:=Nat
def tw795583310449317561:=Nat
def tw1040915598704419856:=Nat
def tw12182655422080760471:=Nat
def tw9407396174263392564:=Nat
def tw3422688185749166683:=Nat
def tw8345894832289464959:=Nat
def tw13713866747541496747:=Nat
def tw516228168201391017:=Nat
def tw13120753694373217308:=Nat
def tw4170753273574207180:=Nat
def tw14029182922437419836:=Nat
def tw12210559395081530917:=Nat
def tw11584198869435930015:=Nat
def tw9227057690007400460:=Nat
def tw16155163154822807229:=Nat
def tw6203543418390704334:=Nat
def tw13318506193475082254:=Nat
def tw1988063486488863061:=Nat
def tw16656781636731879198:=Nat
def tw8170299122808406783:=Nat
def tw10187724287525710026:=Nat
def tw5444345374180229054:=Nat
def tw7204998973626084599:=Nat
def tw2985252069258134486:=Nat
def tw372964977893139469:=Nat
def tw7297446738713254254:=Nat
def tw13864677062968915208:=Nat
def tw16736118626332596326:=Nat
def tw4526881389914513428:=Nat
def tw17346259052997144950:=Nat
def tw10399464001100048223:=Nat
def tw5738303106652476479:=Nat
def tw4656485037274611717:=Nat
def tw16196420915677631385:=Nat
def tw2675166985342186458:=Nat
def tw3871027444623705763:=Nat
def tw12643491718579748851:=Nat
def tw5523086135645875356:=Nat
def tw11620634932572840514:=Nat
def tw18034075008235765660:=Nat
def tw8420165910927482534:=Nat
def tw9516688046558066552:=Nat
def tw17494340499879156831:=Nat
def tw6912233166142098652:=Nat
def tw1088946173253831356:=Nat
def tw7913636548009798097:=Nat
def tw9238823003894178615:=Nat
def tw14608685727046917156:=Nat
def tw17135812771915316397:=Nat
def tw15169761463676818070:=Nat
def tw11858546649754279707:=Nat
def tw3315250197877816394:=Nat
def tw17785818512168800811:=Nat
def tw13852830345959847167:=Nat
def tw4159251561096739476:=Nat
def tw5398424786039705171:=Nat
def tw775762912060472103:=Nat
def tw7702549930194098719:=Nat
def tw105208000716104510:=Nat
def tw17953984050398360512:=Nat
def tw2924597203103170677:=Nat
def tw15722756333993289495:=Nat
def tw16793365374058956912:=Nat
def tw4299629679881509495:=Nat
def tw1592229195962567352:=Nat
def tw11582926029173025856:=Nat
def tw11334203419191126389:=Nat
def tw3423177367516475676:=Nat
def tw5155950481276406077:=Nat
def tw3561193834555079511:=Nat
def tw4597200072644226624:=Nat
def tw15542334942015070624:=Nat
def tw9366391650621772374:=Nat
def tw11845233108574324481:=Nat
def tw16526113553464788058:=Nat
def tw1754339480302792767:=Nat
def tw9063741608606530840:=Nat
def tw15349318334595610263:=Nat
def tw4784893810139332661:=Nat
def tw4671429814451907529:=Nat
def tw12318557346453588183:=Nat
def tw18134043772397237400:=Nat
def tw11173010173815179391:=Nat
def tw4213018616267185653:=Nat
def tw1732150942055357024:=Nat
def tw15918733279669447828:=Nat
def tw2047500489365003465:=Nat
def tw13706816188851595723:=Nat
def tw5206643200097340550:=Nat
def tw12526665252758208442:=Nat
def tw6624316729101989866:=Nat
def tw6468107147075657394:=Nat
def tw9601329371697537090:=Nat
def tw908825868028484722:=Nat
def tw6196800358849779857:=Nat
def tw16663787254893796032:=Nat
def tw5088929649169744297:=Nat
def tw16004416686337608138:=Nat
def tw8507776931139520737:=Nat
def tw8672883130414831044:=Nat
def tw3669314199184481253:=Nat
def tw15976228082101565994:=Nat
def tw7799483888651840948:=Nat
def tw16174758807025615021:=Nat
def tw2565563351968343141:=Nat
def tw11430207588045935325:=Nat
def tw10341860258655708415:=Nat
def tw10328360990557673835:=Nat
def tw11765434788231831023:=Nat
def tw297971269722091814:=Nat
def tw3140898538269762758:=Nat
def tw2287823674025257028:=Nat
def tw6127594578889010139:=Nat
def tw8800459187187324500:=Nat
def tw10864713392326063847:=Nat
def tw4571971715460732019:=Nat
def tw1814787853859245837:=Nat
def tw15125931889511115149:=Nat
def tw728428047077509346:=Nat
def tw11159431927160009238:=Nat
def tw14282377253939248939:=Nat
def tw13044034144603486326:=Nat
def tw8810280945414196856:=Nat
def tw4383139521930768336:=Nat
def tw12819366960792805191:=Nat
def tw1321871150748368714:=Nat
def tw18063644159110109576:=Nat
def tw16460436044903216755:=Nat
def tw517144808224063464:=Nat
def tw10252623693936335467:=Nat
def tw12958502747184954254:=Nat
def tw15451780782824253742:=Nat
def tw17594962761535629368:=Nat
def tw14987219478266130788:=Nat
def tw11334350811105764591:=Nat
def tw10448899703829047738:=Nat
def tw14632489290957082403:=Nat
def tw16044733080236030384:=Nat
def tw1551491737661789689:=Nat
def tw10548783162686979305:=Nat
def tw1522322319653140107:=Nat
def tw14142502885225118848:=Nat
def tw575894324575664597:=Nat
def tw13193460572425462058:=Nat
def tw15638586536077026902:=Nat
def tw16007503158450755388:=Nat
def tw1291508964198565346:=Nat
def tw13326734554550294991:=Nat
def tw10317287140990440334:=Nat
def tw3484022092364678248:=Nat
def tw14466935161476858967:=Nat
def tw2685745773621513544:=Nat
def tw13090165191389475591:=Nat
def tw17033825039287860005:=Nat
def tw401921906979044612:=Nat
def tw2731995056826638727:=Nat
def tw12256363837256957063:=Nat
def tw17160434163424456010:=Nat
def tw2145171640123136144:=Nat
def tw5648408011753718230:=Nat
def tw6812286434817487243:=Nat
def tw9334155553566164974:=Nat
def tw3195968871104189447:=Nat
def tw11203750815551599093:=Nat
def tw2732273902793177162:=Nat
def tw17886615442053742456:=Nat
def tw11542710104232473196:=Nat
def tw6292954644110606532:=Nat
def tw16809779246217341487:=Nat
def tw12540527436937284434:=Nat
def tw8363718466572441477:=Nat
def tw17103177528636943170:=Nat
def tw1585457916280141200:=Nat
def tw16509065781470453940:=Nat
def tw3603051052118289896:=Nat
def tw3909029901177050473:=Nat
def tw8560541052185303311:=Nat
def tw5507162329139097715:=Nat
def tw11028086866134049853:=Nat
def tw11922380849998532372:=Nat
def tw314455870634268127:=Nat
def tw788273225186049534:=Nat
def tw6746510453823603384:=Nat
def tw10194810499950245846:=Nat
def tw14671331368771545958:=Nat
def tw13321276293971071309:=Nat
def tw12117888159696746259:=Nat
def tw11323574795504169618:=Nat
def tw3730354652608582461:=Nat
def tw16352630495959832749:=Nat
def tw4250950275838387964:=Nat
def tw4951766788466123468:=Nat
def tw8212240652046128837:=Nat
def tw14697636140705633519:=Nat
def tw14789260269991461300:=Nat
def tw10008474027749305400:=Nat
def tw13001836021917841797:=Nat
def tw9833397302626899308:=Nat
def tw18330144715369815205:=Nat
def tw2782073688633401757:=Nat
def tw390997316461189296:=Nat
def tw17428532607074087071:=Nat
def tw7313339093194340965:=Nat
def tw17795014544551873601:=Nat
def tw13187519465064655849:=Nat
def tw10172462246102229377:=Nat
def tw5790966258338625528:=Nat
def tw13889484949932952446:=Nat
def tw9195894827357321740:=Nat
def tw3297424737477281660:=Nat
def tw342308947776675178:=Nat
def tw7845129631348957993:=Nat
def tw8694864300669457046:=Nat
def tw6919701780365589675:=Nat
def tw6383614241601562808:=Nat
def tw9328819404386307858:=Nat
def tw16674975167109581930:=Nat
def tw9382581127745807760:=Nat
def tw3195522803047326042:=Nat
def tw12342655685612074800:=Nat
def tw11443710868159068359:=Nat
def tw16357309143852133390:=Nat
def tw10774637447528242797:=Nat
def tw9361663168868926718:=Nat
def tw3581848524822189991:=Nat
def tw7830913209206220567:=Nat
def tw2867133514656366558:=Nat
def tw4046864289407762814:=Nat
def tw6189502492464219833:=Nat
def tw5969682004907312646:=Nat
def tw15240379268576122478:=Nat
def tw4131498621145694574:=Nat
def tw14611434983143301774:=Nat
def tw995497684801637723:=Nat
def tw9800703332001039478:=Nat
def tw2287362676942042354:=Nat
def tw6883741973766446791:=Nat
def tw9851269098105209369:=Nat
def tw7204493036743257322:=Nat
def tw13987285891283452908:=Nat
def tw3143785405151724282:=Nat
def tw99440450732166138:=Nat
def tw9913501989792142831:=Nat
def tw7475746777092488413:=Nat
def tw8311017846404947139:=Nat
def tw6438537300738474071:=Nat
def tw1108800333578037850:=Nat
def tw16414630628198896168:=Nat
def tw1492452104121835379:=Nat
def tw17085176360113175178:=Nat
def tw8985709366574770022:=Nat
def tw10801874191123338550:=Nat
def tw13901205277877782832:=Nat
def tw956089473029861405:=Nat
def tw283044589724301:=Nat
def tw602653604445443664:=Nat
def tw18121752080927795069:=Nat
def tw2878843996050045342:=Nat
def tw9723989250521069032:=Nat
def tw2752453847809088016:=Nat
def tw13264354339760550358:=Nat
def tw18008055252877512497:=Nat
def tw14705559076539443318:=Nat
def tw1617357707322924660:=Nat
def tw1147548669246485465:=Nat
def tw8143265674769528471:=Nat
def tw350670483859837877:=Nat
def tw3389129807090800087:=Nat
def tw16120041803238788101:=Nat
def tw3820434133910038737:=Nat
def tw4258143625173308034:=Nat
def tw12507017104952529904:=Nat
def tw2365566498512967660:=Nat
def tw11377482038585738817:=Nat
def tw18245740138792012028:=Nat
def tw12958664272152378060:=Nat
def tw4547018644641229820:=Nat
def tw4166218997396506358:=Nat
def tw1736530178072539846:=Nat
def tw12718909917080609646:=Nat
def tw16659674399394625376:=Nat
def tw8523463495250067690:=Nat
def tw3261557481417251176:=Nat
def tw11334415319851112604:=Nat
def tw1400011881503588481:=Nat
def tw17555251805378815213:=Nat
def tw3120133295221510679:=Nat
def tw15744752440731449612:=Nat
end top
open PySem PySem.W PyProof.Rows PySem.Calls PySem.SeqAt PySem.Spec
set_option maxHeartbeats 0
set_option Elab.async true
set_option tactic.hygienic true
set_option maxRecDepth 512
set_option bootstrap.genMatcherCode true
theorem top : PySem.Challenge.rw_sm0013_01.Holds := by
 w_on
 o_law
 k_head
 case hw => w_witness2
 set_option maxRecDepth 100000 in w_strict (
  k_fill
  intro w s₀ s₁ mg mb G Y fa o pm cd doc dV kV ho hd hcd hD hmg hg args vals as hpre hlay hrd hwl hlo
  have KX:=kIn_of Y
  refine Ground.open G ?_
  intro T B D TE TW
  wrow_args hpre hlay hrd hwl hlo
  refine enter_call ?_
  w_top on
  refine Wv ?zhF KX T hmg ?zhnm (by assumption) (by assumption) (by assumption) hg ?zhr ?zhp
  case zhnm=>intro q;kernel_rfl
  case zhr=>intro cls;rfl
  case zhp=>first | with_unfolding_all rfl | kernel_rfl
  case zhF=>
   intro W hK hp
   refine NP.mk (K5.mk ⟨?zhinit⟩ ?zhec ?zhet ?zheg ?zhkeep ?zhone) ?zhcdx ?zhsys ?zhfld ?zhmeth ?zhglo
   case zhinit=>
    refine' IS.mk _ _ 88 86 73 85 _ _ _ _ _ _ _ _ _ _ _ _ _ _ [] _ _ _ _ _ _ _ _ _ _ _ _ _ _ _ _ _ _ _ ?zhC ?zhN ?zhi ?zhs ?zhc ?zht _ ?zhbody ?zho ?zhcd ?zhcell ?zhcode ?zhvs ?zhfile ?zhtop ?zhsup ?zhany ?zhself ?zsc1 ?zsc2 ?zsc3 ?zsc4 ?zsc5 ?zsk ?zsco ?zsge ?zsce ?zbind1 ?zbind2
    case zhC=>rw[hK];rfl
    case zho=>rw[hK];rfl
    case zhbody=>exact⟨_,_,_,_,_,_,_,_,_,_,_,_,_,_,rfl,rfl⟩
    case zhcell=>rw[hK];rfl
    case zhcode=>rw[hK];rfl
    case zhN=>rw[hK];kernel_rfl
    case zhi=>rw[hK];rfl
    case zhs=>rw[hK];kernel_rfl
    case zhc=>rw[hK];kernel_rfl
    case zht=>rw[hK];kernel_rfl
    case zhcd=>rw[hK];kernel_rfl
    case zhvs=>rfl
    case zhfile=>rw[hp];kernel_rfl
    case zhtop=>rw[hp];kernel_rfl
    case zhsup=>rw[hK];kernel_rfl
    case zhany=>rw[hK];kernel_rfl
    case zhself=>exact⟨_,rfl,rfl⟩
    case zsc1=>kernel_rfl
    case zsc2=>kernel_rfl
    case zsc3=>kernel_rfl
    case zsc4=>kernel_rfl
    case zsc5=>kernel_rfl
    case zsk=>kernel_rfl
    case zsco=>kernel_rfl
    case zsge=>kernel_rfl
    case zsce=>decide+kernel
    case zbind1=>exact fun a b S=>by rw[hK];rfl
    case zbind2=>exact fun a b c S=>by rw[hK];rfl
   case zhec=>rw[hK];exact⟨⟨_,rfl,rfl,rfl⟩,by kernel_rfl,by kernel_rfl⟩
   case zhet=>rw[hK];exact⟨⟨_,rfl,rfl,rfl⟩,by kernel_rfl,by kernel_rfl⟩
   case zheg=>rw[hK];exact⟨⟨_,rfl,rfl⟩,by kernel_rfl,by kernel_rfl,by kernel_rfl,by kernel_rfl⟩
   case zhkeep=>rw[hK];kernel_rfl
   case zhone=>rw[hK];kernel_rfl
   case zhcdx=>
    unfold aC
    refine⟨⟨by kernel_rfl,_,_,by rw[hK];rfl,fun P hP=>?_⟩,⟨by kernel_rfl,_,_,by rw[hK];rfl,fun P hP=>?_⟩,⟨by kernel_rfl,_,_,by rw[hK];rfl,fun P hP=>?_⟩,⟨by kernel_rfl,_,_,by rw[hK];rfl,fun P hP=>?_⟩,trivial⟩
    ·exact .cons (.tup (hP _ (Ep _) (by rw[hK];rfl) (.inl ⟨_,rfl⟩)) rfl rfl (.cons (.int _ _) .nil)) (.cons (.tup (hP _ (Ep _) (by rw[hK];rfl) (.inl ⟨_,rfl⟩)) rfl rfl (.cons (.int _ _) .nil)) (.cons (.tup (hP _ (Ep _) (by rw[hK];rfl) (.inl ⟨_,rfl⟩)) rfl rfl (.cons (.int _ _) (.cons (.int _ _) .nil))) .nil))
    all_goals first | exact .cons (.int _ _) (.cons (.int _ _) (.cons (.int _ _) .nil)) | exact .cons (.int _ _) (.cons (.int _ _) .nil)
   case zhsys=>rw[hK];kernel_rfl
   case zhfld=>rw[hK];kernel_rfl
   case zhmeth=>rw[hK];kernel_rfl
   case zhglo=>
    rw[hK]
    iterate 2 refine dq [] (by kernel_rfl) (by kernel_rfl) (by kernel_rfl) rfl ?_
    refine dq [⟨#[102,111,117,110,100]⟩,⟨#[119,97,105,116,105,110,103]⟩] (by kernel_rfl) (by kernel_rfl) (by kernel_rfl) rfl ?_
    refine dq [] (by kernel_rfl) (by kernel_rfl) (by kernel_rfl) rfl ?_
    refine dq [⟨#[102,111,117,110,100]⟩] (by kernel_rfl) (by kernel_rfl) (by kernel_rfl) rfl ?_
    iterate 23 refine dq [] (by kernel_rfl) (by kernel_rfl) (by kernel_rfl) rfl ?_
    refine⟨⟨[],by kernel_rfl,by kernel_rfl,[_,_,_],fun P ρ=>.cons (.int _ _) (.cons (.int _ _) (.cons (.int _ _) .nil)),by rfl⟩,?_⟩
    iterate 42 refine dq [] (by kernel_rfl) (by kernel_rfl) (by kernel_rfl) rfl ?_
    refine dq [⟨#[119,97,105,116,105,110,103]⟩] (by kernel_rfl) (by kernel_rfl) (by kernel_rfl) rfl ?_
    refine dq [⟨#[97,115,107,101,100]⟩] (by kernel_rfl) (by kernel_rfl) (by kernel_rfl) rfl ?_
    iterate 9 refine dq [] (by kernel_rfl) (by kernel_rfl) (by kernel_rfl) rfl ?_
    iterate 6 refine dq [⟨#[119,101,108,108]⟩] (by kernel_rfl) (by kernel_rfl) (by kernel_rfl) rfl ?_
    iterate 2 refine dq [] (by kernel_rfl) (by kernel_rfl) (by kernel_rfl) rfl ?_
    refine dq [⟨#[102,111,117,110,100]⟩] (by kernel_rfl) (by kernel_rfl) (by kernel_rfl) rfl ?_
    iterate 2 refine dq [] (by kernel_rfl) (by kernel_rfl) (by kernel_rfl) rfl ?_
    refine dq [⟨#[97,115,107,101,100]⟩] (by kernel_rfl) (by kernel_rfl) (by kernel_rfl) rfl ?_
    refine dq [⟨#[119,101,108,108]⟩] (by kernel_rfl) (by kernel_rfl) (by kernel_rfl) rfl ?_
    iterate 4 refine⟨⟨by kernel_rfl,by kernel_rfl,by kernel_rfl,by kernel_rfl⟩,?_⟩
    trivial)
end Mine
theorem PySem.Challenge.cw_sm0013_01_holds : PySem.Challenge.rw_sm0013_01.Holds :=
  Mine.top
