import PyProof.Rows.All
import OpenK.KLine
import PyProof.WalksMore
import PyProof.WalkInts
import PyProof.StrLawsNeg
import PyProof.SliceStr2
import PyProof.Rows.TupAssign
import PyProof.Rows.SortStr
import PyProof.RangeFor
import PyProof.PureInt
import PyProof.DictRoadsH
import PyProof.DictDisplay
import PyProof.DefCall
import PyProof.CompUse
import PyProof.CompFree
import KE.KIntText
import KE.KDictSum
import Open.Line
import Lean
import PySem.Challenge.RW_rh0137_01
set_option maxRecDepth 100000
set_option Elab.async false
set_option tactic.hygienic false
set_option genInjectivity false
set_option genSizeOf false
set_option genCtorIdx false
set_option bootstrap.genMatcherCode false
set_option linter.unusedSimpArgs false
set_option linter.unusedVariables false
open PySem.Str renaming ofString->aa,join->aas
open _root_ renaming List->ab,Option->ae,congrArg->ah,absurd->ay,decide_eq_false->aC,decide_eq_true->aE,of_decide_eq_true->aT,if_pos->aW,if_neg->aZ,or_false->a5,decide_eq_true_eq->ba,Bool->bt,DecidableEq->bD,trivial->bN,beq_iff_eq->bP,forall_eq->cG,decide_eq_decide->dq,beq_self_eq_true->dr,Array->dv,autoParam->dy,String->dA,Decidable->dH,forall_eq_or_imp->aae,beq_eq_false_iff_ne->aaX,decide_eq_true_iff->aa3,Inhabited->aco,if_true->adl,cond_false->aec,if_false->aez,False->afz,Unit->agO
open List renaming mem_cons->af,mem_map->ag,not_mem_nil->ai,length_map->ak,length_append->ao,prefix_refl->aq,map_cons->ar,getElem?_eq_getElem->aw,mem_cons_of_mem->ax,all_eq_true->aA,map_append->aD,mem_cons_self->aF,getElem?_eq_some_iff->aG,mem_append->aJ,map_map->aK,append_nil->aL,mem_append_right->aN,mem_filter->aO,casesOn->aS,getElem?_append_left->aU,length_filter_le->aX,pairwise_cons->a6,nodup_cons->a7,nodup_append->a8,length_cons->bf,getElem?_append_right->bk,mem_append_left->bl,length->bq,lookup_cons->br,mem_singleton->bu,range->bz,append_assoc->bA,forall_mem_cons->bC,map_nil->bF,map_congr_left->bG,replicate->bL,length_nil->bQ,set_append_right->bT,pairwise_map->bU,getElem?_map->bV,flatMap_append->b4,getElem?_eq_none->b6,zip_cons_cons->cg,pairwise_singleton->cj,mem_flatMap->cu,flatMap_cons->cB,filter_append->cL,find?_cons->cR,filter_cons->cV,length_drop->du,any_eq_true->dw,lookup_append->dC,range_eq_range'->aaa,mem_of_getElem?->aab,mem_of_find?_eq_some->aac,getElem_mem->aaf,flatMap_nil->aag,forIn_cons->aam,map->aap,length_take_of_le->aav,length_pos_of_mem->aaw,filter_eq_nil_iff->aax,range'->aaA,lookup->aaC,take_append_drop->aaI,cons_append->aaL,pairwise_append->aaM,mem_iff_getElem->aaN,zip_append->aaR,getElem?_concat_length->aaW,filter_sublist->aaY,getElem?_take->aa4,take_left->aa7,map_eq_singleton_iff->aa8,pairwise_iff_getElem->aa9,flatten_cons->abe,length_erase_of_mem->abg,Nodup->abh,length_range->abj,getElem?_replicate->abm,length_eq_zero_iff->abp,getElem?_set_self->abA,drop_eq_nil_of_le->abB,take_of_length_le->abC,range_succ_eq_map->abD,singleton_append->abO,find?_some->abP,mem_erase_of_ne->ab3,getElem?_set_ne->ab4,nodup_nil->ab6,mem_range->ab7,flatten_append->ab9,filter_eq_self->aca,toList_toArray->acb,map_inj_left->acI,size_toArray->acJ,cons_eq_cons->acO,append_cons->acW,mem_reverse->acX,mem_flatten->ac0,flatMap_def->ac2,of_mem_zip->ac9,filter_map->ada,length_set->ade,drop_left->adx,any_cons->aeh,all_map->ae7,take->afb,map_id->agf,filter->agr
open Nat renaming lt_of_le_of_lt->aj,le_trans->au,le_add_right->aH,le_refl->aV,le_of_ble_eq_true->bo,zero_le->bB,lt_trans->bM,eq_of_beq_eq_true->bR,zero_add->bS,lt_of_lt_of_le->bY,le_of_eq->bZ,mul_le_mul_right->cq,ne_of_lt->ct,add_le_add_left->cw,lt_irrefl->cN,mod_two_eq_zero_or_one->cS,succ_ne_zero->cT,lt_succ_self->cW,exists_eq_add_one_of_ne_zero->cZ,le_of_lt_succ->c8,le_add_left->de,lt_or_ge->df,le_succ->dp,beq->aah,not_lt->aai,ne_of_gt->aak,add_comm->aal,le_antisymm->aan,add_right_comm->aao,add_assoc->aat,le_succ_of_le->aaz,lt_trichotomy->aaB,add_le_add->aaD,le_of_lt->aaH,succ->aa2,lt_succ_of_le->abb,lt_succ_of_lt->abd,succ_le_succ->aby,add_le_add_right->ab2,sub_lt_sub_left->acf,mul_le_mul_left->acg,sub_add_cancel->acm,beq_refl->acS,zero_lt_succ->ac1,blt_eq->adU,mod_lt->adZ,not_le->ad6,lt_asymm->aeV,ble->aga
open PySem renaming Value->al,wpAny_bind->aB,Shared->aM,model->aP,wpAny_pure->aQ,wpAny->aR,sizeLine->bg,Params->bp,Around->bI,World->bO,Addr->b5,Scope->b7,mainGlobals->cx,wpAny_mono->cy,eval->cE,sysModules->cI,DictEntry->cM,compareOp->cY,starEach->c4,callEnvC->c6,getMethod_builtin->c7,sizeLine_eq->dj,wpAny_Constant_int->dB,Operator->dD,wpAny_Call_Name_kw->dE,wpAny_standAt->aaq,isTrue->aau,getMethod->aaG,wpAny_call_entry->aaK,wpAny_holding->aaP,assignEach->aaQ,swapsWith->aaS,wpAny_specialOf->aaV,cellsFrom->aaZ,backTo->aa5,wpAny_assign_Name->abk,wpAny_list_append_plain->abq,wpAny_items_cons->abv,wpAny_forIn_list->abz,cLine->abF,letOwnedTupleGo->abG,codeAny->abL,wpAny_items_nil->abR,wpAny_call->abW,cStatics->abY,builtinsNs->ab0,Result->ab8,wpAny_Constant_none->acd,wpAny_UnaryOp->aci,wpAny_tupleItemsOf->ack,seqIndex?->acn,evalPart_some->acs,wpAny_Assign_Name->acx,wpAny_truthy_bool->acC,wpAny_truthy_list->acD,wpAny_pyIter_list->acE,eqIsQuiet_byValue->acG,wpAny_eqBool_str->acV,wpAny_pyHash_int->acY,wpAny_pyHash_str->ac3,NameKind->ac7,sliceBounds->adb,slicePicked->adf,SubscriptOn->adh,exec->adP,denote->adQ,truthy->adS,reduceHash->adV,typeIs_str->ad0,call_meets->ad8,step->aeb,spliced->aej,relabel->aek,getItem->aem,storedH->aeA,valueAt->aeE,binaryOp->aeG,getAttr->aeH,atKey->ae5,CmpOp->afg,assign->afi,stored->afm,bindL->agx,bindC->agA,Stmt->aho
open Bool renaming and_eq_true->aI,casesOn->aY,and_eq_true_iff->bX,eq_iff_iff->b9,false_ne_true->cH,or_eq_true_iff->dm,or_eq_true->dG,noConfusion->aaJ,or_eq_false_iff->aaO,false_eq_true->aa6,or_true->acQ,and_true->aew
open Function renaming comp_def->a9,comp_apply->ace
open Int renaming ofNat_lt->bh,ofNat_inj->bW,natCast_nonneg->cK,fmod_eq_emod_of_nonneg->dJ,ofNat_le->abT,fmod->abV,toNat_natCast->acH,not_lt->acL,le_trans->acR,add_comm->ae8,lt_trans->afy,fdiv->agV
open Option renaming bind_some->bj,bind->ck,map_eq_some_iff->cv,casesOn->cC,map->cJ,rec->c9,isSome_iff_exists->dc,eq_none_iff_forall_ne_some->aar,bind_eq_some_iff->abo,map_some->abJ,any_some->abS,any->ahT
open List.cons renaming inj->bx,injEq->abU
open ForInStep renaming yield->bH
open Option.some renaming inj->bJ
open PySem.Builtin.Tuple renaming tupleHashOf->bK,tupleItemsOf->aa0
open PySem.Builtin.Str renaming strSliceIndices->b8,occurrences->cO
open PySem.NameKind renaming free->cn,cell->acw
open List.Pairwise renaming filter->cp,imp_of_mem->da,imp->dI,map->ahQ
open Array renaming length_toList->cz,getElem?_toList->dF,any_toList->abw,forIn_toList->acv,size_append->acz,toList_push->acK,size_push->adj
open PySem.Builtin renaming bitAnd->cD
open Int.ofNat renaming inj->cP
open And renaming imp_left->cQ
open PySem.W renaming boot_drawn->cU,instObj->dz,boot_heap->aad,emptyDict->aaF,given->aaT,findIn->abt,dictOf->abK,ReadsAllW->abQ,boot_o_0->ab1,KeysNamed->acr,namesBound->acN,staticsOk->adg,keepIn->ad9,absHeap->aef,handedIn->aeu,laidKept->aeD
open PySem.Operator renaming Mod->cX,casesOn->abu
open Nat.succ renaming inj->aaj
open PySem.F renaming slot_tuple_hash->aay,plainAttrs_list->aba,slot_dict_get->abH,slot_tuple_index->acj,slot_list_extend->acu,args_dict_get_3->acB,entry_dict_get->acT,slot_list_pop->adk,slot_str_join->adn
open PySem.PyData renaming keyHash->aaE
open PySem.Sem renaming wp_mono->aaU,wp_bind'->aft
open PyProof.Rows renaming getItem_tuple->aa1,pow_int_small->adp,floordiv_int->adz,getItem_str->ad4,len_tuple->aeQ,mod_int->afA,and_int->afC,add_int->afH,add_str->afL,mul_int->afN,sub_int->afR,lt_int->agd,gt_int->agq,ge_int->ags,in_str->agy,le_int->agB
open PySem.W.WData renaming int->abc,bool->acy
open PySem.Env renaming kindOf->abf
open PySem.Value renaming str->abi,none->abX,isStrOf_shape->ach,isInt_shape->acM,isStrOf->aei
open PySem.Builtin.Range renaming rangeSize->abl,small->agv
open Ne renaming symm->abn
open PySem.Value.ref renaming inj->abr
open List.Sublist renaming map->abx
open PySem.Arguments renaming mk->abI
open PySem.W.WShape renaming hasItems->abM
open Classical renaming choose_spec->abN,choose->ac4
open Std.Legacy.Range renaming forIn_eq_forIn_range'->abZ,size->afd
open PySem.Calls renaming Name_function_global->ab5
open List.Nodup renaming sublist->acp
open PySem.SeqAt renaming EqAt->acq
open PySem.W.ReadsAllW renaming casesOn->acA
open PySem.CmpOp renaming Eq->ac5,NotIn->af5
open PySem.Pin renaming globalOf_eq->adi
open PySem.Builtin.List renaming listTooLong->adT
open PySem.Obj renaming mapSeq->ad7
open PySem.Value.int renaming inj->aee
open PySem.Value.str renaming inj->ael
open PySem.SeqAt.EqAt renaming int_str->afe,int_int->afh,str_int->afn,str_str->afw
open PySem.Expr renaming casesOn->afq
open Prod.mk renaming inj->agu
open PySem.Walks renaming list->ahH
open PUnit renaming unit->ahN
noncomputable section
namespace Mine
section
universe u v w x
theorem ec{P:Prop}{a:b}(h:none=some a):P:=nomatch h
theorem TL{P:Prop}{a:b}(h:some a=none):P:=nomatch h
theorem fO{P:Prop}(h:false=true):P:=nomatch h
theorem TU{P:Prop}(h:true=false):P:=nomatch h
theorem xh{b:Type u}{c:Prop}{o:ae b}{f:b->ae d}(h:o.bind f=some r)(k:∀a,o=some a->f a=some r->c):c:=match o,h,k with|some a,h,k=>k a rfl h
theorem jV{d:Type u}{e:Type v}{g:Prop}{o:ae (d×c)}{f:d×c->ae e}{r:e}(h:o.bind f=some r)(k:∀a b,o=some (a,b)->f (a,b)=some r->g):g:=match o,h,k with|some (a,b),h,k=>k a b rfl h
theorem W3{g:Type u}{d:Type w}{i:Type v}{j:Prop}{o:ae (g×d×e)}{f:g×d×e->ae i}{r:i}(h:o.bind f=some r)(k:∀a b c,o=some (a,b,c)->f (a,b,c)=some r->j):j:=match o,h,k with|some (a,b,c),h,k=>k a b c rfl h
theorem kg{b:Type u}{c:Prop}{o:ae b}{f:b->d}(h:o.map f=some r)(k:∀a,o=some a->f a=r->c):c:=match o,h,k with|some a,h,k=>k a rfl (bJ h)
theorem yr{d:Type u}{e:Type v}{g:Prop}{o:ae (d×c)}{f:d×c->e}{r:e}(h:o.map f=some r)(k:∀a b,o=some (a,b)->f (a,b)=r->g):g:=match o,h,k with|some (a,b),h,k=>k a b rfl (bJ h)
theorem if1{b:Type u}{d:Prop}{c:Prop}[dH c]{o:ae b}{r:b}(h:(if c then o else none)=some r)(k:c->o=some r->d):d:=if e:c then k e ((aW e).symm.trans h)else ec ((aZ e).symm.trans h)
theorem To{b:Type u}{d:Prop}{c:Prop}[dH c]{o:ae b}{r:b}(h:(if c then none else o)=some r)(k:¬c->o=some r->d):d:=if e:c then ec ((aW e).symm.trans h)else k e ((aZ e).symm.trans h)
theorem lK{b:Prop}(h:c/\d)(k:c->d->b):b:=k h.1 h.2
theorem pn{b:Prop}(h:c/\d/\e)(k:c->d->e->b):b:=lK h.2 (k h.1)
theorem CH{b:Prop}(h:c/\d/\e/\f)(k:c->d->e->f->b):b:=pn h.2 (k h.1)
theorem TV{b:Prop}(h:c/\d/\e/\f/\g)(k:c->d->e->f->g->b):b:=CH h.2 (k h.1)
theorem Xo{b:Prop}(h:c/\d/\e/\f/\g/\i)(k:c->d->e->f->g->i->b):b:=TV h.2 (k h.1)
theorem Vs{b:Prop}(h:c/\d/\e/\f/\g/\i/\j)(k:c->d->e->f->g->i->j->b):b:=Xo h.2 (k h.1)
theorem Yq{b:Prop}(h:c/\d/\e/\f/\g/\i/\j/\l)(k:c->d->e->f->g->i->j->l->b):b:=Vs h.2 (k h.1)
theorem nH{b:A->Prop}{c:Prop}(h:∃a,b a)(k:∀a,b a->c):c:=h.elim λa h=>k a h
theorem d9{b c:A->Prop}{d:Prop}(h:∃a,b a/\c a)(k:∀a,b a->c a->d):d:=h.elim λa h=>lK h (k a)
theorem j7{b c d:A->Prop}{e:Prop}(h:∃a,b a/\c a/\d a)(k:∀a,b a->c a->d a->e):e:=h.elim λa h=>pn h (k a)
theorem BC{b c d e:A->Prop}{f:Prop}(h:∃a,b a/\c a/\d a/\e a)(k:∀a,b a->c a->d a->e a->f):f:=h.elim λa h=>CH h (k a)
theorem Ri{b c d e f:A->Prop}{g:Prop}(h:∃a,b a/\c a/\d a/\e a/\f a)(k:∀a,b a->c a->d a->e a->f a->g):g:=h.elim λa h=>TV h (k a)
theorem Sq{b c d e f g:A->Prop}{i:Prop}(h:∃a,b a/\c a/\d a/\e a/\f a/\g a)(k:∀a,b a->c a->d a->e a->f a->g a->i):i:=h.elim λa h=>Xo h (k a)
theorem h!{b c d e f g i:A->Prop}{j:Prop}(h:∃a,b a/\c a/\d a/\e a/\f a/\g a/\i a)(k:∀a,b a->c a->d a->e a->f a->g a->i a->j):j:=h.elim λa h=>Vs h (k a)
theorem ZA{b c d e f g i j:A->Prop}{l:Prop}(h:∃a,b a/\c a/\d a/\e a/\f a/\g a/\i a/\j a)(k:∀a,b a->c a->d a->e a->f a->g a->i a->j a->l):l:=h.elim λa h=>Yq h (k a)
theorem QL{A:Sort u}{c:A->B->Prop}{d:Prop}(h:∃a b,c a b)(k:∀a b,c a b->d):d:=h.elim λa h=>nH h (k a)
theorem mn{A:Sort u}{c d:A->B->Prop}{e:Prop}(h:∃a b,c a b/\d a b)(k:∀a b,c a b->d a b->e):e:=h.elim λa h=>d9 h (k a)
theorem iL{A:Sort u}{c d e:A->B->Prop}{f:Prop}(h:∃a b,c a b/\d a b/\e a b)(k:∀a b,c a b->d a b->e a b->f):f:=h.elim λa h=>j7 h (k a)
theorem jt{A:Sort u}{c d e f:A->B->Prop}{g:Prop}(h:∃a b,c a b/\d a b/\e a b/\f a b)(k:∀a b,c a b->d a b->e a b->f a b->g):g:=h.elim λa h=>BC h (k a)
theorem C5{A:Sort u}{c d e f g:A->B->Prop}{i:Prop}(h:∃a b,c a b/\d a b/\e a b/\f a b/\g a b)(k:∀a b,c a b->d a b->e a b->f a b->g a b->i):i:=h.elim λa h=>Ri h (k a)
theorem Uq{A:Sort u}{c d e f g i:A->B->Prop}{j:Prop}(h:∃a b,c a b/\d a b/\e a b/\f a b/\g a b/\i a b)(k:∀a b,c a b->d a b->e a b->f a b->g a b->i a b->j):j:=h.elim λa h=>Sq h (k a)
theorem XI{A:Sort u}{B:Sort v}{d:A->B->C->Prop}{e:Prop}(h:∃a b c,d a b c)(k:∀a b c,d a b c->e):e:=h.elim λa h=>QL h (k a)
theorem SY{A:Sort u}{B:Sort v}{d e:A->B->C->Prop}{f:Prop}(h:∃a b c,d a b c/\e a b c)(k:∀a b c,d a b c->e a b c->f):f:=h.elim λa h=>mn h (k a)
theorem Wz{A:Sort u}{B:Sort v}{d e f:A->B->C->Prop}{g:Prop}(h:∃a b c,d a b c/\e a b c/\f a b c)(k:∀a b c,d a b c->e a b c->f a b c->g):g:=h.elim λa h=>iL h (k a)
theorem ZF{A:Sort u}{B:Sort v}{d e f g:A->B->C->Prop}{i:Prop}(h:∃a b c,d a b c/\e a b c/\f a b c/\g a b c)(k:∀a b c,d a b c->e a b c->f a b c->g a b c->i):i:=h.elim λa h=>jt h (k a)
theorem Uv{A:Sort u}{B:Sort v}{d e f g i:A->B->C->Prop}{j:Prop}(h:∃a b c,d a b c/\e a b c/\f a b c/\g a b c/\i a b c)(k:∀a b c,d a b c->e a b c->f a b c->g a b c->i a b c->j):j:=h.elim λa h=>C5 h (k a)
theorem Sy{A:Sort u}{B:Sort v}{d e f g i j:A->B->C->Prop}{l:Prop}(h:∃a b c,d a b c/\e a b c/\f a b c/\g a b c/\i a b c/\j a b c)(k:∀a b c,d a b c->e a b c->f a b c->g a b c->i a b c->j a b c->l):l:=h.elim λa h=>Uq h (k a)
theorem Zu{A:Sort u}{B:Sort v}{C:Sort w}{e f:A->B->C->D->Prop}{g:Prop}(h:∃a b c d,e a b c d/\f a b c d)(k:∀a b c d,e a b c d->f a b c d->g):g:=h.elim λa h=>SY h (k a)
theorem ZJ{A:Sort u}{B:Sort v}{C:Sort w}{e f g:A->B->C->D->Prop}{i:Prop}(h:∃a b c d,e a b c d/\f a b c d/\g a b c d)(k:∀a b c d,e a b c d->f a b c d->g a b c d->i):i:=h.elim λa h=>Wz h (k a)
theorem VU{A:Sort u}{B:Sort v}{C:Sort w}{e f g i:A->B->C->D->Prop}{j:Prop}(h:∃a b c d,e a b c d/\f a b c d/\g a b c d/\i a b c d)(k:∀a b c d,e a b c d->f a b c d->g a b c d->i a b c d->j):j:=h.elim λa h=>ZF h (k a)
theorem Xp{A:Sort u}{B:Sort v}{C:Sort w}{e f g i j:A->B->C->D->Prop}{l:Prop}(h:∃a b c d,e a b c d/\f a b c d/\g a b c d/\i a b c d/\j a b c d)(k:∀a b c d,e a b c d->f a b c d->g a b c d->i a b c d->j a b c d->l):l:=h.elim λa h=>Uv h (k a)
theorem Z7{A:Sort u}{B:Sort v}{C:Sort w}{e f g i j l:A->B->C->D->Prop}{m:Prop}(h:∃a b c d,e a b c d/\f a b c d/\g a b c d/\i a b c d/\j a b c d/\l a b c d)(k:∀a b c d,e a b c d->f a b c d->g a b c d->i a b c d->j a b c d->l a b c d->m):m:=h.elim λa h=>Sy h (k a)
theorem Yf{A:Sort u}{B:Sort v}{C:Sort w}{E:Sort u}{f g:A->B->C->D->E->Prop}{i:Prop}(h:∃a b c d e,f a b c d e/\g a b c d e)(k:∀a b c d e,f a b c d e->g a b c d e->i):i:=h.elim λa h=>Zu h (k a)
theorem Zj{A:Sort u}{B:Sort v}{C:Sort w}{E:Sort u}{f g i j:A->B->C->D->E->Prop}{l:Prop}(h:∃a b c d e,f a b c d e/\g a b c d e/\i a b c d e/\j a b c d e)(k:∀a b c d e,f a b c d e->g a b c d e->i a b c d e->j a b c d e->l):l:=h.elim λa h=>VU h (k a)
theorem Xz{A:Sort u}{B:Sort v}{C:Sort w}{E:Sort u}{f g i j l:A->B->C->D->E->Prop}{m:Prop}(h:∃a b c d e,f a b c d e/\g a b c d e/\i a b c d e/\j a b c d e/\l a b c d e)(k:∀a b c d e,f a b c d e->g a b c d e->i a b c d e->j a b c d e->l a b c d e->m):m:=h.elim λa h=>Xp h (k a)
theorem QD{b:A->Prop}(a:A)(c:b a):∃a,b a:=⟨a,c⟩
theorem i12{b c:A->Prop}(a:A)(d:b a)(e:c a):∃a,b a/\c a:=⟨a,d,e⟩
theorem Ps{b c d:A->Prop}(a:A)(e:b a)(f:c a)(g:d a):∃a,b a/\c a/\d a:=⟨a,e,f,g⟩
theorem Vx{b c d e:A->Prop}(a:A)(f:b a)(g:c a)(i:d a)(j:e a):∃a,b a/\c a/\d a/\e a:=⟨a,f,g,i,j⟩
theorem Xi{b c d e f g:A->Prop}(a:A)(i:b a)(j:c a)(k:d a)(l:e a)(m:f a)(o:g a):∃a,b a/\c a/\d a/\e a/\f a/\g a:=⟨a,i,j,k,l,m,o⟩
theorem jR{A:Sort u}{c:A->B->Prop}(a:A)(b:B)(d:c a b):∃a b,c a b:=⟨a,b,d⟩
theorem xA{A:Sort u}{c d:A->B->Prop}(a:A)(b:B)(e:c a b)(f:d a b):∃a b,c a b/\d a b:=⟨a,b,e,f⟩
theorem Dg{A:Sort u}{c d e:A->B->Prop}(a:A)(b:B)(f:c a b)(g:d a b)(i:e a b):∃a b,c a b/\d a b/\e a b:=⟨a,b,f,g,i⟩
theorem rh{A:Sort u}{c d e f:A->B->Prop}(a:A)(b:B)(g:c a b)(i:d a b)(j:e a b)(k:f a b):∃a b,c a b/\d a b/\e a b/\f a b:=⟨a,b,g,i,j,k⟩
theorem Q7{A:Sort u}{c d e f g:A->B->Prop}(a:A)(b:B)(i:c a b)(j:d a b)(k:e a b)(l:f a b)(m:g a b):∃a b,c a b/\d a b/\e a b/\f a b/\g a b:=⟨a,b,i,j,k,l,m⟩
theorem YW{A:Sort u}{c d e f g i:A->B->Prop}(a:A)(b:B)(j:c a b)(k:d a b)(l:e a b)(m:f a b)(o:g a b)(p:i a b):∃a b,c a b/\d a b/\e a b/\f a b/\g a b/\i a b:=⟨a,b,j,k,l,m,o,p⟩
theorem MM{A:Sort u}{B:Sort v}{d:A->B->C->Prop}(a:A)(b:B)(c:C)(e:d a b c):∃a b c,d a b c:=⟨a,b,c,e⟩
theorem YV{A:Sort u}{B:Sort v}{d e:A->B->C->Prop}(a:A)(b:B)(c:C)(f:d a b c)(g:e a b c):∃a b c,d a b c/\e a b c:=⟨a,b,c,f,g⟩
theorem Yv{A:Sort u}{B:Sort v}{d e f:A->B->C->Prop}(a:A)(b:B)(c:C)(g:d a b c)(i:e a b c)(j:f a b c):∃a b c,d a b c/\e a b c/\f a b c:=⟨a,b,c,g,i,j⟩
theorem VS{A:Sort u}{B:Sort v}{C:Sort w}{e:A->B->C->D->Prop}(a:A)(b:B)(c:C)(d:D)(f:e a b c d):∃a b c d,e a b c d:=⟨a,b,c,d,f⟩
theorem Zh{A:Sort u}{B:Sort v}{C:Sort w}{e f g:A->B->C->D->Prop}(a:A)(b:B)(c:C)(d:D)(i:e a b c d)(j:f a b c d)(k:g a b c d):∃a b c d,e a b c d/\f a b c d/\g a b c d:=⟨a,b,c,d,i,j,k⟩
theorem Ze{A:Sort u}{B:Sort v}{C:Sort w}{E:Sort u}{f:A->B->C->D->E->Prop}(a:A)(b:B)(c:C)(d:D)(e:E)(g:f a b c d e):∃a b c d e,f a b c d e:=⟨a,b,c,d,e,g⟩
@[elab_as_elim]theorem so{b:Type}{a r:b}{P:b->Prop}(h:some a=some r)(k:P a):P r:=bJ h▸k
theorem or3{P:Prop}(h:a\/b\/c)(d:a->P)(e:b->P)(f:c->P):P:=h.elim d λh=>h.elim e f
theorem kE{a:b}(h:x∈[a]):x=a:=bu.mp h
theorem QI{b:c}(h:x∈[a,b]):x=a\/x=b:=(af.mp h).imp id kE
theorem Zl{c:d}(h:x∈[a,b,c]):x=a\/x=b\/x=c:=(af.mp h).imp id QI
theorem XD{d:e}(h:x∈[a,b,c,d]):x=a\/x=b\/x=c\/x=d:=(af.mp h).imp id Zl
theorem ZM{e:f}(h:x∈[a,b,c,d,e]):x=a\/x=b\/x=c\/x=d\/x=e:=(af.mp h).imp id XD
theorem W5{f:g}(h:x∈[a,b,c,d,e,f]):x=a\/x=b\/x=c\/x=d\/x=e\/x=f:=(af.mp h).imp id ZM
theorem sI{b:c}(h:some a=some b):a=b:=bJ h
theorem pJ{e:Type u}{a c:e}{d:f}(h:(a,b)=(c,d)):a=c/\b=d:=agu h
theorem CF{e:Type u}{a c:e}{d:f}(h:some (a,b)=some (c,d)):a=c/\b=d:=pJ (sI h)
theorem Wo{g:Type u}{i:Type v}{a c:g}{b d:i}{f:j}(h:some (a,b,e)=some (c,d,f)):a=c/\b=d/\e=f:=⟨(CF h).1,pJ (CF h).2⟩
@[elab_as_elim]theorem sZ{c:Sort u}{a b:c}{P:c->Prop}(h:a=b)(k:P a):P b:=h▸k
@[elab_as_elim]theorem sY{c:Sort u}{a b:c}{P:c->Prop}(h:a=b)(k:P b):P a:=h▸k
@[elab_as_elim]theorem sP{e:Type u}{f:Type v}{a c:e}{b d:f}{P:e->f->Prop}(h:some (a,b)=some (c,d))(k:P a b):P c d:=(CF h).1▸(CF h).2▸k
@[elab_as_elim]theorem sQ{g:Type u}{i:Type v}{j:Type w}{a c:g}{b d:i}{e f:j}{P:g->i->j->Prop}(h:some (a,b,e)=some (c,d,f))(k:P a b e):P c d f:=(Wo h).1▸(Wo h).2.1▸(Wo h).2.2▸k
theorem hd{G:Prop}(f:∀b:Prop,(G->b)->b):G:=f G id
theorem kr{P:Prop}{a:b}(h:a∈[]):P:=nomatch h
theorem xc{P:Prop}(f:c->Nat)(h:a=b)(e:(f a).beq (f b)=false):P:=TU ((acS (f a)).symm.trans (ah (λx=>(f a).beq (f x)) h|>.trans e))
theorem xo{P:Prop}(f:c->Nat)(h:some a=some b)(e:(f a).beq (f b)=false):P:=xc f (sI h) e
theorem xn{P:Prop}{l:ab b}(h:[]=a::l):P:=nomatch h
theorem xN{P:Prop}{l:ab b}(h:a::l=[]):P:=nomatch h
theorem eL{m:ab b}(h:l=m)(k:a∈m):a∈l:=h▸k
end
end Mine
end
noncomputable section
open PySem PySem.W
namespace Mine
structure St where
 t:BT
 n:Nat
 tk:Nat
noncomputable def ox(s:St)(a:b5):ae Obj:=@Bool.rec (λ_=>ae Obj) none (@c9 Obj (λ_=>ae Obj) none alive (s.t.get a)) (aga (aa2 a) s.n)
noncomputable abbrev Res(b:Type):=ae (Except al b×Pos×St)
noncomputable def FV(s:St)(o:Obj):ae St:=@c9 Obj (λ_=>ae St) none (λ_=>some ⟨s.t.ins s.n o,aa2 s.n,s.tk⟩) ((s.t.ins s.n o).get s.n)
noncomputable def ev(N:Setting)(R:Ctx->Pos->St->ae (ab8×St))(d:Ctx){b:Type}(x:Sem b):Pos->St->Res b:=@Sem.rec b (λ_=>Pos->St->Res b) (λa p s=>some (.ok a,p,s)) (λe p s=>some (.error e,p,s)) (λ_ _ _=>none) (λ_ _ _=>none) (λ_ _ ih p s=>ih () p s) (λp' _ ih _ s=>ih () p' s) (λa _ _ ih p s=>@c9 Obj (λ_=>Res b) none (λo=>ih o p s) (ox s a)) (λa _ f _ ih p s=>@c9 Obj (λ_=>Res b) none (λ_=>ih () p ⟨s.t.set a f,s.n,s.tk⟩) (ox s a)) (λo _ ih p s=>@c9 St (λ_=>Res b) none (λs'=>ih s.n p s') (FV s o)) (λa _ ih p s=>@c9 Obj (λ_=>Res b) none (λo=>ih (some o) p s) (ox s a)) (λ_ _ ih p s=>ih () p s) (λ_ _ _ _ _=>none) (λ_ ih p s=>ih s.tk p ⟨s.t,s.n,aa2 s.tk⟩) (λ_ ih p s=>ih N p s) (λ_ _ _ _ _ _=>none) (λ_ _ _ _ _ _=>none) (λc h _ _ _ ih p s=>@c9 (ab8×St) (λ_=>Res b) none (λr=>ih r.1 p r.2) (R (d.enter c h p) p s)) (λI _ ih p s=>ih (match I with|true=>d.own|false=>d.handled) p s) (λ_ _ _ _ _=>none) (λ_ _ _ _ _=>none) (λ_ _ _ _ _ _ _=>none) (λ_ _ _ _ _ _ _=>none) (λ_ ih p s=>ih ((d.code,p)::d.below) p s) (λ_ _ _ _ _=>none) (λ_ ih p s=>ih 0 p s) (λ_ _ _ _ _ _ _ _=>none) x
noncomputable def Js(N:Setting)(den:Code->Sem Fin)(n:Nat):Ctx->Pos->St->ae (ab8×St):=@Nat.rec (λ_=>Ctx->Pos->St->ae (ab8×St)) (λ_ _ _=>none) (λ_ ih b p s=>match ev N ih b (den b.code) p s with|none=>none|some r=>match r.1with|.error e=>some (.error e,r.2.2)|.ok (.done f)=>some (.ok f,r.2.2)|.ok (.again c)=>match c.quiet with|true=>ih (b.goto c) r.2.1 r.2.2|false=>none) n
structure NP where
 life:Life
 gens:dv GenState
 drawn:Drawn
 os:OsState
noncomputable def abs(s:St)(c:NP):aM:=⟨aef s.t s.n c.life,c.gens,c.drawn,s.tk,c.os⟩
theorem ly(h:ox s a=some o):a<s.n/\s.t.get a=some o/\(abs s c).heap.get? a=some o:=by
 unfold ox at h;cases d:aga (aa2 a) s.n with
 |false=>rw[d]at h;exact ec h|true=>
  simp only[d]at h;have g:a<s.n:=bo d;cases f:s.t.get a with
  |none=>rw[f]at h;exact ec h|some i=>
   rw[f]at h;have b:alive i=some o:=h;have e:i=o:=by
    revert b;unfold alive;clear h;split;.intro b;exact ec b
    .intro b;exact bJ b
   refine sY e ?_;exact⟨g,rfl,by show(aef s.t s.n c.life).get? a=_;rw[abs_get g f];exact b⟩
theorem CS(h:FV s o=some s'):abs s' c={abs s c with heap:=(abs s c).heap.push o}/\(abs s c).heap.objs.size=s.n:=by unfold FV at h;cases b:(s.t.ins s.n o).get s.n with|none=>rw[b]at h;exact ec h|some x=>rw[b]at h;have d:some (⟨s.t.ins s.n o,aa2 s.n,s.tk⟩:St)=some s':=h;clear h;refine so d ?_;refine⟨?_,absHeap_size ..⟩;show(⟨aef (s.t.ins s.n o) (s.n+1) c.life,c.gens,c.drawn,s.tk,c.os⟩:aM)=_;rw[absHeap_ins (by rw[b];rfl)];rfl
section
variable{M:Model}{N:Setting}{R:Ctx->Pos->St->ae (ab8×St)}{Γ:Ctx}{C:NP}
theorem M5(z:N=⟨M.prog,M.w.params⟩)(m:∀Γ p s r s',R Γ p s=some (r,s')->wpCode M Γ (λG H=>G=r/\H=abs s' C) p (abs s C)):∀(x:Sem i)(p:Pos)(s:St)(r:Except al i)(p':Pos)(s':St),ev N R Γ x p s=some (r,p',s')->Sem.wp M Γ x (λa q S=>r=.ok a/\q=p'/\S=abs s' C) (λe q S=>r=.error e/\q=p'/\S=abs s' C) p (abs s C):=by
 intro x;induction x with
 |pure a=>intro p s r p' s' h;refine sQ h ?_;exact⟨rfl,rfl,rfl⟩|raise e=>intro p s r p' s' h;refine sQ h ?_;exact⟨rfl,rfl,rfl⟩|unsupported _=>intro p s r p' s' h;exact ec h|finish _=>intro p s r p' s' h;exact ec h|rule _ k ih=>intro p s r p' s' h;exact ih () p s r p' s' h|«at»q k ih=>intro p s r p' s' h;exact ih () q s r p' s' h|load a j k ih=>intro p s r p' s' h;have b:@c9 Obj (λ_=>Res i) none (λo=>ev N R Γ (k o) p s) (ox s a)=some (r,p',s'):=h;cases d:ox s a with|none=>rw[d]at b;exact ec b|some o=>rw[d]at b;exact i12 o ((ly d).2.2) (ih o p s r p' s' b)
 |update a j f k ih=>
  intro p s r p' s' h;refine(let E:Prop:=_;(?_:E));have b:@c9 Obj (λ_=>Res i) none (λ_=>ev N R Γ (k ()) p ⟨s.t.set a f,s.n,s.tk⟩) (ox s a)=some (r,p',s'):=h;cases d:ox s a with
  |none=>rw[d]at b;exact ec b|some o=>
   simp only[d]at b;refine pn (ly (c:=C) d) λQ J K=>?_;refine⟨by rw[K];rfl,?_⟩;have:=ih () p ⟨s.t.set a f,s.n,s.tk⟩ r p' s' b;have e:abs ⟨s.t.set a f,s.n,s.tk⟩ C={abs s C with heap:=(abs s C).heap.update a f}:=by show(⟨aef (s.t.set a f) s.n C.life,C.gens,C.drawn,s.tk,C.os⟩:aM)=_;rw[absHeap_set J];rfl
   simp only[e]at this;exact this
 |alloc o k ih=>intro p s r p' s' h;have b:@c9 St (λ_=>Res i) none (λA=>ev N R Γ (k s.n) p A) (FV s o)=some (r,p',s'):=h;cases d:FV s o with|none=>rw[d]at b;exact ec b|some A=>rw[d]at b;obtain⟨e,L⟩:=CS (c:=C) d;have:=ih s.n p A r p' s' b;simp only[e]at this;show Sem.wp M Γ (k (abs s C).heap.objs.size) _ _ p _;rw[L];exact this
 |loadIfAlive a k ih=>intro p s r p' s' h;have b:@c9 Obj (λ_=>Res i) none (λo=>ev N R Γ (k (some o)) p s) (ox s a)=some (r,p',s'):=h;cases d:ox s a with|none=>rw[d]at b;exact ec b|some o=>rw[d]at b;show Sem.wp M Γ (k ((abs s C).heap.get? a)) _ _ p _;rw[(ly d).2.2];exact ih (some o) p s r p' s' b
 |point _ k ih=>intro p s r p' s' h;exact ih () p s r p' s' h|register _ _ _=>intro p s r p' s' h;exact ec h|fresh k ih=>intro p s r p' s' h;exact ih s.tk p ⟨s.t,s.n,aa2 s.tk⟩ r p' s' h|ask k ih=>intro p s r p' s' h;subst z;exact ih _ p s r p' s' h|choose _ _ _ _=>intro p s r p' s' h;exact ec h|os _ _ _ _=>intro p s r p' s' h;exact ec h|call c hd g l k ih=>intro p s r p' s' h;refine(let E:Prop:=_;(?_:E));have b:@c9 (ab8×St) (λ_=>Res i) none (λr=>ev N R Γ (k r.1) p r.2) (R (Γ.enter c hd p) p s)=some (r,p',s'):=h;cases d:R (Γ.enter c hd p) p s with|none=>rw[d]at b;exact ec b|some y=>obtain⟨G,A⟩:=y;rw[d]at b;refine wpCode_mono ?_ (m _ _ _ _ _ d);intro O P B;obtain⟨rfl,rfl⟩:=B;exact ih O p A r p' s' b
 |handled I k ih=>
  intro p s r p' s' h;rcases I with⟨⟩;.exact ih _ p s r p' s' h
  .exact ih _ p s r p' s' h|newGen _ _ _=>intro p s r p' s' h;exact ec h|genState _ _ _=>intro p s r p' s' h;exact ec h|resume _ _ _ _ _=>intro p s r p' s' h;exact ec h|yield _ _ _ _ _=>intro p s r p' s' h;exact ec h|stack k ih=>intro p s r p' s' h;exact ih _ p s r p' s' h|fork _ _ _=>intro p s r p' s' h;exact ec h|thread k ih=>intro p s r p' s' h;exact ih 0 p s r p' s' h|await _ _ _ _ _ _=>intro p s r p' s' h;exact ec h
end
theorem Qp{N:Setting}(j:N=⟨M.prog,M.w.params⟩)(i:M.den=den):∀(n:Nat)(b:Ctx)(p:Pos)(s:St)(r:ab8)(s':St),Js N den n b p s=some (r,s')->wpCode M b (λt A=>t=r/\A=abs s' C) p (abs s C):=by
 intro n;induction n with
 |zero=>intro b p s r s' h;exact ec h|succ n ih=>
  intro b p s r s' h;have d:(match ev N (Js N den n) b (den b.code) p s with|none=>none|some r=>match r.1with|.error e=>some (.error e,r.2.2)|.ok (.done f)=>some (.ok f,r.2.2)|.ok (.again c)=>match c.quiet with|true=>Js N den n (b.goto c) r.2.1 r.2.2|false=>none)=some (r,s'):=h;clear h;cases k:ev N (Js N den n) b (den b.code) p s with
  |none=>rw[k]at d;exact ec d|some y=>
   obtain⟨t,B,z⟩:=y;rw[k]at d;rw[wpCode_iff_wp,i];refine aaU M b _ ?_ ?_ p _ (M5 (C:=C) j ih (den b.code) p s t B z k);.intro fin q S l;obtain⟨rfl,rfl,rfl⟩:=l;induction fin with|done f=>refine sP d ?_;exact⟨rfl,rfl⟩|again c=>cases o:c.quiet with|false=>have g:(match c.quiet with|true=>Js N den n (b.goto c) q z|false=>none)=some (r,s'):=d;rw[o]at g;exact ec g|true=>have g:(match c.quiet with|true=>Js N den n (b.goto c) q z|false=>none)=some (r,s'):=d;rw[o]at g;exact⟨o,ih _ _ _ _ _ g⟩
   .intro e q S m;obtain⟨rfl,rfl,rfl⟩:=m;refine sP d ?_;exact⟨rfl,rfl⟩
noncomputable abbrev pw:Program:=PySem.Challenge.pw_rh0137_01
noncomputable def Gx:Code->Sem Fin:=PySem.W.Fast.tw11892475500146522536 PySem.W.Fast.tw14364793385576792824
noncomputable def MZ(P:bp):BT:=.node (ab1 P) (.node (boot_o_1 P) (.node (boot_o_3 P) (.node (boot_o_7 P) .nil .nil) .nil) (.node (boot_o_5 P) (.node (boot_o_9 P) .nil .nil) .nil)) (.node (boot_o_2 P) (.node (boot_o_4 P) (.node (boot_o_8 P) .nil .nil) .nil) (.node (boot_o_6 P) (.node (boot_o_10 P) .nil .nil) .nil))
noncomputable def OH(P:bp):St:=⟨MZ P,11,boot_toks⟩
noncomputable def jv:Sem Fin:=(topStub pw).cur
noncomputable def T8:Ctx:=⟨.builtin "claim.caller" {},none,none,[],none⟩
noncomputable def m7(w:bO):ae St:=match ev ⟨pw,w.params⟩ (Js ⟨pw,w.params⟩ Gx 60) T8 jv default (OH w.params)with|some (.ok (.done (.ret .none)),_,s)=>some s|_=>none
noncomputable def fA(i:Nat):aho:=(pw.main.body[i]?).getD (.Pass default)
noncomputable def kG(i j:Nat):aho:=match fA i with|.ClassDef _ _ _ b _ _ _ _ _ _ _=>(b[j]?).getD (.Pass default)|_=>.Pass default
noncomputable def ew:aho->Arguments|.FunctionDef _ a _ _ _ _ _ _ _ _=>a|_=>default
noncomputable def nh:aho->ab aho|.FunctionDef _ _ b _ _ _ _ _ _ _=>b|_=>[]
noncomputable def ef:aho->b7|.FunctionDef _ _ _ _ _ _ N _ _ _=>N|_=>default
noncomputable def Rq(s:aho)(b c:dA)(d:Nat)(e f:al):Obj:={cls:=.type "function",data:=.func (fnOf (aa b) (aa c) (ew s) (nh s) (ef s) e .none .none f none (.ref d) .none)}
noncomputable def en(P:bp)(k:dA)(t:Nat)(v:al):cM:=⟨aaE P (aa k),.str (aa k) t,v⟩
noncomputable def di(es:ab cM)(n:Nat):Obj:={cls:=.type "dict",data:=.dict ⟨es⟩ n}
noncomputable def tu(U:ab al):Obj:={cls:=.type "tuple",data:=.seq ⟨U⟩ 0}
noncomputable def fT(d m:al)(a i:Nat)(nm:dA):Nat×aho×dA×dA×Nat×al×al:=(a,fA i,nm,nm,a-1,d,m)
noncomputable def fN(m:al)(a i:Nat)(nm:dA):Nat×aho×dA×dA×Nat×al×al:=fT .none m a i nm
noncomputable def fM(d m:al)(a i j:Nat)(nm q:dA):Nat×aho×dA×dA×Nat×al×al:=(a,kG i j,nm,q,a-1,d,m)
noncomputable def Z3:al:=.str "__main__" 164
noncomputable def Wn:al:=.str "kindkeep.diags" 194
noncomputable def pH:al:=.str "kindkeep.types" 283
noncomputable def QB:al:=.str "kindkeep.shapes" 713
noncomputable def pG:al:=.str "kindkeep.hosts" 728
noncomputable def TS:al:=.str "kindkeep.kindtpl" 1022
noncomputable def Wf:al:=.str "kindkeep.kindkeys" 1066
noncomputable def nc:al:=.str "kindkeep.kindmap" 1090
noncomputable def Mm:al:=.str "kindkeep.plainput" 1493
noncomputable def X4:al:=.str "kindkeep.keyhost" 1559
noncomputable def kY:al:=.str "law_rh0137_01" 1598
noncomputable def Vh:ab (Nat×aho×dA×dA×Nat×al×al):=[fN Z3 21 0 "_wall",fM (.ref 29) Wn 36 2 0 "__init__" "KeepError.__init__",fM (.ref 50) Wn 57 3 0 "__init__" "TooDeep.__init__",fM (.ref 70) Wn 77 4 0 "__init__" "HostFault.__init__",fM .none pH 122 63 0 "__init__" "TypeTable.__init__",fM .none pH 129 63 1 "row" "TypeTable.row",fM .none pH 136 63 2 "put" "TypeTable.put",fN pH 150 64 "kind_of",fT (.ref 151) pH 158 65 "str_type",fT (.ref 159) pH 166 66 "num_type",fT (.ref 167) pH 174 67 "array_type",fN pH 181 68 "last_mark",fN pH 188 69 "needed_to_last",fN pH 195 70 "one_rest",fT (.ref 196) pH 201 71 "tuple_type",fN pH 206 72 "sorted_props",fT (.ref 211) pH 218 73 "obj_type",fT (.ref 220) pH 227 74 "sig_type",fN pH 234 75 "func_type",fT (.ref 235) pH 242 76 "new_param",fN pH 249 77 "parts_of",fN pH 256 78 "whole_of_row",fN pH 263 79 "regular_twin",fN pH 270 80 "join_bools",fN pH 277 81 "stays_beside",fN pH 284 82 "top_of",fN pH 289 83 "union",fN pH 294 84 "without",fN pH 301 85 "add_undef",fN pH 306 86 "common_family",fN pH 313 87 "meet_family",fN pH 320 88 "family",fN QB 328 92 "plain_shape",fM .none pG 342 96 0 "__init__" "Thin.__init__",fM .none pG 349 96 1 "force" "Thin.force",fM .none pG 356 96 2 "put_deferred" "Thin.put_deferred",fM .none pG 363 96 3 "put_cond" "Thin.put_cond",fM .none pG 370 96 4 "lay_row" "Thin.lay_row",fM .none pG 377 96 5 "bound" "Thin.bound",fM .none pG 384 96 6 "shape" "Thin.shape",fM .none pG 391 96 7 "fits" "Thin.fits",fM .none pG 398 96 8 "lies" "Thin.lies",fM .none pG 405 96 9 "infers" "Thin.infers",fM .none pG 412 96 10 "tpl_fits" "Thin.tpl_fits",fM .none pG 419 96 11 "shape_fits" "Thin.shape_fits",fM .none pG 426 96 12 "put_in" "Thin.put_in",fM .none pG 433 96 13 "own_sig" "Thin.own_sig",fM .none pG 440 96 14 "forget" "Thin.forget",fM .none pG 447 96 15 "list_prop" "Thin.list_prop",fM .none pG 454 96 16 "list_index" "Thin.list_index",fM .none pG 461 96 17 "elem_met" "Thin.elem_met",fM .none pG 468 96 18 "error_class" "Thin.error_class",fM .none pG 489 97 0 "shape" "RefHost.shape",fM .none pG 496 97 1 "fits" "RefHost.fits",fM .none pG 503 97 2 "lies" "RefHost.lies",fN pG 515 98 "told_places",fN pG 522 99 "list_decl",fN pG 529 100 "find_prop",fN pG 536 101 "prop_row",fN pG 543 102 "index_of",fN pG 550 103 "index_of_parts",fN TS 558 107 "is_open",fN TS 565 108 "unit_word",fN TS 572 109 "key_text",fN TS 579 110 "digits_back",fN Wf 586 112 "picked",fN Wf 593 113 "is_public",fN Wf 598 114 "list_keys",fM .none nc 612 116 0 "__init__" "Made.__init__",fM .none nc 619 116 1 "add" "Made.add",fM .none nc 626 116 2 "add_index" "Made.add_index",fM .none nc 631 116 3 "done" "Made.done",fN nc 645 117 "is_homomorphic",fN nc 652 118 "plain_index",fN nc 657 119 "is_late_alias",fN nc 664 120 "undefless",fN nc 671 121 "optional_form",fN nc 678 122 "readonly_after",fN nc 685 123 "template_at",fN nc 692 124 "member_opt",fN nc 699 125 "member_kind",fN nc 706 126 "kindmap_member_flags",fN nc 713 127 "names_for",fM .none nc 727 128 0 "__init__" "Keyed.__init__",fN nc 741 129 "put_member",fN nc 748 130 "build_members",fN nc 755 131 "shape_entries",fN nc 760 132 "bare_entries",fN nc 767 133 "map_array",fN nc 774 134 "spare_elem",fN nc 781 135 "map_elem",fN nc 788 136 "map_tuple",fN nc 795 137 "is_primitive",fN nc 800 138 "map_over",fN nc 807 139 "defer_over",fN nc 814 140 "map_named",fN nc 821 141 "index_cell",fN nc 828 142 "pick_entry",fN nc 835 143 "key_texts",fN nc 840 144 "met_entries",fN nc 847 145 "map_picked",fN nc 854 146 "map_kind",fN Mm 859 148 "put_each",fN Mm 866 149 "put_cell",fN Mm 871 150 "put_shape",fN Mm 876 151 "plainput_put_elems",fN Mm 881 152 "put_call",fN Mm 888 153 "without_own",fN Mm 895 154 "put_late",fN Mm 902 155 "plain_put",fM .none X4 916 157 0 "__init__" "PutHost.__init__",fM .none X4 923 157 1 "put_in" "PutHost.put_in",fN kY 938 162 "_law_next",fN kY 943 163 "_law_join",fN kY 950 164 "_law_word",fN kY 957 165 "_law_parts",fN kY 964 166 "_law_kind",fN kY 971 167 "_law_type",fN kY 976 168 "_law_make",fN kY 983 169 "_law_object",fN kY 990 170 "_law_list",fN kY 995 171 "_law_source",fN kY 1000 172 "_law_slot",fN kY 1007 173 "_law_shut",fN kY 1012 174 "_law_text",fN kY 1019 175 "_law_seen",fN kY 1024 176 "_law_one",fN kY 1031 177 "_law_show",fN kY 1038 178 "_law_read",fN kY 1043 179 "_law_map",fN kY 1050 180 "_law_row",fN kY 1055 181 "_law_step",fN kY 1060 182 "law"]
noncomputable def vi:Frag:=Vh.map λp=>(p.1,Rq p.2.1 p.2.2.1 p.2.2.2.1 p.2.2.2.2.1 p.2.2.2.2.2.1 p.2.2.2.2.2.2)
noncomputable def Wx:Frag:=[(39,⟨.type "type",none,.cls {name:="KeepError",bases:=[.type "Exception"],mro:=[.ref 39,.type "Exception",.type "BaseException",.type "object"],ns:=38,qualname:="KeepError",subclasses:=[.ref 60,.ref 80]},#[some (.ref 22),none,some (.str "KeepError" 196),some (.str "KeepError" 204),some (.builtin "Exception.__new__"),some (.bool true)]⟩),(60,⟨.type "type",none,.cls {name:="TooDeep",bases:=[.ref 39],mro:=[.ref 60,.ref 39,.type "Exception",.type "BaseException",.type "object"],ns:=59,qualname:="TooDeep",subclasses:=[]},#[some (.ref 43),none,some (.str "TooDeep" 227),some (.str "TooDeep" 235),some (.builtin "Exception.__new__"),some (.bool true)]⟩),(80,⟨.type "type",none,.cls {name:="HostFault",bases:=[.ref 39],mro:=[.ref 80,.ref 39,.type "Exception",.type "BaseException",.type "object"],ns:=79,qualname:="HostFault",subclasses:=[]},#[some (.ref 63),none,some (.str "HostFault" 256),some (.str "HostFault" 264),some (.builtin "Exception.__new__"),some (.bool true)]⟩),(139,⟨.type "type",none,.cls {name:="TypeTable",bases:=[.type "object"],mro:=[.ref 139,.type "object"],ns:=138,qualname:="TypeTable",subclasses:=[]},#[none,none,some (.str "TypeTable" 422),some (.str "TypeTable" 430),some (.builtin "object.__new__"),some (.bool true)]⟩),(471,⟨.type "type",none,.cls {name:="Thin",bases:=[.type "object"],mro:=[.ref 471,.type "object"],ns:=470,qualname:="Thin",subclasses:=[.ref 506]},#[none,none,some (.str "Thin" 734),some (.str "Thin" 742),some (.builtin "object.__new__"),some (.bool true)]⟩),(506,⟨.type "type",none,.cls {name:="RefHost",bases:=[.ref 471],mro:=[.ref 506,.ref 471,.type "object"],ns:=505,qualname:="RefHost",subclasses:=[.ref 926]},#[some (.ref 476),none,some (.str "RefHost" 920),some (.str "RefHost" 928),some (.builtin "object.__new__"),some (.bool true)]⟩),(634,⟨.type "type",none,.cls {name:="Made",bases:=[.type "object"],mro:=[.ref 634,.type "object"],ns:=633,qualname:="Made",subclasses:=[]},#[none,none,some (.str "Made" 1092),some (.str "Made" 1100),some (.builtin "object.__new__"),some (.bool true)]⟩),(730,⟨.type "type",none,.cls {name:="Keyed",bases:=[.type "object"],mro:=[.ref 730,.type "object"],ns:=729,qualname:="Keyed",subclasses:=[]},#[none,none,some (.str "Keyed" 1260),some (.str "Keyed" 1268),some (.builtin "object.__new__"),some (.bool true)]⟩),(926,⟨.type "type",none,.cls {name:="PutHost",bases:=[.ref 506],mro:=[.ref 926,.ref 506,.ref 471,.type "object"],ns:=925,qualname:="PutHost",subclasses:=[]},#[some (.ref 903),none,some (.str "PutHost" 1561),some (.str "PutHost" 1569),some (.builtin "object.__new__"),some (.bool true)]⟩)]
noncomputable def Zy(P:bp):Frag:=[(38,di [en P "__module__" 203 (.str "kindkeep.diags" 194),en P "__firstlineno__" 207 (.int 5 206),en P "__init__" 216 (.ref 36),en P "__static_attributes__" 219 (.ref 37),en P "__weakref__" 221 (.ref 40),en P "__doc__" 222 (.none)] 3),(59,di [en P "__module__" 234 (.str "kindkeep.diags" 194),en P "__firstlineno__" 238 (.int 10 237),en P "__init__" 249 (.ref 57),en P "__static_attributes__" 252 (.ref 58),en P "__doc__" 253 (.none)] 2),(79,di [en P "__module__" 263 (.str "kindkeep.diags" 194),en P "__firstlineno__" 267 (.int 15 266),en P "__init__" 276 (.ref 77),en P "__static_attributes__" 279 (.ref 78),en P "__doc__" 280 (.none)] 2),(138,di [en P "__module__" 429 (.str "kindkeep.types" 283),en P "__firstlineno__" 433 (.int 78 432),en P "__init__" 441 (.ref 122),en P "row" 449 (.ref 129),en P "put" 458 (.ref 136),en P "__static_attributes__" 469 (.ref 137),en P "__dict__" 471 (.ref 140),en P "__weakref__" 473 (.ref 141),en P "__doc__" 474 (.none)] 4),(470,di [en P "__module__" 741 (.str "kindkeep.hosts" 728),en P "__firstlineno__" 745 (.int 270 744),en P "__init__" 753 (.ref 342),en P "force" 761 (.ref 349),en P "put_deferred" 769 (.ref 356),en P "put_cond" 778 (.ref 363),en P "lay_row" 787 (.ref 370),en P "bound" 795 (.ref 377),en P "shape" 803 (.ref 384),en P "fits" 812 (.ref 391),en P "lies" 821 (.ref 398),en P "infers" 831 (.ref 405),en P "tpl_fits" 840 (.ref 412),en P "shape_fits" 849 (.ref 419),en P "put_in" 858 (.ref 426),en P "own_sig" 867 (.ref 433),en P "forget" 874 (.ref 440),en P "list_prop" 883 (.ref 447),en P "list_index" 891 (.ref 454),en P "elem_met" 899 (.ref 461),en P "error_class" 906 (.ref 468),en P "__static_attributes__" 912 (.ref 469),en P "__dict__" 914 (.ref 472),en P "__weakref__" 916 (.ref 473),en P "__doc__" 917 (.none)] 4),(505,di [en P "__module__" 927 (.str "kindkeep.hosts" 728),en P "__firstlineno__" 931 (.int 332 930),en P "shape" 939 (.ref 489),en P "fits" 948 (.ref 496),en P "lies" 957 (.ref 503),en P "__static_attributes__" 958 (.ref 504),en P "__doc__" 959 (.none)] 2),(633,di [en P "__module__" 1099 (.str "kindkeep.kindmap" 1090),en P "__firstlineno__" 1103 (.int 453 1102),en P "__init__" 1110 (.ref 612),en P "add" 1123 (.ref 619),en P "add_index" 1136 (.ref 626),en P "done" 1142 (.ref 631),en P "__static_attributes__" 1147 (.ref 632),en P "__dict__" 1149 (.ref 635),en P "__weakref__" 1151 (.ref 636),en P "__doc__" 1152 (.none)] 4),(729,di [en P "__module__" 1267 (.str "kindkeep.kindmap" 1090),en P "__firstlineno__" 1271 (.int 554 1270),en P "__init__" 1281 (.ref 727),en P "__static_attributes__" 1285 (.ref 728),en P "__dict__" 1287 (.ref 731),en P "__weakref__" 1289 (.ref 732),en P "__doc__" 1290 (.none)] 4),(925,di [en P "__module__" 1568 (.str "kindkeep.keyhost" 1559),en P "__firstlineno__" 1572 (.int 793 1571),en P "__init__" 1580 (.ref 916),en P "put_in" 1589 (.ref 923),en P "__static_attributes__" 1594 (.ref 924),en P "__doc__" 1595 (.none)] 2)]
noncomputable def eI(P:bp)(k:dA)(t n:Nat):cM:=en P k t (.int n (t-1))
noncomputable def eR(P:bp)(k:dA)(t a:Nat):cM:=en P k t (.ref a)
noncomputable def gU(P:bp):ab cM:=[en P "__name__" 165 (.str "law_rh0137_01" 1598),en P "__doc__" 166 (.none),en P "__package__" 167 (.none),en P "__loader__" 168 (.builtin "__main__.__loader__#opaque"),en P "__spec__" 169 (.none),eR P "__annotations__" 170 6,eR P "__builtins__" 171 4,en P "__file__" 173 (.str "/claim/cut.py" 172),en P "__cached__" 174 (.none),eR P "_wall" 193 21,eR P "KeepError" 226 39,eR P "TooDeep" 255 60,eR P "HostFault" 282 80,eI P "Y_KEY" 286 1,eI P "Y_BOOL" 288 2,eI P "Y_STR" 290 3,eI P "Y_NUM" 292 4,eI P "Y_ENUM" 294 5,eI P "Y_UNION" 296 6,eI P "Y_INTER" 298 7,eI P "Y_OBJ" 300 8,eI P "Y_REF" 302 9,eI P "Y_PARAM" 304 10,eI P "Y_ARRAY" 306 11,eI P "Y_TUPLE" 308 12,eI P "Y_SIG" 310 13,eI P "Y_KEYOF" 312 14,eI P "Y_INDEX" 314 15,eI P "Y_COND" 316 16,eI P "Y_MAPPED" 318 17,eI P "Y_TPL" 320 18,eI P "Y_ALIAS" 322 19,eI P "ANY" 324 0,eI P "UNKNOWN" 326 1,eI P "NEVER" 328 2,eI P "VOID" 330 3,eI P "UNDEF" 332 4,eI P "NULLT" 334 5,eI P "STRING" 336 6,eI P "NUMBER" 338 7,eI P "FALSE_T" 340 8,eI P "TRUE_T" 342 9,eI P "OBJECTT" 344 10,eI P "EMPTY" 346 11,eI P "ERR" 348 13,eI P "FRESH_F" 350 14,eI P "FRESH_T" 352 15,eI P "P_OPT" 354 1,eI P "P_READONLY" 356 2,eI P "P_METHOD" 358 4,eI P "P_PRIVATE" 360 8,eI P "P_PROTECTED" 362 16,eI P "P_GETONLY" 364 32,eI P "E_NEED" 366 0,eI P "E_OPT" 368 1,eI P "E_REST" 370 2,eI P "E_SPREAD" 372 3,eI P "FAM_OTHER" 374 0,eI P "FAM_STR" 376 1,eI P "FAM_NUM" 378 2,eI P "FAM_BOOL" 380 3,eI P "FAM_NULL" 382 4,eI P "FAM_UNDEF" 384 5,eI P "FAM_VOID" 386 6,eI P "FAM_OBJ" 388 7,eI P "MAX_UNION" 390 400,eR P "FIRST_ROWS" 412 105,eR P "MARKED_ROWS" 413 106,eR P "OBJECT_ROWS" 414 107,eR P "KEY_FAMILIES" 421 108,eR P "TypeTable" 476 139,eR P "kind_of" 484 150,eR P "str_type" 494 158,eR P "num_type" 504 166,eR P "array_type" 514 174,eR P "last_mark" 524 181,eR P "needed_to_last" 537 188,eR P "one_rest" 551 195,eR P "tuple_type" 558 201,eR P "sorted_props" 564 206,eR P "obj_type" 578 218,eR P "sig_type" 591 227,eR P "func_type" 599 234,eR P "new_param" 614 242,eR P "parts_of" 623 249,eR P "whole_of_row" 631 256,eR P "regular_twin" 640 263,eR P "join_bools" 647 270,eR P "stays_beside" 656 277,eR P "top_of" 664 284,eR P "union" 670 289,eR P "without" 676 294,eR P "add_undef" 684 301,eR P "common_family" 690 306,eR P "meet_family" 701 313,eR P "family" 712 320,eI P "MOST_PLAIN" 716 40,eR P "PLAIN_ROWS" 717 321,eR P "plain_shape" 727 328,eI P "MOST_ROUNDS" 731 200,eI P "MOST_SHAPES" 733 40,eR P "Thin" 919 471,eR P "RefHost" 961 506,eR P "told_places" 969 515,eR P "list_decl" 977 522,eR P "find_prop" 986 529,eR P "prop_row" 997 536,eR P "index_of" 1008 543,eR P "index_of_parts" 1021 550,eI P "TOP_NUMBER" 1025 9007199254740991,eR P "OPEN_KINDS" 1026 551,eR P "is_open" 1038 558,eR P "unit_word" 1047 565,eR P "key_text" 1055 572,eR P "digits_back" 1065 579,eR P "picked" 1076 586,eR P "is_public" 1083 593,eR P "list_keys" 1089 598,eR P "Made" 1154 634,eR P "is_homomorphic" 1163 645,eR P "plain_index" 1176 652,eR P "is_late_alias" 1182 657,eR P "undefless" 1191 664,eR P "optional_form" 1199 671,eR P "readonly_after" 1207 678,eR P "template_at" 1216 685,eR P "member_opt" 1224 692,eR P "member_kind" 1237 699,eR P "kindmap_member_flags" 1249 706,eR P "names_for" 1259 713,eR P "Keyed" 1292 730,eR P "put_member" 1311 741,eR P "build_members" 1325 748,eR P "shape_entries" 1337 755,eR P "bare_entries" 1343 760,eR P "map_array" 1356 767,eR P "spare_elem" 1365 774,eR P "map_elem" 1381 781,eR P "map_tuple" 1395 788,eR P "is_primitive" 1403 795,eR P "map_over" 1409 800,eR P "defer_over" 1419 807,eR P "map_named" 1429 814,eR P "index_cell" 1440 821,eR P "pick_entry" 1450 828,eR P "key_texts" 1461 835,eR P "met_entries" 1467 840,eR P "map_picked" 1482 847,eR P "map_kind" 1492 854,eR P "put_each" 1500 859,eR P "put_cell" 1509 866,eR P "put_shape" 1515 871,eR P "plainput_put_elems" 1521 876,eR P "put_call" 1527 881,eR P "without_own" 1537 888,eR P "put_late" 1548 895,eR P "plain_put" 1558 902,eR P "PutHost" 1597 926,eR P "_law_keys" 1611 929,eR P "_law_words" 1622 930,eR P "_law_written" 1630 931,eR P "_law_next" 1638 938,eR P "_law_join" 1644 943,eR P "_law_word" 1651 950,eR P "_law_parts" 1659 957,eR P "_law_kind" 1666 964,eR P "_law_type" 1674 971,eR P "_law_make" 1680 976,eR P "_law_object" 1701 983,eR P "_law_list" 1718 990,eR P "_law_source" 1724 995,eR P "_law_slot" 1730 1000,eR P "_law_shut" 1738 1007,eR P "_law_text" 1744 1012,eR P "_law_seen" 1754 1019,eR P "_law_one" 1760 1024,eR P "_law_show" 1773 1031,eR P "_law_read" 1786 1038,eR P "_law_map" 1792 1043,eR P "_law_row" 1810 1050,eR P "_law_step" 1816 1055,eR P "law" 1822 1060]
noncomputable def tupK:Frag:=[(29,tu [.str "" 208]),(50,tu [.int 2589 239,.str "" 240]),(70,tu [.str "" 268]),(83,tu [.int 1 285,.str "any" 391]),(84,tu [.int 1 285,.str "unknown" 392]),(85,tu [.int 1 285,.str "never" 393]),(86,tu [.int 1 285,.str "void" 394]),(87,tu [.int 1 285,.str "undefined" 395]),(88,tu [.int 1 285,.str "null" 396]),(89,tu [.int 1 285,.str "string" 397]),(90,tu [.int 1 285,.str "number" 398]),(91,tu [.int 2 287,.int 0 399,.int 0 400]),(92,tu [.int 2 287,.int 1 401,.int 0 402]),(93,tu [.int 1 285,.str "object" 403]),(94,tu []),(95,tu []),(96,tu []),(97,tu []),(98,tu []),(99,tu [.int 8 299,.ref 94,.ref 95,.ref 96,.ref 97,.ref 98,.int 0 404]),(100,tu [.int 8 405,.int 9 406]),(101,tu [.int 6 295,.ref 100]),(102,tu [.int 1 285,.str "error" 407]),(103,tu [.int 2 287,.int 0 408,.int 1 409]),(104,tu [.int 2 287,.int 1 410,.int 1 411]),(105,tu [.ref 83,.ref 84,.ref 85,.ref 86,.ref 87,.ref 88,.ref 89,.ref 90,.ref 91,.ref 92,.ref 93,.ref 99,.ref 101,.ref 102,.ref 103,.ref 104]),(106,tu [.int 2 287,.int 3 289,.int 4 291,.int 5 293,.int 8 299]),(107,tu [.int 8 299,.int 9 301,.int 11 305,.int 12 307,.int 13 309]),(151,tu [.int 0 485]),(159,tu [.int 0 495]),(167,tu [.int 0 505]),(196,tu [.int 0 552]),(207,tu []),(208,tu []),(209,tu []),(210,tu []),(211,tu [.ref 207,.ref 208,.ref 209,.ref 210,.int 0 565]),(219,tu []),(220,tu [.ref 219,.int 0 579]),(235,tu [.int (-1) 601,.int (-1) 603]),(321,tu [.int 1 285,.int 2 287,.int 3 289,.int 4 291,.int 5 293]),(551,tu [.int 10 303,.int 14 311,.int 15 313,.int 16 315,.int 17 317,.int 19 321]),(929,tu [.str "any" 1600,.str "unknown" 1601,.str "never" 1602,.str "void" 1603,.str "undefined" 1604,.str "null" 1605,.str "string" 1606,.str "number" 1607,.str "false" 1608,.str "true" 1609,.str "object" 1610]),(930,tu [.str "\"a\"" 1612,.str "0" 1613,.str "undefined" 1614,.str "\"b\"" 1615,.str "null" 1616,.str "1" 1617,.str "string" 1618,.str "true" 1619,.str "number" 1620,.str "false" 1621]),(931,tu [.str "\"p\"" 1623,.str "0" 1624,.str "string" 1625,.str "\"z\"" 1626,.str "number" 1627,.str "\"q\"" 1628,.str "1" 1629])]
noncomputable def Oo:Obj:=di [⟨3,.int 3 329,.int 6 385⟩,⟨4,.int 4 331,.int 5 383⟩,⟨5,.int 5 333,.int 4 381⟩,⟨6,.int 6 335,.int 1 375⟩,⟨7,.int 7 337,.int 2 377⟩,⟨10,.int 10 343,.int 7 387⟩] 6
noncomputable def BR(P:bp):Obj:={cls:=.none,data:=.dict ⟨[en P "type.__subclasses__.Exception.0" 223 (.int 39 0),en P "type.__subclasses__.Exception.n" 224 (.int 1 0)]⟩ 2}
noncomputable def rY(P:bp):Frag:=[(0,ab1 P),(1,boot_o_1 P),(2,BR P),(4,boot_o_4 P),(5,boot_o_5 P),(6,boot_o_6 P),(7,boot_o_7 P),(8,boot_o_8 P),(9,boot_o_9 P),(10,boot_o_10 P)]
noncomputable def KK(P:bp):Frag:=vi++Wx++Zy P++(3,di (gU P) 182)::tupK++(108,Oo)::rY P
noncomputable def Pd(o:Obj):Nat×Str:=match o.data with|.func M=>(match M.code with|.ref c=>c|_=>0,M.qualname)|_=>(0,Str.empty)
noncomputable def codeOk(s:St)(c:Nat×Str):bt:=match ox s c.1with|some ⟨.type "code",_,.fields U,_⟩=>(match U.toList with|_::.str n _::_=>PySem.W.Fast.sEq n c.2|_=>false)|_=>false
noncomputable def Mx(s:St):bt:=vi.all λp=>codeOk s (Pd p.2)
noncomputable def pb(P:bp)(r:ae St):ae (bt×ab (ae Obj)):=r.map λs=>(Mx s,(KK P).map λp=>ox s p.1)
theorem Sj(w:bO):pb (w.withFollow "special-get-raises" false).params (m7 (w.withFollow "special-get-raises" false))=some (true,(KK (w.withFollow "special-get-raises" false).params).map λp=>some p.2):=by kernel_rfl
theorem Ro(w:bO):pb (w.withFollow "special-get-raises" true).params (m7 (w.withFollow "special-get-raises" true))=some (true,(KK (w.withFollow "special-get-raises" true).params).map λp=>some p.2):=by kernel_rfl
theorem Ke(w:bO):∃b,m7 w=some b/\Mx b=true/\∀p∈KK w.params,ox b p.1=some p.2:=by have c:∀w:bO,pb w.params (m7 w)=some (true,(KK w.params).map λp=>some p.2):=λw=>byRow2 "special-get-raises" (P:=λw=>pb w.params (m7 w)=some (true,(KK w.params).map λp=>some p.2)) Sj Ro w;have h:=c w;unfold pb at h;refine kg h λb e f=>?_;have d:=agu f;refine i12 b e ⟨d.1,λp g=>?_⟩;exact acI.mp d.2 p g
theorem Og:adQ table=Gx:=by rw[table_eq_tree,PySem.W.Fast.te11892475500146522536,PySem.W.Fast.te14364793385576792824];rfl
theorem boot_abs(P:bp):aef (MZ P) 11 {}=aad P:=by rfl
theorem oE:∀(n:Nat)(s:aM)(t:Thread)(o:Outcome)(s':aM),runN den p w n s t=.halted o s'->∃m c d,runN den p w m s t=.running c d/\aeb den p w c d=.halt o s'|0,_,_,_,_,h=>by cases h|n+1,s,t,o,s',h=>by refine(let j:Prop:=_;(?_:j));have e:(match aeb den p w s t with|.go s' f=>runN den p w n s' f|.halt o s'=>.halted o s')=Run.halted o s':=h;cases hs:aeb den p w s t with|go g i=>rw[hs]at e;refine SY (oE n g i o s' e) λm c d a b=>?_;refine MM (m+1) c d ⟨?_,b⟩;show(match aeb den p w s t with|.go s' f=>runN den p w m s' f|.halt o s'=>.halted o s')=_;rw[hs];exact a|halt k g=>simp only[hs]at e;cases e;exact MM 0 s t ⟨rfl,hs⟩
noncomputable def isDone:Step->ae aM|.halt (.done _) s=>some s|_=>none
theorem BV(h:aeb den p w s t=.halt (.done f) s'):s=s'/\through t=true:=by
 have k:isDone (aeb den p w s t)=some s':=ah isDone h;clear h;obtain⟨m,l,drawn,o,os⟩:=s;obtain⟨d,code,j,stack⟩:=t;induction d with
 |pure fin=>
  induction fin with
  |done g=>
   induction stack using aS with
   |nil=>
    simp only[aeb,finish]at k;split at k;.exact ec k
    .exact so k ⟨rfl,rfl⟩|cons i b=>rcases i with⟨⟩<;>exact ec k
  |again c=>exact ec k
 |raise e=>induction stack using aS with|nil=>simp only[aeb,finish]at k;split at k<;>exact ec k|cons i b=>rcases i with⟨⟩<;>exact ec k
 |finish _=>simp only[aeb]at k;split at k<;>exact ec k|load a _ _=>simp only[aeb]at k;split at k<;>exact ec k|update a _ f _=>simp only[aeb]at k;split at k<;>exact ec k|choose _ n _=>simp only[aeb]at k;split at k<;>exact ec k|genState g _=>simp only[aeb]at k;split at k<;>exact ec k|resume g r _ _=>simp only[aeb]at k;split at k<;>first|exact ec k|(split at k<;>exact ec k)
 |«yield»_ _ _ _=>simp only[aeb]at k;split at k<;>exact ec k|_=>exact ec k
theorem C4(h:m7 w=some b):∃p,ev ⟨pw,w.params⟩ (Js ⟨pw,w.params⟩ Gx 60) T8 jv default (OH w.params)=some (.ok (.done (.ret .none)),p,b):=by
 unfold m7 at h;revert h;generalize ev ⟨pw,w.params⟩ (Js ⟨pw,w.params⟩ Gx 60) T8 jv default (OH w.params)=o;intro h;rcases o with _|⟨_|r,p,s⟩<;>try(exact ec h;done)
 rcases r with f|_<;>try(exact ec h;done)
 rcases f with _|_|_|v<;>try(exact ec h;done)
 rcases v with⟨⟩<;>try(exact ec h;done)
 exact so h (QD p rfl)
theorem GQ(h:m7 w=some B){os:OsState}(E:f=abs (OH w.params) ⟨{},#[],cU,os⟩):∃n t,schedN (adQ table) pw w n (.single f (topStub pw))=.running (.single (abs B ⟨{},#[],cU,os⟩) t)/\through t=true:=by
 refine(let γ:Prop:=_;(?_:γ));obtain⟨p,i⟩:=C4 h;have Z:f.asleep:=by refine sY E ?_;exact⟨rfl,rfl⟩
 have W:=M5 (M:=aP pw w) (C:=⟨{},#[],cU,os⟩) (N:=⟨pw,w.params⟩) rfl (Qp (M:=aP pw w) (den:=Gx) rfl Og 60) jv default (OH w.params) _ _ _ i;simp only[←E]at W;refine Wz ((wp_iff_halts (M:=aP pw w) (c:=.builtin "claim.caller" {}) jv (λr J=>r=.ok (.ret .none)/\J=abs B ⟨{},#[],cU,os⟩) default f).mp (by
  refine aaU (aP pw w) T8 jv ?_ ?_ default f W;.intro fin q S y;clear i;obtain⟨e,rfl,rfl⟩:=y;cases e;exact⟨⟨rfl,rfl⟩,by kernel_rfl⟩
  .intro e q S z;refine pn (z) λe _ _=>?_;cases e)) λn r J I z1 A=>?_;subst z1;subst A;refine j7 (runNI_real (adQ table) pw w (t:=⟨jv,.builtin "claim.caller" {},default,[]⟩) I rfl) λl G H T=>?_;have hs:l=abs B ⟨{},#[],cU,os⟩:=by
  clear I;obtain⟨hh,g,d,t,o⟩:=l;simp only[Shared.forget,abs,Shared.mk.injEq]at H;refine TV H λa b c P e=>?_;have U:g=#[]:=by
   have:(g.map GenState.forget).size=0:=by rw[b];simp
   exact Array.eq_empty_of_size_eq_zero (by simpa using this)
  refine sY a ?_;refine sY c ?_;refine sY P ?_;refine sY e ?_;refine sY U ?_;rfl
 subst hs;refine SY (oE n f ⟨jv,.builtin "claim.caller" {},default,[]⟩ _ _ G) λm K s Q R=>?_;obtain⟨rfl,Y⟩:=BV R;refine jR m s ⟨?_,Y⟩;have j:Sequential (adQ table) pw w f ⟨jv,.builtin "claim.caller" {},default,[]⟩:=by refine⟨T,λk L X=>?_⟩;have a:=runN_mono (adQ table) pw w n k _ _ _ _ G;rw[aal,(runN_mono (adQ table) pw w k n _ _ _ _ X)]at a;injection a with O _;cases O
 have:=schedN_eq_runN (adQ table) pw w f ⟨jv,.builtin "claim.caller" {},default,[]⟩ Z j m;exact this.trans (by rw[Q];rfl)
end Mine
end
noncomputable section
open PySem PySem.W PySem.Calls PyProof.Rows
namespace Mine
noncomputable def Hx(P:bp):Heap:=⟨⟨[ab1 P,boot_o_1 P,BR P,di (gU P) 182,boot_o_4 P,boot_o_5 P,boot_o_6 P,boot_o_7 P,boot_o_8 P,boot_o_9 P,boot_o_10 P]⟩,{}⟩
section
variable{h h':Heap}{a:b5}
theorem iN(e:h.get? a=h'.get? a):h.isNs a=h'.isNs a:=by unfold Heap.isNs;rw[e]
theorem mI(e:h.get? a=h'.get? a):h.nsKeys a=h'.nsKeys a:=by unfold Heap.nsKeys;rw[e]
theorem jr(e:h.get? a=h'.get? a):h.nsMap a=h'.nsMap a:=by funext x;unfold Heap.nsMap;rw[e]
theorem vy(e:h.get? a=h'.get? a):h.nsPairs a=h'.nsPairs a:=by unfold Heap.nsPairs;rw[e]
end
theorem vv(P:bp):(Hx P).accountedOkI []=true:=by kernel_rfl
theorem Ap(P:bp):adg [] (aad P) (Hx P)=true:=by kernel_rfl
theorem vV(P:bp):(Hx P).isNs cx=true:=by kernel_rfl
theorem NL(P:bp):(Hx P).isNs ab0=true:=by kernel_rfl
theorem zM(P:bp):(Hx P).bltView=bltViewBooted:=by kernel_rfl
theorem Gg(P:bp):(Hx P).bmainOk=true:=by kernel_rfl
theorem J2(P:bp):aeD (aad P) (Hx P)=true:=by kernel_rfl
theorem rN:importedModules pw.main.body=[]:=by kernel_rfl
theorem E5(P:bp):acN pw (Hx P)=true:=by kernel_rfl
theorem nf(P:bp){h:Heap}(K:∀p∈KK P,h.get? p.1=some p.2):∀b,b<11->b≠3->h.get? b=(Hx P).get? b:=by
 intro b d c;have e:(rY P).map (λp=>(Hx P).get? p.1)=(rY P).map (λp=>some p.2):=by kernel_rfl
 have f:b∈(rY P).map (·.1):=(by decide:∀b:Nat,b<11->b≠3->b∈[0,1,2,4,5,6,7,8,9,10]) b d c;refine(ag.mp f).elim λp q=>?_;refine sZ q.2 ?_;exact(K p (by unfold KK;exact aN _ (.tail _ q.1))).trans (acI.mp e p q.1).symm
theorem lE(P:bp){h:Heap}(K:∀p∈KK P,h.get? p.1=some p.2):h.get? 3=(Hx P).get? 3:=by have:=K (3,di (gU P) 182) (by unfold KK;exact bl _ (aN _ (.head _)));exact this.trans (by kernel_rfl)
theorem C9(P:bp):∀b,b≠2->b≠3->(aad P).get? b=(Hx P).get? b:=by intro b c d;match b,c,d with|0,_,_=>kernel_rfl|1,_,_=>kernel_rfl|4,_,_=>kernel_rfl|5,_,_=>kernel_rfl|6,_,_=>kernel_rfl|7,_,_=>kernel_rfl|8,_,_=>kernel_rfl|9,_,_=>kernel_rfl|10,_,_=>kernel_rfl|n+11,_,_=>rfl
theorem JS(P:bp)(e:(aad P).get? b=some o):b<11:=Heap.lt_size e
structure fm(w:bO)(h:Heap):Prop where
 objs:∀p∈KK w.params,h.get? p.1=some p.2
 codes:∀p∈vi,h.CodeRec (.ref (Pd p.2).1) (Pd p.2).2
theorem fm.keeps(T:fm w h)(k:∀b o,h.get? b=some o->h'.get? b=some o):fm w h':=⟨λp d=>k _ _ (T.objs p d),λp d=>let⟨c,o,U,t,e,g,r⟩:=T.codes p d;⟨c,o,U,t,e,k _ _ g,r⟩⟩
set_option tactic.hygienic true in theorem zO{s:St}{c:Nat×Str}{C:NP}(h:codeOk s c=true):(abs s C).heap.CodeRec (.ref c.1) c.2:=by
 unfold codeOk at h;refine(let γ:Prop:=_;(?_:γ));split at h;.
  rename_i d U sl e;split at h;.
   rename_i v n t rest hv;have hn:n=c.2:=PySem.W.Fast.sEq_iff.mp h;subst hn;refine VS c.1 _ U t ⟨rfl,(ly e).2.2,rfl,?_⟩;have:U.toList[1]?=some (.str c.2 t):=by rw[hv];rfl
   simpa using this
  .exact fO h
 .exact fO h
theorem Kz(w:bO)(s:(j.heap,j.gens,j.drawn,j.toks)=(aad w.params,Array.mk [],cU,boot_toks)):∃i,TopRan pw w j i/\i.asleep/\i.gens=#[]/\fm w i.heap:=by
 refine j7 (Ke w) λst P z O=>?_;obtain⟨Z,Y,X,h,os⟩:=j;simp only[Prod.mk.injEq]at s;obtain⟨rfl,rfl,rfl,rfl⟩:=s;have N:(⟨aad w.params,Array.mk [],cU,boot_toks,os⟩:aM)=abs (OH w.params) ⟨{},#[],cU,os⟩:=by unfold abs OH;rw[boot_abs]
 have R:=GQ P (os:=os) N;have T:fm w (abs st ⟨{},#[],cU,os⟩).heap:=by refine⟨λp B=>(ly (O p B)).2.2,λp B=>?_⟩;exact zO (aA.mp z p B)
 have K:=T.objs;have m:(abs st ⟨{},#[],cU,os⟩).heap.get? 2=(Hx w.params).get? 2:=nf _ K 2 (by decide) (by decide);have r:(abs st ⟨{},#[],cU,os⟩).heap.get? 3=(Hx w.params).get? 3:=lE _ K;have G:(abs st ⟨{},#[],cU,os⟩).heap.get? 0=(Hx w.params).get? 0:=nf _ K 0 (by decide) (by decide);generalize t:abs st ⟨{},#[],cU,os⟩=i at*;have k:i.heap.life={}:=by refine sZ t ?_;rfl
 have l:i.gens=#[]:=by refine sZ t ?_;rfl
 have A:i.os=os:=by refine sZ t ?_;rfl
 have J:i.heap.isNs cx=true:=(iN r).trans (vV _);have E:i.heap.isNs ab0=true:=(iN G).trans (NL _);have M:i.heap.bltView=bltViewBooted:=by
  have:i.heap.bltView=(Hx w.params).bltView:=by unfold Heap.bltView;rw[vy (a:=ab0) G]
  exact this.trans (zM _)
 refine i12 i ⟨R,k,Shared.rest_eq A,?_,?_,?_,?_,?_,?_,?_,?_,?_⟩ ⟨?_,l,T⟩;.intro b o e I;have s:b<11:=JS _ e;have L:b≠2:=λq=>I (.inr (.inl q));have C:b≠3:=λq=>I (.inl q);exact(nf _ K b s C).trans ((C9 _ b L C).symm.trans e)
 .rw[rN];refine Heap.accountedI_of_ok ?_;have:i.heap.accountedOkI []=(Hx w.params).accountedOkI []:=by unfold Heap.accountedOkI;rw[iN (a:=abY) m,mI (a:=abY) m,jr (a:=abY) m]
  exact this.trans (vv _)
 .rw[rN];refine statics_of_ok ?_;have:adg [] (aad w.params) i.heap=adg [] (aad w.params) (Hx w.params):=by unfold adg;simp only[iN (a:=abY) m,mI (a:=abY) m,jr (a:=abY) m]
  exact this.trans (Ap _)
 .exact Pin.keysAreStrs_of J
 .exactλx Q=>(Pin.builtinOf_eq E x).trans (Heap.of_bltView E M x Q)
 .have y:i.heap.bmainOk=true:=by
   have:i.heap.bmainOk=(Hx w.params).bmainOk:=by
    unfold Heap.bmainOk;refine sY (jr (a:=cx) r) ?_;have:(Hx w.params).nsMap cx "__builtins__"=some (.ref 4):=by kernel_rfl
    refine sY this ?_;dsimp only;exact sY (nf _ K 4 (by decide) (by decide)) rfl
   exact this.trans (Gg _)
  refine Uq (Heap.bmainOk_spec y) λbm U a _ c d f _=>?_;exact jR bm U ⟨(adi J _).trans a,c,d,f⟩
 .intro g H;rw[l]at H;simp at H
 .refine names_of_bound ?_;have:acN pw i.heap=acN pw (Hx w.params):=by unfold acN;simp only[iN (a:=cx) r,mI (a:=cx) r]
  exact this.trans (E5 _)
 .refine laid_of_kept ?_;have:aeD (aad w.params) i.heap=aeD (aad w.params) (Hx w.params):=by unfold aeD;simp only[iN (a:=cx) r,jr (a:=cx) r]
  exact this.trans (J2 _)
 .exact⟨(sY k rfl),(sY k rfl)⟩
noncomputable abbrev Qw:OpenLaw:=PySem.Challenge.rw_rh0137_01
noncomputable abbrev Jv:OpenRow:=Qw.row
inductive kH:ab al->ab Int->Prop|nil:kH [] []|cons{i:Int}{t:Tok}{U:ab al}{O:ab Int}:kH U O->kH (.int i t::U) (i::O)
noncomputable def yN:Prop:=∀(w:bO)(s:aM)(l:b5)(U:dv al)(n:Nat)(o:Obj)(O:ab Int),fm w s.heap->s.gens=#[]->s.heap.get? l=some o->o.cls=.type "list"->o.data=.seq U n->kH U.toList O->O.length<=63->aR (aP pw w) callerA (PySem.call (.ref 1060) [.ref l]) (λv s'=>v=.bool true/\(∀b o,s.heap.get? b=some o->s'.heap.get? b=some o)/\s'.os=s.os/\s'.gens=#[]) (λ_ _=>afz) s
theorem KN(r:abQ R cl h U Z as):abM R Z .int=true->∃O,kH U O/\Z=O.map abc:=by refine ReadsAllW.rec (motive_1:=λv d _ _=>WShape.has R d .int=true->∃i t,v=.int i t/\d=.int i) (motive_2:=λU Z _ _=>abM R Z .int=true->∃O,kH U O/\Z=O.map abc) (motive_3:=λ_ _ _ _=>True) fO (λ_=>fO) (λi t _=>xA i t rfl rfl) (λ_ _=>fO) (λ_ _ _ _ _=>fO) (λ_ _ _ _ _=>fO) (λ_ _ _ _ _ _ _=>fO) (λ_ _=>fO) (λ_ _=>fO) (λ_ _ _=>fO) (λ_ _ _ _ _ _ _=>fO) (λ_ _ _ _ _ _ _=>fO) (λ_ _ _ _ _ _ _ _ _ _ _ _ _ _ _=>fO) (λ_=>i12 [] .nil rfl) (λ_ _ l m e=>?_) bN (λ_ _ _ _ _=>bN) r;refine lK (bX.mp e) λb c=>mn (l b) λi t f g=>d9 (m c) λO j k=>?_;subst f g k;exact i12 (i::O) (.cons j) rfl
theorem Ed(h:Jv.toRowW.claim.pre args=true):∃Z,args=[.list Z]/\abM [] Z .int=true/\Z.length<=63:=by
 obtain⟨g,i⟩:=pre_splitW h;obtain⟨d,r,rfl,a,b⟩:=hasAllW_cons (R:=[]) (e:=.list .int) (es:=[]) g;obtain rfl:=hasAllW_nil b;cases d with
 |list Z=>
  refine⟨Z,rfl,(Bool.or_false _).symm.trans a,?_⟩;have j:WTm.holds [] (OpenLaw.pre Qw) {args:=[.list Z]}=true:=i;have f:less? (abc 63) (abc (Z.length:Int))=some (decide ((63:Int)<(Z.length:Int))):=rfl;have c:(match(match(match(less? (abc 63) (abc (Z.length:Int))).map acy with|some (.bool b)=>some (acy !b)|_=>none)with|some (.bool false)=>some (acy false)|some (.bool true)=>some (acy true)|_=>none)with|some (.bool true)=>true|_=>false)=true:=j;rw[f]at c;by_cases q:(63:Int)<(Z.length:Int);.rw[aE q]at c;exact fO c
  .omega|_=>exact fO a
theorem B0(r:abQ R cl h U Z as):Z=[]->U=[]:=acA (motive_2:=λU Z _ _=>Z=[]->U=[]) r (λ_=>rfl) λ_ _=>nofun
noncomputable def XW(d:WData):ae (ab WData):=WData.casesOn (motive_1:=λ_=>ae (ab WData)) d none (λ_=>none) (λ_=>none) (λ_=>none) some (λ_=>none) (λ_=>none) (λ_=>none) (λ_=>none) (λ_=>none) (λ_=>none) (λ_=>none) λ_ _=>none
noncomputable def vG(R:WRecords)(cl:Str->ae b5)(h:Heap)(v:al)(d:WData):Prop:=∀Z,XW d=some Z->∃a o es n b,v=.ref a/\h.get? a=some o/\o.cls=.type "list"/\o.data=.seq es n/\abQ R cl h es.toList Z b
theorem zj(r:ReadsW R cl h v d as):vG R cl h v d:=ReadsW.casesOn (motive_1:=λv d _ _=>vG R cl h v d) r (λ_=>ec) (λ_ _=>ec) (λ_ _ _=>ec) (λ_ _ _=>ec) (λb c f g Z e=>sI e▸⟨_,_,_,_,_,rfl,b,c,f,g⟩) (λ_ _ _ _ _=>ec) (λ_ _ _ _ _ _=>ec) (λ_ _ _=>ec) (λ_ _ _=>ec) (λ_ _ _ _=>ec) (λ_ _ _ _ _ _ _=>ec) (λ_ _ _ _ _ _ _=>ec) (λ_ _ _ _ _ _ _ _ _ _ _ _ _ _ _=>ec)
theorem Cy(r:abQ R cl h U [.list Z] as):∃a o es n b,U=[.ref a]/\h.get? a=some o/\o.cls=.type "list"/\o.data=.seq es n/\abQ R cl h es.toList Z b:=by have k:∀B,abQ R cl h U B as->B=[.list Z]->∃v d,U=[v]/\d=.list Z/\vG R cl h v d:=λB r=>acA (motive_2:=λU B _ _=>B=[.list Z]->∃v d,U=[v]/\d=.list Z/\vG R cl h v d) r (λe=>nomatch e) λq s e=>Dg _ _ (ah _ (B0 s (bx e).2)) (bx e).1 (zj q);refine iL (k _ r rfl) λv d c f g=>Xz (g _ (ah XW f)) λa o es n b i j l m p=>⟨a,o,es,n,b,i▸c,j,l,m,p⟩
theorem AI(P:bp):(Hx P).nsMap cx (aa "law")=some (.ref 1060):=by kernel_rfl
theorem Qk:(1060,Rq (fA 182) "law" "law" 1059 .none (.str "law_rh0137_01" 1598))∈vi:=by have:vi.getLast?=some (1060,Rq (fA 182) "law" "law" 1059 .none (.str "law_rh0137_01" 1598)):=rfl;exact List.mem_of_getLast? this
theorem AB:pw.theDef (aa "law")=some (ew (fA 182),nh (fA 182),ef (fA 182)):=by kernel_rfl
theorem DD:(ew (fA 182)).defaults=[]:=by kernel_rfl
theorem D9:kwWritten? (ew (fA 182)).kwonlyargs (ew (fA 182)).kw_defaults=some []:=by kernel_rfl
theorem Pq:pw.tablesWhole=true:=by decide+kernel
theorem QF:opensWell pw=true:=by decide+kernel
theorem B6(args:ab WData):Jv.toRowW.claim.post args (.bool true) args=true:=by kernel_rfl
theorem Q2:Jv.toRowW.claim.pre [.list []]=true:=by decide+kernel
set_option maxHeartbeats 0in theorem TN:Qw.wellSaid=true:=by
 rw[PySem.W.Fast.te9446332074065402090];delta PySem.W.Fast.tw9446332074065402090;delta PySem.W.Fast.tw17960256430627541270;delta PySem.W.Fast.tw2436336058641802641;delta PySem.W.Fast.tw12908688711261696721;repeat' with_reducible apply look_both
 all_goals decide+kernel
theorem head(Q:Qw.row.wellSaid=true)(call:yN):Qw.row.Holds:=by
 refine⟨Q,?promised,?claim⟩;case promised=>exact⟨[.list []],Q2,by decide+kernel⟩
 case claim=>
  refine⟨⟨⟨rfl,rfl,rfl,rfl,rfl,Pq⟩,QF,rfl⟩,⟨[.list []],Q2,by decide+kernel⟩,λw=>?_⟩;have k:=boot_open (p:=pw) (N:=600) (by rfl) (by rfl) (by intro s;rfl) w;rw[←table_eq_tree]at k;obtain⟨T,h2,hb⟩:=cv.mp k;obtain⟨s,h4,h5⟩:=abo.mp h2;have A:=AfterImport.of_importEnds h4;refine⟨⟨s,A⟩,λs' Sl=>?_⟩;obtain rfl:s'=s:=AfterImport.unique Sl A;obtain⟨f,hT,hz,hg,X⟩:=Kz w hb;refine⟨T,h5,ah (λx=>x.2.1) hb,f,hT,?pin,(λx M=>nomatch M),(λx M=>nomatch M),?cf⟩;case pin=>
   intro n hn;obtain rfl:n=aa "law":=by have:n∈[aa "law"]:=hn;simpa using this
   have hm:f.heap.isNs cx=true:=(iN (lE w.params X.objs)).trans (vV _);refine⟨1060,_,_,ew (fA 182),nh (fA 182),ef (fA 182),(adi hm _).trans ((congrFun (jr (lE w.params X.objs)) _).trans (AI _)),X.objs _ (by unfold KK;exact bl _ (bl _ (bl _ (bl _ Qk)))),rfl,AB,rfl,rfl,rfl,rfl,rfl,rfl,rfl,rfl,.inl ⟨DD,rfl⟩,?_⟩;exact⟨[],D9,.inl ⟨rfl,rfl⟩⟩
  case cf=>obtain⟨Xy,hu,ha,h,hm⟩:=frees_parts (r:=Jv.toRowW) (by rfl);have hi:=ident_freeW hu ha h;refine ClaimW.callFrom_of_specN (c:=Jv.toRowW.claim) hz (by rw[hg];simp[leftWithCleanup]) λt l E B J=>?_;refine hd λγ κ=>?_;obtain⟨⟨U,d⟩,i⟩:=dc.mp (layAllW_isSome (R:=Jv.toRowW.claim.records) (cl:=classAt f.heap) (P:=w.params) (ord:=B) (λc a=>nomatch a) t Jv.toRowW.args f (pre_splitW l).1);have m:=layAllW_keeps _ _ _ i;have Y:=layAllW_rest _ _ _ i;obtain⟨as,L,Vk,I⟩:=reads_layAllW J _ _ _ i E d.heap (λ_ _ e=>e);obtain⟨Z,rfl,M,H⟩:=Ed l;have j:fm w d.heap:=X.keeps m;have Yk:d.heap.Ns cx (d.heap.nsMap cx):=Heap.Ns.of_isNs ((iN (lE w.params j.objs)).trans (vV _));have y:d.heap.nsMap cx (aa "law")=some (.ref 1060):=(congrFun (jr (lE w.params j.objs)) _).trans (AI _);refine Xz (Cy L) λb o es n ζ e ho a hd hr=>?_;subst e;obtain⟨O,NT,rfl⟩:=KN hr M;have C:=call w {d with gens:=#[]} _ _ _ _ O j rfl ho a hd NT (by simpa using H);refine κ ⟨_,d,i,?_⟩;refine aB (wpAny_nsGet (s:={d with gens:=#[]}) Yk ?_);rw[show d.heap.nsMap cx Qw.row.name=some (.ref 1060)from y];refine aB (cy C (λv s' g=>aQ ⟨_,rfl,?_⟩) λ_ _ z=>z.elim);obtain⟨rfl,hk,Zr,Yw⟩:=g;have G:GoodW Jv.toRowW.claim (classAt f.heap) (ExcName.means f.heap) [.list (O.map abc)] {d with gens:=#[]} (.ok (.ret (.bool true))) s':=⟨.inl ⟨_,.bool true,[],rfl,λ_=>rfl,.bool true,B6 _,λ_=>⟨.nil,λ_ q=>nomatch q⟩⟩,hk,Zr,Yw⟩;have z:=G.endsN (c:=Jv.toRowW.claim) rfl rfl hi L I Y.2.2.1;exact⟨z.1,z.2.1,z.2.2,λq=>nomatch q⟩
end Mine
end
noncomputable section
open PySem PySem.W
namespace Mine
section
set_option genCtorIdx true
set_option genInjectivity true in inductive D where|fS|bool(b:bt)|int(i:Int)|str(s:Str)|tup(Z:ab D)|lst(Z:ab D)|eJ(I U:ab D)|obj(c:Nat)(fs:ab D)deriving aco
set_option genInjectivity true in inductive V where|d(x:D)|ref(i:Nat)|ins(c:Nat)(i:Nat)deriving aco
inductive Mode where|own|sh|fz deriving bD,aco
inductive Cell where|lst(Z:ab D)(m:Mode)|eJ(B:ab (D×D))(fz:bt)|ins(fs:ab (Nat×V))deriving aco
noncomputable abbrev Hp:=ab Cell
noncomputable abbrev Loc:=ab (ae V)
structure Cx where
 call:Nat->Nat->ab V->Hp->ae (V×Hp)
 wm:Nat
noncomputable abbrev ME:=Cx->Loc->Hp->ae (V×Hp)
noncomputable abbrev MT:=Cx->Loc->Hp->ae (bt×Hp)
noncomputable abbrev MI:=Cx->Loc->Hp->ae (ab D×Hp)
inductive Fl where|er|brk|cnt|ret(v:V)
noncomputable abbrev MS:=Cx->Loc->Hp->ae (Fl×Loc×Hp)
noncomputable def eqvAll(f:D->D->ae bt):ab D->ab D->ae bt
 |[],[]=>some true|x::Z,y::ys=>match f x y,eqvAll f Z ys with|some a,some b=>some (a&&b)|_,_=>none
 |[],_::_=>some false|_::_,[]=>some false
noncomputable def D.k9:Nat->D->D->ae bt
 |0,_,_=>none|n+1,x,y=>match x with
  |.fS=>match y with|.fS=>some true|.int _|.str _|.tup _=>some false|_=>none
  |.int a=>match y with|.int b=>some (a==b)|.fS|.str _|.tup _=>some false|_=>none
  |.str a=>match y with|.str b=>some (a==b)|.fS|.int _|.tup _=>some false|_=>none
  |.tup Z=>match y with|.tup ys=>eqvAll (D.k9 n) Z ys|.fS|.int _|.str _=>some false|_=>none
  |.lst Z=>match y with|.lst ys=>if Z.length=ys.length then eqvAll (D.k9 n) Z ys else some false|_=>none
  |_=>none
noncomputable def D.eqv(x y:D):ae bt:=D.k9 60 x y
noncomputable def D.has(x:D):ab D->ae bt|[]=>some false|y::ys=>match D.eqv y x,D.has x ys with|some a,some b=>some (a||b)|_,_=>none
noncomputable def hW(k:D):ab (D×D)->ae (ae D)|[]=>some none|(a,v)::r=>match D.eqv a k with|some true=>some (some v)|some false=>hW k r|none=>none
noncomputable def jN(k v:D):ab (D×D)->ae (ab (D×D))|[]=>some [(k,v)]|(a,w)::r=>match D.eqv a k with|some true=>some ((a,v)::r)|some false=>(jN k v r).map ((a,w)::·)|none=>none
noncomputable def D.kx:Nat->D->bt|_,.int _=>true|_,.str _=>true|n+1,.tup Z=>Z.all (D.kx n)|_,_=>false
inductive rC where|i|s|t deriving bD,aco
noncomputable def D.sort:D->ae rC|.int _=>some .i|.str _=>some .s|.tup Z=>if D.kx 6 (.tup Z)then some .t else none|_=>none
noncomputable def eg(k:rC)(B:ab (D×D)):bt:=B.all λp=>p.1.sort=some k
noncomputable def big:Nat:=2^20
noncomputable def toD(v:V)(H:Hp):ae (D×Hp):=match v with
 |.d x=>some (x,H)|.ref i=>match H[i]?with|some (.lst Z _)=>some (.lst Z,H.set i (.lst Z .fz))|some (.eJ B _)=>if eg .i B||eg .s B then some (.eJ (B.map (·.1)) (B.map (·.2)),H.set i (.eJ B true))else none|_=>none
 |.ins _ _=>none
noncomputable def ik(v:V)(H:Hp):ae (V×Hp):=match v with
 |.d x=>some (.d x,H)|.ref i=>match H[i]?with|some (.lst Z .own)=>some (.d (.lst Z),H.set i (.lst Z .fz))|some (.lst Z .fz)=>some (.d (.lst Z),H)|some (.lst _ .sh)=>some (.ref i,H)|some (.eJ _ _)=>some (.ref i,H)|_=>none
 |.ins c i=>some (.ins c i,H)
noncomputable def jk(v:V)(H:Hp):ae (ab D×Hp):=match v with
 |.d (.tup Z)=>some (Z,H)|.d (.lst Z)=>some (Z,H)|.ref i=>match H[i]?with|some (.lst Z _)=>some (Z,H.set i (.lst Z .fz))|_=>none
 |_=>none
noncomputable def jB(v:V)(H:Hp):ae (ab D):=match v with
 |.d (.tup Z)=>some Z|.d (.lst Z)=>some Z|.ref i=>match H[i]?with|some (.lst Z _)=>some Z|some (.eJ B _)=>if eg .i B||eg .s B then some (B.map (·.1))else none|_=>none
 |_=>none
noncomputable def jo(v:V)(H:Hp):ae bt:=match v with
 |.d .fS=>some false|.d (.bool b)=>some b|.d (.int i)=>some (i !=0)|.d (.str s)=>if s.cps.size<=big then some (s.cps.size !=0)else none|.d (.tup Z)=>some (!Z.isEmpty)|.d (.lst Z)=>some (!Z.isEmpty)|.ref i=>match H[i]?with|some (.lst Z _)=>some (!Z.isEmpty)|_=>none
 |_=>none
noncomputable def tj:ME:=λ_ _ _=>none
noncomputable def Hj(x:D):ME:=λ_ _ H=>some (.d x,H)
noncomputable def vc(i:Nat):ME:=λ_ l H=>match l[i]?with|some (some v)=>some (v,H)|_=>none
noncomputable def eD(m:ME)(c:Cx)(l:Loc)(H:Hp):ae (D×Hp):=(m c l H).bind λr=>toD r.1 r.2
noncomputable def Lf:ab ME->Cx->Loc->Hp->ae (ab D×Hp)|[],_,_,H=>some ([],H)|m::C,c,l,H=>(eD m c l H).bind λr=>(Lf C c l r.2).map λq=>(r.1::q.1,q.2)
noncomputable def mW:ab ME->Cx->Loc->Hp->ae (ab V×Hp)|[],_,_,H=>some ([],H)|m::C,c,l,H=>(m c l H).bind λr=>(ik r.1 r.2).bind λr=>(mW C c l r.2).map λq=>(r.1::q.1,q.2)
noncomputable def N5(C:ab ME):ME:=λc l H=>(Lf C c l H).map λr=>(.d (.tup r.1),r.2)
noncomputable def OL(C:ab ME):ME:=λc l H=>(Lf C c l H).map λr=>(.d (.lst r.1),r.2)
noncomputable def BM(m:Mode)(C:ab ME):ME:=λc l H=>(Lf C c l H).map λr=>(.ref r.2.length,r.2++[.lst r.1 m])
noncomputable def Hs:ME:=λ_ _ H=>some (.ref H.length,H++[.eJ [] false])
noncomputable def IJ:V->ae D|.d x=>some x|_=>none
noncomputable def nK{b:Type}(k:D)(f:Int->ae b):ae b:=match k with|.int n=>f n|_=>none
noncomputable def Qc{b:Type}(k:D)(f:Str->ae b):ae b:=match k with|.str n=>f n|_=>none
noncomputable def SW{b:Type}(k:D)(f:ab D->ae b):ae b:=match k with|.tup n=>f n|_=>none
noncomputable def LF{b:Type}(k:D)(f:ab D->ae b):ae b:=match k with|.lst n=>f n|_=>none
noncomputable def Rr(b:bt):ae agO:=match b with|true=>some ()|false=>none
noncomputable def mB(H:Hp)(z:Cell):ae (V×Hp):=some (.ref H.length,H++[z])
noncomputable def zU(H:Hp)(x y:D):ae (V×Hp):=nK x λi=>mB H (.eJ [(.int i,y)] false)
noncomputable def D.WS(x:D):ae agO:=match x with|.fS=>some ()|_=>none
noncomputable def QR(v:V):ae agO:=(IJ v).bind D.WS
noncomputable def M8(n:Nat)(v:V):ae V:=(IJ v).bind λx=>LF x λZ=>some (.d (.lst (Z.take n)))
noncomputable def Ox(v:V):ae V:=(IJ v).bind λx=>Qc x λs=>if 2<=s.cps.size/\s.cps.size<=big then some (.d (.str ⟨(s.cps.toList.drop 1).dropLast.toArray⟩))else none
noncomputable def zq(k v:ME):ME:=λc l H=>(eD k c l H).bind λa=>(eD v c l a.2).bind λb=>zU b.2 a.1 b.1
noncomputable def GK(f:Nat)(C:ab ME):ME:=λc l H=>(mW C c l H).bind λr=>c.call c.wm f r.1 r.2
noncomputable def eNew(cl b:Nat)(C:ab ME):ME:=λc l H=>(mW C c l H).bind λr=>(c.call c.wm b (.ins cl r.2.length::r.1) (r.2++[.ins []])).bind λq=>(QR q.1).map λ_=>(.ins cl r.2.length,q.2)
noncomputable def iK(cl:Nat):ab Nat:=if cl=730then[11,12,13]else[]
noncomputable def lN:ab (Nat×V)->ae (ab D)|[]=>some []|(_,.d x)::r=>(lN r).map (x::·)|_=>none
noncomputable def jg(cl i:Nat)(H:Hp):ae (V×Hp):=match H[i]?with|some (.ins fs)=>if fs.map (·.1)=iK cl then(lN fs).map λB=>(.d (.obj cl B),H.take i)else none|_=>none
noncomputable def NC(cl b:Nat)(C:ab ME):ME:=λc l H=>(mW C c l H).bind λr=>(c.call r.2.length b (.ins cl r.2.length::r.1) (r.2++[.ins []])).bind λq=>(QR q.1).bind λ_=>jg cl r.2.length q.2
noncomputable def itemAt(Z:ab D)(n:Int):ae D:=if n<0then(if(Z.length:Int)+n<0then none else Z[((Z.length:Int)+n).toNat]?)else Z[n.toNat]?
noncomputable def strAt(s:Str)(n:Int):ae D:=if n<0\/1000000<n then none else(s.cps[n.toNat]?).map λc=>.str ⟨#[c]⟩
noncomputable def fZ(v:V)(k:D)(H:Hp):ae V:=match v with
 |.d x=>match x with|.tup Z=>nK k λn=>(itemAt Z n).map .d|.lst Z=>nK k λn=>(itemAt Z n).map .d|.str s=>nK k λn=>(strAt s n).map .d|_=>none
 |.ref i=>match H[i]?with|some (.lst Z _)=>nK k λn=>(itemAt Z n).map .d|some (.eJ B _)=>if k.sort.any λq=>eg q B then(match hW k B with|some (some v)=>some (.d v)|_=>none)else none|_=>none
 |.ins _ _=>none
noncomputable def NF(o k:ME):ME:=λc l H=>(o c l H).bind λr=>(eD k c l r.2).bind λq=>(fZ r.1 q.1 q.2).map λv=>(v,q.2)
noncomputable def G6(o:ME)(n:Nat):ME:=λc l H=>(o c l H).bind λr=>(M8 n r.1).map λv=>(v,r.2)
noncomputable def ND(o:ME):ME:=λc l H=>(o c l H).bind λr=>(Ox r.1).map λv=>(v,r.2)
noncomputable def Kw(cl:Nat)(a:Nat)(B:ab D):ae D:=((iK cl).zip B).lookup a
noncomputable def kA(v:V)(a:Nat)(H:Hp):ae V:=match v with
 |.ins _ i=>match H[i]?with|some (.ins fs)=>fs.lookup a|_=>none
 |.d (.obj cl B)=>(Kw cl a B).map .d|_=>none
noncomputable def Ia(o:ME)(a:Nat):ME:=λc l H=>(o c l H).bind λr=>(kA r.1 a r.2).map λv=>(v,r.2)
noncomputable abbrev mO:=ab ((Nat×Nat)×Nat)
noncomputable def strsOf:ab D->ae (ab Str)|[]=>some []|.str s::r=>(strsOf r).map (s::·)|_=>none
noncomputable def kn(x:Str):ab D->ae Nat|[]=>none|.str y::r=>if y==x then some 0 else(kn x r).map (· +1)|_=>none
noncomputable def Dm:ab V->ae D|[v]=>IJ v|_=>none
noncomputable def Gz:ab V->ae (D×D)|[v,u]=>(IJ v).bind λa=>(IJ u).map λb=>(a,b)|_=>none
noncomputable def VI(i:Nat)(x:D)(Z:ab D)(md:Mode)(H:Hp):ae (V×Hp):=if md=.fz\/big<=Z.length then none else some (.d .fS,H.set i (.lst (Z++[x]) md))
noncomputable def UO(i:Nat)(x:D)(Z:ab D)(md:Mode)(H:Hp):ae (V×Hp):=LF x λys=>if md=.fz\/big<Z.length+ys.length then none else some (.d .fS,H.set i (.lst (Z++ys) md))
noncomputable def WL(i:Nat)(x:D)(Z:ab D)(md:Mode)(H:Hp):ae (V×Hp):=nK x λz=>match Z with|y::ys=>if z=0/\md≠.fz then some (.d y,H.set i (.lst ys md))else none|[]=>none
noncomputable def Oh(i m:Nat)(x:D)(Z:ab D)(md:Mode)(H:Hp):ae (V×Hp):=if m=100then VI i x Z md H else if m=101then UO i x Z md H else if m=102then WL i x Z md H else none
noncomputable def Kf(m:Nat)(p:D×D)(B:ab (D×D))(H:Hp):ae (V×Hp):=if m=103/\(p.1.sort.any λq=>eg q B)=true then(hW p.1 B).map λr=>(.d (r.getD p.2),H)else none
noncomputable def Sn(m:Nat)(x:D)(s:Str)(H:Hp):ae (V×Hp):=LF x λZ=>(strsOf Z).bind λG=>if m=104/\G.foldl (λa p=>a+p.length+s.length) 0<=big/\(aas s G).length<=big then some (.d (.str (aas s G)),H)else none
noncomputable def R7(m:Nat)(x:D)(Z:ab D)(H:Hp):ae (V×Hp):=Qc x λs=>if m=105then(kn s Z).map λ(n:Nat)=>(.d (.int (n:Int)),H)else none
noncomputable def fJ(C:mO)(Y:Cx)(v:V)(m:Nat)(args:ab V)(H:Hp):ae (V×Hp):=match v with
 |.ins cl i=>match H[i]?with|some (.ins _)=>if 110<=m then(C.lookup (cl,m)).bind λf=>Y.call Y.wm f (v::args) H else none|_=>none
 |.ref i=>match H[i]?with|some (.lst Z md)=>(Dm args).bind λx=>Oh i m x Z md H|some (.eJ B _)=>(Gz args).bind λp=>Kf m p B H|_=>none
 |.d x=>match x with|.eJ I U=>(Gz args).bind λp=>Kf m p (I.zip U) H|.str s=>(Dm args).bind λx=>Sn m x s H|.tup Z=>(Dm args).bind λx=>R7 m x Z H|_=>none
noncomputable def iZ(C:mO)(v:V)(m:Nat)(H:Hp):bt:=match v with|.ins cl i=>(match H[i]?with|some (.ins _)=>decide (110<=m)&&(C.lookup (cl,m)).isSome|_=>false)|.ref i=>(match H[i]?with|some (.lst _ _)=>decide (m=100\/m=101\/m=102)|some (.eJ _ _)=>decide (m=103)|_=>false)|.d (.eJ _ _)=>decide (m=103)|.d (.str _)=>decide (m=104)|.d (.tup _)=>decide (m=105)|_=>false
noncomputable def FU(C:mO)(o:ME)(m:Nat)(es:ab ME):ME:=λc l H=>(o c l H).bind λr=>if iZ C r.1 m r.2then(mW es c l r.2).bind λq=>fJ C c r.1 m q.1 q.2 else none
noncomputable def binI(R:dD)(x y:Int):ae D:=match R with|.Add=>some (.int (x+y))|.Sub=>some (.int (x-y))|.Mult=>if x.natAbs<2^30/\y.natAbs<2^30then some (.int (x*y))else none|.FloorDiv=>if 0<y/\y<1073741824/\x.natAbs<1073741824then some (.int (agV x y))else none|.Mod=>if 0<y then some (.int (abV x y))else none|.Pow=>if x=2/\0<=y/\y<30then some (.int (2^y.toNat))else none|.BitAnd=>some (.int (cD x y))|_=>none
noncomputable def PG(R:dD)(x y:Str):ae D:=match R with|.Add=>if x.length+y.length<=big then some (.str (x++y))else none|_=>none
noncomputable def fv(R:dD)(a b:D):ae D:=match a with
 |.int x=>match b with|.int y=>binI R x y|_=>none
 |.str x=>match b with|.str y=>PG R x y|_=>none
 |_=>none
noncomputable def Nl(R:dD)(a b:ME):ME:=λc l H=>(eD a c l H).bind λx=>(eD b c l x.2).bind λy=>(fv R x.1 y.1).map λz=>(.d z,y.2)
noncomputable def Oe(i:Int):ME:=λ_ _ H=>some (.d (.int (-i)),H)
noncomputable def rE(x:D)(v:V)(H:Hp):ae bt:=match v with
 |.d (.tup Z)=>D.has x Z|.d (.lst Z)=>D.has x Z|.d (.str s)=>match x with|.str t=>if t.cps.size=1then some (!(cO s t 0 s.length 1).isEmpty)else none|_=>none
 |.d (.eJ I U)=>if x.sort.any λq=>eg q (I.zip U)then(hW x (I.zip U)).map (·.isSome)else none|.ref i=>match H[i]?with|some (.lst Z _)=>D.has x Z|some (.eJ B _)=>if x.sort.any λq=>eg q B then(hW x B).map (·.isSome)else none|_=>none
 |_=>none
noncomputable def f6(R:afg)(a:D)(b:V)(H:Hp):ae bt:=match R with
 |.Eq=>match b with|.d y=>D.eqv a y|_=>none
 |.NotEq=>match b with|.d y=>(D.eqv a y).map (!·)|_=>none
 |.Lt=>match a,b with|.int x,.d (.int y)=>some (decide (x<y))|_,_=>none
 |.LtE=>match a,b with|.int x,.d (.int y)=>some (decide (x<=y))|_,_=>none
 |.Gt=>match a,b with|.int x,.d (.int y)=>some (decide (y<x))|_,_=>none
 |.GtE=>match a,b with|.int x,.d (.int y)=>some (decide (y<=x))|_,_=>none
 |.In=>rE a b H|.NotIn=>(rE a b H).map (!·)|_=>none
noncomputable def Ot(R:afg)(a b:ME):ME:=λc l H=>(eD a c l H).bind λx=>(b c l x.2).bind λy=>(f6 R x.1 y.1 y.2).map λz=>(.d (.bool z),y.2)
noncomputable def isNone:V->bt|.d .fS=>true|_=>false
noncomputable def A7(I:bt)(a:ME):ME:=λc l H=>(a c l H).map λr=>(.d (.bool (isNone r.1!=I)),r.2)
noncomputable def tE(m:ME):MT:=λc l H=>(m c l H).bind λr=>(jo r.1 r.2).map λb=>(b,r.2)
noncomputable def Qv(t:MT):MT:=λc l H=>(t c l H).map λr=>(!r.1,r.2)
noncomputable def gO:ab MT->MT|[]=>λ_ _ H=>some (true,H)|t::ts=>λc l H=>(t c l H).bind λr=>match r.1with|true=>gO ts c l r.2|false=>some (false,r.2)
noncomputable def Ch:ab MT->MT|[]=>λ_ _ H=>some (false,H)|t::ts=>λc l H=>(t c l H).bind λr=>match r.1with|true=>some (true,r.2)|false=>Ch ts c l r.2
noncomputable def Vb(t:MT)(a b:ME):ME:=λc l H=>(t c l H).bind λr=>match r.1with|true=>a c l r.2|false=>b c l r.2
noncomputable def yR:ab ME->ME|[]=>tj|[m]=>m|m::C=>λc l H=>(m c l H).bind λr=>(jo r.1 r.2).bind λb=>match b with|true=>yR C c l r.2|false=>some r
noncomputable def OP:ab ME->ME|[]=>tj|[m]=>m|m::C=>λc l H=>(m c l H).bind λr=>(jo r.1 r.2).bind λb=>match b with|true=>some r|false=>OP C c l r.2
noncomputable def Tw(m:ME):ME:=λc l H=>(m c l H).bind λr=>(jo r.1 r.2).map λb=>(.d (.bool !b),r.2)
noncomputable def intsOf:ab D->ae (ab Int)|[]=>some []|.int i::r=>(intsOf r).map (i::·)|_=>none
noncomputable def boolsOf:ab D->ae (ab bt)|[]=>some []|.bool b::r=>(boolsOf r).map (b::·)|_=>none
noncomputable def eG:ab Nat->ab Nat->bt|[],_=>true|_::_,[]=>false|a::r,b::t=>if Nat.blt a b then true else if aah a b then eG r t else false
noncomputable def jZ(a b:Str):bt:=eG a.cps.toList b.cps.toList
noncomputable def gp{c:Type}(B:c->c->bt)(a:c):ab c->ab c|[]=>[a]|b::r=>if B a b then a::b::r else b::gp B a r
noncomputable def sortBy{b:Type}(B:b->b->bt):ab b->ab b|[]=>[]|a::r=>gp B a (sortBy B r)
noncomputable def mL(Z:ab D):ae (ab D):=if 64<=Z.length then none else match intsOf Z with|some I=>some ((sortBy (λa b=>decide (a<=b)) I).map .int)|none=>match strsOf Z with|some G=>some ((sortBy jZ G).map .str)|none=>none
noncomputable def jq(i:Int):ae Str:=if 0<=i/\i<10then some ⟨#[48+i.toNat]⟩else none
noncomputable def jm(s:Str):ae Int:=match s.cps.toList with|[c]=>if 48<=c/\c<58then some ((c-48:Nat):Int)else none|_=>none
noncomputable def J7(v:V)(H:Hp):ae Nat:=match v with|.d (.str s)=>if s.cps.size<=big then some s.cps.size else none|v=>(jB v H).map bq
noncomputable def anyB(v:V):ae D:=match v with
 |.d x=>match x with|.lst Z=>(boolsOf Z).map λb=>.bool (b.any id)|_=>none
 |_=>none
noncomputable def zA(v:V):ae D:=match v with
 |.d x=>match x with|.int i=>(jq i).map .str|_=>none
 |_=>none
noncomputable def P4(v:V):ae D:=match v with
 |.d x=>match x with|.str s=>(jm s).map .int|_=>none
 |_=>none
noncomputable def Im(v:V)(H:Hp):ae D:=match v with
 |.d x=>match x with|.lst Z=>some (.tup Z)|.tup Z=>some (.tup Z)|_=>none
 |.ref i=>match H[i]?with|some (.lst Z _)=>some (.tup Z)|_=>none
 |_=>none
noncomputable def intD:V->ae Int
 |.d x=>match x with|.int i=>some i|_=>none
 |_=>none
noncomputable def t5(f:Nat)(v:V)(H:Hp):ae D:=if f=200then(J7 v H).map λ(n:Nat)=>.int (n:Int)else if f=201then((jB v H).bind mL).map .lst else if f=203then anyB v else if f=204then zA v else if f=205then P4 v else if f=207then Im v H else none
noncomputable def VF(f:Nat)(v u:V):ae D:=if f=206then(intD v).bind λa=>(intD u).map λb=>.int (max a b)else none
noncomputable def iw(f:Nat)(args:ab V)(H:Hp):ae D:=match args with|[]=>none|v::r=>match r with|[]=>t5 f v H|u::r=>match r with|[]=>VF f v u|_::_=>none
noncomputable def yp:ab ME->Cx->Loc->Hp->ae (ab V×Hp)|[],_,_,H=>some ([],H)|m::C,c,l,H=>(m c l H).bind λr=>(yp C c l r.2).map λq=>(r.1::q.1,q.2)
noncomputable def Qt(f:Nat)(C:ab ME):ME:=λc l H=>(yp C c l H).bind λr=>(iw f r.1 r.2).map λd=>(.d d,r.2)
noncomputable def N2(m:ME):MI:=λc l H=>(m c l H).bind λr=>jk r.1 r.2
noncomputable def sO(x:D)(H:Hp):ae (ab D×Hp):=nK x λn=>if 0<=n/\n<2^20then some ((bz n.toNat).map λ(i:Nat)=>D.int (i:Int),H)else none
noncomputable def yH(m:ME):MI:=λc l H=>(eD m c l H).bind λr=>sO r.1 r.2
inductive Tg where|one(i:Nat)|many(is:ab Nat)
noncomputable def iT:ab Nat->ab D->Loc->ae Loc|[],[],l=>some l|i::I,x::Z,l=>iT I Z (l.set i (some (.d x)))|_,_,_=>none
noncomputable def hO(t:Tg)(x:D)(l:Loc):ae Loc:=match t with|.one i=>some (l.set i (some (.d x)))|.many I=>match x with|.tup Z=>iT I Z l|_=>none
noncomputable def fa(elt:ME)(tg:Tg)(cs:MT)(c:Cx):ab D->Loc->Hp->ae (ab D×Hp)|[],_,H=>some ([],H)|x::Z,l,H=>(hO tg x l).bind λj=>(cs c j H).bind λb=>match b.1with|true=>(eD elt c j b.2).bind λr=>(fa elt tg cs c Z j r.2).map λq=>(r.1::q.1,q.2)|false=>fa elt tg cs c Z j b.2
noncomputable def sL(elt:ME)(tg:Tg)(k:Nat)(j:MI)(cs:ab MT):ME:=λc l H=>(j c l H).bind λr=>(fa elt tg (gO cs) c r.1 (l++bL k none) r.2).map λq=>(.d (.lst q.1),q.2)
noncomputable def pZ(elt:ME)(tg:Tg)(k:Nat)(j:MI)(cs:ab MT):ME:=λc l H=>(j c l H).bind λr=>(fa elt tg (gO cs) c r.1 (l++bL k none) r.2).map λq=>(.ref q.2.length,q.2++[.lst q.1 .sh])
noncomputable def Ac:MS:=λ_ _ _=>none
noncomputable def d5:ab MS->MS|[]=>λ_ l H=>some (.er,l,H)|s::G=>λc l H=>(s c l H).bind λr=>match r.1with|.er=>d5 G c r.2.1 r.2.2|f=>some (f,r.2)
noncomputable def wM(i:Nat)(m:ME):MS:=λc l H=>(m c l H).map λr=>(.er,l.set i (some r.1),r.2)
noncomputable def PL(I:ab Nat)(v:V)(l:Loc):ae Loc:=(IJ v).bind λx=>SW x λZ=>iT I Z l
noncomputable def F4(I:ab Nat)(m:ME):MS:=λc l H=>(m c l H).bind λr=>(PL I r.1 l).map λl'=>(.er,l',r.2)
noncomputable def kU(a:Nat)(v:V):ab (Nat×V)->ab (Nat×V)|[]=>[(a,v)]|(b,w)::r=>if b=a then(b,v)::r else(b,w)::kU a v r
noncomputable def V.plain:V->bt|.d _=>true|_=>false
noncomputable def UY(wm:Nat)(w:V)(a i:Nat)(H:Hp):ae Cell->ae Hp|some (.ins fs)=>if(w.plain||decide (wm<=i))&&decide (fs.length<100)then some (H.set i (.ins (kU a w fs)))else none|_=>none
noncomputable def MW(wm:Nat)(w:V)(a:Nat)(v:V)(H:Hp):ae Hp:=match v with|.ins _ i=>UY wm w a i H H[i]?|_=>none
noncomputable def Bu(o:ME)(a:Nat)(m:ME):MS:=λc l H=>(m c l H).bind λr=>(o c l r.2).bind λq=>(MW c.wm r.1 a q.1 q.2).map λH=>(.er,l,H)
noncomputable def T7(k x:D)(i:Nat)(H:Hp):ae Cell->ae Hp|some (.eJ B f)=>bif f then none else if(k.sort.any λk=>eg k B)/\B.length<big then(jN k x B).map λb=>H.set i (.eJ b false)else none|_=>none
noncomputable def II(k x:D)(v:V)(H:Hp):ae Hp:=match v with|.ref i=>T7 k x i H H[i]?|_=>none
noncomputable def Er(o k m:ME):MS:=λc l H=>(eD m c l H).bind λr=>(o c l r.2).bind λq=>(eD k c l q.2).bind λp=>(II p.1 r.1 q.1 p.2).map λH=>(.er,l,H)
noncomputable def PU(R:dD)(x y:D):ae D:=match R with|.Add=>nK x λa=>nK y λb=>some (.int (a+b))|_=>none
noncomputable def Oy(i:Nat)(R:dD)(m:ME):MS:=λc l H=>(eD (vc i) c l H).bind λx=>(eD m c l x.2).bind λy=>(PU R x.1 y.1).map λz=>(.er,l.set i (some (.d z)),y.2)
noncomputable def D.flat:D->bt|.fS|.bool _|.int _|.str _=>true|_=>false
noncomputable def Gy(v:V):ae agO:=(IJ v).bind λx=>Rr x.flat
noncomputable def GN(m:ME):MS:=λc l H=>(m c l H).bind λr=>(Gy r.1).map λ_=>(.er,l,r.2)
noncomputable def QC(t:MT)(a b:ab MS):MS:=λc l H=>(t c l H).bind λr=>match r.1with|true=>d5 a c l r.2|false=>d5 b c l r.2
noncomputable def hH(tg:Tg)(b:MS)(c:Cx):ab D->Loc->Hp->ae (Fl×Loc×Hp)|[],l,H=>some (.er,l,H)|x::Z,l,H=>(hO tg x l).bind λj=>(b c j H).bind λr=>match r.1with|.er|.cnt=>hH tg b c Z r.2.1 r.2.2|.brk=>some (.er,r.2)|.ret v=>some (.ret v,r.2)
noncomputable def Oi(tg:Tg)(j:MI)(b:ab MS):MS:=λc l H=>(j c l H).bind λr=>hH tg (d5 b) c r.1 l r.2
noncomputable def PR(m:ME):MS:=λc l H=>(m c l H).map λr=>(.ret r.1,l,r.2)
noncomputable def EF:MS:=λ_ l H=>some (.ret (.d .fS),l,H)
noncomputable def Pk:MS:=λ_ l H=>some (.cnt,l,H)
noncomputable def MB:MS:=λ_ l H=>some (.er,l,H)
end
section
universe u
noncomputable def fw:ab Str->Nat->Str->ae Nat|[],_,_=>none|y::r,n,x=>match fw r (n+1) x with|some i=>some i|none=>if PySem.W.Fast.sEq y x then some n else none
noncomputable def ey(O:ab Str)(x:Str):ae Nat:=fw O 0 x
noncomputable def nR(N:b7)(x:Str):ae ac7:=(N.names.find? λp=>PySem.W.Fast.sEq p.1 x).map (·.2)
noncomputable def tL(x:Str):bt:=!PySem.W.Fast.sEq x (aa "__debug__")&&!PySem.W.Fast.sEq x (aa "__classdict__")
noncomputable def isVar(N:b7)(x:Str):bt:=tL x&&match nR N x with|some .local|some .cell|some .free=>true|_=>false
noncomputable def jc(N:b7)(x:Str):bt:=tL x&&match nR N x with|some .globalImplicit=>true|_=>false
noncomputable def g0(N:b7)(x:Str):bt:=tL x&&match nR N x with|some .local|some .cell=>true|_=>false
noncomputable def lJ{M:PySem.Expr->Sort u}(e:PySem.Expr)(o:∀e,M e)(r:∀c k p,M (.Constant c k p))(B:∀x p,M (.Name x p))(E:∀es k p,M (.Tuple es k p))(A:∀es p,M (.List es p))(s:∀I U p,M (.Dict I U p))(G:∀R x p,M (.UnaryOp R x p))(i:∀a R b p,M (.BinOp a R b p))(j:∀R es p,M (.BoolOp R es p))(y:∀t a b p,M (.IfExp t a b p))(q:∀a d l p,M (.Compare a d l p))(m:∀f as I p,M (.Call f as I p))(g:∀x a p,M (.Attribute x a p))(sub:∀x k p,M (.Subscript x k p))(z:∀x Z N p,M (.ListComp x Z N p))(C:∀a b c p,M (.Slice a b c p)):M e:=match e with|.Constant c k p=>r c k p|.Name x p=>B x p|.Tuple es k p=>E es k p|.List es p=>A es p|.Dict I U p=>s I U p|.UnaryOp R x p=>G R x p|.BinOp a R b p=>i a R b p|.BoolOp R es p=>j R es p|.IfExp t a b p=>y t a b p|.Compare a d l p=>q a d l p|.Call f as I p=>m f as I p|.Attribute x a p=>g x a p|.Subscript x k p=>sub x k p|.ListComp x Z N p=>z x Z N p|.Slice a b c p=>C a b c p|e=>o e
section
variable{M:PySem.Expr->Sort u}(e:PySem.Expr)(o:∀e,M e)
noncomputable def wo(f:∀x p,M (.Name x p)):M e:=lJ e o (λ_ _ _=>o _) f (λ_ _ _=>o _) (λ_ _=>o _) (λ_ _ _=>o _) (λ_ _ _=>o _) (λ_ _ _ _=>o _) (λ_ _ _=>o _) (λ_ _ _ _=>o _) (λ_ _ _ _=>o _) (λ_ _ _ _=>o _) (λ_ _ _=>o _) (λ_ _ _=>o _) (λ_ _ _ _=>o _) (λ_ _ _ _=>o _)
noncomputable def uG(f:∀c k p,M (.Constant c k p)):M e:=lJ e o f (λ_ _=>o _) (λ_ _ _=>o _) (λ_ _=>o _) (λ_ _ _=>o _) (λ_ _ _=>o _) (λ_ _ _ _=>o _) (λ_ _ _=>o _) (λ_ _ _ _=>o _) (λ_ _ _ _=>o _) (λ_ _ _ _=>o _) (λ_ _ _=>o _) (λ_ _ _=>o _) (λ_ _ _ _=>o _) (λ_ _ _ _=>o _)
noncomputable def Ng(f:∀es p,M (.List es p)):M e:=lJ e o (λ_ _ _=>o _) (λ_ _=>o _) (λ_ _ _=>o _) f (λ_ _ _=>o _) (λ_ _ _=>o _) (λ_ _ _ _=>o _) (λ_ _ _=>o _) (λ_ _ _ _=>o _) (λ_ _ _ _=>o _) (λ_ _ _ _=>o _) (λ_ _ _=>o _) (λ_ _ _=>o _) (λ_ _ _ _=>o _) (λ_ _ _ _=>o _)
noncomputable def Fj(f:∀a as I p,M (.Call a as I p)):M e:=lJ e o (λ_ _ _=>o _) (λ_ _=>o _) (λ_ _ _=>o _) (λ_ _=>o _) (λ_ _ _=>o _) (λ_ _ _=>o _) (λ_ _ _ _=>o _) (λ_ _ _=>o _) (λ_ _ _ _=>o _) (λ_ _ _ _=>o _) f (λ_ _ _=>o _) (λ_ _ _=>o _) (λ_ _ _ _=>o _) (λ_ _ _ _=>o _)
noncomputable def VE(f:∀R x p,M (.UnaryOp R x p)):M e:=lJ e o (λ_ _ _=>o _) (λ_ _=>o _) (λ_ _ _=>o _) (λ_ _=>o _) (λ_ _ _=>o _) f (λ_ _ _ _=>o _) (λ_ _ _=>o _) (λ_ _ _ _=>o _) (λ_ _ _ _=>o _) (λ_ _ _ _=>o _) (λ_ _ _=>o _) (λ_ _ _=>o _) (λ_ _ _ _=>o _) (λ_ _ _ _=>o _)
noncomputable def MJ(f:∀x p,M (.Name x p))(g:∀es k p,M (.Tuple es k p)):M e:=lJ e o (λ_ _ _=>o _) f g (λ_ _=>o _) (λ_ _ _=>o _) (λ_ _ _=>o _) (λ_ _ _ _=>o _) (λ_ _ _=>o _) (λ_ _ _ _=>o _) (λ_ _ _ _=>o _) (λ_ _ _ _=>o _) (λ_ _ _=>o _) (λ_ _ _=>o _) (λ_ _ _ _=>o _) (λ_ _ _ _=>o _)
end
noncomputable def Jh(k:Nat)(e:PySem.Expr):bt:=e.ctorIdx.beq k
noncomputable def noStar:ab PySem.Expr->bt|[]=>true|e::r=>bif Jh 22 e then false else noStar r
noncomputable def iY(e:PySem.Expr):bt:=!Jh 7 e
noncomputable def isName(e:PySem.Expr):bt:=Jh 23 e
noncomputable def baseOk(e:PySem.Expr):bt:=Fj e (M:=λ_=>bt) (λ_=>true) λf as I _=>!(Jh 23 f&&as.isEmpty&&I.isEmpty)
noncomputable def iX(N G:b7):b7:={G with names:=G.names.map λp=>if p.2==.free&&(match nR N p.1with|some .cell=>true|_=>false)then(p.1,.cell)else p}
noncomputable def og(N G:b7)(O ts:ab Str):bt:=(match G.kind with|.function=>true|_=>false)&&(match N.kind with|.function=>true|_=>false)&&(G.names.all λp=>match p.2with|.cell=>false|.local=>(match nR G p.1with|some .local=>true|_=>false)&&(ts.any (λt=>PySem.W.Fast.sEq t p.1)||(ey O p.1).isNone)|.free=>isVar N p.1&&(match nR N p.1with|some .local=>false|_=>true)&&(ey O p.1).isSome|_=>true)&&ts.all λt=>match nR G t with|some .local=>true|_=>false
noncomputable def look{b:Type}(l:ab (Str×b))(x:Str):ae b:=(l.find? λp=>PySem.W.Fast.sEq p.1 x).map (·.2)
noncomputable def Fm:Const->ae D|.none=>some .fS|.bool b=>some (.bool b)|.int i=>some (.int i)|.str s=>some (.str s)|_=>none
noncomputable def Nb(O:ab Str)(e:PySem.Expr):ae Nat:=wo e (M:=λ_=>ae Nat) (λ_=>none) λx _=>ey O x
noncomputable def qa(O:ab Str)(e:PySem.Expr):ae Tg:=MJ e (M:=λ_=>ae Tg) (λ_=>none) (λx _=>(ey O x).map .one) λes _ _=>(es.mapM (Nb O)).map .many
noncomputable def Zm(e:PySem.Expr):ae Str:=wo e (M:=λ_=>ae Str) (λ_=>none) λx _=>some x
noncomputable def ej(e:PySem.Expr):ab Str:=MJ e (M:=λ_=>ab Str) (λ_=>[]) (λx _=>[x]) λes _ _=>es.filterMap Zm
structure qM where
 iq:aho
 QS:ab D
 NV:ab Str
 init:bt
noncomputable def f9(N:b7):ab Str:=(N.names.filter λp=>match p.2with|.local|.cell=>true|_=>false).map (·.1)
noncomputable def fB(a:Arguments):ab Str:=a.args.map (·.arg)
noncomputable def uB(k:Nat)(args:ab V)(Z:ab D):ae (ab V):=if args.length<=k/\k<=args.length+Z.length then some (args++(Z.drop (args.length+Z.length-k)).map .d)else none
end
noncomputable def fu(k:dA)(a:Nat):Str×Nat×ab D:=(aa k,a,[])
noncomputable def uF:ab (Str×Nat×ab D):=[fu "_wall" 21,fu "kind_of" 150,(aa "str_type",158,[.int 0]),(aa "num_type",166,[.int 0]),(aa "array_type",174,[.int 0]),fu "last_mark" 181,fu "needed_to_last" 188,fu "one_rest" 195,(aa "tuple_type",201,[.int 0]),fu "sorted_props" 206,(aa "obj_type",218,[.tup [],.tup [],.tup [],.tup [],.int 0]),(aa "sig_type",227,[.tup [],.int 0]),fu "func_type" 234,(aa "new_param",242,[.int (-1),.int (-1)]),fu "parts_of" 249,fu "whole_of_row" 256,fu "regular_twin" 263,fu "join_bools" 270,fu "stays_beside" 277,fu "top_of" 284,fu "union" 289,fu "without" 294,fu "add_undef" 301,fu "common_family" 306,fu "meet_family" 313,fu "family" 320,fu "plain_shape" 328,fu "told_places" 515,fu "list_decl" 522,fu "find_prop" 529,fu "prop_row" 536,fu "index_of" 543,fu "index_of_parts" 550,fu "is_open" 558,fu "unit_word" 565,fu "key_text" 572,fu "digits_back" 579,fu "picked" 586,fu "is_public" 593,fu "list_keys" 598,fu "is_homomorphic" 645,fu "plain_index" 652,fu "is_late_alias" 657,fu "undefless" 664,fu "optional_form" 671,fu "readonly_after" 678,fu "template_at" 685,fu "member_opt" 692,fu "member_kind" 699,fu "kindmap_member_flags" 706,fu "names_for" 713,fu "put_member" 741,fu "build_members" 748,fu "shape_entries" 755,fu "bare_entries" 760,fu "map_array" 767,fu "spare_elem" 774,fu "map_elem" 781,fu "map_tuple" 788,fu "is_primitive" 795,fu "map_over" 800,fu "defer_over" 807,fu "map_named" 814,fu "index_cell" 821,fu "pick_entry" 828,fu "key_texts" 835,fu "met_entries" 840,fu "map_picked" 847,fu "map_kind" 854,fu "put_each" 859,fu "put_cell" 866,fu "put_shape" 871,fu "plainput_put_elems" 876,fu "put_call" 881,fu "without_own" 888,fu "put_late" 895,fu "plain_put" 902,fu "_law_next" 938,fu "_law_join" 943,fu "_law_word" 950,fu "_law_parts" 957,fu "_law_kind" 964,fu "_law_type" 971,fu "_law_make" 976,fu "_law_object" 983,fu "_law_list" 990,fu "_law_source" 995,fu "_law_slot" 1000,fu "_law_shut" 1007,fu "_law_text" 1012,fu "_law_seen" 1019,fu "_law_one" 1024,fu "_law_show" 1031,fu "_law_read" 1038,fu "_law_map" 1043,fu "_law_row" 1050,fu "_law_step" 1055,fu "law" 1060]
noncomputable def mc:ab (Str×Nat×Nat×bt):=[(aa "TypeTable",139,122,false),(aa "Made",634,612,false),(aa "Keyed",730,727,true),(aa "PutHost",926,916,false)]
noncomputable def ci(k:dA)(n:Nat):Str×D:=(aa k,.int n)
noncomputable def AM:ab (Str×D):=[ci "Y_KEY" 1,ci "Y_BOOL" 2,ci "Y_STR" 3,ci "Y_NUM" 4,ci "Y_ENUM" 5,ci "Y_UNION" 6,ci "Y_INTER" 7,ci "Y_OBJ" 8,ci "Y_REF" 9,ci "Y_PARAM" 10,ci "Y_ARRAY" 11,ci "Y_TUPLE" 12,ci "Y_SIG" 13,ci "Y_KEYOF" 14,ci "Y_INDEX" 15,ci "Y_COND" 16,ci "Y_MAPPED" 17,ci "Y_TPL" 18,ci "Y_ALIAS" 19,ci "ANY" 0,ci "UNKNOWN" 1,ci "NEVER" 2,ci "VOID" 3,ci "UNDEF" 4,ci "NULLT" 5,ci "STRING" 6,ci "NUMBER" 7,ci "FALSE_T" 8,ci "TRUE_T" 9,ci "OBJECTT" 10,ci "EMPTY" 11,ci "ERR" 13,ci "FRESH_F" 14,ci "FRESH_T" 15,ci "P_OPT" 1,ci "P_READONLY" 2,ci "P_METHOD" 4,ci "P_PRIVATE" 8,ci "P_PROTECTED" 16,ci "P_GETONLY" 32,ci "E_NEED" 0,ci "E_OPT" 1,ci "E_REST" 2,ci "E_SPREAD" 3,ci "FAM_OTHER" 0,ci "FAM_STR" 1,ci "FAM_NUM" 2,ci "FAM_BOOL" 3,ci "FAM_NULL" 4,ci "FAM_UNDEF" 5,ci "FAM_VOID" 6,ci "FAM_OBJ" 7,ci "MAX_UNION" 400,(aa "FIRST_ROWS",.tup [.tup [.int 1,.str (aa "any")],.tup [.int 1,.str (aa "unknown")],.tup [.int 1,.str (aa "never")],.tup [.int 1,.str (aa "void")],.tup [.int 1,.str (aa "undefined")],.tup [.int 1,.str (aa "null")],.tup [.int 1,.str (aa "string")],.tup [.int 1,.str (aa "number")],.tup [.int 2,.int 0,.int 0],.tup [.int 2,.int 1,.int 0],.tup [.int 1,.str (aa "object")],.tup [.int 8,.tup [],.tup [],.tup [],.tup [],.tup [],.int 0],.tup [.int 6,.tup [.int 8,.int 9]],.tup [.int 1,.str (aa "error")],.tup [.int 2,.int 0,.int 1],.tup [.int 2,.int 1,.int 1]]),(aa "MARKED_ROWS",.tup [.int 2,.int 3,.int 4,.int 5,.int 8]),(aa "OBJECT_ROWS",.tup [.int 8,.int 9,.int 11,.int 12,.int 13]),(aa "KEY_FAMILIES",.eJ [.int 3,.int 4,.int 5,.int 6,.int 7,.int 10] [.int 6,.int 5,.int 4,.int 1,.int 2,.int 7]),ci "MOST_PLAIN" 40,(aa "PLAIN_ROWS",.tup [.int 1,.int 2,.int 3,.int 4,.int 5]),ci "MOST_ROUNDS" 200,ci "MOST_SHAPES" 40,ci "TOP_NUMBER" 9007199254740991,(aa "OPEN_KINDS",.tup [.int 10,.int 14,.int 15,.int 16,.int 17,.int 19]),(aa "_law_keys",.tup [.str (aa "any"),.str (aa "unknown"),.str (aa "never"),.str (aa "void"),.str (aa "undefined"),.str (aa "null"),.str (aa "string"),.str (aa "number"),.str (aa "false"),.str (aa "true"),.str (aa "object")]),(aa "_law_words",.tup [.str (aa "\"a\""),.str (aa "0"),.str (aa "undefined"),.str (aa "\"b\""),.str (aa "null"),.str (aa "1"),.str (aa "string"),.str (aa "true"),.str (aa "number"),.str (aa "false")]),(aa "_law_written",.tup [.str (aa "\"p\""),.str (aa "0"),.str (aa "string"),.str (aa "\"z\""),.str (aa "number"),.str (aa "\"q\""),.str (aa "1")])]
noncomputable def qQ:ab (Str×Nat):=[(aa "len",200),(aa "sorted",201),(aa "any",203),(aa "str",204),(aa "int",205),(aa "max",206),(aa "tuple",207)]
noncomputable def gT:ab (Str×Nat):=[(aa "rows",0),(aa "decls",2),(aa "bounds",3),(aa "defaults",4),(aa "names",5),(aa "origins",6),(aa "renamed",7),(aa "shaping",8),(aa "putting",9),(aa "tab",10),(aa "key",11),(aa "prop",12),(aa "index",13),(aa "sindex",14),(aa "nindex",15),(aa "deep",16),(aa "most_rounds",17),(aa "most_deep",18)]
noncomputable def nV:ab (Str×Nat):=[(aa "append",100),(aa "extend",101),(aa "pop",102),(aa "get",103),(aa "join",104),(aa "index",105),(aa "row",110),(aa "put",111),(aa "add",112),(aa "add_index",113),(aa "done",114),(aa "force",115),(aa "put_deferred",116),(aa "put_cond",117),(aa "shape",118),(aa "put_in",119),(aa "list_prop",120),(aa "list_index",121)]
noncomputable def dP:mO:=[((139,110),129),((139,111),136),((634,112),619),((634,113),626),((634,114),631),((926,115),349),((926,116),356),((926,117),363),((926,118),489),((926,119),923),((926,120),447),((926,121),454)]
noncomputable def rt(a i:Nat):Nat×qM:=(a,⟨fA i,[],[],false⟩)
noncomputable def rU:ab (Nat×qM):=[rt 21 0,(36,⟨(kG 2 0),[.str (aa "")],[],true⟩),(57,⟨(kG 3 0),[.int 2589,.str (aa "")],[],true⟩),(77,⟨(kG 4 0),[.str (aa "")],[],true⟩),(122,⟨(kG 63 0),[],[],true⟩),(129,⟨(kG 63 1),[],[],false⟩),(136,⟨(kG 63 2),[],[],false⟩),rt 150 64,(158,⟨(fA 65),[.int 0],[],false⟩),(166,⟨(fA 66),[.int 0],[],false⟩),(174,⟨(fA 67),[.int 0],[],false⟩),rt 181 68,(188,⟨(fA 69),[],[aa "out"],false⟩),(195,⟨(fA 70),[],[aa "held"],false⟩),(201,⟨(fA 71),[.int 0],[],false⟩),rt 206 72,(218,⟨(fA 73),[.tup [],.tup [],.tup [],.tup [],.int 0],[],false⟩),(227,⟨(fA 74),[.tup [],.int 0],[],false⟩),rt 234 75,(242,⟨(fA 76),[.int (-1),.int (-1)],[],false⟩),rt 249 77,rt 256 78,rt 263 79,rt 270 80,rt 277 81,rt 284 82,rt 289 83,rt 294 84,rt 301 85,rt 306 86,rt 313 87,rt 320 88,rt 328 92,(342,⟨(kG 96 0),[],[],true⟩),(349,⟨(kG 96 1),[],[],false⟩),(356,⟨(kG 96 2),[],[],false⟩),(363,⟨(kG 96 3),[],[],false⟩),(370,⟨(kG 96 4),[],[],false⟩),(377,⟨(kG 96 5),[],[],false⟩),(384,⟨(kG 96 6),[],[],false⟩),(391,⟨(kG 96 7),[],[],false⟩),(398,⟨(kG 96 8),[],[],false⟩),(405,⟨(kG 96 9),[],[],false⟩),(412,⟨(kG 96 10),[],[],false⟩),(419,⟨(kG 96 11),[],[],false⟩),(426,⟨(kG 96 12),[],[],false⟩),(433,⟨(kG 96 13),[],[],false⟩),(440,⟨(kG 96 14),[],[],false⟩),(447,⟨(kG 96 15),[],[],false⟩),(454,⟨(kG 96 16),[],[],false⟩),(461,⟨(kG 96 17),[],[],false⟩),(468,⟨(kG 96 18),[],[],false⟩),(489,⟨(kG 97 0),[],[],false⟩),(496,⟨(kG 97 1),[],[],false⟩),(503,⟨(kG 97 2),[],[],false⟩),rt 515 98,rt 522 99,rt 529 100,rt 536 101,rt 543 102,(550,⟨(fA 103),[],[aa "kinds"],false⟩),rt 558 107,rt 565 108,rt 572 109,rt 579 110,rt 586 112,rt 593 113,(598,⟨(fA 114),[],[aa "names"],false⟩),(612,⟨(kG 116 0),[],[],true⟩),(619,⟨(kG 116 1),[],[aa "parts"],false⟩),(626,⟨(kG 116 2),[],[],false⟩),(631,⟨(kG 116 3),[],[],false⟩),rt 645 117,rt 652 118,rt 657 119,rt 664 120,rt 671 121,rt 678 122,rt 685 123,rt 692 124,rt 699 125,rt 706 126,rt 713 127,(727,⟨(kG 128 0),[],[],true⟩),rt 741 129,rt 748 130,(755,⟨(fA 131),[],[aa "entries"],false⟩),rt 760 132,rt 767 133,rt 774 134,rt 781 135,(788,⟨(fA 136),[],[aa "elems"],false⟩),rt 795 137,rt 800 138,rt 807 139,rt 814 140,rt 821 141,rt 828 142,rt 835 143,(840,⟨(fA 144),[],[aa "entries"],false⟩),rt 847 145,rt 854 146,rt 859 148,rt 866 149,rt 871 150,rt 876 151,rt 881 152,rt 888 153,rt 895 154,rt 902 155,(916,⟨(kG 157 0),[],[],true⟩),(923,⟨(kG 157 1),[],[],false⟩),rt 938 162,(943,⟨(fA 163),[],[aa "got"],false⟩),rt 950 164,(957,⟨(fA 165),[],[aa "parts"],false⟩),rt 964 166,rt 971 167,rt 976 168,(983,⟨(fA 169),[],[aa "props",aa "slots"],false⟩),(990,⟨(fA 170),[],[aa "elems",aa "slots"],false⟩),(995,⟨(fA 171),[],[aa "types",aa "pieces"],false⟩),rt 1000 172,rt 1007 173,rt 1012 174,rt 1019 175,(1024,⟨(fA 176),[],[aa "slots"],false⟩),(1031,⟨(fA 177),[],[aa "got"],false⟩),rt 1038 178,(1043,⟨(fA 179),[],[aa "rows"],false⟩),rt 1050 180,rt 1055 181,(1060,⟨(fA 182),[],[aa "feed"],false⟩)]
noncomputable def Pc(a:Nat):ae qM:=(rU.find? λp=>aah p.1 a).map (·.2)
end Mine
end
noncomputable section
open PySem PySem.W PySem.Calls PyProof.Rows
namespace Mine
open SeqAt
section
noncomputable instance YJ:bD D:=Classical.typeDecidableEq D
noncomputable def vt:D->Nat|.fS=>0|.int _=>1|.str _=>2|.bool _=>4|_=>3
noncomputable def jA:ab Nat:=[139,634,730,926]
section
variable(w:bO)
noncomputable def wc(k:D)(v:al):bt:=match k with|.int i=>v.isInt i|.str s=>aei s v|_=>false
noncomputable def wA:D->bt|.int _=>true|.str _=>true|_=>false
noncomputable def XA:D->Int|.int i=>hashInt i|.str s=>hashStr w s|_=>0
@[elab_as_elim]theorem Jg{P:D->Prop}{k:D}(h:wA k=true)(i:∀n,P (.int n))(s:∀s,P (.str s)):P k:=by revert h;exact D.casesOn (motive_1:=λk=>wA k=true->P k) k (λh=>fO h) (λ_ h=>fO h) (λn _=>i n) (λt _=>s t) (λ_ h=>fO h) (λ_ h=>fO h) (λ_ _ h=>fO h) λ_ _ h=>fO h
theorem yl:wc k v=true->wA k=true:=D.casesOn (motive_1:=λk=>wc k v=true->wA k=true) k (λh=>h) (λ_ h=>h) (λ_ _=>rfl) (λ_ _=>rfl) (λ_ h=>h) (λ_ h=>h) (λ_ _ h=>h) λ_ _ h=>h
@[elab_as_elim]theorem Cc{P:D->al->Prop}{k:D}{v:al}(h:wc k v=true)(i:∀n t,P (.int n) (.int n t))(s:∀s t,P (.str s) (.str s t)):P k v:=Jg (P:=λk=>wc k v=true->P k v) (yl h) (λn h=>(acM h).elim λt e=>e▸i n t) (λn h=>(ach h).elim λt e=>e▸s n t) h
theorem WM(a b:Int):(a==b)=decide (D.int a=.int b):=b9.mpr (by simp)
theorem Vl(a b:Str):(a==b)=decide (D.str a=.str b):=b9.mpr (by simp)
theorem VR(a:Int)(b:Str):false=decide (D.int a=.str b):=(aC λe=>xc vt e rfl).symm
theorem We(a:Str)(b:Int):false=decide (D.str a=.int b):=(aC λe=>xc vt e rfl).symm
theorem Q8(d:wc a u=true)(c:wc b v=true):acq A s u v (decide (a=b)):=Cc d (P:=λa u=>acq A s u v (decide (a=b))) (λi t=>Cc c (P:=λb v=>acq A s (.int i t) v (decide (.int i=b))) (λj r=>WM i j▸afh i t j r) λj r=>VR i j▸afe i t j r) λi t=>Cc c (P:=λb v=>acq A s (.str i t) v (decide (.str i=b))) (λj r=>We i j▸afn i t j r) λj r=>Vl i j▸afw i t j r
noncomputable def sK:KeyKind pw w D where is:=wc;hash:=XA w;inj v a b h:=Jg (P:=λa=>wc a v=true->wc b v=true->a=b) (yl h) (λn h k=>Jg (P:=λb=>wc b v=true->.int n=b) (yl k) (λm k=>ah D.int (Value.isInt_inj v n m h k)) (λm k=>(acM h).elim λt e=>fO ((ah (aei m) e).symm.trans k)) k) (λn h k=>Jg (P:=λb=>wc b v=true->.str n=b) (yl k) (λm k=>(ach h).elim λt e=>fO ((ah (Value.isInt m) e).symm.trans k)) (λm k=>ah D.str (Value.isStrOf_inj v n m h k)) k) h;byValue _ _ h:=Cc h (λ_ _=>rfl) λ_ _=>rfl;pyHash{A E s k v Q}c:=Cc c (P:=λk v=>Q (XA w k) {s with toks:=s.toks+1}->aR (aP pw w) A (PySem.pyHash v) Q E s) (λ_ _ h=>acY h) λ_ _ h=>ac3 h;eqBool d c h:=Q8 d c _ _ _ _ h;«strs»k x t v h:=Jg (P:=λk=>wc k (.str x t)=true->wc k v=v.isStr x) (yl h) (λ_ h=>fO h) (λn h=>(PySem.strKind pw w).strs n x t v h) h
mutual inductive Rd(g:Heap):D->al->Prop|fS:Rd g .fS .none|bool(b:bt):Rd g (.bool b) (.bool b)|int(i:Int)(t:Tok):Rd g (.int i) (.int i t)|str(s:Str)(t:Tok):Rd g (.str s) (.str s t)|tup{a:b5}{U:dv al}{Z:ab D}:g.IsTuple a U->U.size<=bg->fi g Z U.toList->(∃o,g.get? a=some o/\o.dict=none)->Rd g (.tup Z) (.ref a)|lst{a:b5}{U:dv al}{Z:ab D}:g.IsList a U->U.size<=bg->fi g Z U.toList->Rd g (.lst Z) (.ref a)|eJ{a:b5}{B:ab (D×al)}{U:ab D}:g.DictOf (sK w) a B->(a==cI)=false->B.length<=bg->(∀p∈B,wA p.1=true)->fi g U (B.map (·.2))->Rd g (.eJ (B.map (·.1)) U) (.ref a)|obj{x C dx:b5}{es:ab cM}{n:Nat}{fs:ab D}{nms:ab Str}:g.get? x=some (dz C dx)->g.get? dx=some (abK es n)->acr es nms->nms.length=(iK C).length->(∀p∈nms.zip (iK C),p∈gT)->C∈jA->fi g fs (es.map (·.val))->Rd g (.obj C fs) (.ref x)inductive fi(g:Heap):ab D->ab al->Prop|nil:fi g [] []|cons{x:D}{v:al}{Z:ab D}{U:ab al}:Rd g x v->fi g Z U->fi g (x::Z) (v::U)end
end
section
variable{w:bO}{g N h:Heap}
noncomputable def Mj(w:bO)(g:Heap)(d:D)(u:al):Prop:=D.casesOn (motive_1:=λ_=>Prop) d (u=.none) (λb=>u=.bool b) (λi=>∃t,u=.int i t) (λs=>∃t,u=.str s t) (λZ=>∃a U,u=.ref a/\g.IsTuple a U/\U.size<=bg/\fi w g Z U.toList/\(∃o,g.get? a=some o/\o.dict=none)) (λZ=>∃a U,u=.ref a/\g.IsList a U/\U.size<=bg/\fi w g Z U.toList) (λI U=>∃a B,u=.ref a/\I=B.map (·.1)/\g.DictOf (sK w) a B/\(a==cI)=false/\B.length<=bg/\(∀p∈B,wA p.1=true)/\fi w g U (B.map (·.2))) λ_ _=>∃a,u=.ref a
theorem Rd.inv(h:Rd w g d u):Mj w g d u:=Rd.casesOn (motive_1:=λd u _=>Mj w g d u) h rfl (λ_=>rfl) (λ_ t=>⟨t,rfl⟩) (λ_ t=>⟨t,rfl⟩) (λb c e f=>⟨_,_,rfl,b,c,e,f⟩) (λb c e=>⟨_,_,rfl,b,c,e⟩) (λb c e f i=>⟨_,_,rfl,rfl,b,c,e,f,i⟩) λ_ _ _ _ _ _ _=>⟨_,rfl⟩
theorem Rd.int_inv(h:Rd w g (.int i) u):∃t,u=.int i t:=h.inv
theorem Rd.str_inv(h:Rd w g (.str s) u):∃t,u=.str s t:=h.inv
theorem Rd.bool_inv(h:Rd w g (.bool b) u):u=.bool b:=h.inv
theorem Rd.nv(h:Rd w g (.tup Z) u):∃a U,u=.ref a/\g.IsTuple a U/\U.size<=bg/\fi w g Z U.toList/\(∃o,g.get? a=some o/\o.dict=none):=h.inv
theorem Rd.lst_inv(h:Rd w g (.lst Z) u):∃a U,u=.ref a/\g.IsList a U/\U.size<=bg/\fi w g Z U.toList:=h.inv
@[elab_as_elim]theorem fi.ind{P:ab D->ab al->Prop}{Z:ab D}{U:ab al}(h:fi w g Z U)(n:P [] [])(c:∀{x:D}{v:al}{Z:ab D}{U:ab al},Rd w g x v->fi w g Z U->P Z U->P (x::Z) (v::U)):P Z U:=fi.rec (motive_1:=λ_ _ _=>True) (motive_2:=λZ U _=>P Z U) bN (λ_=>bN) (λ_ _=>bN) (λ_ _=>bN) (λ_ _ _ _ _=>bN) (λ_ _ _ _=>bN) (λ_ _ _ _ _ _=>bN) (λ_ _ _ _ _ _ _ _=>bN) n (λa r _ ih=>c a r ih) h
theorem fi.length(h:fi w g Z U):Z.length=U.length:=h.ind rfl λ_ _ e=>ah (· +1) e
theorem Y8{K:Type}[bD K]{R:KeyKind pw w K}{a:b5}{B:ab (K×al)}(x:g.DictOf R a B)(k:∀b o,g.get? b=some o->N.get? b=some o):N.DictOf R a B:=x.imp λ_ h=>h.imp λ_ h=>h.imp λ_=>cQ (k _ _)
theorem Rd.keeps(k:∀b o,g.get? b=some o->N.get? b=some o)(h:Rd w g x v):Rd w N x v:=Rd.rec (motive_1:=λx v _=>Rd w N x v) (motive_2:=λZ U _=>fi w N Z U) .fS .bool .int .str (λc d _ e r=>.tup (c.imp λo=>cQ (k _ o)) d r (e.imp λo=>cQ (k _ o))) (λc d _ r=>.lst (c.imp λo=>cQ (k _ o)) d r) (λc d f e _ r=>.eJ (Y8 c k) d f e r) (λc d f e i j _ r=>.obj (k _ _ c) (k _ _ d) f e i j r) .nil (λ_ _=>.cons) h
theorem fi.keeps(k:∀b o,g.get? b=some o->N.get? b=some o)(h:fi w g Z U):fi w N Z U:=h.ind .nil λa _ r=>.cons (a.keeps k) r
theorem Rd.AL(h:Rd w g .fS u):u=.none:=h.inv
@[elab_as_elim]theorem Na{v:al}{P:al->Prop}{b:bt}(h:Rd w g (.bool b) v)(k:P (.bool b)):P v:=h.bool_inv▸k
noncomputable def SH:al->Nat|.none=>0|.int _ _=>1|.str _ _=>2|.ref _=>3|_=>4
theorem Rd.tag(h:Rd w g x v):SH v=vt x:=Rd.casesOn (motive_1:=λx v _=>SH v=vt x) h rfl (λ_=>rfl) (λ_ _=>rfl) (λ_ _=>rfl) (λ_ _ _ _=>rfl) (λ_ _ _=>rfl) (λ_ _ _ _ _=>rfl) λ_ _ _ _ _ _ _=>rfl
theorem tags{P:Prop}(h:Rd w g x v)(k:Rd w g y v)(n:aah (vt x) (vt y)=false):P:=nomatch(Nat.beq_eq.mpr (h.tag.symm.trans k.tag)).symm.trans n
@[elab_as_elim]theorem t6{v:al}{P:al->Prop}(h:Rd w g .fS v)(k:P .none):P v:=h.AL▸k
@[elab_as_elim]theorem i5{v:al}{P:al->Prop}{i:Int}(h:Rd w g (.int i) v)(k:∀t,P (.int i t)):P v:=h.int_inv.elim λt e=>e▸k t
@[elab_as_elim]theorem jd{v:al}{P:al->Prop}{i:Str}(h:Rd w g (.str i) v)(k:∀t,P (.str i t)):P v:=h.str_inv.elim λt e=>e▸k t
@[elab_as_elim]theorem lB{v:al}{P:al->Prop}{Z:ab D}(h:Rd w g (.tup Z) v)(k:∀a U,g.IsTuple a U->U.size<=bg->fi w g Z U.toList->(∃o,g.get? a=some o/\o.dict=none)->P (.ref a)):P v:=C5 h.nv λa U e b c d f=>e▸k a U b c d f
@[elab_as_elim]theorem Ao{v:al}{P:al->Prop}{Z:ab D}(h:Rd w g (.lst Z) v)(k:∀a U,g.IsList a U->U.size<=bg->fi w g Z U.toList->P (.ref a)):P v:=jt h.lst_inv λa U e b c d=>e▸k a U b c d
theorem rP(h:wA k=true)(r:Rd w g k v):wc k v=true:=Jg (P:=λk=>Rd w g k v->wc k v=true) h (λi r=>i5 (P:=λv=>wc (.int i) v=true) r λt=>dr i) (λi r=>jd (P:=λv=>wc (.str i) v=true) r λt=>dr i) r
noncomputable def OT(w:bO)(g:Heap)(Z:ab D)(b:ab al):Prop:=aS Z (b=[]) λx Z=>∃v U,b=v::U/\Rd w g x v/\fi w g Z U
theorem fi.inv(h:fi w g Z b):OT w g Z b:=h.ind rfl λa q _=>⟨_,_,rfl,a,q⟩
@[elab_as_elim]theorem H0{U:ab al}{P:ab al->Prop}(h:fi w g [] U)(k:P []):P U:=(show U=[]from h.inv)▸k
@[elab_as_elim]theorem GG{x:D}{Z:ab D}{U:ab al}{P:ab al->Prop}(h:fi w g (x::Z) U)(k:∀v b,Rd w g x v->fi w g Z b->P (v::b)):P U:=iL (show∃v b,U=v::b/\Rd w g x v/\fi w g Z b from h.inv) λv b e a q=>e▸k v b a q
theorem AZ{P:ab D->Prop}(h:fi w g Z [])(k:P []):P Z:=h.ind (P:=λZ b=>b=[]->P Z) (λ_=>k) (λ_ _ _ e=>xN e) rfl
theorem FI{P:ab D->Prop}(h:fi w g Z (v::U))(k:∀x ys,Rd w g x v->fi w g ys U->P (x::ys)):P Z:=h.ind (P:=λZ b=>b=v::U->P Z) (λe=>xn e) (λa q _ e=>k _ _ ((bx e).1▸a) ((bx e).2▸q)) rfl
theorem fi.get{Z:ab D}{U:ab al}(h:fi w g Z U){j:Nat}{x:D}(e:Z[j]?=some x):∃v,U[j]?=some v/\Rd w g x v:=by
 revert j x;suffices k:∀(j:Nat)(x:D),Z[j]?=some x->∃v,U[j]?=some v/\Rd w g x v from@k;refine h.ind (λ_ _ e=>ec e) λ{x v Z U}a _ ih j y e=>?_;rcases j with _|j;.exact so e (i12 v rfl a)
 .exact ih j y e
theorem fi.get'{Z:ab D}{U:ab al}(h:fi w g Z U){j:Nat}{v:al}(e:U[j]?=some v):∃x,Z[j]?=some x/\Rd w g x v:=by
 revert j v;suffices k:∀(j:Nat)(v:al),U[j]?=some v->∃x,Z[j]?=some x/\Rd w g x v from@k;refine h.ind (λ_ _ e=>ec e) λ{x v Z U}a _ ih j y e=>?_;rcases j with _|j;.exact so e (i12 x rfl a)
 .exact ih j y e
theorem fi.append(h:fi w g Z U)(k:fi w g ys b):fi w g (Z++ys) (U++b):=h.ind k λa _ r=>.cons a r
theorem fi.snoc(r:fi w g Z U)(a:Rd w g x v):fi w g (Z++[x]) (U++[v]):=r.append (.cons a .nil)
theorem CM(h:u+(n+1)<abF):u+1+n<abF:=by lia
theorem qE(h:eqvAll f (x::Z) (y::ys)=some b):∃c d,f x y=some c/\eqvAll f Z ys=some d/\(c&&d)=b:=by
 revert h;show(match f x y,eqvAll f Z ys with|some a,some b=>some (a&&b)|_,_=>none)=some b->_;generalize f x y=o;generalize eqvAll f Z ys=q;intro h;rcases o with _|c;.exact ec h
 rcases q with _|d;.exact ec h
 exact so h (Dg c d rfl rfl rfl)
theorem pe(h:eqvAll f Z ys=some b):∃e:Nat->bt,(∀j x y,Z[j]?=some x->ys[j]?=some y->f x y=some (e j))/\((bz (min Z.length ys.length)).all e&&Z.length==ys.length)=b:=by
 induction Z generalizing ys b with
 |nil=>refine i12 (λ_=>true) (λ_ _ _ e=>ec e) ?_;rcases ys with _|⟨y,ys⟩<;>exact so h rfl|cons x Z ih=>
  rcases ys with _|⟨y,ys⟩;.exact i12 (λ_=>true) (λ_ _ _ _ e=>ec e) (so h rfl)
  refine iL (qE h) λc d l m o=>d9 (ih m) λe q p=>?_;refine i12 (λj=>Nat.casesOn j c e) (λj r s=>?_) ?_;.
   rcases j with _|j;.exactλi=>so i λk=>so k l
   .exact q j r s
  .rw[←o,←p,bf,bf,Nat.succ_min_succ,abD,List.all_cons,ae7,Bool.and_assoc,show(Z.length+1==ys.length+1)=(Z.length==ys.length)from by simp];rfl
theorem uM(hs:l=b->k=true)(h:RcAt A s (.ref l) (.ref b) k):acq A s (.ref l) (.ref b) k:=by
 by_cases c:l=b;.subst c;rw[hs rfl];exact EqAt.same _
 .exact EqAt.of_refs c h
theorem xD(x:h.IsTuple a U)(y:h.IsTuple a f):U=f:=by obtain⟨o,e,i,n,hd⟩:=x;obtain⟨k,c,d,j,b⟩:=y;rw[e]at c;obtain rfl:=sI c;rw[hd]at b;injection b
theorem FC(x:h.IsList a U)(y:h.IsList a f):U=f:=by obtain⟨o,e,i,n,hd⟩:=x;obtain⟨k,c,d,j,b⟩:=y;rw[e]at c;obtain rfl:=sI c;rw[hd]at b;injection b
theorem qA{P:D->al->Prop}(o:∀x y v r,f x y=some r->P x v->P y v->r=true){U:ab al}(h:eqvAll f Z ys=some r)(a:Z.length=U.length/\∀(j:Nat)(x:D),Z[j]?=some x->∃v:al,U[j]?=some v/\P x v)(b:ys.length=U.length/\∀(j:Nat)(x:D),ys[j]?=some x->∃v:al,U[j]?=some v/\P x v):r=true:=by
 induction Z generalizing ys U r with
 |nil=>
  rcases ys with _|⟨y,ys⟩;.exact so h rfl
  .exact ay (b.1.trans a.1.symm) (cT _)|cons x Z ih=>
  rcases ys with _|⟨y,ys⟩;.exact ay (a.1.trans b.1.symm) (cT _)
  rcases U with _|⟨v,U⟩;.exact ay a.1 (cT _)
  refine iL (qE h) λc d k l m=>?_;refine d9 (a.2 0 x rfl) λs e p=>d9 (b.2 0 y rfl) λt i q=>?_;rw[←m,o x y v c k (sI e▸p) (sI i▸q),ih l ⟨aaj a.1,λj=>a.2 (j+1)⟩ ⟨aaj b.1,λj=>b.2 (j+1)⟩];rfl
theorem nx:∀(n:Nat){x y:D}{v:al}{r:bt},D.k9 n x y=some r->Rd w g x v->Rd w g y v->r=true
 |0,_,_,_,_,h,_,_=>ec h|n+1,x,y,v,r,h,i,k=>by
  rcases x with⟨⟩<;>first|exact ec h|(rcases y with⟨⟩<;>first|exact ec h|exact tags i k rfl|skip)
  .exact so h rfl
  .exact i.int_inv.elim λ_ e=>k.int_inv.elim λ_ f=>so h (bP.mpr (aee (e.symm.trans f)).1)
  .exact i.str_inv.elim λ_ e=>k.str_inv.elim λ_ f=>so h (bP.mpr (ael (e.symm.trans f)).1)
  .refine C5 i.nv λa U e l _ c _=>C5 k.nv λb o f m _ d _=>?_;cases abr (e.symm.trans f);cases xD l m;exact qA (P:=Rd w g) (λx y v r e p q=>nx n e p q) h ⟨c.length,λj x e=>c.get e⟩ ⟨d.length,λj x e=>d.get e⟩
  .refine jt i.lst_inv λa U e l _ c=>jt k.lst_inv λb o f m _ d=>?_;cases abr (e.symm.trans f);cases FC l m;exact qA (P:=Rd w g) (λx y v r e p q=>nx n e p q) ((aW (c.length.trans d.length.symm)).symm.trans h) ⟨c.length,λj x e=>c.get e⟩ ⟨d.length,λj x e=>d.get e⟩
theorem rL{U:dv al}(h:j<U.size):U.toList[j]?=some U[j]:=by simp[h]
end
section
variable{w:bO}{A:bI}{s:aM}
noncomputable def RP(A:bI)(s:aM)(a b:al)(r:bt):Prop:=RcAt A s a b r/\acq A s a b r/\RcNeAt A s a b (!r)
theorem Ca{U g:dv al}(h:(if Z.length=ys.length then eqvAll f Z ys else some false)=some r)(c:Z.length=U.size)(d:ys.length=g.size){G:bt->Prop}(k:∀e:Nat->bt,U.size=g.size->(∀j x y,Z[j]?=some x->ys[j]?=some y->f x y=some (e j))->G ((bz U.size).all e))(l:(U.size !=g.size)=true->G false):G r:=if b:Z.length=ys.length then have i:=c.symm.trans (b.trans d);d9 (pe ((aW b).symm.trans h)) λe m o=>o▸(show((bz (min Z.length ys.length)).all e&&Z.length==ys.length)=(bz U.size).all e from by rw[c,d,i,Nat.min_self,dr,aew])▸k e i m else so ((aZ b).symm.trans h) (l (bne_iff_ne.mpr λe=>b (c.trans (e.trans d.symm))))
set_option tactic.hygienic true in theorem pz:∀(n:Nat){A:bI}{x y:D}{a b:al}{r:bt},D.k9 n x y=some r->Rd w s.heap x a->Rd w s.heap y b->A.units+n<abF->RP A s a b r
 |0,_,_,_,_,_,_,h,_,_,_=>ec h|n+1,A,x,y,a,b,r,h,ha,hb,hu=>by
  have hn:A.units<abF:=by lia
  have E:∀{e:bt}{x y:D}{a b:al},D.k9 n x y=some e->Rd w s.heap x a->Rd w s.heap y b->acq A.in1 s a b e:=λhx rx ry=>(pz n hx rx ry (CM hu)).2.1;rcases x with⟨⟩<;>first|exact ec h|(rcases y with⟨⟩<;>first|exact ec h|skip)
  .exact t6 ha (t6 hb (so h ⟨RcAt.none_none,EqAt.same _,RcNeAt.none_none⟩))
  .exact t6 ha (i5 hb λu=>so h ⟨RcAt.none_int _ u,EqAt.none_int _ u,RcNeAt.none_int _ u⟩)
  .exact t6 ha (jd hb λu=>so h ⟨RcAt.none_str _ u,EqAt.none_str _ u,RcNeAt.none_str _ u⟩)
  .exact t6 ha (lB hb λ_ _ k1 _ _ _=>so h ⟨RcAt.none_tuple k1 hn,EqAt.none_tuple k1 hn,RcNeAt.none_tuple k1 hn⟩)
  .exact i5 ha λt=>t6 hb (so h ⟨RcAt.int_none _ t,EqAt.int_none _ t,RcNeAt.int_none _ t⟩)
  .exact i5 ha λt=>i5 hb λu=>so h ⟨RcAt.int_int _ t _ u,afh _ t _ u,RcNeAt.int_int _ t _ u⟩
  .exact i5 ha λt=>jd hb λu=>so h ⟨RcAt.int_str _ t _ u,afe _ t _ u,RcNeAt.int_str _ t _ u⟩
  .exact i5 ha λt=>lB hb λ_ _ k1 _ _ _=>so h ⟨RcAt.int_tuple _ t k1 hn,EqAt.int_tuple _ t k1 hn,RcNeAt.int_tuple _ t k1 hn⟩
  .exact jd ha λt=>t6 hb (so h ⟨RcAt.str_none _ t,EqAt.str_none _ t,RcNeAt.str_none _ t⟩)
  .exact jd ha λt=>i5 hb λu=>so h ⟨RcAt.str_int _ t _ u,afn _ t _ u,RcNeAt.str_int _ t _ u⟩
  .exact jd ha λt=>jd hb λu=>so h ⟨RcAt.str_str _ t _ u,afw _ t _ u,RcNeAt.str_str _ t _ u⟩
  .exact jd ha λt=>lB hb λ_ _ k1 _ _ _=>so h ⟨RcAt.str_tuple _ t k1 hn,EqAt.str_tuple _ t k1 hn,RcNeAt.str_tuple _ t k1 hn⟩
  .exact lB ha λ_ _ h1 _ _ _=>t6 hb (so h ⟨RcAt.tuple_none h1 hn,EqAt.tuple_none h1 hn,RcNeAt.tuple_none h1 hn⟩)
  .exact lB ha λ_ _ h1 _ _ _=>i5 hb λu=>so h ⟨RcAt.tuple_int _ u h1 hn,EqAt.tuple_int _ u h1 hn,RcNeAt.tuple_int _ u h1 hn⟩
  .exact lB ha λ_ _ h1 _ _ _=>jd hb λu=>so h ⟨RcAt.tuple_str _ u h1 hn,EqAt.tuple_str _ u h1 hn,RcNeAt.tuple_str _ u h1 hn⟩
  .rename_i Z ys;refine lB ha (P:=λa=>Rd w s.heap (.tup Z) a->RP A s a b r) (λa1 U h1 _ h3 _ hx=>?_) ha;refine lB hb (P:=λb=>Rd w s.heap (.tup ys) b->RP A s (.ref a1) b r) (λb1 us k1 _ k3 _ hy=>?_) hb;refine d9 (pe (f:=D.k9 n) h) λe he hr=>?_;have hr:((bz (min U.size us.size)).all e&&U.size==us.size)=r:=(ah (λp:Nat×Nat=>(bz (min p.1 p.2)).all e&&p.1==p.2) (congr (ah Prod.mk h3.length) k3.length)).symm.trans hr;have E:∀j,∀(j1:j<U.size)(j2:j<us.size),acq A.in1 s U[j] us[j] (e j):=λj j1 j2=>d9 (h3.get' (rL j1)) λx hx rx=>d9 (k3.get' (rL j2)) λy hy ry=>E (he j x y hx hy) rx ry;have q:RcAt A s (.ref a1) (.ref b1) r:=hr▸RcAt.tuples h1 k1 hn E;exact⟨q,uM (λe'=>nx (n+1) h hx (e'▸hy)) q,hr▸RcNeAt.tuples h1 k1 hn E⟩
  .rename_i Z ys;refine Ao ha (P:=λa=>Rd w s.heap (.lst Z) a->RP A s a b r) (λa1 U h1 _ h3 hx=>?_) ha;refine Ao hb (P:=λb=>Rd w s.heap (.lst ys) b->RP A s (.ref a1) b r) (λb1 us k1 _ k3 hy=>?_) hb;have q:RcAt A s (.ref a1) (.ref b1) r/\RcNeAt A s (.ref a1) (.ref b1) (!r):=Ca h h3.length k3.length (G:=λr=>RcAt A s (.ref a1) (.ref b1) r/\RcNeAt A s (.ref a1) (.ref b1) (!r)) (λe hz he=>have E:∀j,∀(j1:j<U.size)(j2:j<us.size),acq A.in1 s U[j] us[j] (e j):=λj j1 j2=>d9 (h3.get' (rL j1)) λx hx rx=>d9 (k3.get' (rL j2)) λy hy ry=>E (he j x y hx hy) rx ry;⟨RcAt.lists h1 k1 hz hn E,RcNeAt.lists h1 k1 hz hn E⟩) λhz=>⟨RcAt.lists_lengths h1 k1 hz hn,RcNeAt.lists_lengths h1 k1 hz hn⟩;exact⟨q.1,uM (λe'=>nx (n+1) h hx (e'▸hy)) q.1,q.2⟩
end
end
noncomputable def jU(w:bO):Nat->D->Int|_,.int i=>hashInt i|_,.str s=>hashStr w s|n+1,.tup Z=>adV (bK (Z.map (jU w n)))|_,_=>0
noncomputable def jI:Nat->D->Nat|n+1,.tup Z=>(Z.map (jI n)).sum+1|_,_=>1
theorem LY(h:fi w g Z U):∀v∈U,∃x∈Z,Rd w g x v:=h.ind (λ_ h=>kr h) λ{x _ _ _}a _ ih v b=>(af.mp b).elim (λe=>i12 x (.head _) (e▸a)) λh=>d9 (ih v h) λy c r=>i12 y (.tail _ c) r
section
variable{w:bO}
theorem Mc{h:Heap}{l:ab al}:∀{Z ys:ab D},fi w h Z l->fi w h ys l->(∀x∈Z,∀y∈ys,∀v,Rd w h x v->Rd w h y v->x=y)->Z=ys:=by induction l with|nil=>exactλa b _=>AZ (P:=λZ=>Z=_) a (AZ (P:=λys=>[]=ys) b rfl)|cons v l ih=>intro Z ys a b;refine FI (P:=λZ=>(∀x∈Z,∀y∈ys,∀v,Rd w h x v->Rd w h y v->x=y)->Z=ys) a λx Z p q=>FI (P:=λys=>(∀c∈x::Z,∀y∈ys,∀v,Rd w h c v->Rd w h y v->c=y)->x::Z=ys) b λy ys g i f=>?_;exact acO.mpr ⟨f _ (.head _) _ (.head _) _ p g,ih q i λx d y e=>f x (.tail _ d) y (.tail _ e)⟩
theorem x8{P:D->Prop}(h:D.kx n k=true)(i:∀j,P (.int j))(s:∀t,P (.str t))(t:∀Z,(∃m,n=m+1/\∀x∈Z,D.kx m x=true)->P (.tup Z)):P k:=by
 induction n with
 |zero=>induction k using D.casesOn with|int j=>exact i j|str j=>exact s j|_=>exact fO h
 |succ m=>induction k using D.casesOn with|int j=>exact i j|str j=>exact s j|tup Z=>exact t Z (i12 m rfl (aA.mp h))|_=>exact fO h
theorem GI{P:Nat->D->Prop}(i:∀n j,P n (.int j))(s:∀n t,P n (.str t))(t:∀n Z,(∀x∈Z,D.kx n x=true)->(∀x∈Z,P n x)->P (n+1) (.tup Z))(n:Nat):∀{k:D},D.kx n k=true->P n k:=by induction n with|zero=>exactλh=>x8 h (i 0) (s 0) λ_ e=>d9 e λ_ e _=>ay e.symm (cT _)|succ n ih=>exactλh=>x8 h (i _) (s _) λZ e=>d9 e λm e b=>have b:=aaj e▸b;t n Z b λx h=>ih (b x h)
theorem LB{h:Heap}(n:Nat){x y:D}{v:al}(s:D.kx n x=true):D.kx n y=true->Rd w h x v->Rd w h y v->x=y:=GI (P:=λn x=>∀y v,D.kx n y=true->Rd w h x v->Rd w h y v->x=y) (λn i y v g d=>x8 (P:=λy=>Rd w h y v->.int i=y) g (λj c=>d.int_inv.elim λ_ e=>c.int_inv.elim λ_ f=>ah D.int (aee (e.symm.trans f)).1) (λ_ c=>tags d c rfl) λ_ _ c=>tags d c rfl) (λn i y v g d=>x8 (P:=λy=>Rd w h y v->.str i=y) g (λ_ c=>tags d c rfl) (λj c=>d.str_inv.elim λ_ e=>c.str_inv.elim λ_ f=>ah D.str (ael (e.symm.trans f)).1) λ_ _ c=>tags d c rfl) (λn Z _ ih y v g d=>x8 (P:=λy=>Rd w h y v->.tup Z=y) g (λ_ c=>tags d c rfl) (λ_ c=>tags d c rfl) λz e c=>d9 e λm e g=>C5 d.nv λa U k o _ p _=>C5 c.nv λb t l q _ r _=>ah D.tup (Mc p (xD o (abr (k.symm.trans l)▸q)▸r) λx d y c v=>ih x d y v (aaj e▸g y c))) n s y v
theorem sx:∀{Z ys:ab D},(∀x∈Z,∀y∈ys,f x y=some (decide (x=y)))->eqvAll f Z ys=some (decide (Z=ys))|[],[],_=>(by rfl)|[],_::_,_=>(by rfl)|_::_,[],_=>(by rfl)|x::Z,y::ys,h=>by show(match f x y,eqvAll f Z ys with|some a,some b=>some (a&&b)|_,_=>none)=_;simp only[h x aF y aF,sx (λa c b d=>h a (ax _ c) b (ax _ d))];by_cases e:x=y<;>simp[e]
theorem Ss:D.k9 (m+1) (.int i) (.int j)=some (decide (D.int i=.int j)):=ah some (b9.mpr (by simp))
theorem Tt:D.k9 (m+1) (.str i) (.str j)=some (decide (D.str i=.str j)):=ah some (b9.mpr (by simp))
theorem uN(h:D.k9 (m+1) x y=some false)(n:aah (vt x) (vt y)=false):D.k9 (m+1) x y=some (decide (x=y)):=h.trans (ah some (aC λe=>by rw[e,acS]at n;exact TU n).symm)
theorem pC(n m:Nat)(g:D.kx n x=true)(b:D.kx n y=true)(c:n<m):D.k9 m x y=some (decide (x=y)):=GI (P:=λn x=>∀m y,D.kx n y=true->n<m->D.k9 m x y=some (decide (x=y))) (λn i m y b c=>nH (cZ (aak (aj (bB n) c))) λm e=>e▸x8 (P:=λy=>D.k9 (m+1) (.int i) y=some (decide (.int i=y))) b (λ_=>Ss) (λ_=>uN rfl rfl) λ_ _=>uN rfl rfl) (λn i m y b c=>nH (cZ (aak (aj (bB n) c))) λm e=>e▸x8 (P:=λy=>D.k9 (m+1) (.str i) y=some (decide (.str i=y))) b (λ_=>uN rfl rfl) (λ_=>Tt) λ_ _=>uN rfl rfl) (λn Z _ ih m y b c=>nH (cZ (aak (aj (bB _) c))) λm e=>e▸x8 (P:=λy=>D.k9 (m+1) (.tup Z) y=some (decide (.tup Z=y))) b (λ_=>uN rfl rfl) (λ_=>uN rfl rfl) λj q=>d9 q λk q b=>(sx λx d y f=>ih x d m y (aaj q▸b y f) (Nat.lt_of_succ_lt_succ (Nat.lt_of_lt_of_eq c e))).trans (ah some (by simp))) n g m y b c
variable{A:bI}{E:al->aM->Prop}
theorem Hb:jU w n (.int i)=hashInt i:=by cases n<;>rfl
theorem FF:jU w n (.str i)=hashStr w i:=by cases n<;>rfl
theorem IE:jI n (.int i)=1:=by cases n<;>rfl
theorem Fu:jI n (.str i)=1:=by cases n<;>rfl
inductive Hk(w:bO)(s:aM)(n:Nat)(Z:ab D):ab al->dv Int->aM->Prop|mk(done left:ab D)(U:ab al)(b:dv Int)(e:Z=done++left)(hl:fi w s.heap left U)(hb:b.toList=done.map (jU w n)):Hk w s n Z U b {s with toks:=s.toks+(done.map (jI n)).sum}
theorem Hk.step{b:dv Int}(e:fi w s.heap c U)(hb:b.toList=done.map (jU w n)):Hk w s n (done++d::c) U (b.push (jU w n d)) {s with toks:=s.toks+(done.map (jI n)).sum+jI n d}:=by have k:=Hk.mk (w:=w) (s:=s) (n:=n) (Z:=done++d::c) (done++[d]) c U (b.push (jU w n d)) (acW ..) e (by simp[hb]);rw[aD,List.sum_append]at k;exact aat ..▸k
theorem yJ(n:Nat)(z:D.kx n k=true)(g:Rd w s.heap k v)(G:A.units+n<abF)(h:Q (jU w n k) {s with toks:=s.toks+jI n k}):aR (aP pw w) A (pyHash v) Q E s:=by
 refine GI (P:=λn k=>∀(A:bI)(E:al->aM->Prop)(s:aM)(v:al)(Q:Int->aM->Prop),Rd w s.heap k v->A.units+n<abF->Q (jU w n k) {s with toks:=s.toks+jI n k}->aR (aP pw w) A (pyHash v) Q E s) ?_ ?_ ?_ n z A E s v Q g G h;.exactλn j A E s v Q g _ h=>i5 g λt=>acY (Hb (w:=w) (n:=n) (i:=j)▸IE (n:=n) (i:=j)▸h)
 .exactλn j A E s v Q g _ h=>jd g λt=>ac3 (FF (w:=w) (n:=n) (i:=j)▸Fu (n:=n) (i:=j)▸h)
 clear z g G h;intro n Z z ih A E s v Q g G h;refine lB g λa U q T J X=>q.elim λo q=>pn q λH L hd=>hd.elim λm hd=>?_;have p:s.TypeIs (.ref a) "tuple":=⟨o,H,L⟩;unfold pyHash;first|unfold pyHashByItsType|skip
 first|refine aB (wpAny_cRoomFor_or (.inr (by lia)) ?_)|skip
 refine aB (aaV p aay.lookup ?_);rw[aZ (by rw[beq_builtin_none];exact cH)];refine aB (aaV p aay.lookup ?_);refine aB (wpAny_callSpecialIfBoundUnlessNone?_slot p aay (aaK aay p F.entry_tuple_hash ?_ (F.args_tuple_hash_1 _)));show aR _ _ (aa0 (.ref a)>>=_) _ _ s;refine aB (ack H hd ?_);refine aB ?_;refine sZ acv ?_;refine abz _ (Hk w s n Z) _ (λx l b O C=>?_) (λb O C=>?_) _ _ (.mk [] Z U.toList #[] rfl J rfl);.generalize r:x::l=I at C;clear h;induction C with|mk c f R b e B y=>refine FI (P:=λf=>Z=c++f->_) (r▸B) (λd f M N e=>?_) e;refine aB (ih d (e▸aN _ (.head _)) _ _ _ _ _ M (by show A.units+1+n<abF;lia) ?_);have st:Hk w s n Z l (b.push (jU w n d)) {s with toks:=s.toks+(c.map (jI n)).sum+jI n d}:=e▸Hk.step N y;first|exact aQ st|exact aB (aQ (aQ st))
 .generalize r:([]:ab al)=I at C;induction C with
  |mk c f R b e B y=>
   have e:Z=c:=AZ (P:=λf=>Z=c++f->Z=c) (r▸B) (λe=>e.trans (aL _)) e;show aR _ _ (retInt (bK b.toList)) _ _ _;refine sY y ?_;refine wpAny_ret_mkInt ?_;show aR _ _ (if(decide (-(2:Int)^63<=bK (c.map (jU w n)))&&decide (bK (c.map (jU w n))<2^63))=true then _ else _) Q E _;have h:Q (adV (bK (c.map (jU w n)))) {s with toks:=s.toks+((c.map (jI n)).sum+1)}:=e▸h;unfold adV at h;by_cases g:(decide (-(2:Int)^63<=bK (c.map (jU w n)))&&decide (bK (c.map (jU w n))<2^63))=true;.rw[aW g];rw[aW g]at h;exact aQ h
   .rw[aZ g];rw[aZ g]at h;exact aB (wpAny_rule (aQ h))
theorem DA(n m:Nat)(g:D.kx n k=true)(b:Rd w s.heap k v)(e:n<=m)(h:Q true s):aR (aP pw w) A (eqIsQuiet m v) Q E s:=by
 refine GI (P:=λn k=>∀m(A:bI)(E:al->aM->Prop)(s:aM)(v:al)(Q:bt->aM->Prop),Rd w s.heap k v->n<=m->Q true s->aR (aP pw w) A (eqIsQuiet m v) Q E s) ?_ ?_ ?_ n g m A E s v Q b e h;.exactλn j m A E s v Q b _ h=>i5 b λt=>by rw[acG _ rfl];exact aQ h
 .exactλn j m A E s v Q b _ h=>jd b λt=>by rw[acG _ rfl];exact aQ h
 clear g b e h;intro n Z g ih m A E s v Q b e h;refine lB b λa U f H z I=>f.elim λo f=>pn f λy B hd=>hd.elim λJ hd=>?_;obtain⟨m,rfl⟩:∃k,m=k+1:=⟨m-1,by lia⟩;have p:s.TypeIs (.ref a) "tuple":=⟨o,y,B⟩;clear b;unfold eqIsQuiet;refine aB (aaV p F.slot_tuple_eq.lookup ?_);refine aB (wpAny_isInstance p isSubtype_tuple_tuple ?_);refine aB (wpAny_seqItems y hd ?_);refine aB ?_;refine sZ acv ?_;refine abz _ (λd r l=>r.1=none/\l=s/\∀v∈d,v∈U.toList) _ ?_ ?_ _ _ ⟨rfl,rfl,λ_ h=>h⟩;.rintro v d r l⟨b,rfl,c⟩;refine d9 (LY z v (c v aF)) λx C q=>?_;refine aB (ih x C m _ _ _ _ _ q (Nat.le_of_succ_le_succ e) ?_);simp only[Bool.not_true,aa6,aez];exact aQ ⟨rfl,rfl,λu i=>c u (ax _ i)⟩
 .rintro⟨G,L⟩l⟨b,rfl,_⟩;cases(show G=none from b);exact aQ h
theorem fi.NZ(r:fi w h Z U)(f:∀x∈Z,∀v,Rd w h x v->Rd w h' x v):fi w h' Z U:=r.ind (P:=λZ U=>(∀x∈Z,∀v,Rd w h x v->Rd w h' x v)->fi w h' Z U) (λ_=>.nil) (λa _ ih f=>.cons (f _ (.head _) _ a) (ih λx h=>f x (.tail _ h))) f
theorem DG(s:h.get? d=some o)(hd:o.data=.dict es z)(hs:Heap.SameBut d h h')(n:Nat)(q:D.kx n k=true)(y:Rd w h k v):Rd w h' k v:=GI (P:=λ_ k=>∀v,Rd w h k v->Rd w h' k v) (λ_ j v r=>i5 r λt=>.int _ _) (λ_ j v r=>jd r λt=>.str _ _) (λn Z _ ih v r=>lB r λa U b i l p=>have f:a≠d:=λe=>b.elim λg b=>b.2.2.elim λm c=>nomatch c.symm.trans ((ah Obj.data (bJ (b.1.symm.trans (e▸s)))).trans hd);.tup (b.imp λg=>cQ (hs.2 a f).trans) i (l.NZ ih) (p.imp λg=>cQ (hs.2 a f).trans)) n q v y
theorem km(h:k.sort=some .t):D.kx 6 k=true:=by
 rcases k with⟨⟩<;>try(exact ec h;done)
 .exact ay (sI h) nofun
 .exact ay (sI h) nofun
 .exact if1 h λh _=>h
noncomputable def dK(w:bO):HeapKind pw w D where is:=λh k a=>k.sort=some .t/\Rd w h k (.ref a);hash:=jU w 6;draws:=jI 6;room:=λA=>A.units+20<abF;inj:=λc d=>LB 6 (km c.1) (km d.1) c.2 d.2;keeps:=λx e hd hs=>⟨x.1,DG e hd hs 6 (km x.1) x.2⟩;pyHash:=λf b h=>yJ 6 (km b.1) b.2 (by lia) h;eqBool:=λf c d h=>(pz 7 (pC 6 7 (km c.1) (km d.1) (by lia)) c.2 d.2 (by lia)).2.1 _ _ _ _ h;quiet:=λb h=>DA 6 8 (km b.1) b.2 (by lia) h
end
structure Sx where
 g:Heap
 φ:ab b5
 H:Hp
 s:aM
noncomputable def Cell.BW:Cell->bt|.lst _ .fz=>false|.eJ _ true=>false|_=>true
noncomputable def Sx.mu(x:Sx)(b:b5):Prop:=∃(i:Nat)(c:Cell),x.H[i]?=some c/\c.BW=true/\x.φ[i]?=some b
noncomputable abbrev Sx.sz(x:Sx):Nat:=x.s.heap.objs.size
inductive eC{α β:Type}(R:α->β->Prop):ab α->ab β->Prop|nil:eC R [] []|cons{a:α}{b:β}{as:ab α}{bs:ab β}:R a b->eC R as bs->eC R (a::as) (b::bs)
@[elab_as_elim]theorem eC.ind{e f:Type}{R:e->f->Prop}{P:ab e->ab f->Prop}{as:ab e}{d:ab f}(h:eC R as d)(n:P [] [])(c:∀{a b as d},R a b->eC R as d->P as d->P (a::as) (b::d)):P as d:=eC.rec (motive:=λas d _=>P as d) n (λr q ih=>c r q ih) h
noncomputable def Lz{c d:Type}(R:c->d->Prop)(as:ab c)(b:ab d):Prop:=aS as (b=[]) λx Z=>∃v U,b=v::U/\R x v/\eC R Z U
theorem eC.inv{as:ab c}{b:ab d}(h:eC R as b):Lz R as b:=h.ind rfl λa q _=>⟨_,_,rfl,a,q⟩
@[elab_as_elim]theorem AK{d c:Type}{R:d->c->Prop}{b:ab c}{P:ab c->Prop}(h:eC R [] b)(k:P []):P b:=(show b=[]from h.inv)▸k
@[elab_as_elim]theorem uc{f g:Type}{R:f->g->Prop}{a:f}{as:ab f}{c:ab g}{P:ab g->Prop}(h:eC R (a::as) c)(k:∀b c,R a b->eC R as c->P (b::c)):P c:=iL (show∃v d,c=v::d/\R a v/\eC R as d from h.inv) λv d e a q=>e▸k v d a q
theorem eC.length{as:ab c}{b:ab d}(h:eC R as b):as.length=b.length:=by induction h with|nil=>rfl|cons _ _ ih=>simp[ih]
theorem eC.mono{c:e->g->Prop}(f:∀a b,R a b->c a b)(h:eC R as d):eC c as d:=by induction h with|nil=>exact .nil|cons a _ ih=>exact .cons (f _ _ a) ih
theorem eC.append{cs:ab c}{B:ab d}(h:eC R as b)(k:eC R cs B):eC R (as++cs) (b++B):=by induction h with|nil=>exact k|cons a _ ih=>exact .cons a ih
section
variable(w:bO)
inductive Rv(x:Sx):V->al->Prop|d{a:D}{v:al}:Rd w x.g a v->Rv x (.d a) v|ref{i:Nat}{a:b5}:x.φ[i]?=some a->Rv x (.ref i) (.ref a)|ins{c i:Nat}{b dx:b5}:c∈jA->x.g.get? b=some (dz c dx)->x.φ[i]?=some dx->Rv x (.ins c i) (.ref b)
noncomputable def Mk(w:bO)(x:Sx)(v:V)(u:al):Prop:=V.casesOn v (λd=>Rd w x.g d u) (λi=>∃b,u=.ref b/\x.φ[i]?=some b) λc i=>∃b e,u=.ref b/\c∈jA/\x.g.get? b=some (dz c e)/\x.φ[i]?=some e
theorem Rv.inv{w:bO}(h:Rv w x v u):Mk w x v u:=Rv.casesOn (motive:=λv u _=>Mk w x v u) h (λr=>r) (λh=>⟨_,rfl,h⟩) λb c d=>⟨_,_,rfl,b,c,d⟩
theorem Rv.eU{w:bO}{x:Sx}{d:D}{u:al}(h:Rv w x (.d d) u):Rd w x.g d u:=h.inv
theorem Rv.Bh{w:bO}(h:Rv w x (.ref i) u):∃b,u=.ref b/\x.φ[i]?=some b:=h.inv
@[elab_as_elim]theorem tf{w:bO}{x:Sx}{i:Nat}{u:al}{P:al->Prop}(h:Rv w x (.ref i) u)(k:∀b,x.φ[i]?=some b->P (.ref b)):P u:=d9 h.Bh λb e h=>e▸k b h
noncomputable def nJ(g:Heap)(p:D×D)(q:D×al):Prop:=p.1=q.1/\wA q.1=true/\Rd w g p.2 q.2
noncomputable def lI(g:Heap)(p:D×D)(q:D×b5×al):Prop:=p.1=q.1/\q.1.sort=some .t/\Rd w g q.1 (.ref q.2.1)/\Rd w g p.2 q.2.2
inductive fe(g h:Heap)(a:b5):ab (D×D)->Prop|nil{o:Obj}{ep:Nat}:h.get? a=some o->o.ExactDict->o.data=.dict #[] ep->fe g h a []|k{B:ab (D×D)}{l:ab (D×al)}:h.DictOf (sK w) a l->eC (nJ w g) B l->fe g h a B|t{B:ab (D×D)}{l:ab (D×b5×al)}{o:Obj}{es:dv cM}{ep:Nat}:h.get? a=some o->o.ExactDict->o.data=.dict es ep->es.toList=l.map (entryOfKey (dK w))->(l.map (·.1)).Nodup->eC (lI w g) B l->fe g h a B
noncomputable def xe(x:Sx)(p:Nat×V)(e:cM):Prop:=∃nm t,e.key=.str nm t/\(nm,p.1)∈gT/\Rv w x p.2 e.val
noncomputable def fY(x:Sx)(a:b5):Cell->Prop
 |.lst Z m=>match m with|.fz=>∃U:dv al,x.g.PlainList a U/\U.size<=bg/\fi w x.g Z U.toList|_=>x.g.get? a=none/\∃U:dv al,x.s.heap.PlainList a U/\U.size<=bg/\fi w x.g Z U.toList
 |.eJ B f=>(a==cI)=false/\B.length<=big/\match f with|true=>fe w x.g x.g a B|false=>x.g.get? a=none/\fe w x.g x.s.heap a B
 |.ins fs=>x.g.get? a=none/\fs.length<=100/\(fs.map (·.1)).Nodup/\∃es n,x.s.heap.get? a=some (abK es n)/\eC (xe w x) fs es
structure Rel(x:Sx):Prop where
 sub:∀b o,x.g.get? b=some o->x.s.heap.get? b=some o
 top:fm w x.g
 len:x.φ.length=x.H.length
 cell:∀(i:Nat)(c:Cell)(a:b5),x.H[i]?=some c->x.φ[i]?=some a->fY w x a c
 inj:∀(i j:Nat)(a:b5),x.φ[i]?=some a->x.φ[j]?=some a->i=j
 gens:x.s.gens=#[]
end
noncomputable def refsOf:Cell->ab V|.ins fs=>fs.map (·.2)|_=>[]
structure Le(wm:Nat)(P:b5->Prop)(x y:Sx):Prop where
 gk:∀b o,x.g.get? b=some o->y.g.get? b=some o
 gn:∀b o,y.g.get? b=some o->x.g.get? b=none->x.mu b\/x.s.heap.get? b=none
 keep:∀b o,x.s.heap.get? b=some o->¬x.mu b->¬P b->y.s.heap.get? b=some o
 DN:∃ψ,y.φ=x.φ++ψ/\∀b∈ψ,x.s.heap.get? b=none
 mu:∀b,y.mu b->x.mu b\/x.s.heap.get? b=none
 refs:∀(i:Nat)(c:Cell),i<wm->y.H[i]?=some c->∃c',x.H[i]?=some c'/\∀v∈refsOf c,v.plain=true\/v∈refsOf c'
 live:∀b o,x.s.heap.get? b=some o->∃o',y.s.heap.get? b=some o'
 os:y.s.os=x.s.os
section
variable{w:bO}{x y z:Sx}{wm:Nat}{P:b5->Prop}
theorem Rv.mono(gk:∀b o,x.g.get? b=some o->y.g.get? b=some o)(c:∀(i:Nat)(a:b5),x.φ[i]?=some a->y.φ[i]?=some a)(h:Rv w x v u):Rv w y v u:=Rv.rec (motive:=λv u _=>Rv w y v u) (λr=>.d (r.keeps gk)) (λh=>.ref (c _ _ h)) (λm h k=>.ins m (gk _ _ h) (c _ _ k)) h
theorem Le.Ur(h:Le wm P x y)(i:Nat)(a:b5)(e:x.φ[i]?=some a):y.φ[i]?=some a:=by refine d9 (h.DN) λc b _=>?_;rw[b,aU (aG.mp e).1];exact e
theorem Rv.le(h:Le wm P x y)(r:Rv w x v u):Rv w y v u:=r.mono h.gk h.Ur
theorem Heap.DictOf.at{K:Type}[bD K]{R:KeyKind pw w K}{h h':Heap}{a:b5}{l:ab (K×al)}(d:h.DictOf R a l)(k:∀o,h.get? a=some o->h'.get? a=some o):h'.DictOf R a l:=d.imp λ_ h=>h.imp λ_ h=>h.imp λ_=>cQ (k _)
theorem fe.keeps(gk:∀b o,g.get? b=some o->N.get? b=some o)(k:∀o,h.get? a=some o->h'.get? a=some o)(d:fe w g h a B):fe w N h' a B:=fe.casesOn (motive:=λB _=>fe w N h' a B) d (λc e f=>.nil (k _ c) e f) (λc e=>.k (Heap.DictOf.at c k) (e.mono λ_ _ q=>⟨q.1,q.2.1,q.2.2.keeps gk⟩)) λc e f i j l=>.t (k _ c) e f i j (l.mono λ_ _ q=>⟨q.1,q.2.1,q.2.2.1.keeps gk,q.2.2.2.keeps gk⟩)
theorem fe.exact(d:fe w g h a B):∃o,h.get? a=some o/\o.ExactDict:=fe.casesOn (motive:=λ_ _=>∃o,h.get? a=some o/\o.ExactDict) d (λb c _=>⟨_,b,c⟩) (λb _=>b.elim λo h=>h.elim λ_ h=>h.elim λ_ h=>⟨o,h.1,h.2.1⟩) λb c _ _ _ _=>⟨_,b,c⟩
theorem fY.keeps(gk:∀b o,x.g.get? b=some o->y.g.get? b=some o)(p:∀(i:Nat)(a:b5),x.φ[i]?=some a->y.φ[i]?=some a)(gn:x.g.get? a=none->c.BW=true->y.g.get? a=none)(k:c.BW=true->∀o,x.s.heap.get? a=some o->y.s.heap.get? a=some o)(h:fY w x a c):fY w y a c:=by
 induction c using Cell.casesOn with
 |lst Z m=>induction m using Mode.casesOn with|fz=>exact j7 h λU j l d=>Ps U (j.at λo e=>gk _ _ e) l (d.keeps gk)|own=>exact⟨gn h.1 rfl,j7 h.2 λU j l d=>Ps U (j.at (k rfl)) l (d.keeps gk)⟩|sh=>exact⟨gn h.1 rfl,j7 h.2 λU j l d=>Ps U (j.at (k rfl)) l (d.keeps gk)⟩
 |eJ B f=>induction f using aY with|true=>exact⟨h.1,h.2.1,fe.keeps gk (λo e=>gk _ _ e) h.2.2⟩|false=>exact⟨h.1,h.2.1,gn h.2.2.1 rfl,fe.keeps gk (k rfl) h.2.2.2⟩
 |ins A=>exact⟨gn h.1 rfl,h.2.1,h.2.2.1,mn h.2.2.2 λq n d r=>xA q n (k rfl _ d) (r.mono λ_ _ e=>iL e λnm t a b c=>Dg nm t a b (c.mono gk p))⟩
theorem Rel.live(R:Rel w x){i:Nat}(h:x.φ[i]?=some a):∃o,x.s.heap.get? a=some o:=by
 have e:i<x.H.length:=R.len▸(aG.mp h).1;have c:=R.cell i x.H[i] a (aw e) h;generalize x.H[i]=d at c;induction d using Cell.casesOn with
 |lst Z m=>induction m using Mode.casesOn with|fz=>exact nH c λU c=>lK c λb _=>nH b λn b=>⟨_,R.sub _ _ b⟩|own=>exact nH c.2 λU c=>lK c λb _=>nH b λn b=>⟨_,b⟩|sh=>exact nH c.2 λU c=>lK c λb _=>nH b λn b=>⟨_,b⟩
 |eJ B f=>induction f using aY with|true=>exact d9 (fe.exact c.2.2) λo h _=>⟨o,R.sub _ _ h⟩|false=>exact d9 (fe.exact c.2.2.2) λo h _=>⟨o,h⟩
 |ins j=>exact mn c.2.2.2 λg n h _=>⟨_,h⟩
theorem fY.data(h:fY w x a c)(m:¬c.BW=true):∃o,x.g.get? a=some o:=by
 induction c using Cell.casesOn with
 |lst Z f=>induction f using Mode.casesOn with|fz=>exact nH h λU c=>lK c λb _=>nH b λn b=>⟨_,b⟩|_=>exact ay rfl m
 |eJ B f=>induction f using aY with|true=>exact d9 (fe.exact h.2.2) λo h _=>⟨o,h⟩|false=>exact ay rfl m
 |ins d=>exact ay rfl m
theorem Rel.D1(R:Rel w x)(h:x.mu b):x.g.get? b=none:=by
 refine iL (h) λi c d e j=>?_;have k:=R.cell i c b d j;clear d;induction c using Cell.casesOn with
 |lst Z m=>induction m using Mode.casesOn with|fz=>exact fO e|own=>exact k.1|sh=>exact k.1
 |eJ B f=>induction f using aY with|true=>exact fO e|false=>exact k.2.2.1
 |ins l=>exact k.1
theorem Le.refl:Le wm P x x where
 gk:=λ_ _ e=>e;gn:=λ_ _ e n=>by rw[n]at e;exact ec e
 keep:=λ_ _ e _ _=>e;DN:=⟨[],by simp,λ_ h=>by exact kr h⟩;mu:=λ_ h=>.inl h;refs:=λi c _ h=>⟨c,h,λv b=>.inr b⟩;live:=λ_ o e=>⟨o,e⟩;os:=rfl
theorem Le.fresh(a:Le wm P x y)(h:y.s.heap.get? b=none):x.s.heap.get? b=none:=by cases e:x.s.heap.get? b with|none=>rfl|some o=>obtain⟨d,c⟩:=a.live b o e;rw[h]at c;exact ec c
theorem Le.trans(a:Le wm P x y)(b:Le wm P y z):Le wm P x z where
 gk:=λc o e=>b.gk _ _ (a.gk _ _ e);gn:=λc o e n=>by
  cases h:y.g.get? c with
  |some m=>exact a.gn c m h n|none=>
   rcases b.gn c o e h with q|q;.exact a.mu c q
   .exact .inr (a.fresh q)
 keep:=λc o e n p=>b.keep c o (a.keep c o e n p) (λq=>by
  rcases a.mu c q with q|q;.exact n q
  .rw[q]at e;exact ec e) p;DN:=by
  refine d9 (a.DN) λC f j=>?_;refine d9 (b.DN) λr k l=>?_;refine i12 (C++r) (by rw[k,f,bA]) (λc hc=>?_);rcases aJ.mp hc with hc|hc;.exact j c hc
  .exact a.fresh (l c hc)
 mu:=λc h=>by
  rcases b.mu c h with q|q;.exact a.mu c q
  .exact .inr (a.fresh q)
 refs:=λi c s h=>by
  refine d9 (b.refs i c s h) λt f j=>?_;refine d9 (a.refs i t s f) λd k l=>?_;refine i12 d k (λv B=>?_);rcases j v B with q|q;.exact .inl q
  .exact l v q
 live:=λc o e=>let⟨m,A⟩:=a.live c o e;b.live c m A;os:=b.os.trans a.os
theorem Le.weak(h:Le wm P x y)(p:∀b,P b->c b):Le wm c x y:=⟨h.gk,h.gn,λb o e n q=>h.keep b o e n λz=>q (p _ z),h.DN,h.mu,h.refs,h.live,h.os⟩
noncomputable def part(h:Heap)(P:b5->Prop):Heap:=open Classical in⟨h.objs.mapIdx λi o=>if P i then o else{cls:=.none,data:=.freed},h.life⟩
theorem oN:(part h P).get? a=some o↔h.get? a=some o/\P a:=by
 rw[Heap.get?_some_iff,Heap.get?_some_iff];rw[part,Array.getElem?_mapIdx,cv];constructor;.
  rintro⟨⟨f,d,b⟩,c⟩;by_cases e:P a;.rw[aW e]at b;subst b;exact⟨⟨d,c⟩,e⟩
  .rw[aZ e]at b;subst b;exact TU c
 .rintro⟨⟨d,b⟩,c⟩;exact⟨⟨o,d,aW c⟩,b⟩
noncomputable def kj(h g:Heap)(as:ab b5):Heap:=part h λb=>(g.get? b).isSome=true\/b∈as
theorem oM:∀b o,(kj h g as).get? b=some o->h.get? b=some o:=λ_ _ e=>(oN.mp e).1
theorem i3(k:∀b o,g.get? b=some o->h.get? b=some o):∀b o,g.get? b=some o->(kj h g as).get? b=some o:=λb o e=>oN.mpr ⟨k _ _ e,.inl (by rw[e];rfl)⟩
theorem jE(m:a∈as)(e:h.get? a=some o):(kj h g as).get? a=some o:=oN.mpr ⟨e,.inr m⟩
theorem gK(e:(kj h g as).get? b=some o)(n:g.get? b=none):b∈as:=by
 rcases(oN.mp e).2with q|q;.rw[n]at q;exact fO q
 .exact q
noncomputable def Sx.grow(x:Sx)(s':aM)(as:ab b5):Sx:=⟨kj s'.heap x.g as,x.φ,x.H,s'⟩
theorem iE(R:Rel w x)(k:∀b o,x.s.heap.get? b=some o->s'.heap.get? b=some o)(p:s'.gens=#[])(q:s'.os=x.s.os)(l:∀a∈as,x.s.heap.get? a=none):Rel w (x.grow s' as)/\Le wm P x (x.grow s' as):=by
 have d:∀b o,x.g.get? b=some o->(kj s'.heap x.g as).get? b=some o:=i3 λb o e=>k _ _ (R.sub _ _ e);refine⟨⟨oM,R.top.keeps d,R.len,λi c a m j=>?_,R.inj,p⟩,⟨d,?_,λb o e _ _=>k _ _ e,⟨[],((aL _).symm),λ_ h=>by exact kr h⟩,λb h=>.inl h,λi c _ h=>⟨c,h,λv r=>.inr r⟩,λb o e=>⟨o,k _ _ e⟩,q⟩⟩;.refine fY.keeps (x:=x) (y:=x.grow s' as) d (λ_ _ e=>e) (λn _=>?_) (λ_ o e=>k _ _ e) (R.cell i c a m j);cases e:(kj s'.heap x.g as).get? a with|none=>exact e|some o=>obtain⟨t,f⟩:=R.live j;rw[l _ (gK e n)]at f;exact ec f
 .intro b o e n;exact .inr (l _ (gK e n))
theorem jP{b:Type}{l:ab b}{c d:b}(h:(l.set i c)[j]?=some d):(i=j/\c=d)\/(i≠j/\l[j]?=some d):=by
 rw[List.getElem?_set]at h;by_cases e:i=j;.rw[aW e]at h;exact if1 h λ_ h=>.inl ⟨e,sI h⟩
 .rw[aZ e]at h;exact .inr ⟨e,h⟩
noncomputable def Sx.put(x:Sx)(s':aM)(as:ab b5)(i:Nat)(c:Cell):Sx:=⟨kj s'.heap x.g as,x.φ,x.H.set i c,s'⟩
theorem ES(R:Rel w x)(B:x.H[i]?=some f)(C:f.BW=true)(t:x.φ[i]?=some a)(k:∀b o,b≠a->x.s.heap.get? b=some o->s'.heap.get? b=some o)(N:∃o,s'.heap.get? a=some o)(M:s'.gens=#[])(O:s'.os=x.s.os)(L:∀b∈as,x.s.heap.get? b=none\/(b=a/\c.BW=false))(Q:∀v∈refsOf c,v.plain=true\/v∈refsOf f\/wm<=i)(J:fY w (x.put s' as i c) a c):Rel w (x.put s' as i c)/\Le wm P x (x.put s' as i c):=by
 have p:∀b o,x.g.get? b=some o->(kj s'.heap x.g as).get? b=some o:=i3 (λb o e=>k b o (by rintro rfl;rw[(R.D1 ⟨i,f,B,C,t⟩)]at e;exact ec e) (R.sub _ _ e));refine⟨⟨oM,R.top.keeps p,by simp[Sx.put,R.len],λj d b l r=>?_,R.inj,M⟩,⟨p,?_,λb o e n _=>k _ _ (λh=>n ⟨i,f,B,C,(sY h t)⟩) e,⟨[],by simp[Sx.put],λ_ h=>by exact kr h⟩,?_,?_,λb o e=>?_,O⟩⟩;.
  rcases jP l with⟨rfl,rfl⟩|⟨m,l⟩;.obtain rfl:b=a:=bJ (r.symm.trans t);exact J
  .have A:b≠a:=λe=>m (R.inj _ _ _ t ((sZ e r)));refine fY.keeps (x:=x) (y:=x.put s' as i c) p (λ_ _ e=>e) (λn _=>?_) (λ_ o e=>k _ _ A e) (R.cell j d b l r);cases e:(kj s'.heap x.g as).get? b with
   |none=>exact e|some o=>
    rcases L _ (gK e n)with q|q;.obtain⟨U,G⟩:=R.live r;rw[q]at G;exact ec G
    .exact ay q.1 A
 .intro b o e n;rcases L _ (gK e n)with q|⟨rfl,_⟩;.exact .inr q
  .exact .inl ⟨i,f,B,C,t⟩
 .rintro b⟨j,d,l,r,I⟩;rcases jP l with⟨rfl,rfl⟩|⟨m,l⟩;.exact .inl ⟨_,f,B,C,I⟩
  .exact .inl ⟨j,d,l,r,I⟩
 .intro j d T l;rcases jP l with⟨rfl,rfl⟩|⟨m,l⟩;.
   refine i12 f B (λv E=>?_);rcases Q v E with q|q|q;.exact .inl q
   .exact .inr q
   .lia
  .exact i12 d l (λv E=>.inr E)
 .by_cases h:b=a;.clear t J;refine sY h ?_;exact N
  .exact⟨o,k _ _ h e⟩
noncomputable def Sx.add(x:Sx)(s':aM)(as:ab b5)(a:b5)(c:Cell):Sx:=⟨kj s'.heap x.g as,x.φ++[a],x.H++[c],s'⟩
theorem Fa(R:Rel w x)(Z:wm<=x.H.length)(k:∀b o,x.s.heap.get? b=some o->s'.heap.get? b=some o)(T:s'.gens=#[])(X:s'.os=x.s.os)(I:∀b∈as,x.s.heap.get? b=none)(C:x.s.heap.get? a=none)(Q:fY w (x.add s' as a c) a c):Rel w (x.add s' as a c)/\Le wm P x (x.add s' as a c):=by
 have t:∀b o,x.g.get? b=some o->(kj s'.heap x.g as).get? b=some o:=i3 λb o e=>k _ _ (R.sub _ _ e);have G:∀(i:Nat)(b:b5),x.φ[i]?=some b->(x.φ++[a])[i]?=some b:=λi b e=>by rw[aU (aG.mp e).1];exact e
 have f:∀{E:Type}{l:ab E}{c d:E}{i:Nat},(l++[c])[i]?=some d->l[i]?=some d\/(i=l.length/\c=d):=by
  intro E l c d i h;refine or3 (aaB i l.length) (λq=>?_) (λq=>?_) λq=>?_;.rw[aU q]at h;exact .inl h
  .subst q;simp at h;exact .inr ⟨rfl,h⟩
  .rw[b6 (by simp;lia)]at h;exact ec h
 refine⟨⟨oM,R.top.keeps t,by simp[Sx.add,R.len],λj d b m p=>?_,?_,T⟩,⟨t,?_,λb o e _ _=>k _ _ e,⟨[a],rfl,λb h=>by simp at h;rw[h];exact C⟩,?_,?_,λb o e=>⟨o,k _ _ e⟩,X⟩⟩;.
  rcases f m with m|⟨rfl,rfl⟩;.
   have U:j<x.φ.length:=R.len▸(aG.mp m).1;have A:x.φ[j]?=some b:=by
    rcases f p with q|⟨q,_⟩;.exact q
    .lia
   refine fY.keeps (x:=x) (y:=x.add s' as a c) t G (λn _=>?_) (λ_ o e=>k _ _ e) (R.cell j d b m A);cases e:(kj s'.heap x.g as).get? b with|none=>exact e|some o=>obtain⟨J,r⟩:=R.live A;rw[I _ (gK e n)]at r;exact ec r
  .rcases f p with q|⟨_,rfl⟩;.have:=(aG.mp q).1;rw[R.len]at this;lia
   .exact Q
 .intro i j b m p;rcases f m with m|⟨L,N⟩<;>rcases f p with p|⟨M,O⟩;.exact R.inj _ _ _ m p
  .obtain⟨J,r⟩:=R.live m;rw[←O,C]at r;exact ec r
  .obtain⟨J,r⟩:=R.live p;rw[←N,C]at r;exact ec r
  .exact L.trans M.symm
 .intro b o e n;exact .inr (I _ (gK e n))
 .rintro b⟨j,d,m,p,B⟩;rcases f B with B|⟨rfl,rfl⟩;.
   rcases f m with m|⟨rfl,rfl⟩;.exact .inl ⟨j,d,m,p,B⟩
   .have:=(aG.mp B).1;rw[R.len]at this;lia
  .exact .inr C
 .intro j d U m;rcases f m with m|⟨rfl,rfl⟩;.exact i12 d m (λv Y=>.inr Y)
  .omega
noncomputable def Sx.cut(x:Sx)(n:Nat):Sx:=⟨x.g,x.φ.take n,x.H.take n,x.s⟩
theorem Hi{as:ab f}{c:ab g}(h:eC R as c):∀a∈as,∃b∈c,R a b:=h.ind (λ_ h=>kr h) λ{_ b _ _}p _ ih a h=>(af.mp h).elim (λe=>i12 b (.head _) (e▸p)) λh=>d9 (ih a h) λy d r=>i12 y (.tail _ d) r
theorem eC.rQ{as:ab e}{c:ab g}(f:∀a∈as,∀b,R a b->d a b)(h:eC R as c):eC d as c:=by induction h with|nil=>exact .nil|cons a _ ih=>exact .cons (f _ aF _ a) (ih λa h=>f a (ax _ h))
theorem DU(R:Rel w x)(S:Rel w y)(L:Le x.H.length P x y)(hw:wm<=x.H.length):Rel w (y.cut x.H.length)/\Le wm P x (y.cut x.H.length)/\(∀(v:V)(u:al),v.plain=true->Rv w y v u->Rv w (y.cut x.H.length) v u):=by
 refine(let γ:Prop:=_;(?_:γ));refine d9 (L.DN) λψ X hf=>?_;have A:y.φ.take x.H.length=x.φ:=by rw[X,←R.len];simp
 have k:∀{i:Nat}{b:b5},(y.cut x.H.length).φ[i]?=some b->y.φ[i]?=some b:=by intro i b e;rw[show(y.cut x.H.length).φ=x.φ from A]at e;exact L.Ur _ _ e
 have g:∀{i:Nat}{c:Cell},(y.H.take x.H.length)[i]?=some c->i<x.H.length/\y.H[i]?=some c:=by
  intro i c e;have p:i<x.H.length:=by have:=(aG.mp e).1;simp at this;lia
  exact⟨p,by rw[aa4,aW p]at e;exact e⟩
 refine⟨⟨S.sub,S.top,?_,?_,λi j a o s=>S.inj i j a (k o) (k s),S.gens⟩,⟨L.gk,L.gn,L.keep,⟨[],by simpa[Sx.cut]using A,λ_ h=>by exact kr h⟩,?_,?_,L.live,L.os⟩,?_⟩;.show(y.φ.take _).length=(y.H.take _).length;simp[S.len]
 .intro i c a o s;obtain⟨p,o⟩:=g o;have C:=S.cell i c a o (k s);induction c using Cell.casesOn with
  |lst Z m=>rcases m with⟨⟩<;>exact C|eJ B f=>rcases f with⟨⟩<;>exact C|ins fs=>
   obtain⟨h0,J,M,es,n,N,h4⟩:=C;refine⟨h0,J,M,es,n,N,h4.rQ ?_⟩;rintro⟨at_,v⟩Q e⟨nm,t,k1,k2,Y⟩;refine⟨nm,t,k1,k2,?_⟩;refine d9 (L.refs i _ p o) λc' e1 e2=>?_;have E:∀j,(v=.ref j\/∃I,v=.ins I j)->j<x.H.length:=by
    intro j U;rcases e2 v (ag.mpr ⟨_,Q,rfl⟩)with q|q;.rw[(show v.plain=false from by rcases U with rfl|⟨I,rfl⟩<;>rfl)]at q;exact fO q
    .clear Q k2 e2;refine nH (show∃b,x.φ[i]?=some b from⟨x.φ[i]'((sY R.len p)),aw _⟩) λb O=>?_;have C':=R.cell i c' b e1 O;induction c' using Cell.casesOn with
     |lst _ _=>simp[refsOf]at q|eJ _ _=>simp[refsOf]at q|ins υ=>
      obtain⟨_,_,_,es',n',_,q4⟩:=C';obtain⟨⟨at',v'⟩,T,rfl⟩:=ag.mp q;obtain⟨e',_,UH,t',_,_,G⟩:=Hi q4 _ T;dsimp only at G U;generalize e'.val=u' at G;refine sZ R.len ?_;rcases U with rfl|⟨I,rfl⟩;.cases G with|ref q6=>exact(aG.mp q6).1
      .cases G with|ins _ _ q6=>exact(aG.mp q6).1
   dsimp only at Y⊢;generalize e.val=u at Y;have l:∀{j:Nat}{b:b5},j<x.H.length->y.φ[j]?=some b->(y.cut x.H.length).φ[j]?=some b:=by intro j b hj O;show(y.φ.take _)[j]?=_;rw[aa4,aW hj];exact O
   clear Q;induction Y with|d r=>exact .d r|ref r=>exact .ref (l (E _ (.inl rfl)) r)|ins m r r'=>exact .ins m r (l (E _ (.inr ⟨_,rfl⟩)) r')
 .rintro b⟨i,c,o,s,N⟩;exact L.mu b ⟨i,c,(g o).2,s,k N⟩
 .intro i c p o;exact L.refs i c (bY p hw) (g o).2
 .intro v u hp r;induction r with|d r=>exact .d r|ref _=>exact fO hp|ins _ _ _=>exact fO hp
end
section
variable{w:bO}{x y z:Sx}{wm:Nat}{P:b5->Prop}
theorem He{b:Type}{es:dv b}{l:ab b}(h:es.toList=l)(e:l.length=0):es=#[]:=Array.toList_inj.mp (h.trans (List.eq_nil_of_length_eq_zero e))
noncomputable def MD(h:Heap)(a:b5):Prop:=∃o b,h.get? a=some o/\o.ExactDict/\o.data=.dict #[] b
theorem DictOf.of_empty{K:Type}[bD K]{R:KeyKind pw w K}{h:Heap}{a:b5}{o:Obj}{b:Nat}(c:h.get? a=some o)(d:o.ExactDict)(e:o.data=.dict #[] b):h.DictOf R a []:=⟨o,#[],b,c,d,e,λ_ f=>ay f (Array.not_mem_empty _),Pairs.nil,ab6⟩
theorem MD.K(d:MD h a):∃l,h.DictOf (sK w) a l/\eC (nJ w g) [] l:=iL d λ_ _ b c e=>i12 [] (DictOf.of_empty b c e) .nil
theorem MD.T(d:MD h a):∃l,h.DictOfH (dK w) a l/\eC (lI w g) [] l:=iL d λo b c e f=>i12 [] ⟨o,#[],b,c,e,f,rfl,λ_ i=>kr i,ab6⟩ .nil
theorem DictOf.emp(d:h.DictOf (sK w) a []):MD h a:=Sy d λo e b ho hc hd _ c _=>jR o b ⟨ho,hc,hd.trans (ah (Data.dict · b) (He rfl c.length))⟩
noncomputable def UB(k:rC):Nat:=rC.casesOn k 0 1 2
theorem m8(h:eg q (p::B)=true):p.1.sort=some q:=aT (bX.mp h).1
theorem Pn{G:Prop}(h:wA k=true)(e:k.sort=some .t):G:=Jg (P:=λk=>k.sort=some .t->G) h (λ_ e=>xo UB e rfl) (λ_ e=>xo UB e rfl) e
theorem qp.no(h:eC (nJ w g) B l)(q:eg .t B=true){M:ab (D×D)->ab (D×al)->Prop}(n:M [] []):M B l:=h.ind (P:=λB l=>eg .t B=true->M B l) (λ_=>n) (λe _ _ q=>Pn e.2.1 (e.1▸m8 q)) q
theorem G8.no(h:eC (lI w g) B l)(q:(eg .i B||eg .s B)=true){M:ab (D×D)->ab (D×b5×al)->Prop}(n:M [] []):M B l:=h.ind (P:=λB l=>(eg .i B||eg .s B)=true->M B l) (λ_=>n) (λe _ _ q=>(dm.mp q).elim (λq=>xo UB ((m8 q).symm.trans (e.1▸e.2.1)) rfl) λq=>xo UB ((m8 q).symm.trans (e.1▸e.2.1)) rfl) q
theorem G8.is(gh:∀b o,g.get? b=some o->h.get? b=some o)(q:eC (lI w g) B l):∀b∈l,(dK w).is h b.1 b.2.1:=q.ind (λ_ h=>kr h) λe _ ih=>bC.mpr ⟨⟨e.2.1,e.2.2.1.keeps gh⟩,ih⟩
theorem fe.Qy(q:(eg .i B||eg .s B)=true)(d:fe w g h a B):∃l,h.DictOf (sK w) a l/\eC (nJ w g) B l:=fe.casesOn (motive:=λB _=>(eg .i B||eg .s B)=true->∃l,h.DictOf (sK w) a l/\eC (nJ w g) B l) d (λb c e _=>MD.K (jR _ _ ⟨b,c,e⟩)) (λb c _=>i12 _ b c) (λ{B l o k j}b c e f _ m q=>G8.no m q (M:=λB l=>k.toList=l.map (entryOfKey (dK w))->∃l,h.DictOf (sK w) a l/\eC (nJ w g) B l) (λf=>MD.K (jR o j ⟨b,c,e.trans (ah (Data.dict · j) (He f rfl))⟩)) f) q
theorem fe.TH(q:eg .t B=true)(gh:∀b o,g.get? b=some o->h.get? b=some o)(d:fe w g h a B):∃l,h.DictOfH (dK w) a l/\eC (lI w g) B l:=fe.casesOn (motive:=λB _=>eg .t B=true->∃l,h.DictOfH (dK w) a l/\eC (lI w g) B l) d (λc e f _=>MD.T (jR _ _ ⟨c,e,f⟩)) (λc e q=>qp.no e q (M:=λB l=>h.DictOf (sK w) a l->∃l,h.DictOfH (dK w) a l/\eC (lI w g) B l) (λc=>(DictOf.emp c).T) c) (λc e f j k i _=>i12 _ ⟨_,_,_,c,e,f,j,G8.is gh i,k⟩ i) q
theorem fe.zl(d:h.DictOfH (dK w) a l)(e:eC (lI w g) B l):fe w g h a B:=Sy d λ_ _ _ b c f i _ j=>.t b c f i j e
theorem qp.keys(h:eC (nJ w g) B l):l.map (·.1)=B.map (·.1):=h.ind rfl λe _ r=>acO.mpr ⟨e.1.symm,r⟩
theorem qp.sc(h:eC (nJ w g) B l):∀p∈l,wA p.1=true:=h.ind (λ_ h=>kr h) λe _ r=>bC.mpr ⟨e.2.1,r⟩
theorem qp.IV(h:eC (nJ w g) B l):fi w g (B.map (·.2)) (l.map (·.2)):=h.ind .nil λe _ r=>.cons e.2.2 r
theorem kV:big<=bg:=by rw[dj];decide
theorem fe.rd(d:fe w g g a B)(q:(eg .i B||eg .s B)=true)(e:(a==cI)=false)(f:B.length<=big):Rd w g (.eJ (B.map (·.1)) (B.map (·.2))) (.ref a):=d9 (d.Qy q) λ_ c b=>qp.keys b▸.eJ c e (b.length▸au f kV) (qp.sc b) (qp.IV b)
theorem pd{G:Prop}(h:(k.sort.any λq=>eg q B)=true)(b:wA k=true->(eg .i B||eg .s B)=true->G)(c:k.sort=some .t->eg .t B=true->G):G:=by induction k using D.casesOn with|int i=>exact b rfl (dm.mpr (.inl h))|str s=>exact b rfl (dm.mpr (.inr h))|tup Z=>exact if e:D.kx 6 (.tup Z)=true then c (aW e) ((ah (ahT λq=>eg q B) (aW e)).symm.trans h)else fO ((ah (ahT λq=>eg q B) (aZ e)).symm.trans h)|_=>exact fO h
theorem oV{G:al->Prop}(h:k.sort=some .t)(r:Rd w g k u)(f:∀b,Rd w g k (.ref b)->G (.ref b)):G u:=by induction k using D.casesOn with|int i=>exact Pn rfl h|str s=>exact Pn rfl h|tup Z=>exact lB (P:=λu=>Rd w g (.tup Z) u->G u) r (λa _ _ _ _ _ r=>f a r) r|_=>exact ec h
theorem Ad(h:wA p=true)(q:wA k=true):D.eqv p k=some (decide (p=k)):=pC 6 60 (Jg (P:=λp=>D.kx 6 p=true) h (λ_=>rfl) λ_=>rfl) (Jg (P:=λp=>D.kx 6 p=true) q (λ_=>rfl) λ_=>rfl) (by decide)
theorem sS{b:Type}{l:ab b}{c:b}(h:l[i]?=some c):l.set i c=l:=nH (aG.mp h) λd e=>e▸List.set_getElem_self d
noncomputable def Fz(w:bO)(wm:Nat)(P:b5->Prop)(x:Sx)(b:Hp)(K:Sx->Prop):Prop:=∃y,y.s=x.s/\Rel w y/\Le wm P x y/\y.H=b/\K y
theorem Fz.id(R:Rel w x){K:Sx->Prop}(k:K x):Fz w wm P x x.H K:=⟨x,rfl,R,.refl,rfl,k⟩
theorem Fz.imp{K:Sx->Prop}(h:Fz w wm P x b K)(f:∀y,K y->c y):Fz w wm P x b c:=Ri h λy d e g i j=>⟨y,d,e,g,i,f y j⟩
noncomputable def J'(w:bO)(a:b5)(Z:ab D)(y:Sx):Prop:=∃U:dv al,y.g.PlainList a U/\U.size<=bg/\fi w y.g Z U.toList
noncomputable def Ou(w:bO)(a:b5)(B:ab (D×D))(y:Sx):Prop:=(a==cI)=false/\B.length<=big/\fe w y.g y.g a B
theorem DZ(R:Rel w x){K:Sx->Prop}(l:x.H[i]?=some d)(m:d.BW=true)(f:x.φ[i]?=some a)(n:c.BW=false)(o:refsOf c=[])(j:fY w (x.put x.s [a] i c) a c)(k:K (x.put x.s [a] i c)):Fz w wm P x (x.H.set i c) K:=lK (ES (P:=P) (wm:=wm) (c:=c) (as:=[a]) R l m f (λ_ _ _ e=>e) (R.live f) R.gens rfl (λb g=>.inr ⟨kE g,n⟩) (λv r=>kr (eL o.symm r)) j) λp q=>⟨x.put x.s [a] i c,rfl,p,q,rfl,k⟩
theorem zp(R:Rel w x)(c:x.H[i]?=some (.lst Z m))(d:x.φ[i]?=some a):Fz w wm P x (x.H.set i (.lst Z .fz)) (J' w a Z):=by have C:=R.cell i _ a c d;have go:(Cell.lst Z m).BW=true->x.g.get? a=none/\(∃U:dv al,x.s.heap.PlainList a U/\U.size<=bg/\fi w x.g Z U.toList)->Fz w wm P x (x.H.set i (.lst Z .fz)) (J' w a Z):=λj h=>j7 h.2 λU b e f=>have k:J' w a Z (x.put x.s [a] i (.lst Z .fz)):=Ps U (b.imp λ_ b=>jE (.head _) b) e (f.keeps (i3 R.sub));DZ R c j d rfl rfl k k;induction m using Mode.casesOn with|fz=>exact sY (P:=λH=>Fz w wm P x H (J' w a Z)) (sS c) (Fz.id R C)|own=>exact go rfl C|sh=>exact go rfl C
theorem O0(R:Rel w x)(b:x.H[i]?=some (.eJ B f))(c:x.φ[i]?=some a):Fz w wm P x (x.H.set i (.eJ B true)) (Ou w a B):=by have C:=R.cell i _ a b c;induction f using aY with|true=>exact sY (P:=λH=>Fz w wm P x H (Ou w a B)) (sS b) (Fz.id R C)|false=>have k:Ou w a B (x.put x.s [a] i (.eJ B true)):=⟨C.1,C.2.1,fe.keeps (i3 R.sub) (λo e=>jE (.head _) e) C.2.2.2⟩;exact DZ R b rfl c rfl rfl k k
@[elab_as_elim]theorem jX{P:ae Cell->Prop}(o:ae Cell)(n:P none)(l:∀Z m,P (some (.lst Z m)))(d:∀B f,P (some (.eJ B f)))(i:∀fs,P (some (.ins fs))):P o:=cC o n λc=>Cell.casesOn (motive:=λc=>P (some c)) c l d i
noncomputable def RA(i:Nat)(H:Hp):ae Cell->ae (D×Hp)|some (.lst Z _)=>some (.lst Z,H.set i (.lst Z .fz))|some (.eJ B _)=>if eg .i B||eg .s B then some (.eJ (B.map (·.1)) (B.map (·.2)),H.set i (.eJ B true))else none|_=>none
noncomputable def Mp(i:Nat)(H:Hp):ae Cell->ae (V×Hp)|some (.lst Z .own)=>some (.d (.lst Z),H.set i (.lst Z .fz))|some (.lst Z .fz)=>some (.d (.lst Z),H)|some (.lst _ .sh)=>some (.ref i,H)|some (.eJ _ _)=>some (.ref i,H)|_=>none
noncomputable def K9(i:Nat)(H:Hp):ae Cell->ae (ab D×Hp)|some (.lst Z _)=>some (Z,H.set i (.lst Z .fz))|_=>none
theorem FN(R:Rel w x)(r:Rv w x v u)(h:toD v x.H=some (d,b)):Fz w wm P x b λy=>Rd w y.g d u:=by induction v using V.casesOn with|d d=>exact sP (P:=λd b=>Fz w wm P x b λy=>Rd w y.g d u) h (Fz.id R r.eU)|ref i=>exact tf r λa e=>jX (P:=λo=>x.H[i]?=o->RA i x.H o=some (d,b)->Fz w wm P x b λy=>Rd w y.g d (.ref a)) x.H[i]? (λ_ h=>ec h) (λZ m c h=>sP (P:=λd b=>Fz w wm P x b λy=>Rd w y.g d (.ref a)) h ((zp R c e).imp λy h=>j7 h λU j k l=>.lst j.isList k l)) (λB f c h=>if1 h λq h=>sP (P:=λd b=>Fz w wm P x b λy=>Rd w y.g d (.ref a)) h ((O0 R c e).imp λy h=>h.2.2.rd q h.1 h.2.1)) (λ_ _ h=>ec h) rfl h|ins _ _=>exact ec h
theorem Jq(R:Rel w x)(r:Rv w x v u)(h:ik v x.H=some (c,b)):Fz w wm P x b λy=>Rv w y c u:=by induction v using V.casesOn with|ref i=>exact tf r λa e=>have id:some (V.ref i,x.H)=some (c,b)->Fz w wm P x b λy=>Rv w y c (.ref a):=λh=>sP (P:=λc b=>Fz w wm P x b λy=>Rv w y c (.ref a)) h (Fz.id R (.ref e));have j:∀Z m,x.H[i]?=some (.lst Z m)->some (V.d (.lst Z),x.H.set i (.lst Z .fz))=some (c,b)->Fz w wm P x b λy=>Rv w y c (.ref a):=λZ m g h=>sP (P:=λc b=>Fz w wm P x b λy=>Rv w y c (.ref a)) h ((zp R g e).imp λy h=>j7 h λU k l p=>.d (.lst k.isList l p));jX (P:=λo=>x.H[i]?=o->Mp i x.H o=some (c,b)->Fz w wm P x b λy=>Rv w y c (.ref a)) x.H[i]? (λ_ h=>ec h) (λZ m=>Mode.casesOn (motive:=λm=>x.H[i]?=some (.lst Z m)->Mp i x.H (some (.lst Z m))=some (c,b)->Fz w wm P x b λy=>Rv w y c (.ref a)) m (λg h=>j Z _ g h) (λ_ h=>id h) λg h=>j Z _ g ((ah (λH=>some (V.d (.lst Z),H)) (sS g)).trans h)) (λB f _ h=>id h) (λ_ _ h=>ec h) rfl h|_=>exact sP (P:=λc b=>Fz w wm P x b λy=>Rv w y c u) h (Fz.id R r)
noncomputable def CZ(w:bO)(g:Heap)(Z:ab D)(u:al):Prop:=∃a,∃U:dv al,u=.ref a/\(g.IsTuple a U\/g.IsList a U)/\U.size<=bg/\fi w g Z U.toList
theorem B3(R:Rel w x)(r:Rv w x v u)(h:jk v x.H=some (Z,b)):Fz w wm P x b λy=>CZ w y.g Z u:=by
 induction v using V.casesOn with
 |d d=>induction d using D.casesOn with|tup k=>exact sP (P:=λZ b=>Fz w wm P x b λy=>CZ w y.g Z u) h (Fz.id R (lB r.eU λa U c f j _=>rh a U rfl (.inl c) f j))|lst k=>exact sP (P:=λZ b=>Fz w wm P x b λy=>CZ w y.g Z u) h (Fz.id R (Ao r.eU λa U c f j=>rh a U rfl (.inr c) f j))|_=>exact ec h
 |ref i=>exact tf r λa e=>jX (P:=λo=>x.H[i]?=o->K9 i x.H o=some (Z,b)->Fz w wm P x b λy=>CZ w y.g Z (.ref a)) x.H[i]? (λ_ h=>ec h) (λk m s h=>sP (P:=λZ b=>Fz w wm P x b λy=>CZ w y.g Z (.ref a)) h ((zp R s e).imp λy h=>j7 h λU l p q=>rh a U rfl (.inr l.isList) p q)) (λ_ _ _ h=>ec h) (λ_ _ h=>ec h) rfl h|ins _ _=>exact ec h
end
theorem rI:PySem.W.Fast.sEq a b=(b==a):=by rw[b9,PySem.W.Fast.sEq_iff,bP];exact eq_comm
theorem gw(N:b7)(x:Str):nR N x=N.names.lookup x:=by unfold nR;generalize N.names=l;induction l with|nil=>rfl|cons p r ih=>obtain⟨n,k⟩:=p;rw[cR,br,rI];cases h:x==n with|true=>simp|false=>simpa using ih
theorem n5(h:tL x=true):(x==("__debug__":Str))=false:=by unfold tL at h;rw[aI]at h;have b:=h.1;rw[rI]at b;clear h;cases e:x==("__debug__":Str)with|false=>rfl|true=>rw[bP]at e;subst e;have:(aa "__debug__"==("__debug__":Str))=true:=bP.mpr rfl;rw[this]at b;exact fO b
theorem rR(h:tL x=true):(x==("__classdict__":Str))=false:=by unfold tL at h;rw[aI]at h;have b:=h.2;rw[rI]at b;clear h;cases e:x==("__classdict__":Str)with|false=>rfl|true=>rw[bP]at e;subst e;have:(aa "__classdict__"==("__classdict__":Str))=true:=bP.mpr rfl;rw[this]at b;exact fO b
theorem m6(h:isVar N x=true):tL x=true/\(N.names.lookup x=some .local\/N.names.lookup x=some .cell\/N.names.lookup x=some .free):=by
 unfold isVar at h;rw[aI,gw]at h;refine⟨h.1,?_⟩;have b:=h.2;rcases e:N.names.lookup x with _|k<;>rw[e]at b;.exact fO b
 rcases k with⟨⟩<;>first|exact fO b|rfl|exact .inl rfl|exact .inr rfl|exact .inr (.inl rfl)|exact .inr (.inr rfl)
theorem la(h:g0 N x=true):tL x=true/\(N.names.lookup x=some .local\/N.names.lookup x=some .cell):=by
 unfold g0 at h;rw[aI,gw]at h;refine⟨h.1,?_⟩;have b:=h.2;rcases e:N.names.lookup x with _|k<;>rw[e]at b;.exact fO b
 rcases k with⟨⟩<;>first|exact fO b|rfl|exact .inl rfl|exact .inr rfl|exact .inr (.inl rfl)|exact .inr (.inr rfl)
theorem oW(h:jc N x=true):tL x=true/\N.names.lookup x=some .globalImplicit:=by
 unfold jc at h;rw[aI,gw]at h;refine⟨h.1,?_⟩;have b:=h.2;rcases e:N.names.lookup x with _|k<;>rw[e]at b;.exact fO b
 rcases k with⟨⟩<;>first|exact fO b|rfl|exact .inl rfl|exact .inr rfl|exact .inr (.inl rfl)|exact .inr (.inr rfl)
theorem o7:∀{O:ab Str}{n i:Nat}{x:Str},fw O n x=some i->n<=i/\O[i-n]?=some x:=by
 intro O;induction O with
 |nil=>intro _ _ _ h;exact ec h|cons y r ih=>
  intro n i x h;unfold fw at h;rcases c:fw r (n+1) x with _|j<;>rw[c]at h;rotate_left;.
   obtain rfl:=(sI h).symm;obtain⟨a,b⟩:=ih c;refine⟨by lia,?_⟩;have:i-n=(i-(n+1))+1:=by lia
   rw[this];simpa using b
  .refine if1 h λq h=>so h ?_;rw[PySem.W.Fast.sEq_iff]at q;refine sZ q ?_;exact⟨aV _,by simp⟩
theorem kM(h:ey O x=some i):O[i]?=some x:=by simpa using(o7 h).2
theorem qo(h:ey O x=some i)(k:ey O y=some i):x=y:=bJ ((kM h).symm.trans (kM k))
theorem oh(h:ey O x=some i):i<O.length:=(aG.mp (kM h)).1
theorem rl:∀(O ts:ab Str)(n:Nat)(x:Str),fw (O++ts) n x=match fw ts (n+O.length) x with|some i=>some i|none=>fw O n x:=by intro O;induction O with|nil=>intro ts n x;simp[fw];cases fw ts n x<;>rfl|cons y r ih=>intro ts n x;show(match fw (r++ts) (n+1) x with|some i=>some i|none=>if PySem.W.Fast.sEq y x then some n else none)=_;simp only[ih ts (n+1) x,show n+1+r.length=n+(y::r).length by simp;lia];cases fw ts (n+(y::r).length) x with|some i=>rfl|none=>rfl
theorem oH:∀{ts:ab Str}{n:Nat}{x:Str},x∈ts->(fw ts n x).isSome=true
 |y::r,n,x,h=>by
  unfold fw;cases b:fw r (n+1) x with
  |some i=>rfl|none=>
   rcases af.mp h with rfl|h;.rw[aW (PySem.W.Fast.sEq_iff.mpr rfl)];rfl
   .have:=oH (n:=n+1) h;rw[b]at this;exact fO this
noncomputable def fP:b5->Prop:=λ_=>afz
noncomputable def jL(J:Env):b5->Prop:=λb=>b=J.locals\/∃p∈J.cells,b=p.2
structure fU(w:bO)(x:Sx)(env:Env)(sc:b7)(O:ab Str)(l:Loc):Prop where
 scope:env.scope=sc
 kind:sc.kind=.function
 globals:env.globals=3
 builtins:env.builtins=0
 len:l.length=O.length
 loc:∃m,x.s.heap.Ns env.locals m/\∀nm i v,ey O nm=some i->sc.names.lookup nm=some .local->l[i]?=some (some v)->∃u,m nm=some u/\Rv w x v u
 cell:∀nm i,ey O nm=some i->(sc.names.lookup nm=some .cell\/sc.names.lookup nm=some .free)->∃c vo,env.cells.lookup nm=some c/\x.s.heap.IsCell c vo/\∀v,l[i]?=some (some v)->∃u,vo=some u/\Rv w x v u
 apart:∀nm UH c,env.cells.lookup nm=some c->env.cells.lookup UH=some c->nm=UH
 mT:x.g.get? env.locals=none/\¬x.mu env.locals
 ie:∀p∈env.cells,x.g.get? p.2=none/\¬x.mu p.2/\p.2≠env.locals/\∃vo,x.s.heap.IsCell p.2 vo
section
variable{w:bO}{x y:Sx}{J:Env}{N:b7}{O:ab Str}{l:Loc}{wm:Nat}{P:b5->Prop}
theorem Le.out(h:Le wm P x y)(e:x.s.heap.get? b=some o)(n:x.g.get? b=none)(m:¬x.mu b):y.g.get? b=none/\¬y.mu b:=by
 constructor;.
  cases c:y.g.get? b with
  |none=>rfl|some d=>
   rcases h.gn b d c n with q|q;.exact ay q m
   .rw[q]at e;exact ec e
 .intro q;rcases h.mu b q with q|q;.exact m q
  .rw[q]at e;exact ec e
theorem fU.le(X:fU w x J N O l)(h:Le wm P x y)(A:¬P J.locals)(hc:∀p∈J.cells,¬P p.2):fU w y J N O l:=by
 refine d9 (X.loc) λm hm B=>?_;refine⟨X.scope,X.kind,X.globals,X.builtins,X.len,⟨m,hm.at' λo e=>h.keep _ _ e X.mT.2 A,λnm i v a b c=>let⟨u,f,g⟩:=B nm i v a b c;⟨u,f,g.le h⟩⟩,?_,X.apart,?_,?_⟩;.intro nm i f g;refine(let q:Prop:=_;(?_:q));refine iL (X.cell nm i f g) λc k a b d=>?_;have hm:=mem_of_lookup a;refine CH (X.ie _ hm) λt j z _=>?_;refine d9 (b) λo ho hd=>?_;exact jR c k ⟨a,⟨o,h.keep _ _ ho j (hc _ hm),hd⟩,λv e=>let⟨u,f,g⟩:=d v e;⟨u,f,g.le h⟩⟩
 .obtain⟨o,ho⟩:=(show∃o,x.s.heap.get? J.locals=some o from by obtain⟨o,_,_,ho,_⟩:=hm;exact⟨o,ho⟩);exact h.out ho X.mT.1 X.mT.2
 .intro p r;refine(let q:Prop:=_;(?_:q));obtain⟨t,j,z,k,o,ho,hd⟩:=X.ie p r;obtain⟨a,b⟩:=h.out ho t j;exact⟨a,b,z,k,o,h.keep _ _ ho j (hc p r),hd⟩
theorem fU.Up(X:fU w x J N O l)(h:Le wm fP x y):fU w y J N O l:=X.le h (λq=>q) (λ_ _ q=>q)
theorem Rv.same(r:Rv w x v u):Rv w ⟨x.g,x.φ,x.H,s'⟩ v u:=Rv.mono (x:=x) (y:=⟨x.g,x.φ,x.H,s'⟩) (λ_ _ e=>e) (λ_ _ e=>e) r
theorem vR(r:∃u,o=some u/\Rv w x v u):∃u,o=some u/\Rv w ⟨x.g,x.φ,x.H,s'⟩ v u:=let⟨u,a,b⟩:=r;⟨u,a,b.same⟩
variable{A:bI}{E:al->aM->Prop}{Q:al->aM->Prop}
theorem AH(X:fU w x J N O l)(j:ey O nm=some i)(f:isVar N nm=true)(o:l[i]?=some (some v))(h:∀u,Rv w x v u->Q u x.s):aR (aP pw w) A (loadName J nm) Q E x.s:=by
 refine(let G:Prop:=_;(?_:G));obtain⟨B,f⟩:=m6 f;have p:J.scope.kind=.function:=(sY X.scope X.kind);have q:∀k,N.names.lookup nm=some k->J.kindOf nm=some k:=λk e=>by unfold abf;rw[X.scope];exact e
 rcases f with f|f|f;.refine d9 (X.loc) λm z t=>?_;refine d9 (t nm i v j f o) λu r g=>?_;exact wpAny_loadName_local p (q _ f) z r (h u g)
 .obtain⟨c,C,a,b,d⟩:=X.cell nm i j (.inl f);obtain⟨u,rfl,g⟩:=d v o;exact wpAny_loadName_cell p (q _ f) a b (h u g)
 .obtain⟨c,C,a,b,d⟩:=X.cell nm i j (.inr f);obtain⟨u,rfl,g⟩:=d v o;exact wpAny_loadName_free p (q _ f) a b (h u g) (rR B)
theorem Rel.frame(R:Rel w x)(k:∀b o,x.s.heap.get? b=some o->¬P b->s'.heap.get? b=some o)(j:∀b,P b->x.g.get? b=none/\¬x.mu b)(hs:∀b o,x.s.heap.get? b=some o->∃t,s'.heap.get? b=some t)(m:s'.gens=#[])(ho:s'.os=x.s.os):Rel w ⟨x.g,x.φ,x.H,s'⟩/\Le wm P x ⟨x.g,x.φ,x.H,s'⟩:=by
 have Z:∀b o,x.g.get? b=some o->s'.heap.get? b=some o:=λb o e=>k b o (R.sub _ _ e) λp=>by rw[(j b p).1]at e;cases e
 refine⟨⟨Z,R.top,R.len,λi c a d f=>?_,R.inj,m⟩,Le.mk (λ_ _ e=>e) (λb o e n=>by rw[show x.g.get? b=none from n]at e;cases e) (λb o e _ p=>k b o e p) ⟨[],by simp,λ_ h=>by simp at h⟩ (λb q=>.inl q) (λi c _ h=>⟨c,h,λv r=>.inr r⟩) hs ho⟩;exact fY.keeps (x:=x) (y:=⟨x.g,x.φ,x.H,s'⟩) (λ_ _ e=>e) (λ_ _ e=>e) (λn _=>n) (λhm o e=>k _ _ e λp=>(j _ p).2 ⟨i,c,d,hm,f⟩) (R.cell i c a d f)
theorem wC(k:Heap.SameBut a h h')(l:∃o,h'.get? a=some o):∀b o,h.get? b=some o->∃c,h'.get? b=some c:=λb o e=>by
 by_cases q:b=a;.refine sY q ?_;exact l
 .exact⟨o,(k.2 b q).trans e⟩
noncomputable def GA(N:b7)(nm:Str):Prop:=N.names.lookup nm=some .local
theorem uE(R:Rel w x)(X:fU w x J N O l)(M:ey O nm=some i)(Z:GA N nm)(hv:Rv w x v u){Q:agO->aM->Prop}(h:∀y,Rel w y->Le wm (λb=>b=J.locals) x y->y.H=x.H->fU w y J N O (l.set i (some v))->Q () y.s):aR (aP pw w) A (storeName J nm u) Q E x.s:=by
 have n:∀k,N.names.lookup nm=some k->J.kindOf nm=some k:=λk e=>by unfold abf;rw[X.scope];exact e
 refine d9 (X.loc) λm hm hl=>?_;have t:∀d j,ey O d=some j->d≠nm->j≠i:=λd j T t e=>t (qo (e▸T) M);have I:∀B,(l.set i (some v))[i]?=some (some B)->B=v:=by intro B e;rw[abA (by rw[X.len];exact oh M)]at e;cases e;rfl
 have f:∀j,j≠i->(l.set i (some v))[j]?=l[j]?:=λj T=>ab4 (abn T);refine wpAny_storeName_local (n _ Z) hm (λh' C z=>?_) (by rw[(show J.scope.kind=.function from(sY X.scope X.kind))];rfl);clear n;obtain⟨S,L⟩:=R.frame (wm:=wm) (P:=λb=>b=J.locals) (s':={x.s with heap:=h',toks:=x.s.toks+1}) (λb o e p=>z.extBut b o p e) (show∀b,b=J.locals->x.g.get? b=none/\¬x.mu b from by rintro b rfl;exact X.mT) (wC z (let⟨o,_,_,ho,_⟩:=C;⟨o,ho⟩)) R.gens rfl;refine h ⟨x.g,x.φ,x.H,_⟩ S L rfl ⟨X.scope,X.kind,X.globals,X.builtins,(ade.trans X.len),⟨_,C,λd j B a b c=>?_⟩,λd j a b=>?_,X.apart,X.mT,λp hp=>?_⟩;.
  by_cases e:d=nm;.obtain rfl:=e.symm;obtain rfl:i=j:=bJ (M.symm.trans a);refine sY (I B c) ?_;exact i12 u ((aW rfl)) hv.same
  .rw[f j (t d j a e)]at c;refine d9 (hl d j B a b c) λu' h1 h2=>?_;exact i12 u' (by simp[e,h1]) h2.same
 .refine(let Y:Prop:=_;(?_:Y));refine iL (X.cell d j a b) λc U p q r=>?_;refine jR c U ⟨p,q.sameBut z (X.ie _ (mem_of_lookup p)).2.2.1,λB G=>?_⟩;rw[f j (t d j a (show d≠nm from by rintro rfl;rw[show N.names.lookup d=some .local from Z]at b;rcases b with b|b<;>exact ay b (by decide)))]at G;exact vR (r B G)
 .refine(let Y:Prop:=_;(?_:Y));refine CH (X.ie p hp) λq1 q2 q3 y1=>?_;refine nH y1 λU q4=>?_;exact⟨q1,q2,q3,U,q4.sameBut z q3⟩
theorem mS(R:Rel w x)(X:fU w x J N O l)(Z:ey O nm=some i)(C:g0 N nm=true)(hv:Rv w x v u){Q:agO->aM->Prop}(h:∀y,Rel w y->Le wm (jL J) x y->y.H=x.H->fU w y J N O (l.set i (some v))->Q () y.s):aR (aP pw w) A (storeName J nm u) Q E x.s:=by
 refine lK (la C) λhn C=>?_;have kf:J.scope.kind=.function:=(sY X.scope X.kind);have ko:∀k,N.names.lookup nm=some k->J.kindOf nm=some k:=λk e=>by unfold abf;rw[X.scope];exact e
 have pg:∀b,jL J b->x.g.get? b=none/\¬x.mu b:=by
  rintro b(rfl|⟨p,hp,rfl⟩);.exact X.mT
  .exact⟨(X.ie p hp).1,(X.ie p hp).2.1⟩
 refine C.elim (λC=>uE R X Z C hv λy S L g X=>h y S (L.weak λb e=>.inl e) g X) λC=>?_;refine d9 (X.loc) λm hm hl=>?_;have G:∀f j,ey O f=some j->f≠nm->j≠i:=λf j hj G e=>G (qo (e▸hj) Z);have self:∀M,(l.set i (some v))[i]?=some (some M)->M=v:=by intro M e;rw[abA (by rw[X.len];exact oh Z)]at e;cases e;rfl
 have B:∀j,j≠i->(l.set i (some v))[j]?=l[j]?:=λj hj=>ab4 (abn hj);.
  refine iL (X.cell nm i Z (.inl C)) λc vo p q r=>?_;have T:=mem_of_lookup p;refine wpAny_storeName_cell kf (ko _ C) p q λh' U t=>?_;clear ko;obtain⟨S,L⟩:=R.frame (wm:=wm) (P:=jL J) (s':={x.s with heap:=h'}) (λb o e z=>t.extBut b o (λq=>z (.inr ⟨_,T,q⟩)) e) pg (wC t (let⟨o,ho,_⟩:=U;⟨o,ho⟩)) R.gens rfl;refine h ⟨x.g,x.φ,x.H,_⟩ S L rfl ⟨X.scope,X.kind,X.globals,X.builtins,(ade.trans X.len),⟨m,hm.sameBut t ((X.ie _ T).2.2.1).symm,λf j M a b d=>?_⟩,λf j a b=>?_,X.apart,X.mT,λn hp=>?_⟩;.
   have e:f≠nm:=by rintro rfl;rw[C]at b;exact ay b (by decide)
   rw[B j (G f j a e)]at d;exact vR (hl f j M a b d)
  .by_cases e:f=nm;.obtain rfl:=e.symm;obtain rfl:i=j:=bJ (Z.symm.trans a);exact jR c (some u) ⟨p,U,λM I=>by obtain rfl:=(self M I).symm;exact⟨u,rfl,hv.same⟩⟩
   .refine iL (X.cell f j a b) λc' Y n q' r'=>?_;refine jR c' Y ⟨n,q'.sameBut t (λz=>e (X.apart _ _ _ n (z▸p))),λM I=>?_⟩;rw[B j (G f j a e)]at I;exact vR (r' M I)
  .refine(let γ:Prop:=_;(?_:γ));refine CH (X.ie n hp) λq1 q2 q3 y1=>?_;refine nH y1 λY q4=>?_;by_cases z:n.2=c;.exact⟨q1,q2,q3,some u,z▸U⟩
   .exact⟨q1,q2,q3,Y,q4.sameBut t z⟩
end
noncomputable def zB(n:Str):al->bt|.str s _=>PySem.W.Fast.sEq s n|_=>false
noncomputable def gc(es:ab cM)(n:Str):ae al:=(es.find? λe=>zB n e.key).map (·.val)
noncomputable def oS(es:ab cM):bt:=es.all λe=>match e.key with|.str _ _=>true|_=>false
set_option tactic.hygienic true in theorem Dv(n:Str)(v:al):v.isStr n=zB n v:=by
 rcases v with⟨⟩<;>try rfl
 rename_i s t;show(s==n)=PySem.W.Fast.sEq s n;rw[rI,b9,bP,bP];exact eq_comm
theorem G7{h:Heap}(d:h.get? a=some o)(hd:o.data=.dict es.toArray b)(k:oS es=true):h.Ns a (gc es):=by
 refine MM o es.toArray b ⟨d,hd,λe c=>?_,λn=>?_⟩;.have:=aA.mp k e (by simpa using c);revert this;generalize e.key=z;intro this;rcases z with⟨⟩<;>first|exact fO this|exact⟨_,_,rfl⟩
 .unfold nsFind findBy gc;rw[show(λe:cM=>e.key.isStr n)=λe=>zB n e.key from funext λe=>Dv n e.key];simp
noncomputable def vInt:al->ae Int|.int j _=>some j|_=>none
noncomputable def vStr:al->ae Str|.str t _=>some t|_=>none
noncomputable def RU:al->ae b5|.ref a=>some a|_=>none
noncomputable def Xn:al->ae dA|.type c=>some c|_=>none
noncomputable def RH:Data->ae (dv al)|.seq U _=>some U|_=>none
noncomputable def Rh(o:Obj):ae (dv al):=(Xn o.cls).bind λc=>if c="tuple"/\o.dict=none then RH o.data else none
theorem J0(h:vInt v=some j):∃t,v=.int j t:=by
 rcases v with⟨⟩<;>first|exact ec h|skip
 exact so h (QD _ rfl)
theorem Kb(h:vStr v=some j):∃t,v=.str j t:=by
 rcases v with⟨⟩<;>first|exact ec h|skip
 exact so h (QD _ rfl)
theorem Jw(h:RU v=some a):v=.ref a:=by
 rcases v with⟨⟩<;>first|exact ec h|skip
 exact so h rfl
theorem Pt(h:Xn v=some a):v=.type a:=by
 rcases v with⟨⟩<;>first|exact ec h|skip
 exact so h rfl
theorem KJ(h:RH d=some a):∃n,d=.seq a n:=by
 rcases d with⟨⟩<;>first|exact ec h|skip
 exact so h (QD _ rfl)
theorem Me(h:Rh o=some U):o.cls=.type "tuple"/\o.dict=none/\∃n,o.data=.seq U n:=xh h λc d h=>if1 h λb h=>⟨b.1▸Pt d,b.2,KJ h⟩
theorem te{b:Type}{o:ae b}{f:b->bt}(h:o.any f=true):∃a,o=some a/\f a=true:=by
 rcases o with _|a;.exact fO h
 .exact i12 a rfl h
noncomputable def D2:Nat->D->al->bt|0,_,_=>false|n+1,d,v=>match d with|.int i=>(vInt v).any λj=>decide (i=j)|.str s=>(vStr v).any λt=>PySem.W.Fast.sEq s t|.tup Z=>(RU v).any λa=>(tupK.find? (λp=>aah p.1 a)).any λp=>(Rh p.2).any λU=>decide (U.size<=1000)&&IU n Z U.toList|_=>false where IU(n:Nat):ab D->ab al->bt|[],[]=>true|x::Z,v::U=>D2 n x v&&IU n Z U|_,_=>false
theorem FJ(T:∀p∈tupK,g.get? p.1=some p.2):∀(n:Nat)(d:D)(v:al),D2 n d v=true->Rd w g d v:=by
 intro n;induction n with
 |zero=>intro d v h;unfold D2 at h;exact fO h|succ n ih=>
  have f:∀(Z:ab D)(U:ab al),D2.IU n Z U=true->fi w g Z U:=by
   intro Z;induction Z with
   |nil=>intro U h;induction U using aS with|nil=>exact .nil|cons _ _=>exact fO h
   |cons x Z l=>intro U h;induction U using aS with|nil=>exact fO h|cons v U=>have h:(D2 n x v&&D2.IU n Z U)=true:=h;rw[aI]at h;exact .cons (ih _ _ h.1) (l _ h.2)
  intro d v h;rcases d with⟨⟩<;>first|exact fO h|skip
  .refine d9 (te h) λj b c=>(J0 b).elim λt e=>?_;rw[e,aT c];exact .int _ _
  .refine d9 (te h) λj b c=>(Kb b).elim λt e=>?_;rw[e,PySem.W.Fast.sEq_iff.mp c];exact .str _ _
  .refine d9 (te h) λa b c=>d9 (te c) λp o q=>d9 (te q) λU r i=>?_;rw[Jw b];refine pn (Me r) λy z m=>?_;have s:p.1=a:=bR (abP o:_);have k:=T _ (aac o);rw[s]at k;rw[aI]at i;exact .tup (m.elim λn m=>⟨_,k,y,n,m⟩) (by rw[dj];have:=aT i.1;lia) (f _ _ i.2) ⟨_,k,z⟩
theorem Kx(P:bp):(3,di (gU P) 182)∈KK P:=by simp only[KK,aJ,af,true_or,or_true]
theorem HY(P:bp)(h:p∈tupK):p∈KK P:=by simp only[KK,aJ,af,h,true_or,or_true]
theorem DW(P:bp):(108,Oo)∈KK P:=(aN _ (.head _))
theorem BD(P:bp)(h:p∈rY P):p∈KK P:=(aN _ (.tail _ ‹_›))
theorem MY(P:bp)(h:p∈vi):p∈KK P:=by simp only[KK,aJ,af,h,true_or,or_true]
noncomputable def oz(P:bp):ab cM:=match(ab1 P).data with|.dict es _=>es.toList|_=>[]
noncomputable def iv:Nat->al|200=>.builtin "len"|201=>.builtin "sorted"|203=>.builtin "any"|204=>.type "str"|205=>.type "int"|206=>.builtin "max"|_=>.type "tuple"
noncomputable def OD(P:bp):bt:=uF.all λp=>match gc (gU P) p.1with|some (.ref a)=>aah a p.2.1|_=>false
noncomputable def NW(P:bp):bt:=mc.all λp=>match gc (gU P) p.1with|some (.ref a)=>aah a p.2.1|_=>false
noncomputable def NA:D->bt|.eJ I U=>decide (intsOf I=some [3,4,5,6,7,10])&&decide (intsOf U=some [6,5,4,1,2,7])|_=>false
theorem mX:∀{Z:ab D}{I:ab Int},intsOf Z=some I->Z=I.map .int:=by
 intro Z;induction Z with
 |nil=>intro I h;refine so h ?_;rfl|cons x Z ih=>
  intro I h;rcases x with _|_|i|_|_|_|_|_<;>try(exact ec h;done)
  refine kg (show(intsOf Z).map (i::·)=some I from h) λc b d=>?_;rw[←d];rw[ih b];rfl
noncomputable def Nh(P:bp):bt:=AM.all λp=>match gc (gU P) p.1with|some v=>(match v with|.ref 108=>NA p.2|v=>D2 6 p.2 v)|_=>false
theorem Cu(P:bp):OD P=true:=by kernel_rfl
theorem B7(P:bp):NW P=true:=by kernel_rfl
theorem BP(P:bp):Nh P=true:=by kernel_rfl
theorem GX(P:bp):oS (gU P)=true:=by kernel_rfl
theorem Mf(P:bp):oS (oz P)=true:=by kernel_rfl
theorem F8(P:bp):(qQ.all λp=>(gc (gU P) p.1).isNone)=true:=by kernel_rfl
theorem yU(P:bp):gc (gU P) (aa "range")=none:=by kernel_rfl
theorem Dl(P:bp):gc (oz P) (aa "range")=some (.type "range"):=by kernel_rfl
theorem EL(P:bp):qQ.map (λp=>gc (oz P) p.1)=qQ.map λp=>some (iv p.2):=by kernel_rfl
noncomputable def vu(o:Obj):bt:=match o.data with|.dict _ _=>true|_=>false
theorem yO(P:bp):vu (ab1 P)=true:=by kernel_rfl
set_option tactic.hygienic true in theorem RT(P:bp):∃ep,(ab1 P).data=.dict (oz P).toArray ep:=by
 have h:=yO P;unfold vu at h;unfold oz;refine(let γ:Prop:=_;(?_:γ));split at h;.rename_i es ep e;exact⟨ep,(sY e rfl)⟩
 .exact fO h
section
variable{w:bO}{h:Heap}
theorem Bj(T:fm w h):h.Ns 3 (gc (gU w.params)):=G7 (T.objs _ (Kx _)) rfl (GX _)
theorem Nw(T:fm w h):h.Ns 0 (gc (oz w.params)):=by obtain⟨b,e⟩:=RT w.params;refine G7 (T.objs (0,ab1 w.params) (BD _ ?_)) e (Mf _);unfold rY;exact aF
theorem NQ(P:bp)(m:p∈uF):gc (gU P) p.1=some (.ref p.2.1):=by
 have k:=aA.mp (Cu P) p m;revert k;generalize gc (gU P) p.1=o;intro k;rcases o with _|v<;>try(exact fO k;done)
 rcases v with⟨⟩<;>try(exact fO k;done)
 rw[bR k]
theorem Gu(P:bp)(m:p∈mc):gc (gU P) p.1=some (.ref p.2.1):=by
 have k:=aA.mp (B7 P) p m;revert k;generalize gc (gU P) p.1=o;intro k;rcases o with _|v<;>try(exact fO k;done)
 rcases v with⟨⟩<;>try(exact fO k;done)
 rw[bR k]
theorem SU{g:Type}{P:g->Prop}{a b c d e f:g}(i:P a)(j:P b)(k:P c)(l:P d)(m:P e)(o:P f):∀x∈[a,b,c,d,e,f],P x:=bC.mpr ⟨i,bC.mpr ⟨j,bC.mpr ⟨k,bC.mpr ⟨l,bC.mpr ⟨m,bC.mpr ⟨o,λ_ h=>kr h⟩⟩⟩⟩⟩⟩
theorem NN(T:fm w h):Rd w h (.eJ [.int 3,.int 4,.int 5,.int 6,.int 7,.int 10] [.int 6,.int 5,.int 4,.int 1,.int 2,.int 7]) (.ref 108):=.eJ (B:=[(.int 3,.int 6 385),(.int 4,.int 5 383),(.int 5,.int 4 381),(.int 6,.int 1 375),(.int 7,.int 2 377),(.int 10,.int 7 387)]) (MM Oo _ _ ⟨T.objs _ (DW _),⟨rfl,rfl,rfl⟩,rfl,λe c=>SU (P:=λe:cM=>∃k,(sK w).is k e.key=true/\e.hash=(sK w).hash k) (i12 (.int 3) rfl rfl) (i12 (.int 4) rfl rfl) (i12 (.int 5) rfl rfl) (i12 (.int 6) rfl rfl) (i12 (.int 7) rfl rfl) (i12 (.int 10) rfl rfl) e (List.mem_toArray.mp c),.cons rfl rfl (.cons rfl rfl (.cons rfl rfl (.cons rfl rfl (.cons rfl rfl (.cons rfl rfl .nil))))),ahQ D.int (λa b h e=>h (D.int.inj e)) (show abh [(3:Int),4,5,6,7,10]from by decide)⟩) rfl (by rw[dj];decide) (SU (P:=λp:D×al=>wA p.1=true) rfl rfl rfl rfl rfl rfl) (.cons (.int _ _) (.cons (.int _ _) (.cons (.int _ _) (.cons (.int _ _) (.cons (.int _ _) (.cons (.int _ _) .nil))))))
theorem Ls(h:NA d=true):d=.eJ [.int 3,.int 4,.int 5,.int 6,.int 7,.int 10] [.int 6,.int 5,.int 4,.int 1,.int 2,.int 7]:=by
 unfold NA at h;split at h;.simp only[aI,ba,ba]at h;rw[mX h.1,mX h.2];rfl
 .exact fO h
set_option tactic.hygienic true in theorem N7(T:fm w h){p:Str×D}(m:p∈AM):∃u,gc (gU w.params) p.1=some u/\Rd w h p.2 u:=by
 have k:=aA.mp (BP w.params) p m;split at k;.
  rename_i v e;refine i12 v e ?_;split at k;.rw[Ls k];exact NN T
  .exact FJ (λq hq=>T.objs _ (HY _ hq)) 6 _ _ k
 .exact fO k
theorem yQ{c d:Type}{f g:c->d}:∀{l:ab c},l.map f=l.map g->∀a∈l,f a=g a:=by
 intro l;induction l with
 |nil=>intro _ a h;exact kr h|cons b r ih=>
  intro e a h;simp only[ar,abU]at e;rcases af.mp h with rfl|h;.exact e.1
  .exact ih e.2 a h
theorem JE(P:bp)(m:p∈qQ):gc (gU P) p.1=none/\gc (oz P) p.1=some (iv p.2):=⟨by simpa using aA.mp (F8 P) p m,yQ (f:=λp:Str×Nat=>gc (oz P) p.1) (g:=λp=>some (iv p.2)) (EL P) p m⟩
end
theorem jx{v:g}(h:look l x=some v):(x,v)∈l:=by
 unfold look at h;refine kg h λp c d=>?_;have b:PySem.W.Fast.sEq p.1 x=true:=by have:=abP c;exact this
 have b:=PySem.W.Fast.sEq_iff.mp b;clear h;obtain⟨e,f⟩:=p;dsimp only at b d;subst b d;exact(aac c)
structure Eh(A:bI)(n:Nat):Prop where
 hh:A.handled=none
 depth:A.depth+10*n+10<1000
 units:A.units+100*n+300<abF
structure rX(A:bI)(n:Nat):Prop where
 hh:A.handled=none
 depth:A.depth+10*n+5<1000
 units:A.units+100*n+250<abF
theorem Eh.call(r:Eh A n):rX A n:=⟨r.hh,by have:=r.depth;lia,by have:=r.units;lia⟩
noncomputable def vT(w:bO)(n:Nat)(call:Nat->Nat->ab V->Hp->ae (V×Hp)):Prop:=∀{A:bI}{wm f:Nat}{args:ab V}{v:V}{b:Hp}{x:Sx}{Z:ab al}{R:ab8->aM->Prop},rX A n->Rel w x->wm<=x.H.length->call wm f args x.H=some (v,b)->eC (Rv w x) args Z->(∀y u,Rel w y->Le wm fP x y->y.H=b->Rv w y v u->R (.ok (.ret u)) y.s)->abL (aP pw w) A (.call (.ref f) ⟨Z,[]⟩) R x.s
structure At(w:bO)(A:bI)(n:Nat)(Y:Cx)(x:Sx)(env:Env)(sc:b7)(O:ab Str)(l:Loc):Prop where
 room:Eh A n
 call:vT w n Y.call
 wm:Y.wm<=x.H.length
 rel:Rel w x
 env:fU w x env sc O l
noncomputable def eo(w:bO)(n:Nat)(m:ME)(N:b7)(O:ab Str)(code:Env->Sem al):Prop:=∀{A:bI}{E:al->aM->Prop}{Y:Cx}{x:Sx}{J:Env}{l:Loc}{v:V}{b:Hp}{Q:al->aM->Prop},At w A n Y x J N O l->m Y l x.H=some (v,b)->(∀y u,At w A n Y y J N O l->Le Y.wm fP x y->y.H=b->Rv w y v u->Q u y.s)->aR (aP pw w) A (code J) Q E x.s
noncomputable def mw(w:bO)(n:Nat)(m:MT)(N:b7)(O:ab Str)(code:Env->Sem bt):Prop:=∀{A:bI}{E:al->aM->Prop}{Y:Cx}{x:Sx}{J:Env}{l:Loc}{b:bt}{c:Hp}{Q:bt->aM->Prop},At w A n Y x J N O l->m Y l x.H=some (b,c)->(∀y,At w A n Y y J N O l->Le Y.wm fP x y->y.H=c->Q b y.s)->aR (aP pw w) A (code J) Q E x.s
section
variable{w:bO}{n:Nat}{x y:Sx}{wm:Nat}{P:b5->Prop}{A:bI}{E:al->aM->Prop}{Y:Cx}{J:Env}{N:b7}{O:ab Str}{l:Loc}
theorem Le.len(R:Rel w x)(S:Rel w y)(h:Le wm P x y):x.H.length<=y.H.length:=by refine d9 (h.DN) λb e _=>?_;rw[←R.len,←S.len,e,ao];lia
theorem At.step(a:At w A n Y x J N O l)(R:Rel w y)(h:Le wm fP x y):At w A n Y y J N O l:=⟨a.room,a.call,au a.wm (h.len a.rel R),R,a.env.Up h⟩
noncomputable def Sx.tok(x:Sx)(t:Nat):Sx:=⟨x.g,x.φ,x.H,{x.s with toks:=t}⟩
theorem yt(R:Rel w x)(t:Nat):Rel w (x.tok t)/\Le wm P x (x.tok t):=⟨⟨R.sub,R.top,R.len,λi c a d f=>fY.keeps (x:=x) (y:=x.tok t) (λ_ _ e=>e) (λ_ _ e=>e) (λn _=>n) (λ_ _ e=>e) (R.cell i c a d f),R.inj,R.gens⟩,Le.mk (λ_ _ e=>e) (λb o e n=>by rw[show(x.tok t).g.get? b=none from n]at e;exact ec e) (λb o e _ _=>e) ⟨[],((aL _).symm),λ_ h=>by exact kr h⟩ (λb q=>.inl q) (λi c _ h=>⟨c,h,λv j=>.inr j⟩) (λb o e=>⟨o,e⟩) rfl⟩
theorem At.iz(a:At w A n Y x J N O l){Q:al->aM->Prop}(h:x.H=b)(r:Rv w x v u)(t:Nat)(q:∀y u,At w A n Y y J N O l->Le Y.wm fP x y->y.H=b->Rv w y v u->Q u y.s):Q u {x.s with toks:=t}:=by obtain⟨S,L⟩:=yt (wm:=Y.wm) (P:=fP) a.rel t;exact q (x.tok t) u (a.step S L) L h (r.le L)
theorem At.done(a:At w A n Y x J N O l){Q:al->aM->Prop}(h:x.H=b)(r:Rv w x v u)(q:∀y u,At w A n Y y J N O l->Le Y.wm fP x y->y.H=b->Rv w y v u->Q u y.s):Q u x.s:=q x u a .refl h r
theorem At.rd(a:At w A n Y x J N O l)(r:Rd w x.g d u):Rd w x.s.heap d u:=r.keeps a.rel.sub
theorem At.IV(a:At w A n Y x J N O l)(r:fi w x.g d u):fi w x.s.heap d u:=r.keeps a.rel.sub
theorem eo.on{code:Env->Sem al}(h:eo w n m N O code)(a:At w A n Y x J N O l)(L:Le Y.wm fP b x)(e:m Y l x.H=some (v,d))(q:∀y u,At w A n Y y J N O l->Le Y.wm fP b y->Le Y.wm fP x y->y.H=d->Rv w y v u->Q u y.s):aR (aP pw w) A (code J) Q E x.s:=h a e λy u f c g r=>q y u f (L.trans c) c g r
theorem eo.dat{code:Env->Sem al}(h:eo w n m N O code)(a:At w A n Y x J N O l)(L:Le Y.wm fP b x)(e:eD m Y l x.H=some (d,j))(q:∀y u,At w A n Y y J N O l->Le Y.wm fP b y->Le Y.wm fP x y->y.H=j->Rd w y.g d u->Q u y.s):aR (aP pw w) A (code J) Q E x.s:=by unfold eD at e;obtain⟨⟨v,X⟩,o,p⟩:=abo.mp e;refine h a o λy u i f k r=>?_;obtain⟨z,t,B,c,C,G⟩:=FN (wm:=Y.wm) (P:=fP) i.rel r (by rw[k];exact p);have:=q z u (i.step B c) (L.trans (f.trans c)) (f.trans c) C G;rw[t]at this;exact this
theorem At.vB(a:At w A n Y x J N O l)(j:x.H[i]?=some d)(hm:d.BW=true)(hb:x.φ[i]?=some b)(hs:Heap.SameBut b x.s.heap h')(k:∃o,h'.get? b=some o)(m:∀v∈refsOf c,v.plain=true\/v∈refsOf d\/Y.wm<=i)(hc:∀y:Sx,y.g.get? b=none->y.s.heap=h'->(∀b o,x.g.get? b=some o->y.g.get? b=some o)->y.φ=x.φ->fY w y b c)(t:Nat):∃y,y.s={x.s with heap:=h',toks:=t}/\At w A n Y y J N O l/\Le Y.wm fP x y/\y.H=x.H.set i c:=have B:=a.rel.D1 ⟨i,_,j,hm,hb⟩;have keep:∀c o,c≠b->x.s.heap.get? c=some o->h'.get? c=some o:=λc o hc e=>hs.extBut c o hc e;have f:=i3 (as:=[]) λc o e=>keep c o (λz=>ec (B.symm.trans (z▸e))) (a.rel.sub _ _ e);lK (ES (P:=fP) (wm:=Y.wm) (s':={x.s with heap:=h',toks:=t}) (as:=[]) (c:=c) a.rel j hm hb keep k a.rel.gens rfl (λ_ hb=>kr hb) m (hc _ (aar.mpr λo z=>kr (gK z B)) rfl f rfl)) λS L=>⟨_,rfl,a.step S L,L,rfl⟩
theorem B4{code:Env->Sem al}:eo w n tj N O code:=by intro A E Y x J l v b Q a e q;exact ec e
theorem snd_const(h:Fm c=some d):eo w n (Hj d) N O (λJ=>cE (.Constant c k p) J):=by
 intro A E Y x J l v f Q a e q;refine(let b:Prop:=_;(?_:b));revert q;refine sP e λq=>?_;rcases c with⟨⟩<;>try(exact ec h;done)
 .revert q;refine so h λq=>?_;exact acd (a.done rfl (.d .fS) q)
 .revert q;refine so h λq=>?_;exact wpAny_Constant_bool (a.done rfl (.d (.bool _)) q)
 .revert q;refine so h λq=>?_;exact dB (a.iz rfl (.d (.int _ _)) _ q)
 .revert q;refine so h λq=>?_;exact wpAny_Constant_str (a.iz rfl (.d (.str _ _)) _ q)
theorem K7(h:ey O nm=some i)(k:isVar N nm=true):eo w n (vc i) N O (λJ=>cE (.Name nm p) J):=by
 intro A E Y x J l v d Q a e q;unfold vc at e;refine(let c:Prop:=_;(?_:c));rcases b:l[i]?with _|_|f<;>rw[b]at e<;>try(exact ec e;done)
 revert q;refine sP e λq=>?_;exact wpAny_Name (AH a.env h k b λu r=>a.done rfl r q) (n5 (m6 k).1)
theorem rG(a:At w A n Y x J N O l)(k:jc N nm=true)(h:gc (gU w.params) nm=some u)(q:Q u x.s):aR (aP pw w) A (cE (.Name nm p) J) Q E x.s:=by refine lK (oW k) λb c=>?_;refine ab5 ((sY a.env.scope a.env.kind)) (by unfold abf;rw[a.env.scope];exact c) ?_ (n5 b);exact loadGlobal_global (by rw[a.env.globals];exact Bj (a.rel.top.keeps a.rel.sub)) h q
theorem FT(a:At w A n Y x J N O l)(k:jc N nm=true)(h:gc (gU w.params) nm=none)(h':gc (oz w.params) nm=some u)(q:Q u x.s):aR (aP pw w) A (cE (.Name nm p) J) Q E x.s:=by refine lK (oW k) λb c=>?_;refine ab5 ((sY a.env.scope a.env.kind)) (by unfold abf;rw[a.env.scope];exact c) ?_ (n5 b);exact loadGlobal_builtin (by rw[a.env.globals];exact Bj (a.rel.top.keeps a.rel.sub)) h (by rw[a.env.builtins];exact Nw (a.rel.top.keeps a.rel.sub)) h' q
theorem Jf(h:look AM nm=some d)(k:jc N nm=true):eo w n (Hj d) N O (λJ=>cE (.Name nm p) J):=by intro A E Y x J l v g Q a e q;refine(let f:Prop:=_;(?_:f));revert q;refine sP e λq=>?_;refine d9 (N7 a.rel.top (jx h)) λu b c=>?_;exact rG a k b (a.done rfl (.d c) q)
theorem ja{h:Heap}:h.get? h.objs.size=none:=by cases e:h.get? h.objs.size with|none=>rfl|some o=>exact ay (Heap.lt_size e) (cN _)
theorem At.push(a:At w A n Y x J N O l){Q:al->aM->Prop}(h:x.H=c)(d:o.isFreed=false)(r:Rv w (x.grow {x.s with heap:=x.s.heap.push o} [x.sz]) v (.ref x.sz))(q:∀y u,At w A n Y y J N O l->Le Y.wm fP x y->y.H=c->Rv w y v u->Q u y.s):Q (.ref x.sz) {x.s with heap:=x.s.heap.push o}:=by obtain⟨S,L⟩:=iE (wm:=Y.wm) (P:=fP) (s':={x.s with heap:=x.s.heap.push o}) (as:=[x.sz]) a.rel (λb f e=>Heap.get?_push_of_some o e) a.rel.gens rfl (λb hb=>by simp at hb;subst hb;exact ja);exact q _ _ (a.step S L) L h r
theorem At.Th(a:At w A n Y x J N O l){Q:al->aM->Prop}(c:o2.isFreed=false)(r:∀g,(∀b o,x.g.get? b=some o->g.get? b=some o)->g.get? (x.sz+1)=some o2->Rd w g d (.ref (x.sz+1)))(q:∀y u,At w A n Y y J N O l->Le Y.wm fP x y->y.H=x.H->Rv w y (.d d) u->Q u y.s):Q (.ref (x.sz+1)) {x.s with heap:=(x.s.heap.push o1).push o2,toks:=t}:=have k:∀b o,x.s.heap.get? b=some o->((x.s.heap.push o1).push o2).get? b=some o:=λb o z=>Heap.get?_push_of_some _ (Heap.get?_push_of_some _ z);lK (iE (wm:=Y.wm) (P:=fP) (s':={x.s with heap:=(x.s.heap.push o1).push o2,toks:=t}) (as:=[x.sz+1]) a.rel k a.rel.gens rfl (λb hb=>kE hb▸aar.mpr λo z=>ay (Heap.lt_size z) (aai.mpr (dp _)))) λS L=>q _ _ (a.step S L) L rfl (.d (r _ L.gk (jE (.head _) (Heap.size_push x.s.heap o1▸Heap.get?_push_size (x.s.heap.push o1) c))))
theorem rM(b:o.isFreed=false):(x.grow {x.s with heap:=x.s.heap.push o} [x.sz]).g.get? x.sz=some o:=jE (by simp) (Heap.get?_push_size _ b)
theorem xK(R:Rel w x):∀b c,x.g.get? b=some c->(x.grow {x.s with heap:=x.s.heap.push o} [x.sz]).g.get? b=some c:=i3 λb c e=>Heap.get?_push_of_some o (R.sub _ _ e)
theorem gR(h:noStar (e::es)=true)(J:Env):c4 (e::es) J=(false,cE e J)::c4 es J/\noStar es=true:=by rcases e with⟨⟩<;>first|(exact fO h;done)|exact⟨rfl,h⟩
theorem jF{f:PySem.Expr->ME}:∀{es:ab PySem.Expr},(∀e∈es,eo w n (f e) N O (λJ=>cE e J))->noStar es=true->∀{A:bI}{E:al->aM->Prop}{Y:Cx}{x:Sx}{J:Env}{l:Loc}{B:ab D}{i:Hp}{Q:ab al->aM->Prop}{j:Pos}{b:Sx},At w A n Y x J N O l->Le Y.wm fP b x->Lf (es.map f) Y l x.H=some (B,i)->(∀y m,At w A n Y y J N O l->Le Y.wm fP b y->Le Y.wm fP x y->y.H=i->fi w y.g B m->Q m y.s)->aR (aP pw w) A (aej (aa5 j (c4 es J))) Q E x.s|[],_,_,A,E,Y,x,J,l,B,i,Q,j,b,a,L,e,q=>by cases e;exact abR (q x [] a L .refl rfl .nil)|c::es,h,hs,A,E,Y,x,J,l,B,i,Q,j,b,a,L,e,q=>by obtain⟨C,mN⟩:=gR hs J;refine(let γ:Prop:=_;(?_:γ));refine jV (show ck (eD (f c) Y l x.H) _=some (B,i)from e) λd X U Z=>yr Z λR H2 e3 e4=>?_;obtain⟨rfl,rfl⟩:=pJ e4;refine abv (eo.dat (h c aF) a L U λy u M I G T r=>?_) C;refine jF (λe he=>h e (ax _ he)) mN M I (by rw[T];exact e3) λz m p o k t r'=>?_;exact q z (u::m) p o (G.trans k) t (.cons (r.keeps k.gk) r')
theorem n6:∀{C:ab ME}{Y:Cx}{l:Loc}{H b:Hp}{B:ab D},Lf C Y l H=some (B,b)->B.length=C.length:=by intro C;induction C with|nil=>intro _ _ _ _ _ h;refine sP h ?_;rfl|cons m C ih=>intro Y l H b B h;refine jV (show ck (eD m Y l H) _=some (B,b)from h) λd X j c=>?_;refine yr c λe i f g=>?_;clear h c;obtain⟨rfl,rfl⟩:=pJ g;simp[ih f]
theorem lP(h:m<=1000):m<=bg:=by rw[dj];lia
theorem JJ(h:∀e∈es,eo w n (f e) N O (λJ=>cE e J))(s:es.length<=1000)(hs:noStar es=true):eo w n (N5 (es.map f)) N O (λJ=>cE (.Tuple es k p) J):=by
 intro A E Y x J l v H Q a e q;refine(let G:Prop:=_;(?_:G));refine yr e λB X i o=>?_;clear e;obtain⟨rfl,rfl⟩:=pJ o;refine wpAny_Tuple (jF h hs a .refl i λy C g L _ m r=>?_);have hd:C.length<=1000:=by rw[←r.length,n6 i,ak];exact s
 refine⟨lP hd,g.push m rfl (.d (.tup ⟨_,rM rfl,rfl,0,rfl⟩ (by simpa using lP hd) (by simpa using r.keeps (xK g.rel)) ⟨_,rM rfl,rfl⟩)) λz u b j c t=>q z u b (L.trans j) c t⟩
theorem K5(h:∀e∈es,eo w n (f e) N O (λJ=>cE e J))(o:es.length<=1000)(hs:noStar es=true):eo w n (OL (es.map f)) N O (λJ=>cE (.List es p) J):=by
 intro A E Y x J l v G Q a e q;refine(let C:Prop:=_;(?_:C));refine yr e λB X i m=>?_;clear e;obtain⟨rfl,rfl⟩:=pJ m;refine wpAny_List (jF h hs a .refl i λy t g L _ k r=>?_);have hd:t.length<=1000:=by rw[←r.length,n6 i,ak];exact o
 refine⟨lP hd,g.push k rfl (.d (.lst ⟨_,rM rfl,rfl,0,rfl⟩ (by simpa using lP hd) (by simpa using r.keeps (xK g.rel)))) λz u b j c s=>q z u b (L.trans j) c s⟩
theorem At.cell(a:At w A n Y x J N O l){Q:al->aM->Prop}(h:x.H++[c]=d)(hc:fY w (x.add {x.s with heap:=x.s.heap.push o} [] x.sz c) x.sz c)(q:∀y u,At w A n Y y J N O l->Le Y.wm fP x y->y.H=d->Rv w y (.ref x.H.length) u->Q u y.s):Q (.ref x.sz) {x.s with heap:=x.s.heap.push o}:=by obtain⟨S,L⟩:=Fa (wm:=Y.wm) (P:=fP) (s':={x.s with heap:=x.s.heap.push o}) (as:=[]) (a:=x.sz) (c:=c) a.rel a.wm (λb f e=>Heap.get?_push_of_some o e) a.rel.gens rfl (λb hb=>by simp at hb) ja hc;refine q _ _ (a.step S L) L h (.ref ?_);show(x.φ++[x.sz])[x.H.length]?=_;rw[←a.rel.len];simp
theorem vY(R:Rel w x):(kj (x.s.heap.push o) x.g []).get? x.sz=none:=by cases e:(kj (x.s.heap.push o) x.g []).get? x.sz with|none=>rfl|some c=>cases h:x.g.get? x.sz with|none=>have:=gK e h;exact kr this|some b=>exact ay (Heap.lt_size (R.sub _ _ h)) (cN _)
theorem x4(H:md≠.fz)(h:∀e∈es,eo w n (f e) N O (λJ=>cE e J))(G:es.length<=1000)(hs:noStar es=true):eo w n (BM md (es.map f)) N O (λJ=>cE (.List es p) J):=by
 intro A E Y x J l v R Q a e q;refine(let M:Prop:=_;(?_:M));refine yr e λB X k C=>?_;obtain⟨rfl,rfl⟩:=pJ C;refine wpAny_List (jF h hs a .refl k λy g d L _ t r=>?_);have hd:g.length<=1000:=by rw[←r.length,n6 k,ak];exact G
 clear k;revert q;refine sZ t λq=>?_;refine⟨lP hd,d.cell (c:=.lst B md) rfl ?_ λz u i o j I=>q z u i (L.trans o) j I⟩;have m:=r.keeps (i3 (h:=y.s.heap.push {cls:=.type "list",data:=.seq g.toArray}) (as:=[]) λb T e=>Heap.get?_push_of_some _ (d.rel.sub _ _ e));clear e;induction md using Mode.casesOn with|fz=>exact ay rfl H|own=>exact⟨vY d.rel,g.toArray,⟨0,Heap.get?_push_size _ rfl⟩,by simpa using lP hd,(sY acb m)⟩|sh=>exact⟨vY d.rel,g.toArray,⟨0,Heap.get?_push_size _ rfl⟩,by simpa using lP hd,(sY acb m)⟩
theorem uP(R:Rel w x):(x.sz==cI)=false:=by have:=Heap.lt_size (R.sub _ _ (R.top.objs _ (DW _)));refine sY (show cI=1from rfl) ?_;refine aaX.mpr ?_;lia
theorem F0:eo w n Hs N O (λJ=>cE (.Dict [] [] p) J):=by intro A E Y x J l v b Q a e q;revert q;refine sP e λq=>?_;exact wpAny_Dict_empty (a.cell (c:=.eJ [] false) rfl ⟨uP a.rel,bB _,vY a.rel,.nil (Heap.get?_push_size _ rfl) ⟨rfl,rfl,rfl⟩ rfl⟩ q)
end
section
variable{w:bO}{n:Nat}{x y:Sx}{wm:Nat}{P:b5->Prop}{A:bI}{E:al->aM->Prop}{Y:Cx}{J:Env}{N:b7}{O:ab Str}{l:Loc}
theorem j6(h:m<=bg):(m:Int)<2^63:=by rw[dj]at h;lia
theorem Es(h:m<=big):¬(m:Int)>=2^63:=Int.not_le.mpr (j6 (au h kV))
theorem Ml(h:n<=bg)(b:¬(n:Int)+k<0):-(2^63)<=k:=by have:=j6 h;lia
theorem Nf{k:Int}(h:n<=bg)(l:k.toNat<n):k<2^63:=by have:=j6 h;lia
theorem PF{k:Int}(h:k<0):k<2^63:=afy h (by decide)
theorem ON(h:¬k<0):-(2^63)<=k:=acR (by decide) (acL.mp h)
theorem LO(h:k<0)(b:¬(n:Int)+k<0):acn k n=some ((n:Int)+k).toNat:=by unfold acn;rw[aW h,aW (by simp only[aI,ba];lia),ae8]
theorem AJ(h:¬k<0)(l:k.toNat<n):acn k n=some k.toNat:=by unfold acn;rw[aZ h,aW (by simp only[aI,ba];lia)]
theorem NU(b:¬(n:Int)+k<0):-(n:Int)<=k:=by lia
theorem fi.sz{U:dv al}(h:fi w g Z U.toList):Z.length=U.size:=h.length
theorem fi.at{U:dv al}(h:fi w g Z U.toList){j:Nat}{x:D}(e:Z[j]?=some x){G:Prop}(k:∀v,U[j]?=some v->Rd w g x v->G):G:=d9 (h.get e) λv e r=>k v (dF.symm.trans e) r
theorem fi.isEmpty{U:dv al}(h:fi w g Z U.toList):U.isEmpty=Z.isEmpty:=show decide (U.size=0)=Z.isEmpty from h.sz▸aS (motive:=λZ=>decide (Z.length=0)=Z.isEmpty) Z rfl λ_ _=>rfl
theorem At.tup(a:At w A n Y x J N O l)(h:x.g.IsTuple b U):x.s.heap.IsTuple b U:=h.imp λo=>cQ (a.rel.sub _ o)
theorem At.lst(a:At w A n Y x J N O l)(h:x.g.IsList b U):x.s.heap.IsList b U:=h.imp λo=>cQ (a.rel.sub _ o)
theorem At.j5(a:At w A n Y x J N O l){i:Nat}(h:x.H[i]?=some (.lst Z m))(k:x.φ[i]?=some b):∃U:dv al,x.s.heap.PlainList b U/\U.size<=bg/\fi w x.g Z U.toList:=by have C:=a.rel.cell i _ b h k;clear h;induction m using Mode.casesOn with|fz=>exact C.imp λU=>cQ λh=>h.imp λm=>a.rel.sub _ _|_=>exact C.2
theorem At.nt(a:At w A n Y x J N O l){i:Nat}(h:x.H[i]?=some (.eJ B m))(k:x.φ[i]?=some b):(b==cI)=false/\B.length<=big/\fe w x.g x.s.heap b B:=by have C:=a.rel.cell i _ b h k;clear h;induction m using aY with|true=>exact⟨C.1,C.2.1,fe.keeps (λ_ _ e=>e) (λo e=>a.rel.sub _ _ e) C.2.2⟩|false=>exact⟨C.1,C.2.1,C.2.2.2⟩
noncomputable def OI:ae Cell->ae bt|some (.lst Z _)=>some (!Z.isEmpty)|_=>none
theorem YK(n:Nat):((n:Int)!=0)=(n !=0):=b9.mpr (by simp)
theorem At.tk(a:At w A n Y x J N O l){R:aM->Prop}(q:∀y,At w A n Y y J N O l->Le Y.wm fP x y->y.H=x.H->R y.s)(t:Nat):R {x.s with toks:=t}:=lK (yt (wm:=Y.wm) (P:=fP) a.rel t) λS L=>q (x.tok t) (a.step S L) L rfl
theorem pv(a:At w A n Y x J N O l)(r:Rv w x v u)(h:jo v x.H=some b)(q:∀y,At w A n Y y J N O l->Le Y.wm fP x y->y.H=x.H->Q b y.s):aR (aP pw w) A (adS u) Q E x.s:=by
 have z:∀t,Q b {x.s with toks:=t}:=a.tk q;have id:Q b x.s:=q x a .refl rfl;clear q;have go:∀c,some c=some b->Q c x.s:=λc h=>sY (P:=λo=>Q o x.s) (sI h) id;have p:∀{Z:ab D}{U:dv al},fi w x.g Z U.toList->some (!Z.isEmpty)=some b->∀t,Q (!U.isEmpty) {x.s with toks:=t}:=λr h t=>r.isEmpty▸so h (P:=λb=>(∀t,Q b {x.s with toks:=t})->Q (!_) {x.s with toks:=t}) (λq=>q t) z;induction v using V.casesOn with
 |d d=>induction d using D.casesOn with|fS=>exact t6 r.eU λ_ _ _=>go _ h|bool c=>exact Na r.eU (acC (go _ h))|int i=>exact i5 r.eU λt=>P.truthy_int (go _ h)|str s=>exact jd r.eU λt=>if1 h λB h=>P.truthy_str (Es B) ((YK s.cps.size).trans (sI h)▸z _)|tup Z=>exact lB r.eU λb U f j k _=>truthy_tuple (a.tup f) (j6 j) (p k h _)|lst Z=>exact Ao r.eU λb U f j k=>acD (a.lst f) (j6 j) (p k h _)|_=>exact ec h
 |ref i=>exact tf r λc e=>jX (P:=λo=>x.H[i]?=o->OI o=some b->aR (aP pw w) A (adS (.ref c)) Q E x.s) x.H[i]? (λ_ h=>ec h) (λZ m C h=>j7 (a.j5 C e) λU f j k=>acD f.isList (j6 j) (p k h _)) (λ_ _ _ h=>ec h) (λ_ _ h=>ec h) rfl h|ins _ _=>exact ec h
theorem xB{G:Prop}(h:itemAt Z k=some d)(I:k<0->¬(Z.length:Int)+k<0->Z[((Z.length:Int)+k).toNat]?=some d->G)(j:¬k<0->k.toNat<Z.length->Z[k.toNat]?=some d->G):G:=have h:(if k<0then(if(Z.length:Int)+k<0then none else Z[((Z.length:Int)+k).toNat]?)else Z[k.toNat]?)=some d:=h;if e:k<0then To ((aW e).symm.trans h) (I e)else have h:=(aZ e).symm.trans h;j e (aG.mp h).1 h
theorem ET(a:At w A n Y x J N O l)(j:x.s.heap.IsTuple b U)(m:U.size<=bg)(c:fi w x.g Z U.toList)(h:itemAt Z k=some d)(q:∀u,Rd w x.g d u->Q u x.s):aR (aP pw w) A (aem (.ref b) (.int k t)) Q E x.s:=xB h (λf i e=>c.at e λv e r=>aa1 j (Ml m (c.sz▸i)) (PF f) (c.sz▸LO f i) e (q v r)) λf i e=>c.at e λv e r=>aa1 j (ON f) (Nf m (c.sz▸i)) (c.sz▸AJ f i) e (q v r)
theorem Ec(a:At w A n Y x J N O l)(j:x.s.heap.IsList b U)(o:U.size<=bg)(c:fi w x.g Z U.toList)(h:itemAt Z k=some d)(q:∀u,Rd w x.g d u->Q u x.s):aR (aP pw w) A (aem (.ref b) (.int k t)) Q E x.s:=xB h (λi f e=>c.at e λv e r=>wpAny_getItem_list_neg j i (NU (c.sz▸f)) (Ml o (c.sz▸f)) ((ah (λm=>U[Int.toNat m]?) ((ae8 _ _).trans (ah (λm:Nat=>(m:Int)+k) c.sz.symm))).trans e) (q v r)) λi f e=>c.at e λv e r=>wpAny_getItem_list j (acL.mp i) (Nf o (c.sz▸f)) e (q v r)
theorem ub(h:D.eqv p k=some b):hW k ((p,v)::ps)=bif b then some (some v)else hW k ps:=by show(match D.eqv p k with|some true=>some (some v)|some false=>hW k ps|none=>none)=_;refine sY h ?_;induction b using aY<;>rfl
theorem vj{K:Type}[bD K]{k p:K}{v:al}{ps:ab (K×al)}:aeE ((p,v)::ps) k=bif decide (p=k)then some v else aeE ps k:=by unfold aeE;rw[cR];generalize decide (p=k)=b;induction b using aY<;>rfl
theorem Ag{K:Type}[bD K]{k p:K}{v:b5×al}{ps:ab (K×b5×al)}:ae5 ((p,v)::ps) k=bif decide (p=k)then some v else ae5 ps k:=by unfold ae5;rw[cR];generalize decide (p=k)=b;induction b using aY<;>rfl
theorem sU(c:wA k=true){M:ae (ae D)->ae al->Prop}(n:M (some none) none)(s:∀d u,Rd w g d u->M (some (some d)) (some u))(h:eC (nJ w g) B f):M (hW k B) (aeE f k):=h.ind n λ{p q i j}e _ ih=>ub (v:=p.2) (Ad (e.1▸e.2.1) c)▸vj (p:=q.1) (v:=q.2)▸e.1▸aY (motive:=λb=>M (bif b then some (some p.2)else hW k i) (bif b then some q.2 else aeE j k)) _ ih (s _ _ e.2.2)
theorem pQ(c:k.sort=some .t){M:ae (ae D)->ae (b5×al)->Prop}(n:M (some none) none)(s:∀d u,Rd w g d u.2->M (some (some d)) (some u))(h:eC (lI w g) B f):M (hW k B) (ae5 f k):=h.ind n λ{p q i j}e _ ih=>ub (v:=p.2) (pC 6 60 (km (e.1▸e.2.1)) (km c) (by decide))▸Ag (p:=q.1) (v:=q.2)▸e.1▸aY (motive:=λb=>M (bif b then some (some p.2)else hW k i) (bif b then some q.2 else ae5 j k)) _ ih (s _ _ e.2.2.2)
theorem At.rD(a:At w A n Y x J N O l):(dK w).room A.in1:=by have:=a.room.units;show A.units+1+20<abF;lia
theorem Ei(a:At w A n Y x J N O l)(z:fe w x.g x.s.heap b B)(hs:(k.sort.any λq=>eg q B)=true)(f:Rd w x.g k m)(h:hW k B=some (some d))(q:∀u t,Rd w x.g d u->Q u {x.s with toks:=t}):aR (aP pw w) A (aem (.ref b) m) Q E x.s:=pd hs (λc hs=>d9 (z.Qy hs) λC i j=>d9 (sU c (M:=λo p=>o=some (some d)->∃u,p=some u/\Rd w x.g d u) (λh=>ec (sI h)) (λ_ u r h=>i12 u rfl (sI (sI h)▸r)) j h) λu e r=>wpAny_getItem_of (knd:=sK w) (k:=k) (rP c f) i.mapOf e (q u _ r)) λc hs=>d9 (z.TH hs a.rel.sub) λC i j=>d9 (pQ c (M:=λo p=>o=some (some d)->∃u,p=some u/\Rd w x.g d u.2) (λh=>ec (sI h)) (λ_ u r h=>i12 u rfl (sI (sI h)▸r)) j h) λu e r=>oV (G:=λm=>aR (aP pw w) A (aem (.ref b) m) Q E x.s) c f λH f=>wpAny_getItem_heap (knd:=dK w) a.rD ⟨c,f.keeps a.rel.sub⟩ i e (q _ _ r)
end
section
variable{w:bO}{n:Nat}{x y:Sx}{wm:Nat}{P:b5->Prop}{A:bI}{E:al->aM->Prop}{Y:Cx}{J:Env}{N:b7}{O:ab Str}{l:Loc}
noncomputable def pk(e:PySem.Expr):bt:=!Jh 26 e
theorem oK(h:pk k=true)(o i:al):subscripted k false o i=operate [o,i] (aem o i):=by rcases k with⟨⟩<;>first|(exact fO h;done)|rfl
theorem nL(t:pk k=true)(h:aR (aP pw w) A (cE c J) (λo d=>aR (aP pw w) A (cE k J) (λi b=>adh (aP pw w) A o i Q E b) E d) E s):aR (aP pw w) A (cE (.Subscript c k j) J) Q E s:=by
 refine aB (cy h (λo d f=>aB (aaP (cy f (λi b g=>aB (aaq ?_)) λ_ _ x=>x))) λ_ _ x=>x);obtain⟨T,id,z,p,q⟩:=g;refine aB ?_;refine sY (getitemInPython_of_ne p.not_modules) ?_;refine aB (aaV p z ?_);have fin:aR (aP pw w) A (subscripted k false o i) (λr e=>aR (aP pw w) A (letTemporaryGo c o r>>=λ_=>pure r) Q E e) E b:=by rw[oK t];exact wpAny_operating (cy q (λr e m=>aB (wpAny_letTemporaryGo (aQ m))) λ_ _ x=>x)
 first|exact aQ (aB fin)|exact aB (aQ (aB fin))|exact aB fin
theorem i4{r:b}{P:D->Prop}(h:nK k f=some r)(c:∀n,f n=some r->P (.int n)):P k:=by induction k using D.casesOn with|int n=>exact c n h|_=>exact ec h
theorem xf{r:b}{P:D->Prop}(h:Qc k f=some r)(c:∀n,f n=some r->P (.str n)):P k:=by induction k using D.casesOn with|str n=>exact c n h|_=>exact ec h
theorem Ig{r:b}{P:D->Prop}(h:SW k f=some r)(c:∀n,f n=some r->P (.tup n)):P k:=by induction k using D.casesOn with|tup n=>exact c n h|_=>exact ec h
theorem se{r:b}{P:D->Prop}(h:LF k f=some r)(c:∀n,f n=some r->P (.lst n)):P k:=by induction k using D.casesOn with|lst n=>exact c n h|_=>exact ec h
theorem pE{b:Type}{f:D->ae b}{r:b}{P:V->Prop}(h:(IJ v).bind f=some r)(c:∀d,f d=some r->P (.d d)):P v:=by induction v using V.casesOn with|d d=>exact c d h|_=>exact ec h
theorem LS{P:V->Prop}(h:QR v=some u)(c:P (.d .fS)):P v:=pE h λd h=>by induction d using D.casesOn with|fS=>exact c|_=>exact ec h
theorem LI(h:Rr b=some u):b=true:=aY (motive:=λb=>Rr b=some u->b=true) b (λh=>ec h) (λ_=>rfl) h
noncomputable def Vj(k:D):ae Cell->ae V|some (.lst Z _)=>nK k λn=>(itemAt Z n).map .d|some (.eJ B _)=>if k.sort.any λq=>eg q B then(match hW k B with|some (some v)=>some (.d v)|_=>none)else none|_=>none
theorem U7{P:V->Prop}(h:(match o with|some (some v)=>some (V.d v)|_=>none)=some r)(c:∀d,o=some (some d)->P (.d d)):P r:=match o,h,c with|none,h,_=>ec h|some none,h,_=>ec h|some (some d),h,c=>so h (c d rfl)
@[elab_as_elim]theorem DF{P:V->D->V->Prop}{v r:V}{k:D}{H:Hp}(h:fZ v k H=some r)(p:∀s n d,strAt s n=some d->P (.d (.str s)) (.int n) (.d d))(t:∀Z n d,itemAt Z n=some d->P (.d (.tup Z)) (.int n) (.d d))(z:∀Z n d,itemAt Z n=some d->P (.d (.lst Z)) (.int n) (.d d))(C:∀i Z md n d,H[i]?=some (.lst Z md)->itemAt Z n=some d->P (.ref i) (.int n) (.d d))(G:∀i B j d,H[i]?=some (.eJ B j)->(k.sort.any λq=>eg q B)=true->hW k B=some (some d)->P (.ref i) k (.d d)):P v k r:=by
 induction v using V.casesOn with
 |d x=>induction x using D.casesOn with|tup Z=>exact i4 (P:=λk=>P (.d (.tup Z)) k r) (show nK k (λn=>(itemAt Z n).map V.d)=some r from h) λn h=>kg h λd b c=>c▸t _ _ _ b|lst Z=>exact i4 (P:=λk=>P (.d (.lst Z)) k r) (show nK k (λn=>(itemAt Z n).map V.d)=some r from h) λn h=>kg h λd b c=>c▸z _ _ _ b|str Z=>exact i4 (P:=λk=>P (.d (.str Z)) k r) (show nK k (λn=>(strAt Z n).map V.d)=some r from h) λn h=>kg h λd b c=>c▸p _ _ _ b|_=>exact ec h
 |ref i=>exact jX (P:=λo=>H[i]?=o->Vj k o=some r->P (.ref i) k r) H[i]? (λ_ h=>ec h) (λZ m g h=>i4 (P:=λk=>P (.ref i) k r) (show nK k (λn=>(itemAt Z n).map V.d)=some r from h) λn h=>kg h λd b c=>c▸C _ _ _ _ _ g b) (λB f g h=>if1 h λhs h=>U7 h λd e=>G _ _ _ _ g hs e) (λ_ _ h=>ec h) rfl h|ins=>exact ec h
theorem JR{G:Prop}(h:strAt s i=some d)(k:∀c,s.cps[i.toNat]?=some c->d=.str ⟨#[c]⟩->¬i<0->¬(1000000:Int)<i->G):G:=To h λb h=>kg h λc e f=>k c e f.symm (λh=>b (.inl h)) λh=>b (.inr h)
theorem Ka(b:¬i<0)(c:¬(1000000:Int)<i):(decide (i< -(2^63:Int))||decide (i>=2^63))=false:=by simp only[aaO,decide_eq_false_iff_not];lia
theorem L7(a:At w A n Y x J N O l)(r:Rv w x vo uo)(e:Rd w x.g k uk)(h:fZ vo k x.H=some v)(q:∀y u,At w A n Y y J N O l->Le Y.wm fP x y->y.H=x.H->Rv w y v u->Q u y.s):adh (aP pw w) A uo uk Q E x.s:=by
 have I:∀{u:al},Rv w x v u->∀t,Q u {x.s with toks:=t}:=λhr t=>a.iz rfl hr t q;have p:∀{u:al},Rv w x v u->Q u x.s:=λhr=>a.done rfl hr q;clear q;have L:∀{Z:ab D}{i:Int}{d:D},itemAt Z i=some d->(∀u,Rd w x.g d u->Q u x.s)->Rd w x.g (.int i) uk->∀{b:b5}{U:dv al},x.s.heap.IsList b U->U.size<=bg->fi w x.g Z U.toList->adh (aP pw w) A (.ref b) uk Q E x.s:=λf p e b U G M C=>i5 e λt=>⟨"list",_,slot_list_getitem.lookup,G.typeIs,Ec a G M C f p⟩;revert r e I p;refine DF h ?_ ?_ ?_ ?_ ?_<;>clear h;.exactλs i d f r e I _=>jd r.eU λt=>i5 e λt'=>JR f λc e8 e9 m z=>⟨"str",_,F.slot_str_getitem.lookup,ad0 _ _ _,ad4 (c:=c) (Ka m z) (sY (P:=λo:ae Nat=>o.bind (s.cps[·]?)=some c) (AJ m (Array.getElem?_eq_some_iff.mp e8).1) e8) (I (.d (e9▸.str _ _)) _)⟩
 .exactλZ i d f r e _ p=>i5 e λt=>lB r.eU λb U m z T _=>⟨"tuple",_,F.slot_tuple_getitem.lookup,(a.tup m).typeIs,ET a (a.tup m) z T f λu r=>p (.d r)⟩
 .exactλZ i d f r e _ p=>Ao r.eU λb U m z T=>L f (λu r=>p (.d r)) e (a.lst m) z T
 .exactλj Z md i d X f r e _ p=>tf r λb R=>j7 (a.j5 X R) λU G M C=>L f (λu r=>p (.d r)) e G.isList M C
 .exactλj B fz d X hs hk r e I _=>tf r λb R=>pn (a.nt X R) λG M C=>⟨"dict",_,slot_dict_getitem.lookup,d9 C.exact λo m z=>i12 o m z.1,Ei a C hs e hk λu t r=>I (.d r) t⟩
theorem KU(M:eo w n R N O (λJ=>cE o J))(L:eo w n Q N O (λJ=>cE k J))(hs:pk k=true):eo w n (NF R Q) N O (λJ=>cE (.Subscript o k p) J):=λa e q=>jV e λvo X s t=>jV t λdk H2 B C=>kg C λvr G c=>nL hs (M a s λy uo m g I U=>L.dat m g (sY I B) λz uk r i b d Z=>L7 r (U.le b) Z (sY d G) λy' h j f H T=>q y' h j (i.trans f) ((H.trans d).trans (pJ c).2) ((pJ c).1▸T))
theorem HK{P:D->D->Prop}(h:fv R a b=some z)(ci:∀i j,binI R i j=some z->P (.int i) (.int j))(cs:∀i j,PG R i j=some z->P (.str i) (.str j)):P a b:=by
 induction a using D.casesOn with
 |int i=>induction b using D.casesOn with|int j=>exact ci i j h|_=>exact ec h
 |str i=>induction b using D.casesOn with|str j=>exact cs i j h|_=>exact ec h
 |_=>exact ec h
theorem KR(h:binI R i j=some d)(b:∀k t',some (D.int k)=some d->∀t,Q (.int k t') {s with toks:=t}):aR (aP pw w) A (aeG R (.int i t) (.int j u)) Q E s:=by induction R using abu with|Add=>exact afH (b _ _ h _)|Sub=>exact afR (b _ _ h _)|Mult=>exact if1 h λc h=>afN (b _ _ h _) (IntMulOk.of_left (intBits_le (bY c.1 (by decide))))|Mod=>exact if1 h λc h=>afA (by lia) (b _ _ h _)|Pow=>exact if1 h λc e=>by obtain⟨rfl,f,g⟩:=c;exact adp (by assumption) (by lia) (by decide) (b _ _ e _)|BitAnd=>exact afC (b _ _ h _)|FloorDiv=>exact if1 h λc h=>adz (by lia) (b _ _ h _) (.inl (PyProof.noPylong_small (by lia)))|_=>exact ec h
theorem J8(h:PG R i j=some d)(c:∀k t',some (D.str k)=some d->∀t,Q (.str k t') {s with toks:=t}):aR (aP pw w) A (aeG R (.str i t) (.str j u)) Q E s:=by induction R using abu with|Add=>exact if1 h λb h=>afL (λt' e=>c _ _ h _) (au b kV)|_=>exact ec h
theorem Lw(a:At w A n Y x J N O l)(b:Rd w x.g f o)(c:Rd w x.g m p)(h:fv R f m=some d)(q:∀y u,At w A n Y y J N O l->Le Y.wm fP x y->y.H=x.H->Rv w y (.d d) u->Q u y.s):aR (aP pw w) A (aeG R o p) Q E x.s:=by revert b c;exact HK (P:=λf m=>Rd w x.g f o->Rd w x.g m p->aR (aP pw w) A (aeG R o p) Q E x.s) h (λi j e b c=>i5 b λt=>i5 c λu=>KR e λk r e t=>a.iz rfl (.d (bJ e▸.int _ _)) t q) λi j e b c=>jd b λt=>jd c λu=>J8 e λk r e t=>a.iz rfl (.d (bJ e▸.str _ _)) t q
theorem Lq(C:eo w n M N O (λJ=>cE o J))(G:eo w n Q N O (λJ=>cE r J)):eo w n (Nl R M Q) N O (λJ=>cE (.BinOp o R r p) J):=λa e q=>jV e λd1 X H e=>jV e λd2 H2 I e=>kg e λd L c=>wpAny_BinOp (eo.dat C a .refl H λy u1 k g _ s U=>eo.dat G k g (sY s I) λz u2 m i b t Z=>Lw m (U.keeps b.gk) Z L λy' h j f B T=>q y' h j (i.trans f) ((B.trans t).trans (pJ c).2) ((pJ c).1▸T))
theorem J4:eo w n (Oe i) N O (λJ=>cE (.UnaryOp .USub (.Constant (.int i) k p') p) J):=by intro A E Y x J l v b Q a e q;revert q;refine sP e λq=>?_;refine aci (dB (P.neg_int ?_));exact a.iz (v:=.d (.int (-i))) rfl (.d (.int _ _)) _ q
theorem GL{x y:D}{G:Prop}(h:D.has x (y::ys)=some b)(k:∀c d,D.eqv y x=some c->D.has x ys=some d->(c||d)=b->G):G:=by have h:(match D.eqv y x,D.has x ys with|some a,some b=>some (a||b)|_,_=>none)=some b:=h;revert h k;generalize D.eqv y x=o;generalize D.has x ys=q;induction o using cC with|none=>exactλ_ h=>ec h|some c=>induction q using cC with|none=>exactλ_ h=>ec h|some d=>exactλk h=>k c d rfl rfl (sI h)
theorem Je{x:D}(C:Rd w s.heap x f)(B:A.units+60<abF)(h:D.has x Z=some b)(r:fi w s.heap Z U):(∀v∈U,∃c,acq A s v f c)/\(b=true->∃v∈U,acq A s v f true)/\(b=false->∀v∈U,acq A s v f false):=r.ind (P:=λZ U=>∀b,D.has x Z=some b->(∀v∈U,∃c,acq A s v f c)/\(b=true->∃v∈U,acq A s v f true)/\(b=false->∀v∈U,acq A s v f false)) (λb h=>so h ⟨λ_ h=>kr h,λh=>fO h,λ_ _ h=>kr h⟩) (λ{y v G U}p q ih b h=>GL h λc d o t j=>have e:=(pz 60 o p C B).2.1;have i:=ih d t;⟨bC.mpr ⟨QD c e,i.1⟩,λg=>(dm.mp (j.trans g)).elim (λz=>i12 v (.head _) (z▸e)) (λhd=>d9 (i.2.1 hd) λu m k=>i12 u (.tail _ m) k),λg=>bC.mpr ⟨(aaO.mp (j.trans g)).1▸e,i.2.2 (aaO.mp (j.trans g)).2⟩⟩) b h
open Classical in theorem Pg{A:bI}{s:aM}{v x:al}{c:bt}(h:acq A s v x c):acq A s v x (decide (acq A s v x true)):=if e:acq A s v x true then sY (P:=λb=>acq A s v x b) (aE e) e else aY (motive:=λc=>acq A s v x c->acq A s v x (decide (acq A s v x true))) c (λh=>sY (P:=λb=>acq A s v x b) (aC e) h) (λh=>ay h e) h
open Classical in theorem has_any{A:bI}{s:aM}{x:D}{xv:al}(rx:Rd w s.heap x xv)(hu:A.units+60<abF){Z:ab D}{U:ab al}{b:bt}(h:D.has x Z=some b)(r:fi w s.heap Z U):∃e:al->bt,(∀v∈U,acq A s v xv (e v))/\U.any e=b:=have i:=Je rx hu h r;aY (motive:=λb=>(b=true->∃v∈U,acq A s v xv true)/\(b=false->∀v∈U,acq A s v xv false)->∃e:al->bt,(∀v∈U,acq A s v xv (e v))/\U.any e=b) b (λi=>i12 (λ_=>false) (i.2 rfl) (List.any_eq_false.mpr λ_ _=>cH)) (λk=>i12 (λv=>decide (acq A s v xv true)) (λv hv=>(i.1 v hv).elim λc=>Pg) (d9 (k.1 rfl) λu m k=>dw.mpr (i12 u m (aE k)))) i.2
theorem Gq{g:Heap}:∀{B:ab (D×al)}{U:ab D},(∀p∈B,wA p.1=true)->fi w g U (B.map (·.2))->eC (nJ w g) ((B.map (·.1)).zip U) B:=by intro B;induction B with|nil=>exactλ_ _=>.nil|cons p r ih=>exactλk h=>FI (P:=λU=>eC (nJ w g) ((p.1::r.map (λq:D×al=>q.1)).zip U) (p::r)) h λx b a q=>.cons ⟨rfl,k p (.head _),a⟩ (ih (λp h=>k p (.tail _ h)) q)
theorem Af(r:Rd w g (.eJ I U) u):∃b,u=.ref b/\(b==cI)=false/\(I.zip U).length<=bg/\fe w g g b (I.zip U):=QL (show∃a B,u=.ref a/\I=B.map (·.1)/\g.DictOf (sK w) a B/\(a==cI)=false/\B.length<=bg/\(∀p∈B,wA p.1=true)/\fi w g U (B.map (·.2))from r.inv) λa B h=>Vs h λd c e f i j m=>have E:=Gq j m;Vx a d f (c▸E.length▸i) (c▸.k e E)
theorem PB(a:At w A n Y x J N O l)(r:fe w x.g x.s.heap b B)(z:(b==cI)=false)(hs:(k.sort.any λq=>eg q B)=true)(e:Rd w x.g k j)(h:hW k B=some o)(q:∀t,Q (.bool o.isSome) {x.s with toks:=t}):aR (aP pw w) A (cY .In j (.ref b)) Q E x.s:=pd hs (λd hs=>d9 (r.Qy hs) λC f i=>wpAny_in_of (knd:=sK w) (k:=k) (rP d e) z f.mapOf (sY (P:=λc=>Q (.bool c) _) (sU d (M:=λm p=>m=some o->p.isSome=o.isSome) (λh=>sI h▸rfl) (λ_ _ _ h=>sI h▸rfl) i h) (q _))) λd hs=>d9 (r.TH hs a.rel.sub) λC f i=>oV (G:=λj=>aR (aP pw w) A (cY .In j (.ref b)) Q E x.s) d e λH e=>wpAny_in_heap (knd:=dK w) a.rD ⟨d,e.keeps a.rel.sub⟩ z f (sY (P:=λc=>Q (.bool c) _) (pQ d (M:=λm p=>m=some o->p.isSome=o.isSome) (λh=>sI h▸rfl) (λ_ _ _ h=>sI h▸rfl) i h) (q _))
theorem th(h:aR (aP pw w) A (cY .In v c) (λr s'=>∃b,r=.bool b/\Q b s') E s):aR (aP pw w) A (contains c v) Q E s:=by intro f p e;have:=h f p e;rw[(show cY .In v c=(contains c v>>=λb=>pure (.bool b))from rfl),aft]at this;refine aaU _ f _ (λb i s' z=>?_) (λ_ _ _ z=>z) _ _ this;obtain⟨g,d,z⟩:=z;injection d with d;subst d;exact z
theorem xr(h:aR (aP pw w) A (cY .In v c) (λr s'=>∃b,r=.bool b/\Q (.bool (!b)) s') E s):aR (aP pw w) A (cY .NotIn v c) Q E s:=by exact aB (th (cy h (λr s'⟨b,e,q⟩=>⟨b,e,aQ q⟩) λ_ _ z=>z))
noncomputable def Zx(x:D):ae Cell->ae bt|some (.lst Z _)=>D.has x Z|some (.eJ B _)=>if x.sort.any λq=>eg q B then(hW x B).map (·.isSome)else none|_=>none
noncomputable def Ys(x:D)(s:Str):ae bt:=match x with|.str t=>if t.cps.size=1then some (!(cO s t 0 s.length 1).isEmpty)else none|_=>none
theorem Kj{x:D}{P:D->Prop}(h:Ys x s=some b)(k:∀t,(!(cO s t 0 s.length 1).isEmpty)=b->P (.str t)):P x:=by induction x using D.casesOn with|str t=>exact if1 h λ_ h=>k t (sI h)|_=>exact ec h
theorem ML(a:At w A n Y x J N O l)(X:Rd w x.g d L)(r2:Rv w x v u2)(h:rE d v x.H=some b)(q:∀y,At w A n Y y J N O l->Le Y.wm fP x y->y.H=x.H->Q (.bool b) y.s):aR (aP pw w) A (cY .In L u2) Q E x.s:=by
 have id:Q (.bool b) x.s:=q x a .refl rfl;have tk:∀t,Q (.bool b) {x.s with toks:=t}:=a.tk (R:=Q (.bool b)) q;clear q;have room:A.in1.units+60<abF:=by have:=a.room.units;show A.units+1+60<abF;lia
 have r:∀{Z:ab D}{U:dv al}{G:Prop},D.has d Z=some b->fi w x.g Z U.toList->(∀e:al->bt,(∀y∈U,acq A.in1 x.s y L (e y))->Q (.bool (U.any e)) x.s->G)->G:=λh g k=>d9 (has_any (A:=A.in1) (a.rd X) room h (a.IV g)) λe C T=>k e (λy hy=>C y (Array.mem_toList_iff.mpr hy)) (sY (P:=λc=>Q (.bool c) x.s) ((abw (p:=e)).symm.trans T) id);have M:∀{j:b5}{B:ab (D×D)},fe w x.g x.s.heap j B->(j==cI)=false->(if d.sort.any λq=>eg q B then(hW d B).map (·.isSome)else none)=some b->aR (aP pw w) A (cY .In L (.ref j)) Q E x.s:=λD0 hb h=>if1 h λhs h=>kg h λo C h5=>PB a D0 hb hs X C (h5.symm▸tk);induction v using V.casesOn with
 |d y=>induction y using D.casesOn with|str s=>exact jd r2.eU λt=>Kj (P:=λd=>Rd w x.g d L->aR (aP pw w) A (cY .In L (.str s t)) Q E x.s) h (λs' h X=>jd X λt'=>agy (h.symm▸id)) X|tup Z=>exact lB r2.eU λj U C T h3 _=>r h h3 λe k z=>in_tupleAt e (a.tup C) k z|lst Z=>exact Ao r2.eU λj U C T h3=>r h h3 λe k z=>in_listAt e (a.lst C) k z|eJ I U=>exact BC (Af r2.eU) λj e T h3 h4=>e▸M (h4.keeps (λ_ _ e=>e) λo e=>a.rel.sub _ _ e) T h|_=>exact ec h
 |ref i=>exact tf r2 λj e=>jX (P:=λo=>x.H[i]?=o->Zx d o=some b->aR (aP pw w) A (cY .In L (.ref j)) Q E x.s) x.H[i]? (λ_ h=>ec h) (λZ m hi h=>j7 (a.j5 hi e) λU g1 g2 g3=>r h g3 λe k z=>in_listAt e g1.isList k z) (λB f hi h=>pn (a.nt hi e) λg1 g2 g3=>M g3 g1 h) (λ_ _ h=>ec h) rfl h|ins _ _=>exact ec h
noncomputable def QX(f:Int->Int->bt)(d:D)(v:V):ae bt:=match d,v with|.int x,.d (.int y)=>some (f x y)|_,_=>none
theorem J3{P:D->V->bt->Prop}(h:QX f d v=some b)(k:∀i j,P (.int i) (.d (.int j)) (f i j)):P d v b:=by
 induction d using D.casesOn with
 |int i=>
  induction v using V.casesOn with
  |d y=>induction y using D.casesOn with|int j=>exact so h (k i j)|_=>exact ec h
  |_=>exact ec h
 |_=>exact ec h
theorem Fi{v:V}{f:D->ae bt}{P:Prop}(h:(match v with|.d y=>f y|_=>none)=some b)(k:∀y,v=.d y->f y=some b->P):P:=match v,h,k with|.d y,h,k=>k y rfl h|.ref _,h,_=>ec h|.ins _ _,h,_=>ec h
theorem Pu(a:At w A n Y x J N O l)(p:Rd w x.g d B)(z:Rv w x v C)(h:f6 R d v x.H=some b)(q:∀y,At w A n Y y J N O l->Le Y.wm fP x y->y.H=x.H->Q (.bool b) y.s):aR (aP pw w) A (cY R B C) Q E x.s:=by
 have o:A.units+60<abF:=by have:=a.room.units;lia
 have m:∀{f:Int->Int->bt}{R:afg},QX f d v=some b->(∀i j t L,Q (.bool (f i j)) x.s->aR (aP pw w) A (cY R (.int i t) (.int j L)) Q E x.s)->aR (aP pw w) A (cY R B C) Q E x.s:=by intro f R X k;clear h;have id:Q (.bool b) x.s:=q x a .refl rfl;clear q;revert p z id;exact J3 (P:=λd v b=>Rd w x.g d B->Rv w x v C->Q (.bool b) x.s->aR (aP pw w) A (cY R B C) Q E x.s) X λi j p z id=>i5 p λt=>i5 z.eU λL=>k i j t L id
 induction R using CmpOp.casesOn with|Eq=>exact Fi h λy e h=>by subst e;exact(pz 60 h (a.rd p) (a.rd z.eU) o).1 _ _ _ _ (q x a .refl rfl)|NotEq=>exact Fi (f:=λy=>(D.eqv d y).map (!·)) h λy e h=>kg h λr G I=>by subst e I;exact(pz 60 G (a.rd p) (a.rd z.eU) o).2.2 _ _ _ _ (q x a .refl rfl)|Lt=>exact m (f:=λx y=>decide (x<y)) h λ_ _ _ _ id=>agd id|LtE=>exact m (f:=λx y=>decide (x<=y)) h λ_ _ _ _ id=>agB id|Gt=>exact m (f:=λx y=>decide (y<x)) h λ_ _ _ _ id=>agq id|GtE=>exact m (f:=λx y=>decide (y<=x)) h λ_ _ _ _ id=>ags id|In=>exact ML a p z h q|NotIn=>exact kg h λc G I=>xr (ML a p z G λy T M U=>⟨c,rfl,I▸q y T M U⟩)|_=>exact ec h
theorem t8(h:iY e=true):behindInMarks R e=false:=by rcases e with⟨⟩<;>first|(exact fO h;done)|rfl
theorem Ki(G:eo w n Q N O (λJ=>cE t J))(H:eo w n T N O (λJ=>cE f J))(hs:iY f=true):eo w n (Ot R Q T) N O (λJ=>cE (.Compare t [R] [f] p) J):=λa e q=>jV e λd1 X I e=>jV e λv2 H2 L e=>kg e λb M g=>wpAny_Compare1 (eo.dat G a .refl I λy u1 r k _ B U=>eo.on H r k (sY B L) λz u2 s m c i Z=>Pu s (U.keeps c.gk) Z (sY i M) λh o j C=>q h _ o (m.trans j) ((C.trans i).trans (pJ g).2) ((pJ g).1▸.d (.bool _))) (t8 hs)
theorem EO(r:Rd w g d u):(u==abX)=isNone (.d d):=Rd.casesOn (motive_1:=λd u _=>(u==abX)=isNone (.d d)) r rfl (λ_=>rfl) (λ_ _=>rfl) (λ_ _=>rfl) (λ_ _ _ _=>rfl) (λ_ _ _=>rfl) (λ_ _ _ _ _=>rfl) λ_ _ _ _ _ _ _=>rfl
theorem LH(r:Rv w x v u):(u==abX)=isNone v:=Rv.casesOn (motive:=λv u _=>(u==abX)=isNone v) r EO (λ_=>rfl) λ_ _ _=>rfl
theorem x2(r:eo w n z N O (λJ=>cE m J)):eo w n (A7 I z) N O (λJ=>cE (.Compare m [if I then .IsNot else .Is] [.Constant .none k p'] p) J):=λ{A E Y x J l v C Q}a e q=>yr e λG X t g=>wpAny_Compare1 (r a t λy b j i o B=>acd (have fin:Q (.bool ((b==.none)!=I)) y.s:=q y _ j i (o.trans (pJ g).2) ((pJ g).1▸LH B▸.d (.bool _));aY (motive:=λI=>Q (.bool ((b==.none)!=I)) y.s->aR (aP pw w) A (cY (if I then .IsNot else .Is) b .none) Q E y.s) I (λf=>is_none (sZ (P:=λc=>Q (.bool c) y.s) (Bool.bne_false _) f)) (λf=>isNot_none (sZ (P:=λc=>Q (.bool c) y.s) (Bool.bne_true _) f)) fin)) rfl
end
section
variable{w:bO}{n:Nat}{x y:Sx}{wm:Nat}{P:b5->Prop}{A:bI}{E:al->aM->Prop}{Y:Cx}{J:Env}{N:b7}{O:ab Str}{l:Loc}
theorem yz(hs:iY g=true)(h:aR (aP pw w) A (cE (.Compare i [R] [g] p) J) (λv s'=>aR (aP pw w) A (adS v) Q E s') E s):aR (aP pw w) A (aau (.Compare i [R] [g] p) J f) Q E s:=λe q d=>by have h:=h e q d;simp only[isTrue_Compare1,eval_Compare1,markedBehindIn_of_false (t8 hs),aft,Sem.wp_holding,Sem.wp_cmd_standAt,Sem.wp_operate]at h⊢;exact aaU _ e _ (λa o B j=>aaU _ e _ (λb r C k=>aaU _ e _ (λc t G m=>m e _ d) (λ_ _ _ z=>z) _ _ k) (λ_ _ _ z=>z) _ _ j) (λ_ _ _ z=>z) _ _ h
noncomputable def qc(e:PySem.Expr):bt:=lJ e (M:=λ_=>bt) (λ_=>true) (λ_ _ _=>true) (λ_ _=>true) (λ_ _ _=>true) (λ_ _=>true) (λ_ _ _=>true) (λR _ _=>match R with|.Not=>false|_=>true) (λ_ _ _ _=>true) (λ_ _ _=>false) (λ_ _ _ _=>false) (λ_ _ _ _=>false) (λ_ _ _ _=>true) (λ_ _ _=>true) (λ_ _ _=>true) (λ_ _ _ _=>true) (λ_ _ _ _=>true)
theorem isTrue_plain(h:qc e=true)(J:Env)(b:Sem al):aau e J b=(do let v←b;standAt e.pos;holding [v] (adS v)):=by
 cases e with
 |UnaryOp R x p=>rcases R with⟨⟩<;>first|(exact fO h;done)|rfl
 |BoolOp _ _ _=>exact fO h|IfExp _ _ _ _=>exact fO h|Compare _ _ _ _=>exact fO h|_=>rfl
theorem IG(h:eo w n m N O (λJ=>cE e J))(g:qc e=true\/∃i R f p,e=.Compare i [R] [f] p/\iY f=true):mw w n (tE m) N O (λJ=>aau e J (cE e J)):=by
 intro A E Y x J l b M Q a d q;refine(let L:Prop:=_;(?_:L));refine jV d λv X C d=>?_;refine kg d λT G d=>?_;cases d;have c:aR (aP pw w) A (cE e J) (λv I=>aR (aP pw w) A (adS v) Q E I) E x.s:=h a C λy u r k j H=>pv r H ((sY j G)) λz t o B=>q z t (k.trans o) (B.trans j);clear h;rcases g with g|⟨i,R,f,p,rfl,hs⟩;.exact wpAny_isTrue_value c (isTrue_plain g _ _)
 .exact yz hs c
theorem yY{code:Env->Sem bt}:mw w n (λ_ _ _=>none) N O code:=by intro A E Y x J l v b Q a e q;exact ec e
theorem GJ(h:mw w n t N O (λJ=>aau e J (cE e J))):mw w n (Qv t) N O (λJ=>aau (.UnaryOp .Not e p) J (cE (.UnaryOp .Not e p) J)):=by intro A E Y x J l b k Q a c q;refine(let j:Prop:=_;(?_:j));refine yr c λm X i c=>?_;obtain⟨rfl,rfl⟩:=pJ c;exact wpAny_isTrue_Not (h a i λy f d g=>q y f d g)
theorem xQ:∀{es:ab PySem.Expr},(∀e∈es,mw w n (f e) N O (λJ=>aau e J (cE e J)))->mw w n (gO (es.map f)) N O (λJ=>allTrue .And es J)|[],_=>by intro a b q;revert q;refine sP b λq=>?_;exact wpAny_allTrue_And_nil (q _ a .refl rfl)|e::es,h=>by intro a b q;refine jV b λc X j b=>?_;refine wpAny_allTrue_And_cons (h e aF a j λy g d i=>?_);clear j;induction c using aY with|true=>exact xQ (λe p=>h e (ax _ p)) g ((sY i b)) λz m k o=>q z m (d.trans k) o|false=>revert q;refine sP b λq=>?_;exact q y g d i
theorem xF:∀{es:ab PySem.Expr},(∀e∈es,mw w n (f e) N O (λJ=>aau e J (cE e J)))->mw w n (Ch (es.map f)) N O (λJ=>allTrue .Or es J)|[],_=>by intro a b q;revert q;refine sP b λq=>?_;exact wpAny_allTrue_Or_nil (q _ a .refl rfl)|e::es,h=>by intro a b q;refine jV b λc X j b=>?_;refine wpAny_allTrue_Or_cons (h e aF a j λy g d i=>?_);clear j;induction c using aY with|false=>exact xF (λe p=>h e (ax _ p)) g ((sY i b)) λz m k o=>q z m (d.trans k) o|true=>revert q;refine sP b λq=>?_;exact q y g d i
theorem uU(h:mw w n t N O (λJ=>allTrue R es J)):mw w n t N O (λJ=>aau (.BoolOp R es p) J (cE (.BoolOp R es p) J)):=by intro A E Y x J l b d Q a c q;exact wpAny_isTrue_BoolOp (h a c q)
theorem Nx(G:mw w n t N O (λJ=>aau k J (cE k J)))(B:eo w n H N O (λJ=>cE r J))(C:eo w n I N O (λJ=>cE s J)):eo w n (Vb t H I) N O (λJ=>cE (.IfExp k r s p) J):=by intro A E Y x J l v L Q a e q;refine jV e λb X o e=>?_;refine wpAny_IfExp (G a o λy j i m=>?_);clear o;induction b using aY with|true=>exact eo.on B j i ((sY m e)) λz u d c _ f g=>q z u d c f g|false=>exact eo.on C j i ((sY m e)) λz u d c _ f g=>q z u d c f g
theorem qN(h:aR (aP pw w) A t (λv j=>aR (aP pw w) A (adS v) (λb e=>match R,b with|.And,false|.Or,true=>Q v e|_,_=>aR (aP pw w) A (boolOp p R (i::ts)) Q E e) E j) E s):aR (aP pw w) A (boolOp p R (t::i::ts)) Q E s:=by show aR _ _ (do let v←t;standAt p;let b←holding [v] (adS v);match R,b with|.And,false|.Or,true=>pure v|_,_=>boolOp p R (i::ts)) Q E s;refine aB (cy h (λv f c=>aB (aaq (aB (aaP (cy c (λb g d=>?_) λ_ _ x=>x))))) λ_ _ x=>x);clear c h;rcases R with⟨⟩<;>rcases b with⟨⟩<;>first|exact aQ d|exact d
theorem snd_and:∀{es:ab PySem.Expr},(∀e∈es,eo w n (f e) N O (λJ=>cE e J))->eo w n (yR (es.map f)) N O (λJ=>boolOp p .And (evalEach es J))|[],_=>by intro a c q;exact ec c|[e],h=>h e aF|e::H::es,h=>by intro a c q;refine(let i:Prop:=_;(?_:i));refine jV c λR X o c=>?_;refine xh c λb r c=>?_;refine qN (h e aF a o λy u B j g s=>pv B s ((sY g r)) λz k d m=>?_);refine(let i:Prop:=_;(?_:i));clear o r;induction b using aY with|false=>revert q;refine sP c λq=>?_;exact q z u k (j.trans d) (m.trans g) (s.le d)|true=>exact snd_and (es:=H::es) (λe L=>h e (ax _ L)) k (by rw[m,g];exact c) λC Q G t I M=>q C Q G ((j.trans d).trans t) I M
theorem EA:∀{es:ab PySem.Expr},(∀e∈es,eo w n (f e) N O (λJ=>cE e J))->eo w n (OP (es.map f)) N O (λJ=>boolOp p .Or (evalEach es J))|[],_=>by intro a c q;exact ec c|[e],h=>h e aF|e::H::es,h=>by intro a c q;refine(let i:Prop:=_;(?_:i));refine jV c λR X o c=>?_;refine xh c λb r c=>?_;refine qN (h e aF a o λy u B j g s=>pv B s ((sY g r)) λz k d m=>?_);refine(let i:Prop:=_;(?_:i));clear o r;induction b using aY with|true=>revert q;refine sP c λq=>?_;exact q z u k (j.trans d) (m.trans g) (s.le d)|false=>exact EA (es:=H::es) (λe L=>h e (ax _ L)) k (by rw[m,g];exact c) λC Q G t I M=>q C Q G ((j.trans d).trans t) I M
theorem Li(h:eo w n m N O (λJ=>cE e J)):eo w n (Tw m) N O (λJ=>cE (.UnaryOp .Not e p) J):=by intro A E Y x J l v C Q a c q;refine(let B:Prop:=_;(?_:B));refine jV c λG X r c=>?_;refine kg c λb s c=>?_;obtain⟨rfl,rfl⟩:=pJ c.symm;refine aci (h a r λy u j g f t=>not_value (pv j t ((sY f s)) λz k i o=>?_));exact q z _ k (g.trans i) (o.trans f) (.d (.bool _))
theorem vx{f:PySem.Expr->ME}:∀{es:ab PySem.Expr},(∀e∈es,eo w n (f e) N O (λJ=>cE e J))->noStar es=true->∀{A:bI}{E:al->aM->Prop}{Y:Cx}{x:Sx}{J:Env}{l:Loc}{U:ab V}{g:Hp}{Q:ab al->aM->Prop}{j:Pos}{b:Sx},At w A n Y x J N O l->Le Y.wm fP b x->mW (es.map f) Y l x.H=some (U,g)->(∀y i,At w A n Y y J N O l->Le Y.wm fP b y->Le Y.wm fP x y->y.H=g->eC (Rv w y) U i->Q i y.s)->aR (aP pw w) A (aej (aa5 j (c4 es J))) Q E x.s:=by intro es;induction es with|nil=>intro _ _ A E Y x J l U g Q j b a L e q;revert q;refine sP e λq=>?_;exact abR (q x [] a L .refl rfl .nil)|cons d es ih=>intro h hs A E Y x J l U g Q j b a L e q;refine hd λ_ G=>?_;obtain⟨p,mN⟩:=gR hs J;refine jV e λv X e1 R=>?_;refine jV R λv' H2 e3 T=>?_;refine yr T λB H3 e5 e6=>?_;clear R T;obtain⟨rfl,rfl⟩:=pJ e6;refine G ?_;refine abv (h d aF a e1 λy u M I Z r=>?_) p;refine Ri (Jq (wm:=Y.wm) (P:=fP) M.rel r (by rw[Z];exact e3)) λz z1 z2 t z4 z5=>?_;simp only[←z1];refine ih (λe he=>h e (ax _ he)) mN (M.step z2 t) (L.trans (I.trans t)) (by rw[z4];exact e5) λC i m k c o r'=>?_;exact q C (u::i) m k ((I.trans t).trans c) o (.cons (z5.le c) r')
noncomputable def Keeps(f:al)(w:bO)(g:Heap):Prop:=∀h:Heap,(∀b o,g.get? b=some o->h.get? b=some o)->∃k,(k=Keeper.frame\/k=Keeper.machine\/k=Keeper.boundFrame)/\Looks (aP pw w) h (keeperOf f) k
theorem lz(h:∀e∈es,eo w n (f e) N O (λJ=>cE e J))(hs:noStar es=true)(a:At w A n Y x J N O l)(L:Le Y.wm fP k x)(T:Keeps m w x.g)(e:mW (es.map f) Y l x.H=some (U,G))(q:∀y i,At w A n Y y J N O l->Le Y.wm fP k y->Le Y.wm fP x y->y.H=G->eC (Rv w y) U i->aR (aP pw w) A (PySem.call m (c++i)) Q E y.s):aR (aP pw w) A (callWith j m c (aa5 j (c4 es J)) []) Q E x.s:=by
 have C:aR (aP pw w) A (aej (aa5 j (c4 es J))) (λi B=>(∀b o,x.g.get? b=some o->B.heap.get? b=some o)/\aR (aP pw w) A (PySem.call m (c++i)) Q E B) E x.s:=vx h hs a L e λy i t I p M r=>⟨λb o z=>t.rel.sub _ _ (p.gk _ _ z),q y i t I p M r⟩;have WG:∀{es:ab PySem.Expr},noStar es=true->(aa5 j (c4 es J)).any (·.1)=false:=by intro es;induction es with|nil=>intro _;rfl|cons e es ih=>intro hs;obtain⟨d,mN⟩:=gR hs J;refine sY d ?_;show(false||(aa5 j (c4 es J)).any (·.1))=false;rw[ih mN];rfl
 refine callWith_of (P:=λh=>∀b o,x.g.get? b=some o->h.get? b=some o) (by rw[WG hs];rfl) (λh R=>T h R) ?_;clear h;induction es using aS with|nil=>refine evalArgs_nil3 ?_;have:=q x [] a L .refl (by refine sP e ?_;rfl) (by refine sP e ?_;exact .nil);exact⟨a.rel.sub,this⟩|cons X es=>obtain⟨d,mN⟩:=gR hs J;simp only[d]at C⊢;exact evalArgs_plain C
noncomputable def LD:bt:=uF.all λp=>ad9 vi (.ref p.2.1)
theorem z6:LD=true:=by kernel_rfl
theorem H8(T:fm w h):Frag.In vi h:=λa o e=>T.objs (a,o) (MY _ (by
 have:∀{K:Frag}{a:b5}{o:Obj},K.lookup a=some o->(a,o)∈K:=by intro K a o;induction K with|nil=>intro h;exact ec h|cons p r ih=>obtain⟨k,v⟩:=p;intro h;dsimp only[br]at h;cases b:a==k with|true=>rw[b]at h;refine so h ?_;rw[bP.mp b];exact aF|false=>rw[b]at h;exact ax _ (ih h)
 exact this e))
theorem C7(T:fm w g)(m:p∈uF):Keeps (.ref p.2.1) w g:=λh b=>keeps_K (aA.mp z6 p m) h (H8 (T.keeps b))
theorem EJ{ad:Nat}(h:∀e∈es,eo w n (f e) N O (λJ=>cE e J))(hs:noStar es=true)(k:jc N nm=true)(j:look uF nm=some (ad,Z)):eo w n (GK ad (es.map f)) N O (λJ=>cE (.Call (.Name nm p') es [] p) J):=by intro A E Y x J l v t Q a e q;refine jV e λU X m o=>?_;have g:=jx j;refine dE (rG a k (NQ w.params g) ?_);refine lz h hs a .refl (C7 a.rel.top g) m λy B b L _ i r=>?_;refine abW (b.call b.room.call b.rel b.wm ((sY i o)) r λz u S d c s=>?_);exact q z u (b.step S d) (L.trans d) c s
end
noncomputable def vp:ae (ae al)->bt|some none=>true|_=>false
noncomputable def yw(id:dA):ae (ae al)->bt|some (some (.builtin i))=>decide (i=id)|_=>false
noncomputable def zx(a:Nat):ae (ae al)->bt|some (some (.ref b))=>aah b a|_=>false
noncomputable def KV(P:bp):bt:=jA.all λC=>yw "object.__getattribute__" (abt (KK P) (.ref C) "__getattribute__")&&vp (abt (KK P) (.ref C) "__getattr__")&&hasDictIn (KK P) C&&plainOver (KK P) C&&yw "object.__setattr__" (abt (KK P) (.ref C) "__setattr__")
noncomputable def LN(P:bp):bt:=jA.all λC=>makesIn (KK P) C&&ad9 (KK P) (.ref C)
noncomputable def OS(P:bp):bt:=jA.all λC=>gT.all λp=>vp (abt (KK P) (.ref C) p.1)
noncomputable def PS(P:bp):bt:=mc.all λp=>zx p.2.2.1 (abt (KK P) (.ref p.2.1) "__init__")
noncomputable def PW(P:bp):bt:=dP.all λq=>nV.all λp=>!aah p.2 q.1.2||zx q.2 (abt (KK P) (.ref q.1.1) p.1)
noncomputable def Fg(P:bp):bt:=(mc.map λp=>p.2.2.1).all (λa=>isFn vi (.ref a)&&ad9 vi (.ref a))&&(dP.map λp=>p.2).all λa=>isFn vi (.ref a)&&ad9 vi (.ref a)
noncomputable def Nm:bt:=gT.all λp=>gT.all λq=>(PySem.W.Fast.sEq p.1 q.1)==(aah p.2 q.2)
noncomputable def Qn:bt:=nV.all λp=>aga p.2 109||gT.all λq=>!PySem.W.Fast.sEq p.1 q.1
theorem zV(P:bp):KV P=true:=by kernel_rfl
theorem sJ(P:bp):LN P=true:=by kernel_rfl
theorem CX(P:bp):OS P=true:=by kernel_rfl
theorem CA(P:bp):PS P=true:=by kernel_rfl
theorem CT(P:bp):PW P=true:=by kernel_rfl
theorem xi(P:bp):Fg P=true:=by kernel_rfl
theorem DH:Nm=true:=by kernel_rfl
theorem CN:Qn=true:=by kernel_rfl
theorem sR(h:vp o=true):o=some none:=by rcases o with _|_|_<;>first|exact fO h|rfl
theorem uY{id:dA}(h:yw id o=true):o=some (some (.builtin id)):=by
 rcases o with _|_|v<;>try(exact fO h;done)
 rcases v with⟨⟩<;>try(exact fO h;done)
 rw[aT h]
theorem uh(h:zx a o=true):o=some (some (.ref a)):=by
 rcases o with _|_|v<;>try(exact fO h;done)
 rcases v with⟨⟩<;>try(exact fO h;done)
 rw[bR h]
theorem lookup_mem{c:Type}:∀{K:ab (b5×c)}{a:b5}{o:c},K.lookup a=some o->(a,o)∈K:=by intro K a o;induction K with|nil=>intro h;exact ec h|cons p r ih=>obtain⟨k,v⟩:=p;intro h;dsimp only[br]at h;cases b:a==k with|true=>rw[b]at h;refine so h ?_;rw[bP.mp b];exact aF|false=>rw[b]at h;exact ax _ (ih h)
theorem wN(T:fm w h):(KK w.params).In h:=λa o e=>T.objs (a,o) (lookup_mem e)
structure Rp(P:bp)(C:b5):Prop where
 ga:abt (KK P) (.ref C) "__getattribute__"=some (some (.builtin "object.__getattribute__"))
 gt:abt (KK P) (.ref C) "__getattr__"=some none
 hd:hasDictIn (KK P) C=true
 po:plainOver (KK P) C=true
 st:abt (KK P) (.ref C) "__setattr__"=some (some (.builtin "object.__setattr__"))
 at_:∀nm a,(nm,a)∈gT->abt (KK P) (.ref C) nm=some none
theorem y7(P:bp)(h:C∈jA):Rp P C:=by have k:=aA.mp (zV P) C h;simp only[aI]at k;obtain⟨⟨⟨⟨b,c⟩,d⟩,e⟩,f⟩:=k;exact⟨uY b,sR c,d,e,uY f,λg a m=>sR (aA.mp (aA.mp (CX P) C h) (g,a) m)⟩
theorem nk(b:(d,a1)∈gT)(c:(f,a2)∈gT):d=f↔a1=a2:=by
 have k:=aA.mp (aA.mp DH _ b) _ c;rw[bP]at k;dsimp only at k;constructor;.intro e;rw[PySem.W.Fast.sEq_iff.mpr e]at k;exact bR k.symm
 .intro e;subst e;rw[acS]at k;exact PySem.W.Fast.sEq_iff.mp k
theorem LM(b:(nm,m)∈nV)(f:110<=m)(c:(d,a)∈gT):d≠nm:=by
 have k:=aA.mp CN _ b;rw[dG]at k;rcases k with k|k;.have:=bo k;dsimp only at this;lia
 .have:=aA.mp k _ c;intro e;rw[PySem.W.Fast.sEq_iff.mpr e.symm]at this;exact fO this
section
variable{w:bO}{n:Nat}{x y:Sx}{wm:Nat}{P:b5->Prop}{A:bI}{E:al->aM->Prop}{Y:Cx}{J:Env}{N:b7}{O:ab Str}{l:Loc}
theorem ji:(abi b t).isStr nm=true↔b=nm:=by show(b==nm)=true↔_;exact bP
theorem xx(h:eC (xe w x) fs es):es.any (·.refKey)=false:=by induction h with|nil=>rfl|cons e _ ih=>refine mn (e) λc t b _=>?_;simp only[aeh,ih];simp[DictEntry.refKey,b]
theorem CU(h:eC (xe w x) fs es)(m:(nm,a)∈gT):∀{v:V},fs.lookup a=some v->∃e,es.find? (·.key.isStr nm)=some e/\Rv w x v e.val:=by
 induction h with
 |nil=>intro v h;exact ec h|@cons p e s j r _ ih=>
  intro v d;obtain⟨b,z⟩:=p;refine iL (r) λg t k i o=>?_;dsimp only[br]at d;rw[cR,k];cases c:a==b with
  |true=>rw[c]at d;refine so d ?_;replace c:=bP.mp c;refine sY (ji.mpr ((nk i m).mpr c.symm)) ?_;exact i12 e rfl o|false=>
   rw[c]at d;have f:¬g=nm:=λe=>by have:=(nk i m).mp e;dsimp only at this;rw[this]at c;simp at c
   have:(abi g t).isStr nm=false:=by cases q:(abi g t).isStr nm with|false=>rfl|true=>exact ay (ji.mp q) f
   refine sY this ?_;exact ih d
theorem Cm(h:eC (xe w x) fs es)(m:∀b a,(b,a)∈gT->b≠nm):es.find? (·.key.isStr nm)=none:=by
 induction h with
 |nil=>rfl|@cons p e i c r _ ih=>
  refine iL (r) λb t d f g=>?_;rw[cR,d];have:(abi b t).isStr nm=false:=by cases q:(abi b t).isStr nm with|false=>rfl|true=>exact ay (ji.mp q) (m _ _ f)
  refine sY this ?_;exact ih
theorem Dw(r:Rd w g d u):aeu u=true:=Rd.casesOn (motive_1:=λ_ u _=>aeu u=true) r rfl (λ_=>rfl) (λ_ _=>rfl) (λ_ _=>rfl) (λ_ _ _ _=>rfl) (λ_ _ _=>rfl) (λ_ _ _ _ _=>rfl) λ_ _ _ _ _ _ _=>rfl
theorem BX(r:Rv w x v u):aeu u=true:=Rv.casesOn (motive:=λ_ u _=>aeu u=true) r Dw (λ_=>rfl) λ_ _ _=>rfl
theorem w7{g:Heap}{nm:Str}{a:Nat}(m:(nm,a)∈gT):∀{es:ab cM}{nms:ab Str}{c:ab Nat}{B:ab D}{d:D},acr es nms->nms.length=c.length->(∀p∈nms.zip c,p∈gT)->fi w g B (es.map (·.val))->(c.zip B).lookup a=some d->∃e,es.find? (·.key.isStr nm)=some e/\Rd w g d e.val
 |_,_,c,B,d,.nil,f,_,_,h=>by induction c using aS with|nil=>exact ec h|cons _ _=>cases f
 |_,_,c,B,d,KeysNamed.cons (en:=e) (ens:=es) (x:=i) (t:=t) (xs:=nms) k I,f,o,G,h=>by
  induction c using aS with
  |nil=>cases f|cons b c=>
   cases G with
   |@cons L _ C _ r H=>
    dsimp only[cg,br]at h;have s:(i,b)∈gT:=o _ ((.head _));rw[cR,k];cases q:a==b with
    |true=>rw[q]at h;refine so h ?_;rw[bP]at q;refine sY (ji.mpr ((nk s m).mpr q.symm)) ?_;exact i12 e rfl r|false=>
     rw[q]at h;have j:¬i=nm:=λe=>by have:=(nk s m).mp e;rw[this]at q;simp at q
     have:(abi i t).isStr nm=false:=by cases z:(abi i t).isStr nm with|false=>rfl|true=>exact ay (ji.mp z) j
     refine sY this ?_;exact w7 m I (by simpa using f) (λp M=>o p ((.tail _ ‹_›))) H h
noncomputable def PV:D->Nat|.obj _ _=>1|_=>0
@[elab_as_elim]theorem U9{c i:Nat}{u:al}{P:al->Prop}(h:Rv w x (.ins c i) u)(k:∀b d,c∈jA->x.g.get? b=some (dz c d)->x.φ[i]?=some d->P (.ref b)):P u:=jt (show∃b d,u=.ref b/\c∈jA/\x.g.get? b=some (dz c d)/\x.φ[i]?=some d from h.inv) λb d e f j m=>e▸k b d f j m
theorem At.inst(a:At w A n Y x J N O l){P:al->Prop}(r:Rv w x (.ins c i) u)(h:x.H[i]?=some (.ins fs))(k:∀b d es m,c∈jA->x.φ[i]?=some d->InstAt x.s.heap b (dz c d) c (some (abK es m))->x.s.heap.get? d=some (abK es m)->eC (xe w x) fs es->(fs.length<=100/\(fs.map (·.1)).Nodup)->P (.ref b)):P u:=U9 r λb d hc j e=>CH (a.rel.cell i _ d h e) λo f g2 g=>mn g λes m g3 g4=>k b d es m hc e ⟨a.rel.sub _ _ j,rfl,rfl,g3⟩ g3 g4 ⟨f,g2⟩
noncomputable def WD(a:Nat):ae Cell->ae V|some (.ins fs)=>fs.lookup a|_=>none
theorem objE{P:al->Prop}(r:Rd w g (.obj c B) u)(k:∀x b es n nms,g.get? x=some (dz c b)->g.get? b=some (abK es n)->acr es nms->nms.length=(iK c).length->(∀p∈nms.zip (iK c),p∈gT)->c∈jA->fi w g B (es.map (·.val))->P (.ref x)):P u:=Rd.casesOn (motive_1:=λd u _=>d=.obj c B->P u) r (λe=>xc PV e rfl) (λ_ e=>xc PV e rfl) (λ_ _ e=>xc PV e rfl) (λ_ _ e=>xc PV e rfl) (λ_ _ _ _ e=>xc PV e rfl) (λ_ _ _ e=>xc PV e rfl) (λ_ _ _ _ _ e=>xc PV e rfl) (λf i j m o q s e=>have z:=D.obj.inj e;k _ _ _ _ _ (z.1▸f) i j (z.1▸m) (z.1▸o) (z.1▸q) (z.2▸s)) rfl
theorem HA(a:At w A n Y x J N O l)(c:C∈jA)(I:InstAt x.s.heap b (dz C i) C (some (abK es m)))(f:(nm,k)∈gT)(d:es.find? (·.key.isStr nm)=some e)(r:Rv w x g e.val)(q:∀y u,At w A n Y y J N O l->Le Y.wm fP x y->y.H=x.H->Rv w y g u->Q u y.s):aR (aP pw w) A (aeH (.ref b) nm j) Q E x.s:=have K:=y7 w.params c;get_value (wN (a.rel.top.keeps a.rel.sub)) I K.ga (findObj_own (attr:=none) K.hd (K.at_ _ _ f) rfl (show getL nm es=some (some e.val)from by unfold getL;exact sY d rfl)) (BX r) (a.iz rfl r _ q)
theorem Jb(a:At w A n Y x J N O l)(r:Rv w x v u)(f:(nm,k)∈gT)(h:kA v k x.H=some t)(q:∀y u,At w A n Y y J N O l->Le Y.wm fP x y->y.H=x.H->Rv w y t u->Q u y.s):aR (aP pw w) A (aeH u nm p) Q E x.s:=by induction v using V.casesOn with|ref i=>exact ec h|ins c i=>exact jX (P:=λo=>x.H[i]?=o->WD k o=some t->aR (aP pw w) A (aeH u nm p) Q E x.s) x.H[i]? (λ_ h=>ec h) (λ_ _ _ h=>ec h) (λ_ _ _ h=>ec h) (λfs hi h=>a.inst (P:=λu=>aR (aP pw w) A (aeH u nm p) Q E x.s) r hi λb C M m hC _ I _ L _=>d9 (CU L f h) λe g j=>HA a hC I f g j q) rfl h|d d=>induction d using D.casesOn with|obj c B=>exact kg h λd G z=>objE (P:=λu=>aR (aP pw w) A (aeH u nm p) Q E x.s) r.eU λb C M m nms R T U X Z h6 h7=>d9 (w7 f U X Z h7 G) λe g j=>HA a h6 ⟨a.rel.sub _ _ R,rfl,rfl,a.rel.sub _ _ T⟩ f g (z▸.d j) q|_=>exact ec h
end
section
variable{w:bO}{n:Nat}{x y:Sx}{wm:Nat}{P:b5->Prop}{A:bI}{E:al->aM->Prop}{Y:Cx}{J:Env}{N:b7}{O:ab Str}{l:Loc}
theorem A4(h:baseOk o=true)(nm:Str)(J:Env)(b:Sem al):attributeBase o nm J b=b:=by
 induction o using afq with
 |Call f c R p=>
  induction f using afq with
  |Name id q=>
   induction c using aS with
   |nil=>induction R using aS with|nil=>exact fO h|cons _ _=>rfl
   |cons _ _=>rfl
  |_=>rfl
 |_=>rfl
theorem Eg(r:eo w n B N O (λJ=>cE o J))(j:baseOk o=true)(m:(nm,k)∈gT):eo w n (Ia B k) N O (λJ=>cE (.Attribute o nm p) J):=by intro A E Y x J l v L Q a e q;refine(let I:Prop:=_;(?_:I));refine jV e λR X s e=>?_;refine kg e λM t e=>?_;cases e;refine Attribute_any_ (r a s λy u f c b C=>Jb f C m ((sY b t)) λz H g d i G=>q z H g (c.trans d) (i.trans b) G) ?_;simp only[arm_eval_Attribute,A4 j]
theorem WG:∀{es:ab PySem.Expr},noStar es=true->(aa5 j (c4 es J)).all (λt=>!t.1)=true:=by intro es;induction es with|nil=>intro _;rfl|cons e es ih=>intro hs;refine lK (gR hs J) λb mN=>?_;refine sY b ?_;show(true&&(aa5 j (c4 es J)).all (λt=>!t.1))=true;rw[ih mN];rfl
theorem xZ(t:baseOk o=true)(hs:noStar es=true)(B:es.length<=10)(z:b.endLine=j.line)(h:aR (aP pw w) A (cE o J) (λi k=>∀pl,aR (aP pw w) A (aaG i nm pl) (λr m=>aR (aP pw w) A (callWith j r.1 r.2 (aa5 j (c4 es J)) []) Q E m) E k) E s):aR (aP pw w) A (cE (.Call (.Attribute o nm b) es [] j) J) Q E s:=by
 rw[arm_eval_Call,A4 t];refine aB (cy h (λi k p=>aB (aaq ?_)) λ_ _ e=>e);have c:methodCallForm (es.length+([]:ab Keyword).length) (aa5 j (c4 es J)) (backToKw j (keywordEach [] J))=true:=by unfold methodCallForm;rw[WG hs];show(true&&true&&decide (es.length+0+0<30))=true;simp;lia
 have d:methodCallPos true o J b j=pure j:=by unfold methodCallPos;simp[z]
 unfold methodCall;rw[c];refine aB (aaP (cy (p _) (λr m q=>?_) λ_ _ e=>e));obtain⟨f,g⟩:=r;exact aB (wpAny_of_eq d q)
theorem Fe(T:fm w g)(m:ad9 vi (.ref f)=true):Keeps (.ref f) w g:=λh b=>keeps_K m h (H8 (T.keeps b))
theorem uu{id:dA}:Keeps (.builtin id) w g:=λh _=>⟨.machine,.inr (.inl rfl),Looks.now⟩
theorem qD{b d:Type}[BEq b][LawfulBEq b]:∀{K:ab (b×d)}{a:b}{o:d},K.lookup a=some o->(a,o)∈K:=by intro K a o;induction K with|nil=>intro h;exact ec h|cons p r ih=>obtain⟨k,v⟩:=p;intro h;dsimp only[br]at h;cases c:a==k with|true=>rw[c]at h;refine so h ?_;rw[bP.mp c];exact aF|false=>rw[c]at h;exact ax _ (ih h)
theorem By{P:bp}(h:((c,m),f)∈dP)(e:(nm,m)∈nV):abt (KK P) (.ref c) nm=some (some (.ref f))/\isFn vi (.ref f)=true/\ad9 vi (.ref f)=true:=by
 have k:=aA.mp (aA.mp (CT P) _ h) _ e;have b:=xi P;unfold Fg at b;rw[aI]at b;have d:=aA.mp b.2 f (ag.mpr ⟨_,h,rfl⟩);rw[aI]at d;rw[dG]at k;rcases k with k|k;.simp at k
 .exact⟨uh k,d.1,d.2⟩
theorem BA{P:bp}(c:isFn vi (.ref f)=true):typeIn (KK P) (.ref f)=some (.type "function"):=by refine kg (show typeIn vi (.ref f)=some (.type "function")from bP.mp c) λo d b=>?_;show((KK P).lookup f).map _=_;unfold KK;simp only[dC,dC,dC,dC,d];simp[b]
theorem tW(a:At w A n Y x J N O l)(r:Rv w x (.ins c i) u)(t:x.H[i]?=some (.ins fs))(g:(nm,m)∈nV)(z:dP.lookup (c,m)=some f)(d:110<=m)(q:Q (.ref f,[u]) x.s):aR (aP pw w) A (aaG u nm pl) Q E x.s:=by exact a.inst (P:=λu=>Q (.ref f,[u]) x.s->aR (aP pw w) A (aaG u nm pl) Q E x.s) r t (λb L j k p _ I _ e _ q=>pn (By (P:=w.params) (qD z) g) λB C _=>by have K:=y7 w.params p;refine method_fn (wN (a.rel.top.keeps a.rel.sub)) I K.ga K.gt B (BA C) ?_ q;show(lookIn nm (abK j k)).map _=_;rw[lookIn_dict];unfold getL;rw[Cm e λM G o=>LM g d o,xx e];rfl) q
noncomputable def Ge:ab (Nat×Str):=[(100,aa "append"),(101,aa "extend"),(102,aa "pop"),(103,aa "get"),(104,aa "join"),(105,aa "index")]
noncomputable def Gw:bt:=Ge.all λq=>nV.all λp=>!aah p.2 q.1||PySem.W.Fast.sEq p.1 q.2
theorem xM:Gw=true:=by kernel_rfl
theorem G5(h:(nm,m)∈nV)(k:(m,b)∈Ge):nm=b:=by
 have z:=aA.mp (aA.mp xM _ k) _ h;rw[dG]at z;rcases z with z|z;.simp at z
 .exact PySem.W.Fast.sEq_iff.mp z
noncomputable def gY:Nat->dA|100=>"list.append"|101=>"list.extend"|102=>"list.pop"|103=>"dict.get"|104=>"str.join"|_=>"tuple.index"
theorem oT{h:Heap}(f:h.get? b=some o)(d:o.dict=none):∀c,Value.ref b=.ref c->∃o,h.get? c=some o/\o.dict=none:=λc e=>abr e▸i12 o f d
noncomputable def WK(m:Nat):ae Cell->bt|some (.lst _ _)=>decide (m=100\/m=101\/m=102)|some (.eJ _ _)=>decide (m=103)|_=>false
theorem tY(a:At w A n Y x J N O l)(r:Rv w x v u)(hi:∀c i,v≠.ins c i)(hm:(nm,m)∈nV)(j:iZ dP v m x.H=true)(q:Q (.builtin (gY m),[u]) x.s):aR (aP pw w) A (aaG u nm pl) Q E x.s:=by have go:∀{k:Nat}{G:Str}{u:al},m=k->(k,G)∈Ge->(Q (.builtin (gY k),[u]) x.s->aR (aP pw w) A (aaG u G pl) Q E x.s)->Q (.builtin (gY m),[u]) x.s->aR (aP pw w) A (aaG u nm pl) Q E x.s:=λe h k q=>sY (P:=λnm=>aR (aP pw w) A (aaG _ nm pl) Q E x.s) (G5 hm (e▸h)) (k (e▸q));have C:∀{b:b5}{B:ab (D×D)},fe w x.g x.s.heap b B->m=103->Q (.builtin (gY m),[.ref b]) x.s->aR (aP pw w) A (aaG (.ref b) nm pl) Q E x.s:=λh e q=>d9 h.exact λo L M=>go e (.tail _ (.tail _ (.tail _ (.head _)))) (λq=>c7 (T:="dict") ⟨_,L,M.1⟩ F.plainAttrs_dict abH F.type_dict_get (oT L M.2.1) q) q;revert q;induction v using V.casesOn with|ins c i=>exact ay rfl (hi _ _)|ref i=>exact tf r λb e=>jX (P:=λo=>x.H[i]?=o->WK m o=true->Q (.builtin (gY m),[.ref b]) x.s->aR (aP pw w) A (aaG (.ref b) nm pl) Q E x.s) x.H[i]? (λ_ h=>fO h) (λZ md X j q=>j7 (a.j5 X e) λU h _ _=>h.elim λep p=>or3 (aT j) (λz=>go z (.head _) (λq=>c7 (T:="list") ⟨_,p,rfl⟩ aba F.slot_list_append F.type_list_append (oT p rfl) q) q) (λz=>go z (.tail _ (.head _)) (λq=>c7 (T:="list") ⟨_,p,rfl⟩ aba acu F.type_list_extend (oT p rfl) q) q) λz=>go z (.tail _ (.tail _ (.head _))) (λq=>c7 (T:="list") ⟨_,p,rfl⟩ aba adk F.type_list_pop (oT p rfl) q) q) (λB f X j q=>pn (a.nt X e) λ_ _ g3=>C g3 (aT j) q) (λ_ _ h=>fO h) rfl j|d d=>induction d using D.casesOn with|str s=>exact jd r.eU λt q=>go (aT j) (.tail _ (.tail _ (.tail _ (.tail _ (.head _))))) (λq=>c7 (ad0 _ _ _) F.plainAttrs_str adn F.type_str_join (λc e=>nomatch e) q) q|tup Z=>exact lB r.eU λb U L M h3 R q=>d9 R λo h5 h6=>go (aT j) (.tail _ (.tail _ (.tail _ (.tail _ (.tail _ (.head _)))))) (λq=>c7 (a.tup L).typeIs F.plainAttrs_tuple acj F.type_tuple_index (oT (a.rel.sub _ _ h5) h6) q) q|eJ I U=>exact BC (Af r.eU) λbb e M h3 R=>e▸C (R.keeps (λ_ _ e=>e) λo e=>a.rel.sub _ _ e) (aT j)|_=>exact fO j
end
section
variable{w:bO}{n:Nat}{x y:Sx}{wm:Nat}{P:b5->Prop}{A:bI}{E:al->aM->Prop}{Y:Cx}{J:Env}{N:b7}{O:ab Str}{l:Loc}
theorem At.zb(a:At w A n Y x J N O l){Q:al->aM->Prop}(hm:md≠.fz)(L:x.H[i]?=some (.lst Z md))(hb:x.φ[i]?=some b)(hs:Heap.SameBut b x.s.heap h')(j:h'.PlainList b B)(hz:B.size<=bg)(p:fi w x.g d B.toList)(t:Nat)(e:x.H.set i (.lst d md)=z)(r:Rv w x v u)(q:∀y u,At w A n Y y J N O l->Le Y.wm fP x y->y.H=z->Rv w y v u->Q u y.s):Q u {x.s with heap:=h',toks:=t}:=by have f:∀Z,(Cell.lst Z md).BW=true:=λZ=>Mode.casesOn (motive:=λmd=>md≠.fz->(Cell.lst Z md).BW=true) md (λ_=>rfl) (λ_=>rfl) (λh=>ay rfl h) hm;exact BC (a.vB (c:=.lst d md) L (f _) hb hs (j.imp' _ λ_ h=>h) (λ_ M=>kr M) (λy o e k _=>Mode.casesOn (motive:=λmd=>md≠.fz->fY w y b (.lst d md)) md (λ_=>⟨o,B,e▸j,hz,p.keeps k⟩) (λ_=>⟨o,B,e▸j,hz,p.keeps k⟩) (λh=>ay rfl h) hm) t) λy G C m I=>sZ (P:=λs=>Q u s) G (q y u C m (I.trans e) (r.le m))
theorem yo(a:At w A n Y x J N O l)(t:md≠.fz)(j:x.H[i]?=some (.lst Z md))(f:x.φ[i]?=some b)(hz:Z.length<big)(r:Rd w x.g d u)(e:x.H.set i (.lst (Z++[d]) md)=k)(q:∀y u,At w A n Y y J N O l->Le Y.wm fP x y->y.H=k->Rv w y (.d .fS) u->Q u y.s):aR (aP pw w) A (PySem.call (.builtin "list.append") [.ref b,u]) Q E x.s:=by refine j7 (a.j5 j f) λU m o c=>?_;have p:=c.length;simp only[cz]at p;have:=kV;refine abq m (λB z hs=>?_) o;exact a.zb t j f hs z (by rw[adj];lia) (by rw[acK];exact c.snoc r) x.s.toks e (.d .fS) q
theorem Gi(a:At w A n Y x J N O l)(M:md≠.fz)(z:x.H[i]?=some (.lst (d::Z) md))(o:x.φ[i]?=some b)(e:x.H.set i (.lst Z md)=I)(q:∀y u,At w A n Y y J N O l->Le Y.wm fP x y->y.H=I->Rv w y (.d d) u->Q u y.s):aR (aP pw w) A (PySem.call (.builtin "list.pop") [.ref b,.int 0 t]) Q E x.s:=by
 refine(let h:Prop:=_;(?_:h));refine j7 (a.j5 z o) λU X k m=>?_;obtain⟨f,j⟩:=X;obtain⟨v,c,L,r,T⟩:∃v c,U.toList=v::c/\Rd w x.g d v/\fi w x.g Z c:=by generalize U.toList=ll at m;cases m with|cons p q=>exact⟨_,_,rfl,p,q⟩
 have R:U=⟨v::c⟩:=by rw[←L]
 subst R;have C:(⟨v::c⟩:dv al).size=c.length+1:=rfl;refine ad8 adk ⟨_,j,rfl⟩ F.entry_list_pop (F.args_list_pop_2 _ _) (MeetsSeq.list_pop_at b _ f 0 t 0 v (by decide) ?_ rfl k) ⟨j,?_⟩;.unfold acn;refine sY C ?_;simp
 .refine a.zb (B:=⟨c⟩) (h':=x.s.heap.update b _) M z o (Heap.SameBut.update ..) ⟨f+1,?_⟩ ?_ T x.s.toks e (.d r) q;.
   have G:(ad7 (λZ=>Z.eraseIdxIfInBounds 0) {cls:=.type "list",data:=.seq ⟨v::c⟩ f})=({cls:=.type "list",data:=.seq ⟨c⟩ (f+1)}:Obj):=by simp[ad7,Array.eraseIdxIfInBounds]
   rw[Heap.get?_update_self _ j (by rw[G];rfl),G]
  .rw[C]at k;show c.length<=bg;lia
theorem Fx(a:At w A n Y x J N O l)(z:fe w x.g x.s.heap b B)(L:(b==cI)=false)(hs:(k.sort.any λq=>eg q B)=true)(m:Rd w x.g k C)(T:Rd w x.g e c)(h:hW k B=some o)(q:∀u t,Rd w x.g (o.getD e) u->Q u {x.s with toks:=t}):aR (aP pw w) A (PySem.call (.builtin "dict.get") [.ref b,C,c]) Q E x.s:=by have I:x.s.TypeIs (.ref b) "dict":=d9 z.exact λo i j=>i12 o i j.1;exact pd hs (λf hs=>d9 (z.Qy hs) λR i j=>call_meetsIn abH I acT (acB _ _ _) (meets_dict_get_default (sK w) _ (k:=k) (rP f m) L c) ⟨_,i.mapOf,sU f (M:=λH p=>H=some o->∀t,Q (p.getD c) {x.s with toks:=t}) (λh t=>q _ t (sI h▸T)) (λd u r h t=>q _ t (sI h▸r)) j h _⟩) λf hs=>d9 (z.TH hs a.rel.sub) λR i j=>oV (G:=λC=>aR (aP pw w) A (PySem.call (.builtin "dict.get") [.ref b,C,c]) Q E x.s) f m λU m=>call_meetsIn abH I acT (acB _ _ _) (meetsH_dict_get_default (dK w) b U L c) ⟨a.rD,k,R,⟨f,m.keeps a.rel.sub⟩,i,pQ f (M:=λH p=>H=some o->∀t,Q ((p.map (·.2)).getD c) {x.s with toks:=t}) (λh t=>q _ t (sI h▸T)) (λd u r h t=>q _ t (sI h▸r)) j h _⟩
end
open PySem.AutoSeq1 in theorem ru(l:b5)(items:dv al)(n:Nat)(b:b5)(rT:dv al)(n2:Nat)(dd:ae b5)(sl:dv (ae al))(ξ:¬(!items.isEmpty&&adT (items.size+rT.size))=true)(Ye:items.size<=bg)(mN:items.size+rT.size<=bg+1):Meets (Builtin.«list.extend» ⟨[.ref l,.ref b],[]⟩) (λ_ R s=>s.heap.get? l=some {cls:=.type "list",dict:=none,data:=.seq items n,slots:=#[]}/\s.heap.get? b=some {cls:=.type "list",dict:=dd,data:=.seq rT n2,slots:=sl}/\R (.ok (.ret abX)) {s with heap:=s.heap.update l (ad7 λx=>x++rT),toks:=s.toks}):=.of_wp λB w A R s h=>by
 obtain⟨hp,g,d,tk,os⟩:=s;obtain⟨hl,hb,h⟩:=h;have f1:=AutoSeq1.idx_int;have f2:=AutoSeq1.sub_tuple_tuple;have f3:=AutoSeq1.sub_list_list;have f4:=AutoSeq1.sub_tuple_list;have f5:=AutoSeq1.sub_list_tuple;have Za:(items++rT).size<=bg+1:=by rw[acz];exact mN
 wp_walk using(wpAny_updateSeq hl rfl (hz:=Ye) (_hz':=Za)),wpAny_loadPart' hl,wpAny_loadPart' hb;exact⟨_,rfl,h⟩
section
variable{w:bO}{n:Nat}{x y:Sx}{wm:Nat}{P:b5->Prop}{A:bI}{E:al->aM->Prop}{Y:Cx}{J:Env}{N:b7}{O:ab Str}{l:Loc}
theorem wQ(a:At w A n Y x J N O l)(hm:md≠.fz)(L:x.H[i]?=some (.lst Z md))(C:x.φ[i]?=some b)(hz:Z.length+ys.length<=big)(r:Rd w x.g (.lst ys) u)(e:x.H.set i (.lst (Z++ys) md)=M)(q:∀y u,At w A n Y y J N O l->Le Y.wm fP x y->y.H=M->Rv w y (.d .fS) u->Q u y.s):aR (aP pw w) A (PySem.call (.builtin "list.extend") [.ref b,u]) Q E x.s:=by
 refine(let γ:Prop:=_;(?_:γ));refine j7 (a.j5 L C) λU z2 X z=>?_;obtain⟨f,k⟩:=z2;cases r with
 |@lst c p _ T g2 t=>
  obtain⟨o,ho,I,m,hd⟩:=T;obtain⟨cl,R,dt,sl⟩:=o;dsimp only at I hd;subst I hd;have j:=z.length;have l2:=t.length;simp only[cz]at j l2;have G:big=1048576:=rfl;refine ad8 acu ⟨_,k,rfl⟩ F.entry_list_extend (F.args_list_extend_2 _ _) (ru b U f c p m R sl ?_ X (by rw[dj];lia)) ⟨k,a.rel.sub _ _ ho,?_⟩;.rw[aI];rintro⟨_,h⟩;have:=aT h;have Q2:=kV;lia
  .refine a.zb (B:=U++p) (h':=x.s.heap.update b _) hm L C (Heap.SameBut.update ..) ⟨if(U++p).size==U.size then f else f+1,?_⟩ ?_ (by rw[Array.toList_append];exact z.append t) x.s.toks e (.d .fS) q;.refine sY (Heap.get?_update_self _ k rfl) ?_;rfl
   .rw[acz,dj];lia
theorem JA(h:strsOf Z=some G)(r:fi w g Z b):∃ps:ab (Str×Tok),b=strValues ps/\ps.map (·.1)=G:=by
 induction Z generalizing b G with
 |nil=>exact H0 r (so h (i12 [] rfl rfl))|cons x Z ih=>
  refine GG r λv b r f=>?_;rcases x with _|_|_|s|_|_|_|_<;>try(exact ec h;done)
  refine kg (show(strsOf Z).map (s::·)=some G from h) λi e z=>jd r λt=>d9 (ih e f) λps c d=>?_;exact i12 ((s,t)::ps) (ah (_::·) c) ((ah (s::·) d).trans z)
set_option tactic.hygienic true in theorem Dp(a:At w A n Y x J N O l){R:Str}{t:Tok}{Z:ab D}{G:ab Str}{u:al}{Q:al->aM->Prop}(r:Rd w x.g (.lst Z) u)(h:strsOf Z=some G)(h1:G.foldl (λa p=>a+p.length+R.length) 0<=big)(h2:(aas R G).length<=big)(q:∀y u,At w A n Y y J N O l->Le Y.wm fP x y->y.H=x.H->Rv w y (.d (.str (aas R G))) u->Q u y.s):aR (aP pw w) A (PySem.call (.builtin "str.join") [.str R t,u]) Q E x.s:=by
 refine(let γ:Prop:=_;(?_:γ));cases r with
 |@lst c us _ g1 g2 g3=>
  refine d9 (JA h g3) λps e1 e2=>?_;have hb:=kV;refine ad8 adn (ad0 _ _ _) F.entry_str_join (F.args_str_join_2 _ _) (meets_str_join_list R t c ps ?_) ⟨by rw[←e1];exact a.lst g1,?_⟩;.refine sY e2 ?_;unfold Builtin.Str.tooLong;rw[aC];rw[←Array.foldl_toList];rw[gt_iff_lt,aai];exact au h1 hb
  .have e3:aas R (ps.map (·.1))=aas R G:=(sY e2 rfl);unfold joinMade;clear e1;split;.
    rename_i p;have:aas R G=p.1:=by rw[←e3];rfl
    rw[this]at q;exact a.done rfl (.d (.str _ _)) q
   .show(Builtin.Str.glued R (ps.map (·.1))).length<=bg/\_;rw[StrLaws.glued_eq_join,e3];exact⟨au h2 hb,a.iz (v:=.d (.str (aas R G))) rfl (.d (.str _ _)) _ q⟩
end
section
variable{w:bO}{n:Nat}{x y:Sx}{wm:Nat}{P:b5->Prop}{A:bI}{E:al->aM->Prop}{Y:Cx}{J:Env}{N:b7}{O:ab Str}{l:Loc}
theorem i!(h:i<n):n-i=(n-(i+1))+1:=by rw[Nat.sub_add_eq,acm (Nat.sub_pos_of_lt h)]
inductive Ci(w:bO)(x:Sx)(U:dv al)(s:Str)(k:Nat):ab Nat->ae PySem.Fin×agO->aM->Prop|mk(i j:Nat)(ys:ab D)(us:ab al)(hy:fi w x.g ys us)(hu:∀t,us[t]?=U[i+t]?)(e:k=i+j)(c:kn s ys=some j):Ci w x U s k (aaA i us.length) (none,⟨⟩) x.s
theorem xH{y:D}{G:D->Nat->Prop}(h:kn s (y::ys)=some j)(f:G (.str s) 0)(g:∀z b,¬z=s->kn s ys=some b->G (.str z) (b+1)):G y j:=by induction y using D.casesOn with|str z=>have h:(if z==s then some 0 else(kn s ys).map (· +1))=some j:=h;exact if e:z=s then so ((aW (bP.mpr e)).symm.trans h) (e▸f)else kg ((aZ λq=>e (bP.mp q)).symm.trans h) λb c d=>d▸g z b e c|_=>exact ec h
theorem y8(a:At w A n Y x J N O l)(h1:x.g.IsTuple b U)(h3:fi w x.g Z U.toList)(h:kn s Z=some k)(q:∀y u,At w A n Y y J N O l->Le Y.wm fP x y->y.H=x.H->Rv w y (.d (.int k)) u->Q u y.s):aR (aP pw w) A (PySem.call (.builtin "tuple.index") [.ref b,.str s t]) Q E x.s:=by
 refine(a.tup h1).elim λo h1=>pn h1 λho hc hd=>hd.elim λm hd=>?_;refine aaK acj ⟨o,ho,hc⟩ F.entry_tuple_index ?_ (F.args_tuple_index_2 _ _);show aR _ _ (aa0 (.ref b)>>=_) _ _ _;refine aB (ack ho hd ?_);show aR _ _ (forIn [0:min U.size U.size] (none,ahN) _>>=_) _ _ _;rw[abZ];refine aB ?_;refine abz _ (Ci w x U s k) _ (λT f r s' C=>?_) (λr s' C=>?_) _ _ ?_;.
  generalize I:T::f=LL at C;induction C with
  |mk i j B p R M e c=>
   induction p using aS with
   |nil=>exact xN I|cons u p=>
    have X:T=i/\f=aaA (i+1) p.length:=bx I;refine FI (P:=λB=>kn s B=some j->_) R (λy B L rs c=>?_) c;have hv:U[T]?=some u:=X.1▸(M 0).symm;refine sY hv ?_;have Z8:∀t,p[t]?=U[i+1+t]?:=λt=>(M (t+1)).trans (ah (U[·]?) (by lia));clear M hv I R;revert L e;refine xH (G:=λy j=>k=i+j->Rd w x.g y u->_) c (λe L=>?_) λz j' hz c' e L=>?_;.refine jd L λt'=>aB (acV ?_);rw[aE (show s=s from rfl)];refine aB (m:=retInt _) (aB (wpAny_mkInt (aQ (aQ (aQ ⟨_,rfl,?_⟩)))));exact(show k=T from e.trans X.1.symm)▸a.iz (v:=.d (.int k)) rfl (.d (.int _ _)) _ q
    .refine jd L λt'=>aB (acV ?_);rw[aC hz];exact aQ (X.2▸.mk (i+1) j' B p rs Z8 (e.trans (by lia)) c')
 .generalize I:([]:ab Nat)=LL at C;induction C with|mk i j B p R M e c=>induction p using aS with|nil=>exact AZ (P:=λB=>kn s B=some j->_) R (λc=>ec c) c|cons u p=>exact xn I
 .refine sY (P:=λn=>Ci w x U s k (aaA 0 n) (none,ahN) x.s) (show[:min U.size U.size].size=U.toList.length by simp[afd]) ?_;exact .mk 0 k Z U.toList h3 (λt=>dF.trans (ah (U[·]?) (bS t).symm)) (bS k).symm h
theorem US{d:Type}{P c:Prop}[dH c]{a b:ae d}{r:d}(h:(if c then a else b)=some r)(f:c->a=some r->P)(g:¬c->b=some r->P):P:=if e:c then f e ((aW e).symm.trans h)else g e ((aZ e).symm.trans h)
theorem vL(h:IJ v=some d):v=.d d:=match v,h with|.d _,h=>so h rfl|.ref _,h=>ec h|.ins _ _,h=>ec h
theorem G0(h:Dm args=some d):args=[.d d]:=match args,h with|[_],h=>vL h▸rfl
theorem ER(h:Gz args=some d):args=[.d d.1,.d d.2]:=match args,h with|[v,u],h=>xh h λa c e=>kg e λb f g=>sZ (P:=λd:D×D=>[v,u]=[.d d.1,.d d.2]) g (sY (P:=λv=>[v,u]=[.d a,.d b]) (vL c) (sY (P:=λu=>[V.d a,u]=[.d a,.d b]) (vL f) rfl))
noncomputable def QK(w:bO)(A:bI)(n:Nat)(Y:Cx)(x:Sx)(J:Env)(N:b7)(O:ab Str)(l:Loc)(Q:al->aM->Prop)(r:V×Hp):Prop:=∀y u,At w A n Y y J N O l->Le Y.wm fP x y->y.H=r.2->Rv w y r.1 u->Q u y.s
theorem qk(h:p=r)(q:QK w A n Y x J N O l Q r):QK w A n Y x J N O l Q p:=h.symm▸q
section
variable{r:V×Hp}{Q:al->aM->Prop}{m:Nat}(a:At w A n Y x J N O l)(q:QK w A n Y x J N O l Q r)
include a q
theorem JL{i:Nat}{b:b5}{Z:ab D}{md:Mode}{d:D}{u:al}(f:Rd w x.g d u)(k:x.H[i]?=some (.lst Z md))(e:x.φ[i]?=some b)(h:Oh i m d Z md x.H=some r):aR (aP pw w) A (PySem.call (.builtin (gY m)) [.ref b,u]) Q E x.s:=by
 refine US h (λj h=>?_) λ_ h=>US h (λj h=>?_) λ_ h=>US h (λj h=>?_) λ_ h=>ec h;.subst j;exact To h λc h=>yo a (λe=>c (.inl e)) k e (Nat.lt_of_not_le λz=>c (.inr z)) f rfl (qk (sI h) q)
 .subst j;exact se (P:=λd=>Rd w x.g d u->aR (aP pw w) A (PySem.call (.builtin (gY 101)) [.ref b,u]) Q E x.s) h (λo h f=>To h λc h=>wQ a (λe=>c (.inl e)) k e (aai.mp λz=>c (.inr z)) f rfl (qk (sI h) q)) f
 .subst j;refine i4 (P:=λd=>Rd w x.g d u->aR (aP pw w) A (PySem.call (.builtin (gY 102)) [.ref b,u]) Q E x.s) h (λz h f=>?_) f;induction Z using aS with|nil=>exact ec h|cons y o=>exact i5 f λt=>if1 (show(if z=0/\md≠.fz then some (V.d y,x.H.set i (.lst o md))else none)=some r from h) λc h=>c.1▸Gi a c.2 k e rfl (qk (sI h) q)
theorem Bi{b:b5}{B:ab (D×D)}{p:D×D}{u v:al}(k:Rd w x.g p.1 u)(z:Rd w x.g p.2 v)(e:fe w x.g x.s.heap b B)(j:(b==cI)=false)(h:Kf m p B x.H=some r):aR (aP pw w) A (PySem.call (.builtin (gY m)) [.ref b,u,v]) Q E x.s:=if1 h λc h=>kg h λo f i=>c.1▸Fx a e j c.2 k z f λu t r=>a.iz rfl (.d r) t (qk i q)
theorem JU{s:Str}{t:Tok}{d:D}{u:al}(c:Rd w x.g d u)(h:Sn m d s x.H=some r):aR (aP pw w) A (PySem.call (.builtin (gY m)) [.str s t,u]) Q E x.s:=se (P:=λd=>Rd w x.g d u->aR (aP pw w) A (PySem.call (.builtin (gY m)) [.str s t,u]) Q E x.s) h (λZ h c=>xh h λG e f=>if1 f λb i=>b.1▸Dp a c e b.2.1 b.2.2 (qk (sI i) q)) c
theorem JN{b:b5}{U:dv al}{Z:ab D}{d:D}{u:al}(c:Rd w x.g d u)(e:x.g.IsTuple b U)(f:fi w x.g Z U.toList)(h:R7 m d Z x.H=some r):aR (aP pw w) A (PySem.call (.builtin (gY m)) [.ref b,u]) Q E x.s:=xf (P:=λd=>Rd w x.g d u->aR (aP pw w) A (PySem.call (.builtin (gY m)) [.ref b,u]) Q E x.s) h (λs h c=>jd c λt=>if1 h λo h=>kg h λk i j=>o▸y8 a e f i (qk j q)) c
noncomputable def RD(m i:Nat)(args:ab V)(H:Hp):ae Cell->ae (V×Hp)|some (.lst Z md)=>(Dm args).bind λx=>Oh i m x Z md H|some (.eJ B _)=>(Gz args).bind λp=>Kf m p B H|_=>none
theorem EC{v:V}{u:al}{args:ab V}{C:ab al}(z:eC (Rv w x) args C)(ni:∀c i,v≠.ins c i)(R:Rv w x v u)(h:fJ dP Y v m args x.H=some r):aR (aP pw w) A (PySem.call (.builtin (gY m)) (u::C)) Q E x.s:=by have o1:∀{f:D->ae (V×Hp)}{u:al},(Dm args).bind f=some r->(∀d v,Rd w x.g d v->f d=some r->aR (aP pw w) A (PySem.call (.builtin (gY m)) [u,v]) Q E x.s)->aR (aP pw w) A (PySem.call (.builtin (gY m)) (u::C)) Q E x.s:=λh k=>xh h λd h1 L=>uc (show eC (Rv w x) [.d d] C from G0 h1▸z) λv _ j z=>AK z (k d v j.eU L);have o2:∀{f:D×D->ae (V×Hp)}{u:al},(Gz args).bind f=some r->(∀p v G,Rd w x.g p.1 v->Rd w x.g p.2 G->f p=some r->aR (aP pw w) A (PySem.call (.builtin (gY m)) [u,v,G]) Q E x.s)->aR (aP pw w) A (PySem.call (.builtin (gY m)) (u::C)) Q E x.s:=λh k=>xh h λp h1 L=>uc (show eC (Rv w x) [.d p.1,.d p.2] C from ER h1▸z) λv _ j z=>uc z λG _ M z=>AK z (k p v G j.eU M.eU L);induction v using V.casesOn with|ins _ _=>exact ay rfl (ni _ _)|ref i=>exact tf R λb e=>jX (P:=λo=>x.H[i]?=o->RD m i args x.H o=some r->aR (aP pw w) A (PySem.call (.builtin (gY m)) (.ref b::C)) Q E x.s) x.H[i]? (λ_ h=>ec h) (λZ md hi h=>o1 h λd v j h=>JL a q j hi e h) (λB f hi h=>pn (a.nt hi e) λT g2 X=>o2 h λp v G j M h=>Bi a q j M X T h) (λ_ _ h=>ec h) rfl h|d d=>induction d using D.casesOn with|str s=>exact jd R.eU λt=>o1 h λd v j h=>JU a q j h|tup Z=>exact lB R.eU λb U T _ X _=>o1 h λd v j h=>JN a q j T X h|eJ I U=>exact BC (Af R.eU) λb e L h3 h4=>e▸o2 h λp v G j M h=>Bi a q j M (h4.keeps (λ_ _ e=>e) λo e=>a.rel.sub _ _ e) L h|_=>exact ec h
end
noncomputable def Vm(C:mO)(cl m:Nat):ae Cell->bt|some (.ins _)=>decide (110<=m)&&(C.lookup (cl,m)).isSome|_=>false
noncomputable def Wj(C:mO)(Y:Cx)(cl i m:Nat)(args:ab V)(H:Hp):ae Cell->ae (V×Hp)|some (.ins _)=>if 110<=m then(C.lookup (cl,m)).bind λf=>Y.call Y.wm f (.ins cl i::args) H else none|_=>none
theorem PX{G:Prop}(h:iZ dP (.ins c i) m H=true)(k:∀fs b,H[i]?=some (.ins fs)->110<=m->dP.lookup (c,m)=some b->G):G:=jX (P:=λo=>H[i]?=o->Vm dP c m o=true->G) H[i]? (λ_ h=>fO h) (λ_ _ _ h=>fO h) (λ_ _ _ h=>fO h) (λfs d h=>(dc.mp (bX.mp h).2).elim λb e=>k fs b d (aT (bX.mp h).1) e) rfl h
theorem Lp(h:fJ dP Y (.ins c i) m args H=some r)(e:110<=m)(d:dP.lookup (c,m)=some b):Y.call Y.wm b (.ins c i::args) H=some r:=jX (P:=λo=>Wj dP Y c i m args H o=some r->Y.call Y.wm b (.ins c i::args) H=some r) H[i]? (λh=>ec h) (λ_ _ h=>ec h) (λ_ _ h=>ec h) (λ_ h=>(ah (λo:ae Nat=>o.bind λf=>Y.call Y.wm f (.ins c i::args) H) d).symm.trans ((aW e).symm.trans h)) h
theorem HP(ho:eo w n mo N O (λJ=>cE o J))(h:∀e∈es,eo w n (f e) N O (λJ=>cE e J))(hs:noStar es=true)(hl:es.length<=10)(hb:baseOk o=true)(hp:ap.endLine=p.line)(L:(nm,m)∈nV):eo w n (FU dP mo m (es.map f)) N O (λJ=>cE (.Call (.Attribute o nm ap) es [] p) J):=by
 intro A E Y x J l v' H' Q a e q;refine jV e λv X k1 e=>if1 e λhk e=>jV e λU H2 k2 k3=>?_;refine xZ hb hs hl hp (ho a k1 λy u k Z t B pl=>?_);by_cases s:∃c i,v=.ins c i;.refine QL s λc i z=>?_;subst z;exact PX hk λfs fn s b j=>tW k B (sY t s) L j b (pn (By (P:=w.params) (qD j) L) λ_ _ kp=>lz h hs k Z (Fe k.rel.top kp) (sY t k2) λz us g G d I M=>abW (g.call g.room.call g.rel g.wm (sY I (Lp k3 b j)) (.cons (B.le d) M) λC R S T H r'=>q C R (g.step S T) (G.trans T) H r'))
 .exact tY k B (λc i e=>s ⟨c,i,e⟩) L (sY t hk) (lz h hs k Z uu (sY t k2) λz us g G d I M=>EC (r:=(_,_)) g (λC R a3 L3 g3 r3=>q C R a3 (G.trans L3) g3 r3) M (λc i e=>s ⟨c,i,e⟩) (B.le d) (sY I k3))
end
section
variable{w:bO}{n:Nat}{x y:Sx}{wm:Nat}{P:b5->Prop}{A:bI}{E:al->aM->Prop}{Y:Cx}{J:Env}{N:b7}{O:ab Str}{l:Loc}
theorem tv(c:dv al)(b:Nat):slicePick c none (some b) none=(c.toList.take b).toArray:=by
 by_cases f:b<=c.size;.exact slicePick_upto c b f
 .have e:adb none (some (b:Int)) none c.size=adb none (some (c.size:Int)) none c.size:=by
   simp only[adb,Option.getD_none];have d:¬((c.size:Int)<0):=by lia
   simp[(show¬((b:Int)<0)from by lia),d];lia
  have:=slicePick_upto c c.size (aV _);unfold slicePick at this⊢;rw[e,this,abC (by simp),abC (by simp;lia)]
theorem fi.take(h:fi w g Z U):∀k,fi w g (Z.take k) (U.take k):=h.ind (λk=>by rcases k with _|k<;>exact .nil) λa q r k=>by
 rcases k with _|k;.exact .nil
 .exact .cons a (r k)
theorem Bc(h:isName o=true)(u r:al):letTemporaryGo o u r=pure ():=by refine(let b:Prop:=_;(?_:b));rcases o with⟨⟩<;>first|(exact fO h;done)|rfl
theorem En(h:eo w n mo N O (λJ=>cE o J))(R:0<=i)(T:isName o=true):eo w n (G6 mo i.toNat) N O (λJ=>cE (.Subscript o (.Slice none (some (.Constant (.int i) k l!)) none p') p) J):=by intro A E Y x J l v H' Q a e q;refine(let j:Prop:=_;(?_:j));refine jV e λt X k1 e=>kg e λv' c r=>?_;refine wpAny_Subscript_list_slice (h a k1 λy u m C H f=>?_) (Bc T);simp only[evalPart_none,acs];refine aQ (dB ?_);refine(let j:Prop:=_;(?_:j));revert f;refine pE (P:=λt=>Rv w y t u->_) c λd c=>se (P:=λd=>Rv w y (.d d) u->_) c λZ c f=>jt f.eU.lst_inv λb U z L s M=>VS b U none (some i) ⟨z,m.lst L,s,.none,.int _ _,?_⟩;rw[show slicePick U none (some i) none=(U.toList.take i.toNat).toArray from Int.toNat_of_nonneg R▸tv U i.toNat];exact m.Th (d:=.lst (Z.take i.toNat)) rfl (λg k e=>.lst ⟨_,e,rfl,0,rfl⟩ (au (bZ List.length_take) (au (Nat.min_le_right _ _) s)) ((fi.take M i.toNat).keeps k)) λy' u G B I r'=>q y' u G (C.trans B) ((I.trans H).trans (pJ r).2) (((sI c).trans (pJ r).1)▸r')
end
theorem qu(nm:Str)(hs:Int)(k v:al):∀es:ab cM,(putL nm hs k v es).length<=es.length+1
 |[]=>(aV _)|e::r=>by
  unfold putL;split;.simp
  .simpa using qu nm hs k v r
section
variable{w:bO}{n:Nat}{x y:Sx}{wm:Nat}{P:b5->Prop}{A:bI}{E:al->aM->Prop}{Y:Cx}{J:Env}{N:b7}{O:ab Str}{l:Loc}
theorem GH{K:Frag}(X:K.In s.heap)(I:InstAt s.heap b (dz C d) C (some (abK es m)))(D:s.heap.get? d=some (abK es m))(hs:abt K (.ref C) "__setattr__"=some (some (.builtin "object.__setattr__")))(k:plainOver K C=true)(p:takerIn K C nm=some none)(j:(clsIn K C).any (·.hasDict)=true)(o:es.any (·.refKey)=false)(hz:es.length<=900)(h:∀h' t r,h'.get? d=some (abK (putL nm (aaE w.params nm) (.str nm r) v es) (putN nm es m))->Heap.SameBut d s.heap h'->Q () {s with heap:=h',toks:=t}):aR (aP pw w) A (setAttr (.ref b) nm v) Q E s:=by
 refine set_plain X I hs (osa_open (s:={s with toks:=s.toks+1}) X I k p λz=>?_);obtain⟨B,i,f⟩:=any_some j;have q:=I.at_;refine aB (aQ (aB (aB (wpAny_loadPart q (aB ((looks_clsIn (M:=aP pw w) (h:=s.heap) X i) _ _ _ {s with toks:=s.toks+1} (λ_ _ e=>e) ?_))))));rw[f];refine aQ (a:=some d) (aB (aQ (aB ?_)));unfold nsSet;refine aB (aB (wpAny_askSetting (aQ (aB (wpAny_mkText (aB (wpAny_loadPart D ?_)))))));have c:(!es.toArray.any (·.key.isStr nm)&&es.toArray.any (·.refKey))=false:=by rw[←abw,←abw];show(_&&es.any _)=false;rw[o,Bool.and_false]
 have g:(s.heap.update d (Obj.putName nm (aaE w.params nm) (.str nm (s.toks+1)) v)).get? d=some (abK (putL nm (aaE w.params nm) (.str nm (s.toks+1)) v es) (putN nm es m)):=by rw[Heap.get?_update_self _ D (by rw[putName_dict];rfl),putName_dict]
 dsimp only[abK];rw[aRefKeyMayBeTheName_at,c];refine wpAny_updatePart D ?_;refine aB (wpAny_lookBehind g (pastItsLine_dict ?_) ?_);.rw[acJ,dj];have:=qu nm (aaE w.params nm) (.str nm (s.toks+1)) v es;lia
 .exact aQ (h _ _ _ g (Heap.SameBut.update ..))
theorem IB(h:eC (xe w x) fs es)(m:(nm,a)∈gT)(r:Rv w x v u)(hs:Int)(t:Tok):eC (xe w x) (kU a v fs) (putL nm hs (.str nm t) u es):=by
 induction h with
 |nil=>exact .cons ⟨nm,t,rfl,m,r⟩ .nil|@cons p e s k q c ih=>
  obtain⟨b,B⟩:=p;refine iL (q) λi j g d o=>?_;unfold kU putL;rw[g];by_cases f:b=a;.subst f;rw[aW rfl,aW (ji.mpr ((nk d m).mpr rfl))];exact .cons ⟨i,j,rfl,d,r⟩ c
  .rw[aZ f,aZ (λz=>f ((nk d m).mp (ji.mp z)))];exact .cons ⟨i,j,g,d,o⟩ ih
theorem qT(a:Nat)(v:V):∀fs:ab (Nat×V),(kU a v fs).length<=fs.length+1
 |[]=>(aV _)|(b,w)::r=>by
  unfold kU;split;.simp
  .simpa using qT a v r
theorem Cn(a:Nat)(v:V):∀{fs:ab (Nat×V)},(fs.map (·.1)).Nodup->((kU a v fs).map (·.1)).Nodup/\∀b,b∈(kU a v fs).map (·.1)->b=a\/b∈fs.map (·.1):=by
 intro fs;induction fs with
 |nil=>intro _;exact⟨by simp[kU],by simp[kU]⟩|cons f r ih=>
  rcases f with⟨b,w⟩;intro h;rw[ar,a7]at h;obtain⟨i,g⟩:=ih h.2;unfold kU;by_cases e:b=a;.rw[aW e];refine⟨by rw[ar,a7];exact h,λc d=>?_⟩;exact .inr (by simpa using d)
  .rw[aZ e];refine⟨?_,λc d=>?_⟩;.
    rw[ar,a7];refine⟨λz=>?_,i⟩;rcases g b z with q|q;.exact e q
    .exact h.1 q
   .rw[ar]at d;rcases af.mp d with q|q;.exact .inr (by rw[q];simp)
    .rcases g c q with z|z;.exact .inl z
     .exact .inr (by simp at z⊢;exact .inr z)
theorem Ea:∀{fs:ab (Nat×V)}{b:V},b∈(kU k v fs).map (·.2)->b=v\/b∈fs.map (·.2):=by
 intro fs;induction fs with
 |nil=>exactλh=>.inl (kE h)|cons p r ih=>
  intro b h;have h:b∈(if p.1=k then(p.1,v)::r else(p.1,p.2)::kU k v r).map (·.2):=h;by_cases e:p.1=k;.rw[aW e]at h;exact(af.mp h).imp id λh=>.tail _ h
  .rw[aZ e]at h;exact(af.mp h).elim (λh=>.inr (h▸.head _)) λh=>(ih h).imp id λh=>.tail _ h
theorem yT(a:At w A n Y x J N O l)(r:Rv w x (.ins c i) u)(p:x.H[i]?=some (.ins fs))(B:(nm,k)∈gT)(rv:Rv w x v C)(Z:v.plain=true\/Y.wm<=i)(hz:fs.length<100)(q:∀y,At w A n Y y J N O l->Le Y.wm fP x y->y.H=x.H.set i (.ins (kU k v fs))->Q () y.s):aR (aP pw w) A (setAttr u nm C) Q E x.s:=a.inst (P:=λu=>aR (aP pw w) A (setAttr u nm C) Q E x.s) r p λb dx es m U g I M j R=>have K:=y7 w.params U;GH (wN (a.rel.top.keeps a.rel.sub)) I M K.st K.po (by unfold takerIn;rw[K.at_ _ _ B];rfl) K.hd (xx j) (j.length▸au (aaH hz) (by decide)) λh' t tk d T=>BC (a.vB (c:=.ins (kU k v fs)) p rfl g T ⟨_,d⟩ (λv' X=>(Ea X).elim (λe=>e▸Z.imp id .inr) λh=>.inr (.inl h)) (λy o e kp f=>⟨o,au (qT k v fs) hz,(Cn k v R.2).1,xA _ _ (e▸d) ((IB j B rv _ tk).mono λ_ _ q=>iL q λn1 t1 z1 z2 z3=>Dg n1 t1 z1 z2 (Rv.mono (x:=x) (y:=y) kp (λ_ _ z=>f▸z) z3))⟩) t) λy g L G d=>sZ (P:=λs=>Q () s) g (q y L G d)
end
section
variable{w:bO}
theorem AN(h:D.eqv a k=some true):jN k d ((a,e)::r)=some ((a,d)::r):=by show(match D.eqv a k with|some true=>some ((a,d)::r)|some false=>(jN k d r).map ((a,e)::·)|none=>none)=_;exact sY h rfl
theorem Bd(h:D.eqv a k=some false)(h':jN k d r=some b):jN k d ((a,e)::r)=some ((a,e)::b):=by show(match D.eqv a k with|some true=>some ((a,d)::r)|some false=>(jN k d r).map ((a,e)::·)|none=>none)=_;exact sY h (ah (cJ ((a,e)::·)) h')
theorem yC{K:Type}[bD K]{k q:K}{u v:al}{qs:ab (K×al)}(e:q=k)(n:q∉qs.map (·.1)):afm ((q,v)::qs) k u=(k,u)::qs:=by subst e;unfold afm;rw[aW (by simp),ar,aW rfl,map_store_of_not_mem qs q u n]
theorem CW{K:Type}[bD K]{k q:K}{u v:al}{qs:ab (K×al)}(n:¬q=k):afm ((q,v)::qs) k u=(q,v)::afm qs k u:=by unfold afm;rw[aeh,aC n,Bool.false_or,ar,aZ n];exact(apply_ite (List.cons (q,v)) _ _ _).symm
theorem yf{qs:ab (D×b5×al)}(e:q=k)(n:q∉qs.map (·.1)):aeA ((q,b,v)::qs) k a u=(k,b,u)::qs:=by subst e;rw[storedH_old (p:=(b,v)) (by simp[ae5]),ar,map_putAt_of_not_mem qs q u n,putAt,aW rfl]
theorem AG{qs:ab (D×b5×al)}(n:¬q=k):aeA ((q,b,v)::qs) k a u=(q,b,v)::aeA qs k a u:=by unfold aeA;rw[(show ae5 ((q,b,v)::qs) k=ae5 qs k from by unfold ae5;rw[cR,aC n]),ar,putAt,aZ n];exact(apply_ite (List.cons (q,b,v)) _ _ _).symm
theorem putK(i:wA k=true)(r:Rd w g d u)(z:eC (nJ w g) B j):(j.map (·.1)).Nodup->∃b,jN k d B=some b/\eC (nJ w g) b (afm j k u):=z.ind (λ_=>i12 [(k,d)] rfl (.cons ⟨rfl,i,r⟩ .nil)) λ{p q s A}e f ih o=>if c:p.1=k then i12 ((p.1,d)::s) (AN ((Ad (e.1▸e.2.1) i).trans (ah some (aE c)))) (sY (P:=λl=>eC (nJ w g) ((p.1,d)::s) l) (yC (e.1.symm.trans c) (a7.mp o).1) (.cons ⟨c,i,r⟩ f))else d9 (ih (a7.mp o).2) λl t y=>i12 ((p.1,p.2)::l) (Bd ((Ad (e.1▸e.2.1) i).trans (ah some (aC c))) t) (sY (P:=λm=>eC (nJ w g) ((p.1,p.2)::l) m) (CW λh=>c (e.1.trans h)) (.cons e y))
theorem S8(hs:k.sort=some .t)(C:Rd w g k (.ref E))(r:Rd w g d u)(A:eC (lI w g) B j):(j.map (·.1)).Nodup->∃b,jN k d B=some b/\eC (lI w g) b (aeA j k E u):=A.ind (λ_=>i12 [(k,d)] rfl (.cons ⟨rfl,hs,C,r⟩ .nil)) λ{p q s G}e f ih o=>have i:D.eqv p.1 k=some (decide (p.1=k)):=pC 6 60 (km (e.1▸e.2.1)) (km hs) (by decide);if c:p.1=k then i12 ((p.1,d)::s) (AN (i.trans (ah some (aE c)))) (sY (P:=λl=>eC (lI w g) ((p.1,d)::s) l) (yf (e.1.symm.trans c) (a7.mp o).1) (.cons ⟨c,hs,c▸e.1.symm▸e.2.2.1,r⟩ f))else d9 (ih (a7.mp o).2) λl y z=>i12 ((p.1,p.2)::l) (Bd (i.trans (ah some (aC c))) y) (sY (P:=λm=>eC (lI w g) ((p.1,p.2)::l) m) (AG λh=>c (e.1.trans h)) (.cons e z))
end
theorem yb:∀{B c:ab (D×D)},jN k v B=some c->c.length<=B.length+1:=by intro B;induction B with|nil=>exactλh=>so h (aV _)|cons p r ih=>intro c h;have h:(match D.eqv p.1 k with|some true=>some ((p.1,v)::r)|some false=>(jN k v r).map ((p.1,p.2)::·)|none=>none)=some c:=h;revert h;generalize D.eqv p.1 k=o;induction o using cC with|none=>exactλh=>ec h|some b=>induction b using aY with|false=>exactλh=>kg h λe d z=>z▸aby (ih d)|true=>exactλh=>so h (dp _)
theorem VO{h:Heap}(d:h.DictOf (sK w) a l):(l.map (·.1)).Nodup:=Sy d λ_ _ _ _ _ _ _ _ n=>n
theorem WX{h:Heap}(d:h.DictOfH (dK w) a l):(l.map (·.1)).Nodup:=Sy d λ_ _ _ _ _ _ _ _ n=>n
section
variable{w:bO}{n:Nat}{x y:Sx}{wm:Nat}{P:b5->Prop}{A:bI}{E:al->aM->Prop}{Y:Cx}{J:Env}{N:b7}{O:ab Str}{l:Loc}
set_option tactic.hygienic true in theorem At.DS(a:At w A n Y x J N O l){i:Nat}{b:b5}{B Ex:ab (D×D)}{h':Heap}{Q:agO->aM->Prop}(hi:x.H[i]?=some (.eJ B false))(hb:x.φ[i]?=some b)(hs:Heap.SameBut b x.s.heap h')(hz:Ex.length<=big)(hd:fe w x.g h' b Ex)(t:Nat)(q:∀y,At w A n Y y J N O l->Le Y.wm fP x y->y.H=x.H.set i (.eJ Ex false)->Q () y.s):Q () {x.s with heap:=h',toks:=t}:=by have C:=a.rel.cell i _ b hi hb;exact BC (a.vB (c:=.eJ Ex false) hi rfl hb hs (d9 hd.exact λo h _=>⟨o,h⟩) (λ_ hv=>kr hv) (λy o e k _=>⟨C.1,hz,o,(e▸hd:fe w x.g y.s.heap b Ex).keeps k λ_ e=>e⟩) t) λy e1 a1 L1 g1=>sZ (P:=λs=>Q () s) e1 (q y a1 L1 g1)
theorem zf(a:At w A n Y x J N O l)(M:x.H[i]?=some (.eJ B false))(L:x.φ[i]?=some b)(hz:B.length<big)(hs:(k.sort.any λq=>eg q B)=true)(p:Rd w x.g k T)(r:Rd w x.g d u)(R:jN k d B=some c)(q:∀y,At w A n Y y J N O l->Le Y.wm fP x y->y.H=x.H.set i (.eJ c false)->Q () y.s):aR (aP pw w) A (setItem (.ref b) T u) Q E x.s:=by
 refine(let γ:Prop:=_;(?_:γ));refine pn (a.nt M L) λc1 c2 U=>?_;have m:c.length<=big:=by have:=yb R;lia
 have o:B.length<=bg:=au (aaH hz) kV;exact pd hs (λe hs=>d9 (U.Qy hs) λh f j=>d9 (putK (k:=k) e r j (VO f)) λZ t z=>wpAny_setItem_pairs (knd:=sK w) (k:=k) (rP e p) f (λX C I=>a.DS M L I m (.k C (sI (t.symm.trans R)▸z)) _ q) (j.length▸o)) λe hs=>d9 (U.TH hs a.rel.sub) λh f j=>oV (G:=λT=>aR (aP pw w) A (setItem (.ref b) T u) Q E x.s) e p λkb p=>d9 (S8 (k:=k) e p r j (WX f)) λZ t z=>wpAny_setItem_heap (knd:=dK w) a.rD ⟨e,p.keeps a.rel.sub⟩ f (λX C I=>a.DS M L I m (.zl C (sI (t.symm.trans R)▸z)) _ q) (j.length▸o)
inductive Ii(w:bO)(y:Sx):Fl->Flow->Prop|er:Ii w y .er .next|cnt:Ii w y .cnt .cont|brk:Ii w y .brk .brk|ret{v:V}{u:al}:Rv w y v u->Ii w y (.ret v) (.ret u)
noncomputable def kZ(w:bO)(n:Nat)(m:MS)(N:b7)(O:ab Str)(code:Env->Sem Flow):Prop:=∀{A:bI}{E:al->aM->Prop}{Y:Cx}{x:Sx}{J:Env}{l l':Loc}{f:Fl}{b:Hp}{Q:Flow->aM->Prop},At w A n Y x J N O l->m Y l x.H=some (f,l',b)->(∀y c,At w A n Y y J N O l'->Le Y.wm (jL J) x y->y.H=b->Ii w y f c->Q c y.s)->aR (aP pw w) A (code J) Q E x.s
theorem Le.qV(h:Le wm fP x y):Le wm (jL J) x y:=h.weak λ_ z=>z.elim
theorem zF{code:Env->Sem Flow}:kZ w n Ac N O code:=by intro A E Y x J l c f b Q a e q;exact ec e
theorem vk(f:∀a b c d,aaS (.ListComp a b c d) t B J=pure false)(hs:∀a b c d,aaS (.SetComp a b c d) t B J=pure false)(hd:∀a b c d e,aaS (.DictComp a b c d e) t B J=pure false)(v:PySem.Expr):aaS v t B J=pure false:=by cases v<;>first|exact f _ _ _ _|exact hs _ _ _ _|exact hd _ _ _ _ _|rfl
theorem Jz{x:D}{G:V->Hp->Prop}(h:II k x v H=some d)(c:∀i B b,H[i]?=some (.eJ B false)->((k.sort.any λk=>eg k B)=true/\B.length<big)->jN k x B=some b->G (.ref i) (H.set i (.eJ b false))):G v d:=by induction v using V.casesOn with|ref i=>exact jX (P:=λo=>H[i]?=o->T7 k x i H o=some d->G (.ref i) d) H[i]? (λ_ h=>ec h) (λ_ _ _ h=>ec h) (λB f=>aY (motive:=λf=>H[i]?=some (.eJ B f)->T7 k x i H (some (.eJ B f))=some d->G (.ref i) d) f (λj h=>if1 h λg h=>kg h λb m e=>e▸c i B b j g m) λ_ h=>ec h) (λ_ _ h=>ec h) rfl h|_=>exact ec h
theorem Lb{G:V->Hp->Prop}(h:MW wm d a v H=some b)(c:∀cl i fs,H[i]?=some (.ins fs)->(d.plain=true\/wm<=i)->fs.length<100->G (.ins cl i) (H.set i (.ins (kU a d fs)))):G v b:=by induction v using V.casesOn with|ins cl i=>exact jX (P:=λo=>H[i]?=o->UY wm d a i H o=some b->G (.ins cl i) b) H[i]? (λ_ h=>ec h) (λ_ _ _ h=>ec h) (λ_ _ _ h=>ec h) (λfs f h=>if1 h λe h=>so h (c cl i fs f ((dm.mp (bX.mp e).1).imp id aT) (aT (bX.mp e).2))) rfl h|_=>exact ec h
theorem CE(ho:eo w n mo N O (λJ=>cE o J))(hk:eo w n mk N O (λJ=>cE k J))(hv:eo w n mv N O (λJ=>cE v J)):kZ w n (Er mo mk mv) N O (λJ=>adP (.Assign [.Subscript o k p'] v p) J):=by intro A E Y x J l h f M Q a e q;refine(let L:Prop:=_;(?_:L));refine jV e λd X k1 e=>jV e λvo H2 k2 e=>jV e λdk H3 k3 e=>kg e λj k4 e6=>?_;refine wpAny_Assign_Subscript (eo.dat hv a .refl k1 λy1 u1 a1 L1 _ g1 r1=>?_) (vk (λ_ _ _ _=>rfl) (λ_ _ _ _=>rfl) (λ_ _ _ _ _=>rfl) v);refine eo.on ho a1 L1 ((sY g1 k2)) λy2 u2 a2 L2 m g2 r2=>?_;refine eo.dat hk a2 L2 ((sY g2 k3)) λg u3 a3 L3 c T r3=>?_;refine(let L:Prop:=_;(?_:L));have fin:∀z,At w A n Y z J N O l->Le Y.wm fP g z->z.H=j->Q .next z.s:=λz C t I=>sQ (P:=λf h M=>(∀y R,At w A n Y y J N O h->Le Y.wm (jL J) x y->y.H=M->Ii w y f R->Q R y.s)->Q .next z.s) (ah some e6) (λq=>q z _ C (L3.trans t).qV I .er) q;exact Jz (G:=λvo j=>Rv w g vo u2->(∀z,At w A n Y z J N O l->Le Y.wm fP g z->z.H=j->Q .next z.s)->aR (aP pw w) A (setItem u2 u3 u1) (λ_=>Q .next) E g.s) k4 (λi B Z hi U hp r fin=>tf r λb hb=>zf a3 (sY T hi) hb U.2 U.1 r3 (r1.keeps (m.trans c).gk) hp λz C t I=>fin z C t (T▸I)) (r2.le c) fin
theorem uJ(ho:eo w n mo N O (λJ=>cE o J))(hv:eo w n mv N O (λJ=>cE v J))(hm:(nm,k)∈gT):kZ w n (Bu mo k mv) N O (λJ=>adP (.Assign [.Attribute o nm p'] v p) J):=by intro A E Y x J l L f B Q a e q;refine(let t:Prop:=_;(?_:t));refine jV e λv1 X k1 e=>jV e λR H2 k2 e=>kg e λc k4 e6=>?_;refine plainObj_wpAny_Assign_Attribute (hv a k1 λy1 u1 Z T g1 r1=>?_) (vk (λ_ _ _ _=>rfl) (λ_ _ _ _=>rfl) (λ_ _ _ _ _=>rfl) v);refine eo.on ho Z T ((sY g1 k2)) λb M h U d I r2=>?_;refine(let t:Prop:=_;(?_:t));have fin:∀z,At w A n Y z J N O l->Le Y.wm fP b z->z.H=c->Q .next z.s:=λz j g m=>sQ (P:=λf L B=>(∀y C,At w A n Y y J N O L->Le Y.wm (jL J) x y->y.H=B->Ii w y f C->Q C y.s)->Q .next z.s) (ah some e6) (λq=>q z _ j (U.trans g).qV m .er) q;exact Lb (G:=λR c=>Rv w b R M->(∀z,At w A n Y z J N O l->Le Y.wm fP b z->z.H=c->Q .next z.s)->aR (aP pw w) A (setAttr M nm u1) (λ_=>Q .next) E b.s) k4 (λcl i fs hi hc hz r fin=>yT h r (sY I hi) hm (r1.le d) hc hz λz j g m=>fin z j g (I▸m)) r2 fin
end
section
variable{w:bO}{n:Nat}{x y z:Sx}{wm:Nat}{P P':b5->Prop}{A:bI}{E:al->aM->Prop}{Y:Cx}{J:Env}{N:b7}{O:ab Str}{l:Loc}
theorem Le.D7(h:Le wm P x y)(p:∀b,P b->x.s.heap.get? b=none):Le wm P' x y:=⟨h.gk,h.gn,λb o e n _=>h.keep b o e n (λz=>by rw[p b z]at e;exact ec e),h.DN,h.mu,h.refs,h.live,h.os⟩
set_option tactic.hygienic true in noncomputable def Off(x y:Sx)(b:b5):Prop:=x.s.heap.get? b=none/\y.g.get? b=none/\¬y.mu b
theorem Le.off(L:Le wm P x y)(S:Rel w y){Z:b5->Prop}(hz:∀b,Z b->Off x y b)(k:∀b o,¬Z b->y.s.heap.get? b=some o->s'.heap.get? b=some o)(q:s'.gens=#[])(ho:s'.os=y.s.os):Rel w ⟨y.g,y.φ,y.H,s'⟩/\Le wm P x ⟨y.g,y.φ,y.H,s'⟩:=by
 refine⟨⟨λb o e=>k b o (λz=>by rw[(hz b z).2.1]at e;exact ec e) (S.sub b o e),S.top,S.len,λi c a d f=>?_,S.inj,q⟩,?_⟩;.exact fY.keeps (x:=y) (y:=⟨y.g,y.φ,y.H,s'⟩) (λ_ _ e=>e) (λ_ _ e=>e) (λn _=>n) (λhm o e=>k _ _ (λz=>(hz _ z).2.2 ⟨i,c,d,hm,f⟩) e) (S.cell i c a d f)
 .refine⟨L.gk,L.gn,λb o e n p=>k b o (λz=>by rw[(hz b z).1]at e;exact ec e) (L.keep b o e n p),L.DN,L.mu,L.refs,λb o e=>?_,ho.trans L.os⟩;obtain⟨j,m⟩:=L.live b o e;exact⟨j,k b j (λz=>by rw[(hz b z).1]at e;exact ec e) m⟩
theorem fU.off(X:fU w y J N O l){Z:b5->Prop}(hz:∀b,Z b->¬jL J b)(k:∀b o,¬Z b->y.s.heap.get? b=some o->s'.heap.get? b=some o):fU w ⟨y.g,y.φ,y.H,s'⟩ J N O l:=by
 refine d9 (X.loc) λm hm B=>?_;have hc:∀p∈J.cells,¬Z p.2:=λp q z=>hz _ z (.inr ⟨p,q,rfl⟩);refine⟨X.scope,X.kind,X.globals,X.builtins,X.len,⟨m,hm.at' λo e=>k _ _ (λz=>hz _ z (.inl rfl)) e,λnm i v a b c=>let⟨u,f,j⟩:=B nm i v a b c;⟨u,f,j.same⟩⟩,λnm i f j=>?_,X.apart,X.mT,λp q=>?_⟩;.refine(let t:Prop:=_;(?_:t));refine iL (X.cell nm i f j) λc r a b d=>?_;refine d9 (b) λo ho hd=>?_;exact jR c r ⟨a,⟨o,k _ _ (hc _ (mem_of_lookup a)) ho,hd⟩,λv e=>let⟨u,f,j⟩:=d v e;⟨u,f,j.same⟩⟩
 .refine(let t:Prop:=_;(?_:t));obtain⟨C,G,I,r,o,ho,hd⟩:=X.ie p q;exact⟨C,G,I,r,o,k _ _ (hc p q) ho,hd⟩
theorem fU.live(X:fU w x J N O l)(h:jL J b):∃o,x.s.heap.get? b=some o:=by
 refine(let e:Prop:=_;(?_:e));rcases h with rfl|⟨p,c,rfl⟩;.refine d9 (X.loc) λm d _=>?_;refine SY (d) λo _ _ ho _=>?_;exact⟨o,ho⟩
 .obtain⟨_,_,_,f,o,ho,_⟩:=X.ie p c;exact⟨o,ho⟩
theorem fU.not(X:fU w x J N O l)(h:x.s.heap.get? b=none):¬jL J b:=λq=>by obtain⟨o,ho⟩:=X.live q;rw[h]at ho;exact ec ho
theorem Off.le(h:Off x y b)(e:y.s.heap.get? b=some o)(L:Le wm P y z):Off x z b:=⟨h.1,L.out e h.2.1 h.2.2⟩
theorem Off.new(L:Le wm P x y)(S:Rel w y)(h:y.s.heap.get? b=none)(k:∀b o,y.s.heap.get? b=some o->s'.heap.get? b=some o):Off x (y.grow s' []) b:=by
 refine⟨L.fresh h,?_,?_⟩;.cases e:(kj s'.heap y.g []).get? b with|none=>exact e|some o=>cases q:y.g.get? b with|none=>have:=gK e q;exact kr this|some m=>have:=S.sub _ _ q;rw[h]at this;exact ec this
 .rintro⟨i,c,f,j,d⟩;obtain⟨o,ho⟩:=S.live d;rw[h]at ho;exact ec ho
noncomputable def Br(w:bO)(N:b7)(O:ab Str)(S:Str->Prop)(M:Env->b5->Prop):Prop:=∀{A:bI}{E:al->aM->Prop}{wm:Nat}{x:Sx}{J:Env}{l:Loc}{nm:Str}{i:Nat}{v:V}{u:al}{Q:agO->aM->Prop},Rel w x->fU w x J N O l->ey O nm=some i->S nm->Rv w x v u->(∀y,Rel w y->Le wm (M J) x y->y.H=x.H->fU w y J N O (l.set i (some v))->Q () y.s)->aR (aP pw w) A (storeName J nm u) Q E x.s
theorem uS:Br w N O (λnm=>g0 N nm=true) jL:=λR X b c d q=>mS R X b c d q
theorem zC:Br w N O (GA N) (λJ b=>b=J.locals):=λR X c d e q=>uE R X c d e q
variable{S:Str->Prop}{M:Env->b5->Prop}
theorem Kk{G:PySem.Expr->Prop}(h:Nb O e=some i)(k:∀nm p,ey O nm=some i->G (.Name nm p)):G e:=by cases e<;>first|exact ec h|exact k _ _ h
theorem D5{G:PySem.Expr->Tg->Prop}(h:qa O e=some t)(k:∀nm p i,ey O nm=some i->G (.Name nm p) (.one i))(m:∀es c p I,es.mapM (Nb O)=some I->G (.Tuple es c p) (.many I)):G e t:=by cases e<;>first|exact ec h|exact kg (show(ey O _).map Tg.one=some t from h) λi h e=>e▸k _ _ i h|exact kg (show(List.mapM (Nb O) _).map Tg.many=some t from h) λi h e=>e▸m _ _ _ i h
theorem ym{G:PySem.Expr->ab Nat->Prop}(h:(e::es).mapM (Nb O)=some I)(k:∀nm p i b,ey O nm=some i->es.mapM (Nb O)=some b->G (.Name nm p) (i::b)):G e I:=by rw[List.mapM_cons]at h;exact xh h λi c h=>xh h λb d h=>so h (Kk (G:=λe=>G e (i::b)) c λnm p c=>k nm p i b c d)
theorem RB(st:Br w N O S M){es:ab PySem.Expr}:∀{I:ab Nat}{Z:ab D}{U:ab al}{l l':Loc}{x:Sx}{A:bI}{E:al->aM->Prop}{Q:agO->aM->Prop},Rel w x->fU w x J N O l->es.mapM (Nb O)=some I->(∀e∈es,∀nm p,e=.Name nm p->S nm)->fi w x.g Z U->iT I Z l=some l'->(∀y,Rel w y->Le wm (M J) x y->y.H=x.H->fU w y J N O l'->Q () y.s)->aR (aP pw w) A (assignInOrder ((aaQ es J).map (·.2)) U) Q E x.s:=by
 induction es with
 |nil=>intro I Z U l l' x A E Q R X e hs r h q;revert h;refine so e λh=>?_;induction Z using aS with|nil=>exact H0 r (wpAny_assignInOrder_none (q x R .refl rfl (sI h▸X)))|cons _ _=>exact ec h
 |cons b es ih=>intro I Z U l l' x A E Q R X e hs r h q;revert hs h;refine ym (G:=λb I=>(∀e∈b::es,∀nm p,e=.Name nm p->S nm)->iT I Z l=some l'->aR (aP pw w) A (assignInOrder ((aaQ (b::es) J).map (·.2)) U) Q E x.s) e λnm p i js L T hs h=>?_;induction Z using aS with|nil=>exact ec h|cons d Z=>exact GG r λv B r rs=>wpAny_assignInOrder_more (abk (st (wm:=wm) R X L (hs _ aF nm p rfl) (.d r) λy j c t m=>ih j m T (λe a=>hs e (ax _ a)) (rs.keeps c.gk) h λz k f C o=>q z k (c.trans f) (C.trans t) o))
theorem sM(J:Env):∀{es:ab PySem.Expr}{I:ab Nat},es.mapM (Nb O)=some I->(aaQ es J).length=I.length/\(aaQ es J).findIdx? (·.1)=none:=by intro es;induction es with|nil=>exactλe=>so e ⟨rfl,rfl⟩|cons b es ih=>intro I e;refine ym (G:=λb I=>(aaQ (b::es) J).length=I.length/\(aaQ (b::es) J).findIdx? (·.1)=none) e λf p i d _ c=>⟨ah (· +1) (ih c).1,?_⟩;show((false,_)::aaQ es J).findIdx? (·.1)=none;rw[List.findIdx?_cons,(ih c).2];rfl
theorem yZ:∀{Z:ab D}{l l':Loc},iT I Z l=some l'->I.length=Z.length:=by induction I with|nil=>exactλ{Z}=>aS Z (λ_=>rfl) λ_ _ h=>ec h|cons i I ih=>exactλ{Z}=>aS Z (λh=>ec h) λ_ _ h=>ah (· +1) (ih h)
theorem HC(st:Br w N O S M)(hh:A.handled=none)(R:Rel w x)(X:fU w x J N O l)(ht:qa O tg=some t)(hs:∀nm∈ej tg,S nm)(r:Rd w x.g d u)(h:hO t d l=some l')(q:∀y,Rel w y->Le wm (M J) x y->y.H=x.H->fU w y J N O l'->Q () y.s):aR (aP pw w) A (afi tg J u) Q E x.s:=by
 revert hs h;refine D5 (G:=λtg t=>(∀nm∈ej tg,S nm)->hO t d l=some l'->aR (aP pw w) A (afi tg J u) Q E x.s) ht (λnm p i f hs h=>?_) λes k p I f hs h=>?_;.exact abk (st R X f (hs nm (.head _)) (.d r) (sI h▸q))
 .induction d using D.casesOn with|tup Z=>refine lB r λa U g1 j m g4=>lK (sM J f) λT e2=>wpAny_assign_Tuple hh (g1.imp λo=>cQ (R.sub _ _)) (T.trans ((yZ h).trans m.sz)) e2 λc hx=>?_;have k:∀b o,x.s.heap.get? b=some o->c.get? b=some o:=λb o e=>hx b o (ct (Heap.lt_size e)) e;have g:∀P,Rel w (x.grow {x.s with heap:=c} [])/\Le wm P x (x.grow {x.s with heap:=c} []):=λP=>iE (s':={x.s with heap:=c}) (as:=[]) R k R.gens rfl (λ_ hb=>kr hb);exact RB (x:=x.grow {x.s with heap:=c} []) st (g fP).1 (X.Up (g fP).2) f (λe he nm p' ee=>hs nm (List.mem_filterMap.mpr ⟨_,he,ee▸rfl⟩)) (m.keeps (g fP).2.gk) h λy C B j L=>q y C ((g _).2.trans B) j L|_=>exact ec h
end
section
variable{w:bO}{n:Nat}{x y z:Sx}{wm:Nat}{P P':b5->Prop}{A:bI}{E:al->aM->Prop}{Y:Cx}{J:Env}{N:b7}{O:ab Str}{l:Loc}
structure tF(w:bO)(A:bI)(x y:Sx)(I:b5)(B:ab D)(fp:ab b5)(Pi:Nat->al->Prop)(St:Nat->Heap->Prop):Prop where
 walk:Walks pw w A I fp [I] B.length Pi St
 st:St 0 y.s.heap
 off:Off x y I
 live:∀i h,St i h->∃o,h.get? I=some o
 YZ:∀b∈fp,b=I\/∃o,y.g.get? b=some o
 item:∀i v,i<B.length->Pi i v->∃d,B[i]?=some d/\Rd w y.g d v
 go:∀i(s:aM)tg v(Q:agO->aM->Prop)(E:al->aM->Prop),St i s.heap->Q () s->aR (aP pw w) A (abG tg (.ref I) v) Q E s
noncomputable def xU(w:bO)(n:Nat)(m:MI)(N:b7)(O:ab Str)(code:Env->Sem al):Prop:=∀{A:bI}{E:al->aM->Prop}{Y:Cx}{x:Sx}{J:Env}{l:Loc}{B:ab D}{b:Hp}{Q:al->aM->Prop},At w A n Y x J N O l->m Y l x.H=some (B,b)->(∀y I c Pi St,At w A n Y y J N O l->Le Y.wm fP x y->y.H=b->B.length<=bg->tF w A x y I B c Pi St->Q (.ref I) y.s)->aR (aP pw w) A (code J) (λe d=>aR (aP pw w) A (pyIter e) Q E d) E x.s
noncomputable def vW:ab dA:=["enumerate","zip","dict_itemiterator","dict_reverseitemiterator","odict_iterator","itertools.zip_longest","itertools.pairwise"]
theorem Iu(d:s.heap.get? I=some o)(c:o.cls=.type T)(b:vW.contains T=false)(h:Q () s):aR (aP pw w) A (abG tg (.ref I) v) Q E s:=by
 have go:∀{a:b5},aR (aP pw w) A (do let o←load I;match o.cls,o.data with|.type n,.fields U=>if vW.contains n&&U[0]?==some (rawInt a)then rule "for.unpacks-the-owned-tuple";updateField I 0 .none|_,_=>pure ():Sem agO) Q E s:=by intro a;refine aB (wpAny_load d ?_);refine sY c ?_;cases o.data<;>first|exact aQ h|(dsimp only;rw[b,Bool.false_and,aZ cH];exact aQ h)
 rcases tg with⟨⟩<;>first|exact aQ h|(rcases v with⟨⟩<;>first|exact aQ h|exact go)
theorem u4(a:At w A n Y y J N O l)(L:Le Y.wm fP x y)(hf:o.isFreed=false)(T:vW.contains IT=false){St:Nat->Heap->Prop}(Z:Walks pw w A y.sz j [y.sz] B.length Pi St)(st:St 0 (y.s.heap.push o))(t:∀i h,St i h->∃o,h.get? y.sz=some o/\o.cls=.type IT)(m:∀b∈j,b=y.sz\/∃o,y.g.get? b=some o)(hz:B.length<=bg)(c:∀i v,i<B.length->Pi i v->∃d,B[i]?=some d/\Rd w y.g d v){Q:al->aM->Prop}(q:∀z I j Pi St,At w A n Y z J N O l->Le Y.wm fP x z->z.H=y.H->B.length<=bg->tF w A x z I B j Pi St->Q (.ref I) z.s):Q (.ref y.sz) {y.s with heap:=y.s.heap.push o}:=have r:∀b C,y.s.heap.get? b=some C->(y.s.heap.push o).get? b=some C:=λ_ _ e=>Heap.get?_push_of_some _ e;lK (iE (wm:=Y.wm) (P:=fP) (s':={y.s with heap:=y.s.heap.push o}) (as:=[]) a.rel r a.rel.gens rfl (λ_ k=>kr k)) λS f=>q _ y.sz j Pi St (a.step S f) (L.trans f) rfl hz ⟨Z,st,Off.new L a.rel ja r,λi h s=>d9 (t i h s) λo h _=>⟨o,h⟩,λb k=>(m b k).imp id λh=>h.imp λo=>f.gk b o,λi v U p=>d9 (c i v U p) λd G M=>i12 d G (M.keeps f.gk),λi s tg v Q' E' st h=>d9 (t i _ st) λo X R=>Iu X R T h⟩
theorem Eo(a:At w A n Y y J N O l)(L:Le Y.wm fP x y)(r:CZ w y.g B u)(q:∀z I C Pi St,At w A n Y z J N O l->Le Y.wm fP x z->z.H=y.H->B.length<=bg->tF w A x z I B C Pi St->Q (.ref I) z.s):aR (aP pw w) A (pyIter u) Q E y.s:=jt r λad U R c t m=>have p:∃o,y.g.get? ad=some o:=c.elim (λh=>h.imp λ_ h=>h.1) λh=>h.imp λ_ h=>h.1;have k:ad≠y.sz:=p.elim λo M=>ct (Heap.lt_size (a.rel.sub _ _ M));have f:∀i v,i<B.length->U[i]?=some v->∃d,B[i]?=some d/\Rd w y.g d v:=λi v _ e=>m.get' (dF.trans e);have j:∀b∈[y.sz,ad],b=y.sz\/∃o,y.g.get? b=some o:=λb G=>(QI G).imp id λ(e:b=ad)=>e▸p;R▸c.elim (λc=>wpAny_pyIter_tuple (a.tup c) (u4 a L rfl (by decide) (m.sz▸Walks.tuple a.room.hh y.sz ad k U) ⟨⟨_,Heap.get?_push_size _ rfl,rfl,rfl⟩,(a.tup c).push _⟩ (λi h s=>s.1.imp λo h=>⟨h.1,h.2.1⟩) j (m.sz▸t) f q)) λc=>acE (a.lst c) (u4 a L rfl (by decide) (m.sz▸ahH a.room.hh y.sz ad k U) ⟨⟨_,Heap.get?_push_size _ rfl,rfl,rfl⟩,(a.lst c).push _⟩ (λi h s=>s.1.imp λo h=>⟨h.1,h.2.1⟩) j (m.sz▸t) f q)
theorem Gs{code:Env->Sem al}(h:eo w n m N O code):xU w n (N2 m) N O code:=by intro A E Y x J l B T Q a e q;refine jV e λv X s t=>?_;refine h a s λy u c f o C=>?_;refine Ri (B3 (wm:=Y.wm) (P:=fP) c.rel C ((sY o t))) λz H L d M R=>?_;simp only[←H];exact Eo (c.step L d) (f.trans d) R λG I k i St j g p b r=>q G I k i St j g (p.trans M) b r
theorem yI{code:Env->Sem al}:xU w n (λ_ _ _=>none) N O code:=by intro A E Y x J l B b Q a e q;exact ec e
theorem BL(hs:noStar (c::es)=true)(a:At w A n Y x J N O l)(p:Keeps i w x.g)(k:aR (aP pw w) A (aej (aa5 j (c4 (c::es) J))) (λr s'=>(∀b o,x.g.get? b=some o->s'.heap.get? b=some o)/\aR (aP pw w) A (PySem.call i (d++r)) Q E s') E x.s):aR (aP pw w) A (callWith j i d (aa5 j (c4 (c::es) J)) []) Q E x.s:=by
 have q:∀{es:ab PySem.Expr},noStar es=true->(aa5 j (c4 es J)).any (·.1)=false:=by intro es;induction es with|nil=>intro _;rfl|cons e es ih=>intro hs;obtain⟨f,mN⟩:=gR hs J;rw[f];show(false||(aa5 j (c4 es J)).any (·.1))=false;rw[ih mN];rfl
 refine callWith_of (P:=λh=>∀b o,x.g.get? b=some o->h.get? b=some o) (by rw[q hs];rfl) (λh m=>p h m) ?_;obtain⟨f,mN⟩:=gR hs J;rw[f]at k⊢;exact evalArgs_plain k
theorem r8{id:dA}:Keeps (.type id) w g:=λh _=>⟨.machine,.inr (.inl rfl),Looks.now⟩
theorem wt(h:0<=k):abl 0 k 1=k:=by rw[rangeSize_one];split<;>lia
theorem B9{x:D}(h:sO x H=some r):∃k,x=.int k/\(0<=k/\k<2^20)/\((bz k.toNat).map λ(i:Nat)=>D.int (i:Int),H)=r:=i4 (P:=λx=>∃k,x=.int k/\(0<=k/\k<2^20)/\((bz k.toNat).map λ(i:Nat)=>D.int (i:Int),H)=r) h λk h=>if1 h λb h=>Ps k rfl b (sI h)
theorem At.YD(a:At w A n Y y J N O l)(k:∀b o,y.s.heap.get? b=some o->s'.heap.get? b=some o)(c:s'.gens=#[])(ho:s'.os=y.s.os){G:aM->Prop}(κ:∀z,z.s=s'->At w A n Y z J N O l->Le Y.wm fP y z->z.H=y.H->G z.s):G s':=lK (iE (wm:=Y.wm) (P:=fP) (s':=s') (as:=[]) a.rel k c ho (λ_ hb=>kr hb)) λS L=>κ (y.grow s' []) rfl (a.step S L) L rfl
theorem yV(h:0<=k):abl 0 k 1=(k.toNat:Int)-(0:Nat):=(wt h).trans (by lia)
theorem Fs(h:0<=k/\k<2^20):agv 0 k 1=true:=small_one (by decide) (by decide) (by lia) (afy h.2 (by decide))
theorem Hr{k:Int}(h:0<=k/\k<2^20):((bz k.toNat).map λ(i:Nat)=>D.int (i:Int)).length<=bg:=by rw[ak,abj];exact au (show k.toNat<=big from by unfold big;lia) kV
theorem zW(h:eo w n m N O (λJ=>cE e J))(hs:noStar [e]=true)(hg:jc N nm=true)(hn:nm=aa "range"):xU w n (yH m) N O (λJ=>cE (.Call (.Name nm p') [e] [] p) J):=by
 intro A E Y x J l B H' Q a r q;refine(let γ:Prop:=_;(?_:γ));refine jV r λd X k1 r=>j7 (B9 r) λk z L C=>?_;subst hn;refine dE (FT a hg (yU _) (Dl _) (BL hs a r8 ?_));have M:Lf ([e].map λ_=>m) Y l x.H=some ([.int k],X):=(ah (ck · _) ((show d=D.int k from z)▸k1)).trans rfl;refine jF (f:=λ_=>m) (λe' he=>kE he▸h) hs a .refl M λy us c U _ g1 R=>⟨λb o z=>c.rel.sub _ _ (U.gk _ _ z),?_⟩;refine GG R λu us R r2=>H0 r2 (i5 R λt=>call_range_1 ?_);refine c.YD (G:=λs=>aR (aP pw w) A (pyIter (.ref y.s.heap.objs.size)) Q E s) ?_ ?_ ?_ λz ez a2 L2 g2=>?_;.exactλ_ _ e=>Heap.get?_push_of_some _ e
 .exact c.rel.gens
 .rfl
 have IR:IsRange z.s.heap y.s.heap.objs.size 0 k 1 y.s.toks t (y.s.toks+1):=ez▸IsRange.new ..;refine wpAny_pyIter_range IR (Fs L) (yV L.1▸?_);have Z:((bz k.toNat).map λ(i:Nat)=>D.int (i:Int)).length=k.toNat:=(ak _).trans abj;exact u4 (IT:="range_iterator") (Pi:=λi v=>∃t,v=.int (0+(i:Nat)*1) t) (St:=λi h=>IsRangeIter h z.sz (0+(i:Nat)*1) ((k.toNat:Int)-(i:Nat)) 1) a2 (U.trans L2) rfl (by decide) (Z.symm▸Walks.range a.room.hh z.sz 0 1 k.toNat) (Heap.get?_push_size _ rfl) (λi h s=>⟨_,s,rfl⟩) (λb hb=>.inl (kE hb)) (Hr L) (λi v hi p=>p.elim λt e=>i12 (.int i) (by rw[bV,List.getElem?_range (Z▸hi)];rfl) (sY (P:=λv=>Rd w z.g (.int i) v) e (sY (P:=λj=>Rd w z.g (.int i) (.int j t)) (show(0+(i:Int)*1)=(i:Int)by lia) (.int _ _)))) λz I fp Pi St a3 L3 g3 hz T=>q z I fp Pi St a3 L3 (g3.trans (g2.trans (g1.trans (pJ C).2))) ((pJ C).1▸hz) ((pJ C).1▸T)
end
section
variable{w:bO}{n:Nat}{x y z:Sx}{wm:Nat}{P P':b5->Prop}{A:bI}{E:al->aM->Prop}{Y:Cx}{J:Env}{N:b7}{O:ab Str}{l:Loc}
theorem At.VP(a:At w A n Y x J N O l)(k:∀b o,x.s.heap.get? b=some o->s'.heap.get? b=some o)(d:s'.gens=#[])(ho:s'.os=x.s.os){Q:al->aM->Prop}(h:x.H=c)(r:Rv w x v u)(q:∀y u,At w A n Y y J N O l->Le Y.wm fP x y->y.H=c->Rv w y v u->Q u y.s):Q u s':=by obtain⟨S,L⟩:=iE (wm:=Y.wm) (P:=fP) (s':=s') (as:=[]) a.rel k d ho (λb hb=>by simp at hb);exact q _ _ (a.step S L) L h (r.le L)
theorem Off.EI(R:Rel w y)(h:Off x y b){i:Nat}:y.φ[i]?≠some b:=by intro e;have c:i<y.H.length:=R.len▸(aG.mp e).1;have hc:y.H[i]?=some y.H[i]:=aw c;exact if hm:y.H[i].BW=true then h.2.2 ⟨i,_,hc,hm,e⟩else(fY.data (R.cell i _ b hc e) hm).elim λo ho=>TL (ho.symm.trans h.2.1)
theorem uv(L:Le wm P x y)(R:Rel w y){D:b5}(h:Off x y D):∃f,f.s=y.s/\f.H=y.H/\Rel w f/\Le wm P x f/\(∀b o,y.g.get? b=some o->f.g.get? b=some o)/\(∀o,y.s.heap.get? D=some o->f.g.get? D=some o)/\f.φ=y.φ/\∀b,b≠D->y.g.get? b=none->f.g.get? b=none:=by
 have d:∀b o,y.g.get? b=some o->(kj y.s.heap y.g [D]).get? b=some o:=i3 R.sub;refine i12 ⟨kj y.s.heap y.g [D],y.φ,y.H,y.s⟩ rfl ⟨rfl,⟨oM,R.top.keeps d,R.len,λi c a k m=>?_,R.inj,R.gens⟩,⟨λb o e=>d b o (L.gk b o e),λb o e n=>?_,L.keep,L.DN,L.mu,L.refs,L.live,L.os⟩,d,λo e=>jE ((.head _)) e,rfl,λb p n=>?_⟩;.refine fY.keeps (x:=y) (y:=⟨kj y.s.heap y.g [D],y.φ,y.H,y.s⟩) d (λ_ _ e=>e) (λn r=>?_) (λ_ o e=>e) (R.cell i c a k m);clear k;cases e:(kj y.s.heap y.g [D]).get? a with|none=>rfl|some o=>have:=gK e n;simp only[bu]at this;subst this;exact ay m (h.EI R)
 .cases j:y.g.get? b with|some q=>exact L.gn b q j n|none=>have:=gK e j;simp only[bu]at this;refine sY this ?_;exact .inr h.1
 .cases e:(kj y.s.heap y.g [D]).get? b with|none=>rfl|some o=>have:=gK e n;simp at this;exact ay this p
theorem Gv(L:Le wm P x y)(R:Rel w y){D:b5}(h:Off x y D):∃i,i.s=y.s/\i.H=y.H/\Rel w i/\Le wm P x i/\(∀b o,y.g.get? b=some o->i.g.get? b=some o)/\∀o,y.s.heap.get? D=some o->i.g.get? D=some o:=let⟨i,a,b,c,d,e,f,_⟩:=uv L R h;⟨i,a,b,c,d,e,f⟩
theorem xO(L:Le wm P x y)(R:Rel w y){D:b5}(h:Off x y D)(a:wm<=y.H.length)(T:fY w ⟨y.g,y.φ++[D],y.H++[c],y.s⟩ D c):Rel w ⟨y.g,y.φ++[D],y.H++[c],y.s⟩/\Le wm P x ⟨y.g,y.φ++[D],y.H++[c],y.s⟩:=by
 have I:∀(i:Nat)(b:b5),y.φ[i]?=some b->(y.φ++[D])[i]?=some b:=λi b e=>by rw[aU (aG.mp e).1];exact e
 have f:∀{G:Type}{l:ab G}{c d:G}{i:Nat},(l++[c])[i]?=some d->l[i]?=some d\/(i=l.length/\c=d):=by
  intro G l c d i h;refine or3 (aaB i l.length) (λq=>?_) (λq=>?_) λq=>?_;.rw[aU q]at h;exact .inl h
  .subst q;simp at h;exact .inr ⟨rfl,h⟩
  .rw[b6 (by simp;lia)]at h;exact ec h
 refine⟨⟨R.sub,R.top,by simp[R.len],λj d b k m=>?_,?_,R.gens⟩,⟨L.gk,L.gn,L.keep,?_,?_,?_,L.live,L.os⟩⟩;.
  rcases f k with k|⟨rfl,rfl⟩;.
   have Z:j<y.φ.length:=R.len▸(aG.mp k).1;have C:y.φ[j]?=some b:=by
    rcases f m with q|⟨q,_⟩;.exact q
    .lia
   exact fY.keeps (x:=y) (y:=⟨y.g,y.φ++[D],y.H++[c],y.s⟩) (λ_ _ e=>e) I (λn _=>n) (λ_ o e=>e) (R.cell j d b k C)
  .rcases f m with q|⟨_,rfl⟩;.have:=(aG.mp q).1;rw[R.len]at this;lia
   .exact T
 .intro i j b k m;rcases f k with k|⟨t,M⟩<;>rcases f m with m|⟨B,Q⟩;.exact R.inj _ _ _ k m
  .exact ay (Q▸k) (h.EI R)
  .exact ay (M▸m) (h.EI R)
  .exact t.trans B.symm
 .refine d9 (L.DN) λX t B=>?_;refine i12 (X++[D]) (by rw[←bA,←t]) (λb p=>?_);rcases aJ.mp p with p|p;.exact B b p
  .rw[bu.mp p];exact h.1
 .rintro b⟨i,d,k,m,r⟩;rcases f r with r|⟨rfl,rfl⟩;.
   rcases f k with k|⟨rfl,rfl⟩;.exact L.mu b ⟨i,d,k,m,r⟩
   .have:=(aG.mp r).1;rw[R.len]at this;lia
  .exact .inr h.1
 .intro i d U k;rcases f k with k|⟨rfl,rfl⟩;.exact L.refs i d U k
  .omega
theorem Dd(s:Str)(h:2<=s.cps.size):(b8 (some (1:Int)) (some (-1:Int)) 1 s.length).length=s.cps.size-2/\(b8 (some (1:Int)) (some (-1:Int)) 1 s.length).filterMap (s.cps[·]?)=(s.cps.toList.drop 1).dropLast:=by
 have c:s.length=s.cps.size:=rfl;have b:b8 (some (1:Int)) (some (-1:Int)) 1 s.length=b8 (some ((1:Nat):Int)) (some ((s.length-1:Nat):Int)) 1 s.length:=by rw[StrLaws.sliceIdx_neg_hi _ _ (by decide) (by lia)];congr 2;lia
 refine sY b ?_;refine⟨?_,?_⟩;.rw[StrLaws.strSliceIndices_plain (by lia) (by lia)];simp;rfl
 .rw[StrLaws.sliced_plain s (by lia) (by lia)];rw[List.dropLast_eq_take];simp only[du,cz];rw[c]
theorem Jn(h:Ox v=some u):∃s,v=.d (.str s)/\(2<=s.cps.size/\s.cps.size<=big)/\u=.d (.str ⟨(s.cps.toList.drop 1).dropLast.toArray⟩):=pE (P:=λv=>∃s,v=.d (.str s)/\(2<=s.cps.size/\s.cps.size<=big)/\u=.d (.str ⟨(s.cps.toList.drop 1).dropLast.toArray⟩)) h λ_ h=>xf (P:=λd=>∃s,V.d d=.d (.str s)/\(2<=s.cps.size/\s.cps.size<=big)/\u=.d (.str ⟨(s.cps.toList.drop 1).dropLast.toArray⟩)) h λs h=>if1 h λb h=>Ps s rfl b (sI h).symm
theorem B8{x y:D}(h:zU H x y=some r):∃i,x=.int i/\mB H (.eJ [(.int i,y)] false)=some r:=i4 (P:=λx=>∃i,x=.int i/\mB H (.eJ [(.int i,y)] false)=some r) h λi h=>i12 i rfl h
theorem JW(L:eo w n T N O (λJ=>cE o J))(I:isName o=true):eo w n (ND T) N O (λJ=>cE (.Subscript o (.Slice (some (.Constant (.int 1) m p1)) (some (.UnaryOp .USub (.Constant (.int 1) k2 p2) p3)) none p') p) J):=by
 intro A E Y x J l v H' Q a e q;refine(let i:Prop:=_;(?_:i));refine jV e λvo X c e=>kg e λv' m k=>j7 (Jn m) λs z hs C=>?_;refine wpAny_Subscript_str_slice (L a c λy u j r c U=>?_) (Bc I);simp only[acs,acs];refine dB (aci (dB (P.neg_int ?_)));refine(let i:Prop:=_;(?_:i));refine(show Rd w y.g (.str s) u from(z▸U:Rv w y (.d (.str s)) u).eU).str_inv.elim λt h=>?_;refine VS s t (some (1,_)) (some (-1,_)) ⟨h,rfl,rfl,?_⟩;refine lK (Dd s hs.1) λM R=>?_;have f:(((none:ae (Int×Tok)).map (·.1)).getD 1==1&&(adf s (some ((1:Int),y.s.toks)) (some ((-1:Int),y.s.toks+1+1)) none).length==s.length)=false:=by
  have:adf s (some ((1:Int),y.s.toks)) (some ((-1:Int),y.s.toks+1+1)) none=b8 (some (1:Int)) (some (-1:Int)) 1 s.length:=rfl;rw[this,M];refine sY (show s.length=s.cps.size from rfl) ?_;have:(s.cps.size-2==s.cps.size)=false:=by lia
  rw[this];simp
 unfold sliceMade;rw[f,aZ (by decide)];rw[(show(adf s (some ((1:Int),y.s.toks)) (some ((-1:Int),y.s.toks+1+1)) none).filterMap (s.cps[·]?)=(s.cps.toList.drop 1).dropLast from R)];refine⟨?_,?_⟩;.show((s.cps.toList.drop 1).dropLast.toArray).size<=bg;simp only[acJ,List.length_dropLast,du,cz];have:=kV;lia
 .refine j.VP (s':={y.s with heap:=y.s.heap.push {cls:=.type "slice",data:=.fields #[.int 1 y.s.toks,.int (-1) (y.s.toks+1+1),.none]},toks:=y.s.toks+1+1+1+1}) (λb o e=>Heap.get?_push_of_some _ e) j.rel.gens rfl (c.trans (pJ k).2) (show Rv w y v (.str _ _)from(pJ k).1▸C.symm▸.d (.str _ _)) λz u G B H Z=>q z u G (r.trans B) H Z
theorem Ck(hk:eo w n mk N O (λJ=>cE k J))(hv:eo w n mv N O (λJ=>cE v J)):eo w n (zq mk mv) N O (λJ=>cE (.Dict [some k] [v] p) J):=by
 intro A E Y x J l v' H' Q a e q;refine(let T:Prop:=_;(?_:T));refine jV e λd X M e=>jV e λd2 H2 k2 e=>d9 (B8 e) λi z e6=>?_;.
  subst z;revert q;refine sP e6 λq=>?_;refine wpAny_Dict_pairs (knd:=sK w) (pairs:=[(cE k J,do let x←cE v J;standAt p;pure x)]) rfl (by simp) (bo rfl) ?_;have gk:∀(b:b5)(R:Obj),x.s.heap.get? b=some R->(x.s.heap.push {cls:=.type "dict",data:=.dict #[]}).get? b=some R:=λb R e=>Heap.get?_push_of_some _ e;obtain⟨S0,C⟩:=iE (wm:=Y.wm) (P:=fP) (s':={x.s with heap:=x.s.heap.push {cls:=.type "dict",data:=.dict #[]}}) (as:=[]) a.rel gk a.rel.gens rfl (λb hb=>by exact kr hb);have a0:=a.step S0 C;have G:Off x (x.grow {x.s with heap:=x.s.heap.push {cls:=.type "dict",data:=.dict #[]}} []) x.sz:=Off.new (wm:=Y.wm) (P:=fP) .refl a.rel ja gk;have B:(x.grow {x.s with heap:=x.s.heap.push {cls:=.type "dict",data:=.dict #[]}} []).s.heap.get? x.sz=some {cls:=.type "dict",data:=.dict #[]}:=Heap.get?_push_size _ rfl;have h0:(x.grow {x.s with heap:=x.s.heap.push {cls:=.type "dict",data:=.dict #[]}} []).H=x.H:=rfl;rw[←h0]at M;show aR _ _ _ _ _ (x.grow {x.s with heap:=x.s.heap.push {cls:=.type "dict",data:=.dict #[]}} []).s;generalize(x.grow {x.s with heap:=x.s.heap.push {cls:=.type "dict",data:=.dict #[]}} [])=x0 at S0 C a0 G B M⊢;refine evalPairs_cons (eo.dat hk a0 C M λy1 u1 a1 L1 j g1 r1=>aB (eo.dat hv a1 L1 ((sY g1 k2)) λf t r L2 m g2 r2=>aB (aaq (aQ (evalPairs_nil ?_)))));refine(let T:Prop:=_;(?_:T));have O1:=G.le B j;have U:=j.keep _ _ B G.2.2 (λq=>q);have I:=O1.le U m;.
   refine i12 ([(.int i,t)]) ⟨rP rfl r1,rfl,bN⟩ ⟨(show f.s.heap.DictOf (sK w) x.sz []from DictOf.of_empty (w:=w) (m.keep _ _ U O1.2.2 (λq=>q)) ⟨rfl,rfl,rfl⟩ rfl),λL hd hs=>?_⟩;have hz:∀b,b=x.sz->Off x f b:=by rintro b rfl;exact I
   refine lK (L2.off (Z:=λb=>b=x.sz) (s':={f.s with heap:=L,toks:=f.s.toks+[(u1,t)].length}) r.rel hz (λb o n e=>hs.extBut b o n e) r.rel.gens rfl) λS3 L3=>?_;replace hd:L.DictOf (sK w) x.sz [(.int i,t)]:=hd;refine lK (xO (y:=⟨f.g,f.φ,f.H,{f.s with heap:=L,toks:=f.s.toks+[(u1,t)].length}⟩) (D:=x.sz) (c:=.eJ [(.int i,d2)] false) L3 S3 I r.wm ⟨uP a.rel,bo rfl,I.2.1,.k hd (.cons ⟨rfl,rfl,r2⟩ .nil)⟩) λS4 h=>?_;refine q _ _ (a.step S4 h) h (by show f.H++_=_;rw[g2]) (.ref ?_);show(f.φ++[x.sz])[_]?=_;rw[←g2,←r.rel.len];simp
end
end Mine
end
noncomputable section
open PySem PySem.W
namespace Mine
noncomputable abbrev W:=ab Nat
theorem tl(b:W):eG [] b=true:=by cases b<;>rfl
theorem kN(a b:Nat)(r t:W):eG (a::r) (b::t)=(decide (a<b)||(decide (a=b)&&eG r t)):=by
 dsimp only[eG];by_cases h:a<b;.simp[h,adU]
 .by_cases c:a=b;.refine sY c ?_;simp[adU]
  .simp[h,c,adU,Nat.beq_eq]
theorem iH{a:W}:∀{b:W},eG a b=true↔a<=b:=by
 induction a with
 |nil=>intro b;exact⟨λ_=>List.nil_le b,λ_=>tl b⟩|cons a r ih=>
  intro b;rcases b with _|⟨b,t⟩;.exact⟨λh=>fO h,λh=>ay (List.nil_lt_cons a r) h⟩
  .rw[kN,List.cons_le_cons_iff,←ih,dG,aI,ba,ba]
theorem ig(a b:W):eG a b=true\/eG b a=true:=(List.le_total a b).imp iH.mpr iH.mpr
theorem jJ(a b:W)(h:eG a b=true)(k:eG b a=true):a=b:=List.le_antisymm (iH.mp h) (iH.mp k)
theorem il(a b c:W)(h:eG a b=true)(k:eG b c=true):eG a c=true:=iH.mpr (List.le_trans (iH.mp h) (iH.mp k))
section
variable{α:Type}{B:α->α->bt}
theorem ng:∀{l:ab α},x∈gp B a l↔x=a\/x∈l
 |[]=>by simp[gp]|b::r=>by
  unfold gp;split;.simp
  .simp only[af,ng];constructor<;>rintro(h|h|h)<;>simp[h]
theorem hX:∀{l:ab α},x∈sortBy B l↔x∈l|[]=>(by rfl)|b::r=>by simp[sortBy,ng,hX]
theorem uf:∀{l:ab α},(gp B a l).length=l.length+1|[]=>rfl|b::r=>by unfold gp;split<;>simp[uf]
theorem mb:∀{l:ab α},(sortBy B l).length=l.length|[]=>rfl|b::r=>by simp[sortBy,uf,mb]
set_option tactic.hygienic true in noncomputable def Dx(B:α->α->bt)(l:ab α):Prop:=l.Pairwise λa b=>B a b=true/\a≠b
theorem Oj(i:∀a b,B a b=true\/B b a=true)(j:∀a b c,B a b=true->B b c=true->B a c=true){a:α}:∀{l:ab α},Dx B l->a∉l->Dx B (gp B a l):=by
 intro l;induction l with
 |nil=>intro _ _;simp[gp,Dx]|cons b r ih=>
  intro h g;unfold Dx at h⊢;rw[a6]at h;unfold gp;split;.
   rename_i d;refine a6.mpr ⟨λx f=>⟨?_,λe=>g (e▸f)⟩,a6.mpr h⟩;rcases af.mp f with e|e;.exact e▸d
   .exact j _ _ _ d (h.1 x e).1
  .rename_i d;refine a6.mpr ⟨λx f=>?_,ih h.2 (λe=>g (ax _ e))⟩;rcases ng.mp f with e|e;.clear f;rw[e];exact⟨(i _ _).resolve_right (by simpa using d),λe=>g (e▸aF)⟩
   .exact h.1 x e
theorem pF(d:∀a b,B a b=true\/B b a=true)(f:∀a b c,B a b=true->B b c=true->B a c=true):∀{l:ab α},l.Nodup->Dx B (sortBy B l):=by intro l;induction l with|nil=>intro _;simp[sortBy,Dx]|cons a r ih=>intro h;replace h:=a7.mp h;exact Oj d f (ih h.2) (λe=>h.1 (hX.mp e))
theorem Bs(as:∀a b,B a b=true->B b a=true->a=b):∀{l l':ab α},Dx B l->Dx B l'->(∀x,x∈l↔x∈l')->l=l'
 |[],[],_,_,_=>rfl|[],b::r,_,_,h=>by simpa using(h b).mpr (by simp)|a::r,[],_,_,h=>by simpa using(h a).mp (by simp)|a::r,b::t,k,m,h=>by
  have c:=a6.mp k;have d:=a6.mp m;have i:a=b:=by
   have g:=(h a).mp ((.head _));have j:=(h b).mpr ((.head _));rcases af.mp g with e|g;.exact e
   rcases af.mp j with e|j;.exact e.symm
   exact as _ _ (c.1 b j).1 (d.1 a g).1
  subst i;congr 1;refine Bs as c.2 d.2 λx=>?_;constructor;.
   intro f;rcases af.mp ((h x).mp (ax _ f))with e|e;.exact ay e.symm (c.1 x f).2
   .exact e
  .intro f;rcases af.mp ((h x).mpr (ax _ f))with e|e;.exact ay e.symm (d.1 x f).2
   .exact e
end
noncomputable abbrev SS(k:ab W):Prop:=Dx eG k
theorem pN(h:SS k)(h':SS b)(e:∀x,x∈k↔x∈b):k=b:=Bs jJ h h' e
theorem SS.nd(h:SS k):k.Nodup:=dI (λh=>h.2) h
theorem SS.filter(h:SS k):SS (k.filter p):=cp p h
theorem zE:SS [w]:=by simp[SS,Dx]
theorem Pb:SS []:=by simp[SS,Dx]
noncomputable def fh{b:Type}[bD b](R:ab b):ab b->ab b|[]=>R|x::r=>fh (if x∈R then R else R++[x]) r
theorem lq{c:Type}[bD c]{x:c}:∀{l R:ab c},x∈fh R l↔x∈R\/x∈l:=by
 intro l;induction l with
 |nil=>intro R;simp[fh]|cons y r ih=>
  intro R;unfold fh;rw[ih];split;.
   rename_i h;constructor;.rintro(b|b)<;>simp[b]
   .rintro(b|b);.exact .inl b
    .rcases af.mp b with e|e;.exact .inl (e▸h)
     .exact .inr e
  .simp only[aJ,af,ai,a5];constructor;.rintro((b|b)|b)<;>simp[b]
   .rintro(b|b|b)<;>simp[b]
theorem vQ{d:Type}[bD d]:∀{l R:ab d},R.Nodup->(fh R l).Nodup:=by
 intro l;induction l with
 |nil=>intro _ h;exact h|cons y r ih=>
  intro R h;unfold fh;split;.exact ih h
  .rename_i g;refine ih (a8.mpr ⟨h,by simp,?_⟩);intro a f b c e;replace c:=kE c;exact g (c▸e▸f)
theorem jz{b:Type}[bD b]:∀{l R:ab b},(fh R l).length<=R.length+l.length:=by intro l;induction l with|nil=>intro R;simp[fh]|cons y r ih=>intro R;refine au ih ?_;split<;>simp<;>lia
theorem iJ{c:Type}[bD c]:∀{a b R:ab c},fh R (a++b)=fh (fh R a) b:=by intro a;induction a with|nil=>intro b R;exact rfl|cons x a ih=>intro b R;show fh _ (a++b)=_;rw[ih];rfl
noncomputable abbrev fW:W:=[97,110,121]
noncomputable abbrev ea:W:=[117,110,107,110,111,119,110]
noncomputable abbrev fF:W:=[110,101,118,101,114]
noncomputable abbrev d6:W:=[117,110,100,101,102,105,110,101,100]
noncomputable abbrev gy:W:=[110,117,108,108]
noncomputable abbrev d0:W:=[115,116,114,105,110,103]
noncomputable abbrev dZ:W:=[110,117,109,98,101,114]
noncomputable abbrev hK:W:=[102,97,108,115,101]
noncomputable abbrev i9:W:=[116,114,117,101]
noncomputable def isLit(w:W):bt:=w.head?==some 34
noncomputable def i'(w:W):bt:=match w.head? with|some d=>decide (48<=d/\d<=57)|none=>false
noncomputable def qP(R:ab W)(w:W):bt:=!(decide (d0∈R)&&isLit w)&&!(decide (dZ∈R)&&i' w)
noncomputable def qq(R:ab W):ab W:=if fW∈R then[fW]else if ea∈R then[ea]else sortBy eG (R.filter (qP R))
noncomputable def ei(Z:ab (ab W)):ab W:=qq (fh [] Z.flatten)
theorem Iv(h:R.Nodup):SS (qq R):=by
 unfold qq;split;.exact zE
 split;.exact zE
 exact pF ig il (h.filter _)
theorem g6:SS (ei Z):=Iv (vQ (by simp))
noncomputable def Kept(A:W->Prop)(w:W):Prop:=A w/\(A fW->w=fW)/\(¬A fW->A ea->w=ea)/\(A d0->isLit w=false)/\(A dZ->i' w=false)
theorem Dz:qP R w=true↔(d0∈R->isLit w=false)/\(dZ∈R->i' w=false):=by unfold qP;cases isLit w<;>cases i' w<;>simp
theorem CY:w∈qq R↔Kept (· ∈R) w:=by
 unfold qq Kept;split;.
  rename_i h;simp only[af,ai,a5];constructor;.intro e;subst e;exact⟨h,λ_=>rfl,λc=>ay h c,λ_=>rfl,λ_=>rfl⟩
  .intro e;exact e.2.1 h
 split;.
  rename_i b h;simp only[af,ai,a5];constructor;.intro e;subst e;exact⟨h,λc=>ay c b,λ_ _=>rfl,λ_=>rfl,λ_=>rfl⟩
  .intro e;exact e.2.2.1 b h
 .rename_i b d;rw[hX,aO,Dz];simp[b,d]
theorem eP:w∈ei Z↔Kept (λw=>∃k∈Z,w∈k) w:=by unfold ei;rw[CY];simp only[lq,ac0,ai,false_or]
structure wy(k:ab W):Prop where
 ss:SS k
 any:fW∈k->∀w∈k,w=fW
 DM:ea∈k->∀w∈k,w=ea
 str:d0∈k->∀w∈k,isLit w=false
 num:dZ∈k->∀w∈k,i' w=false
theorem jf:wy (ei Z):=by
 refine⟨g6,λh w b=>?_,λh w b=>?_,λh w b=>?_,λh w b=>?_⟩<;>rw[eP]at h b;.exact b.2.1 h.1
 .by_cases c:∃k∈Z,fW∈k;.have:=h.2.1 c;exact ay this (by decide)
  .exact b.2.2.1 c h.1
 .exact b.2.2.2.1 h.1
 .exact b.2.2.2.2 h.1
theorem uw(h:∀w,(∃k∈Z,w∈k)↔∃k∈b,w∈k):ei Z=ei b:=by refine pN g6 g6 λw=>?_;rw[eP,eP];simp only[h]
theorem wy.join(h:wy k)(e:∀w,(∃k∈Z,w∈k)↔w∈k):ei Z=k:=by
 refine pN g6 h.ss λw=>?_;rw[eP];unfold Kept;simp only[e];constructor;.exactλq=>q.1
 .exactλq=>⟨q,λa=>h.any a w q,λ_ a=>h.DM a w q,λa=>h.str a w q,λa=>h.num a w q⟩
theorem wy.sub(h:wy k)(s:SS k')(e:∀w∈k',w∈k):wy k':=⟨s,λa w q=>h.any (e _ a) w (e _ q),λa w q=>h.DM (e _ a) w (e _ q),λa w q=>h.str (e _ a) w (e _ q),λa w q=>h.num (e _ a) w (e _ q)⟩
theorem wy.filter(h:wy k):wy (k.filter p):=h.sub h.ss.filter λw q=>(aO.mp q).1
theorem vP:wy [w]:=by
 refine⟨zE,?_,?_,?_,?_⟩<;>intro h v b<;>simp only[af,ai,a5]at h b<;>refine sY b ?_;.exact h.symm
 .exact h.symm
 .rw[←h];rfl
 .rw[←h];rfl
theorem pA:wy []:=by refine⟨Pb,?_,?_,?_,?_⟩<;>intro h<;>simp at h
end Mine
end
noncomputable section
open PySem PySem.W PySem.Calls PyProof.Rows
namespace Mine
open SeqAt
theorem n8(B:c->c->bt)(a:c):∀l:ab c,(gp B a l).Perm (a::l)
 |[]=>.refl _|b::r=>by
  unfold gp;split;.exact .refl _
  .exact((n8 B a r).cons b).trans (.swap a b r)
theorem kP(B:b->b->bt):∀l:ab b,(sortBy B l).Perm l|[]=>.refl _|a::r=>by exact(n8 B a _).trans ((kP B r).cons a)
set_option tactic.hygienic true in theorem vK{α:Type}{B:α->α->bt}(tr:∀a b c,B a b=true->B b c=true->B a c=true)(YG:∀a b,B a b=false->B b a=true)(a:α):∀{l:ab α},l.Pairwise (λx y=>B x y=true)->(gp B a l).Pairwise (λx y=>B x y=true):=by
 intro l;induction l with
 |nil=>intro _;simp[gp]|cons b r ih=>
  intro h;rw[a6]at h;unfold gp;split;.
   rename_i q;rw[a6];refine⟨λc hc=>?_,a6.mpr h⟩;rcases af.mp hc with rfl|hc;.exact q
   .exact tr _ _ _ q (h.1 c hc)
  .rename_i q;rw[a6];refine⟨λc hc=>?_,ih h.2⟩;rcases af.mp ((n8 B a r).mem_iff.mp hc)with rfl|hc;.exact YG _ _ (by simpa using q)
   .exact h.1 c hc
theorem nP{B:f->f->bt}(e:∀a b c,B a b=true->B b c=true->B a c=true)(d:∀a b,B a b=false->B b a=true):∀l:ab f,(sortBy B l).Pairwise (λx y=>B x y=true)|[]=>by simp[sortBy]|a::r=>by exact vK e d a (nP e d r)
theorem qt{B:m->m->bt}(j:∀a b c,B a b=true->B b c=true->B a c=true)(e:∀a b,B a b=false->B b a=true)(d:∀a b,B a b=true->B b a=true->a=b)(i:k.Perm l)(hs:k.Pairwise (λx y=>B x y=true)):k=sortBy B l:=List.Perm.eq_of_pairwise (le:=λx y=>B x y=true) (λa b _ _ f g=>d a b f g) hs (nP j e l) (i.trans (kP B l).symm)
theorem Ji(a b:Nat)(x:bt):(decide (a<b)||(decide (a=b)&&!x))=!(decide (b<a)||(b==a&&x)):=by
 rcases aaB a b with h|h|h;.rw[aE h,aC (aeV h),aaX.mpr (aak h)];rfl
 .subst h;rw[aC (cN a),aE rfl,dr];rfl
 .rw[aC (aeV h),aE h,aC (aak h)];rfl
theorem BO{a:ab Nat}:∀b:ab Nat,eG a b=!PySem.Spec.ltCps b a:=by
 induction a with
 |nil=>intro b;rcases b with _|_<;>rfl|cons a r ih=>
  intro b;rcases b with _|⟨b,t⟩;.rfl
  .exact(kN a b r t).trans ((ah (λx=>decide (a<b)||(decide (a=b)&&x)) (ih t)).trans (Ji a b _))
theorem ya(a b c:Str)(h:jZ a b=true)(k:jZ b c=true):jZ a c=true:=il _ _ _ h k
theorem CO(a b:Str)(h:jZ a b=false):jZ b a=true:=(ig _ _).resolve_left λe=>fO (h.symm.trans e)
theorem zy(a b:Str)(h:jZ a b=true)(k:jZ b a=true):a=b:=by have:=jJ _ _ h k;obtain⟨⟨x⟩⟩:=a;obtain⟨⟨y⟩⟩:=b;simp at this;exact sY this rfl
theorem pT:∀{G:ab Str},sortedS G=true->G.Pairwise (λx y=>jZ x y=true)
 |[],_=>.nil|x::r,h=>by
  have go:∀(r:ab Str)(x:Str),risingS x r=true->(x::r).Pairwise (λx y=>jZ x y=true):=by
   intro r;induction r with
   |nil=>intro x _;simp|cons y r ih=>
    intro x h;unfold risingS at h;rw[aI]at h;have b:jZ x y=true:=by unfold jZ;rw[BO];exact h.1
    have e:=ih y h.2;rw[a6];refine⟨λc d=>?_,e⟩;rcases af.mp d with rfl|d;.exact b
    .exact ya _ _ _ b ((a6.mp e).1 c d)
  exact go r x h
theorem yL(c:b.Perm G)(d:sortedS b=true):b=sortBy jZ G:=qt ya CO zy c (pT d)
theorem CC{d:ab Int}(e:d.Perm I)(f:d.Pairwise (· <=·)):d=sortBy (λa b=>decide (a<=b)) I:=qt (λa b c h k=>by simp at*;lia) (λa b h=>by simp at*;lia) (λa b h k=>by simp at*;lia) e (f.imp λh=>by simpa using h)
section
variable{w:bO}{n:Nat}{x y z:Sx}{wm:Nat}{P P':b5->Prop}{A:bI}{E:al->aM->Prop}{Y:Cx}{J:Env}{N:b7}{O:ab Str}{l:Loc}
inductive qx(w:bO)(x:Sx)(Z:ab D):al->Prop|seq{b:b5}{U:dv al}{T:dA}{o:Obj}{k:Nat}:(T="list"\/T="tuple")->x.s.heap.get? b=some o->o.cls=.type T->o.data=.seq U k->U.size<=bg->fi w x.g Z U.toList->qx w x Z (.ref b)|k{b:b5}{ll:ab (D×al)}:(b==cI)=false->x.s.heap.DictOf (sK w) b ll->ll.length<=bg->Z=ll.map (·.1)->qx w x Z (.ref b)
noncomputable def Q6:ae Cell->ae (ab D)|some (.lst Z _)=>some Z|some (.eJ B _)=>if eg .i B||eg .s B then some (B.map (·.1))else none|_=>none
theorem xl(a:At w A n Y x J N O l)(r:Rv w x v u)(h:jB v x.H=some Z):qx w x Z u:=by
 induction v using V.casesOn with
 |d d=>induction d using D.casesOn with|tup G=>exact lB r.eU λb U c g j _=>so h ((a.tup c).elim λo q=>pn q λs p q=>q.elim λk hd=>.seq (.inr rfl) s p hd g j)|lst G=>exact Ao r.eU λb U c g j=>so h ((a.lst c).elim λo q=>pn q λs p q=>q.elim λk hd=>.seq (.inl rfl) s p hd g j)|_=>exact ec h
 |ref i=>exact tf r λb e=>jX (P:=λo=>x.H[i]?=o->Q6 o=some Z->qx w x Z (.ref b)) x.H[i]? (λ_ h=>ec h) (λG m t h=>so h (j7 (a.j5 t e) λU c g j=>c.isList.elim λo h=>pn h λs p hd=>hd.elim λk hd=>.seq (.inl rfl) s p hd g j)) (λB f t h=>if1 h λq h=>so h (pn (a.nt t e) λc g j=>d9 (j.Qy q) λL I C=>.k c I (C.length▸au g kV) (qp.keys C).symm)) (λ_ _ h=>ec h) rfl h|ins _ _=>exact ec h
theorem Km{g:Heap}:∀{b:ab (D×al)}{U:ab al},U.length=b.length->(∀(j:Nat)(v:al),U[j]?=some v->∃k c,b[j]?=some (k,c)/\wc k v=true)->fi w g (b.map (·.1)) U:=by intro b;induction b with|nil=>exactλ{U}d _=>aS (motive:=λU=>U.length=0->fi w g [] U) U (λ_=>.nil) (λ_ _ h=>ay h (cT _)) d|cons p r ih=>exactλ{U}=>aS (motive:=λU=>U.length=r.length+1->(∀(j:Nat)(v:al),U[j]?=some v->∃k c,(p::r)[j]?=some (k,c)/\wc k v=true)->fi w g ((p::r).map λq=>q.1) U) U (λh=>ay h.symm (cT _)) λv U d f=>mn (f 0 v rfl) λk c i m=>.cons (sY (P:=λq:D×al=>Rd w g q.1 v) (sI i) (Cc m (λn t=>.int n t) λs t=>.str s t)) (ih (aaj d) λj v e=>f (j+1) v e)
theorem AE(G:A.handled=none)(r:qx w x Z u)(q:∀h' B U,(∀b o,x.s.heap.get? b=some o->h'.get? b=some o)->fi w x.g Z U->U.length<=bg->R U {x.s with heap:=h',toks:=B}):aR (aP pw w) A (collect u) R E x.s:=qx.casesOn (motive:=λu _=>aR (aP pw w) A (collect u) R E x.s) r (λ{b U _ _ _}k m d p f C=>wpAny_collect_seq b k m d p (λh' t=>q h' x.s.toks U.toList t C f) f) λk m d p=>m.dictAt.elim λH f=>kdu_collect (kdl_dict k) G f d λh' B i t c=>q h' B i.toList t (p▸Km (cz.trans c.1) λj v e=>c.2 j v (dF.symm.trans e)) (cz.symm▸c.1▸d)
theorem GU(h:fi w g (I.map .int) U):IntsAre U I:=by induction I generalizing U with|nil=>exact H0 h .nil|cons i I ih=>exact GG h λv U r b=>i5 r λt=>.cons i t (ih b)
theorem GP(h:fi w g (G.map .str) U):StrsAre U G:=by induction G generalizing U with|nil=>exact H0 h .nil|cons i I ih=>exact GG h λv U r b=>jd r λt=>.cons i t (ih b)
theorem EK(h:IntsAre U I):fi w g (I.map .int) U:=IntsAre.rec (motive:=λU I _=>fi w g (I.map .int) U) .nil (λ_ t _ _ _ r=>.cons (.int _ t) r) h
theorem xp(h:StrsAre U G):fi w g (G.map .str) U:=StrsAre.rec (motive:=λU G _=>fi w g (G.map .str) U) .nil (λ_ t _ _ _ r=>.cons (.str _ t) r) h
theorem xE:∀{Z:ab D}{G:ab Str},strsOf Z=some G->Z=G.map .str:=by
 intro Z;induction Z with
 |nil=>intro _ h;refine so h ?_;rfl|cons x r ih=>
  intro G h;rcases x with⟨⟩<;>try(exact ec h;done)
  refine d9 (cv.mp h) λc b d=>?_;subst d;rw[ih b];rfl
theorem Cv(hh:A.handled=none)(r:qx w x Z u)(h:mL Z=some ys)(q:∀(D:b5)(s':aM)B e,(∀b o,x.s.heap.get? b=some o->s'.heap.get? b=some o)->s'.gens=x.s.gens->s'.os=x.s.os->x.s.heap.get? D=none->s'.heap.get? D=some (seqObj "list" B e)->B.size<=bg->fi w x.g ys B.toList->Q (.ref D) s'):aR (aP pw w) A (PySem.call (.builtin "sorted") [u]) Q E x.s:=by
 unfold mL at h;refine To h λρ h=>?_;refine Calls.call_function_entry kind_sorted plain_sorted entry_sorted (args_sorted1 _) ?_;unfold Builtin.«sorted»;refine aB (m:=checkCount "sorted" 1 1 _) (aQ ?_);refine aB (AE (A:=A.in1) hh r λi tk U L M hz=>?_);have hl:=M.length;refine aB (wpAny_newList ?_ hz);have c:(i.push (seqObj "list" U.toArray 0)).get? i.objs.size=some (seqObj "list" U.toArray 0):=Heap.get?_push_size _ rfl;have T:x.s.heap.get? i.objs.size=none:=by cases z:x.s.heap.get? i.objs.size with|none=>rfl|some o=>exact ay (Heap.lt_size (L _ _ z)) (cN _)
 have p:∀B b o,x.s.heap.get? b=some o->(sortedHeap (i.push (seqObj "list" U.toArray 0)) i.objs.size U B).get? b=some o:=λB b o e=>by have X:=Heap.lt_size (L _ _ e);rw[sortedHeap_old (ct X) (by rw[size_push'];exact abd X)];exact Heap.get?_push_of_some _ (L _ _ e)
 have k:∀{m:Nat},m<=Z.length->m<=bg:=λh=>by rw[dj];lia
 rcases d:intsOf Z with _|I<;>rw[d]at h;rotate_left;.obtain rfl:=sI h;have f:=mX d;subst f;refine aB (aaP (aaK slot_list_sort ⟨_,c,rfl⟩ entry_list_sort (list_sort_tree c (GU M) (by lia) λB y! j t C=>⟨_,rfl,?_⟩) (args_list_sort _)));obtain⟨e,d⟩:=sortedHeap_at (out:=B) c;have hs:=CC t C;subst hs;refine aQ ⟨_,rfl,q _ _ B e (p B) rfl rfl T d ?_ (EK j)⟩;have:=j.length;rw[(kP _ I).length_eq]at this;simp at this;exact k (by simp;lia)
 .rcases d:strsOf Z with _|G<;>rw[d]at h;rotate_left;.revert q;refine so h λq=>?_;have f:=xE d;subst f;have H:=GP M;refine aB (aaP (aaK slot_list_sort ⟨_,c,rfl⟩ entry_list_sort (list_sort_treeK strKind_oneLt c H.keysOf (λZX Zo a e=>keyKind_strs ((sZ e H))) (by lia) λR hp hs=>⟨_,rfl,?_⟩) (args_list_sort _)));refine j7 (sorted_out_str H hp hs) λB! j t C=>?_;obtain⟨e,d⟩:=sortedHeap_at (out:=(arrOf R).map (·.2)) c;have hs:=yL t C;subst hs;refine aQ ⟨_,rfl,q _ _ _ e (p _) rfl rfl T d ?_ (xp j)⟩;have:=(xp (w:=w) (g:=x.g) j).length;rw[ak,(kP _ G).length_eq]at this;exact k (by rw[ak,this];exact bZ (cz ..).symm)
  .exact ec h
theorem Fo(s:Str)(i:Int)(h:jm s=some i):s=aa (toString i)/\0<=i/\i<10^10:=by
 unfold jm at h;rcases b:s.cps.toList with _|⟨c,_|⟨e,t⟩⟩<;>rw[b]at h<;>try(exact ec h;done)
 refine if1 h λd h=>?_;obtain rfl:=sI h;obtain⟨⟨l⟩⟩:=s;dsimp only at b;subst b;refine⟨?_,(cK _),by lia⟩;exact(show∀c,c<58->48<=c->(⟨#[c]⟩:Str)=aa (toString ((c-48:Nat):Int))by decide) c d.2 d.1
theorem BU:∀n<10,aa (toString (Int.ofNat n))=(⟨#[48+n]⟩:Str)/\(Int.ofNat n).natAbs.log2<1920:=by decide
theorem DQ(i:Int)(s:Str)(h:jq i=some s):aa (toString i)=s/\i.natAbs.log2<1920:=by unfold jq at h;refine if1 h λb h=>?_;obtain rfl:=sI h;obtain⟨n,rfl⟩:=Int.eq_ofNat_of_zero_le b.1;exact BU n (bh.mp b.2)
theorem yc:∀{Z:ab D}{b:ab bt},boolsOf Z=some b->Z=b.map .bool:=by
 intro Z;induction Z with
 |nil=>intro _ h;refine so h ?_;rfl|cons x r ih=>
  intro b h;rcases x with⟨⟩<;>try(exact ec h;done)
  refine d9 (cv.mp h) λc d e=>?_;subst e;rw[ih d];rfl
theorem HW{c:ab bt}(h:fi w g (c.map .bool) U)(i:Nat)(v:al)(e:U[i]?=some v):v=.bool (c.getD i false):=by refine d9 (h.get' e) λx d f=>?_;rw[bV]at d;refine kg d λb k j=>?_;subst j;rw[List.getD_eq_getElem?_getD,k];cases f;rfl
theorem wY{U:dv al}{b:ab bt}(r:fi w g (b.map .bool) U.toList):TruthOf pw w A (λi v=>U[i]?=some v) (λi=>b.getD i false):=by intro i v s Q E c d;refine sY (HW r i v (by simpa using c)) ?_;exact acC d
theorem De(d:ab bt):(bz d.length).any (λi=>d.getD i false)=d.any id:=by
 rw[b9,dw,dw];constructor;.
  rintro⟨i,c,h⟩;have c:i<d.length:=by simpa using c
  exact i12 (d[i]) (aaf c) (by simpa[c]using h)
 .rintro⟨b,e,h⟩;obtain⟨i,c,rfl⟩:=List.getElem_of_mem e;exact i12 i (by simpa using c) (by simpa[c]using h)
theorem K6(b:f≠206)(h:iw f as H=some d):∃v,as=[v]/\t5 f v H=some d:=match as,h with|[v],h=>⟨v,rfl,h⟩|[_,_],h=>ec ((aZ b).symm.trans h)
theorem IC(h:anyB v=some d):∃Z b,v=.d (.lst Z)/\boolsOf Z=some b/\d=.bool (b.any id):=by
 induction v using V.casesOn with
 |d x=>induction x using D.casesOn with|lst Z=>exact kg (show(boolsOf Z).map (λb=>D.bool (b.any id))=some d from h) λb c e=>⟨_,_,rfl,c,e.symm⟩|_=>exact ec h
 |_=>exact ec h
theorem GS(h:zA v=some d):∃i s,v=.d (.int i)/\jq i=some s/\d=.str s:=by
 induction v using V.casesOn with
 |d x=>induction x using D.casesOn with|int i=>exact kg (show(jq i).map D.str=some d from h) λs b c=>⟨_,_,rfl,b,c.symm⟩|_=>exact ec h
 |_=>exact ec h
theorem GW(h:P4 v=some d):∃s i,v=.d (.str s)/\jm s=some i/\d=.int i:=by
 induction v using V.casesOn with
 |d x=>induction x using D.casesOn with|str s=>exact kg (show(jm s).map D.int=some d from h) λi b c=>⟨_,_,rfl,b,c.symm⟩|_=>exact ec h
 |_=>exact ec h
theorem w0(h:intD v=some i):v=.d (.int i):=by
 induction v using V.casesOn with
 |d x=>induction x using D.casesOn with|int j=>refine so h ?_;rfl|_=>exact ec h
 |_=>exact ec h
theorem EU(h:Im v H=some d):∃Z,d=.tup Z/\(v=.d (.lst Z)\/v=.d (.tup Z)\/∃i md,v=.ref i/\H[i]?=some (.lst Z md)):=by
 induction v using V.casesOn with
 |d x=>induction x using D.casesOn with|lst Z=>refine so h ?_;exact⟨_,rfl,.inl rfl⟩|tup Z=>refine so h ?_;exact⟨_,rfl,.inr (.inl rfl)⟩|_=>exact ec h
 |ref i=>
  have h:(match H[i]?with|some (.lst Z _)=>some (D.tup Z)|_=>none)=some d:=h;rcases b:H[i]?with _|(⟨Z,md⟩|_|_)<;>rw[b]at h<;>try(exact ec h;done)
  refine so h ?_;exact⟨_,rfl,.inr (.inr ⟨_,_,rfl,b⟩)⟩|_=>exact ec h
theorem E0(h:J7 v H=some m):(∃Z,jB v H=some Z/\m=Z.length)\/∃s,v=.d (.str s)/\s.cps.size<=big/\m=s.cps.size:=by
 have o:(jB v H).map bq=some m->(∃Z,jB v H=some Z/\m=Z.length)\/∃s,v=.d (.str s)/\s.cps.size<=big/\m=s.cps.size:=λh=>kg h λZ b f=>.inl ⟨_,b,f.symm⟩;induction v using V.casesOn with
 |d x=>induction x using D.casesOn with|str s=>exact if1 h λc e=>.inr ⟨_,rfl,c,(bJ e).symm⟩|_=>exact o h
 |_=>exact o h
theorem IX(h:eC (Rv w x) [v] b):∃u,b=[u]/\Rv w x v u:=uc h λu b r c=>AK c ⟨u,rfl,r⟩
section
variable{Q:al->aM->Prop}{d:D}(a:At w A n Y x J N O l)(q:∀y u,At w A n Y y J N O l->Le Y.wm fP x y->y.H=x.H->Rv w y (.d d) u->Q u y.s)
include a q
theorem vS{s':aM}{v:al}(k:∀b o,x.s.heap.get? b=some o->s'.heap.get? b=some o)(e:s'.gens=x.s.gens)(f:s'.os=x.s.os)(i:∀g,(∀b o,x.g.get? b=some o->g.get? b=some o)->Rd w g d v):Q v s':=by obtain⟨S,L⟩:=iE (wm:=Y.wm) (P:=fP) (s':=s') (as:=[]) a.rel k (e.trans a.rel.gens) f (λb c=>by exact kr c);exact q _ _ (a.step S L) L rfl (.d (i _ L.gk))
theorem HG{v:al}(t:Nat)(b:∀g,Rd w g d v):Q v {x.s with toks:=t}:=vS a q (λ_ _ e=>e) rfl rfl λg _=>b g
theorem Pp{v:V}{u:al}(r:Rv w x v u)(h:(J7 v x.H).map (λ(n:Nat)=>D.int (n:Int))=some d):aR (aP pw w) A (PySem.call (iv 200) [u]) Q E x.s:=by
 refine kg h λm L e=>?_;have f:∀n:Nat,m=n->∀t I,Q (.int n I) {x.s with toks:=t}:=λn z t I=>HG a q t λg=>e▸z▸.int _ _;refine(E0 L).elim (λh=>d9 h λZ M c=>?_) λh=>j7 h λs y R c=>?_;.exact qx.casesOn (motive:=λu _=>aR (aP pw w) A (PySem.call (iv 200) [u]) Q E x.s) (xl a r M) (λ{b U T o k}B i j p C G=>B.elim (λe=>call_len_list ⟨o,i,e▸j,k,p⟩ (j6 C) (f _ (c.trans G.sz) _ _)) λe=>aeQ ⟨o,i,e▸j,k,p⟩ (j6 C) (f _ (c.trans G.sz) _ _)) λB i j p=>call_len_dict B i (j6 j) (f _ (c.trans (p▸ak ..)) _ _)
 .exact jd (show Rd w x.g (.str s) u from(y▸r:Rv w x (.d (.str s)) u).eU) λt=>P.len_str (Es R) (f _ c _ _)
theorem Dj{v:V}{u:al}(r:Rv w x v u)(h:((jB v x.H).bind mL).map D.lst=some d):aR (aP pw w) A (PySem.call (iv 201) [u]) Q E x.s:=by refine kg h λI c e=>?_;subst e;refine xh c λZ f g=>?_;refine Cv a.room.hh (xl a r f) g λD G B e k m p o i C t=>?_;obtain⟨S,L⟩:=iE (wm:=Y.wm) (P:=fP) (s':=G) (as:=[D]) a.rel k (m.trans a.rel.gens) p (λb j=>by rw[bu.mp j];exact o);exact q _ _ (a.step S L) L rfl (.d (.lst ⟨_,jE ((.head _)) i,rfl,e,rfl⟩ C (t.keeps L.gk)))
theorem OU{v:V}{u:al}(r:Rv w x v u)(h:anyB v=some d):aR (aP pw w) A (PySem.call (iv 203) [u]) Q E x.s:=by
 refine iL (IC h) λZ k i p L=>?_;subst i;subst L;have I:=yc p;subst I;refine jt r.eU.lst_inv λb U i m M j=>?_;subst i;have C:k.length=U.size:=by simpa using j.length
 have f:=a.lst m;refine call_any_walk (acE f ⟨x.sz,_,_,_,_,_,_,rfl,(ahH (prog:=pw) (w:=w) (A:=A.in1) a.room.hh x.sz b (show b≠x.sz from by obtain⟨o,H,_⟩:=f;exact ct (Heap.lt_size H)) U),⟨⟨_,Heap.get?_push_size _ rfl,rfl,rfl⟩,f.push _⟩,wY j,λR t B=>?_⟩);rw[←C,De];refine vS a q (λc o e=>B c o (λG=>?_) (Heap.get?_push_of_some _ e)) rfl rfl λg _=>.bool _;rw[bu.mp G]at e;exact ay (Heap.lt_size e) (cN _)
theorem PE{v:V}{u:al}(r:Rv w x v u)(h:zA v=some d):aR (aP pw w) A (PySem.call (iv 204) [u]) Q E x.s:=by refine iL (GS h) λi s f b j=>?_;subst f;subst j;obtain⟨t,rfl⟩:=r.eU.int_inv;obtain⟨c,e⟩:=DQ i s b;subst c;exact P.str_of_int e (HG a q _ λg=>.str _ _)
theorem Nj{v:V}{u:al}(r:Rv w x v u)(h:P4 v=some d):aR (aP pw w) A (PySem.call (iv 205) [u]) Q E x.s:=by refine iL (GW h) λs i j b k=>?_;subst j;subst k;obtain⟨t,rfl⟩:=r.eU.str_inv;refine pn (Fo s i b) λc e f=>?_;refine sY c ?_;exact KIN.call_num e f (HG a q _ λg=>.int _ _)
theorem Qf{i j:Int}{e f:Tok}(h:d=.int (max i j)):aR (aP pw w) A (PySem.call (iv 206) [.int i e,.int j f]) Q E x.s:=by
 subst h;refine max_two_ints a.room.hh λk t c=>vS a q c rfl rfl λg _=>?_;by_cases b:j>i;.rw[aW b,show max i j=j by lia];exact .int _ _
 .rw[aZ b,show max i j=i by lia];exact .int _ _
theorem GZ{Z:ab D}{b:b5}{U:dv al}(m:x.s.heap.IsList b U)(f:U.size<=bg)(p:fi w x.g Z U.toList)(hd:d=.tup Z):aR (aP pw w) A (PySem.call (iv 207) [.ref b]) Q E x.s:=by
 refine call_tuple_list m (λc i=>?_) f;have k:x.s.heap.get? c.objs.size=none:=by cases z:x.s.heap.get? c.objs.size with|none=>rfl|some o=>exact ay (Heap.lt_size (i _ _ z)) (cN _)
 obtain⟨S,L⟩:=iE (wm:=Y.wm) (P:=fP) (s':={x.s with heap:=c.push {cls:=.type "tuple",data:=.seq U}}) (as:=[c.objs.size]) a.rel (λb o e=>Heap.get?_push_of_some _ (i b o e)) a.rel.gens rfl (λb r=>by rw[bu.mp r];exact k);have j:(x.grow {x.s with heap:=c.push {cls:=.type "tuple",data:=.seq U}} [c.objs.size]).g.get? c.objs.size=some {cls:=.type "tuple",data:=.seq U}:=jE ((.head _)) (Heap.get?_push_size _ rfl);subst hd;exact q _ _ (a.step S L) L rfl (.d (.tup ⟨_,j,rfl,0,rfl⟩ f (p.keeps L.gk) ⟨_,j,rfl⟩))
theorem E7{v:V}{u:al}(r:Rv w x v u)(h:Im v x.H=some d):aR (aP pw w) A (PySem.call (iv 207) [u]) Q E x.s:=by
 refine d9 (EU h) λZ hd h=>?_;rcases h with rfl|rfl|⟨i,o,rfl,m⟩;.refine jt r.eU.lst_inv λb U j c f g=>?_;subst j;exact GZ a q (a.lst c) f g hd
 .refine C5 r.eU.nv λb U j c f g k=>?_;subst j;exact call_tuple_same (a.tup c) (q x _ a .refl rfl (.d (hd▸.tup c f g k)))
 .refine d9 r.Bh λb j e=>?_;subst j;refine j7 (a.j5 m e) λU c f g=>?_;exact GZ a q c.isList f g hd
end
noncomputable def pS:ab Nat:=[200,201,203,204,205,206,207]
theorem DV(a:At w A n Y x J N O l)(e:f∈pS)(r:eC (Rv w x) args g)(h:iw f args x.H=some d)(q:∀y u,At w A n Y y J N O l->Le Y.wm fP x y->y.H=x.H->Rv w y (.d d) u->Q u y.s):aR (aP pw w) A (PySem.call (iv f) g) Q E x.s:=by
 simp only[pS,af,ai,a5]at e;have c:∀{f:Nat},f≠206->iw f args x.H=some d->(∀v u,Rv w x v u->t5 f v x.H=some d->aR (aP pw w) A (PySem.call (iv f) [u]) Q E x.s)->aR (aP pw w) A (PySem.call (iv f) g) Q E x.s:=by intro f e h k;refine d9 (K6 e h) λv L h=>?_;subst L;refine d9 (IX r) λu M R=>?_;subst M;exact k v u R h
 rcases e with rfl|rfl|rfl|rfl|rfl|rfl|rfl;.exact c (by decide) h λv u r h=>Pp a q r h
 .exact c (by decide) h λv u r h=>Dj a q r h
 .exact c (by decide) h λv u r h=>OU a q r h
 .exact c (by decide) h λv u r h=>PE a q r h
 .exact c (by decide) h λv u r h=>Nj a q r h
 .match args,r,h with|[v,I],r,h=>refine uc r λu g C r=>uc r λU g G r=>AK r (xh (show(intD v).bind (λa=>(intD I).map λb=>.int (max a b))=some d from h) λi m p=>kg p λj o B=>?_);cases w0 m;cases w0 o;exact i5 C.eU λt=>i5 G.eU λT=>Qf a q B.symm|[],_,h=>exact ec h|[_],_,h=>exact ec h|_::_::_::_,_,h=>exact ec h
 .exact c (by decide) h λv u r h=>E7 a q r h
end
section
variable{w:bO}{n:Nat}{x y z:Sx}{wm:Nat}{P P':b5->Prop}{A:bI}{E:al->aM->Prop}{Y:Cx}{J:Env}{N:b7}{O:ab Str}{l:Loc}
theorem vN{f:PySem.Expr->ME}:∀{es:ab PySem.Expr},(∀e∈es,eo w n (f e) N O (λJ=>cE e J))->noStar es=true->∀{A:bI}{E:al->aM->Prop}{Y:Cx}{x:Sx}{J:Env}{l:Loc}{U:ab V}{g:Hp}{Q:ab al->aM->Prop}{j:Pos}{b:Sx},At w A n Y x J N O l->Le Y.wm fP b x->yp (es.map f) Y l x.H=some (U,g)->(∀y i,At w A n Y y J N O l->Le Y.wm fP b y->Le Y.wm fP x y->y.H=g->eC (Rv w y) U i->Q i y.s)->aR (aP pw w) A (aej (aa5 j (c4 es J))) Q E x.s:=by intro es;induction es with|nil=>intro _ _ A E Y x J l U g Q j b a L e q;revert q;refine sP e λq=>?_;exact abR (q x [] a L .refl rfl .nil)|cons d es ih=>intro h hs A E Y x J l U g Q j b a L e q;refine hd λ_ t=>?_;obtain⟨p,mN⟩:=gR hs J;refine jV e λv X T I=>?_;refine yr I λB H3 Z e6=>?_;clear I;obtain⟨rfl,rfl⟩:=pJ e6;refine t ?_;refine abv (h d aF a T λy u M G R r=>?_) p;refine ih (λe he=>h e (ax _ he)) mN M (L.trans G) (by rw[R];exact Z) λC i m k c o r'=>?_;exact q C (u::i) m k (G.trans c) o (.cons (r.le c) r')
noncomputable def Od:bt:=qQ.all λp=>pS.any λk=>aah k p.2
theorem Cs:Od=true:=by kernel_rfl
theorem G4(h:(nm,k)∈qQ):k∈pS:=by have:=aA.mp Cs _ h;refine d9 (dw.mp this) λj b c=>?_;have:=bR c;dsimp only at this;rw[←this];exact b
theorem ve(h:k∈pS):Keeps (iv k) w g:=by simp only[pS,af,ai,a5]at h;rcases h with rfl|rfl|rfl|rfl|rfl|rfl|rfl<;>first|exact uu|exact r8
theorem Lj:iw f [] H=none:=rfl
theorem KS(h:∀e∈es,eo w n (f e) N O (λJ=>cE e J))(hs:noStar es=true)(I:jc N nm=true)(H:look qQ nm=some k):eo w n (Qt k (es.map f)) N O (λJ=>cE (.Call (.Name nm p') es [] p) J):=by intro A E Y x J l v T Q a e q;refine(let m:Prop:=_;(?_:m));refine jV e λU X t B=>?_;refine kg B λd j L=>?_;clear B e;obtain⟨rfl,rfl⟩:=pJ L.symm;have i:=jx H;obtain⟨c,g⟩:=JE w.params i;refine dE (FT a I c g ?_);refine(let m:Prop:=_;(?_:m));induction es using aS with|nil=>obtain⟨rfl,rfl⟩:=CF t;rw[Lj]at j;exact ec j|cons Z es=>refine BL hs a (ve (G4 i)) ?_;refine vN h hs a .refl t λy us s r _ c M=>⟨λb o z=>s.rel.sub _ _ (r.gk _ _ z),?_⟩;exact DV s (G4 i) M ((sY c j)) λz u G C g R=>q z u G (r.trans C) (g.trans c) R
theorem Hz(h:(nm,c,i,b)∈mc)(g:c∈jA){P:bp}:makesIn (KK P) c=true/\ad9 (KK P) (.ref c)=true/\abt (KK P) (.ref c) "__init__"=some (some (.ref i))/\isFn vi (.ref i)=true:=by have d:=aA.mp (sJ P) c g;rw[aI]at d;have e:=xi P;unfold Fg at e;rw[aI]at e;have f:=aA.mp e.1 i (ag.mpr ⟨_,h,rfl⟩);rw[aI]at f;exact⟨d.1,d.2,(uh (aA.mp (CA P) _ h)),f.1⟩
set_option tactic.hygienic true in theorem Bm(R:Rel w x){C i:Nat}{nm:Str}{b:bt}(hm:(nm,C,i,b)∈mc)(hc:C∈jA){us:ab al}{RR:ab8->aM->Prop}(q:∀y,Rel w y->(∀wm,wm<=x.H.length->Le wm fP x y)->y.H=x.H++[.ins []]->y.φ=x.φ++[x.sz]->y.g.get? (x.sz+1)=some (dz C x.sz)->abL (aP pw w) (A.under (.builtin "type.__call__" ⟨.ref C::us,[]⟩)) (.call (.ref i) ⟨.ref (x.sz+1)::us,[]⟩) (InitBack (x.sz+1) RR) y.s):abL (aP pw w) A (.call (.ref C) ⟨us,[]⟩) RR x.s:=by
 obtain⟨m1,m2,m3,m4⟩:=Hz hm hc (P:=w.params);have X:=wN (R.top.keeps R.sub);have gk:∀(b:b5)(o':Obj),x.s.heap.get? b=some o'->((x.s.heap.push aaF).push (dz C x.sz)).get? b=some o':=λb o' e=>Heap.get?_push_of_some _ (Heap.get?_push_of_some _ e);have e1:((x.s.heap.push aaF).push (dz C x.sz)).get? (x.sz+1)=some (dz C x.sz):=by have:=Heap.get?_push_size (x.s.heap.push aaF) (o:=dz C x.sz) rfl;rwa[Heap.size_push]at this
 have e0:((x.s.heap.push aaF).push (dz C x.sz)).get? x.sz=some aaF:=Heap.get?_push_of_some _ (Heap.get?_push_size _ rfl);have f1:x.s.heap.get? (x.sz+1)=none:=by cases z:x.s.heap.get? (x.sz+1)with|none=>rfl|some o=>exact ay (Heap.lt_size z) (by show¬x.sz+1<x.sz;lia)
 have B:(kj ((x.s.heap.push aaF).push (dz C x.sz)) x.g [x.sz+1]).get? x.sz=none:=by cases z:(kj ((x.s.heap.push aaF).push (dz C x.sz)) x.g [x.sz+1]).get? x.sz with|none=>rfl|some o=>cases z2:x.g.get? x.sz with|none=>have:=gK z z2;simp at this|some τ=>exact ay (Heap.lt_size (R.sub _ _ z2)) (cN _)
 have RE:fY w (x.add {x.s with heap:=(x.s.heap.push aaF).push (dz C x.sz)} [x.sz+1] x.sz (.ins [])) x.sz (.ins []):=⟨B,bB _,ab6,[],0,e0,.nil⟩;have mk:∀wm,wm<=x.H.length->Rel w _/\Le wm fP x _:=λwm hw=>Fa (P:=fP) (s':={x.s with heap:=(x.s.heap.push aaF).push (dz C x.sz)}) (as:=[x.sz+1]) R hw gk R.gens rfl (λb hb=>by rw[bu.mp hb];exact f1) ja RE;have fin:=q _ (mk 0 (bB _)).1 (λwm hw=>(mk wm hw).2) rfl rfl (jE (by simp) e1);exact make_core (makes_of X m1) (looks_findIn X m3) (λself=>bind_fn X self (BA m4)) (.inl rfl) fin
theorem rX.under(r:Eh A n)(f:c.weight<=1)(e:c.cUnits=1):rX (A.under c) n:=by
 have b:=r.depth;have d:=r.units;refine⟨r.hh,?_,?_⟩;.show A.depth+c.weight+10*n+5<1000;lia
 .show A.units+c.cUnits+100*n+250<abF;lia
theorem xg(h:look mc nm=some (c,i,b)):(nm,c,i,b)∈mc/\c∈jA:=by have:=jx h;refine⟨this,?_⟩;have:=aA.mp (show(mc.all λp=>jA.any λc=>aah c p.2.1)=true from by kernel_rfl) _ this;refine d9 (dw.mp this) λj d e=>?_;have:=bR e;dsimp only at this;rw[←this];exact d
theorem uI(T:fm w g)(h:c∈jA):Keeps (.ref c) w g:=λd e=>by have b:=aA.mp (sJ w.params) c h;rw[aI]at b;exact keeps_K b.2 d (wN (T.keeps e))
theorem Go(S:Rel w z)(R:Rel w y)(e:z.φ=y.φ++[a]):z.φ[y.H.length]?=some a:=by rw[e,←R.len];exact aaW
theorem FE(e:z.H=H++[c])(h:k<=H.length):k<=z.H.length:=au h (e▸ao▸aH _ _)
theorem yn(h:QR v=some u)(r:Rv w x v a):a=.none:=LS (P:=λv=>Rv w x v a->a=.none) h (λr=>r.eU.AL) r
theorem IS(h:∀e∈es,eo w n (f e) N O (λJ=>cE e J))(hs:noStar es=true)(hg:jc N nm=true)(Z:look mc nm=some (c,i,false)):eo w n (eNew c i (es.map f)) N O (λJ=>cE (.Call (.Name nm p') es [] p) J):=by intro A E Y x J l v H' Q a e q;refine(let m:Prop:=_;(?_:m));refine jV e λU X k1 k2=>jV k2 λv0 H2 k3 k4=>kg k4 λun k5 s=>lK (xg Z) λG g=>?_;refine dE (rG a hg (Gu w.params G) ?_);refine lz h hs a .refl (uI a.rel.top g) k1 λy us d M _ k r1=>?_;refine abW (Bm d.rel G g λz S L t o B=>?_);refine(let m:Prop:=_;(?_:m));have I:z.φ[y.H.length]?=some y.sz:=Go S d.rel o;have j:=L Y.wm d.wm;exact d.call (rX.under d.room (aV 1) rfl) S (FE t d.wm) (sY (t.trans (k▸rfl)) k3) (.cons (k▸.ins g B I) (r1.rQ λv _ u r=>r.le j)) λC u R b T r4=>⟨yn k5 r4,q C _ (d.step R (j.trans b)) (M.trans (j.trans b)) (T.trans (pJ s).2) ((pJ s).1▸k▸.ins g (b.gk _ _ B) (b.Ur _ _ I))⟩
set_option tactic.hygienic true in theorem tR{g:Heap}{fs:ab (Nat×V)}{es:ab cM}{B:ab D}(hh:eC (xe w x) fs es)(h:lN fs=some B)(k:∀b o,x.g.get? b=some o->g.get? b=some o):∃nms,acr es nms/\nms.length=(fs.map (·.1)).length/\(∀p∈nms.zip (fs.map (·.1)),p∈gT)/\fi w g B (es.map (·.val)):=by
 revert B;suffices q:∀B,lN fs=some B->∃nms,acr es nms/\nms.length=(fs.map (·.1)).length/\(∀p∈nms.zip (fs.map (·.1)),p∈gT)/\fi w g B (es.map (·.val))from@q;refine hh.ind (λB h=>so h (Vx [] .nil rfl nofun .nil)) λ{p q fs es}e _ ih B h=>?_;refine iL e λnm t e1 e2 e3=>?_;rcases p with⟨at_,_|_|_⟩<;>try(exact ec h;done)
 rename_i d;refine kg (show(lN fs).map (d::·)=some B from h) λIW h1 z=>BC (ih IW h1) λnms g1 g2 g3 g4=>?_;refine Vx (nm::nms) (.cons e1 g1) (ah (· +1) g2) (λq hq=>(af.mp hq).elim (λe=>e▸e2) (g3 q)) (z▸.cons (e3.eU.keeps k) g4)
noncomputable def Wg(cl i:Nat)(H:Hp):ae Cell->ae (V×Hp)|some (.ins fs)=>if fs.map (·.1)=iK cl then(lN fs).map λB=>(.d (.obj cl B),H.take i)else none|_=>none
theorem zZ{G:V×Hp->Prop}(h:jg cl i H=some r)(k:∀fs B,H[i]?=some (.ins fs)->fs.map (·.1)=iK cl->lN fs=some B->G (.d (.obj cl B),H.take i)):G r:=jX (P:=λo=>H[i]?=o->Wg cl i H o=some r->G r) H[i]? (λ_ h=>ec h) (λ_ _ _ h=>ec h) (λ_ _ _ h=>ec h) (λfs c h=>if1 h λb h=>kg h λB e z=>z▸k fs B c b e) rfl h
theorem LK(R:Rel w y)(S:Rel w z)(n:y.s.heap.get? a=none)(g:z.g.get? a=none)(hz:z.φ[y.H.length]?=some a):Off y (z.cut y.H.length) a:=by refine⟨n,g,λe=>iL e λj d f i b=>?_⟩;have b:(z.φ.take y.H.length)[j]?=some a:=b;have c:j<y.H.length:=bY (aG.mp b).1 (List.length_take_le _ _);rw[aa4,aW c]at b;exact ay (S.inj _ _ _ b hz) (ct c)
theorem Ju(h:∀e∈es,eo w n (f e) N O (λJ=>cE e J))(hs:noStar es=true)(hg:jc N nm=true)(hf:look mc nm=some (c,i,b)):eo w n (NC c i (es.map f)) N O (λJ=>cE (.Call (.Name nm p') es [] p) J):=by intro A E Y x J l v H' Q a e q;refine(let t:Prop:=_;(?_:t));refine jV e λU X k1 k2=>jV k2 λv0 H2 k3 k4=>xh k4 λun k5 k6=>lK (xg hf) λhm I=>?_;refine dE (rG a hg (Gu w.params hm) ?_);refine lz h hs a .refl (uI a.rel.top I) k1 λy us g L1 _ T r1=>?_;refine abW (Bm g.rel hm I λz S L g2 Zt g3=>?_);refine(let t:Prop:=_;(?_:t));have hz:z.φ[y.H.length]?=some y.sz:=Go S g.rel Zt;have L':=L y.H.length (aV _);have Yh:Y.call y.H.length i (.ins c y.H.length::U) (y.H++[.ins []])=some (v0,H2):=T▸k3;refine g.call (wm:=y.H.length) (rX.under g.room (aV 1) rfl) S (FE g2 (aV _)) (sY g2 Yh) (.cons (.ins I g3 hz) (r1.rQ λv _ u r=>r.le L')) λC u M j g4 r4=>?_;refine⟨yn k5 r4,?_⟩;refine(let t:Prop:=_;(?_:t));have o:C.φ[y.H.length]?=some y.sz:=j.Ur _ _ hz;revert q;refine zZ (G:=λr=>(∀z u,At w A n Y z J N O l->Le Y.wm fP x z->z.H=r.2->Rv w z r.1 u->Q u z.s)->Q (.ref (y.sz+1)) C.s) k6 λfs B Z k hp q=>?_;refine CH (M.cell _ _ _ (show C.H[y.H.length]?=some (.ins fs)from sY g4 (sY (ah bq T) Z)) o) λc1 c2 c3 R=>mn R λes' m R c5=>?_;refine pn (DU (wm:=Y.wm) g.rel M (L'.trans j) g.wm) λS5 L5 _=>?_;refine Sq (Gv L5 S5 (LK g.rel M ja c1 o)) λz2 e1 e2 S6 L6 o1 o2=>?_;exact BC (tR c5 hp o1) λnms f1 f2 f3 f4=>sZ (P:=λs=>Q (.ref (y.sz+1)) s) e1 (q z2 (.ref (y.sz+1)) (g.step S6 L6) (L1.trans L6) (e2.trans (show C.H.take y.H.length=H2.take X.length from g4▸T▸rfl)) (.d (.obj (o1 _ _ (j.gk _ _ g3)) (o2 _ R) f1 (f2.trans (ah bq k)) (sZ k f3) I f4)))
end
section
variable{w:bO}{n:Nat}{x y z y0:Sx}{wm:Nat}{P P':b5->Prop}{A:bI}{E:al->aM->Prop}{Y:Cx}{J:Env}{N:b7}{O:ab Str}{l:Loc}
structure IT(w:bO)(wm:Nat)(P:b5->Prop)(x y0 y:Sx)(I:b5)(fp:ab b5)(St:Nat->Heap->Prop)(i:Nat):Prop where
 le:Le wm P x y
 gk:∀b o,y0.g.get? b=some o->y.g.get? b=some o
 st:St i y.s.heap
 off:Off x y I
variable{I:b5}{fp:ab b5}{St:Nat->Heap->Prop}{Pi:Nat->al->Prop}{B:ab D}{i:Nat}
theorem IT.start(L:Le wm P x y0)(T:tF w A x y0 I B fp Pi St):IT w wm P x y0 y0 I fp St 0:=⟨L,λ_ _ e=>e,T.st,T.off⟩
theorem IT.frame(h:IT w wm P x y0 y I fp St i)(T:tF w A x y0 I B fp Pi St)(R:Rel w y)(j:∀o,y.s.heap.get? I=some o->h'.get? I=some o)(k:∀b o,y.g.get? b=some o->h'.get? b=some o):St i h':=by
 refine T.walk.frame _ _ _ h.st λb hb o e=>?_;rcases T.YZ b hb with rfl|⟨f,c⟩;.exact j o e
 .have d:=h.gk b f c;rw[(R.sub b f d)]at e;refine so e ?_;exact k b _ d
theorem IT.step(h:IT w wm P x y0 y I fp St i)(T:tF w A x y0 I B fp Pi St)(R:Rel w y)(L:Le wm P y z)(S:Rel w z)(c:¬P I):IT w wm P x y0 z I fp St i:=by refine nH (T.live i _ h.st) λo ho=>?_;exact⟨h.le.trans L,λb o e=>L.gk b o (h.gk b o e),h.frame T R (λo e=>L.keep I o e h.off.2.2 c) (λb o e=>S.sub b o (L.gk b o e)),h.off.le ho L⟩
set_option tactic.hygienic true in theorem IT.put(h:IT w wm P x y0 y I fp St i)(T:tF w A x y0 I B fp Pi St)(R:Rel w y){Z:b5->Prop}{s':aM}(hz:∀b,Z b->Off x y b)(k:∀b o,¬Z b->y.s.heap.get? b=some o->s'.heap.get? b=some o)(hg:s'.gens=#[])(ho:s'.os=y.s.os){j:Nat}(hs:St j s'.heap):Rel w ⟨y.g,y.φ,y.H,s'⟩/\IT w wm P x y0 ⟨y.g,y.φ,y.H,s'⟩ I fp St j:=by obtain⟨S,L⟩:=h.le.off R hz k hg ho;exact⟨S,L,h.gk,hs,h.off⟩
theorem xC{b:ab PySem.Expr}:(forIn b false λc r=>if r=true then do let d←aau c J (cE c J);pure (bH d)else pure (bH r):Sem bt)=pure false:=by induction b with|nil=>rfl|cons c e ih=>rw[aam];show(pure (bH false)>>=_)=_;exact ih
theorem IF{f:PySem.Expr->MT}:∀{d:ab PySem.Expr},(∀e∈d,mw w n (f e) N O (λJ=>aau e J (cE e J)))->∀{A:bI}{E:al->aM->Prop}{Y:Cx}{x:Sx}{J:Env}{l:Loc}{b:bt}{g:Hp}{Q:bt->aM->Prop},At w A n Y x J N O l->gO (d.map f) Y l x.H=some (b,g)->(∀y,At w A n Y y J N O l->Le Y.wm fP x y->y.H=g->Q b y.s)->aR (aP pw w) A (forIn d true λc r=>if r=true then do let R←aau c J (cE c J);pure (bH R)else pure (bH r)) Q E x.s:=by intro d;induction d with|nil=>intro _ A E Y x J l b g Q a e q;revert q;refine sP e λq=>?_;exact aQ (q x a .refl rfl)|cons c G ih=>intro h A E Y x J l b g Q a e q;refine jV e λm X p e=>?_;rw[aam];refine aB (aB (h c aF a p λy k j o=>aQ ?_));show aR _ _ (forIn G m _) Q E y.s;clear p;induction m using aY with|true=>exact ih (λe M=>h e (ax _ M)) k (by rw[o];exact e) λz C t L=>q z C (j.trans t) L|false=>obtain⟨rfl,rfl⟩:=CF e;rw[xC];exact aQ (q y k j o)
structure CP where
 w:bO
 A:bI
 elt:PySem.Expr
 target:PySem.Expr
 ifs:ab PySem.Expr
 it:al
 acc:al
 env:Env
 R:ab8->aM->Prop
 I:Nat->aM->Prop
noncomputable def CP.ex(c:CP):al->aM->Prop:=notedBy (aP pw c.w) c.A c.env λe s'=>c.R (.error e) s'
noncomputable def CP.I'(c:CP)(n:Nat)(s:aM):Prop:=∃m,m<n/\c.I m s
noncomputable def CP.wp(c:CP){b:Type}(m:Sem b)(Q:b->aM->Prop)(s:aM):Prop:=aR (aP pw c.w) c.A m Q c.ex s
noncomputable def CP.T5(c:CP)(n:Nat)(x:al)(s:aM):Prop:=c.wp (call (.builtin "list.append") [c.acc,x]) (λ_=>c.I' n) s
noncomputable def CP.T4(c:CP)(n:Nat)(ok:bt)(s:aM):Prop:=if ok=true then c.wp (cE c.elt c.env) (c.T5 n) s else c.I' n s
noncomputable def CP.T3(c:CP)(n:Nat)(_:agO)(s:aM):Prop:=c.wp (forIn c.ifs true λe r=>if r=true then do let ok←aau e c.env (cE e c.env);pure (bH ok)else pure (bH r)) (c.T4 n) s
noncomputable def CP.T2(c:CP)(n:Nat)(v:al)(_:agO)(s:aM):Prop:=c.wp (afi c.target c.env v) (c.T3 n) s
noncomputable def CP.T1(c:CP)(n:Nat)(r:ae al)(s:aM):Prop:=match r with|none=>c.R (.ok .next) s|some v=>c.wp (abG c.target c.it v) (c.T2 n v) s
theorem CP.Y0{c:CP}(h:c.I' n s):c.T4 n false s:=Eq.mpr (aZ cH) h
theorem CP.YY{c:CP}(h:c.wp (cE c.elt c.env) (c.T5 n) s):c.T4 n true s:=Eq.mpr (aW rfl) h
theorem m'(c:CP)(turn:∀n s,c.I n s->c.wp (pyNext c.it) (c.T1 n) s)(n:Nat)(h:c.I n s):abL (aP pw c.w) c.A (.compLoop (.ListComp c.elt [⟨c.target,t,c.ifs,0⟩] L j) 0 c.it c.acc c.env) c.R s:=by refine codeAny_loop rfl c.I (λn s H=>?_) n h;show aR _ c.A ((compTurn (.ListComp c.elt [⟨c.target,t,c.ifs,0⟩] L j) 0 c.it c.acc c.env).onRaise (λx=>do noteFrame x c.env;theTreesLotGoes x)) _ _ s;refine wpAny_noted ?_;rw[compTurn_list];refine aB (aaq (aB (cy (turn n s H) (λr o b=>?_) λ_ _ d=>d)));induction r using cC with|none=>exact aQ b|some v=>refine aB (cy b (λ_ m b=>?_) λ_ _ d=>d);refine aB (cy b (λ_ p f=>aB (cy f (λM q e=>?_) λ_ _ d=>d)) λ_ _ d=>d);induction M using aY with|false=>exact aQ ⟨rfl,e⟩|true=>exact aB (aB (cy e (λx C g=>aB (cy g (λ_ G k=>aQ (aQ ⟨rfl,k⟩)) λ_ _ d=>d)) λ_ _ d=>d))
structure CL(w:bO)(y:Sx)(x:Sx)(I Da C:b5)(zs:ab D)(i:Nat)(U:dv al):Prop where
 acc:y.s.heap.PlainList Da U
 sz:U.size<=i
 IV:fi w y.g zs U.toList
 oD:Off x y Da
 oC:Off x y C
 lC:∃o,y.s.heap.get? C=some o
theorem CL.step(c:CL w y x I Da C d i U)(L:Le wm P y z)(b:¬P Da):CL w z x I Da C d i U:=by refine nH (c.acc) λk hk=>?_;obtain⟨o,ho⟩:=c.lC;exact⟨⟨k,L.keep _ _ hk c.oD.2.2 b⟩,c.sz,c.IV.keeps L.gk,c.oD.le hk L,c.oC.le ho L,L.live _ _ ho⟩
theorem CL.put(c:CL w y x I Da C m i U){Z:b5->Prop}(f:¬Z Da)(d:¬Z C)(k:∀b o,¬Z b->y.s.heap.get? b=some o->s'.heap.get? b=some o):CL w ⟨y.g,y.φ,y.H,s'⟩ x I Da C m i U:=by refine nH (c.acc) λe j=>?_;obtain⟨o,ho⟩:=c.lC;exact⟨⟨e,k _ _ f j⟩,c.sz,c.IV,c.oD,c.oC,⟨o,k _ _ d ho⟩⟩
theorem AX(h:B[i]?=some d):B.drop i=d::B.drop (i+1):=nH (aG.mp h) λb e=>e▸List.drop_eq_getElem_cons b
theorem IT.W9(h:IT w wm P x y0 y I fp St i)(T:tF w A x y0 I B fp Pi St)(a:At w A n Y y J N O l)(p:¬jL J I)(hs:St j h')(k:∀b o,b∉[I]->y.s.heap.get? b=some o->h'.get? b=some o){G:aM->Prop}(κ:∀s',At w A n Y ⟨y.g,y.φ,y.H,s'⟩ J N O l->IT w wm P x y0 ⟨y.g,y.φ,y.H,s'⟩ I fp St j->(∀b o,¬b=I->y.s.heap.get? b=some o->s'.heap.get? b=some o)->G s'):G {y.s with heap:=h',toks:=tk}:=have c:∀b o,¬b=I->y.s.heap.get? b=some o->h'.get? b=some o:=λb o hb e=>k b o (λm=>hb (kE m)) e;lK (h.put T a.rel (Z:=λb=>b=I) (s':={y.s with heap:=h',toks:=tk}) (λb e=>e▸h.off) c a.rel.gens rfl hs) λf d=>κ _ ⟨a.room,a.call,a.wm,f,a.env.off (Z:=λb=>b=I) (λb e=>e▸p) c⟩ d c
theorem IT.stop(h:IT w wm P x y0 y I fp St i)(a:At w A n Y y J N O l)(j:¬jL J I)(k:∀b o,b∉[I]->y.s.heap.get? b=some o->h'.get? b=some o){G:aM->Prop}(κ:∀s',At w A n Y ⟨y.g,y.φ,y.H,s'⟩ J N O l->Le wm P x ⟨y.g,y.φ,y.H,s'⟩->(∀b o,¬b=I->y.s.heap.get? b=some o->s'.heap.get? b=some o)->G s'):G {y.s with heap:=h',toks:=tk}:=have c:∀b o,¬b=I->y.s.heap.get? b=some o->h'.get? b=some o:=λb o hb e=>k b o (λm=>hb (kE m)) e;lK (h.le.off a.rel (Z:=λb=>b=I) (s':={y.s with heap:=h',toks:=tk}) (λb e=>e▸h.off) c a.rel.gens rfl) λf d=>κ _ ⟨a.room,a.call,a.wm,f,a.env.off (Z:=λb=>b=I) (λb e=>e▸j) c⟩ d c
inductive Wu(w:bO)(A:bI)(n:Nat)(Y:Cx)(x y0:Sx)(I:b5)(fp:ab b5)(St:Nat->Heap->Prop)(Da:b5)(f:Env)(G:b7)(m:ab Str)(B all:ab D)(Hf:Hp)(g:ab D->Loc->Hp->ae (ab D×Hp)):Nat->aM->Prop|mk(y:Sx)(l2:Loc)(i:Nat)(U:dv al)(zs UE:ab D)(hi:i<=B.length)(a:At w A n Y y f G m l2)(I1:IT w Y.wm fP x y0 y I fp St i)(C:CL w y x I Da f.locals zs i U)(c:g (B.drop i) l2 y.H=some (UE,Hf))(e:all=zs++UE):Wu w A n Y x y0 I fp St Da f G m B all Hf g (B.length-i) y.s
section
variable{elt M t:PySem.Expr}{ifs:ab PySem.Expr}{L:b7}{j:Pos}{f:Env}{me:ME}{tg:Tg}{ft:PySem.Expr->MT}{G:b7}{m:ab Str}(he:eo w n me G m (λJ=>cE elt J))(Mz:∀e∈ifs,mw w n (ft e) G m (λJ=>aau e J (cE e J)))(IH:qa m M=some tg)(NO:∀nm∈ej M,GA G nm)(T:tF w A x y0 I B fp Pi St){Da:b5}(RM:I≠Da)(QN:I≠f.locals)(Tr:Da≠f.locals)(hE:∀b,x.s.heap.get? b=none->b≠f.locals->¬jL f b)(WE:B.length<=bg){all:ab D}{Hf:Hp}{R:ab8->aM->Prop}
include he Mz IH NO T RM QN Tr hE WE
theorem Cq{l2:Loc}{U:dv al}{a C:ab D}{d:D}{v:al}(p:i<B.length)(a2:At w A n Y y f G m l2)(I2:IT w Y.wm fP x y0 y I fp St (i+1))(C2:CL w y x I Da f.locals a i U)(hr:Rd w y.g d v)(c:fa me tg (gO (ifs.map ft)) Y (d::B.drop (i+1)) l2 y.H=some (C,Hf))(e:all=a++C):aR (aP pw w) A (afi M f v) (CP.T3 ⟨w,A,elt,M,ifs,.ref I,.ref Da,f,R,Wu w A n Y x y0 I fp St Da f G m B all Hf (fa me tg (gO (ifs.map ft)) Y)⟩ (B.length-i)) E y.s:=by refine xh (show ck (hO tg d l2) _=some (C,Hf)from c) λl3 k2 c=>jV c λb H3 k3 c=>?_;refine HC (wm:=Y.wm) zC a2.room.hh a2.rel a2.env IH NO hr k2 λy3 R3 L3 g3 X3=>?_;have I3:IT w Y.wm (λb=>b=f.locals) x y0 y3 I fp St (i+1):=(IT.mk (I2.le.weak λ_ z=>z.elim) I2.gk I2.st I2.off:IT w Y.wm (λb=>b=f.locals) x y0 y I fp St (i+1)).step T a2.rel L3 R3 QN;have C3:=C2.step L3 Tr;refine IF Mz (⟨a2.room,a2.call,sY g3 a2.wm,R3,X3⟩) (sY g3 k3) λy4 a4 L4 g4=>?_;have I4:=(show IT w Y.wm fP x y0 y3 I fp St (i+1)from⟨I3.le.D7 (λb e=>e▸C3.oC.1),I3.gk,I3.st,I3.off⟩).step T R3 L4 a4.rel (λq=>q);have h:=C3.step L4 (λq=>q);have dn:B.length-(i+1)<B.length-i:=acf p (cW i);clear C3 I3 I2 C2 hr k2 k3;induction b using aY with|false=>exact CP.Y0 (i12 _ dn (.mk y4 l3 (i+1) U a C p a4 I4 ⟨h.acc,aaz h.sz,h.IV,h.oD,h.oC,h.lC⟩ (sY g4 c) e))|true=>refine CP.YY (jV c λr H5 k4 c=>yr c λq' H6 k5 c=>eo.dat he a4 .refl (sY g4 k4) λX u Q L5 _ g5 r5=>?_);have I5:=I4.step T a4.rel L5 Q.rel (λq=>q);have k:=h.step L5 (λq=>q);refine abq k.acc (λh5 hp hs=>?_) (au k.sz (au (aaH p) WE));have k6:∀b o,¬b=Da->X.s.heap.get? b=some o->h5.get? b=some o:=λb o hb e=>hs.extBut b o hb e;refine lK (I5.put T Q.rel (Z:=λb=>b=Da) (s':={X.s with heap:=h5}) (λb e=>e▸k.oD) k6 Q.rel.gens rfl (I5.frame T Q.rel (λo e=>k6 _ _ RM e) λb o e=>k6 b o (λz=>ec (k.oD.2.1.symm.trans (z▸e))) (Q.rel.sub b o e))) λR6 I6=>?_;exact i12 _ dn (.mk ⟨X.g,X.φ,X.H,{X.s with heap:=h5}⟩ l3 (i+1) (U.push u) (a++[r]) q' p ⟨Q.room,Q.call,Q.wm,R6,Q.env.off (Z:=λb=>b=Da) (λb e=>sY e (hE _ k.oD.1 Tr)) k6⟩ I6 ⟨hp,adj u▸aby k.sz,sY (P:=λl=>fi w X.g (a++[r]) l) acK (k.IV.snoc r5),k.oD,k.oC,k.lC.imp λo=>k6 _ o (abn Tr)⟩ (show fa me tg (gO (ifs.map ft)) Y (B.drop (i+1)) l3 X.H=some (q',Hf)from sY g5 (k5.trans (ah (λH=>some (q',H)) (pJ c).2))) (e.trans ((pJ c).1▸acW a r q')))
theorem CK(fin:∀y c U,Rel w y->Le Y.wm fP x y->fU w y f G m c->y.H=Hf->CL w y x I Da f.locals all B.length U->R (.ok .next) y.s){y:Sx}{c:Loc}(a:At w A n Y y f G m c)(hI:IT w Y.wm fP x y0 y I fp St 0)(hC:CL w y x I Da f.locals [] 0 #[])(hc:fa me tg (gO (ifs.map ft)) Y B c y.H=some (all,Hf)):abL (aP pw w) A (.compLoop (.ListComp elt [⟨M,t,ifs,0⟩] L j) 0 (.ref I) (.ref Da) f) R y.s:=by
 refine m' ⟨w,A,elt,M,ifs,.ref I,.ref Da,f,R,Wu w A n Y x y0 I fp St Da f G m B all Hf (fa me tg (gO (ifs.map ft)) Y)⟩ (λk s F=>?_) B.length (.mk y c 0 #[] [] all (bB _) a hI hC hc rfl);clear hC hc hI a;have nI:¬jL f I:=hE _ T.off.1 QN;induction F with
 |mk y c i U zs UE hi a1 q C1 c1 e1=>
  refine(df i B.length).elim (λp=>T.walk.item i _ _ _ p q.st λv h' tk hv X Q=>?_) λo=>T.walk.done _ _ _ (aan hi o▸q.st) λh' tk Q=>?_;.exact q.W9 T a1 nI X Q λs' r C h=>T.go _ _ _ _ _ _ C.st (d9 (T.item i v p hv) λd hd hr=>Cq he Mz IH NO T RM QN Tr hE WE p r C (C1.put (Z:=λb=>b=I) (abn RM) (abn QN) h) (hr.keeps C.gk) (AX hd▸c1) e1)
  .have h2:=CF (show some (([]:ab D),y.H)=some (UE,Hf)from(ah (fa me tg (gO (ifs.map ft)) Y · c y.H) (abB o)).symm.trans c1);exact q.stop a1 nI Q λs' r L2 h=>fin ⟨y.g,y.φ,y.H,s'⟩ c U r.rel L2 r.env h2.2 ((e1.trans (h2.1▸aL zs))▸aan hi o▸C1.put (Z:=λb=>b=I) (abn RM) (abn QN) h)
end
end
section
variable{w:bO}{n:Nat}{x y z y0:Sx}{wm:Nat}{P P':b5->Prop}{A:bI}{E:al->aM->Prop}{Y:Cx}{J:Env}{N:b7}{O:ab Str}{l:Loc}
theorem x7{J:Env}:∀(b:ab (Str×ac7))(cs:ab (Str×b5)),(∀nm,(nm,cn)∈b->∃c,J.cells.lookup nm=some c)->(∀p∈cs,J.cells.lookup p.1=some p.2)->∃cl,(forIn b cs λx r=>match x with|(f,j)=>if(j==cn)=true then do let c←cellOf J f;pure (bH ((f,c)::r))else pure (bH r):Sem (ab (Str×b5)))=pure cl/\(∀p∈cl,J.cells.lookup p.1=some p.2)/\(∀p∈cs,p∈cl)/\∀nm,(nm,cn)∈b->∃c,(nm,c)∈cl:=by
 intro b;induction b with
 |nil=>intro cs _ o;exact⟨cs,rfl,o,λ_ h=>h,λ_ h=>by exact kr h⟩|cons C r ih=>
  rcases C with⟨nm,k⟩;intro cs h o;simp only[aam];refine(let H:Prop:=_;(?_:H));by_cases G:k=.free;.
   subst G;obtain⟨c,e⟩:=h nm aF;refine BC (ih ((nm,c)::cs) (λg d=>h g (ax _ d)) (λp i=>by
    rcases af.mp i with rfl|i;.exact e
    .exact o p i)) λcl s t m B=>?_;refine i12 cl ?_ ⟨t,λp i=>m p (ax _ i),λg d=>?_⟩;.
    have:cellOf J nm=pure c:=by unfold cellOf;rw[e]
    simp only[dr,adl,this,pure_bind];exact s
   .rcases af.mp d with q|d;.cases q;exact⟨c,m _ aF⟩
    .exact B g d
  .refine BC (ih cs (λg d=>h g (ax _ d)) o) λcl s t m B=>?_;refine i12 cl ?_ ⟨t,m,λg d=>?_⟩;.simp only[(show(k==cn)=false from by simpa using G),aa6,aez,pure_bind];exact s
   .clear h;rcases af.mp d with q|d;.cases q;exact ay rfl G
    .exact B g d
theorem yy(h:∀nm,(nm,cn)∈G.names->∃c,J.cells.lookup nm=some c):∃cl,closureFor G J=pure cl/\(∀p∈cl,J.cells.lookup p.1=some p.2)/\∀nm,(nm,cn)∈G.names->∃c,(nm,c)∈cl:=by refine(let i:Prop:=_;(?_:i));refine BC (x7 G.names [] h (λp g=>by exact kr g)) λcl d e _ f=>?_;refine i12 cl ?_ ⟨e,f⟩;exact(ah (· >>=λb=>pure b) d).trans (rfl)
theorem qm{cl:ab (Str×b5)}(h:∀p∈cl,J.cells.lookup p.1=some p.2):∀{nm:Str}{c:b5},cl.lookup nm=some c->J.cells.lookup nm=some c:=λe=>h _ (mem_of_lookup e)
theorem ju:∀{cl:ab (Str×b5)}{nm:Str}{c:b5},(nm,c)∈cl->∃b,cl.lookup nm=some b
 |(k,v)::r,nm,c,h=>by
  refine sY br ?_;cases d:nm==k with
  |true=>exact⟨v,rfl⟩|false=>
   rcases af.mp h with q|h;.obtain⟨rfl,rfl⟩:=pJ q;simp at d
   .exact ju h
theorem FH(hs:J.scope=N)(c:N.kind=.function):aek G J=iX N G:=by unfold aek iX;congr 1;refine bG λp _=>?_;obtain⟨b,k⟩:=p;dsimp only;refine sY (show J.kindOf b=N.names.lookup b from by unfold abf;rw[hs]) ?_;refine sY (show(J.scope.kind==.function)=true from by rw[hs,c];rfl) ?_;rw[gw,aew];generalize aaC b N.names=o;induction o using cC with|none=>rfl|some k=>rcases k with⟨⟩<;>rfl
structure Gl(sc G:b7)(O ts:ab Str):Prop where
 k':G.kind=.function
 k:sc.kind=.function
 EP:∀p∈G.names,p.2≠.cell
 loc:∀nm,(nm,NameKind.local)∈G.names->G.names.lookup nm=some .local/\(nm∈ts\/ey O nm=none)
 free:∀nm,(nm,cn)∈G.names->(sc.names.lookup nm=some .cell\/sc.names.lookup nm=some .free)/\∃i,ey O nm=some i
 Xd:∀t∈ts,G.names.lookup t=some .local
theorem B2(h:og N G O ts=true):Gl N G O ts:=by
 unfold og at h;rw[aI,aI,aI]at h;obtain⟨⟨⟨j,k⟩,g⟩,q⟩:=h;refine⟨?_,?_,?_,?_,?_,?_⟩;.
  split at j;.assumption
  .exact fO j
 .split at k;.assumption
  .exact fO k
 .intro p d e;have:=aA.mp g p d;rw[e]at this;exact fO this
 .intro s d;have:=aA.mp g _ d;dsimp only at this;rw[aI,dG,gw]at this;obtain⟨f,b⟩:=this;refine⟨?_,?_⟩;.
   split at f;.assumption
   .exact fO f
  .rcases b with b|b;.refine d9 (dw.mp b) λt o i=>?_;rw[PySem.W.Fast.sEq_iff]at i;exact .inl (i▸o)
   .exact .inr (by simpa using b)
 .intro s d;have:=aA.mp g _ d;dsimp only at this;rw[aI,aI,gw]at this;obtain⟨⟨f,b⟩,m⟩:=this;obtain⟨_,c⟩:=m6 f;refine⟨?_,dc.mp m⟩;rcases c with c|c;.rw[c]at b;exact fO b
  .exact c
 .intro t r;have:=aA.mp q t r;rw[gw]at this;split at this;.assumption
  .exact fO this
theorem BN(N G:b7):∃g:Str->bt,(iX N G).names=G.names.map λp=>if p.2==cn&&g p.1then(p.1,acw)else p:=⟨λb=>match nR N b with|some .cell=>true|_=>false,rfl⟩
theorem kQ:(iX N G).names.lookup nm=some .local↔G.names.lookup nm=some .local:=by
 refine nH (BN N G) λg d=>?_;refine sY d ?_;generalize G.names=l;induction l with
 |nil=>simp|cons p r ih=>
  obtain⟨k,v⟩:=p;refine sY ar ?_;by_cases b:(v==cn&&g k)=true;.rw[aW b,br,br];rw[aI]at b;cases c:nm==k with|true=>simp[(show v=.free from by simpa using b.1)]|false=>exact ih
  .rw[aZ b,br,br];cases c:nm==k with|true=>rfl|false=>exact ih
theorem y6(c:∀p∈G.names,p.2≠.cell)(h:(iX N G).names.lookup nm=some .cell\/(iX N G).names.lookup nm=some .free):(nm,cn)∈G.names:=by
 obtain⟨g,f⟩:=BN N G;rw[f]at h;clear f;generalize G.names=l at h c;induction l with
 |nil=>simp at h|cons p r ih=>
  obtain⟨k,v⟩:=p;rw[ar]at h;by_cases d:(v==cn&&g k)=true;.
   rw[aW d,br]at h;rw[aI]at d;have i:v=.free:=by simpa using d.1
   cases i;cases b:nm==k with|true=>rw[bP.mp b];exact aF|false=>rw[b]at h;exact ax _ (ih h λp e=>c p (ax _ e))
  .rw[aZ d,br]at h;cases b:nm==k with
   |true=>
    simp only[b]at h;rw[(bP.mp b)];have:=c _ aF;rcases h with h|h;.obtain rfl:=sI h;exact ay rfl this
    .refine so h ?_;exact aF|false=>rw[b]at h;exact ax _ (ih h λp e=>c p (ax _ e))
theorem m5{O ts:ab Str}{nm:Str}:ey (O++ts) nm=match fw ts O.length nm with|some i=>some i|none=>ey O nm:=by unfold ey;rw[rl,bS];try(cases fw ts O.length nm<;>rfl)
theorem nQ:∀{ts:ab Str}{n:Nat}{nm:Str},nm∉ts->fw ts n nm=none:=by intro ts;induction ts with|nil=>intro _ _ _;exact rfl|cons y r ih=>intro n nm h;unfold fw;rw[ih λq=>h (ax _ q)];dsimp only;rw[aZ];intro q;rw[PySem.W.Fast.sEq_iff]at q;exact h (q▸aF)
theorem ED(X:fU w x J N O l)(K:Gl N G O ts)(e:∀p∈cl,J.cells.lookup p.1=some p.2)(m:∀nm,(nm,cn)∈G.names->∃c,(nm,c)∈cl)(U:f.scope=aek G J)(Z:f.globals=J.globals)(h:f.builtins=J.builtins)(C:f.cells=cl)(I:x.s.heap.Ns f.locals (λ_=>none))(ho:x.g.get? f.locals=none/\¬x.mu f.locals)(hL:∀p∈J.cells,p.2≠f.locals):fU w x f (iX N G) (O++ts) (l++bL ts.length none):=by
 have B:∀p∈cl,p∈J.cells:=λp t=>mem_of_lookup (e p t);refine⟨U.trans (FH X.scope K.k),K.k',Z.trans X.globals,h.trans X.builtins,by simp[X.len],⟨_,I,λnm i v b d Q=>?_⟩,λnm i b d=>?_,λnm L c b d=>?_,ho,λp t=>?_⟩;.
  exfalso;rw[kQ]at d;obtain⟨_,q⟩:=K.loc nm (mem_of_lookup d);rw[m5]at b;by_cases o:nm∈ts;.obtain⟨j,T⟩:=dc.mp (oH (n:=O.length) o);rw[T]at b;obtain rfl:=(sI b).symm;have:=(o7 T).1;rw[bk ((sY X.len this)),abm]at Q;exact if1 Q λ_ z=>nomatch z
  .rw[nQ o]at b;rcases q with q|q;.exact o q
   .dsimp only at b;rw[q]at b;exact ec b
 .refine hd λ_ M=>?_;have R:=y6 K.EP d;obtain⟨k1,j,k2⟩:=K.free nm R;have o:nm∉ts:=λo=>by
   have:=K.Xd nm o;rcases d with d|d;.rw[kQ.mpr this]at d;exact ay d (by decide)
   .rw[kQ.mpr this]at d;exact ay d (by decide)
  rw[m5,nQ o]at b;dsimp only at b;refine iL (X.cell nm i b k1) λc vo a g2 g3=>?_;obtain⟨c1,H⟩:=m nm R;obtain⟨c2,r⟩:=ju H;have:=qm e r;rw[a]at this;obtain rfl:=sI this;refine M ?_;refine jR c vo ⟨(sY C r),g2,λv hv=>g3 v ?_⟩;rwa[aU (by rw[X.len];exact oh b)]at hv
 .rw[C]at b d;exact X.apart nm L c (qm e b) (qm e d)
 .rw[C]at t;refine CH (X.ie p (B p t)) λq1 q2 q3 q4=>?_;exact⟨q1,q2,hL p (B p t),q4⟩
theorem Eu(h:iY t=true)(J:Env)(v:al):foldedSetIterable t J v=pure v:=by rcases t with⟨⟩<;>first|(exact fO h;done)|rfl
set_option tactic.hygienic true in theorem wG(a:At w A n Y x J N O l){elt M t:PySem.Expr}{ifs:ab PySem.Expr}{G:b7}{j pos':Pos}{me:ME}{d:MI}{tg:Tg}{ft:PySem.Expr->MT}{use:ae (al->Sem agO)}{Q:al->aM->Prop}(hk:og N G O (ej M)=true)(hs:iY t=true)(hi:xU w n d N O (λJ=>cE t J))(he:eo w n me (iX N G) (O++ej M) (λJ=>cE elt J))(Mz:∀e∈ifs,mw w n (ft e) (iX N G) (O++ej M) (λJ=>aau e J (cE e J)))(IH:qa (O++ej M) M=some tg){all:ab D}{Hf:Hp}(e:((d Y l x.H).bind λr=>fa me tg (gO (ifs.map ft)) Y r.1 (l++bL (ej M).length none) r.2)=some (all,Hf))(fin:∀y Da C U,Rel w y->Le Y.wm fP x y->y.H=Hf->y.s.heap.PlainList Da U->U.size<=bg->fi w y.g all U.toList->Off x y Da->Off x y C->Da≠C->(∃m,y.s.heap.Ns C m)->compPost (aP pw w) A E use Q (.ref Da) C (.ok .next) y.s):aR (aP pw w) A (comprehension (.ListComp elt [⟨M,t,ifs,0⟩] G j) G J pos' (newList []) false (cE t J) use) Q E x.s:=by
 refine(let γ:Prop:=_;(?_:γ));refine jV e λB X k1 k2=>?_;have K:=B2 hk;refine j7 (yy (J:=J) (G:=G) λnm hm=>by obtain⟨g1,i,g2⟩:=K.free nm hm;refine mn (a.env.cell nm i g2 g1) λc vo g3 _=>?_;exact⟨c,g3⟩) λcl Y' RI Wi=>?_;refine wpAny_comprehension_free (g:=⟨M,t,ifs,0⟩) (gs:=[]) rfl (Eu hs J) Y' K.k' (λp hp hl=>(K.loc p.1 ((sZ hl hp))).1) (hi a k1 λy I fp Pi St a1 L1 g1 hz T=>?_);refine wpAny_newObj_type (wpAny_newFunctionEnv K.EP (by intro p hp;exact kr hp) (λh1 NT T9=>?_) K.k');have ZN:(y.s.heap.push {cls:=.type "list",dict:=none,data:=.seq ([]:ab al).toArray}).objs.size=y.sz+1:=Heap.size_push ..;rw[ZN]at NT T9⊢;have old:∀b o,y.s.heap.get? b=some o->h1.get? b=some o:=λb o e=>T9.extBut b o (ct (abd (Heap.lt_size e))) (Heap.get?_push_of_some _ (Heap.get?_push_of_some _ e));have Ww:h1.PlainList y.sz #[]:=⟨_,T9.extBut _ _ (ct (cW _)) (Heap.get?_push_of_some _ (Heap.get?_push_size _ rfl))⟩;have hC:∃o,h1.get? (y.sz+1)=some o:=by obtain⟨o,_,_,ho,_⟩:=NT;exact⟨o,ho⟩
 have fC:y.s.heap.get? (y.sz+1)=none:=by cases z:y.s.heap.get? (y.sz+1)with|none=>rfl|some o=>exact ay (Heap.lt_size z) (by show¬y.sz+1<y.sz;lia)
 clear T9;refine lK (iE (wm:=Y.wm) (P:=fP) (s':={y.s with heap:=h1,toks:=y.s.toks+([]:ab (Str×al)).length}) (as:=[]) a1.rel old a1.rel.gens rfl (λb hb=>by exact kr hb)) λR2 L2=>?_;have oD:Off x (y.grow {y.s with heap:=h1,toks:=y.s.toks+([]:ab (Str×al)).length} []) y.sz:=Off.new L1 a1.rel ja old;have oC:Off x (y.grow {y.s with heap:=h1,toks:=y.s.toks+([]:ab (Str×al)).length} []) (y.sz+1):=Off.new L1 a1.rel fC old;have hG:(y.grow {y.s with heap:=h1,toks:=y.s.toks+([]:ab (Str×al)).length} []).H=X:=g1;have hS:(y.grow {y.s with heap:=h1,toks:=y.s.toks+([]:ab (Str×al)).length} []).s.heap=h1:=rfl;show abL _ _ _ _ (y.grow {y.s with heap:=h1,toks:=y.s.toks+([]:ab (Str×al)).length} []).s;have X0:=a.env.Up (L1.trans L2);have I0:=(IT.start L1 T).step T a1.rel L2 R2 (λq=>q);have XB:Y.wm<=(y.grow {y.s with heap:=h1,toks:=y.s.toks+([]:ab (Str×al)).length} []).H.length:=a1.wm;generalize(y.grow {y.s with heap:=h1,toks:=y.s.toks+([]:ab (Str×al)).length} [])=y2 at R2 L2 oD oC hG hS X0 I0 XB;subst hS;have SI:I<y.sz:=by obtain⟨o,ho⟩:=T.live 0 _ T.st;exact Heap.lt_size ho
 have X2:=ED X0 K RI Wi (f:={newEnv G (y.sz+1) J.globals cl J.qual none .none (some J) ab0 with scope:=aek G J}) rfl rfl rfl rfl NT ⟨oC.2.1,oC.2.2⟩ (λp hp e=>by obtain⟨_,_,_,vo,o,ho,_⟩:=a.env.ie p hp;rw[(show p.2=y.sz+1from e),oC.1]at ho;exact ec ho);have loop:abL (aP pw w) A (.compLoop (.ListComp elt [⟨M,t,ifs,0⟩] G j) 0 (.ref I) (.ref y.sz) {newEnv G (y.sz+1) J.globals cl J.qual none .none (some J) ab0 with scope:=aek G J}) (compPost (aP pw w) A E use Q (.ref y.sz) (y.sz+1)) y2.s:=by
  refine CK he Mz IH (λnm hm=>kQ.mpr (K.Xd nm hm)) T (Da:=y.sz) (ct SI) (show I≠y.sz+1from ct (abd SI)) (show y.sz≠y.sz+1from ct (cW _)) (λb hb Wy hq=>?_) hz (λz l2 U R3 L3 X3 g3 C3=>?_) ⟨a.room,a.call,XB,R2,X2⟩ I0 (⟨Ww,aV _,.nil,oD,oC,hC⟩) ((sY hG k2));.
   rcases hq with hq|⟨p,hp,hq⟩;.exact Wy hq
   .obtain⟨_,_,_,vo,o,ho,_⟩:=a.env.ie p (mem_of_lookup (RI p hp));rw[←hq,hb]at ho;exact ec ho
  .refine d9 (X3.loc) λm hm _=>?_;exact fin z y.sz (y.sz+1) U R3 L3 g3 C3.acc (show U.size<=bg from au C3.sz hz) C3.IV C3.oD C3.oC (ct (cW _)) ⟨m,hm⟩
 exact codeAny_compStart_list loop (T.walk.self 0 _ _ _ I0.st loop)
noncomputable def PH(w:bO)(Y:Cx)(x:Sx)(c:ab D)(d:Hp)(v:V)(X:Hp):Prop:=∀y Da U,Rel w y->Le Y.wm fP x y->y.H=d->y.s.heap.PlainList Da U->U.size<=bg->fi w y.g c U.toList->Off x y Da->∃b,b.s=y.s/\b.H=X/\Rel w b/\Le Y.wm fP x b/\Rv w b v (.ref Da)/\∀C,Off x y C->C≠Da->Off x b C
theorem Hg:PH w Y x b m (.d (.lst b)) m:=λy X U R L g f H G T=>ZA (uv L R T) λz q k p o I M Q Z=>f.elim λr f=>Xi z q (k.trans g) p o (.d (.lst ⟨_,M _ f,rfl,r,rfl⟩ H (G.keeps I))) λC i e=>⟨i.1,Z C e i.2.1,λh=>i.2.2 (iL h λj c s t B=>Dg j c (sZ k s) t (sZ Q B))⟩
theorem Kh(R:Rel w y)(f:C≠Da)(h:Sx.mu ⟨y.g,y.φ++[Da],y.H++[i],y.s⟩ C):y.mu C:=iL h λj c d k b=>by
 have b:(y.φ++[Da])[j]?=some C:=b;have d:(y.H++[i])[j]?=some c:=d;by_cases e:j<y.φ.length;.rw[aU e]at b;rw[aU (R.len▸e)]at d;exact Dg j c d k b
 .rw[bk (aai.mp e)]at b;exact ay (bu.mp (aab b)) f
theorem PI(q:Y.wm<=x.H.length)(S:Rel w x):PH w Y x b i (.ref i.length) (i++[.lst b .sh]):=λy f U R L g o r p j=>lK (xO (D:=f) (c:=.lst b .sh) L R j (au q (L.len S R)) ⟨j.2.1,U,o,r,p⟩) λm k=>Xi ⟨y.g,y.φ++[f],y.H++[.lst b .sh],y.s⟩ rfl (ah (· ++[Cell.lst b .sh]) g) m k (.ref (g▸R.len▸aaW)) λC e d=>⟨e.1,e.2.1,λh=>e.2.2 (Kh R d h)⟩
section
variable{elt M t:PySem.Expr}{ifs:ab PySem.Expr}{G:b7}{j:Pos}{me:ME}{d:MI}{tg:Tg}{ft:PySem.Expr->MT}{m:ME}
theorem Bt(q:m=sL me tg (ej M).length d (ifs.map ft)\/m=pZ me tg (ej M).length d (ifs.map ft))(a:At w A n Y x J N O l)(e:m Y l x.H=some (v,X)):∃b o,((d Y l x.H).bind λr=>fa me tg (gO (ifs.map ft)) Y r.1 (l++bL (ej M).length none) r.2)=some (b,o)/\PH w Y x b o v X:=q.elim (λz=>jV (show sL me tg (ej M).length d (ifs.map ft) Y l x.H=some (v,X)from z▸e) λB p g i=>yr i λb f k c=>xA b f (sY g k) ((pJ c).1▸(pJ c).2▸Hg)) λz=>jV (show pZ me tg (ej M).length d (ifs.map ft) Y l x.H=some (v,X)from z▸e) λB p g i=>yr i λb f k c=>xA b f (sY g k) ((pJ c).1▸(pJ c).2▸PI a.wm a.rel)
theorem xG(c:m=sL me tg (ej M).length d (ifs.map ft)\/m=pZ me tg (ej M).length d (ifs.map ft))(hk:og N G O (ej M)=true)(hs:iY t=true)(hi:xU w n d N O (λJ=>cE t J))(he:eo w n me (iX N G) (O++ej M) (λJ=>cE elt J))(B:∀e∈ifs,mw w n (ft e) (iX N G) (O++ej M) (λJ=>aau e J (cE e J)))(r:qa (O++ej M) M=some tg):eo w n m N O (λJ=>cE (.ListComp elt [⟨M,t,ifs,0⟩] G j) J):=by intro A E Y x J l v H' Q a e q;refine mn (Bt c a e) λall Hf k2 F=>?_;show aR _ _ (cE (.ListComp elt [⟨M,t,ifs,0⟩] G j) J) _ _ _;refine wG a hk hs hi he B r k2 λy i C U R L g p hz hr oD oC k c=>c.elim λm c=>⟨m,c,λT f=>?_⟩;exact lK (L.off (Z:=λb=>b=C) (s':={y.s with heap:=T}) R (λb e=>e▸oC) (λb o hb e=>f.extBut b o hb e) R.gens rfl) λh X=>Sq (F ⟨y.g,y.φ,y.H,{y.s with heap:=T}⟩ i U h X g (p.imp λ_ p=>f.extBut _ _ k p) hz hr oD) λz e1 e2 R3 I r3 _=>sZ (P:=λs=>Q (.ref i) s) e1 (q z (.ref i) (a.step R3 I) I e2 r3)
end
end
section
variable{w:bO}{n:Nat}{x y z y0:Sx}{wm:Nat}{P P':b5->Prop}{A:bI}{E:al->aM->Prop}{Y:Cx}{J:Env}{N:b7}{O:ab Str}{l:Loc}
theorem At.wV(a:At w A n Y x J N O l)(R:Rel w y)(L:Le wm P x y)(X:fU w y J N O l'):At w A n Y y J N O l':=⟨a.room,a.call,au a.wm (L.len a.rel R),R,X⟩
theorem jy{Q:Flow->aM->Prop}(a:At w A n Y y J N O G)(L:Le Y.wm (jL J) x y)(j:y.H=g)(r:Ii w y i c)(e:(i,G,g)=(f,l',d))(q:∀y b,At w A n Y y J N O l'->Le Y.wm (jL J) x y->y.H=d->Ii w y f b->Q b y.s):Q c y.s:=q y c ((pJ (pJ e).2).1▸a) L (j.trans (pJ (pJ e).2).2) ((pJ e).1▸r)
theorem rA(h:∀s∈b,kZ w n (f s) N O (λJ=>adP s J)):kZ w n (d5 (b.map f)) N O (λJ=>execs b J):=by induction b with|nil=>exactλa e q=>wpAny_execs_nil (jy a .refl rfl .er (sI e) q)|cons s b ih=>intro A E Y x J l I p G Q a e q;refine W3 e λH j X k e=>wpAny_execs_cons (h s aF a k λy p d c g B=>?_);clear k;induction B with|er=>exact ih (λs hs=>h s (ax _ hs)) d (sY g e) λz i o m t C=>q z i o (c.trans m) t C|cnt=>exact jy d c g .cnt (sI e) q|brk=>exact jy d c g .brk (sI e) q|ret r=>exact jy d c g (.ret r) (sI e) q
theorem sX(h:eo w n m N O (λJ=>cE v J))(r:ey O nm=some i)(s:g0 N nm=true)(hs:∀J,aaS v (some (.Name nm p')) p.line J=pure false):kZ w n (wM i m) N O (λJ=>adP (.Assign [.Name nm p'] v p) J):=λ{A E Y x J l G f C Q}a e q=>yr e λH X t e=>acx (h a t λy u b d k B=>mS (wm:=Y.wm) b.rel b.env r s B λz g c o j=>jy (b.wV g c j) (d.qV.trans c) (o.trans k) .er e q) (hs _)
theorem JX(h:PL I v l=some l'):∃Z,v=.d (.tup Z)/\iT I Z l=some l':=pE (P:=λv=>∃Z,v=.d (.tup Z)/\iT I Z l=some l') h λ_ h=>Ig (P:=λd=>∃Z,V.d d=.d (.tup Z)/\iT I Z l=some l') h λZ h=>i12 Z rfl h
theorem CV(h:eo w n m N O (λJ=>cE v J))(s:qa O (.Tuple es k p')=some (.many I))(B:(ej (.Tuple es k p')).all (g0 N)=true)(hs:∀J,swappedStores [.Tuple es k p'] v J=pure none):kZ w n (F4 I m) N O (λJ=>adP (.Assign [.Tuple es k p'] v p) J):=λ{A E Y x J l U f T Q}a e q=>jV e λv1 X G e=>kg e λl2 H e=>d9 (JX H) λZ z L=>Assign_Tuple (h a G λy u b g o R=>HC (wm:=Y.wm) (t:=.many I) (d:=.tup Z) uS b.room.hh b.rel b.env s (λM C=>aA.mp B M C) (show Rv w y (.d (.tup Z)) u from z▸R).eU L λz i c r j=>jy (b.wV i c j) (g.qV.trans c) (r.trans o) .er e q) (show aaS v (some (.Tuple es k p')) p.line J=pure false from vk (λ_ _ _ _=>rfl) (λ_ _ _ _=>rfl) (λ_ _ _ _ _=>rfl) v) (hs _)
theorem D8(X:fU w x J N O l):interactive J=false:=by unfold interactive;rw[X.scope,X.kind];rfl
theorem LA(h:Gy v=some u):∃d,v=.d d/\d.flat=true:=pE (P:=λv=>∃d,v=.d d/\d.flat=true) h λd h=>i12 d rfl (LI h)
theorem SJ{P:al->Prop}(h:d.flat=true)(r:Rd w g d u)(n:P .none)(b:∀b,P (.bool b))(i:∀i t,P (.int i t))(s:∀s t,P (.str s t)):P u:=by induction d using D.casesOn with|fS=>exact t6 r n|bool c=>exact Na r (b c)|int c=>exact i5 r (i c)|str c=>exact jd r (s c)|_=>exact fO h
theorem Dt(h:eo w n m N O (λJ=>cE (.Call f as o p') J)):kZ w n (GN m) N O (λJ=>adP (.Expr (.Call f as o p') p) J):=by intro A E Y x J l C B t Q a e q;refine jV e λH X j e=>kg e λG k e=>d9 (LA k) λd z i=>wpAny_Expr (h a j λy u c b g r=>?_) (D8 a.env) rfl;have f:Q .next y.s:=jy c b.qV g .er e q;exact SJ (P:=λu=>match u with|.ref _=>afz|_=>Q .next y.s) i (show Rv w y (.d d) u from z▸r).eU f (λ_=>f) (λ_ _=>f) λ_ _=>f
theorem Jk(L:mw w n t N O (λJ=>aau r J (cE r J)))(H:∀s∈b,kZ w n (f s) N O (λJ=>adP s J))(I:∀s∈c,kZ w n (f s) N O (λJ=>adP s J)):kZ w n (QC t (b.map f) (c.map f)) N O (λJ=>adP (.If r b c p) J):=by intro A E Y x J l T R M Q a e q;refine jV e λG X C e=>wpAny_If (L a C λy o m B=>?_);clear C;induction G using aY with|true=>exact rA H o (sY B e) λz i g d j k=>q z i g (m.qV.trans d) j k|false=>exact rA I o (sY B e) λz i g d j k=>q z i g (m.qV.trans d) j k
theorem Ik(h:eo w n m N O (λJ=>cE v J)):kZ w n (PR m) N O (λJ=>adP (.Return (some v) p) J):=λa e q=>yr e λi X f e=>wpAny_Return_some (h a f λy u c b d g=>jy c b.qV d (.ret g) e q)
theorem CD:kZ w n EF N O (λJ=>adP (.Return none p) J):=λa e q=>wpAny_Return_none (jy a .refl rfl (.ret (.d .fS)) (sI e) q)
theorem Fh:kZ w n Pk N O (λJ=>adP (.Continue p) J):=λa e q=>wpAny_Continue (jy a .refl rfl .cnt (sI e) q)
theorem Du:kZ w n MB N O (λJ=>adP (.Pass p) J):=λa e q=>wpAny_Pass (jy a .refl rfl .er (sI e) q)
theorem Mg(h:toD v H=some (.int k,X)):some (some v)=some (some (.d (.int k)))/\H=X:=by induction v using V.casesOn with|d d=>exact⟨ah (λd=>some (some (V.d d))) (CF h).1,(CF h).2⟩|ref j=>exact jX (P:=λo=>RA j H o=some (.int k,X)->some (some (V.ref j))=some (some (.d (.int k)))/\H=X) H[j]? (λh=>ec h) (λ_ _ h=>xc vt (CF h).1 rfl) (λ_ _ h=>if1 h λ_ h=>xc vt (CF h).1 rfl) (λ_ h=>ec h) h|ins _ _=>exact ec h
theorem Ph(h:eD (vc i) c l H=some (.int k,X)):l[i]?=some (some (.d (.int k)))/\H=X:=by have h:(ck (match l[i]?with|some (some v)=>some (v,H)|_=>none) λr=>toD r.1 r.2)=some (.int k,X):=h;revert h;generalize l[i]?=o;intro h;induction o using cC with|none=>exact ec h|some o=>induction o using cC with|none=>exact ec h|some v=>exact Mg h
theorem FQ{x y z:D}{G:dD->D->D->D->Prop}(h:PU R x y=some z)(k:∀a b,G .Add (.int a) (.int b) (.int (a+b))):G R x y z:=by induction R using abu with|Add=>exact i4 (P:=λx=>G .Add x y z) h λa h=>i4 (P:=λy=>G .Add (.int a) y z) h λb h=>so h (k a b)|_=>exact ec h
theorem CB(b:g0 N nm=true):isVar N nm=true:=by unfold isVar;rw[(la b).1,gw];exact(la b).2.elim (λe=>e▸rfl) λe=>e▸rfl
theorem FA(h:eo w n m N O (λJ=>cE v J))(C:ey O nm=some i)(I:g0 N nm=true):kZ w n (Oy i R m) N O (λJ=>adP (.AugAssign (.Name nm p') R v p) J):=by intro A E Y x J l l' fl M Q a e q;refine jV e λo X b e=>jV e λt f c e=>kg e λB k3 e=>?_;revert b c e;refine FQ (G:=λR o t B=>eD (vc i) Y l x.H=some (o,X)->eD m Y l X=some (t,f)->(Fl.er,l.set i (some (.d B)),f)=(fl,l',M)->aR (aP pw w) A (adP (.AugAssign (.Name nm p') R v p) J) Q E x.s) k3 λi1 i2 b c e=>lK (Ph b) λhl z=>?_;exact wpAny_AugAssign_Name (AH a.env C (CB I) hl λu r=>eo.dat h a .refl (z▸c) λy u2 j T _ g1 r1=>i5 r.eU λt1=>i5 r1 λt2=>P.iadd_int (lK (yt (wm:=Y.wm) (P:=fP) j.rel (y.s.toks+1)) λS L=>have k:=j.step S L;mS (x:=y.tok (y.s.toks+1)) (wm:=Y.wm) S k.env C I (.d (.int _ _)) λz U g g2 Z=>jy (k.wV U g Z) ((T.trans L).qV.trans g) (g2.trans g1) .er e q))
section
variable{I:b5}{B:ab D}{fp:ab b5}{Pi:Nat->al->Prop}{St:Nat->Heap->Prop}
inductive U1(w:bO)(A:bI)(n:Nat)(Y:Cx)(x y0:Sx)(env:Env)(sc:b7)(O:ab Str)(I:b5)(fp:ab b5)(St:Nat->Heap->Prop)(B:ab D)(r:Fl×Loc×Hp)(g:ab D->Loc->Hp->ae (Fl×Loc×Hp)):Nat->aM->Prop|mk(y:Sx)(l2:Loc)(i:Nat)(hi:i<=B.length)(a:At w A n Y y env sc O l2)(I1:IT w Y.wm (jL env) x y0 y I fp St i)(c:g (B.drop i) l2 y.H=some r):U1 w A n Y x y0 env sc O I fp St B r g (B.length-i) y.s
theorem FZ(hb:∀s∈b,kZ w n (f s) N O (λJ=>adP s J))(IH:qa O M=some tg)(Ut:∀nm∈ej M,g0 N nm=true)(X0:fU w x J N O l)(T:tF w A x y0 I B fp Pi St)(fin:∀y f',At w A n Y y J N O L->Le Y.wm (jL J) x y->y.H=p->Ii w y t f'->R (.ok f') y.s)(a:At w A n Y y J N O C)(hI:IT w Y.wm (jL J) x y0 y I fp St 0)(hc:hH tg (d5 (b.map f)) Y B C y.H=some (t,L,p)):abL (aP pw w) A (.forLoop M (.ref I) b [] J) R y.s:=by
 have nI:¬jL J I:=X0.not T.off.1;refine codeAny_forLoop_any (U1 w A n Y x y0 J N O I fp St B (t,L,p) (hH tg (d5 (b.map f)) Y)) (λk s F=>?_) B.length (.mk y C 0 (bB _) a hI hc);clear hc hI a;induction F with
 |mk y C i hi a1 X c1=>
  refine(df i B.length).elim (λg=>T.walk.item i _ _ _ g X.st λv h' tk hv j h=>?_) λU=>T.walk.done _ _ _ (aan hi U▸X.st) λh' tk h=>?_;.refine X.W9 T a1 nI j h λs2 o I2 _=>T.go _ _ _ _ _ _ I2.st ?_;refine d9 (T.item i v g hv) λd hd hr=>?_;refine xh (show ck (hO tg d C) _=some (t,L,p)from AX hd▸c1) λl3 k2 q=>W3 q λf1 l4 H4 k3 q=>?_;refine HC (wm:=Y.wm) uS o.room.hh o.rel o.env IH Ut (hr.keeps I2.gk) k2 λy3 R3 L3 g3 X3=>rA hb (o.wV R3 L3 X3) (sY g3 k3) λy4 f' Z L4 g4 r4=>?_;have I4:=(I2.step T o.rel L3 R3 nI).step T R3 L4 Z.rel nI;have next:hH tg (d5 (b.map f)) Y (B.drop (i+1)) l4 H4=some (t,L,p)->∃m,m<B.length-i/\U1 w A n Y x y0 J N O I fp St B (t,L,p) (hH tg (d5 (b.map f)) Y) m y4.s:=λc=>i12 (B.length-(i+1)) (acf g (cW i)) (.mk y4 l4 (i+1) g Z I4 (sY g4 c));clear k3 k2 hd hr h j;induction r4 with|er=>exact next q|cnt=>exact next q|brk=>exact jy (Q:=λf s=>R (.ok f) s) Z I4.le g4 .er (sI q) fin|ret r=>exact jy (Q:=λf s=>R (.ok f) s) Z I4.le g4 (.ret r) (sI q) fin
  .exact X.stop (G:=λs=>aR (aP pw w) A (execs [] J) (λf s=>R (.ok f) s) (notedBy (aP pw w) A J λe s=>R (.error e) s) s) a1 nI h λs2 o L2 _=>wpAny_execs_nil (jy (Q:=λf s=>R (.ok f) s) o L2 rfl .er (sI (show some (Fl.er,C,y.H)=some (t,L,p)from(ah (hH tg (d5 (b.map f)) Y · C y.H) (abB U)).symm.trans c1)) fin)
end
theorem Ff(H:xU w n d N O (λJ=>cE t J))(G:∀s∈b,kZ w n (f s) N O (λJ=>adP s J))(hs:iY t=true)(g:qa O M=some tg)(c:(ej M).all (g0 N)=true):kZ w n (Oi tg d (b.map f)) N O (λJ=>adP (.For M t b [] p) J):=by intro A E Y x J l l' fl h Q a e q;refine jV e λB X R e=>?_;refine wpAny_For (H a R λy I fp Pi St k i r hz T=>?_) (Eu hs J);exact FZ G g (λU L=>aA.mp c U L) a.env T (λz o m j C Z=>q z o m j C Z) k (IT.start i.qV T) ((sY r e))
theorem yK(J:Env):(∃elt c G j,v=.ListComp elt c G j)->∃b,aaS v (some (.Name nm p')) B J=pure b:=by rintro⟨elt,c,G,j,rfl⟩;exact⟨_,rfl⟩
theorem qy(hk:og N G O (ej M)=true)(hs:iY t=true)(hi:xU w n d N O (λJ=>cE t J))(he:eo w n me (iX N G) (O++ej M) (λJ=>cE elt J))(Mz:∀e∈c,mw w n (ft e) (iX N G) (O++ej M) (λJ=>aau e J (cE e J)))(IH:qa (O++ej M) M=some tg)(hm:m=sL me tg (ej M).length d (c.map ft)\/m=pZ me tg (ej M).length d (c.map ft))(hn:ey O nm=some i)(Ut:g0 N nm=true):kZ w n (wM i m) N O (λJ=>adP (.Assign [.Name nm p'] (.ListComp elt [⟨M,t,c,0⟩] G j) p) J):=by intro A E Y x J l l' f H' Q a e q;refine(let γ:Prop:=_;(?_:γ));refine yr e λv1 X k1 e=>nH (yK (nm:=nm) (p':=p') (B:=p.line) J ⟨elt,[⟨M,t,c,0⟩],G,j,rfl⟩) λb hb=>?_;induction b using aY with|false=>exact acx (xG hm hk hs hi he Mz IH a k1 λy u a1 L1 g1 r1=>mS (wm:=Y.wm) a1.rel a1.env hn Ut r1 λz R2 I g2 X2=>jy (a1.wV R2 I X2) (L1.qV.trans I) (g2.trans g1) .er e q) hb|true=>refine mn (Bt hm a k1) λall Hf k2 F=>?_;show aR _ _ (adP (.Assign [.Name nm p'] (.ListComp elt [⟨M,t,c,0⟩] G j) p) J) _ _ _;refine sY (exec_Assign_Name_used _ _ _ _ hb) (aB (aaq (aB ?_)));refine aB (cy (wG (use:=some (afi (.Name nm p') J)) (Q:=λ_ s'=>Q .next s') a hk hs hi he Mz IH k2 λy Da C U R L g hp hz hr oD oC Wy hC=>?_) (λ_ s' hq=>aQ (aQ hq)) λ_ _ e=>e);refine hC.elim λmm k=>Sq (F y Da U R L g hp hz hr oD) λy' e1 e2 R' L' r' o'=>?_;have XK:=o' C oC (abn Wy);refine sZ (P:=λs=>aR (aP pw w) A (afi (.Name nm p') J (.ref Da)) (λ_ r=>∃m,r.heap.Ns C m/\∀T,Heap.SameBut C r.heap T->Q .next {r with heap:=T}) E s) e1 ?_;refine abk (mS (wm:=Y.wm) R' (a.env.Up L') hn Ut r' λz R2 I g2 X2=>?_);have nC:¬jL J C:=a.env.not oC.1;have k:y'.s.heap.Ns C mm:=e1▸k;refine i12 mm (k.at' λo e=>I.keep _ _ e XK.2.2 nC) λT Sl=>?_;refine k.elim λo h=>h.elim λ_ h=>h.elim λ_ h=>?_;have kC:∀b o,¬b=C->z.s.heap.get? b=some o->({z.s with heap:=T}:aM).heap.get? b=some o:=λb o hb e=>Sl.extBut b o hb e;exact lK ((L'.qV.trans I).off (Z:=λb=>b=C) (s':={z.s with heap:=T}) R2 (λb e=>e▸XK.le h.1 I) kC R2.gens rfl) λR3 L3=>jy (y:=⟨z.g,z.φ,z.H,{z.s with heap:=T}⟩) ⟨a.room,a.call,au a.wm (L3.len a.rel R3),R3,X2.off (Z:=λb=>b=C) (λb e=>e▸nC) kC⟩ L3 (g2.trans e2) .er e q
end
structure ZE(sc:b7)(O:ab Str)(code:Env->Sem al)where
 m:ME
 ok:∀w n,eo w n m sc O code
structure ZT(sc:b7)(O:ab Str)(code:Env->Sem bt)where
 m:MT
 ok:∀w n,mw w n m sc O code
structure ZI(sc:b7)(O:ab Str)(code:Env->Sem al)where
 m:MI
 ok:∀w n,xU w n m sc O code
structure ZS(sc:b7)(O:ab Str)(code:Env->Sem Flow)where
 m:MS
 ok:∀w n,kZ w n m sc O code
noncomputable abbrev YE(N:b7)(O:ab Str)(e:PySem.Expr):=ZE N O λJ=>cE e J
noncomputable abbrev YT(N:b7)(O:ab Str)(e:PySem.Expr):=ZT N O λJ=>aau e J (cE e J)
noncomputable abbrev YI(N:b7)(O:ab Str)(e:PySem.Expr):=ZI N O λJ=>cE e J
noncomputable abbrev YS(N:b7)(O:ab Str)(s:PySem.Stmt):=ZS N O λJ=>adP s J
structure Den where
 e:∀sc O e,YE sc O e
 t:∀sc O e,YT sc O e
 i:∀sc O e,YI sc O e
section
variable{N:b7}{O:ab Str}
noncomputable def eX{code:Env->Sem al}:ZE N O code:=⟨tj,λ_ _=>B4⟩
noncomputable def NK{code:Env->Sem bt}:ZT N O code:=⟨λ_ _ _=>none,λ_ _=>yY (code:=code)⟩
noncomputable def Vz{code:Env->Sem al}:ZI N O code:=⟨λ_ _ _=>none,λ_ _=>yI (code:=code)⟩
noncomputable def gj{code:Env->Sem Flow}:ZS N O code:=⟨Ac,λ_ _=>zF⟩
noncomputable def oe{c:Type}{b:Type}(o:ae c)(g:b)(f:∀a,o=some a->b):b:=match o,f with|some a,f=>f a rfl|none,_=>g
end
section
variable(D:Den)(N:b7)(O:ab Str)
noncomputable def Pm(c:Const)(b:Nat)(p:Pos):YE N O (.Constant c b p):=oe (Fm c) eX λd h=>⟨Hj d,λ_ _=>snd_const h⟩
noncomputable def Q9(x:Str)(p:Pos):YE N O (.Name x p):=oe (ey O x) (oe (look AM x) eX λd h=>if b:jc N x=true then⟨Hj d,λ_ _=>Jf h b⟩else eX) λi h=>if c:isVar N x=true then⟨vc i,λ_ _=>K7 h c⟩else eX
noncomputable def WT(es:ab PySem.Expr)(b:Nat)(p:Pos):YE N O (.Tuple es b p):=if h:es.length<=1000/\noStar es=true then⟨N5 (es.map λe=>(D.e N O e).m),λw n=>JJ (λe _=>(D.e N O e).ok w n) h.1 h.2⟩else eX
noncomputable def Vw(es:ab PySem.Expr)(p:Pos):YE N O (.List es p):=if h:es.length<=1000/\noStar es=true then⟨OL (es.map λe=>(D.e N O e).m),λw n=>K5 (λe _=>(D.e N O e).ok w n) h.1 h.2⟩else eX
noncomputable def Tu(I:ab (ae PySem.Expr))(U:ab PySem.Expr)(p:Pos):YE N O (.Dict I U p):=match I,U with|[],[]=>⟨Hs,λ_ _=>F0⟩|[some k],[v]=>⟨zq (D.e N O k).m (D.e N O v).m,λw n=>Ck ((D.e N O k).ok w n) ((D.e N O v).ok w n)⟩|_,_=>eX
noncomputable def Zp(R:UnaryOp)(x:PySem.Expr)(p:Pos):YE N O (.UnaryOp R x p):=match R with
 |.Not=>⟨Tw (D.e N O x).m,λw n=>Li ((D.e N O x).ok w n)⟩|.USub=>uG x (M:=λx=>YE N O (.UnaryOp .USub x p)) (λ_=>eX) λc _ _=>match c with|.int i=>⟨Oe i,λ_ _=>J4⟩|_=>eX
 |_=>eX
noncomputable def Su(R:BoolOp)(es:ab PySem.Expr)(p:Pos):YE N O (.BoolOp R es p):=match R with|.And=>⟨yR (es.map λe=>(D.e N O e).m),λw n=>snd_and (p:=p) (λe _=>(D.e N O e).ok w n)⟩|.Or=>⟨OP (es.map λe=>(D.e N O e).m),λw n=>EA (p:=p) (λe _=>(D.e N O e).ok w n)⟩
noncomputable def WV(a:PySem.Expr)(d:ab afg)(f:ab PySem.Expr)(p:Pos):YE N O (.Compare a d f p):=match d,f with
 |[.Is],[b]=>uG b (M:=λb=>YE N O (.Compare a [.Is] [b] p)) (λ_=>eX) λc _ _=>match c with|.none=>⟨A7 false (D.e N O a).m,λw n=>x2 (I:=false) ((D.e N O a).ok w n)⟩|_=>eX
 |[.IsNot],[b]=>uG b (M:=λb=>YE N O (.Compare a [.IsNot] [b] p)) (λ_=>eX) λc _ _=>match c with|.none=>⟨A7 true (D.e N O a).m,λw n=>x2 (I:=true) ((D.e N O a).ok w n)⟩|_=>eX
 |[R],[b]=>if h:iY b=true then⟨Ot R (D.e N O a).m (D.e N O b).m,λw n=>Ki ((D.e N O a).ok w n) ((D.e N O b).ok w n) h⟩else eX|_,_=>eX
noncomputable def RY(f:PySem.Expr)(args:ab PySem.Expr)(R:ab Keyword)(p:Pos):YE N O (.Call f args R p):=match R with|_::_=>eX|[]=>lJ f (M:=λf=>YE N O (.Call f args [] p)) (λ_=>eX) (λ_ _ _=>eX) (λx q=>if h:jc N x=true/\noStar args=true/\args.length<=10then oe (look uF x) (oe (look mc x) (oe (look qQ x) eX λk g=>⟨Qt k (args.map λe=>(D.e N O e).m),λw n=>KS (λe _=>(D.e N O e).ok w n) h.2.1 h.1 g⟩) λc b=>match c,b with|(c,i,true),b=>⟨NC c i (args.map λe=>(D.e N O e).m),λw n=>Ju (λe _=>(D.e N O e).ok w n) h.2.1 h.1 b⟩|(c,i,false),b=>⟨eNew c i (args.map λe=>(D.e N O e).m),λw n=>IS (λe _=>(D.e N O e).ok w n) h.2.1 h.1 b⟩) λa d=>match a,d with|(a,_),d=>⟨GK a (args.map λe=>(D.e N O e).m),λw n=>EJ (λe _=>(D.e N O e).ok w n) h.2.1 h.1 d⟩else eX) (λ_ _ _=>eX) (λ_ _=>eX) (λ_ _ _=>eX) (λ_ _ _=>eX) (λ_ _ _ _=>eX) (λ_ _ _=>eX) (λ_ _ _ _=>eX) (λ_ _ _ _=>eX) (λ_ _ _ _=>eX) (λo m j=>if h:noStar args=true/\args.length<=10/\baseOk o=true/\j.endLine=p.line then oe (look nV m) eX λk g=>⟨FU dP (D.e N O o).m k (args.map λe=>(D.e N O e).m),λw n=>HP ((D.e N O o).ok w n) (λe _=>(D.e N O e).ok w n) h.1 h.2.1 h.2.2.1 h.2.2.2 (jx g)⟩else eX) (λ_ _ _=>eX) (λ_ _ _ _=>eX) (λ_ _ _ _=>eX)
noncomputable def Rw(o:PySem.Expr)(a:Str)(p:Pos):YE N O (.Attribute o a p):=if h:baseOk o=true then oe (look gT a) eX λk b=>⟨Ia (D.e N O o).m k,λw n=>Eg ((D.e N O o).ok w n) h (jx b)⟩else eX
noncomputable def VN(o k:PySem.Expr)(p:Pos):YE N O (.Subscript o k p):=if h:pk k=true then⟨NF (D.e N O o).m (D.e N O k).m,λw n=>KU ((D.e N O o).ok w n) ((D.e N O k).ok w n) h⟩else lJ k (M:=λk=>YE N O (.Subscript o k p)) (λ_=>eX) (λ_ _ _=>eX) (λ_ _=>eX) (λ_ _ _=>eX) (λ_ _=>eX) (λ_ _ _=>eX) (λ_ _ _=>eX) (λ_ _ _ _=>eX) (λ_ _ _=>eX) (λ_ _ _ _=>eX) (λ_ _ _ _=>eX) (λ_ _ _ _=>eX) (λ_ _ _=>eX) (λ_ _ _=>eX) (λ_ _ _ _=>eX) λlo d st q=>match lo,d,st with
 |none,some u,none=>uG u (M:=λu=>YE N O (.Subscript o (.Slice none (some u) none q) p)) (λ_=>eX) λc _ _=>match c with|.int i=>if h:0<=i/\isName o=true then⟨G6 (D.e N O o).m i.toNat,λw n=>En ((D.e N O o).ok w n) h.1 h.2⟩else eX|_=>eX
 |some l,some u,none=>uG l (M:=λl=>YE N O (.Subscript o (.Slice (some l) (some u) none q) p)) (λ_=>eX) λc _ _=>VE u (M:=λu=>YE N O (.Subscript o (.Slice (some (.Constant c _ _)) (some u) none q) p)) (λ_=>eX) λR x _=>uG x (M:=λx=>YE N O (.Subscript o (.Slice (some (.Constant c _ _)) (some (.UnaryOp R x _)) none q) p)) (λ_=>eX) λb _ _=>match c,R,b with|.int 1,.USub,.int 1=>if h:isName o=true then⟨ND (D.e N O o).m,λw n=>JW ((D.e N O o).ok w n) h⟩else eX|_,_,_=>eX
 |_,_,_=>eX
noncomputable def SZ(elt:PySem.Expr)(b:ab Comprehension)(G:b7)(p:Pos):YE N O (.ListComp elt b G p):=match b with|[⟨tg,j,c,0⟩]=>if h:og N G O (ej tg)=true/\iY j=true then oe (qa (O++ej tg) tg) eX λt d=>⟨sL (D.e (iX N G) (O++ej tg) elt).m t (ej tg).length (D.i N O j).m (c.map λe=>(D.t (iX N G) (O++ej tg) e).m),λw n=>xG (.inl rfl) h.1 h.2 ((D.i N O j).ok w n) ((D.e _ _ elt).ok w n) (λe _=>(D.t _ _ e).ok w n) d⟩else eX|_=>eX
noncomputable def TA(e:PySem.Expr):YE N O e:=lJ e (M:=λe=>YE N O e) (λ_=>eX) (Pm N O) (Q9 N O) (WT D N O) (Vw D N O) (Tu D N O) (Zp D N O) (λa R b _=>⟨Nl R (D.e N O a).m (D.e N O b).m,λw n=>Lq ((D.e N O a).ok w n) ((D.e N O b).ok w n)⟩) (Su D N O) (λt a b _=>⟨Vb (D.t N O t).m (D.e N O a).m (D.e N O b).m,λw n=>Nx ((D.t N O t).ok w n) ((D.e N O a).ok w n) ((D.e N O b).ok w n)⟩) (WV D N O) (RY D N O) (Rw D N O) (VN D N O) (SZ D N O) (λ_ _ _ _=>eX)
noncomputable def yD(e:PySem.Expr):YT N O e:=if h:qc e=true then⟨tE (D.e N O e).m,λw n=>IG ((D.e N O e).ok w n) (.inl h)⟩else NK
noncomputable def ZG(R:UnaryOp)(x:PySem.Expr)(p:Pos):YT N O (.UnaryOp R x p):=match R with|.Not=>⟨Qv (D.t N O x).m,λw n=>GJ ((D.t N O x).ok w n)⟩|R=>yD D N O (.UnaryOp R x p)
noncomputable def Ym(R:BoolOp)(es:ab PySem.Expr)(p:Pos):YT N O (.BoolOp R es p):=match R with|.And=>⟨gO (es.map λe=>(D.t N O e).m),λw n=>uU (xQ λe _=>(D.t N O e).ok w n)⟩|.Or=>⟨Ch (es.map λe=>(D.t N O e).m),λw n=>uU (xF λe _=>(D.t N O e).ok w n)⟩
noncomputable def Zf(a:PySem.Expr)(c:ab afg)(d:ab PySem.Expr)(p:Pos):YT N O (.Compare a c d p):=match c,d with|[R],[b]=>if h:iY b=true then⟨tE (D.e N O (.Compare a [R] [b] p)).m,λw n=>IG ((D.e N O _).ok w n) (.inr ⟨_,_,_,_,rfl,h⟩)⟩else NK|c,d=>yD D N O (.Compare a c d p)
noncomputable def stepT(e:PySem.Expr):YT N O e:=lJ e (M:=λe=>YT N O e) (yD D N O) (λ_ _ _=>yD D N O _) (λ_ _=>yD D N O _) (λ_ _ _=>yD D N O _) (λ_ _=>yD D N O _) (λ_ _ _=>yD D N O _) (ZG D N O) (λ_ _ _ _=>yD D N O _) (Ym D N O) (λ_ _ _ _=>yD D N O _) (Zf D N O) (λ_ _ _ _=>yD D N O _) (λ_ _ _=>yD D N O _) (λ_ _ _=>yD D N O _) (λ_ _ _ _=>yD D N O _) (λ_ _ _ _=>yD D N O _)
noncomputable def UD(e:PySem.Expr):YI N O e:=⟨N2 (D.e N O e).m,λw n=>Gs ((D.e N O e).ok w n)⟩
noncomputable def stepI(e:PySem.Expr):YI N O e:=Fj e (M:=λe=>YI N O e) (UD D N O) λf as I p=>match as,I with|[a],[]=>wo f (M:=λf=>YI N O (.Call f [a] [] p)) (λ_=>UD D N O _) λx _=>if h:jc N x=true/\noStar [a]=true/\PySem.W.Fast.sEq x (aa "range")=true then⟨yH (D.e N O a).m,λw n=>zW ((D.e N O a).ok w n) h.2.1 h.1 (PySem.W.Fast.sEq_iff.mp h.2.2)⟩else UD D N O _|_,_=>UD D N O _
end
noncomputable def den:Nat->Den|0=>⟨λ_ _ _=>eX,λ_ _ _=>NK,λ_ _ _=>Vz⟩|k+1=>⟨TA (den k),stepT (den k),stepI (den k)⟩
noncomputable def zm(e:PySem.Expr):bt:=!(Jh 8 e||Jh 9 e||Jh 10 e)
noncomputable def MG(e:PySem.Expr):bt:=!Jh 25 e
theorem xw(h:zm v=true)(t:ae PySem.Expr)(B:Nat)(J:Env):aaS v t B J=pure false:=by rcases v with⟨⟩<;>first|rfl|exact fO h
theorem Ah(h:MG v=true)(J:Env):swappedStores [.Tuple es b p'] v J=pure none:=by rcases v with⟨⟩<;>first|rfl|exact fO h
section
variable(D:Den)(N:b7)(O:ab Str)
noncomputable def aName(g:bt)(x:Str)(p':Pos)(v:PySem.Expr)(p:Pos):YS N O (.Assign [.Name x p'] v p):=oe (ey O x) gj λi b=>if hs:g0 N x=true then if d:zm v=true then match g with|false=>⟨wM i (D.e N O v).m,λw n=>sX ((D.e N O v).ok w n) b hs (xw d _ _)⟩|true=>Ng v (M:=λv=>zm v=true->YS N O (.Assign [.Name x p'] v p)) (λv d=>⟨wM i (D.e N O v).m,λw n=>sX ((D.e N O v).ok w n) b hs (xw d _ _)⟩) (λes q _=>if h:es.length<=1000/\noStar es=true then⟨wM i (BM .own (es.map λe=>(D.e N O e).m)),λw n=>sX (x4 (md:=.own) (λh=>nomatch h) (λe _=>(D.e N O e).ok w n) h.1 h.2) b hs λ_=>rfl⟩else gj) d else lJ v (M:=λv=>YS N O (.Assign [.Name x p'] v p)) (λ_=>gj) (λ_ _ _=>gj) (λ_ _=>gj) (λ_ _ _=>gj) (λ_ _=>gj) (λ_ _ _=>gj) (λ_ _ _=>gj) (λ_ _ _ _=>gj) (λ_ _ _=>gj) (λ_ _ _ _=>gj) (λ_ _ _ _=>gj) (λ_ _ _ _=>gj) (λ_ _ _=>gj) (λ_ _ _=>gj) (λelt Z G _=>match Z with|[⟨tg,j,c,0⟩]=>if h:og N G O (ej tg)=true/\iY j=true then oe (qa (O++ej tg) tg) gj λt f=>if k:g=true then⟨wM i (pZ (D.e (iX N G) (O++ej tg) elt).m t (ej tg).length (D.i N O j).m (c.map λe=>(D.t (iX N G) (O++ej tg) e).m)),λw n=>qy h.1 h.2 ((D.i N O j).ok w n) ((D.e _ _ elt).ok w n) (λe _=>(D.t _ _ e).ok w n) f (.inr rfl) b hs⟩else⟨wM i (sL (D.e (iX N G) (O++ej tg) elt).m t (ej tg).length (D.i N O j).m (c.map λe=>(D.t (iX N G) (O++ej tg) e).m)),λw n=>qy h.1 h.2 ((D.i N O j).ok w n) ((D.e _ _ elt).ok w n) (λe _=>(D.t _ _ e).ok w n) f (.inl rfl) b hs⟩else gj|_=>gj) (λ_ _ _ _=>gj)else gj
noncomputable def VM(es:ab PySem.Expr)(k:Nat)(q:Pos)(v:PySem.Expr)(p:Pos):YS N O (.Assign [.Tuple es k q] v p):=oe (qa O (.Tuple es k q)) gj λt b=>match t,b with|.many I,b=>if h:(ej (.Tuple es k q)).all (g0 N)=true/\MG v=true then⟨F4 I (D.e N O v).m,λw n=>CV ((D.e N O v).ok w n) b h.1 (Ah h.2)⟩else gj|_,_=>gj
noncomputable def Rl(o:PySem.Expr)(a:Str)(q:Pos)(v:PySem.Expr)(p:Pos):YS N O (.Assign [.Attribute o a q] v p):=oe (look gT a) gj λk b=>Ng v (M:=λv=>YS N O (.Assign [.Attribute o a q] v p)) (λv=>⟨Bu (D.e N O o).m k (D.e N O v).m,λw n=>uJ ((D.e N O o).ok w n) ((D.e N O v).ok w n) (jx b)⟩) λes q=>if h:es.length<=1000/\noStar es=true then⟨Bu (D.e N O o).m k (BM .sh (es.map λe=>(D.e N O e).m)),λw n=>uJ ((D.e N O o).ok w n) (x4 (md:=.sh) (λh=>nomatch h) (λe _=>(D.e N O e).ok w n) h.1 h.2) (jx b)⟩else gj
noncomputable def VC(x:Str)(q:Pos)(R:dD)(v:PySem.Expr)(p:Pos):YS N O (.AugAssign (.Name x q) R v p):=oe (ey O x) gj λi b=>if hs:g0 N x=true then⟨Oy i R (D.e N O v).m,λw n=>FA ((D.e N O v).ok w n) b hs⟩else gj
noncomputable def VV(b:ab Str)(t v:PySem.Expr)(p:Pos):YS N O (.Assign [t] v p):=lJ t (M:=λt=>YS N O (.Assign [t] v p)) (λ_=>gj) (λ_ _ _=>gj) (λx p'=>aName D N O (b.any λy=>PySem.W.Fast.sEq y x) x p' v p) (λes k q=>VM D N O es k q v p) (λ_ _=>gj) (λ_ _ _=>gj) (λ_ _ _=>gj) (λ_ _ _ _=>gj) (λ_ _ _=>gj) (λ_ _ _ _=>gj) (λ_ _ _ _=>gj) (λ_ _ _ _=>gj) (λo a q=>Rl D N O o a q v p) (λo k _=>⟨Er (D.e N O o).m (D.e N O k).m (D.e N O v).m,λw n=>CE ((D.e N O o).ok w n) ((D.e N O k).ok w n) ((D.e N O v).ok w n)⟩) (λ_ _ _ _=>gj) (λ_ _ _ _=>gj)
noncomputable def SD(d:ab Str)(S:∀s,YS N O s)(s:PySem.Stmt):YS N O s:=match s with|.Assign [t] v p=>VV D N O d t v p|.AugAssign t R v p=>wo t (M:=λt=>YS N O (.AugAssign t R v p)) (λ_=>gj) λx q=>VC D N O x q R v p|.Expr e q=>Fj e (M:=λe=>YS N O (.Expr e q)) (λ_=>gj) λf a k p'=>⟨GN (D.e N O (.Call f a k p')).m,λw n=>Dt ((D.e N O _).ok w n)⟩|.If t a b _=>⟨QC (D.t N O t).m (a.map λs=>(S s).m) (b.map λs=>(S s).m),λw n=>Jk ((D.t N O t).ok w n) (λs _=>(S s).ok w n) (λs _=>(S s).ok w n)⟩|.For t j b [] _=>if h:(ej t).all (g0 N)=true/\iY j=true then oe (qa O t) gj λtg c=>⟨Oi tg (D.i N O j).m (b.map λs=>(S s).m),λw n=>Ff ((D.i N O j).ok w n) (λs _=>(S s).ok w n) h.2 c h.1⟩else gj|.Return (some e) _=>⟨PR (D.e N O e).m,λw n=>Ik ((D.e N O e).ok w n)⟩|.Return none _=>⟨EF,λ_ _=>CD⟩|.Continue _=>⟨Pk,λ_ _=>Fh⟩|.Pass _=>⟨MB,λ_ _=>Du⟩|_=>gj
noncomputable def Qi(b:ab Str):Nat->∀s,YS N O s|0,_=>gj|k+1,s=>SD (den k) N O b (Qi b k) s
end
noncomputable def EZ(b:ab Str)(st:aho):ab MS:=(nh st).map λs=>(Qi (ef st) (f9 (ef st)) b 60 s).m
noncomputable def M7(r:qM)(call:Nat->Nat->ab V->Hp->ae (V×Hp))(wm:Nat)(args:ab V)(H:Hp):ae (V×Hp):=(uB (fB (ew r.iq)).length args r.QS).bind λU=>(d5 (EZ r.NV r.iq) ⟨call,if r.init then wm else H.length⟩ (U.map some++bL ((f9 (ef r.iq)).length-U.length) none) H).bind λq=>match r.init with|true=>(match q.1with|.er=>some (.d .fS,q.2.2)|_=>none)|false=>(match q.1with|.er=>some (.d .fS,q.2.2.take H.length)|.ret v=>(toD v q.2.2).map λx=>(.d x.1,x.2.take H.length)|_=>none)
noncomputable def nT:Nat->Nat->Nat->ab V->Hp->ae (V×Hp)|0,_,_,_,_=>none|n+1,wm,f,args,H=>(Pc f).bind λr=>M7 r (nT n) wm args H
theorem jQ:∀{f:ab Str}{O:ab al}{n:Str},n∉f->(f.zip O).lookup n=none
 |[],_,_,_=>by simp|_::_,[],_,_=>rfl|p::f,v::O,n,h=>by
  rw[cg,br];have:(n==p)=false:=by simpa usingλe:n=p=>h (e▸aF)
  refine sY this ?_;exact jQ λq=>h (ax _ q)
theorem jM:∀{f:ab Str}{O:ab al}{n:Str},n∈f->f.length<=O.length->∃v,(f.zip O).lookup n=some v
 |p::f,[],n,_,h=>by simp at h|p::f,v::O,n,h,c=>by
  dsimp only[cg,br];cases b:n==p with
  |true=>exact⟨v,rfl⟩|false=>
   rcases af.mp h with rfl|h;.simp at b
   .exact jM h (by simpa using c)
noncomputable def oI(x:Str×al)(r:ab (Str×al)):Sem (ForInStep (ab (Str×al))):=if(aaC x.1 r).isNone=true then pure (bH (r++[(x.1,x.2)]))else pure (bH r)
theorem Cb(k:ab (Str×al)):∀(l:ab (Str×al))(b:ab (Str×al)),(∀x∈l,∃v,b.lookup x.1=some v)->(forIn (l++k) b oI:Sem _)=forIn k b oI:=by
 intro l;induction l with
 |nil=>intro _ _;exact rfl|cons x l ih=>
  intro b h;obtain⟨v,c⟩:=h x aF;rw[aaL,aam];have:oI x b=pure (bH b):=by unfold oI;rw[c,aZ (by simp)]
  rw[this,pure_bind];exact ih b λy d=>h y (ax _ d)
theorem xu:∀(b:ab Str)(B:ab al)(f:ab Str)(O:ab al),f.length=O.length->(f++b).Nodup->b.length=B.length->(forIn (b.zip B) (f.zip O) oI:Sem _)=pure ((f++b).zip (O++B))
 |[],[],f,O,_,_,_=>by simp|[],_::_,_,_,_,_,h=>by simp at h|_::_,[],_,_,_,_,h=>by simp at h|n::b,d::B,f,O,e,c,g=>by
  have i:n∉f:=by intro q;rw[a8]at c;exact c.2.2 n q n aF rfl
  rw[cg,aam];have:oI (n,d) (f.zip O)=pure (bH ((f++[n]).zip (O++[d]))):=by unfold oI;rw[jQ i,aW (by rfl),aaR e];rfl
  rw[this,pure_bind];have:=xu b B (f++[n]) (O++[d]) (by simp[e]) (by simpa using c) (by simpa using g);simpa using this
theorem yv:∀{nms:ab Str}{U:ab al},nms.Nodup->nms.length=U.length->nms.filterMap (λn=>cJ (λx=>(n,x)) (aaC n (nms.zip U)))=nms.zip U:=by
 have go:∀(b:ab Str)(c:ab al)(f:ab Str)(O:ab al),(f++b).Nodup->f.length=O.length->b.length=c.length->b.filterMap (λn=>cJ (λx=>(n,x)) (aaC n ((f++b).zip (O++c))))=b.zip c:=by
  intro b;induction b with
  |nil=>intro c f O _ _ _;simp|cons n b ih=>
   intro c f O d e g;induction c using aS with
   |nil=>simp at g|cons v c=>
    have j:n∉f:=by intro q;rw[a8]at d;exact d.2.2 n q n aF rfl
    have i:aaC n ((f++n::b).zip (O++v::c))=some v:=by rw[aaR e,dC,jQ j];simp
    rw[List.filterMap_cons,i];have:=ih c (f++[n]) (O++[v]) (by simpa using d) (by simp[e]) (by simpa using g);simp only[bA,abO]at this;simp[this]
 intro nms U d e;simpa using go nms U [] [] (d) rfl e
theorem pU{M:Model}{A:bI}{b:Type}{Q:b->aM->Prop}{E:al->aM->Prop}{s:aM}{c:Prop}[dH c]{x y:Sem b}(d:¬c)(h:aR M A y Q E s):aR M A (if c then x else y) Q E s:=by rw[aZ d];exact h
theorem wpAny_of_eq{y:Sem b}(e:x=y)(h:aR M A y Q E s):aR M A x Q E s:=e▸h
theorem tZ{B:ab Str}{v:ab al}(h:A.length=v.length):(A++B).zip v=A.zip v:=by have:=aaR (r₁:=B) (r₂:=[]) h;rwa[aL,List.zip_nil_right,aL]at this
theorem DC(d:(P++(Q++R)).Nodup)(c:(P++Q).length=Z.length)(i:Q.length=g.length)(j:R.length=e.length):agr (λn=>(aaC n ((P++(Q++R)).zip Z)).isNone) P=[]/\(forIn ((Q++R).zip (g++e)) ((P++(Q++R)).zip Z) oI:Sem _)=pure ((P++(Q++R)).zip (Z++e)):=by rw[←bA]at d⊢;rw[tZ c,aaR i,Cb _ _ _ (λx l=>jM (aN _ (ac9 (a:=x.1) (b:=x.2) l).1) (bZ c)),xu R e (P++Q) Z c d j];refine⟨aax.mpr λn k=>?_,rfl⟩;refine(jM (f:=P++Q) (O:=Z) (bl _ k) (bZ c)).elim λv c=>?_;rw[c];exact nofun
theorem NH{nms:ab Str}{B:ab al}(f:a+B.length=nms.length)(g:j<=B.length):∃P Q R b c,nms=P++(Q++R)/\B=b++c/\a=P.length/\j=b.length/\Q.length=b.length/\R.length=c.length:=by
 have e:(nms.drop a).length=B.length:=by rw[du,←f,Nat.add_sub_cancel_left]
 have d:(B.take j).length=j:=aav g;refine Ze (nms.take a) ((nms.drop a).take j) ((nms.drop a).drop j) (B.take j) (B.drop j) ⟨?_,(aaI _ _).symm,(aav (f▸aH _ _)).symm,d.symm,?_,?_⟩;.rw[aaI,aaI]
 .rw[d,aav (e▸g)]
 .rw[du (l:=nms.drop a),e,du]
theorem Yo{n:Nat}(b:v<=n):v+d-n<=d:=Nat.sub_le_of_le_add (aal v d▸cw b d)
theorem YQ{n:Nat}(b:n<=v+d)(c:d<=n):n-d+(v+d-n)=v:=nH (Nat.exists_eq_add_of_le' c) λa e=>by subst e;rw[Nat.add_sub_cancel,Nat.add_sub_add_right];exact Nat.add_sub_cancel' (Nat.le_of_add_le_add_right b)
theorem Zs{n:Nat}(b:v<=n)(c:n<=v+d):n=v+(d-(v+d-n)):=nH (Nat.exists_eq_add_of_le b) λk e=>by subst e;rw[Nat.add_sub_add_left,Nat.sub_sub_self (Nat.le_of_add_le_add_left c)]
theorem bw{M:Model}{A:bI}{E:al->aM->Prop}{s:aM}{σ b f i g:Type}{Q:g->aM->Prop}{d:σ}{q:Sem b}{P:b->Prop}{j:σ->b->Prop}[∀x r,dH (j x r)]{B:σ->b->Sem g}{k:σ->b->Prop}[∀x r,dH (k x r)]{C:σ->b->Sem g}{c:σ->b->Sem f}{y:f}{t:σ->b->f->i}{l:σ->b->f->i->Prop}[∀x r y z,dH (l x r y z)]{G o:σ->b->f->i->Sem g}(m:∀{p:b->aM->Prop},(∀r,P r->p r s)->aR M A q p E s)(H:∀r,P r->¬j d r)(I:∀r,P r->¬k d r)(L:∀r,P r->c d r=pure y)(J:∀r,P r->¬l d r y (t d r y))(N:∀r,P r->aR M A (o d r y (t d r y)) Q E s):aR M A ((pure d:Sem σ)>>=λx=>q>>=λr=>if j x r then B x r else if k x r then C x r else c x r>>=λy=>(pure (t x r y):Sem i)>>=λz=>if l x r y z then G x r y z else o x r y z) Q E s:=aB (aQ (aB (m λr e=>pU (H r e) (pU (I r e) (aB (wpAny_of_eq (L r e) (aQ (aB (aQ (pU (J r e) (N r e)))))))))))
theorem El{B:ab al}{nms:ab Str}(e:nms.Nodup)(i:Z.length<=nms.length)(j:nms.length<=Z.length+B.length)(b:B.length<=nms.length):agr (λn=>(aaC n (nms.zip Z)).isNone) (nms.take (nms.length-(B.drop (B.length-nms.length)).length))=[]/\(forIn ((nms.drop (nms.length-(B.drop (B.length-nms.length)).length)).zip (B.drop (B.length-nms.length))) (nms.zip Z) oI:Sem _)=pure (nms.zip (Z++B.drop (Z.length+B.length-nms.length))):=by
 have g:nms.length-B.length+B.length=nms.length:=acm b;rw[Nat.sub_eq_zero_of_le b,List.drop_zero];refine(NH g (Yo i)).elim λP h=>Z7 h λQ R p q k l c d f o=>?_;have m:(P++Q).length=Z.length:=by rw[ao,f,←c,←d];exact YQ j b
 rw[c,d];clear h i j b g c d;subst k l;rw[aa7,adx,adx];exact DC e m f o
theorem BY(hd:(g=.none/\B=[])\/∃T o n,g=.ref T/\s.heap.get? T=some o/\o.data=.seq B.toArray n)(b:(as.map (·.arg)).Nodup)(d:Z.length<=(as.map (·.arg)).length)(i:(as.map (·.arg)).length<=Z.length+B.length)(G:B.length<=(as.map (·.arg)).length):BindsTo s ⟨n,q,⟨[],as,none,[],U,none,X⟩,J,L,N,O,g,R,j,m,p,t,z,C⟩ ⟨Z,[]⟩ ((as.map (·.arg)).zip (Z++B.drop (Z.length+B.length-(as.map (·.arg)).length))):=by
 intro M A E Q I;have f:=El b d i G;refine bw (P:=λr:ae (dv al)=>(r.getD #[]).toList=B) (y:=(as.map (·.arg)).zip (Z++B.drop (Z.length+B.length-(as.map (·.arg)).length))) (λh=>hd.elim (λhd=>hd.1▸aQ (h none hd.2.symm)) λhd=>Wz hd λT o k e H hs=>e▸wpAny_seqItems H hs (h _ rfl)) (λr _ h=>aai.mpr d (aT (bX.mp h).1)) (λr c h=>?_) (λr c=>?_) (λ_ _=>cH) λr c=>?_;.subst c;exact cH ((ah (λl=>!List.isEmpty l) f.1).symm.trans h)
 .subst c;exact f.2
 .refine aQ ?_;show Q (List.filterMap _ ((as.map (·.arg))++[])) s;rw[aL,yv b (by rw[ao,du];exact Zs d i)];exact I
theorem IZ{p:Arguments}(i:p.posonlyargs=[])(j:p.vararg=none)(k:p.kwonlyargs=[])(l:p.kwarg=none):p=⟨[],p.args,none,[],p.kw_defaults,none,p.defaults⟩:=by induction p using Arguments.casesOn with|mk a b c d e f g=>exact sZ (P:=λz=>abI a b c d e f g=⟨z,b,none,[],e,none,g⟩) i (sZ (P:=λz=>abI a b c d e f g=⟨a,b,z,[],e,none,g⟩) j (sZ (P:=λz=>abI a b c d e f g=⟨a,b,c,z,e,none,g⟩) k (sZ (P:=λz=>abI a b c d e f g=⟨a,b,c,d,e,z,g⟩) l rfl)))
theorem r0(k:M.params.args.map (·.arg)=nms)(e:M.params.posonlyargs=[])(f:M.params.vararg=none)(b:M.params.kwonlyargs=[])(c:M.params.kwarg=none)(hd:(M.defaults=.none/\B=[])\/∃T o n,M.defaults=.ref T/\s.heap.get? T=some o/\o.data=.seq B.toArray n)(d:nms.Nodup)(g:Z.length<=nms.length)(i:nms.length<=Z.length+B.length)(j:B.length<=nms.length):BindsTo s M ⟨Z,[]⟩ (nms.zip (Z++B.drop (Z.length+B.length-nms.length))):=by subst k;exact sY (P:=λp=>BindsTo s {M with params:=p} ⟨Z,[]⟩ _) (IZ e f b c) (BY hd d g i j)
noncomputable def vA:ab Str->bt|[]=>true|x::r=>(r.all λy=>!PySem.W.Fast.sEq y x)&&vA r
theorem Co:∀{l:ab Str},vA l=true->l.Nodup:=by intro l;induction l with|nil=>intro _;exact .nil|cons x r ih=>intro h;unfold vA at h;rw[aI]at h;rw[a7];refine⟨λb=>?_,ih h.2⟩;have:=aA.mp h.1 x b;rw[PySem.W.Fast.sEq_iff.mpr rfl]at this;exact fO this
noncomputable def Bq:ab Str->ab Str->bt|[],_=>true|_::_,[]=>false|x::r,y::t=>PySem.W.Fast.sEq x y&&Bq r t
theorem xW:∀{a b:ab Str},Bq a b=true->∃c,b=a++c|[],b,_=>⟨b,rfl⟩|_::_,[],h=>by exact fO h|x::r,y::t,h=>by unfold Bq at h;rw[aI,PySem.W.Fast.sEq_iff]at h;obtain⟨c,rfl⟩:=xW h.2;exact⟨c,by rw[h.1];rfl⟩
noncomputable def Us(r:qM):bt:=(ew r.iq).posonlyargs.isEmpty&&(ew r.iq).vararg.isNone&&(ew r.iq).kwonlyargs.isEmpty&&(ew r.iq).kwarg.isNone&&(match(ef r.iq).kind with|.function=>true|_=>false)&&!(ef r.iq).isGenerator&&!(ef r.iq).isCoroutine&&vA ((ef r.iq).names.map (·.1))&&((ef r.iq).names.all λp=>match p.2with|.free=>false|_=>true)&&Bq (fB (ew r.iq)) (f9 (ef r.iq))&&aga r.QS.length (fB (ew r.iq)).length
structure BZ(r:qM):Prop where
 po:(ew r.iq).posonlyargs=[]
 va:(ew r.iq).vararg=none
 ko:(ew r.iq).kwonlyargs=[]
 kw:(ew r.iq).kwarg=none
 kind:(ef r.iq).kind=.function
 gen:(ef r.iq).isGenerator=false
 co:(ef r.iq).isCoroutine=false
 nd:((ef r.iq).names.map (·.1)).Nodup
 fr:∀p∈(ef r.iq).names,p.2≠.free
 pf:∃c,f9 (ef r.iq)=fB (ew r.iq)++c
 dl:r.QS.length<=(fB (ew r.iq)).length
theorem PA(h:Us r=true):BZ r:=by
 unfold Us at h;simp only[aI]at h;obtain⟨⟨⟨⟨⟨⟨⟨⟨⟨⟨f,g⟩,i⟩,j⟩,d⟩,k⟩,l⟩,m⟩,o⟩,b⟩,c⟩:=h;refine⟨by simpa using f,by simpa using g,by simpa using i,by simpa using j,?_,by simpa using k,by simpa using l,Co m,λp q e=>?_,xW b,bo c⟩;.revert d;generalize(ef r.iq).kind=z;intro d;rcases z with⟨⟩<;>first|rfl|exact fO d
 .have:=aA.mp o p q;rw[e]at this;exact fO this
noncomputable def V0:bt:=rU.all λp=>Us p.2
theorem I7:V0=true:=by kernel_rfl
theorem JI:rU.map (λp=>(p.1,p.2.iq))=Vh.map λq=>(q.1,q.2.1):=by kernel_rfl
noncomputable def X9(d:ab D)(v:al):bt:=match v with|.none=>d.isEmpty|v=>D2 6 (.tup d) v
theorem Rk(h:X9 d v=true):(v=.none/\d=[])\/D2 6 (.tup d) v=true:=by rcases v with⟨⟩<;>first|exact .inr h|exact .inl ⟨rfl,List.isEmpty_iff.mp h⟩
theorem OQ:((rU.zip Vh).all λz=>X9 z.1.2.QS z.2.2.2.2.2.2.1)=true:=by kernel_rfl
theorem wO{i j l:Type}{f:i->l}{g:j->l}:∀{as:ab i}{d:ab j},as.map f=d.map g->∀a∈as,∃b,(a,b)∈as.zip d/\f a=g b/\b∈d|[],_,_,_,h=>kr h|_::_,[],e,_,_=>xN e|a::as,b::d,e,x,h=>(af.mp h).elim (λh=>⟨b,h▸.head _,h▸(bx e).1,.head _⟩) λh=>(wO (bx e).2 x h).elim λc k=>⟨c,.tail _ k.1,k.2.1,.tail _ k.2.2⟩
noncomputable def Bb(P:bp):ab cM:=match(BR P).data with|.dict es _=>es.toList|_=>[]
theorem Hu(P:bp):vu (BR P)=true:=by kernel_rfl
theorem LQ(P:bp):oS (Bb P)=true:=by kernel_rfl
theorem Ld(P:bp):gc (Bb P) (aa "sys.recursionlimit")=none:=by kernel_rfl
set_option tactic.hygienic true in theorem EW(P:bp):∃ep,(BR P).data=.dict (Bb P).toArray ep:=by
 have h:=Hu P;unfold vu at h;unfold Bb;refine(let γ:Prop:=_;(?_:γ));split at h;.rename_i es ep e;exact⟨ep,(sY e rfl)⟩
 .exact fO h
section
variable{w:bO}{n:Nat}{x y z:Sx}{wm:Nat}{P P':b5->Prop}{A:bI}{E:al->aM->Prop}{Y:Cx}{J:Env}{N:b7}{O:ab Str}{l:Loc}
theorem HI(T:fm w h):h.NoLimit:=by obtain⟨b,e⟩:=EW w.params;refine i12 _ (G7 (a:=abY) (T.objs (2,BR w.params) (BD _ ?_)) e (LQ _)) (Ld _);unfold rY;simp
theorem kv:∀(b:ab (Str×ac7))(k:Nat)(c:ab (Str×b5)),(aaZ k b c).map (·.1)=((b.filter λp=>p.2==.cell).map (·.1)).reverse++c.map (·.1):=by
 intro b;induction b with
 |nil=>intro _ _;simp[aaZ]|cons d r ih=>
  rcases d with⟨f,e⟩;intro k c;unfold aaZ;by_cases h:(e==acw)=true;.rw[aW h,ih,cV,aW h];simp
  .rw[aZ h,ih,cV,aZ h]
theorem j9{c:Type}:∀{l:ab (Str×c)}{nm:Str}{v:c},(l.map (·.1)).Nodup->(nm,v)∈l->l.lookup nm=some v
 |(k,u)::r,nm,v,b,h=>by
  rw[ar,a7]at b;refine sY br ?_;rcases af.mp h with q|q;.clear h;obtain⟨rfl,rfl⟩:=pJ q.symm;simp
  .have:(nm==k)=false:=by refine aaX.mpr ?_;rintro rfl;exact b.1 (ag.mpr ⟨_,q,rfl⟩)
   refine sY this ?_;exact j9 b.2 q
theorem vX(h:nm∈f9 N):(nm,NameKind.local)∈N.names\/(nm,acw)∈N.names:=by obtain⟨⟨a,k⟩,b,rfl⟩:=ag.mp h;clear h;obtain⟨b,c⟩:=aO.mp b;rcases k with⟨⟩<;>first|exact .inl b|exact .inr b|exact fO c
theorem mZ(h:(N.names.map (·.1)).Nodup):(f9 N).Nodup:=by unfold f9;exact acp (abx _ aaY) h
theorem Cr{f:Str->ae ac7}:∀(nms:ab Str)(b:ab al)(m:Str->ae al),nms.Nodup->∀{j:Nat}{nm:Str}{u:al},nms[j]?=some nm->b[j]?=some u->f nm=some .local->agx f (nms.zip b) m nm=some u:=by
 have c:∀(nms:ab Str)(b:ab al)(m:Str->ae al)(nm:Str),nm∉nms->agx f (nms.zip b) m nm=m nm:=by
  intro nms;induction nms with
  |nil=>intro b m nm _;simp[agx]|cons a r ih=>
   intro b m nm h;induction b using aS with
   |nil=>simp[agx]|cons u b=>
    simp only[cg];unfold agx;rw[ih _ _ _ λq=>h (ax _ q)];have:nm≠a:=λe=>h (e▸aF);split;.exact aZ this
    .rfl
 intro nms;induction nms with|nil=>intro b m _ j nm u h;exact ec h|cons a r ih=>intro b m i j nm u g d k;rw[a7]at i;induction b using aS with|nil=>exact ec d|cons v b=>simp only[cg];unfold agx;induction j with|zero=>simp at g d;subst g;subst d;rw[c _ _ _ _ i.1,aW k,aW rfl]|succ j=>exact ih b _ i.2 (by simpa using g) (by simpa using d) k
theorem Cf{f:Str->ae ac7}:∀(nms:ab Str)(b:ab al)(m:Str->ae al),nms.Nodup->∀{j:Nat}{nm:Str}{u:al},nms[j]?=some nm->b[j]?=some u->f nm≠some .local->agA f (nms.zip b) m nm=some u:=by
 have c:∀(nms:ab Str)(b:ab al)(m:Str->ae al)(nm:Str),nm∉nms->agA f (nms.zip b) m nm=m nm:=by
  intro nms;induction nms with
  |nil=>intro b m nm _;simp[agA]|cons a r ih=>
   intro b m nm h;induction b using aS with
   |nil=>simp[agA]|cons u b=>
    simp only[cg];unfold agA;rw[ih _ _ _ λq=>h (ax _ q)];have:nm≠a:=λe=>h (e▸aF);split;.rfl
    .exact aZ this
 intro nms;induction nms with|nil=>intro b m _ j nm u h;exact ec h|cons a r ih=>intro b m i j nm u g d k;rw[a7]at i;induction b using aS with|nil=>exact ec d|cons v b=>simp only[cg];unfold agA;induction j with|zero=>simp at g d;subst g;subst d;rw[c _ _ _ _ i.1,aZ k,aW rfl]|succ j=>exact ih b _ i.2 (by simpa using g) (by simpa using d) k
theorem eC.get{c f:Type}{R:c->f->Prop}{as:ab c}{d:ab f}(h:eC R as d){j:Nat}{a:c}(e:as[j]?=some a):∃b,d[j]?=some b/\R a b:=by
 revert j a;suffices k:∀(j:Nat)(a:c),as[j]?=some a->∃b,d[j]?=some b/\R a b from@k;refine h.ind (λ_ _ e=>ec e) λ{_ b _ _}p _ ih j y e=>?_;rcases j with _|j;.exact so e (i12 b rfl p)
 .exact ih j y e
theorem HD(K:BZ r)(V1:M.scope=ef r.iq)(ZP:M.globals=3)(ZR:M.builtins=0)(R:Rel w x)(hu:eC (Rv w x) U us)(T:U.length=(fB (ew r.iq)).length)(C:InCallC x.s (c6 M x.sz f).locals (agx (c6 M x.sz f).kindOf ((fB (ew r.iq)).zip us) λ_=>none) (c6 M x.sz f).cells (agA (c6 M x.sz f).kindOf ((fB (ew r.iq)).zip us) λ_=>none) j):∃y,y.s=j/\y.H=x.H/\Rel w y/\(∀wm,Le wm fP x y)/\fU w y (c6 M x.sz f) (ef r.iq) (f9 (ef r.iq)) (U.map some++bL ((f9 (ef r.iq)).length-U.length) none)/\∀b,jL (c6 M x.sz f) b->x.s.heap.get? b=none:=by
 refine(let γ:Prop:=_;(?_:γ));obtain⟨I,L,Zg,Qd⟩:=C;obtain⟨⟨Zb,tk,hs⟩,NT,Q,δ⟩:=I;have g:=λwm=>iE (wm:=wm) (P:=fP) (s':=j) (as:=[]) R Q ((sY hs R.gens)) ((sY hs rfl)) (λb hb=>by exact kr hb);have d:(c6 M x.sz f).cells=aaZ (x.sz+1) (ef r.iq).names []:=by show aaZ (x.sz+1) M.scope.names []=_;rw[V1]
 have G:∀m,(c6 M x.sz f).kindOf m=(ef r.iq).names.lookup m:=by intro m;show M.scope.names.lookup m=_;rw[V1]
 have B:∀b,x.sz<=b->x.s.heap.get? b=none:=λb hb=>by cases e:x.s.heap.get? b with|none=>rfl|some o=>exact ay (Heap.lt_size e) (aai.mpr hb)
 have fresh:∀b,jL (c6 M x.sz f) b->x.s.heap.get? b=none:=by
  rintro b(rfl|⟨p,hp,rfl⟩);.exact B _ (aV _)
  .exact B _ (aaH (Qd p.1 p.2 hp))
 have off:∀b,jL (c6 M x.sz f) b->Off x (x.grow j []) b:=λb hb=>Off.new (wm:=0) (P:=fP) .refl R (fresh b hb) Q;obtain⟨c,a⟩:=K.pf;have nd:=mZ K.nd;have idx:∀{m i},ey (f9 (ef r.iq)) m=some i->∀{v},(U.map some++bL ((f9 (ef r.iq)).length-U.length) none)[i]?=some (some v)->U[i]?=some v/\(fB (ew r.iq))[i]?=some m:=by
  intro m i hi v X;have XF:i<U.length:=by
   rcases df i U.length with q|q;.exact q
   .rw[bk (by simpa using q),abm]at X;split at X<;>cases X
  rw[aU (by simpa using XF)]at X;refine⟨?_,?_⟩;.rw[bV]at X;refine kg X λv' Z t=>?_;refine so t ?_;exact Z
  .have:=kM hi;rw[a,aU ((sZ T XF))]at this;exact this
 have Xx:(fB (ew r.iq)).Nodup:=by rw[a]at nd;exact(a8.mp nd).1
 refine i12 (x.grow j []) rfl ⟨rfl,(g 0).1,λwm=>(g wm).2,⟨V1,K.kind,ZP,ZR,?_,⟨_,NT,λm i v Z t h3=>?_⟩,λm i Z t=>?_,λm UH cc Z t=>?_,?_,λp hp=>?_⟩,fresh⟩;.
  have:U.length<=(f9 (ef r.iq)).length:=by rw[a,ao,T];lia
  simp;lia
 .refine lK (idx Z h3) λg1 g2=>?_;refine d9 (hu.get g1) λu g3 g4=>?_;exact i12 u (Cr _ _ _ Xx g2 g3 (by rw[G];exact t)) (g4.le (g 0).2)
 .rcases t with t|t;.
   have UP:m∈(aaZ (x.sz+1) (ef r.iq).names []).map (·.1):=by rw[kv];rw[bF,aL,acX];exact ag.mpr ⟨(m,.cell),aO.mpr ⟨mem_of_lookup t,rfl⟩,rfl⟩
   refine d9 (ag.mp UP) λz4 hm hk=>?_;obtain⟨k,cc⟩:=z4;dsimp only at hk;obtain rfl:=hk.symm;obtain⟨c',X1⟩:=ju hm;refine jR c' _ ⟨by rw[d];exact X1,L _ _ (by rw[d];exact X1),λv X=>?_⟩;refine lK (idx Z X) λg1 g2=>?_;refine d9 (hu.get g1) λu g3 g4=>?_;exact i12 u (Cf _ _ _ Xx g2 g3 (by rw[G,t];simp)) (g4.le (g 0).2)
  .exact ay rfl (K.fr _ (mem_of_lookup t))
 .exact name_of_addr Zg (mem_of_lookup Z) (mem_of_lookup t)
 .exact⟨(off _ (.inl rfl)).2.1,(off _ (.inl rfl)).2.2⟩
 .have o:=off p.2 (.inr ⟨p,hp,rfl⟩);refine⟨o.2.1,o.2.2,aak (Qd p.1 p.2 hp),?_⟩;have hl:(c6 M x.sz f).cells.lookup p.1=some p.2:=by refine j9 ?_ hp;rw[d,kv];simp only[bF,aL];refine dI (λh=>abn h) (List.pairwise_reverse.mpr (dI (λh=>abn h) ?_))|>λh=>h.imp λq=>q.symm;exact acp (abx _ aaY) K.nd
  exact QD _ (L _ _ hl)
end
section
variable{w:bO}{n:Nat}{x y z:Sx}{wm:Nat}{P P':b5->Prop}{A:bI}{E:al->aM->Prop}{Y:Cx}{J:Env}{N:b7}{O:ab Str}{l:Loc}
theorem Jc:∀p∈rU,BZ p.2:=λp b=>PA (aA.mp (show(rU.all λp=>Us p.2)=true from I7) p b)
theorem F5{l:ab (Nat×qM)}(h:(l.find? λp=>aah p.1 f).map (·.2)=some r):(f,r)∈l:=by refine d9 (cv.mp h) λp b c=>?_;have e:=aac b;have d:aah p.1 f=true:=abP (p:=λp:Nat×qM=>aah p.1 f) b;refine sZ (bR d) ?_;refine sZ c ?_;exact e
theorem NI(h:Pc f=some r):BZ r/\∃b c i d m,(f,Rq r.iq b c i d m)∈vi/\((d=.none/\r.QS=[])\/D2 6 (.tup r.QS) d=true):=by have g:(f,r)∈rU:=F5 h;refine j7 (wO JI _ g) λq k e j=>⟨Jc _ g,q.2.2.1,q.2.2.2.1,q.2.2.2.2.1,q.2.2.2.2.2.1,q.2.2.2.2.2.2,?_,Rk (aA.mp OQ _ k)⟩;rw[show f=q.1from ah Prod.fst e,show r.iq=q.2.1from ah Prod.snd e];exact ag.mpr ⟨q,j,rfl⟩
theorem P7(T:fm w x.g)(R:Rel w x)(h:(b=.none/\Z=[])\/D2 6 (.tup Z) b=true):∃B:ab al,fi w x.g Z B/\((b=.none/\B=[])\/∃T o n,b=.ref T/\x.s.heap.get? T=some o/\o.data=.seq B.toArray n):=by
 rcases h with⟨rfl,rfl⟩|h;.exact i12 [] .nil (.inl ⟨rfl,rfl⟩)
 .have r:=FJ (w:=w) (λp f=>T.objs _ (HY _ f)) 6 _ _ h;cases r with|@tup a U _ c i d j=>obtain⟨o,e,m,k,hd⟩:=c;exact i12 U.toList d (.inr ⟨a,o,k,rfl,R.sub _ _ e,hd⟩)
theorem fi.drop(h:fi w g Z U):∀k,fi w g (Z.drop k) (U.drop k):=h.ind (λk=>by rcases k with _|k<;>exact .nil) λa q r k=>by
 rcases k with _|k;.exact .cons a q
 .exact r k
theorem fi.Zz(h:fi w x.g Z U):eC (Rv w x) (Z.map .d) U:=h.ind .nil λa _ r=>.cons (.d a) r
noncomputable def Q1(b:bt)(k:Nat)(f:Fl)(H:Hp):ae (V×Hp):=match b with|true=>(match f with|.er=>some (.d .fS,H)|_=>none)|false=>(match f with|.er=>some (.d .fS,H.take k)|.ret v=>(toD v H).map λx=>(.d x.1,x.2.take k)|_=>none)
theorem NS{b:bt}{B:Fl}{t:Flow}{f:Hp}{v:V}{R:al->aM->Prop}(i:Rel w x)(T:wm<=x.H.length)(S:Rel w z)(L:Le (if b then wm else x.H.length) fP x z)(r:Ii w z B t)(e:Q1 b x.H.length B z.H=some (v,f))(q:∀y u,Rel w y->Le wm fP x y->y.H=f->Rv w y v u->R u y.s):R (match(generalizing:=false)t with|.ret v=>v|_=>.none) z.s:=by
 have fin:∀{d:D}{c:Hp}{u:al}{C:Sx},C.s=z.s->Rel w C->Le x.H.length fP x C->C.H=c->Rd w C.g d u->(V.d d,c.take x.H.length)=(v,f)->R u z.s:=λ{d c u C}j k m o p g=>pn (DU (wm:=wm) i k m T) λI G U=>sZ (P:=λs=>R _ s) j (q (C.cut x.H.length) _ I G ((ah (afb x.H.length) o).trans (pJ g).2) ((pJ g).1▸U _ _ rfl (.d p)));induction b using aY with
 |true=>induction r with|er=>exact q z .none S L (CF e).2 ((CF e).1▸.d .fS)|_=>exact ec e
 |false=>induction r with|er=>exact fin rfl S L rfl .fS (sI e)|cnt=>exact ec e|brk=>exact ec e|ret X=>exact yr e λd c M Q=>Ri (FN (wm:=x.H.length) (P:=fP) S X M) λC j k m o p=>fin j k (Le.trans L m) o p Q
theorem Ar(K:BZ r)(h:nm∈fB (ew r.iq)):(ef r.iq).names.lookup nm=some .local\/((ef r.iq).names.lookup nm=some .cell/\((aaZ k (ef r.iq).names []).lookup nm).isSome=true):=nH K.pf λc d=>(vX (N:=ef r.iq) (nm:=nm) (d▸bl _ h)).elim (λq=>.inl (j9 K.nd q)) λq=>.inr ⟨j9 K.nd q,by
 have b:nm∈(aaZ k (ef r.iq).names []).map (·.1):=by rw[kv,bF,aL,acX];exact ag.mpr ⟨(nm,.cell),aO.mpr ⟨q,rfl⟩,rfl⟩
 exact d9 (ag.mp b) λp f e=>e▸nH (ju (nm:=p.1) (c:=p.2) f) λc h=>by rw[h];rfl⟩
theorem PM(ih:vT w k (nT k))(K:BZ r)(p:M.scope=ef r.iq)(o:M.globals=3)(m:M.builtins=0)(b:rX A (k+1))(i:Rel w x)(G:wm<=x.H.length)(hu:eC (Rv w x) U I)(d:U.length=(fB (ew r.iq)).length)(g:d5 (EZ r.NV r.iq) ⟨nT k,if r.init then wm else x.H.length⟩ (U.map some++bL ((f9 (ef r.iq)).length-U.length) none) x.H=some (fl,lf,Q))(e:Q1 r.init x.H.length fl Q=some (v,L))(q:∀y u,Rel w y->Le wm fP x y->y.H=L->Rv w y v u->R (.ok (.ret u)) y.s)(C:InCallC x.s (c6 M x.sz f).locals (agx (c6 M x.sz f).kindOf ((fB (ew r.iq)).zip I) λ_=>none) (c6 M x.sz f).cells (agA (c6 M x.sz f).kindOf ((fB (ew r.iq)).zip I) λ_=>none) j):abL (aP pw w) A (.func (nh r.iq) (c6 M x.sz f)) R j:=by refine Sq (HD K p o m i hu d C) λy e1 B Z T a fr=>?_;subst e1;have c:Eh (A.deeper (c6 M x.sz f)) k:=⟨b.hh,by have r1:=b.depth;show A.depth+1+10*k+10<1000;omega,by have r2:=b.units;show A.units+3+100*k+300<abF;omega⟩;have t:(if r.init then wm else x.H.length)<=y.H.length:=sY (P:=λH:Hp=>(if r.init then wm else x.H.length)<=H.length) B (if h:r.init=true then au (bZ (aW h)) G else bZ (aZ h));exact codeAny_func (rA (λs _=>(Qi (ef r.iq) (f9 (ef r.iq)) r.NV 60 s).ok w _) ⟨c,ih,t,Z,a⟩ (sY B g) λz f' az X gz rz=>NS (R:=λu s=>R (.ok (.ret u)) s) i G az.rel ((Le.trans ((T _).weak λ_ h=>h.elim) X).D7 fr) rz (gz▸e) q)
theorem Dn(k:Nat):vT w k (nT k):=by induction k with|zero=>exactλ_ _ _ e _ _=>ec e|succ k ih=>intro A wm f args v H' x Z R m d hw e hv q;refine xh e λr hr e=>lK (NI hr) λK y1=>Yf y1 λi j cd dV pm H X=>xh e λU g e5=>W3 e5 λfl lf Hf L e6=>?_;refine if1 g λhc g=>d9 (P7 d.top d X) λB G T=>?_;have Q:=d.top.keeps d.sub;have h:=hv.length;have t:=G.length;have o:=r0 (s:=x.s) (M:=fnOf (aa i) (aa j) (ew r.iq) (nh r.iq) (ef r.iq) dV .none .none pm none (.ref cd) .none) (Z:=Z) (B:=B) (nms:=fB (ew r.iq)) rfl K.po K.va K.ko K.kw T (nH K.pf λc Yc=>(a8.mp (Yc▸mZ K.nd)).1) (h▸hc.1) (h▸t▸hc.2) (t▸K.dl);refine codeAny_call_function (aj (aH _ _) (aj (aH _ _) m.depth)) (Q.objs (f,Rq r.iq i j cd dV pm) (MY _ H)) rfl K.co K.gen rfl (Q.codes _ H) (o _ _ _ _ ?_);refine wpAny_newFunctionEnv_cells K.kind (λp hp=>Ar K (ac9 (a:=p.1) (b:=p.2) hp).1) λJ he ZW C=>?_;have hu:eC (Rv w x) U (Z++B.drop (Z.length+B.length-(fB (ew r.iq)).length)):=sI g▸h▸t▸hv.append (G.drop _).Zz;have I:U.length=(fB (ew r.iq)).length:=sI g▸(by simp;omega);subst he;exact⟨(HI Q).keeps C.toInCall.keep,PM ih K rfl rfl rfl m d hw hu I L e6 q C⟩
end
noncomputable def Pw:Prop:=∀O:ab Int,O.length<=63->∃b,nT 60 0 1060 [.d (.lst (O.map .int))] []=some (.d (.bool true),b)
theorem D6(h:kH U O):fi w g (O.map .int) U:=kH.rec (motive:=λU O _=>fi w g (O.map .int) U) .nil (λ_ r=>.cons (.int _ _) r) h
theorem DE(M:Pw):yN:=by
 intro w s l U n o O T t B p hd z A;obtain⟨C,m⟩:=M O A;have r:=D6 (w:=w) (g:=s.heap) z;have f:O.length=U.size:=by simpa using r.length
 have R:Rel w ⟨s.heap,[],[],s⟩:=⟨λ_ _ e=>e,T,rfl,λi c a h _=>by simp at h,λi j a h _=>by simp at h,t⟩;refine abW (Dn 60 (x:=⟨s.heap,[],[],s⟩) ⟨rfl,by decide,by decide⟩ R (bB _) m (.cons (.d (.lst ⟨o,B,p,n,hd⟩ (by rw[dj,←f];lia) r)) .nil) λy u S L e k=>?_);cases k with|d k=>cases k;refine⟨rfl,λb o e=>L.keep b o e (λ⟨i,c,h,_⟩=>by simp at h) (λq=>q),L.os,S.gens⟩
end Mine
end
noncomputable section
open PySem PySem.W
namespace Mine
inductive Aw where|vh(v:V)(H:Hp)|v(v:V)|d(x:D)|b(b:bt)|dh(x:D)(H:Hp)|lh(Z:ab D)(H:Hp)|fl(f:Fl)(l:Loc)(H:Hp)|h(H:Hp)
noncomputable abbrev Ds:=ab (Nat×Aw)
noncomputable def DL:Aw->ae (V×Hp)|.vh v H=>some (v,H)|_=>none
noncomputable def gv:Aw->ae V|.v v=>some v|_=>none
noncomputable def gd:Aw->ae D|.d v=>some v|_=>none
noncomputable def gb:Aw->ae bt|.b v=>some v|_=>none
noncomputable def Zk:Aw->ae (D×Hp)|.dh v H=>some (v,H)|_=>none
noncomputable def T6:Aw->ae (ab D×Hp)|.lh v H=>some (v,H)|_=>none
noncomputable def Zw:Aw->ae (Fl×Loc×Hp)|.fl f l H=>some (f,l,H)|_=>none
noncomputable def gh:Aw->ae Hp|.h v=>some v|_=>none
noncomputable def go{b:Type}(x:ae b)(K:b->Prop):Prop:=match x with|some r=>K r|none=>True
noncomputable def ask{b:Type}(g:Aw->ae b)(x:ae b)(B:Ds)(K:b->Ds->Prop):Prop:=match B with|[]=>go x λr=>K r []|(n,a)::B=>match n with|0=>go (g a) λr=>x=some r->K r B|n+1=>go x λr=>K r ((n,a)::B)
theorem nS{K:b->Prop}(h:∀r,x=some r->K r):go x K:=by induction x using cC with|none=>exact bN|some r=>exact h r rfl
theorem eY{K:c->Ds->Prop}(h:∀r b,x=some r->K r b):ask g x B K:=by induction B using aS with|nil=>exact nS λr e=>h r _ e|cons p B=>obtain⟨n,a⟩:=p;induction n with|zero=>exact nS λr _ e=>h r _ e|succ n=>exact nS λr e=>h r _ e
theorem bE{b c:Type}{o:ae b}{f:b->ae c}{a:b}{r:c}(h:o=some a)(k:f a=some r):o.bind f=some r:=h▸k
theorem mE{b c:Type}{o:ae b}{f:b->c}{a:b}{r:c}(h:o=some a)(k:f a=r):o.map f=some r:=h▸ah some k
structure BE where
 run:ME
 T:Cx->Loc->Hp->Ds->(V->Hp->Ds->Prop)->Prop
 ok:∀{c l H B K},(∀v H' IW,run c l H=some (v,H')->K v H' IW)->T c l H B K
structure BT where
 run:MT
 T:Cx->Loc->Hp->Ds->(bt->Hp->Ds->Prop)->Prop
 ok:∀{c l H B K},(∀v H' IW,run c l H=some (v,H')->K v H' IW)->T c l H B K
structure BI where
 run:MI
 T:Cx->Loc->Hp->Ds->(ab D->Hp->Ds->Prop)->Prop
 ok:∀{c l H B K},(∀v H' IW,run c l H=some (v,H')->K v H' IW)->T c l H B K
structure BS where
 run:MS
 T:Cx->Loc->Hp->Ds->(Fl->Loc->Hp->Ds->Prop)->Prop
 ok:∀{c l H B K},(∀f l' H' IW,run c l H=some (f,l',H')->K f l' H' IW)->T c l H B K
section
variable{c:Cx}{l:Loc}{H:Hp}{B:Ds}
noncomputable def TD(m:BE)(c:Cx)(l:Loc)(H:Hp)(B:Ds)(K:D->Hp->Ds->Prop):Prop:=m.T c l H B λv H B=>ask Zk (toD v H) B λr B=>K r.1 r.2 B
theorem lH(h:∀v d b,eD m.run c l H=some (v,d)->K v d b):TD m c l H B K:=m.ok λv X e g=>eY λr f i=>h _ _ _ (bE g i)
noncomputable def Rf:ab BE->Cx->Loc->Hp->Ds->(ab D->Hp->Ds->Prop)->Prop|[],_,_,H,B,K=>K [] H B|m::C,c,l,H,B,K=>TD m c l H B λx H B=>Rf C c l H B λZ H B=>K (x::Z) H B
theorem zX:∀{C:ab BE}{H:Hp}{B:Ds}{K:ab D->Hp->Ds->Prop},(∀v d b,Lf (C.map BE.run) c l H=some (v,d)->K v d b)->Rf C c l H B K:=by intro C;induction C with|nil=>intro _ _ _ h;exact h _ _ _ rfl|cons m C ih=>intro _ _ _ h;exact lH λx X e g=>ih λZ j f i=>h _ _ _ (bE g (mE i rfl))
noncomputable def Qz:ab BE->Cx->Loc->Hp->Ds->(ab V->Hp->Ds->Prop)->Prop|[],_,_,H,B,K=>K [] H B|m::C,c,l,H,B,K=>m.T c l H B λv H B=>ask DL (ik v H) B λr B=>Qz C c l r.2 B λZ H B=>K (r.1::Z) H B
theorem uZ:∀{C:ab BE}{H:Hp}{B:Ds}{K:ab V->Hp->Ds->Prop},(∀v d b,mW (C.map BE.run) c l H=some (v,d)->K v d b)->Qz C c l H B K:=by intro C;induction C with|nil=>intro _ _ _ h;exact h _ _ _ rfl|cons m C ih=>intro _ _ _ h;exact m.ok λx X e i=>eY λr f j=>ih λZ o g k=>h _ _ _ (bE i (bE j (mE k rfl)))
noncomputable def VD:ab BE->Cx->Loc->Hp->Ds->(ab V->Hp->Ds->Prop)->Prop|[],_,_,H,B,K=>K [] H B|m::C,c,l,H,B,K=>m.T c l H B λv H B=>VD C c l H B λZ H B=>K (v::Z) H B
theorem PZ:∀{C:ab BE}{H:Hp}{B:Ds}{K:ab V->Hp->Ds->Prop},(∀v d b,yp (C.map BE.run) c l H=some (v,d)->K v d b)->VD C c l H B K:=by intro C;induction C with|nil=>intro _ _ _ h;exact h _ _ _ rfl|cons m C ih=>intro _ _ _ h;exact m.ok λx X e g=>ih λZ j f i=>h _ _ _ (bE g (mE i rfl))
end
noncomputable section
noncomputable def mU:BE:=⟨tj,λ_ _ _ _ _=>True,λ_=>bN⟩
noncomputable def dN(x:D):BE:=⟨Hj x,λ_ _ H B K=>K (.d x) H B,λh=>h _ _ _ rfl⟩
noncomputable def dM(i:Nat):BE:=⟨vc i,λ_ l H B K=>go l[i]? λo=>go o λv=>K v H B,λh=>nS λo e=>nS λv b=>h _ _ _ (by simp[vc,e,b])⟩
noncomputable def d8(C:ab BE):BE:=⟨N5 (C.map BE.run),λc l H B K=>Rf C c l H B λZ H B=>K (.d (.tup Z)) H B,λh=>zX λZ X b e=>h _ _ _ (mE e rfl)⟩
noncomputable def fq(C:ab BE):BE:=⟨OL (C.map BE.run),λc l H B K=>Rf C c l H B λZ H B=>K (.d (.lst Z)) H B,λh=>zX λZ X b e=>h _ _ _ (mE e rfl)⟩
noncomputable def hV(md:Mode)(C:ab BE):BE:=⟨BM md (C.map BE.run),λc l H B K=>Rf C c l H B λZ H B=>ask DL (mB H (.lst Z md)) B λr B=>K r.1 r.2 B,λh=>zX λZ X b e=>eY λr d f=>h _ _ _ (mE e (sI f))⟩
noncomputable def qF:BE:=⟨Hs,λc l H B K=>ask DL (mB H (.eJ [] false)) B λr B=>K r.1 r.2 B,λh=>eY λr b d=>h _ _ _ d⟩
noncomputable def Hc(k v:BE):BE:=⟨zq k.run v.run,λc l H B K=>TD k c l H B λx H B=>TD v c l H B λy H B=>ask DL (zU H x y) B λr B=>K r.1 r.2 B,λh=>lH λx X b f=>lH λy j d g=>eY λr e i=>h _ _ _ (bE f (bE g i))⟩
noncomputable def dO(f:Nat)(C:ab BE):BE:=⟨GK f (C.map BE.run),λc l H B K=>Qz C c l H B λU H B=>ask DL (c.call c.wm f U H) B λr B=>K r.1 r.2 B,λh=>uZ λZ X b e=>eY λr d g=>h _ _ _ (bE e g)⟩
noncomputable def O6(cl b:Nat)(C:ab BE):BE:=⟨eNew cl b (C.map BE.run),λc l H B K=>Qz C c l H B λU H B=>ask DL (c.call c.wm b (.ins cl H.length::U) (H++[.ins []])) B λr B=>go (QR r.1) λ_=>K (.ins cl H.length) r.2 B,λh=>uZ λZ X d e=>eY λr f g=>nS λ_ i=>h _ _ _ (bE e (bE g (mE i rfl)))⟩
noncomputable def EG(cl b:Nat)(C:ab BE):BE:=⟨NC cl b (C.map BE.run),λc l H B K=>Qz C c l H B λU H B=>ask DL (c.call H.length b (.ins cl H.length::U) (H++[.ins []])) B λr B=>go (QR r.1) λ_=>ask DL (jg cl H.length r.2) B λr B=>K r.1 r.2 B,λh=>uZ λZ X d e=>eY λr f i=>nS λ_ j=>eY λm g k=>h _ _ _ (bE e (bE i (bE j k)))⟩
noncomputable def dQ(o k:BE):BE:=⟨NF o.run k.run,λc l H B K=>o.T c l H B λv H B=>TD k c l H B λx H B=>ask gv (fZ v x H) B λw B=>K w H B,λh=>o.ok λv X b f=>lH λx j d g=>eY λw e i=>h _ _ _ (bE f (bE g (mE i rfl)))⟩
noncomputable def Sf(o:BE)(n:Nat):BE:=⟨G6 o.run n,λc l H B K=>o.T c l H B λv H B=>ask gv (M8 n v) B λw B=>K w H B,λh=>o.ok λv X b e=>eY λw d f=>h _ _ _ (bE e (mE f rfl))⟩
noncomputable def VQ(o:BE):BE:=⟨ND o.run,λc l H B K=>o.T c l H B λv H B=>ask gv (Ox v) B λw B=>K w H B,λh=>o.ok λv X b e=>eY λw d f=>h _ _ _ (bE e (mE f rfl))⟩
noncomputable def d'(o:BE)(a:Nat):BE:=⟨Ia o.run a,λc l H B K=>o.T c l H B λv H B=>ask gv (kA v a H) B λw B=>K w H B,λh=>o.ok λv X b e=>eY λw d f=>h _ _ _ (bE e (mE f rfl))⟩
theorem Po(h:Rr b=some u):b=true:=by rcases b with⟨⟩;exact ec h;rfl
noncomputable def ed(M:mO)(o:BE)(m:Nat)(es:ab BE):BE:=⟨FU M o.run m (es.map BE.run),λc l H B K=>o.T c l H B λv H B=>ask gb (some (iZ M v m H)) B λb B=>go (Rr b) λ_=>Qz es c l H B λU H B=>ask DL (fJ M c v m U H) B λr B=>K r.1 r.2 B,λh=>o.ok λv X d i=>eY λb e j=>nS λ_ k=>uZ λU s f p=>eY λr g q=>h _ _ _ (bE i ((aW ((sI j).trans (Po k))).trans (bE p q)))⟩
noncomputable def el(R:dD)(a b:BE):BE:=⟨Nl R a.run b.run,λc l H B K=>TD a c l H B λx H B=>TD b c l H B λy H B=>ask gd (fv R x y) B λz B=>K (.d z) H B,λh=>lH λx X e i=>lH λy m f j=>eY λz g k=>h _ _ _ (bE i (bE j (mE k rfl)))⟩
noncomputable def lY(i:Int):BE:=⟨Oe i,λ_ _ H B K=>K (.d (.int (-i))) H B,λh=>h _ _ _ rfl⟩
noncomputable def dS(R:afg)(a b:BE):BE:=⟨Ot R a.run b.run,λc l H B K=>TD a c l H B λx H B=>b.T c l H B λy H B=>ask gb (f6 R x y H) B λz B=>K (.d (.bool z)) H B,λh=>lH λx X e i=>b.ok λy m f j=>eY λz g k=>h _ _ _ (bE i (bE j (mE k rfl)))⟩
noncomputable def qv(I:bt)(a:BE):BE:=⟨A7 I a.run,λc l H B K=>a.T c l H B λv H B=>ask gb (some (isNone v !=I)) B λz B=>K (.d (.bool z)) H B,λh=>a.ok λv X e g=>eY λz f i=>h _ _ _ (mE g (ah (λb=>(V.d (.bool b),X)) (sI i)))⟩
noncomputable def TE(m:BE):BT:=⟨tE m.run,λc l H B K=>m.T c l H B λv H B=>ask gb (jo v H) B λb B=>K b H B,λh=>m.ok λv X d f=>eY λb e g=>h _ _ _ (bE f (mE g rfl))⟩
noncomputable def Di(t:BT):BT:=⟨Qv t.run,λc l H B K=>t.T c l H B λb H B=>K (!b) H B,λh=>t.ok λb X d e=>h _ _ _ (mE e rfl)⟩
noncomputable def cb(b:bt)(x y:Prop):Prop:=match b with|true=>x|false=>y
theorem QV{Φ:bt->Prop}(e:Φ b)(h:Φ true->x)(k:Φ false->y):cb b x y:=aY (motive:=λb=>Φ b->cb b x y) b k h e
noncomputable def F7:ab BT->Cx->Loc->Hp->Ds->(bt->Hp->Ds->Prop)->Prop|[],_,_,H,B,K=>K true H B|t::ts,c,l,H,B,K=>t.T c l H B λb H B=>cb b (F7 ts c l H B K) (K false H B)
theorem KH:∀{ts:ab BT}{H:Hp}{B:Ds}{K:bt->Hp->Ds->Prop},(∀v f e,gO (ts.map BT.run) c l H=some (v,f)->K v f e)->F7 ts c l H B K:=by intro ts;induction ts with|nil=>intro _ _ _ h;exact h _ _ _ rfl|cons t ts ih=>intro _ _ _ h;exact t.ok λb X g d=>QV (Φ:=λb=>t.run c l _=some (b,X)) d (λd=>ih λv k i j=>h _ _ _ (bE d j)) λd=>h _ _ _ (bE d rfl)
noncomputable def gi(ts:ab BT):BT:=⟨gO (ts.map BT.run),F7 ts,KH⟩
noncomputable def DR:ab BT->Cx->Loc->Hp->Ds->(bt->Hp->Ds->Prop)->Prop|[],_,_,H,B,K=>K false H B|t::ts,c,l,H,B,K=>t.T c l H B λb H B=>cb b (K true H B) (DR ts c l H B K)
theorem Ja:∀{ts:ab BT}{H:Hp}{B:Ds}{K:bt->Hp->Ds->Prop},(∀v f e,Ch (ts.map BT.run) c l H=some (v,f)->K v f e)->DR ts c l H B K:=by intro ts;induction ts with|nil=>intro _ _ _ h;exact h _ _ _ rfl|cons t ts ih=>intro _ _ _ h;exact t.ok λb X g d=>QV (Φ:=λb=>t.run c l _=some (b,X)) d (λd=>h _ _ _ (bE d rfl)) λd=>ih λv k i j=>h _ _ _ (bE d j)
noncomputable def i6(ts:ab BT):BT:=⟨Ch (ts.map BT.run),DR ts,Ja⟩
noncomputable def kB(t:BT)(a b:BE):BE:=⟨Vb t.run a.run b.run,λc l H B K=>t.T c l H B λz H B=>cb z (a.T c l H B K) (b.T c l H B K),λh=>t.ok λz X i d=>QV (Φ:=λb=>t.run _ _ _=some (b,X)) d (λd=>a.ok λv g e f=>h _ _ _ (bE d f)) λd=>b.ok λv g e f=>h _ _ _ (bE d f)⟩
noncomputable def Fv:ab BE->Cx->Loc->Hp->Ds->(V->Hp->Ds->Prop)->Prop|[],_,_,_,_,_=>True|m::C,c,l,H,B,K=>m.T c l H B λv H B=>match C with|[]=>K v H B|_::_=>ask gb (jo v H) B λb B=>cb b (Fv C c l H B K) (K v H B)
theorem JF:∀{C:ab BE}{H:Hp}{B:Ds}{K:V->Hp->Ds->Prop},(∀v j f,yR (C.map BE.run) c l H=some (v,j)->K v j f)->Fv C c l H B K:=by intro C;induction C with|nil=>exactλ_=>bN|cons m C ih=>induction C using aS with|nil=>exactλh=>m.ok λb X g e=>h _ _ _ e|cons p C=>exactλh=>m.ok λv X g e=>eY λb i d=>QV (Φ:=λb=>jo v X=some b) d (λd=>ih λv o i k=>h _ _ _ (bE e (bE d k))) λd=>h _ _ _ (bE e (bE d rfl))
noncomputable def Ob(C:ab BE):BE:=⟨yR (C.map BE.run),Fv C,JF⟩
noncomputable def O':ab BE->Cx->Loc->Hp->Ds->(V->Hp->Ds->Prop)->Prop|[],_,_,_,_,_=>True|m::C,c,l,H,B,K=>m.T c l H B λv H B=>match C with|[]=>K v H B|_::_=>ask gb (jo v H) B λb B=>cb b (K v H B) (O' C c l H B K)
theorem Qs:∀{C:ab BE}{H:Hp}{B:Ds}{K:V->Hp->Ds->Prop},(∀v j f,OP (C.map BE.run) c l H=some (v,j)->K v j f)->O' C c l H B K:=by intro C;induction C with|nil=>exactλ_=>bN|cons m C ih=>induction C using aS with|nil=>exactλh=>m.ok λb X g e=>h _ _ _ e|cons p C=>exactλh=>m.ok λv X g e=>eY λb i d=>QV (Φ:=λb=>jo v X=some b) d (λd=>h _ _ _ (bE e (bE d rfl))) λd=>ih λv o i k=>h _ _ _ (bE e (bE d k))
noncomputable def TR(C:ab BE):BE:=⟨OP (C.map BE.run),O' C,Qs⟩
noncomputable def gP(f:Nat)(C:ab BE):BE:=⟨Qt f (C.map BE.run),λc l H B K=>VD C c l H B λU H B=>ask gd (iw f U H) B λz B=>K (.d z) H B,λh=>PZ λU X b g=>eY λz e i=>h _ _ _ (bE g (mE i rfl))⟩
noncomputable def fK(m:BE):BI:=⟨N2 m.run,λc l H B K=>m.T c l H B λv H B=>ask T6 (jk v H) B λr B=>K r.1 r.2 B,λh=>m.ok λv X b e=>eY λr d f=>h _ _ _ (bE e f)⟩
noncomputable def lb(m:BE):BI:=⟨yH m.run,λc l H B K=>TD m c l H B λx H B=>ask T6 (sO x H) B λr B=>K r.1 r.2 B,λh=>lH λx X b e=>eY λr d f=>h _ _ _ (bE e f)⟩
noncomputable def gA(elt:BE)(tg:Tg)(k:Nat)(j:BI)(cs:ab BT):BE:=⟨sL elt.run tg k j.run (cs.map BT.run),λc l H B K=>j.T c l H B λZ H B=>ask T6 (fa elt.run tg (gO (cs.map BT.run)) c Z (l++bL k none) H) B λr B=>K (.d (.lst r.1)) r.2 B,λh=>j.ok λZ X b f=>eY λr e g=>h _ _ _ (bE f (mE g rfl))⟩
noncomputable def Of(elt:BE)(tg:Tg)(k:Nat)(j:BI)(cs:ab BT):BE:=⟨pZ elt.run tg k j.run (cs.map BT.run),λc l H B K=>j.T c l H B λZ H B=>ask T6 (fa elt.run tg (gO (cs.map BT.run)) c Z (l++bL k none) H) B λr B=>ask DL (mB r.2 (.lst r.1 .sh)) B λr B=>K r.1 r.2 B,λh=>j.ok λZ X b f=>eY λr d g=>eY λm e i=>h _ _ _ (bE f (mE g (sI i)))⟩
noncomputable def TQ:ab BS->Cx->Loc->Hp->Ds->(Fl->Loc->Hp->Ds->Prop)->Prop|[],_,l,H,B,K=>K .er l H B|s::G,c,l,H,B,K=>s.T c l H B λf l H B=>match f with|.er=>TQ G c l H B K|f=>K f l H B
theorem xI:∀{l:Loc}{H:Hp}{B:Ds}{K:Fl->Loc->Hp->Ds->Prop},(∀f l' e d,d5 (G.map BS.run) c l H=some (f,l',e)->K f l' e d)->TQ G c l H B K:=by induction G with|nil=>exactλh=>h _ _ _ _ rfl|cons s G ih=>exactλh=>s.ok λf j X g=>Fl.casesOn f (λb=>ih λf o m i k=>h _ _ _ _ (bE b k)) (λb=>h _ _ _ _ (bE b rfl)) (λb=>h _ _ _ _ (bE b rfl)) λ_ b=>h _ _ _ _ (bE b rfl)
noncomputable def wu:BS:=⟨Ac,λ_ _ _ _ _=>True,λ_=>bN⟩
noncomputable def dX(i:Nat)(m:BE):BS:=⟨wM i m.run,λc l H B K=>m.T c l H B λv H B=>K .er (l.set i (some v)) H B,λh=>m.ok λv X b d=>h _ _ _ _ (mE d rfl)⟩
noncomputable def oB(I:ab Nat)(m:BE):BS:=⟨F4 I m.run,λc l H B K=>m.T c l H B λv H B=>go (PL I v l) λl=>K .er l H B,λh=>m.ok λv X b d=>nS λl' e=>h _ _ _ _ (bE d (mE e rfl))⟩
noncomputable def ic(o:BE)(a:Nat)(m:BE):BS:=⟨Bu o.run a m.run,λc l H B K=>m.T c l H B λw H B=>o.T c l H B λv H B=>ask gh (MW c.wm w a v H) B λH B=>K .er l H B,λh=>m.ok λw X b f=>o.ok λv j d g=>eY λk e i=>h _ _ _ _ (bE f (bE g (mE i rfl)))⟩
noncomputable def o6(o k m:BE):BS:=⟨Er o.run k.run m.run,λc l H B K=>TD m c l H B λx H B=>o.T c l H B λv H B=>TD k c l H B λy H B=>ask gh (II y x v H) B λH B=>K .er l H B,λh=>lH λx X b g=>o.ok λv q d i=>lH λy s f p=>eY λr e j=>h _ _ _ _ (bE g (bE i (bE p (mE j rfl))))⟩
noncomputable def WR(i:Nat)(R:dD)(m:BE):BS:=⟨Oy i R m.run,λc l H B K=>TD (dM i) c l H B λx H B=>TD m c l H B λy H B=>ask gd (PU R x y) B λz B=>K .er (l.set i (some (.d z))) H B,λh=>lH λx X b g=>lH λy o e j=>eY λz f k=>h _ _ _ _ (bE g (bE j (mE k rfl)))⟩
noncomputable def fx(m:BE):BS:=⟨GN m.run,λc l H B K=>m.T c l H B λv H B=>go (Gy v) λ_=>K .er l H B,λh=>m.ok λv X b d=>nS λ_ e=>h _ _ _ _ (bE d (mE e rfl))⟩
noncomputable def eu(t:BT)(a b:ab BS):BS:=⟨QC t.run (a.map BS.run) (b.map BS.run),λc l H B K=>t.T c l H B λz H B=>cb z (TQ a c l H B K) (TQ b c l H B K),λh=>t.ok λz X j d=>QV (Φ:=λb=>t.run _ _ _=some (b,X)) d (λd=>xI λf k i e g=>h _ _ _ _ (bE d g)) λd=>xI λf k i e g=>h _ _ _ _ (bE d g)⟩
noncomputable def iA(tg:Tg)(j:BI)(b:ab BS):BS:=⟨Oi tg j.run (b.map BS.run),λc l H B K=>j.T c l H B λZ H B=>ask Zw (hH tg (d5 (b.map BS.run)) c Z l H) B λr B=>K r.1 r.2.1 r.2.2 B,λh=>j.ok λZ X d f=>eY λr e g=>h _ _ _ _ (bE f g)⟩
noncomputable def dY(m:BE):BS:=⟨PR m.run,λc l H B K=>m.T c l H B λv H B=>K (.ret v) l H B,λh=>m.ok λv X b d=>h _ _ _ _ (mE d rfl)⟩
noncomputable def EM:BS:=⟨EF,λc l H B K=>K (.ret (.d .fS)) l H B,λh=>h _ _ _ _ rfl⟩
noncomputable def RJ:BS:=⟨Pk,λc l H B K=>K .cnt l H B,λh=>h _ _ _ _ rfl⟩
end
noncomputable def we:D:=(.tup [(.tup [(.int 1),(.str (aa "any"))]),(.tup [(.int 1),(.str (aa "unknown"))]),(.tup [(.int 1),(.str (aa "never"))]),(.tup [(.int 1),(.str (aa "void"))]),(.tup [(.int 1),(.str (aa "undefined"))]),(.tup [(.int 1),(.str (aa "null"))]),(.tup [(.int 1),(.str (aa "string"))]),(.tup [(.int 1),(.str (aa "number"))]),(.tup [(.int 2),(.int 0),(.int 0)]),(.tup [(.int 2),(.int 1),(.int 0)]),(.tup [(.int 1),(.str (aa "object"))]),(.tup [(.int 8),(.tup []),(.tup []),(.tup []),(.tup []),(.tup []),(.int 0)]),(.tup [(.int 6),(.tup [(.int 8),(.int 9)])]),(.tup [(.int 1),(.str (aa "error"))]),(.tup [(.int 2),(.int 0),(.int 1)]),(.tup [(.int 2),(.int 1),(.int 1)])])
noncomputable def tO:D:=(.tup [(.int 2),(.int 3),(.int 4),(.int 5),(.int 8)])
noncomputable def tS:D:=(.tup [(.int 8),(.int 9),(.int 11),(.int 12),(.int 13)])
noncomputable def mV:D:=(.eJ [(.int 3),(.int 4),(.int 5),(.int 6),(.int 7),(.int 10)] [(.int 6),(.int 5),(.int 4),(.int 1),(.int 2),(.int 7)])
noncomputable def vf:D:=(.tup [(.int 1),(.int 2),(.int 3),(.int 4),(.int 5)])
noncomputable def vZ:D:=(.tup [(.int 10),(.int 14),(.int 15),(.int 16),(.int 17),(.int 19)])
noncomputable def rW:D:=(.tup [(.str (aa "any")),(.str (aa "unknown")),(.str (aa "never")),(.str (aa "void")),(.str (aa "undefined")),(.str (aa "null")),(.str (aa "string")),(.str (aa "number")),(.str (aa "false")),(.str (aa "true")),(.str (aa "object"))])
noncomputable def ff:D:=(.tup [(.str (aa "\"a\"")),(.str (aa "0")),(.str (aa "undefined")),(.str (aa "\"b\"")),(.str (aa "null")),(.str (aa "1")),(.str (aa "string")),(.str (aa "true")),(.str (aa "number")),(.str (aa "false"))])
noncomputable def lg:D:=(.tup [(.str (aa "\"p\"")),(.str (aa "0")),(.str (aa "string")),(.str (aa "\"z\"")),(.str (aa "number")),(.str (aa "\"q\"")),(.str (aa "1"))])
noncomputable def rk:ab BS:=[eu (TE (dS .In (dM 1) (d' (dM 0) 13))) [dY (dQ (d' (dM 0) 13) (dM 1))] [],dX 2 (gP 200 [(d' (dM 0) 0)]),fx (ed dP (d' (dM 0) 0) 100 [(dM 1)]),o6 (d' (dM 0) 13) (dM 1) (dM 2),dY (dM 2)]
noncomputable def lU:ab BS:=[fx (ed dP (dM 0) 111 [(dM 1)])]
noncomputable def wK:ab BS:=[ic (dM 0) 0 (hV .sh []),ic (dM 0) 13 qF,ic (dM 0) 2 (hV .sh [(dN .fS)]),ic (dM 0) 3 (hV .sh []),ic (dM 0) 4 (hV .sh []),ic (dM 0) 5 (hV .sh []),ic (dM 0) 6 qF,ic (dM 0) 7 qF,ic (dM 0) 8 (dN (.int 0)),ic (dM 0) 9 (dN (.int 0)),iA (.one 1) (fK (dN we)) lU]
noncomputable def MH:ab BS:=[dX 4 (gP 200 [(d' (dM 0) 3)]),fx (ed dP (d' (dM 0) 3) 100 [(dM 2)]),fx (ed dP (d' (dM 0) 4) 100 [(dM 3)]),fx (ed dP (d' (dM 0) 5) 100 [(dM 1)]),dY (ed dP (dM 0) 111 [(d8 [(dN (.int 10)),(dM 4)])])]
noncomputable def AA:ab BS:=[ic (dM 0) 10 (dM 1),ic (dM 0) 16 (dN (.int 0)),ic (dM 0) 17 (dN (.int 200)),ic (dM 0) 18 (dN (.int 40))]
noncomputable def y5:ab BS:=[dY (kB (TE (dM 0)) (el .Mod (ed dP (dM 0) 102 [(dN (.int 0))]) (dM 1)) (dN (.int 0)))]
noncomputable def l9:ab BS:=[eu (TE (dS .In (dM 4) (dM 1))) [dY (fq [(dM 4)])] []]
noncomputable def lS:ab BS:=[eu (TE (dS .NotIn (dM 3) (dM 1))) [fx (ed dP (dM 1) 100 [(dM 3)])] []]
noncomputable def oY:ab BS:=[iA (.one 3) (fK (dM 2)) lS]
noncomputable def AF:ab BS:=[dX 1 (hV .own []),iA (.one 2) (fK (dM 0)) oY,iA (.one 4) (fK (d8 [(dN (.str (aa "any"))),(dN (.str (aa "unknown")))])) l9,dX 5 (dS .In (dN (.str (aa "string"))) (dM 1)),dX 6 (dS .In (dN (.str (aa "number"))) (dM 1)),dY (gP 201 [(gA (dM 7) (.one 7) 1 (fK (dM 1)) [(gi [(Di (gi [(TE (dM 5)),(TE (dS .Eq (dQ (dM 7) (dN (.int 0))) (dN (.str (aa "\"")))))])),(Di (gi [(TE (dM 6)),(TE (dS .In (dQ (dM 7) (dN (.int 0))) (dN (.str (aa "0123456789")))))]))])])])]
noncomputable def zc:ab BS:=[eu (TE (dS .Eq (dM 1) (dN (.int 2)))) [dY (d8 [])] [],dX 2 (dQ (d' (dM 0) 0) (dM 1)),eu (TE (dS .Eq (dQ (dM 2) (dN (.int 0))) (dN (.int 6)))) [dY (dQ (dM 2) (dN (.int 1)))] [],dY (d8 [(dM 1)])]
noncomputable def vq:ab BS:=[eu (gi [(i6 [(TE (dS .In (dN (.int 8)) (dM 0))),(TE (dS .In (dN (.int 14)) (dM 0)))]),(i6 [(TE (dS .In (dN (.int 9)) (dM 0))),(TE (dS .In (dN (.int 15)) (dM 0)))])]) [o6 (dM 0) (dN (.int 8)) (dN (.int 1)),o6 (dM 0) (dN (.int 9)) (dN (.int 1))] []]
noncomputable def sj:ab BS:=[dX 1 (dQ (dM 0) (dN (.int 0))),eu (i6 [(TE (dS .Eq (dM 1) (dN (.int 3)))),(TE (dS .Eq (dM 1) (dN (.int 18))))]) [dY (dN (.int 6))] [],eu (TE (dS .Eq (dM 1) (dN (.int 4)))) [dY (dN (.int 7))] [],eu (TE (dS .Eq (dM 1) (dN (.int 5)))) [dY (kB (TE mU) (dN (.int 6)) (dN (.int 7)))] [],dY (lY 1)]
noncomputable def sT:ab BS:=[dX 2 (dQ (d' (dM 0) 0) (dM 1)),eu (gi [(TE (dS .In (dQ (dM 2) (dN (.int 0))) (dN tO))),(TE (dS .Eq (dQ (dM 2) (lY 1)) (dN (.int 1))))]) [dY (ed dP (d' (dM 0) 13) 103 [(el .Add mU (d8 [(dN (.int 0))])),(lY 1)])] [],dY (lY 1)]
noncomputable def s9:ab BS:=[eu (TE (dS .In (dO 263 [(dM 0),(dM 2)]) (dM 1))) [dY (dN (.bool false))] [],dY (dS .NotIn (dO 256 [(dQ (d' (dM 0) 0) (dM 2))]) (dM 1))]
noncomputable def sa:ab BS:=[eu (TE (dS .In (dM 1) (dM 0))) [dY (dM 1)] []]
noncomputable def HB:ab BS:=[iA (.one 1) (fK (d8 [(dN (.int 0)),(dN (.int 13)),(dN (.int 1))])) sa,dY (lY 1)]
noncomputable def uO:ab BS:=[o6 (dM 2) (dM 4) (dN (.int 1))]
noncomputable def uV:ab BS:=[iA (.one 4) (fK (dO 249 [(dM 0),(dM 3)])) uO]
noncomputable def oO:ab BS:=[dX 2 qF,iA (.one 3) (fK (dM 1)) uV,dX 5 (dO 284 [(dM 2)]),eu (TE (dS .GtE (dM 5) (dN (.int 0)))) [dY (dM 5)] [],fx (dO 270 [(dM 2)]),dX 6 (gA (dM 7) (.one 7) 1 (fK (gP 201 [(dM 2)])) [(TE (dO 277 [(dM 0),(dM 2),(dM 7)]))]),eu (Di (TE (dM 6))) [dY (dN (.int 2))] [],eu (TE (dS .Eq (gP 200 [(dM 6)]) (dN (.int 1)))) [dY (dQ (dM 6) (dN (.int 0)))] [],eu (TE (dS .Gt (gP 200 [(dM 6)]) (dN (.int 400)))) [wu] [],dY (ed dP (dM 0) 111 [(d8 [(dN (.int 6)),(gP 207 [(dM 6)])])])]
noncomputable def yj:ab BS:=[dX 1 (hV .own [(fq [(dQ (dN ff) (el .Mod (dM 0) (dN (.int 10))))]),(fq [(dQ (dN ff) (el .Mod (el .FloorDiv (dM 0) (dN (.int 10))) (dN (.int 10))))])]),eu (TE (dS .Eq (el .Mod (el .FloorDiv (dM 0) (dN (.int 100))) (dN (.int 3))) (dN (.int 2)))) [fx (ed dP (dM 1) 100 [(fq [(dQ (dN ff) (el .Mod (el .FloorDiv (dM 0) (dN (.int 300))) (dN (.int 10))))])])] [],dY (dO 943 [(dM 1)])]
noncomputable def An:ab BS:=[dY (ed dP (dM 0) 111 [(d8 [(dN (.int 3)),(dM 1),(dM 2)])])]
noncomputable def zv:ab BS:=[dY (ed dP (dM 0) 111 [(d8 [(dN (.int 4)),(dM 1),(dM 2)])])]
noncomputable def zN:ab BS:=[eu (TE (dS .In (dM 1) (dN rW))) [dY (ed dP (dN rW) 105 [(dM 1)])] [],eu (TE (dS .Eq (dQ (dM 1) (dN (.int 0))) (dN (.str (aa "\""))))) [dY (dO 158 [(dM 0),(VQ (dM 1))])] [],dY (dO 166 [(dM 0),(gP 205 [(dM 1)])])]
noncomputable def zI:ab BS:=[dY (dO 289 [(dM 0),(gA (dO 971 [(dM 0),(dM 2)]) (.one 2) 1 (fK (dM 1)) [])])]
noncomputable def lG:ab BS:=[o6 (dM 1) (dQ (dM 2) (dN (.int 0))) (dM 2)]
noncomputable def sE:ab BS:=[dX 1 qF,iA (.one 2) (fK (dM 0)) lG,dY (gP 207 [(gA (dQ (dM 1) (dM 3)) (.one 3) 1 (fK (gP 201 [(dM 1)])) [])])]
noncomputable def za:ab BS:=[dY (ed dP (dM 0) 111 [(d8 [(dN (.int 8)),(dO 206 [(dM 1)]),(gP 207 [(dM 2)]),(gP 207 [(dM 3)]),(dM 4),(dM 5),(dM 6)])])]
noncomputable def zR:ab BS:=[eu (TE (dS .Gt (el .Mod (dM 0) (dN (.int 40))) (dN (.int 36)))) [dY (dQ (fq [(fq [(dN (.str (aa "any")))]),(fq [(dN (.str (aa "unknown")))]),(fq [])]) (el .Sub (el .Mod (dM 0) (dN (.int 40))) (dN (.int 37))))] [],dY (dO 957 [(dM 0)])]
noncomputable def iV:ab BS:=[dX 12 (kB (TE (dS .Eq (dM 8) (dN (.int 1)))) (dO 943 [(fq [(dM 7),(fq [(dN (.str (aa "undefined")))])])]) (dM 7)),fx (ed dP (dM 3) 100 [(d8 [(el .Add (el .Add (dN (.str (aa "\""))) (dM 5)) (dN (.str (aa "\"")))),(dM 12),(dM 8),(kB (TE (dS .Eq (dM 9) (dN (.int 1)))) (el .Add (dM 10) (dN (.int 2))) (dM 10))])])]
noncomputable def fI:ab BS:=[dX 6 (dO 938 [(dM 1),(dN (.int 96))]),dX 7 (dO 964 [(el .Add (dO 938 [(dM 1),(dN (.int 3000))]) (dM 4))]),WR 4 .Add (dN (.int 1)),eu (TE (dS .Eq (el .Mod (dM 6) (dN (.int 4))) (dN (.int 3)))) [RJ] [],dX 8 (el .Mod (el .FloorDiv (dM 6) (dN (.int 4))) (dN (.int 2))),dX 9 (el .FloorDiv (dM 6) (dN (.int 16))),dX 10 (kB (TE (dS .Eq (dM 9) (dN (.int 2)))) (dN (.int 1)) (el .Mod (el .FloorDiv (dM 6) (dN (.int 8))) (dN (.int 2)))),dX 11 (el .Add (el .Add (dQ (d8 [(dN (.int 0)),(dN (.int 4)),(dN (.int 32)),(dN (.int 0)),(dN (.int 8)),(dN (.int 16))]) (dM 9)) (el .Mult (dM 8) (dN (.int 1)))) (el .Mult (dM 10) (dN (.int 2)))),fx (ed dP (dM 2) 100 [(d8 [(dM 5),(dO 976 [(dM 0),(dM 7)]),(dM 11),(kB (TE (dS .Gt (dM 9) (dN (.int 3)))) (dN (.int 1)) (dN (.int 0)))])]),eu (TE (dS .Lt (dM 9) (dN (.int 4)))) iV []]
noncomputable def iQ:ab BS:=[dX 2 (hV .own []),dX 3 (hV .own []),dX 4 (dN (.int 0)),iA (.one 5) (fK (d8 [(dN (.str (aa "0"))),(dN (.str (aa "p"))),(dN (.str (aa "q")))])) fI,dX 6 (dO 938 [(dM 1),(dN (.int 8))]),dX 13 (d8 []),dX 14 (d8 []),eu (TE (dS .Eq (el .Mod (dM 6) (dN (.int 2))) (dN (.int 1)))) [dX 7 (dO 964 [(dO 938 [(dM 1),(dN (.int 3000))])]),dX 13 (d8 [(dO 976 [(dM 0),(dM 7)]),(el .FloorDiv (dM 6) (dN (.int 4)))]),fx (ed dP (dM 3) 100 [(d8 [(dN (.str (aa "string"))),(dM 7),(dN (.int 2)),(el .FloorDiv (dM 6) (dN (.int 4)))])])] [],eu (TE (dS .Gt (el .Mod (dM 6) (dN (.int 4))) (dN (.int 1)))) [dX 7 (dO 964 [(dO 938 [(dM 1),(dN (.int 3000))])]),dX 14 (d8 [(dO 976 [(dM 0),(dM 7)]),(el .Sub (dN (.int 1)) (el .FloorDiv (dM 6) (dN (.int 4))))]),fx (ed dP (dM 3) 100 [(d8 [(dN (.str (aa "number"))),(dM 7),(dN (.int 2)),(el .Sub (dN (.int 1)) (el .FloorDiv (dM 6) (dN (.int 4))))])])] [],dY (d8 [(dO 218 [(dM 0),(dM 2),(d8 []),(d8 []),(dM 13),(dM 14)]),(d8 [(dN (.str (aa "{"))),(dM 3),(dN (.int 0))])])]
noncomputable def u5:ab BS:=[dY (ed dP (dM 0) 111 [(d8 [(dN (.int 11)),(dM 1),(dM 2)])])]
noncomputable def nM:ab BS:=[eu (TE (dS .In (dQ (dQ (dM 0) (dM 3)) (dN (.int 1))) (dM 1))) [dX 2 (dM 3)] []]
noncomputable def wW:ab BS:=[dX 2 (lY 1),iA (.one 3) (lb (gP 200 [(dM 0)])) nM,dY (dM 2)]
noncomputable def iG:ab BS:=[oB [5,6] (dQ (dM 1) (dM 4)),eu (gi [(TE (dS .Eq (dM 6) (dN (.int 1)))),(TE (dS .Lt (dM 4) (dM 2)))]) [fx (ed dP (dM 3) 100 [(d8 [(dO 301 [(dM 0),(dM 5)]),(dN (.int 0))])])] [fx (ed dP (dM 3) 100 [(d8 [(dM 5),(dM 6)])])]]
noncomputable def qi:ab BS:=[dX 2 (dO 181 [(dM 1),(d8 [(dN (.int 0))])]),dX 3 (hV .own []),iA (.one 4) (lb (gP 200 [(dM 1)])) iG,dY (dM 3)]
noncomputable def vg:ab BS:=[fx (ed dP (dM 5) 100 [(kB (TE (dS .Eq (dM 7) (dN (.int 1)))) (dO 301 [(dM 0),(dM 6)]) (dM 6))])]
noncomputable def ov:ab BS:=[eu (gi [(TE (dS .Lt (dM 3) (dN (.int 0)))),(TE (dS .Eq (dQ (dQ (dM 1) (dM 4)) (dN (.int 1))) (dN (.int 2))))]) [dX 3 (dM 4)] []]
noncomputable def Aj:ab BS:=[dX 3 (lY 1),iA (.one 4) (lb (gP 200 [(dM 1)])) ov,eu (i6 [(TE (dS .Lt (dM 3) (dN (.int 0)))),(TE (dS .LtE (dM 2) (dM 3)))]) [dY (dM 1)] [],dX 5 (hV .own []),iA (.many [6,7]) (fK mU) vg,dY (el .Add (el .Add mU (fq [(d8 [(dO 289 [(dM 0),(dM 5)]),(dN (.int 2))])])) mU)]
noncomputable def iU:ab BS:=[dX 3 (gA (d8 [(dM 5),(dM 6)]) (.many [5,6]) 2 (fK (dM 1)) []),eu (TE (dS .Lt (dO 181 [(dM 3),(d8 [(dN (.int 3))])]) (dN (.int 0)))) [dX 4 (dO 181 [(dM 3),(d8 [(dN (.int 2)),(dN (.int 1))])]),dX 3 (dO 195 [(dM 0),(dO 188 [(dM 0),(dM 3)]),(dM 4)]),eu (gi [(TE (dS .Eq (gP 200 [(dM 3)]) (dN (.int 1)))),(TE (dS .Eq (dQ (dQ (dM 3) (dN (.int 0))) (dN (.int 1))) (dN (.int 2))))]) [dY (dO 174 [(dM 0),(dQ (dQ (dM 3) (dN (.int 0))) (dN (.int 0))),(dM 2)])] []] [],dY (ed dP (dM 0) 111 [(d8 [(dN (.int 12)),(gP 207 [(dM 3)]),(dM 2)])])]
noncomputable def ij:ab BS:=[dX 8 (dO 938 [(dM 1),(dN (.int 3))]),dX 9 (dO 964 [(el .Add (dO 938 [(dM 1),(dN (.int 3000))]) (dM 7))]),eu (TE (dS .Eq (dM 6) (dN (.int 2)))) [RJ] [],dX 6 (gP 206 [(dM 6),(dM 8)]),fx (ed dP (dM 4) 100 [(d8 [(dO 976 [(dM 0),(dM 9)]),(dM 6)])]),dX 10 (kB (TE (dS .Eq (dM 6) (dN (.int 1)))) (dO 943 [(fq [(dM 9),(fq [(dN (.str (aa "undefined")))])])]) (dM 9)),fx (ed dP (dM 5) 100 [(d8 [(kB (i6 [(TE (dS .Gt (dM 7) (dN (.int 0)))),(TE (dS .Lt (dM 6) (dN (.int 2))))]) (el .Add (el .Add (dN (.str (aa "\""))) (gP 204 [(dM 7)])) (dN (.str (aa "\"")))) (dN (.str (aa "number")))),(dM 10),(dM 6),(dN (.int 0))])])]
noncomputable def yM:ab BS:=[dX 2 (dO 938 [(dM 1),(dN (.int 2))]),dX 3 (dO 938 [(dM 1),(dN (.int 4))]),dX 4 (hV .own []),dX 5 (hV .own []),dX 6 (dN (.int 0)),iA (.one 7) (lb (dM 3)) ij,dY (d8 [(dO 201 [(dM 0),(dM 4),(dM 2)]),(d8 [(dN (.str (aa "["))),(dM 5),(dM 2)])])]
noncomputable def mM:ab BS:=[dX 6 (dO 957 [(dO 938 [(dM 1),(dN (.int 3000))])]),fx (ed dP (dM 5) 100 [(dO 976 [(dM 0),(dM 6)])]),fx (ed dP (dM 4) 101 [(gA (d8 [(dM 10),(fq []),(dN (.int 0))]) (.one 10) 1 (fK (dM 6)) [])])]
noncomputable def qO(f:Nat):ab BS:=[oB [7,8] (dO f [(dM 0),(dM 1)]),fx (ed dP (dM 5) 100 [(dM 7)]),fx (ed dP (dM 4) 100 [(dM 8)])]
noncomputable def fH:ab BS:=[dX 2 (dO 938 [(dM 1),(dN (.int 8))]),eu (TE (dS .Eq (dM 2) (dN (.int 6)))) [dX 3 (dO 938 [(dM 1),(dN (.int 5))]),eu (TE (dS .Gt (dM 3) (dN (.int 0)))) [dX 4 (dQ (fq [(fq []),(fq [(d8 [(dN (.str (aa "{"))),(fq []),(dN (.int 0))])]),(fq [(d8 [(dN (.str (aa "{"))),(fq [(d8 [(dN (.str (aa "string"))),(fq [(dN (.str (aa "any")))]),(dN (.int 2)),(dN (.int 0))])]),(dN (.int 0))])]),(fq [(d8 [(dN (.str (aa "{"))),(fq []),(dN (.int 0))])])]) (el .Sub (dM 3) (dN (.int 1)))),dY (d8 [(dO 971 [(dM 0),(dQ (d8 [(dN (.str (aa "never"))),(dN (.str (aa "unknown"))),(dN (.str (aa "any"))),(dN (.str (aa "object")))]) (el .Sub (dM 3) (dN (.int 1))))]),(dM 4)])] []] [],dX 5 (hV .own []),dX 4 (hV .own []),eu (i6 [(TE (dS .Eq (dM 2) (dN (.int 6)))),(TE (dS .Eq (dM 2) (dN (.int 4))))]) mM [],eu (i6 [(TE (dS .Eq (dM 2) (dN (.int 3)))),(TE (dS .Eq (dM 2) (dN (.int 5))))]) (qO 990) [],iA (.one 9) (lb (dQ (d8 [(dN (.int 1)),(dN (.int 1)),(dN (.int 1)),(dN (.int 0)),(dN (.int 1)),(dN (.int 1)),(dN (.int 0)),(dN (.int 2))]) (dM 2))) (qO 983),dY (d8 [(dO 289 [(dM 0),(dM 5)]),(dM 4)])]
noncomputable def yE:ab BS:=[dY (kB (TE (dM 0)) (ed dP (dN (.str (aa "|"))) 104 [(dM 0)]) (dN (.str (aa "never"))))]
noncomputable def Az:ab BS:=[oB [1,2,3] (dM 0),eu (TE (dS .Eq (dM 1) (dN (.str (aa "["))))) [dX 4 (gA (el .Add (el .Add (dQ (d8 [(dN (.str (aa ""))),(dN (.str (aa ""))),(dN (.str (aa "...")))]) (dM 7)) (dO 950 [(dM 6)])) (dQ (d8 [(dN (.str (aa ""))),(dN (.str (aa "?"))),(dN (.str (aa "")))]) (dM 7))) (.many [5,6,7,8]) 4 (fK (dM 2)) []),dY (el .Add (el .Add (el .Add (dQ (d8 [(dN (.str (aa ""))),(dN (.str (aa "readonly ")))]) (dM 3)) (dN (.str (aa "[")))) (ed dP (dN (.str (aa ","))) 104 [(dM 4)])) (dN (.str (aa "]"))))] [],eu (TE (dS .Eq (dM 1) (dN (.str (aa "{"))))) [dX 4 (gA (el .Add (el .Add (el .Add (el .Add (dQ (d8 [(dN (.str (aa ""))),(dN (.str (aa "readonly "))),(dN (.str (aa "method "))),(dN (.str (aa "readonly method ")))]) (dM 8)) (dM 5)) (dQ (d8 [(dN (.str (aa ""))),(dN (.str (aa "?"))),(dN (.str (aa "")))]) (dM 7))) (dN (.str (aa ":")))) (dO 950 [(dM 6)])) (.many [5,6,7,8]) 4 (fK (dM 2)) []),dY (el .Add (el .Add (dN (.str (aa "{"))) (ed dP (dN (.str (aa ";"))) 104 [(dM 4)])) (dN (.str (aa "}"))))] [],dY (dM 1)]
noncomputable def y9:ab BS:=[dX 3 (dO 1031 [(dM 0),(dM 1)]),dY (kB (TE (dS .Eq (dM 2) (dN (.int 1)))) (dO 943 [(fq [(dM 3),(fq [(dN (.str (aa "undefined")))])])]) (dM 3))]
noncomputable def mP:ab BS:=[eu (i6 [(TE (dS .Gt (el .FloorDiv (dQ (dM 3) (dN (.int 2))) (dN (.int 8))) (dN (.int 0)))),(TE (dS .NotEq (dQ (dM 3) (dN (.int 3))) (dN (.int 0))))]) [dY (dN (.str (aa "?")))] [],fx (ed dP (dM 2) 100 [(d8 [(el .Add (el .Add (dN (.str (aa "\""))) (dQ (dM 3) (dN (.int 0)))) (dN (.str (aa "\"")))),(dO 1019 [(dM 0),(dQ (dM 3) (dN (.int 1))),(el .Mod (dQ (dM 3) (dN (.int 2))) (dN (.int 2)))]),(el .Mod (dQ (dM 3) (dN (.int 2))) (dN (.int 2))),(el .FloorDiv (dQ (dM 3) (dN (.int 2))) (dN (.int 2)))])])]
noncomputable def lA:ab BS:=[eu (TE (dS .Eq (dQ (dM 1) (dN (.int 0))) (dN (.int 1)))) [dY (dQ (dM 1) (dN (.int 1)))] [],eu (gi [(TE (dS .Eq (dQ (dM 1) (dN (.int 0))) (dN (.int 2)))),(TE (dS .Eq (dQ (dM 1) (dN (.int 2))) (dN (.int 0))))]) [dY (dQ (d8 [(dN (.str (aa "false"))),(dN (.str (aa "true")))]) (dQ (dM 1) (dN (.int 1))))] [],eu (gi [(TE (dS .Eq (dQ (dM 1) (dN (.int 0))) (dN (.int 3)))),(TE (dS .Eq (dQ (dM 1) (dN (.int 2))) (dN (.int 0))))]) [dY (el .Add (el .Add (dN (.str (aa "\""))) (dQ (dM 1) (dN (.int 1)))) (dN (.str (aa "\""))))] [],eu (gi [(TE (dS .Eq (dQ (dM 1) (dN (.int 0))) (dN (.int 4)))),(TE (dS .Eq (dQ (dM 1) (dN (.int 2))) (dN (.int 0))))]) [dY (gP 204 [(dQ (dM 1) (dN (.int 1)))])] [],eu (TE (dS .Eq (dQ (dM 1) (dN (.int 0))) (dN (.int 11)))) [dY (dO 1012 [(d8 [(dN (.str (aa "["))),(fq [(d8 [(dN (.str (aa ""))),(dO 1031 [(dM 0),(dQ (dM 1) (dN (.int 1)))]),(dN (.int 2)),(dN (.int 0))])]),(dQ (dM 1) (dN (.int 2)))])])] [],eu (TE (dS .Eq (dQ (dM 1) (dN (.int 0))) (dN (.int 12)))) [dY (dO 1012 [(d8 [(dN (.str (aa "["))),(gA (d8 [(dN (.str (aa ""))),(dO 1019 [(dM 0),(dQ (dM 4) (dN (.int 0))),(dQ (dM 4) (dN (.int 1)))]),(dQ (dM 4) (dN (.int 1))),(dN (.int 0))]) (.one 4) 1 (fK (dQ (dM 1) (dN (.int 1)))) []),(dQ (dM 1) (dN (.int 2)))])])] [],eu (i6 [(TE (dS .NotEq (dQ (dM 1) (dN (.int 0))) (dN (.int 8)))),(TE (dS .NotEq (dQ (dM 1) (dN (.int 2))) (d8 []))),(TE (dS .NotEq (dQ (dM 1) (dN (.int 3))) (d8 []))),(TE (dS .NotEq (dQ (dM 1) (dN (.int 6))) (dN (.int 0))))]) [dY (dN (.str (aa "?")))] [],dX 2 (hV .own []),iA (.one 3) (fK (dQ (dM 1) (dN (.int 1)))) mP,eu (TE (dS .NotEq (dQ (dM 1) (dN (.int 5))) (d8 []))) [fx (ed dP (dM 2) 100 [(d8 [(dN (.str (aa "number"))),(dO 1031 [(dM 0),(dQ (dQ (dM 1) (dN (.int 5))) (dN (.int 0)))]),(dN (.int 2)),(dQ (dQ (dM 1) (dN (.int 5))) (dN (.int 1)))])])] [],eu (TE (dS .NotEq (dQ (dM 1) (dN (.int 4))) (d8 []))) [fx (ed dP (dM 2) 100 [(d8 [(dN (.str (aa "string"))),(dO 1031 [(dM 0),(dQ (dQ (dM 1) (dN (.int 4))) (dN (.int 0)))]),(dN (.int 2)),(dQ (dQ (dM 1) (dN (.int 4))) (dN (.int 1)))])])] [],dY (dO 1012 [(d8 [(dN (.str (aa "{"))),(dM 2),(dN (.int 0))])])]
noncomputable def j3:ab BS:=[dX 6 (dO 1024 [(dM 0),(dQ (d' (dM 0) 0) (dM 5))]),eu (gi [(TE (dS .NotEq (dM 6) (dN (.str (aa "never"))))),(TE (dS .NotIn (dM 6) (dM 4)))]) [fx (ed dP (dM 4) 100 [(dM 6)])] []]
noncomputable def nW:ab BS:=[dX 2 (dQ (d' (dM 0) 0) (dM 1)),dX 3 (kB (TE (dS .Eq (dQ (dM 2) (dN (.int 0))) (dN (.int 6)))) (dQ (dM 2) (dN (.int 1))) (d8 [(dM 1)])),dX 4 (hV .own []),iA (.one 5) (fK (dM 3)) j3,dY (gP 201 [(dM 4)])]
noncomputable def v9:ab BS:=[dY (dM 1)]
noncomputable def FW:ab BS:=[dX 2 (dQ (d' (dM 0) 0) (dQ (dM 1) (dN (.int 2)))),eu (i6 [(TE (dS .NotEq (dQ (dM 2) (dN (.int 0))) (dN (.int 7)))),(TE (dS .NotEq (dQ (dQ (d' (dM 0) 0) (dQ (dQ (dM 2) (dN (.int 1))) (dN (.int 0)))) (dN (.int 0))) (dN (.int 14))))]) [dY (d8 [])] [],dY (d8 [(dQ (dQ (d' (dM 0) 0) (dQ (dQ (dM 2) (dN (.int 1))) (dN (.int 0)))) (dN (.int 1))),(dQ (dQ (dM 2) (dN (.int 1))) (dN (.int 1)))])]
noncomputable def p6:ab BS:=[dX 2 (dQ (d' (d' (dM 0) 10) 0) (dQ (dM 1) (dN (.int 2)))),eu (TE (dS .Eq (dQ (dM 2) (dN (.int 0))) (dN (.int 14)))) [dY (dQ (dM 2) (dN (.int 1)))] [],dY (lY 1)]
noncomputable def Dy:ab BS:=[dY (dQ (dQ (d' (dM 0) 0) (dM 1)) (dN (.int 0)))]
noncomputable def xR:ab BS:=[eu (TE (dO 558 [(dM 0),(dM 5)])) [dY (dN (.bool true))] []]
noncomputable def qG:ab BS:=[eu (TE (dS .Eq (dQ (dM 4) (dN (.int 1))) (dN (.int 3)))) [dY (dN (.bool true))] []]
noncomputable def qK:ab BS:=[eu (TE (dO 558 [(dM 0),(dM 3)])) [dY (dN (.bool true))] []]
noncomputable def DB:ab BS:=[dX 2 (dQ (d' (dM 0) 0) (dM 1)),eu (TE (dS .In (dQ (dM 2) (dN (.int 0))) (dN vZ))) [dY (dN (.bool true))] [],eu (i6 [(TE (dS .Eq (dQ (dM 2) (dN (.int 0))) (dN (.int 6)))),(TE (dS .Eq (dQ (dM 2) (dN (.int 0))) (dN (.int 7))))]) [iA (.one 3) (fK (dQ (dM 2) (dN (.int 1)))) qK] [],eu (TE (dS .Eq (dQ (dM 2) (dN (.int 0))) (dN (.int 12)))) [iA (.one 4) (fK (dQ (dM 2) (dN (.int 1)))) qG] [],eu (TE (dS .Eq (dQ (dM 2) (dN (.int 0))) (dN (.int 18)))) [iA (.one 5) (fK (dQ (dM 2) (dN (.int 2)))) xR] [],dY (dN (.bool false))]
noncomputable def tU:ab BS:=[dX 4 (d' (dM 0) 10),dX 5 (dQ (d' (dM 4) 0) (dQ (dM 1) (dN (.int 4)))),eu (TE (dS .NotEq (dQ (dM 5) (dN (.int 0))) (dN (.int 15)))) [dY (dN (.bool false))] [],eu (TE (dS .NotEq (dQ (d' (dM 4) 0) (dQ (dM 5) (dN (.int 2)))) (d8 [(dN (.int 10)),(dQ (dM 1) (dN (.int 1)))]))) [dY (dN (.bool false))] [],dX 6 (ed dP (dM 0) 115 [(dQ (dM 5) (dN (.int 1)))]),dY (TR [(dS .Eq (dM 6) (dM 2)),(dS .Eq (dM 6) (dM 3))])]
noncomputable def mj:ab BS:=[ic (dM 0) 0 qF,ic (dM 0) 5 (hV .sh []),ic (dM 0) 14 (d8 []),ic (dM 0) 15 (d8 [])]
noncomputable def w6:ab BS:=[dX 2 (gA (d8 [(dM 3),(dQ (dQ (d' (dM 0) 0) (dM 3)) (dN (.int 0))),(dQ (dQ (d' (dM 0) 0) (dM 3)) (dN (.int 1))),(dN (.int 0))]) (.one 3) 1 (fK (d' (dM 0) 5)) []),dY (dO 218 [(dM 1),(dM 2),(d8 []),(d8 []),(d' (dM 0) 14),(d' (dM 0) 15),(dN (.int 0))])]
noncomputable def zt:ab BS:=[dY (gP 207 [(gA (dO 902 [(dM 0),(dM 3),(dM 2)]) (.one 3) 1 (fK (dM 1)) [])])]
noncomputable def lR:ab BS:=[eu (TE (dS .Eq (dQ (dM 3) (dN (.int 1))) (dN (.int 3)))) [dY (ed dP (dM 0) 116 [(d8 [(dN (.int 12)),(dM 4),(dQ (dM 1) (dN (.int 2)))])])] []]
noncomputable def mR:ab BS:=[dX 4 (gP 207 [(gA (d8 [(dO 902 [(dM 0),(dQ (dM 5) (dN (.int 0))),(dM 2)]),(dQ (dM 5) (dN (.int 1)))]) (.one 5) 1 (fK (dQ (dM 1) (dN (.int 1)))) [])]),iA (.one 3) (fK (dM 4)) lR,dY (dO 201 [(d' (dM 0) 10),(dM 4),(dQ (dM 1) (dN (.int 2)))])]
noncomputable def zJ:ab BS:=[eu (TE (dS .Eq (dQ (dM 2) (dN (.int 0))) (dN (.int 15)))) [dY (ed dP (dM 0) 116 [(el .Add (d8 [(dN (.int 15))]) (dO 859 [(dM 0),mU,(dM 3)]))])] [],eu (TE (dS .Eq (dQ (dM 2) (dN (.int 0))) (dN (.int 14)))) [dY (ed dP (dM 0) 116 [(d8 [(dN (.int 14)),(dO 902 [(dM 0),(dQ (dM 2) (dN (.int 1))),(dM 3)])])])] [],eu (TE (dS .Eq (dQ (dM 2) (dN (.int 0))) (dN (.int 18)))) [dY (ed dP (dM 0) 116 [(d8 [(dN (.int 18)),(dQ (dM 2) (dN (.int 1))),(dO 859 [(dM 0),(dQ (dM 2) (dN (.int 2))),(dM 3)])])])] [],eu (TE (dS .Eq (dQ (dM 2) (dN (.int 0))) (dN (.int 9)))) [dY (ed dP (d' (dM 0) 10) 111 [(d8 [(dN (.int 9)),(dQ (dM 2) (dN (.int 1))),(dO 859 [(dM 0),(dQ (dM 2) (dN (.int 2))),(dM 3)])])])] [],eu (TE (dS .Eq (dQ (dM 2) (dN (.int 0))) (dN (.int 19)))) [dY (ed dP (dM 0) 116 [(d8 [(dN (.int 19)),(dQ (dM 2) (dN (.int 1))),(dO 859 [(dM 0),(dQ (dM 2) (dN (.int 2))),(dM 3)])])])] [],eu (TE (dS .Eq (dQ (dM 2) (dN (.int 0))) (dN (.int 16)))) [dX 4 (dO 888 [(dM 3),(dQ (dM 2) (dN (.int 5)))]),dY (kB (TE (dS .Gt (gP 200 [(dM 4)]) (dN (.int 0)))) (ed dP (dM 0) 117 [(dM 2),(dM 4)]) (dM 1))] [],dY (dM 1)]
noncomputable def hY:ab BS:=[eu (i6 [(TE (dS .Lt (dM 1) (dN (.int 0)))),(TE (dS .Eq (gP 200 [(dM 2)]) (dN (.int 0))))]) [dY (dM 1)] [],dX 3 (dQ (d' (d' (dM 0) 10) 0) (dM 1)),eu (TE (dS .Eq (dQ (dM 3) (dN (.int 0))) (dN (.int 10)))) [dY (ed dP (dM 2) 103 [(dQ (dM 3) (dN (.int 1))),(dM 1)])] [],eu (TE (dS .Eq (dQ (dM 3) (dN (.int 0))) (dN (.int 6)))) [dY (dO 289 [(d' (dM 0) 10),(dO 859 [(dM 0),(dQ (dM 3) (dN (.int 1))),(dM 2)])])] [],eu (TE (dS .Eq (dQ (dM 3) (dN (.int 0))) (dN (.int 11)))) [dY (dO 174 [(d' (dM 0) 10),(dO 902 [(dM 0),(dQ (dM 3) (dN (.int 1))),(dM 2)]),(dQ (dM 3) (dN (.int 2)))])] [],eu (TE (dS .Eq (dQ (dM 3) (dN (.int 0))) (dN (.int 12)))) [dY (dO 876 [(dM 0),(dM 3),(dM 2)])] [],eu (TE (dS .Eq (dQ (dM 3) (dN (.int 0))) (dN (.int 8)))) [dY (dO 871 [(dM 0),(dM 3),(dM 2)])] [],eu (TE (dS .Eq (dQ (dM 3) (dN (.int 0))) (dN (.int 13)))) [dY (dO 881 [(dM 0),(dM 1),(dM 3),(dM 2)])] [],dY (dO 895 [(dM 0),(dM 1),(dM 3),(dM 2)])]
noncomputable def p9:ab BS:=[dY (dO 902 [(dM 0),(dM 1),(dM 2)])]
noncomputable def xy:ab BS:=[eu (TE (dS .Eq (dQ (dM 1) (dN (.int 3))) (lY 1))) [dY (d8 [(dM 2)])] [],dX 3 (ed dP (dM 0) 115 [(ed dP (dM 0) 119 [(dQ (dM 1) (dN (.int 3))),(Hc (dQ (dM 1) (dN (.int 1))) (dM 2))])]),eu (TE (dO 558 [(d' (dM 0) 10),(dM 3)])) [dY (dN .fS)] [],dY (dO 249 [(d' (dM 0) 10),(dM 3)])]
noncomputable def wH:ab BS:=[dX 2 (dQ (d' (dM 0) 0) (dM 1)),eu (TE (dS .Eq (dQ (dM 2) (dN (.int 0))) (dN (.int 3)))) [dY (dQ (dM 2) (dN (.int 1)))] [],eu (TE (dS .Eq (dQ (dM 2) (dN (.int 0))) (dN (.int 4)))) [dY (gP 204 [(dQ (dM 2) (dN (.int 1)))])] [],eu (TE (dS .Eq (dQ (dM 2) (dN (.int 0))) (dN (.int 5)))) [dY (gP 204 [(dQ (dM 2) (dN (.int 3)))])] [],eu (TE (dS .Eq (dQ (dM 2) (dN (.int 0))) (dN (.int 2)))) [dY (kB (TE (dS .Eq (dQ (dM 2) (dN (.int 1))) (dN (.int 1)))) (dN (.str (aa "true"))) (dN (.str (aa "false"))))] [],eu (TE (dS .Eq (dM 1) (dN (.int 5)))) [dY (dN (.str (aa "null")))] [],eu (TE (dS .Eq (dM 1) (dN (.int 4)))) [dY (dN (.str (aa "undefined")))] [],dY (dN .fS)]
noncomputable def yF:ab BS:=[eu (TE (dS .In (dQ (dQ (d' (dM 0) 0) (dM 1)) (dN (.int 0))) (d8 [(dN (.int 3)),(dN (.int 4)),(dN (.int 5))]))) [dY (dO 565 [(dM 0),(dM 1)])] [],dY (dN .fS)]
noncomputable def Au:ab BS:=[eu (TE (dS .NotIn (dM 2) (d' (dM 0) 0))) [fx (ed dP (d' (dM 0) 5) 100 [(dM 2)]),o6 (d' (dM 0) 0) (dM 2) (d8 [(dM 3),(dM 4)]),EM] [],dX 5 (dQ (d' (dM 0) 0) (dM 2)),dX 6 (hV .own [(dQ (dM 5) (dN (.int 0))),(dM 3)]),eu (gi [(TE (dS .NotEq (el .BitAnd (dM 4) (dN (.int 1))) (dN (.int 0)))),(TE (dS .Eq (el .BitAnd (dQ (dM 5) (dN (.int 1))) (dN (.int 1))) (dN (.int 0))))]) [fx (ed dP (dM 6) 100 [(dN (.int 4))])] [],o6 (d' (dM 0) 0) (dM 2) (d8 [(dO 289 [(dM 1),(dM 6)]),(dQ (dM 5) (dN (.int 1)))])]
noncomputable def qh:ab BS:=[dX 5 (kB (TE (dM 2)) (d' (dM 0) 15) (d' (dM 0) 14)),dX 6 (d8 [(dM 3),(dM 4)]),eu (TE (dS .NotEq (dM 5) (d8 []))) [dX 6 (d8 [(dO 289 [(dM 1),(fq [(dQ (dM 5) (dN (.int 0))),(dM 3)])]),(kB (i6 [(TE (dS .Eq (dQ (dM 5) (dN (.int 1))) (dN (.int 1)))),(TE (dS .Eq (dM 4) (dN (.int 1))))]) (dN (.int 1)) (dN (.int 0)))])] [],eu (TE (dM 2)) [ic (dM 0) 15 (dM 6)] [ic (dM 0) 14 (dM 6)]]
noncomputable def qj:ab BS:=[eu (TE (dS .Eq (dM 0) (dN (.int 1)))) [dY (dN (.int 1))] [],eu (TE (dS .Eq (dM 0) (dN (.int 2)))) [dY (dN (.int 0))] [],dY (dM 1)]
noncomputable def tG:ab BS:=[dY (ed dP (dM 0) 119 [(dQ (dM 1) (dN (.int 4))),(Hc (dQ (dM 1) (dN (.int 1))) (dM 2))])]
noncomputable def C0:ab BS:=[dY (dO 289 [(dM 0),(gA (dM 3) (.one 3) 1 (fK (dO 249 [(dM 0),(dM 1)])) [(TE (dS .NotIn (dM 3) (dM 2)))])])]
noncomputable def iS:ab BS:=[dX 4 (dQ (d' (dM 0) 0) (dM 3)),dX 5 (kB (TE (dS .Eq (dQ (dM 4) (dN (.int 0))) (dN (.int 19)))) (dQ (dM 4) (dN (.int 2))) (d8 [(dM 3)])),eu (TE (gP 203 [(gA (dO 558 [(dM 0),(dM 6)]) (.one 6) 1 (fK (dM 5)) [])])) [dY (dN (.bool false))] [],dX 2 (TR [(dM 2),(dS .Eq (dQ (dM 4) (dN (.int 0))) (dN (.int 19)))])]
noncomputable def ra:ab BS:=[dX 2 (dN (.bool false)),iA (.one 3) (fK (dO 249 [(dM 0),(dM 1)])) iS,dY (dM 2)]
noncomputable def wJ:ab BS:=[dX 2 (d' (dM 0) 10),eu (TE (dO 657 [(dM 2),(dM 1)])) [dY (ed dP (dM 2) 111 [(d8 [(dN (.int 7)),(d8 [(dM 1),(dO 289 [(dM 2),(fq [(dN (.int 11)),(dN (.int 5))])])])])])] [],dX 1 (ed dP (dM 0) 115 [(dM 1)]),dY (kB (TE (dS .Eq (dM 1) (dN (.int 4)))) (dN (.int 2)) (dO 294 [(dM 2),(dM 1),(fq [(dN (.int 4))])]))]
noncomputable def qW:ab BS:=[eu (TE (dS .Eq (dM 1) (dN (.int 4)))) [dY (dM 1)] [],dY (dO 294 [(dM 0),(dM 1),(fq [(dN (.int 4))])])]
noncomputable def vE:ab BS:=[dY (TR [(dS .Eq (dQ (dM 0) (dN (.int 5))) (dN (.int 1))),(Ob [(dS .Eq (dQ (dM 0) (dN (.int 5))) (dN (.int 0))),(dM 1)])])]
noncomputable def tH:ab BS:=[dX 5 (d' (dM 0) 10),dX 6 (kB (TE (dS .GtE (dM 3) (dN (.int 0)))) (dM 3) (dO 685 [(dM 0),(dM 1),(dM 2)])),eu (TE (dO 692 [(dM 1),(dM 4)])) [eu (gi [(TE (dS .GtE (dM 3) (dN (.int 0)))),(TE (dM 4))]) [dY (dM 6)] [],dY (dO 671 [(dM 5),(dM 6)])] [],eu (TE (dM 4)) [dY (dO 664 [(dM 0),(dM 6)])] [],dY (dM 6)]
noncomputable def eW:ab BS:=[dX 3 (kB (TE (qv false (dM 1))) (dN (.int 0)) (dQ (dM 1) (dN (.int 2)))),dX 4 (dN (.int 0)),eu (TE (dO 692 [(dM 0),(dS .NotEq (el .BitAnd (dM 3) (dN (.int 1))) (dN (.int 0)))])) [dX 4 (dN (.int 1))] [],dX 5 (kB (TE (dS .NotEq (el .BitAnd (dM 3) (dN (.int 2))) (dN (.int 0)))) (dN (.int 1)) (dN (.int 0))),eu (TE (dS .Eq (dO 678 [(dQ (dM 0) (dN (.int 6))),(dM 5)]) (dN (.int 1)))) [dX 4 (el .Add (dM 4) (dN (.int 2)))] [],dY (kB (TE (dM 2)) (el .Add (dM 4) (el .BitAnd (dM 3) (dN (.int 4)))) (dM 4))]
noncomputable def fo:ab BS:=[dX 6 (d' (dM 0) 10),dX 7 (dO 572 [(dM 6),(dM 4)]),dX 8 (lY 1),dX 9 (dN (.bool false)),eu (TE (qv true (d' (dM 3) 12))) [dX 9 (dS .NotEq (el .BitAnd (dQ (d' (dM 3) 12) (dN (.int 2))) (dN (.int 1))) (dN (.int 0))),dX 8 (kB (TE (dM 5)) (dQ (d' (dM 3) 12) (dN (.int 1))) (lY 1))] [eu (TE (dS .NotEq (d' (dM 3) 13) (d8 []))) [dX 8 (kB (TE (dM 5)) (dQ (d' (dM 3) 13) (dN (.int 0))) (lY 1))] []],eu (TE (qv true (dM 7))) [dX 10 (dO 699 [(dM 0),(dM 1),(d' (dM 3) 11),(dM 8),(dM 9)]),fx (ed dP (dM 2) 112 [(dM 6),(dM 7),(dM 10),(dO 706 [(dM 1),(d' (dM 3) 12),(dM 5)])]),EM] [],eu (gi [(TE (dS .NotIn (dM 4) (d8 [(dN (.int 6)),(dN (.int 7)),(dN (.int 0))]))),(TE (dS .NotEq (dO 150 [(dM 6),(dM 4)]) (dN (.int 18))))]) [EM] [],dX 11 (kB (TE (dS .GtE (dM 8) (dN (.int 0)))) (dM 8) (dO 685 [(dM 0),(dM 1),(d' (dM 3) 11)])),eu (i6 [(TE (dS .Eq (dQ (dM 1) (dN (.int 5))) (dN (.int 1)))),(gi [(TE (dS .GtE (dM 8) (dN (.int 0)))),(TE (dM 9))])]) [dX 11 (dO 289 [(dM 6),(fq [(dM 11),(dN (.int 4))])])] [],dX 12 (kB (TE (dS .NotEq (d' (dM 3) 13) (d8 []))) (dQ (d' (dM 3) 13) (dN (.int 1))) (dN (.int 0))),fx (ed dP (dM 2) 113 [(dM 6),(dS .Eq (dM 4) (dN (.int 7))),(dM 11),(dO 678 [(dQ (dM 1) (dN (.int 6))),(dM 12)])])]
noncomputable def kK:ab BS:=[fx (dO 741 [(dM 0),(dM 1),(dM 4),(dM 5),(dM 7),(dM 3)])]
noncomputable def iW:ab BS:=[dX 6 (dO 713 [(dM 0),(dM 1),(d' (dM 5) 11)]),eu (TE (qv false (dM 6))) [dY (ed dP (d' (dM 0) 10) 111 [(dM 1)])] [],iA (.one 7) (fK (dM 6)) kK]
noncomputable def qY:ab BS:=[dX 4 (O6 634 612 []),iA (.one 5) (fK (dM 2)) iW,dY (ed dP (dM 4) 114 [(d' (dM 0) 10)])]
noncomputable def ml:ab BS:=[eu (TE (dS .Lt (dM 1) (dN (.int 0)))) [wu] [],dX 3 (dQ (d' (dM 0) 0) (dM 1)),eu (TE (dS .Eq (dQ (dM 3) (dN (.int 0))) (dN (.int 8)))) [dY (dM 1)] [],eu (TE (dS .Eq (dQ (dM 3) (dN (.int 0))) (dN (.int 13)))) [dY (dO 234 [(dM 0),(dM 1)])] [],eu (TE (dS .In (dQ (dM 3) (dN (.int 0))) (dN vf))) [dY (dN (.int 11))] [],eu (i6 [(TE (dS .NotEq (dQ (dM 3) (dN (.int 0))) (dN (.int 9)))),(TE (dQ (dM 3) (dN (.int 2)))),(TE mU)]) [wu] [],dX 1 mU]
noncomputable def tQ:ab BS:=[iA (.one 2) (lb (dN (.int 40))) ml,wu]
noncomputable def rp:ab BS:=[dY (dO 328 [(d' (dM 0) 10),(dM 1)])]
noncomputable def xT:ab BS:=[dY (dS .Eq (el .BitAnd (dQ (dM 0) (dN (.int 2))) (el .Add (dN (.int 8)) (dN (.int 16)))) (dN (.int 0)))]
noncomputable def lx:ab BS:=[ic (dM 0) 11 (dM 1),ic (dM 0) 12 (dM 2),ic (dM 0) 13 (dM 3)]
noncomputable def iP:ab BS:=[eu (TE (dO 593 [(dM 5)])) [fx (ed dP (dM 3) 100 [(EG 730 727 [(dO 158 [(dM 2),(dQ (dM 5) (dN (.int 0)))]),(dM 5),(d8 [])])])] []]
noncomputable def gu:ab BS:=[dX 2 (d' (dM 0) 10),dX 3 (hV .own []),dX 4 (dQ (d' (dM 2) 0) (ed dP (dM 0) 118 [(dM 1)])),iA (.one 5) (fK (dQ (dM 4) (dN (.int 1)))) iP,eu (TE (dS .NotEq (dQ (dM 4) (dN (.int 4))) (d8 []))) [fx (ed dP (dM 3) 100 [(EG 730 727 [(dN (.int 6)),(dN .fS),(dQ (dM 4) (dN (.int 4)))])])] [],eu (TE (dS .NotEq (dQ (dM 4) (dN (.int 5))) (d8 []))) [fx (ed dP (dM 3) 100 [(EG 730 727 [(dN (.int 7)),(dN .fS),(dQ (dM 4) (dN (.int 5)))])])] [],dY (dM 3)]
noncomputable def sr:ab BS:=[dY (gA (EG 730 727 [(dM 1),(dN .fS),(d8 [])]) (.one 1) 1 (fK (dM 0)) [])]
noncomputable def vb:ab BS:=[eu (TE (dS .Eq (dQ (dM 1) (dN (.int 5))) (dN (.int 1)))) [dY (dO 289 [(d' (dM 0) 10),(fq [(dM 2),(dN (.int 4))])])] [],eu (TE (dS .Eq (dQ (dM 1) (dN (.int 5))) (dN (.int 2)))) [dY (dO 664 [(dM 0),(dM 2)])] [],dY (dM 2)]
noncomputable def wX:ab BS:=[dX 4 (d' (dM 0) 10),dX 5 (dQ (d' (dM 4) 0) (dM 2)),dX 6 (kB (TE (dM 3)) (dQ (dM 5) (dN (.int 1))) (dO 685 [(dM 0),(dM 1),(dN (.int 7))])),dY (dO 174 [(dM 4),(dO 774 [(dM 0),(dM 1),(dM 6)]),(dO 678 [(dQ (dM 1) (dN (.int 6))),(dQ (dM 5) (dN (.int 2)))])])]
noncomputable def Al:ab BS:=[dX 5 (dO 158 [(d' (dM 0) 10),(gP 204 [(dM 2)])]),dX 6 (kB (TE (dM 4)) (dQ (dM 3) (dN (.int 0))) (lY 1)),eu (TE (dS .Eq (dQ (dM 3) (dN (.int 1))) (dN (.int 2)))) [dX 7 (kB (TE (dM 4)) (dM 6) (dO 685 [(dM 0),(dM 1),(dM 5)])),dY (d8 [(dO 774 [(dM 0),(dM 1),(dM 7)]),(dN (.int 2))])] [],dX 8 (dS .Eq (dQ (dM 3) (dN (.int 1))) (dN (.int 1))),dX 9 (kB (TE (dO 692 [(dM 1),(dM 8)])) (dN (.int 1)) (dN (.int 0))),dY (d8 [(dO 699 [(dM 0),(dM 1),(dM 5),(dM 6),(dM 8)]),(dM 9)])]
noncomputable def kW:ab BS:=[fx (ed dP (dM 6) 100 [(dO 781 [(dM 0),(dM 1),(dM 7),(dQ (dQ (dM 5) (dN (.int 1))) (dM 7)),(dM 3)])])]
noncomputable def xJ:ab BS:=[dX 4 (d' (dM 0) 10),dX 5 (dQ (d' (dM 4) 0) (dM 2)),dX 6 (hV .own []),iA (.one 7) (lb (gP 200 [(dQ (dM 5) (dN (.int 1)))])) kW,dY (dO 201 [(dM 4),(gP 207 [(dM 6)]),(dO 678 [(dQ (dM 1) (dN (.int 6))),(dQ (dM 5) (dN (.int 2)))])])]
noncomputable def Ft:ab BS:=[dX 2 (dQ (d' (dM 0) 0) (dM 1)),dX 3 (dQ (dM 2) (dN (.int 0))),eu (TE (dS .Eq (dM 3) (dN (.int 1)))) [dY (ed dP (dN mV) 103 [(dM 1),(dN (.int 0))])] [],eu (TE (dS .Eq (dM 3) (dN (.int 2)))) [dY (dN (.int 3))] [],eu (TE (dS .In (dM 3) (dN tS))) [dY (dN (.int 7))] [],eu (TE (dS .Eq (dM 3) (dN (.int 6)))) [dY (dO 306 [(dM 0),(dQ (dM 2) (dN (.int 1)))])] [],eu (TE (dS .Eq (dM 3) (dN (.int 7)))) [dY (dO 313 [(dM 0),(dQ (dM 2) (dN (.int 1)))])] [],dX 4 (dO 256 [(dM 2)]),eu (TE (dS .Lt (dM 4) (dN (.int 0)))) [dY (dN (.int 0))] [],dY (kB (TE (dS .Eq (dM 4) (dN (.int 6)))) (dN (.int 1)) (dN (.int 2)))]
noncomputable def tx:ab BS:=[dY (dS .NotIn (dO 320 [(dM 0),(dM 1)]) (d8 [(dN (.int 7)),(dN (.int 0))]))]
noncomputable def nY:ab BS:=[dX 4 (d' (dM 0) 10),dX 5 (ed dP (dM 0) 115 [(dM 2)]),eu (i6 [(TE (dS .Eq (dM 5) (dN (.int 13)))),(TE (dS .Eq (dM 5) (dN (.int 2))))]) [dY (dM 5)] [],dX 6 (dO 150 [(dM 4),(dM 5)]),eu (TE (dS .Eq (dM 6) (dN (.int 6)))) [dY (dO 289 [(dM 4),(gA (dO 800 [(dM 0),(dM 1),(dM 10),(dM 5)]) (.one 10) 1 (fK (dQ (dQ (d' (dM 4) 0) (dM 5)) (dN (.int 1)))) [])])] [],eu (TE (dS .Eq (dM 6) (dN (.int 18)))) [dY (dM 5)] [],eu (TE (dO 558 [(dM 4),(dM 5)])) [dY (dO 807 [(dM 4),(dM 1),(dM 5)])] [],eu (TE (dS .Eq (dM 5) (dN (.int 0)))) [dY (dO 748 [(dM 0),(dM 1),(dO 760 [(d8 [(dN (.int 6))])]),(dN (.bool false))])] [],eu (i6 [(TE (dS .Eq (dM 5) (dN (.int 1)))),(TE (dS .Eq (dM 5) (dN (.int 10))))]) [dY (dN (.int 11))] [],eu (TE (dO 795 [(dM 4),(dM 5)])) [dY (dM 5)] [],dX 7 (dO 652 [(dM 0),(dM 1),(dM 3),(dM 5)]),dX 8 (dQ (d' (dM 4) 0) (dM 5)),eu (gi [(TE (dS .Eq (dQ (dM 1) (dN (.int 3))) (lY 1))),(TE (dS .Eq (dM 6) (dN (.int 11))))]) [dY (dO 767 [(dM 0),(dM 1),(dM 5),(dM 7)])] [],eu (gi [(TE (dS .Eq (dQ (dM 1) (dN (.int 3))) (lY 1))),(TE (dS .Eq (dM 6) (dN (.int 12))))]) [dY (dO 788 [(dM 0),(dM 1),(dM 5),(dM 7)])] [],eu (i6 [(TE (dS .Eq (dM 6) (dN (.int 11)))),(TE (dS .Eq (dM 6) (dN (.int 12))))]) [dX 9 (gA (dO 828 [(dM 0),(dM 5),(dM 10)]) (.one 10) 1 (fK (dO 598 [(dM 0),(dM 8)])) []),dY (dO 748 [(dM 0),(dM 1),(dM 9),(dM 7)])] [],dY (dO 748 [(dM 0),(dM 1),(dO 755 [(dM 0),(dM 5)]),(dM 7)])]
noncomputable def x9:ab BS:=[dX 2 (d' (dM 0) 10),dX 3 (ed dP (dM 0) 115 [(dQ (dM 1) (dN (.int 2)))]),eu (TE (dS .Eq (dM 3) (dN (.int 13)))) [dY (dN (.int 13))] [],eu (TE (dO 558 [(dM 2),(dM 3)])) [dY (ed dP (dM 2) 111 [(dM 1)])] [],dY (dO 748 [(dM 0),(dM 1),(dO 760 [(dO 249 [(dM 2),(dM 3)])]),(dN (.bool false))])]
noncomputable def AP:ab BS:=[dY (d8 [])]
noncomputable def Am:ab BS:=[dX 1 (ed dP (dM 0) 115 [(dM 1)]),dX 3 (dQ (d' (d' (dM 0) 10) 0) (dM 1)),eu (TE (dS .Eq (dQ (dM 3) (dN (.int 0))) (dN (.int 6)))) [dY (dO 550 [(dM 0),(dQ (dM 3) (dN (.int 1))),(dM 2)])] [],eu (i6 [(TE (dS .Eq (dQ (dM 3) (dN (.int 0))) (dN (.int 11)))),(TE (dS .Eq (dQ (dM 3) (dN (.int 0))) (dN (.int 12))))]) [dX 4 (kB (TE (dM 2)) (ed dP (dM 0) 121 [(dM 1)]) (d8 []))] [dX 4 (dQ (dQ (d' (d' (dM 0) 10) 0) (ed dP (dM 0) 118 [(dM 1)])) (kB (TE (dM 2)) (dN (.int 5)) (dN (.int 4))))],dY (kB (TE (dS .Eq (dM 4) (d8 []))) (d8 []) (d8 [(ed dP (dM 0) 115 [(dQ (dM 4) (dN (.int 0)))]),(dQ (dM 4) (dN (.int 1)))]))]
noncomputable def k8:ab BS:=[dX 4 (dO 572 [(dM 0),(dM 3)]),eu (TE (qv true (dM 4))) [o6 (dM 2) (dM 4) (dN (.int 1))] []]
noncomputable def x':ab BS:=[dX 2 qF,iA (.one 3) (fK (dM 1)) k8,dY (dM 2)]
noncomputable def jO:ab BS:=[dX 10 (dO 572 [(dM 3),(dM 9)]),dX 11 (TR [(dS .In (dM 9) (dM 8)),(Ob [(qv true (dM 10)),(dS .In (dO 158 [(dM 3),(dM 10)]) (dM 8))])]),eu (gi [(Di (TE (dM 11))),(TE (dS .NotEq (dO 821 [(dM 0),(dM 1),(dM 9)]) (d8 [])))]) [fx (ed dP (dM 6) 100 [(dO 828 [(dM 0),(dM 1),(dM 9)])])] []]
noncomputable def jK:ab BS:=[eu (gi [(TE (qv false (d' (dM 7) 12))),(TE (dS .In (d' (dM 7) 11) (dM 2)))]) [fx (ed dP (dM 6) 100 [(dM 7)])] [eu (gi [(TE (qv true (d' (dM 7) 12))),(i6 [(TE (dS .In (dQ (d' (dM 7) 12) (dN (.int 0))) (dM 4))),(TE (dM 5))])]) [fx (ed dP (dM 6) 100 [(dM 7)])] []]]
noncomputable def tI:ab BS:=[dX 3 (d' (dM 0) 10),dX 4 (dO 835 [(dM 3),(dM 2)]),dX 5 (Ob [(dS .In (dN (.int 6)) (dM 2)),(dS .Eq (dO 543 [(dM 0),(dM 1),(dN (.int 0))]) (d8 []))]),dX 6 (hV .own []),iA (.one 7) (fK (dO 755 [(dM 0),(dM 1)])) jK,dX 8 (gA (d' (dM 12) 11) (.one 12) 1 (fK (dM 6)) []),iA (.one 9) (fK (dM 2)) jO,dY (dM 6)]
noncomputable def v5:ab BS:=[dX 3 (d' (dM 0) 10),dX 4 (ed dP (dM 0) 115 [(dQ (dM 2) (dN (.int 0)))]),dX 5 (ed dP (dM 0) 115 [(dQ (dM 2) (dN (.int 1)))]),eu (i6 [(TE (dS .Eq (dM 4) (dN (.int 13)))),(TE (dS .Eq (dM 5) (dN (.int 13))))]) [dY (dN (.int 13))] [],eu (i6 [(TE (dO 558 [(dM 3),(dM 4)])),(TE (dO 558 [(dM 3),(dM 5)]))]) [dY (ed dP (dM 3) 111 [(dM 1)])] [],dX 6 (dS .Eq (dQ (d' (dM 3) 0) (dQ (dM 2) (dN (.int 1)))) (d8 [(dN (.int 14)),(dQ (dM 2) (dN (.int 0)))])),eu (TE (dS .Eq (dM 4) (dN (.int 0)))) [dX 7 (kB (TE (dM 6)) (d8 [(dN (.int 6))]) (dO 249 [(dM 3),(dM 5)])),dY (dO 748 [(dM 0),(dM 1),(dO 760 [(dM 7)]),(dN (.bool false))])] [],eu (TE (dM 6)) [dY (dO 748 [(dM 0),(dM 1),(dO 755 [(dM 0),(dM 4)]),(dO 652 [(dM 0),(dM 1),(dM 4),(dM 4)])])] [],dX 8 (dO 840 [(dM 0),(dM 4),(dO 249 [(dM 3),(dM 5)])]),dY (dO 748 [(dM 0),(dM 1),(dM 8),(dO 652 [(dM 0),(dM 1),(dM 4),(dM 4)])])]
noncomputable def zL:ab BS:=[dX 2 (dO 586 [(d' (dM 0) 10),(dM 1)]),eu (TE (dS .NotEq (dM 2) (d8 []))) [dY (dO 847 [(dM 0),(dM 1),(dM 2)])] [],dX 3 (dO 645 [(dM 0),(dM 1)]),eu (TE (dS .GtE (dM 3) (dN (.int 0)))) [dY (dO 800 [(dM 0),(dM 1),(dM 3),(ed dP (dM 0) 115 [(dM 3)])])] [],dY (dO 814 [(dM 0),(dM 1)])]
noncomputable def yu:ab BS:=[eu (i6 [(TE (dS .Eq (el .Mod (dM 1) (dN (.int 3))) (dN (.int 1)))),(gi [(TE (dS .Eq (el .Mod (dM 1) (dN (.int 3))) (dN (.int 0)))),(TE (dM 2))])]) [dY (d8 [(dO 943 [(fq [(dM 0),(fq [(dN (.str (aa "undefined")))])])]),(dN (.int 1))])] [],eu (TE (dM 2)) [dY (d8 [(gA (dM 3) (.one 3) 1 (fK (dM 0)) [(TE (dS .NotEq (dM 3) (dN (.str (aa "undefined")))))]),(dN (.int 0))])] [],dY (d8 [(dM 0),(dN (.int 0))])]
noncomputable def zG:ab BS:=[dY (dQ (d8 [(dM 1),(dN (.int 1)),(dN (.int 0))]) (el .FloorDiv (dM 0) (dN (.int 3))))]
noncomputable def lV:ab BS:=[oB [3,4,5] (dM 0),eu (TE (dS .Eq (dM 3) (dN (.int 0)))) [dY (dM 2)] [],dX 6 (kB (TE (dS .Eq (dM 3) (dN (.int 1)))) (fq [(dM 1)]) (dM 5)),eu (TE (dS .Eq (dM 4) (dN (.int 1)))) [dY (fq [(el .Add (el .Add (dN (.str (aa "["))) (dO 950 [(dM 6)])) (dN (.str (aa "]"))))])] [],eu (TE (dS .Eq (dM 4) (dN (.int 2)))) [dY (dO 943 [(fq [(dM 6),(fq [(dN (.str (aa "null")))])])])] [],eu (TE (dS .Eq (dM 4) (dN (.int 3)))) [dY (fq [(el .Add (el .Add (dN (.str (aa "readonly [..."))) (dO 950 [(dM 6)])) (dN (.str (aa "]"))))])] [],dY (dM 6)]
noncomputable def h9:ab BS:=[dX 12 (dO 1038 [(dM 1),(dM 8),(dM 9)]),eu (TE (dS .Lt (dM 10) (dN (.int 2)))) [oB [12,10] (dO 1000 [(dM 12),(dM 2),(dS .Eq (dM 10) (dN (.int 1)))])] [eu (TE (dS .Eq (el .Mod (dM 2) (dN (.int 3))) (dN (.int 1)))) [dX 12 (dO 943 [(fq [(dM 12),(fq [(dN (.str (aa "undefined")))])])])] [eu (gi [(TE (dS .Eq (el .Mod (dM 2) (dN (.int 3))) (dN (.int 2)))),(TE (dS .Eq (dM 3) (dN (.str (aa "[")))))]) [dX 12 (gA (dM 14) (.one 14) 1 (fK (dM 12)) [(TE (dS .NotEq (dM 14) (dN (.str (aa "undefined")))))])] []]],fx (ed dP (dM 7) 100 [(d8 [(dM 8),(dM 12),(dM 10),(dN (.int 0))])]),dX 13 (kB (TE (dS .In (dQ (dM 8) (dN (.int 0))) (dN (.str (aa "01"))))) (el .Add (el .Add (dN (.str (aa "\""))) (dM 8)) (dN (.str (aa "\"")))) (dM 8)),o6 (dM 6) (dM 13) (d8 [(kB (TE (dS .In (dM 13) (dM 6))) (dO 943 [(fq [(dQ (dQ (dM 6) (dM 13)) (dN (.int 0))),(dM 12)])]) (dM 12)),(dM 10),(el .Add (dO 1007 [(dM 2),(el .Mod (dM 11) (dN (.int 2)))]) (kB (TE (dS .Eq (dQ (dM 1) (dN (.int 0))) (dN (.int 0)))) (el .Mult (el .FloorDiv (dM 11) (dN (.int 2))) (dN (.int 2))) (dN (.int 0))))])]
noncomputable def Cz:ab BS:=[oB [3,4,5] (dM 0),eu (gi [(TE (dS .NotEq (dM 3) (dN (.str (aa "["))))),(TE (dS .NotEq (dM 3) (dN (.str (aa "{")))))]) [dY (dM 0)] [],dX 6 qF,dX 7 (hV .own []),iA (.many [8,9,10,11]) (fK (dM 4)) h9,eu (TE (dS .Eq (dM 3) (dN (.str (aa "["))))) [dY (d8 [(dM 3),(dM 7),(dO 1007 [(dM 2),(dM 5)])])] [],dY (d8 [(dM 3),(gA (d8 [(dM 14),(dQ (dQ (dM 6) (dM 14)) (dN (.int 0))),(dQ (dQ (dM 6) (dM 14)) (dN (.int 1))),(dQ (dQ (dM 6) (dM 14)) (dN (.int 2)))]) (.one 14) 1 (fK (gP 201 [(dM 6)])) []),(dN (.int 0))])]
noncomputable def pK:ab BS:=[oB [7,8,9] (dM 5),dX 10 (dM 4),eu (TE (dS .Eq (dM 7) (dN (.int 0)))) [dX 10 (ed dP (dM 0) 111 [(d8 [(dN (.int 15)),(dM 1),(dM 4)])])] [],eu (TE (dS .Eq (dM 7) (dN (.int 2)))) [dX 10 (dO 976 [(dM 0),(dM 9)])] [],eu (TE (dS .Eq (dM 8) (dN (.int 1)))) [dX 10 (dO 201 [(dM 0),(fq [(d8 [(dM 10),(dN (.int 0))])])])] [],eu (TE (dS .Eq (dM 8) (dN (.int 2)))) [dX 10 (dO 289 [(dM 0),(fq [(dM 10),(dN (.int 5))])])] [],eu (TE (dS .Eq (dM 8) (dN (.int 3)))) [dX 10 (dO 174 [(dM 0),(dM 10),(dN (.int 1))])] [],dX 11 (dO 976 [(dM 0),(dM 2)]),eu (TE (dS .Lt (dM 3) (dN (.int 3)))) [dX 11 (ed dP (dM 0) 111 [(d8 [(dN (.int 14)),(dM 1)])])] [],eu (TE (dS .Eq (dM 3) (dN (.int 3)))) [dX 11 (ed dP (dM 0) 111 [(d8 [(dN (.int 7)),(d8 [(ed dP (dM 0) 111 [(d8 [(dN (.int 14)),(dM 1)])]),(dM 11)])])])] [],dY (d8 [(dN (.int 17)),(dQ (dQ (d' (dM 0) 0) (dM 4)) (dN (.int 1))),(dM 11),(kB (TE (dS .Eq (dM 3) (dN (.int 2)))) (dM 4) (lY 1)),(dM 10),(el .Mod (dM 6) (dN (.int 3))),(el .FloorDiv (dM 6) (dN (.int 3)))])]
noncomputable def fc:ab BS:=[dX 6 (dO 938 [(dM 2),(dN (.int 5))]),dX 7 (dO 938 [(dM 2),(dN (.int 9))]),dX 8 (kB (i6 [(TE (dS .Eq (dM 6) (dN (.int 1)))),(TE (dS .Eq (dM 6) (dN (.int 4))))]) (el .Add (dO 938 [(dM 2),(dN (.int 2))]) (dN (.int 1))) (dN (.int 0))),dX 9 (kB (TE (dS .Gt (dM 8) (dN (.int 0)))) (dO 938 [(dM 2),(dN (.int 4))]) (dN (.int 0))),dX 10 (kB (i6 [(TE (dS .Eq (dM 8) (dN (.int 2)))),(TE (dS .Eq (dM 4) (dN (.int 0))))]) (dO 964 [(dO 938 [(dM 2),(dN (.int 3000))])]) (fq [])),dX 11 (kB (TE (dS .Gt (dM 6) (dN (.int 2)))) (el .Add (dN (.int 1)) (dO 938 [(dM 2),(dN (.int 127))])) (dN (.int 1))),eu (gi [(TE (dS .Eq (dM 6) (dN (.int 3)))),(i6 [(TE (dS .NotEq (gP 200 [(dM 5)]) (dN (.int 1)))),(TE (dS .NotEq (dQ (dQ (dM 5) (dN (.int 0))) (dN (.int 0))) (dN (.str (aa "{"))))),(TE (dS .Lt (dM 4) (dN (.int 11))))])]) [dX 6 (dN (.int 0))] [],dX 12 (gA (dM 19) (.one 19) 1 (fK (dM 5)) [(TE (dS .Eq (dQ (dM 19) (dN (.int 0))) (dN (.str (aa "[")))))]),dX 13 (gA (dM 19) (.one 19) 1 (fK (dM 12)) [(gi [(TE (dS .Gt (gP 200 [(dQ (dM 19) (dN (.int 1)))]) (dN (.int 1)))),(TE (dS .Eq (dQ (dQ (dQ (dM 19) (dN (.int 1))) (lY 1)) (dN (.int 2))) (dN (.int 2))))])]),eu (gi [(TE (dS .Eq (dM 6) (dN (.int 2)))),(TE (dS .Gt (gP 200 [(dM 12)]) (dN (.int 0))))]) [dX 6 (dN (.int 0))] [],eu (gi [(TE (dS .Eq (dM 6) (dN (.int 1)))),(TE (dS .Eq (dM 8) (dN (.int 1)))),(TE (dS .Gt (gP 200 [(dM 13)]) (dN (.int 0))))]) [dX 8 (dN (.int 0)),dX 9 (dN (.int 0))] [],eu (gi [(TE (dS .Eq (dM 4) (dN (.int 0)))),(TE (dS .Eq (dM 8) (dN (.int 0))))]) [dX 8 (dN (.int 2))] [],dX 14 (d8 [(dM 8),(dM 9),(dM 10)]),dX 15 (dM 5),dX 16 (fq []),eu (TE (dS .Eq (dM 6) (dN (.int 4)))) [dX 16 (dO 943 [(gA (fq [(dQ (dN lg) (dM 19))]) (.one 19) 1 (lb (dN (.int 7))) [(TE (dS .Eq (el .Mod (el .FloorDiv (dM 11) (el .Pow (dN (.int 2)) (dM 19))) (dN (.int 2))) (dN (.int 1))))])]),dX 15 (fq [(d8 [(dN (.str (aa "{"))),(gA (d8 [(dM 19),(fq []),(kB (TE (dS .In (dM 19) (d8 [(dN (.str (aa "string"))),(dN (.str (aa "number")))]))) (dN (.int 2)) (dN (.int 0))),(dN (.int 0))]) (.one 19) 1 (fK (dM 16)) []),(dN (.int 0))])])] [],eu (TE (dS .Eq (dM 6) (dN (.int 3)))) [dX 17 (dQ (dQ (dM 5) (dN (.int 0))) (dN (.int 1))),dX 16 (dO 943 [(gA (fq [(dQ (dQ (dM 17) (dM 19)) (dN (.int 0)))]) (.one 19) 1 (lb (gP 200 [(dM 17)])) [(TE (dS .Eq (el .Mod (el .FloorDiv (dM 11) (el .Pow (dN (.int 2)) (dM 19))) (dN (.int 2))) (dN (.int 1))))])]),dX 15 (fq [(d8 [(dN (.str (aa "{"))),(gA (dM 19) (.one 19) 1 (fK (dM 17)) [(TE (dS .In (dQ (dM 19) (dN (.int 0))) (dM 16)))]),(dN (.int 0))])])] [],dX 18 (dO 854 [(dM 1),(dO 1050 [(dM 0),(dM 4),(dM 16),(dM 6),(dM 3),(dM 14),(dM 7)])]),dY (d8 [(dM 18),(gA (dO 1043 [(dM 19),(dM 14),(dM 7)]) (.one 19) 1 (fK (dM 15)) [])])]
noncomputable def u9:ab BS:=[oB [6,7] (dO 1055 [(dM 2),(dM 3),(dM 1),(dM 4),(dM 6),(dM 7)]),eu (TE (dS .NotEq (dO 1031 [(dM 2),(dM 6)]) (dO 943 [(gA (fq [(dO 1012 [(dM 9)])]) (.one 9) 1 (fK (dM 7)) [])]))) [dY (dN (.bool false))] []]
noncomputable def qH:ab BS:=[dX 1 (Of (dM 9) (.one 9) 1 (fK (Sf (dM 0) 40)) []),dX 2 (O6 139 122 []),dX 3 (O6 926 916 [(dM 2)]),dX 4 (dO 242 [(dM 2),(dN (.str (aa "P")))]),dX 5 (el .Add (dN (.int 1)) (dO 938 [(dM 1),(dN (.int 4))])),oB [6,7] (dO 995 [(dM 2),(dM 1)]),iA (.one 8) (lb (dM 5)) u9,dY (dN (.bool true))]
noncomputable def IY(call:Nat->Nat->ab V->Hp->ae (V×Hp))(J O:Nat)(Z:ab D)(b:bt)(R:ab MS)(wm:Nat)(args:ab V)(H:Hp):ae (V×Hp):=(uB J args Z).bind λU=>(d5 R ⟨call,if b then wm else H.length⟩ (U.map some++bL (O-U.length) none) H).bind λq=>match b with|true=>(match q.1with|.er=>some (.d .fS,q.2.2)|_=>none)|false=>(match q.1with|.er=>some (.d .fS,q.2.2.take H.length)|.ret v=>(toD v q.2.2).map λx=>(.d x.1,x.2.take H.length)|_=>none)
theorem MC:∃C:Nat->Nat->Nat->ab V->Hp->ae (V×Hp),C=nT:=⟨_,rfl⟩
noncomputable def cF:Nat->Nat->Nat->ab V->Hp->ae (V×Hp):=ac4 MC
theorem Iy:cF=nT:=abN MC
noncomputable def runC(call:Nat->Nat->ab V->Hp->ae (V×Hp))(J O:Nat)(Z:ab D)(b:bt)(R:ab BS)(wm:Nat)(args:ab V)(H:Hp):ae (V×Hp):=IY call J O Z b (R.map BS.run) wm args H
section
open Lean
set_option compiler.extract_closed false in def Rg:Syntax:=.node .none ``Parser.Tactic.tacticSeq #[.node .none ``Parser.Tactic.tacticSeq1Indented #[.node .none `null #[.node .none ``Parser.Tactic.tacticRfl #[mkAtom "rfl"]]]]
set_option compiler.extract_closed false in def MQ:Syntax:=.node .none ``Parser.Tactic.tacticSeq #[.node .none ``Parser.Tactic.tacticSeq1Indented #[.node .none `null #[.node .none `tacticKernel_rfl #[mkAtom "kernel_rfl"]]]]
end
noncomputable abbrev CI(f J O:Nat)(Z:ab D)(c:bt)(b:ab BS):Prop:=∀n wm args H,cF (n+1) wm f args H=runC (cF n) J O Z c b wm args H
noncomputable abbrev CJ(f J O:Nat)(b:ab BS):Prop:=CI f J O [] false b
theorem dW(e:aho)(c:ab Str)(l:dy (Pc f=some ⟨e,Z,c,d⟩) MQ)(hd:dy (EZ c e=b.map BS.run) MQ)(k:dy (((fB (ew e)).length,(f9 (ef e)).length)=(J,O)) MQ):CI f J O Z d b:=by intro n m g H;have i:=ah Prod.fst k;have j:=ah Prod.snd k;simp only at i j;refine sY Iy ?_;unfold nT;rw[l];simp only[bj,M7,runC,IY,hd,i,j];try rfl
noncomputable def Fn(k:Nat)(x:D×Hp):V×Hp:=(.d x.1,x.2.take k)
noncomputable def fin(k:Nat)(q:Fl×Loc×Hp):ae (V×Hp):=match q.1with|.er=>some (.d .fS,q.2.2.take k)|.ret v=>(toD v q.2.2).map (Fn k)|_=>none
noncomputable def S2(q:Fl×Loc×Hp):ae (V×Hp):=match q.1with|.er=>some (.d .fS,q.2.2)|_=>none
section
variable{call:Nat->Nat->ab V->Hp->ae (V×Hp)}{J O:Nat}{Z:ab D}{R:ab BS}{wm:Nat}{args:ab V}{H:Hp}{U:ab V}
noncomputable def uD(O:Nat)(U:ab V):Loc:=U.map some++bL (O-U.length) none
theorem ir(h:uB J args Z=some U):runC call J O Z false R wm args H=(d5 (R.map BS.run) ⟨call,H.length⟩ (uD O U) H).bind (fin H.length):=by unfold runC IY;rw[h];rfl
theorem FL(h:uB J args Z=some U):runC call J O Z true R wm args H=(d5 (R.map BS.run) ⟨call,wm⟩ (uD O U) H).bind S2:=by unfold runC IY;rw[h];rfl
end
section
variable{x:D}{i n f:Nat}{m o k a b:BE}{C es:ab BE}{t:BT}{ts:ab BT}{j:BI}{tg:Tg}{md:Mode}{R:dD}{Z:afg}{z:Int}{g:bt}{M:mO}{I:ab Nat}{O sb:ab BS}
end
@[simp]theorem Uo:fin k (.er,l,H)=some (.d .fS,H.take k):=rfl
@[simp]theorem Ue:fin k (.ret v,l,H)=(toD v H).map (Fn k):=rfl
@[simp]theorem S9:Fn k (x,H)=(.d x,H.take k):=rfl
@[simp]theorem Sb:S2 (.er,l,H)=some (.d .fS,H):=rfl
section
variable{c:Cx}{l:Loc}{H:Hp}{m m2 o k a b:ME}{C:ab ME}{x y:D}{v:V}{Z:ab D}{U:ab V}{G:ab MS}{i j:Nat}
noncomputable def Y3(H:Hp)(o:ae V):ae (V×Hp):=o.map λv=>(v,H)
@[simp]theorem Xb:toD (.d x) H=some (x,H):=rfl
noncomputable def kD(r:V×Hp):ae (D×Hp):=toD r.1 r.2
noncomputable def C!(C:ab ME)(c:Cx)(l:Loc)(r:D×Hp):ae (ab D×Hp):=(Lf C c l r.2).map λq=>(r.1::q.1,q.2)
noncomputable def Wm(x:D)(q:ab D×Hp):ab D×Hp:=(x::q.1,q.2)
noncomputable def Z9(C:ab ME)(c:Cx)(l:Loc)(r:V×Hp):ae (ab V×Hp):=(ik r.1 r.2).bind λr=>(mW C c l r.2).map λq=>(r.1::q.1,q.2)
noncomputable def a!(C:ab ME)(c:Cx)(l:Loc)(r:V×Hp):ae (ab V×Hp):=(mW C c l r.2).map λq=>(r.1::q.1,q.2)
noncomputable def OO(v:V)(q:ab V×Hp):ab V×Hp:=(v::q.1,q.2)
@[simp]theorem XH:ik (.d x) H=some (.d x,H):=rfl
@[simp]theorem TG:ik (.ins i j) H=some (.ins i j,H):=rfl
noncomputable def Y4(r:ab D×Hp):V×Hp:=(.d (.tup r.1),r.2)
noncomputable def Wh(r:ab D×Hp):V×Hp:=(.d (.lst r.1),r.2)
noncomputable def Xm(md:Mode)(r:ab D×Hp):V×Hp:=(.ref r.2.length,r.2++[.lst r.1 md])
noncomputable def ω(m:ME)(c:Cx)(l:Loc)(r:D×Hp):ae (V×Hp):=(eD m c l r.2).bind λb=>match r.1with|.int i=>some (.ref b.2.length,b.2++[.eJ [(.int i,b.1)] false])|_=>none
noncomputable def ν(x:D)(b:D×Hp):ae (V×Hp):=match x with|.int i=>some (.ref b.2.length,b.2++[.eJ [(.int i,b.1)] false])|_=>none
noncomputable def W6(f:Nat)(c:Cx)(r:ab V×Hp):ae (V×Hp):=c.call c.wm f r.1 r.2
noncomputable def R1(cl i:Nat)(q:V×Hp):ae (V×Hp):=match q.1with|.d .fS=>some (.ins cl i,q.2)|_=>none
noncomputable def Y2(cl d:Nat)(c:Cx)(r:ab V×Hp):ae (V×Hp):=(c.call c.wm d (.ins cl r.2.length::r.1) (r.2++[.ins []])).bind (R1 cl r.2.length)
noncomputable def M0(cl i:Nat)(q:V×Hp):ae (V×Hp):=match q.1with|.d .fS=>jg cl i q.2|_=>none
noncomputable def RX(cl d:Nat)(c:Cx)(r:ab V×Hp):ae (V×Hp):=(c.call r.2.length d (.ins cl r.2.length::r.1) (r.2++[.ins []])).bind (M0 cl r.2.length)
theorem Kc{call:Nat->Nat->ab V->Hp->ae (V×Hp)}:RX cl i ⟨call,wm⟩ (U,H)=(call H.length i (.ins cl H.length::U) (H++[.ins []])).bind (M0 cl H.length):=rfl
noncomputable def XX(k:ME)(c:Cx)(l:Loc)(r:V×Hp):ae (V×Hp):=(eD k c l r.2).bind λq=>(fZ r.1 q.1 q.2).map λv=>(v,q.2)
noncomputable def XR(v:V)(q:D×Hp):ae (V×Hp):=(fZ v q.1 q.2).map λv=>(v,q.2)
noncomputable def Sd(H:Hp)(v:V):V×Hp:=(v,H)
noncomputable def F!(n:Nat)(r:V×Hp):ae (V×Hp):=match r.1with|.d (.lst Z)=>some (.d (.lst (Z.take n)),r.2)|_=>none
noncomputable def QY(r:V×Hp):ae (V×Hp):=match r.1with|.d (.str s)=>if 2<=s.cps.size/\s.cps.size<=big then some (.d (.str ⟨(s.cps.toList.drop 1).dropLast.toArray⟩),r.2)else none|_=>none
@[simp]theorem JZ:QY (.d (.str s),H)=if 2<=s.cps.size/\s.cps.size<=big then some (.d (.str ⟨(s.cps.toList.drop 1).dropLast.toArray⟩),H)else none:=rfl
noncomputable def XT(a:Nat)(r:V×Hp):ae (V×Hp):=(kA r.1 a r.2).map (Sd r.2)
noncomputable def XJ(M:mO)(n:Nat)(es:ab ME)(c:Cx)(l:Loc)(r:V×Hp):ae (V×Hp):=if iZ M r.1 n r.2then(mW es c l r.2).bind λq=>fJ M c r.1 n q.1 q.2 else none
noncomputable def VA(M:mO)(c:Cx)(v:V)(n:Nat)(q:ab V×Hp):ae (V×Hp):=fJ M c v n q.1 q.2
noncomputable def Zd(R:dD)(b:ME)(c:Cx)(l:Loc)(x:D×Hp):ae (V×Hp):=(eD b c l x.2).bind λy=>(fv R x.1 y.1).map λz=>(.d z,y.2)
noncomputable def XV(R:dD)(x:D)(y:D×Hp):ae (V×Hp):=(fv R x y.1).map λz=>(.d z,y.2)
noncomputable def NM(H:Hp)(x:D):V×Hp:=(.d x,H)
noncomputable def ZY(R:afg)(b:ME)(c:Cx)(l:Loc)(x:D×Hp):ae (V×Hp):=(b c l x.2).bind λy=>(f6 R x.1 y.1 y.2).map λz=>(.d (.bool z),y.2)
noncomputable def XE(R:afg)(x:D)(y:V×Hp):ae (V×Hp):=(f6 R x y.1 y.2).map λz=>(.d (.bool z),y.2)
noncomputable def VK(H:Hp)(z:bt):V×Hp:=(.d (.bool z),H)
noncomputable def X6(I:bt)(r:V×Hp):V×Hp:=(.d (.bool (isNone r.1!=I)),r.2)
section
variable{t:MT}{ts:ab MT}
noncomputable def kT(r:V×Hp):ae (bt×Hp):=(jo r.1 r.2).map λb=>(b,r.2)
noncomputable def ε(H:Hp)(z:bt):bt×Hp:=(z,H)
noncomputable def e!(r:bt×Hp):bt×Hp:=(!r.1,r.2)
noncomputable def Sa(ts:ab MT)(c:Cx)(l:Loc)(r:bt×Hp):ae (bt×Hp):=match r.1with|true=>gO ts c l r.2|false=>some (false,r.2)
@[simp]theorem Uz:Sa [] c l (z,H)=some (z,H):=by rcases z with⟨⟩<;>rfl
noncomputable def Xa(ts:ab MT)(c:Cx)(l:Loc)(r:bt×Hp):ae (bt×Hp):=match r.1with|true=>some (true,r.2)|false=>Ch ts c l r.2
noncomputable def Zn(a b:ME)(c:Cx)(l:Loc)(r:bt×Hp):ae (V×Hp):=match r.1with|true=>a c l r.2|false=>b c l r.2
noncomputable def Yt(C:ab ME)(c:Cx)(l:Loc)(r:V×Hp):ae (V×Hp):=(jo r.1 r.2).bind λb=>match b with|true=>yR C c l r.2|false=>some r
noncomputable def XG(C:ab ME)(c:Cx)(l:Loc)(v:V)(H:Hp)(b:bt):ae (V×Hp):=match b with|true=>yR C c l H|false=>some (v,H)
noncomputable def Ω(C:ab ME)(c:Cx)(l:Loc)(r:V×Hp):ae (V×Hp):=(jo r.1 r.2).bind λb=>match b with|true=>some r|false=>OP C c l r.2
noncomputable def ZC(C:ab ME)(c:Cx)(l:Loc)(v:V)(H:Hp)(b:bt):ae (V×Hp):=match b with|true=>some (v,H)|false=>OP C c l H
end
noncomputable def Xs(C:ab ME)(c:Cx)(l:Loc)(r:V×Hp):ae (ab V×Hp):=(yp C c l r.2).map (OO r.1)
noncomputable def Y1(f:Nat)(r:ab V×Hp):ae (V×Hp):=(iw f r.1 r.2).map (NM r.2)
noncomputable def WW(r:V×Hp):ae (ab D×Hp):=jk r.1 r.2
noncomputable def HU(r:D×Hp):ae (ab D×Hp):=match r.1with|.int n=>if 0<=n/\n<2^20then some ((bz n.toNat).map λ(i:Nat)=>D.int (i:Int),r.2)else none|_=>none
@[simp]theorem QT{n:Nat}(h:n<2^20):HU (.int (n:Int),H)=some ((bz n).map λ(i:Nat)=>D.int (i:Int),H):=by unfold HU;have:(0:Int)<=n/\(n:Int)<2^20:=⟨(cK _),by lia⟩;simp only[this,and_self,adl,acH]
noncomputable def Xw(elt:ME)(tg:Tg)(k:Nat)(cs:ab MT)(c:Cx)(l:Loc)(r:ab D×Hp):ae (V×Hp):=(fa elt tg (gO cs) c r.1 (l++bL k none) r.2).map Wh
variable{t:MT}{O sb:ab MS}
theorem ye:∀{O:ab MS}{l:Loc}{H:Hp},d5 (O++G) c l H=(d5 O c l H).bind λr=>match r.1with|.er=>d5 G c r.2.1 r.2.2|f=>some (f,r.2):=by intro O;induction O with|nil=>intro _ _;exact rfl|cons s O ih=>intro l H;simp only[aaL,d5];cases s c l H with|none=>rfl|some r=>obtain⟨f,e,d⟩:=r;induction f using Fl.casesOn with|er=>exact ih|_=>rfl
noncomputable def XO(G:ab MS)(c:Cx)(r:Fl×Loc×Hp):ae (Fl×Loc×Hp):=match r.1with|.er=>d5 G c r.2.1 r.2.2|f=>some (f,r.2)
noncomputable def Z6(i:Nat)(l:Loc)(r:V×Hp):Fl×Loc×Hp:=(.er,l.set i (some r.1),r.2)
noncomputable def Xl(I:ab Nat)(l:Loc)(r:V×Hp):ae (Fl×Loc×Hp):=match r.1with|.d (.tup Z)=>(iT I Z l).map λl'=>(.er,l',r.2)|_=>none
noncomputable def YU(H:Hp)(l:Loc):Fl×Loc×Hp:=(.er,l,H)
@[simp]theorem SR:iT [] [] l=some l:=rfl
@[simp]theorem Ta:iT (i::I) (x::Z) l=iT I Z (l.set i (some (.d x))):=rfl
noncomputable def Yy(w:V)(i a:Nat)(c:Cx)(l:Loc)(H:Hp)(z:Cell):ae (Fl×Loc×Hp):=match z with|.ins fs=>if(w.plain||decide (c.wm<=i))&&decide (fs.length<100)then some (.er,l,H.set i (.ins (kU a w fs)))else none|_=>none
noncomputable def Vt(w:V)(a:Nat)(c:Cx)(l:Loc)(q:V×Hp):ae (Fl×Loc×Hp):=match q.1with
 |.ins _ i=>match q.2[i]?with|some (.ins fs)=>if(w.plain||decide (c.wm<=i))&&decide (fs.length<100)then some (.er,l,q.2.set i (.ins (kU a w fs)))else none|_=>none
 |_=>none
noncomputable def Yg(o:ME)(a:Nat)(c:Cx)(l:Loc)(r:V×Hp):ae (Fl×Loc×Hp):=(o c l r.2).bind (Vt r.1 a c l)
noncomputable def V5(i:Nat)(l:Loc)(H:Hp)(B:ab (D×D)):Fl×Loc×Hp:=(.er,l,H.set i (.eJ B false))
noncomputable def YB(x y:D)(i:Nat)(l:Loc)(H:Hp)(z:Cell):ae (Fl×Loc×Hp):=match z with|.eJ B false=>if(x.sort.any λk=>eg k B)/\B.length<big then(jN x y B).map (V5 i l H)else none|_=>none
noncomputable def V9(y:D)(v:V)(l:Loc)(p:D×Hp):ae (Fl×Loc×Hp):=match v with
 |.ref i=>match p.2[i]?with|some (.eJ B false)=>if(p.1.sort.any λk=>eg k B)/\B.length<big then(jN p.1 y B).map λd=>(.er,l,p.2.set i (.eJ d false))else none|_=>none
 |_=>none
noncomputable def WJ(y:D)(k:ME)(c:Cx)(l:Loc)(q:V×Hp):ae (Fl×Loc×Hp):=(eD k c l q.2).bind (V9 y q.1 l)
noncomputable def YN(o k:ME)(c:Cx)(l:Loc)(r:D×Hp):ae (Fl×Loc×Hp):=(o c l r.2).bind (WJ r.1 k c l)
noncomputable def RQ(i:Nat)(R:dD)(x:D)(l:Loc)(y:D×Hp):ae (Fl×Loc×Hp):=match R,x,y.1with|.Add,.int a,.int b=>some (.er,l.set i (some (.d (.int (a+b)))),y.2)|_,_,_=>none
noncomputable def Xf(i:Nat)(R:dD)(m:ME)(c:Cx)(l:Loc)(x:D×Hp):ae (Fl×Loc×Hp):=(eD m c l x.2).bind (RQ i R x.1 l)
noncomputable def Xj(l:Loc)(r:V×Hp):ae (Fl×Loc×Hp):=match r.1with|.d x=>if x.flat then some (.er,l,r.2)else none|_=>none
noncomputable def X8(a b:ab MS)(c:Cx)(l:Loc)(r:bt×Hp):ae (Fl×Loc×Hp):=match r.1with|true=>d5 a c l r.2|false=>d5 b c l r.2
@[simp]theorem TC:QC t O sb c l H=(t c l H).bind (X8 O sb c l):=rfl
@[simp]theorem Ts:X8 O sb c l (true,H)=d5 O c l H:=rfl
noncomputable def kFor(tg:Tg)(b:ab MS)(c:Cx)(l:Loc)(r:ab D×Hp):ae (Fl×Loc×Hp):=hH tg (d5 b) c r.1 l r.2
noncomputable def Yn(l:Loc)(r:V×Hp):Fl×Loc×Hp:=(.ret r.1,l,r.2)
noncomputable def TK(tg:Tg)(b:MS)(c:Cx)(Z:ab D)(r:Fl×Loc×Hp):ae (Fl×Loc×Hp):=match r.1with|.er|.cnt=>hH tg b c Z r.2.1 r.2.2|.brk=>some (.er,r.2)|.ret v=>some (.ret v,r.2)
noncomputable def XY(tg:Tg)(b:MS)(c:Cx)(Z:ab D)(H:Hp)(l:Loc):ae (Fl×Loc×Hp):=(b c l H).bind (TK tg b c Z)
@[simp]theorem Xv{b:MS}:hH tg b c [] l H=some (.er,l,H):=rfl
@[simp]theorem z8{b:MS}:hH tg b c (x::Z) l H=(hO tg x l).bind (XY tg b c Z H):=rfl
@[simp]theorem AD{b:MS}:XY tg b c Z H l=(b c l H).bind (TK tg b c Z):=rfl
@[simp]theorem Ru{b:MS}:TK tg b c Z (.er,l,H)=hH tg b c Z l H:=rfl
@[simp]theorem Uw:hO (.one i) x l=some (l.set i (some (.d x))):=rfl
@[simp]theorem UC:hO (.many I) (.tup Z) l=iT I Z l:=rfl
noncomputable def Vy(x:D)(q:ab D×Hp):ab D×Hp:=(x::q.1,q.2)
noncomputable def QQ(elt:ME)(tg:Tg)(cs:MT)(c:Cx)(Z:ab D)(l:Loc)(r:D×Hp):ae (ab D×Hp):=(fa elt tg cs c Z l r.2).map (Vy r.1)
noncomputable def TM(elt:ME)(tg:Tg)(cs:MT)(c:Cx)(Z:ab D)(l:Loc)(b:bt×Hp):ae (ab D×Hp):=match b.1with|true=>(eD elt c l b.2).bind (QQ elt tg cs c Z l)|false=>fa elt tg cs c Z l b.2
noncomputable def XN(elt:ME)(tg:Tg)(cs:MT)(c:Cx)(Z:ab D)(H:Hp)(l:Loc):ae (ab D×Hp):=(cs c l H).bind (TM elt tg cs c Z l)
@[simp]theorem XQ:fa elt tg t c [] l H=some ([],H):=rfl
@[simp]theorem rO:fa elt tg t c (x::Z) l H=(hO tg x l).bind (XN elt tg t c Z H):=by unfold fa;rfl
@[simp]theorem u6:XN elt tg t c Z H l=(t c l H).bind (TM elt tg t c Z l):=rfl
@[simp]theorem Sk:TM elt tg t c Z l (true,H)=(eD elt c l H).bind (QQ elt tg t c Z l):=rfl
@[simp]theorem RZ:TM elt tg t c Z l (false,H)=fa elt tg t c Z l H:=rfl
@[simp]theorem zY:QQ elt tg t c Z l (x,H)=(fa elt tg t c Z l H).map (Vy x):=rfl
end
theorem mq:CJ 136 2 3 rk:=dW (kG 63 2) []
theorem s5:CJ 938 2 2 y5:=dW (fA 162) []
theorem oj:CJ 943 1 7 AF:=dW (fA 163) [(aa "got")]
theorem n9:CJ 249 2 3 zc:=dW (fA 77) []
theorem lT:CJ 270 1 1 vq:=dW (fA 80) []
theorem eH:CJ 256 1 2 sj:=dW (fA 78) []
theorem kq:CJ 263 2 3 sT:=dW (fA 79) []
theorem sN:CJ 277 3 3 s9:=dW (fA 81) []
theorem sF:CJ 284 1 2 HB:=dW (fA 82) []
theorem JV:CJ 289 2 7 oO:=dW (fA 83) []
theorem qU:CJ 957 1 2 yj:=dW (fA 165) [(aa "parts")]
theorem Ae:CI 158 3 3 [(.int 0)] false An:=dW (fA 65) []
theorem zK:CI 166 3 3 [(.int 0)] false zv:=dW (fA 66) []
theorem om:CJ 971 2 2 zN:=dW (fA 167) []
theorem Av:CJ 976 2 2 zI:=dW (fA 168) []
theorem sG:CJ 206 1 3 sE:=dW (fA 72) []
theorem ti:CI 218 7 7 [(.tup []),(.tup []),(.tup []),(.tup []),(.int 0)] false za:=dW (fA 73) []
theorem lZ:CJ 964 1 1 zR:=dW (fA 166) []
theorem u0:CJ 983 2 15 iQ:=dW (fA 169) [(aa "props"),(aa "slots")]
theorem wi:CI 174 3 3 [(.int 0)] false u5:=dW (fA 67) []
theorem w3:CJ 181 2 4 wW:=dW (fA 68) []
theorem qn:CJ 188 2 7 qi:=dW (fA 69) [(aa "out")]
theorem sy:CJ 195 3 8 Aj:=dW (fA 70) [(aa "held")]
theorem j4:CI 201 3 5 [(.int 0)] false iU:=dW (fA 71) []
theorem zH:CJ 990 2 11 yM:=dW (fA 170) [(aa "elems"),(aa "slots")]
theorem iO:CJ 995 2 10 fH:=dW (fA 171) [(aa "types"),(aa "pieces")]
theorem su:CJ 950 1 1 yE:=dW (fA 164) []
theorem l0:CJ 1012 1 5 Az:=dW (fA 174) []
theorem nZ:CJ 1019 3 4 y9:=dW (fA 175) []
theorem g9:CJ 1024 2 4 lA:=dW (fA 176) [(aa "slots")]
theorem Ai:CJ 1031 2 7 nW:=dW (fA 177) [(aa "got")]
theorem vI:CJ 349 2 2 v9:=dW (kG 96 1) []
theorem sC:CJ 586 2 3 FW:=dW (fA 112) []
theorem lu:CJ 645 2 3 p6:=dW (fA 117) []
theorem DJ:CJ 150 2 2 Dy:=dW (fA 64) []
theorem qg:CJ 558 2 6 DB:=dW (fA 107) []
theorem jw:CJ 652 4 7 tU:=dW (fA 118) []
theorem rg:CI 612 1 1 [] true mj:=dW (kG 116 0) []
theorem xb:CJ 631 2 3 w6:=dW (kG 116 3) []
theorem z9:CJ 859 3 3 zt:=dW (fA 148) []
theorem mY:CJ 876 3 5 mR:=dW (fA 151) []
theorem yx:CJ 895 4 5 zJ:=dW (fA 154) []
theorem jH:CJ 902 3 4 hY:=dW (fA 155) []
theorem lp:CJ 923 3 3 p9:=dW (kG 157 1) []
theorem qB:CJ 713 3 4 xy:=dW (fA 127) []
theorem qz:CJ 565 2 3 wH:=dW (fA 108) []
theorem ot:CJ 572 2 2 yF:=dW (fA 109) []
theorem Ab:CJ 619 5 7 Au:=dW (kG 116 1) [(aa "parts")]
theorem lD:CJ 626 5 7 qh:=dW (kG 116 2) []
theorem jh:CJ 678 2 2 qj:=dW (fA 122) []
theorem t7:CJ 685 3 3 tG:=dW (fA 123) []
theorem Df:CJ 294 3 3 C0:=dW (fA 84) []
theorem rn:CJ 657 2 6 ra:=dW (fA 119) []
theorem qI:CJ 664 2 3 wJ:=dW (fA 120) []
theorem mg:CJ 671 2 2 qW:=dW (fA 121) []
theorem lW:CJ 692 2 2 vE:=dW (fA 124) []
theorem gC:CJ 699 5 7 tH:=dW (fA 125) []
theorem lO:CJ 706 3 6 eW:=dW (fA 126) []
theorem pD:CJ 741 6 13 fo:=dW (fA 129) []
theorem ri:CJ 748 4 8 qY:=dW (fA 130) []
theorem tT:CJ 328 2 4 tQ:=dW (fA 92) []
theorem rj:CJ 489 2 2 rp:=dW (kG 97 0) []
theorem w8:CJ 593 1 1 xT:=dW (fA 113) []
theorem p7:CI 727 4 4 [] true lx:=dW (kG 128 0) []
theorem rm:CJ 755 2 6 gu:=dW (fA 131) [(aa "entries")]
theorem sq:CJ 760 1 1 sr:=dW (fA 132) []
theorem lX:CJ 774 3 3 vb:=dW (fA 134) []
theorem qR:CJ 767 4 7 wX:=dW (fA 133) []
theorem jb:CJ 781 5 10 Al:=dW (fA 135) []
theorem xq:CJ 788 4 8 xJ:=dW (fA 136) [(aa "elems")]
theorem ki:CJ 320 2 5 Ft:=dW (fA 88) []
theorem sV:CJ 795 2 2 tx:=dW (fA 137) []
theorem gZ:CJ 800 4 10 nY:=dW (fA 138) []
theorem m9:CJ 814 2 4 x9:=dW (fA 140) []
theorem s8:CJ 543 3 5 Am:=dW (fA 102) []
theorem wL:CJ 835 2 5 x':=dW (fA 143) []
theorem nU:CJ 840 3 12 tI:=dW (fA 144) [(aa "entries")]
theorem lQ:CJ 847 3 9 v5:=dW (fA 145) []
theorem nX:CJ 854 2 4 zL:=dW (fA 146) []
theorem je:CJ 1000 3 3 yu:=dW (fA 172) []
theorem oq:CJ 1007 2 2 zG:=dW (fA 173) []
theorem Ak:CJ 1038 3 7 lV:=dW (fA 178) []
theorem pO:CJ 1043 3 14 Cz:=dW (fA 179) [(aa "rows")]
theorem BQ:CJ 1050 7 12 pK:=dW (fA 180) []
theorem z7:CJ 1055 6 19 fc:=dW (fA 181) []
theorem RV:CJ 1060 1 9 qH:=dW (fA 182) [(aa "feed")]
noncomputable def S(w:W):Str:=⟨w.toArray⟩
noncomputable abbrev sD(w:W):D:=.str (S w)
noncomputable abbrev eF(k:ab W):D:=.lst (k.map sD)
@[simp]theorem Hy:S a=S b↔a=b:=by
 unfold S;constructor;.intro h;injection h with h;simpa using ah Array.toList h
 .intro h;rw[h]
@[simp]theorem Tx:S a++S b=S (a++b):=by show Str.append _ _=_;simp[Str.append,S]
@[simp]theorem BF:(S a).length=a.length:=by simp[S,Str.length]
@[simp]theorem U5:(S a).cps.size=a.length:=by simp[S]
@[simp]theorem Gh:(S a).cps.toList=a:=by simp[S]
@[simp]theorem U0:aa "undefined"=S d6:=by rfl
@[simp]theorem WZ:aa "null"=S gy:=by rfl
@[simp]theorem Vd:aa "string"=S d0:=by rfl
@[simp]theorem UW:aa "number"=S dZ:=by rfl
@[simp]theorem W0:aa "false"=S hK:=by rfl
@[simp]theorem Wc:aa "true"=S i9:=by rfl
@[simp]theorem Ui:aa "\""=S [34]:=by rfl
@[simp]theorem Uu:aa "["=S [91]:=by rfl
@[simp]theorem TT:aa "{"=S [123]:=by rfl
@[simp]theorem Ua:aa ":"=S [58]:=by rfl
@[simp]theorem Uk:aa "?"=S [63]:=by rfl
@[simp]theorem Uy:aa ""=S []:=by rfl
@[simp]theorem Un:aa "..."=S [46,46,46]:=by rfl
noncomputable abbrev BB:W:=[114,101,97,100,111,110,108,121,32]
noncomputable abbrev QH:W:=[109,101,116,104,111,100,32]
@[simp]theorem UG:aa "readonly "=S BB:=by rfl
@[simp]theorem TX:aa "method "=S QH:=by rfl
@[simp]theorem TZ:aa "readonly method "=S (BB++QH):=by rfl
@[simp]theorem TI:aa "P"=S [80]:=by rfl
@[simp]theorem UI:aa "0"=S [48]:=by rfl
@[simp]theorem UJ:aa "1"=S [49]:=by rfl
@[simp]theorem UM:aa "\"a\""=S [34,97,34]:=by rfl
@[simp]theorem TJ:aa "\"b\""=S [34,98,34]:=by rfl
@[simp]theorem Uj:aa "0123456789"=S [48,49,50,51,52,53,54,55,56,57]:=by rfl
section
variable{F:ab Int}{X Y:ab Cell}{n wm:Nat}{H:Hp}{x y:D}{a b:Int}{s u:Str}{w v:W}
@[simp]theorem U3:f6 .Eq x (.d y) H=D.eqv x y:=rfl
@[simp]theorem Vg:f6 .NotEq x (.d y) H=(D.eqv x y).map (!·):=rfl
@[simp]theorem Vu:f6 .Lt (.int a) (.d (.int b)) H=some (decide (a<b)):=rfl
@[simp]theorem Ws:f6 .LtE (.int a) (.d (.int b)) H=some (decide (a<=b)):=rfl
@[simp]theorem WY:f6 .Gt (.int a) (.d (.int b)) H=some (decide (b<a)):=rfl
@[simp]theorem WB:f6 .GtE (.int a) (.d (.int b)) H=some (decide (b<=a)):=rfl
@[simp]theorem V':f6 .In x z H=rE x z H:=rfl
@[simp]theorem UA:f6 .NotIn x z H=(rE x z H).map (!·):=rfl
@[simp]theorem Yx:rE x (.d (.tup Z)) H=D.has x Z:=rfl
@[simp]theorem Zi:rE x (.d (.lst Z)) H=D.has x Z:=rfl
@[simp]theorem Aq:D.eqv (.int a) (.int b)=some (decide (a=b)):=rfl
@[simp]theorem yP:D.eqv (.str s) (.str u)=some (decide (s=u)):=rfl
@[simp]theorem Vv:D.eqv (.tup Z) (.tup ys)=eqvAll (D.k9 59) Z ys:=rfl
@[simp]theorem Qx:eqvAll f [] []=some true:=rfl
@[simp]theorem QJ:eqvAll f [] (x::Z)=some false:=rfl
@[simp]theorem QE:eqvAll f (x::Z) []=some false:=rfl
@[simp]theorem W7:fZ (.d (.tup Z)) (.int a) H=(itemAt Z a).map .d:=rfl
@[simp]theorem Xq:fZ (.d (.lst Z)) (.int a) H=(itemAt Z a).map .d:=rfl
@[simp]theorem V6{k:Nat}:itemAt Z (k:Int)=Z[k]?:=by unfold itemAt;rw[aZ (by lia)];simp
@[simp]theorem VZ:itemAt (x::Z) 0=some x:=rfl
@[simp]theorem Vf:itemAt (x::y::Z) 1=some y:=rfl
@[simp]theorem Wa:itemAt (x::y::z::Z) 2=some z:=rfl
@[simp]theorem UX{w:D}:itemAt (x::y::z::w::Z) 3=some w:=rfl
theorem has_str:∀{k:ab W},D.has (sD w) (k.map sD)=some (decide (w∈k))
 |[]=>rfl|v::k=>by
  simp only[ar,D.has,yP,Hy,has_str (k:=k),af];congr 1;by_cases h:v=w;.subst h;simp
  .have:w≠v:=λe=>h e.symm;simp[h,this]
theorem has_int:∀{k:ab Int},D.has (.int m) (k.map D.int)=some (decide (m∈k))
 |[]=>rfl|v::k=>by
  simp only[ar,D.has,Aq,has_int (k:=k),af];congr 1;by_cases h:v=m;.subst h;simp
  .have:m≠v:=λe=>h e.symm;simp[h,this]
noncomputable abbrev nD(n:Nat):D:=.int (n:Int)
theorem o8{m:Nat}{k:ab Nat}:D.has (.int (m:Int)) (k.map nD)=some (decide (m∈k)):=by have:=has_int (m:=(m:Int)) (k:=k.map (λ(i:Nat)=>(i:Int)));rw[aK]at this;refine this.trans ?_;congr 1;simp only[ag,dq];exact⟨λc=>d9 c λa d e=>((bW.mp ‹_›):a=m)▸d,λh=>⟨m,h,rfl⟩⟩
@[simp]theorem Rx:fZ (.d (.str (S (p::w)))) (.int 0) H=some (.d (.str (S [p]))):=by rfl
theorem MU(t:W)(h:(∀p<128,(cO (S t) (S [p]) 0 (S t).length 1).isEmpty=!decide (p∈t)))(c:p<128):rE (.str (S [p])) (.d (.str (S t))) H=some (decide (p∈t)):=by show(if(S [p]).cps.size=1then some (!(cO (S t) (S [p]) 0 (S t).length 1).isEmpty)else none)=_;rw[aW (show(S [p]).cps.size=1from rfl),h p c,Bool.not_not]
theorem Jj:∀p<128,decide (p∈[48,49,50,51,52,53,54,55,56,57])=decide (48<=p/\p<=57):=by decide+kernel
theorem Sp(c:p<128):rE (.str (S [p])) (.d (.str (S [48,49,50,51,52,53,54,55,56,57]))) H=some (decide (48<=p/\p<=57)):=by rw[MU _ (by decide+kernel) c,Jj p c]
theorem VG(c:p<128):rE (.str (S [p])) (.d (.str (S [48,49]))) H=some (decide (p=48\/p=49)):=by rw[MU _ (by decide+kernel) c];simp
theorem Be:(H++L)[H.length+k]?=L[k]?:=by rw[bk ((aH _ _))];simp
@[simp]theorem fD:(H++z::L)[H.length]?=some z:=by rw[bk ((aV _))];simp
@[simp]theorem SP:(H++z::z1::L)[H.length+1]?=some z1:=Be
@[simp]theorem lr:(H++z::L).set H.length C=H++C::L:=by rw[bT _ _ (by lia)];simp
@[simp]theorem SM:(H++z::z1::L).set (H.length+1) C=H++z::C::L:=by rw[bT _ _ ((aH _ _))];simp
@[simp]theorem RG:(H++L).take H.length=H:=by simp
variable{i:Nat}{Z:ab D}{md:Mode}
theorem jn(h:H[i]?=some (.lst Z md))(m:Nat)(M:mO):iZ M (.ref i) m H=decide (m=100\/m=101\/m=102):=by unfold iZ;dsimp only;rw[h]
theorem TB(h:H[i]?=some (.lst Z md)):rE x (.ref i) H=D.has x Z:=by unfold rE;dsimp only;rw[h]
theorem Fw(h:H[i]?=some (.eJ B z))(hs:(x.sort.any λq=>eg q B)=true):rE x (.ref i) H=(hW x B).map (·.isSome):=by unfold rE;dsimp only;rw[h];exact aW hs
theorem Ha{v:D}(h:H[i]?=some (.eJ B z))(hs:(x.sort.any λq=>eg q B)=true)(c:hW x B=some (some v)):fZ (.ref i) x H=some (.d v):=by unfold fZ;dsimp only;rw[h];dsimp only;rw[aW hs,c]
theorem vH{a:Nat}(h:H[i]?=some (.ins fs)):kA (.ins c i) a H=fs.lookup a:=by unfold kA;dsimp only;rw[h]
theorem RW(h:H[i]?=some (.lst Z md)):jk (.ref i) H=some (Z,H.set i (.lst Z .fz)):=by unfold jk;dsimp only;rw[h]
theorem YF(h:H[i]?=some (.lst Z md)):jB (.ref i) H=some Z:=by unfold jB;dsimp only;rw[h]
theorem Dk{v:D}(h:H[i]?=some (.eJ B false))(hs:(x.sort.any λq=>eg q B)=true)(d:B.length<big)(e:jN x v B=some c):II x v (.ref i) H=some (H.set i (.eJ c false)):=(ah (T7 x v i H) h).trans ((aW ⟨hs,d⟩).trans (ah (cJ _) e))
theorem JP{a:Nat}{v:V}(h:H[i]?=some (.ins fs))(e:(v.plain||decide (wm<=i))=true)(d:fs.length<100):MW wm v a (.ins c i) H=some (H.set i (.ins (kU a v fs))):=(ah (UY wm v a i H) h).trans (aW (bX.mpr ⟨e,aE d⟩))
theorem Lr(h:H[i]?=some (.lst Z md)):toD (.ref i) H=some (.lst Z,H.set i (.lst Z .fz)):=by unfold toD;dsimp only;rw[h]
theorem VX(h:H[i]?=some (.lst Z .own)):ik (.ref i) H=some (.d (.lst Z),H.set i (.lst Z .fz)):=by unfold ik;dsimp only;rw[h]
theorem YA(h:H[i]?=some (.lst Z .fz)):ik (.ref i) H=some (.d (.lst Z),H):=by unfold ik;dsimp only;rw[h]
theorem Vr(h:H[i]?=some (.ins fs)):iZ M (.ins c i) m H=(decide (110<=m)&&(M.lookup (c,m)).isSome):=by unfold iZ;dsimp only;rw[h]
theorem VW(h:H[i]?=some (.eJ B z)):iZ M (.ref i) m H=decide (m=103):=by unfold iZ;dsimp only;rw[h]
theorem P8(h:H[i]?=some (.ins fs))(e:110<=m)(d:M.lookup (cl,m)=some f):fJ M c (.ins cl i) m args H=c.call c.wm f (.ins cl i::args) H:=by unfold fJ;dsimp only;rw[h];dsimp only;rw[aW e,d];rfl
theorem Wr(h:H[i]?=some (.lst Z md))(f:md≠.fz)(e:Z.length+ys.length<=big):fJ M c (.ref i) 101 [.d (.lst ys)] H=some (.d .fS,H.set i (.lst (Z++ys) md)):=by unfold fJ;dsimp only;rw[h];exact aZ λz=>z.elim f λz=>ay z (aai.mpr e)
theorem nz(h:H[i]?=some (.lst Z md))(f:md≠.fz)(e:Z.length<big):fJ M c (.ref i) 100 [.d x] H=some (.d .fS,H.set i (.lst (Z++[x]) md)):=by unfold fJ;dsimp only;rw[h];exact aZ λz=>z.elim f λz=>ay z (ad6.mpr e)
@[simp]theorem Vp:iZ M (.ref H.length) 100 (H++.lst Z md::L)=true:=by rw[jn fD];rfl
theorem v3(e:Z.length<big):fJ M c (.ref H.length) 100 [.d x] (H++.lst Z .own::L)=some (.d .fS,H++.lst (Z++[x]) .own::L):=by rw[nz fD (by decide) e,lr]
@[simp]theorem Wb:rE x (.ref H.length) (H++.lst Z md::L)=D.has x Z:=by unfold rE;dsimp only;rw[fD]
@[simp]theorem QO:jk (.ref H.length) (H++.lst Z md::L)=some (Z,H++.lst Z .fz::L):=by unfold jk;dsimp only;rw[fD];dsimp only;rw[lr]
@[simp]theorem Uc:toD (.ref H.length) (H++.lst Z md::L)=some (.lst Z,H++.lst Z .fz::L):=by unfold toD;dsimp only;rw[fD];dsimp only;rw[lr]
@[simp]theorem UK:ik (.ref H.length) (H++.lst Z .own::L)=some (.d (.lst Z),H++.lst Z .fz::L):=by unfold ik;dsimp only;rw[fD];dsimp only;rw[lr]
theorem Mh:∀{k:ab W},gp jZ (S w) (k.map S)=(gp eG w k).map S
 |[]=>rfl|v::k=>by
  simp only[ar,gp,jZ,Gh];split;.rfl
  .simp only[ar,←Mh]
theorem E3:∀{k:ab W},sortBy jZ (k.map S)=(sortBy eG k).map S|[]=>rfl|v::k=>by simp only[ar,sortBy,E3 (k:=k),Mh]
theorem n3:∀{k:ab W},strsOf (k.map sD)=some (k.map S)|[]=>rfl|v::k=>by simp only[ar,strsOf,n3 (k:=k)];rfl
theorem nr(h:k.length<64):mL (k.map sD)=some ((sortBy eG k).map sD):=by unfold mL;rw[aZ (by simp;omega)];induction k using aS with|nil=>rfl|cons v k=>simp only[show intsOf ((v::k).map sD)=none from rfl,n3];simp only[E3,aK];rfl
theorem vd:iw 201 [.d (.lst Z)] H=(mL Z).map .lst:=rfl
end
section
variable{α:Type}{c:Cx}{b:MS}{tg:Tg}{e:α->D}{elt:ME}{cs:MT}
noncomputable def UN(b:MS)(c:Cx)(H:Hp)(l:Loc):ae (Fl×Loc×Hp):=b c l H
@[simp]theorem U4:UN b c H l=b c l H:=rfl
theorem Ho(h:O.length=1):hO (.one L.length) x (L++O)=some (L++[some (.d x)]):=by match O,h with|[o],_=>dsimp only[hO,Option.some.injEq];rw[bT _ _ ((aV _))];simp
theorem gB(L:Loc)(Z:ab α)(p:α->bt)(g:α->D)(f:∀x∈Z,cs c (L++[some (.d (e x))]) H=some (p x,H))(i:∀x∈Z,p x=true->eD elt c (L++[some (.d (e x))]) H=some (g x,H)):fa elt (.one L.length) cs c (Z.map e) (L++[o]) H=some ((Z.filter p).map g,H):=by
 induction Z generalizing o with
 |nil=>rfl|cons x Z ih=>
  have ih:=ih (λy h=>f y (.tail _ h)) (λy h=>i y (.tail _ h)) (o:=some (.d (e x)));rw[ar,rO,Ho rfl,bj,u6,f x (.head _),bj,cV];have j:=i x (.head _);generalize p x=b at*;rcases b with⟨⟩;.rw[RZ,ih];rfl
  .rw[Sk,j rfl,bj,zY,ih];rfl
theorem fV(L:Loc)(Z:ab α)(g:α->D)(f:∀x∈Z,eD elt c (L++[some (.d (e x))]) H=some (g x,H)):fa elt (.one L.length) (gO []) c (Z.map e) (L++[o]) H=some (Z.map g,H):=by have:=gB (cs:=gO []) L Z (λ_=>true) g (λ_ _=>rfl) (λx i _=>f x i) (o:=o);rwa[aca.mpr (by simp)]at this
theorem uX(hs:hO tg x G=some l)(f:eD elt c l H=some (y,d)):fa elt tg (gO []) c [x] G H=some ([y],d):=by rw[rO,hs,bj,u6];refine Eq.trans (b:=(eD elt c l H).bind (QQ elt tg (gO []) c [] l)) rfl ?_;rw[f];rfl
theorem zu{H:Hp}{tg:Tg}(L:Loc)(g:α->D)(U:α->Loc)(N:∀x y,hO tg (e y) (L++U x)=some (L++U y)):∀(Z:ab α){O:Loc},(∀y,hO tg (e y) (L++O)=some (L++U y))->(∀x∈Z,eD elt c (L++U x) H=some (g x,H))->fa elt tg (gO []) c (Z.map e) (L++O) H=some (Z.map g,H):=by intro Z;induction Z with|nil=>intro O _ _;rfl|cons x Z ih=>intro O f d;rw[ar,rO,f,bj,u6];refine Eq.trans (b:=(eD elt c (L++U x) H).bind (QQ elt tg (gO []) c (Z.map e) (L++U x))) rfl ?_;rw[d x (.head _),bj,zY,ih (N x) λy h=>d y (.tail _ h)];rfl
end
section
variable{α:Type}
theorem gM{b:ab BS}(h:d5 (a.map BS.run) c l H=some (.er,j,X))(k:d5 (b.map BS.run) c j X=r):d5 ((a++b).map BS.run) c l H=r:=by rw[aD,ye,h];exact k
theorem tN{b:ab BS}(h:d5 (a.map BS.run) c l H=some (.er,j,X))(t:(d5 (b.map BS.run) c j X).bind (fin k)=r):(d5 ((a++b).map BS.run) c l H).bind (fin k)=r:=(ah (ck · (fin k)) (gM h rfl)).trans t
theorem mh{call:Nat->Nat->ab V->Hp->ae (V×Hp)}(d:uB J args Z=some U)(c:H.length=k)(h:d5 (a.map BS.run) ⟨call,k⟩ (uD O U) H=some (.er,j,X))(t:(d5 (b.map BS.run) ⟨call,k⟩ j X).bind (fin k)=r):runC call J O Z false (a++b) wm args H=r:=by rw[ir d,c];exact tN h t
theorem BG(h:t.run c l H=some (true,H))(e:d5 (a.map BS.run) c l H=r):d5 ([eu t a []].map BS.run) c l H=r:=by
 refine Eq.trans (b:=(QC t.run (a.map BS.run) [] c l H).bind (XO [] c)) rfl ?_;rw[TC,h,←e];simp only[bj,Ts];rcases d5 (a.map BS.run) c l H with _|⟨f,g,d⟩;.rfl
 .rcases f with⟨⟩<;>rfl
theorem gV{b:ab BS}(hs:hO tg x l=some j)(g:d=.er\/d=.cnt)(e:d5 (b.map BS.run) c j H=some (d,i,f))(k:hH tg (d5 (b.map BS.run)) c Z i f=r):hH tg (d5 (b.map BS.run)) c (x::Z) l H=r:=by rw[z8,hs,bj,AD,e,bj,←k];rcases g with rfl|rfl<;>rfl
theorem oA{b:ab BS}(hs:hO tg x l=some j)(e:d5 (b.map BS.run) c j H=some (.ret v,f,d)):hH tg (d5 (b.map BS.run)) c (x::Z) l H=some (.ret v,f,d):=by rw[z8,hs,bj,AD,e];rfl
theorem MV(h:t.run c l H=some (false,H)):d5 ([eu t a []].map BS.run) c l H=some (.er,l,H):=by refine Eq.trans (b:=(QC t.run (a.map BS.run) [] c l H).bind (XO [] c)) rfl ?_;rw[TC,h];rfl
theorem lM{σ:Type}{b:ab BS}(f:σ->Loc)(g:ab α->Hp)(Z:ab α)(aeb:∀d x r s,Z=d++x::r->∃l s',hO tg (e x) (f s)=some l/\d5 (b.map BS.run) c l (g d)=some (.er,f s',g (d++[x]))){s:σ}{j:Prop}(κ:∀s',hH tg (d5 (b.map BS.run)) c (Z.map e) (f s) (g [])=some (.er,f s',g Z)->j):j:=by
 have i:∀r d s,Z=d++r->∃s',hH tg (d5 (b.map BS.run)) c (r.map e) (f s) (g d)=some (.er,f s',g Z):=by intro r;induction r with|nil=>intro d o h;exact⟨o,by rw[h,aL];rfl⟩|cons x r ih=>intro d o h;refine mn (aeb d x r o h) λl s' m p=>?_;refine(ih (d++[x]) s' (by rw[h,bA];rfl)).elim λq k=>⟨q,?_⟩;rw[ar,z8,m,bj,AD,p,bj,Ru,k]
 exact(i Z [] s rfl).elim κ
theorem nB{b:ab BS}(f:ae V->Loc)(g:ab α->Hp)(Z:ab α)(i:∀x o,hO tg x (f o)=some (f (some (.d x))))(aeb:∀d x r,Z=d++x::r->d5 (b.map BS.run) c (f (some (.d (e x)))) (g d)=some (.er,f (some (.d (e x))),g (d++[x]))){j:Prop}(κ:∀k,hH tg (d5 (b.map BS.run)) c (Z.map e) (f o) (g [])=some (.er,f k,g Z)->j):j:=lM f g Z (λd x r o h=>xA _ _ (i _ _) (aeb d x r h)) κ
end
structure yg where
 n:Nat
 a:Aw
 P:Prop
 p:P
noncomputable def chain:ab yg->Prop->Prop|[],G=>G|s::l,G=>s.P->chain l G
theorem mK:∀{l:ab yg}{G:Prop},chain l G->G:=by intro l;induction l with|nil=>intro _ h;exact h|cons s _ ih=>intro _ h;exact ih (h s.p)
section
variable{R H':Type}{n J O:Nat}{Z:ab D}{b:ab BS}{wm:Nat}{args:ab V}{H X:Hp}{L:ae (V×Hp)}{U:ab V}{k:Nat}{r:V×Hp}{c:Cx}{l j:Loc}{f1:Fl}
noncomputable abbrev dR(i:Nat){x:ae (V×Hp)}{v:V}{H:Hp}(h:x=some (v,H)):yg:=⟨i,.vh v H,_,h⟩
noncomputable abbrev sv(i:Nat){x:ae V}{v:V}(h:x=some v):yg:=⟨i,.v v,_,h⟩
noncomputable abbrev sd(i:Nat){x:ae D}{v:D}(h:x=some v):yg:=⟨i,.d v,_,h⟩
noncomputable abbrev sb(i:Nat){x:ae bt}{v:bt}(h:x=some v):yg:=⟨i,.b v,_,h⟩
noncomputable abbrev Q0(i:Nat){x:ae (D×Hp)}{v:D}{H:Hp}(h:x=some (v,H)):yg:=⟨i,.dh v H,_,h⟩
noncomputable abbrev jY(i:Nat){x:ae (ab D×Hp)}{v:ab D}{H:Hp}(h:x=some (v,H)):yg:=⟨i,.lh v H,_,h⟩
noncomputable abbrev mf(i:Nat){x:ae (Fl×Loc×Hp)}{v:Fl}{l:Loc}{H:Hp}(h:x=some (v,l,H)):yg:=⟨i,.fl v l H,_,h⟩
noncomputable abbrev sh(i:Nat){x:ae Hp}{H:Hp}(h:x=some H):yg:=⟨i,.h H,_,h⟩
noncomputable def Wk(b:ab BS)(n k:Nat)(l:Loc)(H:Hp)(L:ae (V×Hp))(S:ab yg):Prop:=TQ b ⟨cF n,k⟩ l H (S.map λs=>(s.n,s.a)) λd l' H' B=>ask DL (fin k (d,l',H')) B λr _=>L=some r
theorem wk(m:CI f J O Z false b)(o:H.length=k)(S:ab yg)(p:dy (uB J args Z=some U) Rg)(h:dy (Wk b n k (uD O U) H (cF (n+1) wm f args H) S=chain S (cF (n+1) wm f args H=some r)) MQ):cF (n+1) wm f args H=some r:=by subst o;refine mK (l:=S) (h▸xI λq s H' d e=>eY λr g i=>?_);rw[m,ir p,e];exact i
noncomputable def Wq(b:ab BS)(c:Cx)(l:Loc)(H:Hp)(L:ae (Fl×Loc×Hp))(S:ab yg):Prop:=TQ b c l H (S.map λs=>(s.n,s.a)) λd l' H' _=>L=some (d,l',H')
theorem wq{L:ae (Fl×Loc×Hp)}(S:ab yg)(f:dy (L=d5 (b.map BS.run) c l H) Rg)(h:dy (Wq b c l H L S=chain S (L=some (f1,j,X))) MQ):L=some (f1,j,X):=mK (l:=S) (h▸xI λg i H' d e=>by rw[f,e])
theorem wd{L:ae (D×Hp)}(S:ab yg)(f:dy (L=eD m.run c l H) Rg)(h:dy (TD m c l H (S.map λs=>(s.n,s.a)) (λv H' _=>L=some (v,H'))=chain S (L=some (g,X))) MQ):L=some (g,X):=mK (l:=S) (h▸lH λv H' d e=>by rw[f,e])
theorem wb{m:BT}{L:ae (bt×Hp)}(S:ab yg)(f:dy (L=m.run c l H) Rg)(h:dy (m.T c l H (S.map λs=>(s.n,s.a)) (λv H' _=>L=some (v,H'))=chain S (L=some (g,X))) MQ):L=some (g,X):=mK (l:=S) (h▸m.ok λv H' d e=>by rw[f,e])
theorem wf(S:ab yg)(m:dy (L=(d5 (b.map BS.run) c l H).bind (fin k)) Rg)(h:dy (TQ b c l H (S.map λs=>(s.n,s.a)) (λd l' H' B=>ask DL (fin k (d,l',H')) B λr _=>L=some r)=chain S (L=some r)) MQ):L=some r:=mK (l:=S) (h▸xI λd l' H' f e=>eY λr g i=>by rw[m,e];exact i)
end
section
variable{n wm:Nat}{H:Hp}
noncomputable def mG(w:W):Prop:=∃p r,w=p::r/\p<128
noncomputable def QW(H:Hp)(q:D)(o2 Q:ae V):Loc:=[some (.d q),some (.ref H.length),o2,Q,none,none,none]
noncomputable def DO(H:Hp)(R:ab W):Hp:=H++[.lst (R.map sD) .own]
theorem HF(f:R.length<big):d5 (lS.map BS.run) c (QW H q o2 (some (.d (sD w)))) (DO H R)=some (.er,QW H q o2 (some (.d (sD w))),DO H (fh R [w])):=by
 have b:f6 .NotIn (sD w) (.ref H.length) (DO H R)=some (!decide (w∈R)):=by unfold DO;simp[has_str]
 by_cases h:w∈R;.rw[aE h]at b;rw[show fh R [w]=R from aW h];exact wq [sb 1 b]
 .rw[aC h]at b;rw[show fh R [w]=R++[w]from aZ h];have e:fJ dP c (.ref H.length) 100 [.d (sD w)] (DO H R)=some (.d .fS,DO H (R++[w])):=by unfold DO;rw[aD];exact v3 (by rw[ak];exact f)
  exact wq [sb 1 b,sb 1 (show some (iZ dP (.ref H.length) 100 (DO H R))=some true from ah some (jn fD 100 dP)),dR 1 e]
theorem I9(g:R.length+e.length<big){f:Prop}(κ:∀b,hH (.one 3) (d5 (lS.map BS.run)) c (e.map sD) (QW H q o2 Q) (DO H R)=some (.er,QW H q o2 b,DO H (fh R e))->f):f:=nB (QW H q o2) (λd=>DO H (fh R d)) e (λ_ _=>rfl) (λd w r h=>by rw[iJ];refine HF (aj (au jz (cw ?_ _)) g);rw[h,ao];exact aH _ _) κ
section
variable{a0 a2 a3:ae V}{c:Cx}{G:ab W}
theorem HT(H:Hp):fin H.length (.ret (.d x),[],H++Y)=some (.d x,H):=ah (λz=>some (V.d x,z)) aa7
noncomputable def jl(H:Hp)(a0 a2 a3 a4:ae V):Loc:=[a0,some (.ref H.length),a2,a3,a4,none,none]
noncomputable def NY(c:Cx)(l:Loc)(H:Hp):ae (Fl×Loc×Hp):=hH (.one 4) (d5 (l9.map BS.run)) c [.str (S fW),.str (S ea)] l H
theorem Ow:f6 .In (.str (S w)) (.ref H.length) (H++[.lst (G.map sD) md])=some (decide (w∈G)):=(TB fD).trans has_str
theorem V8:jk (.ref H.length) (H++[.lst (G.map sD) .own])=some (G.map sD,H++[.lst (G.map sD) .fz]):=by simp
theorem oQ(h:decide (w∈G)=b):d5 (l9.map BS.run) c (jl H a0 a2 a3 (some (.d (sD w)))) (H++[.lst (G.map sD) .own])=some (bif b then .ret (.d (.lst [sD w]))else .er,jl H a0 a2 a3 (some (.d (sD w))),H++[.lst (G.map sD) .own]):=by
 have e:f6 .In (sD w) (.ref H.length) (H++[.lst (G.map sD) .own])=some b:=Ow.trans (ah some h);rcases b with⟨⟩;.exact wq [sb 1 e]
 .exact wq [sb 1 e]
theorem Z2(h:fW∈G):NY c (jl H a0 a2 a3 none) (H++[.lst (G.map sD) .own])=some (.ret (.d (.lst [sD fW])),jl H a0 a2 a3 (some (.d (sD fW))),H++[.lst (G.map sD) .own]):=oA rfl (oQ (aE h))
theorem Z1(h:fW∉G)(b:ea∈G):NY c (jl H a0 a2 a3 none) (H++[.lst (G.map sD) .own])=some (.ret (.d (.lst [sD ea])),jl H a0 a2 a3 (some (.d (sD ea))),H++[.lst (G.map sD) .own]):=gV rfl (.inl rfl) (oQ (aC h)) (oA rfl (oQ (aE b)))
theorem YC(h:fW∉G)(b:ea∉G):NY c (jl H a0 a2 a3 none) (H++[.lst (G.map sD) .own])=some (.er,jl H a0 a2 a3 (some (.d (sD ea))),H++[.lst (G.map sD) .own]):=gV rfl (.inl rfl) (oQ (aC h)) (gV rfl (.inl rfl) (oQ (aC b)) rfl)
theorem ID:gO [t] c l H=t c l H:=by
 show(t c l H).bind _=_;rcases t c l H with _|⟨b,d⟩;.rfl
 .rcases b with⟨⟩<;>rfl
noncomputable abbrev Bk:BT:=gi [(Di (gi [(TE (dM 5)),(TE (dS .Eq (dQ (dM 7) (dN (.int 0))) (dN (.str (aa "\"")))))])),(Di (gi [(TE (dM 6)),(TE (dS .In (dQ (dM 7) (dN (.int 0))) (dN (.str (aa "0123456789")))))]))]
theorem Sg(i:p<128):Bk.run c [a0,a1,a2,a3,o,some (.d (.bool g)),some (.d (.bool f)),some (.d (sD (p::r)))] H=some (!(g&&decide (p=34))&&!(f&&decide (48<=p/\p<=57)),H):=by
 have b:f6 .Eq (sD [p]) (.d (.str (aa "\""))) H=some (decide (p=34)):=by simp
 have e:f6 .In (sD [p]) (.d (.str (aa "0123456789"))) H=some (decide (48<=p/\p<=57)):=by simp[Sp,i]
 generalize decide (p=34)=x at*;generalize decide (48<=p/\p<=57)=y at*;rcases g with⟨⟩;.
  rcases f with⟨⟩;.exact wb []
  .rcases y with⟨⟩;.exact wb [sb 5 e]
   .exact wb [sb 5 e]
 .rcases x with⟨⟩;.
   rcases f with⟨⟩;.exact wb [sb 4 b]
   .rcases y with⟨⟩;.exact wb [sb 4 b,sb 5 e]
    .exact wb [sb 4 b,sb 5 e]
  .exact wb [sb 4 b]
theorem H7(f:∀w∈G,mG w):fa (dM 7).run (.one 7) (gO ([Bk].map BT.run)) c (G.map sD) ([a0,a1,a2,a3,o,some (.d (.bool (decide (d0∈G)))),some (.d (.bool (decide (dZ∈G))))]++[none]) H=some ((G.filter (qP G)).map sD,H):=by refine gB [_,_,_,_,_,_,_] _ _ sD (λx b=>?_) (λx b _=>rfl);refine mn (f x b) λp r g e=>?_;subst g;rw[(show gO ([Bk].map BT.run) c ([a0,a1,a2,a3,o,some (.d (.bool (decide (d0∈G)))),some (.d (.bool (decide (dZ∈G))))]++[some (.d (sD (p::r)))]) H=Bk.run c [a0,a1,a2,a3,o,some (.d (.bool (decide (d0∈G)))),some (.d (.bool (decide (dZ∈G)))),some (.d (sD (p::r)))] H from ID),(Sg e)];unfold qP;rw[show isLit (p::r)=decide (p=34)from rfl,show i' (p::r)=decide (48<=p/\p<=57)from rfl]
end
theorem vU(j:Z.flatten.length<64)(z:∀k∈Z,∀w∈k,mG w):cF (n+1) wm 943 [.d (.lst (Z.map eF))] H=some (.d (eF (ei Z)),H):=by
 refine lM (b:=oY) (tg:=.one 2) (c:=⟨cF n,H.length⟩) (e:=eF) (σ:=ae V×ae V) (λo=>QW H (.lst (Z.map eF)) o.1 o.2) (λd=>DO H (fh [] d.flatten)) Z (λd x r o t=>?_) (s:=(none,none)) λo p=>?_;.
  have y:(fh [] d.flatten).length+x.length<big:=by rw[t,ab9,abe,ao,ao]at j;refine bM (aj (aaD jz (aH _ r.flatten.length)) ?_) (by decide:64<big);rw[bQ,bS];exact j
  refine I9 (H:=H) (q:=.lst (Z.map eF)) (o2:=some (.d (eF x))) (Q:=o.2) (c:=⟨cF n,H.length⟩) y λA e=>?_;refine xA _ (some (.d (eF x)),A) rfl ?_;rw[ab9,iJ,abe,List.flatten_nil,aL];exact wq [mf 1 e]
 have g:(fh [] Z.flatten).length<64:=by have:=jz (l:=Z.flatten) (R:=[]);simp only[bQ]at this;lia
 have i:∀w∈fh [] Z.flatten,mG w:=λw h=>d9 (ac0.mp ((lq.mp h).resolve_left nofun)) λk j h=>z k j w h;show cF (n+1) wm 943 [.d (.lst (Z.map eF))] H=some (.d (eF (qq (fh [] Z.flatten))),H);generalize fh [] Z.flatten=G at*;by_cases f:fW∈G;.rw[qq,aW f];exact wk oj rfl [mf 2 p,mf 3 (Z2 (c:=⟨cF n,H.length⟩) (a0:=some (.d (.lst (Z.map eF)))) (a2:=o.1) (a3:=o.2) (H:=H) f),dR 0 (HT (x:=(D.lst [sD fW])) (Y:=[.lst (G.map sD) .own]) H)]
 rw[qq,aZ f];by_cases m:ea∈G;.rw[aW m];exact wk oj rfl [mf 2 p,mf 3 (Z1 (c:=⟨cF n,H.length⟩) (a0:=some (.d (.lst (Z.map eF)))) (a2:=o.1) (a3:=o.2) (H:=H) f m),dR 0 (HT (x:=(D.lst [sD ea])) (Y:=[.lst (G.map sD) .own]) H)]
 rw[aZ m];exact wk oj rfl [mf 2 p,mf 3 (YC (c:=⟨cF n,H.length⟩) (a0:=some (.d (.lst (Z.map eF)))) (a2:=o.1) (a3:=o.2) (H:=H) f m),sb 1 (Ow (w:=d0) (md:=.own) (G:=G) (H:=H)),sb 1 (Ow (w:=dZ) (md:=.own) (G:=G) (H:=H)),jY 0 (V8 (G:=G) (H:=H)),jY 0 (H7 (c:=⟨cF n,H.length⟩) (a0:=some (.d (.lst (Z.map eF)))) (a1:=some (.ref H.length)) (a2:=o.1) (a3:=o.2) (o:=some (.d (sD ea))) (H:=H++[.lst (G.map sD) .fz]) i),sd 0 (show iw 201 [.d (.lst ((G.filter (qP G)).map sD))] []=some (eF (sortBy eG (G.filter (qP G))))from vd.trans (ah (cJ D.lst) (nr (aj (aX _ _) g)))),dR 0 (HT (x:=(eF (sortBy eG (G.filter (qP G))))) (Y:=[.lst (G.map sD) .fz]) H)]
end
set_option genCtorIdx true in inductive Row where|key(s:W)|bool(b f:Nat)|str(s:W)|num(n:Nat)|jW(ps:ab Nat)|inter(a b:Nat)|obj(ps:ab (W×Nat×Nat×Nat))(E ni:ae (Nat×Nat))|arr(e ro:Nat)|tup(es:ab (Nat×Nat))(ro:Nat)|param(p:Nat)|ib(t:Nat)|idx(o p:Nat)deriving bD
noncomputable def ke:ae (Nat×Nat)->D|none=>.tup []|some (t,r)=>.tup [nD t,nD r]
noncomputable def mQ(p:W×Nat×Nat×Nat):D:=.tup [sD p.1,nD p.2.1,nD p.2.2.1,nD p.2.2.2]
noncomputable def g8(e:Nat×Nat):D:=.tup [nD e.1,nD e.2]
noncomputable def gF:Row->D|.key s=>.tup [.int 1,sD s]|.bool b f=>.tup [.int 2,nD b,nD f]|.str s=>.tup [.int 3,sD s,.int 0]|.num n=>.tup [.int 4,nD n,.int 0]|.jW ps=>.tup [.int 6,.tup (ps.map nD)]|.inter a b=>.tup [.int 7,.tup [nD a,nD b]]|.obj ps E ni=>.tup [.int 8,.tup (ps.map mQ),.tup [],.tup [],ke E,ke ni,.int 0]|.arr e ro=>.tup [.int 11,nD e,nD ro]|.tup es ro=>.tup [.int 12,.tup (es.map g8),nD ro]|.param p=>.tup [.int 10,nD p]|.ib t=>.tup [.int 14,nD t]|.idx o p=>.tup [.int 15,nD o,nD p]
noncomputable def kc:Row->Nat|.key _=>1|.bool _ _=>2|.str _=>3|.num _=>4|.jW _=>6|.inter _ _=>7|.obj _ _ _=>8|.arr _ _=>11|.tup _ _=>12|.param _=>10|.ib _=>14|.idx _ _=>15
noncomputable def tV:D->Nat|.int i=>i.toNat|_=>0
noncomputable def WI:D->W|.str s=>s.cps.toList|_=>[]
noncomputable def SX:D->ab D|.tup Z=>Z|_=>[]
noncomputable def ou(d:D)(i:Nat):D:=(SX d).getD i .fS
noncomputable def Tf(d:D):ae (Nat×Nat):=bif(SX d).isEmpty then none else some (tV (ou d 0),tV (ou d 1))
noncomputable def Xk(d:D):W×Nat×Nat×Nat:=(WI (ou d 0),tV (ou d 1),tV (ou d 2),tV (ou d 3))
noncomputable def ZK(d:D):Nat×Nat:=(tV (ou d 0),tV (ou d 1))
noncomputable def Xr(d:D):Row:=[.num 0,.key (WI (ou d 1)),.bool (tV (ou d 1)) (tV (ou d 2)),.str (WI (ou d 1)),.num (tV (ou d 1)),.num 0,.jW ((SX (ou d 1)).map tV),.inter (tV (ou (ou d 1) 0)) (tV (ou (ou d 1) 1)),.obj ((SX (ou d 1)).map Xk) (Tf (ou d 4)) (Tf (ou d 5)),.num 0,.param (tV (ou d 1)),.arr (tV (ou d 1)) (tV (ou d 2)),.tup ((SX (ou d 1)).map ZK) (tV (ou d 2)),.num 0,.ib (tV (ou d 1)),.idx (tV (ou d 1)) (tV (ou d 2))].getD (tV (ou d 0)) (.num 0)
theorem zT{b:Type}{f:b->D}{g:D->b}(h:∀a,g (f a)=a)(l:ab b):(l.map f).map g=l:=by rw[aK];exact(bG λa _=>h a).trans (agf l)
theorem Gp:∀i,Tf (ke i)=i:=λi=>by rcases i with _|⟨a,b⟩<;>rfl
theorem EV(r:Row):Xr (gF r)=r:=by
 rcases r with s|⟨b,f⟩|s|n|c|⟨a,b⟩|⟨c,E,i⟩|⟨e,d⟩|⟨g,d⟩|p|t|⟨o,p⟩<;>try rfl
 .exact ah Row.jW (zT (λ_=>rfl) c)
 .show Row.obj ((c.map mQ).map Xk) (Tf (ke E)) (Tf (ke i))=_;rw[zT (λ_=>rfl),Gp,Gp]
 .exact ah (Row.tup · d) (zT (λ_=>rfl) g)
theorem LZ(h:gF r=gF s):r=s:=(EV r).symm.trans ((ah Xr h).trans (EV s))
noncomputable def nice:Nat->D->Prop|0,_=>afz|n+1,.tup Z=>∀x∈Z,nice n x|_+1,.int _=>True|_+1,.str _=>True|_,_=>afz
theorem qC{f:D->D->ae bt}{P:D->Prop}(h:∀x y,P x->P y->∃b,f x y=some b/\(b=true↔x=y)):∀{Z ys:ab D},(∀x∈Z,P x)->(∀y∈ys,P y)->∃b,eqvAll f Z ys=some b/\(b=true↔Z=ys)|[],[],_,_=>⟨true,rfl,by simp⟩|[],_::_,_,_=>⟨false,rfl,by simp⟩|_::_,[],_,_=>⟨false,rfl,by simp⟩|x::Z,y::ys,c,e=>by refine d9 (h x y (c x ((.head _))) (e y ((.head _)))) λb g i=>?_;refine d9 (qC h (Z:=Z) (ys:=ys) (λz l=>c z ((.tail _ ‹_›))) (λz l=>e z ((.tail _ ‹_›)))) λd j k=>?_;exact⟨b&&d,by simp[eqvAll,g,j],by simp[i,k]⟩
theorem uQ:∀(n:Nat)(x y:D),nice n x->nice n y->∃b,D.k9 n x y=some b/\(b=true↔x=y)|0,_,_,h,_=>h.elim|n+1,.tup Z,.tup g,e,f=>by refine d9 (qC (P:=nice n) (uQ n) e f) λb c d=>?_;exact i12 b c (by simp[d])|n+1,.tup Z,.int _,_,_=>⟨false,rfl,by simp⟩|n+1,.tup Z,.str _,_,_=>⟨false,rfl,by simp⟩|n+1,.int _,.tup _,_,_=>⟨false,rfl,by simp⟩|n+1,.str _,.tup _,_,_=>⟨false,rfl,by simp⟩|n+1,.int _,.str _,_,_=>⟨false,rfl,by simp⟩|n+1,.str _,.int _,_,_=>⟨false,rfl,by simp⟩|n+1,.int a,.int b,_,_=>⟨a==b,rfl,by simp⟩|n+1,.str a,.str b,_,_=>⟨a==b,rfl,by simp⟩
theorem bn{b:Type}{P:b->Prop}:∀x∈([]:ab b),P x:=nofun
theorem bc{b:Type}{P:b->Prop}{a:b}{l:ab b}(h:P a)(t:∀x∈l,P x):∀x∈a::l,P x:=λx c=>(af.mp c).elim (λe=>e▸h) (t x)
theorem bm{b c:Type}{P:c->Prop}{f:b->c}(l:ab b)(h:∀a,P (f a)):∀x∈l.map f,P x:=λx d=>(ag.mp d).elim λa e=>e.2▸h a
theorem A0(i:ae (Nat×Nat)):nice 59 (ke i):=by
 rcases i with _|i;.exact bn
 .exact bc bN (bc bN bn)
theorem xm:nice 60 (gF r):=by induction r with|jW c=>exact bc bN (bc (bm c λ_=>bN) bn)|inter a b=>exact bc bN (bc (bc bN (bc bN bn)) bn)|obj c E e=>exact bc bN (bc (bm c λ_=>bc bN (bc bN (bc bN (bc bN bn)))) (bc bn (bc bn (bc (A0 E) (bc (A0 e) (bc bN bn))))))|tup d f=>exact bc bN (bc (bm d λ_=>bc bN (bc bN bn)) (bc bN bn))|key _|param _|ib _=>exact bc bN (bc bN bn)|_=>exact bc bN (bc bN (bc bN bn))
theorem vl:D.eqv (gF r) (gF s)=some (decide (r=s)):=by
 refine d9 (uQ 60 (gF r) (gF s) xm xm) λb c d=>?_;unfold D.eqv;refine sY c ?_;congr 1;by_cases h:r=s;.simp[d,h]
 .have:¬gF r=gF s:=λe=>h (LZ e);simp only[h,decide_false];clear c;induction b using aY with|false=>rfl|true=>exact ay (d.mp rfl) this
noncomputable def As{b:Type}[bD b](r:b):ab b->Nat->ae Nat|[],_=>none|a::l,k=>if a=r then some k else As r l (k+1)
set_option tactic.hygienic true in theorem Gm{α:Type}[bD α]{r:α}:∀{l:ab α}{k i:Nat},As r l k=some i->k<=i/\l[i-k]?=some r:=by
 intro l;induction l with
 |nil=>intro k i h;exact ec h|cons a l ih=>
  intro k i h;unfold As at h;split at h;.refine so h ?_;rename_i e;simp[e]
  .refine lK (ih h) λh1 h2=>?_;refine⟨by lia,?_⟩;have:i-k=(i-(k+1))+1:=by lia
   rw[this];simpa using h2
set_option tactic.hygienic true in theorem lL{α:Type}[bD α]{r:α}:∀{l:ab α}{k:Nat},As r l k=none↔r∉l:=by
 intro l;induction l with
 |nil=>intro k;simp[As]|cons a l ih=>
  intro k;unfold As;split;.rename_i e;simp[e]
  .rename_i e;rw[ih];simp;intro _ h;exact e h.symm
noncomputable def idxOf(T:ab Row):ab (D×D):=T.zipIdx.map λp=>(gF p.1,nD p.2)
theorem FP:∀{T:ab Row}{k:Nat},hW (gF r) ((T.zipIdx k).map λp=>(gF p.1,nD p.2))=some ((As r T k).map nD):=by
 intro T;induction T with
 |nil=>intro k;exact rfl|cons a l ih=>
  intro k;simp only[List.zipIdx_cons,ar,hW,vl,As];by_cases h:a=r;.simp[h]
  .simp[h,ih]
theorem zS:hW (gF r) (idxOf T)=some ((As r T 0).map nD):=FP
theorem wZ:∀{l:ab (D×D)},hW k l=some none->jN k v l=some (l++[(k,v)]):=by intro l;induction l with|nil=>intro _;exact rfl|cons c l ih=>rcases c with⟨a,w⟩;intro h;unfold hW at h;unfold jN;cases d:D.eqv a k with|none=>rw[d]at h;exact ec h|some b=>rw[d]at h;induction b using aY with|true=>cases h|false=>simp only at h;simp[ih h]
theorem ud(h:∀x∈Z,D.kx 5 x=true):D.sort (.tup Z)=some .t:=aW (aA.mpr h)
theorem Bp(h:∀x∈Z,D.kx n x=true):D.kx (n+1) (.tup Z)=true:=aA.mpr h
theorem oy:D.sort (gF r)=some .t:=by
 have c:∀i:ae (Nat×Nat),D.kx 5 (ke i)=true:=λi=>by rcases i with⟨⟩<;>rfl
 induction r with|jW d=>exact ud (bc rfl (bc (Bp (bm d λ_=>rfl)) bn))|inter a b=>exact ud (bc rfl (bc (Bp (bc rfl (bc rfl bn))) bn))|obj d E f=>exact ud (bc rfl (bc (Bp (bm d λ_=>rfl)) (bc rfl (bc rfl (bc (c E) (bc (c f) (bc rfl bn)))))))|tup e g=>exact ud (bc rfl (bc (Bp (bm e λ_=>rfl)) (bc rfl bn)))|key _|param _|ib _=>exact ud (bc rfl (bc rfl bn))|_=>exact ud (bc rfl (bc rfl (bc rfl bn)))
theorem oc:eg .t (idxOf T)=true:=by unfold eg idxOf;rw[ae7,aA];intro x _;simp[oy]
theorem Kp:idxOf (T++[r])=idxOf T++[(gF r,nD T.length)]:=by simp[idxOf,List.zipIdx_append]
noncomputable abbrev d7:V:=.ins 139 1
noncomputable abbrev eb:V:=.ins 926 10
noncomputable def mN(F:ab Int)(T I:ab Row)(X:ab Cell):Hp:=[.lst (F.map .int) .sh,.ins [(0,.ref 2),(13,.ref 3),(2,.ref 4),(3,.ref 5),(4,.ref 6),(5,.ref 7),(6,.ref 8),(7,.ref 9),(8,.d (.int 0)),(9,.d (.int 0))],.lst (T.map gF) .sh,.eJ (idxOf I) false,.lst [.fS] .sh,.lst [.int (-1)] .sh,.lst [.int (-1)] .sh,.lst [.str (aa "P")] .sh,.eJ [] false,.eJ [] false,.ins [(10,.ins 139 1),(16,.d (.int 0)),(17,.d (.int 200)),(18,.d (.int 40))]]++X
noncomputable def hs(F:ab Int)(T:ab Row)(X:ab Cell):Hp:=mN F T T X
section
variable{F:ab Int}{T I:ab Row}{X Y:ab Cell}{n wm:Nat}
@[simp]theorem dT:(hs F T X).length=11+X.length:=by simp[hs,mN];lia
@[simp]theorem Jr:(hs F T (X++Y)).take (11+X.length)=hs F T X:=by simp[hs,mN,aal]
@[simp]theorem jG:(hs F T X).take (11+X.length)=hs F T X:=by simp[hs,mN,aal]
@[simp]theorem WO:hs F T X++Y=hs F T (X++Y):=rfl
theorem Z4:(hs F T X)[0]?=some (.lst (F.map .int) .sh):=rfl
theorem Tn:(mN F T I X)[2]?=some (.lst (T.map gF) .sh):=rfl
theorem Mo:(mN F T I X)[3]?=some (.eJ (idxOf I) false):=rfl
theorem yA:(hs F T X)[11+k]?=X[k]?:=by show([_,_,_,_,_,_,_,_,_,_,_]++X)[11+k]?=_;rw[bk (by simp)];simp
theorem vC:(hs F T X).set (11+k) c=hs F T (X.set k c):=by show([_,_,_,_,_,_,_,_,_,_,_]++X).set (11+k) c=_;rw[bT _ _ (by simp)];simp[hs,mN]
@[simp]theorem P9{t:Nat}:fZ (.ref 2) (.int t) (hs F T X)=(T[t]?).map λr=>.d (gF r):=by show(itemAt (T.map gF) t).map V.d=_;unfold itemAt;rw[aZ (by lia)];simp[a9]
variable{H:Hp}
@[simp]theorem BH:fZ (.d (gF r)) (.int 0) H=some (.d (.int (kc r))):=by rcases r with⟨⟩<;>rfl
noncomputable abbrev Runs(d f:Nat)(args:ab V)(T:ab Row)(r:V)(T':ab Row):Prop:=∀(n wm:Nat)(F:ab Int)(X:ab Cell),cF (n+d) wm f args (hs F T X)=some (r,hs F T' X)
noncomputable def fL(T:ab Row)(r:Row):Nat:=(As r T 0).getD T.length
noncomputable def fj(T:ab Row)(r:Row):ab Row:=if r∈T then T else T++[r]
theorem Ol:rE (gF r) (.ref 3) (mN F T I X)=some (decide (r∈I)):=by
 rw[Fw Mo (by rw[oy,abS,oc]),zS,abJ];congr 1;cases h:As r I 0with
 |none=>simp[lL.mp h]|some i=>
  have:¬As r I 0=none:=by rw[h];simp
  rw[lL]at this;simpa using this
theorem KZ(h:As r I 0=some i):fZ (.ref 3) (gF r) (mN F T I X)=some (.d (nD i)):=by unfold fZ;dsimp only;rw[Mo];dsimp only;rw[oy,abS,oc,aW rfl,zS,h];rfl
theorem qw(h:T.length<big):Runs 1 136 [d7,.d (gF r)] T (.d (nD (fL T r))) (fj T r):=by
 intro n wm F X;unfold fL fj;have c:f6 .In (gF r) (.ref 3) (hs F T X)=some (decide (r∈T)):=Ol (F:=F) (T:=T) (X:=X);by_cases b:r∈T;.
  rw[aE b]at c;rcases e:As r T 0with _|i;.exact ay b (lL.mp e)
  have j:fZ (.ref 3) (gF r) (hs F T X)=some (.d (nD i)):=KZ e;rw[aW b];have f:fin (11+X.length) (.ret (.d (nD i)),[],hs F T X)=some (.d (nD i),hs F T X):=ah (λz=>some (V.d (nD i),z)) jG;show cF (n+1) wm 136 [d7,.d (gF r)] (hs F T X)=some (.d (nD i),hs F T X);exact wk mq dT [sb 2 c,sv 3 j,dR 0 f]
 .rw[aC b]at c;have g:=(lL (k:=0)).mpr b;have l:fJ dP ⟨cF n,11+X.length⟩ (.ref 2) 100 [.d (gF r)] (hs F T X)=some (.d .fS,mN F (T++[r]) T X):=by rw[nz rfl (by decide) (by simpa using h)];simp[hs,mN]
  have m:II (gF r) (nD T.length) (.ref 3) (mN F (T++[r]) T X)=some (hs F (T++[r]) X):=by
   have o:jN (gF r) (nD T.length) (idxOf T)=some (idxOf (T++[r])):=by simp only[wZ (by rw[zS,g];rfl),Kp]
   exact Dk rfl (by rw[oy,abS,oc]) (by simpa[idxOf]using h) o
  rw[aZ b,g];have f:fin (11+X.length) (.ret (.d (nD T.length)),[],hs F (T++[r]) X)=some (.d (nD T.length),hs F (T++[r]) X):=ah (λz=>some (V.d (nD T.length),z)) jG;show cF (n+1) wm 136 [d7,.d (gF r)] (hs F T X)=some (.d (nD T.length),hs F (T++[r]) X);exact wk mq dT [sb 2 c,sd 2 (show iw 200 [.ref 2] (hs F T X)=some (nD T.length)from by simp[iw,t5,J7,jB,hs,Tn]),dR 3 l,sh 3 m,dR 0 f]
structure Good(k:Nat)(T:ab Row):Prop where
 pre:[.key fW,.key ea,.key fF,.key [118,111,105,100],.key d6,.key gy,.key d0,.key dZ,.bool 0 0,.bool 1 0,.key [111,98,106,101,99,116],.obj [] none none,.jW [8,9],.key [101,114,114,111,114],.bool 0 1,.bool 1 1,.param 0]<+:T
 nd:T.Nodup
 sz:T.length+k<=big
theorem Good.le(h:Good k T)(e:j<=k):Good j T:=⟨h.pre,h.nd,by have:=h.sz;lia⟩
theorem fQ(h:T<+:A){i:Nat}(e:T[i]?=some r):A[i]?=some r:=by
 obtain⟨Z,rfl⟩:=h;have b:i<T.length:=by
  rcases df i T.length with q|q;.exact q
  .rw[b6 q]at e;exact ec e
 rw[aU b,e]
theorem Good.at{i:Nat}(h:Good k T)(e:[Row.key fW,.key ea,.key fF,.key [118,111,105,100],.key d6,.key gy,.key d0,.key dZ,.bool 0 0,.bool 1 0,.key [111,98,106,101,99,116],.obj [] none none,.jW [8,9],.key [101,114,114,111,114],.bool 0 1,.bool 1 1,.param 0][i]?=some r):T[i]?=some r:=fQ h.pre e
theorem gL(e:T[i]?=some r):i<T.length:=by
 rcases df i T.length with q|q;.exact q
 .rw[b6 q]at e;exact ec e
theorem Pj(h:T.Nodup){j:Nat}(b:T[i]?=some r)(c:T[j]?=some r):i=j:=(List.getElem?_inj (gL b) h).mp (b.trans c.symm)
theorem Good.id{j:Nat}(h:Good k T)(b:T[i]?=some r)(c:T[j]?=some r):i=j:=Pj h.nd b c
theorem eh:T<+:fj T r:=by
 unfold fj;split;.exact aq _
 .exact⟨[r],rfl⟩
theorem gr:(fj T r)[fL T r]?=some r:=by
 unfold fj fL;by_cases h:r∈T;.cases e:As r T 0with|none=>exact ay h (lL.mp e)|some i=>simpa[h]using(Gm e).2
 .rw[aZ h,lL.mpr h];simp
set_option tactic.hygienic true in theorem Good.put{k:Nat}{r:Row}(h:Good (k+1) T):Good k (fj T r):=by
 refine⟨h.pre.trans eh,?_,?_⟩;.
  unfold fj;split;.exact h.nd
  .rename_i hn;refine a8.mpr ⟨h.nd,by simp,?_⟩;intro a ha b hb e;replace hb:=kE hb;exact hn (hb▸e▸ha)
 .have:=h.sz;unfold fj;split;.lia
  .simp;lia
theorem Good.lt(h:Good (k+1) T):T.length<big:=by have:=h.sz;lia
end
section
variable(F:ab Int){T:ab Row}(X Y:ab Cell){H:Hp}(z:Cell)(x:D){l:Loc}{a b:Int}{k:Nat}{r:Row}
theorem iD(T:ab Row):mB (hs F T X) z=some (.ref (11+X.length),hs F T (X++[z])):=by simp[mB]
theorem dU(T:ab Row):fin (11+X.length) (.ret (.d x),[],hs F T X)=some (.d x,hs F T X):=ah (λz=>some (V.d x,z)) jG
theorem KA(T:ab Row):fin (11+X.length) (.er,[],hs F T X)=some (.d .fS,hs F T X):=ah (λz=>some (V.d .fS,z)) jG
theorem vJ(H:Hp):fin H.length (.ret (.d x),[],H++Y)=some (.d x,H):=ah (λz=>some (V.d x,z)) aa7
theorem i0(T:ab Row):fin (11+X.length) (.ret (.d x),[],hs F T (X++Y))=some (.d x,hs F T X):=ah (λz=>some (V.d x,z)) Jr
theorem eT(H:Hp):fin H.length (.ret (.d x),[],H)=some (.d x,H):=ah (λz=>some (V.d x,z)) List.take_length
theorem eA(h:¬a=b):f6 .Eq (.int a) (.d (.int b)) []=some false:=by simp[h]
theorem SV(h:a=b):f6 .Eq (.int a) (.d (.int b)) []=some true:=by simp[h]
theorem E9(h:¬a=b):f6 .NotEq (.int a) (.d (.int b)) []=some true:=by simp[h]
theorem hJ{a b:Nat}(h:a≠b):¬(a:Int)=(b:Int):=λe=>h (cP e)
theorem A3{a b:Nat}:f6 .Eq (nD a) (.d (nD b)) []=some (decide (a=b)):=by
 by_cases h:a=b;.rw[aE h];exact SV (ah _ h)
 .rw[aC h];exact eA (hJ h)
theorem tX(h:a<b):f6 .Lt (.int a) (.d (.int b)) []=some true:=by simp[h]
theorem tB(h:¬a<b):f6 .Lt (.int a) (.d (.int b)) []=some false:=by simp[h]
theorem F3{f:Int->ae c}:nK (.int n) f=f n:=rfl
theorem Ga{n:Nat}(h:n<2^20):(0:Int)<=n/\(n:Int)<2^20:=⟨(cK _),by lia⟩
theorem iB{n:Nat}(h:n<2^20)(H:Hp):sO (.int (n:Int)) H=some ((bz n).map λ(i:Nat)=>D.int (i:Int),H):=by unfold sO;rw[F3,aW (Ga h),acH]
theorem fR(h:T[k]?=some r):fZ (.ref 2) (nD k) (hs F T X)=some (.d (gF r)):=by simp[h]
end
section
variable{F:ab Int}{T:ab Row}{X Y L:ab Cell}{n wm:Nat}{H:Hp}{z z1 C:Cell}
@[simp high]theorem gq:(hs F T (X++z::L))[11+X.length]?=some z:=by rw[yA];simp
@[simp high]theorem qJ:(hs F T (X++z::z1::L))[11+(X.length+1)]?=some z1:=by rw[yA];rw[bk ((aH _ _))];simp
@[simp high]theorem nO:(hs F T (X++z::L)).set (11+X.length) C=hs F T (X++C::L):=by rw[vC,bT _ _ ((aV _))];simp
@[simp high]theorem AR:(hs F T (X++z::z1::L)).set (11+(X.length+1)) C=hs F T (X++z::C::L):=by rw[vC,bT _ _ (by lia)];simp
noncomputable def parts(T:ab Row)(t:Nat):ab Nat:=if t=2then[]else match T[t]?with|some (.jW ps)=>ps|_=>[t]
set_option tactic.hygienic true in theorem nG{t:Nat}(h:t<T.length):Runs 1 249 [d7,.d (nD t)] T (.d (.tup ((parts T t).map nD))) T:=by
 intro n wm F X;by_cases h2:t=2;.subst h2;exact wk n9 dT [dR 3 (dU F X (D.tup []) T)]
 .have Ya:¬(t:Int)=2:=by lia
  have hr:=aw h;refine sY (show parts T t=_ from aZ h2) ?_;generalize T[t]=r at hr;refine sY hr ?_;by_cases hk:(kc r:Int)=6;.
   rcases r with⟨⟩<;>first|exact fO (aE hk)|skip
   rename_i ps;exact wk n9 dT [sb 1 (eA Ya),sv 3 (fR F X hr),dR 7 (dU F X (D.tup (aap nD ps)) T)]
  .rw[show(match some r with|some (.jW ps)=>ps|_=>[t])=[t]by rcases r with⟨⟩<;>first|rfl|exact ay rfl hk];exact wk n9 dT [sb 1 (eA Ya),sv 3 (fR F X hr),sv 1 (BH (r:=r) (H:=hs F T X)),sb 1 (eA hk),dR 2 (dU F X (D.tup [nD t]) T)]
noncomputable def Ug:Row->Int|.str _=>6|.num _=>7|_=>-1
theorem vw:cF (n+1) wm 256 [.d (gF r)] H=some (.d (.int (Ug r)),H):=by
 rcases r with⟨⟩;.exact wk eH rfl [dR 14 (eT (D.int (-1)) H)]
 .exact wk eH rfl [dR 14 (eT (D.int (-1)) H)]
 .exact wk eH rfl [dR 5 (eT (D.int 6) H)]
 .exact wk eH rfl [dR 11 (eT (D.int 7) H)]
 .exact wk eH rfl [dR 14 (eT (D.int (-1)) H)]
 .exact wk eH rfl [dR 14 (eT (D.int (-1)) H)]
 .exact wk eH rfl [dR 14 (eT (D.int (-1)) H)]
 .exact wk eH rfl [dR 14 (eT (D.int (-1)) H)]
 .exact wk eH rfl [dR 14 (eT (D.int (-1)) H)]
 .exact wk eH rfl [dR 14 (eT (D.int (-1)) H)]
 .exact wk eH rfl [dR 14 (eT (D.int (-1)) H)]
 .exact wk eH rfl [dR 14 (eT (D.int (-1)) H)]
theorem N9(h:T[t]?=some r)(c:∀b,r≠.bool b 1):Runs 1 263 [d7,.d (nD t)] T (.d (.int (-1))) T:=by
 intro n wm F X;induction r using Row.casesOn with
 |bool b f=>
  have g:¬f=1:=λe=>c b ((sZ e rfl));have:¬(f:Int)=1:=by lia
  exact wk kq dT [sv 2 (fR F X h),sb 8 (eA this),dR 1 (dU F X (D.int (-1)) T)]|_=>first|exact wk kq dT [sv 2 (fR F X h),dR 5 (dU F X (D.int (-1)) T)] (h:=by kernel_rfl!)|exact wk kq dT [sv 2 (fR F X h),dR 10 (dU F X (D.int (-1)) T)]
noncomputable def gD(R:ab Nat):ab (D×D):=R.map λq=>(nD q,.int 1)
theorem G9:∀{R:ab Nat},hW (nD q) (gD R)=some (if q∈R then some (.int 1)else none)
 |[]=>rfl|a::R=>by
  have ih:=G9 (q:=q) (R:=R);unfold gD at ih⊢;rw[ar,hW,Aq,ih];by_cases h:a=q;.simp[h]
  .simp[(show¬q=a fromλe=>h e.symm),(show¬(a:Int)=q from by lia)]
theorem Gd:∀{R:ab Nat},jN (nD q) (.int 1) (gD R)=some (gD (if q∈R then R else R++[q]))
 |[]=>rfl|a::R=>by
  have ih:=Gd (q:=q) (R:=R);unfold gD at ih⊢;rw[ar,jN,Aq,ih];by_cases h:a=q;.simp[h]
  .have b:¬q=a:=λe=>h e.symm;simp[b,(show¬(a:Int)=q from by lia)];split<;>simp
theorem oP:eg .i (gD R)=true:=by simp[eg,gD,D.sort]
theorem PY:rE (nD q) (.ref (11+X.length)) (hs F T (X++.eJ (gD R) false::L))=some (decide (q∈R)):=by rw[Fw (x:=nD q) gq oP,G9,abJ];by_cases h:q∈R<;>simp[h]
theorem MP(b:q<0):rE (.int q) (.ref (11+X.length)) (hs F T (X++.eJ (gD R) false::L))=some false:=by
 have:∀g:ab Nat,hW (.int q) (gD g)=some none:=by
  intro g;induction g with
  |nil=>rfl|cons a g ih=>
   unfold gD at ih⊢;have:¬(a:Int)=q:=by lia
   simp[hW,this,ih]
 rw[Fw (x:=.int q) gq oP,this];rfl
noncomputable def uH(F:ab Int)(T:ab Row)(X:ab Cell)(R:ab Nat):Hp:=hs F T (X++[.eJ (gD R) false])
theorem gI(F:ab Int)(T:ab Row)(X:ab Cell)(h:decide (q∈R)=b):f6 .In (nD q) (.ref (11+X.length)) (uH F T X R)=some b:=(PY).trans (ah some h)
theorem Pe:(gD R).length=R.length:=ak _
theorem N0(b:R.length<big):II (nD q) (.int 1) (.ref (11+X.length)) (uH F T X R)=some (uH F T X (fh R [q])):=(Dk (H:=uH F T X R) (x:=nD q) gq oP (Pe▸b) Gd).trans (ah some nO)
theorem N8(F:ab Int)(T:ab Row)(X:ab Cell)(R:ab Nat)(d:D):fin (11+(X.length+1)) (.ret (.d d),[],uH F T X R)=some (.d d,uH F T X R):=by have:=dU F (X++[.eJ (gD R) false]) d T;rwa[ao]at this
theorem J9(F:ab Int)(T:ab Row)(X:ab Cell)(R:ab Nat):fin (11+(X.length+1)) (.er,[],uH F T X R)=some (.d .fS,uH F T X R):=by have:=KA F (X++[.eJ (gD R) false]) T;rwa[ao]at this
theorem pR:(uH F T X R).length=11+(X.length+1):=by unfold uH;rw[dT,ao];rfl
theorem KD(c:14∉R)(e:15∉R)(i:R.length<big):cF (n+1) wm 270 [.ref (11+X.length)] (uH F T X R)=some (.d .fS,uH F T X R):=by
 have b:=J9 F T X R;by_cases f:8∈R;.
  have Z:=gI F T X (aE f);by_cases g:9∈R;.have l:=gI F T X (aE g);have j:=N0 (F:=F) (T:=T) (X:=X) (q:=8) i;have k:=N0 (F:=F) (T:=T) (X:=X) (q:=9) i;rw[show fh R [8]=R from aW f]at j;rw[show fh R [9]=R from aW g]at k;exact wk lT pR [sb 1 Z,sb 2 l,sh 3 j,sh 2 k,dR 0 b]
  .exact wk lT pR [sb 1 Z,sb 2 (gI F T X (aC g)),sb 2 (gI F T X (aC e)),dR 1 b]
 .have Z:=gI F T X (aC f);exact wk lT pR [sb 1 Z,sb 2 (gI F T X (aC c)),dR 1 b]
noncomputable def Kv(R:ab Nat):Int:=if 0∈R then 0 else if 1∈R then 1 else-1
theorem Hq(h:decide (q∈R)=b):d5 (sa.map BS.run) c [some (.ref (11+X.length)),some (.d (nD q))] (uH F T X R)=some (bif b then .ret (.d (nD q))else .er,[some (.ref (11+X.length)),some (.d (nD q))],uH F T X R):=by
 have a:=gI F T X h;rcases b with⟨⟩;.exact wq [sb 1 a]
 .exact wq [sb 1 a]
theorem RC(k:13∉R):cF (n+1) wm 284 [.ref (11+X.length)] (uH F T X R)=some (.d (.int (Kv R)),uH F T X R):=by
 have t:=λ{q b}=>Hq (F:=F) (T:=T) (X:=X) (q:=q) (R:=R) (b:=b) (c:=⟨cF n,11+(X.length+1)⟩);have j:=λd=>N8 F T X R d;unfold Kv;by_cases g:0∈R;.rw[aW g];have f:=oA (tg:=.one 1) (Z:=[.int 13,.int 1]) (l:=[some (.ref (11+X.length)),none]) rfl (t (aE g));exact wk sF pR [mf 4 f,dR 0 (j (.int 0))]
 .rw[aZ g];have m:=t (aC g);have e:=t (aC k);by_cases i:1∈R;.rw[aW i];have f:=gV (tg:=.one 1) (l:=[some (.ref (11+X.length)),none]) rfl (.inl rfl) m (gV rfl (.inl rfl) e (oA (Z:=[]) rfl (t (aE i))));exact wk sF pR [mf 4 f,dR 0 (j (.int 1))]
  .rw[aZ i];have f:=gV (tg:=.one 1) (l:=[some (.ref (11+X.length)),none]) rfl (.inl rfl) m (gV rfl (.inl rfl) e (gV (Z:=[]) rfl (.inl rfl) (t (aC i)) rfl));exact wk sF pR [mf 4 f,dR 0 (j (.int (-1)))]
noncomputable def stays(T:ab Row)(R:ab Nat)(q:Nat):bt:=match T[q]?with|some (.str _)=>decide (6∉R)|some (.num _)=>decide (7∉R)|_=>true
theorem KQ(h:T[q]?=some r)(c:∀b,r≠.bool b 1):cF (n+2) wm 277 [d7,.ref (11+X.length),.d (nD q)] (hs F T (X++[.eJ (gD R) false]))=some (.d (.bool (stays T R q)),hs F T (X++[.eJ (gD R) false])):=by
 have f:=N9 h c;have g:f6 af5 (.int (Ug r)) (.ref (11+X.length)) (hs F T (X++[.eJ (gD R) false]))=some (stays T R q):=by have e:∀{P:Prop}[dH P],some (!decide P)=some (decide ¬P):=ah some decide_not.symm;simp only[stays,h];clear h c f;rcases r with⟨⟩<;>first|exact ah (cJ (!·)) (MP (q:=-1) (by decide))|exact(ah (cJ (!·)) (PY (q:=6))).trans e|exact(ah (cJ (!·)) (PY (q:=7))).trans e
 exact wk sN dT [dR 2 (f n (11+(X++[Cell.eJ (gD R) false]).length) F (X++[Cell.eJ (gD R) false])),sb 1 (show f6 CmpOp.In (D.int (-1)) (V.ref (11+X.length)) (hs F T (X++[Cell.eJ (gD R) false]))=some false from MP (by decide)),sv 3 (fR F (X++[Cell.eJ (gD R) false]) h),dR 1 (vw (n:=n) (wm:=11+(X++[Cell.eJ (gD R) false]).length) (r:=r) (H:=hs F T (X++[Cell.eJ (gD R) false]))),sb 1 g,dR 0 (dU F (X++[Cell.eJ (gD R) false]) (.bool (stays T R q)) T)]
noncomputable def wj(l:ab Nat):ab Nat:=sortBy (λa b=>decide (a<=b)) l
theorem Mu{a:Nat}:∀{l:ab Nat},gp (λa b=>decide (a<=b)) (a:Int) (l.map λ(i:Nat)=>(i:Int))=(gp (λa b=>decide (a<=b)) a l).map λ(i:Nat)=>(i:Int)
 |[]=>rfl|b::l=>by
  simp only[ar,gp,ba,abT];split;.rfl
  .simp only[ar,←Mu]
theorem D4:∀{l:ab Nat},sortBy (λa b=>decide (a<=b)) (l.map λ(i:Nat)=>(i:Int))=(wj l).map λ(i:Nat)=>(i:Int)|[]=>rfl|b::l=>by rw[ar,sortBy];rw[D4 (l:=l),Mu];rfl
theorem sA:∀{l:ab Nat},intsOf (l.map nD)=some (l.map λ(i:Nat)=>(i:Int))|[]=>rfl|v::l=>by simp only[ar,intsOf,sA (l:=l)];rfl
theorem Cj(h:l.length<64):mL (l.map nD)=some ((wj l).map nD):=by
 have b:¬64<=(l.map nD).length:=by simp;omega
 unfold mL;rw[aZ b,sA];simp only[D4,aK];rfl
theorem rV:x∈wj l↔x∈l:=hX
theorem GC:(wj l).length=l.length:=mb
noncomputable def mi(T:ab Row)(R:ab Nat):ab Nat:=(wj R).filter (stays T R)
noncomputable def tJ(T:ab Row)(R:ab Nat):Nat×ab Row:=if 0∈R then(0,T)else if 1∈R then(1,T)else match mi T R with|[]=>(2,T)|[x]=>(x,T)|I=>(fL T (.jW I),fj T (.jW I))
noncomputable def uL(x:D)(i:Nat)(Q Z N O:ae V):Loc:=[some d7,some (.d x),some (.ref (11+i)),Q,Z,N,O]
theorem FG(e:R.length+ps.length<big){b:Prop}(κ:∀g,hH (.one 4) (d5 (uO.map BS.run)) c (ps.map nD) (uL x X.length (some (.d (nD t))) Z none none) (uH F T X R)=some (.er,uL x X.length (some (.d (nD t))) g none none,uH F T X (fh R ps))->b):b:=by
 refine nB (λo=>uL x X.length (some (.d (nD t))) o none none) (λd=>uH F T X (fh R d)) ps (λ_ _=>rfl) (λd q r h=>?_) κ;have f:(fh R d).length<big:=by refine aj (au jz (cw ?_ _)) e;rw[h,ao];exact aH _ _
 rw[iJ];exact wq [sh 2 (N0 (F:=F) (T:=T) (X:=X) (q:=q) f)]
noncomputable def tp(x:D)(Z:ab D):Prop:=x=.tup Z\/x=.lst Z
theorem W8(h:tp x Z)(H:Hp):jk (.d x) H=some (Z,H):=by rcases h with rfl|rfl<;>rfl
theorem OR(j:∀q∈R,∃r,T[q]?=some r/\(∀b,r≠.bool b 1)):fa (dM 7).run (.one 7) (gO ([TE (dO 277 [dM 0,dM 2,dM 7])].map BT.run)) ⟨cF (n+2),11+X.length⟩ ((wj R).map nD) [some d7,some (.d x),some (.ref (11+X.length)),Q,Z,N,none,none] (uH F T X R)=some ((mi T R).map nD,uH F T X R):=by
 have e:ik (.ref (11+X.length)) (uH F T X R)=some (.ref (11+X.length),uH F T X R):=by unfold uH;simp[ik]
 refine gB [_,_,_,_,_,_,_] _ _ nD (λq c=>?_) λq c _=>rfl;refine d9 (j q (rV.mp c)) λr g i=>?_;have f:=KQ (F:=F) (X:=X) (n:=n) (wm:=11+X.length) (R:=R) g i;generalize stays T R q=b at*;rcases b with⟨⟩;.exact(show(gi [TE (dO 277 [dM 0,dM 2,dM 7])]).run _ _ _=_ from wb [dR 1 e,dR 1 f])
 .exact(show(gi [TE (dO 277 [dM 0,dM 2,dM 7])]).run _ _ _=_ from wb [dR 1 e,dR 1 f])
theorem A6{ts:ab Nat}(hx:tp x (ts.map nD))(ht:∀t∈ts,t<T.length)(B:∀q∈ts.flatMap (parts T),∃r,T[q]?=some r/\(∀b,r≠.bool b 1))(i:13∉ts.flatMap (parts T))(k:14∉ts.flatMap (parts T))(l:15∉ts.flatMap (parts T))(G:(ts.flatMap (parts T)).length<64)(hT:T.length<big):Runs 3 289 [d7,.d x] T (.d (nD (tJ T (fh [] (ts.flatMap (parts T)))).1)) (tJ T (fh [] (ts.flatMap (parts T)))).2:=by
 intro n wm F X;have U:∀{a:Nat},a<64->a<big:=λh=>bM h (by decide);refine lM (b:=uV) (tg:=.one 3) (c:=⟨cF (n+2),11+X.length⟩) (e:=nD) (σ:=ae V×ae V) (λo=>uL x X.length o.1 o.2 none none) (λd=>uH F T X (fh [] (d.flatMap (parts T)))) ts (λd t r o O=>?_) (s:=(none,none)) λo m=>?_;.
  have hb:(fh [] (d.flatMap (parts T))).length+(parts T t).length<big:=by rw[O,b4,cB,ao,ao]at G;refine U (aj (aaD jz (aH _ ((r.flatMap (parts T)).length))) ?_);rw[bQ,bS];exact G
  have hp:=nG (ht t (eL O (aN _ (.head _)))) (n+1) (11+X.length) F (X++[.eJ (gD (fh [] (d.flatMap (parts T)))) false]);refine FG (F:=F) (T:=T) (X:=X) (x:=x) (t:=t) (Z:=o.2) (c:=⟨cF (n+2),11+X.length⟩) hb λo' e=>?_;refine xA _ (some (.d (nD t)),o') rfl ?_;rw[b4,iJ,cB,aag,aL];exact wq [dR 2 hp,mf 1 e]
 have A:∀q,q∈fh [] (ts.flatMap (parts T))->q∈ts.flatMap (parts T):=λq h=>(lq.mp h).resolve_left λh=>kr h;have f:(fh [] (ts.flatMap (parts T))).length<64:=aj jz (by rw[bQ,bS];exact G);have B:=λq h=>B q (A q h);have i:=λh=>i (A 13 h);have k:=λh=>k (A 14 h);have l:=λh=>l (A 15 h);generalize fh [] (ts.flatMap (parts T))=R at*;have J:=RC (F:=F) (T:=T) (X:=X) (n:=n+1) (wm:=11+X.length) i;have E:ik (.ref (11+X.length)) (uH F T X R)=some (.ref (11+X.length),uH F T X R):=by unfold uH;simp[ik]
 have j:=W8 hx (uH F T X []);have nw:mB (hs F T X) (.eJ [] false)=some (.ref (11+X.length),uH F T X []):=iD F X (.eJ [] false) T;have g:∀d,fin (11+X.length) (.ret (.d d),[],uH F T X R)=some (.d d,hs F T X):=λd=>i0 F X [.eJ (gD R) false] d T;have hA:d5 ((oO.take 3).map BS.run) ⟨cF (n+2),11+X.length⟩ (uD 7 [d7,.d x]) (hs F T X)=some (.er,uL x X.length o.1 o.2 (some (.d (.int (Kv R)))) none,uH F T X R):=wq [dR 0 nw,jY 0 j,mf 0 m,dR 0 E,dR 0 J];refine(JV _ _ _ _).trans (mh (b:=oO.drop 3) rfl dT hA ?_);unfold tJ Kv;by_cases p:0∈R;.rw[aW p,aW p];have g:=g (.int 0);exact wf [dR 3 g]
 rw[aZ p,aZ p];by_cases m:1∈R;.rw[aW m,aW m];have g:=g (.int 1);exact wf [dR 3 g]
 rw[aZ m,aZ m];have P:=KD (F:=F) (T:=T) (X:=X) (n:=n+1) (wm:=11+X.length) k l (U f);have y:iw 201 [.ref (11+X.length)] (uH F T X R)=some (.lst ((wj R).map nD)):=by unfold uH;simp[iw,t5,jB,oP,(show(gD R).map (·.1)=R.map nD from by unfold gD;rw[aK];rfl),Cj f]
 have M:=OR (F:=F) (X:=X) (n:=n) (x:=x) (Q:=o.1) (Z:=o.2) (N:=some (.d (.int (-1)))) B;have K:d5 (((oO.drop 3).take 3).map BS.run) ⟨cF (n+2),11+X.length⟩ (uL x X.length o.1 o.2 (some (.d (.int (-1)))) none) (uH F T X R)=some (.er,uL x X.length o.1 o.2 (some (.d (.int (-1)))) (some (.d (.lst ((mi T R).map nD)))),uH F T X R):=wq [dR 3 E,dR 0 P,sd 0 y,jY 1 M];refine tN (b:=oO.drop 6) K ?_;have hk:(mi T R).length<64:=aj (au (aX _ _) (bZ GC)) f;clear K M y P E p m i k l B f;generalize mi T R=I at*;rcases I with _|⟨a,_|⟨b,I⟩⟩;.have g:=g (.int 2);exact wf [dR 1 g]
 .have g:=g (nD a);exact wf [dR 7 g]
 .exact wf [sb 3 (eA (show¬(((I.map nD).length+1+1:Nat):Int)=1fromλh=>ay (cP h) (by simp))),sb 3 (tB (show¬(400:Int)<(((I.map nD).length+1+1:Nat):Int)fromλh=>ay (bh.mp h) (aai.mpr (au (aaH (by rw[ak];exact hk)) (by decide))))),dR 6 (qw (r:=.jW (a::b::I)) hT (n+1) (11+X.length) F (X++[.eJ (gD R) false])),dR 0 (i0 F X [.eJ (gD R) false] (nD (fL T (.jW (a::b::I)))) (fj T (.jW (a::b::I))))]
end
theorem kh(h:T<+:T')(c:t<T.length):parts T' t=parts T t:=by unfold parts;have b:=aw c;rw[fQ h b,b]
structure tM(P:Row->W->Prop):Prop where
 ok:∀{r w},P r w->mG w
 Uh:∀{r w},P r w->w≠fF
 jW:∀{r w ps},P r w->r≠.jW ps
 fresh:∀{r w b},P r w->r≠.bool b 1
 MX:∀{r w},P r w->r≠.key fF
 err:∀{r w},P r w->r≠.key [101,114,114,111,114]
 key:∀{r w s},P r w->r=.key s->w=s
 any:∀{r},P r fW->r=.key fW
 DM:∀{r},P r ea->r=.key ea
 str:∀{r},P r d0->r=.key d0
 num:∀{r},P r dZ->r=.key dZ
 TF:∀{r},P r d6->r=.key d6
 lit:∀{r w},P r w->(isLit w=true↔∃s,r=.str s)
 Ud:∀{r w},P r w->(i' w=true↔∃s,r=.num s)
structure ShQ(P:Row->W->Prop)(T:ab Row)(t:Nat)(k:ab W):Prop where
 lt:t<T.length
 wz:wy k
 nd:(parts T t).Nodup
 to:∀q∈parts T t,∃r w,T[q]?=some r/\P r w/\w∈k
 mC:∀w∈k,∃q∈parts T t,∃r,T[q]?=some r/\P r w
theorem ShQ.imp(h:T<+:T')(f:∀r w,P r w->Q r w)(s:ShQ P T t k):ShQ Q T' t k:=by
 have e:=kh h s.lt;refine⟨bY s.lt h.length_le,s.wz,e▸s.nd,λq b=>?_,λw i=>?_⟩;.rw[e]at b;refine iL (s.to q b) λr w c d g=>?_;exact jR r w ⟨fQ h c,f _ _ d,g⟩
 .refine d9 (s.mC w i) λq b j=>?_;refine d9 j λr c d=>?_;exact i12 q (e▸b) ⟨r,fQ h c,f _ _ d⟩
theorem eQ(h:T[q]?=some r)(b:q≠2)(c:∀ps,r≠.jW ps):parts T q=[q]:=by unfold parts;rw[aZ b,h];clear h;rcases r with⟨⟩<;>first|rfl|exact ay rfl (c _)
structure n4(P:Row->W->Prop)(T:ab Row)(A:ab Nat)(Z:ab (ab W)):Prop where
 all:∀q∈A,∃r w,T[q]?=some r/\P r w/\∃k∈Z,w∈k
 mC:∀w,(∃k∈Z,w∈k)->∃q∈A,∃r,T[q]?=some r/\P r w
structure NG(P:Row->W->Prop)(T T':ab Row)(A:ab Nat)(k:ab W)(t':Nat):Prop where
 sh:ShQ P T' t' k
 sub:∀q∈parts T' t',q∈A
 up:∀q∈A,∀r w,T[q]?=some r->P r w->w∈k->q∈parts T' t'
 one:(parts T' t').length=1->parts T' t'=[t']
section
variable{P:Row->W->Prop}{T T':ab Row}{A R:ab Nat}{Z:ab (ab W)}{i k q t':Nat}{s w:W}{r:Row}
theorem Zv{b:Type}{a:b}:[a].Nodup:=cj _ a
theorem Lh(h:l.Nodup):(wj l).Nodup:=dI (λh=>h.2) (pF (λa b=>by simp only[ba];exact Nat.le_total a b) (λa b c=>by simp only[ba];exact au) h)
theorem n4.no(U:n4 P T A Z)(c:T[i]?=some r)(f:∀w,¬P r w):i∉A:=by intro e;refine iL (U.all i e) λr w b d _=>?_;rw[c]at b;obtain rfl:=sI b;exact f w d
theorem n4.key(U:n4 P T A Z)(f:tM P)(G:Good k T)(d:T[i]?=some (.key s))(hs:∀r,P r s->r=.key s):i∈A↔∃k∈Z,s∈k:=by
 constructor;.intro h;refine iL (U.all i h) λr w b c e=>?_;rw[d]at b;obtain rfl:=sI b;rw[←f.key c rfl];exact e
 .intro h;refine d9 (U.mC s h) λq g y=>?_;refine d9 y λr b c=>?_;rw[hs r c]at b;rwa[G.id d b]
theorem n4.p1(U:n4 P T A Z)(b:tM P)(G:Good k T)(c:q∈A):parts T q=[q]:=by refine iL (U.all q c) λr w d f _=>?_;exact eQ d (λe=>U.no (G.at rfl) (λw h=>b.MX h rfl) (e▸c)) λg=>b.jW f
theorem n4.X5(U:n4 P T A Z)(g:tM P)(G:Good k T)(d:T[i]?=some (.key s))(hs:∀r,P r s->r=.key s)(h:i∈A)(j:∀w,w∈ei Z↔w=s):NG P T T A (ei Z) i:=by
 have e:=U.p1 g G h;have hm:=(U.key g G d hs).mp h;refine⟨⟨gL d,jf,e▸Zv,λq f=>?_,λw l=>?_⟩,λq f=>?_,λq f r w c b l=>?_,λ_=>e⟩;.rw[e]at f;obtain rfl:=bu.mp f;refine iL (U.all q h) λr w c b _=>?_;rw[d]at c;obtain rfl:=sI c;obtain rfl:=g.key b rfl;exact Dg _ _ d b ((j _).mpr rfl)
 .obtain rfl:=(j w).mp l;refine d9 (U.mC _ hm) λq _ y=>?_;refine d9 y λr c b=>?_;rw[hs r b]at c b;exact i12 i (eL e (.head _)) ⟨_,d,b⟩
 .rw[e]at f;rw[bu.mp f];exact h
 .obtain rfl:=(j w).mp l;rw[hs r b]at c;rw[G.id c d,e];exact .head _
theorem lF(h:l=true↔C)(n:¬C):l=false:=Bool.eq_false_iff.mpr λe=>n (h.mp e)
theorem ZL{a b:Prop}(c:l=false)(e:d=false):(true=true)↔(a->l=false)/\(b->d=false):=⟨λ_=>⟨λ_=>c,λ_=>e⟩,λ_=>rfl⟩
theorem Y5{b:Prop}{i:dH (¬a)}(c:l=true)(e:d=false):(decide (¬a)=true)↔(a->l=false)/\(b->d=false):=aa3.trans ⟨λh=>⟨λx=>ay x h,λ_=>e⟩,λh x=>aaJ (c.symm.trans (h.1 x))⟩
theorem stN{a:Prop}{i:dH (¬b)}(c:l=false)(e:d=true):(decide (¬b)=true)↔(a->l=false)/\(b->d=false):=aa3.trans ⟨λh=>⟨λ_=>c,λx=>ay x h⟩,λh x=>aaJ (e.symm.trans (h.2 x))⟩
theorem Cw(h:T[q]?=some r)(b:l=true↔∃s,r=.str s)(hd:d=true↔∃s,r=.num s):stays T R q=true↔(6∈R->l=false)/\(7∈R->d=false):=by unfold stays;rw[h];clear h;induction r using Row.casesOn with|str s=>exact Y5 (b.mpr ⟨_,rfl⟩) (lF hd λh=>h.elim λ_ e=>xc Row.ctorIdx e rfl)|num s=>exact stN (lF b λh=>h.elim λ_ e=>xc Row.ctorIdx e rfl) (hd.mpr ⟨_,rfl⟩)|_=>exact ZL (lF b λh=>h.elim λ_ e=>xc Row.ctorIdx e rfl) (lF hd λh=>h.elim λ_ e=>xc Row.ctorIdx e rfl)
theorem n4.st(U:n4 P T A Z)(b:tM P)(G:Good k T)(c:∀q,q∈R↔q∈A)(h:T[q]?=some r)(d:P r w):stays T R q=true↔((∃k∈Z,d0∈k)->isLit w=false)/\((∃k∈Z,dZ∈k)->i' w=false):=by rw[←U.key b G (G.at (i:=6) rfl) (λr h=>b.str h),←U.key b G (G.at (i:=7) rfl) (λr h=>b.num h),←c,←c];exact Cw h (b.lit d) (b.Ud d)
theorem n4.fin(U:n4 P T A Z)(z:tM P)(G:Good k T)(t:∀q,q∈R↔q∈A)(l:R.Nodup)(B:¬∃k∈Z,fW∈k)(C:¬∃k∈Z,ea∈k)(p:T<+:T')(o:t'<T'.length)(m:parts T' t'=mi T R)(ho:(mi T R).length=1->mi T R=[t']):NG P T T' A (ei Z) t':=by
 have c:∀q,q∈parts T' t'↔q∈A/\stays T R q=true:=λq=>by rw[m];unfold mi;rw[aO,rV,t]
 have j:(parts T' t').Nodup:=by rw[m];exact cp _ (Lh l)
 rw[←m]at ho;have f:=λ{q r w}=>U.st (q:=q) (r:=r) (w:=w) z G t;clear m l;refine⟨⟨o,jf,j,λq b=>?_,λw g=>?_⟩,λq b=>((c q).mp b).1,λq b r w d e g=>?_,ho⟩;.replace b:=(c q).mp b;refine iL (U.all q b.1) λr w d e y=>?_;have:=(f d e).mp b.2;exact Dg r w (fQ p d) e (eP.mpr ⟨y,λq=>ay q B,λ_ q=>ay q C,this⟩)
 .replace g:=eP.mp g;refine d9 (U.mC w g.1) λq b E=>?_;refine d9 E λr d e=>?_;exact i12 q ((c q).mpr ⟨b,(f d e).mpr g.2.2.2⟩) (i12 r (fQ p d) e)
 .exact(c q).mpr ⟨b,(f d e).mpr (eP.mp g).2.2.2⟩
theorem JM(G:Good (k+1) T):parts (fj T (.jW I)) (fL T (.jW I))=I:=by have b:=gr (T:=T) (r:=.jW I);unfold parts;rw[aZ,b];intro e;rw[e,G.put.at rfl]at b;exact xo Row.ctorIdx b rfl
theorem n4.out(U:n4 P T A Z)(c:tM P)(G:Good (k+1) T)(g:∀q,q∈R↔q∈A)(o:R.Nodup):NG P T (tJ T R).2 A (ei Z) (tJ T R).1/\T<+:(tJ T R).2/\Good k (tJ T R).2:=by
 have l:=G.le (dp k);have k0:=U.key c G (G.at (i:=0) rfl) (λr h=>c.any h);have y:=U.key c G (G.at (i:=1) rfl) (λr h=>c.DM h);unfold tJ;by_cases d:0∈R;.rw[aW d];have d:=(g 0).mp d;have j:=k0.mp d;exact⟨U.X5 c G (G.at (i:=0) rfl) (λr h=>c.any h) d λw=>eP.trans ⟨λh=>h.2.1 j,λe=>e▸⟨j,λ_=>rfl,λq=>ay j q,λ_=>rfl,λ_=>rfl⟩⟩,aq _,l⟩
 have p:=λe=>d ((g 0).mpr (k0.mpr e));rw[aZ d];by_cases f:1∈R;.rw[aW f];have f:=(g 1).mp f;have j:=y.mp f;exact⟨U.X5 c G (G.at (i:=1) rfl) (λr h=>c.DM h) f λw=>eP.trans ⟨λh=>h.2.2.1 p j,λe=>e▸⟨j,λq=>ay q p,λ_ _=>rfl,λ_=>rfl,λ_=>rfl⟩⟩,aq _,l⟩
 have C:=λe=>f ((g 1).mpr (y.mpr e));rw[aZ f];have m:=λ{T' t'}=>U.fin (T':=T') (t':=t') c G g o p C;generalize hk:mi T R=I at*;rcases I with _|⟨a,_|⟨b,I⟩⟩;.exact⟨m (aq _) (gL (G.at (i:=2) rfl)) rfl nofun,aq _,l⟩
 .have t:a∈A:=(g a).mp (rV.mp (aO.mp (eL hk (.head _))).1);have B:=U.p1 c G t;refine mn (U.all a t) λr w z _=>?_;exact⟨m (aq _) (gL z) B λ_=>rfl,aq _,l⟩
 .exact⟨m eh (gL gr) (JM G) λe=>ay (aaj e) (cT _),eh,G.put⟩
theorem tA{ts:ab Nat}(e:tM P)(G:Good (k+1) T)(C:tp x (ts.map nD))(g:∀t∈ts,∃k∈Z,ShQ P T t k)(o:∀k∈Z,∃t∈ts,ShQ P T t k)(B:(ts.flatMap (parts T)).length<64){y:Prop}(κ:∀t' T',Runs 3 289 [d7,.d x] T (.d (nD t')) T'->Good k T'->T<+:T'->ShQ P T' t' (ei Z)->(∀q∈parts T' t',q∈ts.flatMap (parts T))->(∀q∈ts.flatMap (parts T),∀r w,T[q]?=some r->P r w->w∈ei Z->q∈parts T' t')->((parts T' t').length=1->parts T' t'=[t'])->y):y:=by
 have U:n4 P T (ts.flatMap (parts T)) Z:=by
  refine⟨λq c=>?_,λw p=>?_⟩;.refine d9 (cu.mp c) λt f c=>?_;refine d9 (g t f) λk m s=>?_;refine iL (s.to q c) λr w j l z=>?_;exact Dg r w j l (i12 k m z)
  .refine d9 p λk m p=>?_;refine d9 (o k m) λt f s=>?_;refine d9 (s.mC w p) λq c h=>?_;exact i12 q (cu.mpr ⟨t,f,c⟩) h
 have run:=A6 C (λt f=>(g t f).elim λk s=>s.2.lt) (λq c=>by refine iL (U.all q c) λr w j l _=>?_;exact⟨r,j,λb=>e.fresh l⟩) (U.no (G.at rfl) λw h=>e.err h rfl) (U.no (G.at rfl) λw h=>e.fresh h rfl) (U.no (G.at rfl) λw h=>e.fresh h rfl) B G.lt;have O:=U.out e G (R:=fh [] (ts.flatMap (parts T))) (λq=>lq.trans ⟨λh=>h.resolve_left nofun,.inr⟩) (vQ .nil);exact κ _ _ run O.2.2 O.2.1 O.1.sh O.1.sub O.1.up O.1.one
theorem FX{ts:ab Nat}(h:∀q∈ts,parts T q=[q]):ts.flatMap (parts T)=ts:=by induction ts with|nil=>rfl|cons a l ih=>rw[cB,h a (.head _),ih λq b=>h q (.tail _ b)];rfl
end
section
variable{F:ab Int}{T:ab Row}{X Y L:ab Cell}{n wm:Nat}{H:Hp}
theorem HN(h:T.length<big):Runs 2 158 [d7,.d (sD s)] T (.d (nD (fL T (.str s)))) (fj T (.str s)):=by intro n wm F X;have b:=qw (r:=.str s) h;exact wk Ae dT [dR 5 (b n (11+X.length) F X),dR 0 (dU F X (nD (fL T (Row.str s))) (fj T (Row.str s)))]
theorem SQ(h:T.length<big):Runs 2 166 [d7,.d (nD s)] T (.d (nD (fL T (.num s)))) (fj T (.num s)):=by intro n wm F X;have b:=qw (r:=.num s) h;exact wk zK dT [dR 5 (b n (11+X.length) F X),dR 0 (dU F X (nD (fL T (Row.num s))) (fj T (Row.num s)))]
theorem x5(h:T.length<big):Runs 2 174 [d7,.d (nD e),.d (nD ro)] T (.d (nD (fL T (.arr e ro)))) (fj T (.arr e ro)):=by intro n wm F X;have b:=qw (r:=.arr e ro) h;exact wk wi dT [dR 5 (b n (11+X.length) F X),dR 0 (dU F X (nD (fL T (Row.arr e ro))) (fj T (Row.arr e ro)))]
theorem vz(h:T[t]?=some r):Runs 1 150 [d7,.d (nD t)] T (.d (nD (kc r))) T:=by intro n wm F X;exact wk DJ dT [sv 2 (fR F X h),sv 1 (show fZ (V.d (gF r)) (D.int 0) (hs F T X)=some (V.d (D.int ↑(kc r)))by simp),dR 0 (dU F X (D.int ↑(kc r)) T)]
noncomputable def kR(p:Int->Nat->bt):ab (Nat×Nat)->Nat->Int->Int|[],_,f=>f|e::E,i,f=>kR p E (i+1) (if p f e.2then(i:Int)else f)
theorem Ct:∀{A:ab (Nat×Nat)}{i:Nat}{f:Int},kR p (A++[e]) i f=if p (kR p A i f) e.2then((i+A.length:Nat):Int)else kR p A i f:=by intro A;induction A with|nil=>intro i f;exact rfl|cons a A ih=>intro i f;dsimp only[aaL,kR];simp only[ih];simp only[bf,show i+1+A.length=i+(A.length+1)by lia];rfl
theorem l7{p:Int->Nat->bt}{M:Int->Prop}:∀{E:ab (Nat×Nat)}{i:Nat}{f:Int},M f->(∀(j:Nat)(e:Nat×Nat)(g:Int),E[j]?=some e->p g e.2=true->M ((i+j:Nat):Int))->M (kR p E i f):=by
 intro E;induction E with
 |nil=>intro i f h _;exact h|cons a E ih=>
  intro i f h k;refine ih ?_ λj e g c d=>?_;.
   by_cases b:p f a.2=true;.rw[aW b];exact k 0 a f rfl b
   .rw[aZ b];exact h
  .have:=k (j+1) e g c d;rwa[←aat,aao]at this
theorem vO{b:Type}{e:b}{r:ab b}:∀{d:ab b},(d++e::r)[d.length]?=some e:=by intro d;induction d with|nil=>rfl|cons a d ih=>exact ih
theorem zP{j σ:Type}{b:ab BS}(E:ab j)(f:ab j->σ->Loc)(g:ab j->Hp)(aeb:∀d e r s,E=d++e::r->∃l s',hO tg (nD d.length) (f d s)=some l/\d5 (b.map BS.run) c l (g d)=some (.er,f (d++[e]) s',g (d++[e]))){s:σ}{m:Prop}(κ:∀s',hH tg (d5 (b.map BS.run)) c ((bz E.length).map nD) (f [] s) (g [])=some (.er,f E s',g E)->m):m:=by
 have i:∀r d s,E=d++r->∃s',hH tg (d5 (b.map BS.run)) c ((aaA d.length r.length).map nD) (f d s) (g d)=some (.er,f E s',g E):=by intro r;induction r with|nil=>intro d s h;exact⟨s,by rw[h,aL];rfl⟩|cons e r ih=>intro d s h;refine mn (aeb d e r s h) λl s' o p=>?_;refine(ih (d++[e]) s' (by rw[h,bA];rfl)).elim λq k=>⟨q,?_⟩;rw[ao]at k;exact gV o (.inl rfl) p k
 exact(i E [] s rfl).elim λs' h=>κ s' (by rw[aaa];exact h)
theorem Oc(h:E=d++e::r)(H:Hp):fZ (.d (.lst (E.map g8))) (nD d.length) H=some (.d (g8 e)):=by
 have b:(E.map g8)[d.length]?=some (g8 e):=by rw[bV,h,vO];rfl
 simp[b]
theorem Ez{E:ab (Nat×Nat)}(H:Hp):iw 200 [.d (.lst (E.map g8))] H=some (.int (E.length:Int)):=ah (λk:Nat=>some (D.int k)) (ak _)
noncomputable abbrev kI(C:ab Nat)(E:ab (Nat×Nat)):Int:=kR (λ_ m=>decide (m∈C)) E 0 (-1)
theorem xa:kR p (d++[e]) 0 f=if p (kR p d 0 f) e.2then(d.length:Int)else kR p d 0 f:=by rw[Ct,bS]
theorem Dc{C:ab Nat}(h:fZ (.d g) (nD k) H=some (.d (g8 e))):d5 (nM.map BS.run) c [some (.d g),some (.d (.tup (C.map nD))),some (.d (.int f)),some (.d (nD k))] H=some (.er,[some (.d g),some (.d (.tup (C.map nD))),some (.d (.int (if decide (e.2∈C)then(k:Int)else f))),some (.d (nD k))],H):=by
 have i:f6 .In (nD e.2) (.d (.tup (C.map nD))) H=some (decide (e.2∈C)):=o8;generalize decide (e.2∈C)=b at*;generalize C.map nD=j at*;rcases b with⟨⟩;.exact wq [sv 1 h,sb 3 i]
 .exact wq [sv 1 h,sb 3 i]
theorem sW(f:E.length<64):cF (n+1) wm 181 [.d (.lst (E.map g8)),.d (.tup (C.map nD))] H=some (.d (.int (kI C E)),H):=by refine zP (tg:=.one 3) (c:=⟨cF n,H.length⟩) E (λd o=>[some (.d (.lst (E.map g8))),some (.d (.tup (C.map nD))),some (.d (.int (kI C d))),o]) (λ_=>H) (λd e r o h=>xA _ (some (.d (nD d.length))) rfl (by unfold kI;rw[xa];exact Dc (Oc h H))) (s:=none) λo b=>?_;exact wk w3 rfl [sd 0 (Ez (E:=E) H),jY 1 (iB (bM f (by decide)) H),mf 0 b,dR 0 (eT (D.int (kI C E)) H)]
structure mz(E:ab (Nat×Nat)):Prop where
 pw:E.Pairwise λx y=>x.2<=y.2/\x.2<2
 le:∀e∈E,e.2<=2
 sz:E.length<64
theorem mz.at(M:mz E){j:Nat}(h:i<j)(e:E[i]?=some a)(f:E[j]?=some b):a.2<=b.2/\a.2<2:=by obtain⟨g,c⟩:=aG.mp e;obtain⟨k,d⟩:=aG.mp f;have:=aa9.mp M.pw i j g k h;rwa[c,d]at this
theorem w4{L:Int}(h:fZ (.d b) (nD k) (H++[.lst Z .own])=some (.d (g8 e)))(m:Z.length<big)(l:e.2=1->¬(k:Int)<L):d5 (iG.map BS.run) ⟨cF (n+1),w⟩ [some d7,some (.d b),some (.d (.int L)),some (.ref H.length),some (.d (nD k)),N,O] (H++[.lst Z .own])=some (.er,[some d7,some (.d b),some (.d (.int L)),some (.ref H.length),some (.d (nD k)),some (.d (nD e.1)),some (.d (nD e.2))],H++[.lst (Z++[g8 e]) .own]):=by
 have f:=v3 (H:=H) (L:=[]) (M:=dP) (c:=⟨cF (n+1),w⟩) (x:=g8 e) m;have g:some (iZ dP (.ref H.length) 100 (H++[.lst Z .own]))=some true:=ah some (jn fD 100 dP);obtain⟨p,j⟩:=e;by_cases i:j=1;.subst i;have o:=l rfl;exact wq [sv 1 h,sb 4 (tB o),sb 1 g,dR 3 f]
 .exact wq [sv 1 h,sb 1 (eA (λh=>i (cP h))),sb 1 g,dR 3 f]
theorem yi(M:mz E):cF (n+2) wm 188 [d7,.d (.lst (E.map g8))] H=some (.d (.lst (E.map g8)),H):=by refine zP (b:=iG) (tg:=.one 4) (c:=⟨cF (n+1),H.length⟩) E (λd(o:ae V×ae V×ae V)=>[some d7,some (.d (.lst (E.map g8))),some (.d (.int (kI [0] E))),some (.ref H.length),o.1,o.2.1,o.2.2]) (λd=>H++[.lst (d.map g8) .own]) (λd e r o h=>xA _ (some (.d (nD d.length)),some (.d (nD e.1)),some (.d (nD e.2))) rfl (by rw[aD];have hs:=M.sz;rw[h,ao]at hs;refine w4 (Oc h _) (by rw[ak];exact bM (aj (aH _ _) hs) (by decide)) λq=>?_;refine l7 (M:=λz=>¬(d.length:Int)<z) (acL.mpr (acR (by decide) (cK _))) λj m _ k l g=>?_;have f:=(M.at (by rw[bS]at g;exact bh.mp g) (h▸vO) k).1;rw[kE (aT l),q]at f;exact ay f (by decide))) (s:=(none,none,none)) λo i=>?_;exact wk qn rfl [dR 3 (sW (n:=n) (wm:=H.length) (H:=H) M.sz (C:=[0])),sd 1 (Ez (E:=E) (H++[.lst [] .own])),jY 1 (iB (bM M.sz (by decide)) (H++[.lst [] .own])),mf 0 i,dR 0 (show fin H.length (.ret (.ref H.length),[],H++[.lst (E.map g8) .own])=some (.d (.lst (E.map g8)),H)from by simp)]
theorem Cg{L:Int}(h:fZ (.d i) (nD k) H=some (.d (g8 e))):d5 (ov.map BS.run) c [some d7,some (.d i),some (.d (.int L)),some (.d (.int f)),some (.d (nD k)),none,none,none] H=some (.er,[some d7,some (.d i),some (.d (.int L)),some (.d (.int (if decide (f<0/\e.2=2)then(k:Int)else f))),some (.d (nD k)),none,none,none],H):=by
 obtain⟨m,j⟩:=e;simp only;by_cases b:f<0;.
  by_cases g:j=2;.rw[aE ⟨b,g⟩];subst g;exact wq [sb 1 (tX b),sv 2 h]
  .rw[aC λh=>g h.2];have l:¬(j:Int)=2:=λh=>g (cP h);exact wq [sb 1 (tX b),sv 2 h,sb 3 (eA l)]
 .rw[aC λh=>b h.1];exact wq [sb 1 (tB b)]
theorem DX(M:mz E):cF (n+1) wm 195 [d7,.d (.lst (E.map g8)),.d (.int (kI [2,1] E))] H=some (.d (.lst (E.map g8)),H):=by
 refine zP (tg:=.one 4) (c:=⟨cF n,H.length⟩) E (λd o=>[some d7,some (.d (.lst (E.map g8))),some (.d (.int (kI [2,1] E))),some (.d (.int (kR (λf m=>decide (f<0/\m=2)) d 0 (-1)))),o,none,none,none]) (λ_=>H) (λd e r o h=>xA _ (some (.d (nD d.length))) rfl (by rw[xa];exact Cg (Oc h H))) (s:=none) λo b=>?_;have p:=iB (bM M.sz (by decide)) H;have k:kR (λf m=>decide (f<0/\m=2)) E 0 (-1)<0\/kI [2,1] E<=kR (λf m=>decide (f<0/\m=2)) E 0 (-1):=by refine l7 (M:=λz=>z<0\/kI [2,1] E<=z) (.inl (by decide)) λj e _ t y=>.inr ?_;refine l7 (M:=λz=>z<=((0+j:Nat):Int)) (acR (by decide) (cK _)) λG C _ A _=>abT.mpr ?_;rw[bS,bS];refine Nat.le_of_not_lt λq=>?_;have:=(M.at q t A).2;rw[(aT y).2]at this;exact ay this (by decide)
 generalize kR (λf m=>decide (f<0/\m=2)) E 0 (-1)=f at k b;have l:=Ez (E:=E) H;have i:=eT (D.lst (E.map g8)) H;generalize kI [2,1] E=L at*;generalize E.map g8=B at*;by_cases g:f<0;.exact wk sy rfl [sd 0 l,jY 1 p,mf 0 b,sb 1 (tX g),dR 1 i]
 .exact wk sy rfl [sd 0 l,jY 1 p,mf 0 b,sb 1 (tB g),sb 2 (show f6 .LtE (.int L) (.d (.int f)) H=some true from by simp[k.resolve_left g]),dR 1 i]
noncomputable def qd(E:ab (Nat×Nat))(ro:Nat):Row:=match E with|[(e,2)]=>.arr e ro|E=>.tup E ro
theorem r6(h:∀e,E≠[(e,2)]):qd E ro=.tup E ro:=by
 rcases E with _|⟨⟨e,m⟩,_|⟨b,E⟩⟩;.rfl
 .rcases m with _|_|_|m<;>first|rfl|exact ay rfl (h e)
 .rcases m with _|_|_|m<;>rfl
noncomputable def Fb:ab (Nat×Nat)->bt|[(_,2)]=>true|_=>false
theorem Jo:(gi [(TE (dS .Eq (gP 200 [(dM 3)]) (dN (.int 1)))),(TE (dS .Eq (dQ (dQ (dM 3) (dN (.int 0))) (dN (.int 1))) (dN (.int 2))))]).run c [some d7,o1,o2,some (.d (.lst (E.map g8))),Z] H=some (Fb E,H):=by
 rcases E with _|⟨⟨e,m⟩,_|⟨b,E⟩⟩;.rfl
 .have h:Fb [(e,m)]=decide (m=2):=by rcases m with _|_|_|m<;>rfl
  rw[h];by_cases f:m=2;.subst f;rfl
  .rw[aC f];exact wb [sb 9 (eA (λq=>f (cP q)))]
 .have h:Fb ((e,m)::b::E)=false:=by rcases m with _|_|_|m<;>rfl
  rw[h];have B:iw 200 [.d (.lst (((e,m)::b::E).map g8))] H=some (.int (((E.map g8).length+1+1:Nat):Int)):=rfl;exact wb [sb 2 (eA (show¬(((E.map g8).length+1+1:Nat):Int)=1fromλh=>ay (cP h) (by simp)))]
noncomputable def U2(x ro:D)(b:D)(Z:ae V):Loc:=[some d7,some (.d x),some (.d ro),some (.d b),Z]
theorem Ql(M:mz E)(h:Fb E=false):d5 (((iU.drop 1).take 1).map BS.run) ⟨cF (n+2),w⟩ (U2 x ro (.lst (E.map g8)) none) H=some (.er,U2 x ro (.lst (E.map g8)) (some (.d (.int (kI [2,1] E)))),H):=by
 have i:=sW (n:=n+1) (wm:=w) (H:=H) M.sz (C:=[3]);have b:=sW (n:=n+1) (wm:=w) (H:=H) M.sz (C:=[2,1]);have g:kI [3] E<0:=l7 (M:=λz=>z<0) (by decide) λj e _ m o=>by have:=M.le e (aab m);rw[kE (aT o)]at this;exact ay this (by decide)
 have p:=yi (n:=n) (wm:=w) (H:=H) M;have k:=DX (n:=n+1) (wm:=w) (H:=H) M;have l:=λZ=>Jo (E:=E) (c:=⟨cF (n+2),w⟩) (H:=H) (o1:=some (.d x)) (o2:=some (.d ro)) (Z:=Z);rw[h]at l;generalize kI [3] E=r at i g;generalize kI [2,1] E=f at b k⊢;generalize E.map g8=q at*;refine BG ?_ (gM (a:=[dX 4 (dO 181 [(dM 3),(d8 [(dN (.int 2)),(dN (.int 1))])]),dX 3 (dO 195 [(dM 0),(dO 188 [(dM 0),(dM 3)]),(dM 4)])]) ?_ (MV (l (some (.d (.int f))))));.exact wb [dR 3 i,sb 1 (tX g)]
 .exact wq [dR 4 b,dR 3 p,dR 2 k]
theorem rH(M:mz E)(l:tp x (E.map g8))(g:T.length<big):Runs 3 201 [d7,.d x,.d (nD ro)] T (.d (nD (fL T (qd E ro)))) (fj T (qd E ro)):=by
 intro n wm F X;have i:∀(E:ab (Nat×Nat))(a b:ae V),fa (d8 [dM 5,dM 6]).run (.many [5,6]) (gO []) ⟨cF (n+2),11+X.length⟩ (E.map g8) [some d7,some (.d x),some (.d (nD ro)),none,none,a,b] (hs F T X)=some (E.map g8,hs F T X):=by intro E;induction E with|nil=>intro a b;rfl|cons e E ih=>intro a b;refine Eq.trans (b:=(fa (d8 [dM 5,dM 6]).run (.many [5,6]) (gO []) ⟨cF (n+2),11+X.length⟩ (E.map g8) [some d7,some (.d x),some (.d (nD ro)),none,none,some (.d (nD e.1)),some (.d (nD e.2))] (hs F T X)).map (Vy (g8 e))) ?_ (by rw[ih];rfl);rw[ar,rO];rfl
 have j:=W8 l (hs F T X);rcases c:Fb E with⟨⟩;.
  have k:qd E ro=.tup E ro:=r6 λe q=>by rw[q]at c;exact aaJ c
  rw[k];refine(j4 _ _ _ _).trans (mh (b:=iU.drop 1) rfl dT (show d5 ((iU.take 1).map BS.run) ⟨cF (n+2),11+X.length⟩ (uD 5 [d7,.d x,.d (nD ro)]) (hs F T X)=some (.er,U2 x (nD ro) (.lst (E.map g8)) none,hs F T X)from wq [jY 0 j,jY 0 (i E none none)]) (tN (b:=iU.drop 2) (Ql M c) ?_));exact wf [dR 6 (qw (r:=.tup E ro) g (n+1) (11+X.length) F X),dR 0 (dU F X (nD (fL T (Row.tup E ro))) (fj T (Row.tup E ro)))]
 .have f:∃e,E=[(e,2)]:=by rcases E with _|⟨⟨e,_|_|_|m⟩,_|⟨b,E⟩⟩<;>first|exact⟨e,rfl⟩|exact aaJ c
  refine f.elim λe f=>?_;subst f;exact wk j4 dT [jY 0 j,dR 4 (sW (n:=n+1) (wm:=11+X.length) (H:=hs F T X) M.sz (C:=[3])),dR 7 (sW (n:=n+1) (wm:=11+X.length) (H:=hs F T X) M.sz (C:=[2,1])),dR 3 (yi (n:=n) (wm:=11+X.length) (H:=hs F T X) M),dR 2 (DX (n:=n+1) (wm:=11+X.length) (H:=hs F T X) M),dR 18 (x5 (e:=e) (ro:=ro) g n (11+X.length) F X),dR 0 (dU F X (nD (fL T (.arr e ro))) (fj T (.arr e ro)))]
end
noncomputable abbrev l6:=W×Nat×Nat×Nat
section
variable{F:ab Int}{T:ab Row}{X Y L:ab Cell}{n wm:Nat}{H:Hp}
section
variable{α:Type}{f:α->W}{g:α->D}
theorem p8:∀{l:ab α},hW (sD w) (l.map λa=>(sD (f a),g a))=some ((l.find? λa=>decide (f a=w)).map g)|[]=>rfl|a::l=>by simp only[ar,hW,yP,Hy,p8 (l:=l),cR];by_cases h:f a=w<;>simp[h]
theorem iC{l:ab α}:eg .s (l.map λa=>(sD (f a),g a))=true:=by simp[eg,D.sort]
theorem pV{l:ab α}(h:w∉l.map f):hW (sD w) (l.map λa=>(sD (f a),g a))=some none:=by
 rw[p8,List.find?_eq_none.mpr];.rfl
 .intro a b;simp only[ba];intro e;exact h (ag.mpr ⟨a,b,e⟩)
theorem zD{l:ab α}(h:w∉l.map f):jN (sD w) v (l.map λa=>(sD (f a),g a))=some ((l.map λa=>(sD (f a),g a))++[(sD w,v)]):=wZ (pV h)
theorem rB{a:α}:∀{l:ab α},(l.map f).Nodup->a∈l->l.find? (λb=>decide (f b=f a))=some a:=by
 intro l;induction l with
 |nil=>intro _ h;exact kr h|cons b l ih=>
  intro c h;rw[ar,a7]at c;rcases af.mp h with e|e;.clear h;refine sZ e ?_;simp
  .have:f b≠f a:=λq=>c.1 (q▸ag.mpr ⟨a,e,rfl⟩);simp[this,ih c.2 e]
end
noncomputable def eK(ps:ab l6):ab l6:=sortBy (λa b=>eG a.1 b.1) ps
theorem Nc:∀{l:ab l6},(gp (λa b=>eG a.1 b.1) p l).map (·.1)=gp eG p.1 (l.map (·.1))
 |[]=>rfl|b::l=>by
  simp only[ar,gp];split;.rfl
  .simp only[ar,Nc]
theorem kS:∀{l:ab l6},(eK l).map (·.1)=sortBy eG (l.map (·.1))|[]=>rfl|b::l=>by unfold eK;refine sY Nc ?_;congr 1;exact kS (l:=l)
theorem ka:p∈eK l↔p∈l:=hX
noncomputable def IK(ps:ab l6):ab (D×D):=ps.map λp=>(sD p.1,mQ p)
theorem SN(b:ps.length<big)(c:p.1∉ps.map (·.1)):II (sD p.1) (mQ p) (.ref H.length) (H++[.eJ (IK ps) false])=some (H++[.eJ (IK (ps++[p])) false]):=(Dk (x:=sD p.1) fD (iC (f:=λp:l6=>p.1)) (aj (bZ (ak _)) b) (zD c)).trans (ah some (lr.trans (ah (λl=>H++[Cell.eJ l false]) ((aD (f:=λp:l6=>(sD p.1,mQ p)) (l₁:=ps) (l₂:=[p])).symm))))
theorem xj(m:(ps.map (·.1)).Nodup)(j:ps.length<64):cF (n+1) wm 206 [.d (.lst (ps.map mQ))] H=some (.d (.tup ((eK ps).map mQ)),H):=by
 refine nB (b:=lG) (tg:=.one 2) (c:=⟨cF n,H.length⟩) (e:=mQ) (λo=>[some (.d (.lst (ps.map mQ))),some (.ref H.length),o]) (λd=>H++[.eJ (IK d) false]) ps (λ_ _=>rfl) (λd p r s=>?_) (o:=none) λo t=>?_;.rw[s,ao]at j;rw[s,aD,ar,a8]at m;have i:fZ (.d (mQ p)) (.int 0) (H++[.eJ (IK d) false])=some (.d (sD p.1)):=rfl;generalize sD p.1=k at*;generalize mQ p=P at*;exact wq [sv 2 i,sh 1 (SN (H:=H) (bM (aj (aH _ _) j) (by decide)) (λq=>m.2.2 _ q _ (.head _) rfl))]
 have so:=iC (f:=λp:l6=>p.1) (g:=mQ) (l:=ps);have hs:iw 201 [.ref H.length] (H++[.eJ (IK ps) false])=some (.lst ((eK ps).map (λp=>sD p.1))):=by
  have e:((ps.map λp=>(sD p.1,mQ p)).map (·.1))=(ps.map (·.1)).map sD:=by rw[aK,aK];rfl
  unfold IK;simp only[iw,t5,zA,anyB,jB,fD,so,acQ,adl,bj];rw[e,nr (by rw[ak];exact j),←kS,aK];rfl
 have y:=fV (elt:=(dQ (dM 1) (dM 3)).run) (c:=⟨cF n,H.length⟩) (e:=λp:l6=>sD p.1) (H:=H++[.eJ (IK ps) false]) [some (.d (.lst (ps.map mQ))),some (.ref H.length),o] (eK ps) mQ (o:=none) (λp z=>by
  have i:fZ (.ref H.length) (sD p.1) (H++[.eJ (IK ps) false])=some (.d (mQ p)):=by exact Ha fD so (by unfold IK;rw[p8,rB m (ka.mp z)];rfl)
  exact wd [sv 1 i]);exact wk sG rfl [mf 2 t,sd 0 hs,jY 1 y,dR 1 (vJ [.eJ (IK ps) false] (.tup ((eK ps).map mQ)) H)]
theorem Tb(e:(ps.map (·.1)).Nodup)(c:ps.length<64)(b:T.length<big):Runs 2 218 [d7,.d (.lst (ps.map mQ)),.d (.tup []),.d (.tup []),.d (ke E),.d (ke ni),.d (.int 0)] T (.d (nD (fL T (.obj (eK ps) E ni)))) (fj T (.obj (eK ps) E ni)):=by intro n wm F X;exact wk ti dT [dR 3 (show cF (n+1) (11+X.length) 206 [V.d (D.lst (aap mQ ps))] (hs F T X)=some (V.d (D.tup (aap mQ (eK ps))),hs F T X)by simp[xj e c]),dR 9 ((qw (r:=.obj (eK ps) E ni) b) n (11+X.length) F X),dR 0 (dU F X (nD (fL T (Row.obj (eK ps) E ni))) (fj T (Row.obj (eK ps) E ni)))]
theorem N1(e:(ps.map (·.1)).Nodup)(c:ps.length<64)(b:T.length<big):Runs 2 218 [d7,.d (.lst (ps.map mQ)),.d (.tup []),.d (.tup []),.d (ke E),.d (ke ni)] T (.d (nD (fL T (.obj (eK ps) E ni)))) (fj T (.obj (eK ps) E ni)):=by intro n wm F X;exact wk ti dT [dR 3 (xj (n:=n) (wm:=11+X.length) (H:=hs F T X) e c),dR 9 (qw (r:=.obj (eK ps) E ni) b n (11+X.length) F X),dR 0 (dU F X (nD (fL T (.obj (eK ps) E ni))) (fj T (.obj (eK ps) E ni)))]
theorem MF:kc r<=15:=by induction r using Row.casesOn with|_=>exact bo rfl
noncomputable def o9:Row->bt|.key _|.bool _ _|.str _|.num _|.obj _ _ _|.arr _ _=>true|.tup es _=>es.all λe=>decide (e.2<3)|_=>false
theorem kL(h:T[t]?=some r)(g:o9 r=true):Runs 1 558 [d7,.d (nD t)] T (.d (.bool false)) T:=by
 intro n wm F X;refine(let l:Prop:=_;(?_:l));induction r using Row.casesOn with
 |tup f k=>
  refine nB (b:=qG) (tg:=.one 4) (c:=⟨cF n,11+X.length⟩) (e:=g8) (λo=>[some d7,some (.d (nD t)),some (.d (gF (.tup f k))),none,o,none]) (λ_=>hs F T X) f (λ_ _=>rfl) (λd e r j=>?_) (o:=none) λo i=>?_;.have q:¬(e.2:Int)=3:=λq=>ay (aT (aA.mp g e (eL j (aN _ (.head _))))) (cP q▸cN 3);exact wq [sb 3 (eA q)]
  .exact wk qg dT [sv 2 (fR F X h),mf 23 i,dR 5 (dU F X (D.bool false) T)]|_=>first|(exact fO g;done)|exact wk qg dT [sv 2 (fR F X h),dR 25 (dU F X (D.bool false) T)]
theorem NX(z:t<T.length)(m:T[2]?=some (.key fF))(h:∀q∈parts T t,∃r,T[q]?=some r/\o9 r=true):Runs 2 558 [d7,.d (nD t)] T (.d (.bool false)) T:=by
 have f:=aw z;generalize T[t]=r at f;by_cases p:∃g,r=.jW g;.
  obtain⟨g,rfl⟩:=p;have l:parts T t=g:=by unfold parts;rw[aZ,f];intro e;subst e;rw[m]at f;exact xo Row.ctorIdx f rfl
  rw[l]at h;intro n wm F X;refine(let A:Prop:=_;(?_:A));refine nB (b:=qK) (tg:=.one 3) (c:=⟨cF (n+1),11+X.length⟩) (e:=nD) (λo=>[some d7,some (.d (nD t)),some (.d (gF (.jW g))),o,none,none]) (λ_=>hs F T X) g (λ_ _=>rfl) (λd q r y=>?_) (o:=none) λo s=>?_;.refine d9 (h q (eL y (aN _ (.head _)))) λr j k=>?_;exact wq [dR 2 (kL j k n (11+X.length) F X)]
  .exact wk qg dT [sv 2 (fR F X f),mf 13 s,dR 10 (dU F X (D.bool false) T)]
 .have hs:o9 r=true:=by
   by_cases i:t=2;.subst i;rw[m]at f;refine so f ?_;rfl
   .have:=eQ f i (λg e=>p ⟨g,e⟩);refine d9 (h t (by rw[this];simp)) λB j k=>?_;rw[f]at j;obtain rfl:=sI j;exact k
  intro n wm F X;exact kL f hs (n+1) wm F X
noncomputable def Ij(t:Nat):Row->bt|.key _=>decide (t=3\/t=4\/t=5\/t=6\/t=7)|.bool _ _|.str _|.num _=>true|_=>false
theorem hU(c:cF (n+2) (11+X.length) 320 [d7,.d (nD t)] (hs F T X)=some (.d (.int m),hs F T X))(e:D.has (.int m) [.int 7,.int 0]=some (!b)):cF (n+3) wm 795 [d7,.d (nD t)] (hs F T X)=some (.d (.bool b),hs F T X):=wk sV dT [dR 2 c,sb 3 (show f6 af5 (D.int m) (V.d (D.tup [D.int 7,D.int 0])) (hs F T X)=some b by simp[e]),dR 0 (dU F X (D.bool b) T)]
theorem kO(h:T[t]?=some (.key s))(b:∀c H,fJ dP c (.d mV) 103 [.d (nD t),.d (.int 0)] H=some (.d (.int v),H)):cF (n+2) wm 320 [d7,.d (nD t)] (hs F T X)=some (.d (.int v),hs F T X):=wk ki dT [sv 2 (fR F X h),dR 8 (b {call:=cF (n+1),wm:=11+X.length} (hs F T X)),dR 0 (dU F X (.int v) T)]
theorem Nq(h:T[t]?=some r)(g:o9 r=true)(e:∀s,r=.key s->t<8):Runs 3 795 [d7,.d (nD t)] T (.d (.bool (Ij t r))) T:=by
 intro n wm F X;induction r using Row.casesOn with
 |key s=>have:=e s rfl;clear e g;match t,this with|0,_=>exact hU (kO h λ_ _=>rfl) (by kernel_rfl)|1,_=>exact hU (kO h λ_ _=>rfl) (by kernel_rfl)|2,_=>exact hU (kO h λ_ _=>rfl) (by kernel_rfl)|3,_=>exact hU (kO h λ_ _=>rfl) (by kernel_rfl)|4,_=>exact hU (kO h λ_ _=>rfl) (by kernel_rfl)|5,_=>exact hU (kO h λ_ _=>rfl) (by kernel_rfl)|6,_=>exact hU (kO h λ_ _=>rfl) (by kernel_rfl)|7,_=>exact hU (kO h λ_ _=>rfl) (by kernel_rfl)|n+8,h=>exact ay h (by lia)
 |bool b f=>exact hU (m:=3) (wk ki dT [sv 2 (fR F X h),dR 8 (dU F X (D.int 3) T)]) rfl|str s=>exact hU (m:=1) (wk ki dT [sv 2 (fR F X h),dR 18 (show cF (n+1) (11+X.length) 256 [V.d (gF (Row.str s))] (hs F T X)=some (V.d (D.int 6),hs F T X)by simp[vw,Ug]),dR 6 (dU F X (D.int 1) T)]) rfl|num s=>exact hU (m:=2) (wk ki dT [sv 2 (fR F X h),dR 18 (show cF (n+1) (11+X.length) 256 [V.d (gF (Row.num s))] (hs F T X)=some (V.d (D.int 7),hs F T X)by simp[vw,Ug]),dR 6 (dU F X (D.int 2) T)]) rfl|obj a b c=>exact hU (m:=7) (wk ki dT [sv 2 (fR F X h),dR 11 (dU F X (D.int 7) T)]) rfl|arr a b=>exact hU (m:=7) (wk ki dT [sv 2 (fR F X h),dR 11 (dU F X (D.int 7) T)]) rfl|tup a b=>exact hU (m:=7) (wk ki dT [sv 2 (fR F X h),dR 11 (dU F X (D.int 7) T)]) rfl|_=>exact fO g
theorem iF:Runs 1 349 [eb,.d (nD t)] T (.d (nD t)) T:=by intro n wm F X;exact wk vI dT [dR 0 (dU F X (nD t) T)]
theorem A1(h:T[t]?=some (.obj ps E ni)):Runs 2 489 [eb,.d (nD t)] T (.d (nD t)) T:=by
 intro n wm F X;have e:cF (n+1) (11+X.length) 328 [d7,.d (nD t)] (hs F T X)=some (.d (nD t),hs F T X):=by have c:=iB (n:=40) (by decide) (hs F T X);rw[show bz 40=0::(bz 39).map aa2 from abD,ar]at c;generalize aap _ (aap aa2 (bz 39))=b at c;have g:d5 (ml.map BS.run) ⟨cF n,11+X.length⟩ [some d7,some (.d (nD t)),some (.d (.int 0)),none] (hs F T X)=some (.ret (.d (nD t)),[some d7,some (.d (nD t)),some (.d (.int 0)),some (.d (gF (.obj ps E ni)))],hs F T X):=wq [sb 1 (tB (acL.mpr (cK t))),sv 3 (fR F X h)];have f:=oA (tg:=.one 2) (Z:=b) (l:=[some d7,some (.d (nD t)),none,none]) rfl g;exact wk tT dT [jY 1 c,mf 0 f,dR 0 (dU F X (nD t) T)]
 exact wk rj dT [dR 3 e,dR 0 (dU F X (nD t) T)]
noncomputable def LC:Row->D|.str s=>sD s|.num k=>sD [48+k]|_=>.fS
theorem oF(h:T[t]?=some r)(c:∀k,r=.num k->k<10):Runs 2 572 [d7,.d (nD t)] T (.d (LC r)) T:=by
 intro n wm F X;induction r using Row.casesOn with
 |str s=>
  have b:cF (n+1) (11+X.length) 565 [d7,.d (nD t)] (hs F T X)=some (.d (sD s),hs F T X):=by exact wk qz dT [sv 2 (fR F X h),dR 7 (dU F X (sD s) T)]
  exact wk ot dT [sv 2 (fR F X h),dR 10 b,dR 0 (dU F X (sD s) T)]|num k=>
  have e:=c k rfl;have b:cF (n+1) (11+X.length) 565 [d7,.d (nD t)] (hs F T X)=some (.d (sD [48+k]),hs F T X):=by
   have:(0:Int)<=k/\(k:Int)<10:=by lia
   exact wk qz dT [sv 2 (fR F X h),sd 12 (show iw 204 [V.d (nD k)] (hs F T X)=some (D.str {cps:=#[48+k]})by simp[h,gF,iw,t5,zA,jq,this,S]),dR 0 (dU F X (D.str {cps:=#[48+k]}) T)]
  exact wk ot dT [sv 2 (fR F X h),dR 10 b,dR 0 (dU F X (sD [48+k]) T)]|_=>exact wk ot dT [sv 2 (fR F X h),dR 8 (dU F X D.fS T)]
end
noncomputable def ek(r:Row)(w:W):Prop:=match r with|.key s=>s∈[fW,ea,d6,gy,d0,dZ]/\w=s|.bool b f=>f=0/\((b=0/\w=hK)\/(b=1/\w=i9))|.str s=>s.length=1/\w=34::(s++[34])|.num m=>m<10/\w=[48+m]|_=>afz
noncomputable def gf(R:W):ab W->W|[]=>[]|[w]=>w|w::r=>w++R++gf R r
noncomputable def iR(k:ab W):W:=if k=[]then fF else gf [124] k
noncomputable def zd(k:ab W):W:=91::(iR k++[93])
noncomputable def N4(k:ab W):W:=BB++([91,46,46,46]++(iR k++[93]))
noncomputable def i8(T:ab Row)(r:Row)(w:W):Prop:=ek r w\/(∃x k,r=.arr x 1/\ShQ ek T x k/\k.length<=5/\w=N4 k)\/(∃x k,r=.tup [(x,0)] 0/\ShQ ek T x k/\k.length<=5/\w=zd k)
theorem i8.pre(h:T<+:T')(p:i8 T r w):i8 T' r w:=by
 rcases p with p|⟨x,k,p1,b,c⟩|⟨x,k,p1,b,c⟩;.exact .inl p
 .exact .inr (.inl ⟨x,k,p1,b.imp h λ_ _ q=>q,c⟩)
 .exact .inr (.inr ⟨x,k,p1,b.imp h λ_ _ q=>q,c⟩)
noncomputable abbrev KW:ab W:=[fW,ea,d6,gy,d0,dZ]
theorem ek.ind{P:Row->W->Prop}(hk:∀s∈KW,P (.key s) s)(e:P (.bool 0 0) hK)(i:P (.bool 1 0) i9)(hs:∀c,P (.str [c]) [34,c,34])(g:∀m<10,P (.num m) [48+m])(h:ek r w):P r w:=by
 induction r using Row.casesOn with
 |key s=>rw[h.2];exact hk s h.1|bool b f=>
  obtain⟨rfl,⟨rfl,rfl⟩|⟨rfl,rfl⟩⟩:=h;.exact e
  .exact i|str z=>
  rcases z with _|⟨c,_|⟨d,z⟩⟩;.exact ay h.1 (by decide)
  .rw[h.2];exact hs c
  .exact ay h.1 (by simp)|num m=>rw[h.2];exact g m h.1|_=>exact h.elim
theorem xS(h:(w.head?.any λp=>decide (p<128))=true):mG w:=by
 rcases w with _|⟨p,r⟩;.exact fO h
 .exact⟨p,r,rfl,aT h⟩
theorem ek.k{w k:W}{r:Row}(h:ek r w)(b:(hK≠k/\i9≠k)/\k.head?≠some 34/\k.length≠1):w=k->r=.key k:=ek.ind (P:=λr w=>w=k->r=.key k) (λs _ e=>ah Row.key e) (λe=>ay e b.1.1) (λe=>ay e b.1.2) (λc e=>ay (e▸rfl) b.2.1) (λm _ e=>ay (e▸rfl) b.2.2) h
theorem od:tM ek where
 ok:=ek.ind (P:=λ_ w=>mG w) (λs hs=>xS ((show∀s∈KW,(s.head?.any λp=>decide (p<128))=true by decide) s hs)) (xS rfl) (xS rfl) (λ_=>xS rfl) λm d=>⟨_,_,rfl,by lia⟩;Uh:=ek.ind (P:=λ_ w=>w≠fF) (by decide) (by decide) (by decide) (λ_ e=>ay (bx e).1 (by decide)) λm d e=>xn (bx e).2;jW:=by intro r w f h e;subst e;exact h
 fresh:=by intro r w b h e;subst e;exact ay h.1 (by decide)
 MX:=by intro r w h e;subst e;exact ay h.1 (by decide)
 err:=by intro r w h e;subst e;exact ay h.1 (by decide)
 key:=by intro r w s h e;subst e;exact h.2
 any:=λh=>h.k (by decide) rfl;DM:=λh=>h.k (by decide) rfl;str:=λh=>h.k (by decide) rfl;num:=λh=>h.k (by decide) rfl;TF:=λh=>h.k (by decide) rfl;lit:=ek.ind (P:=λr w=>isLit w=true↔∃s,r=.str s) (λs hs=>⟨λe=>ay e ((show∀s∈KW,¬isLit s=true by decide) s hs),λ⟨_,e⟩=>xc Row.ctorIdx e rfl⟩) ⟨λe=>ay e (by decide),λ⟨_,e⟩=>xc Row.ctorIdx e rfl⟩ ⟨λe=>ay e (by decide),λ⟨_,e⟩=>xc Row.ctorIdx e rfl⟩ (λc=>⟨λ_=>⟨_,rfl⟩,λ_=>rfl⟩) λm d=>⟨λe=>by simp[isLit]at e;lia,λ⟨_,e⟩=>xc Row.ctorIdx e rfl⟩;Ud:=ek.ind (P:=λr w=>i' w=true↔∃s,r=.num s) (λs hs=>⟨λe=>ay e ((show∀s∈KW,¬i' s=true by decide) s hs),λ⟨_,e⟩=>xc Row.ctorIdx e rfl⟩) ⟨λe=>ay e (by decide),λ⟨_,e⟩=>xc Row.ctorIdx e rfl⟩ ⟨λe=>ay e (by decide),λ⟨_,e⟩=>xc Row.ctorIdx e rfl⟩ (λc=>⟨λe=>by simp[i']at e,λ⟨_,e⟩=>xc Row.ctorIdx e rfl⟩) λm d=>⟨λ_=>⟨_,rfl⟩,λ_=>by simp[i'];lia⟩
noncomputable def brk(w:W):Prop:=(∃r,w=91::r)\/(∃r,w=BB++91::r)\/∃r,w=123::r
theorem iu(h:brk w):mG w/\w≠fF/\w≠fW/\w≠ea/\w≠d0/\w≠dZ/\w≠d6/\isLit w=false/\i' w=false:=by
 refine d9 (show∃p,w.head?=some p/\p∈[91,114,123]from or3 h (λ⟨r,e⟩=>⟨91,e▸rfl,by decide⟩) (λ⟨r,e⟩=>⟨114,e▸rfl,by decide⟩) λ⟨r,e⟩=>⟨123,e▸rfl,by decide⟩) λp c g=>?_;have b:∀{k:W},(k.head?.any λq=>decide (q∈[91,114,123]))=false->w≠k:=λf e=>by rw[←e,c]at f;exact TU ((aE g).symm.trans f)
 have d:=(show∀p∈[91,114,123],p<128/\((some p==some 34)=false)/\(decide (48<=p/\p<=57))=false by decide) p g;exact⟨xS (by rw[c];exact aE d.1),b rfl,b rfl,b rfl,b rfl,b rfl,b rfl,by unfold isLit;rw[c];exact d.2.1,by unfold i';rw[c];exact d.2.2⟩
theorem tM.more(b:tM P)(h:∀r w,Q r w->P r w\/(brk w/\(match r with|.arr _ _|.tup _ _|.obj _ _ _=>True|_=>afz))):tM Q where
 ok:=λ{r w}q=>(h r w q).elim (λp=>b.ok p) λp=>(iu p.1).1;Uh:=λ{r w}q=>(h r w q).elim (λp=>b.Uh p) λp=>(iu p.1).2.1;jW:=λ{r w d}q=>(h r w q).elim (λp=>b.jW p) λp e=>by subst e;exact p.2
 fresh:=λ{r w d}q=>(h r w q).elim (λp=>b.fresh p) λp e=>by subst e;exact p.2
 MX:=λ{r w}q=>(h r w q).elim (λp=>b.MX p) λp e=>by subst e;exact p.2
 err:=λ{r w}q=>(h r w q).elim (λp=>b.err p) λp e=>by subst e;exact p.2
 key:=λ{r w s}q e=>(h r w q).elim (λp=>b.key p e) λp=>by subst e;exact p.2.elim
 any:=λ{r}q=>(h r _ q).elim (λp=>b.any p) λp=>ay rfl (iu p.1).2.2.1;DM:=λ{r}q=>(h r _ q).elim (λp=>b.DM p) λp=>ay rfl (iu p.1).2.2.2.1;str:=λ{r}q=>(h r _ q).elim (λp=>b.str p) λp=>ay rfl (iu p.1).2.2.2.2.1;num:=λ{r}q=>(h r _ q).elim (λp=>b.num p) λp=>ay rfl (iu p.1).2.2.2.2.2.1;TF:=λ{r}q=>(h r _ q).elim (λp=>b.TF p) λp=>ay rfl (iu p.1).2.2.2.2.2.2.1;lit:=λ{r w}q=>by
  rcases h r w q with p|⟨p,c⟩;.exact b.lit p
  .rw[(iu p).2.2.2.2.2.2.2.1];simp;intro s e;subst e;exact c
 Ud:=λ{r w}q=>by
  rcases h r w q with p|⟨p,c⟩;.exact b.Ud p
  .rw[(iu p).2.2.2.2.2.2.2.2];simp;intro s e;subst e;exact c
theorem Ce:tM (i8 T):=od.more λr w h=>by
 refine(let f:Prop:=_;(?_:f));rcases h with p|⟨x,k,b,d,e,c⟩|⟨x,k,b,d,e,c⟩;.exact .inl p
 .exact .inr ⟨.inr (.inl ⟨_,c⟩),by rw[b];trivial⟩
 .exact .inr ⟨.inl ⟨_,c⟩,by rw[b];trivial⟩
theorem len_sub{c:Type}[bD c]:∀{l l':ab c},l.Nodup->(∀x∈l,x∈l')->l.length<=l'.length|[],_,_,_=>by simp|a::l,l',h,hs=>by replace h:=a7.mp h;have b:=hs a ((.head _));have:=len_sub h.2 λx d=>(ab3 (λ(e:x=a)=>h.1 (e▸d))).mpr (hs x ((.tail _ ‹_›)));rw[abg b]at this;have:0<l'.length:=aaw b;simp only[bf];omega
theorem wa{m d:Type}[bD d]{R:d->m->Prop}(f:∀q w j,R q w->R q j->w=j):∀{k:ab m}{l:ab d},k.Nodup->(∀w∈k,∃q∈l,R q w)->k.length<=l.length
 |[],_,_,_=>by simp|a::k,l,h,hs=>by
  replace h:=a7.mp h;refine d9 (hs a ((.head _))) λq g o=>?_;have:=wa f h.2 λw p=>by refine d9 (hs w ((.tail _ ‹_›))) λi c b=>?_;exact i12 i ((ab3 (λ(e:i=q)=>h.1 (f q a w o (e▸b)▸p))).mpr c) b
  rw[abg g]at this;have:0<l.length:=aaw g;simp only[bf];omega
theorem ek.det(h:ek r w)(h':ek r c):w=c:=by
 rcases r with⟨⟩<;>first|exact h.elim|skip
 .rw[h.2,h'.2]
 .rcases h.2with⟨a,rfl⟩|⟨a,rfl⟩<;>rcases h'.2with⟨b,rfl⟩|⟨b,rfl⟩<;>first|rfl|lia
 .rw[h.2,h'.2]
 .rw[h.2,h'.2]
theorem ShQ.det(l:∀r w c,P r w->P r c->w=c)(h:ShQ P T t k)(h':ShQ P T t k'):k=k':=by
 refine pN h.wz.ss h'.wz.ss λw=>⟨λj=>?_,λj=>?_⟩;.obtain⟨q,i,r,d,e⟩:=h.mC w j;obtain⟨m,c,b,f,g⟩:=h'.to q i;rw[d]at b;cases b;rw[l _ _ _ e f];exact g
 .obtain⟨q,i,r,d,e⟩:=h'.mC w j;obtain⟨m,c,b,f,g⟩:=h.to q i;rw[d]at b;cases b;rw[l _ _ _ e f];exact g
theorem i8.det(h:i8 T r w)(h':i8 T r m):w=m:=by
 rcases h with p|⟨x,k,p1,g,l,j⟩|⟨x,k,p1,g,l,j⟩<;>rcases h' with f|⟨o,k',c,d,i,e⟩|⟨o,k',c,d,i,e⟩;.exact p.det f
 .subst c;exact p.elim
 .subst c;exact p.elim
 .subst p1;exact f.elim
 .rw[p1]at c;cases c;rw[j,e,ShQ.det (P:=ek) (λ_ _ _ a b=>ek.det a b) g d]
 .rw[p1]at c;exact xc Row.ctorIdx c rfl
 .subst p1;exact f.elim
 .rw[p1]at c;exact xc Row.ctorIdx c rfl
 .rw[p1]at c;cases c;rw[j,e,ShQ.det (P:=ek) (λ_ _ _ a b=>ek.det a b) g d]
theorem ShQ.len(g:∀r w b,P r w->P r b->w=b)(h:ShQ P T t k):k.length<=(parts T t).length:=by refine wa (λq w b⟨r,d,e⟩⟨i,c,f⟩=>?_) h.wz.ss.nd h.mC;rw[d]at c;obtain rfl:=sI c;exact g _ _ _ e f
noncomputable def Jp(q:Nat):bt:=!(decide (q=4)||decide (q=5))
noncomputable def Small(T:ab Row)(t:Nat):Prop:=((parts T t).filter Jp).length<=3
theorem Qq{l:ab Nat}(h:l.Nodup)(hs:(l.filter Jp).length<=3):l.length<=5:=by
 have c:l.length<=(4::5::l.filter Jp).length:=len_sub h λq d=>by
  by_cases b:Jp q=true;.simp[d,b]
  .have:q=4\/q=5:=by simp[Jp]at b;lia
   rcases this with rfl|rfl<;>simp
 simp only[bf]at c;lia
theorem pX{l l':ab Nat}(h:l'.Nodup)(hs:(l.filter Jp).length<=3)(c:∀q∈l',q∈l\/Jp q=false):(l'.filter Jp).length<=3:=by
 refine au (len_sub (cp _ h) λq b=>?_) hs;rw[aO]at b⊢;rcases c q b.1with e|e;.exact⟨e,b.2⟩
 .rw[e]at b;exact ay b.2 (by decide)
structure Kq(P:Row->W->Prop)(T:ab Row)(t:Nat)(k:ab W):Prop extends ShQ P T t k where
 sm:Small T t
noncomputable abbrev K0(T:ab Row)(t:Nat)(k:ab W):Prop:=Kq ek T t k
noncomputable abbrev Kd(T:ab Row)(t:Nat)(k:ab W):Prop:=Kq (i8 T) T t k
theorem Kq.p5(h:Kq P T t k):(parts T t).length<=5:=Qq h.nd h.sm
theorem K0.l5(h:K0 T t k):k.length<=5:=au (ShQ.len (P:=ek) (λ_ _ _ a b=>ek.det a b) h.toShQ) h.p5
theorem Kd.l5(h:Kd T t k):k.length<=5:=au (ShQ.len (P:=i8 T) (λ_ _ _ a b=>i8.det a b) h.toShQ) h.p5
theorem Kq.imp(h:T<+:T')(b:∀r w,P r w->Q r w)(s:Kq P T t k):Kq Q T' t k:=⟨s.toShQ.imp h b,by unfold Small;rw[kh h s.lt];exact s.sm⟩
theorem K0.pre(h:T<+:T')(s:K0 T t k):K0 T' t k:=s.imp h λ_ _ q=>q
theorem Kd.pre(h:T<+:T')(s:Kd T t k):Kd T' t k:=s.imp h λ_ _ q=>q.pre h
theorem K0.up(s:K0 T t k):Kd T t k:=s.imp (aq _) λ_ _ q=>.inl q
theorem ek.len(h:ek r w):w.length<=9:=by
 rcases r with⟨⟩<;>first|exact h.elim|skip
 .obtain⟨h,rfl⟩:=h;replace h:=W5 h;rcases h with rfl|rfl|rfl|rfl|rfl|rfl<;>decide
 .rcases h.2with⟨_,rfl⟩|⟨_,rfl⟩<;>decide
 .rw[h.2];simp[h.1]
 .rw[h.2];simp
theorem iM:∀{k:ab W},(∀w∈k,w.length<=m)->(gf R k).length<=k.length*(m+R.length)|[],_=>(de _ _)|[w],h=>by have:=h w ((.head _));simp[gf];lia|w::v::r,h=>by have b:=h w ((.head _));have c:=iM (R:=R) λx d=>h x ((.tail _ ‹_›));rw[(show(w::v::r).length*(m+R.length)=(v::r).length*(m+R.length)+(m+R.length)from by rw[bf,Nat.add_mul,Nat.one_mul])];show(w++R++gf R (v::r)).length<=_;simp only[ao,ao];lia
theorem t9(h:∀w∈k,w.length<=m)(b:k.length<=5):(iR k).length<=5*(m+1):=by
 unfold iR;split;.simp;lia
 .refine au (iM h) (cq _ b)
theorem ShQ.w9(h:ShQ ek T t k):∀w∈k,w.length<=9:=λw c=>by refine d9 (h.mC w c) λq f d=>?_;refine d9 d λr e b=>?_;exact b.len
theorem i8.len(h:i8 T r w):w.length<=80:=by
 rcases h with p|⟨x,k,p1,b,c,d⟩|⟨x,k,p1,b,c,d⟩;.have:=p.len;lia
 .have:=t9 b.w9 c;rw[d];simp[N4];lia
 .have:=t9 b.w9 c;rw[d];simp[zd];lia
theorem ShQ.YP(h:ShQ (i8 T) T t k):∀w∈k,w.length<=80:=λw c=>by refine d9 (h.mC w c) λq f d=>?_;refine d9 d λr e b=>?_;exact b.len
theorem ShQ.mG(c:tM P)(h:ShQ P T t k):∀w∈k,mG w:=λw d=>by refine d9 (h.mC w d) λq g e=>?_;refine d9 e λr f b=>?_;exact c.ok b
theorem ma(d:tM P)(G:Good k T)(h:T[q]?=some r)(b:P r w):ShQ P T q [w]:=by
 have g:q≠2:=by intro e;subst e;rw[G.at (i:=2) rfl]at h;cases h;exact d.MX b rfl
 have e:=eQ h g λj=>d.jW b;refine⟨gL h,vP,by rw[e];simp,λx c=>?_,λv f=>?_⟩;.rw[e]at c;simp only[af,ai,a5]at c;subst c;exact⟨r,w,h,b,by simp⟩
 .simp only[af,ai,a5]at f;subst f;exact⟨q,by rw[e];simp,r,h,b⟩
theorem xt(G:Good k T):Kq P T 2 []:=⟨⟨gL (G.at rfl),pA,by simp[parts],λq b=>by simp[parts]at b,λw c=>by exact kr c⟩,(de _ _)⟩
section
variable{F:ab Int}{T:ab Row}{X Y L:ab Cell}{n wm:Nat}{H:Hp}
structure O7(P:ab Row->Row->W->Prop):Prop where
 Nu:∀T,tM (P T)
 pre:∀{T T' r w},T<+:T'->P T r w->P T' r w
 simp:∀{T r w},P T r w->o9 r=true
theorem ek.simp(h:ek r w):o9 r=true:=by rcases r with⟨⟩<;>first|rfl|exact h.elim
theorem Tj:O7 λ_=>ek:=⟨λ_=>od,λ_ p=>p,ek.simp⟩
theorem DY:O7 i8:=⟨λ_=>Ce,λh p=>p.pre h,λ{T r w}h=>by
 rcases h with p|⟨x,k,b,_⟩|⟨x,k,b,_⟩;.exact p.simp
 .rw[b];rfl
 .rw[b];rfl⟩
variable{P:ab Row->Row->W->Prop}{t g:Nat}{k:ab W}
theorem Z0(b:O7 P)(G:Good g T)(h:T[q]?=some r)(p:P T r d6):q=4:=by have:=(b.Nu T).TF p;subst this;exact G.id h (G.at rfl)
theorem JQ{c:Type}{x a b:c}:x∈[a,b]↔x=a\/x=b:=by simp
theorem x6(b:tM (P T))(G:Good g T)(h:T[q]?=some r)(p:P T r w):parts T q=[q]:=by refine eQ h ?_ λc=>b.jW p;intro e;subst e;rw[G.at rfl]at h;obtain rfl:=sI h;exact b.MX p rfl
theorem tw(c:O7 P)(G:Good (g+1) T)(K:Kq (P T) T t k)(r:T[j]?=some (.key s))(y:P T (.key s) s)(J:Jp j=false)(i:ts=[t,j]\/ts=[j,t])(N:tp x (ts.map nD)){B:Prop}(κ:∀t' T',Runs 3 289 [d7,.d x] T (.d (nD t')) T'->Good g T'->T<+:T'->Kq (P T') T' t' (ei [k,[s]])->B):B:=by
 have e:=x6 (c.Nu T) G r y;have m:∀{q},q∈ts↔q=t\/q=j:=λ{q}=>i.elim (λh=>by rw[h,JQ]) λh=>by rw[h,JQ,or_comm]
 have f:(ts.flatMap (parts T)).length<64:=by have:=K.p5;rcases i with h|h<;>rw[h]<;>simp[e]<;>lia
 have z:=K.toShQ;have A:=ma (c.Nu T) G r y;clear i;refine tA (Z:=[k,[s]]) (c.Nu T) G N (λq b=>(m.mp b).elim (λh=>⟨k,.head _,h▸z⟩) λh=>⟨_,.tail _ (.head _),h▸A⟩) (λl f=>(QI f).elim (λh=>⟨t,m.mpr (.inl rfl),h▸z⟩) λh=>⟨j,m.mpr (.inr rfl),h▸A⟩) f λt' T' C E o p I _ _=>?_;refine κ t' T' C E o ⟨p.imp (aq _) λ_ _ q=>c.pre o q,pX p.nd K.sm λq b=>?_⟩;refine d9 (cu.mp (I q b)) λu M b=>?_;rcases m.mp M with h|h;.exact .inl (h▸b)
 .rw[h,e]at b;exact .inr (kE b▸J)
theorem l8{P:Row->W->Prop}(j:tM P)(G:Good (g+1) T){qs:ab Nat}(J:tp x (qs.map nD))(z:∀q∈qs,∃r w,T[q]?=some r/\P r w/\w∈k)(C:∀w∈k,∃q∈qs,∃r,T[q]?=some r/\P r w)(N:wy k)(f:qs.length<64){B:Prop}(κ:∀t' T',Runs 3 289 [d7,.d x] T (.d (nD t')) T'->Good g T'->T<+:T'->ShQ P T' t' k->(∀q∈parts T' t',q∈qs)->(∀q∈qs,∀r w,T[q]?=some r->P r w->w∈k->q∈parts T' t')->B):B:=by
 have A:qs.flatMap (parts T)=qs:=FX λq i=>by refine iL (z q i) λr w a b _=>?_;exact x6 (P:=λ_=>P) j G a b
 have E:ei (k.map λw=>[w])=k:=N.join λw=>⟨λh=>by refine d9 h λl f m=>?_;refine d9 (ag.mp f) λv I e=>?_;rw[←e]at m;rw[kE m];exact I,λh=>⟨[w],ag.mpr ⟨w,h,rfl⟩,.head _⟩⟩;refine tA (Z:=k.map λw=>[w]) j G J (λq i=>?_) (λl f=>?_) (by rw[A];exact f) λt' T' c g p s sub o _=>?_;.refine iL (z q i) λr w a b c=>?_;exact i12 [w] (ag.mpr ⟨w,c,rfl⟩) (ma j G a b)
 .refine d9 (ag.mp f) λw m e=>?_;refine d9 (C w m) λq i y=>?_;refine d9 y λr a b=>?_;exact i12 q i (e▸ma j G a b)
 .rw[E]at s o;rw[A]at sub o;exact κ t' T' c g p s sub o
theorem GO(G:Good (g+1) T)(K:Kd T t k)(e:tp x [nD t,nD 4]):∃t' T',Runs 3 289 [d7,.d x] T (.d (nD t')) T'/\Good g T'/\T<+:T'/\Kd T' t' (ei [k,[d6]]):=tw (ts:=[t,4]) DY G K (G.at (i:=4) rfl) (.inl ⟨by decide,rfl⟩) rfl (.inl rfl) e λt' T' a b c d=>rh t' T' a b c d
theorem Fp(m:O7 P)(G:Good (g+1) T)(K:Kq (P T) T t k):∃t' T',Runs 4 294 [d7,.d (nD t),.d (.lst [.int 4])] T (.d (nD t')) T'/\Good g T'/\T<+:T'/\Kq (P T') T' t' (k.filter λw=>decide (w≠d6)):=by
 refine(let B:Prop:=_;(?_:B));refine l8 (m.Nu T) G (qs:=(parts T t).filter (λq=>decide (q≠4))) (k:=k.filter λw=>decide (w≠d6)) (.inr rfl) (λq j=>?_) (λw p=>?_) K.wz.filter (aj (aX _ _) (aj K.p5 (by decide))) λt' T' f i l s z _=>?_;.rw[aO,ba]at j;refine iL (K.to q j.1) λr w f i l=>?_;exact Dg r w f i (aO.mpr ⟨l,aE λe=>j.2 (Z0 m G f (e▸i))⟩)
 .rw[aO,ba]at p;refine d9 (K.mC w p.1) λq j A=>?_;refine d9 A λr f i=>?_;refine i12 q (aO.mpr ⟨j,aE λe=>?_⟩) (i12 r f i);subst e;rw[G.at rfl]at f;obtain rfl:=sI f;exact p.2 ((m.Nu T).key i rfl)
 refine jR t' T' ⟨?_,i,l,s.imp (aq _) λ_ _ q=>m.pre l q,pX s.nd K.sm λq j=>.inl (aO.mp (z q j)).1⟩;intro n wm F X;have y:=gB (elt:=(dM 3).run) (cs:=(gi [TE (dS .NotIn (dM 3) (dM 2))]).run) (c:=⟨cF (n+3),11+X.length⟩) (H:=hs F T X) [some d7,some (.d (nD t)),some (.d (.lst [.int 4]))] (parts T t) (λq=>decide (q≠4)) nD (o:=none) (λq _=>by have e:f6 .NotIn (nD q) (.d (.lst [.int 4])) (hs F T X)=some (!decide (q∈[4])):=ah (cJ (!·)) (o8 (k:=[4]));rw[show(!decide (q∈[4]))=decide (q≠4)from by simp]at e;generalize decide (q≠4)=b at*;rcases b with⟨⟩<;>exact wb [sb 1 e]) (λq _ _=>rfl);generalize(parts T t).filter (λq=>decide (q≠4))=C at f y;exact wk Df dT [dR 3 ((nG K.lt) (n+2) (11+X.length) F X),jY 1 y,dR 1 (f n (11+X.length) F X),dR 0 (dU F X (nD t') T')]
theorem CR(h:T[q]?=some r)(f:o9 r=true):d5 (iS.map BS.run) ⟨cF (n+1),11+X.length⟩ [some d7,some (.d (nD t)),some (.d (.bool false)),some (.d (nD q)),Z,N] (hs F T X)=some (.er,[some d7,some (.d (nD t)),some (.d (.bool false)),some (.d (nD q)),some (.d (gF r)),some (.d (.tup [nD q]))],hs F T X):=by have i:=BH (r:=r) (H:=hs F T X);have j:¬(kc r:Int)=19:=λe=>ay (cP e▸MF (r:=r)) (by decide);exact wq [sv 2 (fR F X h),sv 1 i,sb 1 (eA j),jY 3 (fV (elt:=(dO 558 [dM 0,dM 6]).run) (c:=⟨cF (n+1),11+X.length⟩) (e:=nD) (H:=hs F T X) [some d7,some (.d (nD t)),some (.d (.bool false)),some (.d (nD q)),some (.d (gF r)),some (.d (.tup [nD q]))] [q] (λ_=>.bool false) (λl b=>by rw[kE b];exact wd [dR 2 (kL h f n (11+X.length) F X)]) (o:=none)),sv 4 i,sb 1 (eA j)]
theorem P0(l:O7 P)(G:Good g T)(K:Kq (P T) T t k):Runs 2 657 [d7,.d (nD t)] T (.d (.bool false)) T:=by
 intro n wm F X;refine lM (b:=iS) (tg:=.one 3) (c:=⟨cF (n+1),11+X.length⟩) (e:=nD) (σ:=ae V×ae V×ae V) (λo=>[some d7,some (.d (nD t)),some (.d (.bool false)),o.1,o.2.1,o.2.2]) (λ_=>hs F T X) (parts T t) (λd q r o m=>?_) (s:=(none,none,none)) λo f=>?_;.refine iL (K.to q (eL m (aN _ (.head _)))) λr w i j _=>?_;exact xA _ (some (.d (nD q)),some (.d (gF r)),some (.d (.tup [nD q]))) rfl (CR i (l.simp j))
 exact wk rn dT [dR 2 (nG K.lt n (11+X.length) F X),mf 1 f,dR 0 (dU F X (D.bool false) T)]
theorem Rm(f:O7 P)(G:Good g T)(K:Kq (P T) T 4 k):k.filter (λw=>decide (w≠d6))=[]:=by refine aax.mpr ?_;intro w j;refine hd λ_ c=>?_;obtain⟨q,b,r,d,e⟩:=K.mC w j;rw[(eQ (G.at (i:=4) rfl) (by decide) (by simp))]at b;simp only[af,ai,a5]at b;subst b;rw[G.at rfl]at d;obtain rfl:=sI d;refine c ?_;simp[(f.Nu T).key e rfl]
theorem Ie(G:Good (g+1) T)(K:Kd T t k):∃t' T',Runs 5 664 [eb,.d (nD t)] T (.d (nD t')) T'/\Good g T'/\T<+:T'/\Kd T' t' (k.filter λw=>decide (w≠d6)):=by
 refine(let m:Prop:=_;(?_:m));have c:=P0 DY G K;have b:=iF (T:=T) (t:=t);by_cases j:t=4;.
  subst j;refine jR 2 T ⟨?_,G.le ((aH _ _)),aq _,?_⟩;.intro n wm F X;exact wk qI dT [dR 3 (c (n+2) (11+X.length) F X),dR 3 (b (n+3) (11+X.length) F X),dR 3 (dU F X (D.int 2) T)]
  .rw[Rm DY G K];exact xt G
 .refine jt (Fp DY G K) λt' T' e f i l=>?_;refine jR t' T' ⟨?_,f,i,l⟩;intro n wm F X;exact wk qI dT [dR 3 (c (n+2) (11+X.length) F X),dR 3 (b (n+3) (11+X.length) F X),sb 1 (eA (show¬(t:Int)=4from by lia)),dR 5 (e n (11+X.length) F X),dR 0 (dU F X (nD t') T')]
theorem join_filter:ei [k.filter λw=>decide (w≠d6),[d6]]=ei [k,[d6]]:=uw λw=>by by_cases e:w=d6<;>simp[e]
theorem Ip(G:Good (g+1) T)(K:Kd T t k):∃t' T' b,Runs 5 671 [d7,.d (nD t)] T (.d (nD t')) T'/\Good g T'/\T<+:T'/\Kd T' t' b/\ei [b,[d6]]=ei [k,[d6]]:=by
 refine(let l:Prop:=_;(?_:l));by_cases i:t=4;.subst i;refine MM 4 T k ⟨?_,G.le (by lia),aq _,K,rfl⟩;intro n wm F X;exact wk mg dT [dR 3 (dU F X (nD 4) T)]
 .refine jt (Fp DY G K) λt' T' c e f j=>?_;refine MM t' T' _ ⟨?_,e,f,j,join_filter⟩;intro n wm F X;exact wk mg dT [sb 1 (eA (show¬(t:Int)=4from by lia)),dR 5 (c n (11+X.length) F X),dR 0 (dU F X (nD t') T')]
end
section
variable{F:ab Int}{T T1:ab Row}{X Y L:ab Cell}{n wm:Nat}{H:Hp}{i κ t g:Nat}{k:ab W}
noncomputable abbrev gN(κ:Nat):Cell:=.eJ [(.int 0,nD κ)] false
theorem map_len(h:X[i]?=some (gN κ)):iw 200 [.ref (11+i)] (hs F T X)=some (.int 1):=by show((jB (.ref (11+i)) (hs F T X)).map bq).map (λn:Nat=>D.int n)=_;rw[show jB (.ref (11+i)) (hs F T X)=some [D.int 0]from by unfold jB;dsimp only;rw[yA,h];rfl];rfl
theorem oR(h:X[i]?=some (gN κ)):ik (.ref (11+i)) (hs F T X)=some (.ref (11+i),hs F T X):=by unfold ik;dsimp only;rw[yA,h]
theorem map_mk(h:X[i]?=some (gN κ)):iZ dP (.ref (11+i)) 103 (hs F T X)=true:=VW (yA.trans h)
theorem J1(h:X[i]?=some (gN κ)):fJ dP c (.ref (11+i)) 103 [.d (nD 0),.d e] (hs F T X)=some (.d (nD κ),hs F T X):=by unfold fJ;dsimp only;rw[yA,h];show(if 103=103/\(((nD 0).sort.any λq=>eg q [(D.int 0,nD κ)])=true)then(hW (nD 0) [(.int 0,nD κ)]).map (λr=>(V.d (r.getD e),hs F T X))else none)=_;rw[aW ⟨rfl,rfl⟩];rfl
noncomputable abbrev kJ(d t t':Nat)(T T':ab Row)(κ:Nat):Prop:=∀(n wm:Nat)(F:ab Int)(X:ab Cell)(i:Nat),X[i]?=some (gN κ)->cF (n+d) wm 902 [eb,.d (nD t),.ref (11+i)] (hs F T X)=some (.d (nD t'),hs F T' X)
noncomputable def uj:Row->bt|.key _|.bool _ _|.str _|.num _=>true|_=>false
theorem ek.atom(h:ek r w):uj r=true:=by rcases r with⟨⟩<;>first|rfl|exact h.elim
theorem wF(h:T[t]?=some r)(e:X[i]?=some (gN κ)):d5 ((hY.take 2).map BS.run) c (uD 4 [eb,.d (nD t),.ref (11+i)]) (hs F T X)=some (.er,[some eb,some (.d (nD t)),some (.ref (11+i)),some (.d (gF r))],hs F T X):=by have B:=map_len (F:=F) (T:=T) e;have b:=fR F X h;exact wq [sd 3 B,sv 6 b]
theorem JK(h:uj r=true):kc r<=4:=by induction r using Row.casesOn with|key s=>exact bo rfl|bool a b=>exact bo rfl|str s=>exact bo rfl|num s=>exact bo rfl|_=>exact fO h
theorem MA(h:T[t]?=some r)(m:uj r=true):kJ 2 t t T T κ:=by intro n wm F X i f;have c:=BH (r:=r) (H:=hs F T X);have e:=dU F X (nD t) T;have q:=λj(h:4<j)=>eA (hJ (ct (aj (JK m) h)));have l:cF (n+1) (11+X.length) 895 [eb,.d (nD t),.d (gF r),.ref (11+i)] (hs F T X)=some (.d (nD t),hs F T X):=wk yx dT [sv 1 c,sb 1 (q 15 (by decide)),sv 2 c,sb 1 (q 14 (by decide)),sv 2 c,sb 1 (q 18 (by decide)),sv 2 c,sb 1 (q 9 (by decide)),sv 2 c,sb 1 (q 19 (by decide)),sv 2 c,sb 1 (q 16 (by decide)),dR 1 e];refine(jH _ _ _ _).trans (mh (b:=hY.drop 2) rfl dT (wF h f) ?_);exact wf [sv 1 c,sb 1 (q 10 (by decide)),sv 2 c,sb 1 (q 6 (by decide)),sv 2 c,sb 1 (q 11 (by decide)),sv 2 c,sb 1 (q 12 (by decide)),sv 2 c,sb 1 (q 8 (by decide)),sv 2 c,sb 1 (q 13 (by decide)),dR 4 (oR (F:=F) (T:=T) f),dR 0 l,dR 0 e]
theorem Fc(h:T[t]?=some (.param 0)):kJ 1 t κ T T κ:=by intro n wm F X i d;refine(jH _ _ _ _).trans (mh (b:=hY.drop 2) rfl dT (wF h d) ?_);exact wf [sb 5 (ah some (map_mk (F:=F) (T:=T) d)),dR 4 (J1 (F:=F) (T:=T) d (c:=⟨cF n,11+X.length⟩) (e:=nD t)),dR 0 (dU F X (nD κ) T)]
noncomputable def subQ(κ q:Nat):Nat:=if q=16then κ else q
theorem Ov(G:Good g T){ps:ab Nat}(j:∀q∈ps,q=16\/∃r,T[q]?=some r/\uj r=true)(f:X[i]?=some (gN κ)):cF (n+3) wm 859 [eb,.d (.tup (ps.map nD)),.ref (11+i)] (hs F T X)=some (.d (.tup ((ps.map (subQ κ)).map nD)),hs F T X):=by
 have p:=fV (elt:=(dO 902 [(dM 0),(dM 3),(dM 2)]).run) (c:=⟨cF (n+2),11+X.length⟩) (e:=nD) (H:=hs F T X) [some eb,some (.d (.tup (ps.map nD))),some (.ref (11+i))] ps (λq=>nD (subQ κ q)) (o:=none) (λq s=>by
  have h:cF (n+2) (11+X.length) 902 [eb,.d (nD q),.ref (11+i)] (hs F T X)=some (.d (nD (subQ κ q)),hs F T X):=by
   rcases j q s with rfl|h;.exact Fc (G.at rfl) (n+1) _ F X i f
   .refine d9 h λr b m=>?_;have:q≠16:=by intro e;subst e;rw[G.at rfl]at b;obtain rfl:=sI b;exact fO m
    unfold subQ;rw[aZ this];exact MA b m n _ F X i f
  exact wd [dR 2 (oR (F:=F) (T:=T) f),dR 0 h]);have l:=dU F X (D.tup ((ps.map (subQ κ)).map nD)) T;rw[aK]at l⊢;exact wk z9 dT [jY 1 p,dR 1 l]
theorem Mv(G:Good g T)(h:T[t]?=some (.jW ps))(f:∀q∈ps,q=16\/∃r,T[q]?=some r/\uj r=true)(c:Runs 3 289 [d7,.d (.tup ((ps.map (subQ κ)).map nD))] T (.d (nD t')) T'):kJ 4 t t' T T' κ:=by intro n wm F X i e;have j:=Ov (n:=n) (wm:=11+X.length) (F:=F) G f e;have c:=c n (11+X.length) F X;refine(jH _ _ _ _).trans (mh (b:=hY.drop 2) rfl dT (wF h e) ?_);generalize(ps.map (subQ κ)).map nD=Q at c j;exact wf [dR 16 (oR (F:=F) (T:=T) e),dR 0 j,dR 1 c,dR 0 (dU F X (nD t') T')]
theorem Tc(h:T[t]?=some (.arr e ro))(j:kJ 4 e c T T1 κ)(f:T1.length<big):kJ 5 t (fL T1 (.arr c ro)) T (fj T1 (.arr c ro)) κ:=by intro n wm F X i d;refine(jH _ _ _ _).trans (mh (b:=hY.drop 2) rfl dT (wF h d) ?_);exact wf [dR 21 (oR (F:=F) (T:=T) d),dR 0 (j n (11+X.length) F X i d),dR 4 (x5 (e:=c) (ro:=ro) f (n+2) (11+X.length) F X),dR 0 (dU F X (nD (fL T1 (.arr c ro))) (fj T1 (.arr c ro)))]
theorem Rc(h:T[t]?=some (.tup [(e,0)] ro))(r:kJ 4 e c T T1 κ)(o:T1.length<big):kJ 6 t (fL T1 (.tup [(c,0)] ro)) T (fj T1 (.tup [(c,0)] ro)) κ:=by intro n wm F X i f;have j:=oR (F:=F) (T:=T) f;have m:=rH (ro:=ro) (show mz [(c,0)]from⟨cj _ _,λx s=>kE s▸bB 2,(by decide:1<64)⟩) (.inl rfl) o (n+1) (11+X.length) F X;rw[show qd [(c,0)] ro=.tup [(c,0)] ro from rfl]at m;have l:=dU F X (nD (fL T1 (.tup [(c,0)] ro))) (fj T1 (.tup [(c,0)] ro));have p:fa (d8 [dO 902 [dM 0,dQ (dM 5) (dN (D.int 0)),dM 2],dQ (dM 5) (dN (D.int 1))]).run (.one 5) (gO []) ⟨cF (n+4),11+X.length⟩ [g8 (e,0)] [some eb,some (.d (gF (.tup [(e,0)] ro))),some (.ref (11+i)),none,none,none] (hs F T X)=some ([g8 (c,0)],hs F T1 X):=uX rfl (wd [dR 4 j,dR 0 (r n (11+X.length) F X i f)]);have q:cF (n+5) (11+X.length) 876 [eb,.d (gF (.tup [(e,0)] ro)),.ref (11+i)] (hs F T X)=some (.d (nD (fL T1 (.tup [(c,0)] ro))),hs F (fj T1 (.tup [(c,0)] ro)) X):=wk mY dT [jY 3 p,dR 9 m,dR 0 l];refine(jH _ _ _ _).trans (mh (b:=hY.drop 2) rfl dT (wF h f) ?_);exact wf [dR 22 j,dR 0 q,dR 0 l]
noncomputable def Ky(T:ab Row)(κ:Nat)(b:W):Prop:=∃r,T[κ]?=some r/\ek r b
theorem Ky.pre(h:T<+:T')(s:Ky T κ kw):Ky T' κ kw:=by obtain⟨r,b,c⟩:=s;exact⟨r,fQ h b,c⟩
theorem Ky.k0(G:Good g T)(s:Ky T κ kw):K0 T κ [kw]:=by
 refine d9 (s) λr b c=>?_;refine⟨(ma od G b c),?_⟩;have:κ≠2:=by intro q;subst q;rw[G.at rfl]at b;obtain rfl:=sI b;exact od.MX c rfl
 unfold Small;refine sY (eQ b this λd=>od.jW c) ?_;exact au (aX _ _) ((de _ _))
theorem AW(G:Good (g+1) T)(K:K0 T t k):∃t' T',kJ 4 t t' T T' κ/\Good g T'/\T<+:T'/\K0 T' t' k:=by
 refine(let N:Prop:=_;(?_:N));have y:=K.lt;have b:=aw y;generalize T[t]=r at b;by_cases B:∃c,r=.jW c;.
  obtain⟨c,rfl⟩:=B;have d:parts T t=c:=by unfold parts;rw[aZ,b];intro e;subst e;rw[G.at rfl]at b;exact xo Row.ctorIdx b rfl
  have j:∀q∈c,∃r w,T[q]?=some r/\ek r w/\w∈k:=λq f=>K.to q (d▸f);have z:∀q∈c,q≠16:=by intro q f e;subst e;refine iL (j _ f) λr w l m _=>?_;rw[G.at rfl]at l;obtain rfl:=sI l;exact m
  have p:c.map (subQ κ)=c:=by
   conv=>rhs;rw[←agf c]
   exact bG λq f=>by simp[subQ,z q f]
  refine l8 od G (.inl rfl) j (λw M=>d▸K.mC w M) K.wz (aj (d▸K.p5) (by decide)) λt' T' l m s A E _=>?_;refine jR t' T' ⟨Mv G b (λq f=>.inr ?_) ((sY p l)),m,s,A,pX A.nd K.sm λq f=>.inl (d▸E q f)⟩;refine iL (j q f) λr w l m _=>?_;exact i12 r l m.atom
 .refine jR t T ⟨?_,G.le ((aH _ _)),aq _,K⟩;have I:uj r=true:=by
   by_cases o:t=2;.subst o;rw[G.at rfl]at b;refine so b ?_;rfl
   .have:=eQ b o (λc e=>B ⟨c,e⟩);refine iL (K.to t (by rw[this];simp)) λO w s C _=>?_;rw[b]at s;obtain rfl:=sI s;exact C.atom
  intro n wm F X i J;exact MA b I (n+2) wm F X i J
noncomputable def Tm(T:ab Row)(x U J:Nat)(B:ab W):Prop:=(U=1/\((J=0/\x=16)\/(J=1/\T[x]?=some (.tup [(16,0)] 0))\/(J=2/\T[x]?=some (.jW [5,16]))\/(J=3/\T[x]?=some (.arr 16 1))))\/(U=2/\((J=0/\K0 T x B)\/(J=1/\∃f,K0 T f B/\T[x]?=some (.tup [(f,0)] 0))\/(J=2/\K0 T x (ei [B,[gy]]))\/(J=3/\∃f,K0 T f B/\T[x]?=some (.arr f 1))))
theorem Tm.pre(h:T<+:T')(s:Tm T x U J B):Tm T' x U J B:=by
 rcases s with⟨e,s⟩|⟨e,s⟩;.
  refine .inl ⟨e,?_⟩;rcases s with s|⟨a,s⟩|⟨a,s⟩|⟨a,s⟩;.exact .inl s
  .exact .inr (.inl ⟨a,fQ h s⟩)
  .exact .inr (.inr (.inl ⟨a,fQ h s⟩))
  .exact .inr (.inr (.inr ⟨a,fQ h s⟩))
 .refine .inr ⟨e,?_⟩;refine(let c:Prop:=_;(?_:c));rcases s with⟨a,s⟩|⟨a,f,s,b⟩|⟨a,s⟩|⟨a,f,s,b⟩;.exact .inl ⟨a,s.pre h⟩
  .exact .inr (.inl ⟨a,f,s.pre h,fQ h b⟩)
  .exact .inr (.inr (.inl ⟨a,s.pre h⟩))
  .exact .inr (.inr (.inr ⟨a,f,s.pre h,fQ h b⟩))
noncomputable def oU(J:Nat)(b:ab W):ab W:=match J with|1=>[zd b]|2=>ei [b,[gy]]|3=>[N4 b]|_=>b
noncomputable def gm(U J:Nat)(B I:ab W)(b:W):ab W:=match U with|0=>I|1=>oU J [b]|_=>oU J B
theorem Bx(h:T[x]?=some (.tup [(f,0)] 0))(m:kJ 4 f d T T1 κ)(c:Good (g+1) T1)(K:K0 T1 d j)(l:T<+:T1):∃t' T',kJ 6 x t' T T' κ/\Good g T'/\T<+:T'/\Kd T' t' [zd j]:=by
 refine jR _ _ ⟨Rc h m c.lt,c.put,l.trans eh,?_⟩;have b:=gr (T:=T1) (r:=.tup [(d,0)] 0);refine⟨ma Ce (c.put) b (.inr (.inr ⟨d,j,rfl,(K.pre eh).toShQ,K.l5,rfl⟩)),?_⟩;unfold Small;rw[eQ b ?_ λo=>by simp];.exact au (aX _ _) ((de _ _))
 .intro e;rw[e,(c.put).at rfl]at b;exact xo Row.ctorIdx b rfl
theorem AQ(h:T[x]?=some (.arr f 1))(m:kJ 4 f d T T1 κ)(c:Good (g+1) T1)(K:K0 T1 d j)(l:T<+:T1):∃t' T',kJ 6 x t' T T' κ/\Good g T'/\T<+:T'/\Kd T' t' [N4 j]:=by
 refine jR _ _ ⟨λn=>Tc h m c.lt (n+1),c.put,l.trans eh,?_⟩;have b:=gr (T:=T1) (r:=.arr d 1);refine⟨ma Ce (c.put) b (.inr (.inl ⟨d,j,rfl,(K.pre eh).toShQ,K.l5,rfl⟩)),?_⟩;unfold Small;rw[eQ b ?_ λo=>by simp];.exact au (aX _ _) ((de _ _))
 .intro e;rw[e,(c.put).at rfl]at b;exact xo Row.ctorIdx b rfl
theorem Wt(G:Good (g+2) T)(S:Tm T x U J B)(z:Ky T κ A)(I:ab W):∃t' T',kJ 6 x t' T T' κ/\Good g T'/\T<+:T'/\Kd T' t' (gm U J B I A):=by
 refine(let C:Prop:=_;(?_:C));have o:Good g T:=G.le ((aH _ _));have m:Good (g+1) T:=G.le (by lia);have e:=z.k0 o;have l:kJ 4 16 κ T T κ:=λn=>Fc (G.at (i:=16) rfl) (n+3);rcases S with⟨rfl,s⟩|⟨rfl,s⟩;.
  rcases s with⟨rfl,rfl⟩|⟨rfl,s⟩|⟨rfl,s⟩|⟨rfl,s⟩;.exact jR κ T ⟨λn=>l (n+2),o,aq _,e.up⟩
  .exact Bx s l m e (aq _)
  .refine tw Tj m e (G.at (i:=5) rfl) ⟨by decide,rfl⟩ rfl (.inr rfl) (.inl rfl) λt' T' b c d y=>?_;refine jR t' T' ⟨λn=>Mv o s (λq p=>?_) b (n+2),c,d,K0.up y⟩;replace p:=QI p;rcases p with rfl|rfl;.exact .inr ⟨_,G.at rfl,rfl⟩
   .exact .inl rfl
  .exact AQ s l m e (aq _)
 .rcases s with⟨rfl,s⟩|⟨rfl,f,s,r⟩|⟨rfl,s⟩|⟨rfl,f,s,r⟩;.refine jt (AW (κ:=κ) m s) λt' T' b c d j=>?_;exact jR t' T' ⟨λn=>b (n+2),c,d,j.up⟩
  .refine jt (AW (κ:=κ) G s) λt' T' b c d j=>?_;exact Bx r b c j d
  .refine jt (AW (κ:=κ) m s) λt' T' b c d j=>?_;exact jR t' T' ⟨λn=>b (n+2),c,d,j.up⟩
  .refine jt (AW (κ:=κ) G s) λt' T' b c d j=>?_;exact AQ r b c j d
noncomputable def eM(Q:Nat)(as:Int)(x m ro:Nat):D:=.tup [.int 17,.int 0,nD Q,.int as,nD x,nD m,nD ro]
theorem EH(G:Good (g+2) T)(S:Tm T x U J B)(p:Ky T κ q)(I:ab W):∃t' T',Runs 8 685 [eb,.d (eM Q as x m ro),.d (nD κ)] T (.d (nD t')) T'/\Good g T'/\T<+:T'/\Kd T' t' (gm U J B I q):=by
 refine(let r:Prop:=_;(?_:r));refine jt (Wt G S p I) λt' T' b c f j=>?_;refine jR t' T' ⟨?_,c,f,j⟩;intro n wm F X;have l:∀wm,cF (n+7) wm 923 [eb,.d (nD x),.ref (11+X.length)] (hs F T (X++[gN κ]))=some (.d (nD t'),hs F T' (X++[gN κ])):=by
  intro wm;have e:afb (11+(X.length+1)) (hs F T' (X++[gN κ]))=hs F T' (X++[gN κ]):=by have:=jG (F:=F) (T:=T') (X:=X++[gN κ]);simpa using this
  exact wk lp dT [dR 2 (show ik (V.ref (11+X.length)) (hs F T (X++[gN κ]))=some (V.ref (11+X.length),hs F T (X++[gN κ]))by simp[ik]),dR 0 (show cF (n+6) (11+(X++[gN κ]).length) 902 [V.ins 926 10,V.d (nD x),V.ref (11+X.length)] (hs F T (X++[gN κ]))=some (V.d (nD t'),hs F T' (X++[gN κ]))by simp[(b n (11+(X.length+1)) F (X++[gN κ]) X.length (by simp))]),dR 0 (dU F (X++[gN κ]) (nD t') T')]
 have o:ik (.ref (11+X.length)) (hs F T (X++[gN κ]))=some (.ref (11+X.length),hs F T (X++[gN κ])):=by simp[ik]
 exact wk t7 dT [dR 8 (iD F X (Cell.eJ [(D.int 0,nD κ)] false) T),dR 0 o,dR 0 (l (11+X.length)),dR 0 (i0 F X [gN κ] (nD t') T')]
end
section
variable{F:ab Int}{T T1:ab Row}{X Y L:ab Cell}{n wm:Nat}{H:Hp}{i κ t g:Nat}{k:ab W}{Q m ro x U J:Nat}{as:Int}{B:ab W}{kw:W}
@[simp]theorem U':nD 0=.int 0:=rfl
@[simp]theorem WQ:nD 1=.int 1:=rfl
theorem Rt{a b:Nat}:((a:Int)=(b:Int))↔a=b:=by lia
noncomputable def hQ(m:Nat)(N:bt):bt:=decide (m=1)||(decide (m=0)&&N)
theorem v8:cF (n+1) wm 692 [.d (eM Q as x m ro),.d (.bool N)] H=some (.d (.bool (hQ m N)),H):=by
 unfold hQ;by_cases f:m=1;.subst f;exact wk lW rfl [dR 5 (eT (D.bool true) H)]
 .have c:¬(m:Int)=1:=by lia
  by_cases e:m=0;.refine sY e ?_;exact wk lW rfl [dR 10 (eT (D.bool N) H)]
  .have b:¬(m:Int)=0:=by lia
   exact(wk (r:=(V.d (D.bool false),H)) lW rfl [sb 3 (eA c),sb 4 (eA b),dR 1 (eT (D.bool false) H)]).trans (by simp[f,c,e,b])
noncomputable def mD(Z ro:Nat):Nat:=if Z=1then 1 else if Z=2then 0 else ro
theorem AU:cF (n+1) wm 678 [.d (nD Z),.d (nD r)] H=some (.d (nD (mD Z r)),H):=by
 unfold mD;by_cases f:Z=1;.subst f;exact wk jh rfl [dR 3 (eT (D.int 1) H)]
 .have c:¬(Z:Int)=1:=by lia
  by_cases e:Z=2;.refine sY e ?_;exact wk jh rfl [dR 6 (eT (D.int 0) H)]
  .have b:¬(Z:Int)=2:=by lia
   exact(wk (r:=(V.d (nD r),H)) jh rfl [sb 1 (eA c),sb 2 (eA b),dR 1 (eT (nD r) H)]).trans (by simp[f,c,e,b])
theorem band{f:Nat}(h:f<64):cD (f:Int) 1=((f%2:Nat):Int)/\cD (f:Int) 2=((f/2%2*2:Nat):Int)/\cD (f:Int) 4=((f/4%2*4:Nat):Int)/\cD (f:Int) 24=((f/8%4*8:Nat):Int):=by
 have:∀f:Nat,f<64->cD (f:Int) 1=((f%2:Nat):Int)/\cD (f:Int) 2=((f/2%2*2:Nat):Int)/\cD (f:Int) 4=((f/4%2*4:Nat):Int)/\cD (f:Int) 24=((f/8%4*8:Nat):Int):=by decide+kernel
 exact this f h
noncomputable def Um:ae l6->D|none=>.fS|some p=>mQ p
noncomputable def yq:ae l6->Nat|none=>0|some p=>p.2.2.1
noncomputable def oa(m Z b:Nat)(plain:bt):Nat:=(if hQ m (decide (b%2=1))then 1 else 0)+(if mD Z (b/2%2)=1then 2 else 0)+(if plain then b/4%2*4 else 0)
theorem K8{plain:bt}(a:yq p<64):cF (n+2) wm 706 [.d (eM Q as x m ro),.d (Um p),.d (.bool plain)] H=some (.d (nD (oa m ro (yq p) plain)),H):=by
 rw[lO,ir rfl];refine CH (band a) λC y E _=>?_;have I:d5 ((eW.take 2).map BS.run) ⟨cF (n+1),H.length⟩ [some (.d (eM Q as x m ro)),some (.d (Um p)),some (.d (.bool plain)),none,none,none] H=some (.er,[some (.d (eM Q as x m ro)),some (.d (Um p)),some (.d (.bool plain)),some (.d (nD (yq p))),some (.d (nD 0)),none],H):=by rcases p with _|p<;>exact wq []
 generalize yq p=f at*;have K:∀c l,d5 (((eW.drop 2).take 1).map BS.run) ⟨cF (n+1),H.length⟩ [some (.d (eM Q as x m ro)),c,l,some (.d (nD f)),some (.d (nD 0)),none] H=some (.er,[some (.d (eM Q as x m ro)),c,l,some (.d (nD f)),some (.d (nD (if hQ m (decide (f%2=1))then 1 else 0))),none],H):=by
  intro c l;have e:(!(cD (f:Int) 1==0))=decide (f%2=1):=by rw[C];rcases cS f with h|h<;>rw[h]<;>rfl
  have s:=v8 (n:=n) (wm:=H.length) (H:=H) (Q:=Q) (as:=as) (x:=x) (m:=m) (ro:=ro) (N:=decide (f%2=1));rw[←e]at s⊢;generalize hQ m _=b at s⊢;rcases b with⟨⟩;.exact wq [dR 7 s]
  .exact wq [dR 7 s]
 have M:∀c l j,d5 (((eW.drop 3).take 1).map BS.run) ⟨cF (n+1),H.length⟩ [some (.d (eM Q as x m ro)),c,l,some (.d (nD f)),j,none] H=some (.er,[some (.d (eM Q as x m ro)),c,l,some (.d (nD f)),j,some (.d (nD (f/2%2)))],H):=by
  intro c l j;rcases cS (f/2)with h|h<;>rw[h]at y⊢;.exact wq [sd 2 (ah (λz=>some (D.int z)) y)]
  .exact wq [sd 2 (ah (λz=>some (D.int z)) y)]
 have O:∀c l(j:Nat),d5 (((eW.drop 4).take 1).map BS.run) ⟨cF (n+1),H.length⟩ [some (.d (eM Q as x m ro)),c,l,some (.d (nD f)),some (.d (nD j)),some (.d (nD (f/2%2)))] H=some (.er,[some (.d (eM Q as x m ro)),c,l,some (.d (nD f)),some (.d (nD (j+if mD ro (f/2%2)=1then 2 else 0))),some (.d (nD (f/2%2)))],H):=by
  intro c l j;have R:=AU (n:=n) (wm:=H.length) (H:=H) (Z:=ro) (r:=f/2%2);generalize f/2%2=G at*;generalize mD ro G=q at*;by_cases o:q=1;.rw[aW o];subst o;exact wq [dR 4 R]
  .rw[aZ o];exact wq [dR 4 R,sb 1 (eA λe=>o (Rt.mp e))]
 have P:∀c(j:Nat)A,d5 ((eW.drop 5).map BS.run) ⟨cF (n+1),H.length⟩ [some (.d (eM Q as x m ro)),c,some (.d (.bool plain)),some (.d (nD f)),some (.d (nD j)),A] H=some (.ret (.d (nD (j+if plain then f/4%2*4 else 0))),[some (.d (eM Q as x m ro)),c,some (.d (.bool plain)),some (.d (nD f)),some (.d (nD j)),A],H):=by
  intro c j A;rcases plain with⟨⟩;.exact wq []
  .exact wq [sd 4 (ah (λz=>some (D.int z)) E)]
 exact(ah (ck · (fin H.length)) (gM I (gM (K _ _) (gM (M _ _ _) (gM (O _ _ _) (P _ _ _)))))).trans (eT _ H)
noncomputable def gQ(m:Nat)(b:ab W)(N:bt):ab W×Nat:=if hQ m N then(ei [b,[d6]],1)else if N then(b.filter λw=>decide (w≠d6),0)else(b,0)
noncomputable def Seen(T:ab Row)(t:Nat)(d:bt)(b:ab W):Prop:=∃c,Kd T t c/\b=if d then ei [c,[d6]]else c
theorem Seen.pre(h:T<+:T')(s:Seen T t b k):Seen T' t b k:=by obtain⟨k0,c,d⟩:=s;exact⟨k0,c.pre h,d⟩
theorem yh(h:A fW):Kept A fW:=⟨h,λ_=>rfl,λz=>ay h z,λ_=>rfl,λ_=>rfl⟩
theorem IA(h:A ea)(n:¬A fW):Kept A ea:=⟨h,λz=>ay z n,λ_ _=>rfl,λ_=>rfl,λ_=>rfl⟩
theorem Aa(b:A d6):Kept (λw=>Kept A w\/w=d6) w↔Kept A w:=⟨λk=>k.1.elim id λe=>e▸⟨b,λh=>e▸k.2.1 (.inl (yh h)),λn h=>e▸k.2.2.1 (λz=>z.elim (λz=>n z.1) (λz=>nomatch z)) (.inl (IA h n)),λ_=>rfl,λ_=>rfl⟩,λk=>⟨.inl k,λz=>z.elim (λz=>k.2.1 z.1) (λz=>nomatch z),λn z=>z.elim (λz=>k.2.2.1 (λh=>n (.inl (yh h))) z.1) (λz=>ay z (by decide)),λz=>z.elim (λz=>k.2.2.2.1 z.1) (λz=>ay z (by decide)),λz=>z.elim (λz=>k.2.2.2.2 z.1) (λz=>ay z (by decide))⟩⟩
theorem Nt{b:ab W}:(∃l∈[a,b],w∈l)↔(w∈a\/w∈b):=⟨λh=>d9 h λl d c=>(QI d).elim (λe=>.inl (e▸c)) λe=>.inr (e▸c),λh=>h.elim (λh=>i12 a (.head _) h) (λh=>i12 b (.tail _ (.head _)) h)⟩
theorem B1(k:ab W):ei [ei [k,[d6]],[d6]]=ei [k,[d6]]:=by refine pN g6 g6 λw=>?_;rw[eP,eP];refine Iff.trans (iff_of_eq (ah (Kept · w) (funext λv=>propext ?_))) (Aa (i12 [d6] (.tail _ (.head _)) (.head _)));exact Nt.trans (or_congr eP bu)
theorem filter_join(h:wy k):(ei [k,[d6]]).filter (λw=>decide (w≠d6))=k.filter λw=>decide (w≠d6):=by
 refine pN (SS.filter g6) (SS.filter h.ss) λw=>?_;simp only[aO,eP,Kept];have e:∀{w:W},(∃l∈[k,[d6]],w∈l)↔(w∈k\/w=d6):=by intro w;simp
 simp only[e,ba];constructor;.rintro⟨⟨b,_⟩,c⟩;exact⟨b.resolve_right c,c⟩
 .intro d;refine lK (d) λb c=>?_;refine⟨⟨.inl b,λq=>?_,λ_ q=>?_,λq=>?_,λq=>?_⟩,c⟩;.exact h.any (q.resolve_right (by decide)) w b
  .exact h.DM (q.resolve_right (by decide)) w b
  .exact h.str (q.resolve_right (by decide)) w b
  .exact h.num (q.resolve_right (by decide)) w b
theorem Fq(G:Good (g+1) T)(K:Seen T o N k):∃t' T',Runs 9 699 [eb,.d (eM Q as x m ro),.d (nD κ),.d (nD o),.d (.bool N)] T (.d (nD t')) T'/\Good g T'/\T<+:T'/\Seen T' t' (hQ m N) (gQ m k N).1:=by
 refine d9 (K) λp K0 y=>?_;subst y;have c:=λn H=>v8 (n:=n) (wm:=bq H) (H:=H) (Q:=Q) (as:=as) (x:=x) (m:=m) (ro:=ro) (N:=N);unfold gQ;cases b:hQ m N;.
  cases N;.refine jR o T ⟨?_,G.le (by lia),aq _,p,K0,rfl⟩;intro n wm F X;have:=c (n+7) (hs F T X);rw[b]at this;simp at this;exact wk gC dT [dR 6 this,dR 2 (dU F X (nD o) T)]
  .refine(let q:Prop:=_;(?_:q));refine jt (Ie G K0) λt' T' e f j l=>?_;refine jR t' T' ⟨?_,f,j,_,l,by simpa using filter_join K0.wz⟩;intro n wm F X;have:=c (n+7) (hs F T X);rw[b]at this;simp at this;exact wk gC dT [dR 6 this,dR 4 (e (n+3) (11+X.length) F X),dR 0 (dU F X (nD t') T')]
 .cases N;.refine(let q:Prop:=_;(?_:q));refine Uv (Ip G K0) λt' T' s e f j l r=>?_;refine jR t' T' ⟨?_,f,j,s,l,r.symm⟩;intro n wm F X;have:=c (n+7) (hs F T X);rw[b]at this;simp at this;exact wk gC dT [dR 6 this,dR 7 (e (n+3) (11+X.length) F X),dR 0 (dU F X (nD t') T')]
  .refine jR o T ⟨?_,G.le (by lia),aq _,p,K0,by simpa using B1 p⟩;intro n wm F X;have:=c (n+7) (hs F T X);rw[b]at this;simp at this;exact wk gC dT [dR 6 this,dR 5 (dU F X (nD o) T)]
theorem Io(G:Good (g+3) T)(S:Tm T x U J B)(A:Ky T κ kw)(I:ab W):∃t' T',Runs 9 699 [eb,.d (eM Q as x m ro),.d (nD κ),.d (.int (-1)),.d (.bool N)] T (.d (nD t')) T'/\Good g T'/\T<+:T'/\Seen T' t' (hQ m N) (gQ m (gm U J B I kw) N).1:=by
 refine hd λ_ s=>?_;refine jt (EH (Q:=Q) (as:=as) (m:=m) (ro:=ro) G S A I) λy T1 r b q c=>?_;have p:=λn H=>v8 (n:=n) (wm:=bq H) (H:=H) (Q:=Q) (as:=as) (x:=x) (m:=m) (ro:=ro) (N:=N);refine s ?_;unfold gQ;cases o:hQ m N;.
  rcases N with⟨⟩;.refine jR y T1 ⟨?_,b.le (by lia),q,_,c,rfl⟩;intro n wm F X;have:=p (n+7) (hs F T1 X);rw[o]at this;simp at this;exact wk gC dT [dR 7 (r n (11+X.length) F X),dR 2 this,dR 2 (dU F X (nD y) T1)]
  .refine jt (Ie b c) λt' T' e f j l=>?_;refine jR t' T' ⟨?_,f,q.trans j,_,l,rfl⟩;intro n wm F X;have:=p (n+7) (hs F T1 X);rw[o]at this;simp at this;exact wk gC dT [dR 7 (r n (11+X.length) F X),dR 2 this,dR 4 (e (n+3) (11+X.length) F X),dR 0 (dU F X (nD t') T')]
 .refine(let E:Prop:=_;(?_:E));refine Uv (Ip b c) λt' T' C e f j l z=>?_;refine jR t' T' ⟨?_,f,q.trans j,C,l,z.symm⟩;intro n wm F X;have:=p (n+7) (hs F T1 X);rw[o]at this;simp at this;exact wk gC dT [dR 7 (r n (11+X.length) F X),dR 2 this,dR 6 (e (n+3) (11+X.length) F X),dR 0 (dU F X (nD t') T')]
end
section
variable{F:ab Int}{T T1:ab Row}{X Y L:ab Cell}{n wm:Nat}{H:Hp}{i κ t g:Nat}{k:ab W}{Q m ro x U J:Nat}{as:Int}{B:ab W}{kw:W}
structure Md where
 rows:ab (W×Nat×Nat)
 si:ae (Nat×Nat)
 ni:ae (Nat×Nat)
noncomputable def FD(p:W×Nat×Nat):D:=.tup [nD p.2.1,nD p.2.2]
noncomputable def fX(X:ab Cell)(M:Md):ab Cell:=X++[.ins [(0,.ref (11+(X.length+1))),(5,.ref (11+(X.length+2))),(14,.d (ke M.si)),(15,.d (ke M.ni))],.eJ (M.rows.map λp=>(sD p.1,FD p)) false,.lst (M.rows.map λp=>sD p.1) .sh]
theorem AY:(fX X M).length=X.length+3:=by simp[fX]
theorem qe:(hs F T (fX X M)).length=11+(X.length+3):=by rw[dT,AY]
theorem ph(F:ab Int)(T:ab Row)(X:ab Cell)(M:Md):fin (11+(X.length+3)) (.er,[],hs F T (fX X M))=some (.d .fS,hs F T (fX X M)):=by
 have:(hs F T (fX X M)).take (11+(X.length+3))=hs F T (fX X M):=by rw[←AY];exact jG
 simp[this]
variable{z z1 z2 C:Cell}
@[simp high]theorem HO:(hs F T (X++z::z1::z2::L))[11+(X.length+2)]?=some z2:=by rw[yA,bk ((aH _ _))];simp
@[simp high]theorem Se:(hs F T (X++z::z1::z2::L)).set (11+(X.length+2)) C=hs F T (X++z::z1::C::L):=by rw[vC,bT _ _ (by lia)];simp
@[simp]theorem HX:(hs F T (X++[z,z1,z2])).take (11+(X.length+3))=hs F T (X++[z,z1,z2]):=by have:=jG (F:=F) (T:=T) (X:=X++[z,z1,z2]);simpa using this
@[simp high]theorem Mr:(hs F T (fX X M))[11+X.length]?=some (.ins [(0,.ref (11+(X.length+1))),(5,.ref (11+(X.length+2))),(14,.d (ke M.si)),(15,.d (ke M.ni))]):=by unfold fX;exact gq
theorem Te{k:Nat}(h:(v.plain||decide (k<=11+X.length))=true)(b:fs.length<100):MW k v a (.ins c (11+X.length)) (hs F T (X++.ins fs::L))=some (hs F T (X++.ins (kU a v fs)::L)):=(JP gq h b).trans (ah some nO)
theorem zQ(H:Hp)(k c a:Nat)(x:D)(fs:ab (Nat×V))(b:fs.length<100):MW k (.d x) a (.ins c H.length) (H++[.ins fs])=some (H++[.ins (kU a (.d x) fs)]):=(JP fD rfl b).trans (ah some lr)
theorem L9:cF (n+1) (11+X.length) 612 [.ins 634 (11+X.length)] (hs F T (X++[.ins []]))=some (.d .fS,hs F T (fX X ⟨[],none,none⟩)):=by
 have UL:∀(z C z2:Cell),mB (hs F T (X++[z,C])) z2=some (.ref (11+(X.length+2)),hs F T (X++[z,C,z2])):=λz C z2=>by simp[mB]
 have b:=λ{v L}a e h=>Te (F:=F) (T:=T) (L:=L) (k:=11+X.length) (c:=634) (a:=a) (v:=v) (fs:=e) (by rw[aE (aV _),acQ]) h;have h:d5 (mj.map BS.run) ⟨cF n,11+X.length⟩ [some (.ins 634 (11+X.length))] (hs F T (X++[.ins []]))=some (.er,[some (.ins 634 (11+X.length))],hs F T (fX X ⟨[],none,none⟩)):=wq [dR 0 ((show∀(z C:Cell),mB (hs F T (X++[z])) C=some (.ref (11+(X.length+1)),hs F T (X++[z,C]))fromλz C=>by simp[mB]) (.ins []) (.eJ [] false)),sh 0 (b (v:=.ref (11+(X.length+1))) (L:=[.eJ [] false]) 0 [] (by decide)),dR 0 (UL (.ins [(0,.ref (11+(X.length+1)))]) (.eJ [] false) (.lst [] .sh)),sh 0 (b (v:=.ref (11+(X.length+2))) (L:=[.eJ [] false,.lst [] .sh]) 5 [(0,.ref (11+(X.length+1)))] (by show _<100;simp)),sh 0 (b (v:=.d (.tup [])) (L:=[.eJ [] false,.lst [] .sh]) 14 [(0,.ref (11+(X.length+1))),(5,.ref (11+(X.length+2)))] (by show _<100;simp)),sh 0 (b (v:=.d (.tup [])) (L:=[.eJ [] false,.lst [] .sh]) 15 [(0,.ref (11+(X.length+1))),(5,.ref (11+(X.length+2))),(14,.d (.tup []))] (by show _<100;simp))];rw[rg,FL rfl,show uD 1 _=[some (.ins 634 (11+X.length))]from rfl,h];rfl
noncomputable def QM(X:ab Cell)(M:Md):ab Cell:=X++[.ins [(0,.ref (11+(X.length+1))),(5,.ref (11+(X.length+2))),(14,.d (ke M.si)),(15,.d (ke M.ni))]]
theorem P1(e:nm∉M.rows.map (·.1))(A:M.rows.length<64):cF (n+1) wm 619 [.ins 634 (11+X.length),d7,.d (sD nm),.d (nD t),.d (nD b)] (hs F T (fX X M))=some (.d .fS,hs F T (fX X ⟨M.rows++[(nm,t,b)],M.si,M.ni⟩)):=by
 have o:M.rows.length<big:=bM A (by decide);have r:=zD (g:=FD) (v:=FD (nm,t,b)) e;have c:=iC (f:=λp:W×Nat×Nat=>p.1) (g:=FD) (l:=M.rows);have q:(hs F T (fX X M))[11+(X.length+1)]?=some (.eJ (M.rows.map λp:W×Nat×Nat=>(sD p.1,FD p)) false):=by unfold fX;exact qJ
 have s:rE (sD nm) (.ref (11+(X.length+1))) (hs F T (fX X M))=some false:=(Fw (x:=sD nm) q c).trans (by rw[pV e];rfl);have y:fJ dP ⟨cF n,11+(X.length+3)⟩ (.ref (11+(X.length+2))) 100 [.d (sD nm)] (hs F T (fX X M))=some (.d .fS,hs F T (QM X M++[.eJ (M.rows.map λp=>(sD p.1,FD p)) false,.lst ((M.rows.map λp=>sD p.1)++[sD nm]) .sh])):=by rw[nz (by unfold fX;exact HO) (by decide) (by rw[ak];exact o)];unfold fX QM;rw[Se,bA];rfl
 have j:II (sD nm) (FD (nm,t,b)) (.ref (11+(X.length+1))) (hs F T (QM X M++[.eJ (M.rows.map λp=>(sD p.1,FD p)) false,.lst ((M.rows.map λp=>sD p.1)++[sD nm]) .sh]))=some (hs F T (fX X ⟨M.rows++[(nm,t,b)],M.si,M.ni⟩)):=by unfold QM fX;rw[bA,abO,Dk (x:=sD nm) qJ c (aj (bZ (ak _)) o) r,AR,aD,aD];rfl
 exact wk Ab qe [sv 1 (show kA (.ins 634 (11+X.length)) 0 (hs F T (fX X M))=some (.ref (11+(X.length+1)))from(vH (by unfold fX;exact gq)).trans rfl),sb 0 (ah (cJ (!·)) s),sv 1 (show kA (.ins 634 (11+X.length)) 5 (hs F T (fX X M))=some (.ref (11+(X.length+2)))from(vH (by unfold fX;exact gq)).trans rfl),sb 0 (show some (iZ dP (.ref (11+(X.length+2))) 100 (hs F T (fX X M)))=some true from ah some (jn (by unfold fX;exact HO) 100 dP)),dR 1 y,sv 3 (show kA (.ins 634 (11+X.length)) 0 (hs F T (QM X M++[.eJ (M.rows.map λp=>(sD p.1,FD p)) false,.lst ((M.rows.map λp=>sD p.1)++[sD nm]) .sh]))=some (.ref (11+(X.length+1)))from(vH (by unfold QM;rw[bA];exact gq)).trans rfl),sh 1 j,dR 0 (ph F T X ⟨M.rows++[(nm,t,b)],M.si,M.ni⟩)]
theorem Px(j:(if c then M.ni else M.si)=none):cF (n+1) wm 626 [.ins 634 (11+X.length),d7,.d (.bool c),.d (nD t),.d (nD r)] (hs F T (fX X M))=some (.d .fS,hs F T (fX X (if c then⟨M.rows,M.si,some (t,r)⟩else⟨M.rows,some (t,r),M.ni⟩))):=by
 have e:kA (.ins 634 (11+X.length)) 14 (hs F T (fX X M))=some (.d (ke M.si)):=(vH (by unfold fX;exact gq)).trans rfl;have f:kA (.ins 634 (11+X.length)) 15 (hs F T (fX X M))=some (.d (ke M.ni)):=(vH (by unfold fX;exact gq)).trans rfl;have o:ke none=.tup []:=rfl;rcases c with⟨⟩;.
  simp only[aa6,aez]at j;rw[j,o]at e;have b:(hs F T (fX X M)).set (11+X.length) (.ins [(0,.ref (11+(X.length+1))),(5,.ref (11+(X.length+2))),(14,.d (.tup [nD t,nD r])),(15,.d (ke M.ni))])=hs F T (fX X ⟨M.rows,some (t,r),M.ni⟩):=by unfold fX;rw[nO];rfl
  have l:(hs F T (fX X ⟨M.rows,some (t,r),M.ni⟩)).take (11+(X.length+3))=hs F T (fX X ⟨M.rows,some (t,r),M.ni⟩):=by unfold fX;exact HX
  exact wk lD qe [sv 1 e,sh 6 (show MW (11+(X.length+3)) (V.d (D.tup [nD t,nD r])) 14 (V.ins 634 (11+X.length)) (hs F T (fX X M))=some (hs F T (fX X {rows:=M.rows,si:=some (t,r),ni:=M.ni}))from(JP Mr rfl (bo rfl)).trans (ah some b)),dR 0 (ph F T X {rows:=M.rows,si:=some (t,r),ni:=M.ni})]
 .simp only[adl]at j;rw[j,o]at f;have b:(hs F T (fX X M)).set (11+X.length) (.ins [(0,.ref (11+(X.length+1))),(5,.ref (11+(X.length+2))),(14,.d (ke M.si)),(15,.d (.tup [nD t,nD r]))])=hs F T (fX X ⟨M.rows,M.si,some (t,r)⟩):=by unfold fX;rw[nO];rfl
  have l:(hs F T (fX X ⟨M.rows,M.si,some (t,r)⟩)).take (11+(X.length+3))=hs F T (fX X ⟨M.rows,M.si,some (t,r)⟩):=by unfold fX;exact HX
  exact wk lD qe [sv 1 f,sh 6 (show MW (11+(X.length+3)) (V.d (D.tup [nD t,nD r])) 15 (V.ins 634 (11+X.length)) (hs F T (fX X M))=some (hs F T (fX X {rows:=M.rows,si:=M.si,ni:=some (t,r)}))from(JP Mr rfl (bo rfl)).trans (ah some b)),dR 0 (ph F T X {rows:=M.rows,si:=M.si,ni:=some (t,r)})]
noncomputable def gx(M:Md):ab l6:=M.rows.map λp=>(p.1,p.2.1,p.2.2,0)
theorem La(s:(M.rows.map (·.1)).Nodup)(A:M.rows.length<64)(y:T.length<big):∃Z,cF (n+3) wm 631 [.ins 634 (11+X.length),d7] (hs F T (fX X M))=some (.d (nD (fL T (.obj (eK (gx M)) M.si M.ni))),hs F (fj T (.obj (eK (gx M)) M.si M.ni)) (X++Z)):=by
 refine⟨[.ins [(0,.ref (11+(X.length+1))),(5,.ref (11+(X.length+2))),(14,.d (ke M.si)),(15,.d (ke M.ni))],.eJ (M.rows.map λp=>(sD p.1,FD p)) false,.lst (M.rows.map λp=>sD p.1) .fz],?_⟩;obtain⟨Z,b⟩:∃Z,Z=X++[.ins [(0,.ref (11+(X.length+1))),(5,.ref (11+(X.length+2))),(14,.d (ke M.si)),(15,.d (ke M.ni))],.eJ (M.rows.map λp=>(sD p.1,FD p)) false,.lst (M.rows.map λp=>sD p.1) .fz]:=⟨_,rfl⟩;have j:(hs F T Z)[11+X.length]?=some (.ins [(0,.ref (11+(X.length+1))),(5,.ref (11+(X.length+2))),(14,.d (ke M.si)),(15,.d (ke M.ni))]):=by subst b;exact gq
 have l:kA (.ins 634 (11+X.length)) 0 (hs F T Z)=some (.ref (11+(X.length+1))):=(vH j).trans rfl;have r:=fV (elt:=(d8 [(dM 3),(dQ (dQ (d' (dM 0) 0) (dM 3)) (dN (.int 0))),(dQ (dQ (d' (dM 0) 0) (dM 3)) (dN (.int 1))),(dN (.int 0))]).run) (c:=⟨cF (n+2),11+(X.length+3)⟩) (e:=λp:W×Nat×Nat=>sD p.1) (H:=hs F T Z) [some (.ins 634 (11+X.length)),some d7,none] M.rows (λp=>mQ (p.1,p.2.1,p.2.2,0)) (o:=none) (λp G=>by
  have q:fZ (.ref (11+(X.length+1))) (sD p.1) (hs F T Z)=some (.d (.tup [nD p.2.1,nD p.2.2])):=by exact Ha (by refine sY b ?_;exact qJ) (iC) (by rw[p8,rB s G];rfl)
  exact wd [sv 1 l,sv 1 q,sv 3 l,sv 1 q]);have f:(M.rows.map λp=>mQ (p.1,p.2.1,p.2.2,0))=(gx M).map mQ:=by simp[gx]
 rw[f]at r;simp only[←b];exact wk xb qe [sv 0 (show kA (.ins 634 (11+X.length)) 5 (hs F T (fX X M))=some (.ref (11+(X.length+2)))from(vH (by unfold fX;exact gq)).trans rfl),jY 0 (show jk (.ref (11+(X.length+2))) (hs F T (fX X M))=some (M.rows.map λp=>sD p.1,hs F T Z)from by refine sY b ?_;rw[RW (by unfold fX;exact HO)];simp[fX]),jY 0 r,sv 4 (show kA (.ins 634 (11+X.length)) 14 (hs F T Z)=some (.d (ke M.si))from(vH j).trans rfl),sv 1 (show kA (.ins 634 (11+X.length)) 15 (hs F T Z)=some (.d (ke M.ni))from(vH j).trans rfl),dR 2 ((Tb (ps:=gx M) (E:=M.si) (ni:=M.ni) (by simpa[gx,a9]using s) (by simpa[gx]using A) y) n (11+(X.length+3)) F Z),dR 0 (show fin (11+(X.length+3)) (Fl.ret (V.d (nD (fL T (Row.obj (eK (gx M)) M.si M.ni)))),[],hs F (fj T (Row.obj (eK (gx M)) M.si M.ni)) Z)=some (V.d (nD (fL T (Row.obj (eK (gx M)) M.si M.ni))),hs F (fj T (Row.obj (eK (gx M)) M.si M.ni)) Z)by simp[(show(hs F (fj T (.obj (eK (gx M)) M.si M.ni)) Z).take (11+(X.length+3))=hs F (fj T (.obj (eK (gx M)) M.si M.ni)) Z from by refine sY b ?_;exact HX)])]
end
section
variable{F:ab Int}{T T1 T2:ab Row}{X Y L:ab Cell}{n wm:Nat}{H:Hp}{i κ t g:Nat}{k:ab W}{Q m ro x U J:Nat}{as:Int}{B:ab W}{kw:W}
theorem J6(G:Good g T)(p:as=-1\/as=16)(s:Ky T κ kw):Runs 5 713 [eb,.d (eM Q as x m ro),.d (nD κ)] T (.d (.tup [nD κ])) T:=by
 intro n wm F X;rcases p with rfl|rfl;.exact wk qB dT [dR 6 (dU F X (D.tup [nD κ]) T)]
 .refine d9 (s) λr c j=>?_;have l:κ≠2:=by intro q;subst q;rw[G.at rfl]at c;obtain rfl:=sI c;exact od.MX j rfl
  have y:∀wm,cF (n+4) wm 923 [eb,.d (.int 16),.ref (11+X.length)] (hs F T (X++[gN κ]))=some (.d (nD κ),hs F T (X++[gN κ])):=by
   intro wm;have o:=Fc (κ:=κ) (G.at (i:=16) rfl) (n+2) (11+(X.length+1)) F (X++[gN κ]) X.length (by simp);have e:afb (11+(X.length+1)) (hs F T (X++[gN κ]))=hs F T (X++[gN κ]):=by have:=jG (F:=F) (T:=T) (X:=X++[gN κ]);simpa using this
   rw[show nD 16=.int 16from rfl]at o;exact wk lp dT [dR 2 (show ik (V.ref (11+X.length)) (hs F T (X++[gN κ]))=some (V.ref (11+X.length),hs F T (X++[gN κ]))by simp[ik]),dR 0 (show cF (n+3) (11+(X++[gN κ]).length) 902 [V.ins 926 10,V.d (D.int 16),V.ref (11+X.length)] (hs F T (X++[gN κ]))=some (V.d (nD κ),hs F T (X++[gN κ]))by simp[o]),dR 0 (dU F (X++[gN κ]) (nD κ) T)]
  have b:ik (.ref (11+X.length)) (hs F T (X++[gN κ]))=some (.ref (11+X.length),hs F T (X++[gN κ])):=by simp[ik]
  have f:=nG (gL c);rw[(eQ c l λz=>od.jW j)]at f;exact wk qB dT [dR 15 (show ik (V.ref (bq (hs F T X))) (hs F T X++[Cell.eJ [(D.int 0,nD κ)] false])=some (V.ref (11+X.length),hs F T (X++[gN κ]))by simp[b]),dR 0 (y (11+X.length)),dR 1 ((iF (T:=T) (t:=κ)) (n+3) (11+X.length) F (X++[gN κ])),dR 3 ((kL c j.simp) (n+3) (11+X.length) F (X++[gN κ])),dR 4 (f (n+3) (11+X.length) F (X++[gN κ])),dR 0 (i0 F X [gN κ] (D.tup [nD κ]) T)]
noncomputable def mA(κ:Nat)(p:ae l6)(O:ae (Nat×Nat)):D:=.obj 730 [nD κ,Um p,ke O]
variable{p:ae l6}{O:ae (Nat×Nat)}
theorem HV(b:110<=j)(h:(dP.lookup (634,j)).isSome):iZ dP (.ins 634 (11+X.length)) j (hs F T (fX X M))=true:=(Vr (by unfold fX;exact gq)).trans (by rw[aE b,h];rfl)
theorem Qb:fJ dP c (.ins 634 (11+X.length)) 112 args (hs F T (fX X M))=c.call c.wm 619 (.ins 634 (11+X.length)::args) (hs F T (fX X M)):=P8 (by unfold fX;exact gq) (by decide) rfl
theorem Pr:fJ dP c (.ins 634 (11+X.length)) 113 args (hs F T (fX X M))=c.call c.wm 626 (.ins 634 (11+X.length)::args) (hs F T (fX X M)):=P8 (by unfold fX;exact gq) (by decide) rfl
theorem OB:fJ dP c (.ins 634 (11+X.length)) 114 args (hs F T (fX X M))=c.call c.wm 631 (.ins 634 (11+X.length)::args) (hs F T (fX X M)):=P8 (by unfold fX;exact gq) (by decide) rfl
noncomputable def Nn(p:ae l6)(plain:bt):D:=match p,plain with|some p,true=>nD p.2.1|_,_=>.int (-1)
noncomputable def MK(Q:Nat)(as:Int)(x m ro κ i:Nat)(e:D)(pl:bt)(w E:D)(c:bt)(b nH d9:ae V):Loc:=[some eb,some (.d (eM Q as x m ro)),some (.ins 634 (11+i)),some (.d e),some (.d (nD κ)),some (.d (.bool pl)),some d7,some (.d w),some (.d E),some (.d (.bool c)),b,nH,d9]
noncomputable def Dq:ae (Nat×Nat)->bt->D|some q,true=>nD q.1|_,_=>.int (-1)
noncomputable def N'(p:ae l6):bt:=decide (yq p%2=1)
theorem Ko:f6 .NotEq (nD (f%2)) (.d (.int 0)) H=some (decide (f%2=1)):=by rcases cS f with h|h<;>rw[h]<;>rfl
theorem Lo(b:Runs 2 572 [d7,.d (nD κ)] T (.d w) T)(o:yq p<64)(pl:bt){k:Nat}:d5 ((fo.take 5).map BS.run) ⟨cF (n+9),k⟩ (uD 13 [eb,.d (eM Q as x m ro),.ins 634 (11+i),.d (mA κ p none),.d (nD κ),.d (.bool pl)]) (hs F T X)=some (.er,MK Q as x m ro κ i (mA κ p none) pl w (Nn p pl) (N' p) none none none,hs F T X):=by
 have b:=b (n+7) k F X;rcases p with _|⟨r,j,c,q⟩;.rcases pl with⟨⟩<;>exact wq [dR 3 b]
 .have e:fv .BitAnd (nD c) (.int 1)=some (nD (c%2)):=ah (λz=>some (D.int z)) (band o).1;have l:=Ko (f:=c) (H:=hs F T X);rcases pl with⟨⟩;.exact wq [dR 3 b,sd 8 e,sb 1 l]
  .exact wq [dR 3 b,sd 8 e,sb 1 l]
theorem HQ(b:Runs 2 572 [d7,.d (nD κ)] T (.d w) T)(pl:bt){k:Nat}:d5 ((fo.take 5).map BS.run) ⟨cF (n+9),k⟩ (uD 13 [eb,.d (eM Q as x m ro),.ins 634 (11+i),.d (mA κ none O),.d (nD κ),.d (.bool pl)]) (hs F T X)=some (.er,MK Q as x m ro κ i (mA κ none O) pl w (Dq O pl) false none none none,hs F T X):=by
 have b:=b (n+7) k F X;rcases O with _|⟨t,r⟩;.rcases pl with⟨⟩<;>exact wq [dR 3 b]
 .rcases pl with⟨⟩;.exact wq [dR 3 b]
  .exact wq [dR 3 b]
theorem Rn{plain:bt}(G:N=true↔yq p%2=1)(E:T[κ]?=some r)(y:LC r=sD nm)(e:∀d,r=.num d->d<10)(f:yq p<64)(A:Runs 9 699 [eb,.d (eM Q as x m ro),.d (nD κ),.d (Nn p plain),.d (.bool N)] T (.d (nD t')) T')(C:nm∉M.rows.map (·.1))(z:M.rows.length<64):cF (n+10) wm 741 [eb,.d (eM Q as x m ro),.ins 634 (11+X.length),.d (mA κ p none),.d (nD κ),.d (.bool plain)] (hs F T (fX X M))=some (.d .fS,hs F T' (fX X ⟨M.rows++[(nm,t',oa m ro (yq p) plain)],M.si,M.ni⟩)):=by
 have l:=oF E e;rw[y]at l;obtain rfl:N=N' p:=by unfold N';rw[b9,aa3];exact G
 have s:=Lo (F:=F) (X:=fX X M) (i:=X.length) (k:=11+(X.length+3)) (n:=n) (Q:=Q) (as:=as) (x:=x) (m:=m) (ro:=ro) l f plain;have q:=K8 (n:=n+7) (wm:=11+(X.length+3)) (H:=hs F T' (fX X M)) (Q:=Q) (as:=as) (x:=x) (m:=m) (ro:=ro) (plain:=plain) f;have o:=(Qb (F:=F) (T:=T') (X:=X) (c:=⟨cF (n+9),11+(X.length+3)⟩) (args:=[d7,.d (sD nm),.d (nD t'),.d (nD (oa m ro (yq p) plain))])).trans (P1 C z);refine(pD _ _ _ _).trans (mh (b:=fo.drop 5) rfl qe s ?_);exact wf [dR 8 (A n (11+(X.length+3)) F (fX X M)),sb 0 (ah some (HV (F:=F) (T:=T') (X:=X) (M:=M) (j:=112) (by decide) rfl)),dR 7 q,dR 1 o,dR 0 (ph F T' X ⟨M.rows++[(nm,t',oa m ro (yq p) plain)],M.si,M.ni⟩)]
noncomputable def Mt:ae (Nat×Nat)->Nat|none=>0|some p=>p.2
noncomputable def wI(M:Md)(b:bt)(q:Nat×Nat):Md:=if b then⟨M.rows,M.si,some q⟩else⟨M.rows,some q,M.ni⟩
theorem R5{plain:bt}(G:Good g T)(f:κ=bif c then 7 else 6)(hM:(if c then M.ni else M.si)=none)(A:(Dq O plain=nD y/\T1=T)\/(Dq O plain=.int (-1)/\Runs 8 685 [eb,.d (eM Q as x m ro),.d (nD κ)] T (.d (nD y)) T1))(hB:(m=1/\Runs 3 289 [d7,.d (.lst [nD y,.int 4])] T1 (.d (nD l)) T2)\/(m≠1/\l=y/\T2=T1)):cF (n+10) wm 741 [eb,.d (eM Q as x m ro),.ins 634 (11+X.length),.d (mA κ none O),.d (nD κ),.d (.bool plain)] (hs F T (fX X M))=some (.d .fS,hs F T2 (fX X (wI M c (l,mD ro (Mt O))))):=by
 have I:Runs 2 572 [d7,.d (nD κ)] T (.d .fS) T:=by
  rcases c with⟨⟩<;>subst f;.exact oF (G.at (i:=6) rfl) (λ_ e=>xc Row.ctorIdx e rfl)
  .exact oF (G.at (i:=7) rfl) (λ_ e=>xc Row.ctorIdx e rfl)
 have s:f6 .NotIn (nD κ) (.d (.tup [.int 6,.int 7,.int 0])) []=some false:=by rcases c with⟨⟩<;>subst f<;>rfl
 have a:f6 .Eq (nD κ) (.d (.int 7)) []=some c:=by rcases c with⟨⟩<;>subst f<;>rfl
 have C:=HQ (F:=F) (X:=fX X M) (i:=X.length) (k:=11+(X.length+3)) (n:=n) (Q:=Q) (as:=as) (x:=x) (m:=m) (ro:=ro) (κ:=κ) (O:=O) I plain;refine(pD _ _ _ _).trans (mh (b:=fo.drop 5) rfl qe C ?_);clear C I G f;generalize ho:Dq O plain=E at*;have N:d5 (((fo.drop 5).take 3).map BS.run) ⟨cF (n+9),11+(X.length+3)⟩ (MK Q as x m ro κ X.length (mA κ none O) plain .fS E false none none none) (hs F T (fX X M))=some (.er,MK Q as x m ro κ X.length (mA κ none O) plain .fS E false none (some (.d (nD y))) none,hs F T1 (fX X M)):=by
  rcases A with⟨h,o⟩|⟨h,o⟩;.subst h o;exact wq [sb 6 s]
  .subst h;have r:=o (n+1) (11+(X.length+3)) F (fX X M);exact wq [sb 6 s,dR 8 r]
 have P:d5 (((fo.drop 8).take 1).map BS.run) ⟨cF (n+9),11+(X.length+3)⟩ (MK Q as x m ro κ X.length (mA κ none O) plain .fS E false none (some (.d (nD y))) none) (hs F T1 (fX X M))=some (.er,MK Q as x m ro κ X.length (mA κ none O) plain .fS E false none (some (.d (nD l))) none,hs F T2 (fX X M)):=by
  rcases hB with⟨h,o⟩|⟨h,o,z⟩;.subst h;have r:=o (n+6) (11+(X.length+3)) F (fX X M);exact wq [dR 9 r]
  .subst o z;have K:=hJ h;rcases A with⟨h,_⟩|⟨h,_⟩;.subst h;exact wq [sb 3 (eA K)]
   .subst h;exact wq [sb 3 (eA K)]
 have R:d5 (((fo.drop 9).take 1).map BS.run) ⟨cF (n+9),11+(X.length+3)⟩ (MK Q as x m ro κ X.length (mA κ none O) plain .fS E false none (some (.d (nD l))) none) (hs F T2 (fX X M))=some (.er,MK Q as x m ro κ X.length (mA κ none O) plain .fS E false none (some (.d (nD l))) (some (.d (nD (Mt O)))),hs F T2 (fX X M)):=by rcases O with _|q<;>exact wq []
 refine tN (b:=fo.drop 8) N (tN (b:=fo.drop 9) P (tN (b:=fo.drop 10) R ?_));exact wf [sb 0 (ah some (HV (F:=F) (T:=T2) (X:=X) (M:=M) (j:=113) (by decide) rfl)),sb 2 a,dR 6 (AU (n:=n+8) (wm:=11+(X.length+3)) (H:=hs F T2 (fX X M)) (Z:=ro) (r:=Mt O)),dR 1 (show fJ dP ⟨cF (n+9),11+(X.length+3)⟩ (.ins 634 (11+X.length)) 113 [d7,.d (.bool c),.d (nD l),.d (nD (mD ro (Mt O)))] (hs F T2 (fX X M))=some (.d .fS,hs F T2 (fX X (wI M c (l,mD ro (Mt O)))))from Pr.trans (Px (n:=n+8) hM)),dR 0 (ph F T2 X (wI M c (l,mD ro (Mt O))))]
end
structure Slot where
 key:W
 kind:ab W
 sign:Nat
 held:Nat
noncomputable def fE(s:Slot):D:=.tup [sD s.key,eF s.kind,nD s.sign,nD s.held]
noncomputable def eZ(b:W):W:=if b.head?=some 48\/b.head?=some 49then 34::(b++[34])else b
noncomputable def et(U J:Nat)(B:ab W)(m Z:Nat)(s:Slot):Slot:=let b:=gm U J B s.kind s.key;if s.sign<2then⟨eZ s.key,(gQ m b (decide (s.sign=1))).1,(gQ m b (decide (s.sign=1))).2,mD Z (s.held%2)+(if U=0then s.held/2*2 else 0)⟩else⟨eZ s.key,if m=1then ei [b,[d6]]else b,s.sign,mD Z (s.held%2)+(if U=0then s.held/2*2 else 0)⟩
theorem fy:(et U J B m Z s).key=eZ s.key:=by unfold et;simp only;split<;>rfl
structure Ent where
 κ:Nat
 p:ae l6
 ix:ae (Nat×Nat)
 s:Slot
noncomputable def Ent.d(e:Ent):D:=mA e.κ e.p e.ix
structure O2(T:ab Row)(U:Nat)(e:Ent)(nm:W)(r:Row):Prop where
 at_:T[e.κ]?=some r
 wd:ek r e.s.key
 kt:LC r=sD nm
 l1:nm.length=1
 nw:eZ e.s.key=34::(nm++[34])
 ix:e.ix=none
 fl:yq e.p<64
 sign:e.s.sign=yq e.p%2
 held:e.s.held=yq e.p/2%4
 pl:U=0->∃q,e.p=some q/\Seen T q.2.1 (decide (e.s.sign=1)) e.s.kind
structure Ni(T:ab Row)(U:Nat)(e:Ent):Prop where
 p:e.p=none
 sign:e.s.sign=2
 key:(e.κ=6/\e.s.key=d0)\/(e.κ=7/\e.s.key=dZ)
 held:e.s.held=Mt e.ix
 le:e.s.held<=1
 pl:U=0->∃t r,e.ix=some (t,r)/\Kd T t e.s.kind
noncomputable def j0(T:ab Row)(U:Nat)(e:Ent):Prop:=(∃nm r,O2 T U e nm r)\/Ni T U e
theorem j0.pre(h:T<+:T')(s:j0 T U e):j0 T' U e:=by
 rcases s with⟨nm,r,s⟩|s;.exact .inl ⟨nm,r,⟨fQ h s.at_,s.wd,s.kt,s.l1,s.nw,s.ix,s.fl,s.sign,s.held,λb=>by obtain⟨q,c,d⟩:=s.pl b;exact⟨q,c,d.pre h⟩⟩⟩
 .exact .inr ⟨s.p,s.sign,s.key,s.held,s.le,λb=>by obtain⟨t,r,c,d⟩:=s.pl b;exact⟨t,r,c,d.pre h⟩⟩
structure mJ(T:ab Row)(p:W×Nat×Nat)(s:Slot):Prop where
 key:s.key=34::(p.1++[34])
 l1:p.1.length=1
 fl:p.2.2=s.sign+2*s.held
 sign:s.sign<=1
 held:s.held<=3
 seen:Seen T p.2.1 (decide (s.sign=1)) s.kind
structure kX(T:ab Row)(q:Nat×Nat)(s:Slot):Prop where
 sign:s.sign=2
 held:s.held=q.2
 le:q.2<=1
 kd:Kd T q.1 s.kind
inductive fg(T:ab Row):Md->ab Slot->Prop|nil:fg T ⟨[],none,none⟩ []|row{M sl p s}:fg T M sl->mJ T p s->fg T ⟨M.rows++[p],M.si,M.ni⟩ (sl++[s])|Oa{M sl q s}:fg T M sl->s.key=d0->kX T q s->fg T ⟨M.rows,some q,M.ni⟩ (sl++[s])|OF{M sl q s}:fg T M sl->s.key=dZ->kX T q s->fg T ⟨M.rows,M.si,some q⟩ (sl++[s])
theorem mJ.pre(h:T<+:T')(r:mJ T p s):mJ T' p s:=⟨r.key,r.l1,r.fl,r.sign,r.held,r.seen.pre h⟩
theorem kX.pre(h:T<+:T')(r:kX T p s):kX T' p s:=⟨r.sign,r.held,r.le,r.kd.pre h⟩
theorem fg.pre(h:T<+:T')(s:fg T M sl):fg T' M sl:=by induction s with|nil=>exact .nil|row _ r ih=>exact .row ih (r.pre h)|Oa _ k r ih=>exact .Oa ih k (r.pre h)|OF _ k r ih=>exact .OF ih k (r.pre h)
theorem fg.rows(s:fg T M sl):(∀p∈M.rows,∃s∈sl,mJ T p s)/\(∀q,M.si=some q->∃s∈sl,s.key=d0/\kX T q s)/\(∀q,M.ni=some q->∃s∈sl,s.key=dZ/\kX T q s)/\M.rows.length<=sl.length:=by
 induction s with
 |nil=>exact⟨by simp,by simp,by simp,by simp⟩|@row M sl p s _ r ih=>
  refine(let j:Prop:=_;(?_:j));obtain⟨a,b,c,d⟩:=ih;refine⟨λq e=>?_,λq e=>?_,λq e=>?_,by simp;omega⟩;.
   simp only[aJ,af,ai,a5]at e;rcases e with e|rfl;.refine d9 (a q e) λg i f=>?_;exact i12 g ((bl _ ‹_›)) f
   .exact i12 s ((aN _ (.head _))) r
  .obtain⟨g,i,f⟩:=b q e;exact⟨g,by simp[i],f⟩
  .obtain⟨g,i,f⟩:=c q e;exact⟨g,by simp[i],f⟩|@Oa M sl p s _ k r ih=>
  obtain⟨a,b,c,d⟩:=ih;refine⟨λq e=>?_,λq e=>?_,λq e=>?_,by simp;lia⟩;.obtain⟨g,i,f⟩:=a q e;exact⟨g,by simp[i],f⟩
  .refine so e ?_;exact⟨s,by simp,k,r⟩
  .obtain⟨g,i,f⟩:=c q e;exact⟨g,by simp[i],f⟩|@OF M sl p s _ k r ih=>
  obtain⟨a,b,c,d⟩:=ih;refine⟨λq e=>?_,λq e=>?_,λq e=>?_,by simp;lia⟩;.obtain⟨g,i,f⟩:=a q e;exact⟨g,by simp[i],f⟩
  .obtain⟨g,i,f⟩:=b q e;exact⟨g,by simp[i],f⟩
  .refine so e ?_;exact⟨s,by simp,k,r⟩
theorem fg.nodup(s:fg T M sl):(sl.map (·.key)).Nodup->(M.rows.map (·.1)).Nodup:=by induction s with|nil=>intro _;simp|@row M sl p s h r ih=>intro c;rw[aD,a8]at c⊢;refine⟨ih c.1,by simp,?_⟩;intro a i b hb e;simp only[ar,bF,af,ai,a5]at hb;obtain⟨q,j,rfl⟩:=ag.mp i;refine d9 (h.rows.1 q j) λd f g=>?_;refine c.2.2 d.key (ag.mpr ⟨d,f,rfl⟩) s.key ((.head _)) ?_;simp only[g.key,r.key,e,hb]|Oa _ _ _ ih=>intro c;rw[aD,a8]at c;exact ih c.1|OF _ _ _ ih=>intro c;rw[aD,a8]at c;exact ih c.1
section
variable{F:ab Int}{T T1 T2:ab Row}{X Y L:ab Cell}{n wm:Nat}{H:Hp}{i κ t g:Nat}{k:ab W}{Q m ro x U J:Nat}{as:Int}{B:ab W}{kw:W}
theorem EY{z q h:Nat}{b:Prop}[dH b]:z+2*q+(if decide b=true then h*4 else 0)=z+2*(q+if b then h*2 else 0):=by
 by_cases c:b;.rw[aW (aE c),aW c];omega
 .rw[aZ (by rw[aC c];exact cH),aZ c];rfl
theorem uq{c:Prop}[dH c]{a b k:Nat}(d:a<=k)(e:b<=k):(if c then a else b)<=k:=if h:c then(aW h).symm▸d else(aZ h).symm▸e
theorem PK(m:Nat)(b:bt)(k:ab W):(gQ m k b).2=if hQ m b then 1 else 0:=by
 unfold gQ;cases hQ m b;.rcases b with⟨⟩<;>rfl
 .rfl
theorem vF(h:b<=1):mD a b<=1:=uq (aV _) (uq (bB _) h)
theorem KM(h:mD a b<=1):(if mD a b=1then 2 else 0)=2*mD a b:=by
 generalize mD a b=q at*;have:q=0\/q=1:=by omega
 rcases this with h|h<;>rw[h]<;>rfl
theorem U6(e:h=f/2%4):h/2*2<=2:=by subst e;exact(by decide:∀y<4,y/2*2<=2) _ (adZ _ (by decide))
theorem ZB(e:h=f/2%4):f/2%2=h%2:=by subst e;lia
theorem YO(e:h=f/2%4):f/4%2=h/2:=by subst e;omega
theorem XZ(e:h<=1):h%2=h/\h/2*2=0:=(by decide:∀h<2,h%2=h/\h/2*2=0) h (abb e)
theorem N6(h:s.sign<2):et U J B m ro s=⟨eZ s.key,(gQ m (gm U J B s.kind s.key) (decide (s.sign=1))).1,(gQ m (gm U J B s.kind s.key) (decide (s.sign=1))).2,mD ro (s.held%2)+(if U=0then s.held/2*2 else 0)⟩:=aW h
theorem Qg(h:s.sign=2)(b:s.held<=1)(c:eZ s.key=s.key):et U J B m ro s=⟨s.key,if m=1then ei [gm U J B s.kind s.key,[d6]]else gm U J B s.kind s.key,2,mD ro s.held⟩:=by rw[(show et U J B m ro s=⟨eZ s.key,if m=1then ei [gm U J B s.kind s.key,[d6]]else gm U J B s.kind s.key,s.sign,mD ro (s.held%2)+(if U=0then s.held/2*2 else 0)⟩from aZ (by rw[h];decide)),c,h,(XZ b).1,(XZ b).2,ite_self];rfl
theorem pY{s:Slot}(G:Good (g+2) T)(K:U=0->Kd T e s.kind)(z:U=0\/Tm T x U J B)(j:Ky T κ s.key)(Q:Nat)(as:Int)(m ro:Nat)(l:decide (U=0)=b){o:Prop}(k:∀f T2,(b=true->f=e/\T2=T)->(b=false->Runs 8 685 [eb,.d (eM Q as x m ro),.d (nD κ)] T (.d (nD f)) T2)->Good g T2->T<+:T2->Kd T2 f (gm U J B s.kind s.key)->o):o:=by
 subst l;by_cases c:U=0;.exact k e T (λ_=>⟨rfl,rfl⟩) (λh=>ay c (of_decide_eq_false h)) (G.le (aH _ _)) (aq _) (sY c (K c))
 .refine jt (EH (Q:=Q) (as:=as) (m:=m) (ro:=ro) (g:=g) G (z.resolve_left c) j s.kind) λf T2 p q r y=>?_;exact k f T2 (λh=>ay (aT h) c) (λ_=>p) q r y
theorem x3(G:Good (g+3) T)(j:U=0\/Tm T x U J B)(c:Ky T κ kw)(p:U=0->∃q,o=nD q/\Seen T q N I)(l:U≠0->o=.int (-1))(Q:Nat)(as:Int)(m ro:Nat):∃t' T',Runs 9 699 [eb,.d (eM Q as x m ro),.d (nD κ),.d o,.d (.bool N)] T (.d (nD t')) T'/\Good g T'/\T<+:T'/\Seen T' t' (hQ m N) (gQ m (gm U J B I kw) N).1:=by
 by_cases b:U=0;.refine d9 (p b) λq e f=>?_;rw[e,show gm U J B I kw=I from by rw[b];rfl];exact Fq (κ:=κ) (G.le (cw (by decide) _)) f
 .rw[l b];exact Io G (j.resolve_left b) c I
theorem O2.row(E:O2 T U e nm r)(S:Seen T' t' (hQ m (decide (e.s.sign=1))) (gQ m (gm U J B e.s.kind e.s.key) (decide (e.s.sign=1))).1):mJ T' (nm,t',oa m ro (yq e.p) (decide (U=0))) (et U J B m ro e.s):=by
 have c:=vF (a:=ro) (c8 (adZ e.s.held (by decide:0<2)));rw[N6 (by rw[E.sign];exact adZ _ (by decide))];have d:=PK m (decide (e.s.sign=1)) (gm U J B e.s.kind e.s.key);refine⟨E.nw,E.l1,?_,d▸uq (aV _) (bB _),aaD c (uq (k:=2) (U6 E.held) (bB _)),?_⟩;.show oa m ro (yq e.p) (decide (U=0))=(gQ m (gm U J B e.s.kind e.s.key) (decide (e.s.sign=1))).2+2*(mD ro (e.s.held%2)+(if U=0then e.s.held/2*2 else 0));unfold oa;rw[d,←E.sign,ZB E.held,YO E.held,KM c];exact EY
 .show Seen T' t' (decide ((gQ m (gm U J B e.s.kind e.s.key) (decide (e.s.sign=1))).2=1)) _;rw[d];generalize hQ m (decide (e.s.sign=1))=b at*;rcases b with⟨⟩<;>exact S
theorem J5(l:fg T M sl){k:W}(j:k=bif c then dZ else d0)(b:k∉sl.map (·.key)):(if c then M.ni else M.si)=none:=by
 refine CH l.rows λ_ o p _=>?_;rcases c with⟨⟩;.
  show M.si=none;rcases f:M.si with _|q;.rfl
  .exact j7 (o q f) λs d e _=>ay (ag.mpr ⟨s,d,e.trans j.symm⟩) b
 .show M.ni=none;rcases f:M.ni with _|q;.rfl
  .exact j7 (p q f) λs d e _=>ay (ag.mpr ⟨s,d,e.trans j.symm⟩) b
theorem Ni.num(E:Ni T U e):∃num:bt,e.κ=(bif num then 7 else 6)/\e.s.key=(bif num then dZ else d0):=E.key.elim (λh=>⟨false,h⟩) λh=>⟨true,h⟩
theorem fg.ix(b:fg T M sl)(hk:s.key=bif num then dZ else d0)(h:kX T q s):fg T (wI M num q) (sl++[s]):=by
 rcases num with⟨⟩;.exact .Oa b hk h
 .exact .OF b hk h
theorem OM(G:Good (g+3) T)(E:j0 T U e)(hb:U=0\/Tm T x U J B)(A:fg T M sl)(f:eZ e.s.key∉sl.map (·.key))(hl:sl.length<64):∃T' M',cF (n+10) wm 741 [eb,.d (eM Q as x m ro),.ins 634 (11+X.length),.d e.d,.d (nD e.κ),.d (.bool (decide (U=0)))] (hs F T (fX X M))=some (.d .fS,hs F T' (fX X M'))/\Good g T'/\T<+:T'/\fg T' M' (sl++[et U J B m ro e.s]):=by
 refine Or.elim E (λE=>QL E λnm r E=>?_) λE=>?_;.
  have Z:nm∉M.rows.map (·.1):=λq=>by refine d9 (ag.mp q) λp hp h=>?_;refine d9 (A.rows.1 p hp) λs YL mN=>?_;exact f (by rw[E.nw,←h,←mN.key];exact ag.mpr ⟨s,YL,rfl⟩)
  refine jt (x3 (o:=Nn e.p (decide (U=0))) G hb ⟨r,E.at_,E.wd⟩ (λh=>d9 (E.pl h) λq y c=>⟨q.2.1,by rw[y,aE h];rfl,c⟩) (λh=>by rw[aC h];cases e.p<;>rfl) Q as m ro) λt' T' z G' K Sl=>?_;refine rh T' _ ?_ G' K (.row (A.pre K) (E.row Sl));unfold Ent.d;rw[E.ix];exact Rn (by rw[E.sign,ba]) E.at_ E.kt (λd hd=>by have:=E.wd;rw[hd]at this;exact this.1) E.fl z Z (aj A.rows.2.2.2 hl)
 .refine d9 E.num λj y c=>?_;have I:eZ e.s.key=e.s.key:=by rw[c];rcases j with⟨⟩<;>rfl
  have R:Ky T e.κ e.s.key:=by
   rw[y,c];rcases j with⟨⟩;.exact i12 _ (G.at rfl) ⟨by decide,rfl⟩
   .exact i12 _ (G.at rfl) ⟨by decide,rfl⟩
  refine pY (e:=(e.ix.getD (0,0)).1) G (λh=>mn (E.pl h) λt r a b=>by rw[a];exact b) hb R Q as m ro rfl λN T1 a b G1 p1 K1=>?_;have hA:(Dq e.ix (decide (U=0))=nD N/\T1=T)\/(Dq e.ix (decide (U=0))=.int (-1)/\Runs 8 685 [eb,.d (eM Q as x m ro),.d (nD e.κ)] T (.d (nD N)) T1):=by
   by_cases C:U=0;.have a:=a (aE C);refine mn (E.pl C) λt r q _=>.inl ⟨?_,a.2⟩;rw[aE C,a.1,q];rfl
   .refine .inr ⟨?_,b (aC C)⟩;rw[aC C];cases e.ix<;>rfl
  have P:∃l T2,((m=1/\Runs 3 289 [d7,.d (.lst [nD N,.int 4])] T1 (.d (nD l)) T2)\/(m≠1/\l=N/\T2=T1))/\Good g T2/\T1<+:T2/\Kd T2 l (if m=1then ei [gm U J B e.s.kind e.s.key,[d6]]else gm U J B e.s.kind e.s.key):=by
   by_cases z:m=1;.refine jt (GO G1 K1 (.inr rfl)) λl T2 y c h3 h4=>?_;exact rh l T2 (.inl ⟨z,y⟩) c h3 (by rw[aW z];exact h4)
   .exact rh N T1 (.inr ⟨z,rfl,rfl⟩) (G1.le (dp _)) (aq _) (by rw[aZ z];exact K1)
  refine jt P λl T2 P G2 p2 K2=>?_;have O:=Qg (U:=U) (J:=J) (B:=B) (m:=m) (ro:=ro) E.sign E.le I;rw[E.held]at O;refine rh T2 (wI M j (l,mD ro (Mt e.ix))) ?_ G2 (p1.trans p2) ((A.pre (p1.trans p2)).ix ((ah Slot.key O).trans c) ?_);.unfold Ent.d;rw[E.p];exact(R5 G y (J5 A c (I▸f)) hA P)
  .rw[O];exact⟨rfl,rfl,vF (E.held▸E.le),K2⟩
noncomputable def Tp(Q:Nat)(as:Int)(x m ro i:Nat)(es:D)(b:bt)(N O C:ae V):Loc:=[some eb,some (.d (eM Q as x m ro)),some (.d es),some (.d (.bool b)),some (.ins 634 (11+i)),N,O,C]
theorem Jt{R:D}(ha:as=-1\/as=16):∀(es:ab Ent){T:ab Row}{M:Md}{sl:ab Slot}{N O C:ae V},Good (g+3*es.length) T->(∀e∈es,j0 T U e/\Ky T e.κ e.s.key)->(U=0\/Tm T x U J B)->fg T M sl->((sl.map (·.key))++es.map λe=>eZ e.s.key).Nodup->sl.length+es.length<64->∀{j:Prop},(∀T' I r y z,hH (.one 5) (d5 (iW.map BS.run)) ⟨cF (n+11),11+X.length⟩ (es.map Ent.d) (Tp Q as x m ro X.length R (decide (U=0)) N O C) (hs F T (fX X M))=some (.er,Tp Q as x m ro X.length R (decide (U=0)) r y z,hs F T' (fX X I))->Good g T'->T<+:T'->fg T' I (sl++es.map λe=>et U J B m ro e.s)->j)->j:=by intro es;induction es with|nil=>intro T M sl N O C G _ _ l _ _ j κ;exact κ T M N O C rfl G (aq _) (by rw[bF,aL];exact l)|cons e es ih=>intro T M sl N O C G E K l P hl j κ;have A:=E e (.head _);have c:=hl;refine jt (OM (F:=F) (X:=X) (n:=n+1) (wm:=11+X.length) (Q:=Q) (as:=as) (m:=m) (ro:=ro) (g:=g+3*es.length) G A.1 K l (λq=>(a8.mp P).2.2 _ q _ (.head _) rfl) (aj (au (aH _ _) (dp _)) c)) λT2 M2 c2 Z f o=>?_;have p:hH (.one 7) (d5 (kK.map BS.run)) ⟨cF (n+11),11+X.length⟩ [nD e.κ] (Tp Q as x m ro X.length R (decide (U=0)) (some (.d e.d)) (some (.d (.tup [nD e.κ]))) C) (hs F T (fX X M))=some (.er,Tp Q as x m ro X.length R (decide (U=0)) (some (.d e.d)) (some (.d (.tup [nD e.κ]))) (some (.d (nD e.κ))),hs F T2 (fX X M2)):=gV rfl (.inl rfl) (wq [dR 6 c2]) rfl;refine ih (N:=some (.d e.d)) (O:=some (.d (.tup [nD e.κ]))) (C:=some (.d (nD e.κ))) Z (λe h=>⟨(E e (.tail _ h)).1.pre f,(E e (.tail _ h)).2.pre f⟩) (K.imp id λh=>h.pre f) o (by rw[aD,bA,ar,fy];exact P) (by rw[ao,aao];exact c) λT3 M3 r y z e3 a p3 b=>?_;exact κ T3 M3 r y z (gV rfl (.inl rfl) (wq [dR 4 (J6 (Q:=Q) (x:=x) (m:=m) (ro:=ro) G ha A.2 (n+6) (11+X.length) F (fX X M)),mf 3 p]) e3) a (f.trans p3) (by rw[bA]at b;exact b)
theorem Gj{es:ab Ent}(G:Good (g+1+3*es.length) T)(E:∀e∈es,j0 T U e)(z:U=0\/Tm T x U J B)(y:as=-1\/as=16)(p:(es.map λe=>eZ e.s.key).Nodup)(o:es.length<64)(A:∀e∈es,Ky T e.κ e.s.key):∃t' T',cF (n+12) wm 748 [eb,.d (eM Q as x m ro),.d (.lst (es.map Ent.d)),.d (.bool (decide (U=0)))] (hs F T X)=some (.d (nD t'),hs F T' X)/\Good g T'/\T<+:T'/\∃M,T'[t']?=some (.obj (eK (gx M)) M.si M.ni)/\fg T' M (es.map λe=>et U J B m ro e.s):=by refine Jt (F:=F) (X:=X) (n:=n) (Q:=Q) (m:=m) (ro:=ro) (R:=.lst (es.map Ent.d)) (N:=none) (O:=none) (C:=none) y es G (λe h=>⟨E e h,A e h⟩) z .nil p (by rw[bQ,bS];exact o) λT1 M K P a r l I b=>?_;have b:fg T1 M (es.map λe=>et U J B m ro e.s):=b;have f:=b.nodup (by rw[aK];simp only[a9,fy];exact p);have c:=aj b.rows.2.2.2 (by rw[ak];exact o);refine(La (F:=F) (X:=X) (n:=n+8) (wm:=11+X.length) f c l.lt).elim λZ hd=>?_;have q:fJ dP ⟨cF (n+11),11+X.length⟩ (.ins 634 (11+X.length)) 114 [d7] (hs F T1 (fX X M))=some (.d (nD (fL T1 (.obj (eK (gx M)) M.si M.ni))),hs F (fj T1 (.obj (eK (gx M)) M.si M.ni)) (X++Z)):=OB.trans hd;refine rh _ _ ?_ l.put (I.trans eh) (i12 M gr (b.pre eh));exact wk ri dT [dR 0 (show cF (n+11) (11+X.length) 612 [.ins 634 (hs F T X).length] (hs F T X++[.ins []])=some (.d .fS,hs F T (fX X ⟨[],none,none⟩))from by simp[L9]),mf 1 (show hH (.one 5) (d5 (iW.map BS.run)) ⟨cF (n+11),11+X.length⟩ (es.map Ent.d) [some eb,some (.d (eM Q as x m ro)),some (.d (.lst (es.map Ent.d))),some (.d (.bool (decide (U=0)))),some (.ins 634 (hs F T X).length),none,none,none] (hs F T (fX X ⟨[],none,none⟩))=some (.er,Tp Q as x m ro X.length (.lst (es.map Ent.d)) (decide (U=0)) K P a,hs F T1 (fX X M))from by rw[dT];exact r),sb 0 (ah some (HV (F:=F) (T:=T1) (X:=X) (M:=M) (j:=114) (by decide) rfl)),dR 2 q,dR 0 (i0 F X Z (nD (fL T1 (.obj (eK (gx M)) M.si M.ni))) (fj T1 (.obj (eK (gx M)) M.si M.ni)))]
end
section
variable{F:ab Int}{T T1 T2:ab Row}{X Y L:ab Cell}{n wm:Nat}{H:Hp}{i κ t g:Nat}{k:ab W}{Q m ro x U J:Nat}{as:Int}{B:ab W}{kw:W}
variable{Z:ab D}{md:Mode}{v:D}
@[simp]theorem Xu:iZ M (.ref (11+X.length)) 100 (hs F T (X++.lst Z md::L))=true:=jn gq 100 M
theorem sf(h:Z.length<big):fJ M c (.ref (11+X.length)) 100 [.d v] (hs F T (X++.lst Z .own::L))=some (.d .fS,hs F T (X++.lst (Z++[v]) .own::L)):=by rw[nz gq (by decide) h,nO]
@[simp]theorem R9:jk (.ref (11+X.length)) (hs F T (X++.lst Z md::L))=some (Z,hs F T (X++.lst Z .fz::L)):=(RW gq).trans (by rw[nO])
@[simp]theorem VT:toD (.ref (11+X.length)) (hs F T (X++.lst Z md::L))=some (.lst Z,hs F T (X++.lst Z .fz::L)):=(Lr gq).trans (by rw[nO])
@[simp]theorem UZ:ik (.ref (11+X.length)) (hs F T (X++.lst Z .own::L))=some (.d (.lst Z),hs F T (X++.lst Z .fz::L)):=(VX gq).trans (by rw[nO])
@[simp]theorem PJ:iw 207 [.ref (11+X.length)] (hs F T (X++.lst Z md::L))=some (.tup Z):=by show Im (.ref _) _=_;unfold Im;dsimp only;rw[gq]
theorem pM:cF (n+1) wm 727 [.ins 730 H.length,.d a,.d b,.d c] (H++[.ins []])=some (.d .fS,H++[.ins [(11,.d a),(12,.d b),(13,.d c)]]):=by have h:d5 (lx.map BS.run) ⟨cF n,wm⟩ [some (.ins 730 H.length),some (.d a),some (.d b),some (.d c)] (H++[.ins []])=some (.er,[some (.ins 730 H.length),some (.d a),some (.d b),some (.d c)],H++[.ins [(11,.d a),(12,.d b),(13,.d c)]]):=wq [sh 0 (zQ H wm 730 11 a [] (by decide)),sh 0 (zQ H wm 730 12 b [(11,.d a)] (by show _<100;simp)),sh 0 (zQ H wm 730 13 c [(11,.d a),(12,.d b)] (by show _<100;simp))];rw[p7,FL rfl,show uD 4 _=[some (.ins 730 H.length),some (.d a),some (.d b),some (.d c)]from rfl,h];rfl
theorem tb:jg 730 H.length (H++[.ins [(11,.d a),(12,.d b),(13,.d c)]])=some (.d (.obj 730 [a,b,c]),H):=by unfold jg;rw[fD];exact ah (λz=>some (V.d (.obj 730 [a,b,c]),z)) aa7
theorem TO:RX 730 727 ⟨cF (n+1),wm⟩ ([.d a,.d b,.d c],H)=some (.d (.obj 730 [a,b,c]),H):=by rw[Kc,pM];exact tb
theorem Py:fin (11+X.length) (.ret (.ref (11+X.length)),l,hs F T (X++[.lst z .own]))=some (.d (.lst z),hs F T X):=by simp
theorem yX:some (iZ dP (.ref (11+X.length)) 100 (hs F T (X++[.lst z .own])))=some true:=by simp
noncomputable def j8(p:l6):bt:=decide (p.2.2.1/8%4=0)
theorem EE(h:p.2.2.1<64):cF (n+1) wm 593 [.d (mQ p)] H=some (.d (.bool (j8 p)),H):=wk w8 rfl [sd 7 (ah (λz=>some (D.int z)) (band h).2.2.2),sb 1 (show f6 .Eq (nD (p.2.2.1/8%4*8)) (.d (.int 0)) []=some (j8 p)from A3.trans (ah some (dq.mpr ⟨λh=>by lia,λh=>by rw[h]⟩))),dR 0 (eT (.bool (j8 p)) H)]
structure ia(T:ab Row)(p:l6)(s:Slot):Prop where
 l1:p.1.length=1
 c:∀a∈p.1,a<128
 key:s.key=34::(p.1++[34])
 sign:s.sign=p.2.2.1%2
 held:s.held=p.2.2.1/2%4
 seen:Seen T p.2.1 (decide (s.sign=1)) s.kind
noncomputable def r9(T:ab Row)(b:W)(o:ae (Nat×Nat))(l:ab Slot):Prop:=(o=none/\l=[])\/∃q s,o=some q/\l=[s]/\s.key=b/\kX T q s
structure mx(T:ab Row)(ps:ab l6)(si ni:ae (Nat×Nat))(sl:l6->Slot)(L1 L2:ab Slot):Prop where
 fl:∀p∈ps,p.2.2.1<64
 pr:∀p∈ps,j8 p=true->ia T p (sl p)
 i1:r9 T d0 si L1
 i2:r9 T dZ ni L2
 nd:(ps.map (·.1)).Nodup
 len:ps.length<=5
theorem ia.pre(h:T<+:T')(P:ia T p s):ia T' p s:=⟨P.l1,P.c,P.key,P.sign,P.held,P.seen.pre h⟩
theorem mx.pre(h:T<+:T')(s:mx T ps E ni sl c d):mx T' ps E ni sl c d:=by
 have b:∀{key o l},r9 T key o l->r9 T' key o l:=by
  intro key o l q;rcases q with q|⟨q,s,e,f,j,r⟩;.exact .inl q
  .exact .inr ⟨q,s,e,f,j,r.pre h⟩
 exact⟨s.fl,λp y z=>(s.pr p y z).pre h,b s.i1,b s.i2,s.nd,s.len⟩
theorem r9.mem(h:r9 T key o l)(hs:s∈l):∃q,o=some q/\s.key=key/\kX T q s:=by
 rcases h with h|h;.rw[h.2]at hs;exact kr hs
 .refine jt h λq f b c d e=>?_;rw[c]at hs;obtain rfl:=kE hs;exact Ps q b d e
theorem r9.len(h:r9 T key o l):l.length<=1:=by
 rcases h with h|h;.rw[h.2];decide
 .refine jt h λq f c b d e=>?_;rw[b];exact aV 1
theorem r9.Xe(h:r9 T key o l):l.filter (λs=>decide (s.sign<2))=[]:=aax.mpr λs hs e=>j7 (h.mem hs) λq _ _ x=>ay (aT e) (by rw[x.sign];decide)
theorem r9.key{key:W}{o:ae (Nat×Nat)}{l:ab Slot}(h:r9 T key o l){s:Slot}(hs:s∈l):s.key=key:=j7 (h.mem hs) λ_ _ k _=>k
theorem HL{c:Type}{l:ab c}(h:l.length<=1):l.Nodup:=by
 rcases l with _|⟨a,_|⟨b,l⟩⟩;.exact .nil
 .exact cj _ a
 .exact ay h (ad6.mpr (bY (cW 1) (de 2 _)))
theorem mx.ind(o:mx T ps E ni sl j l)(hs:s∈(ps.filter j8).map sl++j++l){M:Slot->Prop}(p:∀z∈ps,j8 z=true->ia T z (sl z)->M (sl z))(f:∀q s,(E=some q/\s.key=d0)\/(ni=some q/\s.key=dZ)->kX T q s->M s):M s:=by
 rcases aJ.mp hs with hs|hs;.
  rcases aJ.mp hs with hs|hs;.refine d9 (ag.mp hs) λz d e=>?_;rw[←e];have d:=aO.mp d;exact p z d.1 d.2 (o.pr z d.1 d.2)
  .exact j7 (o.i1.mem hs) λq a b c=>f q s (.inl ⟨a,b⟩) c
 .exact j7 (o.i2.mem hs) λq a b c=>f q s (.inr ⟨a,b⟩) c
theorem Ep(P:ia T p s)(d:p.2.2.1<64)(b:T[κ]?=some (.str p.1)):j0 T U ⟨κ,some p,none,s⟩/\Ky T κ s.key:=by have c:ek (.str p.1) s.key:=⟨P.l1,P.key⟩;refine⟨.inl ⟨p.1,.str p.1,⟨b,c,rfl,P.l1,?_,rfl,d,P.sign,P.held,λ_=>⟨p,rfl,P.seen⟩⟩⟩,.str p.1,b,c⟩;rw[P.key];simp[eZ]
theorem OJ(G:Good g T)(c:(κ=6/\b=d0)\/(κ=7/\b=dZ))(h:kX T q s)(hs:s.key=b):j0 T U ⟨κ,none,some q,s⟩/\Ky T κ s.key:=by
 refine⟨.inr ⟨rfl,h.sign,(sY hs c),h.held,by show s.held<=1;rw[h.held];exact h.le,λ_=>⟨q.1,q.2,rfl,h.kd⟩⟩,?_⟩;refine sY hs ?_;clear hs;rcases c with⟨rfl,rfl⟩|⟨rfl,rfl⟩;.exact i12 _ (G.at rfl) ⟨by decide,rfl⟩
 .exact i12 _ (G.at rfl) ⟨by decide,rfl⟩
theorem SE:D.eqv (ke o) (.tup [])=some (decide (o=none)):=by cases o<;>rfl
noncomputable def qX(T:ab Row)(U:Nat)(es:ab Ent):Prop:=∀e∈es,(j0 T U e/\Ky T e.κ e.s.key)/\∀z,e.p=some z->e.s.key=34::(z.1++[34])
theorem qX.snoc(h:qX T U es)(k:j0 T U e/\Ky T e.κ e.s.key)(c:∀z,e.p=some z->e.s.key=34::(z.1++[34])):qX T U (es++[e]):=λx b=>by
 rcases aJ.mp b with q|q;.exact h x q
 .rw[kE q];exact⟨k,c⟩
theorem qX.pre(h:qX T U es)(p:T<+:T'):qX T' U es:=λx b=>⟨⟨(h x b).1.1.pre p,(h x b).1.2.pre p⟩,(h x b).2⟩
noncomputable def Ey(t i:Nat)(d:D)(N:ae V):Loc:=[some eb,some (.d (nD t)),some d7,some (.ref (11+i)),some (.d d),N]
noncomputable def pI(F:ab Int)(T:ab Row)(X:ab Cell)(es:ab Ent):Hp:=hs F T (X++[.lst (es.map Ent.d) .own])
theorem A5(h:(es.map Ent.d).length<big):fJ M c (.ref (11+X.length)) 100 [.d e.d] (pI F T X es)=some (.d .fS,pI F T X (es++[e])):=by unfold pI;rw[aD];exact sf h
theorem HE(F:ab Int)(T:ab Row)(X:ab Cell)(es:ab Ent):some (iZ dP (.ref (11+X.length)) 100 (pI F T X es))=some true:=yX
theorem Iq(n:Nat)(F:ab Int)(T:ab Row)(X:ab Cell)(es:ab Ent)(a b c:D):cF (n+1) (pI F T X es).length 727 [.ins 730 (pI F T X es).length,.d a,.d b,.d c] (pI F T X es++[.ins []])=some (.d .fS,pI F T X es++[.ins [(11,.d a),(12,.d b),(13,.d c)]]):=pM
theorem Hl(F:ab Int)(T:ab Row)(X:ab Cell)(es:ab Ent)(a b c:D):jg 730 (pI F T X es).length (pI F T X es++[.ins [(11,.d a),(12,.d b),(13,.d c)]])=some (.d (.obj 730 [a,b,c]),pI F T X es):=tb
theorem KX(G:Good (g+1) T)(l:p.2.2.1<64)(P:j8 p=true->ia T p s)(E:qX T U es)(f:es.length<64){q:Prop}(κ:∀T' es',d5 (iP.map BS.run) ⟨cF (n+3),11+X.length⟩ (Ey t X.length d (some (.d (mQ p)))) (pI F T X es)=some (.er,Ey t X.length d (some (.d (mQ p))),pI F T' X es')->Good g T'->T<+:T'->qX T' U es'->es'.map (·.s)=es.map (·.s)++(bif j8 p then[s]else[])->es'.length<=es.length+1->q):q:=by
 have o:=λwm=>EE (n:=n+2) (wm:=wm) (H:=pI F T X es) l;have f:(es.map Ent.d).length<big:=by rw[ak];exact bM f (by decide)
 generalize j8 p=b at*;rcases b with⟨⟩;.refine κ T es ?_ (G.le (dp _)) (aq _) E (aL _).symm (dp _);exact wq [dR 1 (o (11+X.length))]
 .have P:=P rfl;have j:=HN (T:=T) (s:=p.1) G.lt;have A:=gr (T:=T) (r:=.str p.1);have y:=A5 (F:=F) (T:=fj T (.str p.1)) (X:=X) (M:=dP) (c:=⟨cF (n+3),11+X.length⟩) (e:=⟨fL T (.str p.1),some p,none,s⟩) f;refine κ (fj T (.str p.1)) (es++[⟨fL T (.str p.1),some p,none,s⟩]) ?_ G.put eh ((E.pre eh).snoc (Ep (P.pre eh) l A) λz C=>by obtain rfl:=sI C;exact P.key) (aD) (by rw[ao];exact aV _);have j:cF (n+3) (11+X.length) 158 [d7,.d (sD p.1)] (pI F T X es)=some (.d (nD (fL T (.str p.1))),pI F (fj T (.str p.1)) X es):=by have h:=j (n+1) (11+X.length) F (X++[.lst (es.map Ent.d) .own]);exact h
  exact wq [dR 1 (o (11+X.length)),sb 1 (HE F T X es),dR 4 j,dR 3 (Iq (n+2) F (fj T (.str p.1)) X es (nD (fL T (.str p.1))) (mQ p) (.tup [])),dR 0 (Hl F (fj T (.str p.1)) X es (nD (fL T (.str p.1))) (mQ p) (.tup [])),dR 1 y]
theorem Lg{sl:l6->Slot}{d:D}:∀(ps:ab l6){T:ab Row}{es:ab Ent}{N:ae V}{c:Prop},(∀p∈ps,p.2.2.1<64/\(j8 p=true->ia T p (sl p)))->Good (g+ps.length) T->qX T U es->es.length+ps.length<64->(∀T' es' l,hH (.one 5) (d5 (iP.map BS.run)) ⟨cF (n+3),11+X.length⟩ (ps.map mQ) (Ey t X.length d N) (pI F T X es)=some (.er,Ey t X.length d l,pI F T' X es')->Good g T'->T<+:T'->qX T' U es'->es'.map (·.s)=es.map (·.s)++(ps.filter j8).map sl->es'.length<=es.length+ps.length->c)->c:=by intro ps;induction ps with|nil=>intro T es N c _ G E b κ;exact κ T es N rfl G (aq _) E (aL _).symm (aV _)|cons p ps ih=>intro T es N c f G E b κ;rw[bf,←aat,aao]at b;have o:=f p (.head _);refine KX (F:=F) (X:=X) (n:=n) (t:=t) (d:=d) (g:=g+ps.length) G o.1 o.2 E (aj (au (dp _) (aH _ ps.length)) b) λT1 O K C y z a j=>?_;refine ih (N:=some (.d (mQ p))) (λq r=>⟨(f q (.tail _ r)).1,λh=>((f q (.tail _ r)).2 h).pre y⟩) C z (aj (ab2 j _) b) λT2 e l M I R A s2 P=>?_;refine κ T2 e l (gV rfl (.inl rfl) K M) I (y.trans R) A ?_ (au P (au (ab2 j _) (bZ (aao _ _ _))));rw[s2,a,bA,cV];cases j8 p<;>rfl
theorem My{k:Nat}{b:ab BS}(G:Good g T)(E:qX T U es)(I:r9 T c o l)(M:es.length<big)(K:(k=6/\c=d0)\/(k=7/\c=dZ))(j:o=none->d5 (b.map BS.run) ⟨cF (n+3),11+X.length⟩ (Ey t X.length d N) (pI F T X es)=some (.er,Ey t X.length d N,pI F T X es))(p:∀q,o=some q->fJ dP ⟨cF (n+3),11+X.length⟩ (.ref (11+X.length)) 100 [.d (mA k none (some q))] (pI F T X es)=some (.d .fS,pI F T X (es++[⟨k,none,some q,⟨[],[],0,0⟩⟩]))->d5 (b.map BS.run) ⟨cF (n+3),11+X.length⟩ (Ey t X.length d N) (pI F T X es)=some (.er,Ey t X.length d N,pI F T X (es++[⟨k,none,some q,⟨[],[],0,0⟩⟩]))){f:Prop}(κ:∀es',d5 (b.map BS.run) ⟨cF (n+3),11+X.length⟩ (Ey t X.length d N) (pI F T X es)=some (.er,Ey t X.length d N,pI F T X es')->qX T U es'->es'.map (·.s)=es.map (·.s)++l->es'.length<=es.length+1->f):f:=by
 rcases I with h|h;.exact κ es (j h.1) E (by rw[h.2,aL]) (dp _)
 .refine jt h λq s y z A C=>?_;have r:=p q y (A5 (e:=⟨k,none,some q,⟨[],[],0,0⟩⟩) (by rw[ak];exact M));refine κ (es++[⟨k,none,some q,s⟩]) (r.trans ?_) (E.snoc (OJ G K C A) nofun) (by rw[aD,z];rfl) (by rw[ao];exact aV _);unfold pI;rw[aD,aD];rfl
theorem xY(G:Good (g+5) T)(R:T[t]?=some (.obj ps E ni))(O:mx T ps E ni sl L1 L2):∃(es:ab Ent)(T':ab Row),cF (n+4) wm 755 [eb,.d (nD t)] (hs F T X)=some (.d (.lst (es.map Ent.d)),hs F T' X)/\Good g T'/\T<+:T'/\(∀e∈es,j0 T' U e/\Ky T' e.κ e.s.key)/\es.map (·.s)=(ps.filter j8).map sl++L1++L2/\∀e∈es,∀z,e.p=some z->e.s.key=34::(z.1++[34]):=by
 have sh:=A1 R (n+1) (11+X.length) F (X++[.lst [] .own]);have l:=O.len;have K:∀{k:Nat},k<=7->k<big:=λh=>aj h (by decide);refine Lg (F:=F) (X:=X) (n:=n) (t:=t) (d:=gF (.obj ps E ni)) (U:=U) (es:=[]) (N:=none) ps (λp P=>⟨O.fl p P,O.pr p P⟩) (G.le (cw l g)) nofun (by rw[bQ,bS];exact aj l (by decide)) λT1 c A M o a E1 s1 j=>?_;rw[bQ,bS]at j;have j:=au j l;have I:=O.pre a;have hA:d5 ((gu.take 4).map BS.run) ⟨cF (n+3),11+X.length⟩ (uD 6 [eb,.d (nD t)]) (hs F T X)=some (.er,Ey t X.length (gF (.obj ps E ni)) A,pI F T1 X c):=wq [dR 1 (iD F X (.lst [] .own) T),dR 3 sh,sv 1 (fR F (X++[.lst [] .own]) R),mf 3 M];clear M sh;refine My (F:=F) (X:=X) (n:=n) (t:=t) (b:=(gu.drop 4).take 1) (d:=gF (.obj ps E ni)) (N:=A) o E1 I.i1 (K (au j (by decide))) (.inl ⟨rfl,rfl⟩) (λh=>?_) (λq h r=>?_) λf e2 E2 s2 l2=>?_;.subst h;exact wq []
 .subst h;exact wq [sb 5 (HE F T1 X c),dR 5 (Iq (n+2) F T1 X c (.int 6) .fS (ke (some q))),dR 0 (Hl F T1 X c (.int 6) .fS (ke (some q))),dR 1 r]
 refine My (F:=F) (X:=X) (n:=n) (t:=t) (b:=(gu.drop 5).take 1) (d:=gF (.obj ps E ni)) (N:=A) o E2 I.i2 (K (au l2 (aaz (aby j)))) (.inr ⟨rfl,rfl⟩) (λh=>?_) (λq h r=>?_) λy e3 C s3 l3=>?_;.subst h;exact wq []
 .subst h;exact wq [sb 5 (HE F T1 X f),dR 5 (Iq (n+2) F T1 X f (.int 7) .fS (ke (some q))),dR 0 (Hl F T1 X f (.int 7) .fS (ke (some q))),dR 1 r]
 refine YW y T1 ((rm _ _ _ _).trans (mh (b:=gu.drop 4) rfl dT hA (tN (b:=gu.drop 5) e2 (tN e3 Py)))) o a (λe h=>(C e h).1) ?_ λe h=>(C e h).2;rw[s3,s2,s1];rfl
theorem Ib{I:ab Nat}:cF (n+2) wm 760 [.d (.tup (I.map nD))] H=some (.d (.lst (I.map λκ=>mA κ none none)),H):=by have f:=fV (elt:=(EG 730 727 [(dM 1),(dN .fS),(d8 [])]).run) (c:=⟨cF (n+1),H.length⟩) (e:=nD) (H:=H) [some (.d (.tup (I.map nD)))] I (λκ=>mA κ none none) (o:=none) (λκ _=>wd [dR 3 (pM (n:=n) (H:=H) (a:=nD κ) (b:=.fS) (c:=.tup []) (wm:=H.length)),dR 0 (tb (H:=H) (a:=nD κ) (b:=.fS) (c:=.tup []))]);exact wk sq rfl [jY 1 f,dR 0 (eT (D.lst (aap (λ(κ:Nat)↦mA κ none none) I)) H)]
end
section
variable{F:ab Int}{T T1 T2:ab Row}{X Y L:ab Cell}{n wm:Nat}{H:Hp}{i κ t g:Nat}{k:ab W}{Q m ro x U J:Nat}{as:Int}{B:ab W}{kw:W}
noncomputable def qb(m:Nat)(k:ab W):ab W:=if m=1then ei [k,[d6]]else if m=2then k.filter (λw=>decide (w≠d6))else k
theorem Bg(G:Good (g+1) T)(K:Kd T t k):∃t' T',Runs 6 774 [eb,.d (eM Q as x m ro),.d (nD t)] T (.d (nD t')) T'/\Good g T'/\T<+:T'/\Kd T' t' (qb m k):=by
 unfold qb;refine(let l:Prop:=_;(?_:l));by_cases f:m=1;.subst f;refine jt (GO G K (.inr rfl)) λt' T' r b p c=>?_;refine jR t' T' ⟨?_,b,p,c⟩;intro n wm F X;exact wk lX dT [dR 10 (r (n+2) (11+X.length) F X),dR 0 (dU F X (nD t') T')]
 .by_cases j:m=2;.subst j;refine jt (Ie G K) λt' T' r b p c=>?_;refine jR t' T' ⟨?_,b,p,c⟩;intro n wm F X;exact wk lX dT [dR 12 (r n (11+X.length) F X),dR 0 (dU F X (nD t') T')]
  .have e:¬(m:Int)=2:=by lia
   refine jR t T ⟨?_,G.le ((aH _ _)),aq _,by simpa[f,j]using K⟩;intro n wm F X;exact wk lX dT [sb 3 (eA (show¬(m:Int)=1from by lia)),sb 4 (eA e),dR 1 (dU F X (nD t) T)]
noncomputable def gG(U J:Nat)(B:ab W)(m:Nat)(s:Slot):Slot:=let b:=gm U J B s.kind s.key;if s.sign<2then⟨s.key,(gQ m b (decide (s.sign=1))).1,(gQ m b (decide (s.sign=1))).2,0⟩else⟨s.key,qb m b,s.sign,0⟩
structure gH(T:ab Row)(i:Nat)(e:Nat×Nat)(s:Slot):Prop where
 sign:s.sign=e.2
 held:s.held=0
 key:s.key=[34,48+i,34]
 seen:Seen T e.1 (decide (s.sign=1)) s.kind
theorem gH.pre(h:T<+:T')(r:gH T i e s):gH T' i e s:=⟨r.sign,r.held,r.key,r.seen.pre h⟩
theorem digit(h:i<10):iw 204 [.d (nD i)] H=some (sD [48+i]):=by
 have:(0:Int)<=i/\(i:Int)<10:=by lia
 simp[iw,t5,zA,jq,this,S]
theorem LJ(l:i<10)(c:Runs 2 158 [d7,.d (sD [48+i])] T0 (.d (nD κ)) T1)(j:b=true->f=o/\T2=T1)(e:b=false->Runs 8 685 [eb,.d (eM Q as x m ro),.d (nD κ)] T1 (.d (nD f)) T2)(r:Runs 6 774 [eb,.d (eM Q as x m ro),.d (nD f)] T2 (.d (nD t')) T'):cF (n+10) wm 781 [eb,.d (eM Q as x m ro),.d (nD i),.d (g8 (o,2)),.d (.bool b)] (hs F T0 X)=some (.d (g8 (t',2)),hs F T' X):=by
 have hd:=digit (H:=hs F T0 X) l;have c:=c (n+7) (11+X.length) F X;have r:=r (n+3) (11+X.length) F X;rcases b with⟨⟩;.have e:=e rfl (n+1) (11+X.length) F X;exact wk jb dT [sd 2 hd,dR 1 c,dR 10 e,dR 3 r,dR 2 (dU F X (.tup [nD t',.int 2]) T')]
 .obtain⟨rfl,rfl⟩:=j rfl;exact wk jb dT [sd 2 hd,dR 1 c,dR 12 r,dR 2 (dU F X (.tup [nD t',.int 2]) T')]
theorem O5(s:i<10)(q:p≠2)(y:decide (p=1)=N)(e:Runs 2 158 [d7,.d (sD [48+i])] T0 (.d (nD κ)) T1)(c:hQ m N=l)(r:Runs 9 699 [eb,.d (eM Q as x m ro),.d (nD κ),.d (bif b then nD o else .int (-1)),.d (.bool N)] T1 (.d (nD t')) T'):cF (n+10) wm 781 [eb,.d (eM Q as x m ro),.d (nD i),.d (g8 (o,p)),.d (.bool b)] (hs F T0 X)=some (.d (g8 (t',bif l then 1 else 0)),hs F T' X):=by
 have hd:=digit (H:=hs F T0 X) s;have e:=e (n+7) (11+X.length) F X;have c:=(v8 (n:=n+8) (wm:=11+X.length) (H:=hs F T1 X) (Q:=Q) (as:=as) (x:=x) (ro:=ro)).trans (by rw[c]);have r:=r n (11+X.length) F X;have j:=eA (hJ q);have f:=(A3).trans (ah some y);rcases b with⟨⟩<;>rcases l with⟨⟩;.exact wk jb dT [sd 2 hd,dR 1 e,sb 4 j,sb 4 f,dR 2 c,dR 6 r,dR 2 (dU F X (.tup [nD t',.int 0]) T')]
 .exact wk jb dT [sd 2 hd,dR 1 e,sb 4 j,sb 4 f,dR 2 c,dR 6 r,dR 2 (dU F X (.tup [nD t',.int 1]) T')]
 .exact wk jb dT [sd 2 hd,dR 1 e,sb 6 j,sb 4 f,dR 2 c,dR 6 r,dR 2 (dU F X (.tup [nD t',.int 0]) T')]
 .exact wk jb dT [sd 2 hd,dR 1 e,sb 6 j,sb 4 f,dR 2 c,dR 6 r,dR 2 (dU F X (.tup [nD t',.int 1]) T')]
theorem Ly:(gQ m k N).2=bif hQ m N then 1 else 0:=by
 unfold gQ;rcases hQ m N with⟨⟩;.rcases N with⟨⟩<;>rfl
 .rfl
theorem L8(G:Good (g+4) T)(hi:i<10)(he:e.2<=2)(E:gH T i e s)(hb:U=0\/Tm T x U J B):∃C T',Runs 10 781 [eb,.d (eM Q as x m ro),.d (nD i),.d (g8 e),.d (.bool (decide (U=0)))] T (.d (g8 C)) T'/\Good g T'/\T<+:T'/\gH T' i C (gG U J B m s)/\C.2=(if e.2=2then 2 else if hQ m (decide (e.2=1))then 1 else 0):=by
 have G1:Good (g+3) (fj T (.str [48+i])):=G.put;have M:=gr (T:=T) (r:=.str [48+i]);have R:=HN (s:=[48+i]) G.lt;have y:T<+:fj T (.str [48+i]):=eh;have Z:=E.pre y;have QF:=hb.imp id λh=>h.pre y;generalize fL T (.str [48+i])=κ at M R;generalize fj T (.str [48+i])=T1 at*;have p:Ky T1 κ s.key:=⟨_,M,by rw[E.key];exact⟨rfl,rfl⟩⟩;have c:=E.sign;have f:=E.key;generalize j:decide (U=0)=b;have z:=Z.seen;clear hb M E Z G;obtain⟨o,O⟩:=e;simp only at c he z⊢;rw[c]at z;by_cases I:O=2;.subst I;refine z.elim λk0 K=>?_;refine pY (G1.le (aV _)) (λ_=>(K.2▸K.1:Kd T1 o s.kind)) QF p Q as m ro j λt1 T2 a b G2 p2 K2=>?_;refine jt (Bg (Q:=Q) (as:=as) (x:=x) (m:=m) (ro:=ro) G2 K2) λq T' r A P K'=>?_;have hl:gG U J B m s=⟨s.key,qb m (gm U J B s.kind s.key),s.sign,0⟩:=aZ (by rw[c];decide);rw[hl];exact Q7 (q,2) T' (λn wm F X=>LJ hi R a b r) A (y.trans (p2.trans P)) ⟨c,rfl,f,by show Seen T' q (decide (s.sign=1)) _;rw[c];exact⟨_,K',rfl⟩⟩ rfl
 .refine jt (x3 (o:=bif b then nD o else .int (-1)) G1 QF p (λh=>⟨o,by rw[←j,aE h];rfl,z⟩) (λh=>by rw[←j,aC h];rfl) Q as m ro) λq T' r A P S'=>?_;rw[(show gG U J B m s=⟨s.key,(gQ m (gm U J B s.kind s.key) (decide (s.sign=1))).1,(gQ m (gm U J B s.kind s.key) (decide (s.sign=1))).2,0⟩from aW (by rw[c];show O<2;lia)),c,Ly];generalize N:hQ m (decide (O=1))=l at*;refine Q7 (q,bif l then 1 else 0) T' (λn wm F X=>O5 hi I rfl R N r) A (y.trans P) ⟨rfl,rfl,f,by show Seen T' q (decide ((bif l then 1 else 0)=1)) _;rw[(show decide ((bif l then 1 else 0)=1)=l from by rcases l with⟨⟩<;>rfl)];exact S'⟩ ?_;rw[aZ I];rcases l with⟨⟩<;>rfl
inductive tq(T:ab Row)(t:Nat)(L:ab Slot)(ro:Nat):Prop|tup(es:ab (Nat×Nat))(ht:T[t]?=some (.tup es ro))(M:mz es)(h1:∀e,es≠[(e,2)])(hl:L.length=es.length)(h3:es.length<=3)(ok:∀(i:Nat)(e:Nat×Nat)(s:Slot),es[i]?=some e->L[i]?=some s->gH T i e s):tq T t L ro|arr(e:Nat)(s:Slot)(ht:T[t]?=some (.arr e ro))(hL:L=[s])(sign:s.sign=2)(held:s.held=0)(key:s.key=dZ)(K:Kd T e s.kind):tq T t L ro
theorem PN(G:Good (g+4) T)(ht:T[t]?=some (.arr e R))(c:s.sign=2)(l:s.key=dZ)(K:Kd T e s.kind)(N:U=0\/Tm T x U J B):∃t' T',Runs 9 767 [eb,.d (eM Q as x m ro),.d (nD t),.d (.bool (decide (U=0)))] T (.d (nD t')) T'/\Good g T'/\T<+:T'/\tq T' t' [gG U J B m s] (mD ro R):=by
 have f:Ky T 7 s.key:=by rw[l];exact⟨_,G.at rfl,by decide,rfl⟩
 generalize j:decide (U=0)=b;refine pY G (λ_=>K) N f Q as m ro j λt1 T2 h0 A C P E=>?_;refine jt (Bg (Q:=Q) (as:=as) (x:=x) (m:=m) (ro:=ro) C E) λq z r y h I=>?_;have p:=x5 (e:=q) (ro:=mD ro R) y.lt;have O:gG U J B m s=⟨s.key,qb m (gm U J B s.kind s.key),s.sign,0⟩:=aZ (by rw[c];decide);rw[O];refine rh _ _ (λn wm F X=>?_) y.put (P.trans (h.trans eh)) (.arr q _ gr rfl c rfl l (I.pre eh));have a:=AU (n:=n+7) (wm:=11+X.length) (H:=hs F z X) (Z:=ro) (r:=R);have p:=p (n+6) (11+X.length) F X;have r:=r (n+2) (11+X.length) F X;have o:=fR F X ht;have M:=dU F X (nD (fL z (.arr q (mD ro R)))) (fj z (.arr q (mD ro R)));clear j y C I E h P f K N G O;rcases b with⟨⟩;.have A:=A rfl n (11+X.length) F X;exact wk qR dT [sv 3 o,dR 4 A,dR 4 r,dR 7 a,dR 1 p,dR 0 M]
 .obtain⟨rfl,rfl⟩:=h0 rfl;exact wk qR dT [sv 3 o,dR 7 r,dR 7 a,dR 1 p,dR 0 M]
end
section
variable{F:ab Int}{T T1 T2:ab Row}{X Y L:ab Cell}{n wm:Nat}{H:Hp}{i κ t g:Nat}{k:ab W}{Q m ro x U J:Nat}{as:Int}{B:ab W}{kw:W}
noncomputable def zo(m b:Nat):Nat:=if b=2then 2 else if hQ m (decide (b=1))then 1 else 0
theorem S1:zo m 2=2:=aW rfl
theorem E6(h:a<2):zo m a<2:=by unfold zo;rw[aZ (ct h)];exact abb (uq (aV _) (bB _))
theorem O9:zo m 0<=zo m 1:=by unfold zo hQ;generalize decide (m=1)=u;generalize decide (m=0)=v;revert u v;decide
theorem PQ(h:a<=b/\a<2)(d:b<=2):zo m a<=zo m b/\zo m a<2:=by
 refine⟨?_,E6 h.2⟩;rcases df b 2with q|q;.
  rcases Nat.eq_or_lt_of_le h.1with e|e;.rw[e];exact aV _
  .have c:b=1:=aan (c8 q) (aj (bB _) e);subst c;rw[Nat.lt_one_iff.mp e];exact O9
 .rw[aan d q,S1];exact aaH (E6 h.2)
theorem H9(M:mz E)(h:c.map (·.2)=(E.map (·.2)).map (zo m)):mz c:=by
 have p:=by have:=ah bq h;simpa using this
 refine⟨?_,λe o=>?_,(sY p M.sz)⟩;.
  have f:(c.map (·.2)).Pairwise λa b=>a<=b/\a<2:=by rw[h,aK,bU];refine da ?_ M.pw;intro a b j l d;exact PQ d (M.le b l)
  rw[bU]at f;exact f
 .have:e.2∈c.map (·.2):=ag.mpr ⟨e,o,rfl⟩;rw[h]at this;refine d9 (ag.mp this) λa _ j=>?_;rw[←j];unfold zo;split;lia;split<;>lia
theorem K4(h:zo m a=2):a=2:=Decidable.byContradiction λq=>by unfold zo at h;rw[aZ q]at h;have l:=uq (c:=hQ m (decide (a=1))=true) (aV 1) (bB 1);rw[h]at l;exact ay l (by decide)
noncomputable def TP(Q:Nat)(as:Int)(x m ro t:Nat)(b:bt)(d:D)(i:Nat)(C:ae V):Loc:=[some eb,some (.d (eM Q as x m ro)),some (.d (nD t)),some (.d (.bool b)),some d7,some (.d d),some (.ref (11+i)),C]
noncomputable def Qe(F:ab Int)(T:ab Row)(X:ab Cell)(es:ab (Nat×Nat)):Hp:=hs F T (X++[.lst (es.map g8) .own])
theorem uA{k:Nat}{x:D}(h:Z[k]?=some x):fZ (.d (.tup Z)) (nD k) H=some (.d x):=by simp[h]
theorem Lx{c:Type}{l:ab c}{a b:c}(h:(l++[a])[i]?=some b):l[i]?=some b\/(i=l.length/\b=a):=by
 rcases aaB i l.length with q|q|q;.rw[aU q]at h;exact .inl h
 .subst q;rw[vO]at h;exact .inr ⟨rfl,(sI h).symm⟩
 .rw[b6 (by rw[ao];exact q)]at h;exact ec h
theorem Lv{es:ab (Nat×Nat)}{R:Nat}{o:ab Slot}{b:bt}(hb:b=decide (U=0))(M:mz es)(hl:o.length=es.length)(h3:es.length<=3){T0:ab Row}(ok:∀(i:Nat)(e:Nat×Nat)(s:Slot),es[i]?=some e->o[i]?=some s->gH T0 i e s)(hT:U=0\/Tm T0 x U J B):∀(r d:ab (Nat×Nat)){T:ab Row}{es':ab (Nat×Nat)}{C:ae V},es=d++r->Good (g+4*r.length) T->T0<+:T->es'.length=d.length->es'.map (·.2)=(d.map (·.2)).map (zo m)->(∀(i:Nat)(e:Nat×Nat)(s:Slot),es'[i]?=some e->o[i]?=some s->gH T i e (gG U J B m s))->∀{K:Prop},(∀T' j q7,hH (.one 7) (d5 (kW.map BS.run)) ⟨cF (n+10),11+X.length⟩ ((aaA d.length r.length).map nD) (TP Q as x m ro t b (gF (.tup es R)) X.length C) (Qe F T X es')=some (.er,TP Q as x m ro t b (gF (.tup es R)) X.length q7,Qe F T' X j)->Good g T'->T<+:T'->j.length=es.length->j.map (·.2)=(es.map (·.2)).map (zo m)->(∀(i:Nat)(e:Nat×Nat)(s:Slot),j[i]?=some e->o[i]?=some s->gH T' i e (gG U J B m s))->K)->K:=by
 intro r;induction r with
 |nil=>intro d T es' C E G p f P y K κ;rw[aL]at E;exact κ T es' C rfl G (aq _) (E▸f) (E▸P) y|cons e r ih=>
  intro d T es' C E G p f P y K κ;have l:es[d.length]?=some e:=by rw[E];exact vO
  have q:=(aG.mp l).1;have A:o[d.length]?=some o[d.length]:=aw (hl▸q);generalize o[d.length]=s at A;refine C5 (L8 (Q:=Q) (as:=as) (m:=m) (ro:=ro) (g:=g+4*r.length) (U:=U) (J:=J) (B:=B) G (bY q (au h3 (by decide))) (M.le e (aab l)) ((ok _ _ _ l A).pre p) (hT.imp id λh=>h.pre p)) λN T2 I G2 p2 E2 m2=>?_;have ap:=sf (F:=F) (T:=T2) (X:=X) (L:=[]) (M:=dP) (c:=⟨cF (n+10),11+X.length⟩) (Z:=es'.map g8) (v:=g8 N) (by rw[ak,f];exact bM (bY q h3) (by decide));have I:=I n (11+X.length) F (X++[.lst (es'.map g8) .own]);rw[←hb]at I;have s2:fZ (.d (.tup (es.map g8))) (nD d.length) (hs F T (X++[.lst (es'.map g8) .own]))=some (.d (g8 e)):=uA (by rw[bV,l];rfl);have run:d5 (kW.map BS.run) ⟨cF (n+10),11+X.length⟩ (TP Q as x m ro t b (gF (.tup es R)) X.length (some (.d (nD d.length)))) (Qe F T X es')=some (.er,TP Q as x m ro t b (gF (.tup es R)) X.length (some (.d (nD d.length))),Qe F T2 X (es'++[N])):=by unfold Qe;rw[aD];exact wq [sb 0 (yX (F:=F) (T:=T) (X:=X) (z:=es'.map g8)),sv 6 s2,dR 2 I,dR 1 ap]
  refine ih (d++[e]) (T:=T2) (es':=es'++[N]) (C:=some (.d (nD d.length))) (by rw[E,bA];rfl) G2 (p.trans p2) (by rw[ao,ao,f];rfl) (by rw[aD,aD,aD,P];exact ah (_++[·]) m2) (λi e1 s1 hi hs=>?_) λT3 O q7 e3 G3 p3 l3 m3 a=>?_;.
   rcases Lx hi with h|h;.exact(y i e1 s1 h hs).pre p2
   .rw[h.1,f]at hs⊢;rw[A]at hs;obtain rfl:=sI hs;rw[h.2];exact E2
  .rw[ao]at e3;exact κ T3 O q7 (gV rfl (.inl rfl) run e3) G3 (p2.trans p3) l3 m3 a
theorem OW{A:ab Slot}(G:Good (g+13) T)(ht:T[t]?=some (.tup es R))(M:mz es)(p:∀e,es≠[(e,2)])(hl:A.length=es.length)(I:es.length<=3)(ok:∀(i:Nat)(e:Nat×Nat)(s:Slot),es[i]?=some e->A[i]?=some s->gH T i e s)(hb:U=0\/Tm T x U J B):∃t' T',cF (n+11) wm 788 [eb,.d (eM Q as x m ro),.d (nD t),.d (.bool (decide (U=0)))] (hs F T X)=some (.d (nD t'),hs F T' X)/\Good g T'/\T<+:T'/\tq T' t' (A.map (gG U J B m)) (mD ro R):=by
 generalize K:decide (U=0)=b;refine Lv (F:=F) (X:=X) (n:=n) (g:=g+1) (Q:=Q) (as:=as) (m:=m) (ro:=ro) (t:=t) (R:=R) (C:=none) K.symm M hl I ok hb es [] rfl (G.le (by lia)) (aq _) rfl rfl nofun λT' c q7 e1 y p' o j q=>?_;have E:mz c:=H9 M j;have f:∀e,c≠[(e,2)]:=λe he=>by rw[he,aK]at j;refine(aa8.mp j.symm).elim λa h=>?_;exact p a.1 (h.1.trans (ah (λz=>[(a.1,z)]) (K4 h.2)))
 have tt:=rH (ro:=mD ro R) E (.inl rfl) y.lt (n+7) (11+X.length) F (X++[Cell.lst (aap g8 c) Mode.own]);rw[r6 f]at tt;have hr:=iB (aj I (by decide)) (hs F T (X++[.lst [] .own]));rw[aaa]at hr;have P:=fR F X ht;refine rh _ _ ?_ y.put (p'.trans eh) (.tup c gr E f (by rw[ak,hl,o]) (o▸I) λi e s N l=>?_);.clear G y M E p f ok q j hb ht;exact wk xq dT [sv 3 P,dR 0 (iD F X (.lst [] .own) T),sd 2 (show iw 200 [V.d (D.tup (aap g8 es))] (hs F T (X++[Cell.lst [] Mode.own]))=some (D.int ↑es.length)from ah (λk:Nat=>some (D.int k)) (ak _)),jY 1 hr,mf 0 e1,sd 1 (show iw 207 [.ref (11+X.length)] (Qe F T' X c)=some (.tup (c.map g8))from PJ (L:=[])),dR 7 (AU (n:=n+9) (wm:=11+X.length) (H:=Qe F T' X c) (Z:=ro) (r:=R)),dR 1 tt,dR 0 (i0 F X [Cell.lst (c.map g8) .own] (nD (fL T' (.tup c (mD ro R)))) (fj T' (.tup c (mD ro R))))]
 .rw[bV]at l;refine d9 (cv.mp l) λs0 O y1=>?_;subst y1;exact(q i e s0 N O).pre eh
noncomputable def gJ(l:ab Slot):ab Slot:=sortBy (λa b=>eG a.key b.key) l
noncomputable def SK(l:ab Slot):Prop:=l.Pairwise λa b=>eG a.key b.key=true/\a.key≠b.key
set_option tactic.hygienic true in theorem Qr{a:Slot}:∀{l:ab Slot},SK l->a.key∉l.map (·.key)->SK (gp (λa b=>eG a.key b.key) a l):=by
 intro l;induction l with
 |nil=>intro _ _;simp[gp,SK]|cons b r ih=>
  intro h hn;unfold SK at h⊢;rw[a6]at h;rw[ar,af,not_or]at hn;unfold gp;split;.
   rename_i Qd;refine a6.mpr ⟨λx hx=>⟨?_,λe=>?_⟩,a6.mpr h⟩;.
    rcases af.mp hx with e|e;.exact e▸Qd
    .exact il _ _ _ Qd (h.1 x e).1
   .rcases af.mp hx with q|q;.exact hn.1 (q▸e)
    .exact hn.2 (ag.mpr ⟨x,q,e.symm⟩)
  .rename_i Qd;refine a6.mpr ⟨λx hx=>?_,ih h.2 hn.2⟩;rcases ng.mp hx with e|e;.refine(let γ:Prop:=_;(?_:γ));subst e;exact⟨(ig _ _).resolve_right (by simpa using Qd),λe=>hn.1 e.symm⟩
   .exact h.1 x e
theorem pq:∀{l:ab Slot},(l.map (·.key)).Nodup->SK (gJ l):=by intro l;induction l with|nil=>intro _;simp[gJ,sortBy,SK]|cons a r ih=>intro h;rw[ar,a7]at h;refine Qr (ih h.2) λq=>?_;refine d9 (ag.mp q) λs b c=>?_;exact h.1 (ag.mpr ⟨s,hX.mp b,c⟩)
theorem nA:s∈gJ l↔s∈l:=hX
theorem zr:∀{l l':ab Slot},SK l->SK l'->(∀x,x∈l↔x∈l')->l=l'
 |[],[],_,_,_=>rfl|[],b::r,_,_,h=>by simpa using(h b).mpr (by simp)|a::r,[],_,_,h=>by simpa using(h a).mp (by simp)|a::r,b::t,q,s,h=>by
  have c:=a6.mp q;have d:=a6.mp s;have p:a=b:=by
   have o:=(h a).mp ((.head _));have j:=(h b).mpr ((.head _));rcases af.mp o with e|o;.exact e
   rcases af.mp j with e|j;.exact e.symm
   exact ay (jJ _ _ (c.1 b j).1 (d.1 a o).1) (c.1 b j).2
  subst p;congr 1;refine zr c.2 d.2 λx=>?_;constructor;.
   intro f;rcases af.mp ((h x).mp (ax _ f))with e|e;.subst e;exact ay rfl (c.1 x f).2
   .exact e
  .intro f;rcases af.mp ((h x).mpr (ax _ f))with e|e;.subst e;exact ay rfl (d.1 x f).2
   .exact e
theorem O4{l:ab Slot}(h:(l.map (·.key)).Nodup)(f:a∈l)(j:b∈l)(e:a.key=b.key):a=b:=by
 induction l with
 |nil=>exact kr f|cons x l ih=>
  rw[ar,a7]at h;rcases af.mp f with rfl|c<;>rcases af.mp j with rfl|d;.rfl
  .exact ay (ag.mpr ⟨b,d,e.symm⟩) h.1
  .exact ay (ag.mpr ⟨a,c,e⟩) h.1
  .exact ih h.2 c d
structure Clean(ps:ab l6):Prop where
 fl:∀p∈ps,p.2.2.1<8
 z:∀p∈ps,p.2.2.2=0
theorem Ht(c:a.length=1)(d:b.length=1)(h:eG a b=true/\a≠b):eG (34::(a++[34])) (34::(b++[34]))=true/\(34::(a++[34]):W)≠34::(b++[34]):=by match a,b,c,d with|[x],[y],_,_=>simp only[kN,tl,dG,aI,ba,ne_eq,abU,and_true,aaL,List.nil_append,true_and]at h⊢;lia
noncomputable def Rz(T:ab Row)(M:Md)(s:Slot):Prop:=(∃p∈M.rows,mJ T p s)\/(∃q,M.si=some q/\s.key=d0/\kX T q s)\/(∃q,M.ni=some q/\s.key=dZ/\kX T q s)
theorem wg{s:Slot}(h:((sl++[s]).map (·.key)).Nodup):(sl.map (·.key)).Nodup/\∀s'∈sl,s'.key≠s.key:=by rw[aD,a8]at h;exact⟨h.1,λs' hs=>h.2.2 _ (ag.mpr ⟨s',hs,rfl⟩) _ (.head _)⟩
theorem fg.at(h:fg T M sl)(c:(sl.map (·.key)).Nodup):∀s∈sl,Rz T M s:=by
 induction h with
 |nil=>intro s hs;exact kr hs|@row M sl p s f r ih=>
  intro e d;have c:=wg c;rcases aJ.mp d with q|q;.exact(ih c.1 e q).imp (λh=>d9 h λp a b=>i12 p (bl _ a) b) id
  .rw[kE q];exact .inl ⟨p,aN _ (.head _),r⟩|@Oa M sl p s f k r ih=>
  intro e d;have c:=wg c;rcases aJ.mp d with q|q;.exact(ih c.1 e q).imp id λh=>h.imp (λh=>j7 h λ_ _ b _=>ay (b.trans k.symm) (c.2 e q)) id
  .rw[kE q];exact .inr (.inl ⟨p,rfl,k,r⟩)|@OF M sl p s f k r ih=>
  intro e d;have c:=wg c;rcases aJ.mp d with q|q;.exact(ih c.1 e q).imp id λh=>h.imp id λh=>j7 h λ_ _ b _=>ay (b.trans k.symm) (c.2 e q)
  .rw[kE q];exact .inr (.inr ⟨p,rfl,k,r⟩)
theorem mJ.ne(r:mJ T p s)(h:v.head?≠some 34):s.key≠v:=λe=>h (by rw[←e,r.key];rfl)
theorem Rz.s6(h:Rz T M s)(hk:s.key=d0):M.si≠none:=λe=>by
 rcases h with h|h|h;.exact d9 h λp _ r=>r.ne (by decide) hk
 .exact j7 h λq a _ _=>ec (e.symm.trans a)
 .exact j7 h λq _ b _=>ay (hk.symm.trans b) (by decide)
theorem Rz.s7(h:Rz T M s)(hk:s.key=dZ):M.ni≠none:=λe=>by
 rcases h with h|h|h;.exact d9 h λp _ r=>r.ne (by decide) hk
 .exact j7 h λq _ b _=>ay (hk.symm.trans b) (by decide)
 .exact j7 h λq a _ _=>ec (e.symm.trans a)
theorem Ba{sl:ab Slot}(j:(sl.map (·.key)).Nodup)(f:∀s∈sl,s.key=b->o≠none)(l:∀q,o=some q->∃s∈sl,s.key=b/\kX T q s):∃L,r9 T b o L/\∀s,s∈L↔s∈sl/\s.key=b:=by
 rcases o with _|q;.exact i12 [] (.inl ⟨rfl,rfl⟩) λs=>⟨λh=>kr h,λh=>ay rfl (f s h.1 h.2)⟩
 .refine j7 (l q rfl) λs d c e=>?_;exact i12 [s] (.inr ⟨q,s,rfl,rfl,c,e⟩) λp=>⟨λh=>by rw[kE h];exact⟨d,c⟩,λh=>by rw[O4 j h.1 d (h.2.trans c.symm)];exact .head _⟩
noncomputable def GV(sl:ab Slot)(p:l6):Slot:=(sl.find? λs=>decide (s.key=34::(p.1++[34]))).getD ⟨[],[],0,0⟩
theorem Bv(b:(sl.map (·.key)).Nodup)(hs:s∈sl)(r:mJ T p s):GV sl (p.1,p.2.1,p.2.2,0)=s:=by show(sl.find? λc=>decide (c.key=34::(p.1++[34]))).getD _=s;rw[←r.key,rB b hs];rfl
structure Wv(T:ab Row)(M:Md)(sl:ab Slot)(p:l6)(s:Slot):Prop where
 fl:p.2.2.1=s.sign+2*s.held
 z:p.2.2.2=0
 m:s∈sl
 r:mJ T (p.1,p.2.1,p.2.2.1) s
theorem KO(h:fg T M sl)(d:(sl.map (·.key)).Nodup)(e:p∈eK (gx M)):Wv T M sl p (GV sl p):=by refine d9 (ag.mp (ka.mp e)) λq b c=>?_;refine d9 (h.rows.1 q b) λs hs r=>?_;rw[←c,Bv d hs r];exact⟨r.fl,rfl,hs,r⟩
theorem RO(h:eG [35] v=true/\(v=d0\/v=dZ)):eG (34::a) v=true/\(34::a:W)≠v:=by rcases h.2with e|e<;>rw[e]<;>exact⟨by rw[kN];rfl,λe=>ay (bx e).1 (by decide)⟩
theorem GF(r:Dx eG ((eK (gx M)).map (·.1)))(f:∀p∈eK (gx M),(GV sl p).key=34::(p.1++[34])/\p.1.length=1)(C:∀s∈y,s.key=d0)(A:∀s∈z,s.key=dZ)(j:y.length<=1)(E:z.length<=1):SK ((eK (gx M)).map (GV sl)++z++y):=by
 have pw:∀{l:ab Slot},l.length<=1->SK l:=λ{l}h=>by
  rcases l with _|⟨a,_|⟨b,l⟩⟩;.exact .nil
  .exact cj _ a
  .exact ay h (ad6.mpr (bY (cW 1) (de 2 _)))
 refine aaM.mpr ⟨aaM.mpr ⟨?_,pw E,λa c b d=>?_⟩,pw j,λa c b d=>?_⟩;.rw[bU];refine da (λ{a b}c d o=>?_) (bU.mp r);rw[(f a c).1,(f b d).1];exact Ht (f a c).2 (f b d).2 o
 .refine d9 (ag.mp c) λp q e=>?_;rw[←e,(f p q).1,A b d];exact RO ⟨by decide,.inr rfl⟩
 .rw[C b d];rcases aJ.mp c with c|c;.refine d9 (ag.mp c) λp q e=>?_;rw[←e,(f p q).1];exact RO ⟨by decide,.inl rfl⟩
  .rw[A a c];exact⟨by decide,by decide⟩
theorem z'(h:fg T M sl)(o:(sl.map (·.key)).Nodup)(N:M.rows.length<=5)(P:∀s∈sl,∀a∈s.key,a<128):∃A G I,mx T (eK (gx M)) M.si M.ni A G I/\gJ sl=(eK (gx M)).map A++I++G/\Clean (eK (gx M)):=by
 have l:=h.at o;have c:=λ{p}=>KO (p:=p) h o;refine d9 (Ba o (λs hs=>(l s hs).s6) h.rows.2.1) λG f y=>?_;refine d9 (Ba o (λs hs=>(l s hs).s7) h.rows.2.2.1) λI j C=>?_;have E:Dx eG ((eK (gx M)).map (·.1)):=by rw[kS];refine pF ig il ?_;unfold gx;rw[aK];exact h.nodup o
 have K:∀p∈eK (gx M),p.2.2.1<8:=λp d=>by have R:=c d;have:=R.r.sign;have:=R.r.held;rw[R.fl];lia
 refine Yv (GV sl) G I ⟨λp d=>bM (K p d) (by decide),λp d _=>?_,f,j,SS.nd E,?_⟩ (zr (pq o) (GF E (λp d=>⟨(c d).r.key,(c d).r.l1⟩) (λs hs=>f.key hs) (λs hs=>j.key hs) f.len j.len) λs=>?_) ⟨K,λp d=>(c d).z⟩;.have R:=c d;have r:=R.r;have:=r.sign;have:=r.held;exact⟨r.l1,λa O=>P _ R.m a (by rw[r.key];exact .tail _ (bl _ O)),r.key,by rw[R.fl];lia,by rw[R.fl];lia,r.seen⟩
 .unfold eK gx;rw[mb,ak];exact N
 .rw[nA];refine⟨λhs=>?_,λhs=>?_⟩;.
   rcases l s hs with q|q|q;.refine d9 q λp d r=>?_;exact bl _ (bl _ (ag.mpr ⟨_,ka.mpr (ag.mpr ⟨p,d,rfl⟩),Bv o hs r⟩))
   .exact j7 q λ_ _ b _=>aN _ ((y s).mpr ⟨hs,b⟩)
   .exact j7 q λ_ _ b _=>bl _ (aN _ ((C s).mpr ⟨hs,b⟩))
  .rcases aJ.mp hs with q|q;.
    rcases aJ.mp q with q|q;.exact d9 (ag.mp q) λp d e=>e▸(c d).m
    .exact((C s).mp q).1
   .exact((y s).mp q).1
end
set_option genCtorIdx true in inductive Piece where|prim(w:W)|obj(L:ab Slot)|lst(L:ab Slot)(ro:Nat)
inductive oZ(T:ab Row)(r:Row)(L:ab Slot)(ro:Nat):Prop|tup(es:ab (Nat×Nat))(ht:r=.tup es ro)(M:mz es)(h1:∀e,es≠[(e,2)])(hl:L.length=es.length)(h3:es.length<=3)(ok:∀(i:Nat)(e:Nat×Nat)(s:Slot),es[i]?=some e->L[i]?=some s->gH T i e s):oZ T r L ro|arr(e:Nat)(s:Slot)(ht:r=.arr e ro)(hL:L=[s])(sign:s.sign=2)(held:s.held=0)(key:s.key=dZ)(K:Kd T e s.kind):oZ T r L ro
structure tD(T:ab Row)(r:Row)(L:ab Slot)(ps:ab l6)(si ni:ae (Nat×Nat))(A:l6->Slot)(L1 L2:ab Slot):Prop where
 r:r=.obj ps si ni
 o:mx T ps si ni A L1 L2
 mem:∀s,s∈L↔s∈(ps.filter j8).map A++L1++L2
 nd:(L.map (·.key)).Nodup
noncomputable def eE(T:ab Row)(r:Row):Piece->Prop|.prim w=>ek r w/\w≠fW/\w≠ea|.obj L=>∃ps E ni A b c,tD T r L ps E ni A b c|.lst L ro=>ro<=1/\oZ T r L ro
noncomputable def h8(T:ab Row)(q:Nat)(p:Piece):Prop:=∃r,T[q]?=some r/\eE T r p
section
variable{F:ab Int}{T T' T1 T2:ab Row}{X Y:ab Cell}{n wm:Nat}{H:Hp}{i κ t g q:Nat}{k:ab W}{Q m ro x U J:Nat}{as:Int}{B:ab W}{kw:W}{p p':Piece}{r:Row}{L L':ab Slot}
theorem oZ.pre(h:T<+:T')(s:oZ T r L ro):oZ T' r L ro:=by induction s with|tup f d M j y l ok=>exact .tup f d M j y l λi e s a b=>(ok i e s a b).pre h|arr e s d o a b c K=>exact .arr e s d o a b c (K.pre h)
theorem eE.pre(h:T<+:T')(s:eE T r p):eE T' r p:=by induction p using Piece.casesOn with|prim w=>exact s|obj L=>obtain⟨d,E,ni,A,b,c,o⟩:=s;exact⟨d,E,ni,A,b,c,o.r,o.o.pre h,o.mem,o.nd⟩|lst L ro=>exact⟨s.1,s.2.pre h⟩
theorem h8.pre(h:T<+:T')(s:h8 T q p):h8 T' q p:=by obtain⟨r,b,c⟩:=s;exact⟨r,fQ h b,c.pre h⟩
theorem AS(h:tq T t L ro)(f:ro<=1):h8 T t (.lst L ro):=by induction h with|tup j d M l z o A=>exact⟨_,d,f,.tup j rfl M l z o A⟩|arr e s d y a b c K=>exact⟨_,d,f,.arr e s rfl y a b c K⟩
theorem Kd.det(a:Kd T t k)(b:Kd T t k'):k=k':=ShQ.det (P:=i8 T) (λ_ _ _ a b=>i8.det a b) a.toShQ b.toShQ
theorem Seen.det(a:Seen T t o k)(b:Seen T t o k'):k=k':=by refine d9 (a) λk0 c d=>?_;rw[d];refine d9 (b) λf b1 e=>?_;rw[e];rw[c.det b1]
theorem pB{b:Slot}(c:a.key=b.key)(d:a.kind=b.kind)(e:a.sign=b.sign)(f:a.held=b.held):a=b:=by rcases a with⟨⟩;rcases b with⟨⟩;simp_all
theorem ia.det(h:ia T z a)(h':ia T z b):a=b:=by have hs:=h.sign.trans h'.sign.symm;refine pB (h.key.trans h'.key.symm) ?_ hs (h.held.trans h'.held.symm);have c:=h.seen;rw[hs]at c;exact c.det h'.seen
theorem kX.det(h:kX T z a)(h':kX T z b)(e:a.key=b.key):a=b:=pB e (h.kd.det h'.kd) (h.sign.trans h'.sign.symm) (h.held.trans h'.held.symm)
theorem r9.det{key:W}{o:ae (Nat×Nat)}{l l':ab Slot}(h:r9 T key o l)(h':r9 T key o l'):l=l':=by
 rcases h with⟨d,e⟩|⟨q,s,d,e,y,z⟩<;>rcases h' with⟨b,c⟩|⟨A,C,b,c,f,j⟩;.simp only[e,c]
 .rw[d]at b;exact ec b
 .rw[d]at b;exact TL b
 .rw[d]at b;obtain rfl:=sI b;simp only[e,c,z.det j (y.trans f.symm)]
theorem gH.det(h:gH T i e a)(h':gH T i e b):a=b:=by have hs:=h.sign.trans h'.sign.symm;refine pB (h.key.trans h'.key.symm) ?_ hs (h.held.trans h'.held.symm);have c:=h.seen;rw[hs]at c;exact c.det h'.seen
theorem oZ.det(h:oZ T r L ro)(h':oZ T r L' y):L=L'/\ro=y:=by
 induction h with
 |tup O f M h1 hl h3 ok=>
  refine(let γ:Prop:=_;(?_:γ));cases h' with
  |tup j d M' P u! R o=>
   rw[f]at d;cases d;refine⟨List.ext_getElem? λi=>?_,rfl⟩;rcases df i O.length with q|q;.have z:L[i]?=some L[i]:=aw (by omega);have A:L'[i]?=some L'[i]:=aw (by omega);have C:=aw q;simp only[z,A,(ok i _ _ C z).det (o i _ _ C A)]
   .rw[b6 (by omega),b6 (by omega)]|arr e s d=>rw[f]at d;exact xc Row.ctorIdx d rfl
 |arr e s f Z a b c K=>cases h' with|tup j d=>rw[f]at d;exact xc Row.ctorIdx d rfl|arr e' s' d l G I N E=>rw[f]at d;cases d;refine⟨?_,rfl⟩;simp only[Z,l,pB (c.trans N.symm) (K.det E) (a.trans G.symm) (b.trans I.symm)]
noncomputable def eB(U J:Nat)(B:ab W)(m Z:Nat):Piece->Piece|.prim w=>.prim w|.obj L=>.obj (gJ (L.map (et U J B m Z)))|.lst L ro=>.lst (L.map (gG U J B m)) (mD Z ro)
noncomputable def oo(L:ab Slot):Prop:=(L.map λs=>eZ s.key).Nodup/\∀s∈L,∀a∈s.key,a<128
theorem nE(h:(L.map (·.key)).Nodup)(h':(L'.map (·.key)).Nodup)(e:∀s,s∈L↔s∈L'):gJ L=gJ L':=zr (pq h) (pq h') λs=>by rw[nA,nA,e]
theorem mx.names(o:mx T ps E ni A b d):∀s∈(ps.filter j8).map A++b++d,eZ s.key=s.key/\∀a∈s.key,a<128:=λs hs=>o.ind hs (M:=λs=>eZ s.key=s.key/\∀a∈s.key,a<128) (λz _ _ P=>by
 rw[P.key];refine⟨rfl,λa e=>?_⟩;rcases af.mp e with h|h;.rw[h];decide
 .rcases aJ.mp h with h|h;.exact P.c a h
  .rw[kE h];decide) λq s h _=>by rcases h with h|h<;>rw[h.2]<;>exact⟨rfl,by decide⟩
theorem tD.names(o:tD T r L ps E ni A b c):oo L:=by have h:∀s∈L,eZ s.key=s.key/\∀a∈s.key,a<128:=λs hs=>o.o.names s ((o.mem s).mp hs);refine⟨?_,λs hs=>(h s hs).2⟩;rw[bG λs hs=>(h s hs).1];exact o.nd
theorem ug{U J m Z:Nat}{B:ab W}(h:eE T r p)(h':eE T r p'):eB U J B m Z p=eB U J B m Z p':=by
 induction p using Piece.casesOn with
 |prim w=>induction p' with|prim K=>rw[h.1.det h'.1]|obj L=>obtain⟨f,E,I,A,y,C,o⟩:=h';rw[o.r]at h;exact h.1.elim|lst L ro=>cases h'.2with|tup j b=>rw[b]at h;exact h.1.elim|arr e s b=>rw[b]at h;exact h.1.elim
 |obj L=>
  obtain⟨f,E,I,A,y,C,o⟩:=h;induction p' using Piece.casesOn with
  |prim K=>rw[o.r]at h';exact h'.1.elim|obj L'=>
   refine(let γ:Prop:=_;(?_:γ));obtain⟨Xh,ο,a,l,M,N,c⟩:=h';have e:=o.r.symm.trans c.r;cases e;have O:(f.filter j8).map A=(f.filter j8).map l:=bG λz d=>by rw[aO]at d;exact(o.o.pr z d.1 d.2).det (c.o.pr z d.1 d.2)
   have R:∀s,s∈L↔s∈L':=λs=>by rw[o.mem,c.mem,(o.o.i1.det c.o.i1),(o.o.i2.det c.o.i2),O]
   show Piece.obj _=Piece.obj _;congr 1;have G:∀{L:ab Slot},oo L->((L.map (et U J B m Z)).map (·.key)).Nodup:=by intro L P;rw[aK];simp only[a9,fy];exact P.1
   refine nE (G o.names) (G c.names) λs=>?_;simp only[ag,R]|lst L' ro=>rw[o.r]at h';cases h'.2with|tup j b=>exact xc Row.ctorIdx b rfl|arr e s b=>exact xc Row.ctorIdx b rfl
 |lst L ro=>
  induction p' using Piece.casesOn with
  |prim K=>cases h.2with|tup j b=>rw[b]at h';exact h'.1.elim|arr e s b=>rw[b]at h';exact h'.1.elim
  |obj L'=>obtain⟨f,E,I,A,y,C,o⟩:=h';rw[o.r]at h;cases h.2with|tup j b=>exact xc Row.ctorIdx b rfl|arr e s b=>exact xc Row.ctorIdx b rfl
  |lst L' D!=>obtain⟨rfl,rfl⟩:=h.2.det h'.2;rfl
theorem Tm.row(G:Good g T)(S:Tm T x U J B):∃r,T[x]?=some r/\kc r≠15:=by
 have l:∀{f:Nat}{k:ab W},K0 T f k->∃r,T[f]?=some r/\kc r≠15:=by
  intro f k K;have d:=K.lt;have b:=aw d;generalize T[f]=r at b;refine i12 r b (λe=>?_);have o:∀y,r≠.jW y:=by intro y c;subst c;cases e
  refine iL (K.to f (by rw[eQ b (by intro c;subst c;rw[G.at (i:=2) rfl]at b;obtain rfl:=sI b;exact ay e (by decide)) o];simp)) λA w j z _=>?_;rw[b]at j;obtain rfl:=sI j;clear o b;rcases r with⟨⟩<;>first|(cases e;done)|exact z.elim
 rcases S with⟨_,s⟩|⟨_,s⟩;.
  rcases s with⟨_,rfl⟩|⟨_,s⟩|⟨_,s⟩|⟨_,s⟩;.exact i12 _ (G.at rfl) (by decide)
  all_goals exact⟨_,s,by simp[kc]⟩
 .rcases s with⟨_,s⟩|⟨_,f,_,s⟩|⟨_,s⟩|⟨_,f,_,s⟩;.exact l s
  .exact i12 _ s (by simp[kc])
  .exact l s
  .exact i12 _ s (by simp[kc])
noncomputable def jS(T:ab Row)(x U J:Nat)(B:ab W)(over:Nat):Prop:=(U=0/\T[x]?=some (.idx over 16))\/(U≠0/\Tm T x U J B)
theorem jS.pre(h:T<+:T')(s:jS T x U J B over):jS T' x U J B over:=by
 rcases s with⟨a,b⟩|⟨a,b⟩;.exact .inl ⟨a,fQ h b⟩
 .exact .inr ⟨a,b.pre h⟩
theorem jS.tm(s:jS T x U J B over):U=0\/Tm T x U J B:=s.imp (·.1) (·.2)
theorem vn(G:Good g T)(S:jS T x U J B over)(h:over=wh\/over=j):Runs 2 652 [eb,.d (eM Q as x m ro),.d (nD wh),.d (nD j)] T (.d (.bool (decide (U=0)))) T:=by
 intro n wm F X;rcases S with⟨rfl,S⟩|⟨l,S⟩;.
  have e:=iF (T:=T) (t:=over);have s:D.eqv (gF (.param 0)) (.tup [.int 10,.int 0])=some true:=by exact(vl).trans (ah some (aE rfl))
  have b:fZ (.ref 2) (nD 16) (hs F T X)=some (.d (gF (.param 0))):=by simp[(G.at (i:=16) rfl)]
  rcases h with rfl|rfl;.exact wk jw dT [sv 5 (fR F X S),sv 9 b,dR 11 (e n (11+X.length) F X),sb 1 (show f6 ac5 (nD over) (V.d (nD over)) (hs F T X)=some true by simp),dR 1 (dU F X (D.bool true) T)]
  .by_cases f:(over:Int)=wh;.exact wk jw dT [sv 5 (fR F X S),sv 9 b,dR 11 (e n (11+X.length) F X),sb 1 (SV f),dR 1 (dU F X (D.bool true) T)]
   .exact wk jw dT [sv 5 (fR F X S),sv 9 b,dR 11 (e n (11+X.length) F X),sb 1 (eA f),sb 2 (show f6 ac5 (nD over) (V.d (nD over)) (hs F T X)=some true by simp),dR 0 (dU F X (D.bool true) T)]
 .refine d9 (S.row G) λr o y=>?_;have c:¬(kc r:Int)=15:=by lia
  exact(wk (r:=(V.d (D.bool false),hs F T X)) jw dT [sv 5 (fR F X o),sv 1 (show fZ (V.d (gF r)) (D.int 0) (hs F T X)=some (V.d (D.int ↑(kc r)))by simp),sb 1 (E9 c),dR 1 (dU F X (D.bool false) T)]).trans (by simp[l])
end
section
variable{F:ab Int}{T T' T1 T2:ab Row}{X Y:ab Cell}{n wm:Nat}{H:Hp}{i κ t g q over wh:Nat}{k:ab W}{Q m ro x U J:Nat}{as:Int}{B:ab W}{kw:W}{p p':Piece}{r:Row}{L L':ab Slot}
set_option tactic.hygienic true in noncomputable def gW(T:ab Row)(r:Row):Piece->Prop|.obj L=>∃ps E ni A L1 L2,tD T r L ps E ni A L1 L2/\Clean ps/\L=ps.map A++L2++L1|p=>eE T r p
theorem gW.QG(h:gW T r p):eE T r p:=by induction p using Piece.casesOn with|obj L=>obtain⟨d,E,ni,A,b,c,o,_⟩:=h;exact⟨d,E,ni,A,b,c,o⟩|prim w=>exact h|lst L ro=>exact h
theorem gW.pre(h:T<+:T')(s:gW T r p):gW T' r p:=by induction p using Piece.casesOn with|prim w=>exact s|obj L=>obtain⟨e,E,ni,A,b,d,o,c⟩:=s;exact⟨e,E,ni,A,b,d,⟨o.r,o.o.pre h,o.mem,o.nd⟩,c⟩|lst L ro=>exact eE.pre (p:=.lst L ro) h s
theorem uC(h:Clean ps):ps.filter j8=ps:=by refine aca.mpr ?_;intro z b;have:=h.fl z b;simp[j8];lia
noncomputable def rf(L:ab Slot):Nat:=(L.filter λs=>decide (s.sign<2)).length
theorem fg.Ra(s:fg T M sl):M.rows.length<=rf sl:=by unfold rf;induction s with|nil=>simp|@row M sl p s _ r ih=>have:=r.sign;rw[cL];simp[show s.sign<2by lia];exact ih|Oa _ k r ih=>rw[cL];simp[r.sign];exact ih|OF _ k r ih=>rw[cL];simp[r.sign];exact ih
theorem vs:(et U J B m ro s).sign<2↔s.sign<2:=by
 unfold et;simp only;split;.
  rename_i h;simp only[h,iff_true];unfold gQ;split;.simp
  .split<;>simp
 .rename_i h;simp only[h]
theorem xV:∀{L:ab Slot},rf (L.map (et U J B m ro))=rf L|[]=>rfl|s::L=>by have ih:=xV (L:=L);unfold rf at ih⊢;simp only[ar,cV,vs];split<;>simp[ih]
theorem Ma(h:∀a∈w,a<128):∀a∈eZ w,a<128:=by
 intro a b;unfold eZ at b;split at b;.
  simp only[af,aJ,ai,a5]at b;rcases b with rfl|b|rfl;.decide
  .exact h a b
  .decide
 .exact h a b
theorem wx{es:ab Ent}(G:Good (g+1+3*es.length) T)(E:∀e∈es,j0 T U e/\Ky T e.κ e.s.key)(hb:U=0\/Tm T x U J B)(f:as=-1\/as=16)(y:oo (es.map (·.s)))(hl:es.length<64)(h5:rf (es.map (·.s))<=5):∃t' T',cF (n+12) wm 748 [eb,.d (eM Q as x m ro),.d (.lst (es.map Ent.d)),.d (.bool (decide (U=0)))] (hs F T X)=some (.d (nD t'),hs F T' X)/\Good g T'/\T<+:T'/\∃I,T'[t']?=some I/\gW T' I (.obj (gJ ((es.map (·.s)).map (et U J B m ro)))):=by
 obtain⟨t',T',c,K,p',M,z,j⟩:=Gj (F:=F) (X:=X) (n:=n) (wm:=wm) (Q:=Q) (m:=m) (ro:=ro) G (λe o=>(E e o).1) hb f (by have:=y.1;rw[aK]at this;exact this) hl (λe o=>(E e o).2);have R:(es.map λe=>et U J B m ro e.s)=(es.map (·.s)).map (et U J B m ro):=by rw[aK];rfl
 rw[R]at j;have b:(((es.map (·.s)).map (et U J B m ro)).map (·.key)).Nodup:=by rw[aK];simp only[a9,fy];exact y.1
 obtain⟨A,N,P,O,hs,C⟩:=z' j b (by have:=j.Ra;rw[xV]at this;lia) (λs hs a f=>by obtain⟨s0,Z,rfl⟩:=ag.mp hs;rw[fy]at f;exact Ma (y.2 s0 Z) a f);refine⟨t',T',c,K,p',_,z,_,_,_,A,N,P,⟨rfl,O,λs=>?_,?_⟩,C,hs⟩;.
  rw[hs,uC C];simp only[aJ];constructor;.rintro((a|a)|a)<;>simp[a]
  .rintro((a|a)|a)<;>simp[a]
 .have:∀{l:ab Slot},(l.map (·.key)).Nodup->((gJ l).map (·.key)).Nodup:=by intro l h;rw[abh,bU];exact dI (λh=>h.2) (pq h)
  exact this b
theorem Qa(o:mx T ps E ni A K M):(((ps.filter j8).map A++K++M).map (·.key)).Nodup:=by
 have f:∀z∈ps.filter j8,(A z).key=34::(z.1++[34]):=λz c=>by have c:=aO.mp c;exact(o.pr z c.1 c.2).key
 have I:∀{z:l6}{v:W},z∈ps.filter j8->v.head?≠some 34->(A z).key≠v:=λc h e=>h (by rw[←e,f _ c];rfl);rw[aD,aD,a8,a8];refine⟨⟨?_,HL (by rw[ak];exact o.i1.len),?_⟩,HL (by rw[ak];exact o.i2.len),?_⟩;.rw[aK,abh,bU];refine da (λ{a b}d l G e=>?_) (cp j8 ((bU.mp o.nd)));rw[ace,ace,f a d,f b l]at e;exact G (List.append_cancel_right (bx e).2)
 .intro a d b l e;refine d9 (ag.mp d) λs hs h=>?_;refine d9 (ag.mp l) λN j y=>?_;refine d9 (ag.mp hs) λz c C=>?_;rw[←h,←y,←C,o.i1.key j]at e;exact I c (by decide) e
 .intro a d b l e;refine d9 (ag.mp l) λN j y=>?_;rw[←y,o.i2.key j]at e;rcases aJ.mp d with d|d;.refine d9 (ag.mp d) λs hs h=>?_;refine d9 (ag.mp hs) λz c C=>?_;rw[←h,←C]at e;exact I c (by decide) e
  .refine d9 (ag.mp d) λs hs h=>?_;rw[←h,o.i1.key hs]at e;exact ay e (by decide)
theorem oi{es:ab Ent}(O:tD T r L ps E ni A d e)(b:es.map (·.s)=(ps.filter j8).map A++d++e):es.length<=7/\rf (es.map (·.s))<=5/\(∀s,s∈es.map (·.s)↔s∈L)/\oo (es.map (·.s)):=by
 have c:((ps.filter j8).map A).length<=5:=by rw[ak];exact au (aX _ _) O.o.len
 rw[←ak (·.s),b];refine⟨?_,?_,λs=>(O.mem s).symm,?_⟩;.rw[ao,ao];exact aaD (aaD c O.o.i1.len) O.o.i2.len
 .unfold rf;rw[cL,cL,O.o.i1.Xe,O.o.i2.Xe,aL,aL];exact au (aX _ _) c
 .have h:=O.o.names;exact⟨by rw[bG λs hs=>(h s hs).1];exact Qa O.o,λs hs=>(h s hs).2⟩
theorem Eb(G:Good g T)(h:T[q]?=some r)(b:T[j]?=some R)(c:r≠R):q≠j:=by intro e;subst e;rw[h]at b;obtain rfl:=sI b;exact c rfl
theorem eE.rows(h:eE T r p):(∃w,ek r w/\w≠fW/\w≠ea)\/kc r=8\/kc r=12\/kc r=11:=by induction p using Piece.casesOn with|prim w=>exact .inl ⟨w,h⟩|obj L=>refine h.elim λ_ h=>h.elim λ_ h=>h.elim λ_ h=>?_;exact XI h λ_ _ _ o=>.inr (.inl (o.r▸rfl))|lst L ro=>cases h.2with|tup c b=>exact .inr (.inr (.inl (b▸rfl)))|arr e s b=>exact .inr (.inr (.inr (b▸rfl)))
theorem eE.W4(h:eE T (.key s) p):s∈[d6,gy,d0,dZ]:=by
 rcases h.rows with h|h;.
  refine j7 h λw b c d=>?_;rw[b.2]at c d;rcases W5 b.1with e|e|e;.exact ay e c
  .exact ay e d
  .rcases e with e|e|e|e<;>rw[e]<;>decide
 .exact ay h (by decide:¬(1=8\/1=12\/1=11))
theorem eE.ne(G:Good g T)(d:T[q]?=some r)(P:eE T r p)(b:T[j]?=some (.key s))(c:s∉[d6,gy,d0,dZ]):q≠j:=Eb G d b λe=>c ((e▸P:eE T (.key s) p).W4)
theorem eE.Vo(P:eE T r p):r≠.jW ps:=λe=>by
 subst e;rcases P.rows with h|h;.exact h.elim λ_ h=>h.1
 .exact ay h (by decide:¬(6=8\/6=12\/6=11))
theorem D3(G:Good g T)(b:T[q]?=some (.key s))(h:s∈[d6,gy,d0,dZ]):q<8/\(q=3\/q=4\/q=5\/q=6\/q=7):=by
 have f:∀{j:Nat},T[j]?=some (.key s)->j<8/\(j=3\/j=4\/j=5\/j=6\/j=7)->q<8/\(q=3\/q=4\/q=5\/q=6\/q=7):=λh k=>G.id b h▸k;rcases XD h with rfl|rfl|rfl|rfl;.exact f (G.at (i:=4) rfl) (by decide)
 .exact f (G.at (i:=5) rfl) (by decide)
 .exact f (G.at (i:=6) rfl) (by decide)
 .exact f (G.at (i:=7) rfl) (by decide)
noncomputable def Nd(Q:Nat)(as:Int)(x m ro q wh:Nat)(k:D):Loc:=[some eb,some (.d (eM Q as x m ro)),some (.d (nD q)),some (.d (nD wh)),some d7,some (.d (nD q)),some (.d k),none,none,none]
theorem rF(G:Good g T)(b:T[q]?=some r)(P:eE T r p)(o:kc r≠6)(c:kc r≠18)(f:o9 r=true)(n wm:Nat)(F:ab Int)(X:ab Cell)(Q:Nat)(as:Int)(x m ro wh:Nat){K:Prop}(κ:(∀{t' T'},Ij q r=false->(d5 ((nY.drop 10).map BS.run) ⟨cF (n+12),11+X.length⟩ (Nd Q as x m ro q wh (nD (kc r))) (hs F T X)).bind (fin (11+X.length))=some (.d (nD t'),hs F T' X)->cF (n+13) wm 800 [eb,.d (eM Q as x m ro),.d (nD q),.d (nD wh)] (hs F T X)=some (.d (nD t'),hs F T' X))->(Ij q r=true->cF (n+13) wm 800 [eb,.d (eM Q as x m ro),.d (nD q),.d (nD wh)] (hs F T X)=some (.d (nD q),hs F T X))->K):K:=by
 have z:=iF (T:=T) (t:=q) (n+11) (11+X.length) F X;have A:=vz b (n+11) (11+X.length) F X;have R:=kL b f (n+11) (11+X.length) F X;have y:=Nq b f (λs e=>(D3 G (e▸b) (eE.W4 (e▸P))).1) (n+9) (11+X.length) F X;have l:=hJ (P.ne G b (G.at (i:=13) rfl) (by decide));have I:=hJ (P.ne G b (G.at (i:=2) rfl) (by decide));have C:=hJ (P.ne G b (G.at (i:=0) rfl) (by decide));have E:=hJ (P.ne G b (G.at (i:=1) rfl) (by decide));have j:=hJ (P.ne G b (G.at (i:=10) rfl) (by decide));have o:=hJ o;have c:=hJ c;clear G b P f;generalize kc r=k at*;refine κ (λ{t' T'}e h=>?_) λe=>?_;.rw[e]at y;have M:d5 ((nY.take 10).map BS.run) ⟨cF (n+12),11+X.length⟩ (uD 10 [eb,.d (eM Q as x m ro),.d (nD q),.d (nD wh)]) (hs F T X)=some (.er,Nd Q as x m ro q wh (nD k),hs F T X):=wq [dR 3 z,sb 1 (eA l),sb 2 (eA I),dR 3 A,sb 1 (eA o),sb 2 (eA c),dR 3 R,sb 2 (eA C),sb 2 (eA E),sb 2 (eA j),dR 3 y];rw[gZ,ir rfl,dT];exact(ah (ck · (fin (11+X.length))) (gM M rfl)).trans h
 .rw[e]at y;exact wk gZ dT [dR 3 z,sb 1 (eA l),sb 2 (eA I),dR 3 A,sb 1 (eA o),sb 2 (eA c),dR 3 R,sb 2 (eA C),sb 2 (eA E),sb 2 (eA j),dR 3 y,dR 1 (dU F X (nD q) T)]
theorem eE.TY(P:eE T r p):kc r≠18:=λe=>ay (e▸MF) (by decide)
theorem eE.k6(P:eE T r p):kc r≠6:=λe=>by induction r using Row.casesOn with|jW b=>exact P.Vo rfl|_=>exact xc id e rfl
theorem C6(G:Good (g+40) T)(b:T[q]?=some r)(P:eE T r (.prim w)):cF (n+13) wm 800 [eb,.d (eM Q as x m ro),.d (nD q),.d (nD wh)] (hs F T X)=some (.d (nD q),hs F T X):=by refine rF G b P P.k6 P.TY P.1.simp n wm F X Q as x m ro wh λ_ h=>h ?_;induction r using Row.casesOn with|key s=>exact aE (D3 G b P.W4).2|bool _ _=>rfl|str _=>rfl|num _=>rfl|_=>exact(P.1).elim
theorem Hv(G:Good (g+40) T)(C:T[q]?=some r)(O:tD T r L ps E ni A L1 L2)(S:jS T x U J B over)(z:over=wh\/over=q)(N:as=-1\/as=16):∃t' T',cF (n+13) wm 800 [eb,.d (eM Q as x m ro),.d (nD q),.d (nD wh)] (hs F T X)=some (.d (nD t'),hs F T' X)/\Good g T'/\T<+:T'/\∃j,T'[t']?=some j/\gW T' j (.obj (gJ (L.map (et U J B m ro)))):=by
 have P:eE T r (.obj L):=⟨ps,E,ni,A,L1,L2,O⟩;have a:=vn (Q:=Q) (as:=as) (m:=m) (ro:=ro) G S z (n+10) (11+X.length) F X;refine rF G C P P.k6 P.TY (by rw[O.r];rfl) n wm F X Q as x m ro wh λhd _=>?_;have sb:=fR F X C;have hd:=λ{t' T'}=>hd (t':=t') (T':=T') (by rw[O.r];rfl);rw[show kc r=8from by rw[O.r];rfl]at hd;refine Uq (xY (F:=F) (X:=X) (n:=n+8) (wm:=11+X.length) (g:=g+30) (U:=U) (G.le (by lia)) (O.r▸C) O.o) λes T1 K G1 Z l hx _=>?_;refine CH (oi O hx) λR I c b=>?_;refine jt (wx (F:=F) (X:=X) (n:=n) (wm:=11+X.length) (Q:=Q) (m:=m) (ro:=ro) (g:=g) (G1.le (by lia)) l (S.tm.imp id λh=>h.pre Z) N b (by lia) I) λt' T' M G2 p2 y=>?_;have e:gJ ((es.map (·.s)).map (et U J B m ro))=gJ (L.map (et U J B m ro)):=by
  refine nE ?_ ?_ λs=>by simp only[ag (f:=et U J B m ro),c]
  .rw[aK];simp only[a9,fy];exact b.1
  .rw[aK];simp only[a9,fy];exact O.names.1
 refine rh t' T' (hd ?_) G2 (Z.trans p2) (d9 y λj h1 h2=>i12 j h1 (e▸h2));rcases N with rfl|rfl;.exact wf [dR 4 a,sv 2 sb,dR 26 K,dR 2 M,dR 0 (dU F X (nD t') T')]
 .exact wf [dR 4 a,sv 2 sb,dR 20 K,dR 2 M,dR 0 (dU F X (nD t') T')]
theorem Gk(G:Good (g+40) T)(c:T[q]?=some (.tup es R))(M:mz es)(f:∀e,es≠[(e,2)])(l:L.length=es.length)(j:es.length<=3)(o:∀(i:Nat)(e:Nat×Nat)(s:Slot),es[i]?=some e->L[i]?=some s->gH T i e s)(E:R<=1)(S:jS T x U J B over)(b:over=wh\/over=q):∃t' T',cF (n+13) wm 800 [eb,.d (eM Q (-1) x m ro),.d (nD q),.d (nD wh)] (hs F T X)=some (.d (nD t'),hs F T' X)/\Good g T'/\T<+:T'/\tq T' t' (L.map (gG U J B m)) (mD ro R):=by have P:eE T (.tup es R) (.lst L R):=⟨E,.tup es rfl M f l j o⟩;refine rF G c P P.k6 P.TY (aA.mpr λe C=>aE (abb (M.le e C))) n wm F X Q (-1) x m ro wh λhd _=>?_;refine jt (OW (F:=F) (X:=X) (n:=n+1) (wm:=11+X.length) (Q:=Q) (as:=-1) (m:=m) (ro:=ro) (g:=g) (G.le (by lia)) c M f l j o S.tm) λt' T' A y I z=>?_;exact rh t' T' (hd rfl (wf [dR 4 (vn (Q:=Q) (as:=-1) (m:=m) (ro:=ro) G S b (n+10) (11+X.length) F X),sv 2 (fR F X c),dR 20 A,dR 0 (dU F X (nD t') T')])) y I z
theorem DT(G:Good (g+40) T)(f:T[q]?=some (.arr e R))(j:s.sign=2)(z:s.held=0)(b:s.key=dZ)(K:Kd T e s.kind)(A:R<=1)(S:jS T x U J B over)(c:over=wh\/over=q):∃t' T',cF (n+13) wm 800 [eb,.d (eM Q (-1) x m ro),.d (nD q),.d (nD wh)] (hs F T X)=some (.d (nD t'),hs F T' X)/\Good g T'/\T<+:T'/\tq T' t' [gG U J B m s] (mD ro R):=by have P:eE T (.arr e R) (.lst [s] R):=⟨A,.arr e s rfl rfl j z b K⟩;refine rF G f P P.k6 P.TY rfl n wm F X Q (-1) x m ro wh λhd _=>?_;refine jt (PN (Q:=Q) (as:=-1) (m:=m) (ro:=ro) (g:=g) (G.le (by lia)) f j b K S.tm) λt' T' y l C o=>?_;exact rh t' T' (hd rfl (wf [dR 4 (vn (Q:=Q) (as:=-1) (m:=m) (ro:=ro) G S c (n+10) (11+X.length) F X),sv 2 (fR F X f),dR 12 (y (n+3) (11+X.length) F X),dR 0 (dU F X (nD t') T')])) l C o
theorem A2(G:Good (g+40) T)(j:T[q]?=some r)(P:eE T r p)(S:jS T x U J B over)(f:over=wh\/over=q)(y:as=-1\/(as=16/\∀L ro,p≠.lst L ro)):∃t' T',cF (n+13) wm 800 [eb,.d (eM Q as x m ro),.d (nD q),.d (nD wh)] (hs F T X)=some (.d (nD t'),hs F T' X)/\Good g T'/\T<+:T'/\∃z,T'[t']?=some z/\gW T' z (eB U J B m ro p):=by induction p using Piece.casesOn with|prim w=>exact rh q T (C6 G j P) (G.le (aH _ _)) (aq _) (i12 r j P)|obj L=>refine P.elim λ_ h=>h.elim λ_ h=>h.elim λ_ h=>?_;exact XI h λ_ _ _ O=>Hv G j O S f (y.imp id (·.1))|lst L R=>obtain rfl:=y.resolve_right λh=>h.2 _ _ rfl;cases P.2with|tup Z o M A I C N=>subst o;refine jt (Gk (F:=F) (X:=X) (n:=n) (wm:=wm) (Q:=Q) (m:=m) (ro:=ro) G j M A I C N P.1 S f) λt' T' a b c l=>?_;exact rh t' T' a b c (AS l (vF P.1))|arr e s o E a b c K=>subst o E;refine jt (DT (F:=F) (X:=X) (n:=n) (wm:=wm) (Q:=Q) (m:=m) (ro:=ro) G j a b c K P.1 S f) λt' T' a b c l=>?_;exact rh t' T' a b c (AS l (vF P.1))
end
noncomputable def heldW(h:Nat):W:=match h with|1=>BB|2=>QH|3=>BB++QH|_=>[]
noncomputable def mF(s:Nat):W:=if s=1then[63]else[]
noncomputable def qL(s:Nat):W:=if s=2then[46,46,46]else[]
noncomputable def qS(s:Slot):W:=heldW s.held++s.key++mF s.sign++[58]++iR s.kind
noncomputable def jT(s:Slot):W:=qL s.sign++iR s.kind++mF s.sign
noncomputable def eV:Piece->W|.prim w=>w|.obj L=>[123]++gf [59] (L.map qS)++[125]|.lst L ro=>(if ro=1then BB else[])++[91]++gf [44] (L.map jT)++[93]
noncomputable def rZ(T:ab Row)(r:Row)(w:W):Prop:=∃p,gW T r p/\w=eV p
section
variable{F:ab Int}{T T' T1 T2:ab Row}{X Y:ab Cell}{n wm:Nat}{H:Hp}{i κ t g q over wh:Nat}{k:ab W}{Q m ro x U J:Nat}{as:Int}{B:ab W}{kw:W}{p p':Piece}{r:Row}{L L':ab Slot}
theorem g7(h:∀w,p≠.prim w):brk (eV p):=by
 induction p with
 |prim w=>exact ay rfl (h w)|obj L=>exact .inr (.inr ⟨_,rfl⟩)|lst L ro=>
  by_cases b:ro=1;.refine .inr (.inl ⟨gf [44] (L.map jT)++[93],?_⟩);rw[eV,b];rfl
  .refine .inl ⟨gf [44] (L.map jT)++[93],?_⟩;simp[eV,b]
theorem SF:tM (rZ T):=od.more λr w h=>by refine(let c:Prop:=_;(?_:c));obtain⟨p,h,rfl⟩:=h;induction p using Piece.casesOn with|prim w=>exact .inl h.1|obj L=>obtain⟨y,E,l,A,d,f,o,_⟩:=h;exact .inr ⟨g7 (by simp),by rw[o.r];trivial⟩|lst L ro=>refine .inr ⟨g7 (by simp),?_⟩;cases h.2with|tup j b=>rw[b];trivial|arr e s b=>rw[b];trivial
theorem rZ.pre(h:T<+:T')(s:rZ T r w):rZ T' r w:=by obtain⟨p,b,c⟩:=s;exact⟨p,b.pre h,c⟩
theorem ny(h:¬brk w)(e:eV p=w):p=.prim w:=by induction p using Piece.casesOn with|prim v=>rw[←e];rfl|obj L=>exact ay (e▸g7 (by simp)) h|lst L ro=>exact ay (e▸g7 (by simp)) h
theorem KC(h:w=fW\/w=ea\/w=d0\/w=dZ):¬brk w:=by
 intro b;have:=iu b;rcases h with rfl|rfl|rfl|rfl;.exact this.2.2.1 rfl
 .exact this.2.2.2.1 rfl
 .exact this.2.2.2.2.1 rfl
 .exact this.2.2.2.2.2.1 rfl
structure tK(ps:ab Piece):Prop where
 any:.prim fW∉ps
 DM:.prim ea∉ps
 str:.prim d0∈ps->∀w,.prim w∈ps->isLit w=false
 num:.prim dZ∈ps->∀w,.prim w∈ps->i' w=false
theorem tK.kept(N:tK ps)(b:p∈ps):eV p∈ei (ps.map λp=>[eV p]):=by
 have f:∀w,(∃k∈ps.map (λp=>[eV p]),w∈k)↔∃p∈ps,w=eV p:=by
  intro w;simp only[ag];constructor;.rintro⟨_,⟨p,h,rfl⟩,j⟩;simp only[af,ai,a5]at j;exact⟨p,h,j⟩
  .rintro⟨p,h,rfl⟩;exact⟨_,⟨p,h,rfl⟩,(.head _)⟩
 refine eP.mpr ?_;simp only[f];refine⟨⟨p,b,rfl⟩,?_,?_,?_,?_⟩;.rintro⟨p',h,e⟩;rw[ny (KC (.inl rfl)) e.symm]at h;exact ay h N.any
 .rintro _⟨p',h,e⟩;rw[ny (KC (.inr (.inl rfl))) e.symm]at h;exact ay h N.DM
 .intro c;obtain⟨p',h,e⟩:=c;rw[ny (KC (.inr (.inr (.inl rfl)))) e.symm]at h;cases p with|prim w=>exact N.str h w b|obj L=>exact(iu (g7 (by simp))).2.2.2.2.2.2.2.1|lst L ro=>exact(iu (g7 (by simp))).2.2.2.2.2.2.2.1
 .intro d;obtain⟨p',h,e⟩:=d;rw[ny (KC (.inr (.inr (.inr rfl)))) e.symm]at h;cases p with|prim w=>exact N.num h w b|obj L=>exact(iu (g7 (by simp))).2.2.2.2.2.2.2.2|lst L ro=>exact(iu (g7 (by simp))).2.2.2.2.2.2.2.2
theorem tK.QA(N:tK ps):tK (ps.map (eB U J B m ro)):=by
 have h:∀w,.prim w∈ps.map (eB U J B m ro)↔.prim w∈ps:=by
  intro w;constructor;.intro h;refine d9 (ag.mp h) λp d b=>?_;induction p using Piece.casesOn with|prim v=>cases b;exact d|obj L=>exact xc Piece.ctorIdx b rfl|lst L ro=>exact xc Piece.ctorIdx b rfl
  .intro h;exact ag.mpr ⟨_,h,rfl⟩
 exact⟨λq=>N.any ((h _).mp q),λq=>N.DM ((h _).mp q),λq w c=>N.str ((h _).mp q) w ((h _).mp c),λq w c=>N.num ((h _).mp q) w ((h _).mp c)⟩
structure NInv(T:ab Row)(t:Nat)(ps:ab Piece):Prop where
 lt:t<T.length
 nd:(parts T t).Nodup
 to:∀q∈parts T t,∃p∈ps,h8 T q p
 mC:∀p∈ps,∃q∈parts T t,h8 T q p
 wz:tK ps
 l1:(parts T t).length<=4
 l2:ps.length<=4
 one:∀p,ps=[p]->parts T t=[t]
structure qZ(T:ab Row)(t:Nat)(ps:ab Piece):Prop extends NInv T t ps where
 sh:ShQ (rZ T) T t (ei (ps.map λp=>[eV p]))
 ne:t≠0/\t≠1/\t≠10
theorem NInv.pre(h:T<+:T')(s:NInv T t ps):NInv T' t ps:=by
 have e:=kh h s.lt;refine⟨bY s.lt h.length_le,e▸s.nd,λq f=>?_,λp d=>?_,s.wz,(sY e s.l1),s.l2,(sY e s.one)⟩;.refine d9 (s.to q (e▸f)) λp b c=>?_;exact i12 p b (c.pre h)
 .refine d9 (s.mC p d) λq b c=>?_;exact i12 q (e▸b) (c.pre h)
theorem pW(G:Good g T)(b:T[q]?=some r)(P:eE T r p):parts T q=[q]/\q≠0/\q≠1/\q≠10/\q≠2:=by have c:=P.ne G b (G.at (i:=2) rfl) (by decide);exact⟨eQ b c λ_=>P.Vo,P.ne G b (G.at rfl) (by decide),P.ne G b (G.at rfl) (by decide),P.ne G b (G.at rfl) (by decide),c⟩
theorem pa(G:Good g T)(d:T[q]?=some r)(j:∀p∈ps,gW T r p)(y:ps≠[])(N:tK ps)(A:ps.length<=4):qZ T q ps:=by
 obtain⟨f,c⟩:∃f,f∈ps:=by cases ps with|nil=>exact ay rfl y|cons a l=>exact⟨a,by simp⟩
 obtain⟨e,C,E,s,K⟩:=pW G d (j f c).QG;refine⟨⟨gL d,by rw[e];simp,λI b=>?_,λp h=>⟨q,by rw[e];simp,r,d,(j p h).QG⟩,N,by rw[e];simp,A,λ_ _=>e⟩,⟨gL d,jf,by rw[e];simp,λI b=>?_,λw o=>?_⟩,C,E,s⟩;.rw[e]at b;simp only[af,ai,a5]at b;subst b;exact⟨f,c,r,d,(j f c).QG⟩
 .rw[e]at b;simp only[af,ai,a5]at b;subst b;exact⟨r,_,d,⟨f,j f c,rfl⟩,N.kept c⟩
 .rw[eP]at o;obtain⟨k,z,o⟩:=o.1;obtain⟨p,h,rfl⟩:=ag.mp z;simp only[af,ai,a5]at o;exact⟨q,by rw[e];simp,r,d,p,j p h,o⟩
theorem ux{z:Type}{elt:ME}{tg:Tg}{c:Cx}{e:z->D}{L:Loc}(w:Nat){R:ab Row->z->Nat->Prop}(A:∀{T T' x t},T<+:T'->R T x t->R T' x t)(N:∀x O,hO tg (e x) (L++[O])=some (L++[some (.d (e x))])):∀(Z:ab z){T:ab Row}{O:ae V},Good (g+w*Z.length) T->(∀x∈Z,∀j T',T<+:T'->Good (j+w) T'->∃t' f,eD elt c (L++[some (.d (e x))]) (hs F T' X)=some (nD t',hs F f X)/\Good j f/\T'<+:f/\R f x t')->∀{l:Prop},(∀T'(ts:ab Nat),fa elt tg (gO []) c (Z.map e) (L++[O]) (hs F T X)=some (ts.map nD,hs F T' X)->Good g T'->T<+:T'->ts.length=Z.length->(∀x∈Z,∃t∈ts,R T' x t)->(∀t∈ts,∃x∈Z,R T' x t)->l)->l:=by
 intro Z;induction Z with
 |nil=>intro T O G _ l κ;exact κ T [] rfl G (aq _) rfl (λ_ h=>kr h) λ_ h=>kr h|cons x Z ih=>
  intro T O G I l κ;refine jt (I x (.head _) (g+w*Z.length) T (aq _) (G.le (by rw[bf,Nat.mul_succ,aat];exact aV _))) λK T1 e1 M C E=>?_;refine ih (O:=some (.d (e x))) M (λy o j T' p=>I y (.tail _ o) j T' (C.trans p)) λT2 ts e2 P s l2 h1 h2=>?_;refine κ T2 (K::ts) ?_ P (C.trans s) (ah aa2 l2) (λy o=>?_) λt ht=>?_;.rw[ar,rO,N,bj,u6];refine Eq.trans (b:=(eD elt c (L++[some (.d (e x))]) (hs F T X)).bind (QQ elt tg (gO []) c (Z.map e) (L++[some (.d (e x))]))) rfl ?_;rw[e1,bj,zY,e2];rfl
  .rcases af.mp o with h|h;.exact i12 K (.head _) (h▸A s E)
   .exact d9 (h1 y h) λt a b=>i12 t (.tail _ a) b
  .rcases af.mp ht with h|h;.exact i12 x (.head _) (h▸A s E)
   .exact d9 (h2 t h) λy a b=>i12 y (.tail _ a) b
noncomputable def RF(T:ab Row)(f:Piece->Piece)(T':ab Row)(q t':Nat):Prop:=∃b,T'[t']?=some b/\∀p,h8 T q p->gW T' b (f p)
theorem Iz(G:Good (g+1+40*4) T)(I:NInv T t ps)(hr:T[t]?=some (.jW qs))(l:t≠2)(S:jS T x U J B t)(ha:as=-1\/(as=16/\∀p∈ps,∀L ro,p≠.lst L ro)):∃t' T',cF (n+14) wm 800 [eb,.d (eM Q as x m ro),.d (nD t),.d (nD t)] (hs F T X)=some (.d (nD t'),hs F T' X)/\Good g T'/\T<+:T'/\qZ T' t' (ps.map (eB U J B m ro)):=by
 have C:parts T t=qs:=by unfold parts;rw[aZ l,hr]
 have UT:qs.length<=4:=C▸I.l1;refine ux (F:=F) (X:=X) (g:=g+1) (elt:=(dO 800 [(dM 0),(dM 1),(dM 10),(dM 5)]).run) (tg:=.one 10) (c:=⟨cF (n+13),11+X.length⟩) (e:=nD) (L:=[some eb,some (.d (eM Q as x m ro)),some (.d (nD t)),some (.d (nD t)),some d7,some (.d (nD t)),some (.d (nD 6)),none,none,none]) 40 (R:=RF T (eB U J B m ro)) (λh y=>d9 y λf a b=>i12 f (fQ h a) λp A=>(b p A).pre h) (λ_ _=>rfl) qs (O:=none) (G.le (cw (acg 40 UT) _)) (λq M j T1 p1 G1=>?_) λT1 ts hc G1 p1 hlen X' Sw=>?_;.refine d9 (I.to q (C▸M)) λp A y=>?_;refine d9 y λr1 XS hP=>?_;refine jt (A2 (F:=F) (X:=X) (n:=n) (wm:=11+X.length) (Q:=Q) (as:=as) (m:=m) (ro:=ro) (g:=j) (over:=t) (wh:=t) G1 (fQ p1 XS) (hP.pre p1) (S.pre p1) (.inl rfl) (ha.imp id λh=>⟨h.1,h.2 p A⟩)) λt' T2 c2 G2 K y1=>?_;refine d9 y1 λf Tz PC=>?_;refine rh t' T2 (wd [dR 4 c2]) G2 K (i12 f Tz λp1 VB=>d9 VB λr2 h3 h4=>?_);rw[XS]at h3;obtain rfl:=sI h3;rw[ug h4 hP];exact PC
 have Vq:∀t'∈ts,∃f p,T1[t']?=some f/\gW T1 f p/\p∈ps.map (eB U J B m ro):=by intro t' z;refine d9 (Sw t' z) λq M y=>?_;refine d9 y λf o l=>?_;refine d9 (I.to q (C▸M)) λp A hP=>?_;exact Dg f _ o (l p hP) (ag.mpr ⟨p,A,rfl⟩)
 have Ul:∀p∈ps.map (eB U J B m ro),∃t'∈ts,∃f,T1[t']?=some f/\gW T1 f p:=by intro p A;refine d9 (ag.mp A) λp0 Yj y1=>?_;refine d9 (I.mC p0 Yj) λq M hP=>?_;refine d9 (X' q (C▸M)) λt' z y=>?_;refine d9 y λf o l=>?_;exact i12 t' z (i12 f o (y1▸l p0 hP))
 have Xt:=hJ (Eb G hr (G.at (i:=13) rfl) λe=>xc Row.ctorIdx e rfl);have hf:=iF (T:=T) (t:=t) (n+12) (11+X.length) F X;have kd:=vz hr (n+12) (11+X.length) F X;have Yz:=fR F X hr;have t2:=hJ l;have TL:∀p',ps.map (eB U J B m ro)=[p']->afz:=λp' h=>by refine(aa8.mp h).elim λp1 h=>?_;refine d9 (I.to t (eL (I.one p1 h.1) (.head _))) λp _ y=>?_;refine d9 y λr1 o l=>?_;rw[hr]at o;exact l.Vo (sI o).symm
 have N:=I.wz.QA (U:=U) (J:=J) (B:=B) (m:=m) (ro:=ro);have l2:=I.l2;rw[←ak (eB U J B m ro)]at l2;clear I S ha hr X' Sw C G l;generalize ps.map (eB U J B m ro)=Xh at*;refine l8 (P:=rZ T1) SF G1 (x:=.lst (ts.map nD)) (qs:=ts) (k:=ei (Xh.map λp=>[eV p])) (.inr rfl) (λq M=>?_) (λw hw=>?_) jf (hlen▸aj UT (by decide)) λZ T2 c2 G2 K s2 E Ve=>?_;.refine iL (Vq q M) λf p o l h3=>?_;exact Dg f _ o ⟨p,l,rfl⟩ (N.kept h3)
 .refine d9 (eP.mp hw).1 λk hk hw=>?_;refine d9 (ag.mp hk) λp A e=>?_;rw[←e]at hw;refine d9 (Ul p A) λt' z y=>?_;refine d9 y λf o l=>?_;exact i12 t' z (i12 f o ⟨p,l,kE hw⟩)
 have nj:∀{j:Nat}{s:W},T2[j]?=some (.key s)->j≠2->s∉[d6,gy,d0,dZ]->Z≠j:=λhj l hn e=>by refine iL (Vq Z (E _ (eL (eQ (e▸hj) (e▸l) λ_ h=>xc Row.ctorIdx h rfl) (.head _)))) λf p a b _=>?_;exact(b.QG.pre K).ne G2 (fQ K a) hj hn e
 refine rh Z T2 (wk gZ dT [dR 3 hf,sb 1 (eA Xt),sb 2 (eA t2),dR 3 kd,sv 6 Yz,jY 3 hc,dR 1 (c2 (n+10) (11+X.length) F X),dR 0 (dU F X (nD Z) T2)]) G2 (p1.trans K) ⟨⟨s2.lt,s2.nd,λq M=>?_,λp A=>?_,N,au (len_sub s2.nd E) (hlen▸UT),l2,λp' h=>(TL p' h).elim⟩,s2.imp (aq _) λ_ _ h=>h.pre K,nj (G2.at (i:=0) rfl) (by decide) (by decide),nj (G2.at (i:=1) rfl) (by decide) (by decide),nj (G2.at (i:=10) rfl) (by decide) (by decide)⟩;.refine iL (Vq q (E q M)) λf p o l h3=>?_;exact i12 p h3 ⟨f,fQ K o,l.QG.pre K⟩
 .refine d9 (Ul p A) λt' z y1=>?_;refine d9 y1 λf o l=>?_;exact i12 t' (Ve t' z f _ o ⟨p,l,rfl⟩ (N.kept A)) ⟨f,fQ K o,l.QG.pre K⟩
theorem Qh(G:Good (g+1+40*4) T)(I:NInv T t ps)(S:jS T x U J B t)(Z:as=-1\/(as=16/\∀p∈ps,∀L ro,p≠.lst L ro)):∃t' T',cF (n+14) wm 800 [eb,.d (eM Q as x m ro),.d (nD t),.d (nD t)] (hs F T X)=some (.d (nD t'),hs F T' X)/\Good g T'/\T<+:T'/\qZ T' t' (ps.map (eB U J B m ro)):=by
 have C:=I.lt;have b:=aw C;generalize T[t]=r at b;by_cases z:t=2;.
  subst z;have E:ps=[]:=by induction ps using aS with|nil=>rfl|cons a l=>exact d9 (I.mC a (.head _)) λq M _=>kr M
  subst E;exact rh 2 T (wk gZ dT [dR 3 (iF (T:=T) (t:=2) (n+12) (11+X.length) F X),dR 6 (dU F X (D.int 2) T)]) (G.le (au (dp _) (aH _ _))) (aq _) ⟨I,(xt G).toShQ,by decide⟩
 by_cases hu:∃s,r=.jW s;.exact hu.elim λs e=>Iz G I (e▸b) z S Z
 have P:=eQ b z λs e=>hu ⟨s,e⟩;refine d9 (I.to t (eL P (.head _))) λp0 f y=>?_;refine d9 y λR j c=>?_;rw[b]at j;obtain rfl:=sI j;refine jt (A2 (F:=F) (X:=X) (n:=n+1) (wm:=wm) (Q:=Q) (m:=m) (ro:=ro) (g:=g) (G.le (by lia)) b c S (.inl rfl) (Z.imp id λh=>⟨h.1,h.2 p0 f⟩)) λt' T' c2 O p2 y1=>?_;refine d9 y1 λr' N PC=>?_;refine rh t' T' c2 O p2 (pa O N (λp E=>?_) (λe=>kr (List.map_eq_nil_iff.mp e▸f)) I.wz.QA (by rw[ak];exact I.l2));refine d9 (ag.mp E) λp1 K y2=>?_;refine d9 (I.mC p1 K) λq M y=>?_;refine d9 y λr1 o A=>?_;rw[kE (eL P.symm M),b]at o;obtain rfl:=sI o;rw[←y2,ug A c];exact PC
end
section
variable{F:ab Int}{T T' T1 T2:ab Row}{X Y:ab Cell}{n wm:Nat}{H:Hp}{i κ t g q over wh:Nat}{k:ab W}{Q m ro x U J:Nat}{as:Int}{B:ab W}{kw:W}{p p':Piece}{r:Row}{L L':ab Slot}
theorem oJ:tK [.obj L]:=⟨by simp,by simp,by simp,by simp⟩
theorem zi(G:Good g T)(j:t=1\/t=10):∃t' T',cF (n+14) wm 800 [eb,.d (eM Q as x m ro),.d (nD t),.d (nD t)] (hs F T X)=some (.d (nD t'),hs F T' X)/\Good g T'/\T<+:T'/\qZ T' t' ([.obj []].map (eB U J B m ro)):=by
 refine rh (11) T ?_ G (aq _) (pa G (G.at rfl) (λp f=>?_) (by simp) oJ.QA (by simp));.
  have b:∃s,T[t]?=some (.key s):=by rcases j with rfl|rfl;exact⟨_,G.at rfl⟩;exact⟨_,G.at rfl⟩
  obtain⟨s,b⟩:=b;have c:=iF (T:=T) (t:=t);have e:=vz b;have R:=kL b rfl;clear b;rcases j with rfl|rfl;.simp only[WQ]at c e R;exact wk gZ dT [dR 3 (c (n+12) (11+X.length) F X),dR 8 (e (n+12) (11+X.length) F X),dR 8 (R (n+12) (11+X.length) F X),dR 7 (dU F X (D.int 11) T)]
  .have l:nD 10=.int 10:=rfl;exact wk gZ dT [dR 3 (c (n+12) (11+X.length) F X),dR 8 (e (n+12) (11+X.length) F X),dR 8 (R (n+12) (11+X.length) F X),dR 10 (dU F X (D.int 11) T)]
 .simp only[ar,bF,af,ai,a5]at f;subst f;exact⟨[],none,none,λ_=>⟨[],[],0,0⟩,[],[],⟨rfl,⟨by decide,by simp,.inl ⟨rfl,rfl⟩,.inl ⟨rfl,rfl⟩,by simp,by simp⟩,by simp[gJ,sortBy],by simp[gJ,sortBy]⟩,⟨by decide,by decide⟩,rfl⟩
noncomputable abbrev anyS:Slot:=⟨d0,[fW],2,0⟩
theorem yS(G:Good (g+10) T)(j:U≠0)(S:Tm T x U J B)(A:as=-1\/as=16):∃t' T',cF (n+14) wm 800 [eb,.d (eM Q as x m ro),.d (nD 0),.d (nD 0)] (hs F T X)=some (.d (nD t'),hs F T' X)/\Good g T'/\T<+:T'/\qZ T' t' ([.obj [anyS]].map (eB U J B m ro)):=by
 refine(let K:Prop:=_;(?_:K));have o:=G.at (i:=0) rfl;have l:=iF (T:=T) (t:=0);have y:=vz o;have R:=kL o rfl;refine jt (wx (F:=F) (X:=X) (n:=n+1) (wm:=11+X.length) (Q:=Q) (m:=m) (ro:=ro) (g:=g) (es:=[⟨6,none,none,anyS⟩]) (G.le (by simp)) (by simp only[af,ai,a5,cG];exact⟨(.inr ⟨rfl,rfl,.inl ⟨rfl,rfl⟩,rfl,by decide,λh=>ay h j⟩),(⟨_,G.at (i:=6) rfl,by decide,rfl⟩)⟩) (.inr S) A ⟨by decide,by decide⟩ (by decide) (by decide)) λt' T' f e C E=>?_;refine d9 E λM c z=>?_;refine rh t' T' ?_ e C (pa e c (λp s=>?_) (by simp) oJ.QA (by simp));.have b:=λn wm H=>Ib (n:=n) (wm:=wm) (H:=H) (I:=[6]);simp only[U']at l y R;rw[(aC j)]at f;exact wk gZ dT [dR 3 (l (n+12) (11+X.length) F X),dR 8 (y (n+12) (11+X.length) F X),dR 8 (R (n+12) (11+X.length) F X),dR 8 (b (n+11) (11+X.length) (hs F T X)),dR 2 f,dR 0 (dU F X (nD t') T')]
 .simp only[ar,bF,af,ai,a5]at s;subst s;exact z
noncomputable def pj:ab W:=[[34,112,34],[48],d0,[34,122,34],dZ,[34,113,34],[49]]
noncomputable def f7(w:W):Slot:=⟨w,[],if w=d0\/w=dZ then 2 else 0,0⟩
noncomputable def WA:Row->W|.key s=>s|.bool b _=>if b=0then hK else i9|.str s=>34::(s++[34])|.num m=>[48+m]|_=>[]
theorem P2(h:ek r w):WA r=w:=by
 rcases r with⟨⟩<;>first|exact h.elim|skip
 .exact h.2.symm
 .rcases h.2with⟨rfl,rfl⟩|⟨rfl,rfl⟩<;>rfl
 .exact h.2.symm
 .exact h.2.symm
noncomputable def rowOf(w:W):Row:=if isLit w then .str w.tail.dropLast else if i' w then .num (w.headD 0-48)else if w=hK then .bool 0 0 else if w=i9 then .bool 1 0 else .key w
set_option tactic.hygienic true in theorem yk{w:W}(h:ek r w):r=rowOf w:=by
 rcases r with⟨⟩<;>first|exact h.elim|skip
 .obtain⟨h,rfl⟩:=h;simp only[af,ai,a5]at h;rcases h with rfl|rfl|rfl|rfl|rfl|rfl<;>rfl
 .obtain⟨rfl,⟨rfl,rfl⟩|⟨rfl,rfl⟩⟩:=h<;>rfl
 .rw[h.2];simp[rowOf,isLit]
 .obtain⟨h1,rfl⟩:=h;rename_i d;have h2:i' [48+d]=true:=by simp[i'];lia
  simp[rowOf,isLit,h2];lia
theorem ek.inj(h:ek r w)(h':ek b w):r=b:=(yk h).trans (yk h').symm
theorem LR(c:a∈pj)(d:b∈pj)(h:eZ a=eZ b):a=b:=by
 have:∀a∈pj,∀b∈pj,eZ a=eZ b->a=b:=by decide
 exact this a c b d h
theorem S7(b:a∈pj):∀c∈a,c<128:=by
 have:∀a∈pj,∀c∈a,c<128:=by decide
 exact this a b
structure UU(T:ab Row)(kt:Nat)(I:ab W):Prop where
 sh:ShQ ek T kt I
 w:∀w∈I,w∈pj
 l:(parts T kt).length<=7
theorem xd(G:Good g T)(K:ShQ ek T t k):Runs 2 558 [d7,.d (nD t)] T (.d (.bool false)) T:=NX K.lt (G.at rfl) λq e=>by obtain⟨r,w,b,c,_⟩:=K.to q e;exact⟨r,b,c.simp⟩
theorem xX(G:Good g T)(K:ShQ ek T t k):t≠13:=by intro e;subst e;refine iL (K.to 13 (by rw[(eQ (G.at (i:=13) rfl) (by decide) (by simp))];simp)) λr w b c _=>?_;rw[G.at rfl]at b;obtain rfl:=sI b;exact od.err c rfl
theorem uz:∀{I:ab W},I.Nodup->(∀w∈I,w∈pj)->(I.map eZ).Nodup:=by intro I;induction I with|nil=>intro _ _;simp|cons a I ih=>intro h c;rw[a7]at h;rw[ar,a7];refine⟨λq=>?_,ih h.2 λw d=>c w (by simp[d])⟩;refine d9 (ag.mp q) λb f e=>?_;exact h.1 (LR (c b (by simp[f])) (c a (by simp)) e▸f)
set_option tactic.hygienic true in theorem LU(G:Good g T)(h0:U≠0){w:W}(hr:T[q]?=some r)(hw:ek r w)(hm:w∈pj):j0 T U ⟨q,none,none,f7 w⟩/\Ky T q w:=by
 refine⟨?_,r,hr,hw⟩;have M1:=hm;simp only[pj,af,ai,a5]at M1;clear hm;rcases r with⟨⟩<;>first|exact hw.elim|skip
 .obtain⟨h1,rfl⟩:=hw;simp only[af,ai,a5]at h1;rcases h1 with rfl|rfl|rfl|rfl|rfl|rfl;.exact ay M1 (by decide)
  .exact ay M1 (by decide)
  .exact ay M1 (by decide)
  .exact ay M1 (by decide)
  .exact .inr ⟨rfl,rfl,.inl ⟨G.id hr (G.at rfl),rfl⟩,rfl,bB _,λh=>ay h h0⟩
  .exact .inr ⟨rfl,rfl,.inr ⟨G.id hr (G.at rfl),rfl⟩,rfl,bB _,λh=>ay h h0⟩
 .refine(let γ:Prop:=_;(?_:γ));rcases hw.2with⟨_,rfl⟩|⟨_,rfl⟩<;>exact ay M1 (by decide)
 .obtain⟨h1,rfl⟩:=hw;rename_i s;have hs:(f7 (34::(s++[34]))).sign=0:=rfl;exact .inl ⟨s,_,⟨hr,⟨h1,rfl⟩,rfl,h1,rfl,rfl,ac1 _,hs,by kernel_rfl,λh=>ay h h0⟩⟩
 .obtain⟨h1,rfl⟩:=hw;rename_i d;have hd:d=0\/d=1:=by simp only[abU,and_true,List.cons_ne_nil,List.nil_eq,and_false,false_or,a5,reduceCtorEq]at M1;lia
  refine .inl ⟨[48+d],_,⟨hr,⟨h1,rfl⟩,rfl,rfl,?_,rfl,ac1 _,(show(f7 [48+d]).sign=0from by simp[f7]),by kernel_rfl,λh=>ay h h0⟩⟩;clear M1;rcases hd with rfl|rfl<;>rfl
theorem Kr(G:Good (g+30) T)(h0:U≠0)(S:Tm T x U J B)(K:UU T Q I)(ha:as=-1\/as=16):∃t' T',cF (n+14) wm 814 [eb,.d (eM Q as x m ro)] (hs F T X)=some (.d (nD t'),hs F T' X)/\Good g T'/\T<+:T'/\qZ T' t' ([.obj (I.map f7)].map (eB U J B m ro)):=by
 refine(let γ:Prop:=_;(?_:γ));have ZD:¬(Q:Int)=13:=by have:=xX G K.sh;lia
 let wq:Nat->W:=λq=>WA ((T[q]?).getD (.param 0));have y:∀q∈parts T Q,∃r,T[q]?=some r/\ek r (wq q)/\wq q∈I:=by
  intro q o;refine iL (K.sh.to q o) λr w j c f=>?_;have:wq q=w:=by show WA _=w;rw[j];exact P2 c
  rw[this];exact⟨r,j,c,f⟩
 have OV:∀e∈(parts T Q).map (λq=>(⟨q,none,none,f7 (wq q)⟩:Ent)),j0 T U e/\Ky T e.κ e.s.key:=by intro e he;refine d9 (ag.mp he) λq o Zc=>?_;clear he;subst Zc;refine j7 (y q o) λr j c f=>?_;exact LU G h0 j c (K.w _ f)
 have C:((parts T Q).map (λq=>(⟨q,none,none,f7 (wq q)⟩:Ent))).map (·.s)=((parts T Q).map wq).map f7:=by simp[aK,a9]
 have P:((parts T Q).map wq).Nodup:=by
  have:∀l:ab Nat,l.Nodup->(∀q∈l,q∈parts T Q)->(l.map wq).Nodup:=by intro l;induction l with|nil=>intro _ _;simp|cons a l ih=>intro h hm;rw[a7]at h;rw[ar,a7];refine⟨λq=>?_,ih h.2 λq o=>hm q (by simp[o])⟩;refine d9 (ag.mp q) λb hb e=>?_;refine j7 (y b (hm b (by simp[hb]))) λr1 j c _=>?_;refine j7 (y a (hm a (by simp))) λr2 f h4 _=>?_;rw[e]at c;have:r1=r2:=c.inj h4;subst this;exact h.1 (G.id f j▸hb)
  exact this _ K.sh.nd λq o=>o
 have E:∀w,w∈(parts T Q).map wq↔w∈I:=by
  intro w;constructor;.intro h;obtain⟨q,o,rfl⟩:=ag.mp h;obtain⟨_,_,_,f⟩:=y q o;exact f
  .intro h;obtain⟨q,o,r,j,c⟩:=K.sh.mC w h;refine j7 (y q o) λr' f h4 _=>?_;rw[j]at f;obtain rfl:=sI f;exact ag.mpr ⟨q,o,h4.det c⟩
 have R:∀{l:ab W},l.Nodup->(∀w∈l,w∈pj)->oo (l.map f7):=by intro l j c;refine⟨by rw[aK];exact uz j c,λs hs=>?_⟩;refine d9 (ag.mp hs) λw M YR=>?_;subst YR;exact S7 (c w M)
 have A:=R P λw h=>K.w w ((E w).mp h);have O:=R K.sh.wz.ss.nd K.w;have Z5:∀l:ab W,l.Nodup->(∀w∈l,w∈pj)->rf (l.map f7)<=5:=by
  intro l j c;unfold rf;have:(l.map f7).filter (λs=>decide (s.sign<2))=(l.filter λw=>decide (w≠d0/\w≠dZ)).map f7:=by
   rw[ada];congr 1;refine List.filter_congr λw _=>?_;have e:(f7 w).sign<2↔(w≠d0/\w≠dZ):=by
    simp only[f7];by_cases q:w=d0\/w=dZ;.rw[aW q];exact⟨λh=>ay h (by decide),λz=>ay q (by rintro(h|h);exact z.1 h;exact z.2 h)⟩
    .rw[aZ q];exact⟨λ_=>⟨λz=>q (.inl z),λz=>q (.inr z)⟩,λ_=>by decide⟩
   exact dq.mpr e
  simp only[this,ak];have:=len_sub (l':=[[34,112,34],[48],[34,122,34],[34,113,34],[49]]) (cp (λw=>decide (w≠d0/\w≠dZ)) j) λw M=>by
   rw[aO,ba]at M;have f:=c w M.1;simp only[pj,af,ai,a5]at f⊢;rcases f with h|h|h|h|h|h|h;.lia
   .lia
   .exact ay h M.2.1
   .lia
   .exact ay h M.2.2
   .lia
   .lia
  simpa using this
 have z!:=K.l;refine jt (wx (F:=F) (X:=X) (n:=n+1) (wm:=11+X.length) (Q:=Q) (m:=m) (ro:=ro) (g:=g) (G.le (by simp;lia)) OV (.inr S) ha ((sY C A)) (by simp;lia) (by rw[C];exact Z5 _ P λw h=>K.w w ((E w).mp h))) λt' T' Z G2 p2 y1=>?_;refine d9 y1 λr' Tz PC=>?_;refine rh t' T' ?_ G2 p2 (pa G2 Tz (λp hp=>?_) (by simp) oJ.QA (by simp));.
  have N:=λn wm H=>Ib (n:=n) (wm:=wm) (H:=H) (I:=parts T Q);rw[(aC h0)]at Z;have e1:((parts T Q).map (λq=>(⟨q,none,none,f7 (wq q)⟩:Ent))).map Ent.d=(parts T Q).map λκ=>mA κ none none:=by rw[aK];rfl
  rw[e1]at Z;exact wk m9 dT [dR 5 ((iF (T:=T) (t:=Q)) (n+12) (11+X.length) F X),sb 1 (eA ZD),dR 3 ((xd G K.sh) (n+11) (11+X.length) F X),dR 5 ((nG K.sh.lt) (n+12) (11+X.length) F X),dR 1 (N (n+11) (11+X.length) (hs F T X)),dR 2 Z,dR 0 (dU F X (nD t') T')]
 .simp only[ar,bF,af,ai,a5]at hp;subst hp;have:gJ ((((parts T Q).map (λq=>(⟨q,none,none,f7 (wq q)⟩:Ent))).map (·.s)).map (et U J B m ro))=gJ ((I.map f7).map (et U J B m ro)):=by
   rw[C];refine nE ?_ ?_ λs=>?_;.rw[aK];simp only[a9,fy];exact A.1
   .rw[aK];simp only[a9,fy];exact O.1
   .simp only[ag,ag,E]
  show gW T' r' (.obj (gJ ((I.map f7).map _)));rw[←this];exact PC
end
section
variable{F:ab Int}{T T' T1 T2:ab Row}{X Y:ab Cell}{n wm:Nat}{H:Hp}{i κ t g q over wh:Nat}{k:ab W}{Q m ro x U J:Nat}{as:Int}{B:ab W}{kw:W}{p p':Piece}{r:Row}{L L':ab Slot}
noncomputable def ue(T:ab Row)(q:Nat):ab W:=match T[q]?with|some (.str s)=>[s]|some (.num d)=>[[48+d]]|_=>[]
noncomputable def gS(N:ab W):ab (D×D):=N.map λw=>(sD w,.int 1)
theorem BK:∀{N:ab W},jN (sD w) (.int 1) (gS N)=some (gS (if w∈N then N else N++[w]))
 |[]=>rfl|a::N=>by
  have ih:=BK (w:=w) (N:=N);unfold gS at ih⊢;simp only[ar,jN,yP,Hy,ih];by_cases h:a=w;.simp[h]
  .simp[h,(show¬w=a fromλe=>h e.symm)];split<;>simp
theorem Ry{N:ab W}:rE (sD w) (.d (.eJ (N.map sD) (N.map λ_=>.int 1))) H=some (decide (w∈N)):=by
 have b:(N.map sD).zip (N.map λ_=>(D.int 1))=N.map λw=>(sD w,.int 1):=by induction N with|nil=>rfl|cons a l ih=>simp[ih]
 rw[(show rE (sD w) (.d (.eJ (N.map sD) (N.map λ_=>.int 1))) H=if((sD w).sort.any λq=>eg q ((N.map sD).zip (N.map λ_=>(D.int 1))))=true then(hW (sD w) ((N.map sD).zip (N.map λ_=>(D.int 1)))).map (·.isSome)else none from rfl),b];refine(aW (iC (f:=λw:W=>w) (g:=λ_=>D.int 1) (l:=N))).trans ?_;rw[p8,abJ];congr 1;rw[Option.isSome_map,List.isSome_find?,b9];simp
theorem Bf:∀l:ab Nat,(l.flatMap (ue T)).length<=l.length
 |[]=>(aV _)|a::l=>by
  have ih:=Bf l;have:(ue T a).length<=1:=by
   unfold ue;rcases T[a]?with _|r;.exact bB _
   .rcases r with⟨⟩<;>first|exact aV 1|exact bB _
  simp only[cB,ao,bf];lia
theorem Il:jN (sD w) (.int 1) (gS N)=some (gS (fh N [w])):=by rw[BK];simp only[fh];by_cases h:w∈N<;>simp[h]
noncomputable def sH(F:ab Int)(T:ab Row)(X:ab Cell)(N:ab W):Hp:=hs F T (X++[.eJ (gS N) false])
theorem Q5(b:N.length<big):II (sD w) (.int 1) (.ref (11+X.length)) (sH F T X N)=some (sH F T X (fh N [w])):=(Dk (H:=sH F T X N) (x:=sD w) gq (iC) (aj (bZ (ak _)) b) Il).trans (ah some nO)
theorem Kt(h:T[q]?=some r):(LC r=.fS/\ue T q=[])\/∃w,LC r=sD w/\ue T q=[w]:=by unfold ue;rw[h];clear h;induction r using Row.casesOn with|str s=>exact .inr ⟨s,rfl,rfl⟩|num s=>exact .inr ⟨_,rfl,rfl⟩|_=>exact .inl ⟨rfl,rfl⟩
theorem Lc(j:T[q]?=some r)(e:∀k,r=.num k->k<10)(l:N.length<big):d5 (k8.map BS.run) ⟨cF (n+2),11+X.length⟩ [some d7,some (.d qs),some (.ref (11+X.length)),some (.d (nD q)),Z] (sH F T X N)=some (.er,[some d7,some (.d qs),some (.ref (11+X.length)),some (.d (nD q)),some (.d (LC r))],sH F T X (fh N (ue T q))):=by
 have b:cF (n+2) (11+X.length) 572 [d7,.d (nD q)] (sH F T X N)=some (.d (LC r),sH F T X N):=by have h:=oF j e n (11+X.length) F (X++[.eJ (gS N) false]);exact h
 rcases Kt j with h|h;.refine lK h λc f=>?_;rw[c]at b⊢;rw[f];exact wq [dR 2 b]
 .refine d9 h λw c f=>?_;rw[c]at b⊢;rw[f];exact wq [dR 2 b,sh 4 (Q5 (F:=F) (T:=T) (X:=X) (w:=w) l)]
theorem EN{qs:ab Nat}(E:∀q∈qs,∃r w,T[q]?=some r/\ek r w)(y:qs.length<64):Runs 3 835 [d7,.d (.tup (qs.map nD))] T (.d (.eJ ((fh [] (qs.flatMap (ue T))).map sD) ((fh [] (qs.flatMap (ue T))).map λ_=>.int 1))) T:=by
 intro n wm F X;refine lM (b:=k8) (tg:=.one 3) (c:=⟨cF (n+2),11+X.length⟩) (e:=nD) (σ:=ae V×ae V) (λo=>[some d7,some (.d (.tup (qs.map nD))),some (.ref (11+X.length)),o.1,o.2]) (λd=>sH F T X (fh [] (d.flatMap (ue T)))) qs (λd q A o j=>?_) (s:=(none,none)) λo C=>?_;.refine mn (E q (eL j (aN _ (.head _)))) λr w G z=>?_;refine xA _ (some (.d (nD q)),some (.d (LC r))) rfl ?_;rw[b4,iJ,cB,aag,aL];refine Lc G (λd hd=>by rw[hd]at z;exact z.1) (aj (au jz (au (bZ (bS _)) (Bf d))) ?_);rw[j,ao]at y;exact bM (aj (aH _ _) y) (by decide)
 generalize fh [] (qs.flatMap (ue T))=N at*;have I:toD (.ref (11+X.length)) (hs F T (X++[.eJ (gS N) false]))=some (.eJ (N.map sD) (N.map λ_=>.int 1),hs F T (X++[.eJ (gS N) true])):=by simp[toD,(show eg .s (gS N)=true from iC (f:=λw:W=>w) (g:=λ_=>D.int 1) (l:=N))];simp[gS]
 exact wk wL dT [dR 0 (iD F X (.eJ [] false) T),mf 1 C,dR 0 (show fin (11+X.length) (.ret (.ref (11+X.length)),[],sH F T X N)=some (.d (.eJ (N.map sD) (N.map λ_=>.int 1)),hs F T X)from by unfold sH;simp[I])]
theorem KY(c:T[t]?=some (.obj ps E ni)):Runs 3 543 [eb,.d (nD t),.d (.int 0)] T (.d (ke E)) T:=by intro n wm F X;have f:=λt=>iF (T:=T) (t:=t);have sh:=A1 c;induction E using cC with|none=>have e:ke none=.tup []:=rfl;exact wk s8 dT [dR 2 (f t (n+1) (11+X.length) F X),sv 3 (fR F X c),dR 19 (sh n (11+X.length) F X),sv 1 (fR F X c),dR 6 (dU F X (D.tup []) T)]|some s=>obtain⟨a,b⟩:=s;exact wk s8 dT [dR 2 (f t (n+1) (11+X.length) F X),sv 3 (fR F X c),dR 19 (sh n (11+X.length) F X),sv 1 (fR F X c),dR 10 (f a (n+1) (11+X.length) F X),dR 4 (dU F X (D.tup [nD a,nD b]) T)]
end
section
variable{qs:ab Nat}{R:ab W}{F:ab Int}{T T' T1 T2:ab Row}{X Y:ab Cell}{n wm:Nat}{H:Hp}{i κ t g q over wh:Nat}{k:ab W}{Q m ro x U J:Nat}{as:Int}{B:ab W}{kw:W}{p p':Piece}{r:Row}{L L':ab Slot}
theorem Jy:w∈fh [] (qs.flatMap (ue T))↔∃q∈qs,w∈ue T q:=by rw[lq];simp[cu]
noncomputable def rS(t:Nat)(qs:ab Nat)(N:ab W)(b:bt)(i:Nat)(C E A c nH:ae V):Loc:=[some eb,some (.d (nD t)),some (.d (.tup (qs.map nD))),some d7,some (.d (.eJ (N.map sD) (N.map λ_=>.int 1))),some (.d (.bool b)),some (.ref (11+i)),C,E,A,c,nH]
theorem R4{e:Ent}(y:e.p=none->(e.κ∈qs↔e.s.key∈R))(A:∀z,e.p=some z->(z.1∈N↔e.s.key∈R))(o:Z.length<big):d5 (jK.map BS.run) ⟨cF n,wm⟩ (rS t qs N false X.length (some (.d e.d)) none none none none) (hs F T (X++[.lst Z .own]))=some (.er,rS t qs N false X.length (some (.d e.d)) none none none none,hs F T (X++[.lst (Z++bif decide (e.s.key∈R)then[e.d]else[]) .own])):=by
 have j:=sf (F:=F) (T:=T) (X:=X) (L:=[]) (M:=dP) (c:=⟨cF n,wm⟩) (v:=e.d) o;have l:some (iZ dP (.ref (11+X.length)) 100 (hs F T (X++[.lst Z .own])))=some true:=ah some (jn gq 100 dP);obtain⟨κ,p,O,s⟩:=e;rcases p with _|⟨C,E,G,I⟩;.
  have f:f6 .In (nD κ) (.d (.tup (qs.map nD))) (hs F T (X++[.lst Z .own]))=some (decide (s.key∈R)):=(o8).trans (ah some (dq.mpr (y rfl)));simp only;generalize decide (s.key∈R)=b at*;rcases b with⟨⟩;.rw[aec,aL];exact wq [sb 5 f]
  .exact wq [sb 5 f,sb 1 l,dR 1 j]
 .have f:f6 .In (sD C) (.d (.eJ (N.map sD) (N.map λ_=>.int 1))) (hs F T (X++[.lst Z .own]))=some (decide (s.key∈R)):=(Ry (H:=hs F T (X++[.lst Z .own]))).trans (ah some (dq.mpr (A _ rfl)));simp only;generalize decide (s.key∈R)=b at*;rcases b with⟨⟩;.rw[aec,aL];exact wq [sb 10 f]
  .exact wq [sb 10 f,sb 1 l,dR 1 j]
theorem Sm{I:ab Nat}{nH:ae V}(c:cF n wm 572 [d7,.d (nD q)] H=some (.d f,H))(e:q∈I):d5 (jO.map BS.run) ⟨cF n,wm⟩ (rS t qs N b X.length C (some (.d (.lst (I.map nD)))) (some (.d (nD q))) j nH) H=some (.er,rS t qs N b X.length C (some (.d (.lst (I.map nD)))) (some (.d (nD q))) (some (.d f)) (some (.d (.bool true))),H):=by generalize I.map nD=l at*;exact wq [dR 2 c,sb 1 ((o8).trans (ah some (aE e)))]
structure CG(T:ab Row)(qs:ab Nat)(R:ab W):Prop where
 to:∀q∈qs,∃r w,T[q]?=some r/\ek r w/\w∈R
 mC:∀w∈R,∃q∈qs,∃r,T[q]?=some r/\ek r w
theorem CG.id(K:CG T qs R)(G:Good g T)(d:T[j]?=some (.key s))(hs:s∈[fW,ea,d6,gy,d0,dZ]):j∈qs↔s∈R:=by
 constructor;.intro h;refine iL (K.to j h) λr w a b c=>?_;rw[d]at a;obtain rfl:=sI a;rw[←b.2];exact c
 .intro h;refine d9 (K.mC s h) λq e y=>?_;refine d9 y λr a b=>?_;obtain rfl:r=.key s:=b.inj (⟨hs,rfl⟩:ek (.key s) s);rw[G.id d a];exact e
noncomputable def wR(k:W):Prop:=(∃z:W,z.length=1/\k=34::(z++[34]))\/k=d0\/k=dZ
theorem wR.no(h:wR [48+d]):afz:=by
 rcases h with h|h|h;.exact d9 h λz _ e=>ay (bx e).2 (by simp)
 .exact ay (bx h).2 (by decide)
 .exact ay (bx h).2 (by decide)
theorem CG.OZ(K:CG T qs R)(j:∀w∈R,wR w)(hz:z.length=1):z∈fh [] (qs.flatMap (ue T))↔(34::(z++[34]):W)∈R:=by
 rw[Jy];constructor;.intro h;refine d9 h λq f e=>?_;refine iL (K.to q f) λr w a b c=>?_;unfold ue at e;rw[a]at e;induction r using Row.casesOn with|str s=>rw[kE e,←b.2];exact c|num d=>exact(wR.no (b.2▸j w c)).elim|_=>exact kr e
 .intro h;refine d9 (K.mC _ h) λq f y=>?_;refine d9 y λr a b=>?_;obtain rfl:r=.str z:=b.inj (⟨hz,rfl⟩:ek (.str z) _);exact i12 q f (by unfold ue;rw[a];exact .head _)
noncomputable def IL(R:ab W)(e:Ent):bt:=decide (e.s.key∈R)
theorem HZ:((d++[e]).filter (IL R)).map Ent.d=(d.filter (IL R)).map Ent.d++bif decide (e.s.key∈R)then[e.d]else[]:=by rw[cL,aD,cV];unfold IL;cases decide (e.s.key∈R)<;>rfl
theorem FR(K:CG T qs R)(G:Good g T)(d:∀w∈R,wR w)(b:wR e.s.key)(h:j0 T1 0 e)(f:∀z,e.p=some z->e.s.key=34::(z.1++[34])):(e.p=none->(e.κ∈qs↔e.s.key∈R))/\(∀z,e.p=some z->(z.1∈fh [] (qs.flatMap (ue T))↔e.s.key∈R)):=by
 refine⟨λj=>?_,λz l=>?_⟩;.
  rcases h with h|E;.refine QL h λo r E=>?_;refine d9 (E.pl rfl) λq h _=>?_;rw[j]at h;exact ec h
  .rcases E.key with h|h<;>rw[h.1,h.2];.exact K.id G (G.at (i:=6) rfl) (by decide)
   .exact K.id G (G.at (i:=7) rfl) (by decide)
 .rw[f z l]at b⊢;refine K.OZ d ?_;rcases b with h|h|h;.refine d9 h λC c e=>?_;have:=ah bq (bx e).2;rw[ao,ao]at this;exact(Nat.add_right_cancel this).trans c
  .exact ay (bx h).1 (by decide)
  .exact ay (bx h).1 (by decide)
theorem Ek{es b:ab Ent}{o:ae V×ae V×ae V}(O:T[t]?=some (.obj ps E ni))(A:6∈qs->E≠none)(z:Runs 3 835 [d7,.d (.tup (qs.map nD))] T (.d (.eJ (N.map sD) (N.map λ_=>.int 1))) T)(I:cF (n+4) (11+X.length) 755 [eb,.d (nD t)] (hs F T (X++[.lst [] .own]))=some (.d (.lst (es.map Ent.d)),hs F T' (X++[.lst [] .own])))(M:hH (.one 7) (d5 (jK.map BS.run)) ⟨cF (n+4),11+X.length⟩ (es.map Ent.d) (rS t qs N false X.length none none none none none) (hs F T' (X++[.lst [] .own]))=some (.er,rS t qs N false X.length C none none none none,hs F T' (X++[.lst (b.map Ent.d) .own])))(l:hH (.one 9) (d5 (jO.map BS.run)) ⟨cF (n+4),11+X.length⟩ (qs.map nD) (rS t qs N false X.length C (some (.d (.lst ((b.map (·.κ)).map nD)))) none none none) (hs F T' (X++[.lst (b.map Ent.d) .fz]))=some (.er,rS t qs N false X.length C (some (.d (.lst ((b.map (·.κ)).map nD)))) o.1 o.2.1 o.2.2,hs F T' (X++[.lst (b.map Ent.d) .fz]))):cF (n+5) wm 840 [eb,.d (nD t),.d (.tup (qs.map nD))] (hs F T X)=some (.d (.lst (b.map Ent.d)),hs F T' X):=by
 have f:=fV (elt:=(d' (dM 12) 11).run) (c:=⟨cF (n+4),11+X.length⟩) (e:=Ent.d) (H:=hs F T' (X++[.lst (b.map Ent.d) .fz])) (rS t qs N false X.length C none none none none) b (λe=>nD e.κ) (o:=none) (λe _=>wd []);rw[show b.map (λe=>nD e.κ)=(b.map (·.κ)).map nD from by rw[aK];rfl]at f;have z:=z (n+1) (11+X.length) F X;have G:=KY O (n+1) (11+X.length) F X;have y:=o8 (m:=6) (k:=qs);generalize(b.map (·.κ)).map nD=kl at*;generalize b.map Ent.d=s at*;generalize es.map Ent.d=a at*;have j:jk (.ref (11+X.length)) (hs F T' (X++[.lst s .own]))=some (s,hs F T' (X++[.lst s .fz])):=by simp
 have K:fin (11+X.length) (.ret (.ref (11+X.length)),[],hs F T' (X++[.lst s .fz]))=some (.d (.lst s),hs F T' X):=by simp
 have Z:=iD F X (.lst [] .own) T;clear O;by_cases h:6∈qs;.rw[aE h]at y;have P:=SE (o:=E);rw[aC (A h)]at P;exact wk nU dT [dR 3 z,sb 1 y,dR 4 G,sb 1 P,dR 0 Z,dR 2 I,mf 1 M,jY 0 j,jY 0 f,mf 1 l,dR 0 K]
 .rw[aC h]at y;exact wk nU dT [dR 3 z,sb 1 y,dR 1 Z,dR 2 I,mf 1 M,jY 0 j,jY 0 f,mf 1 l,dR 0 K]
theorem RL(G:Good (g+5) T)(ht:T[t]?=some r)(O:tD T r L ps E ni A L1 L2)(h1:∀q∈qs,∃r w,T[q]?=some r/\ek r w/\w∈R)(h2:∀w∈R,∃q∈qs,∃r,T[q]?=some r/\ek r w)(hl:qs.length<64)(l:∀w∈R,∃s∈L,s.key=w):∃(es:ab Ent)(T':ab Row),cF (n+5) wm 840 [eb,.d (nD t),.d (.tup (qs.map nD))] (hs F T X)=some (.d (.lst (es.map Ent.d)),hs F T' X)/\Good g T'/\T<+:T'/\(∀e∈es,j0 T' 0 e/\Ky T' e.κ e.s.key)/\es.map (·.s)=((ps.filter j8).map A++L1++L2).filter (λs=>decide (s.key∈R)):=by
 obtain rfl:=O.r;have K:CG T qs R:=⟨h1,h2⟩;have j:∀s∈L,wR s.key:=λs hs=>O.o.ind ((O.mem s).mp hs) (M:=λs=>wR s.key) (λz _ _ P=>.inl ⟨z.1,P.l1,P.key⟩) λq s h _=>.inr (h.imp (·.2) (·.2));have Y9:6∈qs->E≠none:=λh=>by refine d9 (l _ ((K.id G (G.at rfl) (by decide)).mp h)) λs hs y=>?_;exact O.o.ind ((O.mem s).mp hs) (M:=λs=>s.key=d0->E≠none) (λz _ _ P y=>ay (bx (P.key.symm.trans y)).1 (by decide)) (λq s h _ y=>h.elim (λh e=>ec (e.symm.trans h.1)) λh=>ay (y.symm.trans h.2) (by decide)) y
 refine Uq (xY (F:=F) (X:=X++[.lst [] .own]) (n:=n) (wm:=11+X.length) (U:=0) G ht O.o) λes T1 c1 G1 p1 OV Ux Va=>?_;refine CH (oi O Ux) λN _ Z _=>?_;have R0:∀e∈es,(e.p=none->(e.κ∈qs↔e.s.key∈R))/\(∀z,e.p=some z->(z.1∈fh [] (qs.flatMap (ue T))↔e.s.key∈R)):=λe f=>FR K G (λw hw=>d9 (l w hw) λs hs e=>e▸j s hs) (j e.s ((Z e.s).mp (ag.mpr ⟨e,f,rfl⟩))) (OV e f).1 (Va e f);have SO:∀q∈qs,q∈(es.filter (IL R)).map (·.κ):=by
  intro q hq;refine iL (h1 q hq) λr w a b c=>?_;refine d9 (l w c) λs hs y=>?_;refine d9 (ag.mp ((Z s).mpr hs)) λe f V7=>?_;have I:e.s.key=w:=by rw[V7,y]
  refine d9 (OV e f).2 λr' a' b'=>?_;rw[I]at b';obtain rfl:=b.inj b';exact ag.mpr ⟨e,aO.mpr ⟨f,aE (I▸c)⟩,G1.id a' (fQ p1 a)⟩
 refine lM (tg:=.one 7) (λC=>rS t qs (fh [] (qs.flatMap (ue T))) false X.length C none none none none) (λd=>hs F T1 (X++[.lst ((d.filter (IL R)).map Ent.d) .own])) es (λd e r o f=>xA _ (some (.d e.d)) rfl (by
  have y:=R0 e (eL f (aN _ (.head _)));have Yl:((d.filter (IL R)).map Ent.d).length<big:=by rw[f,ao]at N;rw[ak];exact aj (au (aX _ _) (au (aH _ _) N)) (by decide)
  rw[HZ];exact(R4 (n:=n+4) (wm:=11+X.length) y.1 y.2 Yl))) (s:=none) λC hf=>?_;refine lM (tg:=.one 9) (c:=⟨cF (n+4),11+X.length⟩) (e:=nD) (σ:=ae V×ae V×ae V) (λo=>rS t qs (fh [] (qs.flatMap (ue T))) false X.length C (some (.d (.lst (((es.filter (IL R)).map (·.κ)).map nD)))) o.1 o.2.1 o.2.2) (λ_=>hs F T1 (X++[.lst ((es.filter (IL R)).map Ent.d) .fz])) qs (λd q r o f=>by have hq:q∈qs:=eL f (aN _ (.head _));refine iL (h1 q hq) λr w a b c=>?_;exact xA _ (some (.d (nD q)),some (.d (LC r)),some (.d (.bool true))) rfl (Sm (oF (fQ p1 a) (λd hd=>by rw[hd]at b;exact b.1) (n+2) (11+X.length) F (X++[.lst ((es.filter (IL R)).map Ent.d) .fz])) (SO q hq))) (s:=(none,none,none)) λo YM=>?_;refine Q7 (es.filter (IL R)) T1 (Ek ht Y9 (EN (λq hq=>iL (h1 q hq) λr w a b _=>⟨r,w,a,b⟩) hl) c1 hf YM) G1 p1 (λe f=>OV e (aO.mp f).1) ?_;rw[←Ux,ada];rfl
end
section
variable{F:ab Int}{T T' T1 T2:ab Row}{X Y:ab Cell}{n wm:Nat}{H:Hp}{i κ t g q over wh:Nat}{k:ab W}{Q m ro x U J:Nat}{as:Int}{B:ab W}{kw:W}{p p':Piece}{r:Row}{L L':ab Slot}
theorem Ku(G:Good g T)(K:ShQ ek T t k):∃r,T[t]?=some r/\kc r≠7/\kc r≠14:=by
 have f:=K.lt;have c:=aw f;generalize T[t]=r at c;refine i12 r c ?_;by_cases l:t=2;.subst l;rw[G.at rfl]at c;refine so c ?_;exact⟨by decide,by decide⟩
 by_cases j:∃d,r=.jW d;.obtain⟨d,rfl⟩:=j;exact⟨by simp[kc],by simp[kc]⟩
 .refine iL (K.to t (by rw[eQ c l λd e=>j ⟨d,e⟩];simp)) λo w a b _=>?_;rw[c]at a;obtain rfl:=sI a;clear j c;rcases r with⟨⟩<;>first|exact b.elim|exact⟨by simp[kc],by simp[kc]⟩
theorem Kg(G:Good (g+40) T)(ht:T[t]?=some r)(O:tD T r L ps E ni A L1 L2)(S:jS T x 0 J B t)(K:ShQ ek T b R)(hl:(parts T b).length<64)(VH:∀w∈R,∃s∈L,s.key=w):∃t' T',cF (n+14) wm 847 [eb,.d (eM Q (-1) x m ro),.d (.tup [nD t,nD b])] (hs F T X)=some (.d (nD t'),hs F T' X)/\Good g T'/\T<+:T'/\qZ T' t' ([.obj (L.filter λs=>decide (s.key∈R))].map (eB 0 J B m ro)):=by
 refine(let γ:Prop:=_;(?_:γ));refine TV (pW G ht (show eE T r (.obj L)from⟨ps,E,ni,A,L1,L2,O⟩)) λe1 n0 n1 Δ n2=>?_;have hr:=O.r;have VJ:o9 r=true:=by rw[hr];rfl
 have c!:=xX G K;have Xt:t≠13:=Eb G ht (G.at rfl) (by rw[hr];simp);have Wl:¬(t:Int)=13:=by lia
 have N:¬(b:Int)=13:=by lia
 have hf:=λt=>iF (T:=T) (t:=t);refine j7 (Ku G K) λrb Yr _ Yi=>?_;have V4:D.eqv (gF rb) (.tup [.int 14,nD t])=some false:=by have:=vl (r:=rb) (s:=.ib t);rw[show gF (.ib t)=.tup [.int 14,nD t]from rfl]at this;rw[this,aC];intro e;subst e;exact Yi rfl
 refine C5 (RL (F:=F) (X:=X) (n:=n+8) (wm:=11+X.length) (G.le ((aV _))) ht O (λq hq=>by obtain⟨r,w,a,b,c⟩:=K.to q hq;exact⟨r,w,a,b,c⟩) (λw hw=>by obtain⟨q,hq,r,a,b⟩:=K.mC w hw;exact⟨q,hq,r,a,b⟩) hl VH) λes T1 c1 G1 p1 OV z=>?_;have px:=vn (Q:=Q) (as:=-1) (m:=m) (ro:=ro) G1 (S.pre p1) (j:=t) (.inl rfl);obtain⟨P,o⟩:=(show∃P:ab Ent,P.map (·.s)=(ps.filter j8).map A++L1++L2 from⟨((ps.filter j8).map A++L1++L2).map λs=>⟨0,none,none,s⟩,by simp[a9]⟩);refine CH (oi O o) λhlen M I Z=>?_;rw[o]at M I Z;have y:∀{l:ab Slot},oo l->oo (l.filter λs=>decide (s.key∈R)):=by intro l h;refine⟨?_,λs hs=>h.2 s (aO.mp hs).1⟩;have:=h.1;rw[abh,bU]at this⊢;exact cp _ this
 have C:=y Z;have XC:es.length<=7:=by have h3:=ah bq z;have h4:=aX (λs=>decide (s.key∈R)) ((ps.filter j8).map A++L1++L2);have h5:=ah bq o;simp only[ak]at h3 h5;lia
 have UR:rf (es.map (·.s))<=5:=by
  rw[z];unfold rf at M⊢;refine au ?_ M;refine sY List.filter_filter ?_;have:∀l:ab Slot,(l.filter λa=>decide (a.sign<2)&&decide (a.key∈R)).length<=(l.filter λs=>decide (s.sign<2)).length:=by intro l;induction l with|nil=>simp|cons a l ih=>by_cases h1:a.sign<2<;>by_cases h2:a.key∈R<;>simp[h1,h2]<;>omega
  exact this _
 refine jt (wx (F:=F) (X:=X) (n:=n+1) (wm:=11+X.length) (Q:=Q) (m:=m) (ro:=ro) (g:=g) (J:=J) (B:=B) (x:=x) (G1.le (by lia)) OV (.inl rfl) (.inl rfl) ((sY z C)) (by lia) UR) λt' T' c2 G2 p2 y1=>?_;refine d9 y1 λr' Tz PC=>?_;refine jR t' T' ⟨?_,G2,p1.trans p2,pa G2 Tz (λp hp=>?_) (by simp) oJ.QA (by simp)⟩;.have hd:decide ((0:Nat)=0)=true:=rfl;exact wk lQ dT [dR 5 (hf t (n+12) (11+X.length) F X),dR 4 (hf b (n+12) (11+X.length) F X),sb 1 (eA Wl),sb 2 (eA N),dR 3 ((kL ht VJ) (n+12) (11+X.length) F X),dR 3 ((xd G K) (n+11) (11+X.length) F X),sv 5 (fR F X Yr),sb 5 V4,sb 1 (eA (show¬(t:Int)=0from by lia)),dR 6 ((nG K.lt) (n+12) (11+X.length) F X),dR 1 c1,dR 7 (px (n+11) (11+X.length) F X),dR 1 c2,dR 0 (dU F X (nD t') T')]
 .simp only[ar,bF,af,ai,a5]at hp;subst hp;have:gJ ((es.map (·.s)).map (et 0 J B m ro))=gJ ((L.filter λs=>decide (s.key∈R)).map (et 0 J B m ro)):=by
   rw[z];refine nE ?_ ?_ λs=>?_;.rw[aK];simp only[a9,fy];exact C.1
   .rw[aK];simp only[a9,fy];exact(y O.names).1
   .simp only[ag (f:=et 0 J B m ro),aO,I]
  show gW T' r' (.obj (gJ (aap _ (L.filter _))));rw[←this];exact PC
theorem Ll(b:T[Q]?=some (.ib t))(c:∀wm,cF (n+14) wm 800 [eb,.d (eM Q as x m ro),.d (nD t),.d (nD t)] (hs F T X)=some (.d (nD t'),hs F T' X)):cF (n+15) wm 854 [eb,.d (eM Q as x m ro)] (hs F T X)=some (.d (nD t'),hs F T' X):=by
 have f:∀n wm F X,cF (n+1) wm 586 [d7,.d (eM Q as x m ro)] (hs F T X)=some (.d (.tup []),hs F T X):=by intro n wm F X;exact wk sC dT [sv 4 (fR F X b),dR 5 (dU F X (D.tup []) T)]
 have e:∀n wm F X,cF (n+1) wm 645 [eb,.d (eM Q as x m ro)] (hs F T X)=some (.d (nD t),hs F T X):=by intro n wm F X;exact wk lu dT [sv 5 (fR F X b),dR 7 (dU F X (nD t) T)]
 exact wk nX dT [dR 3 (f (n+13) (11+X.length) F X),dR 5 (e (n+13) (11+X.length) F X),dR 8 ((λt=>iF (T:=T) (t:=t)) t (n+13) (11+X.length) F X),dR 1 (c (11+X.length)),dR 0 (dU F X (nD t') T')]
theorem Kn(f:T[Q]?=some (.inter a b))(c:T[a]?=some (.ib t))(e:∀wm,cF (n+14) wm 847 [eb,.d (eM Q as x m ro),.d (.tup [nD t,nD b])] (hs F T X)=some (.d (nD t'),hs F T' X)):cF (n+15) wm 854 [eb,.d (eM Q as x m ro)] (hs F T X)=some (.d (nD t'),hs F T' X):=by
 have j:∀n wm F X,cF (n+1) wm 586 [d7,.d (eM Q as x m ro)] (hs F T X)=some (.d (.tup [nD t,nD b]),hs F T X):=by intro n wm F X;exact wk sC dT [sv 4 (fR F X f),sv 11 (fR F X c),sv 11 (fR F X c),dR 8 (dU F X (D.tup [nD t,nD b]) T)]
 exact wk nX dT [dR 3 (j (n+13) (11+X.length) F X),dR 6 (e (11+X.length)),dR 0 (dU F X (nD t') T')]
theorem Jd(e:T[Q]?=some r)(s:kc r≠7)(f:kc r≠14)(j:∀wm,cF (n+14) wm 814 [eb,.d (eM Q as x m ro)] (hs F T X)=some (.d (nD t'),hs F T' X)):cF (n+15) wm 854 [eb,.d (eM Q as x m ro)] (hs F T X)=some (.d (nD t'),hs F T' X):=by
 have c:¬(kc r:Int)=7:=by lia
 have b:¬(kc r:Int)=14:=by lia
 have o:∀n wm F X,cF (n+1) wm 586 [d7,.d (eM Q as x m ro)] (hs F T X)=some (.d (.tup []),hs F T X):=by intro n wm F X;exact wk sC dT [sv 4 (fR F X e),sv 1 (show fZ (V.d (gF r)) (D.int 0) (hs F T X)=some (V.d (D.int ↑(kc r)))by simp),sb 1 (E9 c),dR 1 (dU F X (D.tup []) T)]
 have l:∀n wm F X,cF (n+1) wm 645 [eb,.d (eM Q as x m ro)] (hs F T X)=some (.d (.int (-1)),hs F T X):=by intro n wm F X;exact wk lu dT [sv 5 (fR F X e),sv 1 (show fZ (V.d (gF r)) (D.int 0) (hs F T X)=some (V.d (D.int ↑(kc r)))by simp),sb 1 (eA b),dR 1 (dU F X (D.int (-1)) T)]
 exact wk nX dT [dR 3 (o (n+13) (11+X.length) F X),dR 5 (l (n+13) (11+X.length) F X),dR 5 (j (11+X.length)),dR 0 (dU F X (nD t') T')]
end
section
variable{F:ab Int}{T T' T1 T2:ab Row}{X Y:ab Cell}{n wm:Nat}{H:Hp}{k:ab W}
theorem EB(a b:Nat):abV (a:Int) (b:Int)=((a%b:Nat):Int):=by rw[dJ _ ((cK _))];lia
theorem EX(a b:Nat):agV (a:Int) (b:Int)=((a/b:Nat):Int):=by rw[Int.fdiv_eq_ediv_of_nonneg _ (by lia)];lia
theorem o5{a b:Nat}(h:0<b):fv .Mod (.int (a:Int)) (.int (b:Int))=some (nD (a%b)):=by show(if(0:Int)<b then some (D.int (abV a b))else none)=_;rw[aW (show(0:Int)<b from bh.mpr h),EB]
theorem ip{a b:Nat}(h:0<b)(d:b<1073741824)(c:a<1073741824):fv .FloorDiv (.int (a:Int)) (.int (b:Int))=some (nD (a/b)):=by show(if 0<(b:Int)/\(b:Int)<1073741824/\(a:Int).natAbs<1073741824then some (D.int (agV a b))else none)=_;rw[aW (⟨bh.mpr h,bh.mpr d,c⟩),EX]
@[simp]theorem Hd{a:Nat}:fv .Mod (.int (a:Int)) (.int 3)=some (nD (a%3)):=o5 (by decide)
@[simp]theorem uW{a:Nat}:fv .Mod (.int (a:Int)) (.int 2)=some (nD (a%2)):=o5 (by decide)
@[simp]theorem Mn{a:Nat}:fv .Mod (.int (a:Int)) (.int 4)=some (nD (a%4)):=o5 (by decide)
@[simp]theorem zh{a:Nat}:fv .Mod (.int (a:Int)) (.int 10)=some (nD (a%10)):=o5 (by decide)
@[simp]theorem Pf{a:Nat}:fv .Mod (.int (a:Int)) (.int 40)=some (nD (a%40)):=o5 (by decide)
theorem Gf{a b:Nat}(e:a<1073741824)(f:b<1073741824):fv .Mult (.int (a:Int)) (.int (b:Int))=some (nD (a*b)):=by
 have c:(a:Int).natAbs<2^30:=by simp;lia
 have d:(b:Int).natAbs<2^30:=by simp;lia
 exact aW ⟨c,d⟩
theorem tn{a b:Nat}:fv .Add (.int (a:Int)) (.int (b:Int))=some (nD (a+b)):=by show some (D.int _)=_;congr 2
theorem gE(h:a.length+b.length<=big):fv .Add (sD a) (sD b)=some (sD (a++b)):=by show(if(S a).length+(S b).length<=big then some (D.str (S a++S b))else none)=some (D.str (S (a++b)));simp[h]
theorem GD:∀{k:ab W},aas (S R) (k.map S)=S (gf R k)|[]=>rfl|[w]=>rfl|w::v::r=>by have:=GD (R:=R) (k:=v::r);simp only[ar]at this⊢;simp only[aas,gf,this,Tx]
theorem A':∀{k:ab W}{a:Nat},(∀w∈k,w.length<=m)->(k.map S).foldl (λa p=>a+p.length+(S R).length) a<=a+k.length*(m+R.length)|[],a,_=>by simp|w::k,a,h=>by have:=A' (R:=R) (k:=k) (a:=a+w.length+R.length) λx b=>h x (by simp[b]);have c:=h w (by simp);simp only[ar,List.foldl_cons,BF,bf]at this⊢;lia
theorem Ew(h:∀w∈k,w.length<=m)(f:k.length*(m+R.length)<=big):fJ M c (.d (sD R)) 104 [.d (eF k)] H=some (.d (sD (gf R k)),H):=by
 have g:=A' (R:=R) (a:=0) h;have e:=iM (R:=R) h;have b:(k.map S).foldl (λa p=>a+p.length+(S R).length) 0<=big:=by lia
 rw[BF]at b;show((strsOf (k.map sD)).bind λG=>if 104=104/\G.foldl (λa p=>a+p.length+(S R).length) 0<=big/\(aas (S R) G).length<=big then some (V.d (.str (aas (S R) G)),H)else none)=_;rw[n3,bj,GD,aW ⟨rfl,by rw[BF];exact b,by rw[BF];exact au e f⟩]
theorem Ic(h:∀w∈k,w.length<=m)(b:k.length*(m+1)<=big):cF (n+1) wm 950 [.d (eF k)] H=some (.d (sD (iR k)),H):=by induction k using aS with|nil=>exact wk su rfl [dR 1 (eT (D.str (aa "never")) H)]|cons a k=>generalize(a::k).map sD=l at*;exact wk su rfl [dR 3 ((λc=>Ew (M:=dP) (c:=c) (H:=H) (R:=[124]) h (b)) {call:=cF n,wm:=bq H}),dR 0 (eT (sD (gf [124] (a::k))) H)]
noncomputable def KB(k:ab W):Prop:=k.length<=10/\∀w∈k,mG w
theorem KB.j(c:KB a)(hb:KB b):cF (n+1) wm 943 [.d (.lst [eF a,eF b])] H=some (.d (eF (ei [a,b])),H):=vU (Z:=[a,b]) (by have:=c.1;have:=hb.1;simp;lia) (by simp only[af,ai,a5,aae,cG];exact⟨c.2,hb.2⟩)
theorem VL:KB [d6]:=⟨by decide,by simp only[af,ai,a5,cG];exact⟨_,_,rfl,by decide⟩⟩
theorem WC:KB [gy]:=⟨by decide,by simp only[af,ai,a5,cG];exact⟨_,_,rfl,by decide⟩⟩
theorem Hm(h:KB k):cF (n+1) wm 943 [.d (.lst [eF k,.lst [sD d6]])] H=some (.d (eF (ei [k,[d6]])),H):=h.j VL
theorem WN(h:KB k):cF (n+1) wm 943 [.d (.lst [eF k,.lst [sD gy]])] H=some (.d (eF (ei [k,[gy]])),H):=h.j WC
theorem Ub:f6 .NotEq (sD w) (.d (sD v)) H=some (decide (w≠v)):=by show some (!(decide (S w=S v)))=_;simp
theorem PT(h:KB k):cF (n+2) wm 1000 [.d (eF k),.d (nD C),.d (.bool N)] H=some (.d (.tup [eF (gQ (C%3) k N).1,nD (gQ (C%3) k N).2]),H):=by
 have g:=Hm (n:=n) (wm:=H.length) (H:=H) h;have j:=gB (elt:=(dM 3).run) (cs:=(gi [TE (dS .NotEq (dM 3) (dN (sD d6)))]).run) (c:=⟨cF (n+1),H.length⟩) (H:=H) [some (.d (eF k)),some (.d (nD C)),some (.d (.bool N))] k (λw=>decide (w≠d6)) sD (o:=none) (λw _=>by have e:=Ub (w:=w) (v:=d6) (H:=H);generalize decide (w≠d6)=b at*;rcases b with⟨⟩<;>exact wb [sb 1 e]) (λw _ _=>rfl);unfold gQ hQ;have f:C%3=0\/C%3=1\/C%3=2:=by lia
 generalize l:k.filter (λw=>decide (w≠d6))=i at*;rcases f with f|f|f<;>rcases N with⟨⟩;.exact(wk (r:=(V.d (D.tup [eF k,D.int 0]),H)) je rfl [sd 2 (show fv cX (nD C) (D.int 3)=some (D.int 0)by simp[f]),sd 5 (show fv cX (nD C) (D.int 3)=some (D.int 0)by simp[f]),dR 7 (eT (D.tup [eF k,D.int 0]) H)]).trans (by simp[f])
 .exact(wk (r:=(V.d (D.tup [eF (ei [k,[d6]]),D.int 1]),H)) je rfl [sd 2 (show fv cX (nD C) (D.int 3)=some (D.int 0)by simp[f]),sd 5 (show fv cX (nD C) (D.int 3)=some (D.int 0)by simp[f]),dR 8 g,dR 2 (eT (D.tup [eF (ei [k,[d6]]),D.int 1]) H)]).trans (by simp[f])
 .exact(wk (r:=(V.d (D.tup [eF (ei [k,[d6]]),D.int 1]),H)) je rfl [sd 2 (show fv cX (nD C) (D.int 3)=some (D.int 1)by simp[f]),dR 7 g,dR 2 (eT (D.tup [eF (ei [k,[d6]]),D.int 1]) H)]).trans (by simp[f])
 .exact(wk (r:=(V.d (D.tup [eF (ei [k,[d6]]),D.int 1]),H)) je rfl [sd 2 (show fv cX (nD C) (D.int 3)=some (D.int 1)by simp[f]),dR 7 g,dR 2 (eT (D.tup [eF (ei [k,[d6]]),D.int 1]) H)]).trans (by simp[f])
 .exact(wk (r:=(V.d (D.tup [eF k,D.int 0]),H)) je rfl [sd 2 (show fv cX (nD C) (D.int 3)=some (D.int 2)by simp[f]),sd 5 (show fv cX (nD C) (D.int 3)=some (D.int 2)by simp[f]),dR 6 (eT (D.tup [eF k,D.int 0]) H)]).trans (by simp[f])
 .exact(wk (r:=(V.d (D.tup [D.lst (aap sD i),D.int 0]),H)) je rfl [sd 2 (show fv cX (nD C) (D.int 3)=some (D.int 2)by simp[f]),sd 5 (show fv cX (nD C) (D.int 3)=some (D.int 2)by simp[f]),jY 5 j,dR 2 (eT (D.tup [D.lst (aap sD i),D.int 0]) H)]).trans (by simp[f])
theorem FY(c:C<9):cF (n+1) wm 1007 [.d (nD C),.d (nD y)] H=some (.d (nD (mD (C/3) y)),H):=by
 have hd:fv .FloorDiv (.int (C:Int)) (.int 3)=some (nD (C/3)):=ip (by decide) (by decide) (by lia);have b:C/3=0\/C/3=1\/C/3=2:=by lia
 rcases b with b|b|b<;>rw[b]at hd⊢;.exact wk oq rfl [sd 5 hd,dR 2 (eT (nD y) H)]
 .exact wk oq rfl [sd 5 hd,dR 2 (eT (D.int 1) H)]
 .exact wk oq rfl [sd 5 hd,dR 2 (eT (D.int 0) H)]
theorem w_next(g:0<m):∃(d:Nat)(c:ab Int),cF (n+1) wm 938 [.ref 0,.d (nD m)] (hs F T X)=some (.d (nD d),hs c T X)/\d<m:=by
 induction F using aS with
 |nil=>exact jR 0 [] ⟨by exact wk s5 dT [dR 1 (dU [] X (D.int 0) T)],g⟩|cons f F=>
  have b:(0:Int)<m:=by lia
  have i:0<=abV f m:=by rw[dJ _ (by lia)];exact Int.emod_nonneg _ (by lia)
  have j:abV f m<m:=by rw[dJ _ (by lia)];exact Int.emod_lt_of_pos _ b
  have e:fv .Mod (.int f) (.int (m:Int))=some (nD (abV f m).toNat):=by refine(aW b).trans ?_;congr 2;omega
  refine jR ((abV f m).toNat) F ⟨?_,by omega⟩;exact wk s5 dT [sd 6 e,dR 0 (dU F X (nD (f.fmod ↑m).toNat) T)]
end
section
variable{F:ab Int}{T T' T1 T2:ab Row}{X Y:ab Cell}{n wm t g:Nat}{H:Hp}{k:ab W}{r:Row}{L:ab Slot}{p:Piece}
noncomputable def fG:Piece->D|.prim w=>.tup [sD w,.lst [],.int 0]|.obj L=>.tup [sD [123],.lst (L.map fE),.int 0]|.lst L ro=>.tup [sD [91],.lst (L.map fE),nD ro]
structure jC(s:Slot):Prop where
 kl:s.kind.length<=6
 kw:∀w∈s.kind,w.length<=80
 key:s.key.length<=12
 sign:s.sign<=2
 held:s.held<=3
theorem eO:big=1048576:=rfl
theorem vM(Z:jC s):(iR s.kind).length<=486:=by
 unfold iR;split;.decide
 .have:=iM (R:=[124]) Z.kw;have b:s.kind.length*(80+([124]:W).length)<=6*(80+([124]:W).length):=cq _ Z.kl;simp only[bf,bQ]at this b⊢;lia
theorem A9(Z:jC s):cF (n+1) wm 950 [.d (eF s.kind)] H=some (.d (sD (iR s.kind)),H):=Ic Z.kw (by have:s.kind.length*(80+1)<=6*81:=cq _ Z.kl;rw[eO];lia)
theorem vD(s:Nat):(mF s).length<=1:=by unfold mF;split<;>simp
theorem HR(s:Nat):(qL s).length<=3:=by unfold qL;split<;>simp
theorem Gn(s:Nat):(heldW s).length<=16:=by unfold heldW;split<;>simp
theorem Si(h:s<=2):([D.str (S []),.str (S []),.str (S [46,46,46])]:ab D)[s]?=some (sD (qL s)):=by
 have:s=0\/s=1\/s=2:=by lia
 rcases this with rfl|rfl|rfl<;>rfl
theorem MR(h:s<=2):([D.str (S []),.str (S [63]),.str (S [])]:ab D)[s]?=some (sD (mF s)):=by
 have:s=0\/s=1\/s=2:=by lia
 rcases this with rfl|rfl|rfl<;>rfl
theorem Ti(h:s<=3):([D.str (S []),.str (S BB),.str (S QH),.str (S (BB++QH))]:ab D)[s]?=some (sD (heldW s)):=by
 have:s=0\/s=1\/s=2\/s=3:=by lia
 rcases this with rfl|rfl|rfl|rfl<;>rfl
theorem Ms(f:Slot->W)(h:∀s∈L,eD elt c [a0,a1,a2,a3,a4,some (.d (sD s.key)),some (.d (eF s.kind)),some (.d (nD s.sign)),some (.d (nD s.held))] H=some (sD (f s),H)):fa elt (.many [5,6,7,8]) (gO []) c (L.map fE) [a0,a1,a2,a3,a4,none,none,none,none] H=some ((L.map f).map sD,H):=by rw[aK];exact zu [a0,a1,a2,a3,a4] (λs=>sD (f s)) (λs=>[some (.d (sD s.key)),some (.d (eF s.kind)),some (.d (nD s.sign)),some (.d (nD s.held))]) (λ_ _=>rfl) L (λ_=>rfl) h
theorem uy(Z:jC s):(jT s).length<=600:=by have:=vM Z;have:=vD s.sign;have:=HR s.sign;simp[jT];lia
theorem um(Z:jC s):(qS s).length<=600:=by have:=vM Z;have:=vD s.sign;have:=Gn s.held;have:=Z.key;simp[qS];lia
theorem Bw(hs:R.length=1)(h:∀s∈L,(f s).length<=600)(d:L.length<=10):(gf R (L.map f)).length<=6010:=by
 have b:=iM (R:=R) λw c=>by obtain⟨s,hs,rfl⟩:=ag.mp c;exact h s hs
 simp only[hs,ak]at b;lia
theorem nF(j:∀s∈L,jC s)(q:L.length<=10)(C:ro<=1):cF (n+2) wm 1012 [.d (.tup [sD [91],.lst (L.map fE),nD ro])] H=some (.d (sD (eV (.lst L ro))),H):=by
 have l:=Ms (H:=H) (elt:=(el .Add (el .Add (dQ (d8 [(dN (.str (aa ""))),(dN (.str (aa ""))),(dN (.str (aa "...")))]) (dM 7)) (dO 950 [(dM 6)])) (dQ (d8 [(dN (.str (aa ""))),(dN (.str (aa "?"))),(dN (.str (aa "")))]) (dM 7))).run) (c:=⟨cF (n+1),H.length⟩) (a0:=some (.d (.tup [sD [91],.lst (L.map fE),nD ro]))) (a1:=some (.d (sD [91]))) (a2:=some (.d (.lst (L.map fE)))) (a3:=some (.d (nD ro))) (a4:=none) jT (λs hs=>by have Z:=j s hs;have K:=vM Z;have N:=vD s.sign;have O:=HR s.sign;have z:=gE (a:=qL s.sign) (b:=iR s.kind) (by rw[eO];lia);have A:=gE (a:=qL s.sign++iR s.kind) (b:=mF s.sign) (by rw[eO];simp;lia);have w:=λwm=>A9 (n:=n) (wm:=wm) (H:=H) Z;have G:=uA (H:=H) (Si Z.sign);have I:=uA (H:=H) (MR Z.sign);have w:=w H.length;exact wd [sv 4 G,dR 2 w,sd 1 z,sv 5 I,sd 1 A]);have o:=λc=>Ew (M:=dP) (c:=c) (H:=H) (R:=[44]) (k:=L.map jT) (λw E=>by obtain⟨s,hs,rfl⟩:=ag.mp E;exact uy (j s hs)) (by simp only[ak,eO];have:L.length*(600+([44]:W).length)<=10*601:=cq _ q;lia);have Q:=Bw (f:=jT) (R:=[44]) rfl (λs hs=>uy (j s hs)) q;generalize P:gf [44] (L.map jT)=B at*;generalize L.map jT=J at*;generalize L.map fE=U at*;have m:ro=0\/ro=1:=by lia
 clear C;rcases m with rfl|rfl;.have y:=gE (a:=[]) (b:=[91]) (by decide);have e:=gE (a:=[91]) (b:=B) (by rw[eO];simp;lia);have i:=gE (a:=91::B) (b:=[93]) (by rw[eO];simp;lia);simp at y e i l;exact wk l0 rfl [jY 4 l,dR 10 (o {call:=cF (n+1),wm:=bq H}),sd 1 e,sd 2 i,dR 0 (eT (sD (91::(B++[93]))) H)]
 .have y:=gE (a:=BB) (b:=[91]) (by decide);have e:=gE (a:=BB++[91]) (b:=B) (by rw[eO];simp;lia);have i:=gE (a:=BB++[91]++B) (b:=[93]) (by rw[eO];simp;lia);exact wk l0 rfl [jY 4 l,dR 10 (o {call:=cF (n+1),wm:=bq H}),sd 1 e,sd 2 i,dR 0 (eT (sD (114::101::97::100::111::110::108::121::32::91::(B++[93]))) H)]
theorem BJ(e:∀s∈L,jC s)(i:L.length<=10):cF (n+2) wm 1012 [.d (.tup [sD [123],.lst (L.map fE),.int 0])] H=some (.d (sD (eV (.obj L))),H):=by have q:=Ms (H:=H) (elt:=(el .Add (el .Add (el .Add (el .Add (dQ (d8 [(dN (.str (aa ""))),(dN (.str (aa "readonly "))),(dN (.str (aa "method "))),(dN (.str (aa "readonly method ")))]) (dM 8)) (dM 5)) (dQ (d8 [(dN (.str (aa ""))),(dN (.str (aa "?"))),(dN (.str (aa "")))]) (dM 7))) (dN (.str (aa ":")))) (dO 950 [(dM 6)])).run) (c:=⟨cF (n+1),H.length⟩) (a0:=some (.d (.tup [sD [123],.lst (L.map fE),.int 0]))) (a1:=some (.d (sD [123]))) (a2:=some (.d (.lst (L.map fE)))) (a3:=some (.d (.int 0))) (a4:=none) qS (λs hs=>by have Z:=e s hs;have J:=vM Z;have K:=vD s.sign;have N:=Gn s.held;have O:=Z.key;have j:=gE (a:=heldW s.held) (b:=s.key) (by rw[eO];lia);have l:=gE (a:=heldW s.held++s.key) (b:=mF s.sign) (by rw[eO];simp;lia);have m:=gE (a:=heldW s.held++s.key++mF s.sign) (b:=[58]) (by rw[eO];simp;lia);have o:=gE (a:=heldW s.held++s.key++mF s.sign++[58]) (b:=iR s.kind) (by rw[eO];simp;lia);have w:=λwm=>A9 (n:=n) (wm:=wm) (H:=H) Z;have A:=uA (H:=H) (Ti Z.held);have C:=uA (H:=H) (MR Z.sign);have w:=w H.length;exact wd [sv 5 A,sd 2 j,sv 5 C,sd 1 l,sd 2 m,dR 2 w,sd 1 o]);have y:=λc=>Ew (M:=dP) (c:=c) (H:=H) (R:=[59]) (k:=L.map qS) (λw z=>by obtain⟨s,hs,rfl⟩:=ag.mp z;exact um (e s hs)) (by simp only[ak,eO];have:L.length*(600+([59]:W).length)<=10*601:=cq _ i;lia);have Q:=Bw (f:=qS) (R:=[59]) rfl (λs hs=>um (e s hs)) i;generalize P:gf [59] (L.map qS)=B at*;generalize L.map qS=I at*;generalize L.map fE=U at*;have E:=gE (a:=[123]) (b:=B) (by rw[eO];simp;lia);have G:=gE (a:=123::B) (b:=[125]) (by rw[eO];simp;lia);exact wk l0 rfl [jY 7 q,dR 3 (y {call:=cF (n+1),wm:=bq H}),sd 1 E,sd 2 G,dR 0 (eT (sD (123::(B++[125]))) H)]
theorem Jx(c:w≠[91])(e:w≠[123]):cF (n+2) wm 1012 [.d (.tup [sD w,a,b])] H=some (.d (sD w),H):=wk l0 rfl [sb 1 (show f6 ac5 (sD w) (V.d (D.str (aa "["))) H=some false by simp[c]),sb 2 (show f6 ac5 (sD w) (V.d (D.str (aa "{"))) H=some false by simp[e]),dR 1 (eT (sD w) H)]
end
section
variable{F:ab Int}{T T' T1 T2:ab Row}{X Y:ab Cell}{n wm t g:Nat}{H:Hp}{k:ab W}{r:Row}{L:ab Slot}{p:Piece}
theorem vm(h:Z.length<64):fJ M c (.ref (11+X.length)) 100 [.d v] (hs F T (X++[.lst Z .own]))=some (.d .fS,hs F T (X++[.lst (Z++[v]) .own])):=sf (by rw[eO];lia)
theorem Q4{L:ab Cell}:rE v (.ref (11+X.length)) (hs F T (X++.lst Z md::L))=D.has v Z:=TB gq
theorem KL{L:ab Cell}:iw 201 [.ref (11+X.length)] (hs F T (X++.lst Z md::L))=(mL Z).map .lst:=by simp[iw,t5,jB]
noncomputable def Dh(T:ab Row)(P:Row->W->Prop)(q:Nat):W:=Classical.epsilon λw=>∃r,T[q]?=some r/\P r w
theorem B5{P:Row->W->Prop}(h:∃w r,T[q]?=some r/\P r w):∃r,T[q]?=some r/\P r (Dh T P q):=Classical.epsilon_spec h
noncomputable def x1(t i:Nat)(d q:D)(N O:ae V):Loc:=[some d7,some (.d (nD t)),some (.d d),some (.d q),some (.ref (11+i)),N,O]
noncomputable def ky(F:ab Int)(T:ab Row)(X:ab Cell)(b:ab W):Hp:=hs F T (X++[.lst (b.map sD) .own])
theorem Gb(o:T[q]?=some i)(f:cF n (11+X.length) 1024 [d7,.d (gF i)] (ky F T X R)=some (.d (sD w),ky F T X R))(m:w≠fF)(l:R.length<64):d5 (j3.map BS.run) ⟨cF n,11+X.length⟩ (x1 t X.length d y (some (.d (nD q))) O) (ky F T X R)=some (.er,x1 t X.length d y (some (.d (nD q))) (some (.d (sD w))),ky F T X (fh R [w])):=by
 have b:fZ (.ref 2) (nD q) (ky F T X R)=some (.d (gF i)):=fR F (X++[.lst (R.map sD) .own]) o;have e:=Ub (w:=w) (v:=fF) (H:=ky F T X R);rw[aE m]at e;have c:f6 .NotIn (sD w) (.ref (11+X.length)) (ky F T X R)=some (!decide (w∈R)):=ah (cJ (!·)) (Q4.trans has_str);by_cases h:w∈R;.rw[aE h]at c;rw[show fh R [w]=R from aW h];exact wq [sv 3 b,dR 1 f,sb 1 e,sb 2 c]
 .rw[aC h]at c;rw[show fh R [w]=R++[w]from aZ h];have s:some (iZ dP (.ref (11+X.length)) 100 (ky F T X R))=some true:=yX;have j:fJ dP ⟨cF n,11+X.length⟩ (.ref (11+X.length)) 100 [.d (sD w)] (ky F T X R)=some (.d .fS,ky F T X (R++[w])):=by unfold ky;rw[aD];exact vm (by rw[ak];exact l)
  exact wq [sv 3 b,dR 1 f,sb 1 e,sb 2 c,sb 1 s,dR 1 j]
theorem JG(e:T[2]?=some (.key fF))(c:cF n (11+X.length) 1024 [d7,.d (gF (.key fF))] (ky F T X [])=some (.d (sD fF),ky F T X [])):d5 (j3.map BS.run) ⟨cF n,11+X.length⟩ (x1 t X.length d f (some (.d (nD 2))) O) (ky F T X [])=some (.er,x1 t X.length d f (some (.d (nD 2))) (some (.d (sD fF))),ky F T X []):=by have b:fZ (.ref 2) (nD 2) (ky F T X [])=some (.d (gF (.key fF))):=fR F (X++[.lst [] .own]) e;exact wq [sv 3 b,dR 1 c]
noncomputable def QU(t:Nat):Row->ab Nat|.jW ps=>ps|_=>[t]
theorem Lk(h:∀ps,r≠.jW ps):QU t r=[t]:=by induction r using Row.casesOn with|jW ps=>exact ay rfl (h ps)|_=>rfl
theorem Oz(m:T[t]?=some r):d5 ((nW.take 3).map BS.run) ⟨cF n,11+X.length⟩ (uD 7 [d7,.d (nD t)]) (hs F T X)=some (.er,x1 t X.length (gF r) (.tup ((QU t r).map nD)) none none,ky F T X []):=by
 have c:=fR F X m;have i:mB (hs F T X) (.lst [] .own)=some (.ref (11+X.length),ky F T X []):=iD F X (.lst [] .own) T;by_cases f:∃b,r=.jW b;.refine f.elim λb e=>?_;subst e;exact wq [sv 2 c,dR 7 i]
 .have l:kc r≠6:=λe=>f (by induction r using Row.casesOn with|jW b=>exact⟨b,rfl⟩|_=>exact xc id e rfl);rw[Lk λb e=>f ⟨b,e⟩];have j:=BH (r:=r) (H:=hs F T X);have o:=hJ l;exact wq [sv 2 c,sv 1 j,sb 1 (eA o),dR 2 i]
theorem yW(G:Good g T)(hP:tM P)(j:∀r w w',P r w->P r w'->w=w')(hd:∀r w,P r w->∀n wm F X,cF (n+d) wm 1024 [d7,.d (gF r)] (hs F T X)=some (.d (sD w),hs F T X))(S:ShQ P T t k)(hl:(parts T t).length<64)(M:∀n wm F X,cF (n+d) wm 1024 [d7,.d (gF (.key fF))] (hs F T X)=some (.d (sD fF),hs F T X)):Runs (d+1) 1031 [d7,.d (nD t)] T (.d (eF k)) T:=by
 intro n wm F X;refine sY (show n+(d+1)=(n+d)+1from rfl) ?_;have R:=S.lt;have I:=aw R;generalize T[t]=r at I;have f:∀{z:ab W}{N O:ae V},hH (.one 5) (d5 (j3.map BS.run)) ⟨cF (n+d),11+X.length⟩ ((QU t r).map nD) (x1 t X.length (gF r) (.tup ((QU t r).map nD)) none none) (ky F T X [])=some (.er,x1 t X.length (gF r) (.tup ((QU t r).map nD)) N O,ky F T X z)->mL (z.map sD)=some (k.map sD)->cF (n+d+1) wm 1031 [d7,.d (nD t)] (hs F T X)=some (.d (eF k),hs F T X):=λ{z N O}B m=>by have so:iw 201 [.ref (11+X.length)] (ky F T X z)=some (.lst (k.map sD)):=KL.trans (ah (cJ D.lst) m);have fn:fin (11+X.length) (.ret (.d (.lst (k.map sD))),[],ky F T X z)=some (.d (.lst (k.map sD)),hs F T X):=i0 F X [.lst (z.map sD) .own] (.lst (k.map sD)) T;have hA:=Oz (F:=F) (X:=X) (n:=n+d) I;refine(Ai _ _ _ _).trans (mh (b:=nW.drop 3) rfl dT hA ?_);exact wf [mf 1 B,sd 0 so,dR 0 fn]
 by_cases m:t=2;.
  subst m;have Q:k=[]:=by induction k using aS with|nil=>rfl|cons w k=>exact d9 (S.mC w (.head _)) λq c _=>kr c
  subst Q;have C:=G.at (i:=2) rfl;rw[I]at C;obtain rfl:=sI C;exact f (gV rfl (.inl rfl) (JG I (by have h:=M n (11+X.length) F (X++[.lst [] .own]);exact h)) rfl) rfl
 have c:parts T t=QU t r:=by unfold parts;rw[aZ m,I];cases r<;>rfl
 rw[←c]at f;have U:∀q∈parts T t,∃r,T[q]?=some r/\P r (Dh T P q):=λq c=>iL (S.to q c) λr w a b _=>B5 ⟨w,r,a,b⟩;have E:∀d:ab Nat,d.length<=(parts T t).length->(fh [] (d.map (Dh T P))).length<64:=λd h=>aj (au jz (by rw[ak,bQ,bS];exact h)) hl;refine lM (σ:=ae V×ae V) (λo=>x1 t X.length (gF r) (.tup ((parts T t).map nD)) o.1 o.2) (λJ=>ky F T X (fh [] (J.map (Dh T P)))) (parts T t) (λJ q rest o Z=>?_) (s:=(none,none)) λo B=>f B ?_;.refine d9 (U q (eL Z (aN _ (.head _)))) λrq B m=>?_;refine xA _ (some (.d (nD q)),some (.d (sD (Dh T P q)))) rfl ?_;rw[aD,iJ];exact Gb B (by have h:=hd rq _ m n (11+X.length) F (X++[.lst ((fh [] (J.map (Dh T P))).map sD) .own]);exact h) (hP.Uh m) (E J (by rw[Z,ao];exact aH _ _))
 .rw[nr (E _ (aV _))];refine ah (λl:ab W=>some (l.map sD)) (pN (pF ig il (vQ .nil)) S.wz.ss λw=>?_);rw[hX,lq];refine⟨λh=>?_,λQ=>.inr (ag.mpr ?_)⟩;.refine d9 (ag.mp (h.resolve_left λh=>kr h)) λq c e=>?_;refine d9 (U q c) λr1 a b=>?_;refine iL (S.to q c) λr2 w2 A K c2=>?_;rw[a]at A;obtain rfl:=sI A;rw[←e,j _ _ _ b K];exact c2
  .refine d9 (S.mC w Q) λq c y=>?_;refine d9 y λr1 a b=>?_;refine d9 (U q c) λr2 A K=>?_;rw[a]at A;obtain rfl:=sI A;exact i12 q c (j _ _ _ K b)
end
section
variable{F:ab Int}{T T' T1 T2:ab Row}{X Y:ab Cell}{n wm t g:Nat}{H:Hp}{k:ab W}{r:Row}{L:ab Slot}{p:Piece}
theorem rK:cF (n+1) wm 1024 [d7,.d (gF (.key s))] (hs F T X)=some (.d (sD s),hs F T X):=wk g9 dT [dR 7 (dU F X (sD s) T)]
theorem OE(h:ek r w):cF (n+1) wm 1024 [d7,.d (gF r)] (hs F T X)=some (.d (sD w),hs F T X):=by
 induction r using Row.casesOn with
 |key s=>rw[h.2];exact rK|bool b f=>
  obtain⟨rfl,⟨rfl,rfl⟩|⟨rfl,rfl⟩⟩:=h;.exact wk g9 dT [dR 21 (dU F X (D.str (S hK)) T)]
  .exact wk g9 dT [dR 21 (dU F X (D.str (S i9)) T)]|str s=>obtain⟨i,rfl⟩:=h;have c:=gE (a:=[34]) (b:=s) (by rw[eO];simp;lia);have e:=gE (a:=34::s) (b:=[34]) (by rw[eO];simp;lia);simp at c e;exact wk g9 dT [sd 24 c,sd 2 e,dR 0 (dU F X (sD (34::(s++[34]))) T)]|num m=>obtain⟨i,rfl⟩:=h;have:=digit (H:=hs F T X) i;exact wk g9 dT [sd 27 this,dR 0 (dU F X (sD [48+m]) T)]|_=>exact h.elim
theorem Mi(G:Good g T)(S:ShQ ek T t k)(c:(parts T t).length<64):Runs 2 1031 [d7,.d (nD t)] T (.d (eF k)) T:=yW G od (λ_ _ _ a b=>ek.det a b) (λr w h n wm F X=>OE h) S c (λn wm F X=>rK)
theorem yG(G:Good g T)(K:ShQ ek T t k):(parts T t).length<=k.length:=by
 refine wa (R:=λ(w:W)(q:Nat)=>∃r,T[q]?=some r/\ek r w) (λw q i⟨r,a,b⟩⟨j,d,e⟩=>?_) K.nd λq f=>?_;.have:=b.inj e;subst this;exact G.id a d
 .obtain⟨r,w,a,b,c⟩:=K.to q f;exact⟨w,c,r,a,b⟩
theorem QZ(b:tM P)(S:ShQ P T t k)(h:k.length<=10):KB k:=⟨h,S.mG b⟩
theorem U8(G:Good g T)(h:i8 T r w):∀n wm F X,cF (n+4) wm 1024 [d7,.d (gF r)] (hs F T X)=some (.d (sD w),hs F T X):=by
 intro n wm F X;refine(let j:Prop:=_;(?_:j));rcases h with h|⟨x,k,rfl,S,i,rfl⟩|⟨x,k,rfl,S,i,rfl⟩;.exact OE h
 .have sh:=Mi G S (by have:=yG G S;lia);have Z:jC ⟨[],k,2,0⟩:=⟨by simp;lia,λw b=>by have:=S.w9 w b;lia,by simp,by simp,by simp⟩;have N:=λn wm=>nF (n:=n) (wm:=wm) (H:=hs F T X) (L:=[⟨[],k,2,0⟩]) (ro:=1) (by simp only[af,ai,a5,cG];exact Z) (by simp) (by simp);have e:eV (.lst [⟨[],k,2,0⟩] 1)=N4 k:=by simp[eV,jT,qL,mF,gf,N4]
  rw[e]at N;exact wk g9 dT [dR 31 (sh (n+1) (11+X.length) F X),dR 9 (N (n+1) (11+X.length)),dR 0 (dU F X (sD (N4 k)) T)]
 .have sh:=Mi G S (by have:=yG G S;lia);have Z:jC ⟨[],k,0,0⟩:=⟨by simp;lia,λw b=>by have:=S.w9 w b;lia,by simp,by simp,by simp⟩;have N:=λn wm=>nF (n:=n) (wm:=wm) (H:=hs F T X) (L:=[⟨[],k,0,0⟩]) (ro:=0) (by simp only[af,ai,a5,cG];exact Z) (by simp) (by simp);rw[(show eV (.lst [⟨[],k,0,0⟩] 0)=zd k from by simp[eV,jT,qL,mF,gf,zd])]at N;have c:∀n wm,cF (n+3) wm 1019 [d7,.d (nD x),.d (.int 0)] (hs F T X)=some (.d (eF k),hs F T X):=by intro n wm;exact wk nZ dT [dR 2 (sh n (11+X.length) F X),dR 3 (dU F X (eF k) T)]
  have c:=c n (11+X.length);have f:fa (d8 [dN (D.str (aa "")),dO 1019 [dM 0,dQ (dM 4) (dN (D.int 0)),dQ (dM 4) (dN (D.int 1))],dQ (dM 4) (dN (D.int 1)),dN (D.int 0)]).run (.one 4) (gO []) ⟨cF (n+3),11+X.length⟩ [D.tup [nD x,.int 0]] [some d7,some (.d (gF (.tup [(x,0)] 0))),none,none,none] (hs F T X)=some ([.tup [sD [],eF k,.int 0,.int 0]],hs F T X):=uX rfl (wd [dR 8 c]);exact wk g9 dT [jY 34 f,dR 5 (N (n+1) (11+X.length)),dR 0 (dU F X (sD (zd k)) T)]
theorem A8(G:Good g T)(K:Kd T t k):Runs 5 1031 [d7,.d (nD t)] T (.d (eF k)) T:=yW G Ce (λ_ _ _ a b=>i8.det a b) (λr w h=>U8 G h) K.toShQ (by have:=K.p5;lia) (λn wm F X=>rK)
theorem Kd.KB(K:Kd T t k):KB k:=QZ Ce K.toShQ (by have:=K.l5;lia)
theorem M9(G:Good g T)(K:Seen T t (decide (b=1)) k):Runs 6 1019 [d7,.d (nD t),.d (nD b)] T (.d (eF k)) T:=by
 refine d9 (K) λc K0 f=>?_;subst f;intro n wm F X;have sh:=A8 G K0;by_cases h:b=1;.subst h;exact wk nZ dT [dR 2 (sh n (11+X.length) F X),dR 7 (Hm (n:=n+4) (wm:=11+X.length) (H:=hs F T X) K0.KB),dR 0 (dU F X (eF (ei [c,[d6]])) T)]
 .have e:¬(b:Int)=1:=by lia
  exact(wk (r:=(V.d (eF c),hs F T X)) nZ dT [dR 2 (sh n (11+X.length) F X),sb 1 (eA e),dR 1 (dU F X (eF c) T)]).trans (by simp[h])
theorem Seen.z(K:Seen T t o k):k.length<=6/\(∀w∈k,w.length<=80)/\∀w∈k,mG w:=by
 obtain⟨k0,K0,rfl⟩:=K;have i:=K0.l5;have e:=K0.toShQ.YP;have f:=K0.toShQ.mG Ce;rcases o with⟨⟩;.exact⟨by simp;lia,e,f⟩
 .have hm:∀w∈ei [k0,[d6]],w∈k0++[d6]:=by
   intro w c;rw[eP]at c;refine d9 (c.1) λl d b=>?_;replace d:=QI d;rcases d with rfl|rfl;.simp[b]
   .simp at b;simp[b]
  refine⟨?_,λw c=>?_,λw c=>?_⟩;.have:=len_sub (SS.nd g6) hm;simp at this⊢;lia
  .rcases aJ.mp (hm w c)with q|q;.exact e w q
   .simp at q;rw[q];decide
  .rcases aJ.mp (hm w c)with q|q;.exact f w q
   .simp at q;rw[q];exact⟨_,_,rfl,by decide⟩
theorem ia.z{p:l6}(h:ia T p s):jC s:=by refine pn (h.seen.z) λa b _=>?_;exact⟨a,b,by rw[h.key];simp[h.l1],by rw[h.sign];lia,by rw[h.held];lia⟩
theorem kX.z(h:kX T q s)(hk:s.key.length<=12):jC s:=by refine pn ((show Seen T q.1 false s.kind from⟨_,h.kd,rfl⟩).z) λa b _=>?_;exact⟨a,b,hk,by rw[h.sign];lia,by rw[h.held];have:=h.le;lia⟩
theorem gH.z(h:gH T i e s)(c:e.2<=2):jC s:=by refine pn (h.seen.z) λa b _=>?_;exact⟨a,b,by rw[h.key];simp,(sY h.sign c),by rw[h.held];lia⟩
theorem mx.z(o:mx T ps E ni A b c):∀s∈(ps.filter j8).map A++b++c,jC s:=λs hs=>o.ind hs (λz _ _ P=>P.z) λq s h x=>x.z (by rcases h with h|h<;>rw[h.2]<;>decide)
theorem AO:∀{c d:Type}{a:ab c}{b:ab d},a.length=b.length->(a.zip b).map (·.1)=a|_,_,[],[],_=>rfl|_,_,a::l,b::m,h=>by simp at h;simp[AO h]
theorem AV:∀{c d:Type}{a:ab c}{b:ab d},a.length=b.length->(a.zip b).map (·.2)=b|_,_,[],[],_=>rfl|_,_,a::l,b::m,h=>by simp at h;simp[AV h]
theorem I8{d f:Type}{a:ab d}{b:ab f}{z:d×f}(h:z∈a.zip b):∃i:Nat,a[i]?=some z.1/\b[i]?=some z.2:=by
 refine(let j:Prop:=_;(?_:j));obtain⟨i,c,e⟩:=aaN.mp h;refine i12 i ?_ ?_;.
  have:i<a.length:=by simp at c;lia
  rw[aw this,←e];simp
 .have:i<b.length:=by simp at c;lia
  rw[aw this,←e];simp
theorem ur(h:L'.map jT=L.map jT):eV (.lst L' ro)=eV (.lst L ro):=by simp[eV,h]
theorem K3(G:Good g T)(c:ro<=1)(b:s.sign=2)(K:Kd T e s.kind):cF (n+7) wm 1024 [d7,.d (gF (.arr e ro))] (hs F T X)=some (.d (sD (eV (.lst [s] ro))),hs F T X):=by have sh:=A8 G K (n+1) (11+X.length) F X;refine pn (show Seen T e false s.kind from⟨_,K,rfl⟩).z λi j _=>?_;have Z:jC ⟨[],s.kind,2,0⟩:=⟨i,j,by simp,by simp,by simp⟩;have N:=nF (n:=n+4) (wm:=11+X.length) (H:=hs F T X) (L:=[⟨[],s.kind,2,0⟩]) (ro:=ro) (λz f=>by rw[kE f];exact Z) (by simp) c;rw[ur (L':=[⟨[],s.kind,2,0⟩]) (L:=[s]) (by simp[jT,b])]at N;exact wk g9 dT [dR 31 sh,dR 9 N,dR 0 (dU F X (sD (eV (.lst [s] ro))) T)]
theorem JD(G:Good g T)(m:ro<=1)(M:mz es)(y:L.length=es.length)(I:L.length<=3)(C:∀(i:Nat)(e:Nat×Nat)(s:Slot),es[i]?=some e->L[i]?=some s->gH T i e s):cF (n+7) wm 1024 [d7,.d (gF (.tup es ro))] (hs F T X)=some (.d (sD (eV (.lst L ro))),hs F T X):=by
 have l:∀z∈es.zip L,∃i,gH T i z.1 z.2/\z.1.2<=2:=λz l=>d9 (I8 l) λi a b=>i12 i (C i _ _ a b) (M.le _ (aab a));have A:es.map g8=(es.zip L).map λz=>g8 z.1:=by
  conv=>lhs;rw[←AO y.symm]
  rw[aK];rfl
 have q:=fV (elt:=(d8 [(dN (sD [])),(dO 1019 [(dM 0),(dQ (dM 4) (dN (.int 0))),(dQ (dM 4) (dN (.int 1)))]),(dQ (dM 4) (dN (.int 1))),(dN (.int 0))]).run) (c:=⟨cF (n+6),11+X.length⟩) (e:=λz:(Nat×Nat)×Slot=>g8 z.1) (H:=hs F T X) [some d7,some (.d (gF (.tup es ro))),none,none] (es.zip L) (λz=>fE ⟨[],z.2.kind,z.2.sign,0⟩) (o:=none) (λz f=>d9 (l z f) λi E _=>by have j:=E.seen;rw[E.sign]at j⊢;exact wd [dR 8 (M9 G j n (11+X.length) F X)]);rw[←A]at q;have N:=nF (n:=n+4) (wm:=11+X.length) (H:=hs F T X) (L:=(es.zip L).map λz=>⟨[],z.2.kind,z.2.sign,0⟩) (λs hs=>by obtain⟨z,f,rfl⟩:=ag.mp hs;refine d9 (l z f) λi E B=>?_;have:=E.z B;exact⟨this.kl,this.kw,by simp,this.sign,by simp⟩) (by simp;lia) m;rw[ur (L:=L) (by
  conv=>rhs;rw[((AV y.symm).symm)]
  simp[aK,a9,jT]),aK]at N;simp only[a9]at N;generalize(es.zip L).map (λz=>fE ⟨[],z.2.kind,z.2.sign,0⟩)=J at*;exact wk g9 dT [jY 34 q,dR 5 N,dR 0 (dU F X (sD (eV (.lst L ro))) T)]
noncomputable def tP(r:Row)(i:Nat)(Q:ae V):Loc:=[some d7,some (.d (gF r)),some (.ref (11+i)),Q]
theorem Iw(G:Good g T)(P:ia T z s)(J:z.2.2.1<8)(a0:z.2.2.2=0)(hd:m.length<64):d5 (mP.map BS.run) ⟨cF (n+6),11+X.length⟩ (tP (.obj ps E ni) X.length (some (.d (mQ z)))) (hs F T (X++[.lst m .own]))=some (.er,tP (.obj ps E ni) X.length (some (.d (mQ z))),hs F T (X++[.lst (m++[fE s]) .own])):=by obtain⟨q,O,e,N⟩:=z;obtain⟨K,l,I,y⟩:=s;have j:=P.seen;have i:=P.sign;have f:=P.held;have B:=P.key;have o:=P.l1;clear P;simp only at J a0 j i f B o;subst a0 i B;rw[(Nat.mod_eq_of_lt (by lia))]at f;subst f;have A:fv .FloorDiv (nD e) (.int 8)=some (nD (e/8)):=ip (by decide) (by decide) (by lia);have C:fv .Mod (nD e) (.int 2)=some (nD (e%2)):=uW;rw[show e/8=0 by lia]at A;exact wq [sd 4 A,sb 8 (show some (iZ dP (.ref (11+X.length)) 100 (hs F T (X++[.lst m .own])))=some true from ah some (jn gq 100 dP)),sd 4 (gE (a:=[34]) (b:=q) (by rw[eO];simp;lia)),sd 2 (gE (a:=34::q) (b:=[34]) (by rw[eO];simp;lia)),sd 9 C,dR 1 (M9 G j n (11+X.length) F (X++[.lst m .own])),sd 5 C,sd 5 (show fv .FloorDiv (nD e) (.int 2)=some (nD (e/2))from ip (b:=2) (by decide) (by decide) (by lia)),dR 2 (vm (F:=F) (T:=T) (X:=X) (M:=dP) (c:=⟨cF (n+6),11+X.length⟩) (v:=fE ⟨34::(q++[34]),l,e%2,e/2⟩) hd)]
theorem HS(G:Good g T)(x:kX T q s)(b:sl.length<64):fJ dP ⟨cF (n+6),11+X.length⟩ (.ref (11+X.length)) 100 [.d (.tup [sD s.key,eF s.kind,.int 2,nD q.2])] (hs F T (X++[.lst sl .own]))=some (.d .fS,hs F T (X++[.lst (sl++[fE s]) .own])):=by rw[(show fE s=.tup [sD s.key,eF s.kind,.int 2,nD q.2]from by unfold fE;rw[x.sign,x.held];rfl)];exact vm b
theorem SA(G:Good g T)(e:r9 T dZ ni c)(d:sl.length<64):d5 (((lA.drop 9).take 1).map BS.run) ⟨cF (n+6),11+X.length⟩ (tP (.obj ps E ni) X.length Q) (hs F T (X++[.lst sl .own]))=some (.er,tP (.obj ps E ni) X.length Q,hs F T (X++[.lst (sl++c.map fE) .own])):=by
 rcases e with⟨rfl,rfl⟩|⟨q,s,rfl,rfl,k,x⟩;.rw[bF,aL];exact wq []
 .have b:=HS (F:=F) (X:=X) (n:=n) G x d;rw[k]at b;exact wq [sb 5 (show some (iZ dP (.ref (11+X.length)) 100 (hs F T (X++[.lst sl .own])))=some true from ah some (jn gq 100 dP)),dR 7 (A8 G x.kd (n+1) (11+X.length) F (X++[.lst sl .own])),dR 8 b]
theorem RS(G:Good g T)(e:r9 T d0 E c)(d:sl.length<64):d5 (((lA.drop 10).take 1).map BS.run) ⟨cF (n+6),11+X.length⟩ (tP (.obj ps E ni) X.length Q) (hs F T (X++[.lst sl .own]))=some (.er,tP (.obj ps E ni) X.length Q,hs F T (X++[.lst (sl++c.map fE) .own])):=by
 rcases e with⟨rfl,rfl⟩|⟨q,s,rfl,rfl,k,x⟩;.rw[bF,aL];exact wq []
 .have b:=HS (F:=F) (X:=X) (n:=n) G x d;rw[k]at b;exact wq [sb 5 (show some (iZ dP (.ref (11+X.length)) 100 (hs F T (X++[.lst sl .own])))=some true from ah some (jn gq 100 dP)),dR 7 (A8 G x.kd (n+1) (11+X.length) F (X++[.lst sl .own])),dR 8 b]
theorem UQ(G:Good g T)(h:gW T r p):∀n wm F X,cF (n+7) wm 1024 [d7,.d (gF r)] (hs F T X)=some (.d (sD (eV p)),hs F T X):=by
 intro n wm F X;induction p using Piece.casesOn with
 |prim w=>exact OE h.1|lst L ro=>refine lK h λB h=>?_;induction h with|arr e s m l I y key K=>rw[m,l];exact K3 G B I K|tup es m M h1 hl h3 ok=>rw[m];exact JD G B M hl (hl▸h3) ok
 |obj L=>
  obtain⟨f,E,j,A,U,N,O,C,l⟩:=h;have m:=O.r;subst m;have i:=O.o.z;rw[uC C]at i;have hZ:∀s∈L,jC s:=by intro s hs;rw[l]at hs;refine i s ?_;simp only[aJ]at hs⊢;rcases hs with(a|a)|a<;>simp[a]
  have h5:=O.o.len;have i1:=O.o.i1;have i2:=O.o.i2;have ι:U.length<=1:=i1.elim (λh=>by rw[h.2];decide) λ⟨_,_,_,h,_⟩=>by rw[h];exact aV _
  have ZZ:N.length<=1:=i2.elim (λh=>by rw[h.2];decide) λ⟨_,_,_,h,_⟩=>by rw[h];exact aV _
  have R:L.length<=10:=by rw[l];simp;lia
  have hP:∀z∈f,ia T z (A z)/\z.2.2.1<8/\z.2.2.2=0:=λz J=>⟨O.o.pr z J (by have:=C.fl z J;simp[j8];lia),C.fl z J,C.z z J⟩;refine nB (b:=mP) (tg:=.one 3) (c:=⟨cF (n+6),11+X.length⟩) (tP (.obj f E j) X.length) (λd=>hs F T (X++[.lst ((d.map A).map fE) .own])) f (λ_ _=>rfl) (λd z r he=>by have h:=hP z (eL he (aN _ (.head _)));rw[aD,aD];exact Iw G h.1 h.2.1 h.2.2 (by have:=ah bq he;simp at this⊢;lia)) (o:=none) λQ hf=>?_;have Ux:((f.map A).map fE).length<60:=by simp;lia
  have e:L.map fE=(f.map A).map fE++N.map fE++U.map fE:=by rw[l,aD,aD]
  generalize(f.map A).map fE=sl at*;have P:d5 ((lA.take 9).map BS.run) ⟨cF (n+6),11+X.length⟩ (uD 4 [d7,.d (gF (.obj f E j))]) (hs F T X)=some (.er,tP (.obj f E j) X.length Q,hs F T (X++[.lst sl .own])):=by exact wq [dR 50 (iD F X (.lst [] .own) T),mf 3 hf]
  have td:=Lr (gq (F:=F) (T:=T) (X:=X) (z:=.lst (L.map fE) .own) (L:=[]));rw[nO]at td;have Z:=RS (F:=F) (X:=X) (n:=n) G (ps:=f) (ni:=j) (Q:=Q) (sl:=sl++N.map fE) i1 (by rw[ao,ak];lia);rw[←e]at Z;have hR:d5 ((lA.drop 11).map BS.run) ⟨cF (n+6),11+X.length⟩ (tP (.obj f E j) X.length Q) (hs F T (X++[.lst (L.map fE) .own]))=some (.ret (.d (sD (eV (.obj L)))),tP (.obj f E j) X.length Q,hs F T (X++[.lst (L.map fE) .fz])):=by generalize L.map fE=q at*;exact wq [Q0 1 td,dR 2 (BJ (n:=n+4) (wm:=11+X.length) (H:=hs F T (X++[.lst (L.map fE) .fz])) hZ R)]
  rw[g9,ir rfl,dT];exact(ah (ck · (fin (11+X.length))) (gM P (gM (SA G i2 (by lia)) (gM Z hR)))).trans (i0 ..)
theorem gW.det(h:gW T r p)(h':gW T r p'):eV p=eV p':=by
 induction p with
 |prim w=>induction p' using Piece.casesOn with|prim J=>rw[h.1.det h'.1]|obj L=>obtain⟨G,E,ni,A,i,l,o,_⟩:=h';rw[o.r]at h;exact h.1.elim|lst L I=>cases h'.2with|tup q b=>rw[b]at h;exact h.1.elim|arr e s b=>rw[b]at h;exact h.1.elim
 |obj L=>
  obtain⟨G,E,ni,A,i,l,o,c,O⟩:=h;induction p' using Piece.casesOn with
  |prim J=>rw[o.r]at h';exact h'.1.elim|obj f=>
   obtain⟨Q,Z,P,U,j,m,d,a,y⟩:=h';have e:=o.r.symm.trans d.r;cases e;have K:i=j:=o.o.i1.det d.o.i1;have M:l=m:=o.o.i2.det d.o.i2;have N:=bG λz B=>by
    have C:j8 z=true:=by have:=c.fl z B;simp[j8];lia
    exact(o.o.pr z B C).det (d.o.pr z B C)
   simp only[O,y,K,M,N]|lst f I=>rw[o.r]at h';cases h'.2with|tup q b=>exact xc Row.ctorIdx b rfl|arr e s b=>exact xc Row.ctorIdx b rfl
 |lst L I=>
  induction p' with
  |prim J=>cases h.2with|tup q b=>rw[b]at h';exact h'.1.elim|arr e s b=>rw[b]at h';exact h'.1.elim
  |obj f=>obtain⟨G,E,ni,A,i,l,o,_⟩:=h';rw[o.r]at h;cases h.2with|tup q b=>exact xc Row.ctorIdx b rfl|arr e s b=>exact xc Row.ctorIdx b rfl
  |lst f R=>obtain⟨rfl,rfl⟩:=h.2.det h'.2;rfl
theorem SG(G:Good g T)(S:ShQ (rZ T) T t k)(f:(parts T t).length<64):Runs 8 1031 [d7,.d (nD t)] T (.d (eF k)) T:=yW G SF (λr w j⟨p,a,b⟩⟨i,c,e⟩=>by rw[b,e,a.det c]) (λr w⟨p,a,b⟩n wm F X=>by rw[b];exact UQ G a n wm F X) S f (λn wm F X=>rK)
end
section
variable{F:ab Int}{T T' T1 T2:ab Row}{X Y:ab Cell}{n wm t g:Nat}{H:Hp}{k:ab W}{r:Row}{L:ab Slot}{p:Piece}{U J C:Nat}{B I:ab W}{kw:W}
noncomputable def jD(U J:Nat)(B:ab W):D:=.tup [nD U,nD J,eF B]
noncomputable def FB(B:ab W):Prop:=B.length<=6/\∀w∈B,mG w/\w.length<=12
theorem FB.kb(h:FB B):KB B:=⟨by have:=h.1;lia,λw b=>(h.2 w b).1⟩
theorem LP(h:k.length<=6/\∀w∈k,mG w)(f:mG w):KB (ei [k,[w]]):=by
 have e:∀v∈ei [k,[w]],v∈k++[w]:=by
  intro v c;rw[eP]at c;refine d9 (c.1) λl d b=>?_;simp only[af,ai,a5]at d;rcases d with rfl|rfl;.simp[b]
  .simp at b;simp[b]
 refine⟨?_,λv c=>?_⟩;.have:=len_sub (SS.nd g6) e;have:=h.1;simp at*;lia
 .rcases aJ.mp (e v c)with q|q;.exact h.2 v q
  .simp at q;rw[q];exact f
theorem ZQ:mG gy:=⟨_,_,rfl,by decide⟩
theorem Bo(h:FB k):KB (oU J k):=by
 unfold oU;split;.exact⟨by simp,by simp only[af,ai,a5,cG];exact⟨_,_,rfl,by decide⟩⟩
 .exact LP ⟨h.1,λw b=>(h.2 w b).1⟩ ZQ
 .exact⟨by simp,by simp only[af,ai,a5,cG];exact⟨_,_,rfl,by decide⟩⟩
 .exact h.kb
theorem HM(b:mG kw)(c:kw.length<=12):FB [kw]:=⟨by simp,by simp only[af,ai,a5,cG];exact⟨b,c⟩⟩
theorem LX(d:FB B)(e:KB I)(b:mG kw)(c:kw.length<=12):KB (gm U J B I kw):=by
 unfold gm;split;.exact e
 .exact Bo (HM b c)
 .exact Bo d
theorem turn{b:ab BS}{r:ae (Fl×Loc×Hp)}(hs:hO tg x G=some l)(h:d5 (b.map BS.run) c l H=r):(hO tg x G).bind (UN (d5 (b.map BS.run)) c H)=r:=by rw[hs];exact h
theorem NJ(A:U<=2)(E:J<=3)(q:FB B)(o:mG kw)(l:kw.length<=12):cF (n+2) wm 1038 [.d (jD U J B),.d (sD kw),.d (eF I)] H=some (.d (eF (gm U J B I kw)),H):=by
 have z:∀{k:ab W}{e f i j Q:ae V},FB k->((d5 ((lV.drop 3).map BS.run) ⟨cF (n+1),H.length⟩ [e,f,i,j,some (.d (nD J)),Q,some (.d (eF k))] H).bind (fin H.length)=some (.d (eF (oU J k)),H)):=by
  intro k e f i j Q h;have c:=Ic (n:=n) (wm:=H.length) (H:=H) (λw c=>(h.2 w c).2) (by have:k.length*(12+1)<=6*13:=cq _ h.1;rw[eO];lia);have y:(iR k).length<=100:=by
   unfold iR;split;.decide
   .have:=iM (R:=[124]) λw c=>(h.2 w c).2;have l:k.length*(12+([124]:W).length)<=6*13:=cq _ h.1;lia
  rcases(show J=0\/J=1\/J=2\/J=3from by lia)with rfl|rfl|rfl|rfl;.exact wf [dR 9 (eT (eF k) H)]
  .exact wf [dR 5 c,sd 1 (gE (a:=[91]) (b:=iR k) (by rw[eO];simp;lia)),sd 2 (gE (a:=91::iR k) (b:=[93]) (by rw[eO];simp;lia)),dR 1 (eT (eF (oU 1 k)) H)]
  .exact wf [dR 10 (WN (n:=n) (wm:=H.length) (H:=H) h.kb),dR 0 (eT (eF (oU 2 k)) H)]
  .exact wf [dR 11 c,sd 1 (gE (a:=BB++[91,46,46,46]) (b:=iR k) (by rw[eO];simp;lia)),sd 2 (gE (a:=BB++[91,46,46,46]++iR k) (b:=[93]) (by rw[eO];simp;lia)),dR 1 (eT (eF (oU 3 k)) H)]
 rw[Ak,ir rfl];have m:∀{k},FB k->d5 ((lV.take 3).map BS.run) ⟨cF (n+1),H.length⟩ (uD 7 [.d (jD U J B),.d (sD kw),.d (eF I)]) H=some (.er,[some (.d (jD U J B)),some (.d (sD kw)),some (.d (eF I)),some (.d (nD U)),some (.d (nD J)),some (.d (eF B)),some (.d (eF k))],H)->(d5 (lV.map BS.run) ⟨cF (n+1),H.length⟩ (uD 7 [.d (jD U J B),.d (sD kw),.d (eF I)]) H).bind (fin H.length)=some (.d (eF (oU J k)),H):=λs h=>(ah (ck · (fin H.length)) (gM h rfl)).trans (z s);rcases(show U=0\/U=1\/U=2from by lia)with rfl|rfl|rfl;.exact wf [dR 3 (eT (eF I) H)]
 .refine m (HM o l) ?_;exact wq []
 .refine m q ?_;exact wq []
noncomputable def wB(isL:bt)(m:Nat)(b:ab W)(c:Nat):ab W×Nat:=if c<2then gQ m b (decide (c=1))else(if m=1then ei [b,[d6]]else if m=2/\isL=true then b.filter (λw=>decide (w≠d6))else b,c)
noncomputable def uT(U Z y:Nat):Nat:=mD Z (y%2)+(if U=0then y/2*2 else 0)
noncomputable def mr(isL:bt)(U J:Nat)(B:ab W)(m Z:Nat)(s:Slot):Slot:=⟨eZ s.key,(wB isL m (gm U J B s.kind s.key) s.sign).1,(wB isL m (gm U J B s.kind s.key) s.sign).2,uT U Z s.held⟩
theorem O3:mr false U J B m Z s=et U J B m Z s:=by unfold mr wB et uT;split<;>simp
theorem Qj:(⟨s.key,(mr true U J B m Z s).kind,(mr true U J B m Z s).sign,0⟩:Slot)=gG U J B m s:=by unfold mr wB gG qb;simp only;split<;>simp
structure tc(s:Slot):Prop where
 kb:KB s.kind
 ko:mG s.key
 kl:s.key.length<=12
 sign:s.sign<=2
 held:s.held<=3
noncomputable def DP(s:Slot):D:=.tup [eF s.kind,nD s.sign,nD s.held]
theorem z0:(H++[a,b])[H.length+1]?=some b:=Be
theorem Em:(H++[a,b]).set (H.length+1) z=H++[a,z]:=by rw[bT _ _ ((aH _ _))];simp
noncomputable def n7(G l4 Q:ae V)(U J C:Nat)(B:ab W)(isL:bt)(i:Nat)(q:Nat->ae V):Loc:=[G,some (.d (jD U J B)),some (.d (nD C)),some (.d (sD (if isL then[91]else[123]))),l4,Q,some (.ref i),some (.ref (i+1)),q 0,q 1,q 2,q 3,q 4,q 5]
noncomputable def qf(l:Loc)(i:Nat):ae V:=l.getD i none
noncomputable def iI(H:Hp)(b:ab Slot)(O:ab D):Hp:=H++[.eJ (b.map λs=>(sD s.key,DP s)) false,.lst O .own]
theorem PD(hb:U<=2)(hc:J<=3)(hf:FB B)(hm:C<9)(Z:tc s)(hr:O.length<64)(Y7:i.length<64)(hn:eZ s.key∉i.map (·.key)):∃q',(hO (.many [8,9,10,11]) (fE s) (n7 G l4 Q U J C B isL H.length q)).bind (UN (d5 (h9.map BS.run)) ⟨cF (n+2),H.length⟩ (iI H i O))=some (.er,n7 G l4 Q U J C B isL H.length q',iI H (i++[mr isL U J B (C%3) (C/3) s]) (O++[fE ⟨s.key,(mr isL U J B (C%3) (C/3) s).kind,(mr isL U J B (C%3) (C/3) s).sign,0⟩])):=by
 have hA:∀P d9,d5 ((h9.take 2).map BS.run) ⟨cF (n+2),H.length⟩ (n7 G l4 Q U J C B isL H.length (qf [some (.d (sD s.key)),some (.d (eF s.kind)),some (.d (nD s.sign)),some (.d (nD s.held)),d9,P])) (iI H i O)=some (.er,n7 G l4 Q U J C B isL H.length (qf [some (.d (sD s.key)),some (.d (eF s.kind)),some (.d (nD (mr isL U J B (C%3) (C/3) s).sign)),some (.d (nD s.held)),some (.d (eF (mr isL U J B (C%3) (C/3) s).kind)),P]),iI H i O):=by
  intro P d9;have kb:=LX (U:=U) (J:=J) hf Z.kb Z.ko Z.kl;have rd:=NJ (n:=n) (wm:=H.length) (H:=iI H i O) (I:=s.kind) hb hc hf Z.ko Z.kl;unfold mr wB;generalize gm U J B s.kind s.key=A at*;generalize iI H i O=HH at*;by_cases h2:s.sign<2;.
   rw[aW h2];have hw:decide ((s.sign:Int)=1)=decide (s.sign=1):=by congr 1;simp only[eq_iff_iff];lia
   have sl:=PT (n:=n) (wm:=H.length) (H:=HH) (C:=C) (N:=decide (s.sign=1)) kb;generalize gQ (C%3) A (decide (s.sign=1))=sw at*;obtain⟨Z',t!⟩:=sw;generalize decide (s.sign=1)=b at*;have E:=bh.mpr h2;exact wq [dR 3 rd,sb 1 (tX E),sb 4 (ah some hw),dR 1 sl]
  .rw[aZ h2];have E:¬(s.sign:Int)<2:=λe=>h2 (bh.mp e);rcases(show C%3=0\/C%3=1\/C%3=2from by lia)with QB|QB|QB<;>rw[QB]<;>have K:=Hd (a:=C)<;>rw[QB]at K;.exact wq [dR 3 rd,sb 1 (tB E),sd 3 K,sd 5 K]
   .exact wq [dR 3 rd,sb 1 (tB E),sd 3 K,dR 7 (Hm (n:=n+1) (wm:=H.length) (H:=HH) kb)]
   .rcases isL with⟨⟩;.exact wq [dR 3 rd,sb 1 (tB E),sd 3 K,sd 5 K]
    .have Ul:=gB (elt:=vc 14) (cs:=(gi [TE (dS .NotEq (dM 14) (dN (sD d6)))]).run) (c:=⟨cF (n+2),H.length⟩) (H:=HH) (n7 G l4 Q U J C B true H.length (qf [some (.d (sD s.key)),some (.d (eF s.kind)),some (.d (nD s.sign)),some (.d (nD s.held)),some (.d (eF A)),P])) A (λw=>decide (w≠d6)) sD (λw _=>by have e:=Ub (w:=w) (v:=d6) (H:=HH);generalize decide (w≠d6)=b at*;rcases b with⟨⟩<;>exact wb [sb 1 e]) (λw _ _=>rfl) (o:=none);exact wq [dR 3 rd,sb 1 (tB E),sd 3 K,sd 5 K,jY 7 Ul]
 have hB:∀z m P,d5 (((h9.drop 2).take 1).map BS.run) ⟨cF (n+2),H.length⟩ (n7 G l4 Q U J C B isL H.length (qf [some (.d (sD s.key)),some (.d (eF s.kind)),some (.d (nD m)),some (.d (nD s.held)),some (.d (eF z)),P])) (iI H i O)=some (.er,n7 G l4 Q U J C B isL H.length (qf [some (.d (sD s.key)),some (.d (eF s.kind)),some (.d (nD m)),some (.d (nD s.held)),some (.d (eF z)),P]),iI H i (O++[fE ⟨s.key,z,m,0⟩])):=by intro z m P;have ap:=nz (H:=iI H i O) (M:=dP) (c:=⟨cF (n+2),H.length⟩) (x:=fE ⟨s.key,z,m,0⟩) z0 (by decide) (bM hr (by decide));unfold iI at ap⊢;rw[Em]at ap;exact wq [sb 0 (ah some (jn (H:=H++[.eJ (i.map λs=>(sD s.key,DP s)) false,.lst O .own]) z0 100 dP)),dR 5 ap]
 have hC:∀z m P R,d5 (((h9.drop 3).take 1).map BS.run) ⟨cF (n+2),H.length⟩ (n7 G l4 Q U J C B isL H.length (qf [some (.d (sD s.key)),some (.d (eF s.kind)),some (.d (nD m)),some (.d (nD s.held)),some (.d (eF z)),P])) R=some (.er,n7 G l4 Q U J C B isL H.length (qf [some (.d (sD s.key)),some (.d (eF s.kind)),some (.d (nD m)),some (.d (nD s.held)),some (.d (eF z)),some (.d (sD (eZ s.key)))]),R):=by
  intro z m P R;refine mn Z.ko λpc rr h hp=>?_;have XP:fZ (.d (sD s.key)) (.int 0) R=some (.d (.str (S [pc]))):=by rw[h];exact Rx
  have XU:=VG (H:=R) hp;have Va:eZ s.key=bif decide (pc=48\/pc=49)then 34::(s.key++[34])else s.key:=by unfold eZ;rw[h];by_cases q:pc=48\/pc=49<;>simp[q]
  rw[Va];generalize decide (pc=48\/pc=49)=b at*;rcases b with⟨⟩;.exact wq [sv 1 XP,sb 1 XU]
  .exact wq [sv 1 XP,sb 1 XU,sd 3 (gE (a:=[34]) (b:=s.key) (by rw[eO];have:=Z.kl;simp;lia)),sd 2 (gE (a:=34::s.key) (b:=[34]) (by rw[eO];have:=Z.kl;simp;lia))]
 have hD:∀z m R,d5 ((h9.drop 4).map BS.run) ⟨cF (n+2),H.length⟩ (n7 G l4 Q U J C B isL H.length (qf [some (.d (sD s.key)),some (.d (eF s.kind)),some (.d (nD m)),some (.d (nD s.held)),some (.d (eF z)),some (.d (sD (eZ s.key)))])) (iI H i R)=some (.er,n7 G l4 Q U J C B isL H.length (qf [some (.d (sD s.key)),some (.d (eF s.kind)),some (.d (nD m)),some (.d (nD s.held)),some (.d (eF z)),some (.d (sD (eZ s.key)))]),iI H (i++[⟨eZ s.key,z,m,uT U (C/3) s.held⟩]) R):=by
  intro z m R;have W':=iC (f:=λs:Slot=>s.key) (g:=DP) (l:=i);have Vk:rE (sD (eZ s.key)) (.ref H.length) (iI H i R)=some false:=by unfold iI;rw[Fw (x:=sD (eZ s.key)) fD W',pV (f:=λs:Slot=>s.key) (g:=DP) hn];rfl
  have j:II (sD (eZ s.key)) (DP ⟨eZ s.key,z,m,uT U (C/3) s.held⟩) (.ref H.length) (iI H i R)=some (iI H (i++[⟨eZ s.key,z,m,uT U (C/3) s.held⟩]) R):=by unfold iI;rw[Dk (x:=sD (eZ s.key)) fD W' (by simp;exact bM Y7 (by decide)) (zD (f:=λs:Slot=>s.key) (g:=DP) hn)];simp
  have K:=uW (a:=s.held);have XM:=FY (n:=n+1) (wm:=H.length) (H:=iI H i R) (C:=C) (y:=s.held%2) hm;generalize eZ s.key=nm at*;unfold uT at j⊢;generalize iI H (i++_) R=E! at*;generalize iI H i R=HH at*;by_cases Pq:U=0;.subst Pq;rw[aW rfl]at j;exact wq [sb 1 Vk,sd 6 K,dR 1 XM,sd 8 (show fv .FloorDiv (nD s.held) (.int 2)=some (nD (s.held/2))from ip (b:=2) (by decide) (by decide) (by have:=Z.held;lia)),sd 2 (show fv .Mult (nD (s.held/2)) (.int 2)=some (nD (s.held/2*2))from Gf (b:=2) (by have:=Z.held;lia) (by decide)),sh 5 j]
  .rw[aZ Pq]at j;exact wq [sb 1 Vk,sd 6 K,dR 1 XM,sb 4 (eA λe=>Pq (Rt.mp e)),sh 6 j]
 exact⟨_,turn rfl (gM (hA (q 5) (q 4)) (gM (hB _ _ _) (gM (hC _ _ _ _) (hD _ _ _))))⟩
end
section
variable{F:ab Int}{T T' T1 T2:ab Row}{X Y:ab Cell}{n wm t g:Nat}{H:Hp}{k:ab W}{r:Row}{L:ab Slot}{p:Piece}{U J C:Nat}{B I:ab W}{kw:W}
theorem MN{p:Slot}:∀{l:ab Slot},(gp (λa b=>eG a.key b.key) p l).map (·.key)=gp eG p.key (l.map (·.key))
 |[]=>rfl|b::l=>by
  simp only[ar,gp];split;.rfl
  .simp only[ar,MN]
theorem qr:∀{l:ab Slot},(gJ l).map (·.key)=sortBy eG (l.map (·.key))|[]=>rfl|b::l=>by unfold gJ;refine sY MN ?_;congr 1;exact qr (l:=l)
theorem neT(h:w≠v):f6 .NotEq (sD w) (.d (sD v)) []=some true:=Ub.trans (ah some (aE h))
theorem UL:mB (H++[z1]) z2=some (.ref (H.length+1),H++[z1,z2]):=by simp[mB]
noncomputable def Ee(isL:bt)(U J:Nat)(B:ab W)(C:Nat)(s:Slot):D:=fE ⟨s.key,(mr isL U J B (C%3) (C/3) s).kind,(mr isL U J B (C%3) (C/3) s).sign,0⟩
theorem F6(o:U<=2)(y:J<=3)(z:FB B)(A:C<9)(Z:∀s∈L,tc s)(i:(L.map λs=>eZ s.key).Nodup)(K:L.length<60):∃q,hH (.many [8,9,10,11]) (d5 (h9.map BS.run)) ⟨cF (n+2),H.length⟩ (L.map fE) (n7 G l4 Q U J C B isL H.length (qf [])) (iI H [] [])=some (.er,n7 G l4 Q U J C B isL H.length q,iI H (L.map (mr isL U J B (C%3) (C/3))) (L.map (Ee isL U J B C))):=by
 refine lM (λq=>n7 G l4 Q U J C B isL H.length q) (λd=>iI H (d.map (mr isL U J B (C%3) (C/3))) (d.map (Ee isL U J B C))) L (λd s r q f=>?_) λq h=>⟨q,h⟩;have b:=ah bq f;rw[ao,bf]at b;have c:eZ s.key∉(d.map (mr isL U J B (C%3) (C/3))).map (·.key):=by rw[aK];rw[f,aD,ar,a8]at i;intro q;exact i.2.2 _ q _ (.head _) rfl
 refine(PD (n:=n) (H:=H) (isL:=isL) (G:=G) (l4:=l4) (Q:=Q) (q:=q) o y z A (Z s (eL f (aN _ (.head _)))) (O:=d.map (Ee isL U J B C)) (by rw[ak];lia) (by rw[ak];lia) c).elim λE e=>?_;refine xh e λl j m=>?_;rw[aD,aD];exact xA l E j m
noncomputable def iy:Piece->Prop|.prim w=>w≠[91]/\w≠[123]|.obj L=>(∀s∈L,tc s)/\(L.map λs=>eZ s.key).Nodup/\L.length<60|.lst L _=>(∀s∈L,tc s)/\(L.map λs=>eZ s.key).Nodup/\L.length<60
theorem Rj(h:U<=2)(a:J<=3)(hf:FB B)(O:C<9)(Z:iy p):cF (n+3) wm 1043 [.d (fG p),.d (jD U J B),.d (nD C)] H=some (.d (fG (eB U J B (C%3) (C/3) p)),H):=by
 induction p using Piece.casesOn with
 |prim w=>obtain⟨h1,h2⟩:=Z;exact wk pO rfl [sb 1 (neT h1),sb 2 (neT h2),dR 1 (eT (fG (Piece.prim w)) H)]|lst L i=>
  refine hd λ_ b=>?_;refine pn (Z) λZ z m=>?_;refine(F6 (n:=n) (H:=H) (isL:=true) (G:=some (.d (fG (.lst L i)))) (l4:=some (.d (.lst (L.map fE)))) (Q:=some (.d (nD i))) h a hf O Z z m).elim λq e=>b ?_;have e2:L.map (Ee true U J B C)=(L.map (gG U J B (C%3))).map fE:=by rw[aK];exact bG λs _=>ah fE Qj
  rw[e2]at e;show cF _ _ _ _ _=some (.d (.tup [sD [91],.lst ((L.map (gG U J B (C%3))).map fE),nD (mD (C/3) i)]),H);generalize L.map (mr true U J B (C%3) (C/3))=M at*;generalize(L.map (gG U J B (C%3))).map fE=R at*;have K:=vJ [.eJ (M.map λs=>(sD s.key,DP s)) false,.lst R .fz] (.tup [sD [91],.lst R,nD (mD (C/3) i)]) H;exact wk pO rfl [dR 4 (UL (H:=H) (z1:=.eJ [] false) (z2:=.lst [] .own)),mf 1 e,Q0 4 (show toD (.ref (H.length+1)) (iI H M R)=some (.lst R,H++[.eJ (M.map λs=>(sD s.key,DP s)) false,.lst R .fz])from(Lr z0).trans (by rw[Em])),dR 2 (FY (n:=n+1) (wm:=H.length) (H:=H++[.eJ (M.map λs=>(sD s.key,DP s)) false,.lst R .fz]) (y:=i) O),dR 1 K]|obj L=>
  refine hd λ_ b=>?_;refine pn (Z) λZ z m=>?_;refine(F6 (n:=n) (H:=H) (isL:=false) (G:=some (.d (fG (.obj L)))) (l4:=some (.d (.lst (L.map fE)))) (Q:=some (.d (.int 0))) h a hf O Z z m).elim λq e=>b ?_;rw[show mr false U J B (C%3) (C/3)=et U J B (C%3) (C/3)from funext λs=>O3]at e;have N:((L.map (et U J B (C%3) (C/3))).map (·.key)).Nodup:=by rw[aK];simp only[a9,fy];exact z
  have w!:(L.map (et U J B (C%3) (C/3))).length<60:=by rw[ak];exact m
  show cF _ _ _ _ _=some (.d (.tup [sD [123],.lst ((gJ (L.map (et U J B (C%3) (C/3)))).map fE),.int 0]),H);generalize L.map (et U J B (C%3) (C/3))=M at*;generalize L.map (Ee false U J B C)=j at*;have hs:iw 201 [.ref H.length] (iI H M j)=some (.lst ((gJ M).map (λs=>sD s.key))):=by
   have e:((M.map λs=>(sD s.key,DP s)).map (·.1))=(M.map (·.key)).map sD:=by simp[a9]
   have:=nr (k:=M.map (·.key)) (by simp;lia);unfold iI;simp only[iw,t5,zA,anyB,jB,fD,iC (f:=λs:Slot=>s.key) (g:=DP) (l:=M),acQ,adl,bj];rw[e,this,←qr,aK];rfl
  have E:=fV (elt:=(d8 [dM 14,dQ (dQ (dM 6) (dM 14)) (dN (.int 0)),dQ (dQ (dM 6) (dM 14)) (dN (.int 1)),dQ (dQ (dM 6) (dM 14)) (dN (.int 2))]).run) (c:=⟨cF (n+2),H.length⟩) (e:=λs:Slot=>sD s.key) (H:=iI H M j) (n7 (some (.d (fG (.obj L)))) (some (.d (.lst (L.map fE)))) (some (.d (.int 0))) U J C B false H.length q) (gJ M) fE (o:=none) (λs P=>by have A:fZ (.ref H.length) (sD s.key) (iI H M j)=some (.d (DP s)):=Ha fD (iC) (by rw[p8,rB N (nA.mp P)];rfl);exact wd [sv 2 A,sv 4 A,sv 4 A]);exact wk pO rfl [dR 7 (UL (H:=H) (z1:=.eJ [] false) (z2:=.lst [] .own)),mf 1 e,sd 4 hs,jY 1 E,dR 2 (show fin H.length (.ret (.d (.tup [sD [123],.lst ((gJ M).map fE),.int 0])),[],iI H M j)=some (.d (.tup [sD [123],.lst ((gJ M).map fE),.int 0]),H)from by simp[(show(iI H M j).take H.length=H from by simp[iI])])]
end
section
variable{F:ab Int}{T T' T1 T2:ab Row}{X Y:ab Cell}{n wm t g:Nat}{H:Hp}{k:ab W}{r:Row}{L:ab Slot}{p:Piece}{U J C:Nat}{B I:ab W}{kw:W}
noncomputable def LW(w:W):Prop:=w∈[fW,ea,d6,gy,d0,dZ,hK,i9]\/(∃a,a<128/\w=[34,a,34])\/∃m,m<10/\w=[48+m]
theorem LW.mG(h:LW w):mG w:=by
 rcases h with h|⟨a,_,rfl⟩|⟨m,h,rfl⟩;.simp only[af,ai,a5]at h;rcases h with rfl|rfl|rfl|rfl|rfl|rfl|rfl|rfl<;>exact⟨_,_,rfl,by decide⟩
 .exact jR _ _ ⟨rfl,by decide⟩
 .exact jR _ _ ⟨rfl,by lia⟩
theorem LW.len(h:LW w):w.length<=9:=by
 rcases h with h|⟨a,_,rfl⟩|⟨m,h,rfl⟩;.simp only[af,ai,a5]at h;rcases h with rfl|rfl|rfl|rfl|rfl|rfl|rfl|rfl<;>decide
 .simp
 .simp
theorem ta(c:D.has (sD w) [sD fW,sD ea,sD fF,sD [118,111,105,100],sD d6,sD gy,sD d0,sD dZ,sD hK,sD i9,sD [111,98,106,101,99,116]]=some true)(e:kn (S w) [sD fW,sD ea,sD fF,sD [118,111,105,100],sD d6,sD gy,sD d0,sD dZ,sD hK,sD i9,sD [111,98,106,101,99,116]]=some i):Runs 1 971 [d7,.d (sD w)] T (.d (nD i)) T:=by
 intro n wm F X;have b:fJ dP ⟨cF n,11+X.length⟩ (.d (.tup [.str (S fW),.str (S ea),.str (S fF),.str (S [118,111,105,100]),.str (S d6),.str (S gy),.str (S d0),.str (S dZ),.str (S hK),.str (S i9),.str (S [111,98,106,101,99,116])])) 105 [.d (sD w)] (hs F T X)=some (.d (nD i),hs F T X):=by exact ah (cJ λ(n:Nat)=>((.d (.int (n:Int)),hs F T X):V×Hp)) e
 exact wk om dT [sb 1 c,dR 3 b,dR 0 (dU F X (nD i) T)]
theorem Pl(G:Good (g+1) T)(h:LW w):∃q T',Runs 3 971 [d7,.d (sD w)] T (.d (nD q)) T'/\Good g T'/\T<+:T'/\∃r,T'[q]?=some r/\ek r w:=by
 rcases h with h|⟨a,_,rfl⟩|⟨m,h,rfl⟩;.
  simp only[af,ai,a5]at h;have f:∀{w:W}{i:Nat}{r:Row},D.has (sD w) [sD fW,sD ea,sD fF,sD [118,111,105,100],sD d6,sD gy,sD d0,sD dZ,sD hK,sD i9,sD [111,98,106,101,99,116]]=some true->kn (S w) [sD fW,sD ea,sD fF,sD [118,111,105,100],sD d6,sD gy,sD d0,sD dZ,sD hK,sD i9,sD [111,98,106,101,99,116]]=some i->T[i]?=some r->ek r w->∃q T',Runs 3 971 [d7,.d (sD w)] T (.d (nD q)) T'/\Good g T'/\T<+:T'/\∃r,T'[q]?=some r/\ek r w:=by intro w i r a b c d;exact jR i T ⟨λn=>ta a b (n+2),(G.le ((aH _ _))),aq _,r,c,d⟩
  have j:∀{w:W},w∈[fW,ea,fF,[118,111,105,100],d6,gy,d0,dZ,hK,i9,[111,98,106,101,99,116]]->D.has (sD w) [sD fW,sD ea,sD fF,sD [118,111,105,100],sD d6,sD gy,sD d0,sD dZ,sD hK,sD i9,sD [111,98,106,101,99,116]]=some true:=by intro w h;have:=has_str (w:=w) (k:=[fW,ea,fF,[118,111,105,100],d6,gy,d0,dZ,hK,i9,[111,98,106,101,99,116]]);rw[aE h]at this;exact this
  rcases h with rfl|rfl|rfl|rfl|rfl|rfl|rfl|rfl;.exact f (j (by decide)) rfl (G.at rfl) ⟨by decide,rfl⟩
  .exact f (j (by decide)) rfl (G.at rfl) ⟨by decide,rfl⟩
  .exact f (j (by decide)) rfl (G.at rfl) ⟨by decide,rfl⟩
  .exact f (j (by decide)) rfl (G.at rfl) ⟨by decide,rfl⟩
  .exact f (j (by decide)) rfl (G.at rfl) ⟨by decide,rfl⟩
  .exact f (j (by decide)) rfl (G.at rfl) ⟨by decide,rfl⟩
  .exact f (j (by decide)) rfl (G.at rfl) ⟨rfl,.inl ⟨rfl,rfl⟩⟩
  .exact f (j (by decide)) rfl (G.at rfl) ⟨rfl,.inr ⟨rfl,rfl⟩⟩
 .refine jR _ _ ⟨?_,G.put,eh,.str [a],gr,rfl,rfl⟩;intro n wm F X;have o:∀H,QY (.d (.str (S [34,a,34])),H)=some (.d (sD [a]),H):=by intro H;rw[JZ,aW (by simp[eO])];rfl
  exact wk om dT [dR 11 ((HN (s:=[a]) G.lt) n (11+X.length) F X),dR 0 (dU F X (nD (fL T (Row.str [a]))) (fj T (Row.str [a])))]
 .refine jR _ _ ⟨?_,G.put,eh,.num m,gr,h,rfl⟩;intro n wm F X;have l:iw 205 [.d (sD [48+m])] (hs F T X)=some (nD m):=by
   have e:jm (S [48+m])=some (m:Int):=by
    have:48<=48+m/\48+m<58:=by lia
    simp[jm,this]
   exact ah (cJ D.int) e
  exact wk om dT [sb 6 (show f6 ac5 (D.str (S [48+m])) (V.d (D.str (aa "\""))) (hs F T X)=some false by simp[(show¬(48+m=34)from by lia)]),sd 2 l,dR 1 ((SQ (s:=m) G.lt) n (11+X.length) F X),dR 0 (dU F X (nD (fL T (Row.num m))) (fj T (Row.num m)))]
theorem Ax(G:Good (g+1+k.length) T)(N:wy k)(h:∀w∈k,LW w)(Q:k.length<=20):∃t' T',cF (n+4) wm 976 [d7,.d (eF k)] (hs F T X)=some (.d (nD t'),hs F T' X)/\Good g T'/\T<+:T'/\ShQ ek T' t' k/\(parts T' t').length<=k.length:=by
 refine ux (F:=F) (X:=X) (elt:=(dO 971 [(dM 0),(dM 2)]).run) (tg:=.one 2) (c:=⟨cF (n+3),11+X.length⟩) (e:=sD) (L:=[some d7,some (.d (eF k))]) 1 (R:=λT w t=>∃r,T[t]?=some r/\ek r w) (λh y=>d9 y λr a b=>i12 r (fQ h a) b) (λ_ _=>rfl) k (O:=none) (by rw[Nat.one_mul];exact G) (λw z j T1 K m=>?_) λT1 ts P m K i s f=>?_;.refine jt (Pl m (h w z)) λq T2 o l A y=>?_;exact rh q T2 (wd [dR 2 (o n (11+X.length) F X)]) l A y
 refine l8 od m (.inr rfl) (λq Z=>?_) s N (i▸aj Q (by decide)) λt' T2 o l A M E _=>?_;.refine d9 (f q Z) λw z y=>?_;refine d9 y λr a b=>?_;exact Dg r w a b z
 exact Q7 t' T2 (wk Av dT [jY 2 P,dR 1 (o n (11+X.length) F X),dR 0 (dU F X (nD t') T2)]) l (K.trans A) M (yG l M)
structure FK(k:ab W):Prop where
 n:wy k
 w:∀w∈k,LW w
 l:k.length<=3
theorem FK.fb(h:FK k):FB k:=⟨by have:=h.l;lia,λw b=>⟨(h.w w b).mG,by have:=(h.w w b).len;lia⟩⟩
theorem ow(G:Good (g+4) T)(h:FK k):∃t' T',cF (n+4) wm 976 [d7,.d (eF k)] (hs F T X)=some (.d (nD t'),hs F T' X)/\Good g T'/\T<+:T'/\K0 T' t' k:=by refine(let f:Prop:=_;(?_:f));refine C5 (Ax (F:=F) (X:=X) (n:=n) (wm:=wm) (g:=g) (G.le (by have:=h.l;lia)) h.n h.w (by have:=h.l;lia)) λt' T' c b e s l=>?_;exact jR t' T' ⟨c,b,e,s,au (aX _ _) (by have:=h.l;lia)⟩
noncomputable def kz:ab W:=[[34,97,34],[48],d6,[34,98,34],gy,[49],d0,i9,dZ,hK]
theorem ua:∀w∈kz,LW w:=by
 intro w h;simp only[kz,af,ai,a5]at h;rcases h with rfl|rfl|rfl|rfl|rfl|rfl|rfl|rfl|rfl|rfl;.exact .inr (.inl ⟨97,by decide,rfl⟩)
 .exact .inr (.inr ⟨0,by decide,rfl⟩)
 .exact .inl (by decide)
 .exact .inr (.inl ⟨98,by decide,rfl⟩)
 .exact .inl (by decide)
 .exact .inr (.inr ⟨1,by decide,rfl⟩)
 .exact .inl (by decide)
 .exact .inl (by decide)
 .exact .inl (by decide)
 .exact .inl (by decide)
noncomputable def Sz(k:ab W):Prop:=FK k/\∀w∈k,w∈kz
theorem Fy(h:i<10):∃w∈kz,([.str (S [34,97,34]),.str (S [48]),.str (S d6),.str (S [34,98,34]),.str (S gy),.str (S [49]),.str (S d0),.str (S i9),.str (S dZ),.str (S hK)]:ab D)[i]?=some (sD w):=by refine i12 (kz[i]) (aaf _) ?_;show(kz.map sD)[i]?=_;exact bV.trans (ah _ (aw h))
theorem xk{d:ab W}(h:∀w∈d,w∈kz)(e:d.length<=3):Sz (ei (d.map λw=>[w])):=by
 have f:∀v∈ei (d.map λw=>[w]),v∈d:=by intro v i;rw[eP]at i;refine d9 (i.1) λl e b=>?_;obtain⟨w,c,rfl⟩:=ag.mp e;replace b:=kE b;rw[b];exact c
 exact⟨⟨jf,λw c=>ua w (h w (f w c)),au (len_sub (SS.nd g6) f) e⟩,λw c=>h w (f w c)⟩
theorem w5(hm:m<100000):∃k,Sz k/\∀n wm H,cF (n+2) wm 957 [.d (nD m)] H=some (.d (eF k),H):=by
 refine(let γ:Prop:=_;(?_:γ));refine d9 (Fy (i:=m%10) (by lia)) λe h1 e1=>?_;refine d9 (Fy (i:=m/10%10) (by lia)) λf h2 e2=>?_;refine d9 (Fy (i:=m/300%10) (by lia)) λo h3 e3=>?_;have E:fv .FloorDiv (.int (m:Int)) (.int 10)=some (nD (m/10)):=ip (by decide) (by decide) (by lia);have s:fv .FloorDiv (.int (m:Int)) (.int 100)=some (nD (m/100)):=ip (by decide) (by decide) (by lia);have G:∀z:ab W,(∀w∈z,w∈kz)->z.length<=3->∀n wm H,cF (n+1) wm 943 [.d (.lst ((z.map λw=>[w]).map eF))] H=some (.d (eF (ei (z.map λw=>[w]))),H):=by
  intro z y hl n wm H;refine vU ?_ ?_;.
   have:(z.map λw=>[w]).flatten=z:=by induction z with|nil=>rfl|cons a l ih=>simp[ih (λw N=>y w (by simp[N])) (by simp at hl;lia)]
   rw[this];lia
  .intro k hk w A;obtain⟨v,hv,rfl⟩:=ag.mp hk;replace A:=kE A;rw[A];exact(ua v (y v hv)).mG
 have m1:fv .Mod (.int (m:Int)) (.int 10)=some (nD (m%10)):=zh;have m2:fv .Mod (.int ((m/10:Nat):Int)) (.int 10)=some (nD (m/10%10)):=zh;have m4:fv .Mod (.int ((m/100:Nat):Int)) (.int 3)=some (nD (m/100%3)):=Hd;generalize m/100%3=q at*;generalize m/100=R at*;generalize m/10%10=Q at*;generalize m/10=Θ at*;generalize m/300%10=a3 at*;generalize m/300=h at*;generalize m%10=P at*;by_cases hq:q=2;.
  refine hd λ_ O=>?_;subst hq;have y:∀w∈[e,f,o],w∈kz:=by simp only[af,ai,a5,aae,cG];exact⟨h1,h2,h3⟩
  refine O ?_;refine i12 _ (xk y (by simp)) (λn wm H=>?_);have j:=λn wm H=>G [e,f,o] y (by simp) n wm H;simp only[ar,bF]at j;have ap:=λc=>v3 (H:=H) (L:=[]) (M:=dP) (c:=c) (Z:=[.lst [sD e],.lst [sD f]]) (x:=.lst [sD o]) (by rw[eO];simp);exact wk qU rfl [sd 2 m1,sv 1 (show fZ (V.d ff) (nD P) H=some (V.d (sD e))by simp[ff,e1]),sd 4 E,sd 2 m2,sv 1 (show fZ (V.d ff) (nD Q) H=some (V.d (sD f))by simp[ff,e2]),sd 5 s,sd 2 m4,sb 3 (show some (iZ dP (V.ref (bq H)) 100 (H++[Cell.lst [D.lst [sD e],D.lst [sD f]] Mode.own]))=some true by simp),sd 2 (show fv .FloorDiv (.int (m:Int)) (.int 300)=some (nD (m/300))from ip (b:=300) (by decide) (by decide) (by lia)),sd 2 (show fv .Mod (.int ((m/300:Nat):Int)) (.int 10)=some (nD (m/300%10))from zh),sv 1 (show fZ (V.d ff) (nD a3) (H++[Cell.lst [D.lst [sD e],D.lst [sD f]] Mode.own])=some (V.d (sD o))by simp[ff,e3]),dR 2 (ap {call:=cF (n+1),wm:=bq H}),dR 0 (show ik (V.ref (bq H)) (H++[Cell.lst [D.lst [sD e],D.lst [sD f],D.lst [sD o]] Mode.own])=some (V.d (D.lst [D.lst [sD e],D.lst [sD f],D.lst [sD o]]),H++[Cell.lst [D.lst [sD e],D.lst [sD f],D.lst [sD o]] Mode.fz])by simp),dR 0 (j n (bq H) (H++[Cell.lst [D.lst [sD e],D.lst [sD f],D.lst [sD o]] Mode.fz])),dR 0 (vJ [Cell.lst [D.lst [sD e],D.lst [sD f],D.lst [sD o]] Mode.fz] (eF (ei [[e],[f],[o]])) H)]
 .have y:∀w∈[e,f],w∈kz:=by simp only[af,ai,a5,aae,cG];exact⟨h1,h2⟩
  refine i12 _ (xk y (by simp)) (λn wm H=>?_);have j:=λn wm H=>G [e,f] y (by simp) n wm H;simp only[ar,bF]at j;have K:¬(q:Int)=2:=by lia
  exact wk qU rfl [sd 2 m1,sv 1 (show fZ (V.d ff) (nD P) H=some (V.d (sD e))by simp[ff,e1]),sd 4 E,sd 2 m2,sv 1 (show fZ (V.d ff) (nD Q) H=some (V.d (sD f))by simp[ff,e2]),sd 5 s,sd 2 m4,sb 1 (eA K),dR 1 (show ik (V.ref (bq H)) (H++[Cell.lst [D.lst [sD e],D.lst [sD f]] Mode.own])=some (V.d (D.lst [D.lst [sD e],D.lst [sD f]]),H++[Cell.lst [D.lst [sD e],D.lst [sD f]] Mode.fz])by simp),dR 0 (j n (bq H) (H++[Cell.lst [D.lst [sD e],D.lst [sD f]] Mode.fz])),dR 0 (vJ [Cell.lst [D.lst [sD e],D.lst [sD f]] Mode.fz] (eF (ei [[e],[f]])) H)]
theorem oG(i:m<100000):∃k,FK k/\∀n wm H,cF (n+3) wm 964 [.d (nD m)] H=some (.d (eF k),H):=by
 have b:fv .Mod (.int (m:Int)) (.int 40)=some (nD (m%40)):=Pf;by_cases h:36<m%40;.
  have c:(36:Int)<((m%40:Nat):Int):=(abT.mpr ‹_›);have hs:fv .Sub (.int ((m%40:Nat):Int)) (.int 37)=some (nD (m%40-37)):=by show some (D.int _)=_;congr 2;lia
  have j:m%40-37=0\/m%40-37=1\/m%40-37=2:=by lia
  generalize m%40-37=z at*;generalize m%40=q at*;rcases j with rfl|rfl|rfl;.refine i12 ([fW]) ⟨vP,by simp only[af,ai,a5,cG];exact .inl (by decide),by simp⟩ (λn wm H=>?_);exact wk lZ rfl [sd 2 b,sb 1 (tX c),sd 8 b,sd 2 hs,dR 2 (eT (D.lst [D.str (S fW)]) H)]
  .refine i12 ([ea]) ⟨vP,by simp only[af,ai,a5,cG];exact .inl (by decide),by simp⟩ (λn wm H=>?_);exact wk lZ rfl [sd 2 b,sb 1 (tX c),sd 8 b,sd 2 hs,dR 2 (eT (D.lst [D.str (S ea)]) H)]
  .refine i12 [] ⟨pA,by simp,by simp⟩ (λn wm H=>?_);exact wk lZ rfl [sd 2 b,sb 1 (tX c),sd 8 b,sd 2 hs,dR 2 (eT (D.lst []) H)]
 .refine d9 (w5 i) λk f e=>?_;refine i12 k f.1 (λn wm H=>?_);have c:¬(36:Int)<((m%40:Nat):Int):=by lia
  generalize m%40=q at*;exact wk lZ rfl [sd 2 b,sb 1 (tB c),dR 2 (e n (bq H) H),dR 0 (eT (eF k) H)]
end
section
variable{F:ab Int}{T T' T1 T2:ab Row}{X Y:ab Cell}{n wm t g:Nat}{H:Hp}{k:ab W}{r:Row}{L:ab Slot}{p:Piece}{U J C over R:Nat}{B I Q:ab W}{kw:W}
theorem KP:cF (n+1) wm 201 [a,b] H=cF (n+1) wm 201 [a,b,.d (.int 0)] H:=by rw[j4,j4];rfl
theorem Et(b:T.length<big):Runs 3 201 [d7,.d (.lst [.tup [nD x,.int 0]])] T (.d (nD (fL T (.tup [(x,0)] 0)))) (fj T (.tup [(x,0)] 0)):=by intro n wm F X;rw[show n+3=(n+2)+1by lia,KP];exact(rH (show mz [(x,0)]from⟨by simp,by simp,by simp⟩) (.inr rfl) b n wm F X)
theorem u7(h:T.length<big)(b:gF r=x):Runs 1 136 [d7,.d x] T (.d (nD (fL T r))) (fj T r):=b▸qw h
theorem Oq(G:Good (g+1) T):∃x T',Runs 3 289 [d7,.d (.lst [.int 16,.int 5])] T (.d (nD x)) T'/\Good g T'/\T<+:T'/\T'[x]?=some (.jW [5,16]):=by
 have c:=eQ (G.at (i:=16) rfl) (by decide) (by simp);have e:=eQ (G.at (i:=5) rfl) (by decide) (by simp);have b:([16,5]:ab Nat).flatMap (parts T)=[16,5]:=by simp[c,e]
 have run:=A6 (ts:=[16,5]) (.inr rfl) (by simp only[af,ai,a5,aae,cG];exact⟨gL (G.at rfl),gL (G.at rfl)⟩) (by rw[b];simp only[af,ai,a5,aae,cG];exact⟨⟨_,G.at rfl,by simp⟩,⟨_,G.at rfl,by simp⟩⟩) (by rw[b];decide) (by rw[b];decide) (by rw[b];decide) (by rw[b];decide) G.lt;rw[b]at run;have f:mi T [16,5]=[5,16]:=by unfold mi;rw[(show wj [16,5]=[5,16]from by decide)];simp only[stays,cV,(G.at (i:=16) rfl),(G.at (i:=5) rfl)];rfl
 have j:tJ T (fh [] [16,5])=(fL T (.jW [5,16]),fj T (.jW [5,16])):=by
  have:fh [] ([16,5]:ab Nat)=[16,5]:=by decide
  unfold tJ;rw[this,f];simp
 rw[j]at run;exact⟨_,_,run,G.put,eh,gr⟩
noncomputable def B'(over U J:Nat)(B:ab W)(a2 a3 O:ae V)(q:Loc):Loc:=some d7::some (.d (nD over))::a2::a3::some (.d (nD 16))::some (.d (jD U J B))::O::q
theorem OA(G:Good (g+5) T)(hb:U<=2)(hc:J<=3)(A:U=0->J=0)(a:FK B){M:Prop}(κ:∀x T',d5 ((pK.take 7).map BS.run) ⟨cF (n+4),11+X.length⟩ (B' over U J B a2 a3 O [none,none,none,none,none]) (hs F T X)=some (.er,B' over U J B a2 a3 O [some (.d (nD U)),some (.d (nD J)),some (.d (eF B)),some (.d (nD x)),none],hs F T' X)->Good g T'->T<+:T'->jS T' x U J B over->M):M:=by
 have P:Good g T:=G.le ((aH _ _));have c:Good (g+1) T:=G.le (by lia);have l:J=0\/J=1\/J=2\/J=3:=by lia
 rcases(show U=0\/U=1\/U=2by lia)with rfl|rfl|rfl;.obtain rfl:=A rfl;have j:=u7 (r:=.idx over 16) c.lt rfl (n+3) (11+X.length) F X;refine κ _ _ ?_ c.put eh (.inl ⟨rfl,gr⟩);exact wq [dR 8 j]
 .rcases l with rfl|rfl|rfl|rfl;.exact κ 16 T (wq []) P (aq _) (.inr ⟨by decide,.inl ⟨rfl,.inl ⟨rfl,rfl⟩⟩⟩)
  .have E:=Et (x:=16) c.lt (n+1) (11+X.length) F X;refine κ _ _ ?_ c.put eh (.inr ⟨by decide,.inl ⟨rfl,.inr (.inl ⟨rfl,gr⟩)⟩⟩);exact wq [dR 14 E]
  .refine jt (Oq c) λx T' r N p' hx=>?_;refine κ x T' ?_ N p' (.inr ⟨by decide,.inl ⟨rfl,.inr (.inr (.inl ⟨rfl,hx⟩))⟩⟩);have r:=r (n+1) (11+X.length) F X;exact wq [dR 16 r]
  .have q:=x5 (e:=16) (ro:=1) c.lt (n+2) (11+X.length) F X;refine κ _ _ ?_ c.put eh (.inr ⟨by decide,.inl ⟨rfl,.inr (.inr (.inr ⟨rfl,gr⟩))⟩⟩);exact wq [dR 18 q]
 .refine jt (ow (F:=F) (X:=X) (n:=n) (wm:=11+X.length) G a) λf T1 m b o K=>?_;have s:Good g T1:=b.le ((aH _ _));rcases l with rfl|rfl|rfl|rfl;.refine κ f T1 ?_ s o (.inr ⟨by decide,.inr ⟨rfl,.inl ⟨rfl,K⟩⟩⟩);exact wq [dR 8 m]
  .have E:=Et (x:=f) b.lt (n+1) (11+X.length) F X;refine κ _ _ ?_ b.put (o.trans eh) (.inr ⟨by decide,.inr ⟨rfl,.inr (.inl ⟨rfl,f,K.pre eh,gr⟩)⟩⟩);exact wq [dR 8 m,dR 8 E]
  .refine tw Tj b K (b.at (i:=5) rfl) ⟨by decide,rfl⟩ rfl (.inl rfl) (.inr rfl) λt' T' y Z h z=>?_;refine κ t' T' ?_ Z (o.trans h) (.inr ⟨by decide,.inr ⟨rfl,.inr (.inr (.inl ⟨rfl,z⟩))⟩⟩);have y:=y (n+1) (11+X.length) F X;exact wq [dR 8 m,dR 10 y]
  .have q:=x5 (e:=f) (ro:=1) b.lt (n+2) (11+X.length) F X;refine κ _ _ ?_ b.put (o.trans eh) (.inr ⟨by decide,.inr ⟨rfl,.inr (.inr (.inr ⟨rfl,f,K.pre eh,gr⟩))⟩⟩);exact wq [dR 8 m,dR 12 q]
noncomputable def M6(T:ab Row)(R c over:Nat)(Q:ab W):Prop:=(R<3->T[c]?=some (.ib over))/\(R=3->∃a b,T[c]?=some (.inter a b)/\T[a]?=some (.ib over)/\ShQ ek T b Q/\(parts T b).length<=7)/\(R=4->ShQ ek T c Q/\(parts T c).length<=7)
theorem Tq(G:Good (g+20) T)(hb:U<=2)(hc:J<=3)(N:U=0->J=0)(hf:FK B)(ho:R<=4)(hm:C<9)(Nk:wy Q)(hk:∀w∈Q,LW w)(hl:Q.length<=7):∃kt x T',cF (n+5) wm 1050 [d7,.d (nD over),.d (eF Q),.d (nD R),.d (nD 16),.d (jD U J B),.d (nD C)] (hs F T X)=some (.d (eM kt (if R=2then 16 else-1) x (C%3) (C/3)),hs F T' X)/\Good g T'/\T<+:T'/\jS T' x U J B over/\M6 T' R kt over Q:=by
 refine hd λ_ Yu=>?_;refine OA (F:=F) (X:=X) (n:=n) (over:=over) G hb hc N hf (a2:=some (.d (eF Q))) (a3:=some (.d (nD R))) (O:=some (.d (nD C))) λx T1 cA G1 Z S=>?_;refine C5 (Ax (F:=F) (X:=X) (n:=n) (wm:=11+X.length) (g:=g+3) (G1.le (by lia)) Nk hk (by lia)) λi T2 s m l sk lk=>?_;have E:fv .Mod (nD C) (.int 3)=some (nD (C%3)):=Hd;have y:fv .FloorDiv (nD C) (.int 3)=some (nD (C/3)):=ip (by decide) (by decide) (by lia);have K:∀{T:ab Row}{k:Nat},Good k T->fZ (.ref 2) (.int 16) (hs F T X)=some (.d (gF (.param 0))):=by intro T k G;have:=P9 (F:=F) (T:=T) (X:=X) (t:=16);rw[G.at rfl]at this;exact this
 have fin:∀{q o v},(d5 ((pK.drop 7).map BS.run) ⟨cF (n+4),11+X.length⟩ (B' over U J B (some (.d (eF Q))) (some (.d (nD R))) (some (.d (nD C))) [some (.d (nD U)),some (.d (nD J)),some (.d (eF B)),some (.d (nD x)),none]) (hs F T1 X)=some (.ret (.d v),q,hs F o X))->cF (n+5) wm 1050 [d7,.d (nD over),.d (eF Q),.d (nD R),.d (nD 16),.d (jD U J B),.d (nD C)] (hs F T X)=some (.d v,hs F o X):=by intro q o v h;rw[BQ,ir rfl,dT];exact(ah (ck · (Mine.fin (11+X.length))) (gM cA h)).trans (dU F X v o)
 refine Yu ?_;have z:Good (g+1) T2:=m.le (by lia);rcases df R 3with h3|h3;.
  have j:=u7 (r:=.ib over) z.lt rfl (n+3) (11+X.length) F X;have f:(R:Int)<3:=(abT.mpr ‹_›);have P:¬(R:Int)=3:=by lia
  refine⟨_,x,_,fin (q:=B' over U J B (some (.d (eF Q))) (some (.d (nD R))) (some (.d (nD C))) [some (.d (nD U)),some (.d (nD J)),some (.d (eF B)),some (.d (nD x)),some (.d (nD (fL T2 (.ib over))))]) ?_,z.put,Z.trans (l.trans eh),S.pre (l.trans eh),λ_=>gr,λe=>by lia,λe=>by lia⟩;by_cases A:R=2;.subst A;rw[aW rfl];have b:=K (z.put (r:=.ib over));exact wq [dR 2 s,dR 7 j,sv 6 b,sd 11 E,sd 3 y]
  .have c:¬(R:Int)=2:=by lia
   rw[aZ A];have b:=K (z.put (r:=.ib over));exact wq [dR 2 s,sb 1 (tX f),dR 5 j,sb 1 (eA P),sv 4 b,sb 5 (eA c),sd 5 E,sd 3 y]
 .have f:¬(R:Int)<3:=by lia
  have A:¬R=2:=(aak ‹_›);have c:¬(R:Int)=2:=by lia
  rw[aZ A];by_cases e3:R=3;.
   subst e3;have gg:Good (g+2) T2:=m.le (by lia);have a:=u7 (r:=.ib over) (x:=.tup [.int 14,nD over]) gg.lt rfl (n+3) (11+X.length) F X;have M:Good (g+1) (fj T2 (.ib over)):=gg.put;have Yb:=u7 (T:=fj T2 (.ib over)) (r:=.inter (fL T2 (.ib over)) i) (x:=.tup [.int 7,.tup [nD (fL T2 (.ib over)),nD i]]) M.lt rfl (n+3) (11+X.length) F X;refine⟨_,x,_,fin (q:=B' over U J B (some (.d (eF Q))) (some (.d (nD 3))) (some (.d (nD C))) [some (.d (nD U)),some (.d (nD J)),some (.d (eF B)),some (.d (nD x)),some (.d (nD (fL (fj T2 (.ib over)) (.inter (fL T2 (.ib over)) i))))]) ?_,M.put,Z.trans (l.trans (eh.trans eh)),S.pre (l.trans (eh.trans eh)),λe=>(ay ‹_› (cN _)),λ_=>⟨_,_,gr,fQ eh gr,sk.imp (eh.trans eh) λ_ _ q=>q,?_⟩,λe=>(ay ‹_› (by decide))⟩;.have b:=K (M.put (r:=.inter (fL T2 (.ib over)) i));exact wq [dR 2 s,dR 12 a,dR 4 Yb,sv 3 b,sd 11 E,sd 3 y]
   .rw[kh (eh.trans eh) sk.lt];lia
  .have P:¬(R:Int)=3:=by lia
   refine⟨i,x,T2,fin (q:=B' over U J B (some (.d (eF Q))) (some (.d (nD R))) (some (.d (nD C))) [some (.d (nD U)),some (.d (nD J)),some (.d (eF B)),some (.d (nD x)),some (.d (nD i))]) ?_,m.le ((aH _ _)),Z.trans l,S.pre l,λe=>by lia,λe=>(ay ‹_› ‹_›),λ_=>⟨sk,by lia⟩⟩;have b:=K m;exact wq [dR 2 s,sb 1 (tB f),sb 2 (eA P),sv 4 b,sb 5 (eA c),sd 5 E,sd 3 y]
end
section
variable{F:ab Int}{T T' T1 T2:ab Row}{X Y:ab Cell}{n wm t g:Nat}{H:Hp}{k:ab W}{r:Row}{L:ab Slot}{p:Piece}
theorem oX(h:Z.length<64):fJ M c (.ref (11+(X.length+1))) 100 [.d v] (hs F T (X++[z,.lst Z .own]))=some (.d .fS,hs F T (X++[z,.lst (Z++[v]) .own])):=by rw[nz qJ (by decide) (by rw[eO];lia),AR]
theorem rJ(h:Z.length<64):fJ M c (.ref (11+X.length)) 100 [.d v] (hs F T (X++[.lst Z .own,z]))=some (.d .fS,hs F T (X++[.lst (Z++[v]) .own,z])):=sf (by rw[eO];lia)
@[simp]theorem Gr:toD (.ref (11+(X.length+1))) (hs F T (X++[z,.lst Z md]))=some (.lst Z,hs F T (X++[z,.lst Z .fz])):=(Lr qJ).trans (by rw[AR])
noncomputable abbrev P6:ab Nat:=[0,4,32,0,8,16]
noncomputable def IM(h:Nat):Nat:=P6.getD h 0
theorem Nz(b:h<6):([D.int 0,.int 4,.int 32,.int 0,.int 8,.int 16]:ab D)[h]?=some (nD (IM h)):=(bV (f:=nD) (l:=P6)).trans (by rw[(show∀s<6,P6[s]?=some (IM s)from by decide+kernel) h b];rfl)
theorem LV:∀h,h<6->∀o,o<2->∀r,r<2->((IM h+o+r*2)/8%4=0↔h<4)/\IM h+o+r*2<64/\(IM h+o+r*2)%2=o/\(h<4->(IM h+o+r*2)/2%4=if h=1then r+2 else r):=by decide+kernel
structure Drawn(T:ab Row)(ps:ab l6)(A:l6->Slot)(d:ab W):Prop where
 fl:∀p∈ps,p.2.2.1<64
 pr:∀p∈ps,j8 p=true->ia T p (A p)
 nm:∀p∈ps,p.1∈d
 nd:(ps.map (·.1)).Nodup
 len:ps.length<=d.length
theorem Drawn.pre(h:T<+:T')(s:Drawn T ps A d):Drawn T' ps A d:=⟨s.fl,λp i j=>by obtain⟨a,f,b,c,d,e⟩:=s.pr p i j;exact⟨a,f,b,c,d,e.pre h⟩,s.nm,s.nd,s.len⟩
theorem Drawn.wk(s:Drawn T ps A d):Drawn T ps A (d++[w]):=⟨s.fl,s.pr,λp b=>by simp[s.nm p b],s.nd,by have:=s.len;simp;lia⟩
theorem Drawn.snoc{p:l6}(D:Drawn T ps A d)(l:p.1∉d)(y:p.2.2.1<64)(z:j8 p=true->ia T p s):∃f,Drawn T (ps++[p]) f (d++[p.1])/\((ps++[p]).filter j8).map f=(ps.filter j8).map A++(if j8 p then[s]else[]):=by
 classical
  refine i12 (λq=>if q=p then s else A q) ⟨?_,?_,?_,?_,?_⟩ ?_;.
   intro q c;rcases aJ.mp c with h|h;.exact D.fl q h
   .simp only[af,ai,a5]at h;refine sY h ?_;exact y
  .intro q c m;by_cases e:q=p;.subst e;simp only[adl];exact z m
   .simp only[e,aez];rcases aJ.mp c with h|h;.exact D.pr q h m
    .replace h:=kE h;exact ay h e
  .intro q c;rcases aJ.mp c with h|h;.simp[D.nm q h]
   .simp only[af,ai,a5]at h;refine sY h ?_;simp
  .rw[aD,a8];refine⟨D.nd,by simp,?_⟩;intro a o b hb e;simp only[ar,bF,af,ai,a5]at hb;obtain⟨q,c,rfl⟩:=ag.mp o;exact l (hb▸e▸D.nm q c)
  .have:=D.len;simp;omega
  .simp only[cL,aD];congr 1;.
    refine bG λq c=>?_;have j:=(aO.mp c).1;have:q≠p:=by intro e;subst e;exact l (D.nm q j)
    simp[this]
   .cases i:j8 p<;>simp[i]
theorem Vc(F:ab Int)(T:ab Row)(X:ab Cell):mB (hs F T (X++[.lst [] .own])) (.lst [] .own)=some (.ref (11+(X.length+1)),hs F T (X++[.lst [] .own,.lst [] .own])):=by simp[mB]
theorem KI(F:ab Int)(T:ab Row)(X:ab Cell)(Z:ab D)(z:Cell):some (iZ dP (.ref (11+X.length)) 100 (hs F T (X++[.lst Z .own,z])))=some true:=ah some (jn gq 100 dP)
theorem Ef(F:ab Int)(T:ab Row)(X:ab Cell)(Z:ab D)(z:Cell):some (iZ dP (.ref (11+(X.length+1))) 100 (hs F T (X++[z,.lst Z .own])))=some true:=ah some (jn qJ 100 dP)
noncomputable def pL(i:Nat)(Z N:ae V)(q:Nat->ae V)(j7 BC:ae V):Loc:=[some d7,some (.ref 0),some (.ref (11+i)),some (.ref (11+(i+1))),Z,N,q 0,q 1,q 2,q 3,q 4,q 5,q 6,j7,BC]
noncomputable def my(ps:ab l6):ab D:=ps.map mQ
noncomputable def nN(ps:ab l6)(A:l6->Slot):ab D:=((ps.filter j8).map A).map fE
noncomputable abbrev gX(X:ab Cell)(pl sl:ab D):ab Cell:=X++[.lst pl .own,.lst sl .own]
noncomputable def oL(i b:Nat)(nm:W)(q:Nat->ae V):Loc:=pL i (some (.d (nD b))) (some (.d (sD nm))) q none none
noncomputable def IQ(d:Nat):Nat:=d/4%2
noncomputable def Ay(d:Nat):Nat:=d/16
noncomputable def IP(d:Nat):Nat:=if d/16=2then 1 else d/8%2
noncomputable def QP(d:Nat):Nat:=IM (Ay d)+IQ d+IP d*2
theorem Bn:∀d<96,IQ d<2/\Ay d<6/\IP d<2:=by decide+kernel
theorem Np(d:Nat)(h:d<96):(QP d/8%4=0↔Ay d<4)/\QP d<64/\QP d%2=IQ d/\(Ay d<4->QP d/2%4=if Ay d=1then IP d+2 else IP d):=LV _ (Bn d h).2.1 _ (Bn d h).1 _ (Bn d h).2.2
theorem V2(h:d<96):d5 (((fI.drop 4).take 3).map BS.run) c (oL i m nm (qf [some (.d (nD d)),some (.d o),z,A,B,s,y])) H=some (.er,oL i m nm (qf [some (.d (nD d)),some (.d o),some (.d (nD (IQ d))),some (.d (nD (Ay d))),some (.d (nD (IP d))),s,y]),H):=by
 have j:d<1073741824:=bM h (by decide);have e:fv .FloorDiv (nD d) (.int 4)=some (nD (d/4)):=ip (by decide) (by decide) j;have l:fv .Mod (nD (d/4)) (.int 2)=some (nD (d/4%2)):=uW;have b:fv .FloorDiv (nD d) (.int 16)=some (nD (d/16)):=ip (by decide) (by decide) j;have f:fv .FloorDiv (nD d) (.int 8)=some (nD (d/8)):=ip (by decide) (by decide) j;have q:fv .Mod (nD (d/8)) (.int 2)=some (nD (d/8%2)):=uW;unfold IQ Ay IP;by_cases h:d/16=2;.rw[h]at b⊢;exact wq [sd 2 e,sd 2 l,sd 2 b]
 .rw[aZ h];exact wq [sd 2 e,sd 2 l,sd 2 b,sb 1 (eA (hJ h)),sd 3 f,sd 2 q]
theorem Vi(h:d<96):d5 (((fI.drop 7).take 1).map BS.run) c (oL i m nm (qf [some (.d (nD d)),some (.d o),some (.d (nD (IQ d))),some (.d (nD (Ay d))),some (.d (nD (IP d))),y,q])) H=some (.er,oL i m nm (qf [some (.d (nD d)),some (.d o),some (.d (nD (IQ d))),some (.d (nD (Ay d))),some (.d (nD (IP d))),some (.d (nD (QP d))),q]),H):=by have e:=Bn d h;have l:∀{a:Nat},a<2->a<1073741824:=λh=>bM h (by decide);have s:fZ (.d (.tup [.int 0,.int 4,.int 32,.int 0,.int 8,.int 16])) (nD (Ay d)) H=some (.d (nD (IM (Ay d)))):=uA (Nz e.2.1);have f:=(Gf (b:=1) (l e.1) (by decide)).trans (by rw[Nat.mul_one]);have j:=Gf (b:=2) (l e.2.2) (by decide);exact wq [sv 7 s,sd 3 f,sd 1 (tn (a:=IM (Ay d)) (b:=IQ d)),sd 3 j,sd 1 (tn (a:=IM (Ay d)+IQ d) (b:=IP d*2))]
theorem VY{mt:Nat}(l:cF (n+5) w 976 [d7,.d m] (hs F T (X++[.lst pl .own,z]))=some (.d (nD mt),hs F T1 (X++[.lst pl .own,z])))(y:i=X.length)(s:pl.length<64):d5 (((fI.drop 8).take 1).map BS.run) ⟨cF (n+5),w⟩ (oL i q nm (qf [some (.d x),some (.d m),E,some (.d (nD b)),A,some (.d (nD j)),B])) (hs F T (X++[.lst pl .own,z]))=some (.er,oL i q nm (qf [some (.d x),some (.d m),E,some (.d (nD b)),A,some (.d (nD j)),B]),hs F T1 (X++[.lst (pl++[.tup [sD nm,nD mt,nD j,nD (if 3<b then 1 else 0)]]) .own,z])):=by
 subst y;have f:=rJ (F:=F) (T:=T1) (X:=X) (M:=dP) (c:=⟨cF (n+5),w⟩) (z:=z) (v:=.tup [sD nm,nD mt,nD j,nD (if 3<b then 1 else 0)]) s;have o:=KI F T X pl z;by_cases h:3<b;.rw[aW h]at f⊢;exact wq [sb 0 o,dR 3 l,sb 3 (tX (bh.mpr h)),dR 3 f]
 .rw[aZ h]at f⊢;exact wq [sb 0 o,dR 3 l,sb 3 (tB λe=>h (bh.mp e)),dR 3 f]
noncomputable def yd(b:Nat)(c:ab W):ab W:=if b=1then ei [c,[d6]]else c
noncomputable def E8(b ro:Nat):Nat:=if b=1then ro+2 else ro
theorem W2(G:KB j)(K:nm.length=1)(C:i=X.length)(B:sl.length<64):d5 (iV.map BS.run) ⟨cF (n+5),w⟩ (oL i m nm (qf [some (.d x),some (.d (eF j)),some (.d (nD e)),some (.d (nD f)),some (.d (nD ro)),q,I])) (hs F T (X++[z,.lst sl .own]))=some (.er,oL i m nm (qf [some (.d x),some (.d (eF j)),some (.d (nD e)),some (.d (nD f)),some (.d (nD ro)),q,some (.d (eF (yd e j)))]),hs F T (X++[z,.lst (sl++[fE ⟨34::(nm++[34]),yd e j,e,E8 f ro⟩]) .own])):=by
 subst C;have o:d5 ((iV.take 1).map BS.run) ⟨cF (n+5),w⟩ (oL X.length m nm (qf [some (.d x),some (.d (eF j)),some (.d (nD e)),some (.d (nD f)),some (.d (nD ro)),q,I])) (hs F T (X++[z,.lst sl .own]))=some (.er,oL X.length m nm (qf [some (.d x),some (.d (eF j)),some (.d (nD e)),some (.d (nD f)),some (.d (nD ro)),q,some (.d (eF (yd e j)))]),hs F T (X++[z,.lst sl .own])):=by
  have E:=Hm (n:=n+4) (wm:=w) (H:=hs F T (X++[z,.lst sl .own])) G;unfold yd;by_cases h:e=1;.rw[aW h,h];exact wq [dR 7 E]
  .rw[aZ h];exact wq [sb 1 (eA (hJ h))]
 refine gM (b:=iV.drop 1) o ?_;generalize yd e j=J;have s:=gE (a:=[34]) (b:=nm) (by rw[eO];simp;lia);have y:=gE (a:=34::nm) (b:=[34]) (by rw[eO];simp;lia);have l:=oX (F:=F) (T:=T) (X:=X) (M:=dP) (c:=⟨cF (n+5),w⟩) (z:=z) (v:=fE ⟨34::(nm++[34]),J,e,E8 f ro⟩) B;have A:=Ef F T X sl z;unfold E8 at*;by_cases h:f=1;.rw[aW h]at l⊢;rw[h];exact wq [sb 0 A,sd 2 s,sd 2 y,dR 11 l]
 .rw[aZ h]at l⊢;exact wq [sb 0 A,sd 2 s,sd 2 y,sb 4 (eA (hJ h)),dR 3 l]
theorem pP{γ:Prop}(G:Good (g+4) T)(Dr:Drawn T ps A d)(hn:nm∉d)(h1:nm.length=1)(hc:∀a∈nm,a<128)(hd:d.length<=5)(κ:∀z F' T' E i q',(z=.er\/z=.cnt)->d5 (fI.map BS.run) ⟨cF (n+5),11+X.length⟩ (pL X.length (some (.d (nD d.length))) (some (.d (sD nm))) q none none) (hs F T (gX X (my ps) (nN ps A)))=some (z,pL X.length (some (.d (nD (d.length+1)))) (some (.d (sD nm))) q' none none,hs F' T' (gX X (my E) (nN E i)))->Good g T'->T<+:T'->Drawn T' E i (d++[nm])->γ):γ:=by
 have O:ps.length<64:=aj (au Dr.len hd) (by decide);have P:(my ps).length<64:=aj (bZ (ak _)) O;have Q:(nN ps A).length<64:=aj (by unfold nN;rw[ak,ak];exact aX _ _) O;refine mn (w_next (n:=n+4) (wm:=11+X.length) (F:=F) (T:=T) (X:=gX X (my ps) (nN ps A)) (m:=96) (by decide)) λj F1 c1 b1=>?_;refine mn (w_next (n:=n+4) (wm:=11+X.length) (F:=F1) (T:=T) (X:=gX X (my ps) (nN ps A)) (m:=3000) (by decide)) λd2 I c2 b2=>?_;refine d9 (oG (m:=d2+d.length) (by lia)) λJ M R=>?_;have R:=R (n+2) (11+X.length) (hs I T (gX X (my ps) (nN ps A)));have V3:fv .Add (nD d2) (nD d.length)=some (nD (d2+d.length)):=tn;have m4:fv .Mod (nD j) (.int 4)=some (nD (j%4)):=Mn;by_cases N:j%4=3;.refine κ .cnt I T ps A (qf [some (.d (nD j)),some (.d (eF J)),q 2,q 3,q 4,q 5,q 6]) (.inr rfl) ?_ (G.le ((aH _ _))) (aq _) Dr.wk;rw[N]at m4;exact wq [dR 2 c1,dR 2 c2,dR 4 R,sd 5 m4]
 have hA:d5 ((fI.take 4).map BS.run) ⟨cF (n+5),11+X.length⟩ (pL X.length (some (.d (nD d.length))) (some (.d (sD nm))) q none none) (hs F T (gX X (my ps) (nN ps A)))=some (.er,oL X.length (d.length+1) nm (qf [some (.d (nD j)),some (.d (eF J)),q 2,q 3,q 4,q 5,q 6]),hs I T (gX X (my ps) (nN ps A))):=wq [dR 2 c1,dR 2 c2,dR 4 R,sd 5 m4,sb 1 (eA (hJ N))];refine jt (ow (F:=I) (X:=gX X (my ps) (nN ps A)) (n:=n+1) (wm:=11+X.length) G M) λmt T1 cm G1 p1 K=>?_;have Z:=Np j b1;have o:=λr h=>gM (r:=r) hA (gM (V2 b1) (gM (Vi b1) (gM (b:=fI.drop 9) (VY cm rfl P) h)));have kb:=M.fb.kb;generalize(if 3<Ay j then 1 else 0)=l at*;generalize Ay j=c at*;generalize IP j=ro at*;generalize IQ j=y at*;generalize QP j=z at*;have C:j8 (nm,mt,z,l)=decide (c<4):=dq.mpr Z.1;refine d9 ((Dr.pre p1).snoc (p:=(nm,mt,z,l)) (s:=⟨34::(nm++[34]),yd y J,y,E8 c ro⟩) hn Z.2.1 λhp=>⟨h1,hc,rfl,Z.2.2.1.symm,(Z.2.2.2 (aT (C▸hp))).symm,J,K.up,by unfold yd;simp only[ba]⟩) λi D' Y6=>?_;have B:my (ps++[(nm,mt,z,l)])=my ps++[.tup [sD nm,nD mt,nD z,nD l]]:=aD;have f:nN (ps++[(nm,mt,z,l)]) i=nN ps A++(bif decide (c<4)then[fE ⟨34::(nm++[34]),yd y J,y,E8 c ro⟩]else[]):=by unfold nN;rw[Y6,C,aD];congr 1;generalize decide (c<4)=b;rcases b with⟨⟩<;>rfl
 by_cases U:c<4;.rw[aE U]at f;exact κ .er I T1 _ i _ (.inl rfl) (B▸f▸o _ (BG (wb [sb 1 (tX (bh.mpr U))]) (W2 kb h1 rfl Q))) G1 p1 D'
 .rw[aC U,aec,aL]at f;exact κ .er I T1 _ i (qf [some (.d (nD j)),some (.d (eF J)),some (.d (nD y)),some (.d (nD c)),some (.d (nD ro)),some (.d (nD z)),q 6]) (.inl rfl) (by rw[B,f];exact o _ (MV (wb [sb 1 (tB λe=>U (bh.mp e))]))) G1 p1 D'
end
section
variable{F:ab Int}{T T' T1 T2:ab Row}{X Y:ab Cell}{n wm t g:Nat}{H:Hp}{k:ab W}{r:Row}{L:ab Slot}{p:Piece}
noncomputable abbrev nms:ab W:=[[48],[112],[113]]
theorem DK(G:Good (g+12) T){j:Prop}(κ:∀s T' ps A q,hH (.one 5) (d5 (fI.map BS.run)) ⟨cF (n+5),11+X.length⟩ (nms.map sD) (pL X.length (some (.d (.int 0))) none (qf []) none none) (hs F T (gX X [] []))=some (.er,pL X.length (some (.d (nD 3))) (some (.d (sD [113]))) q none none,hs s T' (gX X (my ps) (nN ps A)))->Good g T'->T<+:T'->Drawn T' ps A nms->j):j:=by refine pP (F:=F) (X:=X) (n:=n) (ps:=[]) (A:=λ_=>⟨[],[],0,0⟩) (d:=[]) (nm:=[48]) (q:=qf []) G ⟨by decide,by simp,by decide,by simp,by simp⟩ (by decide) rfl (by decide) (by decide) λf1 y T1 R μ Z b K C O l=>?_;refine pP (F:=y) (X:=X) (n:=n) (nm:=[112]) (q:=Z) C l (by decide) rfl (by decide) (by decide) λf2 z T2 U n! h c M E P m=>?_;refine pP (F:=z) (X:=X) (n:=n) (nm:=[113]) (q:=h) E m (by decide) rfl (by decide) (by decide) λf3 B J f i a e N I Q o=>?_;exact κ B J f i a (gV rfl b K (gV rfl c M (gV rfl e N rfl))) I (O.trans (P.trans Q)) o
theorem Cp(G:Good g T)(D:Drawn T ps A nms)(N:T[t]?=some (.obj (eK ps) E ni))(J:r9 T d0 E o)(K:r9 T dZ ni q):h8 T t (.obj ((ps.filter j8).map A++o++q)):=by
 have C:((eK ps).map (·.1)).Nodup:=by rw[kS];exact SS.nd (pF ig il D.nd)
 have O:mx T (eK ps) E ni A o q:=⟨λp I=>D.fl p (ka.mp I),λp I=>D.pr p (ka.mp I),J,K,C,by unfold eK;rw[mb];have:=D.len;simp at this;omega⟩;refine⟨_,N,eK ps,E,ni,A,o,q,rfl,O,λs=>?_,?_⟩;.simp only[aJ,ag,aO,ka]
 .have l:∀s∈o,s.key=d0:=by rcases J with⟨_,rfl⟩|⟨_,s,_,rfl,h,_⟩<;>simp;exact h
  have B:∀s∈q,s.key=dZ:=by rcases K with⟨_,rfl⟩|⟨_,s,_,rfl,h,_⟩<;>simp;exact h
  have d:∀z∈ps.filter j8,(A z).key=34::(z.1++[34]):=λz i=>by rw[aO]at i;exact(D.pr z i.1 i.2).key
  rw[aD,aD,a8,a8];refine⟨⟨?_,?_,?_⟩,?_,?_⟩;.
   rw[aK];have m:((ps.filter j8).map (·.1)).Nodup:=by have:=D.nd;rw[abh,bU]at this⊢;exact cp _ this
   rw[abh,bU]at m⊢;refine da ?_ m;intro a b c j y e;simp only[a9]at e;rw[d a c,d b j]at e;exact y (by simpa using e)
  .rcases J with⟨_,rfl⟩|⟨_,s,_,rfl,_⟩<;>simp
  .intro a c b j e;obtain⟨s,hs,rfl⟩:=ag.mp c;obtain⟨M,f,rfl⟩:=ag.mp j;obtain⟨z,i,rfl⟩:=ag.mp hs;rw[d z i,l M f]at e;cases e
  .rcases K with⟨_,rfl⟩|⟨_,s,_,rfl,_⟩<;>simp
  .intro a c b j e;obtain⟨M,f,rfl⟩:=ag.mp j;rw[B M f]at e;rcases aJ.mp c with c|c;.obtain⟨s,hs,rfl⟩:=ag.mp c;obtain⟨z,i,rfl⟩:=ag.mp hs;rw[d z i]at e;cases e
   .obtain⟨s,hs,rfl⟩:=ag.mp c;rw[l s hs]at e;cases e
theorem FO(G:Good (g+21) T):∃F' t' L T',cF (n+6) wm 983 [d7,.ref 0] (hs F T X)=some (.d (.tup [nD t',fG (.obj L)]),hs F' T' X)/\Good g T'/\T<+:T'/\h8 T' t' (.obj L):=by
 refine hd λJ P=>?_;refine DK (F:=F) (X:=X) (n:=n) (G.le ((aV _))) λF1 T1 f A q e1 G1 p1 Dr=>?_;have Ξ:=by have:=Dr.len;simpa using this
 have Ux:(nN f A).length<=3:=by have:=aX j8 f;simp[nN];lia
 refine mn (w_next (n:=n+4) (wm:=11+X.length) (F:=F1) (T:=T1) (X:=gX X (my f) (nN f A)) (m:=8) (by decide)) λd F2 c2 b2=>?_;have hP:d5 ((iQ.take 7).map BS.run) ⟨cF (n+5),11+X.length⟩ (uD 15 [d7,.ref 0]) (hs F T X)=some (.er,pL X.length (some (.d (nD 3))) (some (.d (sD [113]))) (qf [some (.d (nD d)),q 1,q 2,q 3,q 4,q 5,q 6]) (some (.d (.tup []))) (some (.d (.tup []))),hs F2 T1 (gX X (my f) (nN f A))):=by have w1:=iD (X:=X) (z:=.lst [] .own) F T;exact wq [dR 0 (iD F X (Cell.lst [] Mode.own) T),dR 0 (Vc F T X),mf 4 e1,dR 2 c2]
 have m2:fv .Mod (nD d) (.int 2)=some (nD (d%2)):=uW;have m4:fv .Mod (nD d) (.int 4)=some (nD (d%4)):=Mn;have d4:fv .FloorDiv (nD d) (.int 4)=some (nD (d/4)):=ip (by decide) (by decide) (by lia);have Yd:d/4<=1:=by lia
 have s4:fv .Sub (.int 1) (nD (d/4))=some (nD (1-d/4)):=by show some (Mine.D.int _)=_;congr 2;omega
 have hS:∀{J:Prop},(∀y l E B k7,d5 (((iQ.drop 7).take 1).map BS.run) ⟨cF (n+5),11+X.length⟩ (pL X.length (some (.d (nD 3))) (some (.d (sD [113]))) (qf [some (.d (nD d)),q 1,q 2,q 3,q 4,q 5,q 6]) (some (.d (.tup []))) (some (.d (.tup [])))) (hs F2 T1 (gX X (my f) (nN f A)))=some (.er,pL X.length (some (.d (nD 3))) (some (.d (sD [113]))) (qf [some (.d (nD d)),k7,q 2,q 3,q 4,q 5,q 6]) (some (.d (ke E))) (some (.d (.tup []))),hs y l (gX X (my f) (nN f A++B.map fE)))->Good (g+5) l->T1<+:l->r9 l d0 E B->B.length<=1->J)->J:=by
  intro J P;by_cases h:d%2=1;.refine mn (w_next (n:=n+4) (wm:=11+X.length) (F:=F2) (T:=T1) (X:=gX X (my f) (nN f A)) (m:=3000) (by decide)) λd3 y c3 b3=>?_;refine d9 (oG (m:=d3) (by lia)) λO N U=>?_;refine jt (ow (F:=y) (X:=gX X (my f) (nN f A)) (n:=n+1) (wm:=11+X.length) (g:=g+5) G1 N) λmt l cm G3 p3 K=>?_;have ap:=oX (F:=y) (T:=l) (X:=X) (M:=dP) (c:=⟨cF (n+5),11+X.length⟩) (z:=.lst (my f) .own) (Z:=nN f A) (v:=fE ⟨d0,O,2,d/4⟩) (by lia);have mk:=Ef y l X (nN f A) (.lst (my f) .own);refine P y l (some (mt,d/4)) [⟨d0,O,2,d/4⟩] (some (.d (eF O))) ?_ G3 p3 (.inr ⟨_,_,rfl,rfl,rfl,rfl,rfl,Yd,K.up⟩) (aV _);rw[h]at m2;have U:=U (n+2) (11+X.length) (hs y T1 (gX X (my f) (nN f A)));exact wq [sd 2 m2,dR 5 c3,dR 1 U,dR 2 cm,sd 3 d4,sb 1 mk,sd 5 d4,dR 2 ap]
  .refine P F2 T1 none [] (q 1) ?_ (G1.le (by lia)) (aq _) (.inl ⟨rfl,rfl⟩) (bB _);have h':¬((d%2:Nat):Int)=1:=λe=>h (bW.mp e);generalize d%2=r2 at*;rw[bF,aL];exact wq [sd 2 m2,sb 1 (eA h')]
 refine hS λy l E B k7 eS G3 p3 I1 χ=>?_;have hN:∀{J:Prop},(∀j i C Q I,d5 (((iQ.drop 8).take 1).map BS.run) ⟨cF (n+5),11+X.length⟩ (pL X.length (some (.d (nD 3))) (some (.d (sD [113]))) (qf [some (.d (nD d)),k7,q 2,q 3,q 4,q 5,q 6]) (some (.d (ke E))) (some (.d (.tup [])))) (hs y l (gX X (my f) (nN f A++B.map fE)))=some (.er,pL X.length (some (.d (nD 3))) (some (.d (sD [113]))) (qf [some (.d (nD d)),I,q 2,q 3,q 4,q 5,q 6]) (some (.d (ke E))) (some (.d (ke C))),hs j i (gX X (my f) (nN f A++B.map fE++Q.map fE)))->Good (g+1) i->l<+:i->r9 i dZ C Q->J)->J:=by
  intro J P;have Yp:(nN f A++B.map fE).length<=4:=by rw[ao,ak];lia
  generalize nN f A++B.map fE=o at*;by_cases h:1<d%4;.refine mn (w_next (n:=n+4) (wm:=11+X.length) (F:=y) (T:=l) (X:=gX X (my f) o) (m:=3000) (by decide)) λd3 j c3 b3=>?_;refine d9 (oG (m:=d3) (by lia)) λO N U=>?_;refine jt (ow (F:=j) (X:=gX X (my f) o) (n:=n+1) (wm:=11+X.length) (g:=g+1) G3 N) λmt i cm R p4 K=>?_;refine P j i (some (mt,1-d/4)) [⟨dZ,O,2,1-d/4⟩] (some (.d (eF O))) ?_ R p4 (.inr ⟨_,_,rfl,rfl,rfl,rfl,rfl,by show 1-d/4<=1;lia,K.up⟩);have h':(1:Int)<((d%4:Nat):Int):=bh.mpr h;generalize d%4=r4 at*;exact wq [sd 2 m4,sb 1 (tX h'),dR 3 c3,dR 1 (U (n+2) (11+X.length) (hs j l (gX X (my f) o))),dR 2 cm,sd 4 d4,sd 1 s4,sb 1 (Ef j i X o (.lst (my f) .own)),sd 6 d4,sd 1 s4,dR 2 (oX (F:=j) (T:=i) (X:=X) (M:=dP) (c:=⟨cF (n+5),11+X.length⟩) (z:=.lst (my f) .own) (Z:=o) (v:=fE ⟨dZ,O,2,1-d/4⟩) (by lia))]
  .refine P y l none [] k7 ?_ (G3.le (by lia)) (aq _) (.inl ⟨rfl,rfl⟩);have h':¬(1:Int)<((d%4:Nat):Int):=λe=>h (bh.mp e);generalize d%4=r4 at*;rw[bF,aL];exact wq [sd 2 m4,sb 1 (tB h')]
 refine hN λj i C Q I eN R p4 I2=>?_;have ob:=N1 (T:=i) (ps:=f) (E:=E) (ni:=C) (Dr.nd) (by lia) R.lt;refine P ⟨j,_,_,_,?_,R.put,p1.trans (p3.trans (p4.trans eh)),Cp (R.put) (Dr.pre (p3.trans (p4.trans eh))) gr (I1.imp id λ⟨q,s,a,b,c,e⟩=>⟨q,s,a,b,c,e.pre (p4.trans eh)⟩) (I2.imp id λ⟨q,s,a,b,c,e⟩=>⟨q,s,a,b,c,e.pre eh⟩)⟩;rw[(show fG (.obj ((f.filter j8).map A++B++Q))=.tup [sD [123],.lst (nN f A++B.map fE++Q.map fE),.int 0]from by simp[fG,nN]),u0,ir rfl,dT];generalize nN f A++B.map fE++Q.map fE=o at*;have hR:d5 ((iQ.drop 9).map BS.run) ⟨cF (n+5),11+X.length⟩ (pL X.length (some (.d (nD 3))) (some (.d (sD [113]))) (qf [some (.d (nD d)),I,q 2,q 3,q 4,q 5,q 6]) (some (.d (ke E))) (some (.d (ke C)))) (hs j i (gX X (my f) o))=some (.ret (.d (.tup [nD (fL i (.obj (eK f) E C)),.tup [sD [123],.lst o,.int 0]])),pL X.length (some (.d (nD 3))) (some (.d (sD [113]))) (qf [some (.d (nD d)),I,q 2,q 3,q 4,q 5,q 6]) (some (.d (ke E))) (some (.d (ke C))),hs j (fj i (.obj (eK f) E C)) (X++[.lst (my f) .fz,.lst o .fz])):=by exact wq [dR 1 (show ik (.ref (11+X.length)) (hs j i (gX X (my f) o))=some (.d (.lst (my f)),hs j i (X++[.lst (my f) .fz,.lst o .own]))from by simp),dR 4 ((show Runs 2 218 [d7,.d (.lst (my f)),.d (.tup []),.d (.tup []),.d (ke E),.d (ke C)] i _ _ from ob) (n+3) (11+X.length) j (X++[.lst (my f) .fz,.lst o .own])),Q0 2 (Gr (F:=j) (T:=fj i (.obj (eK f) E C)) (X:=X) (z:=.lst (my f) .fz) (Z:=o) (md:=.own))]
 exact(ah (ck · (fin (11+X.length))) (gM hP (gM eS (gM eN hR)))).trans (i0 (Y:=[.lst (my f) .fz,.lst o .fz]) ..)
end
section
variable{F:ab Int}{T T' T1 T2:ab Row}{X Y:ab Cell}{n wm t g:Nat}{H:Hp}{k:ab W}{r:Row}{L:ab Slot}{p:Piece}
inductive g'(T:ab Row)(es:ab (Nat×Nat))(L:ab Slot)(sign m:Nat):Prop|tup(hl:L.length=es.length)(h1:∀e,es≠[(e,2)])(pw:es.Pairwise λx y=>x.2<=y.2/\x.2<2)(le:∀e∈es,e.2<=sign)(s2:sign<=2)(full:sign≠2->es.length=m)(lm:es.length<=m)(ok:∀(i:Nat)(e:Nat×Nat)(s:Slot),es[i]?=some e->L[i]?=some s->gH T i e s):g' T es L sign m|arr(e:Nat)(s:Slot)(he:es=[(e,2)])(hL:L=[s])(hs:sign=2)(hm:1<=m)(sg:s.sign=2)(hd:s.held=0)(key:s.key=dZ)(K:Kd T e s.kind):g' T es L sign m
theorem g'.pre(h:T<+:T')(s:g' T es L sign m):g' T' es L sign m:=by induction s with|tup l d pw B q c o ok=>exact .tup l d pw B q c o λi e s a b=>(ok i e s a b).pre h|arr e s j f hs hm y hd key K=>exact .arr e s j f hs hm y hd key (K.pre h)
theorem JY{a b:Nat}:iw 206 [.d (.int (a:Int)),.d (.int (b:Int))] H=some (nD (max a b)):=by show some (D.int (max (a:Int) b))=_;congr 2;omega
theorem g'.cnt(D:g' T es L 2 j):g' T es L 2 (j+1):=by induction D with|tup i c pw B l b o ok=>exact .tup i c pw B l (λh=>ay rfl h) ((aaz ‹_›)) ok|arr e s f d hs hm m hd key K=>exact .arr e s f d hs (aaz hm) m hd key K
theorem g'.len(D:g' T es L sign j)(c:j<4):(es.map g8).length<=3/\(L.map fE).length<=3:=by rw[ak,ak];induction D with|tup l m pw B o b d ok=>exact⟨au d (c8 c),l▸au d (c8 c)⟩|arr e s i f=>rw[i,f];simp
noncomputable def JB(j s:Nat):W:=if 0<j\/s<2then[34,48+j,34]else dZ
noncomputable def Tl(s:Nat)(b:ab W):ab W:=if s=1then ei [b,[d6]]else b
theorem g'.snoc{mt:Nat}(D:g' T es L sign j)(y:sign≠2)(p1:T<+:T1)(b1:f<3)(K:Kd T1 mt kd):g' T1 (es++[(mt,max sign f)]) (L++[⟨JB j (max sign f),Tl (max sign f) kd,max sign f,0⟩]) (max sign f) (j+1):=by
 induction D with
 |arr e s c Q hs=>exact ay hs y|tup E N pw B J d R ok=>
  have I:=Nat.max_le.mpr ⟨J,c8 b1⟩;have o:∀e∈es,e.2<=max sign f:=λe c=>au (B e c) (Nat.le_max_left _ _);have G:∀e∈es,e.2<2:=λe c=>aj (B e c) (Nat.lt_of_le_of_ne J y);have l:=d y;clear B b1 y d N J;generalize max sign f=P at*;subst l;by_cases hb:es.length=0/\P=2;.obtain rfl:=abp.mp hb.1;obtain rfl:=abp.mp E;obtain⟨_,rfl⟩:=hb;exact .arr mt _ rfl rfl rfl (aV _) rfl rfl rfl K
  .refine .tup (by rw[ao,ao,E];rfl) (λe c=>?_) ?_ (λe c=>?_) I (λ_=>by simp) (by simp) (λi e s m hs=>?_);.
    have C:es=[]:=by have:=ah bq c;simpa using this
    subst C;exact hb ⟨rfl,(pJ (bx c).1).2⟩
   .rw[aaM];refine⟨pw,cj _ _,λa M b A=>?_⟩;rw[kE A];exact⟨o a M,G a M⟩
   .rcases aJ.mp c with q|q;.exact o e q
    .rw[kE q];exact aV _
   .rcases df i es.length with q|q;.rw[aU q]at m;rw[aU (by lia)]at hs;exact(ok i e s m hs).pre p1
    .rw[bk q]at m;rw[bk (by lia),E]at hs;rcases O:i-es.length with _|z<;>rw[O]at m hs;.
      obtain rfl:=(sI m).symm;obtain rfl:=(sI hs).symm;have:i=es.length:=by lia
      rw[this];exact⟨rfl,rfl,(aW (by lia)),kd,K,by simp only[ba];rfl⟩
     .exact ec m
noncomputable def t4(i ro cnt b:Nat)(q:Nat->ae V):Loc:=[some d7,some (.ref 0),some (.d (nD ro)),some (.d (nD cnt)),some (.ref (11+i)),some (.ref (11+(i+1))),some (.d (nD b)),q 0,q 1,q 2,q 3]
theorem ze{q:Nat->ae V}{γ:Prop}(G:Good (g+4) T)(D:g' T es L f j)(hj:j<4)(κ:∀fl F' T' es' L' B q',(fl=.er\/fl=.cnt)->d5 (ij.map BS.run) ⟨cF (n+5),11+X.length⟩ (t4 X.length ro cnt f (qf [some (.d (nD j)),q 1,q 2,q 3])) (hs F T (gX X (es.map g8) (L.map fE)))=some (fl,t4 X.length ro cnt B q',hs F' T' (gX X (es'.map g8) (L'.map fE)))->Good g T'->T<+:T'->g' T' es' L' B (j+1)->γ):γ:=by
 have η:=D.len hj;refine mn (w_next (n:=n+4) (wm:=11+X.length) (F:=F) (T:=T) (X:=gX X (es.map g8) (L.map fE)) (m:=3) (by decide)) λs F1 c1 b1=>?_;refine mn (w_next (n:=n+4) (wm:=11+X.length) (F:=F1) (T:=T) (X:=gX X (es.map g8) (L.map fE)) (m:=3000) (by decide)) λd2 o c2 b2=>?_;refine d9 (oG (m:=d2+j) (by lia)) λC O R=>?_;have V3:=tn (a:=d2) (b:=j);have R:=R (n+2) (11+X.length) (hs o T (gX X (es.map g8) (L.map fE)));by_cases h2:f=2;.subst h2;refine κ .cnt o T es L 2 (qf [some (.d (nD j)),some (.d (nD s)),some (.d (eF C)),q 3]) (.inr rfl) ?_ (G.le ((aH _ _))) (aq _) D.cnt;exact wq [dR 2 c1,dR 2 c2,dR 4 R]
 .refine jt (ow (F:=o) (X:=gX X (es.map g8) (L.map fE)) (n:=n+1) (wm:=11+X.length) G O) λmt T1 cm G1 p1 K=>?_;refine κ .er o T1 _ _ _ (qf [some (.d (nD j)),some (.d (nD s)),some (.d (eF C)),some (.d (eF (Tl (max f s) C)))]) (.inl rfl) ?_ G1 p1 (D.snoc h2 p1 b1 K.up);rw[aD,aD];generalize es.map g8=U at*;generalize L.map fE=N at*;have hA:d5 ((ij.take 5).map BS.run) ⟨cF (n+5),11+X.length⟩ (t4 X.length ro cnt f (qf [some (.d (nD j)),q 1,q 2,q 3])) (hs F T (gX X U N))=some (.er,t4 X.length ro cnt (max f s) (qf [some (.d (nD j)),some (.d (nD s)),some (.d (eF C)),q 3]),hs o T1 (gX X (U++[g8 (mt,max f s)]) N)):=by have E:=rJ (F:=o) (T:=T1) (X:=X) (M:=dP) (c:=⟨cF (n+5),11+X.length⟩) (z:=.lst N .own) (Z:=U) (v:=g8 (mt,max f s)) (by lia);have P:=KI o T X U (.lst N .own);exact wq [dR 2 c1,dR 2 c2,dR 4 R,sb 1 (eA (λq=>h2 (cP q))),sd 1 (JY (H:=hs o T (gX X (es.map g8) (L.map fE))) (a:=f) (b:=s)),sb 0 P,dR 2 cm,dR 3 E]
  generalize max f s=l at*;have hB:∀H,d5 (((ij.drop 5).take 1).map BS.run) ⟨cF (n+5),11+X.length⟩ (t4 X.length ro cnt l (qf [some (.d (nD j)),some (.d (nD s)),some (.d (eF C)),q 3])) H=some (.er,t4 X.length ro cnt l (qf [some (.d (nD j)),some (.d (nD s)),some (.d (eF C)),some (.d (eF (Tl l C)))]),H):=by
   intro H;unfold Tl;by_cases h:l=1;.have jj:=Hm (n:=n+4) (wm:=11+X.length) (H:=H) O.fb.kb;rw[aW h,h];exact wq [dR 7 jj]
   .have h':¬(l:Int)=1:=λq=>h (cP q);rw[aZ h];exact wq [sb 1 (eA h')]
  have hC:∀Q y,d5 ((ij.drop 6).map BS.run) ⟨cF (n+5),11+X.length⟩ (t4 X.length ro cnt l (qf [some (.d (nD j)),some (.d (nD s)),some (.d (eF C)),some (.d (eF Q))])) (hs o T1 (gX X y N))=some (.er,t4 X.length ro cnt l (qf [some (.d (nD j)),some (.d (nD s)),some (.d (eF C)),some (.d (eF Q))]),hs o T1 (gX X y (N++[fE ⟨JB j l,Q,l,0⟩]))):=by
   intro Q y;have E:=oX (F:=o) (T:=T1) (X:=X) (M:=dP) (c:=⟨cF (n+5),11+X.length⟩) (z:=.lst y .own) (Z:=N) (v:=fE ⟨JB j l,Q,l,0⟩) (by lia);have P:=Ef o T1 X N (.lst y .own);have dg:=digit (H:=hs o T1 (gX X y N)) (i:=j) (by lia);have a1:=gE (a:=[34]) (b:=[48+j]) (by rw[eO];simp);have a2:=gE (a:=[34,48+j]) (b:=[34]) (by rw[eO];simp);unfold JB at E⊢;by_cases J:0<j;.have I:=bh.mpr J;rw[aW (.inl J)]at E⊢;exact wq [sb 0 P,sb 1 (tX I),sd 2 dg,dR 10 E]
   .have I:¬(0:Int)<j:=λe=>J (bh.mp e);by_cases mN:l<2;.have A:(l:Int)<2:=bh.mpr mN;rw[aW (.inr mN)]at E⊢;exact wq [sb 0 P,sb 1 (tB I),sb 2 (tX A),sd 2 dg,dR 10 E]
    .have A:¬(l:Int)<2:=λe=>mN (bh.mp e);rw[aZ (by simp[J,mN])]at E⊢;exact wq [sb 0 P,sb 1 (tB I),sb 2 (tB A),dR 6 E]
  have h:=gM hA (gM (hB _) (hC (Tl l C) _));exact h
theorem zg{ro cnt:Nat}{i:Prop}:∀(k:Nat){j:Nat}{F:ab Int}{T:ab Row}{es:ab (Nat×Nat)}{L:ab Slot}{b:Nat}{q:Nat->ae V},Good (g+4*k) T->g' T es L b j->j+k<=4->(∀o T' es' L' c N,hH (.one 7) (d5 (ij.map BS.run)) ⟨cF (n+5),11+X.length⟩ ((aaA j k).map nD) (t4 X.length ro cnt b q) (hs F T (gX X (es.map g8) (L.map fE)))=some (.er,t4 X.length ro cnt c N,hs o T' (gX X (es'.map g8) (L'.map fE)))->Good g T'->T<+:T'->g' T' es' L' c (j+k)->i)->i:=by intro k;induction k with|zero=>intro j F T es L b q G D J f;exact f F T es L b q rfl G (aq _) D|succ k ih=>intro j F T es L b q G D J f;refine ze (F:=F) (X:=X) (n:=n) (g:=g+4*k) (ro:=ro) (cnt:=cnt) (q:=q) G D (by lia) λU s T1 E R Z O I e z K l=>?_;refine ih (F:=s) (q:=O) z l (by lia) λy T2 d B Q P C A M m=>?_;exact f y T2 d B Q P (gV rfl I e C) A (K.trans M) (by rw[aal k,←aat];exact m)
theorem Qu(G:Good (g+13) T):∃f t' L ro T',cF (n+6) wm 990 [d7,.ref 0] (hs F T X)=some (.d (.tup [nD t',fG (.lst L ro)]),hs f T' X)/\Good g T'/\T<+:T'/\h8 T' t' (.lst L ro):=by
 refine hd λγ κ=>?_;refine mn (w_next (n:=n+4) (wm:=11+X.length) (F:=F) (T:=T) (X:=X) (m:=2) (by decide)) λro U a b1=>?_;refine mn (w_next (n:=n+4) (wm:=11+X.length) (F:=U) (T:=T) (X:=X) (m:=4) (by decide)) λi A c2 h=>?_;refine zg (X:=X) (n:=n) (g:=g+1) (ro:=ro) (cnt:=i) i (F:=A) (q:=qf []) (G.le (by lia)) (.tup rfl (by simp) .nil (by simp) (bB _) (λ_=>rfl) (aV _) (nofun):g' T [] [] 0 0) (by lia) λf T' b L R q N J p' D=>?_;rw[bS]at D;rw[←aaa]at N;have M:mz b:=by induction D with|tup O C pw B Q o P I=>exact⟨pw,λe y=>au (B e y) Q,aj P (bM h (by decide))⟩|arr e s y=>rw[y];exact⟨cj _ _,by simp,by simp⟩
 have c:=gr (T:=T') (r:=qd b ro);refine κ ⟨f,fL T' (qd b ro),L,ro,fj T' (qd b ro),?_,J.put,p'.trans eh,?_⟩;.rw[show fG (.lst L ro)=.tup [sD [91],.lst (L.map fE),nD ro]from rfl];clear D c;generalize b.map g8=j at*;generalize L.map fE=l at*;exact wk zH dT [dR 2 a,dR 2 c2,dR 0 (iD A X (.lst [] .own) T),dR 0 (Vc A T X),jY 1 (iB (n:=i) (by lia) (hs A T (X++[.lst [] .own,.lst [] .own]))),mf 0 N,dR 1 (show ik (.ref (11+X.length)) (hs f T' (gX X j l))=some (.d (.lst j),hs f T' (X++[.lst j .fz,.lst l .own]))from by simp),dR 1 ((rH (T:=T') (x:=.lst (b.map g8)) (ro:=ro) M (.inr rfl) J.lt) (n+2) (11+X.length) f (X++[.lst j .fz,.lst l .own])),Q0 2 (Gr (F:=f) (T:=fj T' (qd b ro)) (X:=X) (z:=.lst j .fz) (Z:=l) (md:=.own)),dR 2 (i0 f X [.lst j .fz,.lst l .fz] (.tup [nD (fL T' (qd b ro)),.tup [sD [91],.lst l,nD ro]]) (fj T' (qd b ro)))]
 .induction D.pre (eh (T:=T') (r:=qd b ro))with|tup O C pw B Q o P I=>have e:qd b ro=.tup b ro:=r6 C;rw[e]at c I⊢;exact⟨_,c,by lia,.tup b rfl M C O (by lia) I⟩|arr e s y hL hs hm sg hd E K=>subst y hL;exact⟨_,c,by lia,.arr e s rfl rfl sg hd E K⟩
end
noncomputable def wU(T:ab Row)(r:Row)(w:W):Prop:=∃p,eE T r p/\w=eV p
theorem Sr:tM (wU T):=od.more λr w h=>by obtain⟨p,h,rfl⟩:=h;induction p using Piece.casesOn with|prim w=>exact .inl h.1|obj L=>refine(let c:Prop:=_;(?_:c));obtain⟨j,E,i,A,d,f,o⟩:=h;exact .inr ⟨g7 (by simp),by rw[o.r];trivial⟩|lst L k=>refine .inr ⟨g7 (by simp),?_⟩;cases h.2with|tup g b=>rw[b];trivial|arr e s b=>rw[b];trivial
section
variable{F:ab Int}{T T' T1 T2:ab Row}{X Y:ab Cell}{n wm t g:Nat}{H:Hp}{k:ab W}{r:Row}{L:ab Slot}{p:Piece}
structure zk(T:ab Row)(t:Nat)(ps:ab Piece):Prop where
 sh:∃k,ShQ (wU T) T t k/\∀w,w∈k↔∃p∈ps,w=eV p
 to:∀q∈parts T t,∃p∈ps,h8 T q p
 mC:∀p∈ps,∃q∈parts T t,h8 T q p
theorem zk.pre(h:T<+:T')(s:zk T t ps):zk T' t ps:=by
 refine d9 (s.sh) λk a b=>?_;have e:=kh h a.lt;refine⟨⟨k,a.imp h λr w f=>d9 f λp x y=>⟨p,x.pre h,y⟩,b⟩,λq j=>?_,λp i=>?_⟩;.refine d9 (s.to q (e▸j)) λp c d=>?_;exact i12 p c (d.pre h)
 .refine d9 (s.mC p i) λq c d=>?_;exact i12 q (e▸c) (d.pre h)
theorem OX(G:Good g T)(h:h8 T t p):zk T t [p]/\parts T t=[t]:=by
 refine d9 (h) λr d c=>?_;refine lK (pW G d c) λe _=>?_;refine⟨⟨⟨[eV p],ma Sr G d ⟨p,c,rfl⟩,by simp⟩,λq f=>?_,λi b=>?_⟩,e⟩;.rw[e]at f;simp only[af,ai,a5]at f;refine sY f ?_;exact⟨p,by simp,r,d,c⟩
 .replace b:=kE b;refine sY b ?_;exact⟨t,by rw[e];simp,r,d,c⟩
theorem F9(h:ShQ ek T t k)(s:∀w∈k,w∈kz):zk T t (k.map .prim):=by
 have i:∀w∈k,w≠fW/\w≠ea:=by
  intro w f;have:=s w f;constructor;.intro e;subst e;exact ay this (by decide)
  .intro e;subst e;exact ay this (by decide)
 have l:∀q∈parts T t,∃r w,T[q]?=some r/\w∈k/\eE T r (.prim w):=by intro q d;refine iL (h.to q d) λr w a b c=>?_;exact jR r w ⟨a,c,b,(i w c).1,(i w c).2⟩
 have j:∀w∈k,∃q∈parts T t,∃r,T[q]?=some r/\eE T r (.prim w):=by intro w f;refine(let A:Prop:=_;(?_:A));refine d9 (h.mC w f) λq d m=>?_;refine d9 m λr a b=>?_;exact⟨q,d,r,a,b,(i w f).1,(i w f).2⟩
 refine⟨⟨k,⟨h.lt,h.wz,h.nd,λq d=>?_,λw f=>?_⟩,λw=>?_⟩,λq d=>?_,λp o=>?_⟩;.refine iL (l q d) λr w a b c=>?_;exact jR r w ⟨a,⟨_,c,rfl⟩,b⟩
 .refine d9 (j w f) λq d m=>?_;refine d9 m λr a b=>?_;exact⟨q,d,r,a,_,b,rfl⟩
 .constructor;.intro f;exact⟨.prim w,ag.mpr ⟨w,f,rfl⟩,rfl⟩
  .rintro⟨p,o,rfl⟩;obtain⟨v,y,rfl⟩:=ag.mp o;exact y
 .refine iL (l q d) λr w a b c=>?_;exact i12 _ (ag.mpr ⟨w,b,rfl⟩) ⟨r,a,c⟩
 .refine d9 (ag.mp o) λw f z=>?_;subst z;refine d9 (j w f) λq d m=>?_;refine d9 m λr a b=>?_;exact⟨q,d,r,a,b⟩
theorem Qm{R:ab (Nat×ab Piece)}(G:Good (g+1) T)(h:∀z∈R,zk T z.1 z.2)(N:tK (R.flatMap (·.2)))(hl:((R.map (·.1)).flatMap (parts T)).length<=(R.flatMap (·.2)).length)(hp:(R.flatMap (·.2)).length<=4):∃t' T',Runs 3 289 [d7,.d (.lst ((R.map (·.1)).map nD))] T (.d (nD t')) T'/\Good g T'/\T<+:T'/\NInv T' t' (R.flatMap (·.2))/\t'≠0/\t'≠1/\t'≠10:=by
 refine(let γ:Prop:=_;(?_:γ));have hk:∀z∈R,∃k,ShQ (wU T) T z.1 k/\∀w,w∈k↔∃p∈z.2,w=eV p:=λz f=>(h z f).sh;obtain⟨U,l⟩:∃U:Nat×ab Piece->ab W,∀z∈R,ShQ (wU T) T z.1 (U z)/\∀w,w∈U z↔∃p∈z.2,w=eV p:=by classical refine⟨λz=>if h:∃k,ShQ (wU T) T z.1 k/\∀w,w∈k↔∃p∈z.2,w=eV p then ac4 h else[],λz f=>?_⟩;simp only[hk z f,dif_pos];exact abN (hk z f)
 refine(tA Sr G (ts:=R.map (·.1)) (.inr rfl) (λt M=>by obtain⟨z,f,rfl⟩:=ag.mp M;exact⟨U z,ag.mpr ⟨z,f,rfl⟩,(l z f).1⟩) (λk ZH=>by obtain⟨z,f,rfl⟩:=ag.mp ZH;exact⟨z.1,ag.mpr ⟨z,f,rfl⟩,(l z f).1⟩) (by lia) λt' T' c Z p' s y B h1=>?_);have hj:ei (R.map U)=ei ((R.flatMap (·.2)).map λp=>[eV p]):=uw λw=>by
  simp only[ag,cu];constructor;.intro ZU;refine(let γ:Prop:=_;(?_:γ));obtain⟨_,⟨z,f,rfl⟩,Q⟩:=ZU;refine d9 (((l z f).2 w).mp Q) λp i e=>?_;exact i12 _ ⟨p,⟨z,f,i⟩,rfl⟩ (by simp[e])
  .intro VB;obtain⟨_,⟨p,⟨z,f,i⟩,rfl⟩,Q⟩:=VB;replace Q:=kE Q;exact⟨_,⟨z,f,rfl⟩,((l z f).2 w).mpr ⟨p,i,Q⟩⟩
 rw[hj]at s B;have O:∀q∈(R.map (·.1)).flatMap (parts T),∃p∈R.flatMap (·.2),h8 T q p:=by intro q K;refine d9 (cu.mp K) λt M K=>?_;obtain⟨z,f,rfl⟩:=ag.mp M;refine d9 ((h z f).to q K) λp a b=>?_;exact i12 p (cu.mpr ⟨z,f,a⟩) b
 have P:∀q∈parts T' t',∃p∈R.flatMap (·.2),h8 T' q p:=λq K=>by refine d9 (O q (y q K)) λp a b=>?_;exact i12 p a (b.pre p')
 have C:=au (len_sub s.nd y) hl;have m:∀p∈R.flatMap (·.2),∃q∈parts T' t',h8 T' q p:=by intro p i;refine d9 (cu.mp i) λz f ZO=>?_;obtain⟨q,a,r,b,c'⟩:=(h z f).mC p ZO;exact i12 q (B q (cu.mpr ⟨z.1,ag.mpr ⟨z,f,rfl⟩,a⟩) r _ b ⟨p,c',rfl⟩ (N.kept i)) ⟨r,fQ p' b,c'.pre p'⟩
 refine Q7 t' T' c Z p' ⟨s.lt,s.nd,P,m,N,au C hp,hp,λp1 e1=>h1 ?_⟩ ?_;.refine d9 (m p1 (by rw[e1];simp)) λq K _=>?_;rw[e1]at C;simp at C;have:=aaw K;lia
 .have I:∀{j:Nat}{s:W},T'[j]?=some (.key s)->j≠2->(∀p,¬eE T' (.key s) p)->t'≠j:=by intro j s hj YH hn e;subst e;have e1:=eQ hj YH (by simp);obtain⟨p,_,r,a,b⟩:=P t' (by rw[e1];simp);rw[hj]at a;obtain rfl:=sI a;exact hn p b
  have J:∀s,s≠d6->s≠gy->s≠d0->s≠dZ->∀p,¬eE T' (.key s) p:=by intro s h1 h2 h3 h4 p hP;induction p using Piece.casesOn with|prim w=>obtain⟨Wd,na,nu⟩:=hP;have h:=Wd.1;have e:=Wd.2;subst e;simp only[af,ai,a5]at h;rcases h with rfl|rfl|rfl|rfl|rfl|rfl<;>simp_all|obj L=>obtain⟨ps,E,ni,A,L1,L2,o⟩:=hP;cases o.r|lst L ro=>cases hP.2with|tup es M=>exact xc Row.ctorIdx M rfl|arr e s M=>exact xc Row.ctorIdx M rfl
  exact⟨I (Z.at rfl) (by decide) (J _ (by decide) (by decide) (by decide) (by decide)),I (Z.at rfl) (by decide) (J _ (by decide) (by decide) (by decide) (by decide)),I (Z.at rfl) (by decide) (J _ (by decide) (by decide) (by decide) (by decide))⟩
noncomputable def mH(T:ab Row)(t:Nat)(ps:ab Piece):Prop:=(t=0/\ps=[.obj [anyS]])\/((t=1\/t=10)/\ps=[.obj []])\/(NInv T t ps/\t≠0/\t≠1/\t≠10)
theorem yB(h:Sz k)(d:∀p∈ps,∀w,p≠.prim w):tK (k.map .prim++ps):=by
 have b:∀w,Piece.prim w∈k.map .prim++ps↔w∈k:=by
  intro w;rw[aJ];constructor;.
   rintro(q|q);.refine d9 (ag.mp q) λv f e=>?_;cases e;exact f
   .exact ay rfl (d _ q w)
  .intro q;exact .inl (ag.mpr ⟨w,q,rfl⟩)
 refine⟨λq=>?_,λq=>?_,λq w c=>h.1.n.str ((b _).mp q) w ((b _).mp c),λq w c=>h.1.n.num ((b _).mp q) w ((b _).mp c)⟩;.exact ay (h.2 _ ((b _).mp q)) (by decide)
 .exact ay (h.2 _ ((b _).mp q)) (by decide)
end
section
variable{F:ab Int}{T T' T1 T2:ab Row}{X Y:ab Cell}{n wm t g:Nat}{H:Hp}{k:ab W}{r:Row}{L:ab Slot}{p:Piece}
theorem Mb(h:Z.length+ys.length<64):fJ M c (.ref (11+(X.length+1))) 101 [.d (.lst ys)] (hs F T (X++[z,.lst Z .own]))=some (.d .fS,hs F T (X++[z,.lst (Z++ys) .own])):=by rw[Wr qJ (by decide) (by rw[eO];lia),AR]
@[simp]theorem OY:iZ M (.ref (11+(X.length+1))) 101 (hs F T (X++[z,.lst Z md]))=true:=jn qJ 101 M
structure i7(T:ab Row)(R:ab (Nat×ab Piece))(m:Nat):Prop where
 ok:∀z∈R,zk T z.1 z.2
 wz:∃k ps,R.flatMap (·.2)=k.map .prim++ps/\Sz k/\∀p∈ps,∀w,p≠.prim w
 l1:((R.map (·.1)).flatMap (parts T)).length<=m
 l2:(R.flatMap (·.2)).length<=m
 l3:R.length<=m
 le:((R.map (·.1)).flatMap (parts T)).length<=(R.flatMap (·.2)).length
theorem i7.pre(h:T<+:T')(s:i7 T R m):i7 T' R m:=by
 have:(R.map (·.1)).flatMap (parts T')=(R.map (·.1)).flatMap (parts T):=by rw[ac2,ac2];congr 1;refine bG λt c=>?_;refine d9 (ag.mp c) λz b d=>?_;refine sZ d ?_;refine d9 ((s.ok z b).sh) λk a _=>?_;exact kh h a.lt
 exact⟨λz b=>(s.ok z b).pre h,s.wz,(sY this s.l1),s.l2,s.l3,(sY this s.le)⟩
theorem Lu:Sz []:=⟨⟨pA,by simp,by simp⟩,by simp⟩
theorem i7.nil:i7 T [] 0:=⟨by simp,⟨[],[],rfl,Lu,by simp⟩,by simp,by simp,by simp,by simp⟩
theorem i7.snoc(G:Good g T)(s:i7 T R m)(h:h8 T t p)(i:∀w,p≠.prim w):i7 T (R++[(t,[p])]) (m+1):=by
 refine lK (OX G h) λo e=>?_;refine iL (s.wz) λk y c d f=>?_;refine⟨λz l=>?_,⟨k,y++[p],?_,d,λq j=>?_⟩,?_,?_,?_,?_⟩;.
  rcases aJ.mp l with q|q;.exact s.ok z q
  .replace q:=kE q;refine sY q ?_;exact o
 .rw[b4,c];simp
 .rcases aJ.mp j with b|b;.exact f q b
  .replace b:=kE b;refine sY b ?_;exact i
 .have:=s.l1;rw[aD,b4,ao];simp only[ar,bF,cB,aag,aL,e,bf,bQ];lia
 .have:=s.l2;rw[b4,ao];simp only[cB,aag,aL,bf,bQ];lia
 .have:=s.l3;simp;exact this
 .have:=s.le;rw[aD,b4,ao,b4,ao];simp only[ar,bF,cB,aag,aL,e,bf,bQ];lia
noncomputable def Bz(R:ab (Nat×ab Piece)):ab D:=(R.map (·.1)).map nD
noncomputable def xP(R:ab (Nat×ab Piece)):ab D:=(R.flatMap (·.2)).map fG
theorem Ih:Bz (R++[(t,[p])])=Bz R++[nD t]:=by simp[Bz]
theorem GB:xP (R++[(t,[p])])=xP R++[fG p]:=by simp[xP]
noncomputable def lj(i:Nat)(o2 Q O C E A:ae V):Loc:=[some d7,some (.ref 0),o2,Q,some (.ref (11+(i+1))),some (.ref (11+i)),O,C,E,A]
noncomputable abbrev E4(X:ab Cell)(R:ab (Nat×ab Piece)):ab Cell:=X++[.lst (Bz R) .own,.lst (xP R) .own]
noncomputable abbrev ku(F:ab Int)(T:ab Row)(X:ab Cell)(R:ab (Nat×ab Piece)):Hp:=hs F T (E4 X R)
section
variable{R:ab (Nat×ab Piece)}{m:Nat}{o2 Q O C E A:ae V}{γ:Prop}
theorem wD(s:i7 T R m)(e:m<=4)(c:cF (n+6) (11+X.length) f [d7,.ref 0] (ku F T X R)=some (.d (.tup [nD t,fG p]),ku b T' X R)):d5 ((qO f).map BS.run) ⟨cF (n+6),11+X.length⟩ (lj X.length o2 Q O C E A) (ku F T X R)=some (.er,lj X.length o2 Q O (some (.d (nD t))) (some (.d (fG p))) A,ku b T' X (R++[(t,[p])])):=by
 have j:(Bz R).length<=4:=by have:=s.l3;simp[Bz];lia
 have i:(xP R).length<=4:=by have:=s.l2;rw[xP,ak];lia
 rw[show ku b T' X (R++[(t,[p])])=hs b T' (X++[.lst (Bz R++[nD t]) .own,.lst (xP R++[fG p]) .own])from by rw[←Ih,←GB]];exact wq [dR 2 c,sb 0 (KI b T' X (Bz R) (.lst (xP R) .own)),dR 1 ((λz=>rJ (F:=b) (T:=T') (X:=X) (M:=dP) (c:=⟨cF (n+6),11+X.length⟩) (z:=z) (Z:=Bz R) (v:=nD t) (by lia)) (.lst (xP R) .own)),sb 0 (Ef b T' X (xP R) (.lst (Bz R++[nD t]) .own)),dR 1 ((λz=>oX (F:=b) (T:=T') (X:=X) (M:=dP) (c:=⟨cF (n+6),11+X.length⟩) (z:=z) (Z:=xP R) (v:=fG p) (by lia)) (.lst (Bz R++[nD t]) .own))]
theorem GR(G:Good (g+21) T)(s:i7 T R m)(i:m<=4)(κ:∀f T' b j l,d5 ((qO 983).map BS.run) ⟨cF (n+6),11+X.length⟩ (lj X.length o2 Q O C E A) (ku F T X R)=some (.er,lj X.length o2 Q O j l A,ku f T' X b)->Good g T'->T<+:T'->i7 T' b (m+1)->γ):γ:=VU (FO G) λ_ _ _ _ c d e P=>κ _ _ _ _ _ (wD s i c) d e ((s.pre e).snoc d P nofun)
theorem It(G:Good (g+13) T)(s:i7 T R m)(i:m<=4)(κ:∀f T' b j l,d5 ((qO 990).map BS.run) ⟨cF (n+6),11+X.length⟩ (lj X.length o2 Q O C E A) (ku F T X R)=some (.er,lj X.length o2 Q O j l A,ku f T' X b)->Good g T'->T<+:T'->i7 T' b (m+1)->γ):γ:=Zj (Qu G) λ_ _ _ _ _ c d e P=>κ _ _ _ _ _ (wD s i c) d e ((s.pre e).snoc d P nofun)
theorem Cd(G:Good (g+4) T)(κ:∀B T' y q6,d5 (mM.map BS.run) ⟨cF (n+6),11+X.length⟩ (lj X.length o2 Q O C E A) (ku F T X [])=some (.er,lj X.length o2 Q q6 C E A,ku B T' X y)->Good g T'->T<+:T'->i7 T' y 3->γ):γ:=by
 refine mn (w_next (n:=n+5) (wm:=11+X.length) (F:=F) (T:=T) (X:=E4 X []) (m:=3000) (by decide)) λd f J b1=>?_;refine d9 (w5 (m:=d) (by lia)) λi b K=>?_;have P:=b.1.l;refine C5 (Ax (F:=f) (X:=E4 X []) (n:=n+2) (wm:=11+X.length) (G.le ((cw ‹_› _))) b.1.n b.1.w (by lia)) λj T' N I p' s a=>?_;have q:=λz=>Mb (F:=f) (T:=T') (X:=X) (M:=dP) (c:=⟨cF (n+6),11+X.length⟩) (z:=z) (Z:=[]) (ys:=(i.map Piece.prim).map fG) (by simp;lia);rw[aK]at q;refine κ f T' [(j,i.map .prim)] (some (.d (eF i))) ?_ I p' ⟨?_,⟨i,[],rfl,b,by simp⟩,?_,?_,by simp,by simp;exact a⟩;.unfold ku E4;rw[(show xP [(j,i.map Piece.prim)]=i.map (λw=>fG (.prim w))from by simp[xP])];exact wq [dR 2 J,dR 1 (K (n+4) (11+X.length) (hs f T (E4 X []))),sb 0 (KI f T X [] (.lst [] .own)),dR 2 N,dR 1 ((λz=>rJ (F:=f) (T:=T') (X:=X) (M:=dP) (c:=⟨cF (n+6),11+X.length⟩) (z:=z) (Z:=[]) (v:=nD j) (by simp)) (.lst [] .own)),sb 0 (ah some (OY (F:=f) (T:=T') (X:=X) (z:=.lst [nD j] .own) (Z:=[]) (md:=.own) (M:=dP))),jY 1 (fV (elt:=(d8 [dM 10,fq [],dN (.int 0)]).run) (c:=⟨cF (n+6),11+X.length⟩) (e:=sD) (H:=hs f T' (X++[.lst [nD j] .own,.lst [] .own])) (lj X.length o2 Q (some (.d (eF i))) C E A) i (λw=>fG (.prim w)) (λw _=>wd []) (o:=none)),dR 1 (q (.lst [nD j] .own))]
 .intro z h;rw[kE h];exact F9 s λw U=>b.2 w U
 .simp;lia
 .simp;omega
end
end
section
variable{F:ab Int}{T T' T1 T2:ab Row}{X Y:ab Cell}{n wm t g:Nat}{H:Hp}{k:ab W}{r:Row}{L:ab Slot}{p:Piece}
theorem CQ{o2 Q O:ae V}:∀(B:ab D){F:ab Int}{T:ab Row}{R:ab (Nat×ab Piece)}{m:Nat}{C E A:ae V}{f:Prop},Good (g+21*B.length) T->i7 T R m->m+B.length<=4->(∀y T' c i j U,hH (.one 9) (d5 ((qO 983).map BS.run)) ⟨cF (n+6),11+X.length⟩ B (lj X.length o2 Q O C E A) (ku F T X R)=some (.er,lj X.length o2 Q O i j U,ku y T' X c)->Good g T'->T<+:T'->i7 T' c (m+B.length)->f)->f:=by intro B;induction B with|nil=>intro F T R m C E A f G s q o;exact o F T R C E A rfl G (aq _) s|cons d B ih=>intro F T R m C E A f G s q o;simp only[bf]at G q;refine GR (F:=F) (X:=X) (n:=n) (g:=g+21*B.length) (o2:=o2) (Q:=Q) (O:=O) (C:=C) (E:=E) (A:=some (.d d)) (G.le (by lia)) s (by lia) λz T1 A! i j e J N s1=>?_;refine ih (F:=z) (C:=i) (E:=j) (A:=some (.d d)) J s1 (by lia) λI T2 l Z h a M K P s2=>?_;refine o I T2 l Z h a ?_ K (N.trans P) (by rw[bf,aal B.length,←aat];exact s2);refine Eq.trans (b:=((d5 ((qO 983).map BS.run) ⟨cF (n+6),11+X.length⟩ (lj X.length o2 Q O C E (some (.d d))) (ku F T X R)).bind (TK (.one 9) (d5 ((qO 983).map BS.run)) ⟨cF (n+6),11+X.length⟩ B))) rfl ?_;rw[e];exact M
noncomputable abbrev O8:ab Nat:=[1,1,1,0,1,1,0,2]
noncomputable def v7(s:Nat):Nat:=O8.getD s 0
theorem OK(h:s<8):([D.int 1,.int 1,.int 1,.int 0,.int 1,.int 1,.int 0,.int 2]:ab D)[s]?=some (nD (v7 s)):=(bV (f:=nD) (l:=O8)).trans (by rw[(show∀s<8,O8[s]?=some (v7 s)from by decide+kernel) s h];rfl)
theorem Sh:∀s<8,v7 s<=2:=by decide+kernel
theorem RN:∀s<8,¬(s=3\/s=5)->(if s=6\/s=4then 3 else 0)+v7 s<=4:=by decide+kernel
theorem Q3:∀s<8,s=3\/s=5->0+1+v7 s<=4:=by decide+kernel
theorem So(hs:s=6\/s=4):(i6 [(TE (dS .Eq (dM 2) (dN (.int 6)))),(TE (dS .Eq (dM 2) (dN (.int 4))))]).run c (lj i (some (.d (nD s))) Q O C E A) H=some (true,H):=by rcases hs with rfl|rfl<;>rfl
theorem Tv(hs:s=3\/s=5):(i6 [(TE (dS .Eq (dM 2) (dN (.int 3)))),(TE (dS .Eq (dM 2) (dN (.int 5))))]).run c (lj i (some (.d (nD s))) Q O C E A) H=some (true,H):=by rcases hs with rfl|rfl<;>rfl
theorem DI{f:Prop}(G:Good (g+60) T)(h:s<8)(κ:∀F' t' ps T' l' z1 z2,d5 ((fH.drop 2).map BS.run) ⟨cF (n+6),11+X.length⟩ [some d7,some (.ref 0),some (.d (nD s)),Q,none,none,none,none,none,none] (hs F T X)=some (.ret (.d (.tup [nD t',.lst (ps.map fG)])),l',hs F' T' (X++[z1,z2]))->Good g T'->T<+:T'->mH T' t' ps->f):f:=by
 have hP:∀{f:Prop},(∀l T1 R O,d5 (((fH.drop 4).take 1).map BS.run) ⟨cF (n+6),11+X.length⟩ (lj X.length (some (.d (nD s))) Q none none none none) (ku F T X [])=some (.er,lj X.length (some (.d (nD s))) Q O none none none,ku l T1 X R)->Good (g+56) T1->T<+:T1->i7 T1 R (if s=6\/s=4then 3 else 0)->f)->f:=by
  intro f κ;by_cases hs:s=6\/s=4;.refine Cd (F:=F) (X:=X) (n:=n) (g:=g+56) (o2:=some (.d (nD s))) (Q:=Q) (O:=none) (C:=none) (E:=none) (A:=none) G λl T1 R O e P p1 I=>κ l T1 R O (BG (So hs) e) P p1 (by rw[aW hs];exact I)
  .refine κ F T [] none (wq [sb 1 (eA (a:=s) (b:=6) (by lia)),sb 3 (eA (a:=s) (b:=4) (by lia))]) (G.le (by lia)) (aq _) (by rw[aZ hs];exact .nil)
 refine hP λl T1 K O e1 P p1 I=>?_;have hL:∀{f:Prop},(∀j T2 R C E,d5 (((fH.drop 5).take 1).map BS.run) ⟨cF (n+6),11+X.length⟩ (lj X.length (some (.d (nD s))) Q O none none none) (ku l T1 X K)=some (.er,lj X.length (some (.d (nD s))) Q O C E none,ku j T2 X R)->Good (g+43) T2->T1<+:T2->∀m,i7 T2 R m->m+v7 s<=4->f)->f:=by
  intro f κ;by_cases hs:s=3\/s=5;.rw[aZ (show¬(s=6\/s=4)by lia)]at I;refine It (F:=l) (X:=X) (n:=n) (g:=g+43) (o2:=some (.d (nD s))) (Q:=Q) (O:=O) (C:=none) (E:=none) (A:=none) P I (by lia) λj T2 R C E e U p2 s2=>κ j T2 R C E (BG (Tv hs) e) U p2 _ s2 (Q3 s h hs)
  .exact κ l T1 K none none (wq [sb 1 (eA (a:=s) (b:=3) (by lia)),sb 3 (eA (a:=s) (b:=5) (by lia))]) (P.le (by lia)) (aq _) _ I (RN s h hs)
 refine hL λj T2 y C E e2 U p2 m s2 hm=>?_;have Z:=Sh s h;refine CQ (X:=X) (n:=n) (g:=g+1) (o2:=some (.d (nD s))) (Q:=Q) (O:=O) ((bz (v7 s)).map λ(i:Nat)=>D.int (i:Int)) (F:=j) (C:=C) (E:=E) (A:=none) (U.le (by simp;lia)) s2 (by simp;lia) λo T3 R q7 q8 q9 e3 G3 p3 z=>?_;rw[ak,abj]at z;refine iL z.wz λkk ps eq fk J=>?_;refine C5 (Qm (R:=R) G3 z.ok (eq▸yB fk J) z.le (au z.l2 hm)) λt' T' c G' p' N ne=>?_;have ca:=OK h;have c':=c (n+3) (11+X.length) o (X++[.lst (Bz R) .fz,.lst (xP R) .own]);have hr:=iB (n:=v7 s) (by lia) (ku j T2 X y);have hd:d5 ((fH.drop 6).map BS.run) ⟨cF (n+6),11+X.length⟩ (lj X.length (some (.d (nD s))) Q O C E none) (ku j T2 X y)=some (.ret (.d (.tup [nD t',.lst (xP R)])),lj X.length (some (.d (nD s))) Q O q7 q8 q9,hs o T' (X++[.lst (Bz R) .fz,.lst (xP R) .fz])):=by
  clear hm Z z;generalize Bz R=M at*;generalize xP R=B at*;generalize v7 s=q at*;generalize ku j T2 X y=HH at*;generalize(bz q).map _=rq at*;have cs:fZ (.d (.tup [.int 1,.int 1,.int 1,.int 0,.int 1,.int 1,.int 0,.int 2])) (nD s) HH=some (.d (nD q)):=by simp[ca]
  have av:ik (.ref (11+X.length)) (hs o T3 (X++[.lst M .own,.lst B .own]))=some (.d (.lst M),hs o T3 (X++[.lst M .fz,.lst B .own])):=by simp[ik]
  have td:toD (.ref (11+(X.length+1))) (hs o T' (X++[.lst M .fz,.lst B .own]))=some (.lst B,hs o T' (X++[.lst M .fz,.lst B .fz])):=by simp
  exact wq [sv 9 cs,jY 1 hr,mf 0 e3,dR 1 av,dR 0 c',Q0 1 td]
 have h0:d5 (((fH.drop 2).take 2).map BS.run) ⟨cF (n+6),11+X.length⟩ [some d7,some (.ref 0),some (.d (nD s)),Q,none,none,none,none,none,none] (hs F T X)=some (.er,lj X.length (some (.d (nD s))) Q none none none none,ku F T X []):=by exact wq [dR 0 (iD F X (.lst [] .own) T),dR 0 (Vc F T X)]
 exact κ o t' _ T' _ _ _ (gM h0 (gM e1 (gM e2 hd))) G' (p1.trans (p2.trans (p3.trans p'))) (.inr (.inr ⟨N,ne⟩))
theorem Hh(G:Good g T):NInv T 2 []:=by have e:parts T 2=[]:=rfl;exact⟨gL (G.at rfl),by rw[e];simp,by rw[e];simp,by simp,⟨by simp,by simp,by simp,by simp⟩,by rw[e];simp,by simp,λp e=>by exact xn e⟩
theorem HJ(G:Good (g+60) T):∃y t' ps T',cF (n+7) wm 995 [d7,.ref 0] (hs F T X)=some (.d (.tup [nD t',.lst (ps.map fG)]),hs y T' X)/\Good g T'/\T<+:T'/\mH T' t' ps:=by
 refine hd λN q=>?_;refine mn (w_next (n:=n+5) (wm:=11+X.length) (F:=F) (T:=T) (X:=X) (m:=8) (by decide)) λs B j C=>?_;have o:Good g T:=G.le ((aH _ _));have i:∀Q f,(∀{r},d5 ((fH.drop 2).map BS.run) ⟨cF (n+6),11+X.length⟩ [some d7,some (.ref 0),some (.d (nD s)),Q,none,none,none,none,none,none] (hs f T X)=r->d5 (fH.map BS.run) ⟨cF (n+6),11+X.length⟩ [some d7,some (.ref 0),none,none,none,none,none,none,none,none] (hs F T X)=r)->N:=by intro Q f J;refine DI (F:=f) (X:=X) (n:=n) (Q:=Q) G C λy t' ps T' P R U e a b c=>q ⟨y,t',ps,T',?_,a,b,c⟩;rw[iO,ir rfl,dT];refine(ah (ck · (fin (11+X.length))) (J e)).trans ?_;exact i0 ..
 by_cases I:s=6;.
  subst I;refine mn (w_next (n:=n+5) (wm:=11+X.length) (F:=B) (T:=T) (X:=X) (m:=5) (by decide)) λd f l O=>?_;by_cases E:d=0;.subst E;refine i (some (.d (nD 0))) f λe=>gM (a:=fH.take 2) ?_ e;exact wq [dR 2 j,dR 5 l]
  .have A:Runs 1 971 [d7,.d (sD [111,98,106,101,99,116])] T (.d (nD 10)) T:=ta (by decide+kernel) (by decide+kernel);have K:Runs 1 971 [d7,.d (sD fF)] T (.d (nD 2)) T:=ta (by decide+kernel) (by decide+kernel);have M:Runs 1 971 [d7,.d (sD ea)] T (.d (nD 1)) T:=ta (by decide+kernel) (by decide+kernel);have z:Runs 1 971 [d7,.d (sD fW)] T (.d (nD 0)) T:=ta (by decide+kernel) (by decide+kernel);rcases(show d=1\/d=2\/d=3\/d=4by lia)with rfl|rfl|rfl|rfl;.refine q ⟨f,2,[],T,?_,o,aq _,.inr (.inr ⟨Hh o,by decide⟩)⟩;exact wk iO dT [dR 2 j,dR 5 l,dR 41 (K (n+5) (11+X.length) f X),dR 2 (dU f X (D.tup [D.int 2,D.lst []]) T)]
   .refine q ⟨f,1,[.obj []],T,?_,o,aq _,.inr (.inl ⟨.inl rfl,rfl⟩)⟩;exact wk iO dT [dR 2 j,dR 5 l,dR 41 (M (n+5) (11+X.length) f X),dR 2 (dU f X (D.tup [D.int 1,D.lst [D.tup [D.str (S [123]),D.lst [],D.int 0]]]) T)]
   .refine q ⟨f,0,[.obj [anyS]],T,?_,o,aq _,.inl ⟨rfl,rfl⟩⟩;have z:=z (n+5) (11+X.length) f X;exact wk iO dT [dR 2 j,dR 5 l,dR 41 z,dR 2 (dU f X (D.tup [D.int 0,D.lst [D.tup [D.str (S [123]),D.lst [D.tup [D.str (S d0),D.lst [D.str (S fW)],D.int 2,D.int 0]],D.int 0]]]) T)]
   .refine q ⟨f,10,[.obj []],T,?_,o,aq _,.inr (.inl ⟨.inr rfl,rfl⟩)⟩;have A:=A (n+5) (11+X.length) f X;exact wk iO dT [dR 2 j,dR 5 l,dR 41 A,dR 2 (dU f X (D.tup [nD 10,D.lst [D.tup [D.str (S [123]),D.lst [],D.int 0]]]) T)]
 .refine i none B λe=>gM (a:=fH.take 2) ?_ e;exact wq [dR 2 j,sb 1 (eA (show¬(s:Int)=6from by lia))]
end
section
variable{F:ab Int}{T T' T1 T2:ab Row}{X Y:ab Cell}{n wm t g:Nat}{H:Hp}{k:ab W}{r:Row}{L:ab Slot}{p:Piece}{ps:ab Piece}
theorem jC.b(h:jC s)(hk:∀w∈s.kind,mG w)(ho:mG s.key):tc s:=⟨⟨by have:=h.kl;lia,hk⟩,ho,h.key,h.sign,h.held⟩
theorem RK:mG (34::w):=⟨_,_,rfl,by decide⟩
theorem Mw:mG d0:=⟨_,_,rfl,by decide⟩
theorem MO:mG dZ:=⟨_,_,rfl,by decide⟩
theorem mx.b{ps:ab l6}(o:mx T ps E ni A c d):∀s∈(ps.filter j8).map A++c++d,tc s:=λs hs=>o.ind hs (M:=λs=>jC s->tc s) (λz _ _ P Z=>Z.b P.seen.z.2.2 (P.key▸RK)) (λq s h x Z=>Z.b (show Seen T q.1 false s.kind from⟨_,x.kd,rfl⟩).z.2.2 (h.elim (λh=>h.2▸Mw) λh=>h.2▸MO)) (o.z s hs)
theorem tD.len{ps:ab l6}(o:tD T r L ps E ni A c d):L.length<=7:=by have b:=len_sub o.nd (λk hk=>by obtain⟨s,hs,rfl⟩:=ag.mp hk;exact ag.mpr ⟨s,(o.mem s).mp hs,rfl⟩);have e:=o.o.len;have f:=aX j8 ps;have j:=o.o.i1.len;have l2:=o.o.i2.len;simp at b;lia
theorem Bl(P:eE T r p):iy p:=by
 induction p using Piece.casesOn with
 |prim w=>
  have h:=od.ok P.1;constructor;.
   intro e;subst e;have:=P.1;rcases r with⟨⟩<;>first|exact this.elim|skip
   .exact ay this (by rintro⟨h,rfl⟩;revert h;decide)
   .rcases this.2with⟨_,h⟩|⟨_,h⟩<;>exact ay h (by decide)
   .have:=ah List.head? this.2;simp at this
   .have N:=this.1;have:=this.2;simp at this;lia
  .intro e;subst e;have:=P.1;rcases r with⟨⟩<;>first|exact this.elim|skip
   .exact ay this (by rintro⟨h,rfl⟩;revert h;decide)
   .rcases this.2with⟨_,h⟩|⟨_,h⟩<;>exact ay h (by decide)
   .have:=ah List.head? this.2;simp at this
   .have N:=this.1;have:=this.2;simp at this;lia|obj L=>obtain⟨_,_,_,_,_,_,o⟩:=P;exact⟨λs hs=>o.o.b s ((o.mem s).mp hs),o.names.1,by have:=o.len;lia⟩|lst L U=>
  obtain⟨_,P⟩:=P;induction P with
  |arr e s J G C y l K=>refine sY G ?_;have z:=(show Seen T e false s.kind from⟨_,K,rfl⟩).z;refine⟨λZ f=>?_,by simp,by simp⟩;replace f:=kE f;refine sY f ?_;exact⟨⟨by have:=z.1;lia,z.2.2⟩,(sY l MO),by rw[l];decide,(bZ ‹_›),by lia⟩|tup m J M O R Q B=>
   refine⟨λs hs=>?_,?_,by lia⟩;.
    obtain⟨i,d,e⟩:=aaN.mp hs;have c:i<m.length:=by lia
    have E:=B i m[i] s (aw c) (by rw[aw d,e]);exact(E.z (M.le _ (aaf c))).b E.seen.z.2.2 ((sY E.key RK))
   .have A:∀i(d:i<L.length),eZ L[i].key=[34,48+i,34]:=by
     intro i d;have c:i<m.length:=by lia
     rw[(B i m[i] L[i] (aw c) (aw d)).key];simp[eZ]
    refine aa9.mpr ?_;intro i j d q I e;simp only[ak]at d q;simp only[List.getElem_map]at e;simp only[A _ d,A _ q]at e;simp at e;lia
theorem NInv.b(I:NInv T t ps):∀p∈ps,iy p:=λp c=>by obtain⟨_,_,r,_,P⟩:=I.mC p c;exact Bl P
theorem NB:iy (.obj [anyS]):=by refine⟨λs hs=>?_,by decide,by decide⟩;replace hs:=kE hs;subst hs;exact⟨⟨by decide,by simp only[af,ai,a5,cG];exact⟨_,_,rfl,by decide⟩⟩,Mw,by decide,by decide,by decide⟩
theorem P5:iy (.obj []):=⟨by simp,by simp,by simp⟩
theorem mH.b(I:mH T t ps):∀p∈ps,iy p:=by
 rcases I with⟨_,rfl⟩|⟨_,rfl⟩|⟨I,_⟩;.simp only[af,ai,a5,cG];exact NB
 .simp only[af,ai,a5,cG];exact P5
 .exact I.b
theorem mH.len(I:mH T t ps):ps.length<=4:=by
 rcases I with⟨_,rfl⟩|⟨_,rfl⟩|⟨I,_⟩;.simp
 .simp
 .exact I.l2
theorem Ks{I:ab W}(c:I.Nodup)(h:∀w∈I,w∈pj):iy (.obj (I.map f7)):=by
 have b:∀w∈pj,mG w/\w.length<=12:=by intro w b;simp only[pj,af,ai,a5]at b;rcases b with rfl|rfl|rfl|rfl|rfl|rfl|rfl<;>exact⟨⟨_,_,rfl,by decide⟩,by decide⟩
 refine⟨λs hs=>?_,?_,?_⟩;.obtain⟨w,TN,rfl⟩:=ag.mp hs;exact⟨⟨by simp[f7],by simp[f7]⟩,(b w (h w TN)).1,(b w (h w TN)).2,by unfold f7;simp only;split<;>lia,by simp[f7]⟩
 .rw[aK];exact uz c h
 .have:=len_sub c h;simp[pj]at*;lia
theorem Ir(h:iy (.obj L)):iy (.obj (L.filter f)):=⟨λs hs=>h.1 s (aO.mp hs).1,h.2.1.sublist (abx _ aaY),aj (aX _ _) h.2.2⟩
end
section
variable{F:ab Int}{T T' T1 T2:ab Row}{X Y:ab Cell}{n wm t g:Nat}{H:Hp}{k:ab W}{r:Row}{L:ab Slot}{p:Piece}{ps:ab Piece}{pl:ab D}
structure Xc(R C U J:Nat)(B:ab W)(Z:Nat):Prop where
 ho:R<5
 hm:C<9
 hb:U<=2
 b1:(R=1\/R=4)->U≠0
 b0:¬(R=1\/R=4)->U=0
 hc:J<=3
 c0:U=0->J=0
 fk:FK B
 hk:Z<128
noncomputable def tC(t:Nat)(pl:ab D)(R C U J Z:Nat)(B:ab W)(r:Loc):Loc:=some d7::some eb::some (.ref 0)::some (.d (nD 16))::some (.d (nD t))::some (.d (.lst pl))::some (.d (nD R))::some (.d (nD C))::some (.d (nD U))::some (.d (nD J))::some (.d (eF B))::some (.d (nD Z))::r
noncomputable def JC(t:Nat)(pl:ab D)(q:Loc):Loc:=some d7::some eb::some (.ref 0)::some (.d (nD 16))::some (.d (nD t))::some (.d (.lst pl))::q
theorem OC{c:Prop}(κ:∀F' R C U J B Z,d5 ((fc.take 6).map BS.run) ⟨cF (n+4),11+X.length⟩ (uD 19 [d7,eb,.ref 0,.d (nD 16),.d (nD t),.d (.lst pl)]) (hs F T X)=some (.er,tC t pl R C U J Z B [none,none,none,none,none,none,none],hs F' T X)->Xc R C U J B Z->c):c:=by
 have q:=λ(F:ab Int){m:Nat}(h:0<m)=>w_next (n:=n+3) (wm:=11+X.length) (F:=F) (T:=T) (X:=X) h;refine mn (q F (m:=5) (by decide)) λR F1 c1 h1=>?_;refine mn (q F1 (m:=9) (by decide)) λC y c2 h2=>?_;have hA:d5 ((fc.take 2).map BS.run) ⟨cF (n+4),11+X.length⟩ (uD 19 [d7,eb,.ref 0,.d (nD 16),.d (nD t),.d (.lst pl)]) (hs F T X)=some (.er,JC t pl [some (.d (nD R)),some (.d (nD C)),none,none,none,none,none,none,none,none,none,none,none],hs y T X):=by exact wq [dR 2 c1,dR 2 c2]
 have hB:∀{c:Prop},(∀U l,d5 (((fc.drop 2).take 1).map BS.run) ⟨cF (n+4),11+X.length⟩ (JC t pl [some (.d (nD R)),some (.d (nD C)),none,none,none,none,none,none,none,none,none,none,none]) (hs y T X)=some (.er,JC t pl [some (.d (nD R)),some (.d (nD C)),some (.d (nD U)),none,none,none,none,none,none,none,none,none,none],hs l T X)->U<=2->((R=1\/R=4)->U≠0)->(¬(R=1\/R=4)->U=0)->c)->c:=by
  intro c κ;by_cases h:R=1\/R=4;.
   refine mn (q y (m:=2) (by decide)) λd l z h3=>?_;have ad:=tn (a:=d) (b:=1);refine κ (d+1) l ?_ h3 (λ_=>by lia) λf=>ay h f;rcases h with rfl|rfl;.exact wq [dR 5 z]
   .exact wq [dR 8 z]
  .refine κ 0 y ?_ (by decide) (λf=>ay f h) λ_=>rfl;have j:¬(R:Int)=1:=λe=>h (.inl (bW.mp e));have M:¬(R:Int)=4:=λe=>h (.inr (bW.mp e));exact wq [sb 1 (eA j),sb 2 (eA M)]
 refine hB λU l z Q2 QF Pq=>?_;have hC:∀{c:Prop},(∀J o,d5 (((fc.drop 3).take 1).map BS.run) ⟨cF (n+4),11+X.length⟩ (JC t pl [some (.d (nD R)),some (.d (nD C)),some (.d (nD U)),none,none,none,none,none,none,none,none,none,none]) (hs l T X)=some (.er,JC t pl [some (.d (nD R)),some (.d (nD C)),some (.d (nD U)),some (.d (nD J)),none,none,none,none,none,none,none,none,none],hs o T X)->J<=3->(U=0->J=0)->c)->c:=by
  intro c κ;by_cases h:0<U;.refine mn (q l (m:=4) (by decide)) λd o I M=>?_;refine κ d o ?_ (c8 M) λe=>ay h (e▸cN _);have f:=bh.mpr h;exact wq [sb 1 (tX f),dR 3 I]
  .refine κ 0 l ?_ (by decide) λ_=>rfl;have f:¬(0:Int)<U:=λe=>h (bh.mp e);exact wq [sb 1 (tB f)]
 refine hC λJ o I P O=>?_;have hF:∀{c:Prop},(∀B i,d5 (((fc.drop 4).take 1).map BS.run) ⟨cF (n+4),11+X.length⟩ (JC t pl [some (.d (nD R)),some (.d (nD C)),some (.d (nD U)),some (.d (nD J)),none,none,none,none,none,none,none,none,none]) (hs o T X)=some (.er,JC t pl [some (.d (nD R)),some (.d (nD C)),some (.d (nD U)),some (.d (nD J)),some (.d (eF B)),none,none,none,none,none,none,none,none],hs i T X)->FK B->c)->c:=by
  intro c κ;by_cases h:U=2\/t=0;.
   refine mn (q o (m:=3000) (by decide)) λd i A h5=>?_;refine d9 (oG (m:=d) (by lia)) λkd G E=>κ kd i ?_ G;have E:=E (n+1) (11+X.length) (hs i T X);by_cases j:U=2;.subst j;exact wq [dR 5 A,dR 1 E]
   .obtain rfl:=h.resolve_left j;have N:¬(U:Int)=2:=λe=>j (bW.mp e);exact wq [sb 1 (eA N),dR 6 A,dR 1 E]
  .refine κ [] o ?_ ⟨pA,by simp,by simp⟩;have j:¬(U:Int)=2:=λe=>h (.inl (bW.mp e));have π:¬t=0:=λe=>h (.inr e);exact wq [sb 1 (eA j),sb 2 (eA (λe=>h (.inr (bW.mp e))))]
 refine hF λB i A Q=>?_;have hM:∀{c:Prop},(∀Z s,d5 (((fc.drop 5).take 1).map BS.run) ⟨cF (n+4),11+X.length⟩ (JC t pl [some (.d (nD R)),some (.d (nD C)),some (.d (nD U)),some (.d (nD J)),some (.d (eF B)),none,none,none,none,none,none,none,none]) (hs i T X)=some (.er,JC t pl [some (.d (nD R)),some (.d (nD C)),some (.d (nD U)),some (.d (nD J)),some (.d (eF B)),some (.d (nD Z)),none,none,none,none,none,none,none],hs s T X)->Z<128->c)->c:=by
  intro c κ;by_cases h:2<R;.refine mn (q i (m:=127) (by decide)) λd s K j=>?_;have ad:=tn (a:=1) (b:=d);refine κ (1+d) s ?_ (by lia);have f:=bh.mpr h;exact wq [sb 1 (tX f),dR 4 K]
  .refine κ 1 i ?_ (by decide);exact wq [sb 1 (tB (λe=>h (bh.mp e)))]
 refine hM λZ s K hk=>?_;have h:=gM hA (gM z (gM I (gM A K)));exact κ s R C U J B Z h ⟨h1,h2,Q2,QF,Pq,P,O,Q,hk⟩
end
section
variable{F:ab Int}{T T' T1 T2:ab Row}{X Y:ab Cell}{n wm t g:Nat}{H:Hp}{k:ab W}{r:Row}{L:ab Slot}{p:Piece}{ps:ab Piece}{pl:ab D}{c:Cx}{R U J:Nat}
structure WH(t:Nat)(ps:ab Piece)(R U J:Nat):Prop where
 ho:R<5
 hb:U<=2
 hc:J<=3
 c0:U=0->J=0
 o3:R=3->U=0/\11<=t/\∃L,ps=[.obj L]
 o2:R=2->∀p∈ps,∀L ro,p≠.lst L ro
 o4:R=4->U≠0
 t0:t=0->U≠0
noncomputable def isL:Piece->bt|.lst _ _=>true|_=>false
noncomputable def zz:Piece->bt|.lst L _=>decide (1<L.length)&&decide ((L.getLast?.map (·.sign)).getD 0=2)|_=>false
noncomputable def kF(f:Nat->ae V):Loc:=[f 0,f 1,f 2,f 3,f 4,f 5,f 6,f 7,f 8,f 9,f 10,f 11,f 12,f 13,f 14,f 15,f 16,f 17,f 18]
section
variable{C Z:Nat}{B:ab W}{M N:ae V}{r:Loc}{γ:Prop}
theorem Zq(m:∀p∈ps,iy p)(κ:∀d,d5 (((fc.drop 6).take 1).map BS.run) c (tC t (ps.map fG) R C U J Z B r) H=some (.er,tC t (ps.map fG) d C U J Z B r,H)->(d=R\/d=0)->(d=3->11<=t/\∃L,ps=[.obj L])->γ):γ:=by
 by_cases i:R=3;.
  subst i;rcases ps with _|⟨p,_|⟨b,l⟩⟩;.refine κ 0 ?_ (.inr rfl) nofun;exact wq []
  .have m:=m p (.head _);induction p using Piece.casesOn with
   |prim w=>refine κ 0 ?_ (.inr rfl) nofun;have q:=m.2;exact wq [sb 12 (neT q)]|lst L s=>refine κ 0 ?_ (.inr rfl) nofun;exact wq []|obj L=>
    by_cases o:t<11;.refine κ 0 ?_ (.inr rfl) nofun;have f:(t:Int)<11:=bh.mpr o;exact wq [sb 15 (tX f)]
    .refine κ 3 ?_ (.inl rfl) λ_=>⟨aai.mp o,L,rfl⟩;have f:¬(t:Int)<11:=λe=>o (bh.mp e);exact wq [sb 15 (tB f)]
  .refine κ 0 ?_ (.inr rfl) nofun;generalize(p::b::l).map fG=pl at*;exact wq [sb 5 (E9 (show¬(((p::b::l).map fG).length:Int)=1from by simp;lia))]
 .refine κ R ?_ (.inl rfl) λe=>ay e i;have j:¬(R:Int)=3:=λe=>i (bW.mp e);exact wq [sb 1 (eA j)]
noncomputable def NR:Piece->W|.prim w=>w|.obj _=>[123]|.lst _ _=>[91]
theorem Xg(h:iy p):fZ (.d (fG p)) (.int 0) H=some (.d (sD (NR p)))/\f6 .Eq (sD (NR p)) (.d (sD [91])) H=some (isL p):=by induction p using Piece.casesOn with|prim w=>exact⟨rfl,by show some (decide (S w=S [91]))=_;simp[h.1,isL,NR]⟩|obj L=>exact⟨rfl,rfl⟩|lst L b=>exact⟨rfl,rfl⟩
theorem WU(i:∀p∈ps,iy p)(l:Nat->ae V):fa (dM 19).run (.one 19) (gO ([TE (dS .Eq (dQ (dM 19) (dN (.int 0))) (dN (sD [91])))].map BT.run)) c (ps.map fG) (kF l++[none]) H=some ((ps.filter isL).map fG,H):=gB (cs:=(gi [TE (dS .Eq (dQ (dM 19) (dN (.int 0))) (dN (sD [91])))]).run) (kF l) ps isL fG (λp d=>by
 have e:=(Xg (i p d) (H:=H)).1;have f:=(Xg (i p d) (H:=H)).2;generalize isL p=b at*;generalize fG p=x at*;rcases b with⟨⟩;.exact wb [sv 1 e,sb 1 f]
 .exact wb [sv 1 e,sb 1 f]) (λp d _=>by generalize fG p=x at*;exact wd [])
theorem GY:fZ (.d (.lst ((L++[s]).map fE))) (.int (-1)) H=some (.d (fE s)):=by
 show(itemAt ((L++[s]).map fE) (-1)).map V.d=_;have e:(((L++[s]).map fE).length:Int)=(L.length:Int)+1:=by simp
 unfold itemAt;rw[aW (by decide),aZ (by rw[e];lia),e];have:((L.length:Int)+1+-1).toNat=L.length:=by lia
 rw[this];simp
theorem Vn(A:∀p∈ps,isL p=true)(l:Nat->ae V):fa (dM 19).run (.one 19) (gO ([gi [(TE (dS .Gt (gP 200 [(dQ (dM 19) (dN (.int 1)))]) (dN (.int 1)))),(TE (dS .Eq (dQ (dQ (dQ (dM 19) (dN (.int 1))) (lY 1)) (dN (.int 2))) (dN (.int 2))))]].map BT.run)) c (ps.map fG) (kF l++[none]) H=some ((ps.filter zz).map fG,H):=gB (cs:=(gi [gi [(TE (dS .Gt (gP 200 [(dQ (dM 19) (dN (.int 1)))]) (dN (.int 1)))),(TE (dS .Eq (dQ (dQ (dQ (dM 19) (dN (.int 1))) (lY 1)) (dN (.int 2))) (dN (.int 2))))]]).run) (kF l) ps zz fG (λp y=>by
 have:=A p y;clear y;induction p using Piece.casesOn with
 |prim w=>exact fO this|obj L=>exact fO this|lst L q=>
  by_cases j:1<L.length;.
   have i:(1:Int)<((L.map fE).length:Int):=by simp;lia
   refine QL (show∃f s,L=f++[s]from⟨L.dropLast,L.getLast (by intro e;subst e;simp at j),(List.dropLast_concat_getLast _).symm⟩) λf s e=>?_;subst e;have o:=GY (L:=f) (s:=s) (H:=H);have z:zz (.lst (f++[s]) q)=decide (s.sign=2):=by unfold zz;simp at j;simp[j]
   rw[z];show(gi _).run c (kF l++[some (.d (.tup [sD [91],.lst ((f++[s]).map fE),nD q]))]) H=_;generalize(f++[s]).map fE=E at*;by_cases m:s.sign=2;.
    rw[aE m];have b:fE s=.tup [sD s.key,eF s.kind,.int 2,nD s.held]:=by rw[fE,m];rfl
    rw[b]at o;exact wb [sb 4 (tX i),sv 4 o]
   .rw[aC m];have b:fE s=.tup [sD s.key,eF s.kind,nD s.sign,nD s.held]:=rfl;rw[b]at o;exact wb [sb 4 (tX i),sv 4 o,sb 3 (eA (λe=>m (bW.mp e)))]
  .rw[(show zz (.lst L q)=false from by unfold zz;simp[j])];show(gi _).run c (kF l++[some (.d (.tup [sD [91],.lst (L.map fE),nD q]))]) H=_;generalize L.map fE=E at*;exact wb [sb 4 (tB (show¬(1:Int)<((L.map fE).length:Int)from by simp;lia))]) (λp y _=>by generalize fG p=x at*;exact wd [])
theorem R8(hB:∀p∈ps,iy p)(E:Xc R C U J B Z)(κ:∀X7 o q M N,d5 (((fc.drop 6).take 6).map BS.run) c (tC t (ps.map fG) R C U J Z B [none,none,none,none,none,none,none]) H=some (.er,tC t (ps.map fG) X7 C o q Z B [M,N,none,none,none,none,none],H)->WH t ps X7 o q->γ):γ:=by
 refine Zq (t:=t) (R:=R) (C:=C) (U:=U) (J:=J) (Z:=Z) (B:=B) (c:=c) (H:=H) (r:=[none,none,none,none,none,none,none]) hB λm e6 k! y=>?_;have e7:d5 (((fc.drop 7).take 2).map BS.run) c (tC t (ps.map fG) m C U J Z B [none,none,none,none,none,none,none]) H=some (.er,tC t (ps.map fG) m C U J Z B [some (.d (.lst ((ps.filter isL).map fG))),some (.d (.lst (((ps.filter isL).filter zz).map fG))),none,none,none,none,none],H):=by generalize((ps.filter isL).filter zz).map fG=A at*;generalize(ps.filter isL).map fG=q1 at*;generalize ps.map fG=q0 at*;exact wq [jY 1 (WU (c:=c) (H:=H) hB (qf (tC t (ps.map fG) m C U J Z B [none,none,none,none,none,none,none]))),jY 1 (Vn (c:=c) (H:=H) (ps:=ps.filter isL) (λp hp=>(aO.mp hp).2) (qf (tC t (ps.map fG) m C U J Z B [some (.d (.lst ((ps.filter isL).map fG))),none,none,none,none,none,none])))]
 have G:∀{γ:Prop},(∀f,d5 (((fc.drop 9).take 1).map BS.run) c (tC t (ps.map fG) m C U J Z B [some (.d (.lst ((ps.filter isL).map fG))),some (.d (.lst (((ps.filter isL).filter zz).map fG))),none,none,none,none,none]) H=some (.er,tC t (ps.map fG) f C U J Z B [some (.d (.lst ((ps.filter isL).map fG))),some (.d (.lst (((ps.filter isL).filter zz).map fG))),none,none,none,none,none],H)->(f=m\/f=0)->(f=2->ps.filter isL=[])->γ)->γ:=by
  intro γ κ;clear e7 e6 y;generalize((ps.filter isL).filter zz).map fG=A at*;by_cases h:m=2;.
   subst h;rcases P:ps.filter isL with _|⟨a,l⟩;.exact κ 2 (by rw[P];exact wq []) (.inl rfl) λ_=>P
   .refine κ 0 ?_ (.inr rfl) nofun;rw[P];have hl:(0:Int)<(((a::l).map fG).length:Int):=by rw[ak,bf];lia
    generalize(a::l).map fG=q1 at*;have ZZ:=bh.mp hl;exact wq [sb 5 (tX hl)]
  .refine κ m ?_ (.inl rfl) λe=>ay e h;exact wq [sb 1 (eA (λe=>h (bW.mp e)))]
 refine G λf G θ z=>?_;have s:∀{γ:Prop},(∀i j,d5 (((fc.drop 10).take 1).map BS.run) c (tC t (ps.map fG) f C U J Z B [some (.d (.lst ((ps.filter isL).map fG))),some (.d (.lst (((ps.filter isL).filter zz).map fG))),none,none,none,none,none]) H=some (.er,tC t (ps.map fG) f C i j Z B [some (.d (.lst ((ps.filter isL).map fG))),some (.d (.lst (((ps.filter isL).filter zz).map fG))),none,none,none,none,none],H)->((i=U/\j=J)\/(f=1/\i=0/\j=0))->γ)->γ:=by
  intro γ κ;clear e7 e6 G z y;generalize((ps.filter isL).filter zz).map fG=A at*;by_cases I:f=1;.
   subst I;by_cases h2:U=1;.
    subst h2;by_cases h3:(0:Int)<(A.length:Int);.have h4:=bh.mp h3;refine κ 0 0 ?_ (.inr ⟨rfl,rfl,rfl⟩);exact wq [sb 8 (tX h3)]
    .have h4:¬0<A.length:=λe=>h3 (bh.mpr e);refine κ 1 J ?_ (.inl ⟨rfl,rfl⟩);exact wq [sb 8 (tB h3)]
   .refine κ U J ?_ (.inl ⟨rfl,rfl⟩);exact wq [sb 4 (eA (λe=>h2 (bW.mp e)))]
  .have YX:¬(f:Int)=1:=λe=>I (bW.mp e);refine κ U J ?_ (.inl ⟨rfl,rfl⟩);exact wq [sb 1 (eA YX)]
 refine s λi j s Ψ=>?_;have o!:f=R\/f=0:=by lia
 have K:f=2->∀p∈ps,∀L ro,p≠.lst L ro:=λe p hp L ro P=>by subst P;have:Piece.lst L ro∈ps.filter isL:=aO.mpr ⟨hp,rfl⟩;rw[z e]at this;exact kr this
 have fin:=λr h=>gM (r:=r) e6 (gM e7 (gM G (gM (b:=(fc.drop 11).take 1) s h)));clear e6 e7 G s z hB;have a1:=E.ho;have a2:=E.hb;have a3:=E.hc;have a4:=E.c0;have Q:=E.b0;have O:=E.b1;generalize((ps.filter isL).filter zz).map fG=A at*;generalize(ps.filter isL).map fG=q1 at*;by_cases h:t=0/\i=0;.obtain⟨rfl,rfl⟩:=h;exact κ f 2 j (some (.d (.lst q1))) (some (.d (.lst A))) (fin _ (wq [])) ⟨by lia,aV _,by lia,by lia,λe=>by have:=y (by lia);lia,K,by lia,by lia⟩
 .refine κ f i j (some (.d (.lst q1))) (some (.d (.lst A))) (fin _ ?_) ⟨by lia,by lia,by lia,by lia,λe=>?_,K,by lia,by lia⟩;.
   by_cases I:t=0;.subst I;generalize ps.map fG=q0 at*;exact wq [sb 4 (eA (λe=>h ⟨rfl,bW.mp e⟩))]
   .generalize ps.map fG=q0 at*;exact wq [sb 1 (eA (λe=>I (bW.mp e)))]
  .have h:=y (by lia);exact⟨by lia,h.1,h.2⟩
end
end
section
variable{F:ab Int}{T T' T1 T2:ab Row}{X Y:ab Cell}{n wm t g:Nat}{H:Hp}{k:ab W}{r:Row}{L:ab Slot}{p:Piece}{ps:ab Piece}{pl:ab D}{c:Cx}{G:ab MS}{R U J C Z:Nat}{B:ab W}
theorem Nr{i:Nat}(b:i<7):fv .Pow (.int 2) (.int (i:Int))=some (nD (2^i)):=by
 have:i=0\/i=1\/i=2\/i=3\/i=4\/i=5\/i=6:=by lia
 clear b;rcases this with rfl|rfl|rfl|rfl|rfl|rfl|rfl<;>rfl
noncomputable abbrev JO:BT:=gi [(TE (dS .Eq (el .Mod (el .FloorDiv (dM 11) (el .Pow (dN (.int 2)) (dM 19))) (dN (.int 2))) (dN (.int 1))))]
theorem Rb(b:i<7)(q:Z<128)(l:f 11=some (.d (nD Z))):JO.run c (kF f++[some (.d (nD i))]) H=some (decide (Z/2^i%2=1),H):=by
 have m:=Nr b;have j:2^i<128/\0<2^i:=by
  have:i=0\/i=1\/i=2\/i=3\/i=4\/i=5\/i=6:=by lia
  clear b;rcases this with rfl|rfl|rfl|rfl|rfl|rfl|rfl<;>decide
 have o:=ip (a:=Z) j.2 (by lia) (by lia);have e:fv .Mod (.int ((Z/2^i:Nat):Int)) (.int 2)=some (nD (Z/2^i%2)):=uW;rw[show kF f=[f 0,f 1,f 2,f 3,f 4,f 5,f 6,f 7,f 8,f 9,f 10,some (.d (nD Z)),f 12,f 13,f 14,f 15,f 16,f 17,f 18]from by unfold kF;rw[l]];rcases cS (Z/2^i)with h|h<;>rw[h]at e⊢<;>clear h<;>generalize Z/2^i=y at*<;>generalize 2^i=x at*<;>exact wb [sd 3 m,sd 1 o,sd 2 e]
noncomputable def ks(Z:Nat)(wd:Nat->W)(m:Nat):ab W:=((bz m).filter λi=>decide (Z/2^i%2=1)).map wd
theorem ql{wd:Nat->W}:(ks Z wd m).length<=m:=by unfold ks;rw[ak];exact au (aX _ _) (by simp)
theorem uK{wd:Nat->W}(h:w∈ks Z wd m):∃i,i<m/\w=wd i:=by refine d9 (ag.mp h) λi b d=>?_;refine sZ d ?_;exact i12 i (ab7.mp (aO.mp b).1) rfl
theorem Mq{b:ab W}(h:∀w∈b,mG w)(j:b.length<=7):∀n wm H,cF (n+1) wm 943 [.d (.lst (b.map λw=>D.lst [sD w]))] H=some (.d (eF (ei (b.map λw=>[w]))),H):=by
 intro n wm H;have e:(b.map λw=>D.lst [sD w])=(b.map λw=>[w]).map eF:=by rw[aK];rfl
 rw[e];refine vU ?_ ?_;.
  have:(b.map λw=>[w]).flatten=b:=by clear j e h;induction b with|nil=>rfl|cons a l ih=>simp[ih]
  rw[this];lia
 .intro k i w f;obtain⟨v,m,rfl⟩:=ag.mp i;replace f:=kE f;rw[f];exact h v m
theorem nq{e:ab W}(d:v∈ei (e.map λw=>[w])):v∈e:=by rw[eP]at d;refine d9 (d.1) λl f b=>?_;refine d9 (ag.mp f) λw i j=>?_;subst j;replace b:=kE b;rw[b];exact i
theorem ui{b:ab W}(d:b.length<=7):(ei (b.map λw=>[w])).length<=7:=au (len_sub (SS.nd g6) λv=>nq) d
structure KG(ps:ab Piece)(R:Nat)(keys:ab W)(aaT:ab Piece):Prop where
 g2:R<3->aaT=ps
 g3:R=3->∃L,ps=[.obj L]/\aaT=[.obj (L.filter λs=>decide (s.key∈keys))]/\∀w∈keys,∃s∈L,s.key=w
 g4:R=4->aaT=[.obj (keys.map f7)]/\∀w∈keys,w∈pj
 n:wy keys
 lw:∀w∈keys,LW w
 l:keys.length<=7
 b:∀p∈aaT,iy p
 gl:aaT.length<=4
theorem Ej:∀w∈pj,LW w:=by
 intro w h;simp only[pj,af,ai,a5]at h;rcases h with rfl|rfl|rfl|rfl|rfl|rfl|rfl;.exact .inr (.inl ⟨112,by decide,rfl⟩)
 .exact .inr (.inr ⟨0,by decide,rfl⟩)
 .exact .inl (by decide)
 .exact .inr (.inl ⟨122,by decide,rfl⟩)
 .exact .inl (by decide)
 .exact .inr (.inl ⟨113,by decide,rfl⟩)
 .exact .inr (.inr ⟨1,by decide,rfl⟩)
end
section
variable{F:ab Int}{T T' T1 T2:ab Row}{X Y:ab Cell}{n wm t g:Nat}{H:Hp}{k:ab W}{r:Row}{L:ab Slot}{p:Piece}{ps:ab Piece}{pl:ab D}{c:Cx}{G:ab MS}{R U J C Z:Nat}{B:ab W}
theorem uR{wd:Nat->W}(o:Z<128)(q:m<=7)(l:f 11=some (.d (nD Z)))(j:∀i,i<m->eD (fq [E]).run c (kF f++[some (.d (nD i))]) H=some (.lst [sD (wd i)],H)):fa (fq [E]).run (.one 19) JO.run c ((bz m).map nD) (kF f++[none]) H=some ((ks Z wd m).map λw=>.lst [sD w],H):=by
 have e:(ks Z wd m).map (λw=>D.lst [sD w])=((bz m).filter λi=>decide (Z/2^i%2=1)).map λi=>.lst [sD (wd i)]:=by unfold ks;rw[aK];rfl
 refine sY e ?_;exact gB (e:=nD) (kF f) (bz m) (λi=>decide (Z/2^i%2=1)) (λi=>.lst [sD (wd i)]) (λi b=>Rb (by have:=ab7.mp b;lia) o l) (λi b _=>j i (ab7.mp b))
theorem Om{i:Nat}(h:i<7):fZ (.d lg) (.int (i:Int)) H=some (.d (sD (pj.getD i []))):=by
 have:i=0\/i=1\/i=2\/i=3\/i=4\/i=5\/i=6:=by lia
 clear h;rcases this with rfl|rfl|rfl|rfl|rfl|rfl|rfl<;>rfl
theorem Fd{Q:ab W}:fa (d8 [(dM 19),(fq []),(kB (TE (dS .In (dM 19) (d8 [(dN (.str (S d0))),(dN (.str (S dZ)))]))) (dN (.int 2)) (dN (.int 0))),(dN (.int 0))]).run (.one 19) (gO []) c (Q.map sD) (kF f++[none]) H=some ((Q.map f7).map fE,H):=by
 refine sY aK ?_;exact fV (kF f) Q (λw=>fE (f7 w)) (λw _=>by
  have hs:=has_str (w:=w) (k:=[d0,dZ]);by_cases h:w=d0\/w=dZ;.
   have e:fE (f7 w)=.tup [sD w,.lst [],.int 2,.int 0]:=by unfold f7;rw[aW h];rfl
   rw[aE (JQ.mpr h)]at hs;rw[e];exact wd [sb 5 hs]
  .have e:fE (f7 w)=.tup [sD w,.lst [],.int 0,.int 0]:=by unfold f7;rw[aZ h];rfl
   rw[aC λq=>h (JQ.mp q)]at hs;rw[e];exact wd [sb 5 hs])
theorem Hn(e:f 16=some (.d (eF Q))):fa (dM 19).run (.one 19) (gi [(TE (dS .In (dQ (dM 19) (dN (.int 0))) (dM 16)))]).run c (L.map fE) (kF f++[none]) H=some ((L.filter λs=>decide (s.key∈Q)).map fE,H):=gB (kF f) L (λs=>decide (s.key∈Q)) fE (λs _=>by
 have hs:=has_str (w:=s.key) (k:=Q);rw[show kF f=[f 0,f 1,f 2,f 3,f 4,f 5,f 6,f 7,f 8,f 9,f 10,f 11,f 12,f 13,f 14,f 15,some (.d (eF Q)),f 17,f 18]from by unfold kF;rw[e]];generalize decide (s.key∈Q)=b at*;generalize eF Q=I at*;rcases b with⟨⟩;.exact wb [sb 3 hs]
 .exact wb [sb 3 hs]) (λs _ _=>rfl)
theorem Sv(j:Z<128)(b:f 11=some (.d (nD Z))):fa (fq [dQ (dN lg) (dM 19)]).run (.one 19) JO.run c ((bz 7).map nD) (kF f++[none]) H=some ((ks Z (λi=>pj.getD i []) 7).map λw=>.lst [sD w],H):=uR j (by decide) b (λi e=>by have h:=Om (H:=H) e;exact wd [sv 1 h])
noncomputable def M4(L:ab Slot)(i:Nat):W:=((L[i]?).map (·.key)).getD []
theorem Td(z:Z<128)(m:L.length<=7)(o:f 11=some (.d (nD Z)))(y:f 17=some (.d (.lst (L.map fE)))):fa (fq [dQ (dQ (dM 17) (dM 19)) (dN (.int 0))]).run (.one 19) JO.run c ((bz L.length).map nD) (kF f++[none]) H=some ((ks Z (M4 L) L.length).map λw=>.lst [sD w],H):=uR z m o (λi b=>by
 have j:fZ (.d (.lst (L.map fE))) (nD i) H=some (.d (fE L[i])):=by
  have e:(L.map fE)[i]?=some (fE L[i]):=by rw[bV,aw b];rfl
  simp[e]
 have l:M4 L i=L[i].key:=by unfold M4;rw[aw b];rfl
 rw[show kF f=[f 0,f 1,f 2,f 3,f 4,f 5,f 6,f 7,f 8,f 9,f 10,f 11,f 12,f 13,f 14,f 15,f 16,some (.d (.lst (L.map fE))),f 18]from by unfold kF;rw[y]];refine sY l ?_;generalize L[i]=s at*;generalize L.map fE=q at*;exact wd [sv 1 j])
theorem OG(A:WH t ps R U J)(hm:Z<128)(hB:∀p∈ps,iy p)(hl:ps.length<=4)(h3:R=3->∀L,ps=[.obj L]->L.length<=7/\∀s∈L,LW s.key):∃Q aaT h,d5 (((fc.drop 12).take 5).map BS.run) ⟨cF (n+1),wm⟩ (tC t (ps.map fG) R C U J Z B [M,N,none,none,none,none,none]) H=some (.er,tC t (ps.map fG) R C U J Z B [M,N,some (.d (jD U J B)),some (.d (.lst (aaT.map fG))),some (.d (eF Q)),h,none],H)/\KG ps R Q aaT:=by
 refine(let γ:Prop:=_;(?_:γ));by_cases h4:R=4;.
  subst h4;have j:∀w∈ks Z (λi=>pj.getD i []) 7,w∈pj:=λw b=>d9 (uK b) λi y e=>e▸(show∀i,i<7->pj.getD i []∈pj by decide) i y;have O:=Mq (λw b=>(Ej w (j w b)).mG) ql n wm H;have cb:=Sv (c:=⟨cF (n+1),wm⟩) (H:=H) (f:=qf (tC t (ps.map fG) 4 C U J Z B [M,N,some (.d (jD U J B)),some (.d (.lst (ps.map fG))),some (.d (.lst [])),none,none])) hm rfl;refine(λ(jl:(ks Z (λi=>pj.getD i []) 7).length<=7)=>?_) ql;generalize ks Z (λi=>pj.getD i []) 7=l at*;have kc:=Fd (Q:=ei (l.map λw=>[w])) (c:=⟨cF (n+1),wm⟩) (H:=H) (f:=qf (tC t (ps.map fG) 4 C U J Z B [M,N,some (.d (jD U J B)),some (.d (.lst (ps.map fG))),some (.d (eF (ei (l.map λw=>[w])))),none,none]));have P:∀w∈ei (l.map λw=>[w]),w∈pj:=λw b=>j w (nq b);refine MM (ei (l.map λw=>[w])) [.obj ((ei (l.map λw=>[w])).map f7)] none ⟨?_,⟨λe=>ay e (by decide),λe=>ay e (by decide),λ_=>⟨rfl,P⟩,jf,λw b=>Ej w (P w b),ui jl,?_,by simp⟩⟩;.exact wq [jY 7 (iB (n:=7) (by decide) H),jY 0 cb,dR 1 O,jY 2 kc]
  .intro p K;obtain rfl:=kE K;exact Ks (SS.nd g6) P
 .have E:¬(R:Int)=4:=by lia
  by_cases e3:R=3;.
   subst e3;obtain⟨_,_,L,rfl⟩:=A.o3 rfl;obtain⟨q,I⟩:=h3 rfl L rfl;have j:∀w∈ks Z (M4 L) L.length,∃s∈L,s.key=w:=λw b=>d9 (uK b) λi y e=>i12 (L[i]) (aaf y) (by rw[e,M4,aw y];rfl);have o:∀w∈ks Z (M4 L) L.length,LW w:=λw b=>d9 (j w b) λs hs e=>e▸I s hs;have a:(ks Z (M4 L) L.length).length<=7:=au ql q;have O:=Mq (λw b=>(o w b).mG) a n wm H;have cb:=Td (c:=⟨cF (n+1),wm⟩) (H:=H) (f:=qf (tC t ([.obj L].map fG) 3 C U J Z B [M,N,some (.d (jD U J B)),some (.d (.lst ([Piece.obj L].map fG))),some (.d (.lst [])),some (.d (.lst (L.map fE))),none])) hm q rfl rfl;generalize ks Z (M4 L) L.length=l at*;have kc:=Hn (L:=L) (c:=⟨cF (n+1),wm⟩) (H:=H) (f:=qf (tC t ([.obj L].map fG) 3 C U J Z B [M,N,some (.d (jD U J B)),some (.d (.lst ([Piece.obj L].map fG))),some (.d (eF (ei (l.map λw=>[w])))),some (.d (.lst (L.map fE))),none])) rfl;refine MM (ei (l.map λw=>[w])) [.obj (L.filter λs=>decide (s.key∈ei (l.map λw=>[w])))] (some (.d (.lst (L.map fE)))) ⟨?_,⟨λe=>ay e (by decide),λ_=>⟨L,rfl,rfl,λw b=>j w (nq b)⟩,λe=>ay e (by decide),jf,λw b=>o w (nq b),ui a,?_,by assumption⟩⟩;.exact wq [sd 13 (show iw 200 [V.d (D.lst (aap fE L))] H=some (D.int ↑L.length)from ah (λm:Nat=>some (D.int m)) (ak _)),jY 1 (iB (aj q (by decide)) H),jY 0 cb,dR 1 O,jY 2 kc]
   .intro p K;obtain rfl:=kE K;exact Ir (hB _ (bu.mpr rfl))
  .have z:¬(R:Int)=3:=by lia
   refine YV [] ps none ?_ ⟨λ_=>rfl,λe=>ay e e3,λe=>ay e h4,pA,by simp,by simp,hB,hl⟩;exact wq [sb 4 (eA E),sb 2 (eA z)]
end
section
variable{F:ab Int}{T T' T1 T2:ab Row}{X Y:ab Cell}{n wm t g:Nat}{H:Hp}{k:ab W}{r:Row}{L:ab Slot}{p:Piece}{ps aaT:ab Piece}{R U J C Z kt x:Nat}{B Q:ab W}
theorem mx.lw{ps:ab l6}(o:mx T ps E ni A d e):∀s∈(ps.filter j8).map A++d++e,LW s.key:=λs hs=>o.ind hs (M:=λs=>LW s.key) (λz _ _ P=>by refine(List.length_eq_one_iff.mp P.l1).elim λa b=>?_;exact .inr (.inl ⟨a,P.c a (eL b (.head _)),by rw[P.key,b];rfl⟩)) λq s h _=>by rcases h with h|h<;>rw[h.2]<;>exact .inl (by decide)
theorem Ln:cF (n+1) wm 800 [a,b,c,d] H=cF (n+1) e 800 [a,b,c,d] H:=by rw[gZ n wm,gZ n e,ir rfl,ir rfl]
theorem Jl:cF (n+1) wm 847 [a,b,c] H=cF (n+1) d 847 [a,b,c] H:=by rw[lQ n wm,lQ n d,ir rfl,ir rfl]
theorem Hw:cF (n+1) wm 814 [a,b] H=cF (n+1) c 814 [a,b] H:=by rw[m9 n wm,m9 n c,ir rfl,ir rfl]
theorem Nv(K:ShQ ek T t k)(G:Good g T):∃r,T[t]?=some r/\kc r≠7/\kc r≠14:=by
 have d:=K.lt;have b:=aw d;refine i12 _ b ?_;generalize T[t]=r at*;by_cases i:t=2;.subst i;rw[G.at rfl]at b;refine so b ?_;decide
 by_cases f:∃c,r=.jW c;.obtain⟨c,rfl⟩:=f;simp[kc]
 refine iL (K.to t (by rw[(eQ b i λc e=>f ⟨c,e⟩)];simp)) λm w j l _=>?_;rw[b]at j;obtain rfl:=sI j;clear b f;rcases r with⟨⟩<;>first|exact l.elim|simp[kc]
theorem PO(G:Good (g+170) T)(I:mH T t ps)(A:WH t ps R U J)(K:KG ps R Q aaT)(S:jS T x U J B t)(z:M6 T R kt t Q):∃t' T',cF (n+15) wm 854 [eb,.d (eM kt (if R=2then 16 else-1) x m ro)] (hs F T X)=some (.d (nD t'),hs F T' X)/\Good g T'/\T<+:T'/\qZ T' t' (aaT.map (eB U J B m ro)):=by
 have ho:=A.ho;by_cases h3:R<3;.
  refine(let γ:Prop:=_;(?_:γ));have f:(if R=2then(16:Int)else-1)=-1\/(if R=2then(16:Int)else-1)=16:=by split<;>simp
  have e:∃t' T',cF (n+14) wm 800 [eb,.d (eM kt (if R=2then 16 else-1) x m ro),.d (nD t),.d (nD t)] (hs F T X)=some (.d (nD t'),hs F T' X)/\Good g T'/\T<+:T'/\qZ T' t' (aaT.map (eB U J B m ro)):=by
   refine sY (K.g2 h3) ?_;rcases I with⟨rfl,rfl⟩|⟨h,rfl⟩|⟨I,_⟩;.have i:=A.t0 rfl;exact yS (G.le (by lia)) i (S.tm.resolve_left i) f
   .exact zi (G.le ((aH _ _))) h
   .refine Qh (G.le (by lia)) I S ?_;by_cases j:R=2;.right;rw[aW j];exact⟨rfl,A.o2 j⟩
    .left;rw[aZ j]
  refine jt (e) λt' T' c a b d=>?_;exact jR t' T' ⟨Ll (z.1 h3) λo=>(sZ c Ln),a,b,d⟩
 .have j:¬R=2:=by lia
  refine sY (aZ j) ?_;refine(let γ:Prop:=_;(?_:γ));by_cases N:R=3;.
   refine jt (z.2.1 N) λa b y k2 k3 k4=>?_;refine j7 (K.g3 N) λL hp hg l=>?_;refine pn (A.o3 N) λb0 ht _=>?_;have I:NInv T t ps:=by
    rcases I with⟨rfl,_⟩|⟨h,_⟩|⟨I,_⟩;.trivial
    .lia
    .exact I
   subst hp hg b0;obtain⟨q,s,r,hr,_,_,_,_,_,_,O⟩:=I.mC (.obj L) (by simp);rw[(I.one _ rfl)]at s;replace s:=kE s;obtain rfl:=s.symm;refine jt (Kg (F:=F) (X:=X) (n:=n) (wm:=wm) (Q:=kt) (m:=m) (ro:=ro) (g:=g) (G.le (by lia)) hr O S k3 (by lia) l) λt' T' c E M d=>?_;exact jR t' T' ⟨Kn y k2 λo=>(sZ c Jl),E,M,d⟩
  .have P:R=4:=by lia
   obtain⟨hg,hw⟩:=K.g4 P;have i:=A.o4 P;obtain⟨y,k2⟩:=z.2.2 P;obtain⟨r,hr,r7,ZV⟩:=Nv y G;subst hg;refine jt (Kr (F:=F) (X:=X) (n:=n) (wm:=wm) (m:=m) (ro:=ro) (g:=g) (G.le (by lia)) i (S.tm.resolve_left i) ⟨y,hw,k2⟩ (.inl rfl)) λt' T' c E M d=>?_;exact jR t' T' ⟨Jd hr r7 ZV λo=>(sZ c Hw),E,M,d⟩
end
section
variable{F:ab Int}{T T' T1 T2:ab Row}{X Y:ab Cell}{n wm t g:Nat}{H:Hp}{k:ab W}{r:Row}{L:ab Slot}{p:Piece}{ps aaT:ab Piece}{R U J C Z kt x:Nat}{B Q:ab W}
theorem qZ.s(I:qZ T t ps):mH T t ps:=.inr (.inr ⟨I.toNInv,I.ne⟩)
theorem mH.pre(h:T<+:T')(I:mH T t ps):mH T' t ps:=by
 rcases I with b|b|⟨I,n⟩;.exact .inl b
 .exact .inr (.inl b)
 .exact .inr (.inr ⟨I.pre h,n⟩)
theorem mH.one(I:mH T t ps)(d:11<=t)(b:ps=[.obj L]):L.length<=7/\∀s∈L,LW s.key:=by
 refine(let c:Prop:=_;(?_:c));subst b;rcases I with⟨rfl,_⟩|⟨h,_⟩|⟨I,_⟩;.trivial
 .lia
 .obtain⟨q,_,r,_,_,_,_,_,_,_,O⟩:=I.mC (.obj L) (by simp);exact⟨O.len,λs hs=>O.o.lw s ((O.mem s).mp hs)⟩
theorem Pz(G:Good (g+190) T)(I:mH T t ps):∃h t' j T',cF (n+16) wm 1055 [d7,eb,.ref 0,.d (nD 16),.d (nD t),.d (.lst (ps.map fG))] (hs F T X)=some (.d (.tup [nD t',.lst (j.map fG)]),hs h T' X)/\Good g T'/\T<+:T'/\qZ T' t' j/\∀p∈j,iy p:=by
 refine hd λγ κ=>?_;refine OC (n:=n+11) (F:=F) (T:=T) (X:=X) (t:=t) (pl:=ps.map fG) λf b! C s y B Z e1 q=>?_;refine R8 (t:=t) (c:=⟨cF (n+15),11+X.length⟩) (H:=hs f T X) I.b q λR U J M N e2 A=>?_;refine SY (OG (n:=n+14) (wm:=11+X.length) (H:=hs f T X) (C:=C) (B:=B) (M:=M) (N:=N) A q.hk I.b I.len (λe L hL=>I.one (A.o3 e).2.1 hL)) λQ aaT i e3 K=>?_;refine Uv (Tq (F:=f) (X:=X) (n:=n+10) (wm:=11+X.length) (over:=t) (R:=R) G A.hb A.hc A.c0 q.fk (by have:=A.ho;lia) q.hm K.n K.lw K.l) λkt x T1 e4 a E S KT=>?_;refine jt (PO (F:=f) (X:=X) (n:=n) (wm:=11+X.length) (m:=C%3) (ro:=C/3) a (I.pre E) A K S KT) λt' T2 e5 G2 p2 O=>?_;refine κ ⟨f,t',aaT.map (eB U J B (C%3) (C/3)),T2,?_,G2,E.trans p2,O,O.toNInv.b⟩;have z:=fV (elt:=(dO 1043 [dM 19,dM 14,dM 7]).run) (c:=⟨cF (n+15),11+X.length⟩) (e:=fG) (H:=hs f T2 X) (tC t (ps.map fG) R C U J Z B [M,N,some (.d (jD U J B)),some (.d (.lst (aaT.map fG))),some (.d (eF Q)),i,some (.d (nD t'))]) aaT (λp=>fG (eB U J B (C%3) (C/3) p)) (λp hp=>by generalize fG (eB U J B (C%3) (C/3) p)=P at*;generalize fG p=q2 at*;exact wd [dR 3 (Rj (n:=n+12) (wm:=11+X.length) (H:=hs f T2 X) A.hb A.hc q.fk.fb q.hm (K.b p hp))]) (o:=none);rw[show aaT.map (λp=>fG (eB U J B (C%3) (C/3) p))=(aaT.map (eB U J B (C%3) (C/3))).map fG from by rw[aK];rfl]at z;generalize(aaT.map (eB U J B (C%3) (C/3))).map fG=P at*;have hR:d5 ((fc.drop 17).map BS.run) ⟨cF (n+15),11+X.length⟩ (tC t (ps.map fG) R C U J Z B [M,N,some (.d (jD U J B)),some (.d (.lst (aaT.map fG))),some (.d (eF Q)),i,none]) (hs f T X)=some (.ret (.d (.tup [nD t',.lst P])),tC t (ps.map fG) R C U J Z B [M,N,some (.d (jD U J B)),some (.d (.lst (aaT.map fG))),some (.d (eF Q)),i,some (.d (nD t'))],hs f T2 X):=by generalize aaT.map fG=q2 at*;generalize ps.map fG=q3 at*;generalize eM kt (if R=2then 16 else-1) x (C%3) (C/3)=q5 at*;exact wq [dR 8 e4,dR 1 e5,jY 2 z]
 rw[z7,ir rfl,dT];exact(ah (ck · (fin (11+X.length))) (gM e1 (gM e2 (gM e3 hR)))).trans (dU ..)
end
section
variable{F:ab Int}{T T' T1 T2:ab Row}{X Y:ab Cell}{n wm t g:Nat}{H:Hp}{k:ab W}{r:Row}{L:ab Slot}{p:Piece}{ps:ab Piece}
theorem zw(P:eE T r p):cF (n+2) wm 1012 [.d (fG p)] H=some (.d (sD (eV p)),H):=by
 have B:=Bl P;induction p using Piece.casesOn with
 |prim w=>exact Jx B.1 B.2|obj L=>refine(let G:Prop:=_;(?_:G));obtain⟨_,_,_,_,_,_,O⟩:=P;exact BJ (λs hs=>O.o.z s ((O.mem s).mp hs)) (by have:=O.len;lia)|lst L Q=>
  obtain⟨l,P⟩:=P;induction P with
  |arr e s C q m y f K=>subst q;have z:=(show Seen T e false s.kind from⟨_,K,rfl⟩).z;refine nF (λR b=>?_) (by simp) l;replace b:=kE b;refine sY b ?_;exact⟨z.1,z.2.1,by rw[f];decide,(bZ ‹_›),by lia⟩|tup j C M I N J E=>
   refine nF (λs hs=>?_) (by lia) l;obtain⟨i,A,e⟩:=aaN.mp hs;have c:i<j.length:=by lia
   exact(E i j[i] s (aw c) (by rw[aw A,e])).z (M.le _ (aaf c))
theorem C8(P:eE T r p):mG (eV p):=by induction p using Piece.casesOn with|prim w=>exact od.ok P.1|obj L=>exact(iu (g7 (by simp))).1|lst L b=>exact(iu (g7 (by simp))).1
theorem Ny:D.eqv (eF k) (eF k)=some true:=by
 have h:∀k:ab W,eqvAll (D.k9 59) (k.map sD) (k.map sD)=some true:=by intro k;induction k with|nil=>rfl|cons a l ih=>rw[ar,eqvAll,ih,show D.k9 59 (sD a) (sD a)=some true from ah some (dr (S a))];rfl
 show(if(k.map sD).length=(k.map sD).length then eqvAll (D.k9 59) (k.map sD) (k.map sD)else some false)=_;rw[aW rfl];exact h k
noncomputable def Qo(a0 Q:ae V)(t:Nat)(q:D)(Z:ae V):Loc:=[a0,some (.ref 0),some d7,some eb,some (.d (nD 16)),Q,some (.d (nD t)),some (.d q),Z]
theorem JH(I:NInv T t ps):fa (fq [(dO 1012 [(dM 9)])]).run (.one 9) (gO []) ⟨cF (n+3),wm⟩ (ps.map fG) (Qo a0 Q u (.lst (ps.map fG)) Z++[none]) H=some ((ps.map λp=>[eV p]).map eF,H):=by rw[aK];refine fV (Qo a0 Q u (.lst (ps.map fG)) Z) ps (λp=>eF [eV p]) (λp b=>?_);refine d9 (I.mC p b) λ_ _ h=>d9 h λr _ P=>?_;have j:=zw (n:=n+1) (wm:=wm) (H:=H) P;exact wd [dR 1 j]
theorem LG(I:NInv T t ps):cF (n+3) wm 943 [.d (.lst ((ps.map λp=>[eV p]).map eF))] H=some (.d (eF (ei (ps.map λp=>[eV p]))),H):=by
 refine vU ?_ λk c w b=>?_;.
  have:(ps.map λp=>[eV p]).flatten=ps.map eV:=by clear I;induction ps with|nil=>rfl|cons a l ih=>rw[ar,abe,ih];rfl
  rw[this,ak];exact aj I.l2 (by decide)
 .refine d9 (ag.mp c) λp f e=>?_;rw[←e]at b;rw[kE b];exact d9 (I.mC p f) λ_ _ h=>d9 h λr _ P=>C8 P
theorem JT(G:Good (g+190) T)(I:mH T t ps)(m:n=43):∃d t' b T',d5 (u9.map BS.run) ⟨cF (n+16),wm⟩ (Qo a0 Q t (.lst (ps.map fG)) Z) (hs F T [])=some (.er,Qo a0 Q t' (.lst (b.map fG)) Z,hs d T' [])/\Good g T'/\mH T' t' b:=by refine Xp (Pz (F:=F) (X:=[]) (n:=n) (wm:=wm) G I) λd t' b T' c e o O _=>?_;have sh:=SG e O.sh (aj O.l1 (by decide)) (n+8) wm d [];have i:=JH (n:=n+13) (wm:=wm) (H:=hs d T' []) (a0:=a0) (Q:=Q) (Z:=Z) (u:=t') O.toNInv;have j:=LG (n:=n+13) (wm:=wm) (H:=hs d T' []) O.toNInv;refine Zh d t' b T' ?_ e O.s;have f:=Ny (k:=ei (b.map λp=>[eV p]));have l:=ah (cJ (!·)) f;generalize ei (b.map λp=>[eV p])=q at*;generalize(b.map λp=>[eV p]).map eF=A at*;generalize b.map fG=y at*;generalize ps.map fG=z at*;exact wq [dR 6 c,dR 2 sh,jY 2 i,dR 1 j,sb 0 l]
end
noncomputable def T0:ab Row:=[.key fW,.key ea,.key fF,.key [118,111,105,100],.key d6,.key gy,.key d0,.key dZ,.bool 0 0,.bool 1 0,.key [111,98,106,101,99,116],.obj [] none none,.jW [8,9],.key [101,114,114,111,114],.bool 0 1,.bool 1 1,.param 0]
theorem Jm:Good 100000 T0:=⟨aq _,by decide,by decide⟩
theorem N3(C O:ab Int):d5 (((qH.drop 1).take 3).map BS.run) ⟨nT 59,0⟩ [some (.d (.lst (C.map .int))),some (.ref 0),none,none,none,none,none,none,none] [.lst (O.map .int) .sh]=some (.er,[some (.d (.lst (C.map .int))),some (.ref 0),some d7,some eb,some (.d (nD 16)),none,none,none,none],hs O T0 []):=by kernel_rfl
theorem Pa(C:ab Int):d5 ((qH.take 1).map BS.run) ⟨cF 59,0⟩ [some (.d (.lst (C.map .int))),none,none,none,none,none,none,none,none] []=some (.er,[some (.d (.lst (C.map .int))),some (.ref 0),none,none,none,none,none,none,none],[.lst ((C.take 40).map .int) .sh]):=by have b:=fV (elt:=(dM 9).run) (c:=⟨cF 59,0⟩) (H:=[]) [some (.d (.lst (C.map .int))),none,none,none,none,none,none,none,none] (C.take 40) D.int (λx _=>rfl) (o:=none);rw[show(C.take 40).map D.int=(C.map D.int).take 40from List.map_take]at b⊢;exact wq [jY 2 b]
theorem L0{C Q:ae V}:∀(k j:Nat){F:ab Int}{T:ab Row}{t:Nat}{ps:ab Piece}{Z:ae V},Good (190*k) T->mH T t ps->∀{c:Prop},(∀f T' t'(b:ab Piece)i,hH (.one 8) (d5 (u9.map BS.run)) ⟨cF 59,0⟩ ((aaA j k).map nD) (Qo C Q t (.lst (ps.map fG)) Z) (hs F T [])=some (.er,Qo C Q t' (.lst (b.map fG)) i,hs f T' [])->c)->c:=by intro k;induction k with|zero=>intro j F T t ps Z _ _ c l;exact l F T t ps Z rfl|succ k ih=>intro j F T t ps Z G I c l;refine ZJ (JT (n:=43) (wm:=0) (F:=F) (a0:=C) (Q:=Q) (Z:=some (.d (nD j))) (g:=190*k) G I rfl) λm s q r e o p=>?_;refine ih (j+1) (F:=m) (Z:=some (.d (nD j))) o p λf T' t' b i h=>?_;exact l f T' t' b i (gV rfl (.inl rfl) e h)
theorem Lm:∀O:ab Int,O.length<=63->∃s,nT 60 0 1060 [.d (.lst (O.map .int))] []=some (.d (.bool true),s):=by intro C _;refine sZ Iy ?_;have i:=N3 C (C.take 40);rw[←Iy]at i;refine mn (w_next (n:=58) (wm:=0) (F:=C.take 40) (T:=T0) (X:=[]) (m:=4) (by decide)) λd q B A=>?_;have z:fv .Add (.int 1) (nD d)=some (nD (1+d)):=tn;refine VU (HJ (F:=q) (X:=[]) (n:=52) (wm:=0) (g:=190*4) (Jm.le (by decide))) λj t I l E r _ y=>?_;have c:1+d<=4:=aal 1 d▸A;generalize 1+d=e at*;refine L0 (C:=some (.d (.lst (C.map .int)))) (Q:=some (.d (nD e))) (F:=j) (Z:=none) e 0 (r.le (acg 190 c)) y λK L P k N H=>?_;have f:=Pa C;have o:=iB (aj c (by decide)) (hs j l []);rw[aaa]at o;generalize D.lst (I.map fG)=J at*;generalize D.lst (k.map fG)=M at*;generalize D.lst (C.map D.int)=p at*;refine⟨[],(RV 59 _ _ _).trans (mh (a:=qH.take 1) (b:=qH.drop 1) rfl rfl f (tN (b:=qH.drop 4) i ?_))⟩;have G:d5 (((qH.drop 4).take 2).map BS.run) ⟨cF 59,0⟩ [some (.d p),some (.ref 0),some d7,some eb,some (.d (nD 16)),none,none,none,none] (hs (C.take 40) T0 [])=some (.er,Qo (some (.d p)) (some (.d (nD e))) t J none,hs j l []):=wq [dR 3 B,sd 1 z,dR 2 E];refine tN (b:=qH.drop 6) G ?_;exact wf [jY 1 o,mf 0 H]
end Mine
end
noncomputable section
namespace Mine
theorem Kl:yN:=DE Lm
end Mine
end
theorem PySem.Challenge.cw_rh0137_01_holds : PySem.Challenge.rw_rh0137_01.Holds :=
 PySem.W.holds_law Mine.TN λb=>Mine.head b Mine.Kl
