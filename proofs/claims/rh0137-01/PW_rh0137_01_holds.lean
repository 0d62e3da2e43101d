import PyProof.Rows.All
import OpenK.KLine
import PyProof.WalksMore
import PyProof.WalkInts
import PyProof.StrLawsNeg
import PyProof.SliceStr2
import PyProof.Rows.TupAssign
import PyProof.Rows.SortStr
import PyProof.RangeFor
import PyProof.PureInt
import PyProof.DictRoadsH
import PyProof.DictDisplay
import PyProof.DefCall
import PyProof.CompUse
import PyProof.CompFree
import KE.KIntText
import KE.KDictSum
import Open.Line
import Lean
import PySem.Challenge.RW_rh0137_01
set_option maxRecDepth 100000
set_option Elab.async false
set_option tactic.hygienic false
set_option genInjectivity false
set_option genSizeOf false
set_option genCtorIdx false
set_option bootstrap.genMatcherCode false
set_option linter.unusedSimpArgs false
set_option linter.unusedVariables false
open PySem.Str renaming ofString->aa,join->aar
open _root_ renaming List->ab,Option->ae,congrArg->ag,decide_eq_false->aw,absurd->ax,decide_eq_true->ay,if_pos->aS,of_decide_eq_true->aU,if_neg->aX,decide_eq_true_eq->aZ,or_false->a6,Bool->bp,DecidableEq->bA,trivial->bL,beq_iff_eq->bO,decide_eq_decide->bU,forall_eq->cH,Decidable->dm,Array->dw,beq_self_eq_true->dz,autoParam->dA,String->dF,forall_eq_or_imp->aah,beq_eq_false_iff_ne->aak,decide_eq_true_iff->aa8,Inhabited->acw,if_true->adp,cond_false->aed,if_false->aep,False->aeu,Unit->ag9
open List renaming mem_map->af,mem_cons->ah,not_mem_nil->ai,length_map->ak,length_append->ao,prefix_refl->aq,getElem?_eq_getElem->au,all_eq_true->aA,map_append->aC,mem_cons_of_mem->aD,getElem?_eq_some_iff->aE,mem_cons_self->aF,map_cons->aH,mem_append->aJ,map_map->aK,append_nil->aL,mem_append_right->aN,mem_filter->aO,getElem?_append_left->aT,casesOn->aW,length_filter_le->aY,nodup_append->a7,nodup_cons->a9,length_cons->ba,getElem?_append_right->bj,mem_append_left->bk,length->bq,mem_singleton->bt,lookup_cons->bu,range->bx,append_assoc->bz,forall_mem_cons->bC,map_nil->bD,map_congr_left->bF,replicate->bJ,length_nil->bS,set_append_right->bT,getElem?_map->bV,pairwise_map->bW,pairwise_singleton->bX,flatMap_append->b7,getElem?_eq_none->b9,mem_flatMap->ct,flatMap_cons->cD,filter_append->cJ,zip_cons_cons->cK,find?_cons->cS,filter_cons->cV,length_drop->dv,any_eq_true->dy,length_eq_one_iff->dC,pairwise_cons->dD,lookup_append->dH,map->aaa,range_eq_range'->aad,mem_of_getElem?->aae,mem_of_find?_eq_some->aaf,getElem_mem->aai,flatMap_nil->aaj,forIn_cons->aaq,length_take_of_le->aay,filter_eq_nil_iff->aaz,length_pos_of_mem->aaA,range'->aaB,lookup->aaD,take_append_drop->aaL,eq_nil_of_length_eq_zero->aaO,cons_append->aaP,pairwise_append->aaQ,mem_iff_getElem->aaR,zip_append->aaV,getElem?_concat_length->aa1,filter_sublist->aa2,perm_ext_iff_of_nodup->aa6,getElem?_take->abb,map_eq_singleton_iff->abc,pairwise_iff_getElem->abd,take_left->abe,flatten_cons->abh,length_erase_of_mem->abj,Nodup->abk,length_range->abl,getElem?_replicate->abp,length_eq_zero_iff->abw,range_succ_eq_map->abE,getElem?_set_self->abF,drop_eq_nil_of_le->abG,take_of_length_le->abH,singleton_append->abT,find?_some->abU,getElem?_set_ne->ab7,mem_erase_of_ne->ab9,nodup_nil->aca,mem_range->acb,toList_toArray->ace,flatten_append->aci,filter_eq_self->acj,map_inj_left->acH,size_toArray->acN,cons_eq_cons->acS,flatMap_def->ac1,append_cons->ac3,mem_reverse->ac4,mem_flatten->ac6,length_set->ade,of_mem_zip->adk,filter_map->adl,drop_left->adA,any_cons->aeg,Pairwise->aeh,all_map->ae6,take->ae8,map_id->agd,filter->agE
open Nat renaming lt_of_le_of_lt->aj,le_trans->ar,le_add_right->aG,le_refl->aV,le_of_ble_eq_true->bl,zero_le->bB,lt_trans->bK,eq_of_beq_eq_true->bP,zero_add->bQ,lt_of_lt_of_le->bZ,le_of_eq->b4,mul_le_mul_right->cq,succ_ne_zero->cu,ne_of_lt->cv,add_le_add_left->cy,lt_irrefl->cQ,mod_two_eq_zero_or_one->cT,lt_succ_self->cW,exists_eq_add_one_of_ne_zero->c4,le_add_left->c9,le_of_lt_succ->dc,lt_or_ge->dp,le_succ->dq,beq->aal,not_lt->aam,ne_of_gt->aao,add_comm->aap,add_assoc->aas,le_antisymm->aat,add_right_comm->aau,lt_trichotomy->aaC,le_succ_of_le->aaF,add_le_add->aaG,le_of_lt->aaI,succ->aa7,lt_succ_of_le->abf,lt_succ_of_lt->abg,succ_le_succ->abC,add_le_add_right->ab6,sub_lt_sub_left->acf,mul_le_mul_left->acg,sub_add_cancel->acp,beq_refl->acW,zero_lt_succ->ac0,mod_lt->adS,not_le->adW,blt_eq->ad3,lt_asymm->aeZ,ble->aga
open PySem renaming Value->al,wpAny_bind->aB,Shared->aM,model->aP,wpAny_pure->aQ,wpAny->aR,sizeLine->bf,Params->bo,Around->bH,World->bN,Addr->b8,Scope->cg,wpAny_mono->cz,mainGlobals->cC,eval->cG,sysModules->cM,DictEntry->cN,compareOp->cZ,starEach->c6,callEnvC->c7,getMethod_builtin->da,sizeLine_eq->dr,Operator->dE,wpAny_Constant_int->dG,wpAny_Call_Name_kw->dI,wpAny_standAt->aav,isTrue->aax,getMethod->aaK,wpAny_call_entry->aaN,wpAny_holding->aaT,assignEach->aaU,swapsWith->aaW,wpAny_specialOf->aa0,cellsFrom->aa3,backTo->aa9,wpAny_assign_Name->abm,wpAny_list_append_plain->abq,wpAny_items_cons->abz,wpAny_forIn_list->abD,letOwnedTupleGo->abJ,cLine->abN,codeAny->abR,wpAny_items_nil->abV,wpAny_call->abZ,cStatics->ab0,builtinsNs->ab4,Result->acd,wpAny_Constant_none->ack,wpAny_UnaryOp->acn,wpAny_tupleItemsOf->acu,seqIndex?->acv,evalPart_some->acy,wpAny_truthy_bool->acE,wpAny_truthy_list->acF,wpAny_Assign_Name->acI,wpAny_pyIter_list->acK,eqIsQuiet_byValue->acL,wpAny_eqBool_str->acY,wpAny_pyHash_int->ac5,wpAny_pyHash_str->ac7,NameKind->ada,sliceBounds->adb,slicePicked->adf,SubscriptOn->adm,typeIs_str->adT,call_meets->adX,exec->adY,denote->adZ,truthy->ad1,reduceHash->ad4,step->aec,valueAt->aes,spliced->aey,relabel->aez,getItem->aeA,storedH->aeH,binaryOp->aeJ,getAttr->aeK,atKey->ae4,CmpOp->afb,stored->afd,assign->aft,bindL->ago,bindC->agr,Stmt->ahs
open Bool renaming and_eq_true->aI,casesOn->a5,and_eq_true_iff->bY,eq_iff_iff->b6,false_ne_true->cL,or_eq_true->de,or_eq_true_iff->du,noConfusion->aaM,or_eq_false_iff->aaS,false_eq_true->aba,or_true->acV,and_true->aen
open Function renaming comp_def->a8,comp_apply->acm
open Int renaming ofNat_lt->bg,ofNat_inj->bM,natCast_nonneg->cI,fmod_eq_emod_of_nonneg->aac,ofNat_le->abX,fmod->ab2,toNat_natCast->acM,not_lt->acP,le_trans->acT,lt_trans->afi,add_comm->afo,fdiv->ahc
open Option renaming bind_some->bh,casesOn->b5,bind->ck,map_eq_some_iff->cw,map->cx,rec->df,isSome_iff_exists->dj,eq_none_iff_forall_ne_some->aaw,bind_eq_some_iff->abv,map_some->abP,any_some->abW,any->ahI
open List.cons renaming inj->br,injEq->aaX
open ForInStep renaming yield->bG
open PySem.Builtin.Tuple renaming tupleHashOf->bI,tupleItemsOf->aa4
open Option.some renaming inj->bR
open PySem.Builtin.Str renaming strSliceIndices->cj,occurrences->cO
open PySem.NameKind renaming free->cn,cell->acA
open List.Pairwise renaming filter->cp,imp_of_mem->c8,imp->aab,map->ah2
open Array renaming length_toList->cB,getElem?_toList->cY,any_toList->abA,forIn_toList->acz,size_append->acJ,toList_push->acO,size_push->adn
open PySem.Builtin renaming bitAnd->cE
open Int.ofNat renaming inj->cP
open And renaming imp_left->cR
open PySem.W renaming boot_drawn->cU,instObj->dB,boot_heap->aag,emptyDict->aaJ,given->aaY,findIn->aby,ReadsAllW->abM,dictOf->abQ,boot_o_0->ab5,KeysNamed->acx,namesBound->acR,staticsOk->adg,keepIn->aea,absHeap->aee,handedIn->ael,laidKept->aer
open PySem.Operator renaming Mod->cX,casesOn->abx
open Nat.succ renaming inj->dJ
open List.Perm renaming eq_of_pairwise->aan
open PySem.F renaming slot_tuple_hash->aaE,plainAttrs_list->abn,slot_dict_get->abO,slot_tuple_index->aco,slot_list_extend->acs,args_dict_get_3->acD,entry_dict_get->acX,slot_list_pop->ado,slot_str_join->adr
open PySem.PyData renaming keyHash->aaH
open PySem.Sem renaming wp_mono->aaZ,wp_bind'->afA
open PyProof.Rows renaming getItem_tuple->aa5,pow_int_small->ads,floordiv_int->adH,getItem_str->adV,len_tuple->aeR,and_int->afE,add_int->afG,add_str->afI,mul_int->afK,sub_int->afN,mod_int->afP,in_str->agp,le_int->ags,lt_int->agx,gt_int->agD,ge_int->agF
open PySem.Env renaming kindOf->abi
open PySem.W.WData renaming int->abo,bool->acB
open PySem.Value.ref renaming inj->abr
open PySem.Builtin.Range renaming rangeSize->abt,small->agm
open Ne renaming symm->abu
open List.Sublist renaming map->abB
open PySem.Arguments renaming mk->abK
open Classical renaming choose_spec->abL,choose->ac2
open PySem.W.WShape renaming hasItems->abS
open PySem.Value renaming str->abY,none->ab3,isStrOf_shape->ach,isInt_shape->acQ,isStrOf->aex
open Std.Legacy.Range renaming forIn_eq_forIn_range'->ab1,size->afq
open PySem.Calls renaming Name_function_global->ab8
open List.Nodup renaming sublist->acq
open PySem.SeqAt renaming EqAt->acr
open PySem.W.ReadsAllW renaming casesOn->acC
open PySem.CmpOp renaming Eq->ac8,NotIn->agv
open PySem.Pin renaming globalOf_eq->adh
open PySem.Builtin.List renaming listTooLong->ad2
open PySem.Obj renaming mapSeq->ad9
open PySem.Value.str renaming inj->aei
open PySem.Value.int renaming inj->aew
open PySem.SeqAt.EqAt renaming str_str->afh,int_str->afr,int_int->afs,str_int->afw
open PySem.Expr renaming casesOn->afy
open Prod.mk renaming inj->agl
open False renaming elim->ahx
open PySem.Walks renaming list->ahY
open PUnit renaming unit->ah1
noncomputable section
namespace Mine
section
universe u v w x
theorem ec{P:Prop}{a:b}(h:none=some a):P:=nomatch h
theorem TV{P:Prop}{a:b}(h:some a=none):P:=nomatch h
theorem fE{P:Prop}(h:false=true):P:=nomatch h
theorem Ua{P:Prop}(h:true=false):P:=nomatch h
theorem vj{c:Type u}{b:Prop}{o:ae c}{f:c->ae d}(h:o.bind f=some r)(k:∀a,o=some a->f a=some r->b):b:=b5 (motive:=λo=>o.bind f=some r->(∀a,o=some a->f a=some r->b)->b) o (λh _=>ec h) (λa h k=>k a rfl h) h k
theorem jU{d:Type u}{e:Type v}{g:Prop}{o:ae (d×c)}{f:d×c->ae e}{r:e}(h:o.bind f=some r)(k:∀a b,o=some (a,b)->f (a,b)=some r->g):g:=vj h λp=>k p.1 p.2
theorem Xd{g:Type u}{d:Type w}{i:Type v}{j:Prop}{o:ae (g×d×e)}{f:g×d×e->ae i}{r:i}(h:o.bind f=some r)(k:∀a b c,o=some (a,b,c)->f (a,b,c)=some r->j):j:=vj h λp=>k p.1 p.2.1 p.2.2
theorem j0{c:Type u}{b:Prop}{o:ae c}{f:c->d}(h:o.map f=some r)(k:∀a,o=some a->f a=r->b):b:=b5 (motive:=λo=>o.map f=some r->(∀a,o=some a->f a=r->b)->b) o (λh _=>ec h) (λa h k=>k a rfl (bR h)) h k
theorem yp{d:Type u}{e:Type v}{g:Prop}{o:ae (d×c)}{f:d×c->e}{r:e}(h:o.map f=some r)(k:∀a b,o=some (a,b)->f (a,b)=r->g):g:=j0 h λp=>k p.1 p.2
theorem Ov{P:Prop}{k:Nat}(h:0=k+1):P:=ax h.symm (cu k)
theorem bn{b:Type u}{P:b->Prop}:∀x∈([]:ab b),P x:=λ_ h=>ax h ai
theorem if1{b:Type u}{d:Prop}{c:Prop}[dm c]{o:ae b}{r:b}(h:(if c then o else none)=some r)(k:c->o=some r->d):d:=if e:c then k e ((aS e).symm.trans h)else ec ((aX e).symm.trans h)
theorem Tw{b:Type u}{d:Prop}{c:Prop}[dm c]{o:ae b}{r:b}(h:(if c then none else o)=some r)(k:¬c->o=some r->d):d:=if e:c then ec ((aS e).symm.trans h)else k e ((aX e).symm.trans h)
theorem lJ{b:Prop}(h:c/\d)(k:c->d->b):b:=k h.1 h.2
theorem ph{b:Prop}(h:c/\d/\e)(k:c->d->e->b):b:=lJ h.2 (k h.1)
theorem CE{b:Prop}(h:c/\d/\e/\f)(k:c->d->e->f->b):b:=ph h.2 (k h.1)
theorem Ub{b:Prop}(h:c/\d/\e/\f/\g)(k:c->d->e->f->g->b):b:=CE h.2 (k h.1)
theorem XA{b:Prop}(h:c/\d/\e/\f/\g/\i)(k:c->d->e->f->g->i->b):b:=Ub h.2 (k h.1)
theorem VC{b:Prop}(h:c/\d/\e/\f/\g/\i/\j)(k:c->d->e->f->g->i->j->b):b:=XA h.2 (k h.1)
theorem YH{b:Prop}(h:c/\d/\e/\f/\g/\i/\j/\l)(k:c->d->e->f->g->i->j->l->b):b:=VC h.2 (k h.1)
theorem nF{b:A->Prop}{c:Prop}(h:∃a,b a)(k:∀a,b a->c):c:=h.elim λa h=>k a h
theorem d9{b c:A->Prop}{d:Prop}(h:∃a,b a/\c a)(k:∀a,b a->c a->d):d:=h.elim λa h=>lJ h (k a)
theorem j6{b c d:A->Prop}{e:Prop}(h:∃a,b a/\c a/\d a)(k:∀a,b a->c a->d a->e):e:=h.elim λa h=>ph h (k a)
theorem Bz{b c d e:A->Prop}{f:Prop}(h:∃a,b a/\c a/\d a/\e a)(k:∀a,b a->c a->d a->e a->f):f:=h.elim λa h=>CE h (k a)
theorem Rp{b c d e f:A->Prop}{g:Prop}(h:∃a,b a/\c a/\d a/\e a/\f a)(k:∀a,b a->c a->d a->e a->f a->g):g:=h.elim λa h=>Ub h (k a)
theorem Sz{b c d e f g:A->Prop}{i:Prop}(h:∃a,b a/\c a/\d a/\e a/\f a/\g a)(k:∀a,b a->c a->d a->e a->f a->g a->i):i:=h.elim λa h=>XA h (k a)
theorem D!{b c d e f g i:A->Prop}{j:Prop}(h:∃a,b a/\c a/\d a/\e a/\f a/\g a/\i a)(k:∀a,b a->c a->d a->e a->f a->g a->i a->j):j:=h.elim λa h=>VC h (k a)
theorem ZQ{b c d e f g i j:A->Prop}{l:Prop}(h:∃a,b a/\c a/\d a/\e a/\f a/\g a/\i a/\j a)(k:∀a,b a->c a->d a->e a->f a->g a->i a->j a->l):l:=h.elim λa h=>YH h (k a)
theorem QS{A:Sort u}{c:A->B->Prop}{d:Prop}(h:∃a b,c a b)(k:∀a b,c a b->d):d:=h.elim λa h=>nF h (k a)
theorem ml{A:Sort u}{c d:A->B->Prop}{e:Prop}(h:∃a b,c a b/\d a b)(k:∀a b,c a b->d a b->e):e:=h.elim λa h=>d9 h (k a)
theorem iE{A:Sort u}{c d e:A->B->Prop}{f:Prop}(h:∃a b,c a b/\d a b/\e a b)(k:∀a b,c a b->d a b->e a b->f):f:=h.elim λa h=>j6 h (k a)
theorem jr{A:Sort u}{c d e f:A->B->Prop}{g:Prop}(h:∃a b,c a b/\d a b/\e a b/\f a b)(k:∀a b,c a b->d a b->e a b->f a b->g):g:=h.elim λa h=>Bz h (k a)
theorem CZ{A:Sort u}{c d e f g:A->B->Prop}{i:Prop}(h:∃a b,c a b/\d a b/\e a b/\f a b/\g a b)(k:∀a b,c a b->d a b->e a b->f a b->g a b->i):i:=h.elim λa h=>Rp h (k a)
theorem Uz{A:Sort u}{c d e f g i:A->B->Prop}{j:Prop}(h:∃a b,c a b/\d a b/\e a b/\f a b/\g a b/\i a b)(k:∀a b,c a b->d a b->e a b->f a b->g a b->i a b->j):j:=h.elim λa h=>Sz h (k a)
theorem XY{A:Sort u}{B:Sort v}{d:A->B->C->Prop}{e:Prop}(h:∃a b c,d a b c)(k:∀a b c,d a b c->e):e:=h.elim λa h=>QS h (k a)
theorem Tb{A:Sort u}{B:Sort v}{d e:A->B->C->Prop}{f:Prop}(h:∃a b c,d a b c/\e a b c)(k:∀a b c,d a b c->e a b c->f):f:=h.elim λa h=>ml h (k a)
theorem WJ{A:Sort u}{B:Sort v}{d e f:A->B->C->Prop}{g:Prop}(h:∃a b c,d a b c/\e a b c/\f a b c)(k:∀a b c,d a b c->e a b c->f a b c->g):g:=h.elim λa h=>iE h (k a)
theorem ZW{A:Sort u}{B:Sort v}{d e f g:A->B->C->Prop}{i:Prop}(h:∃a b c,d a b c/\e a b c/\f a b c/\g a b c)(k:∀a b c,d a b c->e a b c->f a b c->g a b c->i):i:=h.elim λa h=>jr h (k a)
theorem UE{A:Sort u}{B:Sort v}{d e f g i:A->B->C->Prop}{j:Prop}(h:∃a b c,d a b c/\e a b c/\f a b c/\g a b c/\i a b c)(k:∀a b c,d a b c->e a b c->f a b c->g a b c->i a b c->j):j:=h.elim λa h=>CZ h (k a)
theorem SH{A:Sort u}{B:Sort v}{d e f g i j:A->B->C->Prop}{l:Prop}(h:∃a b c,d a b c/\e a b c/\f a b c/\g a b c/\i a b c/\j a b c)(k:∀a b c,d a b c->e a b c->f a b c->g a b c->i a b c->j a b c->l):l:=h.elim λa h=>Uz h (k a)
theorem ZK{A:Sort u}{B:Sort v}{C:Sort w}{e f:A->B->C->D->Prop}{g:Prop}(h:∃a b c d,e a b c d/\f a b c d)(k:∀a b c d,e a b c d->f a b c d->g):g:=h.elim λa h=>Tb h (k a)
theorem ZZ{A:Sort u}{B:Sort v}{C:Sort w}{e f g:A->B->C->D->Prop}{i:Prop}(h:∃a b c d,e a b c d/\f a b c d/\g a b c d)(k:∀a b c d,e a b c d->f a b c d->g a b c d->i):i:=h.elim λa h=>WJ h (k a)
theorem V3{A:Sort u}{B:Sort v}{C:Sort w}{e f g i:A->B->C->D->Prop}{j:Prop}(h:∃a b c d,e a b c d/\f a b c d/\g a b c d/\i a b c d)(k:∀a b c d,e a b c d->f a b c d->g a b c d->i a b c d->j):j:=h.elim λa h=>ZW h (k a)
theorem XB{A:Sort u}{B:Sort v}{C:Sort w}{e f g i j:A->B->C->D->Prop}{l:Prop}(h:∃a b c d,e a b c d/\f a b c d/\g a b c d/\i a b c d/\j a b c d)(k:∀a b c d,e a b c d->f a b c d->g a b c d->i a b c d->j a b c d->l):l:=h.elim λa h=>UE h (k a)
theorem π{A:Sort u}{B:Sort v}{C:Sort w}{e f g i j l:A->B->C->D->Prop}{m:Prop}(h:∃a b c d,e a b c d/\f a b c d/\g a b c d/\i a b c d/\j a b c d/\l a b c d)(k:∀a b c d,e a b c d->f a b c d->g a b c d->i a b c d->j a b c d->l a b c d->m):m:=h.elim λa h=>SH h (k a)
theorem Yv{A:Sort u}{B:Sort v}{C:Sort w}{E:Sort u}{f g:A->B->C->D->E->Prop}{i:Prop}(h:∃a b c d e,f a b c d e/\g a b c d e)(k:∀a b c d e,f a b c d e->g a b c d e->i):i:=h.elim λa h=>ZK h (k a)
theorem Zx{A:Sort u}{B:Sort v}{C:Sort w}{E:Sort u}{f g i j:A->B->C->D->E->Prop}{l:Prop}(h:∃a b c d e,f a b c d e/\g a b c d e/\i a b c d e/\j a b c d e)(k:∀a b c d e,f a b c d e->g a b c d e->i a b c d e->j a b c d e->l):l:=h.elim λa h=>V3 h (k a)
theorem XM{A:Sort u}{B:Sort v}{C:Sort w}{E:Sort u}{f g i j l:A->B->C->D->E->Prop}{m:Prop}(h:∃a b c d e,f a b c d e/\g a b c d e/\i a b c d e/\j a b c d e/\l a b c d e)(k:∀a b c d e,f a b c d e->g a b c d e->i a b c d e->j a b c d e->l a b c d e->m):m:=h.elim λa h=>XB h (k a)
theorem Oj{b:A->Prop}(a:A)(c:b a):∃a,b a:=⟨a,c⟩
theorem i12{b c:A->Prop}(a:A)(d:b a)(e:c a):∃a,b a/\c a:=⟨a,d,e⟩
theorem PA{b c d:A->Prop}(a:A)(e:b a)(f:c a)(g:d a):∃a,b a/\c a/\d a:=⟨a,e,f,g⟩
theorem VH{b c d e:A->Prop}(a:A)(f:b a)(g:c a)(i:d a)(j:e a):∃a,b a/\c a/\d a/\e a:=⟨a,f,g,i,j⟩
theorem Xu{b c d e f g:A->Prop}(a:A)(i:b a)(j:c a)(k:d a)(l:e a)(m:f a)(o:g a):∃a,b a/\c a/\d a/\e a/\f a/\g a:=⟨a,i,j,k,l,m,o⟩
theorem jQ{A:Sort u}{c:A->B->Prop}(a:A)(b:B)(d:c a b):∃a b,c a b:=⟨a,b,d⟩
theorem xx{A:Sort u}{c d:A->B->Prop}(a:A)(b:B)(e:c a b)(f:d a b):∃a b,c a b/\d a b:=⟨a,b,e,f⟩
theorem Dd{A:Sort u}{c d e:A->B->Prop}(a:A)(b:B)(f:c a b)(g:d a b)(i:e a b):∃a b,c a b/\d a b/\e a b:=⟨a,b,f,g,i⟩
theorem qW{A:Sort u}{c d e f:A->B->Prop}(a:A)(b:B)(g:c a b)(i:d a b)(j:e a b)(k:f a b):∃a b,c a b/\d a b/\e a b/\f a b:=⟨a,b,g,i,j,k⟩
theorem Rg{A:Sort u}{c d e f g:A->B->Prop}(a:A)(b:B)(i:c a b)(j:d a b)(k:e a b)(l:f a b)(m:g a b):∃a b,c a b/\d a b/\e a b/\f a b/\g a b:=⟨a,b,i,j,k,l,m⟩
theorem Y'{A:Sort u}{c d e f g i:A->B->Prop}(a:A)(b:B)(j:c a b)(k:d a b)(l:e a b)(m:f a b)(o:g a b)(p:i a b):∃a b,c a b/\d a b/\e a b/\f a b/\g a b/\i a b:=⟨a,b,j,k,l,m,o,p⟩
theorem MN{A:Sort u}{B:Sort v}{d:A->B->C->Prop}(a:A)(b:B)(c:C)(e:d a b c):∃a b c,d a b c:=⟨a,b,c,e⟩
theorem Y9{A:Sort u}{B:Sort v}{d e:A->B->C->Prop}(a:A)(b:B)(c:C)(f:d a b c)(g:e a b c):∃a b c,d a b c/\e a b c:=⟨a,b,c,f,g⟩
theorem YN{A:Sort u}{B:Sort v}{d e f:A->B->C->Prop}(a:A)(b:B)(c:C)(g:d a b c)(i:e a b c)(j:f a b c):∃a b c,d a b c/\e a b c/\f a b c:=⟨a,b,c,g,i,j⟩
theorem XR{A:Sort u}{B:Sort v}{C:Sort w}{e:A->B->C->D->Prop}(a:A)(b:B)(c:C)(d:D)(f:e a b c d):∃a b c d,e a b c d:=⟨a,b,c,d,f⟩
theorem Zv{A:Sort u}{B:Sort v}{C:Sort w}{e f g:A->B->C->D->Prop}(a:A)(b:B)(c:C)(d:D)(i:e a b c d)(j:f a b c d)(k:g a b c d):∃a b c d,e a b c d/\f a b c d/\g a b c d:=⟨a,b,c,d,i,j,k⟩
theorem Zs{A:Sort u}{B:Sort v}{C:Sort w}{E:Sort u}{f:A->B->C->D->E->Prop}(a:A)(b:B)(c:C)(d:D)(e:E)(g:f a b c d e):∃a b c d e,f a b c d e:=⟨a,b,c,d,e,g⟩
@[elab_as_elim]theorem so{b:Type}{a r:b}{P:b->Prop}(h:some a=some r)(k:P a):P r:=bR h▸k
theorem or3{P:Prop}(h:a\/b\/c)(d:a->P)(e:b->P)(f:c->P):P:=h.elim d λh=>h.elim e f
theorem kB{a:b}(h:x∈[a]):x=a:=bt.mp h
theorem QQ{b:c}(h:x∈[a,b]):x=a\/x=b:=(ah.mp h).imp id kB
theorem Zz{c:d}(h:x∈[a,b,c]):x=a\/x=b\/x=c:=(ah.mp h).imp id QQ
theorem XQ{d:e}(h:x∈[a,b,c,d]):x=a\/x=b\/x=c\/x=d:=(ah.mp h).imp id Zz
theorem Z2{e:f}(h:x∈[a,b,c,d,e]):x=a\/x=b\/x=c\/x=d\/x=e:=(ah.mp h).imp id XQ
theorem Xe{f:g}(h:x∈[a,b,c,d,e,f]):x=a\/x=b\/x=c\/x=d\/x=e\/x=f:=(ah.mp h).imp id Z2
theorem sI{b:c}(h:some a=some b):a=b:=bR h
theorem pJ{e:Type u}{a c:e}{d:f}(h:(a,b)=(c,d)):a=c/\b=d:=agl h
theorem CC{e:Type u}{a c:e}{d:f}(h:some (a,b)=some (c,d)):a=c/\b=d:=pJ (sI h)
theorem Wz{g:Type u}{i:Type v}{a c:g}{b d:i}{f:j}(h:some (a,b,e)=some (c,d,f)):a=c/\b=d/\e=f:=⟨(CC h).1,pJ (CC h).2⟩
@[elab_as_elim]theorem sZ{c:Sort u}{a b:c}{P:c->Prop}(h:a=b)(k:P a):P b:=h▸k
@[elab_as_elim]theorem sY{c:Sort u}{a b:c}{P:c->Prop}(h:a=b)(k:P b):P a:=h▸k
@[elab_as_elim]theorem sP{e:Type u}{f:Type v}{a c:e}{b d:f}{P:e->f->Prop}(h:some (a,b)=some (c,d))(k:P a b):P c d:=(CC h).1▸(CC h).2▸k
@[elab_as_elim]theorem sQ{g:Type u}{i:Type v}{j:Type w}{a c:g}{b d:i}{e f:j}{P:g->i->j->Prop}(h:some (a,b,e)=some (c,d,f))(k:P a b e):P c d f:=(Wz h).1▸(Wz h).2.1▸(Wz h).2.2▸k
theorem hd{G:Prop}(f:∀b:Prop,(G->b)->b):G:=f G id
theorem kn{P:Prop}{a:b}(h:a∈[]):P:=nomatch h
theorem xc{P:Prop}(f:c->Nat)(h:a=b)(e:(f a).beq (f b)=false):P:=Ua ((acW (f a)).symm.trans (ag (λx=>(f a).beq (f x)) h|>.trans e))
theorem xo{P:Prop}(f:c->Nat)(h:some a=some b)(e:(f a).beq (f b)=false):P:=xc f (sI h) e
theorem xn{P:Prop}{l:ab b}(h:[]=a::l):P:=nomatch h
theorem xN{P:Prop}{l:ab b}(h:a::l=[]):P:=nomatch h
theorem eL{m:ab b}(h:l=m)(k:a∈m):a∈l:=h▸k
end
end Mine
end
noncomputable section
open PySem PySem.W
namespace Mine
structure St where
 t:BT
 n:Nat
 tk:Nat
noncomputable def nE(s:St)(a:b8):ae Obj:=@Bool.rec (λ_=>ae Obj) none (@df Obj (λ_=>ae Obj) none alive (s.t.get a)) (aga (aa7 a) s.n)
noncomputable abbrev Res(b:Type):=ae (Except al b×Pos×St)
noncomputable def FV(s:St)(o:Obj):ae St:=@df Obj (λ_=>ae St) none (λ_=>some ⟨s.t.ins s.n o,aa7 s.n,s.tk⟩) ((s.t.ins s.n o).get s.n)
noncomputable def ev(N:Setting)(R:Ctx->Pos->St->ae (acd×St))(d:Ctx){b:Type}(x:Sem b):Pos->St->Res b:=@Sem.rec b (λ_=>Pos->St->Res b) (λa p s=>some (.ok a,p,s)) (λe p s=>some (.error e,p,s)) (λ_ _ _=>none) (λ_ _ _=>none) (λ_ _ ih p s=>ih () p s) (λp' _ ih _ s=>ih () p' s) (λa _ _ ih p s=>@df Obj (λ_=>Res b) none (λo=>ih o p s) (nE s a)) (λa _ f _ ih p s=>@df Obj (λ_=>Res b) none (λ_=>ih () p ⟨s.t.set a f,s.n,s.tk⟩) (nE s a)) (λo _ ih p s=>@df St (λ_=>Res b) none (λs'=>ih s.n p s') (FV s o)) (λa _ ih p s=>@df Obj (λ_=>Res b) none (λo=>ih (some o) p s) (nE s a)) (λ_ _ ih p s=>ih () p s) (λ_ _ _ _ _=>none) (λ_ ih p s=>ih s.tk p ⟨s.t,s.n,aa7 s.tk⟩) (λ_ ih p s=>ih N p s) (λ_ _ _ _ _ _=>none) (λ_ _ _ _ _ _=>none) (λc h _ _ _ ih p s=>@df (acd×St) (λ_=>Res b) none (λr=>ih r.1 p r.2) (R (d.enter c h p) p s)) (λI _ ih p s=>ih (match I with|true=>d.own|false=>d.handled) p s) (λ_ _ _ _ _=>none) (λ_ _ _ _ _=>none) (λ_ _ _ _ _ _ _=>none) (λ_ _ _ _ _ _ _=>none) (λ_ ih p s=>ih ((d.code,p)::d.below) p s) (λ_ _ _ _ _=>none) (λ_ ih p s=>ih 0 p s) (λ_ _ _ _ _ _ _ _=>none) x
noncomputable def Js(N:Setting)(den:Code->Sem Fin)(n:Nat):Ctx->Pos->St->ae (acd×St):=@Nat.rec (λ_=>Ctx->Pos->St->ae (acd×St)) (λ_ _ _=>none) (λ_ ih b p s=>match ev N ih b (den b.code) p s with|none=>none|some r=>match r.1with|.error e=>some (.error e,r.2.2)|.ok (.done f)=>some (.ok f,r.2.2)|.ok (.again c)=>match c.quiet with|true=>ih (b.goto c) r.2.1 r.2.2|false=>none) n
structure NP where
 life:Life
 gens:dw GenState
 drawn:Drawn
 os:OsState
noncomputable def abs(s:St)(c:NP):aM:=⟨aee s.t s.n c.life,c.gens,c.drawn,s.tk,c.os⟩
theorem lx(h:nE s a=some o):a<s.n/\s.t.get a=some o/\(abs s c).heap.get? a=some o:=by
 unfold nE at h;cases d:aga (aa7 a) s.n with
 |false=>rw[d]at h;exact ec h|true=>
  simp only[d]at h;have g:a<s.n:=bl d;cases f:s.t.get a with
  |none=>rw[f]at h;exact ec h|some i=>
   rw[f]at h;have b:alive i=some o:=h;have e:i=o:=by
    revert b;unfold alive;clear h;split;.intro b;exact ec b
    .intro b;exact bR b
   refine sY e ?_;exact⟨g,rfl,by show(aee s.t s.n c.life).get? a=_;rw[abs_get g f];exact b⟩
theorem CO(h:FV s o=some s'):abs s' c={abs s c with heap:=(abs s c).heap.push o}/\(abs s c).heap.objs.size=s.n:=by unfold FV at h;cases b:(s.t.ins s.n o).get s.n with|none=>rw[b]at h;exact ec h|some x=>rw[b]at h;have d:some (⟨s.t.ins s.n o,aa7 s.n,s.tk⟩:St)=some s':=h;clear h;refine so d ?_;refine⟨?_,absHeap_size ..⟩;show(⟨aee (s.t.ins s.n o) (s.n+1) c.life,c.gens,c.drawn,s.tk,c.os⟩:aM)=_;rw[absHeap_ins (by rw[b];rfl)];rfl
section
variable{M:Model}{N:Setting}{R:Ctx->Pos->St->ae (acd×St)}{Γ:Ctx}{C:NP}
theorem M5(z:N=⟨M.prog,M.w.params⟩)(m:∀Γ p s r s',R Γ p s=some (r,s')->wpCode M Γ (λG H=>G=r/\H=abs s' C) p (abs s C)):∀(x:Sem i)(p:Pos)(s:St)(r:Except al i)(p':Pos)(s':St),ev N R Γ x p s=some (r,p',s')->Sem.wp M Γ x (λa q S=>r=.ok a/\q=p'/\S=abs s' C) (λe q S=>r=.error e/\q=p'/\S=abs s' C) p (abs s C):=by
 intro x;induction x with
 |pure a=>intro p s r p' s' h;refine sQ h ?_;exact⟨rfl,rfl,rfl⟩|raise e=>intro p s r p' s' h;refine sQ h ?_;exact⟨rfl,rfl,rfl⟩|unsupported _=>intro p s r p' s' h;exact ec h|finish _=>intro p s r p' s' h;exact ec h|rule _ k ih=>intro p s r p' s' h;exact ih () p s r p' s' h|«at»q k ih=>intro p s r p' s' h;exact ih () q s r p' s' h|load a j k ih=>intro p s r p' s' h;have b:@df Obj (λ_=>Res i) none (λo=>ev N R Γ (k o) p s) (nE s a)=some (r,p',s'):=h;cases d:nE s a with|none=>rw[d]at b;exact ec b|some o=>rw[d]at b;exact i12 o ((lx d).2.2) (ih o p s r p' s' b)
 |update a j f k ih=>
  intro p s r p' s' h;refine(let E:Prop:=_;(?_:E));have b:@df Obj (λ_=>Res i) none (λ_=>ev N R Γ (k ()) p ⟨s.t.set a f,s.n,s.tk⟩) (nE s a)=some (r,p',s'):=h;cases d:nE s a with
  |none=>rw[d]at b;exact ec b|some o=>
   simp only[d]at b;refine ph (lx (c:=C) d) λQ J K=>?_;refine⟨by rw[K];rfl,?_⟩;have:=ih () p ⟨s.t.set a f,s.n,s.tk⟩ r p' s' b;have e:abs ⟨s.t.set a f,s.n,s.tk⟩ C={abs s C with heap:=(abs s C).heap.update a f}:=by show(⟨aee (s.t.set a f) s.n C.life,C.gens,C.drawn,s.tk,C.os⟩:aM)=_;rw[absHeap_set J];rfl
   simp only[e]at this;exact this
 |alloc o k ih=>intro p s r p' s' h;have b:@df St (λ_=>Res i) none (λA=>ev N R Γ (k s.n) p A) (FV s o)=some (r,p',s'):=h;cases d:FV s o with|none=>rw[d]at b;exact ec b|some A=>rw[d]at b;obtain⟨e,L⟩:=CO (c:=C) d;have:=ih s.n p A r p' s' b;simp only[e]at this;show Sem.wp M Γ (k (abs s C).heap.objs.size) _ _ p _;rw[L];exact this
 |loadIfAlive a k ih=>intro p s r p' s' h;have b:@df Obj (λ_=>Res i) none (λo=>ev N R Γ (k (some o)) p s) (nE s a)=some (r,p',s'):=h;cases d:nE s a with|none=>rw[d]at b;exact ec b|some o=>rw[d]at b;show Sem.wp M Γ (k ((abs s C).heap.get? a)) _ _ p _;rw[(lx d).2.2];exact ih (some o) p s r p' s' b
 |point _ k ih=>intro p s r p' s' h;exact ih () p s r p' s' h|register _ _ _=>intro p s r p' s' h;exact ec h|fresh k ih=>intro p s r p' s' h;exact ih s.tk p ⟨s.t,s.n,aa7 s.tk⟩ r p' s' h|ask k ih=>intro p s r p' s' h;subst z;exact ih _ p s r p' s' h|choose _ _ _ _=>intro p s r p' s' h;exact ec h|os _ _ _ _=>intro p s r p' s' h;exact ec h|call c hd g l k ih=>intro p s r p' s' h;refine(let E:Prop:=_;(?_:E));have b:@df (acd×St) (λ_=>Res i) none (λr=>ev N R Γ (k r.1) p r.2) (R (Γ.enter c hd p) p s)=some (r,p',s'):=h;cases d:R (Γ.enter c hd p) p s with|none=>rw[d]at b;exact ec b|some y=>obtain⟨G,A⟩:=y;rw[d]at b;refine wpCode_mono ?_ (m _ _ _ _ _ d);intro O P B;obtain⟨rfl,rfl⟩:=B;exact ih O p A r p' s' b
 |handled I k ih=>
  intro p s r p' s' h;rcases I with⟨⟩;.exact ih _ p s r p' s' h
  .exact ih _ p s r p' s' h|newGen _ _ _=>intro p s r p' s' h;exact ec h|genState _ _ _=>intro p s r p' s' h;exact ec h|resume _ _ _ _ _=>intro p s r p' s' h;exact ec h|yield _ _ _ _ _=>intro p s r p' s' h;exact ec h|stack k ih=>intro p s r p' s' h;exact ih _ p s r p' s' h|fork _ _ _=>intro p s r p' s' h;exact ec h|thread k ih=>intro p s r p' s' h;exact ih 0 p s r p' s' h|await _ _ _ _ _ _=>intro p s r p' s' h;exact ec h
end
theorem Qw{N:Setting}(j:N=⟨M.prog,M.w.params⟩)(i:M.den=den):∀(n:Nat)(b:Ctx)(p:Pos)(s:St)(r:acd)(s':St),Js N den n b p s=some (r,s')->wpCode M b (λt A=>t=r/\A=abs s' C) p (abs s C):=by
 intro n;induction n with
 |zero=>intro b p s r s' h;exact ec h|succ n ih=>
  intro b p s r s' h;have d:(match ev N (Js N den n) b (den b.code) p s with|none=>none|some r=>match r.1with|.error e=>some (.error e,r.2.2)|.ok (.done f)=>some (.ok f,r.2.2)|.ok (.again c)=>match c.quiet with|true=>Js N den n (b.goto c) r.2.1 r.2.2|false=>none)=some (r,s'):=h;clear h;cases k:ev N (Js N den n) b (den b.code) p s with
  |none=>rw[k]at d;exact ec d|some y=>
   obtain⟨t,B,z⟩:=y;rw[k]at d;rw[wpCode_iff_wp,i];refine aaZ M b _ ?_ ?_ p _ (M5 (C:=C) j ih (den b.code) p s t B z k);.intro fin q S l;obtain⟨rfl,rfl,rfl⟩:=l;induction fin with|done f=>refine sP d ?_;exact⟨rfl,rfl⟩|again c=>cases o:c.quiet with|false=>have g:(match c.quiet with|true=>Js N den n (b.goto c) q z|false=>none)=some (r,s'):=d;rw[o]at g;exact ec g|true=>have g:(match c.quiet with|true=>Js N den n (b.goto c) q z|false=>none)=some (r,s'):=d;rw[o]at g;exact⟨o,ih _ _ _ _ _ g⟩
   .intro e q S m;obtain⟨rfl,rfl,rfl⟩:=m;refine sP d ?_;exact⟨rfl,rfl⟩
noncomputable abbrev pw:Program:=PySem.Challenge.pw_rh0137_01
noncomputable def Gx:Code->Sem Fin:=PySem.W.Fast.tw11892475500146522536 PySem.W.Fast.tw14364793385576792824
noncomputable def MZ(P:bo):BT:=.node (ab5 P) (.node (boot_o_1 P) (.node (boot_o_3 P) (.node (boot_o_7 P) .nil .nil) .nil) (.node (boot_o_5 P) (.node (boot_o_9 P) .nil .nil) .nil)) (.node (boot_o_2 P) (.node (boot_o_4 P) (.node (boot_o_8 P) .nil .nil) .nil) (.node (boot_o_6 P) (.node (boot_o_10 P) .nil .nil) .nil))
noncomputable def OM(P:bo):St:=⟨MZ P,11,boot_toks⟩
noncomputable def ju:Sem Fin:=(topStub pw).cur
noncomputable def Ui:Ctx:=⟨.builtin "claim.caller" {},none,none,[],none⟩
noncomputable def m6(w:bN):ae St:=match ev ⟨pw,w.params⟩ (Js ⟨pw,w.params⟩ Gx 60) Ui ju default (OM w.params)with|some (.ok (.done (.ret .none)),_,s)=>some s|_=>none
noncomputable def fA(i:Nat):ahs:=(pw.main.body[i]?).getD (.Pass default)
noncomputable def kF(i j:Nat):ahs:=match fA i with|.ClassDef _ _ _ b _ _ _ _ _ _ _=>(b[j]?).getD (.Pass default)|_=>.Pass default
noncomputable def ew:ahs->Arguments|.FunctionDef _ a _ _ _ _ _ _ _ _=>a|_=>default
noncomputable def ng:ahs->ab ahs|.FunctionDef _ _ b _ _ _ _ _ _ _=>b|_=>[]
noncomputable def ef:ahs->cg|.FunctionDef _ _ _ _ _ _ N _ _ _=>N|_=>default
noncomputable def Rz(s:ahs)(b c:dF)(d:Nat)(e f:al):Obj:={cls:=.type "function",data:=.func (fnOf (aa b) (aa c) (ew s) (ng s) (ef s) e .none .none f none (.ref d) .none)}
noncomputable def en(P:bo)(k:dF)(t:Nat)(v:al):cN:=⟨aaH P (aa k),.str (aa k) t,v⟩
noncomputable def di(es:ab cN)(n:Nat):Obj:={cls:=.type "dict",data:=.dict ⟨es⟩ n}
noncomputable def tu(U:ab al):Obj:={cls:=.type "tuple",data:=.seq ⟨U⟩ 0}
noncomputable def fT(d m:al)(a i:Nat)(nm:dF):Nat×ahs×dF×dF×Nat×al×al:=(a,fA i,nm,nm,a-1,d,m)
noncomputable def fN(m:al)(a i:Nat)(nm:dF):Nat×ahs×dF×dF×Nat×al×al:=fT .none m a i nm
noncomputable def fM(d m:al)(a i j:Nat)(nm q:dF):Nat×ahs×dF×dF×Nat×al×al:=(a,kF i j,nm,q,a-1,d,m)
noncomputable def μ:al:=.str "__main__" 164
noncomputable def Wy:al:=.str "kindkeep.diags" 194
noncomputable def pD:al:=.str "kindkeep.types" 283
noncomputable def QI:al:=.str "kindkeep.shapes" 713
noncomputable def pC:al:=.str "kindkeep.hosts" 728
noncomputable def T8:al:=.str "kindkeep.kindtpl" 1022
noncomputable def Wr:al:=.str "kindkeep.kindkeys" 1066
noncomputable def nc:al:=.str "kindkeep.kindmap" 1090
noncomputable def Mo:al:=.str "kindkeep.plainput" 1493
noncomputable def Yj:al:=.str "kindkeep.keyhost" 1559
noncomputable def kX:al:=.str "law_rh0137_01" 1598
noncomputable def Vr:ab (Nat×ahs×dF×dF×Nat×al×al):=[fN μ 21 0 "_wall",fM (.ref 29) Wy 36 2 0 "__init__" "KeepError.__init__",fM (.ref 50) Wy 57 3 0 "__init__" "TooDeep.__init__",fM (.ref 70) Wy 77 4 0 "__init__" "HostFault.__init__",fM .none pD 122 63 0 "__init__" "TypeTable.__init__",fM .none pD 129 63 1 "row" "TypeTable.row",fM .none pD 136 63 2 "put" "TypeTable.put",fN pD 150 64 "kind_of",fT (.ref 151) pD 158 65 "str_type",fT (.ref 159) pD 166 66 "num_type",fT (.ref 167) pD 174 67 "array_type",fN pD 181 68 "last_mark",fN pD 188 69 "needed_to_last",fN pD 195 70 "one_rest",fT (.ref 196) pD 201 71 "tuple_type",fN pD 206 72 "sorted_props",fT (.ref 211) pD 218 73 "obj_type",fT (.ref 220) pD 227 74 "sig_type",fN pD 234 75 "func_type",fT (.ref 235) pD 242 76 "new_param",fN pD 249 77 "parts_of",fN pD 256 78 "whole_of_row",fN pD 263 79 "regular_twin",fN pD 270 80 "join_bools",fN pD 277 81 "stays_beside",fN pD 284 82 "top_of",fN pD 289 83 "union",fN pD 294 84 "without",fN pD 301 85 "add_undef",fN pD 306 86 "common_family",fN pD 313 87 "meet_family",fN pD 320 88 "family",fN QI 328 92 "plain_shape",fM .none pC 342 96 0 "__init__" "Thin.__init__",fM .none pC 349 96 1 "force" "Thin.force",fM .none pC 356 96 2 "put_deferred" "Thin.put_deferred",fM .none pC 363 96 3 "put_cond" "Thin.put_cond",fM .none pC 370 96 4 "lay_row" "Thin.lay_row",fM .none pC 377 96 5 "bound" "Thin.bound",fM .none pC 384 96 6 "shape" "Thin.shape",fM .none pC 391 96 7 "fits" "Thin.fits",fM .none pC 398 96 8 "lies" "Thin.lies",fM .none pC 405 96 9 "infers" "Thin.infers",fM .none pC 412 96 10 "tpl_fits" "Thin.tpl_fits",fM .none pC 419 96 11 "shape_fits" "Thin.shape_fits",fM .none pC 426 96 12 "put_in" "Thin.put_in",fM .none pC 433 96 13 "own_sig" "Thin.own_sig",fM .none pC 440 96 14 "forget" "Thin.forget",fM .none pC 447 96 15 "list_prop" "Thin.list_prop",fM .none pC 454 96 16 "list_index" "Thin.list_index",fM .none pC 461 96 17 "elem_met" "Thin.elem_met",fM .none pC 468 96 18 "error_class" "Thin.error_class",fM .none pC 489 97 0 "shape" "RefHost.shape",fM .none pC 496 97 1 "fits" "RefHost.fits",fM .none pC 503 97 2 "lies" "RefHost.lies",fN pC 515 98 "told_places",fN pC 522 99 "list_decl",fN pC 529 100 "find_prop",fN pC 536 101 "prop_row",fN pC 543 102 "index_of",fN pC 550 103 "index_of_parts",fN T8 558 107 "is_open",fN T8 565 108 "unit_word",fN T8 572 109 "key_text",fN T8 579 110 "digits_back",fN Wr 586 112 "picked",fN Wr 593 113 "is_public",fN Wr 598 114 "list_keys",fM .none nc 612 116 0 "__init__" "Made.__init__",fM .none nc 619 116 1 "add" "Made.add",fM .none nc 626 116 2 "add_index" "Made.add_index",fM .none nc 631 116 3 "done" "Made.done",fN nc 645 117 "is_homomorphic",fN nc 652 118 "plain_index",fN nc 657 119 "is_late_alias",fN nc 664 120 "undefless",fN nc 671 121 "optional_form",fN nc 678 122 "readonly_after",fN nc 685 123 "template_at",fN nc 692 124 "member_opt",fN nc 699 125 "member_kind",fN nc 706 126 "kindmap_member_flags",fN nc 713 127 "names_for",fM .none nc 727 128 0 "__init__" "Keyed.__init__",fN nc 741 129 "put_member",fN nc 748 130 "build_members",fN nc 755 131 "shape_entries",fN nc 760 132 "bare_entries",fN nc 767 133 "map_array",fN nc 774 134 "spare_elem",fN nc 781 135 "map_elem",fN nc 788 136 "map_tuple",fN nc 795 137 "is_primitive",fN nc 800 138 "map_over",fN nc 807 139 "defer_over",fN nc 814 140 "map_named",fN nc 821 141 "index_cell",fN nc 828 142 "pick_entry",fN nc 835 143 "key_texts",fN nc 840 144 "met_entries",fN nc 847 145 "map_picked",fN nc 854 146 "map_kind",fN Mo 859 148 "put_each",fN Mo 866 149 "put_cell",fN Mo 871 150 "put_shape",fN Mo 876 151 "plainput_put_elems",fN Mo 881 152 "put_call",fN Mo 888 153 "without_own",fN Mo 895 154 "put_late",fN Mo 902 155 "plain_put",fM .none Yj 916 157 0 "__init__" "PutHost.__init__",fM .none Yj 923 157 1 "put_in" "PutHost.put_in",fN kX 938 162 "_law_next",fN kX 943 163 "_law_join",fN kX 950 164 "_law_word",fN kX 957 165 "_law_parts",fN kX 964 166 "_law_kind",fN kX 971 167 "_law_type",fN kX 976 168 "_law_make",fN kX 983 169 "_law_object",fN kX 990 170 "_law_list",fN kX 995 171 "_law_source",fN kX 1000 172 "_law_slot",fN kX 1007 173 "_law_shut",fN kX 1012 174 "_law_text",fN kX 1019 175 "_law_seen",fN kX 1024 176 "_law_one",fN kX 1031 177 "_law_show",fN kX 1038 178 "_law_read",fN kX 1043 179 "_law_map",fN kX 1050 180 "_law_row",fN kX 1055 181 "_law_step",fN kX 1060 182 "law"]
noncomputable def vc:Frag:=Vr.map λp=>(p.1,Rz p.2.1 p.2.2.1 p.2.2.2.1 p.2.2.2.2.1 p.2.2.2.2.2.1 p.2.2.2.2.2.2)
noncomputable def WH:Frag:=[(39,⟨.type "type",none,.cls {name:="KeepError",bases:=[.type "Exception"],mro:=[.ref 39,.type "Exception",.type "BaseException",.type "object"],ns:=38,qualname:="KeepError",subclasses:=[.ref 60,.ref 80]},#[some (.ref 22),none,some (.str "KeepError" 196),some (.str "KeepError" 204),some (.builtin "Exception.__new__"),some (.bool true)]⟩),(60,⟨.type "type",none,.cls {name:="TooDeep",bases:=[.ref 39],mro:=[.ref 60,.ref 39,.type "Exception",.type "BaseException",.type "object"],ns:=59,qualname:="TooDeep",subclasses:=[]},#[some (.ref 43),none,some (.str "TooDeep" 227),some (.str "TooDeep" 235),some (.builtin "Exception.__new__"),some (.bool true)]⟩),(80,⟨.type "type",none,.cls {name:="HostFault",bases:=[.ref 39],mro:=[.ref 80,.ref 39,.type "Exception",.type "BaseException",.type "object"],ns:=79,qualname:="HostFault",subclasses:=[]},#[some (.ref 63),none,some (.str "HostFault" 256),some (.str "HostFault" 264),some (.builtin "Exception.__new__"),some (.bool true)]⟩),(139,⟨.type "type",none,.cls {name:="TypeTable",bases:=[.type "object"],mro:=[.ref 139,.type "object"],ns:=138,qualname:="TypeTable",subclasses:=[]},#[none,none,some (.str "TypeTable" 422),some (.str "TypeTable" 430),some (.builtin "object.__new__"),some (.bool true)]⟩),(471,⟨.type "type",none,.cls {name:="Thin",bases:=[.type "object"],mro:=[.ref 471,.type "object"],ns:=470,qualname:="Thin",subclasses:=[.ref 506]},#[none,none,some (.str "Thin" 734),some (.str "Thin" 742),some (.builtin "object.__new__"),some (.bool true)]⟩),(506,⟨.type "type",none,.cls {name:="RefHost",bases:=[.ref 471],mro:=[.ref 506,.ref 471,.type "object"],ns:=505,qualname:="RefHost",subclasses:=[.ref 926]},#[some (.ref 476),none,some (.str "RefHost" 920),some (.str "RefHost" 928),some (.builtin "object.__new__"),some (.bool true)]⟩),(634,⟨.type "type",none,.cls {name:="Made",bases:=[.type "object"],mro:=[.ref 634,.type "object"],ns:=633,qualname:="Made",subclasses:=[]},#[none,none,some (.str "Made" 1092),some (.str "Made" 1100),some (.builtin "object.__new__"),some (.bool true)]⟩),(730,⟨.type "type",none,.cls {name:="Keyed",bases:=[.type "object"],mro:=[.ref 730,.type "object"],ns:=729,qualname:="Keyed",subclasses:=[]},#[none,none,some (.str "Keyed" 1260),some (.str "Keyed" 1268),some (.builtin "object.__new__"),some (.bool true)]⟩),(926,⟨.type "type",none,.cls {name:="PutHost",bases:=[.ref 506],mro:=[.ref 926,.ref 506,.ref 471,.type "object"],ns:=925,qualname:="PutHost",subclasses:=[]},#[some (.ref 903),none,some (.str "PutHost" 1561),some (.str "PutHost" 1569),some (.builtin "object.__new__"),some (.bool true)]⟩)]
noncomputable def ZO(P:bo):Frag:=[(38,di [en P "__module__" 203 (.str "kindkeep.diags" 194),en P "__firstlineno__" 207 (.int 5 206),en P "__init__" 216 (.ref 36),en P "__static_attributes__" 219 (.ref 37),en P "__weakref__" 221 (.ref 40),en P "__doc__" 222 (.none)] 3),(59,di [en P "__module__" 234 (.str "kindkeep.diags" 194),en P "__firstlineno__" 238 (.int 10 237),en P "__init__" 249 (.ref 57),en P "__static_attributes__" 252 (.ref 58),en P "__doc__" 253 (.none)] 2),(79,di [en P "__module__" 263 (.str "kindkeep.diags" 194),en P "__firstlineno__" 267 (.int 15 266),en P "__init__" 276 (.ref 77),en P "__static_attributes__" 279 (.ref 78),en P "__doc__" 280 (.none)] 2),(138,di [en P "__module__" 429 (.str "kindkeep.types" 283),en P "__firstlineno__" 433 (.int 78 432),en P "__init__" 441 (.ref 122),en P "row" 449 (.ref 129),en P "put" 458 (.ref 136),en P "__static_attributes__" 469 (.ref 137),en P "__dict__" 471 (.ref 140),en P "__weakref__" 473 (.ref 141),en P "__doc__" 474 (.none)] 4),(470,di [en P "__module__" 741 (.str "kindkeep.hosts" 728),en P "__firstlineno__" 745 (.int 270 744),en P "__init__" 753 (.ref 342),en P "force" 761 (.ref 349),en P "put_deferred" 769 (.ref 356),en P "put_cond" 778 (.ref 363),en P "lay_row" 787 (.ref 370),en P "bound" 795 (.ref 377),en P "shape" 803 (.ref 384),en P "fits" 812 (.ref 391),en P "lies" 821 (.ref 398),en P "infers" 831 (.ref 405),en P "tpl_fits" 840 (.ref 412),en P "shape_fits" 849 (.ref 419),en P "put_in" 858 (.ref 426),en P "own_sig" 867 (.ref 433),en P "forget" 874 (.ref 440),en P "list_prop" 883 (.ref 447),en P "list_index" 891 (.ref 454),en P "elem_met" 899 (.ref 461),en P "error_class" 906 (.ref 468),en P "__static_attributes__" 912 (.ref 469),en P "__dict__" 914 (.ref 472),en P "__weakref__" 916 (.ref 473),en P "__doc__" 917 (.none)] 4),(505,di [en P "__module__" 927 (.str "kindkeep.hosts" 728),en P "__firstlineno__" 931 (.int 332 930),en P "shape" 939 (.ref 489),en P "fits" 948 (.ref 496),en P "lies" 957 (.ref 503),en P "__static_attributes__" 958 (.ref 504),en P "__doc__" 959 (.none)] 2),(633,di [en P "__module__" 1099 (.str "kindkeep.kindmap" 1090),en P "__firstlineno__" 1103 (.int 453 1102),en P "__init__" 1110 (.ref 612),en P "add" 1123 (.ref 619),en P "add_index" 1136 (.ref 626),en P "done" 1142 (.ref 631),en P "__static_attributes__" 1147 (.ref 632),en P "__dict__" 1149 (.ref 635),en P "__weakref__" 1151 (.ref 636),en P "__doc__" 1152 (.none)] 4),(729,di [en P "__module__" 1267 (.str "kindkeep.kindmap" 1090),en P "__firstlineno__" 1271 (.int 554 1270),en P "__init__" 1281 (.ref 727),en P "__static_attributes__" 1285 (.ref 728),en P "__dict__" 1287 (.ref 731),en P "__weakref__" 1289 (.ref 732),en P "__doc__" 1290 (.none)] 4),(925,di [en P "__module__" 1568 (.str "kindkeep.keyhost" 1559),en P "__firstlineno__" 1572 (.int 793 1571),en P "__init__" 1580 (.ref 916),en P "put_in" 1589 (.ref 923),en P "__static_attributes__" 1594 (.ref 924),en P "__doc__" 1595 (.none)] 2)]
noncomputable def eI(P:bo)(k:dF)(t n:Nat):cN:=en P k t (.int n (t-1))
noncomputable def eR(P:bo)(k:dF)(t a:Nat):cN:=en P k t (.ref a)
noncomputable def gR(P:bo):ab cN:=[en P "__name__" 165 (.str "law_rh0137_01" 1598),en P "__doc__" 166 (.none),en P "__package__" 167 (.none),en P "__loader__" 168 (.builtin "__main__.__loader__#opaque"),en P "__spec__" 169 (.none),eR P "__annotations__" 170 6,eR P "__builtins__" 171 4,en P "__file__" 173 (.str "/claim/cut.py" 172),en P "__cached__" 174 (.none),eR P "_wall" 193 21,eR P "KeepError" 226 39,eR P "TooDeep" 255 60,eR P "HostFault" 282 80,eI P "Y_KEY" 286 1,eI P "Y_BOOL" 288 2,eI P "Y_STR" 290 3,eI P "Y_NUM" 292 4,eI P "Y_ENUM" 294 5,eI P "Y_UNION" 296 6,eI P "Y_INTER" 298 7,eI P "Y_OBJ" 300 8,eI P "Y_REF" 302 9,eI P "Y_PARAM" 304 10,eI P "Y_ARRAY" 306 11,eI P "Y_TUPLE" 308 12,eI P "Y_SIG" 310 13,eI P "Y_KEYOF" 312 14,eI P "Y_INDEX" 314 15,eI P "Y_COND" 316 16,eI P "Y_MAPPED" 318 17,eI P "Y_TPL" 320 18,eI P "Y_ALIAS" 322 19,eI P "ANY" 324 0,eI P "UNKNOWN" 326 1,eI P "NEVER" 328 2,eI P "VOID" 330 3,eI P "UNDEF" 332 4,eI P "NULLT" 334 5,eI P "STRING" 336 6,eI P "NUMBER" 338 7,eI P "FALSE_T" 340 8,eI P "TRUE_T" 342 9,eI P "OBJECTT" 344 10,eI P "EMPTY" 346 11,eI P "ERR" 348 13,eI P "FRESH_F" 350 14,eI P "FRESH_T" 352 15,eI P "P_OPT" 354 1,eI P "P_READONLY" 356 2,eI P "P_METHOD" 358 4,eI P "P_PRIVATE" 360 8,eI P "P_PROTECTED" 362 16,eI P "P_GETONLY" 364 32,eI P "E_NEED" 366 0,eI P "E_OPT" 368 1,eI P "E_REST" 370 2,eI P "E_SPREAD" 372 3,eI P "FAM_OTHER" 374 0,eI P "FAM_STR" 376 1,eI P "FAM_NUM" 378 2,eI P "FAM_BOOL" 380 3,eI P "FAM_NULL" 382 4,eI P "FAM_UNDEF" 384 5,eI P "FAM_VOID" 386 6,eI P "FAM_OBJ" 388 7,eI P "MAX_UNION" 390 400,eR P "FIRST_ROWS" 412 105,eR P "MARKED_ROWS" 413 106,eR P "OBJECT_ROWS" 414 107,eR P "KEY_FAMILIES" 421 108,eR P "TypeTable" 476 139,eR P "kind_of" 484 150,eR P "str_type" 494 158,eR P "num_type" 504 166,eR P "array_type" 514 174,eR P "last_mark" 524 181,eR P "needed_to_last" 537 188,eR P "one_rest" 551 195,eR P "tuple_type" 558 201,eR P "sorted_props" 564 206,eR P "obj_type" 578 218,eR P "sig_type" 591 227,eR P "func_type" 599 234,eR P "new_param" 614 242,eR P "parts_of" 623 249,eR P "whole_of_row" 631 256,eR P "regular_twin" 640 263,eR P "join_bools" 647 270,eR P "stays_beside" 656 277,eR P "top_of" 664 284,eR P "union" 670 289,eR P "without" 676 294,eR P "add_undef" 684 301,eR P "common_family" 690 306,eR P "meet_family" 701 313,eR P "family" 712 320,eI P "MOST_PLAIN" 716 40,eR P "PLAIN_ROWS" 717 321,eR P "plain_shape" 727 328,eI P "MOST_ROUNDS" 731 200,eI P "MOST_SHAPES" 733 40,eR P "Thin" 919 471,eR P "RefHost" 961 506,eR P "told_places" 969 515,eR P "list_decl" 977 522,eR P "find_prop" 986 529,eR P "prop_row" 997 536,eR P "index_of" 1008 543,eR P "index_of_parts" 1021 550,eI P "TOP_NUMBER" 1025 9007199254740991,eR P "OPEN_KINDS" 1026 551,eR P "is_open" 1038 558,eR P "unit_word" 1047 565,eR P "key_text" 1055 572,eR P "digits_back" 1065 579,eR P "picked" 1076 586,eR P "is_public" 1083 593,eR P "list_keys" 1089 598,eR P "Made" 1154 634,eR P "is_homomorphic" 1163 645,eR P "plain_index" 1176 652,eR P "is_late_alias" 1182 657,eR P "undefless" 1191 664,eR P "optional_form" 1199 671,eR P "readonly_after" 1207 678,eR P "template_at" 1216 685,eR P "member_opt" 1224 692,eR P "member_kind" 1237 699,eR P "kindmap_member_flags" 1249 706,eR P "names_for" 1259 713,eR P "Keyed" 1292 730,eR P "put_member" 1311 741,eR P "build_members" 1325 748,eR P "shape_entries" 1337 755,eR P "bare_entries" 1343 760,eR P "map_array" 1356 767,eR P "spare_elem" 1365 774,eR P "map_elem" 1381 781,eR P "map_tuple" 1395 788,eR P "is_primitive" 1403 795,eR P "map_over" 1409 800,eR P "defer_over" 1419 807,eR P "map_named" 1429 814,eR P "index_cell" 1440 821,eR P "pick_entry" 1450 828,eR P "key_texts" 1461 835,eR P "met_entries" 1467 840,eR P "map_picked" 1482 847,eR P "map_kind" 1492 854,eR P "put_each" 1500 859,eR P "put_cell" 1509 866,eR P "put_shape" 1515 871,eR P "plainput_put_elems" 1521 876,eR P "put_call" 1527 881,eR P "without_own" 1537 888,eR P "put_late" 1548 895,eR P "plain_put" 1558 902,eR P "PutHost" 1597 926,eR P "_law_keys" 1611 929,eR P "_law_words" 1622 930,eR P "_law_written" 1630 931,eR P "_law_next" 1638 938,eR P "_law_join" 1644 943,eR P "_law_word" 1651 950,eR P "_law_parts" 1659 957,eR P "_law_kind" 1666 964,eR P "_law_type" 1674 971,eR P "_law_make" 1680 976,eR P "_law_object" 1701 983,eR P "_law_list" 1718 990,eR P "_law_source" 1724 995,eR P "_law_slot" 1730 1000,eR P "_law_shut" 1738 1007,eR P "_law_text" 1744 1012,eR P "_law_seen" 1754 1019,eR P "_law_one" 1760 1024,eR P "_law_show" 1773 1031,eR P "_law_read" 1786 1038,eR P "_law_map" 1792 1043,eR P "_law_row" 1810 1050,eR P "_law_step" 1816 1055,eR P "law" 1822 1060]
noncomputable def tupK:Frag:=[(29,tu [.str "" 208]),(50,tu [.int 2589 239,.str "" 240]),(70,tu [.str "" 268]),(83,tu [.int 1 285,.str "any" 391]),(84,tu [.int 1 285,.str "unknown" 392]),(85,tu [.int 1 285,.str "never" 393]),(86,tu [.int 1 285,.str "void" 394]),(87,tu [.int 1 285,.str "undefined" 395]),(88,tu [.int 1 285,.str "null" 396]),(89,tu [.int 1 285,.str "string" 397]),(90,tu [.int 1 285,.str "number" 398]),(91,tu [.int 2 287,.int 0 399,.int 0 400]),(92,tu [.int 2 287,.int 1 401,.int 0 402]),(93,tu [.int 1 285,.str "object" 403]),(94,tu []),(95,tu []),(96,tu []),(97,tu []),(98,tu []),(99,tu [.int 8 299,.ref 94,.ref 95,.ref 96,.ref 97,.ref 98,.int 0 404]),(100,tu [.int 8 405,.int 9 406]),(101,tu [.int 6 295,.ref 100]),(102,tu [.int 1 285,.str "error" 407]),(103,tu [.int 2 287,.int 0 408,.int 1 409]),(104,tu [.int 2 287,.int 1 410,.int 1 411]),(105,tu [.ref 83,.ref 84,.ref 85,.ref 86,.ref 87,.ref 88,.ref 89,.ref 90,.ref 91,.ref 92,.ref 93,.ref 99,.ref 101,.ref 102,.ref 103,.ref 104]),(106,tu [.int 2 287,.int 3 289,.int 4 291,.int 5 293,.int 8 299]),(107,tu [.int 8 299,.int 9 301,.int 11 305,.int 12 307,.int 13 309]),(151,tu [.int 0 485]),(159,tu [.int 0 495]),(167,tu [.int 0 505]),(196,tu [.int 0 552]),(207,tu []),(208,tu []),(209,tu []),(210,tu []),(211,tu [.ref 207,.ref 208,.ref 209,.ref 210,.int 0 565]),(219,tu []),(220,tu [.ref 219,.int 0 579]),(235,tu [.int (-1) 601,.int (-1) 603]),(321,tu [.int 1 285,.int 2 287,.int 3 289,.int 4 291,.int 5 293]),(551,tu [.int 10 303,.int 14 311,.int 15 313,.int 16 315,.int 17 317,.int 19 321]),(929,tu [.str "any" 1600,.str "unknown" 1601,.str "never" 1602,.str "void" 1603,.str "undefined" 1604,.str "null" 1605,.str "string" 1606,.str "number" 1607,.str "false" 1608,.str "true" 1609,.str "object" 1610]),(930,tu [.str "\"a\"" 1612,.str "0" 1613,.str "undefined" 1614,.str "\"b\"" 1615,.str "null" 1616,.str "1" 1617,.str "string" 1618,.str "true" 1619,.str "number" 1620,.str "false" 1621]),(931,tu [.str "\"p\"" 1623,.str "0" 1624,.str "string" 1625,.str "\"z\"" 1626,.str "number" 1627,.str "\"q\"" 1628,.str "1" 1629])]
noncomputable def Ow:Obj:=di [⟨3,.int 3 329,.int 6 385⟩,⟨4,.int 4 331,.int 5 383⟩,⟨5,.int 5 333,.int 4 381⟩,⟨6,.int 6 335,.int 1 375⟩,⟨7,.int 7 337,.int 2 377⟩,⟨10,.int 10 343,.int 7 387⟩] 6
noncomputable def BN(P:bo):Obj:={cls:=.none,data:=.dict ⟨[en P "type.__subclasses__.Exception.0" 223 (.int 39 0),en P "type.__subclasses__.Exception.n" 224 (.int 1 0)]⟩ 2}
noncomputable def rS(P:bo):Frag:=[(0,ab5 P),(1,boot_o_1 P),(2,BN P),(4,boot_o_4 P),(5,boot_o_5 P),(6,boot_o_6 P),(7,boot_o_7 P),(8,boot_o_8 P),(9,boot_o_9 P),(10,boot_o_10 P)]
noncomputable def KK(P:bo):Frag:=vc++WH++ZO P++(3,di (gR P) 182)::tupK++(108,Ow)::rS P
noncomputable def Pl(o:Obj):Nat×Str:=match o.data with|.func M=>(match M.code with|.ref c=>c|_=>0,M.qualname)|_=>(0,Str.empty)
noncomputable def XX(n:Str):al->bp|.str m _=>PySem.W.Fast.sEq m n|_=>false
noncomputable def XS(n:Str):ab al->bp|_::v::_=>XX n v|_=>false
noncomputable def Xl(n:Str):Data->bp|.fields U=>XS n U.toList|_=>false
noncomputable def Xr(n:Str):ae Obj->bp|some o=>Xl n o.data|_=>false
noncomputable def codeOk(s:St)(c:Nat×Str):bp:=Xr c.2 (nE s c.1)
noncomputable def My(s:St):bp:=vc.all λp=>codeOk s (Pl p.2)
noncomputable def o8(P:bo)(r:ae St):ae (bp×ab (ae Obj)):=r.map λs=>(My s,(KK P).map λp=>nE s p.1)
theorem Sq(w:bN):o8 (w.withFollow "special-get-raises" false).params (m6 (w.withFollow "special-get-raises" false))=some (true,(KK (w.withFollow "special-get-raises" false).params).map λp=>some p.2):=by kernel_rfl
theorem Rx(w:bN):o8 (w.withFollow "special-get-raises" true).params (m6 (w.withFollow "special-get-raises" true))=some (true,(KK (w.withFollow "special-get-raises" true).params).map λp=>some p.2):=by kernel_rfl
theorem Ke(w:bN):∃b,m6 w=some b/\My b=true/\∀p∈KK w.params,nE b p.1=some p.2:=by have c:∀w:bN,o8 w.params (m6 w)=some (true,(KK w.params).map λp=>some p.2):=λw=>byRow2 "special-get-raises" (P:=λw=>o8 w.params (m6 w)=some (true,(KK w.params).map λp=>some p.2)) Sq Rx w;have h:=c w;unfold o8 at h;refine j0 h λb e f=>?_;have d:=agl f;refine i12 b e ⟨d.1,λp g=>?_⟩;exact acH.mp d.2 p g
theorem Ol:adZ table=Gx:=by rw[table_eq_tree,PySem.W.Fast.te11892475500146522536,PySem.W.Fast.te14364793385576792824];rfl
theorem boot_abs(P:bo):aee (MZ P) 11 {}=aag P:=by rfl
theorem uZ:∀(n:Nat)(s:aM)(t:Thread)(o:Outcome)(s':aM),runN den p w n s t=.halted o s'->∃m c d,runN den p w m s t=.running c d/\aec den p w c d=.halt o s':=by intro n;induction n with|zero=>intro _ _ _ _ h;cases h|succ n ih=>intro s t o s' h;refine(let j:Prop:=_;(?_:j));have e:(match aec den p w s t with|.go s' f=>runN den p w n s' f|.halt o s'=>.halted o s')=Run.halted o s':=h;cases hs:aec den p w s t with|go g i=>rw[hs]at e;refine Tb (ih g i o s' e) λm c d a b=>?_;refine MN (m+1) c d ⟨?_,b⟩;show(match aec den p w s t with|.go s' f=>runN den p w m s' f|.halt o s'=>.halted o s')=_;rw[hs];exact a|halt k g=>simp only[hs]at e;cases e;exact MN 0 s t ⟨rfl,hs⟩
noncomputable def isDone:Step->ae aM|.halt (.done _) s=>some s|_=>none
theorem BP(h:aec den p w s t=.halt (.done f) s'):s=s'/\through t=true:=by
 have k:isDone (aec den p w s t)=some s':=ag isDone h;clear h;obtain⟨m,l,drawn,o,os⟩:=s;obtain⟨d,code,j,stack⟩:=t;induction d with
 |pure fin=>
  induction fin with
  |done g=>
   induction stack using aW with
   |nil=>
    simp only[aec,finish]at k;split at k;.exact ec k
    .exact so k ⟨rfl,rfl⟩|cons i b=>rcases i with⟨⟩<;>exact ec k
  |again c=>exact ec k
 |raise e=>induction stack using aW with|nil=>simp only[aec,finish]at k;split at k<;>exact ec k|cons i b=>rcases i with⟨⟩<;>exact ec k
 |finish _=>simp only[aec]at k;split at k<;>exact ec k|load a _ _=>simp only[aec]at k;split at k<;>exact ec k|update a _ f _=>simp only[aec]at k;split at k<;>exact ec k|choose _ n _=>simp only[aec]at k;split at k<;>exact ec k|genState g _=>simp only[aec]at k;split at k<;>exact ec k|resume g r _ _=>simp only[aec]at k;split at k<;>first|exact ec k|(split at k<;>exact ec k)
 |«yield»_ _ _ _=>simp only[aec]at k;split at k<;>exact ec k|_=>exact ec k
theorem CY(h:m6 w=some b):∃p,ev ⟨pw,w.params⟩ (Js ⟨pw,w.params⟩ Gx 60) Ui ju default (OM w.params)=some (.ok (.done (.ret .none)),p,b):=by
 unfold m6 at h;revert h;generalize ev ⟨pw,w.params⟩ (Js ⟨pw,w.params⟩ Gx 60) Ui ju default (OM w.params)=o;intro h;rcases o with _|⟨_|r,p,s⟩<;>try(exact ec h;done)
 rcases r with f|_<;>try(exact ec h;done)
 rcases f with _|_|_|v<;>try(exact ec h;done)
 rcases v with⟨⟩<;>try(exact ec h;done)
 exact so h (Oj p rfl)
theorem GR(h:m6 w=some B){os:OsState}(E:f=abs (OM w.params) ⟨{},#[],cU,os⟩):∃n t,schedN (adZ table) pw w n (.single f (topStub pw))=.running (.single (abs B ⟨{},#[],cU,os⟩) t)/\through t=true:=by
 refine(let γ:Prop:=_;(?_:γ));obtain⟨p,i⟩:=CY h;have Z:f.asleep:=by refine sY E ?_;exact⟨rfl,rfl⟩
 have W:=M5 (M:=aP pw w) (C:=⟨{},#[],cU,os⟩) (N:=⟨pw,w.params⟩) rfl (Qw (M:=aP pw w) (den:=Gx) rfl Ol 60) ju default (OM w.params) _ _ _ i;simp only[←E]at W;refine WJ ((wp_iff_halts (M:=aP pw w) (c:=.builtin "claim.caller" {}) ju (λr J=>r=.ok (.ret .none)/\J=abs B ⟨{},#[],cU,os⟩) default f).mp (by
  refine aaZ (aP pw w) Ui ju ?_ ?_ default f W;.intro fin q S y;clear i;obtain⟨e,rfl,rfl⟩:=y;cases e;exact⟨⟨rfl,rfl⟩,by kernel_rfl⟩
  .intro e q S z;refine ph (z) λe _ _=>?_;cases e)) λn r J I z1 A=>?_;subst z1;subst A;refine j6 (runNI_real (adZ table) pw w (t:=⟨ju,.builtin "claim.caller" {},default,[]⟩) I rfl) λl G H T=>?_;have hs:l=abs B ⟨{},#[],cU,os⟩:=by
  clear I;obtain⟨hh,g,d,t,o⟩:=l;simp only[Shared.forget,abs,Shared.mk.injEq]at H;refine Ub H λa b c P e=>?_;have U:g=#[]:=by
   have:(g.map GenState.forget).size=0:=by rw[b];simp
   exact Array.eq_empty_of_size_eq_zero (by simpa using this)
  refine sY a ?_;refine sY c ?_;refine sY P ?_;refine sY e ?_;refine sY U ?_;rfl
 subst hs;refine Tb (uZ n f ⟨ju,.builtin "claim.caller" {},default,[]⟩ _ _ G) λm K s Q R=>?_;obtain⟨rfl,Y⟩:=BP R;refine jQ m s ⟨?_,Y⟩;have j:Sequential (adZ table) pw w f ⟨ju,.builtin "claim.caller" {},default,[]⟩:=by refine⟨T,λk L X=>?_⟩;have a:=runN_mono (adZ table) pw w n k _ _ _ _ G;rw[aap,(runN_mono (adZ table) pw w k n _ _ _ _ X)]at a;injection a with O _;cases O
 have:=schedN_eq_runN (adZ table) pw w f ⟨ju,.builtin "claim.caller" {},default,[]⟩ Z j m;exact this.trans (by rw[Q];rfl)
end Mine
end
noncomputable section
open PySem PySem.W PySem.Calls PyProof.Rows
namespace Mine
noncomputable def Hx(P:bo):Heap:=⟨⟨[ab5 P,boot_o_1 P,BN P,di (gR P) 182,boot_o_4 P,boot_o_5 P,boot_o_6 P,boot_o_7 P,boot_o_8 P,boot_o_9 P,boot_o_10 P]⟩,{}⟩
section
variable{h h':Heap}{a:b8}
theorem iM(e:h.get? a=h'.get? a):h.isNs a=h'.isNs a:=by unfold Heap.isNs;rw[e]
theorem mH(e:h.get? a=h'.get? a):h.nsKeys a=h'.nsKeys a:=by unfold Heap.nsKeys;rw[e]
theorem jq(e:h.get? a=h'.get? a):h.nsMap a=h'.nsMap a:=by funext x;unfold Heap.nsMap;rw[e]
theorem vv(e:h.get? a=h'.get? a):h.nsPairs a=h'.nsPairs a:=by unfold Heap.nsPairs;rw[e]
end
theorem vp(P:bo):(Hx P).accountedOkI []=true:=by kernel_rfl
theorem An(P:bo):adg [] (aag P) (Hx P)=true:=by kernel_rfl
theorem vS(P:bo):(Hx P).isNs cC=true:=by kernel_rfl
theorem NL(P:bo):(Hx P).isNs ab4=true:=by kernel_rfl
theorem zJ(P:bo):(Hx P).bltView=bltViewBooted:=by kernel_rfl
theorem Gh(P:bo):(Hx P).bmainOk=true:=by kernel_rfl
theorem J2(P:bo):aer (aag P) (Hx P)=true:=by kernel_rfl
theorem rH:importedModules pw.main.body=[]:=by kernel_rfl
theorem E4(P:bo):acR pw (Hx P)=true:=by kernel_rfl
theorem nf(P:bo){h:Heap}(K:∀p∈KK P,h.get? p.1=some p.2):∀b,b<11->b≠3->h.get? b=(Hx P).get? b:=by
 intro b d c;have e:(rS P).map (λp=>(Hx P).get? p.1)=(rS P).map (λp=>some p.2):=by kernel_rfl
 have f:b∈(rS P).map (·.1):=(by decide:∀b:Nat,b<11->b≠3->b∈[0,1,2,4,5,6,7,8,9,10]) b d c;refine(af.mp f).elim λp q=>?_;refine sZ q.2 ?_;exact(K p (by unfold KK;exact aN _ (.tail _ q.1))).trans (acH.mp e p q.1).symm
theorem lD(P:bo){h:Heap}(K:∀p∈KK P,h.get? p.1=some p.2):h.get? 3=(Hx P).get? 3:=by have:=K (3,di (gR P) 182) (by unfold KK;exact bk _ (aN _ (.head _)));exact this.trans (by kernel_rfl)
theorem C6(P:bo):∀b,b≠2->b≠3->(aag P).get? b=(Hx P).get? b:=by intro b c d;match b,c,d with|0,_,_=>kernel_rfl|1,_,_=>kernel_rfl|4,_,_=>kernel_rfl|5,_,_=>kernel_rfl|6,_,_=>kernel_rfl|7,_,_=>kernel_rfl|8,_,_=>kernel_rfl|9,_,_=>kernel_rfl|10,_,_=>kernel_rfl|n+11,_,_=>rfl
theorem JS(P:bo)(e:(aag P).get? b=some o):b<11:=Heap.lt_size e
structure fm(w:bN)(h:Heap):Prop where
 objs:∀p∈KK w.params,h.get? p.1=some p.2
 codes:∀p∈vc,h.CodeRec (.ref (Pl p.2).1) (Pl p.2).2
theorem fm.keeps(T:fm w h)(k:∀b o,h.get? b=some o->h'.get? b=some o):fm w h':=⟨λp c=>k _ _ (T.objs p c),λp c=>(T.codes p c).keeps k⟩
theorem KX(h:XX n v=true):∃t,v=.str n t:=by rcases v with⟨⟩<;>first|exact fE h|exact Oj _ (ag (abY · _) (PySem.W.Fast.sEq_iff.mp h))
theorem KU{l:ab al}(h:XS n l=true):∃t,l[1]?=some (.str n t):=by rcases l with _|⟨_,_|⟨v,r⟩⟩<;>first|exact fE h|exact(KX h).imp λt e=>ag some e
theorem zL{s:St}{c:Nat×Str}{C:NP}(h:codeOk s c=true):(abs s C).heap.CodeRec (.ref c.1) c.2:=by
 have h:Xr c.2 (nE s c.1)=true:=h;rcases e:nE s c.1with _|o<;>rw[e]at h;.exact fE h
 .have h:Xl c.2 o.data=true:=h;rcases b:o.data with⟨⟩<;>rw[b]at h<;>first|exact fE h|exact(KU h).elim λt q=>⟨c.1,o,_,t,rfl,(lx e).2.2,b,cY.symm.trans q⟩
theorem Kz(w:bN)(s:(j.heap,j.gens,j.drawn,j.toks)=(aag w.params,Array.mk [],cU,boot_toks)):∃i,TopRan pw w j i/\i.asleep/\i.gens=#[]/\fm w i.heap:=by
 refine j6 (Ke w) λst P z O=>?_;obtain⟨Z,Y,X,h,os⟩:=j;simp only[Prod.mk.injEq]at s;obtain⟨rfl,rfl,rfl,rfl⟩:=s;have N:(⟨aag w.params,Array.mk [],cU,boot_toks,os⟩:aM)=abs (OM w.params) ⟨{},#[],cU,os⟩:=by unfold abs OM;rw[boot_abs]
 have R:=GR P (os:=os) N;have T:fm w (abs st ⟨{},#[],cU,os⟩).heap:=by refine⟨λp B=>(lx (O p B)).2.2,λp B=>?_⟩;exact zL (aA.mp z p B)
 have K:=T.objs;have m:(abs st ⟨{},#[],cU,os⟩).heap.get? 2=(Hx w.params).get? 2:=nf _ K 2 (by decide) (by decide);have r:(abs st ⟨{},#[],cU,os⟩).heap.get? 3=(Hx w.params).get? 3:=lD _ K;have G:(abs st ⟨{},#[],cU,os⟩).heap.get? 0=(Hx w.params).get? 0:=nf _ K 0 (by decide) (by decide);generalize t:abs st ⟨{},#[],cU,os⟩=i at*;have k:i.heap.life={}:=by refine sZ t ?_;rfl
 have l:i.gens=#[]:=by refine sZ t ?_;rfl
 have A:i.os=os:=by refine sZ t ?_;rfl
 have J:i.heap.isNs cC=true:=(iM r).trans (vS _);have E:i.heap.isNs ab4=true:=(iM G).trans (NL _);have M:i.heap.bltView=bltViewBooted:=by
  have:i.heap.bltView=(Hx w.params).bltView:=by unfold Heap.bltView;rw[vv (a:=ab4) G]
  exact this.trans (zJ _)
 refine i12 i ⟨R,k,Shared.rest_eq A,?_,?_,?_,?_,?_,?_,?_,?_,?_⟩ ⟨?_,l,T⟩;.intro b o e I;have s:b<11:=JS _ e;have L:b≠2:=λq=>I (.inr (.inl q));have C:b≠3:=λq=>I (.inl q);exact(nf _ K b s C).trans ((C6 _ b L C).symm.trans e)
 .rw[rH];refine Heap.accountedI_of_ok ?_;have:i.heap.accountedOkI []=(Hx w.params).accountedOkI []:=by unfold Heap.accountedOkI;rw[iM (a:=ab0) m,mH (a:=ab0) m,jq (a:=ab0) m]
  exact this.trans (vp _)
 .rw[rH];refine statics_of_ok ?_;have:adg [] (aag w.params) i.heap=adg [] (aag w.params) (Hx w.params):=by unfold adg;simp only[iM (a:=ab0) m,mH (a:=ab0) m,jq (a:=ab0) m]
  exact this.trans (An _)
 .exact Pin.keysAreStrs_of J
 .exactλx Q=>(Pin.builtinOf_eq E x).trans (Heap.of_bltView E M x Q)
 .have y:i.heap.bmainOk=true:=by
   have:i.heap.bmainOk=(Hx w.params).bmainOk:=by
    unfold Heap.bmainOk;refine sY (jq (a:=cC) r) ?_;have:(Hx w.params).nsMap cC "__builtins__"=some (.ref 4):=by kernel_rfl
    refine sY this ?_;dsimp only;exact sY (nf _ K 4 (by decide) (by decide)) rfl
   exact this.trans (Gh _)
  refine Uz (Heap.bmainOk_spec y) λbm U a _ c d f _=>?_;exact jQ bm U ⟨(adh J _).trans a,c,d,f⟩
 .intro g H;rw[l]at H;simp at H
 .refine names_of_bound ?_;have:acR pw i.heap=acR pw (Hx w.params):=by unfold acR;simp only[iM (a:=cC) r,mH (a:=cC) r]
  exact this.trans (E4 _)
 .refine laid_of_kept ?_;have:aer (aag w.params) i.heap=aer (aag w.params) (Hx w.params):=by unfold aer;simp only[iM (a:=cC) r,jq (a:=cC) r]
  exact this.trans (J2 _)
 .exact⟨(sY k rfl),(sY k rfl)⟩
noncomputable abbrev QD:OpenLaw:=PySem.Challenge.rw_rh0137_01
noncomputable abbrev Jv:OpenRow:=QD.row
inductive kG:ab al->ab Int->Prop|nil:kG [] []|cons{i:Int}{t:Tok}{U:ab al}{O:ab Int}:kG U O->kG (.int i t::U) (i::O)
noncomputable def yM:Prop:=∀(w:bN)(s:aM)(l:b8)(U:dw al)(n:Nat)(o:Obj)(O:ab Int),fm w s.heap->s.gens=#[]->s.heap.get? l=some o->o.cls=.type "list"->o.data=.seq U n->kG U.toList O->O.length<=63->aR (aP pw w) callerA (PySem.call (.ref 1060) [.ref l]) (λv s'=>v=.bool true/\(∀b o,s.heap.get? b=some o->s'.heap.get? b=some o)/\s'.os=s.os/\s'.gens=#[]) (λ_ _=>aeu) s
theorem KN(r:abM R cl h U Z as):abS R Z .int=true->∃O,kG U O/\Z=O.map abo:=by refine ReadsAllW.rec (motive_1:=λv d _ _=>WShape.has R d .int=true->∃i t,v=.int i t/\d=.int i) (motive_2:=λU Z _ _=>abS R Z .int=true->∃O,kG U O/\Z=O.map abo) (motive_3:=λ_ _ _ _=>True) fE (λ_=>fE) (λi t _=>xx i t rfl rfl) (λ_ _=>fE) (λ_ _ _ _ _=>fE) (λ_ _ _ _ _=>fE) (λ_ _ _ _ _ _ _=>fE) (λ_ _=>fE) (λ_ _=>fE) (λ_ _ _=>fE) (λ_ _ _ _ _ _ _=>fE) (λ_ _ _ _ _ _ _=>fE) (λ_ _ _ _ _ _ _ _ _ _ _ _ _ _ _=>fE) (λ_=>i12 [] .nil rfl) (λ_ _ l m e=>?_) bL (λ_ _ _ _ _=>bL) r;refine lJ (bY.mp e) λb c=>ml (l b) λi t f g=>d9 (m c) λO j k=>?_;subst f g k;exact i12 (i::O) (.cons j) rfl
theorem Eb(h:Jv.toRowW.claim.pre args=true):∃Z,args=[.list Z]/\abS [] Z .int=true/\Z.length<=63:=by
 obtain⟨g,i⟩:=pre_splitW h;obtain⟨d,r,rfl,a,b⟩:=hasAllW_cons (R:=[]) (e:=.list .int) (es:=[]) g;obtain rfl:=hasAllW_nil b;cases d with
 |list Z=>
  refine⟨Z,rfl,(Bool.or_false _).symm.trans a,?_⟩;have j:WTm.holds [] (OpenLaw.pre QD) {args:=[.list Z]}=true:=i;have f:less? (abo 63) (abo (Z.length:Int))=some (decide ((63:Int)<(Z.length:Int))):=rfl;have c:(match(match(match(less? (abo 63) (abo (Z.length:Int))).map acB with|some (.bool b)=>some (acB !b)|_=>none)with|some (.bool false)=>some (acB false)|some (.bool true)=>some (acB true)|_=>none)with|some (.bool true)=>true|_=>false)=true:=j;rw[f]at c;by_cases q:(63:Int)<(Z.length:Int);.rw[ay q]at c;exact fE c
  .omega|_=>exact fE a
theorem BX(r:abM R cl h U Z as):Z=[]->U=[]:=acC (motive_2:=λU Z _ _=>Z=[]->U=[]) r (λ_=>rfl) λ_ _=>nofun
noncomputable def Yd(d:WData):ae (ab WData):=WData.casesOn (motive_1:=λ_=>ae (ab WData)) d none (λ_=>none) (λ_=>none) (λ_=>none) some (λ_=>none) (λ_=>none) (λ_=>none) (λ_=>none) (λ_=>none) (λ_=>none) (λ_=>none) λ_ _=>none
noncomputable def vD(R:WRecords)(cl:Str->ae b8)(h:Heap)(v:al)(d:WData):Prop:=∀Z,Yd d=some Z->∃a o es n b,v=.ref a/\h.get? a=some o/\o.cls=.type "list"/\o.data=.seq es n/\abM R cl h es.toList Z b
theorem zh(r:ReadsW R cl h v d as):vD R cl h v d:=ReadsW.casesOn (motive_1:=λv d _ _=>vD R cl h v d) r (λ_=>ec) (λ_ _=>ec) (λ_ _ _=>ec) (λ_ _ _=>ec) (λb c f g Z e=>sI e▸⟨_,_,_,_,_,rfl,b,c,f,g⟩) (λ_ _ _ _ _=>ec) (λ_ _ _ _ _ _=>ec) (λ_ _ _=>ec) (λ_ _ _=>ec) (λ_ _ _ _=>ec) (λ_ _ _ _ _ _ _=>ec) (λ_ _ _ _ _ _ _=>ec) (λ_ _ _ _ _ _ _ _ _ _ _ _ _ _ _=>ec)
theorem Cu(r:abM R cl h U [.list Z] as):∃a o es n b,U=[.ref a]/\h.get? a=some o/\o.cls=.type "list"/\o.data=.seq es n/\abM R cl h es.toList Z b:=by have k:∀B,abM R cl h U B as->B=[.list Z]->∃v d,U=[v]/\d=.list Z/\vD R cl h v d:=λB r=>acC (motive_2:=λU B _ _=>B=[.list Z]->∃v d,U=[v]/\d=.list Z/\vD R cl h v d) r (λe=>nomatch e) λq s e=>Dd _ _ (ag _ (BX s (br e).2)) (br e).1 (zh q);refine iE (k _ r rfl) λv d c f g=>XM (g _ (ag Yd f)) λa o es n b i j l m p=>⟨a,o,es,n,b,i▸c,j,l,m,p⟩
theorem AF(P:bo):(Hx P).nsMap cC (aa "law")=some (.ref 1060):=by kernel_rfl
theorem Qr:(1060,Rz (fA 182) "law" "law" 1059 .none (.str "law_rh0137_01" 1598))∈vc:=by have:vc.getLast?=some (1060,Rz (fA 182) "law" "law" 1059 .none (.str "law_rh0137_01" 1598)):=rfl;exact List.mem_of_getLast? this
theorem Ay:pw.theDef (aa "law")=some (ew (fA 182),ng (fA 182),ef (fA 182)):=by kernel_rfl
theorem DB:(ew (fA 182)).defaults=[]:=by kernel_rfl
theorem D7:kwWritten? (ew (fA 182)).kwonlyargs (ew (fA 182)).kw_defaults=some []:=by kernel_rfl
theorem Py:pw.tablesWhole=true:=by delta Program.tablesWhole TablesWhole.wProgram TablesWhole.holds;rw[PySem.W.Fast.te6116379765354995101,PySem.W.Fast.te15985051520779696433];decide+kernel
theorem QN:opensWell pw=true:=by decide+kernel
theorem B3(args:ab WData):Jv.toRowW.claim.post args (.bool true) args=true:=by kernel_rfl
theorem Q9:Jv.toRowW.claim.pre [.list []]=true:=by decide+kernel
set_option maxHeartbeats 0in theorem TY:QD.wellSaid=true:=by
 rw[PySem.W.Fast.te9446332074065402090];delta PySem.W.Fast.tw9446332074065402090;delta PySem.W.Fast.tw17960256430627541270;delta PySem.W.Fast.tw2436336058641802641;delta PySem.W.Fast.tw12908688711261696721;repeat' with_reducible apply look_both
 all_goals decide+kernel
theorem head(Q:QD.row.wellSaid=true)(call:yM):QD.row.Holds:=by
 refine⟨Q,?promised,?claim⟩;case promised=>exact⟨[.list []],Q9,by decide+kernel⟩
 case claim=>
  refine⟨⟨⟨rfl,rfl,rfl,rfl,rfl,Py⟩,QN,rfl⟩,⟨[.list []],Q9,by decide+kernel⟩,λw=>?_⟩;have k:=boot_open (p:=pw) (N:=600) (by rfl) (by rfl) (by intro s;rfl) w;rw[←table_eq_tree]at k;obtain⟨T,h2,hb⟩:=cw.mp k;obtain⟨s,h4,h5⟩:=abv.mp h2;have A:=AfterImport.of_importEnds h4;refine⟨⟨s,A⟩,λs' Ss=>?_⟩;obtain rfl:s'=s:=AfterImport.unique Ss A;obtain⟨f,hT,hz,hg,X⟩:=Kz w hb;refine⟨T,h5,ag (λx=>x.2.1) hb,f,hT,?pin,(λx M=>nomatch M),(λx M=>nomatch M),?cf⟩;case pin=>
   intro n hn;obtain rfl:n=aa "law":=by have:n∈[aa "law"]:=hn;simpa using this
   have hm:f.heap.isNs cC=true:=(iM (lD w.params X.objs)).trans (vS _);refine⟨1060,_,_,ew (fA 182),ng (fA 182),ef (fA 182),(adh hm _).trans ((congrFun (jq (lD w.params X.objs)) _).trans (AF _)),X.objs _ (by unfold KK;exact bk _ (bk _ (bk _ (bk _ Qr)))),rfl,Ay,rfl,rfl,rfl,rfl,rfl,rfl,rfl,rfl,.inl ⟨DB,rfl⟩,?_⟩;exact⟨[],D7,.inl ⟨rfl,rfl⟩⟩
  case cf=>obtain⟨XK,hu,ha,h,hm⟩:=frees_parts (r:=Jv.toRowW) (by rfl);have hi:=ident_freeW hu ha h;refine ClaimW.callFrom_of_specN (c:=Jv.toRowW.claim) hz (by rw[hg];simp[leftWithCleanup]) λt l E B J=>?_;refine hd λγ κ=>?_;obtain⟨⟨U,d⟩,i⟩:=dj.mp (layAllW_isSome (R:=Jv.toRowW.claim.records) (cl:=classAt f.heap) (P:=w.params) (ord:=B) (λc a=>nomatch a) t Jv.toRowW.args f (pre_splitW l).1);have m:=layAllW_keeps _ _ _ i;have Y:=layAllW_rest _ _ _ i;obtain⟨as,L,Vu,I⟩:=reads_layAllW J _ _ _ i E d.heap (λ_ _ e=>e);obtain⟨Z,rfl,M,H⟩:=Eb l;have j:fm w d.heap:=X.keeps m;have YA:d.heap.Ns cC (d.heap.nsMap cC):=Heap.Ns.of_isNs ((iM (lD w.params j.objs)).trans (vS _));have y:d.heap.nsMap cC (aa "law")=some (.ref 1060):=(congrFun (jq (lD w.params j.objs)) _).trans (AF _);refine XM (Cu L) λb o es n Δ e ho a hd hr=>?_;subst e;obtain⟨O,NT,rfl⟩:=KN hr M;have C:=call w {d with gens:=#[]} _ _ _ _ O j rfl ho a hd NT (by simpa using H);refine κ ⟨_,d,i,?_⟩;refine aB (wpAny_nsGet (s:={d with gens:=#[]}) YA ?_);rw[show d.heap.nsMap cC QD.row.name=some (.ref 1060)from y];refine aB (cz C (λv s' g=>aQ ⟨_,rfl,?_⟩) λ_ _ z=>z.elim);obtain⟨rfl,hk,ZG,YO⟩:=g;have G:GoodW Jv.toRowW.claim (classAt f.heap) (ExcName.means f.heap) [.list (O.map abo)] {d with gens:=#[]} (.ok (.ret (.bool true))) s':=⟨.inl ⟨_,.bool true,[],rfl,λ_=>rfl,.bool true,B3 _,λ_=>⟨.nil,λ_ q=>nomatch q⟩⟩,hk,ZG,YO⟩;have z:=G.endsN (c:=Jv.toRowW.claim) rfl rfl hi L I Y.2.2.1;exact⟨z.1,z.2.1,z.2.2,λq=>nomatch q⟩
end Mine
end
noncomputable section
open PySem PySem.W
namespace Mine
section
set_option genCtorIdx true
set_option genInjectivity true in inductive D where|fS|bool(b:bp)|int(i:Int)|str(s:Str)|tup(Z:ab D)|lst(Z:ab D)|eH(I U:ab D)|obj(c:Nat)(fs:ab D)deriving acw
set_option genInjectivity true in inductive V where|d(x:D)|ref(i:Nat)|ins(c:Nat)(i:Nat)deriving acw
inductive Mode where|own|sh|fz deriving bA,acw
inductive Cell where|lst(Z:ab D)(m:Mode)|eH(B:ab (D×D))(fz:bp)|ins(fs:ab (Nat×V))deriving acw
noncomputable abbrev Hp:=ab Cell
noncomputable abbrev Loc:=ab (ae V)
structure Cx where
 call:Nat->Nat->ab V->Hp->ae (V×Hp)
 wm:Nat
noncomputable abbrev ME:=Cx->Loc->Hp->ae (V×Hp)
noncomputable abbrev MT:=Cx->Loc->Hp->ae (bp×Hp)
noncomputable abbrev MI:=Cx->Loc->Hp->ae (ab D×Hp)
inductive Fl where|er|brk|cnt|ret(v:V)
noncomputable abbrev MS:=Cx->Loc->Hp->ae (Fl×Loc×Hp)
noncomputable def eqvAll(f:D->D->ae bp):ab D->ab D->ae bp
 |[],[]=>some true|x::Z,y::ys=>match f x y,eqvAll f Z ys with|some a,some b=>some (a&&b)|_,_=>none
 |[],_::_=>some false|_::_,[]=>some false
noncomputable def D.k8:Nat->D->D->ae bp
 |0,_,_=>none|n+1,x,y=>match x with
  |.fS=>match y with|.fS=>some true|.int _|.str _|.tup _=>some false|_=>none
  |.int a=>match y with|.int b=>some (a==b)|.fS|.str _|.tup _=>some false|_=>none
  |.str a=>match y with|.str b=>some (a==b)|.fS|.int _|.tup _=>some false|_=>none
  |.tup Z=>match y with|.tup ys=>eqvAll (D.k8 n) Z ys|.fS|.int _|.str _=>some false|_=>none
  |.lst Z=>match y with|.lst ys=>if Z.length=ys.length then eqvAll (D.k8 n) Z ys else some false|_=>none
  |_=>none
noncomputable def D.eqv(x y:D):ae bp:=D.k8 60 x y
noncomputable def D.has(x:D):ab D->ae bp|[]=>some false|y::ys=>match D.eqv y x,D.has x ys with|some a,some b=>some (a||b)|_,_=>none
noncomputable def hU(k:D):ab (D×D)->ae (ae D)|[]=>some none|(a,v)::r=>match D.eqv a k with|some true=>some (some v)|some false=>hU k r|none=>none
noncomputable def jF(k v:D):ab (D×D)->ae (ab (D×D))|[]=>some [(k,v)]|(a,w)::r=>match D.eqv a k with|some true=>some ((a,v)::r)|some false=>(jF k v r).map ((a,w)::·)|none=>none
noncomputable def D.ku:Nat->D->bp|_,.int _=>true|_,.str _=>true|n+1,.tup Z=>Z.all (D.ku n)|_,_=>false
inductive rl where|i|s|t deriving bA,acw
noncomputable def D.sort:D->ae rl|.int _=>some .i|.str _=>some .s|.tup Z=>if D.ku 6 (.tup Z)then some .t else none|_=>none
noncomputable def eg(k:rl)(B:ab (D×D)):bp:=B.all λp=>p.1.sort=some k
noncomputable def big:Nat:=2^20
noncomputable def toD(v:V)(H:Hp):ae (D×Hp):=match v with
 |.d x=>some (x,H)|.ref i=>match H[i]?with|some (.lst Z _)=>some (.lst Z,H.set i (.lst Z .fz))|some (.eH B _)=>if eg .i B||eg .s B then some (.eH (B.map (·.1)) (B.map (·.2)),H.set i (.eH B true))else none|_=>none
 |.ins _ _=>none
noncomputable def ig(v:V)(H:Hp):ae (V×Hp):=match v with
 |.d x=>some (.d x,H)|.ref i=>match H[i]?with|some (.lst Z .own)=>some (.d (.lst Z),H.set i (.lst Z .fz))|some (.lst Z .fz)=>some (.d (.lst Z),H)|some (.lst _ .sh)=>some (.ref i,H)|some (.eH _ _)=>some (.ref i,H)|_=>none
 |.ins c i=>some (.ins c i,H)
noncomputable def ji(v:V)(H:Hp):ae (ab D×Hp):=match v with
 |.d (.tup Z)=>some (Z,H)|.d (.lst Z)=>some (Z,H)|.ref i=>match H[i]?with|some (.lst Z _)=>some (Z,H.set i (.lst Z .fz))|_=>none
 |_=>none
noncomputable def jB(v:V)(H:Hp):ae (ab D):=match v with
 |.d (.tup Z)=>some Z|.d (.lst Z)=>some Z|.ref i=>match H[i]?with|some (.lst Z _)=>some Z|some (.eH B _)=>if eg .i B||eg .s B then some (B.map (·.1))else none|_=>none
 |_=>none
noncomputable def jn(v:V)(H:Hp):ae bp:=match v with
 |.d .fS=>some false|.d (.bool b)=>some b|.d (.int i)=>some (i !=0)|.d (.str s)=>if s.cps.size<=big then some (s.cps.size !=0)else none|.d (.tup Z)=>some (!Z.isEmpty)|.d (.lst Z)=>some (!Z.isEmpty)|.ref i=>match H[i]?with|some (.lst Z _)=>some (!Z.isEmpty)|_=>none
 |_=>none
noncomputable def tc:ME:=λ_ _ _=>none
noncomputable def Hj(x:D):ME:=λ_ _ H=>some (.d x,H)
noncomputable def u5(i:Nat):ME:=λ_ l H=>match l[i]?with|some (some v)=>some (v,H)|_=>none
noncomputable def eD(m:ME)(c:Cx)(l:Loc)(H:Hp):ae (D×Hp):=(m c l H).bind λr=>toD r.1 r.2
noncomputable def Li:ab ME->Cx->Loc->Hp->ae (ab D×Hp)|[],_,_,H=>some ([],H)|m::C,c,l,H=>(eD m c l H).bind λr=>(Li C c l r.2).map λq=>(r.1::q.1,q.2)
noncomputable def mV:ab ME->Cx->Loc->Hp->ae (ab V×Hp)|[],_,_,H=>some ([],H)|m::C,c,l,H=>(m c l H).bind λr=>(ig r.1 r.2).bind λr=>(mV C c l r.2).map λq=>(r.1::q.1,q.2)
noncomputable def N6(C:ab ME):ME:=λc l H=>(Li C c l H).map λr=>(.d (.tup r.1),r.2)
noncomputable def OQ(C:ab ME):ME:=λc l H=>(Li C c l H).map λr=>(.d (.lst r.1),r.2)
noncomputable def BH(m:Mode)(C:ab ME):ME:=λc l H=>(Li C c l H).map λr=>(.ref r.2.length,r.2++[.lst r.1 m])
noncomputable def Hs:ME:=λ_ _ H=>some (.ref H.length,H++[.eH [] false])
noncomputable def II:V->ae D|.d x=>some x|_=>none
noncomputable def nH{b:Type}(k:D)(f:Int->ae b):ae b:=match k with|.int n=>f n|_=>none
noncomputable def Qk{b:Type}(k:D)(f:Str->ae b):ae b:=match k with|.str n=>f n|_=>none
noncomputable def S8{b:Type}(k:D)(f:ab D->ae b):ae b:=match k with|.tup n=>f n|_=>none
noncomputable def LI{b:Type}(k:D)(f:ab D->ae b):ae b:=match k with|.lst n=>f n|_=>none
noncomputable def RA(b:bp):ae ag9:=match b with|true=>some ()|false=>none
noncomputable def mA(H:Hp)(z:Cell):ae (V×Hp):=some (.ref H.length,H++[z])
noncomputable def zR(H:Hp)(x y:D):ae (V×Hp):=nH x λi=>mA H (.eH [(.int i,y)] false)
noncomputable def D.W3(x:D):ae ag9:=match x with|.fS=>some ()|_=>none
noncomputable def QY(v:V):ae ag9:=(II v).bind D.W3
noncomputable def M8(n:Nat)(v:V):ae V:=(II v).bind λx=>LI x λZ=>some (.d (.lst (Z.take n)))
noncomputable def OC(v:V):ae V:=(II v).bind λx=>Qk x λs=>if 2<=s.cps.size/\s.cps.size<=big then some (.d (.str ⟨(s.cps.toList.drop 1).dropLast.toArray⟩))else none
noncomputable def zo(k v:ME):ME:=λc l H=>(eD k c l H).bind λa=>(eD v c l a.2).bind λb=>zR b.2 a.1 b.1
noncomputable def GL(f:Nat)(C:ab ME):ME:=λc l H=>(mV C c l H).bind λr=>c.call c.wm f r.1 r.2
noncomputable def eNew(cl b:Nat)(C:ab ME):ME:=λc l H=>(mV C c l H).bind λr=>(c.call c.wm b (.ins cl r.2.length::r.1) (r.2++[.ins []])).bind λq=>(QY q.1).map λ_=>(.ins cl r.2.length,q.2)
noncomputable def iK(cl:Nat):ab Nat:=if cl=730then[11,12,13]else[]
noncomputable def lN:ab (Nat×V)->ae (ab D)|[]=>some []|(_,.d x)::r=>(lN r).map (x::·)|_=>none
noncomputable def jf(cl i:Nat)(H:Hp):ae (V×Hp):=match H[i]?with|some (.ins fs)=>if fs.map (·.1)=iK cl then(lN fs).map λB=>(.d (.obj cl B),H.take i)else none|_=>none
noncomputable def NC(cl b:Nat)(C:ab ME):ME:=λc l H=>(mV C c l H).bind λr=>(c.call r.2.length b (.ins cl r.2.length::r.1) (r.2++[.ins []])).bind λq=>(QY q.1).bind λ_=>jf cl r.2.length q.2
noncomputable def itemAt(Z:ab D)(n:Int):ae D:=if n<0then(if(Z.length:Int)+n<0then none else Z[((Z.length:Int)+n).toNat]?)else Z[n.toNat]?
noncomputable def strAt(s:Str)(n:Int):ae D:=if n<0\/1000000<n then none else(s.cps[n.toNat]?).map λc=>.str ⟨#[c]⟩
noncomputable def fZ(v:V)(k:D)(H:Hp):ae V:=match v with
 |.d x=>match x with|.tup Z=>nH k λn=>(itemAt Z n).map .d|.lst Z=>nH k λn=>(itemAt Z n).map .d|.str s=>nH k λn=>(strAt s n).map .d|_=>none
 |.ref i=>match H[i]?with|some (.lst Z _)=>nH k λn=>(itemAt Z n).map .d|some (.eH B _)=>if k.sort.any λq=>eg q B then(match hU k B with|some (some v)=>some (.d v)|_=>none)else none|_=>none
 |.ins _ _=>none
noncomputable def NF(o k:ME):ME:=λc l H=>(o c l H).bind λr=>(eD k c l r.2).bind λq=>(fZ r.1 q.1 q.2).map λv=>(v,q.2)
noncomputable def G7(o:ME)(n:Nat):ME:=λc l H=>(o c l H).bind λr=>(M8 n r.1).map λv=>(v,r.2)
noncomputable def ND(o:ME):ME:=λc l H=>(o c l H).bind λr=>(OC r.1).map λv=>(v,r.2)
noncomputable def Kw(cl:Nat)(a:Nat)(B:ab D):ae D:=((iK cl).zip B).lookup a
noncomputable def ky(v:V)(a:Nat)(H:Hp):ae V:=match v with
 |.ins _ i=>match H[i]?with|some (.ins fs)=>fs.lookup a|_=>none
 |.d (.obj cl B)=>(Kw cl a B).map .d|_=>none
noncomputable def H9(o:ME)(a:Nat):ME:=λc l H=>(o c l H).bind λr=>(ky r.1 a r.2).map λv=>(v,r.2)
noncomputable abbrev mN:=ab ((Nat×Nat)×Nat)
noncomputable def strsOf:ab D->ae (ab Str)|[]=>some []|.str s::r=>(strsOf r).map (s::·)|_=>none
noncomputable def kj(x:Str):ab D->ae Nat|[]=>none|.str y::r=>if y==x then some 0 else(kj x r).map (· +1)|_=>none
noncomputable def Dj:ab V->ae D|[v]=>II v|_=>none
noncomputable def Gz:ab V->ae (D×D)|[v,u]=>(II v).bind λa=>(II u).map λb=>(a,b)|_=>none
noncomputable def VS(i:Nat)(x:D)(Z:ab D)(md:Mode)(H:Hp):ae (V×Hp):=if md=.fz\/big<=Z.length then none else some (.d .fS,H.set i (.lst (Z++[x]) md))
noncomputable def UY(i:Nat)(x:D)(Z:ab D)(md:Mode)(H:Hp):ae (V×Hp):=LI x λys=>if md=.fz\/big<Z.length+ys.length then none else some (.d .fS,H.set i (.lst (Z++ys) md))
noncomputable def WW(i:Nat)(x:D)(Z:ab D)(md:Mode)(H:Hp):ae (V×Hp):=nH x λz=>match Z with|y::ys=>if z=0/\md≠.fz then some (.d y,H.set i (.lst ys md))else none|[]=>none
noncomputable def Om(i m:Nat)(x:D)(Z:ab D)(md:Mode)(H:Hp):ae (V×Hp):=if m=100then VS i x Z md H else if m=101then UY i x Z md H else if m=102then WW i x Z md H else none
noncomputable def Kf(m:Nat)(p:D×D)(B:ab (D×D))(H:Hp):ae (V×Hp):=if m=103/\(p.1.sort.any λq=>eg q B)=true then(hU p.1 B).map λr=>(.d (r.getD p.2),H)else none
noncomputable def Sv(m:Nat)(x:D)(s:Str)(H:Hp):ae (V×Hp):=LI x λZ=>(strsOf Z).bind λG=>if m=104/\G.foldl (λa p=>a+p.length+s.length) 0<=big/\(aar s G).length<=big then some (.d (.str (aar s G)),H)else none
noncomputable def Sf(m:Nat)(x:D)(Z:ab D)(H:Hp):ae (V×Hp):=Qk x λs=>if m=105then(kj s Z).map λ(n:Nat)=>(.d (.int (n:Int)),H)else none
noncomputable def fK(C:mN)(Y:Cx)(v:V)(m:Nat)(args:ab V)(H:Hp):ae (V×Hp):=match v with
 |.ins cl i=>match H[i]?with|some (.ins _)=>if 110<=m then(C.lookup (cl,m)).bind λf=>Y.call Y.wm f (v::args) H else none|_=>none
 |.ref i=>match H[i]?with|some (.lst Z md)=>(Dj args).bind λx=>Om i m x Z md H|some (.eH B _)=>(Gz args).bind λp=>Kf m p B H|_=>none
 |.d x=>match x with|.eH I U=>(Gz args).bind λp=>Kf m p (I.zip U) H|.str s=>(Dj args).bind λx=>Sv m x s H|.tup Z=>(Dj args).bind λx=>Sf m x Z H|_=>none
noncomputable def iY(C:mN)(v:V)(m:Nat)(H:Hp):bp:=match v with|.ins cl i=>(match H[i]?with|some (.ins _)=>decide (110<=m)&&(C.lookup (cl,m)).isSome|_=>false)|.ref i=>(match H[i]?with|some (.lst _ _)=>decide (m=100\/m=101\/m=102)|some (.eH _ _)=>decide (m=103)|_=>false)|.d (.eH _ _)=>decide (m=103)|.d (.str _)=>decide (m=104)|.d (.tup _)=>decide (m=105)|_=>false
noncomputable def FU(C:mN)(o:ME)(m:Nat)(es:ab ME):ME:=λc l H=>(o c l H).bind λr=>if iY C r.1 m r.2then(mV es c l r.2).bind λq=>fK C c r.1 m q.1 q.2 else none
noncomputable def binI(R:dE)(x y:Int):ae D:=match R with|.Add=>some (.int (x+y))|.Sub=>some (.int (x-y))|.Mult=>if x.natAbs<2^30/\y.natAbs<2^30then some (.int (x*y))else none|.FloorDiv=>if 0<y/\y<1073741824/\x.natAbs<1073741824then some (.int (ahc x y))else none|.Mod=>if 0<y then some (.int (ab2 x y))else none|.Pow=>if x=2/\0<=y/\y<30then some (.int (2^y.toNat))else none|.BitAnd=>some (.int (cE x y))|_=>none
noncomputable def PO(R:dE)(x y:Str):ae D:=match R with|.Add=>if x.length+y.length<=big then some (.str (x++y))else none|_=>none
noncomputable def fv(R:dE)(a b:D):ae D:=match a with
 |.int x=>match b with|.int y=>binI R x y|_=>none
 |.str x=>match b with|.str y=>PO R x y|_=>none
 |_=>none
noncomputable def Nj(R:dE)(a b:ME):ME:=λc l H=>(eD a c l H).bind λx=>(eD b c l x.2).bind λy=>(fv R x.1 y.1).map λz=>(.d z,y.2)
noncomputable def Of(i:Int):ME:=λ_ _ H=>some (.d (.int (-i)),H)
noncomputable def rn(x:D)(v:V)(H:Hp):ae bp:=match v with
 |.d (.tup Z)=>D.has x Z|.d (.lst Z)=>D.has x Z|.d (.str s)=>match x with|.str t=>if t.cps.size=1then some (!(cO s t 0 s.length 1).isEmpty)else none|_=>none
 |.d (.eH I U)=>if x.sort.any λq=>eg q (I.zip U)then(hU x (I.zip U)).map (·.isSome)else none|.ref i=>match H[i]?with|some (.lst Z _)=>D.has x Z|some (.eH B _)=>if x.sort.any λq=>eg q B then(hU x B).map (·.isSome)else none|_=>none
 |_=>none
noncomputable def f6(R:afb)(a:D)(b:V)(H:Hp):ae bp:=match R with
 |.Eq=>match b with|.d y=>D.eqv a y|_=>none
 |.NotEq=>match b with|.d y=>(D.eqv a y).map (!·)|_=>none
 |.Lt=>match a,b with|.int x,.d (.int y)=>some (decide (x<y))|_,_=>none
 |.LtE=>match a,b with|.int x,.d (.int y)=>some (decide (x<=y))|_,_=>none
 |.Gt=>match a,b with|.int x,.d (.int y)=>some (decide (y<x))|_,_=>none
 |.GtE=>match a,b with|.int x,.d (.int y)=>some (decide (y<=x))|_,_=>none
 |.In=>rn a b H|.NotIn=>(rn a b H).map (!·)|_=>none
noncomputable def Oy(R:afb)(a b:ME):ME:=λc l H=>(eD a c l H).bind λx=>(b c l x.2).bind λy=>(f6 R x.1 y.1 y.2).map λz=>(.d (.bool z),y.2)
noncomputable def isNone:V->bp|.d .fS=>true|_=>false
noncomputable def A4(I:bp)(a:ME):ME:=λc l H=>(a c l H).map λr=>(.d (.bool (isNone r.1!=I)),r.2)
noncomputable def tE(m:ME):MT:=λc l H=>(m c l H).bind λr=>(jn r.1 r.2).map λb=>(b,r.2)
noncomputable def QC(t:MT):MT:=λc l H=>(t c l H).map λr=>(!r.1,r.2)
noncomputable def gM:ab MT->MT|[]=>λ_ _ H=>some (true,H)|t::ts=>λc l H=>(t c l H).bind λr=>match r.1with|true=>gM ts c l r.2|false=>some (false,r.2)
noncomputable def Ce:ab MT->MT|[]=>λ_ _ H=>some (false,H)|t::ts=>λc l H=>(t c l H).bind λr=>match r.1with|true=>some (true,r.2)|false=>Ce ts c l r.2
noncomputable def Vl(t:MT)(a b:ME):ME:=λc l H=>(t c l H).bind λr=>match r.1with|true=>a c l r.2|false=>b c l r.2
noncomputable def yP:ab ME->ME|[]=>tc|[m]=>m|m::C=>λc l H=>(m c l H).bind λr=>(jn r.1 r.2).bind λb=>match b with|true=>yP C c l r.2|false=>some r
noncomputable def OU:ab ME->ME|[]=>tc|[m]=>m|m::C=>λc l H=>(m c l H).bind λr=>(jn r.1 r.2).bind λb=>match b with|true=>some r|false=>OU C c l r.2
noncomputable def TH(m:ME):ME:=λc l H=>(m c l H).bind λr=>(jn r.1 r.2).map λb=>(.d (.bool !b),r.2)
noncomputable def intsOf:ab D->ae (ab Int)|[]=>some []|.int i::r=>(intsOf r).map (i::·)|_=>none
noncomputable def boolsOf:ab D->ae (ab bp)|[]=>some []|.bool b::r=>(boolsOf r).map (b::·)|_=>none
noncomputable def eT:ab Nat->ab Nat->bp|[],_=>true|_::_,[]=>false|a::r,b::t=>if Nat.blt a b then true else if aal a b then eT r t else false
noncomputable def kz(a b:Str):bp:=eT a.cps.toList b.cps.toList
noncomputable def kO{c:Type}(B:c->c->bp)(a:c):ab c->ab c|[]=>[a]|b::r=>if B a b then a::b::r else b::kO B a r
noncomputable def sortBy{b:Type}(B:b->b->bp):ab b->ab b|[]=>[]|a::r=>kO B a (sortBy B r)
noncomputable def mK(Z:ab D):ae (ab D):=if 64<=Z.length then none else match intsOf Z with|some I=>some ((sortBy (λa b=>decide (a<=b)) I).map .int)|none=>match strsOf Z with|some G=>some ((sortBy kz G).map .str)|none=>none
noncomputable def jo(i:Int):ae Str:=if 0<=i/\i<10then some ⟨#[48+i.toNat]⟩else none
noncomputable def jk(s:Str):ae Int:=match s.cps.toList with|[c]=>if 48<=c/\c<58then some ((c-48:Nat):Int)else none|_=>none
noncomputable def J7(v:V)(H:Hp):ae Nat:=match v with|.d (.str s)=>if s.cps.size<=big then some s.cps.size else none|v=>(jB v H).map bq
noncomputable def anyB(v:V):ae D:=match v with
 |.d x=>match x with|.lst Z=>(boolsOf Z).map λb=>.bool (b.any id)|_=>none
 |_=>none
noncomputable def zx(v:V):ae D:=match v with
 |.d x=>match x with|.int i=>(jo i).map .str|_=>none
 |_=>none
noncomputable def Qc(v:V):ae D:=match v with
 |.d x=>match x with|.str s=>(jk s).map .int|_=>none
 |_=>none
noncomputable def Il(v:V)(H:Hp):ae D:=match v with
 |.d x=>match x with|.lst Z=>some (.tup Z)|.tup Z=>some (.tup Z)|_=>none
 |.ref i=>match H[i]?with|some (.lst Z _)=>some (.tup Z)|_=>none
 |_=>none
noncomputable def intD:V->ae Int
 |.d x=>match x with|.int i=>some i|_=>none
 |_=>none
noncomputable def tW(f:Nat)(v:V)(H:Hp):ae D:=if f=200then(J7 v H).map λ(n:Nat)=>.int (n:Int)else if f=201then((jB v H).bind mK).map .lst else if f=203then anyB v else if f=204then zx v else if f=205then Qc v else if f=207then Il v H else none
noncomputable def VP(f:Nat)(v u:V):ae D:=if f=206then(intD v).bind λa=>(intD u).map λb=>.int (max a b)else none
noncomputable def iu(f:Nat)(args:ab V)(H:Hp):ae D:=match args with|[]=>none|v::r=>match r with|[]=>tW f v H|u::r=>match r with|[]=>VP f v u|_::_=>none
noncomputable def yn:ab ME->Cx->Loc->Hp->ae (ab V×Hp)|[],_,_,H=>some ([],H)|m::C,c,l,H=>(m c l H).bind λr=>(yn C c l r.2).map λq=>(r.1::q.1,q.2)
noncomputable def QA(f:Nat)(C:ab ME):ME:=λc l H=>(yn C c l H).bind λr=>(iu f r.1 r.2).map λd=>(.d d,r.2)
noncomputable def N3(m:ME):MI:=λc l H=>(m c l H).bind λr=>ji r.1 r.2
noncomputable def sF(x:D)(H:Hp):ae (ab D×Hp):=nH x λn=>if 0<=n/\n<2^20then some ((bx n.toNat).map λ(i:Nat)=>D.int (i:Int),H)else none
noncomputable def yF(m:ME):MI:=λc l H=>(eD m c l H).bind λr=>sF r.1 r.2
inductive Tg where|one(i:Nat)|many(is:ab Nat)
noncomputable def iS:ab Nat->ab D->Loc->ae Loc|[],[],l=>some l|i::I,x::Z,l=>iS I Z (l.set i (some (.d x)))|_,_,_=>none
noncomputable def hK(t:Tg)(x:D)(l:Loc):ae Loc:=match t with|.one i=>some (l.set i (some (.d x)))|.many I=>match x with|.tup Z=>iS I Z l|_=>none
noncomputable def fa(elt:ME)(tg:Tg)(cs:MT)(c:Cx):ab D->Loc->Hp->ae (ab D×Hp)|[],_,H=>some ([],H)|x::Z,l,H=>(hK tg x l).bind λj=>(cs c j H).bind λb=>match b.1with|true=>(eD elt c j b.2).bind λr=>(fa elt tg cs c Z j r.2).map λq=>(r.1::q.1,q.2)|false=>fa elt tg cs c Z j b.2
noncomputable def sA(elt:ME)(tg:Tg)(k:Nat)(j:MI)(cs:ab MT):ME:=λc l H=>(j c l H).bind λr=>(fa elt tg (gM cs) c r.1 (l++bJ k none) r.2).map λq=>(.d (.lst q.1),q.2)
noncomputable def pV(elt:ME)(tg:Tg)(k:Nat)(j:MI)(cs:ab MT):ME:=λc l H=>(j c l H).bind λr=>(fa elt tg (gM cs) c r.1 (l++bJ k none) r.2).map λq=>(.ref q.2.length,q.2++[.lst q.1 .sh])
noncomputable def Aa:MS:=λ_ _ _=>none
noncomputable def d5:ab MS->MS|[]=>λ_ l H=>some (.er,l,H)|s::G=>λc l H=>(s c l H).bind λr=>match r.1with|.er=>d5 G c r.2.1 r.2.2|f=>some (f,r.2)
noncomputable def wL(i:Nat)(m:ME):MS:=λc l H=>(m c l H).map λr=>(.er,l.set i (some r.1),r.2)
noncomputable def PU(I:ab Nat)(v:V)(l:Loc):ae Loc:=(II v).bind λx=>S8 x λZ=>iS I Z l
noncomputable def F6(I:ab Nat)(m:ME):MS:=λc l H=>(m c l H).bind λr=>(PU I r.1 l).map λl'=>(.er,l',r.2)
noncomputable def kS(a:Nat)(v:V):ab (Nat×V)->ab (Nat×V)|[]=>[(a,v)]|(b,w)::r=>if b=a then(b,v)::r else(b,w)::kS a v r
noncomputable def V.plain:V->bp|.d _=>true|_=>false
noncomputable def U7(wm:Nat)(w:V)(a i:Nat)(H:Hp):ae Cell->ae Hp|some (.ins fs)=>if(w.plain||decide (wm<=i))&&decide (fs.length<100)then some (H.set i (.ins (kS a w fs)))else none|_=>none
noncomputable def MW(wm:Nat)(w:V)(a:Nat)(v:V)(H:Hp):ae Hp:=match v with|.ins _ i=>U7 wm w a i H H[i]?|_=>none
noncomputable def Bq(o:ME)(a:Nat)(m:ME):MS:=λc l H=>(m c l H).bind λr=>(o c l r.2).bind λq=>(MW c.wm r.1 a q.1 q.2).map λH=>(.er,l,H)
noncomputable def Uh(k x:D)(i:Nat)(H:Hp):ae Cell->ae Hp|some (.eH B f)=>bif f then none else if(k.sort.any λk=>eg k B)/\B.length<big then(jF k x B).map λb=>H.set i (.eH b false)else none|_=>none
noncomputable def IH(k x:D)(v:V)(H:Hp):ae Hp:=match v with|.ref i=>Uh k x i H H[i]?|_=>none
noncomputable def Eo(o k m:ME):MS:=λc l H=>(eD m c l H).bind λr=>(o c l r.2).bind λq=>(eD k c l q.2).bind λp=>(IH p.1 r.1 q.1 p.2).map λH=>(.er,l,H)
noncomputable def P2(R:dE)(x y:D):ae D:=match R with|.Add=>nH x λa=>nH y λb=>some (.int (a+b))|_=>none
noncomputable def OD(i:Nat)(R:dE)(m:ME):MS:=λc l H=>(eD (u5 i) c l H).bind λx=>(eD m c l x.2).bind λy=>(P2 R x.1 y.1).map λz=>(.er,l.set i (some (.d z)),y.2)
noncomputable def D.flat:D->bp|.fS|.bool _|.int _|.str _=>true|_=>false
noncomputable def Gy(v:V):ae ag9:=(II v).bind λx=>RA x.flat
noncomputable def GO(m:ME):MS:=λc l H=>(m c l H).bind λr=>(Gy r.1).map λ_=>(.er,l,r.2)
noncomputable def QJ(t:MT)(a b:ab MS):MS:=λc l H=>(t c l H).bind λr=>match r.1with|true=>d5 a c l r.2|false=>d5 b c l r.2
noncomputable def g'(tg:Tg)(b:MS)(c:Cx):ab D->Loc->Hp->ae (Fl×Loc×Hp)|[],l,H=>some (.er,l,H)|x::Z,l,H=>(hK tg x l).bind λj=>(b c j H).bind λr=>match r.1with|.er|.cnt=>g' tg b c Z r.2.1 r.2.2|.brk=>some (.er,r.2)|.ret v=>some (.ret v,r.2)
noncomputable def Oo(tg:Tg)(j:MI)(b:ab MS):MS:=λc l H=>(j c l H).bind λr=>g' tg (d5 b) c r.1 l r.2
noncomputable def PZ(m:ME):MS:=λc l H=>(m c l H).map λr=>(.ret r.1,l,r.2)
noncomputable def EC:MS:=λ_ l H=>some (.ret (.d .fS),l,H)
noncomputable def Pr:MS:=λ_ l H=>some (.cnt,l,H)
noncomputable def MC:MS:=λ_ l H=>some (.er,l,H)
end
section
universe u
noncomputable def fw:ab Str->Nat->Str->ae Nat|[],_,_=>none|y::r,n,x=>match fw r (n+1) x with|some i=>some i|none=>if PySem.W.Fast.sEq y x then some n else none
noncomputable def ey(O:ab Str)(x:Str):ae Nat:=fw O 0 x
noncomputable def nO(N:cg)(x:Str):ae ada:=(N.names.find? λp=>PySem.W.Fast.sEq p.1 x).map (·.2)
noncomputable def tF(x:Str):bp:=!PySem.W.Fast.sEq x (aa "__debug__")&&!PySem.W.Fast.sEq x (aa "__classdict__")
noncomputable def isVar(N:cg)(x:Str):bp:=tF x&&match nO N x with|some .local|some .cell|some .free=>true|_=>false
noncomputable def jb(N:cg)(x:Str):bp:=tF x&&match nO N x with|some .globalImplicit=>true|_=>false
noncomputable def gY(N:cg)(x:Str):bp:=tF x&&match nO N x with|some .local|some .cell=>true|_=>false
noncomputable def lI{M:PySem.Expr->Sort u}(e:PySem.Expr)(o:∀e,M e)(r:∀c k p,M (.Constant c k p))(B:∀x p,M (.Name x p))(E:∀es k p,M (.Tuple es k p))(A:∀es p,M (.List es p))(s:∀I U p,M (.Dict I U p))(G:∀R x p,M (.UnaryOp R x p))(i:∀a R b p,M (.BinOp a R b p))(j:∀R es p,M (.BoolOp R es p))(y:∀t a b p,M (.IfExp t a b p))(q:∀a d l p,M (.Compare a d l p))(m:∀f as I p,M (.Call f as I p))(g:∀x a p,M (.Attribute x a p))(sub:∀x k p,M (.Subscript x k p))(z:∀x Z N p,M (.ListComp x Z N p))(C:∀a b c p,M (.Slice a b c p)):M e:=match e with|.Constant c k p=>r c k p|.Name x p=>B x p|.Tuple es k p=>E es k p|.List es p=>A es p|.Dict I U p=>s I U p|.UnaryOp R x p=>G R x p|.BinOp a R b p=>i a R b p|.BoolOp R es p=>j R es p|.IfExp t a b p=>y t a b p|.Compare a d l p=>q a d l p|.Call f as I p=>m f as I p|.Attribute x a p=>g x a p|.Subscript x k p=>sub x k p|.ListComp x Z N p=>z x Z N p|.Slice a b c p=>C a b c p|e=>o e
section
variable{M:PySem.Expr->Sort u}(e:PySem.Expr)(o:∀e,M e)
noncomputable def wg(f:∀x p,M (.Name x p)):M e:=lI e o (λ_ _ _=>o _) f (λ_ _ _=>o _) (λ_ _=>o _) (λ_ _ _=>o _) (λ_ _ _=>o _) (λ_ _ _ _=>o _) (λ_ _ _=>o _) (λ_ _ _ _=>o _) (λ_ _ _ _=>o _) (λ_ _ _ _=>o _) (λ_ _ _=>o _) (λ_ _ _=>o _) (λ_ _ _ _=>o _) (λ_ _ _ _=>o _)
noncomputable def uB(f:∀c k p,M (.Constant c k p)):M e:=lI e o f (λ_ _=>o _) (λ_ _ _=>o _) (λ_ _=>o _) (λ_ _ _=>o _) (λ_ _ _=>o _) (λ_ _ _ _=>o _) (λ_ _ _=>o _) (λ_ _ _ _=>o _) (λ_ _ _ _=>o _) (λ_ _ _ _=>o _) (λ_ _ _=>o _) (λ_ _ _=>o _) (λ_ _ _ _=>o _) (λ_ _ _ _=>o _)
noncomputable def Nf(f:∀es p,M (.List es p)):M e:=lI e o (λ_ _ _=>o _) (λ_ _=>o _) (λ_ _ _=>o _) f (λ_ _ _=>o _) (λ_ _ _=>o _) (λ_ _ _ _=>o _) (λ_ _ _=>o _) (λ_ _ _ _=>o _) (λ_ _ _ _=>o _) (λ_ _ _ _=>o _) (λ_ _ _=>o _) (λ_ _ _=>o _) (λ_ _ _ _=>o _) (λ_ _ _ _=>o _)
noncomputable def Fi(f:∀a as I p,M (.Call a as I p)):M e:=lI e o (λ_ _ _=>o _) (λ_ _=>o _) (λ_ _ _=>o _) (λ_ _=>o _) (λ_ _ _=>o _) (λ_ _ _=>o _) (λ_ _ _ _=>o _) (λ_ _ _=>o _) (λ_ _ _ _=>o _) (λ_ _ _ _=>o _) f (λ_ _ _=>o _) (λ_ _ _=>o _) (λ_ _ _ _=>o _) (λ_ _ _ _=>o _)
noncomputable def VO(f:∀R x p,M (.UnaryOp R x p)):M e:=lI e o (λ_ _ _=>o _) (λ_ _=>o _) (λ_ _ _=>o _) (λ_ _=>o _) (λ_ _ _=>o _) f (λ_ _ _ _=>o _) (λ_ _ _=>o _) (λ_ _ _ _=>o _) (λ_ _ _ _=>o _) (λ_ _ _ _=>o _) (λ_ _ _=>o _) (λ_ _ _=>o _) (λ_ _ _ _=>o _) (λ_ _ _ _=>o _)
noncomputable def MK(f:∀x p,M (.Name x p))(g:∀es k p,M (.Tuple es k p)):M e:=lI e o (λ_ _ _=>o _) f g (λ_ _=>o _) (λ_ _ _=>o _) (λ_ _ _=>o _) (λ_ _ _ _=>o _) (λ_ _ _=>o _) (λ_ _ _ _=>o _) (λ_ _ _ _=>o _) (λ_ _ _ _=>o _) (λ_ _ _=>o _) (λ_ _ _=>o _) (λ_ _ _ _=>o _) (λ_ _ _ _=>o _)
end
noncomputable def Jh(k:Nat)(e:PySem.Expr):bp:=e.ctorIdx.beq k
noncomputable def noStar:ab PySem.Expr->bp|[]=>true|e::r=>bif Jh 22 e then false else noStar r
noncomputable def iX(e:PySem.Expr):bp:=!Jh 7 e
noncomputable def isName(e:PySem.Expr):bp:=Jh 23 e
noncomputable def baseOk(e:PySem.Expr):bp:=Fi e (M:=λ_=>bp) (λ_=>true) λf as I _=>!(Jh 23 f&&as.isEmpty&&I.isEmpty)
noncomputable def iW(N G:cg):cg:={G with names:=G.names.map λp=>if p.2==.free&&(match nO N p.1with|some .cell=>true|_=>false)then(p.1,.cell)else p}
noncomputable def oa(N G:cg)(O ts:ab Str):bp:=(match G.kind with|.function=>true|_=>false)&&(match N.kind with|.function=>true|_=>false)&&(G.names.all λp=>match p.2with|.cell=>false|.local=>(match nO G p.1with|some .local=>true|_=>false)&&(ts.any (λt=>PySem.W.Fast.sEq t p.1)||(ey O p.1).isNone)|.free=>isVar N p.1&&(match nO N p.1with|some .local=>false|_=>true)&&(ey O p.1).isSome|_=>true)&&ts.all λt=>match nO G t with|some .local=>true|_=>false
noncomputable def look{b:Type}(l:ab (Str×b))(x:Str):ae b:=(l.find? λp=>PySem.W.Fast.sEq p.1 x).map (·.2)
noncomputable def Fj:Const->ae D|.none=>some .fS|.bool b=>some (.bool b)|.int i=>some (.int i)|.str s=>some (.str s)|_=>none
noncomputable def Nb(O:ab Str)(e:PySem.Expr):ae Nat:=wg e (M:=λ_=>ae Nat) (λ_=>none) λx _=>ey O x
noncomputable def pZ(O:ab Str)(e:PySem.Expr):ae Tg:=MK e (M:=λ_=>ae Tg) (λ_=>none) (λx _=>(ey O x).map .one) λes _ _=>(es.mapM (Nb O)).map .many
noncomputable def ZA(e:PySem.Expr):ae Str:=wg e (M:=λ_=>ae Str) (λ_=>none) λx _=>some x
noncomputable def ej(e:PySem.Expr):ab Str:=MK e (M:=λ_=>ab Str) (λ_=>[]) (λx _=>[x]) λes _ _=>es.filterMap ZA
structure qF where
 il:ahs
 QZ:ab D
 NV:ab Str
 init:bp
noncomputable def f9(N:cg):ab Str:=(N.names.filter λp=>match p.2with|.local|.cell=>true|_=>false).map (·.1)
noncomputable def fB(a:Arguments):ab Str:=a.args.map (·.arg)
noncomputable def uw(k:Nat)(args:ab V)(Z:ab D):ae (ab V):=if args.length<=k/\k<=args.length+Z.length then some (args++(Z.drop (args.length+Z.length-k)).map .d)else none
end
noncomputable def fu(k:dF)(a:Nat):Str×Nat×ab D:=(aa k,a,[])
noncomputable def uA:ab (Str×Nat×ab D):=[fu "_wall" 21,fu "kind_of" 150,(aa "str_type",158,[.int 0]),(aa "num_type",166,[.int 0]),(aa "array_type",174,[.int 0]),fu "last_mark" 181,fu "needed_to_last" 188,fu "one_rest" 195,(aa "tuple_type",201,[.int 0]),fu "sorted_props" 206,(aa "obj_type",218,[.tup [],.tup [],.tup [],.tup [],.int 0]),(aa "sig_type",227,[.tup [],.int 0]),fu "func_type" 234,(aa "new_param",242,[.int (-1),.int (-1)]),fu "parts_of" 249,fu "whole_of_row" 256,fu "regular_twin" 263,fu "join_bools" 270,fu "stays_beside" 277,fu "top_of" 284,fu "union" 289,fu "without" 294,fu "add_undef" 301,fu "common_family" 306,fu "meet_family" 313,fu "family" 320,fu "plain_shape" 328,fu "told_places" 515,fu "list_decl" 522,fu "find_prop" 529,fu "prop_row" 536,fu "index_of" 543,fu "index_of_parts" 550,fu "is_open" 558,fu "unit_word" 565,fu "key_text" 572,fu "digits_back" 579,fu "picked" 586,fu "is_public" 593,fu "list_keys" 598,fu "is_homomorphic" 645,fu "plain_index" 652,fu "is_late_alias" 657,fu "undefless" 664,fu "optional_form" 671,fu "readonly_after" 678,fu "template_at" 685,fu "member_opt" 692,fu "member_kind" 699,fu "kindmap_member_flags" 706,fu "names_for" 713,fu "put_member" 741,fu "build_members" 748,fu "shape_entries" 755,fu "bare_entries" 760,fu "map_array" 767,fu "spare_elem" 774,fu "map_elem" 781,fu "map_tuple" 788,fu "is_primitive" 795,fu "map_over" 800,fu "defer_over" 807,fu "map_named" 814,fu "index_cell" 821,fu "pick_entry" 828,fu "key_texts" 835,fu "met_entries" 840,fu "map_picked" 847,fu "map_kind" 854,fu "put_each" 859,fu "put_cell" 866,fu "put_shape" 871,fu "plainput_put_elems" 876,fu "put_call" 881,fu "without_own" 888,fu "put_late" 895,fu "plain_put" 902,fu "_law_next" 938,fu "_law_join" 943,fu "_law_word" 950,fu "_law_parts" 957,fu "_law_kind" 964,fu "_law_type" 971,fu "_law_make" 976,fu "_law_object" 983,fu "_law_list" 990,fu "_law_source" 995,fu "_law_slot" 1000,fu "_law_shut" 1007,fu "_law_text" 1012,fu "_law_seen" 1019,fu "_law_one" 1024,fu "_law_show" 1031,fu "_law_read" 1038,fu "_law_map" 1043,fu "_law_row" 1050,fu "_law_step" 1055,fu "law" 1060]
noncomputable def ma:ab (Str×Nat×Nat×bp):=[(aa "TypeTable",139,122,false),(aa "Made",634,612,false),(aa "Keyed",730,727,true),(aa "PutHost",926,916,false)]
noncomputable def ci(k:dF)(n:Nat):Str×D:=(aa k,.int n)
noncomputable def AJ:ab (Str×D):=[ci "Y_KEY" 1,ci "Y_BOOL" 2,ci "Y_STR" 3,ci "Y_NUM" 4,ci "Y_ENUM" 5,ci "Y_UNION" 6,ci "Y_INTER" 7,ci "Y_OBJ" 8,ci "Y_REF" 9,ci "Y_PARAM" 10,ci "Y_ARRAY" 11,ci "Y_TUPLE" 12,ci "Y_SIG" 13,ci "Y_KEYOF" 14,ci "Y_INDEX" 15,ci "Y_COND" 16,ci "Y_MAPPED" 17,ci "Y_TPL" 18,ci "Y_ALIAS" 19,ci "ANY" 0,ci "UNKNOWN" 1,ci "NEVER" 2,ci "VOID" 3,ci "UNDEF" 4,ci "NULLT" 5,ci "STRING" 6,ci "NUMBER" 7,ci "FALSE_T" 8,ci "TRUE_T" 9,ci "OBJECTT" 10,ci "EMPTY" 11,ci "ERR" 13,ci "FRESH_F" 14,ci "FRESH_T" 15,ci "P_OPT" 1,ci "P_READONLY" 2,ci "P_METHOD" 4,ci "P_PRIVATE" 8,ci "P_PROTECTED" 16,ci "P_GETONLY" 32,ci "E_NEED" 0,ci "E_OPT" 1,ci "E_REST" 2,ci "E_SPREAD" 3,ci "FAM_OTHER" 0,ci "FAM_STR" 1,ci "FAM_NUM" 2,ci "FAM_BOOL" 3,ci "FAM_NULL" 4,ci "FAM_UNDEF" 5,ci "FAM_VOID" 6,ci "FAM_OBJ" 7,ci "MAX_UNION" 400,(aa "FIRST_ROWS",.tup [.tup [.int 1,.str (aa "any")],.tup [.int 1,.str (aa "unknown")],.tup [.int 1,.str (aa "never")],.tup [.int 1,.str (aa "void")],.tup [.int 1,.str (aa "undefined")],.tup [.int 1,.str (aa "null")],.tup [.int 1,.str (aa "string")],.tup [.int 1,.str (aa "number")],.tup [.int 2,.int 0,.int 0],.tup [.int 2,.int 1,.int 0],.tup [.int 1,.str (aa "object")],.tup [.int 8,.tup [],.tup [],.tup [],.tup [],.tup [],.int 0],.tup [.int 6,.tup [.int 8,.int 9]],.tup [.int 1,.str (aa "error")],.tup [.int 2,.int 0,.int 1],.tup [.int 2,.int 1,.int 1]]),(aa "MARKED_ROWS",.tup [.int 2,.int 3,.int 4,.int 5,.int 8]),(aa "OBJECT_ROWS",.tup [.int 8,.int 9,.int 11,.int 12,.int 13]),(aa "KEY_FAMILIES",.eH [.int 3,.int 4,.int 5,.int 6,.int 7,.int 10] [.int 6,.int 5,.int 4,.int 1,.int 2,.int 7]),ci "MOST_PLAIN" 40,(aa "PLAIN_ROWS",.tup [.int 1,.int 2,.int 3,.int 4,.int 5]),ci "MOST_ROUNDS" 200,ci "MOST_SHAPES" 40,ci "TOP_NUMBER" 9007199254740991,(aa "OPEN_KINDS",.tup [.int 10,.int 14,.int 15,.int 16,.int 17,.int 19]),(aa "_law_keys",.tup [.str (aa "any"),.str (aa "unknown"),.str (aa "never"),.str (aa "void"),.str (aa "undefined"),.str (aa "null"),.str (aa "string"),.str (aa "number"),.str (aa "false"),.str (aa "true"),.str (aa "object")]),(aa "_law_words",.tup [.str (aa "\"a\""),.str (aa "0"),.str (aa "undefined"),.str (aa "\"b\""),.str (aa "null"),.str (aa "1"),.str (aa "string"),.str (aa "true"),.str (aa "number"),.str (aa "false")]),(aa "_law_written",.tup [.str (aa "\"p\""),.str (aa "0"),.str (aa "string"),.str (aa "\"z\""),.str (aa "number"),.str (aa "\"q\""),.str (aa "1")])]
noncomputable def qJ:ab (Str×Nat):=[(aa "len",200),(aa "sorted",201),(aa "any",203),(aa "str",204),(aa "int",205),(aa "max",206),(aa "tuple",207)]
noncomputable def g6:ab (Str×Nat):=[(aa "rows",0),(aa "decls",2),(aa "bounds",3),(aa "defaults",4),(aa "names",5),(aa "origins",6),(aa "renamed",7),(aa "shaping",8),(aa "putting",9),(aa "tab",10),(aa "key",11),(aa "prop",12),(aa "index",13),(aa "sindex",14),(aa "nindex",15),(aa "deep",16),(aa "most_rounds",17),(aa "most_deep",18)]
noncomputable def nS:ab (Str×Nat):=[(aa "append",100),(aa "extend",101),(aa "pop",102),(aa "get",103),(aa "join",104),(aa "index",105),(aa "row",110),(aa "put",111),(aa "add",112),(aa "add_index",113),(aa "done",114),(aa "force",115),(aa "put_deferred",116),(aa "put_cond",117),(aa "shape",118),(aa "put_in",119),(aa "list_prop",120),(aa "list_index",121)]
noncomputable def dP:mN:=[((139,110),129),((139,111),136),((634,112),619),((634,113),626),((634,114),631),((926,115),349),((926,116),356),((926,117),363),((926,118),489),((926,119),923),((926,120),447),((926,121),454)]
noncomputable def rt(a i:Nat):Nat×qF:=(a,⟨fA i,[],[],false⟩)
noncomputable def rO:ab (Nat×qF):=[rt 21 0,(36,⟨(kF 2 0),[.str (aa "")],[],true⟩),(57,⟨(kF 3 0),[.int 2589,.str (aa "")],[],true⟩),(77,⟨(kF 4 0),[.str (aa "")],[],true⟩),(122,⟨(kF 63 0),[],[],true⟩),(129,⟨(kF 63 1),[],[],false⟩),(136,⟨(kF 63 2),[],[],false⟩),rt 150 64,(158,⟨(fA 65),[.int 0],[],false⟩),(166,⟨(fA 66),[.int 0],[],false⟩),(174,⟨(fA 67),[.int 0],[],false⟩),rt 181 68,(188,⟨(fA 69),[],[aa "out"],false⟩),(195,⟨(fA 70),[],[aa "held"],false⟩),(201,⟨(fA 71),[.int 0],[],false⟩),rt 206 72,(218,⟨(fA 73),[.tup [],.tup [],.tup [],.tup [],.int 0],[],false⟩),(227,⟨(fA 74),[.tup [],.int 0],[],false⟩),rt 234 75,(242,⟨(fA 76),[.int (-1),.int (-1)],[],false⟩),rt 249 77,rt 256 78,rt 263 79,rt 270 80,rt 277 81,rt 284 82,rt 289 83,rt 294 84,rt 301 85,rt 306 86,rt 313 87,rt 320 88,rt 328 92,(342,⟨(kF 96 0),[],[],true⟩),(349,⟨(kF 96 1),[],[],false⟩),(356,⟨(kF 96 2),[],[],false⟩),(363,⟨(kF 96 3),[],[],false⟩),(370,⟨(kF 96 4),[],[],false⟩),(377,⟨(kF 96 5),[],[],false⟩),(384,⟨(kF 96 6),[],[],false⟩),(391,⟨(kF 96 7),[],[],false⟩),(398,⟨(kF 96 8),[],[],false⟩),(405,⟨(kF 96 9),[],[],false⟩),(412,⟨(kF 96 10),[],[],false⟩),(419,⟨(kF 96 11),[],[],false⟩),(426,⟨(kF 96 12),[],[],false⟩),(433,⟨(kF 96 13),[],[],false⟩),(440,⟨(kF 96 14),[],[],false⟩),(447,⟨(kF 96 15),[],[],false⟩),(454,⟨(kF 96 16),[],[],false⟩),(461,⟨(kF 96 17),[],[],false⟩),(468,⟨(kF 96 18),[],[],false⟩),(489,⟨(kF 97 0),[],[],false⟩),(496,⟨(kF 97 1),[],[],false⟩),(503,⟨(kF 97 2),[],[],false⟩),rt 515 98,rt 522 99,rt 529 100,rt 536 101,rt 543 102,(550,⟨(fA 103),[],[aa "kinds"],false⟩),rt 558 107,rt 565 108,rt 572 109,rt 579 110,rt 586 112,rt 593 113,(598,⟨(fA 114),[],[aa "names"],false⟩),(612,⟨(kF 116 0),[],[],true⟩),(619,⟨(kF 116 1),[],[aa "parts"],false⟩),(626,⟨(kF 116 2),[],[],false⟩),(631,⟨(kF 116 3),[],[],false⟩),rt 645 117,rt 652 118,rt 657 119,rt 664 120,rt 671 121,rt 678 122,rt 685 123,rt 692 124,rt 699 125,rt 706 126,rt 713 127,(727,⟨(kF 128 0),[],[],true⟩),rt 741 129,rt 748 130,(755,⟨(fA 131),[],[aa "entries"],false⟩),rt 760 132,rt 767 133,rt 774 134,rt 781 135,(788,⟨(fA 136),[],[aa "elems"],false⟩),rt 795 137,rt 800 138,rt 807 139,rt 814 140,rt 821 141,rt 828 142,rt 835 143,(840,⟨(fA 144),[],[aa "entries"],false⟩),rt 847 145,rt 854 146,rt 859 148,rt 866 149,rt 871 150,rt 876 151,rt 881 152,rt 888 153,rt 895 154,rt 902 155,(916,⟨(kF 157 0),[],[],true⟩),(923,⟨(kF 157 1),[],[],false⟩),rt 938 162,(943,⟨(fA 163),[],[aa "got"],false⟩),rt 950 164,(957,⟨(fA 165),[],[aa "parts"],false⟩),rt 964 166,rt 971 167,rt 976 168,(983,⟨(fA 169),[],[aa "props",aa "slots"],false⟩),(990,⟨(fA 170),[],[aa "elems",aa "slots"],false⟩),(995,⟨(fA 171),[],[aa "types",aa "pieces"],false⟩),rt 1000 172,rt 1007 173,rt 1012 174,rt 1019 175,(1024,⟨(fA 176),[],[aa "slots"],false⟩),(1031,⟨(fA 177),[],[aa "got"],false⟩),rt 1038 178,(1043,⟨(fA 179),[],[aa "rows"],false⟩),rt 1050 180,rt 1055 181,(1060,⟨(fA 182),[],[aa "feed"],false⟩)]
noncomputable def Pk(a:Nat):ae qF:=(rO.find? λp=>aal p.1 a).map (·.2)
end Mine
end
noncomputable section
open PySem PySem.W PySem.Calls PyProof.Rows
namespace Mine
open SeqAt
open scoped Classical
section
noncomputable def vt:D->Nat|.fS=>0|.int _=>1|.str _=>2|.bool _=>4|_=>3
noncomputable def jA:ab Nat:=[139,634,730,926]
section
variable(w:bN)
noncomputable def v8(k:D)(v:al):bp:=match k with|.int i=>v.isInt i|.str s=>aex s v|_=>false
noncomputable def wy:D->bp|.int _=>true|.str _=>true|_=>false
noncomputable def XN:D->Int|.int i=>hashInt i|.str s=>hashStr w s|_=>0
@[elab_as_elim]theorem Jg{P:D->Prop}{k:D}(h:wy k=true)(i:∀n,P (.int n))(s:∀s,P (.str s)):P k:=by revert h;exact D.casesOn (motive_1:=λk=>wy k=true->P k) k (λh=>fE h) (λ_ h=>fE h) (λn _=>i n) (λt _=>s t) (λ_ h=>fE h) (λ_ h=>fE h) (λ_ _ h=>fE h) λ_ _ h=>fE h
theorem yj:v8 k v=true->wy k=true:=D.casesOn (motive_1:=λk=>v8 k v=true->wy k=true) k (λh=>h) (λ_ h=>h) (λ_ _=>rfl) (λ_ _=>rfl) (λ_ h=>h) (λ_ h=>h) (λ_ _ h=>h) λ_ _ h=>h
@[elab_as_elim]theorem B'{P:D->al->Prop}{k:D}{v:al}(h:v8 k v=true)(i:∀n t,P (.int n) (.int n t))(s:∀s t,P (.str s) (.str s t)):P k v:=Jg (P:=λk=>v8 k v=true->P k v) (yj h) (λn h=>(acQ h).elim λt e=>e▸i n t) (λn h=>(ach h).elim λt e=>e▸s n t) h
theorem WX(a b:Int):(a==b)=decide (D.int a=.int b):=b6.mpr (by simp)
theorem Vv(a b:Str):(a==b)=decide (D.str a=.str b):=b6.mpr (by simp)
theorem V1(a:Int)(b:Str):false=decide (D.int a=.str b):=(aw λe=>xc vt e rfl).symm
theorem Wo(a:Str)(b:Int):false=decide (D.str a=.int b):=(aw λe=>xc vt e rfl).symm
theorem Rh(d:v8 a u=true)(c:v8 b v=true):acr A s u v (decide (a=b)):=B' d (P:=λa u=>acr A s u v (decide (a=b))) (λi t=>B' c (P:=λb v=>acr A s (.int i t) v (decide (.int i=b))) (λj r=>WX i j▸afs i t j r) λj r=>V1 i j▸afr i t j r) λi t=>B' c (P:=λb v=>acr A s (.str i t) v (decide (.str i=b))) (λj r=>Wo i j▸afw i t j r) λj r=>Vv i j▸afh i t j r
noncomputable def sK:KeyKind pw w D where is:=v8;hash:=XN w;inj v a b h:=Jg (P:=λa=>v8 a v=true->v8 b v=true->a=b) (yj h) (λn h k=>Jg (P:=λb=>v8 b v=true->.int n=b) (yj k) (λm k=>ag D.int (Value.isInt_inj v n m h k)) (λm k=>(acQ h).elim λt e=>fE ((ag (aex m) e).symm.trans k)) k) (λn h k=>Jg (P:=λb=>v8 b v=true->.str n=b) (yj k) (λm k=>(ach h).elim λt e=>fE ((ag (Value.isInt m) e).symm.trans k)) (λm k=>ag D.str (Value.isStrOf_inj v n m h k)) k) h;byValue _ _ h:=B' h (λ_ _=>rfl) λ_ _=>rfl;pyHash{A E s k v Q}c:=B' c (P:=λk v=>Q (XN w k) {s with toks:=s.toks+1}->aR (aP pw w) A (PySem.pyHash v) Q E s) (λ_ _ h=>ac5 h) λ_ _ h=>ac7 h;eqBool d c h:=Rh d c _ _ _ _ h;«strs»k x t v h:=Jg (P:=λk=>v8 k (.str x t)=true->v8 k v=v.isStr x) (yj h) (λ_ h=>fE h) (λn h=>(PySem.strKind pw w).strs n x t v h) h
mutual inductive Rd(g:Heap):D->al->Prop|fS:Rd g .fS .none|bool(b:bp):Rd g (.bool b) (.bool b)|int(i:Int)(t:Tok):Rd g (.int i) (.int i t)|str(s:Str)(t:Tok):Rd g (.str s) (.str s t)|tup{a:b8}{U:dw al}{Z:ab D}:g.IsTuple a U->U.size<=bf->fh g Z U.toList->(∃o,g.get? a=some o/\o.dict=none)->Rd g (.tup Z) (.ref a)|lst{a:b8}{U:dw al}{Z:ab D}:g.IsList a U->U.size<=bf->fh g Z U.toList->Rd g (.lst Z) (.ref a)|eH{a:b8}{B:ab (D×al)}{U:ab D}:g.DictOf (sK w) a B->(a==cM)=false->B.length<=bf->(∀p∈B,wy p.1=true)->fh g U (B.map (·.2))->Rd g (.eH (B.map (·.1)) U) (.ref a)|obj{x C dx:b8}{es:ab cN}{n:Nat}{fs:ab D}{nms:ab Str}:g.get? x=some (dB C dx)->g.get? dx=some (abQ es n)->acx es nms->nms.length=(iK C).length->(∀p∈nms.zip (iK C),p∈g6)->C∈jA->fh g fs (es.map (·.val))->Rd g (.obj C fs) (.ref x)inductive fh(g:Heap):ab D->ab al->Prop|nil:fh g [] []|cons{x:D}{v:al}{Z:ab D}{U:ab al}:Rd g x v->fh g Z U->fh g (x::Z) (v::U)end
end
section
variable{w:bN}{g N h:Heap}
noncomputable def Ml(w:bN)(g:Heap)(d:D)(u:al):Prop:=D.casesOn (motive_1:=λ_=>Prop) d (u=.none) (λb=>u=.bool b) (λi=>∃t,u=.int i t) (λs=>∃t,u=.str s t) (λZ=>∃a U,u=.ref a/\g.IsTuple a U/\U.size<=bf/\fh w g Z U.toList/\(∃o,g.get? a=some o/\o.dict=none)) (λZ=>∃a U,u=.ref a/\g.IsList a U/\U.size<=bf/\fh w g Z U.toList) (λI U=>∃a B,u=.ref a/\I=B.map (·.1)/\g.DictOf (sK w) a B/\(a==cM)=false/\B.length<=bf/\(∀p∈B,wy p.1=true)/\fh w g U (B.map (·.2))) λ_ _=>∃a,u=.ref a
theorem Rd.inv(h:Rd w g d u):Ml w g d u:=Rd.casesOn (motive_1:=λd u _=>Ml w g d u) h rfl (λ_=>rfl) (λ_ t=>⟨t,rfl⟩) (λ_ t=>⟨t,rfl⟩) (λb c e f=>⟨_,_,rfl,b,c,e,f⟩) (λb c e=>⟨_,_,rfl,b,c,e⟩) (λb c e f i=>⟨_,_,rfl,rfl,b,c,e,f,i⟩) λ_ _ _ _ _ _ _=>⟨_,rfl⟩
theorem Rd.int_inv(h:Rd w g (.int i) u):∃t,u=.int i t:=h.inv
theorem Rd.str_inv(h:Rd w g (.str s) u):∃t,u=.str s t:=h.inv
theorem Rd.bool_inv(h:Rd w g (.bool b) u):u=.bool b:=h.inv
theorem Rd.nr(h:Rd w g (.tup Z) u):∃a U,u=.ref a/\g.IsTuple a U/\U.size<=bf/\fh w g Z U.toList/\(∃o,g.get? a=some o/\o.dict=none):=h.inv
theorem Rd.lst_inv(h:Rd w g (.lst Z) u):∃a U,u=.ref a/\g.IsList a U/\U.size<=bf/\fh w g Z U.toList:=h.inv
@[elab_as_elim]theorem fh.ind{P:ab D->ab al->Prop}{Z:ab D}{U:ab al}(h:fh w g Z U)(n:P [] [])(c:∀{x:D}{v:al}{Z:ab D}{U:ab al},Rd w g x v->fh w g Z U->P Z U->P (x::Z) (v::U)):P Z U:=fh.rec (motive_1:=λ_ _ _=>True) (motive_2:=λZ U _=>P Z U) bL (λ_=>bL) (λ_ _=>bL) (λ_ _=>bL) (λ_ _ _ _ _=>bL) (λ_ _ _ _=>bL) (λ_ _ _ _ _ _=>bL) (λ_ _ _ _ _ _ _ _=>bL) n (λa r _ ih=>c a r ih) h
theorem fh.length(h:fh w g Z U):Z.length=U.length:=h.ind rfl λ_ _ e=>ag (· +1) e
theorem Zl{K:Type}[bA K]{R:KeyKind pw w K}{a:b8}{B:ab (K×al)}(x:g.DictOf R a B)(k:∀b o,g.get? b=some o->N.get? b=some o):N.DictOf R a B:=x.imp λ_ h=>h.imp λ_ h=>h.imp λ_=>cR (k _ _)
theorem Rd.keeps(k:∀b o,g.get? b=some o->N.get? b=some o)(h:Rd w g x v):Rd w N x v:=Rd.rec (motive_1:=λx v _=>Rd w N x v) (motive_2:=λZ U _=>fh w N Z U) .fS .bool .int .str (λc d _ e r=>.tup (c.imp λo=>cR (k _ o)) d r (e.imp λo=>cR (k _ o))) (λc d _ r=>.lst (c.imp λo=>cR (k _ o)) d r) (λc d f e _ r=>.eH (Zl c k) d f e r) (λc d f e i j _ r=>.obj (k _ _ c) (k _ _ d) f e i j r) .nil (λ_ _=>.cons) h
theorem fh.keeps(k:∀b o,g.get? b=some o->N.get? b=some o)(h:fh w g Z U):fh w N Z U:=h.ind .nil λa _ r=>.cons (a.keeps k) r
theorem Rd.AI(h:Rd w g .fS u):u=.none:=h.inv
@[elab_as_elim]theorem Na{v:al}{P:al->Prop}{b:bp}(h:Rd w g (.bool b) v)(k:P (.bool b)):P v:=h.bool_inv▸k
noncomputable def SQ:al->Nat|.none=>0|.int _ _=>1|.str _ _=>2|.ref _=>3|_=>4
theorem Rd.tag(h:Rd w g x v):SQ v=vt x:=Rd.casesOn (motive_1:=λx v _=>SQ v=vt x) h rfl (λ_=>rfl) (λ_ _=>rfl) (λ_ _=>rfl) (λ_ _ _ _=>rfl) (λ_ _ _=>rfl) (λ_ _ _ _ _=>rfl) λ_ _ _ _ _ _ _=>rfl
theorem tags{P:Prop}(h:Rd w g x v)(k:Rd w g y v)(n:aal (vt x) (vt y)=false):P:=nomatch(Nat.beq_eq.mpr (h.tag.symm.trans k.tag)).symm.trans n
@[elab_as_elim]theorem tX{v:al}{P:al->Prop}(h:Rd w g .fS v)(k:P .none):P v:=h.AI▸k
@[elab_as_elim]theorem i4{v:al}{P:al->Prop}{i:Int}(h:Rd w g (.int i) v)(k:∀t,P (.int i t)):P v:=h.int_inv.elim λt e=>e▸k t
@[elab_as_elim]theorem jc{v:al}{P:al->Prop}{i:Str}(h:Rd w g (.str i) v)(k:∀t,P (.str i t)):P v:=h.str_inv.elim λt e=>e▸k t
@[elab_as_elim]theorem lA{v:al}{P:al->Prop}{Z:ab D}(h:Rd w g (.tup Z) v)(k:∀a U,g.IsTuple a U->U.size<=bf->fh w g Z U.toList->(∃o,g.get? a=some o/\o.dict=none)->P (.ref a)):P v:=CZ h.nr λa U e b c d f=>e▸k a U b c d f
@[elab_as_elim]theorem Am{v:al}{P:al->Prop}{Z:ab D}(h:Rd w g (.lst Z) v)(k:∀a U,g.IsList a U->U.size<=bf->fh w g Z U.toList->P (.ref a)):P v:=jr h.lst_inv λa U e b c d=>e▸k a U b c d
theorem rJ(h:wy k=true)(r:Rd w g k v):v8 k v=true:=Jg (P:=λk=>Rd w g k v->v8 k v=true) h (λi r=>i4 (P:=λv=>v8 (.int i) v=true) r λt=>dz i) (λi r=>jc (P:=λv=>v8 (.str i) v=true) r λt=>dz i) r
noncomputable def OY(w:bN)(g:Heap)(Z:ab D)(b:ab al):Prop:=aW Z (b=[]) λx Z=>∃v U,b=v::U/\Rd w g x v/\fh w g Z U
theorem fh.inv(h:fh w g Z b):OY w g Z b:=h.ind rfl λa q _=>⟨_,_,rfl,a,q⟩
@[elab_as_elim]theorem HZ{U:ab al}{P:ab al->Prop}(h:fh w g [] U)(k:P []):P U:=(show U=[]from h.inv)▸k
@[elab_as_elim]theorem GG{x:D}{Z:ab D}{U:ab al}{P:ab al->Prop}(h:fh w g (x::Z) U)(k:∀v b,Rd w g x v->fh w g Z b->P (v::b)):P U:=iE (show∃v b,U=v::b/\Rd w g x v/\fh w g Z b from h.inv) λv b e a q=>e▸k v b a q
theorem AW{P:ab D->Prop}(h:fh w g Z [])(k:P []):P Z:=h.ind (P:=λZ b=>b=[]->P Z) (λ_=>k) (λ_ _ _ e=>xN e) rfl
theorem FI{P:ab D->Prop}(h:fh w g Z (v::U))(k:∀x ys,Rd w g x v->fh w g ys U->P (x::ys)):P Z:=h.ind (P:=λZ b=>b=v::U->P Z) (λe=>xn e) (λa q _ e=>k _ _ ((br e).1▸a) ((br e).2▸q)) rfl
theorem fh.get{Z:ab D}{U:ab al}(h:fh w g Z U){j:Nat}{x:D}(e:Z[j]?=some x):∃v,U[j]?=some v/\Rd w g x v:=by
 revert j x;suffices k:∀(j:Nat)(x:D),Z[j]?=some x->∃v,U[j]?=some v/\Rd w g x v from@k;refine h.ind (λ_ _ e=>ec e) λ{x v Z U}a _ ih j y e=>?_;rcases j with _|j;.exact so e (i12 v rfl a)
 .exact ih j y e
theorem fh.get'{Z:ab D}{U:ab al}(h:fh w g Z U){j:Nat}{v:al}(e:U[j]?=some v):∃x,Z[j]?=some x/\Rd w g x v:=by
 revert j v;suffices k:∀(j:Nat)(v:al),U[j]?=some v->∃x,Z[j]?=some x/\Rd w g x v from@k;refine h.ind (λ_ _ e=>ec e) λ{x v Z U}a _ ih j y e=>?_;rcases j with _|j;.exact so e (i12 x rfl a)
 .exact ih j y e
theorem fh.append(h:fh w g Z U)(k:fh w g ys b):fh w g (Z++ys) (U++b):=h.ind k λa _ r=>.cons a r
theorem fh.snoc(r:fh w g Z U)(a:Rd w g x v):fh w g (Z++[x]) (U++[v]):=r.append (.cons a .nil)
theorem CG(h:u+(n+1)<abN):u+1+n<abN:=by lia
theorem qx(h:eqvAll f (x::Z) (y::ys)=some b):∃c d,f x y=some c/\eqvAll f Z ys=some d/\(c&&d)=b:=by
 revert h;show(match f x y,eqvAll f Z ys with|some a,some b=>some (a&&b)|_,_=>none)=some b->_;generalize f x y=o;generalize eqvAll f Z ys=q;intro h;rcases o with _|c;.exact ec h
 rcases q with _|d;.exact ec h
 exact so h (Dd c d rfl rfl rfl)
theorem pa(h:eqvAll f Z ys=some b):∃e:Nat->bp,(∀j x y,Z[j]?=some x->ys[j]?=some y->f x y=some (e j))/\((bx (min Z.length ys.length)).all e&&Z.length==ys.length)=b:=by
 induction Z generalizing ys b with
 |nil=>refine i12 (λ_=>true) (λ_ _ _ e=>ec e) ?_;rcases ys with _|⟨y,ys⟩<;>exact so h rfl|cons x Z ih=>
  rcases ys with _|⟨y,ys⟩;.exact i12 (λ_=>true) (λ_ _ _ _ e=>ec e) (so h rfl)
  refine iE (qx h) λc d l m o=>d9 (ih m) λe q p=>?_;refine i12 (λj=>Nat.casesOn j c e) (λj r s=>?_) ?_;.
   rcases j with _|j;.exactλi=>so i λk=>so k l
   .exact q j r s
  .rw[←o,←p,ba,ba,Nat.succ_min_succ,abE,List.all_cons,ae6,Bool.and_assoc,show(Z.length+1==ys.length+1)=(Z.length==ys.length)from by simp];rfl
theorem uF(hs:l=b->k=true)(h:RcAt A s (.ref l) (.ref b) k):acr A s (.ref l) (.ref b) k:=by
 by_cases c:l=b;.subst c;rw[hs rfl];exact EqAt.same _
 .exact EqAt.of_refs c h
theorem xB(x:h.IsTuple a U)(y:h.IsTuple a f):U=f:=by obtain⟨o,e,i,n,hd⟩:=x;obtain⟨k,c,d,j,b⟩:=y;rw[e]at c;obtain rfl:=sI c;rw[hd]at b;injection b
theorem FA(x:h.IsList a U)(y:h.IsList a f):U=f:=by obtain⟨o,e,i,n,hd⟩:=x;obtain⟨k,c,d,j,b⟩:=y;rw[e]at c;obtain rfl:=sI c;rw[hd]at b;injection b
theorem qu{P:D->al->Prop}(o:∀x y v r,f x y=some r->P x v->P y v->r=true){U:ab al}(h:eqvAll f Z ys=some r)(a:Z.length=U.length/\∀(j:Nat)(x:D),Z[j]?=some x->∃v:al,U[j]?=some v/\P x v)(b:ys.length=U.length/\∀(j:Nat)(x:D),ys[j]?=some x->∃v:al,U[j]?=some v/\P x v):r=true:=by
 induction Z generalizing ys U r with
 |nil=>
  rcases ys with _|⟨y,ys⟩;.exact so h rfl
  .exact ax (b.1.trans a.1.symm) (cu _)|cons x Z ih=>
  rcases ys with _|⟨y,ys⟩;.exact ax (a.1.trans b.1.symm) (cu _)
  rcases U with _|⟨v,U⟩;.exact ax a.1 (cu _)
  refine iE (qx h) λc d k l m=>?_;refine d9 (a.2 0 x rfl) λs e p=>d9 (b.2 0 y rfl) λt i q=>?_;rw[←m,o x y v c k (sI e▸p) (sI i▸q),ih l ⟨dJ a.1,λj=>a.2 (j+1)⟩ ⟨dJ b.1,λj=>b.2 (j+1)⟩];rfl
theorem ue:∀(n:Nat){x y:D}{v:al}{r:bp},D.k8 n x y=some r->Rd w g x v->Rd w g y v->r=true:=by
 intro n;induction n with
 |zero=>intro _ _ _ _ h _ _;exact ec h|succ n ih=>
  intro x y v r h i k;rcases x with⟨⟩<;>first|exact ec h|(rcases y with⟨⟩<;>first|exact ec h|exact tags i k rfl|skip)
  .exact so h rfl
  .exact i.int_inv.elim λ_ e=>k.int_inv.elim λ_ f=>so h (bO.mpr (aew (e.symm.trans f)).1)
  .exact i.str_inv.elim λ_ e=>k.str_inv.elim λ_ f=>so h (bO.mpr (aei (e.symm.trans f)).1)
  .refine CZ i.nr λa U e l _ c _=>CZ k.nr λb o f m _ d _=>?_;cases abr (e.symm.trans f);cases xB l m;exact qu (P:=Rd w g) (λx y v r e p q=>ih e p q) h ⟨c.length,λj x e=>c.get e⟩ ⟨d.length,λj x e=>d.get e⟩
  .refine jr i.lst_inv λa U e l _ c=>jr k.lst_inv λb o f m _ d=>?_;cases abr (e.symm.trans f);cases FA l m;exact qu (P:=Rd w g) (λx y v r e p q=>ih e p q) ((aS (c.length.trans d.length.symm)).symm.trans h) ⟨c.length,λj x e=>c.get e⟩ ⟨d.length,λj x e=>d.get e⟩
theorem rF{U:dw al}(h:j<U.size):U.toList[j]?=some U[j]:=by simp[h]
end
section
variable{w:bN}{A:bH}{s:aM}
noncomputable def RX(A:bH)(s:aM)(a b:al)(r:bp):Prop:=RcAt A s a b r/\acr A s a b r/\RcNeAt A s a b (!r)
theorem B8{U g:dw al}(h:(if Z.length=ys.length then eqvAll f Z ys else some false)=some r)(c:Z.length=U.size)(d:ys.length=g.size){G:bp->Prop}(k:∀e:Nat->bp,U.size=g.size->(∀j x y,Z[j]?=some x->ys[j]?=some y->f x y=some (e j))->G ((bx U.size).all e))(l:(U.size !=g.size)=true->G false):G r:=if b:Z.length=ys.length then have i:=c.symm.trans (b.trans d);d9 (pa ((aS b).symm.trans h)) λe m o=>o▸(show((bx (min Z.length ys.length)).all e&&Z.length==ys.length)=(bx U.size).all e from by rw[c,d,i,Nat.min_self,dz,aen])▸k e i m else so ((aX b).symm.trans h) (l (bne_iff_ne.mpr λe=>b (c.trans (e.trans d.symm))))
set_option tactic.hygienic true in theorem rE:∀(n:Nat){A:bH}{x y:D}{a b:al}{r:bp},D.k8 n x y=some r->Rd w s.heap x a->Rd w s.heap y b->A.units+n<abN->RX A s a b r:=by
 intro n;induction n with
 |zero=>intro _ _ _ _ _ _ h _ _ _;exact ec h|succ n ih=>
  intro A x y a b r h ha hb hu;have hn:A.units<abN:=by lia
  have E:∀{e:bp}{x y:D}{a b:al},D.k8 n x y=some e->Rd w s.heap x a->Rd w s.heap y b->acr A.in1 s a b e:=λhx rx ry=>(ih hx rx ry (CG hu)).2.1;rcases x with⟨⟩<;>first|exact ec h|(rcases y with⟨⟩<;>first|exact ec h|skip)
  .exact tX ha (tX hb (so h ⟨RcAt.none_none,EqAt.same _,RcNeAt.none_none⟩))
  .exact tX ha (i4 hb λu=>so h ⟨RcAt.none_int _ u,EqAt.none_int _ u,RcNeAt.none_int _ u⟩)
  .exact tX ha (jc hb λu=>so h ⟨RcAt.none_str _ u,EqAt.none_str _ u,RcNeAt.none_str _ u⟩)
  .exact tX ha (lA hb λ_ _ k1 _ _ _=>so h ⟨RcAt.none_tuple k1 hn,EqAt.none_tuple k1 hn,RcNeAt.none_tuple k1 hn⟩)
  .exact i4 ha λt=>tX hb (so h ⟨RcAt.int_none _ t,EqAt.int_none _ t,RcNeAt.int_none _ t⟩)
  .exact i4 ha λt=>i4 hb λu=>so h ⟨RcAt.int_int _ t _ u,afs _ t _ u,RcNeAt.int_int _ t _ u⟩
  .exact i4 ha λt=>jc hb λu=>so h ⟨RcAt.int_str _ t _ u,afr _ t _ u,RcNeAt.int_str _ t _ u⟩
  .exact i4 ha λt=>lA hb λ_ _ k1 _ _ _=>so h ⟨RcAt.int_tuple _ t k1 hn,EqAt.int_tuple _ t k1 hn,RcNeAt.int_tuple _ t k1 hn⟩
  .exact jc ha λt=>tX hb (so h ⟨RcAt.str_none _ t,EqAt.str_none _ t,RcNeAt.str_none _ t⟩)
  .exact jc ha λt=>i4 hb λu=>so h ⟨RcAt.str_int _ t _ u,afw _ t _ u,RcNeAt.str_int _ t _ u⟩
  .exact jc ha λt=>jc hb λu=>so h ⟨RcAt.str_str _ t _ u,afh _ t _ u,RcNeAt.str_str _ t _ u⟩
  .exact jc ha λt=>lA hb λ_ _ k1 _ _ _=>so h ⟨RcAt.str_tuple _ t k1 hn,EqAt.str_tuple _ t k1 hn,RcNeAt.str_tuple _ t k1 hn⟩
  .exact lA ha λ_ _ h1 _ _ _=>tX hb (so h ⟨RcAt.tuple_none h1 hn,EqAt.tuple_none h1 hn,RcNeAt.tuple_none h1 hn⟩)
  .exact lA ha λ_ _ h1 _ _ _=>i4 hb λu=>so h ⟨RcAt.tuple_int _ u h1 hn,EqAt.tuple_int _ u h1 hn,RcNeAt.tuple_int _ u h1 hn⟩
  .exact lA ha λ_ _ h1 _ _ _=>jc hb λu=>so h ⟨RcAt.tuple_str _ u h1 hn,EqAt.tuple_str _ u h1 hn,RcNeAt.tuple_str _ u h1 hn⟩
  .rename_i Z ys;refine lA ha (P:=λa=>Rd w s.heap (.tup Z) a->RX A s a b r) (λa1 U h1 _ h3 _ hx=>?_) ha;refine lA hb (P:=λb=>Rd w s.heap (.tup ys) b->RX A s (.ref a1) b r) (λb1 us k1 _ k3 _ hy=>?_) hb;refine d9 (pa (f:=D.k8 n) h) λe he hr=>?_;have hr:((bx (min U.size us.size)).all e&&U.size==us.size)=r:=(ag (λp:Nat×Nat=>(bx (min p.1 p.2)).all e&&p.1==p.2) (congr (ag Prod.mk h3.length) k3.length)).symm.trans hr;have E:∀j,∀(j1:j<U.size)(j2:j<us.size),acr A.in1 s U[j] us[j] (e j):=λj j1 j2=>d9 (h3.get' (rF j1)) λx hx rx=>d9 (k3.get' (rF j2)) λy hy ry=>E (he j x y hx hy) rx ry;have q:RcAt A s (.ref a1) (.ref b1) r:=hr▸RcAt.tuples h1 k1 hn E;exact⟨q,uF (λe'=>ue (n+1) h hx (e'▸hy)) q,hr▸RcNeAt.tuples h1 k1 hn E⟩
  .rename_i Z ys;refine Am ha (P:=λa=>Rd w s.heap (.lst Z) a->RX A s a b r) (λa1 U h1 _ h3 hx=>?_) ha;refine Am hb (P:=λb=>Rd w s.heap (.lst ys) b->RX A s (.ref a1) b r) (λb1 us k1 _ k3 hy=>?_) hb;have q:RcAt A s (.ref a1) (.ref b1) r/\RcNeAt A s (.ref a1) (.ref b1) (!r):=B8 h h3.length k3.length (G:=λr=>RcAt A s (.ref a1) (.ref b1) r/\RcNeAt A s (.ref a1) (.ref b1) (!r)) (λe hz he=>have E:∀j,∀(j1:j<U.size)(j2:j<us.size),acr A.in1 s U[j] us[j] (e j):=λj j1 j2=>d9 (h3.get' (rF j1)) λx hx rx=>d9 (k3.get' (rF j2)) λy hy ry=>E (he j x y hx hy) rx ry;⟨RcAt.lists h1 k1 hz hn E,RcNeAt.lists h1 k1 hz hn E⟩) λhz=>⟨RcAt.lists_lengths h1 k1 hz hn,RcNeAt.lists_lengths h1 k1 hz hn⟩;exact⟨q.1,uF (λe'=>ue (n+1) h hx (e'▸hy)) q.1,q.2⟩
end
end
noncomputable def jT(w:bN):Nat->D->Int|_,.int i=>hashInt i|_,.str s=>hashStr w s|n+1,.tup Z=>ad4 (bI (Z.map (jT w n)))|_,_=>0
noncomputable def jI:Nat->D->Nat|n+1,.tup Z=>(Z.map (jI n)).sum+1|_,_=>1
theorem L7(h:fh w g Z U):∀v∈U,∃x∈Z,Rd w g x v:=h.ind (λ_ h=>kn h) λ{x _ _ _}a _ ih v b=>(ah.mp b).elim (λe=>i12 x (.head _) (e▸a)) λh=>d9 (ih v h) λy c r=>i12 y (.tail _ c) r
section
variable{w:bN}
theorem Mg{h:Heap}{l:ab al}:∀{Z ys:ab D},fh w h Z l->fh w h ys l->(∀x∈Z,∀y∈ys,∀v,Rd w h x v->Rd w h y v->x=y)->Z=ys:=by induction l with|nil=>exactλa b _=>AW (P:=λZ=>Z=_) a (AW (P:=λys=>[]=ys) b rfl)|cons v l ih=>intro Z ys a b;refine FI (P:=λZ=>(∀x∈Z,∀y∈ys,∀v,Rd w h x v->Rd w h y v->x=y)->Z=ys) a λx Z p q=>FI (P:=λys=>(∀c∈x::Z,∀y∈ys,∀v,Rd w h c v->Rd w h y v->c=y)->x::Z=ys) b λy ys g i f=>?_;exact acS.mpr ⟨f _ (.head _) _ (.head _) _ p g,ih q i λx d y e=>f x (.tail _ d) y (.tail _ e)⟩
theorem x6{P:D->Prop}(h:D.ku n k=true)(i:∀j,P (.int j))(s:∀t,P (.str t))(t:∀Z,(∃m,n=m+1/\∀x∈Z,D.ku m x=true)->P (.tup Z)):P k:=by
 induction n with
 |zero=>induction k using D.casesOn with|int j=>exact i j|str j=>exact s j|_=>exact fE h
 |succ m=>induction k using D.casesOn with|int j=>exact i j|str j=>exact s j|tup Z=>exact t Z (i12 m rfl (aA.mp h))|_=>exact fE h
theorem GI{P:Nat->D->Prop}(i:∀n j,P n (.int j))(s:∀n t,P n (.str t))(t:∀n Z,(∀x∈Z,D.ku n x=true)->(∀x∈Z,P n x)->P (n+1) (.tup Z))(n:Nat):∀{k:D},D.ku n k=true->P n k:=by induction n with|zero=>exactλh=>x6 h (i 0) (s 0) λ_ e=>d9 e λ_ e _=>ax e.symm (cu _)|succ n ih=>exactλh=>x6 h (i _) (s _) λZ e=>d9 e λm e b=>have b:=dJ e▸b;t n Z b λx h=>ih (b x h)
theorem LF{h:Heap}(n:Nat){x y:D}{v:al}(s:D.ku n x=true):D.ku n y=true->Rd w h x v->Rd w h y v->x=y:=GI (P:=λn x=>∀y v,D.ku n y=true->Rd w h x v->Rd w h y v->x=y) (λn i y v g d=>x6 (P:=λy=>Rd w h y v->.int i=y) g (λj c=>d.int_inv.elim λ_ e=>c.int_inv.elim λ_ f=>ag D.int (aew (e.symm.trans f)).1) (λ_ c=>tags d c rfl) λ_ _ c=>tags d c rfl) (λn i y v g d=>x6 (P:=λy=>Rd w h y v->.str i=y) g (λ_ c=>tags d c rfl) (λj c=>d.str_inv.elim λ_ e=>c.str_inv.elim λ_ f=>ag D.str (aei (e.symm.trans f)).1) λ_ _ c=>tags d c rfl) (λn Z _ ih y v g d=>x6 (P:=λy=>Rd w h y v->.tup Z=y) g (λ_ c=>tags d c rfl) (λ_ c=>tags d c rfl) λz e c=>d9 e λm e g=>CZ d.nr λa U k o _ p _=>CZ c.nr λb t l q _ r _=>ag D.tup (Mg p (xB o (abr (k.symm.trans l)▸q)▸r) λx d y c v=>ih x d y v (dJ e▸g y c))) n s y v
theorem se:∀{Z ys:ab D},(∀x∈Z,∀y∈ys,f x y=some (decide (x=y)))->eqvAll f Z ys=some (decide (Z=ys))|[],[],_=>(by rfl)|[],_::_,_=>(by rfl)|_::_,[],_=>(by rfl)|x::Z,y::ys,h=>by show(match f x y,eqvAll f Z ys with|some a,some b=>some (a&&b)|_,_=>none)=_;simp only[h x aF y aF,se (λa c b d=>h a (aD _ c) b (aD _ d))];by_cases e:x=y<;>simp[e]
theorem SD:D.k8 (m+1) (.int i) (.int j)=some (decide (D.int i=.int j)):=ag some (b6.mpr (by simp))
theorem TC:D.k8 (m+1) (.str i) (.str j)=some (decide (D.str i=.str j)):=ag some (b6.mpr (by simp))
theorem uG(h:D.k8 (m+1) x y=some false)(n:aal (vt x) (vt y)=false):D.k8 (m+1) x y=some (decide (x=y)):=h.trans (ag some (aw λe=>by rw[e,acW]at n;exact Ua n).symm)
theorem pv(n m:Nat)(g:D.ku n x=true)(b:D.ku n y=true)(c:n<m):D.k8 m x y=some (decide (x=y)):=GI (P:=λn x=>∀m y,D.ku n y=true->n<m->D.k8 m x y=some (decide (x=y))) (λn i m y b c=>nF (c4 (aao (aj (bB n) c))) λm e=>e▸x6 (P:=λy=>D.k8 (m+1) (.int i) y=some (decide (.int i=y))) b (λ_=>SD) (λ_=>uG rfl rfl) λ_ _=>uG rfl rfl) (λn i m y b c=>nF (c4 (aao (aj (bB n) c))) λm e=>e▸x6 (P:=λy=>D.k8 (m+1) (.str i) y=some (decide (.str i=y))) b (λ_=>uG rfl rfl) (λ_=>TC) λ_ _=>uG rfl rfl) (λn Z _ ih m y b c=>nF (c4 (aao (aj (bB _) c))) λm e=>e▸x6 (P:=λy=>D.k8 (m+1) (.tup Z) y=some (decide (.tup Z=y))) b (λ_=>uG rfl rfl) (λ_=>uG rfl rfl) λj q=>d9 q λk q b=>(se λx d y f=>ih x d m y (dJ q▸b y f) (Nat.lt_of_succ_lt_succ (Nat.lt_of_lt_of_eq c e))).trans (ag some (by simp))) n g m y b c
variable{A:bH}{E:al->aM->Prop}
theorem Hb:jT w n (.int i)=hashInt i:=by cases n<;>rfl
theorem FF:jT w n (.str i)=hashStr w i:=by cases n<;>rfl
theorem ID:jI n (.int i)=1:=by cases n<;>rfl
theorem Ft:jI n (.str i)=1:=by cases n<;>rfl
inductive Hk(w:bN)(s:aM)(n:Nat)(Z:ab D):ab al->dw Int->aM->Prop|mk(done left:ab D)(U:ab al)(b:dw Int)(e:Z=done++left)(hl:fh w s.heap left U)(hb:b.toList=done.map (jT w n)):Hk w s n Z U b {s with toks:=s.toks+(done.map (jI n)).sum}
theorem Hk.step{b:dw Int}(e:fh w s.heap c U)(hb:b.toList=done.map (jT w n)):Hk w s n (done++d::c) U (b.push (jT w n d)) {s with toks:=s.toks+(done.map (jI n)).sum+jI n d}:=by have k:=Hk.mk (w:=w) (s:=s) (n:=n) (Z:=done++d::c) (done++[d]) c U (b.push (jT w n d)) (ac3 ..) e (by simp[hb]);rw[aC,List.sum_append]at k;exact aas ..▸k
theorem yH(n:Nat)(z:D.ku n k=true)(g:Rd w s.heap k v)(G:A.units+n<abN)(h:Q (jT w n k) {s with toks:=s.toks+jI n k}):aR (aP pw w) A (pyHash v) Q E s:=by
 refine GI (P:=λn k=>∀(A:bH)(E:al->aM->Prop)(s:aM)(v:al)(Q:Int->aM->Prop),Rd w s.heap k v->A.units+n<abN->Q (jT w n k) {s with toks:=s.toks+jI n k}->aR (aP pw w) A (pyHash v) Q E s) ?_ ?_ ?_ n z A E s v Q g G h;.exactλn j A E s v Q g _ h=>i4 g λt=>ac5 (Hb (w:=w) (n:=n) (i:=j)▸ID (n:=n) (i:=j)▸h)
 .exactλn j A E s v Q g _ h=>jc g λt=>ac7 (FF (w:=w) (n:=n) (i:=j)▸Ft (n:=n) (i:=j)▸h)
 clear z g G h;intro n Z z ih A E s v Q g G h;refine lA g λa U q T J X=>q.elim λo q=>ph q λH L hd=>hd.elim λm hd=>?_;have p:s.TypeIs (.ref a) "tuple":=⟨o,H,L⟩;unfold pyHash;first|unfold pyHashByItsType|skip
 first|refine aB (wpAny_cRoomFor_or (.inr (by lia)) ?_)|skip
 refine aB (aa0 p aaE.lookup ?_);rw[aX (by rw[beq_builtin_none];exact cL)];refine aB (aa0 p aaE.lookup ?_);refine aB (wpAny_callSpecialIfBoundUnlessNone?_slot p aaE (aaN aaE p F.entry_tuple_hash ?_ (F.args_tuple_hash_1 _)));show aR _ _ (aa4 (.ref a)>>=_) _ _ s;refine aB (acu H hd ?_);refine aB ?_;refine sZ acz ?_;refine abD _ (Hk w s n Z) _ (λx l b O C=>?_) (λb O C=>?_) _ _ (.mk [] Z U.toList #[] rfl J rfl);.generalize r:x::l=I at C;clear h;induction C with|mk c f R b e B y=>refine FI (P:=λf=>Z=c++f->_) (r▸B) (λd f M N e=>?_) e;refine aB (ih d (e▸aN _ (.head _)) _ _ _ _ _ M (by show A.units+1+n<abN;lia) ?_);have st:Hk w s n Z l (b.push (jT w n d)) {s with toks:=s.toks+(c.map (jI n)).sum+jI n d}:=e▸Hk.step N y;first|exact aQ st|exact aB (aQ (aQ st))
 .generalize r:([]:ab al)=I at C;induction C with
  |mk c f R b e B y=>
   have e:Z=c:=AW (P:=λf=>Z=c++f->Z=c) (r▸B) (λe=>e.trans (aL _)) e;show aR _ _ (retInt (bI b.toList)) _ _ _;refine sY y ?_;refine wpAny_ret_mkInt ?_;show aR _ _ (if(decide (-(2:Int)^63<=bI (c.map (jT w n)))&&decide (bI (c.map (jT w n))<2^63))=true then _ else _) Q E _;have h:Q (ad4 (bI (c.map (jT w n)))) {s with toks:=s.toks+((c.map (jI n)).sum+1)}:=e▸h;unfold ad4 at h;by_cases g:(decide (-(2:Int)^63<=bI (c.map (jT w n)))&&decide (bI (c.map (jT w n))<2^63))=true;.rw[aS g];rw[aS g]at h;exact aQ h
   .rw[aX g];rw[aX g]at h;exact aB (wpAny_rule (aQ h))
theorem Dy(n m:Nat)(g:D.ku n k=true)(b:Rd w s.heap k v)(e:n<=m)(h:Q true s):aR (aP pw w) A (eqIsQuiet m v) Q E s:=by
 refine GI (P:=λn k=>∀m(A:bH)(E:al->aM->Prop)(s:aM)(v:al)(Q:bp->aM->Prop),Rd w s.heap k v->n<=m->Q true s->aR (aP pw w) A (eqIsQuiet m v) Q E s) ?_ ?_ ?_ n g m A E s v Q b e h;.exactλn j m A E s v Q b _ h=>i4 b λt=>by rw[acL _ rfl];exact aQ h
 .exactλn j m A E s v Q b _ h=>jc b λt=>by rw[acL _ rfl];exact aQ h
 clear g b e h;intro n Z g ih m A E s v Q b e h;refine lA b λa U f H z I=>f.elim λo f=>ph f λy B hd=>hd.elim λJ hd=>?_;obtain⟨m,rfl⟩:∃k,m=k+1:=⟨m-1,by lia⟩;have p:s.TypeIs (.ref a) "tuple":=⟨o,y,B⟩;clear b;unfold eqIsQuiet;refine aB (aa0 p F.slot_tuple_eq.lookup ?_);refine aB (wpAny_isInstance p isSubtype_tuple_tuple ?_);refine aB (wpAny_seqItems y hd ?_);refine aB ?_;refine sZ acz ?_;refine abD _ (λd r l=>r.1=none/\l=s/\∀v∈d,v∈U.toList) _ ?_ ?_ _ _ ⟨rfl,rfl,λ_ h=>h⟩;.rintro v d r l⟨b,rfl,c⟩;refine d9 (L7 z v (c v aF)) λx C q=>?_;refine aB (ih x C m _ _ _ _ _ q (Nat.le_of_succ_le_succ e) ?_);simp only[Bool.not_true,aba,aep];exact aQ ⟨rfl,rfl,λu i=>c u (aD _ i)⟩
 .rintro⟨G,L⟩l⟨b,rfl,_⟩;cases(show G=none from b);exact aQ h
theorem fh.N0(r:fh w h Z U)(f:∀x∈Z,∀v,Rd w h x v->Rd w h' x v):fh w h' Z U:=r.ind (P:=λZ U=>(∀x∈Z,∀v,Rd w h x v->Rd w h' x v)->fh w h' Z U) (λ_=>.nil) (λa _ ih f=>.cons (f _ (.head _) _ a) (ih λx h=>f x (.tail _ h))) f
theorem DE(s:h.get? d=some o)(hd:o.data=.dict es z)(hs:Heap.SameBut d h h')(n:Nat)(q:D.ku n k=true)(y:Rd w h k v):Rd w h' k v:=GI (P:=λ_ k=>∀v,Rd w h k v->Rd w h' k v) (λ_ j v r=>i4 r λt=>.int _ _) (λ_ j v r=>jc r λt=>.str _ _) (λn Z _ ih v r=>lA r λa U b i l p=>have f:a≠d:=λe=>b.elim λg b=>b.2.2.elim λm c=>nomatch c.symm.trans ((ag Obj.data (bR (b.1.symm.trans (e▸s)))).trans hd);.tup (b.imp λg=>cR (hs.2 a f).trans) i (l.N0 ih) (p.imp λg=>cR (hs.2 a f).trans)) n q v y
theorem ki(h:k.sort=some .t):D.ku 6 k=true:=by
 rcases k with⟨⟩<;>try(exact ec h;done)
 .exact ax (sI h) (by decide)
 .exact ax (sI h) (by decide)
 .exact if1 h λh _=>h
noncomputable def dK(w:bN):HeapKind pw w D where is:=λh k a=>k.sort=some .t/\Rd w h k (.ref a);hash:=jT w 6;draws:=jI 6;room:=λA=>A.units+20<abN;inj:=λc d=>LF 6 (ki c.1) (ki d.1) c.2 d.2;keeps:=λx e hd hs=>⟨x.1,DE e hd hs 6 (ki x.1) x.2⟩;pyHash:=λf b h=>yH 6 (ki b.1) b.2 (by lia) h;eqBool:=λf c d h=>(rE 7 (pv 6 7 (ki c.1) (ki d.1) (by lia)) c.2 d.2 (by lia)).2.1 _ _ _ _ h;quiet:=λb h=>Dy 6 8 (ki b.1) b.2 (by lia) h
end
structure Sx where
 g:Heap
 φ:ab b8
 H:Hp
 s:aM
noncomputable def Cell.BQ:Cell->bp|.lst _ .fz=>false|.eH _ true=>false|_=>true
noncomputable def Sx.mu(x:Sx)(b:b8):Prop:=∃(i:Nat)(c:Cell),x.H[i]?=some c/\c.BQ=true/\x.φ[i]?=some b
noncomputable abbrev Sx.sz(x:Sx):Nat:=x.s.heap.objs.size
inductive eC{α β:Type}(R:α->β->Prop):ab α->ab β->Prop|nil:eC R [] []|cons{a:α}{b:β}{as:ab α}{bs:ab β}:R a b->eC R as bs->eC R (a::as) (b::bs)
@[elab_as_elim]theorem eC.ind{e f:Type}{R:e->f->Prop}{P:ab e->ab f->Prop}{as:ab e}{d:ab f}(h:eC R as d)(n:P [] [])(c:∀{a b as d},R a b->eC R as d->P as d->P (a::as) (b::d)):P as d:=eC.rec (motive:=λas d _=>P as d) n (λr q ih=>c r q ih) h
noncomputable def LC{c d:Type}(R:c->d->Prop)(as:ab c)(b:ab d):Prop:=aW as (b=[]) λx Z=>∃v U,b=v::U/\R x v/\eC R Z U
theorem eC.inv{as:ab c}{b:ab d}(h:eC R as b):LC R as b:=h.ind rfl λa q _=>⟨_,_,rfl,a,q⟩
@[elab_as_elim]theorem AH{d c:Type}{R:d->c->Prop}{b:ab c}{P:ab c->Prop}(h:eC R [] b)(k:P []):P b:=(show b=[]from h.inv)▸k
@[elab_as_elim]theorem t7{f g:Type}{R:f->g->Prop}{a:f}{as:ab f}{c:ab g}{P:ab g->Prop}(h:eC R (a::as) c)(k:∀b c,R a b->eC R as c->P (b::c)):P c:=iE (show∃v d,c=v::d/\R a v/\eC R as d from h.inv) λv d e a q=>e▸k v d a q
theorem eC.length{as:ab c}{b:ab d}(h:eC R as b):as.length=b.length:=by induction h with|nil=>rfl|cons _ _ ih=>simp[ih]
theorem eC.mono{c:e->g->Prop}(f:∀a b,R a b->c a b)(h:eC R as d):eC c as d:=by induction h with|nil=>exact .nil|cons a _ ih=>exact .cons (f _ _ a) ih
theorem eC.append{cs:ab c}{B:ab d}(h:eC R as b)(k:eC R cs B):eC R (as++cs) (b++B):=by induction h with|nil=>exact k|cons a _ ih=>exact .cons a ih
section
variable(w:bN)
inductive Rv(x:Sx):V->al->Prop|d{a:D}{v:al}:Rd w x.g a v->Rv x (.d a) v|ref{i:Nat}{a:b8}:x.φ[i]?=some a->Rv x (.ref i) (.ref a)|ins{c i:Nat}{b dx:b8}:c∈jA->x.g.get? b=some (dB c dx)->x.φ[i]?=some dx->Rv x (.ins c i) (.ref b)
noncomputable def Mm(w:bN)(x:Sx)(v:V)(u:al):Prop:=V.casesOn v (λd=>Rd w x.g d u) (λi=>∃b,u=.ref b/\x.φ[i]?=some b) λc i=>∃b e,u=.ref b/\c∈jA/\x.g.get? b=some (dB c e)/\x.φ[i]?=some e
theorem Rv.inv{w:bN}(h:Rv w x v u):Mm w x v u:=Rv.casesOn (motive:=λv u _=>Mm w x v u) h (λr=>r) (λh=>⟨_,rfl,h⟩) λb c d=>⟨_,_,rfl,b,c,d⟩
theorem Rv.eU{w:bN}{x:Sx}{d:D}{u:al}(h:Rv w x (.d d) u):Rd w x.g d u:=h.inv
theorem Rv.Be{w:bN}(h:Rv w x (.ref i) u):∃b,u=.ref b/\x.φ[i]?=some b:=h.inv
@[elab_as_elim]theorem s9{w:bN}{x:Sx}{i:Nat}{u:al}{P:al->Prop}(h:Rv w x (.ref i) u)(k:∀b,x.φ[i]?=some b->P (.ref b)):P u:=d9 h.Be λb e h=>e▸k b h
noncomputable def nG(g:Heap)(p:D×D)(q:D×al):Prop:=p.1=q.1/\wy q.1=true/\Rd w g p.2 q.2
noncomputable def lH(g:Heap)(p:D×D)(q:D×b8×al):Prop:=p.1=q.1/\q.1.sort=some .t/\Rd w g q.1 (.ref q.2.1)/\Rd w g p.2 q.2.2
inductive fe(g h:Heap)(a:b8):ab (D×D)->Prop|nil{o:Obj}{ep:Nat}:h.get? a=some o->o.ExactDict->o.data=.dict #[] ep->fe g h a []|k{B:ab (D×D)}{l:ab (D×al)}:h.DictOf (sK w) a l->eC (nG w g) B l->fe g h a B|t{B:ab (D×D)}{l:ab (D×b8×al)}{o:Obj}{es:dw cN}{ep:Nat}:h.get? a=some o->o.ExactDict->o.data=.dict es ep->es.toList=l.map (entryOfKey (dK w))->(l.map (·.1)).Nodup->eC (lH w g) B l->fe g h a B
noncomputable def xb(x:Sx)(p:Nat×V)(e:cN):Prop:=∃nm t,e.key=.str nm t/\(nm,p.1)∈g6/\Rv w x p.2 e.val
noncomputable def fY(x:Sx)(a:b8):Cell->Prop
 |.lst Z m=>match m with|.fz=>∃U:dw al,x.g.PlainList a U/\U.size<=bf/\fh w x.g Z U.toList|_=>x.g.get? a=none/\∃U:dw al,x.s.heap.PlainList a U/\U.size<=bf/\fh w x.g Z U.toList
 |.eH B f=>(a==cM)=false/\B.length<=big/\match f with|true=>fe w x.g x.g a B|false=>x.g.get? a=none/\fe w x.g x.s.heap a B
 |.ins fs=>x.g.get? a=none/\fs.length<=100/\(fs.map (·.1)).Nodup/\∃es n,x.s.heap.get? a=some (abQ es n)/\eC (xb w x) fs es
structure Rel(x:Sx):Prop where
 sub:∀b o,x.g.get? b=some o->x.s.heap.get? b=some o
 top:fm w x.g
 len:x.φ.length=x.H.length
 cell:∀(i:Nat)(c:Cell)(a:b8),x.H[i]?=some c->x.φ[i]?=some a->fY w x a c
 inj:∀(i j:Nat)(a:b8),x.φ[i]?=some a->x.φ[j]?=some a->i=j
 gens:x.s.gens=#[]
end
noncomputable def refsOf:Cell->ab V|.ins fs=>fs.map (·.2)|_=>[]
structure Le(wm:Nat)(P:b8->Prop)(x y:Sx):Prop where
 gk:∀b o,x.g.get? b=some o->y.g.get? b=some o
 gn:∀b o,y.g.get? b=some o->x.g.get? b=none->x.mu b\/x.s.heap.get? b=none
 keep:∀b o,x.s.heap.get? b=some o->¬x.mu b->¬P b->y.s.heap.get? b=some o
 DL:∃ψ,y.φ=x.φ++ψ/\∀b∈ψ,x.s.heap.get? b=none
 mu:∀b,y.mu b->x.mu b\/x.s.heap.get? b=none
 refs:∀(i:Nat)(c:Cell),i<wm->y.H[i]?=some c->∃c',x.H[i]?=some c'/\∀v∈refsOf c,v.plain=true\/v∈refsOf c'
 live:∀b o,x.s.heap.get? b=some o->∃o',y.s.heap.get? b=some o'
 os:y.s.os=x.s.os
section
variable{w:bN}{x y z:Sx}{wm:Nat}{P:b8->Prop}
theorem Rv.mono(gk:∀b o,x.g.get? b=some o->y.g.get? b=some o)(c:∀(i:Nat)(a:b8),x.φ[i]?=some a->y.φ[i]?=some a)(h:Rv w x v u):Rv w y v u:=Rv.rec (motive:=λv u _=>Rv w y v u) (λr=>.d (r.keeps gk)) (λh=>.ref (c _ _ h)) (λm h k=>.ins m (gk _ _ h) (c _ _ k)) h
theorem Le.UA(h:Le wm P x y)(i:Nat)(a:b8)(e:x.φ[i]?=some a):y.φ[i]?=some a:=by refine d9 (h.DL) λc b _=>?_;rw[b,aT (aE.mp e).1];exact e
theorem Rv.le(h:Le wm P x y)(r:Rv w x v u):Rv w y v u:=r.mono h.gk h.UA
theorem Heap.DictOf.at{K:Type}[bA K]{R:KeyKind pw w K}{h h':Heap}{a:b8}{l:ab (K×al)}(d:h.DictOf R a l)(k:∀o,h.get? a=some o->h'.get? a=some o):h'.DictOf R a l:=d.imp λ_ h=>h.imp λ_ h=>h.imp λ_=>cR (k _)
theorem fe.keeps(gk:∀b o,g.get? b=some o->N.get? b=some o)(k:∀o,h.get? a=some o->h'.get? a=some o)(d:fe w g h a B):fe w N h' a B:=fe.casesOn (motive:=λB _=>fe w N h' a B) d (λc e f=>.nil (k _ c) e f) (λc e=>.k (Heap.DictOf.at c k) (e.mono λ_ _ q=>⟨q.1,q.2.1,q.2.2.keeps gk⟩)) λc e f i j l=>.t (k _ c) e f i j (l.mono λ_ _ q=>⟨q.1,q.2.1,q.2.2.1.keeps gk,q.2.2.2.keeps gk⟩)
theorem fe.exact(d:fe w g h a B):∃o,h.get? a=some o/\o.ExactDict:=fe.casesOn (motive:=λ_ _=>∃o,h.get? a=some o/\o.ExactDict) d (λb c _=>⟨_,b,c⟩) (λb _=>b.elim λo h=>h.elim λ_ h=>h.elim λ_ h=>⟨o,h.1,h.2.1⟩) λb c _ _ _ _=>⟨_,b,c⟩
theorem fY.keeps(gk:∀b o,x.g.get? b=some o->y.g.get? b=some o)(p:∀(i:Nat)(a:b8),x.φ[i]?=some a->y.φ[i]?=some a)(gn:x.g.get? a=none->c.BQ=true->y.g.get? a=none)(k:c.BQ=true->∀o,x.s.heap.get? a=some o->y.s.heap.get? a=some o)(h:fY w x a c):fY w y a c:=by
 induction c using Cell.casesOn with
 |lst Z m=>induction m using Mode.casesOn with|fz=>exact j6 h λU j l d=>PA U (j.at λo e=>gk _ _ e) l (d.keeps gk)|own=>exact⟨gn h.1 rfl,j6 h.2 λU j l d=>PA U (j.at (k rfl)) l (d.keeps gk)⟩|sh=>exact⟨gn h.1 rfl,j6 h.2 λU j l d=>PA U (j.at (k rfl)) l (d.keeps gk)⟩
 |eH B f=>induction f using a5 with|true=>exact⟨h.1,h.2.1,fe.keeps gk (λo e=>gk _ _ e) h.2.2⟩|false=>exact⟨h.1,h.2.1,gn h.2.2.1 rfl,fe.keeps gk (k rfl) h.2.2.2⟩
 |ins A=>exact⟨gn h.1 rfl,h.2.1,h.2.2.1,ml h.2.2.2 λq n d r=>xx q n (k rfl _ d) (r.mono λ_ _ e=>iE e λnm t a b c=>Dd nm t a b (c.mono gk p))⟩
theorem Rel.live(R:Rel w x){i:Nat}(h:x.φ[i]?=some a):∃o,x.s.heap.get? a=some o:=by
 have e:i<x.H.length:=R.len▸(aE.mp h).1;have c:=R.cell i x.H[i] a (au e) h;generalize x.H[i]=d at c;induction d using Cell.casesOn with
 |lst Z m=>induction m using Mode.casesOn with|fz=>exact nF c λU c=>lJ c λb _=>nF b λn b=>⟨_,R.sub _ _ b⟩|own=>exact nF c.2 λU c=>lJ c λb _=>nF b λn b=>⟨_,b⟩|sh=>exact nF c.2 λU c=>lJ c λb _=>nF b λn b=>⟨_,b⟩
 |eH B f=>induction f using a5 with|true=>exact d9 (fe.exact c.2.2) λo h _=>⟨o,R.sub _ _ h⟩|false=>exact d9 (fe.exact c.2.2.2) λo h _=>⟨o,h⟩
 |ins j=>exact ml c.2.2.2 λg n h _=>⟨_,h⟩
theorem fY.data(h:fY w x a c)(m:¬c.BQ=true):∃o,x.g.get? a=some o:=by
 induction c using Cell.casesOn with
 |lst Z f=>induction f using Mode.casesOn with|fz=>exact nF h λU c=>lJ c λb _=>nF b λn b=>⟨_,b⟩|_=>exact ax rfl m
 |eH B f=>induction f using a5 with|true=>exact d9 (fe.exact h.2.2) λo h _=>⟨o,h⟩|false=>exact ax rfl m
 |ins d=>exact ax rfl m
theorem Rel.DZ(R:Rel w x)(h:x.mu b):x.g.get? b=none:=by
 refine iE (h) λi c d e j=>?_;have k:=R.cell i c b d j;clear d;induction c using Cell.casesOn with
 |lst Z m=>induction m using Mode.casesOn with|fz=>exact fE e|own=>exact k.1|sh=>exact k.1
 |eH B f=>induction f using a5 with|true=>exact fE e|false=>exact k.2.2.1
 |ins l=>exact k.1
theorem Le.refl:Le wm P x x where
 gk:=λ_ _ e=>e;gn:=λ_ _ e n=>by rw[n]at e;exact ec e
 keep:=λ_ _ e _ _=>e;DL:=⟨[],by simp,λ_ h=>by exact kn h⟩;mu:=λ_ h=>.inl h;refs:=λi c _ h=>⟨c,h,λv b=>.inr b⟩;live:=λ_ o e=>⟨o,e⟩;os:=rfl
theorem Le.fresh(a:Le wm P x y)(h:y.s.heap.get? b=none):x.s.heap.get? b=none:=by cases e:x.s.heap.get? b with|none=>rfl|some o=>obtain⟨d,c⟩:=a.live b o e;rw[h]at c;exact ec c
theorem Le.trans(a:Le wm P x y)(b:Le wm P y z):Le wm P x z where
 gk:=λc o e=>b.gk _ _ (a.gk _ _ e);gn:=λc o e n=>by
  cases h:y.g.get? c with
  |some m=>exact a.gn c m h n|none=>
   rcases b.gn c o e h with q|q;.exact a.mu c q
   .exact .inr (a.fresh q)
 keep:=λc o e n p=>b.keep c o (a.keep c o e n p) (λq=>by
  rcases a.mu c q with q|q;.exact n q
  .rw[q]at e;exact ec e) p;DL:=by
  refine d9 (a.DL) λC f j=>?_;refine d9 (b.DL) λr k l=>?_;refine i12 (C++r) (by rw[k,f,bz]) (λc hc=>?_);rcases aJ.mp hc with hc|hc;.exact j c hc
  .exact a.fresh (l c hc)
 mu:=λc h=>by
  rcases b.mu c h with q|q;.exact a.mu c q
  .exact .inr (a.fresh q)
 refs:=λi c s h=>by
  refine d9 (b.refs i c s h) λt f j=>?_;refine d9 (a.refs i t s f) λd k l=>?_;refine i12 d k (λv B=>?_);rcases j v B with q|q;.exact .inl q
  .exact l v q
 live:=λc o e=>let⟨m,A⟩:=a.live c o e;b.live c m A;os:=b.os.trans a.os
theorem Le.weak(h:Le wm P x y)(p:∀b,P b->c b):Le wm c x y:=⟨h.gk,h.gn,λb o e n q=>h.keep b o e n λz=>q (p _ z),h.DL,h.mu,h.refs,h.live,h.os⟩
noncomputable def part(h:Heap)(P:b8->Prop):Heap:=open Classical in⟨h.objs.mapIdx λi o=>if P i then o else{cls:=.none,data:=.freed},h.life⟩
theorem oJ:(part h P).get? a=some o↔h.get? a=some o/\P a:=by
 rw[Heap.get?_some_iff,Heap.get?_some_iff];rw[part,Array.getElem?_mapIdx,cw];constructor;.
  rintro⟨⟨f,d,b⟩,c⟩;by_cases e:P a;.rw[aS e]at b;subst b;exact⟨⟨d,c⟩,e⟩
  .rw[aX e]at b;subst b;exact Ua c
 .rintro⟨⟨d,b⟩,c⟩;exact⟨⟨o,d,aS c⟩,b⟩
noncomputable def kh(h g:Heap)(as:ab b8):Heap:=part h λb=>(g.get? b).isSome=true\/b∈as
theorem oI:∀b o,(kh h g as).get? b=some o->h.get? b=some o:=λ_ _ e=>(oJ.mp e).1
theorem i0(k:∀b o,g.get? b=some o->h.get? b=some o):∀b o,g.get? b=some o->(kh h g as).get? b=some o:=λb o e=>oJ.mpr ⟨k _ _ e,.inl (by rw[e];rfl)⟩
theorem jE(m:a∈as)(e:h.get? a=some o):(kh h g as).get? a=some o:=oJ.mpr ⟨e,.inr m⟩
theorem gH(e:(kh h g as).get? b=some o)(n:g.get? b=none):b∈as:=by
 rcases(oJ.mp e).2with q|q;.rw[n]at q;exact fE q
 .exact q
noncomputable def Sx.grow(x:Sx)(s':aM)(as:ab b8):Sx:=⟨kh s'.heap x.g as,x.φ,x.H,s'⟩
theorem iC(R:Rel w x)(k:∀b o,x.s.heap.get? b=some o->s'.heap.get? b=some o)(p:s'.gens=#[])(q:s'.os=x.s.os)(l:∀a∈as,x.s.heap.get? a=none):Rel w (x.grow s' as)/\Le wm P x (x.grow s' as):=by
 have d:∀b o,x.g.get? b=some o->(kh s'.heap x.g as).get? b=some o:=i0 λb o e=>k _ _ (R.sub _ _ e);refine⟨⟨oI,R.top.keeps d,R.len,λi c a m j=>?_,R.inj,p⟩,⟨d,?_,λb o e _ _=>k _ _ e,⟨[],((aL _).symm),λ_ h=>by exact kn h⟩,λb h=>.inl h,λi c _ h=>⟨c,h,λv r=>.inr r⟩,λb o e=>⟨o,k _ _ e⟩,q⟩⟩;.refine fY.keeps (x:=x) (y:=x.grow s' as) d (λ_ _ e=>e) (λn _=>?_) (λ_ o e=>k _ _ e) (R.cell i c a m j);cases e:(kh s'.heap x.g as).get? a with|none=>exact e|some o=>obtain⟨t,f⟩:=R.live j;rw[l _ (gH e n)]at f;exact ec f
 .intro b o e n;exact .inr (l _ (gH e n))
theorem jO{b:Type}{l:ab b}{c d:b}(h:(l.set i c)[j]?=some d):(i=j/\c=d)\/(i≠j/\l[j]?=some d):=by
 rw[List.getElem?_set]at h;by_cases e:i=j;.rw[aS e]at h;exact if1 h λ_ h=>.inl ⟨e,sI h⟩
 .rw[aX e]at h;exact .inr ⟨e,h⟩
noncomputable def Sx.put(x:Sx)(s':aM)(as:ab b8)(i:Nat)(c:Cell):Sx:=⟨kh s'.heap x.g as,x.φ,x.H.set i c,s'⟩
theorem ER(R:Rel w x)(B:x.H[i]?=some f)(C:f.BQ=true)(t:x.φ[i]?=some a)(k:∀b o,b≠a->x.s.heap.get? b=some o->s'.heap.get? b=some o)(N:∃o,s'.heap.get? a=some o)(M:s'.gens=#[])(O:s'.os=x.s.os)(L:∀b∈as,x.s.heap.get? b=none\/(b=a/\c.BQ=false))(Q:∀v∈refsOf c,v.plain=true\/v∈refsOf f\/wm<=i)(J:fY w (x.put s' as i c) a c):Rel w (x.put s' as i c)/\Le wm P x (x.put s' as i c):=by
 have p:∀b o,x.g.get? b=some o->(kh s'.heap x.g as).get? b=some o:=i0 (λb o e=>k b o (by rintro rfl;rw[(R.DZ ⟨i,f,B,C,t⟩)]at e;exact ec e) (R.sub _ _ e));refine⟨⟨oI,R.top.keeps p,by simp[Sx.put,R.len],λj d b l r=>?_,R.inj,M⟩,⟨p,?_,λb o e n _=>k _ _ (λh=>n ⟨i,f,B,C,(sY h t)⟩) e,⟨[],by simp[Sx.put],λ_ h=>by exact kn h⟩,?_,?_,λb o e=>?_,O⟩⟩;.
  rcases jO l with⟨rfl,rfl⟩|⟨m,l⟩;.obtain rfl:b=a:=bR (r.symm.trans t);exact J
  .have A:b≠a:=λe=>m (R.inj _ _ _ t ((sZ e r)));refine fY.keeps (x:=x) (y:=x.put s' as i c) p (λ_ _ e=>e) (λn _=>?_) (λ_ o e=>k _ _ A e) (R.cell j d b l r);cases e:(kh s'.heap x.g as).get? b with
   |none=>exact e|some o=>
    rcases L _ (gH e n)with q|q;.obtain⟨U,G⟩:=R.live r;rw[q]at G;exact ec G
    .exact ax q.1 A
 .intro b o e n;rcases L _ (gH e n)with q|⟨rfl,_⟩;.exact .inr q
  .exact .inl ⟨i,f,B,C,t⟩
 .rintro b⟨j,d,l,r,I⟩;rcases jO l with⟨rfl,rfl⟩|⟨m,l⟩;.exact .inl ⟨_,f,B,C,I⟩
  .exact .inl ⟨j,d,l,r,I⟩
 .intro j d T l;rcases jO l with⟨rfl,rfl⟩|⟨m,l⟩;.
   refine i12 f B (λv E=>?_);rcases Q v E with q|q|q;.exact .inl q
   .exact .inr q
   .lia
  .exact i12 d l (λv E=>.inr E)
 .by_cases h:b=a;.clear t J;refine sY h ?_;exact N
  .exact⟨o,k _ _ h e⟩
noncomputable def Sx.add(x:Sx)(s':aM)(as:ab b8)(a:b8)(c:Cell):Sx:=⟨kh s'.heap x.g as,x.φ++[a],x.H++[c],s'⟩
theorem E9(R:Rel w x)(Z:wm<=x.H.length)(k:∀b o,x.s.heap.get? b=some o->s'.heap.get? b=some o)(T:s'.gens=#[])(X:s'.os=x.s.os)(I:∀b∈as,x.s.heap.get? b=none)(C:x.s.heap.get? a=none)(Q:fY w (x.add s' as a c) a c):Rel w (x.add s' as a c)/\Le wm P x (x.add s' as a c):=by
 have t:∀b o,x.g.get? b=some o->(kh s'.heap x.g as).get? b=some o:=i0 λb o e=>k _ _ (R.sub _ _ e);have G:∀(i:Nat)(b:b8),x.φ[i]?=some b->(x.φ++[a])[i]?=some b:=λi b e=>by rw[aT (aE.mp e).1];exact e
 have f:∀{E:Type}{l:ab E}{c d:E}{i:Nat},(l++[c])[i]?=some d->l[i]?=some d\/(i=l.length/\c=d):=by
  intro E l c d i h;refine or3 (aaC i l.length) (λq=>?_) (λq=>?_) λq=>?_;.rw[aT q]at h;exact .inl h
  .subst q;simp at h;exact .inr ⟨rfl,h⟩
  .rw[b9 (by simp;lia)]at h;exact ec h
 refine⟨⟨oI,R.top.keeps t,by simp[Sx.add,R.len],λj d b m p=>?_,?_,T⟩,⟨t,?_,λb o e _ _=>k _ _ e,⟨[a],rfl,λb h=>by simp at h;rw[h];exact C⟩,?_,?_,λb o e=>⟨o,k _ _ e⟩,X⟩⟩;.
  rcases f m with m|⟨rfl,rfl⟩;.
   have U:j<x.φ.length:=R.len▸(aE.mp m).1;have A:x.φ[j]?=some b:=by
    rcases f p with q|⟨q,_⟩;.exact q
    .lia
   refine fY.keeps (x:=x) (y:=x.add s' as a c) t G (λn _=>?_) (λ_ o e=>k _ _ e) (R.cell j d b m A);cases e:(kh s'.heap x.g as).get? b with|none=>exact e|some o=>obtain⟨J,r⟩:=R.live A;rw[I _ (gH e n)]at r;exact ec r
  .rcases f p with q|⟨_,rfl⟩;.have:=(aE.mp q).1;rw[R.len]at this;lia
   .exact Q
 .intro i j b m p;rcases f m with m|⟨L,N⟩<;>rcases f p with p|⟨M,O⟩;.exact R.inj _ _ _ m p
  .obtain⟨J,r⟩:=R.live m;rw[←O,C]at r;exact ec r
  .obtain⟨J,r⟩:=R.live p;rw[←N,C]at r;exact ec r
  .exact L.trans M.symm
 .intro b o e n;exact .inr (I _ (gH e n))
 .rintro b⟨j,d,m,p,B⟩;rcases f B with B|⟨rfl,rfl⟩;.
   rcases f m with m|⟨rfl,rfl⟩;.exact .inl ⟨j,d,m,p,B⟩
   .have:=(aE.mp B).1;rw[R.len]at this;lia
  .exact .inr C
 .intro j d U m;rcases f m with m|⟨rfl,rfl⟩;.exact i12 d m (λv Y=>.inr Y)
  .omega
noncomputable def Sx.cut(x:Sx)(n:Nat):Sx:=⟨x.g,x.φ.take n,x.H.take n,x.s⟩
theorem Hi{as:ab f}{c:ab g}(h:eC R as c):∀a∈as,∃b∈c,R a b:=h.ind (λ_ h=>kn h) λ{_ b _ _}p _ ih a h=>(ah.mp h).elim (λe=>i12 b (.head _) (e▸p)) λh=>d9 (ih a h) λy d r=>i12 y (.tail _ d) r
theorem eC.rK{as:ab e}{c:ab g}(f:∀a∈as,∀b,R a b->d a b)(h:eC R as c):eC d as c:=by induction h with|nil=>exact .nil|cons a _ ih=>exact .cons (f _ aF _ a) (ih λa h=>f a (aD _ h))
theorem DT(R:Rel w x)(S:Rel w y)(L:Le x.H.length P x y)(hw:wm<=x.H.length):Rel w (y.cut x.H.length)/\Le wm P x (y.cut x.H.length)/\(∀(v:V)(u:al),v.plain=true->Rv w y v u->Rv w (y.cut x.H.length) v u):=by
 refine(let γ:Prop:=_;(?_:γ));refine d9 (L.DL) λψ X hf=>?_;have A:y.φ.take x.H.length=x.φ:=by rw[X,←R.len];simp
 have k:∀{i:Nat}{b:b8},(y.cut x.H.length).φ[i]?=some b->y.φ[i]?=some b:=by intro i b e;rw[show(y.cut x.H.length).φ=x.φ from A]at e;exact L.UA _ _ e
 have g:∀{i:Nat}{c:Cell},(y.H.take x.H.length)[i]?=some c->i<x.H.length/\y.H[i]?=some c:=by
  intro i c e;have p:i<x.H.length:=by have:=(aE.mp e).1;simp at this;lia
  exact⟨p,by rw[abb,aS p]at e;exact e⟩
 refine⟨⟨S.sub,S.top,?_,?_,λi j a o s=>S.inj i j a (k o) (k s),S.gens⟩,⟨L.gk,L.gn,L.keep,⟨[],by simpa[Sx.cut]using A,λ_ h=>by exact kn h⟩,?_,?_,L.live,L.os⟩,?_⟩;.show(y.φ.take _).length=(y.H.take _).length;simp[S.len]
 .intro i c a o s;obtain⟨p,o⟩:=g o;have C:=S.cell i c a o (k s);induction c using Cell.casesOn with
  |lst Z m=>rcases m with⟨⟩<;>exact C|eH B f=>rcases f with⟨⟩<;>exact C|ins fs=>
   obtain⟨h0,J,M,es,n,N,h4⟩:=C;refine⟨h0,J,M,es,n,N,h4.rK ?_⟩;rintro⟨at_,v⟩Q e⟨nm,t,k1,k2,Y⟩;refine⟨nm,t,k1,k2,?_⟩;refine d9 (L.refs i _ p o) λc' e1 e2=>?_;have E:∀j,(v=.ref j\/∃I,v=.ins I j)->j<x.H.length:=by
    intro j U;rcases e2 v (af.mpr ⟨_,Q,rfl⟩)with q|q;.rw[(show v.plain=false from by rcases U with rfl|⟨I,rfl⟩<;>rfl)]at q;exact fE q
    .clear Q k2 e2;refine nF (show∃b,x.φ[i]?=some b from⟨x.φ[i]'((sY R.len p)),au _⟩) λb O=>?_;have C':=R.cell i c' b e1 O;induction c' using Cell.casesOn with
     |lst _ _=>simp[refsOf]at q|eH _ _=>simp[refsOf]at q|ins k!=>
      obtain⟨_,_,_,es',n',_,q4⟩:=C';obtain⟨⟨at',v'⟩,T,rfl⟩:=af.mp q;obtain⟨e',_,UQ,t',_,_,G⟩:=Hi q4 _ T;dsimp only at G U;generalize e'.val=u' at G;refine sZ R.len ?_;rcases U with rfl|⟨I,rfl⟩;.cases G with|ref q6=>exact(aE.mp q6).1
      .cases G with|ins _ _ q6=>exact(aE.mp q6).1
   dsimp only at Y⊢;generalize e.val=u at Y;have l:∀{j:Nat}{b:b8},j<x.H.length->y.φ[j]?=some b->(y.cut x.H.length).φ[j]?=some b:=by intro j b hj O;show(y.φ.take _)[j]?=_;rw[abb,aS hj];exact O
   clear Q;induction Y with|d r=>exact .d r|ref r=>exact .ref (l (E _ (.inl rfl)) r)|ins m r r'=>exact .ins m r (l (E _ (.inr ⟨_,rfl⟩)) r')
 .rintro b⟨i,c,o,s,N⟩;exact L.mu b ⟨i,c,(g o).2,s,k N⟩
 .intro i c p o;exact L.refs i c (bZ p hw) (g o).2
 .intro v u hp r;induction r with|d r=>exact .d r|ref _=>exact fE hp|ins _ _ _=>exact fE hp
end
section
variable{w:bN}{x y z:Sx}{wm:Nat}{P:b8->Prop}
theorem He{b:Type}{es:dw b}{l:ab b}(h:es.toList=l)(e:l.length=0):es=#[]:=Array.toList_inj.mp (h.trans (aaO e))
noncomputable def MF(h:Heap)(a:b8):Prop:=∃o b,h.get? a=some o/\o.ExactDict/\o.data=.dict #[] b
theorem DictOf.of_empty{K:Type}[bA K]{R:KeyKind pw w K}{h:Heap}{a:b8}{o:Obj}{b:Nat}(c:h.get? a=some o)(d:o.ExactDict)(e:o.data=.dict #[] b):h.DictOf R a []:=⟨o,#[],b,c,d,e,λ_ f=>ax f (Array.not_mem_empty _),Pairs.nil,aca⟩
theorem MF.K(d:MF h a):∃l,h.DictOf (sK w) a l/\eC (nG w g) [] l:=iE d λ_ _ b c e=>i12 [] (DictOf.of_empty b c e) .nil
theorem MF.T(d:MF h a):∃l,h.DictOfH (dK w) a l/\eC (lH w g) [] l:=iE d λo b c e f=>i12 [] ⟨o,#[],b,c,e,f,rfl,λ_ i=>kn i,aca⟩ .nil
theorem DictOf.emp(d:h.DictOf (sK w) a []):MF h a:=SH d λo e b ho hc hd _ c _=>jQ o b ⟨ho,hc,hd.trans (ag (Data.dict · b) (He rfl c.length))⟩
noncomputable def UL(k:rl):Nat:=rl.casesOn k 0 1 2
theorem m7(h:eg q (p::B)=true):p.1.sort=some q:=aU (bY.mp h).1
theorem Pu{G:Prop}(h:wy k=true)(e:k.sort=some .t):G:=Jg (P:=λk=>k.sort=some .t->G) h (λ_ e=>xo UL e rfl) (λ_ e=>xo UL e rfl) e
theorem qj.no(h:eC (nG w g) B l)(q:eg .t B=true){M:ab (D×D)->ab (D×al)->Prop}(n:M [] []):M B l:=h.ind (P:=λB l=>eg .t B=true->M B l) (λ_=>n) (λe _ _ q=>Pu e.2.1 (e.1▸m7 q)) q
theorem G9.no(h:eC (lH w g) B l)(q:(eg .i B||eg .s B)=true){M:ab (D×D)->ab (D×b8×al)->Prop}(n:M [] []):M B l:=h.ind (P:=λB l=>(eg .i B||eg .s B)=true->M B l) (λ_=>n) (λe _ _ q=>(du.mp q).elim (λq=>xo UL ((m7 q).symm.trans (e.1▸e.2.1)) rfl) λq=>xo UL ((m7 q).symm.trans (e.1▸e.2.1)) rfl) q
theorem G9.is(gh:∀b o,g.get? b=some o->h.get? b=some o)(q:eC (lH w g) B l):∀b∈l,(dK w).is h b.1 b.2.1:=q.ind (λ_ h=>kn h) λe _ ih=>bC.mpr ⟨⟨e.2.1,e.2.2.1.keeps gh⟩,ih⟩
theorem fe.QF(q:(eg .i B||eg .s B)=true)(d:fe w g h a B):∃l,h.DictOf (sK w) a l/\eC (nG w g) B l:=fe.casesOn (motive:=λB _=>(eg .i B||eg .s B)=true->∃l,h.DictOf (sK w) a l/\eC (nG w g) B l) d (λb c e _=>MF.K (jQ _ _ ⟨b,c,e⟩)) (λb c _=>i12 _ b c) (λ{B l o k j}b c e f _ m q=>G9.no m q (M:=λB l=>k.toList=l.map (entryOfKey (dK w))->∃l,h.DictOf (sK w) a l/\eC (nG w g) B l) (λf=>MF.K (jQ o j ⟨b,c,e.trans (ag (Data.dict · j) (He f rfl))⟩)) f) q
theorem fe.TR(q:eg .t B=true)(gh:∀b o,g.get? b=some o->h.get? b=some o)(d:fe w g h a B):∃l,h.DictOfH (dK w) a l/\eC (lH w g) B l:=fe.casesOn (motive:=λB _=>eg .t B=true->∃l,h.DictOfH (dK w) a l/\eC (lH w g) B l) d (λc e f _=>MF.T (jQ _ _ ⟨c,e,f⟩)) (λc e q=>qj.no e q (M:=λB l=>h.DictOf (sK w) a l->∃l,h.DictOfH (dK w) a l/\eC (lH w g) B l) (λc=>(DictOf.emp c).T) c) (λc e f j k i _=>i12 _ ⟨_,_,_,c,e,f,j,G9.is gh i,k⟩ i) q
theorem fe.zj(d:h.DictOfH (dK w) a l)(e:eC (lH w g) B l):fe w g h a B:=SH d λ_ _ _ b c f i _ j=>.t b c f i j e
theorem qj.keys(h:eC (nG w g) B l):l.map (·.1)=B.map (·.1):=h.ind rfl λe _ r=>acS.mpr ⟨e.1.symm,r⟩
theorem qj.sc(h:eC (nG w g) B l):∀p∈l,wy p.1=true:=h.ind (λ_ h=>kn h) λe _ r=>bC.mpr ⟨e.2.1,r⟩
theorem qj.IV(h:eC (nG w g) B l):fh w g (B.map (·.2)) (l.map (·.2)):=h.ind .nil λe _ r=>.cons e.2.2 r
theorem kU:big<=bf:=by rw[dr];decide
theorem fe.rd(d:fe w g g a B)(q:(eg .i B||eg .s B)=true)(e:(a==cM)=false)(f:B.length<=big):Rd w g (.eH (B.map (·.1)) (B.map (·.2))) (.ref a):=d9 (d.QF q) λ_ c b=>qj.keys b▸.eH c e (b.length▸ar f kU) (qj.sc b) (qj.IV b)
theorem o9{G:Prop}(h:(k.sort.any λq=>eg q B)=true)(b:wy k=true->(eg .i B||eg .s B)=true->G)(c:k.sort=some .t->eg .t B=true->G):G:=by induction k using D.casesOn with|int i=>exact b rfl (du.mpr (.inl h))|str s=>exact b rfl (du.mpr (.inr h))|tup Z=>exact if e:D.ku 6 (.tup Z)=true then c (aS e) ((ag (ahI λq=>eg q B) (aS e)).symm.trans h)else fE ((ag (ahI λq=>eg q B) (aX e)).symm.trans h)|_=>exact fE h
theorem oS{G:al->Prop}(h:k.sort=some .t)(r:Rd w g k u)(f:∀b,Rd w g k (.ref b)->G (.ref b)):G u:=by induction k using D.casesOn with|int i=>exact Pu rfl h|str s=>exact Pu rfl h|tup Z=>exact lA (P:=λu=>Rd w g (.tup Z) u->G u) r (λa _ _ _ _ _ r=>f a r) r|_=>exact ec h
theorem Ab(h:wy p=true)(q:wy k=true):D.eqv p k=some (decide (p=k)):=pv 6 60 (Jg (P:=λp=>D.ku 6 p=true) h (λ_=>rfl) λ_=>rfl) (Jg (P:=λp=>D.ku 6 p=true) q (λ_=>rfl) λ_=>rfl) (by decide)
theorem sJ{b:Type}{l:ab b}{c:b}(h:l[i]?=some c):l.set i c=l:=nF (aE.mp h) λd e=>e▸List.set_getElem_self d
noncomputable def Fz(w:bN)(wm:Nat)(P:b8->Prop)(x:Sx)(b:Hp)(K:Sx->Prop):Prop:=∃y,y.s=x.s/\Rel w y/\Le wm P x y/\y.H=b/\K y
theorem Fz.id(R:Rel w x){K:Sx->Prop}(k:K x):Fz w wm P x x.H K:=⟨x,rfl,R,.refl,rfl,k⟩
theorem Fz.imp{K:Sx->Prop}(h:Fz w wm P x b K)(f:∀y,K y->c y):Fz w wm P x b c:=Rp h λy d e g i j=>⟨y,d,e,g,i,f y j⟩
noncomputable def J'(w:bN)(a:b8)(Z:ab D)(y:Sx):Prop:=∃U:dw al,y.g.PlainList a U/\U.size<=bf/\fh w y.g Z U.toList
noncomputable def Oz(w:bN)(a:b8)(B:ab (D×D))(y:Sx):Prop:=(a==cM)=false/\B.length<=big/\fe w y.g y.g a B
theorem DY(R:Rel w x){K:Sx->Prop}(l:x.H[i]?=some d)(m:d.BQ=true)(f:x.φ[i]?=some a)(n:c.BQ=false)(o:refsOf c=[])(j:fY w (x.put x.s [a] i c) a c)(k:K (x.put x.s [a] i c)):Fz w wm P x (x.H.set i c) K:=lJ (ER (P:=P) (wm:=wm) (c:=c) (as:=[a]) R l m f (λ_ _ _ e=>e) (R.live f) R.gens rfl (λb g=>.inr ⟨kB g,n⟩) (λv r=>kn (eL o.symm r)) j) λp q=>⟨x.put x.s [a] i c,rfl,p,q,rfl,k⟩
theorem zm(R:Rel w x)(c:x.H[i]?=some (.lst Z m))(d:x.φ[i]?=some a):Fz w wm P x (x.H.set i (.lst Z .fz)) (J' w a Z):=by have C:=R.cell i _ a c d;have go:(Cell.lst Z m).BQ=true->x.g.get? a=none/\(∃U:dw al,x.s.heap.PlainList a U/\U.size<=bf/\fh w x.g Z U.toList)->Fz w wm P x (x.H.set i (.lst Z .fz)) (J' w a Z):=λj h=>j6 h.2 λU b e f=>have k:J' w a Z (x.put x.s [a] i (.lst Z .fz)):=PA U (b.imp λ_ b=>jE (.head _) b) e (f.keeps (i0 R.sub));DY R c j d rfl rfl k k;induction m using Mode.casesOn with|fz=>exact sY (P:=λH=>Fz w wm P x H (J' w a Z)) (sJ c) (Fz.id R C)|own=>exact go rfl C|sh=>exact go rfl C
theorem O6(R:Rel w x)(b:x.H[i]?=some (.eH B f))(c:x.φ[i]?=some a):Fz w wm P x (x.H.set i (.eH B true)) (Oz w a B):=by have C:=R.cell i _ a b c;induction f using a5 with|true=>exact sY (P:=λH=>Fz w wm P x H (Oz w a B)) (sJ b) (Fz.id R C)|false=>have k:Oz w a B (x.put x.s [a] i (.eH B true)):=⟨C.1,C.2.1,fe.keeps (i0 R.sub) (λo e=>jE (.head _) e) C.2.2.2⟩;exact DY R b rfl c rfl rfl k k
@[elab_as_elim]theorem jW{P:ae Cell->Prop}(o:ae Cell)(n:P none)(l:∀Z m,P (some (.lst Z m)))(d:∀B f,P (some (.eH B f)))(i:∀fs,P (some (.ins fs))):P o:=b5 o n λc=>Cell.casesOn (motive:=λc=>P (some c)) c l d i
noncomputable def RH(i:Nat)(H:Hp):ae Cell->ae (D×Hp)|some (.lst Z _)=>some (.lst Z,H.set i (.lst Z .fz))|some (.eH B _)=>if eg .i B||eg .s B then some (.eH (B.map (·.1)) (B.map (·.2)),H.set i (.eH B true))else none|_=>none
noncomputable def Mr(i:Nat)(H:Hp):ae Cell->ae (V×Hp)|some (.lst Z .own)=>some (.d (.lst Z),H.set i (.lst Z .fz))|some (.lst Z .fz)=>some (.d (.lst Z),H)|some (.lst _ .sh)=>some (.ref i,H)|some (.eH _ _)=>some (.ref i,H)|_=>none
noncomputable def Lc(i:Nat)(H:Hp):ae Cell->ae (ab D×Hp)|some (.lst Z _)=>some (Z,H.set i (.lst Z .fz))|_=>none
theorem FN(R:Rel w x)(r:Rv w x v u)(h:toD v x.H=some (d,b)):Fz w wm P x b λy=>Rd w y.g d u:=by induction v using V.casesOn with|d d=>exact sP (P:=λd b=>Fz w wm P x b λy=>Rd w y.g d u) h (Fz.id R r.eU)|ref i=>exact s9 r λa e=>jW (P:=λo=>x.H[i]?=o->RH i x.H o=some (d,b)->Fz w wm P x b λy=>Rd w y.g d (.ref a)) x.H[i]? (λ_ h=>ec h) (λZ m c h=>sP (P:=λd b=>Fz w wm P x b λy=>Rd w y.g d (.ref a)) h ((zm R c e).imp λy h=>j6 h λU j k l=>.lst j.isList k l)) (λB f c h=>if1 h λq h=>sP (P:=λd b=>Fz w wm P x b λy=>Rd w y.g d (.ref a)) h ((O6 R c e).imp λy h=>h.2.2.rd q h.1 h.2.1)) (λ_ _ h=>ec h) rfl h|ins _ _=>exact ec h
theorem Jq(R:Rel w x)(r:Rv w x v u)(h:ig v x.H=some (c,b)):Fz w wm P x b λy=>Rv w y c u:=by induction v using V.casesOn with|ref i=>exact s9 r λa e=>have id:some (V.ref i,x.H)=some (c,b)->Fz w wm P x b λy=>Rv w y c (.ref a):=λh=>sP (P:=λc b=>Fz w wm P x b λy=>Rv w y c (.ref a)) h (Fz.id R (.ref e));have j:∀Z m,x.H[i]?=some (.lst Z m)->some (V.d (.lst Z),x.H.set i (.lst Z .fz))=some (c,b)->Fz w wm P x b λy=>Rv w y c (.ref a):=λZ m g h=>sP (P:=λc b=>Fz w wm P x b λy=>Rv w y c (.ref a)) h ((zm R g e).imp λy h=>j6 h λU k l p=>.d (.lst k.isList l p));jW (P:=λo=>x.H[i]?=o->Mr i x.H o=some (c,b)->Fz w wm P x b λy=>Rv w y c (.ref a)) x.H[i]? (λ_ h=>ec h) (λZ m=>Mode.casesOn (motive:=λm=>x.H[i]?=some (.lst Z m)->Mr i x.H (some (.lst Z m))=some (c,b)->Fz w wm P x b λy=>Rv w y c (.ref a)) m (λg h=>j Z _ g h) (λ_ h=>id h) λg h=>j Z _ g ((ag (λH=>some (V.d (.lst Z),H)) (sJ g)).trans h)) (λB f _ h=>id h) (λ_ _ h=>ec h) rfl h|_=>exact sP (P:=λc b=>Fz w wm P x b λy=>Rv w y c u) h (Fz.id R r)
noncomputable def CW(w:bN)(g:Heap)(Z:ab D)(u:al):Prop:=∃a,∃U:dw al,u=.ref a/\(g.IsTuple a U\/g.IsList a U)/\U.size<=bf/\fh w g Z U.toList
theorem B0(R:Rel w x)(r:Rv w x v u)(h:ji v x.H=some (Z,b)):Fz w wm P x b λy=>CW w y.g Z u:=by
 induction v using V.casesOn with
 |d d=>induction d using D.casesOn with|tup k=>exact sP (P:=λZ b=>Fz w wm P x b λy=>CW w y.g Z u) h (Fz.id R (lA r.eU λa U c f j _=>qW a U rfl (.inl c) f j))|lst k=>exact sP (P:=λZ b=>Fz w wm P x b λy=>CW w y.g Z u) h (Fz.id R (Am r.eU λa U c f j=>qW a U rfl (.inr c) f j))|_=>exact ec h
 |ref i=>exact s9 r λa e=>jW (P:=λo=>x.H[i]?=o->Lc i x.H o=some (Z,b)->Fz w wm P x b λy=>CW w y.g Z (.ref a)) x.H[i]? (λ_ h=>ec h) (λk m s h=>sP (P:=λZ b=>Fz w wm P x b λy=>CW w y.g Z (.ref a)) h ((zm R s e).imp λy h=>j6 h λU l p q=>qW a U rfl (.inr l.isList) p q)) (λ_ _ _ h=>ec h) (λ_ _ h=>ec h) rfl h|ins _ _=>exact ec h
end
theorem rB:PySem.W.Fast.sEq a b=(b==a):=by rw[b6,PySem.W.Fast.sEq_iff,bO];exact eq_comm
theorem gu(N:cg)(x:Str):nO N x=N.names.lookup x:=by unfold nO;generalize N.names=l;induction l with|nil=>rfl|cons p r ih=>obtain⟨n,k⟩:=p;rw[cS,bu,rB];cases h:x==n with|true=>simp|false=>simpa using ih
theorem nZ(h:tF x=true):(x==("__debug__":Str))=false:=by unfold tF at h;rw[aI]at h;have b:=h.1;rw[rB]at b;clear h;cases e:x==("__debug__":Str)with|false=>rfl|true=>rw[bO]at e;subst e;have:(aa "__debug__"==("__debug__":Str))=true:=bO.mpr rfl;rw[this]at b;exact fE b
theorem rL(h:tF x=true):(x==("__classdict__":Str))=false:=by unfold tF at h;rw[aI]at h;have b:=h.2;rw[rB]at b;clear h;cases e:x==("__classdict__":Str)with|false=>rfl|true=>rw[bO]at e;subst e;have:(aa "__classdict__"==("__classdict__":Str))=true:=bO.mpr rfl;rw[this]at b;exact fE b
theorem m5(h:isVar N x=true):tF x=true/\(N.names.lookup x=some .local\/N.names.lookup x=some .cell\/N.names.lookup x=some .free):=by
 unfold isVar at h;rw[aI,gu]at h;refine⟨h.1,?_⟩;have b:=h.2;rcases e:N.names.lookup x with _|k<;>rw[e]at b;.exact fE b
 rcases k with⟨⟩<;>first|exact fE b|rfl|exact .inl rfl|exact .inr rfl|exact .inr (.inl rfl)|exact .inr (.inr rfl)
theorem k9(h:gY N x=true):tF x=true/\(N.names.lookup x=some .local\/N.names.lookup x=some .cell):=by
 unfold gY at h;rw[aI,gu]at h;refine⟨h.1,?_⟩;have b:=h.2;rcases e:N.names.lookup x with _|k<;>rw[e]at b;.exact fE b
 rcases k with⟨⟩<;>first|exact fE b|rfl|exact .inl rfl|exact .inr rfl|exact .inr (.inl rfl)|exact .inr (.inr rfl)
theorem oT(h:jb N x=true):tF x=true/\N.names.lookup x=some .globalImplicit:=by
 unfold jb at h;rw[aI,gu]at h;refine⟨h.1,?_⟩;have b:=h.2;rcases e:N.names.lookup x with _|k<;>rw[e]at b;.exact fE b
 rcases k with⟨⟩<;>first|exact fE b|rfl|exact .inl rfl|exact .inr rfl|exact .inr (.inl rfl)|exact .inr (.inr rfl)
theorem oZ:∀{O:ab Str}{n i:Nat}{x:Str},fw O n x=some i->n<=i/\O[i-n]?=some x:=by
 intro O;induction O with
 |nil=>intro _ _ _ h;exact ec h|cons y r ih=>
  intro n i x h;unfold fw at h;rcases c:fw r (n+1) x with _|j<;>rw[c]at h;rotate_left;.
   obtain rfl:=(sI h).symm;obtain⟨a,b⟩:=ih c;refine⟨by lia,?_⟩;have:i-n=(i-(n+1))+1:=by lia
   rw[this];simpa using b
  .refine if1 h λq h=>so h ?_;rw[PySem.W.Fast.sEq_iff]at q;refine sZ q ?_;exact⟨aV _,by simp⟩
theorem kL(h:ey O x=some i):O[i]?=some x:=by simpa using(oZ h).2
theorem qi(h:ey O x=some i)(k:ey O y=some i):x=y:=bR ((kL h).symm.trans (kL k))
theorem oc(h:ey O x=some i):i<O.length:=(aE.mp (kL h)).1
theorem ra:∀(O ts:ab Str)(n:Nat)(x:Str),fw (O++ts) n x=match fw ts (n+O.length) x with|some i=>some i|none=>fw O n x:=by intro O;induction O with|nil=>intro ts n x;simp[fw];cases fw ts n x<;>rfl|cons y r ih=>intro ts n x;show(match fw (r++ts) (n+1) x with|some i=>some i|none=>if PySem.W.Fast.sEq y x then some n else none)=_;simp only[ih ts (n+1) x,show n+1+r.length=n+(y::r).length by simp;lia];cases fw ts (n+(y::r).length) x with|some i=>rfl|none=>rfl
theorem oE:∀{ts:ab Str}{n:Nat}{x:Str},x∈ts->(fw ts n x).isSome=true
 |y::r,n,x,h=>by
  unfold fw;cases b:fw r (n+1) x with
  |some i=>rfl|none=>
   rcases ah.mp h with rfl|h;.rw[aS (PySem.W.Fast.sEq_iff.mpr rfl)];rfl
   .have:=oE (n:=n+1) h;rw[b]at this;exact fE this
noncomputable def fP:b8->Prop:=λ_=>aeu
noncomputable def jL(J:Env):b8->Prop:=λb=>b=J.locals\/∃p∈J.cells,b=p.2
structure fU(w:bN)(x:Sx)(env:Env)(sc:cg)(O:ab Str)(l:Loc):Prop where
 scope:env.scope=sc
 kind:sc.kind=.function
 globals:env.globals=3
 builtins:env.builtins=0
 len:l.length=O.length
 loc:∃m,x.s.heap.Ns env.locals m/\∀nm i v,ey O nm=some i->sc.names.lookup nm=some .local->l[i]?=some (some v)->∃u,m nm=some u/\Rv w x v u
 cell:∀nm i,ey O nm=some i->(sc.names.lookup nm=some .cell\/sc.names.lookup nm=some .free)->∃c vo,env.cells.lookup nm=some c/\x.s.heap.IsCell c vo/\∀v,l[i]?=some (some v)->∃u,vo=some u/\Rv w x v u
 apart:∀nm UQ c,env.cells.lookup nm=some c->env.cells.lookup UQ=some c->nm=UQ
 mS:x.g.get? env.locals=none/\¬x.mu env.locals
 ib:∀p∈env.cells,x.g.get? p.2=none/\¬x.mu p.2/\p.2≠env.locals/\∃vo,x.s.heap.IsCell p.2 vo
section
variable{w:bN}{x y:Sx}{J:Env}{N:cg}{O:ab Str}{l:Loc}{wm:Nat}{P:b8->Prop}
theorem Le.out(h:Le wm P x y)(e:x.s.heap.get? b=some o)(n:x.g.get? b=none)(m:¬x.mu b):y.g.get? b=none/\¬y.mu b:=by
 constructor;.
  cases c:y.g.get? b with
  |none=>rfl|some d=>
   rcases h.gn b d c n with q|q;.exact ax q m
   .rw[q]at e;exact ec e
 .intro q;rcases h.mu b q with q|q;.exact m q
  .rw[q]at e;exact ec e
theorem fU.le(X:fU w x J N O l)(h:Le wm P x y)(A:¬P J.locals)(hc:∀p∈J.cells,¬P p.2):fU w y J N O l:=by
 refine d9 (X.loc) λm hm B=>?_;refine⟨X.scope,X.kind,X.globals,X.builtins,X.len,⟨m,hm.at' λo e=>h.keep _ _ e X.mS.2 A,λnm i v a b c=>let⟨u,f,g⟩:=B nm i v a b c;⟨u,f,g.le h⟩⟩,?_,X.apart,?_,?_⟩;.intro nm i f g;refine(let q:Prop:=_;(?_:q));refine iE (X.cell nm i f g) λc k a b d=>?_;have hm:=mem_of_lookup a;refine CE (X.ib _ hm) λt j z _=>?_;refine d9 (b) λo ho hd=>?_;exact jQ c k ⟨a,⟨o,h.keep _ _ ho j (hc _ hm),hd⟩,λv e=>let⟨u,f,g⟩:=d v e;⟨u,f,g.le h⟩⟩
 .obtain⟨o,ho⟩:=(show∃o,x.s.heap.get? J.locals=some o from by obtain⟨o,_,_,ho,_⟩:=hm;exact⟨o,ho⟩);exact h.out ho X.mS.1 X.mS.2
 .intro p r;refine(let q:Prop:=_;(?_:q));obtain⟨t,j,z,k,o,ho,hd⟩:=X.ib p r;obtain⟨a,b⟩:=h.out ho t j;exact⟨a,b,z,k,o,h.keep _ _ ho j (hc p r),hd⟩
theorem fU.Uy(X:fU w x J N O l)(h:Le wm fP x y):fU w y J N O l:=X.le h (λq=>q) (λ_ _ q=>q)
theorem Rv.same(r:Rv w x v u):Rv w ⟨x.g,x.φ,x.H,s'⟩ v u:=Rv.mono (x:=x) (y:=⟨x.g,x.φ,x.H,s'⟩) (λ_ _ e=>e) (λ_ _ e=>e) r
theorem vN(r:∃u,o=some u/\Rv w x v u):∃u,o=some u/\Rv w ⟨x.g,x.φ,x.H,s'⟩ v u:=let⟨u,a,b⟩:=r;⟨u,a,b.same⟩
variable{A:bH}{E:al->aM->Prop}{Q:al->aM->Prop}
theorem AE(X:fU w x J N O l)(j:ey O nm=some i)(f:isVar N nm=true)(o:l[i]?=some (some v))(h:∀u,Rv w x v u->Q u x.s):aR (aP pw w) A (loadName J nm) Q E x.s:=by
 refine(let G:Prop:=_;(?_:G));obtain⟨B,f⟩:=m5 f;have p:J.scope.kind=.function:=(sY X.scope X.kind);have q:∀k,N.names.lookup nm=some k->J.kindOf nm=some k:=λk e=>by unfold abi;rw[X.scope];exact e
 rcases f with f|f|f;.refine d9 (X.loc) λm z t=>?_;refine d9 (t nm i v j f o) λu r g=>?_;exact wpAny_loadName_local p (q _ f) z r (h u g)
 .obtain⟨c,C,a,b,d⟩:=X.cell nm i j (.inl f);obtain⟨u,rfl,g⟩:=d v o;exact wpAny_loadName_cell p (q _ f) a b (h u g)
 .obtain⟨c,C,a,b,d⟩:=X.cell nm i j (.inr f);obtain⟨u,rfl,g⟩:=d v o;exact wpAny_loadName_free p (q _ f) a b (h u g) (rL B)
theorem Rel.frame(R:Rel w x)(k:∀b o,x.s.heap.get? b=some o->¬P b->s'.heap.get? b=some o)(j:∀b,P b->x.g.get? b=none/\¬x.mu b)(hs:∀b o,x.s.heap.get? b=some o->∃t,s'.heap.get? b=some t)(m:s'.gens=#[])(ho:s'.os=x.s.os):Rel w ⟨x.g,x.φ,x.H,s'⟩/\Le wm P x ⟨x.g,x.φ,x.H,s'⟩:=by
 have Z:∀b o,x.g.get? b=some o->s'.heap.get? b=some o:=λb o e=>k b o (R.sub _ _ e) λp=>by rw[(j b p).1]at e;cases e
 refine⟨⟨Z,R.top,R.len,λi c a d f=>?_,R.inj,m⟩,Le.mk (λ_ _ e=>e) (λb o e n=>by rw[show x.g.get? b=none from n]at e;cases e) (λb o e _ p=>k b o e p) ⟨[],by simp,λ_ h=>by simp at h⟩ (λb q=>.inl q) (λi c _ h=>⟨c,h,λv r=>.inr r⟩) hs ho⟩;exact fY.keeps (x:=x) (y:=⟨x.g,x.φ,x.H,s'⟩) (λ_ _ e=>e) (λ_ _ e=>e) (λn _=>n) (λhm o e=>k _ _ e λp=>(j _ p).2 ⟨i,c,d,hm,f⟩) (R.cell i c a d f)
theorem wA(k:Heap.SameBut a h h')(l:∃o,h'.get? a=some o):∀b o,h.get? b=some o->∃c,h'.get? b=some c:=λb o e=>by
 by_cases q:b=a;.refine sY q ?_;exact l
 .exact⟨o,(k.2 b q).trans e⟩
noncomputable def GA(N:cg)(nm:Str):Prop:=N.names.lookup nm=some .local
theorem uz(R:Rel w x)(X:fU w x J N O l)(M:ey O nm=some i)(Z:GA N nm)(hv:Rv w x v u){Q:ag9->aM->Prop}(h:∀y,Rel w y->Le wm (λb=>b=J.locals) x y->y.H=x.H->fU w y J N O (l.set i (some v))->Q () y.s):aR (aP pw w) A (storeName J nm u) Q E x.s:=by
 have n:∀k,N.names.lookup nm=some k->J.kindOf nm=some k:=λk e=>by unfold abi;rw[X.scope];exact e
 refine d9 (X.loc) λm hm hl=>?_;have t:∀d j,ey O d=some j->d≠nm->j≠i:=λd j T t e=>t (qi (e▸T) M);have I:∀B,(l.set i (some v))[i]?=some (some B)->B=v:=by intro B e;rw[abF (by rw[X.len];exact oc M)]at e;cases e;rfl
 have f:∀j,j≠i->(l.set i (some v))[j]?=l[j]?:=λj T=>ab7 (abu T);refine wpAny_storeName_local (n _ Z) hm (λh' C z=>?_) (by rw[(show J.scope.kind=.function from(sY X.scope X.kind))];rfl);clear n;obtain⟨S,L⟩:=R.frame (wm:=wm) (P:=λb=>b=J.locals) (s':={x.s with heap:=h',toks:=x.s.toks+1}) (λb o e p=>z.extBut b o p e) (show∀b,b=J.locals->x.g.get? b=none/\¬x.mu b from by rintro b rfl;exact X.mS) (wA z (let⟨o,_,_,ho,_⟩:=C;⟨o,ho⟩)) R.gens rfl;refine h ⟨x.g,x.φ,x.H,_⟩ S L rfl ⟨X.scope,X.kind,X.globals,X.builtins,(ade.trans X.len),⟨_,C,λd j B a b c=>?_⟩,λd j a b=>?_,X.apart,X.mS,λp hp=>?_⟩;.
  by_cases e:d=nm;.obtain rfl:=e.symm;obtain rfl:i=j:=bR (M.symm.trans a);refine sY (I B c) ?_;exact i12 u ((aS rfl)) hv.same
  .rw[f j (t d j a e)]at c;refine d9 (hl d j B a b c) λu' h1 h2=>?_;exact i12 u' (by simp[e,h1]) h2.same
 .refine(let Y:Prop:=_;(?_:Y));refine iE (X.cell d j a b) λc U p q r=>?_;refine jQ c U ⟨p,q.sameBut z (X.ib _ (mem_of_lookup p)).2.2.1,λB G=>?_⟩;rw[f j (t d j a (show d≠nm from by rintro rfl;rw[show N.names.lookup d=some .local from Z]at b;rcases b with b|b<;>exact ax b (by decide)))]at G;exact vN (r B G)
 .refine(let Y:Prop:=_;(?_:Y));refine CE (X.ib p hp) λq1 q2 q3 y1=>?_;refine nF y1 λU q4=>?_;exact⟨q1,q2,q3,U,q4.sameBut z q3⟩
theorem mR(R:Rel w x)(X:fU w x J N O l)(Z:ey O nm=some i)(C:gY N nm=true)(hv:Rv w x v u){Q:ag9->aM->Prop}(h:∀y,Rel w y->Le wm (jL J) x y->y.H=x.H->fU w y J N O (l.set i (some v))->Q () y.s):aR (aP pw w) A (storeName J nm u) Q E x.s:=by
 refine lJ (k9 C) λhn C=>?_;have kf:J.scope.kind=.function:=(sY X.scope X.kind);have ko:∀k,N.names.lookup nm=some k->J.kindOf nm=some k:=λk e=>by unfold abi;rw[X.scope];exact e
 have pg:∀b,jL J b->x.g.get? b=none/\¬x.mu b:=by
  rintro b(rfl|⟨p,hp,rfl⟩);.exact X.mS
  .exact⟨(X.ib p hp).1,(X.ib p hp).2.1⟩
 refine C.elim (λC=>uz R X Z C hv λy S L g X=>h y S (L.weak λb e=>.inl e) g X) λC=>?_;refine d9 (X.loc) λm hm hl=>?_;have G:∀f j,ey O f=some j->f≠nm->j≠i:=λf j hj G e=>G (qi (e▸hj) Z);have self:∀M,(l.set i (some v))[i]?=some (some M)->M=v:=by intro M e;rw[abF (by rw[X.len];exact oc Z)]at e;cases e;rfl
 have B:∀j,j≠i->(l.set i (some v))[j]?=l[j]?:=λj hj=>ab7 (abu hj);.
  refine iE (X.cell nm i Z (.inl C)) λc vo p q r=>?_;have T:=mem_of_lookup p;refine wpAny_storeName_cell kf (ko _ C) p q λh' U t=>?_;clear ko;obtain⟨S,L⟩:=R.frame (wm:=wm) (P:=jL J) (s':={x.s with heap:=h'}) (λb o e z=>t.extBut b o (λq=>z (.inr ⟨_,T,q⟩)) e) pg (wA t (let⟨o,ho,_⟩:=U;⟨o,ho⟩)) R.gens rfl;refine h ⟨x.g,x.φ,x.H,_⟩ S L rfl ⟨X.scope,X.kind,X.globals,X.builtins,(ade.trans X.len),⟨m,hm.sameBut t ((X.ib _ T).2.2.1).symm,λf j M a b d=>?_⟩,λf j a b=>?_,X.apart,X.mS,λn hp=>?_⟩;.
   have e:f≠nm:=by rintro rfl;rw[C]at b;exact ax b (by decide)
   rw[B j (G f j a e)]at d;exact vN (hl f j M a b d)
  .by_cases e:f=nm;.obtain rfl:=e.symm;obtain rfl:i=j:=bR (Z.symm.trans a);exact jQ c (some u) ⟨p,U,λM I=>by obtain rfl:=(self M I).symm;exact⟨u,rfl,hv.same⟩⟩
   .refine iE (X.cell f j a b) λc' Y n q' r'=>?_;refine jQ c' Y ⟨n,q'.sameBut t (λz=>e (X.apart _ _ _ n (z▸p))),λM I=>?_⟩;rw[B j (G f j a e)]at I;exact vN (r' M I)
  .refine(let γ:Prop:=_;(?_:γ));refine CE (X.ib n hp) λq1 q2 q3 y1=>?_;refine nF y1 λY q4=>?_;by_cases z:n.2=c;.exact⟨q1,q2,q3,some u,z▸U⟩
   .exact⟨q1,q2,q3,Y,q4.sameBut t z⟩
end
noncomputable def zy(n:Str):al->bp|.str s _=>PySem.W.Fast.sEq s n|_=>false
noncomputable def gc(es:ab cN)(n:Str):ae al:=(es.find? λe=>zy n e.key).map (·.val)
noncomputable def oP(es:ab cN):bp:=es.all λe=>match e.key with|.str _ _=>true|_=>false
set_option tactic.hygienic true in theorem Dt(n:Str)(v:al):v.isStr n=zy n v:=by
 rcases v with⟨⟩<;>try rfl
 rename_i s t;show(s==n)=PySem.W.Fast.sEq s n;rw[rB,b6,bO,bO];exact eq_comm
theorem G8{h:Heap}(d:h.get? a=some o)(hd:o.data=.dict es.toArray b)(k:oP es=true):h.Ns a (gc es):=by
 refine MN o es.toArray b ⟨d,hd,λe c=>?_,λn=>?_⟩;.have:=aA.mp k e (by simpa using c);revert this;generalize e.key=z;intro this;rcases z with⟨⟩<;>first|exact fE this|exact⟨_,_,rfl⟩
 .unfold nsFind findBy gc;rw[show(λe:cN=>e.key.isStr n)=λe=>zy n e.key from funext λe=>Dt n e.key];simp
noncomputable def vInt:al->ae Int|.int j _=>some j|_=>none
noncomputable def vStr:al->ae Str|.str t _=>some t|_=>none
noncomputable def R1:al->ae b8|.ref a=>some a|_=>none
noncomputable def Xz:al->ae dF|.type c=>some c|_=>none
noncomputable def RO:Data->ae (dw al)|.seq U _=>some U|_=>none
noncomputable def Ro(o:Obj):ae (dw al):=(Xz o.cls).bind λc=>if c="tuple"/\o.dict=none then RO o.data else none
theorem J0(h:vInt v=some j):∃t,v=.int j t:=by
 rcases v with⟨⟩<;>first|exact ec h|skip
 exact so h (Oj _ rfl)
theorem Kb(h:vStr v=some j):∃t,v=.str j t:=by
 rcases v with⟨⟩<;>first|exact ec h|skip
 exact so h (Oj _ rfl)
theorem Jw(h:R1 v=some a):v=.ref a:=by
 rcases v with⟨⟩<;>first|exact ec h|skip
 exact so h rfl
theorem PB(h:Xz v=some a):v=.type a:=by
 rcases v with⟨⟩<;>first|exact ec h|skip
 exact so h rfl
theorem KJ(h:RO d=some a):∃n,d=.seq a n:=by
 rcases d with⟨⟩<;>first|exact ec h|skip
 exact so h (Oj _ rfl)
theorem Mh(h:Ro o=some U):o.cls=.type "tuple"/\o.dict=none/\∃n,o.data=.seq U n:=vj h λc d h=>if1 h λb h=>⟨b.1▸PB d,b.2,KJ h⟩
theorem s8{b:Type}{o:ae b}{f:b->bp}(h:o.any f=true):∃a,o=some a/\f a=true:=by
 rcases o with _|a;.exact fE h
 .exact i12 a rfl h
noncomputable def D1:Nat->D->al->bp|0,_,_=>false|n+1,d,v=>match d with|.int i=>(vInt v).any λj=>decide (i=j)|.str s=>(vStr v).any λt=>PySem.W.Fast.sEq s t|.tup Z=>(R1 v).any λa=>(tupK.find? (λp=>aal p.1 a)).any λp=>(Ro p.2).any λU=>decide (U.size<=1000)&&IU n Z U.toList|_=>false where IU(n:Nat):ab D->ab al->bp|[],[]=>true|x::Z,v::U=>D1 n x v&&IU n Z U|_,_=>false
theorem FJ(T:∀p∈tupK,g.get? p.1=some p.2):∀(n:Nat)(d:D)(v:al),D1 n d v=true->Rd w g d v:=by
 intro n;induction n with
 |zero=>intro d v h;unfold D1 at h;exact fE h|succ n ih=>
  have f:∀(Z:ab D)(U:ab al),D1.IU n Z U=true->fh w g Z U:=by
   intro Z;induction Z with
   |nil=>intro U h;induction U using aW with|nil=>exact .nil|cons _ _=>exact fE h
   |cons x Z l=>intro U h;induction U using aW with|nil=>exact fE h|cons v U=>have h:(D1 n x v&&D1.IU n Z U)=true:=h;rw[aI]at h;exact .cons (ih _ _ h.1) (l _ h.2)
  intro d v h;rcases d with⟨⟩<;>first|exact fE h|skip
  .refine d9 (s8 h) λj b c=>(J0 b).elim λt e=>?_;rw[e,aU c];exact .int _ _
  .refine d9 (s8 h) λj b c=>(Kb b).elim λt e=>?_;rw[e,PySem.W.Fast.sEq_iff.mp c];exact .str _ _
  .refine d9 (s8 h) λa b c=>d9 (s8 c) λp o q=>d9 (s8 q) λU r i=>?_;rw[Jw b];refine ph (Mh r) λy z m=>?_;have s:p.1=a:=bP (abU o:_);have k:=T _ (aaf o);rw[s]at k;rw[aI]at i;exact .tup (m.elim λn m=>⟨_,k,y,n,m⟩) (by rw[dr];have:=aU i.1;lia) (f _ _ i.2) ⟨_,k,z⟩
theorem Kx(P:bo):(3,di (gR P) 182)∈KK P:=by simp only[KK,aJ,ah,true_or,or_true]
theorem HX(P:bo)(h:p∈tupK):p∈KK P:=by simp only[KK,aJ,ah,h,true_or,or_true]
theorem DV(P:bo):(108,Ow)∈KK P:=(aN _ (.head _))
theorem BA(P:bo)(h:p∈rS P):p∈KK P:=(aN _ (.tail _ ‹_›))
theorem MY(P:bo)(h:p∈vc):p∈KK P:=by simp only[KK,aJ,ah,h,true_or,or_true]
noncomputable def ow(P:bo):ab cN:=match(ab5 P).data with|.dict es _=>es.toList|_=>[]
noncomputable def ir:Nat->al|200=>.builtin "len"|201=>.builtin "sorted"|203=>.builtin "any"|204=>.type "str"|205=>.type "int"|206=>.builtin "max"|_=>.type "tuple"
noncomputable def OI(P:bo):bp:=uA.all λp=>match gc (gR P) p.1with|some (.ref a)=>aal a p.2.1|_=>false
noncomputable def NX(P:bo):bp:=ma.all λp=>match gc (gR P) p.1with|some (.ref a)=>aal a p.2.1|_=>false
noncomputable def NA:D->bp|.eH I U=>decide (intsOf I=some [3,4,5,6,7,10])&&decide (intsOf U=some [6,5,4,1,2,7])|_=>false
theorem mW:∀{Z:ab D}{I:ab Int},intsOf Z=some I->Z=I.map .int:=by
 intro Z;induction Z with
 |nil=>intro I h;refine so h ?_;rfl|cons x Z ih=>
  intro I h;rcases x with _|_|i|_|_|_|_|_<;>try(exact ec h;done)
  refine j0 (show(intsOf Z).map (i::·)=some I from h) λc b d=>?_;rw[←d];rw[ih b];rfl
noncomputable def Ng(P:bo):bp:=AJ.all λp=>match gc (gR P) p.1with|some v=>(match v with|.ref 108=>NA p.2|v=>D1 6 p.2 v)|_=>false
theorem Cr(P:bo):OI P=true:=by kernel_rfl
theorem B4(P:bo):NX P=true:=by kernel_rfl
theorem BL(P:bo):Ng P=true:=by kernel_rfl
theorem GY(P:bo):oP (gR P)=true:=by kernel_rfl
theorem Mi(P:bo):oP (ow P)=true:=by kernel_rfl
theorem Ga(P:bo):(qJ.all λp=>(gc (gR P) p.1).isNone)=true:=by kernel_rfl
theorem yS(P:bo):gc (gR P) (aa "range")=none:=by kernel_rfl
theorem Di(P:bo):gc (ow P) (aa "range")=some (.type "range"):=by kernel_rfl
theorem EJ(P:bo):qJ.map (λp=>gc (ow P) p.1)=qJ.map λp=>some (ir p.2):=by kernel_rfl
noncomputable def vn(o:Obj):bp:=match o.data with|.dict _ _=>true|_=>false
theorem yN(P:bo):vn (ab5 P)=true:=by kernel_rfl
set_option tactic.hygienic true in theorem R0(P:bo):∃ep,(ab5 P).data=.dict (ow P).toArray ep:=by
 have h:=yN P;unfold vn at h;unfold ow;refine(let γ:Prop:=_;(?_:γ));split at h;.rename_i es ep e;exact⟨ep,(sY e rfl)⟩
 .exact fE h
section
variable{w:bN}{h:Heap}
theorem Bg(T:fm w h):h.Ns 3 (gc (gR w.params)):=G8 (T.objs _ (Kx _)) rfl (GY _)
theorem Nw(T:fm w h):h.Ns 0 (gc (ow w.params)):=by obtain⟨b,e⟩:=R0 w.params;refine G8 (T.objs (0,ab5 w.params) (BA _ ?_)) e (Mi _);unfold rS;exact aF
theorem NQ(P:bo)(m:p∈uA):gc (gR P) p.1=some (.ref p.2.1):=by
 have k:=aA.mp (Cr P) p m;revert k;generalize gc (gR P) p.1=o;intro k;rcases o with _|v<;>try(exact fE k;done)
 rcases v with⟨⟩<;>try(exact fE k;done)
 rw[bP k]
theorem Gu(P:bo)(m:p∈ma):gc (gR P) p.1=some (.ref p.2.1):=by
 have k:=aA.mp (B4 P) p m;revert k;generalize gc (gR P) p.1=o;intro k;rcases o with _|v<;>try(exact fE k;done)
 rcases v with⟨⟩<;>try(exact fE k;done)
 rw[bP k]
theorem S2{g:Type}{P:g->Prop}{a b c d e f:g}(i:P a)(j:P b)(k:P c)(l:P d)(m:P e)(o:P f):∀x∈[a,b,c,d,e,f],P x:=bC.mpr ⟨i,bC.mpr ⟨j,bC.mpr ⟨k,bC.mpr ⟨l,bC.mpr ⟨m,bC.mpr ⟨o,λ_ h=>kn h⟩⟩⟩⟩⟩⟩
theorem NN(T:fm w h):Rd w h (.eH [.int 3,.int 4,.int 5,.int 6,.int 7,.int 10] [.int 6,.int 5,.int 4,.int 1,.int 2,.int 7]) (.ref 108):=.eH (B:=[(.int 3,.int 6 385),(.int 4,.int 5 383),(.int 5,.int 4 381),(.int 6,.int 1 375),(.int 7,.int 2 377),(.int 10,.int 7 387)]) (MN Ow _ _ ⟨T.objs _ (DV _),⟨rfl,rfl,rfl⟩,rfl,λe c=>S2 (P:=λe:cN=>∃k,(sK w).is k e.key=true/\e.hash=(sK w).hash k) (i12 (.int 3) rfl rfl) (i12 (.int 4) rfl rfl) (i12 (.int 5) rfl rfl) (i12 (.int 6) rfl rfl) (i12 (.int 7) rfl rfl) (i12 (.int 10) rfl rfl) e (List.mem_toArray.mp c),.cons rfl rfl (.cons rfl rfl (.cons rfl rfl (.cons rfl rfl (.cons rfl rfl (.cons rfl rfl .nil))))),ah2 D.int (λa b h e=>h (D.int.inj e)) (show abk [(3:Int),4,5,6,7,10]from by decide)⟩) rfl (by rw[dr];decide) (S2 (P:=λp:D×al=>wy p.1=true) rfl rfl rfl rfl rfl rfl) (.cons (.int _ _) (.cons (.int _ _) (.cons (.int _ _) (.cons (.int _ _) (.cons (.int _ _) (.cons (.int _ _) .nil))))))
theorem Lw(h:NA d=true):d=.eH [.int 3,.int 4,.int 5,.int 6,.int 7,.int 10] [.int 6,.int 5,.int 4,.int 1,.int 2,.int 7]:=by
 unfold NA at h;split at h;.simp only[aI,aZ,aZ]at h;rw[mW h.1,mW h.2];rfl
 .exact fE h
set_option tactic.hygienic true in theorem N8(T:fm w h){p:Str×D}(m:p∈AJ):∃u,gc (gR w.params) p.1=some u/\Rd w h p.2 u:=by
 have k:=aA.mp (BL w.params) p m;split at k;.
  rename_i v e;refine i12 v e ?_;split at k;.rw[Lw k];exact NN T
  .exact FJ (λq hq=>T.objs _ (HX _ hq)) 6 _ _ k
 .exact fE k
theorem yO{c d:Type}{f g:c->d}:∀{l:ab c},l.map f=l.map g->∀a∈l,f a=g a:=by
 intro l;induction l with
 |nil=>intro _ a h;exact kn h|cons b r ih=>
  intro e a h;simp only[aH,aaX]at e;rcases ah.mp h with rfl|h;.exact e.1
  .exact ih e.2 a h
theorem JE(P:bo)(m:p∈qJ):gc (gR P) p.1=none/\gc (ow P) p.1=some (ir p.2):=⟨by simpa using aA.mp (Ga P) p m,yO (f:=λp:Str×Nat=>gc (ow P) p.1) (g:=λp=>some (ir p.2)) (EJ P) p m⟩
end
theorem jw{v:g}(h:look l x=some v):(x,v)∈l:=by
 unfold look at h;refine j0 h λp c d=>?_;have b:PySem.W.Fast.sEq p.1 x=true:=by have:=abU c;exact this
 have b:=PySem.W.Fast.sEq_iff.mp b;clear h;obtain⟨e,f⟩:=p;dsimp only at b d;subst b d;exact(aaf c)
structure Ef(A:bH)(n:Nat):Prop where
 hh:A.handled=none
 depth:A.depth+10*n+10<1000
 units:A.units+100*n+300<abN
structure rR(A:bH)(n:Nat):Prop where
 hh:A.handled=none
 depth:A.depth+10*n+5<1000
 units:A.units+100*n+250<abN
theorem Ef.call(r:Ef A n):rR A n:=⟨r.hh,by have:=r.depth;lia,by have:=r.units;lia⟩
noncomputable def vQ(w:bN)(n:Nat)(call:Nat->Nat->ab V->Hp->ae (V×Hp)):Prop:=∀{A:bH}{wm f:Nat}{args:ab V}{v:V}{b:Hp}{x:Sx}{Z:ab al}{R:acd->aM->Prop},rR A n->Rel w x->wm<=x.H.length->call wm f args x.H=some (v,b)->eC (Rv w x) args Z->(∀y u,Rel w y->Le wm fP x y->y.H=b->Rv w y v u->R (.ok (.ret u)) y.s)->abR (aP pw w) A (.call (.ref f) ⟨Z,[]⟩) R x.s
structure At(w:bN)(A:bH)(n:Nat)(Y:Cx)(x:Sx)(env:Env)(sc:cg)(O:ab Str)(l:Loc):Prop where
 room:Ef A n
 call:vQ w n Y.call
 wm:Y.wm<=x.H.length
 rel:Rel w x
 env:fU w x env sc O l
noncomputable def eo(w:bN)(n:Nat)(m:ME)(N:cg)(O:ab Str)(code:Env->Sem al):Prop:=∀{A:bH}{E:al->aM->Prop}{Y:Cx}{x:Sx}{J:Env}{l:Loc}{v:V}{b:Hp}{Q:al->aM->Prop},At w A n Y x J N O l->m Y l x.H=some (v,b)->(∀y u,At w A n Y y J N O l->Le Y.wm fP x y->y.H=b->Rv w y v u->Q u y.s)->aR (aP pw w) A (code J) Q E x.s
noncomputable def mr(w:bN)(n:Nat)(m:MT)(N:cg)(O:ab Str)(code:Env->Sem bp):Prop:=∀{A:bH}{E:al->aM->Prop}{Y:Cx}{x:Sx}{J:Env}{l:Loc}{b:bp}{c:Hp}{Q:bp->aM->Prop},At w A n Y x J N O l->m Y l x.H=some (b,c)->(∀y,At w A n Y y J N O l->Le Y.wm fP x y->y.H=c->Q b y.s)->aR (aP pw w) A (code J) Q E x.s
section
variable{w:bN}{n:Nat}{x y:Sx}{wm:Nat}{P:b8->Prop}{A:bH}{E:al->aM->Prop}{Y:Cx}{J:Env}{N:cg}{O:ab Str}{l:Loc}
theorem Le.len(R:Rel w x)(S:Rel w y)(h:Le wm P x y):x.H.length<=y.H.length:=by refine d9 (h.DL) λb e _=>?_;rw[←R.len,←S.len,e,ao];lia
theorem At.step(a:At w A n Y x J N O l)(R:Rel w y)(h:Le wm fP x y):At w A n Y y J N O l:=⟨a.room,a.call,ar a.wm (h.len a.rel R),R,a.env.Uy h⟩
noncomputable def Sx.tok(x:Sx)(t:Nat):Sx:=⟨x.g,x.φ,x.H,{x.s with toks:=t}⟩
theorem yq(R:Rel w x)(t:Nat):Rel w (x.tok t)/\Le wm P x (x.tok t):=⟨⟨R.sub,R.top,R.len,λi c a d f=>fY.keeps (x:=x) (y:=x.tok t) (λ_ _ e=>e) (λ_ _ e=>e) (λn _=>n) (λ_ _ e=>e) (R.cell i c a d f),R.inj,R.gens⟩,Le.mk (λ_ _ e=>e) (λb o e n=>by rw[show(x.tok t).g.get? b=none from n]at e;exact ec e) (λb o e _ _=>e) ⟨[],((aL _).symm),λ_ h=>by exact kn h⟩ (λb q=>.inl q) (λi c _ h=>⟨c,h,λv j=>.inr j⟩) (λb o e=>⟨o,e⟩) rfl⟩
theorem At.iw(a:At w A n Y x J N O l){Q:al->aM->Prop}(h:x.H=b)(r:Rv w x v u)(t:Nat)(q:∀y u,At w A n Y y J N O l->Le Y.wm fP x y->y.H=b->Rv w y v u->Q u y.s):Q u {x.s with toks:=t}:=by obtain⟨S,L⟩:=yq (wm:=Y.wm) (P:=fP) a.rel t;exact q (x.tok t) u (a.step S L) L h (r.le L)
theorem At.done(a:At w A n Y x J N O l){Q:al->aM->Prop}(h:x.H=b)(r:Rv w x v u)(q:∀y u,At w A n Y y J N O l->Le Y.wm fP x y->y.H=b->Rv w y v u->Q u y.s):Q u x.s:=q x u a .refl h r
theorem At.rd(a:At w A n Y x J N O l)(r:Rd w x.g d u):Rd w x.s.heap d u:=r.keeps a.rel.sub
theorem At.IV(a:At w A n Y x J N O l)(r:fh w x.g d u):fh w x.s.heap d u:=r.keeps a.rel.sub
theorem eo.on{code:Env->Sem al}(h:eo w n m N O code)(a:At w A n Y x J N O l)(L:Le Y.wm fP b x)(e:m Y l x.H=some (v,d))(q:∀y u,At w A n Y y J N O l->Le Y.wm fP b y->Le Y.wm fP x y->y.H=d->Rv w y v u->Q u y.s):aR (aP pw w) A (code J) Q E x.s:=h a e λy u f c g r=>q y u f (L.trans c) c g r
theorem eo.dat{code:Env->Sem al}(h:eo w n m N O code)(a:At w A n Y x J N O l)(L:Le Y.wm fP b x)(e:eD m Y l x.H=some (d,j))(q:∀y u,At w A n Y y J N O l->Le Y.wm fP b y->Le Y.wm fP x y->y.H=j->Rd w y.g d u->Q u y.s):aR (aP pw w) A (code J) Q E x.s:=by unfold eD at e;obtain⟨⟨v,X⟩,o,p⟩:=abv.mp e;refine h a o λy u i f k r=>?_;obtain⟨z,t,B,c,C,G⟩:=FN (wm:=Y.wm) (P:=fP) i.rel r (by rw[k];exact p);have:=q z u (i.step B c) (L.trans (f.trans c)) (f.trans c) C G;rw[t]at this;exact this
theorem At.vy(a:At w A n Y x J N O l)(j:x.H[i]?=some d)(hm:d.BQ=true)(hb:x.φ[i]?=some b)(hs:Heap.SameBut b x.s.heap h')(k:∃o,h'.get? b=some o)(m:∀v∈refsOf c,v.plain=true\/v∈refsOf d\/Y.wm<=i)(hc:∀y:Sx,y.g.get? b=none->y.s.heap=h'->(∀b o,x.g.get? b=some o->y.g.get? b=some o)->y.φ=x.φ->fY w y b c)(t:Nat):∃y,y.s={x.s with heap:=h',toks:=t}/\At w A n Y y J N O l/\Le Y.wm fP x y/\y.H=x.H.set i c:=have B:=a.rel.DZ ⟨i,_,j,hm,hb⟩;have keep:∀c o,c≠b->x.s.heap.get? c=some o->h'.get? c=some o:=λc o hc e=>hs.extBut c o hc e;have f:=i0 (as:=[]) λc o e=>keep c o (λz=>ec (B.symm.trans (z▸e))) (a.rel.sub _ _ e);lJ (ER (P:=fP) (wm:=Y.wm) (s':={x.s with heap:=h',toks:=t}) (as:=[]) (c:=c) a.rel j hm hb keep k a.rel.gens rfl (λ_ hb=>kn hb) m (hc _ (aaw.mpr λo z=>kn (gH z B)) rfl f rfl)) λS L=>⟨_,rfl,a.step S L,L,rfl⟩
theorem B1{code:Env->Sem al}:eo w n tc N O code:=by intro A E Y x J l v b Q a e q;exact ec e
theorem snd_const(h:Fj c=some d):eo w n (Hj d) N O (λJ=>cG (.Constant c k p) J):=by
 intro A E Y x J l v f Q a e q;refine(let b:Prop:=_;(?_:b));revert q;refine sP e λq=>?_;rcases c with⟨⟩<;>try(exact ec h;done)
 .revert q;refine so h λq=>?_;exact ack (a.done rfl (.d .fS) q)
 .revert q;refine so h λq=>?_;exact wpAny_Constant_bool (a.done rfl (.d (.bool _)) q)
 .revert q;refine so h λq=>?_;exact dG (a.iw rfl (.d (.int _ _)) _ q)
 .revert q;refine so h λq=>?_;exact wpAny_Constant_str (a.iw rfl (.d (.str _ _)) _ q)
theorem La(h:ey O nm=some i)(k:isVar N nm=true):eo w n (u5 i) N O (λJ=>cG (.Name nm p) J):=by
 intro A E Y x J l v d Q a e q;unfold u5 at e;refine(let c:Prop:=_;(?_:c));rcases b:l[i]?with _|_|f<;>rw[b]at e<;>try(exact ec e;done)
 revert q;refine sP e λq=>?_;exact wpAny_Name (AE a.env h k b λu r=>a.done rfl r q) (nZ (m5 k).1)
theorem ru(a:At w A n Y x J N O l)(k:jb N nm=true)(h:gc (gR w.params) nm=some u)(q:Q u x.s):aR (aP pw w) A (cG (.Name nm p) J) Q E x.s:=by refine lJ (oT k) λb c=>?_;refine ab8 ((sY a.env.scope a.env.kind)) (by unfold abi;rw[a.env.scope];exact c) ?_ (nZ b);exact loadGlobal_global (by rw[a.env.globals];exact Bg (a.rel.top.keeps a.rel.sub)) h q
theorem FT(a:At w A n Y x J N O l)(k:jb N nm=true)(h:gc (gR w.params) nm=none)(h':gc (ow w.params) nm=some u)(q:Q u x.s):aR (aP pw w) A (cG (.Name nm p) J) Q E x.s:=by refine lJ (oT k) λb c=>?_;refine ab8 ((sY a.env.scope a.env.kind)) (by unfold abi;rw[a.env.scope];exact c) ?_ (nZ b);exact loadGlobal_builtin (by rw[a.env.globals];exact Bg (a.rel.top.keeps a.rel.sub)) h (by rw[a.env.builtins];exact Nw (a.rel.top.keeps a.rel.sub)) h' q
theorem Jf(h:look AJ nm=some d)(k:jb N nm=true):eo w n (Hj d) N O (λJ=>cG (.Name nm p) J):=by intro A E Y x J l v g Q a e q;refine(let f:Prop:=_;(?_:f));revert q;refine sP e λq=>?_;refine d9 (N8 a.rel.top (jw h)) λu b c=>?_;exact ru a k b (a.done rfl (.d c) q)
theorem i'{h:Heap}:h.get? h.objs.size=none:=by cases e:h.get? h.objs.size with|none=>rfl|some o=>exact ax (Heap.lt_size e) (cQ _)
theorem At.push(a:At w A n Y x J N O l){Q:al->aM->Prop}(h:x.H=c)(d:o.isFreed=false)(r:Rv w (x.grow {x.s with heap:=x.s.heap.push o} [x.sz]) v (.ref x.sz))(q:∀y u,At w A n Y y J N O l->Le Y.wm fP x y->y.H=c->Rv w y v u->Q u y.s):Q (.ref x.sz) {x.s with heap:=x.s.heap.push o}:=by obtain⟨S,L⟩:=iC (wm:=Y.wm) (P:=fP) (s':={x.s with heap:=x.s.heap.push o}) (as:=[x.sz]) a.rel (λb f e=>Heap.get?_push_of_some o e) a.rel.gens rfl (λb hb=>by simp at hb;subst hb;exact i');exact q _ _ (a.step S L) L h r
theorem At.Tr(a:At w A n Y x J N O l){Q:al->aM->Prop}(c:o2.isFreed=false)(r:∀g,(∀b o,x.g.get? b=some o->g.get? b=some o)->g.get? (x.sz+1)=some o2->Rd w g d (.ref (x.sz+1)))(q:∀y u,At w A n Y y J N O l->Le Y.wm fP x y->y.H=x.H->Rv w y (.d d) u->Q u y.s):Q (.ref (x.sz+1)) {x.s with heap:=(x.s.heap.push o1).push o2,toks:=t}:=have k:∀b o,x.s.heap.get? b=some o->((x.s.heap.push o1).push o2).get? b=some o:=λb o z=>Heap.get?_push_of_some _ (Heap.get?_push_of_some _ z);lJ (iC (wm:=Y.wm) (P:=fP) (s':={x.s with heap:=(x.s.heap.push o1).push o2,toks:=t}) (as:=[x.sz+1]) a.rel k a.rel.gens rfl (λb hb=>kB hb▸aaw.mpr λo z=>ax (Heap.lt_size z) (aam.mpr (dq _)))) λS L=>q _ _ (a.step S L) L rfl (.d (r _ L.gk (jE (.head _) (Heap.size_push x.s.heap o1▸Heap.get?_push_size (x.s.heap.push o1) c))))
theorem rG(b:o.isFreed=false):(x.grow {x.s with heap:=x.s.heap.push o} [x.sz]).g.get? x.sz=some o:=jE (by simp) (Heap.get?_push_size _ b)
theorem xI(R:Rel w x):∀b c,x.g.get? b=some c->(x.grow {x.s with heap:=x.s.heap.push o} [x.sz]).g.get? b=some c:=i0 λb c e=>Heap.get?_push_of_some o (R.sub _ _ e)
theorem gQ(h:noStar (e::es)=true)(J:Env):c6 (e::es) J=(false,cG e J)::c6 es J/\noStar es=true:=by rcases e with⟨⟩<;>first|(exact fE h;done)|exact⟨rfl,h⟩
theorem kP{f:PySem.Expr->ME}:∀{es:ab PySem.Expr},(∀e∈es,eo w n (f e) N O (λJ=>cG e J))->noStar es=true->∀{A:bH}{E:al->aM->Prop}{Y:Cx}{x:Sx}{J:Env}{l:Loc}{B:ab D}{i:Hp}{Q:ab al->aM->Prop}{j:Pos}{b:Sx},At w A n Y x J N O l->Le Y.wm fP b x->Li (es.map f) Y l x.H=some (B,i)->(∀y m,At w A n Y y J N O l->Le Y.wm fP b y->Le Y.wm fP x y->y.H=i->fh w y.g B m->Q m y.s)->aR (aP pw w) A (aey (aa9 j (c6 es J))) Q E x.s:=by intro es;induction es with|nil=>intro _ _ A E Y x J l B i Q j b a L e q;cases e;exact abV (q x [] a L .refl rfl .nil)|cons c es ih=>intro h hs A E Y x J l B i Q j b a L e q;obtain⟨C,mM⟩:=gQ hs J;refine(let γ:Prop:=_;(?_:γ));refine jU (show ck (eD (f c) Y l x.H) _=some (B,i)from e) λd X U Z=>yp Z λR H2 e3 e4=>?_;obtain⟨rfl,rfl⟩:=pJ e4;refine abz (eo.dat (h c aF) a L U λy u M I G T r=>?_) C;refine ih (λe he=>h e (aD _ he)) mM M I (by rw[T];exact e3) λz m p o k t r'=>?_;exact q z (u::m) p o (G.trans k) t (.cons (r.keeps k.gk) r')
theorem n3:∀{C:ab ME}{Y:Cx}{l:Loc}{H b:Hp}{B:ab D},Li C Y l H=some (B,b)->B.length=C.length:=by intro C;induction C with|nil=>intro _ _ _ _ _ h;refine sP h ?_;rfl|cons m C ih=>intro Y l H b B h;refine jU (show ck (eD m Y l H) _=some (B,b)from h) λd X j c=>?_;refine yp c λe i f g=>?_;clear h c;obtain⟨rfl,rfl⟩:=pJ g;simp[ih f]
theorem lP(h:m<=1000):m<=bf:=by rw[dr];lia
theorem JJ(h:∀e∈es,eo w n (f e) N O (λJ=>cG e J))(s:es.length<=1000)(hs:noStar es=true):eo w n (N6 (es.map f)) N O (λJ=>cG (.Tuple es k p) J):=by
 intro A E Y x J l v H Q a e q;refine(let G:Prop:=_;(?_:G));refine yp e λB X i o=>?_;clear e;obtain⟨rfl,rfl⟩:=pJ o;refine wpAny_Tuple (kP h hs a .refl i λy C g L _ m r=>?_);have hd:C.length<=1000:=by rw[←r.length,n3 i,ak];exact s
 refine⟨lP hd,g.push m rfl (.d (.tup ⟨_,rG rfl,rfl,0,rfl⟩ (by simpa using lP hd) (by simpa using r.keeps (xI g.rel)) ⟨_,rG rfl,rfl⟩)) λz u b j c t=>q z u b (L.trans j) c t⟩
theorem K8(h:∀e∈es,eo w n (f e) N O (λJ=>cG e J))(o:es.length<=1000)(hs:noStar es=true):eo w n (OQ (es.map f)) N O (λJ=>cG (.List es p) J):=by
 intro A E Y x J l v G Q a e q;refine(let C:Prop:=_;(?_:C));refine yp e λB X i m=>?_;clear e;obtain⟨rfl,rfl⟩:=pJ m;refine wpAny_List (kP h hs a .refl i λy t g L _ k r=>?_);have hd:t.length<=1000:=by rw[←r.length,n3 i,ak];exact o
 refine⟨lP hd,g.push k rfl (.d (.lst ⟨_,rG rfl,rfl,0,rfl⟩ (by simpa using lP hd) (by simpa using r.keeps (xI g.rel)))) λz u b j c s=>q z u b (L.trans j) c s⟩
theorem At.cell(a:At w A n Y x J N O l){Q:al->aM->Prop}(h:x.H++[c]=d)(hc:fY w (x.add {x.s with heap:=x.s.heap.push o} [] x.sz c) x.sz c)(q:∀y u,At w A n Y y J N O l->Le Y.wm fP x y->y.H=d->Rv w y (.ref x.H.length) u->Q u y.s):Q (.ref x.sz) {x.s with heap:=x.s.heap.push o}:=by obtain⟨S,L⟩:=E9 (wm:=Y.wm) (P:=fP) (s':={x.s with heap:=x.s.heap.push o}) (as:=[]) (a:=x.sz) (c:=c) a.rel a.wm (λb f e=>Heap.get?_push_of_some o e) a.rel.gens rfl (λb hb=>by simp at hb) i' hc;refine q _ _ (a.step S L) L h (.ref ?_);show(x.φ++[x.sz])[x.H.length]?=_;rw[←a.rel.len];simp
theorem vV(R:Rel w x):(kh (x.s.heap.push o) x.g []).get? x.sz=none:=by cases e:(kh (x.s.heap.push o) x.g []).get? x.sz with|none=>rfl|some c=>cases h:x.g.get? x.sz with|none=>have:=gH e h;exact kn this|some b=>exact ax (Heap.lt_size (R.sub _ _ h)) (cQ _)
theorem x1(H:md≠.fz)(h:∀e∈es,eo w n (f e) N O (λJ=>cG e J))(G:es.length<=1000)(hs:noStar es=true):eo w n (BH md (es.map f)) N O (λJ=>cG (.List es p) J):=by
 intro A E Y x J l v R Q a e q;refine(let M:Prop:=_;(?_:M));refine yp e λB X k C=>?_;obtain⟨rfl,rfl⟩:=pJ C;refine wpAny_List (kP h hs a .refl k λy g d L _ t r=>?_);have hd:g.length<=1000:=by rw[←r.length,n3 k,ak];exact G
 clear k;revert q;refine sZ t λq=>?_;refine⟨lP hd,d.cell (c:=.lst B md) rfl ?_ λz u i o j I=>q z u i (L.trans o) j I⟩;have m:=r.keeps (i0 (h:=y.s.heap.push {cls:=.type "list",data:=.seq g.toArray}) (as:=[]) λb T e=>Heap.get?_push_of_some _ (d.rel.sub _ _ e));clear e;induction md using Mode.casesOn with|fz=>exact ax rfl H|own=>exact⟨vV d.rel,g.toArray,⟨0,Heap.get?_push_size _ rfl⟩,by simpa using lP hd,(sY ace m)⟩|sh=>exact⟨vV d.rel,g.toArray,⟨0,Heap.get?_push_size _ rfl⟩,by simpa using lP hd,(sY ace m)⟩
theorem uJ(R:Rel w x):(x.sz==cM)=false:=by have:=Heap.lt_size (R.sub _ _ (R.top.objs _ (DV _)));refine sY (show cM=1from rfl) ?_;refine aak.mpr ?_;lia
theorem F3:eo w n Hs N O (λJ=>cG (.Dict [] [] p) J):=by intro A E Y x J l v b Q a e q;revert q;refine sP e λq=>?_;exact wpAny_Dict_empty (a.cell (c:=.eH [] false) rfl ⟨uJ a.rel,bB _,vV a.rel,.nil (Heap.get?_push_size _ rfl) ⟨rfl,rfl,rfl⟩ rfl⟩ q)
end
section
variable{w:bN}{n:Nat}{x y:Sx}{wm:Nat}{P:b8->Prop}{A:bH}{E:al->aM->Prop}{Y:Cx}{J:Env}{N:cg}{O:ab Str}{l:Loc}
theorem j5(h:m<=bf):(m:Int)<2^63:=by rw[dr]at h;lia
theorem Ep(h:m<=big):¬(m:Int)>=2^63:=Int.not_le.mpr (j5 (ar h kU))
theorem Mn(h:n<=bf)(b:¬(n:Int)+k<0):-(2^63)<=k:=by have:=j5 h;lia
theorem Nd{k:Int}(h:n<=bf)(l:k.toNat<n):k<2^63:=by have:=j5 h;lia
theorem PN{k:Int}(h:k<0):k<2^63:=afi h (by decide)
theorem OS(h:¬k<0):-(2^63)<=k:=acT (by decide) (acP.mp h)
theorem LR(h:k<0)(b:¬(n:Int)+k<0):acv k n=some ((n:Int)+k).toNat:=by unfold acv;rw[aS h,aS (by simp only[aI,aZ];lia),afo]
theorem AG(h:¬k<0)(l:k.toNat<n):acv k n=some k.toNat:=by unfold acv;rw[aX h,aS (by simp only[aI,aZ];lia)]
theorem NU(b:¬(n:Int)+k<0):-(n:Int)<=k:=by lia
theorem fh.sz{U:dw al}(h:fh w g Z U.toList):Z.length=U.size:=h.length
theorem fh.at{U:dw al}(h:fh w g Z U.toList){j:Nat}{x:D}(e:Z[j]?=some x){G:Prop}(k:∀v,U[j]?=some v->Rd w g x v->G):G:=d9 (h.get e) λv e r=>k v (cY.symm.trans e) r
theorem fh.isEmpty{U:dw al}(h:fh w g Z U.toList):U.isEmpty=Z.isEmpty:=show decide (U.size=0)=Z.isEmpty from h.sz▸aW (motive:=λZ=>decide (Z.length=0)=Z.isEmpty) Z rfl λ_ _=>rfl
theorem At.tup(a:At w A n Y x J N O l)(h:x.g.IsTuple b U):x.s.heap.IsTuple b U:=h.imp λo=>cR (a.rel.sub _ o)
theorem At.lst(a:At w A n Y x J N O l)(h:x.g.IsList b U):x.s.heap.IsList b U:=h.imp λo=>cR (a.rel.sub _ o)
theorem At.j4(a:At w A n Y x J N O l){i:Nat}(h:x.H[i]?=some (.lst Z m))(k:x.φ[i]?=some b):∃U:dw al,x.s.heap.PlainList b U/\U.size<=bf/\fh w x.g Z U.toList:=by have C:=a.rel.cell i _ b h k;clear h;induction m using Mode.casesOn with|fz=>exact C.imp λU=>cR λh=>h.imp λm=>a.rel.sub _ _|_=>exact C.2
theorem At.nq(a:At w A n Y x J N O l){i:Nat}(h:x.H[i]?=some (.eH B m))(k:x.φ[i]?=some b):(b==cM)=false/\B.length<=big/\fe w x.g x.s.heap b B:=by have C:=a.rel.cell i _ b h k;clear h;induction m using a5 with|true=>exact⟨C.1,C.2.1,fe.keeps (λ_ _ e=>e) (λo e=>a.rel.sub _ _ e) C.2.2⟩|false=>exact⟨C.1,C.2.1,C.2.2.2⟩
noncomputable def ON:ae Cell->ae bp|some (.lst Z _)=>some (!Z.isEmpty)|_=>none
theorem Y0(n:Nat):((n:Int)!=0)=(n !=0):=b6.mpr (by simp)
theorem At.tk(a:At w A n Y x J N O l){R:aM->Prop}(q:∀y,At w A n Y y J N O l->Le Y.wm fP x y->y.H=x.H->R y.s)(t:Nat):R {x.s with toks:=t}:=lJ (yq (wm:=Y.wm) (P:=fP) a.rel t) λS L=>q (x.tok t) (a.step S L) L rfl
theorem pk(a:At w A n Y x J N O l)(r:Rv w x v u)(h:jn v x.H=some b)(q:∀y,At w A n Y y J N O l->Le Y.wm fP x y->y.H=x.H->Q b y.s):aR (aP pw w) A (ad1 u) Q E x.s:=by
 have z:∀t,Q b {x.s with toks:=t}:=a.tk q;have id:Q b x.s:=q x a .refl rfl;clear q;have go:∀c,some c=some b->Q c x.s:=λc h=>sY (P:=λo=>Q o x.s) (sI h) id;have p:∀{Z:ab D}{U:dw al},fh w x.g Z U.toList->some (!Z.isEmpty)=some b->∀t,Q (!U.isEmpty) {x.s with toks:=t}:=λr h t=>r.isEmpty▸so h (P:=λb=>(∀t,Q b {x.s with toks:=t})->Q (!_) {x.s with toks:=t}) (λq=>q t) z;induction v using V.casesOn with
 |d d=>induction d using D.casesOn with|fS=>exact tX r.eU λ_ _ _=>go _ h|bool c=>exact Na r.eU (acE (go _ h))|int i=>exact i4 r.eU λt=>P.truthy_int (go _ h)|str s=>exact jc r.eU λt=>if1 h λB h=>P.truthy_str (Ep B) ((Y0 s.cps.size).trans (sI h)▸z _)|tup Z=>exact lA r.eU λb U f j k _=>truthy_tuple (a.tup f) (j5 j) (p k h _)|lst Z=>exact Am r.eU λb U f j k=>acF (a.lst f) (j5 j) (p k h _)|_=>exact ec h
 |ref i=>exact s9 r λc e=>jW (P:=λo=>x.H[i]?=o->ON o=some b->aR (aP pw w) A (ad1 (.ref c)) Q E x.s) x.H[i]? (λ_ h=>ec h) (λZ m C h=>j6 (a.j4 C e) λU f j k=>acF f.isList (j5 j) (p k h _)) (λ_ _ _ h=>ec h) (λ_ _ h=>ec h) rfl h|ins _ _=>exact ec h
theorem xy{G:Prop}(h:itemAt Z k=some d)(I:k<0->¬(Z.length:Int)+k<0->Z[((Z.length:Int)+k).toNat]?=some d->G)(j:¬k<0->k.toNat<Z.length->Z[k.toNat]?=some d->G):G:=have h:(if k<0then(if(Z.length:Int)+k<0then none else Z[((Z.length:Int)+k).toNat]?)else Z[k.toNat]?)=some d:=h;if e:k<0then Tw ((aS e).symm.trans h) (I e)else have h:=(aX e).symm.trans h;j e (aE.mp h).1 h
theorem ES(a:At w A n Y x J N O l)(j:x.s.heap.IsTuple b U)(m:U.size<=bf)(c:fh w x.g Z U.toList)(h:itemAt Z k=some d)(q:∀u,Rd w x.g d u->Q u x.s):aR (aP pw w) A (aeA (.ref b) (.int k t)) Q E x.s:=xy h (λf i e=>c.at e λv e r=>aa5 j (Mn m (c.sz▸i)) (PN f) (c.sz▸LR f i) e (q v r)) λf i e=>c.at e λv e r=>aa5 j (OS f) (Nd m (c.sz▸i)) (c.sz▸AG f i) e (q v r)
theorem Ea(a:At w A n Y x J N O l)(j:x.s.heap.IsList b U)(o:U.size<=bf)(c:fh w x.g Z U.toList)(h:itemAt Z k=some d)(q:∀u,Rd w x.g d u->Q u x.s):aR (aP pw w) A (aeA (.ref b) (.int k t)) Q E x.s:=xy h (λi f e=>c.at e λv e r=>wpAny_getItem_list_neg j i (NU (c.sz▸f)) (Mn o (c.sz▸f)) ((ag (λm=>U[Int.toNat m]?) ((afo _ _).trans (ag (λm:Nat=>(m:Int)+k) c.sz.symm))).trans e) (q v r)) λi f e=>c.at e λv e r=>wpAny_getItem_list j (acP.mp i) (Nd o (c.sz▸f)) e (q v r)
theorem t6(h:D.eqv p k=some b):hU k ((p,v)::ps)=bif b then some (some v)else hU k ps:=by show(match D.eqv p k with|some true=>some (some v)|some false=>hU k ps|none=>none)=_;refine sY h ?_;induction b using a5<;>rfl
theorem vd{K:Type}[bA K]{k p:K}{v:al}{ps:ab (K×al)}:aes ((p,v)::ps) k=bif decide (p=k)then some v else aes ps k:=by unfold aes;rw[cS];generalize decide (p=k)=b;induction b using a5<;>rfl
theorem Ae{K:Type}[bA K]{k p:K}{v:b8×al}{ps:ab (K×b8×al)}:ae4 ((p,v)::ps) k=bif decide (p=k)then some v else ae4 ps k:=by unfold ae4;rw[cS];generalize decide (p=k)=b;induction b using a5<;>rfl
theorem sM(c:wy k=true){M:ae (ae D)->ae al->Prop}(n:M (some none) none)(s:∀d u,Rd w g d u->M (some (some d)) (some u))(h:eC (nG w g) B f):M (hU k B) (aes f k):=h.ind n λ{p q i j}e _ ih=>t6 (v:=p.2) (Ab (e.1▸e.2.1) c)▸vd (p:=q.1) (v:=q.2)▸e.1▸a5 (motive:=λb=>M (bif b then some (some p.2)else hU k i) (bif b then some q.2 else aes j k)) _ ih (s _ _ e.2.2)
theorem pM(c:k.sort=some .t){M:ae (ae D)->ae (b8×al)->Prop}(n:M (some none) none)(s:∀d u,Rd w g d u.2->M (some (some d)) (some u))(h:eC (lH w g) B f):M (hU k B) (ae4 f k):=h.ind n λ{p q i j}e _ ih=>t6 (v:=p.2) (pv 6 60 (ki (e.1▸e.2.1)) (ki c) (by decide))▸Ae (p:=q.1) (v:=q.2)▸e.1▸a5 (motive:=λb=>M (bif b then some (some p.2)else hU k i) (bif b then some q.2 else ae4 j k)) _ ih (s _ _ e.2.2.2)
theorem At.rm(a:At w A n Y x J N O l):(dK w).room A.in1:=by have:=a.room.units;show A.units+1+20<abN;lia
theorem Eg(a:At w A n Y x J N O l)(z:fe w x.g x.s.heap b B)(hs:(k.sort.any λq=>eg q B)=true)(f:Rd w x.g k m)(h:hU k B=some (some d))(q:∀u t,Rd w x.g d u->Q u {x.s with toks:=t}):aR (aP pw w) A (aeA (.ref b) m) Q E x.s:=o9 hs (λc hs=>d9 (z.QF hs) λC i j=>d9 (sM c (M:=λo p=>o=some (some d)->∃u,p=some u/\Rd w x.g d u) (λh=>ec (sI h)) (λ_ u r h=>i12 u rfl (sI (sI h)▸r)) j h) λu e r=>wpAny_getItem_of (knd:=sK w) (k:=k) (rJ c f) i.mapOf e (q u _ r)) λc hs=>d9 (z.TR hs a.rel.sub) λC i j=>d9 (pM c (M:=λo p=>o=some (some d)->∃u,p=some u/\Rd w x.g d u.2) (λh=>ec (sI h)) (λ_ u r h=>i12 u rfl (sI (sI h)▸r)) j h) λu e r=>oS (G:=λm=>aR (aP pw w) A (aeA (.ref b) m) Q E x.s) c f λH f=>wpAny_getItem_heap (knd:=dK w) a.rm ⟨c,f.keeps a.rel.sub⟩ i e (q _ _ r)
end
section
variable{w:bN}{n:Nat}{x y:Sx}{wm:Nat}{P:b8->Prop}{A:bH}{E:al->aM->Prop}{Y:Cx}{J:Env}{N:cg}{O:ab Str}{l:Loc}
noncomputable def pe(e:PySem.Expr):bp:=!Jh 26 e
theorem oH(h:pe k=true)(o i:al):subscripted k false o i=operate [o,i] (aeA o i):=by rcases k with⟨⟩<;>first|(exact fE h;done)|rfl
theorem nJ(t:pe k=true)(h:aR (aP pw w) A (cG c J) (λo d=>aR (aP pw w) A (cG k J) (λi b=>adm (aP pw w) A o i Q E b) E d) E s):aR (aP pw w) A (cG (.Subscript c k j) J) Q E s:=by
 refine aB (cz h (λo d f=>aB (aaT (cz f (λi b g=>aB (aav ?_)) λ_ _ x=>x))) λ_ _ x=>x);obtain⟨T,id,z,p,q⟩:=g;refine aB ?_;refine sY (getitemInPython_of_ne p.not_modules) ?_;refine aB (aa0 p z ?_);have fin:aR (aP pw w) A (subscripted k false o i) (λr e=>aR (aP pw w) A (letTemporaryGo c o r>>=λ_=>pure r) Q E e) E b:=by rw[oH t];exact wpAny_operating (cz q (λr e m=>aB (wpAny_letTemporaryGo (aQ m))) λ_ _ x=>x)
 first|exact aQ (aB fin)|exact aB (aQ (aB fin))|exact aB fin
theorem i3{r:b}{P:D->Prop}(h:nH k f=some r)(c:∀n,f n=some r->P (.int n)):P k:=by induction k using D.casesOn with|int n=>exact c n h|_=>exact ec h
theorem xd{r:b}{P:D->Prop}(h:Qk k f=some r)(c:∀n,f n=some r->P (.str n)):P k:=by induction k using D.casesOn with|str n=>exact c n h|_=>exact ec h
theorem Ie{r:b}{P:D->Prop}(h:S8 k f=some r)(c:∀n,f n=some r->P (.tup n)):P k:=by induction k using D.casesOn with|tup n=>exact c n h|_=>exact ec h
theorem rZ{r:b}{P:D->Prop}(h:LI k f=some r)(c:∀n,f n=some r->P (.lst n)):P k:=by induction k using D.casesOn with|lst n=>exact c n h|_=>exact ec h
theorem pA{b:Type}{f:D->ae b}{r:b}{P:V->Prop}(h:(II v).bind f=some r)(c:∀d,f d=some r->P (.d d)):P v:=by induction v using V.casesOn with|d d=>exact c d h|_=>exact ec h
theorem LX{P:V->Prop}(h:QY v=some u)(c:P (.d .fS)):P v:=pA h λd h=>by induction d using D.casesOn with|fS=>exact c|_=>exact ec h
theorem LM(h:RA b=some u):b=true:=a5 (motive:=λb=>RA b=some u->b=true) b (λh=>ec h) (λ_=>rfl) h
noncomputable def Vt(k:D):ae Cell->ae V|some (.lst Z _)=>nH k λn=>(itemAt Z n).map .d|some (.eH B _)=>if k.sort.any λq=>eg q B then(match hU k B with|some (some v)=>some (.d v)|_=>none)else none|_=>none
theorem Vf{P:V->Prop}(h:(match o with|some (some v)=>some (V.d v)|_=>none)=some r)(c:∀d,o=some (some d)->P (.d d)):P r:=match o,h,c with|none,h,_=>ec h|some none,h,_=>ec h|some (some d),h,c=>so h (c d rfl)
@[elab_as_elim]theorem DD{P:V->D->V->Prop}{v r:V}{k:D}{H:Hp}(h:fZ v k H=some r)(p:∀s n d,strAt s n=some d->P (.d (.str s)) (.int n) (.d d))(t:∀Z n d,itemAt Z n=some d->P (.d (.tup Z)) (.int n) (.d d))(z:∀Z n d,itemAt Z n=some d->P (.d (.lst Z)) (.int n) (.d d))(C:∀i Z md n d,H[i]?=some (.lst Z md)->itemAt Z n=some d->P (.ref i) (.int n) (.d d))(G:∀i B j d,H[i]?=some (.eH B j)->(k.sort.any λq=>eg q B)=true->hU k B=some (some d)->P (.ref i) k (.d d)):P v k r:=by
 induction v using V.casesOn with
 |d x=>induction x using D.casesOn with|tup Z=>exact i3 (P:=λk=>P (.d (.tup Z)) k r) (show nH k (λn=>(itemAt Z n).map V.d)=some r from h) λn h=>j0 h λd b c=>c▸t _ _ _ b|lst Z=>exact i3 (P:=λk=>P (.d (.lst Z)) k r) (show nH k (λn=>(itemAt Z n).map V.d)=some r from h) λn h=>j0 h λd b c=>c▸z _ _ _ b|str Z=>exact i3 (P:=λk=>P (.d (.str Z)) k r) (show nH k (λn=>(strAt Z n).map V.d)=some r from h) λn h=>j0 h λd b c=>c▸p _ _ _ b|_=>exact ec h
 |ref i=>exact jW (P:=λo=>H[i]?=o->Vt k o=some r->P (.ref i) k r) H[i]? (λ_ h=>ec h) (λZ m g h=>i3 (P:=λk=>P (.ref i) k r) (show nH k (λn=>(itemAt Z n).map V.d)=some r from h) λn h=>j0 h λd b c=>c▸C _ _ _ _ _ g b) (λB f g h=>if1 h λhs h=>Vf h λd e=>G _ _ _ _ g hs e) (λ_ _ h=>ec h) rfl h|ins=>exact ec h
theorem JR{G:Prop}(h:strAt s i=some d)(k:∀c,s.cps[i.toNat]?=some c->d=.str ⟨#[c]⟩->¬i<0->¬(1000000:Int)<i->G):G:=Tw h λb h=>j0 h λc e f=>k c e f.symm (λh=>b (.inl h)) λh=>b (.inr h)
theorem Ka(b:¬i<0)(c:¬(1000000:Int)<i):(decide (i< -(2^63:Int))||decide (i>=2^63))=false:=by simp only[aaS,decide_eq_false_iff_not];lia
theorem Ma(a:At w A n Y x J N O l)(r:Rv w x vo uo)(e:Rd w x.g k uk)(h:fZ vo k x.H=some v)(q:∀y u,At w A n Y y J N O l->Le Y.wm fP x y->y.H=x.H->Rv w y v u->Q u y.s):adm (aP pw w) A uo uk Q E x.s:=by
 have I:∀{u:al},Rv w x v u->∀t,Q u {x.s with toks:=t}:=λhr t=>a.iw rfl hr t q;have p:∀{u:al},Rv w x v u->Q u x.s:=λhr=>a.done rfl hr q;clear q;have L:∀{Z:ab D}{i:Int}{d:D},itemAt Z i=some d->(∀u,Rd w x.g d u->Q u x.s)->Rd w x.g (.int i) uk->∀{b:b8}{U:dw al},x.s.heap.IsList b U->U.size<=bf->fh w x.g Z U.toList->adm (aP pw w) A (.ref b) uk Q E x.s:=λf p e b U G M C=>i4 e λt=>⟨"list",_,slot_list_getitem.lookup,G.typeIs,Ea a G M C f p⟩;revert r e I p;refine DD h ?_ ?_ ?_ ?_ ?_<;>clear h;.exactλs i d f r e I _=>jc r.eU λt=>i4 e λt'=>JR f λc e8 e9 m z=>⟨"str",_,F.slot_str_getitem.lookup,adT _ _ _,adV (c:=c) (Ka m z) (sY (P:=λo:ae Nat=>o.bind (s.cps[·]?)=some c) (AG m (Array.getElem?_eq_some_iff.mp e8).1) e8) (I (.d (e9▸.str _ _)) _)⟩
 .exactλZ i d f r e _ p=>i4 e λt=>lA r.eU λb U m z T _=>⟨"tuple",_,F.slot_tuple_getitem.lookup,(a.tup m).typeIs,ES a (a.tup m) z T f λu r=>p (.d r)⟩
 .exactλZ i d f r e _ p=>Am r.eU λb U m z T=>L f (λu r=>p (.d r)) e (a.lst m) z T
 .exactλj Z md i d X f r e _ p=>s9 r λb R=>j6 (a.j4 X R) λU G M C=>L f (λu r=>p (.d r)) e G.isList M C
 .exactλj B fz d X hs hk r e I _=>s9 r λb R=>ph (a.nq X R) λG M C=>⟨"dict",_,slot_dict_getitem.lookup,d9 C.exact λo m z=>i12 o m z.1,Eg a C hs e hk λu t r=>I (.d r) t⟩
theorem KV(M:eo w n R N O (λJ=>cG o J))(L:eo w n Q N O (λJ=>cG k J))(hs:pe k=true):eo w n (NF R Q) N O (λJ=>cG (.Subscript o k p) J):=λa e q=>jU e λvo X s t=>jU t λdk H2 B C=>j0 C λvr G c=>nJ hs (M a s λy uo m g I U=>L.dat m g (sY I B) λz uk r i b d Z=>Ma r (U.le b) Z (sY d G) λy' h j f H T=>q y' h j (i.trans f) ((H.trans d).trans (pJ c).2) ((pJ c).1▸T))
theorem HJ{P:D->D->Prop}(h:fv R a b=some z)(ci:∀i j,binI R i j=some z->P (.int i) (.int j))(cs:∀i j,PO R i j=some z->P (.str i) (.str j)):P a b:=by
 induction a using D.casesOn with
 |int i=>induction b using D.casesOn with|int j=>exact ci i j h|_=>exact ec h
 |str i=>induction b using D.casesOn with|str j=>exact cs i j h|_=>exact ec h
 |_=>exact ec h
theorem KR(h:binI R i j=some d)(b:∀k t',some (D.int k)=some d->∀t,Q (.int k t') {s with toks:=t}):aR (aP pw w) A (aeJ R (.int i t) (.int j u)) Q E s:=by induction R using abx with|Add=>exact afG (b _ _ h _)|Sub=>exact afN (b _ _ h _)|Mult=>exact if1 h λc h=>afK (b _ _ h _) (IntMulOk.of_left (intBits_le (bZ c.1 (by decide))))|Mod=>exact if1 h λc h=>afP (by lia) (b _ _ h _)|Pow=>exact if1 h λc e=>by obtain⟨rfl,f,g⟩:=c;exact ads (by assumption) (by lia) (by decide) (b _ _ e _)|BitAnd=>exact afE (b _ _ h _)|FloorDiv=>exact if1 h λc h=>adH (by lia) (b _ _ h _) (.inl (PyProof.noPylong_small (by lia)))|_=>exact ec h
theorem J8(h:PO R i j=some d)(c:∀k t',some (D.str k)=some d->∀t,Q (.str k t') {s with toks:=t}):aR (aP pw w) A (aeJ R (.str i t) (.str j u)) Q E s:=by induction R using abx with|Add=>exact if1 h λb h=>afI (λt' e=>c _ _ h _) (ar b kU)|_=>exact ec h
theorem Lz(a:At w A n Y x J N O l)(b:Rd w x.g f o)(c:Rd w x.g m p)(h:fv R f m=some d)(q:∀y u,At w A n Y y J N O l->Le Y.wm fP x y->y.H=x.H->Rv w y (.d d) u->Q u y.s):aR (aP pw w) A (aeJ R o p) Q E x.s:=by revert b c;exact HJ (P:=λf m=>Rd w x.g f o->Rd w x.g m p->aR (aP pw w) A (aeJ R o p) Q E x.s) h (λi j e b c=>i4 b λt=>i4 c λu=>KR e λk r e t=>a.iw rfl (.d (bR e▸.int _ _)) t q) λi j e b c=>jc b λt=>jc c λu=>J8 e λk r e t=>a.iw rfl (.d (bR e▸.str _ _)) t q
theorem Lu(C:eo w n M N O (λJ=>cG o J))(G:eo w n Q N O (λJ=>cG r J)):eo w n (Nj R M Q) N O (λJ=>cG (.BinOp o R r p) J):=λa e q=>jU e λd1 X H e=>jU e λd2 H2 I e=>j0 e λd L c=>wpAny_BinOp (eo.dat C a .refl H λy u1 k g _ s U=>eo.dat G k g (sY s I) λz u2 m i b t Z=>Lz m (U.keeps b.gk) Z L λy' h j f B T=>q y' h j (i.trans f) ((B.trans t).trans (pJ c).2) ((pJ c).1▸T))
theorem J4:eo w n (Of i) N O (λJ=>cG (.UnaryOp .USub (.Constant (.int i) k p') p) J):=by intro A E Y x J l v b Q a e q;revert q;refine sP e λq=>?_;refine acn (dG (P.neg_int ?_));exact a.iw (v:=.d (.int (-i))) rfl (.d (.int _ _)) _ q
theorem GN{x y:D}{G:Prop}(h:D.has x (y::ys)=some b)(k:∀c d,D.eqv y x=some c->D.has x ys=some d->(c||d)=b->G):G:=by have h:(match D.eqv y x,D.has x ys with|some a,some b=>some (a||b)|_,_=>none)=some b:=h;revert h k;generalize D.eqv y x=o;generalize D.has x ys=q;induction o using b5 with|none=>exactλ_ h=>ec h|some c=>induction q using b5 with|none=>exactλ_ h=>ec h|some d=>exactλk h=>k c d rfl rfl (sI h)
theorem Je{x:D}(C:Rd w s.heap x f)(B:A.units+60<abN)(h:D.has x Z=some b)(r:fh w s.heap Z U):(∀v∈U,∃c,acr A s v f c)/\(b=true->∃v∈U,acr A s v f true)/\(b=false->∀v∈U,acr A s v f false):=r.ind (P:=λZ U=>∀b,D.has x Z=some b->(∀v∈U,∃c,acr A s v f c)/\(b=true->∃v∈U,acr A s v f true)/\(b=false->∀v∈U,acr A s v f false)) (λb h=>so h ⟨λ_ h=>kn h,λh=>fE h,λ_ _ h=>kn h⟩) (λ{y v G U}p q ih b h=>GN h λc d o t j=>have e:=(rE 60 o p C B).2.1;have i:=ih d t;⟨bC.mpr ⟨Oj c e,i.1⟩,λg=>(du.mp (j.trans g)).elim (λz=>i12 v (.head _) (z▸e)) (λhd=>d9 (i.2.1 hd) λu m k=>i12 u (.tail _ m) k),λg=>bC.mpr ⟨(aaS.mp (j.trans g)).1▸e,i.2.2 (aaS.mp (j.trans g)).2⟩⟩) b h
open Classical in theorem Po{A:bH}{s:aM}{v x:al}{c:bp}(h:acr A s v x c):acr A s v x (decide (acr A s v x true)):=if e:acr A s v x true then sY (P:=λb=>acr A s v x b) (ay e) e else a5 (motive:=λc=>acr A s v x c->acr A s v x (decide (acr A s v x true))) c (λh=>sY (P:=λb=>acr A s v x b) (aw e) h) (λh=>ax h e) h
open Classical in theorem has_any{A:bH}{s:aM}{x:D}{xv:al}(rx:Rd w s.heap x xv)(hu:A.units+60<abN){Z:ab D}{U:ab al}{b:bp}(h:D.has x Z=some b)(r:fh w s.heap Z U):∃e:al->bp,(∀v∈U,acr A s v xv (e v))/\U.any e=b:=have i:=Je rx hu h r;a5 (motive:=λb=>(b=true->∃v∈U,acr A s v xv true)/\(b=false->∀v∈U,acr A s v xv false)->∃e:al->bp,(∀v∈U,acr A s v xv (e v))/\U.any e=b) b (λi=>i12 (λ_=>false) (i.2 rfl) (List.any_eq_false.mpr λ_ _=>cL)) (λk=>i12 (λv=>decide (acr A s v xv true)) (λv hv=>(i.1 v hv).elim λc=>Po) (d9 (k.1 rfl) λu m k=>dy.mpr (i12 u m (ay k)))) i.2
theorem Gq{g:Heap}:∀{B:ab (D×al)}{U:ab D},(∀p∈B,wy p.1=true)->fh w g U (B.map (·.2))->eC (nG w g) ((B.map (·.1)).zip U) B:=by intro B;induction B with|nil=>exactλ_ _=>.nil|cons p r ih=>exactλk h=>FI (P:=λU=>eC (nG w g) ((p.1::r.map (λq:D×al=>q.1)).zip U) (p::r)) h λx b a q=>.cons ⟨rfl,k p (.head _),a⟩ (ih (λp h=>k p (.tail _ h)) q)
theorem Ad(r:Rd w g (.eH I U) u):∃b,u=.ref b/\(b==cM)=false/\(I.zip U).length<=bf/\fe w g g b (I.zip U):=QS (show∃a B,u=.ref a/\I=B.map (·.1)/\g.DictOf (sK w) a B/\(a==cM)=false/\B.length<=bf/\(∀p∈B,wy p.1=true)/\fh w g U (B.map (·.2))from r.inv) λa B h=>VC h λd c e f i j m=>have E:=Gq j m;VH a d f (c▸E.length▸i) (c▸.k e E)
theorem PK(a:At w A n Y x J N O l)(r:fe w x.g x.s.heap b B)(z:(b==cM)=false)(hs:(k.sort.any λq=>eg q B)=true)(e:Rd w x.g k j)(h:hU k B=some o)(q:∀t,Q (.bool o.isSome) {x.s with toks:=t}):aR (aP pw w) A (cZ .In j (.ref b)) Q E x.s:=o9 hs (λd hs=>d9 (r.QF hs) λC f i=>wpAny_in_of (knd:=sK w) (k:=k) (rJ d e) z f.mapOf (sY (P:=λc=>Q (.bool c) _) (sM d (M:=λm p=>m=some o->p.isSome=o.isSome) (λh=>sI h▸rfl) (λ_ _ _ h=>sI h▸rfl) i h) (q _))) λd hs=>d9 (r.TR hs a.rel.sub) λC f i=>oS (G:=λj=>aR (aP pw w) A (cZ .In j (.ref b)) Q E x.s) d e λH e=>wpAny_in_heap (knd:=dK w) a.rm ⟨d,e.keeps a.rel.sub⟩ z f (sY (P:=λc=>Q (.bool c) _) (pM d (M:=λm p=>m=some o->p.isSome=o.isSome) (λh=>sI h▸rfl) (λ_ _ _ h=>sI h▸rfl) i h) (q _))
theorem ta(h:aR (aP pw w) A (cZ .In v c) (λr s'=>∃b,r=.bool b/\Q b s') E s):aR (aP pw w) A (contains c v) Q E s:=by intro f p e;have:=h f p e;rw[(show cZ .In v c=(contains c v>>=λb=>pure (.bool b))from rfl),afA]at this;refine aaZ _ f _ (λb i s' z=>?_) (λ_ _ _ z=>z) _ _ this;obtain⟨g,d,z⟩:=z;injection d with d;subst d;exact z
theorem xp(h:aR (aP pw w) A (cZ .In v c) (λr s'=>∃b,r=.bool b/\Q (.bool (!b)) s') E s):aR (aP pw w) A (cZ .NotIn v c) Q E s:=by exact aB (ta (cz h (λr s'⟨b,e,q⟩=>⟨b,e,aQ q⟩) λ_ _ z=>z))
noncomputable def ZN(x:D):ae Cell->ae bp|some (.lst Z _)=>D.has x Z|some (.eH B _)=>if x.sort.any λq=>eg q B then(hU x B).map (·.isSome)else none|_=>none
noncomputable def YK(x:D)(s:Str):ae bp:=match x with|.str t=>if t.cps.size=1then some (!(cO s t 0 s.length 1).isEmpty)else none|_=>none
theorem Kj{x:D}{P:D->Prop}(h:YK x s=some b)(k:∀t,(!(cO s t 0 s.length 1).isEmpty)=b->P (.str t)):P x:=by induction x using D.casesOn with|str t=>exact if1 h λ_ h=>k t (sI h)|_=>exact ec h
theorem MM(a:At w A n Y x J N O l)(X:Rd w x.g d L)(r2:Rv w x v u2)(h:rn d v x.H=some b)(q:∀y,At w A n Y y J N O l->Le Y.wm fP x y->y.H=x.H->Q (.bool b) y.s):aR (aP pw w) A (cZ .In L u2) Q E x.s:=by
 have id:Q (.bool b) x.s:=q x a .refl rfl;have tk:∀t,Q (.bool b) {x.s with toks:=t}:=a.tk (R:=Q (.bool b)) q;clear q;have room:A.in1.units+60<abN:=by have:=a.room.units;show A.units+1+60<abN;lia
 have r:∀{Z:ab D}{U:dw al}{G:Prop},D.has d Z=some b->fh w x.g Z U.toList->(∀e:al->bp,(∀y∈U,acr A.in1 x.s y L (e y))->Q (.bool (U.any e)) x.s->G)->G:=λh g k=>d9 (has_any (A:=A.in1) (a.rd X) room h (a.IV g)) λe C T=>k e (λy hy=>C y (Array.mem_toList_iff.mpr hy)) (sY (P:=λc=>Q (.bool c) x.s) ((abA (p:=e)).symm.trans T) id);have M:∀{j:b8}{B:ab (D×D)},fe w x.g x.s.heap j B->(j==cM)=false->(if d.sort.any λq=>eg q B then(hU d B).map (·.isSome)else none)=some b->aR (aP pw w) A (cZ .In L (.ref j)) Q E x.s:=λD0 hb h=>if1 h λhs h=>j0 h λo C h5=>PK a D0 hb hs X C (h5.symm▸tk);induction v using V.casesOn with
 |d y=>induction y using D.casesOn with|str s=>exact jc r2.eU λt=>Kj (P:=λd=>Rd w x.g d L->aR (aP pw w) A (cZ .In L (.str s t)) Q E x.s) h (λs' h X=>jc X λt'=>agp (h.symm▸id)) X|tup Z=>exact lA r2.eU λj U C T h3 _=>r h h3 λe k z=>in_tupleAt e (a.tup C) k z|lst Z=>exact Am r2.eU λj U C T h3=>r h h3 λe k z=>in_listAt e (a.lst C) k z|eH I U=>exact Bz (Ad r2.eU) λj e T h3 h4=>e▸M (h4.keeps (λ_ _ e=>e) λo e=>a.rel.sub _ _ e) T h|_=>exact ec h
 |ref i=>exact s9 r2 λj e=>jW (P:=λo=>x.H[i]?=o->ZN d o=some b->aR (aP pw w) A (cZ .In L (.ref j)) Q E x.s) x.H[i]? (λ_ h=>ec h) (λZ m hi h=>j6 (a.j4 hi e) λU g1 g2 g3=>r h g3 λe k z=>in_listAt e g1.isList k z) (λB f hi h=>ph (a.nq hi e) λg1 g2 g3=>M g3 g1 h) (λ_ _ h=>ec h) rfl h|ins _ _=>exact ec h
noncomputable def Q4(f:Int->Int->bp)(d:D)(v:V):ae bp:=match d,v with|.int x,.d (.int y)=>some (f x y)|_,_=>none
theorem J3{P:D->V->bp->Prop}(h:Q4 f d v=some b)(k:∀i j,P (.int i) (.d (.int j)) (f i j)):P d v b:=by
 induction d using D.casesOn with
 |int i=>
  induction v using V.casesOn with
  |d y=>induction y using D.casesOn with|int j=>exact so h (k i j)|_=>exact ec h
  |_=>exact ec h
 |_=>exact ec h
theorem Fh{v:V}{f:D->ae bp}{P:Prop}(h:(match v with|.d y=>f y|_=>none)=some b)(k:∀y,v=.d y->f y=some b->P):P:=match v,h,k with|.d y,h,k=>k y rfl h|.ref _,h,_=>ec h|.ins _ _,h,_=>ec h
theorem PD(a:At w A n Y x J N O l)(p:Rd w x.g d B)(z:Rv w x v C)(h:f6 R d v x.H=some b)(q:∀y,At w A n Y y J N O l->Le Y.wm fP x y->y.H=x.H->Q (.bool b) y.s):aR (aP pw w) A (cZ R B C) Q E x.s:=by
 have o:A.units+60<abN:=by have:=a.room.units;lia
 have m:∀{f:Int->Int->bp}{R:afb},Q4 f d v=some b->(∀i j t L,Q (.bool (f i j)) x.s->aR (aP pw w) A (cZ R (.int i t) (.int j L)) Q E x.s)->aR (aP pw w) A (cZ R B C) Q E x.s:=by intro f R X k;clear h;have id:Q (.bool b) x.s:=q x a .refl rfl;clear q;revert p z id;exact J3 (P:=λd v b=>Rd w x.g d B->Rv w x v C->Q (.bool b) x.s->aR (aP pw w) A (cZ R B C) Q E x.s) X λi j p z id=>i4 p λt=>i4 z.eU λL=>k i j t L id
 induction R using CmpOp.casesOn with|Eq=>exact Fh h λy e h=>by subst e;exact(rE 60 h (a.rd p) (a.rd z.eU) o).1 _ _ _ _ (q x a .refl rfl)|NotEq=>exact Fh (f:=λy=>(D.eqv d y).map (!·)) h λy e h=>j0 h λr G I=>by subst e I;exact(rE 60 G (a.rd p) (a.rd z.eU) o).2.2 _ _ _ _ (q x a .refl rfl)|Lt=>exact m (f:=λx y=>decide (x<y)) h λ_ _ _ _ id=>agx id|LtE=>exact m (f:=λx y=>decide (x<=y)) h λ_ _ _ _ id=>ags id|Gt=>exact m (f:=λx y=>decide (y<x)) h λ_ _ _ _ id=>agD id|GtE=>exact m (f:=λx y=>decide (y<=x)) h λ_ _ _ _ id=>agF id|In=>exact MM a p z h q|NotIn=>exact j0 h λc G I=>xp (MM a p z G λy T M U=>⟨c,rfl,I▸q y T M U⟩)|_=>exact ec h
theorem tZ(h:iX e=true):behindInMarks R e=false:=by rcases e with⟨⟩<;>first|(exact fE h;done)|rfl
theorem Ki(G:eo w n Q N O (λJ=>cG t J))(H:eo w n T N O (λJ=>cG f J))(hs:iX f=true):eo w n (Oy R Q T) N O (λJ=>cG (.Compare t [R] [f] p) J):=λa e q=>jU e λd1 X I e=>jU e λv2 H2 L e=>j0 e λb M g=>wpAny_Compare1 (eo.dat G a .refl I λy u1 r k _ B U=>eo.on H r k (sY B L) λz u2 s m c i Z=>PD s (U.keeps c.gk) Z (sY i M) λh o j C=>q h _ o (m.trans j) ((C.trans i).trans (pJ g).2) ((pJ g).1▸.d (.bool _))) (tZ hs)
theorem EM(r:Rd w g d u):(u==ab3)=isNone (.d d):=Rd.casesOn (motive_1:=λd u _=>(u==ab3)=isNone (.d d)) r rfl (λ_=>rfl) (λ_ _=>rfl) (λ_ _=>rfl) (λ_ _ _ _=>rfl) (λ_ _ _=>rfl) (λ_ _ _ _ _=>rfl) λ_ _ _ _ _ _ _=>rfl
theorem LK(r:Rv w x v u):(u==ab3)=isNone v:=Rv.casesOn (motive:=λv u _=>(u==ab3)=isNone v) r EM (λ_=>rfl) λ_ _ _=>rfl
theorem xY(r:eo w n z N O (λJ=>cG m J)):eo w n (A4 I z) N O (λJ=>cG (.Compare m [if I then .IsNot else .Is] [.Constant .none k p'] p) J):=λ{A E Y x J l v C Q}a e q=>yp e λG X t g=>wpAny_Compare1 (r a t λy b j i o B=>ack (have fin:Q (.bool ((b==.none)!=I)) y.s:=q y _ j i (o.trans (pJ g).2) ((pJ g).1▸LK B▸.d (.bool _));a5 (motive:=λI=>Q (.bool ((b==.none)!=I)) y.s->aR (aP pw w) A (cZ (if I then .IsNot else .Is) b .none) Q E y.s) I (λf=>is_none (sZ (P:=λc=>Q (.bool c) y.s) (Bool.bne_false _) f)) (λf=>isNot_none (sZ (P:=λc=>Q (.bool c) y.s) (Bool.bne_true _) f)) fin)) rfl
end
section
variable{w:bN}{n:Nat}{x y:Sx}{wm:Nat}{P:b8->Prop}{A:bH}{E:al->aM->Prop}{Y:Cx}{J:Env}{N:cg}{O:ab Str}{l:Loc}
theorem yx(hs:iX g=true)(h:aR (aP pw w) A (cG (.Compare i [R] [g] p) J) (λv s'=>aR (aP pw w) A (ad1 v) Q E s') E s):aR (aP pw w) A (aax (.Compare i [R] [g] p) J f) Q E s:=λe q d=>by have h:=h e q d;simp only[isTrue_Compare1,eval_Compare1,markedBehindIn_of_false (tZ hs),afA,Sem.wp_holding,Sem.wp_cmd_standAt,Sem.wp_operate]at h⊢;exact aaZ _ e _ (λa o B j=>aaZ _ e _ (λb r C k=>aaZ _ e _ (λc t G m=>m e _ d) (λ_ _ _ z=>z) _ _ k) (λ_ _ _ z=>z) _ _ j) (λ_ _ _ z=>z) _ _ h
noncomputable def p7(e:PySem.Expr):bp:=lI e (M:=λ_=>bp) (λ_=>true) (λ_ _ _=>true) (λ_ _=>true) (λ_ _ _=>true) (λ_ _=>true) (λ_ _ _=>true) (λR _ _=>match R with|.Not=>false|_=>true) (λ_ _ _ _=>true) (λ_ _ _=>false) (λ_ _ _ _=>false) (λ_ _ _ _=>false) (λ_ _ _ _=>true) (λ_ _ _=>true) (λ_ _ _=>true) (λ_ _ _ _=>true) (λ_ _ _ _=>true)
theorem isTrue_plain(h:p7 e=true)(J:Env)(b:Sem al):aax e J b=(do let v←b;standAt e.pos;holding [v] (ad1 v)):=by
 cases e with
 |UnaryOp R x p=>rcases R with⟨⟩<;>first|(exact fE h;done)|rfl
 |BoolOp _ _ _=>exact fE h|IfExp _ _ _ _=>exact fE h|Compare _ _ _ _=>exact fE h|_=>rfl
theorem IF(h:eo w n m N O (λJ=>cG e J))(g:p7 e=true\/∃i R f p,e=.Compare i [R] [f] p/\iX f=true):mr w n (tE m) N O (λJ=>aax e J (cG e J)):=by
 intro A E Y x J l b M Q a d q;refine(let L:Prop:=_;(?_:L));refine jU d λv X C d=>?_;refine j0 d λT G d=>?_;cases d;have c:aR (aP pw w) A (cG e J) (λv I=>aR (aP pw w) A (ad1 v) Q E I) E x.s:=h a C λy u r k j H=>pk r H ((sY j G)) λz t o B=>q z t (k.trans o) (B.trans j);clear h;rcases g with g|⟨i,R,f,p,rfl,hs⟩;.exact wpAny_isTrue_value c (isTrue_plain g _ _)
 .exact yx hs c
theorem yW{code:Env->Sem bp}:mr w n (λ_ _ _=>none) N O code:=by intro A E Y x J l v b Q a e q;exact ec e
theorem GJ(h:mr w n t N O (λJ=>aax e J (cG e J))):mr w n (QC t) N O (λJ=>aax (.UnaryOp .Not e p) J (cG (.UnaryOp .Not e p) J)):=by intro A E Y x J l b k Q a c q;refine(let j:Prop:=_;(?_:j));refine yp c λm X i c=>?_;obtain⟨rfl,rfl⟩:=pJ c;exact wpAny_isTrue_Not (h a i λy f d g=>q y f d g)
theorem GK:∀{es:ab PySem.Expr},(∀e∈es,mr w n (f e) N O (λJ=>aax e J (cG e J)))->mr w n (gM (es.map f)) N O (λJ=>allTrue .And es J):=by intro es;induction es with|nil=>intro _;intro _ _ _ _ _ _ _ _ _ a b q;revert q;refine sP b λq=>?_;exact wpAny_allTrue_And_nil (q _ a .refl rfl)|cons e es ih=>intro h;intro _ _ _ _ _ _ _ _ _ a b q;refine jU b λc X j b=>?_;refine wpAny_allTrue_And_cons (h e aF a j λy g d i=>?_);clear j;induction c using a5 with|true=>exact ih (λe p=>h e (aD _ p)) g ((sY i b)) λz m k o=>q z m (d.trans k) o|false=>revert q;refine sP b λq=>?_;exact q y g d i
theorem F4:∀{es:ab PySem.Expr},(∀e∈es,mr w n (f e) N O (λJ=>aax e J (cG e J)))->mr w n (Ce (es.map f)) N O (λJ=>allTrue .Or es J):=by intro es;induction es with|nil=>intro _;intro _ _ _ _ _ _ _ _ _ a b q;revert q;refine sP b λq=>?_;exact wpAny_allTrue_Or_nil (q _ a .refl rfl)|cons e es ih=>intro h;intro _ _ _ _ _ _ _ _ _ a b q;refine jU b λc X j b=>?_;refine wpAny_allTrue_Or_cons (h e aF a j λy g d i=>?_);clear j;induction c using a5 with|false=>exact ih (λe p=>h e (aD _ p)) g ((sY i b)) λz m k o=>q z m (d.trans k) o|true=>revert q;refine sP b λq=>?_;exact q y g d i
theorem uO(h:mr w n t N O (λJ=>allTrue R es J)):mr w n t N O (λJ=>aax (.BoolOp R es p) J (cG (.BoolOp R es p) J)):=by intro A E Y x J l b d Q a c q;exact wpAny_isTrue_BoolOp (h a c q)
theorem Nx(G:mr w n t N O (λJ=>aax k J (cG k J)))(B:eo w n H N O (λJ=>cG r J))(C:eo w n I N O (λJ=>cG s J)):eo w n (Vl t H I) N O (λJ=>cG (.IfExp k r s p) J):=by intro A E Y x J l v L Q a e q;refine jU e λb X o e=>?_;refine wpAny_IfExp (G a o λy j i m=>?_);clear o;induction b using a5 with|true=>exact eo.on B j i ((sY m e)) λz u d c _ f g=>q z u d c f g|false=>exact eo.on C j i ((sY m e)) λz u d c _ f g=>q z u d c f g
theorem qG(h:aR (aP pw w) A t (λv j=>aR (aP pw w) A (ad1 v) (λb e=>match R,b with|.And,false|.Or,true=>Q v e|_,_=>aR (aP pw w) A (boolOp p R (i::ts)) Q E e) E j) E s):aR (aP pw w) A (boolOp p R (t::i::ts)) Q E s:=by show aR _ _ (do let v←t;standAt p;let b←holding [v] (ad1 v);match R,b with|.And,false|.Or,true=>pure v|_,_=>boolOp p R (i::ts)) Q E s;refine aB (cz h (λv f c=>aB (aav (aB (aaT (cz c (λb g d=>?_) λ_ _ x=>x))))) λ_ _ x=>x);clear c h;rcases R with⟨⟩<;>rcases b with⟨⟩<;>first|exact aQ d|exact d
theorem snd_and:∀{es:ab PySem.Expr},(∀e∈es,eo w n (f e) N O (λJ=>cG e J))->eo w n (yP (es.map f)) N O (λJ=>boolOp p .And (evalEach es J)):=by
 intro es;induction es with
 |nil=>intro _ _ _ _ _ _ _ _ _ _ a c q;exact ec c|cons e es ih=>
  intro h;rcases es with _|⟨Q,es⟩;.exact h e aF
  intro _ _ _ _ _ _ _ _ _ a c q;refine(let i:Prop:=_;(?_:i));refine jU c λR X o c=>?_;refine vj c λb r c=>?_;refine qG (h e aF a o λy u B j g s=>pk B s ((sY g r)) λz k d m=>?_);refine(let i:Prop:=_;(?_:i));clear o r;induction b using a5 with|false=>revert q;refine sP c λq=>?_;exact q z u k (j.trans d) (m.trans g) (s.le d)|true=>exact ih (λe I=>h e (aD _ I)) k (by rw[m,g];exact c) λC M G t H L=>q C M G ((j.trans d).trans t) H L
theorem NW:∀{es:ab PySem.Expr},(∀e∈es,eo w n (f e) N O (λJ=>cG e J))->eo w n (OU (es.map f)) N O (λJ=>boolOp p .Or (evalEach es J)):=by
 intro es;induction es with
 |nil=>intro _ _ _ _ _ _ _ _ _ _ a c q;exact ec c|cons e es ih=>
  intro h;rcases es with _|⟨Q,es⟩;.exact h e aF
  intro _ _ _ _ _ _ _ _ _ a c q;refine(let i:Prop:=_;(?_:i));refine jU c λR X o c=>?_;refine vj c λb r c=>?_;refine qG (h e aF a o λy u B j g s=>pk B s ((sY g r)) λz k d m=>?_);refine(let i:Prop:=_;(?_:i));clear o r;induction b using a5 with|true=>revert q;refine sP c λq=>?_;exact q z u k (j.trans d) (m.trans g) (s.le d)|false=>exact ih (λe I=>h e (aD _ I)) k (by rw[m,g];exact c) λC M G t H L=>q C M G ((j.trans d).trans t) H L
theorem Ll(h:eo w n m N O (λJ=>cG e J)):eo w n (TH m) N O (λJ=>cG (.UnaryOp .Not e p) J):=by intro A E Y x J l v C Q a c q;refine(let B:Prop:=_;(?_:B));refine jU c λG X r c=>?_;refine j0 c λb s c=>?_;obtain⟨rfl,rfl⟩:=pJ c.symm;refine acn (h a r λy u j g f t=>not_value (pk j t ((sY f s)) λz k i o=>?_));exact q z _ k (g.trans i) (o.trans f) (.d (.bool _))
theorem vs{f:PySem.Expr->ME}:∀{es:ab PySem.Expr},(∀e∈es,eo w n (f e) N O (λJ=>cG e J))->noStar es=true->∀{A:bH}{E:al->aM->Prop}{Y:Cx}{x:Sx}{J:Env}{l:Loc}{U:ab V}{g:Hp}{Q:ab al->aM->Prop}{j:Pos}{b:Sx},At w A n Y x J N O l->Le Y.wm fP b x->mV (es.map f) Y l x.H=some (U,g)->(∀y i,At w A n Y y J N O l->Le Y.wm fP b y->Le Y.wm fP x y->y.H=g->eC (Rv w y) U i->Q i y.s)->aR (aP pw w) A (aey (aa9 j (c6 es J))) Q E x.s:=by intro es;induction es with|nil=>intro _ _ A E Y x J l U g Q j b a L e q;revert q;refine sP e λq=>?_;exact abV (q x [] a L .refl rfl .nil)|cons d es ih=>intro h hs A E Y x J l U g Q j b a L e q;refine hd λ_ G=>?_;obtain⟨p,mM⟩:=gQ hs J;refine jU e λv X e1 R=>?_;refine jU R λv' H2 e3 T=>?_;refine yp T λB H3 e5 e6=>?_;clear R T;obtain⟨rfl,rfl⟩:=pJ e6;refine G ?_;refine abz (h d aF a e1 λy u M I Z r=>?_) p;refine Rp (Jq (wm:=Y.wm) (P:=fP) M.rel r (by rw[Z];exact e3)) λz z1 z2 t z4 z5=>?_;simp only[←z1];refine ih (λe he=>h e (aD _ he)) mM (M.step z2 t) (L.trans (I.trans t)) (by rw[z4];exact e5) λC i m k c o r'=>?_;exact q C (u::i) m k ((I.trans t).trans c) o (.cons (z5.le c) r')
noncomputable def Keeps(f:al)(w:bN)(g:Heap):Prop:=∀h:Heap,(∀b o,g.get? b=some o->h.get? b=some o)->∃k,(k=Keeper.frame\/k=Keeper.machine\/k=Keeper.boundFrame)/\Looks (aP pw w) h (keeperOf f) k
theorem ly(h:∀e∈es,eo w n (f e) N O (λJ=>cG e J))(hs:noStar es=true)(a:At w A n Y x J N O l)(L:Le Y.wm fP k x)(T:Keeps m w x.g)(e:mV (es.map f) Y l x.H=some (U,G))(q:∀y i,At w A n Y y J N O l->Le Y.wm fP k y->Le Y.wm fP x y->y.H=G->eC (Rv w y) U i->aR (aP pw w) A (PySem.call m (c++i)) Q E y.s):aR (aP pw w) A (callWith j m c (aa9 j (c6 es J)) []) Q E x.s:=by
 have C:aR (aP pw w) A (aey (aa9 j (c6 es J))) (λi B=>(∀b o,x.g.get? b=some o->B.heap.get? b=some o)/\aR (aP pw w) A (PySem.call m (c++i)) Q E B) E x.s:=vs h hs a L e λy i t I p M r=>⟨λb o z=>t.rel.sub _ _ (p.gk _ _ z),q y i t I p M r⟩;have WQ:∀{es:ab PySem.Expr},noStar es=true->(aa9 j (c6 es J)).any (·.1)=false:=by intro es;induction es with|nil=>intro _;rfl|cons e es ih=>intro hs;obtain⟨d,mM⟩:=gQ hs J;refine sY d ?_;show(false||(aa9 j (c6 es J)).any (·.1))=false;rw[ih mM];rfl
 refine callWith_of (P:=λh=>∀b o,x.g.get? b=some o->h.get? b=some o) (by rw[WQ hs];rfl) (λh R=>T h R) ?_;clear h;induction es using aW with|nil=>refine evalArgs_nil3 ?_;have:=q x [] a L .refl (by refine sP e ?_;rfl) (by refine sP e ?_;exact .nil);exact⟨a.rel.sub,this⟩|cons X es=>obtain⟨d,mM⟩:=gQ hs J;simp only[d]at C⊢;exact evalArgs_plain C
noncomputable def LH:bp:=uA.all λp=>aea vc (.ref p.2.1)
theorem zY:LH=true:=by kernel_rfl
theorem H7(T:fm w h):Frag.In vc h:=λa o e=>T.objs (a,o) (MY _ (by
 have:∀{K:Frag}{a:b8}{o:Obj},K.lookup a=some o->(a,o)∈K:=by intro K a o;induction K with|nil=>intro h;exact ec h|cons p r ih=>obtain⟨k,v⟩:=p;intro h;dsimp only[bu]at h;cases b:a==k with|true=>rw[b]at h;refine so h ?_;rw[bO.mp b];exact aF|false=>rw[b]at h;exact aD _ (ih h)
 exact this e))
theorem C4(T:fm w g)(m:p∈uA):Keeps (.ref p.2.1) w g:=λh b=>keeps_K (aA.mp zY p m) h (H7 (T.keeps b))
theorem EH{ad:Nat}(h:∀e∈es,eo w n (f e) N O (λJ=>cG e J))(hs:noStar es=true)(k:jb N nm=true)(j:look uA nm=some (ad,Z)):eo w n (GL ad (es.map f)) N O (λJ=>cG (.Call (.Name nm p') es [] p) J):=by intro A E Y x J l v t Q a e q;refine jU e λU X m o=>?_;have g:=jw j;refine dI (ru a k (NQ w.params g) ?_);refine ly h hs a .refl (C4 a.rel.top g) m λy B b L _ i r=>?_;refine abZ (b.call b.room.call b.rel b.wm ((sY i o)) r λz u S d c s=>?_);exact q z u (b.step S d) (L.trans d) c s
end
noncomputable def vk:ae (ae al)->bp|some none=>true|_=>false
noncomputable def yu(id:dF):ae (ae al)->bp|some (some (.builtin i))=>decide (i=id)|_=>false
noncomputable def zu(a:Nat):ae (ae al)->bp|some (some (.ref b))=>aal b a|_=>false
noncomputable def KY(P:bo):bp:=jA.all λC=>yu "object.__getattribute__" (aby (KK P) (.ref C) "__getattribute__")&&vk (aby (KK P) (.ref C) "__getattr__")&&hasDictIn (KK P) C&&plainOver (KK P) C&&yu "object.__setattr__" (aby (KK P) (.ref C) "__setattr__")
noncomputable def LQ(P:bo):bp:=jA.all λC=>makesIn (KK P) C&&aea (KK P) (.ref C)
noncomputable def OX(P:bo):bp:=jA.all λC=>g6.all λp=>vk (aby (KK P) (.ref C) p.1)
noncomputable def P0(P:bo):bp:=ma.all λp=>zu p.2.2.1 (aby (KK P) (.ref p.2.1) "__init__")
noncomputable def P5(P:bo):bp:=dP.all λq=>nS.all λp=>!aal p.2 q.1.2||zu q.2 (aby (KK P) (.ref q.1.1) p.1)
noncomputable def Ff(P:bo):bp:=(ma.map λp=>p.2.2.1).all (λa=>isFn vc (.ref a)&&aea vc (.ref a))&&(dP.map λp=>p.2).all λa=>isFn vc (.ref a)&&aea vc (.ref a)
noncomputable def Nl:bp:=g6.all λp=>g6.all λq=>(PySem.W.Fast.sEq p.1 q.1)==(aal p.2 q.2)
noncomputable def Qu:bp:=nS.all λp=>aga p.2 109||g6.all λq=>!PySem.W.Fast.sEq p.1 q.1
theorem zS(P:bo):KY P=true:=by kernel_rfl
theorem sy(P:bo):LQ P=true:=by kernel_rfl
theorem CU(P:bo):OX P=true:=by kernel_rfl
theorem Cw(P:bo):P0 P=true:=by kernel_rfl
theorem CQ(P:bo):P5 P=true:=by kernel_rfl
theorem xf(P:bo):Ff P=true:=by kernel_rfl
theorem DF:Nl=true:=by kernel_rfl
theorem CH:Qu=true:=by kernel_rfl
theorem sG(h:vk o=true):o=some none:=by rcases o with _|_|_<;>first|exact fE h|rfl
theorem uS{id:dF}(h:yu id o=true):o=some (some (.builtin id)):=by
 rcases o with _|_|v<;>try(exact fE h;done)
 rcases v with⟨⟩<;>try(exact fE h;done)
 rw[aU h]
theorem ub(h:zu a o=true):o=some (some (.ref a)):=by
 rcases o with _|_|v<;>try(exact fE h;done)
 rcases v with⟨⟩<;>try(exact fE h;done)
 rw[bP h]
theorem lookup_mem{c:Type}:∀{K:ab (b8×c)}{a:b8}{o:c},K.lookup a=some o->(a,o)∈K:=by intro K a o;induction K with|nil=>intro h;exact ec h|cons p r ih=>obtain⟨k,v⟩:=p;intro h;dsimp only[bu]at h;cases b:a==k with|true=>rw[b]at h;refine so h ?_;rw[bO.mp b];exact aF|false=>rw[b]at h;exact aD _ (ih h)
theorem wM(T:fm w h):(KK w.params).In h:=λa o e=>T.objs (a,o) (lookup_mem e)
structure Ry(P:bo)(C:b8):Prop where
 ga:aby (KK P) (.ref C) "__getattribute__"=some (some (.builtin "object.__getattribute__"))
 gt:aby (KK P) (.ref C) "__getattr__"=some none
 hd:hasDictIn (KK P) C=true
 po:plainOver (KK P) C=true
 st:aby (KK P) (.ref C) "__setattr__"=some (some (.builtin "object.__setattr__"))
 at_:∀nm a,(nm,a)∈g6->aby (KK P) (.ref C) nm=some none
theorem y5(P:bo)(h:C∈jA):Ry P C:=by have k:=aA.mp (zS P) C h;simp only[aI]at k;obtain⟨⟨⟨⟨b,c⟩,d⟩,e⟩,f⟩:=k;exact⟨uS b,sG c,d,e,uS f,λg a m=>sG (aA.mp (aA.mp (CU P) C h) (g,a) m)⟩
theorem oz(b:(d,a1)∈g6)(c:(f,a2)∈g6):d=f↔a1=a2:=by
 have k:=aA.mp (aA.mp DF _ b) _ c;rw[bO]at k;dsimp only at k;constructor;.intro e;rw[PySem.W.Fast.sEq_iff.mpr e]at k;exact bP k.symm
 .intro e;subst e;rw[acW]at k;exact PySem.W.Fast.sEq_iff.mp k
theorem LP(b:(nm,m)∈nS)(f:110<=m)(c:(d,a)∈g6):d≠nm:=by
 have k:=aA.mp CH _ b;rw[de]at k;rcases k with k|k;.have:=bl k;dsimp only at this;lia
 .have:=aA.mp k _ c;intro e;rw[PySem.W.Fast.sEq_iff.mpr e.symm]at this;exact fE this
section
variable{w:bN}{n:Nat}{x y:Sx}{wm:Nat}{P:b8->Prop}{A:bH}{E:al->aM->Prop}{Y:Cx}{J:Env}{N:cg}{O:ab Str}{l:Loc}
theorem jh:(abY b t).isStr nm=true↔b=nm:=by show(b==nm)=true↔_;exact bO
theorem xu(h:eC (xb w x) fs es):es.any (·.refKey)=false:=by induction h with|nil=>rfl|cons e _ ih=>refine ml (e) λc t b _=>?_;simp only[aeg,ih];simp[DictEntry.refKey,b]
theorem CR(h:eC (xb w x) fs es)(m:(nm,a)∈g6):∀{v:V},fs.lookup a=some v->∃e,es.find? (·.key.isStr nm)=some e/\Rv w x v e.val:=by
 induction h with
 |nil=>intro v h;exact ec h|@cons p e s j r _ ih=>
  intro v d;obtain⟨b,z⟩:=p;refine iE (r) λg t k i o=>?_;dsimp only[bu]at d;rw[cS,k];cases c:a==b with
  |true=>rw[c]at d;refine so d ?_;replace c:=bO.mp c;refine sY (jh.mpr ((oz i m).mpr c.symm)) ?_;exact i12 e rfl o|false=>
   rw[c]at d;have f:¬g=nm:=λe=>by have:=(oz i m).mp e;dsimp only at this;rw[this]at c;simp at c
   have:(abY g t).isStr nm=false:=by cases q:(abY g t).isStr nm with|false=>rfl|true=>exact ax (jh.mp q) f
   refine sY this ?_;exact ih d
theorem Ch(h:eC (xb w x) fs es)(m:∀b a,(b,a)∈g6->b≠nm):es.find? (·.key.isStr nm)=none:=by
 induction h with
 |nil=>rfl|@cons p e i c r _ ih=>
  refine iE (r) λb t d f g=>?_;rw[cS,d];have:(abY b t).isStr nm=false:=by cases q:(abY b t).isStr nm with|false=>rfl|true=>exact ax (jh.mp q) (m _ _ f)
  refine sY this ?_;exact ih
theorem Du(r:Rd w g d u):ael u=true:=Rd.casesOn (motive_1:=λ_ u _=>ael u=true) r rfl (λ_=>rfl) (λ_ _=>rfl) (λ_ _=>rfl) (λ_ _ _ _=>rfl) (λ_ _ _=>rfl) (λ_ _ _ _ _=>rfl) λ_ _ _ _ _ _ _=>rfl
theorem BR(r:Rv w x v u):ael u=true:=Rv.casesOn (motive:=λ_ u _=>ael u=true) r Du (λ_=>rfl) λ_ _ _=>rfl
theorem E0{g:Heap}{nm:Str}{a:Nat}(m:(nm,a)∈g6){es:ab cN}{nms:ab Str}(K:acx es nms):∀{c:ab Nat}{B:ab D}{d:D},nms.length=c.length->(∀p∈nms.zip c,p∈g6)->fh w g B (es.map (·.val))->(c.zip B).lookup a=some d->∃e,es.find? (·.key.isStr nm)=some e/\Rd w g d e.val:=by
 induction K with
 |nil=>intro c B d i _ _ h;rw[aaO i.symm]at h;exact ec h|@cons en j M t Z k I ih=>
  intro c B d i o G h;rcases c with _|⟨b,c⟩;.exact ax i (cu _)
  rcases B with _|⟨C,B⟩;.exact ec h
  refine iE G.inv λv U e r L=>?_;have e:en.val=v/\j.map (·.val)=U:=br e;have s:=(oz (o _ (.head _)) m);have h:(match a==b with|true=>some C|false=>(c.zip B).lookup a)=some d:=h;refine if q:b=a then ?_ else ?_;.rw[bO.mpr q.symm]at h;exact i12 en (List.find?_cons_of_pos (by rw[k];exact jh.mpr (s.mpr q))) (so h (e.1▸r))
  .rw[aak.mpr λz=>q z.symm]at h;refine(ih (dJ i) (λp H=>o p (.tail _ H)) (e.2▸L) h).imp λf z=>⟨(List.find?_cons_of_neg (by rw[k];exactλz=>q (s.mp (jh.mp z)))).trans z.1,z.2⟩
noncomputable def P4:D->Nat|.obj _ _=>1|_=>0
@[elab_as_elim]theorem Vh{c i:Nat}{u:al}{P:al->Prop}(h:Rv w x (.ins c i) u)(k:∀b d,c∈jA->x.g.get? b=some (dB c d)->x.φ[i]?=some d->P (.ref b)):P u:=jr (show∃b d,u=.ref b/\c∈jA/\x.g.get? b=some (dB c d)/\x.φ[i]?=some d from h.inv) λb d e f j m=>e▸k b d f j m
theorem At.inst(a:At w A n Y x J N O l){P:al->Prop}(r:Rv w x (.ins c i) u)(h:x.H[i]?=some (.ins fs))(k:∀b d es m,c∈jA->x.φ[i]?=some d->InstAt x.s.heap b (dB c d) c (some (abQ es m))->x.s.heap.get? d=some (abQ es m)->eC (xb w x) fs es->(fs.length<=100/\(fs.map (·.1)).Nodup)->P (.ref b)):P u:=Vh r λb d hc j e=>CE (a.rel.cell i _ d h e) λo f g2 g=>ml g λes m g3 g4=>k b d es m hc e ⟨a.rel.sub _ _ j,rfl,rfl,g3⟩ g3 g4 ⟨f,g2⟩
noncomputable def WN(a:Nat):ae Cell->ae V|some (.ins fs)=>fs.lookup a|_=>none
theorem objE{P:al->Prop}(r:Rd w g (.obj c B) u)(k:∀x b es n nms,g.get? x=some (dB c b)->g.get? b=some (abQ es n)->acx es nms->nms.length=(iK c).length->(∀p∈nms.zip (iK c),p∈g6)->c∈jA->fh w g B (es.map (·.val))->P (.ref x)):P u:=Rd.casesOn (motive_1:=λd u _=>d=.obj c B->P u) r (λe=>xc P4 e rfl) (λ_ e=>xc P4 e rfl) (λ_ _ e=>xc P4 e rfl) (λ_ _ e=>xc P4 e rfl) (λ_ _ _ _ e=>xc P4 e rfl) (λ_ _ _ e=>xc P4 e rfl) (λ_ _ _ _ _ e=>xc P4 e rfl) (λf i j m o q s e=>have z:=D.obj.inj e;k _ _ _ _ _ (z.1▸f) i j (z.1▸m) (z.1▸o) (z.1▸q) (z.2▸s)) rfl
theorem Hz(a:At w A n Y x J N O l)(c:C∈jA)(I:InstAt x.s.heap b (dB C i) C (some (abQ es m)))(f:(nm,k)∈g6)(d:es.find? (·.key.isStr nm)=some e)(r:Rv w x g e.val)(q:∀y u,At w A n Y y J N O l->Le Y.wm fP x y->y.H=x.H->Rv w y g u->Q u y.s):aR (aP pw w) A (aeK (.ref b) nm j) Q E x.s:=have K:=y5 w.params c;get_value (wM (a.rel.top.keeps a.rel.sub)) I K.ga (findObj_own (attr:=none) K.hd (K.at_ _ _ f) rfl (show getL nm es=some (some e.val)from by unfold getL;exact sY d rfl)) (BR r) (a.iw rfl r _ q)
theorem Jb(a:At w A n Y x J N O l)(r:Rv w x v u)(f:(nm,k)∈g6)(h:ky v k x.H=some t)(q:∀y u,At w A n Y y J N O l->Le Y.wm fP x y->y.H=x.H->Rv w y t u->Q u y.s):aR (aP pw w) A (aeK u nm p) Q E x.s:=by induction v using V.casesOn with|ref i=>exact ec h|ins c i=>exact jW (P:=λo=>x.H[i]?=o->WN k o=some t->aR (aP pw w) A (aeK u nm p) Q E x.s) x.H[i]? (λ_ h=>ec h) (λ_ _ _ h=>ec h) (λ_ _ _ h=>ec h) (λfs hi h=>a.inst (P:=λu=>aR (aP pw w) A (aeK u nm p) Q E x.s) r hi λb C M m hC _ I _ L _=>d9 (CR L f h) λe g j=>Hz a hC I f g j q) rfl h|d d=>induction d using D.casesOn with|obj c B=>exact j0 h λd G z=>objE (P:=λu=>aR (aP pw w) A (aeK u nm p) Q E x.s) r.eU λb C M m nms R T U X Z h6 h7=>d9 (E0 f U X Z h7 G) λe g j=>Hz a h6 ⟨a.rel.sub _ _ R,rfl,rfl,a.rel.sub _ _ T⟩ f g (z▸.d j) q|_=>exact ec h
end
section
variable{w:bN}{n:Nat}{x y:Sx}{wm:Nat}{P:b8->Prop}{A:bH}{E:al->aM->Prop}{Y:Cx}{J:Env}{N:cg}{O:ab Str}{l:Loc}
theorem A1(h:baseOk o=true)(nm:Str)(J:Env)(b:Sem al):attributeBase o nm J b=b:=by
 induction o using afy with
 |Call f c R p=>
  induction f using afy with
  |Name id q=>
   induction c using aW with
   |nil=>induction R using aW with|nil=>exact fE h|cons _ _=>rfl
   |cons _ _=>rfl
  |_=>rfl
 |_=>rfl
theorem Ee(r:eo w n B N O (λJ=>cG o J))(j:baseOk o=true)(m:(nm,k)∈g6):eo w n (H9 B k) N O (λJ=>cG (.Attribute o nm p) J):=by intro A E Y x J l v L Q a e q;refine(let I:Prop:=_;(?_:I));refine jU e λR X s e=>?_;refine j0 e λM t e=>?_;cases e;refine Attribute_any_ (r a s λy u f c b C=>Jb f C m ((sY b t)) λz H g d i G=>q z H g (c.trans d) (i.trans b) G) ?_;simp only[arm_eval_Attribute,A1 j]
theorem WQ:∀{es:ab PySem.Expr},noStar es=true->(aa9 j (c6 es J)).all (λt=>!t.1)=true:=by intro es;induction es with|nil=>intro _;rfl|cons e es ih=>intro hs;refine lJ (gQ hs J) λb mM=>?_;refine sY b ?_;show(true&&(aa9 j (c6 es J)).all (λt=>!t.1))=true;rw[ih mM];rfl
theorem xW(t:baseOk o=true)(hs:noStar es=true)(B:es.length<=10)(z:b.endLine=j.line)(h:aR (aP pw w) A (cG o J) (λi k=>∀pl,aR (aP pw w) A (aaK i nm pl) (λr m=>aR (aP pw w) A (callWith j r.1 r.2 (aa9 j (c6 es J)) []) Q E m) E k) E s):aR (aP pw w) A (cG (.Call (.Attribute o nm b) es [] j) J) Q E s:=by
 rw[arm_eval_Call,A1 t];refine aB (cz h (λi k p=>aB (aav ?_)) λ_ _ e=>e);have c:methodCallForm (es.length+([]:ab Keyword).length) (aa9 j (c6 es J)) (backToKw j (keywordEach [] J))=true:=by unfold methodCallForm;rw[WQ hs];show(true&&true&&decide (es.length+0+0<30))=true;simp;lia
 have d:methodCallPos true o J b j=pure j:=by unfold methodCallPos;simp[z]
 unfold methodCall;rw[c];refine aB (aaT (cz (p _) (λr m q=>?_) λ_ _ e=>e));obtain⟨f,g⟩:=r;exact aB (wpAny_of_eq d q)
theorem Fd(T:fm w g)(m:aea vc (.ref f)=true):Keeps (.ref f) w g:=λh b=>keeps_K m h (H7 (T.keeps b))
theorem ui{id:dF}:Keeps (.builtin id) w g:=λh _=>⟨.machine,.inr (.inl rfl),Looks.now⟩
theorem qw{b d:Type}[BEq b][LawfulBEq b]:∀{K:ab (b×d)}{a:b}{o:d},K.lookup a=some o->(a,o)∈K:=by intro K a o;induction K with|nil=>intro h;exact ec h|cons p r ih=>obtain⟨k,v⟩:=p;intro h;dsimp only[bu]at h;cases c:a==k with|true=>rw[c]at h;refine so h ?_;rw[bO.mp c];exact aF|false=>rw[c]at h;exact aD _ (ih h)
theorem Bv{P:bo}(h:((c,m),f)∈dP)(e:(nm,m)∈nS):aby (KK P) (.ref c) nm=some (some (.ref f))/\isFn vc (.ref f)=true/\aea vc (.ref f)=true:=by
 have k:=aA.mp (aA.mp (CQ P) _ h) _ e;have b:=xf P;unfold Ff at b;rw[aI]at b;have d:=aA.mp b.2 f (af.mpr ⟨_,h,rfl⟩);rw[aI]at d;rw[de]at k;rcases k with k|k;.simp at k
 .exact⟨ub k,d.1,d.2⟩
theorem Bx{P:bo}(c:isFn vc (.ref f)=true):typeIn (KK P) (.ref f)=some (.type "function"):=by refine j0 (show typeIn vc (.ref f)=some (.type "function")from bO.mp c) λo d b=>?_;show((KK P).lookup f).map _=_;unfold KK;simp only[dH,dH,dH,dH,d];simp[b]
theorem tR(a:At w A n Y x J N O l)(r:Rv w x (.ins c i) u)(t:x.H[i]?=some (.ins fs))(g:(nm,m)∈nS)(z:dP.lookup (c,m)=some f)(d:110<=m)(q:Q (.ref f,[u]) x.s):aR (aP pw w) A (aaK u nm pl) Q E x.s:=by exact a.inst (P:=λu=>Q (.ref f,[u]) x.s->aR (aP pw w) A (aaK u nm pl) Q E x.s) r t (λb L j k p _ I _ e _ q=>ph (Bv (P:=w.params) (qw z) g) λB C _=>by have K:=y5 w.params p;refine method_fn (wM (a.rel.top.keeps a.rel.sub)) I K.ga K.gt B (Bx C) ?_ q;show(lookIn nm (abQ j k)).map _=_;rw[lookIn_dict];unfold getL;rw[Ch e λM G o=>LP g d o,xu e];rfl) q
noncomputable def Gf:ab (Nat×Str):=[(100,aa "append"),(101,aa "extend"),(102,aa "pop"),(103,aa "get"),(104,aa "join"),(105,aa "index")]
noncomputable def Gw:bp:=Gf.all λq=>nS.all λp=>!aal p.2 q.1||PySem.W.Fast.sEq p.1 q.2
theorem xJ:Gw=true:=by kernel_rfl
theorem G6(h:(nm,m)∈nS)(k:(m,b)∈Gf):nm=b:=by
 have z:=aA.mp (aA.mp xJ _ k) _ h;rw[de]at z;rcases z with z|z;.simp at z
 .exact PySem.W.Fast.sEq_iff.mp z
noncomputable def gW:Nat->dF|100=>"list.append"|101=>"list.extend"|102=>"list.pop"|103=>"dict.get"|104=>"str.join"|_=>"tuple.index"
theorem oQ{h:Heap}(f:h.get? b=some o)(d:o.dict=none):∀c,Value.ref b=.ref c->∃o,h.get? c=some o/\o.dict=none:=λc e=>abr e▸i12 o f d
noncomputable def WV(m:Nat):ae Cell->bp|some (.lst _ _)=>decide (m=100\/m=101\/m=102)|some (.eH _ _)=>decide (m=103)|_=>false
theorem tT(a:At w A n Y x J N O l)(r:Rv w x v u)(hi:∀c i,v≠.ins c i)(hm:(nm,m)∈nS)(j:iY dP v m x.H=true)(q:Q (.builtin (gW m),[u]) x.s):aR (aP pw w) A (aaK u nm pl) Q E x.s:=by have go:∀{k:Nat}{G:Str}{u:al},m=k->(k,G)∈Gf->(Q (.builtin (gW k),[u]) x.s->aR (aP pw w) A (aaK u G pl) Q E x.s)->Q (.builtin (gW m),[u]) x.s->aR (aP pw w) A (aaK u nm pl) Q E x.s:=λe h k q=>sY (P:=λnm=>aR (aP pw w) A (aaK _ nm pl) Q E x.s) (G6 hm (e▸h)) (k (e▸q));have C:∀{b:b8}{B:ab (D×D)},fe w x.g x.s.heap b B->m=103->Q (.builtin (gW m),[.ref b]) x.s->aR (aP pw w) A (aaK (.ref b) nm pl) Q E x.s:=λh e q=>d9 h.exact λo L M=>go e (.tail _ (.tail _ (.tail _ (.head _)))) (λq=>da (T:="dict") ⟨_,L,M.1⟩ F.plainAttrs_dict abO F.type_dict_get (oQ L M.2.1) q) q;revert q;induction v using V.casesOn with|ins c i=>exact ax rfl (hi _ _)|ref i=>exact s9 r λb e=>jW (P:=λo=>x.H[i]?=o->WV m o=true->Q (.builtin (gW m),[.ref b]) x.s->aR (aP pw w) A (aaK (.ref b) nm pl) Q E x.s) x.H[i]? (λ_ h=>fE h) (λZ md X j q=>j6 (a.j4 X e) λU h _ _=>h.elim λep p=>or3 (aU j) (λz=>go z (.head _) (λq=>da (T:="list") ⟨_,p,rfl⟩ abn F.slot_list_append F.type_list_append (oQ p rfl) q) q) (λz=>go z (.tail _ (.head _)) (λq=>da (T:="list") ⟨_,p,rfl⟩ abn acs F.type_list_extend (oQ p rfl) q) q) λz=>go z (.tail _ (.tail _ (.head _))) (λq=>da (T:="list") ⟨_,p,rfl⟩ abn ado F.type_list_pop (oQ p rfl) q) q) (λB f X j q=>ph (a.nq X e) λ_ _ g3=>C g3 (aU j) q) (λ_ _ h=>fE h) rfl j|d d=>induction d using D.casesOn with|str s=>exact jc r.eU λt q=>go (aU j) (.tail _ (.tail _ (.tail _ (.tail _ (.head _))))) (λq=>da (adT _ _ _) F.plainAttrs_str adr F.type_str_join (λc e=>nomatch e) q) q|tup Z=>exact lA r.eU λb U L M h3 R q=>d9 R λo h5 h6=>go (aU j) (.tail _ (.tail _ (.tail _ (.tail _ (.tail _ (.head _)))))) (λq=>da (a.tup L).typeIs F.plainAttrs_tuple aco F.type_tuple_index (oQ (a.rel.sub _ _ h5) h6) q) q|eH I U=>exact Bz (Ad r.eU) λbb e M h3 R=>e▸C (R.keeps (λ_ _ e=>e) λo e=>a.rel.sub _ _ e) (aU j)|_=>exact fE j
end
section
variable{w:bN}{n:Nat}{x y:Sx}{wm:Nat}{P:b8->Prop}{A:bH}{E:al->aM->Prop}{Y:Cx}{J:Env}{N:cg}{O:ab Str}{l:Loc}
theorem At.y9(a:At w A n Y x J N O l){Q:al->aM->Prop}(hm:md≠.fz)(L:x.H[i]?=some (.lst Z md))(hb:x.φ[i]?=some b)(hs:Heap.SameBut b x.s.heap h')(j:h'.PlainList b B)(hz:B.size<=bf)(p:fh w x.g d B.toList)(t:Nat)(e:x.H.set i (.lst d md)=z)(r:Rv w x v u)(q:∀y u,At w A n Y y J N O l->Le Y.wm fP x y->y.H=z->Rv w y v u->Q u y.s):Q u {x.s with heap:=h',toks:=t}:=by have f:∀Z,(Cell.lst Z md).BQ=true:=λZ=>Mode.casesOn (motive:=λmd=>md≠.fz->(Cell.lst Z md).BQ=true) md (λ_=>rfl) (λ_=>rfl) (λh=>ax rfl h) hm;exact Bz (a.vy (c:=.lst d md) L (f _) hb hs (j.imp' _ λ_ h=>h) (λ_ M=>kn M) (λy o e k _=>Mode.casesOn (motive:=λmd=>md≠.fz->fY w y b (.lst d md)) md (λ_=>⟨o,B,e▸j,hz,p.keeps k⟩) (λ_=>⟨o,B,e▸j,hz,p.keeps k⟩) (λh=>ax rfl h) hm) t) λy G C m I=>sZ (P:=λs=>Q u s) G (q y u C m (I.trans e) (r.le m))
theorem ym(a:At w A n Y x J N O l)(t:md≠.fz)(j:x.H[i]?=some (.lst Z md))(f:x.φ[i]?=some b)(hz:Z.length<big)(r:Rd w x.g d u)(e:x.H.set i (.lst (Z++[d]) md)=k)(q:∀y u,At w A n Y y J N O l->Le Y.wm fP x y->y.H=k->Rv w y (.d .fS) u->Q u y.s):aR (aP pw w) A (PySem.call (.builtin "list.append") [.ref b,u]) Q E x.s:=by refine j6 (a.j4 j f) λU m o c=>?_;have p:=c.length;simp only[cB]at p;have:=kU;refine abq m (λB z hs=>?_) o;exact a.y9 t j f hs z (by rw[adn];lia) (by rw[acO];exact c.snoc r) x.s.toks e (.d .fS) q
theorem Gi(a:At w A n Y x J N O l)(M:md≠.fz)(z:x.H[i]?=some (.lst (d::Z) md))(o:x.φ[i]?=some b)(e:x.H.set i (.lst Z md)=I)(q:∀y u,At w A n Y y J N O l->Le Y.wm fP x y->y.H=I->Rv w y (.d d) u->Q u y.s):aR (aP pw w) A (PySem.call (.builtin "list.pop") [.ref b,.int 0 t]) Q E x.s:=by
 refine(let h:Prop:=_;(?_:h));refine j6 (a.j4 z o) λU X k m=>?_;obtain⟨f,j⟩:=X;obtain⟨v,c,L,r,T⟩:∃v c,U.toList=v::c/\Rd w x.g d v/\fh w x.g Z c:=by generalize U.toList=ll at m;cases m with|cons p q=>exact⟨_,_,rfl,p,q⟩
 have R:U=⟨v::c⟩:=by rw[←L]
 subst R;have C:(⟨v::c⟩:dw al).size=c.length+1:=rfl;refine adX ado ⟨_,j,rfl⟩ F.entry_list_pop (F.args_list_pop_2 _ _) (MeetsSeq.list_pop_at b _ f 0 t 0 v (by decide) ?_ rfl k) ⟨j,?_⟩;.unfold acv;refine sY C ?_;simp
 .refine a.y9 (B:=⟨c⟩) (h':=x.s.heap.update b _) M z o (Heap.SameBut.update ..) ⟨f+1,?_⟩ ?_ T x.s.toks e (.d r) q;.
   have G:(ad9 (λZ=>Z.eraseIdxIfInBounds 0) {cls:=.type "list",data:=.seq ⟨v::c⟩ f})=({cls:=.type "list",data:=.seq ⟨c⟩ (f+1)}:Obj):=by simp[ad9,Array.eraseIdxIfInBounds]
   rw[Heap.get?_update_self _ j (by rw[G];rfl),G]
  .rw[C]at k;show c.length<=bf;lia
theorem Fw(a:At w A n Y x J N O l)(z:fe w x.g x.s.heap b B)(L:(b==cM)=false)(hs:(k.sort.any λq=>eg q B)=true)(m:Rd w x.g k C)(T:Rd w x.g e c)(h:hU k B=some o)(q:∀u t,Rd w x.g (o.getD e) u->Q u {x.s with toks:=t}):aR (aP pw w) A (PySem.call (.builtin "dict.get") [.ref b,C,c]) Q E x.s:=by have I:x.s.TypeIs (.ref b) "dict":=d9 z.exact λo i j=>i12 o i j.1;exact o9 hs (λf hs=>d9 (z.QF hs) λR i j=>call_meetsIn abO I acX (acD _ _ _) (meets_dict_get_default (sK w) _ (k:=k) (rJ f m) L c) ⟨_,i.mapOf,sM f (M:=λH p=>H=some o->∀t,Q (p.getD c) {x.s with toks:=t}) (λh t=>q _ t (sI h▸T)) (λd u r h t=>q _ t (sI h▸r)) j h _⟩) λf hs=>d9 (z.TR hs a.rel.sub) λR i j=>oS (G:=λC=>aR (aP pw w) A (PySem.call (.builtin "dict.get") [.ref b,C,c]) Q E x.s) f m λU m=>call_meetsIn abO I acX (acD _ _ _) (meetsH_dict_get_default (dK w) b U L c) ⟨a.rm,k,R,⟨f,m.keeps a.rel.sub⟩,i,pM f (M:=λH p=>H=some o->∀t,Q ((p.map (·.2)).getD c) {x.s with toks:=t}) (λh t=>q _ t (sI h▸T)) (λd u r h t=>q _ t (sI h▸r)) j h _⟩
end
open PySem.AutoSeq1 in theorem ri(l:b8)(items:dw al)(n:Nat)(b:b8)(rN:dw al)(n2:Nat)(dd:ae b8)(sl:dw (ae al))(b!:¬(!items.isEmpty&&ad2 (items.size+rN.size))=true)(Yu:items.size<=bf)(mM:items.size+rN.size<=bf+1):Meets (Builtin.«list.extend» ⟨[.ref l,.ref b],[]⟩) (λ_ R s=>s.heap.get? l=some {cls:=.type "list",dict:=none,data:=.seq items n,slots:=#[]}/\s.heap.get? b=some {cls:=.type "list",dict:=dd,data:=.seq rN n2,slots:=sl}/\R (.ok (.ret ab3)) {s with heap:=s.heap.update l (ad9 λx=>x++rN),toks:=s.toks}):=.of_wp λB w A R s h=>by
 obtain⟨hp,g,d,tk,os⟩:=s;obtain⟨hl,hb,h⟩:=h;have f1:=AutoSeq1.idx_int;have f2:=AutoSeq1.sub_tuple_tuple;have f3:=AutoSeq1.sub_list_list;have f4:=AutoSeq1.sub_tuple_list;have f5:=AutoSeq1.sub_list_tuple;have Zo:(items++rN).size<=bf+1:=by rw[acJ];exact mM
 wp_walk using(wpAny_updateSeq hl rfl (hz:=Yu) (_hz':=Zo)),wpAny_loadPart' hl,wpAny_loadPart' hb;exact⟨_,rfl,h⟩
section
variable{w:bN}{n:Nat}{x y:Sx}{wm:Nat}{P:b8->Prop}{A:bH}{E:al->aM->Prop}{Y:Cx}{J:Env}{N:cg}{O:ab Str}{l:Loc}
theorem wO(a:At w A n Y x J N O l)(hm:md≠.fz)(L:x.H[i]?=some (.lst Z md))(C:x.φ[i]?=some b)(hz:Z.length+ys.length<=big)(r:Rd w x.g (.lst ys) u)(e:x.H.set i (.lst (Z++ys) md)=M)(q:∀y u,At w A n Y y J N O l->Le Y.wm fP x y->y.H=M->Rv w y (.d .fS) u->Q u y.s):aR (aP pw w) A (PySem.call (.builtin "list.extend") [.ref b,u]) Q E x.s:=by
 refine(let γ:Prop:=_;(?_:γ));refine j6 (a.j4 L C) λU z2 X z=>?_;obtain⟨f,k⟩:=z2;cases r with
 |@lst c p _ T g2 t=>
  obtain⟨o,ho,I,m,hd⟩:=T;obtain⟨cl,R,dt,sl⟩:=o;dsimp only at I hd;subst I hd;have j:=z.length;have l2:=t.length;simp only[cB]at j l2;have G:big=1048576:=rfl;refine adX acs ⟨_,k,rfl⟩ F.entry_list_extend (F.args_list_extend_2 _ _) (ri b U f c p m R sl ?_ X (by rw[dr];lia)) ⟨k,a.rel.sub _ _ ho,?_⟩;.rw[aI];rintro⟨_,h⟩;have:=aU h;have Q9:=kU;lia
  .refine a.y9 (B:=U++p) (h':=x.s.heap.update b _) hm L C (Heap.SameBut.update ..) ⟨if(U++p).size==U.size then f else f+1,?_⟩ ?_ (by rw[Array.toList_append];exact z.append t) x.s.toks e (.d .fS) q;.refine sY (Heap.get?_update_self _ k rfl) ?_;rfl
   .rw[acJ,dr];lia
theorem JA(h:strsOf Z=some G)(r:fh w g Z b):∃ps:ab (Str×Tok),b=strValues ps/\ps.map (·.1)=G:=by
 induction Z generalizing b G with
 |nil=>exact HZ r (so h (i12 [] rfl rfl))|cons x Z ih=>
  refine GG r λv b r f=>?_;rcases x with _|_|_|s|_|_|_|_<;>try(exact ec h;done)
  refine j0 (show(strsOf Z).map (s::·)=some G from h) λi e z=>jc r λt=>d9 (ih e f) λps c d=>?_;exact i12 ((s,t)::ps) (ag (_::·) c) ((ag (s::·) d).trans z)
set_option tactic.hygienic true in theorem Dl(a:At w A n Y x J N O l){R:Str}{t:Tok}{Z:ab D}{G:ab Str}{u:al}{Q:al->aM->Prop}(r:Rd w x.g (.lst Z) u)(h:strsOf Z=some G)(h1:G.foldl (λa p=>a+p.length+R.length) 0<=big)(h2:(aar R G).length<=big)(q:∀y u,At w A n Y y J N O l->Le Y.wm fP x y->y.H=x.H->Rv w y (.d (.str (aar R G))) u->Q u y.s):aR (aP pw w) A (PySem.call (.builtin "str.join") [.str R t,u]) Q E x.s:=by
 refine(let γ:Prop:=_;(?_:γ));cases r with
 |@lst c us _ g1 g2 g3=>
  refine d9 (JA h g3) λps e1 e2=>?_;have hb:=kU;refine adX adr (adT _ _ _) F.entry_str_join (F.args_str_join_2 _ _) (meets_str_join_list R t c ps ?_) ⟨by rw[←e1];exact a.lst g1,?_⟩;.refine sY e2 ?_;unfold Builtin.Str.tooLong;rw[aw];rw[←Array.foldl_toList];rw[gt_iff_lt,aam];exact ar h1 hb
  .have e3:aar R (ps.map (·.1))=aar R G:=(sY e2 rfl);unfold joinMade;clear e1;split;.
    rename_i p;have:aar R G=p.1:=by rw[←e3];rfl
    rw[this]at q;exact a.done rfl (.d (.str _ _)) q
   .show(Builtin.Str.glued R (ps.map (·.1))).length<=bf/\_;rw[StrLaws.glued_eq_join,e3];exact⟨ar h2 hb,a.iw (v:=.d (.str (aar R G))) rfl (.d (.str _ _)) _ q⟩
end
section
variable{w:bN}{n:Nat}{x y:Sx}{wm:Nat}{P:b8->Prop}{A:bH}{E:al->aM->Prop}{Y:Cx}{J:Env}{N:cg}{O:ab Str}{l:Loc}
theorem E!(h:i<n):n-i=(n-(i+1))+1:=by rw[Nat.sub_add_eq,acp (Nat.sub_pos_of_lt h)]
inductive Ci(w:bN)(x:Sx)(U:dw al)(s:Str)(k:Nat):ab Nat->ae PySem.Fin×ag9->aM->Prop|mk(i j:Nat)(ys:ab D)(us:ab al)(hy:fh w x.g ys us)(hu:∀t,us[t]?=U[i+t]?)(e:k=i+j)(c:kj s ys=some j):Ci w x U s k (aaB i us.length) (none,⟨⟩) x.s
theorem xE{y:D}{G:D->Nat->Prop}(h:kj s (y::ys)=some j)(f:G (.str s) 0)(g:∀z b,¬z=s->kj s ys=some b->G (.str z) (b+1)):G y j:=by induction y using D.casesOn with|str z=>have h:(if z==s then some 0 else(kj s ys).map (· +1))=some j:=h;exact if e:z=s then so ((aS (bO.mpr e)).symm.trans h) (e▸f)else j0 ((aX λq=>e (bO.mp q)).symm.trans h) λb c d=>d▸g z b e c|_=>exact ec h
theorem y6(a:At w A n Y x J N O l)(h1:x.g.IsTuple b U)(h3:fh w x.g Z U.toList)(h:kj s Z=some k)(q:∀y u,At w A n Y y J N O l->Le Y.wm fP x y->y.H=x.H->Rv w y (.d (.int k)) u->Q u y.s):aR (aP pw w) A (PySem.call (.builtin "tuple.index") [.ref b,.str s t]) Q E x.s:=by
 refine(a.tup h1).elim λo h1=>ph h1 λho hc hd=>hd.elim λm hd=>?_;refine aaN aco ⟨o,ho,hc⟩ F.entry_tuple_index ?_ (F.args_tuple_index_2 _ _);show aR _ _ (aa4 (.ref b)>>=_) _ _ _;refine aB (acu ho hd ?_);show aR _ _ (forIn [0:min U.size U.size] (none,ah1) _>>=_) _ _ _;rw[ab1];refine aB ?_;refine abD _ (Ci w x U s k) _ (λT f r s' C=>?_) (λr s' C=>?_) _ _ ?_;.
  generalize I:T::f=LL at C;induction C with
  |mk i j B p R M e c=>
   induction p using aW with
   |nil=>exact xN I|cons u p=>
    have X:T=i/\f=aaB (i+1) p.length:=br I;refine FI (P:=λB=>kj s B=some j->_) R (λy B L rs c=>?_) c;have hv:U[T]?=some u:=X.1▸(M 0).symm;refine sY hv ?_;have ρ:∀t,p[t]?=U[i+1+t]?:=λt=>(M (t+1)).trans (ag (U[·]?) (by lia));clear M hv I R;revert L e;refine xE (G:=λy j=>k=i+j->Rd w x.g y u->_) c (λe L=>?_) λz j' hz c' e L=>?_;.refine jc L λt'=>aB (acY ?_);rw[ay (show s=s from rfl)];refine aB (m:=retInt _) (aB (wpAny_mkInt (aQ (aQ (aQ ⟨_,rfl,?_⟩)))));exact(show k=T from e.trans X.1.symm)▸a.iw (v:=.d (.int k)) rfl (.d (.int _ _)) _ q
    .refine jc L λt'=>aB (acY ?_);rw[aw hz];exact aQ (X.2▸.mk (i+1) j' B p rs ρ (e.trans (by lia)) c')
 .generalize I:([]:ab Nat)=LL at C;induction C with|mk i j B p R M e c=>induction p using aW with|nil=>exact AW (P:=λB=>kj s B=some j->_) R (λc=>ec c) c|cons u p=>exact xn I
 .refine sY (P:=λn=>Ci w x U s k (aaB 0 n) (none,ah1) x.s) (show[:min U.size U.size].size=U.toList.length by simp[afq]) ?_;exact .mk 0 k Z U.toList h3 (λt=>cY.trans (ag (U[·]?) (bQ t).symm)) (bQ k).symm h
theorem U2{d:Type}{P c:Prop}[dm c]{a b:ae d}{r:d}(h:(if c then a else b)=some r)(f:c->a=some r->P)(g:¬c->b=some r->P):P:=if e:c then f e ((aS e).symm.trans h)else g e ((aX e).symm.trans h)
theorem vH(h:II v=some d):v=.d d:=match v,h with|.d _,h=>so h rfl|.ref _,h=>ec h|.ins _ _,h=>ec h
theorem G4(h:Dj args=some d):args=[.d d]:=by rcases args with _|⟨v,_|_⟩<;>first|exact ec h|exact ag (λv=>[v]) (vH h)
theorem EP(h:Gz args=some d):args=[.d d.1,.d d.2]:=by rcases args with _|⟨v,_|⟨u,_|_⟩⟩<;>first|exact ec h|exact vj h λa c e=>j0 e λb f g=>sZ (P:=λd:D×D=>[v,u]=[.d d.1,.d d.2]) g (sY (P:=λv=>[v,u]=[.d a,.d b]) (vH c) (sY (P:=λu=>[V.d a,u]=[.d a,.d b]) (vH f) rfl))
noncomputable def QK(w:bN)(A:bH)(n:Nat)(Y:Cx)(x:Sx)(J:Env)(N:cg)(O:ab Str)(l:Loc)(Q:al->aM->Prop)(r:V×Hp):Prop:=∀y u,At w A n Y y J N O l->Le Y.wm fP x y->y.H=r.2->Rv w y r.1 u->Q u y.s
theorem qk(h:p=r)(q:QK w A n Y x J N O l Q r):QK w A n Y x J N O l Q p:=h.symm▸q
section
variable{r:V×Hp}{Q:al->aM->Prop}{m:Nat}(a:At w A n Y x J N O l)(q:QK w A n Y x J N O l Q r)
include a q
theorem JL{i:Nat}{b:b8}{Z:ab D}{md:Mode}{d:D}{u:al}(f:Rd w x.g d u)(k:x.H[i]?=some (.lst Z md))(e:x.φ[i]?=some b)(h:Om i m d Z md x.H=some r):aR (aP pw w) A (PySem.call (.builtin (gW m)) [.ref b,u]) Q E x.s:=by
 refine U2 h (λj h=>?_) λ_ h=>U2 h (λj h=>?_) λ_ h=>U2 h (λj h=>?_) λ_ h=>ec h;.subst j;exact Tw h λc h=>ym a (λe=>c (.inl e)) k e (Nat.lt_of_not_le λz=>c (.inr z)) f rfl (qk (sI h) q)
 .subst j;exact rZ (P:=λd=>Rd w x.g d u->aR (aP pw w) A (PySem.call (.builtin (gW 101)) [.ref b,u]) Q E x.s) h (λo h f=>Tw h λc h=>wO a (λe=>c (.inl e)) k e (aam.mp λz=>c (.inr z)) f rfl (qk (sI h) q)) f
 .subst j;refine i3 (P:=λd=>Rd w x.g d u->aR (aP pw w) A (PySem.call (.builtin (gW 102)) [.ref b,u]) Q E x.s) h (λz h f=>?_) f;induction Z using aW with|nil=>exact ec h|cons y o=>exact i4 f λt=>if1 (show(if z=0/\md≠.fz then some (V.d y,x.H.set i (.lst o md))else none)=some r from h) λc h=>c.1▸Gi a c.2 k e rfl (qk (sI h) q)
theorem Bf{b:b8}{B:ab (D×D)}{p:D×D}{u v:al}(k:Rd w x.g p.1 u)(z:Rd w x.g p.2 v)(e:fe w x.g x.s.heap b B)(j:(b==cM)=false)(h:Kf m p B x.H=some r):aR (aP pw w) A (PySem.call (.builtin (gW m)) [.ref b,u,v]) Q E x.s:=if1 h λc h=>j0 h λo f i=>c.1▸Fw a e j c.2 k z f λu t r=>a.iw rfl (.d r) t (qk i q)
theorem JU{s:Str}{t:Tok}{d:D}{u:al}(c:Rd w x.g d u)(h:Sv m d s x.H=some r):aR (aP pw w) A (PySem.call (.builtin (gW m)) [.str s t,u]) Q E x.s:=rZ (P:=λd=>Rd w x.g d u->aR (aP pw w) A (PySem.call (.builtin (gW m)) [.str s t,u]) Q E x.s) h (λZ h c=>vj h λG e f=>if1 f λb i=>b.1▸Dl a c e b.2.1 b.2.2 (qk (sI i) q)) c
theorem JN{b:b8}{U:dw al}{Z:ab D}{d:D}{u:al}(c:Rd w x.g d u)(e:x.g.IsTuple b U)(f:fh w x.g Z U.toList)(h:Sf m d Z x.H=some r):aR (aP pw w) A (PySem.call (.builtin (gW m)) [.ref b,u]) Q E x.s:=xd (P:=λd=>Rd w x.g d u->aR (aP pw w) A (PySem.call (.builtin (gW m)) [.ref b,u]) Q E x.s) h (λs h c=>jc c λt=>if1 h λo h=>j0 h λk i j=>o▸y6 a e f i (qk j q)) c
noncomputable def RK(m i:Nat)(args:ab V)(H:Hp):ae Cell->ae (V×Hp)|some (.lst Z md)=>(Dj args).bind λx=>Om i m x Z md H|some (.eH B _)=>(Gz args).bind λp=>Kf m p B H|_=>none
theorem Ez{v:V}{u:al}{args:ab V}{C:ab al}(z:eC (Rv w x) args C)(ni:∀c i,v≠.ins c i)(R:Rv w x v u)(h:fK dP Y v m args x.H=some r):aR (aP pw w) A (PySem.call (.builtin (gW m)) (u::C)) Q E x.s:=by have o1:∀{f:D->ae (V×Hp)}{u:al},(Dj args).bind f=some r->(∀d v,Rd w x.g d v->f d=some r->aR (aP pw w) A (PySem.call (.builtin (gW m)) [u,v]) Q E x.s)->aR (aP pw w) A (PySem.call (.builtin (gW m)) (u::C)) Q E x.s:=λh k=>vj h λd h1 L=>t7 (show eC (Rv w x) [.d d] C from G4 h1▸z) λv _ j z=>AH z (k d v j.eU L);have o2:∀{f:D×D->ae (V×Hp)}{u:al},(Gz args).bind f=some r->(∀p v G,Rd w x.g p.1 v->Rd w x.g p.2 G->f p=some r->aR (aP pw w) A (PySem.call (.builtin (gW m)) [u,v,G]) Q E x.s)->aR (aP pw w) A (PySem.call (.builtin (gW m)) (u::C)) Q E x.s:=λh k=>vj h λp h1 L=>t7 (show eC (Rv w x) [.d p.1,.d p.2] C from EP h1▸z) λv _ j z=>t7 z λG _ M z=>AH z (k p v G j.eU M.eU L);induction v using V.casesOn with|ins _ _=>exact ax rfl (ni _ _)|ref i=>exact s9 R λb e=>jW (P:=λo=>x.H[i]?=o->RK m i args x.H o=some r->aR (aP pw w) A (PySem.call (.builtin (gW m)) (.ref b::C)) Q E x.s) x.H[i]? (λ_ h=>ec h) (λZ md hi h=>o1 h λd v j h=>JL a q j hi e h) (λB f hi h=>ph (a.nq hi e) λT g2 X=>o2 h λp v G j M h=>Bf a q j M X T h) (λ_ _ h=>ec h) rfl h|d d=>induction d using D.casesOn with|str s=>exact jc R.eU λt=>o1 h λd v j h=>JU a q j h|tup Z=>exact lA R.eU λb U T _ X _=>o1 h λd v j h=>JN a q j T X h|eH I U=>exact Bz (Ad R.eU) λb e L h3 h4=>e▸o2 h λp v G j M h=>Bf a q j M (h4.keeps (λ_ _ e=>e) λo e=>a.rel.sub _ _ e) L h|_=>exact ec h
end
noncomputable def Vw(C:mN)(cl m:Nat):ae Cell->bp|some (.ins _)=>decide (110<=m)&&(C.lookup (cl,m)).isSome|_=>false
noncomputable def Wv(C:mN)(Y:Cx)(cl i m:Nat)(args:ab V)(H:Hp):ae Cell->ae (V×Hp)|some (.ins _)=>if 110<=m then(C.lookup (cl,m)).bind λf=>Y.call Y.wm f (.ins cl i::args) H else none|_=>none
theorem P6{G:Prop}(h:iY dP (.ins c i) m H=true)(k:∀fs b,H[i]?=some (.ins fs)->110<=m->dP.lookup (c,m)=some b->G):G:=jW (P:=λo=>H[i]?=o->Vw dP c m o=true->G) H[i]? (λ_ h=>fE h) (λ_ _ _ h=>fE h) (λ_ _ _ h=>fE h) (λfs d h=>(dj.mp (bY.mp h).2).elim λb e=>k fs b d (aU (bY.mp h).1) e) rfl h
theorem Ls(h:fK dP Y (.ins c i) m args H=some r)(e:110<=m)(d:dP.lookup (c,m)=some b):Y.call Y.wm b (.ins c i::args) H=some r:=jW (P:=λo=>Wv dP Y c i m args H o=some r->Y.call Y.wm b (.ins c i::args) H=some r) H[i]? (λh=>ec h) (λ_ _ h=>ec h) (λ_ _ h=>ec h) (λ_ h=>(ag (λo:ae Nat=>o.bind λf=>Y.call Y.wm f (.ins c i::args) H) d).symm.trans ((aS e).symm.trans h)) h
theorem HO(ho:eo w n mo N O (λJ=>cG o J))(h:∀e∈es,eo w n (f e) N O (λJ=>cG e J))(hs:noStar es=true)(hl:es.length<=10)(hb:baseOk o=true)(hp:ap.endLine=p.line)(L:(nm,m)∈nS):eo w n (FU dP mo m (es.map f)) N O (λJ=>cG (.Call (.Attribute o nm ap) es [] p) J):=by
 intro A E Y x J l v' H' Q a e q;refine jU e λv X k1 e=>if1 e λhk e=>jU e λU H2 k2 k3=>?_;refine xW hb hs hl hp (ho a k1 λy u k Z t B pl=>?_);by_cases s:∃c i,v=.ins c i;.refine QS s λc i z=>?_;subst z;exact P6 hk λfs fn s b j=>tR k B (sY t s) L j b (ph (Bv (P:=w.params) (qw j) L) λ_ _ kp=>ly h hs k Z (Fd k.rel.top kp) (sY t k2) λz us g G d I M=>abZ (g.call g.room.call g.rel g.wm (sY I (Ls k3 b j)) (.cons (B.le d) M) λC R S T H r'=>q C R (g.step S T) (G.trans T) H r'))
 .exact tT k B (λc i e=>s ⟨c,i,e⟩) L (sY t hk) (ly h hs k Z ui (sY t k2) λz us g G d I M=>Ez (r:=(_,_)) g (λC R a3 L3 g3 r3=>q C R a3 (G.trans L3) g3 r3) M (λc i e=>s ⟨c,i,e⟩) (B.le d) (sY I k3))
end
section
variable{w:bN}{n:Nat}{x y:Sx}{wm:Nat}{P:b8->Prop}{A:bH}{E:al->aM->Prop}{Y:Cx}{J:Env}{N:cg}{O:ab Str}{l:Loc}
theorem tj(c:dw al)(b:Nat):slicePick c none (some b) none=(c.toList.take b).toArray:=by
 by_cases f:b<=c.size;.exact slicePick_upto c b f
 .have e:adb none (some (b:Int)) none c.size=adb none (some (c.size:Int)) none c.size:=by
   simp only[adb,Option.getD_none];have d:¬((c.size:Int)<0):=by lia
   simp[(show¬((b:Int)<0)from by lia),d];lia
  have:=slicePick_upto c c.size (aV _);unfold slicePick at this⊢;rw[e,this,abH (by simp),abH (by simp;lia)]
theorem fh.take(h:fh w g Z U):∀k,fh w g (Z.take k) (U.take k):=h.ind (λk=>by rcases k with _|k<;>exact .nil) λa q r k=>by
 rcases k with _|k;.exact .nil
 .exact .cons a (r k)
theorem A'(h:isName o=true)(u r:al):letTemporaryGo o u r=pure ():=by refine(let b:Prop:=_;(?_:b));rcases o with⟨⟩<;>first|(exact fE h;done)|rfl
theorem El(h:eo w n mo N O (λJ=>cG o J))(R:0<=i)(T:isName o=true):eo w n (G7 mo i.toNat) N O (λJ=>cG (.Subscript o (.Slice none (some (.Constant (.int i) k G!)) none p') p) J):=by intro A E Y x J l v H' Q a e q;refine(let j:Prop:=_;(?_:j));refine jU e λt X k1 e=>j0 e λv' c r=>?_;refine wpAny_Subscript_list_slice (h a k1 λy u m C H f=>?_) (A' T);simp only[evalPart_none,acy];refine aQ (dG ?_);refine(let j:Prop:=_;(?_:j));revert f;refine pA (P:=λt=>Rv w y t u->_) c λd c=>rZ (P:=λd=>Rv w y (.d d) u->_) c λZ c f=>jr f.eU.lst_inv λb U z L s M=>XR b U none (some i) ⟨z,m.lst L,s,.none,.int _ _,?_⟩;rw[show slicePick U none (some i) none=(U.toList.take i.toNat).toArray from Int.toNat_of_nonneg R▸tj U i.toNat];exact m.Tr (d:=.lst (Z.take i.toNat)) rfl (λg k e=>.lst ⟨_,e,rfl,0,rfl⟩ (ar (b4 List.length_take) (ar (Nat.min_le_right _ _) s)) ((fh.take M i.toNat).keeps k)) λy' u G B I r'=>q y' u G (C.trans B) ((I.trans H).trans (pJ r).2) (((sI c).trans (pJ r).1)▸r')
end
theorem qn(nm:Str)(hs:Int)(k v:al):∀es:ab cN,(putL nm hs k v es).length<=es.length+1
 |[]=>(aV _)|e::r=>by
  unfold putL;split;.simp
  .simpa using qn nm hs k v r
section
variable{w:bN}{n:Nat}{x y:Sx}{wm:Nat}{P:b8->Prop}{A:bH}{E:al->aM->Prop}{Y:Cx}{J:Env}{N:cg}{O:ab Str}{l:Loc}
theorem GH{K:Frag}(X:K.In s.heap)(I:InstAt s.heap b (dB C d) C (some (abQ es m)))(D:s.heap.get? d=some (abQ es m))(hs:aby K (.ref C) "__setattr__"=some (some (.builtin "object.__setattr__")))(k:plainOver K C=true)(p:takerIn K C nm=some none)(j:(clsIn K C).any (·.hasDict)=true)(o:es.any (·.refKey)=false)(hz:es.length<=900)(h:∀h' t r,h'.get? d=some (abQ (putL nm (aaH w.params nm) (.str nm r) v es) (putN nm es m))->Heap.SameBut d s.heap h'->Q () {s with heap:=h',toks:=t}):aR (aP pw w) A (setAttr (.ref b) nm v) Q E s:=by
 refine set_plain X I hs (osa_open (s:={s with toks:=s.toks+1}) X I k p λz=>?_);obtain⟨B,i,f⟩:=any_some j;have q:=I.at_;refine aB (aQ (aB (aB (wpAny_loadPart q (aB ((looks_clsIn (M:=aP pw w) (h:=s.heap) X i) _ _ _ {s with toks:=s.toks+1} (λ_ _ e=>e) ?_))))));rw[f];refine aQ (a:=some d) (aB (aQ (aB ?_)));unfold nsSet;refine aB (aB (wpAny_askSetting (aQ (aB (wpAny_mkText (aB (wpAny_loadPart D ?_)))))));have c:(!es.toArray.any (·.key.isStr nm)&&es.toArray.any (·.refKey))=false:=by rw[←abA,←abA];show(_&&es.any _)=false;rw[o,Bool.and_false]
 have g:(s.heap.update d (Obj.putName nm (aaH w.params nm) (.str nm (s.toks+1)) v)).get? d=some (abQ (putL nm (aaH w.params nm) (.str nm (s.toks+1)) v es) (putN nm es m)):=by rw[Heap.get?_update_self _ D (by rw[putName_dict];rfl),putName_dict]
 dsimp only[abQ];rw[aRefKeyMayBeTheName_at,c];refine wpAny_updatePart D ?_;refine aB (wpAny_lookBehind g (pastItsLine_dict ?_) ?_);.rw[acN,dr];have:=qn nm (aaH w.params nm) (.str nm (s.toks+1)) v es;lia
 .exact aQ (h _ _ _ g (Heap.SameBut.update ..))
theorem IA(h:eC (xb w x) fs es)(m:(nm,a)∈g6)(r:Rv w x v u)(hs:Int)(t:Tok):eC (xb w x) (kS a v fs) (putL nm hs (.str nm t) u es):=by
 induction h with
 |nil=>exact .cons ⟨nm,t,rfl,m,r⟩ .nil|@cons p e s k q c ih=>
  obtain⟨b,B⟩:=p;refine iE (q) λi j g d o=>?_;unfold kS putL;rw[g];by_cases f:b=a;.subst f;rw[aS rfl,aS (jh.mpr ((oz d m).mpr rfl))];exact .cons ⟨i,j,rfl,d,r⟩ c
  .rw[aX f,aX (λz=>f ((oz d m).mp (jh.mp z)))];exact .cons ⟨i,j,g,d,o⟩ ih
theorem qM(a:Nat)(v:V):∀fs:ab (Nat×V),(kS a v fs).length<=fs.length+1
 |[]=>(aV _)|(b,w)::r=>by
  unfold kS;split;.simp
  .simpa using qM a v r
theorem Cj(a:Nat)(v:V):∀{fs:ab (Nat×V)},(fs.map (·.1)).Nodup->((kS a v fs).map (·.1)).Nodup/\∀b,b∈(kS a v fs).map (·.1)->b=a\/b∈fs.map (·.1):=by
 intro fs;induction fs with
 |nil=>intro _;exact⟨by simp[kS],by simp[kS]⟩|cons f r ih=>
  rcases f with⟨b,w⟩;intro h;rw[aH,a9]at h;obtain⟨i,g⟩:=ih h.2;unfold kS;by_cases e:b=a;.rw[aS e];refine⟨by rw[aH,a9];exact h,λc d=>?_⟩;exact .inr (by simpa using d)
  .rw[aX e];refine⟨?_,λc d=>?_⟩;.
    rw[aH,a9];refine⟨λz=>?_,i⟩;rcases g b z with q|q;.exact e q
    .exact h.1 q
   .rw[aH]at d;rcases ah.mp d with q|q;.exact .inr (by rw[q];simp)
    .rcases g c q with z|z;.exact .inl z
     .exact .inr (by simp at z⊢;exact .inr z)
theorem D8:∀{fs:ab (Nat×V)}{b:V},b∈(kS k v fs).map (·.2)->b=v\/b∈fs.map (·.2):=by
 intro fs;induction fs with
 |nil=>exactλh=>.inl (kB h)|cons p r ih=>
  intro b h;have h:b∈(if p.1=k then(p.1,v)::r else(p.1,p.2)::kS k v r).map (·.2):=h;by_cases e:p.1=k;.rw[aS e]at h;exact(ah.mp h).imp id λh=>.tail _ h
  .rw[aX e]at h;exact(ah.mp h).elim (λh=>.inr (h▸.head _)) λh=>(ih h).imp id λh=>.tail _ h
theorem yR(a:At w A n Y x J N O l)(r:Rv w x (.ins c i) u)(p:x.H[i]?=some (.ins fs))(B:(nm,k)∈g6)(rv:Rv w x v C)(Z:v.plain=true\/Y.wm<=i)(hz:fs.length<100)(q:∀y,At w A n Y y J N O l->Le Y.wm fP x y->y.H=x.H.set i (.ins (kS k v fs))->Q () y.s):aR (aP pw w) A (setAttr u nm C) Q E x.s:=a.inst (P:=λu=>aR (aP pw w) A (setAttr u nm C) Q E x.s) r p λb dx es m U g I M j R=>have K:=y5 w.params U;GH (wM (a.rel.top.keeps a.rel.sub)) I M K.st K.po (by unfold takerIn;rw[K.at_ _ _ B];rfl) K.hd (xu j) (j.length▸ar (aaI hz) (by decide)) λh' t tk d T=>Bz (a.vy (c:=.ins (kS k v fs)) p rfl g T ⟨_,d⟩ (λv' X=>(D8 X).elim (λe=>e▸Z.imp id .inr) λh=>.inr (.inl h)) (λy o e kp f=>⟨o,ar (qM k v fs) hz,(Cj k v R.2).1,xx _ _ (e▸d) ((IA j B rv _ tk).mono λ_ _ q=>iE q λn1 t1 z1 z2 z3=>Dd n1 t1 z1 z2 (Rv.mono (x:=x) (y:=y) kp (λ_ _ z=>f▸z) z3))⟩) t) λy g L G d=>sZ (P:=λs=>Q () s) g (q y L G d)
end
section
variable{w:bN}
theorem AK(h:D.eqv a k=some true):jF k d ((a,e)::r)=some ((a,d)::r):=by show(match D.eqv a k with|some true=>some ((a,d)::r)|some false=>(jF k d r).map ((a,e)::·)|none=>none)=_;exact sY h rfl
theorem Ba(h:D.eqv a k=some false)(h':jF k d r=some b):jF k d ((a,e)::r)=some ((a,e)::b):=by show(match D.eqv a k with|some true=>some ((a,d)::r)|some false=>(jF k d r).map ((a,e)::·)|none=>none)=_;exact sY h (ag (cx ((a,e)::·)) h')
theorem yA{K:Type}[bA K]{k q:K}{u v:al}{qs:ab (K×al)}(e:q=k)(n:q∉qs.map (·.1)):afd ((q,v)::qs) k u=(k,u)::qs:=by subst e;unfold afd;rw[aS (by simp),aH,aS rfl,map_store_of_not_mem qs q u n]
theorem CT{K:Type}[bA K]{k q:K}{u v:al}{qs:ab (K×al)}(n:¬q=k):afd ((q,v)::qs) k u=(q,v)::afd qs k u:=by unfold afd;rw[aeg,aw n,Bool.false_or,aH,aX n];exact(apply_ite (List.cons (q,v)) _ _ _).symm
theorem yd{qs:ab (D×b8×al)}(e:q=k)(n:q∉qs.map (·.1)):aeH ((q,b,v)::qs) k a u=(k,b,u)::qs:=by subst e;rw[storedH_old (p:=(b,v)) (by simp[ae4]),aH,map_putAt_of_not_mem qs q u n,putAt,aS rfl]
theorem AD{qs:ab (D×b8×al)}(n:¬q=k):aeH ((q,b,v)::qs) k a u=(q,b,v)::aeH qs k a u:=by unfold aeH;rw[(show ae4 ((q,b,v)::qs) k=ae4 qs k from by unfold ae4;rw[cS,aw n]),aH,putAt,aX n];exact(apply_ite (List.cons (q,b,v)) _ _ _).symm
theorem putK(i:wy k=true)(r:Rd w g d u)(z:eC (nG w g) B j):(j.map (·.1)).Nodup->∃b,jF k d B=some b/\eC (nG w g) b (afd j k u):=z.ind (λ_=>i12 [(k,d)] rfl (.cons ⟨rfl,i,r⟩ .nil)) λ{p q s A}e f ih o=>if c:p.1=k then i12 ((p.1,d)::s) (AK ((Ab (e.1▸e.2.1) i).trans (ag some (ay c)))) (sY (P:=λl=>eC (nG w g) ((p.1,d)::s) l) (yA (e.1.symm.trans c) (a9.mp o).1) (.cons ⟨c,i,r⟩ f))else d9 (ih (a9.mp o).2) λl t y=>i12 ((p.1,p.2)::l) (Ba ((Ab (e.1▸e.2.1) i).trans (ag some (aw c))) t) (sY (P:=λm=>eC (nG w g) ((p.1,p.2)::l) m) (CT λh=>c (e.1.trans h)) (.cons e y))
theorem Th(hs:k.sort=some .t)(C:Rd w g k (.ref E))(r:Rd w g d u)(A:eC (lH w g) B j):(j.map (·.1)).Nodup->∃b,jF k d B=some b/\eC (lH w g) b (aeH j k E u):=A.ind (λ_=>i12 [(k,d)] rfl (.cons ⟨rfl,hs,C,r⟩ .nil)) λ{p q s G}e f ih o=>have i:D.eqv p.1 k=some (decide (p.1=k)):=pv 6 60 (ki (e.1▸e.2.1)) (ki hs) (by decide);if c:p.1=k then i12 ((p.1,d)::s) (AK (i.trans (ag some (ay c)))) (sY (P:=λl=>eC (lH w g) ((p.1,d)::s) l) (yd (e.1.symm.trans c) (a9.mp o).1) (.cons ⟨c,hs,c▸e.1.symm▸e.2.2.1,r⟩ f))else d9 (ih (a9.mp o).2) λl y z=>i12 ((p.1,p.2)::l) (Ba (i.trans (ag some (aw c))) y) (sY (P:=λm=>eC (lH w g) ((p.1,p.2)::l) m) (AD λh=>c (e.1.trans h)) (.cons e z))
end
theorem x':∀{B c:ab (D×D)},jF k v B=some c->c.length<=B.length+1:=by intro B;induction B with|nil=>exactλh=>so h (aV _)|cons p r ih=>intro c h;have h:(match D.eqv p.1 k with|some true=>some ((p.1,v)::r)|some false=>(jF k v r).map ((p.1,p.2)::·)|none=>none)=some c:=h;revert h;generalize D.eqv p.1 k=o;induction o using b5 with|none=>exactλh=>ec h|some b=>induction b using a5 with|false=>exactλh=>j0 h λe d z=>z▸abC (ih d)|true=>exactλh=>so h (dq _)
theorem VY{h:Heap}(d:h.DictOf (sK w) a l):(l.map (·.1)).Nodup:=SH d λ_ _ _ _ _ _ _ _ n=>n
theorem W9{h:Heap}(d:h.DictOfH (dK w) a l):(l.map (·.1)).Nodup:=SH d λ_ _ _ _ _ _ _ _ n=>n
section
variable{w:bN}{n:Nat}{x y:Sx}{wm:Nat}{P:b8->Prop}{A:bH}{E:al->aM->Prop}{Y:Cx}{J:Env}{N:cg}{O:ab Str}{l:Loc}
set_option tactic.hygienic true in theorem At.DR(a:At w A n Y x J N O l){i:Nat}{b:b8}{B Eu:ab (D×D)}{h':Heap}{Q:ag9->aM->Prop}(hi:x.H[i]?=some (.eH B false))(hb:x.φ[i]?=some b)(hs:Heap.SameBut b x.s.heap h')(hz:Eu.length<=big)(hd:fe w x.g h' b Eu)(t:Nat)(q:∀y,At w A n Y y J N O l->Le Y.wm fP x y->y.H=x.H.set i (.eH Eu false)->Q () y.s):Q () {x.s with heap:=h',toks:=t}:=by have C:=a.rel.cell i _ b hi hb;exact Bz (a.vy (c:=.eH Eu false) hi rfl hb hs (d9 hd.exact λo h _=>⟨o,h⟩) (λ_ hv=>kn hv) (λy o e k _=>⟨C.1,hz,o,(e▸hd:fe w x.g y.s.heap b Eu).keeps k λ_ e=>e⟩) t) λy e1 a1 L1 g1=>sZ (P:=λs=>Q () s) e1 (q y a1 L1 g1)
theorem zd(a:At w A n Y x J N O l)(M:x.H[i]?=some (.eH B false))(L:x.φ[i]?=some b)(hz:B.length<big)(hs:(k.sort.any λq=>eg q B)=true)(p:Rd w x.g k T)(r:Rd w x.g d u)(R:jF k d B=some c)(q:∀y,At w A n Y y J N O l->Le Y.wm fP x y->y.H=x.H.set i (.eH c false)->Q () y.s):aR (aP pw w) A (setItem (.ref b) T u) Q E x.s:=by
 refine(let γ:Prop:=_;(?_:γ));refine ph (a.nq M L) λc1 c2 U=>?_;have m:c.length<=big:=by have:=x' R;lia
 have o:B.length<=bf:=ar (aaI hz) kU;exact o9 hs (λe hs=>d9 (U.QF hs) λh f j=>d9 (putK (k:=k) e r j (VY f)) λZ t z=>wpAny_setItem_pairs (knd:=sK w) (k:=k) (rJ e p) f (λX C I=>a.DR M L I m (.k C (sI (t.symm.trans R)▸z)) _ q) (j.length▸o)) λe hs=>d9 (U.TR hs a.rel.sub) λh f j=>oS (G:=λT=>aR (aP pw w) A (setItem (.ref b) T u) Q E x.s) e p λkb p=>d9 (Th (k:=k) e p r j (W9 f)) λZ t z=>wpAny_setItem_heap (knd:=dK w) a.rm ⟨e,p.keeps a.rel.sub⟩ f (λX C I=>a.DR M L I m (.zj C (sI (t.symm.trans R)▸z)) _ q) (j.length▸o)
inductive Ih(w:bN)(y:Sx):Fl->Flow->Prop|er:Ih w y .er .next|cnt:Ih w y .cnt .cont|brk:Ih w y .brk .brk|ret{v:V}{u:al}:Rv w y v u->Ih w y (.ret v) (.ret u)
noncomputable def kY(w:bN)(n:Nat)(m:MS)(N:cg)(O:ab Str)(code:Env->Sem Flow):Prop:=∀{A:bH}{E:al->aM->Prop}{Y:Cx}{x:Sx}{J:Env}{l l':Loc}{f:Fl}{b:Hp}{Q:Flow->aM->Prop},At w A n Y x J N O l->m Y l x.H=some (f,l',b)->(∀y c,At w A n Y y J N O l'->Le Y.wm (jL J) x y->y.H=b->Ih w y f c->Q c y.s)->aR (aP pw w) A (code J) Q E x.s
theorem Le.qO(h:Le wm fP x y):Le wm (jL J) x y:=h.weak λ_ z=>z.elim
theorem zC{code:Env->Sem Flow}:kY w n Aa N O code:=by intro A E Y x J l c f b Q a e q;exact ec e
theorem ve(f:∀a b c d,aaW (.ListComp a b c d) t B J=pure false)(hs:∀a b c d,aaW (.SetComp a b c d) t B J=pure false)(hd:∀a b c d e,aaW (.DictComp a b c d e) t B J=pure false)(v:PySem.Expr):aaW v t B J=pure false:=by cases v<;>first|exact f _ _ _ _|exact hs _ _ _ _|exact hd _ _ _ _ _|rfl
theorem Jz{x:D}{G:V->Hp->Prop}(h:IH k x v H=some d)(c:∀i B b,H[i]?=some (.eH B false)->((k.sort.any λk=>eg k B)=true/\B.length<big)->jF k x B=some b->G (.ref i) (H.set i (.eH b false))):G v d:=by induction v using V.casesOn with|ref i=>exact jW (P:=λo=>H[i]?=o->Uh k x i H o=some d->G (.ref i) d) H[i]? (λ_ h=>ec h) (λ_ _ _ h=>ec h) (λB f=>a5 (motive:=λf=>H[i]?=some (.eH B f)->Uh k x i H (some (.eH B f))=some d->G (.ref i) d) f (λj h=>if1 h λg h=>j0 h λb m e=>e▸c i B b j g m) λ_ h=>ec h) (λ_ _ h=>ec h) rfl h|_=>exact ec h
theorem Lf{G:V->Hp->Prop}(h:MW wm d a v H=some b)(c:∀cl i fs,H[i]?=some (.ins fs)->(d.plain=true\/wm<=i)->fs.length<100->G (.ins cl i) (H.set i (.ins (kS a d fs)))):G v b:=by induction v using V.casesOn with|ins cl i=>exact jW (P:=λo=>H[i]?=o->U7 wm d a i H o=some b->G (.ins cl i) b) H[i]? (λ_ h=>ec h) (λ_ _ _ h=>ec h) (λ_ _ _ h=>ec h) (λfs f h=>if1 h λe h=>so h (c cl i fs f ((du.mp (bY.mp e).1).imp id aU) (aU (bY.mp e).2))) rfl h|_=>exact ec h
theorem CB(ho:eo w n mo N O (λJ=>cG o J))(hk:eo w n mk N O (λJ=>cG k J))(hv:eo w n mv N O (λJ=>cG v J)):kY w n (Eo mo mk mv) N O (λJ=>adY (.Assign [.Subscript o k p'] v p) J):=by intro A E Y x J l h f M Q a e q;refine(let L:Prop:=_;(?_:L));refine jU e λd X k1 e=>jU e λvo H2 k2 e=>jU e λdk H3 k3 e=>j0 e λj k4 e6=>?_;refine wpAny_Assign_Subscript (eo.dat hv a .refl k1 λy1 u1 a1 L1 _ g1 r1=>?_) (ve (λ_ _ _ _=>rfl) (λ_ _ _ _=>rfl) (λ_ _ _ _ _=>rfl) v);refine eo.on ho a1 L1 ((sY g1 k2)) λy2 u2 a2 L2 m g2 r2=>?_;refine eo.dat hk a2 L2 ((sY g2 k3)) λg u3 a3 L3 c T r3=>?_;refine(let L:Prop:=_;(?_:L));have fin:∀z,At w A n Y z J N O l->Le Y.wm fP g z->z.H=j->Q .next z.s:=λz C t I=>sQ (P:=λf h M=>(∀y R,At w A n Y y J N O h->Le Y.wm (jL J) x y->y.H=M->Ih w y f R->Q R y.s)->Q .next z.s) (ag some e6) (λq=>q z _ C (L3.trans t).qO I .er) q;exact Jz (G:=λvo j=>Rv w g vo u2->(∀z,At w A n Y z J N O l->Le Y.wm fP g z->z.H=j->Q .next z.s)->aR (aP pw w) A (setItem u2 u3 u1) (λ_=>Q .next) E g.s) k4 (λi B Z hi U hp r fin=>s9 r λb hb=>zd a3 (sY T hi) hb U.2 U.1 r3 (r1.keeps (m.trans c).gk) hp λz C t I=>fin z C t (T▸I)) (r2.le c) fin
theorem uD(ho:eo w n mo N O (λJ=>cG o J))(hv:eo w n mv N O (λJ=>cG v J))(hm:(nm,k)∈g6):kY w n (Bq mo k mv) N O (λJ=>adY (.Assign [.Attribute o nm p'] v p) J):=by intro A E Y x J l L f B Q a e q;refine(let t:Prop:=_;(?_:t));refine jU e λv1 X k1 e=>jU e λR H2 k2 e=>j0 e λc k4 e6=>?_;refine plainObj_wpAny_Assign_Attribute (hv a k1 λy1 u1 Z T g1 r1=>?_) (ve (λ_ _ _ _=>rfl) (λ_ _ _ _=>rfl) (λ_ _ _ _ _=>rfl) v);refine eo.on ho Z T ((sY g1 k2)) λb M h U d I r2=>?_;refine(let t:Prop:=_;(?_:t));have fin:∀z,At w A n Y z J N O l->Le Y.wm fP b z->z.H=c->Q .next z.s:=λz j g m=>sQ (P:=λf L B=>(∀y C,At w A n Y y J N O L->Le Y.wm (jL J) x y->y.H=B->Ih w y f C->Q C y.s)->Q .next z.s) (ag some e6) (λq=>q z _ j (U.trans g).qO m .er) q;exact Lf (G:=λR c=>Rv w b R M->(∀z,At w A n Y z J N O l->Le Y.wm fP b z->z.H=c->Q .next z.s)->aR (aP pw w) A (setAttr M nm u1) (λ_=>Q .next) E b.s) k4 (λcl i fs hi hc hz r fin=>yR h r (sY I hi) hm (r1.le d) hc hz λz j g m=>fin z j g (I▸m)) r2 fin
end
section
variable{w:bN}{n:Nat}{x y z:Sx}{wm:Nat}{P P':b8->Prop}{A:bH}{E:al->aM->Prop}{Y:Cx}{J:Env}{N:cg}{O:ab Str}{l:Loc}
theorem Le.D5(h:Le wm P x y)(p:∀b,P b->x.s.heap.get? b=none):Le wm P' x y:=⟨h.gk,h.gn,λb o e n _=>h.keep b o e n (λz=>by rw[p b z]at e;exact ec e),h.DL,h.mu,h.refs,h.live,h.os⟩
set_option tactic.hygienic true in noncomputable def Off(x y:Sx)(b:b8):Prop:=x.s.heap.get? b=none/\y.g.get? b=none/\¬y.mu b
theorem Le.off(L:Le wm P x y)(S:Rel w y){Z:b8->Prop}(hz:∀b,Z b->Off x y b)(k:∀b o,¬Z b->y.s.heap.get? b=some o->s'.heap.get? b=some o)(q:s'.gens=#[])(ho:s'.os=y.s.os):Rel w ⟨y.g,y.φ,y.H,s'⟩/\Le wm P x ⟨y.g,y.φ,y.H,s'⟩:=by
 refine⟨⟨λb o e=>k b o (λz=>by rw[(hz b z).2.1]at e;exact ec e) (S.sub b o e),S.top,S.len,λi c a d f=>?_,S.inj,q⟩,?_⟩;.exact fY.keeps (x:=y) (y:=⟨y.g,y.φ,y.H,s'⟩) (λ_ _ e=>e) (λ_ _ e=>e) (λn _=>n) (λhm o e=>k _ _ (λz=>(hz _ z).2.2 ⟨i,c,d,hm,f⟩) e) (S.cell i c a d f)
 .refine⟨L.gk,L.gn,λb o e n p=>k b o (λz=>by rw[(hz b z).1]at e;exact ec e) (L.keep b o e n p),L.DL,L.mu,L.refs,λb o e=>?_,ho.trans L.os⟩;obtain⟨j,m⟩:=L.live b o e;exact⟨j,k b j (λz=>by rw[(hz b z).1]at e;exact ec e) m⟩
theorem fU.off(X:fU w y J N O l){Z:b8->Prop}(hz:∀b,Z b->¬jL J b)(k:∀b o,¬Z b->y.s.heap.get? b=some o->s'.heap.get? b=some o):fU w ⟨y.g,y.φ,y.H,s'⟩ J N O l:=by
 refine d9 (X.loc) λm hm B=>?_;have hc:∀p∈J.cells,¬Z p.2:=λp q z=>hz _ z (.inr ⟨p,q,rfl⟩);refine⟨X.scope,X.kind,X.globals,X.builtins,X.len,⟨m,hm.at' λo e=>k _ _ (λz=>hz _ z (.inl rfl)) e,λnm i v a b c=>let⟨u,f,j⟩:=B nm i v a b c;⟨u,f,j.same⟩⟩,λnm i f j=>?_,X.apart,X.mS,λp q=>?_⟩;.refine(let t:Prop:=_;(?_:t));refine iE (X.cell nm i f j) λc r a b d=>?_;refine d9 (b) λo ho hd=>?_;exact jQ c r ⟨a,⟨o,k _ _ (hc _ (mem_of_lookup a)) ho,hd⟩,λv e=>let⟨u,f,j⟩:=d v e;⟨u,f,j.same⟩⟩
 .refine(let t:Prop:=_;(?_:t));obtain⟨C,G,I,r,o,ho,hd⟩:=X.ib p q;exact⟨C,G,I,r,o,k _ _ (hc p q) ho,hd⟩
theorem fU.live(X:fU w x J N O l)(h:jL J b):∃o,x.s.heap.get? b=some o:=by
 refine(let e:Prop:=_;(?_:e));rcases h with rfl|⟨p,c,rfl⟩;.refine d9 (X.loc) λm d _=>?_;refine Tb (d) λo _ _ ho _=>?_;exact⟨o,ho⟩
 .obtain⟨_,_,_,f,o,ho,_⟩:=X.ib p c;exact⟨o,ho⟩
theorem fU.not(X:fU w x J N O l)(h:x.s.heap.get? b=none):¬jL J b:=λq=>by obtain⟨o,ho⟩:=X.live q;rw[h]at ho;exact ec ho
theorem Off.le(h:Off x y b)(e:y.s.heap.get? b=some o)(L:Le wm P y z):Off x z b:=⟨h.1,L.out e h.2.1 h.2.2⟩
theorem Off.new(L:Le wm P x y)(S:Rel w y)(h:y.s.heap.get? b=none)(k:∀b o,y.s.heap.get? b=some o->s'.heap.get? b=some o):Off x (y.grow s' []) b:=by
 refine⟨L.fresh h,?_,?_⟩;.cases e:(kh s'.heap y.g []).get? b with|none=>exact e|some o=>cases q:y.g.get? b with|none=>have:=gH e q;exact kn this|some m=>have:=S.sub _ _ q;rw[h]at this;exact ec this
 .rintro⟨i,c,f,j,d⟩;obtain⟨o,ho⟩:=S.live d;rw[h]at ho;exact ec ho
noncomputable def Bo(w:bN)(N:cg)(O:ab Str)(S:Str->Prop)(M:Env->b8->Prop):Prop:=∀{A:bH}{E:al->aM->Prop}{wm:Nat}{x:Sx}{J:Env}{l:Loc}{nm:Str}{i:Nat}{v:V}{u:al}{Q:ag9->aM->Prop},Rel w x->fU w x J N O l->ey O nm=some i->S nm->Rv w x v u->(∀y,Rel w y->Le wm (M J) x y->y.H=x.H->fU w y J N O (l.set i (some v))->Q () y.s)->aR (aP pw w) A (storeName J nm u) Q E x.s
theorem uM:Bo w N O (λnm=>gY N nm=true) jL:=λR X b c d q=>mR R X b c d q
theorem zz:Bo w N O (GA N) (λJ b=>b=J.locals):=λR X c d e q=>uz R X c d e q
variable{S:Str->Prop}{M:Env->b8->Prop}
theorem Kk{G:PySem.Expr->Prop}(h:Nb O e=some i)(k:∀nm p,ey O nm=some i->G (.Name nm p)):G e:=by cases e<;>first|exact ec h|exact k _ _ h
theorem D3{G:PySem.Expr->Tg->Prop}(h:pZ O e=some t)(k:∀nm p i,ey O nm=some i->G (.Name nm p) (.one i))(m:∀es c p I,es.mapM (Nb O)=some I->G (.Tuple es c p) (.many I)):G e t:=by cases e<;>first|exact ec h|exact j0 (show(ey O _).map Tg.one=some t from h) λi h e=>e▸k _ _ i h|exact j0 (show(List.mapM (Nb O) _).map Tg.many=some t from h) λi h e=>e▸m _ _ _ i h
theorem yk{G:PySem.Expr->ab Nat->Prop}(h:(e::es).mapM (Nb O)=some I)(k:∀nm p i b,ey O nm=some i->es.mapM (Nb O)=some b->G (.Name nm p) (i::b)):G e I:=by rw[List.mapM_cons]at h;exact vj h λi c h=>vj h λb d h=>so h (Kk (G:=λe=>G e (i::b)) c λnm p c=>k nm p i b c d)
theorem RI(st:Bo w N O S M){es:ab PySem.Expr}:∀{I:ab Nat}{Z:ab D}{U:ab al}{l l':Loc}{x:Sx}{A:bH}{E:al->aM->Prop}{Q:ag9->aM->Prop},Rel w x->fU w x J N O l->es.mapM (Nb O)=some I->(∀e∈es,∀nm p,e=.Name nm p->S nm)->fh w x.g Z U->iS I Z l=some l'->(∀y,Rel w y->Le wm (M J) x y->y.H=x.H->fU w y J N O l'->Q () y.s)->aR (aP pw w) A (assignInOrder ((aaU es J).map (·.2)) U) Q E x.s:=by
 induction es with
 |nil=>intro I Z U l l' x A E Q R X e hs r h q;revert h;refine so e λh=>?_;induction Z using aW with|nil=>exact HZ r (wpAny_assignInOrder_none (q x R .refl rfl (sI h▸X)))|cons _ _=>exact ec h
 |cons b es ih=>intro I Z U l l' x A E Q R X e hs r h q;revert hs h;refine yk (G:=λb I=>(∀e∈b::es,∀nm p,e=.Name nm p->S nm)->iS I Z l=some l'->aR (aP pw w) A (assignInOrder ((aaU (b::es) J).map (·.2)) U) Q E x.s) e λnm p i js L T hs h=>?_;induction Z using aW with|nil=>exact ec h|cons d Z=>exact GG r λv B r rs=>wpAny_assignInOrder_more (abm (st (wm:=wm) R X L (hs _ aF nm p rfl) (.d r) λy j c t m=>ih j m T (λe a=>hs e (aD _ a)) (rs.keeps c.gk) h λz k f C o=>q z k (c.trans f) (C.trans t) o))
theorem sC(J:Env):∀{es:ab PySem.Expr}{I:ab Nat},es.mapM (Nb O)=some I->(aaU es J).length=I.length/\(aaU es J).findIdx? (·.1)=none:=by intro es;induction es with|nil=>exactλe=>so e ⟨rfl,rfl⟩|cons b es ih=>intro I e;refine yk (G:=λb I=>(aaU (b::es) J).length=I.length/\(aaU (b::es) J).findIdx? (·.1)=none) e λf p i d _ c=>⟨ag (· +1) (ih c).1,?_⟩;show((false,_)::aaU es J).findIdx? (·.1)=none;rw[List.findIdx?_cons,(ih c).2];rfl
theorem yX:∀{Z:ab D}{l l':Loc},iS I Z l=some l'->I.length=Z.length:=by induction I with|nil=>exactλ{Z}=>aW Z (λ_=>rfl) λ_ _ h=>ec h|cons i I ih=>exactλ{Z}=>aW Z (λh=>ec h) λ_ _ h=>ag (· +1) (ih h)
theorem HB(st:Bo w N O S M)(hh:A.handled=none)(R:Rel w x)(X:fU w x J N O l)(ht:pZ O tg=some t)(hs:∀nm∈ej tg,S nm)(r:Rd w x.g d u)(h:hK t d l=some l')(q:∀y,Rel w y->Le wm (M J) x y->y.H=x.H->fU w y J N O l'->Q () y.s):aR (aP pw w) A (aft tg J u) Q E x.s:=by
 revert hs h;refine D3 (G:=λtg t=>(∀nm∈ej tg,S nm)->hK t d l=some l'->aR (aP pw w) A (aft tg J u) Q E x.s) ht (λnm p i f hs h=>?_) λes k p I f hs h=>?_;.exact abm (st R X f (hs nm (.head _)) (.d r) (sI h▸q))
 .induction d using D.casesOn with|tup Z=>refine lA r λa U g1 j m g4=>lJ (sC J f) λT e2=>wpAny_assign_Tuple hh (g1.imp λo=>cR (R.sub _ _)) (T.trans ((yX h).trans m.sz)) e2 λc hx=>?_;have k:∀b o,x.s.heap.get? b=some o->c.get? b=some o:=λb o e=>hx b o (cv (Heap.lt_size e)) e;have g:∀P,Rel w (x.grow {x.s with heap:=c} [])/\Le wm P x (x.grow {x.s with heap:=c} []):=λP=>iC (s':={x.s with heap:=c}) (as:=[]) R k R.gens rfl (λ_ hb=>kn hb);exact RI (x:=x.grow {x.s with heap:=c} []) st (g fP).1 (X.Uy (g fP).2) f (λe he nm p' ee=>hs nm (List.mem_filterMap.mpr ⟨_,he,ee▸rfl⟩)) (m.keeps (g fP).2.gk) h λy C B j L=>q y C ((g _).2.trans B) j L|_=>exact ec h
end
section
variable{w:bN}{n:Nat}{x y z:Sx}{wm:Nat}{P P':b8->Prop}{A:bH}{E:al->aM->Prop}{Y:Cx}{J:Env}{N:cg}{O:ab Str}{l:Loc}
structure tw(w:bN)(A:bH)(x y:Sx)(I:b8)(B:ab D)(fp:ab b8)(Pi:Nat->al->Prop)(St:Nat->Heap->Prop):Prop where
 walk:Walks pw w A I fp [I] B.length Pi St
 st:St 0 y.s.heap
 off:Off x y I
 live:∀i h,St i h->∃o,h.get? I=some o
 Zc:∀b∈fp,b=I\/∃o,y.g.get? b=some o
 item:∀i v,i<B.length->Pi i v->∃d,B[i]?=some d/\Rd w y.g d v
 go:∀i(s:aM)tg v(Q:ag9->aM->Prop)(E:al->aM->Prop),St i s.heap->Q () s->aR (aP pw w) A (abJ tg (.ref I) v) Q E s
noncomputable def xR(w:bN)(n:Nat)(m:MI)(N:cg)(O:ab Str)(code:Env->Sem al):Prop:=∀{A:bH}{E:al->aM->Prop}{Y:Cx}{x:Sx}{J:Env}{l:Loc}{B:ab D}{b:Hp}{Q:al->aM->Prop},At w A n Y x J N O l->m Y l x.H=some (B,b)->(∀y I c Pi St,At w A n Y y J N O l->Le Y.wm fP x y->y.H=b->B.length<=bf->tw w A x y I B c Pi St->Q (.ref I) y.s)->aR (aP pw w) A (code J) (λe d=>aR (aP pw w) A (pyIter e) Q E d) E x.s
noncomputable def vT:ab dF:=["enumerate","zip","dict_itemiterator","dict_reverseitemiterator","odict_iterator","itertools.zip_longest","itertools.pairwise"]
theorem It(d:s.heap.get? I=some o)(c:o.cls=.type T)(b:vT.contains T=false)(h:Q () s):aR (aP pw w) A (abJ tg (.ref I) v) Q E s:=by
 have go:∀{a:b8},aR (aP pw w) A (do let o←load I;match o.cls,o.data with|.type n,.fields U=>if vT.contains n&&U[0]?==some (rawInt a)then rule "for.unpacks-the-owned-tuple";updateField I 0 .none|_,_=>pure ():Sem ag9) Q E s:=by intro a;refine aB (wpAny_load d ?_);refine sY c ?_;cases o.data<;>first|exact aQ h|(dsimp only;rw[b,Bool.false_and,aX cL];exact aQ h)
 rcases tg with⟨⟩<;>first|exact aQ h|(rcases v with⟨⟩<;>first|exact aQ h|exact go)
theorem uV(a:At w A n Y y J N O l)(L:Le Y.wm fP x y)(hf:o.isFreed=false)(T:vT.contains IT=false){St:Nat->Heap->Prop}(Z:Walks pw w A y.sz j [y.sz] B.length Pi St)(st:St 0 (y.s.heap.push o))(t:∀i h,St i h->∃o,h.get? y.sz=some o/\o.cls=.type IT)(m:∀b∈j,b=y.sz\/∃o,y.g.get? b=some o)(hz:B.length<=bf)(c:∀i v,i<B.length->Pi i v->∃d,B[i]?=some d/\Rd w y.g d v){Q:al->aM->Prop}(q:∀z I j Pi St,At w A n Y z J N O l->Le Y.wm fP x z->z.H=y.H->B.length<=bf->tw w A x z I B j Pi St->Q (.ref I) z.s):Q (.ref y.sz) {y.s with heap:=y.s.heap.push o}:=have r:∀b C,y.s.heap.get? b=some C->(y.s.heap.push o).get? b=some C:=λ_ _ e=>Heap.get?_push_of_some _ e;lJ (iC (wm:=Y.wm) (P:=fP) (s':={y.s with heap:=y.s.heap.push o}) (as:=[]) a.rel r a.rel.gens rfl (λ_ k=>kn k)) λS f=>q _ y.sz j Pi St (a.step S f) (L.trans f) rfl hz ⟨Z,st,Off.new L a.rel i' r,λi h s=>d9 (t i h s) λo h _=>⟨o,h⟩,λb k=>(m b k).imp id λh=>h.imp λo=>f.gk b o,λi v U p=>d9 (c i v U p) λd G M=>i12 d G (M.keeps f.gk),λi s tg v Q' E' st h=>d9 (t i _ st) λo X R=>It X R T h⟩
theorem Em(a:At w A n Y y J N O l)(L:Le Y.wm fP x y)(r:CW w y.g B u)(q:∀z I C Pi St,At w A n Y z J N O l->Le Y.wm fP x z->z.H=y.H->B.length<=bf->tw w A x z I B C Pi St->Q (.ref I) z.s):aR (aP pw w) A (pyIter u) Q E y.s:=jr r λad U R c t m=>have p:∃o,y.g.get? ad=some o:=c.elim (λh=>h.imp λ_ h=>h.1) λh=>h.imp λ_ h=>h.1;have k:ad≠y.sz:=p.elim λo M=>cv (Heap.lt_size (a.rel.sub _ _ M));have f:∀i v,i<B.length->U[i]?=some v->∃d,B[i]?=some d/\Rd w y.g d v:=λi v _ e=>m.get' (cY.trans e);have j:∀b∈[y.sz,ad],b=y.sz\/∃o,y.g.get? b=some o:=λb G=>(QQ G).imp id λ(e:b=ad)=>e▸p;R▸c.elim (λc=>wpAny_pyIter_tuple (a.tup c) (uV a L rfl (by decide) (m.sz▸Walks.tuple a.room.hh y.sz ad k U) ⟨⟨_,Heap.get?_push_size _ rfl,rfl,rfl⟩,(a.tup c).push _⟩ (λi h s=>s.1.imp λo h=>⟨h.1,h.2.1⟩) j (m.sz▸t) f q)) λc=>acK (a.lst c) (uV a L rfl (by decide) (m.sz▸ahY a.room.hh y.sz ad k U) ⟨⟨_,Heap.get?_push_size _ rfl,rfl,rfl⟩,(a.lst c).push _⟩ (λi h s=>s.1.imp λo h=>⟨h.1,h.2.1⟩) j (m.sz▸t) f q)
theorem Gs{code:Env->Sem al}(h:eo w n m N O code):xR w n (N3 m) N O code:=by intro A E Y x J l B T Q a e q;refine jU e λv X s t=>?_;refine h a s λy u c f o C=>?_;refine Rp (B0 (wm:=Y.wm) (P:=fP) c.rel C ((sY o t))) λz H L d M R=>?_;simp only[←H];exact Em (c.step L d) (f.trans d) R λG I k i St j g p b r=>q G I k i St j g (p.trans M) b r
theorem yG{code:Env->Sem al}:xR w n (λ_ _ _=>none) N O code:=by intro A E Y x J l B b Q a e q;exact ec e
theorem BG(hs:noStar (c::es)=true)(a:At w A n Y x J N O l)(p:Keeps i w x.g)(k:aR (aP pw w) A (aey (aa9 j (c6 (c::es) J))) (λr s'=>(∀b o,x.g.get? b=some o->s'.heap.get? b=some o)/\aR (aP pw w) A (PySem.call i (d++r)) Q E s') E x.s):aR (aP pw w) A (callWith j i d (aa9 j (c6 (c::es) J)) []) Q E x.s:=by
 have q:∀{es:ab PySem.Expr},noStar es=true->(aa9 j (c6 es J)).any (·.1)=false:=by intro es;induction es with|nil=>intro _;rfl|cons e es ih=>intro hs;obtain⟨f,mM⟩:=gQ hs J;rw[f];show(false||(aa9 j (c6 es J)).any (·.1))=false;rw[ih mM];rfl
 refine callWith_of (P:=λh=>∀b o,x.g.get? b=some o->h.get? b=some o) (by rw[q hs];rfl) (λh m=>p h m) ?_;obtain⟨f,mM⟩:=gQ hs J;rw[f]at k⊢;exact evalArgs_plain k
theorem rW{id:dF}:Keeps (.type id) w g:=λh _=>⟨.machine,.inr (.inl rfl),Looks.now⟩
theorem wi(h:0<=k):abt 0 k 1=k:=by rw[rangeSize_one];split<;>lia
theorem B6{x:D}(h:sF x H=some r):∃k,x=.int k/\(0<=k/\k<2^20)/\((bx k.toNat).map λ(i:Nat)=>D.int (i:Int),H)=r:=i3 (P:=λx=>∃k,x=.int k/\(0<=k/\k<2^20)/\((bx k.toNat).map λ(i:Nat)=>D.int (i:Int),H)=r) h λk h=>if1 h λb h=>PA k rfl b (sI h)
theorem At.YX(a:At w A n Y y J N O l)(k:∀b o,y.s.heap.get? b=some o->s'.heap.get? b=some o)(c:s'.gens=#[])(ho:s'.os=y.s.os){G:aM->Prop}(κ:∀z,z.s=s'->At w A n Y z J N O l->Le Y.wm fP y z->z.H=y.H->G z.s):G s':=lJ (iC (wm:=Y.wm) (P:=fP) (s':=s') (as:=[]) a.rel k c ho (λ_ hb=>kn hb)) λS L=>κ (y.grow s' []) rfl (a.step S L) L rfl
theorem yT(h:0<=k):abt 0 k 1=(k.toNat:Int)-(0:Nat):=(wi h).trans (by lia)
theorem Fq(h:0<=k/\k<2^20):agm 0 k 1=true:=small_one (by decide) (by decide) (by lia) (afi h.2 (by decide))
theorem Hr{k:Int}(h:0<=k/\k<2^20):((bx k.toNat).map λ(i:Nat)=>D.int (i:Int)).length<=bf:=by rw[ak,abl];exact ar (show k.toNat<=big from by unfold big;lia) kU
theorem zT(h:eo w n m N O (λJ=>cG e J))(hs:noStar [e]=true)(hg:jb N nm=true)(hn:nm=aa "range"):xR w n (yF m) N O (λJ=>cG (.Call (.Name nm p') [e] [] p) J):=by
 intro A E Y x J l B H' Q a r q;refine(let γ:Prop:=_;(?_:γ));refine jU r λd X k1 r=>j6 (B6 r) λk z L C=>?_;subst hn;refine dI (FT a hg (yS _) (Di _) (BG hs a rW ?_));have M:Li ([e].map λ_=>m) Y l x.H=some ([.int k],X):=(ag (ck · _) ((show d=D.int k from z)▸k1)).trans rfl;refine kP (f:=λ_=>m) (λe' he=>kB he▸h) hs a .refl M λy us c U _ g1 R=>⟨λb o z=>c.rel.sub _ _ (U.gk _ _ z),?_⟩;refine GG R λu us R r2=>HZ r2 (i4 R λt=>call_range_1 ?_);refine c.YX (G:=λs=>aR (aP pw w) A (pyIter (.ref y.s.heap.objs.size)) Q E s) ?_ ?_ ?_ λz ez a2 L2 g2=>?_;.exactλ_ _ e=>Heap.get?_push_of_some _ e
 .exact c.rel.gens
 .rfl
 have IR:IsRange z.s.heap y.s.heap.objs.size 0 k 1 y.s.toks t (y.s.toks+1):=ez▸IsRange.new ..;refine wpAny_pyIter_range IR (Fq L) (yT L.1▸?_);have Z:((bx k.toNat).map λ(i:Nat)=>D.int (i:Int)).length=k.toNat:=(ak _).trans abl;exact uV (IT:="range_iterator") (Pi:=λi v=>∃t,v=.int (0+(i:Nat)*1) t) (St:=λi h=>IsRangeIter h z.sz (0+(i:Nat)*1) ((k.toNat:Int)-(i:Nat)) 1) a2 (U.trans L2) rfl (by decide) (Z.symm▸Walks.range a.room.hh z.sz 0 1 k.toNat) (Heap.get?_push_size _ rfl) (λi h s=>⟨_,s,rfl⟩) (λb hb=>.inl (kB hb)) (Hr L) (λi v hi p=>p.elim λt e=>i12 (.int i) (by rw[bV,List.getElem?_range (Z▸hi)];rfl) (sY (P:=λv=>Rd w z.g (.int i) v) e (sY (P:=λj=>Rd w z.g (.int i) (.int j t)) (show(0+(i:Int)*1)=(i:Int)by lia) (.int _ _)))) λz I fp Pi St a3 L3 g3 hz T=>q z I fp Pi St a3 L3 (g3.trans (g2.trans (g1.trans (pJ C).2))) ((pJ C).1▸hz) ((pJ C).1▸T)
end
section
variable{w:bN}{n:Nat}{x y z:Sx}{wm:Nat}{P P':b8->Prop}{A:bH}{E:al->aM->Prop}{Y:Cx}{J:Env}{N:cg}{O:ab Str}{l:Loc}
theorem At.VZ(a:At w A n Y x J N O l)(k:∀b o,x.s.heap.get? b=some o->s'.heap.get? b=some o)(d:s'.gens=#[])(ho:s'.os=x.s.os){Q:al->aM->Prop}(h:x.H=c)(r:Rv w x v u)(q:∀y u,At w A n Y y J N O l->Le Y.wm fP x y->y.H=c->Rv w y v u->Q u y.s):Q u s':=by obtain⟨S,L⟩:=iC (wm:=Y.wm) (P:=fP) (s':=s') (as:=[]) a.rel k d ho (λb hb=>by simp at hb);exact q _ _ (a.step S L) L h (r.le L)
theorem Off.EG(R:Rel w y)(h:Off x y b){i:Nat}:y.φ[i]?≠some b:=by intro e;have c:i<y.H.length:=R.len▸(aE.mp e).1;have hc:y.H[i]?=some y.H[i]:=au c;exact if hm:y.H[i].BQ=true then h.2.2 ⟨i,_,hc,hm,e⟩else(fY.data (R.cell i _ b hc e) hm).elim λo ho=>TV (ho.symm.trans h.2.1)
theorem uj(L:Le wm P x y)(R:Rel w y){D:b8}(h:Off x y D):∃f,f.s=y.s/\f.H=y.H/\Rel w f/\Le wm P x f/\(∀b o,y.g.get? b=some o->f.g.get? b=some o)/\(∀o,y.s.heap.get? D=some o->f.g.get? D=some o)/\f.φ=y.φ/\∀b,b≠D->y.g.get? b=none->f.g.get? b=none:=by
 have d:∀b o,y.g.get? b=some o->(kh y.s.heap y.g [D]).get? b=some o:=i0 R.sub;refine i12 ⟨kh y.s.heap y.g [D],y.φ,y.H,y.s⟩ rfl ⟨rfl,⟨oI,R.top.keeps d,R.len,λi c a k m=>?_,R.inj,R.gens⟩,⟨λb o e=>d b o (L.gk b o e),λb o e n=>?_,L.keep,L.DL,L.mu,L.refs,L.live,L.os⟩,d,λo e=>jE ((.head _)) e,rfl,λb p n=>?_⟩;.refine fY.keeps (x:=y) (y:=⟨kh y.s.heap y.g [D],y.φ,y.H,y.s⟩) d (λ_ _ e=>e) (λn r=>?_) (λ_ o e=>e) (R.cell i c a k m);clear k;cases e:(kh y.s.heap y.g [D]).get? a with|none=>rfl|some o=>have:=gH e n;simp only[bt]at this;subst this;exact ax m (h.EG R)
 .cases j:y.g.get? b with|some q=>exact L.gn b q j n|none=>have:=gH e j;simp only[bt]at this;refine sY this ?_;exact .inr h.1
 .cases e:(kh y.s.heap y.g [D]).get? b with|none=>rfl|some o=>have:=gH e n;simp at this;exact ax this p
theorem Gv(L:Le wm P x y)(R:Rel w y){D:b8}(h:Off x y D):∃c,c.s=y.s/\c.H=y.H/\Rel w c/\Le wm P x c/\(∀b o,y.g.get? b=some o->c.g.get? b=some o)/\∀o,y.s.heap.get? D=some o->c.g.get? D=some o:=(uj L R h).imp λ_ z=>⟨z.1,z.2.1,z.2.2.1,z.2.2.2.1,z.2.2.2.2.1,z.2.2.2.2.2.1⟩
theorem xK(L:Le wm P x y)(R:Rel w y){D:b8}(h:Off x y D)(a:wm<=y.H.length)(T:fY w ⟨y.g,y.φ++[D],y.H++[c],y.s⟩ D c):Rel w ⟨y.g,y.φ++[D],y.H++[c],y.s⟩/\Le wm P x ⟨y.g,y.φ++[D],y.H++[c],y.s⟩:=by
 have I:∀(i:Nat)(b:b8),y.φ[i]?=some b->(y.φ++[D])[i]?=some b:=λi b e=>by rw[aT (aE.mp e).1];exact e
 have f:∀{G:Type}{l:ab G}{c d:G}{i:Nat},(l++[c])[i]?=some d->l[i]?=some d\/(i=l.length/\c=d):=by
  intro G l c d i h;refine or3 (aaC i l.length) (λq=>?_) (λq=>?_) λq=>?_;.rw[aT q]at h;exact .inl h
  .subst q;simp at h;exact .inr ⟨rfl,h⟩
  .rw[b9 (by simp;lia)]at h;exact ec h
 refine⟨⟨R.sub,R.top,by simp[R.len],λj d b k m=>?_,?_,R.gens⟩,⟨L.gk,L.gn,L.keep,?_,?_,?_,L.live,L.os⟩⟩;.
  rcases f k with k|⟨rfl,rfl⟩;.
   have Z:j<y.φ.length:=R.len▸(aE.mp k).1;have C:y.φ[j]?=some b:=by
    rcases f m with q|⟨q,_⟩;.exact q
    .lia
   exact fY.keeps (x:=y) (y:=⟨y.g,y.φ++[D],y.H++[c],y.s⟩) (λ_ _ e=>e) I (λn _=>n) (λ_ o e=>e) (R.cell j d b k C)
  .rcases f m with q|⟨_,rfl⟩;.have:=(aE.mp q).1;rw[R.len]at this;lia
   .exact T
 .intro i j b k m;rcases f k with k|⟨t,M⟩<;>rcases f m with m|⟨B,Q⟩;.exact R.inj _ _ _ k m
  .exact ax (Q▸k) (h.EG R)
  .exact ax (M▸m) (h.EG R)
  .exact t.trans B.symm
 .refine d9 (L.DL) λX t B=>?_;refine i12 (X++[D]) (by rw[←bz,←t]) (λb p=>?_);rcases aJ.mp p with p|p;.exact B b p
  .rw[bt.mp p];exact h.1
 .rintro b⟨i,d,k,m,r⟩;rcases f r with r|⟨rfl,rfl⟩;.
   rcases f k with k|⟨rfl,rfl⟩;.exact L.mu b ⟨i,d,k,m,r⟩
   .have:=(aE.mp r).1;rw[R.len]at this;lia
  .exact .inr h.1
 .intro i d U k;rcases f k with k|⟨rfl,rfl⟩;.exact L.refs i d U k
  .omega
theorem C8(s:Str)(h:2<=s.cps.size):(cj (some (1:Int)) (some (-1:Int)) 1 s.length).length=s.cps.size-2/\(cj (some (1:Int)) (some (-1:Int)) 1 s.length).filterMap (s.cps[·]?)=(s.cps.toList.drop 1).dropLast:=by
 have c:s.length=s.cps.size:=rfl;have b:cj (some (1:Int)) (some (-1:Int)) 1 s.length=cj (some ((1:Nat):Int)) (some ((s.length-1:Nat):Int)) 1 s.length:=by rw[StrLaws.sliceIdx_neg_hi _ _ (by decide) (by lia)];congr 2;lia
 refine sY b ?_;refine⟨?_,?_⟩;.rw[StrLaws.strSliceIndices_plain (by lia) (by lia)];simp;rfl
 .rw[StrLaws.sliced_plain s (by lia) (by lia)];rw[List.dropLast_eq_take];simp only[dv,cB];rw[c]
theorem Jn(h:OC v=some u):∃s,v=.d (.str s)/\(2<=s.cps.size/\s.cps.size<=big)/\u=.d (.str ⟨(s.cps.toList.drop 1).dropLast.toArray⟩):=pA (P:=λv=>∃s,v=.d (.str s)/\(2<=s.cps.size/\s.cps.size<=big)/\u=.d (.str ⟨(s.cps.toList.drop 1).dropLast.toArray⟩)) h λ_ h=>xd (P:=λd=>∃s,V.d d=.d (.str s)/\(2<=s.cps.size/\s.cps.size<=big)/\u=.d (.str ⟨(s.cps.toList.drop 1).dropLast.toArray⟩)) h λs h=>if1 h λb h=>PA s rfl b (sI h).symm
theorem B5{x y:D}(h:zR H x y=some r):∃i,x=.int i/\mA H (.eH [(.int i,y)] false)=some r:=i3 (P:=λx=>∃i,x=.int i/\mA H (.eH [(.int i,y)] false)=some r) h λi h=>i12 i rfl h
theorem JW(L:eo w n T N O (λJ=>cG o J))(I:isName o=true):eo w n (ND T) N O (λJ=>cG (.Subscript o (.Slice (some (.Constant (.int 1) m p1)) (some (.UnaryOp .USub (.Constant (.int 1) k2 p2) p3)) none p') p) J):=by
 intro A E Y x J l v H' Q a e q;refine(let i:Prop:=_;(?_:i));refine jU e λvo X c e=>j0 e λv' m k=>j6 (Jn m) λs z hs C=>?_;refine wpAny_Subscript_str_slice (L a c λy u j r c U=>?_) (A' I);simp only[acy,acy];refine dG (acn (dG (P.neg_int ?_)));refine(let i:Prop:=_;(?_:i));refine(show Rd w y.g (.str s) u from(z▸U:Rv w y (.d (.str s)) u).eU).str_inv.elim λt h=>?_;refine XR s t (some (1,_)) (some (-1,_)) ⟨h,rfl,rfl,?_⟩;refine lJ (C8 s hs.1) λM R=>?_;have f:(((none:ae (Int×Tok)).map (·.1)).getD 1==1&&(adf s (some ((1:Int),y.s.toks)) (some ((-1:Int),y.s.toks+1+1)) none).length==s.length)=false:=by
  have:adf s (some ((1:Int),y.s.toks)) (some ((-1:Int),y.s.toks+1+1)) none=cj (some (1:Int)) (some (-1:Int)) 1 s.length:=rfl;rw[this,M];refine sY (show s.length=s.cps.size from rfl) ?_;have:(s.cps.size-2==s.cps.size)=false:=by lia
  rw[this];simp
 unfold sliceMade;rw[f,aX (by decide)];rw[(show(adf s (some ((1:Int),y.s.toks)) (some ((-1:Int),y.s.toks+1+1)) none).filterMap (s.cps[·]?)=(s.cps.toList.drop 1).dropLast from R)];refine⟨?_,?_⟩;.show((s.cps.toList.drop 1).dropLast.toArray).size<=bf;simp only[acN,List.length_dropLast,dv,cB];have:=kU;lia
 .refine j.VZ (s':={y.s with heap:=y.s.heap.push {cls:=.type "slice",data:=.fields #[.int 1 y.s.toks,.int (-1) (y.s.toks+1+1),.none]},toks:=y.s.toks+1+1+1+1}) (λb o e=>Heap.get?_push_of_some _ e) j.rel.gens rfl (c.trans (pJ k).2) (show Rv w y v (.str _ _)from(pJ k).1▸C.symm▸.d (.str _ _)) λz u G B H Z=>q z u G (r.trans B) H Z
theorem Cg(hk:eo w n mk N O (λJ=>cG k J))(hv:eo w n mv N O (λJ=>cG v J)):eo w n (zo mk mv) N O (λJ=>cG (.Dict [some k] [v] p) J):=by
 intro A E Y x J l v' H' Q a e q;refine(let T:Prop:=_;(?_:T));refine jU e λd X M e=>jU e λd2 H2 k2 e=>d9 (B5 e) λi z e6=>?_;.
  subst z;revert q;refine sP e6 λq=>?_;refine wpAny_Dict_pairs (knd:=sK w) (pairs:=[(cG k J,do let x←cG v J;standAt p;pure x)]) rfl (by simp) (bl rfl) ?_;have gk:∀(b:b8)(R:Obj),x.s.heap.get? b=some R->(x.s.heap.push {cls:=.type "dict",data:=.dict #[]}).get? b=some R:=λb R e=>Heap.get?_push_of_some _ e;obtain⟨S0,C⟩:=iC (wm:=Y.wm) (P:=fP) (s':={x.s with heap:=x.s.heap.push {cls:=.type "dict",data:=.dict #[]}}) (as:=[]) a.rel gk a.rel.gens rfl (λb hb=>by exact kn hb);have a0:=a.step S0 C;have G:Off x (x.grow {x.s with heap:=x.s.heap.push {cls:=.type "dict",data:=.dict #[]}} []) x.sz:=Off.new (wm:=Y.wm) (P:=fP) .refl a.rel i' gk;have B:(x.grow {x.s with heap:=x.s.heap.push {cls:=.type "dict",data:=.dict #[]}} []).s.heap.get? x.sz=some {cls:=.type "dict",data:=.dict #[]}:=Heap.get?_push_size _ rfl;have h0:(x.grow {x.s with heap:=x.s.heap.push {cls:=.type "dict",data:=.dict #[]}} []).H=x.H:=rfl;rw[←h0]at M;show aR _ _ _ _ _ (x.grow {x.s with heap:=x.s.heap.push {cls:=.type "dict",data:=.dict #[]}} []).s;generalize(x.grow {x.s with heap:=x.s.heap.push {cls:=.type "dict",data:=.dict #[]}} [])=x0 at S0 C a0 G B M⊢;refine evalPairs_cons (eo.dat hk a0 C M λy1 u1 a1 L1 j g1 r1=>aB (eo.dat hv a1 L1 ((sY g1 k2)) λf t r L2 m g2 r2=>aB (aav (aQ (evalPairs_nil ?_)))));refine(let T:Prop:=_;(?_:T));have O1:=G.le B j;have U:=j.keep _ _ B G.2.2 (λq=>q);have I:=O1.le U m;.
   refine i12 ([(.int i,t)]) ⟨rJ rfl r1,rfl,bL⟩ ⟨(show f.s.heap.DictOf (sK w) x.sz []from DictOf.of_empty (w:=w) (m.keep _ _ U O1.2.2 (λq=>q)) ⟨rfl,rfl,rfl⟩ rfl),λL hd hs=>?_⟩;have hz:∀b,b=x.sz->Off x f b:=by rintro b rfl;exact I
   refine lJ (L2.off (Z:=λb=>b=x.sz) (s':={f.s with heap:=L,toks:=f.s.toks+[(u1,t)].length}) r.rel hz (λb o n e=>hs.extBut b o n e) r.rel.gens rfl) λS3 L3=>?_;replace hd:L.DictOf (sK w) x.sz [(.int i,t)]:=hd;refine lJ (xK (y:=⟨f.g,f.φ,f.H,{f.s with heap:=L,toks:=f.s.toks+[(u1,t)].length}⟩) (D:=x.sz) (c:=.eH [(.int i,d2)] false) L3 S3 I r.wm ⟨uJ a.rel,bl rfl,I.2.1,.k hd (.cons ⟨rfl,rfl,r2⟩ .nil)⟩) λS4 h=>?_;refine q _ _ (a.step S4 h) h (by show f.H++_=_;rw[g2]) (.ref ?_);show(f.φ++[x.sz])[_]?=_;rw[←g2,←r.rel.len];simp
end
end Mine
end
noncomputable section
open PySem PySem.W
namespace Mine
noncomputable abbrev W:=ab Nat
theorem te(b:W):eT [] b=true:=by cases b<;>rfl
theorem kM(a b:Nat)(r t:W):eT (a::r) (b::t)=(decide (a<b)||(decide (a=b)&&eT r t)):=by
 dsimp only[eT];by_cases h:a<b;.simp[h,ad3]
 .by_cases c:a=b;.refine sY c ?_;simp[ad3]
  .simp[h,c,ad3,Nat.beq_eq]
theorem iH{a:W}:∀{b:W},eT a b=true↔a<=b:=by
 induction a with
 |nil=>intro b;exact⟨λ_=>List.nil_le b,λ_=>te b⟩|cons a r ih=>
  intro b;rcases b with _|⟨b,t⟩;.exact⟨λh=>fE h,λh=>ax (List.nil_lt_cons a r) h⟩
  .rw[kM,List.cons_le_cons_iff,←ih,de,aI,aZ,aZ]
theorem ic(a b:W):eT a b=true\/eT b a=true:=(List.le_total a b).imp iH.mpr iH.mpr
theorem jJ(a b:W)(h:eT a b=true)(k:eT b a=true):a=b:=List.le_antisymm (iH.mp h) (iH.mp k)
theorem ij(a b c:W)(h:eT a b=true)(k:eT b c=true):eT a c=true:=iH.mpr (List.le_trans (iH.mp h) (iH.mp k))
section
variable{α:Type}{B:α->α->bp}
theorem wo{b:α}{r:ab α}(q:B a b=true):kO B a (b::r)=a::b::r:=aS q
theorem vu{b:α}{r:ab α}(q:¬B a b=true):kO B a (b::r)=b::kO B a r:=aX q
theorem n5{l:ab α}:(kO B a l).Perm (a::l):=by induction l with|nil=>exact .refl _|cons b r ih=>exact if q:B a b=true then .of_eq (wo q)else(List.Perm.of_eq (vu q)).trans ((ih.cons b).trans (.swap a b r))
theorem jx{l:ab α}:(sortBy B l).Perm l:=by induction l with|nil=>exact .refl _|cons b r ih=>exact n5.trans (ih.cons b)
theorem BW{l:ab α}:x∈kO B a l↔x=a\/x∈l:=n5.mem_iff.trans ah
theorem iF{l:ab α}:x∈sortBy B l↔x∈l:=jx.mem_iff
theorem QL{l:ab α}:(kO B a l).length=l.length+1:=n5.length_eq
theorem oh{l:ab α}:(sortBy B l).length=l.length:=jx.length_eq
theorem yK{R:α->α->Prop}{l:ab α}(t:∀b∈l,∀c∈l,B a b=true->R b c->R a c)(f:∀b∈l,B a b=true->R a b)(g:∀b∈l,B a b=false->R b a)(h:l.Pairwise R):(kO B a l).Pairwise R:=by
 induction l with
 |nil=>exact bX ..|cons b r ih=>
  have p:=dD.mp h;refine if q:B a b=true then(ag (aeh R) (wo q)).mpr (dD.mpr ⟨λc d=>?_,h⟩)else(ag (aeh R) (vu q)).mpr (dD.mpr ⟨λc d=>?_,?_⟩);.exact(ah.mp d).elim (λe=>e▸f b (.head _) q) λd=>t b (.head _) c (.tail _ d) q (p.1 c d)
  .exact(BW.mp d).elim (λe=>e▸g b (.head _) (Bool.not_eq_true _▸q)) (p.1 c)
  .exact ih (λb h c k=>t b (.tail _ h) c (.tail _ k)) (λb h=>f b (.tail _ h)) (λb h=>g b (.tail _ h)) p.2
theorem Dq{c:Type}{f:α->c}{m:c->c->bp}(h:∀a b,m (f a) (f b)=B a b){l:ab α}:kO m (f a) (l.map f)=(kO B a l).map f:=by induction l with|nil=>exact rfl|cons b r ih=>exact if q:B a b=true then(aS ((h a b).trans q)).trans (ag (aaa f) (wo q)).symm else(aX λz=>q ((h a b).symm.trans z)).trans ((ag (f b::·) ih).trans (ag (aaa f) (vu q)).symm)
theorem lL{c:Type}{f:α->c}{m:c->c->bp}(h:∀a b,m (f a) (f b)=B a b){l:ab α}:sortBy m (l.map f)=(sortBy B l).map f:=by induction l with|nil=>exact rfl|cons b r ih=>exact(ag (kO m (f b)) ih).trans (Dq h)
set_option tactic.hygienic true in noncomputable def IP(B:α->α->bp)(l:ab α):Prop:=l.Pairwise λa b=>B a b=true/\a≠b
theorem Oq(f:∀a b,B a b=true\/B b a=true)(i:∀a b c,B a b=true->B b c=true->B a c=true){a:α}{l:ab α}(h:IP B l)(n:a∉l):IP B (kO B a l):=by have e:∀b∈l,a≠b:=λb h z=>n (z▸h);exact yK (λb d c g q r=>⟨i _ _ _ q r.1,e c g⟩) (λb d q=>⟨q,e b d⟩) (λb d q=>⟨(f a b).resolve_left λz=>fE (q.symm.trans z),(e b d).symm⟩) h
theorem pB(d:∀a b,B a b=true\/B b a=true)(f:∀a b c,B a b=true->B b c=true->B a c=true){l:ab α}:l.Nodup->IP B (sortBy B l):=by induction l with|nil=>intro _;exact .nil|cons a r ih=>exactλh=>have h:=a9.mp h;Oq d f (ih h.2) λe=>h.1 (iF.mp e)
theorem K3(as:∀a b,B a b=true->B b a=true->a=b){l l':ab α}(h:IP B l)(h':IP B l')(e:∀x,x∈l↔x∈l'):l=l':=aan (le:=λa b=>B a b=true) (λa b _ _=>as a b) (h.imp And.left) (h'.imp And.left) ((aa6 (h.imp And.right) (h'.imp And.right)).mpr e)
end
noncomputable abbrev SS(k:ab W):Prop:=IP eT k
theorem pI(h:SS k)(h':SS b)(e:∀x,x∈k↔x∈b):k=b:=K3 jJ h h' e
theorem SS.nd(h:SS k):k.Nodup:=aab (λh=>h.2) h
theorem SS.filter(h:SS k):SS (k.filter p):=cp p h
theorem zB:SS [w]:=by simp[SS,IP]
theorem Pj:SS []:=by simp[SS,IP]
noncomputable def fi{b:Type}[bA b](R:ab b):ab b->ab b|[]=>R|x::r=>fi (if x∈R then R else R++[x]) r
theorem lp{c:Type}[bA c]{x:c}:∀{l R:ab c},x∈fi R l↔x∈R\/x∈l:=by
 intro l;induction l with
 |nil=>intro R;simp[fi]|cons y r ih=>
  intro R;unfold fi;rw[ih];split;.
   rename_i h;constructor;.rintro(b|b)<;>simp[b]
   .rintro(b|b);.exact .inl b
    .rcases ah.mp b with e|e;.exact .inl (e▸h)
     .exact .inr e
  .simp only[aJ,ah,ai,a6];constructor;.rintro((b|b)|b)<;>simp[b]
   .rintro(b|b|b)<;>simp[b]
theorem vM{d:Type}[bA d]:∀{l R:ab d},R.Nodup->(fi R l).Nodup:=by
 intro l;induction l with
 |nil=>intro _ h;exact h|cons y r ih=>
  intro R h;unfold fi;split;.exact ih h
  .rename_i g;refine ih (a7.mpr ⟨h,by simp,?_⟩);intro a f b c e;replace c:=kB c;exact g (c▸e▸f)
theorem jz{b:Type}[bA b]:∀{l R:ab b},(fi R l).length<=R.length+l.length:=by intro l;induction l with|nil=>intro R;simp[fi]|cons y r ih=>intro R;refine ar ih ?_;split<;>simp<;>lia
theorem iJ{c:Type}[bA c]:∀{a b R:ab c},fi R (a++b)=fi (fi R a) b:=by intro a;induction a with|nil=>intro b R;exact rfl|cons x a ih=>intro b R;show fi _ (a++b)=_;rw[ih];rfl
noncomputable abbrev fW:W:=[97,110,121]
noncomputable abbrev ea:W:=[117,110,107,110,111,119,110]
noncomputable abbrev fG:W:=[110,101,118,101,114]
noncomputable abbrev d6:W:=[117,110,100,101,102,105,110,101,100]
noncomputable abbrev gx:W:=[110,117,108,108]
noncomputable abbrev d0:W:=[115,116,114,105,110,103]
noncomputable abbrev dZ:W:=[110,117,109,98,101,114]
noncomputable abbrev hJ:W:=[102,97,108,115,101]
noncomputable abbrev i8:W:=[116,114,117,101]
noncomputable def isLit(w:W):bp:=w.head?==some 34
noncomputable def i9(w:W):bp:=match w.head? with|some d=>decide (48<=d/\d<=57)|none=>false
noncomputable def qI(R:ab W)(w:W):bp:=!(decide (d0∈R)&&isLit w)&&!(decide (dZ∈R)&&i9 w)
noncomputable def ql(R:ab W):ab W:=if fW∈R then[fW]else if ea∈R then[ea]else sortBy eT (R.filter (qI R))
noncomputable def ei(Z:ab (ab W)):ab W:=ql (fi [] Z.flatten)
theorem Iu(h:R.Nodup):SS (ql R):=by
 unfold ql;split;.exact zB
 split;.exact zB
 exact pB ic ij (h.filter _)
theorem gZ:SS (ei Z):=Iu (vM (by simp))
noncomputable def Kept(A:W->Prop)(w:W):Prop:=A w/\(A fW->w=fW)/\(¬A fW->A ea->w=ea)/\(A d0->isLit w=false)/\(A dZ->i9 w=false)
theorem Dx:qI R w=true↔(d0∈R->isLit w=false)/\(dZ∈R->i9 w=false):=by unfold qI;cases isLit w<;>cases i9 w<;>simp
theorem CV:w∈ql R↔Kept (· ∈R) w:=by
 unfold ql Kept;split;.
  rename_i h;simp only[ah,ai,a6];constructor;.intro e;subst e;exact⟨h,λ_=>rfl,λc=>ax h c,λ_=>rfl,λ_=>rfl⟩
  .intro e;exact e.2.1 h
 split;.
  rename_i b h;simp only[ah,ai,a6];constructor;.intro e;subst e;exact⟨h,λc=>ax c b,λ_ _=>rfl,λ_=>rfl,λ_=>rfl⟩
  .intro e;exact e.2.2.1 b h
 .rename_i b d;rw[iF,aO,Dx];simp[b,d]
theorem eM:w∈ei Z↔Kept (λw=>∃k∈Z,w∈k) w:=by unfold ei;rw[CV];simp only[lp,ac6,ai,false_or]
structure wu(k:ab W):Prop where
 ss:SS k
 any:fW∈k->∀w∈k,w=fW
 DK:ea∈k->∀w∈k,w=ea
 str:d0∈k->∀w∈k,isLit w=false
 num:dZ∈k->∀w∈k,i9 w=false
theorem je:wu (ei Z):=by
 refine⟨gZ,λh w b=>?_,λh w b=>?_,λh w b=>?_,λh w b=>?_⟩<;>rw[eM]at h b;.exact b.2.1 h.1
 .by_cases c:∃k∈Z,fW∈k;.have:=h.2.1 c;exact ax this (by decide)
  .exact b.2.2.1 c h.1
 .exact b.2.2.2.1 h.1
 .exact b.2.2.2.2 h.1
theorem um(h:∀w,(∃k∈Z,w∈k)↔∃k∈b,w∈k):ei Z=ei b:=by refine pI gZ gZ λw=>?_;rw[eM,eM];simp only[h]
theorem wu.join(h:wu k)(e:∀w,(∃k∈Z,w∈k)↔w∈k):ei Z=k:=by
 refine pI gZ h.ss λw=>?_;rw[eM];unfold Kept;simp only[e];constructor;.exactλq=>q.1
 .exactλq=>⟨q,λa=>h.any a w q,λ_ a=>h.DK a w q,λa=>h.str a w q,λa=>h.num a w q⟩
theorem wu.sub(h:wu k)(s:SS k')(e:∀w∈k',w∈k):wu k':=⟨s,λa w q=>h.any (e _ a) w (e _ q),λa w q=>h.DK (e _ a) w (e _ q),λa w q=>h.str (e _ a) w (e _ q),λa w q=>h.num (e _ a) w (e _ q)⟩
theorem wu.filter(h:wu k):wu (k.filter p):=h.sub h.ss.filter λw q=>(aO.mp q).1
theorem vL:wu [w]:=by
 refine⟨zB,?_,?_,?_,?_⟩<;>intro h v b<;>simp only[ah,ai,a6]at h b<;>refine sY b ?_;.exact h.symm
 .exact h.symm
 .rw[←h];rfl
 .rw[←h];rfl
theorem pn:wu []:=by refine⟨Pj,?_,?_,?_,?_⟩<;>intro h<;>simp at h
end Mine
end
noncomputable section
open PySem PySem.W PySem.Calls PyProof.Rows
namespace Mine
open SeqAt
open scoped Classical
theorem tO{B:e->e->bp}(f:∀a b c,B a b=true->B b c=true->B a c=true)(d:∀a b,B a b=false->B b a=true)(l:ab e):(sortBy B l).Pairwise (λx y=>B x y=true):=by induction l with|nil=>exact .nil|cons a r ih=>exact yK (R:=λx y=>B x y=true) (λb _ c _=>f a b c) (λ_ _ q=>q) (λb _=>d a b) ih
theorem qm{B:m->m->bp}(j:∀a b c,B a b=true->B b c=true->B a c=true)(e:∀a b,B a b=false->B b a=true)(d:∀a b,B a b=true->B b a=true->a=b)(i:k.Perm l)(hs:k.Pairwise (λx y=>B x y=true)):k=sortBy B l:=aan (le:=λx y=>B x y=true) (λa b _ _ f g=>d a b f g) hs (tO j e l) (i.trans (jx (B:=B) (l:=l)).symm)
theorem Ji(a b:Nat)(x:bp):(decide (a<b)||(decide (a=b)&&!x))=!(decide (b<a)||(b==a&&x)):=by
 rcases aaC a b with h|h|h;.rw[ay h,aw (aeZ h),aak.mpr (aao h)];rfl
 .subst h;rw[aw (cQ a),ay rfl,dz];rfl
 .rw[aw (aeZ h),ay h,aw (aao h)];rfl
theorem BK{a:ab Nat}:∀b:ab Nat,eT a b=!PySem.Spec.ltCps b a:=by
 induction a with
 |nil=>intro b;rcases b with _|_<;>rfl|cons a r ih=>
  intro b;rcases b with _|⟨b,t⟩;.rfl
  .exact(kM a b r t).trans ((ag (λx=>decide (a<b)||(decide (a=b)&&x)) (ih t)).trans (Ji a b _))
theorem x9(a b c:Str)(h:kz a b=true)(k:kz b c=true):kz a c=true:=ij _ _ _ h k
theorem CK(a b:Str)(h:kz a b=false):kz b a=true:=(ic _ _).resolve_left λe=>fE (h.symm.trans e)
theorem zv(a b:Str)(h:kz a b=true)(k:kz b a=true):a=b:=by have:=jJ _ _ h k;obtain⟨⟨x⟩⟩:=a;obtain⟨⟨y⟩⟩:=b;simp at this;exact sY this rfl
theorem pP:∀{G:ab Str},sortedS G=true->G.Pairwise (λx y=>kz x y=true)
 |[],_=>.nil|x::r,h=>by
  have go:∀(r:ab Str)(x:Str),risingS x r=true->(x::r).Pairwise (λx y=>kz x y=true):=by
   intro r;induction r with
   |nil=>intro x _;simp|cons y r ih=>
    intro x h;unfold risingS at h;rw[aI]at h;have b:kz x y=true:=by unfold kz;rw[BK];exact h.1
    have e:=ih y h.2;rw[dD];refine⟨λc d=>?_,e⟩;rcases ah.mp d with rfl|d;.exact b
    .exact x9 _ _ _ b ((dD.mp e).1 c d)
  exact go r x h
theorem yJ(c:b.Perm G)(d:sortedS b=true):b=sortBy kz G:=qm x9 CK zv c (pP d)
theorem Cz{d:ab Int}(e:d.Perm I)(f:d.Pairwise (· <=·)):d=sortBy (λa b=>decide (a<=b)) I:=qm (λa b c h k=>by simp at*;lia) (λa b h=>by simp at*;lia) (λa b h k=>by simp at*;lia) e (f.imp λh=>by simpa using h)
section
variable{w:bN}{n:Nat}{x y z:Sx}{wm:Nat}{P P':b8->Prop}{A:bH}{E:al->aM->Prop}{Y:Cx}{J:Env}{N:cg}{O:ab Str}{l:Loc}
inductive qq(w:bN)(x:Sx)(Z:ab D):al->Prop|seq{b:b8}{U:dw al}{T:dF}{o:Obj}{k:Nat}:(T="list"\/T="tuple")->x.s.heap.get? b=some o->o.cls=.type T->o.data=.seq U k->U.size<=bf->fh w x.g Z U.toList->qq w x Z (.ref b)|k{b:b8}{ll:ab (D×al)}:(b==cM)=false->x.s.heap.DictOf (sK w) b ll->ll.length<=bf->Z=ll.map (·.1)->qq w x Z (.ref b)
noncomputable def Rf:ae Cell->ae (ab D)|some (.lst Z _)=>some Z|some (.eH B _)=>if eg .i B||eg .s B then some (B.map (·.1))else none|_=>none
theorem xj(a:At w A n Y x J N O l)(r:Rv w x v u)(h:jB v x.H=some Z):qq w x Z u:=by
 induction v using V.casesOn with
 |d d=>induction d using D.casesOn with|tup G=>exact lA r.eU λb U c g j _=>so h ((a.tup c).elim λo q=>ph q λs p q=>q.elim λk hd=>.seq (.inr rfl) s p hd g j)|lst G=>exact Am r.eU λb U c g j=>so h ((a.lst c).elim λo q=>ph q λs p q=>q.elim λk hd=>.seq (.inl rfl) s p hd g j)|_=>exact ec h
 |ref i=>exact s9 r λb e=>jW (P:=λo=>x.H[i]?=o->Rf o=some Z->qq w x Z (.ref b)) x.H[i]? (λ_ h=>ec h) (λG m t h=>so h (j6 (a.j4 t e) λU c g j=>c.isList.elim λo h=>ph h λs p hd=>hd.elim λk hd=>.seq (.inl rfl) s p hd g j)) (λB f t h=>if1 h λq h=>so h (ph (a.nq t e) λc g j=>d9 (j.QF q) λL I C=>.k c I (C.length▸ar g kU) (qj.keys C).symm)) (λ_ _ h=>ec h) rfl h|ins _ _=>exact ec h
theorem Km{g:Heap}:∀{b:ab (D×al)}{U:ab al},U.length=b.length->(∀(j:Nat)(v:al),U[j]?=some v->∃k c,b[j]?=some (k,c)/\v8 k v=true)->fh w g (b.map (·.1)) U:=by intro b;induction b with|nil=>exactλ{U}d _=>aW (motive:=λU=>U.length=0->fh w g [] U) U (λ_=>.nil) (λ_ _ h=>ax h (cu _)) d|cons p r ih=>exactλ{U}=>aW (motive:=λU=>U.length=r.length+1->(∀(j:Nat)(v:al),U[j]?=some v->∃k c,(p::r)[j]?=some (k,c)/\v8 k v=true)->fh w g ((p::r).map λq=>q.1) U) U (λh=>ax h.symm (cu _)) λv U d f=>ml (f 0 v rfl) λk c i m=>.cons (sY (P:=λq:D×al=>Rd w g q.1 v) (sI i) (B' m (λn t=>.int n t) λs t=>.str s t)) (ih (dJ d) λj v e=>f (j+1) v e)
theorem AA(G:A.handled=none)(r:qq w x Z u)(q:∀h' B U,(∀b o,x.s.heap.get? b=some o->h'.get? b=some o)->fh w x.g Z U->U.length<=bf->R U {x.s with heap:=h',toks:=B}):aR (aP pw w) A (collect u) R E x.s:=qq.casesOn (motive:=λu _=>aR (aP pw w) A (collect u) R E x.s) r (λ{b U _ _ _}k m d p f C=>wpAny_collect_seq b k m d p (λh' t=>q h' x.s.toks U.toList t C f) f) λk m d p=>m.dictAt.elim λH f=>kdu_collect (kdl_dict k) G f d λh' B i t c=>q h' B i.toList t (p▸Km (cB.trans c.1) λj v e=>c.2 j v (cY.symm.trans e)) (cB.symm▸c.1▸d)
theorem GV(h:fh w g (I.map .int) U):IntsAre U I:=by induction I generalizing U with|nil=>exact HZ h .nil|cons i I ih=>exact GG h λv U r b=>i4 r λt=>.cons i t (ih b)
theorem GQ(h:fh w g (G.map .str) U):StrsAre U G:=by induction G generalizing U with|nil=>exact HZ h .nil|cons i I ih=>exact GG h λv U r b=>jc r λt=>.cons i t (ih b)
theorem EI(h:IntsAre U I):fh w g (I.map .int) U:=IntsAre.rec (motive:=λU I _=>fh w g (I.map .int) U) .nil (λ_ t _ _ _ r=>.cons (.int _ t) r) h
theorem xl(h:StrsAre U G):fh w g (G.map .str) U:=StrsAre.rec (motive:=λU G _=>fh w g (G.map .str) U) .nil (λ_ t _ _ _ r=>.cons (.str _ t) r) h
theorem xC:∀{Z:ab D}{G:ab Str},strsOf Z=some G->Z=G.map .str:=by
 intro Z;induction Z with
 |nil=>intro _ h;refine so h ?_;rfl|cons x r ih=>
  intro G h;rcases x with⟨⟩<;>try(exact ec h;done)
  refine d9 (cw.mp h) λc b d=>?_;subst d;rw[ih b];rfl
theorem Cs(hh:A.handled=none)(r:qq w x Z u)(h:mK Z=some ys)(q:∀(D:b8)(s':aM)B e,(∀b o,x.s.heap.get? b=some o->s'.heap.get? b=some o)->s'.gens=x.s.gens->s'.os=x.s.os->x.s.heap.get? D=none->s'.heap.get? D=some (seqObj "list" B e)->B.size<=bf->fh w x.g ys B.toList->Q (.ref D) s'):aR (aP pw w) A (PySem.call (.builtin "sorted") [u]) Q E x.s:=by
 unfold mK at h;refine Tw h λh! h=>?_;refine Calls.call_function_entry kind_sorted plain_sorted entry_sorted (args_sorted1 _) ?_;unfold Builtin.«sorted»;refine aB (m:=checkCount "sorted" 1 1 _) (aQ ?_);refine aB (AA (A:=A.in1) hh r λi tk U L M hz=>?_);have hl:=M.length;refine aB (wpAny_newList ?_ hz);have c:(i.push (seqObj "list" U.toArray 0)).get? i.objs.size=some (seqObj "list" U.toArray 0):=Heap.get?_push_size _ rfl;have T:x.s.heap.get? i.objs.size=none:=by cases z:x.s.heap.get? i.objs.size with|none=>rfl|some o=>exact ax (Heap.lt_size (L _ _ z)) (cQ _)
 have p:∀B b o,x.s.heap.get? b=some o->(sortedHeap (i.push (seqObj "list" U.toArray 0)) i.objs.size U B).get? b=some o:=λB b o e=>by have X:=Heap.lt_size (L _ _ e);rw[sortedHeap_old (cv X) (by rw[size_push'];exact abg X)];exact Heap.get?_push_of_some _ (L _ _ e)
 have k:∀{m:Nat},m<=Z.length->m<=bf:=λh=>by rw[dr];lia
 rcases d:intsOf Z with _|I<;>rw[d]at h;rotate_left;.obtain rfl:=sI h;have f:=mW d;subst f;refine aB (aaT (aaN slot_list_sort ⟨_,c,rfl⟩ entry_list_sort (list_sort_tree c (GV M) (by lia) λB M! j t C=>⟨_,rfl,?_⟩) (args_list_sort _)));obtain⟨e,d⟩:=sortedHeap_at (out:=B) c;have hs:=Cz t C;subst hs;refine aQ ⟨_,rfl,q _ _ B e (p B) rfl rfl T d ?_ (EI j)⟩;have:=j.length;rw[(jx (l:=I)).length_eq]at this;simp at this;exact k (by simp;lia)
 .rcases d:strsOf Z with _|G<;>rw[d]at h;rotate_left;.revert q;refine so h λq=>?_;have f:=xC d;subst f;have H:=GQ M;refine aB (aaT (aaN slot_list_sort ⟨_,c,rfl⟩ entry_list_sort (list_sort_treeK strKind_oneLt c H.keysOf (λδ ZC a e=>keyKind_strs ((sZ e H))) (by lia) λR hp hs=>⟨_,rfl,?_⟩) (args_list_sort _)));refine j6 (sorted_out_str H hp hs) λP! j t C=>?_;obtain⟨e,d⟩:=sortedHeap_at (out:=(arrOf R).map (·.2)) c;have hs:=yJ t C;subst hs;refine aQ ⟨_,rfl,q _ _ _ e (p _) rfl rfl T d ?_ (xl j)⟩;have:=(xl (w:=w) (g:=x.g) j).length;rw[ak,(jx (l:=G)).length_eq]at this;exact k (by rw[ak,this];exact b4 (cB ..).symm)
  .exact ec h
theorem Fn(s:Str)(i:Int)(h:jk s=some i):s=aa (toString i)/\0<=i/\i<10^10:=by
 unfold jk at h;rcases b:s.cps.toList with _|⟨c,_|⟨e,t⟩⟩<;>rw[b]at h<;>try(exact ec h;done)
 refine if1 h λd h=>?_;obtain rfl:=sI h;obtain⟨⟨l⟩⟩:=s;dsimp only at b;subst b;refine⟨?_,(cI _),by lia⟩;exact(show∀c,c<58->48<=c->(⟨#[c]⟩:Str)=aa (toString ((c-48:Nat):Int))by decide) c d.2 d.1
theorem BO:∀n<10,aa (toString (Int.ofNat n))=(⟨#[48+n]⟩:Str)/\(Int.ofNat n).natAbs.log2<1920:=by decide
theorem DO(i:Int)(s:Str)(h:jo i=some s):aa (toString i)=s/\i.natAbs.log2<1920:=by unfold jo at h;refine if1 h λb h=>?_;obtain rfl:=sI h;obtain⟨n,rfl⟩:=Int.eq_ofNat_of_zero_le b.1;exact BO n (bg.mp b.2)
theorem ya:∀{Z:ab D}{b:ab bp},boolsOf Z=some b->Z=b.map .bool:=by
 intro Z;induction Z with
 |nil=>intro _ h;refine so h ?_;rfl|cons x r ih=>
  intro b h;rcases x with⟨⟩<;>try(exact ec h;done)
  refine d9 (cw.mp h) λc d e=>?_;subst e;rw[ih d];rfl
theorem HV{c:ab bp}(h:fh w g (c.map .bool) U)(i:Nat)(v:al)(e:U[i]?=some v):v=.bool (c.getD i false):=by refine d9 (h.get' e) λx d f=>?_;rw[bV]at d;refine j0 d λb k j=>?_;subst j;rw[List.getD_eq_getElem?_getD,k];cases f;rfl
theorem wX{U:dw al}{b:ab bp}(r:fh w g (b.map .bool) U.toList):TruthOf pw w A (λi v=>U[i]?=some v) (λi=>b.getD i false):=by intro i v s Q E c d;refine sY (HV r i v (by simpa using c)) ?_;exact acE d
theorem C9(d:ab bp):(bx d.length).any (λi=>d.getD i false)=d.any id:=by
 rw[b6,dy,dy];constructor;.
  rintro⟨i,c,h⟩;have c:i<d.length:=by simpa using c
  exact i12 (d[i]) (aai c) (by simpa[c]using h)
 .rintro⟨b,e,h⟩;obtain⟨i,c,rfl⟩:=List.getElem_of_mem e;exact i12 i (by simpa using c) (by simpa[c]using h)
theorem K9(b:f≠206)(h:iu f as H=some d):∃v,as=[v]/\tW f v H=some d:=by rcases as with _|⟨v,_|⟨u,_|_⟩⟩<;>first|exact ec h|exact⟨v,rfl,h⟩|exact ec ((aX b).symm.trans h)
theorem IB(h:anyB v=some d):∃Z b,v=.d (.lst Z)/\boolsOf Z=some b/\d=.bool (b.any id):=by
 induction v using V.casesOn with
 |d x=>induction x using D.casesOn with|lst Z=>exact j0 (show(boolsOf Z).map (λb=>D.bool (b.any id))=some d from h) λb c e=>⟨_,_,rfl,c,e.symm⟩|_=>exact ec h
 |_=>exact ec h
theorem GU(h:zx v=some d):∃i s,v=.d (.int i)/\jo i=some s/\d=.str s:=by
 induction v using V.casesOn with
 |d x=>induction x using D.casesOn with|int i=>exact j0 (show(jo i).map D.str=some d from h) λs b c=>⟨_,_,rfl,b,c.symm⟩|_=>exact ec h
 |_=>exact ec h
theorem GX(h:Qc v=some d):∃s i,v=.d (.str s)/\jk s=some i/\d=.int i:=by
 induction v using V.casesOn with
 |d x=>induction x using D.casesOn with|str s=>exact j0 (show(jk s).map D.int=some d from h) λi b c=>⟨_,_,rfl,b,c.symm⟩|_=>exact ec h
 |_=>exact ec h
theorem wZ(h:intD v=some i):v=.d (.int i):=by
 induction v using V.casesOn with
 |d x=>induction x using D.casesOn with|int j=>refine so h ?_;rfl|_=>exact ec h
 |_=>exact ec h
theorem ET(h:Il v H=some d):∃Z,d=.tup Z/\(v=.d (.lst Z)\/v=.d (.tup Z)\/∃i md,v=.ref i/\H[i]?=some (.lst Z md)):=by
 induction v using V.casesOn with
 |d x=>induction x using D.casesOn with|lst Z=>refine so h ?_;exact⟨_,rfl,.inl rfl⟩|tup Z=>refine so h ?_;exact⟨_,rfl,.inr (.inl rfl)⟩|_=>exact ec h
 |ref i=>
  have h:(match H[i]?with|some (.lst Z _)=>some (D.tup Z)|_=>none)=some d:=h;rcases b:H[i]?with _|(⟨Z,md⟩|_|_)<;>rw[b]at h<;>try(exact ec h;done)
  refine so h ?_;exact⟨_,rfl,.inr (.inr ⟨_,_,rfl,b⟩)⟩|_=>exact ec h
theorem EZ(h:J7 v H=some m):(∃Z,jB v H=some Z/\m=Z.length)\/∃s,v=.d (.str s)/\s.cps.size<=big/\m=s.cps.size:=by
 have o:(jB v H).map bq=some m->(∃Z,jB v H=some Z/\m=Z.length)\/∃s,v=.d (.str s)/\s.cps.size<=big/\m=s.cps.size:=λh=>j0 h λZ b f=>.inl ⟨_,b,f.symm⟩;induction v using V.casesOn with
 |d x=>induction x using D.casesOn with|str s=>exact if1 h λc e=>.inr ⟨_,rfl,c,(bR e).symm⟩|_=>exact o h
 |_=>exact o h
theorem IX(h:eC (Rv w x) [v] b):∃u,b=[u]/\Rv w x v u:=t7 h λu b r c=>AH c ⟨u,rfl,r⟩
section
variable{Q:al->aM->Prop}{d:D}(a:At w A n Y x J N O l)(q:∀y u,At w A n Y y J N O l->Le Y.wm fP x y->y.H=x.H->Rv w y (.d d) u->Q u y.s)
include a q
theorem vO{s':aM}{v:al}(k:∀b o,x.s.heap.get? b=some o->s'.heap.get? b=some o)(e:s'.gens=x.s.gens)(f:s'.os=x.s.os)(i:∀g,(∀b o,x.g.get? b=some o->g.get? b=some o)->Rd w g d v):Q v s':=by obtain⟨S,L⟩:=iC (wm:=Y.wm) (P:=fP) (s':=s') (as:=[]) a.rel k (e.trans a.rel.gens) f (λb c=>by exact kn c);exact q _ _ (a.step S L) L rfl (.d (i _ L.gk))
theorem HF{v:al}(t:Nat)(b:∀g,Rd w g d v):Q v {x.s with toks:=t}:=vO a q (λ_ _ e=>e) rfl rfl λg _=>b g
theorem Px{v:V}{u:al}(r:Rv w x v u)(h:(J7 v x.H).map (λ(n:Nat)=>D.int (n:Int))=some d):aR (aP pw w) A (PySem.call (ir 200) [u]) Q E x.s:=by
 refine j0 h λm L e=>?_;have f:∀n:Nat,m=n->∀t I,Q (.int n I) {x.s with toks:=t}:=λn z t I=>HF a q t λg=>e▸z▸.int _ _;refine(EZ L).elim (λh=>d9 h λZ M c=>?_) λh=>j6 h λs y R c=>?_;.exact qq.casesOn (motive:=λu _=>aR (aP pw w) A (PySem.call (ir 200) [u]) Q E x.s) (xj a r M) (λ{b U T o k}B i j p C G=>B.elim (λe=>call_len_list ⟨o,i,e▸j,k,p⟩ (j5 C) (f _ (c.trans G.sz) _ _)) λe=>aeR ⟨o,i,e▸j,k,p⟩ (j5 C) (f _ (c.trans G.sz) _ _)) λB i j p=>call_len_dict B i (j5 j) (f _ (c.trans (p▸ak ..)) _ _)
 .exact jc (show Rd w x.g (.str s) u from(y▸r:Rv w x (.d (.str s)) u).eU) λt=>P.len_str (Ep R) (f _ c _ _)
theorem Dg{v:V}{u:al}(r:Rv w x v u)(h:((jB v x.H).bind mK).map D.lst=some d):aR (aP pw w) A (PySem.call (ir 201) [u]) Q E x.s:=by refine j0 h λI c e=>?_;subst e;refine vj c λZ f g=>?_;refine Cs a.room.hh (xj a r f) g λD G B e k m p o i C t=>?_;obtain⟨S,L⟩:=iC (wm:=Y.wm) (P:=fP) (s':=G) (as:=[D]) a.rel k (m.trans a.rel.gens) p (λb j=>by rw[bt.mp j];exact o);exact q _ _ (a.step S L) L rfl (.d (.lst ⟨_,jE ((.head _)) i,rfl,e,rfl⟩ C (t.keeps L.gk)))
theorem OZ{v:V}{u:al}(r:Rv w x v u)(h:anyB v=some d):aR (aP pw w) A (PySem.call (ir 203) [u]) Q E x.s:=by
 refine iE (IB h) λZ k i p L=>?_;subst i;subst L;have I:=ya p;subst I;refine jr r.eU.lst_inv λb U i m M j=>?_;subst i;have C:k.length=U.size:=by simpa using j.length
 have f:=a.lst m;refine call_any_walk (acK f ⟨x.sz,_,_,_,_,_,_,rfl,(ahY (prog:=pw) (w:=w) (A:=A.in1) a.room.hh x.sz b (show b≠x.sz from by obtain⟨o,H,_⟩:=f;exact cv (Heap.lt_size H)) U),⟨⟨_,Heap.get?_push_size _ rfl,rfl,rfl⟩,f.push _⟩,wX j,λR t B=>?_⟩);rw[←C,C9];refine vO a q (λc o e=>B c o (λG=>?_) (Heap.get?_push_of_some _ e)) rfl rfl λg _=>.bool _;rw[bt.mp G]at e;exact ax (Heap.lt_size e) (cQ _)
theorem PM{v:V}{u:al}(r:Rv w x v u)(h:zx v=some d):aR (aP pw w) A (PySem.call (ir 204) [u]) Q E x.s:=by refine iE (GU h) λi s f b j=>?_;subst f;subst j;obtain⟨t,rfl⟩:=r.eU.int_inv;obtain⟨c,e⟩:=DO i s b;subst c;exact P.str_of_int e (HF a q _ λg=>.str _ _)
theorem Ni{v:V}{u:al}(r:Rv w x v u)(h:Qc v=some d):aR (aP pw w) A (PySem.call (ir 205) [u]) Q E x.s:=by refine iE (GX h) λs i j b k=>?_;subst j;subst k;obtain⟨t,rfl⟩:=r.eU.str_inv;refine ph (Fn s i b) λc e f=>?_;refine sY c ?_;exact KIN.call_num e f (HF a q _ λg=>.int _ _)
theorem Qm{i j:Int}{e f:Tok}(h:d=.int (max i j)):aR (aP pw w) A (PySem.call (ir 206) [.int i e,.int j f]) Q E x.s:=by
 subst h;refine max_two_ints a.room.hh λk t c=>vO a q c rfl rfl λg _=>?_;by_cases b:j>i;.rw[aS b,show max i j=j by lia];exact .int _ _
 .rw[aX b,show max i j=i by lia];exact .int _ _
theorem G0{Z:ab D}{b:b8}{U:dw al}(m:x.s.heap.IsList b U)(f:U.size<=bf)(p:fh w x.g Z U.toList)(hd:d=.tup Z):aR (aP pw w) A (PySem.call (ir 207) [.ref b]) Q E x.s:=by
 refine call_tuple_list m (λc i=>?_) f;have k:x.s.heap.get? c.objs.size=none:=by cases z:x.s.heap.get? c.objs.size with|none=>rfl|some o=>exact ax (Heap.lt_size (i _ _ z)) (cQ _)
 obtain⟨S,L⟩:=iC (wm:=Y.wm) (P:=fP) (s':={x.s with heap:=c.push {cls:=.type "tuple",data:=.seq U}}) (as:=[c.objs.size]) a.rel (λb o e=>Heap.get?_push_of_some _ (i b o e)) a.rel.gens rfl (λb r=>by rw[bt.mp r];exact k);have j:(x.grow {x.s with heap:=c.push {cls:=.type "tuple",data:=.seq U}} [c.objs.size]).g.get? c.objs.size=some {cls:=.type "tuple",data:=.seq U}:=jE ((.head _)) (Heap.get?_push_size _ rfl);subst hd;exact q _ _ (a.step S L) L rfl (.d (.tup ⟨_,j,rfl,0,rfl⟩ f (p.keeps L.gk) ⟨_,j,rfl⟩))
theorem E6{v:V}{u:al}(r:Rv w x v u)(h:Il v x.H=some d):aR (aP pw w) A (PySem.call (ir 207) [u]) Q E x.s:=by
 refine d9 (ET h) λZ hd h=>?_;rcases h with rfl|rfl|⟨i,o,rfl,m⟩;.refine jr r.eU.lst_inv λb U j c f g=>?_;subst j;exact G0 a q (a.lst c) f g hd
 .refine CZ r.eU.nr λb U j c f g k=>?_;subst j;exact call_tuple_same (a.tup c) (q x _ a .refl rfl (.d (hd▸.tup c f g k)))
 .refine d9 r.Be λb j e=>?_;subst j;refine j6 (a.j4 m e) λU c f g=>?_;exact G0 a q c.isList f g hd
end
noncomputable def pO:ab Nat:=[200,201,203,204,205,206,207]
theorem DU(a:At w A n Y x J N O l)(e:f∈pO)(r:eC (Rv w x) args g)(h:iu f args x.H=some d)(q:∀y u,At w A n Y y J N O l->Le Y.wm fP x y->y.H=x.H->Rv w y (.d d) u->Q u y.s):aR (aP pw w) A (PySem.call (ir f) g) Q E x.s:=by
 simp only[pO,ah,ai,a6]at e;have c:∀{f:Nat},f≠206->iu f args x.H=some d->(∀v u,Rv w x v u->tW f v x.H=some d->aR (aP pw w) A (PySem.call (ir f) [u]) Q E x.s)->aR (aP pw w) A (PySem.call (ir f) g) Q E x.s:=by intro f e h k;refine d9 (K9 e h) λv L h=>?_;subst L;refine d9 (IX r) λu M R=>?_;subst M;exact k v u R h
 rcases e with rfl|rfl|rfl|rfl|rfl|rfl|rfl;.exact c (by decide) h λv u r h=>Px a q r h
 .exact c (by decide) h λv u r h=>Dg a q r h
 .exact c (by decide) h λv u r h=>OZ a q r h
 .exact c (by decide) h λv u r h=>PM a q r h
 .exact c (by decide) h λv u r h=>Ni a q r h
 .rcases args with _|⟨v,_|⟨I,_|_⟩⟩<;>first|exact ec h|skip
  .refine t7 r λu g C r=>t7 r λU g G r=>AH r (vj (show(intD v).bind (λa=>(intD I).map λb=>.int (max a b))=some d from h) λi m p=>j0 p λj o B=>?_);cases wZ m;cases wZ o;exact i4 C.eU λt=>i4 G.eU λT=>Qm a q B.symm
 .exact c (by decide) h λv u r h=>E6 a q r h
end
section
variable{w:bN}{n:Nat}{x y z:Sx}{wm:Nat}{P P':b8->Prop}{A:bH}{E:al->aM->Prop}{Y:Cx}{J:Env}{N:cg}{O:ab Str}{l:Loc}
theorem vJ{f:PySem.Expr->ME}:∀{es:ab PySem.Expr},(∀e∈es,eo w n (f e) N O (λJ=>cG e J))->noStar es=true->∀{A:bH}{E:al->aM->Prop}{Y:Cx}{x:Sx}{J:Env}{l:Loc}{U:ab V}{g:Hp}{Q:ab al->aM->Prop}{j:Pos}{b:Sx},At w A n Y x J N O l->Le Y.wm fP b x->yn (es.map f) Y l x.H=some (U,g)->(∀y i,At w A n Y y J N O l->Le Y.wm fP b y->Le Y.wm fP x y->y.H=g->eC (Rv w y) U i->Q i y.s)->aR (aP pw w) A (aey (aa9 j (c6 es J))) Q E x.s:=by intro es;induction es with|nil=>intro _ _ A E Y x J l U g Q j b a L e q;revert q;refine sP e λq=>?_;exact abV (q x [] a L .refl rfl .nil)|cons d es ih=>intro h hs A E Y x J l U g Q j b a L e q;refine hd λ_ t=>?_;obtain⟨p,mM⟩:=gQ hs J;refine jU e λv X T I=>?_;refine yp I λB H3 Z e6=>?_;clear I;obtain⟨rfl,rfl⟩:=pJ e6;refine t ?_;refine abz (h d aF a T λy u M G R r=>?_) p;refine ih (λe he=>h e (aD _ he)) mM M (L.trans G) (by rw[R];exact Z) λC i m k c o r'=>?_;exact q C (u::i) m k (G.trans c) o (.cons (r.le c) r')
noncomputable def Oe:bp:=qJ.all λp=>pO.any λk=>aal k p.2
theorem Cp:Oe=true:=by kernel_rfl
theorem G5(h:(nm,k)∈qJ):k∈pO:=by have:=aA.mp Cp _ h;refine d9 (dy.mp this) λj b c=>?_;have:=bP c;dsimp only at this;rw[←this];exact b
theorem u7(h:k∈pO):Keeps (ir k) w g:=by simp only[pO,ah,ai,a6]at h;rcases h with rfl|rfl|rfl|rfl|rfl|rfl|rfl<;>first|exact ui|exact rW
theorem Lm:iu f [] H=none:=rfl
theorem KS(h:∀e∈es,eo w n (f e) N O (λJ=>cG e J))(hs:noStar es=true)(I:jb N nm=true)(H:look qJ nm=some k):eo w n (QA k (es.map f)) N O (λJ=>cG (.Call (.Name nm p') es [] p) J):=by intro A E Y x J l v T Q a e q;refine(let m:Prop:=_;(?_:m));refine jU e λU X t B=>?_;refine j0 B λd j L=>?_;clear B e;obtain⟨rfl,rfl⟩:=pJ L.symm;have i:=jw H;obtain⟨c,g⟩:=JE w.params i;refine dI (FT a I c g ?_);refine(let m:Prop:=_;(?_:m));induction es using aW with|nil=>obtain⟨rfl,rfl⟩:=CC t;rw[Lm]at j;exact ec j|cons Z es=>refine BG hs a (u7 (G5 i)) ?_;refine vJ h hs a .refl t λy us s r _ c M=>⟨λb o z=>s.rel.sub _ _ (r.gk _ _ z),?_⟩;exact DU s (G5 i) M ((sY c j)) λz u G C g R=>q z u G (r.trans C) (g.trans c) R
theorem Hy(h:(nm,c,i,b)∈ma)(g:c∈jA){P:bo}:makesIn (KK P) c=true/\aea (KK P) (.ref c)=true/\aby (KK P) (.ref c) "__init__"=some (some (.ref i))/\isFn vc (.ref i)=true:=by have d:=aA.mp (sy P) c g;rw[aI]at d;have e:=xf P;unfold Ff at e;rw[aI]at e;have f:=aA.mp e.1 i (af.mpr ⟨_,h,rfl⟩);rw[aI]at f;exact⟨d.1,d.2,(ub (aA.mp (Cw P) _ h)),f.1⟩
set_option tactic.hygienic true in theorem Bj(R:Rel w x){C i:Nat}{nm:Str}{b:bp}(hm:(nm,C,i,b)∈ma)(hc:C∈jA){us:ab al}{RR:acd->aM->Prop}(q:∀y,Rel w y->(∀wm,wm<=x.H.length->Le wm fP x y)->y.H=x.H++[.ins []]->y.φ=x.φ++[x.sz]->y.g.get? (x.sz+1)=some (dB C x.sz)->abR (aP pw w) (A.under (.builtin "type.__call__" ⟨.ref C::us,[]⟩)) (.call (.ref i) ⟨.ref (x.sz+1)::us,[]⟩) (InitBack (x.sz+1) RR) y.s):abR (aP pw w) A (.call (.ref C) ⟨us,[]⟩) RR x.s:=by
 obtain⟨m1,m2,m3,m4⟩:=Hy hm hc (P:=w.params);have X:=wM (R.top.keeps R.sub);have gk:∀(b:b8)(o':Obj),x.s.heap.get? b=some o'->((x.s.heap.push aaJ).push (dB C x.sz)).get? b=some o':=λb o' e=>Heap.get?_push_of_some _ (Heap.get?_push_of_some _ e);have e1:((x.s.heap.push aaJ).push (dB C x.sz)).get? (x.sz+1)=some (dB C x.sz):=by have:=Heap.get?_push_size (x.s.heap.push aaJ) (o:=dB C x.sz) rfl;rwa[Heap.size_push]at this
 have e0:((x.s.heap.push aaJ).push (dB C x.sz)).get? x.sz=some aaJ:=Heap.get?_push_of_some _ (Heap.get?_push_size _ rfl);have f1:x.s.heap.get? (x.sz+1)=none:=by cases z:x.s.heap.get? (x.sz+1)with|none=>rfl|some o=>exact ax (Heap.lt_size z) (by show¬x.sz+1<x.sz;lia)
 have B:(kh ((x.s.heap.push aaJ).push (dB C x.sz)) x.g [x.sz+1]).get? x.sz=none:=by cases z:(kh ((x.s.heap.push aaJ).push (dB C x.sz)) x.g [x.sz+1]).get? x.sz with|none=>rfl|some o=>cases z2:x.g.get? x.sz with|none=>have:=gH z z2;simp at this|some i!=>exact ax (Heap.lt_size (R.sub _ _ z2)) (cQ _)
 have RL:fY w (x.add {x.s with heap:=(x.s.heap.push aaJ).push (dB C x.sz)} [x.sz+1] x.sz (.ins [])) x.sz (.ins []):=⟨B,bB _,aca,[],0,e0,.nil⟩;have mk:∀wm,wm<=x.H.length->Rel w _/\Le wm fP x _:=λwm hw=>E9 (P:=fP) (s':={x.s with heap:=(x.s.heap.push aaJ).push (dB C x.sz)}) (as:=[x.sz+1]) R hw gk R.gens rfl (λb hb=>by rw[bt.mp hb];exact f1) i' RL;have fin:=q _ (mk 0 (bB _)).1 (λwm hw=>(mk wm hw).2) rfl rfl (jE (by simp) e1);exact make_core (makes_of X m1) (looks_findIn X m3) (λself=>bind_fn X self (Bx m4)) (.inl rfl) fin
theorem rR.under(r:Ef A n)(f:c.weight<=1)(e:c.cUnits=1):rR (A.under c) n:=by
 have b:=r.depth;have d:=r.units;refine⟨r.hh,?_,?_⟩;.show A.depth+c.weight+10*n+5<1000;lia
 .show A.units+c.cUnits+100*n+250<abN;lia
theorem xe(h:look ma nm=some (c,i,b)):(nm,c,i,b)∈ma/\c∈jA:=by have:=jw h;refine⟨this,?_⟩;have:=aA.mp (show(ma.all λp=>jA.any λc=>aal c p.2.1)=true from by kernel_rfl) _ this;refine d9 (dy.mp this) λj d e=>?_;have:=bP e;dsimp only at this;rw[←this];exact d
theorem uC(T:fm w g)(h:c∈jA):Keeps (.ref c) w g:=λd e=>by have b:=aA.mp (sy w.params) c h;rw[aI]at b;exact keeps_K b.2 d (wM (T.keeps e))
theorem Go(S:Rel w z)(R:Rel w y)(e:z.φ=y.φ++[a]):z.φ[y.H.length]?=some a:=by rw[e,←R.len];exact aa1
theorem FD(e:z.H=H++[c])(h:k<=H.length):k<=z.H.length:=ar h (e▸ao▸aG _ _)
theorem yl(h:QY v=some u)(r:Rv w x v a):a=.none:=LX (P:=λv=>Rv w x v a->a=.none) h (λr=>r.eU.AI) r
theorem IS(h:∀e∈es,eo w n (f e) N O (λJ=>cG e J))(hs:noStar es=true)(hg:jb N nm=true)(Z:look ma nm=some (c,i,false)):eo w n (eNew c i (es.map f)) N O (λJ=>cG (.Call (.Name nm p') es [] p) J):=by intro A E Y x J l v H' Q a e q;refine(let m:Prop:=_;(?_:m));refine jU e λU X k1 k2=>jU k2 λv0 H2 k3 k4=>j0 k4 λun k5 s=>lJ (xe Z) λG g=>?_;refine dI (ru a hg (Gu w.params G) ?_);refine ly h hs a .refl (uC a.rel.top g) k1 λy us d M _ k r1=>?_;refine abZ (Bj d.rel G g λz S L t o B=>?_);refine(let m:Prop:=_;(?_:m));have I:z.φ[y.H.length]?=some y.sz:=Go S d.rel o;have j:=L Y.wm d.wm;exact d.call (rR.under d.room (aV 1) rfl) S (FD t d.wm) (sY (t.trans (k▸rfl)) k3) (.cons (k▸.ins g B I) (r1.rK λv _ u r=>r.le j)) λC u R b T r4=>⟨yl k5 r4,q C _ (d.step R (j.trans b)) (M.trans (j.trans b)) (T.trans (pJ s).2) ((pJ s).1▸k▸.ins g (b.gk _ _ B) (b.UA _ _ I))⟩
set_option tactic.hygienic true in theorem tL{g:Heap}{fs:ab (Nat×V)}{es:ab cN}{B:ab D}(hh:eC (xb w x) fs es)(h:lN fs=some B)(k:∀b o,x.g.get? b=some o->g.get? b=some o):∃nms,acx es nms/\nms.length=(fs.map (·.1)).length/\(∀p∈nms.zip (fs.map (·.1)),p∈g6)/\fh w g B (es.map (·.val)):=by
 revert B;suffices q:∀B,lN fs=some B->∃nms,acx es nms/\nms.length=(fs.map (·.1)).length/\(∀p∈nms.zip (fs.map (·.1)),p∈g6)/\fh w g B (es.map (·.val))from@q;refine hh.ind (λB h=>so h (VH [] .nil rfl bn .nil)) λ{p q fs es}e _ ih B h=>?_;refine iE e λnm t e1 e2 e3=>?_;rcases p with⟨at_,_|_|_⟩<;>try(exact ec h;done)
 rename_i d;refine j0 (show(lN fs).map (d::·)=some B from h) λIW h1 z=>Bz (ih IW h1) λnms g1 g2 g3 g4=>?_;refine VH (nm::nms) (.cons e1 g1) (ag (· +1) g2) (λq hq=>(ah.mp hq).elim (λe=>e▸e2) (g3 q)) (z▸.cons (e3.eU.keeps k) g4)
noncomputable def Ws(cl i:Nat)(H:Hp):ae Cell->ae (V×Hp)|some (.ins fs)=>if fs.map (·.1)=iK cl then(lN fs).map λB=>(.d (.obj cl B),H.take i)else none|_=>none
theorem zW{G:V×Hp->Prop}(h:jf cl i H=some r)(k:∀fs B,H[i]?=some (.ins fs)->fs.map (·.1)=iK cl->lN fs=some B->G (.d (.obj cl B),H.take i)):G r:=jW (P:=λo=>H[i]?=o->Ws cl i H o=some r->G r) H[i]? (λ_ h=>ec h) (λ_ _ _ h=>ec h) (λ_ _ _ h=>ec h) (λfs c h=>if1 h λb h=>j0 h λB e z=>z▸k fs B c b e) rfl h
theorem LO(R:Rel w y)(S:Rel w z)(n:y.s.heap.get? a=none)(g:z.g.get? a=none)(hz:z.φ[y.H.length]?=some a):Off y (z.cut y.H.length) a:=by refine⟨n,g,λe=>iE e λj d f i b=>?_⟩;have b:(z.φ.take y.H.length)[j]?=some a:=b;have c:j<y.H.length:=bZ (aE.mp b).1 (List.length_take_le _ _);rw[abb,aS c]at b;exact ax (S.inj _ _ _ b hz) (cv c)
theorem Ju(h:∀e∈es,eo w n (f e) N O (λJ=>cG e J))(hs:noStar es=true)(hg:jb N nm=true)(hf:look ma nm=some (c,i,b)):eo w n (NC c i (es.map f)) N O (λJ=>cG (.Call (.Name nm p') es [] p) J):=by intro A E Y x J l v H' Q a e q;refine(let t:Prop:=_;(?_:t));refine jU e λU X k1 k2=>jU k2 λv0 H2 k3 k4=>vj k4 λun k5 k6=>lJ (xe hf) λhm I=>?_;refine dI (ru a hg (Gu w.params hm) ?_);refine ly h hs a .refl (uC a.rel.top I) k1 λy us g L1 _ T r1=>?_;refine abZ (Bj g.rel hm I λz S L g2 ZJ g3=>?_);refine(let t:Prop:=_;(?_:t));have hz:z.φ[y.H.length]?=some y.sz:=Go S g.rel ZJ;have L':=L y.H.length (aV _);have Yx:Y.call y.H.length i (.ins c y.H.length::U) (y.H++[.ins []])=some (v0,H2):=T▸k3;refine g.call (wm:=y.H.length) (rR.under g.room (aV 1) rfl) S (FD g2 (aV _)) (sY g2 Yx) (.cons (.ins I g3 hz) (r1.rK λv _ u r=>r.le L')) λC u M j g4 r4=>?_;refine⟨yl k5 r4,?_⟩;refine(let t:Prop:=_;(?_:t));have o:C.φ[y.H.length]?=some y.sz:=j.UA _ _ hz;revert q;refine zW (G:=λr=>(∀z u,At w A n Y z J N O l->Le Y.wm fP x z->z.H=r.2->Rv w z r.1 u->Q u z.s)->Q (.ref (y.sz+1)) C.s) k6 λfs B Z k hp q=>?_;refine CE (M.cell _ _ _ (show C.H[y.H.length]?=some (.ins fs)from sY g4 (sY (ag bq T) Z)) o) λc1 c2 c3 R=>ml R λes' m R c5=>?_;refine ph (DT (wm:=Y.wm) g.rel M (L'.trans j) g.wm) λS5 L5 _=>?_;refine Sz (Gv L5 S5 (LO g.rel M i' c1 o)) λz2 e1 e2 S6 L6 o1 o2=>?_;exact Bz (tL c5 hp o1) λnms f1 f2 f3 f4=>sZ (P:=λs=>Q (.ref (y.sz+1)) s) e1 (q z2 (.ref (y.sz+1)) (g.step S6 L6) (L1.trans L6) (e2.trans (show C.H.take y.H.length=H2.take X.length from g4▸T▸rfl)) (.d (.obj (o1 _ _ (j.gk _ _ g3)) (o2 _ R) f1 (f2.trans (ag bq k)) (sZ k f3) I f4)))
end
section
variable{w:bN}{n:Nat}{x y z y0:Sx}{wm:Nat}{P P':b8->Prop}{A:bH}{E:al->aM->Prop}{Y:Cx}{J:Env}{N:cg}{O:ab Str}{l:Loc}
structure IT(w:bN)(wm:Nat)(P:b8->Prop)(x y0 y:Sx)(I:b8)(fp:ab b8)(St:Nat->Heap->Prop)(i:Nat):Prop where
 le:Le wm P x y
 gk:∀b o,y0.g.get? b=some o->y.g.get? b=some o
 st:St i y.s.heap
 off:Off x y I
variable{I:b8}{fp:ab b8}{St:Nat->Heap->Prop}{Pi:Nat->al->Prop}{B:ab D}{i:Nat}
theorem IT.start(L:Le wm P x y0)(T:tw w A x y0 I B fp Pi St):IT w wm P x y0 y0 I fp St 0:=⟨L,λ_ _ e=>e,T.st,T.off⟩
theorem IT.frame(h:IT w wm P x y0 y I fp St i)(T:tw w A x y0 I B fp Pi St)(R:Rel w y)(j:∀o,y.s.heap.get? I=some o->h'.get? I=some o)(k:∀b o,y.g.get? b=some o->h'.get? b=some o):St i h':=by
 refine T.walk.frame _ _ _ h.st λb hb o e=>?_;rcases T.Zc b hb with rfl|⟨f,c⟩;.exact j o e
 .have d:=h.gk b f c;rw[(R.sub b f d)]at e;refine so e ?_;exact k b _ d
theorem IT.step(h:IT w wm P x y0 y I fp St i)(T:tw w A x y0 I B fp Pi St)(R:Rel w y)(L:Le wm P y z)(S:Rel w z)(c:¬P I):IT w wm P x y0 z I fp St i:=by refine nF (T.live i _ h.st) λo ho=>?_;exact⟨h.le.trans L,λb o e=>L.gk b o (h.gk b o e),h.frame T R (λo e=>L.keep I o e h.off.2.2 c) (λb o e=>S.sub b o (L.gk b o e)),h.off.le ho L⟩
set_option tactic.hygienic true in theorem IT.put(h:IT w wm P x y0 y I fp St i)(T:tw w A x y0 I B fp Pi St)(R:Rel w y){Z:b8->Prop}{s':aM}(hz:∀b,Z b->Off x y b)(k:∀b o,¬Z b->y.s.heap.get? b=some o->s'.heap.get? b=some o)(hg:s'.gens=#[])(ho:s'.os=y.s.os){j:Nat}(hs:St j s'.heap):Rel w ⟨y.g,y.φ,y.H,s'⟩/\IT w wm P x y0 ⟨y.g,y.φ,y.H,s'⟩ I fp St j:=by obtain⟨S,L⟩:=h.le.off R hz k hg ho;exact⟨S,L,h.gk,hs,h.off⟩
theorem xA{b:ab PySem.Expr}:(forIn b false λc r=>if r=true then do let d←aax c J (cG c J);pure (bG d)else pure (bG r):Sem bp)=pure false:=by induction b with|nil=>rfl|cons c e ih=>rw[aaq];show(pure (bG false)>>=_)=_;exact ih
theorem IE{f:PySem.Expr->MT}:∀{d:ab PySem.Expr},(∀e∈d,mr w n (f e) N O (λJ=>aax e J (cG e J)))->∀{A:bH}{E:al->aM->Prop}{Y:Cx}{x:Sx}{J:Env}{l:Loc}{b:bp}{g:Hp}{Q:bp->aM->Prop},At w A n Y x J N O l->gM (d.map f) Y l x.H=some (b,g)->(∀y,At w A n Y y J N O l->Le Y.wm fP x y->y.H=g->Q b y.s)->aR (aP pw w) A (forIn d true λc r=>if r=true then do let R←aax c J (cG c J);pure (bG R)else pure (bG r)) Q E x.s:=by intro d;induction d with|nil=>intro _ A E Y x J l b g Q a e q;revert q;refine sP e λq=>?_;exact aQ (q x a .refl rfl)|cons c G ih=>intro h A E Y x J l b g Q a e q;refine jU e λm X p e=>?_;rw[aaq];refine aB (aB (h c aF a p λy k j o=>aQ ?_));show aR _ _ (forIn G m _) Q E y.s;clear p;induction m using a5 with|true=>exact ih (λe M=>h e (aD _ M)) k (by rw[o];exact e) λz C t L=>q z C (j.trans t) L|false=>obtain⟨rfl,rfl⟩:=CC e;rw[xA];exact aQ (q y k j o)
structure CP where
 w:bN
 A:bH
 elt:PySem.Expr
 target:PySem.Expr
 ifs:ab PySem.Expr
 it:al
 acc:al
 env:Env
 R:acd->aM->Prop
 I:Nat->aM->Prop
noncomputable def CP.ex(c:CP):al->aM->Prop:=notedBy (aP pw c.w) c.A c.env λe s'=>c.R (.error e) s'
noncomputable def CP.I'(c:CP)(n:Nat)(s:aM):Prop:=∃m,m<n/\c.I m s
noncomputable def CP.wp(c:CP){b:Type}(m:Sem b)(Q:b->aM->Prop)(s:aM):Prop:=aR (aP pw c.w) c.A m Q c.ex s
noncomputable def CP.T5(c:CP)(n:Nat)(x:al)(s:aM):Prop:=c.wp (call (.builtin "list.append") [c.acc,x]) (λ_=>c.I' n) s
noncomputable def CP.T4(c:CP)(n:Nat)(ok:bp)(s:aM):Prop:=if ok=true then c.wp (cG c.elt c.env) (c.T5 n) s else c.I' n s
noncomputable def CP.T3(c:CP)(n:Nat)(_:ag9)(s:aM):Prop:=c.wp (forIn c.ifs true λe r=>if r=true then do let ok←aax e c.env (cG e c.env);pure (bG ok)else pure (bG r)) (c.T4 n) s
noncomputable def CP.T2(c:CP)(n:Nat)(v:al)(_:ag9)(s:aM):Prop:=c.wp (aft c.target c.env v) (c.T3 n) s
noncomputable def CP.T1(c:CP)(n:Nat)(r:ae al)(s:aM):Prop:=match r with|none=>c.R (.ok .next) s|some v=>c.wp (abJ c.target c.it v) (c.T2 n v) s
theorem CP.Zd{c:CP}(h:c.I' n s):c.T4 n false s:=Eq.mpr (aX cL) h
theorem CP.Zb{c:CP}(h:c.wp (cG c.elt c.env) (c.T5 n) s):c.T4 n true s:=Eq.mpr (aS rfl) h
theorem m9(c:CP)(turn:∀n s,c.I n s->c.wp (pyNext c.it) (c.T1 n) s)(n:Nat)(h:c.I n s):abR (aP pw c.w) c.A (.compLoop (.ListComp c.elt [⟨c.target,t,c.ifs,0⟩] L j) 0 c.it c.acc c.env) c.R s:=by refine codeAny_loop rfl c.I (λn s H=>?_) n h;show aR _ c.A ((compTurn (.ListComp c.elt [⟨c.target,t,c.ifs,0⟩] L j) 0 c.it c.acc c.env).onRaise (λx=>do noteFrame x c.env;theTreesLotGoes x)) _ _ s;refine wpAny_noted ?_;rw[compTurn_list];refine aB (aav (aB (cz (turn n s H) (λr o b=>?_) λ_ _ d=>d)));induction r using b5 with|none=>exact aQ b|some v=>refine aB (cz b (λ_ m b=>?_) λ_ _ d=>d);refine aB (cz b (λ_ p f=>aB (cz f (λM q e=>?_) λ_ _ d=>d)) λ_ _ d=>d);induction M using a5 with|false=>exact aQ ⟨rfl,e⟩|true=>exact aB (aB (cz e (λx C g=>aB (cz g (λ_ G k=>aQ (aQ ⟨rfl,k⟩)) λ_ _ d=>d)) λ_ _ d=>d))
structure CL(w:bN)(y:Sx)(x:Sx)(I Da C:b8)(zs:ab D)(i:Nat)(U:dw al):Prop where
 acc:y.s.heap.PlainList Da U
 sz:U.size<=i
 IV:fh w y.g zs U.toList
 oD:Off x y Da
 oC:Off x y C
 lC:∃o,y.s.heap.get? C=some o
theorem CL.step(c:CL w y x I Da C d i U)(L:Le wm P y z)(b:¬P Da):CL w z x I Da C d i U:=by refine nF (c.acc) λk hk=>?_;obtain⟨o,ho⟩:=c.lC;exact⟨⟨k,L.keep _ _ hk c.oD.2.2 b⟩,c.sz,c.IV.keeps L.gk,c.oD.le hk L,c.oC.le ho L,L.live _ _ ho⟩
theorem CL.put(c:CL w y x I Da C m i U){Z:b8->Prop}(f:¬Z Da)(d:¬Z C)(k:∀b o,¬Z b->y.s.heap.get? b=some o->s'.heap.get? b=some o):CL w ⟨y.g,y.φ,y.H,s'⟩ x I Da C m i U:=by refine nF (c.acc) λe j=>?_;obtain⟨o,ho⟩:=c.lC;exact⟨⟨e,k _ _ f j⟩,c.sz,c.IV,c.oD,c.oC,⟨o,k _ _ d ho⟩⟩
theorem AU(h:B[i]?=some d):B.drop i=d::B.drop (i+1):=nF (aE.mp h) λb e=>e▸List.drop_eq_getElem_cons b
theorem IT.Xi(h:IT w wm P x y0 y I fp St i)(T:tw w A x y0 I B fp Pi St)(a:At w A n Y y J N O l)(p:¬jL J I)(hs:St j h')(k:∀b o,b∉[I]->y.s.heap.get? b=some o->h'.get? b=some o){G:aM->Prop}(κ:∀s',At w A n Y ⟨y.g,y.φ,y.H,s'⟩ J N O l->IT w wm P x y0 ⟨y.g,y.φ,y.H,s'⟩ I fp St j->(∀b o,¬b=I->y.s.heap.get? b=some o->s'.heap.get? b=some o)->G s'):G {y.s with heap:=h',toks:=tk}:=have c:∀b o,¬b=I->y.s.heap.get? b=some o->h'.get? b=some o:=λb o hb e=>k b o (λm=>hb (kB m)) e;lJ (h.put T a.rel (Z:=λb=>b=I) (s':={y.s with heap:=h',toks:=tk}) (λb e=>e▸h.off) c a.rel.gens rfl hs) λf d=>κ _ ⟨a.room,a.call,a.wm,f,a.env.off (Z:=λb=>b=I) (λb e=>e▸p) c⟩ d c
theorem IT.stop(h:IT w wm P x y0 y I fp St i)(a:At w A n Y y J N O l)(j:¬jL J I)(k:∀b o,b∉[I]->y.s.heap.get? b=some o->h'.get? b=some o){G:aM->Prop}(κ:∀s',At w A n Y ⟨y.g,y.φ,y.H,s'⟩ J N O l->Le wm P x ⟨y.g,y.φ,y.H,s'⟩->(∀b o,¬b=I->y.s.heap.get? b=some o->s'.heap.get? b=some o)->G s'):G {y.s with heap:=h',toks:=tk}:=have c:∀b o,¬b=I->y.s.heap.get? b=some o->h'.get? b=some o:=λb o hb e=>k b o (λm=>hb (kB m)) e;lJ (h.le.off a.rel (Z:=λb=>b=I) (s':={y.s with heap:=h',toks:=tk}) (λb e=>e▸h.off) c a.rel.gens rfl) λf d=>κ _ ⟨a.room,a.call,a.wm,f,a.env.off (Z:=λb=>b=I) (λb e=>e▸j) c⟩ d c
inductive WD(w:bN)(A:bH)(n:Nat)(Y:Cx)(x y0:Sx)(I:b8)(fp:ab b8)(St:Nat->Heap->Prop)(Da:b8)(f:Env)(G:cg)(m:ab Str)(B all:ab D)(Hf:Hp)(g:ab D->Loc->Hp->ae (ab D×Hp)):Nat->aM->Prop|mk(y:Sx)(l2:Loc)(i:Nat)(U:dw al)(zs UO:ab D)(hi:i<=B.length)(a:At w A n Y y f G m l2)(I1:IT w Y.wm fP x y0 y I fp St i)(C:CL w y x I Da f.locals zs i U)(c:g (B.drop i) l2 y.H=some (UO,Hf))(e:all=zs++UO):WD w A n Y x y0 I fp St Da f G m B all Hf g (B.length-i) y.s
section
variable{elt M t:PySem.Expr}{ifs:ab PySem.Expr}{L:cg}{j:Pos}{f:Env}{me:ME}{tg:Tg}{ft:PySem.Expr->MT}{G:cg}{m:ab Str}(he:eo w n me G m (λJ=>cG elt J))(MA:∀e∈ifs,mr w n (ft e) G m (λJ=>aax e J (cG e J)))(IG:pZ m M=some tg)(NO:∀nm∈ej M,GA G nm)(T:tw w A x y0 I B fp Pi St){Da:b8}(RU:I≠Da)(QU:I≠f.locals)(TA:Da≠f.locals)(hE:∀b,x.s.heap.get? b=none->b≠f.locals->¬jL f b)(WO:B.length<=bf){all:ab D}{Hf:Hp}{R:acd->aM->Prop}
include he MA IG NO T RU QU TA hE WO
theorem Cn{l2:Loc}{U:dw al}{a C:ab D}{d:D}{v:al}(p:i<B.length)(a2:At w A n Y y f G m l2)(I2:IT w Y.wm fP x y0 y I fp St (i+1))(C2:CL w y x I Da f.locals a i U)(hr:Rd w y.g d v)(c:fa me tg (gM (ifs.map ft)) Y (d::B.drop (i+1)) l2 y.H=some (C,Hf))(e:all=a++C):aR (aP pw w) A (aft M f v) (CP.T3 ⟨w,A,elt,M,ifs,.ref I,.ref Da,f,R,WD w A n Y x y0 I fp St Da f G m B all Hf (fa me tg (gM (ifs.map ft)) Y)⟩ (B.length-i)) E y.s:=by refine vj (show ck (hK tg d l2) _=some (C,Hf)from c) λl3 k2 c=>jU c λb H3 k3 c=>?_;refine HB (wm:=Y.wm) zz a2.room.hh a2.rel a2.env IG NO hr k2 λy3 R3 L3 g3 X3=>?_;have I3:IT w Y.wm (λb=>b=f.locals) x y0 y3 I fp St (i+1):=(IT.mk (I2.le.weak λ_ z=>z.elim) I2.gk I2.st I2.off:IT w Y.wm (λb=>b=f.locals) x y0 y I fp St (i+1)).step T a2.rel L3 R3 QU;have C3:=C2.step L3 TA;refine IE MA (⟨a2.room,a2.call,sY g3 a2.wm,R3,X3⟩) (sY g3 k3) λy4 a4 L4 g4=>?_;have I4:=(show IT w Y.wm fP x y0 y3 I fp St (i+1)from⟨I3.le.D5 (λb e=>e▸C3.oC.1),I3.gk,I3.st,I3.off⟩).step T R3 L4 a4.rel (λq=>q);have h:=C3.step L4 (λq=>q);have dn:B.length-(i+1)<B.length-i:=acf p (cW i);clear C3 I3 I2 C2 hr k2 k3;induction b using a5 with|false=>exact CP.Zd (i12 _ dn (.mk y4 l3 (i+1) U a C p a4 I4 ⟨h.acc,aaF h.sz,h.IV,h.oD,h.oC,h.lC⟩ (sY g4 c) e))|true=>refine CP.Zb (jU c λr H5 k4 c=>yp c λq' H6 k5 c=>eo.dat he a4 .refl (sY g4 k4) λX u Q L5 _ g5 r5=>?_);have I5:=I4.step T a4.rel L5 Q.rel (λq=>q);have k:=h.step L5 (λq=>q);refine abq k.acc (λh5 hp hs=>?_) (ar k.sz (ar (aaI p) WO));have k6:∀b o,¬b=Da->X.s.heap.get? b=some o->h5.get? b=some o:=λb o hb e=>hs.extBut b o hb e;refine lJ (I5.put T Q.rel (Z:=λb=>b=Da) (s':={X.s with heap:=h5}) (λb e=>e▸k.oD) k6 Q.rel.gens rfl (I5.frame T Q.rel (λo e=>k6 _ _ RU e) λb o e=>k6 b o (λz=>ec (k.oD.2.1.symm.trans (z▸e))) (Q.rel.sub b o e))) λR6 I6=>?_;exact i12 _ dn (.mk ⟨X.g,X.φ,X.H,{X.s with heap:=h5}⟩ l3 (i+1) (U.push u) (a++[r]) q' p ⟨Q.room,Q.call,Q.wm,R6,Q.env.off (Z:=λb=>b=Da) (λb e=>sY e (hE _ k.oD.1 TA)) k6⟩ I6 ⟨hp,adn u▸abC k.sz,sY (P:=λl=>fh w X.g (a++[r]) l) acO (k.IV.snoc r5),k.oD,k.oC,k.lC.imp λo=>k6 _ o (abu TA)⟩ (show fa me tg (gM (ifs.map ft)) Y (B.drop (i+1)) l3 X.H=some (q',Hf)from sY g5 (k5.trans (ag (λH=>some (q',H)) (pJ c).2))) (e.trans ((pJ c).1▸ac3 a r q')))
theorem CF(fin:∀y c U,Rel w y->Le Y.wm fP x y->fU w y f G m c->y.H=Hf->CL w y x I Da f.locals all B.length U->R (.ok .next) y.s){y:Sx}{c:Loc}(a:At w A n Y y f G m c)(hI:IT w Y.wm fP x y0 y I fp St 0)(hC:CL w y x I Da f.locals [] 0 #[])(hc:fa me tg (gM (ifs.map ft)) Y B c y.H=some (all,Hf)):abR (aP pw w) A (.compLoop (.ListComp elt [⟨M,t,ifs,0⟩] L j) 0 (.ref I) (.ref Da) f) R y.s:=by
 refine m9 ⟨w,A,elt,M,ifs,.ref I,.ref Da,f,R,WD w A n Y x y0 I fp St Da f G m B all Hf (fa me tg (gM (ifs.map ft)) Y)⟩ (λk s F=>?_) B.length (.mk y c 0 #[] [] all (bB _) a hI hC hc rfl);clear hC hc hI a;have nI:¬jL f I:=hE _ T.off.1 QU;induction F with
 |mk y c i U zs UO hi a1 q C1 c1 e1=>
  refine(dp i B.length).elim (λp=>T.walk.item i _ _ _ p q.st λv h' tk hv X Q=>?_) λo=>T.walk.done _ _ _ (aat hi o▸q.st) λh' tk Q=>?_;.exact q.Xi T a1 nI X Q λs' r C h=>T.go _ _ _ _ _ _ C.st (d9 (T.item i v p hv) λd hd hr=>Cn he MA IG NO T RU QU TA hE WO p r C (C1.put (Z:=λb=>b=I) (abu RU) (abu QU) h) (hr.keeps C.gk) (AU hd▸c1) e1)
  .have h2:=CC (show some (([]:ab D),y.H)=some (UO,Hf)from(ag (fa me tg (gM (ifs.map ft)) Y · c y.H) (abG o)).symm.trans c1);exact q.stop a1 nI Q λs' r L2 h=>fin ⟨y.g,y.φ,y.H,s'⟩ c U r.rel L2 r.env h2.2 ((e1.trans (h2.1▸aL zs))▸aat hi o▸C1.put (Z:=λb=>b=I) (abu RU) (abu QU) h)
end
end
section
variable{w:bN}{n:Nat}{x y z y0:Sx}{wm:Nat}{P P':b8->Prop}{A:bH}{E:al->aM->Prop}{Y:Cx}{J:Env}{N:cg}{O:ab Str}{l:Loc}
theorem x4{J:Env}:∀(b:ab (Str×ada))(cs:ab (Str×b8)),(∀nm,(nm,cn)∈b->∃c,J.cells.lookup nm=some c)->(∀p∈cs,J.cells.lookup p.1=some p.2)->∃cl,(forIn b cs λx r=>match x with|(f,j)=>if(j==cn)=true then do let c←cellOf J f;pure (bG ((f,c)::r))else pure (bG r):Sem (ab (Str×b8)))=pure cl/\(∀p∈cl,J.cells.lookup p.1=some p.2)/\(∀p∈cs,p∈cl)/\∀nm,(nm,cn)∈b->∃c,(nm,c)∈cl:=by
 intro b;induction b with
 |nil=>intro cs _ o;exact⟨cs,rfl,o,λ_ h=>h,λ_ h=>by exact kn h⟩|cons C r ih=>
  rcases C with⟨nm,k⟩;intro cs h o;simp only[aaq];refine(let H:Prop:=_;(?_:H));by_cases G:k=.free;.
   subst G;obtain⟨c,e⟩:=h nm aF;refine Bz (ih ((nm,c)::cs) (λg d=>h g (aD _ d)) (λp i=>by
    rcases ah.mp i with rfl|i;.exact e
    .exact o p i)) λcl s t m B=>?_;refine i12 cl ?_ ⟨t,λp i=>m p (aD _ i),λg d=>?_⟩;.
    have:cellOf J nm=pure c:=by unfold cellOf;rw[e]
    simp only[dz,adp,this,pure_bind];exact s
   .rcases ah.mp d with q|d;.cases q;exact⟨c,m _ aF⟩
    .exact B g d
  .refine Bz (ih cs (λg d=>h g (aD _ d)) o) λcl s t m B=>?_;refine i12 cl ?_ ⟨t,m,λg d=>?_⟩;.simp only[(show(k==cn)=false from by simpa using G),aba,aep,pure_bind];exact s
   .clear h;rcases ah.mp d with q|d;.cases q;exact ax rfl G
    .exact B g d
theorem yw(h:∀nm,(nm,cn)∈G.names->∃c,J.cells.lookup nm=some c):∃cl,closureFor G J=pure cl/\(∀p∈cl,J.cells.lookup p.1=some p.2)/\∀nm,(nm,cn)∈G.names->∃c,(nm,c)∈cl:=by refine(let i:Prop:=_;(?_:i));refine Bz (x4 G.names [] h (λp g=>by exact kn g)) λcl d e _ f=>?_;refine i12 cl ?_ ⟨e,f⟩;exact(ag (· >>=λb=>pure b) d).trans (rfl)
theorem qg{cl:ab (Str×b8)}(h:∀p∈cl,J.cells.lookup p.1=some p.2):∀{nm:Str}{c:b8},cl.lookup nm=some c->J.cells.lookup nm=some c:=λe=>h _ (mem_of_lookup e)
theorem jt:∀{cl:ab (Str×b8)}{nm:Str}{c:b8},(nm,c)∈cl->∃b,cl.lookup nm=some b
 |(k,v)::r,nm,c,h=>by
  refine sY bu ?_;cases d:nm==k with
  |true=>exact⟨v,rfl⟩|false=>
   rcases ah.mp h with q|h;.obtain⟨rfl,rfl⟩:=pJ q;simp at d
   .exact jt h
theorem FH(hs:J.scope=N)(c:N.kind=.function):aez G J=iW N G:=by unfold aez iW;congr 1;refine bF λp _=>?_;obtain⟨b,k⟩:=p;dsimp only;refine sY (show J.kindOf b=N.names.lookup b from by unfold abi;rw[hs]) ?_;refine sY (show(J.scope.kind==.function)=true from by rw[hs,c];rfl) ?_;rw[gu,aen];generalize aaD b N.names=o;induction o using b5 with|none=>rfl|some k=>rcases k with⟨⟩<;>rfl
structure Gl(sc G:cg)(O ts:ab Str):Prop where
 k':G.kind=.function
 k:sc.kind=.function
 EO:∀p∈G.names,p.2≠.cell
 loc:∀nm,(nm,NameKind.local)∈G.names->G.names.lookup nm=some .local/\(nm∈ts\/ey O nm=none)
 free:∀nm,(nm,cn)∈G.names->(sc.names.lookup nm=some .cell\/sc.names.lookup nm=some .free)/\∃i,ey O nm=some i
 Xo:∀t∈ts,G.names.lookup t=some .local
theorem BZ(h:oa N G O ts=true):Gl N G O ts:=by
 unfold oa at h;rw[aI,aI,aI]at h;obtain⟨⟨⟨j,k⟩,g⟩,q⟩:=h;refine⟨?_,?_,?_,?_,?_,?_⟩;.
  split at j;.assumption
  .exact fE j
 .split at k;.assumption
  .exact fE k
 .intro p d e;have:=aA.mp g p d;rw[e]at this;exact fE this
 .intro s d;have:=aA.mp g _ d;dsimp only at this;rw[aI,de,gu]at this;obtain⟨f,b⟩:=this;refine⟨?_,?_⟩;.
   split at f;.assumption
   .exact fE f
  .rcases b with b|b;.refine d9 (dy.mp b) λt o i=>?_;rw[PySem.W.Fast.sEq_iff]at i;exact .inl (i▸o)
   .exact .inr (by simpa using b)
 .intro s d;have:=aA.mp g _ d;dsimp only at this;rw[aI,aI,gu]at this;obtain⟨⟨f,b⟩,m⟩:=this;obtain⟨_,c⟩:=m5 f;refine⟨?_,dj.mp m⟩;rcases c with c|c;.rw[c]at b;exact fE b
  .exact c
 .intro t r;have:=aA.mp q t r;rw[gu]at this;split at this;.assumption
  .exact fE this
theorem BJ(N G:cg):∃g:Str->bp,(iW N G).names=G.names.map λp=>if p.2==cn&&g p.1then(p.1,acA)else p:=⟨λb=>match nO N b with|some .cell=>true|_=>false,rfl⟩
theorem kQ:(iW N G).names.lookup nm=some .local↔G.names.lookup nm=some .local:=by
 refine nF (BJ N G) λg d=>?_;refine sY d ?_;generalize G.names=l;induction l with
 |nil=>simp|cons p r ih=>
  obtain⟨k,v⟩:=p;refine sY aH ?_;by_cases b:(v==cn&&g k)=true;.rw[aS b,bu,bu];rw[aI]at b;cases c:nm==k with|true=>simp[(show v=.free from by simpa using b.1)]|false=>exact ih
  .rw[aX b,bu,bu];cases c:nm==k with|true=>rfl|false=>exact ih
theorem yZ(c:∀p∈G.names,p.2≠.cell)(h:(iW N G).names.lookup nm=some .cell\/(iW N G).names.lookup nm=some .free):(nm,cn)∈G.names:=by
 obtain⟨g,f⟩:=BJ N G;rw[f]at h;clear f;generalize G.names=l at h c;induction l with
 |nil=>simp at h|cons p r ih=>
  obtain⟨k,v⟩:=p;rw[aH]at h;by_cases d:(v==cn&&g k)=true;.
   rw[aS d,bu]at h;rw[aI]at d;have i:v=.free:=by simpa using d.1
   cases i;cases b:nm==k with|true=>rw[bO.mp b];exact aF|false=>rw[b]at h;exact aD _ (ih h λp e=>c p (aD _ e))
  .rw[aX d,bu]at h;cases b:nm==k with
   |true=>
    simp only[b]at h;rw[(bO.mp b)];have:=c _ aF;rcases h with h|h;.obtain rfl:=sI h;exact ax rfl this
    .refine so h ?_;exact aF|false=>rw[b]at h;exact aD _ (ih h λp e=>c p (aD _ e))
theorem mZ{O ts:ab Str}{nm:Str}:ey (O++ts) nm=match fw ts O.length nm with|some i=>some i|none=>ey O nm:=by unfold ey;rw[ra,bQ];try(cases fw ts O.length nm<;>rfl)
theorem nN:∀{ts:ab Str}{n:Nat}{nm:Str},nm∉ts->fw ts n nm=none:=by intro ts;induction ts with|nil=>intro _ _ _;exact rfl|cons y r ih=>intro n nm h;unfold fw;rw[ih λq=>h (aD _ q)];dsimp only;rw[aX];intro q;rw[PySem.W.Fast.sEq_iff]at q;exact h (q▸aF)
theorem EA(X:fU w x J N O l)(K:Gl N G O ts)(e:∀p∈cl,J.cells.lookup p.1=some p.2)(m:∀nm,(nm,cn)∈G.names->∃c,(nm,c)∈cl)(U:f.scope=aez G J)(Z:f.globals=J.globals)(h:f.builtins=J.builtins)(C:f.cells=cl)(I:x.s.heap.Ns f.locals (λ_=>none))(ho:x.g.get? f.locals=none/\¬x.mu f.locals)(hL:∀p∈J.cells,p.2≠f.locals):fU w x f (iW N G) (O++ts) (l++bJ ts.length none):=by
 have B:∀p∈cl,p∈J.cells:=λp t=>mem_of_lookup (e p t);refine⟨U.trans (FH X.scope K.k),K.k',Z.trans X.globals,h.trans X.builtins,by simp[X.len],⟨_,I,λnm i v b d Q=>?_⟩,λnm i b d=>?_,λnm L c b d=>?_,ho,λp t=>?_⟩;.
  exfalso;rw[kQ]at d;obtain⟨_,q⟩:=K.loc nm (mem_of_lookup d);rw[mZ]at b;by_cases o:nm∈ts;.obtain⟨j,T⟩:=dj.mp (oE (n:=O.length) o);rw[T]at b;obtain rfl:=(sI b).symm;have:=(oZ T).1;rw[bj ((sY X.len this)),abp]at Q;exact if1 Q λ_ z=>nomatch z
  .rw[nN o]at b;rcases q with q|q;.exact o q
   .dsimp only at b;rw[q]at b;exact ec b
 .refine hd λ_ M=>?_;have R:=yZ K.EO d;obtain⟨k1,j,k2⟩:=K.free nm R;have o:nm∉ts:=λo=>by
   have:=K.Xo nm o;rcases d with d|d;.rw[kQ.mpr this]at d;exact ax d (by decide)
   .rw[kQ.mpr this]at d;exact ax d (by decide)
  rw[mZ,nN o]at b;dsimp only at b;refine iE (X.cell nm i b k1) λc vo a g2 g3=>?_;obtain⟨c1,H⟩:=m nm R;obtain⟨c2,r⟩:=jt H;have:=qg e r;rw[a]at this;obtain rfl:=sI this;refine M ?_;refine jQ c vo ⟨(sY C r),g2,λv hv=>g3 v ?_⟩;rwa[aT (by rw[X.len];exact oc b)]at hv
 .rw[C]at b d;exact X.apart nm L c (qg e b) (qg e d)
 .rw[C]at t;refine CE (X.ib p (B p t)) λq1 q2 q3 q4=>?_;exact⟨q1,q2,hL p (B p t),q4⟩
theorem Es(h:iX t=true)(J:Env)(v:al):foldedSetIterable t J v=pure v:=by rcases t with⟨⟩<;>first|(exact fE h;done)|rfl
set_option tactic.hygienic true in theorem wD(a:At w A n Y x J N O l){elt M t:PySem.Expr}{ifs:ab PySem.Expr}{G:cg}{j pos':Pos}{me:ME}{d:MI}{tg:Tg}{ft:PySem.Expr->MT}{use:ae (al->Sem ag9)}{Q:al->aM->Prop}(hk:oa N G O (ej M)=true)(hs:iX t=true)(hi:xR w n d N O (λJ=>cG t J))(he:eo w n me (iW N G) (O++ej M) (λJ=>cG elt J))(MA:∀e∈ifs,mr w n (ft e) (iW N G) (O++ej M) (λJ=>aax e J (cG e J)))(IG:pZ (O++ej M) M=some tg){all:ab D}{Hf:Hp}(e:((d Y l x.H).bind λr=>fa me tg (gM (ifs.map ft)) Y r.1 (l++bJ (ej M).length none) r.2)=some (all,Hf))(fin:∀y Da C U,Rel w y->Le Y.wm fP x y->y.H=Hf->y.s.heap.PlainList Da U->U.size<=bf->fh w y.g all U.toList->Off x y Da->Off x y C->Da≠C->(∃m,y.s.heap.Ns C m)->compPost (aP pw w) A E use Q (.ref Da) C (.ok .next) y.s):aR (aP pw w) A (comprehension (.ListComp elt [⟨M,t,ifs,0⟩] G j) G J pos' (newList []) false (cG t J) use) Q E x.s:=by
 refine(let γ:Prop:=_;(?_:γ));refine jU e λB X k1 k2=>?_;have K:=BZ hk;refine j6 (yw (J:=J) (G:=G) λnm hm=>by obtain⟨g1,i,g2⟩:=K.free nm hm;refine ml (a.env.cell nm i g2 g1) λc vo g3 _=>?_;exact⟨c,g3⟩) λcl Zn RP Wu=>?_;refine wpAny_comprehension_free (g:=⟨M,t,ifs,0⟩) (gs:=[]) rfl (Es hs J) Zn K.k' (λp hp hl=>(K.loc p.1 ((sZ hl hp))).1) (hi a k1 λy I fp Pi St a1 L1 g1 hz T=>?_);refine wpAny_newObj_type (wpAny_newFunctionEnv K.EO (by intro p hp;exact kn hp) (λh1 NT Uj=>?_) K.k');have Z3:(y.s.heap.push {cls:=.type "list",dict:=none,data:=.seq ([]:ab al).toArray}).objs.size=y.sz+1:=Heap.size_push ..;rw[Z3]at NT Uj⊢;have old:∀b o,y.s.heap.get? b=some o->h1.get? b=some o:=λb o e=>Uj.extBut b o (cv (abg (Heap.lt_size e))) (Heap.get?_push_of_some _ (Heap.get?_push_of_some _ e));have WG:h1.PlainList y.sz #[]:=⟨_,Uj.extBut _ _ (cv (cW _)) (Heap.get?_push_of_some _ (Heap.get?_push_size _ rfl))⟩;have hC:∃o,h1.get? (y.sz+1)=some o:=by obtain⟨o,_,_,ho,_⟩:=NT;exact⟨o,ho⟩
 have fC:y.s.heap.get? (y.sz+1)=none:=by cases z:y.s.heap.get? (y.sz+1)with|none=>rfl|some o=>exact ax (Heap.lt_size z) (by show¬y.sz+1<y.sz;lia)
 clear Uj;refine lJ (iC (wm:=Y.wm) (P:=fP) (s':={y.s with heap:=h1,toks:=y.s.toks+([]:ab (Str×al)).length}) (as:=[]) a1.rel old a1.rel.gens rfl (λb hb=>by exact kn hb)) λR2 L2=>?_;have oD:Off x (y.grow {y.s with heap:=h1,toks:=y.s.toks+([]:ab (Str×al)).length} []) y.sz:=Off.new L1 a1.rel i' old;have oC:Off x (y.grow {y.s with heap:=h1,toks:=y.s.toks+([]:ab (Str×al)).length} []) (y.sz+1):=Off.new L1 a1.rel fC old;have hG:(y.grow {y.s with heap:=h1,toks:=y.s.toks+([]:ab (Str×al)).length} []).H=X:=g1;have hS:(y.grow {y.s with heap:=h1,toks:=y.s.toks+([]:ab (Str×al)).length} []).s.heap=h1:=rfl;show abR _ _ _ _ (y.grow {y.s with heap:=h1,toks:=y.s.toks+([]:ab (Str×al)).length} []).s;have X0:=a.env.Uy (L1.trans L2);have I0:=(IT.start L1 T).step T a1.rel L2 R2 (λq=>q);have XO:Y.wm<=(y.grow {y.s with heap:=h1,toks:=y.s.toks+([]:ab (Str×al)).length} []).H.length:=a1.wm;generalize(y.grow {y.s with heap:=h1,toks:=y.s.toks+([]:ab (Str×al)).length} [])=y2 at R2 L2 oD oC hG hS X0 I0 XO;subst hS;have SR:I<y.sz:=by obtain⟨o,ho⟩:=T.live 0 _ T.st;exact Heap.lt_size ho
 have X2:=EA X0 K RP Wu (f:={newEnv G (y.sz+1) J.globals cl J.qual none .none (some J) ab4 with scope:=aez G J}) rfl rfl rfl rfl NT ⟨oC.2.1,oC.2.2⟩ (λp hp e=>by obtain⟨_,_,_,vo,o,ho,_⟩:=a.env.ib p hp;rw[(show p.2=y.sz+1from e),oC.1]at ho;exact ec ho);have loop:abR (aP pw w) A (.compLoop (.ListComp elt [⟨M,t,ifs,0⟩] G j) 0 (.ref I) (.ref y.sz) {newEnv G (y.sz+1) J.globals cl J.qual none .none (some J) ab4 with scope:=aez G J}) (compPost (aP pw w) A E use Q (.ref y.sz) (y.sz+1)) y2.s:=by
  refine CF he MA IG (λnm hm=>kQ.mpr (K.Xo nm hm)) T (Da:=y.sz) (cv SR) (show I≠y.sz+1from cv (abg SR)) (show y.sz≠y.sz+1from cv (cW _)) (λb hb WI hq=>?_) hz (λz l2 U R3 L3 X3 g3 C3=>?_) ⟨a.room,a.call,XO,R2,X2⟩ I0 (⟨WG,aV _,.nil,oD,oC,hC⟩) ((sY hG k2));.
   rcases hq with hq|⟨p,hp,hq⟩;.exact WI hq
   .obtain⟨_,_,_,vo,o,ho,_⟩:=a.env.ib p (mem_of_lookup (RP p hp));rw[←hq,hb]at ho;exact ec ho
  .refine d9 (X3.loc) λm hm _=>?_;exact fin z y.sz (y.sz+1) U R3 L3 g3 C3.acc (show U.size<=bf from ar C3.sz hz) C3.IV C3.oD C3.oC (cv (cW _)) ⟨m,hm⟩
 exact codeAny_compStart_list loop (T.walk.self 0 _ _ _ I0.st loop)
noncomputable def PQ(w:bN)(Y:Cx)(x:Sx)(c:ab D)(d:Hp)(v:V)(X:Hp):Prop:=∀y Da U,Rel w y->Le Y.wm fP x y->y.H=d->y.s.heap.PlainList Da U->U.size<=bf->fh w y.g c U.toList->Off x y Da->∃b,b.s=y.s/\b.H=X/\Rel w b/\Le Y.wm fP x b/\Rv w b v (.ref Da)/\∀C,Off x y C->C≠Da->Off x b C
theorem Hg:PQ w Y x b m (.d (.lst b)) m:=λy X U R L g f H G T=>ZQ (uj L R T) λz q k p o I M Q Z=>f.elim λr f=>Xu z q (k.trans g) p o (.d (.lst ⟨_,M _ f,rfl,r,rfl⟩ H (G.keeps I))) λC i e=>⟨i.1,Z C e i.2.1,λh=>i.2.2 (iE h λj c s t B=>Dd j c (sZ k s) t (sZ Q B))⟩
theorem Kh(R:Rel w y)(f:C≠Da)(h:Sx.mu ⟨y.g,y.φ++[Da],y.H++[i],y.s⟩ C):y.mu C:=iE h λj c d k b=>by
 have b:(y.φ++[Da])[j]?=some C:=b;have d:(y.H++[i])[j]?=some c:=d;by_cases e:j<y.φ.length;.rw[aT e]at b;rw[aT (R.len▸e)]at d;exact Dd j c d k b
 .rw[bj (aam.mp e)]at b;exact ax (bt.mp (aae b)) f
theorem PR(q:Y.wm<=x.H.length)(S:Rel w x):PQ w Y x b i (.ref i.length) (i++[.lst b .sh]):=λy f U R L g o r p j=>lJ (xK (D:=f) (c:=.lst b .sh) L R j (ar q (L.len S R)) ⟨j.2.1,U,o,r,p⟩) λm k=>Xu ⟨y.g,y.φ++[f],y.H++[.lst b .sh],y.s⟩ rfl (ag (· ++[Cell.lst b .sh]) g) m k (.ref (g▸R.len▸aa1)) λC e d=>⟨e.1,e.2.1,λh=>e.2.2 (Kh R d h)⟩
section
variable{elt M t:PySem.Expr}{ifs:ab PySem.Expr}{G:cg}{j:Pos}{me:ME}{d:MI}{tg:Tg}{ft:PySem.Expr->MT}{m:ME}
theorem Bp(q:m=sA me tg (ej M).length d (ifs.map ft)\/m=pV me tg (ej M).length d (ifs.map ft))(a:At w A n Y x J N O l)(e:m Y l x.H=some (v,X)):∃b o,((d Y l x.H).bind λr=>fa me tg (gM (ifs.map ft)) Y r.1 (l++bJ (ej M).length none) r.2)=some (b,o)/\PQ w Y x b o v X:=q.elim (λz=>jU (show sA me tg (ej M).length d (ifs.map ft) Y l x.H=some (v,X)from z▸e) λB p g i=>yp i λb f k c=>xx b f (sY g k) ((pJ c).1▸(pJ c).2▸Hg)) λz=>jU (show pV me tg (ej M).length d (ifs.map ft) Y l x.H=some (v,X)from z▸e) λB p g i=>yp i λb f k c=>xx b f (sY g k) ((pJ c).1▸(pJ c).2▸PR a.wm a.rel)
theorem xD(c:m=sA me tg (ej M).length d (ifs.map ft)\/m=pV me tg (ej M).length d (ifs.map ft))(hk:oa N G O (ej M)=true)(hs:iX t=true)(hi:xR w n d N O (λJ=>cG t J))(he:eo w n me (iW N G) (O++ej M) (λJ=>cG elt J))(B:∀e∈ifs,mr w n (ft e) (iW N G) (O++ej M) (λJ=>aax e J (cG e J)))(r:pZ (O++ej M) M=some tg):eo w n m N O (λJ=>cG (.ListComp elt [⟨M,t,ifs,0⟩] G j) J):=by intro A E Y x J l v H' Q a e q;refine ml (Bp c a e) λall Hf k2 F=>?_;show aR _ _ (cG (.ListComp elt [⟨M,t,ifs,0⟩] G j) J) _ _ _;refine wD a hk hs hi he B r k2 λy i C U R L g p hz hr oD oC k c=>c.elim λm c=>⟨m,c,λT f=>?_⟩;exact lJ (L.off (Z:=λb=>b=C) (s':={y.s with heap:=T}) R (λb e=>e▸oC) (λb o hb e=>f.extBut b o hb e) R.gens rfl) λh X=>Sz (F ⟨y.g,y.φ,y.H,{y.s with heap:=T}⟩ i U h X g (p.imp λ_ p=>f.extBut _ _ k p) hz hr oD) λz e1 e2 R3 I r3 _=>sZ (P:=λs=>Q (.ref i) s) e1 (q z (.ref i) (a.step R3 I) I e2 r3)
end
end
section
variable{w:bN}{n:Nat}{x y z y0:Sx}{wm:Nat}{P P':b8->Prop}{A:bH}{E:al->aM->Prop}{Y:Cx}{J:Env}{N:cg}{O:ab Str}{l:Loc}
theorem At.wU(a:At w A n Y x J N O l)(R:Rel w y)(L:Le wm P x y)(X:fU w y J N O l'):At w A n Y y J N O l':=⟨a.room,a.call,ar a.wm (L.len a.rel R),R,X⟩
theorem jy{Q:Flow->aM->Prop}(a:At w A n Y y J N O G)(L:Le Y.wm (jL J) x y)(j:y.H=g)(r:Ih w y i c)(e:(i,G,g)=(f,l',d))(q:∀y b,At w A n Y y J N O l'->Le Y.wm (jL J) x y->y.H=d->Ih w y f b->Q b y.s):Q c y.s:=q y c ((pJ (pJ e).2).1▸a) L (j.trans (pJ (pJ e).2).2) ((pJ e).1▸r)
theorem rj(h:∀s∈b,kY w n (f s) N O (λJ=>adY s J)):kY w n (d5 (b.map f)) N O (λJ=>execs b J):=by induction b with|nil=>exactλa e q=>wpAny_execs_nil (jy a .refl rfl .er (sI e) q)|cons s b ih=>intro A E Y x J l I p G Q a e q;refine Xd e λH j X k e=>wpAny_execs_cons (h s aF a k λy p d c g B=>?_);clear k;induction B with|er=>exact ih (λs hs=>h s (aD _ hs)) d (sY g e) λz i o m t C=>q z i o (c.trans m) t C|cnt=>exact jy d c g .cnt (sI e) q|brk=>exact jy d c g .brk (sI e) q|ret r=>exact jy d c g (.ret r) (sI e) q
theorem sR(h:eo w n m N O (λJ=>cG v J))(r:ey O nm=some i)(s:gY N nm=true)(hs:∀J,aaW v (some (.Name nm p')) p.line J=pure false):kY w n (wL i m) N O (λJ=>adY (.Assign [.Name nm p'] v p) J):=λ{A E Y x J l G f C Q}a e q=>yp e λH X t e=>acI (h a t λy u b d k B=>mR (wm:=Y.wm) b.rel b.env r s B λz g c o j=>jy (b.wU g c j) (d.qO.trans c) (o.trans k) .er e q) (hs _)
theorem JX(h:PU I v l=some l'):∃Z,v=.d (.tup Z)/\iS I Z l=some l':=pA (P:=λv=>∃Z,v=.d (.tup Z)/\iS I Z l=some l') h λ_ h=>Ie (P:=λd=>∃Z,V.d d=.d (.tup Z)/\iS I Z l=some l') h λZ h=>i12 Z rfl h
theorem CS(h:eo w n m N O (λJ=>cG v J))(s:pZ O (.Tuple es k p')=some (.many I))(B:(ej (.Tuple es k p')).all (gY N)=true)(hs:∀J,swappedStores [.Tuple es k p'] v J=pure none):kY w n (F6 I m) N O (λJ=>adY (.Assign [.Tuple es k p'] v p) J):=λ{A E Y x J l U f T Q}a e q=>jU e λv1 X G e=>j0 e λl2 H e=>d9 (JX H) λZ z L=>Assign_Tuple (h a G λy u b g o R=>HB (wm:=Y.wm) (t:=.many I) (d:=.tup Z) uM b.room.hh b.rel b.env s (λM C=>aA.mp B M C) (show Rv w y (.d (.tup Z)) u from z▸R).eU L λz i c r j=>jy (b.wU i c j) (g.qO.trans c) (r.trans o) .er e q) (show aaW v (some (.Tuple es k p')) p.line J=pure false from ve (λ_ _ _ _=>rfl) (λ_ _ _ _=>rfl) (λ_ _ _ _ _=>rfl) v) (hs _)
theorem D6(X:fU w x J N O l):interactive J=false:=by unfold interactive;rw[X.scope,X.kind];rfl
theorem LD(h:Gy v=some u):∃d,v=.d d/\d.flat=true:=pA (P:=λv=>∃d,v=.d d/\d.flat=true) h λd h=>i12 d rfl (LM h)
theorem SU{P:al->Prop}(h:d.flat=true)(r:Rd w g d u)(n:P .none)(b:∀b,P (.bool b))(i:∀i t,P (.int i t))(s:∀s t,P (.str s t)):P u:=by induction d using D.casesOn with|fS=>exact tX r n|bool c=>exact Na r (b c)|int c=>exact i4 r (i c)|str c=>exact jc r (s c)|_=>exact fE h
theorem Dn(h:eo w n m N O (λJ=>cG (.Call f as o p') J)):kY w n (GO m) N O (λJ=>adY (.Expr (.Call f as o p') p) J):=by intro A E Y x J l C B t Q a e q;refine jU e λH X j e=>j0 e λG k e=>d9 (LD k) λd z i=>wpAny_Expr (h a j λy u c b g r=>?_) (D6 a.env) rfl;have f:Q .next y.s:=jy c b.qO g .er e q;exact SU (P:=λu=>match u with|.ref _=>aeu|_=>Q .next y.s) i (show Rv w y (.d d) u from z▸r).eU f (λ_=>f) (λ_ _=>f) λ_ _=>f
theorem Jk(L:mr w n t N O (λJ=>aax r J (cG r J)))(H:∀s∈b,kY w n (f s) N O (λJ=>adY s J))(I:∀s∈c,kY w n (f s) N O (λJ=>adY s J)):kY w n (QJ t (b.map f) (c.map f)) N O (λJ=>adY (.If r b c p) J):=by intro A E Y x J l T R M Q a e q;refine jU e λG X C e=>wpAny_If (L a C λy o m B=>?_);clear C;induction G using a5 with|true=>exact rj H o (sY B e) λz i g d j k=>q z i g (m.qO.trans d) j k|false=>exact rj I o (sY B e) λz i g d j k=>q z i g (m.qO.trans d) j k
theorem Ij(h:eo w n m N O (λJ=>cG v J)):kY w n (PZ m) N O (λJ=>adY (.Return (some v) p) J):=λa e q=>yp e λi X f e=>wpAny_Return_some (h a f λy u c b d g=>jy c b.qO d (.ret g) e q)
theorem CA:kY w n EC N O (λJ=>adY (.Return none p) J):=λa e q=>wpAny_Return_none (jy a .refl rfl (.ret (.d .fS)) (sI e) q)
theorem Fg:kY w n Pr N O (λJ=>adY (.Continue p) J):=λa e q=>wpAny_Continue (jy a .refl rfl .cnt (sI e) q)
theorem Dp:kY w n MC N O (λJ=>adY (.Pass p) J):=λa e q=>wpAny_Pass (jy a .refl rfl .er (sI e) q)
theorem Mj(h:toD v H=some (.int k,X)):some (some v)=some (some (.d (.int k)))/\H=X:=by induction v using V.casesOn with|d d=>exact⟨ag (λd=>some (some (V.d d))) (CC h).1,(CC h).2⟩|ref j=>exact jW (P:=λo=>RH j H o=some (.int k,X)->some (some (V.ref j))=some (some (.d (.int k)))/\H=X) H[j]? (λh=>ec h) (λ_ _ h=>xc vt (CC h).1 rfl) (λ_ _ h=>if1 h λ_ h=>xc vt (CC h).1 rfl) (λ_ h=>ec h) h|ins _ _=>exact ec h
theorem Pp(h:eD (u5 i) c l H=some (.int k,X)):l[i]?=some (some (.d (.int k)))/\H=X:=by have h:(ck (match l[i]?with|some (some v)=>some (v,H)|_=>none) λr=>toD r.1 r.2)=some (.int k,X):=h;revert h;generalize l[i]?=o;intro h;induction o using b5 with|none=>exact ec h|some o=>induction o using b5 with|none=>exact ec h|some v=>exact Mj h
theorem FQ{x y z:D}{G:dE->D->D->D->Prop}(h:P2 R x y=some z)(k:∀a b,G .Add (.int a) (.int b) (.int (a+b))):G R x y z:=by induction R using abx with|Add=>exact i3 (P:=λx=>G .Add x y z) h λa h=>i3 (P:=λy=>G .Add (.int a) y z) h λb h=>so h (k a b)|_=>exact ec h
theorem Cy(b:gY N nm=true):isVar N nm=true:=by unfold isVar;rw[(k9 b).1,gu];exact(k9 b).2.elim (λe=>e▸rfl) λe=>e▸rfl
theorem Fy(h:eo w n m N O (λJ=>cG v J))(C:ey O nm=some i)(I:gY N nm=true):kY w n (OD i R m) N O (λJ=>adY (.AugAssign (.Name nm p') R v p) J):=by intro A E Y x J l l' fl M Q a e q;refine jU e λo X b e=>jU e λt f c e=>j0 e λB k3 e=>?_;revert b c e;refine FQ (G:=λR o t B=>eD (u5 i) Y l x.H=some (o,X)->eD m Y l X=some (t,f)->(Fl.er,l.set i (some (.d B)),f)=(fl,l',M)->aR (aP pw w) A (adY (.AugAssign (.Name nm p') R v p) J) Q E x.s) k3 λi1 i2 b c e=>lJ (Pp b) λhl z=>?_;exact wpAny_AugAssign_Name (AE a.env C (Cy I) hl λu r=>eo.dat h a .refl (z▸c) λy u2 j T _ g1 r1=>i4 r.eU λt1=>i4 r1 λt2=>P.iadd_int (lJ (yq (wm:=Y.wm) (P:=fP) j.rel (y.s.toks+1)) λS L=>have k:=j.step S L;mR (x:=y.tok (y.s.toks+1)) (wm:=Y.wm) S k.env C I (.d (.int _ _)) λz U g g2 Z=>jy (k.wU U g Z) ((T.trans L).qO.trans g) (g2.trans g1) .er e q))
section
variable{I:b8}{B:ab D}{fp:ab b8}{Pi:Nat->al->Prop}{St:Nat->Heap->Prop}
inductive U'(w:bN)(A:bH)(n:Nat)(Y:Cx)(x y0:Sx)(env:Env)(sc:cg)(O:ab Str)(I:b8)(fp:ab b8)(St:Nat->Heap->Prop)(B:ab D)(r:Fl×Loc×Hp)(g:ab D->Loc->Hp->ae (Fl×Loc×Hp)):Nat->aM->Prop|mk(y:Sx)(l2:Loc)(i:Nat)(hi:i<=B.length)(a:At w A n Y y env sc O l2)(I1:IT w Y.wm (jL env) x y0 y I fp St i)(c:g (B.drop i) l2 y.H=some r):U' w A n Y x y0 env sc O I fp St B r g (B.length-i) y.s
theorem F0(hb:∀s∈b,kY w n (f s) N O (λJ=>adY s J))(IG:pZ O M=some tg)(UC:∀nm∈ej M,gY N nm=true)(X0:fU w x J N O l)(T:tw w A x y0 I B fp Pi St)(fin:∀y f',At w A n Y y J N O L->Le Y.wm (jL J) x y->y.H=p->Ih w y t f'->R (.ok f') y.s)(a:At w A n Y y J N O C)(hI:IT w Y.wm (jL J) x y0 y I fp St 0)(hc:g' tg (d5 (b.map f)) Y B C y.H=some (t,L,p)):abR (aP pw w) A (.forLoop M (.ref I) b [] J) R y.s:=by
 have nI:¬jL J I:=X0.not T.off.1;refine codeAny_forLoop_any (U' w A n Y x y0 J N O I fp St B (t,L,p) (g' tg (d5 (b.map f)) Y)) (λk s F=>?_) B.length (.mk y C 0 (bB _) a hI hc);clear hc hI a;induction F with
 |mk y C i hi a1 X c1=>
  refine(dp i B.length).elim (λg=>T.walk.item i _ _ _ g X.st λv h' tk hv j h=>?_) λU=>T.walk.done _ _ _ (aat hi U▸X.st) λh' tk h=>?_;.refine X.Xi T a1 nI j h λs2 o I2 _=>T.go _ _ _ _ _ _ I2.st ?_;refine d9 (T.item i v g hv) λd hd hr=>?_;refine vj (show ck (hK tg d C) _=some (t,L,p)from AU hd▸c1) λl3 k2 q=>Xd q λf1 l4 H4 k3 q=>?_;refine HB (wm:=Y.wm) uM o.room.hh o.rel o.env IG UC (hr.keeps I2.gk) k2 λy3 R3 L3 g3 X3=>rj hb (o.wU R3 L3 X3) (sY g3 k3) λy4 f' Z L4 g4 r4=>?_;have I4:=(I2.step T o.rel L3 R3 nI).step T R3 L4 Z.rel nI;have next:g' tg (d5 (b.map f)) Y (B.drop (i+1)) l4 H4=some (t,L,p)->∃m,m<B.length-i/\U' w A n Y x y0 J N O I fp St B (t,L,p) (g' tg (d5 (b.map f)) Y) m y4.s:=λc=>i12 (B.length-(i+1)) (acf g (cW i)) (.mk y4 l4 (i+1) g Z I4 (sY g4 c));clear k3 k2 hd hr h j;induction r4 with|er=>exact next q|cnt=>exact next q|brk=>exact jy (Q:=λf s=>R (.ok f) s) Z I4.le g4 .er (sI q) fin|ret r=>exact jy (Q:=λf s=>R (.ok f) s) Z I4.le g4 (.ret r) (sI q) fin
  .exact X.stop (G:=λs=>aR (aP pw w) A (execs [] J) (λf s=>R (.ok f) s) (notedBy (aP pw w) A J λe s=>R (.error e) s) s) a1 nI h λs2 o L2 _=>wpAny_execs_nil (jy (Q:=λf s=>R (.ok f) s) o L2 rfl .er (sI (show some (Fl.er,C,y.H)=some (t,L,p)from(ag (g' tg (d5 (b.map f)) Y · C y.H) (abG U)).symm.trans c1)) fin)
end
theorem Fe(H:xR w n d N O (λJ=>cG t J))(G:∀s∈b,kY w n (f s) N O (λJ=>adY s J))(hs:iX t=true)(g:pZ O M=some tg)(c:(ej M).all (gY N)=true):kY w n (Oo tg d (b.map f)) N O (λJ=>adY (.For M t b [] p) J):=by intro A E Y x J l l' fl h Q a e q;refine jU e λB X R e=>?_;refine wpAny_For (H a R λy I fp Pi St k i r hz T=>?_) (Es hs J);exact F0 G g (λU L=>aA.mp c U L) a.env T (λz o m j C Z=>q z o m j C Z) k (IT.start i.qO T) ((sY r e))
theorem yI(J:Env):(∃elt c G j,v=.ListComp elt c G j)->∃b,aaW v (some (.Name nm p')) B J=pure b:=by rintro⟨elt,c,G,j,rfl⟩;exact⟨_,rfl⟩
theorem qr(hk:oa N G O (ej M)=true)(hs:iX t=true)(hi:xR w n d N O (λJ=>cG t J))(he:eo w n me (iW N G) (O++ej M) (λJ=>cG elt J))(MA:∀e∈c,mr w n (ft e) (iW N G) (O++ej M) (λJ=>aax e J (cG e J)))(IG:pZ (O++ej M) M=some tg)(hm:m=sA me tg (ej M).length d (c.map ft)\/m=pV me tg (ej M).length d (c.map ft))(hn:ey O nm=some i)(UC:gY N nm=true):kY w n (wL i m) N O (λJ=>adY (.Assign [.Name nm p'] (.ListComp elt [⟨M,t,c,0⟩] G j) p) J):=by intro A E Y x J l l' f H' Q a e q;refine(let γ:Prop:=_;(?_:γ));refine yp e λv1 X k1 e=>nF (yI (nm:=nm) (p':=p') (B:=p.line) J ⟨elt,[⟨M,t,c,0⟩],G,j,rfl⟩) λb hb=>?_;induction b using a5 with|false=>exact acI (xD hm hk hs hi he MA IG a k1 λy u a1 L1 g1 r1=>mR (wm:=Y.wm) a1.rel a1.env hn UC r1 λz R2 I g2 X2=>jy (a1.wU R2 I X2) (L1.qO.trans I) (g2.trans g1) .er e q) hb|true=>refine ml (Bp hm a k1) λall Hf k2 F=>?_;show aR _ _ (adY (.Assign [.Name nm p'] (.ListComp elt [⟨M,t,c,0⟩] G j) p) J) _ _ _;refine sY (exec_Assign_Name_used _ _ _ _ hb) (aB (aav (aB ?_)));refine aB (cz (wD (use:=some (aft (.Name nm p') J)) (Q:=λ_ s'=>Q .next s') a hk hs hi he MA IG k2 λy Da C U R L g hp hz hr oD oC WI hC=>?_) (λ_ s' hq=>aQ (aQ hq)) λ_ _ e=>e);refine hC.elim λmm k=>Sz (F y Da U R L g hp hz hr oD) λy' e1 e2 R' L' r' o'=>?_;have X1:=o' C oC (abu WI);refine sZ (P:=λs=>aR (aP pw w) A (aft (.Name nm p') J (.ref Da)) (λ_ r=>∃m,r.heap.Ns C m/\∀T,Heap.SameBut C r.heap T->Q .next {r with heap:=T}) E s) e1 ?_;refine abm (mR (wm:=Y.wm) R' (a.env.Uy L') hn UC r' λz R2 I g2 X2=>?_);have nC:¬jL J C:=a.env.not oC.1;have k:y'.s.heap.Ns C mm:=e1▸k;refine i12 mm (k.at' λo e=>I.keep _ _ e X1.2.2 nC) λT Ss=>?_;refine k.elim λo h=>h.elim λ_ h=>h.elim λ_ h=>?_;have kC:∀b o,¬b=C->z.s.heap.get? b=some o->({z.s with heap:=T}:aM).heap.get? b=some o:=λb o hb e=>Ss.extBut b o hb e;exact lJ ((L'.qO.trans I).off (Z:=λb=>b=C) (s':={z.s with heap:=T}) R2 (λb e=>e▸X1.le h.1 I) kC R2.gens rfl) λR3 L3=>jy (y:=⟨z.g,z.φ,z.H,{z.s with heap:=T}⟩) ⟨a.room,a.call,ar a.wm (L3.len a.rel R3),R3,X2.off (Z:=λb=>b=C) (λb e=>e▸nC) kC⟩ L3 (g2.trans e2) .er e q
end
structure ZE(sc:cg)(O:ab Str)(code:Env->Sem al)where
 m:ME
 ok:∀w n,eo w n m sc O code
structure ZT(sc:cg)(O:ab Str)(code:Env->Sem bp)where
 m:MT
 ok:∀w n,mr w n m sc O code
structure ZI(sc:cg)(O:ab Str)(code:Env->Sem al)where
 m:MI
 ok:∀w n,xR w n m sc O code
structure ZS(sc:cg)(O:ab Str)(code:Env->Sem Flow)where
 m:MS
 ok:∀w n,kY w n m sc O code
noncomputable abbrev YE(N:cg)(O:ab Str)(e:PySem.Expr):=ZE N O λJ=>cG e J
noncomputable abbrev YT(N:cg)(O:ab Str)(e:PySem.Expr):=ZT N O λJ=>aax e J (cG e J)
noncomputable abbrev YI(N:cg)(O:ab Str)(e:PySem.Expr):=ZI N O λJ=>cG e J
noncomputable abbrev YS(N:cg)(O:ab Str)(s:PySem.Stmt):=ZS N O λJ=>adY s J
structure Den where
 e:∀sc O e,YE sc O e
 t:∀sc O e,YT sc O e
 i:∀sc O e,YI sc O e
section
variable{N:cg}{O:ab Str}
noncomputable def eX{code:Env->Sem al}:ZE N O code:=⟨tc,λ_ _=>B1⟩
noncomputable def NK{code:Env->Sem bp}:ZT N O code:=⟨λ_ _ _=>none,λ_ _=>yW (code:=code)⟩
noncomputable def VJ{code:Env->Sem al}:ZI N O code:=⟨λ_ _ _=>none,λ_ _=>yG (code:=code)⟩
noncomputable def gj{code:Env->Sem Flow}:ZS N O code:=⟨Aa,λ_ _=>zC⟩
noncomputable def oe{c:Type}{b:Type}(o:ae c)(g:b)(f:∀a,o=some a->b):b:=match o,f with|some a,f=>f a rfl|none,_=>g
end
section
variable(D:Den)(N:cg)(O:ab Str)
noncomputable def Pt(c:Const)(b:Nat)(p:Pos):YE N O (.Constant c b p):=oe (Fj c) eX λd h=>⟨Hj d,λ_ _=>snd_const h⟩
noncomputable def Ri(x:Str)(p:Pos):YE N O (.Name x p):=oe (ey O x) (oe (look AJ x) eX λd h=>if b:jb N x=true then⟨Hj d,λ_ _=>Jf h b⟩else eX) λi h=>if c:isVar N x=true then⟨u5 i,λ_ _=>La h c⟩else eX
noncomputable def W5(es:ab PySem.Expr)(b:Nat)(p:Pos):YE N O (.Tuple es b p):=if h:es.length<=1000/\noStar es=true then⟨N6 (es.map λe=>(D.e N O e).m),λw n=>JJ (λe _=>(D.e N O e).ok w n) h.1 h.2⟩else eX
noncomputable def VG(es:ab PySem.Expr)(p:Pos):YE N O (.List es p):=if h:es.length<=1000/\noStar es=true then⟨OQ (es.map λe=>(D.e N O e).m),λw n=>K8 (λe _=>(D.e N O e).ok w n) h.1 h.2⟩else eX
noncomputable def TF(I:ab (ae PySem.Expr))(U:ab PySem.Expr)(p:Pos):YE N O (.Dict I U p):=match I,U with|[],[]=>⟨Hs,λ_ _=>F3⟩|[some k],[v]=>⟨zo (D.e N O k).m (D.e N O v).m,λw n=>Cg ((D.e N O k).ok w n) ((D.e N O v).ok w n)⟩|_,_=>eX
noncomputable def ZD(R:UnaryOp)(x:PySem.Expr)(p:Pos):YE N O (.UnaryOp R x p):=match R with
 |.Not=>⟨TH (D.e N O x).m,λw n=>Ll ((D.e N O x).ok w n)⟩|.USub=>uB x (M:=λx=>YE N O (.UnaryOp .USub x p)) (λ_=>eX) λc _ _=>match c with|.int i=>⟨Of i,λ_ _=>J4⟩|_=>eX
 |_=>eX
noncomputable def SE(R:BoolOp)(es:ab PySem.Expr)(p:Pos):YE N O (.BoolOp R es p):=match R with|.And=>⟨yP (es.map λe=>(D.e N O e).m),λw n=>snd_and (p:=p) (λe _=>(D.e N O e).ok w n)⟩|.Or=>⟨OU (es.map λe=>(D.e N O e).m),λw n=>NW (p:=p) (λe _=>(D.e N O e).ok w n)⟩
noncomputable def W7(a:PySem.Expr)(d:ab afb)(f:ab PySem.Expr)(p:Pos):YE N O (.Compare a d f p):=match d,f with
 |[.Is],[b]=>uB b (M:=λb=>YE N O (.Compare a [.Is] [b] p)) (λ_=>eX) λc _ _=>match c with|.none=>⟨A4 false (D.e N O a).m,λw n=>xY (I:=false) ((D.e N O a).ok w n)⟩|_=>eX
 |[.IsNot],[b]=>uB b (M:=λb=>YE N O (.Compare a [.IsNot] [b] p)) (λ_=>eX) λc _ _=>match c with|.none=>⟨A4 true (D.e N O a).m,λw n=>xY (I:=true) ((D.e N O a).ok w n)⟩|_=>eX
 |[R],[b]=>if h:iX b=true then⟨Oy R (D.e N O a).m (D.e N O b).m,λw n=>Ki ((D.e N O a).ok w n) ((D.e N O b).ok w n) h⟩else eX|_,_=>eX
noncomputable def R8(f:PySem.Expr)(args:ab PySem.Expr)(R:ab Keyword)(p:Pos):YE N O (.Call f args R p):=match R with|_::_=>eX|[]=>lI f (M:=λf=>YE N O (.Call f args [] p)) (λ_=>eX) (λ_ _ _=>eX) (λx q=>if h:jb N x=true/\noStar args=true/\args.length<=10then oe (look uA x) (oe (look ma x) (oe (look qJ x) eX λk g=>⟨QA k (args.map λe=>(D.e N O e).m),λw n=>KS (λe _=>(D.e N O e).ok w n) h.2.1 h.1 g⟩) λc b=>match c,b with|(c,i,true),b=>⟨NC c i (args.map λe=>(D.e N O e).m),λw n=>Ju (λe _=>(D.e N O e).ok w n) h.2.1 h.1 b⟩|(c,i,false),b=>⟨eNew c i (args.map λe=>(D.e N O e).m),λw n=>IS (λe _=>(D.e N O e).ok w n) h.2.1 h.1 b⟩) λa d=>match a,d with|(a,_),d=>⟨GL a (args.map λe=>(D.e N O e).m),λw n=>EH (λe _=>(D.e N O e).ok w n) h.2.1 h.1 d⟩else eX) (λ_ _ _=>eX) (λ_ _=>eX) (λ_ _ _=>eX) (λ_ _ _=>eX) (λ_ _ _ _=>eX) (λ_ _ _=>eX) (λ_ _ _ _=>eX) (λ_ _ _ _=>eX) (λ_ _ _ _=>eX) (λo m j=>if h:noStar args=true/\args.length<=10/\baseOk o=true/\j.endLine=p.line then oe (look nS m) eX λk g=>⟨FU dP (D.e N O o).m k (args.map λe=>(D.e N O e).m),λw n=>HO ((D.e N O o).ok w n) (λe _=>(D.e N O e).ok w n) h.1 h.2.1 h.2.2.1 h.2.2.2 (jw g)⟩else eX) (λ_ _ _=>eX) (λ_ _ _ _=>eX) (λ_ _ _ _=>eX)
noncomputable def RD(o:PySem.Expr)(a:Str)(p:Pos):YE N O (.Attribute o a p):=if h:baseOk o=true then oe (look g6 a) eX λk b=>⟨H9 (D.e N O o).m k,λw n=>Ee ((D.e N O o).ok w n) h (jw b)⟩else eX
noncomputable def VX(o k:PySem.Expr)(p:Pos):YE N O (.Subscript o k p):=if h:pe k=true then⟨NF (D.e N O o).m (D.e N O k).m,λw n=>KV ((D.e N O o).ok w n) ((D.e N O k).ok w n) h⟩else lI k (M:=λk=>YE N O (.Subscript o k p)) (λ_=>eX) (λ_ _ _=>eX) (λ_ _=>eX) (λ_ _ _=>eX) (λ_ _=>eX) (λ_ _ _=>eX) (λ_ _ _=>eX) (λ_ _ _ _=>eX) (λ_ _ _=>eX) (λ_ _ _ _=>eX) (λ_ _ _ _=>eX) (λ_ _ _ _=>eX) (λ_ _ _=>eX) (λ_ _ _=>eX) (λ_ _ _ _=>eX) λlo d st q=>match lo,d,st with
 |none,some u,none=>uB u (M:=λu=>YE N O (.Subscript o (.Slice none (some u) none q) p)) (λ_=>eX) λc _ _=>match c with|.int i=>if h:0<=i/\isName o=true then⟨G7 (D.e N O o).m i.toNat,λw n=>El ((D.e N O o).ok w n) h.1 h.2⟩else eX|_=>eX
 |some l,some u,none=>uB l (M:=λl=>YE N O (.Subscript o (.Slice (some l) (some u) none q) p)) (λ_=>eX) λc _ _=>VO u (M:=λu=>YE N O (.Subscript o (.Slice (some (.Constant c _ _)) (some u) none q) p)) (λ_=>eX) λR x _=>uB x (M:=λx=>YE N O (.Subscript o (.Slice (some (.Constant c _ _)) (some (.UnaryOp R x _)) none q) p)) (λ_=>eX) λb _ _=>match c,R,b with|.int 1,.USub,.int 1=>if h:isName o=true then⟨ND (D.e N O o).m,λw n=>JW ((D.e N O o).ok w n) h⟩else eX|_,_,_=>eX
 |_,_,_=>eX
noncomputable def Tc(elt:PySem.Expr)(b:ab Comprehension)(G:cg)(p:Pos):YE N O (.ListComp elt b G p):=match b with|[⟨tg,j,c,0⟩]=>if h:oa N G O (ej tg)=true/\iX j=true then oe (pZ (O++ej tg) tg) eX λt d=>⟨sA (D.e (iW N G) (O++ej tg) elt).m t (ej tg).length (D.i N O j).m (c.map λe=>(D.t (iW N G) (O++ej tg) e).m),λw n=>xD (.inl rfl) h.1 h.2 ((D.i N O j).ok w n) ((D.e _ _ elt).ok w n) (λe _=>(D.t _ _ e).ok w n) d⟩else eX|_=>eX
noncomputable def TK(e:PySem.Expr):YE N O e:=lI e (M:=λe=>YE N O e) (λ_=>eX) (Pt N O) (Ri N O) (W5 D N O) (VG D N O) (TF D N O) (ZD D N O) (λa R b _=>⟨Nj R (D.e N O a).m (D.e N O b).m,λw n=>Lu ((D.e N O a).ok w n) ((D.e N O b).ok w n)⟩) (SE D N O) (λt a b _=>⟨Vl (D.t N O t).m (D.e N O a).m (D.e N O b).m,λw n=>Nx ((D.t N O t).ok w n) ((D.e N O a).ok w n) ((D.e N O b).ok w n)⟩) (W7 D N O) (R8 D N O) (RD D N O) (VX D N O) (Tc D N O) (λ_ _ _ _=>eX)
noncomputable def yB(e:PySem.Expr):YT N O e:=if h:p7 e=true then⟨tE (D.e N O e).m,λw n=>IF ((D.e N O e).ok w n) (.inl h)⟩else NK
noncomputable def ZX(R:UnaryOp)(x:PySem.Expr)(p:Pos):YT N O (.UnaryOp R x p):=match R with|.Not=>⟨QC (D.t N O x).m,λw n=>GJ ((D.t N O x).ok w n)⟩|R=>yB D N O (.UnaryOp R x p)
noncomputable def YC(R:BoolOp)(es:ab PySem.Expr)(p:Pos):YT N O (.BoolOp R es p):=match R with|.And=>⟨gM (es.map λe=>(D.t N O e).m),λw n=>uO (GK λe _=>(D.t N O e).ok w n)⟩|.Or=>⟨Ce (es.map λe=>(D.t N O e).m),λw n=>uO (F4 λe _=>(D.t N O e).ok w n)⟩
noncomputable def Zt(a:PySem.Expr)(c:ab afb)(d:ab PySem.Expr)(p:Pos):YT N O (.Compare a c d p):=match c,d with|[R],[b]=>if h:iX b=true then⟨tE (D.e N O (.Compare a [R] [b] p)).m,λw n=>IF ((D.e N O _).ok w n) (.inr ⟨_,_,_,_,rfl,h⟩)⟩else NK|c,d=>yB D N O (.Compare a c d p)
noncomputable def stepT(e:PySem.Expr):YT N O e:=lI e (M:=λe=>YT N O e) (yB D N O) (λ_ _ _=>yB D N O _) (λ_ _=>yB D N O _) (λ_ _ _=>yB D N O _) (λ_ _=>yB D N O _) (λ_ _ _=>yB D N O _) (ZX D N O) (λ_ _ _ _=>yB D N O _) (YC D N O) (λ_ _ _ _=>yB D N O _) (Zt D N O) (λ_ _ _ _=>yB D N O _) (λ_ _ _=>yB D N O _) (λ_ _ _=>yB D N O _) (λ_ _ _ _=>yB D N O _) (λ_ _ _ _=>yB D N O _)
noncomputable def UN(e:PySem.Expr):YI N O e:=⟨N3 (D.e N O e).m,λw n=>Gs ((D.e N O e).ok w n)⟩
noncomputable def stepI(e:PySem.Expr):YI N O e:=Fi e (M:=λe=>YI N O e) (UN D N O) λf as I p=>match as,I with|[a],[]=>wg f (M:=λf=>YI N O (.Call f [a] [] p)) (λ_=>UN D N O _) λx _=>if h:jb N x=true/\noStar [a]=true/\PySem.W.Fast.sEq x (aa "range")=true then⟨yF (D.e N O a).m,λw n=>zT ((D.e N O a).ok w n) h.2.1 h.1 (PySem.W.Fast.sEq_iff.mp h.2.2)⟩else UN D N O _|_,_=>UN D N O _
end
noncomputable def den:Nat->Den|0=>⟨λ_ _ _=>eX,λ_ _ _=>NK,λ_ _ _=>VJ⟩|k+1=>⟨TK (den k),stepT (den k),stepI (den k)⟩
noncomputable def zk(e:PySem.Expr):bp:=!(Jh 8 e||Jh 9 e||Jh 10 e)
noncomputable def MH(e:PySem.Expr):bp:=!Jh 25 e
theorem xt(h:zk v=true)(t:ae PySem.Expr)(B:Nat)(J:Env):aaW v t B J=pure false:=by rcases v with⟨⟩<;>first|rfl|exact fE h
theorem Af(h:MH v=true)(J:Env):swappedStores [.Tuple es b p'] v J=pure none:=by rcases v with⟨⟩<;>first|rfl|exact fE h
section
variable(D:Den)(N:cg)(O:ab Str)
noncomputable def aName(g:bp)(x:Str)(p':Pos)(v:PySem.Expr)(p:Pos):YS N O (.Assign [.Name x p'] v p):=oe (ey O x) gj λi b=>if hs:gY N x=true then if d:zk v=true then match g with|false=>⟨wL i (D.e N O v).m,λw n=>sR ((D.e N O v).ok w n) b hs (xt d _ _)⟩|true=>Nf v (M:=λv=>zk v=true->YS N O (.Assign [.Name x p'] v p)) (λv d=>⟨wL i (D.e N O v).m,λw n=>sR ((D.e N O v).ok w n) b hs (xt d _ _)⟩) (λes q _=>if h:es.length<=1000/\noStar es=true then⟨wL i (BH .own (es.map λe=>(D.e N O e).m)),λw n=>sR (x1 (md:=.own) (λh=>nomatch h) (λe _=>(D.e N O e).ok w n) h.1 h.2) b hs λ_=>rfl⟩else gj) d else lI v (M:=λv=>YS N O (.Assign [.Name x p'] v p)) (λ_=>gj) (λ_ _ _=>gj) (λ_ _=>gj) (λ_ _ _=>gj) (λ_ _=>gj) (λ_ _ _=>gj) (λ_ _ _=>gj) (λ_ _ _ _=>gj) (λ_ _ _=>gj) (λ_ _ _ _=>gj) (λ_ _ _ _=>gj) (λ_ _ _ _=>gj) (λ_ _ _=>gj) (λ_ _ _=>gj) (λelt Z G _=>match Z with|[⟨tg,j,c,0⟩]=>if h:oa N G O (ej tg)=true/\iX j=true then oe (pZ (O++ej tg) tg) gj λt f=>if k:g=true then⟨wL i (pV (D.e (iW N G) (O++ej tg) elt).m t (ej tg).length (D.i N O j).m (c.map λe=>(D.t (iW N G) (O++ej tg) e).m)),λw n=>qr h.1 h.2 ((D.i N O j).ok w n) ((D.e _ _ elt).ok w n) (λe _=>(D.t _ _ e).ok w n) f (.inr rfl) b hs⟩else⟨wL i (sA (D.e (iW N G) (O++ej tg) elt).m t (ej tg).length (D.i N O j).m (c.map λe=>(D.t (iW N G) (O++ej tg) e).m)),λw n=>qr h.1 h.2 ((D.i N O j).ok w n) ((D.e _ _ elt).ok w n) (λe _=>(D.t _ _ e).ok w n) f (.inl rfl) b hs⟩else gj|_=>gj) (λ_ _ _ _=>gj)else gj
noncomputable def VW(es:ab PySem.Expr)(k:Nat)(q:Pos)(v:PySem.Expr)(p:Pos):YS N O (.Assign [.Tuple es k q] v p):=oe (pZ O (.Tuple es k q)) gj λt b=>match t,b with|.many I,b=>if h:(ej (.Tuple es k q)).all (gY N)=true/\MH v=true then⟨F6 I (D.e N O v).m,λw n=>CS ((D.e N O v).ok w n) b h.1 (Af h.2)⟩else gj|_,_=>gj
noncomputable def Rt(o:PySem.Expr)(a:Str)(q:Pos)(v:PySem.Expr)(p:Pos):YS N O (.Assign [.Attribute o a q] v p):=oe (look g6 a) gj λk b=>Nf v (M:=λv=>YS N O (.Assign [.Attribute o a q] v p)) (λv=>⟨Bq (D.e N O o).m k (D.e N O v).m,λw n=>uD ((D.e N O o).ok w n) ((D.e N O v).ok w n) (jw b)⟩) λes q=>if h:es.length<=1000/\noStar es=true then⟨Bq (D.e N O o).m k (BH .sh (es.map λe=>(D.e N O e).m)),λw n=>uD ((D.e N O o).ok w n) (x1 (md:=.sh) (λh=>nomatch h) (λe _=>(D.e N O e).ok w n) h.1 h.2) (jw b)⟩else gj
noncomputable def VM(x:Str)(q:Pos)(R:dE)(v:PySem.Expr)(p:Pos):YS N O (.AugAssign (.Name x q) R v p):=oe (ey O x) gj λi b=>if hs:gY N x=true then⟨OD i R (D.e N O v).m,λw n=>Fy ((D.e N O v).ok w n) b hs⟩else gj
noncomputable def V4(b:ab Str)(t v:PySem.Expr)(p:Pos):YS N O (.Assign [t] v p):=lI t (M:=λt=>YS N O (.Assign [t] v p)) (λ_=>gj) (λ_ _ _=>gj) (λx p'=>aName D N O (b.any λy=>PySem.W.Fast.sEq y x) x p' v p) (λes k q=>VW D N O es k q v p) (λ_ _=>gj) (λ_ _ _=>gj) (λ_ _ _=>gj) (λ_ _ _ _=>gj) (λ_ _ _=>gj) (λ_ _ _ _=>gj) (λ_ _ _ _=>gj) (λ_ _ _ _=>gj) (λo a q=>Rt D N O o a q v p) (λo k _=>⟨Eo (D.e N O o).m (D.e N O k).m (D.e N O v).m,λw n=>CB ((D.e N O o).ok w n) ((D.e N O k).ok w n) ((D.e N O v).ok w n)⟩) (λ_ _ _ _=>gj) (λ_ _ _ _=>gj)
noncomputable def SM(d:ab Str)(S:∀s,YS N O s)(s:PySem.Stmt):YS N O s:=match s with|.Assign [t] v p=>V4 D N O d t v p|.AugAssign t R v p=>wg t (M:=λt=>YS N O (.AugAssign t R v p)) (λ_=>gj) λx q=>VM D N O x q R v p|.Expr e q=>Fi e (M:=λe=>YS N O (.Expr e q)) (λ_=>gj) λf a k p'=>⟨GO (D.e N O (.Call f a k p')).m,λw n=>Dn ((D.e N O _).ok w n)⟩|.If t a b _=>⟨QJ (D.t N O t).m (a.map λs=>(S s).m) (b.map λs=>(S s).m),λw n=>Jk ((D.t N O t).ok w n) (λs _=>(S s).ok w n) (λs _=>(S s).ok w n)⟩|.For t j b [] _=>if h:(ej t).all (gY N)=true/\iX j=true then oe (pZ O t) gj λtg c=>⟨Oo tg (D.i N O j).m (b.map λs=>(S s).m),λw n=>Fe ((D.i N O j).ok w n) (λs _=>(S s).ok w n) h.2 c h.1⟩else gj|.Return (some e) _=>⟨PZ (D.e N O e).m,λw n=>Ij ((D.e N O e).ok w n)⟩|.Return none _=>⟨EC,λ_ _=>CA⟩|.Continue _=>⟨Pr,λ_ _=>Fg⟩|.Pass _=>⟨MC,λ_ _=>Dp⟩|_=>gj
noncomputable def Qp(b:ab Str):Nat->∀s,YS N O s|0,_=>gj|k+1,s=>SM (den k) N O b (Qp b k) s
end
noncomputable def EY(b:ab Str)(st:ahs):ab MS:=(ng st).map λs=>(Qp (ef st) (f9 (ef st)) b 60 s).m
noncomputable def M7(r:qF)(call:Nat->Nat->ab V->Hp->ae (V×Hp))(wm:Nat)(args:ab V)(H:Hp):ae (V×Hp):=(uw (fB (ew r.il)).length args r.QZ).bind λU=>(d5 (EY r.NV r.il) ⟨call,if r.init then wm else H.length⟩ (U.map some++bJ ((f9 (ef r.il)).length-U.length) none) H).bind λq=>match r.init with|true=>(match q.1with|.er=>some (.d .fS,q.2.2)|_=>none)|false=>(match q.1with|.er=>some (.d .fS,q.2.2.take H.length)|.ret v=>(toD v q.2.2).map λx=>(.d x.1,x.2.take H.length)|_=>none)
noncomputable def nQ:Nat->Nat->Nat->ab V->Hp->ae (V×Hp)|0,_,_,_,_=>none|n+1,wm,f,args,H=>(Pk f).bind λr=>M7 r (nQ n) wm args H
theorem jP:∀{f:ab Str}{N:ab al}{n:Str},n∉f->(f.zip N).lookup n=none
 |[],_,_,_=>by simp|_::_,[],_,_=>rfl|p::f,v::N,n,h=>by
  rw[cK,bu];have:(n==p)=false:=by simpa usingλe:n=p=>h (e▸aF)
  refine sY this ?_;exact jP λq=>h (aD _ q)
theorem jM:∀{f:ab Str}{N:ab al}{n:Str},n∈f->f.length<=N.length->∃v,(f.zip N).lookup n=some v
 |p::f,[],n,_,h=>by simp at h|p::f,v::N,n,h,c=>by
  dsimp only[cK,bu];cases b:n==p with
  |true=>exact⟨v,rfl⟩|false=>
   rcases ah.mp h with rfl|h;.simp at b
   .exact jM h (by simpa using c)
noncomputable def oF(x:Str×al)(r:ab (Str×al)):Sem (ForInStep (ab (Str×al))):=if(aaD x.1 r).isNone=true then pure (bG (r++[(x.1,x.2)]))else pure (bG r)
theorem B9(k:ab (Str×al)):∀(l:ab (Str×al))(b:ab (Str×al)),(∀x∈l,∃v,b.lookup x.1=some v)->(forIn (l++k) b oF:Sem _)=forIn k b oF:=by
 intro l;induction l with
 |nil=>intro _ _;exact rfl|cons x l ih=>
  intro b h;obtain⟨v,c⟩:=h x aF;rw[aaP,aaq];have:oF x b=pure (bG b):=by unfold oF;rw[c,aX (by simp)]
  rw[this,pure_bind];exact ih b λy d=>h y (aD _ d)
theorem xr:∀(b:ab Str)(B:ab al)(f:ab Str)(N:ab al),f.length=N.length->(f++b).Nodup->b.length=B.length->(forIn (b.zip B) (f.zip N) oF:Sem _)=pure ((f++b).zip (N++B))
 |[],[],f,N,_,_,_=>by simp|[],_::_,_,_,_,_,h=>by simp at h|_::_,[],_,_,_,_,h=>by simp at h|n::b,d::B,f,N,e,c,g=>by
  have i:n∉f:=by intro q;rw[a7]at c;exact c.2.2 n q n aF rfl
  rw[cK,aaq];have:oF (n,d) (f.zip N)=pure (bG ((f++[n]).zip (N++[d]))):=by unfold oF;rw[jP i,aS (by rfl),aaV e];rfl
  rw[this,pure_bind];have:=xr b B (f++[n]) (N++[d]) (by simp[e]) (by simpa using c) (by simpa using g);simpa using this
theorem yt:∀{nms:ab Str}{U:ab al},nms.Nodup->nms.length=U.length->nms.filterMap (λn=>cx (λx=>(n,x)) (aaD n (nms.zip U)))=nms.zip U:=by
 have go:∀(b:ab Str)(c:ab al)(f:ab Str)(N:ab al),(f++b).Nodup->f.length=N.length->b.length=c.length->b.filterMap (λn=>cx (λx=>(n,x)) (aaD n ((f++b).zip (N++c))))=b.zip c:=by
  intro b;induction b with
  |nil=>intro c f N _ _ _;simp|cons n b ih=>
   intro c f N d e g;induction c using aW with
   |nil=>simp at g|cons v c=>
    have j:n∉f:=by intro q;rw[a7]at d;exact d.2.2 n q n aF rfl
    have i:aaD n ((f++n::b).zip (N++v::c))=some v:=by rw[aaV e,dH,jP j];simp
    rw[List.filterMap_cons,i];have:=ih c (f++[n]) (N++[v]) (by simpa using d) (by simp[e]) (by simpa using g);simp only[bz,abT]at this;simp[this]
 intro nms U d e;simpa using go nms U [] [] (d) rfl e
theorem pQ{M:Model}{A:bH}{b:Type}{Q:b->aM->Prop}{E:al->aM->Prop}{s:aM}{c:Prop}[dm c]{x y:Sem b}(d:¬c)(h:aR M A y Q E s):aR M A (if c then x else y) Q E s:=by rw[aX d];exact h
theorem wpAny_of_eq{y:Sem b}(e:x=y)(h:aR M A y Q E s):aR M A x Q E s:=e▸h
theorem tU{B:ab Str}{v:ab al}(h:A.length=v.length):(A++B).zip v=A.zip v:=by have:=aaV (r₁:=B) (r₂:=[]) h;rwa[aL,List.zip_nil_right,aL]at this
theorem DA(d:(P++(Q++R)).Nodup)(c:(P++Q).length=Z.length)(i:Q.length=g.length)(j:R.length=e.length):agE (λn=>(aaD n ((P++(Q++R)).zip Z)).isNone) P=[]/\(forIn ((Q++R).zip (g++e)) ((P++(Q++R)).zip Z) oF:Sem _)=pure ((P++(Q++R)).zip (Z++e)):=by rw[←bz]at d⊢;rw[tU c,aaV i,B9 _ _ _ (λx l=>jM (aN _ (adk (a:=x.1) (b:=x.2) l).1) (b4 c)),xr R e (P++Q) Z c d j];refine⟨aaz.mpr λn k=>?_,rfl⟩;refine(jM (f:=P++Q) (N:=Z) (bk _ k) (b4 c)).elim λv c=>?_;rw[c];exact(λh=>fE h)
theorem NH{nms:ab Str}{B:ab al}(f:a+B.length=nms.length)(g:j<=B.length):∃P Q R b c,nms=P++(Q++R)/\B=b++c/\a=P.length/\j=b.length/\Q.length=b.length/\R.length=c.length:=by
 have e:(nms.drop a).length=B.length:=by rw[dv,←f,Nat.add_sub_cancel_left]
 have d:(B.take j).length=j:=aay g;refine Zs (nms.take a) ((nms.drop a).take j) ((nms.drop a).drop j) (B.take j) (B.drop j) ⟨?_,(aaL _ _).symm,(aay (f▸aG _ _)).symm,d.symm,?_,?_⟩;.rw[aaL,aaL]
 .rw[d,aay (e▸g)]
 .rw[dv (l:=nms.drop a),e,dv]
theorem YF{n:Nat}(b:v<=n):v+d-n<=d:=Nat.sub_le_of_le_add (aap v d▸cy b d)
theorem Y6{n:Nat}(b:n<=v+d)(c:d<=n):n-d+(v+d-n)=v:=nF (Nat.exists_eq_add_of_le' c) λa e=>by subst e;rw[Nat.add_sub_cancel,Nat.add_sub_add_right];exact Nat.add_sub_cancel' (Nat.le_of_add_le_add_right b)
theorem ZH{n:Nat}(b:v<=n)(c:n<=v+d):n=v+(d-(v+d-n)):=nF (Nat.exists_eq_add_of_le b) λk e=>by subst e;rw[Nat.add_sub_add_left,Nat.sub_sub_self (Nat.le_of_add_le_add_left c)]
theorem bw{M:Model}{A:bH}{E:al->aM->Prop}{s:aM}{σ b f i g:Type}{Q:g->aM->Prop}{d:σ}{q:Sem b}{P:b->Prop}{j:σ->b->Prop}[∀x r,dm (j x r)]{B:σ->b->Sem g}{k:σ->b->Prop}[∀x r,dm (k x r)]{C:σ->b->Sem g}{c:σ->b->Sem f}{y:f}{t:σ->b->f->i}{l:σ->b->f->i->Prop}[∀x r y z,dm (l x r y z)]{G o:σ->b->f->i->Sem g}(m:∀{p:b->aM->Prop},(∀r,P r->p r s)->aR M A q p E s)(H:∀r,P r->¬j d r)(I:∀r,P r->¬k d r)(L:∀r,P r->c d r=pure y)(J:∀r,P r->¬l d r y (t d r y))(N:∀r,P r->aR M A (o d r y (t d r y)) Q E s):aR M A ((pure d:Sem σ)>>=λx=>q>>=λr=>if j x r then B x r else if k x r then C x r else c x r>>=λy=>(pure (t x r y):Sem i)>>=λz=>if l x r y z then G x r y z else o x r y z) Q E s:=aB (aQ (aB (m λr e=>pQ (H r e) (pQ (I r e) (aB (wpAny_of_eq (L r e) (aQ (aB (aQ (pQ (J r e) (N r e)))))))))))
theorem Ej{B:ab al}{nms:ab Str}(e:nms.Nodup)(i:Z.length<=nms.length)(j:nms.length<=Z.length+B.length)(b:B.length<=nms.length):agE (λn=>(aaD n (nms.zip Z)).isNone) (nms.take (nms.length-(B.drop (B.length-nms.length)).length))=[]/\(forIn ((nms.drop (nms.length-(B.drop (B.length-nms.length)).length)).zip (B.drop (B.length-nms.length))) (nms.zip Z) oF:Sem _)=pure (nms.zip (Z++B.drop (Z.length+B.length-nms.length))):=by
 have g:nms.length-B.length+B.length=nms.length:=acp b;rw[Nat.sub_eq_zero_of_le b,List.drop_zero];refine(NH g (YF i)).elim λP h=>π h λQ R p q k l c d f o=>?_;have m:(P++Q).length=Z.length:=by rw[ao,f,←c,←d];exact Y6 j b
 rw[c,d];clear h i j b g c d;subst k l;rw[abe,adA,adA];exact DA e m f o
theorem BU(hd:(g=.none/\B=[])\/∃T o n,g=.ref T/\s.heap.get? T=some o/\o.data=.seq B.toArray n)(b:(as.map (·.arg)).Nodup)(d:Z.length<=(as.map (·.arg)).length)(i:(as.map (·.arg)).length<=Z.length+B.length)(G:B.length<=(as.map (·.arg)).length):BindsTo s ⟨n,q,⟨[],as,none,[],U,none,X⟩,J,L,N,O,g,R,j,m,p,t,z,C⟩ ⟨Z,[]⟩ ((as.map (·.arg)).zip (Z++B.drop (Z.length+B.length-(as.map (·.arg)).length))):=by
 intro M A E Q I;have f:=Ej b d i G;refine bw (P:=λr:ae (dw al)=>(r.getD #[]).toList=B) (y:=(as.map (·.arg)).zip (Z++B.drop (Z.length+B.length-(as.map (·.arg)).length))) (λh=>hd.elim (λhd=>hd.1▸aQ (h none hd.2.symm)) λhd=>WJ hd λT o k e H hs=>e▸wpAny_seqItems H hs (h _ rfl)) (λr _ h=>aam.mpr d (aU (bY.mp h).1)) (λr c h=>?_) (λr c=>?_) (λ_ _=>cL) λr c=>?_;.subst c;exact cL ((ag (λl=>!List.isEmpty l) f.1).symm.trans h)
 .subst c;exact f.2
 .refine aQ ?_;show Q (List.filterMap _ ((as.map (·.arg))++[])) s;rw[aL,yt b (by rw[ao,dv];exact ZH d i)];exact I
theorem IZ{p:Arguments}(i:p.posonlyargs=[])(j:p.vararg=none)(k:p.kwonlyargs=[])(l:p.kwarg=none):p=⟨[],p.args,none,[],p.kw_defaults,none,p.defaults⟩:=by induction p using Arguments.casesOn with|mk a b c d e f g=>exact sZ (P:=λz=>abK a b c d e f g=⟨z,b,none,[],e,none,g⟩) i (sZ (P:=λz=>abK a b c d e f g=⟨a,b,z,[],e,none,g⟩) j (sZ (P:=λz=>abK a b c d e f g=⟨a,b,c,z,e,none,g⟩) k (sZ (P:=λz=>abK a b c d e f g=⟨a,b,c,d,e,z,g⟩) l rfl)))
theorem rU(k:M.params.args.map (·.arg)=nms)(e:M.params.posonlyargs=[])(f:M.params.vararg=none)(b:M.params.kwonlyargs=[])(c:M.params.kwarg=none)(hd:(M.defaults=.none/\B=[])\/∃T o n,M.defaults=.ref T/\s.heap.get? T=some o/\o.data=.seq B.toArray n)(d:nms.Nodup)(g:Z.length<=nms.length)(i:nms.length<=Z.length+B.length)(j:B.length<=nms.length):BindsTo s M ⟨Z,[]⟩ (nms.zip (Z++B.drop (Z.length+B.length-nms.length))):=by subst k;exact sY (P:=λp=>BindsTo s {M with params:=p} ⟨Z,[]⟩ _) (IZ e f b c) (BU hd d g i j)
noncomputable def vx:ab Str->bp|[]=>true|x::r=>(r.all λy=>!PySem.W.Fast.sEq y x)&&vx r
theorem Ck:∀{l:ab Str},vx l=true->l.Nodup:=by intro l;induction l with|nil=>intro _;exact .nil|cons x r ih=>intro h;unfold vx at h;rw[aI]at h;rw[a9];refine⟨λb=>?_,ih h.2⟩;have:=aA.mp h.1 x b;rw[PySem.W.Fast.sEq_iff.mpr rfl]at this;exact fE this
noncomputable def Bn:ab Str->ab Str->bp|[],_=>true|_::_,[]=>false|x::r,y::t=>PySem.W.Fast.sEq x y&&Bn r t
theorem xT:∀{a b:ab Str},Bn a b=true->∃c,b=a++c|[],b,_=>⟨b,rfl⟩|_::_,[],h=>by exact fE h|x::r,y::t,h=>by unfold Bn at h;rw[aI,PySem.W.Fast.sEq_iff]at h;obtain⟨c,rfl⟩:=xT h.2;exact⟨c,by rw[h.1];rfl⟩
noncomputable def UB(r:qF):bp:=(ew r.il).posonlyargs.isEmpty&&(ew r.il).vararg.isNone&&(ew r.il).kwonlyargs.isEmpty&&(ew r.il).kwarg.isNone&&(match(ef r.il).kind with|.function=>true|_=>false)&&!(ef r.il).isGenerator&&!(ef r.il).isCoroutine&&vx ((ef r.il).names.map (·.1))&&((ef r.il).names.all λp=>match p.2with|.free=>false|_=>true)&&Bn (fB (ew r.il)) (f9 (ef r.il))&&aga r.QZ.length (fB (ew r.il)).length
structure BV(r:qF):Prop where
 po:(ew r.il).posonlyargs=[]
 va:(ew r.il).vararg=none
 ko:(ew r.il).kwonlyargs=[]
 kw:(ew r.il).kwarg=none
 kind:(ef r.il).kind=.function
 gen:(ef r.il).isGenerator=false
 co:(ef r.il).isCoroutine=false
 nd:((ef r.il).names.map (·.1)).Nodup
 fr:∀p∈(ef r.il).names,p.2≠.free
 pf:∃c,f9 (ef r.il)=fB (ew r.il)++c
 dl:r.QZ.length<=(fB (ew r.il)).length
theorem PJ(h:UB r=true):BV r:=by
 unfold UB at h;simp only[aI]at h;obtain⟨⟨⟨⟨⟨⟨⟨⟨⟨⟨f,g⟩,i⟩,j⟩,d⟩,k⟩,l⟩,m⟩,o⟩,b⟩,c⟩:=h;refine⟨by simpa using f,by simpa using g,by simpa using i,by simpa using j,?_,by simpa using k,by simpa using l,Ck m,λp q e=>?_,xT b,bl c⟩;.revert d;generalize(ef r.il).kind=z;intro d;rcases z with⟨⟩<;>first|rfl|exact fE d
 .have:=aA.mp o p q;rw[e]at this;exact fE this
noncomputable def V9:bp:=rO.all λp=>UB p.2
theorem I7:V9=true:=by kernel_rfl
theorem JI:rO.map (λp=>(p.1,p.2.il))=Vr.map λq=>(q.1,q.2.1):=by kernel_rfl
noncomputable def Yo(d:ab D)(v:al):bp:=match v with|.none=>d.isEmpty|v=>D1 6 (.tup d) v
theorem Rr(h:Yo d v=true):(v=.none/\d=[])\/D1 6 (.tup d) v=true:=by rcases v with⟨⟩<;>first|exact .inr h|exact .inl ⟨rfl,List.isEmpty_iff.mp h⟩
theorem OV:((rO.zip Vr).all λz=>Yo z.1.2.QZ z.2.2.2.2.2.2.1)=true:=by kernel_rfl
theorem wN{i j l:Type}{f:i->l}{g:j->l}:∀{as:ab i}{d:ab j},as.map f=d.map g->∀a∈as,∃b,(a,b)∈as.zip d/\f a=g b/\b∈d|[],_,_,_,h=>kn h|_::_,[],e,_,_=>xN e|a::as,b::d,e,x,h=>(ah.mp h).elim (λh=>⟨b,h▸.head _,h▸(br e).1,.head _⟩) λh=>(wN (br e).2 x h).elim λc k=>⟨c,.tail _ k.1,k.2.1,.tail _ k.2.2⟩
noncomputable def A9(P:bo):ab cN:=match(BN P).data with|.dict es _=>es.toList|_=>[]
theorem Hu(P:bo):vn (BN P)=true:=by kernel_rfl
theorem LU(P:bo):oP (A9 P)=true:=by kernel_rfl
theorem Lh(P:bo):gc (A9 P) (aa "sys.recursionlimit")=none:=by kernel_rfl
set_option tactic.hygienic true in theorem EV(P:bo):∃ep,(BN P).data=.dict (A9 P).toArray ep:=by
 have h:=Hu P;unfold vn at h;unfold A9;refine(let γ:Prop:=_;(?_:γ));split at h;.rename_i es ep e;exact⟨ep,(sY e rfl)⟩
 .exact fE h
section
variable{w:bN}{n:Nat}{x y z:Sx}{wm:Nat}{P P':b8->Prop}{A:bH}{E:al->aM->Prop}{Y:Cx}{J:Env}{N:cg}{O:ab Str}{l:Loc}
theorem HG(T:fm w h):h.NoLimit:=by obtain⟨b,e⟩:=EV w.params;refine i12 _ (G8 (a:=ab0) (T.objs (2,BN w.params) (BA _ ?_)) e (LU _)) (Lh _);unfold rS;simp
theorem ks:∀(b:ab (Str×ada))(k:Nat)(c:ab (Str×b8)),(aa3 k b c).map (·.1)=((b.filter λp=>p.2==.cell).map (·.1)).reverse++c.map (·.1):=by
 intro b;induction b with
 |nil=>intro _ _;simp[aa3]|cons d r ih=>
  rcases d with⟨f,e⟩;intro k c;unfold aa3;by_cases h:(e==acA)=true;.rw[aS h,ih,cV,aS h];simp
  .rw[aX h,ih,cV,aX h]
theorem j8{c:Type}:∀{l:ab (Str×c)}{nm:Str}{v:c},(l.map (·.1)).Nodup->(nm,v)∈l->l.lookup nm=some v
 |(k,u)::r,nm,v,b,h=>by
  rw[aH,a9]at b;refine sY bu ?_;rcases ah.mp h with q|q;.clear h;obtain⟨rfl,rfl⟩:=pJ q.symm;simp
  .have:(nm==k)=false:=by refine aak.mpr ?_;rintro rfl;exact b.1 (af.mpr ⟨_,q,rfl⟩)
   refine sY this ?_;exact j8 b.2 q
theorem vU(h:nm∈f9 N):(nm,NameKind.local)∈N.names\/(nm,acA)∈N.names:=by obtain⟨⟨a,k⟩,b,rfl⟩:=af.mp h;clear h;obtain⟨b,c⟩:=aO.mp b;rcases k with⟨⟩<;>first|exact .inl b|exact .inr b|exact fE c
theorem mY(h:(N.names.map (·.1)).Nodup):(f9 N).Nodup:=by unfold f9;exact acq (abB _ aa2) h
theorem Co{f:Str->ae ada}:∀(nms:ab Str)(b:ab al)(m:Str->ae al),nms.Nodup->∀{j:Nat}{nm:Str}{u:al},nms[j]?=some nm->b[j]?=some u->f nm=some .local->ago f (nms.zip b) m nm=some u:=by
 have c:∀(nms:ab Str)(b:ab al)(m:Str->ae al)(nm:Str),nm∉nms->ago f (nms.zip b) m nm=m nm:=by
  intro nms;induction nms with
  |nil=>intro b m nm _;simp[ago]|cons a r ih=>
   intro b m nm h;induction b using aW with
   |nil=>simp[ago]|cons u b=>
    simp only[cK];unfold ago;rw[ih _ _ _ λq=>h (aD _ q)];have:nm≠a:=λe=>h (e▸aF);split;.exact aX this
    .rfl
 intro nms;induction nms with|nil=>intro b m _ j nm u h;exact ec h|cons a r ih=>intro b m i j nm u g d k;rw[a9]at i;induction b using aW with|nil=>exact ec d|cons v b=>simp only[cK];unfold ago;induction j with|zero=>simp at g d;subst g;subst d;rw[c _ _ _ _ i.1,aS k,aS rfl]|succ j=>exact ih b _ i.2 (by simpa using g) (by simpa using d) k
theorem Cc{f:Str->ae ada}:∀(nms:ab Str)(b:ab al)(m:Str->ae al),nms.Nodup->∀{j:Nat}{nm:Str}{u:al},nms[j]?=some nm->b[j]?=some u->f nm≠some .local->agr f (nms.zip b) m nm=some u:=by
 have c:∀(nms:ab Str)(b:ab al)(m:Str->ae al)(nm:Str),nm∉nms->agr f (nms.zip b) m nm=m nm:=by
  intro nms;induction nms with
  |nil=>intro b m nm _;simp[agr]|cons a r ih=>
   intro b m nm h;induction b using aW with
   |nil=>simp[agr]|cons u b=>
    simp only[cK];unfold agr;rw[ih _ _ _ λq=>h (aD _ q)];have:nm≠a:=λe=>h (e▸aF);split;.rfl
    .exact aX this
 intro nms;induction nms with|nil=>intro b m _ j nm u h;exact ec h|cons a r ih=>intro b m i j nm u g d k;rw[a9]at i;induction b using aW with|nil=>exact ec d|cons v b=>simp only[cK];unfold agr;induction j with|zero=>simp at g d;subst g;subst d;rw[c _ _ _ _ i.1,aX k,aS rfl]|succ j=>exact ih b _ i.2 (by simpa using g) (by simpa using d) k
theorem eC.get{c f:Type}{R:c->f->Prop}{as:ab c}{d:ab f}(h:eC R as d){j:Nat}{a:c}(e:as[j]?=some a):∃b,d[j]?=some b/\R a b:=by
 revert j a;suffices k:∀(j:Nat)(a:c),as[j]?=some a->∃b,d[j]?=some b/\R a b from@k;refine h.ind (λ_ _ e=>ec e) λ{_ b _ _}p _ ih j y e=>?_;rcases j with _|j;.exact so e (i12 b rfl p)
 .exact ih j y e
theorem HC(K:BV r)(V':M.scope=ef r.il)(Z5:M.globals=3)(Z7:M.builtins=0)(R:Rel w x)(hu:eC (Rv w x) U us)(T:U.length=(fB (ew r.il)).length)(C:InCallC x.s (c7 M x.sz f).locals (ago (c7 M x.sz f).kindOf ((fB (ew r.il)).zip us) λ_=>none) (c7 M x.sz f).cells (agr (c7 M x.sz f).kindOf ((fB (ew r.il)).zip us) λ_=>none) j):∃y,y.s=j/\y.H=x.H/\Rel w y/\(∀wm,Le wm fP x y)/\fU w y (c7 M x.sz f) (ef r.il) (f9 (ef r.il)) (U.map some++bJ ((f9 (ef r.il)).length-U.length) none)/\∀b,jL (c7 M x.sz f) b->x.s.heap.get? b=none:=by
 refine(let γ:Prop:=_;(?_:γ));obtain⟨I,L,Zu,Yg⟩:=C;obtain⟨⟨Zp,tk,hs⟩,NT,Q,χ⟩:=I;have g:=λwm=>iC (wm:=wm) (P:=fP) (s':=j) (as:=[]) R Q ((sY hs R.gens)) ((sY hs rfl)) (λb hb=>by exact kn hb);have d:(c7 M x.sz f).cells=aa3 (x.sz+1) (ef r.il).names []:=by show aa3 (x.sz+1) M.scope.names []=_;rw[V']
 have G:∀m,(c7 M x.sz f).kindOf m=(ef r.il).names.lookup m:=by intro m;show M.scope.names.lookup m=_;rw[V']
 have B:∀b,x.sz<=b->x.s.heap.get? b=none:=λb hb=>by cases e:x.s.heap.get? b with|none=>rfl|some o=>exact ax (Heap.lt_size e) (aam.mpr hb)
 have fresh:∀b,jL (c7 M x.sz f) b->x.s.heap.get? b=none:=by
  rintro b(rfl|⟨p,hp,rfl⟩);.exact B _ (aV _)
  .exact B _ (aaI (Yg p.1 p.2 hp))
 have off:∀b,jL (c7 M x.sz f) b->Off x (x.grow j []) b:=λb hb=>Off.new (wm:=0) (P:=fP) .refl R (fresh b hb) Q;obtain⟨c,a⟩:=K.pf;have nd:=mY K.nd;have idx:∀{m i},ey (f9 (ef r.il)) m=some i->∀{v},(U.map some++bJ ((f9 (ef r.il)).length-U.length) none)[i]?=some (some v)->U[i]?=some v/\(fB (ew r.il))[i]?=some m:=by
  intro m i hi v X;have XU:i<U.length:=by
   rcases dp i U.length with q|q;.exact q
   .rw[bj (by simpa using q),abp]at X;split at X<;>cases X
  rw[aT (by simpa using XU)]at X;refine⟨?_,?_⟩;.rw[bV]at X;refine j0 X λv' Z t=>?_;refine so t ?_;exact Z
  .have:=kL hi;rw[a,aT ((sZ T XU))]at this;exact this
 have XJ:(fB (ew r.il)).Nodup:=by rw[a]at nd;exact(a7.mp nd).1
 refine i12 (x.grow j []) rfl ⟨rfl,(g 0).1,λwm=>(g wm).2,⟨V',K.kind,Z5,Z7,?_,⟨_,NT,λm i v Z t h3=>?_⟩,λm i Z t=>?_,λm UQ cc Z t=>?_,?_,λp hp=>?_⟩,fresh⟩;.
  have:U.length<=(f9 (ef r.il)).length:=by rw[a,ao,T];lia
  simp;lia
 .refine lJ (idx Z h3) λg1 g2=>?_;refine d9 (hu.get g1) λu g3 g4=>?_;exact i12 u (Co _ _ _ XJ g2 g3 (by rw[G];exact t)) (g4.le (g 0).2)
 .rcases t with t|t;.
   have UZ:m∈(aa3 (x.sz+1) (ef r.il).names []).map (·.1):=by rw[ks];rw[bD,aL,ac4];exact af.mpr ⟨(m,.cell),aO.mpr ⟨mem_of_lookup t,rfl⟩,rfl⟩
   refine d9 (af.mp UZ) λz4 hm hk=>?_;obtain⟨k,cc⟩:=z4;dsimp only at hk;obtain rfl:=hk.symm;obtain⟨c',Yi⟩:=jt hm;refine jQ c' _ ⟨by rw[d];exact Yi,L _ _ (by rw[d];exact Yi),λv X=>?_⟩;refine lJ (idx Z X) λg1 g2=>?_;refine d9 (hu.get g1) λu g3 g4=>?_;exact i12 u (Cc _ _ _ XJ g2 g3 (by rw[G,t];simp)) (g4.le (g 0).2)
  .exact ax rfl (K.fr _ (mem_of_lookup t))
 .exact name_of_addr Zu (mem_of_lookup Z) (mem_of_lookup t)
 .exact⟨(off _ (.inl rfl)).2.1,(off _ (.inl rfl)).2.2⟩
 .have o:=off p.2 (.inr ⟨p,hp,rfl⟩);refine⟨o.2.1,o.2.2,aao (Yg p.1 p.2 hp),?_⟩;have hl:(c7 M x.sz f).cells.lookup p.1=some p.2:=by refine j8 ?_ hp;rw[d,ks];simp only[bD,aL];refine aab (λh=>abu h) (List.pairwise_reverse.mpr (aab (λh=>abu h) ?_))|>λh=>h.imp λq=>q.symm;exact acq (abB _ aa2) K.nd
  exact Oj _ (L _ _ hl)
end
section
variable{w:bN}{n:Nat}{x y z:Sx}{wm:Nat}{P P':b8->Prop}{A:bH}{E:al->aM->Prop}{Y:Cx}{J:Env}{N:cg}{O:ab Str}{l:Loc}
theorem Jc:∀p∈rO,BV p.2:=λp b=>PJ (aA.mp (show(rO.all λp=>UB p.2)=true from I7) p b)
theorem F7{l:ab (Nat×qF)}(h:(l.find? λp=>aal p.1 f).map (·.2)=some r):(f,r)∈l:=by refine d9 (cw.mp h) λp b c=>?_;have e:=aaf b;have d:aal p.1 f=true:=abU (p:=λp:Nat×qF=>aal p.1 f) b;refine sZ (bP d) ?_;refine sZ c ?_;exact e
theorem NI(h:Pk f=some r):BV r/\∃b c i d m,(f,Rz r.il b c i d m)∈vc/\((d=.none/\r.QZ=[])\/D1 6 (.tup r.QZ) d=true):=by have g:(f,r)∈rO:=F7 h;refine j6 (wN JI _ g) λq k e j=>⟨Jc _ g,q.2.2.1,q.2.2.2.1,q.2.2.2.2.1,q.2.2.2.2.2.1,q.2.2.2.2.2.2,?_,Rr (aA.mp OV _ k)⟩;rw[show f=q.1from ag Prod.fst e,show r.il=q.2.1from ag Prod.snd e];exact af.mpr ⟨q,j,rfl⟩
theorem Qf(T:fm w x.g)(R:Rel w x)(h:(b=.none/\Z=[])\/D1 6 (.tup Z) b=true):∃B:ab al,fh w x.g Z B/\((b=.none/\B=[])\/∃T o n,b=.ref T/\x.s.heap.get? T=some o/\o.data=.seq B.toArray n):=by
 rcases h with⟨rfl,rfl⟩|h;.exact i12 [] .nil (.inl ⟨rfl,rfl⟩)
 .have r:=FJ (w:=w) (λp f=>T.objs _ (HX _ f)) 6 _ _ h;cases r with|@tup a U _ c i d j=>obtain⟨o,e,m,k,hd⟩:=c;exact i12 U.toList d (.inr ⟨a,o,k,rfl,R.sub _ _ e,hd⟩)
theorem fh.drop(h:fh w g Z U):∀k,fh w g (Z.drop k) (U.drop k):=h.ind (λk=>by rcases k with _|k<;>exact .nil) λa q r k=>by
 rcases k with _|k;.exact .cons a q
 .exact r k
theorem fh.ZP(h:fh w x.g Z U):eC (Rv w x) (Z.map .d) U:=h.ind .nil λa _ r=>.cons (.d a) r
noncomputable def Q8(b:bp)(k:Nat)(f:Fl)(H:Hp):ae (V×Hp):=match b with|true=>(match f with|.er=>some (.d .fS,H)|_=>none)|false=>(match f with|.er=>some (.d .fS,H.take k)|.ret v=>(toD v H).map λx=>(.d x.1,x.2.take k)|_=>none)
theorem NS{b:bp}{B:Fl}{t:Flow}{f:Hp}{v:V}{R:al->aM->Prop}(i:Rel w x)(T:wm<=x.H.length)(S:Rel w z)(L:Le (if b then wm else x.H.length) fP x z)(r:Ih w z B t)(e:Q8 b x.H.length B z.H=some (v,f))(q:∀y u,Rel w y->Le wm fP x y->y.H=f->Rv w y v u->R u y.s):R (match(generalizing:=false)t with|.ret v=>v|_=>.none) z.s:=by
 have fin:∀{d:D}{c:Hp}{u:al}{C:Sx},C.s=z.s->Rel w C->Le x.H.length fP x C->C.H=c->Rd w C.g d u->(V.d d,c.take x.H.length)=(v,f)->R u z.s:=λ{d c u C}j k m o p g=>ph (DT (wm:=wm) i k m T) λI G U=>sZ (P:=λs=>R _ s) j (q (C.cut x.H.length) _ I G ((ag (ae8 x.H.length) o).trans (pJ g).2) ((pJ g).1▸U _ _ rfl (.d p)));induction b using a5 with
 |true=>induction r with|er=>exact q z .none S L (CC e).2 ((CC e).1▸.d .fS)|_=>exact ec e
 |false=>induction r with|er=>exact fin rfl S L rfl .fS (sI e)|cnt=>exact ec e|brk=>exact ec e|ret X=>exact yp e λd c M Q=>Rp (FN (wm:=x.H.length) (P:=fP) S X M) λC j k m o p=>fin j k (Le.trans L m) o p Q
theorem Ao(K:BV r)(h:nm∈fB (ew r.il)):(ef r.il).names.lookup nm=some .local\/((ef r.il).names.lookup nm=some .cell/\((aa3 k (ef r.il).names []).lookup nm).isSome=true):=nF K.pf λc d=>(vU (N:=ef r.il) (nm:=nm) (d▸bk _ h)).elim (λq=>.inl (j8 K.nd q)) λq=>.inr ⟨j8 K.nd q,by
 have b:nm∈(aa3 k (ef r.il).names []).map (·.1):=by rw[ks,bD,aL,ac4];exact af.mpr ⟨(nm,.cell),aO.mpr ⟨q,rfl⟩,rfl⟩
 exact d9 (af.mp b) λp f e=>e▸nF (jt (nm:=p.1) (c:=p.2) f) λc h=>by rw[h];rfl⟩
theorem PV(ih:vQ w k (nQ k))(K:BV r)(p:M.scope=ef r.il)(o:M.globals=3)(m:M.builtins=0)(b:rR A (k+1))(i:Rel w x)(G:wm<=x.H.length)(hu:eC (Rv w x) U I)(d:U.length=(fB (ew r.il)).length)(g:d5 (EY r.NV r.il) ⟨nQ k,if r.init then wm else x.H.length⟩ (U.map some++bJ ((f9 (ef r.il)).length-U.length) none) x.H=some (fl,lf,Q))(e:Q8 r.init x.H.length fl Q=some (v,L))(q:∀y u,Rel w y->Le wm fP x y->y.H=L->Rv w y v u->R (.ok (.ret u)) y.s)(C:InCallC x.s (c7 M x.sz f).locals (ago (c7 M x.sz f).kindOf ((fB (ew r.il)).zip I) λ_=>none) (c7 M x.sz f).cells (agr (c7 M x.sz f).kindOf ((fB (ew r.il)).zip I) λ_=>none) j):abR (aP pw w) A (.func (ng r.il) (c7 M x.sz f)) R j:=by refine Sz (HC K p o m i hu d C) λy e1 B Z T a fr=>?_;subst e1;have c:Ef (A.deeper (c7 M x.sz f)) k:=⟨b.hh,by have r1:=b.depth;show A.depth+1+10*k+10<1000;omega,by have r2:=b.units;show A.units+3+100*k+300<abN;omega⟩;have t:(if r.init then wm else x.H.length)<=y.H.length:=sY (P:=λH:Hp=>(if r.init then wm else x.H.length)<=H.length) B (if h:r.init=true then ar (b4 (aS h)) G else b4 (aX h));exact codeAny_func (rj (λs _=>(Qp (ef r.il) (f9 (ef r.il)) r.NV 60 s).ok w _) ⟨c,ih,t,Z,a⟩ (sY B g) λz f' az X gz rz=>NS (R:=λu s=>R (.ok (.ret u)) s) i G az.rel ((Le.trans ((T _).weak λ_ h=>h.elim) X).D5 fr) rz (gz▸e) q)
theorem Dk(k:Nat):vQ w k (nQ k):=by induction k with|zero=>exactλ_ _ _ e _ _=>ec e|succ k ih=>intro A wm f args v H' x Z R m d hw e hv q;refine vj e λr hr e=>lJ (NI hr) λK y1=>Yv y1 λi j cd dV pm H X=>vj e λU g e5=>Xd e5 λfl lf Hf L e6=>?_;refine if1 g λhc g=>d9 (Qf d.top d X) λB G T=>?_;have Q:=d.top.keeps d.sub;have h:=hv.length;have t:=G.length;have o:=rU (s:=x.s) (M:=fnOf (aa i) (aa j) (ew r.il) (ng r.il) (ef r.il) dV .none .none pm none (.ref cd) .none) (Z:=Z) (B:=B) (nms:=fB (ew r.il)) rfl K.po K.va K.ko K.kw T (nF K.pf λc Ys=>(a7.mp (Ys▸mY K.nd)).1) (h▸hc.1) (h▸t▸hc.2) (t▸K.dl);refine codeAny_call_function (aj (aG _ _) (aj (aG _ _) m.depth)) (Q.objs (f,Rz r.il i j cd dV pm) (MY _ H)) rfl K.co K.gen rfl (Q.codes _ H) (o _ _ _ _ ?_);refine wpAny_newFunctionEnv_cells K.kind (λp hp=>Ao K (adk (a:=p.1) (b:=p.2) hp).1) λJ he Z' C=>?_;have hu:eC (Rv w x) U (Z++B.drop (Z.length+B.length-(fB (ew r.il)).length)):=sI g▸h▸t▸hv.append (G.drop _).ZP;have I:U.length=(fB (ew r.il)).length:=sI g▸(by simp;omega);subst he;exact⟨(HG Q).keeps C.toInCall.keep,PV ih K rfl rfl rfl m d hw hu I L e6 q C⟩
end
noncomputable def PE:Prop:=∀O:ab Int,O.length<=63->∃b,nQ 60 0 1060 [.d (.lst (O.map .int))] []=some (.d (.bool true),b)
theorem D4(h:kG U O):fh w g (O.map .int) U:=kG.rec (motive:=λU O _=>fh w g (O.map .int) U) .nil (λ_ r=>.cons (.int _ _) r) h
theorem DC(M:PE):yM:=by
 intro w s l U n o O T t B p hd z A;obtain⟨C,m⟩:=M O A;have r:=D4 (w:=w) (g:=s.heap) z;have f:O.length=U.size:=by simpa using r.length
 have R:Rel w ⟨s.heap,[],[],s⟩:=⟨λ_ _ e=>e,T,rfl,λi c a h _=>by simp at h,λi j a h _=>by simp at h,t⟩;refine abZ (Dk 60 (x:=⟨s.heap,[],[],s⟩) ⟨rfl,by decide,by decide⟩ R (bB _) m (.cons (.d (.lst ⟨o,B,p,n,hd⟩ (by rw[dr,←f];lia) r)) .nil) λy u S L e k=>?_);cases k with|d k=>cases k;refine⟨rfl,λb o e=>L.keep b o e (λ⟨i,c,h,_⟩=>by simp at h) (λq=>q),L.os,S.gens⟩
end Mine
end
noncomputable section
open PySem PySem.W
namespace Mine
inductive Aw where|vh(v:V)(H:Hp)|v(v:V)|d(x:D)|b(b:bp)|dh(x:D)(H:Hp)|lh(Z:ab D)(H:Hp)|fl(f:Fl)(l:Loc)(H:Hp)|h(H:Hp)
noncomputable abbrev Ds:=ab (Nat×Aw)
noncomputable def DJ:Aw->ae (V×Hp)|.vh v H=>some (v,H)|_=>none
noncomputable def gv:Aw->ae V|.v v=>some v|_=>none
noncomputable def gd:Aw->ae D|.d v=>some v|_=>none
noncomputable def gb:Aw->ae bp|.b v=>some v|_=>none
noncomputable def Zy:Aw->ae (D×Hp)|.dh v H=>some (v,H)|_=>none
noncomputable def Ug:Aw->ae (ab D×Hp)|.lh v H=>some (v,H)|_=>none
noncomputable def ZM:Aw->ae (Fl×Loc×Hp)|.fl f l H=>some (f,l,H)|_=>none
noncomputable def gh:Aw->ae Hp|.h v=>some v|_=>none
noncomputable def go{b:Type}(x:ae b)(K:b->Prop):Prop:=match x with|some r=>K r|none=>True
noncomputable def ask{b:Type}(g:Aw->ae b)(x:ae b)(B:Ds)(K:b->Ds->Prop):Prop:=match B with|[]=>go x λr=>K r []|(n,a)::B=>match n with|0=>go (g a) λr=>x=some r->K r B|n+1=>go x λr=>K r ((n,a)::B)
theorem nP{K:b->Prop}(h:∀r,x=some r->K r):go x K:=by induction x using b5 with|none=>exact bL|some r=>exact h r rfl
theorem eY{K:c->Ds->Prop}(h:∀r b,x=some r->K r b):ask g x B K:=by induction B using aW with|nil=>exact nP λr e=>h r _ e|cons p B=>obtain⟨n,a⟩:=p;induction n with|zero=>exact nP λr _ e=>h r _ e|succ n=>exact nP λr e=>h r _ e
theorem bE{b c:Type}{o:ae b}{f:b->ae c}{a:b}{r:c}(h:o=some a)(k:f a=some r):o.bind f=some r:=h▸k
theorem mE{b c:Type}{o:ae b}{f:b->c}{a:b}{r:c}(h:o=some a)(k:f a=r):o.map f=some r:=h▸ag some k
structure BE where
 run:ME
 T:Cx->Loc->Hp->Ds->(V->Hp->Ds->Prop)->Prop
 ok:∀{c l H B K},(∀v H' IW,run c l H=some (v,H')->K v H' IW)->T c l H B K
structure BT where
 run:MT
 T:Cx->Loc->Hp->Ds->(bp->Hp->Ds->Prop)->Prop
 ok:∀{c l H B K},(∀v H' IW,run c l H=some (v,H')->K v H' IW)->T c l H B K
structure BI where
 run:MI
 T:Cx->Loc->Hp->Ds->(ab D->Hp->Ds->Prop)->Prop
 ok:∀{c l H B K},(∀v H' IW,run c l H=some (v,H')->K v H' IW)->T c l H B K
structure BS where
 run:MS
 T:Cx->Loc->Hp->Ds->(Fl->Loc->Hp->Ds->Prop)->Prop
 ok:∀{c l H B K},(∀f l' H' IW,run c l H=some (f,l',H')->K f l' H' IW)->T c l H B K
section
variable{c:Cx}{l:Loc}{H:Hp}{B:Ds}
noncomputable def TD(m:BE)(c:Cx)(l:Loc)(H:Hp)(B:Ds)(K:D->Hp->Ds->Prop):Prop:=m.T c l H B λv H B=>ask Zy (toD v H) B λr B=>K r.1 r.2 B
theorem lG(h:∀v d b,eD m.run c l H=some (v,d)->K v d b):TD m c l H B K:=m.ok λv X e g=>eY λr f i=>h _ _ _ (bE g i)
noncomputable def Rm:ab BE->Cx->Loc->Hp->Ds->(ab D->Hp->Ds->Prop)->Prop|[],_,_,H,B,K=>K [] H B|m::C,c,l,H,B,K=>TD m c l H B λx H B=>Rm C c l H B λZ H B=>K (x::Z) H B
theorem zU:∀{C:ab BE}{H:Hp}{B:Ds}{K:ab D->Hp->Ds->Prop},(∀v d b,Li (C.map BE.run) c l H=some (v,d)->K v d b)->Rm C c l H B K:=by intro C;induction C with|nil=>intro _ _ _ h;exact h _ _ _ rfl|cons m C ih=>intro _ _ _ h;exact lG λx X e g=>ih λZ j f i=>h _ _ _ (bE g (mE i rfl))
noncomputable def QG:ab BE->Cx->Loc->Hp->Ds->(ab V->Hp->Ds->Prop)->Prop|[],_,_,H,B,K=>K [] H B|m::C,c,l,H,B,K=>m.T c l H B λv H B=>ask DJ (ig v H) B λr B=>QG C c l r.2 B λZ H B=>K (r.1::Z) H B
theorem uT:∀{C:ab BE}{H:Hp}{B:Ds}{K:ab V->Hp->Ds->Prop},(∀v d b,mV (C.map BE.run) c l H=some (v,d)->K v d b)->QG C c l H B K:=by intro C;induction C with|nil=>intro _ _ _ h;exact h _ _ _ rfl|cons m C ih=>intro _ _ _ h;exact m.ok λx X e i=>eY λr f j=>ih λZ o g k=>h _ _ _ (bE i (bE j (mE k rfl)))
noncomputable def VN:ab BE->Cx->Loc->Hp->Ds->(ab V->Hp->Ds->Prop)->Prop|[],_,_,H,B,K=>K [] H B|m::C,c,l,H,B,K=>m.T c l H B λv H B=>VN C c l H B λZ H B=>K (v::Z) H B
theorem P8:∀{C:ab BE}{H:Hp}{B:Ds}{K:ab V->Hp->Ds->Prop},(∀v d b,yn (C.map BE.run) c l H=some (v,d)->K v d b)->VN C c l H B K:=by intro C;induction C with|nil=>intro _ _ _ h;exact h _ _ _ rfl|cons m C ih=>intro _ _ _ h;exact m.ok λx X e g=>ih λZ j f i=>h _ _ _ (bE g (mE i rfl))
end
noncomputable section
noncomputable def mT:BE:=⟨tc,λ_ _ _ _ _=>True,λ_=>bL⟩
noncomputable def dN(x:D):BE:=⟨Hj x,λ_ _ H B K=>K (.d x) H B,λh=>h _ _ _ rfl⟩
noncomputable def dM(i:Nat):BE:=⟨u5 i,λ_ l H B K=>go l[i]? λo=>go o λv=>K v H B,λh=>nP λo e=>nP λv b=>h _ _ _ (by simp[u5,e,b])⟩
noncomputable def d8(C:ab BE):BE:=⟨N6 (C.map BE.run),λc l H B K=>Rm C c l H B λZ H B=>K (.d (.tup Z)) H B,λh=>zU λZ X b e=>h _ _ _ (mE e rfl)⟩
noncomputable def fq(C:ab BE):BE:=⟨OQ (C.map BE.run),λc l H B K=>Rm C c l H B λZ H B=>K (.d (.lst Z)) H B,λh=>zU λZ X b e=>h _ _ _ (mE e rfl)⟩
noncomputable def hV(md:Mode)(C:ab BE):BE:=⟨BH md (C.map BE.run),λc l H B K=>Rm C c l H B λZ H B=>ask DJ (mA H (.lst Z md)) B λr B=>K r.1 r.2 B,λh=>zU λZ X b e=>eY λr d f=>h _ _ _ (mE e (sI f))⟩
noncomputable def qy:BE:=⟨Hs,λc l H B K=>ask DJ (mA H (.eH [] false)) B λr B=>K r.1 r.2 B,λh=>eY λr b d=>h _ _ _ d⟩
noncomputable def Hc(k v:BE):BE:=⟨zo k.run v.run,λc l H B K=>TD k c l H B λx H B=>TD v c l H B λy H B=>ask DJ (zR H x y) B λr B=>K r.1 r.2 B,λh=>lG λx X b f=>lG λy j d g=>eY λr e i=>h _ _ _ (bE f (bE g i))⟩
noncomputable def dO(f:Nat)(C:ab BE):BE:=⟨GL f (C.map BE.run),λc l H B K=>QG C c l H B λU H B=>ask DJ (c.call c.wm f U H) B λr B=>K r.1 r.2 B,λh=>uT λZ X b e=>eY λr d g=>h _ _ _ (bE e g)⟩
noncomputable def Pb(cl b:Nat)(C:ab BE):BE:=⟨eNew cl b (C.map BE.run),λc l H B K=>QG C c l H B λU H B=>ask DJ (c.call c.wm b (.ins cl H.length::U) (H++[.ins []])) B λr B=>go (QY r.1) λ_=>K (.ins cl H.length) r.2 B,λh=>uT λZ X d e=>eY λr f g=>nP λ_ i=>h _ _ _ (bE e (bE g (mE i rfl)))⟩
noncomputable def EE(cl b:Nat)(C:ab BE):BE:=⟨NC cl b (C.map BE.run),λc l H B K=>QG C c l H B λU H B=>ask DJ (c.call H.length b (.ins cl H.length::U) (H++[.ins []])) B λr B=>go (QY r.1) λ_=>ask DJ (jf cl H.length r.2) B λr B=>K r.1 r.2 B,λh=>uT λZ X d e=>eY λr f i=>nP λ_ j=>eY λm g k=>h _ _ _ (bE e (bE i (bE j k)))⟩
noncomputable def dQ(o k:BE):BE:=⟨NF o.run k.run,λc l H B K=>o.T c l H B λv H B=>TD k c l H B λx H B=>ask gv (fZ v x H) B λw B=>K w H B,λh=>o.ok λv X b f=>lG λx j d g=>eY λw e i=>h _ _ _ (bE f (bE g (mE i rfl)))⟩
noncomputable def Sm(o:BE)(n:Nat):BE:=⟨G7 o.run n,λc l H B K=>o.T c l H B λv H B=>ask gv (M8 n v) B λw B=>K w H B,λh=>o.ok λv X b e=>eY λw d f=>h _ _ _ (bE e (mE f rfl))⟩
noncomputable def V0(o:BE):BE:=⟨ND o.run,λc l H B K=>o.T c l H B λv H B=>ask gv (OC v) B λw B=>K w H B,λh=>o.ok λv X b e=>eY λw d f=>h _ _ _ (bE e (mE f rfl))⟩
noncomputable def d'(o:BE)(a:Nat):BE:=⟨H9 o.run a,λc l H B K=>o.T c l H B λv H B=>ask gv (ky v a H) B λw B=>K w H B,λh=>o.ok λv X b e=>eY λw d f=>h _ _ _ (bE e (mE f rfl))⟩
theorem Pw(h:RA b=some u):b=true:=by rcases b with⟨⟩;exact ec h;rfl
noncomputable def ed(M:mN)(o:BE)(m:Nat)(es:ab BE):BE:=⟨FU M o.run m (es.map BE.run),λc l H B K=>o.T c l H B λv H B=>ask gb (some (iY M v m H)) B λb B=>go (RA b) λ_=>QG es c l H B λU H B=>ask DJ (fK M c v m U H) B λr B=>K r.1 r.2 B,λh=>o.ok λv X d i=>eY λb e j=>nP λ_ k=>uT λU s f p=>eY λr g q=>h _ _ _ (bE i ((aS ((sI j).trans (Pw k))).trans (bE p q)))⟩
noncomputable def el(R:dE)(a b:BE):BE:=⟨Nj R a.run b.run,λc l H B K=>TD a c l H B λx H B=>TD b c l H B λy H B=>ask gd (fv R x y) B λz B=>K (.d z) H B,λh=>lG λx X e i=>lG λy m f j=>eY λz g k=>h _ _ _ (bE i (bE j (mE k rfl)))⟩
noncomputable def lY(i:Int):BE:=⟨Of i,λ_ _ H B K=>K (.d (.int (-i))) H B,λh=>h _ _ _ rfl⟩
noncomputable def dS(R:afb)(a b:BE):BE:=⟨Oy R a.run b.run,λc l H B K=>TD a c l H B λx H B=>b.T c l H B λy H B=>ask gb (f6 R x y H) B λz B=>K (.d (.bool z)) H B,λh=>lG λx X e i=>b.ok λy m f j=>eY λz g k=>h _ _ _ (bE i (bE j (mE k rfl)))⟩
noncomputable def qo(I:bp)(a:BE):BE:=⟨A4 I a.run,λc l H B K=>a.T c l H B λv H B=>ask gb (some (isNone v !=I)) B λz B=>K (.d (.bool z)) H B,λh=>a.ok λv X e g=>eY λz f i=>h _ _ _ (mE g (ag (λb=>(V.d (.bool b),X)) (sI i)))⟩
noncomputable def TE(m:BE):BT:=⟨tE m.run,λc l H B K=>m.T c l H B λv H B=>ask gb (jn v H) B λb B=>K b H B,λh=>m.ok λv X d f=>eY λb e g=>h _ _ _ (bE f (mE g rfl))⟩
noncomputable def Df(t:BT):BT:=⟨QC t.run,λc l H B K=>t.T c l H B λb H B=>K (!b) H B,λh=>t.ok λb X d e=>h _ _ _ (mE e rfl)⟩
noncomputable def cb(b:bp)(x y:Prop):Prop:=match b with|true=>x|false=>y
theorem Q2{Φ:bp->Prop}(e:Φ b)(h:Φ true->x)(k:Φ false->y):cb b x y:=a5 (motive:=λb=>Φ b->cb b x y) b k h e
noncomputable def F9:ab BT->Cx->Loc->Hp->Ds->(bp->Hp->Ds->Prop)->Prop|[],_,_,H,B,K=>K true H B|t::ts,c,l,H,B,K=>t.T c l H B λb H B=>cb b (F9 ts c l H B K) (K false H B)
theorem KH:∀{ts:ab BT}{H:Hp}{B:Ds}{K:bp->Hp->Ds->Prop},(∀v f e,gM (ts.map BT.run) c l H=some (v,f)->K v f e)->F9 ts c l H B K:=by intro ts;induction ts with|nil=>intro _ _ _ h;exact h _ _ _ rfl|cons t ts ih=>intro _ _ _ h;exact t.ok λb X g d=>Q2 (Φ:=λb=>t.run c l _=some (b,X)) d (λd=>ih λv k i j=>h _ _ _ (bE d j)) λd=>h _ _ _ (bE d rfl)
noncomputable def gi(ts:ab BT):BT:=⟨gM (ts.map BT.run),F9 ts,KH⟩
noncomputable def DP:ab BT->Cx->Loc->Hp->Ds->(bp->Hp->Ds->Prop)->Prop|[],_,_,H,B,K=>K false H B|t::ts,c,l,H,B,K=>t.T c l H B λb H B=>cb b (K true H B) (DP ts c l H B K)
theorem Ja:∀{ts:ab BT}{H:Hp}{B:Ds}{K:bp->Hp->Ds->Prop},(∀v f e,Ce (ts.map BT.run) c l H=some (v,f)->K v f e)->DP ts c l H B K:=by intro ts;induction ts with|nil=>intro _ _ _ h;exact h _ _ _ rfl|cons t ts ih=>intro _ _ _ h;exact t.ok λb X g d=>Q2 (Φ:=λb=>t.run c l _=some (b,X)) d (λd=>h _ _ _ (bE d rfl)) λd=>ih λv k i j=>h _ _ _ (bE d j)
noncomputable def i5(ts:ab BT):BT:=⟨Ce (ts.map BT.run),DP ts,Ja⟩
noncomputable def kA(t:BT)(a b:BE):BE:=⟨Vl t.run a.run b.run,λc l H B K=>t.T c l H B λz H B=>cb z (a.T c l H B K) (b.T c l H B K),λh=>t.ok λz X i d=>Q2 (Φ:=λb=>t.run _ _ _=some (b,X)) d (λd=>a.ok λv g e f=>h _ _ _ (bE d f)) λd=>b.ok λv g e f=>h _ _ _ (bE d f)⟩
noncomputable def Fu:ab BE->Cx->Loc->Hp->Ds->(V->Hp->Ds->Prop)->Prop|[],_,_,_,_,_=>True|m::C,c,l,H,B,K=>m.T c l H B λv H B=>match C with|[]=>K v H B|_::_=>ask gb (jn v H) B λb B=>cb b (Fu C c l H B K) (K v H B)
theorem JF:∀{C:ab BE}{H:Hp}{B:Ds}{K:V->Hp->Ds->Prop},(∀v j f,yP (C.map BE.run) c l H=some (v,j)->K v j f)->Fu C c l H B K:=by intro C;induction C with|nil=>exactλ_=>bL|cons m C ih=>induction C using aW with|nil=>exactλh=>m.ok λb X g e=>h _ _ _ e|cons p C=>exactλh=>m.ok λv X g e=>eY λb i d=>Q2 (Φ:=λb=>jn v X=some b) d (λd=>ih λv o i k=>h _ _ _ (bE e (bE d k))) λd=>h _ _ _ (bE e (bE d rfl))
noncomputable def Oc(C:ab BE):BE:=⟨yP (C.map BE.run),Fu C,JF⟩
noncomputable def Pg:ab BE->Cx->Loc->Hp->Ds->(V->Hp->Ds->Prop)->Prop|[],_,_,_,_,_=>True|m::C,c,l,H,B,K=>m.T c l H B λv H B=>match C with|[]=>K v H B|_::_=>ask gb (jn v H) B λb B=>cb b (K v H B) (Pg C c l H B K)
theorem Qz:∀{C:ab BE}{H:Hp}{B:Ds}{K:V->Hp->Ds->Prop},(∀v j f,OU (C.map BE.run) c l H=some (v,j)->K v j f)->Pg C c l H B K:=by intro C;induction C with|nil=>exactλ_=>bL|cons m C ih=>induction C using aW with|nil=>exactλh=>m.ok λb X g e=>h _ _ _ e|cons p C=>exactλh=>m.ok λv X g e=>eY λb i d=>Q2 (Φ:=λb=>jn v X=some b) d (λd=>h _ _ _ (bE e (bE d rfl))) λd=>ih λv o i k=>h _ _ _ (bE e (bE d k))
noncomputable def T7(C:ab BE):BE:=⟨OU (C.map BE.run),Pg C,Qz⟩
noncomputable def gN(f:Nat)(C:ab BE):BE:=⟨QA f (C.map BE.run),λc l H B K=>VN C c l H B λU H B=>ask gd (iu f U H) B λz B=>K (.d z) H B,λh=>P8 λU X b g=>eY λz e i=>h _ _ _ (bE g (mE i rfl))⟩
noncomputable def fL(m:BE):BI:=⟨N3 m.run,λc l H B K=>m.T c l H B λv H B=>ask Ug (ji v H) B λr B=>K r.1 r.2 B,λh=>m.ok λv X b e=>eY λr d f=>h _ _ _ (bE e f)⟩
noncomputable def la(m:BE):BI:=⟨yF m.run,λc l H B K=>TD m c l H B λx H B=>ask Ug (sF x H) B λr B=>K r.1 r.2 B,λh=>lG λx X b e=>eY λr d f=>h _ _ _ (bE e f)⟩
noncomputable def gy(elt:BE)(tg:Tg)(k:Nat)(j:BI)(cs:ab BT):BE:=⟨sA elt.run tg k j.run (cs.map BT.run),λc l H B K=>j.T c l H B λZ H B=>ask Ug (fa elt.run tg (gM (cs.map BT.run)) c Z (l++bJ k none) H) B λr B=>K (.d (.lst r.1)) r.2 B,λh=>j.ok λZ X b f=>eY λr e g=>h _ _ _ (bE f (mE g rfl))⟩
noncomputable def Og(elt:BE)(tg:Tg)(k:Nat)(j:BI)(cs:ab BT):BE:=⟨pV elt.run tg k j.run (cs.map BT.run),λc l H B K=>j.T c l H B λZ H B=>ask Ug (fa elt.run tg (gM (cs.map BT.run)) c Z (l++bJ k none) H) B λr B=>ask DJ (mA r.2 (.lst r.1 .sh)) B λr B=>K r.1 r.2 B,λh=>j.ok λZ X b f=>eY λr d g=>eY λm e i=>h _ _ _ (bE f (mE g (sI i)))⟩
noncomputable def TQ:ab BS->Cx->Loc->Hp->Ds->(Fl->Loc->Hp->Ds->Prop)->Prop|[],_,l,H,B,K=>K .er l H B|s::G,c,l,H,B,K=>s.T c l H B λf l H B=>match f with|.er=>TQ G c l H B K|f=>K f l H B
theorem xF:∀{l:Loc}{H:Hp}{B:Ds}{K:Fl->Loc->Hp->Ds->Prop},(∀f l' e d,d5 (G.map BS.run) c l H=some (f,l',e)->K f l' e d)->TQ G c l H B K:=by induction G with|nil=>exactλh=>h _ _ _ _ rfl|cons s G ih=>exactλh=>s.ok λf j X g=>Fl.casesOn f (λb=>ih λf o m i k=>h _ _ _ _ (bE b k)) (λb=>h _ _ _ _ (bE b rfl)) (λb=>h _ _ _ _ (bE b rfl)) λ_ b=>h _ _ _ _ (bE b rfl)
noncomputable def wj:BS:=⟨Aa,λ_ _ _ _ _=>True,λ_=>bL⟩
noncomputable def dX(i:Nat)(m:BE):BS:=⟨wL i m.run,λc l H B K=>m.T c l H B λv H B=>K .er (l.set i (some v)) H B,λh=>m.ok λv X b d=>h _ _ _ _ (mE d rfl)⟩
noncomputable def oy(I:ab Nat)(m:BE):BS:=⟨F6 I m.run,λc l H B K=>m.T c l H B λv H B=>go (PU I v l) λl=>K .er l H B,λh=>m.ok λv X b d=>nP λl' e=>h _ _ _ _ (bE d (mE e rfl))⟩
noncomputable def ia(o:BE)(a:Nat)(m:BE):BS:=⟨Bq o.run a m.run,λc l H B K=>m.T c l H B λw H B=>o.T c l H B λv H B=>ask gh (MW c.wm w a v H) B λH B=>K .er l H B,λh=>m.ok λw X b f=>o.ok λv j d g=>eY λk e i=>h _ _ _ _ (bE f (bE g (mE i rfl)))⟩
noncomputable def oY(o k m:BE):BS:=⟨Eo o.run k.run m.run,λc l H B K=>TD m c l H B λx H B=>o.T c l H B λv H B=>TD k c l H B λy H B=>ask gh (IH y x v H) B λH B=>K .er l H B,λh=>lG λx X b g=>o.ok λv q d i=>lG λy s f p=>eY λr e j=>h _ _ _ _ (bE g (bE i (bE p (mE j rfl))))⟩
noncomputable def W2(i:Nat)(R:dE)(m:BE):BS:=⟨OD i R m.run,λc l H B K=>TD (dM i) c l H B λx H B=>TD m c l H B λy H B=>ask gd (P2 R x y) B λz B=>K .er (l.set i (some (.d z))) H B,λh=>lG λx X b g=>lG λy o e j=>eY λz f k=>h _ _ _ _ (bE g (bE j (mE k rfl)))⟩
noncomputable def fx(m:BE):BS:=⟨GO m.run,λc l H B K=>m.T c l H B λv H B=>go (Gy v) λ_=>K .er l H B,λh=>m.ok λv X b d=>nP λ_ e=>h _ _ _ _ (bE d (mE e rfl))⟩
noncomputable def eu(t:BT)(a b:ab BS):BS:=⟨QJ t.run (a.map BS.run) (b.map BS.run),λc l H B K=>t.T c l H B λz H B=>cb z (TQ a c l H B K) (TQ b c l H B K),λh=>t.ok λz X j d=>Q2 (Φ:=λb=>t.run _ _ _=some (b,X)) d (λd=>xF λf k i e g=>h _ _ _ _ (bE d g)) λd=>xF λf k i e g=>h _ _ _ _ (bE d g)⟩
noncomputable def iy(tg:Tg)(j:BI)(b:ab BS):BS:=⟨Oo tg j.run (b.map BS.run),λc l H B K=>j.T c l H B λZ H B=>ask ZM (g' tg (d5 (b.map BS.run)) c Z l H) B λr B=>K r.1 r.2.1 r.2.2 B,λh=>j.ok λZ X d f=>eY λr e g=>h _ _ _ _ (bE f g)⟩
noncomputable def dY(m:BE):BS:=⟨PZ m.run,λc l H B K=>m.T c l H B λv H B=>K (.ret v) l H B,λh=>m.ok λv X b d=>h _ _ _ _ (mE d rfl)⟩
noncomputable def EK:BS:=⟨EC,λc l H B K=>K (.ret (.d .fS)) l H B,λh=>h _ _ _ _ rfl⟩
noncomputable def RQ:BS:=⟨Pr,λc l H B K=>K .cnt l H B,λh=>h _ _ _ _ rfl⟩
end
noncomputable def v9:D:=(.tup [(.tup [(.int 1),(.str (aa "any"))]),(.tup [(.int 1),(.str (aa "unknown"))]),(.tup [(.int 1),(.str (aa "never"))]),(.tup [(.int 1),(.str (aa "void"))]),(.tup [(.int 1),(.str (aa "undefined"))]),(.tup [(.int 1),(.str (aa "null"))]),(.tup [(.int 1),(.str (aa "string"))]),(.tup [(.int 1),(.str (aa "number"))]),(.tup [(.int 2),(.int 0),(.int 0)]),(.tup [(.int 2),(.int 1),(.int 0)]),(.tup [(.int 1),(.str (aa "object"))]),(.tup [(.int 8),(.tup []),(.tup []),(.tup []),(.tup []),(.tup []),(.int 0)]),(.tup [(.int 6),(.tup [(.int 8),(.int 9)])]),(.tup [(.int 1),(.str (aa "error"))]),(.tup [(.int 2),(.int 0),(.int 1)]),(.tup [(.int 2),(.int 1),(.int 1)])])
noncomputable def tI:D:=(.tup [(.int 2),(.int 3),(.int 4),(.int 5),(.int 8)])
noncomputable def tM:D:=(.tup [(.int 8),(.int 9),(.int 11),(.int 12),(.int 13)])
noncomputable def mU:D:=(.eH [(.int 3),(.int 4),(.int 5),(.int 6),(.int 7),(.int 10)] [(.int 6),(.int 5),(.int 4),(.int 1),(.int 2),(.int 7)])
noncomputable def u9:D:=(.tup [(.int 1),(.int 2),(.int 3),(.int 4),(.int 5)])
noncomputable def vW:D:=(.tup [(.int 10),(.int 14),(.int 15),(.int 16),(.int 17),(.int 19)])
noncomputable def rQ:D:=(.tup [(.str (aa "any")),(.str (aa "unknown")),(.str (aa "never")),(.str (aa "void")),(.str (aa "undefined")),(.str (aa "null")),(.str (aa "string")),(.str (aa "number")),(.str (aa "false")),(.str (aa "true")),(.str (aa "object"))])
noncomputable def ff:D:=(.tup [(.str (aa "\"a\"")),(.str (aa "0")),(.str (aa "undefined")),(.str (aa "\"b\"")),(.str (aa "null")),(.str (aa "1")),(.str (aa "string")),(.str (aa "true")),(.str (aa "number")),(.str (aa "false"))])
noncomputable def lb:D:=(.tup [(.str (aa "\"p\"")),(.str (aa "0")),(.str (aa "string")),(.str (aa "\"z\"")),(.str (aa "number")),(.str (aa "\"q\"")),(.str (aa "1"))])
noncomputable def qZ:ab BS:=[eu (TE (dS .In (dM 1) (d' (dM 0) 13))) [dY (dQ (d' (dM 0) 13) (dM 1))] [],dX 2 (gN 200 [(d' (dM 0) 0)]),fx (ed dP (d' (dM 0) 0) 100 [(dM 1)]),oY (d' (dM 0) 13) (dM 1) (dM 2),dY (dM 2)]
noncomputable def lU:ab BS:=[fx (ed dP (dM 0) 111 [(dM 1)])]
noncomputable def wJ:ab BS:=[ia (dM 0) 0 (hV .sh []),ia (dM 0) 13 qy,ia (dM 0) 2 (hV .sh [(dN .fS)]),ia (dM 0) 3 (hV .sh []),ia (dM 0) 4 (hV .sh []),ia (dM 0) 5 (hV .sh []),ia (dM 0) 6 qy,ia (dM 0) 7 qy,ia (dM 0) 8 (dN (.int 0)),ia (dM 0) 9 (dN (.int 0)),iy (.one 1) (fL (dN v9)) lU]
noncomputable def MJ:ab BS:=[dX 4 (gN 200 [(d' (dM 0) 3)]),fx (ed dP (d' (dM 0) 3) 100 [(dM 2)]),fx (ed dP (d' (dM 0) 4) 100 [(dM 3)]),fx (ed dP (d' (dM 0) 5) 100 [(dM 1)]),dY (ed dP (dM 0) 111 [(d8 [(dN (.int 10)),(dM 4)])])]
noncomputable def Ax:ab BS:=[ia (dM 0) 10 (dM 1),ia (dM 0) 16 (dN (.int 0)),ia (dM 0) 17 (dN (.int 200)),ia (dM 0) 18 (dN (.int 40))]
noncomputable def yY:ab BS:=[dY (kA (TE (dM 0)) (el .Mod (ed dP (dM 0) 102 [(dN (.int 0))]) (dM 1)) (dN (.int 0)))]
noncomputable def l8:ab BS:=[eu (TE (dS .In (dM 4) (dM 1))) [dY (fq [(dM 4)])] []]
noncomputable def lS:ab BS:=[eu (TE (dS .NotIn (dM 3) (dM 1))) [fx (ed dP (dM 1) 100 [(dM 3)])] []]
noncomputable def oV:ab BS:=[iy (.one 3) (fL (dM 2)) lS]
noncomputable def AB:ab BS:=[dX 1 (hV .own []),iy (.one 2) (fL (dM 0)) oV,iy (.one 4) (fL (d8 [(dN (.str (aa "any"))),(dN (.str (aa "unknown")))])) l8,dX 5 (dS .In (dN (.str (aa "string"))) (dM 1)),dX 6 (dS .In (dN (.str (aa "number"))) (dM 1)),dY (gN 201 [(gy (dM 7) (.one 7) 1 (fL (dM 1)) [(gi [(Df (gi [(TE (dM 5)),(TE (dS .Eq (dQ (dM 7) (dN (.int 0))) (dN (.str (aa "\"")))))])),(Df (gi [(TE (dM 6)),(TE (dS .In (dQ (dM 7) (dN (.int 0))) (dN (.str (aa "0123456789")))))]))])])])]
noncomputable def za:ab BS:=[eu (TE (dS .Eq (dM 1) (dN (.int 2)))) [dY (d8 [])] [],dX 2 (dQ (d' (dM 0) 0) (dM 1)),eu (TE (dS .Eq (dQ (dM 2) (dN (.int 0))) (dN (.int 6)))) [dY (dQ (dM 2) (dN (.int 1)))] [],dY (d8 [(dM 1)])]
noncomputable def vl:ab BS:=[eu (gi [(i5 [(TE (dS .In (dN (.int 8)) (dM 0))),(TE (dS .In (dN (.int 14)) (dM 0)))]),(i5 [(TE (dS .In (dN (.int 9)) (dM 0))),(TE (dS .In (dN (.int 15)) (dM 0)))])]) [oY (dM 0) (dN (.int 8)) (dN (.int 1)),oY (dM 0) (dN (.int 9)) (dN (.int 1))] []]
noncomputable def r6:ab BS:=[dX 1 (dQ (dM 0) (dN (.int 0))),eu (i5 [(TE (dS .Eq (dM 1) (dN (.int 3)))),(TE (dS .Eq (dM 1) (dN (.int 18))))]) [dY (dN (.int 6))] [],eu (TE (dS .Eq (dM 1) (dN (.int 4)))) [dY (dN (.int 7))] [],eu (TE (dS .Eq (dM 1) (dN (.int 5)))) [dY (kA (TE mT) (dN (.int 6)) (dN (.int 7)))] [],dY (lY 1)]
noncomputable def sL:ab BS:=[dX 2 (dQ (d' (dM 0) 0) (dM 1)),eu (gi [(TE (dS .In (dQ (dM 2) (dN (.int 0))) (dN tI))),(TE (dS .Eq (dQ (dM 2) (lY 1)) (dN (.int 1))))]) [dY (ed dP (d' (dM 0) 13) 103 [(el .Add mT (d8 [(dN (.int 0))])),(lY 1)])] [],dY (lY 1)]
noncomputable def sV:ab BS:=[eu (TE (dS .In (dO 263 [(dM 0),(dM 2)]) (dM 1))) [dY (dN (.bool false))] [],dY (dS .NotIn (dO 256 [(dQ (d' (dM 0) 0) (dM 2))]) (dM 1))]
noncomputable def rY:ab BS:=[eu (TE (dS .In (dM 1) (dM 0))) [dY (dM 1)] []]
noncomputable def HA:ab BS:=[iy (.one 1) (fL (d8 [(dN (.int 0)),(dN (.int 13)),(dN (.int 1))])) rY,dY (lY 1)]
noncomputable def uI:ab BS:=[oY (dM 2) (dM 4) (dN (.int 1))]
noncomputable def uP:ab BS:=[iy (.one 4) (fL (dO 249 [(dM 0),(dM 3)])) uI]
noncomputable def oK:ab BS:=[dX 2 qy,iy (.one 3) (fL (dM 1)) uP,dX 5 (dO 284 [(dM 2)]),eu (TE (dS .GtE (dM 5) (dN (.int 0)))) [dY (dM 5)] [],fx (dO 270 [(dM 2)]),dX 6 (gy (dM 7) (.one 7) 1 (fL (gN 201 [(dM 2)])) [(TE (dO 277 [(dM 0),(dM 2),(dM 7)]))]),eu (Df (TE (dM 6))) [dY (dN (.int 2))] [],eu (TE (dS .Eq (gN 200 [(dM 6)]) (dN (.int 1)))) [dY (dQ (dM 6) (dN (.int 0)))] [],eu (TE (dS .Gt (gN 200 [(dM 6)]) (dN (.int 400)))) [wj] [],dY (ed dP (dM 0) 111 [(d8 [(dN (.int 6)),(gN 207 [(dM 6)])])])]
noncomputable def yh:ab BS:=[dX 1 (hV .own [(fq [(dQ (dN ff) (el .Mod (dM 0) (dN (.int 10))))]),(fq [(dQ (dN ff) (el .Mod (el .FloorDiv (dM 0) (dN (.int 10))) (dN (.int 10))))])]),eu (TE (dS .Eq (el .Mod (el .FloorDiv (dM 0) (dN (.int 100))) (dN (.int 3))) (dN (.int 2)))) [fx (ed dP (dM 1) 100 [(fq [(dQ (dN ff) (el .Mod (el .FloorDiv (dM 0) (dN (.int 300))) (dN (.int 10))))])])] [],dY (dO 943 [(dM 1)])]
noncomputable def Al:ab BS:=[dY (ed dP (dM 0) 111 [(d8 [(dN (.int 3)),(dM 1),(dM 2)])])]
noncomputable def zr:ab BS:=[dY (ed dP (dM 0) 111 [(d8 [(dN (.int 4)),(dM 1),(dM 2)])])]
noncomputable def zK:ab BS:=[eu (TE (dS .In (dM 1) (dN rQ))) [dY (ed dP (dN rQ) 105 [(dM 1)])] [],eu (TE (dS .Eq (dQ (dM 1) (dN (.int 0))) (dN (.str (aa "\""))))) [dY (dO 158 [(dM 0),(V0 (dM 1))])] [],dY (dO 166 [(dM 0),(gN 205 [(dM 1)])])]
noncomputable def zF:ab BS:=[dY (dO 289 [(dM 0),(gy (dO 971 [(dM 0),(dM 2)]) (.one 2) 1 (fL (dM 1)) [])])]
noncomputable def lE:ab BS:=[oY (dM 1) (dQ (dM 2) (dN (.int 0))) (dM 2)]
noncomputable def sr:ab BS:=[dX 1 qy,iy (.one 2) (fL (dM 0)) lE,dY (gN 207 [(gy (dQ (dM 1) (dM 3)) (.one 3) 1 (fL (gN 201 [(dM 1)])) [])])]
noncomputable def y8:ab BS:=[dY (ed dP (dM 0) 111 [(d8 [(dN (.int 8)),(dO 206 [(dM 1)]),(gN 207 [(dM 2)]),(gN 207 [(dM 3)]),(dM 4),(dM 5),(dM 6)])])]
noncomputable def zO:ab BS:=[eu (TE (dS .Gt (el .Mod (dM 0) (dN (.int 40))) (dN (.int 36)))) [dY (dQ (fq [(fq [(dN (.str (aa "any")))]),(fq [(dN (.str (aa "unknown")))]),(fq [])]) (el .Sub (el .Mod (dM 0) (dN (.int 40))) (dN (.int 37))))] [],dY (dO 957 [(dM 0)])]
noncomputable def iU:ab BS:=[dX 12 (kA (TE (dS .Eq (dM 8) (dN (.int 1)))) (dO 943 [(fq [(dM 7),(fq [(dN (.str (aa "undefined")))])])]) (dM 7)),fx (ed dP (dM 3) 100 [(d8 [(el .Add (el .Add (dN (.str (aa "\""))) (dM 5)) (dN (.str (aa "\"")))),(dM 12),(dM 8),(kA (TE (dS .Eq (dM 9) (dN (.int 1)))) (el .Add (dM 10) (dN (.int 2))) (dM 10))])])]
noncomputable def fJ:ab BS:=[dX 6 (dO 938 [(dM 1),(dN (.int 96))]),dX 7 (dO 964 [(el .Add (dO 938 [(dM 1),(dN (.int 3000))]) (dM 4))]),W2 4 .Add (dN (.int 1)),eu (TE (dS .Eq (el .Mod (dM 6) (dN (.int 4))) (dN (.int 3)))) [RQ] [],dX 8 (el .Mod (el .FloorDiv (dM 6) (dN (.int 4))) (dN (.int 2))),dX 9 (el .FloorDiv (dM 6) (dN (.int 16))),dX 10 (kA (TE (dS .Eq (dM 9) (dN (.int 2)))) (dN (.int 1)) (el .Mod (el .FloorDiv (dM 6) (dN (.int 8))) (dN (.int 2)))),dX 11 (el .Add (el .Add (dQ (d8 [(dN (.int 0)),(dN (.int 4)),(dN (.int 32)),(dN (.int 0)),(dN (.int 8)),(dN (.int 16))]) (dM 9)) (el .Mult (dM 8) (dN (.int 1)))) (el .Mult (dM 10) (dN (.int 2)))),fx (ed dP (dM 2) 100 [(d8 [(dM 5),(dO 976 [(dM 0),(dM 7)]),(dM 11),(kA (TE (dS .Gt (dM 9) (dN (.int 3)))) (dN (.int 1)) (dN (.int 0)))])]),eu (TE (dS .Lt (dM 9) (dN (.int 4)))) iU []]
noncomputable def iP:ab BS:=[dX 2 (hV .own []),dX 3 (hV .own []),dX 4 (dN (.int 0)),iy (.one 5) (fL (d8 [(dN (.str (aa "0"))),(dN (.str (aa "p"))),(dN (.str (aa "q")))])) fJ,dX 6 (dO 938 [(dM 1),(dN (.int 8))]),dX 13 (d8 []),dX 14 (d8 []),eu (TE (dS .Eq (el .Mod (dM 6) (dN (.int 2))) (dN (.int 1)))) [dX 7 (dO 964 [(dO 938 [(dM 1),(dN (.int 3000))])]),dX 13 (d8 [(dO 976 [(dM 0),(dM 7)]),(el .FloorDiv (dM 6) (dN (.int 4)))]),fx (ed dP (dM 3) 100 [(d8 [(dN (.str (aa "string"))),(dM 7),(dN (.int 2)),(el .FloorDiv (dM 6) (dN (.int 4)))])])] [],eu (TE (dS .Gt (el .Mod (dM 6) (dN (.int 4))) (dN (.int 1)))) [dX 7 (dO 964 [(dO 938 [(dM 1),(dN (.int 3000))])]),dX 14 (d8 [(dO 976 [(dM 0),(dM 7)]),(el .Sub (dN (.int 1)) (el .FloorDiv (dM 6) (dN (.int 4))))]),fx (ed dP (dM 3) 100 [(d8 [(dN (.str (aa "number"))),(dM 7),(dN (.int 2)),(el .Sub (dN (.int 1)) (el .FloorDiv (dM 6) (dN (.int 4))))])])] [],dY (d8 [(dO 218 [(dM 0),(dM 2),(d8 []),(d8 []),(dM 13),(dM 14)]),(d8 [(dN (.str (aa "{"))),(dM 3),(dN (.int 0))])])]
noncomputable def uW:ab BS:=[dY (ed dP (dM 0) 111 [(d8 [(dN (.int 11)),(dM 1),(dM 2)])])]
noncomputable def nK:ab BS:=[eu (TE (dS .In (dQ (dQ (dM 0) (dM 3)) (dN (.int 1))) (dM 1))) [dX 2 (dM 3)] []]
noncomputable def wV:ab BS:=[dX 2 (lY 1),iy (.one 3) (la (gN 200 [(dM 0)])) nK,dY (dM 2)]
noncomputable def iG:ab BS:=[oy [5,6] (dQ (dM 1) (dM 4)),eu (gi [(TE (dS .Eq (dM 6) (dN (.int 1)))),(TE (dS .Lt (dM 4) (dM 2)))]) [fx (ed dP (dM 3) 100 [(d8 [(dO 301 [(dM 0),(dM 5)]),(dN (.int 0))])])] [fx (ed dP (dM 3) 100 [(d8 [(dM 5),(dM 6)])])]]
noncomputable def qc:ab BS:=[dX 2 (dO 181 [(dM 1),(d8 [(dN (.int 0))])]),dX 3 (hV .own []),iy (.one 4) (la (gN 200 [(dM 1)])) iG,dY (dM 3)]
noncomputable def vb:ab BS:=[fx (ed dP (dM 5) 100 [(kA (TE (dS .Eq (dM 7) (dN (.int 1)))) (dO 301 [(dM 0),(dM 6)]) (dM 6))])]
noncomputable def ot:ab BS:=[eu (gi [(TE (dS .Lt (dM 3) (dN (.int 0)))),(TE (dS .Eq (dQ (dQ (dM 1) (dM 4)) (dN (.int 1))) (dN (.int 2))))]) [dX 3 (dM 4)] []]
noncomputable def Ah:ab BS:=[dX 3 (lY 1),iy (.one 4) (la (gN 200 [(dM 1)])) ot,eu (i5 [(TE (dS .Lt (dM 3) (dN (.int 0)))),(TE (dS .LtE (dM 2) (dM 3)))]) [dY (dM 1)] [],dX 5 (hV .own []),iy (.many [6,7]) (fL mT) vb,dY (el .Add (el .Add mT (fq [(d8 [(dO 289 [(dM 0),(dM 5)]),(dN (.int 2))])])) mT)]
noncomputable def iT:ab BS:=[dX 3 (gy (d8 [(dM 5),(dM 6)]) (.many [5,6]) 2 (fL (dM 1)) []),eu (TE (dS .Lt (dO 181 [(dM 3),(d8 [(dN (.int 3))])]) (dN (.int 0)))) [dX 4 (dO 181 [(dM 3),(d8 [(dN (.int 2)),(dN (.int 1))])]),dX 3 (dO 195 [(dM 0),(dO 188 [(dM 0),(dM 3)]),(dM 4)]),eu (gi [(TE (dS .Eq (gN 200 [(dM 3)]) (dN (.int 1)))),(TE (dS .Eq (dQ (dQ (dM 3) (dN (.int 0))) (dN (.int 1))) (dN (.int 2))))]) [dY (dO 174 [(dM 0),(dQ (dQ (dM 3) (dN (.int 0))) (dN (.int 0))),(dM 2)])] []] [],dY (ed dP (dM 0) 111 [(d8 [(dN (.int 12)),(gN 207 [(dM 3)]),(dM 2)])])]
noncomputable def ie:ab BS:=[dX 8 (dO 938 [(dM 1),(dN (.int 3))]),dX 9 (dO 964 [(el .Add (dO 938 [(dM 1),(dN (.int 3000))]) (dM 7))]),eu (TE (dS .Eq (dM 6) (dN (.int 2)))) [RQ] [],dX 6 (gN 206 [(dM 6),(dM 8)]),fx (ed dP (dM 4) 100 [(d8 [(dO 976 [(dM 0),(dM 9)]),(dM 6)])]),dX 10 (kA (TE (dS .Eq (dM 6) (dN (.int 1)))) (dO 943 [(fq [(dM 9),(fq [(dN (.str (aa "undefined")))])])]) (dM 9)),fx (ed dP (dM 5) 100 [(d8 [(kA (i5 [(TE (dS .Gt (dM 7) (dN (.int 0)))),(TE (dS .Lt (dM 6) (dN (.int 2))))]) (el .Add (el .Add (dN (.str (aa "\""))) (gN 204 [(dM 7)])) (dN (.str (aa "\"")))) (dN (.str (aa "number")))),(dM 10),(dM 6),(dN (.int 0))])])]
noncomputable def yL:ab BS:=[dX 2 (dO 938 [(dM 1),(dN (.int 2))]),dX 3 (dO 938 [(dM 1),(dN (.int 4))]),dX 4 (hV .own []),dX 5 (hV .own []),dX 6 (dN (.int 0)),iy (.one 7) (la (dM 3)) ie,dY (d8 [(dO 201 [(dM 0),(dM 4),(dM 2)]),(d8 [(dN (.str (aa "["))),(dM 5),(dM 2)])])]
noncomputable def mL:ab BS:=[dX 6 (dO 957 [(dO 938 [(dM 1),(dN (.int 3000))])]),fx (ed dP (dM 5) 100 [(dO 976 [(dM 0),(dM 6)])]),fx (ed dP (dM 4) 101 [(gy (d8 [(dM 10),(fq []),(dN (.int 0))]) (.one 10) 1 (fL (dM 6)) [])])]
noncomputable def qH(f:Nat):ab BS:=[oy [7,8] (dO f [(dM 0),(dM 1)]),fx (ed dP (dM 5) 100 [(dM 7)]),fx (ed dP (dM 4) 100 [(dM 8)])]
noncomputable def fI:ab BS:=[dX 2 (dO 938 [(dM 1),(dN (.int 8))]),eu (TE (dS .Eq (dM 2) (dN (.int 6)))) [dX 3 (dO 938 [(dM 1),(dN (.int 5))]),eu (TE (dS .Gt (dM 3) (dN (.int 0)))) [dX 4 (dQ (fq [(fq []),(fq [(d8 [(dN (.str (aa "{"))),(fq []),(dN (.int 0))])]),(fq [(d8 [(dN (.str (aa "{"))),(fq [(d8 [(dN (.str (aa "string"))),(fq [(dN (.str (aa "any")))]),(dN (.int 2)),(dN (.int 0))])]),(dN (.int 0))])]),(fq [(d8 [(dN (.str (aa "{"))),(fq []),(dN (.int 0))])])]) (el .Sub (dM 3) (dN (.int 1)))),dY (d8 [(dO 971 [(dM 0),(dQ (d8 [(dN (.str (aa "never"))),(dN (.str (aa "unknown"))),(dN (.str (aa "any"))),(dN (.str (aa "object")))]) (el .Sub (dM 3) (dN (.int 1))))]),(dM 4)])] []] [],dX 5 (hV .own []),dX 4 (hV .own []),eu (i5 [(TE (dS .Eq (dM 2) (dN (.int 6)))),(TE (dS .Eq (dM 2) (dN (.int 4))))]) mL [],eu (i5 [(TE (dS .Eq (dM 2) (dN (.int 3)))),(TE (dS .Eq (dM 2) (dN (.int 5))))]) (qH 990) [],iy (.one 9) (la (dQ (d8 [(dN (.int 1)),(dN (.int 1)),(dN (.int 1)),(dN (.int 0)),(dN (.int 1)),(dN (.int 1)),(dN (.int 0)),(dN (.int 2))]) (dM 2))) (qH 983),dY (d8 [(dO 289 [(dM 0),(dM 5)]),(dM 4)])]
noncomputable def yC:ab BS:=[dY (kA (TE (dM 0)) (ed dP (dN (.str (aa "|"))) 104 [(dM 0)]) (dN (.str (aa "never"))))]
noncomputable def Av:ab BS:=[oy [1,2,3] (dM 0),eu (TE (dS .Eq (dM 1) (dN (.str (aa "["))))) [dX 4 (gy (el .Add (el .Add (dQ (d8 [(dN (.str (aa ""))),(dN (.str (aa ""))),(dN (.str (aa "...")))]) (dM 7)) (dO 950 [(dM 6)])) (dQ (d8 [(dN (.str (aa ""))),(dN (.str (aa "?"))),(dN (.str (aa "")))]) (dM 7))) (.many [5,6,7,8]) 4 (fL (dM 2)) []),dY (el .Add (el .Add (el .Add (dQ (d8 [(dN (.str (aa ""))),(dN (.str (aa "readonly ")))]) (dM 3)) (dN (.str (aa "[")))) (ed dP (dN (.str (aa ","))) 104 [(dM 4)])) (dN (.str (aa "]"))))] [],eu (TE (dS .Eq (dM 1) (dN (.str (aa "{"))))) [dX 4 (gy (el .Add (el .Add (el .Add (el .Add (dQ (d8 [(dN (.str (aa ""))),(dN (.str (aa "readonly "))),(dN (.str (aa "method "))),(dN (.str (aa "readonly method ")))]) (dM 8)) (dM 5)) (dQ (d8 [(dN (.str (aa ""))),(dN (.str (aa "?"))),(dN (.str (aa "")))]) (dM 7))) (dN (.str (aa ":")))) (dO 950 [(dM 6)])) (.many [5,6,7,8]) 4 (fL (dM 2)) []),dY (el .Add (el .Add (dN (.str (aa "{"))) (ed dP (dN (.str (aa ";"))) 104 [(dM 4)])) (dN (.str (aa "}"))))] [],dY (dM 1)]
noncomputable def y7:ab BS:=[dX 3 (dO 1031 [(dM 0),(dM 1)]),dY (kA (TE (dS .Eq (dM 2) (dN (.int 1)))) (dO 943 [(fq [(dM 3),(fq [(dN (.str (aa "undefined")))])])]) (dM 3))]
noncomputable def mO:ab BS:=[eu (i5 [(TE (dS .Gt (el .FloorDiv (dQ (dM 3) (dN (.int 2))) (dN (.int 8))) (dN (.int 0)))),(TE (dS .NotEq (dQ (dM 3) (dN (.int 3))) (dN (.int 0))))]) [dY (dN (.str (aa "?")))] [],fx (ed dP (dM 2) 100 [(d8 [(el .Add (el .Add (dN (.str (aa "\""))) (dQ (dM 3) (dN (.int 0)))) (dN (.str (aa "\"")))),(dO 1019 [(dM 0),(dQ (dM 3) (dN (.int 1))),(el .Mod (dQ (dM 3) (dN (.int 2))) (dN (.int 2)))]),(el .Mod (dQ (dM 3) (dN (.int 2))) (dN (.int 2))),(el .FloorDiv (dQ (dM 3) (dN (.int 2))) (dN (.int 2)))])])]
noncomputable def lz:ab BS:=[eu (TE (dS .Eq (dQ (dM 1) (dN (.int 0))) (dN (.int 1)))) [dY (dQ (dM 1) (dN (.int 1)))] [],eu (gi [(TE (dS .Eq (dQ (dM 1) (dN (.int 0))) (dN (.int 2)))),(TE (dS .Eq (dQ (dM 1) (dN (.int 2))) (dN (.int 0))))]) [dY (dQ (d8 [(dN (.str (aa "false"))),(dN (.str (aa "true")))]) (dQ (dM 1) (dN (.int 1))))] [],eu (gi [(TE (dS .Eq (dQ (dM 1) (dN (.int 0))) (dN (.int 3)))),(TE (dS .Eq (dQ (dM 1) (dN (.int 2))) (dN (.int 0))))]) [dY (el .Add (el .Add (dN (.str (aa "\""))) (dQ (dM 1) (dN (.int 1)))) (dN (.str (aa "\""))))] [],eu (gi [(TE (dS .Eq (dQ (dM 1) (dN (.int 0))) (dN (.int 4)))),(TE (dS .Eq (dQ (dM 1) (dN (.int 2))) (dN (.int 0))))]) [dY (gN 204 [(dQ (dM 1) (dN (.int 1)))])] [],eu (TE (dS .Eq (dQ (dM 1) (dN (.int 0))) (dN (.int 11)))) [dY (dO 1012 [(d8 [(dN (.str (aa "["))),(fq [(d8 [(dN (.str (aa ""))),(dO 1031 [(dM 0),(dQ (dM 1) (dN (.int 1)))]),(dN (.int 2)),(dN (.int 0))])]),(dQ (dM 1) (dN (.int 2)))])])] [],eu (TE (dS .Eq (dQ (dM 1) (dN (.int 0))) (dN (.int 12)))) [dY (dO 1012 [(d8 [(dN (.str (aa "["))),(gy (d8 [(dN (.str (aa ""))),(dO 1019 [(dM 0),(dQ (dM 4) (dN (.int 0))),(dQ (dM 4) (dN (.int 1)))]),(dQ (dM 4) (dN (.int 1))),(dN (.int 0))]) (.one 4) 1 (fL (dQ (dM 1) (dN (.int 1)))) []),(dQ (dM 1) (dN (.int 2)))])])] [],eu (i5 [(TE (dS .NotEq (dQ (dM 1) (dN (.int 0))) (dN (.int 8)))),(TE (dS .NotEq (dQ (dM 1) (dN (.int 2))) (d8 []))),(TE (dS .NotEq (dQ (dM 1) (dN (.int 3))) (d8 []))),(TE (dS .NotEq (dQ (dM 1) (dN (.int 6))) (dN (.int 0))))]) [dY (dN (.str (aa "?")))] [],dX 2 (hV .own []),iy (.one 3) (fL (dQ (dM 1) (dN (.int 1)))) mO,eu (TE (dS .NotEq (dQ (dM 1) (dN (.int 5))) (d8 []))) [fx (ed dP (dM 2) 100 [(d8 [(dN (.str (aa "number"))),(dO 1031 [(dM 0),(dQ (dQ (dM 1) (dN (.int 5))) (dN (.int 0)))]),(dN (.int 2)),(dQ (dQ (dM 1) (dN (.int 5))) (dN (.int 1)))])])] [],eu (TE (dS .NotEq (dQ (dM 1) (dN (.int 4))) (d8 []))) [fx (ed dP (dM 2) 100 [(d8 [(dN (.str (aa "string"))),(dO 1031 [(dM 0),(dQ (dQ (dM 1) (dN (.int 4))) (dN (.int 0)))]),(dN (.int 2)),(dQ (dQ (dM 1) (dN (.int 4))) (dN (.int 1)))])])] [],dY (dO 1012 [(d8 [(dN (.str (aa "{"))),(dM 2),(dN (.int 0))])])]
noncomputable def jZ:ab BS:=[dX 6 (dO 1024 [(dM 0),(dQ (d' (dM 0) 0) (dM 5))]),eu (gi [(TE (dS .NotEq (dM 6) (dN (.str (aa "never"))))),(TE (dS .NotIn (dM 6) (dM 4)))]) [fx (ed dP (dM 4) 100 [(dM 6)])] []]
noncomputable def nT:ab BS:=[dX 2 (dQ (d' (dM 0) 0) (dM 1)),dX 3 (kA (TE (dS .Eq (dQ (dM 2) (dN (.int 0))) (dN (.int 6)))) (dQ (dM 2) (dN (.int 1))) (d8 [(dM 1)])),dX 4 (hV .own []),iy (.one 5) (fL (dM 3)) jZ,dY (gN 201 [(dM 4)])]
noncomputable def v5:ab BS:=[dY (dM 1)]
noncomputable def FX:ab BS:=[dX 2 (dQ (d' (dM 0) 0) (dQ (dM 1) (dN (.int 2)))),eu (i5 [(TE (dS .NotEq (dQ (dM 2) (dN (.int 0))) (dN (.int 7)))),(TE (dS .NotEq (dQ (dQ (d' (dM 0) 0) (dQ (dQ (dM 2) (dN (.int 1))) (dN (.int 0)))) (dN (.int 0))) (dN (.int 14))))]) [dY (d8 [])] [],dY (d8 [(dQ (dQ (d' (dM 0) 0) (dQ (dQ (dM 2) (dN (.int 1))) (dN (.int 0)))) (dN (.int 1))),(dQ (dQ (dM 2) (dN (.int 1))) (dN (.int 1)))])]
noncomputable def pW:ab BS:=[dX 2 (dQ (d' (d' (dM 0) 10) 0) (dQ (dM 1) (dN (.int 2)))),eu (TE (dS .Eq (dQ (dM 2) (dN (.int 0))) (dN (.int 14)))) [dY (dQ (dM 2) (dN (.int 1)))] [],dY (lY 1)]
noncomputable def Dw:ab BS:=[dY (dQ (dQ (d' (dM 0) 0) (dM 1)) (dN (.int 0)))]
noncomputable def xO:ab BS:=[eu (TE (dO 558 [(dM 0),(dM 5)])) [dY (dN (.bool true))] []]
noncomputable def qz:ab BS:=[eu (TE (dS .Eq (dQ (dM 4) (dN (.int 1))) (dN (.int 3)))) [dY (dN (.bool true))] []]
noncomputable def qD:ab BS:=[eu (TE (dO 558 [(dM 0),(dM 3)])) [dY (dN (.bool true))] []]
noncomputable def Dz:ab BS:=[dX 2 (dQ (d' (dM 0) 0) (dM 1)),eu (TE (dS .In (dQ (dM 2) (dN (.int 0))) (dN vW))) [dY (dN (.bool true))] [],eu (i5 [(TE (dS .Eq (dQ (dM 2) (dN (.int 0))) (dN (.int 6)))),(TE (dS .Eq (dQ (dM 2) (dN (.int 0))) (dN (.int 7))))]) [iy (.one 3) (fL (dQ (dM 2) (dN (.int 1)))) qD] [],eu (TE (dS .Eq (dQ (dM 2) (dN (.int 0))) (dN (.int 12)))) [iy (.one 4) (fL (dQ (dM 2) (dN (.int 1)))) qz] [],eu (TE (dS .Eq (dQ (dM 2) (dN (.int 0))) (dN (.int 18)))) [iy (.one 5) (fL (dQ (dM 2) (dN (.int 2)))) xO] [],dY (dN (.bool false))]
noncomputable def tP:ab BS:=[dX 4 (d' (dM 0) 10),dX 5 (dQ (d' (dM 4) 0) (dQ (dM 1) (dN (.int 4)))),eu (TE (dS .NotEq (dQ (dM 5) (dN (.int 0))) (dN (.int 15)))) [dY (dN (.bool false))] [],eu (TE (dS .NotEq (dQ (d' (dM 4) 0) (dQ (dM 5) (dN (.int 2)))) (d8 [(dN (.int 10)),(dQ (dM 1) (dN (.int 1)))]))) [dY (dN (.bool false))] [],dX 6 (ed dP (dM 0) 115 [(dQ (dM 5) (dN (.int 1)))]),dY (T7 [(dS .Eq (dM 6) (dM 2)),(dS .Eq (dM 6) (dM 3))])]
noncomputable def mi:ab BS:=[ia (dM 0) 0 qy,ia (dM 0) 5 (hV .sh []),ia (dM 0) 14 (d8 []),ia (dM 0) 15 (d8 [])]
noncomputable def w5:ab BS:=[dX 2 (gy (d8 [(dM 3),(dQ (dQ (d' (dM 0) 0) (dM 3)) (dN (.int 0))),(dQ (dQ (d' (dM 0) 0) (dM 3)) (dN (.int 1))),(dN (.int 0))]) (.one 3) 1 (fL (d' (dM 0) 5)) []),dY (dO 218 [(dM 1),(dM 2),(d8 []),(d8 []),(d' (dM 0) 14),(d' (dM 0) 15),(dN (.int 0))])]
noncomputable def zp:ab BS:=[dY (gN 207 [(gy (dO 902 [(dM 0),(dM 3),(dM 2)]) (.one 3) 1 (fL (dM 1)) [])])]
noncomputable def lR:ab BS:=[eu (TE (dS .Eq (dQ (dM 3) (dN (.int 1))) (dN (.int 3)))) [dY (ed dP (dM 0) 116 [(d8 [(dN (.int 12)),(dM 4),(dQ (dM 1) (dN (.int 2)))])])] []]
noncomputable def mQ:ab BS:=[dX 4 (gN 207 [(gy (d8 [(dO 902 [(dM 0),(dQ (dM 5) (dN (.int 0))),(dM 2)]),(dQ (dM 5) (dN (.int 1)))]) (.one 5) 1 (fL (dQ (dM 1) (dN (.int 1)))) [])]),iy (.one 3) (fL (dM 4)) lR,dY (dO 201 [(d' (dM 0) 10),(dM 4),(dQ (dM 1) (dN (.int 2)))])]
noncomputable def zG:ab BS:=[eu (TE (dS .Eq (dQ (dM 2) (dN (.int 0))) (dN (.int 15)))) [dY (ed dP (dM 0) 116 [(el .Add (d8 [(dN (.int 15))]) (dO 859 [(dM 0),mT,(dM 3)]))])] [],eu (TE (dS .Eq (dQ (dM 2) (dN (.int 0))) (dN (.int 14)))) [dY (ed dP (dM 0) 116 [(d8 [(dN (.int 14)),(dO 902 [(dM 0),(dQ (dM 2) (dN (.int 1))),(dM 3)])])])] [],eu (TE (dS .Eq (dQ (dM 2) (dN (.int 0))) (dN (.int 18)))) [dY (ed dP (dM 0) 116 [(d8 [(dN (.int 18)),(dQ (dM 2) (dN (.int 1))),(dO 859 [(dM 0),(dQ (dM 2) (dN (.int 2))),(dM 3)])])])] [],eu (TE (dS .Eq (dQ (dM 2) (dN (.int 0))) (dN (.int 9)))) [dY (ed dP (d' (dM 0) 10) 111 [(d8 [(dN (.int 9)),(dQ (dM 2) (dN (.int 1))),(dO 859 [(dM 0),(dQ (dM 2) (dN (.int 2))),(dM 3)])])])] [],eu (TE (dS .Eq (dQ (dM 2) (dN (.int 0))) (dN (.int 19)))) [dY (ed dP (dM 0) 116 [(d8 [(dN (.int 19)),(dQ (dM 2) (dN (.int 1))),(dO 859 [(dM 0),(dQ (dM 2) (dN (.int 2))),(dM 3)])])])] [],eu (TE (dS .Eq (dQ (dM 2) (dN (.int 0))) (dN (.int 16)))) [dX 4 (dO 888 [(dM 3),(dQ (dM 2) (dN (.int 5)))]),dY (kA (TE (dS .Gt (gN 200 [(dM 4)]) (dN (.int 0)))) (ed dP (dM 0) 117 [(dM 2),(dM 4)]) (dM 1))] [],dY (dM 1)]
noncomputable def hW:ab BS:=[eu (i5 [(TE (dS .Lt (dM 1) (dN (.int 0)))),(TE (dS .Eq (gN 200 [(dM 2)]) (dN (.int 0))))]) [dY (dM 1)] [],dX 3 (dQ (d' (d' (dM 0) 10) 0) (dM 1)),eu (TE (dS .Eq (dQ (dM 3) (dN (.int 0))) (dN (.int 10)))) [dY (ed dP (dM 2) 103 [(dQ (dM 3) (dN (.int 1))),(dM 1)])] [],eu (TE (dS .Eq (dQ (dM 3) (dN (.int 0))) (dN (.int 6)))) [dY (dO 289 [(d' (dM 0) 10),(dO 859 [(dM 0),(dQ (dM 3) (dN (.int 1))),(dM 2)])])] [],eu (TE (dS .Eq (dQ (dM 3) (dN (.int 0))) (dN (.int 11)))) [dY (dO 174 [(d' (dM 0) 10),(dO 902 [(dM 0),(dQ (dM 3) (dN (.int 1))),(dM 2)]),(dQ (dM 3) (dN (.int 2)))])] [],eu (TE (dS .Eq (dQ (dM 3) (dN (.int 0))) (dN (.int 12)))) [dY (dO 876 [(dM 0),(dM 3),(dM 2)])] [],eu (TE (dS .Eq (dQ (dM 3) (dN (.int 0))) (dN (.int 8)))) [dY (dO 871 [(dM 0),(dM 3),(dM 2)])] [],eu (TE (dS .Eq (dQ (dM 3) (dN (.int 0))) (dN (.int 13)))) [dY (dO 881 [(dM 0),(dM 1),(dM 3),(dM 2)])] [],dY (dO 895 [(dM 0),(dM 1),(dM 3),(dM 2)])]
noncomputable def pY:ab BS:=[dY (dO 902 [(dM 0),(dM 1),(dM 2)])]
noncomputable def xw:ab BS:=[eu (TE (dS .Eq (dQ (dM 1) (dN (.int 3))) (lY 1))) [dY (d8 [(dM 2)])] [],dX 3 (ed dP (dM 0) 115 [(ed dP (dM 0) 119 [(dQ (dM 1) (dN (.int 3))),(Hc (dQ (dM 1) (dN (.int 1))) (dM 2))])]),eu (TE (dO 558 [(d' (dM 0) 10),(dM 3)])) [dY (dN .fS)] [],dY (dO 249 [(d' (dM 0) 10),(dM 3)])]
noncomputable def wF:ab BS:=[dX 2 (dQ (d' (dM 0) 0) (dM 1)),eu (TE (dS .Eq (dQ (dM 2) (dN (.int 0))) (dN (.int 3)))) [dY (dQ (dM 2) (dN (.int 1)))] [],eu (TE (dS .Eq (dQ (dM 2) (dN (.int 0))) (dN (.int 4)))) [dY (gN 204 [(dQ (dM 2) (dN (.int 1)))])] [],eu (TE (dS .Eq (dQ (dM 2) (dN (.int 0))) (dN (.int 5)))) [dY (gN 204 [(dQ (dM 2) (dN (.int 3)))])] [],eu (TE (dS .Eq (dQ (dM 2) (dN (.int 0))) (dN (.int 2)))) [dY (kA (TE (dS .Eq (dQ (dM 2) (dN (.int 1))) (dN (.int 1)))) (dN (.str (aa "true"))) (dN (.str (aa "false"))))] [],eu (TE (dS .Eq (dM 1) (dN (.int 5)))) [dY (dN (.str (aa "null")))] [],eu (TE (dS .Eq (dM 1) (dN (.int 4)))) [dY (dN (.str (aa "undefined")))] [],dY (dN .fS)]
noncomputable def yD:ab BS:=[eu (TE (dS .In (dQ (dQ (d' (dM 0) 0) (dM 1)) (dN (.int 0))) (d8 [(dN (.int 3)),(dN (.int 4)),(dN (.int 5))]))) [dY (dO 565 [(dM 0),(dM 1)])] [],dY (dN .fS)]
noncomputable def Aq:ab BS:=[eu (TE (dS .NotIn (dM 2) (d' (dM 0) 0))) [fx (ed dP (d' (dM 0) 5) 100 [(dM 2)]),oY (d' (dM 0) 0) (dM 2) (d8 [(dM 3),(dM 4)]),EK] [],dX 5 (dQ (d' (dM 0) 0) (dM 2)),dX 6 (hV .own [(dQ (dM 5) (dN (.int 0))),(dM 3)]),eu (gi [(TE (dS .NotEq (el .BitAnd (dM 4) (dN (.int 1))) (dN (.int 0)))),(TE (dS .Eq (el .BitAnd (dQ (dM 5) (dN (.int 1))) (dN (.int 1))) (dN (.int 0))))]) [fx (ed dP (dM 6) 100 [(dN (.int 4))])] [],oY (d' (dM 0) 0) (dM 2) (d8 [(dO 289 [(dM 1),(dM 6)]),(dQ (dM 5) (dN (.int 1)))])]
noncomputable def qb:ab BS:=[dX 5 (kA (TE (dM 2)) (d' (dM 0) 15) (d' (dM 0) 14)),dX 6 (d8 [(dM 3),(dM 4)]),eu (TE (dS .NotEq (dM 5) (d8 []))) [dX 6 (d8 [(dO 289 [(dM 1),(fq [(dQ (dM 5) (dN (.int 0))),(dM 3)])]),(kA (i5 [(TE (dS .Eq (dQ (dM 5) (dN (.int 1))) (dN (.int 1)))),(TE (dS .Eq (dM 4) (dN (.int 1))))]) (dN (.int 1)) (dN (.int 0)))])] [],eu (TE (dM 2)) [ia (dM 0) 15 (dM 6)] [ia (dM 0) 14 (dM 6)]]
noncomputable def qd:ab BS:=[eu (TE (dS .Eq (dM 0) (dN (.int 1)))) [dY (dN (.int 1))] [],eu (TE (dS .Eq (dM 0) (dN (.int 2)))) [dY (dN (.int 0))] [],dY (dM 1)]
noncomputable def tx:ab BS:=[dY (ed dP (dM 0) 119 [(dQ (dM 1) (dN (.int 4))),(Hc (dQ (dM 1) (dN (.int 1))) (dM 2))])]
noncomputable def CX:ab BS:=[dY (dO 289 [(dM 0),(gy (dM 3) (.one 3) 1 (fL (dO 249 [(dM 0),(dM 1)])) [(TE (dS .NotIn (dM 3) (dM 2)))])])]
noncomputable def iR:ab BS:=[dX 4 (dQ (d' (dM 0) 0) (dM 3)),dX 5 (kA (TE (dS .Eq (dQ (dM 4) (dN (.int 0))) (dN (.int 19)))) (dQ (dM 4) (dN (.int 2))) (d8 [(dM 3)])),eu (TE (gN 203 [(gy (dO 558 [(dM 0),(dM 6)]) (.one 6) 1 (fL (dM 5)) [])])) [dY (dN (.bool false))] [],dX 2 (T7 [(dM 2),(dS .Eq (dQ (dM 4) (dN (.int 0))) (dN (.int 19)))])]
noncomputable def qT:ab BS:=[dX 2 (dN (.bool false)),iy (.one 3) (fL (dO 249 [(dM 0),(dM 1)])) iR,dY (dM 2)]
noncomputable def wH:ab BS:=[dX 2 (d' (dM 0) 10),eu (TE (dO 657 [(dM 2),(dM 1)])) [dY (ed dP (dM 2) 111 [(d8 [(dN (.int 7)),(d8 [(dM 1),(dO 289 [(dM 2),(fq [(dN (.int 11)),(dN (.int 5))])])])])])] [],dX 1 (ed dP (dM 0) 115 [(dM 1)]),dY (kA (TE (dS .Eq (dM 1) (dN (.int 4)))) (dN (.int 2)) (dO 294 [(dM 2),(dM 1),(fq [(dN (.int 4))])]))]
noncomputable def qP:ab BS:=[eu (TE (dS .Eq (dM 1) (dN (.int 4)))) [dY (dM 1)] [],dY (dO 294 [(dM 0),(dM 1),(fq [(dN (.int 4))])])]
noncomputable def vB:ab BS:=[dY (T7 [(dS .Eq (dQ (dM 0) (dN (.int 5))) (dN (.int 1))),(Oc [(dS .Eq (dQ (dM 0) (dN (.int 5))) (dN (.int 0))),(dM 1)])])]
noncomputable def tA:ab BS:=[dX 5 (d' (dM 0) 10),dX 6 (kA (TE (dS .GtE (dM 3) (dN (.int 0)))) (dM 3) (dO 685 [(dM 0),(dM 1),(dM 2)])),eu (TE (dO 692 [(dM 1),(dM 4)])) [eu (gi [(TE (dS .GtE (dM 3) (dN (.int 0)))),(TE (dM 4))]) [dY (dM 6)] [],dY (dO 671 [(dM 5),(dM 6)])] [],eu (TE (dM 4)) [dY (dO 664 [(dM 0),(dM 6)])] [],dY (dM 6)]
noncomputable def eW:ab BS:=[dX 3 (kA (TE (qo false (dM 1))) (dN (.int 0)) (dQ (dM 1) (dN (.int 2)))),dX 4 (dN (.int 0)),eu (TE (dO 692 [(dM 0),(dS .NotEq (el .BitAnd (dM 3) (dN (.int 1))) (dN (.int 0)))])) [dX 4 (dN (.int 1))] [],dX 5 (kA (TE (dS .NotEq (el .BitAnd (dM 3) (dN (.int 2))) (dN (.int 0)))) (dN (.int 1)) (dN (.int 0))),eu (TE (dS .Eq (dO 678 [(dQ (dM 0) (dN (.int 6))),(dM 5)]) (dN (.int 1)))) [dX 4 (el .Add (dM 4) (dN (.int 2)))] [],dY (kA (TE (dM 2)) (el .Add (dM 4) (el .BitAnd (dM 3) (dN (.int 4)))) (dM 4))]
noncomputable def fo:ab BS:=[dX 6 (d' (dM 0) 10),dX 7 (dO 572 [(dM 6),(dM 4)]),dX 8 (lY 1),dX 9 (dN (.bool false)),eu (TE (qo true (d' (dM 3) 12))) [dX 9 (dS .NotEq (el .BitAnd (dQ (d' (dM 3) 12) (dN (.int 2))) (dN (.int 1))) (dN (.int 0))),dX 8 (kA (TE (dM 5)) (dQ (d' (dM 3) 12) (dN (.int 1))) (lY 1))] [eu (TE (dS .NotEq (d' (dM 3) 13) (d8 []))) [dX 8 (kA (TE (dM 5)) (dQ (d' (dM 3) 13) (dN (.int 0))) (lY 1))] []],eu (TE (qo true (dM 7))) [dX 10 (dO 699 [(dM 0),(dM 1),(d' (dM 3) 11),(dM 8),(dM 9)]),fx (ed dP (dM 2) 112 [(dM 6),(dM 7),(dM 10),(dO 706 [(dM 1),(d' (dM 3) 12),(dM 5)])]),EK] [],eu (gi [(TE (dS .NotIn (dM 4) (d8 [(dN (.int 6)),(dN (.int 7)),(dN (.int 0))]))),(TE (dS .NotEq (dO 150 [(dM 6),(dM 4)]) (dN (.int 18))))]) [EK] [],dX 11 (kA (TE (dS .GtE (dM 8) (dN (.int 0)))) (dM 8) (dO 685 [(dM 0),(dM 1),(d' (dM 3) 11)])),eu (i5 [(TE (dS .Eq (dQ (dM 1) (dN (.int 5))) (dN (.int 1)))),(gi [(TE (dS .GtE (dM 8) (dN (.int 0)))),(TE (dM 9))])]) [dX 11 (dO 289 [(dM 6),(fq [(dM 11),(dN (.int 4))])])] [],dX 12 (kA (TE (dS .NotEq (d' (dM 3) 13) (d8 []))) (dQ (d' (dM 3) 13) (dN (.int 1))) (dN (.int 0))),fx (ed dP (dM 2) 113 [(dM 6),(dS .Eq (dM 4) (dN (.int 7))),(dM 11),(dO 678 [(dQ (dM 1) (dN (.int 6))),(dM 12)])])]
noncomputable def kJ:ab BS:=[fx (dO 741 [(dM 0),(dM 1),(dM 4),(dM 5),(dM 7),(dM 3)])]
noncomputable def iV:ab BS:=[dX 6 (dO 713 [(dM 0),(dM 1),(d' (dM 5) 11)]),eu (TE (qo false (dM 6))) [dY (ed dP (d' (dM 0) 10) 111 [(dM 1)])] [],iy (.one 7) (fL (dM 6)) kJ]
noncomputable def qR:ab BS:=[dX 4 (Pb 634 612 []),iy (.one 5) (fL (dM 2)) iV,dY (ed dP (dM 4) 114 [(d' (dM 0) 10)])]
noncomputable def mj:ab BS:=[eu (TE (dS .Lt (dM 1) (dN (.int 0)))) [wj] [],dX 3 (dQ (d' (dM 0) 0) (dM 1)),eu (TE (dS .Eq (dQ (dM 3) (dN (.int 0))) (dN (.int 8)))) [dY (dM 1)] [],eu (TE (dS .Eq (dQ (dM 3) (dN (.int 0))) (dN (.int 13)))) [dY (dO 234 [(dM 0),(dM 1)])] [],eu (TE (dS .In (dQ (dM 3) (dN (.int 0))) (dN u9))) [dY (dN (.int 11))] [],eu (i5 [(TE (dS .NotEq (dQ (dM 3) (dN (.int 0))) (dN (.int 9)))),(TE (dQ (dM 3) (dN (.int 2)))),(TE mT)]) [wj] [],dX 1 mT]
noncomputable def tK:ab BS:=[iy (.one 2) (la (dN (.int 40))) mj,wj]
noncomputable def rh:ab BS:=[dY (dO 328 [(d' (dM 0) 10),(dM 1)])]
noncomputable def xQ:ab BS:=[dY (dS .Eq (el .BitAnd (dQ (dM 0) (dN (.int 2))) (el .Add (dN (.int 8)) (dN (.int 16)))) (dN (.int 0)))]
noncomputable def lu:ab BS:=[ia (dM 0) 11 (dM 1),ia (dM 0) 12 (dM 2),ia (dM 0) 13 (dM 3)]
noncomputable def iO:ab BS:=[eu (TE (dO 593 [(dM 5)])) [fx (ed dP (dM 3) 100 [(EE 730 727 [(dO 158 [(dM 2),(dQ (dM 5) (dN (.int 0)))]),(dM 5),(d8 [])])])] []]
noncomputable def gr:ab BS:=[dX 2 (d' (dM 0) 10),dX 3 (hV .own []),dX 4 (dQ (d' (dM 2) 0) (ed dP (dM 0) 118 [(dM 1)])),iy (.one 5) (fL (dQ (dM 4) (dN (.int 1)))) iO,eu (TE (dS .NotEq (dQ (dM 4) (dN (.int 4))) (d8 []))) [fx (ed dP (dM 3) 100 [(EE 730 727 [(dN (.int 6)),(dN .fS),(dQ (dM 4) (dN (.int 4)))])])] [],eu (TE (dS .NotEq (dQ (dM 4) (dN (.int 5))) (d8 []))) [fx (ed dP (dM 3) 100 [(EE 730 727 [(dN (.int 7)),(dN .fS),(dQ (dM 4) (dN (.int 5)))])])] [],dY (dM 3)]
noncomputable def r9:ab BS:=[dY (gy (EE 730 727 [(dM 1),(dN .fS),(d8 [])]) (.one 1) 1 (fL (dM 0)) [])]
noncomputable def u4:ab BS:=[eu (TE (dS .Eq (dQ (dM 1) (dN (.int 5))) (dN (.int 1)))) [dY (dO 289 [(d' (dM 0) 10),(fq [(dM 2),(dN (.int 4))])])] [],eu (TE (dS .Eq (dQ (dM 1) (dN (.int 5))) (dN (.int 2)))) [dY (dO 664 [(dM 0),(dM 2)])] [],dY (dM 2)]
noncomputable def wW:ab BS:=[dX 4 (d' (dM 0) 10),dX 5 (dQ (d' (dM 4) 0) (dM 2)),dX 6 (kA (TE (dM 3)) (dQ (dM 5) (dN (.int 1))) (dO 685 [(dM 0),(dM 1),(dN (.int 7))])),dY (dO 174 [(dM 4),(dO 774 [(dM 0),(dM 1),(dM 6)]),(dO 678 [(dQ (dM 1) (dN (.int 6))),(dQ (dM 5) (dN (.int 2)))])])]
noncomputable def Aj:ab BS:=[dX 5 (dO 158 [(d' (dM 0) 10),(gN 204 [(dM 2)])]),dX 6 (kA (TE (dM 4)) (dQ (dM 3) (dN (.int 0))) (lY 1)),eu (TE (dS .Eq (dQ (dM 3) (dN (.int 1))) (dN (.int 2)))) [dX 7 (kA (TE (dM 4)) (dM 6) (dO 685 [(dM 0),(dM 1),(dM 5)])),dY (d8 [(dO 774 [(dM 0),(dM 1),(dM 7)]),(dN (.int 2))])] [],dX 8 (dS .Eq (dQ (dM 3) (dN (.int 1))) (dN (.int 1))),dX 9 (kA (TE (dO 692 [(dM 1),(dM 8)])) (dN (.int 1)) (dN (.int 0))),dY (d8 [(dO 699 [(dM 0),(dM 1),(dM 5),(dM 6),(dM 8)]),(dM 9)])]
noncomputable def kV:ab BS:=[fx (ed dP (dM 6) 100 [(dO 781 [(dM 0),(dM 1),(dM 7),(dQ (dQ (dM 5) (dN (.int 1))) (dM 7)),(dM 3)])])]
noncomputable def xG:ab BS:=[dX 4 (d' (dM 0) 10),dX 5 (dQ (d' (dM 4) 0) (dM 2)),dX 6 (hV .own []),iy (.one 7) (la (gN 200 [(dQ (dM 5) (dN (.int 1)))])) kV,dY (dO 201 [(dM 4),(gN 207 [(dM 6)]),(dO 678 [(dQ (dM 1) (dN (.int 6))),(dQ (dM 5) (dN (.int 2)))])])]
noncomputable def Fs:ab BS:=[dX 2 (dQ (d' (dM 0) 0) (dM 1)),dX 3 (dQ (dM 2) (dN (.int 0))),eu (TE (dS .Eq (dM 3) (dN (.int 1)))) [dY (ed dP (dN mU) 103 [(dM 1),(dN (.int 0))])] [],eu (TE (dS .Eq (dM 3) (dN (.int 2)))) [dY (dN (.int 3))] [],eu (TE (dS .In (dM 3) (dN tM))) [dY (dN (.int 7))] [],eu (TE (dS .Eq (dM 3) (dN (.int 6)))) [dY (dO 306 [(dM 0),(dQ (dM 2) (dN (.int 1)))])] [],eu (TE (dS .Eq (dM 3) (dN (.int 7)))) [dY (dO 313 [(dM 0),(dQ (dM 2) (dN (.int 1)))])] [],dX 4 (dO 256 [(dM 2)]),eu (TE (dS .Lt (dM 4) (dN (.int 0)))) [dY (dN (.int 0))] [],dY (kA (TE (dS .Eq (dM 4) (dN (.int 6)))) (dN (.int 1)) (dN (.int 2)))]
noncomputable def tn:ab BS:=[dY (dS .NotIn (dO 320 [(dM 0),(dM 1)]) (d8 [(dN (.int 7)),(dN (.int 0))]))]
noncomputable def nV:ab BS:=[dX 4 (d' (dM 0) 10),dX 5 (ed dP (dM 0) 115 [(dM 2)]),eu (i5 [(TE (dS .Eq (dM 5) (dN (.int 13)))),(TE (dS .Eq (dM 5) (dN (.int 2))))]) [dY (dM 5)] [],dX 6 (dO 150 [(dM 4),(dM 5)]),eu (TE (dS .Eq (dM 6) (dN (.int 6)))) [dY (dO 289 [(dM 4),(gy (dO 800 [(dM 0),(dM 1),(dM 10),(dM 5)]) (.one 10) 1 (fL (dQ (dQ (d' (dM 4) 0) (dM 5)) (dN (.int 1)))) [])])] [],eu (TE (dS .Eq (dM 6) (dN (.int 18)))) [dY (dM 5)] [],eu (TE (dO 558 [(dM 4),(dM 5)])) [dY (dO 807 [(dM 4),(dM 1),(dM 5)])] [],eu (TE (dS .Eq (dM 5) (dN (.int 0)))) [dY (dO 748 [(dM 0),(dM 1),(dO 760 [(d8 [(dN (.int 6))])]),(dN (.bool false))])] [],eu (i5 [(TE (dS .Eq (dM 5) (dN (.int 1)))),(TE (dS .Eq (dM 5) (dN (.int 10))))]) [dY (dN (.int 11))] [],eu (TE (dO 795 [(dM 4),(dM 5)])) [dY (dM 5)] [],dX 7 (dO 652 [(dM 0),(dM 1),(dM 3),(dM 5)]),dX 8 (dQ (d' (dM 4) 0) (dM 5)),eu (gi [(TE (dS .Eq (dQ (dM 1) (dN (.int 3))) (lY 1))),(TE (dS .Eq (dM 6) (dN (.int 11))))]) [dY (dO 767 [(dM 0),(dM 1),(dM 5),(dM 7)])] [],eu (gi [(TE (dS .Eq (dQ (dM 1) (dN (.int 3))) (lY 1))),(TE (dS .Eq (dM 6) (dN (.int 12))))]) [dY (dO 788 [(dM 0),(dM 1),(dM 5),(dM 7)])] [],eu (i5 [(TE (dS .Eq (dM 6) (dN (.int 11)))),(TE (dS .Eq (dM 6) (dN (.int 12))))]) [dX 9 (gy (dO 828 [(dM 0),(dM 5),(dM 10)]) (.one 10) 1 (fL (dO 598 [(dM 0),(dM 8)])) []),dY (dO 748 [(dM 0),(dM 1),(dM 9),(dM 7)])] [],dY (dO 748 [(dM 0),(dM 1),(dO 755 [(dM 0),(dM 5)]),(dM 7)])]
noncomputable def x7:ab BS:=[dX 2 (d' (dM 0) 10),dX 3 (ed dP (dM 0) 115 [(dQ (dM 1) (dN (.int 2)))]),eu (TE (dS .Eq (dM 3) (dN (.int 13)))) [dY (dN (.int 13))] [],eu (TE (dO 558 [(dM 2),(dM 3)])) [dY (ed dP (dM 2) 111 [(dM 1)])] [],dY (dO 748 [(dM 0),(dM 1),(dO 760 [(dO 249 [(dM 2),(dM 3)])]),(dN (.bool false))])]
noncomputable def AM:ab BS:=[dY (d8 [])]
noncomputable def Ak:ab BS:=[dX 1 (ed dP (dM 0) 115 [(dM 1)]),dX 3 (dQ (d' (d' (dM 0) 10) 0) (dM 1)),eu (TE (dS .Eq (dQ (dM 3) (dN (.int 0))) (dN (.int 6)))) [dY (dO 550 [(dM 0),(dQ (dM 3) (dN (.int 1))),(dM 2)])] [],eu (i5 [(TE (dS .Eq (dQ (dM 3) (dN (.int 0))) (dN (.int 11)))),(TE (dS .Eq (dQ (dM 3) (dN (.int 0))) (dN (.int 12))))]) [dX 4 (kA (TE (dM 2)) (ed dP (dM 0) 121 [(dM 1)]) (d8 []))] [dX 4 (dQ (dQ (d' (d' (dM 0) 10) 0) (ed dP (dM 0) 118 [(dM 1)])) (kA (TE (dM 2)) (dN (.int 5)) (dN (.int 4))))],dY (kA (TE (dS .Eq (dM 4) (d8 []))) (d8 []) (d8 [(ed dP (dM 0) 115 [(dQ (dM 4) (dN (.int 0)))]),(dQ (dM 4) (dN (.int 1)))]))]
noncomputable def kZ:ab BS:=[dX 4 (dO 572 [(dM 0),(dM 3)]),eu (TE (qo true (dM 4))) [oY (dM 2) (dM 4) (dN (.int 1))] []]
noncomputable def x8:ab BS:=[dX 2 qy,iy (.one 3) (fL (dM 1)) kZ,dY (dM 2)]
noncomputable def jN:ab BS:=[dX 10 (dO 572 [(dM 3),(dM 9)]),dX 11 (T7 [(dS .In (dM 9) (dM 8)),(Oc [(qo true (dM 10)),(dS .In (dO 158 [(dM 3),(dM 10)]) (dM 8))])]),eu (gi [(Df (TE (dM 11))),(TE (dS .NotEq (dO 821 [(dM 0),(dM 1),(dM 9)]) (d8 [])))]) [fx (ed dP (dM 6) 100 [(dO 828 [(dM 0),(dM 1),(dM 9)])])] []]
noncomputable def jK:ab BS:=[eu (gi [(TE (qo false (d' (dM 7) 12))),(TE (dS .In (d' (dM 7) 11) (dM 2)))]) [fx (ed dP (dM 6) 100 [(dM 7)])] [eu (gi [(TE (qo true (d' (dM 7) 12))),(i5 [(TE (dS .In (dQ (d' (dM 7) 12) (dN (.int 0))) (dM 4))),(TE (dM 5))])]) [fx (ed dP (dM 6) 100 [(dM 7)])] []]]
noncomputable def tB:ab BS:=[dX 3 (d' (dM 0) 10),dX 4 (dO 835 [(dM 3),(dM 2)]),dX 5 (Oc [(dS .In (dN (.int 6)) (dM 2)),(dS .Eq (dO 543 [(dM 0),(dM 1),(dN (.int 0))]) (d8 []))]),dX 6 (hV .own []),iy (.one 7) (fL (dO 755 [(dM 0),(dM 1)])) jK,dX 8 (gy (d' (dM 12) 11) (.one 12) 1 (fL (dM 6)) []),iy (.one 9) (fL (dM 2)) jN,dY (dM 6)]
noncomputable def vY:ab BS:=[dX 3 (d' (dM 0) 10),dX 4 (ed dP (dM 0) 115 [(dQ (dM 2) (dN (.int 0)))]),dX 5 (ed dP (dM 0) 115 [(dQ (dM 2) (dN (.int 1)))]),eu (i5 [(TE (dS .Eq (dM 4) (dN (.int 13)))),(TE (dS .Eq (dM 5) (dN (.int 13))))]) [dY (dN (.int 13))] [],eu (i5 [(TE (dO 558 [(dM 3),(dM 4)])),(TE (dO 558 [(dM 3),(dM 5)]))]) [dY (ed dP (dM 3) 111 [(dM 1)])] [],dX 6 (dS .Eq (dQ (d' (dM 3) 0) (dQ (dM 2) (dN (.int 1)))) (d8 [(dN (.int 14)),(dQ (dM 2) (dN (.int 0)))])),eu (TE (dS .Eq (dM 4) (dN (.int 0)))) [dX 7 (kA (TE (dM 6)) (d8 [(dN (.int 6))]) (dO 249 [(dM 3),(dM 5)])),dY (dO 748 [(dM 0),(dM 1),(dO 760 [(dM 7)]),(dN (.bool false))])] [],eu (TE (dM 6)) [dY (dO 748 [(dM 0),(dM 1),(dO 755 [(dM 0),(dM 4)]),(dO 652 [(dM 0),(dM 1),(dM 4),(dM 4)])])] [],dX 8 (dO 840 [(dM 0),(dM 4),(dO 249 [(dM 3),(dM 5)])]),dY (dO 748 [(dM 0),(dM 1),(dM 8),(dO 652 [(dM 0),(dM 1),(dM 4),(dM 4)])])]
noncomputable def zI:ab BS:=[dX 2 (dO 586 [(d' (dM 0) 10),(dM 1)]),eu (TE (dS .NotEq (dM 2) (d8 []))) [dY (dO 847 [(dM 0),(dM 1),(dM 2)])] [],dX 3 (dO 645 [(dM 0),(dM 1)]),eu (TE (dS .GtE (dM 3) (dN (.int 0)))) [dY (dO 800 [(dM 0),(dM 1),(dM 3),(ed dP (dM 0) 115 [(dM 3)])])] [],dY (dO 814 [(dM 0),(dM 1)])]
noncomputable def yr:ab BS:=[eu (i5 [(TE (dS .Eq (el .Mod (dM 1) (dN (.int 3))) (dN (.int 1)))),(gi [(TE (dS .Eq (el .Mod (dM 1) (dN (.int 3))) (dN (.int 0)))),(TE (dM 2))])]) [dY (d8 [(dO 943 [(fq [(dM 0),(fq [(dN (.str (aa "undefined")))])])]),(dN (.int 1))])] [],eu (TE (dM 2)) [dY (d8 [(gy (dM 3) (.one 3) 1 (fL (dM 0)) [(TE (dS .NotEq (dM 3) (dN (.str (aa "undefined")))))]),(dN (.int 0))])] [],dY (d8 [(dM 0),(dN (.int 0))])]
noncomputable def zD:ab BS:=[dY (dQ (d8 [(dM 1),(dN (.int 1)),(dN (.int 0))]) (el .FloorDiv (dM 0) (dN (.int 3))))]
noncomputable def lV:ab BS:=[oy [3,4,5] (dM 0),eu (TE (dS .Eq (dM 3) (dN (.int 0)))) [dY (dM 2)] [],dX 6 (kA (TE (dS .Eq (dM 3) (dN (.int 1)))) (fq [(dM 1)]) (dM 5)),eu (TE (dS .Eq (dM 4) (dN (.int 1)))) [dY (fq [(el .Add (el .Add (dN (.str (aa "["))) (dO 950 [(dM 6)])) (dN (.str (aa "]"))))])] [],eu (TE (dS .Eq (dM 4) (dN (.int 2)))) [dY (dO 943 [(fq [(dM 6),(fq [(dN (.str (aa "null")))])])])] [],eu (TE (dS .Eq (dM 4) (dN (.int 3)))) [dY (fq [(el .Add (el .Add (dN (.str (aa "readonly [..."))) (dO 950 [(dM 6)])) (dN (.str (aa "]"))))])] [],dY (dM 6)]
noncomputable def hY:ab BS:=[dX 12 (dO 1038 [(dM 1),(dM 8),(dM 9)]),eu (TE (dS .Lt (dM 10) (dN (.int 2)))) [oy [12,10] (dO 1000 [(dM 12),(dM 2),(dS .Eq (dM 10) (dN (.int 1)))])] [eu (TE (dS .Eq (el .Mod (dM 2) (dN (.int 3))) (dN (.int 1)))) [dX 12 (dO 943 [(fq [(dM 12),(fq [(dN (.str (aa "undefined")))])])])] [eu (gi [(TE (dS .Eq (el .Mod (dM 2) (dN (.int 3))) (dN (.int 2)))),(TE (dS .Eq (dM 3) (dN (.str (aa "[")))))]) [dX 12 (gy (dM 14) (.one 14) 1 (fL (dM 12)) [(TE (dS .NotEq (dM 14) (dN (.str (aa "undefined")))))])] []]],fx (ed dP (dM 7) 100 [(d8 [(dM 8),(dM 12),(dM 10),(dN (.int 0))])]),dX 13 (kA (TE (dS .In (dQ (dM 8) (dN (.int 0))) (dN (.str (aa "01"))))) (el .Add (el .Add (dN (.str (aa "\""))) (dM 8)) (dN (.str (aa "\"")))) (dM 8)),oY (dM 6) (dM 13) (d8 [(kA (TE (dS .In (dM 13) (dM 6))) (dO 943 [(fq [(dQ (dQ (dM 6) (dM 13)) (dN (.int 0))),(dM 12)])]) (dM 12)),(dM 10),(el .Add (dO 1007 [(dM 2),(el .Mod (dM 11) (dN (.int 2)))]) (kA (TE (dS .Eq (dQ (dM 1) (dN (.int 0))) (dN (.int 0)))) (el .Mult (el .FloorDiv (dM 11) (dN (.int 2))) (dN (.int 2))) (dN (.int 0))))])]
noncomputable def Cv:ab BS:=[oy [3,4,5] (dM 0),eu (gi [(TE (dS .NotEq (dM 3) (dN (.str (aa "["))))),(TE (dS .NotEq (dM 3) (dN (.str (aa "{")))))]) [dY (dM 0)] [],dX 6 qy,dX 7 (hV .own []),iy (.many [8,9,10,11]) (fL (dM 4)) hY,eu (TE (dS .Eq (dM 3) (dN (.str (aa "["))))) [dY (d8 [(dM 3),(dM 7),(dO 1007 [(dM 2),(dM 5)])])] [],dY (d8 [(dM 3),(gy (d8 [(dM 14),(dQ (dQ (dM 6) (dM 14)) (dN (.int 0))),(dQ (dQ (dM 6) (dM 14)) (dN (.int 1))),(dQ (dQ (dM 6) (dM 14)) (dN (.int 2)))]) (.one 14) 1 (fL (gN 201 [(dM 6)])) []),(dN (.int 0))])]
noncomputable def pF:ab BS:=[oy [7,8,9] (dM 5),dX 10 (dM 4),eu (TE (dS .Eq (dM 7) (dN (.int 0)))) [dX 10 (ed dP (dM 0) 111 [(d8 [(dN (.int 15)),(dM 1),(dM 4)])])] [],eu (TE (dS .Eq (dM 7) (dN (.int 2)))) [dX 10 (dO 976 [(dM 0),(dM 9)])] [],eu (TE (dS .Eq (dM 8) (dN (.int 1)))) [dX 10 (dO 201 [(dM 0),(fq [(d8 [(dM 10),(dN (.int 0))])])])] [],eu (TE (dS .Eq (dM 8) (dN (.int 2)))) [dX 10 (dO 289 [(dM 0),(fq [(dM 10),(dN (.int 5))])])] [],eu (TE (dS .Eq (dM 8) (dN (.int 3)))) [dX 10 (dO 174 [(dM 0),(dM 10),(dN (.int 1))])] [],dX 11 (dO 976 [(dM 0),(dM 2)]),eu (TE (dS .Lt (dM 3) (dN (.int 3)))) [dX 11 (ed dP (dM 0) 111 [(d8 [(dN (.int 14)),(dM 1)])])] [],eu (TE (dS .Eq (dM 3) (dN (.int 3)))) [dX 11 (ed dP (dM 0) 111 [(d8 [(dN (.int 7)),(d8 [(ed dP (dM 0) 111 [(d8 [(dN (.int 14)),(dM 1)])]),(dM 11)])])])] [],dY (d8 [(dN (.int 17)),(dQ (dQ (d' (dM 0) 0) (dM 4)) (dN (.int 1))),(dM 11),(kA (TE (dS .Eq (dM 3) (dN (.int 2)))) (dM 4) (lY 1)),(dM 10),(el .Mod (dM 6) (dN (.int 3))),(el .FloorDiv (dM 6) (dN (.int 3)))])]
noncomputable def fc:ab BS:=[dX 6 (dO 938 [(dM 2),(dN (.int 5))]),dX 7 (dO 938 [(dM 2),(dN (.int 9))]),dX 8 (kA (i5 [(TE (dS .Eq (dM 6) (dN (.int 1)))),(TE (dS .Eq (dM 6) (dN (.int 4))))]) (el .Add (dO 938 [(dM 2),(dN (.int 2))]) (dN (.int 1))) (dN (.int 0))),dX 9 (kA (TE (dS .Gt (dM 8) (dN (.int 0)))) (dO 938 [(dM 2),(dN (.int 4))]) (dN (.int 0))),dX 10 (kA (i5 [(TE (dS .Eq (dM 8) (dN (.int 2)))),(TE (dS .Eq (dM 4) (dN (.int 0))))]) (dO 964 [(dO 938 [(dM 2),(dN (.int 3000))])]) (fq [])),dX 11 (kA (TE (dS .Gt (dM 6) (dN (.int 2)))) (el .Add (dN (.int 1)) (dO 938 [(dM 2),(dN (.int 127))])) (dN (.int 1))),eu (gi [(TE (dS .Eq (dM 6) (dN (.int 3)))),(i5 [(TE (dS .NotEq (gN 200 [(dM 5)]) (dN (.int 1)))),(TE (dS .NotEq (dQ (dQ (dM 5) (dN (.int 0))) (dN (.int 0))) (dN (.str (aa "{"))))),(TE (dS .Lt (dM 4) (dN (.int 11))))])]) [dX 6 (dN (.int 0))] [],dX 12 (gy (dM 19) (.one 19) 1 (fL (dM 5)) [(TE (dS .Eq (dQ (dM 19) (dN (.int 0))) (dN (.str (aa "[")))))]),dX 13 (gy (dM 19) (.one 19) 1 (fL (dM 12)) [(gi [(TE (dS .Gt (gN 200 [(dQ (dM 19) (dN (.int 1)))]) (dN (.int 1)))),(TE (dS .Eq (dQ (dQ (dQ (dM 19) (dN (.int 1))) (lY 1)) (dN (.int 2))) (dN (.int 2))))])]),eu (gi [(TE (dS .Eq (dM 6) (dN (.int 2)))),(TE (dS .Gt (gN 200 [(dM 12)]) (dN (.int 0))))]) [dX 6 (dN (.int 0))] [],eu (gi [(TE (dS .Eq (dM 6) (dN (.int 1)))),(TE (dS .Eq (dM 8) (dN (.int 1)))),(TE (dS .Gt (gN 200 [(dM 13)]) (dN (.int 0))))]) [dX 8 (dN (.int 0)),dX 9 (dN (.int 0))] [],eu (gi [(TE (dS .Eq (dM 4) (dN (.int 0)))),(TE (dS .Eq (dM 8) (dN (.int 0))))]) [dX 8 (dN (.int 2))] [],dX 14 (d8 [(dM 8),(dM 9),(dM 10)]),dX 15 (dM 5),dX 16 (fq []),eu (TE (dS .Eq (dM 6) (dN (.int 4)))) [dX 16 (dO 943 [(gy (fq [(dQ (dN lb) (dM 19))]) (.one 19) 1 (la (dN (.int 7))) [(TE (dS .Eq (el .Mod (el .FloorDiv (dM 11) (el .Pow (dN (.int 2)) (dM 19))) (dN (.int 2))) (dN (.int 1))))])]),dX 15 (fq [(d8 [(dN (.str (aa "{"))),(gy (d8 [(dM 19),(fq []),(kA (TE (dS .In (dM 19) (d8 [(dN (.str (aa "string"))),(dN (.str (aa "number")))]))) (dN (.int 2)) (dN (.int 0))),(dN (.int 0))]) (.one 19) 1 (fL (dM 16)) []),(dN (.int 0))])])] [],eu (TE (dS .Eq (dM 6) (dN (.int 3)))) [dX 17 (dQ (dQ (dM 5) (dN (.int 0))) (dN (.int 1))),dX 16 (dO 943 [(gy (fq [(dQ (dQ (dM 17) (dM 19)) (dN (.int 0)))]) (.one 19) 1 (la (gN 200 [(dM 17)])) [(TE (dS .Eq (el .Mod (el .FloorDiv (dM 11) (el .Pow (dN (.int 2)) (dM 19))) (dN (.int 2))) (dN (.int 1))))])]),dX 15 (fq [(d8 [(dN (.str (aa "{"))),(gy (dM 19) (.one 19) 1 (fL (dM 17)) [(TE (dS .In (dQ (dM 19) (dN (.int 0))) (dM 16)))]),(dN (.int 0))])])] [],dX 18 (dO 854 [(dM 1),(dO 1050 [(dM 0),(dM 4),(dM 16),(dM 6),(dM 3),(dM 14),(dM 7)])]),dY (d8 [(dM 18),(gy (dO 1043 [(dM 19),(dM 14),(dM 7)]) (.one 19) 1 (fL (dM 15)) [])])]
noncomputable def u0:ab BS:=[oy [6,7] (dO 1055 [(dM 2),(dM 3),(dM 1),(dM 4),(dM 6),(dM 7)]),eu (TE (dS .NotEq (dO 1031 [(dM 2),(dM 6)]) (dO 943 [(gy (fq [(dO 1012 [(dM 9)])]) (.one 9) 1 (fL (dM 7)) [])]))) [dY (dN (.bool false))] []]
noncomputable def qA:ab BS:=[dX 1 (Og (dM 9) (.one 9) 1 (fL (Sm (dM 0) 40)) []),dX 2 (Pb 139 122 []),dX 3 (Pb 926 916 [(dM 2)]),dX 4 (dO 242 [(dM 2),(dN (.str (aa "P")))]),dX 5 (el .Add (dN (.int 1)) (dO 938 [(dM 1),(dN (.int 4))])),oy [6,7] (dO 995 [(dM 2),(dM 1)]),iy (.one 8) (la (dM 5)) u0,dY (dN (.bool true))]
noncomputable def IY(call:Nat->Nat->ab V->Hp->ae (V×Hp))(J N:Nat)(Z:ab D)(b:bp)(R:ab MS)(wm:Nat)(args:ab V)(H:Hp):ae (V×Hp):=(uw J args Z).bind λU=>(d5 R ⟨call,if b then wm else H.length⟩ (U.map some++bJ (N-U.length) none) H).bind λq=>match b with|true=>(match q.1with|.er=>some (.d .fS,q.2.2)|_=>none)|false=>(match q.1with|.er=>some (.d .fS,q.2.2.take H.length)|.ret v=>(toD v q.2.2).map λx=>(.d x.1,x.2.take H.length)|_=>none)
theorem MD:∃C:Nat->Nat->Nat->ab V->Hp->ae (V×Hp),C=nQ:=⟨_,rfl⟩
noncomputable def cF:Nat->Nat->Nat->ab V->Hp->ae (V×Hp):=ac2 MD
theorem Iw:cF=nQ:=abL MD
noncomputable def runC(call:Nat->Nat->ab V->Hp->ae (V×Hp))(J N:Nat)(Z:ab D)(b:bp)(R:ab BS)(wm:Nat)(args:ab V)(H:Hp):ae (V×Hp):=IY call J N Z b (R.map BS.run) wm args H
section
open Lean
set_option compiler.extract_closed false in def Rn:Syntax:=.node .none ``Parser.Tactic.tacticSeq #[.node .none ``Parser.Tactic.tacticSeq1Indented #[.node .none `null #[.node .none ``Parser.Tactic.tacticRfl #[mkAtom "rfl"]]]]
set_option compiler.extract_closed false in def MQ:Syntax:=.node .none ``Parser.Tactic.tacticSeq #[.node .none ``Parser.Tactic.tacticSeq1Indented #[.node .none `null #[.node .none `tacticKernel_rfl #[mkAtom "kernel_rfl"]]]]
end
noncomputable abbrev CI(f J N:Nat)(Z:ab D)(c:bp)(b:ab BS):Prop:=∀n wm args H,cF (n+1) wm f args H=runC (cF n) J N Z c b wm args H
noncomputable abbrev CJ(f J N:Nat)(b:ab BS):Prop:=CI f J N [] false b
theorem dW(e:ahs)(c:ab Str)(l:dA (Pk f=some ⟨e,Z,c,d⟩) MQ)(hd:dA (EY c e=b.map BS.run) MQ)(k:dA (((fB (ew e)).length,(f9 (ef e)).length)=(J,N)) MQ):CI f J N Z d b:=by intro n m g H;have i:=ag Prod.fst k;have j:=ag Prod.snd k;simp only at i j;refine sY Iw ?_;unfold nQ;rw[l];simp only[bh,M7,runC,IY,hd,i,j];try rfl
noncomputable def Fm(k:Nat)(x:D×Hp):V×Hp:=(.d x.1,x.2.take k)
noncomputable def fin(k:Nat)(q:Fl×Loc×Hp):ae (V×Hp):=match q.1with|.er=>some (.d .fS,q.2.2.take k)|.ret v=>(toD v q.2.2).map (Fm k)|_=>none
noncomputable def Te(q:Fl×Loc×Hp):ae (V×Hp):=match q.1with|.er=>some (.d .fS,q.2.2)|_=>none
section
variable{call:Nat->Nat->ab V->Hp->ae (V×Hp)}{J N:Nat}{Z:ab D}{R:ab BS}{wm:Nat}{args:ab V}{H:Hp}{U:ab V}
noncomputable def uy(N:Nat)(U:ab V):Loc:=U.map some++bJ (N-U.length) none
theorem ip(h:uw J args Z=some U):runC call J N Z false R wm args H=(d5 (R.map BS.run) ⟨call,H.length⟩ (uy N U) H).bind (fin H.length):=by unfold runC IY;rw[h];rfl
theorem FL(h:uw J args Z=some U):runC call J N Z true R wm args H=(d5 (R.map BS.run) ⟨call,wm⟩ (uy N U) H).bind Te:=by unfold runC IY;rw[h];rfl
end
section
variable{x:D}{i n f:Nat}{m o k a b:BE}{C es:ab BE}{t:BT}{ts:ab BT}{j:BI}{tg:Tg}{md:Mode}{R:dE}{Z:afb}{z:Int}{g:bp}{M:mN}{I:ab Nat}{O sb:ab BS}
end
@[simp]theorem Ux:fin k (.er,l,H)=some (.d .fS,H.take k):=rfl
@[simp]theorem Uo:fin k (.ret v,l,H)=(toD v H).map (Fm k):=rfl
@[simp]theorem Ti:Fm k (x,H)=(.d x,H.take k):=rfl
@[simp]theorem Sj:Te (.er,l,H)=some (.d .fS,H):=rfl
section
variable{c:Cx}{l:Loc}{H:Hp}{m m2 o k a b:ME}{C:ab ME}{x y:D}{v:V}{Z:ab D}{U:ab V}{G:ab MS}{i j:Nat}
noncomputable def Zg(H:Hp)(o:ae V):ae (V×Hp):=o.map λv=>(v,H)
@[simp]theorem Xm:toD (.d x) H=some (x,H):=rfl
noncomputable def kD(r:V×Hp):ae (D×Hp):=toD r.1 r.2
noncomputable def Q!(C:ab ME)(c:Cx)(l:Loc)(r:D×Hp):ae (ab D×Hp):=(Li C c l r.2).map λq=>(r.1::q.1,q.2)
noncomputable def Wx(x:D)(q:ab D×Hp):ab D×Hp:=(x::q.1,q.2)
noncomputable def τ(C:ab ME)(c:Cx)(l:Loc)(r:V×Hp):ae (ab V×Hp):=(ig r.1 r.2).bind λr=>(mV C c l r.2).map λq=>(r.1::q.1,q.2)
noncomputable def z!(C:ab ME)(c:Cx)(l:Loc)(r:V×Hp):ae (ab V×Hp):=(mV C c l r.2).map λq=>(r.1::q.1,q.2)
noncomputable def OT(v:V)(q:ab V×Hp):ab V×Hp:=(v::q.1,q.2)
@[simp]theorem XW:ig (.d x) H=some (.d x,H):=rfl
@[simp]theorem TP:ig (.ins i j) H=some (.ins i j,H):=rfl
noncomputable def Zh(r:ab D×Hp):V×Hp:=(.d (.tup r.1),r.2)
noncomputable def Wt(r:ab D×Hp):V×Hp:=(.d (.lst r.1),r.2)
noncomputable def Xy(md:Mode)(r:ab D×Hp):V×Hp:=(.ref r.2.length,r.2++[.lst r.1 md])
noncomputable def n!(m:ME)(c:Cx)(l:Loc)(r:D×Hp):ae (V×Hp):=(eD m c l r.2).bind λb=>match r.1with|.int i=>some (.ref b.2.length,b.2++[.eH [(.int i,b.1)] false])|_=>none
noncomputable def a!(x:D)(b:D×Hp):ae (V×Hp):=match x with|.int i=>some (.ref b.2.length,b.2++[.eH [(.int i,b.1)] false])|_=>none
noncomputable def Xf(f:Nat)(c:Cx)(r:ab V×Hp):ae (V×Hp):=c.call c.wm f r.1 r.2
noncomputable def Sb(cl i:Nat)(q:V×Hp):ae (V×Hp):=match q.1with|.d .fS=>some (.ins cl i,q.2)|_=>none
noncomputable def Zf(cl d:Nat)(c:Cx)(r:ab V×Hp):ae (V×Hp):=(c.call c.wm d (.ins cl r.2.length::r.1) (r.2++[.ins []])).bind (Sb cl r.2.length)
noncomputable def M0(cl i:Nat)(q:V×Hp):ae (V×Hp):=match q.1with|.d .fS=>jf cl i q.2|_=>none
noncomputable def R7(cl d:Nat)(c:Cx)(r:ab V×Hp):ae (V×Hp):=(c.call r.2.length d (.ins cl r.2.length::r.1) (r.2++[.ins []])).bind (M0 cl r.2.length)
theorem Kc{call:Nat->Nat->ab V->Hp->ae (V×Hp)}:R7 cl i ⟨call,wm⟩ (U,H)=(call H.length i (.ins cl H.length::U) (H++[.ins []])).bind (M0 cl H.length):=rfl
noncomputable def Ye(k:ME)(c:Cx)(l:Loc)(r:V×Hp):ae (V×Hp):=(eD k c l r.2).bind λq=>(fZ r.1 q.1 q.2).map λv=>(v,q.2)
noncomputable def X9(v:V)(q:D×Hp):ae (V×Hp):=(fZ v q.1 q.2).map λv=>(v,q.2)
noncomputable def Sk(H:Hp)(v:V):V×Hp:=(v,H)
noncomputable def T!(n:Nat)(r:V×Hp):ae (V×Hp):=match r.1with|.d (.lst Z)=>some (.d (.lst (Z.take n)),r.2)|_=>none
noncomputable def Q5(r:V×Hp):ae (V×Hp):=match r.1with|.d (.str s)=>if 2<=s.cps.size/\s.cps.size<=big then some (.d (.str ⟨(s.cps.toList.drop 1).dropLast.toArray⟩),r.2)else none|_=>none
@[simp]theorem JZ:Q5 (.d (.str s),H)=if 2<=s.cps.size/\s.cps.size<=big then some (.d (.str ⟨(s.cps.toList.drop 1).dropLast.toArray⟩),H)else none:=rfl
noncomputable def Ya(a:Nat)(r:V×Hp):ae (V×Hp):=(ky r.1 a r.2).map (Sk r.2)
noncomputable def XZ(M:mN)(n:Nat)(es:ab ME)(c:Cx)(l:Loc)(r:V×Hp):ae (V×Hp):=if iY M r.1 n r.2then(mV es c l r.2).bind λq=>fK M c r.1 n q.1 q.2 else none
noncomputable def VK(M:mN)(c:Cx)(v:V)(n:Nat)(q:ab V×Hp):ae (V×Hp):=fK M c v n q.1 q.2
noncomputable def Zr(R:dE)(b:ME)(c:Cx)(l:Loc)(x:D×Hp):ae (V×Hp):=(eD b c l x.2).bind λy=>(fv R x.1 y.1).map λz=>(.d z,y.2)
noncomputable def Yc(R:dE)(x:D)(y:D×Hp):ae (V×Hp):=(fv R x y.1).map λz=>(.d z,y.2)
noncomputable def NM(H:Hp)(x:D):V×Hp:=(.d x,H)
noncomputable def ε(R:afb)(b:ME)(c:Cx)(l:Loc)(x:D×Hp):ae (V×Hp):=(b c l x.2).bind λy=>(f6 R x.1 y.1 y.2).map λz=>(.d (.bool z),y.2)
noncomputable def XT(R:afb)(x:D)(y:V×Hp):ae (V×Hp):=(f6 R x y.1 y.2).map λz=>(.d (.bool z),y.2)
noncomputable def VU(H:Hp)(z:bp):V×Hp:=(.d (.bool z),H)
noncomputable def Yl(I:bp)(r:V×Hp):V×Hp:=(.d (.bool (isNone r.1!=I)),r.2)
section
variable{t:MT}{ts:ab MT}
noncomputable def kT(r:V×Hp):ae (bp×Hp):=(jn r.1 r.2).map λb=>(b,r.2)
noncomputable def ω(H:Hp)(z:bp):bp×Hp:=(z,H)
noncomputable def C!(r:bp×Hp):bp×Hp:=(!r.1,r.2)
noncomputable def Si(ts:ab MT)(c:Cx)(l:Loc)(r:bp×Hp):ae (bp×Hp):=match r.1with|true=>gM ts c l r.2|false=>some (false,r.2)
@[simp]theorem UJ:Si [] c l (z,H)=some (z,H):=by rcases z with⟨⟩<;>rfl
noncomputable def Xk(ts:ab MT)(c:Cx)(l:Loc)(r:bp×Hp):ae (bp×Hp):=match r.1with|true=>some (true,r.2)|false=>Ce ts c l r.2
noncomputable def ZB(a b:ME)(c:Cx)(l:Loc)(r:bp×Hp):ae (V×Hp):=match r.1with|true=>a c l r.2|false=>b c l r.2
noncomputable def YL(C:ab ME)(c:Cx)(l:Loc)(r:V×Hp):ae (V×Hp):=(jn r.1 r.2).bind λb=>match b with|true=>yP C c l r.2|false=>some r
noncomputable def XV(C:ab ME)(c:Cx)(l:Loc)(v:V)(H:Hp)(b:bp):ae (V×Hp):=match b with|true=>yP C c l H|false=>some (v,H)
noncomputable def y!(C:ab ME)(c:Cx)(l:Loc)(r:V×Hp):ae (V×Hp):=(jn r.1 r.2).bind λb=>match b with|true=>some r|false=>OU C c l r.2
noncomputable def ZU(C:ab ME)(c:Cx)(l:Loc)(v:V)(H:Hp)(b:bp):ae (V×Hp):=match b with|true=>some (v,H)|false=>OU C c l H
end
noncomputable def XE(C:ab ME)(c:Cx)(l:Loc)(r:V×Hp):ae (ab V×Hp):=(yn C c l r.2).map (OT r.1)
noncomputable def Ze(f:Nat)(r:ab V×Hp):ae (V×Hp):=(iu f r.1 r.2).map (NM r.2)
noncomputable def W8(r:V×Hp):ae (ab D×Hp):=ji r.1 r.2
noncomputable def HT(r:D×Hp):ae (ab D×Hp):=match r.1with|.int n=>if 0<=n/\n<2^20then some ((bx n.toNat).map λ(i:Nat)=>D.int (i:Int),r.2)else none|_=>none
@[simp]theorem Q0{n:Nat}(h:n<2^20):HT (.int (n:Int),H)=some ((bx n).map λ(i:Nat)=>D.int (i:Int),H):=by unfold HT;have:(0:Int)<=n/\(n:Int)<2^20:=⟨(cI _),by lia⟩;simp only[this,and_self,adp,acM]
noncomputable def XI(elt:ME)(tg:Tg)(k:Nat)(cs:ab MT)(c:Cx)(l:Loc)(r:ab D×Hp):ae (V×Hp):=(fa elt tg (gM cs) c r.1 (l++bJ k none) r.2).map Wt
variable{t:MT}{O sb:ab MS}
theorem yc:∀{O:ab MS}{l:Loc}{H:Hp},d5 (O++G) c l H=(d5 O c l H).bind λr=>match r.1with|.er=>d5 G c r.2.1 r.2.2|f=>some (f,r.2):=by intro O;induction O with|nil=>intro _ _;exact rfl|cons s O ih=>intro l H;simp only[aaP,d5];cases s c l H with|none=>rfl|some r=>obtain⟨f,e,d⟩:=r;induction f using Fl.casesOn with|er=>exact ih|_=>rfl
noncomputable def X6(G:ab MS)(c:Cx)(r:Fl×Loc×Hp):ae (Fl×Loc×Hp):=match r.1with|.er=>d5 G c r.2.1 r.2.2|f=>some (f,r.2)
noncomputable def ο(i:Nat)(l:Loc)(r:V×Hp):Fl×Loc×Hp:=(.er,l.set i (some r.1),r.2)
noncomputable def Xx(I:ab Nat)(l:Loc)(r:V×Hp):ae (Fl×Loc×Hp):=match r.1with|.d (.tup Z)=>(iS I Z l).map λl'=>(.er,l',r.2)|_=>none
noncomputable def Y8(H:Hp)(l:Loc):Fl×Loc×Hp:=(.er,l,H)
@[simp]theorem S1:iS [] [] l=some l:=rfl
@[simp]theorem Tj:iS (i::I) (x::Z) l=iS I Z (l.set i (some (.d x))):=rfl
noncomputable def YQ(w:V)(i a:Nat)(c:Cx)(l:Loc)(H:Hp)(z:Cell):ae (Fl×Loc×Hp):=match z with|.ins fs=>if(w.plain||decide (c.wm<=i))&&decide (fs.length<100)then some (.er,l,H.set i (.ins (kS a w fs)))else none|_=>none
noncomputable def VD(w:V)(a:Nat)(c:Cx)(l:Loc)(q:V×Hp):ae (Fl×Loc×Hp):=match q.1with
 |.ins _ i=>match q.2[i]?with|some (.ins fs)=>if(w.plain||decide (c.wm<=i))&&decide (fs.length<100)then some (.er,l,q.2.set i (.ins (kS a w fs)))else none|_=>none
 |_=>none
noncomputable def Yw(o:ME)(a:Nat)(c:Cx)(l:Loc)(r:V×Hp):ae (Fl×Loc×Hp):=(o c l r.2).bind (VD r.1 a c l)
noncomputable def We(i:Nat)(l:Loc)(H:Hp)(B:ab (D×D)):Fl×Loc×Hp:=(.er,l,H.set i (.eH B false))
noncomputable def YV(x y:D)(i:Nat)(l:Loc)(H:Hp)(z:Cell):ae (Fl×Loc×Hp):=match z with|.eH B false=>if(x.sort.any λk=>eg k B)/\B.length<big then(jF x y B).map (We i l H)else none|_=>none
noncomputable def Wi(y:D)(v:V)(l:Loc)(p:D×Hp):ae (Fl×Loc×Hp):=match v with
 |.ref i=>match p.2[i]?with|some (.eH B false)=>if(p.1.sort.any λk=>eg k B)/\B.length<big then(jF p.1 y B).map λd=>(.er,l,p.2.set i (.eH d false))else none|_=>none
 |_=>none
noncomputable def WU(y:D)(k:ME)(c:Cx)(l:Loc)(q:V×Hp):ae (Fl×Loc×Hp):=(eD k c l q.2).bind (Wi y q.1 l)
noncomputable def Y3(o k:ME)(c:Cx)(l:Loc)(r:D×Hp):ae (Fl×Loc×Hp):=(o c l r.2).bind (WU r.1 k c l)
noncomputable def RY(i:Nat)(R:dE)(x:D)(l:Loc)(y:D×Hp):ae (Fl×Loc×Hp):=match R,x,y.1with|.Add,.int a,.int b=>some (.er,l.set i (some (.d (.int (a+b)))),y.2)|_,_,_=>none
noncomputable def Xq(i:Nat)(R:dE)(m:ME)(c:Cx)(l:Loc)(x:D×Hp):ae (Fl×Loc×Hp):=(eD m c l x.2).bind (RY i R x.1 l)
noncomputable def Xv(l:Loc)(r:V×Hp):ae (Fl×Loc×Hp):=match r.1with|.d x=>if x.flat then some (.er,l,r.2)else none|_=>none
noncomputable def Yn(a b:ab MS)(c:Cx)(l:Loc)(r:bp×Hp):ae (Fl×Loc×Hp):=match r.1with|true=>d5 a c l r.2|false=>d5 b c l r.2
@[simp]theorem TM:QJ t O sb c l H=(t c l H).bind (Yn O sb c l):=rfl
@[simp]theorem TB:Yn O sb c l (true,H)=d5 O c l H:=rfl
noncomputable def kFor(tg:Tg)(b:ab MS)(c:Cx)(l:Loc)(r:ab D×Hp):ae (Fl×Loc×Hp):=g' tg (d5 b) c r.1 l r.2
noncomputable def YD(l:Loc)(r:V×Hp):Fl×Loc×Hp:=(.ret r.1,l,r.2)
noncomputable def TU(tg:Tg)(b:MS)(c:Cx)(Z:ab D)(r:Fl×Loc×Hp):ae (Fl×Loc×Hp):=match r.1with|.er|.cnt=>g' tg b c Z r.2.1 r.2.2|.brk=>some (.er,r.2)|.ret v=>some (.ret v,r.2)
noncomputable def Yf(tg:Tg)(b:MS)(c:Cx)(Z:ab D)(H:Hp)(l:Loc):ae (Fl×Loc×Hp):=(b c l H).bind (TU tg b c Z)
@[simp]theorem XH{b:MS}:g' tg b c [] l H=some (.er,l,H):=rfl
@[simp]theorem z0{b:MS}:g' tg b c (x::Z) l H=(hK tg x l).bind (Yf tg b c Z H):=rfl
@[simp]theorem Az{b:MS}:Yf tg b c Z H l=(b c l H).bind (TU tg b c Z):=rfl
@[simp]theorem RC{b:MS}:TU tg b c Z (.er,l,H)=g' tg b c Z l H:=rfl
@[simp]theorem UG:hK (.one i) x l=some (l.set i (some (.d x))):=rfl
@[simp]theorem UM:hK (.many I) (.tup Z) l=iS I Z l:=rfl
noncomputable def VI(x:D)(q:ab D×Hp):ab D×Hp:=(x::q.1,q.2)
noncomputable def QX(elt:ME)(tg:Tg)(cs:MT)(c:Cx)(Z:ab D)(l:Loc)(r:D×Hp):ae (ab D×Hp):=(fa elt tg cs c Z l r.2).map (VI r.1)
noncomputable def TX(elt:ME)(tg:Tg)(cs:MT)(c:Cx)(Z:ab D)(l:Loc)(b:bp×Hp):ae (ab D×Hp):=match b.1with|true=>(eD elt c l b.2).bind (QX elt tg cs c Z l)|false=>fa elt tg cs c Z l b.2
noncomputable def X5(elt:ME)(tg:Tg)(cs:MT)(c:Cx)(Z:ab D)(H:Hp)(l:Loc):ae (ab D×Hp):=(cs c l H).bind (TX elt tg cs c Z l)
@[simp]theorem X8:fa elt tg t c [] l H=some ([],H):=rfl
@[simp]theorem rI:fa elt tg t c (x::Z) l H=(hK tg x l).bind (X5 elt tg t c Z H):=by unfold fa;rfl
@[simp]theorem uX:X5 elt tg t c Z H l=(t c l H).bind (TX elt tg t c Z l):=rfl
@[simp]theorem Sr:TX elt tg t c Z l (true,H)=(eD elt c l H).bind (QX elt tg t c Z l):=rfl
@[simp]theorem R9:TX elt tg t c Z l (false,H)=fa elt tg t c Z l H:=rfl
@[simp]theorem zV:QX elt tg t c Z l (x,H)=(fa elt tg t c Z l H).map (VI x):=rfl
end
theorem mn:CJ 136 2 3 qZ:=dW (kF 63 2) []
theorem sT:CJ 938 2 2 yY:=dW (fA 162) []
theorem og:CJ 943 1 7 AB:=dW (fA 163) [(aa "got")]
theorem n6:CJ 249 2 3 za:=dW (fA 77) []
theorem lT:CJ 270 1 1 vl:=dW (fA 80) []
theorem eG:CJ 256 1 2 r6:=dW (fA 78) []
theorem km:CJ 263 2 3 sL:=dW (fA 79) []
theorem sE:CJ 277 3 3 sV:=dW (fA 81) []
theorem su:CJ 284 1 2 HA:=dW (fA 82) []
theorem JV:CJ 289 2 7 oK:=dW (fA 83) []
theorem qN:CJ 957 1 2 yh:=dW (fA 165) [(aa "parts")]
theorem Ac:CI 158 3 3 [(.int 0)] false Al:=dW (fA 65) []
theorem zH:CI 166 3 3 [(.int 0)] false zr:=dW (fA 66) []
theorem oi:CJ 971 2 2 zK:=dW (fA 167) []
theorem Ar:CJ 976 2 2 zF:=dW (fA 168) []
theorem sx:CJ 206 1 3 sr:=dW (fA 72) []
theorem tb:CI 218 7 7 [(.tup []),(.tup []),(.tup []),(.tup []),(.int 0)] false y8:=dW (fA 73) []
theorem lZ:CJ 964 1 1 zO:=dW (fA 166) []
theorem uU:CJ 983 2 15 iP:=dW (fA 169) [(aa "props"),(aa "slots")]
theorem wc:CI 174 3 3 [(.int 0)] false uW:=dW (fA 67) []
theorem w0:CJ 181 2 4 wV:=dW (fA 68) []
theorem qh:CJ 188 2 7 qc:=dW (fA 69) [(aa "out")]
theorem sf:CJ 195 3 8 Ah:=dW (fA 70) [(aa "held")]
theorem j3:CI 201 3 5 [(.int 0)] false iT:=dW (fA 71) []
theorem zE:CJ 990 2 11 yL:=dW (fA 170) [(aa "elems"),(aa "slots")]
theorem iN:CJ 995 2 10 fI:=dW (fA 171) [(aa "types"),(aa "pieces")]
theorem sa:CJ 950 1 1 yC:=dW (fA 164) []
theorem l0:CJ 1012 1 5 Av:=dW (fA 174) []
theorem nW:CJ 1019 3 4 y7:=dW (fA 175) []
theorem g8:CJ 1024 2 4 lz:=dW (fA 176) [(aa "slots")]
theorem Ag:CJ 1031 2 7 nT:=dW (fA 177) [(aa "got")]
theorem vF:CJ 349 2 2 v5:=dW (kF 96 1) []
theorem sq:CJ 586 2 3 FX:=dW (fA 112) []
theorem lr:CJ 645 2 3 pW:=dW (fA 117) []
theorem DH:CJ 150 2 2 Dw:=dW (fA 64) []
theorem qa:CJ 558 2 6 Dz:=dW (fA 107) []
theorem jv:CJ 652 4 7 tP:=dW (fA 118) []
theorem qV:CI 612 1 1 [] true mi:=dW (kF 116 0) []
theorem w8:CJ 631 2 3 w5:=dW (kF 116 3) []
theorem z7:CJ 859 3 3 zp:=dW (fA 148) []
theorem mX:CJ 876 3 5 mQ:=dW (fA 151) []
theorem yv:CJ 895 4 5 zG:=dW (fA 154) []
theorem jH:CJ 902 3 4 hW:=dW (fA 155) []
theorem lj:CJ 923 3 3 pY:=dW (kF 157 1) []
theorem qv:CJ 713 3 4 xw:=dW (fA 127) []
theorem qt:CJ 565 2 3 wF:=dW (fA 108) []
theorem oo:CJ 572 2 2 yD:=dW (fA 109) []
theorem z':CJ 619 5 7 Aq:=dW (kF 116 1) [(aa "parts")]
theorem lB:CJ 626 5 7 qb:=dW (kF 116 2) []
theorem jg:CJ 678 2 2 qd:=dW (fA 122) []
theorem tY:CJ 685 3 3 tx:=dW (fA 123) []
theorem Dc:CJ 294 3 3 CX:=dW (fA 84) []
theorem rg:CJ 657 2 6 qT:=dW (fA 119) []
theorem qB:CJ 664 2 3 wH:=dW (fA 120) []
theorem mc:CJ 671 2 2 qP:=dW (fA 121) []
theorem lW:CJ 692 2 2 vB:=dW (fA 124) []
theorem gB:CJ 699 5 7 tA:=dW (fA 125) []
theorem lO:CJ 706 3 6 eW:=dW (fA 126) []
theorem pz:CJ 741 6 13 fo:=dW (fA 129) []
theorem qX:CJ 748 4 8 qR:=dW (fA 130) []
theorem tN:CJ 328 2 4 tK:=dW (fA 92) []
theorem qY:CJ 489 2 2 rh:=dW (kF 97 0) []
theorem w6:CJ 593 1 1 xQ:=dW (fA 113) []
theorem pX:CI 727 4 4 [] true lu:=dW (kF 128 0) []
theorem rf:CJ 755 2 6 gr:=dW (fA 131) [(aa "entries")]
theorem r8:CJ 760 1 1 r9:=dW (fA 132) []
theorem lX:CJ 774 3 3 u4:=dW (fA 134) []
theorem qK:CJ 767 4 7 wW:=dW (fA 133) []
theorem ja:CJ 781 5 10 Aj:=dW (fA 135) []
theorem xm:CJ 788 4 8 xG:=dW (fA 136) [(aa "elems")]
theorem kg:CJ 320 2 5 Fs:=dW (fA 88) []
theorem sN:CJ 795 2 2 tn:=dW (fA 137) []
theorem gX:CJ 800 4 10 nV:=dW (fA 138) []
theorem m8:CJ 814 2 4 x7:=dW (fA 140) []
theorem sU:CJ 543 3 5 Ak:=dW (fA 102) []
theorem wK:CJ 835 2 5 x8:=dW (fA 143) []
theorem nR:CJ 840 3 12 tB:=dW (fA 144) [(aa "entries")]
theorem lQ:CJ 847 3 9 vY:=dW (fA 145) []
theorem nU:CJ 854 2 4 zI:=dW (fA 146) []
theorem jd:CJ 1000 3 3 yr:=dW (fA 172) []
theorem om:CJ 1007 2 2 zD:=dW (fA 173) []
theorem Ai:CJ 1038 3 7 lV:=dW (fA 178) []
theorem pK:CJ 1043 3 14 Cv:=dW (fA 179) [(aa "rows")]
theorem BM:CJ 1050 7 12 pF:=dW (fA 180) []
theorem zZ:CJ 1055 6 19 fc:=dW (fA 181) []
theorem R4:CJ 1060 1 9 qA:=dW (fA 182) [(aa "feed")]
noncomputable def S(w:W):Str:=⟨w.toArray⟩
noncomputable abbrev sD(w:W):D:=.str (S w)
noncomputable abbrev eF(k:ab W):D:=.lst (k.map sD)
@[simp]theorem Ta:S a=S b↔a=b:=by
 unfold S;constructor;.intro h;injection h with h;simpa using ag Array.toList h
 .intro h;rw[h]
@[simp]theorem TI:S a++S b=S (a++b):=by show Str.append _ _=_;simp[Str.append,S]
@[simp]theorem BB:(S a).length=a.length:=by simp[S,Str.length]
@[simp]theorem Vd:(S a).cps.size=a.length:=by simp[S]
@[simp]theorem xH:(S a).cps.toList=a:=by simp[S]
@[simp]theorem U9:aa "undefined"=S d6:=by rfl
@[simp]theorem Xa:aa "null"=S gx:=by rfl
@[simp]theorem Vn:aa "string"=S d0:=by rfl
@[simp]theorem U5:aa "number"=S dZ:=by rfl
@[simp]theorem Xb:aa "false"=S hJ:=by rfl
@[simp]theorem Wn:aa "true"=S i8:=by rfl
@[simp]theorem Ur:aa "\""=S [34]:=by rfl
@[simp]theorem UD:aa "["=S [91]:=by rfl
@[simp]theorem T9:aa "{"=S [123]:=by rfl
@[simp]theorem Uk:aa ":"=S [58]:=by rfl
@[simp]theorem Ut:aa "?"=S [63]:=by rfl
@[simp]theorem UI:aa ""=S []:=by rfl
@[simp]theorem Uw:aa "..."=S [46,46,46]:=by rfl
noncomputable abbrev By:W:=[114,101,97,100,111,110,108,121,32]
noncomputable abbrev QP:W:=[109,101,116,104,111,100,32]
@[simp]theorem UP:aa "readonly "=S By:=by rfl
@[simp]theorem Uc:aa "method "=S QP:=by rfl
@[simp]theorem Ue:aa "readonly method "=S (By++QP):=by rfl
@[simp]theorem TS:aa "P"=S [80]:=by rfl
@[simp]theorem UR:aa "0"=S [48]:=by rfl
@[simp]theorem US:aa "1"=S [49]:=by rfl
@[simp]theorem UW:aa "\"a\""=S [34,97,34]:=by rfl
@[simp]theorem TT:aa "\"b\""=S [34,98,34]:=by rfl
@[simp]theorem Us:aa "0123456789"=S [48,49,50,51,52,53,54,55,56,57]:=by rfl
section
variable{F:ab Int}{X Y:ab Cell}{n wm:Nat}{H:Hp}{x y:D}{a b:Int}{s u:Str}{w v:W}
@[simp]theorem Vb:f6 .Eq x (.d y) H=D.eqv x y:=rfl
@[simp]theorem Vq:f6 .NotEq x (.d y) H=(D.eqv x y).map (!·):=rfl
@[simp]theorem VE:f6 .Lt (.int a) (.d (.int b)) H=some (decide (a<b)):=rfl
@[simp]theorem WB:f6 .LtE (.int a) (.d (.int b)) H=some (decide (a<=b)):=rfl
@[simp]theorem W':f6 .Gt (.int a) (.d (.int b)) H=some (decide (b<a)):=rfl
@[simp]theorem WL:f6 .GtE (.int a) (.d (.int b)) H=some (decide (b<=a)):=rfl
@[simp]theorem Wj:f6 .In x z H=rn x z H:=rfl
@[simp]theorem UK:f6 .NotIn x z H=(rn x z H).map (!·):=rfl
@[simp]theorem YP:rn x (.d (.tup Z)) H=D.has x Z:=rfl
@[simp]theorem Zw:rn x (.d (.lst Z)) H=D.has x Z:=rfl
@[simp]theorem WS:D.eqv (.int a) (.int b)=some (decide (a=b)):=rfl
@[simp]theorem Vj:D.eqv (.str s) (.str u)=some (decide (s=u)):=rfl
@[simp]theorem VF:D.eqv (.tup Z) (.tup ys)=eqvAll (D.k8 59) Z ys:=rfl
@[simp]theorem QE:eqvAll f [] []=some true:=rfl
@[simp]theorem QR:eqvAll f [] (x::Z)=some false:=rfl
@[simp]theorem QM:eqvAll f (x::Z) []=some false:=rfl
@[simp]theorem Xg:fZ (.d (.tup Z)) (.int a) H=(itemAt Z a).map .d:=rfl
@[simp]theorem XC:fZ (.d (.lst Z)) (.int a) H=(itemAt Z a).map .d:=rfl
@[simp]theorem Wf{k:Nat}:itemAt Z (k:Int)=Z[k]?:=by unfold itemAt;rw[aX (by lia)];simp
@[simp]theorem V8:itemAt (x::Z) 0=some x:=rfl
@[simp]theorem Vp:itemAt (x::y::Z) 1=some y:=rfl
@[simp]theorem Wl:itemAt (x::y::z::Z) 2=some z:=rfl
@[simp]theorem U6{w:D}:itemAt (x::y::z::w::Z) 3=some w:=rfl
theorem ED{a k v:D}(e:D.eqv a k=some true):hU k ((a,v)::r)=some (some v):=by show(match D.eqv a k with|some true=>_|some false=>_|none=>_)=_;rw[e]
theorem DQ{a k v:D}(e:D.eqv a k=some false):hU k ((a,v)::r)=hU k r:=by show(match D.eqv a k with|some true=>_|some false=>_|none=>_)=_;rw[e]
theorem Oh{a k v w:D}(e:D.eqv a k=some true):jF k v ((a,w)::r)=some ((a,v)::r):=by show(match D.eqv a k with|some true=>_|some false=>_|none=>_)=_;rw[e]
theorem Pf{a k v w:D}(e:D.eqv a k=some false):jF k v ((a,w)::r)=(jF k v r).map ((a,w)::·):=by show(match D.eqv a k with|some true=>_|some false=>_|none=>_)=_;rw[e]
theorem TN{x y:D}{a b:bp}(e:D.eqv y x=some a)(h:D.has x ys=some b):D.has x (y::ys)=some (a||b):=by show(match D.eqv y x,D.has x ys with|some a,some b=>some (a||b)|_,_=>none)=_;rw[e,h]
theorem Bu{c:Type}[bA c]{f:c->D}(d:∀a b,D.eqv (f a) (f b)=some (decide (a=b))){w:c}{k:ab c}:D.has (f w) (k.map f)=some (decide (w∈k)):=by induction k with|nil=>exact rfl|cons v k ih=>exact(TN (d v w) ih).trans (ag some (b6.mpr (by rw[de,aZ,aZ,aZ,ah,eq_comm])))
theorem x5{c:Type}[bA c]{f:c->D}{v:D}(d:∀a b,D.eqv (f a) (f b)=some (decide (a=b))){q:c}{k:ab c}:jF (f q) v (k.map λa=>(f a,v))=some ((if q∈k then k else k++[q]).map λa=>(f a,v)):=by induction k with|nil=>exact rfl|cons a k ih=>exact if h:a=q then(Oh ((d a q).trans (ag some (ay h)))).trans (ag (λl:ab c=>some (l.map λa=>(f a,v))) (aS (h▸.head _):(if q∈a::k then a::k else a::k++[q])=a::k)).symm else(Pf ((d a q).trans (ag some (aw h)))).trans ((ag (cx _) ih).trans (if m:q∈k then by rw[aS m,aS (.tail _ m)];rfl else by rw[aX m,aX λz=>(ah.mp z).elim (λe=>h e.symm) m];rfl))
theorem EN{c:Type}{p q:Prop}{_:dm p}{_:dm q}{x y:c}(h:p↔q):(if p then x else y)=if q then x else y:=if e:p then(aS e).trans (aS (h.mp e)).symm else(aX e).trans (aX λz=>e (h.mpr z)).symm
theorem vP(a b:W):D.eqv (sD a) (sD b)=some (decide (a=b)):=ag some (bU.mpr Ta)
theorem has_str{k:ab W}:D.has (sD w) (k.map sD)=some (decide (w∈k)):=(Bu vP).trans (ag some (bU.mpr Iff.rfl))
theorem has_int{k:ab Int}:D.has (.int m) (k.map D.int)=some (decide (m∈k)):=(Bu λ_ _=>rfl).trans (ag some (bU.mpr Iff.rfl))
noncomputable abbrev nD(n:Nat):D:=.int (n:Int)
theorem o5{m:Nat}{k:ab Nat}:D.has (.int (m:Int)) (k.map nD)=some (decide (m∈k)):=by have:=has_int (m:=(m:Int)) (k:=k.map (λ(i:Nat)=>(i:Int)));rw[aK]at this;refine this.trans ?_;congr 1;simp only[af,bU];exact⟨λc=>d9 c λa d e=>((bM.mp ‹_›):a=m)▸d,λh=>⟨m,h,rfl⟩⟩
@[simp]theorem RE:fZ (.d (.str (S (p::w)))) (.int 0) H=some (.d (.str (S [p]))):=by rfl
theorem MU(t:W)(h:(∀p<128,(cO (S t) (S [p]) 0 (S t).length 1).isEmpty=!decide (p∈t)))(c:p<128):rn (.str (S [p])) (.d (.str (S t))) H=some (decide (p∈t)):=by show(if(S [p]).cps.size=1then some (!(cO (S t) (S [p]) 0 (S t).length 1).isEmpty)else none)=_;rw[aS (show(S [p]).cps.size=1from rfl),h p c,Bool.not_not]
theorem Jj:∀p<128,decide (p∈[48,49,50,51,52,53,54,55,56,57])=decide (48<=p/\p<=57):=by decide+kernel
theorem Sy(c:p<128):rn (.str (S [p])) (.d (.str (S [48,49,50,51,52,53,54,55,56,57]))) H=some (decide (48<=p/\p<=57)):=by rw[MU _ (by decide+kernel) c,Jj p c]
theorem VQ(c:p<128):rn (.str (S [p])) (.d (.str (S [48,49]))) H=some (decide (p=48\/p=49)):=by rw[MU _ (by decide+kernel) c];simp
theorem Bb:(H++L)[H.length+k]?=L[k]?:=by rw[bj ((aG _ _))];simp
@[simp]theorem fD:(H++z::L)[H.length]?=some z:=by rw[bj ((aV _))];simp
@[simp]theorem SY:(H++z::z1::L)[H.length+1]?=some z1:=Bb
@[simp]theorem lq:(H++z::L).set H.length C=H++C::L:=by rw[bT _ _ (by lia)];simp
@[simp]theorem SV:(H++z::z1::L).set (H.length+1) C=H++z::C::L:=by rw[bT _ _ ((aG _ _))];simp
@[simp]theorem RN:(H++L).take H.length=H:=by simp
variable{i:Nat}{Z:ab D}{md:Mode}
theorem jm(h:H[i]?=some (.lst Z md))(m:Nat)(M:mN):iY M (.ref i) m H=decide (m=100\/m=101\/m=102):=by unfold iY;dsimp only;rw[h]
theorem TL(h:H[i]?=some (.lst Z md)):rn x (.ref i) H=D.has x Z:=by unfold rn;dsimp only;rw[h]
theorem Fv(h:H[i]?=some (.eH B z))(hs:(x.sort.any λq=>eg q B)=true):rn x (.ref i) H=(hU x B).map (·.isSome):=by unfold rn;dsimp only;rw[h];exact aS hs
theorem Ha{v:D}(h:H[i]?=some (.eH B z))(hs:(x.sort.any λq=>eg q B)=true)(c:hU x B=some (some v)):fZ (.ref i) x H=some (.d v):=by unfold fZ;dsimp only;rw[h];dsimp only;rw[aS hs,c]
theorem vE{a:Nat}(h:H[i]?=some (.ins fs)):ky (.ins c i) a H=fs.lookup a:=by unfold ky;dsimp only;rw[h]
theorem R5(h:H[i]?=some (.lst Z md)):ji (.ref i) H=some (Z,H.set i (.lst Z .fz)):=by unfold ji;dsimp only;rw[h]
theorem YY(h:H[i]?=some (.lst Z md)):jB (.ref i) H=some Z:=by unfold jB;dsimp only;rw[h]
theorem Dh{v:D}(h:H[i]?=some (.eH B false))(hs:(x.sort.any λq=>eg q B)=true)(d:B.length<big)(e:jF x v B=some c):IH x v (.ref i) H=some (H.set i (.eH c false)):=(ag (Uh x v i H) h).trans ((aS ⟨hs,d⟩).trans (ag (cx _) e))
theorem JP{a:Nat}{v:V}(h:H[i]?=some (.ins fs))(e:(v.plain||decide (wm<=i))=true)(d:fs.length<100):MW wm v a (.ins c i) H=some (H.set i (.ins (kS a v fs))):=(ag (U7 wm v a i H) h).trans (aS (bY.mpr ⟨e,ay d⟩))
theorem Lv(h:H[i]?=some (.lst Z md)):toD (.ref i) H=some (.lst Z,H.set i (.lst Z .fz)):=by unfold toD;dsimp only;rw[h]
theorem V6(h:H[i]?=some (.lst Z .own)):ig (.ref i) H=some (.d (.lst Z),H.set i (.lst Z .fz)):=by unfold ig;dsimp only;rw[h]
theorem YU(h:H[i]?=some (.lst Z .fz)):ig (.ref i) H=some (.d (.lst Z),H):=by unfold ig;dsimp only;rw[h]
theorem VB(h:H[i]?=some (.ins fs)):iY M (.ins c i) m H=(decide (110<=m)&&(M.lookup (c,m)).isSome):=by unfold iY;dsimp only;rw[h]
theorem V5(h:H[i]?=some (.eH B z)):iY M (.ref i) m H=decide (m=103):=by unfold iY;dsimp only;rw[h]
theorem Qg(h:H[i]?=some (.ins fs))(e:110<=m)(d:M.lookup (cl,m)=some f):fK M c (.ins cl i) m args H=c.call c.wm f (.ins cl i::args) H:=by unfold fK;dsimp only;rw[h];dsimp only;rw[aS e,d];rfl
theorem WA(h:H[i]?=some (.lst Z md))(f:md≠.fz)(e:Z.length+ys.length<=big):fK M c (.ref i) 101 [.d (.lst ys)] H=some (.d .fS,H.set i (.lst (Z++ys) md)):=by unfold fK;dsimp only;rw[h];exact aX λz=>z.elim f λz=>ax z (aam.mpr e)
theorem nv(h:H[i]?=some (.lst Z md))(f:md≠.fz)(e:Z.length<big):fK M c (.ref i) 100 [.d x] H=some (.d .fS,H.set i (.lst (Z++[x]) md)):=by unfold fK;dsimp only;rw[h];exact aX λz=>z.elim f λz=>ax z (adW.mpr e)
@[simp]theorem Vz:iY M (.ref H.length) 100 (H++.lst Z md::L)=true:=by rw[jm fD];rfl
theorem vX(e:Z.length<big):fK M c (.ref H.length) 100 [.d x] (H++.lst Z .own::L)=some (.d .fS,H++.lst (Z++[x]) .own::L):=by rw[nv fD (by decide) e,lq]
@[simp]theorem Wm:rn x (.ref H.length) (H++.lst Z md::L)=D.has x Z:=by unfold rn;dsimp only;rw[fD]
@[simp]theorem QV:ji (.ref H.length) (H++.lst Z md::L)=some (Z,H++.lst Z .fz::L):=by unfold ji;dsimp only;rw[fD];dsimp only;rw[lq]
@[simp]theorem Um:toD (.ref H.length) (H++.lst Z md::L)=some (.lst Z,H++.lst Z .fz::L):=by unfold toD;dsimp only;rw[fD];dsimp only;rw[lq]
@[simp]theorem UT:ig (.ref H.length) (H++.lst Z .own::L)=some (.d (.lst Z),H++.lst Z .fz::L):=by unfold ig;dsimp only;rw[fD];dsimp only;rw[lq]
theorem Oi{k:ab W}:sortBy kz (k.map S)=(sortBy eT k).map S:=lL (f:=S) (m:=kz) (B:=eT) λa b=>congr (ag eT xH) xH
theorem nX:∀{k:ab W},strsOf (k.map sD)=some (k.map S)|[]=>rfl|v::k=>by simp only[aH,strsOf,nX (k:=k)];rfl
theorem nk(h:k.length<64):mK (k.map sD)=some ((sortBy eT k).map sD):=by unfold mK;rw[aX (by simp;omega)];induction k using aW with|nil=>rfl|cons v k=>simp only[show intsOf ((v::k).map sD)=none from rfl,nX];simp only[Oi,aK];rfl
theorem u6:iu 201 [.d (.lst Z)] H=(mK Z).map .lst:=rfl
end
section
variable{α:Type}{c:Cx}{b:MS}{tg:Tg}{e:α->D}{elt:ME}{cs:MT}
noncomputable def UX(b:MS)(c:Cx)(H:Hp)(l:Loc):ae (Fl×Loc×Hp):=b c l H
@[simp]theorem Vc:UX b c H l=b c l H:=rfl
theorem Ho(h:O.length=1):hK (.one L.length) x (L++O)=some (L++[some (.d x)]):=by obtain⟨o,rfl⟩:=dC.mp h;.dsimp only[hK,Option.some.injEq];rw[bT _ _ ((aV _))];simp
theorem gA(L:Loc)(Z:ab α)(p:α->bp)(g:α->D)(f:∀x∈Z,cs c (L++[some (.d (e x))]) H=some (p x,H))(i:∀x∈Z,p x=true->eD elt c (L++[some (.d (e x))]) H=some (g x,H)):fa elt (.one L.length) cs c (Z.map e) (L++[o]) H=some ((Z.filter p).map g,H):=by
 induction Z generalizing o with
 |nil=>rfl|cons x Z ih=>
  have ih:=ih (λy h=>f y (.tail _ h)) (λy h=>i y (.tail _ h)) (o:=some (.d (e x)));rw[aH,rI,Ho rfl,bh,uX,f x (.head _),bh,cV];have j:=i x (.head _);generalize p x=b at*;rcases b with⟨⟩;.rw[R9,ih];rfl
  .rw[Sr,j rfl,bh,zV,ih];rfl
theorem fV(L:Loc)(Z:ab α)(g:α->D)(f:∀x∈Z,eD elt c (L++[some (.d (e x))]) H=some (g x,H)):fa elt (.one L.length) (gM []) c (Z.map e) (L++[o]) H=some (Z.map g,H):=by have:=gA (cs:=gM []) L Z (λ_=>true) g (λ_ _=>rfl) (λx i _=>f x i) (o:=o);rwa[acj.mpr (by simp)]at this
theorem uR(hs:hK tg x G=some l)(f:eD elt c l H=some (y,d)):fa elt tg (gM []) c [x] G H=some ([y],d):=by rw[rI,hs,bh,uX];refine Eq.trans (b:=(eD elt c l H).bind (QX elt tg (gM []) c [] l)) rfl ?_;rw[f];rfl
theorem zq{H:Hp}{tg:Tg}(L:Loc)(g:α->D)(U:α->Loc)(N:∀x y,hK tg (e y) (L++U x)=some (L++U y)):∀(Z:ab α){O:Loc},(∀y,hK tg (e y) (L++O)=some (L++U y))->(∀x∈Z,eD elt c (L++U x) H=some (g x,H))->fa elt tg (gM []) c (Z.map e) (L++O) H=some (Z.map g,H):=by intro Z;induction Z with|nil=>intro O _ _;rfl|cons x Z ih=>intro O f d;rw[aH,rI,f,bh,uX];refine Eq.trans (b:=(eD elt c (L++U x) H).bind (QX elt tg (gM []) c (Z.map e) (L++U x))) rfl ?_;rw[d x (.head _),bh,zV,ih (N x) λy h=>d y (.tail _ h)];rfl
end
section
variable{α:Type}
theorem gK{b:ab BS}(h:d5 (a.map BS.run) c l H=some (.er,j,X))(k:d5 (b.map BS.run) c j X=r):d5 ((a++b).map BS.run) c l H=r:=by rw[aC,yc,h];exact k
theorem tH{b:ab BS}(h:d5 (a.map BS.run) c l H=some (.er,j,X))(t:(d5 (b.map BS.run) c j X).bind (fin k)=r):(d5 ((a++b).map BS.run) c l H).bind (fin k)=r:=(ag (ck · (fin k)) (gK h rfl)).trans t
theorem mf{call:Nat->Nat->ab V->Hp->ae (V×Hp)}(d:uw J args Z=some U)(c:H.length=k)(h:d5 (a.map BS.run) ⟨call,k⟩ (uy N U) H=some (.er,j,X))(t:(d5 (b.map BS.run) ⟨call,k⟩ j X).bind (fin k)=r):runC call J N Z false (a++b) wm args H=r:=by rw[ip d,c];exact tH h t
theorem BC(h:t.run c l H=some (true,H))(e:d5 (a.map BS.run) c l H=r):d5 ([eu t a []].map BS.run) c l H=r:=by
 refine Eq.trans (b:=(QJ t.run (a.map BS.run) [] c l H).bind (X6 [] c)) rfl ?_;rw[TM,h,←e];simp only[bh,TB];rcases d5 (a.map BS.run) c l H with _|⟨f,g,d⟩;.rfl
 .rcases f with⟨⟩<;>rfl
theorem gT{b:ab BS}(hs:hK tg x l=some j)(g:d=.er\/d=.cnt)(e:d5 (b.map BS.run) c j H=some (d,i,f))(k:g' tg (d5 (b.map BS.run)) c Z i f=r):g' tg (d5 (b.map BS.run)) c (x::Z) l H=r:=by rw[z0,hs,bh,Az,e,bh,←k];rcases g with rfl|rfl<;>rfl
theorem ox{b:ab BS}(hs:hK tg x l=some j)(e:d5 (b.map BS.run) c j H=some (.ret v,f,d)):g' tg (d5 (b.map BS.run)) c (x::Z) l H=some (.ret v,f,d):=by rw[z0,hs,bh,Az,e];rfl
theorem MV(h:t.run c l H=some (false,H)):d5 ([eu t a []].map BS.run) c l H=some (.er,l,H):=by refine Eq.trans (b:=(QJ t.run (a.map BS.run) [] c l H).bind (X6 [] c)) rfl ?_;rw[TM,h];rfl
theorem lM{σ:Type}{b:ab BS}(f:σ->Loc)(g:ab α->Hp)(Z:ab α)(aec:∀d x r s,Z=d++x::r->∃l s',hK tg (e x) (f s)=some l/\d5 (b.map BS.run) c l (g d)=some (.er,f s',g (d++[x]))){s:σ}{j:Prop}(κ:∀s',g' tg (d5 (b.map BS.run)) c (Z.map e) (f s) (g [])=some (.er,f s',g Z)->j):j:=by
 have i:∀r d s,Z=d++r->∃s',g' tg (d5 (b.map BS.run)) c (r.map e) (f s) (g d)=some (.er,f s',g Z):=by intro r;induction r with|nil=>intro d o h;exact⟨o,by rw[h,aL];rfl⟩|cons x r ih=>intro d o h;refine ml (aec d x r o h) λl s' m p=>?_;refine(ih (d++[x]) s' (by rw[h,bz];rfl)).elim λq k=>⟨q,?_⟩;rw[aH,z0,m,bh,Az,p,bh,RC,k]
 exact(i Z [] s rfl).elim κ
theorem ny{b:ab BS}(f:ae V->Loc)(g:ab α->Hp)(Z:ab α)(i:∀x o,hK tg x (f o)=some (f (some (.d x))))(aec:∀d x r,Z=d++x::r->d5 (b.map BS.run) c (f (some (.d (e x)))) (g d)=some (.er,f (some (.d (e x))),g (d++[x]))){j:Prop}(κ:∀k,g' tg (d5 (b.map BS.run)) c (Z.map e) (f o) (g [])=some (.er,f k,g Z)->j):j:=lM f g Z (λd x r o h=>xx _ _ (i _ _) (aec d x r h)) κ
end
structure ye where
 n:Nat
 a:Aw
 P:Prop
 p:P
noncomputable def chain:ab ye->Prop->Prop|[],G=>G|s::l,G=>s.P->chain l G
theorem mJ:∀{l:ab ye}{G:Prop},chain l G->G:=by intro l;induction l with|nil=>intro _ h;exact h|cons s _ ih=>intro _ h;exact ih (h s.p)
section
variable{R H':Type}{n J N:Nat}{Z:ab D}{b:ab BS}{wm:Nat}{args:ab V}{H X:Hp}{L:ae (V×Hp)}{U:ab V}{k:Nat}{r:V×Hp}{c:Cx}{l j:Loc}{f1:Fl}
noncomputable abbrev dR(i:Nat){x:ae (V×Hp)}{v:V}{H:Hp}(h:x=some (v,H)):ye:=⟨i,.vh v H,_,h⟩
noncomputable abbrev sv(i:Nat){x:ae V}{v:V}(h:x=some v):ye:=⟨i,.v v,_,h⟩
noncomputable abbrev sd(i:Nat){x:ae D}{v:D}(h:x=some v):ye:=⟨i,.d v,_,h⟩
noncomputable abbrev sb(i:Nat){x:ae bp}{v:bp}(h:x=some v):ye:=⟨i,.b v,_,h⟩
noncomputable abbrev Q7(i:Nat){x:ae (D×Hp)}{v:D}{H:Hp}(h:x=some (v,H)):ye:=⟨i,.dh v H,_,h⟩
noncomputable abbrev jX(i:Nat){x:ae (ab D×Hp)}{v:ab D}{H:Hp}(h:x=some (v,H)):ye:=⟨i,.lh v H,_,h⟩
noncomputable abbrev mb(i:Nat){x:ae (Fl×Loc×Hp)}{v:Fl}{l:Loc}{H:Hp}(h:x=some (v,l,H)):ye:=⟨i,.fl v l H,_,h⟩
noncomputable abbrev sh(i:Nat){x:ae Hp}{H:Hp}(h:x=some H):ye:=⟨i,.h H,_,h⟩
noncomputable def Wk(b:ab BS)(n k:Nat)(l:Loc)(H:Hp)(L:ae (V×Hp))(S:ab ye):Prop:=TQ b ⟨cF n,k⟩ l H (S.map λs=>(s.n,s.a)) λd l' H' B=>ask DJ (fin k (d,l',H')) B λr _=>L=some r
theorem wk(m:CI f J N Z false b)(o:H.length=k)(S:ab ye)(p:dA (uw J args Z=some U) Rn)(h:dA (Wk b n k (uy N U) H (cF (n+1) wm f args H) S=chain S (cF (n+1) wm f args H=some r)) MQ):cF (n+1) wm f args H=some r:=by subst o;refine mJ (l:=S) (h▸xF λq s H' d e=>eY λr g i=>?_);rw[m,ip p,e];exact i
noncomputable def Wq(b:ab BS)(c:Cx)(l:Loc)(H:Hp)(L:ae (Fl×Loc×Hp))(S:ab ye):Prop:=TQ b c l H (S.map λs=>(s.n,s.a)) λd l' H' _=>L=some (d,l',H')
theorem wq{L:ae (Fl×Loc×Hp)}(S:ab ye)(f:dA (L=d5 (b.map BS.run) c l H) Rn)(h:dA (Wq b c l H L S=chain S (L=some (f1,j,X))) MQ):L=some (f1,j,X):=mJ (l:=S) (h▸xF λg i H' d e=>by rw[f,e])
theorem wd{L:ae (D×Hp)}(S:ab ye)(f:dA (L=eD m.run c l H) Rn)(h:dA (TD m c l H (S.map λs=>(s.n,s.a)) (λv H' _=>L=some (v,H'))=chain S (L=some (g,X))) MQ):L=some (g,X):=mJ (l:=S) (h▸lG λv H' d e=>by rw[f,e])
theorem wb{m:BT}{L:ae (bp×Hp)}(S:ab ye)(f:dA (L=m.run c l H) Rn)(h:dA (m.T c l H (S.map λs=>(s.n,s.a)) (λv H' _=>L=some (v,H'))=chain S (L=some (g,X))) MQ):L=some (g,X):=mJ (l:=S) (h▸m.ok λv H' d e=>by rw[f,e])
theorem wf(S:ab ye)(m:dA (L=(d5 (b.map BS.run) c l H).bind (fin k)) Rn)(h:dA (TQ b c l H (S.map λs=>(s.n,s.a)) (λd l' H' B=>ask DJ (fin k (d,l',H')) B λr _=>L=some r)=chain S (L=some r)) MQ):L=some r:=mJ (l:=S) (h▸xF λd l' H' f e=>eY λr g i=>by rw[m,e];exact i)
end
section
variable{n wm:Nat}{H:Hp}
noncomputable def mF(w:W):Prop:=∃p r,w=p::r/\p<128
noncomputable def Q3(H:Hp)(q:D)(o2 Q:ae V):Loc:=[some (.d q),some (.ref H.length),o2,Q,none,none,none]
noncomputable def DM(H:Hp)(R:ab W):Hp:=H++[.lst (R.map sD) .own]
theorem HE(f:R.length<big):d5 (lS.map BS.run) c (Q3 H q o2 (some (.d (sD w)))) (DM H R)=some (.er,Q3 H q o2 (some (.d (sD w))),DM H (fi R [w])):=by
 have b:f6 .NotIn (sD w) (.ref H.length) (DM H R)=some (!decide (w∈R)):=by unfold DM;simp[has_str]
 by_cases h:w∈R;.rw[ay h]at b;rw[show fi R [w]=R from aS h];exact wq [sb 1 b]
 .rw[aw h]at b;rw[show fi R [w]=R++[w]from aX h];have e:fK dP c (.ref H.length) 100 [.d (sD w)] (DM H R)=some (.d .fS,DM H (R++[w])):=by unfold DM;rw[aC];exact vX (by rw[ak];exact f)
  exact wq [sb 1 b,sb 1 (show some (iY dP (.ref H.length) 100 (DM H R))=some true from ag some (jm fD 100 dP)),dR 1 e]
theorem I9(g:R.length+e.length<big){f:Prop}(κ:∀b,g' (.one 3) (d5 (lS.map BS.run)) c (e.map sD) (Q3 H q o2 Q) (DM H R)=some (.er,Q3 H q o2 b,DM H (fi R e))->f):f:=ny (Q3 H q o2) (λd=>DM H (fi R d)) e (λ_ _=>rfl) (λd w r h=>by rw[iJ];refine HE (aj (ar jz (cy ?_ _)) g);rw[h,ao];exact aG _ _) κ
section
variable{a0 a2 a3:ae V}{c:Cx}{G:ab W}
theorem HS(H:Hp):fin H.length (.ret (.d x),[],H++Y)=some (.d x,H):=ag (λz=>some (V.d x,z)) abe
noncomputable def jl(H:Hp)(a0 a2 a3 a4:ae V):Loc:=[a0,some (.ref H.length),a2,a3,a4,none,none]
noncomputable def NZ(c:Cx)(l:Loc)(H:Hp):ae (Fl×Loc×Hp):=g' (.one 4) (d5 (l8.map BS.run)) c [.str (S fW),.str (S ea)] l H
theorem OB:f6 .In (.str (S w)) (.ref H.length) (H++[.lst (G.map sD) md])=some (decide (w∈G)):=(TL fD).trans has_str
theorem Wh:ji (.ref H.length) (H++[.lst (G.map sD) .own])=some (G.map sD,H++[.lst (G.map sD) .fz]):=by simp
theorem oN(h:decide (w∈G)=b):d5 (l8.map BS.run) c (jl H a0 a2 a3 (some (.d (sD w)))) (H++[.lst (G.map sD) .own])=some (bif b then .ret (.d (.lst [sD w]))else .er,jl H a0 a2 a3 (some (.d (sD w))),H++[.lst (G.map sD) .own]):=by
 have e:f6 .In (sD w) (.ref H.length) (H++[.lst (G.map sD) .own])=some b:=OB.trans (ag some h);rcases b with⟨⟩;.exact wq [sb 1 e]
 .exact wq [sb 1 e]
theorem ι(h:fW∈G):NZ c (jl H a0 a2 a3 none) (H++[.lst (G.map sD) .own])=some (.ret (.d (.lst [sD fW])),jl H a0 a2 a3 (some (.d (sD fW))),H++[.lst (G.map sD) .own]):=ox rfl (oN (ay h))
theorem θ(h:fW∉G)(b:ea∈G):NZ c (jl H a0 a2 a3 none) (H++[.lst (G.map sD) .own])=some (.ret (.d (.lst [sD ea])),jl H a0 a2 a3 (some (.d (sD ea))),H++[.lst (G.map sD) .own]):=gT rfl (.inl rfl) (oN (aw h)) (ox rfl (oN (ay b)))
theorem YW(h:fW∉G)(b:ea∉G):NZ c (jl H a0 a2 a3 none) (H++[.lst (G.map sD) .own])=some (.er,jl H a0 a2 a3 (some (.d (sD ea))),H++[.lst (G.map sD) .own]):=gT rfl (.inl rfl) (oN (aw h)) (gT rfl (.inl rfl) (oN (aw b)) rfl)
theorem IC:gM [t] c l H=t c l H:=by
 show(t c l H).bind _=_;rcases t c l H with _|⟨b,d⟩;.rfl
 .rcases b with⟨⟩<;>rfl
noncomputable abbrev Bh:BT:=gi [(Df (gi [(TE (dM 5)),(TE (dS .Eq (dQ (dM 7) (dN (.int 0))) (dN (.str (aa "\"")))))])),(Df (gi [(TE (dM 6)),(TE (dS .In (dQ (dM 7) (dN (.int 0))) (dN (.str (aa "0123456789")))))]))]
theorem Sn(i:p<128):Bh.run c [a0,a1,a2,a3,o,some (.d (.bool g)),some (.d (.bool f)),some (.d (sD (p::r)))] H=some (!(g&&decide (p=34))&&!(f&&decide (48<=p/\p<=57)),H):=by
 have b:f6 .Eq (sD [p]) (.d (.str (aa "\""))) H=some (decide (p=34)):=by simp
 have e:f6 .In (sD [p]) (.d (.str (aa "0123456789"))) H=some (decide (48<=p/\p<=57)):=by simp[Sy,i]
 generalize decide (p=34)=x at*;generalize decide (48<=p/\p<=57)=y at*;rcases g with⟨⟩;.
  rcases f with⟨⟩;.exact wb []
  .rcases y with⟨⟩;.exact wb [sb 5 e]
   .exact wb [sb 5 e]
 .rcases x with⟨⟩;.
   rcases f with⟨⟩;.exact wb [sb 4 b]
   .rcases y with⟨⟩;.exact wb [sb 4 b,sb 5 e]
    .exact wb [sb 4 b,sb 5 e]
  .exact wb [sb 4 b]
theorem H0(f:∀w∈G,mF w):fa (dM 7).run (.one 7) (gM ([Bh].map BT.run)) c (G.map sD) ([a0,a1,a2,a3,o,some (.d (.bool (decide (d0∈G)))),some (.d (.bool (decide (dZ∈G))))]++[none]) H=some ((G.filter (qI G)).map sD,H):=by refine gA [_,_,_,_,_,_,_] _ _ sD (λx b=>?_) (λx b _=>rfl);refine ml (f x b) λp r g e=>?_;subst g;rw[(show gM ([Bh].map BT.run) c ([a0,a1,a2,a3,o,some (.d (.bool (decide (d0∈G)))),some (.d (.bool (decide (dZ∈G))))]++[some (.d (sD (p::r)))]) H=Bh.run c [a0,a1,a2,a3,o,some (.d (.bool (decide (d0∈G)))),some (.d (.bool (decide (dZ∈G)))),some (.d (sD (p::r)))] H from IC),(Sn e)];unfold qI;rw[show isLit (p::r)=decide (p=34)from rfl,show i9 (p::r)=decide (48<=p/\p<=57)from rfl]
end
theorem vR(j:Z.flatten.length<64)(z:∀k∈Z,∀w∈k,mF w):cF (n+1) wm 943 [.d (.lst (Z.map eF))] H=some (.d (eF (ei Z)),H):=by
 refine lM (b:=oV) (tg:=.one 2) (c:=⟨cF n,H.length⟩) (e:=eF) (σ:=ae V×ae V) (λo=>Q3 H (.lst (Z.map eF)) o.1 o.2) (λd=>DM H (fi [] d.flatten)) Z (λd x r o t=>?_) (s:=(none,none)) λo p=>?_;.
  have y:(fi [] d.flatten).length+x.length<big:=by rw[t,aci,abh,ao,ao]at j;refine bK (aj (aaG jz (aG _ r.flatten.length)) ?_) (by decide:64<big);rw[bS,bQ];exact j
  refine I9 (H:=H) (q:=.lst (Z.map eF)) (o2:=some (.d (eF x))) (Q:=o.2) (c:=⟨cF n,H.length⟩) y λA e=>?_;refine xx _ (some (.d (eF x)),A) rfl ?_;rw[aci,iJ,abh,List.flatten_nil,aL];exact wq [mb 1 e]
 have g:(fi [] Z.flatten).length<64:=by have:=jz (l:=Z.flatten) (R:=[]);simp only[bS]at this;lia
 have i:∀w∈fi [] Z.flatten,mF w:=λw h=>d9 (ac6.mp ((lp.mp h).resolve_left ai)) λk j h=>z k j w h;show cF (n+1) wm 943 [.d (.lst (Z.map eF))] H=some (.d (eF (ql (fi [] Z.flatten))),H);generalize fi [] Z.flatten=G at*;by_cases f:fW∈G;.rw[ql,aS f];exact wk og rfl [mb 2 p,mb 3 (ι (c:=⟨cF n,H.length⟩) (a0:=some (.d (.lst (Z.map eF)))) (a2:=o.1) (a3:=o.2) (H:=H) f),dR 0 (HS (x:=(D.lst [sD fW])) (Y:=[.lst (G.map sD) .own]) H)]
 rw[ql,aX f];by_cases m:ea∈G;.rw[aS m];exact wk og rfl [mb 2 p,mb 3 (θ (c:=⟨cF n,H.length⟩) (a0:=some (.d (.lst (Z.map eF)))) (a2:=o.1) (a3:=o.2) (H:=H) f m),dR 0 (HS (x:=(D.lst [sD ea])) (Y:=[.lst (G.map sD) .own]) H)]
 rw[aX m];exact wk og rfl [mb 2 p,mb 3 (YW (c:=⟨cF n,H.length⟩) (a0:=some (.d (.lst (Z.map eF)))) (a2:=o.1) (a3:=o.2) (H:=H) f m),sb 1 (OB (w:=d0) (md:=.own) (G:=G) (H:=H)),sb 1 (OB (w:=dZ) (md:=.own) (G:=G) (H:=H)),jX 0 (Wh (G:=G) (H:=H)),jX 0 (H0 (c:=⟨cF n,H.length⟩) (a0:=some (.d (.lst (Z.map eF)))) (a1:=some (.ref H.length)) (a2:=o.1) (a3:=o.2) (o:=some (.d (sD ea))) (H:=H++[.lst (G.map sD) .fz]) i),sd 0 (show iu 201 [.d (.lst ((G.filter (qI G)).map sD))] []=some (eF (sortBy eT (G.filter (qI G))))from u6.trans (ag (cx D.lst) (nk (aj (aY _ _) g)))),dR 0 (HS (x:=(eF (sortBy eT (G.filter (qI G))))) (Y:=[.lst (G.map sD) .fz]) H)]
end
set_option genCtorIdx true in inductive Row where|key(s:W)|bool(b f:Nat)|str(s:W)|num(n:Nat)|jV(ps:ab Nat)|inter(a b:Nat)|obj(ps:ab (W×Nat×Nat×Nat))(E ni:ae (Nat×Nat))|arr(e ro:Nat)|tup(es:ab (Nat×Nat))(ro:Nat)|param(p:Nat)|h9(t:Nat)|idx(o p:Nat)deriving bA
noncomputable def ka:ae (Nat×Nat)->D|none=>.tup []|some (t,r)=>.tup [nD t,nD r]
noncomputable def mP(p:W×Nat×Nat×Nat):D:=.tup [sD p.1,nD p.2.1,nD p.2.2.1,nD p.2.2.2]
noncomputable def g7(e:Nat×Nat):D:=.tup [nD e.1,nD e.2]
noncomputable def gE:Row->D|.key s=>.tup [.int 1,sD s]|.bool b f=>.tup [.int 2,nD b,nD f]|.str s=>.tup [.int 3,sD s,.int 0]|.num n=>.tup [.int 4,nD n,.int 0]|.jV ps=>.tup [.int 6,.tup (ps.map nD)]|.inter a b=>.tup [.int 7,.tup [nD a,nD b]]|.obj ps E ni=>.tup [.int 8,.tup (ps.map mP),.tup [],.tup [],ka E,ka ni,.int 0]|.arr e ro=>.tup [.int 11,nD e,nD ro]|.tup es ro=>.tup [.int 12,.tup (es.map g7),nD ro]|.param p=>.tup [.int 10,nD p]|.h9 t=>.tup [.int 14,nD t]|.idx o p=>.tup [.int 15,nD o,nD p]
noncomputable def kc:Row->Nat|.key _=>1|.bool _ _=>2|.str _=>3|.num _=>4|.jV _=>6|.inter _ _=>7|.obj _ _ _=>8|.arr _ _=>11|.tup _ _=>12|.param _=>10|.h9 _=>14|.idx _ _=>15
noncomputable def tQ:D->Nat|.int i=>i.toNat|_=>0
noncomputable def WT:D->W|.str s=>s.cps.toList|_=>[]
noncomputable def S9:D->ab D|.tup Z=>Z|_=>[]
noncomputable def oq(d:D)(i:Nat):D:=(S9 d).getD i .fS
noncomputable def Tq(d:D):ae (Nat×Nat):=bif(S9 d).isEmpty then none else some (tQ (oq d 0),tQ (oq d 1))
noncomputable def Xw(d:D):W×Nat×Nat×Nat:=(WT (oq d 0),tQ (oq d 1),tQ (oq d 2),tQ (oq d 3))
noncomputable def Z0(d:D):Nat×Nat:=(tQ (oq d 0),tQ (oq d 1))
noncomputable def XD(d:D):Row:=[.num 0,.key (WT (oq d 1)),.bool (tQ (oq d 1)) (tQ (oq d 2)),.str (WT (oq d 1)),.num (tQ (oq d 1)),.num 0,.jV ((S9 (oq d 1)).map tQ),.inter (tQ (oq (oq d 1) 0)) (tQ (oq (oq d 1) 1)),.obj ((S9 (oq d 1)).map Xw) (Tq (oq d 4)) (Tq (oq d 5)),.num 0,.param (tQ (oq d 1)),.arr (tQ (oq d 1)) (tQ (oq d 2)),.tup ((S9 (oq d 1)).map Z0) (tQ (oq d 2)),.num 0,.h9 (tQ (oq d 1)),.idx (tQ (oq d 1)) (tQ (oq d 2))].getD (tQ (oq d 0)) (.num 0)
theorem zQ{b:Type}{f:b->D}{g:D->b}(h:∀a,g (f a)=a)(l:ab b):(l.map f).map g=l:=by rw[aK];exact(bF λa _=>h a).trans (agd l)
theorem Gp:∀i,Tq (ka i)=i:=λi=>by rcases i with _|⟨a,b⟩<;>rfl
theorem EU(r:Row):XD (gE r)=r:=by
 rcases r with s|⟨b,f⟩|s|n|c|⟨a,b⟩|⟨c,E,i⟩|⟨e,d⟩|⟨g,d⟩|p|t|⟨o,p⟩<;>try rfl
 .exact ag Row.jV (zQ (λ_=>rfl) c)
 .show Row.obj ((c.map mP).map Xw) (Tq (ka E)) (Tq (ka i))=_;rw[zQ (λ_=>rfl),Gp,Gp]
 .exact ag (Row.tup · d) (zQ (λ_=>rfl) g)
theorem L8(h:gE r=gE s):r=s:=(EU r).symm.trans ((ag XD h).trans (EU s))
noncomputable def nice:Nat->D->Prop|0,_=>aeu|n+1,.tup Z=>∀x∈Z,nice n x|_+1,.int _=>True|_+1,.str _=>True|_,_=>aeu
theorem FE{x y:D}{a b:bp}(e:f x y=some a)(h:eqvAll f Z ys=some b):eqvAll f (x::Z) (y::ys)=some (a&&b):=by show(match f x y,eqvAll f Z ys with|some a,some b=>some (a&&b)|_,_=>none)=_;rw[e,h]
theorem xg{f:D->D->ae bp}{P:D->Prop}(h:∀x y,P x->P y->∃b,f x y=some b/\(b=true↔x=y)){Z:ab D}:∀{ys:ab D},(∀x∈Z,P x)->(∀y∈ys,P y)->∃b,eqvAll f Z ys=some b/\(b=true↔Z=ys):=by
 induction Z with
 |nil=>intro ys _ _;rcases ys with _|_<;>first|exact⟨true,rfl,λ_=>rfl,λ_=>rfl⟩|exact⟨false,rfl,λh=>fE h,λh=>xn h⟩
 |cons x Z ih=>
  intro ys e g;rcases ys with _|⟨y,ys⟩;.exact⟨false,rfl,λh=>fE h,λh=>xN h⟩
  refine d9 (h x y (e x (.head _)) (g y (.head _))) λb i j=>d9 (ih (λz c=>e z (.tail _ c)) λz c=>g z (.tail _ c)) λd k l=>⟨b&&d,FE i k,?_⟩;rw[aI,j,l,aaX]
theorem Dv(n:Nat):∀(x y:D),nice n x->nice n y->∃b,D.k8 n x y=some b/\(b=true↔x=y):=by
 induction n with
 |zero=>intro _ _ h;exact h.elim|succ n ih=>
  intro x y c d;have f:∀{P:Prop},(P->aeu)->(false=true↔P):=λh=>⟨λz=>fE z,λz=>(h z).elim⟩;rcases x with⟨⟩<;>first|exact ahx c|(rcases y with⟨⟩<;>first|exact ahx d|exact⟨false,rfl,f λe=>xc vt e rfl⟩|skip)
  .exact⟨_,rfl,by simp⟩
  .exact⟨_,rfl,by simp⟩
  .exact(xg ih c d).imp λb z=>⟨z.1,by simp[z.2]⟩
theorem bc{b:Type}{P:b->Prop}{a:b}{l:ab b}(h:P a)(t:∀x∈l,P x):∀x∈a::l,P x:=λx c=>(ah.mp c).elim (λe=>e▸h) (t x)
theorem bm{b c:Type}{P:c->Prop}{f:b->c}(l:ab b)(h:∀a,P (f a)):∀x∈l.map f,P x:=λx d=>(af.mp d).elim λa e=>e.2▸h a
theorem AX(i:ae (Nat×Nat)):nice 59 (ka i):=by
 rcases i with _|i;.exact bn
 .exact bc bL (bc bL bn)
theorem xk:nice 60 (gE r):=by induction r with|jV c=>exact bc bL (bc (bm c λ_=>bL) bn)|inter a b=>exact bc bL (bc (bc bL (bc bL bn)) bn)|obj c E e=>exact bc bL (bc (bm c λ_=>bc bL (bc bL (bc bL (bc bL bn)))) (bc bn (bc bn (bc (AX E) (bc (AX e) (bc bL bn))))))|tup d f=>exact bc bL (bc (bm d λ_=>bc bL (bc bL bn)) (bc bL bn))|key _|param _|h9 _=>exact bc bL (bc bL bn)|_=>exact bc bL (bc bL (bc bL bn))
theorem vf:D.eqv (gE r) (gE s)=some (decide (r=s)):=by
 refine d9 (Dv 60 (gE r) (gE s) xk xk) λb c d=>?_;unfold D.eqv;refine sY c ?_;congr 1;by_cases h:r=s;.simp[d,h]
 .have:¬gE r=gE s:=λe=>h (L8 e);simp only[h,decide_false];clear c;induction b using a5 with|false=>rfl|true=>exact ax (d.mp rfl) this
noncomputable def Ap{b:Type}[bA b](r:b):ab b->Nat->ae Nat|[],_=>none|a::l,k=>if a=r then some k else Ap r l (k+1)
set_option tactic.hygienic true in theorem Gm{α:Type}[bA α]{r:α}:∀{l:ab α}{k i:Nat},Ap r l k=some i->k<=i/\l[i-k]?=some r:=by
 intro l;induction l with
 |nil=>intro k i h;exact ec h|cons a l ih=>
  intro k i h;unfold Ap at h;split at h;.refine so h ?_;rename_i e;simp[e]
  .refine lJ (ih h) λh1 h2=>?_;refine⟨by lia,?_⟩;have:i-k=(i-(k+1))+1:=by lia
   rw[this];simpa using h2
set_option tactic.hygienic true in theorem lK{α:Type}[bA α]{r:α}:∀{l:ab α}{k:Nat},Ap r l k=none↔r∉l:=by
 intro l;induction l with
 |nil=>intro k;simp[Ap]|cons a l ih=>
  intro k;unfold Ap;split;.rename_i e;simp[e]
  .rename_i e;rw[ih];simp;intro _ h;exact e h.symm
noncomputable def idxOf(T:ab Row):ab (D×D):=T.zipIdx.map λp=>(gE p.1,nD p.2)
theorem FP:∀{T:ab Row}{k:Nat},hU (gE r) ((T.zipIdx k).map λp=>(gE p.1,nD p.2))=some ((Ap r T k).map nD):=by
 intro T;induction T with
 |nil=>intro k;exact rfl|cons a l ih=>
  intro k;simp only[List.zipIdx_cons,aH,hU,vf,Ap];by_cases h:a=r;.simp[h]
  .simp[h,ih]
theorem zP:hU (gE r) (idxOf T)=some ((Ap r T 0).map nD):=FP
theorem wY:∀{l:ab (D×D)},hU k l=some none->jF k v l=some (l++[(k,v)]):=by intro l;induction l with|nil=>intro _;exact rfl|cons c l ih=>rcases c with⟨a,w⟩;intro h;unfold hU at h;unfold jF;cases d:D.eqv a k with|none=>rw[d]at h;exact ec h|some b=>rw[d]at h;induction b using a5 with|true=>cases h|false=>simp only at h;simp[ih h]
theorem t8(h:∀x∈Z,D.ku 5 x=true):D.sort (.tup Z)=some .t:=aS (aA.mpr h)
theorem Bm(h:∀x∈Z,D.ku n x=true):D.ku (n+1) (.tup Z)=true:=aA.mpr h
theorem ov:D.sort (gE r)=some .t:=by
 have c:∀i:ae (Nat×Nat),D.ku 5 (ka i)=true:=λi=>by rcases i with⟨⟩<;>rfl
 induction r with|jV d=>exact t8 (bc rfl (bc (Bm (bm d λ_=>rfl)) bn))|inter a b=>exact t8 (bc rfl (bc (Bm (bc rfl (bc rfl bn))) bn))|obj d E f=>exact t8 (bc rfl (bc (Bm (bm d λ_=>rfl)) (bc rfl (bc rfl (bc (c E) (bc (c f) (bc rfl bn)))))))|tup e g=>exact t8 (bc rfl (bc (Bm (bm e λ_=>rfl)) (bc rfl bn)))|key _|param _|h9 _=>exact t8 (bc rfl (bc rfl bn))|_=>exact t8 (bc rfl (bc rfl (bc rfl bn)))
theorem n8:eg .t (idxOf T)=true:=by unfold eg idxOf;rw[ae6,aA];intro x _;simp[ov]
theorem Kp:idxOf (T++[r])=idxOf T++[(gE r,nD T.length)]:=by simp[idxOf,List.zipIdx_append]
noncomputable abbrev d7:V:=.ins 139 1
noncomputable abbrev eb:V:=.ins 926 10
noncomputable def mM(F:ab Int)(T I:ab Row)(X:ab Cell):Hp:=[.lst (F.map .int) .sh,.ins [(0,.ref 2),(13,.ref 3),(2,.ref 4),(3,.ref 5),(4,.ref 6),(5,.ref 7),(6,.ref 8),(7,.ref 9),(8,.d (.int 0)),(9,.d (.int 0))],.lst (T.map gE) .sh,.eH (idxOf I) false,.lst [.fS] .sh,.lst [.int (-1)] .sh,.lst [.int (-1)] .sh,.lst [.str (aa "P")] .sh,.eH [] false,.eH [] false,.ins [(10,.ins 139 1),(16,.d (.int 0)),(17,.d (.int 200)),(18,.d (.int 40))]]++X
noncomputable def hs(F:ab Int)(T:ab Row)(X:ab Cell):Hp:=mM F T T X
section
variable{F:ab Int}{T I:ab Row}{X Y:ab Cell}{n wm:Nat}
@[simp]theorem dT:(hs F T X).length=11+X.length:=by simp[hs,mM];lia
@[simp]theorem Jr:(hs F T (X++Y)).take (11+X.length)=hs F T X:=by simp[hs,mM,aap]
@[simp]theorem jG:(hs F T X).take (11+X.length)=hs F T X:=by simp[hs,mM,aap]
@[simp]theorem WZ:hs F T X++Y=hs F T (X++Y):=rfl
theorem ν:(hs F T X)[0]?=some (.lst (F.map .int) .sh):=rfl
theorem Tv:(mM F T I X)[2]?=some (.lst (T.map gE) .sh):=rfl
theorem Mq:(mM F T I X)[3]?=some (.eH (idxOf I) false):=rfl
theorem yy:(hs F T X)[11+k]?=X[k]?:=by show([_,_,_,_,_,_,_,_,_,_,_]++X)[11+k]?=_;rw[bj (by simp)];simp
theorem vz:(hs F T X).set (11+k) c=hs F T (X.set k c):=by show([_,_,_,_,_,_,_,_,_,_,_]++X).set (11+k) c=_;rw[bT _ _ (by simp)];simp[hs,mM]
@[simp]theorem Qh{t:Nat}:fZ (.ref 2) (.int t) (hs F T X)=(T[t]?).map λr=>.d (gE r):=by show(itemAt (T.map gE) t).map V.d=_;unfold itemAt;rw[aX (by lia)];simp[a8]
variable{H:Hp}
@[simp]theorem BD:fZ (.d (gE r)) (.int 0) H=some (.d (.int (kc r))):=by rcases r with⟨⟩<;>rfl
noncomputable abbrev Runs(d f:Nat)(args:ab V)(T:ab Row)(r:V)(T':ab Row):Prop:=∀(n wm:Nat)(F:ab Int)(X:ab Cell),cF (n+d) wm f args (hs F T X)=some (r,hs F T' X)
noncomputable def fO(T:ab Row)(r:Row):Nat:=(Ap r T 0).getD T.length
noncomputable def fj(T:ab Row)(r:Row):ab Row:=if r∈T then T else T++[r]
theorem Ot:rn (gE r) (.ref 3) (mM F T I X)=some (decide (r∈I)):=by
 rw[Fv Mq (by rw[ov,abW,n8]),zP,abP];congr 1;cases h:Ap r I 0with
 |none=>simp[lK.mp h]|some i=>
  have:¬Ap r I 0=none:=by rw[h];simp
  rw[lK]at this;simpa using this
theorem K5(h:Ap r I 0=some i):fZ (.ref 3) (gE r) (mM F T I X)=some (.d (nD i)):=by unfold fZ;dsimp only;rw[Mq];dsimp only;rw[ov,abW,n8,aS rfl,zP,h];rfl
theorem qp(h:T.length<big):Runs 1 136 [d7,.d (gE r)] T (.d (nD (fO T r))) (fj T r):=by
 intro n wm F X;unfold fO fj;have c:f6 .In (gE r) (.ref 3) (hs F T X)=some (decide (r∈T)):=Ot (F:=F) (T:=T) (X:=X);by_cases b:r∈T;.
  rw[ay b]at c;rcases e:Ap r T 0with _|i;.exact ax b (lK.mp e)
  have j:fZ (.ref 3) (gE r) (hs F T X)=some (.d (nD i)):=K5 e;rw[aS b];have f:fin (11+X.length) (.ret (.d (nD i)),[],hs F T X)=some (.d (nD i),hs F T X):=ag (λz=>some (V.d (nD i),z)) jG;show cF (n+1) wm 136 [d7,.d (gE r)] (hs F T X)=some (.d (nD i),hs F T X);exact wk mn dT [sb 2 c,sv 3 j,dR 0 f]
 .rw[aw b]at c;have g:=(lK (k:=0)).mpr b;have l:fK dP ⟨cF n,11+X.length⟩ (.ref 2) 100 [.d (gE r)] (hs F T X)=some (.d .fS,mM F (T++[r]) T X):=by rw[nv rfl (by decide) (by simpa using h)];simp[hs,mM]
  have m:IH (gE r) (nD T.length) (.ref 3) (mM F (T++[r]) T X)=some (hs F (T++[r]) X):=by
   have o:jF (gE r) (nD T.length) (idxOf T)=some (idxOf (T++[r])):=by simp only[wY (by rw[zP,g];rfl),Kp]
   exact Dh rfl (by rw[ov,abW,n8]) (by simpa[idxOf]using h) o
  rw[aX b,g];have f:fin (11+X.length) (.ret (.d (nD T.length)),[],hs F (T++[r]) X)=some (.d (nD T.length),hs F (T++[r]) X):=ag (λz=>some (V.d (nD T.length),z)) jG;show cF (n+1) wm 136 [d7,.d (gE r)] (hs F T X)=some (.d (nD T.length),hs F (T++[r]) X);exact wk mn dT [sb 2 c,sd 2 (show iu 200 [.ref 2] (hs F T X)=some (nD T.length)from by simp[iu,tW,J7,jB,hs,Tv]),dR 3 l,sh 3 m,dR 0 f]
structure Good(k:Nat)(T:ab Row):Prop where
 pre:[.key fW,.key ea,.key fG,.key [118,111,105,100],.key d6,.key gx,.key d0,.key dZ,.bool 0 0,.bool 1 0,.key [111,98,106,101,99,116],.obj [] none none,.jV [8,9],.key [101,114,114,111,114],.bool 0 1,.bool 1 1,.param 0]<+:T
 nd:T.Nodup
 sz:T.length+k<=big
theorem Good.le(h:Good k T)(e:j<=k):Good j T:=⟨h.pre,h.nd,by have:=h.sz;lia⟩
theorem fQ(h:T<+:A){i:Nat}(e:T[i]?=some r):A[i]?=some r:=by
 obtain⟨Z,rfl⟩:=h;have b:i<T.length:=by
  rcases dp i T.length with q|q;.exact q
  .rw[b9 q]at e;exact ec e
 rw[aT b,e]
theorem Good.at{i:Nat}(h:Good k T)(e:[Row.key fW,.key ea,.key fG,.key [118,111,105,100],.key d6,.key gx,.key d0,.key dZ,.bool 0 0,.bool 1 0,.key [111,98,106,101,99,116],.obj [] none none,.jV [8,9],.key [101,114,114,111,114],.bool 0 1,.bool 1 1,.param 0][i]?=some r):T[i]?=some r:=fQ h.pre e
theorem gJ(e:T[i]?=some r):i<T.length:=by
 rcases dp i T.length with q|q;.exact q
 .rw[b9 q]at e;exact ec e
theorem Pq(h:T.Nodup){j:Nat}(b:T[i]?=some r)(c:T[j]?=some r):i=j:=(List.getElem?_inj (gJ b) h).mp (b.trans c.symm)
theorem Good.id{j:Nat}(h:Good k T)(b:T[i]?=some r)(c:T[j]?=some r):i=j:=Pq h.nd b c
theorem eh:T<+:fj T r:=by
 unfold fj;split;.exact aq _
 .exact⟨[r],rfl⟩
theorem gq:(fj T r)[fO T r]?=some r:=by
 unfold fj fO;by_cases h:r∈T;.cases e:Ap r T 0with|none=>exact ax h (lK.mp e)|some i=>simpa[h]using(Gm e).2
 .rw[aX h,lK.mpr h];simp
set_option tactic.hygienic true in theorem Good.put{k:Nat}{r:Row}(h:Good (k+1) T):Good k (fj T r):=by
 refine⟨h.pre.trans eh,?_,?_⟩;.
  unfold fj;split;.exact h.nd
  .rename_i hn;refine a7.mpr ⟨h.nd,by simp,?_⟩;intro a ha b hb e;replace hb:=kB hb;exact hn (hb▸e▸ha)
 .have:=h.sz;unfold fj;split;.lia
  .simp;lia
theorem Good.lt(h:Good (k+1) T):T.length<big:=by have:=h.sz;lia
end
section
variable(F:ab Int){T:ab Row}(X Y:ab Cell){H:Hp}(z:Cell)(x:D){l:Loc}{a b:Int}{k:Nat}{r:Row}
theorem iB(T:ab Row):mA (hs F T X) z=some (.ref (11+X.length),hs F T (X++[z])):=by simp[mA]
theorem dU(T:ab Row):fin (11+X.length) (.ret (.d x),[],hs F T X)=some (.d x,hs F T X):=ag (λz=>some (V.d x,z)) jG
theorem KA(T:ab Row):fin (11+X.length) (.er,[],hs F T X)=some (.d .fS,hs F T X):=ag (λz=>some (V.d .fS,z)) jG
theorem vG(H:Hp):fin H.length (.ret (.d x),[],H++Y)=some (.d x,H):=ag (λz=>some (V.d x,z)) abe
theorem iZ(T:ab Row):fin (11+X.length) (.ret (.d x),[],hs F T (X++Y))=some (.d x,hs F T X):=ag (λz=>some (V.d x,z)) Jr
theorem eQ(H:Hp):fin H.length (.ret (.d x),[],H)=some (.d x,H):=ag (λz=>some (V.d x,z)) List.take_length
theorem eA(h:¬a=b):f6 .Eq (.int a) (.d (.int b)) []=some false:=by simp[h]
theorem S7(h:a=b):f6 .Eq (.int a) (.d (.int b)) []=some true:=by simp[h]
theorem E8(h:¬a=b):f6 .NotEq (.int a) (.d (.int b)) []=some true:=by simp[h]
theorem hH{a b:Nat}(h:a≠b):¬(a:Int)=(b:Int):=λe=>h (cP e)
theorem A0{a b:Nat}:f6 .Eq (nD a) (.d (nD b)) []=some (decide (a=b)):=by
 by_cases h:a=b;.rw[ay h];exact S7 (ag _ h)
 .rw[aw h];exact eA (hH h)
theorem tS(h:a<b):f6 .Lt (.int a) (.d (.int b)) []=some true:=by simp[h]
theorem tq(h:¬a<b):f6 .Lt (.int a) (.d (.int b)) []=some false:=by simp[h]
theorem F5{f:Int->ae c}:nH (.int n) f=f n:=rfl
theorem Gd{n:Nat}(h:n<2^20):(0:Int)<=n/\(n:Int)<2^20:=⟨(cI _),by lia⟩
theorem iz{n:Nat}(h:n<2^20)(H:Hp):sF (.int (n:Int)) H=some ((bx n).map λ(i:Nat)=>D.int (i:Int),H):=by unfold sF;rw[F5,aS (Gd h),acM]
theorem fR(h:T[k]?=some r):fZ (.ref 2) (nD k) (hs F T X)=some (.d (gE r)):=by simp[h]
end
section
variable{F:ab Int}{T:ab Row}{X Y L:ab Cell}{n wm:Nat}{H:Hp}{z z1 C:Cell}
@[simp high]theorem gp:(hs F T (X++z::L))[11+X.length]?=some z:=by rw[yy];simp
@[simp high]theorem qC:(hs F T (X++z::z1::L))[11+(X.length+1)]?=some z1:=by rw[yy];rw[bj ((aG _ _))];simp
@[simp high]theorem nM:(hs F T (X++z::L)).set (11+X.length) C=hs F T (X++C::L):=by rw[vz,bT _ _ ((aV _))];simp
@[simp high]theorem AO:(hs F T (X++z::z1::L)).set (11+(X.length+1)) C=hs F T (X++z::C::L):=by rw[vz,bT _ _ (by lia)];simp
noncomputable def parts(T:ab Row)(t:Nat):ab Nat:=if t=2then[]else match T[t]?with|some (.jV ps)=>ps|_=>[t]
set_option tactic.hygienic true in theorem nB{t:Nat}(h:t<T.length):Runs 1 249 [d7,.d (nD t)] T (.d (.tup ((parts T t).map nD))) T:=by
 intro n wm F X;by_cases h2:t=2;.subst h2;exact wk n6 dT [dR 3 (dU F X (D.tup []) T)]
 .have Yq:¬(t:Int)=2:=by lia
  have hr:=au h;refine sY (show parts T t=_ from aX h2) ?_;generalize T[t]=r at hr;refine sY hr ?_;by_cases hk:(kc r:Int)=6;.
   rcases r with⟨⟩<;>first|exact fE (ay hk)|skip
   rename_i ps;exact wk n6 dT [sb 1 (eA Yq),sv 3 (fR F X hr),dR 7 (dU F X (D.tup (aaa nD ps)) T)]
  .rw[show(match some r with|some (.jV ps)=>ps|_=>[t])=[t]by rcases r with⟨⟩<;>first|rfl|exact ax rfl hk];exact wk n6 dT [sb 1 (eA Yq),sv 3 (fR F X hr),sv 1 (BD (r:=r) (H:=hs F T X)),sb 1 (eA hk),dR 2 (dU F X (D.tup [nD t]) T)]
noncomputable def Up:Row->Int|.str _=>6|.num _=>7|_=>-1
theorem vq:cF (n+1) wm 256 [.d (gE r)] H=some (.d (.int (Up r)),H):=by
 rcases r with⟨⟩;.exact wk eG rfl [dR 14 (eQ (D.int (-1)) H)]
 .exact wk eG rfl [dR 14 (eQ (D.int (-1)) H)]
 .exact wk eG rfl [dR 5 (eQ (D.int 6) H)]
 .exact wk eG rfl [dR 11 (eQ (D.int 7) H)]
 .exact wk eG rfl [dR 14 (eQ (D.int (-1)) H)]
 .exact wk eG rfl [dR 14 (eQ (D.int (-1)) H)]
 .exact wk eG rfl [dR 14 (eQ (D.int (-1)) H)]
 .exact wk eG rfl [dR 14 (eQ (D.int (-1)) H)]
 .exact wk eG rfl [dR 14 (eQ (D.int (-1)) H)]
 .exact wk eG rfl [dR 14 (eQ (D.int (-1)) H)]
 .exact wk eG rfl [dR 14 (eQ (D.int (-1)) H)]
 .exact wk eG rfl [dR 14 (eQ (D.int (-1)) H)]
theorem N'(h:T[t]?=some r)(c:∀b,r≠.bool b 1):Runs 1 263 [d7,.d (nD t)] T (.d (.int (-1))) T:=by
 intro n wm F X;induction r using Row.casesOn with
 |bool b f=>
  have g:¬f=1:=λe=>c b ((sZ e rfl));have:¬(f:Int)=1:=by lia
  exact wk km dT [sv 2 (fR F X h),sb 8 (eA this),dR 1 (dU F X (D.int (-1)) T)]|_=>first|exact wk km dT [sv 2 (fR F X h),dR 5 (dU F X (D.int (-1)) T)] (h:=by kernel_rfl!)|exact wk km dT [sv 2 (fR F X h),dR 10 (dU F X (D.int (-1)) T)]
noncomputable def gD(R:ab Nat):ab (D×D):=R.map λq=>(nD q,.int 1)
theorem z6(a b:Nat):D.eqv (nD a) (nD b)=some (decide (a=b)):=ag some (bU.mpr bM)
theorem PG{R:ab Nat}:hU (nD q) (gD R)=some (if q∈R then some (.int 1)else none):=by induction R with|nil=>exact rfl|cons a k ih=>exact if h:a=q then(ED ((z6 a q).trans (ag some (ay h)))).trans (ag some (aS (show q∈a::k from h▸.head _)).symm)else(DQ ((z6 a q).trans (ag some (aw h)))).trans (ih.trans (ag some (EN (ah.trans ⟨λz=>z.resolve_left λe=>h e.symm,.inr⟩).symm)))
theorem O'{R:ab Nat}:jF (nD q) (.int 1) (gD R)=some (gD (if q∈R then R else R++[q])):=x5 z6
theorem oM:eg .i (gD R)=true:=by simp[eg,gD,D.sort]
theorem P7:rn (nD q) (.ref (11+X.length)) (hs F T (X++.eH (gD R) false::L))=some (decide (q∈R)):=by rw[Fv (x:=nD q) gp oM,PG,abP];by_cases h:q∈R<;>simp[h]
theorem MP(b:q<0):rn (.int q) (.ref (11+X.length)) (hs F T (X++.eH (gD R) false::L))=some false:=by
 have:∀g:ab Nat,hU (.int q) (gD g)=some none:=by
  intro g;induction g with
  |nil=>rfl|cons a g ih=>
   unfold gD at ih⊢;have:¬(a:Int)=q:=by lia
   simp[hU,this,ih]
 rw[Fv (x:=.int q) gp oM,this];rfl
noncomputable def uH(F:ab Int)(T:ab Row)(X:ab Cell)(R:ab Nat):Hp:=hs F T (X++[.eH (gD R) false])
theorem gI(F:ab Int)(T:ab Row)(X:ab Cell)(h:decide (q∈R)=b):f6 .In (nD q) (.ref (11+X.length)) (uH F T X R)=some b:=(P7).trans (ag some h)
theorem Pm:(gD R).length=R.length:=ak _
theorem N1(b:R.length<big):IH (nD q) (.int 1) (.ref (11+X.length)) (uH F T X R)=some (uH F T X (fi R [q])):=(Dh (H:=uH F T X R) (x:=nD q) gp oM (Pm▸b) O').trans (ag some nM)
theorem N9(F:ab Int)(T:ab Row)(X:ab Cell)(R:ab Nat)(d:D):fin (11+(X.length+1)) (.ret (.d d),[],uH F T X R)=some (.d d,uH F T X R):=by have:=dU F (X++[.eH (gD R) false]) d T;rwa[ao]at this
theorem J9(F:ab Int)(T:ab Row)(X:ab Cell)(R:ab Nat):fin (11+(X.length+1)) (.er,[],uH F T X R)=some (.d .fS,uH F T X R):=by have:=KA F (X++[.eH (gD R) false]) T;rwa[ao]at this
theorem pN:(uH F T X R).length=11+(X.length+1):=by unfold uH;rw[dT,ao];rfl
theorem KD(c:14∉R)(e:15∉R)(i:R.length<big):cF (n+1) wm 270 [.ref (11+X.length)] (uH F T X R)=some (.d .fS,uH F T X R):=by
 have b:=J9 F T X R;by_cases f:8∈R;.
  have Z:=gI F T X (ay f);by_cases g:9∈R;.have l:=gI F T X (ay g);have j:=N1 (F:=F) (T:=T) (X:=X) (q:=8) i;have k:=N1 (F:=F) (T:=T) (X:=X) (q:=9) i;rw[show fi R [8]=R from aS f]at j;rw[show fi R [9]=R from aS g]at k;exact wk lT pN [sb 1 Z,sb 2 l,sh 3 j,sh 2 k,dR 0 b]
  .exact wk lT pN [sb 1 Z,sb 2 (gI F T X (aw g)),sb 2 (gI F T X (aw e)),dR 1 b]
 .have Z:=gI F T X (aw f);exact wk lT pN [sb 1 Z,sb 2 (gI F T X (aw c)),dR 1 b]
noncomputable def Kv(R:ab Nat):Int:=if 0∈R then 0 else if 1∈R then 1 else-1
theorem Hq(h:decide (q∈R)=b):d5 (rY.map BS.run) c [some (.ref (11+X.length)),some (.d (nD q))] (uH F T X R)=some (bif b then .ret (.d (nD q))else .er,[some (.ref (11+X.length)),some (.d (nD q))],uH F T X R):=by
 have a:=gI F T X h;rcases b with⟨⟩;.exact wq [sb 1 a]
 .exact wq [sb 1 a]
theorem RJ(k:13∉R):cF (n+1) wm 284 [.ref (11+X.length)] (uH F T X R)=some (.d (.int (Kv R)),uH F T X R):=by
 have t:=λ{q b}=>Hq (F:=F) (T:=T) (X:=X) (q:=q) (R:=R) (b:=b) (c:=⟨cF n,11+(X.length+1)⟩);have j:=λd=>N9 F T X R d;unfold Kv;by_cases g:0∈R;.rw[aS g];have f:=ox (tg:=.one 1) (Z:=[.int 13,.int 1]) (l:=[some (.ref (11+X.length)),none]) rfl (t (ay g));exact wk su pN [mb 4 f,dR 0 (j (.int 0))]
 .rw[aX g];have m:=t (aw g);have e:=t (aw k);by_cases i:1∈R;.rw[aS i];have f:=gT (tg:=.one 1) (l:=[some (.ref (11+X.length)),none]) rfl (.inl rfl) m (gT rfl (.inl rfl) e (ox (Z:=[]) rfl (t (ay i))));exact wk su pN [mb 4 f,dR 0 (j (.int 1))]
  .rw[aX i];have f:=gT (tg:=.one 1) (l:=[some (.ref (11+X.length)),none]) rfl (.inl rfl) m (gT rfl (.inl rfl) e (gT (Z:=[]) rfl (.inl rfl) (t (aw i)) rfl));exact wk su pN [mb 4 f,dR 0 (j (.int (-1)))]
noncomputable def stays(T:ab Row)(R:ab Nat)(q:Nat):bp:=match T[q]?with|some (.str _)=>decide (6∉R)|some (.num _)=>decide (7∉R)|_=>true
theorem KQ(h:T[q]?=some r)(c:∀b,r≠.bool b 1):cF (n+2) wm 277 [d7,.ref (11+X.length),.d (nD q)] (hs F T (X++[.eH (gD R) false]))=some (.d (.bool (stays T R q)),hs F T (X++[.eH (gD R) false])):=by
 have f:=N' h c;have g:f6 agv (.int (Up r)) (.ref (11+X.length)) (hs F T (X++[.eH (gD R) false]))=some (stays T R q):=by have e:∀{P:Prop}[dm P],some (!decide P)=some (decide ¬P):=ag some decide_not.symm;simp only[stays,h];clear h c f;rcases r with⟨⟩<;>first|exact ag (cx (!·)) (MP (q:=-1) (by decide))|exact(ag (cx (!·)) (P7 (q:=6))).trans e|exact(ag (cx (!·)) (P7 (q:=7))).trans e
 exact wk sE dT [dR 2 (f n (11+(X++[Cell.eH (gD R) false]).length) F (X++[Cell.eH (gD R) false])),sb 1 (show f6 CmpOp.In (D.int (-1)) (V.ref (11+X.length)) (hs F T (X++[Cell.eH (gD R) false]))=some false from MP (by decide)),sv 3 (fR F (X++[Cell.eH (gD R) false]) h),dR 1 (vq (n:=n) (wm:=11+(X++[Cell.eH (gD R) false]).length) (r:=r) (H:=hs F T (X++[Cell.eH (gD R) false]))),sb 1 g,dR 0 (dU F (X++[Cell.eH (gD R) false]) (.bool (stays T R q)) T)]
noncomputable def we(l:ab Nat):ab Nat:=sortBy (λa b=>decide (a<=b)) l
theorem Nr{l:ab Nat}:sortBy (λa b=>decide (a<=b)) (l.map λ(i:Nat)=>(i:Int))=(we l).map λ(i:Nat)=>(i:Int):=lL λ_ _=>bU.mpr abX
theorem sj:∀{l:ab Nat},intsOf (l.map nD)=some (l.map λ(i:Nat)=>(i:Int))|[]=>rfl|v::l=>by simp only[aH,intsOf,sj (l:=l)];rfl
theorem Cf(h:l.length<64):mK (l.map nD)=some ((we l).map nD):=by
 have b:¬64<=(l.map nD).length:=by simp;omega
 unfold mK;rw[aX b,sj];simp only[Nr,aK];rfl
theorem rP:x∈we l↔x∈l:=iF
theorem GC:(we l).length=l.length:=oh
noncomputable def mh(T:ab Row)(R:ab Nat):ab Nat:=(we R).filter (stays T R)
noncomputable def tC(T:ab Row)(R:ab Nat):Nat×ab Row:=if 0∈R then(0,T)else if 1∈R then(1,T)else match mh T R with|[]=>(2,T)|[x]=>(x,T)|I=>(fO T (.jV I),fj T (.jV I))
noncomputable def uL(x:D)(i:Nat)(Q Z N O:ae V):Loc:=[some d7,some (.d x),some (.ref (11+i)),Q,Z,N,O]
theorem FG(e:R.length+ps.length<big){b:Prop}(κ:∀g,g' (.one 4) (d5 (uI.map BS.run)) c (ps.map nD) (uL x X.length (some (.d (nD t))) Z none none) (uH F T X R)=some (.er,uL x X.length (some (.d (nD t))) g none none,uH F T X (fi R ps))->b):b:=by
 refine ny (λo=>uL x X.length (some (.d (nD t))) o none none) (λd=>uH F T X (fi R d)) ps (λ_ _=>rfl) (λd q r h=>?_) κ;have f:(fi R d).length<big:=by refine aj (ar jz (cy ?_ _)) e;rw[h,ao];exact aG _ _
 rw[iJ];exact wq [sh 2 (N1 (F:=F) (T:=T) (X:=X) (q:=q) f)]
noncomputable def th(x:D)(Z:ab D):Prop:=x=.tup Z\/x=.lst Z
theorem Xh(h:th x Z)(H:Hp):ji (.d x) H=some (Z,H):=by rcases h with rfl|rfl<;>rfl
theorem OW(j:∀q∈R,∃r,T[q]?=some r/\(∀b,r≠.bool b 1)):fa (dM 7).run (.one 7) (gM ([TE (dO 277 [dM 0,dM 2,dM 7])].map BT.run)) ⟨cF (n+2),11+X.length⟩ ((we R).map nD) [some d7,some (.d x),some (.ref (11+X.length)),Q,Z,N,none,none] (uH F T X R)=some ((mh T R).map nD,uH F T X R):=by
 have e:ig (.ref (11+X.length)) (uH F T X R)=some (.ref (11+X.length),uH F T X R):=by unfold uH;simp[ig]
 refine gA [_,_,_,_,_,_,_] _ _ nD (λq c=>?_) λq c _=>rfl;refine d9 (j q (rP.mp c)) λr g i=>?_;have f:=KQ (F:=F) (X:=X) (n:=n) (wm:=11+X.length) (R:=R) g i;generalize stays T R q=b at*;rcases b with⟨⟩;.exact(show(gi [TE (dO 277 [dM 0,dM 2,dM 7])]).run _ _ _=_ from wb [dR 1 e,dR 1 f])
 .exact(show(gi [TE (dO 277 [dM 0,dM 2,dM 7])]).run _ _ _=_ from wb [dR 1 e,dR 1 f])
theorem A3{ts:ab Nat}(hx:th x (ts.map nD))(ht:∀t∈ts,t<T.length)(B:∀q∈ts.flatMap (parts T),∃r,T[q]?=some r/\(∀b,r≠.bool b 1))(i:13∉ts.flatMap (parts T))(k:14∉ts.flatMap (parts T))(l:15∉ts.flatMap (parts T))(G:(ts.flatMap (parts T)).length<64)(hT:T.length<big):Runs 3 289 [d7,.d x] T (.d (nD (tC T (fi [] (ts.flatMap (parts T)))).1)) (tC T (fi [] (ts.flatMap (parts T)))).2:=by
 intro n wm F X;have U:∀{a:Nat},a<64->a<big:=λh=>bK h (by decide);refine lM (b:=uP) (tg:=.one 3) (c:=⟨cF (n+2),11+X.length⟩) (e:=nD) (σ:=ae V×ae V) (λo=>uL x X.length o.1 o.2 none none) (λd=>uH F T X (fi [] (d.flatMap (parts T)))) ts (λd t r o O=>?_) (s:=(none,none)) λo m=>?_;.
  have hb:(fi [] (d.flatMap (parts T))).length+(parts T t).length<big:=by rw[O,b7,cD,ao,ao]at G;refine U (aj (aaG jz (aG _ ((r.flatMap (parts T)).length))) ?_);rw[bS,bQ];exact G
  have hp:=nB (ht t (eL O (aN _ (.head _)))) (n+1) (11+X.length) F (X++[.eH (gD (fi [] (d.flatMap (parts T)))) false]);refine FG (F:=F) (T:=T) (X:=X) (x:=x) (t:=t) (Z:=o.2) (c:=⟨cF (n+2),11+X.length⟩) hb λo' e=>?_;refine xx _ (some (.d (nD t)),o') rfl ?_;rw[b7,iJ,cD,aaj,aL];exact wq [dR 2 hp,mb 1 e]
 have A:∀q,q∈fi [] (ts.flatMap (parts T))->q∈ts.flatMap (parts T):=λq h=>(lp.mp h).resolve_left λh=>kn h;have f:(fi [] (ts.flatMap (parts T))).length<64:=aj jz (by rw[bS,bQ];exact G);have B:=λq h=>B q (A q h);have i:=λh=>i (A 13 h);have k:=λh=>k (A 14 h);have l:=λh=>l (A 15 h);generalize fi [] (ts.flatMap (parts T))=R at*;have J:=RJ (F:=F) (T:=T) (X:=X) (n:=n+1) (wm:=11+X.length) i;have E:ig (.ref (11+X.length)) (uH F T X R)=some (.ref (11+X.length),uH F T X R):=by unfold uH;simp[ig]
 have j:=Xh hx (uH F T X []);have nw:mA (hs F T X) (.eH [] false)=some (.ref (11+X.length),uH F T X []):=iB F X (.eH [] false) T;have g:∀d,fin (11+X.length) (.ret (.d d),[],uH F T X R)=some (.d d,hs F T X):=λd=>iZ F X [.eH (gD R) false] d T;have hA:d5 ((oK.take 3).map BS.run) ⟨cF (n+2),11+X.length⟩ (uy 7 [d7,.d x]) (hs F T X)=some (.er,uL x X.length o.1 o.2 (some (.d (.int (Kv R)))) none,uH F T X R):=wq [dR 0 nw,jX 0 j,mb 0 m,dR 0 E,dR 0 J];refine(JV _ _ _ _).trans (mf (b:=oK.drop 3) rfl dT hA ?_);unfold tC Kv;by_cases p:0∈R;.rw[aS p,aS p];have g:=g (.int 0);exact wf [dR 3 g]
 rw[aX p,aX p];by_cases m:1∈R;.rw[aS m,aS m];have g:=g (.int 1);exact wf [dR 3 g]
 rw[aX m,aX m];have P:=KD (F:=F) (T:=T) (X:=X) (n:=n+1) (wm:=11+X.length) k l (U f);have y:iu 201 [.ref (11+X.length)] (uH F T X R)=some (.lst ((we R).map nD)):=by unfold uH;simp[iu,tW,jB,oM,(show(gD R).map (·.1)=R.map nD from by unfold gD;rw[aK];rfl),Cf f]
 have M:=OW (F:=F) (X:=X) (n:=n) (x:=x) (Q:=o.1) (Z:=o.2) (N:=some (.d (.int (-1)))) B;have K:d5 (((oK.drop 3).take 3).map BS.run) ⟨cF (n+2),11+X.length⟩ (uL x X.length o.1 o.2 (some (.d (.int (-1)))) none) (uH F T X R)=some (.er,uL x X.length o.1 o.2 (some (.d (.int (-1)))) (some (.d (.lst ((mh T R).map nD)))),uH F T X R):=wq [dR 3 E,dR 0 P,sd 0 y,jX 1 M];refine tH (b:=oK.drop 6) K ?_;have hk:(mh T R).length<64:=aj (ar (aY _ _) (b4 GC)) f;clear K M y P E p m i k l B f;generalize mh T R=I at*;rcases I with _|⟨a,_|⟨b,I⟩⟩;.have g:=g (.int 2);exact wf [dR 1 g]
 .have g:=g (nD a);exact wf [dR 7 g]
 .exact wf [sb 3 (eA (show¬(((I.map nD).length+1+1:Nat):Int)=1fromλh=>ax (cP h) (by simp))),sb 3 (tq (show¬(400:Int)<(((I.map nD).length+1+1:Nat):Int)fromλh=>ax (bg.mp h) (aam.mpr (ar (aaI (by rw[ak];exact hk)) (by decide))))),dR 6 (qp (r:=.jV (a::b::I)) hT (n+1) (11+X.length) F (X++[.eH (gD R) false])),dR 0 (iZ F X [.eH (gD R) false] (nD (fO T (.jV (a::b::I)))) (fj T (.jV (a::b::I))))]
end
theorem ke(h:T<+:T')(c:t<T.length):parts T' t=parts T t:=by unfold parts;have b:=au c;rw[fQ h b,b]
structure tG(P:Row->W->Prop):Prop where
 ok:∀{r w},P r w->mF w
 Uq:∀{r w},P r w->w≠fG
 jV:∀{r w ps},P r w->r≠.jV ps
 fresh:∀{r w b},P r w->r≠.bool b 1
 MX:∀{r w},P r w->r≠.key fG
 err:∀{r w},P r w->r≠.key [101,114,114,111,114]
 key:∀{r w s},P r w->r=.key s->w=s
 any:∀{r},P r fW->r=.key fW
 DK:∀{r},P r ea->r=.key ea
 str:∀{r},P r d0->r=.key d0
 num:∀{r},P r dZ->r=.key dZ
 TO:∀{r},P r d6->r=.key d6
 lit:∀{r w},P r w->(isLit w=true↔∃s,r=.str s)
 Un:∀{r w},P r w->(i9 w=true↔∃s,r=.num s)
structure ShQ(P:Row->W->Prop)(T:ab Row)(t:Nat)(k:ab W):Prop where
 lt:t<T.length
 wx:wu k
 nd:(parts T t).Nodup
 to:∀q∈parts T t,∃r w,T[q]?=some r/\P r w/\w∈k
 mB:∀w∈k,∃q∈parts T t,∃r,T[q]?=some r/\P r w
theorem ShQ.imp(h:T<+:T')(f:∀r w,P r w->Q r w)(s:ShQ P T t k):ShQ Q T' t k:=by
 have e:=ke h s.lt;refine⟨bZ s.lt h.length_le,s.wx,e▸s.nd,λq b=>?_,λw i=>?_⟩;.rw[e]at b;refine iE (s.to q b) λr w c d g=>?_;exact jQ r w ⟨fQ h c,f _ _ d,g⟩
 .refine d9 (s.mB w i) λq b j=>?_;refine d9 j λr c d=>?_;exact i12 q (e▸b) ⟨r,fQ h c,f _ _ d⟩
theorem eO(h:T[q]?=some r)(b:q≠2)(c:∀ps,r≠.jV ps):parts T q=[q]:=by unfold parts;rw[aX b,h];clear h;rcases r with⟨⟩<;>first|rfl|exact ax rfl (c _)
structure nY(P:Row->W->Prop)(T:ab Row)(A:ab Nat)(Z:ab (ab W)):Prop where
 all:∀q∈A,∃r w,T[q]?=some r/\P r w/\∃k∈Z,w∈k
 mB:∀w,(∃k∈Z,w∈k)->∃q∈A,∃r,T[q]?=some r/\P r w
structure NG(P:Row->W->Prop)(T T':ab Row)(A:ab Nat)(k:ab W)(t':Nat):Prop where
 sh:ShQ P T' t' k
 sub:∀q∈parts T' t',q∈A
 up:∀q∈A,∀r w,T[q]?=some r->P r w->w∈k->q∈parts T' t'
 one:(parts T' t').length=1->parts T' t'=[t']
section
variable{P:Row->W->Prop}{T T':ab Row}{A R:ab Nat}{Z:ab (ab W)}{i k q t':Nat}{s w:W}{r:Row}
theorem ZL{b:Type}{a:b}:[a].Nodup:=bX _ a
theorem Lk(h:l.Nodup):(we l).Nodup:=aab (λh=>h.2) (pB (λa b=>by simp only[aZ];exact Nat.le_total a b) (λa b c=>by simp only[aZ];exact ar) h)
theorem nY.no(U:nY P T A Z)(c:T[i]?=some r)(f:∀w,¬P r w):i∉A:=by intro e;refine iE (U.all i e) λr w b d _=>?_;rw[c]at b;obtain rfl:=sI b;exact f w d
theorem nY.key(U:nY P T A Z)(f:tG P)(G:Good k T)(d:T[i]?=some (.key s))(hs:∀r,P r s->r=.key s):i∈A↔∃k∈Z,s∈k:=by
 constructor;.intro h;refine iE (U.all i h) λr w b c e=>?_;rw[d]at b;obtain rfl:=sI b;rw[←f.key c rfl];exact e
 .intro h;refine d9 (U.mB s h) λq g y=>?_;refine d9 y λr b c=>?_;rw[hs r c]at b;rwa[G.id d b]
theorem nY.p1(U:nY P T A Z)(b:tG P)(G:Good k T)(c:q∈A):parts T q=[q]:=by refine iE (U.all q c) λr w d f _=>?_;exact eO d (λe=>U.no (G.at rfl) (λw h=>b.MX h rfl) (e▸c)) λg=>b.jV f
theorem nY.Yk(U:nY P T A Z)(g:tG P)(G:Good k T)(d:T[i]?=some (.key s))(hs:∀r,P r s->r=.key s)(h:i∈A)(j:∀w,w∈ei Z↔w=s):NG P T T A (ei Z) i:=by
 have e:=U.p1 g G h;have hm:=(U.key g G d hs).mp h;refine⟨⟨gJ d,je,e▸ZL,λq f=>?_,λw l=>?_⟩,λq f=>?_,λq f r w c b l=>?_,λ_=>e⟩;.rw[e]at f;obtain rfl:=bt.mp f;refine iE (U.all q h) λr w c b _=>?_;rw[d]at c;obtain rfl:=sI c;obtain rfl:=g.key b rfl;exact Dd _ _ d b ((j _).mpr rfl)
 .obtain rfl:=(j w).mp l;refine d9 (U.mB _ hm) λq _ y=>?_;refine d9 y λr c b=>?_;rw[hs r b]at c b;exact i12 i (eL e (.head _)) ⟨_,d,b⟩
 .rw[e]at f;rw[bt.mp f];exact h
 .obtain rfl:=(j w).mp l;rw[hs r b]at c;rw[G.id c d,e];exact .head _
theorem lF(h:l=true↔C)(n:¬C):l=false:=Bool.eq_false_iff.mpr λe=>n (h.mp e)
theorem Z1{a b:Prop}(c:l=false)(e:d=false):(true=true)↔(a->l=false)/\(b->d=false):=⟨λ_=>⟨λ_=>c,λ_=>e⟩,λ_=>rfl⟩
theorem Zi{b:Prop}{i:dm (¬a)}(c:l=true)(e:d=false):(decide (¬a)=true)↔(a->l=false)/\(b->d=false):=aa8.trans ⟨λh=>⟨λx=>ax x h,λ_=>e⟩,λh x=>aaM (c.symm.trans (h.1 x))⟩
theorem stN{a:Prop}{i:dm (¬b)}(c:l=false)(e:d=true):(decide (¬b)=true)↔(a->l=false)/\(b->d=false):=aa8.trans ⟨λh=>⟨λ_=>c,λx=>ax x h⟩,λh x=>aaM (e.symm.trans (h.2 x))⟩
theorem Ct(h:T[q]?=some r)(b:l=true↔∃s,r=.str s)(hd:d=true↔∃s,r=.num s):stays T R q=true↔(6∈R->l=false)/\(7∈R->d=false):=by unfold stays;rw[h];clear h;induction r using Row.casesOn with|str s=>exact Zi (b.mpr ⟨_,rfl⟩) (lF hd λh=>h.elim λ_ e=>xc Row.ctorIdx e rfl)|num s=>exact stN (lF b λh=>h.elim λ_ e=>xc Row.ctorIdx e rfl) (hd.mpr ⟨_,rfl⟩)|_=>exact Z1 (lF b λh=>h.elim λ_ e=>xc Row.ctorIdx e rfl) (lF hd λh=>h.elim λ_ e=>xc Row.ctorIdx e rfl)
theorem nY.st(U:nY P T A Z)(b:tG P)(G:Good k T)(c:∀q,q∈R↔q∈A)(h:T[q]?=some r)(d:P r w):stays T R q=true↔((∃k∈Z,d0∈k)->isLit w=false)/\((∃k∈Z,dZ∈k)->i9 w=false):=by rw[←U.key b G (G.at (i:=6) rfl) (λr h=>b.str h),←U.key b G (G.at (i:=7) rfl) (λr h=>b.num h),←c,←c];exact Ct h (b.lit d) (b.Un d)
theorem nY.fin(U:nY P T A Z)(z:tG P)(G:Good k T)(t:∀q,q∈R↔q∈A)(l:R.Nodup)(B:¬∃k∈Z,fW∈k)(C:¬∃k∈Z,ea∈k)(p:T<+:T')(o:t'<T'.length)(m:parts T' t'=mh T R)(ho:(mh T R).length=1->mh T R=[t']):NG P T T' A (ei Z) t':=by
 have c:∀q,q∈parts T' t'↔q∈A/\stays T R q=true:=λq=>by rw[m];unfold mh;rw[aO,rP,t]
 have j:(parts T' t').Nodup:=by rw[m];exact cp _ (Lk l)
 rw[←m]at ho;have f:=λ{q r w}=>U.st (q:=q) (r:=r) (w:=w) z G t;clear m l;refine⟨⟨o,je,j,λq b=>?_,λw g=>?_⟩,λq b=>((c q).mp b).1,λq b r w d e g=>?_,ho⟩;.replace b:=(c q).mp b;refine iE (U.all q b.1) λr w d e y=>?_;have:=(f d e).mp b.2;exact Dd r w (fQ p d) e (eM.mpr ⟨y,λq=>ax q B,λ_ q=>ax q C,this⟩)
 .replace g:=eM.mp g;refine d9 (U.mB w g.1) λq b E=>?_;refine d9 E λr d e=>?_;exact i12 q ((c q).mpr ⟨b,(f d e).mpr g.2.2.2⟩) (i12 r (fQ p d) e)
 .exact(c q).mpr ⟨b,(f d e).mpr (eM.mp g).2.2.2⟩
theorem JM(G:Good (k+1) T):parts (fj T (.jV I)) (fO T (.jV I))=I:=by have b:=gq (T:=T) (r:=.jV I);unfold parts;rw[aX,b];intro e;rw[e,G.put.at rfl]at b;exact xo Row.ctorIdx b rfl
theorem nY.out(U:nY P T A Z)(c:tG P)(G:Good (k+1) T)(g:∀q,q∈R↔q∈A)(o:R.Nodup):NG P T (tC T R).2 A (ei Z) (tC T R).1/\T<+:(tC T R).2/\Good k (tC T R).2:=by
 have l:=G.le (dq k);have k0:=U.key c G (G.at (i:=0) rfl) (λr h=>c.any h);have y:=U.key c G (G.at (i:=1) rfl) (λr h=>c.DK h);unfold tC;by_cases d:0∈R;.rw[aS d];have d:=(g 0).mp d;have j:=k0.mp d;exact⟨U.Yk c G (G.at (i:=0) rfl) (λr h=>c.any h) d λw=>eM.trans ⟨λh=>h.2.1 j,λe=>e▸⟨j,λ_=>rfl,λq=>ax j q,λ_=>rfl,λ_=>rfl⟩⟩,aq _,l⟩
 have p:=λe=>d ((g 0).mpr (k0.mpr e));rw[aX d];by_cases f:1∈R;.rw[aS f];have f:=(g 1).mp f;have j:=y.mp f;exact⟨U.Yk c G (G.at (i:=1) rfl) (λr h=>c.DK h) f λw=>eM.trans ⟨λh=>h.2.2.1 p j,λe=>e▸⟨j,λq=>ax q p,λ_ _=>rfl,λ_=>rfl,λ_=>rfl⟩⟩,aq _,l⟩
 have C:=λe=>f ((g 1).mpr (y.mpr e));rw[aX f];have m:=λ{T' t'}=>U.fin (T':=T') (t':=t') c G g o p C;generalize hk:mh T R=I at*;rcases I with _|⟨a,_|⟨b,I⟩⟩;.exact⟨m (aq _) (gJ (G.at (i:=2) rfl)) rfl Ov,aq _,l⟩
 .have t:a∈A:=(g a).mp (rP.mp (aO.mp (eL hk (.head _))).1);have B:=U.p1 c G t;refine ml (U.all a t) λr w z _=>?_;exact⟨m (aq _) (gJ z) B λ_=>rfl,aq _,l⟩
 .exact⟨m eh (gJ gq) (JM G) λe=>ax (dJ e) (cu _),eh,G.put⟩
theorem tp{ts:ab Nat}(e:tG P)(G:Good (k+1) T)(C:th x (ts.map nD))(g:∀t∈ts,∃k∈Z,ShQ P T t k)(o:∀k∈Z,∃t∈ts,ShQ P T t k)(B:(ts.flatMap (parts T)).length<64){y:Prop}(κ:∀t' T',Runs 3 289 [d7,.d x] T (.d (nD t')) T'->Good k T'->T<+:T'->ShQ P T' t' (ei Z)->(∀q∈parts T' t',q∈ts.flatMap (parts T))->(∀q∈ts.flatMap (parts T),∀r w,T[q]?=some r->P r w->w∈ei Z->q∈parts T' t')->((parts T' t').length=1->parts T' t'=[t'])->y):y:=by
 have U:nY P T (ts.flatMap (parts T)) Z:=by
  refine⟨λq c=>?_,λw p=>?_⟩;.refine d9 (ct.mp c) λt f c=>?_;refine d9 (g t f) λk m s=>?_;refine iE (s.to q c) λr w j l z=>?_;exact Dd r w j l (i12 k m z)
  .refine d9 p λk m p=>?_;refine d9 (o k m) λt f s=>?_;refine d9 (s.mB w p) λq c h=>?_;exact i12 q (ct.mpr ⟨t,f,c⟩) h
 have run:=A3 C (λt f=>(g t f).elim λk s=>s.2.lt) (λq c=>by refine iE (U.all q c) λr w j l _=>?_;exact⟨r,j,λb=>e.fresh l⟩) (U.no (G.at rfl) λw h=>e.err h rfl) (U.no (G.at rfl) λw h=>e.fresh h rfl) (U.no (G.at rfl) λw h=>e.fresh h rfl) B G.lt;have O:=U.out e G (R:=fi [] (ts.flatMap (parts T))) (λq=>lp.trans ⟨λh=>h.resolve_left ai,.inr⟩) (vM .nil);exact κ _ _ run O.2.2 O.2.1 O.1.sh O.1.sub O.1.up O.1.one
theorem FY{ts:ab Nat}(h:∀q∈ts,parts T q=[q]):ts.flatMap (parts T)=ts:=by induction ts with|nil=>rfl|cons a l ih=>rw[cD,h a (.head _),ih λq b=>h q (.tail _ b)];rfl
end
section
variable{F:ab Int}{T:ab Row}{X Y L:ab Cell}{n wm:Nat}{H:Hp}
theorem HM(h:T.length<big):Runs 2 158 [d7,.d (sD s)] T (.d (nD (fO T (.str s)))) (fj T (.str s)):=by intro n wm F X;have b:=qp (r:=.str s) h;exact wk Ac dT [dR 5 (b n (11+X.length) F X),dR 0 (dU F X (nD (fO T (Row.str s))) (fj T (Row.str s)))]
theorem SZ(h:T.length<big):Runs 2 166 [d7,.d (nD s)] T (.d (nD (fO T (.num s)))) (fj T (.num s)):=by intro n wm F X;have b:=qp (r:=.num s) h;exact wk zH dT [dR 5 (b n (11+X.length) F X),dR 0 (dU F X (nD (fO T (Row.num s))) (fj T (Row.num s)))]
theorem x2(h:T.length<big):Runs 2 174 [d7,.d (nD e),.d (nD ro)] T (.d (nD (fO T (.arr e ro)))) (fj T (.arr e ro)):=by intro n wm F X;have b:=qp (r:=.arr e ro) h;exact wk wc dT [dR 5 (b n (11+X.length) F X),dR 0 (dU F X (nD (fO T (Row.arr e ro))) (fj T (Row.arr e ro)))]
theorem vw(h:T[t]?=some r):Runs 1 150 [d7,.d (nD t)] T (.d (nD (kc r))) T:=by intro n wm F X;exact wk DH dT [sv 2 (fR F X h),sv 1 (show fZ (V.d (gE r)) (D.int 0) (hs F T X)=some (V.d (D.int ↑(kc r)))by simp),dR 0 (dU F X (D.int ↑(kc r)) T)]
noncomputable def kR(p:Int->Nat->bp):ab (Nat×Nat)->Nat->Int->Int|[],_,f=>f|e::E,i,f=>kR p E (i+1) (if p f e.2then(i:Int)else f)
theorem Cq:∀{A:ab (Nat×Nat)}{i:Nat}{f:Int},kR p (A++[e]) i f=if p (kR p A i f) e.2then((i+A.length:Nat):Int)else kR p A i f:=by intro A;induction A with|nil=>intro i f;exact rfl|cons a A ih=>intro i f;dsimp only[aaP,kR];simp only[ih];simp only[ba,show i+1+A.length=i+(A.length+1)by lia];rfl
theorem l6{p:Int->Nat->bp}{M:Int->Prop}:∀{E:ab (Nat×Nat)}{i:Nat}{f:Int},M f->(∀(j:Nat)(e:Nat×Nat)(g:Int),E[j]?=some e->p g e.2=true->M ((i+j:Nat):Int))->M (kR p E i f):=by
 intro E;induction E with
 |nil=>intro i f h _;exact h|cons a E ih=>
  intro i f h k;refine ih ?_ λj e g c d=>?_;.
   by_cases b:p f a.2=true;.rw[aS b];exact k 0 a f rfl b
   .rw[aX b];exact h
  .have:=k (j+1) e g c d;rwa[←aas,aau]at this
theorem vK{b:Type}{e:b}{r:ab b}:∀{d:ab b},(d++e::r)[d.length]?=some e:=by intro d;induction d with|nil=>rfl|cons a d ih=>exact ih
theorem zM{j σ:Type}{b:ab BS}(E:ab j)(f:ab j->σ->Loc)(g:ab j->Hp)(aec:∀d e r s,E=d++e::r->∃l s',hK tg (nD d.length) (f d s)=some l/\d5 (b.map BS.run) c l (g d)=some (.er,f (d++[e]) s',g (d++[e]))){s:σ}{m:Prop}(κ:∀s',g' tg (d5 (b.map BS.run)) c ((bx E.length).map nD) (f [] s) (g [])=some (.er,f E s',g E)->m):m:=by
 have i:∀r d s,E=d++r->∃s',g' tg (d5 (b.map BS.run)) c ((aaB d.length r.length).map nD) (f d s) (g d)=some (.er,f E s',g E):=by intro r;induction r with|nil=>intro d s h;exact⟨s,by rw[h,aL];rfl⟩|cons e r ih=>intro d s h;refine ml (aec d e r s h) λl s' o p=>?_;refine(ih (d++[e]) s' (by rw[h,bz];rfl)).elim λq k=>⟨q,?_⟩;rw[ao]at k;exact gT o (.inl rfl) p k
 exact(i E [] s rfl).elim λs' h=>κ s' (by rw[aad];exact h)
theorem Od(h:E=d++e::r)(H:Hp):fZ (.d (.lst (E.map g7))) (nD d.length) H=some (.d (g7 e)):=by
 have b:(E.map g7)[d.length]?=some (g7 e):=by rw[bV,h,vK];rfl
 simp[b]
theorem Ex{E:ab (Nat×Nat)}(H:Hp):iu 200 [.d (.lst (E.map g7))] H=some (.int (E.length:Int)):=ag (λk:Nat=>some (D.int k)) (ak _)
noncomputable abbrev kH(C:ab Nat)(E:ab (Nat×Nat)):Int:=kR (λ_ m=>decide (m∈C)) E 0 (-1)
theorem w7:kR p (d++[e]) 0 f=if p (kR p d 0 f) e.2then(d.length:Int)else kR p d 0 f:=by rw[Cq,bQ]
theorem C7{C:ab Nat}(h:fZ (.d g) (nD k) H=some (.d (g7 e))):d5 (nK.map BS.run) c [some (.d g),some (.d (.tup (C.map nD))),some (.d (.int f)),some (.d (nD k))] H=some (.er,[some (.d g),some (.d (.tup (C.map nD))),some (.d (.int (if decide (e.2∈C)then(k:Int)else f))),some (.d (nD k))],H):=by
 have i:f6 .In (nD e.2) (.d (.tup (C.map nD))) H=some (decide (e.2∈C)):=o5;generalize decide (e.2∈C)=b at*;generalize C.map nD=j at*;rcases b with⟨⟩;.exact wq [sv 1 h,sb 3 i]
 .exact wq [sv 1 h,sb 3 i]
theorem sO(f:E.length<64):cF (n+1) wm 181 [.d (.lst (E.map g7)),.d (.tup (C.map nD))] H=some (.d (.int (kH C E)),H):=by refine zM (tg:=.one 3) (c:=⟨cF n,H.length⟩) E (λd o=>[some (.d (.lst (E.map g7))),some (.d (.tup (C.map nD))),some (.d (.int (kH C d))),o]) (λ_=>H) (λd e r o h=>xx _ (some (.d (nD d.length))) rfl (by unfold kH;rw[w7];exact C7 (Od h H))) (s:=none) λo b=>?_;exact wk w0 rfl [sd 0 (Ex (E:=E) H),jX 1 (iz (bK f (by decide)) H),mb 0 b,dR 0 (eQ (D.int (kH C E)) H)]
structure my(E:ab (Nat×Nat)):Prop where
 pw:E.Pairwise λx y=>x.2<=y.2/\x.2<2
 le:∀e∈E,e.2<=2
 sz:E.length<64
theorem my.at(M:my E){j:Nat}(h:i<j)(e:E[i]?=some a)(f:E[j]?=some b):a.2<=b.2/\a.2<2:=by obtain⟨g,c⟩:=aE.mp e;obtain⟨k,d⟩:=aE.mp f;have:=abd.mp M.pw i j g k h;rwa[c,d]at this
theorem w3{L:Int}(h:fZ (.d b) (nD k) (H++[.lst Z .own])=some (.d (g7 e)))(m:Z.length<big)(l:e.2=1->¬(k:Int)<L):d5 (iG.map BS.run) ⟨cF (n+1),w⟩ [some d7,some (.d b),some (.d (.int L)),some (.ref H.length),some (.d (nD k)),N,O] (H++[.lst Z .own])=some (.er,[some d7,some (.d b),some (.d (.int L)),some (.ref H.length),some (.d (nD k)),some (.d (nD e.1)),some (.d (nD e.2))],H++[.lst (Z++[g7 e]) .own]):=by
 have f:=vX (H:=H) (L:=[]) (M:=dP) (c:=⟨cF (n+1),w⟩) (x:=g7 e) m;have g:some (iY dP (.ref H.length) 100 (H++[.lst Z .own]))=some true:=ag some (jm fD 100 dP);obtain⟨p,j⟩:=e;by_cases i:j=1;.subst i;have o:=l rfl;exact wq [sv 1 h,sb 4 (tq o),sb 1 g,dR 3 f]
 .exact wq [sv 1 h,sb 1 (eA (λh=>i (cP h))),sb 1 g,dR 3 f]
theorem yg(M:my E):cF (n+2) wm 188 [d7,.d (.lst (E.map g7))] H=some (.d (.lst (E.map g7)),H):=by refine zM (b:=iG) (tg:=.one 4) (c:=⟨cF (n+1),H.length⟩) E (λd(o:ae V×ae V×ae V)=>[some d7,some (.d (.lst (E.map g7))),some (.d (.int (kH [0] E))),some (.ref H.length),o.1,o.2.1,o.2.2]) (λd=>H++[.lst (d.map g7) .own]) (λd e r o h=>xx _ (some (.d (nD d.length)),some (.d (nD e.1)),some (.d (nD e.2))) rfl (by rw[aC];have hs:=M.sz;rw[h,ao]at hs;refine w3 (Od h _) (by rw[ak];exact bK (aj (aG _ _) hs) (by decide)) λq=>?_;refine l6 (M:=λz=>¬(d.length:Int)<z) (acP.mpr (acT (by decide) (cI _))) λj m _ k l g=>?_;have f:=(M.at (by rw[bQ]at g;exact bg.mp g) (h▸vK) k).1;rw[kB (aU l),q]at f;exact ax f (by decide))) (s:=(none,none,none)) λo i=>?_;exact wk qh rfl [dR 3 (sO (n:=n) (wm:=H.length) (H:=H) M.sz (C:=[0])),sd 1 (Ex (E:=E) (H++[.lst [] .own])),jX 1 (iz (bK M.sz (by decide)) (H++[.lst [] .own])),mb 0 i,dR 0 (show fin H.length (.ret (.ref H.length),[],H++[.lst (E.map g7) .own])=some (.d (.lst (E.map g7)),H)from by simp)]
theorem Cd{L:Int}(h:fZ (.d i) (nD k) H=some (.d (g7 e))):d5 (ot.map BS.run) c [some d7,some (.d i),some (.d (.int L)),some (.d (.int f)),some (.d (nD k)),none,none,none] H=some (.er,[some d7,some (.d i),some (.d (.int L)),some (.d (.int (if decide (f<0/\e.2=2)then(k:Int)else f))),some (.d (nD k)),none,none,none],H):=by
 obtain⟨m,j⟩:=e;simp only;by_cases b:f<0;.
  by_cases g:j=2;.rw[ay ⟨b,g⟩];subst g;exact wq [sb 1 (tS b),sv 2 h]
  .rw[aw λh=>g h.2];have l:¬(j:Int)=2:=λh=>g (cP h);exact wq [sb 1 (tS b),sv 2 h,sb 3 (eA l)]
 .rw[aw λh=>b h.1];exact wq [sb 1 (tq b)]
theorem DW(M:my E):cF (n+1) wm 195 [d7,.d (.lst (E.map g7)),.d (.int (kH [2,1] E))] H=some (.d (.lst (E.map g7)),H):=by
 refine zM (tg:=.one 4) (c:=⟨cF n,H.length⟩) E (λd o=>[some d7,some (.d (.lst (E.map g7))),some (.d (.int (kH [2,1] E))),some (.d (.int (kR (λf m=>decide (f<0/\m=2)) d 0 (-1)))),o,none,none,none]) (λ_=>H) (λd e r o h=>xx _ (some (.d (nD d.length))) rfl (by rw[w7];exact Cd (Od h H))) (s:=none) λo b=>?_;have p:=iz (bK M.sz (by decide)) H;have k:kR (λf m=>decide (f<0/\m=2)) E 0 (-1)<0\/kH [2,1] E<=kR (λf m=>decide (f<0/\m=2)) E 0 (-1):=by refine l6 (M:=λz=>z<0\/kH [2,1] E<=z) (.inl (by decide)) λj e _ t y=>.inr ?_;refine l6 (M:=λz=>z<=((0+j:Nat):Int)) (acT (by decide) (cI _)) λG C _ A _=>abX.mpr ?_;rw[bQ,bQ];refine Nat.le_of_not_lt λq=>?_;have:=(M.at q t A).2;rw[(aU y).2]at this;exact ax this (by decide)
 generalize kR (λf m=>decide (f<0/\m=2)) E 0 (-1)=f at k b;have l:=Ex (E:=E) H;have i:=eQ (D.lst (E.map g7)) H;generalize kH [2,1] E=L at*;generalize E.map g7=B at*;by_cases g:f<0;.exact wk sf rfl [sd 0 l,jX 1 p,mb 0 b,sb 1 (tS g),dR 1 i]
 .exact wk sf rfl [sd 0 l,jX 1 p,mb 0 b,sb 1 (tq g),sb 2 (show f6 .LtE (.int L) (.d (.int f)) H=some true from by simp[k.resolve_left g]),dR 1 i]
noncomputable def p8(E:ab (Nat×Nat))(ro:Nat):Row:=match E with|[(e,2)]=>.arr e ro|E=>.tup E ro
theorem rV(h:∀e,E≠[(e,2)]):p8 E ro=.tup E ro:=by
 rcases E with _|⟨⟨e,m⟩,_|⟨b,E⟩⟩;.rfl
 .rcases m with _|_|_|m<;>first|rfl|exact ax rfl (h e)
 .rcases m with _|_|_|m<;>rfl
noncomputable def Fa:ab (Nat×Nat)->bp|[(_,2)]=>true|_=>false
theorem Jo:(gi [(TE (dS .Eq (gN 200 [(dM 3)]) (dN (.int 1)))),(TE (dS .Eq (dQ (dQ (dM 3) (dN (.int 0))) (dN (.int 1))) (dN (.int 2))))]).run c [some d7,o1,o2,some (.d (.lst (E.map g7))),Z] H=some (Fa E,H):=by
 rcases E with _|⟨⟨e,m⟩,_|⟨b,E⟩⟩;.rfl
 .have h:Fa [(e,m)]=decide (m=2):=by rcases m with _|_|_|m<;>rfl
  rw[h];by_cases f:m=2;.subst f;rfl
  .rw[aw f];exact wb [sb 9 (eA (λq=>f (cP q)))]
 .have h:Fa ((e,m)::b::E)=false:=by rcases m with _|_|_|m<;>rfl
  rw[h];have B:iu 200 [.d (.lst (((e,m)::b::E).map g7))] H=some (.int (((E.map g7).length+1+1:Nat):Int)):=rfl;exact wb [sb 2 (eA (show¬(((E.map g7).length+1+1:Nat):Int)=1fromλh=>ax (cP h) (by simp)))]
noncomputable def Va(x ro:D)(b:D)(Z:ae V):Loc:=[some d7,some (.d x),some (.d ro),some (.d b),Z]
theorem Qs(M:my E)(h:Fa E=false):d5 (((iT.drop 1).take 1).map BS.run) ⟨cF (n+2),w⟩ (Va x ro (.lst (E.map g7)) none) H=some (.er,Va x ro (.lst (E.map g7)) (some (.d (.int (kH [2,1] E)))),H):=by
 have i:=sO (n:=n+1) (wm:=w) (H:=H) M.sz (C:=[3]);have b:=sO (n:=n+1) (wm:=w) (H:=H) M.sz (C:=[2,1]);have g:kH [3] E<0:=l6 (M:=λz=>z<0) (by decide) λj e _ m o=>by have:=M.le e (aae m);rw[kB (aU o)]at this;exact ax this (by decide)
 have p:=yg (n:=n) (wm:=w) (H:=H) M;have k:=DW (n:=n+1) (wm:=w) (H:=H) M;have l:=λZ=>Jo (E:=E) (c:=⟨cF (n+2),w⟩) (H:=H) (o1:=some (.d x)) (o2:=some (.d ro)) (Z:=Z);rw[h]at l;generalize kH [3] E=r at i g;generalize kH [2,1] E=f at b k⊢;generalize E.map g7=q at*;refine BC ?_ (gK (a:=[dX 4 (dO 181 [(dM 3),(d8 [(dN (.int 2)),(dN (.int 1))])]),dX 3 (dO 195 [(dM 0),(dO 188 [(dM 0),(dM 3)]),(dM 4)])]) ?_ (MV (l (some (.d (.int f))))));.exact wb [dR 3 i,sb 1 (tS g)]
 .exact wq [dR 4 b,dR 3 p,dR 2 k]
theorem rA(M:my E)(l:th x (E.map g7))(g:T.length<big):Runs 3 201 [d7,.d x,.d (nD ro)] T (.d (nD (fO T (p8 E ro)))) (fj T (p8 E ro)):=by
 intro n wm F X;have i:∀(E:ab (Nat×Nat))(a b:ae V),fa (d8 [dM 5,dM 6]).run (.many [5,6]) (gM []) ⟨cF (n+2),11+X.length⟩ (E.map g7) [some d7,some (.d x),some (.d (nD ro)),none,none,a,b] (hs F T X)=some (E.map g7,hs F T X):=by intro E;induction E with|nil=>intro a b;rfl|cons e E ih=>intro a b;refine Eq.trans (b:=(fa (d8 [dM 5,dM 6]).run (.many [5,6]) (gM []) ⟨cF (n+2),11+X.length⟩ (E.map g7) [some d7,some (.d x),some (.d (nD ro)),none,none,some (.d (nD e.1)),some (.d (nD e.2))] (hs F T X)).map (VI (g7 e))) ?_ (by rw[ih];rfl);rw[aH,rI];rfl
 have j:=Xh l (hs F T X);rcases c:Fa E with⟨⟩;.
  have k:p8 E ro=.tup E ro:=rV λe q=>by rw[q]at c;exact aaM c
  rw[k];refine(j3 _ _ _ _).trans (mf (b:=iT.drop 1) rfl dT (show d5 ((iT.take 1).map BS.run) ⟨cF (n+2),11+X.length⟩ (uy 5 [d7,.d x,.d (nD ro)]) (hs F T X)=some (.er,Va x (nD ro) (.lst (E.map g7)) none,hs F T X)from wq [jX 0 j,jX 0 (i E none none)]) (tH (b:=iT.drop 2) (Qs M c) ?_));exact wf [dR 6 (qp (r:=.tup E ro) g (n+1) (11+X.length) F X),dR 0 (dU F X (nD (fO T (Row.tup E ro))) (fj T (Row.tup E ro)))]
 .have f:∃e,E=[(e,2)]:=by rcases E with _|⟨⟨e,_|_|_|m⟩,_|⟨b,E⟩⟩<;>first|exact⟨e,rfl⟩|exact aaM c
  refine f.elim λe f=>?_;subst f;exact wk j3 dT [jX 0 j,dR 4 (sO (n:=n+1) (wm:=11+X.length) (H:=hs F T X) M.sz (C:=[3])),dR 7 (sO (n:=n+1) (wm:=11+X.length) (H:=hs F T X) M.sz (C:=[2,1])),dR 3 (yg (n:=n) (wm:=11+X.length) (H:=hs F T X) M),dR 2 (DW (n:=n+1) (wm:=11+X.length) (H:=hs F T X) M),dR 18 (x2 (e:=e) (ro:=ro) g n (11+X.length) F X),dR 0 (dU F X (nD (fO T (.arr e ro))) (fj T (.arr e ro)))]
end
noncomputable abbrev mg:=W×Nat×Nat×Nat
section
variable{F:ab Int}{T:ab Row}{X Y L:ab Cell}{n wm:Nat}{H:Hp}
section
variable{α:Type}{f:α->W}{g:α->D}
theorem sS{l:ab α}:hU (sD w) (l.map λa=>(sD (f a),g a))=some ((l.find? λa=>decide (f a=w)).map g):=by induction l with|nil=>exact rfl|cons a l ih=>exact if h:f a=w then(ED ((vP _ _).trans (ag some (ay h)))).trans (by rw[cS,ay h];rfl)else(DQ ((vP _ _).trans (ag some (aw h)))).trans (by rw[cS,aw h];exact ih)
theorem iA{l:ab α}:eg .s (l.map λa=>(sD (f a),g a))=true:=by simp[eg,D.sort]
theorem pR{l:ab α}(h:w∉l.map f):hU (sD w) (l.map λa=>(sD (f a),g a))=some none:=by
 rw[sS,List.find?_eq_none.mpr];.rfl
 .intro a b;simp only[aZ];intro e;exact h (af.mpr ⟨a,b,e⟩)
theorem zA{l:ab α}(h:w∉l.map f):jF (sD w) v (l.map λa=>(sD (f a),g a))=some ((l.map λa=>(sD (f a),g a))++[(sD w,v)]):=wY (pR h)
theorem rk{a:α}:∀{l:ab α},(l.map f).Nodup->a∈l->l.find? (λb=>decide (f b=f a))=some a:=by
 intro l;induction l with
 |nil=>intro _ h;exact kn h|cons b l ih=>
  intro c h;rw[aH,a9]at c;rcases ah.mp h with e|e;.clear h;refine sZ e ?_;simp
  .have:f b≠f a:=λq=>c.1 (q▸af.mpr ⟨a,e,rfl⟩);simp[this,ih c.2 e]
end
noncomputable def eP(ps:ab mg):ab mg:=sortBy (λa b=>eT a.1 b.1) ps
theorem m'{l:ab mg}:(eP l).map (·.1)=sortBy eT (l.map (·.1)):=(lL λ_ _=>rfl).symm
theorem j9:p∈eP l↔p∈l:=iF
noncomputable def IJ(ps:ab mg):ab (D×D):=ps.map λp=>(sD p.1,mP p)
theorem SW(b:ps.length<big)(c:p.1∉ps.map (·.1)):IH (sD p.1) (mP p) (.ref H.length) (H++[.eH (IJ ps) false])=some (H++[.eH (IJ (ps++[p])) false]):=(Dh (x:=sD p.1) fD (iA (f:=λp:mg=>p.1)) (aj (b4 (ak _)) b) (zA c)).trans (ag some (lq.trans (ag (λl=>H++[Cell.eH l false]) ((aC (f:=λp:mg=>(sD p.1,mP p)) (l₁:=ps) (l₂:=[p])).symm))))
theorem xh(m:(ps.map (·.1)).Nodup)(j:ps.length<64):cF (n+1) wm 206 [.d (.lst (ps.map mP))] H=some (.d (.tup ((eP ps).map mP)),H):=by
 refine ny (b:=lE) (tg:=.one 2) (c:=⟨cF n,H.length⟩) (e:=mP) (λo=>[some (.d (.lst (ps.map mP))),some (.ref H.length),o]) (λd=>H++[.eH (IJ d) false]) ps (λ_ _=>rfl) (λd p r s=>?_) (o:=none) λo t=>?_;.rw[s,ao]at j;rw[s,aC,aH,a7]at m;have i:fZ (.d (mP p)) (.int 0) (H++[.eH (IJ d) false])=some (.d (sD p.1)):=rfl;generalize sD p.1=k at*;generalize mP p=P at*;exact wq [sv 2 i,sh 1 (SW (H:=H) (bK (aj (aG _ _) j) (by decide)) (λq=>m.2.2 _ q _ (.head _) rfl))]
 have so:=iA (f:=λp:mg=>p.1) (g:=mP) (l:=ps);have hs:iu 201 [.ref H.length] (H++[.eH (IJ ps) false])=some (.lst ((eP ps).map (λp=>sD p.1))):=by
  have e:((ps.map λp=>(sD p.1,mP p)).map (·.1))=(ps.map (·.1)).map sD:=by rw[aK,aK];rfl
  unfold IJ;simp only[iu,tW,zx,anyB,jB,fD,so,acV,adp,bh];rw[e,nk (by rw[ak];exact j),←m',aK];rfl
 have y:=fV (elt:=(dQ (dM 1) (dM 3)).run) (c:=⟨cF n,H.length⟩) (e:=λp:mg=>sD p.1) (H:=H++[.eH (IJ ps) false]) [some (.d (.lst (ps.map mP))),some (.ref H.length),o] (eP ps) mP (o:=none) (λp z=>by
  have i:fZ (.ref H.length) (sD p.1) (H++[.eH (IJ ps) false])=some (.d (mP p)):=by exact Ha fD so (by unfold IJ;rw[sS,rk m (j9.mp z)];rfl)
  exact wd [sv 1 i]);exact wk sx rfl [mb 2 t,sd 0 hs,jX 1 y,dR 1 (vG [.eH (IJ ps) false] (.tup ((eP ps).map mP)) H)]
theorem Tl(e:(ps.map (·.1)).Nodup)(c:ps.length<64)(b:T.length<big):Runs 2 218 [d7,.d (.lst (ps.map mP)),.d (.tup []),.d (.tup []),.d (ka E),.d (ka ni),.d (.int 0)] T (.d (nD (fO T (.obj (eP ps) E ni)))) (fj T (.obj (eP ps) E ni)):=by intro n wm F X;exact wk tb dT [dR 3 (show cF (n+1) (11+X.length) 206 [V.d (D.lst (aaa mP ps))] (hs F T X)=some (V.d (D.tup (aaa mP (eP ps))),hs F T X)by simp[xh e c]),dR 9 ((qp (r:=.obj (eP ps) E ni) b) n (11+X.length) F X),dR 0 (dU F X (nD (fO T (Row.obj (eP ps) E ni))) (fj T (Row.obj (eP ps) E ni)))]
theorem N2(e:(ps.map (·.1)).Nodup)(c:ps.length<64)(b:T.length<big):Runs 2 218 [d7,.d (.lst (ps.map mP)),.d (.tup []),.d (.tup []),.d (ka E),.d (ka ni)] T (.d (nD (fO T (.obj (eP ps) E ni)))) (fj T (.obj (eP ps) E ni)):=by intro n wm F X;exact wk tb dT [dR 3 (xh (n:=n) (wm:=11+X.length) (H:=hs F T X) e c),dR 9 (qp (r:=.obj (eP ps) E ni) b n (11+X.length) F X),dR 0 (dU F X (nD (fO T (.obj (eP ps) E ni))) (fj T (.obj (eP ps) E ni)))]
theorem MG:kc r<=15:=by induction r using Row.casesOn with|_=>exact bl rfl
noncomputable def o6:Row->bp|.key _|.bool _ _|.str _|.num _|.obj _ _ _|.arr _ _=>true|.tup es _=>es.all λe=>decide (e.2<3)|_=>false
theorem kK(h:T[t]?=some r)(g:o6 r=true):Runs 1 558 [d7,.d (nD t)] T (.d (.bool false)) T:=by
 intro n wm F X;refine(let l:Prop:=_;(?_:l));induction r using Row.casesOn with
 |tup f k=>
  refine ny (b:=qz) (tg:=.one 4) (c:=⟨cF n,11+X.length⟩) (e:=g7) (λo=>[some d7,some (.d (nD t)),some (.d (gE (.tup f k))),none,o,none]) (λ_=>hs F T X) f (λ_ _=>rfl) (λd e r j=>?_) (o:=none) λo i=>?_;.have q:¬(e.2:Int)=3:=λq=>ax (aU (aA.mp g e (eL j (aN _ (.head _))))) (cP q▸cQ 3);exact wq [sb 3 (eA q)]
  .exact wk qa dT [sv 2 (fR F X h),mb 23 i,dR 5 (dU F X (D.bool false) T)]|_=>first|(exact fE g;done)|exact wk qa dT [sv 2 (fR F X h),dR 25 (dU F X (D.bool false) T)]
theorem NY(z:t<T.length)(m:T[2]?=some (.key fG))(h:∀q∈parts T t,∃r,T[q]?=some r/\o6 r=true):Runs 2 558 [d7,.d (nD t)] T (.d (.bool false)) T:=by
 have f:=au z;generalize T[t]=r at f;by_cases p:∃g,r=.jV g;.
  obtain⟨g,rfl⟩:=p;have l:parts T t=g:=by unfold parts;rw[aX,f];intro e;subst e;rw[m]at f;exact xo Row.ctorIdx f rfl
  rw[l]at h;intro n wm F X;refine(let A:Prop:=_;(?_:A));refine ny (b:=qD) (tg:=.one 3) (c:=⟨cF (n+1),11+X.length⟩) (e:=nD) (λo=>[some d7,some (.d (nD t)),some (.d (gE (.jV g))),o,none,none]) (λ_=>hs F T X) g (λ_ _=>rfl) (λd q r y=>?_) (o:=none) λo s=>?_;.refine d9 (h q (eL y (aN _ (.head _)))) λr j k=>?_;exact wq [dR 2 (kK j k n (11+X.length) F X)]
  .exact wk qa dT [sv 2 (fR F X f),mb 13 s,dR 10 (dU F X (D.bool false) T)]
 .have hs:o6 r=true:=by
   by_cases i:t=2;.subst i;rw[m]at f;refine so f ?_;rfl
   .have:=eO f i (λg e=>p ⟨g,e⟩);refine d9 (h t (by rw[this];simp)) λB j k=>?_;rw[f]at j;obtain rfl:=sI j;exact k
  intro n wm F X;exact kK f hs (n+1) wm F X
noncomputable def Ii(t:Nat):Row->bp|.key _=>decide (t=3\/t=4\/t=5\/t=6\/t=7)|.bool _ _|.str _|.num _=>true|_=>false
theorem hQ(c:cF (n+2) (11+X.length) 320 [d7,.d (nD t)] (hs F T X)=some (.d (.int m),hs F T X))(e:D.has (.int m) [.int 7,.int 0]=some (!b)):cF (n+3) wm 795 [d7,.d (nD t)] (hs F T X)=some (.d (.bool b),hs F T X):=wk sN dT [dR 2 c,sb 3 (show f6 agv (D.int m) (V.d (D.tup [D.int 7,D.int 0])) (hs F T X)=some b by simp[e]),dR 0 (dU F X (D.bool b) T)]
theorem kN(h:T[t]?=some (.key s))(b:∀c H,fK dP c (.d mU) 103 [.d (nD t),.d (.int 0)] H=some (.d (.int v),H)):cF (n+2) wm 320 [d7,.d (nD t)] (hs F T X)=some (.d (.int v),hs F T X):=wk kg dT [sv 2 (fR F X h),dR 8 (b {call:=cF (n+1),wm:=11+X.length} (hs F T X)),dR 0 (dU F X (.int v) T)]
theorem Np(h:T[t]?=some r)(g:o6 r=true)(e:∀s,r=.key s->t<8):Runs 3 795 [d7,.d (nD t)] T (.d (.bool (Ii t r))) T:=by
 intro n wm F X;induction r using Row.casesOn with
 |key s=>have:=e s rfl;clear e g;match t,this with|0,_=>exact hQ (kN h λ_ _=>rfl) (by kernel_rfl)|1,_=>exact hQ (kN h λ_ _=>rfl) (by kernel_rfl)|2,_=>exact hQ (kN h λ_ _=>rfl) (by kernel_rfl)|3,_=>exact hQ (kN h λ_ _=>rfl) (by kernel_rfl)|4,_=>exact hQ (kN h λ_ _=>rfl) (by kernel_rfl)|5,_=>exact hQ (kN h λ_ _=>rfl) (by kernel_rfl)|6,_=>exact hQ (kN h λ_ _=>rfl) (by kernel_rfl)|7,_=>exact hQ (kN h λ_ _=>rfl) (by kernel_rfl)|n+8,h=>exact ax h (by lia)
 |bool b f=>exact hQ (m:=3) (wk kg dT [sv 2 (fR F X h),dR 8 (dU F X (D.int 3) T)]) rfl|str s=>exact hQ (m:=1) (wk kg dT [sv 2 (fR F X h),dR 18 (show cF (n+1) (11+X.length) 256 [V.d (gE (Row.str s))] (hs F T X)=some (V.d (D.int 6),hs F T X)by simp[vq,Up]),dR 6 (dU F X (D.int 1) T)]) rfl|num s=>exact hQ (m:=2) (wk kg dT [sv 2 (fR F X h),dR 18 (show cF (n+1) (11+X.length) 256 [V.d (gE (Row.num s))] (hs F T X)=some (V.d (D.int 7),hs F T X)by simp[vq,Up]),dR 6 (dU F X (D.int 2) T)]) rfl|obj a b c=>exact hQ (m:=7) (wk kg dT [sv 2 (fR F X h),dR 11 (dU F X (D.int 7) T)]) rfl|arr a b=>exact hQ (m:=7) (wk kg dT [sv 2 (fR F X h),dR 11 (dU F X (D.int 7) T)]) rfl|tup a b=>exact hQ (m:=7) (wk kg dT [sv 2 (fR F X h),dR 11 (dU F X (D.int 7) T)]) rfl|_=>exact fE g
theorem iD:Runs 1 349 [eb,.d (nD t)] T (.d (nD t)) T:=by intro n wm F X;exact wk vF dT [dR 0 (dU F X (nD t) T)]
theorem AY(h:T[t]?=some (.obj ps E ni)):Runs 2 489 [eb,.d (nD t)] T (.d (nD t)) T:=by
 intro n wm F X;have e:cF (n+1) (11+X.length) 328 [d7,.d (nD t)] (hs F T X)=some (.d (nD t),hs F T X):=by have c:=iz (n:=40) (by decide) (hs F T X);rw[show bx 40=0::(bx 39).map aa7 from abE,aH]at c;generalize aaa _ (aaa aa7 (bx 39))=b at c;have g:d5 (mj.map BS.run) ⟨cF n,11+X.length⟩ [some d7,some (.d (nD t)),some (.d (.int 0)),none] (hs F T X)=some (.ret (.d (nD t)),[some d7,some (.d (nD t)),some (.d (.int 0)),some (.d (gE (.obj ps E ni)))],hs F T X):=wq [sb 1 (tq (acP.mpr (cI t))),sv 3 (fR F X h)];have f:=ox (tg:=.one 2) (Z:=b) (l:=[some d7,some (.d (nD t)),none,none]) rfl g;exact wk tN dT [jX 1 c,mb 0 f,dR 0 (dU F X (nD t) T)]
 exact wk qY dT [dR 3 e,dR 0 (dU F X (nD t) T)]
noncomputable def LG:Row->D|.str s=>sD s|.num k=>sD [48+k]|_=>.fS
theorem oA(h:T[t]?=some r)(c:∀k,r=.num k->k<10):Runs 2 572 [d7,.d (nD t)] T (.d (LG r)) T:=by
 intro n wm F X;induction r using Row.casesOn with
 |str s=>
  have b:cF (n+1) (11+X.length) 565 [d7,.d (nD t)] (hs F T X)=some (.d (sD s),hs F T X):=by exact wk qt dT [sv 2 (fR F X h),dR 7 (dU F X (sD s) T)]
  exact wk oo dT [sv 2 (fR F X h),dR 10 b,dR 0 (dU F X (sD s) T)]|num k=>
  have e:=c k rfl;have b:cF (n+1) (11+X.length) 565 [d7,.d (nD t)] (hs F T X)=some (.d (sD [48+k]),hs F T X):=by
   have:(0:Int)<=k/\(k:Int)<10:=by lia
   exact wk qt dT [sv 2 (fR F X h),sd 12 (show iu 204 [V.d (nD k)] (hs F T X)=some (D.str {cps:=#[48+k]})by simp[h,gE,iu,tW,zx,jo,this,S]),dR 0 (dU F X (D.str {cps:=#[48+k]}) T)]
  exact wk oo dT [sv 2 (fR F X h),dR 10 b,dR 0 (dU F X (sD [48+k]) T)]|_=>exact wk oo dT [sv 2 (fR F X h),dR 8 (dU F X D.fS T)]
end
noncomputable def ek(r:Row)(w:W):Prop:=match r with|.key s=>s∈[fW,ea,d6,gx,d0,dZ]/\w=s|.bool b f=>f=0/\((b=0/\w=hJ)\/(b=1/\w=i8))|.str s=>s.length=1/\w=34::(s++[34])|.num m=>m<10/\w=[48+m]|_=>aeu
noncomputable def gf(R:W):ab W->W|[]=>[]|[w]=>w|w::r=>w++R++gf R r
noncomputable def iQ(k:ab W):W:=if k=[]then fG else gf [124] k
noncomputable def zb(k:ab W):W:=91::(iQ k++[93])
noncomputable def N5(k:ab W):W:=By++([91,46,46,46]++(iQ k++[93]))
noncomputable def i7(T:ab Row)(r:Row)(w:W):Prop:=ek r w\/(∃x k,r=.arr x 1/\ShQ ek T x k/\k.length<=5/\w=N5 k)\/(∃x k,r=.tup [(x,0)] 0/\ShQ ek T x k/\k.length<=5/\w=zb k)
theorem i7.pre(h:T<+:T')(p:i7 T r w):i7 T' r w:=by
 rcases p with p|⟨x,k,p1,b,c⟩|⟨x,k,p1,b,c⟩;.exact .inl p
 .exact .inr (.inl ⟨x,k,p1,b.imp h λ_ _ q=>q,c⟩)
 .exact .inr (.inr ⟨x,k,p1,b.imp h λ_ _ q=>q,c⟩)
noncomputable abbrev KW:ab W:=[fW,ea,d6,gx,d0,dZ]
theorem ek.ind{P:Row->W->Prop}(hk:∀s∈KW,P (.key s) s)(e:P (.bool 0 0) hJ)(i:P (.bool 1 0) i8)(hs:∀c,P (.str [c]) [34,c,34])(g:∀m<10,P (.num m) [48+m])(h:ek r w):P r w:=by
 induction r using Row.casesOn with
 |key s=>rw[h.2];exact hk s h.1|bool b f=>
  obtain⟨rfl,⟨rfl,rfl⟩|⟨rfl,rfl⟩⟩:=h;.exact e
  .exact i|str z=>
  rcases z with _|⟨c,_|⟨d,z⟩⟩;.exact ax h.1 (by decide)
  .rw[h.2];exact hs c
  .exact ax h.1 (by simp)|num m=>rw[h.2];exact g m h.1|_=>exact h.elim
theorem xP(h:(w.head?.any λp=>decide (p<128))=true):mF w:=by
 rcases w with _|⟨p,r⟩;.exact fE h
 .exact⟨p,r,rfl,aU h⟩
theorem ek.k{w k:W}{r:Row}(h:ek r w)(b:(hJ≠k/\i8≠k)/\k.head?≠some 34/\k.length≠1):w=k->r=.key k:=ek.ind (P:=λr w=>w=k->r=.key k) (λs _ e=>ag Row.key e) (λe=>ax e b.1.1) (λe=>ax e b.1.2) (λc e=>ax (e▸rfl) b.2.1) (λm _ e=>ax (e▸rfl) b.2.2) h
theorem n9:tG ek where
 ok:=ek.ind (P:=λ_ w=>mF w) (λs hs=>xP ((show∀s∈KW,(s.head?.any λp=>decide (p<128))=true by decide) s hs)) (xP rfl) (xP rfl) (λ_=>xP rfl) λm d=>⟨_,_,rfl,by lia⟩;Uq:=ek.ind (P:=λ_ w=>w≠fG) (by decide) (by decide) (by decide) (λ_ e=>ax (br e).1 (by decide)) λm d e=>xn (br e).2;jV:=by intro r w f h e;subst e;exact h
 fresh:=by intro r w b h e;subst e;exact ax h.1 (by decide)
 MX:=by intro r w h e;subst e;exact ax h.1 (by decide)
 err:=by intro r w h e;subst e;exact ax h.1 (by decide)
 key:=by intro r w s h e;subst e;exact h.2
 any:=λh=>h.k (by decide) rfl;DK:=λh=>h.k (by decide) rfl;str:=λh=>h.k (by decide) rfl;num:=λh=>h.k (by decide) rfl;TO:=λh=>h.k (by decide) rfl;lit:=ek.ind (P:=λr w=>isLit w=true↔∃s,r=.str s) (λs hs=>⟨λe=>ax e ((show∀s∈KW,¬isLit s=true by decide) s hs),λ⟨_,e⟩=>xc Row.ctorIdx e rfl⟩) ⟨λe=>ax e (by decide),λ⟨_,e⟩=>xc Row.ctorIdx e rfl⟩ ⟨λe=>ax e (by decide),λ⟨_,e⟩=>xc Row.ctorIdx e rfl⟩ (λc=>⟨λ_=>⟨_,rfl⟩,λ_=>rfl⟩) λm d=>⟨λe=>by simp[isLit]at e;lia,λ⟨_,e⟩=>xc Row.ctorIdx e rfl⟩;Un:=ek.ind (P:=λr w=>i9 w=true↔∃s,r=.num s) (λs hs=>⟨λe=>ax e ((show∀s∈KW,¬i9 s=true by decide) s hs),λ⟨_,e⟩=>xc Row.ctorIdx e rfl⟩) ⟨λe=>ax e (by decide),λ⟨_,e⟩=>xc Row.ctorIdx e rfl⟩ ⟨λe=>ax e (by decide),λ⟨_,e⟩=>xc Row.ctorIdx e rfl⟩ (λc=>⟨λe=>by simp[i9]at e,λ⟨_,e⟩=>xc Row.ctorIdx e rfl⟩) λm d=>⟨λ_=>⟨_,rfl⟩,λ_=>by simp[i9];lia⟩
noncomputable def brk(w:W):Prop:=(∃r,w=91::r)\/(∃r,w=By++91::r)\/∃r,w=123::r
theorem iq(h:brk w):mF w/\w≠fG/\w≠fW/\w≠ea/\w≠d0/\w≠dZ/\w≠d6/\isLit w=false/\i9 w=false:=by
 refine d9 (show∃p,w.head?=some p/\p∈[91,114,123]from or3 h (λ⟨r,e⟩=>⟨91,e▸rfl,by decide⟩) (λ⟨r,e⟩=>⟨114,e▸rfl,by decide⟩) λ⟨r,e⟩=>⟨123,e▸rfl,by decide⟩) λp c g=>?_;have b:∀{k:W},(k.head?.any λq=>decide (q∈[91,114,123]))=false->w≠k:=λf e=>by rw[←e,c]at f;exact Ua ((ay g).symm.trans f)
 have d:=(show∀p∈[91,114,123],p<128/\((some p==some 34)=false)/\(decide (48<=p/\p<=57))=false by decide) p g;exact⟨xP (by rw[c];exact ay d.1),b rfl,b rfl,b rfl,b rfl,b rfl,b rfl,by unfold isLit;rw[c];exact d.2.1,by unfold i9;rw[c];exact d.2.2⟩
theorem tG.more(b:tG P)(h:∀r w,Q r w->P r w\/(brk w/\(match r with|.arr _ _|.tup _ _|.obj _ _ _=>True|_=>aeu))):tG Q where
 ok:=λ{r w}q=>(h r w q).elim (λp=>b.ok p) λp=>(iq p.1).1;Uq:=λ{r w}q=>(h r w q).elim (λp=>b.Uq p) λp=>(iq p.1).2.1;jV:=λ{r w d}q=>(h r w q).elim (λp=>b.jV p) λp e=>by subst e;exact p.2
 fresh:=λ{r w d}q=>(h r w q).elim (λp=>b.fresh p) λp e=>by subst e;exact p.2
 MX:=λ{r w}q=>(h r w q).elim (λp=>b.MX p) λp e=>by subst e;exact p.2
 err:=λ{r w}q=>(h r w q).elim (λp=>b.err p) λp e=>by subst e;exact p.2
 key:=λ{r w s}q e=>(h r w q).elim (λp=>b.key p e) λp=>by subst e;exact p.2.elim
 any:=λ{r}q=>(h r _ q).elim (λp=>b.any p) λp=>ax rfl (iq p.1).2.2.1;DK:=λ{r}q=>(h r _ q).elim (λp=>b.DK p) λp=>ax rfl (iq p.1).2.2.2.1;str:=λ{r}q=>(h r _ q).elim (λp=>b.str p) λp=>ax rfl (iq p.1).2.2.2.2.1;num:=λ{r}q=>(h r _ q).elim (λp=>b.num p) λp=>ax rfl (iq p.1).2.2.2.2.2.1;TO:=λ{r}q=>(h r _ q).elim (λp=>b.TO p) λp=>ax rfl (iq p.1).2.2.2.2.2.2.1;lit:=λ{r w}q=>by
  rcases h r w q with p|⟨p,c⟩;.exact b.lit p
  .rw[(iq p).2.2.2.2.2.2.2.1];simp;intro s e;subst e;exact c
 Un:=λ{r w}q=>by
  rcases h r w q with p|⟨p,c⟩;.exact b.Un p
  .rw[(iq p).2.2.2.2.2.2.2.2];simp;intro s e;subst e;exact c
theorem Cb:tG (i7 T):=n9.more λr w h=>by
 refine(let f:Prop:=_;(?_:f));rcases h with p|⟨x,k,b,d,e,c⟩|⟨x,k,b,d,e,c⟩;.exact .inl p
 .exact .inr ⟨.inr (.inl ⟨_,c⟩),by rw[b];trivial⟩
 .exact .inr ⟨.inl ⟨_,c⟩,by rw[b];trivial⟩
theorem len_sub{c:Type}[bA c]:∀{l l':ab c},l.Nodup->(∀x∈l,x∈l')->l.length<=l'.length|[],_,_,_=>by simp|a::l,l',h,hs=>by replace h:=a9.mp h;have b:=hs a ((.head _));have:=len_sub h.2 λx d=>(ab9 (λ(e:x=a)=>h.1 (e▸d))).mpr (hs x ((.tail _ ‹_›)));rw[abj b]at this;have:0<l'.length:=aaA b;simp only[ba];omega
theorem v7{m d:Type}[bA d]{R:d->m->Prop}(f:∀q w j,R q w->R q j->w=j):∀{k:ab m}{l:ab d},k.Nodup->(∀w∈k,∃q∈l,R q w)->k.length<=l.length
 |[],_,_,_=>by simp|a::k,l,h,hs=>by
  replace h:=a9.mp h;refine d9 (hs a ((.head _))) λq g o=>?_;have:=v7 f h.2 λw p=>by refine d9 (hs w ((.tail _ ‹_›))) λi c b=>?_;exact i12 i ((ab9 (λ(e:i=q)=>h.1 (f q a w o (e▸b)▸p))).mpr c) b
  rw[abj g]at this;have:0<l.length:=aaA g;simp only[ba];omega
theorem ek.det(h:ek r w)(h':ek r c):w=c:=by
 rcases r with⟨⟩<;>first|exact h.elim|skip
 .rw[h.2,h'.2]
 .rcases h.2with⟨a,rfl⟩|⟨a,rfl⟩<;>rcases h'.2with⟨b,rfl⟩|⟨b,rfl⟩<;>first|rfl|lia
 .rw[h.2,h'.2]
 .rw[h.2,h'.2]
theorem ShQ.det(l:∀r w c,P r w->P r c->w=c)(h:ShQ P T t k)(h':ShQ P T t k'):k=k':=by
 refine pI h.wx.ss h'.wx.ss λw=>⟨λj=>?_,λj=>?_⟩;.obtain⟨q,i,r,d,e⟩:=h.mB w j;obtain⟨m,c,b,f,g⟩:=h'.to q i;rw[d]at b;cases b;rw[l _ _ _ e f];exact g
 .obtain⟨q,i,r,d,e⟩:=h'.mB w j;obtain⟨m,c,b,f,g⟩:=h.to q i;rw[d]at b;cases b;rw[l _ _ _ e f];exact g
theorem i7.det(h:i7 T r w)(h':i7 T r m):w=m:=by
 rcases h with p|⟨x,k,p1,g,l,j⟩|⟨x,k,p1,g,l,j⟩<;>rcases h' with f|⟨o,k',c,d,i,e⟩|⟨o,k',c,d,i,e⟩;.exact p.det f
 .subst c;exact p.elim
 .subst c;exact p.elim
 .subst p1;exact f.elim
 .rw[p1]at c;cases c;rw[j,e,ShQ.det (P:=ek) (λ_ _ _ a b=>ek.det a b) g d]
 .rw[p1]at c;exact xc Row.ctorIdx c rfl
 .subst p1;exact f.elim
 .rw[p1]at c;exact xc Row.ctorIdx c rfl
 .rw[p1]at c;cases c;rw[j,e,ShQ.det (P:=ek) (λ_ _ _ a b=>ek.det a b) g d]
theorem ShQ.len(g:∀r w b,P r w->P r b->w=b)(h:ShQ P T t k):k.length<=(parts T t).length:=by refine v7 (λq w b⟨r,d,e⟩⟨i,c,f⟩=>?_) h.wx.ss.nd h.mB;rw[d]at c;obtain rfl:=sI c;exact g _ _ _ e f
noncomputable def Jp(q:Nat):bp:=!(decide (q=4)||decide (q=5))
noncomputable def Small(T:ab Row)(t:Nat):Prop:=((parts T t).filter Jp).length<=3
theorem Qx{l:ab Nat}(h:l.Nodup)(hs:(l.filter Jp).length<=3):l.length<=5:=by
 have c:l.length<=(4::5::l.filter Jp).length:=len_sub h λq d=>by
  by_cases b:Jp q=true;.simp[d,b]
  .have:q=4\/q=5:=by simp[Jp]at b;lia
   rcases this with rfl|rfl<;>simp
 simp only[ba]at c;lia
theorem pT{l l':ab Nat}(h:l'.Nodup)(hs:(l.filter Jp).length<=3)(c:∀q∈l',q∈l\/Jp q=false):(l'.filter Jp).length<=3:=by
 refine ar (len_sub (cp _ h) λq b=>?_) hs;rw[aO]at b⊢;rcases c q b.1with e|e;.exact⟨e,b.2⟩
 .rw[e]at b;exact ax b.2 (by decide)
structure Kq(P:Row->W->Prop)(T:ab Row)(t:Nat)(k:ab W):Prop extends ShQ P T t k where
 sm:Small T t
noncomputable abbrev K0(T:ab Row)(t:Nat)(k:ab W):Prop:=Kq ek T t k
noncomputable abbrev Kd(T:ab Row)(t:Nat)(k:ab W):Prop:=Kq (i7 T) T t k
theorem Kq.p5(h:Kq P T t k):(parts T t).length<=5:=Qx h.nd h.sm
theorem K0.l5(h:K0 T t k):k.length<=5:=ar (ShQ.len (P:=ek) (λ_ _ _ a b=>ek.det a b) h.toShQ) h.p5
theorem Kd.l5(h:Kd T t k):k.length<=5:=ar (ShQ.len (P:=i7 T) (λ_ _ _ a b=>i7.det a b) h.toShQ) h.p5
theorem Kq.imp(h:T<+:T')(b:∀r w,P r w->Q r w)(s:Kq P T t k):Kq Q T' t k:=⟨s.toShQ.imp h b,by unfold Small;rw[ke h s.lt];exact s.sm⟩
theorem K0.pre(h:T<+:T')(s:K0 T t k):K0 T' t k:=s.imp h λ_ _ q=>q
theorem Kd.pre(h:T<+:T')(s:Kd T t k):Kd T' t k:=s.imp h λ_ _ q=>q.pre h
theorem K0.up(s:K0 T t k):Kd T t k:=s.imp (aq _) λ_ _ q=>.inl q
theorem ek.len(h:ek r w):w.length<=9:=by
 rcases r with⟨⟩<;>first|exact h.elim|skip
 .obtain⟨h,rfl⟩:=h;replace h:=Xe h;rcases h with rfl|rfl|rfl|rfl|rfl|rfl<;>decide
 .rcases h.2with⟨_,rfl⟩|⟨_,rfl⟩<;>decide
 .rw[h.2];simp[h.1]
 .rw[h.2];simp
theorem iL:∀{k:ab W},(∀w∈k,w.length<=m)->(gf R k).length<=k.length*(m+R.length)|[],_=>(c9 _ _)|[w],h=>by have:=h w ((.head _));simp[gf];lia|w::v::r,h=>by have b:=h w ((.head _));have c:=iL (R:=R) λx d=>h x ((.tail _ ‹_›));rw[(show(w::v::r).length*(m+R.length)=(v::r).length*(m+R.length)+(m+R.length)from by rw[ba,Nat.add_mul,Nat.one_mul])];show(w++R++gf R (v::r)).length<=_;simp only[ao,ao];lia
theorem t4(h:∀w∈k,w.length<=m)(b:k.length<=5):(iQ k).length<=5*(m+1):=by
 unfold iQ;split;.simp;lia
 .refine ar (iL h) (cq _ b)
theorem ShQ.w9(h:ShQ ek T t k):∀w∈k,w.length<=9:=λw c=>by refine d9 (h.mB w c) λq f d=>?_;refine d9 d λr e b=>?_;exact b.len
theorem i7.len(h:i7 T r w):w.length<=80:=by
 rcases h with p|⟨x,k,p1,b,c,d⟩|⟨x,k,p1,b,c,d⟩;.have:=p.len;lia
 .have:=t4 b.w9 c;rw[d];simp[N5];lia
 .have:=t4 b.w9 c;rw[d];simp[zb];lia
theorem ShQ.Y5(h:ShQ (i7 T) T t k):∀w∈k,w.length<=80:=λw c=>by refine d9 (h.mB w c) λq f d=>?_;refine d9 d λr e b=>?_;exact b.len
theorem ShQ.mF(c:tG P)(h:ShQ P T t k):∀w∈k,mF w:=λw d=>by refine d9 (h.mB w d) λq g e=>?_;refine d9 e λr f b=>?_;exact c.ok b
theorem l9(d:tG P)(G:Good k T)(h:T[q]?=some r)(b:P r w):ShQ P T q [w]:=by
 have g:q≠2:=by intro e;subst e;rw[G.at (i:=2) rfl]at h;cases h;exact d.MX b rfl
 have e:=eO h g λj=>d.jV b;refine⟨gJ h,vL,by rw[e];simp,λx c=>?_,λv f=>?_⟩;.rw[e]at c;simp only[ah,ai,a6]at c;subst c;exact⟨r,w,h,b,by simp⟩
 .simp only[ah,ai,a6]at f;subst f;exact⟨q,by rw[e];simp,r,h,b⟩
theorem xq(G:Good k T):Kq P T 2 []:=⟨⟨gJ (G.at rfl),pn,by simp[parts],λq b=>by simp[parts]at b,λw c=>by exact kn c⟩,(c9 _ _)⟩
section
variable{F:ab Int}{T:ab Row}{X Y L:ab Cell}{n wm:Nat}{H:Hp}
structure Pc(P:ab Row->Row->W->Prop):Prop where
 Nu:∀T,tG (P T)
 pre:∀{T T' r w},T<+:T'->P T r w->P T' r w
 simp:∀{T r w},P T r w->o6 r=true
theorem ek.simp(h:ek r w):o6 r=true:=by rcases r with⟨⟩<;>first|rfl|exact h.elim
theorem Tt:Pc λ_=>ek:=⟨λ_=>n9,λ_ p=>p,ek.simp⟩
theorem DX:Pc i7:=⟨λ_=>Cb,λh p=>p.pre h,λ{T r w}h=>by
 rcases h with p|⟨x,k,b,_⟩|⟨x,k,b,_⟩;.exact p.simp
 .rw[b];rfl
 .rw[b];rfl⟩
variable{P:ab Row->Row->W->Prop}{t g:Nat}{k:ab W}
theorem η(b:Pc P)(G:Good g T)(h:T[q]?=some r)(p:P T r d6):q=4:=by have:=(b.Nu T).TO p;subst this;exact G.id h (G.at rfl)
theorem JQ{c:Type}{x a b:c}:x∈[a,b]↔x=a\/x=b:=by simp
theorem x3(b:tG (P T))(G:Good g T)(h:T[q]?=some r)(p:P T r w):parts T q=[q]:=by refine eO h ?_ λc=>b.jV p;intro e;subst e;rw[G.at rfl]at h;obtain rfl:=sI h;exact b.MX p rfl
theorem tl(c:Pc P)(G:Good (g+1) T)(K:Kq (P T) T t k)(r:T[j]?=some (.key s))(y:P T (.key s) s)(J:Jp j=false)(i:ts=[t,j]\/ts=[j,t])(N:th x (ts.map nD)){B:Prop}(κ:∀t' T',Runs 3 289 [d7,.d x] T (.d (nD t')) T'->Good g T'->T<+:T'->Kq (P T') T' t' (ei [k,[s]])->B):B:=by
 have e:=x3 (c.Nu T) G r y;have m:∀{q},q∈ts↔q=t\/q=j:=λ{q}=>i.elim (λh=>by rw[h,JQ]) λh=>by rw[h,JQ,or_comm]
 have f:(ts.flatMap (parts T)).length<64:=by have:=K.p5;rcases i with h|h<;>rw[h]<;>simp[e]<;>lia
 have z:=K.toShQ;have A:=l9 (c.Nu T) G r y;clear i;refine tp (Z:=[k,[s]]) (c.Nu T) G N (λq b=>(m.mp b).elim (λh=>⟨k,.head _,h▸z⟩) λh=>⟨_,.tail _ (.head _),h▸A⟩) (λl f=>(QQ f).elim (λh=>⟨t,m.mpr (.inl rfl),h▸z⟩) λh=>⟨j,m.mpr (.inr rfl),h▸A⟩) f λt' T' C E o p I _ _=>?_;refine κ t' T' C E o ⟨p.imp (aq _) λ_ _ q=>c.pre o q,pT p.nd K.sm λq b=>?_⟩;refine d9 (ct.mp (I q b)) λu M b=>?_;rcases m.mp M with h|h;.exact .inl (h▸b)
 .rw[h,e]at b;exact .inr (kB b▸J)
theorem l7{P:Row->W->Prop}(j:tG P)(G:Good (g+1) T){qs:ab Nat}(J:th x (qs.map nD))(z:∀q∈qs,∃r w,T[q]?=some r/\P r w/\w∈k)(C:∀w∈k,∃q∈qs,∃r,T[q]?=some r/\P r w)(N:wu k)(f:qs.length<64){B:Prop}(κ:∀t' T',Runs 3 289 [d7,.d x] T (.d (nD t')) T'->Good g T'->T<+:T'->ShQ P T' t' k->(∀q∈parts T' t',q∈qs)->(∀q∈qs,∀r w,T[q]?=some r->P r w->w∈k->q∈parts T' t')->B):B:=by
 have A:qs.flatMap (parts T)=qs:=FY λq i=>by refine iE (z q i) λr w a b _=>?_;exact x3 (P:=λ_=>P) j G a b
 have E:ei (k.map λw=>[w])=k:=N.join λw=>⟨λh=>by refine d9 h λl f m=>?_;refine d9 (af.mp f) λv I e=>?_;rw[←e]at m;rw[kB m];exact I,λh=>⟨[w],af.mpr ⟨w,h,rfl⟩,.head _⟩⟩;refine tp (Z:=k.map λw=>[w]) j G J (λq i=>?_) (λl f=>?_) (by rw[A];exact f) λt' T' c g p s sub o _=>?_;.refine iE (z q i) λr w a b c=>?_;exact i12 [w] (af.mpr ⟨w,c,rfl⟩) (l9 j G a b)
 .refine d9 (af.mp f) λw m e=>?_;refine d9 (C w m) λq i y=>?_;refine d9 y λr a b=>?_;exact i12 q i (e▸l9 j G a b)
 .rw[E]at s o;rw[A]at sub o;exact κ t' T' c g p s sub o
theorem GP(G:Good (g+1) T)(K:Kd T t k)(e:th x [nD t,nD 4]):∃t' T',Runs 3 289 [d7,.d x] T (.d (nD t')) T'/\Good g T'/\T<+:T'/\Kd T' t' (ei [k,[d6]]):=tl (ts:=[t,4]) DX G K (G.at (i:=4) rfl) (.inl ⟨by decide,rfl⟩) rfl (.inl rfl) e λt' T' a b c d=>qW t' T' a b c d
theorem Fo(m:Pc P)(G:Good (g+1) T)(K:Kq (P T) T t k):∃t' T',Runs 4 294 [d7,.d (nD t),.d (.lst [.int 4])] T (.d (nD t')) T'/\Good g T'/\T<+:T'/\Kq (P T') T' t' (k.filter λw=>decide (w≠d6)):=by
 refine(let B:Prop:=_;(?_:B));refine l7 (m.Nu T) G (qs:=(parts T t).filter (λq=>decide (q≠4))) (k:=k.filter λw=>decide (w≠d6)) (.inr rfl) (λq j=>?_) (λw p=>?_) K.wx.filter (aj (aY _ _) (aj K.p5 (by decide))) λt' T' f i l s z _=>?_;.rw[aO,aZ]at j;refine iE (K.to q j.1) λr w f i l=>?_;exact Dd r w f i (aO.mpr ⟨l,ay λe=>j.2 (η m G f (e▸i))⟩)
 .rw[aO,aZ]at p;refine d9 (K.mB w p.1) λq j A=>?_;refine d9 A λr f i=>?_;refine i12 q (aO.mpr ⟨j,ay λe=>?_⟩) (i12 r f i);subst e;rw[G.at rfl]at f;obtain rfl:=sI f;exact p.2 ((m.Nu T).key i rfl)
 refine jQ t' T' ⟨?_,i,l,s.imp (aq _) λ_ _ q=>m.pre l q,pT s.nd K.sm λq j=>.inl (aO.mp (z q j)).1⟩;intro n wm F X;have y:=gA (elt:=(dM 3).run) (cs:=(gi [TE (dS .NotIn (dM 3) (dM 2))]).run) (c:=⟨cF (n+3),11+X.length⟩) (H:=hs F T X) [some d7,some (.d (nD t)),some (.d (.lst [.int 4]))] (parts T t) (λq=>decide (q≠4)) nD (o:=none) (λq _=>by have e:f6 .NotIn (nD q) (.d (.lst [.int 4])) (hs F T X)=some (!decide (q∈[4])):=ag (cx (!·)) (o5 (k:=[4]));rw[show(!decide (q∈[4]))=decide (q≠4)from by simp]at e;generalize decide (q≠4)=b at*;rcases b with⟨⟩<;>exact wb [sb 1 e]) (λq _ _=>rfl);generalize(parts T t).filter (λq=>decide (q≠4))=C at f y;exact wk Dc dT [dR 3 ((nB K.lt) (n+2) (11+X.length) F X),jX 1 y,dR 1 (f n (11+X.length) F X),dR 0 (dU F X (nD t') T')]
theorem CN(h:T[q]?=some r)(f:o6 r=true):d5 (iR.map BS.run) ⟨cF (n+1),11+X.length⟩ [some d7,some (.d (nD t)),some (.d (.bool false)),some (.d (nD q)),Z,N] (hs F T X)=some (.er,[some d7,some (.d (nD t)),some (.d (.bool false)),some (.d (nD q)),some (.d (gE r)),some (.d (.tup [nD q]))],hs F T X):=by have i:=BD (r:=r) (H:=hs F T X);have j:¬(kc r:Int)=19:=λe=>ax (cP e▸MG (r:=r)) (by decide);exact wq [sv 2 (fR F X h),sv 1 i,sb 1 (eA j),jX 3 (fV (elt:=(dO 558 [dM 0,dM 6]).run) (c:=⟨cF (n+1),11+X.length⟩) (e:=nD) (H:=hs F T X) [some d7,some (.d (nD t)),some (.d (.bool false)),some (.d (nD q)),some (.d (gE r)),some (.d (.tup [nD q]))] [q] (λ_=>.bool false) (λl b=>by rw[kB b];exact wd [dR 2 (kK h f n (11+X.length) F X)]) (o:=none)),sv 4 i,sb 1 (eA j)]
theorem P9(l:Pc P)(G:Good g T)(K:Kq (P T) T t k):Runs 2 657 [d7,.d (nD t)] T (.d (.bool false)) T:=by
 intro n wm F X;refine lM (b:=iR) (tg:=.one 3) (c:=⟨cF (n+1),11+X.length⟩) (e:=nD) (σ:=ae V×ae V×ae V) (λo=>[some d7,some (.d (nD t)),some (.d (.bool false)),o.1,o.2.1,o.2.2]) (λ_=>hs F T X) (parts T t) (λd q r o m=>?_) (s:=(none,none,none)) λo f=>?_;.refine iE (K.to q (eL m (aN _ (.head _)))) λr w i j _=>?_;exact xx _ (some (.d (nD q)),some (.d (gE r)),some (.d (.tup [nD q]))) rfl (CN i (l.simp j))
 exact wk rg dT [dR 2 (nB K.lt n (11+X.length) F X),mb 1 f,dR 0 (dU F X (D.bool false) T)]
theorem Ru(f:Pc P)(G:Good g T)(K:Kq (P T) T 4 k):k.filter (λw=>decide (w≠d6))=[]:=by refine aaz.mpr ?_;intro w j;refine hd λ_ c=>?_;obtain⟨q,b,r,d,e⟩:=K.mB w j;rw[(eO (G.at (i:=4) rfl) (by decide) (by simp))]at b;simp only[ah,ai,a6]at b;subst b;rw[G.at rfl]at d;obtain rfl:=sI d;refine c ?_;simp[(f.Nu T).key e rfl]
theorem Ic(G:Good (g+1) T)(K:Kd T t k):∃t' T',Runs 5 664 [eb,.d (nD t)] T (.d (nD t')) T'/\Good g T'/\T<+:T'/\Kd T' t' (k.filter λw=>decide (w≠d6)):=by
 refine(let m:Prop:=_;(?_:m));have c:=P9 DX G K;have b:=iD (T:=T) (t:=t);by_cases j:t=4;.
  subst j;refine jQ 2 T ⟨?_,G.le ((aG _ _)),aq _,?_⟩;.intro n wm F X;exact wk qB dT [dR 3 (c (n+2) (11+X.length) F X),dR 3 (b (n+3) (11+X.length) F X),dR 3 (dU F X (D.int 2) T)]
  .rw[Ru DX G K];exact xq G
 .refine jr (Fo DX G K) λt' T' e f i l=>?_;refine jQ t' T' ⟨?_,f,i,l⟩;intro n wm F X;exact wk qB dT [dR 3 (c (n+2) (11+X.length) F X),dR 3 (b (n+3) (11+X.length) F X),sb 1 (eA (show¬(t:Int)=4from by lia)),dR 5 (e n (11+X.length) F X),dR 0 (dU F X (nD t') T')]
theorem join_filter:ei [k.filter λw=>decide (w≠d6),[d6]]=ei [k,[d6]]:=um λw=>by by_cases e:w=d6<;>simp[e]
theorem Io(G:Good (g+1) T)(K:Kd T t k):∃t' T' b,Runs 5 671 [d7,.d (nD t)] T (.d (nD t')) T'/\Good g T'/\T<+:T'/\Kd T' t' b/\ei [b,[d6]]=ei [k,[d6]]:=by
 refine(let l:Prop:=_;(?_:l));by_cases i:t=4;.subst i;refine MN 4 T k ⟨?_,G.le (by lia),aq _,K,rfl⟩;intro n wm F X;exact wk mc dT [dR 3 (dU F X (nD 4) T)]
 .refine jr (Fo DX G K) λt' T' c e f j=>?_;refine MN t' T' _ ⟨?_,e,f,j,join_filter⟩;intro n wm F X;exact wk mc dT [sb 1 (eA (show¬(t:Int)=4from by lia)),dR 5 (c n (11+X.length) F X),dR 0 (dU F X (nD t') T')]
end
section
variable{F:ab Int}{T T1:ab Row}{X Y L:ab Cell}{n wm:Nat}{H:Hp}{i κ t g:Nat}{k:ab W}
noncomputable abbrev gL(κ:Nat):Cell:=.eH [(.int 0,nD κ)] false
theorem map_len(h:X[i]?=some (gL κ)):iu 200 [.ref (11+i)] (hs F T X)=some (.int 1):=by show((jB (.ref (11+i)) (hs F T X)).map bq).map (λn:Nat=>D.int n)=_;rw[show jB (.ref (11+i)) (hs F T X)=some [D.int 0]from by unfold jB;dsimp only;rw[yy,h];rfl];rfl
theorem oO(h:X[i]?=some (gL κ)):ig (.ref (11+i)) (hs F T X)=some (.ref (11+i),hs F T X):=by unfold ig;dsimp only;rw[yy,h]
theorem map_mk(h:X[i]?=some (gL κ)):iY dP (.ref (11+i)) 103 (hs F T X)=true:=V5 (yy.trans h)
theorem J1(h:X[i]?=some (gL κ)):fK dP c (.ref (11+i)) 103 [.d (nD 0),.d e] (hs F T X)=some (.d (nD κ),hs F T X):=by unfold fK;dsimp only;rw[yy,h];show(if 103=103/\(((nD 0).sort.any λq=>eg q [(D.int 0,nD κ)])=true)then(hU (nD 0) [(.int 0,nD κ)]).map (λr=>(V.d (r.getD e),hs F T X))else none)=_;rw[aS ⟨rfl,rfl⟩];rfl
noncomputable abbrev kI(d t t':Nat)(T T':ab Row)(κ:Nat):Prop:=∀(n wm:Nat)(F:ab Int)(X:ab Cell)(i:Nat),X[i]?=some (gL κ)->cF (n+d) wm 902 [eb,.d (nD t),.ref (11+i)] (hs F T X)=some (.d (nD t'),hs F T' X)
noncomputable def ud:Row->bp|.key _|.bool _ _|.str _|.num _=>true|_=>false
theorem ek.atom(h:ek r w):ud r=true:=by rcases r with⟨⟩<;>first|rfl|exact h.elim
theorem wC(h:T[t]?=some r)(e:X[i]?=some (gL κ)):d5 ((hW.take 2).map BS.run) c (uy 4 [eb,.d (nD t),.ref (11+i)]) (hs F T X)=some (.er,[some eb,some (.d (nD t)),some (.ref (11+i)),some (.d (gE r))],hs F T X):=by have B:=map_len (F:=F) (T:=T) e;have b:=fR F X h;exact wq [sd 3 B,sv 6 b]
theorem JK(h:ud r=true):kc r<=4:=by induction r using Row.casesOn with|key s=>exact bl rfl|bool a b=>exact bl rfl|str s=>exact bl rfl|num s=>exact bl rfl|_=>exact fE h
theorem MB(h:T[t]?=some r)(m:ud r=true):kI 2 t t T T κ:=by intro n wm F X i f;have c:=BD (r:=r) (H:=hs F T X);have e:=dU F X (nD t) T;have q:=λj(h:4<j)=>eA (hH (cv (aj (JK m) h)));have l:cF (n+1) (11+X.length) 895 [eb,.d (nD t),.d (gE r),.ref (11+i)] (hs F T X)=some (.d (nD t),hs F T X):=wk yv dT [sv 1 c,sb 1 (q 15 (by decide)),sv 2 c,sb 1 (q 14 (by decide)),sv 2 c,sb 1 (q 18 (by decide)),sv 2 c,sb 1 (q 9 (by decide)),sv 2 c,sb 1 (q 19 (by decide)),sv 2 c,sb 1 (q 16 (by decide)),dR 1 e];refine(jH _ _ _ _).trans (mf (b:=hW.drop 2) rfl dT (wC h f) ?_);exact wf [sv 1 c,sb 1 (q 10 (by decide)),sv 2 c,sb 1 (q 6 (by decide)),sv 2 c,sb 1 (q 11 (by decide)),sv 2 c,sb 1 (q 12 (by decide)),sv 2 c,sb 1 (q 8 (by decide)),sv 2 c,sb 1 (q 13 (by decide)),dR 4 (oO (F:=F) (T:=T) f),dR 0 l,dR 0 e]
theorem Fb(h:T[t]?=some (.param 0)):kI 1 t κ T T κ:=by intro n wm F X i d;refine(jH _ _ _ _).trans (mf (b:=hW.drop 2) rfl dT (wC h d) ?_);exact wf [sb 5 (ag some (map_mk (F:=F) (T:=T) d)),dR 4 (J1 (F:=F) (T:=T) d (c:=⟨cF n,11+X.length⟩) (e:=nD t)),dR 0 (dU F X (nD κ) T)]
noncomputable def subQ(κ q:Nat):Nat:=if q=16then κ else q
theorem OA(G:Good g T){ps:ab Nat}(j:∀q∈ps,q=16\/∃r,T[q]?=some r/\ud r=true)(f:X[i]?=some (gL κ)):cF (n+3) wm 859 [eb,.d (.tup (ps.map nD)),.ref (11+i)] (hs F T X)=some (.d (.tup ((ps.map (subQ κ)).map nD)),hs F T X):=by
 have p:=fV (elt:=(dO 902 [(dM 0),(dM 3),(dM 2)]).run) (c:=⟨cF (n+2),11+X.length⟩) (e:=nD) (H:=hs F T X) [some eb,some (.d (.tup (ps.map nD))),some (.ref (11+i))] ps (λq=>nD (subQ κ q)) (o:=none) (λq s=>by
  have h:cF (n+2) (11+X.length) 902 [eb,.d (nD q),.ref (11+i)] (hs F T X)=some (.d (nD (subQ κ q)),hs F T X):=by
   rcases j q s with rfl|h;.exact Fb (G.at rfl) (n+1) _ F X i f
   .refine d9 h λr b m=>?_;have:q≠16:=by intro e;subst e;rw[G.at rfl]at b;obtain rfl:=sI b;exact fE m
    unfold subQ;rw[aX this];exact MB b m n _ F X i f
  exact wd [dR 2 (oO (F:=F) (T:=T) f),dR 0 h]);have l:=dU F X (D.tup ((ps.map (subQ κ)).map nD)) T;rw[aK]at l⊢;exact wk z7 dT [jX 1 p,dR 1 l]
theorem Mw(G:Good g T)(h:T[t]?=some (.jV ps))(f:∀q∈ps,q=16\/∃r,T[q]?=some r/\ud r=true)(c:Runs 3 289 [d7,.d (.tup ((ps.map (subQ κ)).map nD))] T (.d (nD t')) T'):kI 4 t t' T T' κ:=by intro n wm F X i e;have j:=OA (n:=n) (wm:=11+X.length) (F:=F) G f e;have c:=c n (11+X.length) F X;refine(jH _ _ _ _).trans (mf (b:=hW.drop 2) rfl dT (wC h e) ?_);generalize(ps.map (subQ κ)).map nD=Q at c j;exact wf [dR 16 (oO (F:=F) (T:=T) e),dR 0 j,dR 1 c,dR 0 (dU F X (nD t') T')]
theorem Tn(h:T[t]?=some (.arr e ro))(j:kI 4 e c T T1 κ)(f:T1.length<big):kI 5 t (fO T1 (.arr c ro)) T (fj T1 (.arr c ro)) κ:=by intro n wm F X i d;refine(jH _ _ _ _).trans (mf (b:=hW.drop 2) rfl dT (wC h d) ?_);exact wf [dR 21 (oO (F:=F) (T:=T) d),dR 0 (j n (11+X.length) F X i d),dR 4 (x2 (e:=c) (ro:=ro) f (n+2) (11+X.length) F X),dR 0 (dU F X (nD (fO T1 (.arr c ro))) (fj T1 (.arr c ro)))]
theorem Rl(h:T[t]?=some (.tup [(e,0)] ro))(r:kI 4 e c T T1 κ)(o:T1.length<big):kI 6 t (fO T1 (.tup [(c,0)] ro)) T (fj T1 (.tup [(c,0)] ro)) κ:=by intro n wm F X i f;have j:=oO (F:=F) (T:=T) f;have m:=rA (ro:=ro) (show my [(c,0)]from⟨bX _ _,λx s=>kB s▸bB 2,(by decide:1<64)⟩) (.inl rfl) o (n+1) (11+X.length) F X;rw[show p8 [(c,0)] ro=.tup [(c,0)] ro from rfl]at m;have l:=dU F X (nD (fO T1 (.tup [(c,0)] ro))) (fj T1 (.tup [(c,0)] ro));have p:fa (d8 [dO 902 [dM 0,dQ (dM 5) (dN (D.int 0)),dM 2],dQ (dM 5) (dN (D.int 1))]).run (.one 5) (gM []) ⟨cF (n+4),11+X.length⟩ [g7 (e,0)] [some eb,some (.d (gE (.tup [(e,0)] ro))),some (.ref (11+i)),none,none,none] (hs F T X)=some ([g7 (c,0)],hs F T1 X):=uR rfl (wd [dR 4 j,dR 0 (r n (11+X.length) F X i f)]);have q:cF (n+5) (11+X.length) 876 [eb,.d (gE (.tup [(e,0)] ro)),.ref (11+i)] (hs F T X)=some (.d (nD (fO T1 (.tup [(c,0)] ro))),hs F (fj T1 (.tup [(c,0)] ro)) X):=wk mX dT [jX 3 p,dR 9 m,dR 0 l];refine(jH _ _ _ _).trans (mf (b:=hW.drop 2) rfl dT (wC h f) ?_);exact wf [dR 22 j,dR 0 q,dR 0 l]
noncomputable def Ky(T:ab Row)(κ:Nat)(b:W):Prop:=∃r,T[κ]?=some r/\ek r b
theorem Ky.pre(h:T<+:T')(s:Ky T κ kw):Ky T' κ kw:=by obtain⟨r,b,c⟩:=s;exact⟨r,fQ h b,c⟩
theorem Ky.k0(G:Good g T)(s:Ky T κ kw):K0 T κ [kw]:=by
 refine d9 (s) λr b c=>?_;refine⟨(l9 n9 G b c),?_⟩;have:κ≠2:=by intro q;subst q;rw[G.at rfl]at b;obtain rfl:=sI b;exact n9.MX c rfl
 unfold Small;refine sY (eO b this λd=>n9.jV c) ?_;exact ar (aY _ _) ((c9 _ _))
theorem AS(G:Good (g+1) T)(K:K0 T t k):∃t' T',kI 4 t t' T T' κ/\Good g T'/\T<+:T'/\K0 T' t' k:=by
 refine(let N:Prop:=_;(?_:N));have y:=K.lt;have b:=au y;generalize T[t]=r at b;by_cases B:∃c,r=.jV c;.
  obtain⟨c,rfl⟩:=B;have d:parts T t=c:=by unfold parts;rw[aX,b];intro e;subst e;rw[G.at rfl]at b;exact xo Row.ctorIdx b rfl
  have j:∀q∈c,∃r w,T[q]?=some r/\ek r w/\w∈k:=λq f=>K.to q (d▸f);have z:∀q∈c,q≠16:=by intro q f e;subst e;refine iE (j _ f) λr w l m _=>?_;rw[G.at rfl]at l;obtain rfl:=sI l;exact m
  have p:c.map (subQ κ)=c:=by
   conv=>rhs;rw[←agd c]
   exact bF λq f=>by simp[subQ,z q f]
  refine l7 n9 G (.inl rfl) j (λw M=>d▸K.mB w M) K.wx (aj (d▸K.p5) (by decide)) λt' T' l m s A E _=>?_;refine jQ t' T' ⟨Mw G b (λq f=>.inr ?_) ((sY p l)),m,s,A,pT A.nd K.sm λq f=>.inl (d▸E q f)⟩;refine iE (j q f) λr w l m _=>?_;exact i12 r l m.atom
 .refine jQ t T ⟨?_,G.le ((aG _ _)),aq _,K⟩;have I:ud r=true:=by
   by_cases o:t=2;.subst o;rw[G.at rfl]at b;refine so b ?_;rfl
   .have:=eO b o (λc e=>B ⟨c,e⟩);refine iE (K.to t (by rw[this];simp)) λO w s C _=>?_;rw[b]at s;obtain rfl:=sI s;exact C.atom
  intro n wm F X i J;exact MB b I (n+2) wm F X i J
noncomputable def Tm(T:ab Row)(x U J:Nat)(B:ab W):Prop:=(U=1/\((J=0/\x=16)\/(J=1/\T[x]?=some (.tup [(16,0)] 0))\/(J=2/\T[x]?=some (.jV [5,16]))\/(J=3/\T[x]?=some (.arr 16 1))))\/(U=2/\((J=0/\K0 T x B)\/(J=1/\∃f,K0 T f B/\T[x]?=some (.tup [(f,0)] 0))\/(J=2/\K0 T x (ei [B,[gx]]))\/(J=3/\∃f,K0 T f B/\T[x]?=some (.arr f 1))))
theorem Tm.pre(h:T<+:T')(s:Tm T x U J B):Tm T' x U J B:=by
 rcases s with⟨e,s⟩|⟨e,s⟩;.
  refine .inl ⟨e,?_⟩;rcases s with s|⟨a,s⟩|⟨a,s⟩|⟨a,s⟩;.exact .inl s
  .exact .inr (.inl ⟨a,fQ h s⟩)
  .exact .inr (.inr (.inl ⟨a,fQ h s⟩))
  .exact .inr (.inr (.inr ⟨a,fQ h s⟩))
 .refine .inr ⟨e,?_⟩;refine(let c:Prop:=_;(?_:c));rcases s with⟨a,s⟩|⟨a,f,s,b⟩|⟨a,s⟩|⟨a,f,s,b⟩;.exact .inl ⟨a,s.pre h⟩
  .exact .inr (.inl ⟨a,f,s.pre h,fQ h b⟩)
  .exact .inr (.inr (.inl ⟨a,s.pre h⟩))
  .exact .inr (.inr (.inr ⟨a,f,s.pre h,fQ h b⟩))
noncomputable def oR(J:Nat)(b:ab W):ab W:=match J with|1=>[zb b]|2=>ei [b,[gx]]|3=>[N5 b]|_=>b
noncomputable def gm(U J:Nat)(B I:ab W)(b:W):ab W:=match U with|0=>I|1=>oR J [b]|_=>oR J B
theorem Bt(h:T[x]?=some (.tup [(f,0)] 0))(m:kI 4 f d T T1 κ)(c:Good (g+1) T1)(K:K0 T1 d j)(l:T<+:T1):∃t' T',kI 6 x t' T T' κ/\Good g T'/\T<+:T'/\Kd T' t' [zb j]:=by
 refine jQ _ _ ⟨Rl h m c.lt,c.put,l.trans eh,?_⟩;have b:=gq (T:=T1) (r:=.tup [(d,0)] 0);refine⟨l9 Cb (c.put) b (.inr (.inr ⟨d,j,rfl,(K.pre eh).toShQ,K.l5,rfl⟩)),?_⟩;unfold Small;rw[eO b ?_ λo=>by simp];.exact ar (aY _ _) ((c9 _ _))
 .intro e;rw[e,(c.put).at rfl]at b;exact xo Row.ctorIdx b rfl
theorem AN(h:T[x]?=some (.arr f 1))(m:kI 4 f d T T1 κ)(c:Good (g+1) T1)(K:K0 T1 d j)(l:T<+:T1):∃t' T',kI 6 x t' T T' κ/\Good g T'/\T<+:T'/\Kd T' t' [N5 j]:=by
 refine jQ _ _ ⟨λn=>Tn h m c.lt (n+1),c.put,l.trans eh,?_⟩;have b:=gq (T:=T1) (r:=.arr d 1);refine⟨l9 Cb (c.put) b (.inr (.inl ⟨d,j,rfl,(K.pre eh).toShQ,K.l5,rfl⟩)),?_⟩;unfold Small;rw[eO b ?_ λo=>by simp];.exact ar (aY _ _) ((c9 _ _))
 .intro e;rw[e,(c.put).at rfl]at b;exact xo Row.ctorIdx b rfl
theorem WC(G:Good (g+2) T)(S:Tm T x U J B)(z:Ky T κ A)(I:ab W):∃t' T',kI 6 x t' T T' κ/\Good g T'/\T<+:T'/\Kd T' t' (gm U J B I A):=by
 refine(let C:Prop:=_;(?_:C));have o:Good g T:=G.le ((aG _ _));have m:Good (g+1) T:=G.le (by lia);have e:=z.k0 o;have l:kI 4 16 κ T T κ:=λn=>Fb (G.at (i:=16) rfl) (n+3);rcases S with⟨rfl,s⟩|⟨rfl,s⟩;.
  rcases s with⟨rfl,rfl⟩|⟨rfl,s⟩|⟨rfl,s⟩|⟨rfl,s⟩;.exact jQ κ T ⟨λn=>l (n+2),o,aq _,e.up⟩
  .exact Bt s l m e (aq _)
  .refine tl Tt m e (G.at (i:=5) rfl) ⟨by decide,rfl⟩ rfl (.inr rfl) (.inl rfl) λt' T' b c d y=>?_;refine jQ t' T' ⟨λn=>Mw o s (λq p=>?_) b (n+2),c,d,K0.up y⟩;replace p:=QQ p;rcases p with rfl|rfl;.exact .inr ⟨_,G.at rfl,rfl⟩
   .exact .inl rfl
  .exact AN s l m e (aq _)
 .rcases s with⟨rfl,s⟩|⟨rfl,f,s,r⟩|⟨rfl,s⟩|⟨rfl,f,s,r⟩;.refine jr (AS (κ:=κ) m s) λt' T' b c d j=>?_;exact jQ t' T' ⟨λn=>b (n+2),c,d,j.up⟩
  .refine jr (AS (κ:=κ) G s) λt' T' b c d j=>?_;exact Bt r b c j d
  .refine jr (AS (κ:=κ) m s) λt' T' b c d j=>?_;exact jQ t' T' ⟨λn=>b (n+2),c,d,j.up⟩
  .refine jr (AS (κ:=κ) G s) λt' T' b c d j=>?_;exact AN r b c j d
noncomputable def eJ(Q:Nat)(as:Int)(x m ro:Nat):D:=.tup [.int 17,.int 0,nD Q,.int as,nD x,nD m,nD ro]
theorem EF(G:Good (g+2) T)(S:Tm T x U J B)(p:Ky T κ q)(I:ab W):∃t' T',Runs 8 685 [eb,.d (eJ Q as x m ro),.d (nD κ)] T (.d (nD t')) T'/\Good g T'/\T<+:T'/\Kd T' t' (gm U J B I q):=by
 refine(let r:Prop:=_;(?_:r));refine jr (WC G S p I) λt' T' b c f j=>?_;refine jQ t' T' ⟨?_,c,f,j⟩;intro n wm F X;have l:∀wm,cF (n+7) wm 923 [eb,.d (nD x),.ref (11+X.length)] (hs F T (X++[gL κ]))=some (.d (nD t'),hs F T' (X++[gL κ])):=by
  intro wm;have e:ae8 (11+(X.length+1)) (hs F T' (X++[gL κ]))=hs F T' (X++[gL κ]):=by have:=jG (F:=F) (T:=T') (X:=X++[gL κ]);simpa using this
  exact wk lj dT [dR 2 (show ig (V.ref (11+X.length)) (hs F T (X++[gL κ]))=some (V.ref (11+X.length),hs F T (X++[gL κ]))by simp[ig]),dR 0 (show cF (n+6) (11+(X++[gL κ]).length) 902 [V.ins 926 10,V.d (nD x),V.ref (11+X.length)] (hs F T (X++[gL κ]))=some (V.d (nD t'),hs F T' (X++[gL κ]))by simp[(b n (11+(X.length+1)) F (X++[gL κ]) X.length (by simp))]),dR 0 (dU F (X++[gL κ]) (nD t') T')]
 have o:ig (.ref (11+X.length)) (hs F T (X++[gL κ]))=some (.ref (11+X.length),hs F T (X++[gL κ])):=by simp[ig]
 exact wk tY dT [dR 8 (iB F X (Cell.eH [(D.int 0,nD κ)] false) T),dR 0 o,dR 0 (l (11+X.length)),dR 0 (iZ F X [gL κ] (nD t') T')]
end
section
variable{F:ab Int}{T T1:ab Row}{X Y L:ab Cell}{n wm:Nat}{H:Hp}{i κ t g:Nat}{k:ab W}{Q m ro x U J:Nat}{as:Int}{B:ab W}{kw:W}
@[simp]theorem Vi:nD 0=.int 0:=rfl
@[simp]theorem W0:nD 1=.int 1:=rfl
theorem RB{a b:Nat}:((a:Int)=(b:Int))↔a=b:=by lia
noncomputable def hO(m:Nat)(N:bp):bp:=decide (m=1)||(decide (m=0)&&N)
theorem v3:cF (n+1) wm 692 [.d (eJ Q as x m ro),.d (.bool N)] H=some (.d (.bool (hO m N)),H):=by
 unfold hO;by_cases f:m=1;.subst f;exact wk lW rfl [dR 5 (eQ (D.bool true) H)]
 .have c:¬(m:Int)=1:=by lia
  by_cases e:m=0;.refine sY e ?_;exact wk lW rfl [dR 10 (eQ (D.bool N) H)]
  .have b:¬(m:Int)=0:=by lia
   exact(wk (r:=(V.d (D.bool false),H)) lW rfl [sb 3 (eA c),sb 4 (eA b),dR 1 (eQ (D.bool false) H)]).trans (by simp[f,c,e,b])
noncomputable def mC(Z ro:Nat):Nat:=if Z=1then 1 else if Z=2then 0 else ro
theorem AQ:cF (n+1) wm 678 [.d (nD Z),.d (nD r)] H=some (.d (nD (mC Z r)),H):=by
 unfold mC;by_cases f:Z=1;.subst f;exact wk jg rfl [dR 3 (eQ (D.int 1) H)]
 .have c:¬(Z:Int)=1:=by lia
  by_cases e:Z=2;.refine sY e ?_;exact wk jg rfl [dR 6 (eQ (D.int 0) H)]
  .have b:¬(Z:Int)=2:=by lia
   exact(wk (r:=(V.d (nD r),H)) jg rfl [sb 1 (eA c),sb 2 (eA b),dR 1 (eQ (nD r) H)]).trans (by simp[f,c,e,b])
theorem band{f:Nat}(h:f<64):cE (f:Int) 1=((f%2:Nat):Int)/\cE (f:Int) 2=((f/2%2*2:Nat):Int)/\cE (f:Int) 4=((f/4%2*4:Nat):Int)/\cE (f:Int) 24=((f/8%4*8:Nat):Int):=by
 have:∀f:Nat,f<64->cE (f:Int) 1=((f%2:Nat):Int)/\cE (f:Int) 2=((f/2%2*2:Nat):Int)/\cE (f:Int) 4=((f/4%2*4:Nat):Int)/\cE (f:Int) 24=((f/8%4*8:Nat):Int):=by decide+kernel
 exact this f h
noncomputable def Uv:ae mg->D|none=>.fS|some p=>mP p
noncomputable def yo:ae mg->Nat|none=>0|some p=>p.2.2.1
noncomputable def n7(m Z b:Nat)(plain:bp):Nat:=(if hO m (decide (b%2=1))then 1 else 0)+(if mC Z (b/2%2)=1then 2 else 0)+(if plain then b/4%2*4 else 0)
theorem Lb{plain:bp}(a:yo p<64):cF (n+2) wm 706 [.d (eJ Q as x m ro),.d (Uv p),.d (.bool plain)] H=some (.d (nD (n7 m ro (yo p) plain)),H):=by
 rw[lO,ip rfl];refine CE (band a) λC y E _=>?_;have I:d5 ((eW.take 2).map BS.run) ⟨cF (n+1),H.length⟩ [some (.d (eJ Q as x m ro)),some (.d (Uv p)),some (.d (.bool plain)),none,none,none] H=some (.er,[some (.d (eJ Q as x m ro)),some (.d (Uv p)),some (.d (.bool plain)),some (.d (nD (yo p))),some (.d (nD 0)),none],H):=by rcases p with _|p<;>exact wq []
 generalize yo p=f at*;have K:∀c l,d5 (((eW.drop 2).take 1).map BS.run) ⟨cF (n+1),H.length⟩ [some (.d (eJ Q as x m ro)),c,l,some (.d (nD f)),some (.d (nD 0)),none] H=some (.er,[some (.d (eJ Q as x m ro)),c,l,some (.d (nD f)),some (.d (nD (if hO m (decide (f%2=1))then 1 else 0))),none],H):=by
  intro c l;have e:(!(cE (f:Int) 1==0))=decide (f%2=1):=by rw[C];rcases cT f with h|h<;>rw[h]<;>rfl
  have s:=v3 (n:=n) (wm:=H.length) (H:=H) (Q:=Q) (as:=as) (x:=x) (m:=m) (ro:=ro) (N:=decide (f%2=1));rw[←e]at s⊢;generalize hO m _=b at s⊢;rcases b with⟨⟩;.exact wq [dR 7 s]
  .exact wq [dR 7 s]
 have M:∀c l j,d5 (((eW.drop 3).take 1).map BS.run) ⟨cF (n+1),H.length⟩ [some (.d (eJ Q as x m ro)),c,l,some (.d (nD f)),j,none] H=some (.er,[some (.d (eJ Q as x m ro)),c,l,some (.d (nD f)),j,some (.d (nD (f/2%2)))],H):=by
  intro c l j;rcases cT (f/2)with h|h<;>rw[h]at y⊢;.exact wq [sd 2 (ag (λz=>some (D.int z)) y)]
  .exact wq [sd 2 (ag (λz=>some (D.int z)) y)]
 have O:∀c l(j:Nat),d5 (((eW.drop 4).take 1).map BS.run) ⟨cF (n+1),H.length⟩ [some (.d (eJ Q as x m ro)),c,l,some (.d (nD f)),some (.d (nD j)),some (.d (nD (f/2%2)))] H=some (.er,[some (.d (eJ Q as x m ro)),c,l,some (.d (nD f)),some (.d (nD (j+if mC ro (f/2%2)=1then 2 else 0))),some (.d (nD (f/2%2)))],H):=by
  intro c l j;have R:=AQ (n:=n) (wm:=H.length) (H:=H) (Z:=ro) (r:=f/2%2);generalize f/2%2=G at*;generalize mC ro G=q at*;by_cases o:q=1;.rw[aS o];subst o;exact wq [dR 4 R]
  .rw[aX o];exact wq [dR 4 R,sb 1 (eA λe=>o (RB.mp e))]
 have P:∀c(j:Nat)A,d5 ((eW.drop 5).map BS.run) ⟨cF (n+1),H.length⟩ [some (.d (eJ Q as x m ro)),c,some (.d (.bool plain)),some (.d (nD f)),some (.d (nD j)),A] H=some (.ret (.d (nD (j+if plain then f/4%2*4 else 0))),[some (.d (eJ Q as x m ro)),c,some (.d (.bool plain)),some (.d (nD f)),some (.d (nD j)),A],H):=by
  intro c j A;rcases plain with⟨⟩;.exact wq []
  .exact wq [sd 4 (ag (λz=>some (D.int z)) E)]
 exact(ag (ck · (fin H.length)) (gK I (gK (K _ _) (gK (M _ _ _) (gK (O _ _ _) (P _ _ _)))))).trans (eQ _ H)
noncomputable def gP(m:Nat)(b:ab W)(N:bp):ab W×Nat:=if hO m N then(ei [b,[d6]],1)else if N then(b.filter λw=>decide (w≠d6),0)else(b,0)
noncomputable def Seen(T:ab Row)(t:Nat)(d:bp)(b:ab W):Prop:=∃c,Kd T t c/\b=if d then ei [c,[d6]]else c
theorem Seen.pre(h:T<+:T')(s:Seen T t b k):Seen T' t b k:=by obtain⟨k0,c,d⟩:=s;exact⟨k0,c.pre h,d⟩
theorem yf(h:A fW):Kept A fW:=⟨h,λ_=>rfl,λz=>ax h z,λ_=>rfl,λ_=>rfl⟩
theorem Iz(h:A ea)(n:¬A fW):Kept A ea:=⟨h,λz=>ax z n,λ_ _=>rfl,λ_=>rfl,λ_=>rfl⟩
theorem z9(b:A d6):Kept (λw=>Kept A w\/w=d6) w↔Kept A w:=⟨λk=>k.1.elim id λe=>e▸⟨b,λh=>e▸k.2.1 (.inl (yf h)),λn h=>e▸k.2.2.1 (λz=>z.elim (λz=>n z.1) (λz=>nomatch z)) (.inl (Iz h n)),λ_=>rfl,λ_=>rfl⟩,λk=>⟨.inl k,λz=>z.elim (λz=>k.2.1 z.1) (λz=>nomatch z),λn z=>z.elim (λz=>k.2.2.1 (λh=>n (.inl (yf h))) z.1) (λz=>ax z (by decide)),λz=>z.elim (λz=>k.2.2.2.1 z.1) (λz=>ax z (by decide)),λz=>z.elim (λz=>k.2.2.2.2 z.1) (λz=>ax z (by decide))⟩⟩
theorem Nt{b:ab W}:(∃l∈[a,b],w∈l)↔(w∈a\/w∈b):=⟨λh=>d9 h λl d c=>(QQ d).elim (λe=>.inl (e▸c)) λe=>.inr (e▸c),λh=>h.elim (λh=>i12 a (.head _) h) (λh=>i12 b (.tail _ (.head _)) h)⟩
theorem BY(k:ab W):ei [ei [k,[d6]],[d6]]=ei [k,[d6]]:=by refine pI gZ gZ λw=>?_;rw[eM,eM];refine Iff.trans (iff_of_eq (ag (Kept · w) (funext λv=>propext ?_))) (z9 (i12 [d6] (.tail _ (.head _)) (.head _)));exact Nt.trans (or_congr eM bt)
theorem filter_join(h:wu k):(ei [k,[d6]]).filter (λw=>decide (w≠d6))=k.filter λw=>decide (w≠d6):=by
 refine pI (SS.filter gZ) (SS.filter h.ss) λw=>?_;simp only[aO,eM,Kept];have e:∀{w:W},(∃l∈[k,[d6]],w∈l)↔(w∈k\/w=d6):=by intro w;simp
 simp only[e,aZ];constructor;.rintro⟨⟨b,_⟩,c⟩;exact⟨b.resolve_right c,c⟩
 .intro d;refine lJ (d) λb c=>?_;refine⟨⟨.inl b,λq=>?_,λ_ q=>?_,λq=>?_,λq=>?_⟩,c⟩;.exact h.any (q.resolve_right (by decide)) w b
  .exact h.DK (q.resolve_right (by decide)) w b
  .exact h.str (q.resolve_right (by decide)) w b
  .exact h.num (q.resolve_right (by decide)) w b
theorem Fp(G:Good (g+1) T)(K:Seen T o N k):∃t' T',Runs 9 699 [eb,.d (eJ Q as x m ro),.d (nD κ),.d (nD o),.d (.bool N)] T (.d (nD t')) T'/\Good g T'/\T<+:T'/\Seen T' t' (hO m N) (gP m k N).1:=by
 refine d9 (K) λp K0 y=>?_;subst y;have c:=λn H=>v3 (n:=n) (wm:=bq H) (H:=H) (Q:=Q) (as:=as) (x:=x) (m:=m) (ro:=ro) (N:=N);unfold gP;cases b:hO m N;.
  cases N;.refine jQ o T ⟨?_,G.le (by lia),aq _,p,K0,rfl⟩;intro n wm F X;have:=c (n+7) (hs F T X);rw[b]at this;simp at this;exact wk gB dT [dR 6 this,dR 2 (dU F X (nD o) T)]
  .refine(let q:Prop:=_;(?_:q));refine jr (Ic G K0) λt' T' e f j l=>?_;refine jQ t' T' ⟨?_,f,j,_,l,by simpa using filter_join K0.wx⟩;intro n wm F X;have:=c (n+7) (hs F T X);rw[b]at this;simp at this;exact wk gB dT [dR 6 this,dR 4 (e (n+3) (11+X.length) F X),dR 0 (dU F X (nD t') T')]
 .cases N;.refine(let q:Prop:=_;(?_:q));refine UE (Io G K0) λt' T' s e f j l r=>?_;refine jQ t' T' ⟨?_,f,j,s,l,r.symm⟩;intro n wm F X;have:=c (n+7) (hs F T X);rw[b]at this;simp at this;exact wk gB dT [dR 6 this,dR 7 (e (n+3) (11+X.length) F X),dR 0 (dU F X (nD t') T')]
  .refine jQ o T ⟨?_,G.le (by lia),aq _,p,K0,by simpa using BY p⟩;intro n wm F X;have:=c (n+7) (hs F T X);rw[b]at this;simp at this;exact wk gB dT [dR 6 this,dR 5 (dU F X (nD o) T)]
theorem Im(G:Good (g+3) T)(S:Tm T x U J B)(A:Ky T κ kw)(I:ab W):∃t' T',Runs 9 699 [eb,.d (eJ Q as x m ro),.d (nD κ),.d (.int (-1)),.d (.bool N)] T (.d (nD t')) T'/\Good g T'/\T<+:T'/\Seen T' t' (hO m N) (gP m (gm U J B I kw) N).1:=by
 refine hd λ_ s=>?_;refine jr (EF (Q:=Q) (as:=as) (m:=m) (ro:=ro) G S A I) λy T1 r b q c=>?_;have p:=λn H=>v3 (n:=n) (wm:=bq H) (H:=H) (Q:=Q) (as:=as) (x:=x) (m:=m) (ro:=ro) (N:=N);refine s ?_;unfold gP;cases o:hO m N;.
  rcases N with⟨⟩;.refine jQ y T1 ⟨?_,b.le (by lia),q,_,c,rfl⟩;intro n wm F X;have:=p (n+7) (hs F T1 X);rw[o]at this;simp at this;exact wk gB dT [dR 7 (r n (11+X.length) F X),dR 2 this,dR 2 (dU F X (nD y) T1)]
  .refine jr (Ic b c) λt' T' e f j l=>?_;refine jQ t' T' ⟨?_,f,q.trans j,_,l,rfl⟩;intro n wm F X;have:=p (n+7) (hs F T1 X);rw[o]at this;simp at this;exact wk gB dT [dR 7 (r n (11+X.length) F X),dR 2 this,dR 4 (e (n+3) (11+X.length) F X),dR 0 (dU F X (nD t') T')]
 .refine(let E:Prop:=_;(?_:E));refine UE (Io b c) λt' T' C e f j l z=>?_;refine jQ t' T' ⟨?_,f,q.trans j,C,l,z.symm⟩;intro n wm F X;have:=p (n+7) (hs F T1 X);rw[o]at this;simp at this;exact wk gB dT [dR 7 (r n (11+X.length) F X),dR 2 this,dR 6 (e (n+3) (11+X.length) F X),dR 0 (dU F X (nD t') T')]
end
section
variable{F:ab Int}{T T1:ab Row}{X Y L:ab Cell}{n wm:Nat}{H:Hp}{i κ t g:Nat}{k:ab W}{Q m ro x U J:Nat}{as:Int}{B:ab W}{kw:W}
structure Md where
 rows:ab (W×Nat×Nat)
 si:ae (Nat×Nat)
 ni:ae (Nat×Nat)
noncomputable def FC(p:W×Nat×Nat):D:=.tup [nD p.2.1,nD p.2.2]
noncomputable def fX(X:ab Cell)(M:Md):ab Cell:=X++[.ins [(0,.ref (11+(X.length+1))),(5,.ref (11+(X.length+2))),(14,.d (ka M.si)),(15,.d (ka M.ni))],.eH (M.rows.map λp=>(sD p.1,FC p)) false,.lst (M.rows.map λp=>sD p.1) .sh]
theorem AV:(fX X M).length=X.length+3:=by simp[fX]
theorem p9:(hs F T (fX X M)).length=11+(X.length+3):=by rw[dT,AV]
theorem pb(F:ab Int)(T:ab Row)(X:ab Cell)(M:Md):fin (11+(X.length+3)) (.er,[],hs F T (fX X M))=some (.d .fS,hs F T (fX X M)):=by
 have:(hs F T (fX X M)).take (11+(X.length+3))=hs F T (fX X M):=by rw[←AV];exact jG
 simp[this]
variable{z z1 z2 C:Cell}
@[simp high]theorem HN:(hs F T (X++z::z1::z2::L))[11+(X.length+2)]?=some z2:=by rw[yy,bj ((aG _ _))];simp
@[simp high]theorem Sl:(hs F T (X++z::z1::z2::L)).set (11+(X.length+2)) C=hs F T (X++z::z1::C::L):=by rw[vz,bT _ _ (by lia)];simp
@[simp]theorem HW:(hs F T (X++[z,z1,z2])).take (11+(X.length+3))=hs F T (X++[z,z1,z2]):=by have:=jG (F:=F) (T:=T) (X:=X++[z,z1,z2]);simpa using this
@[simp high]theorem Mt:(hs F T (fX X M))[11+X.length]?=some (.ins [(0,.ref (11+(X.length+1))),(5,.ref (11+(X.length+2))),(14,.d (ka M.si)),(15,.d (ka M.ni))]):=by unfold fX;exact gp
theorem Tp{k:Nat}(h:(v.plain||decide (k<=11+X.length))=true)(b:fs.length<100):MW k v a (.ins c (11+X.length)) (hs F T (X++.ins fs::L))=some (hs F T (X++.ins (kS a v fs)::L)):=(JP gp h b).trans (ag some nM)
theorem zN(H:Hp)(k c a:Nat)(x:D)(fs:ab (Nat×V))(b:fs.length<100):MW k (.d x) a (.ins c H.length) (H++[.ins fs])=some (H++[.ins (kS a (.d x) fs)]):=(JP fD rfl b).trans (ag some lq)
theorem Mc:cF (n+1) (11+X.length) 612 [.ins 634 (11+X.length)] (hs F T (X++[.ins []]))=some (.d .fS,hs F T (fX X ⟨[],none,none⟩)):=by
 have UU:∀(z C z2:Cell),mA (hs F T (X++[z,C])) z2=some (.ref (11+(X.length+2)),hs F T (X++[z,C,z2])):=λz C z2=>by simp[mA]
 have b:=λ{v L}a e h=>Tp (F:=F) (T:=T) (L:=L) (k:=11+X.length) (c:=634) (a:=a) (v:=v) (fs:=e) (by rw[ay (aV _),acV]) h;have h:d5 (mi.map BS.run) ⟨cF n,11+X.length⟩ [some (.ins 634 (11+X.length))] (hs F T (X++[.ins []]))=some (.er,[some (.ins 634 (11+X.length))],hs F T (fX X ⟨[],none,none⟩)):=wq [dR 0 ((show∀(z C:Cell),mA (hs F T (X++[z])) C=some (.ref (11+(X.length+1)),hs F T (X++[z,C]))fromλz C=>by simp[mA]) (.ins []) (.eH [] false)),sh 0 (b (v:=.ref (11+(X.length+1))) (L:=[.eH [] false]) 0 [] (by decide)),dR 0 (UU (.ins [(0,.ref (11+(X.length+1)))]) (.eH [] false) (.lst [] .sh)),sh 0 (b (v:=.ref (11+(X.length+2))) (L:=[.eH [] false,.lst [] .sh]) 5 [(0,.ref (11+(X.length+1)))] (by show _<100;simp)),sh 0 (b (v:=.d (.tup [])) (L:=[.eH [] false,.lst [] .sh]) 14 [(0,.ref (11+(X.length+1))),(5,.ref (11+(X.length+2)))] (by show _<100;simp)),sh 0 (b (v:=.d (.tup [])) (L:=[.eH [] false,.lst [] .sh]) 15 [(0,.ref (11+(X.length+1))),(5,.ref (11+(X.length+2))),(14,.d (.tup []))] (by show _<100;simp))];rw[qV,FL rfl,show uy 1 _=[some (.ins 634 (11+X.length))]from rfl,h];rfl
noncomputable def QT(X:ab Cell)(M:Md):ab Cell:=X++[.ins [(0,.ref (11+(X.length+1))),(5,.ref (11+(X.length+2))),(14,.d (ka M.si)),(15,.d (ka M.ni))]]
theorem Qa(e:nm∉M.rows.map (·.1))(A:M.rows.length<64):cF (n+1) wm 619 [.ins 634 (11+X.length),d7,.d (sD nm),.d (nD t),.d (nD b)] (hs F T (fX X M))=some (.d .fS,hs F T (fX X ⟨M.rows++[(nm,t,b)],M.si,M.ni⟩)):=by
 have o:M.rows.length<big:=bK A (by decide);have r:=zA (g:=FC) (v:=FC (nm,t,b)) e;have c:=iA (f:=λp:W×Nat×Nat=>p.1) (g:=FC) (l:=M.rows);have q:(hs F T (fX X M))[11+(X.length+1)]?=some (.eH (M.rows.map λp:W×Nat×Nat=>(sD p.1,FC p)) false):=by unfold fX;exact qC
 have s:rn (sD nm) (.ref (11+(X.length+1))) (hs F T (fX X M))=some false:=(Fv (x:=sD nm) q c).trans (by rw[pR e];rfl);have y:fK dP ⟨cF n,11+(X.length+3)⟩ (.ref (11+(X.length+2))) 100 [.d (sD nm)] (hs F T (fX X M))=some (.d .fS,hs F T (QT X M++[.eH (M.rows.map λp=>(sD p.1,FC p)) false,.lst ((M.rows.map λp=>sD p.1)++[sD nm]) .sh])):=by rw[nv (by unfold fX;exact HN) (by decide) (by rw[ak];exact o)];unfold fX QT;rw[Sl,bz];rfl
 have j:IH (sD nm) (FC (nm,t,b)) (.ref (11+(X.length+1))) (hs F T (QT X M++[.eH (M.rows.map λp=>(sD p.1,FC p)) false,.lst ((M.rows.map λp=>sD p.1)++[sD nm]) .sh]))=some (hs F T (fX X ⟨M.rows++[(nm,t,b)],M.si,M.ni⟩)):=by unfold QT fX;rw[bz,abT,Dh (x:=sD nm) qC c (aj (b4 (ak _)) o) r,AO,aC,aC];rfl
 exact wk z' p9 [sv 1 (show ky (.ins 634 (11+X.length)) 0 (hs F T (fX X M))=some (.ref (11+(X.length+1)))from(vE (by unfold fX;exact gp)).trans rfl),sb 0 (ag (cx (!·)) s),sv 1 (show ky (.ins 634 (11+X.length)) 5 (hs F T (fX X M))=some (.ref (11+(X.length+2)))from(vE (by unfold fX;exact gp)).trans rfl),sb 0 (show some (iY dP (.ref (11+(X.length+2))) 100 (hs F T (fX X M)))=some true from ag some (jm (by unfold fX;exact HN) 100 dP)),dR 1 y,sv 3 (show ky (.ins 634 (11+X.length)) 0 (hs F T (QT X M++[.eH (M.rows.map λp=>(sD p.1,FC p)) false,.lst ((M.rows.map λp=>sD p.1)++[sD nm]) .sh]))=some (.ref (11+(X.length+1)))from(vE (by unfold QT;rw[bz];exact gp)).trans rfl),sh 1 j,dR 0 (pb F T X ⟨M.rows++[(nm,t,b)],M.si,M.ni⟩)]
theorem PF(j:(if c then M.ni else M.si)=none):cF (n+1) wm 626 [.ins 634 (11+X.length),d7,.d (.bool c),.d (nD t),.d (nD r)] (hs F T (fX X M))=some (.d .fS,hs F T (fX X (if c then⟨M.rows,M.si,some (t,r)⟩else⟨M.rows,some (t,r),M.ni⟩))):=by
 have e:ky (.ins 634 (11+X.length)) 14 (hs F T (fX X M))=some (.d (ka M.si)):=(vE (by unfold fX;exact gp)).trans rfl;have f:ky (.ins 634 (11+X.length)) 15 (hs F T (fX X M))=some (.d (ka M.ni)):=(vE (by unfold fX;exact gp)).trans rfl;have o:ka none=.tup []:=rfl;rcases c with⟨⟩;.
  simp only[aba,aep]at j;rw[j,o]at e;have b:(hs F T (fX X M)).set (11+X.length) (.ins [(0,.ref (11+(X.length+1))),(5,.ref (11+(X.length+2))),(14,.d (.tup [nD t,nD r])),(15,.d (ka M.ni))])=hs F T (fX X ⟨M.rows,some (t,r),M.ni⟩):=by unfold fX;rw[nM];rfl
  have l:(hs F T (fX X ⟨M.rows,some (t,r),M.ni⟩)).take (11+(X.length+3))=hs F T (fX X ⟨M.rows,some (t,r),M.ni⟩):=by unfold fX;exact HW
  exact wk lB p9 [sv 1 e,sh 6 (show MW (11+(X.length+3)) (V.d (D.tup [nD t,nD r])) 14 (V.ins 634 (11+X.length)) (hs F T (fX X M))=some (hs F T (fX X {rows:=M.rows,si:=some (t,r),ni:=M.ni}))from(JP Mt rfl (bl rfl)).trans (ag some b)),dR 0 (pb F T X {rows:=M.rows,si:=some (t,r),ni:=M.ni})]
 .simp only[adp]at j;rw[j,o]at f;have b:(hs F T (fX X M)).set (11+X.length) (.ins [(0,.ref (11+(X.length+1))),(5,.ref (11+(X.length+2))),(14,.d (ka M.si)),(15,.d (.tup [nD t,nD r]))])=hs F T (fX X ⟨M.rows,M.si,some (t,r)⟩):=by unfold fX;rw[nM];rfl
  have l:(hs F T (fX X ⟨M.rows,M.si,some (t,r)⟩)).take (11+(X.length+3))=hs F T (fX X ⟨M.rows,M.si,some (t,r)⟩):=by unfold fX;exact HW
  exact wk lB p9 [sv 1 f,sh 6 (show MW (11+(X.length+3)) (V.d (D.tup [nD t,nD r])) 15 (V.ins 634 (11+X.length)) (hs F T (fX X M))=some (hs F T (fX X {rows:=M.rows,si:=M.si,ni:=some (t,r)}))from(JP Mt rfl (bl rfl)).trans (ag some b)),dR 0 (pb F T X {rows:=M.rows,si:=M.si,ni:=some (t,r)})]
noncomputable def gw(M:Md):ab mg:=M.rows.map λp=>(p.1,p.2.1,p.2.2,0)
theorem Ld(s:(M.rows.map (·.1)).Nodup)(A:M.rows.length<64)(y:T.length<big):∃Z,cF (n+3) wm 631 [.ins 634 (11+X.length),d7] (hs F T (fX X M))=some (.d (nD (fO T (.obj (eP (gw M)) M.si M.ni))),hs F (fj T (.obj (eP (gw M)) M.si M.ni)) (X++Z)):=by
 refine⟨[.ins [(0,.ref (11+(X.length+1))),(5,.ref (11+(X.length+2))),(14,.d (ka M.si)),(15,.d (ka M.ni))],.eH (M.rows.map λp=>(sD p.1,FC p)) false,.lst (M.rows.map λp=>sD p.1) .fz],?_⟩;obtain⟨Z,b⟩:∃Z,Z=X++[.ins [(0,.ref (11+(X.length+1))),(5,.ref (11+(X.length+2))),(14,.d (ka M.si)),(15,.d (ka M.ni))],.eH (M.rows.map λp=>(sD p.1,FC p)) false,.lst (M.rows.map λp=>sD p.1) .fz]:=⟨_,rfl⟩;have j:(hs F T Z)[11+X.length]?=some (.ins [(0,.ref (11+(X.length+1))),(5,.ref (11+(X.length+2))),(14,.d (ka M.si)),(15,.d (ka M.ni))]):=by subst b;exact gp
 have l:ky (.ins 634 (11+X.length)) 0 (hs F T Z)=some (.ref (11+(X.length+1))):=(vE j).trans rfl;have r:=fV (elt:=(d8 [(dM 3),(dQ (dQ (d' (dM 0) 0) (dM 3)) (dN (.int 0))),(dQ (dQ (d' (dM 0) 0) (dM 3)) (dN (.int 1))),(dN (.int 0))]).run) (c:=⟨cF (n+2),11+(X.length+3)⟩) (e:=λp:W×Nat×Nat=>sD p.1) (H:=hs F T Z) [some (.ins 634 (11+X.length)),some d7,none] M.rows (λp=>mP (p.1,p.2.1,p.2.2,0)) (o:=none) (λp G=>by
  have q:fZ (.ref (11+(X.length+1))) (sD p.1) (hs F T Z)=some (.d (.tup [nD p.2.1,nD p.2.2])):=by exact Ha (by refine sY b ?_;exact qC) (iA) (by rw[sS,rk s G];rfl)
  exact wd [sv 1 l,sv 1 q,sv 3 l,sv 1 q]);have f:(M.rows.map λp=>mP (p.1,p.2.1,p.2.2,0))=(gw M).map mP:=by simp[gw]
 rw[f]at r;simp only[←b];exact wk w8 p9 [sv 0 (show ky (.ins 634 (11+X.length)) 5 (hs F T (fX X M))=some (.ref (11+(X.length+2)))from(vE (by unfold fX;exact gp)).trans rfl),jX 0 (show ji (.ref (11+(X.length+2))) (hs F T (fX X M))=some (M.rows.map λp=>sD p.1,hs F T Z)from by refine sY b ?_;rw[R5 (by unfold fX;exact HN)];simp[fX]),jX 0 r,sv 4 (show ky (.ins 634 (11+X.length)) 14 (hs F T Z)=some (.d (ka M.si))from(vE j).trans rfl),sv 1 (show ky (.ins 634 (11+X.length)) 15 (hs F T Z)=some (.d (ka M.ni))from(vE j).trans rfl),dR 2 ((Tl (ps:=gw M) (E:=M.si) (ni:=M.ni) (by simpa[gw,a8]using s) (by simpa[gw]using A) y) n (11+(X.length+3)) F Z),dR 0 (show fin (11+(X.length+3)) (Fl.ret (V.d (nD (fO T (Row.obj (eP (gw M)) M.si M.ni)))),[],hs F (fj T (Row.obj (eP (gw M)) M.si M.ni)) Z)=some (V.d (nD (fO T (Row.obj (eP (gw M)) M.si M.ni))),hs F (fj T (Row.obj (eP (gw M)) M.si M.ni)) Z)by simp[(show(hs F (fj T (.obj (eP (gw M)) M.si M.ni)) Z).take (11+(X.length+3))=hs F (fj T (.obj (eP (gw M)) M.si M.ni)) Z from by refine sY b ?_;exact HW)])]
end
section
variable{F:ab Int}{T T1 T2:ab Row}{X Y L:ab Cell}{n wm:Nat}{H:Hp}{i κ t g:Nat}{k:ab W}{Q m ro x U J:Nat}{as:Int}{B:ab W}{kw:W}
theorem J6(G:Good g T)(p:as=-1\/as=16)(s:Ky T κ kw):Runs 5 713 [eb,.d (eJ Q as x m ro),.d (nD κ)] T (.d (.tup [nD κ])) T:=by
 intro n wm F X;rcases p with rfl|rfl;.exact wk qv dT [dR 6 (dU F X (D.tup [nD κ]) T)]
 .refine d9 (s) λr c j=>?_;have l:κ≠2:=by intro q;subst q;rw[G.at rfl]at c;obtain rfl:=sI c;exact n9.MX j rfl
  have y:∀wm,cF (n+4) wm 923 [eb,.d (.int 16),.ref (11+X.length)] (hs F T (X++[gL κ]))=some (.d (nD κ),hs F T (X++[gL κ])):=by
   intro wm;have o:=Fb (κ:=κ) (G.at (i:=16) rfl) (n+2) (11+(X.length+1)) F (X++[gL κ]) X.length (by simp);have e:ae8 (11+(X.length+1)) (hs F T (X++[gL κ]))=hs F T (X++[gL κ]):=by have:=jG (F:=F) (T:=T) (X:=X++[gL κ]);simpa using this
   rw[show nD 16=.int 16from rfl]at o;exact wk lj dT [dR 2 (show ig (V.ref (11+X.length)) (hs F T (X++[gL κ]))=some (V.ref (11+X.length),hs F T (X++[gL κ]))by simp[ig]),dR 0 (show cF (n+3) (11+(X++[gL κ]).length) 902 [V.ins 926 10,V.d (D.int 16),V.ref (11+X.length)] (hs F T (X++[gL κ]))=some (V.d (nD κ),hs F T (X++[gL κ]))by simp[o]),dR 0 (dU F (X++[gL κ]) (nD κ) T)]
  have b:ig (.ref (11+X.length)) (hs F T (X++[gL κ]))=some (.ref (11+X.length),hs F T (X++[gL κ])):=by simp[ig]
  have f:=nB (gJ c);rw[(eO c l λz=>n9.jV j)]at f;exact wk qv dT [dR 15 (show ig (V.ref (bq (hs F T X))) (hs F T X++[Cell.eH [(D.int 0,nD κ)] false])=some (V.ref (11+X.length),hs F T (X++[gL κ]))by simp[b]),dR 0 (y (11+X.length)),dR 1 ((iD (T:=T) (t:=κ)) (n+3) (11+X.length) F (X++[gL κ])),dR 3 ((kK c j.simp) (n+3) (11+X.length) F (X++[gL κ])),dR 4 (f (n+3) (11+X.length) F (X++[gL κ])),dR 0 (iZ F X [gL κ] (D.tup [nD κ]) T)]
noncomputable def mz(κ:Nat)(p:ae mg)(O:ae (Nat×Nat)):D:=.obj 730 [nD κ,Uv p,ka O]
variable{p:ae mg}{O:ae (Nat×Nat)}
theorem HU(b:110<=j)(h:(dP.lookup (634,j)).isSome):iY dP (.ins 634 (11+X.length)) j (hs F T (fX X M))=true:=(VB (by unfold fX;exact gp)).trans (by rw[ay b,h];rfl)
theorem Qj:fK dP c (.ins 634 (11+X.length)) 112 args (hs F T (fX X M))=c.call c.wm 619 (.ins 634 (11+X.length)::args) (hs F T (fX X M)):=Qg (by unfold fX;exact gp) (by decide) rfl
theorem Pz:fK dP c (.ins 634 (11+X.length)) 113 args (hs F T (fX X M))=c.call c.wm 626 (.ins 634 (11+X.length)::args) (hs F T (fX X M)):=Qg (by unfold fX;exact gp) (by decide) rfl
theorem OG:fK dP c (.ins 634 (11+X.length)) 114 args (hs F T (fX X M))=c.call c.wm 631 (.ins 634 (11+X.length)::args) (hs F T (fX X M)):=Qg (by unfold fX;exact gp) (by decide) rfl
noncomputable def Nm(p:ae mg)(plain:bp):D:=match p,plain with|some p,true=>nD p.2.1|_,_=>.int (-1)
noncomputable def ML(Q:Nat)(as:Int)(x m ro κ i:Nat)(e:D)(pl:bp)(w E:D)(c:bp)(b nF d9:ae V):Loc:=[some eb,some (.d (eJ Q as x m ro)),some (.ins 634 (11+i)),some (.d e),some (.d (nD κ)),some (.d (.bool pl)),some d7,some (.d w),some (.d E),some (.d (.bool c)),b,nF,d9]
noncomputable def Dm:ae (Nat×Nat)->bp->D|some q,true=>nD q.1|_,_=>.int (-1)
noncomputable def Oa(p:ae mg):bp:=decide (yo p%2=1)
theorem Ko:f6 .NotEq (nD (f%2)) (.d (.int 0)) H=some (decide (f%2=1)):=by rcases cT f with h|h<;>rw[h]<;>rfl
theorem Lr(b:Runs 2 572 [d7,.d (nD κ)] T (.d w) T)(o:yo p<64)(pl:bp){k:Nat}:d5 ((fo.take 5).map BS.run) ⟨cF (n+9),k⟩ (uy 13 [eb,.d (eJ Q as x m ro),.ins 634 (11+i),.d (mz κ p none),.d (nD κ),.d (.bool pl)]) (hs F T X)=some (.er,ML Q as x m ro κ i (mz κ p none) pl w (Nm p pl) (Oa p) none none none,hs F T X):=by
 have b:=b (n+7) k F X;rcases p with _|⟨r,j,c,q⟩;.rcases pl with⟨⟩<;>exact wq [dR 3 b]
 .have e:fv .BitAnd (nD c) (.int 1)=some (nD (c%2)):=ag (λz=>some (D.int z)) (band o).1;have l:=Ko (f:=c) (H:=hs F T X);rcases pl with⟨⟩;.exact wq [dR 3 b,sd 8 e,sb 1 l]
  .exact wq [dR 3 b,sd 8 e,sb 1 l]
theorem HP(b:Runs 2 572 [d7,.d (nD κ)] T (.d w) T)(pl:bp){k:Nat}:d5 ((fo.take 5).map BS.run) ⟨cF (n+9),k⟩ (uy 13 [eb,.d (eJ Q as x m ro),.ins 634 (11+i),.d (mz κ none O),.d (nD κ),.d (.bool pl)]) (hs F T X)=some (.er,ML Q as x m ro κ i (mz κ none O) pl w (Dm O pl) false none none none,hs F T X):=by
 have b:=b (n+7) k F X;rcases O with _|⟨t,r⟩;.rcases pl with⟨⟩<;>exact wq [dR 3 b]
 .rcases pl with⟨⟩;.exact wq [dR 3 b]
  .exact wq [dR 3 b]
theorem Rw{plain:bp}(G:N=true↔yo p%2=1)(E:T[κ]?=some r)(y:LG r=sD nm)(e:∀d,r=.num d->d<10)(f:yo p<64)(A:Runs 9 699 [eb,.d (eJ Q as x m ro),.d (nD κ),.d (Nm p plain),.d (.bool N)] T (.d (nD t')) T')(C:nm∉M.rows.map (·.1))(z:M.rows.length<64):cF (n+10) wm 741 [eb,.d (eJ Q as x m ro),.ins 634 (11+X.length),.d (mz κ p none),.d (nD κ),.d (.bool plain)] (hs F T (fX X M))=some (.d .fS,hs F T' (fX X ⟨M.rows++[(nm,t',n7 m ro (yo p) plain)],M.si,M.ni⟩)):=by
 have l:=oA E e;rw[y]at l;obtain rfl:N=Oa p:=by unfold Oa;rw[b6,aa8];exact G
 have s:=Lr (F:=F) (X:=fX X M) (i:=X.length) (k:=11+(X.length+3)) (n:=n) (Q:=Q) (as:=as) (x:=x) (m:=m) (ro:=ro) l f plain;have q:=Lb (n:=n+7) (wm:=11+(X.length+3)) (H:=hs F T' (fX X M)) (Q:=Q) (as:=as) (x:=x) (m:=m) (ro:=ro) (plain:=plain) f;have o:=(Qj (F:=F) (T:=T') (X:=X) (c:=⟨cF (n+9),11+(X.length+3)⟩) (args:=[d7,.d (sD nm),.d (nD t'),.d (nD (n7 m ro (yo p) plain))])).trans (Qa C z);refine(pz _ _ _ _).trans (mf (b:=fo.drop 5) rfl p9 s ?_);exact wf [dR 8 (A n (11+(X.length+3)) F (fX X M)),sb 0 (ag some (HU (F:=F) (T:=T') (X:=X) (M:=M) (j:=112) (by decide) rfl)),dR 7 q,dR 1 o,dR 0 (pb F T' X ⟨M.rows++[(nm,t',n7 m ro (yo p) plain)],M.si,M.ni⟩)]
noncomputable def Mv:ae (Nat×Nat)->Nat|none=>0|some p=>p.2
noncomputable def wG(M:Md)(b:bp)(q:Nat×Nat):Md:=if b then⟨M.rows,M.si,some q⟩else⟨M.rows,some q,M.ni⟩
theorem Se{plain:bp}(G:Good g T)(f:κ=bif c then 7 else 6)(hM:(if c then M.ni else M.si)=none)(A:(Dm O plain=nD y/\T1=T)\/(Dm O plain=.int (-1)/\Runs 8 685 [eb,.d (eJ Q as x m ro),.d (nD κ)] T (.d (nD y)) T1))(hB:(m=1/\Runs 3 289 [d7,.d (.lst [nD y,.int 4])] T1 (.d (nD l)) T2)\/(m≠1/\l=y/\T2=T1)):cF (n+10) wm 741 [eb,.d (eJ Q as x m ro),.ins 634 (11+X.length),.d (mz κ none O),.d (nD κ),.d (.bool plain)] (hs F T (fX X M))=some (.d .fS,hs F T2 (fX X (wG M c (l,mC ro (Mv O))))):=by
 have I:Runs 2 572 [d7,.d (nD κ)] T (.d .fS) T:=by
  rcases c with⟨⟩<;>subst f;.exact oA (G.at (i:=6) rfl) (λ_ e=>xc Row.ctorIdx e rfl)
  .exact oA (G.at (i:=7) rfl) (λ_ e=>xc Row.ctorIdx e rfl)
 have s:f6 .NotIn (nD κ) (.d (.tup [.int 6,.int 7,.int 0])) []=some false:=by rcases c with⟨⟩<;>subst f<;>rfl
 have a:f6 .Eq (nD κ) (.d (.int 7)) []=some c:=by rcases c with⟨⟩<;>subst f<;>rfl
 have C:=HP (F:=F) (X:=fX X M) (i:=X.length) (k:=11+(X.length+3)) (n:=n) (Q:=Q) (as:=as) (x:=x) (m:=m) (ro:=ro) (κ:=κ) (O:=O) I plain;refine(pz _ _ _ _).trans (mf (b:=fo.drop 5) rfl p9 C ?_);clear C I G f;generalize ho:Dm O plain=E at*;have N:d5 (((fo.drop 5).take 3).map BS.run) ⟨cF (n+9),11+(X.length+3)⟩ (ML Q as x m ro κ X.length (mz κ none O) plain .fS E false none none none) (hs F T (fX X M))=some (.er,ML Q as x m ro κ X.length (mz κ none O) plain .fS E false none (some (.d (nD y))) none,hs F T1 (fX X M)):=by
  rcases A with⟨h,o⟩|⟨h,o⟩;.subst h o;exact wq [sb 6 s]
  .subst h;have r:=o (n+1) (11+(X.length+3)) F (fX X M);exact wq [sb 6 s,dR 8 r]
 have P:d5 (((fo.drop 8).take 1).map BS.run) ⟨cF (n+9),11+(X.length+3)⟩ (ML Q as x m ro κ X.length (mz κ none O) plain .fS E false none (some (.d (nD y))) none) (hs F T1 (fX X M))=some (.er,ML Q as x m ro κ X.length (mz κ none O) plain .fS E false none (some (.d (nD l))) none,hs F T2 (fX X M)):=by
  rcases hB with⟨h,o⟩|⟨h,o,z⟩;.subst h;have r:=o (n+6) (11+(X.length+3)) F (fX X M);exact wq [dR 9 r]
  .subst o z;have K:=hH h;rcases A with⟨h,_⟩|⟨h,_⟩;.subst h;exact wq [sb 3 (eA K)]
   .subst h;exact wq [sb 3 (eA K)]
 have R:d5 (((fo.drop 9).take 1).map BS.run) ⟨cF (n+9),11+(X.length+3)⟩ (ML Q as x m ro κ X.length (mz κ none O) plain .fS E false none (some (.d (nD l))) none) (hs F T2 (fX X M))=some (.er,ML Q as x m ro κ X.length (mz κ none O) plain .fS E false none (some (.d (nD l))) (some (.d (nD (Mv O)))),hs F T2 (fX X M)):=by rcases O with _|q<;>exact wq []
 refine tH (b:=fo.drop 8) N (tH (b:=fo.drop 9) P (tH (b:=fo.drop 10) R ?_));exact wf [sb 0 (ag some (HU (F:=F) (T:=T2) (X:=X) (M:=M) (j:=113) (by decide) rfl)),sb 2 a,dR 6 (AQ (n:=n+8) (wm:=11+(X.length+3)) (H:=hs F T2 (fX X M)) (Z:=ro) (r:=Mv O)),dR 1 (show fK dP ⟨cF (n+9),11+(X.length+3)⟩ (.ins 634 (11+X.length)) 113 [d7,.d (.bool c),.d (nD l),.d (nD (mC ro (Mv O)))] (hs F T2 (fX X M))=some (.d .fS,hs F T2 (fX X (wG M c (l,mC ro (Mv O)))))from Pz.trans (PF (n:=n+8) hM)),dR 0 (pb F T2 X (wG M c (l,mC ro (Mv O))))]
end
structure Slot where
 key:W
 kind:ab W
 sign:Nat
 held:Nat
noncomputable def fF(s:Slot):D:=.tup [sD s.key,eF s.kind,nD s.sign,nD s.held]
noncomputable def eZ(b:W):W:=if b.head?=some 48\/b.head?=some 49then 34::(b++[34])else b
noncomputable def et(U J:Nat)(B:ab W)(m Z:Nat)(s:Slot):Slot:=let b:=gm U J B s.kind s.key;if s.sign<2then⟨eZ s.key,(gP m b (decide (s.sign=1))).1,(gP m b (decide (s.sign=1))).2,mC Z (s.held%2)+(if U=0then s.held/2*2 else 0)⟩else⟨eZ s.key,if m=1then ei [b,[d6]]else b,s.sign,mC Z (s.held%2)+(if U=0then s.held/2*2 else 0)⟩
theorem fy:(et U J B m Z s).key=eZ s.key:=by unfold et;simp only;split<;>rfl
structure Ent where
 κ:Nat
 p:ae mg
 ix:ae (Nat×Nat)
 s:Slot
noncomputable def Ent.d(e:Ent):D:=mz e.κ e.p e.ix
structure O7(T:ab Row)(U:Nat)(e:Ent)(nm:W)(r:Row):Prop where
 at_:T[e.κ]?=some r
 wd:ek r e.s.key
 kt:LG r=sD nm
 l1:nm.length=1
 nw:eZ e.s.key=34::(nm++[34])
 ix:e.ix=none
 fl:yo e.p<64
 sign:e.s.sign=yo e.p%2
 held:e.s.held=yo e.p/2%4
 pl:U=0->∃q,e.p=some q/\Seen T q.2.1 (decide (e.s.sign=1)) e.s.kind
structure Nh(T:ab Row)(U:Nat)(e:Ent):Prop where
 p:e.p=none
 sign:e.s.sign=2
 key:(e.κ=6/\e.s.key=d0)\/(e.κ=7/\e.s.key=dZ)
 held:e.s.held=Mv e.ix
 le:e.s.held<=1
 pl:U=0->∃t r,e.ix=some (t,r)/\Kd T t e.s.kind
noncomputable def jY(T:ab Row)(U:Nat)(e:Ent):Prop:=(∃nm r,O7 T U e nm r)\/Nh T U e
theorem jY.pre(h:T<+:T')(s:jY T U e):jY T' U e:=by
 rcases s with⟨nm,r,s⟩|s;.exact .inl ⟨nm,r,⟨fQ h s.at_,s.wd,s.kt,s.l1,s.nw,s.ix,s.fl,s.sign,s.held,λb=>by obtain⟨q,c,d⟩:=s.pl b;exact⟨q,c,d.pre h⟩⟩⟩
 .exact .inr ⟨s.p,s.sign,s.key,s.held,s.le,λb=>by obtain⟨t,r,c,d⟩:=s.pl b;exact⟨t,r,c,d.pre h⟩⟩
structure mI(T:ab Row)(p:W×Nat×Nat)(s:Slot):Prop where
 key:s.key=34::(p.1++[34])
 l1:p.1.length=1
 fl:p.2.2=s.sign+2*s.held
 sign:s.sign<=1
 held:s.held<=3
 seen:Seen T p.2.1 (decide (s.sign=1)) s.kind
structure kW(T:ab Row)(q:Nat×Nat)(s:Slot):Prop where
 sign:s.sign=2
 held:s.held=q.2
 le:q.2<=1
 kd:Kd T q.1 s.kind
inductive fg(T:ab Row):Md->ab Slot->Prop|nil:fg T ⟨[],none,none⟩ []|row{M sl p s}:fg T M sl->mI T p s->fg T ⟨M.rows++[p],M.si,M.ni⟩ (sl++[s])|Ob{M sl q s}:fg T M sl->s.key=d0->kW T q s->fg T ⟨M.rows,some q,M.ni⟩ (sl++[s])|OK{M sl q s}:fg T M sl->s.key=dZ->kW T q s->fg T ⟨M.rows,M.si,some q⟩ (sl++[s])
theorem mI.pre(h:T<+:T')(r:mI T p s):mI T' p s:=⟨r.key,r.l1,r.fl,r.sign,r.held,r.seen.pre h⟩
theorem kW.pre(h:T<+:T')(r:kW T p s):kW T' p s:=⟨r.sign,r.held,r.le,r.kd.pre h⟩
theorem fg.pre(h:T<+:T')(s:fg T M sl):fg T' M sl:=by induction s with|nil=>exact .nil|row _ r ih=>exact .row ih (r.pre h)|Ob _ k r ih=>exact .Ob ih k (r.pre h)|OK _ k r ih=>exact .OK ih k (r.pre h)
theorem fg.rows(s:fg T M sl):(∀p∈M.rows,∃s∈sl,mI T p s)/\(∀q,M.si=some q->∃s∈sl,s.key=d0/\kW T q s)/\(∀q,M.ni=some q->∃s∈sl,s.key=dZ/\kW T q s)/\M.rows.length<=sl.length:=by
 induction s with
 |nil=>exact⟨by simp,by simp,by simp,by simp⟩|@row M sl p s _ r ih=>
  refine(let j:Prop:=_;(?_:j));obtain⟨a,b,c,d⟩:=ih;refine⟨λq e=>?_,λq e=>?_,λq e=>?_,by simp;omega⟩;.
   simp only[aJ,ah,ai,a6]at e;rcases e with e|rfl;.refine d9 (a q e) λg i f=>?_;exact i12 g ((bk _ ‹_›)) f
   .exact i12 s ((aN _ (.head _))) r
  .obtain⟨g,i,f⟩:=b q e;exact⟨g,by simp[i],f⟩
  .obtain⟨g,i,f⟩:=c q e;exact⟨g,by simp[i],f⟩|@Ob M sl p s _ k r ih=>
  obtain⟨a,b,c,d⟩:=ih;refine⟨λq e=>?_,λq e=>?_,λq e=>?_,by simp;lia⟩;.obtain⟨g,i,f⟩:=a q e;exact⟨g,by simp[i],f⟩
  .refine so e ?_;exact⟨s,by simp,k,r⟩
  .obtain⟨g,i,f⟩:=c q e;exact⟨g,by simp[i],f⟩|@OK M sl p s _ k r ih=>
  obtain⟨a,b,c,d⟩:=ih;refine⟨λq e=>?_,λq e=>?_,λq e=>?_,by simp;lia⟩;.obtain⟨g,i,f⟩:=a q e;exact⟨g,by simp[i],f⟩
  .obtain⟨g,i,f⟩:=b q e;exact⟨g,by simp[i],f⟩
  .refine so e ?_;exact⟨s,by simp,k,r⟩
theorem fg.nodup(s:fg T M sl):(sl.map (·.key)).Nodup->(M.rows.map (·.1)).Nodup:=by induction s with|nil=>intro _;simp|@row M sl p s h r ih=>intro c;rw[aC,a7]at c⊢;refine⟨ih c.1,by simp,?_⟩;intro a i b hb e;simp only[aH,bD,ah,ai,a6]at hb;obtain⟨q,j,rfl⟩:=af.mp i;refine d9 (h.rows.1 q j) λd f g=>?_;refine c.2.2 d.key (af.mpr ⟨d,f,rfl⟩) s.key ((.head _)) ?_;simp only[g.key,r.key,e,hb]|Ob _ _ _ ih=>intro c;rw[aC,a7]at c;exact ih c.1|OK _ _ _ ih=>intro c;rw[aC,a7]at c;exact ih c.1
section
variable{F:ab Int}{T T1 T2:ab Row}{X Y L:ab Cell}{n wm:Nat}{H:Hp}{i κ t g:Nat}{k:ab W}{Q m ro x U J:Nat}{as:Int}{B:ab W}{kw:W}
theorem EX{z q h:Nat}{b:Prop}[dm b]:z+2*q+(if decide b=true then h*4 else 0)=z+2*(q+if b then h*2 else 0):=by
 by_cases c:b;.rw[aS (ay c),aS c];omega
 .rw[aX (by rw[aw c];exact cL),aX c];rfl
theorem ug{c:Prop}[dm c]{a b k:Nat}(d:a<=k)(e:b<=k):(if c then a else b)<=k:=if h:c then(aS h).symm▸d else(aX h).symm▸e
theorem PT(m:Nat)(b:bp)(k:ab W):(gP m k b).2=if hO m b then 1 else 0:=by
 unfold gP;cases hO m b;.rcases b with⟨⟩<;>rfl
 .rfl
theorem vC(h:b<=1):mC a b<=1:=ug (aV _) (ug (bB _) h)
theorem KM(h:mC a b<=1):(if mC a b=1then 2 else 0)=2*mC a b:=by
 generalize mC a b=q at*;have:q=0\/q=1:=by omega
 rcases this with h|h<;>rw[h]<;>rfl
theorem Ve(e:h=f/2%4):h/2*2<=2:=by subst e;exact(by decide:∀y<4,y/2*2<=2) _ (adS _ (by decide))
theorem ZR(e:h=f/2%4):f/2%2=h%2:=by subst e;lia
theorem Y4(e:h=f/2%4):f/4%2=h/2:=by subst e;omega
theorem Yh(e:h<=1):h%2=h/\h/2*2=0:=(by decide:∀h<2,h%2=h/\h/2*2=0) h (abf e)
theorem N7(h:s.sign<2):et U J B m ro s=⟨eZ s.key,(gP m (gm U J B s.kind s.key) (decide (s.sign=1))).1,(gP m (gm U J B s.kind s.key) (decide (s.sign=1))).2,mC ro (s.held%2)+(if U=0then s.held/2*2 else 0)⟩:=aS h
theorem Qn(h:s.sign=2)(b:s.held<=1)(c:eZ s.key=s.key):et U J B m ro s=⟨s.key,if m=1then ei [gm U J B s.kind s.key,[d6]]else gm U J B s.kind s.key,2,mC ro s.held⟩:=by rw[(show et U J B m ro s=⟨eZ s.key,if m=1then ei [gm U J B s.kind s.key,[d6]]else gm U J B s.kind s.key,s.sign,mC ro (s.held%2)+(if U=0then s.held/2*2 else 0)⟩from aX (by rw[h];decide)),c,h,(Yh b).1,(Yh b).2,ite_self];rfl
theorem pU{s:Slot}(G:Good (g+2) T)(K:U=0->Kd T e s.kind)(z:U=0\/Tm T x U J B)(j:Ky T κ s.key)(Q:Nat)(as:Int)(m ro:Nat)(l:decide (U=0)=b){o:Prop}(k:∀f T2,(b=true->f=e/\T2=T)->(b=false->Runs 8 685 [eb,.d (eJ Q as x m ro),.d (nD κ)] T (.d (nD f)) T2)->Good g T2->T<+:T2->Kd T2 f (gm U J B s.kind s.key)->o):o:=by
 subst l;by_cases c:U=0;.exact k e T (λ_=>⟨rfl,rfl⟩) (λh=>ax c (of_decide_eq_false h)) (G.le (aG _ _)) (aq _) (sY c (K c))
 .refine jr (EF (Q:=Q) (as:=as) (m:=m) (ro:=ro) (g:=g) G (z.resolve_left c) j s.kind) λf T2 p q r y=>?_;exact k f T2 (λh=>ax (aU h) c) (λ_=>p) q r y
theorem xZ(G:Good (g+3) T)(j:U=0\/Tm T x U J B)(c:Ky T κ kw)(p:U=0->∃q,o=nD q/\Seen T q N I)(l:U≠0->o=.int (-1))(Q:Nat)(as:Int)(m ro:Nat):∃t' T',Runs 9 699 [eb,.d (eJ Q as x m ro),.d (nD κ),.d o,.d (.bool N)] T (.d (nD t')) T'/\Good g T'/\T<+:T'/\Seen T' t' (hO m N) (gP m (gm U J B I kw) N).1:=by
 by_cases b:U=0;.refine d9 (p b) λq e f=>?_;rw[e,show gm U J B I kw=I from by rw[b];rfl];exact Fp (κ:=κ) (G.le (cy (by decide) _)) f
 .rw[l b];exact Im G (j.resolve_left b) c I
theorem O7.row(E:O7 T U e nm r)(S:Seen T' t' (hO m (decide (e.s.sign=1))) (gP m (gm U J B e.s.kind e.s.key) (decide (e.s.sign=1))).1):mI T' (nm,t',n7 m ro (yo e.p) (decide (U=0))) (et U J B m ro e.s):=by
 have c:=vC (a:=ro) (dc (adS e.s.held (by decide:0<2)));rw[N7 (by rw[E.sign];exact adS _ (by decide))];have d:=PT m (decide (e.s.sign=1)) (gm U J B e.s.kind e.s.key);refine⟨E.nw,E.l1,?_,d▸ug (aV _) (bB _),aaG c (ug (k:=2) (Ve E.held) (bB _)),?_⟩;.show n7 m ro (yo e.p) (decide (U=0))=(gP m (gm U J B e.s.kind e.s.key) (decide (e.s.sign=1))).2+2*(mC ro (e.s.held%2)+(if U=0then e.s.held/2*2 else 0));unfold n7;rw[d,←E.sign,ZR E.held,Y4 E.held,KM c];exact EX
 .show Seen T' t' (decide ((gP m (gm U J B e.s.kind e.s.key) (decide (e.s.sign=1))).2=1)) _;rw[d];generalize hO m (decide (e.s.sign=1))=b at*;rcases b with⟨⟩<;>exact S
theorem J5(l:fg T M sl){k:W}(j:k=bif c then dZ else d0)(b:k∉sl.map (·.key)):(if c then M.ni else M.si)=none:=by
 refine CE l.rows λ_ o p _=>?_;rcases c with⟨⟩;.
  show M.si=none;rcases f:M.si with _|q;.rfl
  .exact j6 (o q f) λs d e _=>ax (af.mpr ⟨s,d,e.trans j.symm⟩) b
 .show M.ni=none;rcases f:M.ni with _|q;.rfl
  .exact j6 (p q f) λs d e _=>ax (af.mpr ⟨s,d,e.trans j.symm⟩) b
theorem Nh.num(E:Nh T U e):∃num:bp,e.κ=(bif num then 7 else 6)/\e.s.key=(bif num then dZ else d0):=E.key.elim (λh=>⟨false,h⟩) λh=>⟨true,h⟩
theorem fg.ix(b:fg T M sl)(hk:s.key=bif num then dZ else d0)(h:kW T q s):fg T (wG M num q) (sl++[s]):=by
 rcases num with⟨⟩;.exact .Ob b hk h
 .exact .OK b hk h
theorem OR(G:Good (g+3) T)(E:jY T U e)(hb:U=0\/Tm T x U J B)(A:fg T M sl)(f:eZ e.s.key∉sl.map (·.key))(hl:sl.length<64):∃T' M',cF (n+10) wm 741 [eb,.d (eJ Q as x m ro),.ins 634 (11+X.length),.d e.d,.d (nD e.κ),.d (.bool (decide (U=0)))] (hs F T (fX X M))=some (.d .fS,hs F T' (fX X M'))/\Good g T'/\T<+:T'/\fg T' M' (sl++[et U J B m ro e.s]):=by
 refine Or.elim E (λE=>QS E λnm r E=>?_) λE=>?_;.
  have Z:nm∉M.rows.map (·.1):=λq=>by refine d9 (af.mp q) λp hp h=>?_;refine d9 (A.rows.1 p hp) λs Y1 mM=>?_;exact f (by rw[E.nw,←h,←mM.key];exact af.mpr ⟨s,Y1,rfl⟩)
  refine jr (xZ (o:=Nm e.p (decide (U=0))) G hb ⟨r,E.at_,E.wd⟩ (λh=>d9 (E.pl h) λq y c=>⟨q.2.1,by rw[y,ay h];rfl,c⟩) (λh=>by rw[aw h];cases e.p<;>rfl) Q as m ro) λt' T' z G' K Ss=>?_;refine qW T' _ ?_ G' K (.row (A.pre K) (E.row Ss));unfold Ent.d;rw[E.ix];exact Rw (by rw[E.sign,aZ]) E.at_ E.kt (λd hd=>by have:=E.wd;rw[hd]at this;exact this.1) E.fl z Z (aj A.rows.2.2.2 hl)
 .refine d9 E.num λj y c=>?_;have I:eZ e.s.key=e.s.key:=by rw[c];rcases j with⟨⟩<;>rfl
  have R:Ky T e.κ e.s.key:=by
   rw[y,c];rcases j with⟨⟩;.exact i12 _ (G.at rfl) ⟨by decide,rfl⟩
   .exact i12 _ (G.at rfl) ⟨by decide,rfl⟩
  refine pU (e:=(e.ix.getD (0,0)).1) G (λh=>ml (E.pl h) λt r a b=>by rw[a];exact b) hb R Q as m ro rfl λN T1 a b G1 p1 K1=>?_;have hA:(Dm e.ix (decide (U=0))=nD N/\T1=T)\/(Dm e.ix (decide (U=0))=.int (-1)/\Runs 8 685 [eb,.d (eJ Q as x m ro),.d (nD e.κ)] T (.d (nD N)) T1):=by
   by_cases C:U=0;.have a:=a (ay C);refine ml (E.pl C) λt r q _=>.inl ⟨?_,a.2⟩;rw[ay C,a.1,q];rfl
   .refine .inr ⟨?_,b (aw C)⟩;rw[aw C];cases e.ix<;>rfl
  have P:∃l T2,((m=1/\Runs 3 289 [d7,.d (.lst [nD N,.int 4])] T1 (.d (nD l)) T2)\/(m≠1/\l=N/\T2=T1))/\Good g T2/\T1<+:T2/\Kd T2 l (if m=1then ei [gm U J B e.s.kind e.s.key,[d6]]else gm U J B e.s.kind e.s.key):=by
   by_cases z:m=1;.refine jr (GP G1 K1 (.inr rfl)) λl T2 y c h3 h4=>?_;exact qW l T2 (.inl ⟨z,y⟩) c h3 (by rw[aS z];exact h4)
   .exact qW N T1 (.inr ⟨z,rfl,rfl⟩) (G1.le (dq _)) (aq _) (by rw[aX z];exact K1)
  refine jr P λl T2 P G2 p2 K2=>?_;have O:=Qn (U:=U) (J:=J) (B:=B) (m:=m) (ro:=ro) E.sign E.le I;rw[E.held]at O;refine qW T2 (wG M j (l,mC ro (Mv e.ix))) ?_ G2 (p1.trans p2) ((A.pre (p1.trans p2)).ix ((ag Slot.key O).trans c) ?_);.unfold Ent.d;rw[E.p];exact(Se G y (J5 A c (I▸f)) hA P)
  .rw[O];exact⟨rfl,rfl,vC (E.held▸E.le),K2⟩
noncomputable def Tx(Q:Nat)(as:Int)(x m ro i:Nat)(es:D)(b:bp)(N O C:ae V):Loc:=[some eb,some (.d (eJ Q as x m ro)),some (.d es),some (.d (.bool b)),some (.ins 634 (11+i)),N,O,C]
theorem Jt{R:D}(ha:as=-1\/as=16):∀(es:ab Ent){T:ab Row}{M:Md}{sl:ab Slot}{N O C:ae V},Good (g+3*es.length) T->(∀e∈es,jY T U e/\Ky T e.κ e.s.key)->(U=0\/Tm T x U J B)->fg T M sl->((sl.map (·.key))++es.map λe=>eZ e.s.key).Nodup->sl.length+es.length<64->∀{j:Prop},(∀T' I r y z,g' (.one 5) (d5 (iV.map BS.run)) ⟨cF (n+11),11+X.length⟩ (es.map Ent.d) (Tx Q as x m ro X.length R (decide (U=0)) N O C) (hs F T (fX X M))=some (.er,Tx Q as x m ro X.length R (decide (U=0)) r y z,hs F T' (fX X I))->Good g T'->T<+:T'->fg T' I (sl++es.map λe=>et U J B m ro e.s)->j)->j:=by intro es;induction es with|nil=>intro T M sl N O C G _ _ l _ _ j κ;exact κ T M N O C rfl G (aq _) (by rw[bD,aL];exact l)|cons e es ih=>intro T M sl N O C G E K l P hl j κ;have A:=E e (.head _);have c:=hl;refine jr (OR (F:=F) (X:=X) (n:=n+1) (wm:=11+X.length) (Q:=Q) (as:=as) (m:=m) (ro:=ro) (g:=g+3*es.length) G A.1 K l (λq=>(a7.mp P).2.2 _ q _ (.head _) rfl) (aj (ar (aG _ _) (dq _)) c)) λT2 M2 c2 Z f o=>?_;have p:g' (.one 7) (d5 (kJ.map BS.run)) ⟨cF (n+11),11+X.length⟩ [nD e.κ] (Tx Q as x m ro X.length R (decide (U=0)) (some (.d e.d)) (some (.d (.tup [nD e.κ]))) C) (hs F T (fX X M))=some (.er,Tx Q as x m ro X.length R (decide (U=0)) (some (.d e.d)) (some (.d (.tup [nD e.κ]))) (some (.d (nD e.κ))),hs F T2 (fX X M2)):=gT rfl (.inl rfl) (wq [dR 6 c2]) rfl;refine ih (N:=some (.d e.d)) (O:=some (.d (.tup [nD e.κ]))) (C:=some (.d (nD e.κ))) Z (λe h=>⟨(E e (.tail _ h)).1.pre f,(E e (.tail _ h)).2.pre f⟩) (K.imp id λh=>h.pre f) o (by rw[aC,bz,aH,fy];exact P) (by rw[ao,aau];exact c) λT3 M3 r y z e3 a p3 b=>?_;exact κ T3 M3 r y z (gT rfl (.inl rfl) (wq [dR 4 (J6 (Q:=Q) (x:=x) (m:=m) (ro:=ro) G ha A.2 (n+6) (11+X.length) F (fX X M)),mb 3 p]) e3) a (f.trans p3) (by rw[bz]at b;exact b)
theorem Gj{es:ab Ent}(G:Good (g+1+3*es.length) T)(E:∀e∈es,jY T U e)(z:U=0\/Tm T x U J B)(y:as=-1\/as=16)(p:(es.map λe=>eZ e.s.key).Nodup)(o:es.length<64)(A:∀e∈es,Ky T e.κ e.s.key):∃t' T',cF (n+12) wm 748 [eb,.d (eJ Q as x m ro),.d (.lst (es.map Ent.d)),.d (.bool (decide (U=0)))] (hs F T X)=some (.d (nD t'),hs F T' X)/\Good g T'/\T<+:T'/\∃M,T'[t']?=some (.obj (eP (gw M)) M.si M.ni)/\fg T' M (es.map λe=>et U J B m ro e.s):=by refine Jt (F:=F) (X:=X) (n:=n) (Q:=Q) (m:=m) (ro:=ro) (R:=.lst (es.map Ent.d)) (N:=none) (O:=none) (C:=none) y es G (λe h=>⟨E e h,A e h⟩) z .nil p (by rw[bS,bQ];exact o) λT1 M K P a r l I b=>?_;have b:fg T1 M (es.map λe=>et U J B m ro e.s):=b;have f:=b.nodup (by rw[aK];simp only[a8,fy];exact p);have c:=aj b.rows.2.2.2 (by rw[ak];exact o);refine(Ld (F:=F) (X:=X) (n:=n+8) (wm:=11+X.length) f c l.lt).elim λZ hd=>?_;have q:fK dP ⟨cF (n+11),11+X.length⟩ (.ins 634 (11+X.length)) 114 [d7] (hs F T1 (fX X M))=some (.d (nD (fO T1 (.obj (eP (gw M)) M.si M.ni))),hs F (fj T1 (.obj (eP (gw M)) M.si M.ni)) (X++Z)):=OG.trans hd;refine qW _ _ ?_ l.put (I.trans eh) (i12 M gq (b.pre eh));exact wk qX dT [dR 0 (show cF (n+11) (11+X.length) 612 [.ins 634 (hs F T X).length] (hs F T X++[.ins []])=some (.d .fS,hs F T (fX X ⟨[],none,none⟩))from by simp[Mc]),mb 1 (show g' (.one 5) (d5 (iV.map BS.run)) ⟨cF (n+11),11+X.length⟩ (es.map Ent.d) [some eb,some (.d (eJ Q as x m ro)),some (.d (.lst (es.map Ent.d))),some (.d (.bool (decide (U=0)))),some (.ins 634 (hs F T X).length),none,none,none] (hs F T (fX X ⟨[],none,none⟩))=some (.er,Tx Q as x m ro X.length (.lst (es.map Ent.d)) (decide (U=0)) K P a,hs F T1 (fX X M))from by rw[dT];exact r),sb 0 (ag some (HU (F:=F) (T:=T1) (X:=X) (M:=M) (j:=114) (by decide) rfl)),dR 2 q,dR 0 (iZ F X Z (nD (fO T1 (.obj (eP (gw M)) M.si M.ni))) (fj T1 (.obj (eP (gw M)) M.si M.ni)))]
end
section
variable{F:ab Int}{T T1 T2:ab Row}{X Y L:ab Cell}{n wm:Nat}{H:Hp}{i κ t g:Nat}{k:ab W}{Q m ro x U J:Nat}{as:Int}{B:ab W}{kw:W}
variable{Z:ab D}{md:Mode}{v:D}
@[simp]theorem XG:iY M (.ref (11+X.length)) 100 (hs F T (X++.lst Z md::L))=true:=jm gp 100 M
theorem r0(h:Z.length<big):fK M c (.ref (11+X.length)) 100 [.d v] (hs F T (X++.lst Z .own::L))=some (.d .fS,hs F T (X++.lst (Z++[v]) .own::L)):=by rw[nv gp (by decide) h,nM]
@[simp]theorem Sh:ji (.ref (11+X.length)) (hs F T (X++.lst Z md::L))=some (Z,hs F T (X++.lst Z .fz::L)):=(R5 gp).trans (by rw[nM])
@[simp]theorem V2:toD (.ref (11+X.length)) (hs F T (X++.lst Z md::L))=some (.lst Z,hs F T (X++.lst Z .fz::L)):=(Lv gp).trans (by rw[nM])
@[simp]theorem U8:ig (.ref (11+X.length)) (hs F T (X++.lst Z .own::L))=some (.d (.lst Z),hs F T (X++.lst Z .fz::L)):=(V6 gp).trans (by rw[nM])
@[simp]theorem PS:iu 207 [.ref (11+X.length)] (hs F T (X++.lst Z md::L))=some (.tup Z):=by show Il (.ref _) _=_;unfold Il;dsimp only;rw[gp]
theorem pH:cF (n+1) wm 727 [.ins 730 H.length,.d a,.d b,.d c] (H++[.ins []])=some (.d .fS,H++[.ins [(11,.d a),(12,.d b),(13,.d c)]]):=by have h:d5 (lu.map BS.run) ⟨cF n,wm⟩ [some (.ins 730 H.length),some (.d a),some (.d b),some (.d c)] (H++[.ins []])=some (.er,[some (.ins 730 H.length),some (.d a),some (.d b),some (.d c)],H++[.ins [(11,.d a),(12,.d b),(13,.d c)]]):=wq [sh 0 (zN H wm 730 11 a [] (by decide)),sh 0 (zN H wm 730 12 b [(11,.d a)] (by show _<100;simp)),sh 0 (zN H wm 730 13 c [(11,.d a),(12,.d b)] (by show _<100;simp))];rw[pX,FL rfl,show uy 4 _=[some (.ins 730 H.length),some (.d a),some (.d b),some (.d c)]from rfl,h];rfl
theorem sX:jf 730 H.length (H++[.ins [(11,.d a),(12,.d b),(13,.d c)]])=some (.d (.obj 730 [a,b,c]),H):=by unfold jf;rw[fD];exact ag (λz=>some (V.d (.obj 730 [a,b,c]),z)) abe
theorem TZ:R7 730 727 ⟨cF (n+1),wm⟩ ([.d a,.d b,.d c],H)=some (.d (.obj 730 [a,b,c]),H):=by rw[Kc,pH];exact sX
theorem PH:fin (11+X.length) (.ret (.ref (11+X.length)),l,hs F T (X++[.lst z .own]))=some (.d (.lst z),hs F T X):=by simp
theorem yV:some (iY dP (.ref (11+X.length)) 100 (hs F T (X++[.lst z .own])))=some true:=by simp
noncomputable def j7(p:mg):bp:=decide (p.2.2.1/8%4=0)
theorem EB(h:p.2.2.1<64):cF (n+1) wm 593 [.d (mP p)] H=some (.d (.bool (j7 p)),H):=wk w6 rfl [sd 7 (ag (λz=>some (D.int z)) (band h).2.2.2),sb 1 (show f6 .Eq (nD (p.2.2.1/8%4*8)) (.d (.int 0)) []=some (j7 p)from A0.trans (ag some (bU.mpr ⟨λh=>by lia,λh=>by rw[h]⟩))),dR 0 (eQ (.bool (j7 p)) H)]
structure h8(T:ab Row)(p:mg)(s:Slot):Prop where
 l1:p.1.length=1
 c:∀a∈p.1,a<128
 key:s.key=34::(p.1++[34])
 sign:s.sign=p.2.2.1%2
 held:s.held=p.2.2.1/2%4
 seen:Seen T p.2.1 (decide (s.sign=1)) s.kind
noncomputable def rX(T:ab Row)(b:W)(o:ae (Nat×Nat))(l:ab Slot):Prop:=(o=none/\l=[])\/∃q s,o=some q/\l=[s]/\s.key=b/\kW T q s
structure mw(T:ab Row)(ps:ab mg)(si ni:ae (Nat×Nat))(sl:mg->Slot)(L1 L2:ab Slot):Prop where
 fl:∀p∈ps,p.2.2.1<64
 pr:∀p∈ps,j7 p=true->h8 T p (sl p)
 i1:rX T d0 si L1
 i2:rX T dZ ni L2
 nd:(ps.map (·.1)).Nodup
 len:ps.length<=5
theorem h8.pre(h:T<+:T')(P:h8 T p s):h8 T' p s:=⟨P.l1,P.c,P.key,P.sign,P.held,P.seen.pre h⟩
theorem mw.pre(h:T<+:T')(s:mw T ps E ni sl c d):mw T' ps E ni sl c d:=by
 have b:∀{key o l},rX T key o l->rX T' key o l:=by
  intro key o l q;rcases q with q|⟨q,s,e,f,j,r⟩;.exact .inl q
  .exact .inr ⟨q,s,e,f,j,r.pre h⟩
 exact⟨s.fl,λp y z=>(s.pr p y z).pre h,b s.i1,b s.i2,s.nd,s.len⟩
theorem rX.mem(h:rX T key o l)(hs:s∈l):∃q,o=some q/\s.key=key/\kW T q s:=by
 rcases h with h|h;.rw[h.2]at hs;exact kn hs
 .refine jr h λq f b c d e=>?_;rw[c]at hs;obtain rfl:=kB hs;exact PA q b d e
theorem rX.len(h:rX T key o l):l.length<=1:=by
 rcases h with h|h;.rw[h.2];decide
 .refine jr h λq f c b d e=>?_;rw[b];exact aV 1
theorem rX.Xp(h:rX T key o l):l.filter (λs=>decide (s.sign<2))=[]:=aaz.mpr λs hs e=>j6 (h.mem hs) λq _ _ x=>ax (aU e) (by rw[x.sign];decide)
theorem rX.key{key:W}{o:ae (Nat×Nat)}{l:ab Slot}(h:rX T key o l){s:Slot}(hs:s∈l):s.key=key:=j6 (h.mem hs) λ_ _ k _=>k
theorem HK{c:Type}{l:ab c}(h:l.length<=1):l.Nodup:=by
 rcases l with _|⟨a,_|⟨b,l⟩⟩;.exact .nil
 .exact bX _ a
 .exact ax h (adW.mpr (bZ (cW 1) (c9 2 _)))
theorem mw.ind(o:mw T ps E ni sl j l)(hs:s∈(ps.filter j7).map sl++j++l){M:Slot->Prop}(p:∀z∈ps,j7 z=true->h8 T z (sl z)->M (sl z))(f:∀q s,(E=some q/\s.key=d0)\/(ni=some q/\s.key=dZ)->kW T q s->M s):M s:=by
 rcases aJ.mp hs with hs|hs;.
  rcases aJ.mp hs with hs|hs;.refine d9 (af.mp hs) λz d e=>?_;rw[←e];have d:=aO.mp d;exact p z d.1 d.2 (o.pr z d.1 d.2)
  .exact j6 (o.i1.mem hs) λq a b c=>f q s (.inl ⟨a,b⟩) c
 .exact j6 (o.i2.mem hs) λq a b c=>f q s (.inr ⟨a,b⟩) c
theorem En(P:h8 T p s)(d:p.2.2.1<64)(b:T[κ]?=some (.str p.1)):jY T U ⟨κ,some p,none,s⟩/\Ky T κ s.key:=by have c:ek (.str p.1) s.key:=⟨P.l1,P.key⟩;refine⟨.inl ⟨p.1,.str p.1,⟨b,c,rfl,P.l1,?_,rfl,d,P.sign,P.held,λ_=>⟨p,rfl,P.seen⟩⟩⟩,.str p.1,b,c⟩;rw[P.key];simp[eZ]
theorem OO(G:Good g T)(c:(κ=6/\b=d0)\/(κ=7/\b=dZ))(h:kW T q s)(hs:s.key=b):jY T U ⟨κ,none,some q,s⟩/\Ky T κ s.key:=by
 refine⟨.inr ⟨rfl,h.sign,(sY hs c),h.held,by show s.held<=1;rw[h.held];exact h.le,λ_=>⟨q.1,q.2,rfl,h.kd⟩⟩,?_⟩;refine sY hs ?_;clear hs;rcases c with⟨rfl,rfl⟩|⟨rfl,rfl⟩;.exact i12 _ (G.at rfl) ⟨by decide,rfl⟩
 .exact i12 _ (G.at rfl) ⟨by decide,rfl⟩
theorem SN:D.eqv (ka o) (.tup [])=some (decide (o=none)):=by cases o<;>rfl
noncomputable def qQ(T:ab Row)(U:Nat)(es:ab Ent):Prop:=∀e∈es,(jY T U e/\Ky T e.κ e.s.key)/\∀z,e.p=some z->e.s.key=34::(z.1++[34])
theorem qQ.snoc(h:qQ T U es)(k:jY T U e/\Ky T e.κ e.s.key)(c:∀z,e.p=some z->e.s.key=34::(z.1++[34])):qQ T U (es++[e]):=λx b=>by
 rcases aJ.mp b with q|q;.exact h x q
 .rw[kB q];exact⟨k,c⟩
theorem qQ.pre(h:qQ T U es)(p:T<+:T'):qQ T' U es:=λx b=>⟨⟨(h x b).1.1.pre p,(h x b).1.2.pre p⟩,(h x b).2⟩
noncomputable def Ew(t i:Nat)(d:D)(N:ae V):Loc:=[some eb,some (.d (nD t)),some d7,some (.ref (11+i)),some (.d d),N]
noncomputable def pE(F:ab Int)(T:ab Row)(X:ab Cell)(es:ab Ent):Hp:=hs F T (X++[.lst (es.map Ent.d) .own])
theorem A2(h:(es.map Ent.d).length<big):fK M c (.ref (11+X.length)) 100 [.d e.d] (pE F T X es)=some (.d .fS,pE F T X (es++[e])):=by unfold pE;rw[aC];exact r0 h
theorem HD(F:ab Int)(T:ab Row)(X:ab Cell)(es:ab Ent):some (iY dP (.ref (11+X.length)) 100 (pE F T X es))=some true:=yV
theorem Ip(n:Nat)(F:ab Int)(T:ab Row)(X:ab Cell)(es:ab Ent)(a b c:D):cF (n+1) (pE F T X es).length 727 [.ins 730 (pE F T X es).length,.d a,.d b,.d c] (pE F T X es++[.ins []])=some (.d .fS,pE F T X es++[.ins [(11,.d a),(12,.d b),(13,.d c)]]):=pH
theorem Hl(F:ab Int)(T:ab Row)(X:ab Cell)(es:ab Ent)(a b c:D):jf 730 (pE F T X es).length (pE F T X es++[.ins [(11,.d a),(12,.d b),(13,.d c)]])=some (.d (.obj 730 [a,b,c]),pE F T X es):=sX
theorem KZ(G:Good (g+1) T)(l:p.2.2.1<64)(P:j7 p=true->h8 T p s)(E:qQ T U es)(f:es.length<64){q:Prop}(κ:∀T' es',d5 (iO.map BS.run) ⟨cF (n+3),11+X.length⟩ (Ew t X.length d (some (.d (mP p)))) (pE F T X es)=some (.er,Ew t X.length d (some (.d (mP p))),pE F T' X es')->Good g T'->T<+:T'->qQ T' U es'->es'.map (·.s)=es.map (·.s)++(bif j7 p then[s]else[])->es'.length<=es.length+1->q):q:=by
 have o:=λwm=>EB (n:=n+2) (wm:=wm) (H:=pE F T X es) l;have f:(es.map Ent.d).length<big:=by rw[ak];exact bK f (by decide)
 generalize j7 p=b at*;rcases b with⟨⟩;.refine κ T es ?_ (G.le (dq _)) (aq _) E (aL _).symm (dq _);exact wq [dR 1 (o (11+X.length))]
 .have P:=P rfl;have j:=HM (T:=T) (s:=p.1) G.lt;have A:=gq (T:=T) (r:=.str p.1);have y:=A2 (F:=F) (T:=fj T (.str p.1)) (X:=X) (M:=dP) (c:=⟨cF (n+3),11+X.length⟩) (e:=⟨fO T (.str p.1),some p,none,s⟩) f;refine κ (fj T (.str p.1)) (es++[⟨fO T (.str p.1),some p,none,s⟩]) ?_ G.put eh ((E.pre eh).snoc (En (P.pre eh) l A) λz C=>by obtain rfl:=sI C;exact P.key) (aC) (by rw[ao];exact aV _);have j:cF (n+3) (11+X.length) 158 [d7,.d (sD p.1)] (pE F T X es)=some (.d (nD (fO T (.str p.1))),pE F (fj T (.str p.1)) X es):=by have h:=j (n+1) (11+X.length) F (X++[.lst (es.map Ent.d) .own]);exact h
  exact wq [dR 1 (o (11+X.length)),sb 1 (HD F T X es),dR 4 j,dR 3 (Ip (n+2) F (fj T (.str p.1)) X es (nD (fO T (.str p.1))) (mP p) (.tup [])),dR 0 (Hl F (fj T (.str p.1)) X es (nD (fO T (.str p.1))) (mP p) (.tup [])),dR 1 y]
theorem Lj{sl:mg->Slot}{d:D}:∀(ps:ab mg){T:ab Row}{es:ab Ent}{N:ae V}{c:Prop},(∀p∈ps,p.2.2.1<64/\(j7 p=true->h8 T p (sl p)))->Good (g+ps.length) T->qQ T U es->es.length+ps.length<64->(∀T' es' l,g' (.one 5) (d5 (iO.map BS.run)) ⟨cF (n+3),11+X.length⟩ (ps.map mP) (Ew t X.length d N) (pE F T X es)=some (.er,Ew t X.length d l,pE F T' X es')->Good g T'->T<+:T'->qQ T' U es'->es'.map (·.s)=es.map (·.s)++(ps.filter j7).map sl->es'.length<=es.length+ps.length->c)->c:=by intro ps;induction ps with|nil=>intro T es N c _ G E b κ;exact κ T es N rfl G (aq _) E (aL _).symm (aV _)|cons p ps ih=>intro T es N c f G E b κ;rw[ba,←aas,aau]at b;have o:=f p (.head _);refine KZ (F:=F) (X:=X) (n:=n) (t:=t) (d:=d) (g:=g+ps.length) G o.1 o.2 E (aj (ar (dq _) (aG _ ps.length)) b) λT1 O K C y z a j=>?_;refine ih (N:=some (.d (mP p))) (λq r=>⟨(f q (.tail _ r)).1,λh=>((f q (.tail _ r)).2 h).pre y⟩) C z (aj (ab6 j _) b) λT2 e l M I R A s2 P=>?_;refine κ T2 e l (gT rfl (.inl rfl) K M) I (y.trans R) A ?_ (ar P (ar (ab6 j _) (b4 (aau _ _ _))));rw[s2,a,bz,cV];cases j7 p<;>rfl
theorem Mz{k:Nat}{b:ab BS}(G:Good g T)(E:qQ T U es)(I:rX T c o l)(M:es.length<big)(K:(k=6/\c=d0)\/(k=7/\c=dZ))(j:o=none->d5 (b.map BS.run) ⟨cF (n+3),11+X.length⟩ (Ew t X.length d N) (pE F T X es)=some (.er,Ew t X.length d N,pE F T X es))(p:∀q,o=some q->fK dP ⟨cF (n+3),11+X.length⟩ (.ref (11+X.length)) 100 [.d (mz k none (some q))] (pE F T X es)=some (.d .fS,pE F T X (es++[⟨k,none,some q,⟨[],[],0,0⟩⟩]))->d5 (b.map BS.run) ⟨cF (n+3),11+X.length⟩ (Ew t X.length d N) (pE F T X es)=some (.er,Ew t X.length d N,pE F T X (es++[⟨k,none,some q,⟨[],[],0,0⟩⟩]))){f:Prop}(κ:∀es',d5 (b.map BS.run) ⟨cF (n+3),11+X.length⟩ (Ew t X.length d N) (pE F T X es)=some (.er,Ew t X.length d N,pE F T X es')->qQ T U es'->es'.map (·.s)=es.map (·.s)++l->es'.length<=es.length+1->f):f:=by
 rcases I with h|h;.exact κ es (j h.1) E (by rw[h.2,aL]) (dq _)
 .refine jr h λq s y z A C=>?_;have r:=p q y (A2 (e:=⟨k,none,some q,⟨[],[],0,0⟩⟩) (by rw[ak];exact M));refine κ (es++[⟨k,none,some q,s⟩]) (r.trans ?_) (E.snoc (OO G K C A) (λ_ h=>ec h)) (by rw[aC,z];rfl) (by rw[ao];exact aV _);unfold pE;rw[aC,aC];rfl
theorem xV(G:Good (g+5) T)(R:T[t]?=some (.obj ps E ni))(O:mw T ps E ni sl L1 L2):∃(es:ab Ent)(T':ab Row),cF (n+4) wm 755 [eb,.d (nD t)] (hs F T X)=some (.d (.lst (es.map Ent.d)),hs F T' X)/\Good g T'/\T<+:T'/\(∀e∈es,jY T' U e/\Ky T' e.κ e.s.key)/\es.map (·.s)=(ps.filter j7).map sl++L1++L2/\∀e∈es,∀z,e.p=some z->e.s.key=34::(z.1++[34]):=by
 have sh:=AY R (n+1) (11+X.length) F (X++[.lst [] .own]);have l:=O.len;have K:∀{k:Nat},k<=7->k<big:=λh=>aj h (by decide);refine Lj (F:=F) (X:=X) (n:=n) (t:=t) (d:=gE (.obj ps E ni)) (U:=U) (es:=[]) (N:=none) ps (λp P=>⟨O.fl p P,O.pr p P⟩) (G.le (cy l g)) bn (by rw[bS,bQ];exact aj l (by decide)) λT1 c A M o a E1 s1 j=>?_;rw[bS,bQ]at j;have j:=ar j l;have I:=O.pre a;have hA:d5 ((gr.take 4).map BS.run) ⟨cF (n+3),11+X.length⟩ (uy 6 [eb,.d (nD t)]) (hs F T X)=some (.er,Ew t X.length (gE (.obj ps E ni)) A,pE F T1 X c):=wq [dR 1 (iB F X (.lst [] .own) T),dR 3 sh,sv 1 (fR F (X++[.lst [] .own]) R),mb 3 M];clear M sh;refine Mz (F:=F) (X:=X) (n:=n) (t:=t) (b:=(gr.drop 4).take 1) (d:=gE (.obj ps E ni)) (N:=A) o E1 I.i1 (K (ar j (by decide))) (.inl ⟨rfl,rfl⟩) (λh=>?_) (λq h r=>?_) λf e2 E2 s2 l2=>?_;.subst h;exact wq []
 .subst h;exact wq [sb 5 (HD F T1 X c),dR 5 (Ip (n+2) F T1 X c (.int 6) .fS (ka (some q))),dR 0 (Hl F T1 X c (.int 6) .fS (ka (some q))),dR 1 r]
 refine Mz (F:=F) (X:=X) (n:=n) (t:=t) (b:=(gr.drop 5).take 1) (d:=gE (.obj ps E ni)) (N:=A) o E2 I.i2 (K (ar l2 (aaF (abC j)))) (.inr ⟨rfl,rfl⟩) (λh=>?_) (λq h r=>?_) λy e3 C s3 l3=>?_;.subst h;exact wq []
 .subst h;exact wq [sb 5 (HD F T1 X f),dR 5 (Ip (n+2) F T1 X f (.int 7) .fS (ka (some q))),dR 0 (Hl F T1 X f (.int 7) .fS (ka (some q))),dR 1 r]
 refine Y' y T1 ((rf _ _ _ _).trans (mf (b:=gr.drop 4) rfl dT hA (tH (b:=gr.drop 5) e2 (tH e3 PH)))) o a (λe h=>(C e h).1) ?_ λe h=>(C e h).2;rw[s3,s2,s1];rfl
theorem Ia{I:ab Nat}:cF (n+2) wm 760 [.d (.tup (I.map nD))] H=some (.d (.lst (I.map λκ=>mz κ none none)),H):=by have f:=fV (elt:=(EE 730 727 [(dM 1),(dN .fS),(d8 [])]).run) (c:=⟨cF (n+1),H.length⟩) (e:=nD) (H:=H) [some (.d (.tup (I.map nD)))] I (λκ=>mz κ none none) (o:=none) (λκ _=>wd [dR 3 (pH (n:=n) (H:=H) (a:=nD κ) (b:=.fS) (c:=.tup []) (wm:=H.length)),dR 0 (sX (H:=H) (a:=nD κ) (b:=.fS) (c:=.tup []))]);exact wk r8 rfl [jX 1 f,dR 0 (eQ (D.lst (aaa (λ(κ:Nat)↦mz κ none none) I)) H)]
end
section
variable{F:ab Int}{T T1 T2:ab Row}{X Y L:ab Cell}{n wm:Nat}{H:Hp}{i κ t g:Nat}{k:ab W}{Q m ro x U J:Nat}{as:Int}{B:ab W}{kw:W}
noncomputable def p6(m:Nat)(k:ab W):ab W:=if m=1then ei [k,[d6]]else if m=2then k.filter (λw=>decide (w≠d6))else k
theorem Bd(G:Good (g+1) T)(K:Kd T t k):∃t' T',Runs 6 774 [eb,.d (eJ Q as x m ro),.d (nD t)] T (.d (nD t')) T'/\Good g T'/\T<+:T'/\Kd T' t' (p6 m k):=by
 unfold p6;refine(let l:Prop:=_;(?_:l));by_cases f:m=1;.subst f;refine jr (GP G K (.inr rfl)) λt' T' r b p c=>?_;refine jQ t' T' ⟨?_,b,p,c⟩;intro n wm F X;exact wk lX dT [dR 10 (r (n+2) (11+X.length) F X),dR 0 (dU F X (nD t') T')]
 .by_cases j:m=2;.subst j;refine jr (Ic G K) λt' T' r b p c=>?_;refine jQ t' T' ⟨?_,b,p,c⟩;intro n wm F X;exact wk lX dT [dR 12 (r n (11+X.length) F X),dR 0 (dU F X (nD t') T')]
  .have e:¬(m:Int)=2:=by lia
   refine jQ t T ⟨?_,G.le ((aG _ _)),aq _,by simpa[f,j]using K⟩;intro n wm F X;exact wk lX dT [sb 3 (eA (show¬(m:Int)=1from by lia)),sb 4 (eA e),dR 1 (dU F X (nD t) T)]
noncomputable def gF(U J:Nat)(B:ab W)(m:Nat)(s:Slot):Slot:=let b:=gm U J B s.kind s.key;if s.sign<2then⟨s.key,(gP m b (decide (s.sign=1))).1,(gP m b (decide (s.sign=1))).2,0⟩else⟨s.key,p6 m b,s.sign,0⟩
structure gG(T:ab Row)(i:Nat)(e:Nat×Nat)(s:Slot):Prop where
 sign:s.sign=e.2
 held:s.held=0
 key:s.key=[34,48+i,34]
 seen:Seen T e.1 (decide (s.sign=1)) s.kind
theorem gG.pre(h:T<+:T')(r:gG T i e s):gG T' i e s:=⟨r.sign,r.held,r.key,r.seen.pre h⟩
theorem digit(h:i<10):iu 204 [.d (nD i)] H=some (sD [48+i]):=by
 have:(0:Int)<=i/\(i:Int)<10:=by lia
 simp[iu,tW,zx,jo,this,S]
theorem LN(l:i<10)(c:Runs 2 158 [d7,.d (sD [48+i])] T0 (.d (nD κ)) T1)(j:b=true->f=o/\T2=T1)(e:b=false->Runs 8 685 [eb,.d (eJ Q as x m ro),.d (nD κ)] T1 (.d (nD f)) T2)(r:Runs 6 774 [eb,.d (eJ Q as x m ro),.d (nD f)] T2 (.d (nD t')) T'):cF (n+10) wm 781 [eb,.d (eJ Q as x m ro),.d (nD i),.d (g7 (o,2)),.d (.bool b)] (hs F T0 X)=some (.d (g7 (t',2)),hs F T' X):=by
 have hd:=digit (H:=hs F T0 X) l;have c:=c (n+7) (11+X.length) F X;have r:=r (n+3) (11+X.length) F X;rcases b with⟨⟩;.have e:=e rfl (n+1) (11+X.length) F X;exact wk ja dT [sd 2 hd,dR 1 c,dR 10 e,dR 3 r,dR 2 (dU F X (.tup [nD t',.int 2]) T')]
 .obtain⟨rfl,rfl⟩:=j rfl;exact wk ja dT [sd 2 hd,dR 1 c,dR 12 r,dR 2 (dU F X (.tup [nD t',.int 2]) T')]
theorem Pa(s:i<10)(q:p≠2)(y:decide (p=1)=N)(e:Runs 2 158 [d7,.d (sD [48+i])] T0 (.d (nD κ)) T1)(c:hO m N=l)(r:Runs 9 699 [eb,.d (eJ Q as x m ro),.d (nD κ),.d (bif b then nD o else .int (-1)),.d (.bool N)] T1 (.d (nD t')) T'):cF (n+10) wm 781 [eb,.d (eJ Q as x m ro),.d (nD i),.d (g7 (o,p)),.d (.bool b)] (hs F T0 X)=some (.d (g7 (t',bif l then 1 else 0)),hs F T' X):=by
 have hd:=digit (H:=hs F T0 X) s;have e:=e (n+7) (11+X.length) F X;have c:=(v3 (n:=n+8) (wm:=11+X.length) (H:=hs F T1 X) (Q:=Q) (as:=as) (x:=x) (ro:=ro)).trans (by rw[c]);have r:=r n (11+X.length) F X;have j:=eA (hH q);have f:=(A0).trans (ag some y);rcases b with⟨⟩<;>rcases l with⟨⟩;.exact wk ja dT [sd 2 hd,dR 1 e,sb 4 j,sb 4 f,dR 2 c,dR 6 r,dR 2 (dU F X (.tup [nD t',.int 0]) T')]
 .exact wk ja dT [sd 2 hd,dR 1 e,sb 4 j,sb 4 f,dR 2 c,dR 6 r,dR 2 (dU F X (.tup [nD t',.int 1]) T')]
 .exact wk ja dT [sd 2 hd,dR 1 e,sb 6 j,sb 4 f,dR 2 c,dR 6 r,dR 2 (dU F X (.tup [nD t',.int 0]) T')]
 .exact wk ja dT [sd 2 hd,dR 1 e,sb 6 j,sb 4 f,dR 2 c,dR 6 r,dR 2 (dU F X (.tup [nD t',.int 1]) T')]
theorem LB:(gP m k N).2=bif hO m N then 1 else 0:=by
 unfold gP;rcases hO m N with⟨⟩;.rcases N with⟨⟩<;>rfl
 .rfl
theorem Mb(G:Good (g+4) T)(hi:i<10)(he:e.2<=2)(E:gG T i e s)(hb:U=0\/Tm T x U J B):∃C T',Runs 10 781 [eb,.d (eJ Q as x m ro),.d (nD i),.d (g7 e),.d (.bool (decide (U=0)))] T (.d (g7 C)) T'/\Good g T'/\T<+:T'/\gG T' i C (gF U J B m s)/\C.2=(if e.2=2then 2 else if hO m (decide (e.2=1))then 1 else 0):=by
 have G1:Good (g+3) (fj T (.str [48+i])):=G.put;have M:=gq (T:=T) (r:=.str [48+i]);have R:=HM (s:=[48+i]) G.lt;have y:T<+:fj T (.str [48+i]):=eh;have Z:=E.pre y;have QN:=hb.imp id λh=>h.pre y;generalize fO T (.str [48+i])=κ at M R;generalize fj T (.str [48+i])=T1 at*;have p:Ky T1 κ s.key:=⟨_,M,by rw[E.key];exact⟨rfl,rfl⟩⟩;have c:=E.sign;have f:=E.key;generalize j:decide (U=0)=b;have z:=Z.seen;clear hb M E Z G;obtain⟨o,O⟩:=e;simp only at c he z⊢;rw[c]at z;by_cases I:O=2;.subst I;refine z.elim λk0 K=>?_;refine pU (G1.le (aV _)) (λ_=>(K.2▸K.1:Kd T1 o s.kind)) QN p Q as m ro j λt1 T2 a b G2 p2 K2=>?_;refine jr (Bd (Q:=Q) (as:=as) (x:=x) (m:=m) (ro:=ro) G2 K2) λq T' r A P K'=>?_;have hl:gF U J B m s=⟨s.key,p6 m (gm U J B s.kind s.key),s.sign,0⟩:=aX (by rw[c];decide);rw[hl];exact Rg (q,2) T' (λn wm F X=>LN hi R a b r) A (y.trans (p2.trans P)) ⟨c,rfl,f,by show Seen T' q (decide (s.sign=1)) _;rw[c];exact⟨_,K',rfl⟩⟩ rfl
 .refine jr (xZ (o:=bif b then nD o else .int (-1)) G1 QN p (λh=>⟨o,by rw[←j,ay h];rfl,z⟩) (λh=>by rw[←j,aw h];rfl) Q as m ro) λq T' r A P S'=>?_;rw[(show gF U J B m s=⟨s.key,(gP m (gm U J B s.kind s.key) (decide (s.sign=1))).1,(gP m (gm U J B s.kind s.key) (decide (s.sign=1))).2,0⟩from aS (by rw[c];show O<2;lia)),c,LB];generalize N:hO m (decide (O=1))=l at*;refine Rg (q,bif l then 1 else 0) T' (λn wm F X=>Pa hi I rfl R N r) A (y.trans P) ⟨rfl,rfl,f,by show Seen T' q (decide ((bif l then 1 else 0)=1)) _;rw[(show decide ((bif l then 1 else 0)=1)=l from by rcases l with⟨⟩<;>rfl)];exact S'⟩ ?_;rw[aX I];rcases l with⟨⟩<;>rfl
inductive ti(T:ab Row)(t:Nat)(L:ab Slot)(ro:Nat):Prop|tup(es:ab (Nat×Nat))(ht:T[t]?=some (.tup es ro))(M:my es)(h1:∀e,es≠[(e,2)])(hl:L.length=es.length)(h3:es.length<=3)(ok:∀(i:Nat)(e:Nat×Nat)(s:Slot),es[i]?=some e->L[i]?=some s->gG T i e s):ti T t L ro|arr(e:Nat)(s:Slot)(ht:T[t]?=some (.arr e ro))(hL:L=[s])(sign:s.sign=2)(held:s.held=0)(key:s.key=dZ)(K:Kd T e s.kind):ti T t L ro
theorem PW(G:Good (g+4) T)(ht:T[t]?=some (.arr e R))(c:s.sign=2)(l:s.key=dZ)(K:Kd T e s.kind)(N:U=0\/Tm T x U J B):∃t' T',Runs 9 767 [eb,.d (eJ Q as x m ro),.d (nD t),.d (.bool (decide (U=0)))] T (.d (nD t')) T'/\Good g T'/\T<+:T'/\ti T' t' [gF U J B m s] (mC ro R):=by
 have f:Ky T 7 s.key:=by rw[l];exact⟨_,G.at rfl,by decide,rfl⟩
 generalize j:decide (U=0)=b;refine pU G (λ_=>K) N f Q as m ro j λt1 T2 h0 A C P E=>?_;refine jr (Bd (Q:=Q) (as:=as) (x:=x) (m:=m) (ro:=ro) C E) λq z r y h I=>?_;have p:=x2 (e:=q) (ro:=mC ro R) y.lt;have O:gF U J B m s=⟨s.key,p6 m (gm U J B s.kind s.key),s.sign,0⟩:=aX (by rw[c];decide);rw[O];refine qW _ _ (λn wm F X=>?_) y.put (P.trans (h.trans eh)) (.arr q _ gq rfl c rfl l (I.pre eh));have a:=AQ (n:=n+7) (wm:=11+X.length) (H:=hs F z X) (Z:=ro) (r:=R);have p:=p (n+6) (11+X.length) F X;have r:=r (n+2) (11+X.length) F X;have o:=fR F X ht;have M:=dU F X (nD (fO z (.arr q (mC ro R)))) (fj z (.arr q (mC ro R)));clear j y C I E h P f K N G O;rcases b with⟨⟩;.have A:=A rfl n (11+X.length) F X;exact wk qK dT [sv 3 o,dR 4 A,dR 4 r,dR 7 a,dR 1 p,dR 0 M]
 .obtain⟨rfl,rfl⟩:=h0 rfl;exact wk qK dT [sv 3 o,dR 7 r,dR 7 a,dR 1 p,dR 0 M]
end
section
variable{F:ab Int}{T T1 T2:ab Row}{X Y L:ab Cell}{n wm:Nat}{H:Hp}{i κ t g:Nat}{k:ab W}{Q m ro x U J:Nat}{as:Int}{B:ab W}{kw:W}
noncomputable def zl(m b:Nat):Nat:=if b=2then 2 else if hO m (decide (b=1))then 1 else 0
theorem Td:zl m 2=2:=aS rfl
theorem E5(h:a<2):zl m a<2:=by unfold zl;rw[aX (cv h)];exact abf (ug (aV _) (bB _))
theorem Pe:zl m 0<=zl m 1:=by unfold zl hO;generalize decide (m=1)=u;generalize decide (m=0)=v;revert u v;decide
theorem PY(h:a<=b/\a<2)(d:b<=2):zl m a<=zl m b/\zl m a<2:=by
 refine⟨?_,E5 h.2⟩;rcases dp b 2with q|q;.
  rcases Nat.eq_or_lt_of_le h.1with e|e;.rw[e];exact aV _
  .have c:b=1:=aat (dc q) (aj (bB _) e);subst c;rw[Nat.lt_one_iff.mp e];exact Pe
 .rw[aat d q,Td];exact aaI (E5 h.2)
theorem H8(M:my E)(h:c.map (·.2)=(E.map (·.2)).map (zl m)):my c:=by
 have p:=by have:=ag bq h;simpa using this
 refine⟨?_,λe o=>?_,(sY p M.sz)⟩;.
  have f:(c.map (·.2)).Pairwise λa b=>a<=b/\a<2:=by rw[h,aK,bW];refine c8 ?_ M.pw;intro a b j l d;exact PY d (M.le b l)
  rw[bW]at f;exact f
 .have:e.2∈c.map (·.2):=af.mpr ⟨e,o,rfl⟩;rw[h]at this;refine d9 (af.mp this) λa _ j=>?_;rw[←j];unfold zl;split;lia;split<;>lia
theorem K7(h:zl m a=2):a=2:=Decidable.byContradiction λq=>by unfold zl at h;rw[aX q]at h;have l:=ug (c:=hO m (decide (a=1))=true) (aV 1) (bB 1);rw[h]at l;exact ax l (by decide)
noncomputable def T6(Q:Nat)(as:Int)(x m ro t:Nat)(b:bp)(d:D)(i:Nat)(C:ae V):Loc:=[some eb,some (.d (eJ Q as x m ro)),some (.d (nD t)),some (.d (.bool b)),some d7,some (.d d),some (.ref (11+i)),C]
noncomputable def Ql(F:ab Int)(T:ab Row)(X:ab Cell)(es:ab (Nat×Nat)):Hp:=hs F T (X++[.lst (es.map g7) .own])
theorem uv{k:Nat}{x:D}(h:Z[k]?=some x):fZ (.d (.tup Z)) (nD k) H=some (.d x):=by simp[h]
theorem LA{c:Type}{l:ab c}{a b:c}(h:(l++[a])[i]?=some b):l[i]?=some b\/(i=l.length/\b=a):=by
 rcases aaC i l.length with q|q|q;.rw[aT q]at h;exact .inl h
 .subst q;rw[vK]at h;exact .inr ⟨rfl,(sI h).symm⟩
 .rw[b9 (by rw[ao];exact q)]at h;exact ec h
theorem Ly{es:ab (Nat×Nat)}{R:Nat}{o:ab Slot}{b:bp}(hb:b=decide (U=0))(M:my es)(hl:o.length=es.length)(h3:es.length<=3){T0:ab Row}(ok:∀(i:Nat)(e:Nat×Nat)(s:Slot),es[i]?=some e->o[i]?=some s->gG T0 i e s)(hT:U=0\/Tm T0 x U J B):∀(r d:ab (Nat×Nat)){T:ab Row}{es':ab (Nat×Nat)}{C:ae V},es=d++r->Good (g+4*r.length) T->T0<+:T->es'.length=d.length->es'.map (·.2)=(d.map (·.2)).map (zl m)->(∀(i:Nat)(e:Nat×Nat)(s:Slot),es'[i]?=some e->o[i]?=some s->gG T i e (gF U J B m s))->∀{K:Prop},(∀T' j q7,g' (.one 7) (d5 (kV.map BS.run)) ⟨cF (n+10),11+X.length⟩ ((aaB d.length r.length).map nD) (T6 Q as x m ro t b (gE (.tup es R)) X.length C) (Ql F T X es')=some (.er,T6 Q as x m ro t b (gE (.tup es R)) X.length q7,Ql F T' X j)->Good g T'->T<+:T'->j.length=es.length->j.map (·.2)=(es.map (·.2)).map (zl m)->(∀(i:Nat)(e:Nat×Nat)(s:Slot),j[i]?=some e->o[i]?=some s->gG T' i e (gF U J B m s))->K)->K:=by
 intro r;induction r with
 |nil=>intro d T es' C E G p f P y K κ;rw[aL]at E;exact κ T es' C rfl G (aq _) (E▸f) (E▸P) y|cons e r ih=>
  intro d T es' C E G p f P y K κ;have l:es[d.length]?=some e:=by rw[E];exact vK
  have q:=(aE.mp l).1;have A:o[d.length]?=some o[d.length]:=au (hl▸q);generalize o[d.length]=s at A;refine CZ (Mb (Q:=Q) (as:=as) (m:=m) (ro:=ro) (g:=g+4*r.length) (U:=U) (J:=J) (B:=B) G (bZ q (ar h3 (by decide))) (M.le e (aae l)) ((ok _ _ _ l A).pre p) (hT.imp id λh=>h.pre p)) λN T2 I G2 p2 E2 m2=>?_;have ap:=r0 (F:=F) (T:=T2) (X:=X) (L:=[]) (M:=dP) (c:=⟨cF (n+10),11+X.length⟩) (Z:=es'.map g7) (v:=g7 N) (by rw[ak,f];exact bK (bZ q h3) (by decide));have I:=I n (11+X.length) F (X++[.lst (es'.map g7) .own]);rw[←hb]at I;have s2:fZ (.d (.tup (es.map g7))) (nD d.length) (hs F T (X++[.lst (es'.map g7) .own]))=some (.d (g7 e)):=uv (by rw[bV,l];rfl);have run:d5 (kV.map BS.run) ⟨cF (n+10),11+X.length⟩ (T6 Q as x m ro t b (gE (.tup es R)) X.length (some (.d (nD d.length)))) (Ql F T X es')=some (.er,T6 Q as x m ro t b (gE (.tup es R)) X.length (some (.d (nD d.length))),Ql F T2 X (es'++[N])):=by unfold Ql;rw[aC];exact wq [sb 0 (yV (F:=F) (T:=T) (X:=X) (z:=es'.map g7)),sv 6 s2,dR 2 I,dR 1 ap]
  refine ih (d++[e]) (T:=T2) (es':=es'++[N]) (C:=some (.d (nD d.length))) (by rw[E,bz];rfl) G2 (p.trans p2) (by rw[ao,ao,f];rfl) (by rw[aC,aC,aC,P];exact ag (_++[·]) m2) (λi e1 s1 hi hs=>?_) λT3 O q7 e3 G3 p3 l3 m3 a=>?_;.
   rcases LA hi with h|h;.exact(y i e1 s1 h hs).pre p2
   .rw[h.1,f]at hs⊢;rw[A]at hs;obtain rfl:=sI hs;rw[h.2];exact E2
  .rw[ao]at e3;exact κ T3 O q7 (gT rfl (.inl rfl) run e3) G3 (p2.trans p3) l3 m3 a
theorem O2{A:ab Slot}(G:Good (g+13) T)(ht:T[t]?=some (.tup es R))(M:my es)(p:∀e,es≠[(e,2)])(hl:A.length=es.length)(I:es.length<=3)(ok:∀(i:Nat)(e:Nat×Nat)(s:Slot),es[i]?=some e->A[i]?=some s->gG T i e s)(hb:U=0\/Tm T x U J B):∃t' T',cF (n+11) wm 788 [eb,.d (eJ Q as x m ro),.d (nD t),.d (.bool (decide (U=0)))] (hs F T X)=some (.d (nD t'),hs F T' X)/\Good g T'/\T<+:T'/\ti T' t' (A.map (gF U J B m)) (mC ro R):=by
 generalize K:decide (U=0)=b;refine Ly (F:=F) (X:=X) (n:=n) (g:=g+1) (Q:=Q) (as:=as) (m:=m) (ro:=ro) (t:=t) (R:=R) (C:=none) K.symm M hl I ok hb es [] rfl (G.le (by lia)) (aq _) rfl rfl (λ_ _ _ h=>ec h) λT' c q7 e1 y p' o j q=>?_;have E:my c:=H8 M j;have f:∀e,c≠[(e,2)]:=λe he=>by rw[he,aK]at j;refine(abc.mp j.symm).elim λa h=>?_;exact p a.1 (h.1.trans (ag (λz=>[(a.1,z)]) (K7 h.2)))
 have tt:=rA (ro:=mC ro R) E (.inl rfl) y.lt (n+7) (11+X.length) F (X++[Cell.lst (aaa g7 c) Mode.own]);rw[rV f]at tt;have hr:=iz (aj I (by decide)) (hs F T (X++[.lst [] .own]));rw[aad]at hr;have P:=fR F X ht;refine qW _ _ ?_ y.put (p'.trans eh) (.tup c gq E f (by rw[ak,hl,o]) (o▸I) λi e s N l=>?_);.clear G y M E p f ok q j hb ht;exact wk xm dT [sv 3 P,dR 0 (iB F X (.lst [] .own) T),sd 2 (show iu 200 [V.d (D.tup (aaa g7 es))] (hs F T (X++[Cell.lst [] Mode.own]))=some (D.int ↑es.length)from ag (λk:Nat=>some (D.int k)) (ak _)),jX 1 hr,mb 0 e1,sd 1 (show iu 207 [.ref (11+X.length)] (Ql F T' X c)=some (.tup (c.map g7))from PS (L:=[])),dR 7 (AQ (n:=n+9) (wm:=11+X.length) (H:=Ql F T' X c) (Z:=ro) (r:=R)),dR 1 tt,dR 0 (iZ F X [Cell.lst (c.map g7) .own] (nD (fO T' (.tup c (mC ro R)))) (fj T' (.tup c (mC ro R))))]
 .rw[bV]at l;refine d9 (cw.mp l) λs0 O y1=>?_;subst y1;exact(q i e s0 N O).pre eh
noncomputable def gO(l:ab Slot):ab Slot:=sortBy (λa b=>eT a.key b.key) l
noncomputable def SK(l:ab Slot):Prop:=l.Pairwise λa b=>eT a.key b.key=true/\a.key≠b.key
theorem Qy{a:Slot}{l:ab Slot}(h:SK l)(n:a.key∉l.map (·.key)):SK (kO (λa b=>eT a.key b.key) a l):=by have e:∀b∈l,a.key≠b.key:=λb h z=>n (af.mpr ⟨b,h,z.symm⟩);exact yK (λb d c f q r=>⟨ij _ _ _ q r.1,e c f⟩) (λb d q=>⟨q,e b d⟩) (λb d q=>⟨(ic _ _).resolve_left λz=>fE (q.symm.trans z),(e b d).symm⟩) h
theorem pj:∀{l:ab Slot},(l.map (·.key)).Nodup->SK (gO l):=by intro l;induction l with|nil=>intro _;simp[gO,sortBy,SK]|cons a r ih=>intro h;rw[aH,a9]at h;refine Qy (ih h.2) λq=>?_;refine d9 (af.mp q) λs b c=>?_;exact h.1 (af.mpr ⟨s,iF.mp b,c⟩)
theorem nx:s∈gO l↔s∈l:=iF
theorem FW{l l':ab Slot}(h:SK l)(h':SK l')(e:∀x,x∈l↔x∈l'):l=l':=aan (λ_ _ _ _ p q=>ax (jJ _ _ p.1 q.1) p.2) h h' ((aa6 (h.imp λp z=>p.2 (ag _ z)) (h'.imp λp z=>p.2 (ag _ z))).mpr e)
theorem O9{l:ab Slot}(h:(l.map (·.key)).Nodup)(f:a∈l)(j:b∈l)(e:a.key=b.key):a=b:=by
 induction l with
 |nil=>exact kn f|cons x l ih=>
  rw[aH,a9]at h;rcases ah.mp f with rfl|c<;>rcases ah.mp j with rfl|d;.rfl
  .exact ax (af.mpr ⟨b,d,e.symm⟩) h.1
  .exact ax (af.mpr ⟨a,c,e⟩) h.1
  .exact ih h.2 c d
structure Clean(ps:ab mg):Prop where
 fl:∀p∈ps,p.2.2.1<8
 z:∀p∈ps,p.2.2.2=0
theorem Ht(c:a.length=1)(d:b.length=1)(h:eT a b=true/\a≠b):eT (34::(a++[34])) (34::(b++[34]))=true/\(34::(a++[34]):W)≠34::(b++[34]):=by obtain⟨x,rfl⟩:=dC.mp c;obtain⟨y,rfl⟩:=dC.mp d;.simp only[kM,te,de,aI,aZ,ne_eq,aaX,and_true,aaP,List.nil_append,true_and]at h⊢;lia
noncomputable def RG(T:ab Row)(M:Md)(s:Slot):Prop:=(∃p∈M.rows,mI T p s)\/(∃q,M.si=some q/\s.key=d0/\kW T q s)\/(∃q,M.ni=some q/\s.key=dZ/\kW T q s)
theorem wa{s:Slot}(h:((sl++[s]).map (·.key)).Nodup):(sl.map (·.key)).Nodup/\∀s'∈sl,s'.key≠s.key:=by rw[aC,a7]at h;exact⟨h.1,λs' hs=>h.2.2 _ (af.mpr ⟨s',hs,rfl⟩) _ (.head _)⟩
theorem fg.at(h:fg T M sl)(c:(sl.map (·.key)).Nodup):∀s∈sl,RG T M s:=by
 induction h with
 |nil=>intro s hs;exact kn hs|@row M sl p s f r ih=>
  intro e d;have c:=wa c;rcases aJ.mp d with q|q;.exact(ih c.1 e q).imp (λh=>d9 h λp a b=>i12 p (bk _ a) b) id
  .rw[kB q];exact .inl ⟨p,aN _ (.head _),r⟩|@Ob M sl p s f k r ih=>
  intro e d;have c:=wa c;rcases aJ.mp d with q|q;.exact(ih c.1 e q).imp id λh=>h.imp (λh=>j6 h λ_ _ b _=>ax (b.trans k.symm) (c.2 e q)) id
  .rw[kB q];exact .inr (.inl ⟨p,rfl,k,r⟩)|@OK M sl p s f k r ih=>
  intro e d;have c:=wa c;rcases aJ.mp d with q|q;.exact(ih c.1 e q).imp id λh=>h.imp id λh=>j6 h λ_ _ b _=>ax (b.trans k.symm) (c.2 e q)
  .rw[kB q];exact .inr (.inr ⟨p,rfl,k,r⟩)
theorem mI.ne(r:mI T p s)(h:v.head?≠some 34):s.key≠v:=λe=>h (by rw[←e,r.key];rfl)
theorem RG.s6(h:RG T M s)(hk:s.key=d0):M.si≠none:=λe=>by
 rcases h with h|h|h;.exact d9 h λp _ r=>r.ne (by decide) hk
 .exact j6 h λq a _ _=>ec (e.symm.trans a)
 .exact j6 h λq _ b _=>ax (hk.symm.trans b) (by decide)
theorem RG.s7(h:RG T M s)(hk:s.key=dZ):M.ni≠none:=λe=>by
 rcases h with h|h|h;.exact d9 h λp _ r=>r.ne (by decide) hk
 .exact j6 h λq _ b _=>ax (hk.symm.trans b) (by decide)
 .exact j6 h λq a _ _=>ec (e.symm.trans a)
theorem A8{sl:ab Slot}(j:(sl.map (·.key)).Nodup)(f:∀s∈sl,s.key=b->o≠none)(l:∀q,o=some q->∃s∈sl,s.key=b/\kW T q s):∃L,rX T b o L/\∀s,s∈L↔s∈sl/\s.key=b:=by
 rcases o with _|q;.exact i12 [] (.inl ⟨rfl,rfl⟩) λs=>⟨λh=>kn h,λh=>ax rfl (f s h.1 h.2)⟩
 .refine j6 (l q rfl) λs d c e=>?_;exact i12 [s] (.inr ⟨q,s,rfl,rfl,c,e⟩) λp=>⟨λh=>by rw[kB h];exact⟨d,c⟩,λh=>by rw[O9 j h.1 d (h.2.trans c.symm)];exact .head _⟩
noncomputable def GW(sl:ab Slot)(p:mg):Slot:=(sl.find? λs=>decide (s.key=34::(p.1++[34]))).getD ⟨[],[],0,0⟩
theorem Br(b:(sl.map (·.key)).Nodup)(hs:s∈sl)(r:mI T p s):GW sl (p.1,p.2.1,p.2.2,0)=s:=by show(sl.find? λc=>decide (c.key=34::(p.1++[34]))).getD _=s;rw[←r.key,rk b hs];rfl
structure WE(T:ab Row)(M:Md)(sl:ab Slot)(p:mg)(s:Slot):Prop where
 fl:p.2.2.1=s.sign+2*s.held
 z:p.2.2.2=0
 m:s∈sl
 r:mI T (p.1,p.2.1,p.2.2.1) s
theorem KO(h:fg T M sl)(d:(sl.map (·.key)).Nodup)(e:p∈eP (gw M)):WE T M sl p (GW sl p):=by refine d9 (af.mp (j9.mp e)) λq b c=>?_;refine d9 (h.rows.1 q b) λs hs r=>?_;rw[←c,Br d hs r];exact⟨r.fl,rfl,hs,r⟩
theorem RW(h:eT [35] v=true/\(v=d0\/v=dZ)):eT (34::a) v=true/\(34::a:W)≠v:=by rcases h.2with e|e<;>rw[e]<;>exact⟨by rw[kM];rfl,λe=>ax (br e).1 (by decide)⟩
theorem GF(r:IP eT ((eP (gw M)).map (·.1)))(f:∀p∈eP (gw M),(GW sl p).key=34::(p.1++[34])/\p.1.length=1)(C:∀s∈y,s.key=d0)(A:∀s∈z,s.key=dZ)(j:y.length<=1)(E:z.length<=1):SK ((eP (gw M)).map (GW sl)++z++y):=by
 have pw:∀{l:ab Slot},l.length<=1->SK l:=λ{l}h=>by
  rcases l with _|⟨a,_|⟨b,l⟩⟩;.exact .nil
  .exact bX _ a
  .exact ax h (adW.mpr (bZ (cW 1) (c9 2 _)))
 refine aaQ.mpr ⟨aaQ.mpr ⟨?_,pw E,λa c b d=>?_⟩,pw j,λa c b d=>?_⟩;.rw[bW];refine c8 (λ{a b}c d o=>?_) (bW.mp r);rw[(f a c).1,(f b d).1];exact Ht (f a c).2 (f b d).2 o
 .refine d9 (af.mp c) λp q e=>?_;rw[←e,(f p q).1,A b d];exact RW ⟨by decide,.inr rfl⟩
 .rw[C b d];rcases aJ.mp c with c|c;.refine d9 (af.mp c) λp q e=>?_;rw[←e,(f p q).1];exact RW ⟨by decide,.inl rfl⟩
  .rw[A a c];exact⟨by decide,by decide⟩
theorem z8(h:fg T M sl)(o:(sl.map (·.key)).Nodup)(N:M.rows.length<=5)(P:∀s∈sl,∀a∈s.key,a<128):∃A G I,mw T (eP (gw M)) M.si M.ni A G I/\gO sl=(eP (gw M)).map A++I++G/\Clean (eP (gw M)):=by
 have l:=h.at o;have c:=λ{p}=>KO (p:=p) h o;refine d9 (A8 o (λs hs=>(l s hs).s6) h.rows.2.1) λG f y=>?_;refine d9 (A8 o (λs hs=>(l s hs).s7) h.rows.2.2.1) λI j C=>?_;have E:IP eT ((eP (gw M)).map (·.1)):=by rw[m'];refine pB ic ij ?_;unfold gw;rw[aK];exact h.nodup o
 have K:∀p∈eP (gw M),p.2.2.1<8:=λp d=>by have R:=c d;have:=R.r.sign;have:=R.r.held;rw[R.fl];lia
 refine YN (GW sl) G I ⟨λp d=>bK (K p d) (by decide),λp d _=>?_,f,j,SS.nd E,?_⟩ (FW (pj o) (GF E (λp d=>⟨(c d).r.key,(c d).r.l1⟩) (λs hs=>f.key hs) (λs hs=>j.key hs) f.len j.len) λs=>?_) ⟨K,λp d=>(c d).z⟩;.have R:=c d;have r:=R.r;have:=r.sign;have:=r.held;exact⟨r.l1,λa O=>P _ R.m a (by rw[r.key];exact .tail _ (bk _ O)),r.key,by rw[R.fl];lia,by rw[R.fl];lia,r.seen⟩
 .unfold eP gw;rw[oh,ak];exact N
 .rw[nx];refine⟨λhs=>?_,λhs=>?_⟩;.
   rcases l s hs with q|q|q;.refine d9 q λp d r=>?_;exact bk _ (bk _ (af.mpr ⟨_,j9.mpr (af.mpr ⟨p,d,rfl⟩),Br o hs r⟩))
   .exact j6 q λ_ _ b _=>aN _ ((y s).mpr ⟨hs,b⟩)
   .exact j6 q λ_ _ b _=>bk _ (aN _ ((C s).mpr ⟨hs,b⟩))
  .rcases aJ.mp hs with q|q;.
    rcases aJ.mp q with q|q;.exact d9 (af.mp q) λp d e=>e▸(c d).m
    .exact((C s).mp q).1
   .exact((y s).mp q).1
end
set_option genCtorIdx true in inductive Piece where|prim(w:W)|obj(L:ab Slot)|lst(L:ab Slot)(ro:Nat)
inductive oW(T:ab Row)(r:Row)(L:ab Slot)(ro:Nat):Prop|tup(es:ab (Nat×Nat))(ht:r=.tup es ro)(M:my es)(h1:∀e,es≠[(e,2)])(hl:L.length=es.length)(h3:es.length<=3)(ok:∀(i:Nat)(e:Nat×Nat)(s:Slot),es[i]?=some e->L[i]?=some s->gG T i e s):oW T r L ro|arr(e:Nat)(s:Slot)(ht:r=.arr e ro)(hL:L=[s])(sign:s.sign=2)(held:s.held=0)(key:s.key=dZ)(K:Kd T e s.kind):oW T r L ro
structure tv(T:ab Row)(r:Row)(L:ab Slot)(ps:ab mg)(si ni:ae (Nat×Nat))(A:mg->Slot)(L1 L2:ab Slot):Prop where
 r:r=.obj ps si ni
 o:mw T ps si ni A L1 L2
 mem:∀s,s∈L↔s∈(ps.filter j7).map A++L1++L2
 nd:(L.map (·.key)).Nodup
noncomputable def eE(T:ab Row)(r:Row):Piece->Prop|.prim w=>ek r w/\w≠fW/\w≠ea|.obj L=>∃ps E ni A b c,tv T r L ps E ni A b c|.lst L ro=>ro<=1/\oW T r L ro
noncomputable def hX(T:ab Row)(q:Nat)(p:Piece):Prop:=∃r,T[q]?=some r/\eE T r p
section
variable{F:ab Int}{T T' T1 T2:ab Row}{X Y:ab Cell}{n wm:Nat}{H:Hp}{i κ t g q:Nat}{k:ab W}{Q m ro x U J:Nat}{as:Int}{B:ab W}{kw:W}{p p':Piece}{r:Row}{L L':ab Slot}
theorem oW.pre(h:T<+:T')(s:oW T r L ro):oW T' r L ro:=by induction s with|tup f d M j y l ok=>exact .tup f d M j y l λi e s a b=>(ok i e s a b).pre h|arr e s d o a b c K=>exact .arr e s d o a b c (K.pre h)
theorem eE.pre(h:T<+:T')(s:eE T r p):eE T' r p:=by induction p using Piece.casesOn with|prim w=>exact s|obj L=>obtain⟨d,E,ni,A,b,c,o⟩:=s;exact⟨d,E,ni,A,b,c,o.r,o.o.pre h,o.mem,o.nd⟩|lst L ro=>exact⟨s.1,s.2.pre h⟩
theorem hX.pre(h:T<+:T')(s:hX T q p):hX T' q p:=by obtain⟨r,b,c⟩:=s;exact⟨r,fQ h b,c.pre h⟩
theorem AP(h:ti T t L ro)(f:ro<=1):hX T t (.lst L ro):=by induction h with|tup j d M l z o A=>exact⟨_,d,f,.tup j rfl M l z o A⟩|arr e s d y a b c K=>exact⟨_,d,f,.arr e s rfl y a b c K⟩
theorem Kd.det(a:Kd T t k)(b:Kd T t k'):k=k':=ShQ.det (P:=i7 T) (λ_ _ _ a b=>i7.det a b) a.toShQ b.toShQ
theorem Seen.det(a:Seen T t o k)(b:Seen T t o k'):k=k':=by refine d9 (a) λk0 c d=>?_;rw[d];refine d9 (b) λf b1 e=>?_;rw[e];rw[c.det b1]
theorem pq{b:Slot}(c:a.key=b.key)(d:a.kind=b.kind)(e:a.sign=b.sign)(f:a.held=b.held):a=b:=by rcases a with⟨⟩;rcases b with⟨⟩;simp_all
theorem h8.det(h:h8 T z a)(h':h8 T z b):a=b:=by have hs:=h.sign.trans h'.sign.symm;refine pq (h.key.trans h'.key.symm) ?_ hs (h.held.trans h'.held.symm);have c:=h.seen;rw[hs]at c;exact c.det h'.seen
theorem kW.det(h:kW T z a)(h':kW T z b)(e:a.key=b.key):a=b:=pq e (h.kd.det h'.kd) (h.sign.trans h'.sign.symm) (h.held.trans h'.held.symm)
theorem rX.det{key:W}{o:ae (Nat×Nat)}{l l':ab Slot}(h:rX T key o l)(h':rX T key o l'):l=l':=by
 rcases h with⟨d,e⟩|⟨q,s,d,e,y,z⟩<;>rcases h' with⟨b,c⟩|⟨A,C,b,c,f,j⟩;.simp only[e,c]
 .rw[d]at b;exact ec b
 .rw[d]at b;exact TV b
 .rw[d]at b;obtain rfl:=sI b;simp only[e,c,z.det j (y.trans f.symm)]
theorem gG.det(h:gG T i e a)(h':gG T i e b):a=b:=by have hs:=h.sign.trans h'.sign.symm;refine pq (h.key.trans h'.key.symm) ?_ hs (h.held.trans h'.held.symm);have c:=h.seen;rw[hs]at c;exact c.det h'.seen
theorem oW.det(h:oW T r L ro)(h':oW T r L' y):L=L'/\ro=y:=by
 induction h with
 |tup O f M h1 hl h3 ok=>
  refine(let γ:Prop:=_;(?_:γ));cases h' with
  |tup j d M' P K! R o=>
   rw[f]at d;cases d;refine⟨List.ext_getElem? λi=>?_,rfl⟩;rcases dp i O.length with q|q;.have z:L[i]?=some L[i]:=au (by omega);have A:L'[i]?=some L'[i]:=au (by omega);have C:=au q;simp only[z,A,(ok i _ _ C z).det (o i _ _ C A)]
   .rw[b9 (by omega),b9 (by omega)]|arr e s d=>rw[f]at d;exact xc Row.ctorIdx d rfl
 |arr e s f Z a b c K=>cases h' with|tup j d=>rw[f]at d;exact xc Row.ctorIdx d rfl|arr e' s' d l G I N E=>rw[f]at d;cases d;refine⟨?_,rfl⟩;simp only[Z,l,pq (c.trans N.symm) (K.det E) (a.trans G.symm) (b.trans I.symm)]
noncomputable def eB(U J:Nat)(B:ab W)(m Z:Nat):Piece->Piece|.prim w=>.prim w|.obj L=>.obj (gO (L.map (et U J B m Z)))|.lst L ro=>.lst (L.map (gF U J B m)) (mC Z ro)
noncomputable def oj(L:ab Slot):Prop:=(L.map λs=>eZ s.key).Nodup/\∀s∈L,∀a∈s.key,a<128
theorem nz(h:(L.map (·.key)).Nodup)(h':(L'.map (·.key)).Nodup)(e:∀s,s∈L↔s∈L'):gO L=gO L':=FW (pj h) (pj h') λs=>by rw[nx,nx,e]
theorem mw.names(o:mw T ps E ni A b d):∀s∈(ps.filter j7).map A++b++d,eZ s.key=s.key/\∀a∈s.key,a<128:=λs hs=>o.ind hs (M:=λs=>eZ s.key=s.key/\∀a∈s.key,a<128) (λz _ _ P=>by
 rw[P.key];refine⟨rfl,λa e=>?_⟩;rcases ah.mp e with h|h;.rw[h];decide
 .rcases aJ.mp h with h|h;.exact P.c a h
  .rw[kB h];decide) λq s h _=>by rcases h with h|h<;>rw[h.2]<;>exact⟨rfl,by decide⟩
theorem tv.names(o:tv T r L ps E ni A b c):oj L:=by have h:∀s∈L,eZ s.key=s.key/\∀a∈s.key,a<128:=λs hs=>o.o.names s ((o.mem s).mp hs);refine⟨?_,λs hs=>(h s hs).2⟩;rw[bF λs hs=>(h s hs).1];exact o.nd
theorem ua{U J m Z:Nat}{B:ab W}(h:eE T r p)(h':eE T r p'):eB U J B m Z p=eB U J B m Z p':=by
 induction p using Piece.casesOn with
 |prim w=>induction p' with|prim K=>rw[h.1.det h'.1]|obj L=>obtain⟨f,E,I,A,y,C,o⟩:=h';rw[o.r]at h;exact h.1.elim|lst L ro=>cases h'.2with|tup j b=>rw[b]at h;exact h.1.elim|arr e s b=>rw[b]at h;exact h.1.elim
 |obj L=>
  obtain⟨f,E,I,A,y,C,o⟩:=h;induction p' using Piece.casesOn with
  |prim K=>rw[o.r]at h';exact h'.1.elim|obj L'=>
   refine(let γ:Prop:=_;(?_:γ));obtain⟨Xt,c!,a,l,M,N,c⟩:=h';have e:=o.r.symm.trans c.r;cases e;have O:(f.filter j7).map A=(f.filter j7).map l:=bF λz d=>by rw[aO]at d;exact(o.o.pr z d.1 d.2).det (c.o.pr z d.1 d.2)
   have R:∀s,s∈L↔s∈L':=λs=>by rw[o.mem,c.mem,(o.o.i1.det c.o.i1),(o.o.i2.det c.o.i2),O]
   show Piece.obj _=Piece.obj _;congr 1;have G:∀{L:ab Slot},oj L->((L.map (et U J B m Z)).map (·.key)).Nodup:=by intro L P;rw[aK];simp only[a8,fy];exact P.1
   refine nz (G o.names) (G c.names) λs=>?_;simp only[af,R]|lst L' ro=>rw[o.r]at h';cases h'.2with|tup j b=>exact xc Row.ctorIdx b rfl|arr e s b=>exact xc Row.ctorIdx b rfl
 |lst L ro=>
  induction p' using Piece.casesOn with
  |prim K=>cases h.2with|tup j b=>rw[b]at h';exact h'.1.elim|arr e s b=>rw[b]at h';exact h'.1.elim
  |obj L'=>obtain⟨f,E,I,A,y,C,o⟩:=h';rw[o.r]at h;cases h.2with|tup j b=>exact xc Row.ctorIdx b rfl|arr e s b=>exact xc Row.ctorIdx b rfl
  |lst L' R!=>obtain⟨rfl,rfl⟩:=h.2.det h'.2;rfl
theorem Tm.row(G:Good g T)(S:Tm T x U J B):∃r,T[x]?=some r/\kc r≠15:=by
 have l:∀{f:Nat}{k:ab W},K0 T f k->∃r,T[f]?=some r/\kc r≠15:=by
  intro f k K;have d:=K.lt;have b:=au d;generalize T[f]=r at b;refine i12 r b (λe=>?_);have o:∀y,r≠.jV y:=by intro y c;subst c;cases e
  refine iE (K.to f (by rw[eO b (by intro c;subst c;rw[G.at (i:=2) rfl]at b;obtain rfl:=sI b;exact ax e (by decide)) o];simp)) λA w j z _=>?_;rw[b]at j;obtain rfl:=sI j;clear o b;rcases r with⟨⟩<;>first|(cases e;done)|exact z.elim
 rcases S with⟨_,s⟩|⟨_,s⟩;.
  rcases s with⟨_,rfl⟩|⟨_,s⟩|⟨_,s⟩|⟨_,s⟩;.exact i12 _ (G.at rfl) (by decide)
  all_goals exact⟨_,s,by simp[kc]⟩
 .rcases s with⟨_,s⟩|⟨_,f,_,s⟩|⟨_,s⟩|⟨_,f,_,s⟩;.exact l s
  .exact i12 _ s (by simp[kc])
  .exact l s
  .exact i12 _ s (by simp[kc])
noncomputable def jR(T:ab Row)(x U J:Nat)(B:ab W)(over:Nat):Prop:=(U=0/\T[x]?=some (.idx over 16))\/(U≠0/\Tm T x U J B)
theorem jR.pre(h:T<+:T')(s:jR T x U J B over):jR T' x U J B over:=by
 rcases s with⟨a,b⟩|⟨a,b⟩;.exact .inl ⟨a,fQ h b⟩
 .exact .inr ⟨a,b.pre h⟩
theorem jR.tm(s:jR T x U J B over):U=0\/Tm T x U J B:=s.imp (·.1) (·.2)
theorem vi(G:Good g T)(S:jR T x U J B over)(h:over=wh\/over=j):Runs 2 652 [eb,.d (eJ Q as x m ro),.d (nD wh),.d (nD j)] T (.d (.bool (decide (U=0)))) T:=by
 intro n wm F X;rcases S with⟨rfl,S⟩|⟨l,S⟩;.
  have e:=iD (T:=T) (t:=over);have s:D.eqv (gE (.param 0)) (.tup [.int 10,.int 0])=some true:=by exact(vf).trans (ag some (ay rfl))
  have b:fZ (.ref 2) (nD 16) (hs F T X)=some (.d (gE (.param 0))):=by simp[(G.at (i:=16) rfl)]
  rcases h with rfl|rfl;.exact wk jv dT [sv 5 (fR F X S),sv 9 b,dR 11 (e n (11+X.length) F X),sb 1 (show f6 ac8 (nD over) (V.d (nD over)) (hs F T X)=some true by simp),dR 1 (dU F X (D.bool true) T)]
  .by_cases f:(over:Int)=wh;.exact wk jv dT [sv 5 (fR F X S),sv 9 b,dR 11 (e n (11+X.length) F X),sb 1 (S7 f),dR 1 (dU F X (D.bool true) T)]
   .exact wk jv dT [sv 5 (fR F X S),sv 9 b,dR 11 (e n (11+X.length) F X),sb 1 (eA f),sb 2 (show f6 ac8 (nD over) (V.d (nD over)) (hs F T X)=some true by simp),dR 0 (dU F X (D.bool true) T)]
 .refine d9 (S.row G) λr o y=>?_;have c:¬(kc r:Int)=15:=by lia
  exact(wk (r:=(V.d (D.bool false),hs F T X)) jv dT [sv 5 (fR F X o),sv 1 (show fZ (V.d (gE r)) (D.int 0) (hs F T X)=some (V.d (D.int ↑(kc r)))by simp),sb 1 (E8 c),dR 1 (dU F X (D.bool false) T)]).trans (by simp[l])
end
section
variable{F:ab Int}{T T' T1 T2:ab Row}{X Y:ab Cell}{n wm:Nat}{H:Hp}{i κ t g q over wh:Nat}{k:ab W}{Q m ro x U J:Nat}{as:Int}{B:ab W}{kw:W}{p p':Piece}{r:Row}{L L':ab Slot}
set_option tactic.hygienic true in noncomputable def gU(T:ab Row)(r:Row):Piece->Prop|.obj L=>∃ps E ni A L1 L2,tv T r L ps E ni A L1 L2/\Clean ps/\L=ps.map A++L2++L1|p=>eE T r p
theorem gU.QO(h:gU T r p):eE T r p:=by induction p using Piece.casesOn with|obj L=>obtain⟨d,E,ni,A,b,c,o,_⟩:=h;exact⟨d,E,ni,A,b,c,o⟩|prim w=>exact h|lst L ro=>exact h
theorem gU.pre(h:T<+:T')(s:gU T r p):gU T' r p:=by induction p using Piece.casesOn with|prim w=>exact s|obj L=>obtain⟨e,E,ni,A,b,d,o,c⟩:=s;exact⟨e,E,ni,A,b,d,⟨o.r,o.o.pre h,o.mem,o.nd⟩,c⟩|lst L ro=>exact eE.pre (p:=.lst L ro) h s
theorem ux(h:Clean ps):ps.filter j7=ps:=by refine acj.mpr ?_;intro z b;have:=h.fl z b;simp[j7];lia
noncomputable def qU(L:ab Slot):Nat:=(L.filter λs=>decide (s.sign<2)).length
theorem fg.Rj(s:fg T M sl):M.rows.length<=qU sl:=by unfold qU;induction s with|nil=>simp|@row M sl p s _ r ih=>have:=r.sign;rw[cJ];simp[show s.sign<2by lia];exact ih|Ob _ k r ih=>rw[cJ];simp[r.sign];exact ih|OK _ k r ih=>rw[cJ];simp[r.sign];exact ih
theorem vm:(et U J B m ro s).sign<2↔s.sign<2:=by
 unfold et;simp only;split;.
  rename_i h;simp only[h,iff_true];unfold gP;split;.simp
  .split<;>simp
 .rename_i h;simp only[h]
theorem xS:∀{L:ab Slot},qU (L.map (et U J B m ro))=qU L|[]=>rfl|s::L=>by have ih:=xS (L:=L);unfold qU at ih⊢;simp only[aH,cV,vm];split<;>simp[ih]
theorem Me(h:∀a∈w,a<128):∀a∈eZ w,a<128:=by
 intro a b;unfold eZ at b;split at b;.
  simp only[ah,aJ,ai,a6]at b;rcases b with rfl|b|rfl;.decide
  .exact h a b
  .decide
 .exact h a b
theorem wt{es:ab Ent}(G:Good (g+1+3*es.length) T)(E:∀e∈es,jY T U e/\Ky T e.κ e.s.key)(hb:U=0\/Tm T x U J B)(f:as=-1\/as=16)(y:oj (es.map (·.s)))(hl:es.length<64)(h5:qU (es.map (·.s))<=5):∃t' T',cF (n+12) wm 748 [eb,.d (eJ Q as x m ro),.d (.lst (es.map Ent.d)),.d (.bool (decide (U=0)))] (hs F T X)=some (.d (nD t'),hs F T' X)/\Good g T'/\T<+:T'/\∃I,T'[t']?=some I/\gU T' I (.obj (gO ((es.map (·.s)).map (et U J B m ro)))):=by
 obtain⟨t',T',c,K,p',M,z,j⟩:=Gj (F:=F) (X:=X) (n:=n) (wm:=wm) (Q:=Q) (m:=m) (ro:=ro) G (λe o=>(E e o).1) hb f (by have:=y.1;rw[aK]at this;exact this) hl (λe o=>(E e o).2);have R:(es.map λe=>et U J B m ro e.s)=(es.map (·.s)).map (et U J B m ro):=by rw[aK];rfl
 rw[R]at j;have b:(((es.map (·.s)).map (et U J B m ro)).map (·.key)).Nodup:=by rw[aK];simp only[a8,fy];exact y.1
 obtain⟨A,N,P,O,hs,C⟩:=z8 j b (by have:=j.Rj;rw[xS]at this;lia) (λs hs a f=>by obtain⟨s0,Z,rfl⟩:=af.mp hs;rw[fy]at f;exact Me (y.2 s0 Z) a f);refine⟨t',T',c,K,p',_,z,_,_,_,A,N,P,⟨rfl,O,λs=>?_,?_⟩,C,hs⟩;.
  rw[hs,ux C];simp only[aJ];constructor;.rintro((a|a)|a)<;>simp[a]
  .rintro((a|a)|a)<;>simp[a]
 .have:∀{l:ab Slot},(l.map (·.key)).Nodup->((gO l).map (·.key)).Nodup:=by intro l h;rw[abk,bW];exact aab (λh=>h.2) (pj h)
  exact this b
theorem Qi(o:mw T ps E ni A K M):(((ps.filter j7).map A++K++M).map (·.key)).Nodup:=by
 have f:∀z∈ps.filter j7,(A z).key=34::(z.1++[34]):=λz c=>by have c:=aO.mp c;exact(o.pr z c.1 c.2).key
 have I:∀{z:mg}{v:W},z∈ps.filter j7->v.head?≠some 34->(A z).key≠v:=λc h e=>h (by rw[←e,f _ c];rfl);rw[aC,aC,a7,a7];refine⟨⟨?_,HK (by rw[ak];exact o.i1.len),?_⟩,HK (by rw[ak];exact o.i2.len),?_⟩;.rw[aK,abk,bW];refine c8 (λ{a b}d l G e=>?_) (cp j7 ((bW.mp o.nd)));rw[acm,acm,f a d,f b l]at e;exact G (List.append_cancel_right (br e).2)
 .intro a d b l e;refine d9 (af.mp d) λs hs h=>?_;refine d9 (af.mp l) λN j y=>?_;refine d9 (af.mp hs) λz c C=>?_;rw[←h,←y,←C,o.i1.key j]at e;exact I c (by decide) e
 .intro a d b l e;refine d9 (af.mp l) λN j y=>?_;rw[←y,o.i2.key j]at e;rcases aJ.mp d with d|d;.refine d9 (af.mp d) λs hs h=>?_;refine d9 (af.mp hs) λz c C=>?_;rw[←h,←C]at e;exact I c (by decide) e
  .refine d9 (af.mp d) λs hs h=>?_;rw[←h,o.i1.key hs]at e;exact ax e (by decide)
theorem od{es:ab Ent}(O:tv T r L ps E ni A d e)(b:es.map (·.s)=(ps.filter j7).map A++d++e):es.length<=7/\qU (es.map (·.s))<=5/\(∀s,s∈es.map (·.s)↔s∈L)/\oj (es.map (·.s)):=by
 have c:((ps.filter j7).map A).length<=5:=by rw[ak];exact ar (aY _ _) O.o.len
 rw[←ak (·.s),b];refine⟨?_,?_,λs=>(O.mem s).symm,?_⟩;.rw[ao,ao];exact aaG (aaG c O.o.i1.len) O.o.i2.len
 .unfold qU;rw[cJ,cJ,O.o.i1.Xp,O.o.i2.Xp,aL,aL];exact ar (aY _ _) c
 .have h:=O.o.names;exact⟨by rw[bF λs hs=>(h s hs).1];exact Qi O.o,λs hs=>(h s hs).2⟩
theorem D9(G:Good g T)(h:T[q]?=some r)(b:T[j]?=some R)(c:r≠R):q≠j:=by intro e;subst e;rw[h]at b;obtain rfl:=sI b;exact c rfl
theorem eE.rows(h:eE T r p):(∃w,ek r w/\w≠fW/\w≠ea)\/kc r=8\/kc r=12\/kc r=11:=by induction p using Piece.casesOn with|prim w=>exact .inl ⟨w,h⟩|obj L=>refine h.elim λ_ h=>h.elim λ_ h=>h.elim λ_ h=>?_;exact XY h λ_ _ _ o=>.inr (.inl (o.r▸rfl))|lst L ro=>cases h.2with|tup c b=>exact .inr (.inr (.inl (b▸rfl)))|arr e s b=>exact .inr (.inr (.inr (b▸rfl)))
theorem eE.W4(h:eE T (.key s) p):s∈[d6,gx,d0,dZ]:=by
 rcases h.rows with h|h;.
  refine j6 h λw b c d=>?_;rw[b.2]at c d;rcases Xe b.1with e|e|e;.exact ax e c
  .exact ax e d
  .rcases e with e|e|e|e<;>rw[e]<;>decide
 .exact ax h (by decide:¬(1=8\/1=12\/1=11))
theorem eE.ne(G:Good g T)(d:T[q]?=some r)(P:eE T r p)(b:T[j]?=some (.key s))(c:s∉[d6,gx,d0,dZ]):q≠j:=D9 G d b λe=>c ((e▸P:eE T (.key s) p).W4)
theorem eE.Vy(P:eE T r p):r≠.jV ps:=λe=>by
 subst e;rcases P.rows with h|h;.exact h.elim λ_ h=>h.1
 .exact ax h (by decide:¬(6=8\/6=12\/6=11))
theorem D2(G:Good g T)(b:T[q]?=some (.key s))(h:s∈[d6,gx,d0,dZ]):q<8/\(q=3\/q=4\/q=5\/q=6\/q=7):=by
 have f:∀{j:Nat},T[j]?=some (.key s)->j<8/\(j=3\/j=4\/j=5\/j=6\/j=7)->q<8/\(q=3\/q=4\/q=5\/q=6\/q=7):=λh k=>G.id b h▸k;rcases XQ h with rfl|rfl|rfl|rfl;.exact f (G.at (i:=4) rfl) (by decide)
 .exact f (G.at (i:=5) rfl) (by decide)
 .exact f (G.at (i:=6) rfl) (by decide)
 .exact f (G.at (i:=7) rfl) (by decide)
noncomputable def Nc(Q:Nat)(as:Int)(x m ro q wh:Nat)(k:D):Loc:=[some eb,some (.d (eJ Q as x m ro)),some (.d (nD q)),some (.d (nD wh)),some d7,some (.d (nD q)),some (.d k),none,none,none]
theorem rp(G:Good g T)(b:T[q]?=some r)(P:eE T r p)(o:kc r≠6)(c:kc r≠18)(f:o6 r=true)(n wm:Nat)(F:ab Int)(X:ab Cell)(Q:Nat)(as:Int)(x m ro wh:Nat){K:Prop}(κ:(∀{t' T'},Ii q r=false->(d5 ((nV.drop 10).map BS.run) ⟨cF (n+12),11+X.length⟩ (Nc Q as x m ro q wh (nD (kc r))) (hs F T X)).bind (fin (11+X.length))=some (.d (nD t'),hs F T' X)->cF (n+13) wm 800 [eb,.d (eJ Q as x m ro),.d (nD q),.d (nD wh)] (hs F T X)=some (.d (nD t'),hs F T' X))->(Ii q r=true->cF (n+13) wm 800 [eb,.d (eJ Q as x m ro),.d (nD q),.d (nD wh)] (hs F T X)=some (.d (nD q),hs F T X))->K):K:=by
 have z:=iD (T:=T) (t:=q) (n+11) (11+X.length) F X;have A:=vw b (n+11) (11+X.length) F X;have R:=kK b f (n+11) (11+X.length) F X;have y:=Np b f (λs e=>(D2 G (e▸b) (eE.W4 (e▸P))).1) (n+9) (11+X.length) F X;have l:=hH (P.ne G b (G.at (i:=13) rfl) (by decide));have I:=hH (P.ne G b (G.at (i:=2) rfl) (by decide));have C:=hH (P.ne G b (G.at (i:=0) rfl) (by decide));have E:=hH (P.ne G b (G.at (i:=1) rfl) (by decide));have j:=hH (P.ne G b (G.at (i:=10) rfl) (by decide));have o:=hH o;have c:=hH c;clear G b P f;generalize kc r=k at*;refine κ (λ{t' T'}e h=>?_) λe=>?_;.rw[e]at y;have M:d5 ((nV.take 10).map BS.run) ⟨cF (n+12),11+X.length⟩ (uy 10 [eb,.d (eJ Q as x m ro),.d (nD q),.d (nD wh)]) (hs F T X)=some (.er,Nc Q as x m ro q wh (nD k),hs F T X):=wq [dR 3 z,sb 1 (eA l),sb 2 (eA I),dR 3 A,sb 1 (eA o),sb 2 (eA c),dR 3 R,sb 2 (eA C),sb 2 (eA E),sb 2 (eA j),dR 3 y];rw[gX,ip rfl,dT];exact(ag (ck · (fin (11+X.length))) (gK M rfl)).trans h
 .rw[e]at y;exact wk gX dT [dR 3 z,sb 1 (eA l),sb 2 (eA I),dR 3 A,sb 1 (eA o),sb 2 (eA c),dR 3 R,sb 2 (eA C),sb 2 (eA E),sb 2 (eA j),dR 3 y,dR 1 (dU F X (nD q) T)]
theorem eE.Ud(P:eE T r p):kc r≠18:=λe=>ax (e▸MG) (by decide)
theorem eE.k6(P:eE T r p):kc r≠6:=λe=>by induction r using Row.casesOn with|jV b=>exact P.Vy rfl|_=>exact xc id e rfl
theorem C0(G:Good (g+40) T)(b:T[q]?=some r)(P:eE T r (.prim w)):cF (n+13) wm 800 [eb,.d (eJ Q as x m ro),.d (nD q),.d (nD wh)] (hs F T X)=some (.d (nD q),hs F T X):=by refine rp G b P P.k6 P.Ud P.1.simp n wm F X Q as x m ro wh λ_ h=>h ?_;induction r using Row.casesOn with|key s=>exact ay (D2 G b P.W4).2|bool _ _=>rfl|str _=>rfl|num _=>rfl|_=>exact(P.1).elim
theorem Hv(G:Good (g+40) T)(C:T[q]?=some r)(O:tv T r L ps E ni A L1 L2)(S:jR T x U J B over)(z:over=wh\/over=q)(N:as=-1\/as=16):∃t' T',cF (n+13) wm 800 [eb,.d (eJ Q as x m ro),.d (nD q),.d (nD wh)] (hs F T X)=some (.d (nD t'),hs F T' X)/\Good g T'/\T<+:T'/\∃j,T'[t']?=some j/\gU T' j (.obj (gO (L.map (et U J B m ro)))):=by
 have P:eE T r (.obj L):=⟨ps,E,ni,A,L1,L2,O⟩;have a:=vi (Q:=Q) (as:=as) (m:=m) (ro:=ro) G S z (n+10) (11+X.length) F X;refine rp G C P P.k6 P.Ud (by rw[O.r];rfl) n wm F X Q as x m ro wh λhd _=>?_;have sb:=fR F X C;have hd:=λ{t' T'}=>hd (t':=t') (T':=T') (by rw[O.r];rfl);rw[show kc r=8from by rw[O.r];rfl]at hd;refine Uz (xV (F:=F) (X:=X) (n:=n+8) (wm:=11+X.length) (g:=g+30) (U:=U) (G.le (by lia)) (O.r▸C) O.o) λes T1 K G1 Z l hx _=>?_;refine CE (od O hx) λR I c b=>?_;refine jr (wt (F:=F) (X:=X) (n:=n) (wm:=11+X.length) (Q:=Q) (m:=m) (ro:=ro) (g:=g) (G1.le (by lia)) l (S.tm.imp id λh=>h.pre Z) N b (by lia) I) λt' T' M G2 p2 y=>?_;have e:gO ((es.map (·.s)).map (et U J B m ro))=gO (L.map (et U J B m ro)):=by
  refine nz ?_ ?_ λs=>by simp only[af (f:=et U J B m ro),c]
  .rw[aK];simp only[a8,fy];exact b.1
  .rw[aK];simp only[a8,fy];exact O.names.1
 refine qW t' T' (hd ?_) G2 (Z.trans p2) (d9 y λj h1 h2=>i12 j h1 (e▸h2));rcases N with rfl|rfl;.exact wf [dR 4 a,sv 2 sb,dR 26 K,dR 2 M,dR 0 (dU F X (nD t') T')]
 .exact wf [dR 4 a,sv 2 sb,dR 20 K,dR 2 M,dR 0 (dU F X (nD t') T')]
theorem Gk(G:Good (g+40) T)(c:T[q]?=some (.tup es R))(M:my es)(f:∀e,es≠[(e,2)])(l:L.length=es.length)(j:es.length<=3)(o:∀(i:Nat)(e:Nat×Nat)(s:Slot),es[i]?=some e->L[i]?=some s->gG T i e s)(E:R<=1)(S:jR T x U J B over)(b:over=wh\/over=q):∃t' T',cF (n+13) wm 800 [eb,.d (eJ Q (-1) x m ro),.d (nD q),.d (nD wh)] (hs F T X)=some (.d (nD t'),hs F T' X)/\Good g T'/\T<+:T'/\ti T' t' (L.map (gF U J B m)) (mC ro R):=by have P:eE T (.tup es R) (.lst L R):=⟨E,.tup es rfl M f l j o⟩;refine rp G c P P.k6 P.Ud (aA.mpr λe C=>ay (abf (M.le e C))) n wm F X Q (-1) x m ro wh λhd _=>?_;refine jr (O2 (F:=F) (X:=X) (n:=n+1) (wm:=11+X.length) (Q:=Q) (as:=-1) (m:=m) (ro:=ro) (g:=g) (G.le (by lia)) c M f l j o S.tm) λt' T' A y I z=>?_;exact qW t' T' (hd rfl (wf [dR 4 (vi (Q:=Q) (as:=-1) (m:=m) (ro:=ro) G S b (n+10) (11+X.length) F X),sv 2 (fR F X c),dR 20 A,dR 0 (dU F X (nD t') T')])) y I z
theorem DS(G:Good (g+40) T)(f:T[q]?=some (.arr e R))(j:s.sign=2)(z:s.held=0)(b:s.key=dZ)(K:Kd T e s.kind)(A:R<=1)(S:jR T x U J B over)(c:over=wh\/over=q):∃t' T',cF (n+13) wm 800 [eb,.d (eJ Q (-1) x m ro),.d (nD q),.d (nD wh)] (hs F T X)=some (.d (nD t'),hs F T' X)/\Good g T'/\T<+:T'/\ti T' t' [gF U J B m s] (mC ro R):=by have P:eE T (.arr e R) (.lst [s] R):=⟨A,.arr e s rfl rfl j z b K⟩;refine rp G f P P.k6 P.Ud rfl n wm F X Q (-1) x m ro wh λhd _=>?_;refine jr (PW (Q:=Q) (as:=-1) (m:=m) (ro:=ro) (g:=g) (G.le (by lia)) f j b K S.tm) λt' T' y l C o=>?_;exact qW t' T' (hd rfl (wf [dR 4 (vi (Q:=Q) (as:=-1) (m:=m) (ro:=ro) G S c (n+10) (11+X.length) F X),sv 2 (fR F X f),dR 12 (y (n+3) (11+X.length) F X),dR 0 (dU F X (nD t') T')])) l C o
theorem AZ(G:Good (g+40) T)(j:T[q]?=some r)(P:eE T r p)(S:jR T x U J B over)(f:over=wh\/over=q)(y:as=-1\/(as=16/\∀L ro,p≠.lst L ro)):∃t' T',cF (n+13) wm 800 [eb,.d (eJ Q as x m ro),.d (nD q),.d (nD wh)] (hs F T X)=some (.d (nD t'),hs F T' X)/\Good g T'/\T<+:T'/\∃z,T'[t']?=some z/\gU T' z (eB U J B m ro p):=by induction p using Piece.casesOn with|prim w=>exact qW q T (C0 G j P) (G.le (aG _ _)) (aq _) (i12 r j P)|obj L=>refine P.elim λ_ h=>h.elim λ_ h=>h.elim λ_ h=>?_;exact XY h λ_ _ _ O=>Hv G j O S f (y.imp id (·.1))|lst L R=>obtain rfl:=y.resolve_right λh=>h.2 _ _ rfl;cases P.2with|tup Z o M A I C N=>subst o;refine jr (Gk (F:=F) (X:=X) (n:=n) (wm:=wm) (Q:=Q) (m:=m) (ro:=ro) G j M A I C N P.1 S f) λt' T' a b c l=>?_;exact qW t' T' a b c (AP l (vC P.1))|arr e s o E a b c K=>subst o E;refine jr (DS (F:=F) (X:=X) (n:=n) (wm:=wm) (Q:=Q) (m:=m) (ro:=ro) G j a b c K P.1 S f) λt' T' a b c l=>?_;exact qW t' T' a b c (AP l (vC P.1))
end
noncomputable def heldW(h:Nat):W:=match h with|1=>By|2=>QP|3=>By++QP|_=>[]
noncomputable def mD(s:Nat):W:=if s=1then[63]else[]
noncomputable def qE(s:Nat):W:=if s=2then[46,46,46]else[]
noncomputable def qL(s:Slot):W:=heldW s.held++s.key++mD s.sign++[58]++iQ s.kind
noncomputable def jS(s:Slot):W:=qE s.sign++iQ s.kind++mD s.sign
noncomputable def eV:Piece->W|.prim w=>w|.obj L=>[123]++gf [59] (L.map qL)++[125]|.lst L ro=>(if ro=1then By else[])++[91]++gf [44] (L.map jS)++[93]
noncomputable def rT(T:ab Row)(r:Row)(w:W):Prop:=∃p,gU T r p/\w=eV p
section
variable{F:ab Int}{T T' T1 T2:ab Row}{X Y:ab Cell}{n wm:Nat}{H:Hp}{i κ t g q over wh:Nat}{k:ab W}{Q m ro x U J:Nat}{as:Int}{B:ab W}{kw:W}{p p':Piece}{r:Row}{L L':ab Slot}
theorem g0(h:∀w,p≠.prim w):brk (eV p):=by
 induction p with
 |prim w=>exact ax rfl (h w)|obj L=>exact .inr (.inr ⟨_,rfl⟩)|lst L ro=>
  by_cases b:ro=1;.refine .inr (.inl ⟨gf [44] (L.map jS)++[93],?_⟩);rw[eV,b];rfl
  .refine .inl ⟨gf [44] (L.map jS)++[93],?_⟩;simp[eV,b]
theorem SO:tG (rT T):=n9.more λr w h=>by refine(let c:Prop:=_;(?_:c));obtain⟨p,h,rfl⟩:=h;induction p using Piece.casesOn with|prim w=>exact .inl h.1|obj L=>obtain⟨y,E,l,A,d,f,o,_⟩:=h;exact .inr ⟨g0 (by simp),by rw[o.r];trivial⟩|lst L ro=>refine .inr ⟨g0 (by simp),?_⟩;cases h.2with|tup j b=>rw[b];trivial|arr e s b=>rw[b];trivial
theorem rT.pre(h:T<+:T')(s:rT T r w):rT T' r w:=by obtain⟨p,b,c⟩:=s;exact⟨p,b.pre h,c⟩
theorem nt(h:¬brk w)(e:eV p=w):p=.prim w:=by induction p using Piece.casesOn with|prim v=>rw[←e];rfl|obj L=>exact ax (e▸g0 (by simp)) h|lst L ro=>exact ax (e▸g0 (by simp)) h
theorem KC(h:w=fW\/w=ea\/w=d0\/w=dZ):¬brk w:=by
 intro b;have:=iq b;rcases h with rfl|rfl|rfl|rfl;.exact this.2.2.1 rfl
 .exact this.2.2.2.1 rfl
 .exact this.2.2.2.2.1 rfl
 .exact this.2.2.2.2.2.1 rfl
structure tD(ps:ab Piece):Prop where
 any:.prim fW∉ps
 DK:.prim ea∉ps
 str:.prim d0∈ps->∀w,.prim w∈ps->isLit w=false
 num:.prim dZ∈ps->∀w,.prim w∈ps->i9 w=false
theorem tD.kept(N:tD ps)(b:p∈ps):eV p∈ei (ps.map λp=>[eV p]):=by
 have f:∀w,(∃k∈ps.map (λp=>[eV p]),w∈k)↔∃p∈ps,w=eV p:=by
  intro w;simp only[af];constructor;.rintro⟨_,⟨p,h,rfl⟩,j⟩;simp only[ah,ai,a6]at j;exact⟨p,h,j⟩
  .rintro⟨p,h,rfl⟩;exact⟨_,⟨p,h,rfl⟩,(.head _)⟩
 refine eM.mpr ?_;simp only[f];refine⟨⟨p,b,rfl⟩,?_,?_,?_,?_⟩;.rintro⟨p',h,e⟩;rw[nt (KC (.inl rfl)) e.symm]at h;exact ax h N.any
 .rintro _⟨p',h,e⟩;rw[nt (KC (.inr (.inl rfl))) e.symm]at h;exact ax h N.DK
 .intro c;obtain⟨p',h,e⟩:=c;rw[nt (KC (.inr (.inr (.inl rfl)))) e.symm]at h;cases p with|prim w=>exact N.str h w b|obj L=>exact(iq (g0 (by simp))).2.2.2.2.2.2.2.1|lst L ro=>exact(iq (g0 (by simp))).2.2.2.2.2.2.2.1
 .intro d;obtain⟨p',h,e⟩:=d;rw[nt (KC (.inr (.inr (.inr rfl)))) e.symm]at h;cases p with|prim w=>exact N.num h w b|obj L=>exact(iq (g0 (by simp))).2.2.2.2.2.2.2.2|lst L ro=>exact(iq (g0 (by simp))).2.2.2.2.2.2.2.2
theorem tD.QH(N:tD ps):tD (ps.map (eB U J B m ro)):=by
 have h:∀w,.prim w∈ps.map (eB U J B m ro)↔.prim w∈ps:=by
  intro w;constructor;.intro h;refine d9 (af.mp h) λp d b=>?_;induction p using Piece.casesOn with|prim v=>cases b;exact d|obj L=>exact xc Piece.ctorIdx b rfl|lst L ro=>exact xc Piece.ctorIdx b rfl
  .intro h;exact af.mpr ⟨_,h,rfl⟩
 exact⟨λq=>N.any ((h _).mp q),λq=>N.DK ((h _).mp q),λq w c=>N.str ((h _).mp q) w ((h _).mp c),λq w c=>N.num ((h _).mp q) w ((h _).mp c)⟩
structure NInv(T:ab Row)(t:Nat)(ps:ab Piece):Prop where
 lt:t<T.length
 nd:(parts T t).Nodup
 to:∀q∈parts T t,∃p∈ps,hX T q p
 mB:∀p∈ps,∃q∈parts T t,hX T q p
 wx:tD ps
 l1:(parts T t).length<=4
 l2:ps.length<=4
 one:∀p,ps=[p]->parts T t=[t]
structure qS(T:ab Row)(t:Nat)(ps:ab Piece):Prop extends NInv T t ps where
 sh:ShQ (rT T) T t (ei (ps.map λp=>[eV p]))
 ne:t≠0/\t≠1/\t≠10
theorem NInv.pre(h:T<+:T')(s:NInv T t ps):NInv T' t ps:=by
 have e:=ke h s.lt;refine⟨bZ s.lt h.length_le,e▸s.nd,λq f=>?_,λp d=>?_,s.wx,(sY e s.l1),s.l2,(sY e s.one)⟩;.refine d9 (s.to q (e▸f)) λp b c=>?_;exact i12 p b (c.pre h)
 .refine d9 (s.mB p d) λq b c=>?_;exact i12 q (e▸b) (c.pre h)
theorem pS(G:Good g T)(b:T[q]?=some r)(P:eE T r p):parts T q=[q]/\q≠0/\q≠1/\q≠10/\q≠2:=by have c:=P.ne G b (G.at (i:=2) rfl) (by decide);exact⟨eO b c λ_=>P.Vy,P.ne G b (G.at rfl) (by decide),P.ne G b (G.at rfl) (by decide),P.ne G b (G.at rfl) (by decide),c⟩
theorem o7(G:Good g T)(d:T[q]?=some r)(j:∀p∈ps,gU T r p)(y:ps≠[])(N:tD ps)(A:ps.length<=4):qS T q ps:=by
 obtain⟨f,c⟩:∃f,f∈ps:=by cases ps with|nil=>exact ax rfl y|cons a l=>exact⟨a,by simp⟩
 obtain⟨e,C,E,s,K⟩:=pS G d (j f c).QO;refine⟨⟨gJ d,by rw[e];simp,λI b=>?_,λp h=>⟨q,by rw[e];simp,r,d,(j p h).QO⟩,N,by rw[e];simp,A,λ_ _=>e⟩,⟨gJ d,je,by rw[e];simp,λI b=>?_,λw o=>?_⟩,C,E,s⟩;.rw[e]at b;simp only[ah,ai,a6]at b;subst b;exact⟨f,c,r,d,(j f c).QO⟩
 .rw[e]at b;simp only[ah,ai,a6]at b;subst b;exact⟨r,_,d,⟨f,j f c,rfl⟩,N.kept c⟩
 .rw[eM]at o;obtain⟨k,z,o⟩:=o.1;obtain⟨p,h,rfl⟩:=af.mp z;simp only[ah,ai,a6]at o;exact⟨q,by rw[e];simp,r,d,p,j p h,o⟩
theorem uq{z:Type}{elt:ME}{tg:Tg}{c:Cx}{e:z->D}{L:Loc}(w:Nat){R:ab Row->z->Nat->Prop}(A:∀{T T' x t},T<+:T'->R T x t->R T' x t)(N:∀x O,hK tg (e x) (L++[O])=some (L++[some (.d (e x))])):∀(Z:ab z){T:ab Row}{O:ae V},Good (g+w*Z.length) T->(∀x∈Z,∀j T',T<+:T'->Good (j+w) T'->∃t' f,eD elt c (L++[some (.d (e x))]) (hs F T' X)=some (nD t',hs F f X)/\Good j f/\T'<+:f/\R f x t')->∀{l:Prop},(∀T'(ts:ab Nat),fa elt tg (gM []) c (Z.map e) (L++[O]) (hs F T X)=some (ts.map nD,hs F T' X)->Good g T'->T<+:T'->ts.length=Z.length->(∀x∈Z,∃t∈ts,R T' x t)->(∀t∈ts,∃x∈Z,R T' x t)->l)->l:=by
 intro Z;induction Z with
 |nil=>intro T O G _ l κ;exact κ T [] rfl G (aq _) rfl (λ_ h=>kn h) λ_ h=>kn h|cons x Z ih=>
  intro T O G I l κ;refine jr (I x (.head _) (g+w*Z.length) T (aq _) (G.le (by rw[ba,Nat.mul_succ,aas];exact aV _))) λK T1 e1 M C E=>?_;refine ih (O:=some (.d (e x))) M (λy o j T' p=>I y (.tail _ o) j T' (C.trans p)) λT2 ts e2 P s l2 h1 h2=>?_;refine κ T2 (K::ts) ?_ P (C.trans s) (ag aa7 l2) (λy o=>?_) λt ht=>?_;.rw[aH,rI,N,bh,uX];refine Eq.trans (b:=(eD elt c (L++[some (.d (e x))]) (hs F T X)).bind (QX elt tg (gM []) c (Z.map e) (L++[some (.d (e x))]))) rfl ?_;rw[e1,bh,zV,e2];rfl
  .rcases ah.mp o with h|h;.exact i12 K (.head _) (h▸A s E)
   .exact d9 (h1 y h) λt a b=>i12 t (.tail _ a) b
  .rcases ah.mp ht with h|h;.exact i12 x (.head _) (h▸A s E)
   .exact d9 (h2 t h) λy a b=>i12 y (.tail _ a) b
noncomputable def RM(T:ab Row)(f:Piece->Piece)(T':ab Row)(q t':Nat):Prop:=∃b,T'[t']?=some b/\∀p,hX T q p->gU T' b (f p)
theorem Iy(G:Good (g+1+40*4) T)(I:NInv T t ps)(hr:T[t]?=some (.jV qs))(l:t≠2)(S:jR T x U J B t)(ha:as=-1\/(as=16/\∀p∈ps,∀L ro,p≠.lst L ro)):∃t' T',cF (n+14) wm 800 [eb,.d (eJ Q as x m ro),.d (nD t),.d (nD t)] (hs F T X)=some (.d (nD t'),hs F T' X)/\Good g T'/\T<+:T'/\qS T' t' (ps.map (eB U J B m ro)):=by
 have C:parts T t=qs:=by unfold parts;rw[aX l,hr]
 have U3:qs.length<=4:=C▸I.l1;refine uq (F:=F) (X:=X) (g:=g+1) (elt:=(dO 800 [(dM 0),(dM 1),(dM 10),(dM 5)]).run) (tg:=.one 10) (c:=⟨cF (n+13),11+X.length⟩) (e:=nD) (L:=[some eb,some (.d (eJ Q as x m ro)),some (.d (nD t)),some (.d (nD t)),some d7,some (.d (nD t)),some (.d (nD 6)),none,none,none]) 40 (R:=RM T (eB U J B m ro)) (λh y=>d9 y λf a b=>i12 f (fQ h a) λp A=>(b p A).pre h) (λ_ _=>rfl) qs (O:=none) (G.le (cy (acg 40 U3) _)) (λq M j T1 p1 G1=>?_) λT1 ts hc G1 p1 hlen Yp SG=>?_;.refine d9 (I.to q (C▸M)) λp A y=>?_;refine d9 y λr1 X' hP=>?_;refine jr (AZ (F:=F) (X:=X) (n:=n) (wm:=11+X.length) (Q:=Q) (as:=as) (m:=m) (ro:=ro) (g:=j) (over:=t) (wh:=t) G1 (fQ p1 X') (hP.pre p1) (S.pre p1) (.inl rfl) (ha.imp id λh=>⟨h.1,h.2 p A⟩)) λt' T2 c2 G2 K y1=>?_;refine d9 y1 λf TJ PC=>?_;refine qW t' T2 (wd [dR 4 c2]) G2 K (i12 f TJ λp1 VL=>d9 VL λr2 h3 h4=>?_);rw[X']at h3;obtain rfl:=sI h3;rw[ua h4 hP];exact PC
 have VA:∀t'∈ts,∃f p,T1[t']?=some f/\gU T1 f p/\p∈ps.map (eB U J B m ro):=by intro t' z;refine d9 (SG t' z) λq M y=>?_;refine d9 y λf o l=>?_;refine d9 (I.to q (C▸M)) λp A hP=>?_;exact Dd f _ o (l p hP) (af.mpr ⟨p,A,rfl⟩)
 have Uu:∀p∈ps.map (eB U J B m ro),∃t'∈ts,∃f,T1[t']?=some f/\gU T1 f p:=by intro p A;refine d9 (af.mp A) λp0 Yz y1=>?_;refine d9 (I.mB p0 Yz) λq M hP=>?_;refine d9 (Yp q (C▸M)) λt' z y=>?_;refine d9 y λf o l=>?_;exact i12 t' z (i12 f o (y1▸l p0 hP))
 have XF:=hH (D9 G hr (G.at (i:=13) rfl) λe=>xc Row.ctorIdx e rfl);have hf:=iD (T:=T) (t:=t) (n+12) (11+X.length) F X;have kd:=vw hr (n+12) (11+X.length) F X;have YR:=fR F X hr;have t2:=hH l;have TV:∀p',ps.map (eB U J B m ro)=[p']->aeu:=λp' h=>by refine(abc.mp h).elim λp1 h=>?_;refine d9 (I.to t (eL (I.one p1 h.1) (.head _))) λp _ y=>?_;refine d9 y λr1 o l=>?_;rw[hr]at o;exact l.Vy (sI o).symm
 have N:=I.wx.QH (U:=U) (J:=J) (B:=B) (m:=m) (ro:=ro);have l2:=I.l2;rw[←ak (eB U J B m ro)]at l2;clear I S ha hr Yp SG C G l;generalize ps.map (eB U J B m ro)=Xt at*;refine l7 (P:=rT T1) SO G1 (x:=.lst (ts.map nD)) (qs:=ts) (k:=ei (Xt.map λp=>[eV p])) (.inr rfl) (λq M=>?_) (λw hw=>?_) je (hlen▸aj U3 (by decide)) λZ T2 c2 G2 K s2 E Vo=>?_;.refine iE (VA q M) λf p o l h3=>?_;exact Dd f _ o ⟨p,l,rfl⟩ (N.kept h3)
 .refine d9 (eM.mp hw).1 λk hk hw=>?_;refine d9 (af.mp hk) λp A e=>?_;rw[←e]at hw;refine d9 (Uu p A) λt' z y=>?_;refine d9 y λf o l=>?_;exact i12 t' z (i12 f o ⟨p,l,kB hw⟩)
 have nj:∀{j:Nat}{s:W},T2[j]?=some (.key s)->j≠2->s∉[d6,gx,d0,dZ]->Z≠j:=λhj l hn e=>by refine iE (VA Z (E _ (eL (eO (e▸hj) (e▸l) λ_ h=>xc Row.ctorIdx h rfl) (.head _)))) λf p a b _=>?_;exact(b.QO.pre K).ne G2 (fQ K a) hj hn e
 refine qW Z T2 (wk gX dT [dR 3 hf,sb 1 (eA XF),sb 2 (eA t2),dR 3 kd,sv 6 YR,jX 3 hc,dR 1 (c2 (n+10) (11+X.length) F X),dR 0 (dU F X (nD Z) T2)]) G2 (p1.trans K) ⟨⟨s2.lt,s2.nd,λq M=>?_,λp A=>?_,N,ar (len_sub s2.nd E) (hlen▸U3),l2,λp' h=>(TV p' h).elim⟩,s2.imp (aq _) λ_ _ h=>h.pre K,nj (G2.at (i:=0) rfl) (by decide) (by decide),nj (G2.at (i:=1) rfl) (by decide) (by decide),nj (G2.at (i:=10) rfl) (by decide) (by decide)⟩;.refine iE (VA q (E q M)) λf p o l h3=>?_;exact i12 p h3 ⟨f,fQ K o,l.QO.pre K⟩
 .refine d9 (Uu p A) λt' z y1=>?_;refine d9 y1 λf o l=>?_;exact i12 t' (Vo t' z f _ o ⟨p,l,rfl⟩ (N.kept A)) ⟨f,fQ K o,l.QO.pre K⟩
theorem Qo(G:Good (g+1+40*4) T)(I:NInv T t ps)(S:jR T x U J B t)(Z:as=-1\/(as=16/\∀p∈ps,∀L ro,p≠.lst L ro)):∃t' T',cF (n+14) wm 800 [eb,.d (eJ Q as x m ro),.d (nD t),.d (nD t)] (hs F T X)=some (.d (nD t'),hs F T' X)/\Good g T'/\T<+:T'/\qS T' t' (ps.map (eB U J B m ro)):=by
 have C:=I.lt;have b:=au C;generalize T[t]=r at b;by_cases z:t=2;.
  subst z;have E:ps=[]:=by induction ps using aW with|nil=>rfl|cons a l=>exact d9 (I.mB a (.head _)) λq M _=>kn M
  subst E;exact qW 2 T (wk gX dT [dR 3 (iD (T:=T) (t:=2) (n+12) (11+X.length) F X),dR 6 (dU F X (D.int 2) T)]) (G.le (ar (dq _) (aG _ _))) (aq _) ⟨I,(xq G).toShQ,by decide⟩
 by_cases hu:∃s,r=.jV s;.exact hu.elim λs e=>Iy G I (e▸b) z S Z
 have P:=eO b z λs e=>hu ⟨s,e⟩;refine d9 (I.to t (eL P (.head _))) λp0 f y=>?_;refine d9 y λR j c=>?_;rw[b]at j;obtain rfl:=sI j;refine jr (AZ (F:=F) (X:=X) (n:=n+1) (wm:=wm) (Q:=Q) (m:=m) (ro:=ro) (g:=g) (G.le (by lia)) b c S (.inl rfl) (Z.imp id λh=>⟨h.1,h.2 p0 f⟩)) λt' T' c2 O p2 y1=>?_;refine d9 y1 λr' N PC=>?_;refine qW t' T' c2 O p2 (o7 O N (λp E=>?_) (λe=>kn (List.map_eq_nil_iff.mp e▸f)) I.wx.QH (by rw[ak];exact I.l2));refine d9 (af.mp E) λp1 K y2=>?_;refine d9 (I.mB p1 K) λq M y=>?_;refine d9 y λr1 o A=>?_;rw[kB (eL P.symm M),b]at o;obtain rfl:=sI o;rw[←y2,ua A c];exact PC
end
section
variable{F:ab Int}{T T' T1 T2:ab Row}{X Y:ab Cell}{n wm:Nat}{H:Hp}{i κ t g q over wh:Nat}{k:ab W}{Q m ro x U J:Nat}{as:Int}{B:ab W}{kw:W}{p p':Piece}{r:Row}{L L':ab Slot}
theorem oG:tD [.obj L]:=⟨by simp,by simp,by simp,by simp⟩
theorem zg(G:Good g T)(j:t=1\/t=10):∃t' T',cF (n+14) wm 800 [eb,.d (eJ Q as x m ro),.d (nD t),.d (nD t)] (hs F T X)=some (.d (nD t'),hs F T' X)/\Good g T'/\T<+:T'/\qS T' t' ([.obj []].map (eB U J B m ro)):=by
 refine qW (11) T ?_ G (aq _) (o7 G (G.at rfl) (λp f=>?_) (by simp) oG.QH (by simp));.
  have b:∃s,T[t]?=some (.key s):=by rcases j with rfl|rfl;exact⟨_,G.at rfl⟩;exact⟨_,G.at rfl⟩
  obtain⟨s,b⟩:=b;have c:=iD (T:=T) (t:=t);have e:=vw b;have R:=kK b rfl;clear b;rcases j with rfl|rfl;.simp only[W0]at c e R;exact wk gX dT [dR 3 (c (n+12) (11+X.length) F X),dR 8 (e (n+12) (11+X.length) F X),dR 8 (R (n+12) (11+X.length) F X),dR 7 (dU F X (D.int 11) T)]
  .have l:nD 10=.int 10:=rfl;exact wk gX dT [dR 3 (c (n+12) (11+X.length) F X),dR 8 (e (n+12) (11+X.length) F X),dR 8 (R (n+12) (11+X.length) F X),dR 10 (dU F X (D.int 11) T)]
 .simp only[aH,bD,ah,ai,a6]at f;subst f;exact⟨[],none,none,λ_=>⟨[],[],0,0⟩,[],[],⟨rfl,⟨by decide,by simp,.inl ⟨rfl,rfl⟩,.inl ⟨rfl,rfl⟩,by simp,by simp⟩,by simp[gO,sortBy],by simp[gO,sortBy]⟩,⟨by decide,by decide⟩,rfl⟩
noncomputable abbrev anyS:Slot:=⟨d0,[fW],2,0⟩
theorem yQ(G:Good (g+10) T)(j:U≠0)(S:Tm T x U J B)(A:as=-1\/as=16):∃t' T',cF (n+14) wm 800 [eb,.d (eJ Q as x m ro),.d (nD 0),.d (nD 0)] (hs F T X)=some (.d (nD t'),hs F T' X)/\Good g T'/\T<+:T'/\qS T' t' ([.obj [anyS]].map (eB U J B m ro)):=by
 refine(let K:Prop:=_;(?_:K));have o:=G.at (i:=0) rfl;have l:=iD (T:=T) (t:=0);have y:=vw o;have R:=kK o rfl;refine jr (wt (F:=F) (X:=X) (n:=n+1) (wm:=11+X.length) (Q:=Q) (m:=m) (ro:=ro) (g:=g) (es:=[⟨6,none,none,anyS⟩]) (G.le (by simp)) (by simp only[ah,ai,a6,cH];exact⟨(.inr ⟨rfl,rfl,.inl ⟨rfl,rfl⟩,rfl,by decide,λh=>ax h j⟩),(⟨_,G.at (i:=6) rfl,by decide,rfl⟩)⟩) (.inr S) A ⟨by decide,by decide⟩ (by decide) (by decide)) λt' T' f e C E=>?_;refine d9 E λM c z=>?_;refine qW t' T' ?_ e C (o7 e c (λp s=>?_) (by simp) oG.QH (by simp));.have b:=λn wm H=>Ia (n:=n) (wm:=wm) (H:=H) (I:=[6]);simp only[Vi]at l y R;rw[(aw j)]at f;exact wk gX dT [dR 3 (l (n+12) (11+X.length) F X),dR 8 (y (n+12) (11+X.length) F X),dR 8 (R (n+12) (11+X.length) F X),dR 8 (b (n+11) (11+X.length) (hs F T X)),dR 2 f,dR 0 (dU F X (nD t') T')]
 .simp only[aH,bD,ah,ai,a6]at s;subst s;exact z
noncomputable def pd:ab W:=[[34,112,34],[48],d0,[34,122,34],dZ,[34,113,34],[49]]
noncomputable def f7(w:W):Slot:=⟨w,[],if w=d0\/w=dZ then 2 else 0,0⟩
noncomputable def WK:Row->W|.key s=>s|.bool b _=>if b=0then hJ else i8|.str s=>34::(s++[34])|.num m=>[48+m]|_=>[]
theorem Qb(h:ek r w):WK r=w:=by
 rcases r with⟨⟩<;>first|exact h.elim|skip
 .exact h.2.symm
 .rcases h.2with⟨rfl,rfl⟩|⟨rfl,rfl⟩<;>rfl
 .exact h.2.symm
 .exact h.2.symm
noncomputable def rowOf(w:W):Row:=if isLit w then .str w.tail.dropLast else if i9 w then .num (w.headD 0-48)else if w=hJ then .bool 0 0 else if w=i8 then .bool 1 0 else .key w
set_option tactic.hygienic true in theorem yi{w:W}(h:ek r w):r=rowOf w:=by
 rcases r with⟨⟩<;>first|exact h.elim|skip
 .obtain⟨h,rfl⟩:=h;simp only[ah,ai,a6]at h;rcases h with rfl|rfl|rfl|rfl|rfl|rfl<;>rfl
 .obtain⟨rfl,⟨rfl,rfl⟩|⟨rfl,rfl⟩⟩:=h<;>rfl
 .rw[h.2];simp[rowOf,isLit]
 .obtain⟨h1,rfl⟩:=h;rename_i d;have h2:i9 [48+d]=true:=by simp[i9];lia
  simp[rowOf,isLit,h2];lia
theorem ek.inj(h:ek r w)(h':ek b w):r=b:=(yi h).trans (yi h').symm
theorem LV(c:a∈pd)(d:b∈pd)(h:eZ a=eZ b):a=b:=by
 have:∀a∈pd,∀b∈pd,eZ a=eZ b->a=b:=by decide
 exact this a c b d h
theorem Tf(b:a∈pd):∀c∈a,c<128:=by
 have:∀a∈pd,∀c∈a,c<128:=by decide
 exact this a b
structure U4(T:ab Row)(kt:Nat)(I:ab W):Prop where
 sh:ShQ ek T kt I
 w:∀w∈I,w∈pd
 l:(parts T kt).length<=7
theorem xa(G:Good g T)(K:ShQ ek T t k):Runs 2 558 [d7,.d (nD t)] T (.d (.bool false)) T:=NY K.lt (G.at rfl) λq e=>by obtain⟨r,w,b,c,_⟩:=K.to q e;exact⟨r,b,c.simp⟩
theorem xU(G:Good g T)(K:ShQ ek T t k):t≠13:=by intro e;subst e;refine iE (K.to 13 (by rw[(eO (G.at (i:=13) rfl) (by decide) (by simp))];simp)) λr w b c _=>?_;rw[G.at rfl]at b;obtain rfl:=sI b;exact n9.err c rfl
theorem uu:∀{I:ab W},I.Nodup->(∀w∈I,w∈pd)->(I.map eZ).Nodup:=by intro I;induction I with|nil=>intro _ _;simp|cons a I ih=>intro h c;rw[a9]at h;rw[aH,a9];refine⟨λq=>?_,ih h.2 λw d=>c w (by simp[d])⟩;refine d9 (af.mp q) λb f e=>?_;exact h.1 (LV (c b (by simp[f])) (c a (by simp)) e▸f)
set_option tactic.hygienic true in theorem LY(G:Good g T)(h0:U≠0){w:W}(hr:T[q]?=some r)(hw:ek r w)(hm:w∈pd):jY T U ⟨q,none,none,f7 w⟩/\Ky T q w:=by
 refine⟨?_,r,hr,hw⟩;have M1:=hm;simp only[pd,ah,ai,a6]at M1;clear hm;rcases r with⟨⟩<;>first|exact hw.elim|skip
 .obtain⟨h1,rfl⟩:=hw;simp only[ah,ai,a6]at h1;rcases h1 with rfl|rfl|rfl|rfl|rfl|rfl;.exact ax M1 (by decide)
  .exact ax M1 (by decide)
  .exact ax M1 (by decide)
  .exact ax M1 (by decide)
  .exact .inr ⟨rfl,rfl,.inl ⟨G.id hr (G.at rfl),rfl⟩,rfl,bB _,λh=>ax h h0⟩
  .exact .inr ⟨rfl,rfl,.inr ⟨G.id hr (G.at rfl),rfl⟩,rfl,bB _,λh=>ax h h0⟩
 .refine(let γ:Prop:=_;(?_:γ));rcases hw.2with⟨_,rfl⟩|⟨_,rfl⟩<;>exact ax M1 (by decide)
 .obtain⟨h1,rfl⟩:=hw;rename_i s;have hs:(f7 (34::(s++[34]))).sign=0:=rfl;exact .inl ⟨s,_,⟨hr,⟨h1,rfl⟩,rfl,h1,rfl,rfl,ac0 _,hs,by kernel_rfl,λh=>ax h h0⟩⟩
 .obtain⟨h1,rfl⟩:=hw;rename_i d;have hd:d=0\/d=1:=by simp only[aaX,and_true,List.cons_ne_nil,List.nil_eq,and_false,false_or,a6,reduceCtorEq]at M1;lia
  refine .inl ⟨[48+d],_,⟨hr,⟨h1,rfl⟩,rfl,rfl,?_,rfl,ac0 _,(show(f7 [48+d]).sign=0from by simp[f7]),by kernel_rfl,λh=>ax h h0⟩⟩;clear M1;rcases hd with rfl|rfl<;>rfl
theorem Kr(G:Good (g+30) T)(h0:U≠0)(S:Tm T x U J B)(K:U4 T Q I)(ha:as=-1\/as=16):∃t' T',cF (n+14) wm 814 [eb,.d (eJ Q as x m ro)] (hs F T X)=some (.d (nD t'),hs F T' X)/\Good g T'/\T<+:T'/\qS T' t' ([.obj (I.map f7)].map (eB U J B m ro)):=by
 refine(let γ:Prop:=_;(?_:γ));have ZV:¬(Q:Int)=13:=by have:=xU G K.sh;lia
 let wq:Nat->W:=λq=>WK ((T[q]?).getD (.param 0));have y:∀q∈parts T Q,∃r,T[q]?=some r/\ek r (wq q)/\wq q∈I:=by
  intro q o;refine iE (K.sh.to q o) λr w j c f=>?_;have:wq q=w:=by show WK _=w;rw[j];exact Qb c
  rw[this];exact⟨r,j,c,f⟩
 have O0:∀e∈(parts T Q).map (λq=>(⟨q,none,none,f7 (wq q)⟩:Ent)),jY T U e/\Ky T e.κ e.s.key:=by intro e he;refine d9 (af.mp he) λq o Zq=>?_;clear he;subst Zq;refine j6 (y q o) λr j c f=>?_;exact LY G h0 j c (K.w _ f)
 have C:((parts T Q).map (λq=>(⟨q,none,none,f7 (wq q)⟩:Ent))).map (·.s)=((parts T Q).map wq).map f7:=by simp[aK,a8]
 have P:((parts T Q).map wq).Nodup:=by
  have:∀l:ab Nat,l.Nodup->(∀q∈l,q∈parts T Q)->(l.map wq).Nodup:=by intro l;induction l with|nil=>intro _ _;simp|cons a l ih=>intro h hm;rw[a9]at h;rw[aH,a9];refine⟨λq=>?_,ih h.2 λq o=>hm q (by simp[o])⟩;refine d9 (af.mp q) λb hb e=>?_;refine j6 (y b (hm b (by simp[hb]))) λr1 j c _=>?_;refine j6 (y a (hm a (by simp))) λr2 f h4 _=>?_;rw[e]at c;have:r1=r2:=c.inj h4;subst this;exact h.1 (G.id f j▸hb)
  exact this _ K.sh.nd λq o=>o
 have E:∀w,w∈(parts T Q).map wq↔w∈I:=by
  intro w;constructor;.intro h;obtain⟨q,o,rfl⟩:=af.mp h;obtain⟨_,_,_,f⟩:=y q o;exact f
  .intro h;obtain⟨q,o,r,j,c⟩:=K.sh.mB w h;refine j6 (y q o) λr' f h4 _=>?_;rw[j]at f;obtain rfl:=sI f;exact af.mpr ⟨q,o,h4.det c⟩
 have R:∀{l:ab W},l.Nodup->(∀w∈l,w∈pd)->oj (l.map f7):=by intro l j c;refine⟨by rw[aK];exact uu j c,λs hs=>?_⟩;refine d9 (af.mp hs) λw M Y7=>?_;subst Y7;exact Tf (c w M)
 have A:=R P λw h=>K.w w ((E w).mp h);have O:=R K.sh.wx.ss.nd K.w;have ξ:∀l:ab W,l.Nodup->(∀w∈l,w∈pd)->qU (l.map f7)<=5:=by
  intro l j c;unfold qU;have:(l.map f7).filter (λs=>decide (s.sign<2))=(l.filter λw=>decide (w≠d0/\w≠dZ)).map f7:=by
   rw[adl];congr 1;refine List.filter_congr λw _=>?_;have e:(f7 w).sign<2↔(w≠d0/\w≠dZ):=by
    simp only[f7];by_cases q:w=d0\/w=dZ;.rw[aS q];exact⟨λh=>ax h (by decide),λz=>ax q (by rintro(h|h);exact z.1 h;exact z.2 h)⟩
    .rw[aX q];exact⟨λ_=>⟨λz=>q (.inl z),λz=>q (.inr z)⟩,λ_=>by decide⟩
   exact bU.mpr e
  simp only[this,ak];have:=len_sub (l':=[[34,112,34],[48],[34,122,34],[34,113,34],[49]]) (cp (λw=>decide (w≠d0/\w≠dZ)) j) λw M=>by
   rw[aO,aZ]at M;have f:=c w M.1;simp only[pd,ah,ai,a6]at f⊢;rcases f with h|h|h|h|h|h|h;.lia
   .lia
   .exact ax h M.2.1
   .lia
   .exact ax h M.2.2
   .lia
   .lia
  simpa using this
 have N!:=K.l;refine jr (wt (F:=F) (X:=X) (n:=n+1) (wm:=11+X.length) (Q:=Q) (m:=m) (ro:=ro) (g:=g) (G.le (by simp;lia)) O0 (.inr S) ha ((sY C A)) (by simp;lia) (by rw[C];exact ξ _ P λw h=>K.w w ((E w).mp h))) λt' T' Z G2 p2 y1=>?_;refine d9 y1 λr' TJ PC=>?_;refine qW t' T' ?_ G2 p2 (o7 G2 TJ (λp hp=>?_) (by simp) oG.QH (by simp));.
  have N:=λn wm H=>Ia (n:=n) (wm:=wm) (H:=H) (I:=parts T Q);rw[(aw h0)]at Z;have e1:((parts T Q).map (λq=>(⟨q,none,none,f7 (wq q)⟩:Ent))).map Ent.d=(parts T Q).map λκ=>mz κ none none:=by rw[aK];rfl
  rw[e1]at Z;exact wk m8 dT [dR 5 ((iD (T:=T) (t:=Q)) (n+12) (11+X.length) F X),sb 1 (eA ZV),dR 3 ((xa G K.sh) (n+11) (11+X.length) F X),dR 5 ((nB K.sh.lt) (n+12) (11+X.length) F X),dR 1 (N (n+11) (11+X.length) (hs F T X)),dR 2 Z,dR 0 (dU F X (nD t') T')]
 .simp only[aH,bD,ah,ai,a6]at hp;subst hp;have:gO ((((parts T Q).map (λq=>(⟨q,none,none,f7 (wq q)⟩:Ent))).map (·.s)).map (et U J B m ro))=gO ((I.map f7).map (et U J B m ro)):=by
   rw[C];refine nz ?_ ?_ λs=>?_;.rw[aK];simp only[a8,fy];exact A.1
   .rw[aK];simp only[a8,fy];exact O.1
   .simp only[af,af,E]
  show gU T' r' (.obj (gO ((I.map f7).map _)));rw[←this];exact PC
end
section
variable{F:ab Int}{T T' T1 T2:ab Row}{X Y:ab Cell}{n wm:Nat}{H:Hp}{i κ t g q over wh:Nat}{k:ab W}{Q m ro x U J:Nat}{as:Int}{B:ab W}{kw:W}{p p':Piece}{r:Row}{L L':ab Slot}
noncomputable def t9(T:ab Row)(q:Nat):ab W:=match T[q]?with|some (.str s)=>[s]|some (.num d)=>[[48+d]]|_=>[]
noncomputable def gS(b:ab W):ab (D×D):=b.map λw=>(sD w,.int 1)
theorem RF{b:ab W}:rn (sD w) (.d (.eH (b.map sD) (b.map λ_=>.int 1))) H=some (decide (w∈b)):=by
 have c:(b.map sD).zip (b.map λ_=>(D.int 1))=b.map λw=>(sD w,.int 1):=by induction b with|nil=>rfl|cons a l ih=>simp[ih]
 rw[(show rn (sD w) (.d (.eH (b.map sD) (b.map λ_=>.int 1))) H=if((sD w).sort.any λq=>eg q ((b.map sD).zip (b.map λ_=>(D.int 1))))=true then(hU (sD w) ((b.map sD).zip (b.map λ_=>(D.int 1)))).map (·.isSome)else none from rfl),c];refine(aS (iA (f:=λw:W=>w) (g:=λ_=>D.int 1) (l:=b))).trans ?_;rw[sS,abP];congr 1;rw[Option.isSome_map,List.isSome_find?,b6];simp
theorem Bc:∀l:ab Nat,(l.flatMap (t9 T)).length<=l.length
 |[]=>(aV _)|a::l=>by
  have ih:=Bc l;have:(t9 T a).length<=1:=by
   unfold t9;rcases T[a]?with _|r;.exact bB _
   .rcases r with⟨⟩<;>first|exact aV 1|exact bB _
  simp only[cD,ao,ba];lia
theorem Ik:jF (sD w) (.int 1) (gS b)=some (gS (fi b [w])):=x5 vP
noncomputable def sH(F:ab Int)(T:ab Row)(X:ab Cell)(b:ab W):Hp:=hs F T (X++[.eH (gS b) false])
theorem Rc(c:b.length<big):IH (sD w) (.int 1) (.ref (11+X.length)) (sH F T X b)=some (sH F T X (fi b [w])):=(Dh (H:=sH F T X b) (x:=sD w) gp (iA) (aj (b4 (ak _)) c) Ik).trans (ag some nM)
theorem Kt(h:T[q]?=some r):(LG r=.fS/\t9 T q=[])\/∃w,LG r=sD w/\t9 T q=[w]:=by unfold t9;rw[h];clear h;induction r using Row.casesOn with|str s=>exact .inr ⟨s,rfl,rfl⟩|num s=>exact .inr ⟨_,rfl,rfl⟩|_=>exact .inl ⟨rfl,rfl⟩
theorem Lg(l:T[q]?=some r)(f:∀k,r=.num k->k<10)(o:b.length<big):d5 (kZ.map BS.run) ⟨cF (n+2),11+X.length⟩ [some d7,some (.d qs),some (.ref (11+X.length)),some (.d (nD q)),Z] (sH F T X b)=some (.er,[some d7,some (.d qs),some (.ref (11+X.length)),some (.d (nD q)),some (.d (LG r))],sH F T X (fi b (t9 T q))):=by
 have c:cF (n+2) (11+X.length) 572 [d7,.d (nD q)] (sH F T X b)=some (.d (LG r),sH F T X b):=by have h:=oA l f n (11+X.length) F (X++[.eH (gS b) false]);exact h
 rcases Kt l with h|h;.refine lJ h λe j=>?_;rw[e]at c⊢;rw[j];exact wq [dR 2 c]
 .refine d9 h λw e j=>?_;rw[e]at c⊢;rw[j];exact wq [dR 2 c,sh 4 (Rc (F:=F) (T:=T) (X:=X) (w:=w) o)]
theorem EL{qs:ab Nat}(G:∀q∈qs,∃r w,T[q]?=some r/\ek r w)(z:qs.length<64):Runs 3 835 [d7,.d (.tup (qs.map nD))] T (.d (.eH ((fi [] (qs.flatMap (t9 T))).map sD) ((fi [] (qs.flatMap (t9 T))).map λ_=>.int 1))) T:=by
 intro n wm F X;refine lM (b:=kZ) (tg:=.one 3) (c:=⟨cF (n+2),11+X.length⟩) (e:=nD) (σ:=ae V×ae V) (λo=>[some d7,some (.d (.tup (qs.map nD))),some (.ref (11+X.length)),o.1,o.2]) (λd=>sH F T X (fi [] (d.flatMap (t9 T)))) qs (λd q C o y=>?_) (s:=(none,none)) λo E=>?_;.refine ml (G q (eL y (aN _ (.head _)))) λr w I A=>?_;refine xx _ (some (.d (nD q)),some (.d (LG r))) rfl ?_;rw[b7,iJ,cD,aaj,aL];refine Lg I (λd hd=>by rw[hd]at A;exact A.1) (aj (ar jz (ar (b4 (bQ _)) (Bc d))) ?_);rw[y,ao]at z;exact bK (aj (aG _ _) z) (by decide)
 generalize fi [] (qs.flatMap (t9 T))=j at*;have K:toD (.ref (11+X.length)) (hs F T (X++[.eH (gS j) false]))=some (.eH (j.map sD) (j.map λ_=>.int 1),hs F T (X++[.eH (gS j) true])):=by simp[toD,(show eg .s (gS j)=true from iA (f:=λw:W=>w) (g:=λ_=>D.int 1) (l:=j))];simp[gS]
 exact wk wK dT [dR 0 (iB F X (.eH [] false) T),mb 1 E,dR 0 (show fin (11+X.length) (.ret (.ref (11+X.length)),[],sH F T X j)=some (.d (.eH (j.map sD) (j.map λ_=>.int 1)),hs F T X)from by unfold sH;simp[K])]
theorem K4(c:T[t]?=some (.obj ps E ni)):Runs 3 543 [eb,.d (nD t),.d (.int 0)] T (.d (ka E)) T:=by intro n wm F X;have f:=λt=>iD (T:=T) (t:=t);have sh:=AY c;induction E using b5 with|none=>have e:ka none=.tup []:=rfl;exact wk sU dT [dR 2 (f t (n+1) (11+X.length) F X),sv 3 (fR F X c),dR 19 (sh n (11+X.length) F X),sv 1 (fR F X c),dR 6 (dU F X (D.tup []) T)]|some s=>obtain⟨a,b⟩:=s;exact wk sU dT [dR 2 (f t (n+1) (11+X.length) F X),sv 3 (fR F X c),dR 19 (sh n (11+X.length) F X),sv 1 (fR F X c),dR 10 (f a (n+1) (11+X.length) F X),dR 4 (dU F X (D.tup [nD a,nD b]) T)]
end
section
variable{qs:ab Nat}{R:ab W}{F:ab Int}{T T' T1 T2:ab Row}{X Y:ab Cell}{n wm:Nat}{H:Hp}{i κ t g q over wh:Nat}{k:ab W}{Q m ro x U J:Nat}{as:Int}{B:ab W}{kw:W}{p p':Piece}{r:Row}{L L':ab Slot}
theorem Jy:w∈fi [] (qs.flatMap (t9 T))↔∃q∈qs,w∈t9 T q:=by rw[lp];simp[ct]
noncomputable def rM(t:Nat)(qs:ab Nat)(e:ab W)(b:bp)(i:Nat)(C E A c nF:ae V):Loc:=[some eb,some (.d (nD t)),some (.d (.tup (qs.map nD))),some d7,some (.d (.eH (e.map sD) (e.map λ_=>.int 1))),some (.d (.bool b)),some (.ref (11+i)),C,E,A,c,nF]
theorem Sd{e:Ent}(A:e.p=none->(e.κ∈qs↔e.s.key∈R))(C:∀z,e.p=some z->(z.1∈j↔e.s.key∈R))(y:Z.length<big):d5 (jK.map BS.run) ⟨cF n,wm⟩ (rM t qs j false X.length (some (.d e.d)) none none none none) (hs F T (X++[.lst Z .own]))=some (.er,rM t qs j false X.length (some (.d e.d)) none none none none,hs F T (X++[.lst (Z++bif decide (e.s.key∈R)then[e.d]else[]) .own])):=by
 have l:=r0 (F:=F) (T:=T) (X:=X) (L:=[]) (M:=dP) (c:=⟨cF n,wm⟩) (v:=e.d) y;have o:some (iY dP (.ref (11+X.length)) 100 (hs F T (X++[.lst Z .own])))=some true:=ag some (jm gp 100 dP);obtain⟨κ,p,O,s⟩:=e;rcases p with _|⟨E,G,I,K⟩;.
  have f:f6 .In (nD κ) (.d (.tup (qs.map nD))) (hs F T (X++[.lst Z .own]))=some (decide (s.key∈R)):=(o5).trans (ag some (bU.mpr (A rfl)));simp only;generalize decide (s.key∈R)=b at*;rcases b with⟨⟩;.rw[aed,aL];exact wq [sb 5 f]
  .exact wq [sb 5 f,sb 1 o,dR 1 l]
 .have f:f6 .In (sD E) (.d (.eH (j.map sD) (j.map λ_=>.int 1))) (hs F T (X++[.lst Z .own]))=some (decide (s.key∈R)):=(RF (H:=hs F T (X++[.lst Z .own]))).trans (ag some (bU.mpr (C _ rfl)));simp only;generalize decide (s.key∈R)=b at*;rcases b with⟨⟩;.rw[aed,aL];exact wq [sb 10 f]
  .exact wq [sb 10 f,sb 1 o,dR 1 l]
theorem Su{I:ab Nat}{nF:ae V}(c:cF n wm 572 [d7,.d (nD q)] H=some (.d f,H))(e:q∈I):d5 (jN.map BS.run) ⟨cF n,wm⟩ (rM t qs l b X.length C (some (.d (.lst (I.map nD)))) (some (.d (nD q))) j nF) H=some (.er,rM t qs l b X.length C (some (.d (.lst (I.map nD)))) (some (.d (nD q))) (some (.d f)) (some (.d (.bool true))),H):=by generalize I.map nD=o at*;exact wq [dR 2 c,sb 1 ((o5).trans (ag some (ay e)))]
structure CD(T:ab Row)(qs:ab Nat)(R:ab W):Prop where
 to:∀q∈qs,∃r w,T[q]?=some r/\ek r w/\w∈R
 mB:∀w∈R,∃q∈qs,∃r,T[q]?=some r/\ek r w
theorem CD.id(K:CD T qs R)(G:Good g T)(d:T[j]?=some (.key s))(hs:s∈[fW,ea,d6,gx,d0,dZ]):j∈qs↔s∈R:=by
 constructor;.intro h;refine iE (K.to j h) λr w a b c=>?_;rw[d]at a;obtain rfl:=sI a;rw[←b.2];exact c
 .intro h;refine d9 (K.mB s h) λq e y=>?_;refine d9 y λr a b=>?_;obtain rfl:r=.key s:=b.inj (⟨hs,rfl⟩:ek (.key s) s);rw[G.id d a];exact e
noncomputable def wQ(k:W):Prop:=(∃z:W,z.length=1/\k=34::(z++[34]))\/k=d0\/k=dZ
theorem wQ.no(h:wQ [48+d]):aeu:=by
 rcases h with h|h|h;.exact d9 h λz _ e=>ax (br e).2 (by simp)
 .exact ax (br h).2 (by decide)
 .exact ax (br h).2 (by decide)
theorem CD.O5(K:CD T qs R)(j:∀w∈R,wQ w)(hz:z.length=1):z∈fi [] (qs.flatMap (t9 T))↔(34::(z++[34]):W)∈R:=by
 rw[Jy];constructor;.intro h;refine d9 h λq f e=>?_;refine iE (K.to q f) λr w a b c=>?_;unfold t9 at e;rw[a]at e;induction r using Row.casesOn with|str s=>rw[kB e,←b.2];exact c|num d=>exact(wQ.no (b.2▸j w c)).elim|_=>exact kn e
 .intro h;refine d9 (K.mB _ h) λq f y=>?_;refine d9 y λr a b=>?_;obtain rfl:r=.str z:=b.inj (⟨hz,rfl⟩:ek (.str z) _);exact i12 q f (by unfold t9;rw[a];exact .head _)
noncomputable def IK(R:ab W)(e:Ent):bp:=decide (e.s.key∈R)
theorem HY:((d++[e]).filter (IK R)).map Ent.d=(d.filter (IK R)).map Ent.d++bif decide (e.s.key∈R)then[e.d]else[]:=by rw[cJ,aC,cV];unfold IK;cases decide (e.s.key∈R)<;>rfl
theorem FR(K:CD T qs R)(G:Good g T)(d:∀w∈R,wQ w)(b:wQ e.s.key)(h:jY T1 0 e)(f:∀z,e.p=some z->e.s.key=34::(z.1++[34])):(e.p=none->(e.κ∈qs↔e.s.key∈R))/\(∀z,e.p=some z->(z.1∈fi [] (qs.flatMap (t9 T))↔e.s.key∈R)):=by
 refine⟨λj=>?_,λz l=>?_⟩;.
  rcases h with h|E;.refine QS h λo r E=>?_;refine d9 (E.pl rfl) λq h _=>?_;rw[j]at h;exact ec h
  .rcases E.key with h|h<;>rw[h.1,h.2];.exact K.id G (G.at (i:=6) rfl) (by decide)
   .exact K.id G (G.at (i:=7) rfl) (by decide)
 .rw[f z l]at b⊢;refine K.O5 d ?_;rcases b with h|h|h;.refine d9 h λC c e=>?_;have:=ag bq (br e).2;rw[ao,ao]at this;exact(Nat.add_right_cancel this).trans c
  .exact ax (br h).1 (by decide)
  .exact ax (br h).1 (by decide)
theorem Ei{es b:ab Ent}{o:ae V×ae V×ae V}(O:T[t]?=some (.obj ps E ni))(G:6∈qs->E≠none)(A:Runs 3 835 [d7,.d (.tup (qs.map nD))] T (.d (.eH (l.map sD) (l.map λ_=>.int 1))) T)(K:cF (n+4) (11+X.length) 755 [eb,.d (nD t)] (hs F T (X++[.lst [] .own]))=some (.d (.lst (es.map Ent.d)),hs F T' (X++[.lst [] .own])))(N:g' (.one 7) (d5 (jK.map BS.run)) ⟨cF (n+4),11+X.length⟩ (es.map Ent.d) (rM t qs l false X.length none none none none none) (hs F T' (X++[.lst [] .own]))=some (.er,rM t qs l false X.length C none none none none,hs F T' (X++[.lst (b.map Ent.d) .own])))(s:g' (.one 9) (d5 (jN.map BS.run)) ⟨cF (n+4),11+X.length⟩ (qs.map nD) (rM t qs l false X.length C (some (.d (.lst ((b.map (·.κ)).map nD)))) none none none) (hs F T' (X++[.lst (b.map Ent.d) .fz]))=some (.er,rM t qs l false X.length C (some (.d (.lst ((b.map (·.κ)).map nD)))) o.1 o.2.1 o.2.2,hs F T' (X++[.lst (b.map Ent.d) .fz]))):cF (n+5) wm 840 [eb,.d (nD t),.d (.tup (qs.map nD))] (hs F T X)=some (.d (.lst (b.map Ent.d)),hs F T' X):=by
 have f:=fV (elt:=(d' (dM 12) 11).run) (c:=⟨cF (n+4),11+X.length⟩) (e:=Ent.d) (H:=hs F T' (X++[.lst (b.map Ent.d) .fz])) (rM t qs l false X.length C none none none none) b (λe=>nD e.κ) (o:=none) (λe _=>wd []);rw[show b.map (λe=>nD e.κ)=(b.map (·.κ)).map nD from by rw[aK];rfl]at f;have A:=A (n+1) (11+X.length) F X;have I:=K4 O (n+1) (11+X.length) F X;have z:=o5 (m:=6) (k:=qs);generalize(b.map (·.κ)).map nD=kl at*;generalize b.map Ent.d=y at*;generalize es.map Ent.d=a at*;have j:ji (.ref (11+X.length)) (hs F T' (X++[.lst y .own]))=some (y,hs F T' (X++[.lst y .fz])):=by simp
 have M:fin (11+X.length) (.ret (.ref (11+X.length)),[],hs F T' (X++[.lst y .fz]))=some (.d (.lst y),hs F T' X):=by simp
 have Z:=iB F X (.lst [] .own) T;clear O;by_cases h:6∈qs;.rw[ay h]at z;have P:=SN (o:=E);rw[aw (G h)]at P;exact wk nR dT [dR 3 A,sb 1 z,dR 4 I,sb 1 P,dR 0 Z,dR 2 K,mb 1 N,jX 0 j,jX 0 f,mb 1 s,dR 0 M]
 .rw[aw h]at z;exact wk nR dT [dR 3 A,sb 1 z,dR 1 Z,dR 2 K,mb 1 N,jX 0 j,jX 0 f,mb 1 s,dR 0 M]
theorem RT(G:Good (g+5) T)(ht:T[t]?=some r)(O:tv T r L ps E ni A L1 L2)(h1:∀q∈qs,∃r w,T[q]?=some r/\ek r w/\w∈R)(h2:∀w∈R,∃q∈qs,∃r,T[q]?=some r/\ek r w)(hl:qs.length<64)(l:∀w∈R,∃s∈L,s.key=w):∃(es:ab Ent)(T':ab Row),cF (n+5) wm 840 [eb,.d (nD t),.d (.tup (qs.map nD))] (hs F T X)=some (.d (.lst (es.map Ent.d)),hs F T' X)/\Good g T'/\T<+:T'/\(∀e∈es,jY T' 0 e/\Ky T' e.κ e.s.key)/\es.map (·.s)=((ps.filter j7).map A++L1++L2).filter (λs=>decide (s.key∈R)):=by
 obtain rfl:=O.r;have K:CD T qs R:=⟨h1,h2⟩;have j:∀s∈L,wQ s.key:=λs hs=>O.o.ind ((O.mem s).mp hs) (M:=λs=>wQ s.key) (λz _ _ P=>.inl ⟨z.1,P.l1,P.key⟩) λq s h _=>.inr (h.imp (·.2) (·.2));have Zm:6∈qs->E≠none:=λh=>by refine d9 (l _ ((K.id G (G.at rfl) (by decide)).mp h)) λs hs y=>?_;exact O.o.ind ((O.mem s).mp hs) (M:=λs=>s.key=d0->E≠none) (λz _ _ P y=>ax (br (P.key.symm.trans y)).1 (by decide)) (λq s h _ y=>h.elim (λh e=>ec (e.symm.trans h.1)) λh=>ax (y.symm.trans h.2) (by decide)) y
 refine Uz (xV (F:=F) (X:=X++[.lst [] .own]) (n:=n) (wm:=11+X.length) (U:=0) G ht O.o) λes T1 c1 G1 p1 O0 UH Vk=>?_;refine CE (od O UH) λN _ Z _=>?_;have Sa:∀e∈es,(e.p=none->(e.κ∈qs↔e.s.key∈R))/\(∀z,e.p=some z->(z.1∈fi [] (qs.flatMap (t9 T))↔e.s.key∈R)):=λe f=>FR K G (λw hw=>d9 (l w hw) λs hs e=>e▸j s hs) (j e.s ((Z e.s).mp (af.mpr ⟨e,f,rfl⟩))) (O0 e f).1 (Vk e f);have SX:∀q∈qs,q∈(es.filter (IK R)).map (·.κ):=by
  intro q hq;refine iE (h1 q hq) λr w a b c=>?_;refine d9 (l w c) λs hs y=>?_;refine d9 (af.mp ((Z s).mpr hs)) λe f Wg=>?_;have I:e.s.key=w:=by rw[Wg,y]
  refine d9 (O0 e f).2 λr' a' b'=>?_;rw[I]at b';obtain rfl:=b.inj b';exact af.mpr ⟨e,aO.mpr ⟨f,ay (I▸c)⟩,G1.id a' (fQ p1 a)⟩
 refine lM (tg:=.one 7) (λC=>rM t qs (fi [] (qs.flatMap (t9 T))) false X.length C none none none none) (λd=>hs F T1 (X++[.lst ((d.filter (IK R)).map Ent.d) .own])) es (λd e r o f=>xx _ (some (.d e.d)) rfl (by
  have y:=Sa e (eL f (aN _ (.head _)));have YB:((d.filter (IK R)).map Ent.d).length<big:=by rw[f,ao]at N;rw[ak];exact aj (ar (aY _ _) (ar (aG _ _) N)) (by decide)
  rw[HY];exact(Sd (n:=n+4) (wm:=11+X.length) y.1 y.2 YB))) (s:=none) λC hf=>?_;refine lM (tg:=.one 9) (c:=⟨cF (n+4),11+X.length⟩) (e:=nD) (σ:=ae V×ae V×ae V) (λo=>rM t qs (fi [] (qs.flatMap (t9 T))) false X.length C (some (.d (.lst (((es.filter (IK R)).map (·.κ)).map nD)))) o.1 o.2.1 o.2.2) (λ_=>hs F T1 (X++[.lst ((es.filter (IK R)).map Ent.d) .fz])) qs (λd q r o f=>by have hq:q∈qs:=eL f (aN _ (.head _));refine iE (h1 q hq) λr w a b c=>?_;exact xx _ (some (.d (nD q)),some (.d (LG r)),some (.d (.bool true))) rfl (Su (oA (fQ p1 a) (λd hd=>by rw[hd]at b;exact b.1) (n+2) (11+X.length) F (X++[.lst ((es.filter (IK R)).map Ent.d) .fz])) (SX q hq))) (s:=(none,none,none)) λo Y2=>?_;refine Rg (es.filter (IK R)) T1 (Ei ht Zm (EL (λq hq=>iE (h1 q hq) λr w a b _=>⟨r,w,a,b⟩) hl) c1 hf Y2) G1 p1 (λe f=>O0 e (aO.mp f).1) ?_;rw[←UH,adl];rfl
end
section
variable{F:ab Int}{T T' T1 T2:ab Row}{X Y:ab Cell}{n wm:Nat}{H:Hp}{i κ t g q over wh:Nat}{k:ab W}{Q m ro x U J:Nat}{as:Int}{B:ab W}{kw:W}{p p':Piece}{r:Row}{L L':ab Slot}
theorem Ku(G:Good g T)(K:ShQ ek T t k):∃r,T[t]?=some r/\kc r≠7/\kc r≠14:=by
 have f:=K.lt;have c:=au f;generalize T[t]=r at c;refine i12 r c ?_;by_cases l:t=2;.subst l;rw[G.at rfl]at c;refine so c ?_;exact⟨by decide,by decide⟩
 by_cases j:∃d,r=.jV d;.obtain⟨d,rfl⟩:=j;exact⟨by simp[kc],by simp[kc]⟩
 .refine iE (K.to t (by rw[eO c l λd e=>j ⟨d,e⟩];simp)) λo w a b _=>?_;rw[c]at a;obtain rfl:=sI a;clear j c;rcases r with⟨⟩<;>first|exact b.elim|exact⟨by simp[kc],by simp[kc]⟩
theorem Kg(G:Good (g+40) T)(ht:T[t]?=some r)(O:tv T r L ps E ni A L1 L2)(S:jR T x 0 J B t)(K:ShQ ek T b R)(hl:(parts T b).length<64)(VR:∀w∈R,∃s∈L,s.key=w):∃t' T',cF (n+14) wm 847 [eb,.d (eJ Q (-1) x m ro),.d (.tup [nD t,nD b])] (hs F T X)=some (.d (nD t'),hs F T' X)/\Good g T'/\T<+:T'/\qS T' t' ([.obj (L.filter λs=>decide (s.key∈R))].map (eB 0 J B m ro)):=by
 refine(let γ:Prop:=_;(?_:γ));refine Ub (pS G ht (show eE T r (.obj L)from⟨ps,E,ni,A,L1,L2,O⟩)) λe1 n0 n1 o! n2=>?_;have hr:=O.r;have VT:o6 r=true:=by rw[hr];rfl
 have B!:=xU G K;have XF:t≠13:=D9 G ht (G.at rfl) (by rw[hr];simp);have Ww:¬(t:Int)=13:=by lia
 have N:¬(b:Int)=13:=by lia
 have hf:=λt=>iD (T:=T) (t:=t);refine j6 (Ku G K) λrb YJ _ Yy=>?_;have Wc:D.eqv (gE rb) (.tup [.int 14,nD t])=some false:=by have:=vf (r:=rb) (s:=.h9 t);rw[show gE (.h9 t)=.tup [.int 14,nD t]from rfl]at this;rw[this,aw];intro e;subst e;exact Yy rfl
 refine CZ (RT (F:=F) (X:=X) (n:=n+8) (wm:=11+X.length) (G.le ((aV _))) ht O (λq hq=>by obtain⟨r,w,a,b,c⟩:=K.to q hq;exact⟨r,w,a,b,c⟩) (λw hw=>by obtain⟨q,hq,r,a,b⟩:=K.mB w hw;exact⟨q,hq,r,a,b⟩) hl VR) λes T1 c1 G1 p1 O0 z=>?_;have px:=vi (Q:=Q) (as:=-1) (m:=m) (ro:=ro) G1 (S.pre p1) (j:=t) (.inl rfl);obtain⟨P,o⟩:=(show∃P:ab Ent,P.map (·.s)=(ps.filter j7).map A++L1++L2 from⟨((ps.filter j7).map A++L1++L2).map λs=>⟨0,none,none,s⟩,by simp[a8]⟩);refine CE (od O o) λhlen M I Z=>?_;rw[o]at M I Z;have y:∀{l:ab Slot},oj l->oj (l.filter λs=>decide (s.key∈R)):=by intro l h;refine⟨?_,λs hs=>h.2 s (aO.mp hs).1⟩;have:=h.1;rw[abk,bW]at this⊢;exact cp _ this
 have C:=y Z;have XP:es.length<=7:=by have h3:=ag bq z;have h4:=aY (λs=>decide (s.key∈R)) ((ps.filter j7).map A++L1++L2);have h5:=ag bq o;simp only[ak]at h3 h5;lia
 have U1:qU (es.map (·.s))<=5:=by
  rw[z];unfold qU at M⊢;refine ar ?_ M;refine sY List.filter_filter ?_;have:∀l:ab Slot,(l.filter λa=>decide (a.sign<2)&&decide (a.key∈R)).length<=(l.filter λs=>decide (s.sign<2)).length:=by intro l;induction l with|nil=>simp|cons a l ih=>by_cases h1:a.sign<2<;>by_cases h2:a.key∈R<;>simp[h1,h2]<;>omega
  exact this _
 refine jr (wt (F:=F) (X:=X) (n:=n+1) (wm:=11+X.length) (Q:=Q) (m:=m) (ro:=ro) (g:=g) (J:=J) (B:=B) (x:=x) (G1.le (by lia)) O0 (.inl rfl) (.inl rfl) ((sY z C)) (by lia) U1) λt' T' c2 G2 p2 y1=>?_;refine d9 y1 λr' TJ PC=>?_;refine jQ t' T' ⟨?_,G2,p1.trans p2,o7 G2 TJ (λp hp=>?_) (by simp) oG.QH (by simp)⟩;.have hd:decide ((0:Nat)=0)=true:=rfl;exact wk lQ dT [dR 5 (hf t (n+12) (11+X.length) F X),dR 4 (hf b (n+12) (11+X.length) F X),sb 1 (eA Ww),sb 2 (eA N),dR 3 ((kK ht VT) (n+12) (11+X.length) F X),dR 3 ((xa G K) (n+11) (11+X.length) F X),sv 5 (fR F X YJ),sb 5 Wc,sb 1 (eA (show¬(t:Int)=0from by lia)),dR 6 ((nB K.lt) (n+12) (11+X.length) F X),dR 1 c1,dR 7 (px (n+11) (11+X.length) F X),dR 1 c2,dR 0 (dU F X (nD t') T')]
 .simp only[aH,bD,ah,ai,a6]at hp;subst hp;have:gO ((es.map (·.s)).map (et 0 J B m ro))=gO ((L.filter λs=>decide (s.key∈R)).map (et 0 J B m ro)):=by
   rw[z];refine nz ?_ ?_ λs=>?_;.rw[aK];simp only[a8,fy];exact C.1
   .rw[aK];simp only[a8,fy];exact(y O.names).1
   .simp only[af (f:=et 0 J B m ro),aO,I]
  show gU T' r' (.obj (gO (aaa _ (L.filter _))));rw[←this];exact PC
theorem Lo(b:T[Q]?=some (.h9 t))(c:∀wm,cF (n+14) wm 800 [eb,.d (eJ Q as x m ro),.d (nD t),.d (nD t)] (hs F T X)=some (.d (nD t'),hs F T' X)):cF (n+15) wm 854 [eb,.d (eJ Q as x m ro)] (hs F T X)=some (.d (nD t'),hs F T' X):=by
 have f:∀n wm F X,cF (n+1) wm 586 [d7,.d (eJ Q as x m ro)] (hs F T X)=some (.d (.tup []),hs F T X):=by intro n wm F X;exact wk sq dT [sv 4 (fR F X b),dR 5 (dU F X (D.tup []) T)]
 have e:∀n wm F X,cF (n+1) wm 645 [eb,.d (eJ Q as x m ro)] (hs F T X)=some (.d (nD t),hs F T X):=by intro n wm F X;exact wk lr dT [sv 5 (fR F X b),dR 7 (dU F X (nD t) T)]
 exact wk nU dT [dR 3 (f (n+13) (11+X.length) F X),dR 5 (e (n+13) (11+X.length) F X),dR 8 ((λt=>iD (T:=T) (t:=t)) t (n+13) (11+X.length) F X),dR 1 (c (11+X.length)),dR 0 (dU F X (nD t') T')]
theorem Kn(f:T[Q]?=some (.inter a b))(c:T[a]?=some (.h9 t))(e:∀wm,cF (n+14) wm 847 [eb,.d (eJ Q as x m ro),.d (.tup [nD t,nD b])] (hs F T X)=some (.d (nD t'),hs F T' X)):cF (n+15) wm 854 [eb,.d (eJ Q as x m ro)] (hs F T X)=some (.d (nD t'),hs F T' X):=by
 have j:∀n wm F X,cF (n+1) wm 586 [d7,.d (eJ Q as x m ro)] (hs F T X)=some (.d (.tup [nD t,nD b]),hs F T X):=by intro n wm F X;exact wk sq dT [sv 4 (fR F X f),sv 11 (fR F X c),sv 11 (fR F X c),dR 8 (dU F X (D.tup [nD t,nD b]) T)]
 exact wk nU dT [dR 3 (j (n+13) (11+X.length) F X),dR 6 (e (11+X.length)),dR 0 (dU F X (nD t') T')]
theorem Jd(e:T[Q]?=some r)(s:kc r≠7)(f:kc r≠14)(j:∀wm,cF (n+14) wm 814 [eb,.d (eJ Q as x m ro)] (hs F T X)=some (.d (nD t'),hs F T' X)):cF (n+15) wm 854 [eb,.d (eJ Q as x m ro)] (hs F T X)=some (.d (nD t'),hs F T' X):=by
 have c:¬(kc r:Int)=7:=by lia
 have b:¬(kc r:Int)=14:=by lia
 have o:∀n wm F X,cF (n+1) wm 586 [d7,.d (eJ Q as x m ro)] (hs F T X)=some (.d (.tup []),hs F T X):=by intro n wm F X;exact wk sq dT [sv 4 (fR F X e),sv 1 (show fZ (V.d (gE r)) (D.int 0) (hs F T X)=some (V.d (D.int ↑(kc r)))by simp),sb 1 (E8 c),dR 1 (dU F X (D.tup []) T)]
 have l:∀n wm F X,cF (n+1) wm 645 [eb,.d (eJ Q as x m ro)] (hs F T X)=some (.d (.int (-1)),hs F T X):=by intro n wm F X;exact wk lr dT [sv 5 (fR F X e),sv 1 (show fZ (V.d (gE r)) (D.int 0) (hs F T X)=some (V.d (D.int ↑(kc r)))by simp),sb 1 (eA b),dR 1 (dU F X (D.int (-1)) T)]
 exact wk nU dT [dR 3 (o (n+13) (11+X.length) F X),dR 5 (l (n+13) (11+X.length) F X),dR 5 (j (11+X.length)),dR 0 (dU F X (nD t') T')]
end
section
variable{F:ab Int}{T T' T1 T2:ab Row}{X Y:ab Cell}{n wm:Nat}{H:Hp}{k:ab W}
theorem Ey(a b:Nat):ab2 (a:Int) (b:Int)=((a%b:Nat):Int):=by rw[aac _ ((cI _))];lia
theorem EW(a b:Nat):ahc (a:Int) (b:Int)=((a/b:Nat):Int):=by rw[Int.fdiv_eq_ediv_of_nonneg _ (by lia)];lia
theorem oX{a b:Nat}(h:0<b):fv .Mod (.int (a:Int)) (.int (b:Int))=some (nD (a%b)):=by show(if(0:Int)<b then some (D.int (ab2 a b))else none)=_;rw[aS (show(0:Int)<b from bg.mpr h),Ey]
theorem ik{a b:Nat}(h:0<b)(d:b<1073741824)(c:a<1073741824):fv .FloorDiv (.int (a:Int)) (.int (b:Int))=some (nD (a/b)):=by show(if 0<(b:Int)/\(b:Int)<1073741824/\(a:Int).natAbs<1073741824then some (D.int (ahc a b))else none)=_;rw[aS (⟨bg.mpr h,bg.mpr d,c⟩),EW]
@[simp]theorem Hd{a:Nat}:fv .Mod (.int (a:Int)) (.int 3)=some (nD (a%3)):=oX (by decide)
@[simp]theorem uQ{a:Nat}:fv .Mod (.int (a:Int)) (.int 2)=some (nD (a%2)):=oX (by decide)
@[simp]theorem Mp{a:Nat}:fv .Mod (.int (a:Int)) (.int 4)=some (nD (a%4)):=oX (by decide)
@[simp]theorem zf{a:Nat}:fv .Mod (.int (a:Int)) (.int 10)=some (nD (a%10)):=oX (by decide)
@[simp]theorem Pn{a:Nat}:fv .Mod (.int (a:Int)) (.int 40)=some (nD (a%40)):=oX (by decide)
theorem Gg{a b:Nat}(e:a<1073741824)(f:b<1073741824):fv .Mult (.int (a:Int)) (.int (b:Int))=some (nD (a*b)):=by
 have c:(a:Int).natAbs<2^30:=by simp;lia
 have d:(b:Int).natAbs<2^30:=by simp;lia
 exact aS ⟨c,d⟩
theorem tf{a b:Nat}:fv .Add (.int (a:Int)) (.int (b:Int))=some (nD (a+b)):=by show some (D.int _)=_;congr 2
theorem gC(h:a.length+b.length<=big):fv .Add (sD a) (sD b)=some (sD (a++b)):=by show(if(S a).length+(S b).length<=big then some (D.str (S a++S b))else none)=some (D.str (S (a++b)));simp[h]
theorem GD:∀{k:ab W},aar (S R) (k.map S)=S (gf R k)|[]=>rfl|[w]=>rfl|w::v::r=>by have:=GD (R:=R) (k:=v::r);simp only[aH]at this⊢;simp only[aar,gf,this,TI]
theorem A7:∀{k:ab W}{a:Nat},(∀w∈k,w.length<=m)->(k.map S).foldl (λa p=>a+p.length+(S R).length) a<=a+k.length*(m+R.length)|[],a,_=>by simp|w::k,a,h=>by have:=A7 (R:=R) (k:=k) (a:=a+w.length+R.length) λx b=>h x (by simp[b]);have c:=h w (by simp);simp only[aH,List.foldl_cons,BB,ba]at this⊢;lia
theorem Et(h:∀w∈k,w.length<=m)(f:k.length*(m+R.length)<=big):fK M c (.d (sD R)) 104 [.d (eF k)] H=some (.d (sD (gf R k)),H):=by
 have g:=A7 (R:=R) (a:=0) h;have e:=iL (R:=R) h;have b:(k.map S).foldl (λa p=>a+p.length+(S R).length) 0<=big:=by lia
 rw[BB]at b;show((strsOf (k.map sD)).bind λG=>if 104=104/\G.foldl (λa p=>a+p.length+(S R).length) 0<=big/\(aar (S R) G).length<=big then some (V.d (.str (aar (S R) G)),H)else none)=_;rw[nX,bh,GD,aS ⟨rfl,by rw[BB];exact b,by rw[BB];exact ar e f⟩]
theorem Ib(h:∀w∈k,w.length<=m)(b:k.length*(m+1)<=big):cF (n+1) wm 950 [.d (eF k)] H=some (.d (sD (iQ k)),H):=by induction k using aW with|nil=>exact wk sa rfl [dR 1 (eQ (D.str (aa "never")) H)]|cons a k=>generalize(a::k).map sD=l at*;exact wk sa rfl [dR 3 ((λc=>Et (M:=dP) (c:=c) (H:=H) (R:=[124]) h (b)) {call:=cF n,wm:=bq H}),dR 0 (eQ (sD (gf [124] (a::k))) H)]
noncomputable def KB(k:ab W):Prop:=k.length<=10/\∀w∈k,mF w
theorem KB.j(c:KB a)(hb:KB b):cF (n+1) wm 943 [.d (.lst [eF a,eF b])] H=some (.d (eF (ei [a,b])),H):=vR (Z:=[a,b]) (by have:=c.1;have:=hb.1;simp;lia) (by simp only[ah,ai,a6,aah,cH];exact⟨c.2,hb.2⟩)
theorem VV:KB [d6]:=⟨by decide,by simp only[ah,ai,a6,cH];exact⟨_,_,rfl,by decide⟩⟩
theorem WM:KB [gx]:=⟨by decide,by simp only[ah,ai,a6,cH];exact⟨_,_,rfl,by decide⟩⟩
theorem Hm(h:KB k):cF (n+1) wm 943 [.d (.lst [eF k,.lst [sD d6]])] H=some (.d (eF (ei [k,[d6]])),H):=h.j VV
theorem WY(h:KB k):cF (n+1) wm 943 [.d (.lst [eF k,.lst [sD gx]])] H=some (.d (eF (ei [k,[gx]])),H):=h.j WM
theorem Ul:f6 .NotEq (sD w) (.d (sD v)) H=some (decide (w≠v)):=by show some (!(decide (S w=S v)))=_;simp
theorem P1(h:KB k):cF (n+2) wm 1000 [.d (eF k),.d (nD C),.d (.bool N)] H=some (.d (.tup [eF (gP (C%3) k N).1,nD (gP (C%3) k N).2]),H):=by
 have g:=Hm (n:=n) (wm:=H.length) (H:=H) h;have j:=gA (elt:=(dM 3).run) (cs:=(gi [TE (dS .NotEq (dM 3) (dN (sD d6)))]).run) (c:=⟨cF (n+1),H.length⟩) (H:=H) [some (.d (eF k)),some (.d (nD C)),some (.d (.bool N))] k (λw=>decide (w≠d6)) sD (o:=none) (λw _=>by have e:=Ul (w:=w) (v:=d6) (H:=H);generalize decide (w≠d6)=b at*;rcases b with⟨⟩<;>exact wb [sb 1 e]) (λw _ _=>rfl);unfold gP hO;have f:C%3=0\/C%3=1\/C%3=2:=by lia
 generalize l:k.filter (λw=>decide (w≠d6))=i at*;rcases f with f|f|f<;>rcases N with⟨⟩;.exact(wk (r:=(V.d (D.tup [eF k,D.int 0]),H)) jd rfl [sd 2 (show fv cX (nD C) (D.int 3)=some (D.int 0)by simp[f]),sd 5 (show fv cX (nD C) (D.int 3)=some (D.int 0)by simp[f]),dR 7 (eQ (D.tup [eF k,D.int 0]) H)]).trans (by simp[f])
 .exact(wk (r:=(V.d (D.tup [eF (ei [k,[d6]]),D.int 1]),H)) jd rfl [sd 2 (show fv cX (nD C) (D.int 3)=some (D.int 0)by simp[f]),sd 5 (show fv cX (nD C) (D.int 3)=some (D.int 0)by simp[f]),dR 8 g,dR 2 (eQ (D.tup [eF (ei [k,[d6]]),D.int 1]) H)]).trans (by simp[f])
 .exact(wk (r:=(V.d (D.tup [eF (ei [k,[d6]]),D.int 1]),H)) jd rfl [sd 2 (show fv cX (nD C) (D.int 3)=some (D.int 1)by simp[f]),dR 7 g,dR 2 (eQ (D.tup [eF (ei [k,[d6]]),D.int 1]) H)]).trans (by simp[f])
 .exact(wk (r:=(V.d (D.tup [eF (ei [k,[d6]]),D.int 1]),H)) jd rfl [sd 2 (show fv cX (nD C) (D.int 3)=some (D.int 1)by simp[f]),dR 7 g,dR 2 (eQ (D.tup [eF (ei [k,[d6]]),D.int 1]) H)]).trans (by simp[f])
 .exact(wk (r:=(V.d (D.tup [eF k,D.int 0]),H)) jd rfl [sd 2 (show fv cX (nD C) (D.int 3)=some (D.int 2)by simp[f]),sd 5 (show fv cX (nD C) (D.int 3)=some (D.int 2)by simp[f]),dR 6 (eQ (D.tup [eF k,D.int 0]) H)]).trans (by simp[f])
 .exact(wk (r:=(V.d (D.tup [D.lst (aaa sD i),D.int 0]),H)) jd rfl [sd 2 (show fv cX (nD C) (D.int 3)=some (D.int 2)by simp[f]),sd 5 (show fv cX (nD C) (D.int 3)=some (D.int 2)by simp[f]),jX 5 j,dR 2 (eQ (D.tup [D.lst (aaa sD i),D.int 0]) H)]).trans (by simp[f])
theorem FZ(c:C<9):cF (n+1) wm 1007 [.d (nD C),.d (nD y)] H=some (.d (nD (mC (C/3) y)),H):=by
 have hd:fv .FloorDiv (.int (C:Int)) (.int 3)=some (nD (C/3)):=ik (by decide) (by decide) (by lia);have b:C/3=0\/C/3=1\/C/3=2:=by lia
 rcases b with b|b|b<;>rw[b]at hd⊢;.exact wk om rfl [sd 5 hd,dR 2 (eQ (nD y) H)]
 .exact wk om rfl [sd 5 hd,dR 2 (eQ (D.int 1) H)]
 .exact wk om rfl [sd 5 hd,dR 2 (eQ (D.int 0) H)]
theorem w_next(g:0<m):∃(d:Nat)(c:ab Int),cF (n+1) wm 938 [.ref 0,.d (nD m)] (hs F T X)=some (.d (nD d),hs c T X)/\d<m:=by
 induction F using aW with
 |nil=>exact jQ 0 [] ⟨by exact wk sT dT [dR 1 (dU [] X (D.int 0) T)],g⟩|cons f F=>
  have b:(0:Int)<m:=by lia
  have i:0<=ab2 f m:=by rw[aac _ (by lia)];exact Int.emod_nonneg _ (by lia)
  have j:ab2 f m<m:=by rw[aac _ (by lia)];exact Int.emod_lt_of_pos _ b
  have e:fv .Mod (.int f) (.int (m:Int))=some (nD (ab2 f m).toNat):=by refine(aS b).trans ?_;congr 2;omega
  refine jQ ((ab2 f m).toNat) F ⟨?_,by omega⟩;exact wk sT dT [sd 6 e,dR 0 (dU F X (nD (f.fmod ↑m).toNat) T)]
end
section
variable{F:ab Int}{T T' T1 T2:ab Row}{X Y:ab Cell}{n wm t g:Nat}{H:Hp}{k:ab W}{r:Row}{L:ab Slot}{p:Piece}
noncomputable def fH:Piece->D|.prim w=>.tup [sD w,.lst [],.int 0]|.obj L=>.tup [sD [123],.lst (L.map fF),.int 0]|.lst L ro=>.tup [sD [91],.lst (L.map fF),nD ro]
structure jC(s:Slot):Prop where
 kl:s.kind.length<=6
 kw:∀w∈s.kind,w.length<=80
 key:s.key.length<=12
 sign:s.sign<=2
 held:s.held<=3
theorem eK:big=1048576:=rfl
theorem vI(Z:jC s):(iQ s.kind).length<=486:=by
 unfold iQ;split;.decide
 .have:=iL (R:=[124]) Z.kw;have b:s.kind.length*(80+([124]:W).length)<=6*(80+([124]:W).length):=cq _ Z.kl;simp only[ba,bS]at this b⊢;lia
theorem A6(Z:jC s):cF (n+1) wm 950 [.d (eF s.kind)] H=some (.d (sD (iQ s.kind)),H):=Ib Z.kw (by have:s.kind.length*(80+1)<=6*81:=cq _ Z.kl;rw[eK];lia)
theorem vA(s:Nat):(mD s).length<=1:=by unfold mD;split<;>simp
theorem HQ(s:Nat):(qE s).length<=3:=by unfold qE;split<;>simp
theorem Gn(s:Nat):(heldW s).length<=16:=by unfold heldW;split<;>simp
theorem Sp(h:s<=2):([D.str (S []),.str (S []),.str (S [46,46,46])]:ab D)[s]?=some (sD (qE s)):=by
 have:s=0\/s=1\/s=2:=by lia
 rcases this with rfl|rfl|rfl<;>rfl
theorem MR(h:s<=2):([D.str (S []),.str (S [63]),.str (S [])]:ab D)[s]?=some (sD (mD s)):=by
 have:s=0\/s=1\/s=2:=by lia
 rcases this with rfl|rfl|rfl<;>rfl
theorem Ts(h:s<=3):([D.str (S []),.str (S By),.str (S QP),.str (S (By++QP))]:ab D)[s]?=some (sD (heldW s)):=by
 have:s=0\/s=1\/s=2\/s=3:=by lia
 rcases this with rfl|rfl|rfl|rfl<;>rfl
theorem Mu(f:Slot->W)(h:∀s∈L,eD elt c [a0,a1,a2,a3,a4,some (.d (sD s.key)),some (.d (eF s.kind)),some (.d (nD s.sign)),some (.d (nD s.held))] H=some (sD (f s),H)):fa elt (.many [5,6,7,8]) (gM []) c (L.map fF) [a0,a1,a2,a3,a4,none,none,none,none] H=some ((L.map f).map sD,H):=by rw[aK];exact zq [a0,a1,a2,a3,a4] (λs=>sD (f s)) (λs=>[some (.d (sD s.key)),some (.d (eF s.kind)),some (.d (nD s.sign)),some (.d (nD s.held))]) (λ_ _=>rfl) L (λ_=>rfl) h
theorem ur(Z:jC s):(jS s).length<=600:=by have:=vI Z;have:=vA s.sign;have:=HQ s.sign;simp[jS];lia
theorem uf(Z:jC s):(qL s).length<=600:=by have:=vI Z;have:=vA s.sign;have:=Gn s.held;have:=Z.key;simp[qL];lia
theorem Bs(hs:R.length=1)(h:∀s∈L,(f s).length<=600)(d:L.length<=10):(gf R (L.map f)).length<=6010:=by
 have b:=iL (R:=R) λw c=>by obtain⟨s,hs,rfl⟩:=af.mp c;exact h s hs
 simp only[hs,ak]at b;lia
theorem nA(j:∀s∈L,jC s)(q:L.length<=10)(C:ro<=1):cF (n+2) wm 1012 [.d (.tup [sD [91],.lst (L.map fF),nD ro])] H=some (.d (sD (eV (.lst L ro))),H):=by
 have l:=Mu (H:=H) (elt:=(el .Add (el .Add (dQ (d8 [(dN (.str (aa ""))),(dN (.str (aa ""))),(dN (.str (aa "...")))]) (dM 7)) (dO 950 [(dM 6)])) (dQ (d8 [(dN (.str (aa ""))),(dN (.str (aa "?"))),(dN (.str (aa "")))]) (dM 7))).run) (c:=⟨cF (n+1),H.length⟩) (a0:=some (.d (.tup [sD [91],.lst (L.map fF),nD ro]))) (a1:=some (.d (sD [91]))) (a2:=some (.d (.lst (L.map fF)))) (a3:=some (.d (nD ro))) (a4:=none) jS (λs hs=>by have Z:=j s hs;have K:=vI Z;have N:=vA s.sign;have O:=HQ s.sign;have z:=gC (a:=qE s.sign) (b:=iQ s.kind) (by rw[eK];lia);have A:=gC (a:=qE s.sign++iQ s.kind) (b:=mD s.sign) (by rw[eK];simp;lia);have w:=λwm=>A6 (n:=n) (wm:=wm) (H:=H) Z;have G:=uv (H:=H) (Sp Z.sign);have I:=uv (H:=H) (MR Z.sign);have w:=w H.length;exact wd [sv 4 G,dR 2 w,sd 1 z,sv 5 I,sd 1 A]);have o:=λc=>Et (M:=dP) (c:=c) (H:=H) (R:=[44]) (k:=L.map jS) (λw E=>by obtain⟨s,hs,rfl⟩:=af.mp E;exact ur (j s hs)) (by simp only[ak,eK];have:L.length*(600+([44]:W).length)<=10*601:=cq _ q;lia);have Q:=Bs (f:=jS) (R:=[44]) rfl (λs hs=>ur (j s hs)) q;generalize P:gf [44] (L.map jS)=B at*;generalize L.map jS=J at*;generalize L.map fF=U at*;have m:ro=0\/ro=1:=by lia
 clear C;rcases m with rfl|rfl;.have y:=gC (a:=[]) (b:=[91]) (by decide);have e:=gC (a:=[91]) (b:=B) (by rw[eK];simp;lia);have i:=gC (a:=91::B) (b:=[93]) (by rw[eK];simp;lia);simp at y e i l;exact wk l0 rfl [jX 4 l,dR 10 (o {call:=cF (n+1),wm:=bq H}),sd 1 e,sd 2 i,dR 0 (eQ (sD (91::(B++[93]))) H)]
 .have y:=gC (a:=By) (b:=[91]) (by decide);have e:=gC (a:=By++[91]) (b:=B) (by rw[eK];simp;lia);have i:=gC (a:=By++[91]++B) (b:=[93]) (by rw[eK];simp;lia);exact wk l0 rfl [jX 4 l,dR 10 (o {call:=cF (n+1),wm:=bq H}),sd 1 e,sd 2 i,dR 0 (eQ (sD (114::101::97::100::111::110::108::121::32::91::(B++[93]))) H)]
theorem BF(e:∀s∈L,jC s)(i:L.length<=10):cF (n+2) wm 1012 [.d (.tup [sD [123],.lst (L.map fF),.int 0])] H=some (.d (sD (eV (.obj L))),H):=by have q:=Mu (H:=H) (elt:=(el .Add (el .Add (el .Add (el .Add (dQ (d8 [(dN (.str (aa ""))),(dN (.str (aa "readonly "))),(dN (.str (aa "method "))),(dN (.str (aa "readonly method ")))]) (dM 8)) (dM 5)) (dQ (d8 [(dN (.str (aa ""))),(dN (.str (aa "?"))),(dN (.str (aa "")))]) (dM 7))) (dN (.str (aa ":")))) (dO 950 [(dM 6)])).run) (c:=⟨cF (n+1),H.length⟩) (a0:=some (.d (.tup [sD [123],.lst (L.map fF),.int 0]))) (a1:=some (.d (sD [123]))) (a2:=some (.d (.lst (L.map fF)))) (a3:=some (.d (.int 0))) (a4:=none) qL (λs hs=>by have Z:=e s hs;have J:=vI Z;have K:=vA s.sign;have N:=Gn s.held;have O:=Z.key;have j:=gC (a:=heldW s.held) (b:=s.key) (by rw[eK];lia);have l:=gC (a:=heldW s.held++s.key) (b:=mD s.sign) (by rw[eK];simp;lia);have m:=gC (a:=heldW s.held++s.key++mD s.sign) (b:=[58]) (by rw[eK];simp;lia);have o:=gC (a:=heldW s.held++s.key++mD s.sign++[58]) (b:=iQ s.kind) (by rw[eK];simp;lia);have w:=λwm=>A6 (n:=n) (wm:=wm) (H:=H) Z;have A:=uv (H:=H) (Ts Z.held);have C:=uv (H:=H) (MR Z.sign);have w:=w H.length;exact wd [sv 5 A,sd 2 j,sv 5 C,sd 1 l,sd 2 m,dR 2 w,sd 1 o]);have y:=λc=>Et (M:=dP) (c:=c) (H:=H) (R:=[59]) (k:=L.map qL) (λw z=>by obtain⟨s,hs,rfl⟩:=af.mp z;exact uf (e s hs)) (by simp only[ak,eK];have:L.length*(600+([59]:W).length)<=10*601:=cq _ i;lia);have Q:=Bs (f:=qL) (R:=[59]) rfl (λs hs=>uf (e s hs)) i;generalize P:gf [59] (L.map qL)=B at*;generalize L.map qL=I at*;generalize L.map fF=U at*;have E:=gC (a:=[123]) (b:=B) (by rw[eK];simp;lia);have G:=gC (a:=123::B) (b:=[125]) (by rw[eK];simp;lia);exact wk l0 rfl [jX 7 q,dR 3 (y {call:=cF (n+1),wm:=bq H}),sd 1 E,sd 2 G,dR 0 (eQ (sD (123::(B++[125]))) H)]
theorem Jx(c:w≠[91])(e:w≠[123]):cF (n+2) wm 1012 [.d (.tup [sD w,a,b])] H=some (.d (sD w),H):=wk l0 rfl [sb 1 (show f6 ac8 (sD w) (V.d (D.str (aa "["))) H=some false by simp[c]),sb 2 (show f6 ac8 (sD w) (V.d (D.str (aa "{"))) H=some false by simp[e]),dR 1 (eQ (sD w) H)]
end
section
variable{F:ab Int}{T T' T1 T2:ab Row}{X Y:ab Cell}{n wm t g:Nat}{H:Hp}{k:ab W}{r:Row}{L:ab Slot}{p:Piece}
theorem vg(h:Z.length<64):fK M c (.ref (11+X.length)) 100 [.d v] (hs F T (X++[.lst Z .own]))=some (.d .fS,hs F T (X++[.lst (Z++[v]) .own])):=r0 (by rw[eK];lia)
theorem Rb{L:ab Cell}:rn v (.ref (11+X.length)) (hs F T (X++.lst Z md::L))=D.has v Z:=TL gp
theorem KL{L:ab Cell}:iu 201 [.ref (11+X.length)] (hs F T (X++.lst Z md::L))=(mK Z).map .lst:=by simp[iu,tW,jB]
noncomputable def De(T:ab Row)(P:Row->W->Prop)(q:Nat):W:=Classical.epsilon λw=>∃r,T[q]?=some r/\P r w
theorem B2{P:Row->W->Prop}(h:∃w r,T[q]?=some r/\P r w):∃r,T[q]?=some r/\P r (De T P q):=Classical.epsilon_spec h
noncomputable def xX(t i:Nat)(d q:D)(N O:ae V):Loc:=[some d7,some (.d (nD t)),some (.d d),some (.d q),some (.ref (11+i)),N,O]
noncomputable def kv(F:ab Int)(T:ab Row)(X:ab Cell)(b:ab W):Hp:=hs F T (X++[.lst (b.map sD) .own])
theorem Ge(o:T[q]?=some i)(f:cF n (11+X.length) 1024 [d7,.d (gE i)] (kv F T X R)=some (.d (sD w),kv F T X R))(m:w≠fG)(l:R.length<64):d5 (jZ.map BS.run) ⟨cF n,11+X.length⟩ (xX t X.length d y (some (.d (nD q))) O) (kv F T X R)=some (.er,xX t X.length d y (some (.d (nD q))) (some (.d (sD w))),kv F T X (fi R [w])):=by
 have b:fZ (.ref 2) (nD q) (kv F T X R)=some (.d (gE i)):=fR F (X++[.lst (R.map sD) .own]) o;have e:=Ul (w:=w) (v:=fG) (H:=kv F T X R);rw[ay m]at e;have c:f6 .NotIn (sD w) (.ref (11+X.length)) (kv F T X R)=some (!decide (w∈R)):=ag (cx (!·)) (Rb.trans has_str);by_cases h:w∈R;.rw[ay h]at c;rw[show fi R [w]=R from aS h];exact wq [sv 3 b,dR 1 f,sb 1 e,sb 2 c]
 .rw[aw h]at c;rw[show fi R [w]=R++[w]from aX h];have s:some (iY dP (.ref (11+X.length)) 100 (kv F T X R))=some true:=yV;have j:fK dP ⟨cF n,11+X.length⟩ (.ref (11+X.length)) 100 [.d (sD w)] (kv F T X R)=some (.d .fS,kv F T X (R++[w])):=by unfold kv;rw[aC];exact vg (by rw[ak];exact l)
  exact wq [sv 3 b,dR 1 f,sb 1 e,sb 2 c,sb 1 s,dR 1 j]
theorem JG(e:T[2]?=some (.key fG))(c:cF n (11+X.length) 1024 [d7,.d (gE (.key fG))] (kv F T X [])=some (.d (sD fG),kv F T X [])):d5 (jZ.map BS.run) ⟨cF n,11+X.length⟩ (xX t X.length d f (some (.d (nD 2))) O) (kv F T X [])=some (.er,xX t X.length d f (some (.d (nD 2))) (some (.d (sD fG))),kv F T X []):=by have b:fZ (.ref 2) (nD 2) (kv F T X [])=some (.d (gE (.key fG))):=fR F (X++[.lst [] .own]) e;exact wq [sv 3 b,dR 1 c]
noncomputable def Q1(t:Nat):Row->ab Nat|.jV ps=>ps|_=>[t]
theorem Ln(h:∀ps,r≠.jV ps):Q1 t r=[t]:=by induction r using Row.casesOn with|jV ps=>exact ax rfl (h ps)|_=>rfl
theorem OE(m:T[t]?=some r):d5 ((nT.take 3).map BS.run) ⟨cF n,11+X.length⟩ (uy 7 [d7,.d (nD t)]) (hs F T X)=some (.er,xX t X.length (gE r) (.tup ((Q1 t r).map nD)) none none,kv F T X []):=by
 have c:=fR F X m;have i:mA (hs F T X) (.lst [] .own)=some (.ref (11+X.length),kv F T X []):=iB F X (.lst [] .own) T;by_cases f:∃b,r=.jV b;.refine f.elim λb e=>?_;subst e;exact wq [sv 2 c,dR 7 i]
 .have l:kc r≠6:=λe=>f (by induction r using Row.casesOn with|jV b=>exact⟨b,rfl⟩|_=>exact xc id e rfl);rw[Ln λb e=>f ⟨b,e⟩];have j:=BD (r:=r) (H:=hs F T X);have o:=hH l;exact wq [sv 2 c,sv 1 j,sb 1 (eA o),dR 2 i]
theorem yU(G:Good g T)(hP:tG P)(j:∀r w w',P r w->P r w'->w=w')(hd:∀r w,P r w->∀n wm F X,cF (n+d) wm 1024 [d7,.d (gE r)] (hs F T X)=some (.d (sD w),hs F T X))(S:ShQ P T t k)(hl:(parts T t).length<64)(M:∀n wm F X,cF (n+d) wm 1024 [d7,.d (gE (.key fG))] (hs F T X)=some (.d (sD fG),hs F T X)):Runs (d+1) 1031 [d7,.d (nD t)] T (.d (eF k)) T:=by
 intro n wm F X;refine sY (show n+(d+1)=(n+d)+1from rfl) ?_;have R:=S.lt;have I:=au R;generalize T[t]=r at I;have f:∀{z:ab W}{N O:ae V},g' (.one 5) (d5 (jZ.map BS.run)) ⟨cF (n+d),11+X.length⟩ ((Q1 t r).map nD) (xX t X.length (gE r) (.tup ((Q1 t r).map nD)) none none) (kv F T X [])=some (.er,xX t X.length (gE r) (.tup ((Q1 t r).map nD)) N O,kv F T X z)->mK (z.map sD)=some (k.map sD)->cF (n+d+1) wm 1031 [d7,.d (nD t)] (hs F T X)=some (.d (eF k),hs F T X):=λ{z N O}B m=>by have so:iu 201 [.ref (11+X.length)] (kv F T X z)=some (.lst (k.map sD)):=KL.trans (ag (cx D.lst) m);have fn:fin (11+X.length) (.ret (.d (.lst (k.map sD))),[],kv F T X z)=some (.d (.lst (k.map sD)),hs F T X):=iZ F X [.lst (z.map sD) .own] (.lst (k.map sD)) T;have hA:=OE (F:=F) (X:=X) (n:=n+d) I;refine(Ag _ _ _ _).trans (mf (b:=nT.drop 3) rfl dT hA ?_);exact wf [mb 1 B,sd 0 so,dR 0 fn]
 by_cases m:t=2;.
  subst m;have Q:k=[]:=by induction k using aW with|nil=>rfl|cons w k=>exact d9 (S.mB w (.head _)) λq c _=>kn c
  subst Q;have C:=G.at (i:=2) rfl;rw[I]at C;obtain rfl:=sI C;exact f (gT rfl (.inl rfl) (JG I (by have h:=M n (11+X.length) F (X++[.lst [] .own]);exact h)) rfl) rfl
 have c:parts T t=Q1 t r:=by unfold parts;rw[aX m,I];cases r<;>rfl
 rw[←c]at f;have U:∀q∈parts T t,∃r,T[q]?=some r/\P r (De T P q):=λq c=>iE (S.to q c) λr w a b _=>B2 ⟨w,r,a,b⟩;have E:∀d:ab Nat,d.length<=(parts T t).length->(fi [] (d.map (De T P))).length<64:=λd h=>aj (ar jz (by rw[ak,bS,bQ];exact h)) hl;refine lM (σ:=ae V×ae V) (λo=>xX t X.length (gE r) (.tup ((parts T t).map nD)) o.1 o.2) (λJ=>kv F T X (fi [] (J.map (De T P)))) (parts T t) (λJ q rest o Z=>?_) (s:=(none,none)) λo B=>f B ?_;.refine d9 (U q (eL Z (aN _ (.head _)))) λrq B m=>?_;refine xx _ (some (.d (nD q)),some (.d (sD (De T P q)))) rfl ?_;rw[aC,iJ];exact Ge B (by have h:=hd rq _ m n (11+X.length) F (X++[.lst ((fi [] (J.map (De T P))).map sD) .own]);exact h) (hP.Uq m) (E J (by rw[Z,ao];exact aG _ _))
 .rw[nk (E _ (aV _))];refine ag (λl:ab W=>some (l.map sD)) (pI (pB ic ij (vM .nil)) S.wx.ss λw=>?_);rw[iF,lp];refine⟨λh=>?_,λQ=>.inr (af.mpr ?_)⟩;.refine d9 (af.mp (h.resolve_left λh=>kn h)) λq c e=>?_;refine d9 (U q c) λr1 a b=>?_;refine iE (S.to q c) λr2 w2 A K c2=>?_;rw[a]at A;obtain rfl:=sI A;rw[←e,j _ _ _ b K];exact c2
  .refine d9 (S.mB w Q) λq c y=>?_;refine d9 y λr1 a b=>?_;refine d9 (U q c) λr2 A K=>?_;rw[a]at A;obtain rfl:=sI A;exact i12 q c (j _ _ _ K b)
end
section
variable{F:ab Int}{T T' T1 T2:ab Row}{X Y:ab Cell}{n wm t g:Nat}{H:Hp}{k:ab W}{r:Row}{L:ab Slot}{p:Piece}
theorem rD:cF (n+1) wm 1024 [d7,.d (gE (.key s))] (hs F T X)=some (.d (sD s),hs F T X):=wk g8 dT [dR 7 (dU F X (sD s) T)]
theorem OJ(h:ek r w):cF (n+1) wm 1024 [d7,.d (gE r)] (hs F T X)=some (.d (sD w),hs F T X):=by
 induction r using Row.casesOn with
 |key s=>rw[h.2];exact rD|bool b f=>
  obtain⟨rfl,⟨rfl,rfl⟩|⟨rfl,rfl⟩⟩:=h;.exact wk g8 dT [dR 21 (dU F X (D.str (S hJ)) T)]
  .exact wk g8 dT [dR 21 (dU F X (D.str (S i8)) T)]|str s=>obtain⟨i,rfl⟩:=h;have c:=gC (a:=[34]) (b:=s) (by rw[eK];simp;lia);have e:=gC (a:=34::s) (b:=[34]) (by rw[eK];simp;lia);simp at c e;exact wk g8 dT [sd 24 c,sd 2 e,dR 0 (dU F X (sD (34::(s++[34]))) T)]|num m=>obtain⟨i,rfl⟩:=h;have:=digit (H:=hs F T X) i;exact wk g8 dT [sd 27 this,dR 0 (dU F X (sD [48+m]) T)]|_=>exact h.elim
theorem Mk(G:Good g T)(S:ShQ ek T t k)(c:(parts T t).length<64):Runs 2 1031 [d7,.d (nD t)] T (.d (eF k)) T:=yU G n9 (λ_ _ _ a b=>ek.det a b) (λr w h n wm F X=>OJ h) S c (λn wm F X=>rD)
theorem yE(G:Good g T)(K:ShQ ek T t k):(parts T t).length<=k.length:=by
 refine v7 (R:=λ(w:W)(q:Nat)=>∃r,T[q]?=some r/\ek r w) (λw q i⟨r,a,b⟩⟨j,d,e⟩=>?_) K.nd λq f=>?_;.have:=b.inj e;subst this;exact G.id a d
 .obtain⟨r,w,a,b,c⟩:=K.to q f;exact⟨w,c,r,a,b⟩
theorem Q6(b:tG P)(S:ShQ P T t k)(h:k.length<=10):KB k:=⟨h,S.mF b⟩
theorem Vg(G:Good g T)(h:i7 T r w):∀n wm F X,cF (n+4) wm 1024 [d7,.d (gE r)] (hs F T X)=some (.d (sD w),hs F T X):=by
 intro n wm F X;refine(let l:Prop:=_;(?_:l));rcases h with h|⟨x,k,rfl,S,j,rfl⟩|⟨x,k,rfl,S,j,rfl⟩;.exact OJ h
 .have sh:=Mk G S (by have:=yE G S;lia);have Z:jC ⟨[],k,2,0⟩:=⟨by simp;lia,λw c=>by have:=S.w9 w c;lia,by simp,by simp,by simp⟩;have b:=λn wm=>nA (n:=n) (wm:=wm) (H:=hs F T X) (L:=[⟨[],k,2,0⟩]) (ro:=1) (by simp only[ah,ai,a6,cH];exact Z) (by simp) (by simp);have e:eV (.lst [⟨[],k,2,0⟩] 1)=N5 k:=by simp[eV,jS,qE,mD,gf,N5]
  rw[e]at b;exact wk g8 dT [dR 31 (sh (n+1) (11+X.length) F X),dR 9 (b (n+1) (11+X.length)),dR 0 (dU F X (sD (N5 k)) T)]
 .have sh:=Mk G S (by have:=yE G S;lia);have Z:jC ⟨[],k,0,0⟩:=⟨by simp;lia,λw c=>by have:=S.w9 w c;lia,by simp,by simp,by simp⟩;have b:=λn wm=>nA (n:=n) (wm:=wm) (H:=hs F T X) (L:=[⟨[],k,0,0⟩]) (ro:=0) (by simp only[ah,ai,a6,cH];exact Z) (by simp) (by simp);rw[(show eV (.lst [⟨[],k,0,0⟩] 0)=zb k from by simp[eV,jS,qE,mD,gf,zb])]at b;have f:∀n wm,cF (n+3) wm 1019 [d7,.d (nD x),.d (.int 0)] (hs F T X)=some (.d (eF k),hs F T X):=by intro n wm;exact wk nW dT [dR 2 (sh n (11+X.length) F X),dR 3 (dU F X (eF k) T)]
  have f:=f n (11+X.length);have i:fa (d8 [dN (D.str (aa "")),dO 1019 [dM 0,dQ (dM 4) (dN (D.int 0)),dQ (dM 4) (dN (D.int 1))],dQ (dM 4) (dN (D.int 1)),dN (D.int 0)]).run (.one 4) (gM []) ⟨cF (n+3),11+X.length⟩ [D.tup [nD x,.int 0]] [some d7,some (.d (gE (.tup [(x,0)] 0))),none,none,none] (hs F T X)=some ([.tup [sD [],eF k,.int 0,.int 0]],hs F T X):=uR rfl (wd [dR 8 f]);exact wk g8 dT [jX 34 i,dR 5 (b (n+1) (11+X.length)),dR 0 (dU F X (sD (zb k)) T)]
theorem A5(G:Good g T)(K:Kd T t k):Runs 5 1031 [d7,.d (nD t)] T (.d (eF k)) T:=yU G Cb (λ_ _ _ a b=>i7.det a b) (λr w h=>Vg G h) K.toShQ (by have:=K.p5;lia) (λn wm F X=>rD)
theorem Kd.KB(K:Kd T t k):KB k:=Q6 Cb K.toShQ (by have:=K.l5;lia)
theorem M9(G:Good g T)(K:Seen T t (decide (b=1)) k):Runs 6 1019 [d7,.d (nD t),.d (nD b)] T (.d (eF k)) T:=by
 refine d9 (K) λc K0 f=>?_;subst f;intro n wm F X;have sh:=A5 G K0;by_cases h:b=1;.subst h;exact wk nW dT [dR 2 (sh n (11+X.length) F X),dR 7 (Hm (n:=n+4) (wm:=11+X.length) (H:=hs F T X) K0.KB),dR 0 (dU F X (eF (ei [c,[d6]])) T)]
 .have e:¬(b:Int)=1:=by lia
  exact(wk (r:=(V.d (eF c),hs F T X)) nW dT [dR 2 (sh n (11+X.length) F X),sb 1 (eA e),dR 1 (dU F X (eF c) T)]).trans (by simp[h])
theorem Seen.z(K:Seen T t o k):k.length<=6/\(∀w∈k,w.length<=80)/\∀w∈k,mF w:=by
 obtain⟨k0,K0,rfl⟩:=K;have i:=K0.l5;have e:=K0.toShQ.Y5;have f:=K0.toShQ.mF Cb;rcases o with⟨⟩;.exact⟨by simp;lia,e,f⟩
 .have hm:∀w∈ei [k0,[d6]],w∈k0++[d6]:=by
   intro w c;rw[eM]at c;refine d9 (c.1) λl d b=>?_;replace d:=QQ d;rcases d with rfl|rfl;.simp[b]
   .simp at b;simp[b]
  refine⟨?_,λw c=>?_,λw c=>?_⟩;.have:=len_sub (SS.nd gZ) hm;simp at this⊢;lia
  .rcases aJ.mp (hm w c)with q|q;.exact e w q
   .simp at q;rw[q];decide
  .rcases aJ.mp (hm w c)with q|q;.exact f w q
   .simp at q;rw[q];exact⟨_,_,rfl,by decide⟩
theorem h8.z{p:mg}(h:h8 T p s):jC s:=by refine ph (h.seen.z) λa b _=>?_;exact⟨a,b,by rw[h.key];simp[h.l1],by rw[h.sign];lia,by rw[h.held];lia⟩
theorem kW.z(h:kW T q s)(hk:s.key.length<=12):jC s:=by refine ph ((show Seen T q.1 false s.kind from⟨_,h.kd,rfl⟩).z) λa b _=>?_;exact⟨a,b,hk,by rw[h.sign];lia,by rw[h.held];have:=h.le;lia⟩
theorem gG.z(h:gG T i e s)(c:e.2<=2):jC s:=by refine ph (h.seen.z) λa b _=>?_;exact⟨a,b,by rw[h.key];simp,(sY h.sign c),by rw[h.held];lia⟩
theorem mw.z(o:mw T ps E ni A b c):∀s∈(ps.filter j7).map A++b++c,jC s:=λs hs=>o.ind hs (λz _ _ P=>P.z) λq s h x=>x.z (by rcases h with h|h<;>rw[h.2]<;>decide)
theorem AL:∀{c d:Type}{a:ab c}{b:ab d},a.length=b.length->(a.zip b).map (·.1)=a|_,_,[],[],_=>rfl|_,_,a::l,b::m,h=>by simp at h;simp[AL h]
theorem AR:∀{c d:Type}{a:ab c}{b:ab d},a.length=b.length->(a.zip b).map (·.2)=b|_,_,[],[],_=>rfl|_,_,a::l,b::m,h=>by simp at h;simp[AR h]
theorem I8{d f:Type}{a:ab d}{b:ab f}{z:d×f}(h:z∈a.zip b):∃i:Nat,a[i]?=some z.1/\b[i]?=some z.2:=by
 refine(let j:Prop:=_;(?_:j));obtain⟨i,c,e⟩:=aaR.mp h;refine i12 i ?_ ?_;.
  have:i<a.length:=by simp at c;lia
  rw[au this,←e];simp
 .have:i<b.length:=by simp at c;lia
  rw[au this,←e];simp
theorem uh(h:L'.map jS=L.map jS):eV (.lst L' ro)=eV (.lst L ro):=by simp[eV,h]
theorem K6(G:Good g T)(c:ro<=1)(b:s.sign=2)(K:Kd T e s.kind):cF (n+7) wm 1024 [d7,.d (gE (.arr e ro))] (hs F T X)=some (.d (sD (eV (.lst [s] ro))),hs F T X):=by have sh:=A5 G K (n+1) (11+X.length) F X;refine ph (show Seen T e false s.kind from⟨_,K,rfl⟩).z λj l _=>?_;have Z:jC ⟨[],s.kind,2,0⟩:=⟨j,l,by simp,by simp,by simp⟩;have f:=nA (n:=n+4) (wm:=11+X.length) (H:=hs F T X) (L:=[⟨[],s.kind,2,0⟩]) (ro:=ro) (λz i=>by rw[kB i];exact Z) (by simp) c;rw[uh (L':=[⟨[],s.kind,2,0⟩]) (L:=[s]) (by simp[jS,b])]at f;exact wk g8 dT [dR 31 sh,dR 9 f,dR 0 (dU F X (sD (eV (.lst [s] ro))) T)]
theorem JD(G:Good g T)(m:ro<=1)(M:my es)(A:L.length=es.length)(J:L.length<=3)(I:∀(i:Nat)(e:Nat×Nat)(s:Slot),es[i]?=some e->L[i]?=some s->gG T i e s):cF (n+7) wm 1024 [d7,.d (gE (.tup es ro))] (hs F T X)=some (.d (sD (eV (.lst L ro))),hs F T X):=by
 have l:∀z∈es.zip L,∃i,gG T i z.1 z.2/\z.1.2<=2:=λz l=>d9 (I8 l) λi a b=>i12 i (I i _ _ a b) (M.le _ (aae a));have B:es.map g7=(es.zip L).map λz=>g7 z.1:=by
  conv=>lhs;rw[←AL A.symm]
  rw[aK];rfl
 have y:=fV (elt:=(d8 [(dN (sD [])),(dO 1019 [(dM 0),(dQ (dM 4) (dN (.int 0))),(dQ (dM 4) (dN (.int 1)))]),(dQ (dM 4) (dN (.int 1))),(dN (.int 0))]).run) (c:=⟨cF (n+6),11+X.length⟩) (e:=λz:(Nat×Nat)×Slot=>g7 z.1) (H:=hs F T X) [some d7,some (.d (gE (.tup es ro))),none,none] (es.zip L) (λz=>fF ⟨[],z.2.kind,z.2.sign,0⟩) (o:=none) (λz f=>d9 (l z f) λi E _=>by have j:=E.seen;rw[E.sign]at j⊢;exact wd [dR 8 (M9 G j n (11+X.length) F X)]);rw[←B]at y;have q:=nA (n:=n+4) (wm:=11+X.length) (H:=hs F T X) (L:=(es.zip L).map λz=>⟨[],z.2.kind,z.2.sign,0⟩) (λs hs=>by obtain⟨z,f,rfl⟩:=af.mp hs;refine d9 (l z f) λi E C=>?_;have:=E.z C;exact⟨this.kl,this.kw,by simp,this.sign,by simp⟩) (by simp;lia) m;rw[uh (L:=L) (by
  conv=>rhs;rw[((AR A.symm).symm)]
  simp[aK,a8,jS]),aK]at q;simp only[a8]at q;generalize(es.zip L).map (λz=>fF ⟨[],z.2.kind,z.2.sign,0⟩)=K at*;exact wk g8 dT [jX 34 y,dR 5 q,dR 0 (dU F X (sD (eV (.lst L ro))) T)]
noncomputable def tJ(r:Row)(i:Nat)(Q:ae V):Loc:=[some d7,some (.d (gE r)),some (.ref (11+i)),Q]
theorem Iv(G:Good g T)(P:h8 T z s)(J:z.2.2.1<8)(a0:z.2.2.2=0)(hd:m.length<64):d5 (mO.map BS.run) ⟨cF (n+6),11+X.length⟩ (tJ (.obj ps E ni) X.length (some (.d (mP z)))) (hs F T (X++[.lst m .own]))=some (.er,tJ (.obj ps E ni) X.length (some (.d (mP z))),hs F T (X++[.lst (m++[fF s]) .own])):=by obtain⟨q,O,e,N⟩:=z;obtain⟨K,l,I,y⟩:=s;have j:=P.seen;have i:=P.sign;have f:=P.held;have B:=P.key;have o:=P.l1;clear P;simp only at J a0 j i f B o;subst a0 i B;rw[(Nat.mod_eq_of_lt (by lia))]at f;subst f;have A:fv .FloorDiv (nD e) (.int 8)=some (nD (e/8)):=ik (by decide) (by decide) (by lia);have C:fv .Mod (nD e) (.int 2)=some (nD (e%2)):=uQ;rw[show e/8=0 by lia]at A;exact wq [sd 4 A,sb 8 (show some (iY dP (.ref (11+X.length)) 100 (hs F T (X++[.lst m .own])))=some true from ag some (jm gp 100 dP)),sd 4 (gC (a:=[34]) (b:=q) (by rw[eK];simp;lia)),sd 2 (gC (a:=34::q) (b:=[34]) (by rw[eK];simp;lia)),sd 9 C,dR 1 (M9 G j n (11+X.length) F (X++[.lst m .own])),sd 5 C,sd 5 (show fv .FloorDiv (nD e) (.int 2)=some (nD (e/2))from ik (b:=2) (by decide) (by decide) (by lia)),dR 2 (vg (F:=F) (T:=T) (X:=X) (M:=dP) (c:=⟨cF (n+6),11+X.length⟩) (v:=fF ⟨34::(q++[34]),l,e%2,e/2⟩) hd)]
theorem HR(G:Good g T)(x:kW T q s)(b:sl.length<64):fK dP ⟨cF (n+6),11+X.length⟩ (.ref (11+X.length)) 100 [.d (.tup [sD s.key,eF s.kind,.int 2,nD q.2])] (hs F T (X++[.lst sl .own]))=some (.d .fS,hs F T (X++[.lst (sl++[fF s]) .own])):=by rw[(show fF s=.tup [sD s.key,eF s.kind,.int 2,nD q.2]from by unfold fF;rw[x.sign,x.held];rfl)];exact vg b
theorem SJ(G:Good g T)(e:rX T dZ ni c)(d:sl.length<64):d5 (((lz.drop 9).take 1).map BS.run) ⟨cF (n+6),11+X.length⟩ (tJ (.obj ps E ni) X.length Q) (hs F T (X++[.lst sl .own]))=some (.er,tJ (.obj ps E ni) X.length Q,hs F T (X++[.lst (sl++c.map fF) .own])):=by
 rcases e with⟨rfl,rfl⟩|⟨q,s,rfl,rfl,k,x⟩;.rw[bD,aL];exact wq []
 .have b:=HR (F:=F) (X:=X) (n:=n) G x d;rw[k]at b;exact wq [sb 5 (show some (iY dP (.ref (11+X.length)) 100 (hs F T (X++[.lst sl .own])))=some true from ag some (jm gp 100 dP)),dR 7 (A5 G x.kd (n+1) (11+X.length) F (X++[.lst sl .own])),dR 8 b]
theorem RZ(G:Good g T)(e:rX T d0 E c)(d:sl.length<64):d5 (((lz.drop 10).take 1).map BS.run) ⟨cF (n+6),11+X.length⟩ (tJ (.obj ps E ni) X.length Q) (hs F T (X++[.lst sl .own]))=some (.er,tJ (.obj ps E ni) X.length Q,hs F T (X++[.lst (sl++c.map fF) .own])):=by
 rcases e with⟨rfl,rfl⟩|⟨q,s,rfl,rfl,k,x⟩;.rw[bD,aL];exact wq []
 .have b:=HR (F:=F) (X:=X) (n:=n) G x d;rw[k]at b;exact wq [sb 5 (show some (iY dP (.ref (11+X.length)) 100 (hs F T (X++[.lst sl .own])))=some true from ag some (jm gp 100 dP)),dR 7 (A5 G x.kd (n+1) (11+X.length) F (X++[.lst sl .own])),dR 8 b]
theorem U0(G:Good g T)(h:gU T r p):∀n wm F X,cF (n+7) wm 1024 [d7,.d (gE r)] (hs F T X)=some (.d (sD (eV p)),hs F T X):=by
 intro n wm F X;induction p using Piece.casesOn with
 |prim w=>exact OJ h.1|lst L ro=>refine lJ h λB h=>?_;induction h with|arr e s m l I y key K=>rw[m,l];exact K6 G B I K|tup es m M h1 hl h3 ok=>rw[m];exact JD G B M hl (hl▸h3) ok
 |obj L=>
  obtain⟨f,E,j,A,U,N,O,C,l⟩:=h;have m:=O.r;subst m;have i:=O.o.z;rw[ux C]at i;have hZ:∀s∈L,jC s:=by intro s hs;rw[l]at hs;refine i s ?_;simp only[aJ]at hs⊢;rcases hs with(a|a)|a<;>simp[a]
  have h5:=O.o.len;have i1:=O.o.i1;have i2:=O.o.i2;have Ψ:U.length<=1:=i1.elim (λh=>by rw[h.2];decide) λ⟨_,_,_,h,_⟩=>by rw[h];exact aV _
  have ζ:N.length<=1:=i2.elim (λh=>by rw[h.2];decide) λ⟨_,_,_,h,_⟩=>by rw[h];exact aV _
  have R:L.length<=10:=by rw[l];simp;lia
  have hP:∀z∈f,h8 T z (A z)/\z.2.2.1<8/\z.2.2.2=0:=λz J=>⟨O.o.pr z J (by have:=C.fl z J;simp[j7];lia),C.fl z J,C.z z J⟩;refine ny (b:=mO) (tg:=.one 3) (c:=⟨cF (n+6),11+X.length⟩) (tJ (.obj f E j) X.length) (λd=>hs F T (X++[.lst ((d.map A).map fF) .own])) f (λ_ _=>rfl) (λd z r he=>by have h:=hP z (eL he (aN _ (.head _)));rw[aC,aC];exact Iv G h.1 h.2.1 h.2.2 (by have:=ag bq he;simp at this⊢;lia)) (o:=none) λQ hf=>?_;have UH:((f.map A).map fF).length<60:=by simp;lia
  have e:L.map fF=(f.map A).map fF++N.map fF++U.map fF:=by rw[l,aC,aC]
  generalize(f.map A).map fF=sl at*;have P:d5 ((lz.take 9).map BS.run) ⟨cF (n+6),11+X.length⟩ (uy 4 [d7,.d (gE (.obj f E j))]) (hs F T X)=some (.er,tJ (.obj f E j) X.length Q,hs F T (X++[.lst sl .own])):=by exact wq [dR 50 (iB F X (.lst [] .own) T),mb 3 hf]
  have td:=Lv (gp (F:=F) (T:=T) (X:=X) (z:=.lst (L.map fF) .own) (L:=[]));rw[nM]at td;have Z:=RZ (F:=F) (X:=X) (n:=n) G (ps:=f) (ni:=j) (Q:=Q) (sl:=sl++N.map fF) i1 (by rw[ao,ak];lia);rw[←e]at Z;have hR:d5 ((lz.drop 11).map BS.run) ⟨cF (n+6),11+X.length⟩ (tJ (.obj f E j) X.length Q) (hs F T (X++[.lst (L.map fF) .own]))=some (.ret (.d (sD (eV (.obj L)))),tJ (.obj f E j) X.length Q,hs F T (X++[.lst (L.map fF) .fz])):=by generalize L.map fF=q at*;exact wq [Q7 1 td,dR 2 (BF (n:=n+4) (wm:=11+X.length) (H:=hs F T (X++[.lst (L.map fF) .fz])) hZ R)]
  rw[g8,ip rfl,dT];exact(ag (ck · (fin (11+X.length))) (gK P (gK (SJ G i2 (by lia)) (gK Z hR)))).trans (iZ ..)
theorem gU.det(h:gU T r p)(h':gU T r p'):eV p=eV p':=by
 induction p with
 |prim w=>induction p' using Piece.casesOn with|prim J=>rw[h.1.det h'.1]|obj L=>obtain⟨G,E,ni,A,i,l,o,_⟩:=h';rw[o.r]at h;exact h.1.elim|lst L I=>cases h'.2with|tup q b=>rw[b]at h;exact h.1.elim|arr e s b=>rw[b]at h;exact h.1.elim
 |obj L=>
  obtain⟨G,E,ni,A,i,l,o,c,O⟩:=h;induction p' using Piece.casesOn with
  |prim J=>rw[o.r]at h';exact h'.1.elim|obj f=>
   obtain⟨Q,Z,P,U,j,m,d,a,y⟩:=h';have e:=o.r.symm.trans d.r;cases e;have K:i=j:=o.o.i1.det d.o.i1;have M:l=m:=o.o.i2.det d.o.i2;have N:=bF λz B=>by
    have C:j7 z=true:=by have:=c.fl z B;simp[j7];lia
    exact(o.o.pr z B C).det (d.o.pr z B C)
   simp only[O,y,K,M,N]|lst f I=>rw[o.r]at h';cases h'.2with|tup q b=>exact xc Row.ctorIdx b rfl|arr e s b=>exact xc Row.ctorIdx b rfl
 |lst L I=>
  induction p' with
  |prim J=>cases h.2with|tup q b=>rw[b]at h';exact h'.1.elim|arr e s b=>rw[b]at h';exact h'.1.elim
  |obj f=>obtain⟨G,E,ni,A,i,l,o,_⟩:=h';rw[o.r]at h;cases h.2with|tup q b=>exact xc Row.ctorIdx b rfl|arr e s b=>exact xc Row.ctorIdx b rfl
  |lst f R=>obtain⟨rfl,rfl⟩:=h.2.det h'.2;rfl
theorem SP(G:Good g T)(S:ShQ (rT T) T t k)(f:(parts T t).length<64):Runs 8 1031 [d7,.d (nD t)] T (.d (eF k)) T:=yU G SO (λr w j⟨p,a,b⟩⟨i,c,e⟩=>by rw[b,e,a.det c]) (λr w⟨p,a,b⟩n wm F X=>by rw[b];exact U0 G a n wm F X) S f (λn wm F X=>rD)
end
section
variable{F:ab Int}{T T' T1 T2:ab Row}{X Y:ab Cell}{n wm t g:Nat}{H:Hp}{k:ab W}{r:Row}{L:ab Slot}{p:Piece}{U J C:Nat}{B I:ab W}{kw:W}
noncomputable def jD(U J:Nat)(B:ab W):D:=.tup [nD U,nD J,eF B]
noncomputable def FB(B:ab W):Prop:=B.length<=6/\∀w∈B,mF w/\w.length<=12
theorem FB.kb(h:FB B):KB B:=⟨by have:=h.1;lia,λw b=>(h.2 w b).1⟩
theorem LS(h:k.length<=6/\∀w∈k,mF w)(f:mF w):KB (ei [k,[w]]):=by
 have e:∀v∈ei [k,[w]],v∈k++[w]:=by
  intro v c;rw[eM]at c;refine d9 (c.1) λl d b=>?_;simp only[ah,ai,a6]at d;rcases d with rfl|rfl;.simp[b]
  .simp at b;simp[b]
 refine⟨?_,λv c=>?_⟩;.have:=len_sub (SS.nd gZ) e;have:=h.1;simp at*;lia
 .rcases aJ.mp (e v c)with q|q;.exact h.2 v q
  .simp at q;rw[q];exact f
theorem Z6:mF gx:=⟨_,_,rfl,by decide⟩
theorem Bl(h:FB k):KB (oR J k):=by
 unfold oR;split;.exact⟨by simp,by simp only[ah,ai,a6,cH];exact⟨_,_,rfl,by decide⟩⟩
 .exact LS ⟨h.1,λw b=>(h.2 w b).1⟩ Z6
 .exact⟨by simp,by simp only[ah,ai,a6,cH];exact⟨_,_,rfl,by decide⟩⟩
 .exact h.kb
theorem HL(b:mF kw)(c:kw.length<=12):FB [kw]:=⟨by simp,by simp only[ah,ai,a6,cH];exact⟨b,c⟩⟩
theorem L0(d:FB B)(e:KB I)(b:mF kw)(c:kw.length<=12):KB (gm U J B I kw):=by
 unfold gm;split;.exact e
 .exact Bl (HL b c)
 .exact Bl d
theorem turn{b:ab BS}{r:ae (Fl×Loc×Hp)}(hs:hK tg x G=some l)(h:d5 (b.map BS.run) c l H=r):(hK tg x G).bind (UX (d5 (b.map BS.run)) c H)=r:=by rw[hs];exact h
theorem NJ(A:U<=2)(E:J<=3)(q:FB B)(o:mF kw)(l:kw.length<=12):cF (n+2) wm 1038 [.d (jD U J B),.d (sD kw),.d (eF I)] H=some (.d (eF (gm U J B I kw)),H):=by
 have z:∀{k:ab W}{e f i j Q:ae V},FB k->((d5 ((lV.drop 3).map BS.run) ⟨cF (n+1),H.length⟩ [e,f,i,j,some (.d (nD J)),Q,some (.d (eF k))] H).bind (fin H.length)=some (.d (eF (oR J k)),H)):=by
  intro k e f i j Q h;have c:=Ib (n:=n) (wm:=H.length) (H:=H) (λw c=>(h.2 w c).2) (by have:k.length*(12+1)<=6*13:=cq _ h.1;rw[eK];lia);have y:(iQ k).length<=100:=by
   unfold iQ;split;.decide
   .have:=iL (R:=[124]) λw c=>(h.2 w c).2;have l:k.length*(12+([124]:W).length)<=6*13:=cq _ h.1;lia
  rcases(show J=0\/J=1\/J=2\/J=3from by lia)with rfl|rfl|rfl|rfl;.exact wf [dR 9 (eQ (eF k) H)]
  .exact wf [dR 5 c,sd 1 (gC (a:=[91]) (b:=iQ k) (by rw[eK];simp;lia)),sd 2 (gC (a:=91::iQ k) (b:=[93]) (by rw[eK];simp;lia)),dR 1 (eQ (eF (oR 1 k)) H)]
  .exact wf [dR 10 (WY (n:=n) (wm:=H.length) (H:=H) h.kb),dR 0 (eQ (eF (oR 2 k)) H)]
  .exact wf [dR 11 c,sd 1 (gC (a:=By++[91,46,46,46]) (b:=iQ k) (by rw[eK];simp;lia)),sd 2 (gC (a:=By++[91,46,46,46]++iQ k) (b:=[93]) (by rw[eK];simp;lia)),dR 1 (eQ (eF (oR 3 k)) H)]
 rw[Ai,ip rfl];have m:∀{k},FB k->d5 ((lV.take 3).map BS.run) ⟨cF (n+1),H.length⟩ (uy 7 [.d (jD U J B),.d (sD kw),.d (eF I)]) H=some (.er,[some (.d (jD U J B)),some (.d (sD kw)),some (.d (eF I)),some (.d (nD U)),some (.d (nD J)),some (.d (eF B)),some (.d (eF k))],H)->(d5 (lV.map BS.run) ⟨cF (n+1),H.length⟩ (uy 7 [.d (jD U J B),.d (sD kw),.d (eF I)]) H).bind (fin H.length)=some (.d (eF (oR J k)),H):=λs h=>(ag (ck · (fin H.length)) (gK h rfl)).trans (z s);rcases(show U=0\/U=1\/U=2from by lia)with rfl|rfl|rfl;.exact wf [dR 3 (eQ (eF I) H)]
 .refine m (HL o l) ?_;exact wq []
 .refine m q ?_;exact wq []
noncomputable def wz(isL:bp)(m:Nat)(b:ab W)(c:Nat):ab W×Nat:=if c<2then gP m b (decide (c=1))else(if m=1then ei [b,[d6]]else if m=2/\isL=true then b.filter (λw=>decide (w≠d6))else b,c)
noncomputable def uN(U Z y:Nat):Nat:=mC Z (y%2)+(if U=0then y/2*2 else 0)
noncomputable def mq(isL:bp)(U J:Nat)(B:ab W)(m Z:Nat)(s:Slot):Slot:=⟨eZ s.key,(wz isL m (gm U J B s.kind s.key) s.sign).1,(wz isL m (gm U J B s.kind s.key) s.sign).2,uN U Z s.held⟩
theorem O8:mq false U J B m Z s=et U J B m Z s:=by unfold mq wz et uN;split<;>simp
theorem Qq:(⟨s.key,(mq true U J B m Z s).kind,(mq true U J B m Z s).sign,0⟩:Slot)=gF U J B m s:=by unfold mq wz gF p6;simp only;split<;>simp
structure s5(s:Slot):Prop where
 kb:KB s.kind
 ko:mF s.key
 kl:s.key.length<=12
 sign:s.sign<=2
 held:s.held<=3
noncomputable def DN(s:Slot):D:=.tup [eF s.kind,nD s.sign,nD s.held]
theorem zX:(H++[a,b])[H.length+1]?=some b:=Bb
theorem Ek:(H++[a,b]).set (H.length+1) z=H++[a,z]:=by rw[bT _ _ ((aG _ _))];simp
noncomputable def n4(G l4 Q:ae V)(U J C:Nat)(B:ab W)(isL:bp)(i:Nat)(q:Nat->ae V):Loc:=[G,some (.d (jD U J B)),some (.d (nD C)),some (.d (sD (if isL then[91]else[123]))),l4,Q,some (.ref i),some (.ref (i+1)),q 0,q 1,q 2,q 3,q 4,q 5]
noncomputable def qf(l:Loc)(i:Nat):ae V:=l.getD i none
noncomputable def iI(H:Hp)(b:ab Slot)(O:ab D):Hp:=H++[.eH (b.map λs=>(sD s.key,DN s)) false,.lst O .own]
theorem PL(hb:U<=2)(hc:J<=3)(hf:FB B)(hm:C<9)(Z:s5 s)(hr:O.length<64)(Zk:i.length<64)(hn:eZ s.key∉i.map (·.key)):∃q',(hK (.many [8,9,10,11]) (fF s) (n4 G l4 Q U J C B isL H.length q)).bind (UX (d5 (hY.map BS.run)) ⟨cF (n+2),H.length⟩ (iI H i O))=some (.er,n4 G l4 Q U J C B isL H.length q',iI H (i++[mq isL U J B (C%3) (C/3) s]) (O++[fF ⟨s.key,(mq isL U J B (C%3) (C/3) s).kind,(mq isL U J B (C%3) (C/3) s).sign,0⟩])):=by
 have hA:∀P d9,d5 ((hY.take 2).map BS.run) ⟨cF (n+2),H.length⟩ (n4 G l4 Q U J C B isL H.length (qf [some (.d (sD s.key)),some (.d (eF s.kind)),some (.d (nD s.sign)),some (.d (nD s.held)),d9,P])) (iI H i O)=some (.er,n4 G l4 Q U J C B isL H.length (qf [some (.d (sD s.key)),some (.d (eF s.kind)),some (.d (nD (mq isL U J B (C%3) (C/3) s).sign)),some (.d (nD s.held)),some (.d (eF (mq isL U J B (C%3) (C/3) s).kind)),P]),iI H i O):=by
  intro P d9;have kb:=L0 (U:=U) (J:=J) hf Z.kb Z.ko Z.kl;have rd:=NJ (n:=n) (wm:=H.length) (H:=iI H i O) (I:=s.kind) hb hc hf Z.ko Z.kl;unfold mq wz;generalize gm U J B s.kind s.key=A at*;generalize iI H i O=HH at*;by_cases h2:s.sign<2;.
   rw[aS h2];have hw:decide ((s.sign:Int)=1)=decide (s.sign=1):=by congr 1;simp only[eq_iff_iff];lia
   have sl:=P1 (n:=n) (wm:=H.length) (H:=HH) (C:=C) (N:=decide (s.sign=1)) kb;generalize gP (C%3) A (decide (s.sign=1))=sw at*;obtain⟨υ,J!⟩:=sw;generalize decide (s.sign=1)=b at*;have E:=bg.mpr h2;exact wq [dR 3 rd,sb 1 (tS E),sb 4 (ag some hw),dR 1 sl]
  .rw[aX h2];have E:¬(s.sign:Int)<2:=λe=>h2 (bg.mp e);rcases(show C%3=0\/C%3=1\/C%3=2from by lia)with QI|QI|QI<;>rw[QI]<;>have K:=Hd (a:=C)<;>rw[QI]at K;.exact wq [dR 3 rd,sb 1 (tq E),sd 3 K,sd 5 K]
   .exact wq [dR 3 rd,sb 1 (tq E),sd 3 K,dR 7 (Hm (n:=n+1) (wm:=H.length) (H:=HH) kb)]
   .rcases isL with⟨⟩;.exact wq [dR 3 rd,sb 1 (tq E),sd 3 K,sd 5 K]
    .have Uu:=gA (elt:=u5 14) (cs:=(gi [TE (dS .NotEq (dM 14) (dN (sD d6)))]).run) (c:=⟨cF (n+2),H.length⟩) (H:=HH) (n4 G l4 Q U J C B true H.length (qf [some (.d (sD s.key)),some (.d (eF s.kind)),some (.d (nD s.sign)),some (.d (nD s.held)),some (.d (eF A)),P])) A (λw=>decide (w≠d6)) sD (λw _=>by have e:=Ul (w:=w) (v:=d6) (H:=HH);generalize decide (w≠d6)=b at*;rcases b with⟨⟩<;>exact wb [sb 1 e]) (λw _ _=>rfl) (o:=none);exact wq [dR 3 rd,sb 1 (tq E),sd 3 K,sd 5 K,jX 7 Uu]
 have hB:∀z m P,d5 (((hY.drop 2).take 1).map BS.run) ⟨cF (n+2),H.length⟩ (n4 G l4 Q U J C B isL H.length (qf [some (.d (sD s.key)),some (.d (eF s.kind)),some (.d (nD m)),some (.d (nD s.held)),some (.d (eF z)),P])) (iI H i O)=some (.er,n4 G l4 Q U J C B isL H.length (qf [some (.d (sD s.key)),some (.d (eF s.kind)),some (.d (nD m)),some (.d (nD s.held)),some (.d (eF z)),P]),iI H i (O++[fF ⟨s.key,z,m,0⟩])):=by intro z m P;have ap:=nv (H:=iI H i O) (M:=dP) (c:=⟨cF (n+2),H.length⟩) (x:=fF ⟨s.key,z,m,0⟩) zX (by decide) (bK hr (by decide));unfold iI at ap⊢;rw[Ek]at ap;exact wq [sb 0 (ag some (jm (H:=H++[.eH (i.map λs=>(sD s.key,DN s)) false,.lst O .own]) zX 100 dP)),dR 5 ap]
 have hC:∀z m P R,d5 (((hY.drop 3).take 1).map BS.run) ⟨cF (n+2),H.length⟩ (n4 G l4 Q U J C B isL H.length (qf [some (.d (sD s.key)),some (.d (eF s.kind)),some (.d (nD m)),some (.d (nD s.held)),some (.d (eF z)),P])) R=some (.er,n4 G l4 Q U J C B isL H.length (qf [some (.d (sD s.key)),some (.d (eF s.kind)),some (.d (nD m)),some (.d (nD s.held)),some (.d (eF z)),some (.d (sD (eZ s.key)))]),R):=by
  intro z m P R;refine ml Z.ko λpc rr h hp=>?_;have X7:fZ (.d (sD s.key)) (.int 0) R=some (.d (.str (S [pc]))):=by rw[h];exact RE
  have Yb:=VQ (H:=R) hp;have Vk:eZ s.key=bif decide (pc=48\/pc=49)then 34::(s.key++[34])else s.key:=by unfold eZ;rw[h];by_cases q:pc=48\/pc=49<;>simp[q]
  rw[Vk];generalize decide (pc=48\/pc=49)=b at*;rcases b with⟨⟩;.exact wq [sv 1 X7,sb 1 Yb]
  .exact wq [sv 1 X7,sb 1 Yb,sd 3 (gC (a:=[34]) (b:=s.key) (by rw[eK];have:=Z.kl;simp;lia)),sd 2 (gC (a:=34::s.key) (b:=[34]) (by rw[eK];have:=Z.kl;simp;lia))]
 have hD:∀z m R,d5 ((hY.drop 4).map BS.run) ⟨cF (n+2),H.length⟩ (n4 G l4 Q U J C B isL H.length (qf [some (.d (sD s.key)),some (.d (eF s.kind)),some (.d (nD m)),some (.d (nD s.held)),some (.d (eF z)),some (.d (sD (eZ s.key)))])) (iI H i R)=some (.er,n4 G l4 Q U J C B isL H.length (qf [some (.d (sD s.key)),some (.d (eF s.kind)),some (.d (nD m)),some (.d (nD s.held)),some (.d (eF z)),some (.d (sD (eZ s.key)))]),iI H (i++[⟨eZ s.key,z,m,uN U (C/3) s.held⟩]) R):=by
  intro z m R;have Xj:=iA (f:=λs:Slot=>s.key) (g:=DN) (l:=i);have Vu:rn (sD (eZ s.key)) (.ref H.length) (iI H i R)=some false:=by unfold iI;rw[Fv (x:=sD (eZ s.key)) fD Xj,pR (f:=λs:Slot=>s.key) (g:=DN) hn];rfl
  have j:IH (sD (eZ s.key)) (DN ⟨eZ s.key,z,m,uN U (C/3) s.held⟩) (.ref H.length) (iI H i R)=some (iI H (i++[⟨eZ s.key,z,m,uN U (C/3) s.held⟩]) R):=by unfold iI;rw[Dh (x:=sD (eZ s.key)) fD Xj (by simp;exact bK Zk (by decide)) (zA (f:=λs:Slot=>s.key) (g:=DN) hn)];simp
  have K:=uQ (a:=s.held);have X4:=FZ (n:=n+1) (wm:=H.length) (H:=iI H i R) (C:=C) (y:=s.held%2) hm;generalize eZ s.key=nm at*;unfold uN at j⊢;generalize iI H (i++_) R=S! at*;generalize iI H i R=HH at*;by_cases Py:U=0;.subst Py;rw[aS rfl]at j;exact wq [sb 1 Vu,sd 6 K,dR 1 X4,sd 8 (show fv .FloorDiv (nD s.held) (.int 2)=some (nD (s.held/2))from ik (b:=2) (by decide) (by decide) (by have:=Z.held;lia)),sd 2 (show fv .Mult (nD (s.held/2)) (.int 2)=some (nD (s.held/2*2))from Gg (b:=2) (by have:=Z.held;lia) (by decide)),sh 5 j]
  .rw[aX Py]at j;exact wq [sb 1 Vu,sd 6 K,dR 1 X4,sb 4 (eA λe=>Py (RB.mp e)),sh 6 j]
 exact⟨_,turn rfl (gK (hA (q 5) (q 4)) (gK (hB _ _ _) (gK (hC _ _ _ _) (hD _ _ _))))⟩
end
section
variable{F:ab Int}{T T' T1 T2:ab Row}{X Y:ab Cell}{n wm t g:Nat}{H:Hp}{k:ab W}{r:Row}{L:ab Slot}{p:Piece}{U J C:Nat}{B I:ab W}{kw:W}
theorem wI{l:ab Slot}:(gO l).map (·.key)=sortBy eT (l.map (·.key)):=(lL λ_ _=>rfl).symm
theorem neT(h:w≠v):f6 .NotEq (sD w) (.d (sD v)) []=some true:=Ul.trans (ag some (ay h))
theorem UU:mA (H++[z1]) z2=some (.ref (H.length+1),H++[z1,z2]):=by simp[mA]
noncomputable def Ec(isL:bp)(U J:Nat)(B:ab W)(C:Nat)(s:Slot):D:=fF ⟨s.key,(mq isL U J B (C%3) (C/3) s).kind,(mq isL U J B (C%3) (C/3) s).sign,0⟩
theorem F8(o:U<=2)(y:J<=3)(z:FB B)(A:C<9)(Z:∀s∈L,s5 s)(i:(L.map λs=>eZ s.key).Nodup)(K:L.length<60):∃q,g' (.many [8,9,10,11]) (d5 (hY.map BS.run)) ⟨cF (n+2),H.length⟩ (L.map fF) (n4 G l4 Q U J C B isL H.length (qf [])) (iI H [] [])=some (.er,n4 G l4 Q U J C B isL H.length q,iI H (L.map (mq isL U J B (C%3) (C/3))) (L.map (Ec isL U J B C))):=by
 refine lM (λq=>n4 G l4 Q U J C B isL H.length q) (λd=>iI H (d.map (mq isL U J B (C%3) (C/3))) (d.map (Ec isL U J B C))) L (λd s r q f=>?_) λq h=>⟨q,h⟩;have b:=ag bq f;rw[ao,ba]at b;have c:eZ s.key∉(d.map (mq isL U J B (C%3) (C/3))).map (·.key):=by rw[aK];rw[f,aC,aH,a7]at i;intro q;exact i.2.2 _ q _ (.head _) rfl
 refine(PL (n:=n) (H:=H) (isL:=isL) (G:=G) (l4:=l4) (Q:=Q) (q:=q) o y z A (Z s (eL f (aN _ (.head _)))) (O:=d.map (Ec isL U J B C)) (by rw[ak];lia) (by rw[ak];lia) c).elim λE e=>?_;refine vj e λl j m=>?_;rw[aC,aC];exact xx l E j m
noncomputable def iv:Piece->Prop|.prim w=>w≠[91]/\w≠[123]|.obj L=>(∀s∈L,s5 s)/\(L.map λs=>eZ s.key).Nodup/\L.length<60|.lst L _=>(∀s∈L,s5 s)/\(L.map λs=>eZ s.key).Nodup/\L.length<60
theorem Rq(h:U<=2)(a:J<=3)(hf:FB B)(O:C<9)(Z:iv p):cF (n+3) wm 1043 [.d (fH p),.d (jD U J B),.d (nD C)] H=some (.d (fH (eB U J B (C%3) (C/3) p)),H):=by
 induction p using Piece.casesOn with
 |prim w=>obtain⟨h1,h2⟩:=Z;exact wk pK rfl [sb 1 (neT h1),sb 2 (neT h2),dR 1 (eQ (fH (Piece.prim w)) H)]|lst L i=>
  refine hd λ_ b=>?_;refine ph (Z) λZ z m=>?_;refine(F8 (n:=n) (H:=H) (isL:=true) (G:=some (.d (fH (.lst L i)))) (l4:=some (.d (.lst (L.map fF)))) (Q:=some (.d (nD i))) h a hf O Z z m).elim λq e=>b ?_;have e2:L.map (Ec true U J B C)=(L.map (gF U J B (C%3))).map fF:=by rw[aK];exact bF λs _=>ag fF Qq
  rw[e2]at e;show cF _ _ _ _ _=some (.d (.tup [sD [91],.lst ((L.map (gF U J B (C%3))).map fF),nD (mC (C/3) i)]),H);generalize L.map (mq true U J B (C%3) (C/3))=M at*;generalize(L.map (gF U J B (C%3))).map fF=R at*;have K:=vG [.eH (M.map λs=>(sD s.key,DN s)) false,.lst R .fz] (.tup [sD [91],.lst R,nD (mC (C/3) i)]) H;exact wk pK rfl [dR 4 (UU (H:=H) (z1:=.eH [] false) (z2:=.lst [] .own)),mb 1 e,Q7 4 (show toD (.ref (H.length+1)) (iI H M R)=some (.lst R,H++[.eH (M.map λs=>(sD s.key,DN s)) false,.lst R .fz])from(Lv zX).trans (by rw[Ek])),dR 2 (FZ (n:=n+1) (wm:=H.length) (H:=H++[.eH (M.map λs=>(sD s.key,DN s)) false,.lst R .fz]) (y:=i) O),dR 1 K]|obj L=>
  refine hd λ_ b=>?_;refine ph (Z) λZ z m=>?_;refine(F8 (n:=n) (H:=H) (isL:=false) (G:=some (.d (fH (.obj L)))) (l4:=some (.d (.lst (L.map fF)))) (Q:=some (.d (.int 0))) h a hf O Z z m).elim λq e=>b ?_;rw[show mq false U J B (C%3) (C/3)=et U J B (C%3) (C/3)from funext λs=>O8]at e;have N:((L.map (et U J B (C%3) (C/3))).map (·.key)).Nodup:=by rw[aK];simp only[a8,fy];exact z
  have L!:(L.map (et U J B (C%3) (C/3))).length<60:=by rw[ak];exact m
  show cF _ _ _ _ _=some (.d (.tup [sD [123],.lst ((gO (L.map (et U J B (C%3) (C/3)))).map fF),.int 0]),H);generalize L.map (et U J B (C%3) (C/3))=M at*;generalize L.map (Ec false U J B C)=j at*;have hs:iu 201 [.ref H.length] (iI H M j)=some (.lst ((gO M).map (λs=>sD s.key))):=by
   have e:((M.map λs=>(sD s.key,DN s)).map (·.1))=(M.map (·.key)).map sD:=by simp[a8]
   have:=nk (k:=M.map (·.key)) (by simp;lia);unfold iI;simp only[iu,tW,zx,anyB,jB,fD,iA (f:=λs:Slot=>s.key) (g:=DN) (l:=M),acV,adp,bh];rw[e,this,←wI,aK];rfl
  have E:=fV (elt:=(d8 [dM 14,dQ (dQ (dM 6) (dM 14)) (dN (.int 0)),dQ (dQ (dM 6) (dM 14)) (dN (.int 1)),dQ (dQ (dM 6) (dM 14)) (dN (.int 2))]).run) (c:=⟨cF (n+2),H.length⟩) (e:=λs:Slot=>sD s.key) (H:=iI H M j) (n4 (some (.d (fH (.obj L)))) (some (.d (.lst (L.map fF)))) (some (.d (.int 0))) U J C B false H.length q) (gO M) fF (o:=none) (λs P=>by have A:fZ (.ref H.length) (sD s.key) (iI H M j)=some (.d (DN s)):=Ha fD (iA) (by rw[sS,rk N (nx.mp P)];rfl);exact wd [sv 2 A,sv 4 A,sv 4 A]);exact wk pK rfl [dR 7 (UU (H:=H) (z1:=.eH [] false) (z2:=.lst [] .own)),mb 1 e,sd 4 hs,jX 1 E,dR 2 (show fin H.length (.ret (.d (.tup [sD [123],.lst ((gO M).map fF),.int 0])),[],iI H M j)=some (.d (.tup [sD [123],.lst ((gO M).map fF),.int 0]),H)from by simp[(show(iI H M j).take H.length=H from by simp[iI])])]
end
section
variable{F:ab Int}{T T' T1 T2:ab Row}{X Y:ab Cell}{n wm t g:Nat}{H:Hp}{k:ab W}{r:Row}{L:ab Slot}{p:Piece}{U J C:Nat}{B I:ab W}{kw:W}
noncomputable def LW(w:W):Prop:=w∈[fW,ea,d6,gx,d0,dZ,hJ,i8]\/(∃a,a<128/\w=[34,a,34])\/∃m,m<10/\w=[48+m]
theorem LW.mF(h:LW w):mF w:=by
 rcases h with h|⟨a,_,rfl⟩|⟨m,h,rfl⟩;.simp only[ah,ai,a6]at h;rcases h with rfl|rfl|rfl|rfl|rfl|rfl|rfl|rfl<;>exact⟨_,_,rfl,by decide⟩
 .exact jQ _ _ ⟨rfl,by decide⟩
 .exact jQ _ _ ⟨rfl,by lia⟩
theorem LW.len(h:LW w):w.length<=9:=by
 rcases h with h|⟨a,_,rfl⟩|⟨m,h,rfl⟩;.simp only[ah,ai,a6]at h;rcases h with rfl|rfl|rfl|rfl|rfl|rfl|rfl|rfl<;>decide
 .simp
 .simp
theorem sW(c:D.has (sD w) [sD fW,sD ea,sD fG,sD [118,111,105,100],sD d6,sD gx,sD d0,sD dZ,sD hJ,sD i8,sD [111,98,106,101,99,116]]=some true)(e:kj (S w) [sD fW,sD ea,sD fG,sD [118,111,105,100],sD d6,sD gx,sD d0,sD dZ,sD hJ,sD i8,sD [111,98,106,101,99,116]]=some i):Runs 1 971 [d7,.d (sD w)] T (.d (nD i)) T:=by
 intro n wm F X;have b:fK dP ⟨cF n,11+X.length⟩ (.d (.tup [.str (S fW),.str (S ea),.str (S fG),.str (S [118,111,105,100]),.str (S d6),.str (S gx),.str (S d0),.str (S dZ),.str (S hJ),.str (S i8),.str (S [111,98,106,101,99,116])])) 105 [.d (sD w)] (hs F T X)=some (.d (nD i),hs F T X):=by exact ag (cx λ(n:Nat)=>((.d (.int (n:Int)),hs F T X):V×Hp)) e
 exact wk oi dT [sb 1 c,dR 3 b,dR 0 (dU F X (nD i) T)]
theorem Ps(G:Good (g+1) T)(h:LW w):∃q T',Runs 3 971 [d7,.d (sD w)] T (.d (nD q)) T'/\Good g T'/\T<+:T'/\∃r,T'[q]?=some r/\ek r w:=by
 rcases h with h|⟨a,_,rfl⟩|⟨m,h,rfl⟩;.
  simp only[ah,ai,a6]at h;have f:∀{w:W}{i:Nat}{r:Row},D.has (sD w) [sD fW,sD ea,sD fG,sD [118,111,105,100],sD d6,sD gx,sD d0,sD dZ,sD hJ,sD i8,sD [111,98,106,101,99,116]]=some true->kj (S w) [sD fW,sD ea,sD fG,sD [118,111,105,100],sD d6,sD gx,sD d0,sD dZ,sD hJ,sD i8,sD [111,98,106,101,99,116]]=some i->T[i]?=some r->ek r w->∃q T',Runs 3 971 [d7,.d (sD w)] T (.d (nD q)) T'/\Good g T'/\T<+:T'/\∃r,T'[q]?=some r/\ek r w:=by intro w i r a b c d;exact jQ i T ⟨λn=>sW a b (n+2),(G.le ((aG _ _))),aq _,r,c,d⟩
  have j:∀{w:W},w∈[fW,ea,fG,[118,111,105,100],d6,gx,d0,dZ,hJ,i8,[111,98,106,101,99,116]]->D.has (sD w) [sD fW,sD ea,sD fG,sD [118,111,105,100],sD d6,sD gx,sD d0,sD dZ,sD hJ,sD i8,sD [111,98,106,101,99,116]]=some true:=by intro w h;have:=has_str (w:=w) (k:=[fW,ea,fG,[118,111,105,100],d6,gx,d0,dZ,hJ,i8,[111,98,106,101,99,116]]);rw[ay h]at this;exact this
  rcases h with rfl|rfl|rfl|rfl|rfl|rfl|rfl|rfl;.exact f (j (by decide)) rfl (G.at rfl) ⟨by decide,rfl⟩
  .exact f (j (by decide)) rfl (G.at rfl) ⟨by decide,rfl⟩
  .exact f (j (by decide)) rfl (G.at rfl) ⟨by decide,rfl⟩
  .exact f (j (by decide)) rfl (G.at rfl) ⟨by decide,rfl⟩
  .exact f (j (by decide)) rfl (G.at rfl) ⟨by decide,rfl⟩
  .exact f (j (by decide)) rfl (G.at rfl) ⟨by decide,rfl⟩
  .exact f (j (by decide)) rfl (G.at rfl) ⟨rfl,.inl ⟨rfl,rfl⟩⟩
  .exact f (j (by decide)) rfl (G.at rfl) ⟨rfl,.inr ⟨rfl,rfl⟩⟩
 .refine jQ _ _ ⟨?_,G.put,eh,.str [a],gq,rfl,rfl⟩;intro n wm F X;have o:∀H,Q5 (.d (.str (S [34,a,34])),H)=some (.d (sD [a]),H):=by intro H;rw[JZ,aS (by simp[eK])];rfl
  exact wk oi dT [dR 11 ((HM (s:=[a]) G.lt) n (11+X.length) F X),dR 0 (dU F X (nD (fO T (Row.str [a]))) (fj T (Row.str [a])))]
 .refine jQ _ _ ⟨?_,G.put,eh,.num m,gq,h,rfl⟩;intro n wm F X;have l:iu 205 [.d (sD [48+m])] (hs F T X)=some (nD m):=by
   have e:jk (S [48+m])=some (m:Int):=by
    have:48<=48+m/\48+m<58:=by lia
    simp[jk,this]
   exact ag (cx D.int) e
  exact wk oi dT [sb 6 (show f6 ac8 (D.str (S [48+m])) (V.d (D.str (aa "\""))) (hs F T X)=some false by simp[(show¬(48+m=34)from by lia)]),sd 2 l,dR 1 ((SZ (s:=m) G.lt) n (11+X.length) F X),dR 0 (dU F X (nD (fO T (Row.num m))) (fj T (Row.num m)))]
theorem As(G:Good (g+1+k.length) T)(N:wu k)(h:∀w∈k,LW w)(Q:k.length<=20):∃t' T',cF (n+4) wm 976 [d7,.d (eF k)] (hs F T X)=some (.d (nD t'),hs F T' X)/\Good g T'/\T<+:T'/\ShQ ek T' t' k/\(parts T' t').length<=k.length:=by
 refine uq (F:=F) (X:=X) (elt:=(dO 971 [(dM 0),(dM 2)]).run) (tg:=.one 2) (c:=⟨cF (n+3),11+X.length⟩) (e:=sD) (L:=[some d7,some (.d (eF k))]) 1 (R:=λT w t=>∃r,T[t]?=some r/\ek r w) (λh y=>d9 y λr a b=>i12 r (fQ h a) b) (λ_ _=>rfl) k (O:=none) (by rw[Nat.one_mul];exact G) (λw z j T1 K m=>?_) λT1 ts P m K i s f=>?_;.refine jr (Ps m (h w z)) λq T2 o l A y=>?_;exact qW q T2 (wd [dR 2 (o n (11+X.length) F X)]) l A y
 refine l7 n9 m (.inr rfl) (λq Z=>?_) s N (i▸aj Q (by decide)) λt' T2 o l A M E _=>?_;.refine d9 (f q Z) λw z y=>?_;refine d9 y λr a b=>?_;exact Dd r w a b z
 exact Rg t' T2 (wk Ar dT [jX 2 P,dR 1 (o n (11+X.length) F X),dR 0 (dU F X (nD t') T2)]) l (K.trans A) M (yE l M)
structure FK(k:ab W):Prop where
 n:wu k
 w:∀w∈k,LW w
 l:k.length<=3
theorem FK.fb(h:FK k):FB k:=⟨by have:=h.l;lia,λw b=>⟨(h.w w b).mF,by have:=(h.w w b).len;lia⟩⟩
theorem ou(G:Good (g+4) T)(h:FK k):∃t' T',cF (n+4) wm 976 [d7,.d (eF k)] (hs F T X)=some (.d (nD t'),hs F T' X)/\Good g T'/\T<+:T'/\K0 T' t' k:=by refine(let f:Prop:=_;(?_:f));refine CZ (As (F:=F) (X:=X) (n:=n) (wm:=wm) (g:=g) (G.le (by have:=h.l;lia)) h.n h.w (by have:=h.l;lia)) λt' T' c b e s l=>?_;exact jQ t' T' ⟨c,b,e,s,ar (aY _ _) (by have:=h.l;lia)⟩
noncomputable def kx:ab W:=[[34,97,34],[48],d6,[34,98,34],gx,[49],d0,i8,dZ,hJ]
theorem t5:∀w∈kx,LW w:=by
 intro w h;simp only[kx,ah,ai,a6]at h;rcases h with rfl|rfl|rfl|rfl|rfl|rfl|rfl|rfl|rfl|rfl;.exact .inr (.inl ⟨97,by decide,rfl⟩)
 .exact .inr (.inr ⟨0,by decide,rfl⟩)
 .exact .inl (by decide)
 .exact .inr (.inl ⟨98,by decide,rfl⟩)
 .exact .inl (by decide)
 .exact .inr (.inr ⟨1,by decide,rfl⟩)
 .exact .inl (by decide)
 .exact .inl (by decide)
 .exact .inl (by decide)
 .exact .inl (by decide)
noncomputable def SI(k:ab W):Prop:=FK k/\∀w∈k,w∈kx
theorem Fx(h:i<10):∃w∈kx,([.str (S [34,97,34]),.str (S [48]),.str (S d6),.str (S [34,98,34]),.str (S gx),.str (S [49]),.str (S d0),.str (S i8),.str (S dZ),.str (S hJ)]:ab D)[i]?=some (sD w):=by refine i12 (kx[i]) (aai _) ?_;show(kx.map sD)[i]?=_;exact bV.trans (ag _ (au h))
theorem xi{d:ab W}(h:∀w∈d,w∈kx)(e:d.length<=3):SI (ei (d.map λw=>[w])):=by
 have f:∀v∈ei (d.map λw=>[w]),v∈d:=by intro v i;rw[eM]at i;refine d9 (i.1) λl e b=>?_;obtain⟨w,c,rfl⟩:=af.mp e;replace b:=kB b;rw[b];exact c
 exact⟨⟨je,λw c=>t5 w (h w (f w c)),ar (len_sub (SS.nd gZ) f) e⟩,λw c=>h w (f w c)⟩
theorem w4(hm:m<100000):∃k,SI k/\∀n wm H,cF (n+2) wm 957 [.d (nD m)] H=some (.d (eF k),H):=by
 refine(let γ:Prop:=_;(?_:γ));refine d9 (Fx (i:=m%10) (by lia)) λe h1 e1=>?_;refine d9 (Fx (i:=m/10%10) (by lia)) λf h2 e2=>?_;refine d9 (Fx (i:=m/300%10) (by lia)) λo h3 e3=>?_;have E:fv .FloorDiv (.int (m:Int)) (.int 10)=some (nD (m/10)):=ik (by decide) (by decide) (by lia);have s:fv .FloorDiv (.int (m:Int)) (.int 100)=some (nD (m/100)):=ik (by decide) (by decide) (by lia);have G:∀z:ab W,(∀w∈z,w∈kx)->z.length<=3->∀n wm H,cF (n+1) wm 943 [.d (.lst ((z.map λw=>[w]).map eF))] H=some (.d (eF (ei (z.map λw=>[w]))),H):=by
  intro z y hl n wm H;refine vR ?_ ?_;.
   have:(z.map λw=>[w]).flatten=z:=by induction z with|nil=>rfl|cons a l ih=>simp[ih (λw N=>y w (by simp[N])) (by simp at hl;lia)]
   rw[this];lia
  .intro k hk w A;obtain⟨v,hv,rfl⟩:=af.mp hk;replace A:=kB A;rw[A];exact(t5 v (y v hv)).mF
 have m1:fv .Mod (.int (m:Int)) (.int 10)=some (nD (m%10)):=zf;have m2:fv .Mod (.int ((m/10:Nat):Int)) (.int 10)=some (nD (m/10%10)):=zf;have m4:fv .Mod (.int ((m/100:Nat):Int)) (.int 3)=some (nD (m/100%3)):=Hd;generalize m/100%3=q at*;generalize m/100=R at*;generalize m/10%10=Q at*;generalize m/10=t! at*;generalize m/300%10=a3 at*;generalize m/300=h at*;generalize m%10=P at*;by_cases hq:q=2;.
  refine hd λ_ O=>?_;subst hq;have y:∀w∈[e,f,o],w∈kx:=by simp only[ah,ai,a6,aah,cH];exact⟨h1,h2,h3⟩
  refine O ?_;refine i12 _ (xi y (by simp)) (λn wm H=>?_);have j:=λn wm H=>G [e,f,o] y (by simp) n wm H;simp only[aH,bD]at j;have ap:=λc=>vX (H:=H) (L:=[]) (M:=dP) (c:=c) (Z:=[.lst [sD e],.lst [sD f]]) (x:=.lst [sD o]) (by rw[eK];simp);exact wk qN rfl [sd 2 m1,sv 1 (show fZ (V.d ff) (nD P) H=some (V.d (sD e))by simp[ff,e1]),sd 4 E,sd 2 m2,sv 1 (show fZ (V.d ff) (nD Q) H=some (V.d (sD f))by simp[ff,e2]),sd 5 s,sd 2 m4,sb 3 (show some (iY dP (V.ref (bq H)) 100 (H++[Cell.lst [D.lst [sD e],D.lst [sD f]] Mode.own]))=some true by simp),sd 2 (show fv .FloorDiv (.int (m:Int)) (.int 300)=some (nD (m/300))from ik (b:=300) (by decide) (by decide) (by lia)),sd 2 (show fv .Mod (.int ((m/300:Nat):Int)) (.int 10)=some (nD (m/300%10))from zf),sv 1 (show fZ (V.d ff) (nD a3) (H++[Cell.lst [D.lst [sD e],D.lst [sD f]] Mode.own])=some (V.d (sD o))by simp[ff,e3]),dR 2 (ap {call:=cF (n+1),wm:=bq H}),dR 0 (show ig (V.ref (bq H)) (H++[Cell.lst [D.lst [sD e],D.lst [sD f],D.lst [sD o]] Mode.own])=some (V.d (D.lst [D.lst [sD e],D.lst [sD f],D.lst [sD o]]),H++[Cell.lst [D.lst [sD e],D.lst [sD f],D.lst [sD o]] Mode.fz])by simp),dR 0 (j n (bq H) (H++[Cell.lst [D.lst [sD e],D.lst [sD f],D.lst [sD o]] Mode.fz])),dR 0 (vG [Cell.lst [D.lst [sD e],D.lst [sD f],D.lst [sD o]] Mode.fz] (eF (ei [[e],[f],[o]])) H)]
 .have y:∀w∈[e,f],w∈kx:=by simp only[ah,ai,a6,aah,cH];exact⟨h1,h2⟩
  refine i12 _ (xi y (by simp)) (λn wm H=>?_);have j:=λn wm H=>G [e,f] y (by simp) n wm H;simp only[aH,bD]at j;have K:¬(q:Int)=2:=by lia
  exact wk qN rfl [sd 2 m1,sv 1 (show fZ (V.d ff) (nD P) H=some (V.d (sD e))by simp[ff,e1]),sd 4 E,sd 2 m2,sv 1 (show fZ (V.d ff) (nD Q) H=some (V.d (sD f))by simp[ff,e2]),sd 5 s,sd 2 m4,sb 1 (eA K),dR 1 (show ig (V.ref (bq H)) (H++[Cell.lst [D.lst [sD e],D.lst [sD f]] Mode.own])=some (V.d (D.lst [D.lst [sD e],D.lst [sD f]]),H++[Cell.lst [D.lst [sD e],D.lst [sD f]] Mode.fz])by simp),dR 0 (j n (bq H) (H++[Cell.lst [D.lst [sD e],D.lst [sD f]] Mode.fz])),dR 0 (vG [Cell.lst [D.lst [sD e],D.lst [sD f]] Mode.fz] (eF (ei [[e],[f]])) H)]
theorem oB(i:m<100000):∃k,FK k/\∀n wm H,cF (n+3) wm 964 [.d (nD m)] H=some (.d (eF k),H):=by
 have b:fv .Mod (.int (m:Int)) (.int 40)=some (nD (m%40)):=Pn;by_cases h:36<m%40;.
  have c:(36:Int)<((m%40:Nat):Int):=(abX.mpr ‹_›);have hs:fv .Sub (.int ((m%40:Nat):Int)) (.int 37)=some (nD (m%40-37)):=by show some (D.int _)=_;congr 2;lia
  have j:m%40-37=0\/m%40-37=1\/m%40-37=2:=by lia
  generalize m%40-37=z at*;generalize m%40=q at*;rcases j with rfl|rfl|rfl;.refine i12 ([fW]) ⟨vL,by simp only[ah,ai,a6,cH];exact .inl (by decide),by simp⟩ (λn wm H=>?_);exact wk lZ rfl [sd 2 b,sb 1 (tS c),sd 8 b,sd 2 hs,dR 2 (eQ (D.lst [D.str (S fW)]) H)]
  .refine i12 ([ea]) ⟨vL,by simp only[ah,ai,a6,cH];exact .inl (by decide),by simp⟩ (λn wm H=>?_);exact wk lZ rfl [sd 2 b,sb 1 (tS c),sd 8 b,sd 2 hs,dR 2 (eQ (D.lst [D.str (S ea)]) H)]
  .refine i12 [] ⟨pn,by simp,by simp⟩ (λn wm H=>?_);exact wk lZ rfl [sd 2 b,sb 1 (tS c),sd 8 b,sd 2 hs,dR 2 (eQ (D.lst []) H)]
 .refine d9 (w4 i) λk f e=>?_;refine i12 k f.1 (λn wm H=>?_);have c:¬(36:Int)<((m%40:Nat):Int):=by lia
  generalize m%40=q at*;exact wk lZ rfl [sd 2 b,sb 1 (tq c),dR 2 (e n (bq H) H),dR 0 (eQ (eF k) H)]
end
section
variable{F:ab Int}{T T' T1 T2:ab Row}{X Y:ab Cell}{n wm t g:Nat}{H:Hp}{k:ab W}{r:Row}{L:ab Slot}{p:Piece}{U J C over R:Nat}{B I Q:ab W}{kw:W}
theorem KP:cF (n+1) wm 201 [a,b] H=cF (n+1) wm 201 [a,b,.d (.int 0)] H:=by rw[j3,j3];rfl
theorem Er(b:T.length<big):Runs 3 201 [d7,.d (.lst [.tup [nD x,.int 0]])] T (.d (nD (fO T (.tup [(x,0)] 0)))) (fj T (.tup [(x,0)] 0)):=by intro n wm F X;rw[show n+3=(n+2)+1by lia,KP];exact(rA (show my [(x,0)]from⟨by simp,by simp,by simp⟩) (.inr rfl) b n wm F X)
theorem uY(h:T.length<big)(b:gE r=x):Runs 1 136 [d7,.d x] T (.d (nD (fO T r))) (fj T r):=b▸qp h
theorem Ox(G:Good (g+1) T):∃x T',Runs 3 289 [d7,.d (.lst [.int 16,.int 5])] T (.d (nD x)) T'/\Good g T'/\T<+:T'/\T'[x]?=some (.jV [5,16]):=by
 have c:=eO (G.at (i:=16) rfl) (by decide) (by simp);have e:=eO (G.at (i:=5) rfl) (by decide) (by simp);have b:([16,5]:ab Nat).flatMap (parts T)=[16,5]:=by simp[c,e]
 have run:=A3 (ts:=[16,5]) (.inr rfl) (by simp only[ah,ai,a6,aah,cH];exact⟨gJ (G.at rfl),gJ (G.at rfl)⟩) (by rw[b];simp only[ah,ai,a6,aah,cH];exact⟨⟨_,G.at rfl,by simp⟩,⟨_,G.at rfl,by simp⟩⟩) (by rw[b];decide) (by rw[b];decide) (by rw[b];decide) (by rw[b];decide) G.lt;rw[b]at run;have f:mh T [16,5]=[5,16]:=by unfold mh;rw[(show we [16,5]=[5,16]from by decide)];simp only[stays,cV,(G.at (i:=16) rfl),(G.at (i:=5) rfl)];rfl
 have j:tC T (fi [] [16,5])=(fO T (.jV [5,16]),fj T (.jV [5,16])):=by
  have:fi [] ([16,5]:ab Nat)=[16,5]:=by decide
  unfold tC;rw[this,f];simp
 rw[j]at run;exact⟨_,_,run,G.put,eh,gq⟩
noncomputable def B7(over U J:Nat)(B:ab W)(a2 a3 O:ae V)(q:Loc):Loc:=some d7::some (.d (nD over))::a2::a3::some (.d (nD 16))::some (.d (jD U J B))::O::q
theorem OF(G:Good (g+5) T)(hb:U<=2)(hc:J<=3)(A:U=0->J=0)(a:FK B){M:Prop}(κ:∀x T',d5 ((pF.take 7).map BS.run) ⟨cF (n+4),11+X.length⟩ (B7 over U J B a2 a3 O [none,none,none,none,none]) (hs F T X)=some (.er,B7 over U J B a2 a3 O [some (.d (nD U)),some (.d (nD J)),some (.d (eF B)),some (.d (nD x)),none],hs F T' X)->Good g T'->T<+:T'->jR T' x U J B over->M):M:=by
 have P:Good g T:=G.le ((aG _ _));have c:Good (g+1) T:=G.le (by lia);have l:J=0\/J=1\/J=2\/J=3:=by lia
 rcases(show U=0\/U=1\/U=2by lia)with rfl|rfl|rfl;.obtain rfl:=A rfl;have j:=uY (r:=.idx over 16) c.lt rfl (n+3) (11+X.length) F X;refine κ _ _ ?_ c.put eh (.inl ⟨rfl,gq⟩);exact wq [dR 8 j]
 .rcases l with rfl|rfl|rfl|rfl;.exact κ 16 T (wq []) P (aq _) (.inr ⟨by decide,.inl ⟨rfl,.inl ⟨rfl,rfl⟩⟩⟩)
  .have E:=Er (x:=16) c.lt (n+1) (11+X.length) F X;refine κ _ _ ?_ c.put eh (.inr ⟨by decide,.inl ⟨rfl,.inr (.inl ⟨rfl,gq⟩)⟩⟩);exact wq [dR 14 E]
  .refine jr (Ox c) λx T' r N p' hx=>?_;refine κ x T' ?_ N p' (.inr ⟨by decide,.inl ⟨rfl,.inr (.inr (.inl ⟨rfl,hx⟩))⟩⟩);have r:=r (n+1) (11+X.length) F X;exact wq [dR 16 r]
  .have q:=x2 (e:=16) (ro:=1) c.lt (n+2) (11+X.length) F X;refine κ _ _ ?_ c.put eh (.inr ⟨by decide,.inl ⟨rfl,.inr (.inr (.inr ⟨rfl,gq⟩))⟩⟩);exact wq [dR 18 q]
 .refine jr (ou (F:=F) (X:=X) (n:=n) (wm:=11+X.length) G a) λf T1 m b o K=>?_;have s:Good g T1:=b.le ((aG _ _));rcases l with rfl|rfl|rfl|rfl;.refine κ f T1 ?_ s o (.inr ⟨by decide,.inr ⟨rfl,.inl ⟨rfl,K⟩⟩⟩);exact wq [dR 8 m]
  .have E:=Er (x:=f) b.lt (n+1) (11+X.length) F X;refine κ _ _ ?_ b.put (o.trans eh) (.inr ⟨by decide,.inr ⟨rfl,.inr (.inl ⟨rfl,f,K.pre eh,gq⟩)⟩⟩);exact wq [dR 8 m,dR 8 E]
  .refine tl Tt b K (b.at (i:=5) rfl) ⟨by decide,rfl⟩ rfl (.inl rfl) (.inr rfl) λt' T' y Z h z=>?_;refine κ t' T' ?_ Z (o.trans h) (.inr ⟨by decide,.inr ⟨rfl,.inr (.inr (.inl ⟨rfl,z⟩))⟩⟩);have y:=y (n+1) (11+X.length) F X;exact wq [dR 8 m,dR 10 y]
  .have q:=x2 (e:=f) (ro:=1) b.lt (n+2) (11+X.length) F X;refine κ _ _ ?_ b.put (o.trans eh) (.inr ⟨by decide,.inr ⟨rfl,.inr (.inr (.inr ⟨rfl,f,K.pre eh,gq⟩))⟩⟩);exact wq [dR 8 m,dR 12 q]
noncomputable def M6(T:ab Row)(R c over:Nat)(Q:ab W):Prop:=(R<3->T[c]?=some (.h9 over))/\(R=3->∃a b,T[c]?=some (.inter a b)/\T[a]?=some (.h9 over)/\ShQ ek T b Q/\(parts T b).length<=7)/\(R=4->ShQ ek T c Q/\(parts T c).length<=7)
theorem Tz(G:Good (g+20) T)(hb:U<=2)(hc:J<=3)(N:U=0->J=0)(hf:FK B)(ho:R<=4)(hm:C<9)(Nk:wu Q)(hk:∀w∈Q,LW w)(hl:Q.length<=7):∃kt x T',cF (n+5) wm 1050 [d7,.d (nD over),.d (eF Q),.d (nD R),.d (nD 16),.d (jD U J B),.d (nD C)] (hs F T X)=some (.d (eJ kt (if R=2then 16 else-1) x (C%3) (C/3)),hs F T' X)/\Good g T'/\T<+:T'/\jR T' x U J B over/\M6 T' R kt over Q:=by
 refine hd λ_ YM=>?_;refine OF (F:=F) (X:=X) (n:=n) (over:=over) G hb hc N hf (a2:=some (.d (eF Q))) (a3:=some (.d (nD R))) (O:=some (.d (nD C))) λx T1 cA G1 Z S=>?_;refine CZ (As (F:=F) (X:=X) (n:=n) (wm:=11+X.length) (g:=g+3) (G1.le (by lia)) Nk hk (by lia)) λi T2 s m l sk lk=>?_;have E:fv .Mod (nD C) (.int 3)=some (nD (C%3)):=Hd;have y:fv .FloorDiv (nD C) (.int 3)=some (nD (C/3)):=ik (by decide) (by decide) (by lia);have K:∀{T:ab Row}{k:Nat},Good k T->fZ (.ref 2) (.int 16) (hs F T X)=some (.d (gE (.param 0))):=by intro T k G;have:=Qh (F:=F) (T:=T) (X:=X) (t:=16);rw[G.at rfl]at this;exact this
 have fin:∀{q o v},(d5 ((pF.drop 7).map BS.run) ⟨cF (n+4),11+X.length⟩ (B7 over U J B (some (.d (eF Q))) (some (.d (nD R))) (some (.d (nD C))) [some (.d (nD U)),some (.d (nD J)),some (.d (eF B)),some (.d (nD x)),none]) (hs F T1 X)=some (.ret (.d v),q,hs F o X))->cF (n+5) wm 1050 [d7,.d (nD over),.d (eF Q),.d (nD R),.d (nD 16),.d (jD U J B),.d (nD C)] (hs F T X)=some (.d v,hs F o X):=by intro q o v h;rw[BM,ip rfl,dT];exact(ag (ck · (Mine.fin (11+X.length))) (gK cA h)).trans (dU F X v o)
 refine YM ?_;have z:Good (g+1) T2:=m.le (by lia);rcases dp R 3with h3|h3;.
  have j:=uY (r:=.h9 over) z.lt rfl (n+3) (11+X.length) F X;have f:(R:Int)<3:=(abX.mpr ‹_›);have P:¬(R:Int)=3:=by lia
  refine⟨_,x,_,fin (q:=B7 over U J B (some (.d (eF Q))) (some (.d (nD R))) (some (.d (nD C))) [some (.d (nD U)),some (.d (nD J)),some (.d (eF B)),some (.d (nD x)),some (.d (nD (fO T2 (.h9 over))))]) ?_,z.put,Z.trans (l.trans eh),S.pre (l.trans eh),λ_=>gq,λe=>by lia,λe=>by lia⟩;by_cases A:R=2;.subst A;rw[aS rfl];have b:=K (z.put (r:=.h9 over));exact wq [dR 2 s,dR 7 j,sv 6 b,sd 11 E,sd 3 y]
  .have c:¬(R:Int)=2:=by lia
   rw[aX A];have b:=K (z.put (r:=.h9 over));exact wq [dR 2 s,sb 1 (tS f),dR 5 j,sb 1 (eA P),sv 4 b,sb 5 (eA c),sd 5 E,sd 3 y]
 .have f:¬(R:Int)<3:=by lia
  have A:¬R=2:=(aao ‹_›);have c:¬(R:Int)=2:=by lia
  rw[aX A];by_cases e3:R=3;.
   subst e3;have gg:Good (g+2) T2:=m.le (by lia);have a:=uY (r:=.h9 over) (x:=.tup [.int 14,nD over]) gg.lt rfl (n+3) (11+X.length) F X;have M:Good (g+1) (fj T2 (.h9 over)):=gg.put;have Yr:=uY (T:=fj T2 (.h9 over)) (r:=.inter (fO T2 (.h9 over)) i) (x:=.tup [.int 7,.tup [nD (fO T2 (.h9 over)),nD i]]) M.lt rfl (n+3) (11+X.length) F X;refine⟨_,x,_,fin (q:=B7 over U J B (some (.d (eF Q))) (some (.d (nD 3))) (some (.d (nD C))) [some (.d (nD U)),some (.d (nD J)),some (.d (eF B)),some (.d (nD x)),some (.d (nD (fO (fj T2 (.h9 over)) (.inter (fO T2 (.h9 over)) i))))]) ?_,M.put,Z.trans (l.trans (eh.trans eh)),S.pre (l.trans (eh.trans eh)),λe=>(ax ‹_› (cQ _)),λ_=>⟨_,_,gq,fQ eh gq,sk.imp (eh.trans eh) λ_ _ q=>q,?_⟩,λe=>(ax ‹_› (by decide))⟩;.have b:=K (M.put (r:=.inter (fO T2 (.h9 over)) i));exact wq [dR 2 s,dR 12 a,dR 4 Yr,sv 3 b,sd 11 E,sd 3 y]
   .rw[ke (eh.trans eh) sk.lt];lia
  .have P:¬(R:Int)=3:=by lia
   refine⟨i,x,T2,fin (q:=B7 over U J B (some (.d (eF Q))) (some (.d (nD R))) (some (.d (nD C))) [some (.d (nD U)),some (.d (nD J)),some (.d (eF B)),some (.d (nD x)),some (.d (nD i))]) ?_,m.le ((aG _ _)),Z.trans l,S.pre l,λe=>by lia,λe=>(ax ‹_› ‹_›),λ_=>⟨sk,by lia⟩⟩;have b:=K m;exact wq [dR 2 s,sb 1 (tq f),sb 2 (eA P),sv 4 b,sb 5 (eA c),sd 5 E,sd 3 y]
end
section
variable{F:ab Int}{T T' T1 T2:ab Row}{X Y:ab Cell}{n wm t g:Nat}{H:Hp}{k:ab W}{r:Row}{L:ab Slot}{p:Piece}
theorem oU(h:Z.length<64):fK M c (.ref (11+(X.length+1))) 100 [.d v] (hs F T (X++[z,.lst Z .own]))=some (.d .fS,hs F T (X++[z,.lst (Z++[v]) .own])):=by rw[nv qC (by decide) (by rw[eK];lia),AO]
theorem rC(h:Z.length<64):fK M c (.ref (11+X.length)) 100 [.d v] (hs F T (X++[.lst Z .own,z]))=some (.d .fS,hs F T (X++[.lst (Z++[v]) .own,z])):=r0 (by rw[eK];lia)
@[simp]theorem Gr:toD (.ref (11+(X.length+1))) (hs F T (X++[z,.lst Z md]))=some (.lst Z,hs F T (X++[z,.lst Z .fz])):=(Lv qC).trans (by rw[AO])
noncomputable abbrev Qe:ab Nat:=[0,4,32,0,8,16]
noncomputable def IL(h:Nat):Nat:=Qe.getD h 0
theorem Nz(b:h<6):([D.int 0,.int 4,.int 32,.int 0,.int 8,.int 16]:ab D)[h]?=some (nD (IL h)):=(bV (f:=nD) (l:=Qe)).trans (by rw[(show∀s<6,Qe[s]?=some (IL s)from by decide+kernel) h b];rfl)
theorem LZ:∀h,h<6->∀o,o<2->∀r,r<2->((IL h+o+r*2)/8%4=0↔h<4)/\IL h+o+r*2<64/\(IL h+o+r*2)%2=o/\(h<4->(IL h+o+r*2)/2%4=if h=1then r+2 else r):=by decide+kernel
structure Drawn(T:ab Row)(ps:ab mg)(A:mg->Slot)(d:ab W):Prop where
 fl:∀p∈ps,p.2.2.1<64
 pr:∀p∈ps,j7 p=true->h8 T p (A p)
 nm:∀p∈ps,p.1∈d
 nd:(ps.map (·.1)).Nodup
 len:ps.length<=d.length
theorem Drawn.pre(h:T<+:T')(s:Drawn T ps A d):Drawn T' ps A d:=⟨s.fl,λp i j=>by obtain⟨a,f,b,c,d,e⟩:=s.pr p i j;exact⟨a,f,b,c,d,e.pre h⟩,s.nm,s.nd,s.len⟩
theorem Drawn.wk(s:Drawn T ps A d):Drawn T ps A (d++[w]):=⟨s.fl,s.pr,λp b=>by simp[s.nm p b],s.nd,by have:=s.len;simp;lia⟩
theorem Drawn.snoc{p:mg}(D:Drawn T ps A d)(l:p.1∉d)(y:p.2.2.1<64)(z:j7 p=true->h8 T p s):∃f,Drawn T (ps++[p]) f (d++[p.1])/\((ps++[p]).filter j7).map f=(ps.filter j7).map A++(if j7 p then[s]else[]):=by
 classical
  refine i12 (λq=>if q=p then s else A q) ⟨?_,?_,?_,?_,?_⟩ ?_;.
   intro q c;rcases aJ.mp c with h|h;.exact D.fl q h
   .simp only[ah,ai,a6]at h;refine sY h ?_;exact y
  .intro q c m;by_cases e:q=p;.subst e;simp only[adp];exact z m
   .simp only[e,aep];rcases aJ.mp c with h|h;.exact D.pr q h m
    .replace h:=kB h;exact ax h e
  .intro q c;rcases aJ.mp c with h|h;.simp[D.nm q h]
   .simp only[ah,ai,a6]at h;refine sY h ?_;simp
  .rw[aC,a7];refine⟨D.nd,by simp,?_⟩;intro a o b hb e;simp only[aH,bD,ah,ai,a6]at hb;obtain⟨q,c,rfl⟩:=af.mp o;exact l (hb▸e▸D.nm q c)
  .have:=D.len;simp;omega
  .simp only[cJ,aC];congr 1;.
    refine bF λq c=>?_;have j:=(aO.mp c).1;have:q≠p:=by intro e;subst e;exact l (D.nm q j)
    simp[this]
   .cases i:j7 p<;>simp[i]
theorem Vm(F:ab Int)(T:ab Row)(X:ab Cell):mA (hs F T (X++[.lst [] .own])) (.lst [] .own)=some (.ref (11+(X.length+1)),hs F T (X++[.lst [] .own,.lst [] .own])):=by simp[mA]
theorem KI(F:ab Int)(T:ab Row)(X:ab Cell)(Z:ab D)(z:Cell):some (iY dP (.ref (11+X.length)) 100 (hs F T (X++[.lst Z .own,z])))=some true:=ag some (jm gp 100 dP)
theorem Ed(F:ab Int)(T:ab Row)(X:ab Cell)(Z:ab D)(z:Cell):some (iY dP (.ref (11+(X.length+1))) 100 (hs F T (X++[z,.lst Z .own])))=some true:=ag some (jm qC 100 dP)
noncomputable def pG(i:Nat)(Z N:ae V)(q:Nat->ae V)(j6 Bz:ae V):Loc:=[some d7,some (.ref 0),some (.ref (11+i)),some (.ref (11+(i+1))),Z,N,q 0,q 1,q 2,q 3,q 4,q 5,q 6,j6,Bz]
noncomputable def mx(ps:ab mg):ab D:=ps.map mP
noncomputable def nL(ps:ab mg)(A:mg->Slot):ab D:=((ps.filter j7).map A).map fF
noncomputable abbrev gV(X:ab Cell)(pl sl:ab D):ab Cell:=X++[.lst pl .own,.lst sl .own]
noncomputable def oL(i b:Nat)(nm:W)(q:Nat->ae V):Loc:=pG i (some (.d (nD b))) (some (.d (sD nm))) q none none
noncomputable def IQ(d:Nat):Nat:=d/4%2
noncomputable def Au(d:Nat):Nat:=d/16
noncomputable def IM(d:Nat):Nat:=if d/16=2then 1 else d/8%2
noncomputable def QW(d:Nat):Nat:=IL (Au d)+IQ d+IM d*2
theorem Bk:∀d<96,IQ d<2/\Au d<6/\IM d<2:=by decide+kernel
theorem Nn(d:Nat)(h:d<96):(QW d/8%4=0↔Au d<4)/\QW d<64/\QW d%2=IQ d/\(Au d<4->QW d/2%4=if Au d=1then IM d+2 else IM d):=LZ _ (Bk d h).2.1 _ (Bk d h).1 _ (Bk d h).2.2
theorem Wa(h:d<96):d5 (((fJ.drop 4).take 3).map BS.run) c (oL i m nm (qf [some (.d (nD d)),some (.d o),z,A,B,s,y])) H=some (.er,oL i m nm (qf [some (.d (nD d)),some (.d o),some (.d (nD (IQ d))),some (.d (nD (Au d))),some (.d (nD (IM d))),s,y]),H):=by
 have j:d<1073741824:=bK h (by decide);have e:fv .FloorDiv (nD d) (.int 4)=some (nD (d/4)):=ik (by decide) (by decide) j;have l:fv .Mod (nD (d/4)) (.int 2)=some (nD (d/4%2)):=uQ;have b:fv .FloorDiv (nD d) (.int 16)=some (nD (d/16)):=ik (by decide) (by decide) j;have f:fv .FloorDiv (nD d) (.int 8)=some (nD (d/8)):=ik (by decide) (by decide) j;have q:fv .Mod (nD (d/8)) (.int 2)=some (nD (d/8%2)):=uQ;unfold IQ Au IM;by_cases h:d/16=2;.rw[h]at b⊢;exact wq [sd 2 e,sd 2 l,sd 2 b]
 .rw[aX h];exact wq [sd 2 e,sd 2 l,sd 2 b,sb 1 (eA (hH h)),sd 3 f,sd 2 q]
theorem Vs(h:d<96):d5 (((fJ.drop 7).take 1).map BS.run) c (oL i m nm (qf [some (.d (nD d)),some (.d o),some (.d (nD (IQ d))),some (.d (nD (Au d))),some (.d (nD (IM d))),y,q])) H=some (.er,oL i m nm (qf [some (.d (nD d)),some (.d o),some (.d (nD (IQ d))),some (.d (nD (Au d))),some (.d (nD (IM d))),some (.d (nD (QW d))),q]),H):=by have e:=Bk d h;have l:∀{a:Nat},a<2->a<1073741824:=λh=>bK h (by decide);have s:fZ (.d (.tup [.int 0,.int 4,.int 32,.int 0,.int 8,.int 16])) (nD (Au d)) H=some (.d (nD (IL (Au d)))):=uv (Nz e.2.1);have f:=(Gg (b:=1) (l e.1) (by decide)).trans (by rw[Nat.mul_one]);have j:=Gg (b:=2) (l e.2.2) (by decide);exact wq [sv 7 s,sd 3 f,sd 1 (tf (a:=IL (Au d)) (b:=IQ d)),sd 3 j,sd 1 (tf (a:=IL (Au d)+IQ d) (b:=IM d*2))]
theorem V7{mt:Nat}(l:cF (n+5) w 976 [d7,.d m] (hs F T (X++[.lst pl .own,z]))=some (.d (nD mt),hs F T1 (X++[.lst pl .own,z])))(y:i=X.length)(s:pl.length<64):d5 (((fJ.drop 8).take 1).map BS.run) ⟨cF (n+5),w⟩ (oL i q nm (qf [some (.d x),some (.d m),E,some (.d (nD b)),A,some (.d (nD j)),B])) (hs F T (X++[.lst pl .own,z]))=some (.er,oL i q nm (qf [some (.d x),some (.d m),E,some (.d (nD b)),A,some (.d (nD j)),B]),hs F T1 (X++[.lst (pl++[.tup [sD nm,nD mt,nD j,nD (if 3<b then 1 else 0)]]) .own,z])):=by
 subst y;have f:=rC (F:=F) (T:=T1) (X:=X) (M:=dP) (c:=⟨cF (n+5),w⟩) (z:=z) (v:=.tup [sD nm,nD mt,nD j,nD (if 3<b then 1 else 0)]) s;have o:=KI F T X pl z;by_cases h:3<b;.rw[aS h]at f⊢;exact wq [sb 0 o,dR 3 l,sb 3 (tS (bg.mpr h)),dR 3 f]
 .rw[aX h]at f⊢;exact wq [sb 0 o,dR 3 l,sb 3 (tq λe=>h (bg.mp e)),dR 3 f]
noncomputable def yb(b:Nat)(c:ab W):ab W:=if b=1then ei [c,[d6]]else c
noncomputable def E7(b ro:Nat):Nat:=if b=1then ro+2 else ro
theorem Xc(G:KB j)(K:nm.length=1)(C:i=X.length)(B:sl.length<64):d5 (iU.map BS.run) ⟨cF (n+5),w⟩ (oL i m nm (qf [some (.d x),some (.d (eF j)),some (.d (nD e)),some (.d (nD f)),some (.d (nD ro)),q,I])) (hs F T (X++[z,.lst sl .own]))=some (.er,oL i m nm (qf [some (.d x),some (.d (eF j)),some (.d (nD e)),some (.d (nD f)),some (.d (nD ro)),q,some (.d (eF (yb e j)))]),hs F T (X++[z,.lst (sl++[fF ⟨34::(nm++[34]),yb e j,e,E7 f ro⟩]) .own])):=by
 subst C;have o:d5 ((iU.take 1).map BS.run) ⟨cF (n+5),w⟩ (oL X.length m nm (qf [some (.d x),some (.d (eF j)),some (.d (nD e)),some (.d (nD f)),some (.d (nD ro)),q,I])) (hs F T (X++[z,.lst sl .own]))=some (.er,oL X.length m nm (qf [some (.d x),some (.d (eF j)),some (.d (nD e)),some (.d (nD f)),some (.d (nD ro)),q,some (.d (eF (yb e j)))]),hs F T (X++[z,.lst sl .own])):=by
  have E:=Hm (n:=n+4) (wm:=w) (H:=hs F T (X++[z,.lst sl .own])) G;unfold yb;by_cases h:e=1;.rw[aS h,h];exact wq [dR 7 E]
  .rw[aX h];exact wq [sb 1 (eA (hH h))]
 refine gK (b:=iU.drop 1) o ?_;generalize yb e j=J;have s:=gC (a:=[34]) (b:=nm) (by rw[eK];simp;lia);have y:=gC (a:=34::nm) (b:=[34]) (by rw[eK];simp;lia);have l:=oU (F:=F) (T:=T) (X:=X) (M:=dP) (c:=⟨cF (n+5),w⟩) (z:=z) (v:=fF ⟨34::(nm++[34]),J,e,E7 f ro⟩) B;have A:=Ed F T X sl z;unfold E7 at*;by_cases h:f=1;.rw[aS h]at l⊢;rw[h];exact wq [sb 0 A,sd 2 s,sd 2 y,dR 11 l]
 .rw[aX h]at l⊢;exact wq [sb 0 A,sd 2 s,sd 2 y,sb 4 (eA (hH h)),dR 3 l]
theorem pL{γ:Prop}(G:Good (g+4) T)(Dr:Drawn T ps A d)(hn:nm∉d)(h1:nm.length=1)(hc:∀a∈nm,a<128)(hd:d.length<=5)(κ:∀z F' T' E i q',(z=.er\/z=.cnt)->d5 (fJ.map BS.run) ⟨cF (n+5),11+X.length⟩ (pG X.length (some (.d (nD d.length))) (some (.d (sD nm))) q none none) (hs F T (gV X (mx ps) (nL ps A)))=some (z,pG X.length (some (.d (nD (d.length+1)))) (some (.d (sD nm))) q' none none,hs F' T' (gV X (mx E) (nL E i)))->Good g T'->T<+:T'->Drawn T' E i (d++[nm])->γ):γ:=by
 have O:ps.length<64:=aj (ar Dr.len hd) (by decide);have P:(mx ps).length<64:=aj (b4 (ak _)) O;have Q:(nL ps A).length<64:=aj (by unfold nL;rw[ak,ak];exact aY _ _) O;refine ml (w_next (n:=n+4) (wm:=11+X.length) (F:=F) (T:=T) (X:=gV X (mx ps) (nL ps A)) (m:=96) (by decide)) λj F1 c1 b1=>?_;refine ml (w_next (n:=n+4) (wm:=11+X.length) (F:=F1) (T:=T) (X:=gV X (mx ps) (nL ps A)) (m:=3000) (by decide)) λd2 I c2 b2=>?_;refine d9 (oB (m:=d2+d.length) (by lia)) λJ M R=>?_;have R:=R (n+2) (11+X.length) (hs I T (gV X (mx ps) (nL ps A)));have Wb:fv .Add (nD d2) (nD d.length)=some (nD (d2+d.length)):=tf;have m4:fv .Mod (nD j) (.int 4)=some (nD (j%4)):=Mp;by_cases N:j%4=3;.refine κ .cnt I T ps A (qf [some (.d (nD j)),some (.d (eF J)),q 2,q 3,q 4,q 5,q 6]) (.inr rfl) ?_ (G.le ((aG _ _))) (aq _) Dr.wk;rw[N]at m4;exact wq [dR 2 c1,dR 2 c2,dR 4 R,sd 5 m4]
 have hA:d5 ((fJ.take 4).map BS.run) ⟨cF (n+5),11+X.length⟩ (pG X.length (some (.d (nD d.length))) (some (.d (sD nm))) q none none) (hs F T (gV X (mx ps) (nL ps A)))=some (.er,oL X.length (d.length+1) nm (qf [some (.d (nD j)),some (.d (eF J)),q 2,q 3,q 4,q 5,q 6]),hs I T (gV X (mx ps) (nL ps A))):=wq [dR 2 c1,dR 2 c2,dR 4 R,sd 5 m4,sb 1 (eA (hH N))];refine jr (ou (F:=I) (X:=gV X (mx ps) (nL ps A)) (n:=n+1) (wm:=11+X.length) G M) λmt T1 cm G1 p1 K=>?_;have Z:=Nn j b1;have o:=λr h=>gK (r:=r) hA (gK (Wa b1) (gK (Vs b1) (gK (b:=fJ.drop 9) (V7 cm rfl P) h)));have kb:=M.fb.kb;generalize(if 3<Au j then 1 else 0)=l at*;generalize Au j=c at*;generalize IM j=ro at*;generalize IQ j=y at*;generalize QW j=z at*;have C:j7 (nm,mt,z,l)=decide (c<4):=bU.mpr Z.1;refine d9 ((Dr.pre p1).snoc (p:=(nm,mt,z,l)) (s:=⟨34::(nm++[34]),yb y J,y,E7 c ro⟩) hn Z.2.1 λhp=>⟨h1,hc,rfl,Z.2.2.1.symm,(Z.2.2.2 (aU (C▸hp))).symm,J,K.up,by unfold yb;simp only[aZ]⟩) λi D' Zj=>?_;have B:mx (ps++[(nm,mt,z,l)])=mx ps++[.tup [sD nm,nD mt,nD z,nD l]]:=aC;have f:nL (ps++[(nm,mt,z,l)]) i=nL ps A++(bif decide (c<4)then[fF ⟨34::(nm++[34]),yb y J,y,E7 c ro⟩]else[]):=by unfold nL;rw[Zj,C,aC];congr 1;generalize decide (c<4)=b;rcases b with⟨⟩<;>rfl
 by_cases U:c<4;.rw[ay U]at f;exact κ .er I T1 _ i _ (.inl rfl) (B▸f▸o _ (BC (wb [sb 1 (tS (bg.mpr U))]) (Xc kb h1 rfl Q))) G1 p1 D'
 .rw[aw U,aed,aL]at f;exact κ .er I T1 _ i (qf [some (.d (nD j)),some (.d (eF J)),some (.d (nD y)),some (.d (nD c)),some (.d (nD ro)),some (.d (nD z)),q 6]) (.inl rfl) (by rw[B,f];exact o _ (MV (wb [sb 1 (tq λe=>U (bg.mp e))]))) G1 p1 D'
end
section
variable{F:ab Int}{T T' T1 T2:ab Row}{X Y:ab Cell}{n wm t g:Nat}{H:Hp}{k:ab W}{r:Row}{L:ab Slot}{p:Piece}
noncomputable abbrev nms:ab W:=[[48],[112],[113]]
theorem DI(G:Good (g+12) T){j:Prop}(κ:∀s T' ps A q,g' (.one 5) (d5 (fJ.map BS.run)) ⟨cF (n+5),11+X.length⟩ (nms.map sD) (pG X.length (some (.d (.int 0))) none (qf []) none none) (hs F T (gV X [] []))=some (.er,pG X.length (some (.d (nD 3))) (some (.d (sD [113]))) q none none,hs s T' (gV X (mx ps) (nL ps A)))->Good g T'->T<+:T'->Drawn T' ps A nms->j):j:=by refine pL (F:=F) (X:=X) (n:=n) (ps:=[]) (A:=λ_=>⟨[],[],0,0⟩) (d:=[]) (nm:=[48]) (q:=qf []) G ⟨by decide,by simp,by decide,by simp,by simp⟩ (by decide) rfl (by decide) (by decide) λf1 y T1 R Ω Z b K C O l=>?_;refine pL (F:=y) (X:=X) (n:=n) (nm:=[112]) (q:=Z) C l (by decide) rfl (by decide) (by decide) λf2 z T2 U H! h c M E P m=>?_;refine pL (F:=z) (X:=X) (n:=n) (nm:=[113]) (q:=h) E m (by decide) rfl (by decide) (by decide) λf3 B J f i a e N I Q o=>?_;exact κ B J f i a (gT rfl b K (gT rfl c M (gT rfl e N rfl))) I (O.trans (P.trans Q)) o
theorem Cm(G:Good g T)(D:Drawn T ps A nms)(N:T[t]?=some (.obj (eP ps) E ni))(J:rX T d0 E o)(K:rX T dZ ni q):hX T t (.obj ((ps.filter j7).map A++o++q)):=by
 have C:((eP ps).map (·.1)).Nodup:=by rw[m'];exact SS.nd (pB ic ij D.nd)
 have O:mw T (eP ps) E ni A o q:=⟨λp I=>D.fl p (j9.mp I),λp I=>D.pr p (j9.mp I),J,K,C,by unfold eP;rw[oh];have:=D.len;simp at this;omega⟩;refine⟨_,N,eP ps,E,ni,A,o,q,rfl,O,λs=>?_,?_⟩;.simp only[aJ,af,aO,j9]
 .have l:∀s∈o,s.key=d0:=by rcases J with⟨_,rfl⟩|⟨_,s,_,rfl,h,_⟩<;>simp;exact h
  have B:∀s∈q,s.key=dZ:=by rcases K with⟨_,rfl⟩|⟨_,s,_,rfl,h,_⟩<;>simp;exact h
  have d:∀z∈ps.filter j7,(A z).key=34::(z.1++[34]):=λz i=>by rw[aO]at i;exact(D.pr z i.1 i.2).key
  rw[aC,aC,a7,a7];refine⟨⟨?_,?_,?_⟩,?_,?_⟩;.
   rw[aK];have m:((ps.filter j7).map (·.1)).Nodup:=by have:=D.nd;rw[abk,bW]at this⊢;exact cp _ this
   rw[abk,bW]at m⊢;refine c8 ?_ m;intro a b c j y e;simp only[a8]at e;rw[d a c,d b j]at e;exact y (by simpa using e)
  .rcases J with⟨_,rfl⟩|⟨_,s,_,rfl,_⟩<;>simp
  .intro a c b j e;obtain⟨s,hs,rfl⟩:=af.mp c;obtain⟨M,f,rfl⟩:=af.mp j;obtain⟨z,i,rfl⟩:=af.mp hs;rw[d z i,l M f]at e;cases e
  .rcases K with⟨_,rfl⟩|⟨_,s,_,rfl,_⟩<;>simp
  .intro a c b j e;obtain⟨M,f,rfl⟩:=af.mp j;rw[B M f]at e;rcases aJ.mp c with c|c;.obtain⟨s,hs,rfl⟩:=af.mp c;obtain⟨z,i,rfl⟩:=af.mp hs;rw[d z i]at e;cases e
   .obtain⟨s,hs,rfl⟩:=af.mp c;rw[l s hs]at e;cases e
theorem FO(G:Good (g+21) T):∃F' t' L T',cF (n+6) wm 983 [d7,.ref 0] (hs F T X)=some (.d (.tup [nD t',fH (.obj L)]),hs F' T' X)/\Good g T'/\T<+:T'/\hX T' t' (.obj L):=by
 refine hd λJ P=>?_;refine DI (F:=F) (X:=X) (n:=n) (G.le ((aV _))) λF1 T1 f A q e1 G1 p1 Dr=>?_;have u!:=by have:=Dr.len;simpa using this
 have UH:(nL f A).length<=3:=by have:=aY j7 f;simp[nL];lia
 refine ml (w_next (n:=n+4) (wm:=11+X.length) (F:=F1) (T:=T1) (X:=gV X (mx f) (nL f A)) (m:=8) (by decide)) λd F2 c2 b2=>?_;have hP:d5 ((iP.take 7).map BS.run) ⟨cF (n+5),11+X.length⟩ (uy 15 [d7,.ref 0]) (hs F T X)=some (.er,pG X.length (some (.d (nD 3))) (some (.d (sD [113]))) (qf [some (.d (nD d)),q 1,q 2,q 3,q 4,q 5,q 6]) (some (.d (.tup []))) (some (.d (.tup []))),hs F2 T1 (gV X (mx f) (nL f A))):=by have w1:=iB (X:=X) (z:=.lst [] .own) F T;exact wq [dR 0 (iB F X (Cell.lst [] Mode.own) T),dR 0 (Vm F T X),mb 4 e1,dR 2 c2]
 have m2:fv .Mod (nD d) (.int 2)=some (nD (d%2)):=uQ;have m4:fv .Mod (nD d) (.int 4)=some (nD (d%4)):=Mp;have d4:fv .FloorDiv (nD d) (.int 4)=some (nD (d/4)):=ik (by decide) (by decide) (by lia);have Yt:d/4<=1:=by lia
 have s4:fv .Sub (.int 1) (nD (d/4))=some (nD (1-d/4)):=by show some (Mine.D.int _)=_;congr 2;omega
 have hS:∀{J:Prop},(∀y l E B k7,d5 (((iP.drop 7).take 1).map BS.run) ⟨cF (n+5),11+X.length⟩ (pG X.length (some (.d (nD 3))) (some (.d (sD [113]))) (qf [some (.d (nD d)),q 1,q 2,q 3,q 4,q 5,q 6]) (some (.d (.tup []))) (some (.d (.tup [])))) (hs F2 T1 (gV X (mx f) (nL f A)))=some (.er,pG X.length (some (.d (nD 3))) (some (.d (sD [113]))) (qf [some (.d (nD d)),k7,q 2,q 3,q 4,q 5,q 6]) (some (.d (ka E))) (some (.d (.tup []))),hs y l (gV X (mx f) (nL f A++B.map fF)))->Good (g+5) l->T1<+:l->rX l d0 E B->B.length<=1->J)->J:=by
  intro J P;by_cases h:d%2=1;.refine ml (w_next (n:=n+4) (wm:=11+X.length) (F:=F2) (T:=T1) (X:=gV X (mx f) (nL f A)) (m:=3000) (by decide)) λd3 y c3 b3=>?_;refine d9 (oB (m:=d3) (by lia)) λO N U=>?_;refine jr (ou (F:=y) (X:=gV X (mx f) (nL f A)) (n:=n+1) (wm:=11+X.length) (g:=g+5) G1 N) λmt l cm G3 p3 K=>?_;have ap:=oU (F:=y) (T:=l) (X:=X) (M:=dP) (c:=⟨cF (n+5),11+X.length⟩) (z:=.lst (mx f) .own) (Z:=nL f A) (v:=fF ⟨d0,O,2,d/4⟩) (by lia);have mk:=Ed y l X (nL f A) (.lst (mx f) .own);refine P y l (some (mt,d/4)) [⟨d0,O,2,d/4⟩] (some (.d (eF O))) ?_ G3 p3 (.inr ⟨_,_,rfl,rfl,rfl,rfl,rfl,Yt,K.up⟩) (aV _);rw[h]at m2;have U:=U (n+2) (11+X.length) (hs y T1 (gV X (mx f) (nL f A)));exact wq [sd 2 m2,dR 5 c3,dR 1 U,dR 2 cm,sd 3 d4,sb 1 mk,sd 5 d4,dR 2 ap]
  .refine P F2 T1 none [] (q 1) ?_ (G1.le (by lia)) (aq _) (.inl ⟨rfl,rfl⟩) (bB _);have h':¬((d%2:Nat):Int)=1:=λe=>h (bM.mp e);generalize d%2=r2 at*;rw[bD,aL];exact wq [sd 2 m2,sb 1 (eA h')]
 refine hS λy l E B k7 eS G3 p3 I1 l!=>?_;have hN:∀{J:Prop},(∀j i C Q I,d5 (((iP.drop 8).take 1).map BS.run) ⟨cF (n+5),11+X.length⟩ (pG X.length (some (.d (nD 3))) (some (.d (sD [113]))) (qf [some (.d (nD d)),k7,q 2,q 3,q 4,q 5,q 6]) (some (.d (ka E))) (some (.d (.tup [])))) (hs y l (gV X (mx f) (nL f A++B.map fF)))=some (.er,pG X.length (some (.d (nD 3))) (some (.d (sD [113]))) (qf [some (.d (nD d)),I,q 2,q 3,q 4,q 5,q 6]) (some (.d (ka E))) (some (.d (ka C))),hs j i (gV X (mx f) (nL f A++B.map fF++Q.map fF)))->Good (g+1) i->l<+:i->rX i dZ C Q->J)->J:=by
  intro J P;have YG:(nL f A++B.map fF).length<=4:=by rw[ao,ak];lia
  generalize nL f A++B.map fF=o at*;by_cases h:1<d%4;.refine ml (w_next (n:=n+4) (wm:=11+X.length) (F:=y) (T:=l) (X:=gV X (mx f) o) (m:=3000) (by decide)) λd3 j c3 b3=>?_;refine d9 (oB (m:=d3) (by lia)) λO N U=>?_;refine jr (ou (F:=j) (X:=gV X (mx f) o) (n:=n+1) (wm:=11+X.length) (g:=g+1) G3 N) λmt i cm R p4 K=>?_;refine P j i (some (mt,1-d/4)) [⟨dZ,O,2,1-d/4⟩] (some (.d (eF O))) ?_ R p4 (.inr ⟨_,_,rfl,rfl,rfl,rfl,rfl,by show 1-d/4<=1;lia,K.up⟩);have h':(1:Int)<((d%4:Nat):Int):=bg.mpr h;generalize d%4=r4 at*;exact wq [sd 2 m4,sb 1 (tS h'),dR 3 c3,dR 1 (U (n+2) (11+X.length) (hs j l (gV X (mx f) o))),dR 2 cm,sd 4 d4,sd 1 s4,sb 1 (Ed j i X o (.lst (mx f) .own)),sd 6 d4,sd 1 s4,dR 2 (oU (F:=j) (T:=i) (X:=X) (M:=dP) (c:=⟨cF (n+5),11+X.length⟩) (z:=.lst (mx f) .own) (Z:=o) (v:=fF ⟨dZ,O,2,1-d/4⟩) (by lia))]
  .refine P y l none [] k7 ?_ (G3.le (by lia)) (aq _) (.inl ⟨rfl,rfl⟩);have h':¬(1:Int)<((d%4:Nat):Int):=λe=>h (bg.mp e);generalize d%4=r4 at*;rw[bD,aL];exact wq [sd 2 m4,sb 1 (tq h')]
 refine hN λj i C Q I eN R p4 I2=>?_;have ob:=N2 (T:=i) (ps:=f) (E:=E) (ni:=C) (Dr.nd) (by lia) R.lt;refine P ⟨j,_,_,_,?_,R.put,p1.trans (p3.trans (p4.trans eh)),Cm (R.put) (Dr.pre (p3.trans (p4.trans eh))) gq (I1.imp id λ⟨q,s,a,b,c,e⟩=>⟨q,s,a,b,c,e.pre (p4.trans eh)⟩) (I2.imp id λ⟨q,s,a,b,c,e⟩=>⟨q,s,a,b,c,e.pre eh⟩)⟩;rw[(show fH (.obj ((f.filter j7).map A++B++Q))=.tup [sD [123],.lst (nL f A++B.map fF++Q.map fF),.int 0]from by simp[fH,nL]),uU,ip rfl,dT];generalize nL f A++B.map fF++Q.map fF=o at*;have hR:d5 ((iP.drop 9).map BS.run) ⟨cF (n+5),11+X.length⟩ (pG X.length (some (.d (nD 3))) (some (.d (sD [113]))) (qf [some (.d (nD d)),I,q 2,q 3,q 4,q 5,q 6]) (some (.d (ka E))) (some (.d (ka C)))) (hs j i (gV X (mx f) o))=some (.ret (.d (.tup [nD (fO i (.obj (eP f) E C)),.tup [sD [123],.lst o,.int 0]])),pG X.length (some (.d (nD 3))) (some (.d (sD [113]))) (qf [some (.d (nD d)),I,q 2,q 3,q 4,q 5,q 6]) (some (.d (ka E))) (some (.d (ka C))),hs j (fj i (.obj (eP f) E C)) (X++[.lst (mx f) .fz,.lst o .fz])):=by exact wq [dR 1 (show ig (.ref (11+X.length)) (hs j i (gV X (mx f) o))=some (.d (.lst (mx f)),hs j i (X++[.lst (mx f) .fz,.lst o .own]))from by simp),dR 4 ((show Runs 2 218 [d7,.d (.lst (mx f)),.d (.tup []),.d (.tup []),.d (ka E),.d (ka C)] i _ _ from ob) (n+3) (11+X.length) j (X++[.lst (mx f) .fz,.lst o .own])),Q7 2 (Gr (F:=j) (T:=fj i (.obj (eP f) E C)) (X:=X) (z:=.lst (mx f) .fz) (Z:=o) (md:=.own))]
 exact(ag (ck · (fin (11+X.length))) (gK hP (gK eS (gK eN hR)))).trans (iZ (Y:=[.lst (mx f) .fz,.lst o .fz]) ..)
end
section
variable{F:ab Int}{T T' T1 T2:ab Row}{X Y:ab Cell}{n wm t g:Nat}{H:Hp}{k:ab W}{r:Row}{L:ab Slot}{p:Piece}
inductive g9(T:ab Row)(es:ab (Nat×Nat))(L:ab Slot)(sign m:Nat):Prop|tup(hl:L.length=es.length)(h1:∀e,es≠[(e,2)])(pw:es.Pairwise λx y=>x.2<=y.2/\x.2<2)(le:∀e∈es,e.2<=sign)(s2:sign<=2)(full:sign≠2->es.length=m)(lm:es.length<=m)(ok:∀(i:Nat)(e:Nat×Nat)(s:Slot),es[i]?=some e->L[i]?=some s->gG T i e s):g9 T es L sign m|arr(e:Nat)(s:Slot)(he:es=[(e,2)])(hL:L=[s])(hs:sign=2)(hm:1<=m)(sg:s.sign=2)(hd:s.held=0)(key:s.key=dZ)(K:Kd T e s.kind):g9 T es L sign m
theorem g9.pre(h:T<+:T')(s:g9 T es L sign m):g9 T' es L sign m:=by induction s with|tup l d pw B q c o ok=>exact .tup l d pw B q c o λi e s a b=>(ok i e s a b).pre h|arr e s j f hs hm y hd key K=>exact .arr e s j f hs hm y hd key (K.pre h)
theorem JY{a b:Nat}:iu 206 [.d (.int (a:Int)),.d (.int (b:Int))] H=some (nD (max a b)):=by show some (D.int (max (a:Int) b))=_;congr 2;omega
theorem g9.cnt(D:g9 T es L 2 j):g9 T es L 2 (j+1):=by induction D with|tup i c pw B l b o ok=>exact .tup i c pw B l (λh=>ax rfl h) ((aaF ‹_›)) ok|arr e s f d hs hm m hd key K=>exact .arr e s f d hs (aaF hm) m hd key K
theorem g9.len(D:g9 T es L sign j)(c:j<4):(es.map g7).length<=3/\(L.map fF).length<=3:=by rw[ak,ak];induction D with|tup l m pw B o b d ok=>exact⟨ar d (dc c),l▸ar d (dc c)⟩|arr e s i f=>rw[i,f];simp
noncomputable def JB(j s:Nat):W:=if 0<j\/s<2then[34,48+j,34]else dZ
noncomputable def Tu(s:Nat)(b:ab W):ab W:=if s=1then ei [b,[d6]]else b
theorem g9.snoc{mt:Nat}(D:g9 T es L sign j)(y:sign≠2)(p1:T<+:T1)(b1:f<3)(K:Kd T1 mt kd):g9 T1 (es++[(mt,max sign f)]) (L++[⟨JB j (max sign f),Tu (max sign f) kd,max sign f,0⟩]) (max sign f) (j+1):=by
 induction D with
 |arr e s c Q hs=>exact ax hs y|tup E N pw B J d R ok=>
  have I:=Nat.max_le.mpr ⟨J,dc b1⟩;have o:∀e∈es,e.2<=max sign f:=λe c=>ar (B e c) (Nat.le_max_left _ _);have G:∀e∈es,e.2<2:=λe c=>aj (B e c) (Nat.lt_of_le_of_ne J y);have l:=d y;clear B b1 y d N J;generalize max sign f=P at*;subst l;by_cases hb:es.length=0/\P=2;.obtain rfl:=abw.mp hb.1;obtain rfl:=abw.mp E;obtain⟨_,rfl⟩:=hb;exact .arr mt _ rfl rfl rfl (aV _) rfl rfl rfl K
  .refine .tup (by rw[ao,ao,E];rfl) (λe c=>?_) ?_ (λe c=>?_) I (λ_=>by simp) (by simp) (λi e s m hs=>?_);.
    have C:es=[]:=by have:=ag bq c;simpa using this
    subst C;exact hb ⟨rfl,(pJ (br c).1).2⟩
   .rw[aaQ];refine⟨pw,bX _ _,λa M b A=>?_⟩;rw[kB A];exact⟨o a M,G a M⟩
   .rcases aJ.mp c with q|q;.exact o e q
    .rw[kB q];exact aV _
   .rcases dp i es.length with q|q;.rw[aT q]at m;rw[aT (by lia)]at hs;exact(ok i e s m hs).pre p1
    .rw[bj q]at m;rw[bj (by lia),E]at hs;rcases O:i-es.length with _|z<;>rw[O]at m hs;.
      obtain rfl:=(sI m).symm;obtain rfl:=(sI hs).symm;have:i=es.length:=by lia
      rw[this];exact⟨rfl,rfl,(aS (by lia)),kd,K,by simp only[aZ];rfl⟩
     .exact ec m
noncomputable def tV(i ro cnt b:Nat)(q:Nat->ae V):Loc:=[some d7,some (.ref 0),some (.d (nD ro)),some (.d (nD cnt)),some (.ref (11+i)),some (.ref (11+(i+1))),some (.d (nD b)),q 0,q 1,q 2,q 3]
theorem zc{q:Nat->ae V}{γ:Prop}(G:Good (g+4) T)(D:g9 T es L f j)(hj:j<4)(κ:∀fl F' T' es' L' B q',(fl=.er\/fl=.cnt)->d5 (ie.map BS.run) ⟨cF (n+5),11+X.length⟩ (tV X.length ro cnt f (qf [some (.d (nD j)),q 1,q 2,q 3])) (hs F T (gV X (es.map g7) (L.map fF)))=some (fl,tV X.length ro cnt B q',hs F' T' (gV X (es'.map g7) (L'.map fF)))->Good g T'->T<+:T'->g9 T' es' L' B (j+1)->γ):γ:=by
 have Θ:=D.len hj;refine ml (w_next (n:=n+4) (wm:=11+X.length) (F:=F) (T:=T) (X:=gV X (es.map g7) (L.map fF)) (m:=3) (by decide)) λs F1 c1 b1=>?_;refine ml (w_next (n:=n+4) (wm:=11+X.length) (F:=F1) (T:=T) (X:=gV X (es.map g7) (L.map fF)) (m:=3000) (by decide)) λd2 o c2 b2=>?_;refine d9 (oB (m:=d2+j) (by lia)) λC O R=>?_;have Wb:=tf (a:=d2) (b:=j);have R:=R (n+2) (11+X.length) (hs o T (gV X (es.map g7) (L.map fF)));by_cases h2:f=2;.subst h2;refine κ .cnt o T es L 2 (qf [some (.d (nD j)),some (.d (nD s)),some (.d (eF C)),q 3]) (.inr rfl) ?_ (G.le ((aG _ _))) (aq _) D.cnt;exact wq [dR 2 c1,dR 2 c2,dR 4 R]
 .refine jr (ou (F:=o) (X:=gV X (es.map g7) (L.map fF)) (n:=n+1) (wm:=11+X.length) G O) λmt T1 cm G1 p1 K=>?_;refine κ .er o T1 _ _ _ (qf [some (.d (nD j)),some (.d (nD s)),some (.d (eF C)),some (.d (eF (Tu (max f s) C)))]) (.inl rfl) ?_ G1 p1 (D.snoc h2 p1 b1 K.up);rw[aC,aC];generalize es.map g7=U at*;generalize L.map fF=N at*;have hA:d5 ((ie.take 5).map BS.run) ⟨cF (n+5),11+X.length⟩ (tV X.length ro cnt f (qf [some (.d (nD j)),q 1,q 2,q 3])) (hs F T (gV X U N))=some (.er,tV X.length ro cnt (max f s) (qf [some (.d (nD j)),some (.d (nD s)),some (.d (eF C)),q 3]),hs o T1 (gV X (U++[g7 (mt,max f s)]) N)):=by have E:=rC (F:=o) (T:=T1) (X:=X) (M:=dP) (c:=⟨cF (n+5),11+X.length⟩) (z:=.lst N .own) (Z:=U) (v:=g7 (mt,max f s)) (by lia);have P:=KI o T X U (.lst N .own);exact wq [dR 2 c1,dR 2 c2,dR 4 R,sb 1 (eA (λq=>h2 (cP q))),sd 1 (JY (H:=hs o T (gV X (es.map g7) (L.map fF))) (a:=f) (b:=s)),sb 0 P,dR 2 cm,dR 3 E]
  generalize max f s=l at*;have hB:∀H,d5 (((ie.drop 5).take 1).map BS.run) ⟨cF (n+5),11+X.length⟩ (tV X.length ro cnt l (qf [some (.d (nD j)),some (.d (nD s)),some (.d (eF C)),q 3])) H=some (.er,tV X.length ro cnt l (qf [some (.d (nD j)),some (.d (nD s)),some (.d (eF C)),some (.d (eF (Tu l C)))]),H):=by
   intro H;unfold Tu;by_cases h:l=1;.have jj:=Hm (n:=n+4) (wm:=11+X.length) (H:=H) O.fb.kb;rw[aS h,h];exact wq [dR 7 jj]
   .have h':¬(l:Int)=1:=λq=>h (cP q);rw[aX h];exact wq [sb 1 (eA h')]
  have hC:∀Q y,d5 ((ie.drop 6).map BS.run) ⟨cF (n+5),11+X.length⟩ (tV X.length ro cnt l (qf [some (.d (nD j)),some (.d (nD s)),some (.d (eF C)),some (.d (eF Q))])) (hs o T1 (gV X y N))=some (.er,tV X.length ro cnt l (qf [some (.d (nD j)),some (.d (nD s)),some (.d (eF C)),some (.d (eF Q))]),hs o T1 (gV X y (N++[fF ⟨JB j l,Q,l,0⟩]))):=by
   intro Q y;have E:=oU (F:=o) (T:=T1) (X:=X) (M:=dP) (c:=⟨cF (n+5),11+X.length⟩) (z:=.lst y .own) (Z:=N) (v:=fF ⟨JB j l,Q,l,0⟩) (by lia);have P:=Ed o T1 X N (.lst y .own);have dg:=digit (H:=hs o T1 (gV X y N)) (i:=j) (by lia);have a1:=gC (a:=[34]) (b:=[48+j]) (by rw[eK];simp);have a2:=gC (a:=[34,48+j]) (b:=[34]) (by rw[eK];simp);unfold JB at E⊢;by_cases J:0<j;.have I:=bg.mpr J;rw[aS (.inl J)]at E⊢;exact wq [sb 0 P,sb 1 (tS I),sd 2 dg,dR 10 E]
   .have I:¬(0:Int)<j:=λe=>J (bg.mp e);by_cases mM:l<2;.have A:(l:Int)<2:=bg.mpr mM;rw[aS (.inr mM)]at E⊢;exact wq [sb 0 P,sb 1 (tq I),sb 2 (tS A),sd 2 dg,dR 10 E]
    .have A:¬(l:Int)<2:=λe=>mM (bg.mp e);rw[aX (by simp[J,mM])]at E⊢;exact wq [sb 0 P,sb 1 (tq I),sb 2 (tq A),dR 6 E]
  have h:=gK hA (gK (hB _) (hC (Tu l C) _));exact h
theorem ze{ro cnt:Nat}{i:Prop}:∀(k:Nat){j:Nat}{F:ab Int}{T:ab Row}{es:ab (Nat×Nat)}{L:ab Slot}{b:Nat}{q:Nat->ae V},Good (g+4*k) T->g9 T es L b j->j+k<=4->(∀o T' es' L' c N,g' (.one 7) (d5 (ie.map BS.run)) ⟨cF (n+5),11+X.length⟩ ((aaB j k).map nD) (tV X.length ro cnt b q) (hs F T (gV X (es.map g7) (L.map fF)))=some (.er,tV X.length ro cnt c N,hs o T' (gV X (es'.map g7) (L'.map fF)))->Good g T'->T<+:T'->g9 T' es' L' c (j+k)->i)->i:=by intro k;induction k with|zero=>intro j F T es L b q G D J f;exact f F T es L b q rfl G (aq _) D|succ k ih=>intro j F T es L b q G D J f;refine zc (F:=F) (X:=X) (n:=n) (g:=g+4*k) (ro:=ro) (cnt:=cnt) (q:=q) G D (by lia) λU s T1 E R Z O I e z K l=>?_;refine ih (F:=s) (q:=O) z l (by lia) λy T2 d B Q P C A M m=>?_;exact f y T2 d B Q P (gT rfl I e C) A (K.trans M) (by rw[aap k,←aas];exact m)
theorem QB(G:Good (g+13) T):∃f t' L ro T',cF (n+6) wm 990 [d7,.ref 0] (hs F T X)=some (.d (.tup [nD t',fH (.lst L ro)]),hs f T' X)/\Good g T'/\T<+:T'/\hX T' t' (.lst L ro):=by
 refine hd λγ κ=>?_;refine ml (w_next (n:=n+4) (wm:=11+X.length) (F:=F) (T:=T) (X:=X) (m:=2) (by decide)) λro U a b1=>?_;refine ml (w_next (n:=n+4) (wm:=11+X.length) (F:=U) (T:=T) (X:=X) (m:=4) (by decide)) λi A c2 h=>?_;refine ze (X:=X) (n:=n) (g:=g+1) (ro:=ro) (cnt:=i) i (F:=A) (q:=qf []) (G.le (by lia)) (.tup rfl (by simp) .nil (by simp) (bB _) (λ_=>rfl) (aV _) (nofun):g9 T [] [] 0 0) (by lia) λf T' b L R q N J p' D=>?_;rw[bQ]at D;rw[←aad]at N;have M:my b:=by induction D with|tup O C pw B Q o P I=>exact⟨pw,λe y=>ar (B e y) Q,aj P (bK h (by decide))⟩|arr e s y=>rw[y];exact⟨bX _ _,by simp,by simp⟩
 have c:=gq (T:=T') (r:=p8 b ro);refine κ ⟨f,fO T' (p8 b ro),L,ro,fj T' (p8 b ro),?_,J.put,p'.trans eh,?_⟩;.rw[show fH (.lst L ro)=.tup [sD [91],.lst (L.map fF),nD ro]from rfl];clear D c;generalize b.map g7=j at*;generalize L.map fF=l at*;exact wk zE dT [dR 2 a,dR 2 c2,dR 0 (iB A X (.lst [] .own) T),dR 0 (Vm A T X),jX 1 (iz (n:=i) (by lia) (hs A T (X++[.lst [] .own,.lst [] .own]))),mb 0 N,dR 1 (show ig (.ref (11+X.length)) (hs f T' (gV X j l))=some (.d (.lst j),hs f T' (X++[.lst j .fz,.lst l .own]))from by simp),dR 1 ((rA (T:=T') (x:=.lst (b.map g7)) (ro:=ro) M (.inr rfl) J.lt) (n+2) (11+X.length) f (X++[.lst j .fz,.lst l .own])),Q7 2 (Gr (F:=f) (T:=fj T' (p8 b ro)) (X:=X) (z:=.lst j .fz) (Z:=l) (md:=.own)),dR 2 (iZ f X [.lst j .fz,.lst l .fz] (.tup [nD (fO T' (p8 b ro)),.tup [sD [91],.lst l,nD ro]]) (fj T' (p8 b ro)))]
 .induction D.pre (eh (T:=T') (r:=p8 b ro))with|tup O C pw B Q o P I=>have e:p8 b ro=.tup b ro:=rV C;rw[e]at c I⊢;exact⟨_,c,by lia,.tup b rfl M C O (by lia) I⟩|arr e s y hL hs hm sg hd E K=>subst y hL;exact⟨_,c,by lia,.arr e s rfl rfl sg hd E K⟩
end
noncomputable def wR(T:ab Row)(r:Row)(w:W):Prop:=∃p,eE T r p/\w=eV p
theorem SA:tG (wR T):=n9.more λr w h=>by obtain⟨p,h,rfl⟩:=h;induction p using Piece.casesOn with|prim w=>exact .inl h.1|obj L=>refine(let c:Prop:=_;(?_:c));obtain⟨j,E,i,A,d,f,o⟩:=h;exact .inr ⟨g0 (by simp),by rw[o.r];trivial⟩|lst L k=>refine .inr ⟨g0 (by simp),?_⟩;cases h.2with|tup g b=>rw[b];trivial|arr e s b=>rw[b];trivial
section
variable{F:ab Int}{T T' T1 T2:ab Row}{X Y:ab Cell}{n wm t g:Nat}{H:Hp}{k:ab W}{r:Row}{L:ab Slot}{p:Piece}
structure zi(T:ab Row)(t:Nat)(ps:ab Piece):Prop where
 sh:∃k,ShQ (wR T) T t k/\∀w,w∈k↔∃p∈ps,w=eV p
 to:∀q∈parts T t,∃p∈ps,hX T q p
 mB:∀p∈ps,∃q∈parts T t,hX T q p
theorem zi.pre(h:T<+:T')(s:zi T t ps):zi T' t ps:=by
 refine d9 (s.sh) λk a b=>?_;have e:=ke h a.lt;refine⟨⟨k,a.imp h λr w f=>d9 f λp x y=>⟨p,x.pre h,y⟩,b⟩,λq j=>?_,λp i=>?_⟩;.refine d9 (s.to q (e▸j)) λp c d=>?_;exact i12 p c (d.pre h)
 .refine d9 (s.mB p i) λq c d=>?_;exact i12 q (e▸c) (d.pre h)
theorem O3(G:Good g T)(h:hX T t p):zi T t [p]/\parts T t=[t]:=by
 refine d9 (h) λr d c=>?_;refine lJ (pS G d c) λe _=>?_;refine⟨⟨⟨[eV p],l9 SA G d ⟨p,c,rfl⟩,by simp⟩,λq f=>?_,λi b=>?_⟩,e⟩;.rw[e]at f;simp only[ah,ai,a6]at f;refine sY f ?_;exact⟨p,by simp,r,d,c⟩
 .replace b:=kB b;refine sY b ?_;exact⟨t,by rw[e];simp,r,d,c⟩
theorem Gb(h:ShQ ek T t k)(s:∀w∈k,w∈kx):zi T t (k.map .prim):=by
 have i:∀w∈k,w≠fW/\w≠ea:=by
  intro w f;have:=s w f;constructor;.intro e;subst e;exact ax this (by decide)
  .intro e;subst e;exact ax this (by decide)
 have l:∀q∈parts T t,∃r w,T[q]?=some r/\w∈k/\eE T r (.prim w):=by intro q d;refine iE (h.to q d) λr w a b c=>?_;exact jQ r w ⟨a,c,b,(i w c).1,(i w c).2⟩
 have j:∀w∈k,∃q∈parts T t,∃r,T[q]?=some r/\eE T r (.prim w):=by intro w f;refine(let A:Prop:=_;(?_:A));refine d9 (h.mB w f) λq d m=>?_;refine d9 m λr a b=>?_;exact⟨q,d,r,a,b,(i w f).1,(i w f).2⟩
 refine⟨⟨k,⟨h.lt,h.wx,h.nd,λq d=>?_,λw f=>?_⟩,λw=>?_⟩,λq d=>?_,λp o=>?_⟩;.refine iE (l q d) λr w a b c=>?_;exact jQ r w ⟨a,⟨_,c,rfl⟩,b⟩
 .refine d9 (j w f) λq d m=>?_;refine d9 m λr a b=>?_;exact⟨q,d,r,a,_,b,rfl⟩
 .constructor;.intro f;exact⟨.prim w,af.mpr ⟨w,f,rfl⟩,rfl⟩
  .rintro⟨p,o,rfl⟩;obtain⟨v,y,rfl⟩:=af.mp o;exact y
 .refine iE (l q d) λr w a b c=>?_;exact i12 _ (af.mpr ⟨w,b,rfl⟩) ⟨r,a,c⟩
 .refine d9 (af.mp o) λw f z=>?_;subst z;refine d9 (j w f) λq d m=>?_;refine d9 m λr a b=>?_;exact⟨q,d,r,a,b⟩
theorem Qt{R:ab (Nat×ab Piece)}(G:Good (g+1) T)(h:∀z∈R,zi T z.1 z.2)(N:tD (R.flatMap (·.2)))(hl:((R.map (·.1)).flatMap (parts T)).length<=(R.flatMap (·.2)).length)(hp:(R.flatMap (·.2)).length<=4):∃t' T',Runs 3 289 [d7,.d (.lst ((R.map (·.1)).map nD))] T (.d (nD t')) T'/\Good g T'/\T<+:T'/\NInv T' t' (R.flatMap (·.2))/\t'≠0/\t'≠1/\t'≠10:=by
 refine(let γ:Prop:=_;(?_:γ));have hk:∀z∈R,∃k,ShQ (wR T) T z.1 k/\∀w,w∈k↔∃p∈z.2,w=eV p:=λz f=>(h z f).sh;obtain⟨U,l⟩:∃U:Nat×ab Piece->ab W,∀z∈R,ShQ (wR T) T z.1 (U z)/\∀w,w∈U z↔∃p∈z.2,w=eV p:=by classical refine⟨λz=>if h:∃k,ShQ (wR T) T z.1 k/\∀w,w∈k↔∃p∈z.2,w=eV p then ac2 h else[],λz f=>?_⟩;simp only[hk z f,dif_pos];exact abL (hk z f)
 refine(tp SA G (ts:=R.map (·.1)) (.inr rfl) (λt M=>by obtain⟨z,f,rfl⟩:=af.mp M;exact⟨U z,af.mpr ⟨z,f,rfl⟩,(l z f).1⟩) (λk ZY=>by obtain⟨z,f,rfl⟩:=af.mp ZY;exact⟨z.1,af.mpr ⟨z,f,rfl⟩,(l z f).1⟩) (by lia) λt' T' c Z p' s y B h1=>?_);have hj:ei (R.map U)=ei ((R.flatMap (·.2)).map λp=>[eV p]):=um λw=>by
  simp only[af,ct];constructor;.intro Z8;refine(let γ:Prop:=_;(?_:γ));obtain⟨_,⟨z,f,rfl⟩,Q⟩:=Z8;refine d9 (((l z f).2 w).mp Q) λp i e=>?_;exact i12 _ ⟨p,⟨z,f,i⟩,rfl⟩ (by simp[e])
  .intro VL;obtain⟨_,⟨p,⟨z,f,i⟩,rfl⟩,Q⟩:=VL;replace Q:=kB Q;exact⟨_,⟨z,f,rfl⟩,((l z f).2 w).mpr ⟨p,i,Q⟩⟩
 rw[hj]at s B;have O:∀q∈(R.map (·.1)).flatMap (parts T),∃p∈R.flatMap (·.2),hX T q p:=by intro q K;refine d9 (ct.mp K) λt M K=>?_;obtain⟨z,f,rfl⟩:=af.mp M;refine d9 ((h z f).to q K) λp a b=>?_;exact i12 p (ct.mpr ⟨z,f,a⟩) b
 have P:∀q∈parts T' t',∃p∈R.flatMap (·.2),hX T' q p:=λq K=>by refine d9 (O q (y q K)) λp a b=>?_;exact i12 p a (b.pre p')
 have C:=ar (len_sub s.nd y) hl;have m:∀p∈R.flatMap (·.2),∃q∈parts T' t',hX T' q p:=by intro p i;refine d9 (ct.mp i) λz f Z4=>?_;obtain⟨q,a,r,b,c'⟩:=(h z f).mB p Z4;exact i12 q (B q (ct.mpr ⟨z.1,af.mpr ⟨z,f,rfl⟩,a⟩) r _ b ⟨p,c',rfl⟩ (N.kept i)) ⟨r,fQ p' b,c'.pre p'⟩
 refine Rg t' T' c Z p' ⟨s.lt,s.nd,P,m,N,ar C hp,hp,λp1 e1=>h1 ?_⟩ ?_;.refine d9 (m p1 (by rw[e1];simp)) λq K _=>?_;rw[e1]at C;simp at C;have:=aaA K;lia
 .have I:∀{j:Nat}{s:W},T'[j]?=some (.key s)->j≠2->(∀p,¬eE T' (.key s) p)->t'≠j:=by intro j s hj YZ hn e;subst e;have e1:=eO hj YZ (by simp);obtain⟨p,_,r,a,b⟩:=P t' (by rw[e1];simp);rw[hj]at a;obtain rfl:=sI a;exact hn p b
  have J:∀s,s≠d6->s≠gx->s≠d0->s≠dZ->∀p,¬eE T' (.key s) p:=by intro s h1 h2 h3 h4 p hP;induction p using Piece.casesOn with|prim w=>obtain⟨Wd,na,nu⟩:=hP;have h:=Wd.1;have e:=Wd.2;subst e;simp only[ah,ai,a6]at h;rcases h with rfl|rfl|rfl|rfl|rfl|rfl<;>simp_all|obj L=>obtain⟨ps,E,ni,A,L1,L2,o⟩:=hP;cases o.r|lst L ro=>cases hP.2with|tup es M=>exact xc Row.ctorIdx M rfl|arr e s M=>exact xc Row.ctorIdx M rfl
  exact⟨I (Z.at rfl) (by decide) (J _ (by decide) (by decide) (by decide) (by decide)),I (Z.at rfl) (by decide) (J _ (by decide) (by decide) (by decide) (by decide)),I (Z.at rfl) (by decide) (J _ (by decide) (by decide) (by decide) (by decide))⟩
noncomputable def mG(T:ab Row)(t:Nat)(ps:ab Piece):Prop:=(t=0/\ps=[.obj [anyS]])\/((t=1\/t=10)/\ps=[.obj []])\/(NInv T t ps/\t≠0/\t≠1/\t≠10)
theorem yz(h:SI k)(d:∀p∈ps,∀w,p≠.prim w):tD (k.map .prim++ps):=by
 have b:∀w,Piece.prim w∈k.map .prim++ps↔w∈k:=by
  intro w;rw[aJ];constructor;.
   rintro(q|q);.refine d9 (af.mp q) λv f e=>?_;cases e;exact f
   .exact ax rfl (d _ q w)
  .intro q;exact .inl (af.mpr ⟨w,q,rfl⟩)
 refine⟨λq=>?_,λq=>?_,λq w c=>h.1.n.str ((b _).mp q) w ((b _).mp c),λq w c=>h.1.n.num ((b _).mp q) w ((b _).mp c)⟩;.exact ax (h.2 _ ((b _).mp q)) (by decide)
 .exact ax (h.2 _ ((b _).mp q)) (by decide)
end
section
variable{F:ab Int}{T T' T1 T2:ab Row}{X Y:ab Cell}{n wm t g:Nat}{H:Hp}{k:ab W}{r:Row}{L:ab Slot}{p:Piece}
theorem Mf(h:Z.length+ys.length<64):fK M c (.ref (11+(X.length+1))) 101 [.d (.lst ys)] (hs F T (X++[z,.lst Z .own]))=some (.d .fS,hs F T (X++[z,.lst (Z++ys) .own])):=by rw[WA qC (by decide) (by rw[eK];lia),AO]
@[simp]theorem O4:iY M (.ref (11+(X.length+1))) 101 (hs F T (X++[z,.lst Z md]))=true:=jm qC 101 M
structure i6(T:ab Row)(R:ab (Nat×ab Piece))(m:Nat):Prop where
 ok:∀z∈R,zi T z.1 z.2
 wx:∃k ps,R.flatMap (·.2)=k.map .prim++ps/\SI k/\∀p∈ps,∀w,p≠.prim w
 l1:((R.map (·.1)).flatMap (parts T)).length<=m
 l2:(R.flatMap (·.2)).length<=m
 l3:R.length<=m
 le:((R.map (·.1)).flatMap (parts T)).length<=(R.flatMap (·.2)).length
theorem i6.pre(h:T<+:T')(s:i6 T R m):i6 T' R m:=by
 have:(R.map (·.1)).flatMap (parts T')=(R.map (·.1)).flatMap (parts T):=by rw[ac1,ac1];congr 1;refine bF λt c=>?_;refine d9 (af.mp c) λz b d=>?_;refine sZ d ?_;refine d9 ((s.ok z b).sh) λk a _=>?_;exact ke h a.lt
 exact⟨λz b=>(s.ok z b).pre h,s.wx,(sY this s.l1),s.l2,s.l3,(sY this s.le)⟩
theorem Lx:SI []:=⟨⟨pn,by simp,by simp⟩,by simp⟩
theorem i6.nil:i6 T [] 0:=⟨by simp,⟨[],[],rfl,Lx,by simp⟩,by simp,by simp,by simp,by simp⟩
theorem i6.snoc(G:Good g T)(s:i6 T R m)(h:hX T t p)(i:∀w,p≠.prim w):i6 T (R++[(t,[p])]) (m+1):=by
 refine lJ (O3 G h) λo e=>?_;refine iE (s.wx) λk y c d f=>?_;refine⟨λz l=>?_,⟨k,y++[p],?_,d,λq j=>?_⟩,?_,?_,?_,?_⟩;.
  rcases aJ.mp l with q|q;.exact s.ok z q
  .replace q:=kB q;refine sY q ?_;exact o
 .rw[b7,c];simp
 .rcases aJ.mp j with b|b;.exact f q b
  .replace b:=kB b;refine sY b ?_;exact i
 .have:=s.l1;rw[aC,b7,ao];simp only[aH,bD,cD,aaj,aL,e,ba,bS];lia
 .have:=s.l2;rw[b7,ao];simp only[cD,aaj,aL,ba,bS];lia
 .have:=s.l3;simp;exact this
 .have:=s.le;rw[aC,b7,ao,b7,ao];simp only[aH,bD,cD,aaj,aL,e,ba,bS];lia
noncomputable def Bw(R:ab (Nat×ab Piece)):ab D:=(R.map (·.1)).map nD
noncomputable def xM(R:ab (Nat×ab Piece)):ab D:=(R.flatMap (·.2)).map fH
theorem Ig:Bw (R++[(t,[p])])=Bw R++[nD t]:=by simp[Bw]
theorem GB:xM (R++[(t,[p])])=xM R++[fH p]:=by simp[xM]
noncomputable def lg(i:Nat)(o2 Q O C E A:ae V):Loc:=[some d7,some (.ref 0),o2,Q,some (.ref (11+(i+1))),some (.ref (11+i)),O,C,E,A]
noncomputable abbrev E3(X:ab Cell)(R:ab (Nat×ab Piece)):ab Cell:=X++[.lst (Bw R) .own,.lst (xM R) .own]
noncomputable abbrev kr(F:ab Int)(T:ab Row)(X:ab Cell)(R:ab (Nat×ab Piece)):Hp:=hs F T (E3 X R)
section
variable{R:ab (Nat×ab Piece)}{m:Nat}{o2 Q O C E A:ae V}{γ:Prop}
theorem wB(s:i6 T R m)(e:m<=4)(c:cF (n+6) (11+X.length) f [d7,.ref 0] (kr F T X R)=some (.d (.tup [nD t,fH p]),kr b T' X R)):d5 ((qH f).map BS.run) ⟨cF (n+6),11+X.length⟩ (lg X.length o2 Q O C E A) (kr F T X R)=some (.er,lg X.length o2 Q O (some (.d (nD t))) (some (.d (fH p))) A,kr b T' X (R++[(t,[p])])):=by
 have j:(Bw R).length<=4:=by have:=s.l3;simp[Bw];lia
 have i:(xM R).length<=4:=by have:=s.l2;rw[xM,ak];lia
 rw[show kr b T' X (R++[(t,[p])])=hs b T' (X++[.lst (Bw R++[nD t]) .own,.lst (xM R++[fH p]) .own])from by rw[←Ig,←GB]];exact wq [dR 2 c,sb 0 (KI b T' X (Bw R) (.lst (xM R) .own)),dR 1 ((λz=>rC (F:=b) (T:=T') (X:=X) (M:=dP) (c:=⟨cF (n+6),11+X.length⟩) (z:=z) (Z:=Bw R) (v:=nD t) (by lia)) (.lst (xM R) .own)),sb 0 (Ed b T' X (xM R) (.lst (Bw R++[nD t]) .own)),dR 1 ((λz=>oU (F:=b) (T:=T') (X:=X) (M:=dP) (c:=⟨cF (n+6),11+X.length⟩) (z:=z) (Z:=xM R) (v:=fH p) (by lia)) (.lst (Bw R++[nD t]) .own))]
theorem GS(G:Good (g+21) T)(s:i6 T R m)(i:m<=4)(κ:∀f T' b j l,d5 ((qH 983).map BS.run) ⟨cF (n+6),11+X.length⟩ (lg X.length o2 Q O C E A) (kr F T X R)=some (.er,lg X.length o2 Q O j l A,kr f T' X b)->Good g T'->T<+:T'->i6 T' b (m+1)->γ):γ:=V3 (FO G) λ_ _ _ _ c d e P=>κ _ _ _ _ _ (wB s i c) d e ((s.pre e).snoc d P nofun)
theorem Ir(G:Good (g+13) T)(s:i6 T R m)(i:m<=4)(κ:∀f T' b j l,d5 ((qH 990).map BS.run) ⟨cF (n+6),11+X.length⟩ (lg X.length o2 Q O C E A) (kr F T X R)=some (.er,lg X.length o2 Q O j l A,kr f T' X b)->Good g T'->T<+:T'->i6 T' b (m+1)->γ):γ:=Zx (QB G) λ_ _ _ _ _ c d e P=>κ _ _ _ _ _ (wB s i c) d e ((s.pre e).snoc d P nofun)
theorem Ca(G:Good (g+4) T)(κ:∀B T' y q6,d5 (mL.map BS.run) ⟨cF (n+6),11+X.length⟩ (lg X.length o2 Q O C E A) (kr F T X [])=some (.er,lg X.length o2 Q q6 C E A,kr B T' X y)->Good g T'->T<+:T'->i6 T' y 3->γ):γ:=by
 refine ml (w_next (n:=n+5) (wm:=11+X.length) (F:=F) (T:=T) (X:=E3 X []) (m:=3000) (by decide)) λd f J b1=>?_;refine d9 (w4 (m:=d) (by lia)) λi b K=>?_;have P:=b.1.l;refine CZ (As (F:=f) (X:=E3 X []) (n:=n+2) (wm:=11+X.length) (G.le ((cy ‹_› _))) b.1.n b.1.w (by lia)) λj T' N I p' s a=>?_;have q:=λz=>Mf (F:=f) (T:=T') (X:=X) (M:=dP) (c:=⟨cF (n+6),11+X.length⟩) (z:=z) (Z:=[]) (ys:=(i.map Piece.prim).map fH) (by simp;lia);rw[aK]at q;refine κ f T' [(j,i.map .prim)] (some (.d (eF i))) ?_ I p' ⟨?_,⟨i,[],rfl,b,by simp⟩,?_,?_,by simp,by simp;exact a⟩;.unfold kr E3;rw[(show xM [(j,i.map Piece.prim)]=i.map (λw=>fH (.prim w))from by simp[xM])];exact wq [dR 2 J,dR 1 (K (n+4) (11+X.length) (hs f T (E3 X []))),sb 0 (KI f T X [] (.lst [] .own)),dR 2 N,dR 1 ((λz=>rC (F:=f) (T:=T') (X:=X) (M:=dP) (c:=⟨cF (n+6),11+X.length⟩) (z:=z) (Z:=[]) (v:=nD j) (by simp)) (.lst [] .own)),sb 0 (ag some (O4 (F:=f) (T:=T') (X:=X) (z:=.lst [nD j] .own) (Z:=[]) (md:=.own) (M:=dP))),jX 1 (fV (elt:=(d8 [dM 10,fq [],dN (.int 0)]).run) (c:=⟨cF (n+6),11+X.length⟩) (e:=sD) (H:=hs f T' (X++[.lst [nD j] .own,.lst [] .own])) (lg X.length o2 Q (some (.d (eF i))) C E A) i (λw=>fH (.prim w)) (λw _=>wd []) (o:=none)),dR 1 (q (.lst [nD j] .own))]
 .intro z h;rw[kB h];exact Gb s λw U=>b.2 w U
 .simp;lia
 .simp;omega
end
end
section
variable{F:ab Int}{T T' T1 T2:ab Row}{X Y:ab Cell}{n wm t g:Nat}{H:Hp}{k:ab W}{r:Row}{L:ab Slot}{p:Piece}
theorem CM{o2 Q O:ae V}:∀(B:ab D){F:ab Int}{T:ab Row}{R:ab (Nat×ab Piece)}{m:Nat}{C E A:ae V}{f:Prop},Good (g+21*B.length) T->i6 T R m->m+B.length<=4->(∀y T' c i j U,g' (.one 9) (d5 ((qH 983).map BS.run)) ⟨cF (n+6),11+X.length⟩ B (lg X.length o2 Q O C E A) (kr F T X R)=some (.er,lg X.length o2 Q O i j U,kr y T' X c)->Good g T'->T<+:T'->i6 T' c (m+B.length)->f)->f:=by intro B;induction B with|nil=>intro F T R m C E A f G s q o;exact o F T R C E A rfl G (aq _) s|cons d B ih=>intro F T R m C E A f G s q o;simp only[ba]at G q;refine GS (F:=F) (X:=X) (n:=n) (g:=g+21*B.length) (o2:=o2) (Q:=Q) (O:=O) (C:=C) (E:=E) (A:=some (.d d)) (G.le (by lia)) s (by lia) λz T1 O! i j e J N s1=>?_;refine ih (F:=z) (C:=i) (E:=j) (A:=some (.d d)) J s1 (by lia) λI T2 l Z h a M K P s2=>?_;refine o I T2 l Z h a ?_ K (N.trans P) (by rw[ba,aap B.length,←aas];exact s2);refine Eq.trans (b:=((d5 ((qH 983).map BS.run) ⟨cF (n+6),11+X.length⟩ (lg X.length o2 Q O C E (some (.d d))) (kr F T X R)).bind (TU (.one 9) (d5 ((qH 983).map BS.run)) ⟨cF (n+6),11+X.length⟩ B))) rfl ?_;rw[e];exact M
noncomputable abbrev Pd:ab Nat:=[1,1,1,0,1,1,0,2]
noncomputable def vZ(s:Nat):Nat:=Pd.getD s 0
theorem OP(h:s<8):([D.int 1,.int 1,.int 1,.int 0,.int 1,.int 1,.int 0,.int 2]:ab D)[s]?=some (nD (vZ s)):=(bV (f:=nD) (l:=Pd)).trans (by rw[(show∀s<8,Pd[s]?=some (vZ s)from by decide+kernel) s h];rfl)
theorem So:∀s<8,vZ s<=2:=by decide+kernel
theorem RV:∀s<8,¬(s=3\/s=5)->(if s=6\/s=4then 3 else 0)+vZ s<=4:=by decide+kernel
theorem Ra:∀s<8,s=3\/s=5->0+1+vZ s<=4:=by decide+kernel
theorem Sw(hs:s=6\/s=4):(i5 [(TE (dS .Eq (dM 2) (dN (.int 6)))),(TE (dS .Eq (dM 2) (dN (.int 4))))]).run c (lg i (some (.d (nD s))) Q O C E A) H=some (true,H):=by rcases hs with rfl|rfl<;>rfl
theorem TG(hs:s=3\/s=5):(i5 [(TE (dS .Eq (dM 2) (dN (.int 3)))),(TE (dS .Eq (dM 2) (dN (.int 5))))]).run c (lg i (some (.d (nD s))) Q O C E A) H=some (true,H):=by rcases hs with rfl|rfl<;>rfl
theorem DG{f:Prop}(G:Good (g+60) T)(h:s<8)(κ:∀F' t' ps T' l' z1 z2,d5 ((fI.drop 2).map BS.run) ⟨cF (n+6),11+X.length⟩ [some d7,some (.ref 0),some (.d (nD s)),Q,none,none,none,none,none,none] (hs F T X)=some (.ret (.d (.tup [nD t',.lst (ps.map fH)])),l',hs F' T' (X++[z1,z2]))->Good g T'->T<+:T'->mG T' t' ps->f):f:=by
 have hP:∀{f:Prop},(∀l T1 R O,d5 (((fI.drop 4).take 1).map BS.run) ⟨cF (n+6),11+X.length⟩ (lg X.length (some (.d (nD s))) Q none none none none) (kr F T X [])=some (.er,lg X.length (some (.d (nD s))) Q O none none none,kr l T1 X R)->Good (g+56) T1->T<+:T1->i6 T1 R (if s=6\/s=4then 3 else 0)->f)->f:=by
  intro f κ;by_cases hs:s=6\/s=4;.refine Ca (F:=F) (X:=X) (n:=n) (g:=g+56) (o2:=some (.d (nD s))) (Q:=Q) (O:=none) (C:=none) (E:=none) (A:=none) G λl T1 R O e P p1 I=>κ l T1 R O (BC (Sw hs) e) P p1 (by rw[aS hs];exact I)
  .refine κ F T [] none (wq [sb 1 (eA (a:=s) (b:=6) (by lia)),sb 3 (eA (a:=s) (b:=4) (by lia))]) (G.le (by lia)) (aq _) (by rw[aX hs];exact .nil)
 refine hP λl T1 K O e1 P p1 I=>?_;have hL:∀{f:Prop},(∀j T2 R C E,d5 (((fI.drop 5).take 1).map BS.run) ⟨cF (n+6),11+X.length⟩ (lg X.length (some (.d (nD s))) Q O none none none) (kr l T1 X K)=some (.er,lg X.length (some (.d (nD s))) Q O C E none,kr j T2 X R)->Good (g+43) T2->T1<+:T2->∀m,i6 T2 R m->m+vZ s<=4->f)->f:=by
  intro f κ;by_cases hs:s=3\/s=5;.rw[aX (show¬(s=6\/s=4)by lia)]at I;refine Ir (F:=l) (X:=X) (n:=n) (g:=g+43) (o2:=some (.d (nD s))) (Q:=Q) (O:=O) (C:=none) (E:=none) (A:=none) P I (by lia) λj T2 R C E e U p2 s2=>κ j T2 R C E (BC (TG hs) e) U p2 _ s2 (Ra s h hs)
  .exact κ l T1 K none none (wq [sb 1 (eA (a:=s) (b:=3) (by lia)),sb 3 (eA (a:=s) (b:=5) (by lia))]) (P.le (by lia)) (aq _) _ I (RV s h hs)
 refine hL λj T2 y C E e2 U p2 m s2 hm=>?_;have Z:=So s h;refine CM (X:=X) (n:=n) (g:=g+1) (o2:=some (.d (nD s))) (Q:=Q) (O:=O) ((bx (vZ s)).map λ(i:Nat)=>D.int (i:Int)) (F:=j) (C:=C) (E:=E) (A:=none) (U.le (by simp;lia)) s2 (by simp;lia) λo T3 R q7 q8 q9 e3 G3 p3 z=>?_;rw[ak,abl]at z;refine iE z.wx λkk ps eq fk J=>?_;refine CZ (Qt (R:=R) G3 z.ok (eq▸yz fk J) z.le (ar z.l2 hm)) λt' T' c G' p' N ne=>?_;have ca:=OP h;have c':=c (n+3) (11+X.length) o (X++[.lst (Bw R) .fz,.lst (xM R) .own]);have hr:=iz (n:=vZ s) (by lia) (kr j T2 X y);have hd:d5 ((fI.drop 6).map BS.run) ⟨cF (n+6),11+X.length⟩ (lg X.length (some (.d (nD s))) Q O C E none) (kr j T2 X y)=some (.ret (.d (.tup [nD t',.lst (xM R)])),lg X.length (some (.d (nD s))) Q O q7 q8 q9,hs o T' (X++[.lst (Bw R) .fz,.lst (xM R) .fz])):=by
  clear hm Z z;generalize Bw R=M at*;generalize xM R=B at*;generalize vZ s=q at*;generalize kr j T2 X y=HH at*;generalize(bx q).map _=rq at*;have cs:fZ (.d (.tup [.int 1,.int 1,.int 1,.int 0,.int 1,.int 1,.int 0,.int 2])) (nD s) HH=some (.d (nD q)):=by simp[ca]
  have av:ig (.ref (11+X.length)) (hs o T3 (X++[.lst M .own,.lst B .own]))=some (.d (.lst M),hs o T3 (X++[.lst M .fz,.lst B .own])):=by simp[ig]
  have td:toD (.ref (11+(X.length+1))) (hs o T' (X++[.lst M .fz,.lst B .own]))=some (.lst B,hs o T' (X++[.lst M .fz,.lst B .fz])):=by simp
  exact wq [sv 9 cs,jX 1 hr,mb 0 e3,dR 1 av,dR 0 c',Q7 1 td]
 have h0:d5 (((fI.drop 2).take 2).map BS.run) ⟨cF (n+6),11+X.length⟩ [some d7,some (.ref 0),some (.d (nD s)),Q,none,none,none,none,none,none] (hs F T X)=some (.er,lg X.length (some (.d (nD s))) Q none none none none,kr F T X []):=by exact wq [dR 0 (iB F X (.lst [] .own) T),dR 0 (Vm F T X)]
 exact κ o t' _ T' _ _ _ (gK h0 (gK e1 (gK e2 hd))) G' (p1.trans (p2.trans (p3.trans p'))) (.inr (.inr ⟨N,ne⟩))
theorem Hh(G:Good g T):NInv T 2 []:=by have e:parts T 2=[]:=rfl;exact⟨gJ (G.at rfl),by rw[e];simp,by rw[e];simp,by simp,⟨by simp,by simp,by simp,by simp⟩,by rw[e];simp,by simp,λp e=>by exact xn e⟩
theorem HI(G:Good (g+60) T):∃y t' ps T',cF (n+7) wm 995 [d7,.ref 0] (hs F T X)=some (.d (.tup [nD t',.lst (ps.map fH)]),hs y T' X)/\Good g T'/\T<+:T'/\mG T' t' ps:=by
 refine hd λN q=>?_;refine ml (w_next (n:=n+5) (wm:=11+X.length) (F:=F) (T:=T) (X:=X) (m:=8) (by decide)) λs B j C=>?_;have o:Good g T:=G.le ((aG _ _));have i:∀Q f,(∀{r},d5 ((fI.drop 2).map BS.run) ⟨cF (n+6),11+X.length⟩ [some d7,some (.ref 0),some (.d (nD s)),Q,none,none,none,none,none,none] (hs f T X)=r->d5 (fI.map BS.run) ⟨cF (n+6),11+X.length⟩ [some d7,some (.ref 0),none,none,none,none,none,none,none,none] (hs F T X)=r)->N:=by intro Q f J;refine DG (F:=f) (X:=X) (n:=n) (Q:=Q) G C λy t' ps T' P R U e a b c=>q ⟨y,t',ps,T',?_,a,b,c⟩;rw[iN,ip rfl,dT];refine(ag (ck · (fin (11+X.length))) (J e)).trans ?_;exact iZ ..
 by_cases I:s=6;.
  subst I;refine ml (w_next (n:=n+5) (wm:=11+X.length) (F:=B) (T:=T) (X:=X) (m:=5) (by decide)) λd f l O=>?_;by_cases E:d=0;.subst E;refine i (some (.d (nD 0))) f λe=>gK (a:=fI.take 2) ?_ e;exact wq [dR 2 j,dR 5 l]
  .have A:Runs 1 971 [d7,.d (sD [111,98,106,101,99,116])] T (.d (nD 10)) T:=sW (by decide+kernel) (by decide+kernel);have K:Runs 1 971 [d7,.d (sD fG)] T (.d (nD 2)) T:=sW (by decide+kernel) (by decide+kernel);have M:Runs 1 971 [d7,.d (sD ea)] T (.d (nD 1)) T:=sW (by decide+kernel) (by decide+kernel);have z:Runs 1 971 [d7,.d (sD fW)] T (.d (nD 0)) T:=sW (by decide+kernel) (by decide+kernel);rcases(show d=1\/d=2\/d=3\/d=4by lia)with rfl|rfl|rfl|rfl;.refine q ⟨f,2,[],T,?_,o,aq _,.inr (.inr ⟨Hh o,by decide⟩)⟩;exact wk iN dT [dR 2 j,dR 5 l,dR 41 (K (n+5) (11+X.length) f X),dR 2 (dU f X (D.tup [D.int 2,D.lst []]) T)]
   .refine q ⟨f,1,[.obj []],T,?_,o,aq _,.inr (.inl ⟨.inl rfl,rfl⟩)⟩;exact wk iN dT [dR 2 j,dR 5 l,dR 41 (M (n+5) (11+X.length) f X),dR 2 (dU f X (D.tup [D.int 1,D.lst [D.tup [D.str (S [123]),D.lst [],D.int 0]]]) T)]
   .refine q ⟨f,0,[.obj [anyS]],T,?_,o,aq _,.inl ⟨rfl,rfl⟩⟩;have z:=z (n+5) (11+X.length) f X;exact wk iN dT [dR 2 j,dR 5 l,dR 41 z,dR 2 (dU f X (D.tup [D.int 0,D.lst [D.tup [D.str (S [123]),D.lst [D.tup [D.str (S d0),D.lst [D.str (S fW)],D.int 2,D.int 0]],D.int 0]]]) T)]
   .refine q ⟨f,10,[.obj []],T,?_,o,aq _,.inr (.inl ⟨.inr rfl,rfl⟩)⟩;have A:=A (n+5) (11+X.length) f X;exact wk iN dT [dR 2 j,dR 5 l,dR 41 A,dR 2 (dU f X (D.tup [nD 10,D.lst [D.tup [D.str (S [123]),D.lst [],D.int 0]]]) T)]
 .refine i none B λe=>gK (a:=fI.take 2) ?_ e;exact wq [dR 2 j,sb 1 (eA (show¬(s:Int)=6from by lia))]
end
section
variable{F:ab Int}{T T' T1 T2:ab Row}{X Y:ab Cell}{n wm t g:Nat}{H:Hp}{k:ab W}{r:Row}{L:ab Slot}{p:Piece}{ps:ab Piece}
theorem jC.b(h:jC s)(hk:∀w∈s.kind,mF w)(ho:mF s.key):s5 s:=⟨⟨by have:=h.kl;lia,hk⟩,ho,h.key,h.sign,h.held⟩
theorem RS:mF (34::w):=⟨_,_,rfl,by decide⟩
theorem Mx:mF d0:=⟨_,_,rfl,by decide⟩
theorem MO:mF dZ:=⟨_,_,rfl,by decide⟩
theorem mw.b{ps:ab mg}(o:mw T ps E ni A c d):∀s∈(ps.filter j7).map A++c++d,s5 s:=λs hs=>o.ind hs (M:=λs=>jC s->s5 s) (λz _ _ P Z=>Z.b P.seen.z.2.2 (P.key▸RS)) (λq s h x Z=>Z.b (show Seen T q.1 false s.kind from⟨_,x.kd,rfl⟩).z.2.2 (h.elim (λh=>h.2▸Mx) λh=>h.2▸MO)) (o.z s hs)
theorem tv.len{ps:ab mg}(o:tv T r L ps E ni A c d):L.length<=7:=by have b:=len_sub o.nd (λk hk=>by obtain⟨s,hs,rfl⟩:=af.mp hk;exact af.mpr ⟨s,(o.mem s).mp hs,rfl⟩);have e:=o.o.len;have f:=aY j7 ps;have j:=o.o.i1.len;have l2:=o.o.i2.len;simp at b;lia
theorem Bi(P:eE T r p):iv p:=by
 induction p using Piece.casesOn with
 |prim w=>
  have h:=n9.ok P.1;constructor;.
   intro e;subst e;have:=P.1;rcases r with⟨⟩<;>first|exact this.elim|skip
   .exact ax this (by rintro⟨h,rfl⟩;revert h;decide)
   .rcases this.2with⟨_,h⟩|⟨_,h⟩<;>exact ax h (by decide)
   .have:=ag List.head? this.2;simp at this
   .have N:=this.1;have:=this.2;simp at this;lia
  .intro e;subst e;have:=P.1;rcases r with⟨⟩<;>first|exact this.elim|skip
   .exact ax this (by rintro⟨h,rfl⟩;revert h;decide)
   .rcases this.2with⟨_,h⟩|⟨_,h⟩<;>exact ax h (by decide)
   .have:=ag List.head? this.2;simp at this
   .have N:=this.1;have:=this.2;simp at this;lia|obj L=>obtain⟨_,_,_,_,_,_,o⟩:=P;exact⟨λs hs=>o.o.b s ((o.mem s).mp hs),o.names.1,by have:=o.len;lia⟩|lst L U=>
  obtain⟨_,P⟩:=P;induction P with
  |arr e s J G C y l K=>refine sY G ?_;have z:=(show Seen T e false s.kind from⟨_,K,rfl⟩).z;refine⟨λZ f=>?_,by simp,by simp⟩;replace f:=kB f;refine sY f ?_;exact⟨⟨by have:=z.1;lia,z.2.2⟩,(sY l MO),by rw[l];decide,(b4 ‹_›),by lia⟩|tup m J M O R Q B=>
   refine⟨λs hs=>?_,?_,by lia⟩;.
    obtain⟨i,d,e⟩:=aaR.mp hs;have c:i<m.length:=by lia
    have E:=B i m[i] s (au c) (by rw[au d,e]);exact(E.z (M.le _ (aai c))).b E.seen.z.2.2 ((sY E.key RS))
   .have A:∀i(d:i<L.length),eZ L[i].key=[34,48+i,34]:=by
     intro i d;have c:i<m.length:=by lia
     rw[(B i m[i] L[i] (au c) (au d)).key];simp[eZ]
    refine abd.mpr ?_;intro i j d q I e;simp only[ak]at d q;simp only[List.getElem_map]at e;simp only[A _ d,A _ q]at e;simp at e;lia
theorem NInv.b(I:NInv T t ps):∀p∈ps,iv p:=λp c=>by obtain⟨_,_,r,_,P⟩:=I.mB p c;exact Bi P
theorem NB:iv (.obj [anyS]):=by refine⟨λs hs=>?_,by decide,by decide⟩;replace hs:=kB hs;subst hs;exact⟨⟨by decide,by simp only[ah,ai,a6,cH];exact⟨_,_,rfl,by decide⟩⟩,Mx,by decide,by decide,by decide⟩
theorem Qd:iv (.obj []):=⟨by simp,by simp,by simp⟩
theorem mG.b(I:mG T t ps):∀p∈ps,iv p:=by
 rcases I with⟨_,rfl⟩|⟨_,rfl⟩|⟨I,_⟩;.simp only[ah,ai,a6,cH];exact NB
 .simp only[ah,ai,a6,cH];exact Qd
 .exact I.b
theorem mG.len(I:mG T t ps):ps.length<=4:=by
 rcases I with⟨_,rfl⟩|⟨_,rfl⟩|⟨I,_⟩;.simp
 .simp
 .exact I.l2
theorem Ks{I:ab W}(c:I.Nodup)(h:∀w∈I,w∈pd):iv (.obj (I.map f7)):=by
 have b:∀w∈pd,mF w/\w.length<=12:=by intro w b;simp only[pd,ah,ai,a6]at b;rcases b with rfl|rfl|rfl|rfl|rfl|rfl|rfl<;>exact⟨⟨_,_,rfl,by decide⟩,by decide⟩
 refine⟨λs hs=>?_,?_,?_⟩;.obtain⟨w,TY,rfl⟩:=af.mp hs;exact⟨⟨by simp[f7],by simp[f7]⟩,(b w (h w TY)).1,(b w (h w TY)).2,by unfold f7;simp only;split<;>lia,by simp[f7]⟩
 .rw[aK];exact uu c h
 .have:=len_sub c h;simp[pd]at*;lia
theorem Iq(h:iv (.obj L)):iv (.obj (L.filter f)):=⟨λs hs=>h.1 s (aO.mp hs).1,h.2.1.sublist (abB _ aa2),aj (aY _ _) h.2.2⟩
end
section
variable{F:ab Int}{T T' T1 T2:ab Row}{X Y:ab Cell}{n wm t g:Nat}{H:Hp}{k:ab W}{r:Row}{L:ab Slot}{p:Piece}{ps:ab Piece}{pl:ab D}
structure Xn(R C U J:Nat)(B:ab W)(Z:Nat):Prop where
 ho:R<5
 hm:C<9
 hb:U<=2
 b1:(R=1\/R=4)->U≠0
 b0:¬(R=1\/R=4)->U=0
 hc:J<=3
 c0:U=0->J=0
 fk:FK B
 hk:Z<128
noncomputable def tr(t:Nat)(pl:ab D)(R C U J Z:Nat)(B:ab W)(r:Loc):Loc:=some d7::some eb::some (.ref 0)::some (.d (nD 16))::some (.d (nD t))::some (.d (.lst pl))::some (.d (nD R))::some (.d (nD C))::some (.d (nD U))::some (.d (nD J))::some (.d (eF B))::some (.d (nD Z))::r
noncomputable def JC(t:Nat)(pl:ab D)(q:Loc):Loc:=some d7::some eb::some (.ref 0)::some (.d (nD 16))::some (.d (nD t))::some (.d (.lst pl))::q
theorem OH{c:Prop}(κ:∀F' R C U J B Z,d5 ((fc.take 6).map BS.run) ⟨cF (n+4),11+X.length⟩ (uy 19 [d7,eb,.ref 0,.d (nD 16),.d (nD t),.d (.lst pl)]) (hs F T X)=some (.er,tr t pl R C U J Z B [none,none,none,none,none,none,none],hs F' T X)->Xn R C U J B Z->c):c:=by
 have q:=λ(F:ab Int){m:Nat}(h:0<m)=>w_next (n:=n+3) (wm:=11+X.length) (F:=F) (T:=T) (X:=X) h;refine ml (q F (m:=5) (by decide)) λR F1 c1 h1=>?_;refine ml (q F1 (m:=9) (by decide)) λC y c2 h2=>?_;have hA:d5 ((fc.take 2).map BS.run) ⟨cF (n+4),11+X.length⟩ (uy 19 [d7,eb,.ref 0,.d (nD 16),.d (nD t),.d (.lst pl)]) (hs F T X)=some (.er,JC t pl [some (.d (nD R)),some (.d (nD C)),none,none,none,none,none,none,none,none,none,none,none],hs y T X):=by exact wq [dR 2 c1,dR 2 c2]
 have hB:∀{c:Prop},(∀U l,d5 (((fc.drop 2).take 1).map BS.run) ⟨cF (n+4),11+X.length⟩ (JC t pl [some (.d (nD R)),some (.d (nD C)),none,none,none,none,none,none,none,none,none,none,none]) (hs y T X)=some (.er,JC t pl [some (.d (nD R)),some (.d (nD C)),some (.d (nD U)),none,none,none,none,none,none,none,none,none,none],hs l T X)->U<=2->((R=1\/R=4)->U≠0)->(¬(R=1\/R=4)->U=0)->c)->c:=by
  intro c κ;by_cases h:R=1\/R=4;.
   refine ml (q y (m:=2) (by decide)) λd l z h3=>?_;have ad:=tf (a:=d) (b:=1);refine κ (d+1) l ?_ h3 (λ_=>by lia) λf=>ax h f;rcases h with rfl|rfl;.exact wq [dR 5 z]
   .exact wq [dR 8 z]
  .refine κ 0 y ?_ (by decide) (λf=>ax f h) λ_=>rfl;have j:¬(R:Int)=1:=λe=>h (.inl (bM.mp e));have M:¬(R:Int)=4:=λe=>h (.inr (bM.mp e));exact wq [sb 1 (eA j),sb 2 (eA M)]
 refine hB λU l z Q9 QN Py=>?_;have hC:∀{c:Prop},(∀J o,d5 (((fc.drop 3).take 1).map BS.run) ⟨cF (n+4),11+X.length⟩ (JC t pl [some (.d (nD R)),some (.d (nD C)),some (.d (nD U)),none,none,none,none,none,none,none,none,none,none]) (hs l T X)=some (.er,JC t pl [some (.d (nD R)),some (.d (nD C)),some (.d (nD U)),some (.d (nD J)),none,none,none,none,none,none,none,none,none],hs o T X)->J<=3->(U=0->J=0)->c)->c:=by
  intro c κ;by_cases h:0<U;.refine ml (q l (m:=4) (by decide)) λd o I M=>?_;refine κ d o ?_ (dc M) λe=>ax h (e▸cQ _);have f:=bg.mpr h;exact wq [sb 1 (tS f),dR 3 I]
  .refine κ 0 l ?_ (by decide) λ_=>rfl;have f:¬(0:Int)<U:=λe=>h (bg.mp e);exact wq [sb 1 (tq f)]
 refine hC λJ o I P O=>?_;have hF:∀{c:Prop},(∀B i,d5 (((fc.drop 4).take 1).map BS.run) ⟨cF (n+4),11+X.length⟩ (JC t pl [some (.d (nD R)),some (.d (nD C)),some (.d (nD U)),some (.d (nD J)),none,none,none,none,none,none,none,none,none]) (hs o T X)=some (.er,JC t pl [some (.d (nD R)),some (.d (nD C)),some (.d (nD U)),some (.d (nD J)),some (.d (eF B)),none,none,none,none,none,none,none,none],hs i T X)->FK B->c)->c:=by
  intro c κ;by_cases h:U=2\/t=0;.
   refine ml (q o (m:=3000) (by decide)) λd i A h5=>?_;refine d9 (oB (m:=d) (by lia)) λkd G E=>κ kd i ?_ G;have E:=E (n+1) (11+X.length) (hs i T X);by_cases j:U=2;.subst j;exact wq [dR 5 A,dR 1 E]
   .obtain rfl:=h.resolve_left j;have N:¬(U:Int)=2:=λe=>j (bM.mp e);exact wq [sb 1 (eA N),dR 6 A,dR 1 E]
  .refine κ [] o ?_ ⟨pn,by simp,by simp⟩;have j:¬(U:Int)=2:=λe=>h (.inl (bM.mp e));have e!:¬t=0:=λe=>h (.inr e);exact wq [sb 1 (eA j),sb 2 (eA (λe=>h (.inr (bM.mp e))))]
 refine hF λB i A Q=>?_;have hM:∀{c:Prop},(∀Z s,d5 (((fc.drop 5).take 1).map BS.run) ⟨cF (n+4),11+X.length⟩ (JC t pl [some (.d (nD R)),some (.d (nD C)),some (.d (nD U)),some (.d (nD J)),some (.d (eF B)),none,none,none,none,none,none,none,none]) (hs i T X)=some (.er,JC t pl [some (.d (nD R)),some (.d (nD C)),some (.d (nD U)),some (.d (nD J)),some (.d (eF B)),some (.d (nD Z)),none,none,none,none,none,none,none],hs s T X)->Z<128->c)->c:=by
  intro c κ;by_cases h:2<R;.refine ml (q i (m:=127) (by decide)) λd s K j=>?_;have ad:=tf (a:=1) (b:=d);refine κ (1+d) s ?_ (by lia);have f:=bg.mpr h;exact wq [sb 1 (tS f),dR 4 K]
  .refine κ 1 i ?_ (by decide);exact wq [sb 1 (tq (λe=>h (bg.mp e)))]
 refine hM λZ s K hk=>?_;have h:=gK hA (gK z (gK I (gK A K)));exact κ s R C U J B Z h ⟨h1,h2,Q9,QN,Py,P,O,Q,hk⟩
end
section
variable{F:ab Int}{T T' T1 T2:ab Row}{X Y:ab Cell}{n wm t g:Nat}{H:Hp}{k:ab W}{r:Row}{L:ab Slot}{p:Piece}{ps:ab Piece}{pl:ab D}{c:Cx}{R U J:Nat}
structure WR(t:Nat)(ps:ab Piece)(R U J:Nat):Prop where
 ho:R<5
 hb:U<=2
 hc:J<=3
 c0:U=0->J=0
 o3:R=3->U=0/\11<=t/\∃L,ps=[.obj L]
 o2:R=2->∀p∈ps,∀L ro,p≠.lst L ro
 o4:R=4->U≠0
 t0:t=0->U≠0
noncomputable def isL:Piece->bp|.lst _ _=>true|_=>false
noncomputable def zw:Piece->bp|.lst L _=>decide (1<L.length)&&decide ((L.getLast?.map (·.sign)).getD 0=2)|_=>false
noncomputable def kE(f:Nat->ae V):Loc:=[f 0,f 1,f 2,f 3,f 4,f 5,f 6,f 7,f 8,f 9,f 10,f 11,f 12,f 13,f 14,f 15,f 16,f 17,f 18]
section
variable{C Z:Nat}{B:ab W}{M N:ae V}{r:Loc}{γ:Prop}
theorem ZF(m:∀p∈ps,iv p)(κ:∀d,d5 (((fc.drop 6).take 1).map BS.run) c (tr t (ps.map fH) R C U J Z B r) H=some (.er,tr t (ps.map fH) d C U J Z B r,H)->(d=R\/d=0)->(d=3->11<=t/\∃L,ps=[.obj L])->γ):γ:=by
 by_cases i:R=3;.
  subst i;rcases ps with _|⟨p,_|⟨b,l⟩⟩;.refine κ 0 ?_ (.inr rfl) Ov;exact wq []
  .have m:=m p (.head _);induction p using Piece.casesOn with
   |prim w=>refine κ 0 ?_ (.inr rfl) Ov;have q:=m.2;exact wq [sb 12 (neT q)]|lst L s=>refine κ 0 ?_ (.inr rfl) Ov;exact wq []|obj L=>
    by_cases o:t<11;.refine κ 0 ?_ (.inr rfl) Ov;have f:(t:Int)<11:=bg.mpr o;exact wq [sb 15 (tS f)]
    .refine κ 3 ?_ (.inl rfl) λ_=>⟨aam.mp o,L,rfl⟩;have f:¬(t:Int)<11:=λe=>o (bg.mp e);exact wq [sb 15 (tq f)]
  .refine κ 0 ?_ (.inr rfl) Ov;generalize(p::b::l).map fH=pl at*;exact wq [sb 5 (E8 (show¬(((p::b::l).map fH).length:Int)=1from by simp;lia))]
 .refine κ R ?_ (.inl rfl) λe=>ax e i;have j:¬(R:Int)=3:=λe=>i (bM.mp e);exact wq [sb 1 (eA j)]
noncomputable def NR:Piece->W|.prim w=>w|.obj _=>[123]|.lst _ _=>[91]
theorem Xs(h:iv p):fZ (.d (fH p)) (.int 0) H=some (.d (sD (NR p)))/\f6 .Eq (sD (NR p)) (.d (sD [91])) H=some (isL p):=by induction p using Piece.casesOn with|prim w=>exact⟨rfl,by show some (decide (S w=S [91]))=_;simp[h.1,isL,NR]⟩|obj L=>exact⟨rfl,rfl⟩|lst L b=>exact⟨rfl,rfl⟩
theorem W6(i:∀p∈ps,iv p)(l:Nat->ae V):fa (dM 19).run (.one 19) (gM ([TE (dS .Eq (dQ (dM 19) (dN (.int 0))) (dN (sD [91])))].map BT.run)) c (ps.map fH) (kE l++[none]) H=some ((ps.filter isL).map fH,H):=gA (cs:=(gi [TE (dS .Eq (dQ (dM 19) (dN (.int 0))) (dN (sD [91])))]).run) (kE l) ps isL fH (λp d=>by
 have e:=(Xs (i p d) (H:=H)).1;have f:=(Xs (i p d) (H:=H)).2;generalize isL p=b at*;generalize fH p=x at*;rcases b with⟨⟩;.exact wb [sv 1 e,sb 1 f]
 .exact wb [sv 1 e,sb 1 f]) (λp d _=>by generalize fH p=x at*;exact wd [])
theorem GZ:fZ (.d (.lst ((L++[s]).map fF))) (.int (-1)) H=some (.d (fF s)):=by
 show(itemAt ((L++[s]).map fF) (-1)).map V.d=_;have e:(((L++[s]).map fF).length:Int)=(L.length:Int)+1:=by simp
 unfold itemAt;rw[aS (by decide),aX (by rw[e];lia),e];have:((L.length:Int)+1+-1).toNat=L.length:=by lia
 rw[this];simp
theorem Vx(A:∀p∈ps,isL p=true)(l:Nat->ae V):fa (dM 19).run (.one 19) (gM ([gi [(TE (dS .Gt (gN 200 [(dQ (dM 19) (dN (.int 1)))]) (dN (.int 1)))),(TE (dS .Eq (dQ (dQ (dQ (dM 19) (dN (.int 1))) (lY 1)) (dN (.int 2))) (dN (.int 2))))]].map BT.run)) c (ps.map fH) (kE l++[none]) H=some ((ps.filter zw).map fH,H):=gA (cs:=(gi [gi [(TE (dS .Gt (gN 200 [(dQ (dM 19) (dN (.int 1)))]) (dN (.int 1)))),(TE (dS .Eq (dQ (dQ (dQ (dM 19) (dN (.int 1))) (lY 1)) (dN (.int 2))) (dN (.int 2))))]]).run) (kE l) ps zw fH (λp y=>by
 have:=A p y;clear y;induction p using Piece.casesOn with
 |prim w=>exact fE this|obj L=>exact fE this|lst L q=>
  by_cases j:1<L.length;.
   have i:(1:Int)<((L.map fF).length:Int):=by simp;lia
   refine QS (show∃f s,L=f++[s]from⟨L.dropLast,L.getLast (by intro e;subst e;simp at j),(List.dropLast_concat_getLast _).symm⟩) λf s e=>?_;subst e;have o:=GZ (L:=f) (s:=s) (H:=H);have z:zw (.lst (f++[s]) q)=decide (s.sign=2):=by unfold zw;simp at j;simp[j]
   rw[z];show(gi _).run c (kE l++[some (.d (.tup [sD [91],.lst ((f++[s]).map fF),nD q]))]) H=_;generalize(f++[s]).map fF=E at*;by_cases m:s.sign=2;.
    rw[ay m];have b:fF s=.tup [sD s.key,eF s.kind,.int 2,nD s.held]:=by rw[fF,m];rfl
    rw[b]at o;exact wb [sb 4 (tS i),sv 4 o]
   .rw[aw m];have b:fF s=.tup [sD s.key,eF s.kind,nD s.sign,nD s.held]:=rfl;rw[b]at o;exact wb [sb 4 (tS i),sv 4 o,sb 3 (eA (λe=>m (bM.mp e)))]
  .rw[(show zw (.lst L q)=false from by unfold zw;simp[j])];show(gi _).run c (kE l++[some (.d (.tup [sD [91],.lst (L.map fF),nD q]))]) H=_;generalize L.map fF=E at*;exact wb [sb 4 (tq (show¬(1:Int)<((L.map fF).length:Int)from by simp;lia))]) (λp y _=>by generalize fH p=x at*;exact wd [])
theorem Sg(hB:∀p∈ps,iv p)(E:Xn R C U J B Z)(κ:∀Ym o q M N,d5 (((fc.drop 6).take 6).map BS.run) c (tr t (ps.map fH) R C U J Z B [none,none,none,none,none,none,none]) H=some (.er,tr t (ps.map fH) Ym C o q Z B [M,N,none,none,none,none,none],H)->WR t ps Ym o q->γ):γ:=by
 refine ZF (t:=t) (R:=R) (C:=C) (U:=U) (J:=J) (Z:=Z) (B:=B) (c:=c) (H:=H) (r:=[none,none,none,none,none,none,none]) hB λm e6 F! y=>?_;have e7:d5 (((fc.drop 7).take 2).map BS.run) c (tr t (ps.map fH) m C U J Z B [none,none,none,none,none,none,none]) H=some (.er,tr t (ps.map fH) m C U J Z B [some (.d (.lst ((ps.filter isL).map fH))),some (.d (.lst (((ps.filter isL).filter zw).map fH))),none,none,none,none,none],H):=by generalize((ps.filter isL).filter zw).map fH=A at*;generalize(ps.filter isL).map fH=q1 at*;generalize ps.map fH=q0 at*;exact wq [jX 1 (W6 (c:=c) (H:=H) hB (qf (tr t (ps.map fH) m C U J Z B [none,none,none,none,none,none,none]))),jX 1 (Vx (c:=c) (H:=H) (ps:=ps.filter isL) (λp hp=>(aO.mp hp).2) (qf (tr t (ps.map fH) m C U J Z B [some (.d (.lst ((ps.filter isL).map fH))),none,none,none,none,none,none])))]
 have G:∀{γ:Prop},(∀f,d5 (((fc.drop 9).take 1).map BS.run) c (tr t (ps.map fH) m C U J Z B [some (.d (.lst ((ps.filter isL).map fH))),some (.d (.lst (((ps.filter isL).filter zw).map fH))),none,none,none,none,none]) H=some (.er,tr t (ps.map fH) f C U J Z B [some (.d (.lst ((ps.filter isL).map fH))),some (.d (.lst (((ps.filter isL).filter zw).map fH))),none,none,none,none,none],H)->(f=m\/f=0)->(f=2->ps.filter isL=[])->γ)->γ:=by
  intro γ κ;clear e7 e6 y;generalize((ps.filter isL).filter zw).map fH=A at*;by_cases h:m=2;.
   subst h;rcases P:ps.filter isL with _|⟨a,l⟩;.exact κ 2 (by rw[P];exact wq []) (.inl rfl) λ_=>P
   .refine κ 0 ?_ (.inr rfl) Ov;rw[P];have hl:(0:Int)<(((a::l).map fH).length:Int):=by rw[ak,ba];lia
    generalize(a::l).map fH=q1 at*;have ζ:=bg.mp hl;exact wq [sb 5 (tS hl)]
  .refine κ m ?_ (.inl rfl) λe=>ax e h;exact wq [sb 1 (eA (λe=>h (bM.mp e)))]
 refine G λf G Ξ z=>?_;have s:∀{γ:Prop},(∀i j,d5 (((fc.drop 10).take 1).map BS.run) c (tr t (ps.map fH) f C U J Z B [some (.d (.lst ((ps.filter isL).map fH))),some (.d (.lst (((ps.filter isL).filter zw).map fH))),none,none,none,none,none]) H=some (.er,tr t (ps.map fH) f C i j Z B [some (.d (.lst ((ps.filter isL).map fH))),some (.d (.lst (((ps.filter isL).filter zw).map fH))),none,none,none,none,none],H)->((i=U/\j=J)\/(f=1/\i=0/\j=0))->γ)->γ:=by
  intro γ κ;clear e7 e6 G z y;generalize((ps.filter isL).filter zw).map fH=A at*;by_cases I:f=1;.
   subst I;by_cases h2:U=1;.
    subst h2;by_cases h3:(0:Int)<(A.length:Int);.have h4:=bg.mp h3;refine κ 0 0 ?_ (.inr ⟨rfl,rfl,rfl⟩);exact wq [sb 8 (tS h3)]
    .have h4:¬0<A.length:=λe=>h3 (bg.mpr e);refine κ 1 J ?_ (.inl ⟨rfl,rfl⟩);exact wq [sb 8 (tq h3)]
   .refine κ U J ?_ (.inl ⟨rfl,rfl⟩);exact wq [sb 4 (eA (λe=>h2 (bM.mp e)))]
  .have Za:¬(f:Int)=1:=λe=>I (bM.mp e);refine κ U J ?_ (.inl ⟨rfl,rfl⟩);exact wq [sb 1 (eA Za)]
 refine s λi j s w!=>?_;have I!:f=R\/f=0:=by lia
 have K:f=2->∀p∈ps,∀L ro,p≠.lst L ro:=λe p hp L ro P=>by subst P;have:Piece.lst L ro∈ps.filter isL:=aO.mpr ⟨hp,rfl⟩;rw[z e]at this;exact kn this
 have fin:=λr h=>gK (r:=r) e6 (gK e7 (gK G (gK (b:=(fc.drop 11).take 1) s h)));clear e6 e7 G s z hB;have a1:=E.ho;have a2:=E.hb;have a3:=E.hc;have a4:=E.c0;have Q:=E.b0;have O:=E.b1;generalize((ps.filter isL).filter zw).map fH=A at*;generalize(ps.filter isL).map fH=q1 at*;by_cases h:t=0/\i=0;.obtain⟨rfl,rfl⟩:=h;exact κ f 2 j (some (.d (.lst q1))) (some (.d (.lst A))) (fin _ (wq [])) ⟨by lia,aV _,by lia,by lia,λe=>by have:=y (by lia);lia,K,by lia,by lia⟩
 .refine κ f i j (some (.d (.lst q1))) (some (.d (.lst A))) (fin _ ?_) ⟨by lia,by lia,by lia,by lia,λe=>?_,K,by lia,by lia⟩;.
   by_cases I:t=0;.subst I;generalize ps.map fH=q0 at*;exact wq [sb 4 (eA (λe=>h ⟨rfl,bM.mp e⟩))]
   .generalize ps.map fH=q0 at*;exact wq [sb 1 (eA (λe=>I (bM.mp e)))]
  .have h:=y (by lia);exact⟨by lia,h.1,h.2⟩
end
end
section
variable{F:ab Int}{T T' T1 T2:ab Row}{X Y:ab Cell}{n wm t g:Nat}{H:Hp}{k:ab W}{r:Row}{L:ab Slot}{p:Piece}{ps:ab Piece}{pl:ab D}{c:Cx}{G:ab MS}{R U J C Z:Nat}{B:ab W}
theorem Nq{i:Nat}(b:i<7):fv .Pow (.int 2) (.int (i:Int))=some (nD (2^i)):=by
 have:i=0\/i=1\/i=2\/i=3\/i=4\/i=5\/i=6:=by lia
 clear b;rcases this with rfl|rfl|rfl|rfl|rfl|rfl|rfl<;>rfl
noncomputable abbrev JO:BT:=gi [(TE (dS .Eq (el .Mod (el .FloorDiv (dM 11) (el .Pow (dN (.int 2)) (dM 19))) (dN (.int 2))) (dN (.int 1))))]
theorem Rk(b:i<7)(q:Z<128)(l:f 11=some (.d (nD Z))):JO.run c (kE f++[some (.d (nD i))]) H=some (decide (Z/2^i%2=1),H):=by
 have m:=Nq b;have j:2^i<128/\0<2^i:=by
  have:i=0\/i=1\/i=2\/i=3\/i=4\/i=5\/i=6:=by lia
  clear b;rcases this with rfl|rfl|rfl|rfl|rfl|rfl|rfl<;>decide
 have o:=ik (a:=Z) j.2 (by lia) (by lia);have e:fv .Mod (.int ((Z/2^i:Nat):Int)) (.int 2)=some (nD (Z/2^i%2)):=uQ;rw[show kE f=[f 0,f 1,f 2,f 3,f 4,f 5,f 6,f 7,f 8,f 9,f 10,some (.d (nD Z)),f 12,f 13,f 14,f 15,f 16,f 17,f 18]from by unfold kE;rw[l]];rcases cT (Z/2^i)with h|h<;>rw[h]at e⊢<;>clear h<;>generalize Z/2^i=y at*<;>generalize 2^i=x at*<;>exact wb [sd 3 m,sd 1 o,sd 2 e]
noncomputable def kq(Z:Nat)(wd:Nat->W)(m:Nat):ab W:=((bx m).filter λi=>decide (Z/2^i%2=1)).map wd
theorem qe{wd:Nat->W}:(kq Z wd m).length<=m:=by unfold kq;rw[ak];exact ar (aY _ _) (by simp)
theorem uE{wd:Nat->W}(h:w∈kq Z wd m):∃i,i<m/\w=wd i:=by refine d9 (af.mp h) λi b d=>?_;refine sZ d ?_;exact i12 i (acb.mp (aO.mp b).1) rfl
theorem Ms{b:ab W}(h:∀w∈b,mF w)(j:b.length<=7):∀n wm H,cF (n+1) wm 943 [.d (.lst (b.map λw=>D.lst [sD w]))] H=some (.d (eF (ei (b.map λw=>[w]))),H):=by
 intro n wm H;have e:(b.map λw=>D.lst [sD w])=(b.map λw=>[w]).map eF:=by rw[aK];rfl
 rw[e];refine vR ?_ ?_;.
  have:(b.map λw=>[w]).flatten=b:=by clear j e h;induction b with|nil=>rfl|cons a l ih=>simp[ih]
  rw[this];lia
 .intro k i w f;obtain⟨v,m,rfl⟩:=af.mp i;replace f:=kB f;rw[f];exact h v m
theorem nh{e:ab W}(d:v∈ei (e.map λw=>[w])):v∈e:=by rw[eM]at d;refine d9 (d.1) λl f b=>?_;refine d9 (af.mp f) λw i j=>?_;subst j;replace b:=kB b;rw[b];exact i
theorem uc{b:ab W}(d:b.length<=7):(ei (b.map λw=>[w])).length<=7:=ar (len_sub (SS.nd gZ) λv=>nh) d
structure KG(ps:ab Piece)(R:Nat)(keys:ab W)(aaY:ab Piece):Prop where
 g2:R<3->aaY=ps
 g3:R=3->∃L,ps=[.obj L]/\aaY=[.obj (L.filter λs=>decide (s.key∈keys))]/\∀w∈keys,∃s∈L,s.key=w
 g4:R=4->aaY=[.obj (keys.map f7)]/\∀w∈keys,w∈pd
 n:wu keys
 lw:∀w∈keys,LW w
 l:keys.length<=7
 b:∀p∈aaY,iv p
 gl:aaY.length<=4
theorem Eh:∀w∈pd,LW w:=by
 intro w h;simp only[pd,ah,ai,a6]at h;rcases h with rfl|rfl|rfl|rfl|rfl|rfl|rfl;.exact .inr (.inl ⟨112,by decide,rfl⟩)
 .exact .inr (.inr ⟨0,by decide,rfl⟩)
 .exact .inl (by decide)
 .exact .inr (.inl ⟨122,by decide,rfl⟩)
 .exact .inl (by decide)
 .exact .inr (.inl ⟨113,by decide,rfl⟩)
 .exact .inr (.inr ⟨1,by decide,rfl⟩)
end
section
variable{F:ab Int}{T T' T1 T2:ab Row}{X Y:ab Cell}{n wm t g:Nat}{H:Hp}{k:ab W}{r:Row}{L:ab Slot}{p:Piece}{ps:ab Piece}{pl:ab D}{c:Cx}{G:ab MS}{R U J C Z:Nat}{B:ab W}
theorem uK{wd:Nat->W}(o:Z<128)(q:m<=7)(l:f 11=some (.d (nD Z)))(j:∀i,i<m->eD (fq [E]).run c (kE f++[some (.d (nD i))]) H=some (.lst [sD (wd i)],H)):fa (fq [E]).run (.one 19) JO.run c ((bx m).map nD) (kE f++[none]) H=some ((kq Z wd m).map λw=>.lst [sD w],H):=by
 have e:(kq Z wd m).map (λw=>D.lst [sD w])=((bx m).filter λi=>decide (Z/2^i%2=1)).map λi=>.lst [sD (wd i)]:=by unfold kq;rw[aK];rfl
 refine sY e ?_;exact gA (e:=nD) (kE f) (bx m) (λi=>decide (Z/2^i%2=1)) (λi=>.lst [sD (wd i)]) (λi b=>Rk (by have:=acb.mp b;lia) o l) (λi b _=>j i (acb.mp b))
theorem Ou{i:Nat}(h:i<7):fZ (.d lb) (.int (i:Int)) H=some (.d (sD (pd.getD i []))):=by
 have:i=0\/i=1\/i=2\/i=3\/i=4\/i=5\/i=6:=by lia
 clear h;rcases this with rfl|rfl|rfl|rfl|rfl|rfl|rfl<;>rfl
theorem Fc{Q:ab W}:fa (d8 [(dM 19),(fq []),(kA (TE (dS .In (dM 19) (d8 [(dN (.str (S d0))),(dN (.str (S dZ)))]))) (dN (.int 2)) (dN (.int 0))),(dN (.int 0))]).run (.one 19) (gM []) c (Q.map sD) (kE f++[none]) H=some ((Q.map f7).map fF,H):=by
 refine sY aK ?_;exact fV (kE f) Q (λw=>fF (f7 w)) (λw _=>by
  have hs:=has_str (w:=w) (k:=[d0,dZ]);by_cases h:w=d0\/w=dZ;.
   have e:fF (f7 w)=.tup [sD w,.lst [],.int 2,.int 0]:=by unfold f7;rw[aS h];rfl
   rw[ay (JQ.mpr h)]at hs;rw[e];exact wd [sb 5 hs]
  .have e:fF (f7 w)=.tup [sD w,.lst [],.int 0,.int 0]:=by unfold f7;rw[aX h];rfl
   rw[aw λq=>h (JQ.mp q)]at hs;rw[e];exact wd [sb 5 hs])
theorem Hn(e:f 16=some (.d (eF Q))):fa (dM 19).run (.one 19) (gi [(TE (dS .In (dQ (dM 19) (dN (.int 0))) (dM 16)))]).run c (L.map fF) (kE f++[none]) H=some ((L.filter λs=>decide (s.key∈Q)).map fF,H):=gA (kE f) L (λs=>decide (s.key∈Q)) fF (λs _=>by
 have hs:=has_str (w:=s.key) (k:=Q);rw[show kE f=[f 0,f 1,f 2,f 3,f 4,f 5,f 6,f 7,f 8,f 9,f 10,f 11,f 12,f 13,f 14,f 15,some (.d (eF Q)),f 17,f 18]from by unfold kE;rw[e]];generalize decide (s.key∈Q)=b at*;generalize eF Q=I at*;rcases b with⟨⟩;.exact wb [sb 3 hs]
 .exact wb [sb 3 hs]) (λs _ _=>rfl)
theorem SF(j:Z<128)(b:f 11=some (.d (nD Z))):fa (fq [dQ (dN lb) (dM 19)]).run (.one 19) JO.run c ((bx 7).map nD) (kE f++[none]) H=some ((kq Z (λi=>pd.getD i []) 7).map λw=>.lst [sD w],H):=uK j (by decide) b (λi e=>by have h:=Ou (H:=H) e;exact wd [sv 1 h])
noncomputable def M4(L:ab Slot)(i:Nat):W:=((L[i]?).map (·.key)).getD []
theorem To(z:Z<128)(m:L.length<=7)(o:f 11=some (.d (nD Z)))(y:f 17=some (.d (.lst (L.map fF)))):fa (fq [dQ (dQ (dM 17) (dM 19)) (dN (.int 0))]).run (.one 19) JO.run c ((bx L.length).map nD) (kE f++[none]) H=some ((kq Z (M4 L) L.length).map λw=>.lst [sD w],H):=uK z m o (λi b=>by
 have j:fZ (.d (.lst (L.map fF))) (nD i) H=some (.d (fF L[i])):=by
  have e:(L.map fF)[i]?=some (fF L[i]):=by rw[bV,au b];rfl
  simp[e]
 have l:M4 L i=L[i].key:=by unfold M4;rw[au b];rfl
 rw[show kE f=[f 0,f 1,f 2,f 3,f 4,f 5,f 6,f 7,f 8,f 9,f 10,f 11,f 12,f 13,f 14,f 15,f 16,some (.d (.lst (L.map fF))),f 18]from by unfold kE;rw[y]];refine sY l ?_;generalize L[i]=s at*;generalize L.map fF=q at*;exact wd [sv 1 j])
theorem OL(A:WR t ps R U J)(hm:Z<128)(hB:∀p∈ps,iv p)(hl:ps.length<=4)(h3:R=3->∀L,ps=[.obj L]->L.length<=7/\∀s∈L,LW s.key):∃Q aaY h,d5 (((fc.drop 12).take 5).map BS.run) ⟨cF (n+1),wm⟩ (tr t (ps.map fH) R C U J Z B [M,N,none,none,none,none,none]) H=some (.er,tr t (ps.map fH) R C U J Z B [M,N,some (.d (jD U J B)),some (.d (.lst (aaY.map fH))),some (.d (eF Q)),h,none],H)/\KG ps R Q aaY:=by
 refine(let γ:Prop:=_;(?_:γ));by_cases h4:R=4;.
  subst h4;have j:∀w∈kq Z (λi=>pd.getD i []) 7,w∈pd:=λw b=>d9 (uE b) λi y e=>e▸(show∀i,i<7->pd.getD i []∈pd by decide) i y;have O:=Ms (λw b=>(Eh w (j w b)).mF) qe n wm H;have cb:=SF (c:=⟨cF (n+1),wm⟩) (H:=H) (f:=qf (tr t (ps.map fH) 4 C U J Z B [M,N,some (.d (jD U J B)),some (.d (.lst (ps.map fH))),some (.d (.lst [])),none,none])) hm rfl;refine(λ(jl:(kq Z (λi=>pd.getD i []) 7).length<=7)=>?_) qe;generalize kq Z (λi=>pd.getD i []) 7=l at*;have kc:=Fc (Q:=ei (l.map λw=>[w])) (c:=⟨cF (n+1),wm⟩) (H:=H) (f:=qf (tr t (ps.map fH) 4 C U J Z B [M,N,some (.d (jD U J B)),some (.d (.lst (ps.map fH))),some (.d (eF (ei (l.map λw=>[w])))),none,none]));have P:∀w∈ei (l.map λw=>[w]),w∈pd:=λw b=>j w (nh b);refine MN (ei (l.map λw=>[w])) [.obj ((ei (l.map λw=>[w])).map f7)] none ⟨?_,⟨λe=>ax e (by decide),λe=>ax e (by decide),λ_=>⟨rfl,P⟩,je,λw b=>Eh w (P w b),uc jl,?_,by simp⟩⟩;.exact wq [jX 7 (iz (n:=7) (by decide) H),jX 0 cb,dR 1 O,jX 2 kc]
  .intro p K;obtain rfl:=kB K;exact Ks (SS.nd gZ) P
 .have E:¬(R:Int)=4:=by lia
  by_cases e3:R=3;.
   subst e3;obtain⟨_,_,L,rfl⟩:=A.o3 rfl;obtain⟨q,I⟩:=h3 rfl L rfl;have j:∀w∈kq Z (M4 L) L.length,∃s∈L,s.key=w:=λw b=>d9 (uE b) λi y e=>i12 (L[i]) (aai y) (by rw[e,M4,au y];rfl);have o:∀w∈kq Z (M4 L) L.length,LW w:=λw b=>d9 (j w b) λs hs e=>e▸I s hs;have a:(kq Z (M4 L) L.length).length<=7:=ar qe q;have O:=Ms (λw b=>(o w b).mF) a n wm H;have cb:=To (c:=⟨cF (n+1),wm⟩) (H:=H) (f:=qf (tr t ([.obj L].map fH) 3 C U J Z B [M,N,some (.d (jD U J B)),some (.d (.lst ([Piece.obj L].map fH))),some (.d (.lst [])),some (.d (.lst (L.map fF))),none])) hm q rfl rfl;generalize kq Z (M4 L) L.length=l at*;have kc:=Hn (L:=L) (c:=⟨cF (n+1),wm⟩) (H:=H) (f:=qf (tr t ([.obj L].map fH) 3 C U J Z B [M,N,some (.d (jD U J B)),some (.d (.lst ([Piece.obj L].map fH))),some (.d (eF (ei (l.map λw=>[w])))),some (.d (.lst (L.map fF))),none])) rfl;refine MN (ei (l.map λw=>[w])) [.obj (L.filter λs=>decide (s.key∈ei (l.map λw=>[w])))] (some (.d (.lst (L.map fF)))) ⟨?_,⟨λe=>ax e (by decide),λ_=>⟨L,rfl,rfl,λw b=>j w (nh b)⟩,λe=>ax e (by decide),je,λw b=>o w (nh b),uc a,?_,by assumption⟩⟩;.exact wq [sd 13 (show iu 200 [V.d (D.lst (aaa fF L))] H=some (D.int ↑L.length)from ag (λm:Nat=>some (D.int m)) (ak _)),jX 1 (iz (aj q (by decide)) H),jX 0 cb,dR 1 O,jX 2 kc]
   .intro p K;obtain rfl:=kB K;exact Iq (hB _ (bt.mpr rfl))
  .have z:¬(R:Int)=3:=by lia
   refine Y9 [] ps none ?_ ⟨λ_=>rfl,λe=>ax e e3,λe=>ax e h4,pn,by simp,by simp,hB,hl⟩;exact wq [sb 4 (eA E),sb 2 (eA z)]
end
section
variable{F:ab Int}{T T' T1 T2:ab Row}{X Y:ab Cell}{n wm t g:Nat}{H:Hp}{k:ab W}{r:Row}{L:ab Slot}{p:Piece}{ps aaY:ab Piece}{R U J C Z kt x:Nat}{B Q:ab W}
theorem mw.lw{ps:ab mg}(o:mw T ps E ni A d e):∀s∈(ps.filter j7).map A++d++e,LW s.key:=λs hs=>o.ind hs (M:=λs=>LW s.key) (λz _ _ P=>by refine(dC.mp P.l1).elim λa b=>?_;exact .inr (.inl ⟨a,P.c a (eL b (.head _)),by rw[P.key,b];rfl⟩)) λq s h _=>by rcases h with h|h<;>rw[h.2]<;>exact .inl (by decide)
theorem Lq:cF (n+1) wm 800 [a,b,c,d] H=cF (n+1) e 800 [a,b,c,d] H:=by rw[gX n wm,gX n e,ip rfl,ip rfl]
theorem Jl:cF (n+1) wm 847 [a,b,c] H=cF (n+1) d 847 [a,b,c] H:=by rw[lQ n wm,lQ n d,ip rfl,ip rfl]
theorem Hw:cF (n+1) wm 814 [a,b] H=cF (n+1) c 814 [a,b] H:=by rw[m8 n wm,m8 n c,ip rfl,ip rfl]
theorem Nv(K:ShQ ek T t k)(G:Good g T):∃r,T[t]?=some r/\kc r≠7/\kc r≠14:=by
 have d:=K.lt;have b:=au d;refine i12 _ b ?_;generalize T[t]=r at*;by_cases i:t=2;.subst i;rw[G.at rfl]at b;refine so b ?_;decide
 by_cases f:∃c,r=.jV c;.obtain⟨c,rfl⟩:=f;simp[kc]
 refine iE (K.to t (by rw[(eO b i λc e=>f ⟨c,e⟩)];simp)) λm w j l _=>?_;rw[b]at j;obtain rfl:=sI j;clear b f;rcases r with⟨⟩<;>first|exact l.elim|simp[kc]
theorem PX(G:Good (g+170) T)(I:mG T t ps)(A:WR t ps R U J)(K:KG ps R Q aaY)(S:jR T x U J B t)(z:M6 T R kt t Q):∃t' T',cF (n+15) wm 854 [eb,.d (eJ kt (if R=2then 16 else-1) x m ro)] (hs F T X)=some (.d (nD t'),hs F T' X)/\Good g T'/\T<+:T'/\qS T' t' (aaY.map (eB U J B m ro)):=by
 have ho:=A.ho;by_cases h3:R<3;.
  refine(let γ:Prop:=_;(?_:γ));have f:(if R=2then(16:Int)else-1)=-1\/(if R=2then(16:Int)else-1)=16:=by split<;>simp
  have e:∃t' T',cF (n+14) wm 800 [eb,.d (eJ kt (if R=2then 16 else-1) x m ro),.d (nD t),.d (nD t)] (hs F T X)=some (.d (nD t'),hs F T' X)/\Good g T'/\T<+:T'/\qS T' t' (aaY.map (eB U J B m ro)):=by
   refine sY (K.g2 h3) ?_;rcases I with⟨rfl,rfl⟩|⟨h,rfl⟩|⟨I,_⟩;.have i:=A.t0 rfl;exact yQ (G.le (by lia)) i (S.tm.resolve_left i) f
   .exact zg (G.le ((aG _ _))) h
   .refine Qo (G.le (by lia)) I S ?_;by_cases j:R=2;.right;rw[aS j];exact⟨rfl,A.o2 j⟩
    .left;rw[aX j]
  refine jr (e) λt' T' c a b d=>?_;exact jQ t' T' ⟨Lo (z.1 h3) λo=>(sZ c Lq),a,b,d⟩
 .have j:¬R=2:=by lia
  refine sY (aX j) ?_;refine(let γ:Prop:=_;(?_:γ));by_cases N:R=3;.
   refine jr (z.2.1 N) λa b y k2 k3 k4=>?_;refine j6 (K.g3 N) λL hp hg l=>?_;refine ph (A.o3 N) λb0 ht _=>?_;have I:NInv T t ps:=by
    rcases I with⟨rfl,_⟩|⟨h,_⟩|⟨I,_⟩;.trivial
    .lia
    .exact I
   subst hp hg b0;obtain⟨q,s,r,hr,_,_,_,_,_,_,O⟩:=I.mB (.obj L) (by simp);rw[(I.one _ rfl)]at s;replace s:=kB s;obtain rfl:=s.symm;refine jr (Kg (F:=F) (X:=X) (n:=n) (wm:=wm) (Q:=kt) (m:=m) (ro:=ro) (g:=g) (G.le (by lia)) hr O S k3 (by lia) l) λt' T' c E M d=>?_;exact jQ t' T' ⟨Kn y k2 λo=>(sZ c Jl),E,M,d⟩
  .have P:R=4:=by lia
   obtain⟨hg,hw⟩:=K.g4 P;have i:=A.o4 P;obtain⟨y,k2⟩:=z.2.2 P;obtain⟨r,hr,r7,Z9⟩:=Nv y G;subst hg;refine jr (Kr (F:=F) (X:=X) (n:=n) (wm:=wm) (m:=m) (ro:=ro) (g:=g) (G.le (by lia)) i (S.tm.resolve_left i) ⟨y,hw,k2⟩ (.inl rfl)) λt' T' c E M d=>?_;exact jQ t' T' ⟨Jd hr r7 Z9 λo=>(sZ c Hw),E,M,d⟩
end
section
variable{F:ab Int}{T T' T1 T2:ab Row}{X Y:ab Cell}{n wm t g:Nat}{H:Hp}{k:ab W}{r:Row}{L:ab Slot}{p:Piece}{ps aaY:ab Piece}{R U J C Z kt x:Nat}{B Q:ab W}
theorem qS.s(I:qS T t ps):mG T t ps:=.inr (.inr ⟨I.toNInv,I.ne⟩)
theorem mG.pre(h:T<+:T')(I:mG T t ps):mG T' t ps:=by
 rcases I with b|b|⟨I,n⟩;.exact .inl b
 .exact .inr (.inl b)
 .exact .inr (.inr ⟨I.pre h,n⟩)
theorem mG.one(I:mG T t ps)(d:11<=t)(b:ps=[.obj L]):L.length<=7/\∀s∈L,LW s.key:=by
 refine(let c:Prop:=_;(?_:c));subst b;rcases I with⟨rfl,_⟩|⟨h,_⟩|⟨I,_⟩;.trivial
 .lia
 .obtain⟨q,_,r,_,_,_,_,_,_,_,O⟩:=I.mB (.obj L) (by simp);exact⟨O.len,λs hs=>O.o.lw s ((O.mem s).mp hs)⟩
theorem PI(G:Good (g+190) T)(I:mG T t ps):∃h t' j T',cF (n+16) wm 1055 [d7,eb,.ref 0,.d (nD 16),.d (nD t),.d (.lst (ps.map fH))] (hs F T X)=some (.d (.tup [nD t',.lst (j.map fH)]),hs h T' X)/\Good g T'/\T<+:T'/\qS T' t' j/\∀p∈j,iv p:=by
 refine hd λγ κ=>?_;refine OH (n:=n+11) (F:=F) (T:=T) (X:=X) (t:=t) (pl:=ps.map fH) λf A! C s y B Z e1 q=>?_;refine Sg (t:=t) (c:=⟨cF (n+15),11+X.length⟩) (H:=hs f T X) I.b q λR U J M N e2 A=>?_;refine Tb (OL (n:=n+14) (wm:=11+X.length) (H:=hs f T X) (C:=C) (B:=B) (M:=M) (N:=N) A q.hk I.b I.len (λe L hL=>I.one (A.o3 e).2.1 hL)) λQ aaY i e3 K=>?_;refine UE (Tz (F:=f) (X:=X) (n:=n+10) (wm:=11+X.length) (over:=t) (R:=R) G A.hb A.hc A.c0 q.fk (by have:=A.ho;lia) q.hm K.n K.lw K.l) λkt x T1 e4 a E S KT=>?_;refine jr (PX (F:=f) (X:=X) (n:=n) (wm:=11+X.length) (m:=C%3) (ro:=C/3) a (I.pre E) A K S KT) λt' T2 e5 G2 p2 O=>?_;refine κ ⟨f,t',aaY.map (eB U J B (C%3) (C/3)),T2,?_,G2,E.trans p2,O,O.toNInv.b⟩;have z:=fV (elt:=(dO 1043 [dM 19,dM 14,dM 7]).run) (c:=⟨cF (n+15),11+X.length⟩) (e:=fH) (H:=hs f T2 X) (tr t (ps.map fH) R C U J Z B [M,N,some (.d (jD U J B)),some (.d (.lst (aaY.map fH))),some (.d (eF Q)),i,some (.d (nD t'))]) aaY (λp=>fH (eB U J B (C%3) (C/3) p)) (λp hp=>by generalize fH (eB U J B (C%3) (C/3) p)=P at*;generalize fH p=q2 at*;exact wd [dR 3 (Rq (n:=n+12) (wm:=11+X.length) (H:=hs f T2 X) A.hb A.hc q.fk.fb q.hm (K.b p hp))]) (o:=none);rw[show aaY.map (λp=>fH (eB U J B (C%3) (C/3) p))=(aaY.map (eB U J B (C%3) (C/3))).map fH from by rw[aK];rfl]at z;generalize(aaY.map (eB U J B (C%3) (C/3))).map fH=P at*;have hR:d5 ((fc.drop 17).map BS.run) ⟨cF (n+15),11+X.length⟩ (tr t (ps.map fH) R C U J Z B [M,N,some (.d (jD U J B)),some (.d (.lst (aaY.map fH))),some (.d (eF Q)),i,none]) (hs f T X)=some (.ret (.d (.tup [nD t',.lst P])),tr t (ps.map fH) R C U J Z B [M,N,some (.d (jD U J B)),some (.d (.lst (aaY.map fH))),some (.d (eF Q)),i,some (.d (nD t'))],hs f T2 X):=by generalize aaY.map fH=q2 at*;generalize ps.map fH=q3 at*;generalize eJ kt (if R=2then 16 else-1) x (C%3) (C/3)=q5 at*;exact wq [dR 8 e4,dR 1 e5,jX 2 z]
 rw[zZ,ip rfl,dT];exact(ag (ck · (fin (11+X.length))) (gK e1 (gK e2 (gK e3 hR)))).trans (dU ..)
end
section
variable{F:ab Int}{T T' T1 T2:ab Row}{X Y:ab Cell}{n wm t g:Nat}{H:Hp}{k:ab W}{r:Row}{L:ab Slot}{p:Piece}{ps:ab Piece}
theorem zt(P:eE T r p):cF (n+2) wm 1012 [.d (fH p)] H=some (.d (sD (eV p)),H):=by
 have B:=Bi P;induction p using Piece.casesOn with
 |prim w=>exact Jx B.1 B.2|obj L=>refine(let G:Prop:=_;(?_:G));obtain⟨_,_,_,_,_,_,O⟩:=P;exact BF (λs hs=>O.o.z s ((O.mem s).mp hs)) (by have:=O.len;lia)|lst L Q=>
  obtain⟨l,P⟩:=P;induction P with
  |arr e s C q m y f K=>subst q;have z:=(show Seen T e false s.kind from⟨_,K,rfl⟩).z;refine nA (λR b=>?_) (by simp) l;replace b:=kB b;refine sY b ?_;exact⟨z.1,z.2.1,by rw[f];decide,(b4 ‹_›),by lia⟩|tup j C M I N J E=>
   refine nA (λs hs=>?_) (by lia) l;obtain⟨i,A,e⟩:=aaR.mp hs;have c:i<j.length:=by lia
   exact(E i j[i] s (au c) (by rw[au A,e])).z (M.le _ (aai c))
theorem C5(P:eE T r p):mF (eV p):=by induction p using Piece.casesOn with|prim w=>exact n9.ok P.1|obj L=>exact(iq (g0 (by simp))).1|lst L b=>exact(iq (g0 (by simp))).1
theorem Ny:D.eqv (eF k) (eF k)=some true:=by
 have h:∀k:ab W,eqvAll (D.k8 59) (k.map sD) (k.map sD)=some true:=by intro k;induction k with|nil=>rfl|cons a l ih=>rw[aH,eqvAll,ih,show D.k8 59 (sD a) (sD a)=some true from ag some (dz (S a))];rfl
 show(if(k.map sD).length=(k.map sD).length then eqvAll (D.k8 59) (k.map sD) (k.map sD)else some false)=_;rw[aS rfl];exact h k
noncomputable def Qv(a0 Q:ae V)(t:Nat)(q:D)(Z:ae V):Loc:=[a0,some (.ref 0),some d7,some eb,some (.d (nD 16)),Q,some (.d (nD t)),some (.d q),Z]
theorem JH(I:NInv T t ps):fa (fq [(dO 1012 [(dM 9)])]).run (.one 9) (gM []) ⟨cF (n+3),wm⟩ (ps.map fH) (Qv a0 Q u (.lst (ps.map fH)) Z++[none]) H=some ((ps.map λp=>[eV p]).map eF,H):=by rw[aK];refine fV (Qv a0 Q u (.lst (ps.map fH)) Z) ps (λp=>eF [eV p]) (λp b=>?_);refine d9 (I.mB p b) λ_ _ h=>d9 h λr _ P=>?_;have j:=zt (n:=n+1) (wm:=wm) (H:=H) P;exact wd [dR 1 j]
theorem LJ(I:NInv T t ps):cF (n+3) wm 943 [.d (.lst ((ps.map λp=>[eV p]).map eF))] H=some (.d (eF (ei (ps.map λp=>[eV p]))),H):=by
 refine vR ?_ λk c w b=>?_;.
  have:(ps.map λp=>[eV p]).flatten=ps.map eV:=by clear I;induction ps with|nil=>rfl|cons a l ih=>rw[aH,abh,ih];rfl
  rw[this,ak];exact aj I.l2 (by decide)
 .refine d9 (af.mp c) λp f e=>?_;rw[←e]at b;rw[kB b];exact d9 (I.mB p f) λ_ _ h=>d9 h λr _ P=>C5 P
theorem JT(G:Good (g+190) T)(I:mG T t ps)(m:n=43):∃d t' b T',d5 (u0.map BS.run) ⟨cF (n+16),wm⟩ (Qv a0 Q t (.lst (ps.map fH)) Z) (hs F T [])=some (.er,Qv a0 Q t' (.lst (b.map fH)) Z,hs d T' [])/\Good g T'/\mG T' t' b:=by refine XB (PI (F:=F) (X:=[]) (n:=n) (wm:=wm) G I) λd t' b T' c e o O _=>?_;have sh:=SP e O.sh (aj O.l1 (by decide)) (n+8) wm d [];have i:=JH (n:=n+13) (wm:=wm) (H:=hs d T' []) (a0:=a0) (Q:=Q) (Z:=Z) (u:=t') O.toNInv;have j:=LJ (n:=n+13) (wm:=wm) (H:=hs d T' []) O.toNInv;refine Zv d t' b T' ?_ e O.s;have f:=Ny (k:=ei (b.map λp=>[eV p]));have l:=ag (cx (!·)) f;generalize ei (b.map λp=>[eV p])=q at*;generalize(b.map λp=>[eV p]).map eF=A at*;generalize b.map fH=y at*;generalize ps.map fH=z at*;exact wq [dR 6 c,dR 2 sh,jX 2 i,dR 1 j,sb 0 l]
end
noncomputable def T0:ab Row:=[.key fW,.key ea,.key fG,.key [118,111,105,100],.key d6,.key gx,.key d0,.key dZ,.bool 0 0,.bool 1 0,.key [111,98,106,101,99,116],.obj [] none none,.jV [8,9],.key [101,114,114,111,114],.bool 0 1,.bool 1 1,.param 0]
theorem Jm:Good 100000 T0:=⟨aq _,by decide,by decide⟩
theorem N4(C O:ab Int):d5 (((qA.drop 1).take 3).map BS.run) ⟨nQ 59,0⟩ [some (.d (.lst (C.map .int))),some (.ref 0),none,none,none,none,none,none,none] [.lst (O.map .int) .sh]=some (.er,[some (.d (.lst (C.map .int))),some (.ref 0),some d7,some eb,some (.d (nD 16)),none,none,none,none],hs O T0 []):=by kernel_rfl
theorem Ph(C:ab Int):d5 ((qA.take 1).map BS.run) ⟨cF 59,0⟩ [some (.d (.lst (C.map .int))),none,none,none,none,none,none,none,none] []=some (.er,[some (.d (.lst (C.map .int))),some (.ref 0),none,none,none,none,none,none,none],[.lst ((C.take 40).map .int) .sh]):=by have b:=fV (elt:=(dM 9).run) (c:=⟨cF 59,0⟩) (H:=[]) [some (.d (.lst (C.map .int))),none,none,none,none,none,none,none,none] (C.take 40) D.int (λx _=>rfl) (o:=none);rw[show(C.take 40).map D.int=(C.map D.int).take 40from List.map_take]at b⊢;exact wq [jX 2 b]
theorem L9{C Q:ae V}:∀(k j:Nat){F:ab Int}{T:ab Row}{t:Nat}{ps:ab Piece}{Z:ae V},Good (190*k) T->mG T t ps->∀{c:Prop},(∀f T' t'(b:ab Piece)i,g' (.one 8) (d5 (u0.map BS.run)) ⟨cF 59,0⟩ ((aaB j k).map nD) (Qv C Q t (.lst (ps.map fH)) Z) (hs F T [])=some (.er,Qv C Q t' (.lst (b.map fH)) i,hs f T' [])->c)->c:=by intro k;induction k with|zero=>intro j F T t ps Z _ _ c l;exact l F T t ps Z rfl|succ k ih=>intro j F T t ps Z G I c l;refine ZZ (JT (n:=43) (wm:=0) (F:=F) (a0:=C) (Q:=Q) (Z:=some (.d (nD j))) (g:=190*k) G I rfl) λm s q r e o p=>?_;refine ih (j+1) (F:=m) (Z:=some (.d (nD j))) o p λf T' t' b i h=>?_;exact l f T' t' b i (gT rfl (.inl rfl) e h)
theorem Lp:∀O:ab Int,O.length<=63->∃s,nQ 60 0 1060 [.d (.lst (O.map .int))] []=some (.d (.bool true),s):=by intro C _;refine sZ Iw ?_;have i:=N4 C (C.take 40);rw[←Iw]at i;refine ml (w_next (n:=58) (wm:=0) (F:=C.take 40) (T:=T0) (X:=[]) (m:=4) (by decide)) λd q B A=>?_;have z:fv .Add (.int 1) (nD d)=some (nD (1+d)):=tf;refine V3 (HI (F:=q) (X:=[]) (n:=52) (wm:=0) (g:=190*4) (Jm.le (by decide))) λj t I l E r _ y=>?_;have c:1+d<=4:=aap 1 d▸A;generalize 1+d=e at*;refine L9 (C:=some (.d (.lst (C.map .int)))) (Q:=some (.d (nD e))) (F:=j) (Z:=none) e 0 (r.le (acg 190 c)) y λK L P k N H=>?_;have f:=Ph C;have o:=iz (aj c (by decide)) (hs j l []);rw[aad]at o;generalize D.lst (I.map fH)=J at*;generalize D.lst (k.map fH)=M at*;generalize D.lst (C.map D.int)=p at*;refine⟨[],(R4 59 _ _ _).trans (mf (a:=qA.take 1) (b:=qA.drop 1) rfl rfl f (tH (b:=qA.drop 4) i ?_))⟩;have G:d5 (((qA.drop 4).take 2).map BS.run) ⟨cF 59,0⟩ [some (.d p),some (.ref 0),some d7,some eb,some (.d (nD 16)),none,none,none,none] (hs (C.take 40) T0 [])=some (.er,Qv (some (.d p)) (some (.d (nD e))) t J none,hs j l []):=wq [dR 3 B,sd 1 z,dR 2 E];refine tH (b:=qA.drop 6) G ?_;exact wf [jX 1 o,mb 0 H]
end Mine
end
noncomputable section
namespace Mine
theorem Kl:yM:=DC Lp
end Mine
end
theorem PySem.Challenge.cw_rh0137_01_holds : PySem.Challenge.rw_rh0137_01.Holds :=
 PySem.W.holds_law Mine.TY λb=>Mine.head b Mine.Kl
