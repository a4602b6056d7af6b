import PyProof.Rows.All
import Wide.All
import OpenK.AllK
import Wide.FinOn
import PyProof.StrBlockL
import Lean
import PySem.Challenge.RW_oj0079_01
/- Written by a program from the texts under wip/: names shortened, spaces taken out. X0: small lemmas; M1, M2: a small language and its compiler; M3-M47, E, S: it is sound for the model; M48: the program in it; X1-X5: runs by a tape; Q: a second evaluator, for the kernel; M61-N5: what the law does; J1-K4: the join. -/
set_option linter.all false
set_option Elab.async false
set_option maxRecDepth 100000
set_option genSizeOf false
set_option genInjectivity false
set_option genSizeOfSpec false
set_option genCtorIdx false
set_option bootstrap.genMatcherCode false
set_option compiler.extract_closed false
set_option backward.match.sparseCases false
open And renaming intro->jm,left->Hx
open Array renaming find?_toList->bb0,getElem?_eq_none_iff->bb1,getElem?_setIfInBounds_ne->Cg,getElem?_toList->bb2,length_toList->kq,mk->uL,toList_append->bb3
open Bool renaming and_eq_true->dO,false->ag,false_eq_true->RO,false_ne_true->uM,not_eq_true->bb4,not_eq_true'->xG,or_eq_true->lC,true->af
open Decidable renaming decide->bf
open Eq renaming mpr->RT
open ForInStep renaming yield->Ci
open Iff renaming rfl->Ck
open Inhabited renaming default->ya
open Int renaming add_assoc->bc3,add_sub_cancel->Cm,add_zero->Cn,le_trans->bc4,lt_trans->RZ,max_eq_right->HC,min_eq_left->bc5,natAbs_lt_natAbs_of_nonneg_of_lt->bc6,natCast_add->bc7,natCast_nonneg->ku,ne_of_gt->R',toNat_natCast->pD,toNat_of_nonneg->xI
open LawfulBEq renaming eq_of_beq->cW
open LawfulMonad renaming pure_bind->Tj
open List renaming all_cons->Co,all_eq_true->bc8,append_assoc->bt,append_nil->cR,cons_append->HF,drop->Sa,drop_drop->Sb,drop_eq_getElem_cons->bc9,drop_eq_nil_of_le->bd0,drop_left->bd1,drop_nil->bd2,drop_of_length_le->bd3,drop_sublist->Sc,drop_zero->uQ,eq_nil_of_length_eq_zero->Sd,ext_getElem?->bd4,filterMap->bd5,filterMap_cons->Cp,filterMap_map->bd6,filter_cons->bd7,filter_cons_of_neg->bd8,filter_cons_of_pos->bd9,find?->Se,flatten_cons->HG,flatten_nil->be0,foldl_append->be1,foldl_cons->be2,forIn_cons->be3,getD_eq_getElem?_getD->Sf,getElem?_append_left->gI,getElem?_append_right->fM,getElem?_drop->Cq,getElem?_eq_getElem->nU,getElem?_eq_none->Cr,getElem?_eq_none_iff->Ct,getElem?_map->iQ,getElem?_nil->Sg,getElem?_replicate->Sh,getElem?_set->be4,getElem?_set_ne->fZ,getElem?_set_self->ig,getElem?_take_of_lt->xJ,getElem?_toArray->be5,getElem?_zipIdx->be6,getElem_mem->be7,head?_drop->Si,length->pE,length_append->aU,length_cons->rS,length_drop->xL,length_map->bH,length_nil->nW,length_range->be8,length_replicate->Sj,length_reverse->xM,length_set->jO,length_take->be9,length_take_le->bf0,length_zip->Sk,lookup->Cu,lookup_cons->jP,map->Cv,map_append->pF,map_congr_left->bf1,map_cons->eU,map_fst_zip->Cw,map_map->uR,map_nil->bf2,map_snd_zip->bf3,mem_append_left->pG,mem_append_right->uS,mem_cons->iR,mem_cons_of_mem->Sl,mem_cons_self->HH,mem_map_of_mem->Sm,mem_of_getElem?->bT,mem_singleton->bf4,nil_append->pH,nodup_append->HI,nodup_cons->xN,nodup_nil->Sn,not_mem_nil->ii,of_mem_zip->So,prefix_append->ij,prefix_refl->uT,range->ek,replicate->pI,reverse_cons->xO,set_append_left->Sp,set_append_right->HJ,set_set->bf5,sizeOf_lt_of_mem->bf6,size_toArray->bf7,take->Sr,take_append_drop->Cy,take_left->HL,take_length->bf8,take_length_add_append->bf9,take_nil->HM,take_of_length_le->xP,take_sublist->HN,zip_append->bg0,zip_eq_zipWith->HO,zip_nil_right->bg1
open List.cons renaming inj->rR,sizeOf_spec->HE
open Nat renaming add_assoc->iS,add_comm->nX,add_le_add->rT,add_le_add_left->xQ,add_le_add_right->CA,add_lt_add_of_le_of_lt->bg3,add_right_comm->bg4,add_sub_cancel'->rQ,add_sub_cancel_left->CB,add_zero->HP,ble->pL,blt->Su,casesOn->cw,exists_eq_add_of_le->bg5,le_add_left->bg6,le_add_right->dm,le_antisymm->bg7,le_of_ble_eq_true->kz,le_of_eq->fN,le_of_lt->pM,le_of_lt_succ->CC,le_of_not_le->HQ,le_of_not_lt->xR,le_of_succ_le_succ->bg8,le_refl->bI,le_succ->nY,le_trans->aV,lt_add_of_pos_left->Sv,lt_add_right->bg9,lt_irrefl->jn,lt_of_le_of_lt->pN,lt_of_lt_of_le->fu,lt_of_succ_lt_succ->nZ,lt_succ_of_lt->Sw,lt_succ_self->og,lt_trans->mJ,min_eq_left->HR,min_eq_right->Sx,min_le_right->Sy,mul_le_mul_left->bh0,ne_of_gt->uU,ne_of_lt->pO,not_lt_zero->fw,not_succ_le_zero->bh1,one_pos->CD,pos_of_ne_zero->bh2,sub_add_cancel->xS,sub_eq_zero_of_le->Sz,sub_le_sub_right->bh3,sub_lt->SA,sub_pos_of_lt->bh4,sub_self->gJ,sub_sub_right->bh5,succ->xT,succ_add->bh6,succ_add_eq_add_succ->rU,succ_le_succ->uV,succ_ne_self->bh7,succ_pos->bh8,zero_add->jo,zero_le->gb,zero_lt_one->bh9
open Nat.succ renaming inj->pP
open Ne renaming symm->ik
open Option renaming bind->bi2,bind_some->bi3,elim->HU,isSome->bi4,map->eJ,map_some->bi5,none->ae,none->aw,some->ac
open Option.some renaming inj->ax,injEq->bm7
open Or renaming elim->uW
open Ord renaming compare->CN
open PUnit renaming unit->CF
open Prod renaming fst->om,snd->SD
open Prod.mk renaming inj->io
open Pure renaming pure->bx,pure->uX
open PyProof.Rows renaming IntsAre->uP,add_str->bm8,iadd_str->bm9,isub_int->bn0,markedEach_of_false->Io,mod_int->bn1,neg_int->bn2,pickNums->SE,sub_int->bn3,subscriptTail->lI,tail_any->vg,truthy_int->bn4
open PySem renaming Addr->aj,Arguments->pA,Around->cB,BoolOp->mG,ClassData->xH,CmpOp->gv,Expr->aY,Flow->kr,FuncData->uO,GenState->Hy,Heap->aS,Keyword->HD,Model->pJ,NameKind->mI,Operator->eI,OsState->pQ,Program->pR,PyData->HV,Result->rV,Scope->iT,Shared->az,Stmt->fO,Thread->xW,Value->ah,Within->CG,World->gx,allTrue->SN,arm_assign_Name->SO,arm_evalEach_cons->bj7,arm_eval_Call_Name'->RN,arm_eval_Compare->bj8,arm_eval_UnaryOp->bj9,arm_exec_Assign->HZ,arm_exec_Return->bk0,arm_isTrue_Compare->bk1,assign->pT,assignEach->rW,backTo->lF,backToKw->CI,behindInMarks->CJ,binaryOp->Ia,bindC->CL,bindL->xX,bindName->oo,boolOp->xY,bootBuiltins->SP,builtinLookup_eq_fast->bk2,builtinsNs->xZ,call->eN,callWith->uZ,call_isinstance->bk3,cameBackBy->pU,codeAny->jp,codeAny_builtin->bk4,codeAny_call_builtin->CM,compEnvC->SS,compareOp->pV,denote->Ib,dictSet->SU,eval->dF,evalEach->Ic,evalPairs->SV,evalPart->Ie,eval_Subscript->SW,excClassObj->CO,execs->CP,foldedSetIterable->bk5,fromIndex->SY,getAttr->yd,getItem->kA,getMethod->pW,getMethod_builtin->SZ,holding->dG,importedModules->u',inplaceOp->S',isInstance->ye,isSubtype->Ij,isSubtype_type->Ta,isTrue->yf,isinstance_outer->bk6,keywordEach->CQ,mainGlobals->kB,methodCallForm->Te,methodCallPos->Ip,model->gZ,newFields->Tf,noteFrame->CS,notedBy->vd,opaqueClassAbove->bk7,operate->hA,partValue->pY,passOn->bj2,pastItsLine_dict->bk8,raiseNew->CT,rawInt->kC,relabel->Tk,release->Ir,seqItems?->It,setAttr->CU,setFlight->CV,sizeLine->mL,sizeLine_eq->yg,spliced->CW,standAt->fP,starEach->lH,stored->yh,strKind->ot,strValues->Tl,subscripted->lJ,swappedStores->yi,swapsWith->CX,swapsWithSole->Iz,sysModules->Tm,treeTable->yj,truthy->jq,typeLookup_type->bk9,typeOf->rX,unbindBehindTheSuite->Tq,unpackItems->Ts,valueAt->CY,wpAny->aB,wpAny_Constant_str->bl0,wpAny_bind->aD,wpAny_call->CZ,wpAny_execs_nil->IB,wpAny_field->mM,wpAny_getItem_list_slice->bl1,wpAny_handled->Tt,wpAny_holding->gc,wpAny_loadPart->Tu,wpAny_lookBehind->bl2,wpAny_mono->bb,wpAny_newObj_type->yk,wpAny_pure->bz,wpAny_pyIter_tuple->bl3,wpAny_rule->Tv,wpAny_setField->Da,wpAny_standAt->rY,wpAny_throw->Db
open PySem.Builtin.BaseException renaming bexcPut->bl5
open PySem.Builtin.List renaming listTooLong->bl6
open PySem.Builtin.ObjectAttr renaming storeInDict->Ix,storeInOwnDict->Iy
open PySem.Builtin.Str renaming occurrences->bl7,strSliceIndices->RP,subAt->bl8
open PySem.Calls renaming evalArgs_plain->bb5,spliced_cons->bb6,spliced_nil->RQ
open PySem.Challenge renaming pw_oj0079_01->bn5
open PySem.Comprehension.mk renaming sizeOf_spec->bl9
open PySem.Data.fields renaming inj->bm0
open PySem.EntryCells renaming newEntry->bb7
open PySem.Env renaming kindOf->Ch
open PySem.ExceptHandler.ExceptHandler renaming sizeOf_spec->bm1
open PySem.Expr.Attribute renaming sizeOf_spec->bm2
open PySem.Expr.BoolOp renaming sizeOf_spec->bm3
open PySem.Expr.Call renaming sizeOf_spec->bb8
open PySem.Expr.Compare renaming sizeOf_spec->bm4
open PySem.Expr.ListComp renaming sizeOf_spec->bm5
open PySem.F renaming args_dict_pop_3->bi8,entry_dict_pop->bi9,excBase_Exception->bj0,plainAttrs_list->bb9,slot_dict_pop->bj1,slot_tuple_iterator_next->bc0,typeOf_object_class->RW
open PySem.Flow renaming next->uN
open PySem.Heap renaming ExtBut->RX,SameBut->pB,get?_push_at->bc1,get?_push_of_some->ie,get?_push_size->mH,get?_update_ne->HA,get?_update_other->Cj,get?_update_self->pC,lt_size->fj,size_after_update->bc2,size_push->HB
open PySem.Heap.Ns1 renaming of_empty->RY
open PySem.Heap.SameBut renaming refl->bm6,update->Hz
open PySem.Manifest renaming isStub->bg2
open PySem.NameKind renaming cell->Cz,free->ky
open PySem.Obj renaming cls_mapFields->bi0,data_mapDictKeys->bi1,data_mapFields->CE,isFreed_of_fields->SB,mapFields->gw
open PySem.PyData renaming eqv->xU,eqvAll->bi6,strOk->bi7
open PySem.SeqAt renaming shaped->CH
open PySem.Str renaming ext'->RM,join->SH,length->xV
open PySem.StrLaws renaming partsBetween_eq->bn6,partsFrom_ne->bn7,seqIndex_nonneg->bj3
open PySem.Txt renaming find3->SI,split->HW,startswith->bj4
open PySem.Value renaming builtin->bj5,isStrOf->SJ,none->uY,ref->lE,type->SL
open PySem.Value.ref renaming inj->pS
open PySem.Value.type renaming inj->bj6
open PySem.W renaming Frag->ca,InstAt->HX,Looks->jQ,SharedT->lD,absHeap->SM,any_some->HY,boot_drawn->SQ,boot_heap->oq,boot_toks->SR,clsIn->jR,emptyDict->yb,findCls->yc,findIn->eO,findObj->SX,gensDone->Ig,handedIn->Ih,instObj->Ii,laidKept->Ik,lookIn->Il,looks_clsIn->Im,looks_findIn->CR,looks_mroIn->Td,namesBound->Iq,nsIn->lG,openGood->Th,openSeen->Ti,staticsOk->Iu,stepOk->Iw,through->Tn,topFrom->To,topRun->IA,topStub->Tp,typeIn->iq
open PySem.W.Looks renaming of_pure->Ss
open PySem.W.RowW renaming records->SG
open SizeOf renaming sizeOf->ve
namespace Mine.Internal
universe u0 u1 u2 u3 u4
theorem no_some{d:Type u0}{a:d}{G:Prop}(b:none=some a):G:=nomatch b
theorem some_no{d:Type u0}{a:d}{G:Prop}(b:some a=none):G:=nomatch b
theorem no_ft{G:Prop}(b:false=true):G:=nomatch b
theorem no_tf{G:Prop}(b:true=false):G:=nomatch b
local macro_rules |`(nomatch $e:term)=>`(by first|exact no_some $e|exact some_no $e|exact no_ft $e|exact no_tf $e|(injection $e;done)|cases $e:term|exact absurd $e (by decide))
local macro_rules |`(tactic|cases $x:elimTarget $as:inductionAlts)=>do
 let T:Option Lean.Name:=match(as.raw[2].getArg 0)[0][0][1][1].getId with
  |`none|`some=>``Option.casesOn|`nil|`cons=>``List.casesOn|`zero|`succ=>``Nat.casesOn|`true|`false=>``Bool.casesOn|_=>none
 match T with
 |some T=>`(tactic|induction $x:elimTarget using $(Lean.mkIdent T) $as:inductionAlts)
 |none=>Lean.Macro.throwUnsupported
section
variable{d:Sort u0}{g:Sort u1}{m:Sort u2}{z8:Sort u3}{zq:Sort u4}{G:Prop}{P Q k S T U:Prop}{A B z3 zc zj zl:d->Prop}{e j n z4 zf zm:d->g->Prop}{f h l z5 zg:d->g->m->Prop}{o z0 z1 za zd:d->g->m->z8->Prop}{zn:d->g->m->z8->zq->Prop}{z2 z6 z9 zb ze zh zk zo zr:Prop}{zs zt:d->g->m->Prop}{zp zu:d->g->m->z8->Prop}
theorem aP(b:P/\Q)(p:P->Q->G):G:=p b.1 b.2
theorem am(b:∃x,A x)(p:∀x,A x->G):G:=b.elim λx q=>p x q
theorem fL(b:P/\Q/\k)(p:P->Q->k->G):G:=p b.1 b.2.1 b.2.2
theorem dy(b:P/\∃x,A x)(p:P->∀x,A x->G):G:=b.2.elim λx q=>p b.1 x q
theorem ak(p:∃x,A x/\B x)(q:∀x,A x->B x->G):G:=p.elim λx b=>q x b.1 b.2
theorem eH(b:∃x y,e x y)(p:∀x y,e x y->G):G:=b.elim λx q=>q.elim λy r=>p x y r
theorem rO(b:P/\Q/\k/\S)(p:P->Q->k->S->G):G:=p b.1 b.2.1 b.2.2.1 b.2.2.2
theorem Rz(b:P/\Q/\∃x,A x)(p:P->Q->∀x,A x->G):G:=b.2.2.elim λx q=>p b.1 b.2.1 x q
theorem nR(b:P/\∃x,A x/\B x)(q:P->∀x,A x->B x->G):G:=b.2.elim λx p=>q b.1 x p.1 p.2
theorem bP(p:∃x,A x/\B x/\z3 x)(q:∀x,A x->B x->z3 x->G):G:=p.elim λx b=>q x b.1 b.2.1 b.2.2
theorem cu(p:∃x y,e x y/\j x y)(q:∀x y,e x y->j x y->G):G:=p.elim λx r=>r.elim λy b=>q x y b.1 b.2
theorem mF(b:∃x y z,f x y z)(p:∀x y z,f x y z->G):G:=b.elim λx q=>q.elim λy r=>r.elim λz s=>p x y z s
theorem uH(b:P/\Q/\k/\S/\T)(p:P->Q->k->S->T->G):G:=p b.1 b.2.1 b.2.2.1 b.2.2.2.1 b.2.2.2.2
theorem rP(b:P/\∃x y,e x y/\j x y)(q:P->∀x y,e x y->j x y->G):G:=b.2.elim λx r=>r.elim λy p=>q b.1 x y p.1 p.2
theorem iP(p:∃x,A x/\B x/\z3 x/\zc x)(q:∀x,A x->B x->z3 x->zc x->G):G:=p.elim λx b=>q x b.1 b.2.1 b.2.2.1 b.2.2.2
theorem RA(q:∃x,A x/\∃y,e x y/\j x y)(r:∀x,A x->∀y,e x y->j x y->G):G:=q.elim λx b=>b.2.elim λy p=>r x b.1 y p.1 p.2
theorem bE(p:∃x y,e x y/\j x y/\n x y)(q:∀x y,e x y->j x y->n x y->G):G:=p.elim λx r=>r.elim λy b=>q x y b.1 b.2.1 b.2.2
theorem gY(p:∃x y z,f x y z/\h x y z)(q:∀x y z,f x y z->h x y z->G):G:=p.elim λx r=>r.elim λy s=>s.elim λz b=>q x y z b.1 b.2
theorem ba6(b:P/\Q/\k/\S/\T/\U)(p:P->Q->k->S->T->U->G):G:=p b.1 b.2.1 b.2.2.1 b.2.2.2.1 b.2.2.2.2.1 b.2.2.2.2.2
theorem ba7(p:P/\∃x y,e x y/\j x y/\n x y)(q:P->∀x y,e x y->j x y->n x y->G):G:=p.2.elim λx r=>r.elim λy b=>q p.1 x y b.1 b.2.1 b.2.2
theorem jk(b:P/\∃x y z,f x y z/\h x y z)(q:P->∀x y z,f x y z->h x y z->G):G:=b.2.elim λx r=>r.elim λy s=>s.elim λz p=>q b.1 x y z p.1 p.2
theorem ch(p:∃x y,e x y/\j x y/\n x y/\z4 x y)(q:∀x y,e x y->j x y->n x y->z4 x y->G):G:=p.elim λx r=>r.elim λy b=>q x y b.1 b.2.1 b.2.2.1 b.2.2.2
theorem fi(p:∃x y z,f x y z/\h x y z/\l x y z)(q:∀x y z,f x y z->h x y z->l x y z->G):G:=p.elim λx r=>r.elim λy s=>s.elim λz b=>q x y z b.1 b.2.1 b.2.2
theorem pz(p:∃x y z v,o x y z v/\z0 x y z v)(q:∀x y z v,o x y z v->z0 x y z v->G):G:=p.elim λx r=>r.elim λy s=>s.elim λz t=>t.elim λv b=>q x y z v b.1 b.2
theorem uJ(b:∃x y z v w,zn x y z v w)(p:∀x y z v w,zn x y z v w->G):G:=b.elim λx q=>q.elim λy r=>r.elim λz s=>s.elim λv t=>t.elim λw u=>p x y z v w u
theorem mE(p:∃x,A x/\B x/\z3 x/\zc x/\zj x/\zl x)(q:∀x,A x->B x->z3 x->zc x->zj x->zl x->G):G:=p.elim λx b=>q x b.1 b.2.1 b.2.2.1 b.2.2.2.1 b.2.2.2.2.1 b.2.2.2.2.2
theorem RB(p:∃x y,e x y/\j x y/\n x y/\z4 x y/\zf x y)(q:∀x y,e x y->j x y->n x y->z4 x y->zf x y->G):G:=p.elim λx r=>r.elim λy b=>q x y b.1 b.2.1 b.2.2.1 b.2.2.2.1 b.2.2.2.2
theorem dz(p:∃x y z,f x y z/\h x y z/\l x y z/\z5 x y z)(q:∀x y z,f x y z->h x y z->l x y z->z5 x y z->G):G:=p.elim λx r=>r.elim λy s=>s.elim λz b=>q x y z b.1 b.2.1 b.2.2.1 b.2.2.2
theorem xF(q:∃x,A x/\B x/\∃y z,f x y z/\h x y z/\l x y z)(r:∀x,A x->B x->∀y z,f x y z->h x y z->l x y z->G):G:=q.elim λx b=>b.2.2.elim λy s=>s.elim λz p=>r x b.1 b.2.1 y z p.1 p.2.1 p.2.2
theorem Ht(q:∃x,A x/\∃y z,f x y z/\h x y z/\l x y z/\z5 x y z)(r:∀x,A x->∀y z,f x y z->h x y z->l x y z->z5 x y z->G):G:=q.elim λx p=>p.2.elim λy s=>s.elim λz b=>r x p.1 y z b.1 b.2.1 b.2.2.1 b.2.2.2
theorem Hv(p:∃x y,e x y/\j x y/\n x y/\z4 x y/\zf x y/\zm x y)(q:∀x y,e x y->j x y->n x y->z4 x y->zf x y->zm x y->G):G:=p.elim λx r=>r.elim λy b=>q x y b.1 b.2.1 b.2.2.1 b.2.2.2.1 b.2.2.2.2.1 b.2.2.2.2.2
theorem nS(p:∃x y z,f x y z/\h x y z/\l x y z/\z5 x y z/\zg x y z)(q:∀x y z,f x y z->h x y z->l x y z->z5 x y z->zg x y z->G):G:=p.elim λx r=>r.elim λy s=>s.elim λz b=>q x y z b.1 b.2.1 b.2.2.1 b.2.2.2.1 b.2.2.2.2
theorem Hu(q:∃x,A x/\∃y z,f x y z/\h x y z/\l x y z/\z5 x y z/\zg x y z)(r:∀x,A x->∀y z,f x y z->h x y z->l x y z->z5 x y z->zg x y z->G):G:=q.elim λx p=>p.2.elim λy s=>s.elim λz b=>r x p.1 y z b.1 b.2.1 b.2.2.1 b.2.2.2.1 b.2.2.2.2
theorem uI(p:P/\∃x y z v,o x y z v/\z0 x y z v/\z1 x y z v/\za x y z v/\zd x y z v)(q:P->∀x y z v,o x y z v->z0 x y z v->z1 x y z v->za x y z v->zd x y z v->G):G:=p.2.elim λx r=>r.elim λy s=>s.elim λz t=>t.elim λv b=>q p.1 x y z v b.1 b.2.1 b.2.2.1 b.2.2.2.1 b.2.2.2.2
theorem dc(b:P)(p:Q)(q:k):P/\Q/\k:=⟨b,p,q⟩
theorem tA(b:P)(x:d)(p:A x):P/\∃x,A x:=⟨b,x,p⟩
theorem al(x:d)(b:A x)(p:B x):∃x,A x/\B x:=⟨x,b,p⟩
theorem fq(x:d)(y:g)(b:e x y):∃x y,e x y:=⟨x,y,b⟩
theorem dE(b:P)(p:Q)(q:k)(r:S):P/\Q/\k/\S:=⟨b,p,q,r⟩
theorem Fe(b:P)(p:Q)(x:d)(q:A x):P/\Q/\∃x,A x:=⟨b,p,x,q⟩
theorem AJ(b:P)(x:d)(p:A x)(q:B x):P/\∃x,A x/\B x:=⟨b,x,p,q⟩
theorem br(x:d)(b:A x)(p:B x)(q:z3 x):∃x,A x/\B x/\z3 x:=⟨x,b,p,q⟩
theorem gF(x:d)(y:g)(b:e x y)(p:j x y):∃x y,e x y/\j x y:=⟨x,y,b,p⟩
theorem wq(x:d)(y:g)(z:m)(b:f x y z):∃x y z,f x y z:=⟨x,y,z,b⟩
theorem gk(b:P)(p:Q)(q:k)(r:S)(s:T):P/\Q/\k/\S/\T:=⟨b,p,q,r,s⟩
theorem Fd(b:P)(p:Q)(q:k)(x:d)(r:A x):P/\Q/\k/\∃x,A x:=⟨b,p,q,x,r⟩
theorem Nk(b:P)(x:d)(p:A x)(q:B x)(r:z3 x):P/\∃x,A x/\B x/\z3 x:=⟨b,x,p,q,r⟩
theorem Ff(b:P)(x:d)(y:g)(p:e x y)(q:j x y):P/\∃x y,e x y/\j x y:=⟨b,x,y,p,q⟩
theorem jW(x:d)(b:A x)(p:B x)(q:z3 x)(r:zc x):∃x,A x/\B x/\z3 x/\zc x:=⟨x,b,p,q,r⟩
theorem wp(x:d)(b:A x)(p:B x)(y:g)(q:e x y):∃x,A x/\B x/\∃y,e x y:=⟨x,b,p,y,q⟩
theorem Fi(x:d)(b:A x)(y:g)(p:e x y)(q:j x y):∃x,A x/\∃y,e x y/\j x y:=⟨x,b,y,p,q⟩
theorem bw(x:d)(y:g)(b:e x y)(p:j x y)(q:n x y):∃x y,e x y/\j x y/\n x y:=⟨x,y,b,p,q⟩
theorem kQ(x:d)(y:g)(z:m)(b:f x y z)(p:h x y z):∃x y z,f x y z/\h x y z:=⟨x,y,z,b,p⟩
theorem al1(x:d)(y:g)(z:m)(v:z8)(b:o x y z v):∃x y z v,o x y z v:=⟨x,y,z,v,b⟩
theorem kP(b:P)(p:Q)(q:k)(r:S)(s:T)(t:U):P/\Q/\k/\S/\T/\U:=⟨b,p,q,r,s,t⟩
theorem Ni(b:P)(p:Q)(q:k)(x:d)(r:A x)(s:B x):P/\Q/\k/\∃x,A x/\B x:=⟨b,p,q,x,r,s⟩
theorem wo(b:P)(x:d)(y:g)(p:e x y)(q:j x y)(r:n x y):P/\∃x y,e x y/\j x y/\n x y:=⟨b,x,y,p,q,r⟩
theorem Nl(b:P)(x:d)(y:g)(z:m)(p:f x y z)(q:h x y z):P/\∃x y z,f x y z/\h x y z:=⟨b,x,y,z,p,q⟩
theorem ak3(x:d)(b:A x)(p:B x)(q:z3 x)(r:zc x)(s:zj x):∃x,A x/\B x/\z3 x/\zc x/\zj x:=⟨x,b,p,q,r,s⟩
theorem pb(x:d)(b:A x)(p:B x)(y:g)(q:e x y)(r:j x y):∃x,A x/\B x/\∃y,e x y/\j x y:=⟨x,b,p,y,q,r⟩
theorem dp(x:d)(y:g)(b:e x y)(p:j x y)(q:n x y)(r:z4 x y):∃x y,e x y/\j x y/\n x y/\z4 x y:=⟨x,y,b,p,q,r⟩
theorem ak7(x:d)(y:g)(b:e x y)(z:m)(p:f x y z)(q:h x y z):∃x y,e x y/\∃z,f x y z/\h x y z:=⟨x,y,b,z,p,q⟩
theorem lZ(x:d)(y:g)(z:m)(b:f x y z)(p:h x y z)(q:l x y z):∃x y z,f x y z/\h x y z/\l x y z:=⟨x,y,z,b,p,q⟩
theorem Nm(x:d)(y:g)(z:m)(v:z8)(b:o x y z v)(p:z0 x y z v):∃x y z v,o x y z v/\z0 x y z v:=⟨x,y,z,v,b,p⟩
theorem Nn(x:d)(y:g)(z:m)(v:z8)(w:zq)(b:zn x y z v w):∃x y z v w,zn x y z v w:=⟨x,y,z,v,w,b⟩
theorem nj(b:P)(p:Q)(q:k)(r:S)(s:T)(t:U)(u:z2):P/\Q/\k/\S/\T/\U/\z2:=⟨b,p,q,r,s,t,u⟩
theorem Nj(b:P)(p:Q)(x:d)(y:g)(z:m)(q:f x y z)(r:h x y z):P/\Q/\∃x y z,f x y z/\h x y z:=⟨b,p,x,y,z,q,r⟩
theorem Fg(b:P)(x:d)(y:g)(p:e x y)(q:j x y)(r:n x y)(s:z4 x y):P/\∃x y,e x y/\j x y/\n x y/\z4 x y:=⟨b,x,y,p,q,r,s⟩
theorem Fh(b:P)(x:d)(y:g)(z:m)(p:f x y z)(q:h x y z)(r:l x y z):P/\∃x y z,f x y z/\h x y z/\l x y z:=⟨b,x,y,z,p,q,r⟩
theorem tB(x:d)(b:A x)(p:B x)(q:z3 x)(r:zc x)(s:zj x)(t:zl x):∃x,A x/\B x/\z3 x/\zc x/\zj x/\zl x:=⟨x,b,p,q,r,s,t⟩
theorem qT(x:d)(y:g)(b:e x y)(p:j x y)(q:n x y)(r:z4 x y)(s:zf x y):∃x y,e x y/\j x y/\n x y/\z4 x y/\zf x y:=⟨x,y,b,p,q,r,s⟩
theorem fG(x:d)(y:g)(z:m)(b:f x y z)(p:h x y z)(q:l x y z)(r:z5 x y z):∃x y z,f x y z/\h x y z/\l x y z/\z5 x y z:=⟨x,y,z,b,p,q,r⟩
theorem al2(x:d)(y:g)(z:m)(v:z8)(b:o x y z v)(p:z0 x y z v)(q:z1 x y z v):∃x y z v,o x y z v/\z0 x y z v/\z1 x y z v:=⟨x,y,z,v,b,p,q⟩
theorem wm(b:P)(p:Q)(q:k)(r:S)(s:T)(t:U)(u:z2)(v:z6):P/\Q/\k/\S/\T/\U/\z2/\z6:=⟨b,p,q,r,s,t,u,v⟩
theorem ak2(b:P)(x:d)(y:g)(z:m)(p:f x y z)(q:h x y z)(r:l x y z)(s:z5 x y z):P/\∃x y z,f x y z/\h x y z/\l x y z/\z5 x y z:=⟨b,x,y,z,p,q,r,s⟩
theorem ak4(x:d)(b:A x)(p:B x)(y:g)(z:m)(q:f x y z)(r:h x y z)(s:l x y z):∃x,A x/\B x/\∃y z,f x y z/\h x y z/\l x y z:=⟨x,b,p,y,z,q,r,s⟩
theorem Fj(x:d)(y:g)(b:e x y)(p:j x y)(q:n x y)(r:z4 x y)(s:zf x y)(t:zm x y):∃x y,e x y/\j x y/\n x y/\z4 x y/\zf x y/\zm x y:=⟨x,y,b,p,q,r,s,t⟩
theorem Fk(x:d)(y:g)(b:e x y)(p:j x y)(z:m)(q:f x y z)(r:h x y z)(s:l x y z):∃x y,e x y/\j x y/\∃z,f x y z/\h x y z/\l x y z:=⟨x,y,b,p,z,q,r,s⟩
theorem nq(x:d)(y:g)(z:m)(b:f x y z)(p:h x y z)(q:l x y z)(r:z5 x y z)(s:zg x y z):∃x y z,f x y z/\h x y z/\l x y z/\z5 x y z/\zg x y z:=⟨x,y,z,b,p,q,r,s⟩
theorem al3(x:d)(y:g)(z:m)(v:z8)(b:o x y z v)(p:z0 x y z v)(q:z1 x y z v)(r:za x y z v):∃x y z v,o x y z v/\z0 x y z v/\z1 x y z v/\za x y z v:=⟨x,y,z,v,b,p,q,r⟩
theorem nk(b:P)(p:Q)(q:k)(r:S)(s:T)(t:U)(u:z2)(v:z6)(w:z9):P/\Q/\k/\S/\T/\U/\z2/\z6/\z9:=⟨b,p,q,r,s,t,u,v,w⟩
theorem ak5(x:d)(y:g)(b:e x y)(p:j x y)(q:n x y)(r:z4 x y)(z:m)(s:f x y z)(t:h x y z):∃x y,e x y/\j x y/\n x y/\z4 x y/\∃z,f x y z/\h x y z:=⟨x,y,b,p,q,r,z,s,t⟩
theorem ak6(x:d)(y:g)(b:e x y)(p:j x y)(z:m)(v:z8)(q:o x y z v)(r:z0 x y z v)(s:z1 x y z v):∃x y,e x y/\j x y/\∃z v,o x y z v/\z0 x y z v/\z1 x y z v:=⟨x,y,b,p,z,v,q,r,s⟩
theorem al4(x:d)(y:g)(z:m)(v:z8)(b:o x y z v)(p:z0 x y z v)(q:z1 x y z v)(r:za x y z v)(s:zd x y z v):∃x y z v,o x y z v/\z0 x y z v/\z1 x y z v/\za x y z v/\zd x y z v:=⟨x,y,z,v,b,p,q,r,s⟩
theorem Fa(b:P)(p:Q)(q:k)(r:S)(s:T)(t:U)(u:z2)(v:z6)(w:z9)(x:zb):P/\Q/\k/\S/\T/\U/\z2/\z6/\z9/\zb:=⟨b,p,q,r,s,t,u,v,w,x⟩
theorem AL(b:P)(x:d)(y:g)(z:m)(v:z8)(p:o x y z v)(q:z0 x y z v)(r:z1 x y z v)(s:za x y z v)(t:zd x y z v):P/\∃x y z v,o x y z v/\z0 x y z v/\z1 x y z v/\za x y z v/\zd x y z v:=⟨b,x,y,z,v,p,q,r,s,t⟩
theorem ak8(x:d)(y:g)(z:m)(b:f x y z)(p:h x y z)(q:l x y z)(r:z5 x y z)(s:zg x y z)(t:zs x y z)(u:zt x y z):∃x y z,f x y z/\h x y z/\l x y z/\z5 x y z/\zg x y z/\zs x y z/\zt x y z:=⟨x,y,z,b,p,q,r,s,t,u⟩
theorem ak9(x:d)(y:g)(z:m)(b:f x y z)(p:h x y z)(q:l x y z)(v:z8)(r:o x y z v)(s:z0 x y z v)(t:z1 x y z v):∃x y z,f x y z/\h x y z/\l x y z/\∃v,o x y z v/\z0 x y z v/\z1 x y z v:=⟨x,y,z,b,p,q,v,r,s,t⟩
theorem ak1(b:P)(p:Q)(q:k)(r:S)(s:T)(t:U)(u:z2)(v:z6)(w:z9)(x:zb)(y:ze):P/\Q/\k/\S/\T/\U/\z2/\z6/\z9/\zb/\ze:=⟨b,p,q,r,s,t,u,v,w,x,y⟩
theorem al5(x:d)(y:g)(z:m)(v:z8)(b:o x y z v)(p:z0 x y z v)(q:z1 x y z v)(r:za x y z v)(s:zd x y z v)(t:zp x y z v)(u:zu x y z v):∃x y z v,o x y z v/\z0 x y z v/\z1 x y z v/\za x y z v/\zd x y z v/\zp x y z v/\zu x y z v:=⟨x,y,z,v,b,p,q,r,s,t,u⟩
theorem tz(b:P)(p:Q)(q:k)(r:S)(s:T)(t:U)(u:z2)(v:z6)(w:z9)(x:zb)(y:ze)(z:zh):P/\Q/\k/\S/\T/\U/\z2/\z6/\z9/\zb/\ze/\zh:=⟨b,p,q,r,s,t,u,v,w,x,y,z⟩
theorem AI(b:P)(p:Q)(q:k)(r:S)(s:T)(t:U)(u:z2)(v:z6)(w:z9)(x:zb)(y:ze)(z:zh)(C:zk):P/\Q/\k/\S/\T/\U/\z2/\z6/\z9/\zb/\ze/\zh/\zk:=⟨b,p,q,r,s,t,u,v,w,x,y,z,C⟩
theorem al0(x:d)(y:g)(z:m)(b:f x y z)(p:h x y z)(q:l x y z)(v:z8)(r:o x y z v)(s:z0 x y z v)(t:z1 x y z v)(u:za x y z v)(w:zd x y z v)(C:zp x y z v):∃x y z,f x y z/\h x y z/\l x y z/\∃v,o x y z v/\z0 x y z v/\z1 x y z v/\za x y z v/\zd x y z v/\zp x y z v:=⟨x,y,z,b,p,q,v,r,s,t,u,w,C⟩
theorem Fb(b:P)(p:Q)(q:k)(r:S)(s:T)(t:U)(u:z2)(v:z6)(w:z9)(x:zb)(y:ze)(z:zh)(C:zk)(D:zo):P/\Q/\k/\S/\T/\U/\z2/\z6/\z9/\zb/\ze/\zh/\zk/\zo:=⟨b,p,q,r,s,t,u,v,w,x,y,z,C,D⟩
theorem Fc(b:P)(p:Q)(q:k)(r:S)(s:T)(t:U)(u:z2)(v:z6)(w:z9)(x:zb)(y:ze)(z:zh)(C:zk)(D:zo)(E:zr):P/\Q/\k/\S/\T/\U/\z2/\z6/\z9/\zb/\ze/\zh/\zk/\zo/\zr:=⟨b,p,q,r,s,t,u,v,w,x,y,z,C,D,E⟩
end
noncomputable def bO{d:Type}(c:Bool)(a:d):Option d:=match c with
 |true=>some a|false=>Option.none
theorem cb{d:Type}{c:Bool}{a i:d}{G:Prop}(z7:bO c a=some i)(b:c=true->a=i->G):G:=by
 cases c with
 |true=>exact b rfl (Option.some.inj z7)|false=>exact nomatch z7
theorem aC{d g:Type}{b:Option d}{p:d->Option g}{i:g}{G:Prop}(z7:b.bind p=some i)(q:∀a,b=some a->p a=some i->G):G:=by
 cases b with
 |some a=>exact q a rfl z7|none=>exact nomatch z7
theorem bG{d g:Type}{b:Option d}{p:d->g}{i:g}{G:Prop}(z7:b.map p=some i)(q:∀a,b=some a->p a=i->G):G:=by
 cases b with
 |some a=>exact q a rfl (Option.some.inj z7)|none=>exact nomatch z7
theorem dr{a i:Bool}{G:Prop}(z7:(a&&i)=true)(b:a=true->i=true->G):G:=by
 cases a with
 |true=>exact b rfl z7|false=>exact nomatch z7
theorem EU{G:Prop}(b:∀P:Prop,(G->P)->P):G:=b G id
theorem je{d:Type}{b:List d}{a:d}:(b++[a])[b.length]?=some a:=by rw[List.getElem?_append_right (Nat.le_refl _),Nat.sub_self];rfl
section
variable{a i c zi z7:Nat}
theorem n_num(b:Nat.ble a i=true):a<=i:=Nat.le_of_ble_eq_true b
theorem n_up(b:a<=i)(p:Nat.ble i c=true):a<=c:=Nat.le_trans b (n_num p)
theorem n_dn(b:i<=c)(p:Nat.ble a i=true):a<=c:=Nat.le_trans (n_num p) b
theorem n_eup(z:a=i)(b:i<=c)(p:Nat.ble c zi=true):a<=zi:=z▸n_up b p
theorem n_upL(b:a<=i)(p:Nat.ble (i+1) c=true):a<c:=Nat.lt_of_le_of_lt b (n_num p)
theorem n_dnR(b:i<=c)(p:Nat.ble a i=true):a<=c+zi:=Nat.le_add_right_of_le (n_dn b p)
theorem n_off(b:zi<=i+c)(p:Nat.ble (a+c) zi=true):a<=i:=Nat.le_of_add_le_add_right (n_dn b p)
theorem n_offR(p:zi<=i+c)(q:Nat.ble (a+c) (zi+z7)=true):a<=i+z7:=Nat.le_of_add_le_add_right (b:=c) (Nat.le_trans (n_num q) (Nat.le_trans (Nat.add_le_add_right p z7) (Nat.le_of_eq (Nat.add_right_comm i c z7))))
theorem n_sub(b:i<=a)(p:Nat.ble c i=true):a=a-c+c:=(Nat.sub_add_cancel (n_dn b p)).symm
theorem n_ci(b:a<=i):(a:Int)<=i:=Int.ofNat_le.mpr b
theorem n_cl(b:a<i):(a:Int)<i:=Int.ofNat_lt.mpr b
theorem n_ceq(b:a=i):(a:Int)=i:=congrArg _ b
theorem eB(b:a+i<c):a<c:=Nat.lt_of_le_of_lt (Nat.le_add_right ..) b
theorem jg(b:a+i<c):i<c:=Nat.lt_of_le_of_lt (Nat.le_add_left ..) b
theorem n_lar(b:a<i):a<i+c:=Nat.lt_add_right _ b
theorem n_abs{P:Prop}(b:a<i)(p:i<=a):P:=absurd (Nat.lt_of_lt_of_le b p) (Nat.lt_irrefl _)
theorem n_as:a+(i+c)=a+i+c:=(Nat.add_assoc ..).symm
end
local macro_rules |`(tactic|lia)=>do
 let a <-`(by assumption);let d <-`(by decide);let r <-`(rfl);let mut t <-`(tactic|fail)
 for (n,k)in[(``Nat.le_succ_of_le,1),(``Nat.sub_le,0),(``Nat.le_of_add_right_le,1),(``Nat.add_comm,0),(``Nat.zero_add,0),(``Nat.add_right_comm,0),(``n_as,0),(``Nat.add_assoc,0),(``n_ceq,1),(``n_cl,1),(``n_ci,1),(``n_abs,2),(``Nat.lt_of_le_of_lt,2),(``Nat.lt_of_lt_of_le,2),(``Nat.le_trans,2),(``Nat.le_add_left,0),(``Nat.le_add_right,0),(``n_lar,1),(``Nat.le_of_succ_le_succ,1),(``Nat.lt_of_succ_lt_succ,1),(``Nat.le_of_succ_le,1),(``Nat.lt_of_succ_le,1),(``Nat.lt_succ_of_lt,1),(``Nat.ne_of_gt,1),(``Nat.ne_of_lt,1),(``Nat.not_le_of_lt,1),(``Nat.not_lt_of_le,1),(``Nat.lt_of_not_le,1),(``Nat.le_of_not_lt,1),(``Nat.le_of_lt,1),(``n_eup,6),(``n_sub,3),(``n_offR,3),(``n_off,3),(``n_dnR,4),(``n_upL,3),(``n_dn,3),(``n_up,3),(``n_num,5),(``Nat.succ_pos,0),(``Nat.lt_succ_self,0),(``Nat.le_refl,0),(``Nat.zero_le,0)]do
  let xs:Array Lean.Term:=match k with|0=>#[]|1=>#[a]|2=>#[a,a]|3=>#[a,d]|4=>#[a,r]|5=>#[r]|_=>#[a,a,r]
  t <-`(tactic|first|exact $(Lean.mkCIdent n) $xs* ..| $t:tactic)
 `(tactic|first|assumption| $t:tactic)
local macro_rules
 |`(s! $x)=>do
  match x.raw[0].isInterpolatedStrLit? with
  |some s=>
   let l:Array Lean.Term:=s.toList.toArray.map fun c=>Lean.quote c.toNat
   `([$l,*])
  |none=>Lean.Macro.throwUnsupported
section
set_option tactic.hygienic false
open PySem
section
set_option genCtorIdx true in
inductive V where
 |none
 |j (d:Bool)
 |a (i:Int)
 |str (s:List Nat)
 |tup (e:List V)
 |obj (i:Nat)
 |m (v:ah)
set_option genCtorIdx true in
inductive O where
 |list (f:List V)
 |dict (e:List (List Nat×V)) (n:Option Nat)
 |ns (e:List (List Nat×V))
 |inst (C:aj) (d:Nat)
 |exc (C:aj) (d:Option Nat) (g:Bool)
noncomputable abbrev H:=List O
noncomputable abbrev av:=List (Option V)
set_option genCtorIdx true in
inductive R(d:Type)where
 |ok (e:d) (h:H)
 |exc (f:Nat) (h:H)
 |i
noncomputable def R.bind{d e:Type}:R d->(d->H->R e)->R e
 |.ok g h,f=>f g h|.exc j h,_=>.exc j h|.i,_=>.i
inductive Fl where
 |next|a3|a5
 |B (v:V)
 |exc (i:Nat)
inductive Ex where
 |none
 |j (h:Bool)
 |a (i:Int)
 |str (s:List Nat)
 |loc (i:Nat)
 |a1 (v:ah)
 |attr (e:Ex) (n:List Nat)
 |b0 (f:Ex) (k:List Ex)
 |c3 (o:Ex) (n:List Nat) (k:List Ex)
 |d2 (d:eI) (l r:Ex)
 |f0 (e:Ex)
 |f1 (e:Ex)
 |Q (l:Ex) (d:gv) (r:Ex)
 |f6 (l:Ex) (d:gv) (m:Ex) (u:gv) (r:Ex)
 |d6 (d:mG) (g:List Ex)
 |E (w p h:Ex)
 |tup (g:List Ex)
 |y (g:List Ex)
 |b8 (z:List (List Nat)) (g:List Ex)
 |t (e i:Ex)
 |a7 (e:Ex) (q A:Option Ex)
 |h0 (e q B:Ex)
 |g0 (D:Ex) (x:Nat) (F:Ex)
 |h1 (e p:Ex)
inductive St where
 |q (i:Nat) (e:Ex)
 |a8 (h:List Nat) (e:Ex)
 |Z (o:Ex) (n:List Nat) (e:Ex)
 |e4 (o i e:Ex)
 |a6 (i:Nat) (g:eI) (e:Ex)
 |e1 (o:Ex) (n:List Nat) (g:eI) (e:Ex)
 |E (f:Ex) (j d:List St)
 |a9 (f:Ex) (d:List St)
 |f2 (x:Nat) (e:Ex) (d:List St)
 |g1 (x:Nat) (e:Ex) (d:List St)
 |f3 (x y:Nat) (e:Ex) (d:List St)
 |B (e:Option Ex)
 |b3 (e:Ex)
 |c6 (d:List St) (f:ah) (x:Option Nat) (k:List St)
 |f7 (d l:List St)
 |d7 (e:Ex)
 |b9
 |a3
 |a5
structure Fn where
 c4:Nat
 h2:Nat
 c5:List V
 body:List St
structure Cl where
 meths:List (List Nat×ah)
 init:ah
 isExc:Bool
 attrs:List (List Nat)
structure aZ where
 fn:aj->Option Fn
 cls:aj->Option Cl
noncomputable def nm(s:String):List Nat:=s.toList.map Char.toNat
noncomputable def big:Nat:=1000000
noncomputable def fc(s:List Nat):Bool:=bf (s.length<=big)&&s.all λd=>bf (d<1114112)
noncomputable def Mw(t:List V->Bool):V->Bool
 |.none=>af|.a _=>af|.str _=>af|.tup d=>t d|_=>ag
noncomputable def bQ:Nat->V->Bool
 |0=>Mw λe=>ag|n+1=>Mw λd=>d.all (bQ n)
mutual
noncomputable def iM:V->V->Bool
 |.none,.none=>af|.a d,.a e=>d==e|.str d,.str e=>d==e|.tup d,.tup e=>mC d e|_,_=>ag
noncomputable def mC:List V->List V->Bool
 |[],[]=>af|d::e,f::g=>iM d f&&mC e g|[],_::_=>ag|_::_,[]=>ag
end
noncomputable def lA(x:V)(l:List V):Option Bool:=if bQ 8 x&&l.all (bQ 7)then ac (l.any λy=>iM y x)else aw
noncomputable def aA(h:H):V->Option Bool
 |.none=>ac ag|.j d=>ac d|.a i=>ac (i !=0)|.str s=>ac (s !=[])|.obj i=>match h[i]? with
  |some (.list e)=>ac (!e.isEmpty)|_=>aw
 |_=>aw
noncomputable def dJ(d:List (List Nat×V))(k:List Nat):Option V:=d.lookup k
noncomputable def cL(e:List (List Nat×V))(k:List Nat)(v:V):List (List Nat×V):=
 match e with
 |[]=>[(k,v)]|(d,f)::r=>if d=k then(k,v)::r else(d,f)::cL r k v
noncomputable def oR(d:List (List Nat×V))(k:List Nat):List (List Nat×V):=d.filter λp=>p.1 !=k
noncomputable def sY:List (List Nat)->Bool
 |[]=>af|k::r=>!r.contains k&&sY r
noncomputable def sX(d:List (List Nat))(e:List V):Option O:=if sY d&&d.length==e.length then ac (.dict (d.zip e) (ac d.length))else aw
noncomputable def iw(e:List (List Nat))(i:Nat)(f:List V)(d:H):R V:=match d[i]?,sX e f with
 |some (.dict [] (ac 0)),ac o=>.ok (.obj i) (d.set i o)|_,_=>.i
noncomputable def cg(n:Nat)(i:Int):Nat:=(max 0 (min (if i<0 then i+n else i) n)).toNat
noncomputable def ct{d:Type}(l:List d)(e f:Nat):List d:=(l.drop e).take (f-e)
noncomputable def mc:List V->Option (List Int)
 |[]=>ac []|.a i::r=>(mc r).map (i::·)|_=>aw
noncomputable def gV:List V->Option (List (List Nat))
 |[]=>ac []|.str s::r=>(gV r).map (s::·)|_=>aw
noncomputable def jV(d:Nat):List Nat->Option Nat
 |[]=>aw|x::r=>if x=d then ac 0 else(jV d r).map (· +1)
noncomputable def lV(e:Nat)(s:List Nat)(d:Nat):Int:=match jV e (s.drop d)with
 |some k=>((k+d:Nat):Int)|Option.none=>-1
noncomputable def rh(s:List Nat)(d:Nat):Nat:=(HW ⟨s.toArray⟩ ⟨[d].toArray⟩).length
noncomputable def wr(d:eI)(x y:Int)(h:H):R V:=match d with
 |.Add=>.ok (.a (x+y)) h|.Sub=>.ok (.a (x-y)) h|.Mod=>if 0<y&&y<1000 then .ok (.a (x.fmod y)) h else .i
 |.FloorDiv=>if 0<y&&y<1000 then .ok (.a (x.fdiv y)) h else .i
 |_=>.i
noncomputable def xu(d:eI)(x y:List Nat)(h:H):R V:=match d with
 |.Add=>if x.length+y.length<=big then .ok (.str (x++y)) h else .i
 |_=>.i
noncomputable def yU(h:H)(d e:List V):R V:=if d.length+e.length<=big then .ok (.obj h.length) (h++[.list (d++e)])else .i
noncomputable def hX(k:List V->R V):Option O->R V
 |some (.list d)=>k d|_=>.i
noncomputable def yV(d:eI)(h:H)(x y:Option O):R V:=match d with
 |.Add=>hX (λe=>hX (yU h e) y) x|_=>.i
noncomputable def Wb(d:eI)(x:Int)(h:H):V->R V
 |.a y=>wr d x y h|_=>.i
noncomputable def We(d:eI)(x:List Nat)(h:H):V->R V
 |.str y=>xu d x y h|_=>.i
noncomputable def Wc(d:eI)(x:Option O)(h:H):V->R V
 |.obj j=>yV d h x h[j]?|_=>.i
noncomputable def bZ(d:eI)(f e:V)(h:H):R V:=match f with
 |.a x=>Wb d x h e|.str x=>We d x h e|.obj i=>Wc d h[i]? h e|_=>.i
noncomputable def js(e:eI)(d f:V)(h:H):R V:=match d with
 |.obj _=>.i|d=>bZ e d f h
noncomputable def FO:Option O->Option (List V)
 |some (.list d)=>ac d|_=>aw
noncomputable def Bc(x y:Option O):Option Bool:=(FO x).bind λd=>(FO y).bind λe=>if d.all (bQ 7)&&e.all (bQ 7)then ac (mC d e)else aw
noncomputable def aC3(h:H)(x:Option O):V->Option Bool
 |.obj j=>Bc x h[j]?|_=>aw
noncomputable def gj(h:H)(d e:V):Option Bool:=
 match d with
 |.obj i=>aC3 h h[i]? e|d=>if bQ 8 d&&bQ 8 e then ac (iM d e)else aw
noncomputable def jy:V->Option Bool
 |.none=>ac af|.m (.ref _)=>ac ag|.m _=>aw|_=>ac ag
noncomputable def wt(d:V):V->Option Bool
 |.none=>jy d|_=>aw
noncomputable def sQ(f:Int->Int->Bool):V->V->Option Bool
 |.a x,.a y=>ac (f x y)|_,_=>aw
noncomputable def Lb(s:List Nat):V->Option Bool
 |.str [d]=>ac (s.contains d)|_=>aw
noncomputable def Fu(d:List (List Nat×V)):V->Option Bool
 |.str k=>ac (dJ d k).isSome|_=>aw
noncomputable def qU(d:V):Option O->Option Bool
 |some (.list e)=>lA d e|some (.dict f _)=>Fu f d|_=>aw
noncomputable def nv(d:V)(h:H):V->Option Bool
 |.tup e=>lA d e|.str s=>Lb s d|.obj i=>qU d h[i]?|_=>aw
noncomputable def aQ(f:gv)(d e:V)(h:H):Option Bool:=
 match f with
 |.Lt=>sQ (λx y=>bf (x<y)) d e|.LtE=>sQ (λx y=>bf (x<=y)) d e|.Gt=>sQ (λx y=>bf (y<x)) d e|.GtE=>sQ (λx y=>bf (y<=x)) d e|.Is=>wt d e|.IsNot=>(wt d e).map (!·)|.Eq=>gj h d e|.NotEq=>(gj h d e).map (!·)|.In=>nv d h e|.NotIn=>(nv d h e).map (!·)
noncomputable def iv(e:gv)(f d:V)(h:H):R V:=match aQ e f d h with
 |some d=>.ok (.j d) h|Option.none=>.i
noncomputable def aZ.bears(P:aZ)(x:Bool)(C:aj)(n:List Nat):Bool:=match P.cls C with
 |some d=>d.isExc==x&&d.attrs.contains n|Option.none=>ag
noncomputable def hO(d:List (List Nat×V))(n:List Nat):Option V:=match dJ d n with
 |some (.m _)=>aw|r=>r
noncomputable def dH(P:aZ)(h:H)(v:V)(n:List Nat):Option V:=match v with
 |.obj i=>match h[i]? with
  |some (.inst C d)=>match P.bears ag C n,h[d]? with
   |true,ac (.ns e)=>hO e n|_,_=>aw
  |some (.exc C (ac d) _)=>match P.bears af C n,h[d]? with
   |true,ac (.ns e)=>hO e n|_,_=>aw
  |_=>aw
 |_=>aw
noncomputable def cN:Nat:=500
noncomputable def dN(P:aZ)(h:H)(v:V)(n:List Nat)(x:V):Option H:=match v with
 |.obj i=>match h[i]? with
  |some (.inst C d)=>match P.bears ag C n,h[d]? with
   |true,ac (.ns e)=>if e.length<cN then ac (h.set d (.ns (cL e n x)))else aw
   |_,_=>aw
  |some (.exc C (ac d) _)=>match P.bears af C n,h[d]? with
   |true,ac (.ns e)=>if e.length<cN then ac (h.set d (.ns (cL e n x)))else aw
   |_,_=>aw
  |some (.exc C aw f)=>if P.bears af C n then ac ((h.set i (.exc C (ac h.length) f))++[.ns [(n,x)]])else aw
  |_=>aw
 |_=>aw
noncomputable def cH(h:H)(o i:V):Option V:=match o,i with
 |.str s,.a k=>if 0<=k then(s[k.toNat]?).map λf=>.str [f]else aw
 |.tup d,.a k=>if 0<=k then d[k.toNat]? else aw
 |.obj e,.a k=>match h[e]? with
  |some (.list d)=>if 0<=k then d[k.toNat]? else if 0<=k+d.length then d[(k+d.length).toNat]? else aw
  |_=>aw
 |.obj e,.str k=>match h[e]? with
  |some (.dict g m)=>dJ g k|_=>aw
 |_,_=>aw
noncomputable def ja:Option V->Option (Option Int)
 |Option.none=>ac aw|some (.a i)=>ac (ac i)|_=>aw
noncomputable def xp(h:H)(l u:Option Int):V->R V
 |.str s=>.ok (.str (ct s (l.elim 0 (cg s.length)) (u.elim s.length (cg s.length)))) h|.obj e=>match h[e]? with
  |some (.list d)=>.ok (.obj h.length) (h++[.list (ct d (l.elim 0 (cg d.length)) (u.elim d.length (cg d.length)))])|_=>.i
 |_=>.i
noncomputable def dU(h:H)(o:V)(d e:Option V):R V:=match ja d with
 |some l=>match ja e with
  |some u=>xp h l u o|Option.none=>.i
 |Option.none=>.i
noncomputable def AB(b:aj->Option (List Int)):V->Option (List Int)
 |.m (.ref d)=>b d|_=>aw
noncomputable def xd(h:H)(s:List Nat):List V->R V
 |[.str [d]]=>.ok (.a (lV d s 0)) h|[.str [d],.a e]=>if 0<=e&&e<=s.length then .ok (.a (lV d s e.toNat)) h else .i
 |_=>.i
noncomputable def xe(h:H)(s:List Nat):List V->R V
 |[.str p]=>.ok (.j (p.isPrefixOf s)) h|_=>.i
noncomputable def uc(h:H)(s:List Nat):List V->R V
 |[.obj i]=>match h[i]? with
  |some (.list d)=>match gV d with
   |some l=>if s=[]&&l.flatten.length<=big&&l.length<=big then .ok (.str l.flatten) h else .i
   |Option.none=>.i
  |_=>.i
 |_=>.i
noncomputable def pq(h:H)(s:List Nat)(n:List Nat)(d:List V):R V:=
 if n=nm "find"then xd h s d else if n=nm "startswith"then xe h s d else if n=nm "join"then uc h s d else .i
noncomputable def tG(h:H)(i:Nat)(d:List V):List V->R V
 |[v]=>if d.length<big then .ok .none (h.set i (.list (d++[v])))else .i
 |_=>.i
noncomputable def wG(h:H)(i:Nat)(d:List V):List V->R V
 |[.obj j]=>match h[j]? with
  |some (.list e)=>if i≠j&&d.length+e.length<=big then .ok .none (h.set i (.list (d++e)))else .i
  |_=>.i
 |_=>.i
noncomputable def wH(h:H)(i:Nat)(d:List V):List V->R V
 |[.a 0]=>match d with
  |v::r=>.ok v (h.set i (.list r))|[]=>.i
 |_=>.i
noncomputable def ml(h:H)(i:Nat)(d:List V)(n:List Nat)(e:List V):R V:=
 if n=nm "append"then tG h i d e else if n=nm "extend"then wG h i d e else if n=nm "pop"then wH h i d e else .i
noncomputable def qD(h:H)(i:Nat)(d:List (List Nat×V)):List V->R V
 |[.str k,.none]=>match dJ d k with
  |some v=>.ok v (h.set i (.dict (oR d k) aw))|Option.none=>.ok .none h
 |_=>.i
noncomputable def Ai(h:H)(i:Nat)(d:List (List Nat×V))(m:Option Nat)(n:List Nat)(e:List V):R V:=if n=nm "pop"then qD h i d e else .i
noncomputable def rt(h:H)(i:Nat)(f:List V->R V):R V:=match h[i]? with
 |some (.list d)=>f d|_=>.i
noncomputable def oG(h:H):List V->R V
 |[.str s]=>.ok (.a s.length) h|[.obj i]=>match h[i]? with
  |some (.list d)=>.ok (.a d.length) h|_=>.i
 |_=>.i
noncomputable def qw(h:H):List V->R V
 |[.str [d]]=>.ok (.a d) h|_=>.i
noncomputable def vR(a:Option Nat)(h:H):List V->R V
 |[.obj i]=>match h[i]? with
  |some (.list d)=>match mc d with
   |some e=>if a.isSome then .i else .ok (.a e.sum) h
   |Option.none=>.i
  |_=>.i
 |_=>.i
noncomputable def sH(P:aZ)(h:H)(d:ah):V->R V
 |.str _=>match d with
  |.ref C=>if(P.cls C).any (!·.isExc)then .ok (.j ag) h else .i
  |_=>.i
 |.m f=>match f with
  |.ref f=>if bf (d=.type "tuple")&&(P.fn f).isSome then .ok (.j ag) h else .i
  |_=>.i
 |.tup _=>if d=.type "tuple"then .ok (.j af) h else .i
 |_=>.i
noncomputable def sI(P:aZ)(h:H):List V->R V
 |[x,.m d]=>sH P h d x|_=>.i
noncomputable def qx(h:H):List V->R V
 |[.a i]=>if 0<=i&&i<10 then .ok (.str [48+i.toNat]) h else .i
 |_=>.i
noncomputable def qy(h:H):List V->R V
 |[.obj i]=>match h[i]? with
  |some (.list d)=>.ok (.tup d) h|_=>.i
 |_=>.i
noncomputable def gO(h:H)(n:List Nat):List V->R V
 |.str s::d=>pq h s n d|_=>.i
noncomputable def kL(h:H)(n:List Nat):List V->R V
 |.obj i::d=>rt h i λe=>ml h i e n d|_=>.i
noncomputable def vQ(h:H):List V->R V
 |.obj i::d=>match h[i]? with
  |some (.dict e m)=>Ai h i e m (nm "pop") d|_=>.i
 |_=>.i
noncomputable def qt(P:aZ)(h:H):List V->R V
 |[.obj i,.str _]=>match h[i]? with
  |some (.exc C _ _)=>if(P.cls C).any (·.isExc)then .ok .none h else .i
  |_=>.i
 |_=>.i
noncomputable def Ju(P:aZ)(a:Option Nat)(h:H)(d:List V):List (ah×R V):=[(.builtin "len",oG h d),(.builtin "ord",qw h d),(.builtin "sum",vR a h d),(.builtin "isinstance",sI P h d),(.type "str",qx h d),(.type "tuple",qy h d),
 (.builtin "str.find",gO h (nm "find") d),(.builtin "str.startswith",gO h (nm "startswith") d),(.builtin "str.join",gO h (nm "join") d),
 (.builtin "list.append",kL h (nm "append") d),(.builtin "list.extend",kL h (nm "extend") d),(.builtin "list.pop",kL h (nm "pop") d),(.builtin "dict.pop",vQ h d),(.builtin "Exception.__init__",qt P h d)]
noncomputable def dX(P:aZ)(a:Option Nat)(h:H)(f:ah)(d:List V):R V:=((Ju P a h d).lookup f).getD .i
noncomputable abbrev bc:=V->List V->Option Nat->H->R V
section
variable(P:aZ)(b:aj->Option (List Int))(C:bc)(a:Option Nat)
noncomputable def Bf(v:V)(n:List Nat):Option (ah×List V):=if n=nm "find"then ac (.builtin "str.find",[v])else if n=nm "startswith"then ac (.builtin "str.startswith",[v])else if n=nm "join"then ac (.builtin "str.join",[v])else aw
noncomputable def Be(v:V)(n:List Nat):Option (ah×List V):=if n=nm "append"then ac (.builtin "list.append",[v])else if n=nm "extend"then ac (.builtin "list.extend",[v])else if n=nm "pop"then ac (.builtin "list.pop",[v])else aw
noncomputable def FQ(v:V)(n:List Nat):Option (ah×List V):=if n=nm "pop"then ac (.builtin "dict.pop",[v])else aw
noncomputable def Bd(v:V)(n:List Nat)(d:Cl):Option O->Option (ah×List V)
 |some (.ns e)=>if(dJ e n).isSome then aw else(d.meths.lookup n).bind λf=>if d.isExc then aw else ac (f,[v])
 |_=>aw
noncomputable def wO(P:aZ)(v:V)(n:List Nat)(h:H):Option O->Option (ah×List V)
 |some (.list _)=>Be v n|some (.dict _ _)=>FQ v n|some (.inst e d)=>(P.cls e).bind λf=>Bd v n f h[d]?|_=>aw
noncomputable def Oq(P:aZ)(n:List Nat):ah->Option (ah×List V)
 |.ref e=>(P.cls e).bind λd=>if n=nm "__init__"&&!d.isExc then ac (d.init,[])else aw
 |.type t=>if t="Exception"then if n=nm "__init__"then ac (.builtin "Exception.__init__",[])else aw else aw
 |_=>aw
noncomputable def fV(v:V)(n:List Nat)(h:H):Option (ah×List V):=match v with
 |.str _=>Bf v n|.obj i=>wO P v n h h[i]?|.m k=>Oq P n k|_=>aw
noncomputable def dY(f:av->H->R V)(x:Nat)(e:av)(i d:Nat):Nat->Nat->H->R V
 |0,_,_=>.i|n+1,k,h=>match h[i]? with
  |some (.list j)=>match j[k]? with
   |some v=>(f (e.set x (ac v)) h).bind λw h=>match h[d]? with
    |some (.list g)=>if g.length<big then dY f x e i d n (k+1) (h.set d (.list (g++[w])))else .i
    |_=>.i
   |Option.none=>.ok (.obj d) h
  |_=>.i
noncomputable def pg{d:Type}:R d->R d
 |.exc ..=>.i|r=>r
noncomputable def oP(f:av->H->R V)(x:Nat)(d:av)(s:V)(h:H):R V:=match s with
 |.obj i=>match h[i]? with
  |some (.list e)=>pg (dY f x d i h.length (e.length+1) 0 (h++[.list []]))|_=>.i
 |_=>.i
mutual
noncomputable def ev(g:av):Ex->H->R V
 |.none,h=>.ok .none h|.j p,h=>.ok (.j p) h|.a i,h=>.ok (.a i) h|.str s,h=>.ok (.str s) h|.loc i,h=>match g[i]? with
  |some (ac v)=>.ok v h|_=>.i
 |.a1 v,h=>.ok (.m v) h|.attr e n,h=>(ev g e h).bind λv h=>match dH P h v n with
  |some x=>.ok x h|Option.none=>.i
 |.b0 f z,h=>(ev g f h).bind λB h=>(fD g z h).bind λq h=>C B q a h|.c3 o n z,h=>(ev g o h).bind λD h=>match fV P D n h with
  |some (f,E)=>(fD g z h).bind λq h=>C (.m f) (E++q) a h|Option.none=>.i
 |.d2 w l r,h=>(ev g l h).bind λj h=>(ev g r h).bind λp h=>bZ w j p h|.f0 e,h=>(ev g e h).bind λj h=>match j with
  |.a i=>.ok (.a (-i)) h|_=>.i
 |.f1 e,h=>(ev g e h).bind λj h=>match aA h j with
  |some p=>.ok (.j !p) h|Option.none=>.i
 |.Q l w r,h=>(ev g l h).bind λj h=>(ev g r h).bind λp h=>iv w j p h|.f6 l w m F r,h=>(ev g l h).bind λj h=>(ev g m h).bind λp h=>(iv w j p h).bind λt h=>match t with
  |.j af=>(ev g r h).bind λd h=>iv F p d h|t=>.ok t h
 |.d6 w y,h=>qG g w y h|.E t j p,h=>(ev g t h).bind λv h=>match aA h v with
  |some af=>ev g j h|some ag=>ev g p h|Option.none=>.i
 |.tup y,h=>(fD g y h).bind λq h=>.ok (.tup q) h|.y y,h=>(fD g y h).bind λq h=>.ok (.obj h.length) (h++[.list q])|.b8 G y,h=>(fD g y (h++[.dict [] (ac 0)])).bind λq I=>iw G h.length q I|.t e i,h=>(ev g e h).bind λo h=>(ev g i h).bind λk h=>match cH h o k with
  |some v=>.ok v h|Option.none=>.i
 |.a7 e A J,h=>(ev g e h).bind λo h=>(Ap g A h).bind λl h=>(Ap g J h).bind λu h=>dU h o l u|.h0 e A L,h=>(ev g e h).bind λo h=>(ev g A h).bind λl h=>(ev g L h).bind λk h=>match AB b o,l,k with
  |some M,.a l,.a k=>if 0<=l&&0<k then .ok (.obj h.length) (h++[.list ((SE M (ac l) aw (ac k)).map .a)])else .i
  |_,_,_=>.i
 |.g0 N x Q,h=>if a.isSome then .i else(ev g Q h).bind λs h=>oP (λg h=>ev g N h) x g s h
 |.h1 e j,h=>(ev g e h).bind λo h=>match o with
  |.str s=>(ev g j h).bind λt h=>match t with
   |.str [t]=>.ok (.a (rh s t)) h|_=>.i
  |_=>.i
noncomputable def fD(d:av):List Ex->H->R (List V)
 |[],h=>.ok [] h|e::r,h=>(ev d e h).bind λv h=>(fD d r h).bind λf h=>.ok (v::f) h
noncomputable def Ap(d:av):Option Ex->H->R (Option V)
 |Option.none,h=>.ok aw h|some e,h=>(ev d e h).bind λv h=>.ok (ac v) h
noncomputable def qG(d:av)(f:mG):List Ex->H->R V
 |[],_=>.i|e::r,h=>(ev d e h).bind λv h=>match r with
  |[]=>.ok v h|_::_=>match f,aA h v with
   |.And,ac ag=>.ok v h|.Or,ac af=>.ok v h|.And,ac af=>qG d f r h|.Or,ac ag=>qG d f r h|_,aw=>.i
end
noncomputable abbrev X:=Option (Fl×av×H)
noncomputable def ki(i:Nat)(h:H):Option H:=match a with
 |Option.none=>ac h|some j=>if i=j then ac h else match h[j]?,h[i]? with
  |some (.exc _ _ ag),ac (.exc e d _)=>ac (h.set i (.exc e d af))|_,_=>aw
noncomputable def dQ(a:Option Nat)(h:H):Bool:=match a with
 |Option.none=>af|some j=>match h[j]? with
  |some (.exc _ _ ag)=>af|_=>ag
noncomputable def aO{d:Type}(r:R d)(e:av)(k:d->H->X):X:=match r with
 |.ok f h=>k f h|.exc i h=>ac (.exc i,e,h)|.i=>aw
noncomputable def fY:List Nat->List V->av->Option av
 |[],[],d=>ac d|i::e,v::f,d=>fY e f (d.set i (ac v))|_,_,_=>aw
noncomputable def py(e:av->H->R V)(f:av->H->X):Nat->av->H->X
 |0,_,_=>aw|n+1,d,h=>aO (e d h) d λv h=>match aA h v with
  |some af=>match f d h with
   |some (.next,d,h)=>py e f n d h|some (.a5,d,h)=>py e f n d h|some (.a3,d,h)=>ac (.next,d,h)|r=>r
  |some ag=>ac (.next,d,h)|Option.none=>aw
noncomputable def gP(e:H->Bool)(f:V->av->H->X):List V->av->H->X
 |[],d,h=>if e h then ac (.next,d,h)else aw
 |v::r,d,h=>if e h then match f v d h with
   |some (.next,d,h)=>gP e f r d h|some (.a5,d,h)=>gP e f r d h|some (.a3,d,h)=>ac (.next,d,h)|x=>x
  else aw
noncomputable def qO(i:Nat)(e:Nat->V->av->H->X):Nat->Nat->av->H->X
 |0,_,_,_=>aw|n+1,k,d,h=>match h[i]? with
  |some (.list f)=>match f[k]? with
   |some v=>match e k v d h with
    |some (.next,d,h)=>qO i e n (k+1) d h|some (.a5,d,h)=>qO i e n (k+1) d h|some (.a3,d,h)=>ac (.next,d,h)|x=>x
   |Option.none=>ac (.next,d,h)
  |_=>aw
noncomputable def keysOf(d:List (List Nat×V)):List V:=d.map λp=>.str p.1
noncomputable def mW(i:Nat)(m:Nat)(d:List (List Nat))(h:H):Bool:=match h[i]? with
 |some (.dict e (ac n))=>n==m&&e.map (·.1)==d&&d.all fc|_=>ag
noncomputable def lz(e:ah)(x:Option Nat)(r:X)(k:av->H->Option Nat->X):X:=match r with
 |some (.exc i,d,h)=>match h[i]?,e with
  |some (.exc C _ _),.ref e=>if C=e&&(P.cls C).any (·.isExc)then(match x with
   |Option.none=>k d h (ac i)|some x=>match k (d.set x (ac (.obj i))) h (ac i)with
    |some (f,d,h)=>ac (f,d.map λg=>aw,h)|Option.none=>aw)else aw
  |_,_=>aw
 |r=>r
noncomputable def uv(a:Option Nat)(r:X)(k:av->H->Option Nat->X):X:=match r with
 |some (.exc i,d,h)=>match k d h (ac i)with
  |some (.next,d,h)=>ac (.exc i,d,h)|_=>aw
 |some (f,d,h)=>match k d h a with
  |some (.next,d,h)=>ac (f,d,h)|_=>aw
 |Option.none=>aw
variable(c:Nat)
mutual
noncomputable def bX:St->av->H->Option Nat->X
 |.q i e,d,h,a=>aO (ev P b C a d e h) d λv h=>ac (.next,d.set i (ac v),h)|.a8 t e,d,h,a=>aO (ev P b C a d e h) d λv h=>match v with
  |.tup q=>if dQ a h then(fY t q d).map λd=>(.next,d,h)else aw
  |_=>aw
 |.Z o n e,d,h,a=>aO (ev P b C a d e h) d λv h=>aO (ev P b C a d o h) d λg h=>
  (dN P h g n v).map λh=>(.next,d,h)
 |.e4 o i e,d,h,a=>aO (ev P b C a d e h) d λv h=>aO (ev P b C a d o h) d λg h=>aO (ev P b C a d i h) d λk h=>
  match g,k with
  |.obj p,.str k=>match h[p]? with
   |some (.dict j m)=>if j.length<cN then ac (.next,d,h.set p (.dict (cL j k v) aw))else aw
   |_=>aw
  |_,_=>aw
 |.a6 i r e,d,h,a=>match d[i]? with
  |some (ac s)=>aO (ev P b C a d e h) d λv h=>aO (js r s v h) d λv h=>ac (.next,d.set i (ac v),h)|_=>aw
 |.e1 o n r e,d,h,a=>aO (ev P b C a d o h) d λg h=>match dH P h g n with
  |some s=>aO (ev P b C a d e h) d λv h=>match s,v with
   |.a x,.a y=>aO (bZ r (.a x) (.a y) h) d λv h=>(dN P h g n v).map λh=>(.next,d,h)|_,_=>aw
  |Option.none=>aw
 |.E l p f,d,h,a=>aO (ev P b C a d l h) d λv h=>match aA h v with
  |some af=>aJ p d h a|some ag=>aJ f d h a|Option.none=>aw
 |.a9 l f,d,h,a=>py (λd h=>ev P b C a d l h) (λd h=>aJ f d h a) c d h|.f2 x e f,d,h,a=>if a.isSome then aw else aO (ev P b C a d e h) d λv h=>match v with
  |.tup q=>gP (λz=>af) (λv d h=>aJ f (d.set x (ac v)) h a) q d h|.obj i=>match h[i]? with
   |some (.dict j (ac m))=>gP (mW i m (j.map (·.1))) (λv d h=>aJ f (d.set x (ac v)) h a) (keysOf j) d h|_=>aw
  |_=>aw
 |.g1 x e f,d,h,a=>if a.isSome then aw else aO (ev P b C a d e h) d λv h=>match v with
  |.a n=>if 0<=n&&n<1000 then gP (λz=>af) (λv d h=>aJ f (d.set x (ac v)) h a) ((ek n.toNat).map λ(k:Nat)=>V.a (k:Int)) d h else aw
  |_=>aw
 |.f3 x y e f,d,h,a=>if a.isSome then aw else aO (ev P b C a d e h) d λv h=>match v with
  |.obj i=>qO i (λk v d h=>aJ f ((d.set x (ac (.a k))).set y (ac v)) h a) c 0 d h|_=>aw
 |.B e,d,h,a=>match e with
  |Option.none=>ac (.B .none,d,h)|some e=>aO (ev P b C a d e h) d λv h=>ac (.B v,d,h)
 |.b3 e,d,h,a=>aO (ev P b C a d e h) d λv h=>match v with
  |.obj i=>match h[i]? with
   |some (.exc C _ _)=>if(P.cls C).any (·.isExc)then(ki a i h).map λh=>(.exc i,d,h)else aw
   |_=>aw
  |_=>aw
 |.c6 f l x u,d,h,a=>lz P l x (aJ f d h a) λd h a=>aJ u d h a|.f7 f w,d,h,a=>uv a (aJ f d h a) λd h a=>aJ w d h a|.d7 e,d,h,a=>aO (ev P b C a d e h) d λz h=>ac (.next,d,h)|.b9,d,h,_=>ac (.next,d,h)|.a3,d,h,_=>ac (.a3,d,h)|.a5,d,h,_=>ac (.a5,d,h)
noncomputable def aJ:List St->av->H->Option Nat->X
 |[],d,h,_=>ac (.next,d,h)|s::r,d,h,a=>match bX s d h a with
  |some (.next,d,h)=>aJ r d h a|x=>x
end
end
noncomputable def fS(F:Fn)(d:List V):Option av:=
 if d.length<=F.c4&&F.c4<=d.length+F.c5.length then
  ac ((d++F.c5.drop (F.c5.length-(F.c4-d.length))).map ac++pI (F.h2-F.c4) aw)
 else aw
noncomputable def gQ(i:Nat)(v:V)(h:H):R V:=match v with
 |.none=>.ok (.obj i) h|_=>.i
noncomputable def call(P:aZ)(b:aj->Option (List Int))(c:Nat):Nat->bc
 |0,_,_,_,_=>.i|n+1,f,d,a,h=>match f with
  |.m (.ref e)=>match P.fn e with
   |some F=>match fS F d with
    |some j=>match aJ P b (call P b c n) c F.body j h a with
     |some (.next,_,h)=>.ok .none h|some (.B v,_,h)=>.ok v h|some (.exc i,_,h)=>.exc i h|_=>.i
    |Option.none=>.i
   |Option.none=>match P.cls e with
    |some g=>if g.isExc then
      (call P b c n (.m g.init) (.obj h.length::d) a (h++[.exc e aw ag])).bind (gQ h.length)
     else(call P b c n (.m g.init) (.obj (h.length+1)::d) a (h++[.ns [],.inst e h.length])).bind (gQ (h.length+1))
    |Option.none=>.i
  |.m k=>dX P a h k d|_=>.i
end
noncomputable abbrev mR:=List (Option (Str×Bool))
noncomputable def xq(x:Str):mR->Nat->Option Nat
 |[],_=>ae|some (y,_)::r,i=>if y=x then ac i else xq x r (i+1)
 |none::r,i=>xq x r (i+1)
noncomputable def uq(l:mR)(x:Str):Option Nat:=xq x l 0
noncomputable def qA:aY->Option (aY×List aY×List HD×Pos)
 |.Call f a b p=>ac (f,a,b,p)|_=>ae
noncomputable def nx(e:aY):Bool:=match qA e with
 |some (f,[],[],_)=>f.ctorIdx==23|_=>ag
noncomputable def aC8:eI->Bool
 |.Add|.Sub|.Mod|.FloorDiv|.Mult=>af|_=>ag
noncomputable def rG(e:aY):Bool:=e.ctorIdx==22
noncomputable def eW(s:Str):List Nat:=s.cps.toList
structure Cx where
 sc:iT
 lay:mR
 gl:List (Str×ah)
noncomputable def Cx.name(c:Cx)(x:Str):Option Ex:=if x=("__debug__":Str)then ae else match c.sc.names.lookup x with
 |some .local|some .cell=>(uq c.lay x).map .loc|some .globalImplicit=>(c.gl.lookup x).map .a1|_=>ae
noncomputable def kW(a:iT)(l:mR)(x:Str)(i:Nat):mR:=(l.zipIdx).map λp=>if p.2=i then ac (x,ag)else match p.1 with
 |some (y,af)=>if a.names.lookup y=ac .free then ac (y,af)else ae
 |_=>ae
noncomputable def Ac(c:Cx)(a:iT)(x:Str):Bool:=a.kind==.function&&c.lay.length !=0&&c.lay.getLast?==ac ae&&a.names.lookup x==ac .local&&c.sc.kind==.function&&
 a.names.all λp=>match p.2 with
  |.cell=>ag|.local=>a.names.lookup p.1==ac .local|.free=>a.names.lookup p.1==ac .free&&c.lay.contains (ac (p.1,af))|_=>af
noncomputable def ug(a:iT):iT:={a with names:=a.names.map λ(n,k)=>if k==.free then(n,.cell)else(n,k)}
noncomputable def Og:aY->Option Const
 |.Constant k _ _=>ac k|_=>ae
noncomputable def QC:Const->Option Str
 |.str s=>ac s|_=>ae
noncomputable def NQ(k:Option aY):Option Str:=k.bind λe=>(Og e).bind QC
noncomputable def oJ:List (Option aY)->Option (List (List Nat))
 |[]=>ac []|k::r=>(NQ k).bind λs=>(oJ r).bind λl=>ac (eW s::l)
noncomputable def iF:aY->Option Str
 |.Name x _=>ac x|_=>ae
noncomputable def iC:Option Ex->Option Nat
 |some (.loc i)=>ac i|_=>ae
noncomputable def mY:Option Ex->Option ah
 |some (.a1 v)=>ac v|_=>ae
noncomputable def AN:List aY->Bool
 |[e]=>match qA e with
  |some (f,[_],[],_)=>f.ctorIdx==20|_=>ag
 |_=>ag
noncomputable def oM(e:aY):Option (Str×aY):=match qA e with
 |some (f,[a],[],_)=>(iF f).map λg=>(g,a)|_=>ae
noncomputable def lsC(c:Cx)(g n:Str)(d q:Pos)(e a:Option Ex)(b:Bool):Option Ex:=if eW n==nm "split"&&!b&&d.endLine==q.line&&mY (c.name g)==ac (.builtin "len")then do return .h1 (<-e) (<-a)else ae
noncomputable def MX(c:Cx)(g:Str)(b:Bool)(a:Option (List Ex)):Option Ex:=if b then ae else do return .b0 (<-c.name g) (<-a)
noncomputable def av3(c:Cx)(g:Str)(b:Bool)(a:Option (List Ex)):Option (Option Ex)->Option Ex
 |some x=>x|none=>MX c g b a
mutual
noncomputable def cE(c:Cx):aY->Option Ex
 |.Constant .none _ _=>ac .none|.Constant (.bool b) _ _=>ac (.j b)|.Constant (.int i) _ _=>ac (.a i)|.Constant (.str s) _ _=>if fc (eW s)then ac (.str (eW s))else ae
 |.Name x _=>c.name x|.Attribute e n _=>if nx e then ae else do return .attr (<-cE c e) (eW n)
 |.Call f h k y=>match k with
  |_::_=>ae|[]=>match f with
   |.Attribute e n p=>if nx e||h.any rG||!(p.endLine==y.line)||!(h.length<30)then ae else do return .c3 (<-cE c e) (eW n) (<-gE c h)
   |.Name g _=>av3 c g (h.any rG) (gE c h) (match h with
    |[x]=>match x with
     |.Call f z A q=>match f with
      |.Attribute e n p=>match z,A with
       |[a],[]=>ac (lsC c g n p q (cE c e) (cE c a) (nx e||rG a))|_,_=>ae
      |_=>ae
     |_=>ae
    |_=>ae)
   |_=>ae
 |.BinOp l j r _=>if aC8 j then do return .d2 j (<-cE c l) (<-cE c r)else ae
 |.UnaryOp .Not e _=>do return .f1 (<-cE c e)
 |.UnaryOp .USub e _=>do return .f0 (<-cE c e)
 |.Compare l [j] [r] _=>do return .Q (<-cE c l) j (<-cE c r)
 |.Compare l [j,B] [m,r] _=>do return .f6 (<-cE c l) j (<-cE c m) B (<-cE c r)
 |.BoolOp j d _=>do return .d6 j (<-gE c d)
 |.IfExp t a b _=>do return .E (<-cE c t) (<-cE c a) (<-cE c b)
 |.Tuple d _ _=>if d.any rG||1000<d.length then ae else do return .tup (<-gE c d)
 |.List d _=>if d.any rG||1000<d.length then ae else do return .y (<-gE c d)
 |.Dict k d _=>if k.length=d.length&&d.length<=15 then do return .b8 (<-oJ k) (<-gE c d)else ae
 |.Subscript e i _=>match i with
  |.Slice o w u _=>match u with
   |none=>do return .a7 (<-cE c e) (<-cO c o) (<-cO c w)
   |some u=>match o,w with
    |some o,ae=>do return .h0 (<-cE c e) (<-cE c o) (<-cE c u)
    |_,_=>ae
  |i=>do return .t (<-cE c e) (<-cE c i)
 |.ListComp C D v _=>match D with
  |[⟨t,E,F,h⟩]=>if F.isEmpty&&h==0 then match iF t with
   |none=>ae|some x=>match uq c.lay x with
    |some _=>ae|none=>if Ac c v x then do
      let s <-cE c E;let e <-cE ⟨ug v,kW v c.lay x (c.lay.length-1),c.gl⟩ C
      return .g0 e (c.lay.length-1) s
     else ae
   else ae
  |_=>ae
 |_=>ae
noncomputable def gE(c:Cx):List aY->Option (List Ex)
 |[]=>ac []|e::r=>do return(<-cE c e)::(<-gE c r)
noncomputable def cO(c:Cx):Option aY->Option (Option Ex)
 |none=>ac ae|some e=>do return ac (<-cE c e)
end
noncomputable def ur(c:Cx):List aY->Option (List Nat)
 |[]=>ac []|e::r=>match iF e with
  |some x=>do return(<-iC (c.name x))::(<-ur c r)
  |none=>ae
noncomputable def nw(e:aY):Bool:=e.ctorIdx==8||e.ctorIdx==9||e.ctorIdx==10
noncomputable def Hc(c:Cx)(x:Str)(p:Pos)(v:aY):Bool:=match v with
 |.ListComp _ _ a b=>c.sc.kind==.function&&c.sc.names.lookup x==ac .local&&p.line==b.line&&!(a.names.any λ(n,k)=>n==x&&(k==.local||k==.cell))|e=>!nw e
noncomputable def oF:eI->Bool
 |.Add|.Sub=>af|_=>ag
noncomputable def BW:aY->Bool
 |.Tuple a _ _=>!(a.all (constantsAlone 8))|e=>!nw e
noncomputable def BY:List aY->Option (Str×Str)
 |[a,b]=>(iF a).bind λx=>(iF b).map λy=>(x,y)|_=>ae
noncomputable def Ek(c:Cx)(q:Option (Str×Str))(g:Str)(e:Option Ex)(b:Option (List St)):Option St:=match q with
 |some (x,y)=>if mY (c.name g)==ac (.type "enumerate")then do return .f3 (<-iC (c.name x)) (<-iC (c.name y)) (<-e) (<-b)else ae
 |none=>ae
noncomputable def MG(c:Cx)(x:Str)(a:aY)(p:Option (Str×aY))(b:Option (List St)):Option St:=match p with
 |some (g,e)=>if mY (c.name g)==ac (.type "range")then do return .g1 (<-iC (c.name x)) (<-cE c e) (<-b)else ae
 |none=>do return .f2 (<-iC (c.name x)) (<-cE c a) (<-b)
noncomputable def BL(c:Cx):Option Str->Option (Option Nat)
 |none=>ac ae|some x=>if c.sc.names.lookup x==ac .local then do return ac (<-iC (c.name x))else ae
noncomputable def BV(c:Cx)(g x:Option Str)(a:Bool)(b d:Option (List St)):Option St:=match g with
 |none=>ae|some g=>if a then ae else do return .c6 (<-b) (<-mY (c.name g)) (<-BL c x) (<-d)
mutual
noncomputable def cS(c:Cx):fO->Option St
 |.Assign d v _=>match d with
  |[t]=>match t with
   |.Name x p=>if Hc c x p v then do return .q (<-iC (c.name x)) (<-cE c v)else ae
   |.Tuple d _ _=>if BW v then(ur c d).bind λk=>if k.Nodup then do return .a8 k (<-cE c v)else ae else ae
   |.Attribute o n _=>if nx o then ae else do return .Z (<-cE c o) (eW n) (<-cE c v)
   |.Subscript o i _=>do return .e4 (<-cE c o) (<-cE c i) (<-cE c v)
   |_=>ae
  |_=>ae
 |.AugAssign t g v _=>match t with
  |.Name x _=>if oF g then do return .a6 (<-iC (c.name x)) g (<-cE c v)else ae
  |.Attribute o n _=>if nx o||!oF g then ae else do return .e1 (<-cE c o) (eW n) g (<-cE c v)
  |_=>ae
 |.If t a b _=>do return .E (<-cE c t) (<-fC c a) (<-fC c b)
 |.While t b o _=>match o with
  |[]=>do return .a9 (<-cE c t) (<-fC c b)
  |_::_=>ae
 |.For t h b o _=>match o with
  |_::_=>ae|[]=>match t with
   |.Name x _=>MG c x h (oM h) (fC c b)|.Tuple d _ _=>(oM h).bind λp=>Ek c (BY d) p.1 (cE c p.2) (fC c b)|_=>ae
 |.Return e _=>match e with
  |none=>ac (.B ae)|some e=>do return .B (ac (<-cE c e))
 |.Raise e f _=>match e,f with
  |some e,ae=>do return .b3 (<-cE c e)
  |_,_=>ae
 |.Try b m o j _=>match o with
  |_::_=>ae|[]=>match m with
   |[]=>if j.isEmpty then ae else do return .f7 (<-fC c b) (<-fC c j)
   |[.ExceptHandler q x l _]=>if j.isEmpty then BV c (q.bind iF) x l.isEmpty (fC c b) (fC c l)else ae
   |_=>ae
 |.Expr e _=>if nw e then ae else do return .d7 (<-cE c e)
 |.Pass _=>ac .b9|.Break _=>ac .a3|.Continue _=>ac .a5|_=>ae
noncomputable def fC(c:Cx):List fO->Option (List St)
 |[]=>ac []|s::r=>do return(<-cS c s)::(<-fC c r)
end
noncomputable def gS(c:pA)(a:iT):mR:=
 let b:=c.args.map (·.arg);let d:=(a.names.filter λp=>(p.2==.local||p.2==.cell)&&!b.contains p.1).map (·.1)
 (b++d).map (λx=>ac (x,a.names.lookup x==ac .cell))++[ae]
noncomputable def cF(d:List (Str×ah))(a:pA)(e:List fO)(c:iT)(f:List V):Option Fn:=do
 let l:=gS a c;let b <-fC ⟨c,l,d⟩ e
 return{c4:=a.args.length,h2:=l.length,c5:=f,body:=b}
end
section
set_option backward.match.sparseCases true
set_option tactic.hygienic false
open PySem PySem.W PyProof.Rows
section
noncomputable abbrev sv(s:List Nat):Str:=⟨s.toArray⟩
mutual
noncomputable def VR(a:List aj)(k:aS):V->ah->Prop
 |.none,v=>v=.none|.j m,v=>v=.bool m|.a i,v=>∃t,v=.int i t|.str s,v=>fc s=af/\∃t,v=.str (sv s) t|.tup e,v=>e.length<=big/\∃j l n,v=.ref j/\k.get? j=ac {cls:=.type "tuple",data:=.seq l n}/\aI a k e l.toList|.obj i,v=>∃j,a[i]?=ac j/\v=.ref j|.m o,v=>v=o
noncomputable def aI(a:List aj)(i:aS):List V->List ah->Prop
 |[],l=>l=[]|x::j,l=>∃v r,l=v::r/\VR a i x v/\aI a i j r
end
structure Wd where
 prog:pR
 w:gx
 base:aS
 gens:Array Hy
 os:pQ
 e5:Drawn
 main:∃o,base.get? 3=ac o
def fo(a:List aj)(i:aS)(c:List (List Nat×V))(f:List (Str×ah)):Prop:=
 f.map (·.1)=c.map (λp=>sv p.1)/\aI a i (c.map (·.2)) (f.map (·.2))
def gB(a:List aj)(i:aS)(c:List (List Nat×V))(m:Str->Option ah):Prop:=
 CG m (c.map λp=>sv p.1)/\∀k,match c.lookup k with
  |none=>m (sv k)=ae|some v=>∃x,m (sv k)=ac x/\VR a i v x
def dC(j:aS)(T:aj):Prop:=∃o i,j.get? T=ac o/\o.cls=.type "traceback"/\o.data=.fields i/\3<i.size
noncomputable def OR(D:Wd)(a:List aj)(j:aS):O->aj->Prop
 |.list e,i=>e.length<=big/\∃q n,j.get? i=ac {cls:=.type "list",data:=.seq q n}/\aI a j e q.toList|.dict c n,i=>c.length<=cN/\∃f r,j.DictAt (ot D.prog D.w) i f r/\fo a j c f/\(∀m,n=ac m->r=m)/\i≠Tm|.ns c,i=>c.length<=cN/\∃m,j.Ns1 i m/\gB a j c m|.inst C k,i=>∃l,a[k]?=ac l/\j.get? i=ac {cls:=.ref C,dict:=ac l,data:=.plain}|.exc C k t,i=>∃o e,j.get? i=ac {cls:=.ref C,dict:=o,data:=.fields e}/\e.size=6/\
   (match k with|none=>o=ae|some k=>∃l,a[k]?=ac l/\o=ac l)/\
   (∃p,e[1]?=ac p/\(p=.none\/∃T,p=.ref T/\D.base.get? T=ae/\dC j T))/\
   (∃s,e[2]?=ac s/\(t=ag->s=.none))
def oy(a:List aj)(h b:aS):Prop:=∀i o,h.get? i=ac o->i∉a->
 (∃k,o.cls=.type "traceback"/\o.data=.fields k/\dC b i)\/(∃j,b.get? i=ac {o with slots:=j}/\((∃c n,o.data=.dict c n)\/j=o.slots))
def Tr(h:aS)(i:aj):Prop:=∃o e T,h.get? i=ac o/\o.data=.fields e/\e[1]?=ac (.ref T)
theorem Tr.keep(k:∀o,h.get? i=ac o->b.get? i=ac o)(x:Tr h i):Tr b i:=let⟨o,e,T,j,r⟩:=x;(kQ o e T (k o j) r)
structure bq(a:List aj)(h:aS)(d:List aj)(b:aS):Prop where
 pre:a<+:d
 new:∀i∈d,i∉a->h.get? i=ae
 kept:oy a h b
 tr:∀i∈a,Tr h i->Tr b i
theorem oy.b5(a:List aj)(h:aS):oy a h h:=λj o i k=>.inr (al o.slots i (.inr rfl))
theorem oy.c0(k:∀i o,h.get? i=ac o->b.get? i=ac o):oy a h b:=λi o j l=>.inr (al o.slots (k i o j) (.inr rfl))
theorem bq.b5(a:List aj)(h:aS):bq a h a h:=⟨uT _,λk i j=>absurd i j,.b5 _ _,λk k x=>x⟩
theorem bq.c0(k:∀i o,h.get? i=ac o->b.get? i=ac o):bq a h a b:=⟨uT _,λl j i=>absurd j i,.c0 k,λj l x=>x.keep (k j)⟩
theorem dC.kept(k:oy a h b)(n:T∉a)(x:dC h T):dC b T:=by
 refine ch x λo i j l m p=>?_;rcases k T o j n with⟨_,_,_,z⟩|⟨r,q,_⟩
 ·exact z
 ·exact dp _ i q l m p
theorem bq.trans(x:bq a h d b)(y:bq d b C D):bq a h C D:=by
 have E:∀i o,h.get? i=ac o->i∉a->i∉d:=λi o k n q=>by rw[x.new i q n]at k;injection k
 refine⟨x.pre.trans y.pre,λj m n=>?_,λi o k n=>?_,λj m t=>y.tr j (x.pre.subset m) (x.tr j m t)⟩
 ·by_cases q:j∈d
  ·exact x.new j q n
  ·cases z:h.get? j with
   |none=>rfl|some o=>
    rcases x.kept j o z n with⟨_,_,_,⟨M,_,A,_⟩⟩|⟨F,l,_⟩
    ·rw[y.new j m q]at A;injection A
    ·rw[y.new j m q]at l;injection l
 ·have B:=E i o k n;rcases x.kept i o k n with⟨p,r,s,z⟩|⟨F,l,G⟩
  ·exact .inl (br p r s (z.kept y.kept B))
  ·rcases y.kept i _ l B with⟨p,r,s,z⟩|⟨I,J,L⟩
   ·exact .inl (br p r s z)
   ·exact .inr (al I J (by
     rcases G with u|u
     ·exact .inl u
     ·rcases L with w|w
      ·exact .inl w
      ·exact .inr (w.trans u)))
theorem bq.same(x:bq a h d b)(k:h.get? i=ac o)(n:i∉a)(l:∀c n,o.data≠.dict c n)(m:∀j,o.data≠.fields j\/o.cls≠.type "traceback"):b.get? i=ac o:=by
 rcases x.kept i o k n with⟨j,s,t,_⟩|⟨u,p,r⟩
 ·rcases m j with q|q<;>contradiction
 ·rcases r with⟨c,n,q⟩|q
  ·exact absurd q (l _ _)
  ·rw[p,q]
theorem gH{a d:List aj}(p:a<+:d){i:Nat}{j:aj}(k:a[i]?=ac j):d[i]?=ac j:=by
 refine am p λt l=>?_;subst l;rw[gI (List.getElem?_eq_some_iff.mp k).1];exact k
theorem kY{a:List aj}{i:Nat}{j:aj}(k:a[i]?=ac j):j∈a:=bT k
def oA(a:List aj)(h:aS):Prop:=∀i∈a,∀o,h.get? i=ac o->o.cls≠.type "tuple"\/∃c n,o.data=.dict c n
structure Mv(a:List aj)(h:aS)(d:List aj)(b:aS):Prop where
 ix:∀{i:Nat} {j:aj},a[i]?=ac j->d[i]?=ac j
 tup:∀{j:aj} {k:Array ah} {n:Nat},h.get? j=ac {cls:=.type "tuple",data:=.seq k n}->b.get? j=ac {cls:=.type "tuple",data:=.seq k n}
section
variable{a d:List aj}{h b:aS}{v:ah}{e:List ah}{c:List (List Nat×V)}{f:List (Str×ah)}{g:Str->Option ah}
theorem VR.mv(m:Mv a h d b)(j:V):∀{v:ah},VR a h j v->VR d b j v:=
 @V.rec (λj=>∀{v:ah},VR a h j v->VR d b j v) (λo=>∀{e:List ah},aI a h o e->aI d b o e)
  (λi=>i) (λy y i=>i) (λy y i=>i) (λy y i=>i)
  (λy q y i=>jk i λs j t n u p=>Fh s j t n u (m.tup p.1) (q p.2)) (λy y i=>ak i λj k l=>al j (m.ix k) l) (λy y i=>i)
  (λi=>i) (λy y w x y i=>bE i λv r z k l=>bw v r z (w k) (x l)) j
theorem aI.mv(m:Mv a h d b):∀{e:List ah},aI a h i e->aI d b i e:=by
 induction i with
 |nil=>exact id|cons j i k=>exact λl=>bE l λv r z n o=>bw v r z (VR.mv m j n) (k o)
theorem fo.mv(m:Mv a h d b)(i:fo a h c f):fo d b c f:=⟨i.1,i.2.mv m⟩
theorem gB.mv(m:Mv a h d b)(i:gB a h c g):gB d b c g:=
 ⟨i.1,λk=>by
  have z:=i.2 k
  cases q:c.lookup k with
  |none=>rw[q]at z;exact z
  |some v=>rw[q]at z;exact ak z λy j l=>al y j (VR.mv m v l)⟩
theorem bq.mv(x:bq a h d b)(j:oA a h):Mv a h d b:=⟨gH x.pre,λ{k l n} i=>x.same i (λq=>(j k q _ i).elim (λz=>z rfl) λz=>eH z λm m z=>nomatch z) (λm m z=>nomatch z) λm=>.inr λz=>nomatch(bj6 z:"tuple"="traceback")⟩
theorem VR.step(x:bq a h d b)(j:oA a h)(k:VR a h i v):VR d b i v:=VR.mv (x.mv j) i k
theorem aI.step(x:bq a h d b)(i:oA a h)(j:aI a h k e):aI d b k e:=j.mv (x.mv i)
end
def Frames(D:Wd)(a:List aj)(j:aS)(k:List Env):Prop:=∀i∈k,i.scope.kind=.function/\∃L o c n,i.frame=ac L/\L∉a/\D.base.get? L=ae/\j.get? L=ac o/\o.data=.dict c n
structure ay(D:Wd)(l:List Env)(a:List aj)(k:H)(s:az):Prop where
 base:D.base.StaysIn s.heap
 frames:Frames D a s.heap l
 gens:s.gens=D.gens
 os:s.os=D.os
 e5:s.drawn=D.e5
 len:a.length=k.length
 nd:a.Nodup
 fresh:∀j∈a,D.base.get? j=ae
 g2:True
 objs:∀(i:Nat) (o:O) (j:aj),k[i]?=ac o->a[i]?=ac j->OR D a s.heap o j
theorem OR.h3(x:OR D a l o p):∃i,l.get? p=ac i/\((i.cls≠.type "tuple"/\i.cls≠.type "traceback")\/∃c n,i.data=.dict c n):=by
 induction o using O.casesOn with
 |list e=>refine rP x λA s n h A=>?_;exact al _ h (.inl ⟨by simp,by simp⟩)
 |dict c n=>(refine rP x λA f q j A=>?_;refine ch j λo t h u k A=>?_);exact al _ h (.inr (fq _ _ k))
 |ns c=>(refine nR x λA m j A=>?_;refine fi j λo c q h k A=>?_);exact al _ h (.inr (fq _ _ k))
 |inst C r=>refine ak x λw A h=>?_;exact al _ h (.inl ⟨by simp,by simp⟩)
 |exc C r y=>refine cu x λz e h A=>?_;exact al _ h (.inl ⟨by simp,by simp⟩)
theorem ay.at(I:ay D p a j s)(m:l∈a):∃(i:Nat) (o:O),a[i]?=ac l/\j[i]?=ac o/\OR D a s.heap o l:=by
 obtain⟨i,k,rfl⟩:=List.getElem_of_mem m;have n:i<j.length:=I.len▸k;exact bw i (j[i]) (by simp[k]) (by simp[n]) (I.objs i _ _ (by simp[n]) (by simp[k]))
theorem ay.Y(I:ay D n a p s):oA a s.heap:=λq m o j=>by
 refine bE (I.at m) λi x t t z=>?_;refine ak z.h3 λr k l=>?_;rw[k]at j;(injection j with j;subst j);exact l.imp (·.1) id
theorem ay.addr{D:Wd}{n:List Env}{a:List aj}{j:H}{s:az}(I:ay D n a j s){i:Nat}{o:O}(k:j[i]?=ac o):∃l,a[i]?=ac l/\OR D a s.heap o l:=by
 have m:i<a.length:=I.len▸(List.getElem?_eq_some_iff.mp k).1;exact al (a[i]) (by simp[m]) (I.objs i o _ k (by simp[m]))
theorem OR.mv(m:Mv a h d b)(B:∀T,dC h T->dC b T)
  (k:∀A,h.get? r=ac A->b.get? r=ac A) (z:OR D a h o r):OR D d b o r:=by
 induction o using O.casesOn with
 |list e=>exact rP z λl E n i j=>Ff l E n (k _ i) (j.mv m)|dict c n=>exact ba7 z λl f F p q s=>cu p λo G i j=>wo l f F (gF o G (k _ i) j) (q.mv m) s|ns c=>exact nR z λl g i j=>AJ l g (i.at k) (j.mv m)|inst C u=>exact ak z λw i j=>al w (m.ix i) (k _ j)|exc C u N=>
  refine RB z λI e i j q p J=>ak p λt s L=>qT I e (k _ i) j ?_ (al t s (L.imp id λp=>bP p λT x y M=>br T x y (B T M))) J
  cases u with
  |none=>exact q|some u=>exact ak q λw x y=>al w (m.ix x) y
theorem OR.step(x:bq a h d b)(k:oA a h)(l:∀T,dC h T->T∉a)
  (m:∀j,h.get? i=ac j->b.get? i=ac j) (z:OR D a h o i):OR D d b o i:=z.mv (x.mv k) (λT q=>q.kept x.kept (l T q)) m
theorem ay.e2(I:ay D t a u s):∀T,dC s.heap T->T∉a:=λT ⟨o,w,j,k,l,_⟩ m=>by
 refine bE (I.at m) λi x A A z=>?_;refine ak z.h3 λy p r=>?_;rw[p]at j;(injection j with j;subst j);rcases r with q|⟨c,n,q⟩
 ·exact q.2 k
 ·rw[l]at q;injection q
theorem Frames.keeps(t:∀l∈d,l∉a->h.get? l=ae)(k:∀i o,h.get? i=ac o->i∉a->(∃c n,o.data=.dict c n)->∃p,b.get? i=ac {o with slots:=p})(F:Frames D a h u):Frames D d b u:=λw m=>by
 refine uI (F w m) λx L o c n y r z j s=>?_;refine am (k L o j r (fq c n s)) λp A=>?_;exact AL x L _ c n y (λq=>(by rw[t L q r]at j;injection j)) z A s
theorem Frames.fun:∀{j:List Env},Frames D a h j->h.FunFrames D.base j
 |[],_=>trivial|i::r,F=>by
  refine uI (F i (.head _)) λk L o c n l u p s t=>?_;exact dc (by rw[k];decide) (dp L o l p s (λe q=>by rw[t]at q;injection q)) (Frames.fun λi m=>F i (.tail _ m))
theorem Bq:∀{l:List aj},l.Nodup->∀{i j:Nat} {n:aj},l[i]?=ac n->l[j]?=ac n->i=j
 |[],_,_,_,_,p,_=>by simp at p
 |x::l,q,i,j,n,k,m=>by
  have o:=List.nodup_cons.mp q
  cases i with
  |zero=>cases j with
   |zero=>rfl|succ j=>simp at k m;subst k;exact absurd (bT m) o.1
  |succ i=>cases j with
   |zero=>simp at k m;subst m;exact absurd (bT k) o.1
   |succ j=>simp at k m;rw[Bq o.2 k m]
theorem ay.keeps(I:ay D p a q s)(k:∀j o,s.heap.get? j=ac o->m.heap.get? j=ac o)
  (r:m.gens=s.gens) (t:m.os=s.os) (u:m.drawn=s.drawn):ay D p a q m:=
 ⟨λj o l=>k j o (I.base j o l),I.frames.keeps (λz n j=>absurd n j) λj o l z z=>⟨o.slots,k j o l⟩,r.trans I.gens,t.trans I.os,u.trans I.e5,I.len,I.nd,I.fresh,I.g2,
  λi o n w x=>(I.objs i o n w x).step (D:=D) (.c0 k) I.Y I.e2 λy l=>k n y l⟩
theorem ay.alloc{A:Obj}(I:ay D F a B s)(k:∀j o,s.heap.get? j=ac o->t.heap.get? j=ac o)
  (w:s.heap.get? r=ae) (z:OR D (a++[r]) t.heap o r) (G:t.gens=s.gens) (J:t.os=s.os) (L:t.drawn=s.drawn):
  bq a s.heap (a++[r]) t.heap/\ay D F (a++[r]) (B++[o]) t:=by
 have C:bq a s.heap (a++[r]) t.heap:=⟨ij ..,λj m n=>by
  rcases List.mem_append.mp m with q|q
  ·exact absurd q n
  ·rw[List.mem_singleton.mp q];exact w,.c0 k,λj S x=>x.keep (k j)⟩
 have M:r∉a:=λm=>by
  refine bE (I.at m) λi x S S z=>?_;refine ak z.h3 λA l S=>?_;rw[w]at l;injection l
 refine⟨C,λj o p=>k j o (I.base j o p),I.frames.keeps C.new λj o p S S=>⟨o.slots,k j o p⟩,G.trans I.gens,J.trans I.os,L.trans I.e5,by simp[I.len],?_,?_,?_,λi x j l u=>?_⟩
 ·exact List.nodup_append.mpr (dc I.nd (by simp) (λx N y P p=>M (by rw[List.mem_singleton.mp P]at p;exact p▸N)))
 ·intro j m;rcases List.mem_append.mp m with q|q
  ·exact I.fresh j q
  ·rw[List.mem_singleton.mp q]
   cases p:D.base.get? r with
   |none=>rfl|some o=>rw[I.base r o p]at w;injection w
 ·trivial
 ·by_cases E:i<B.length
  ·rw[gI E]at l;rw[gI (I.len▸E)]at u;exact(I.objs i x j l u).step (D:=D) C I.Y I.e2 λA p=>k j A p
  ·have Q:i=B.length:=by
    have:=(List.getElem?_eq_some_iff.mp l).1;simp at this;lia
   subst Q;rw[fM (bI _),gJ]at l;rw[<-I.len,fM (bI _),gJ]at u
   (injection l with l;subst l);(injection u with u;subst u)
   exact z
theorem ay.set{D:Wd}{F:List Env}{a:List aj}{B:H}{s p:az}{j:Nat}{r:aj}{o:O}(I:ay D F a B s)(y:a[j]?=ac r)(A:∀k,k≠r->∀l,s.heap.get? k=ac l->p.heap.get? k=ac l)
  (G:j<B.length) (J:Tr s.heap r->Tr p.heap r)
  (z:bq a s.heap a p.heap->OR D a p.heap o r) (L:p.gens=s.gens) (M:p.os=s.os) (N:p.drawn=s.drawn):
  bq a s.heap a p.heap/\ay D F a (B.set j o) p:=by
 have C:bq a s.heap a p.heap:=⟨uT _,λS m n=>absurd m n,λk l t n=>.inr (al l.slots (A k (λq=>n (q▸kY y)) l t) (.inr rfl)),λk S x=>by
  by_cases q:k=r
  ·subst q;exact J x
  ·exact x.keep (A k q)⟩
 refine⟨C,λk l t=>A k (λq=>by rw[q,I.fresh r (kY y)]at t;injection t) l (I.base k l t),?_,L.trans I.gens,M.trans I.os,N.trans I.e5,by simp[I.len],I.nd,I.fresh,I.g2,λi x k u w=>?_⟩
 ·exact I.frames.keeps (λS r k=>absurd r k) λk l t P S=>⟨l.slots,A k (λq=>P (q▸kY y)) l t⟩
 ·by_cases E:i=j
  ·subst E;rw[y]at w;(injection w with w;subst w);rw[ig G]at u;(injection u with u;subst u);exact z C
  ·rw[fZ (ik E)]at u;have Q:k≠r:=λq=>by
    subst q;exact E (Bq I.nd w y)
   exact(I.objs i x k u w).step (D:=D) C I.Y I.e2 λl t=>A k Q l t
theorem ay.h8{D:Wd}{w:List Env}{a:List aj}{t:H}{s:az}(I:ay D w a t s){i:Nat}{o:O}{q:aj}(x:t[i]?=ac o)(y:a[i]?=ac q)(A:∀C r u,o≠.exc C r u):¬Tr s.heap q:=by
 intro j;refine fi j λF e T l p L=>?_;have z:=I.objs i o q x y
 induction o using O.casesOn with
 |list e=>refine rP z λL G n h L=>?_;rw[l]at h;(injection h with h;subst h);injection p
 |dict c n=>(refine rP z λL f B j L=>?_;refine ch j λo E h L k L=>?_);rw[l]at h;(injection h with h;subst h);rw[p]at k;injection k
 |ns c=>(refine nR z λL m j L=>?_;refine fi j λo E B h k L=>?_);rw[l]at h;(injection h with h;subst h);rw[p]at k;injection k
 |inst C r=>refine ak z λJ L h=>?_;rw[l]at h;(injection h with h;subst h);injection p
 |exc C r u=>exact A _ _ _ rfl
theorem ay.j6(I:ay D i a j s):3<s.heap.objs.size:=by
 refine am D.main λo h=>?_;exact fj (I.base _ _ h)
end
end
section
set_option backward.match.sparseCases true
set_option tactic.hygienic false
open PySem PySem.W PyProof.Rows PySem.Calls
section
noncomputable abbrev Mo(D:Wd):pJ:=gZ D.prog D.w
inductive bo{c d:Type}(l:List aj->aS->c->d->Prop)(r:R c)(D:Wd)(b:List Env)(a:List aj)(h:aS)(v:d)(g:az):Prop
 |mk (j:c) (k:H) (i:List aj) (m:r=.ok j k) (n:bq a h i g.heap) (I:ay D b i k g) (o:l i g.heap j v)
inductive sh(h:H)(a:List aj)(i:Nat)(j:ah):Prop
 |mk (C:aj) (k:Option Nat) (l:Bool) (g:aj) (m:h[i]?=ac (.exc C k l)) (n:a[i]?=ac g) (o:j=.ref g)
inductive bF{c:Type}(r:R c)(D:Wd)(b:List Env)(a:List aj)(h:aS)(l:ah)(k:az):Prop
 |mk (i:Nat) (g:H) (j:List aj) (m:r=.exc i g) (n:bq a h j k.heap) (I:ay D b j g k) (x:sh g j i l)
theorem bo.U{c d:Type}{m:List aj->aS->c->d->Prop}{r:R c}{D:Wd}{b:List Env}{a:List aj}{h:aS}{v:d}{i:az}{G:Prop}(x:bo m r D b a h v i)
  (k:∀j l g,r=.ok j l->bq a h g i.heap->ay D b g l i->m g i.heap j v->G):G:=by
 induction x using bo.casesOn with|mk j l g n o I p=>exact k j l g n o I p
theorem bF.U{c:Type}{r:R c}{D:Wd}{b:List Env}{a:List aj}{h:aS}{m:ah}{l:az}{G:Prop}(x:bF r D b a h m l)
  (k:∀i g j,r=.exc i g->bq a h j l.heap->ay D b j g l->sh g j i m->G):G:=by
 induction x using bF.casesOn with|mk i g j n o I x=>exact k i g j n o I x
theorem sh.U{l:H}{a:List aj}{i:Nat}{m:ah}{G:Prop}(x:sh l a i m)(k:∀C h j g,l[i]?=ac (.exc C h j)->a[i]?=ac g->m=.ref g->G):G:=by
 induction x using sh.casesOn with|mk C h j g n o p=>exact k C h j g n o p
section
variable{c d e f:Type}{D:Wd}{b:List Env}{a:List aj}{A:cB}{s:az}
theorem Rl{t:Sem d}{y:d->Sem e}{r:R c}{k:c->H->R f}{z:List aj->aS->c->d->Prop}{B:List aj->aS->f->e->Prop}
  (C:aB (Mo D) A t (bo z r D b a s.heap) (bF r D b a s.heap) s)
  (E:∀l j g h v,r=.ok l j->bq a s.heap g h.heap->ay D b g j h->z g h.heap l v->aB (Mo D) A (y v) (bo B (k l j) D b g h.heap) (bF (k l j) D b g h.heap) h):
  aB (Mo D) A (t>>=y) (bo B (r.bind k) D b a s.heap) (bF (r.bind k) D b a s.heap) s:=by
 refine aD (bb C (λv h F=>?_) λG h n=>?_)
 ·obtain⟨l,j,g,rfl,m,I,J⟩:=F;refine bb (E l j g h v rfl m I J) (λQ L M=>?_) λG L n=>?_
  ·refine bo.U M λN o p q u w P=>?_;exact⟨N,o,p,q,m.trans u,w,P⟩
  ·refine bF.U n λi o p q u w x=>?_;exact⟨i,o,p,q,m.trans u,w,x⟩
 ·obtain⟨i,j,g,rfl,m,I,x⟩:=n;exact⟨i,j,g,rfl,m,I,x⟩
theorem ba5{t:Sem d}{r:R c}{k:c->H->R f}{y:List aj->aS->c->d->Prop}{z:List aj->aS->f->e->Prop}{Q:e->az->Prop}{E:ah->az->Prop}{B:d->Sem e}
  (C:aB (Mo D) A t (bo y r D b a s.heap) (bF r D b a s.heap) s)
  (F:∀l j h g v,r=.ok l j->bq a s.heap h g.heap->ay D b h j g->y h g.heap l v->aB (Mo D) A (B v) (bo z (k l j) D b h g.heap) (bF (k l j) D b h g.heap) g):
  aB (Mo D) A t (λv g=>aB (Mo D) A (B v) (bo z (r.bind k) D b a s.heap) (bF (r.bind k) D b a s.heap) g) (bF (r.bind k) D b a s.heap) s:=by
 refine bb C (λv g G=>?_) λJ g n=>?_
 ·obtain⟨l,j,h,rfl,m,I,L⟩:=G;refine bb (F l j h g v rfl m I L) (λT M N=>?_) λJ M n=>?_
  ·refine bo.U N λP o p q u w S=>?_;exact⟨P,o,p,q,m.trans u,w,S⟩
  ·refine bF.U n λi o p q u w x=>?_;exact⟨i,o,p,q,m.trans u,w,x⟩
 ·obtain⟨i,j,h,rfl,m,I,x⟩:=n;exact⟨i,j,h,rfl,m,I,x⟩
theorem jF{g:List aj->aS->c->d->Prop}(I:ay D b a h s)(j:g a s.heap i v):bo g (.ok i h) D b a s.heap v s:=
 ⟨i,h,a,rfl,.b5 _ _,I,j⟩
end
theorem ay.i6(I:ay D b a g s):ay D b a g {s with toks:=t}:=
 ⟨I.base,I.frames,I.gens,I.os,I.e5,I.len,I.nd,I.fresh,I.g2,I.objs⟩
noncomputable def UI(D:Wd)(j:Env)(a:List aj)(h:aS)(m:Str->Option ah)(x:Str)(v:V):Bool->Prop
 |false=>∃g,m x=ac g/\VR a h v g|true=>∃i g,j.cells.lookup x=ac i/\h.IsCell i (ac g)/\D.base.get? i=ae/\VR a h v g
structure eV(D:Wd)(j:mR)(g:Env)(a:List aj)(l:av)(k:aS)(m:Str->Option ah):Prop where
 out:g.locals∉a
 new:D.base.get? g.locals=ae
 ns:k.Ns g.locals m
 len:l.length=j.length
 slot:∀(i:Nat) (v:V),l[i]?=ac (ac v)->∀x n,j[i]?=ac (ac (x,n))->UI D g a k m x v n
 cells:∀(i:Nat) x,j[i]?=ac (ac (x,af))->∃h o,g.cells.lookup x=ac h/\k.IsCell h o/\D.base.get? h=ae
 apart:∀x y h,g.cells.lookup x=ac h->g.cells.lookup y=ac h->x=y
theorem Ns.kept{m:Str->Option ah}(k:oy a h j)(n:g∉a)(x:h.Ns g m):j.Ns g m:=by
 refine fi x λo l p t i r=>?_;rcases k g o t n with⟨v,_,q,_⟩|⟨w,u,_⟩
 ·rw[i]at q;injection q
 ·exact lZ _ l p u i r
theorem IM.kept(k:oy a h j)(n:g∉a)(x:h.IsCell g v):j.IsCell g v:=by
 refine ak x λo l i=>?_;rcases k g o l n with⟨p,_,q,_⟩|⟨r,m,_⟩
 ·rw[i]at q;injection q
 ·exact al _ m i
theorem OR.m6(x:OR D a k o l):∃j,k.get? l=ac j/\(∀v,j.data≠.cell v):=by
 induction o using O.casesOn with
 |list p=>refine rP x λF w n h F=>?_;exact al _ h (by simp)
 |dict q n=>(refine rP x λF y r g F=>?_;refine ch g λo t h F i F=>?_);exact al _ h (by rw[i];simp)
 |ns q=>(refine nR x λF m g F=>?_;refine fi g λo t r h i F=>?_);exact al _ h (by rw[i];simp)
 |inst C u=>refine ak x λz F h=>?_;exact al _ h (by simp)
 |exc C u B=>refine cu x λE p h F=>?_;exact al _ h (by simp)
theorem ay.h9(I:ay D b a n s)(x:s.heap.IsCell h v):h∉a:=λm=>by
 refine bE (I.at m) λi o r r z=>?_;refine ak z.m6 λp j k=>?_;refine ak x λq g l=>?_;rw[j]at g;(injection g with g;subst g);exact k _ l
theorem eV.step{m:Str->Option ah}(x:eV D u w a B s.heap m)(I:ay D b a L s)(h:bq a s.heap C E):eV D u w C B E m:=by
 refine⟨λq=>?_,x.new,Ns.kept h.kept x.out x.ns,x.len,λi v k y r F=>?_,λi y k=>?_,x.apart⟩
 ·refine gY x.ns λo M M t M=>?_;rw[h.new _ q x.out]at t;injection t
 ·have z:=x.slot i v k y r F
  cases r with
  |false=>refine ak z λl j g=>?_;exact al l j (g.step h I.Y)
  |true=>refine ch z λn l j g p G=>?_;exact dp n l j (IM.kept h.kept (I.h9 g) g) p (G.step h I.Y)
 ·refine bE (x.cells i y k) λn J j g p=>?_;exact bw n J j (IM.kept h.kept (I.h9 g) g) p
structure Gl(D:Wd)(j:List (Str×ah))(h i:Str->Option ah):Prop where
 g:D.base.Ns kB h
 b:D.base.Ns xZ i
 at_:∀x v,j.lookup x=ac v->h x=ac v\/(h x=ae/\i x=ac v)
 lim:D.base.NoLimit
structure IH(h:Cx)(g:Env)(b:List Env):Prop where
 sc:g.scope=h.sc
 c8:h.sc.kind=.function
 gl:g.globals=kB
 bl:g.builtins=xZ
 j6:∃i r,b=i::r/\g.frame=i.frame
def mP(A:cB)(h:Option Nat)(a:List aj):Prop:=match h with
 |none=>A.handled=ae|some i=>∃g,a[i]?=ac g/\A.handled=ac (.ref g)
structure hB(A:cB)(hd:Option Nat)(b:List Env)(a:List aj):Prop where
 fr:A.frames=ac b
 hd:mP A hd a
def lO(A:cB)(n:Nat):Prop:=A.depth+4*n<=900/\A.units+20*n<=9000
theorem hB.step{A:cB}{g:Option Nat}{b:List Env}{a h:List aj}(x:hB A g b a)(p:a<+:h):hB A g b h:=by
 refine⟨x.fr,?_⟩
 have:=x.hd;unfold mP at this⊢
 cases g with
 |none=>exact this|some i=>refine ak this λj k l=>?_;exact al j (gH p k) l
def vh(D:Wd)(C:bc)(n:Nat):Prop:=∀(A:cB) (g:Option Nat) (b:List Env) (a:List aj) (h:H) (s:az) (i:V) (j:List V) (k:ah) (l:List ah),
 hB A g b a->lO A n->ay D b a h s->VR a s.heap i k->aI a s.heap j l->C i j g h≠.i->
 aB (Mo D) A (eN k l) (bo VR (C i j g h) D b a s.heap) (bF (C i j g h) D b a s.heap) s
theorem aW3:∀{n i:Nat},xq x l n=ac i->∃j h,i=n+j/\l[j]?=ac (ac (x,h)):=by
 induction l with
 |nil=>exact λg=>nomatch g|cons o r m=>
  have k:∀{n i:Nat},xq x r (n+1)=ac i->∃j h,i=n+j/\(o::r)[j]?=ac (ac (x,h)):=λg=>cu (m g) λj h t u=>gF (j+1) h (t.trans (rU ..)) u;intro n i g
  cases o with
  |none=>exact k g|some p=>
   by_cases q:p.1=x
   ·exact gF 0 p.2 ((ax ((if_pos q).symm.trans g)).symm) (by rw[<-q];rfl)
   ·exact k ((if_neg q).symm.trans g)
theorem aW5(h:uq l x=ac i):∃g,l[i]?=ac (ac (x,g)):=
 cu (aW3 h) λj g k m=>⟨g,by rw[k,jo];exact m⟩
def sr(g:Cx):Prop:=∀(i:Nat) x h,g.lay[i]?=ac (ac (x,h))->g.sc.names.lookup x=ac (if h then .cell else .local)
def qm(g:mR):Prop:=∀(i j:Nat) x h k,g[i]?=ac (ac (x,h))->g[j]?=ac (ac (x,k))->i=j
end
end
section
set_option tactic.hygienic false
open PySem PySem.W PyProof.Rows PySem.Calls
section
mutual
noncomputable def iJ:V->HV
 |.none=>.none|.a i=>.int i|.str s=>.str (sv s)|.tup d=>.tuple (nN d)|.j e=>.bool e|.obj _=>.none|.m _=>.none
noncomputable def nN:List V->List HV
 |[]=>[]|v::r=>iJ v::nN r
end
theorem xy:(sv d==sv f)=(d==f):=by
 cases h:(d==f)with
 |true=>rw[beq_iff_eq.mp h];simp
 |false=>
  have:d≠f:=λe=>by rw[e]at h;simp at h
  rw[beq_eq_false_iff_ne];intro e;have:=congrArg (λx:Str=>x.cps.toList) e;simp at this;contradiction
theorem tm(h:fc s=af):s.length<=big:=by
 unfold fc at h;rw[dO]at h;exact of_decide_eq_true h.1
theorem oY(h:fc s=af):∀d∈s,d<1114112:=by
 unfold fc at h;rw[dO]at h;intro d m;exact of_decide_eq_true (List.all_eq_true.mp h.2 d m)
theorem tq(e:s.length<=big)(f:∀d∈s,d<1114112):fc s=af:=by
 unfold fc;rw[dO];exact⟨decide_eq_true e,List.all_eq_true.mpr λd m=>decide_eq_true (f d m)⟩
theorem aj4(h:fc s=af)(d:t.Sublist s):fc t=af:=
 tq (aV d.length_le (tm h)) λe m=>oY h e (d.subset m)
theorem a16(h:fc s=af):bi7 (sv s)=af:=by
 unfold bi7;rw[<-Array.all_toList];exact List.all_eq_true.mpr λd m=>decide_eq_true (oY h d m)
inductive vB:Nat->V->Prop
 |none {n:Nat}:vB n .none
 |a {n:Nat} (i:Int):vB n (.a i)
 |str {n:Nat} (s:List Nat):vB n (.str s)
 |tup {n:Nat} {d:List V} (h:d.all (bQ n)=af):vB (n+1) (.tup d)
theorem qN(h:bQ n v=af):vB n v:=by
 cases n with
 |zero=>induction v using V.casesOn<;>first|exact .none|exact .a _|exact .str _|exact nomatch h
 |succ n=>induction v using V.casesOn<;>first|exact .none|exact .a _|exact .str _|exact .tup h|exact nomatch h
structure yG(e:aS)(n:Nat)(x:ah)(d:HV):Prop where
 reads:∃f,Reads e x d f
 d8:d.canLay0=af
 deep:d.depth<=n
structure Do(e:aS)(n:Nat)(f:List ah)(d:List HV):Prop where
 reads:∃g,ReadsAll e f d g
 d8:PyData.canLayAll0 d=af
 deep:PyData.depthAll d<=n
theorem rD(f:∀{v:V} {x:ah},bQ n v=af->VR a g v x->yG g n x (iJ v)):
  ∀{m:List ah},d.all (bQ n)=af->aI a g d m->Do g n m (nN d):=by
 induction d with
 |nil=>exact λy e=>by cases e;exact⟨⟨_,.nil⟩,rfl,gb _⟩
 |cons v d h=>
  exact λo e=>cu e λx r z p=>aP p λi j=>dr o λk l=>am (f k i).reads λu q=>am (h l j).reads λw t=>by
   subst z;exact⟨⟨_,.cons q t⟩,Bool.and_eq_true_iff.mpr ⟨(f k i).d8,(h l j).d8⟩,Nat.max_le.mpr ⟨(f k i).deep,(h l j).deep⟩⟩
theorem mu(n:Nat):∀{v:V} {x:ah},bQ n v=af->VR a f v x->yG f n x (iJ v):=by
 have o:∀{n:Nat} {v:V} {x:ah} (d:∀k j,n=k+1->v=.tup j->j.all (bQ k)=af->yG f n x (iJ v)),bQ n v=af->VR a f v x->yG f n x (iJ v):=λd l e=>by
  cases qN l with
  |none=>cases e;exact⟨⟨_,.none⟩,rfl,gb _⟩
  |a i=>exact am e λt z=>by subst z;exact⟨⟨_,.int _ _⟩,rfl,gb _⟩
  |str s=>exact dy e λg t z=>by subst z;exact⟨⟨_,.str _ _⟩,a16 g,gb _⟩
  |tup h=>exact d _ _ rfl rfl h
 induction n with
 |zero=>exact o λk E z=>nomatch z|succ n d=>
  exact λl e=>o (λk j z p h=>by
   cases z;subst p;exact jk e λE y B k q r=>aP r λu m=>am (rD d h m).reads λC w=>by
    subst q;exact⟨⟨_,.tuple u rfl rfl w⟩,(rD d h m).d8,uV (rD d h m).deep⟩) l e
theorem Qi(f:n<=60)(d:bQ n v=af)(e:VR a g v x):CH (iJ v)=af:=by
 unfold CH;rw[dO];exact⟨(mu n d e).d8,decide_eq_true (aV (mu n d e).deep (aV f (by decide)))⟩
theorem Mb(h:∀e f:V,bQ n e=af->bQ m f=af->xU (iJ e) (iJ f)=iM e f):∀{d:List V},g.all (bQ n)=af->d.all (bQ m)=af->bi6 (nN g) (nN d)=mC g d:=by
 induction g with
 |nil=>exact λ{d} _ _=>by induction d using List.casesOn<;>rfl
 |cons e g i=>
  intro d j k
  cases d with
  |nil=>rfl|cons f d=>
   exact dr j λl o=>dr k λp q=>by
    show(xU (iJ e) (iJ f)&&bi6 (nN g) (nN d))=(iM e f&&mC g d);rw[h e f l p,i o q]
set_option tactic.hygienic true in
theorem Em(n:Nat):∀(m:Nat) (d e:V),bQ n d=af->bQ m e=af->xU (iJ d) (iJ e)=iM d e:=by
 induction n with
 |zero=>
  intro m d e f g
  cases qN f<;>cases qN g<;>first|rfl|exact xy
 |succ n h=>
  intro m d e f g
  cases qN f<;>cases qN g<;>first|rfl|exact xy|(rename_i i _ _ j;exact Mb (h _) i j)
theorem aI.append(g:aI a h d i)(j:aI a h k f):aI a h (d++k) (i++f):=by
 induction d generalizing i with
 |nil=>cases g;exact j
 |cons o d l=>exact cu g λv r e z=>aP z λm n=>bw v (r++f) (congrArg (· ++f) e) m (l n)
theorem aI.length(h:aI a i d f):f.length=d.length:=by
 induction d generalizing f with
 |nil=>cases h;rfl
 |cons j d g=>exact cu h λv r e z=>aP z λk q=>(congrArg pE e).trans (congrArg xT (g q))
theorem aI.get{a:List aj}{g:aS}{d:List V}{f:List ah}{i:Nat}{j:V}(h:aI a g d f)(e:d[i]?=ac j):∃x,f[i]?=ac x/\VR a g j x:=by
 induction d generalizing f i with
 |nil=>exact nomatch e|cons o d k=>
  exact cu h λv r z l=>aP l λm n=>by
   subst z
   cases i with
   |zero=>exact al v rfl (ax e▸m)|succ i=>exact k (f:=r) (i:=i) n e
theorem aI.drop(k:Nat)(h:aI a f d e):aI a f (d.drop k) (e.drop k):=by
 induction d generalizing e k with
 |nil=>cases h;induction k using Nat.casesOn<;>exact rfl
 |cons j d g=>
  cases k with
  |zero=>exact h|succ k=>exact cu h λv r z i=>aP i λl q=>z▸g k q
theorem aI.take(k:Nat)(h:aI a f d e):aI a f (d.take k) (e.take k):=by
 induction d generalizing e k with
 |nil=>cases h;induction k using Nat.casesOn<;>exact rfl
 |cons l d g=>
  cases k with
  |zero=>exact rfl|succ k=>exact cu h λv r z i=>aP i λj q=>z▸(bw v (r.take k) rfl j (g k q))
theorem oH:2*big<=mL:=by rw[yg];decide
section
variable{D:Wd}{c:List Env}{a:List aj}{b:H}{s:az}{A:cB}
theorem wY(I:ay D c a b s)(t:aI a s.heap h j.toList)(u:h.length<=big)
  (p:d.heap=s.heap.push {cls:=.type "list",data:=.seq j}) (v:d.gens=s.gens) (w:d.os=s.os) (y:d.drawn=s.drawn):
  bo VR (.ok (.obj b.length) (b++[.list h])) D c a s.heap (.ref s.heap.objs.size) d:=by
 have k:∀f o,s.heap.get? f=ac o->d.heap.get? f=ac o:=λf o e=>by rw[p];exact ie _ e
 have g:d.heap.get? s.heap.objs.size=ac {cls:=.type "list",data:=.seq j}:=by rw[p];exact mH _ rfl
 have l:s.heap.get? s.heap.objs.size=ae:=by
  cases q:s.heap.get? s.heap.objs.size with
  |none=>rfl|some o=>exact absurd (fj q) (jn _)
 have F:s.heap.objs.size∉a:=λm=>by
  refine bE (I.at m) λi x J J z=>?_;refine ak z.h3 λG r J=>?_;rw[l]at r;injection r
 have B:bq a s.heap (a++[s.heap.objs.size]) d.heap:=⟨ij ..,λf m n=>by
  rcases List.mem_append.mp m with q|q
  ·exact absurd q n
  ·rw[List.mem_singleton.mp q];exact l,.c0 k,λf J x=>x.keep (k f)⟩
 refine aP (I.alloc (t:=d) (A:=ya) (o:=.list h) k (r:=s.heap.objs.size) l (Ff u j 0 g (t.step B I.Y)) v w y) λC E=>?_;refine⟨_,_,_,rfl,C,E,?_⟩
 exact al _ (by rw[<-I.len,fM (bI _),gJ];rfl) rfl
theorem iA(I:ay D c a b s){i:Nat}{g:List V}(e:b[i]?=ac (.list g)):∃d f n,a[i]?=ac d/\g.length<=big/\IsL s.heap d f n/\aI a s.heap g f.toList:=by
 obtain⟨d,h,j,f,n,k,l⟩:=I.addr e;exact fG d f n h j k l
theorem eC(e:VR a f (.obj i) v):∃d,a[i]?=ac d/\v=.ref d:=e
theorem dT(I:ay D c a b s)(e:VR a s.heap d v):bo VR (.ok d b) D c a s.heap v {s with toks:=t}:=
 ⟨d,b,a,rfl,.b5 _ _,I.i6,e⟩
theorem iN:VR a d (.a i) (.int i t):=⟨_,rfl⟩
theorem uC(g:fc x=af):VR a d (.str x) (.str (sv x) t):=tA g _ rfl
theorem xD:VR a e (.j d) (.bool d):=rfl
theorem uB:VR a d .none .none:=rfl
theorem BP(x y:List Nat):sv x++sv y=sv (x++y):=by
 apply RM;simp[Str.cps_append]
theorem yN{d:Prop}[Decidable d]{e:Type}{x:R e}{G:Prop}(f:(if d then x else .i)≠.i)(k:d->(if d then x else .i)=x->G):G:=by
 by_cases h:d
 ·exact k h (if_pos h)
 ·exact absurd (if_neg h) f
abbrev Op(D:Wd)(A:cB)(c:List Env)(a:List aj)(s:az)(d:Sem ah)(r:R V):Prop:=aB (Mo D) A d (bo VR r D c a s.heap) (bF r D c a s.heap) s
theorem aD5{d:eI}{x y:Int}{t u:Tok}(I:ay D c a b s)(f:wr d x y b≠.i):Op D A c a s (Ia d (.int x t) (.int y u)) (wr d x y b):=by
 induction d using Operator.casesOn with
 |Add=>
  show Op D A c a s _ (.ok (.a (x+y)) b)
  with_reducible exact add_int (dT I iN)
 |Sub=>
  show Op D A c a s _ (.ok (.a (x-y)) b)
  with_reducible exact bn3 (dT I iN)
 |Mod=>
  exact yN f λh e=>by
   show Op D A c a s _ (if _ then _ else _);rw[e];rw[dO,decide_eq_true_eq]at h
   with_reducible exact bn1 (R' h.1) (dT I iN)
 |FloorDiv=>
  exact yN f λh e=>by
   show Op D A c a s _ (if _ then _ else _);rw[e];rw[dO,decide_eq_true_eq,decide_eq_true_eq]at h
   with_reducible exact floordiv_int (R' h.1) (dT I iN) (.inl (PyProof.noPylong_small (mJ (bc6 (Int.le_of_lt h.1) h.2) (by decide))))
 |_=>exact absurd rfl f
theorem aE3{d:eI}{x y:List Nat}{t u:Tok}(I:ay D c a b s)(i:fc x=af)(j:fc y=af)(f:xu d x y b≠.i):Op D A c a s (Ia d (.str (sv x) t) (.str (sv y) u)) (xu d x y b):=by
 induction d using Operator.casesOn with
 |Add=>
  exact yN f λh e=>by
   show Op D A c a s _ (if _ then _ else _);rw[e]
   with_reducible refine bm8 (λk l=>?_) (by
    have:=oH;rw[(by simp[xV]:(sv x).length+(sv y).length=x.length+y.length)];lia)
   rw[BP];exact dT I (uC (tq (s:=x++y) (by rw[aU];exact h) λg m=>(List.mem_append.mp m).elim (oY i g) (oY j g)))
 |_=>exact absurd rfl f
theorem OZ{k:List V->R V}{G:Prop}(e:hX k o≠.i)(h:∀d,o=ac (.list d)->hX k o=k d->G):G:=by
 cases o with
 |none=>exact absurd rfl e|some o=>induction o using O.casesOn with
  |list d=>exact h d rfl rfl|_=>exact absurd rfl e
theorem wJ(I:ay D c a b s){i f:Nat}{d:List V}(h:a[i]?=ac f)(e:b[i]?=ac (.list d)):∃g n,d.length<=big/\IsL s.heap f g n/\aI a s.heap d g.toList:=
 gY (iA I e) λk j n z q=>fq j n (by cases h.symm.trans z;exact q)
theorem aD3{d:eI}{i j g h:Nat}(I:ay D c a b s)(p:a[i]?=ac g)(r:a[j]?=ac h)(e:yV d b b[i]? b[j]?≠.i):Op D A c a s (Ia d (.ref g) (.ref h)) (yV d b b[i]? b[j]?):=by
 induction d using Operator.casesOn with
 |Add=>
  exact OZ e λt u f=>OZ (λq=>e (f.trans q)) λv w k=>yN (λq=>e (f.trans (k.trans q))) λl x=>by
   show Op D A c a s _ (hX _ _);rw[f,k,show yU b t v=_ from x];refine bE (wJ I p u) λC n F y m=>bE (wJ I r w) λz E F B o=>?_
   with_reducible refine P.add_list y B (wY I (by rw[bb3];exact m.append o) (by rw[aU];exact l) rfl rfl rfl rfl) ?_
   rw[<-kq,<-kq (xs:=z),m.length,o.length];exact aV (aV l (by decide)) oH
 |_=>exact absurd rfl e
theorem aD2{h:eI}{f e:V}{k l:ah}(I:ay D c a b s)(i:VR a s.heap f k)(j:VR a s.heap e l)(d:bZ h f e b≠.i):Op D A c a s (Ia h k l) (bZ h f e b):=by
 induction f using V.casesOn<;>first|exact absurd rfl d|skip
 ·induction e using V.casesOn<;>first|exact absurd rfl d|skip
  exact am i λt z=>am j λu y=>by subst z;subst y;exact aD5 I d
 ·induction e using V.casesOn<;>first|exact absurd rfl d|skip
  exact dy i λg t z=>dy j λm u y=>by subst z;subst y;exact aE3 I g m d
 ·induction e using V.casesOn<;>first|exact absurd rfl d|skip
  exact ak i λp n z=>ak j λq o y=>by subst z;subst y;exact aD3 I n o d
end
end
section
section
variable{D:Wd}{g:List Env}{e:List aj}{f:H}{s:az}{A:cB}
set_option tactic.hygienic true in
theorem Ri(h:lA x l=ac b):bQ 8 x=af/\l.all (bQ 7)=af/\b=l.any λy=>iM y x:=by
 unfold lA at h;by_cases q:(bQ 8 x&&l.all (bQ 7))=af
 ·rw[if_pos q]at h;exact dr q λi j=>dc i j (ax h).symm
 ·rw[if_neg q]at h;exact nomatch h
theorem Ja(i:bQ 8 x=af)(j:k=iJ x)(h:l.all (bQ 7)=af):(nN l).any (λy=>xU y k)=l.any λy=>iM y x:=by
 subst j
 induction l with
 |nil=>rfl|cons v r m=>
  exact dr h λn o=>by
   show(xU (iJ v) (iJ x)||(nN r).any _)=(iM v x||r.any _);rw[m o,Em 7 8 v x n i]
theorem Lp(h:A.units<=9000):A.units+70<cLine:=by
 exact pN (CA h 70) (by decide)
theorem fo.j7(h:fo e j [] i):i=[]:=List.map_eq_nil_iff.mp h.1
theorem fo.inv(h:fo e i (j::n) k):∃x r,k=(sv j.1,x)::r/\VR e i j.2 x/\fo e i n r:=by
 cases k with
 |nil=>exact nomatch h.1|cons l r=>
  have m:=rR h.1;refine bE h.2 λx q z o p=>?_;have z:=rR z;have w:=z.1;subst w;exact dp l.2 r (congrArg (λy=>(y,l.2)::r) m.1) o m.2 (z.2▸p)
theorem FI:∀{j:List (Str×ah)},fo e s.heap l j->match dJ l k with
  |some v=>∃x,CY j (sv k)=ac x/\VR e s.heap v x|none=>CY j (sv k)=ae:=by
 induction l with
 |nil=>intro j h;have:=h.j7;subst this;exact rfl
 |cons i l n=>
  intro j h;refine cu h.inv λx r z m=>?_;subst z;have o:dJ (i::l) k=match k==i.1 with|true=>ac i.2|false=>dJ l k:=jP
  have p:CY ((sv i.1,x)::r) (sv k)=match bf (sv i.1=sv k)with|true=>ac x|false=>CY r (sv k):=by
   show(Se _ _).map _=_;rw[List.find?_cons]
   induction bf (sv i.1=sv k)using Bool.casesOn<;>rfl
  rw[o,p]
  cases q:(k==i.1)with
  |true=>rw[decide_eq_true (congrArg sv (beq_iff_eq.mp q).symm)];exact al x rfl m.1
  |false=>rw[decide_eq_false λz=>by rw[<-xy,<-z,beq_self_eq_true]at q;injection q];exact n m.2
theorem Aj(I:ay D g e f s){i:Nat}{j:List (List Nat×V)}{n:Option Nat}(k:f[i]?=ac (.dict j n)):∃a h,e[i]?=ac a/\j.length<=cN/\
  s.heap.DictOf (ot D.prog D.w) a h/\fo e s.heap j h:=by
 refine xF (I.addr k) λa l m h q o p t=>?_;exact dp a h l m o.dictOf p
theorem an1:SJ (sv k) (.str (sv h) t)=(h==k):=by
 show(sv h==sv k)=_;exact xy
theorem qV(k:List Nat)(t:Tok):(ot D.prog D.w).is (sv k) (.str (sv k) t)=af:=by
 show SJ (sv k) (.str (sv k) t)=af;rw[an1];simp
theorem tP(I:ay D g e f s){i:Nat}{a:aj}{j:List (List Nat×V)}{n:Option Nat}(k:f[i]?=ac (.dict j n))(l:e[i]?=ac a):(a==Tm)=ag:=by
 obtain⟨o,h,p,q,t,u,v,_,m⟩:=I.addr k;rw[l]at h;(injection h with h;subst h);rw[beq_eq_false_iff_ne];exact m
theorem aC0(h:3<s.heap.objs.size):s.heap.objs.size≠Tm:=by
 intro q;rw[q]at h;exact absurd h (by decide)
theorem ax7:x.contains h=bf (h∈(sv x).cps.toList):=by
 show x.contains h=bf (h∈x.toArray.toList);simp
def hH(D:Wd)(A:cB)(s:az)(c d:ah)(h:gv)(b:Bool):Prop:=∀(Q:ah->az->Prop) (E:ah->az->Prop),(∀t,Q (.bool b) {s with toks:=t})->aB (Mo D) A (pV h c d) Q E s
theorem Yq{i:Int->Int->Bool}(h:sQ i a b=ac r):∃x y,a=.a x/\b=.a y/\i x y=r:=by
 induction a using V.casesOn<;>first|(injection h;done)|skip
 induction b using V.casesOn<;>first|(injection h;done)|skip
 exact bw _ _ rfl rfl (ax h)
theorem am8(h:wt a b=ac r):b=.none/\jy a=ac r:=by
 induction b using V.casesOn<;>first|(injection h;done)|exact⟨rfl,h⟩
set_option tactic.hygienic true in
theorem XU(h:Lb l a=ac r):∃i,a=.str [i]/\l.contains i=r:=by
 induction a using V.casesOn<;>first|(injection h;done)|skip
 rename_i k;rcases k with _|⟨i,_|⟨j,k⟩⟩<;>first|(injection h;done)|exact al i rfl (ax h)
theorem ap9(h:Fu i a=ac r):∃k,a=.str k/\(dJ i k).isSome=r:=by
 induction a using V.casesOn<;>first|(injection h;done)|exact al _ rfl (ax h)
theorem al9(h:qU a o=ac r):(∃i,o=ac (.list i)/\lA a i=ac r)\/∃j n,o=ac (.dict j n)/\Fu j a=ac r:=by
 cases o with
 |none=>injection h|some o=>induction o using O.casesOn<;>first|(injection h;done)|exact .inl (al _ rfl h)|exact .inr (gF _ _ rfl h)
theorem am9(i:VR e k a c)(h:jy a=ac b):plainIs c .none=af/\(c==.none)=b:=by
 induction a using V.casesOn
 case none=>cases i;exact⟨rfl,ax h⟩
 case j=>cases i;exact⟨rfl,ax h⟩
 case a=>refine am i λt j=>?_;subst j;exact⟨rfl,ax h⟩
 case str=>refine dy i λl t j=>?_;subst j;exact⟨rfl,ax h⟩
 case tup=>refine jk i λl x l l j l=>?_;subst j;exact⟨rfl,ax h⟩
 case obj=>refine ak i λx l j=>?_;subst j;exact⟨rfl,ax h⟩
 case m=>cases i;induction c using Value.casesOn<;>first|(injection h;done)|exact⟨rfl,ax h⟩
section
variable{a b:V}{c d:ah}{r:Bool}
theorem RD(o:A.units<=9000)(i:Reads s.heap c j q)(k:Reads s.heap d l t)(m:CH j=af)(n:CH l=af)(p:xU j l=r):hH D A s c d .Eq r/\hH D A s c d .NotEq (!r):=by
 subst p;have u:=Lp o;exact⟨λQ E h=>eq_dataH i k m n (by lia) (h s.toks),λQ E h=>ne_dataH i k m n (by lia) (h s.toks)⟩
theorem Do.shaped(r:Do j n k i)(h:n<=63):CH (.list i)=af:=Bool.and_eq_true_iff.mpr ⟨r.d8,decide_eq_true (uV (aV r.deep h))⟩
theorem On(h:FO o=ac i):o=ac (.list i):=by
 cases o with
 |none=>exact nomatch h|some o=>induction o using O.casesOn<;>first|exact congrArg (λv=>ac (O.list v)) (ax h)|exact nomatch h
theorem RE(q:A.units<=9000)(I:ay D g e f s)(l:VR e s.heap a c)(m:VR e s.heap b d)(k:gj f a b=ac r):hH D A s c d .Eq r/\hH D A s c d .NotEq (!r):=by
 have v:(if bQ 8 a&&bQ 8 b then ac (iM a b)else aw)=ac r->hH D A s c d .Eq r/\hH D A s c d .NotEq (!r):=λk=>by
  by_cases h:(bQ 8 a&&bQ 8 b)=af
  ·rw[if_pos h]at k;rw[dO]at h;refine am (mu 8 h.1 l).reads λw o=>?_;refine am (mu 8 h.2 m).reads λz p=>?_;exact RD q o p (Qi (by decide) h.1 l) (Qi (by decide) h.2 m) ((Em 8 8 a b h.1 h.2).trans (ax k))
  ·rw[if_neg h]at k;injection k
 induction a using V.casesOn with
 |obj i=>
  induction b using V.casesOn with
  |obj j=>
   exact ak (eC l) λx B C=>ak (eC m) λy E F=>aC k λG J k=>aC k λL M k=>by
    subst C;subst F;by_cases h:(G.all (bQ 7)&&L.all (bQ 7))=af
    ·rw[if_pos h]at k;rw[dO]at h;refine bE (wJ I B (On J)) λT n Z N P=>bE (wJ I E (On M)) λU Y Z Q S=>?_;have t:=rD (n:=7) (mu 7) h.1 P;have u:=rD (n:=7) (mu 7) h.2 S;refine am t.reads λw o=>am u.reads λz p=>?_;refine RD q (.list N rfl rfl o) (.list Q rfl rfl p) (t.shaped (by decide)) (u.shaped (by decide)) ?_;rw[<-ax k];exact Mb (Em 7 7) h.1 h.2
    ·rw[if_neg h]at k;exact nomatch k
  |_=>exact nomatch k
 |_=>exact v k
theorem Bm(h:u+70<i)(j:y<=8):u+1+min x y<i:=pN (aV (xQ (aV (Sy ..) j) _) (xQ (show 9<=70 by decide) u)) h
set_option tactic.hygienic true in
theorem RF(N:A.units<=9000)(I:ay D g e f s)(B:VR e s.heap a c)(G:VR e s.heap b d)(m:nv a f b=ac r):hH D A s c d .In r/\hH D A s c d .NotIn (!r):=by
 have C:=Lp N
 induction b using V.casesOn<;>first|(injection m;done)|skip
 case tup P=>
  refine fL (Ri m) λn o i=>?_;subst i;have j:=mu 8 n B;refine am j.reads λS p=>?_;refine jk G λZ x z4 k i u=>?_;subst i;refine aP u λL T=>?_;have l:=rD (n:=7) (mu 7) o T;refine am l.reads λU v=>?_;have Y:=j.deep;have d2:=l.deep;rw[<-Ja n rfl o];exact⟨λQ E h=>SeqAt.in_tuple_reads (.tuple L rfl rfl v) p l.d8 j.d8 (Bm C j.deep) (h s.toks),λQ E h=>SeqAt.notIn_tuple_reads (.tuple L rfl rfl v) p l.d8 j.d8 (Bm C j.deep) (h s.toks)⟩
 case str z5=>
  refine ak (XU m) λz6 i u=>?_;subst i;subst u;refine dy B λZ t i=>?_;subst i;refine dy G λZ z7 i=>?_;subst i;rw[ax7,<-StrLaws.found_one];exact⟨λQ E h=>PySem.P.in_str (h s.toks),λQ E h=>PySem.P.notIn_str (h s.toks)⟩
 case obj z8=>
  refine ak (eC G) λx F i=>?_;subst i;refine uW (al9 m) (λi=>ak i λP w m=>?_) λi=>cu i λM z2 w m=>?_
  ·refine fL (Ri m) λn o i=>?_;subst i;have j:=mu 8 n B;refine am j.reads λS p=>?_;refine dz (iA I w) λZ z9 z2 y Z z J=>?_;rw[ax (F.symm.trans y)];have l:=rD (n:=7) (mu 7) o J;refine am l.reads λU v=>?_;have Y:=j.deep;have d2:=l.deep;rw[<-Ja n rfl o];exact⟨λQ E h=>SeqAt.in_list_reads (.list z rfl rfl v) p l.d8 j.d8 (Bm C j.deep) (h s.toks),λQ E h=>SeqAt.notIn_list_reads (.list z rfl rfl v) p l.d8 j.d8 (Bm C j.deep) (h s.toks)⟩
  ·refine ak (ap9 m) λk i u=>?_;subst i;subst u;refine dy B λZ t i=>?_;subst i;refine ch (Aj I w) λza z3 y Z z J=>?_;have fe:(CY z3 (sv k)).isSome=(dJ M k).isSome:=by
    have:=FI (k:=k) J
    cases q:dJ M k with
    |none=>rw[q]at this;exact congrArg bi4 this
    |some zb=>rw[q]at this;refine ak this λx F Z=>?_;exact congrArg bi4 F
   rw[<-fe,ax (F.symm.trans y)];exact⟨λQ E h=>wpAny_in_of (qV k t) (tP I w y) z.mapOf (h _),λQ E h=>wpAny_notIn_of (qV k t) (tP I w y) z.mapOf (h _)⟩
theorem RG(l:VR e s.heap a c)(m:VR e s.heap b d)(i:wt a b=ac r):hH D A s c d .Is r/\hH D A s c d .IsNot (!r):=by
 refine aP (am8 i) λj i=>?_;subst j
 cases m;refine aP (am9 l i) λk j=>?_;subst j;exact⟨λQ E h=>wpAny_is_plain k (h s.toks),λQ E h=>wpAny_isNot_plain k (h s.toks)⟩
theorem Hw(h:∀{r},o=ac r->hH D A s c d m r/\hH D A s c d i (!r))(j:o.map (!·)=ac r):hH D A s c d i r:=
 ak (Option.map_eq_some_iff.mp j) λn k l=>by subst l;exact(h k).2
theorem ba8(m:A.units<=9000)(I:ay D g e f s)(j:VR e s.heap a c)(l:VR e s.heap b d)(i:aQ n a b f=ac r):hH D A s c d n r:=by
 have o:∀{v:Int->Int->Bool},(∀x y t u,c=.int x t->d=.int y u->hH D A s c d n (v x y))->sQ v a b=ac r->hH D A s c d n r:=λ{v} k i=>by
  refine bE (Yq i) λx y w z B=>?_;subst w;subst z;subst B;exact am j λt p=>am l λu q=>k x y t u p q
 induction n using CmpOp.casesOn
 case Eq=>exact(RE m I j l i).1
 case NotEq=>exact Hw (RE m I j l) i
 case Lt=>exact o (λx y t u p q=>by subst p;subst q;exact λQ E h=>lt_int (h s.toks)) i
 case LtE=>exact o (λx y t u p q=>by subst p;subst q;exact λQ E h=>le_int (h s.toks)) i
 case Gt=>exact o (λx y t u p q=>by subst p;subst q;exact λQ E h=>gt_int (h s.toks)) i
 case GtE=>exact o (λx y t u p q=>by subst p;subst q;exact λQ E h=>ge_int (h s.toks)) i
 case Is=>exact(RG j l i).1
 case IsNot=>exact Hw (RG j l) i
 case In=>exact(RF m I j l i).1
 case NotIn=>exact Hw (RF m I j l) i
end
end
end
section
def lL(_:List aj)(_:aS)(c i:Bool):Prop:=c=i
noncomputable def fW{g:Type}(c:H):Option g->R g
 |some v=>.ok v c|none=>.i
noncomputable def gW(c:H)(v:V):R Bool:=fW c (aA c v)
section
variable{D:Wd}{d:List Env}{a:List aj}{b:H}{s:az}{A:cB}
theorem tX(I:ay D d a b s):bo lL (.ok c b) D d a s.heap c {s with toks:=t}:=⟨c,b,a,rfl,.b5 _ _,I.i6,rfl⟩
def Ob{g z:Type}(D:Wd)(A:cB)(d:List Env)(a:List aj)(s:az)(p:List aj->aS->g->z->Prop)(t:Sem z)(z0:R g):Prop:=z0≠.i->aB (Mo D) A t (bo p z0 D d a s.heap) (bF z0 D d a s.heap) s
noncomputable def Ol{g:Type}(F:List V->Option g):Option O->Option g
 |some (.list c)=>F c|_=>ae
section
variable{g z:Type}{p:List aj->aS->g->z->Prop}{t:Sem z}{z0:R g}{o:Option g}
theorem Ob.i:Ob D A d a s p t .i:=λc=>absurd rfl c
theorem Ob.E{c:Prop}[Decidable c](k:c->Ob D A d a s p t (fW b o)):Ob D A d a s p t (fW b (if c then o else ae)):=by
 by_cases l:c
 ·rw[if_pos l];exact k l
 ·rw[if_neg l];exact .i
theorem Ob.i0(k:∀v,o=ac v->Ob D A d a s p t (.ok v b)):Ob D A d a s p t (fW b o):=by
 cases o with
 |none=>exact .i|some v=>exact k v rfl
theorem Ob.y{l:Nat}{F:List V->Option g}(k:∀c,b[l]?=ac (.list c)->Ob D A d a s p t (fW b (F c))):Ob D A d a s p t (fW b (Ol F b[l]?)):=by
 cases u:b[l]? with
 |none=>exact .i|some o=>induction o using O.casesOn with
  |list c=>exact k c u|_=>exact .i
end
theorem FD(I:ay D d a b s){i:Nat}{c:List V}{x:ah}{G:Prop}(E:VR a s.heap (.obj i) x)(F:b[i]?=ac (.list c))(k:∀l u v,x=.ref l->c.length<=big->IsL s.heap l u v->aI a s.heap c u.toList->u.size=c.length->G):G:=
 ak (eC E) λl J L=>bE (wJ I J F) λM v e N y=>k l M v L e N y (Array.length_toList.symm.trans y.length)
theorem sM(c:i<=big):(i:Int)<2^63:=Int.lt_of_le_of_lt (Int.ofNat_le.mpr c) (by decide)
theorem a63{v:V}{y:ah}(I:ay D d a b s)(c:VR a s.heap v y):Ob D A d a s lL (jq y) (fW b (aA b v)):=by
 induction v using V.casesOn with
 |none=>exact λS=>(show y=_ from c)▸λS S S=>tX I
 |j N=>exact λS=>(show y=_ from c)▸λS S S=>tX I
 |a i=>
  show Ob D A d a s lL _ (.ok (i !=0) b);exact λS=>am c λt k=>k▸by with_reducible exact bn4 (tX I)
 |str x=>
  show Ob D A d a s lL _ (.ok (x !=[]) b);refine λS=>dy c λG t k=>k▸?_;have J:((sv x).length:Int)<2^63:=sM (tm G)
  with_reducible refine PySem.P.truthy_str (Int.not_le.mpr J) ?_
  have l:(((sv x).length:Int) !=0)=(x !=[]):=by induction x using List.casesOn<;>rfl
  rw[l];exact tX I
 |obj i=>
   refine .y (F:=λu=>ac (!u.isEmpty)) λu l=>?_;show Ob D A d a s lL _ (.ok (!u.isEmpty) b);refine λS=>FD I c l λv E P k e L Q F=>k▸?_
   with_reducible refine wpAny_truthy_list L.isList (F▸sM e) ?_
   have l:(!E.isEmpty)=(!u.isEmpty):=by
    have M:E.isEmpty=bf (E.size=0):=rfl;rw[M,F]
    induction u using List.casesOn<;>rfl
   rw[l];exact tX I
 |_=>exact .i
theorem Gj(I:ay D d a b s)(i:VR a s.heap c k)(l:gW b c≠.i):
  aB (Mo D) A (jq k) (bo lL (gW b c) D d a s.heap) (bF (gW b c) D d a s.heap) s:=a63 I i l
noncomputable def tF(c:H)(o i:V):R V:=fW c (cH c o i)
noncomputable def LB{g:Type}(F:List (List Nat×V)->Option g):Option O->Option g
 |some (.dict c _)=>F c|_=>ae
theorem Ob.b8{g z:Type}{p:List aj->aS->g->z->Prop}{t:Sem z}{l:Nat}{F:List (List Nat×V)->Option g}(k:∀c u,b[l]?=ac (.dict c u)->Ob D A d a s p t (fW b (F c))):Ob D A d a s p t (fW b (LB F b[l]?)):=by
 cases v:b[l]? with
 |none=>exact .i|some o=>induction o using O.casesOn with
  |dict c u=>exact k c u v|_=>exact .i
theorem a54(c:0<=k):((k.toNat:Nat):Int)=k:=xI c
theorem Bn{k:Int}{c:Nat}(i:0<=k)(e:k.toNat<c):k<c:=a54 i▸Int.ofNat_lt.mpr e
theorem yL{g:Type}{e:List g}{i:Nat}{c:g}(k:e[i]?=ac c):i<e.length:=(List.getElem?_eq_some_iff.mp k).1
section
variable{m h:aY}{j n:ah}
theorem ao1{x:List Nat}{k:Int}(I:ay D d a b s)(G:∀l u,lJ h ag l u=hA [l,u] (kA l u))(J:VR a s.heap (.str x) j)(L:VR a s.heap (.a k) n):Ob D A d a s VR (lI m h j n) (fW b (if 0<=k then(x[k.toNat]?).map λi=>.str [i]else ae)):=.E λy=>.i0 λv M Z=>by
 refine bG M λi E N=>dy J λF t P=>am L λf Q=>?_;rw[P,Q,<-N];refine vg (T:="str") (typeIs_str s _ t) PySem.F.slot_str_getitem.lookup ?_ (G _ _)
 with_reducible refine PySem.P.getItem_str (c:=i) ?_ (StrLaws.at_nonneg y ((show(sv x).cps[k.toNat]?=x[k.toNat]? from be5 ..).trans E)) ?_
 ·have S:¬k< -(2^63:Int):=Int.not_lt.mpr (bc4 (by decide) y);rw[decide_eq_false S,decide_eq_false (Int.not_le.mpr (RZ (Bn y (yL E)) (sM (tm F))):¬k≥2^63)];rfl
 ·exact dT I (uC (tq (kz rfl) λY U=>(List.mem_singleton.mp U).symm▸oY F i (bT E)))
theorem ao2{E:List V}{c:Int}(I:ay D d a b s)(J:∀i u,lJ h ag i u=hA [i,u] (kA i u))(L:VR a s.heap (.tup E) j)(M:VR a s.heap (.a c) n):Ob D A d a s VR (lI m h j n) (fW b (if 0<=c then E[c.toNat]? else ae)):=.E λl=>.i0 λz3 v Z=>by
 refine jk L λN i z4 z5 P Q=>aP Q λF G=>am M λf S=>ak (aI.get G v) λx U Y=>?_;rw[P,S];refine vg (T:="tuple") (al _ F rfl) PySem.F.slot_tuple_getitem.lookup ?_ (J _ _)
 with_reducible refine PySem.P.getItem_tuple (k:=c.toNat) (y:=x) F (bc4 (by decide) l) (RZ (Bn l (yL v)) (sM N)) (bj3 l (by rw[(Array.length_toList.symm.trans G.length)];exact Bn l (yL v))) (Array.getElem?_toList.symm.trans U) ?_
 exact jF I Y
theorem an8{U:Nat}{k:Int}(I:ay D d a b s)(hs:∀c P,lJ h ag c P=hA [c,P] (kA c P))(ho:VR a s.heap (.obj U) j)(hi:VR a s.heap (.a k) n):Ob D A d a s VR (lI m h j n) (fW b (Ol (λl=>if 0<=k then l[k.toNat]? else if 0<=k+l.length then l[(k+l.length).toNat]? else ae) b[U]?)):=.y λl z1=>by
 have Y:∀v,(∀c u E,IsL s.heap c u E->aI a s.heap l u.toList->u.size=l.length->l.length<=big->∃i,VR a s.heap v i/\∀{z3:ah->az->Prop} {Q:ah->az->Prop} {f:Tok},Q i s->aB (Mo D) A (kA (.ref c) (.int k f)) Q z3 s)->Ob D A d a s VR (lI m h j n) (.ok v b):=λv z4 Z=>by
  refine FD I ho z1 λc u E z5 e y F M=>am hi λf z2=>ak (z4 c u E y F M e) λi G J=>?_;rw[z5,z2];exact vg (T:="list") (al _ y rfl) PySem.F.slot_list_getitem.lookup (J (jF I G)) (hs _ _)
 by_cases L:0<=k
 ·rw[if_pos L];exact .i0 λv N=>Y v λc u E y F M e=>ak (aI.get F N) λi G J=>al i J (λS=>by
   with_reducible exact wpAny_getItem_list (x:=i) y.isList L (RZ (Bn L (yL N)) (sM e)) (Array.getElem?_toList.symm.trans G) S)
 ·rw[if_neg L];exact .E λz6=>.i0 λv N=>Y v λc u E y F M e=>ak (aI.get F N) λi G J=>al i J (λS=>by
   have z7:=sM e
   with_reducible exact wpAny_getItem_list_neg (x:=i) y.isList (Int.not_le.mp L) (by lia) (by lia) (by rw[M];exact Array.getElem?_toList.symm.trans G) S)
theorem an7{l:Nat}{k:List Nat}(I:ay D d a b s)(F:∀c i,lJ h ag c i=hA [c,i] (kA c i))(G:VR a s.heap (.obj l) j)(J:VR a s.heap (.str k) n):Ob D A d a s VR (lI m h j n) (fW b (LB (λu=>dJ u k) b[l]?)):=.b8 λu z3 L=>.i0 λz4 M Z=>by
 refine ak (eC G) λc N P=>dy J λz5 f Q=>ch (Aj I L) λi z6 S Z y U=>?_;have E:=FI (k:=k) U;rw[M]at E;refine ak E λx Y z1=>?_;rw[P,Q,ax (N.symm.trans S)];refine vg (T:="dict") y.typeIs PySem.F.slot_dict_getitem.lookup ?_ (F _ _)
 with_reducible exact wpAny_getItem_of (v:=x) (qV k f) y.mapOf Y (dT I z1)
end
theorem an9(I:ay D d a b s)(c:∀v y,lJ h ag v y=hA [v,y] (kA v y))(l:VR a s.heap o j)(u:VR a s.heap i n):Ob D A d a s VR (lI m h j n) (tF b o i):=by
 induction o using V.casesOn with
 |str x=>induction i using V.casesOn with
  |a k=>exact ao1 I c l u|_=>exact .i
 |tup E=>induction i using V.casesOn with
  |a k=>exact ao2 I c l u|_=>exact .i
 |obj F=>induction i using V.casesOn with
  |a k=>exact an8 I c l u|str k=>exact an7 I c l u|_=>exact .i
 |_=>exact .i
theorem aD6(I:ay D d a b s)(l:VR a s.heap o j)(u:VR a s.heap i n)(v:tF b o i≠.i)
  (x:∀c k,lJ h ag c k=hA [c,k] (kA c k)):
  aB (Mo D) A (lI m h j n) (bo VR (tF b o i) D d a s.heap) (bF (tF b o i) D d a s.heap) s:=an9 I x l u v
theorem aD7(I:ay D d a b s)(c:VR a s.heap (.a i) k):
  aB (Mo D) A (unaryOp .USub k) (bo VR (.ok (.a (-i)) b) D d a s.heap) (bF (.ok (.a (-i)) b:R V) D d a s.heap) s:=by
 refine am c λt l=>?_;subst l
 with_reducible refine bn2 ?_
 exact dT I iN
noncomputable def fX(a:List aj)(c:aS):Option V->ah->Prop
 |none,v=>v=.none|some x,v=>VR a c x v
theorem Po(c:ja e=ac k)(i:fX a y e v):∃l:Option (Int×Tok),v=pY l/\l.map (·.1)=k/\IsPart v k:=by
 cases e with
 |none=>(injection c with c;subst c);simp only[fX]at i;subst i;exact br ae rfl rfl .none
 |some x=>
  induction x using V.casesOn<;>first|exact no_some c|skip
  have c:=ax c;subst c;refine am i λt u=>?_;subst u;exact br (ac (_,t)) rfl rfl (.int _ _)
theorem aH5{g:Type}(e:List g)(c i:Nat)(u:i<=e.length):((ek (i-c)).map λk=>c+k).filterMap (e[·]?)=(e.drop c).take (i-c):=by
 by_cases l:c<=i
 ·exact StrLaws.picks e (i-c) c (aV (fN (rQ l)) u)
 ·have:i-c=0:=Sz (HQ l);simp[this]
theorem Yc(c:Nat)(i:Int):cg c i=clipAt c i:=rfl
theorem a14(e f:Option Int)(i:Nat):RP e f 1 i=(ek (f.elim i (cg i)-e.elim 0 (cg i))).map λk=>e.elim 0 (cg i)+k:=by
 have v:(1:Int)>0:=by decide
 have x:∀c l:Nat,sliceRange (c:Int) (l:Int) 1=(ek (l-c)).map λk=>c+k:=by
  intro c l;unfold sliceRange;rw[if_pos v];by_cases u:(c:Int)<l
  ·rw[if_pos u,Int.ediv_one,Cm];show Cv _ (ek ((l:Int)-c).toNat)=_;rw[Int.toNat_sub];exact bf1 λk y=>by rw[Int.one_mul];rfl
  ·rw[if_neg u,Sz (Int.ofNat_le.mp (Int.not_lt.mp u))];rfl
 unfold RP;simp only[v,if_true];rw[<-x]
 induction e using Option.casesOn<;>induction f using Option.casesOn<;>simp only[HU,Yc,clipAt_cast]<;>rfl
theorem Yd(c:Nat)(i:Int):cg c i<=c:=Int.toNat_le.mpr (Int.max_le.mpr ⟨ku _,Int.min_le_right _ _⟩)
theorem Zm(f:Option Int)(c:Nat):f.elim c (cg c)<=c:=by
 cases f with
 |none=>exact bI _|some f=>exact Yd c f
theorem aT5{x:List Nat}{c i:Nat}(l:i<=x.length)(k:i-c=x.length):ct x c i=x:=by
 unfold ct;rw[k]
 cases c with
 |zero=>exact bf8|succ c=>
  rw[(List.length_eq_zero_iff.mp (Nat.eq_zero_of_not_pos λu=>jn _ (k▸fu (SA (fu (k▸u) (Nat.sub_le i _)) (bh8 c)) l)):x=[])];rfl
theorem Qq{g:Type}{x:List g}{c i:Nat}:(ct x c i).length<=x.length:=aV (List.length_take_le' _ _) (by rw[xL];exact Nat.sub_le _ _)
set_option tactic.hygienic true in
theorem aW1(x:List Nat)(t:Tok)(e f:Option (Int×Tok)){A:cB}{E:ah->az->Prop}{Q:ah->az->Prop}{s:az}(J:fc x=af)
  (c:∀L M,Q (.str (sv (ct x ((e.map (·.1)).elim 0 (cg x.length)) ((f.map (·.1)).elim x.length (cg x.length)))) L) {s with toks:=M}):(sliceMade (sv x) t e f ae).post Q s:=by
 have v:slicePicked (sv x) e f ae=(ek ((f.map (·.1)).elim x.length (cg x.length)-(e.map (·.1)).elim 0 (cg x.length))).map λk=>(e.map (·.1)).elim 0 (cg x.length)+k:=by
  show RP (e.map λy:Int×Tok=>y.1) (f.map λy:Int×Tok=>y.1) 1 x.length=_;exact a14 ..
 have l:=Zm (f.map (·.1)) x.length;revert c v l;generalize(f.map (·.1)).elim x.length (cg x.length)=F;generalize(e.map (·.1)).elim 0 (cg x.length)=u;intro c v l;unfold sliceMade;rw[v];split
 ·rename_i G;rw[dO,beq_iff_eq,beq_iff_eq,bH,be8]at G;have I:=c t s.toks;rw[aT5 l G.2]at I;exact I
 ·have N:((ek (F-u)).map λk=>u+k).filterMap ((sv x).cps[·]?)=ct x u F:=Eq.trans (congrArg (bd5 · _) (funext λi=>be5 ..)) (aH5 x u F l);rw[N];exact⟨aV Qq (aV (tm J) (kz rfl)),c _ _⟩
section
variable{m h:aY}{j B C:ah}{q:aj}{e f:Option Int}{r w:Option (Int×Tok)}
theorem aV4(I:ay D d a b s)(v:VR a s.heap (.str x) j)(y:s.heap.get? q=ac {cls:=.type "slice",data:=.fields #[pY r,pY w,.none]})(E:∀c i,lJ h ag c i=hA [i,c] (kA c i))(F:r.map (·.1)=e)(G:w.map (·.1)=f):
  Ob D A d a s VR (lI m h j (.ref q)) (xp b e f (.str x)):=λP=>by
 refine dy v λk t J=>?_;rw[J];refine vg (T:="str") (typeIs_str _ _ t) PySem.F.slot_str_getitem.lookup ?_ (E _ _);have L:Heap.IsSlice s.heap q r w ae:=br _ y rfl rfl
 with_reducible refine wpAny_getItem_str_slice (l:=r) (u:=w) (st:=ae) L rfl ?_
 refine aW1 (A:=A) (E:=λP P=>True) x t r w k λM N=>?_;rw[F,G];exact dT I (uC (aj4 k ((HN _ _).trans (Sc _ _))))
theorem aV3{l:Nat}{c:List V}(I:ay D d a b s)(y:VR a s.heap (.obj l) j)(E:b[l]?=ac (.list c))(F:s.heap.get? q=ac {cls:=.type "slice",data:=.fields #[pY r,pY w,.none]})(G:∀i k,lJ h ag i k=hA [k,i] (kA i k))(J:IsPart (pY r) e)(L:IsPart (pY w) f):
  Ob D A d a s VR (lI m h j (.ref q)) (.ok (.obj b.length) (b++[.list (ct c (e.elim 0 (cg c.length)) (f.elim c.length (cg c.length)))])):=λY=>by
 refine FD I y E λi M U N u v P x=>?_;rw[N];refine vg (T:="list") (al _ v rfl) PySem.F.slot_list_getitem.lookup ?_ (G _ _);have Q:s.heap.IsSliceOf q (pY r) (pY w) .none:=br _ F rfl rfl
 with_reducible refine bl1 v.isList Q J L .none (λS=>nomatch S) ?_ (x▸aV u (kz rfl))
 refine wY (h:=ct c (e.elim 0 (cg c.length)) (f.elim c.length (cg c.length))) I (j:=slicePick M e f ae) ?_ (aV Qq u) rfl rfl rfl rfl;rw[slicePick_plain,kq,x];exact(P.drop _).take _
end
theorem aV9{m h:aY}{o:V}{i k:Option V}{j B C:ah}{q:aj}(I:ay D d a b s)(y:VR a s.heap o j)(N:fX a s.heap i B)(P:fX a s.heap k C)(l:s.heap.get? q=ac {cls:=.type "slice",data:=.fields #[B,C,.none]})
  (E:∀u v,lJ h ag u v=hA [v,u] (kA u v)):Ob D A d a s VR (lI m h j (.ref q)) (dU b o i k):=by
 unfold dU
 cases Q:ja i with
 |none=>exact .i|some e=>
  cases S:ja k with
  |none=>exact .i|some f=>
   refine bP (Po Q N) λr F T G=>bP (Po S P) λw J U L=>?_;rw[F,J]at l;rw[F]at G;rw[J]at L
   induction o using V.casesOn with
   |str x=>exact aV4 I y l E T U|obj M=>
    show Ob D A d a s VR _ (match b[M]? with|some (.list c)=>.ok (.obj b.length) (b++[.list (ct c (e.elim 0 (cg c.length)) (f.elim c.length (cg c.length)))])|_=>.i)
    cases Y:b[M]? with
    |none=>exact .i|some Z=>induction Z using O.casesOn with
     |list c=>exact aV3 I y Y l E G L|_=>exact .i
   |_=>exact .i
theorem aE2{m h:aY}{o:V}{c i:Option V}{j B C:ah}{q:aj}(I:ay D d a b s)(u:VR a s.heap o j)(v:fX a s.heap c B)(x:fX a s.heap i C)(y:s.heap.get? q=ac {cls:=.type "slice",data:=.fields #[B,C,.none]})(E:dU b o c i≠.i)
  (F:∀k l,lJ h ag k l=hA [l,k] (kA k l)):
  aB (Mo D) A (lI m h j (.ref q)) (bo VR (dU b o c i) D d a s.heap) (bF (dU b o c i) D d a s.heap) s:=aV9 I u v x y F E
end
noncomputable def Gc(i:Bool)(o:Option O)(k:H)(l:Nat)(u:List Nat)(x:V):Option H:=match i,o with
 |true,ac (.ns c)=>if c.length<cN then ac (k.set l (.ns (cL c u x)))else ae
 |_,_=>ae
noncomputable def aU3(P:aZ)(k:H)(i:Nat)(l:List Nat)(x:V):Option O->Option H
 |some (.inst u v)=>Gc (P.bears ag u l) k[v]? k v l x|some (.exc u (ac v) _)=>Gc (P.bears af u l) k[v]? k v l x|some (.exc u ae c)=>if P.bears af u l then ac ((k.set i (.exc u (ac k.length) c))++[.ns [(l,x)]])else ae
 |_=>ae
theorem aU4:dN P c (.obj i) k x=aU3 P c i k x c[i]?:=by kernel_rfl
end
end
section
set_option maxHeartbeats 1000000
set_option tactic.hygienic false
open PySem PySem.W PyProof.Rows PySem.Calls
section
noncomputable def Jh(a:ca)(C:aj)(n:List Nat):Bool:=eO a (.ref C) (sv n)==ac ae
noncomputable def Ow(a:ca)(C:aj)(p:List Nat×ah):Bool:=match p.2 with
 |.ref e=>eO a (.ref C) (sv p.1)==ac (ac (.ref e))&&iq a (.ref e)==ac (.type "function")|_=>ag
structure IL(a:ca)(C:aj)(e:Cl):Prop where
 cd:(jR a C).any (·.hasDict)=af
 ga:eO a (.ref C) "__getattribute__"=ac (ac (.builtin "object.__getattribute__"))
 j8:eO a (.ref C) "__getattr__"=ac ae
 sa:eO a (.ref C) "__setattr__"=ac (ac (.builtin "object.__setattr__"))
 m7:plainOver a C=af
 attrs:e.attrs.all (Jh a C)=af
 meths:e.meths.all (Ow a C)=af
 m8:makesIn a C=af
 m9:iq a (.ref C)=ac (.type "type")
 init:∃f,e.init=.ref f/\eO a (.ref C) "__init__"=ac (ac (.ref f))/\iq a (.ref f)=ac (.type "function")
 reads:readsIn a C (.type "type")=af
 n0:specialIn a (.ref C) "__getattribute__"=ac (ac (.builtin "type.__getattribute__"))
 n1:yc a (.ref C) (.type "type") "__init__"=ac (.val e.init)
noncomputable def DA(a:ca)(C N:aj)(n:List Nat):Bool:=eO a (.ref C) (sv n)==ac ae&&lG a N (sv n)==ac ae&&fastLookup "Exception" (sv n)==ac ae
inductive Df(a:ca)(C:aj)(e:Cl):Prop
 |mk:∀g q N h i j k l m n o p r t f,a.lookup C=ac (CO g q C N h [.type "Exception",.type "BaseException",.type "object"] af i j k l m n o p r t "Exception.__new__")->
  nsOkIn a N=af/\lG a N "__setattr__"=ac ae/\lG a N "__init__"=ac (ac (.ref f))/\e.init=.ref f/\e.attrs.all (DA a C N)=af/\iq a (.ref f)=ac (.type "function")->Df a C e
structure yr(a:ca)(C:aj)(e:Cl):Prop where
 obj:Df a C e
 cd:(jR a C).any (·.hasDict)=af
 ga:eO a (.ref C) "__getattribute__"=ac (ac (.builtin "BaseException.__getattribute__"))
 j8:eO a (.ref C) "__getattr__"=ac ae
 sa:eO a (.ref C) "__setattr__"=ac (ac (.builtin "object.__setattr__"))
theorem yr.U{a:ca}{C:aj}{e:Cl}{G:Prop}(x:yr a C e)(k:∀g q N i j l m n o p t u v w f,a.lookup C=ac (CO g q C N i [.type "Exception",.type "BaseException",.type "object"] af j l m n o p t u v w "Exception.__new__")->
  nsOkIn a N=af/\lG a N "__setattr__"=ac ae/\lG a N "__init__"=ac (ac (.ref f))/\e.init=.ref f/\e.attrs.all (DA a C N)=af/\iq a (.ref f)=ac (.type "function")->G):G:=by
 induction x.obj using Df.casesOn with
 |mk _ _ _ _ _ _ _ _ _ _ _ _ _ _ _ h r=>exact k _ _ _ _ _ _ _ _ _ _ _ _ _ _ _ h r
structure Kt(D:Wd)(a:ca)(P:aZ):Prop where
 l1:a.In D.base
 inst:∀C e,P.cls C=ac e->e.isExc=ag->IL a C e
 exc:∀C e,P.cls C=ac e->e.isExc=af->yr a C e
 fn:∀f F,P.fn f=ac F->iq a (.ref f)=ac (.type "function")
 l2:yc a (.type "Exception") (.type "type") "__init__"=ac (.val (.builtin "Exception.__init__"))
 keep:∀g,(P.fn g).isSome\/(P.cls g).isSome->keepIn a (.ref g)=af
set_option tactic.hygienic true in
theorem aZ.i1{P:aZ}{x:Bool}{C:aj}{n:List Nat}(h:P.bears x C n=af):∃f,P.cls C=ac f/\f.isExc=x/\n∈f.attrs:=by
 unfold aZ.bears at h
 cases e:P.cls C with
 |none=>rw[e]at h;exact nomatch h
 |some f=>
  rw[e]at h;exact dr h λg i=>br f rfl (cW g) (List.contains_iff_mem.mp i)
section
variable{D:Wd}{d:List Env}{b:List aj}{c:H}{s:az}{A:cB}{a:ca}{P:aZ}
theorem Kt.at(T:Kt D a P)(I:ay D d b c s):a.In s.heap:=T.l1.keeps I.base
theorem Kt.own(T:Kt D a P){x:Bool}{C:aj}{n:List Nat}(h:P.bears x C n=af):∃e,jR a C=ac e/\e.hasDict=af/\eO a (.ref C) (sv n)=ac ae:=by
 refine bP (aZ.i1 h) λi l J m=>?_
 cases o:i.isExc with
 |false=>
  have g:=T.inst C i l o;refine ak (HY g.cd) λe j k=>?_;exact br e j k (beq_iff_eq.mp (List.all_eq_true.mp g.attrs n m))
 |true=>
  have g:=T.exc C i l o;refine ak (HY g.cd) λe j k=>?_;refine g.U λp q N t u v w y z B E F G I f J r=>?_;exact br e j k (cW (Bool.and_eq_true_iff.mp (Bool.and_eq_true_iff.mp (List.all_eq_true.mp r.2.2.2.2.1 n m)).1).1)
theorem FH{f:aS}{g:aj}{m:Str->Option ah}(h:f.Ns1 g m):∃o,f.get? g=ac o/\∀k,Il k o=ac (m k):=by
 refine nS h λo i v j l p w r=>?_;refine al o j (λk=>?_);have q:=r k;unfold nsFind findBy at q;unfold Il;rw[l];dsimp only;rw[<-bb0]at q
 cases e:i.toList.find? (λe=>e.key.isStr k)with
 |some x=>rw[e]at q;simp only[bi5]at q;rw[<-q]
 |none=>
  rw[e]at q;simp only[Option.map_none]at q;rw[<-q];dsimp only;rw[if_neg];rw[Array.any_toList,Array.any_eq_false' ..|>.mpr]
  ·exact uM
  ·intro u m;refine eH (p u m) λn t z=>?_;simp[DictEntry.refKey,z]
theorem VR.l3(g:∀f,v≠.m f)(h:VR b l v x):Ih x=af:=by
 induction v using V.casesOn with
 |none=>exact(show x=.none from h)▸rfl
 |j j=>exact(show x=.bool j from h)▸rfl
 |a i=>(refine am h λt e=>?_;subst e);rfl
 |str i=>(refine dy h λn t e=>?_;subst e);rfl
 |tup m=>(refine jk h λn k n n e n=>?_;subst e);rfl
 |obj i=>(refine ak h λk n e=>?_;subst e);rfl
 |m f=>exact absurd rfl (g f)
theorem Gd(I:ay D d b c s){i:Nat}{g:List (List Nat×V)}(e:c[i]?=ac (.ns g)):∃f m,b[i]?=ac f/\g.length<=cN/\s.heap.Ns1 f m/\gB b s.heap g m:=by
 obtain⟨f,h,j,m,k,l⟩:=I.addr e;exact dp f m h j k l
structure sw(D:Wd)(P:aZ)(b:List aj)(c:H)(e:aS)(i:Nat)(n:List Nat)(h:List (List Nat×V))(j:aj)(f:Obj)(C:aj)(x:Bool)(l:Nat)(g:aj)(m:Str->Option ah)(o:Obj):Prop where
 ai:b[i]?=ac j
 di:b[l]?=ac g
 dn:c[l]?=ac (.ns h)
 q9:h.length<=cN
 bears:P.bears x C n=af
 l4:e.get? j=ac f
 cls:f.cls=.ref C
 S:notCls f=af
 dict:f.dict=ac g
 ns:e.Ns1 g m
 names:gB b e h m
 n2:e.get? g=ac o
 look:∀k,Il k o=ac (m k)
theorem Pg(I:ay D d b c s){i g:Nat}{C:aj}{n:List Nat}{l:List (List Nat×V)}(e:c[i]?=ac (.inst C g))(t:P.bears ag C n=af)(o:c[g]?=ac (.ns l)):∃h u j m k,sw D P b c s.heap i n l h u C ag g j m k:=by
 refine RA (I.addr e) λh v j p w=>?_;refine ch (Gd I o) λB m f q r x=>?_;rw[p]at f;(injection f with f;subst f);refine ak (FH r) λk y z=>?_;exact⟨h,_,j,m,k,v,p,o,q,t,w,rfl,rfl,rfl,r,x,y,z⟩
theorem Pf(I:ay D d b c s){i h:Nat}{C:aj}{t:Bool}{n:List Nat}{l:List (List Nat×V)}(e:c[i]?=ac (.exc C (ac h) t))(u:P.bears af C n=af)(o:c[h]?=ac (.ns l)):∃j v k m f,sw D P b c s.heap i n l j v C af h k m f:=by
 refine Ht (I.addr e) λj w f G x L y L=>?_;refine ak y λk p z=>?_;subst z;refine ch (Gd I o) λJ m g q r B=>?_;rw[p]at g;(injection g with g;subst g);refine ak (FH r) λf E F=>?_;exact⟨j,_,k,m,f,w,p,o,q,u,x,rfl,rfl,rfl,r,B,E,F⟩
set_option tactic.hygienic true in
theorem YO(h:hO f n=ac x):dJ f n=ac x/\∀g,x≠.m g:=by
 unfold hO at h
 cases q:dJ f n with
 |none=>rw[q]at h;exact nomatch h
 |some v=>
  rw[q]at h
  induction v using V.casesOn<;>first|exact no_some h|exact⟨h,λg e=>by injection(ax h).trans e⟩
theorem gB.get{m:Str->Option ah}(N:gB b e f m)(h:dJ f n=ac x):∃y,m (sv n)=ac y/\VR b e x y:=by
 have:=N.2 n;unfold dJ at h;rw[h]at this;exact this
theorem ad9(e:jR a C=ac f)(g:f.hasDict=af)(h:eO a (.ref C) n=ac ae)(i:Il n j=ac (ac v)):SX a C (ac j) n=ac (.value v):=by
 unfold SX;rw[e,h];simp only[bi2];unfold W.ownOf;rw[if_pos g];dsimp only;rw[i]
theorem ah9:builtinKind "BaseException.__getattribute__"=ac .slot:=by decide+kernel
theorem ai0:splitId "BaseException.__getattribute__"=ac ("BaseException","__getattribute__"):=by decide+kernel
theorem ah8{Q:Unit->az->Prop}{E:ah->az->Prop}(L:jQ M s.heap (ye (.ref x) (.type "BaseException")) af)(q:Q () s):aB M A (checkBuiltinCall "BaseException.__getattribute__" ⟨[.ref x,e],[]⟩) Q E s:=
 check_slot (i:="BaseException.__getattribute__") (owner:="BaseException") (n:="__getattribute__") (self:=.ref x) (rest:=[e]) (kw:=[]) ah9 ai0 L (PySem.F.args_bexc_ga _ _) q
theorem ai9{Q:ah->az->Prop}{E:ah->az->Prop}(e:a.In s.heap)(J:InstAt s.heap x w C j)(k:eO a (.ref C) "__getattribute__"=ac (ac (.builtin "BaseException.__getattribute__")))
  (l:eO a (.ref C) "__getattr__"=ac ae) (m:mroIn a C (.type "BaseException")=ac af)
  (n:SX a C j o=ac (.value v)) (p:Ih v=af) (h:Q v {s with toks:=s.toks+1}):aB (Mo D) A (yd (.ref x) o i) Q E s:=by
 obtain⟨q,g,y,t,z⟩:=s;have f:=J.type (M:=Mo D);have r:=CR (M:=Mo D) e k;have u:=looks_find (M:=Mo D) e J n;unfold yd getAttrBy;refine aD (wpAny_mkText (gc (aD (f.at (aD (r.at ?_))))));dsimp only;rw[(by rw[(by decide+kernel:(Value.builtin "BaseException.__getattribute__"==Value.builtin "object.__getattribute__")=false)];rfl:(onTheHeap (Value.ref C)&&Value.builtin "BaseException.__getattribute__"==Value.builtin "object.__getattribute__")=false),if_neg uM];unfold getAttrByItsOwn hookBefore;rw[show onTheHeap (lE C)=af from rfl,if_pos rfl];refine aD ((CR (M:=Mo D) e l).at (aD (wpAny_attempt (gc ?_))));unfold callGetattribute;rw[(by induction i using Bool.casesOn<;>rfl:(i&&onTheHeap (Value.builtin "BaseException.__getattribute__"))=false),if_neg uM];unfold boundAndCalled;rw[(PySem.F.attr_Exception.ga.bind (.ref x))];refine aD (bz ?_);refine CZ ?_;refine CM PySem.F.attr_Exception.ga.plain PySem.F.entry_bexc_ga ?_;refine ah8 (by unfold ye;exact f.andThen (Td (M:=Mo D) e m):Looks (Mo D) q (isInstance (.ref x) (.type "BaseException")) true) ?_;unfold Builtin.«object.__getattribute__»
 repeat(first|with_reducible refine f.at ?_|with_reducible refine u.at ?_|wp_step)
 show aB _ _ (handedOut v) _ _ _;rw[handedOut_of p];exact bz h
noncomputable def mU(P:aZ)(c:H)(v:V)(n:List Nat):R V:=fW c (dH P c v n)
theorem Ob.l5{D:Wd}{A:cB}{d:List Env}{b:List aj}{s:az}{t:Sem ah}{f:Bool}{o:Option O}{F:List (List Nat×V)->Option V}(k:∀e,f=af->o=ac (.ns e)->Ob D A d b s VR t (fW c (F e))):Ob D A d b s VR t (fW c (match(generalizing:=false) f,o with|true,ac (.ns e)=>F e|_,_=>ae)):=by
 cases f with
 |false=>exact .i|true=>cases o with
  |none=>exact .i|some o=>induction o using O.casesOn with
   |ns e=>exact k e rfl rfl|_=>exact .i
theorem Kt.l6(T:Kt D a P){C:aj}{g:Cl}(h:P.cls C=ac g)(i:g.isExc=af):mroIn a C (.type "BaseException")=ac af:=by
 refine(T.exc C g h i).U λj q N k l m n o p r t u v w f e x=>?_;unfold mroIn jR;rw[e];unfold CO;simp only[bi3,List.isEmpty_cons,RO,if_false];rfl
theorem sw.i7{P:aZ}{f:aS}{i:Nat}{n:List Nat}{k:List (List Nat×V)}{g:aj}{h:Obj}{C:aj}{x:Bool}{l:Nat}{o:aj}{m:Str->Option ah}{j:Obj}(e:sw D P b c f i n k g h C x l o m j):HX f g h C (ac j):=
 ⟨e.l4,e.cls,e.S,by rw[e.dict];exact e.n2⟩
theorem Jj{i:Nat}{k:ah}{n:List Nat}{r:Bool}{l:List (List Nat×V)}{t:aj}{u:Obj}{C:aj}{o:Bool}{v:Nat}{w:aj}{m:Str->Option ah}{z:Obj}(T:Kt D a P)(I:ay D d b c s)(B:VR b s.heap (.obj i) k)(e:sw D P b c s.heap i n l t u C o v w m z):Ob D A d b s VR (yd k (sv n) r) (fW c (hO l n)):=.i0 λx E Y=>by
 refine ak (eC B) λS F G=>aP (YO E) λJ p=>ak (e.names.get J) λy L f=>bP (T.own e.bears) λU M N Q=>bP (aZ.i1 e.bears) λj g h Y=>?_;have q:=ad9 M N Q (by rw[e.look,L]);rw[G,ax (F.symm.trans e.ai)]
 cases o with
 |false=>exact get_value (T.at I) e.i7 (T.inst C j g h).ga q (VR.l3 p f) (dT I f)|true=>exact ai9 (T.at I) e.i7 (T.exc C j g h).ga (T.exc C j g h).j8 (T.l6 g h) q (VR.l3 p f) (dT I f)
theorem Vs{v:V}{j:ah}{n:List Nat}{m:Bool}(T:Kt D a P)(I:ay D d b c s)(k:VR b s.heap v j):Ob D A d b s VR (yd j (sv n) m) (mU P c v n):=by
 unfold mU dH
 induction v using V.casesOn with
 |obj i=>
  dsimp only
  cases l:c[i]? with
  |none=>exact .i|some o=>induction o using O.casesOn with
   |inst C e=>exact .l5 λp f g=>uJ (Pg (P:=P) I l f g) λr r r r r h=>Jj T I k h|exc C e q=>cases e with
    |none=>exact .i|some e=>exact .l5 λp f g=>uJ (Pf (P:=P) I l f g) λr r r r r h=>Jj T I k h
   |_=>exact .i
 |_=>exact .i
theorem aD1(T:Kt D a P)(I:ay D d b c s)(e:VR b s.heap v f)(g:mU P c v n≠.i):
  aB (Mo D) A (yd f (sv n) h) (bo VR (mU P c v n) D d b s.heap) (bF (mU P c v n) D d b s.heap) s:=Vs T I e g
end
end
end
section
set_option maxHeartbeats 1000000
set_option backward.match.sparseCases true
set_option tactic.hygienic false
open PySem PySem.W PyProof.Rows PySem.Calls Builtin Builtin.ObjectAttr
section
theorem LQ{v:V}:cL [] k v=[(k,v)]:=rfl
theorem Ei{v:V}:cL ((a,g)::r) k v=if a=k then(k,v)::r else(a,g)::cL r k v:=rfl
theorem Ak(a:List (List Nat×V))(k:List Nat)(v:V):(cL a k v).length<=a.length+1:=by
 induction a with
 |nil=>exact bI _|cons p r g=>
  obtain⟨h,i⟩:=p;rw[Ei];by_cases q:h=k
  ·rw[if_pos q];exact nY _
  ·rw[if_neg q];exact uV g
theorem au8(g:List (List Nat×V))(k:List Nat)(v:V)(x:List Nat):(cL g k v).lookup x=if x=k then ac v else g.lookup x:=by
 induction g with
 |nil=>
  rw[LQ,jP];by_cases h:x=k
  ·subst h;simp
  ·have:(x==k)=ag:=beq_eq_false_iff_ne.mpr h;rw[this,if_neg h]
 |cons p r j=>
  obtain⟨a,l⟩:=p;rw[Ei];by_cases i:a=k
  ·subst i;rw[if_pos rfl,jP,jP];by_cases h:x=a
   ·subst h;simp
   ·have:(x==a)=ag:=beq_eq_false_iff_ne.mpr h;rw[this,if_neg h]
  ·rw[if_neg i,jP,jP];by_cases h:x=a
   ·subst h;simp[i]
   ·have:(x==a)=ag:=beq_eq_false_iff_ne.mpr h;rw[this];exact j
theorem Bj(h:x=k\/x∈a.map (·.1)):x∈(cL a k v).map (·.1):=by
 induction a with
 |nil=>simpa[LQ]using h|cons p r g=>
  obtain⟨j,l⟩:=p;rw[Ei];by_cases i:j=k
  ·subst i;rw[if_pos rfl];rw[eU,iR]at h⊢;rcases h with h|h|h
   ·exact .inl h
   ·exact .inl h
   ·exact .inr h
  ·rw[if_neg i];rw[eU,iR]at h⊢;rcases h with h|h|h
   ·exact .inr (g (.inl h))
   ·exact .inl h
   ·exact .inr (g (.inr h))
section
variable{D:Wd}{e:List Env}{c:List aj}{d:H}{b:az}{A:cB}{f:ca}{P:aZ}
theorem BQ(h:a≠g):sv a≠sv g:=λi=>by
 have:(sv a==sv g)=af:=by rw[i];simp
 rw[xy,beq_iff_eq]at this;exact h this
theorem gB.put{m:Str->Option ah}(N:gB c l g m)(h:VR c l x y):gB c l (cL g n x) (λz=>if z=sv n then ac y else m z):=by
 refine⟨λz o=>?_,λk=>?_⟩
 ·by_cases a:z=sv n
  ·subst a;exact List.mem_map.mpr (by
    have:=Bj (a:=g) (k:=n) (v:=x) (x:=n) (.inl rfl);refine ak (List.mem_map.mp this) λp i j=>?_;exact al p i (by rw[j]))
  ·simp only[a,if_false]at o;refine ak (List.mem_map.mp (N.1 z o)) λp i j=>?_;have:=Bj (a:=g) (k:=n) (v:=x) (x:=p.1) (.inr (List.mem_map.mpr (al p i rfl)));refine ak (List.mem_map.mp this) λq r s=>?_;exact List.mem_map.mpr (al q r (by rw[s,j]))
 ·rw[au8];by_cases a:k=n
  ·subst a;simp only[if_true];exact al y rfl h
  ·have:=BQ a;simp only[a,if_false,this];exact N.2 k
def RU(_:List aj)(_:aS)(_ _:Unit):Prop:=True
noncomputable def lu(o:Option H):R Unit:=match o with
 |some h=>.ok () h|none=>.i
theorem Ob.put(k:∀a,g=af->o=ac (.ns a)->a.length<cN->Ob D A e c b RU t (.ok () (h.set j (.ns (cL a n x))))):Ob D A e c b RU t (lu (Gc g o h j n x)):=by
 cases g with
 |false=>exact .i|true=>cases o with
  |none=>exact .i|some o=>induction o using O.casesOn with
   |ns a=>
    show Ob D A e c b RU t (lu (if a.length<cN then _ else ae));by_cases q:a.length<cN
    ·rw[if_pos q];exact k a rfl rfl q
    ·rw[if_neg q];exact .i
   |_=>exact .i
theorem Ob.n3{a:Prop}[Decidable a](k:a->Ob D A e c b RU t (.ok () h)):Ob D A e c b RU t (lu (if a then ac h else ae)):=by
 by_cases q:a
 ·rw[if_pos q];exact k q
 ·rw[if_neg q];exact .i
theorem FT(h:n<=cN):n<=mL:=by rw[yg];unfold cN at h;lia
theorem OT(I:ay D e c d b){a:Nat}{i:aj}{g:List (List Nat×V)}{m:Str->Option ah}{n:List Nat}{x:V}{y:ah}{j:aS}{l:Nat}(p:c[a]?=ac i)(q:d[a]?=ac (.ns g))(r:g.length<cN)
  (N:gB c b.heap g m) (s:VR c b.heap x y) (t:j.Ns1 i (λz=>if z=sv n then ac y else m z)) (u:∀h o,h≠i->b.heap.get? h=ac o->j.get? h=ac o):
  bo RU (.ok () (d.set a (.ns (cL g n x)))) D e c b.heap () {b with heap:=j,toks:=l}:=by
 have v:a<d.length:=(List.getElem?_eq_some_iff.mp q).1;obtain⟨k,w⟩:=I.set (p:={b with heap:=j,toks:=l}) (j:=a) (r:=i) (o:=.ns (cL g n x)) p (λh B C E=>u h C B E) v (λz=>absurd z (I.h8 q p (by simp))) (λk=>by
  exact AJ (aV (Ak ..) r) _ t (gB.mv (k.mv I.Y) (N.put s))) rfl rfl rfl
 exact⟨(),_,c,rfl,k,w,trivial⟩
theorem a38(h:eO f (.ref C) n=ac ae):takerIn f C n=ac ae:=by unfold takerIn;rw[h];rfl
theorem Rp{j:aS}{k:List (List Nat×V)}{a:aj}{m:Str->Option ah}(N:CG m (k.map λp=>sv p.1))(h:j.Ns1 a m)(n:k.length<=cN):∃o g i,j.get? a=ac o/\o.data=.dict g i/\g.size<=mL+1:=by
 refine fi (h.count N) λo g i q r l=>?_;exact lZ o g i q r (by rw[bH]at l;exact Nat.le_succ_of_le (aV l (FT n)))
theorem aU7{i:Nat}{n:List Nat}{p:List (List Nat×V)}{q:aj}{r:Obj}{C:aj}{G:Nat}{l:aj}{m:Str->Option ah}{J:Obj}{x:V}{y:ah}{Q:Unit->az->Prop}{E:ah->az->Prop}
  (T:Kt D f P) (I:ay D e c d b) (g:sw D P c d b.heap i n p q r C ag G l m J) (L:p.length<cN) (M:VR c b.heap x y)
  (h:∀o N,o.Ns1 l (λz=>if z=sv n then ac y else m z)->pB l b.heap o->Q () {b with heap:=o,toks:=N}):
  aB (Mo D) A (CU (.ref q) (sv n) y) Q E b:=by
 refine bP (aZ.i1 g.bears) λS U Y Z=>?_;have t:=T.inst C S U Y;refine bP (T.own g.bears) λcd c1 c2 c3=>?_;have F:=T.at I;refine set_plain F g.i7 t.sa ?_;refine osa_open (s:={b with toks:=b.toks+1}) F g.i7 t.m7 (a38 c3) λz6=>?_;dsimp only;have u:=g.cls;have hn:=g.S;have v:=g.dict;obtain⟨oc,z7,z8,z9⟩:=r;dsimp only at u v;subst u v;refine aD (bz (aD (aD (Tu g.l4 ?_))));have go:aB (Mo D) A.in1 (Ix l (.str (sv n) b.toks) (sv n) y) (λ(z0:Fin) j=>match z0 with|.done z1=>(match(Except.ok z1:rV)with|.ok (.ret _)=>Q () j|.ok _=>False|.error k=>E k j)|.again w=>w.quiet=af/\jp (Mo D) A w (λz2 j=>match z2 with|.ok (.ret _)=>Q () j|.ok _=>False|.error k=>E k j) j) (λk j=>E k j) {b with toks:=b.toks+1}:=by
  unfold Ix newKeyGuard;refine aD (bz (aD (wpAny_nsSet1 (s:={b with toks:=b.toks+1}) g.ns λo B hs=>?_)));refine fi (Rp (g.names.put (n:=n) M).1 B (aV (Ak ..) L)) λoD za zb z3 z4 z5=>?_;refine aD (bl2 z3 (by rw[z4];exact bk8 z5) ?_);exact bz (h o _ B hs)
 refine aD (Im F c1 _ _ _ _ (λZ Z k=>k) ?_);rw[c2];exact bz (a:=ac l) (aD (bz go))
theorem aE9{i:rV->az->Prop}(k:f.In b.heap)(J:HX b.heap x y C z)(m:jR f C=ac n)
  (o:n.mro=[.ref C,.type "Exception",.type "BaseException",.type "object"]) (q:eO f (.ref C) a=ac ae)
  (h:∀r,aB (Mo D) A.in1 (Iy (.ref x) (.ref C) (.str a l) a v r)
   (λs j=>match s with|.done t=>i (.ok t) j|.again p=>p.quiet=af/\jp (Mo D) A p i j) (λu j=>i (.error u) j) b):
  jp (Mo D) A (.call (.builtin "object.__setattr__") ⟨[.ref x,.str a l,v],[]⟩) i b:=by
 have g:=PySem.F.store_object;have w:jQ (Mo D) b.heap (ye (.ref x) (.type "object")) af:=J.type.andThen (Td k (by unfold mroIn;rw[m,bi3,o];first|done|rfl));refine CM g.slot.plain g.entry (@check_slot (Mo D) _ _ b "object.__setattr__" "object" "__setattr__" (.ref x) [.str a l,v] [] _ g.kind g.split w (g.args (.ref x) (.str a l) v) ?_);rw[osa_eq,refuse_eq];refine aD (aD (J.type.here (aD (((Im k m).andThen .now:jQ (Mo D) b.heap (mroOf (.ref C)) n.mro).here ?_))));rw[o];rw[refuseLoop_ref];rw[PySem.F.store_Exception.passes];refine bz (aD (J.type.here (aD ((CR k q).here (aD ?_)))));exact bz (h _)
theorem Ew(T:Kt D f P)(h:P.cls C=ac a)(i:a.isExc=af):∃g,jR f C=ac g/\g.hasDict=af/\g.mro=[.ref C,.type "Exception",.type "BaseException",.type "object"]/\eO f (.ref C) "__setattr__"=ac (ac (.builtin "object.__setattr__")):=by
 refine(T.exc C a h i).U λk q N l m n o p r s t u v w x j y=>?_;refine jW _ (by unfold jR;rw[j];first|done|(unfold excClassObj;rfl)) rfl rfl ((T.exc C a h i).sa)
theorem Qf{k:Cl}{Q:Unit->az->Prop}{E:ah->az->Prop}
  (T:Kt D f P) (I:ay D e c d b) (J:HX b.heap x t C u) (j:P.bears af C n=af)
  (h:∀g,aB (Mo D) A.in1 (Iy (.ref x) (.ref C) (.str (sv n) b.toks) (sv n) y g) (λi a=>match i with|.done (.ret _)=>Q () a|_=>False) (λl a=>E l a) {b with toks:=b.toks+1}):
  aB (Mo D) A (CU (.ref x) (sv n) y) Q E b:=by
 refine bP (aZ.i1 j) λk m o B=>?_;refine iP (Ew T m o) λv p w q r=>?_;refine bP (T.own j) λB B B s=>?_;have F:=T.at I;refine set_plain F J r ?_;refine aE9 (b:={b with toks:=b.toks+1}) F J p q s λg=>?_;refine bb (h g) (λi a z=>?_) λB B z=>z;rcases i with(_|_|_|B)|B<;>first|exact z|exact z.elim
theorem Qz{i:aj}{n:List Nat}{a:List (List Nat×V)}{m:Str->Option ah}{y:ah}{j:Tok}{Q:Fin->az->Prop}{E:ah->az->Prop}(t:CG m (a.map λp=>sv p.1))(u:a.length<cN)(v:b.heap.Ns1 i m)
  (h:∀g j,g.Ns1 i (λz=>if z=sv n then ac y else m z)->pB i b.heap g->Q (.done (.ret .none)) {b with heap:=g,toks:=j}):aB (Mo D) A (Ix i (.str (sv n) j) (sv n) y) Q E b:=by
 unfold Ix newKeyGuard;refine aD (bz (aD (wpAny_nsSet1 v λg o w=>?_)));have x:CG (λz=>if z=sv n then ac y else m z) ((cL a n (.none:V)).map λp=>sv p.1):=by
  intro z r;by_cases s:z=sv n
  ·subst s;refine ak (List.mem_map.mp (Bj (a:=a) (k:=n) (v:=.none) (x:=n) (.inl rfl))) λp k l=>?_;exact List.mem_map.mpr (al p k (by rw[l]))
  ·simp only[s,if_false]at r;refine ak (List.mem_map.mp (t z r)) λp k l=>?_;refine ak (List.mem_map.mp (Bj (a:=a) (k:=n) (v:=.none) (x:=p.1) (.inr (List.mem_map.mpr (al p k rfl))))) λq B C=>?_;exact List.mem_map.mpr (al q B (by rw[C,l]))
 refine fi (Rp x o (aV (Ak ..) u)) λJ L M F G I=>?_;refine aD (bl2 F (by rw[G];exact bk8 I) ?_);exact bz (h g _ o w)
theorem ab4{x C g:aj}{o:Array ah}{n:List Nat}{k:List (List Nat×V)}{m:Str->Option ah}{l:xH}{y:ah}{i:Tok}{q:Bool}{Q:Fin->az->Prop}{E:ah->az->Prop}(r:f.In b.heap)(s:jR f C=ac l)(t:l.hasDict=af)
  (u:b.heap.get? x=ac {cls:=.ref C,dict:=ac g,data:=.fields o}) (v:CG m (k.map λp=>sv p.1)) (w:k.length<cN) (B:b.heap.Ns1 g m)
  (h:∀j i,j.Ns1 g (λz=>if z=sv n then ac y else m z)->pB g b.heap j->Q (.done (.ret .none)) {b with heap:=j,toks:=i}):aB (Mo D) A (Iy (.ref x) (.ref C) (.str (sv n) i) (sv n) y q) Q E b:=by
 refine aD (bz (aD (aD (Tu u ?_))));refine aD (Im r s _ _ _ _ (λG G F=>F) ?_);rw[t];refine bz (a:=ac g) (aD (bz ?_));exact Qz (j:=i) v w B h
theorem ab2{x C:aj}{k:Array ah}{n:List Nat}{l:xH}{y:ah}{g:Tok}{a:Bool}{Q:Fin->az->Prop}{E:ah->az->Prop}(t:f.In b.heap)(u:jR f C=ac l)(v:l.hasDict=af)
  (j:b.heap.get? x=ac {cls:=.ref C,dict:=ae,data:=.fields k})
  (h:∀i g,i.Ns1 b.heap.objs.size (λz=>if z=sv n then ac y else ae)->i.get? x=ac {cls:=.ref C,dict:=ac b.heap.objs.size,data:=.fields k}->(∀a o,a≠x->b.heap.get? a=ac o->i.get? a=ac o)->Q (.done (.ret .none)) {b with heap:=i,toks:=g}):aB (Mo D) A (Iy (.ref x) (.ref C) (.str (sv n) g) (sv n) y a) Q E b:=by
 refine aD (bz (aD (aD (Tu j ?_))));refine aD (Im t u _ _ _ _ (λL L m=>m) ?_);rw[v];have p:=ie {cls:=.type "dict",data:=.dict #[]} j;have q:x≠b.heap.objs.size:=pO (fj j);show aB _ _ (alloc {cls:=.type "dict",data:=.dict #[]}>>=_) _ _ _;refine aD (wpAny_alloc' ?_);refine aD (wpAny_update' p ?_);refine bz ?_;have w:((b.heap.push {cls:=.type "dict",data:=.dict #[]}).update x λo=>{cls:=o.cls,dict:=ac b.heap.objs.size,data:=o.data,slots:=o.slots}).get? b.heap.objs.size=ac {cls:=.type "dict",data:=.dict #[]}:=
  (HA _ _ _ _ q.symm).trans (bc1 rfl rfl)
 have B:((b.heap.push {cls:=.type "dict",data:=.dict #[]}).update x λo=>{cls:=o.cls,dict:=ac b.heap.objs.size,data:=o.data,slots:=o.slots}).Ns b.heap.objs.size (λL=>ae):=
  fG _ (#[]) _ w rfl (λm F=>absurd F (by simp)) (λL=>rfl)
 refine aD (bz ?_);refine Qz (j:=g) (a:=[]) (m:=λL=>ae) (λz G=>absurd rfl G) (by decide) (RY B) λi g I r=>h i g I ?_ λa o J s=>?_
 ·refine(r.2 x q).trans ?_;exact pC _ p rfl
 ·refine(r.2 a (pO (fj s))).trans ((HA _ _ _ _ J).trans (ie _ s))
theorem aa9(I:ay D e c d b)(U:c[i]?=ac a)(Y:d[i]?=ac (.exc C ae k))
  (L:b.heap.get? a=ac {cls:=.ref C,dict:=ae,data:=.fields h}) (z4:h.size=6) (z5:∃l,h[1]?=ac l/\(l=.none\/∃T,l=.ref T/\D.base.get? T=ae/\dC b.heap T)) (z6:∃M,h[2]?=ac M/\(k=ag->M=.none))
  (hx:VR c b.heap x z7) (hn:m.Ns1 b.heap.objs.size (λz=>if z=sv n then ac z7 else ae)) (z8:m.get? a=ac {cls:=.ref C,dict:=ac b.heap.objs.size,data:=.fields h}) (hs:∀g o,g≠a->b.heap.get? g=ac o->m.get? g=ac o):
  bo RU (.ok () ((d.set i (.exc C (ac d.length) k))++[.ns [(n,x)]])) D e c b.heap () {b with heap:=m,toks:=tk}:=by
 have t:b.heap.get? b.heap.objs.size=ae:=by
  cases q:b.heap.get? b.heap.objs.size with
  |none=>rfl|some o=>exact absurd (fj q) (jn _)
 have zd:b.heap.objs.size≠a:=λj=>by rw[j,L]at t;injection t
 have z9:i<d.length:=(List.getElem?_eq_some_iff.mp Y).1;obtain⟨p,u⟩:=I.alloc (t:={b with heap:=b.heap.push {cls:=.type "dict",data:=.dict #[]}}) (A:=ya) (o:=.ns []) (λg o j=>ie _ j) (r:=b.heap.objs.size) t
  (Nk (gb _) (λZ=>ae) (RY (fG _ (#[]) 0 (mH _ rfl) rfl (λj he=>absurd he (by simp)) (λZ=>rfl))) (λz v=>absurd rfl v) (λza=>rfl)) rfl rfl rfl
 have N:(b.heap.push {cls:=.type "dict",data:=.dict #[]}).get? a=ac {cls:=.ref C,dict:=ae,data:=.fields h}:=ie _ L;have w:((b.heap.push {cls:=.type "dict",data:=.dict #[]}).update a λo=>{cls:=o.cls,dict:=ac b.heap.objs.size,data:=o.data,slots:=o.slots}).get? a=ac {cls:=.ref C,dict:=ac b.heap.objs.size,data:=.fields h}:=
  pC _ N rfl
 have p1:(c++[b.heap.objs.size])[i]?=ac a:=gH (ij ..) U;have y:(c++[b.heap.objs.size])[d.length]?=ac b.heap.objs.size:=by rw[<-I.len,fM (bI _),gJ];rfl
 obtain⟨Q,B⟩:=u.set (p:={b with heap:=(b.heap.push {cls:=.type "dict",data:=.dict #[]}).update a λo=>{cls:=o.cls,dict:=ac b.heap.objs.size,data:=o.data,slots:=o.slots}}) (j:=i) (r:=a) (o:=.exc C (ac d.length) k) p1
  (λg E F r=>(HA _ _ _ _ E).trans r) (by simp;lia) (λ⟨o,ws,T,z1,z2,z3⟩=>by
   have G:=N.symm.trans z1
   (injection G with G;subst G)
   exact lZ _ ws T w z2 z3) (λJ=>by
   refine ak z5 λl t1 t2=>?_;refine qT _ h w z4 (al b.heap.objs.size y rfl) (al l t1 (t2.imp id ?_)) z6;intro z0;refine bP z0 λT q1 q2 s=>?_;exact br T q1 q2 ((s.kept p.kept (I.e2 T s)).kept J.kept (u.e2 T (s.kept p.kept (I.e2 T s)):T∉c++[b.heap.objs.size]))) rfl rfl rfl
 obtain⟨zb,S⟩:=B.set (p:={b with heap:=m,toks:=tk}) (j:=d.length) (r:=b.heap.objs.size) (o:=.ns [(n,x)]) y (λg E F r=>by
   by_cases q:g=a
   ·subst q;have:=w.symm.trans r
    (injection this with this;subst this);exact z8
   ·have zc:=(HA _ _ _ _ q).symm.trans r;have:b.heap.get? g=ac F:=by
     rcases Heap.get?_push_cases zc with⟨z,Z⟩|z
     ·exact absurd z E
     ·exact z
    exact hs g F q this) (by simp) (λz=>absurd z (B.h8 (o:=.ns []) (by rw[fZ (by lia)];simp) y (by simp))) (λJ=>by
   refine AJ (by simp[cN]) _ hn ?_;have N0:gB c b.heap [] λZ=>ae:=⟨λz v=>absurd rfl v,λza=>rfl⟩
   have:=N0.put (n:=n) hx;exact gB.mv (J.mv B.Y) (gB.mv (Q.mv u.Y) (gB.mv (p.mv I.Y) this))) rfl rfl rfl
 have j:((d++[O.ns []]).set i (O.exc C (ac d.length) k)).set d.length (O.ns [(n,x)])=(d.set i (O.exc C (ac d.length) k))++[O.ns [(n,x)]]:=by
  rw[Sp _ _ z9];rw[HJ _ _ (by simp)];simp
 rw[j]at S;exact⟨(),_,_,rfl,(p.trans Q).trans zb,S,trivial⟩
theorem aU8{v x:V}{N y:ah}{n:List Nat}(T:Kt D f P)(I:ay D e c d b)(ha:VR c b.heap v N)(m:VR c b.heap x y):Ob D A e c b RU (CU N (sv n) y) (lu (dN P d v n x)):=by
 induction v using V.casesOn with
 |obj z2=>
  refine ak (eC ha) λa' p q=>?_;rw[q];have F:=T.at I;rw[aU4]
  cases r:d[z2]? with
  |none=>exact .i|some o=>induction o using O.casesOn with
   |inst C t=>
    refine .put λes g u i Z=>uJ (Pg (P:=P) I r g u) λz3 ox Q z4 od a=>?_;rw[ax (p.symm.trans a.ai)];exact aU7 T I a i m λS U j k=>OT I a.di a.dn i a.names m j λl o w z=>(k.2 l w).trans z
   |exc C t z5=>
    refine Ht (I.addr r) λa1 z6 Y vs h z7 q s=>?_;rw[<-ax (p.symm.trans z6)]at h
    cases t with
    |some t=>
     refine .put λes g u i Z=>uJ (Pf (P:=P) I r g u) λz3 ox Q z4 od a=>bP (aZ.i1 g) λB E G Z=>iP (Ew T E G) λcd L M c3 c4=>?_;rw[show Y=ac Q from ak q λz9 h2 s=>s.trans (h2.symm.trans a.di)]at h;have J:=a.i7;rw[<-ax (p.symm.trans a.ai)]at J;exact Qf (k:=B) T I J g λl=>ab4 (b:={b with toks:=b.toks+1}) F L M h a.names.1 i a.ns λS U j k=>OT I a.di a.dn i a.names m j λl o w z=>(k.2 l w).trans z
    |none=>
     refine .n3 λg Z=>bP (aZ.i1 g) λB E G Z=>iP (Ew T E G) λcd L M c3 c4=>?_;rw[show Y=ae from q]at h;have J:HX b.heap a' {cls:=.ref C,dict:=ae,data:=.fields vs} C ae:=⟨h,rfl,rfl,trivial⟩
     exact Qf (k:=B) T I J g λl=>ab2 (b:={b with toks:=b.toks+1}) F L M h λS U j z8 k=>aa9 (d:=d) (C:=C) (k:=z5) I p r h z7 s.1 s.2 m j z8 k
   |_=>exact .i
 |_=>exact .i
theorem aD9(T:Kt D f P)(I:ay D e c d b)(a:VR c b.heap v g)(h:VR c b.heap x y)(i:lu (dN P d v n x)≠.i):
  aB (Mo D) A (CU g (sv n) y) (bo RU (lu (dN P d v n x)) D e c b.heap) (bF (lu (dN P d v n x)) D e c b.heap) b:=aU8 T I a h i
end
end
end
section
set_option maxHeartbeats 1000000
set_option tactic.hygienic false
open PySem PySem.W PyProof.Rows PySem.Calls Builtin Builtin.ObjectAttr
noncomputable def UC(c:Nat)(l:List Nat):Option Nat->Prop
 |none=>∀v:Nat,l[v]?≠ac c|some k=>l[k]?=ac c/\∀v:Nat,v<k->l[v]?≠ac c
theorem ad2:jV c (x::r)=if x=c then ac 0 else(jV c r).map (· +1):=rfl
theorem ad3(c:Nat)(l:List Nat):UC c l (jV c l):=by
 induction l with
 |nil=>exact λv z=>nomatch(Sg (i:=v)).symm.trans z|cons x r a=>
  rw[ad2];by_cases h:x=c
  ·rw[if_pos h];exact⟨congrArg ac h,λv b=>absurd b (fw _)⟩
  ·rw[if_neg h]
   cases q:jV c r with
   |none=>
    rw[q]at a;exact λv=>by
     cases v with
     |zero=>exact λz=>h (ax z)|succ v=>exact a v
   |some k=>
    rw[q]at a;exact⟨a.1,λv b=>by
     cases v with
     |zero=>exact λz=>h (ax z)|succ v=>exact a.2 v (nZ b)⟩
theorem Mt(c:Nat)(s:List Nat)(b:Int)(h:0<=b)(u:b<=s.length):SI (sv s) ⟨#[c]⟩ b=lV c s b.toNat:=by
 have i:SY (sv s).length b=b.toNat:=by unfold SY;rw[if_neg (Int.not_lt.mpr h),HC h]
 have w:(sv s).length=s.length:=rfl;have e:∀v,v<s.length->((sv s).cps.getD v 0=c↔s[v]?=ac c):=by
  intro v o;simp[Array.getD,o]
 have S:=ad3 c (s.drop b.toNat);unfold lV;rcases StrLaws.find3_spec (sv s) c b with⟨f,a⟩|⟨k,f,a,p,r,l⟩
 ·rw[f];rw[i]at a
  cases q:jV c (s.drop b.toNat)with
  |none=>rfl|some k=>
   rw[q]at S;have:=S.1;rw[Cq]at this;have d:=(List.getElem?_eq_some_iff.mp this).1;exact absurd ((e _ d).mpr this) (a _ (dm ..) d)
 ·rw[f];rw[i]at a l;have m:b.toNat+(k-b.toNat)=k:=rQ a;have n:=(e k p).mp r
  cases q:jV c (s.drop b.toNat)with
  |none=>
   rw[q]at S;have:=S (k-b.toNat);rw[Cq,m]at this;exact absurd n this
  |some j=>
   rw[q]at S;have g:=S.1;rw[Cq]at g;have d:=(List.getElem?_eq_some_iff.mp g).1;have t:¬k-b.toNat<j:=λz=>by
    have:=S.2 _ z;rw[Cq,m]at this;exact this n
   exact congrArg Int.ofNat ((xS a).symm.trans (congrArg (· +b.toNat) (bg7 (Nat.sub_le_iff_le_add'.mpr (Nat.not_lt.mp (λz=>l _ (dm ..) z ((e _ d).mpr g):¬b.toNat+j<k))) (Nat.not_lt.mp t))))
theorem ad7(x y:Str):Txt.find x y=SI x y 0:=by
 unfold Txt.find SI SY;rfl
theorem a06(p s:List Nat):bj4 (sv s) (sv p)=p.isPrefixOf s:=by
 unfold bj4 bl8;rw[(by simp[xV]:(sv s).length=s.length),(by simp[xV]:(sv p).length=p.length)];simp only[jo];rw[Bool.eq_iff_iff,dO,decide_eq_true_eq,List.isPrefixOf_iff_prefix,beq_iff_eq];constructor
 ·intro a;refine aP a λd b=>?_;have:=congrArg Array.toList b;simp at this;rw[<-this];exact List.take_prefix _ _
 ·intro a;refine am a λt c=>?_;subst c;refine⟨by simp,?_⟩
  apply Array.ext';simp
theorem a21:∀{l:List (List Nat)} {a:List ah},gV b=ac l->aI n o b a->StrsAre a (l.map sv)/\∀y∈l,fc y=af:=by
 induction b with
 |nil=>
  intro l a h e;rw[<-ax h,show a=[]from e];exact⟨.nil,λy m=>nomatch m⟩
 |cons v b c=>
  intro l a h e;refine bE e λx r d f i=>?_;rw[d]
  induction v using V.casesOn with
  |str s=>
   refine bG h λp j z=>dy f λg t k=>?_;rw[<-z,k];have q:=c j i;exact⟨.cons _ t q.1,λy m=>(List.mem_cons.mp m).elim (λz=>z▸g) (q.2 y)⟩
  |_=>exact nomatch h
theorem NJ:∀l:List (List Nat),SH (sv []) (l.map sv)=sv l.flatten
 |[]=>rfl|[x]=>by simp[SH]
 |x::y::r=>by
  show sv x++sv []++SH (sv []) (sv y::r.map sv)=_;rw[show(sv y::r.map sv)=(y::r).map sv from rfl,(NJ (y::r)),BP,BP];simp
theorem am5:∀{l:List Int} {a:List ah},mc b=ac l->aI m n b a->uP a l:=by
 induction b with
 |nil=>
  intro l a h e;rw[<-ax h,show a=[]from e];exact .nil
 |cons v b c=>
  intro l a h e;refine bE e λx r d f g=>?_;rw[d]
  induction v using V.casesOn with
  |a i=>
   refine bG h λo j z=>am f λt k=>?_;rw[<-z,k];exact .cons _ t (c j g)
  |_=>exact nomatch h
section
section
variable{D:Wd}{d:List Env}{b:List aj}{c:H}{s:az}{A:cB}{e:ca}{f:aZ}
theorem JX(I:ay D d b c s)(m:VR b s.heap v p)(q:(∃x,v=.str x/\n=x.length)\/∃i j,v=.obj i/\c[i]?=ac (.list j)/\n=j.length):
  aB (Mo D) A (eN (.builtin "len") [p]) (bo VR (.ok (.a n) c) D d b s.heap) (bF (.ok (.a n) c:R V) D d b s.heap) s:=by
 rcases q with⟨x,rfl,rfl⟩|⟨i,j,rfl,r,rfl⟩
 ·refine dy m λg t k=>?_;subst k;have o:(sv x).length=x.length:=by simp[xV]
  have u:=tm g;unfold big at u
  with_reducible refine PySem.P.len_str (by rw[o];lia) ?_
  rw[o];exact dT I iN
 ·refine ak (eC m) λa w k=>?_;subst k;refine dz (iA I r) λE C n h y z B=>?_;rw[w]at h;(injection h with h;subst h);have l:=aI.length B;rw[kq]at l;unfold big at y
  with_reducible refine call_len_list z.isList (by rw[l];lia) ?_
  rw[l];exact dT I iN
theorem FE(I:ay D d b c s)(n:c[i]?=ac (.list E))(h:b[i]?=ac a)(o:pB a s.heap j)(p:k.length<=big)(q:aI b s.heap k m.toList)
  (l:j.get? a=ac {cls:=.type "list",data:=.seq m t}) (u:VR b s.heap r v):bo VR (.ok r (c.set i (.list k))) D d b s.heap v {s with heap:=j,toks:=w}:=by
 have x:i<c.length:=I.len▸(List.getElem?_eq_some_iff.mp h).1;refine aP (I.set (p:={s with heap:=j,toks:=w}) (j:=i) (r:=a) (o:=.list k) h (λy B F l=>(o.2 y B).trans l) x (λz=>absurd z (I.h8 n h (by simp))) (λg=>Ff p m t l (q.step g I.Y)) rfl rfl rfl) λg C=>?_;exact⟨r,_,b,rfl,g,C,u.step g I.Y⟩
theorem ax4(a:Array ah)(n:Nat)(g:Array ah->Array ah):∃h,Obj.mapSeq g {cls:=.type "list",data:=.seq a n}={cls:=.type "list",data:=.seq (g a) h}:=⟨_,rfl⟩
theorem QY(p:IsL h a j n)(g:Array ah->Array ah):∃i,(h.update a (Obj.mapSeq g)).get? a=ac {cls:=.type "list",data:=.seq (g j) i}:=by
 refine am (ax4 j n g) λi k=>?_;exact⟨i,by rw[pC _ p (by rw[k];rfl),k]⟩
theorem JT(I:ay D d b c s)(l:c[i]?=ac (.list j))(p:VR b s.heap (.obj i) q)(r:VR b s.heap v g)(z:j.length<big):
  aB (Mo D) A (eN (.builtin "list.append") [q,g]) (bo VR (.ok .none (c.set i (.list (j++[v])))) D d b s.heap) (bF (.ok .none (c.set i (.list (j++[v]))):R V) D d b s.heap) s:=by
 refine ak (eC p) λa m t=>?_;subst t;refine dz (iA I l) λG k n h B u o=>?_;rw[m]at h;(injection h with h;subst h);have w:=aI.length o;rw[kq]at w;have C:=oH;refine wpAny_list_append_plain (items:=k) ⟨n,u⟩ (λE ⟨F,x⟩ y=>?_) (by lia);refine FE (w:=s.toks) I l m y (by simp;lia) ?_ x uB;have:(k.push g).toList=k.toList++[g]:=by simp
 rw[this];exact o.append (bw g [] rfl r rfl)
theorem Xy(I:ay D d b c s)(q:c[i]?=ac (.list k))(w:c[j]?=ac (.list l))(y:VR b s.heap (.obj i) z)(B:VR b s.heap (.obj j) C)(E:k.length+l.length<=big):
  aB (Mo D) A (eN (.builtin "list.extend") [z,C]) (bo VR (.ok .none (c.set i (.list (k++l)))) D d b s.heap) (bF (.ok .none (c.set i (.list (k++l))):R V) D d b s.heap) s:=by
 refine ak (eC y) λa r g=>?_;subst g;refine ak (eC B) λF G g=>?_;subst g;refine dz (iA I q) λZ J n m S p t=>?_;rw[r]at m;(injection m with m;subst m);refine dz (iA I w) λZ u L o T M v=>?_;rw[G]at o;(injection o with o;subst o);have N:=aI.length t;have P:=aI.length v;rw[kq]at N P;have U:=oH;refine call_meets PySem.F.slot_list_extend (al _ p rfl) PySem.F.entry_list_extend (PySem.F.args_list_extend_2 _ _) (AutoSeq1.list_extend_list_list_0 a J n F u L ?_ (by lia) (by lia)) (dc p M ?_)
 ·rw[dO];intro g;refine aP g λZ h=>?_;unfold bl6 at h;simp at h;unfold big at E
  lia
 ·refine am (QY p λx=>x++u) λY Q=>?_;exact FE (r:=.none) (v:=.none) (w:=s.toks) I q r (Hz ..) (k:=k++l) (by simp;lia) (by rw[bb3];exact t.append v) Q uB
theorem XG(I:ay D d b c s)(k:c[i]?=ac (.list (v::h)))(o:VR b s.heap (.obj i) p):
  aB (Mo D) A (eN (.builtin "list.pop") [p,.int 0 t]) (bo VR (.ok v (c.set i (.list h))) D d b s.heap) (bF (.ok v (c.set i (.list h)):R V) D d b s.heap) s:=by
 refine ak (eC o) λa l q=>?_;subst q;refine dz (iA I k) λM u n g w j m=>?_;rw[l]at g;(injection g with g;subst g);have z:=aI.length m;rw[kq]at z;have J:=oH;refine bE m λy r B C E=>?_;have F:u=(y::r).toArray:=by rw[<-B]
 subst F;refine call_meets PySem.F.slot_list_pop (al _ j rfl) PySem.F.entry_list_pop (PySem.F.args_list_pop_2 _ _) (MeetsSeq.list_pop_at a _ n 0 t 0 y (by decide) ?_ (by simp) (by lia)) ⟨j,?_⟩
 ·refine bj3 (by lia) ?_;simp
 ·refine am (QY j λx=>x.eraseIdxIfInBounds 0) λL G=>?_;refine FE (r:=v) (v:=y) (w:=s.toks) I k l (Hz ..) (k:=h) (by simp at w;lia) ?_ G C;simpa using E
theorem XF(I:ay D d b c s)(h:VR b s.heap (.str [a]) i):
  aB (Mo D) A (eN (.builtin "ord") [i]) (bo VR (.ok (.a a) c) D d b s.heap) (bF (.ok (.a a) c:R V) D d b s.heap) s:=by
 refine dy h λg t j=>?_;subst j;exact P.ord_of_char (dT I iN)
theorem XM(I:ay D d b c s)(q:A.handled=ae)(r:c[i]?=ac (.list t))(u:mc t=ac j)(v:VR b s.heap (.obj i) w):
  aB (Mo D) A (eN (.builtin "sum") [w]) (bo VR (.ok (.a j.sum) c) D d b s.heap) (bF (.ok (.a j.sum) c:R V) D d b s.heap) s:=by
 refine ak (eC v) λa x h=>?_;subst h;refine dz (iA I r) λJ k n g E y z=>?_;rw[x]at g;(injection g with g;subst g);have l:=am5 u z;have m:=l.allInts;rw[show k.toList.toArray=k by simp]at m;have o:=l.numsOf;refine am m.items λF h=>?_;subst h;rw[nums_intItems]at o;refine sum_intListG q y.isList λB C G p=>?_;rw[preSum_eq,xP (by simp),o];refine⟨_,c,b,rfl,.c0 p,(I.keeps (m:={s with heap:=B,toks:=C}) p rfl rfl rfl),iN⟩
theorem a19{i:Int}(h:0<=i/\i<10):(toString i:Str)=sv [48+i.toNat]:=by
 have a:=xI h.1;have z:=List.map_inj_left.mp (by decide+kernel:((List.range 10).map λk:Nat=>(toString (k:Int):Str))=(List.range 10).map λk=>sv [48+k]) i.toNat (List.mem_range.mpr (Int.ofNat_lt.mp (a.symm▸h.2)));rw[a]at z;exact z
theorem XJ{i:Int}{a:ah}(I:ay D d b c s)(h:0<=i/\i<10)(g:VR b s.heap (.a i) a):
  aB (Mo D) A (eN (.type "str") [a]) (bo VR (.ok (.str [48+i.toNat]) c) D d b s.heap) (bF (.ok (.str [48+i.toNat]) c:R V) D d b s.heap) s:=by
 refine am g λt j=>?_;subst j;refine P.str_of_int ?_ ?_
 ·have:i.natAbs<10:=bc6 h.1 h.2;have l:i.natAbs.log2<=3:=by
   by_cases z:i.natAbs=0
   ·rw[z];decide
   ·have:=(Nat.log2_lt z (k:=4)).mpr (by lia)
    lia
  lia
 ·rw[a19 h];exact dT I (uC (tq (by simp[big]) λn m=>by
   rw[List.mem_singleton.mp m];exact fu (Nat.add_lt_add_left ((Int.toNat_lt h.1).mpr h.2) 48) (by decide)))
theorem XO(I:ay D d b c s)(q:c[i]?=ac (.list l))(r:VR b s.heap (.obj i) t):
  aB (Mo D) A (eN (.type "tuple") [t]) (bo VR (.ok (.tup l) c) D d b s.heap) (bF (.ok (.tup l) c:R V) D d b s.heap) s:=by
 refine ak (eC r) λa u v=>?_;subst v;refine dz (iA I q) λE j n g w x m=>?_;rw[u]at g;(injection g with g;subst g);have y:=aI.length m;rw[kq]at y;have C:=oH;refine call_tuple_list x.isList (λp z=>?_) (by lia);have k:∀h o,s.heap.get? h=ac o->(p.push {cls:=.type "tuple",data:=.seq j}).get? h=ac o:=λh o B=>ie _ (z h o B);refine⟨_,c,b,rfl,.c0 k,(I.keeps (m:={s with heap:=p.push {cls:=.type "tuple",data:=.seq j}}) k rfl rfl rfl),?_⟩
 exact Fh w _ j 0 rfl (mH _ rfl) (m.step (.c0 k) I.Y)
theorem JV{x:List Nat}{a:Nat}{h:Option V}{l m:ah}{i:List ah}(I:ay D d b c s)(n:VR b s.heap (.str x) l)(o:VR b s.heap (.str [a]) m)(p:(h=ae/\i=[])\/∃k v,h=ac (.a k)/\i=[v]/\VR b s.heap (.a k) v/\0<=k/\k<=x.length):
  aB (Mo D) A (eN (.builtin "str.find") (l::m::i)) (bo VR (.ok (.a (lV a x (match h with|some (.a k)=>k.toNat|_=>0))) c) D d b s.heap) (bF (.ok (.a (lV a x (match h with|some (.a k)=>k.toNat|_=>0))) c:R V) D d b s.heap) s:=by
 refine dy n λg t j=>?_;subst j;refine dy o λy u j=>?_;subst j;rcases p with⟨rfl,rfl⟩|⟨k,v,rfl,rfl,⟨w,rfl⟩,q,r⟩
 ·refine SC.find ?_;rw[ad7];have:=Mt a x 0 (by lia) (by lia);rw[show(sv [a])=(⟨#[a]⟩:Str)from rfl,this];exact dT I iN
 ·refine SC.find3 ?_;rw[show(sv [a])=(⟨#[a]⟩:Str)from rfl,Mt a x k q r];exact dT I iN
theorem XH(I:ay D d b c s)(h:VR b s.heap (.str x) i)(j:VR b s.heap (.str p) k):
  aB (Mo D) A (eN (.builtin "str.startswith") [i,k]) (bo VR (.ok (.j (p.isPrefixOf x)) c) D d b s.heap) (bF (.ok (.j (p.isPrefixOf x)) c:R V) D d b s.heap) s:=by
 refine dy h λg t a=>?_;subst a;refine dy j λl u a=>?_;subst a;refine SC.startswith ?_;rw[a06];exact jF I xD
theorem QF:∀l:List (List Nat),((l.map sv).map (·.length)).sum=l.flatten.length
 |[]=>rfl|x::r=>by
  have:=QF r;rw[eU,eU,List.sum_cons,this,HG,aU]
  first|rfl|(congr 1)
theorem XC(I:ay D d b c s)(p:c[i]?=ac (.list q))(r:gV q=ac l)(o:l.flatten.length<=big)(M:l.length<=big)(u:VR b s.heap (.str []) v)(w:VR b s.heap (.obj i) x):
  aB (Mo D) A (eN (.builtin "str.join") [v,x]) (bo VR (.ok (.str l.flatten) c) D d b s.heap) (bF (.ok (.str l.flatten) c:R V) D d b s.heap) s:=by
 refine dy u λg t j=>?_;subst j;refine ak (eC w) λa z j=>?_;subst j;refine dz (iA I p) λS N n h P B C=>?_;rw[z]at h;(injection h with h;subst h);refine aP (a21 r C) λE F=>?_;refine join_list B.isList E ?_ λQ k=>?_
 ·rw[QF];have:(sv []).length=0:=rfl;rw[this];unfold big at o;lia
 ·have:Txt.join (sv []) (l.map sv)=sv l.flatten:=(StrLaws.glued_eq_join _ _).trans (NJ l);rw[this];refine dT I (uC (tq o λG m=>?_));refine ak (List.mem_flatten.mp m) λy J L=>?_;exact oY (F y J) G L
theorem fo.mk(g:VR b a v x)(h:fo b a i j):fo b a ((k,v)::i) ((sv k,x)::j):=wo (congrArg _ h.1) x _ rfl g h.2
theorem fo.put:∀{i:List (Str×ah)},fo b o g i->VR b o v x->(i.map (·.1)).Nodup->fo b o (cL g k v) (yh i (sv k) x):=by
 induction g with
 |nil=>intro i h j _;have:=h.j7;subst this;exact .mk j ⟨rfl,rfl⟩
 |cons a g t=>
  intro i h j l;refine cu h.inv λy r z m=>?_;subst z;have l:=List.nodup_cons.mp l;have u:cL (a::g) k v=if a.1=k then(k,v)::g else a::cL g k v:=rfl
  rw[u];by_cases q:a.1=k
  ·have n:yh ((sv a.1,y)::r) (sv k) x=(sv k,x)::r:=by
    unfold yh;rw[q,if_pos (by simp),eU,if_pos rfl,map_store_of_not_mem r _ x (q▸l.1)]
   rw[if_pos q,n];exact .mk j m.2
  ·have p:=BQ q;have n:yh ((sv a.1,y)::r) (sv k) x=(sv a.1,y)::yh r (sv k) x:=by
    unfold yh;rw[List.any_cons,decide_eq_false p,Bool.false_or,eU,if_neg p];split<;>rfl
   rw[if_neg q,n];exact .mk m.1 (t m.2 j l.2)
theorem fo.del:∀{i:List (Str×ah)},fo b n j i->fo b n (oR j k) (without i (sv k)):=by
 induction j with
 |nil=>intro i h;have:=h.j7;subst this;exact⟨rfl,rfl⟩
 |cons l j g=>
  intro i h;refine cu h.inv λy r z m=>?_;subst z;have g:=g m.2;unfold oR without at g⊢;by_cases q:l.1=k
  ·rw[bd8 (by rw[q];simp),bd8 (by rw[q];simp)];exact g
  ·rw[bd9 (p:=λ(o:List Nat×V)=>o.1 !=k) (a:=l) (bne_iff_ne.mpr q),bd9 (p:=λ(t:Str×ah)=>bf (t.1≠sv k)) (a:=(sv l.1,y)) (decide_eq_true (BQ q))];exact .mk m.1 g
theorem YJ(a:List (List Nat×V))(k:List Nat):(oR a k).length<=a.length:=List.length_filter_le ..
theorem LJ{i:Nat}{a:aj}{h:List (List Nat×V)}{l:List (Str×ah)}{g:aS}{p:Nat}{q t:Type}{u:List aj->aS->q->t->Prop}{r:q}{v:t}{x:List (List Nat×V)}{y:Option Nat}(I:ay D d b c s)(w:c[i]?=ac (.dict x y))(j:b[i]?=ac a)(B:pB a s.heap g)(C:h.length<=cN)(E:fo b s.heap h l)
  (n:g.DictOf (ot D.prog D.w) a l) (F:bq b s.heap b g->u b g r v):bo u (.ok r (c.set i (.dict h ae))) D d b s.heap v {s with heap:=g,toks:=p}:=by
 have G:i<c.length:=I.len▸(List.getElem?_eq_some_iff.mp j).1;refine am n.dictAt λJ L=>?_;refine aP (I.set (p:={s with heap:=g,toks:=p}) (j:=i) (r:=a) (o:=.dict h ae) j (λM o P n=>(B.2 M o).trans n) G (λz=>absurd z (I.h8 w j (by simp))) (λk=>Fg C l J L (fo.mv (k.mv I.Y) E) (λm o=>by injection o) (beq_eq_false_iff_ne.mp (tP I w j))) rfl rfl rfl) λk N=>?_;exact⟨r,_,b,rfl,k,N,F k⟩
theorem aE0{i:Nat}{g:List (List Nat×V)}{n:Option Nat}{k:List Nat}{v:V}{l m o:ah}(I:ay D d b c s)(p:c[i]?=ac (.dict g n))(q:g.length<cN)(x:VR b s.heap (.obj i) l)(y:VR b s.heap (.str k) m)(z:VR b s.heap v o):
  aB (Mo D) A (setItem l m o) (bo RU (.ok () (c.set i (.dict (cL g k v) ae))) D d b s.heap) (bF (.ok () (c.set i (.dict (cL g k v) ae)):R Unit) D d b s.heap) s:=by
 refine ak (eC x) λa r j=>?_;subst j;refine dy y λM t j=>?_;subst j;refine ch (Aj I p) λM B h M u w=>?_;rw[r]at h;(injection h with h;subst h);have C:B.length=g.length:=by
  have:=congrArg pE w.1;simpa using this
 refine wpAny_setItem_pairs (qV k t) u (λJ E F=>?_) (by rw[C];exact FT (pM q));refine am u.dictAt λL G=>?_;exact LJ (p:=s.toks+1) I p r F (aV (Ak ..) q) (w.put z G.nodup) E λM=>trivial
theorem Xw{i:Nat}{g:List (List Nat×V)}{n:Option Nat}{k:List Nat}{w y:ah}(I:ay D d b c s)(m:c[i]?=ac (.dict g n))(B:VR b s.heap (.obj i) w)(C:VR b s.heap (.str k) y):
  aB (Mo D) A (eN (.builtin "dict.pop") [w,y,.none]) (bo VR (qD c i g [.str k,.none]) D d b s.heap) (bF (qD c i g [.str k,.none]) D d b s.heap) s:=by
 refine ak (eC B) λa o p=>?_;subst p;refine dy C λS t p=>?_;subst p;refine ch (Aj I m) λS r l z h u=>?_;rw[o]at l;(injection l with l;subst l);have E:r.length=g.length:=by
  have:=congrArg pE u.1;simpa using this
 have j:=FI (k:=k) u;unfold qD;dsimp only;refine am h.dictAt λN P=>?_
 cases q:dJ g k with
 |none=>
  rw[q]at j;dsimp only at j⊢;refine call_meetsIn bj1 h.typeIs bi9 (bi8 _ _ _) (meets_dict_pop_default _ _ (qV k t) (tP I m o) rfl .none) (br r h j ?_);exact dT I uB
 |some v=>
  rw[q]at j;refine ak j λx F G=>?_;dsimp only;refine call_meetsIn bj1 h.typeIs bi9 (bi8 _ _ _) (meets_dict_pop_there _ _ (qV k t) [.none] (.inr ⟨_,rfl⟩) rfl) (dp r x h (by rw[E];exact FT z) F (λQ J L=>?_));exact LJ (p:=s.toks+1) I m o L (aV (YJ ..) z) u.del J λM=>G.step M I.Y
end
end
section
theorem Az:PySem.Slot "function" "__getattribute__" "object.__getattribute__":=.of (owner:="object") (n:="__getattribute__") (by rw[bk9,bk2];kernel_rfl) (by decide+kernel) (by decide+kernel) (by decide+kernel)
  (by first|exact .inl (by decide+kernel)|exact .inr (by decide+kernel)) (by rw[Ta];kernel_rfl)
theorem ag4:typeLookup (.type "function") "__class__"=bx (ac (.builtin "object.__class__")):=by rw[bk9,bk2];kernel_rfl
theorem ag7:Ij (.type "function") (.type (".".intercalate ("object.__class__".cutAt '.').dropLast))=bx af:=by
 rw[F.owner_object_class,Ta];kernel_rfl
theorem ag5:Ij (.type "function") (.type "tuple")=bx ag:=by rw[Ta];kernel_rfl
section
variable{c:pR}{w:gx}{A:cB}{E:ah->az->Prop}{h:aS}{g:Array Hy}{d:Drawn}{t:Nat}{b:pQ}{a:aj}{o:Obj}
theorem ag3{e:rV->az->Prop}(f:h.get? a=ac o)(i:o.cls=.type "function")(j:e (.ok (.ret (.type "function"))) ⟨h,g,d,t,b⟩):
  jp (gZ c w) A (.call (.builtin "getset_descriptor.__get__") ⟨[.builtin "object.__class__",.ref a,.type "function"],[]⟩) e ⟨h,g,d,t,b⟩:=by
 have k:(⟨h,g,d,t,b⟩:az).TypeIs (.ref a) "function":=al _ f i;have l:=ag7;refine CM F.slot_gs_get.plain F.entry_gs_get (F.slot_gs_get.check _ _ _ _ _ _ _ _ (RW:(⟨h,g,d,t,b⟩:az).TypeIs (.builtin "object.__class__") "getset_descriptor") (F.args_gs_get _ _ _) ?_)
 repeat(any_goals(first|assumption|wp_step))
 refine⟨Code.quiet_builtin _ (by decide+kernel),bk4 F.entry_object_class ?_⟩
 repeat(any_goals(first|assumption|wp_step))
theorem ag2{Q:Fin->az->Prop}(e:h.get? a=ac o)(f:o.cls=.type "function")(i:Q (.done (.ret (.type "function"))) ⟨h,g,d,t,b⟩):
  aB (gZ c w) A (Builtin.«object.__getattribute__» ⟨[.ref a,.str "__class__" j],[]⟩) Q E ⟨h,g,d,t,b⟩:=by
 have k:(⟨h,g,d,t,b⟩:az).TypeIs (.ref a) "function":=al _ e f;have l:(⟨h,g,d,t,b⟩:az).TypeIs (.builtin "object.__class__") "getset_descriptor":=RW;have m:=ag4;have n:=RW;have p:=F.slot_gs_get.lookup;have q:=F.slot_gs_set.lookup
 repeat(any_goals(first|assumption|wp_step))
 refine ag3 e f ?_
 repeat(any_goals(first|assumption|wp_step))
theorem ag1{e:rV->az->Prop}(f:h.get? a=ac o)(i:o.cls=.type "function")(j:e (.ok (.ret (.type "function"))) ⟨h,g,d,t,b⟩):
  jp (gZ c w) A (.call (.builtin "object.__getattribute__") ⟨[.ref a,.str "__class__" k],[]⟩) e ⟨h,g,d,t,b⟩:=
 CM Az.plain F.entry_object_getattribute (Az.check _ _ _ _ _ _ _ _ (show(⟨h,g,d,t,b⟩:az).TypeIs (.ref a) "function"from al _ f i) (F.args_object_getattribute_2 _ _) (ag2 f i j))
theorem ag0{Q:ah->az->Prop}(e:h.get? a=ac o)(f:o.cls=.type "function")(i:Q (.type "function") ⟨h,g,d,t,b⟩):aB (gZ c w) A (getAttrBy (.ref a) (.str "__class__" j) ag) Q E ⟨h,g,d,t,b⟩:=by
 have k:(⟨h,g,d,t,b⟩:az).TypeIs (.ref a) "function":=al _ e f;have l:=Az.lookup;have m:=Az.bind (.ref a)
 repeat(any_goals(first|assumption|wp_step))
 refine ag1 e f ?_
 repeat(any_goals(first|assumption|wp_step))
theorem af9{Q:Option ah->az->Prop}(e:h.get? a=ac o)(f:o.cls=.type "function")(i:Q (ac (.type "function")) ⟨h,g,d,t+1,b⟩):aB (gZ c w) A (getAttr? (.ref a) "__class__") Q E ⟨h,g,d,t,b⟩:=by
 unfold getAttr? getAttrBy?
 repeat(any_goals(first|assumption|with_reducible apply ag0 e f|wp_step))
theorem an2{Q:Fin->az->Prop}(e:h.get? a=ac o)(f:o.cls=.type "function")(i:Q (.done (.ret (.bool ag))) ⟨h,g,d,t+1,b⟩):
  aB (gZ c w) A (Builtin.«isinstance.nested» ⟨[.ref a,.type "tuple",.int j k],[]⟩) Q E ⟨h,g,d,t,b⟩:=by
 have l:(⟨h,g,d,t,b⟩:az).TypeIs (.ref a) "function":=al _ e f;have m:(SL "function"==SL "tuple")=ag:=by decide+kernel
 have n:=ag5;have p:rX (.type "tuple")=bx (.type "type"):=by kernel_rfl
 repeat(any_goals(first|assumption|with_reducible apply af9 e f|wp_step))
set_option tactic.hygienic true in
theorem an4{i:ca}{C:aj}{x:Str}{u:Tok}{m:Int}{n:Tok}{Q:Fin->az->Prop}(k:i.In h)(e:iq i (.ref C)=ac (.type "type"))(f:(jR i C).isSome=af)(r:Q (.done (.ret (.bool ag))) ⟨h,g,d,t+1,b⟩):
  aB (gZ c w) A (Builtin.«isinstance.nested» ⟨[.str x u,.ref C,.int m n],[]⟩) Q E ⟨h,g,d,t,b⟩:=by
 have s:(⟨h,g,d,t,b⟩:az).TypeIs (.str x u) "str":=rfl;have v:=looks_typeIn (M:=gZ c w) k e;have y:Ij (.type "str") (.ref C)=bx ag:=by unfold Ij;rw[show mroOf (.type "str")=bx [.type "str",.type "object"] by rw[mroOf_type];kernel_rfl];rfl
 have z:(SL "str"==lE C)=ag:=rfl;unfold jR at f
 cases j:i.lookup C with
 |none=>rw[j]at f;exact nomatch f
 |some o=>
  rw[j]at f;obtain⟨p,B,q,D⟩:=o
  induction q using Data.casesOn<;>first|exact no_ft f|skip
  have l:=k _ _ j;unfold iq at e;dsimp only at e;rw[j]at e;obtain⟨rfl⟩:p=.type "type":=by simpa using e
  repeat(any_goals(first|assumption|with_reducible apply class_attr_str|with_reducible refine wpAny_loadPart_at l ?_|with_reducible refine nd_load l ?_|wp_step))
end
end
end
section
set_option tactic.hygienic false
open PySem PySem.W PyProof.Rows PySem.Calls
section
theorem a88(h:uP d e):aI g j (e.map .a) d:=by
 induction h with
 |nil=>rfl|cons i t h f=>exact bw _ _ rfl ⟨t,rfl⟩ f
theorem aB8{d:Type}{l:List d}{f:d}(h:l.Nodup)(n:f∉l):(l++[f]).Nodup:=List.nodup_append.mpr (dc h (List.nodup_cons.mpr ⟨ii,Sn⟩) (λj g k i e=>n (List.mem_singleton.mp i▸e▸g)))
section
variable{c:pR}{w:gx}{T:Type}[DecidableEq T]{b:KeyKind c w T}{A:cB}{E:ah->az->Prop}{a:az}
theorem YQ{d:aj}{f:List (T×ah)}{k:T}{p v:ah}{q:Nat}{Q:Unit->az->Prop}(g:b.is k p=af)(u:a.heap.DictAt b d f q)(r:k∉f.map (·.1))
  (x:∀i,i.DictAt b d (f++[(k,v)]) (q+1)->pB d a.heap i->Q () {a with heap:=i,toks:=a.toks+1})
  (y:f.length<=mL):aB (gZ c w) A (SU d p v) Q E a:=by
 refine Hv u λo j l z h t n B=>?_;have C:(j.findIdx? λe=>b.is k e.key)=ae:=(List.findIdx?_toArray _ j.toList).trans ((n.findIdx k).trans (List.findIdx?_eq_none_iff.mpr λF m=>decide_eq_false λe=>r (e▸Sm m)));refine gc (aD (b.pyHash g (gc (aD (wpAny_dictFind_of (s:={a with toks:=a.toks+1}) g l h t ?_)))));rw[C];exact aD (Tv (wpAny_updateDictKeys (hz:=(aV (fN (Array.length_toList.symm.trans n.length)) y:j.size<=mL)) (s:={a with toks:=a.toks+1}) l h (x _ (Fj _ _ (pC _ l (Obj.isFreed_of_dict (bi1 h _))) (z.mapDictKeys _) (bi1 h _) (t.push g _) (by rw[Array.toList_push];exact n.append g (b.hash k) v) (by rw[pF];exact aB8 B r)) (Hz ..)) (hf:=fN (Array.size_push _))))
theorem a12:∀(e f:List (T×ah)) (h:Nat) (a:az) (Q:PUnit->az->Prop),Carries b g e->a.heap.DictAt b d f h->f.length+e.length<=mL->
  ((f++e).map (·.1)).Nodup->
  (∀i,i.DictAt b d (f++e) (h+e.length)->pB d a.heap i->Q CF {a with heap:=i,toks:=a.toks+g.length})->
  aB (gZ c w) A (forIn g CF λ(x:ah×ah) (_:PUnit)=>(do SU d x.1 x.2;bx (Ci CF):Sem (ForInStep PUnit))) Q E a:=by
 induction g with
 |nil=>
  intro e f h a Q j n _ _ l
  cases e with
  |nil=>exact bz (l a.heap ((cR f).symm▸n) (bm6 _ _))|cons o e=>exact j.elim
 |cons o g s=>
  intro e f h a Q j n p m l
  cases e with
  |nil=>exact j.elim|cons x e=>
   obtain⟨t,v⟩:=o;obtain⟨k,u⟩:=x;refine fL j λy z B=>?_;rw[(by rw[bt,z];rfl:f++(k,u)::e=(f++[(k,v)])++e)]at m l;rw[be3];refine aD (aD (YQ (y:=aV (dm ..) p) y n (λq=>?_) λI C F=>bz ?_))
   ·rw[pF,pF,HI,HI]at m;exact m.1.2.2 k q k (.head _) rfl
   ·refine s e _ (h+1) _ Q B C ((by rw[aU,nX e.length,iS];rfl:f.length+(e.length+1)=(f++[(k,v)]).length+e.length)▸p) m λi r G=>?_;rw[iS,nX 1]at r;have q:=l i r (F.trans G);rw[show(((t,v)::g).length)=g.length+1 from rfl,nX g.length,<-iS]at q;exact q
end
noncomputable def wU(d:Env)(f:Pos):List (Option aY)->List aY->List (Sem ah×Sem ah)
 |some k::g,e::h=>(dF k d,do let x <-dF e d;fP f;bx x)::wU d f g h
 |_,_=>[]
noncomputable def vE:List (List Nat)->List (ah×ah)->Prop
 |[],l=>l=[]|k::r,l=>∃t v d,l=(.str (sv k) t,v)::d/\vE r d
theorem au4(h:Og e=ac k):∃t p,e=.Constant k t p:=by
 induction e using Expr.casesOn with
 |Constant d t p=>exact fq t p (congrArg (λk=>Expr.Constant k t p) (ax h))|_=>exact nomatch h
theorem a13(h:QC k=ac y):k=.str y:=by
 induction k using Const.casesOn with
 |str z=>exact congrArg Const.str (ax h)|_=>exact nomatch h
theorem aq2(h:NQ k=ac y):∃t p,k=ac (.Constant (.str y) t p):=
 aC h λe d f=>aC f λz g i=>eH (au4 g) λt p j=>fq t p (by rw[d,j,a13 i])
theorem yR(h:oJ (k::e)=ac f):∃y t p d,k=ac (.Constant (.str y) t p)/\oJ e=ac d/\f=eW y::d:=
 aC h λy g i=>aC i λd j l=>eH (aq2 g) λt p m=>al2 y t p d m j ((ax l).symm)
theorem aG3:∀{d:List aY} {g:List (List Nat)},oJ f=ac g->f.length=d.length->
  (evalEachOpt f i).zip ((Ic d i).map λv=>(do let x <-v;fP l;bx x))=(wU i l f d).map λp=>(ac p.1,p.2):=by
 induction f with
 |nil=>exact λr r=>rfl|cons k f m=>
  intro d g h j
  cases d with
  |nil=>exact nomatch j|cons e d=>
   refine pz (yR h) λy t p q n o=>?_;rw[n];exact congrArg (_::·) (m o.1 (pP j))
theorem aG0:∀{d:List aY} {i:List (List Nat)},oJ f=ac i->f.length=d.length->(wU n o f d).length=d.length:=by
 induction f with
 |nil=>
  intro d i h g
  cases d with
  |nil=>rfl|cons e d=>exact nomatch g
 |cons k f j=>
  intro d i h g
  cases d with
  |nil=>exact nomatch g|cons e d=>
   refine pz (yR h) λy t p q l m=>?_;rw[l];exact congrArg xT (j m.1 (pP g))
theorem Xb:∀{e:List (List Nat)},oJ d=ac e->e.length=d.length:=by
 induction d with
 |nil=>exact λh=>by rw[<-ax h];rfl
 |cons k d g=>exact λh=>pz (yR h) λy t p i j f=>by rw[f.2];exact congrArg xT (g f.1)
def IQ(e:List (List Nat))(f:List aj)(g:aS)(h:List V)(d:List (ah×ah)):Prop:=aI f g h (d.map (·.2))/\vE e d
theorem LL:∀{l:List (List Nat)},sY l=af->(l.map sv).Nodup
 |[],_=>by simp
 |k::r,h=>by
  have h:(!r.contains k&&sY r)=af:=h;rw[dO,xG]at h;rw[eU,xN];refine⟨λm=>?_,LL h.2⟩
  refine ak (List.mem_map.mp m) λy d e=>?_;have:y=k:=by
   by_cases q:y=k
   ·exact q
   ·exact absurd e (BQ q)
  subst this;have:=h.1;simp at this;exact this d
theorem JZ{D:Wd}:∀{e:List (List Nat)} {d:List (ah×ah)},vE e d->Carries (ot D.prog D.w) d ((e.map sv).zip (d.map (·.2)))
 |[],d,h=>by
  have h:d=[]:=h;subst h;exact trivial
 |k::r,d,h=>by
  refine gY h λt v i f g=>?_;subst f;exact dc (qV k t) rfl (JZ g)
theorem vE.length:∀{e:List (List Nat)} {d:List (ah×ah)},vE e d->d.length=e.length
 |[],d,h=>by
  have h:d=[]:=h;subst h;rfl
 |k::r,d,h=>by
  refine gY h λt v i f g=>?_;subst f;simp[g.length]
section
variable{D:Wd}
theorem ay.dict(I:ay D g d h a):
  bq d a.heap (d++[a.heap.objs.size]) (a.heap.push {cls:=.type "dict",data:=.dict #[]})/\
   ay D g (d++[a.heap.objs.size]) (h++[.dict [] (ac 0)]) {a with heap:=a.heap.push {cls:=.type "dict",data:=.dict #[]}}:=by
 have k:∀f o,a.heap.get? f=ac o->(a.heap.push {cls:=.type "dict",data:=.dict #[]}).get? f=ac o:=λf o e=>ie _ e;have i:a.heap.get? a.heap.objs.size=ae:=by
  cases q:a.heap.get? a.heap.objs.size with
  |none=>rfl|some o=>exact absurd (fj q) (jn _)
 have j:(a.heap.push {cls:=.type "dict",data:=.dict #[]}).DictAt (ot D.prog D.w) a.heap.objs.size [] 0:=Fj _ (#[]) (mH _ rfl) (dc rfl rfl rfl) rfl (λn l=>absurd l (Array.not_mem_empty _)) Pairs.nil Sn;exact I.alloc (t:={a with heap:=a.heap.push {cls:=.type "dict",data:=.dict #[]}}) (A:=ya) (o:=.dict [] (ac 0)) k (r:=a.heap.objs.size) i (Fg (gb _) [] 0 j ⟨rfl,rfl⟩ (λm e=>by cases e;rfl) (aC0 I.j6)) rfl rfl rfl
theorem aU9(l:H)(o:O):(l++[o]).set l.length o=l++[o]:=by
 rw[HJ _ _ (bI _),gJ];rfl
end
end
section
def bL{d:Type}(o:Option d)(P:d->Prop):Prop:=∀a,o=ac a->P a
section
variable{d j:Type}{o z2:Option d}{P:d->Prop}{Q:j->Prop}{a:d}
theorem bL.S:bL (ae:Option d) P:=λl i=>nomatch i
theorem bL.is(i:P a):bL (ac a) P:=λl e=>ax e▸i
theorem bL.d3{f:d->Option j}(l:bL o P)(k:∀a,o=ac a->P a->bL (f a) Q):bL (o>>=f) Q:=λw e=>by
 refine ak (Option.bind_eq_some_iff.mp e) λa i x=>?_;exact k a i (l a i) w x
theorem bL.bind{f:d->Option j}(i:bL o P)(k:∀a,P a->bL (f a) Q):bL (o>>=f) Q:=bL.d3 i λa l=>k a
theorem bL.E{c:Prop}[Decidable c](i:c->bL o P):bL (if c then o else ae) P:=λa e=>by
 by_cases q:c
 ·rw[if_pos q]at e;exact i q a e
 ·rw[if_neg q]at e;injection e
theorem bL.f4{c:Prop}[Decidable c](i:¬c->bL o P):bL (if c then ae else o) P:=λa e=>by
 by_cases q:c
 ·rw[if_pos q]at e;injection e
 ·rw[if_neg q]at e;exact i q a e
theorem bL.L(e:o=z2)(i:bL z2 P):bL o P:=e▸i
theorem bL.b6{f:d->j}(i:bL o P)(k:∀a,P a->Q (f a)):bL (do return f (<-o)) Q:=.bind i λa l=>.is (k a l)
theorem bL.e6{n s:Type}{l:Option n}{w:n->Prop}{f:d->n->s}{Q:s->Prop}(x:bL o P)(y:bL l w)(k:∀a i,P a->w i->Q (f a i)):bL (do return f (<-o) (<-l)) Q:=.bind x λa z=>.b6 y λi A=>k a i z A
theorem bL.i2{n s w:Type}{x:Option n}{y:Option s}{z:n->Prop}{A:s->Prop}{f:d->n->s->w}{Q:w->Prop}(B:bL o P)(C:bL x z)(D:bL y A)(k:∀a i l,P a->z i->A l->Q (f a i l)):
  bL (do return f (<-o) (<-x) (<-y)) Q:=.bind B λa F=>.e6 C D λi l G I=>k a i l F G I
theorem bL.of{i:d->Prop}(l:bL o P)(k:∀a,P a->i a):bL o i:=λa e=>k a (l a e)
end
structure Pt where
 ρ:List aj
 σ:H
 s:az
structure sA where
 D:Wd
 envs:List Env
def Le(p i:Pt):Prop:=bq p.ρ p.s.heap i.ρ i.s.heap/\oA p.ρ p.s.heap
theorem Le.trans(x:Le p i)(y:Le i l):Le p l:=⟨x.1.trans y.1,x.2⟩
theorem VR.up(l:VR p.ρ p.s.heap a w)(x:Le p i):VR i.ρ i.s.heap a w:=l.step x.1 x.2
theorem aI.up(l:aI p.ρ p.s.heap a w)(x:Le p i):aI i.ρ i.s.heap a w:=l.step x.1 x.2
section
variable{d j n s:Type}
def vI(i:sA)(A:cB)(p:Pt)(t:Sem j)(g:List aj->aS->d->j->Prop)(r:R d):Prop:=
 ay i.D i.envs p.ρ p.σ p.s->r≠.i->aB (Mo i.D) A t (bo g r i.D i.envs p.ρ p.s.heap) (bF r i.D i.envs p.ρ p.s.heap) p.s
end
noncomputable def sb(P:aZ):V->Prop
 |.m (.ref a)=>(P.fn a).isSome\/(P.cls a).isSome|.m (.builtin _)=>True|.m (.type _)=>True|_=>False
theorem R.h4{d j:Type}{r:R d}{f:d->H->R j}(l:r.bind f≠.i):r≠.i:=λe=>l (by rw[e];rfl)
theorem R.c9{d j n:Type}{r:R d}{f:d->H->R j}{l:j->H->R n}:(r.bind f).bind l=r.bind λa w=>(f a w).bind l:=by
 induction r using R.casesOn<;>rfl
theorem R.b4{d j:Type}{r:R d}{f w:d->H->R j}(l:∀a l,f a l=w a l):r.bind f=r.bind w:=by
 rw[show f=w from funext λa=>funext (l a)]
structure aE(c:Cx)where
 u:sA
 A:cB
 K:ca
 P:aZ
 fz:aj->Option (List Int)
 C:bc
 hd:Option Nat
 n:Nat
 W:Nat
 env:Env
 mg:Str->Option ah
 mb:Str->Option ah
 T:Kt u.D K P
 callee:vh u.D C n
 kinds:∀f w hd h,C f w hd h≠.i->sb P f
 G:Gl u.D c.gl mg mb
 EO:IH c env u.envs
 LO:sr c
 LI:qm c.lay
 i3:∀a i,fz a=ac i->i.length<=big/\∃l k o,u.D.base.get? a=ac o/\o.cls=.type "list"/\o.data=.seq l k/\uP l.toList i
 fr:A.frames=ac u.envs
 room:lO A n
section
variable{c:Cx}
noncomputable def aE.ev(q:aE c)(b:av)(x:Ex)(h:H):R V:=Mine.Internal.ev q.P q.fz q.C q.hd b x h
noncomputable def aE.e7(q:aE c)(b:av)(x:List Ex)(h:H):R (List V):=Mine.Internal.fD q.P q.fz q.C q.hd b x h
noncomputable def aE.test(q:aE c)(b:av)(x:Ex)(h:H):R Bool:=(q.ev b x h).bind λi l=>gW l i
structure At(q:aE c)(b:av)(p:Pt):Prop where
 inv:ay q.u.D q.u.envs p.ρ p.σ p.s
 hd:mP q.A q.hd p.ρ
 c2:∃i,eV q.u.D c.lay q.env p.ρ b p.s.heap i
theorem mP.step(x:mP A l w)(p:w<+:y):mP A l y:=by
 unfold mP at x⊢
 cases l with
 |none=>exact x|some i=>refine ak x λa z B=>?_;exact al a (gH p z) B
theorem At.ao(Y:At q b p):hB q.A q.hd q.u.envs p.ρ:=⟨q.fr,Y.hd⟩
theorem At.step(Y:At q b p)(l:bq p.ρ p.s.heap i.ρ i.s.heap)(I:ay q.u.D q.u.envs i.ρ i.σ i.s):At q b i:=
 ⟨I,Y.hd.step l.pre,am Y.c2 λw L=>⟨w,L.step Y.inv l⟩⟩
theorem aE.n4(q:aE c):q.A.units<=9000:=by have:=q.room.2;lia
variable{d j n s:Type}{q:aE c}{b:av}{p:Pt}{t u:Sem j}{f:j->Sem n}{r v:R d}{k:d->H->R s}{g:List aj->aS->d->j->Prop}{z3:List aj->aS->s->n->Prop}
def Rq(q:aE c)(b:av)(p:Pt)(t:Sem j)(g:List aj->aS->d->j->Prop)(r:R d):Prop:=
 At q b p->r≠.i->aB (Mo q.u.D) q.A t (bo g r q.u.D q.u.envs p.ρ p.s.heap) (bF r q.u.D q.u.envs p.ρ p.s.heap) p.s
theorem Rq.op(w:vI q.u q.A p t g r):Rq q b p t g r:=λY=>w Y.inv
theorem Rq.bind(B:Rq q b p t g r)(C:∀a x w,Le p w->g w.ρ w.s.heap a x->Rq q b w (f x) z3 (k a w.σ)):Rq q b p (t>>=f) z3 (r.bind k):=λY y=>
 Rl (B Y (R.h4 y)) λa D E F x e A I G=>C a x ⟨E,D,F⟩ ⟨A,Y.inv.Y⟩ G (Y.step A I) λz=>y (by rw[e];exact z)
theorem Rq.L(w:t=u)(x:r=v)(y:Rq q b p u g v):Rq q b p t g r:=w▸x▸y
theorem Rq.l(w:t=u)(x:Rq q b p u g r):Rq q b p t g r:=w▸x
theorem Rq.rr(w:r=v)(x:Rq q b p t g v):Rq q b p t g r:=w▸x
theorem Rq.b1(w:Rq q b p t g r):Rq q b p (dG y t) g r:=λY x=>gc (w Y x)
theorem Rq.a0{f:Unit->Sem j}(w:Rq q b p (f ()) g r):Rq q b p (fP z0>>=f) g r:=λY x=>aD (rY (w Y x))
theorem Rq.free{f:Unit->Sem j}(w:Rq q b p (f ()) g r):Rq q b p (Ir y z>>=f) g r:=λY x=>aD (wpAny_release' (w Y x))
theorem Rq.f8{w:List ah}{t:Sem ah}{g:List aj->aS->d->ah->Prop}(x:Rq q b p t g r):Rq q b p (hA w t) g r:=λY y=>wpAny_operate' (x Y y)
theorem Rq.c1(w:g p.ρ p.s.heap a x):Rq q b p (bx x) g (.ok a p.σ):=λY y=>bz (jF Y.inv w)
theorem Rq.i:Rq q b p t g .i:=λx w=>absurd rfl w
end
def Rv(q:aE c)(b:av)(p:Pt)(t:Sem ah)(r:R V):Prop:=Rq q b p t VR r
section
variable{c:Cx}{q:aE c}{b:av}{p:Pt}{t u:Sem ah}{f:ah->Sem ah}{r v:R V}{k:V->H->R V}
theorem Rv.op(w:vI q.u q.A p t VR r):Rv q b p t r:=Rq.op w
theorem Rv.bind(y:Rv q b p t r)(z:∀a x w,Le p w->VR w.ρ w.s.heap a x->Rv q b w (f x) (k a w.σ)):Rv q b p (t>>=f) (r.bind k):=Rq.bind y z
theorem Rv.L(w:t=u)(x:r=v)(y:Rv q b p u v):Rv q b p t r:=w▸x▸y
theorem Rv.l(w:t=u)(x:Rv q b p u r):Rv q b p t r:=w▸x
theorem Rv.b1(w:Rv q b p t r):Rv q b p (dG x t) r:=Rq.b1 w
theorem Rv.a0{f:Unit->Sem ah}(w:Rv q b p (f ()) r):Rv q b p (fP z0>>=f) r:=Rq.a0 w
theorem Rv.f8{w:List ah}(x:Rv q b p t r):Rv q b p (hA w t) r:=Rq.f8 x
theorem Rv.i:Rv q b p t .i:=Rq.i
end
def sy(c:Cx)(e:aY)(x:Ex):Prop:=∀(q:aE c) b p,Rv q b p (dF e q.env) (q.ev b x p.σ)
def UL(c:Cx)(e:aY)(x:Ex):Prop:=∀(q:aE c) b p,Rq q b p (yf e q.env (dF e q.env)) lL (q.test b x p.σ)
def aW(e:aY):Prop:=∀c,bL (cE c e) (sy c e)
def gD(e:aY):Prop:=∀c,bL (cE c e) (UL c e)
section
variable{c:Cx}{q:aE c}{b:av}{p:Pt}{h:H}
theorem aJ0:q.ev b (.d2 m a l) h=(q.ev b a h).bind λx i=>(q.ev b l i).bind λy i=>bZ m x y i:=rfl
noncomputable def Bs(i:H)(a:V):R V:=(gW i a).bind λl i=>.ok (.j !l) i
theorem PJ{a:Ex}:q.ev b (.f1 a) h=(q.ev b a h).bind λx i=>Bs i x:=R.b4 λa i=>by
 unfold Bs gW
 induction aA i a using Option.casesOn<;>rfl
noncomputable def az5(l:H):V->R V
 |.a i=>.ok (.a (-i)) l|_=>.i
theorem aJ7{a:Ex}:q.ev b (.f0 a) h=(q.ev b a h).bind λx i=>az5 i x:=R.b4 λa i=>by induction a using V.casesOn<;>rfl
noncomputable def kM(m:gv)(a i:V)(l:H):R Bool:=match aQ m a i l with
 |some i=>.ok i l|none=>.i
theorem DZ:iv m a i h=(kM m a i h).bind λt l=>.ok (.j t) l:=by
 unfold iv kM
 induction aQ m a i h using Option.casesOn<;>rfl
theorem PG{m:gv}{a l:Ex}:q.ev b (.Q a m l) h=(q.ev b a h).bind λx i=>(q.ev b l i).bind λy i=>(kM m x y i).bind λt i=>.ok (.j t) i:=
 R.b4 λx i=>R.b4 λy i=>DZ
theorem PH{m z1:gv}{a l w:Ex}:q.ev b (.f6 a m l z1 w) h=(q.ev b a h).bind λx i=>(q.ev b l i).bind λy i=>(kM m x y i).bind λt i=>if t then(q.ev b w i).bind λz i=>(kM z1 y z i).bind λt i=>.ok (.j t) i else .ok (.j ag) i:=
 R.b4 λx i=>R.b4 λy i=>by
  rw[DZ,R.c9];refine R.b4 λt i=>?_
  induction t using Bool.casesOn
  ·rfl
  ·exact R.b4 λz i=>DZ
def VB(_:List aj)(_:aS)(i:Bool)(l:ah):Prop:=l=.bool i
theorem aD4(x:A.units<=9000)(y:VR p.ρ p.s.heap a z)(B:VR p.ρ p.s.heap l C):vI D A p (pV m z C) VB (kM m a l p.σ):=λI i=>by
 unfold kM at i⊢
 cases w:aQ m a l p.σ with
 |none=>rw[w]at i;exact absurd rfl i
 |some r=>exact ba8 x I y B w _ _ λt=>⟨r,p.σ,p.ρ,rfl,.b5 _ _,I.i6,rfl⟩
theorem PI:q.ev b (.E x a l) h=(q.test b x h).bind λt i=>if t then q.ev b a i else q.ev b l i:=by
 unfold aE.test;rw[R.c9];refine R.b4 λw i=>?_;unfold gW
 cases aA i w with
 |none=>rfl|some t=>induction t using Bool.casesOn<;>rfl
theorem aE4(i:l=.bool w):vI x A p (jq l) lL (.ok w p.σ):=λI y=>by
 subst i;exact λy y y=>tX I
end
section
variable{z4 r e t:aY}{m z1:eI}{z0:Pos}
theorem ZD(i:aW z4)(l:aW r):aW (.BinOp z4 m r z0):=λc=>.E λM=>.e6 (i c) (l c) λa F z A q b p=>
 .L (arm_eval_BinOp ..) aJ0<|.bind (z q b p) λx G B J C=>.bind (.b1 (A q b B)) λy w L D E=>.a0<|.f8<|.op λI=>aD2 I (C.up D) E
theorem aD8(w:VR p.ρ p.s.heap a i):Rv q b p (unaryOp .Not i) (Bs p.σ a):=
 show Rq q b p (dG [i] ((jq i)>>=λl=>bx (Value.bool (!l)))) VR _ from .b1<|.bind (.op λI=>Gj I w) λl x z A y=>.c1 (show _=_ by rw[show l=x from y])
theorem ZR(i:aW e):aW (.UnaryOp .Not e z0):=λc=>.b6 (i c) λa l q b p=>
 .L (bj9 ..) PJ<|.bind (l q b p) λx y z A w=>.a0<|.b1<|aD8 w
theorem ZQ(l:aW e):aW (.UnaryOp .USub e z0):=λc=>.b6 (l c) λa w q b p=>
 .L (bj9 ..) aJ7<|.bind (w q b p) λx z A B y=>.a0<|.b1<|by
  induction x using V.casesOn with
  |a i=>exact .op λI C=>aD7 I y|_=>exact .i
set_option tactic.hygienic true in
theorem ZI:aW (.Constant k x z0):=λc=>by
 induction k using Const.casesOn<;>first|exact bL.S|skip
 case none=>exact .is λq b p Y l=>wpAny_Constant_none (jF Y.inv uB)
 case bool=>exact .is λq b p Y l=>wpAny_Constant_bool (jF Y.inv xD)
 case int=>exact .is λq b p Y l=>wpAny_Constant_int (dT Y.inv iN)
 case str x=>exact .E λi=>.is λq b p Y l=>bl0 (dT Y.inv (tA i _ (by rw[show sv (eW x)=x from RM (by simp[eW])])))
end
end
section
section
variable{c:Cx}{q:aE c}{f:av}{p:Pt}
theorem aE.c8(q:aE c):q.env.scope.kind=.function:=by rw[q.EO.sc];exact q.EO.c8
theorem aE.kindOf(q:aE c)(m:c.sc.names.lookup x=ac k):q.env.kindOf x=ac k:=by unfold Ch;rw[q.EO.sc];exact m
theorem aJ4(m:f[k]?=ac (ac v)):q.ev f (.loc k) i=.ok v i:=show(match f[k]? with|some (ac v)=>_|_=>_)=_ by rw[m]
theorem Oh(A:c.lay[k]?=ac (ac (x,b))):Rv q f p (loadName q.env x) (q.ev f (.loc k) p.σ):=λY C=>by
 have n:(match f[k]? with|some (ac v)=>R.ok v p.σ|_=>.i)≠.i:=C;refine am Y.c2 λm L=>?_
 cases s:f[k]? with
 |none=>rw[s]at n;exact absurd rfl n
 |some o=>
  cases o with
  |none=>rw[s]at n;exact absurd rfl n
  |some v=>
   rw[aJ4 s];have z:=L.slot k v s x b A;have B:=q.kindOf (q.LO k x b A)
   cases b with
   |false=>exact ak z λD u w=>wpAny_loadName_local q.c8 B L.ns u (jF Y.inv w)|true=>exact ch z λF D u w G E=>wpAny_loadName_cell q.c8 B u w (jF Y.inv E)
theorem aj0(n:c.gl.lookup x=ac v)(o:c.sc.names.lookup x=ac .globalImplicit)(s:(x==("__debug__":Str))=ag):Rv q f p (dF (.Name x h) q.env) (.ok (.m v) p.σ):=λY w=>by
 have m:p.s.heap.Ns q.env.globals q.mg:=by rw[q.EO.gl];exact q.G.g.keeps Y.inv.base
 refine Name_function_global q.c8 (q.kindOf o) ?_ s;rcases q.G.at_ x v n with k|⟨k,u⟩
 ·exact loadGlobal_global m k (jF Y.inv rfl)
 ·exact loadGlobal_builtin m k (by rw[q.EO.bl];exact q.G.b.keeps Y.inv.base) u (jF Y.inv rfl)
theorem OF:bL (c.name x) λy=>((∃m b,y=.loc m/\c.lay[m]?=ac (ac (x,b)))\/∃v,y=.a1 v/\c.gl.lookup x=ac v/\c.sc.names.lookup x=ac .globalImplicit)/\(x==("__debug__":Str))=ag:=by
 have o:bL ((uq c.lay x).map Ex.loc) λy=>∃m b,y=.loc m/\c.lay[m]?=ac (ac (x,b)):=λy e=>
  ak (Option.map_eq_some_iff.mp e) λm s z=>am (aW5 s) λb u=>gF m b z.symm u
 refine bL.f4 λn=>?_;have n:(x==("__debug__":Str))=ag:=beq_eq_false_iff_ne.mpr n
 cases B:c.sc.names.lookup x with
 |none=>exact .S|some k=>
  induction k using NameKind.casesOn<;>first|exact bL.S|skip
  case globalImplicit=>exact λy e=>ak (Option.map_eq_some_iff.mp e) λv w z=>⟨.inr (br v z.symm w rfl),n⟩
  all_goals exact o.of λC A=>⟨.inl A,n⟩
theorem An:aW (.Name x h):=λc=>.of OF λy k q f p=>aP k λk m=>k.elim
 (λk=>cu k λw b e n=>e▸λY o=>wpAny_Name (Oh n Y o) m)
 λk=>bP k λv e s u=>e▸aj0 s u m
end
structure UO(e:aY):Prop where
 mk::
 marks:∀g,CJ g e=ag
 star:∀r k,lH (e::r) k=(ag,dF e k)::lH r k
 fold:∀k x,bk5 e k x=bx x
theorem my(k:cE c e=ac m):UO e:=by
 induction e using Expr.casesOn<;>first|exact⟨λn=>rfl,λn n=>rfl,λn n=>rfl⟩|exact nomatch(show(ae:Option Ex)=ac m from k)
theorem Vk(m:CJ g r=ag):dF (.Compare l [g] [r] h) k=(do let a <-dF l k;let b <-dG [a] (dF r k);fP h;hA [a,b] (pV g a b)):=by
 rw[bj8,Io [g] [r] _ m];rfl
theorem Vm(m:CJ g r=ag):yf (.Compare l [g] [r] h) k w=(do let a <-dF l k;let b <-dG [a] (dF r k);fP h;let c <-hA [a,b] (pV g a b);dG [c] (jq c)):=by
 rw[bk1,Io [g] [r] _ m];rfl
theorem Vl(m:CJ j t=ag):dF (.Compare l [g,j] [r,t] h) k=(do
  let a <-dF l k;let b <-dG [a] (dF r k);fP h;let c <-dG [a,b] (pV g a b);Ir [a,b] [c];let q <-dG [c,b] (jq c)
  if q then(do let d <-dG [b] (dF t k);fP h;hA [b,d] (pV j b d))else bx c):=by
 rw[bj8,Io [g,j] [r,t] _ m];rfl
theorem Vn(m:CJ j t=ag):yf (.Compare l [g,j] [r,t] h) k w=(do
  let a <-dF l k;let b <-dG [a] (dF r k);fP h;let c <-dG [a,b] (pV g a b);Ir [a,b] [c];let q <-dG [c,b] (jq c)
  if q then(do let d <-dG [b] (dF t k);fP h;let c <-hA [b,d] (pV j b d);dG [c] (jq c))else bx ag):=by
 rw[bk1,Io [g,j] [r,t] _ m];rfl
section
variable{c:Cx}{q:aE c}{f:av}{p:Pt}{i:H}{g j:gv}{a b d:Ex}
theorem R.i8{k n:Type}{r:R k}:(r.bind λa m=>R.ok a m)=r:=by induction r using R.casesOn<;>rfl
theorem R.n5{m o:Type}{a:m}{n:H}{k:m->H->R o}:(R.ok a n).bind k=k a n:=rfl
theorem aM4:q.test f (.Q a g b) i=(q.ev f a i).bind λx k=>(q.ev f b k).bind λy k=>kM g x y k:=by
 unfold aE.test;rw[PG,R.c9];exact R.b4 λx k=>R.c9.trans (R.b4 λy k=>R.c9.trans (R.i8 (n:=Bool)))
theorem aM5:q.test f (.f6 a g b j d) i=(q.ev f a i).bind λx k=>(q.ev f b k).bind λy k=>(kM g x y k).bind λt k=>if t then(q.ev f d k).bind λz k=>kM j y z k else .ok ag k:=by
 unfold aE.test;rw[PH,R.c9];refine R.b4 λx k=>R.c9.trans (R.b4 λy k=>R.c9.trans (R.b4 λt k=>?_))
 induction t using Bool.casesOn
 ·rfl
 ·exact R.c9.trans (R.b4 λz k=>R.c9.trans (R.i8 (n:=Bool)))
theorem sT{a b:V}{v w:ah}(k:VR p.ρ p.s.heap a v)(m:VR p.ρ p.s.heap b w):Rq q f p (pV g v w) VB (kM g a b p.σ):=.op (aD4 q.n4 k m)
theorem Rq.map{k B n:Type}{t:Sem n}{C:List aj->aS->k->n->Prop}{D:List aj->aS->B->n->Prop}{r:R k}{o:k->B}(s:Rq q f p t C r)(m:∀{E F a v},C E F a v->D E F (o a) v):Rq q f p t D (r.bind λa s=>.ok (o a) s):=λY G=>
 bb (s Y (R.h4 G)) (λv J z=>z.U λa u w e A I M=>⟨o a,u,w,by rw[e];rfl,A,I,m M⟩) λv J z=>z.U λN u w e A I x=>⟨N,u,w,by rw[e];rfl,A,I,x⟩
theorem Lr{t:Sem ah}{r:R Bool}(k:Rq q f p t VB r):Rv q f p t (r.bind λb k=>.ok (.j b) k):=Rq.map k id
theorem Lq(k:Rq q f p t VB r):Rq q f p (do let c <-t;dG [c] (jq c)) lL r:=
 .rr (R.i8 (n:=Bool)).symm<|.bind k λb v n o m=>.b1<|.op (aE4 m)
theorem Jz{m n:Type}{v:ah}{t:Bool}{u:List ah}{o:Bool->Sem n}{s:List aj->aS->m->n->Prop}{r:R m}(w:v=.bool t)(k:Rq q f p (o t) s r):Rq q f p (dG u (jq v)>>=o) s r:=λY z=>
 aD (gc (by rw[w];exact λA A A=>k Y z))
theorem Eo{m n:Type}{o s:Sem n}{k:List aj->aS->m->n->Prop}{r u:R m}{t:Bool}(v:t=af->Rq q f p o k r)(w:t=ag->Rq q f p s k u):Rq q f p (if t then o else s) k (if t then r else u):=by
 induction t using Bool.casesOn
 ·exact w rfl
 ·exact v rfl
end
section
variable{l r e t:aY}{g j:gv}{h:Pos}
theorem ZG(k:aW l)(m:aW r):aW (.Compare l [g] [r] h):=λc=>.bind (k c) λa n=>.d3 (m c) λb o s=>.is λq f p=>
 .L (Vk ((my o).marks g)) PG<|.bind (n q f p) λx v u C z=>.bind (.b1 (s q f u)) λy w D A B=>.a0<|.f8<|Lr<|sT (z.up A) B
theorem a43(k:aW l)(m:aW r):gD (.Compare l [g] [r] h):=λc=>.bind (k c) λa n=>.d3 (m c) λb o s=>.is λq f p=>
 .L (Vm ((my o).marks g)) aM4<|.bind (n q f p) λx v u C z=>.bind (.b1 (s q f u)) λy w D A B=>.a0<|Lq<|.f8<|sT (z.up A) B
theorem ZH(n:aW l)(o:aW r)(s:aW t):aW (.Compare l [g,j] [r,t] h):=λc=>.bind (n c) λa A=>.bind (o c) λb B=>.d3 (s c) λd C D=>.is λq f p=>
 .L (Vl ((my C).marks j)) PH<|.bind (A q f p) λx v E N F=>.bind (.b1 (B q f E)) λy w P G k=>.a0<|
 Rq.bind (.b1 (sT (F.up G) k)) λt Q I J m=>.free<|Jz m<|Eo
  (λT=>.bind (.b1 (D q f I)) λz u S L M=>.a0<|.f8<|Lr<|sT ((k.up J).up L) M) λe=>.c1<|m.trans<|congrArg _ e
theorem a44(m:aW l)(n:aW r)(o:aW t):gD (.Compare l [g,j] [r,t] h):=λc=>.bind (m c) λa s=>.bind (n c) λb A=>.d3 (o c) λd B C=>.is λq f p=>
 .L (Vn ((my B).marks j)) aM5<|.bind (s q f p) λx v D N E=>.bind (.b1 (A q f D)) λy w P F k=>.a0<|
 Rq.bind (.b1 (sT (E.up F) k)) λt Q G I J=>.free<|Jz J<|Eo
  (λT=>.bind (.b1 (C q f G)) λz u S L M=>.a0<|Lq<|.f8<|sT ((k.up I).up L) M) λT=>.c1 rfl
theorem a48(m:aW e)(n:∀o k,yf e o k=(do let v <-k;fP e.pos;dG [v] (jq v))):gD e:=λc=>.of (m c) λa s q f p=>
 .l (n _ _)<|.bind (s q f p) λx v w z u=>.a0<|.b1<|.op λI=>Gj I u
theorem aM7{c:Cx}{q:aE c}{f:av}{a:Ex}{i:H}:q.test f (.f1 a) i=(q.test f a i).bind λb k=>.ok (!b) k:=by
 unfold aE.test;rw[PJ,R.c9,R.c9];refine R.b4 λv k=>?_;unfold Bs gW
 induction aA k v using Option.casesOn<;>rfl
theorem a46(k:gD e):gD (.UnaryOp .Not e h):=λc=>.b6 (k c) λa m q f p=>
 .L (arm_isTrue_UnaryOp ..) aM7<|.bind (m q f p) λx v o s n=>.c1 (congrArg not n)
theorem ww{c:Cx}{q:aE c}{f:av}{p:Pt}{m n:Type}{o s:Sem n}{k:List aj->aS->m->n->Prop}{r u:R m}{t v:Bool}(e:t=v)(w:Rq q f p o k r)(z:Rq q f p s k u):Rq q f p (if v then o else s) k (if t then r else u):=
 e▸Eo (λA=>w) λA=>z
theorem ZL{a b:aY}(m:gD t)(n:aW a)(o:aW b):aW (.IfExp t a b h):=λc=>.i2 (m c) (n c) (o c) λx y z s u w q f p=>
 .L (arm_eval_IfExp ..) PI<|Rq.bind (s q f p) λC v k B A=>ww A (u q f k) (w q f k)
theorem aM6{c:Cx}{q:aE c}{f:av}{x a b:Ex}{i:H}:q.test f (.E x a b) i=(q.test f x i).bind λt k=>if t then q.test f a k else q.test f b k:=by
 unfold aE.test;rw[PI,R.c9];exact R.b4 λt k=>by induction t using Bool.casesOn<;>rfl
theorem a45{a b:aY}(m:gD t)(n:gD a)(o:gD b):gD (.IfExp t a b h):=λc=>.i2 (m c) (n c) (o c) λx y z s u w q f p=>
 .L (arm_isTrue_IfExp ..) aM6<|.bind (s q f p) λC v k B A=>ww A (u q f k) (w q f k)
end
section
variable{c:Cx}{q:aE c}{f:av}{p:Pt}{i:H}{g:mG}{x y:Ex}{r:List Ex}
noncomputable def aE.i9(q:aE c)(f:av)(g:mG)(x:List Ex)(i:H):R V:=Mine.Internal.qG q.P q.fz q.C q.hd f g x i
noncomputable def uk:mG->Bool->Bool
 |.And,b=>!b|.Or,b=>b
theorem PF:q.i9 f g [x] i=q.ev f x i:=show(Mine.Internal.ev _ _ _ _ _ _ _).bind _=_ from R.i8 (n:=V)
set_option tactic.hygienic true in
theorem PE:q.i9 f g (x::y::r) i=(q.ev f x i).bind λv k=>(gW k v).bind λt k=>if uk g t then .ok v k else q.i9 f g (y::r) k:=R.b4 λv k=>by
 unfold gW
 induction g using BoolOp.casesOn<;>induction aA k v using Option.casesOn<;>first|rfl|(rename_i t;induction t using Bool.casesOn<;>rfl)
set_option backward.match.sparseCases true in
theorem WM{h:Pos}{x y:Sem ah}{r:List (Sem ah)}:xY h g (x::y::r)=(do let v <-x;fP h;let t <-dG [v] (jq v);if uk g t then bx v else xY h g (y::r)):=
 show(do let v <-x;fP h;let t <-dG [v] (jq v);match g,t with|.And,ag|.Or,af=>bx v|_,_=>xY h g (y::r))=_ by
  congr 1;funext v;congr 1;funext _;congr 1;funext t
  induction g using BoolOp.casesOn<;>induction t using Bool.casesOn<;>rfl
theorem WN{e m:aY}{r:List aY}{k:Env}{h:Pos}:xY h g (Ic (e::m::r) k)=(do let v <-dF e k;fP h;let t <-dG [v] (jq v);if uk g t then bx v else xY h g (Ic (m::r) k)):=by
 rw[bj7,bj7,WM]
theorem Vc{e:aY}{r:List aY}{k:Env}:SN g (e::r) k=(do let t <-yf e k (dF e k);if uk g t then bx t else SN g r k):=by
 rw[arm_allTrue_cons];congr 1;funext t
 induction g using BoolOp.casesOn<;>induction t using Bool.casesOn<;>rfl
theorem JQ{e:aY}{r:List aY}{m:List Ex}(k:gE c (e::r)=ac m):∃y n,m=y::n:=
 ak (Option.bind_eq_some_iff.mp k) λa o k=>ak (Option.bind_eq_some_iff.mp k) λb o k=>fq a b ((ax k).symm)
def UM(c:Cx)(g:mG)(h:Pos)(k:List aY)(m:List Ex):Prop:=∀(q:aE c) f p,Rv q f p (xY h g (Ic k q.env)) (q.i9 f g m p.σ)
theorem ZZ(n:∀e∈m,aW e):bL (gE c m) (UM c g h m):=by
 induction m with
 |nil=>exact .is λq f p=>.i|cons e r w=>
  refine .bind (n e (.head _) c) λa o=>.d3 (w λx A=>n x (.tail _ A)) λs k B=>.is λq f p=>?_
  cases r with
  |nil=>have k:=ax (k:ac []=ac s);subst k;exact .L rfl PF (o q f p)
  |cons E r=>
   refine am (JQ k) λy z=>am z λs z=>?_;subst z;refine .L WN PE<|.bind (o q f p) λx v F G u=>.a0<|Rq.bind (.b1 (.op λI=>Gj I u)) λt b C D z=>?_
   exact ww (m:=V) (congrArg _ z) (.c1 (u.up D)) (B q f C)
theorem ZE(k:∀e∈m,aW e):aW (.BoolOp g m h):=λc=>.b6 (ZZ k) λo n q f p=>.l (arm_eval_BoolOp ..) (n q f p)
noncomputable def aE.i4(q:aE c)(f:av)(g:mG)(x:List Ex)(i:H):R Bool:=(q.i9 f g x i).bind λv k=>gW k v
set_option tactic.hygienic true in
theorem aM9:q.i4 f g [x] i=(q.test f x i).bind λt k=>if uk g t then .ok t k else .ok (g==.And) k:=by
 unfold aE.i4 aE.test;rw[PF,R.c9];refine R.b4 λv k=>?_;unfold gW
 induction g using BoolOp.casesOn<;>induction aA k v using Option.casesOn<;>first|rfl|(rename_i t;induction t using Bool.casesOn<;>rfl)
theorem aM8:q.i4 f g (x::y::r) i=(q.test f x i).bind λt k=>if uk g t then .ok t k else q.i4 f g (y::r) k:=by
 unfold aE.i4 aE.test;rw[PE,R.c9,R.c9];refine R.b4 λv k=>?_;unfold gW
 cases m:aA k v with
 |none=>rfl|some t=>induction g using BoolOp.casesOn<;>induction t using Bool.casesOn<;>first|rfl|(show fW k (aA k v)=_;rw[m];rfl)
theorem a49(n:∀e∈m,gD e):bL (gE c m) λv=>∀(q:aE c) f p,Rq q f p (SN g m q.env) lL (q.i4 f g v p.σ):=by
 induction m with
 |nil=>exact .is λq f p=>.i|cons e r w=>
  refine .bind (n e (.head _) c) λa o=>.d3 (w λx A=>n x (.tail _ A)) λs k B=>.is λq f p=>.l Vc ?_
  cases r with
  |nil=>have k:=ax (k:ac []=ac s);subst k;exact .rr aM9<|.bind (o q f p) λt b u C z=>ww (congrArg _ z) (.c1 z) (.l (arm_allTrue_nil ..) (.c1 rfl))
  |cons D r=>
   refine am (JQ k) λy z=>am z λs z=>?_;subst z;exact .rr aM8<|.bind (o q f p) λt b u C z=>ww (congrArg _ z) (.c1 z) (B q f u)
theorem a42(k:∀e∈m,gD e):gD (.BoolOp g m h):=λc=>.b6 (a49 k) λo n q f p=>.l (arm_isTrue_BoolOp ..) (n q f p)
end
def IV(k:Nat)(n:List aj)(o:aS)(m:List V)(s:List ah):Prop:=m.length=k/\aI n o m s
def Dp(c:Cx)(k:List aY)(m:List Ex):Prop:=∀(q:aE c) f p h,Rq q f p (CW (lF h (lH k q.env))) (IV k.length) (q.e7 f m p.σ)
theorem aX1:CW ((ag,x)::k)=(do let v <-x;let m <-dG [v] (CW k);bx (v::m)):=rfl
theorem Aq(n:∀e∈k,aW e):bL (gE c k) (Dp c k):=by
 induction k with
 |nil=>exact .is λq f p h Y I=>RQ (jF Y.inv ⟨rfl,rfl⟩)|cons e r s=>
  refine .d3 (n e (.head _) c) λa u w=>.b6 (s λx m=>n x (.tail _ m)) λD m q f p h=>?_;exact .l ((congrArg (λl=>CW (lF h l)) ((my u).star _ _)).trans aX1)<|Rq.bind (w q f p) λx v z E A=>.bind (.b1 (m q f z h)) λF B G C o=>.c1 (wo (congrArg (· +1) o.1) v B rfl (A.up C) o.2)
end
section
section
variable{c:Cx}{q:aE c}{a:av}{p g:Pt}{d e:Type}{t:Sem e}{f:List aj->aS->d->e->Prop}{r:R d}
theorem kU{h:aS}{o:Obj}:∀i j,h.get? i=ac j->(h.push o).get? i=ac j:=λl l k=>ie _ k
theorem BH(h:IV k m n l v)(i:k<=1000):l.length<=big/\v.length<=mL:=by
 have j:=aI.length h.2;rw[h.1]at j;exact⟨aV (fN h.1) (aV i (by decide)),aV (fN j) (aV i (by rw[yg];decide))⟩
end
section
variable{c:Cx}{q:aE c}{a:av}{p:Pt}{b:H}
theorem Aw{i:List aY}(h:¬(i.any rG||1000<i.length)=af):i.length<=1000:=by
 rw[lC,not_or]at h;exact xR λz=>h.2 (decide_eq_true z)
theorem ZN(j:∀k∈l,aW k):aW (.List l m):=λc=>.f4 λi=>.b6 (Aq j) λo n q a p=>
 .l (arm_eval_List ..)<|.a0<|Rq.bind (n q a p m) λs u v w h Y x=>wpAny_newList (wY Y.inv h.2 (BH h (Aw i)).1 rfl rfl rfl rfl) (BH h (Aw i)).2
theorem ZV{i:List aY}{k:Nat}{j:Pos}(n:∀o∈i,aW o):aW (.Tuple i k j):=λc=>.f4 λl=>.b6 (Aq n) λu s q a p=>
 .l (arm_eval_Tuple ..)<|.a0<|Rq.bind (s q a p j) λv w m x h Y y=>wpAny_newTuple
  ⟨_,m.σ,m.ρ,rfl,.c0 kU,Y.inv.keeps kU rfl rfl rfl,(BH h (Aw l)).1,_,_,_,rfl,mH _ rfl,h.2.step (.c0 kU) Y.inv.Y⟩ (BH h (Aw l)).2
noncomputable def aE.j9(q:aE c)(a:av)(x:Option Ex)(b:H):R (Option V):=Mine.Internal.Ap q.P q.fz q.C q.hd a x b
def UJ(c:Cx)(h:Option aY)(x:Option Ex):Prop:=∀(q:aE c) a p,Rq q a p (Ie h q.env) fX (q.j9 a x p.σ)
theorem Mf(i:∀x,h=ac x->aW x):bL (cO c h) (UJ c h):=by
 cases h with
 |none=>exact .is λq a p Y l=>evalPart_none ..▸λl l l=>jF Y.inv rfl|some h=>exact .b6 (i h rfl c) λk j q a p=>.l (evalPart_some ..)<|Rq.map (j q a p) id
def Dm{k:Type}(i:k->Option V×Option V×Option V)(j:List aj)(h:aS)(x:k)(v:ah):Prop:=∃l m n o,v=.ref l/\h.get? l=ac {cls:=.type "slice",data:=.fields #[m,n,o]}/\fX j h (i x).1 m/\fX j h (i x).2.1 n/\fX j h (i x).2.2 o
theorem fX.up(x:Le p j)(h:fX p.ρ p.s.heap i v):fX j.ρ j.s.heap i v:=by
 cases i with
 |none=>exact h|some i=>exact VR.up (a:=i) h x
theorem OG{k:Type}{i:k->Option V×Option V×Option V}{z:k}{u v w:ah}(l:fX p.ρ p.s.heap (i z).1 u)(m:fX p.ρ p.s.heap (i z).2.1 v)(n:fX p.ρ p.s.heap (i z).2.2 w):Rq q a p (Tf "slice" [u,v,w]) (Dm i) (.ok z p.σ):=λY o=>by
 have j:∀{x y},fX p.ρ p.s.heap x y->fX p.ρ (p.s.heap.push {cls:=.type "slice",data:=.fields #[u,v,w]}) x y:=λ{x y} h=>fX.up (p:=p) (j:=⟨p.ρ,p.σ,{p.s with heap:=p.s.heap.push {cls:=.type "slice",data:=.fields #[u,v,w]}}⟩) ⟨.c0 kU,Y.inv.Y⟩ h;exact yk ⟨_,p.σ,p.ρ,rfl,.c0 kU,Y.inv.keeps kU rfl rfl rfl,_,u,v,w,rfl,mH _ rfl,j l,j m,j n⟩
theorem Jc{i j m:Option aY}{n:Pos}{h:Env}:dF (.Slice i j m n) h=(do let l <-Ie i h;let u <-dG [l] (Ie j h);let k <-dG [l,u] (Ie m h);Tf "slice" [l,u,k]):=rfl
theorem Rq.l7{d e j:Type}{m:List ah}{x:j}{k:j->Sem e}{f:List aj->aS->d->e->Prop}{r:R d}(h:Rq q a p (k x) f r):Rq q a p (dG m (uX x)>>=k) f r:=λY n=>aD (gc (bz (h Y n)))
theorem R.l8{d e m o:Type}{r:R d}{s:d->H->R e}{n:d->e->m}{k:m->H->R o}:((r.bind λl h=>(s l h).bind λu h=>R.ok (n l u) h).bind k)=r.bind λl h=>(s l h).bind λu h=>k (n l u) h:=by
 induction r using R.casesOn with
 |ok j h=>show((s j h).bind _).bind _=(s j h).bind _;induction s j h using R.casesOn<;>rfl
 |exc v h=>rfl|i=>rfl
theorem aJ8{i:Ex}{x y:Option Ex}:q.ev a (.a7 i x y) b=(q.ev a i b).bind λo h=>((q.j9 a x h).bind λl h=>(q.j9 a y h).bind λu h=>.ok (l,u) h).bind λz h=>dU h o z.1 z.2:=
 R.b4 λo h=>(R.l8 (n:=Prod.mk) (k:=λz h=>dU h o z.1 z.2)).symm
theorem ZT{k:aY}{l m:Option aY}{n s:Pos}(u:aW k)(w:∀x,l=ac x->aW x)(A:∀x,m=ac x->aW x):aW (.Subscript k (.Slice l m ae n) s):=λc=>.i2 (u c) (Mf w) (Mf A) λY x y B C D q a p=>
 .L (SW ..) aJ8<|.bind (B q a p) λo v i s1 E=>Rq.bind (.b1 (g:=Dm λz=>(z.1,z.2,ae))<|.l Jc<|.bind (C q a i) λz1 F j s2 G=>.bind (.b1 (D q a j)) λz2 J h L M=>.l7<|
  OG (fX.up L G) M rfl) λz z3 p4 N P=>.a0<|pz P λsl F J Q S z=>rO z λT i j h=>by
  have h:Q=.none:=h;subst S;subst h;exact .op λI U=>aE2 I (E.up N) i j T U λZ Z=>rfl
noncomputable def uo(i:aj->Option (List Int))(o l k:V)(h:H):R V:=match AB i o with
  |some j=>match l with
   |.a l=>match k with
    |.a k=>if 0<=l&&0<k then .ok (.obj h.length) (h++[.list ((pickNums j (ac l) ae (ac k)).map .a)])else .i
    |_=>.i
   |_=>.i
  |none=>.i
theorem aJ9{i x y:Ex}:q.ev a (.h0 i x y) b=(q.ev a i b).bind λo h=>((q.ev a x h).bind λl h=>(q.ev a y h).bind λk h=>.ok (l,k) h).bind λz h=>uo q.fz o z.1 z.2 h:=
 R.b4 λo h=>.trans (R.b4 λl h=>R.b4 λk h=>show _=uo q.fz o l k h by
  unfold uo
  cases AB q.fz o with
  |none=>rfl|some j=>induction l using Mine.Internal.V.casesOn<;>first|rfl|(induction k using Mine.Internal.V.casesOn<;>rfl)) (R.l8 (n:=Prod.mk) (k:=λz h=>uo q.fz o z.1 z.2 h)).symm
set_option tactic.hygienic true in
theorem aE1(j:VR p.ρ p.s.heap o v)(A:VR p.ρ p.s.heap l B)(C:VR p.ρ p.s.heap k D)(E:p.s.heap.get? F=ac {cls:=.type "slice",data:=.fields #[B,.none,D]})
  (G:∀m n,lJ I ag m n=hA [m,n] (kA m n)):Rv q a p (lI z2 I v (.ref F)) (uo q.fz o l k p.σ):=by
 unfold uo
 cases s:AB q.fz o with
 |none=>exact .i|some J=>
  induction l using Mine.Internal.V.casesOn<;>first|exact .i|skip
  induction k using Mine.Internal.V.casesOn<;>first|exact .i|skip
  rename_i l k
  induction o using Mine.Internal.V.casesOn<;>first|(injection s;done)|skip
  rename_i L
  induction L using Value.casesOn<;>first|(injection s;done)|skip
  rename_i w;have j:v=.ref w:=j;subst j;refine am A λt1 M=>am C λt2 N=>?_;subst M;subst N;intro Y h;by_cases i:(0<=l&&0<k)=af
  ·dsimp only at h⊢;rw[if_pos i]at h⊢;rw[dO]at i;have h0:=of_decide_eq_true i.1;have h1:=of_decide_eq_true i.2;refine aP (q.i3 w J s) λP z=>mF z λz3 Q S z=>rO z λU x Z u=>?_;have y:=Y.inv.base _ _ U;have il:=u.length;rw[kq]at il;have z4:=oH;refine vg (T:="list") (al _ y x) PySem.F.slot_list_getitem.lookup ?_ (G _ _);refine bl1 (wp S y x Q Z) (br _ E rfl rfl) (.int _ _) .none (.int _ _) (by simp only[ne_eq,bm7];lia) ?_ (by lia);exact wY Y.inv (a88 (u.pick (ac l) ae (ac k))) (by rw[bH];exact aV (length_pickNums_le u _ _ _) P) rfl rfl rfl rfl
  ·dsimp only at h;rw[if_neg i]at h;exact absurd rfl h
theorem ZU{j k m:aY}{w A:Pos}(B:aW j)(C:aW k)(D:aW m):aW (.Subscript j (.Slice (ac k) ae (ac m) w) A):=λc=>.i2 (B c) (C c) (D c) λU x y E F G q a p=>
 .L (SW ..) aJ9<|.bind (E q a p) λo v i Y I=>Rq.bind (.b1 (g:=Dm λz=>(ac z.1,ae,ac z.2))<|.l Jc<|.bind (F q a i) λl J h s2 L=>.l7<|.bind (.b1 (G q a h)) λu n s M N=>
  OG (i:=λz:V×V=>(ac z.1,ae,ac z.2)) (z:=(l,u)) (L.up M) rfl N) λz z1 p4 P Q=>.a0<|pz Q λsl J n vk S z=>rO z λT i h s=>by
  have h:n=.none:=h;subst S;subst h;exact aE1 (I.up P) i s T λZ Z=>rfl
theorem JP(h:∀l m n p,i≠.Slice l m n p):cE c (.Subscript o i s)=(do return .t (<-cE c o) (<-cE c i))/\∀j k,lJ i ag j k=hA [j,k] (kA j k):=by
 induction i using Expr.casesOn<;>first|exact absurd rfl (h _ _ _ _)|exact⟨rfl,λu u=>rfl⟩
theorem aL0:q.ev a (.t j i) b=(q.ev a j b).bind λo h=>(q.ev a i h).bind λk h=>tF h o k:=R.b4 λo h=>R.b4 λk h=>by unfold tF;induction cH h o k using Option.casesOn<;>rfl
set_option tactic.hygienic true in
theorem ZS(h:∀m j n p,i≠.Slice m j n p)(s:aW l)(j:aW i):aW (.Subscript l i u):=λc=>.L (JP h).1<|.e6 (s c) (j c) λE F x y q a p=>
 .L (SW ..) aL0<|.bind (x q a p) λo v z G A=>.bind (.b1 (y q a z)) λk w J B C=>.a0<|.op λI D=>aD6 I (A.up B) C D (JP (c:=c) (s:=u) (o:=l) h).2
set_option tactic.hygienic true in
theorem DH(h:nx o=ag):attributeBase o l m w=w:=by
 induction o using Expr.casesOn<;>first|rfl|skip
 rename_i i j k _
 induction i using Expr.casesOn<;>first|rfl|skip
 induction j using List.casesOn<;>first|rfl|skip
 induction k using List.casesOn<;>first|rfl|injection h
theorem xx(x:Str):sv (eW x)=x:=by
 apply RM;simp[eW]
theorem aI9:q.ev a (.attr i n) b=(q.ev a i b).bind λo h=>mU q.P h o n:=R.b4 λo h=>by unfold mU;induction dH q.P h o n using Option.casesOn<;>rfl
theorem Jk(j:VR p.ρ p.s.heap o v):Rv q a p (yd v i af) (mU q.P p.σ o (eW i)):=λY k=>by
 have h:=aD1 (h:=af) (A:=q.A) (n:=eW i) q.T Y.inv j k;rw[xx]at h;exact h
theorem ZC(h:aW i):aW (.Attribute i s u):=λc=>.f4 λj=>.b6 (h c) λx k q a p=>
 .L ((arm_eval_Attribute ..).trans (by rw[DH (Bool.eq_false_iff.mpr j)])) aI9<|.bind (k q a p) λo v w y l=>.a0 λY m=>by
  refine aD (gc ?_);exact bb (Jk l Y m) (λv z n=>aD (wpAny_letTemporaryGo (bz n))) λA A x=>x
end
end
section
section
variable{c:Cx}{q:aE c}{a:av}{p:Pt}{d:H}{j b e g:Type}{t:Sem b}{f:b->Sem e}{h:List aj->aS->j->b->Prop}{i:List aj->aS->g->e->Prop}
theorem Rq.first{k:H->R g}(o:Rq q a p t h (.ok r p.σ))(s:∀v m,Le p m->h m.ρ m.s.heap r v->Rq q a m (f v) i (k m.σ)):Rq q a p (t>>=f) i (k p.σ):=λY u=>
 Rl (k:=λG w=>k w) (o Y λz=>nomatch z) λE F x y v A n I B=>by
  injection A with C D;subst C;subst D;exact s v ⟨x,p.σ,y⟩ ⟨n,Y.inv.Y⟩ B (Y.step n I) u
def UN(k:List aj)(l:aS)(y:Str)(v:ah):Prop:=∃t,v=.str y t
theorem a20:Rq q a p (dF (.Constant (.str y) k l) q.env) UN (.ok y p.σ):=λY m=>bl0 ⟨y,p.σ,p.ρ,rfl,.b5 _ _,Y.inv.i6,_,rfl⟩
theorem aG2:SV ((k,v)::n)=(do let l <-k;let m <-dG [l] v;let o <-dG [l,m] (SV n);bx ((l,m)::o)):=rfl
theorem aG1(B:∀r∈m,aW r):∀{l:List (Option aY)} {n:List (List Nat)},oJ l=ac n->l.length=m.length->
  bL (gE c m) λw=>w.length=m.length/\∀(q:aE c) a p,Rq q a p (SV (wU q.env E l m)) (IQ n) (q.e7 a w p.σ):=by
 induction m with
 |nil=>
  intro l n o s
  cases l with
  |cons _ _=>injection s|nil=>have o:=ax (o:ac []=ac n);subst o;exact .is ⟨rfl,λq a p=>.c1 ⟨rfl,rfl⟩⟩
 |cons r m F=>
  intro l n o s
  cases l with
  |nil=>injection s|cons k l=>
   refine pz (yR o) λy t p U G I=>?_;subst G;refine aP I λJ L=>?_;subst L;refine .e6 (B r (.head _) c) (F (λx u=>B x (.tail _ u)) J (pP s)) λY w M u=>⟨congrArg (· +1) u.1,λq a p=>?_⟩
   exact .l aG2<|.first a20 λZ N s0 P=>.bind (.b1 (t:=do let x <-dF r q.env;fP E;bx x) (.rr (R.i8 (n:=V)).symm<|.bind (M q a N) λx v C Q A=>.a0 (.c1 A))) λx v C Q A=>.bind (.b1 (u.2 q a C)) λvs S p2 T D=>
    .c1 ⟨(bw v _ rfl (A.up T) D.1),am P λt z=>kQ t v S (by rw[xx,z]) D.2⟩
noncomputable def Pt.dict(p:Pt):Pt:=⟨p.ρ++[p.s.heap.objs.size],p.σ++[.dict [] (ac 0)],{p.s with heap:=p.s.heap.push {cls:=.type "dict",data:=.dict #[]}}⟩
theorem At.n6(Y:At q a p)(l:bq p.ρ p.s.heap k.ρ k.s.heap/\ay q.u.D q.u.envs k.ρ k.σ k.s):At q a k:=Y.step l.1 l.2
theorem aJ3:q.ev a (.b8 k l) d=(q.e7 a l (d++[.dict [] (ac 0)])).bind λm n=>iw k d.length m n:=rfl
theorem YI{G:Prop}(l:iw s n u r≠.i)(k:∀o,r[n]?=ac (.dict [] (ac 0))->sX s u=ac o->iw s n u r=.ok (.obj n) (r.set n o)->G):G:=by
 unfold iw at l k
 cases v:r[n]? with
 |none=>rw[v]at l;exact absurd rfl l
 |some x=>
  rw[v]at l k
  induction x using O.casesOn with
  |dict y m=>cases y with
   |cons _ _=>exact absurd rfl l|nil=>cases m with
    |none=>exact absurd rfl l|some m=>cases m with
     |succ m=>exact absurd rfl l|zero=>
      cases w:sX s u with
      |none=>rw[w]at l;exact absurd rfl l
      |some o=>rw[w]at k;exact k o rfl rfl rfl
  |_=>exact absurd rfl l
theorem ac9{u:sA}{A:cB}{l:Pt}{w:Nat}{y:aj}{k:List (List Nat)}{n:List V}{m:List (ah×ah)}{E:ah->az->Prop}(F:k.length<=15)(r:l.ρ[w]?=ac y)(B:IQ k l.ρ l.s.heap n m)
  (I:ay u.D u.envs l.ρ l.σ l.s) (G:iw k w n l.σ≠.i):aB (Mo u.D) A (forIn m CF λ(x:ah×ah) (Z:PUnit)=>(do SU y x.1 x.2;bx (Ci CF):Sem (ForInStep PUnit)))
   (λZ P=>bo VR (iw k w n l.σ) u.D u.envs l.ρ l.s.heap (.ref y) P) E l.s:=by
 refine YI G λz7 v o Q=>?_
 ·rw[Q]at G⊢;unfold sX at o;by_cases s:(sY k&&k.length==n.length)=af
  ·rw[if_pos s]at o;injection o with o;subst o;rw[dO]at s;have J:k.length=n.length:=beq_iff_eq.mp s.2;refine xF (I.addr v) λa' S z8 T ep U Y z0=>?_;have:=ax (r.symm.trans S);subst this;have z1:=z0.1 0 rfl;subst z1;have z2:T=[]:=List.map_eq_nil_iff.mp Y.1;subst z2;have C:=B.2.length;have L:((k.map sv).zip (m.map (·.2))).length=k.length:=by rw[Sk,bH,bH,C];exact Nat.min_self _
   have M:((k.map sv).zip (m.map (·.2))).map (·.1)=k.map sv:=Cw (by rw[bH,bH,C];exact bI _);have z3:((k.map sv).zip (m.map (·.2))).map (·.1)=(k.zip n).map λp=>sv p.1:=by
    rw[M];show _=(k.zip n).map (sv∘om);rw[<-uR,Cw (fN J)]
   have zv:((k.map sv).zip (m.map (·.2))).map (·.2)=m.map (·.2):=bf3 (by rw[bH,bH,C];exact bI _);refine a12 (b:=ot u.D.prog u.D.w) (g:=m) _ [] 0 l.s _ (JZ B.2) U (by rw[L,nW,jo];exact aV F (by rw[yg];decide:(15:Nat)<=sizeLine)) (by rw[pH,M];exact LL s.1) λh' N z4=>?_;rw[pH,jo,L]at N;refine aP (I.set (p:={l.s with heap:=h',toks:=l.s.toks+m.length}) (o:=.dict (k.zip n) (ac k.length)) r (λz5 D ob ho=>(z4.2 z5 D).trans ho) (List.getElem?_eq_some_iff.mp v).1 (λz=>absurd z (I.h8 v r λZ Z Z z=>nomatch z))
    (λSt=>Fg (by rw[Sk];exact aV (Nat.min_le_left _ _) (aV F (by decide))) _ _ N ⟨z3,by rw[zv,bf3 (fN J.symm)];exact B.1.step St I.Y⟩ (λz9 D=>by cases D;rfl) (beq_eq_false_iff_ne.mp (tP I v r))) rfl rfl rfl) λz6 I2=>?_
   exact⟨_,_,_,rfl,z6,I2,(al _ r rfl)⟩
  ·rw[if_neg s]at o;injection o
theorem ZJ{u:List (Option aY)}{k:List aY}{m:Pos}(N:∀n∈k,aW n):aW (.Dict u k m):=λc=>.E λv=>by
 rw[dO]at v;have l:u.length=k.length:=of_decide_eq_true v.1;have w:k.length<=15:=of_decide_eq_true v.2;refine .d3 (P:=λZ=>True) (λZ Z=>trivial) λP o Z=>.b6 (aG1 (E:=m) N o l) λx F q a p=>.L ((arm_eval_Dict ..).trans (by rw[aG3 o l])) aJ3<|.a0 λY y=>?_
 have G:At q a p.dict:=Y.n6 Y.inv.dict;have A:=Y.inv.dict.1;have I:(p.ρ++[p.s.heap.objs.size])[p.σ.length]?=ac p.s.heap.objs.size:=by
  rw[<-Y.inv.len,fM (bI _),gJ];rfl
 have J:=(Xb o).trans l
 cases k with
 |nil=>
  have Q:x=[]:=List.length_eq_zero_iff.mp F.1;have S:u=[]:=List.length_eq_zero_iff.mp l;have T:P=[]:=List.length_eq_zero_iff.mp J;subst Q;subst S;subst T;have U:(p.σ++[O.dict [] (ac 0)])[p.σ.length]?=ac (.dict [] (ac 0)):=by rw[fM (bI _),gJ];rfl
  have n:(iw [] p.σ.length [] (p.σ++[O.dict [] (ac 0)]))=.ok (.obj p.σ.length) (p.σ++[O.dict [] (ac 0)]):=by unfold iw;rw[U];exact congrArg _ (aU9 ..)
  have L:dictDisplay (Cv (λp=>(ac p.1,p.2)) (wU q.env m [] []))=newDict:=rfl;rw[L];exact yk ⟨_,_,_,n,A,G.inv,(al _ I rfl)⟩
 |cons L z4=>
  have r:=aG0 (n:=q.env) (o:=m) o l;rw[dictDisplay_pairs _ (by intro z;rw[z]at r;injection r) (by rw[r];exact pN w (by decide))];refine aD (aD (wpAny_alloc (aD (gc ?_))));rw[if_pos (by rw[r];exact w)];refine aD (bb (F.2 q a p.dict G (R.h4 y)) (λps M z=>bo.U z λvs B C D s E V1=>?_) λn M z=>bF.U z λz0 B C D s E z1=>⟨z0,B,C,by rw[show q.e7 a x (p.σ++_)=_ from D];rfl,A.trans s,E,z1⟩);rw[show q.e7 a x (p.σ++_)=_ from D]at y⊢;refine gc (aD (bb (ac9 (u:=q.u) (l:=⟨C,B,M⟩) (J▸w) (gH s.pre I) V1 E y) (λZ s2 z=>bo.U z λz2 σ2 ρ2 e2 z3 I2 V2=>?_) λZ Z z=>z));exact bz (bz (bz ⟨z2,σ2,ρ2,e2,(A.trans s).trans z3,I2,V2⟩))
end
end
def eQ(D:Wd)(d:List Env)(e:List aj)(h a:aS):Prop:=∀c o,h.get? c=ac o->a.get? c=ac o\/
 (c∉e/\D.base.get? c=ae/\(o.cls≠.type "tuple"\/∀f n,o.data≠.seq f n)/\(o.cls≠.type "traceback"\/∀g,o.data≠.fields g)/\
  ((∃i∈d,i.frame=ac c)->∃b j n,a.get? c=ac b/\b.data=.dict j n))
theorem eQ.b6(f:h.get? b=ac o)(g:b∉i)(j:D.base.get? b=ae)(l:o.cls≠.type "tuple"\/∀p n,o.data≠.seq p n)(r:o.cls≠.type "traceback"\/∀s,o.data≠.fields s)
  (t:∀d∈u,d.frame≠ac b) (k:∀c a,c≠b->h.get? c=ac a->v.get? c=ac a):eQ D u i h v:=λc a e=>by
 by_cases q:c=b
 ·subst q;rw[f]at e;(injection e with e;subst e);exact .inr (gk g j l r (λ⟨d,m,z⟩=>absurd z (t d m)))
 ·exact .inl (k c a q e)
theorem eQ.mv(x:eQ D e b h c):Mv b h b c:=⟨id,λ{a f n} d=>(x a _ d).elim id λq=>q.2.2.1.elim (absurd rfl) λz=>absurd rfl (z _ _)⟩
theorem VR.loose(x:eQ D d b h c)(e:VR b h a v):VR b c a v:=VR.mv x.mv a e
theorem dC.loose(x:eQ D g i h c)(z:dC h T):dC c T:=by
 refine ch z λo d e a b f=>?_;rcases x T o e with q|⟨_,_,_,q|q,_⟩
 ·exact dp o d q a b f
 ·exact absurd a q
 ·exact absurd b (q _)
theorem OR.loose(x:eQ D e b h c)(m:a∈b)(z:OR D b h o a):OR D b c o a:=
 z.mv x.mv (λf t=>t.loose x) λd q=>(x a d q).elim id λq=>absurd m q.1
theorem ay.loose(I:ay D g h p s)(x:eQ D g h s.heap f.heap)(r:f.gens=s.gens)(t:f.os=s.os)(u:f.drawn=s.drawn):ay D g h p f:=by
 refine⟨λb o e=>?_,λj m=>?_,r.trans I.gens,t.trans I.os,u.trans I.e5,I.len,I.nd,I.fresh,I.g2,λi o a c d=>(I.objs i o a c d).loose x (kY d)⟩
 ·rcases x b o (I.base b o e)with q|⟨_,q,_⟩
  ·exact q
  ·rw[q]at e;injection e
 ·refine uI (I.frames j m) λk L o v n c l d w y=>?_;rcases x L o w with q|⟨_,_,_,_,q⟩
  ·exact AL k L o v n c l d q y
  ·refine gY (q (al j m c)) λz A B C E=>?_;exact AL k L z A B c l d C E
theorem bq.more(x:bq g h i d)(k:∀c,h.get? c≠ae->∀o,d.get? c=ac o->f.get? c=ac o)(j:∀T,dC d T->dC f T):bq g h i f:=by
 refine⟨x.pre,x.new,λb o e n=>?_,λa m t=>(x.tr a m t).keep (k a (by refine gY t λo w w l w=>?_;rw[l];simp))⟩
 rcases x.kept b o e n with⟨p,s,u,z⟩|⟨v,q,r⟩
 ·exact .inl (br p s u (j _ z))
 ·exact .inr (al v (k b (by rw[e];simp) _ q) r)
theorem bq.gone(x:bq c h d a.heap)(I:ay D j d k a)(n:a.heap.get? b=ae):h.get? b=ae:=by
 cases e:h.get? b with
 |none=>rfl|some o=>
  exfalso;by_cases m:b∈c
  ·refine am x.pre λt f=>?_;refine bE (I.at (l:=b) (by rw[<-f];exact pG _ m)) λi g r r z=>?_;refine ak z.h3 λl q r=>?_;rw[n]at q;injection q
  ·rcases x.kept b o e m with⟨r,r,r,⟨g,r,q,r⟩⟩|⟨p,q,r⟩
   ·rw[n]at q;injection q
   ·rw[n]at q;injection q
theorem ay.j4(I:ay D c a d s)(n:s.heap.get? b=ae):b∉a/\D.base.get? b=ae:=by
 refine⟨λm=>?_,?_⟩
 ·refine bE (I.at m) λi f h h z=>?_;refine ak z.h3 λg q h=>?_;rw[n]at q;injection q
 ·cases e:D.base.get? b with
  |none=>rfl|some o=>rw[I.base b o e]at n;injection n
theorem eV.loose{m:Str->Option ah}(L:eV D w A q B h m)(x:eQ D I q h s)
  (k:∀c o,h.get? c=ac o->((∃f n,o.data=.dict f n)\/∃v,o.data=.cell v)->s.get? c=ac o):eV D w A q B s m:=by
 refine⟨L.out,L.new,?_,L.len,λi v g y b C=>?_,λi y g=>?_,L.apart⟩
 ·refine fi L.ns λo f t E u r=>?_;exact lZ o f t (k _ _ E (.inl (fq f t u))) u r
 ·have z:=L.slot i v g y b C
  cases b with
  |false=>refine ak z λj a d=>?_;exact al j a (d.loose x)
  |true=>(refine ch z λc j a l p F=>?_;refine ak l λo d e=>?_);exact dp c j a (al o (k _ _ d (.inr ⟨_,e⟩)) e) p (F.loose x)
 ·refine bE (L.cells i y g) λc G a l p=>?_;refine ak l λo d e=>?_;exact bw c G a (al o (k _ _ d (.inr ⟨_,e⟩)) e) p
theorem ay.k0(I:ay D f j k s)(h:s.heap.get? b=ac o)(g:∀d n,o.data≠.dict d n)(m:e∈f)(q:e.frame=ac b):False:=by
 refine uI (I.frames e m) λp L l d n a p p c i=>?_;rw[q]at a;(injection a with a;subst a);rw[h]at c;(injection c with c;subst c);exact g _ _ i
theorem AX{m:Str->Option ah}(L:eV D i d j k h m)(x:h.IsCell c v):c≠d.locals:=λe=>by
 refine fi L.ns λo l n f g q=>?_;refine ak x λp a b=>?_;rw[e,f]at a;(injection a with a;subst a);rw[g]at b;injection b
structure Dl(D:Wd)(c:Cx)(e:Env)(g:List Env)(x:Str)(b:Bool)(f:List aj)(h:H)(i:av)(s d:az):Prop where
 inv:ay D g f h d
 c2:∃j,eV D c.lay e f i d.heap j
 loose:eQ D g f s.heap d.heap
 rest:∀a o,(b=ag->a≠e.locals)->(b=af->e.cells.lookup x≠ac a)->s.heap.get? a=ac o->d.heap.get? a=ac o
theorem QA{m:Str->Option ah}{z2:ah->az->Prop}
  (T:p.scope=c.sc) (z3:c.sc.kind=.function) (LO:sr c) (LI:qm c.lay) (I:ay D U F σ s) (L:eV D c.lay p F le s.heap m) (v:c.lay[i]?=ac (ac (x,b))) (hv:VR F s.heap z4 M):
  aB (Mo D) za (storeName p x M) (λZ s'=>Dl D c p U x b F σ (le.set i (ac z4)) s s') z2 s:=by
 have hk:=LO i x b v;have kd:p.scope.kind=.function:=by rw[T];exact z3
 have z1:i<le.length:=by rw[L.len];exact(List.getElem?_eq_some_iff.mp v).1
 cases b with
 |false=>
  refine wpAny_storeName_local (by unfold Ch;rw[T,hk];rfl) L.ns (λN P l=>?_) (by rw[kd];rfl);have k:eQ D U F s.heap N:=λa o e=>by
   by_cases q:a=p.locals
   ·subst q;refine fi L.ns λo0 es ep G J Z=>?_;rw[G]at e;(injection e with e;subst e);refine fi P λo1 z5 z6 z7 z8 Z=>?_;exact .inr (gk L.out L.new (.inr (by rw[J];simp)) (.inr (by rw[J];simp)) (λZ=>kQ o1 z5 z6 z7 z8))
   ·exact .inl ((l.2 a q).trans e)
  refine⟨(I.loose (f:={s with heap:=N,toks:=s.toks+1}) k rfl rfl rfl),⟨λz=>if z=x then ac M else m z,?_⟩,k,λa o n Z e=>(l.2 a (n rfl)).trans e⟩
  refine⟨L.out,L.new,P,by rw[jO];exact L.len,λj w d y b r=>?_,λj y d=>?_,L.apart⟩
  ·by_cases A:j=i
   ·subst A;rw[v]at r;cases r;rw[ig z1]at d;cases d;exact al M (by simp) (hv.loose k)
   ·rw[fZ (ik A)]at d;have z:=L.slot j w d y b r
    cases b with
    |false=>
     refine ak z λB f g=>?_;have:y≠x:=λq=>A (LI j i x ag ag (q▸r) v);exact al B (by simp[this,f]) (g.loose k)
    |true=>
     refine ch z λh B f C E Y=>?_;refine ak C λo g t=>?_;have:h≠p.locals:=AX L (al o g t);exact dp h B f (al o ((l.2 h this).trans g) t) E (Y.loose k)
  ·refine bE (L.cells j y d) λh v0 f C E=>?_;refine ak C λo g t=>?_;have:h≠p.locals:=AX L (al o g t);exact bw h v0 f (al o ((l.2 h this).trans g) t) E
 |true=>
  refine bE (L.cells i x v) λh v₀ Q S e3=>?_;refine wpAny_storeName_cell kd (by unfold Ch;rw[T,hk];rfl) Q S λN P l=>?_;have k:eQ D U F s.heap N:=by
   refine ak S λo G J=>?_;exact eQ.b6 G (I.h9 S:h∉F) e3 (.inr (by rw[J];simp)) (.inr (by rw[J];simp)) (λp m q=>I.k0 G (by rw[J];simp) m q) λc ob n e=>(l.2 c n).trans e
  refine⟨(I.loose (f:={s with heap:=N}) k rfl rfl rfl),⟨m,?_⟩,k,λa o Z n e=>(l.2 a (λq=>n rfl (q▸Q))).trans e⟩
  refine⟨L.out,L.new,?_,by rw[jO];exact L.len,λj w d y b r=>?_,λj y d=>?_,L.apart⟩
  ·refine gY L.ns λo es ep G z9=>?_;exact kQ o es ep ((l.2 _ (ik (AX L S:h≠p.locals))).trans G) z9
  ·by_cases A:j=i
   ·subst A;rw[v]at r;cases r;rw[ig z1]at d;cases d;exact dp h M Q P e3 (hv.loose k)
   ·rw[fZ (ik A)]at d;have z:=L.slot j w d y b r
    cases b with
    |false=>refine ak z λB f g=>?_;exact al B f (g.loose k)
    |true=>
     refine ch z λu B f C E Y=>?_;refine ak C λo g t=>?_;have:u≠h:=λq=>by
      subst q;have:=L.apart y x u f Q;subst this;exact A (LI j i y af af r v)
     exact dp u B f (al o ((l.2 u this).trans g) t) E (Y.loose k)
  ·refine bE (L.cells j y d) λu v0 f C E=>?_;refine ak C λo g t=>?_;by_cases q:u=h
   ·subst q;exact bw u (ac M) f P e3
   ·exact bw u v0 f (al o ((l.2 u q).trans g) t) E
theorem QB{m:Str->Option ah}{E:ah->az->Prop}
  (e:a.scope=c.sc) (f:c.sc.kind=.function) (g:sr c) (h:qm c.lay) (I:ay D j d k s) (L:eV D c.lay a d l s.heap m) (n:c.lay[i]?=ac (ac (x,b))) (o:VR d s.heap v p):
  aB (Mo D) A (oo a x p) (λr q=>Dl D c a j x b d k (l.set i (ac v)) s q) E s:=wpAny_bindName (QA e f g h I L n o)
section
noncomputable def sO(c:Env)(p:Str×mI)(b:List (Str×aj)):List (Str×aj):=if p.2==.free then(match c.cells.lookup p.1 with
 |some a=>(p.1,a)::b|none=>b)else b
noncomputable def hM(b:Env):List (Str×mI)->List (Str×aj)->List (Str×aj)
 |[],a=>a|p::r,a=>hM b r (sO b p a)
theorem Lg(k:p.2=.free)(e:b.cells.lookup p.1=ac a):sO b p c=(p.1,a)::c:=by
 unfold sO;rw[k,e];rfl
theorem Lf{G:List (Str×aj)->Prop}(b:G c)(f:∀a,d.cells.lookup p.1=ac a->G ((p.1,a)::c)):G (sO d p c):=by
 unfold sO;by_cases k:(p.2==.free)=af
 ·rw[if_pos k]
  cases e:d.cells.lookup p.1 with
  |none=>exact b|some a=>exact f a e
 ·rw[if_neg k];exact b
theorem wM{b:Type}{x n:Str}{a:b}{l:List (Str×b)}:Cu x ((n,a)::l)=if x=n then ac a else l.lookup x:=by
 rw[jP];by_cases h:x=n
 ·rw[if_pos h,beq_iff_eq.mpr h]
 ·rw[if_neg h,beq_eq_false_iff_ne.mpr h]
theorem Yg(h:∀p∈g.names,p.2=.free->∃a,b.cells.lookup p.1=ac a):closureFor g b=bx (hM b g.names []):=by
 have m:∀(l:List (Str×mI)) (d:List (Str×aj)),(∀p∈l,p.2=.free->∃a,b.cells.lookup p.1=ac a)->
   (forIn l d λ(x:Str×mI) (i:List (Str×aj))=>(if(x.2==ky)=af then do
    let c <-cellOf b x.1
    bx (Ci ((x.1,c)::i))else bx (Ci i):Sem (ForInStep (List (Str×aj)))))=bx (hM b l d):=by
  intro l
  induction l with
  |nil=>intro d _;rfl
  |cons p r f=>
   intro d j;rw[be3];have f:=λd=>f d λq n=>j q (Sl _ n);by_cases e:(p.2==ky)=af
   ·refine am (j p HH (cW e)) λa k=>?_;rw[if_pos e,(by unfold cellOf;rw[k]:cellOf b p.1=pure a),Tj,Tj];exact(f _).trans (congrArg (λa=>bx (hM b r a)) (Lg (cW e) k).symm)
   ·rw[if_neg e,Tj];exact(f _).trans (congrArg (λa=>bx (hM b r a)) (if_neg e).symm)
 have:=m g.names [] h;unfold closureFor
 first
  |exact this
  |(simp only[bind_pure];exact this)
  |(simp only[bind_pure_comp,id_map',map_pure];exact this)
theorem Yb{b:Env}{l:List (Str×mI)}:∀{d:List (Str×aj)},(∀x c,d.lookup x=ac c->b.cells.lookup x=ac c)->∀{y c},(hM b l d).lookup y=ac c->b.cells.lookup y=ac c:=by
 induction l with
 |nil=>exact λh j j e=>h _ _ e|cons p r g=>exact λ{d} h=>g (Lf (G:=λa=>∀x c,a.lookup x=ac c->b.cells.lookup x=ac c) h λa i x c q=>by
   rw[wM]at q;by_cases f:x=p.1
   ·rw[if_pos f]at q;rw[f,i,q]
   ·rw[if_neg f]at q;exact h x c q)
theorem X'{d:Env}{l:List (Str×mI)}:∀{b:List (Str×aj)} {y:Str},(b.lookup y).isSome->((hM d l b).lookup y).isSome:=by
 induction l with
 |nil=>exact id|cons p r e=>exact λ{b y} h=>e (Lf (G:=λa=>(a.lookup y).isSome) h λa f=>by
   rw[wM];by_cases c:y=p.1
   ·rw[if_pos c];rfl
   ·rw[if_neg c];exact h)
theorem XZ{a:Env}{l:List (Str×mI)}{y:Str}{c:aj}(e:a.cells.lookup y=ac c):∀{b:List (Str×aj)},(y,ky)∈l->((hM a l b).lookup y).isSome:=by
 induction l with
 |nil=>exact λh=>nomatch h|cons p r d=>exact λ{b} h=>(List.mem_cons.mp h).elim (λq=>(show((hM a r (sO a p b)).lookup y).isSome=af from X' (by rw[<-q,Lg rfl e,wM,if_pos rfl];rfl))) d
structure pZ(c:Cx)(a:iT)(x:Str):Prop where
 c8:a.kind=.function
 n7:c.sc.kind=.function
 len:c.lay.length≠0
 f9:c.lay[c.lay.length-1]?=ac ae
 loc:a.names.lookup x=ac .local
 h9:∀y∈a.names,y.2≠.cell
 h2:∀y∈a.names,y.2=.local->a.names.lookup y.1=ac .local
 frees:∀y∈a.names,y.2=.free->a.names.lookup y.1=ac .free/\∃i:Nat,c.lay[i]?=ac (ac (y.1,af))
theorem Yw(h:Ac c d x=af):pZ c d x:=by
 unfold Ac at h;simp only[dO]at h;refine aP h λe f=>?_;refine aP e λg i=>?_;refine aP g λj k=>?_;refine aP j λl m=>?_;refine aP l λn o=>?_;have b:=List.all_eq_true.mp f;refine⟨by simpa using n,by simpa using i,by simpa using o,?_,by simpa using k,λy a q=>?_,λy a q=>?_,λy a q=>?_⟩
 ·have:c.lay.getLast?=ac ae:=by simpa using m
  rw[List.getLast?_eq_getElem?]at this;exact this
 ·have:=b y a;rw[q]at this;injection this
 ·have:=b y a;rw[q]at this;simpa using this
 ·have:=b y a;rw[q]at this;simp only[dO]at this;refine⟨by simpa using this.1,?_⟩
  exact List.mem_iff_getElem?.mp (by simpa using this.2:some (y.1,true)∈c.lay)
theorem ay8{a:iT}{o:Option (Str×Bool)}{y:Str}{b:Bool}(h:(match o with|some (y,af)=>if a.names.lookup y=ac .free then ac (y,af)else ae|_=>ae)=ac (y,b)):b=af/\a.names.lookup y=ac .free/\o=ac (y,af):=by
 cases o with
 |none=>exact nomatch h|some p=>induction p using Prod.casesOn with
  |mk c d=>cases d with
   |false=>exact nomatch h|true=>
    by_cases f:a.names.lookup c=ac .free
    ·have e:=io (ax ((if_pos f).symm.trans h));rw[<-e.1];exact dc e.2.symm f rfl
    ·exact nomatch(if_neg f).symm.trans h
theorem tI{d:iT}{l:mR}{x:Str}{i j:Nat}{y:Str}{b:Bool}(h:(kW d l x i)[j]?=ac (ac (y,b))):
  (j=i/\y=x/\b=ag)\/(j≠i/\b=af/\d.names.lookup y=ac .free/\l[j]?=ac (ac (y,af))):=by
 unfold kW at h;rw[iQ,be6]at h;refine bG h λp f c=>bG f λo g z=>?_;rw[<-z,jo]at c;by_cases a:j=i
 ·have e:=io (ax ((if_pos a).symm.trans c));exact .inl (dc a e.1.symm e.2.symm)
 ·have m:=ay8 ((if_neg a).symm.trans c);exact .inr (dE a m.1 m.2.1 (m.2.2▸g))
theorem as5(h:i<l.length):(kW a l x i)[i]?=ac (ac (x,ag)):=by
 unfold kW;rw[iQ,be6,nU h];exact congrArg ac (if_pos (jo i))
theorem as6:(kW a l x i).length=l.length:=(bH ..).trans List.length_zipIdx
theorem Oj{b:List (Str×mI)}{y:Str}{k:mI}:b.lookup y=ac k->(b.map λ(n,k)=>if k==ky then(n,Cz)else(n,k)).lookup y=ac (if k==.free then .cell else k):=by
 induction b with
 |nil=>exact λh=>nomatch h|cons p r d=>
  intro h;obtain⟨n,a⟩:=p;have e:((λ(n,k)=>if k==ky then(n,Cz)else(n,k)) (n,a):Str×mI)=(n,if a==.free then .cell else a):=by
   show(if a==ky then(n,Cz)else(n,a))=_;by_cases q:(a==ky)=af
   ·rw[if_pos q,if_pos q]
   ·rw[if_neg q,if_neg q]
  show Cu y ((λ(n,k)=>if k==ky then(n,Cz)else(n,k)) (n,a)::_)=_;rw[e,wM];rw[wM]at h;by_cases c:y=n
  ·rw[if_pos c]at h⊢;rw[ax h]
  ·rw[if_neg c]at h⊢;exact d h
theorem aO0(F:pZ c a x)(b:d.scope=c.sc)(f:sr c):Tk a d=ug a:=by
 unfold Tk ug;congr 1;refine bf1 λp g=>?_;obtain⟨n,k⟩:=p;dsimp only;by_cases e:k=.free
 ·subst e;refine dy (F.frees (n,.free) g rfl) λj i h=>?_;have:=f i n af h;rw[b,F.n7,(by unfold Ch;rw[b,this];rfl:d.kindOf n=some .cell)];rfl
 ·have:(k==ky)=ag:=by simpa using e
  simp[this]
section
variable{D:Wd}
theorem as7{c:Cx}{a:iT}{x:Str}(F:pZ c a x):sr ⟨ug a,kW a c.lay x (c.lay.length-1),c.gl⟩:=λi y b h=>(tI h).elim (λh=>fL h λg d e=>by rw[d,e];exact Oj F.loc) λh=>rO h λg z f g=>by rw[z];exact Oj f
theorem as4(F:pZ c a x)(L:qm c.lay):qm (kW a c.lay x (c.lay.length-1)):=λi j y b f e d=>(tI e).elim
 (λp=>(tI d).elim (λq=>p.1.trans q.1.symm) λq=>nomatch(ax (F.loc.symm.trans (show a.names.lookup x=ac .free from p.2.1▸q.2.2.1)):NameKind.local=ky))
 λp=>(tI d).elim (λq=>nomatch(ax (F.loc.symm.trans (show a.names.lookup x=ac .free from q.2.1▸p.2.2.1)):NameKind.local=ky)) λq=>L i j y af af p.2.2.2 q.2.2.2
noncomputable def aE.comp(q:aE c)(F:pZ c a x)(b:List (Str×aj))(L:aj):aE ⟨ug a,kW a c.lay x (c.lay.length-1),c.gl⟩where
 u:=q.u
 A:=q.A
 K:=q.K
 P:=q.P
 fz:=q.fz
 C:=q.C
 hd:=q.hd
 n:=q.n
 W:=q.W
 env:=SS a b L q.env
 mg:=q.mg
 mb:=q.mb
 T:=q.T
 callee:=q.callee
 kinds:=q.kinds
 G:=q.G
 EO:=⟨aO0 F q.EO.sc q.LO,F.c8,q.EO.gl,q.EO.bl,q.EO.j6⟩
 LO:=as7 F
 LI:=as4 F q.LI
 i3:=q.i3
 fr:=q.fr
 room:=q.room
theorem Yz{m u:Str->Option ah}(F:pZ c d x)(I:ay D S l T s)(k:eV D c.lay j l C s.heap m)
  (E:L∉l) (G:D.base.get? L=ae) (J:s.heap.Ns L u):
  eV D (kW d c.lay x (c.lay.length-1)) (SS d (hM j d.names []) L j) l (C.set (c.lay.length-1) ae) s.heap u:=by
 have n:∀y c,(hM j d.names []).lookup y=ac c->j.cells.lookup y=ac c:=λy c=>Yb (d:=[]) λZ Z z=>nomatch z;have w:∀y,d.names.lookup y=ac .free->∀c,j.cells.lookup y=ac c->(hM j d.names []).lookup y=ac c:=λy f c e=>by
  have m:(y,ky)∈d.names:=by
   refine cu (List.lookup_eq_some_iff.mp f) λU Y h Z=>?_;rw[h];exact uS _ (.head _)
  have:=XZ e (b:=[]) m;refine am (Option.isSome_iff_exists.mp this) λM A=>?_;rw[A];have:=n y M A;rw[e]at this;cases this;rfl
 refine⟨E,G,J,by rw[jO,as6];exact k.len,λi v a y b o=>?_,λi y a=>?_,λy z g a o=>k.apart y z g (n _ _ a) (n _ _ o)⟩
 ·rcases tI o with⟨rfl,rfl,rfl⟩|⟨B,rfl,f,q⟩
  ·rw[ig (by rw[k.len];exact SA (bh2 F.len) CD)]at a;injection a with a;injection a
  ·rw[fZ (ik B)]at a;refine ch (k.slot i v a y af q) λg N p r t P=>?_;exact dp g N (w y f g p) r t P
 ·rcases tI a with⟨Z,Z,q⟩|⟨B,Z,f,q⟩
  ·injection q
  ·refine bE (k.cells i y q) λg Q p r t=>?_;exact bw g Q (w y f g p) r t
theorem yW{f:av->H->R V}:dY f x a i d (m+1) k h=(match h[i]? with
  |some (.list c)=>match c[k]? with
   |some v=>(f (a.set x (ac v)) h).bind λw h=>match h[d]? with
    |some (.list b)=>if b.length<big then dY f x a i d m (k+1) (h.set d (.list (b++[w])))else .i
    |_=>.i
   |Option.none=>.ok (.obj d) h
  |_=>.i):=rfl
set_option tactic.hygienic true in
theorem YA{f:av->H->R V}(h:dY f x c i d (m+1) k e=.ok (.obj d) r)(n:e[i]?=ac (.list p))(q:p[k]?=ac v):
  ∃w b a,f (c.set x (ac v)) e=.ok w b/\b[d]?=ac (.list a)/\a.length<big/\dY f x c i d m (k+1) (b.set d (.list (a++[w])))=.ok (.obj d) r:=by
 rw[yW,n]at h;dsimp only at h;rw[q]at h;dsimp only at h
 induction g:f (c.set x (ac v)) e using R.casesOn with
 |i=>rw[g]at h;injection h
 |exc i s=>rw[g]at h;injection h
 |ok w b=>
  rw[g]at h;have h:(match b[d]? with|some (.list a)=>if a.length<big then dY f x c i d m (k+1) (b.set d (.list (a++[w])))else .i|_=>.i:R V)=.ok (.obj d) r:=h
  cases j:b[d]? with
  |none=>rw[j]at h;injection h
  |some o=>
   rw[j]at h
   induction o using O.casesOn<;>first|(injection h;done)|skip
   rename_i a;have h:(if a.length<big then dY f x c i d m (k+1) (b.set d (.list (a++[w])))else .i:R V)=.ok (.obj d) r:=h;by_cases l:a.length<big
   ·rw[if_pos l]at h;exact fG w b a rfl j l h
   ·rw[if_neg l]at h;injection h
theorem Yx{f:av->H->R V}(h:dY f x g i d (m+1) k a=.ok (.obj d) r)(b:a[i]?=ac (.list c))(e:c[k]?=ae):r=a:=by
 rw[yW,b]at h;dsimp only at h;rw[e]at h;dsimp only at h
 cases h;rfl
end
end
section
theorem aB5{e:Type}{r:R e}(h:pg r≠.i):∃d b,r=.ok d b/\pg r=.ok d b:=by
 induction r using R.casesOn with
 |ok d b=>exact gF d b rfl rfl|exc i b=>exact absurd rfl h|i=>exact absurd rfl h
set_option tactic.hygienic true in
theorem Lv{f:av->H->R V}:∀{m k:Nat} {g r:H} {v:V},dY f x a i d m k g=.ok v r->v=.obj d
 |0,_,_,_,_,h=>by injection h
 |m+1,k,g,r,v,h=>by
  rw[yW]at h
  cases e:g[i]? with
  |none=>rw[e]at h;injection h
  |some o=>
   rw[e]at h
   induction o using O.casesOn<;>first|(injection h;done)|skip
   rename_i l;have h:(match l[k]? with|some v=>(f (a.set x (ac v)) g).bind λw h=>(match h[d]? with|some (.list b)=>if b.length<big then dY f x a i d m (k+1) (h.set d (.list (b++[w])))else .i|_=>.i)|none=>.ok (.obj d) g:R V)=.ok v r:=h
   cases n:l[k]? with
   |none=>rw[n]at h;injection h with h;exact h.symm
   |some y=>
    rw[n]at h;have h:((f (a.set x (ac y)) g).bind λw h=>(match h[d]? with|some (.list b)=>if b.length<big then dY f x a i d m (k+1) (h.set d (.list (b++[w])))else .i|_=>.i):R V)=.ok v r:=h;generalize f (a.set x (ac y)) g=t at h
    induction t using R.casesOn with
    |i=>injection h|exc i u=>injection h|ok w j=>
     have h:(match j[d]? with|some (.list b)=>if b.length<big then dY f x a i d m (k+1) (j.set d (.list (b++[w])))else .i|_=>.i:R V)=.ok v r:=h;generalize j[d]?=o at h
     cases o with
     |none=>injection h|some o=>
      induction o using O.casesOn<;>first|(injection h;done)|skip
      rename_i b;have h:(if b.length<big then dY f x a i d m (k+1) (j.set d (.list (b++[w])))else .i:R V)=.ok v r:=h;by_cases s:b.length<big
      ·rw[if_pos s]at h;exact Lv h
      ·rw[if_neg s]at h;injection h
noncomputable def Pt.on(p:Pt)(b:az):Pt:=⟨p.ρ,p.σ,b⟩
section
variable{c:Cx}{q:aE c}{a:av}{p:Pt}
theorem lh{h:aS}:h.get? h.objs.size=ae:=by
 cases z:h.get? h.objs.size with
 |none=>rfl|some o=>exact absurd (fj z) (jn _)
theorem At.iter(Y:At q a p)(f:p.s.heap.get? g=ac o)(l:g∉p.ρ)(r:q.u.D.base.get? g=ae)(s:o.cls≠.type "tuple")(t:o.cls≠.type "traceback")(j:∀h n,o.data≠.dict h n)(u:∀v,o.data≠.cell v)
  (k:∀c b,c≠g->p.s.heap.get? c=ac b->d.get? c=ac b):At q a (p.on {p.s with heap:=d,toks:=x})/\eQ q.u.D q.u.envs p.ρ p.s.heap d:=by
 have i:eQ q.u.D q.u.envs p.ρ p.s.heap d:=eQ.b6 f l r (.inl s) (.inl t) (λy m z=>Y.inv.k0 f j m z) k;refine⟨⟨Y.inv.loose (f:={p.s with heap:=d,toks:=x}) i rfl rfl rfl,Y.hd,am Y.c2 λm L=>⟨m,L.loose i λc b e z=>k c b (λw=>?_) e⟩⟩,i⟩
 subst w;have w:=ax (f.symm.trans e);subst w;exact z.elim (λz=>eH z λh m z=>j h m z) λz=>am z λv z=>u v z
theorem At.push{o:Obj}{b:Nat}(Y:At q a p)(d:o.isFreed=ag):At q a (p.on {p.s with heap:=p.s.heap.push o,toks:=b})/\bq p.ρ p.s.heap p.ρ (p.s.heap.push o)/\(p.s.heap.push o).get? p.s.heap.objs.size=ac o/\p.s.heap.objs.size∉p.ρ/\q.u.D.base.get? p.s.heap.objs.size=ae:=
 dE (Y.step (i:=p.on {p.s with heap:=p.s.heap.push o,toks:=b}) (.c0 kU) (Y.inv.keeps kU rfl rfl rfl)) (.c0 kU) (mH _ d) (Y.inv.j4 lh)
noncomputable def aE.k1(q:aE c)(x:Ex)(b:av)(d:H):R V:=q.ev b x d
theorem aJ2:q.ev a (.g0 b x d) e=if q.hd.isSome then .i else(q.ev a d e).bind λs h=>oP (q.k1 b) x a s h:=rfl
inductive ym(q:aE c)(b:Pt)(a:av)(g:Nat)(f:av->H->R V)(i d:Nat)(I h j:aj)(l:H)(m:Nat):az->Prop
 |mk (k:Nat) (p:Pt) (o:Option V) (Y:At q (a.set g o) p) (r:bq b.ρ b.s.heap p.ρ p.s.heap) (s:p.s.heap.IsListIter I h k) (n:I∉p.ρ) (e:dY f g a i d m k p.σ=.ok (.obj d) l) (t:p.ρ[i]?=ac h) (u:p.ρ[d]?=ac j):ym q b a g f i d I h j l m p.s
theorem Yy{f:av->H->R V}(h:dY f x a i d m k b=.ok v r):∃g j,m=g+1/\b[i]?=ac (.list j):=by
 cases m with
 |zero=>injection h|succ m=>
  rw[yW]at h
  cases e:b[i]? with
  |none=>rw[e]at h;injection h
  |some o=>rw[e]at h;induction o using O.casesOn<;>first|(injection h;done)|exact gF m _ rfl rfl
theorem YD{z0:rV->az->Prop}(hh:q.hd=ae)(z8:sy c z9 G)(za:c.lay[f]?=ac (ac (zb,ag)))
  (nI:q.u.D.base.get? I=ae) (g0:d.s.heap.get? I=ae) (gL:d.s.heap.get? q.env.locals=ae)
  (hQ:∀(p:Pt) (A:Option V),At q (a.set f A) p->bq d.ρ d.s.heap p.ρ p.s.heap->p.σ=rσ->p.ρ[z3]?=ac J->z0 (.ok .next) p.s)
  (B:Nat) (D:az) (C:ym q d a f (q.k1 G) zc z3 I zd J rσ B D):
  jp (Mo q.u.D) q.A (.compLoop (.ListComp z9 [⟨.Name zb px,it,[],0⟩] sc zp) 0 (.ref I) (.ref J) q.env) z0 D:=by
 refine codeAny_compLoop_tests (ym q d a f (q.k1 G) zc z3 I zd J rσ) ?_ B C λZ=>rfl;clear C D B;intro B D C
 induction C using ym.casesOn with|mk k p A Y E L z4 M ai N=>
 refine cu (Yy M) λze vs z g=>?_;subst z;refine dz (iA Y.inv g) λZ zf nn Q pl p2 p3=>?_;have Q:=ax (ai.symm.trans Q);subst Q;refine bP (id L) λoi zg hc z5=>?_;have go:∀{b:aS} {r:Nat},(∀c s,c≠I->p.s.heap.get? c=ac s->b.get? c=ac s)->At q (a.set f A) (p.on {p.s with heap:=b,toks:=r})/\eQ q.u.D q.u.envs p.ρ p.s.heap b/\bq d.ρ d.s.heap p.ρ b:=λ{b r} k=>by
  refine aP (Y.iter (d:=b) (x:=r) zg z4 nI (by rw[hc];decide) (by rw[hc];decide) (λZ Z z=>by rw[z5]at z;injection z) (λZ z=>by rw[z5]at z;injection z) k) λj t=>?_;exact dc j t (E.more (λc z o e=>k c o (λw=>z (w▸g0)) e) λzh z=>z.loose t)
 cases u:vs[k]? with
 |none=>
  have hx:zf[k]?=ae:=by
   rw[Ct]at u;rw[bb1,<-kq,(aI.length p3)];exact u
  refine wpAny_pyNext_list_end (by have h:=Y.hd;rw[hh]at h;exact h:q.A.handled=none) L p2.isList hx λb zi=>?_;refine fL (go (r:=p.s.toks) λc s z e=>zi c s z e) λj t S=>?_;exact hQ (p.on _) A j S (Yx M g u).symm N
 |some v=>
  refine ak (p3.get u) λxv zj zk=>?_;refine dz (YA M g u) λw σ2 ws c1 c2 c3 c4=>?_;refine wpAny_pyNext_list_item L p2.isList (by rw[<-bb2];exact zj) λb zl zm=>?_;refine fL (go (r:=p.s.toks) λc s z e=>(zm.2 c z).trans e) λj t S=>?_;dsimp only;rw[SO];refine aD (rY ?_);refine am j.c2 λm2 L2=>?_;refine bb (QB (s:={p.s with heap:=b}) q.EO.sc q.EO.c8 q.LO q.LI j.inv L2 za (zk.loose t)) (λZ x P=>?_) λZ Z z=>z;refine wpAny_tests_nil ?_;rw[if_pos rfl];have Y5:At q (a.set f (ac v)) (p.on x):=⟨P.inv,Y.hd,am P.c2 λzn z6=>⟨zn,by rw[bf5]at z6;exact z6⟩⟩
  refine bP zl λi q1 q2 T=>?_;have zo:x.heap.get? I=ac i:=P.rest _ _ (λZ w=>by
   refine fi L2.ns λo es ep F l Z=>?_;have:=ax (q1.symm.trans (show b.get? I=_ by rw[w];exact F));subst this;rw[T]at l;injection l) (λz=>nomatch z) q1
  have U:q.ev (a.set f (ac v)) G (p.on x).σ=.ok w σ2:=c1;refine bb (z8 q (a.set f (ac v)) (p.on x) Y5 (by rw[U];exact λz=>nomatch z)) (λwv s6 z=>?_) λe s6 z=>by
   rw[U]at z;induction z using bF.casesOn with|mk Z Z Z z=>injection z
  rw[U]at z;refine bo.U z λw' σ6 ρ6 z m I6 V6=>?_;injection z with F l;subst F;subst l;refine bb (JT I6 c2 (al _ (gH m.pre N) rfl) V6 c3) (λZ s7 z=>?_) λe s7 z=>by
   induction z using bF.casesOn with|mk Z Z Z z=>injection z
  refine bo.U z λw7 σ7 ρ7 z y I7 V7=>?_;injection z with F l;subst l;have nf:∀es n,i.data≠.dict es n:=λZ Z z=>by rw[T]at z;injection z
  have nt:∀ts,i.data≠.fields ts\/i.cls≠.type "traceback":=λZ=>.inr (by rw[q2];decide);have z7:∀{ρ ρ':List aj} {h b:aS},bq ρ h ρ' b->h.get? I=ac i->I∉ρ->b.get? I=ac i/\I∉ρ':=λE e n=>⟨E.same e n nf nt,λz=>by have:=E.new _ z n;rw[e]at this;injection this⟩
  have g6:=z7 m zo z4;have g7:=z7 y g6.1 g6.2;exact al ze (og _) ⟨k+1,⟨ρ7,_,s7⟩,ac v,((Y5.step (i:=⟨ρ6,σ2,s6⟩) m I6).step (i:=⟨ρ7,_,s7⟩) y I7),((S.more (λc z o e=>P.rest c o (λZ w=>z (w▸gL)) (λz=>nomatch z) e) λzh z=>z.loose P.loose:bq d.ρ d.s.heap p.ρ x.heap).trans m).trans y,(br i g7.1 q2 T),g7.2,c4,gH y.pre (gH m.pre ai),gH y.pre (gH m.pre N)⟩
end
end
section
section
variable{c:Cx}{q:aE c}{a:av}{p:Pt}
structure vj(q:aE c)(p b:Pt)(d:Nat)(e L:aj):Prop where
 st:bq p.ρ p.s.heap b.ρ b.s.heap
 inv:ay q.u.D q.u.envs b.ρ b.σ b.s
 at_:b.ρ[d]?=ac e
 out:L∉b.ρ
 new:q.u.D.base.get? L=ae
 gone:p.s.heap.get? L=ae
 fr:∀f∈q.u.envs,f.frame≠ac L
 ns:∃m,b.s.heap.Ns L m
structure yC(q:aE c)(a:av)(p:Pt)(b:az)(I:aj):Prop where
 at_:At q a (p.on b)
 st:bq p.ρ p.s.heap p.ρ b.heap
 out:I∉p.ρ
 new:q.u.D.base.get? I=ae
 gone:p.s.heap.get? I=ae
theorem ao3{E:ah->az->Prop}(Y:At q a p)(h:p.s.heap.IsList b k):aB (Mo q.u.D) q.A (pyIter (.ref b)) (λv d=>∃I,v=.ref I/\d.heap.IsListIter I b 0/\yC q a p d I) E p.s:=
 wpAny_pyIter_list h (uH (Y.push (o:={cls:=.type "list_iterator",data:=.fields #[.ref b,.int 0 0]}) (b:=p.s.toks) rfl) λe f g i j=>⟨_,rfl,(br _ g rfl rfl),e,f,i,j,lh⟩)
theorem au1:Rq q a p (newList []) VR (.ok (.obj p.σ.length) (p.σ++[.list []])):=λY b=>wpAny_newList (wY (j:=#[]) Y.inv (rfl:aI _ _ [] []) (gb _) rfl rfl rfl rfl) (gb _)
theorem az4{E:ah->az->Prop}(Y:At q a p)(F:pZ c d x):aB (Mo q.u.D) q.A (newFunctionEnv d q.env.globals (hM q.env d.names []) [] q.env.qual ae .none (ac q.env))
  (λi j=>∃L,{i with scope:=Tk d q.env}=SS d (hM q.env d.names []) L q.env/\i.locals=L/\At (q.comp F (hM q.env d.names []) L) (a.set (c.lay.length-1) ae) (p.on j)/\bq p.ρ p.s.heap p.ρ j.heap/\p.s.heap.get? L=ae/\∀g∈q.u.envs,g.frame≠ac L) E p.s:=by
 refine wpAny_newFunctionEnv F.h9 (λy r=>nomatch r) (λk s t=>?_) F.c8;have h:∀b o,p.s.heap.get? b=ac o->k.get? b=ac o:=λb o e=>(t.2 b (pO (fj e))).trans (ie _ e);refine aP (Y.inv.j4 lh) λu v=>?_;have l:ay q.u.D q.u.envs p.ρ p.σ {p.s with heap:=k,toks:=p.s.toks+([]:List (Str×ah)).length}:=Y.inv.keeps h rfl rfl rfl;refine tB p.s.heap.objs.size rfl rfl ⟨l,Y.hd,am Y.c2 λm L=>⟨_,Yz F l (L.step Y.inv (.c0 (a:=p.ρ) h)) u v s⟩⟩ (.c0 h) lh (λg m z=>uI (Y.inv.frames g m) λw L o w w f w w n w=>?_);rw[z]at f;injection f with f;rw[<-f,lh]at n;injection n
theorem Yv{f:av->H->R V}(b:oP f x a (.obj i) d≠.i):∃g e,d[i]?=ac (.list g)/\dY f x a i d.length (g.length+1) 0 (d++[.list []])=.ok (.obj d.length) e/\oP f x a (.obj i) d=.ok (.obj d.length) e:=by
 unfold oP at b⊢;dsimp only at b⊢
 cases h:d[i]? with
 |none=>rw[h]at b;exact absurd rfl b
 |some o=>
  rw[h]at b
  induction o using O.casesOn<;>first|exact absurd rfl b|skip
  refine cu (aB5 b) λl e j k=>?_;have:=Lv j;subst this;exact bw _ e rfl j k
theorem W':cE c (.ListComp d [⟨.Name x g,f,[],0⟩] b h)=match uq c.lay x with
   |some _=>ae|none=>if Ac c b x then do
     let s <-cE c f;let e <-cE ⟨ug b,kW b c.lay x (c.lay.length-1),c.gl⟩ d
     return .g0 e (c.lay.length-1) s
    else ae:=rfl
set_option tactic.hygienic true in
theorem Lu(he:aW z4)(B:aW g):bL (cE c (.ListComp z4 [⟨.Name x h,g,[],0⟩] j C)) λD=>∀(q:aE c) a p {k:Option (ah->Sem Unit)} {Q:ah->az->Prop} {E:ah->az->Prop},At q a p->q.ev a D p.σ≠.i->
  (∀e s',bF (q.ev a D p.σ) q.u.D q.u.envs p.ρ p.s.heap e s'->E e s')->(∀z5 l m L,q.ev a D p.σ=.ok (.obj z5) m.σ->vj q p m z5 l L->compPost (Mo q.u.D) q.A E k Q (.ref l) L (.ok .next) m.s)->
  aB (Mo q.u.D) q.A (comprehension (.ListComp z4 [⟨.Name x h,g,[],0⟩] j C) j q.env (firstIterPos [⟨.Name x h,g,[],0⟩] C) (newList []) (firstAsync [⟨.Name x h,g,[],0⟩]) (firstIter [⟨.Name x h,g,[],0⟩] q.env) k) Q E p.s:=by
 refine .L W' ?_
 cases uq c.lay x with
 |some Z=>exact .S|none=>
 refine .E λzb=>?_;have F:=Yw zb;refine .d3 (B c) λzj h1 hs=>.b6 (he _) λel zc q a p k Q E Y b t u=>?_;rw[aJ2]at b t u;by_cases n:q.hd.isSome=af
 ·rw[if_pos n]at b;exact absurd rfl b
 rw[if_neg n]at b t u;have n:q.hd=ae:=Option.not_isSome_iff_eq_none.mp n;have z6:∀p∈j.names,p.2=ky->∃w,q.env.cells.lookup p.1=ac w:=λp hp hf=>
  dy (F.frees p hp hf) λZ i B=>am Y.c2 λz7 L=>cu (L.cells i p.1 B) λcc Z e Z=>⟨cc,e⟩
 refine wpAny_comprehension_free (use:=k) rfl (λv=>(my h1).fold q.env v) (Yg z6) F.c8 F.h2 ?_;refine bb (hs q a p Y (R.h4 b)) (λzk G z=>?_) λe G z=>t e G (bF.U z λi y J A o r M=>⟨i,y,J,by rw[A];rfl,o,r,M⟩);refine bo.U z λv0 y J A o r M=>?_;clear z t;rw[A,R.n5]at b u;clear A z6
 induction v0 using V.casesOn<;>first|exact absurd rfl b|skip
 rename_i i;refine bE (Yv b) λvs rσ g1 hr zd=>?_;clear b;refine ak (eC M) λw ai d=>?_;subst d;refine dz (iA r g1) λZ zl nn N Z p2 Z=>?_;have N:=ax (ai.symm.trans N);subst N;refine bb (ao3 (Y.step (i:=⟨J,y,G⟩) o r) p2.isList) (λv s2 z=>?_) λZ Z z=>z;refine ak z λI d z=>aP z λze f=>?_;subst d;refine bb (au1 f.at_ λz=>nomatch z) (λv s3 z=>?_) λe s3 z=>by induction z using bF.casesOn with|mk Z Z Z z=>injection z
 refine bo.U z λv3 σ3 P z s S V3=>?_;injection z with T z2;subst T;subst z2;refine ak (eC V3) λl dI d=>?_;subst d;refine bP (id ze) λoi q1 U q3=>?_;have zf:=s.same q1 f.out (λZ Z z=>nomatch q3.symm.trans z) λZ=>.inr (by rw[U];decide);have n3:I∉P:=λz7=>nomatch q1.symm.trans (s.new _ z7 f.out);have Y3:=f.at_.step (i:=⟨P,_,s3⟩) s S;have z3:=(o.trans f.st).trans s;refine bb (az4 Y3 F) (λzm s4 z=>?_) λZ Z z=>z;refine mE z λL d T Y4 z8 g4 zg=>?_;rw[d,T];have z9:s4.heap.IsListIter I w 0:=br oi (z8.same zf n3 (λZ Z z=>nomatch q3.symm.trans z) λZ=>.inr (by rw[U];decide)) U q3;have za:=YD (px:=h) (zp:=C) (sc:=j) (it:=g) (a:=a) (d:=p) (zc:=i) (z3:=y.length) (I:=I) (zd:=w) (J:=l) (rσ:=rσ) (z0:=compPost (Mo q.u.D) q.A E k Q (.ref l) L) (q:=q.comp F (hM q.env j.names []) L) n zc (as5 (SA (bh2 F.len) CD)) f.new (o.gone r f.gone) (z3.gone S g4)
  (λm ov Y' zh e zi=>am Y'.c2 λm' L'=>u _ _ m _ (zd.trans (congrArg _ e.symm)) ⟨zh,Y'.inv,zi,L'.out,L'.new,z3.gone S g4,zg,m',L'.ns⟩) _ s4 (.mk 0 ⟨P,_,s4⟩ ae Y4 (z3.trans z8) z9 n3 hr (gH s.pre ai) dI)
 exact codeAny_compStart_list za (wpAny_pyIter_listiter z9 za)
theorem vj.lo(C:vj q p f d l L){m:Str->Option ah}(g:h.Ns L m)(i:pB L h j):eQ q.u.D q.u.envs f.ρ h j:=
 dz g λn o r k b t t=>eQ.b6 k C.out C.new (.inr λt t z=>nomatch b.symm.trans z) (.inr λt z=>nomatch b.symm.trans z) C.fr λc s w e=>(i.2 c w).trans e
theorem vj.let(C:vj q p b d i L)(f:pB L b.s.heap g):bq p.ρ p.s.heap b.ρ g/\ay q.u.D q.u.envs b.ρ b.σ {b.s with heap:=g}:=
 am C.ns λm h=>⟨C.st.more (λc w o e=>(f.2 c (λz=>w (z▸C.gone))).trans e) λT z=>z.loose (C.lo h f),C.inv.loose (f:={b.s with heap:=g}) (C.lo h f) rfl rfl rfl⟩
theorem ZO(f:aW g)(i:aW j):aW (.ListComp g [⟨.Name x o,j,[],0⟩] r s):=λc=>.of (Lu f i) λt h q a p Y k=>by
 rw[eval_ListComp];refine h q a p Y k (λw w z=>z) λd u l L e C=>am C.ns λm n=>al m n (λv b=>?_);exact⟨_,_,l.ρ,e,(C.let b).1,(C.let b).2,(al _ C.at_ rfl)⟩
end
end
section
theorem ay7{g:pR}{w:gx}{A:cB}{c:ah->az->Prop}{s:az}{b:ca}{T:String}{k:Str}{v:ah}{d:Sem Bool}{i:ah×List ah->az->Prop}(j:b.In s.heap)(o:rX (.type T)=bx (.type "type"))(p:bg2 T=ag)
  (q:yc b (.type T) (.type "type") k=ac (.val v)) (t:Ih v=af) (h:i (v,[]) {s with toks:=s.toks+1}):aB (gZ g w) A (pW (.type T) k d) i c s:=by
 have l:jQ (gZ g w) s.heap (rX (.type T)) (.type "type"):=Ss o;have m:eO b (.type "type") "__getattribute__"=ac (ac (.builtin "type.__getattribute__")):=type_tga;unfold pW specialOf;refine aD (aD (l.here ((CR j m).here ?_)));dsimp only;rw[if_pos canon_tga];refine aD (bb (Q:=λv=>i (v,[])) (E:=c) ?_ (λu u z=>bz z) λu u z=>z);refine cls_open j (Ss (by unfold bk7;dsimp only;rw[p];rfl:opaqueClassAbove (.type T)=pure none):jQ (gZ g w) s.heap (bk7 (.type T)) ae) l m (looks_hook j (r:=ae) (by rfl)) (by show subIn b _ _=_;rfl) q
  (bz (by show aB _ _ (handedOut v) _ _ _;rw[handedOut_of t];exact bz h))
theorem aB0:sv (nm "find")=("find":Str):=by decide+kernel
theorem aB3:sv (nm "startswith")=("startswith":Str):=by decide+kernel
theorem aB1:sv (nm "join")=("join":Str):=by decide+kernel
theorem aA8:sv (nm "append")=("append":Str):=by decide+kernel
theorem aA9:sv (nm "extend")=("extend":Str):=by decide+kernel
theorem OM:sv (nm "pop")=("pop":Str):=by decide+kernel
theorem OL:sv (nm "__init__")=("__init__":Str):=by decide+kernel
theorem md{j:Type}{g:Prop}[Decidable g]{k i:j}{o:Option j}{G:Prop}(h:(if g then ac k else o)=ac i)(l:g->k=i->G)(m:¬g->o=ac i->G):G:=by
 by_cases q:g
 ·rw[if_pos q]at h;exact l q (ax h)
 ·rw[if_neg q]at h;exact m q h
theorem NF{i:Type}{g:Prop}[Decidable g]{j:i}{o:Option i}{G:Prop}(h:(if g then ae else o)=ac j)(k:¬g->o=ac j->G):G:=by
 by_cases q:g
 ·rw[if_pos q]at h;injection h
 ·rw[if_neg q]at h;exact k q h
section
variable{D:Wd}{f:List Env}{a:List aj}{e:H}{s:az}{A:cB}{b:ca}{P:aZ}{c:ah->az->Prop}
def sq(y:ah×List V)(a:List aj)(s:az)(g:ah×List ah)(h:az):Prop:=g.1=y.1/\aI a s.heap y.2 g.2/\∃t,h={s with toks:=t}
theorem oZ{i:ah}{v:V}{g:ah}(h:VR a s.heap v g):sq (i,[v]) a s (i,[g]) s:=Fe rfl (bw g [] rfl h rfl) s.toks rfl
variable{n:List Nat}{y:ah×List V}{d:Sem Bool}
theorem ay6{v:V}{x:List Nat}{k:ah}(l:v=.str x)(j:VR a s.heap v k)(h:Bf v n=ac y):aB (Mo D) A (pW k (sv n) d) (sq y a s) c s:=by
 refine dy (show VR a s.heap (.str x) k from l▸j) λg t m=>?_;subst m;refine md h (λq i=>?_) λo h=>md h (λq i=>?_) λo h=>md h (λq i=>?_) λo h=>nomatch h
 ·rw[q,aB0,<-i];exact GM.find (oZ j)
 ·rw[q,aB3,<-i];exact GM.startswith (oZ j)
 ·rw[q,aB1,<-i];exact GM.join (oZ j)
theorem ay4{v:V}{i:Nat}{p:Array ah}{r:Nat}(k:VR a s.heap v (.ref i))(j:IsL s.heap i p r)(h:Be v n=ac y):aB (Mo D) A (pW (.ref i) (sv n) d) (sq y a s) c s:=by
 have m:∀l,lE i=.ref l->∃o,s.heap.get? l=ac o/\o.dict=ae:=λl g=>al _ (pS g▸j) rfl;refine md h (λq g=>?_) λt h=>md h (λq g=>?_) λt h=>md h (λq g=>?_) λt h=>nomatch h
 ·rw[q,aA8,<-g];exact getMethod_list_append j rfl rfl (oZ k)
 ·rw[q,aA9,<-g];exact SZ (T:="list") (al _ j rfl) bb9 F.slot_list_extend F.type_list_extend m (oZ k)
 ·rw[q,OM,<-g];exact SZ (T:="list") (al _ j rfl) bb9 F.slot_list_pop F.type_list_pop m (oZ k)
set_option tactic.hygienic true in
theorem ay3{v:V}{j q:Nat}{g:aj}{k:Cl}{l:List (List Nat×V)}{m:Str->Option ah}(T:Kt D b P)(u:b.In s.heap)(x:P.cls g=ac k)(z:VR a s.heap v (.ref j))(B:s.heap.get? j=ac {cls:=.ref g,dict:=ac q,data:=.plain})(E:s.heap.Ns1 q m)(F:gB a s.heap l m)
  (h:Bd v n k (ac (.ns l))=ac y):aB (Mo D) A (pW (.ref j) (sv n) d) (sq y a s) c s:=by
 refine NF h λG h=>ak (Option.bind_eq_some_iff.mp h) λr I h=>NF h λJ o=>?_;have p:=T.inst g k x (Bool.eq_false_iff.mpr J);have i:=List.all_eq_true.mp p.meths (n,r) (cu (List.lookup_eq_some_iff.mp I) λQ S o U=>o▸uS _ (.head _));rw[<-ax o]
 induction r using Value.casesOn<;>first|(injection i;done)|skip
 rename_i t;have i:=Bool.and_eq_true_iff.mp (show(eO b (.ref g) (sv n)==ac (ac (.ref t))&&iq b (.ref t)==ac (.type "function"))=af from i);refine ak (FH E) λL M N=>?_;refine method_fn (C:=g) (od:=ac L) u ⟨B,rfl,rfl,M⟩ p.ga p.j8 (beq_iff_eq.mp i.1) (beq_iff_eq.mp i.2) ?_ (oZ z);have w:=F.2 n;rw[show l.lookup n=ae from Option.not_isSome_iff_eq_none.mp G]at w;unfold shadowIn;dsimp only;rw[N,w];rfl
theorem ab6:rX (.type "Exception")=bx (.type "type"):=by kernel_rfl
theorem ab5:bg2 "Exception"=ag:=by decide+kernel
theorem ab1:Ih (.builtin "Exception.__init__")=af:=by kernel_rfl
set_option tactic.hygienic true in
theorem ay1{k:ah}(T:Kt D b P)(i:b.In s.heap)(h:Oq P n k=ac y):aB (Mo D) A (pW k (sv n) d) (sq y a s) c s:=by
 induction k using Value.casesOn<;>first|(injection h;done)|skip
 case ref m=>
  refine ak (Option.bind_eq_some_iff.mp h) λo p h=>md h (λq j=>?_) λw h=>nomatch h;rw[dO,xG,decide_eq_true_eq]at q;have g:=T.inst m o p q.2;rw[q.1,OL,<-j];exact method_cls i g.n0 (ak g.init λv r w=>cls_value i g.reads g.n1 (by rw[r];rfl) (Fe rfl rfl _ rfl))
 case type t=>
  have h:(if t="Exception"then if n=nm "__init__"then ac (bj5 "Exception.__init__",[])else ae else ae)=ac y:=h;by_cases l:t="Exception"
  ·subst l;rw[if_pos rfl]at h;refine md h (λq j=>?_) λw h=>nomatch h;rw[q,OL,<-j];have h:=λQ u=>ay7 (c:=c) (i:=Q) (T:="Exception") (k:="__init__") (v:=.builtin "Exception.__init__") (d:=d) (A:=A) (g:=D.prog) (w:=D.w) i ab6 ab5 T.l2 ab1 u;exact h _ (Fe rfl rfl _ rfl)
  ·rw[if_neg l]at h;injection h
set_option tactic.hygienic true in
theorem ay2{v:V}{r:ah}(p:Kt D b P)(I:ay D f a e s)(j:VR a s.heap v r)(h:fV P v n e=ac y):aB (Mo D) A (pW r (sv n) d) (sq y a s) c s:=by
 induction v using Mine.Internal.V.casesOn<;>first|(injection h;done)|skip
 case str=>exact ay6 rfl j h
 case m k=>exact(show r=k from j)▸ay1 p (p.at I) h
 case obj i=>
  refine ak (eC j) λY t B=>?_;subst B;have h:wO P (.obj i) n e e[i]?=ac y:=h
  cases l:e[i]? with
  |none=>rw[l]at h;injection h
  |some o=>
   rw[l]at h
   induction o using O.casesOn<;>first|(injection h;done)|skip
   case list vs=>exact dz (iA I l) λZ z1 nn C Z E Z=>ay4 j (ax (t.symm.trans C)▸E) h
   case dict es m=>
    refine xF (I.addr l) λZ g Z z2 ep G Z Z=>md h (λq u=>ch G λo z3 x z z4 Z=>?_) λZ h=>nomatch h;have g:=ax (t.symm.trans g);subst g;rw[q,OM,<-u];exact SZ (T:="dict") (al o x z.1) F.plainAttrs_dict F.slot_dict_pop F.type_dict_pop (λz5 u=>al _ (pS u▸x) z.2.1) (oZ j)
   case inst z6 J=>
    refine RA (I.addr l) λZ g ad L M=>ak (Option.bind_eq_some_iff.mp h) λcl N h=>?_;have g:=ax (t.symm.trans g);subst g
    cases w:e[J]? with
    |none=>rw[w]at h;injection h
    |some o=>
     rw[w]at h
     induction o using O.casesOn<;>first|(injection h;done)|skip
     exact ch (Gd I w) λZ m Q Z S U=>ay3 p (p.at I) N j M (ax (L.symm.trans Q)▸S) U h
end
end
section
theorem Xa(h:gE c (e::r)=ac f):∃x d,cE c e=ac x/\gE c r=ac d/\f=x::d:=
 ak (Option.bind_eq_some_iff.mp h) λg i h=>ak (Option.bind_eq_some_iff.mp h) λj k h=>bw g j i k ((ax h).symm)
theorem Qw:∀{d:List Ex},gE c f=ac d->∀p∈lF k (lH f l),p.1=ag:=by
 induction f with
 |nil=>intro d h p m;exact nomatch m
 |cons e r g=>
  intro d h p m;refine bE (Xa h) λx n i j o=>?_;rw[(my i).star]at m;exact(List.mem_cons.mp m).elim (λz=>by rw[z]) (g j p)
theorem aH6{l:List (Bool×Sem ah)}(h:∀p∈l,p.1=ag):l.any (·.1)=ag:=List.any_eq_false.mpr λp d=>by rw[h p d];decide
theorem Jb{E:ah->az->Prop}(g:∀p∈l,p.1=ag){Q:Args->az->Prop}
  (h:aB M A (CW l) (λd e=>Q ⟨d,[]⟩ e) E s):aB M A (evalArgs f af l []) Q E s:=by
 cases l with
 |nil=>exact aD (bb h (λd e i=>gc (aD (bz (aD (bz (bz i)))))) λk k x=>x)|cons p r=>
  obtain⟨j,t⟩:=p;have:j=ag:=g _ (.head _);subst this;exact evalArgs_plain h
section
variable{c:Cx}{q:aE c}{a:av}{p:Pt}{b:H}
theorem ap8{D:Wd}{d:ca}{P:aZ}(T:Kt D d P){M:pJ}{f:ah}{h:aS}(e:sb P (.m f))(g:d.In h):∃k,(k=Keeper.frame\/k=Keeper.machine\/k=Keeper.boundFrame)/\jQ M h (keeperOf f) k:=by
 induction f using Value.casesOn<;>first|exact e.elim|exact keeps_K (T.keep _ e) h g|exact al .machine (.inr (.inl rfl)) (Ss rfl)
theorem Ro{j:Pos}{r:List aY}{m:List Ex}{f:V}{n:ah}{s:List V}{u:List ah}(hc:gE c r=ac m)(hx:Dp c r m)(x:VR p.ρ p.s.heap f n)(V0:aI p.ρ p.s.heap s u):
  Rv q a p (uZ j n u (lF j (lH r q.env)) (CI j (CQ [] q.env))) ((q.e7 a m p.σ).bind λd h=>q.C f (s++d) q.hd h):=λY t=>by
 have y:∀p∈lF j (lH r q.env),p.1=ag:=Qw hc;show aB (Mo q.u.D) q.A (uZ j n u (lF j (lH r q.env)) []) _ _ _;have N:=λ{E:ah->az->Prop} {Q:List ah->az->Prop} (h:∀d k g,q.e7 a m p.σ=.ok d g.σ->Le p g->At q a g->aI g.ρ g.s.heap d k->Q k g.s) (hE:∀e S,bF ((q.e7 a m p.σ).bind λd h=>q.C f (s++d) q.hd h) q.u.D q.u.envs p.ρ p.s.heap e S->E e S)=>
  bb (E':=E) (Q':=Q) (hx q a p j Y (R.h4 t)) (λk i z=>bo.U z λd o v l w A B=>h d k ⟨v,o,i⟩ l ⟨w,Y.inv.Y⟩ (Y.step (i:=⟨v,o,i⟩) w A) B.2)
   λe i z=>hE e i (bF.U z λz0 o v l w A z1=>⟨z0,o,v,by rw[l];rfl,w,A,z1⟩)
 by_cases T:∃d o,q.e7 a m p.σ=.ok d o
 ·refine eH T λz2 σ0 e0=>?_;have U:=q.kinds f (s++z2) q.hd σ0 (by rw[e0]at t;exact t)
  induction f using V.casesOn<;>first|exact U.elim|skip
  have x:n=_:=x;subst x;refine callWith_of (P:=λh=>q.K.In h) (by rw[aH6 y];rfl) (λh hk=>ap8 q.T U hk) (Jb y (N (λd k g l i C B=>⟨q.T.at C.inv,?_⟩) λZ Z z=>z));rw[l]at t⊢;exact bb (q.callee q.A q.hd q.u.envs g.ρ g.σ g.s (.m n) (s++d) n (u++k) C.ao q.room C.inv rfl ((V0.up i).append B) t) (λz3 s2 z=>bo.U z λD F G I J L M=>⟨D,F,G,I,i.1.trans J,L,M⟩) λz3 s2 z=>bF.U z λD F G I J L M=>⟨D,F,G,I,i.1.trans J,L,M⟩
 ·
  unfold uZ;exact aD (gc (Jb y (N (λd k g l Z Z Z=>absurd (fq d g.σ l) T) λZ Z z=>z)))
theorem aJ1:q.ev a (.b0 f d) b=(q.ev a f b).bind λe h=>(q.e7 a d h).bind λg h=>q.C e ([]++g) q.hd h:=rfl
set_option tactic.hygienic true in
theorem WZ{c:Cx}{g:Str}{p i:Pos}{d:List aY}(h:AN d=ag):cE c (.Call (.Name g p) d [] i)=MX c g (d.any rG) (gE c d):=by
 rcases d with _|⟨x,_|⟨y,r⟩⟩
 ·rfl
 ·induction x using Expr.casesOn<;>first|rfl|skip
  rename_i f e k q
  induction f using Expr.casesOn<;>first|rfl|skip
  rcases e with _|⟨e,_|⟨j,r⟩⟩<;>first|rfl|skip
  induction k using List.casesOn<;>first|rfl|injection h
 ·rfl
theorem ZF(h:AN d=ag)(i:∀e∈d,aW e):aW (.Call (.Name g j) d [] o):=λc=>.L (WZ h)<|.f4 λw=>.bind (An (x:=g) (h:=j) c) λf k=>.d3 (Aq i) λr l m=>.is λq a p=>
 .L (RN ..) aJ1<|.bind (k q a p) λs t u v n=>Ro (s:=[]) (u:=[]) l m n rfl
noncomputable def Bk(q:aE c)(a:av)(n:List Nat)(d:List Ex)(e:V)(h:H):R V:=match fV q.P e n h with
 |some y=>(q.e7 a d h).bind λf h=>q.C (.m y.1) (y.2++f) q.hd h|none=>.i
theorem aJ6:q.ev a (.c3 o n e) b=(q.ev a o b).bind λd h=>Bk q a n e d h:=
 R.b4 λd h=>show(match fV q.P d n h with|some (f,g)=>(q.e7 a e h).bind λi h=>q.C (.m f) (g++i) q.hd h|none=>.i)=_ by unfold Bk;induction fV q.P d n h using Option.casesOn<;>rfl
theorem ay5(o:(i.endLine==d.line)=af)(r:f.length<30)(k:gE c f=ac l)(s:Dp c f l)(u:VR p.ρ p.s.heap m v):
  Rv q a p (methodCall e g i d q.env v (f.length+([]:List HD).length) (lF d (lH f q.env)) (CI d (CQ [] q.env))) (Bk q a (eW g) l m p.σ):=λY h=>by
 unfold Bk at h⊢
 cases j:fV q.P m (eW g) p.σ with
 |none=>rw[j]at h;exact absurd rfl h
 |some y=>
  rw[j]at h;have w:Te (f.length+([]:List HD).length) (lF d (lH f q.env)) (CI d (CQ [] q.env))=af:=by
   unfold Te;rw[List.all_eq_true.mpr λp x=>by rw[(Qw k:∀p∈lF d (lH f q.env),p.1=ag) p x];rfl];exact decide_eq_true r
  show aB (Mo q.u.D) q.A (dG [v] (calleeOf (Te (f.length+([]:List HD).length) (lF d (lH f q.env)) (CI d (CQ [] q.env))) e q.env v g)>>=_) _ _ _;rw[w];refine aD (gc (bb (show aB _ _ (pW v g (do return(<-importBound e q.env).getD af)) _ _ _ from xx g▸ay2 q.T Y.inv u j) (λn E z=>?_) λF F z=>z));refine Rz z λA B t C=>?_;subst C;show aB (Mo q.u.D) q.A (Ip af e q.env i d>>=λD=>uZ D n.1 n.2 (lF d (lH f q.env)) (CI d (CQ [] q.env))) _ _ _;rw[(by unfold Ip;rw[o];rfl:methodCallPos true e q.env i d=pure d)];exact aD (bz (Ro (p:=p.on {p.s with toks:=t}) k s A B ⟨Y.inv.i6,Y.hd,Y.c2⟩ h))
theorem ZP(f:aW e)(g:∀e∈h,aW e):aW (.Call (.Attribute e m n) h [] r):=λc=>.f4 λd=>.bind (f c) λx i=>.d3 (Aq g) λs j k=>.is λq a p=>by
 rw[lC,not_or,lC,not_or,lC,not_or]at d;refine .L ((arm_eval_Call ..).trans (by rw[DH (Bool.eq_false_iff.mpr d.1.1.1)])) aJ6<|.bind (i q a p) λo v t u l=>.a0<|ay5 ?_ ?_ j k l
 ·simpa using d.1.2
 ·simpa using d.2
end
end
end
section
set_option tactic.hygienic false
open PySem PySem.W PyProof.Rows PySem.Calls Builtin Builtin.Str
section
theorem aB2:sv (nm "split")=("split":Str):=by decide+kernel
def RL(f:List aj)(e:aS)(k:Nat)(v:ah):Prop:=∃d l,v=.ref d/\e.IsList d (Tl l).toArray/\l.length=k/\k<=big+2
theorem Pq(x:Str)(w:Nat):∀(l:List Nat) (d:Nat),(StrLaws.partsFrom x w d l).length=l.length+1
 |[],_=>rfl|_::r,_=>congrArg (· +1) (Pq x w r _)
theorem Pr(x y:Str):(partsBetween x (bl7 x y 0 x.length (x.length+1)) y.length).length<=x.length+2:=by
 rw[StrLaws.partsBetween_eq,Pq];have:=StrLaws.occ_length_le x y 0 x.length (x.length+1)
 lia
theorem aX2(x y:Str):(HW x y).length<=x.length+2:=by
 unfold HW;split
 ·simp
 ·split
  ·simp
  ·exact Pr x y
section
variable{c:Cx}{q:aE c}{a:av}{p:Pt}{b:H}
noncomputable def FN(s:List Nat)(h:H):V->R Nat
 |.str [c]=>.ok (rh s c) h|_=>.i
noncomputable def FM(q:aE c)(a:av)(y:Ex)(h:H):V->R Nat
 |.str s=>(q.ev a y h).bind λc h=>FN s h c|_=>.i
set_option tactic.hygienic true in
theorem aJ5:q.ev a (.h1 x y) b=(((q.ev a x b).bind λo h=>FM q a y h o).bind λk h=>.ok (.a k) h):=by
 rw[R.c9];refine R.b4 λo h=>?_
 induction o using V.casesOn<;>first|rfl|skip
 refine .trans (R.b4 λc h=>?_) R.c9.symm
 induction c using V.casesOn<;>first|rfl|skip
 rename_i l;rcases l with _|⟨d,_|⟨e,r⟩⟩<;>rfl
set_option tactic.hygienic true in
theorem av2(d:FN s h v≠.i):∃c,v=.str [c]:=by
 induction v using V.casesOn<;>first|exact absurd rfl d|skip
 rename_i l;rcases l with _|⟨e,_|⟨f,r⟩⟩<;>first|exact absurd rfl d|exact⟨e,rfl⟩
theorem av4(g:fc t=af)(s:VR p.ρ p.s.heap u v):Rq q a p (eN (.builtin "str.split") [.str (sv t) B,v]) RL (FN t p.σ u):=λY w=>by
 refine am (av2 w) λf j=>?_;subst j;refine dy s λC D j=>?_;subst j;have x:=tm g;have m:(sv t).length=t.length:=by simp[xV]
 have E:big+2<=mL:=by rw[yg];decide
 have n:=aX2 (sv t) (sv [f]);rw[m]at n;refine SCH.split1 (y:=sv [f]) (P:=λh=>∀i o,p.s.heap.get? i=ac o->h.get? i=ac o) (λh F p i o e=>ie _ (p i o e)) (λI I e=>e) (by rfl) (λd l G k z r A=>?_) (by rw[m];lia) (by
  have:=Pr (sv t) (sv [f])
  lia)
 exact⟨rh t f,p.σ,p.ρ,rfl,.c0 r,Y.inv.keeps r rfl rfl rfl,d,l,rfl,A,(bH ..).symm.trans (congrArg pE z),aV n (CA x 2)⟩
theorem Rq.n8{h j m o:Type}{t:Sem j}{f:j->Sem m}{r:R h}{k:h->H->R o}{s:List aj->aS->h->j->Prop}{u:List aj->aS->o->m->Prop}(y:Rq q a p t s r)(A:∀g v d,Le p d->s d.ρ d.s.heap g v->Rq q a d (f v) u (k g d.σ))(Y:At q a p)(w:r.bind k≠.i):
  aB (Mo q.u.D) q.A t (λv n=>aB (Mo q.u.D) q.A (f v) (bo u (r.bind k) q.u.D q.u.envs p.ρ p.s.heap) (bF (r.bind k) q.u.D q.u.envs p.ρ p.s.heap) n) (bF (r.bind k) q.u.D q.u.envs p.ρ p.s.heap) p.s:=
 ba5 (Q:=λ(E:m) E=>True) (E:=λE E=>True) (y Y (R.h4 w)) λg B C n v e x I D=>A g v ⟨C,B,n⟩ ⟨x,Y.inv.Y⟩ D (Y.step x I) λz=>w (by rw[e];exact z)
set_option tactic.hygienic true in
theorem Rq.l9{e g:Type}{f:String}{o:Pos}{h:List ah}{t:Sem ah}{r:R e}{k:e->H->R g}{j:List aj->aS->e->ah->Prop}{m:List aj->aS->g->ah->Prop}(s:Rq q a p t j r)(u:∀n v d,Le p d->j d.ρ d.s.heap n v->Rq q a d (eN (.builtin f) (h++[v])) m (k n d.σ)):
  Rq q a p (uZ o (.builtin f) h [(ag,t)] []) m (r.bind k):=λY w=>Calls.callWith_builtin rfl (bb5 (bb6
 (bb (s.n8 u Y w) (λv x z=>RQ z) λy y z=>z)))
set_option tactic.hygienic true in
theorem aX3{e f:aY}{i d:Pos}{j:Str}{x y:Ex}(m:sy c e x)(n:sy c f y)(r:cE c f=ac y)(s:eW j=nm "split")(u:nx e=ag)(z:(i.endLine==d.line)=af):
  Rq q a p (dF (.Call (.Attribute e j i) [f] [] d) q.env) RL ((q.ev a x p.σ).bind λo h=>FM q a y h o):=
 .l ((arm_eval_Call ..).trans (by rw[DH u,(my r).star]))<|.bind (m q a p) λA v B I C=>.a0 λY l=>by
  induction A using V.casesOn<;>first|exact absurd rfl l|skip
  rename_i t;refine dy (id C) λg k D=>?_;subst D;show aB (Mo q.u.D) q.A (dG [.str (sv t) k] (pW (.str (sv t) k) j (do return(<-importBound e q.env).getD af))>>=λp=>Ip af e q.env i d>>=λE=>uZ E p.1 p.2 (lF d [(ag,dF f q.env)]) []) _ _ _;have F:j=("split":Str):=by rw[<-aB2,<-s,xx]
  subst F;refine aD (gc (GM.split ?_));rw[(by unfold Ip;rw[z];rfl:methodCallPos true e q.env i d=pure d)];exact aD (bz (Rq.l9 (h:=[.str (sv t) k]) (n q a B) (λJ w L M G=>av4 g G) Y l))
theorem av6(h:RL p.ρ p.s.heap k v):Rv q a p (eN (.builtin "len") [v]) (.ok (.a k) p.σ):=λY m=>by
 refine ch h λd l f g i j=>?_;subst f;have e:(Tl l).toArray.size=k:=by rw[bf7,Tl,bH,i]
 exact call_len_list g (by rw[e];have:big=1000000:=rfl;lia) (by rw[e];exact dT Y.inv iN)
theorem EQ(h:mY o=ac v):o=ac (.a1 v):=by
 cases o with
 |none=>injection h|some x=>induction x using Ex.casesOn<;>first|(injection h;done)|exact congrArg (λv=>ac (Ex.a1 v)) (ax h)
set_option tactic.hygienic true in
theorem ZM{g m:Str}{f n r s:Pos}{e i:aY}(t:aW e)(u:aW i):aW (.Call (.Name g f) [.Call (.Attribute e m r) [i] [] s] [] n):=λc=>.E λj=>.bind (t c) λx A=>.d3 (u c) λy B C=>.is λq a p=>by
 rw[dO,dO,dO,xG,Bool.or_eq_false_iff]at j;refine aP j λz D=>aP z λz E=>aP z λF l=>?_;exact .L (RN ..) aJ5<|.first (h:=VR) (r:=.m (.builtin "len")) (k:=λh=>((q.ev a x h).bind λo h=>FM q a y h o).bind λ(k:Nat) h=>R.ok (V.a (k:Int)) h) (An (x:=g) (h:=f) c _ (EQ (beq_iff_eq.mp D)) q a p) λv I L d=>by
  have d:v=.builtin "len":=d;subst d;exact Rq.l9 (h:=[]) (aX3 A C B (beq_iff_eq.mp F) l.1 E) λk w J l G=>av6 G
end
end
end
section
set_option tactic.hygienic false
open PySem PySem.W PyProof.Rows PySem.Calls
theorem jh(h:∀c,cE c e=ae):aW e/\gD e:=⟨λc=>.L (h c) .S,λc=>.L (h c) .S⟩
theorem iL(h:aW e)(b:∀c a,yf e c a=(do let v <-a;fP e.pos;dG [v] (jq v))):aW e/\gD e:=⟨h,a48 h b⟩
theorem mz{a b k:Nat}(h:a+b<k):a<k:=pN (dm ..) h
theorem BR(h:1+a+b<k+1):b<k:=nZ (pN (by rw[nX 1,bg4];exact uV (bg6 b a)) h)
theorem Hd(h:1+a<k+1):a<k:=nZ (show a+1<k+1 by rw[nX];exact h)
theorem He(h:1+a+b+c<k+1):c<k:=BR (a:=a+b) (by rw[<-iS];exact h)
theorem sz2{a b k:Nat}(h:1+a+b<k+1):a<k/\b<k:=⟨Hd (mz h),BR h⟩
theorem pr{a b c k:Nat}(h:1+a+b+c<k+1):a<k/\b<k/\c<k:=dc (Hd (mz (mz h))) (BR (mz h)) (He h)
theorem ia{a b c d k:Nat}(h:1+a+b+c+d<k+1):a<k/\b<k/\c<k/\d<k:=dE (Hd (mz (mz (mz h)))) (BR (mz (mz h))) (He (mz h)) (He (a:=a+b) (b:=c) (by rw[<-iS];exact h))
theorem tM(h:iF e=ac x):∃p,e=.Name x p:=by
 induction e using Expr.casesOn<;>first|(injection h;done)|(injection h with h;subst h;exact⟨_,rfl⟩)
def ss(e:aY):Prop:=aW e/\gD e
theorem Va(b:aW l)(q:∀x∈a,aW x):ss (.Compare l d a f):=by
 rcases d with _|⟨g,_|⟨h,_|⟨i,d⟩⟩⟩
 ·exact jh λc=>rfl
 ·rcases a with _|⟨r,_|⟨e,a⟩⟩
  ·exact jh λc=>rfl
  ·exact⟨ZG b (q r (.head _)),a43 b (q r (.head _))⟩
  ·exact jh λc=>rfl
 ·rcases a with _|⟨m,_|⟨r,_|⟨e,a⟩⟩⟩
  ·exact jh λc=>rfl
  ·exact jh λc=>rfl
  ·exact⟨ZH b (q m (.head _)) (q r (.tail _ (.head _))),a44 b (q m (.head _)) (q r (.tail _ (.head _)))⟩
  ·exact jh λc=>rfl
 ·exact jh λc=>rfl
theorem Vb{e:aY}{a d b:Option aY}{p h:Pos}(f:aW e)(g:∀x,a=ac x->aW x)(i:∀x,d=ac x->aW x)(j:∀x,b=ac x->aW x):ss (.Subscript e (.Slice a d b p) h):=by
 cases b with
 |none=>exact iL (ZT f g i) λk k=>rfl|some b=>
  cases a with
  |none=>exact jh λc=>rfl|some a=>
   cases d with
   |none=>exact iL (ZU f (g a rfl) (j b rfl)) λk k=>rfl|some d=>exact jh λc=>rfl
theorem Lw:(∃x p d,e=[⟨.Name x p,d,[],0⟩])\/∀c,cE c (.ListComp j e k l)=ae:=by
 rcases e with _|⟨⟨t,d,f,a⟩,_|⟨m,r⟩⟩
 ·exact .inr λc=>rfl
 ·cases f with
  |cons i r=>exact .inr λc=>rfl|nil=>
   by_cases b:(a==0)=af
   ·have b:=beq_iff_eq.mp b;subst b
    cases h:iF t with
    |none=>
     refine .inr λc=>?_;show(match iF t with|none=>ae|some x=>_)=_;rw[h]
    |some x=>refine am (tM h) λp g=>?_;subst g;exact .inl (wq _ _ _ rfl)
   ·refine .inr λc=>?_;show(if(af&&a==0)=af then _ else ae)=ae;rw[Bool.true_and,if_neg b]
 ·exact .inr λc=>rfl
theorem U'(c:aW d)(q:∀t b e a,f=[⟨t,b,e,a⟩]->aW b):ss (.ListComp d f g h):=by
 refine uW Lw (λz=>?_) jh;refine eH z λx p z=>am z λb z=>?_;subst z;exact iL (ZO c (q _ _ _ _ rfl)) λi i=>rfl
theorem JW(h:qA e=ac (f,a,b,p)):e=.Call f a b p:=by
 induction e using Expr.casesOn<;>first|(injection h;done)|(injection h with h;injection h with c h;injection h with d h;injection h with g i;rw[c,d,g,i])
theorem Xs(h:(match qA e with|some (f,[_],[],_)=>f.ctorIdx==k|_=>ag)=af):∃f a p,e=.Call f [a] [] p/\(f.ctorIdx==k)=af:=by
 cases q:qA e with
 |none=>rw[q]at h;injection h
 |some x=>
  rw[q]at h;obtain⟨f,c,d,p⟩:=x;rcases c with _|⟨a,_|⟨b,r⟩⟩<;>first|(injection h;done)|skip
  induction d using List.casesOn<;>first|(injection h;done)|exact kQ f a p (JW q) h
theorem av5(h:AN b=af):∃e c d a q,b=[.Call (.Attribute e c d) [a] [] q]:=by
 rcases b with _|⟨x,_|⟨y,r⟩⟩<;>first|(injection h;done)|skip
 refine gY (Xs h) λf a p z g=>?_;subst z
 induction f using Expr.casesOn<;>first|exact(Nn _ _ _ _ _ rfl)|exact nomatch(show ag=af from g)
set_option tactic.hygienic true in
theorem UZ(h:∀x∈d,aW x)(m:∀e a b,f=.Attribute e a b->aW e)(i:∀e j b a q,d=[.Call (.Attribute e j b) [a] [] q]->aW e/\aW a):ss (.Call f d n r):=by
 cases n with
 |cons k s=>exact jh λc=>rfl|nil=>
  induction f using Expr.casesOn<;>first|exact jh λc=>rfl|skip
  case Attribute e a b=>exact iL (ZP (m _ _ _ rfl) h) λu u=>rfl
  case Name g p=>
   cases l:AN d with
   |false=>exact iL (ZF l h) λu u=>rfl|true=>refine uJ (av5 l) λe j b a t o=>?_;subst o;exact iL (ZM (i _ _ _ _ _ rfl).1 (i _ _ _ _ _ rfl).2) λu u=>rfl
set_option tactic.hygienic true in
theorem Mc:∀(k:Nat) (e:aY),ve e<k->ss e:=by
 intro k
 induction k with
 |zero=>intro e h;exact absurd h (fw _)
 |succ k d=>
  have o:∀(j:List aY),ve j<k->∀x∈j,aW x/\gD x:=λj u x g=>d x (mJ (bf6 g) u);intro e h
  induction e using Expr.casesOn<;>first|exact jh λc=>rfl|skip
  case Constant=>exact iL ZI λY Y=>rfl
  case Name=>exact iL An λY Y=>rfl
  case Attribute e a m=>exact iL (ZC (d e (pr h).1).1) λY Y=>rfl
  case BinOp l y r m=>exact iL (ZD (d l (ia h).1).1 (d r (ia h).2.2.1).1) λY Y=>rfl
  case UnaryOp y e m=>
   have q:=d e (pr h).2.1
   induction y using UnaryOp.casesOn
   case Not=>exact⟨ZR q.1,a46 q.2⟩
   case USub=>exact iL (ZQ q.1) λY Y=>rfl
   all_goals exact jh λc=>rfl
  case BoolOp y j m=>
   rw[bm3]at h;have q:=o j (pr h).2.1;exact⟨ZE λx g=>(q x g).1,a42 λx g=>(q x g).2⟩
  case IfExp t a b m=>
   have B:=d t (ia h).1;have C:=d a (ia h).2.1;have D:=d b (ia h).2.2.1;exact⟨ZL B.2 C.1 D.1,a45 B.2 C.2 D.2⟩
  case Compare l M G m=>rw[bm4]at h;exact Va (d l (ia h).1).1 λx g=>(o G (ia h).2.2.1 x g).1
  case Tuple j q m=>rw[Expr.Tuple.sizeOf_spec]at h;exact iL (ZV λx g=>(o j (pr h).1 x g).1) λY Y=>rfl
  case List j m=>rw[Expr.List.sizeOf_spec]at h;exact iL (ZN λx g=>(o j (sz2 h).1 x g).1) λY Y=>rfl
  case Dict N j m=>rw[Expr.Dict.sizeOf_spec]at h;exact iL (ZJ λx g=>(o j (pr h).2.1 x g).1) λY Y=>rfl
  case Subscript e i m=>
   have E:aW e:=(d e (pr h).1).1;have s:=(pr h).2.1;by_cases u:∃v s w p,i=.Slice v s w p
   ·refine eH u λv s A=>eH A λw p A=>?_;subst A;have z:=ia (Sw ‹_›);exact Vb E (λx e=>(d x (mJ (by subst e;exact Sv CD) z.1)).1) (λx e=>(d x (mJ (by subst e;exact Sv CD) z.2.1)).1) λx e=>(d x (mJ (by subst e;exact Sv CD) z.2.2.1)).1
   ·exact iL (ZS (λv s w p q=>u (al1 v s w p q)) E (d i s).1) λY Y=>rfl
  case ListComp I P Q m=>
   rw[bm5]at h;refine U' (d I (ia h).1).1 λt F S a z=>?_;have n:=(ia h).2.1;subst z;rw[HE,bl9]at n;have q:ss F:=d F (jg (eB (eB (jg (eB n)))));exact@Hx _ _ q
  case Call f J T m=>
   rw[bb8]at h;refine UZ (λx g=>(o J (ia h).2.1 x g).1) (λe a L z=>?_) λe U L a q z=>?_
   ·have n:=(ia h).1;subst z;exact@Hx _ _ (d e (pr (Sw n)).1)
   ·have n:=(ia h).2.1;subst z;rw[HE,bb8,HE,bm2]at n;exact⟨@Hx _ _ (d e (jg (eB (eB (jg (eB (eB (eB (jg (eB n)))))))))),@Hx _ _ (d a (jg (eB (jg (eB (eB (jg (eB n))))))))⟩
theorem gg(e:aY):aW e:=(Mc (ve e+1) e (og _)).1
theorem IZ(e:aY):gD e:=(Mc (ve e+1) e (og _)).2
section
section
variable{D:Wd}{c:List Env}{a:List aj}{b:H}{s:az}{A:cB}{E:ah->az->Prop}
theorem ay.tb(I:ay D c a b s)(j:dC s.heap T)(w:D.base.get? T=ae)(k:∀d,d≠T->g.get? d=s.heap.get? d)(y:dC g T):
  bq a s.heap a g/\ay D c a b {s with heap:=g}:=by
 have l:=I.e2 T j;refine ch (id j) λF z p B r G=>?_;have t:bq a s.heap a g:=⟨uT _,λL m n=>absurd m n,λd f e n=>by
  by_cases q:d=T
  ·subst q;rw[p]at e;(injection e with e;subst e);exact .inl (br z B r y)
  ·exact .inr (al f.slots ((k d q).trans e) (.inr rfl)),λd m x=>x.keep λo e=>(k d (λq=>l (q▸m))).trans e⟩
 refine⟨t,λd f e=>(k d (λq=>by rw[q,w]at e;injection e)).trans (I.base d f e),?_,I.gens,I.os,I.e5,I.len,I.nd,I.fresh,I.g2,λi o h C u=>(I.objs i o h C u).step (D:=D) t I.Y I.e2 λf e=>(k h (λq=>l (q▸kY u))).trans e⟩
 exact I.frames.keeps (λL h d=>absurd h d) λd f e L ⟨J,n,v⟩=>⟨f.slots,(k d (λq=>by subst q;rw[p]at e;(injection e with e;subst e);rw[r]at v;injection v)).trans e⟩
theorem ay.slots(I:ay D c a b s)(x:Heap.SlotsOnly (c.filterMap (·.frame)) s.heap k):bq a s.heap a k/\ay D c a b {s with heap:=k}:=by
 have r:∀d,d∈c.filterMap (·.frame)->d∉a/\D.base.get? d=ae/\∃o j n,s.heap.get? d=ac o/\o.data=.dict j n:=λd m=>by
  refine ak (List.mem_filterMap.mp m) λy z q=>?_;refine uI (I.frames y z) λG L o j n t B l h u=>?_;rw[t]at q;(injection q with q;subst q);exact Nj B l o j n h u
 have p:∀d,d∉c.filterMap (·.frame)->k.get? d=s.heap.get? d:=x.2.1;have v:∀f∈a,f∉c.filterMap (·.frame):=λf m q=>(r f q).1 m;have w:bq a s.heap a k:=⟨uT _,λG m n=>absurd m n,λd g e n=>by
  by_cases q:d∈c.filterMap (·.frame)
  ·refine am (x.2.2 d g e) λC F=>?_;obtain⟨G,G,o,j,m,h,u⟩:=r d q;rw[e]at h;(injection h with h;subst h);exact .inr (al C F (.inl (fq j m u)))
  ·exact .inr (al g.slots ((p d q).trans e) (.inr rfl)),λd m x=>x.keep λo e=>(p d (v d m)).trans e⟩
 refine⟨w,λd g e=>(p d (λq=>by rw[(r d q).2.1]at e;injection e)).trans (I.base d g e),?_,I.gens,I.os,I.e5,I.len,I.nd,I.fresh,I.g2,λi o f t l=>(I.objs i o f t l).step (D:=D) w I.Y I.e2 λg e=>(p f (v f (kY l))).trans e⟩
 exact I.frames.keeps (λG f d=>absurd f d) λd g e G G=>x.2.2 d g e
def iY(D:Wd)(h:aS)(f:aj):Prop:=∃d e T,h.get? f=ac d/\d.data=.fields e/\e[1]?=ac (.ref T)/\D.base.get? T=ae/\dC h T
theorem Av{i:Nat}{C:aj}{d:Option Nat}{k:Bool}(I:ay D c a b s)(e:b[i]?=ac (.exc C d k)):∃g h f,a[i]?=ac g/\s.heap.get? g=ac {cls:=.ref C,dict:=h,data:=.fields f}/\f.size=6/\
  (∃j,f[1]?=ac j/\(j=.none\/∃T,j=.ref T/\D.base.get? T=ae/\dC s.heap T))/\(∃l,f[2]?=ac l/\(k=ag->l=.none)):=by
 refine Hu (I.addr e) λg m h f n o r p q=>?_;exact nq g h f m n o p q
theorem we{i:Nat}{C:aj}{d:Option Nat}{j:Bool}{l:aj}{G:Prop}(I:ay D c a b s)(e:b[i]?=ac (.exc C d j))(n:a[i]?=ac l)
  (k:∀g f,s.heap.get? l=ac {cls:=.ref C,dict:=g,data:=.fields f}->f.size=6->(∃m,f[2]?=ac m/\(j=ag->m=.none))->G):G:=
 nS (Av I e) λr g f o p q t h=>k g f (ax (o.symm.trans n)▸p) q h
theorem Ey{i:Nat}{C:aj}{d:Option Nat}{p:Bool}{j:aj}{G:Prop}(I:ay D c a b s)(e:b[i]?=ac (.exc C d p))(k:a[i]?=ac j)
  (q:∀g f,s.heap.get? j=ac {cls:=.ref C,dict:=g,data:=.fields f}->f.size=6->f[1]?=ac .none->G)
  (r:∀g f T,s.heap.get? j=ac {cls:=.ref C,dict:=g,data:=.fields f}->f.size=6->f[1]?=ac (.ref T)->D.base.get? T=ae->dC s.heap T->G):G:=
 nS (Av I e) λx g f l m n h B=>ak h λy o t=>t.elim (λz=>q g f (ax (l.symm.trans k)▸m) n (z▸o)) λz=>bP z λT u v w=>r g f T (ax (l.symm.trans k)▸m) n (u▸o) v w
theorem Qg(e:b[i]?=ac o):b.set i o=b:=by
 apply bd4;intro j;by_cases q:j=i
 ·subst q;rw[ig (List.getElem?_eq_some_iff.mp e).1,e]
 ·rw[fZ (ik q)]
theorem ay.n9{i:Nat}{f T:aj}{C:aj}{d:Option Nat}{r:Bool}{k:Option aj}{t:Array ah}(I:ay D c a b s)(e:b[i]?=ac (.exc C d r))(l:a[i]?=ac f)
  (u:s.heap.get? f=ac {cls:=.ref C,dict:=k,data:=.fields t}) (v:D.base.get? T=ae) (w:dC s.heap T):
  bq a s.heap a (s.heap.update f (gw (·.setIfInBounds 1 (.ref T))))/\ay D c a b {s with heap:=s.heap.update f (gw (·.setIfInBounds 1 (.ref T)))}/\
   iY D (s.heap.update f (gw (·.setIfInBounds 1 (.ref T)))) f:=by
 refine Hu (I.addr e) λS h U z0 x j G h5 J=>?_;rw[l]at h;(injection h with h;subst h);rw[u]at x;cases x;have m:(s.heap.update f (gw (·.setIfInBounds 1 (.ref T)))).get? f=ac {cls:=.ref C,dict:=k,data:=.fields (t.setIfInBounds 1 (.ref T))}:=pC _ u rfl;have y:∀g,g≠f->(s.heap.update f (gw (·.setIfInBounds 1 (.ref T)))).get? g=s.heap.get? g:=λg n=>Cj _ _ (ik n);have z:dC (s.heap.update f (gw (·.setIfInBounds 1 (.ref T)))) T:=by
  refine ch w λL M o p N P=>?_;exact dp L M ((y T (λq=>I.e2 T w (q▸kY l):T≠f)).trans o) p N P
 obtain⟨B,F⟩:=I.set (p:={s with heap:=s.heap.update f (gw (·.setIfInBounds 1 (.ref T)))}) (j:=i) (r:=f) (o:=.exc C d r) l (λg n ob q=>(y g n).trans q) (List.getElem?_eq_some_iff.mp e).1 (λZ=>lZ _ _ T m rfl (by simp[j]))
  (λB=>by
   refine qT k _ m (by simp[j]) ?_ (al (.ref T) (by simp[j]) (.inr (br T rfl v z))) ?_
   ·exact G
   ·refine ak J λQ o p=>?_;exact al Q (by rw[Cg (by decide)];exact o) p) rfl rfl rfl
 rw[Qg e]at F;exact dc B F (nq _ _ T m rfl (by simp[j]) v z)
theorem GT{i:Nat}{g:aj}{f:Option aj}{C:aj}{d:Option Nat}{y:Bool}(I:ay D c a b s)(e:b[i]?=ac (.exc C d y))(o:a[i]?=ac g):
  aB (Mo D) A (CV (.ref g) f) (λS p=>∃l,p={s with heap:=l}/\bq a s.heap a l/\ay D c a b p/\(iY D s.heap g->iY D l g)) E s:=by
 refine Ey I e o (λB r h F j=>aD (mM h rfl j (bz (jW _ rfl (.b5 _ _) I id)))) λB r T h F j t m=>?_
 ·refine aD (mM h rfl j ?_);rw[if_pos (show(lE T !=uY)=af from bne_iff_ne.mpr λz=>nomatch z)];refine ch (id m) λG Q u J n v=>?_;refine Da u n v ?_;have L:(s.heap.update T (gw (·.setIfInBounds 3 (f.elim .none λf=>kC f)))).get? T=ac (G.mapFields (·.setIfInBounds 3 (f.elim .none λf=>kC f))):=pC _ u (SB (CE n _));have w:∀k,k≠T->(s.heap.update T (gw (·.setIfInBounds 3 (f.elim .none λf=>kC f)))).get? k=s.heap.get? k:=λk M=>Cj _ _ (ik M);have x:dC (s.heap.update T (gw (·.setIfInBounds 3 (f.elim .none λf=>kC f)))) T:=dp _ _ L ((bi0 _ _).trans J) (CE n _) (by simpa using v);refine aP (I.tb m t w x) λN P=>?_;exact jW _ rfl N P (λS=>nq _ r T ((w g (ik (λq=>I.e2 T m (q▸kY o):T≠g))).trans h) rfl j t x)
theorem LY{g:Env}{k:List Env}{i:Nat}{m L:aj}{C:aj}{d:Option Nat}{z:Bool}{p:ah}{B:Bool}(F:A.frames=ac (g::k))(G:g.frame=ac L)
  (I:ay D (g::k) a b s) (e:b[i]?=ac (.exc C d z)) (r:a[i]?=ac m):
  aB (Mo D) A (do let x <-frameOf g;let l <-entryPlaceOf L B;let h <-bb7 p x .none (kC L) .none l;setField (.ref m) 1 h)
   (λZ t=>∃n,t={s with heap:=n}/\bq a s.heap a n/\ay D (g::k) a b t/\iY D n m) E s:=by
 refine aD (wpAny_frameOf_fun F (I.frames.fun) G λf J=>?_);refine aP (I.slots J) λM u=>?_;refine aD (wpAny_entryPlaceOf λl N=>?_);unfold bb7 Tf;refine aD (yk ?_ (N.sizeOk5 _ _ _ _ _));generalize P:([p,.ref L,.none,kC L,.none]++(if l.isEmpty then pI 6 uY else l)).toArray=j;have v:∀h o,f.get? h=ac o->(f.push {cls:=.type "traceback",data:=.fields j}).get? h=ac o:=λh o e=>ie _ e;have w:ay D (g::k) a b {s with heap:=f.push {cls:=.type "traceback",data:=.fields j}}:=u.keeps v rfl rfl rfl;refine we w e r λod vs y Q Z=>?_;have S:dC (f.push {cls:=.type "traceback",data:=.fields j}) f.objs.size:=dp _ j (mH _ rfl) rfl rfl (by subst P;simp only[bf7,aU,rS,nW];lia:3<j.size);have T:D.base.get? f.objs.size=ae:=by
  cases q:D.base.get? f.objs.size with
  |none=>rfl|some o=>exact absurd (fj (u.base _ _ q)) (jn _)
 refine fL (w.n9 e r y T S) λU Y Tr=>?_;refine Da y rfl (by rw[Q];decide) ?_;exact jW _ rfl ((M.trans (.c0 v)).trans U) Y Tr
theorem aC2{f:Env}{m:List Env}{i:Nat}{n:aj}{C:aj}{d:Option Nat}{G:Bool}(v:A.frames=ac (f::m))(I:ay D (f::m) a b s)(e:b[i]?=ac (.exc C d G))(o:a[i]?=ac n):
  aB (Mo D) A (CS (.ref n) f) (λZ p=>∃g,p={s with heap:=g}/\bq a s.heap a g/\ay D (f::m) a b p/\iY D g n) E s:=by
 obtain⟨Z,L,Z,Z,Z,q,Z⟩:=I.frames f (.head _);unfold CS;simp only[q];refine Ey I e o (λJ w h M j=>aD (mM h rfl j (LY v q I e o))) λJ w T h M j y r=>?_
 ·refine aD (mM h rfl j ?_);rw[if_pos (show(lE T !=uY)=af from bne_iff_ne.mpr λz=>nomatch z)];refine ch (id r) λN B t P k u=>?_;refine am (⟨B[3],by simp[u]⟩:∃x,B[3]?=ac x) λx Q=>?_;refine aD (mM t k Q ?_);by_cases F:(x==kC L)=af
  ·rw[if_pos F];exact bz (jW _ rfl (.b5 _ _) I (nq _ w T h rfl j y r))
  ·rw[if_neg F];refine aD (Da t k u ?_);have S:(s.heap.update T (gw (·.setIfInBounds 3 .none))).get? T=ac (N.mapFields (·.setIfInBounds 3 .none)):=pC _ t (SB (CE k _));have U:∀l,l≠T->(s.heap.update T (gw (·.setIfInBounds 3 .none))).get? l=s.heap.get? l:=λl Y=>Cj _ _ (ik Y);refine aP (I.tb r y U (dp _ _ S ((bi0 _ _).trans P) (CE k _) (by simpa using u):dC (s.heap.update T (gw (·.setIfInBounds 3 .none))) T)) λSt I'=>?_;refine bb (LY (s:={s with heap:=s.heap.update T (gw (·.setIfInBounds 3 .none))}) v q I' e o) ?_ λZ Z z=>z;intro Z p z0;refine ak z0 λg z1 z2=>?_;subst z1;refine fL z2 λz3 I2 Tr=>?_;exact jW g rfl (St.trans z3) I2 Tr
end
end
section
noncomputable def qj(l:List aj)(n:aS):Fl->kr->Prop
 |.next,f=>f=.next|.a3,f=>f=.brk|.a5,f=>f=.cont|.B v,f=>∃x,f=.ret x/\VR l n v x|.exc _,_=>False
def iu(c:Cx)(l:Env)(n:aj):Prop:=n≠l.locals/\∀(o:Nat) x,c.lay[o]?=ac (ac (x,af))->l.cells.lookup x≠ac n
structure cM(c:Cx)(y:Env)(v:List aj)(w:aS)(z:List aj)(x:aS):Prop where
 pre:v<+:z
 new:∀l∈z,l∉v->w.get? l=ae
 kept:∀s o,w.get? s=ac o->s∉v->iu c y s->(∃B,o.cls=.type "traceback"/\o.data=.fields B/\dC x s)\/(∃A,x.get? s=ac {o with slots:=A}/\((∃C n,o.data=.dict C n)\/A=o.slots))
 tr:∀l∈v,iu c y l->Tr w l->Tr x l
theorem cM.of(x:bq l s v w):cM c C l s v w:=⟨x.pre,x.new,λy o z n D=>x.kept y o z n,λA B D t=>x.tr A B t⟩
theorem cM.b5(c:Cx)(o:Env)(l:List aj)(n:aS):cM c o l n l n:=.of (.b5 _ _)
theorem cM.trans(x:cM c A G I J Z)(y:cM c A J Z Q z0)(z1:∀l∈Q,l∈G\/iu c A l):cM c A G I Q z0:=by
 have z2:∀s o,I.get? s=ac o->s∉G->s∉J:=λs o w n q=>by rw[x.new s q n]at w;injection w
 refine⟨x.pre.trans y.pre,λl v n=>?_,λs o w n L=>?_,λl v B t=>y.tr l (x.pre.subset v) B (x.tr l v B t)⟩
 ·by_cases q:l∈J
  ·exact x.new l q n
  ·cases z:I.get? l with
   |none=>rfl|some o=>
    have B:iu c A l:=(z1 l v).resolve_left n;rcases x.kept l o z n B with⟨_,_,_,⟨S,_,T,_⟩⟩|⟨U,C,_⟩
    ·rw[y.new l v q]at T;injection T
    ·rw[y.new l v q]at C;injection C
 ·have Y:=z2 s o w n;rcases x.kept s o w n L with⟨D,E,F,⟨S,z3,q1,q2,q3,q4⟩⟩|⟨U,C,hs⟩
  ·rcases y.kept s S q1 Y L with⟨_,_,_,z⟩|⟨U,M,_⟩
   ·exact .inl (br D E F z)
   ·exact .inl (br D E F (dp _ z3 M q2 q3 q4))
  ·rcases y.kept s _ C Y L with⟨D,E,F,z⟩|⟨z4,M,z5⟩
   ·exact .inl (br D E F z)
   ·exact .inr (al z4 M (by
     rcases hs with N|N
     ·exact .inl N
     ·rcases z5 with P|P
      ·exact .inl P
      ·exact .inr (P.trans N)))
theorem cM.more(x:cM c s E v F w)(k:∀l,v.get? l≠ae->iu c s l->∀o,w.get? l=ac o->y.get? l=ac o)(G:∀T,dC w T->dC y T):cM c s E v F y:=by
 refine⟨x.pre,x.new,λA o B n C=>?_,λl I D t=>(x.tr l I D t).keep (k l (by refine gY t λo Q Q J Q=>?_;rw[J];simp) D)⟩
 rcases x.kept A o B n C with⟨L,M,N,z⟩|⟨P,q,r⟩
 ·exact .inl (br L M N (G _ z))
 ·exact .inr (al P (k A (by rw[B];simp) C _ q) r)
theorem cM.same(x:cM c w y z I A)(B:z.get? l=ac o)(n:l∉y)(C:iu c w l)(D:∀v n,o.data≠.dict v n)(E:∀s,o.data≠.fields s\/o.cls≠.type "traceback"):A.get? l=ac o:=by
 rcases x.kept l o B n C with⟨s,J,L,_⟩|⟨M,F,G⟩
 ·rcases E s with q|q<;>contradiction
 ·rcases G with⟨v,n,q⟩|q
  ·exact absurd q (D _ _)
  ·rw[F,q]
theorem eV.o0{o:Str->Option ah}(L:eV D c.lay v l a s.heap o)(I:ay D C l E s)(n:w∈l):iu c v w:=
 ⟨λq=>L.out (q▸n),λy x z q=>bE (L.cells y x z) λF G A B J=>I.h9 B (ax (A.symm.trans q)▸n)⟩
section
variable{c:Cx}{q:aE c}{a:av}{p e b:Pt}{r:X}
def jT(q:aE c):Prop:=∃r,q.u.envs=q.env::r
def cD(q:aE c)(p b:Pt):Prop:=cM c q.env p.ρ p.s.heap b.ρ b.s.heap
theorem At.out(Y:At q a p)(l:n∈p.ρ):iu c q.env n:=am Y.c2 λo L=>L.o0 Y.inv l
theorem cD.trans(x:cD q p b){l}(y:cD q b l)(Y:At q a l):cD q p l:=cM.trans x y λo n=>.inr (Y.out n)
theorem cD.of(x:Le p b):cD q p b:=cM.of x.1
theorem cD.b5(p:Pt):cD q p p:=cM.b5 ..
inductive dB(q:aE c)(p:Pt)(r:X)(f:kr):az->Prop
 |mk (l:Fl) (n:av) (b:Pt) (o:r=ac (l,n,b.σ)) (F:qj b.ρ b.s.heap l f) (G:cD q p b) (Y:At q n b):dB q p r f b.s
inductive ce(q:aE c)(p:Pt)(r:X)(v:ah):az->Prop
 |mk (l:Nat) (n:av) (b:Pt) (o:r=ac (.exc l,n,b.σ)) (x:sh b.σ b.ρ l v) (G:cD q p b) (Y:At q n b):ce q p r v b.s
theorem dB.from(x:dB q p r f l)(L:cD q e p):dB q e r f l:=by
 induction x using dB.casesOn with|mk n o b s F G Y=>exact .mk n o b s F (L.trans G Y) Y
theorem ce.from(x:ce q p r f l)(L:cD q e p):ce q e r f l:=by
 induction x using ce.casesOn with|mk n o b s F G Y=>exact .mk n o b s F (L.trans G Y) Y
def Sq(q:aE c)(a:av)(p:Pt)(t:Sem kr)(r:X):Prop:=At q a p->r≠ae->aB (Mo q.u.D) q.A t (dB q p r) (ce q p r) p.s
noncomputable def aE.d0(q:aE c)(a:av)(x:St)(l:H):X:=Mine.Internal.bX q.P q.fz q.C q.W x a l q.hd
noncomputable def aE.b2(q:aE c)(a:av)(x:List St)(l:H):X:=Mine.Internal.aJ q.P q.fz q.C q.W x a l q.hd
def Dq(c:Cx)(l:fO)(x:St):Prop:=∀(q:aE c) (Z:jT q) a p,Sq q a p (exec l q.env) (q.d0 a x p.σ)
def qo(c:Cx)(l:List fO)(x:List St):Prop:=∀(q:aE c) (Z:jT q) a p,Sq q a p (CP l q.env) (q.b2 a x p.σ)
def dP(l:fO):Prop:=∀c,bL (cS c l) (Dq c l)
def fQ(l:List fO):Prop:=∀c,bL (fC c l) (qo c l)
variable{h i:Type}{t g:Sem kr}{d:X}{u:Sem i}{f:i->Sem kr}{j:List aj->aS->h->i->Prop}{m:R h}{k:h->H->X}
theorem Sq.L(n:t=g)(o:r=d)(s:Sq q a p g d):Sq q a p t r:=n▸o▸s
theorem Sq.l(n:t=g)(o:Sq q a p g r):Sq q a p t r:=n▸o
theorem Sq.none:Sq q a p t aw:=λo n=>absurd rfl n
theorem Sq.a0{f:Unit->Sem kr}(n:Sq q a p (f ()) r):Sq q a p (fP s>>=f) r:=λY o=>aD (rY (n Y o))
theorem Sq.go{n:Type}{v:n}{f:n->Sem kr}(o:Sq q a p (f v) r):Sq q a p (bx v>>=f) r:=λY s=>aD (bz (o Y s))
theorem Sq.c1{f:kr}{n:Fl}(o:qj p.ρ p.s.heap n f):Sq q a p (bx f) (ac (n,a,p.σ)):=λY s=>bz (.mk n a p rfl o (.b5 p) Y)
theorem B'{l:Type}{r:R l}{n:av}{k:l->H->X}(o:aO r n k≠aw):r≠.i:=λs=>o (by rw[s];rfl)
theorem Sq.ev(C:Rq q a p u j m)(D:∀y v b,Le p b->j b.ρ b.s.heap y v->Sq q a b (f v) (k y b.σ)):Sq q a p (u>>=f) (aO m a k):=λY A=>
 aD (bb (C Y (B' A)) (λv n z=>z.U λy o s B w I E=>by
  rw[B]at A⊢;have x:Le p ⟨s,o,n⟩:=⟨w,Y.inv.Y⟩
  exact bb (D y v ⟨s,o,n⟩ x E (Y.step w I) A) (λG G z=>z.from (.of x)) λG G z=>z.from (.of x)) λv n z=>z.U λF o s B w I x=>by
  rw[B];exact .mk F a ⟨s,o,n⟩ rfl x (.of ⟨w,Y.inv.Y⟩) (Y.step (i:=⟨s,o,n⟩) w I))
theorem aY9:dP (.Pass l):=λc=>.is λq Z a p=>.l (arm_exec_Pass ..)<|.a0<|.c1 (n:=.next) rfl
theorem aY2:dP (.Break l):=λc=>.is λq Z a p=>.l (arm_exec_Break ..)<|.a0<|.c1 (n:=.a3) rfl
theorem aY3:dP (.Continue l):=λc=>.is λq Z a p=>.l (arm_exec_Continue ..)<|.a0<|.c1 (n:=.a5) rfl
theorem aZ1:dP (.Return l w):=λc=>by
 cases l with
 |none=>exact .is λq Z a p=>.l (bk0 ..)<|.a0<|.c1 (n:=.B .none) (al _ rfl rfl)|some l=>exact .b6 (gg l c) λy n q Z a p=>.l (bk0 ..)<|.a0<|show Sq q a p (dF l q.env>>=λv=>bx (Flow.ret v)) _ from .ev (n q a p) λo v b x s=>.c1 (n:=.B o) (al v rfl s)
theorem aL8:q.d0 a (.E y o s) n=aO (q.test a y n) a λt l=>if t then q.b2 a o l else q.b2 a s l:=by
 show aO (Mine.Internal.ev _ _ _ _ _ _ _) _ _=_;unfold aE.test aE.ev
 induction Mine.Internal.ev q.P q.fz q.C q.hd a y n using R.casesOn with
 |i=>rfl|exc w l=>rfl|ok v l=>
  show(match aA l v with|some af=>_|some ag=>_|none=>_)=aO (gW l v) a _;unfold gW
  cases aA l v with
  |none=>rfl|some t=>induction t using Bool.casesOn<;>rfl
theorem an5{f l:Sem kr}{r d:X}{t v:Bool}(n:t=v)(o:Sq q a p f r)(s:Sq q a p l d):Sq q a p (if v then f else l) (if t then r else d):=by
 subst n
 induction t using Bool.casesOn
 ·exact s
 ·exact o
theorem aY8{t:aY}{l n:List fO}{s:Pos}(w:fQ l)(A:fQ n):dP (.If t l n s):=λc=>.i2 (IZ t c) (w c) (A c) λx y z B C D q Z a p=>
 .L (arm_exec_If ..) aL8<|.a0<|.ev (B q a p) λG v o F E=>an5 E (C q Z a o) (D q Z a o)
theorem Ws:fQ []:=λc=>.is λq Z a p Y l=>IB (.mk .next a p rfl rfl (.b5 p) Y)
noncomputable def kJ(r:X)(k:av->H->X):X:=match r with
 |some (.next,l,n)=>k l n|x=>x
theorem aI8{s:St}{r:List St}{l:H}:q.b2 a (s::r) l=kJ (q.d0 a s l) λn o=>q.b2 n r o:=rfl
theorem Wr{A:fO}{r:List fO}(C:dP A)(D:fQ r):fQ (A::r):=λc=>.e6 (C c) (D c) λx y E I q Z a p Y s=>by
 rw[aI8]at s⊢;refine wpAny_execs_cons (bb (E q Z a p Y λl=>s (by rw[l];rfl)) (λf J z=>?_) λl J z=>by
  induction z using ce.casesOn with|mk B n b l x G o=>rw[l];exact .mk B n b rfl x G o)
 induction z using dB.casesOn with|mk L n b l F G o=>
 rw[l]at s⊢
 induction L using Fl.casesOn with
 |next=>cases F;exact bb (I q Z n b o s) (λN N z=>z.from G) λN N z=>z.from G
 |a3=>cases F;exact .mk .a3 n b rfl rfl G o
 |a5=>cases F;exact .mk .a5 n b rfl rfl G o
 |B v=>(refine ak F λw z M=>?_;subst z);exact .mk (.B v) n b rfl (al w rfl M) G o
 |exc B=>exact F.elim
end
end
section
section
variable{c:Cx}{q:aE c}{b:av}{p f d:Pt}{r:X}{E:ah->az->Prop}{e:ah}{s:az}{a:aj}
theorem At.hw(Y:At q b p)(h:bq p.ρ p.s.heap p.ρ g)(I:ay q.u.D q.u.envs p.ρ p.σ {p.s with heap:=g}):At q b (p.on {p.s with heap:=g})/\cD q p (p.on {p.s with heap:=g}):=⟨Y.step (i:=p.on _) h I,cM.of h⟩
theorem ul(T:jT q)(m:A.frames=ac q.u.envs)(n:ce q p r e s):
  aB (Mo q.u.D) A (CS e q.env) (λM g=>ce q p r e g/\∃a,e=.ref a/\iY q.u.D g.heap a) E s:=by
 induction n using ce.casesOn with|mk i o d t x G Y=>
 refine x.U λu v w a j k h=>?_;subst h;refine am T λL z=>bb (aC2 (m.trans (congrArg ac z)) (z▸Y.inv) j k) (λM g y=>?_) λM M z=>z;refine ak y λB h C=>fL C λD F I=>?_;subst h;refine aP (Y.hw D (z▸F)) λl J=>?_;exact AJ (.mk i o (d.on {d.s with heap:=B}) t ⟨u,v,w,a,j,k,rfl⟩ (G.trans J l) l) a rfl I
theorem xm(m:ce q p r e s):
  aB (Mo q.u.D) A (CV e L) (λN g=>ce q p r e g/\∀a,e=.ref a->iY q.u.D s.heap a->iY q.u.D g.heap a) E s:=by
 induction m using ce.casesOn with|mk i n d o x G Y=>
 refine x.U λu v w a j k h=>?_;subst h;refine bb (GT Y.inv j k) (λN g y=>?_) λN N z=>z;refine ak y λB h C=>fL C λD F I=>?_;subst h;refine aP (Y.hw D F) λl J=>?_;exact⟨.mk i n (d.on {d.s with heap:=B}) o ⟨u,v,w,a,j,k,rfl⟩ (G.trans J l) l,λM z t=>pS z▸I (pS z▸t)⟩
theorem XR{n:ah->az->Prop}(T:jT q)(t:A.frames=ac q.u.envs)(u:ce q p r e s)
  (k:∀i h g a C l m,r=ac (.exc i,h,g.σ)->g.σ[i]?=ac (.exc C l m)->g.ρ[i]?=ac a->cD q p g->At q h g->iY q.u.D g.s.heap a->n (.ref a) g.s):
  aB (Mo q.u.D) A (CS e q.env) (λQ v=>aB (Mo q.u.D) A (CV e M) (λQ w=>n e w) E v) E s:=by
 refine bb (ul T t u) (λQ N z=>nR z λy a j B=>bb (xm y) (λQ P z=>aP z λD F=>?_) λQ Q z=>z) λQ Q z=>z
 induction D using ce.casesOn with|mk i h g I x G Y=>
 exact x.U λC l m o J L j=>j▸k i h g o C l m I J L G Y (F o j (pS (j.symm.trans ‹e=.ref a›)▸B))
theorem aV0(h:ce q p r (.ref a) s)(i:iY q.u.D s.heap a)(j:∀g,ce q p r (.ref a) g->E (.ref a) g):pU (Mo q.u.D) A q.env E (.ref a) s:=by
 refine nS i λn o T k l m t u=>?_;unfold pU;refine aD (mM k l m ?_);rw[if_neg (by simp)];exact bb (xm h) (λv g z=>j g z.1) λv v z=>z
theorem BI(T:jT q)(h:A.frames=ac q.u.envs)(i:ce q p r e s)(j:∀g,ce q p r e g->E e g):vd (Mo q.u.D) A q.env (λe g=>pU (Mo q.u.D) n q.env E e g) e s:=
 bb (ul T h i) (λo g z=>nR z λk a l m=>by subst l;exact aV0 k m j) λo o z=>z
theorem Qh{h:Type}{Q:h->az->Prop}(i:ce q p r (.ref a) s)(j:iY q.u.D s.heap a)(k:∀g,ce q p r (.ref a) g->E (.ref a) g):aB (Mo q.u.D) A (bj2 o (.ref a) q.env:Sem h) Q E s:=by
 refine nS j λt u T l m n v w=>?_;unfold bj2;refine aD (mM l m n ?_);rw[if_neg (by simp)];exact aD (bb (xm i) (λx g z=>Db (k g z.1)) λx x z=>z)
noncomputable def nO(r:X)(k:av->H->X):X:=match r with
 |some (.next,g,h)=>k g h|some (.a5,g,h)=>k g h|some (.a3,g,h)=>ac (.next,g,h)|r=>r
def kG(q:aE c)(p:Pt)(g:X)(r:rV)(s:az):Prop:=match r with
 |.ok h=>dB q p g h s|.error e=>pU (Mo q.u.D) q.A q.env (ce q p g) e s
theorem FP(Z:jT q){k:av->H->X}{N:az->Prop}(h:Sq q b p y A)(Y:At q b p)(o:cD q f p)(l:nO A k=n)(B:n≠ae)
  (t:∀g d,k g d.σ=n->cD q p d->At q g d->N d.s):
  aB (Mo q.u.D) q.A y (λu m=>match u with
   |.next=>N m|.cont=>N m|.brk=>kG q f n (.ok .next) m|.ret v=>kG q f n (.ok (.ret v)) m) (vd (Mo q.u.D) q.A q.env λe m=>kG q f n (.error e) m) p.s:=by
 refine bb (h Y λz=>B (by rw[<-l,z];rfl)) (λu m z=>?_) λe m z=>?_
 ·induction z using dB.casesOn with|mk C g d e F G j=>
  rw[e]at l
  induction C using Fl.casesOn with
  |next=>cases F;exact t g d l G j
  |a5=>cases F;exact t g d l G j
  |a3=>cases F;exact .mk .next g d l.symm rfl (o.trans G j) j
  |B v=>(refine ak F λw z D=>?_;subst z);exact .mk (.B v) g d l.symm (al w rfl D) (o.trans G j) j
  |exc i=>exact F.elim
 ·refine BI Z q.fr (p:=f) (r:=n) ?_ λI z=>z
  induction z using ce.casesOn with|mk i g d e x G j=>
  rw[e]at l;exact .mk i g d l.symm x (o.trans G j) j
theorem FC(Y:At q b p)(g:cD q f p):aB (Mo q.u.D) q.A (CP [] q.env) (λh i=>kG q f (ac (.next,b,p.σ)) (.ok h) i) E p.s:=IB (.mk .next b p rfl rfl g Y)
end
section
variable{c:Cx}{q:aE c}{b:av}{p:Pt}{r:X}
noncomputable def aE.a9(q:aE c)(y:Ex)(i:List St):Nat->av->H->X:=py (λg h=>q.ev g y h) λg h=>q.b2 g i h
theorem a95:q.a9 y j (k+1) b g=aO (q.test b y g) b λt h=>if t then nO (q.b2 b j h) λl h=>q.a9 y j k l h else ac (.next,b,h):=by
 show aO (q.ev b y g) b _=_;unfold aE.test
 induction q.ev b y g using R.casesOn with
 |i=>rfl|exc i h=>rfl|ok v h=>
  show(match aA h v with|some af=>_|some ag=>_|none=>_)=aO (gW h v) b _;unfold gW
  cases aA h v with
  |none=>rfl|some t=>induction t using Bool.casesOn<;>rfl
inductive Dt(q:aE c)(f:Pt)(y:Ex)(g:List St)(i:X)(k:Nat):az->Prop
 |mk (b:av) (p:Pt) (h:q.a9 y g k b p.σ=i) (G:cD q f p) (Y:At q b p):Dt q f y g i k p.s
theorem aZ6(J:fQ L):dP (.While t L M z0):=λc=>by
 cases M with
 |cons U U=>exact .S|nil=>
  refine .e6 (IZ t c) (J c) λy w N P q Z b p Y u=>wpAny_While ?_;show jp _ _ _ (kG q p (q.d0 b (.a9 y w) p.σ)) _;generalize Q:q.d0 b (.a9 y w) p.σ=D at u;refine codeAny_whileLoop (Dt q p y w D) (λk s' z=>?_) q.W (.mk b p Q (.b5 p) Y)
  induction z using Dt.casesOn with|mk A d g G n=>
  cases k with
  |zero=>exact absurd g.symm u|succ k=>
   rw[a95]at g;refine bb (N q A d n λz=>u (by rw[<-g,z];rfl)) (λv h z=>z.U λt j l e o I B=>?_) λv h z=>z.U λi j l e o I x=>?_
   ·rw[e]at g;have m:=n.step (i:=⟨l,j,h⟩) o I;have C:=G.trans (.of (b:=⟨l,j,h⟩) ⟨o,n.inv.Y⟩) m;have B:t=v:=B;subst B
    cases t with
    |true=>exact FP Z (P q Z A ⟨l,j,h⟩) m C g u λS T h2 G2 F=>al k (og _) (.mk S T h2 (C.trans G2 F) F)|false=>have g:_=D:=g;subst g;exact FC m C
   ·rw[e]at g;have m:=n.step (i:=⟨l,j,h⟩) o I;exact BI Z q.fr (.mk i A ⟨l,j,h⟩ g.symm x (G.trans (.of ⟨o,n.inv.Y⟩) m) m) λU z=>z
end
end
section
def yD(h:aS)(I:aj)(e:Nat->Obj->Prop)(k:Nat):Prop:=∃o,h.get? I=ac o/\e k o
def yE(e:Nat->Obj->Prop):Prop:=∀k o,e k o->(∃f,o.data=.fields f)/\o.cls≠.type "tuple"/\o.cls≠.type "traceback"
def yF(u:sA)(A:cB)(h:V)(i:ah)(j:List V)(l:H->Bool)(f:Nat->Obj->Prop)(I:aj):Prop:=
 ∀(k:Nat) (p:Pt) (E:ah->az->Prop),ay u.D u.envs p.ρ p.σ p.s->VR p.ρ p.s.heap h i->l p.σ=af->yD p.s.heap I f k->
  aB (Mo u.D) A (pyNext (.ref I)) (λr m=>∃e n,m={p.s with heap:=e,toks:=n}/\(∀c g,c≠I->p.s.heap.get? c=ac g->e.get? c=ac g)/\
   match j[k]? with
   |some v=>∃x,r=ac x/\VR p.ρ p.s.heap v x/\yD e I f (k+1)|none=>r=ae) E p.s
def NE(t:aj)(k:Nat)(o:Obj):Prop:=o.cls=.type "tuple_iterator"/\o.data=.fields #[.ref t,.int k 0]
theorem aq9(t:aj):yE (NE t):=λk o h=>dc ⟨_,h.2⟩ (by rw[h.1];simp) (by rw[h.1];simp)
def wu(N:Nat)(k:Nat)(o:Obj):Prop:=o={cls:=.type "range_iterator",data:=.fields #[kC k,kC ((N:Int)-k),kC 1]}
theorem aq8(N:Nat):yE (wu N):=λk o h=>by
 unfold wu at h;subst h;exact dc ⟨_,rfl⟩ (by simp) (by simp)
def ND(e:aj)(n m:Nat)(k:Nat)(o:Obj):Prop:=o.cls=.type "dict_keyiterator"/\o.data=.fields #[.ref e,.int k 0,.int n 0,.int m 0]
theorem aq6(e:aj)(n m:Nat):yE (ND e n m):=λk o h=>dc ⟨_,h.2⟩ (by rw[h.1];simp) (by rw[h.1];simp)
theorem aA1(s:A.handled=ae):yF u A (.tup h) (.ref t) h (λQ=>af) (NE t) I:=by
 intro k p E M w Q y;obtain⟨N,P,i,m,f,z,j⟩:=w
 (injection f with f;subst f)
 have l:p.s.heap.IsTupleIter I t k:=y;have n:p.s.heap.IsTuple t i:=wp _ z rfl m rfl;have B:=aI.length j;rw[kq]at B
 cases o:h[k]? with
 |none=>
  have C:i[k]?=ae:=by
   rw[Ct]at o;rw[bb1];lia
  exact wpAny_pyNext_tuple_end s l n C λg D=>bw g p.s.toks rfl (λc r q e=>D c r q e) rfl
 |some v=>
  refine ak (j.get o) λx F G=>?_;exact wpAny_pyNext_tuple_item l n (by rw[<-bb2];exact F) λg J L=>Fk g p.s.toks rfl (λc r q e=>(L.2 c q).trans e) x rfl G J
theorem aA0(m:A.handled=ae):yF u A (.none) x ((ek N).map λ(k:Nat)=>V.a (k:Int)) (λB=>af) (wu N) I:=by
 intro k p E y z B n;refine ak n λo h i=>?_;unfold wu at i;subst i
 cases f:((ek N).map λ(k:Nat)=>V.a (k:Int))[k]? with
 |none=>
  rw[Ct,bH,be8]at f;exact wpAny_pyNext_range_end m h (by lia) λg r=>bw g p.s.toks rfl (λc j q e=>r c j q e) rfl
 |some v=>
  have s:k<N:=by
   have:=(List.getElem?_eq_some_iff.mp f).1;simpa using this
  have t:v=.a k:=by
   rw[iQ,List.getElem?_range s]at f;simpa using f.symm
  subst t;refine wpAny_pyNext_range_item h (by lia) λg l w=>?_;rw[(by lia:(k:Int)+1=((k+1:Nat):Int)),(by lia:(N:Int)-k-1=(N:Int)-((k+1:Nat):Int))]at l;exact Fk g (p.s.toks+1) rfl (λc j q e=>(w.2 c q).trans e) _ rfl ⟨_,rfl⟩ (al _ l rfl)
set_option tactic.hygienic true in
theorem YR(h:mW i m g l=af):∃f,l[i]?=ac (.dict f (ac m))/\f.map (·.1)=g/\∀k∈g,fc k=af:=by
 unfold mW at h
 cases e:l[i]? with
 |none=>rw[e]at h;exact nomatch h
 |some o=>
  rw[e]at h
  induction o using O.casesOn<;>first|exact no_ft h|skip
  rename_i f n
  cases n with
  |none=>exact nomatch h|some n=>
   have h:(n==m&&f.map (·.1)==g&&g.all fc)=af:=h;refine dr h λr s=>dr r λj t=>?_;have j:=cW j;subst j;exact br f rfl (cW t) (λk u=>List.all_eq_true.mp s k u)
theorem az8(G:A.handled=ae):yF u A (.obj i) (.ref v) (h.map .str) (mW i m h) (ND v h.length m) I:=by
 intro k p z7 J L M N;refine bP (YR M) λj P w Q=>?_;refine xF (J.addr P) λz8 S Z f T x y U=>?_;have Y:=U.1 m rfl;subst Y;refine ak (eC L) λa' l s=>?_;rw[S]at l;(injection l with l;subst l);(injection s with s;subst s);have z:f.length=h.length:=by
  have:=congrArg pE y.1;rw[bH,bH]at this;rw[this,<-w,bH]
 have B:p.s.heap.IsKeyIter I v k f.length T:=by rw[z];exact N
 cases n:(h.map V.str)[k]? with
 |none=>
  have o:f[k]?=ae:=by
   rw[Ct,bH]at n;rw[Ct];lia
  exact wpAny_pyNext_dict_end (knd:=ot u.D.prog u.D.w) G B x o λt z0=>bw t p.s.toks rfl (λc C q e=>z0 c C q e) rfl
 |some z9=>
  have z1:k<f.length:=by
   have:=(List.getElem?_eq_some_iff.mp n).1;rw[bH]at this;lia
  have o:f[k]?=ac (f[k].1,f[k].2):=by simp[z1]
  refine wpAny_pyNext_dict_item (knd:=ot u.D.prog u.D.w) B x o λr t z2 D z3=>Fk t p.s.toks rfl (λc C q e=>(z3.2 c q).trans e) r rfl ?_ (by rw[z]at D;exact D);rw[iQ]at n;refine ak (Option.map_eq_some_iff.mp n) λg E q2=>?_;subst q2;have z4:f[k].1=sv g:=by
   have F:(f.map (·.1))[k]?=(j.map λp=>sv p.1)[k]?:=by rw[y.1]
   have q4:(j.map λp=>sv p.1)[k]?=ac (sv g):=by
    rw[show(j.map λp=>sv p.1)=(j.map (·.1)).map sv by rw[uR];rfl,w,iQ,E];rfl
   rw[q4,iQ,o]at F;simpa using F
  have:SJ (sv g) r=af:=(by rw[<-z4];exact z2:(strKind u.D.prog u.D.w).is (sv g) r=true)
  induction r using Value.casesOn with
  |str z5 z6=>
   have:(z5==sv g)=af:=this;exact tA (Q g (bT E)) z6 (by rw[beq_iff_eq.mp this])
  |_=>injection this
theorem Gm{m:Str->Option ah}(L:eV D c.lay k C a h m)(j:h.get? l=ac o)(r:∀e n,o.data≠.dict e n)(s:∀v,o.data≠.cell v):iu c k l:=by
 refine⟨λz=>?_,λi x t z=>?_⟩
 ·subst z;exact fi L.ns λu e y f g F=>r e y (ax (j.symm.trans f)▸g)
 ·exact bE (L.cells i x t) λE A B w F=>ak w λu f g=>s A (ax (j.symm.trans (ax (B.symm.trans z)▸f))▸g)
theorem cM.mv{m:Str->Option ah}(x:cM c g e h i j)(k:oA e h)(L:eV D c.lay g e a h m):Mv e h i j:=⟨gH x.pre,λ{l o n} f=>x.same f (λq=>(k l q _ f).elim (λz=>z rfl) λz=>eH z λr r z=>nomatch z) (Gm L f (λr r z=>nomatch z) λr z=>nomatch z) (λr r z=>nomatch z) λr=>.inr λz=>nomatch(bj6 z:"tuple"="traceback")⟩
theorem VR.o1{m:Str->Option ah}(x:cM c i f h j k)(l:oA f h)(L:eV D c.lay i f a h m)(e:VR f h g v):VR j k g v:=VR.mv (x.mv l L) g e
section
variable{c:Cx}{q:aE c}{a:av}{p d:Pt}{b:az}
theorem VR.ups(f:VR p.ρ p.s.heap g v)(Y:At q a p)(G:cD q p e):VR e.ρ e.s.heap g v:=am Y.c2 λm L=>VR.o1 G Y.inv.Y L f
structure yl(q:aE c)(f:av)(p:Pt)(b:az):Prop where
 at_:At q f (p.on b)
 st:cD q p (p.on b)
 loose:eQ q.u.D q.u.envs p.ρ p.s.heap b.heap
 rest:∀e o,iu c q.env e->p.s.heap.get? e=ac o->b.heap.get? e=ac o
theorem yl.of(Y:At q a p)(j:c.lay[i]?=ac (ac (x,k)))(P:Dl q.u.D c q.env q.u.envs x k p.ρ p.σ (a.set i (ac v)) p.s b):yl q (a.set i (ac v)) p b:=by
 have h:∀f o,iu c q.env f->p.s.heap.get? f=ac o->b.heap.get? f=ac o:=λf o g e=>P.rest f o (λm=>g.1) (λl=>g.2 i x (l▸j)) e;exact⟨⟨P.inv,Y.hd,P.c2⟩,(cD.b5 (q:=q) p).more (λf m g o e=>h f o g e) λT z=>z.loose P.loose,P.loose,h⟩
theorem yO{E:ah->az->Prop}(Y:At q a p)(e:c.lay[i]?=ac (ac (x,h)))(f:VR p.ρ p.s.heap v g):aB (Mo q.u.D) A (oo q.env x g) (λj b=>yl q (a.set i (ac v)) p b) E p.s:=
 am Y.c2 λm L=>bb (QB q.EO.sc q.EO.c8 q.LO q.LI Y.inv L e f) (λj b P=>.of Y e P) λj j z=>z
theorem az0{E:ah->az->Prop}(Y:At q a p)(e:c.lay[i]?=ac (ac (x,h)))(f:VR p.ρ p.s.heap v g):aB (Mo q.u.D) A (storeName q.env x g) (λj b=>yl q (a.set i (ac v)) p b) E p.s:=
 am Y.c2 λm L=>bb (QA q.EO.sc q.EO.c8 q.LO q.LI Y.inv L e f) (λj b P=>.of Y e P) λj j z=>z
noncomputable def aE.g3(q:aE c)(e:H->Bool)(f:Nat)(g:List St):List V->av->H->X:=Mine.Internal.gP e λv i h=>q.b2 (i.set f (ac v)) g h
theorem MM{e:H->Bool}:q.g3 e f g (v::i) a h=if e h then nO (q.b2 (a.set f (ac v)) g h) (q.g3 e f g i)else ae:=rfl
theorem MN{e:H->Bool}:q.g3 e g h [] a f=if e f then ac (.next,a,f)else ae:=rfl
inductive so(q:aE c)(d:Pt)(f:V)(g:ah)(e:List V)(i:H->Bool)(j:Nat->Obj->Prop)(I:aj)(l:Nat)(m:List St)(o:X)(r:Nat):az->Prop
 |mk (k:Nat) (a:av) (p:Pt) (s:r=e.length-k) (h:q.g3 i l m (e.drop k) a p.σ=o) (G:cD q d p) (Y:At q a p) (t:yD p.s.heap I j k) (n:I∉p.ρ) (u:VR p.ρ p.s.heap f g):so q d f g e i j I l m o r p.s
theorem EF{f:H->Bool}{h:Nat->Obj->Prop}(Z:jT q)(hb:qo c z4 o)(z5:c.lay[s]?=ac (ac (xn,xb)))(J:l≠ae)
  (z6:yF q.u q.A t u e f h I) (L:yE h) (iI:d.s.heap.get? I=ae) (iB:q.u.D.base.get? I=ae) (z7:so q d t u e f h I s o l (e.length-0) b):
  jp (Mo q.u.D) q.A (.forLoop (.Name xn px) (.ref I) z4 [] q.env) (kG q d l) b:=by
 refine codeAny_forLoop (so q d t u e f h I s o l) (λz8 s1 z=>?_) _ z7 λU=>rfl
 induction z using so.casesOn with|mk k a p hf i z9 Y M w N=>
 have x:f p.σ=af:=by
  by_cases z:f p.σ=af
  ·exact z
  ·refine absurd ?_ J;rw[<-i]
   cases e.drop k with
   |nil=>exact MN.trans (if_neg z)|cons v r=>exact MM.trans (if_neg z)
 refine bb (z6 k p _ Y.inv N x M) (λr s1 z=>?_) λU U z=>z;refine cu z λP Q y z2=>?_;subst y;refine aP z2 λS g=>?_;refine ak M λA q1 q2=>fL (L k A q2) λz q4 q5=>am z λzh T=>?_;refine aP (Y.iter (d:=P) (x:=Q) q1 w iB q4 q5 (λU U z=>nomatch T.symm.trans z:∀es za,A.data≠.dict es za) (λU z=>nomatch T.symm.trans z:∀v,A.data≠.cell v) S) λC D=>?_;have E:cD q d (p.on {p.s with heap:=P,toks:=Q}):=cM.more z9 (λc z U zb zc=>S c zb (λzd=>z (zd▸iI)) zc) λzi z=>z.loose D
 cases j:e[k]? with
 |none=>
  rw[j]at g;have g:r=ae:=g;subst g;rw[bd0 (List.getElem?_eq_none_iff.mp j),MN,if_pos x]at i;subst i;exact FC C E
 |some v=>
  rw[j]at g;refine ak g λxv z0 y=>?_;subst z0;refine aP y λVx ze=>?_;have z3:k<e.length:=(List.getElem?_eq_some_iff.mp j).1;rw[bc9 z3,(List.getElem?_eq_some_iff.mp j).2,MM,if_pos x]at i;dsimp only;rw[SO];refine aD (rY (bb (yO C z5 (Vx.loose D)) (λU s2 B=>?_) λU U z=>z));refine ak ze λF w1 w2=>fL (L _ F w2) λz U w5=>am z λzj G=>?_;have oI:=am C.c2 λm zf=>Gm zf w1 (λU U z=>nomatch G.symm.trans z) λU z=>nomatch G.symm.trans z;have g2:=B.rest I F oI w1;refine FP Z (hb q Z _ (p.on s2)) B.at_ (E.trans B.st B.at_) i J λzg p3 h3 n Y3=>?_;have go:∃m,m<z8/\so q d t u e f h I s o l m p3.s:=al (e.length-(k+1)) (hf▸Nat.sub_lt_sub_left z3 (og k)) (.mk (k+1) zg p3 rfl h3 ((E.trans B.st B.at_).trans n Y3) Y3 (al F (cM.same n g2 w oI (λU U z=>nomatch G.symm.trans z) λU=>.inr w5) w2)
   (λz=>nomatch g2.symm.trans (cM.new n I z w)) (((N.loose D).loose B.loose).ups (p:=p.on s2) B.at_ n))
  exact go
end
end
section
theorem pc{c:Cx}{x:Str}:bL (iC (c.name x)) λi=>∃d,c.lay[i]?=ac (ac (x,d)):=λi h=>by
 cases q:c.name x with
 |none=>rw[q]at h;injection h
 |some y=>
  rw[q]at h;refine(OF y q).1.elim (λz=>?_) λz=>?_
  ·refine cu z λj d z e=>?_;subst z;exact ax h▸⟨d,e⟩
  ·refine ak z λv z f=>?_;subst z;injection h
section
variable{c:Cx}{q:aE c}{a:av}{p b:Pt}
theorem At.iterator(Y:At q a p)(d:o.isFreed=ag):yC q a p {p.s with heap:=p.s.heap.push o,toks:=e} p.s.heap.objs.size/\(p.s.heap.push o).get? p.s.heap.objs.size=ac o:=
 uH (Y.push (o:=o) (b:=e) d) λf g h n i=>⟨⟨f,g,n,i,lh⟩,h⟩
theorem yC.start{e:H->Bool}{f:Nat->Obj->Prop}(F:yC q a p d I)(h:q.g3 e i j g a p.σ=k)(G:cD q b p)(l:yD d.heap I f 0)(m:VR p.ρ d.heap n o):
  so q b n o g e f I i j k (g.length-0) d:=.mk 0 a (p.on d) rfl h (G.trans (cM.of F.st) F.at_) F.at_ l F.out m
theorem ah3{k:V->H->X}(n:Rq q a p (dF e q.env) VR o)(r:∀x,bk5 e q.env x=bx x)
  (s:∀f v d,Le p d->VR d.ρ d.s.heap f v->At q a d->k f d.σ≠ae->aB (Mo q.u.D) q.A (pyIter v) (λI t=>jp (Mo q.u.D) q.A (.forLoop u I w [] q.env) (kG q p (k f d.σ)) t) (ce q p (k f d.σ)) d.s):Sq q a p (exec (.For u e w [] A) q.env) (aO o a k):=λY m=>by
 refine wpAny_For (bb (n Y (B' m)) (λv h z=>z.U λf j l e g I y=>?_) λv h z=>z.U λi j l e g I x=>?_) r
 ·rw[e]at m⊢;exact s f v ⟨l,j,h⟩ ⟨g,Y.inv.Y⟩ y (Y.step g I) m
 ·rw[e];exact .mk i a ⟨l,j,h⟩ rfl x (.of ⟨g,Y.inv.Y⟩) (Y.step (i:=⟨l,j,h⟩) g I)
noncomputable def aE.un(q:aE c)(r:X):X:=if q.hd.isSome then ae else r
theorem Sq.un(h:q.hd=aw->Sq q a p t r):Sq q a p t (q.un r):=by
 unfold aE.un;by_cases d:q.hd.isSome=af
 ·rw[if_pos d];exact .none
 ·rw[if_neg d];exact h (Option.not_isSome_iff_eq_none.mp d)
theorem At.free(Y:At q a p)(h:q.hd=ae):q.A.handled=ae:=by have z:=Y.hd;rw[h]at z;exact z
noncomputable def AA(q:aE c)(a:av)(x:Nat)(e:List St)(i:Nat)(h:H):Option O->X
 |some (.dict d (ac m))=>q.g3 (mW i m (d.map (·.1))) x e (keysOf d) a h|_=>ae
noncomputable def ah0(q:aE c)(a:av)(x:Nat)(d:List St)(h:H):V->X
 |.tup e=>q.g3 (λf=>af) x d e a h|.obj i=>AA q a x d i h h[i]?|_=>ae
theorem aL6:q.d0 a (.f2 x e f) d=q.un (aO (q.ev a e d) a λv h=>ah0 q a x f h v):=by
 show(if q.hd.isSome then ae else aO (q.ev a e d) a _)=_;unfold aE.un;congr 2
set_option tactic.hygienic true in
theorem aY6{x:Str}{J L:Pos}{e:aY}{u:List fO}(M:oM e=ae)(N:fQ u):dP (.For (.Name x J) e u [] L):=λc=>.L (show _=MG c x e ae (fC c u)from M▸rfl)<|.bind pc λi P=>.d3 (gg e c) λz7 Q S=>.b6 (N c) λw B q Z a p=>am P λxb C=>
 .L rfl aL6<|.un λD=>ah3 (S q a p) (λv=>(my Q).fold q.env v) λT v l n o g h=>by
  induction T using V.casesOn<;>first|exact absurd rfl h|skip
  case tup vs=>
   refine jk (id o) λhl t z8 k y U=>?_;subst y;refine aP U λho hr=>?_;refine bl3 (wp _ ho rfl k rfl) ?_;refine aP (g.iterator (e:=l.s.toks) (o:={cls:=.type "tuple_iterator",data:=.fields #[.ref t,.int 0 0]}) rfl) λF z=>?_;exact EF Z B C h (aA1 (g.free D)) (aq9 t) (n.1.gone g.inv lh) F.new (F.start rfl (.of n) (br _ z rfl rfl) (o.step (.c0 kU) g.inv.Y))
  case obj j=>
   have h:AA q a i w j l.σ l.σ[j]?≠ae:=h;show aB _ _ _ (λz9 s2=>jp _ _ _ (kG q p (AA q a i w j l.σ l.σ[j]?)) s2) (ce q p (AA q a i w j l.σ l.σ[j]?)) _
   cases r:l.σ[j]? with
   |none=>rw[r]at h;exact absurd rfl h
   |some z2=>
    rw[r]at h
    induction z2 using O.casesOn<;>first|exact absurd rfl h|skip
    rename_i s m
    induction m using Option.casesOn<;>first|exact absurd rfl h|skip
    rename_i m;refine ak (eC o) λd E y=>?_;subst y;refine xF (g.inv.addr r) λd' A Y G I z3 z4 z5=>?_;have A:=ax (E.symm.trans A);subst A;have z6:=z5.1 m rfl;subst z6;refine wpAny_pyIter_dict (knd:=ot q.u.D.prog q.u.D.w) (tP g.inv r E) z3 ?_;refine aP (g.iterator (e:=l.s.toks) (o:={cls:=.type "dict_keyiterator",data:=.fields #[.ref d,.int 0 0,.int G.length 0,.int I 0]}) rfl) λF z=>?_;exact EF (e:=(s.map (·.1)).map .str) Z B C h (az8 (h:=s.map (·.1)) (g.free D)) (aq6 d (s.map (·.1)).length I) (n.1.gone g.inv lh) F.new (F.start (by rw[uR];rfl) (.of n) (br _ z rfl (by rw[(by rw[bH,<-bH (f:=(·.1)),z4.1,bH]:G.length=(s.map (·.1)).length)];rfl)) (o.step (.c0 kU) g.inv.Y))
end
end
section
theorem VY(h:(mY o==ac v)=af):o=ac (.a1 v):=EQ (beq_iff_eq.mp h)
section
variable{c:Cx}{q:aE c}{a:av}{p b:Pt}
theorem ML{k:V->H->X}(w:(mY (c.name g)==ac (.type T))=af)(A:cE c e=ac y)(B:sy c e y)
  (C:∀f v d,Le p d->VR d.ρ d.s.heap f v->At q a d->k f d.σ≠ae->aB (Mo q.u.D) q.A (eN (.type T) [v]) (λD E=>aB (Mo q.u.D) q.A (pyIter D) (λI F=>jp (Mo q.u.D) q.A (.forLoop G I J [] q.env) (kG q p (k f d.σ)) F) (ce q p (k f d.σ)) E) (ce q p (k f d.σ)) d.s):
  Sq q a p (exec (.For G (.Call (.Name g L) [e] [] M) J [] S) q.env) (aO (q.ev a y p.σ) a k):=λY r=>by
 refine wpAny_For ?_ λU=>rfl;rw[RN,(my A).star];refine aD (bb (An (x:=g) (h:=L) c _ (VY w) q a p Y λz=>nomatch z) (λv s z=>z.U λf N t e h I j=>?_) λv s z=>z.U λi N t e U U U=>nomatch e);injection e with P Q;subst P;subst Q;have j:v=.type T:=j;subst j;have l:=Y.step (i:=⟨t,p.σ,s⟩) h I;have u:Le p ⟨t,p.σ,s⟩:=⟨h,Y.inv.Y⟩
 show aB _ _ (uZ M (.type T) [] [(ag,dF _ q.env)] []) _ _ _;refine PySem.callWith_type rfl (bb5 (bb6 (bb (B q a _ l (B' r)) (λv m z=>z.U λf n o e h I j=>?_) λv m z=>z.U λi n o e h I x=>?_)))
 ·have e:q.ev a y p.σ=_:=e;rw[e]at r⊢;exact RQ (C f v ⟨o,n,m⟩ (u.trans ⟨h,l.inv.Y⟩) j (l.step h I) r)
 ·have e:q.ev a y p.σ=_:=e;rw[e];exact .mk i a ⟨o,n,m⟩ rfl x (.of (u.trans ⟨h,l.inv.Y⟩)) (l.step (i:=⟨o,n,m⟩) h I)
noncomputable def PP(q:aE c)(a:av)(x:Nat)(d:List St)(h:H):V->X
 |.a n=>if 0<=n&&n<1000 then q.g3 (λe=>af) x d ((ek n.toNat).map λ(k:Nat)=>V.a (k:Int)) a h else ae
 |_=>ae
theorem aL7:q.d0 a (.g1 x e f) d=q.un (aO (q.ev a e d) a λv h=>PP q a x f h v):=by
 show(if q.hd.isSome then ae else aO (q.ev a e d) a _)=_;unfold aE.un;congr 2
set_option tactic.hygienic true in
theorem aY7(n:fQ o):dP (.For (.Name x I) (.Call (.Name g J) [e] [] L) o [] M):=λc=>.E λr=>.bind pc λi s=>.d3 (gg e c) λy u w=>.b6 (n c) λP z q Z a p=>am s λQ A=>
 .L rfl aL7<|.un λB=>ML r u w λC v d k D h f=>by
  induction C using V.casesOn<;>first|exact absurd rfl f|skip
  rename_i N;unfold PP at f⊢;dsimp only at f⊢;by_cases j:(0<=N&&N<1000)=af
  ·rw[if_pos j]at f⊢;rw[dO,decide_eq_true_eq,decide_eq_true_eq]at j;refine am D λt E=>?_;subst E;refine call_range_1 (wpAny_pyIter_range (IsRange.new ..) (small_one (by decide) (by decide) (by lia) (by lia)) ?_);rw[(by rw[rangeSize_one];split<;>lia:Builtin.Range.rangeSize 0 N 1=(N.toNat:Int))];have l:At q a (d.on {d.s with heap:=d.s.heap.push {cls:=.type "range",data:=.fields #[.int 0 d.s.toks,.int N t,.int 1 (d.s.toks+1)]},toks:=d.s.toks+1+1}):=(h.push rfl).1;have m:=k.1.trans (h.push (o:={cls:=.type "range",data:=.fields #[.int 0 d.s.toks,.int N t,.int 1 (d.s.toks+1)]}) (b:=d.s.toks+1+1) rfl).2.1;refine aP (l.iterator (e:=d.s.toks+1+1) (o:={cls:=.type "range_iterator",data:=.fields #[kC 0,kC (N.toNat:Int),kC 1]}) rfl) λF G=>?_;exact EF Z z A f (aA0 (x:=.none) (N:=N.toNat) (h.free B)) (aq8 N.toNat) (m.gone l.inv lh) F.new (F.start rfl (.of ⟨m,k.2⟩) (al _ G (by unfold wu;simp)) rfl)
  ·rw[if_neg j]at f;exact absurd rfl f
end
end
section
noncomputable def kh(l:List (Nat×V))(a:av):av:=l.foldl (λe p=>e.set p.1 (ac p.2)) a
theorem GS:∀{d:List V} {a e:av},fY f d a=ac e->f.length=d.length/\e=kh (f.zip d) a:=by
 induction f with
 |nil=>intro d a e h;induction d using List.casesOn<;>first|exact⟨rfl,(ax h).symm⟩|injection h
 |cons i f g=>intro d a e h;induction d using List.casesOn<;>first|(injection h;done)|exact⟨congrArg (· +1) (g h).1,(g h).2⟩
theorem aT6:∀{d:List V} {a:av},e.length=d.length->fY e d a=ac (kh (e.zip d) a):=by
 induction e with
 |nil=>intro d a h;induction d using List.casesOn<;>first|rfl|injection h
 |cons i e f=>intro d a h;induction d using List.casesOn<;>first|(injection h;done)|exact f (pP h)
theorem aI7{l:List (Nat×V)}{d:Nat×V}(h:d.1∉l.map (·.1)):∀{a:av},kh l (a.set d.1 (ac d.2))=(kh l a).set d.1 (ac d.2):=by
 induction l with
 |nil=>intro a;rfl
 |cons e r f=>
  intro a;simp only[eU,iR,not_or]at h;show kh r ((a.set d.1 (ac d.2)).set e.1 (ac e.2))=(kh r (a.set e.1 (ac e.2))).set d.1 (ac d.2);rw[List.set_comm _ _ h.1,f h.2]
theorem aI5:kh (l++r) a=kh r (kh l a):=by
 unfold kh;rw[be1]
theorem aI6:(l.map (·.1)).Nodup->∀{a:av},kh l.reverse a=kh l a:=by
 induction l with
 |nil=>intro _ _;rfl
 |cons e r d=>
  intro h a;rw[eU,xN]at h;rw[xO,aI5,d h.2];exact(aI7 h.1).symm
theorem RI{e f:Type}{l:List e}:∀{r:List f},l.length=r.length->l.reverse.zip r.reverse=(l.zip r).reverse:=by
 induction l with
 |nil=>intro r h;induction r using List.casesOn<;>first|rfl|injection h
 |cons g l i=>
  intro r h
  cases r with
  |nil=>injection h|cons j r=>
   have d:=pP h;rw[xO,xO,bg0 (by rw[xM,xM];exact d),i d];show _=((g,j)::l.zip r).reverse;rw[xO];rfl
theorem aT8{d:List Nat}{f:List V}{a g:av}(i:d.Nodup)(h:fY d f a=ac g):fY d.reverse f.reverse a=ac g:=by
 have e:=(GS h).1;rw[aT6 (by rw[xM,xM];exact e),RI e,aI6 (by rw[Cw (fN e)];exact i),<-(GS h).2]
section
variable{c:Cx}{q:aE c}{a:av}{p:Pt}{b:az}
theorem aI.ups(e:aI p.ρ p.s.heap f v)(Y:At q a p)(G:cD q p d):aI d.ρ d.s.heap f v:=am Y.c2 λm L=>aI.mv (cM.mv G Y.inv.Y L) e
def Dk(q:aE c)(d:av)(p:Pt)(b:az):Prop:=At q d (p.on b)/\cD q p (p.on b)
def kI(q:aE c)(i:Nat)(t:ah->Sem Unit):Prop:=∀(a:av) (p:Pt) (v:V) (d:ah) (E:ah->az->Prop),At q a p->VR p.ρ p.s.heap v d->aB (Mo q.u.D) q.A (t d) (λe b=>Dk q (a.set i (ac v)) p b) E p.s
theorem IT.cons{t:ah->Sem Unit}{d:List (ah->Sem Unit)}(h:∀p∈(i::e).zip (t::d),kI q p.1 p.2):kI q i t/\∀p∈e.zip d,kI q p.1 p.2:=⟨h (i,t) (.head _),λp f=>h p (.tail _ f)⟩
theorem Gk{E:ah->az->Prop}:∀{d:List (ah->Sem Unit)} {e:List V} {g:List ah} {a h:av} {p:Pt},j.length=d.length->(∀p∈j.zip d,kI q p.1 p.2)->At q a p->aI p.ρ p.s.heap e g->fY j e a=ac h->
  aB (Mo q.u.D) q.A (assignInOrder d g) (λA b=>Dk q h p b) E p.s:=by
 induction j with
 |nil=>
  intro d e g a h p k l Y n f
  induction d using List.casesOn<;>first|(injection k;done)|skip
  induction e using List.casesOn<;>first|(injection f;done)|skip
  exact bz ⟨ax f▸Y,.b5 p⟩
 |cons i j s=>
  intro d e g a h p k l Y n f
  induction d using List.casesOn<;>first|(injection k;done)|skip
  induction e using List.casesOn<;>first|(injection f;done)|skip
  refine cu n λx r t u=>?_;subst t;refine aP u λv w=>?_;refine aD (gc (bb ((IT.cons l).1 a p _ x E Y v) (λA o M=>?_) λA A z=>z));exact bb (s (p:=p.on o) (pP k) (IT.cons l).2 M.1 (aI.ups (d:=p.on o) w Y M.2) f) (λA y m=>⟨m.1,M.2.trans m.2 m.1⟩) λA A z=>z
theorem QJ(d:c.lay[i]?=ac (ac (x,f))):kI q i (oo q.env x):=λa p v g E Y e=>bb (yO Y d e) (λh h B=>⟨B.at_,B.st⟩) λh h z=>z
theorem Hi(d:c.lay[i]?=ac (ac (x,g))):kI q i (pT (.Name x h) q.env):=λa p v e E Y f=>by
 rw[SO];exact aD (rY (QJ d a p v e E Y f))
noncomputable def nu(e:aY):Str:=(iF e).getD ⟨#[]⟩
structure IS(c:Cx)(d:List aY)(f:List Nat):Prop where
 len:f.length=d.length
 tg:∀(q:aE c),∀p∈f.zip ((rW d q.env).map (·.2)),kI q p.1 p.2
 bn:∀(q:aE c),∀p∈f.zip ((d.map nu).map λx=>oo q.env x),kI q p.1 p.2
 U:∀g,(rW d g).length=d.length
 pl:∀g,∀p∈rW d g,p.1=ag
 nm:∀e∈d,∃x p,e=.Name x p
theorem aW8:bL (ur c l) (IS c l):=by
 induction l with
 |nil=>exact .is ⟨rfl,λv v h=>(nomatch h),λv v h=>(nomatch h),λv=>rfl,λv v h=>(nomatch h),λv h=>(nomatch h)⟩|cons e r n=>
  have f:bL (ur c (e::r)) _:=show bL (match iF e with|some x=>do return(<-iC (c.name x))::(<-ur c r)|none=>ae) (IS c (e::r)) by
   cases o:iF e with
   |none=>exact .S|some x=>
    refine am (tM o) λk z=>?_;subst z;refine .e6 pc n λi t j S=>am j λu j=>?_;have m:∀d,rW (.Name x k::r) d=(ag,pT (.Name x k) d)::rW r d:=λv=>rfl;refine⟨congrArg (· +1) S.len,λq y g=>?_,λq y g=>?_,λd=>congrArg (· +1) (S.U d),λd y g=>?_,λe s=>(List.mem_cons.mp s).elim (λz=>fq x k z) (S.nm e)⟩
    ·rw[m]at g;exact(List.mem_cons.mp g).elim (λz=>z▸Hi j) (S.tg q y)
    ·exact(List.mem_cons.mp g).elim (λz=>z▸QJ j) (S.bn q y)
    ·rw[m]at g;exact(List.mem_cons.mp g).elim (λz=>by rw[z]) (S.pl d y)
  exact f
end
theorem wx{d:Type}{c:Prop}[Decidable c]{e f:d}{P:d->Prop}(g:c->P e)(i:¬c->P f):P (if c then e else f):=by
 by_cases h:c
 ·rw[if_pos h];exact g h
 ·rw[if_neg h];exact i h
theorem az3{i j:Type}{f:i->Option j}{g:i->j}(k:∀e d,f e=ac d->g e=d){l:List i}:(l.filterMap f).length=l.length->l.filterMap f=l.map g:=by
 induction l with
 |nil=>intro _;rfl
 |cons e r m=>
  intro h
  cases q:f e with
  |none=>
   rw[List.filterMap_cons_none q]at h;have:=List.length_filterMap_le f r;rw[h]at this;exact absurd this (Nat.not_succ_le_self _)
  |some d=>
   rw[List.filterMap_cons_some q]at h⊢;rw[m (pP h),eU,k e d q]
set_option tactic.hygienic true in
theorem a33{f:Env}{d:List aY}{k:Nat}{g:Pos}{v:aY}(j:BW v=af):yi [.Tuple d k g] v f=bx ae\/yi [.Tuple d k g] v f=bx (ac (d.map nu)):=by
 induction v using Expr.casesOn<;>first|exact .inl rfl|skip
 rename_i l _ _;refine wx (P:=λt=>t=bx ae\/t=bx (ac (d.map nu))) (λn=>.inl rfl) λn=>wx (P:=λt=>t=bx ae\/t=bx (ac (d.map nu))) (λn=>.inl rfl) λn=>wx (P:=λt=>t=bx ae\/t=bx (ac (d.map nu))) (λn=>.inl rfl) λi=>wx (P:=λt=>t=bx ae\/t=bx (ac (d.map nu))) (λn=>.inl rfl) λn=>wx (P:=λt=>t=bx ae\/t=bx (ac (d.map nu))) (λz=>?_) λn=>.inr ?_
 ·rw[((xG _).mp j:l.all (constantsAlone 8)=ag)]at z;injection z
 ·rw[lC,not_or,bne_iff_ne,ne_eq,Decidable.not_not]at i;refine congrArg (λx=>(bx (ac x):Sem (Option (List Str)))) (az3 (g:=nu) (λe m h=>?_) i.1)
  induction e using Expr.casesOn<;>first|(injection h;done)|skip
  exact md (o:=ae) h (λn e=>e) λn h=>nomatch h
end
section
theorem Zt:entryFor table "proto.unchain"=ac Builtin.«proto.unchain»:=entryFor_of_fast (by kernel_rfl)
def vD(A:cB)(h:aS):Prop:=A.handled=ae\/∃a b d,A.handled=ac (.ref a)/\h.get? a=ac b/\b.data=.fields d/\d[2]?=ac .none
section
variable{c:pR}{w:gx}{A:cB}{E:ah->az->Prop}{s:az}
theorem PM{n:Type}{Q:n->az->Prop}(j:s.heap.get? e=ac a)(f:a.data=.fields g)(p:2<g.size)(r:vD A s.heap)(t:A.handled≠ac (.ref e))
  (h:∀l,(∀b,b≠e->l.get? b=s.heap.get? b)->(∃o m,l.get? e=ac o/\o={a with data:=.fields m}/\m.size=g.size/\(∀i,i≠2->m[i]?=g[i]?))->E (.ref e) {s with heap:=l}):
  aB (gZ c w) A (CT (.ref e):Sem n) Q E s:=by
 have u:a={a with data:=.fields g}:=by obtain⟨v,d,x,y⟩:=a;simp only at f;subst f;rfl
 unfold CT;refine aD (Tt ?_);rcases r with q|⟨k,I,J,q,B,C,D⟩
 ·rw[q];exact aD (bz (Db (h s.heap (λL L=>rfl) (dp a g j u rfl (λL L=>rfl)))))
 ·rw[q];dsimp only;rw[if_pos (show(lE k !=lE e)=af by simpa using(λz=>t (by rw[q,z]):k≠e))];refine aD (gc (wpAny_runValue (bk4 Zt ?_)));unfold Builtin.«proto.unchain»;dsimp only;refine aD (mM B C D ?_);rw[if_pos (by decide)];refine aD (bz (bz ?_));unfold updateField;refine aD (aD (wpAny_load j ?_));rw[f];dsimp only;rw[if_pos p];refine wpAny_update j ?_;refine Db (h _ (λb F=>Cj _ _ (ik F)) (dp (a.mapFields (·.setIfInBounds 2 (.ref k))) (g.setIfInBounds 2 (.ref k)) ?_ ?_ (by simp) (λi G=>by rw[Cg (ik G)])))
  ·exact pC _ j (SB (CE f _))
  ·obtain⟨v,d,x,y⟩:=a;simp only at f;subst f;rfl
theorem aA2{Q:Option ah->az->Prop}(J:vD A s.heap)
  (o:s.heap.IsTupleIter d t i) (L:s.heap.IsTuple t M) (N:M[i]?=ae)
  (P:∀p,RX d s.heap p->Q ae {s with heap:=p}):aB (gZ c w) A (pyNext (.ref d)) Q E s:=by
 have B:vD A.in1 s.heap:=J;refine bP (id o) λz1 l hc n=>?_;obtain⟨ol,S,_,nl,U⟩:=L;unfold pyNext;refine aD (wpAny_attempt (wpAny_callSpecial?_slot (name:=Str.ofString "__next__") o.typeIs bc0
  (wpAny_call_entry bc0 o.typeIs F.entry_tuple_iterator_next ?_ (F.args_tuple_iterator_next_1 _))))
 show aB _ _ (field (.ref d) 0>>=_) _ _ s;refine aD (mM l n (x:=.ref t) rfl ?_);show aB _ _ (if(lE t==uY)=af then _ else _) _ _ s;rw[if_neg (show¬((lE t==uY)=af)from uM)];show aB _ _ (field (.ref d) 1>>=_) _ _ s;refine aD (mM l n (x:=.int i 0) rfl ?_);show aB _ _ (It (.ref t)>>=_) _ _ s;refine aD (wpAny_seqItems S U ?_);simp only[pD,N];refine aD (Tv (aD (Da l n (by simp) ?_)));show aB _ _ (newExc (.type "StopIteration") []>>=_) _ _ _;refine aD ?_;simp only[newExc,newTuple];refine aD (yk ?_ (by size_fits));refine aD (m:=firstArgMember _ _) (wpAny_of_eq (a:=uY) (by first|rfl|(simp only[firstArgMember];rfl)) ?_);refine yk ?_ (by size_fits);have C:∀(f:Obj->Obj) (D G:Obj),RX d s.heap (((s.heap.update d f).push D).push G):=λf D G=>((Hz ..).extBut.push _).push _;refine PM (mH _ rfl) rfl (by simp only[Array.size_append];exact fu (by decide:2<6) (dm _ _)) ?_ ?_ λp Y ⟨z2,z3,Z,z0,_,_⟩=>?_
 ·rcases B with q|⟨j,r,I,q,g,h,u⟩
  ·exact .inl q
  ·by_cases z:j=d
   ·subst z;rw[l]at g;(injection g with g;subst g);rw[n]at h;(injection h with h;subst h);simp at u
   ·exact .inr (fG j r I q (C _ _ _ j r z g) h u)
 ·intro z;rcases B with q|⟨j,r,I,q,g,h,u⟩
  ·rw[q]at z;injection z
  ·rw[q]at z;have k:=fj g;have v:j=((s.heap.update d (gw (·.setIfInBounds 0 .none))).push {cls:=.type "tuple",data:=.seq ([]:List ah).toArray}).objs.size:=by
    simpa using z
   rw[v,HB,bc2]at k;exact absurd k (Nat.not_lt.mpr (nY _))
 ·refine aD (wpAny_isInstance (T:="StopIteration") (b:=af) (al _ Z (by rw[z0])) isSubtype_stop ?_);refine bz (P _ λy ob hb e=>(Y y (λz=>?_)).trans (C _ _ _ y ob hb e));have k:=fj e;have v:y=((s.heap.update d (gw (·.setIfInBounds 0 .none))).push {cls:=.type "tuple",data:=.seq ([]:List ah).toArray}).objs.size:=z;rw[v,HB,bc2]at k;exact absurd k (Nat.not_lt.mpr (nY _))
theorem a85{Q:List ah->az->Prop}(m:vD A s.heap)(d:s.heap.IsTuple t a)
  (n:∀g,RX s.heap.objs.size s.heap g->Q a.toList {s with heap:=g}):aB (gZ c w) A (Ts (.ref t) a.size ae) Q E s:=by
 have h:t≠s.heap.objs.size:=by refine ak d λo p D=>?_;exact pO (fj p)
 unfold Ts;refine aD ?_;unfold notIterableAtAll;refine aD (wpAny_specialOf d.typeIs F.slot_tuple_iter.lookup ?_);refine bz ?_;simp only[RO,if_false];refine aD (gc (bl3 d ?_));refine aD (gc (wpAny_draw_tuple h a.size 0 _ _ (br _ (mH _ rfl) rfl rfl) (d.push _) (by lia) λr u f=>?_));have v:Sr a.size (Sa 0 a.toList)=a.toList:=by
  rw[uQ];exact xP (by simp)
 rw[v];rw[if_neg (by simp)];refine aD (gc (aA2 ?_ u ((d.push _).extBut f.extBut h:r.IsTuple t a) (by simp) λx y=>?_))
 ·rcases m with q|⟨i,j,z,q,k,B,C⟩
  ·exact .inl q
  ·exact .inr (fG i j z q (f.extBut i j (pO (fj k)) (ie _ k)) B C)
 ·simp only[Option.isSome_none,RO,if_false];exact bz (n x λb o l e=>y b o l (f.extBut b o l (ie _ e)))
end
end
section
theorem FZ(h:nw v=ag):CX v t l b=bx ag:=by
 induction v using Expr.casesOn<;>first|rfl|injection h
theorem az1(h:nw v=ag):yi [.Name x b] v d=bx ae:=by induction v using Expr.casesOn<;>rfl
theorem eV.but{m:Str->Option ah}(L:eV D u g w a h m)(A:eQ D M w h k)
  (F:∀o,h.get? g.locals=ac o->k.get? g.locals=ac o) (B:∀(i:Nat) x,u[i]?=ac (ac (x,af))->∀l o,g.cells.lookup x=ac l->h.get? l=ac o->k.get? l=ac o):eV D u g w a k m:=by
 refine⟨L.out,L.new,L.ns.at F,L.len,λi v G y b C=>?_,λj y E=>?_,L.apart⟩
 ·have z:=L.slot i v G y b C
  cases b with
  |false=>exact ak z λn d e=>al n d (e.loose A)|true=>exact ch z λf n d r s I=>ak r λo e t=>dp f n d (al o (B i y C f o d e) t) s (I.loose A)
 ·exact bE (L.cells j y E) λf J d r s=>ak r λo e t=>bw f J d (al o (B j y E f o d e) t) s
theorem yJ(h:(d&&b)=af):d=af/\b=af:=by induction d using Bool.casesOn<;>first|exact⟨rfl,h⟩|exact nomatch h
section
variable{c:Cx}{q:aE c}{a:av}{p:Pt}
theorem At.o2(Y:At q a p)(g:p.s.heap.get? L=ae):iu c q.env L:=am Y.c2 λm b=>
 ⟨λz=>gY b.ns λo l l d l=>(nomatch(z▸g).symm.trans d),λi x e z=>bE (b.cells i x e) λf l h j l=>ak j λo k l=>by have w:L=f:=ax (z.symm.trans h);subst w;exact nomatch g.symm.trans k⟩
theorem Jw(d:c.lay[i]?=ac (ac (x,b)))(e:VR p.ρ p.s.heap v f):Sq q a p (oo q.env x f>>=λh=>bx uN) (ac (.next,a.set i (ac v),p.σ)):=λY h=>
 aD (bb (yO Y d e) (λh g M=>bz (.mk .next _ (p.on g) rfl rfl M.st M.at_)) λh h z=>z)
theorem Wl(e:c.lay[i]?=ac (ac (x,b)))(f:VR p.ρ p.s.heap v d):Sq q a p (pT (.Name x g) q.env d>>=λh=>bx uN) (ac (.next,a.set i (ac v),p.σ)):=
 .l (bind_assoc (fP g) (λh=>oo q.env x d) λh=>bx uN)<|.a0<|Jw e f
theorem PL:q.d0 a (.q i y) b=aO (q.ev a y b) a λv h=>ac (.next,a.set i (ac v),h):=rfl
theorem bF.o3{k:V->H->X}(z:bF h q.u.D q.u.envs p.ρ p.s.heap v b)(Y:At q a p):ce q p (aO h a k) v b:=z.U λi d f e g I x=>by
 rw[e];exact .mk i a ⟨f,d,b⟩ rfl x (.of ⟨g,Y.inv.Y⟩) (Y.step (i:=⟨f,d,b⟩) g I)
theorem Vp(d:nw v=ag)(g:c.lay[i]?=ac (ac (x,b)))(h:sy c v y):Dq c (.Assign [.Name x e] v f) (.q i y):=λq Z a p=>by
 refine .L (HZ ..) PL<|.a0<|.l (congrArg (· >>=_) (FZ (t:=ac (.Name x e)) (l:=f.line) d:Iz [.Name x e] v f.line q.env=bx ag))<|.go ?_
 exact .ev (h q a p) λk l m n j=>.l (congrArg (· >>=_) (az1 d))<|.go<|Wl g j
theorem Vo(M:c.sc.kind=.function)(N:c.sc.names.lookup x=ac .local)(P:(f.line==g.line)=af)(j:(l.names.any λ(n,k)=>n==x&&(k==.local||k==.cell))=ag)
  (Q:c.lay[i]?=ac (ac (x,z1))):bL (cE c (.ListComp t [⟨.Name E F,u,[],0⟩] l g)) λy=>Dq c (.Assign [.Name x f] (.ListComp t [⟨.Name E F,u,[],0⟩] l g) S) (.q i y):=(Lu (gg t) (gg u)).of λy h q z2 a p=>by
 have T:Iz [.Name x f] (.ListComp t [⟨.Name E F,u,[],0⟩] l g) S.line q.env=bx af:=by
  show(bx (q.env.blockKind==.function&&q.env.kindOf x==ac .local&&f.line==g.line&&!(l.names.any λ(n,k)=>n==x&&(k==.local||k==.cell))):Sem Bool)=bx af;unfold Env.blockKind Ch;rw[q.EO.sc,M,N,P,j];rfl
 refine .L (HZ ..) PL<|.a0<|.l (congrArg (· >>=_) T)<|.go λY U=>aD (aD (h q a p Y (B' U) (λe s' z=>z.o3 Y) λd G v L w C=>?_))
 have r:=Y.o2 C.gone;refine aD (m:=fP f) (rY (bb (yO (Y.step C.st C.inv) Q (show VR v.ρ v.s.heap (.obj d) (.ref G)from al G C.at_ rfl)) (λZ s B=>?_) λZ Z z=>z));refine am C.ns λI j=>al I (j.at λo e=>B.rest L o r e) (λA J=>bz (bz ?_));have D:=C.lo (j.at λo e=>B.rest L o r e:s.heap.Ns L I) J;have k:∀b o,b≠L->s.heap.get? b=ac o->A.get? b=ac o:=λb o n e=>(J.2 b n).trans e;rw[w];exact .mk .next _ (v.on {s with heap:=A}) rfl rfl (((cD.of ⟨C.st,Y.inv.Y⟩).trans B.st B.at_).more (λb z0 oa o e=>k b o (λz=>z0 (z▸C.gone)) e) λz3 z=>z.loose D)
  ⟨B.at_.inv.loose (f:={s with heap:=A}) D rfl rfl rfl,B.at_.hd,am B.at_.c2 λm2 L2=>⟨m2,L2.but D (λo e=>k _ o (ik r.1) e) λi x h b o w e=>k b o (λz=>r.2 i x h (z▸w)) e⟩⟩
theorem a34(h:Hc c x g v=af):nw v=ag\/∃i j b d,v=.ListComp i j b d/\c.sc.kind=.function/\c.sc.names.lookup x=ac .local/\(g.line==d.line)=af/\(b.names.any λ(n,k)=>n==x&&(k==.local||k==.cell))=ag:=by
 induction v using Expr.casesOn<;>first|exact .inl rfl|(injection h;done)|skip
 have h:=yJ h;have e:=yJ h.1;have f:=yJ e.1;exact .inr (al4 _ _ _ _ rfl (cW f.1) (cW f.2) e.2 ((xG _).mp h.2))
theorem Xc:cS c (.Assign [.Name x b] v d)=if Hc c x b v then do return .q (<-iC (c.name x)) (<-cE c v)else ae:=rfl
theorem aX8:dP (.Assign [.Name x n] v o):=λc=>.L Xc<|.E λe=>.bind pc λi d=>am d λb d=>by
 refine uW (a34 e) (λf=>.b6 (gg v c) λy g=>Vp f d g) λz=>?_;refine eH z λr s z=>eH z λt u z=>uH z λz j k l m=>?_;subst z;refine uW Lw (λz=>?_) λz=>.L (congrArg (· >>=_) (z c)) .S;refine mF z λw A B z=>?_;subst z;exact .b6 (Vo j k l m d) λC h=>h
end
end
section
theorem aI.o4:∀{d:List ah},aI g i e d->aI g i e.reverse d.reverse:=by
 induction e with
 |nil=>intro d h;have h:d=[]:=h;subst h;rfl
 |cons l e j=>
  intro d h;refine cu h λv r k f=>?_;subst k;rw[xO,xO];exact(j f.2).append (bw v [] rfl f.1 rfl)
theorem mD{e:Type}{r:R e}{i:av}{f g:e->H->X}(h:∀d h,f d h=g d h):aO r i f=aO r i g:=by
 rw[show f=g from funext λd=>funext (h d)]
theorem Ot{d e:Type}{o:Option d}{f:d->e}(h:o.map f≠ae):∃x,o=ac x:=by
 cases o with
 |none=>exact absurd rfl h|some x=>exact⟨x,rfl⟩
theorem a74(h:BW v=af):nw v=ag:=by induction v using Expr.casesOn<;>first|rfl|injection h
section
variable{c:Cx}{q:aE c}{a:av}{p:Pt}{r:X}{b:H}
theorem Sq.as{d e:Type}{m:Sem d}{f:d->Sem e}{g:e->Sem kr}(h:Sq q a p (m>>=λi=>f i>>=g) r):Sq q a p ((m>>=f)>>=g) r:=bind_assoc m f g▸h
theorem Sq.free{f:Unit->Sem kr}(h:Sq q a p (f ()) r):Sq q a p (Ir e g>>=f) r:=λY d=>aD (wpAny_release' (h Y d))
theorem Sq.k2{d:Type}{m:Sem d}{g:d}{f:d->Sem kr}(e:m=uX g)(h:Sq q a p (f g) r):Sq q a p (m>>=f) r:=e▸.go h
theorem Sq.m0{t v:aY}{d:Pos}(e:CX v (ac t) d.line q.env=uX ag)(f:yi [t] v q.env=uX aw)(g:(rW [t] q.env).map (·.2)=[pT t q.env])(h:Sq q a p (dF v q.env>>=λi=>pT t q.env i>>=λj=>uX uN) r):Sq q a p (exec (.Assign [t] v d) q.env) r:=by
 refine .l (HZ ..)<|.a0<|.k2 (m:=Iz [t] v d.line q.env) e ?_
 rw[f,g];exact h
set_option tactic.hygienic true in
theorem At.o5(Y:At q a p)(h:dQ q.hd p.σ=af):vD q.A p.s.heap:=by
 have w:=Y.hd;unfold mP at w
 cases f:q.hd with
 |none=>rw[f]at w;exact .inl w
 |some j=>
  rw[f]at w h;refine ak w λg i k=>?_;have h:(match p.σ[j]? with|some (.exc _ _ ag)=>af|_=>ag)=af:=h
  cases e:p.σ[j]? with
  |none=>rw[e]at h;injection h
  |some o=>
   rw[e]at h
   induction o using O.casesOn<;>first|(injection h;done)|skip
   rename_i C d x
   induction x using Bool.casesOn<;>first|(injection h;done)|skip
   refine we Y.inv e i λt l m u z=>ak z λv n s=>?_;exact .inr (fG g _ l k m rfl (n.trans (congrArg _ (s rfl))))
theorem a31:CX v (ac (.Attribute o d e)) l f=bx ag:=by induction v using Expr.casesOn<;>rfl
theorem a32:CX v (ac (.Subscript o i d)) l e=bx ag:=by induction v using Expr.casesOn<;>rfl
theorem aZ9:yi [.Attribute o d e] v f=bx ae:=by induction v using Expr.casesOn<;>rfl
theorem a02:yi [.Subscript o i d] v e=bx ae:=by induction v using Expr.casesOn<;>rfl
noncomputable def tj(a:av):Unit->H->X:=λd h=>ac (.next,a,h)
theorem Qe:(o.map λh=>((.next,a,h):Fl×av×H))=aO (lu o) a (tj a):=by induction o using Option.casesOn<;>rfl
theorem aM0{o e:Ex}{n:List Nat}:q.d0 a (.Z o n e) b=aO (q.ev a e b) a λv h=>aO (q.ev a o h) a λd h=>aO (lu (dN q.P h d n v)) a (tj a):=
 mD λf f=>mD λf f=>Qe
theorem Rq.set(e:VR p.ρ p.s.heap f g)(h:VR p.ρ p.s.heap w j):Rq q a p (CU g k j) RU (lu (dN q.P p.σ f (eW k) w)):=λY m=>by
 have d:=aD9 (A:=q.A) q.T Y.inv e h m;rw[xx]at d;exact d
theorem Sq.k3:Sq q a p (uX uN) (tj a () p.σ):=.c1 (n:=.next) rfl
theorem Xi:cS c (.Assign [.Attribute o d e] v f)=if nx o then ae else do return .Z (<-cE c o) (eW d) (<-cE c v):=rfl
theorem aZ2{o v:aY}{d:Str}{e f:Pos}:dP (.Assign [.Attribute o d e] v f):=λc=>.L Xi<|
 .f4 λz=>.e6 (gg o c) (gg v c) λx y g h q Z a p=>.L rfl aM0<|.m0 a31 aZ9 rfl<|.ev (h q a p) λw m i z j=>.l (congrArg (· >>=_) (arm_assign_Attribute ..))<|.as<|
  .ev (.b1 (g q a i)) λn s t k l=>.as<|.a0<|.as<|.ev (.b1 (.set l (j.up k))) λz z u z z=>.free .k3
noncomputable def GB(h:H)(v f k:V):R Unit:=match f,k with
 |.obj d,.str k=>match h[d]? with
  |some (.dict e m)=>if e.length<cN then .ok () (h.set d (.dict (cL e k v) aw))else .i
  |_=>.i
 |_,_=>.i
set_option tactic.hygienic true in
theorem aM1{o i e:Ex}:q.d0 a (.e4 o i e) b=aO (q.ev a e b) a λv h=>aO (q.ev a o h) a λj h=>aO (q.ev a i h) a λk h=>aO (GB h v j k) a (tj a):=
 mD λv l=>mD λj l=>mD λk h=>by
  induction j using V.casesOn<;>first|rfl|skip
  induction k using V.casesOn<;>first|rfl|skip
  rename_i f k;show(match h[f]? with|some (.dict d m)=>(if d.length<cN then ac (Fl.next,a,h.set f (.dict (cL d k v) aw))else aw)|_=>aw)=aO (match h[f]? with|some (.dict d m)=>if d.length<cN then .ok () (h.set f (.dict (cL d k v) aw))else .i|_=>.i) a (tj a)
  cases h[f]? with
  |none=>rfl|some o=>
   induction o using O.casesOn<;>first|rfl|skip
   rename_i d m;by_cases g:d.length<cN
   ·show ite _ _ _=aO (ite _ _ _) _ _;rw[if_pos g,if_pos g];rfl
   ·show ite _ _ _=aO (ite _ _ _) _ _;rw[if_neg g,if_neg g];rfl
set_option tactic.hygienic true in
theorem Rq.put(s:VR p.ρ p.s.heap v t)(u:VR p.ρ p.s.heap n w)(x:VR p.ρ p.s.heap k y):Rq q a p (setItem w y t) RU (GB p.σ v n k):=λY d=>by
 induction n using V.casesOn<;>first|exact absurd rfl d|skip
 induction k using V.casesOn<;>first|exact absurd rfl d|skip
 rename_i f k;have e:GB p.σ v (.obj f) (.str k)=match p.σ[f]? with|some (.dict h m)=>(if h.length<cN then .ok () (p.σ.set f (.dict (cL h k v) aw))else .i)|_=>.i:=rfl
 rw[e]at d⊢
 cases g:p.σ[f]? with
 |none=>rw[g]at d;exact absurd rfl d
 |some o=>
  rw[g]at d
  induction o using O.casesOn<;>first|exact absurd rfl d|skip
  rename_i h m;by_cases j:h.length<cN
  ·show aB _ _ _ (bo RU (ite _ _ _) _ _ _ _) (bF (ite _ _ _) _ _ _ _) _;rw[if_pos j];exact aE0 Y.inv g j u x s
  ·exact absurd (if_neg j) d
theorem Xj:cS c (.Assign [.Subscript o i d] v e)=do return .e4 (<-cE c o) (<-cE c i) (<-cE c v):=rfl
theorem aZ3{o i v:aY}{e f:Pos}:dP (.Assign [.Subscript o i e] v f):=λc=>.L Xj<|.i2 (gg o c) (gg i c) (gg v c) λx z y g h j q Z a p=>
 .L rfl aM1<|.m0 a32 a02 rfl<|.ev (j q a p) λw A l G m=>.l (congrArg (· >>=_) (arm_assign_Subscript ..))<|.as<|
  .ev (.b1 (g q a l)) λB C n s t=>.as<|.ev (.b1 (h q a n)) λk D E d u=>.as<|.a0<|.as<|.ev (.b1 (.put ((m.up s).up d) (t.up d) u)) λG G F G G=>.free .k3
theorem aB7(h:d.scope.kind=.function):interactive d=ag:=by unfold interactive;rw[h];rfl
theorem Sq.drop:Sq q a p (dropValue e d v) (ac (.next,a,p.σ)):=λY f=>wpAny_dropValue (.mk .next a p rfl rfl (.b5 p) Y)
theorem Xg:cS c (.Expr v d)=if nw v then ae else do return .d7 (<-cE c v):=rfl
theorem aL4:q.d0 a (.d7 y) b=aO (q.ev a y b) a λd h=>ac (.next,a,h):=rfl
theorem aY4{v:aY}{d:Pos}:dP (.Expr v d):=λc=>.L Xg<|.f4 λe=>.b6 (gg v c) λy f q Z a p=>by
 refine .L (arm_exec_Expr ..) aL4<|.a0 ?_
 rw[aB7 ((congrArg _ q.EO.sc).trans q.EO.c8)];exact .k2 (m:=CX v ae d.line q.env) (FZ (Bool.eq_false_iff.mpr e))<|.ev (f q a p) λg h i j j=>.drop
end
end
section
section
variable{c:Cx}{q:aE c}{a:av}{p:Pt}{r:X}{b:H}
noncomputable def a72(d:Option Nat)(e:List Nat)(a:av):V->H->X
 |.tup f,h=>if dQ d h then(fY e f a).map λg=>(.next,g,h)else ae
 |_,_=>ae
theorem aL1:q.d0 a (.a8 d y) b=aO (q.ev a y b) a (a72 q.hd d a):=mD λv e=>by induction v using V.casesOn<;>rfl
theorem QW{Q:List ah->az->Prop}{E:ah->az->Prop}(Y:At q a p)(l:dQ q.hd p.σ=af)(m:p.s.heap.IsTuple t f)(n:aI p.ρ p.s.heap s f.toList)(u:k=f.size)
  (v:∀d,At q a d->cD q p d->d.σ=p.σ->aI d.ρ d.s.heap s f.toList->Q f.toList d.s):aB (Mo q.u.D) q.A (Ts (.ref t) k ae) Q E p.s:=by
 subst u;refine a85 (Y.o5 l) m λg w=>?_;have j:∀h o,p.s.heap.get? h=ac o->g.get? h=ac o:=λh o e=>w h o (pO (fj e)) e;have i:bq p.ρ p.s.heap p.ρ g:=.c0 j;exact v (p.on {p.s with heap:=g}) (Y.step (i:=p.on {p.s with heap:=g}) i (Y.inv.keeps j rfl rfl rfl)) (cM.of i) rfl (n.step i Y.inv.Y)
theorem UW{d:List (ah->Sem Unit)}{E:ah->az->Prop}(g:e.length=d.length)(h:∀x∈e.zip d,kI q x.1 x.2)(Y:At q a p)(i:aI p.ρ p.s.heap j k)(l:fY e j a=ac f)(G:cD q m p)(n:p.σ=b):
  aB (Mo q.u.D) q.A (assignInOrder d k>>=λs=>bx uN) (dB q m (ac (.next,f,b))) E p.s:=
 aD (bb (Gk g h Y i l) (λs o M=>bz (.mk .next f (p.on o) (n▸rfl) rfl (G.trans M.2 M.1) M.1)) λs s z=>z)
theorem Xd:cS c (.Assign [.Tuple e k f] v g)=if BW v then(do let d <-ur c e;if d.Nodup then do return .a8 d (<-cE c v)else ae)else ae:=rfl
set_option tactic.hygienic true in
theorem aX9:dP (.Assign [.Tuple d k i] v A):=λc=>.L Xd<|.E λB=>.bind aW8 λm S=>.E λG=>.b6 (gg v c) λz3 I q z4 a p=>by
 refine .L (HZ ..) aL1<|.a0<|.k2 (m:=Iz [.Tuple d k i] v A.line q.env) (FZ (t:=ac (.Tuple d k i)) (l:=A.line) (b:=q.env) (a74 B)) ?_
 refine .ev (I q a p) λJ va f Z L Y g=>?_
 induction J using V.casesOn<;>first|exact absurd rfl g|skip
 rename_i C;have g:(if dQ q.hd f.σ then(fY m C a).map λo=>((.next,o,f.σ):Fl×av×H)else ae)≠ae:=g;show aB _ _ _ (dB q f (if dQ q.hd f.σ then(fY m C a).map λo=>((.next,o,f.σ):Fl×av×H)else ae)) _ _;by_cases j:dQ q.hd f.σ=af
 ·rw[if_pos j]at g⊢;refine am (Ot g) λN l=>?_;rw[l];clear g;refine jk L λhl t D n P Q=>aP Q λT s=>?_;subst P;have E:d.length=D.size:=S.len.symm.trans ((GS l).1.trans ((aI.length s).symm.trans kq));have h:f.s.heap.IsTuple t D:=wp _ T rfl n rfl;refine(a33 (f:=q.env) (d:=d) (k:=k) (g:=i) B).elim (λu=>?_) λu=>?_
  ·rw[u];have U:(rW d q.env).findIdx? (·.1)=ae:=List.findIdx?_eq_none_iff.mpr λx h=>S.pl q.env x h;show aB _ _ ((fP i>>=λZ=>unpack (.ref t) (rW d q.env))>>=λZ=>bx uN) _ _ _;refine aD (aD (rY ?_));unfold unpack;rw[U];refine aD (gc (QW Y j h s ((S.U q.env).trans E) λF w y e z=>?_));exact bb (Gk ((S.len.trans (S.U q.env).symm).trans (bH _).symm) (S.tg q) w z l) (λZ s2 M=>bz (.mk .next N (F.on s2) (e▸rfl) rfl (y.trans M.2 M.1) M.1)) λZ Z z2=>z2
  ·rw[u];unfold assignStores;refine aD (bz (aD (Tv (aD (QW Y j h s ((bH _).trans E) λF w y e z=>?_)))));have hz:∀x∈m.reverse.zip ((d.map nu).reverse.map λx=>oo q.env x),kI q x.1 x.2:=λx h=>by
    rw[List.map_reverse,RI (by rw[bH,bH];exact S.len)]at h;exact S.bn q x (List.mem_reverse.mp h)
   exact UW (by rw[bH,xM,xM,bH];exact S.len) hz w z.o4 (aT8 G l) y e
 ·exact absurd (if_neg j) g
end
end
section
set_option tactic.hygienic true in
theorem Gi(z:oF g=af)(v:∀i,f≠.obj i)(I:ay D w k b s)(l:VR k s.heap f B)(n:VR k s.heap e C)(d:bZ g f e b≠.i):
  aB (Mo D) A (S' g B C) (bo VR (bZ g f e b) D w k s.heap) (bF (bZ g f e b) D w k s.heap) s:=by
 induction g using Operator.casesOn<;>first|(injection z;done)|skip
 ·induction f using V.casesOn<;>first|exact absurd rfl d|skip
  ·induction e using V.casesOn<;>first|exact absurd rfl d|skip
   refine am l λt h=>am n λu j=>?_;subst h;subst j;exact wpAny_iadd_int (dT I iN)
  ·induction e using V.casesOn<;>first|exact absurd rfl d|skip
   rename_i x y;refine dy l λE t h=>dy n λF u j=>?_;subst h;subst j;have d:(if x.length+y.length<=big then R.ok (V.str (x++y)) b else .i)≠.i:=d;show aB _ _ _ (bo VR (if x.length+y.length<=big then R.ok (V.str (x++y)) b else .i) _ _ _ _) (bF (if x.length+y.length<=big then R.ok (V.str (x++y)) b else .i) _ _ _ _) _;by_cases o:x.length+y.length<=big
   ·rw[if_pos o];refine bm9 (λG J=>?_) (by
     have:=oH;rw[(by simp[xV]:(sv x).length+(sv y).length=x.length+y.length)];lia)
    rw[BP];exact dT I (uC (tq (s:=x++y) (by rw[aU];exact o) λc m=>(List.mem_append.mp m).elim (oY E c) (oY F c)))
   ·exact absurd (if_neg o) d
  ·exact absurd rfl (v _)
 ·induction f using V.casesOn with
  |a x=>
   induction e using V.casesOn<;>first|exact absurd rfl d|skip
   refine am l λt h=>am n λu j=>?_;subst h;subst j;exact bn0 (dT I iN)
  |str x=>induction e using V.casesOn<;>exact absurd rfl d
  |obj i=>exact absurd rfl (v _)|_=>exact absurd rfl d
theorem ba0{d e:Type}{r:R d}{f:d->H->R e}{a:av}{k:e->H->X}:aO (r.bind f) a k=aO r a λg h=>aO (f g h) a k:=by induction r using R.casesOn<;>rfl
section
variable{c:Cx}{q:aE c}{a:av}{p:Pt}{r:X}{b:H}
theorem Rq.a6{d:eI}{e g:V}{h j:ah}(k:oF d=af)(m:VR p.ρ p.s.heap e h)(n:VR p.ρ p.s.heap g j):Rq q a p (S' d h j) VR (js d e g p.σ):=λY f=>by
 induction e using V.casesOn<;>first|exact Gi (f:=V.a _) k (λo z=>nomatch z) Y.inv m n f|exact Gi (f:=V.str _) k (λo z=>nomatch z) Y.inv m n f|exact absurd rfl f
theorem Xe:cS c (.AugAssign (.Name x e) d v f)=if oF d then do return .a6 (<-iC (c.name x)) d (<-cE c v)else ae:=rfl
theorem aL2:q.d0 a (.a6 i f e) b=aO (q.ev a (.loc i) b) a λd h=>aO (q.ev a e h) a λv h=>aO (js f d v h) a λv h=>ac (.next,a.set i (ac v),h):=by
 show(match a[i]? with|some (ac d)=>aO (q.ev a e b) a λv h=>aO (js f d v h) a λv h=>ac (.next,a.set i (ac v),h)|_=>ae)=aO (match a[i]? with|some (ac v)=>R.ok v b|_=>.i) a _
 cases a[i]? with
 |none=>rfl|some o=>induction o using Option.casesOn<;>rfl
theorem aY0:dP (.AugAssign (.Name x m) n v o):=λc=>.L Xe<|.E λe=>.e6 pc (gg v c) λi y d f q Z a p=>am d λs d=>
 .L (arm_exec_AugAssign ..) aL2<|.a0<|.ev (Oh d) λt u g z h=>.ev (.b1 (f q a g)) λA B C j k=>.a0<|.ev (.f8 (.a6 e (h.up j) k)) λw D E F l=>.a0<|Jw d l
noncomputable def Jl(d:eI)(e f:V)(h:H):R V:=match e,f with
 |.a x,.a y=>bZ d (.a x) (.a y) h|_,_=>.i
theorem Rq.o6{d:eI}{e f:V}{h j:ah}(k:oF d=af)(m:VR p.ρ p.s.heap e h)(n:VR p.ρ p.s.heap f j):Rq q a p (S' d h j) VR (Jl d e f p.σ):=λY g=>by
 induction e using V.casesOn<;>first|exact absurd rfl g|skip
 induction f using V.casesOn<;>first|exact absurd rfl g|skip
 exact Gi (f:=V.a _) k (λo z=>nomatch z) Y.inv m n g
theorem Xf:cS c (.AugAssign (.Attribute o e f) d v g)=if nx o||!oF d then ae else do return .e1 (<-cE c o) (eW e) d (<-cE c v):=rfl
theorem aL3{o e:Ex}{n:List Nat}{g:eI}:q.d0 a (.e1 o n g e) b=aO (q.ev a o b) a λd h=>aO ((mU q.P h d n).bind λf h=>(q.ev a e h).bind λv h=>Jl g f v h) a λi h=>aO (lu (dN q.P h d n i)) a (tj a):=
 mD λd h=>by
  show(match dH q.P h d n with|some f=>aO (q.ev a e h) a λv h=>(match f,v with|.a x,.a y=>aO (bZ g (.a x) (.a y) h) a λv h=>(dN q.P h d n v).map λh=>(.next,a,h)|_,_=>ae)|none=>ae)=aO ((fW h (dH q.P h d n)).bind _) a _
  cases dH q.P h d n with
  |none=>rfl|some f=>
   refine(mD λv h=>?_).trans ba0.symm
   induction f using V.casesOn<;>first|rfl|skip
   induction v using V.casesOn<;>first|rfl|skip
   exact mD λj j=>Qe
theorem aY1:dP (.AugAssign (.Attribute o t u) e v z):=λc=>.L Xf<|.f4 λf=>.e6 (gg o c) (gg v c) λx y g i q Z a p=>
 .L (arm_exec_AugAssign_2 ..) aL3<|.a0<|.ev (g q a p) λA B C D d=>.ev (.b1 (.a0 (.bind (Jk d) λE F j G k=>.bind (.b1 (i q a j)) λw I J l m=>.a0<|.f8<|.o6 (by induction h:oF e using Bool.casesOn;exact absurd (by rw[h];exact Bool.or_true _) f;rfl) (k.up l) m))) λL M N n s=>
  .a0<|.ev (.b1 (.set (d.up n) s)) λP P P P P=>.free .k3
end
end
section
section
variable{D:Wd}{d:ca}{P:aZ}
theorem ay.o7{B:List Env}{j:List aj}{b:H}{s:az}{i:Nat}{h:aj}{k:aj}{n:Option Nat}{c:Bool}{o:Option aj}{t f:Array ah}{l:aS}(I:ay D B j b s)(e:b[i]?=ac (.exc k n c))(u:j[i]?=ac h)
  (F:s.heap.get? h=ac {cls:=.ref k,dict:=o,data:=.fields t}) (G:l.get? h=ac {cls:=.ref k,dict:=o,data:=.fields f}) (J:f.size=t.size) (L:∀i,i≠2->f[i]?=t[i]?)
  (N:∀m,m≠h->l.get? m=s.heap.get? m):
  bq j s.heap j l/\ay D B j (b.set i (.exc k n af)) {s with heap:=l}:=by
 refine Hu (I.addr e) λa' w z8 z9 g S Z z0 h7=>ak z0 λz4 h5 h6=>?_;have w:=ax (u.symm.trans w);subst w;have g:=ax (F.symm.trans g);injection g with _ z5 g;injection g with g;subst g;subst z5;refine I.set (p:={s with heap:=l}) (j:=i) (r:=h) (o:=.exc k n af) u (λm hb ob q=>(N m hb).trans q) (List.getElem?_eq_some_iff.mp e).1 (λz=>fi z λza ws T x y z3=>?_) (λSt=>?_) rfl rfl rfl
 ·have x:=ax (F.symm.trans x);subst x;injection y with y;subst y;exact lZ _ f T G rfl ((L 1 (by decide)).trans z3)
 ·have z6:2<f.size:=by rw[J,S];decide
  refine ak5 o f G (J.trans S) Z (al z4 ((L 1 (by decide)).trans h5) (h6.elim .inl λz=>bP z λT q1 q2 U=>ch (id U) λoT ts w1 w2 w3 w4=>.inr (br T q1 q2 (dp oT ts ((N T ((λz z7=>I.e2 _ z (z7▸kY u):∀{T},dC s.heap T->T≠h) U)).trans w1) w2 w3 w4)))) (f[2]) (by simp[z6]) (λz=>by injection z)
def UG(D:Wd)(h:List Env)(e:List aj)(s:az)(f:H)(i:Nat)(j k:aj)(l:Option Nat)(m:ah)(g:az):Prop:=m=.ref j/\bq e s.heap e g.heap/\ay D h e f g/\∃n,f[i]?=ac (.exc k l n)
set_option tactic.hygienic true in
theorem aN2{F:Type}{A:cB}{t:Option Nat}{G:List Env}{h:List aj}{b u:H}{s:az}{i:Nat}{k J:aj}{l:Option Nat}{c:Bool}{Q:F->az->Prop}(m:mP A t h)(I:ay D G h b s)(e:b[i]?=ac (.exc J l c))(n:h[i]?=ac k)(f:ki t i b=ac u):
  aB (Mo D) A (CT (.ref k):Sem F) Q (UG D G h s u i k J l) s:=by
 cases t with
 |none=>
  have f:=ax f;subst f;have m:A.handled=ae:=m;unfold CT;refine aD (Tt ?_);rw[m];exact aD (bz (Db (Fd rfl (.b5 _ _) I c e)))
 |some j=>
  refine ak m λL g w=>?_;have f:(if i=j then ac b else match b[j]?,b[i]? with|some (.exc _ _ ag),ac (.exc C l _)=>ac (b.set i (.exc C l af))|_,_=>ae)=ac u:=f;by_cases y:i=j
  ·subst y;rw[if_pos rfl]at f;have f:=ax f;subst f;have g:=ax (n.symm.trans g);subst g;unfold CT;refine aD (Tt ?_);rw[w];dsimp only;rw[if_neg (by simp)];exact aD (bz (Db (Fd rfl (.b5 _ _) I c e)))
  ·rw[if_neg y,e]at f
   cases B:b[j]? with
   |none=>rw[B]at f;injection f
   |some o=>
    rw[B]at f
    induction o using O.casesOn<;>first|(injection f;done)|skip
    rename_i C1 d1 x
    induction x using Bool.casesOn<;>first|(injection f;done)|skip
    have f:=ax f;subst f;refine we I B g λz2 S T q3 z=>ak z λcx U Y=>?_;refine we I e n λod vs N w3 Z=>?_;refine PM N rfl (by rw[w3];decide) (.inr (fG L _ S w T rfl (U.trans (congrArg _ (Y rfl))))) (λz=>(λz=>y (Bq I.nd n (z▸g)):L≠k) (pS (ax (w.symm.trans z)))) λh' z0 z=>ch z λz3 z4 hn z1 hz hv=>?_;subst z1;refine aP (I.o7 e n N hn hz hv z0) λSt I'=>?_;exact Fd rfl St I' af (ig (List.getElem?_eq_some_iff.mp e).1)
theorem uE{M:pJ}{A:cB}{E:ah->az->Prop}{s:az}{f:Type}{Q:f->az->Prop}{c:Prop}[Decidable c]{t e:Sem f}(h:¬c)(k:aB M A e Q E s):aB M A (if c then t else e) Q E s:=by rw[if_neg h];exact k
theorem Rk{M:pJ}{A:cB}{E:ah->az->Prop}{s:az}{f:Type}{Q:f->az->Prop}{c:Prop}[Decidable c]{t e:Sem f}(h:c)(k:aB M A t Q E s):aB M A (if c then t else e) Q E s:=by rw[if_pos h];exact k
section
variable{M:pJ}{A:cB}{E:ah->az->Prop}{Q:ah->az->Prop}{s:az}{v C:ah}
theorem ab0{m:String}(e:jQ M s.heap (isType v) ag)(f:jQ M s.heap (ye v (.type "BaseException")) af)(h:Q v s):aB M A (excFromValue v m) Q E s:=
 aD (aD (e.here (uE uM (bz (uE uM (aD (f.here (Rk rfl (bz h)))))))))
theorem aN4(e:jQ M s.heap (rX v) C)(f:jQ M s.heap (rX C) (.type "type"))(h:Q v s):aB M A (raisedInstance v) Q E s:=
 aD (e.here (aD (f.here (Rk rfl (bz h)))))
end
theorem Kt.o8(T:Kt D d P)(h:P.cls C=ac g)(i:g.isExc=af):iq d (.ref C)=ac (.type "type"):=by
 refine(T.exc C g h i).U λj q N k l m n o t u w x y z f e B=>?_;unfold iq;dsimp only;rw[e];rfl
end
section
variable{c:Cx}{q:aE c}{a:av}{p:Pt}{r:X}{b:H}
noncomputable def BD(q:aE c)(a:av)(v:V)(h:H):X:=match v with
 |.obj i=>match h[i]? with
  |some (.exc C _ _)=>if(q.P.cls C).any (·.isExc)then(ki q.hd i h).map λh=>(.exc i,a,h)else ae
  |_=>ae
 |_=>ae
theorem Mq{P:aZ}{C:aj}(h:(P.cls C).any (·.isExc)=af):∃e,P.cls C=ac e/\e.isExc=af:=by
 cases q:P.cls C with
 |none=>rw[q]at h;injection h
 |some e=>rw[q]at h;exact al e rfl h
theorem Rq.o9{e:Pos}{t:Sem ah}{r:R V}(h:Rq q a p t VR r):Rq q a p (do let v <-t;fP e;uX v) VR r:=λY f=>aD (bb (h Y f) (λv j g=>aD (rY (bz g))) λk k z=>z)
set_option tactic.hygienic true in
theorem aN1{v:V}{h:H}(f:BD q a v h≠ae):∃i C m x j k,v=.obj i/\h[i]?=ac (.exc C m x)/\q.P.cls C=ac j/\j.isExc=af/\ki q.hd i h=ac k/\BD q a v h=ac (.exc i,a,k):=by
 induction v using V.casesOn<;>first|exact absurd rfl f|skip
 rename_i i;have e:BD q a (.obj i) h=match h[i]? with|some (.exc C _ _)=>if(q.P.cls C).any (·.isExc)then(ki q.hd i h).map λh=>(.exc i,a,h)else ae|_=>ae:=rfl
 rw[e]at f⊢
 cases g:h[i]? with
 |none=>rw[g]at f;exact absurd rfl f
 |some o=>
  rw[g]at f
  induction o using O.casesOn<;>first|exact absurd rfl f|skip
  rename_i C m x;by_cases l:(q.P.cls C).any (·.isExc)=af
  ·have f:(ki q.hd i h).map (λh=>((.exc i,a,h):Fl×av×H))≠ae:=λz=>f ((if_pos l).trans z);refine am (Ot f) λk n=>?_;exact ak (Mq l) λj t u=>⟨i,C,m,x,j,k,rfl,g,t,u,n,(if_pos l).trans (by rw[n];rfl)⟩
  ·exact absurd (if_neg l) f
theorem aL9:q.d0 a (.b3 y) b=aO (q.ev a y b) a (BD q a):=mD λv e=>by induction v using V.casesOn<;>rfl
theorem Xh:cS c (.Raise (ac x) ae e)=do return .b3 (<-cE c x):=rfl
theorem aZ0:dP (.Raise x N S):=λc=>by
 cases x with
 |none=>exact .L (rfl:_=(ae:Option St)) .S|some x=>
  cases N with
  |some Z=>exact .L (rfl:_=(ae:Option St)) .S|none=>
   refine .L Xh<|.b6 (gg x c) λz7 T q z8 a p=>.L (arm_exec_Raise ..) aL9<|.a0 ?_
   refine .ev (u:=do let v <-dF x q.env;fP S;bx v) (.o9 (T q a p)) λf va e Z m Y U=>?_;refine EU λP k=>?_;refine mF (aN1 U) λz3 i z4 z=>mF z λcc cl n z=>ba6 z λj l o t hr z5=>?_;rw[j]at m;refine dz (Av Y.inv l) λf od vs h u w3 Z=>ak (eC m) λa' z6 g=>k ?_;rw[z5,g,<-ax (h.symm.trans z6)];have w:=q.T.at Y.inv;have y:jQ (Mo q.u.D) e.s.heap (rX (.ref f)) (.ref i):=(Looks.ld u).andThen .now;have B:jQ (Mo q.u.D) e.s.heap (isType (.ref f)) ag:=(Looks.ld (part:=ac headPart) u).andThen .now;have L2:jQ (Mo q.u.D) e.s.heap (ye (.ref f) (.type "BaseException")) af:=by
    unfold ye;exact y.andThen (Td w (q.T.l6 o t))
   refine aD (bz (aD (gc (ab0 B L2 (aD (B.here (uE uM (aD (aN4 y (looks_typeIn w (q.T.o8 o t):jQ (Mo q.u.D) e.s.heap (rX (.ref i)) (.type "type")) (aD (bb (GT Y.inv l h) (λZ s2 j=>?_) λZ Z z=>z)))))))))));refine ak j λh2 g z2=>fL z2 λF G Z=>?_;subst g;have I:=Y.step (i:=e.on {e.s with heap:=h2}) F G;refine bb (aN2 I.hd G l h hr) (λZ Z z=>z) λev J z=>aP z λg z=>Rz z λL I3 c' e3=>?_;subst g;exact .mk z3 a ⟨e.ρ,n,J⟩ rfl ⟨i,z4,c',f,e3,h,rfl⟩ (.of ⟨F.trans L,Y.inv.Y⟩) (I.step (i:=⟨e.ρ,n,J⟩) L I3)
end
end
end
section
set_option backward.match.sparseCases true
set_option tactic.hygienic false
open PySem PySem.W PyProof.Rows PySem.Calls
section
section
variable{D:Wd}{j:ca}{P:aZ}{A:cB}{s:az}{k:List Env}{g:List aj}{f:H}{i:Nat}{a C:aj}{d:Option Nat}{x:Bool}
theorem ax5{Q:Bool->az->Prop}{E:ah->az->Prop}(T:Kt D j P)(n:j.In s.heap)(o:P.cls C=ac m)(t:m.isExc=af)(u:s.heap.get? a=ac {cls:=.ref C,dict:=y,data:=.fields z})(v:Q af s):
  aB (Mo D) A (excMatches (.ref a) (.ref C)) Q E s:=by
 refine(T.exc C m o t).U λB q N F G I J L M S U Y k3 k5 z0 w Z=>?_
 induction s using Shared.casesOn
 exact wpAny_excMatches_sub_self (n _ _ w) u rfl (by decide) v
theorem QL(I:ay D k g f s)(v:f[i]?=ac (.exc C d x))(w:g[i]?=ac a)(t:Tr s.heap a):iY D s.heap a:=by
 exact fi t λo L T y z B=>Ey I v w
  (λE u m M n=>nomatch(ax (n.symm.trans ((congrArg (·[1]?) (bm0 ((congrArg Obj.data (ax (m.symm.trans y))).trans z))).trans B)):uY=.ref T))
  λE u F m M n G J=>nq _ u F m rfl n G J
theorem iY.tr(t:iY D m a):Tr m a:=nS t λn o T u v w y y=>lZ n o T u v w
theorem ay.p0(I:ay D k g f s)(m:g[i]?=ac a)(t:Tr s.heap a):∃C d x,f[i]?=ac (.exc C d x):=by
 cases n:f[i]? with
 |none=>exact absurd (List.getElem?_eq_some_iff.mp m).1 (Nat.not_lt.mpr (I.len▸List.getElem?_eq_none_iff.mp n))|some o=>
  by_cases u:∃C d x,o=.exc C d x
  ·refine mF u λC d x z=>wq C d x (congrArg _ z)
  ·exact absurd t (I.h8 n m λC d x z=>u (wq C d x z))
end
section
variable{c:Cx}{q:aE c}{e h:av}{p l b:Pt}{r:X}{f:H}{a:aj}{i:Nat}{s:az}
noncomputable def aE.mark(q:aE c)(a:aj)(i:Nat):aE c:={q with A:=q.A.mark (ac (.ref a)),hd:=ac i}
theorem At.mark(Y:At q e p)(m:p.ρ[i]?=ac a):At (q.mark a i) e p:=⟨Y.inv,(al a m rfl),Y.c2⟩
theorem At.unmark(m:At q h l)(Y:At (q.mark a i) e p)(n:l.ρ<+:p.ρ):At q e p:=⟨Y.inv,m.hd.step n,Y.c2⟩
theorem dB.unmark(m:At q h p)(z:dB (q.mark a i) p r n s):dB q p r n s:=by induction z using dB.casesOn with|mk o t u v F G Y=>exact .mk o t u v F G (m.unmark Y (cM.pre G))
theorem ce.unmark(m:At q h p)(z:ce (q.mark a i) p r v s):ce q p r v s:=by induction z using ce.casesOn with|mk n o t u F G Y=>exact .mk n o t u F G (m.unmark Y (cM.pre G))
theorem Sq.marked(m:Sq (q.mark a i) e p t r)(Y:At q e p)(n:p.ρ[i]?=ac a)(o:r≠aw):aB (Mo q.u.D) (q.A.mark (ac (.ref a))) t (dB q p r) (ce q p r) p.s:=
 bb (m (Y.mark n) o) (λu u z=>z.unmark Y) λu u z=>z.unmark Y
theorem qj.ups(m:qj p.ρ p.s.heap n o)(Y:At q e p)(G:cD q p b):qj b.ρ b.s.heap n o:=by
 induction n using Fl.casesOn with
 |B v=>exact ak m λx z t=>al x z (t.ups Y G)|_=>exact m
set_option backward.match.sparseCases false in
noncomputable def mX(m:Fl)(r:X):X:=match r with
 |some (.next,n,o)=>ac (m,n,o)|_=>ae
theorem Mr(n:mX o (ac (m,e,t))≠ae):m=.next:=by induction m using Fl.casesOn<;>first|rfl|exact absurd rfl n
theorem Ax{E:ah->az->Prop}(Z:jT q)(J:qo c L v)(Y:At q e b)(M:qj b.ρ b.s.heap o N)(G:cD q p b)(m:mX o (q.b2 e v b.σ)≠ae):
  aB (Mo q.u.D) q.A (CP L q.env) (λn B=>match n with|.next=>dB q p (mX o (q.b2 e v b.σ)) N B|n=>dB q p (mX o (q.b2 e v b.σ)) n B) E b.s:=by
 refine bb (J q Z e b Y λz=>m (by rw[z];rfl)) (λn Q z=>?_) λt Q z=>?_
 ·induction z using dB.casesOn with|mk S F I t u w y=>
  rw[t]at m⊢;have z:=Mr m;subst z;have u:n=.next:=u
  subst u;exact .mk o F I rfl (M.ups Y w) (G.trans w y) y
 ·induction z using ce.casesOn with|mk T F I t u w y=>rw[t]at m;exact absurd rfl m
theorem aM2:q.d0 e (.f7 m n) f=uv q.hd (q.b2 e m f) λo t u=>Mine.Internal.aJ q.P q.fz q.C q.W n o t u:=rfl
theorem Xl:cS c (.Try m [] [] (n::o) t)=do return .f7 (<-fC c m) (<-fC c (n::o)):=rfl
theorem aZ4(M:fQ z3)(o:fQ U):dP (.Try z3 [] [] U zf):=λc=>by
 cases U with
 |nil=>exact .L (rfl:_=(ae:Option St)) .S|cons f0 fs=>
  refine .L Xl<|.e6 (M c) (o c) λxb v M o q Z e p=>.L rfl aM2 λz4 n=>?_
  generalize m:uv q.hd (q.b2 e xb p.σ) (λz5 z6 hd=>Mine.Internal.aJ q.P q.fz q.C q.W v z5 z6 hd)=w at n⊢;refine wpAny_Try_finally (bb (M q Z e p z4 λz=>n (by rw[<-m,z];rfl)) (λzg s1 z=>?_) λy s1 z=>?_)
  ·induction z using dB.casesOn with|mk fl t b y F G u=>
   rw[y]at m
   induction fl using Fl.casesOn with
   |next=>cases F;have m:mX .next (q.b2 t v b.σ)=w:=m;subst m;exact IB (Ax Z o u (o:=.next) rfl G n)
   |a3=>cases F;have m:mX .a3 (q.b2 t v b.σ)=w:=m;subst m;exact Ax Z o u (o:=.a3) rfl G n
   |a5=>cases F;have m:mX .a5 (q.b2 t v b.σ)=w:=m;subst m;exact Ax Z o u (o:=.a5) rfl G n
   |B z0=>refine ak F λx z z7=>?_;subst z;have m:mX (.B z0) (q.b2 t v b.σ)=w:=m;subst m;exact Ax Z o u (o:=.B z0) (al x rfl z7) G n
   |exc i=>exact F.elim
  ·refine bb (ul Z q.fr z) (λY s2 z=>nR z λz8 a B Y=>?_) λY Y z=>z;subst B;refine⟨λz9=>(nomatch z9),bb (ul Z q.fr z8) (λY s3 z=>nR z λza a' B zb=>?_) λY Y z=>z⟩
   have B:=pS B;subst B;refine bb (xm za) (λY s4 z=>aP z λzc zd=>?_) λY Y z=>z
   induction zc using ce.casesOn with|mk i t b hr x G u=>
   refine x.U λC1 d1 c1 zh e1 N Q=>?_;have Q:=pS Q;subst Q;rw[hr]at m;have m:mX (.exc i) ((q.mark a i).b2 t v b.σ)=w:=m;subst m;refine bb ((o (q.mark a i) Z t b).marked u N λz=>n (by rw[z];rfl)) (λze s5 z=>?_) λy s5 z=>?_
   ·induction z using dB.casesOn with|mk zi z2 S I J L E=>
    rw[I]at n⊢;have z:=Mr n;subst z;have J:ze=.next:=J
    subst J;have ma:=kY N;have T:=gH (cM.pre L) N;have t5:Tr S.s.heap a:=cM.tr L a ma (u.out ma) (zd a rfl zb).tr;refine mF (E.inv.p0 T t5) λC2 d2 c2 I=>?_;exact Qh (.mk i z2 S rfl ⟨C2,d2,c2,a,I,T,rfl⟩ (G.trans L E) E) (QL E.inv I T t5) λY z=>z
   ·induction z using ce.casesOn with|mk zj z2 S y J L E=>rw[y]at n;exact absurd rfl n
end
end
end
section
set_option tactic.hygienic false
open PySem PySem.W PyProof.Rows PySem.Calls
section
noncomputable def yX(x:Option Nat)(i:Nat)(b:av)(e:H)(k:av->H->Option Nat->X):X:=match x with
 |none=>k b e (ac i)|some x=>match k (b.set x (ac (.obj i))) e (ac i)with
  |some (j,l,h)=>ac (j,l.map λm=>ae,h)|none=>ae
theorem QP{k:av->H->Option Nat->X}:lz P v x (ac (.exc i,b,e)) k=match e[i]?,v with
  |some (.exc C _ _),.ref c=>if C=c&&(P.cls C).any (·.isExc)then yX x i b e k else ae
  |_,_=>ae:=by induction x using Option.casesOn<;>rfl
set_option tactic.hygienic true in
theorem a68{k:av->H->Option Nat->X}(l:r=ac (.exc i,b,e))(m:e[i]?=ac (.exc C o t))(h:lz P v x r k≠ae):
  v=.ref C/\(P.cls C).any (·.isExc)=af/\lz P v x r k=yX x i b e k:=by
 rw[l,QP,m]at h⊢
 induction v using Value.casesOn<;>first|exact absurd rfl h|skip
 rename_i n;by_cases j:(bf (C=n)&&(P.cls C).any (·.isExc))=af
 ·have w:=yJ j;exact dc (congrArg _ (of_decide_eq_true w.1).symm) w.2 (if_pos j)
 ·exact absurd (if_neg j) h
section
variable{c:Cx}{q:aE c}{b g:av}{p d f:Pt}{r:X}{e:H}{a:aj}{i:Nat}{s:az}
theorem OE{E:ah->az->Prop}(Y:At q b p)(F:c.sc.names.lookup x=ac .local):
  aB (Mo q.u.D) z1 (do oo q.env x .none;Tq q.env x z2) (λZ G=>Dk q (b.map λZ=>ae) p G) E p.s:=by
 refine am Y.c2 λz3 L=>wpAny_nameGoes (q.kindOf F) L.ns (by rw[q.c8];rfl) λl t u m=>?_;have v:eQ q.u.D q.u.envs p.ρ p.s.heap l:=λa o k=>by
  by_cases w:a=q.env.locals
  ·subst w;refine fi L.ns λo0 es ep n A Z=>fi u λI J M N P Z=>?_;have n:=ax (n.symm.trans k);subst n;exact .inr (gk L.out L.new (.inr λZ Z z=>(nomatch A.symm.trans z)) (.inr λZ z=>(nomatch A.symm.trans z)) (λZ=>kQ I J M N P))
  ·exact .inl ((m.2 a w).trans k)
 have Q:eV q.u.D c.lay q.env p.ρ (b.map λZ=>ae) l t:=by
  refine⟨L.out,L.new,u,by rw[bH];exact L.len,λi z4 h=>?_,λj y h=>?_,L.apart⟩
  ·rw[iQ]at h
   cases q:b[i]? with
   |none=>rw[q]at h;injection h
   |some Z=>rw[q]at h;exact nomatch(ax h)
  ·exact bE (L.cells j y h) λB S T U q3=>ak U λo C D=>bw B S T (al o ((m.2 B (AX L (al o C D))).trans C) D) q3
 exact⟨⟨Y.inv.loose (f:={p.s with heap:=l,toks:=p.s.toks+1}) v rfl rfl rfl,Y.hd,t,Q⟩,(cM.b5 c q.env p.ρ p.s.heap).more (λa Z oa o k=>(m.2 a oa.1).trans k) λz5 z=>z.loose v⟩
theorem aW4:bL (BL c x) λm=>(x=ae/\m=ae)\/∃j i k,x=ac j/\m=ac i/\c.sc.names.lookup j=ac .local/\c.lay[i]?=ac (ac (j,k)):=by
 cases x with
 |none=>exact .is (.inl ⟨rfl,rfl⟩)|some j=>
  exact .L (rfl:BL c (ac j)=if c.sc.names.lookup j==ac .local then do return ac (<-iC (c.name j))else ae)<|.E λh=>.b6 pc λi l=>am l λk l=>.inr (fG j i k rfl rfl (cW h) l)
theorem aM3:q.d0 b (.c6 j v k l) e=lz q.P v k (q.b2 b j e) λm h n=>Mine.Internal.aJ q.P q.fz q.C q.W l m h n:=rfl
theorem Xm:cS c (.Try j [.ExceptHandler k x h m] [] l n)=if l.isEmpty then BV c (k.bind iF) x h.isEmpty (fC c j) (fC c h)else ae:=rfl
theorem a64:BV c (ac h) x j k l=if j then ae else do return .c6 (<-k) (<-mY (c.name h)) (<-BL c x) (<-l):=rfl
theorem a28(Z:jT q)(k:qo c l m)(Y:At q b p)(n:p.ρ[i]?=ac a)(G:cD q d p)(o:(q.mark a i).b2 b m p.σ=h)(t:h≠ae):
  aB (Mo q.u.D) (q.A.mark (ac (.ref a))) (CP l q.env) (λj s=>dB q d h j s) (vd (Mo q.u.D) (q.A.mark (ac (.ref a))) q.env λx s=>pU (Mo q.u.D) q.A q.env (ce q d h) x s) p.s:=by
 subst o;exact bb ((k (q.mark a i) Z b p).marked Y n t) (λj s z=>z.from G) λu s z=>BI Z (A:=q.A.mark (ac (.ref a))) q.fr (z.from G) λv z=>z
noncomputable def pf(r:X):X:=match r with
 |some (j,k,h)=>ac (j,k.map λl=>ae,h)|none=>ae
theorem a27(Z:jT q)(w:c.sc.names.lookup k=ac .local)(I:qo c J h)(Y:At q b p)(L:p.ρ[i]?=ac a)(G:cD q d p)(N:pf ((q.mark a i).b2 b h p.σ)≠ae):
  aB (Mo q.u.D) (q.A.mark (ac (.ref a))) (CP J q.env) (λA s=>aB (Mo q.u.D) q.A (do oo q.env k .none;Tq q.env k P) (λU s=>dB q d (pf ((q.mark a i).b2 b h p.σ)) A s) (ce q d (pf ((q.mark a i).b2 b h p.σ))) s)
   (λx s=>aB (Mo q.u.D) (q.A.mark (ac (.ref a))) (CS x q.env) (λU s=>aB (Mo q.u.D) (q.A.mark (ac (.ref a))) (do oo q.env k .none;Tq q.env k P)
    (λU s=>aB (Mo q.u.D) (q.A.mark (ac (.ref a))) (passOn "try.except-as" x q.env:Sem kr) (λU U=>False) (vd (Mo q.u.D) (q.A.mark (ac (.ref a))) q.env λx s=>pU (Mo q.u.D) q.A q.env (ce q d (pf ((q.mark a i).b2 b h p.σ))) x s) s)
    (λy s=>aB (Mo q.u.D) (q.A.mark (ac (.ref a))) (CV x ae) (λU s=>(vd (Mo q.u.D) (q.A.mark (ac (.ref a))) q.env λx s=>pU (Mo q.u.D) q.A q.env (ce q d (pf ((q.mark a i).b2 b h p.σ))) x s) y s) (vd (Mo q.u.D) (q.A.mark (ac (.ref a))) q.env λx s=>pU (Mo q.u.D) q.A q.env (ce q d (pf ((q.mark a i).b2 b h p.σ))) x s) s) s)
    (vd (Mo q.u.D) (q.A.mark (ac (.ref a))) q.env λx s=>pU (Mo q.u.D) q.A q.env (ce q d (pf ((q.mark a i).b2 b h p.σ))) x s) s) p.s:=by
 refine bb ((I (q.mark a i) Z b p).marked Y L λz=>N (by rw[z];rfl)) (λA s z=>?_) λl s z=>?_
 ·induction z using dB.casesOn with|mk Q z2 S l F T n=>
  rw[l];exact bb (OE n w) (λU B M=>.mk Q _ (S.on B) rfl (F.ups n M.2) ((G.trans T n).trans M.2 M.1) M.1) λU U z=>z
 ·refine bb (ul (A:=q.A.mark (ac (.ref a))) Z q.fr z) (λU B z=>nR z λz m h8 z0=>?_) λU U z=>z;subst h8
  induction z using ce.casesOn with|mk j z1 C l x G8 o=>
  refine x.U λC8 d8 c8 a' D t u=>?_;have u:=pS u;subst u;rw[l];refine bb (OE o w) (λU v M=>?_) λU U z=>z;have E:=kY t;exact Qh (.mk j _ (C.on v) rfl ⟨C8,d8,c8,m,D,t,rfl⟩ ((G.trans G8 o).trans M.2 M.1) M.1:ce q d (pf (ac (.exc j,z1,C.σ))) (.ref m) v) (QL M.1.inv D t (cM.tr M.2 m E (o.out E) z0.tr:Tr v.heap m)) λs' z=>BI Z (A:=q.A.mark (ac (.ref a))) q.fr z λU z=>z
theorem At.m1{E:ah->az->Prop}(Y:At q b p)(h:p.σ[i]?=ac (.exc C o x))(j:p.ρ[i]?=ac a):aB (Mo q.u.D) A (CV (.ref a) ae) (λu s=>At q b (p.on s)/\cD q p (p.on s)) E p.s:=
 bb (GT Y.inv h j) (λu s z=>ak z λt k l=>fL l λm n u=>by subst k;exact Y.hw m n) λu u z=>z
theorem a69{k:av->H->Option Nat->X}(l:r=ac (j,b,e))(F:qj m h j n):lz P v x r k=ac (j,b,e):=by
 subst l
 induction j using Fl.casesOn with
 |exc i=>exact F.elim|_=>rfl
theorem aD0{l:Type}{a j:l}{h k:H}(m:R.ok a h=R.ok j k):a=j/\h=k:=by injection m with n o;exact⟨n,o⟩
theorem VR.p5{j:List aj}{h:aS}{x y:V}{v:ah}(k:x=y)(z:VR j h y v):VR j h x v:=k▸z
theorem a47{u:rV->az->Prop}{n:Str}{o v:Pos}{C:aj}{w:Option Nat}{x:Bool}(y:cE c (.Name n o)=ac (.a1 (.ref C)))(A:(q.P.cls C).any (·.isExc)=af)(Y:At q b p)(B:p.σ[i]?=ac (.exc C w x))(t:p.ρ[i]?=ac a)
  (k:∀h j,At q b ⟨h,p.σ,j⟩->cD q p ⟨h,p.σ,j⟩->h[i]?=ac a->u (.ok .brk) j):jp (Mo q.u.D) (q.A.mark (ac (.ref a))) (.handlers (.ref a) [.ExceptHandler (ac (.Name n o)) ae [] v] q.env) u p.s:=by
 refine codeAny_handlers_test (bb (gg (.Name n o) c _ y (q.mark a i) b p (Y.mark t) λz=>nomatch z) (λD j z=>z.U λJ L h z m l E=>?_) λS S z=>z.U λS S S z S S S=>nomatch z);have z:=aD0 z;have l:ay q.u.D q.u.envs h p.σ j:=z.2▸l;rw[(VR.p5 z.1 E:D=.ref C)];refine ak (Mq A) λM F G=>we l B (gH m.pre t) λN P I Q S=>ax5 q.T (q.T.at l) F G I ?_;exact k h j (Y.step (i:=⟨h,p.σ,j⟩) m l) (.of ⟨m,Y.inv.Y⟩) (gH m.pre t)
theorem Ye(Z:jT q)(u:qo c (E::F) I)(J:cE c (.Name L N)=ac (.a1 (.ref C)))(P:(q.P.cls C).any (·.isExc)=af)
  (Q:(x=ae/\k=ae)\/∃j i v,x=ac j/\k=ac i/\c.sc.names.lookup j=ac .local/\c.lay[i]?=ac (ac (j,v))) (G:cD q d p) (Y:At q b p) (l:p.σ[i]?=ac (.exc C z5 c1)) (S:p.ρ[i]?=ac a)
  (w:yX k i b p.σ (λT z0 hd=>Mine.Internal.aJ q.P q.fz q.C q.W I T z0 hd)=m) (y:m≠ae):aB (Mo q.u.D) q.A (handleBy (.ref a) q.env [.ExceptHandler (ac (.Name L N)) x (E::F) hp]) (dB q d m) (ce q d m) p.s:=by
 refine wpAny_handleBy_cons (a47 J P Y l S λρ4 s4 n z3 h=>?_) λz4=>nomatch z4;have A:=G.trans z3 n;refine Q.elim (λz=>?_) λz=>?_
 ·refine aP z λo t=>?_;subst o;subst t;refine codeAny_handlers_suite (bb (n.m1 l h) (λU D M=>?_) λU U z=>z);exact a28 Z u M.1 h (A.trans M.2 M.1) w y
 ·refine mF z λj k v z=>rO z λo t hl hi=>?_;subst o;subst t;subst w;refine codeAny_handlers_suite_as (bb (n.m1 l h) (λU D M=>?_) λU U z=>z);refine bb (az0 M.1 hi (show VR ρ4 D.heap (.obj i) (.ref a)from al a h rfl)) (λU s6 B=>?_) λU U z=>z;exact a27 Z hl u B.at_ h ((A.trans M.2 M.1).trans B.st B.at_) y
theorem aZ5(w:fQ n)(y:fQ k):dP (.Try n [.ExceptHandler A x k B] [] C z4):=λc=>.L Xm<|.E λD=>by
 cases C with
 |cons U U=>injection D|nil=>
 cases A with
 |none=>exact .S|some t=>
 show bL (BV c (iF t) x k.isEmpty (fC c n) (fC c k)) _
 cases E:iF t with
 |none=>exact .S|some I=>
 refine am (tM E) λJ z=>?_;subst z;refine .L a64<|.f4 λL=>.bind (w c) λxb M=>.d3 (P:=λU=>True) (λU U=>trivial) λv N U=>.e6 aW4 (y c) λP Q S T q Z b p=>.L rfl aM3 λY l=>?_
 cases k with
 |nil=>exact absurd rfl L|cons b0 z0=>
 refine wpAny_Try_except (bb (M q Z b p Y λz=>l (by rw[z];rfl)) (λz1 s1 z=>?_) λj s1 z=>?_)
 ·induction z using dB.casesOn with|mk fl o f j F G m=>
  have h:=dB.mk fl o f (a69 (P:=q.P) (v:=v) (x:=P) (k:=λz2 h hd=>Mine.Internal.aJ q.P q.fz q.C q.W Q z2 h hd) j F) F G m;clear j F l
  induction z1 using Flow.casesOn with
  |next=>exact IB h|_=>exact h
 ·exact XR (n:=λj s=>aB (Mo q.u.D) q.A (handleBy j q.env [.ExceptHandler (ac (.Name I J)) x (b0::z0) B]) (dB q p _) (ce q p _) s) Z q.fr z λi o f a C1 d1 c1 hr u ai G m U=>fL (a68 hr u l) λz z3 ht=>Ye Z T (z▸EQ N) z3 S G m u ai ht.symm l
end
end
section
section
variable{c:Cx}{q:aE c}{b:av}{p e f:Pt}{a d:aj}
structure gN(q:aE c)(p:Pt)(a:aj):Prop where
 out:a∉p.ρ
 new:q.u.D.base.get? a=ae
 obj:∃o g,p.s.heap.get? a=ac o/\o.data=.fields g/\o.cls≠.type "traceback"
theorem gN.j0(h:gN q p a)(Y:At q b p):iu c q.env a:=bE h.obj λo j i g k=>am Y.c2 λm L=>Gm L i (λk k z=>nomatch g.symm.trans z) λk z=>nomatch g.symm.trans z
theorem gN.same(g:gN q p a)(Y:At q b p)(G:cD q p f):(∀o,p.s.heap.get? a=ac o->f.s.heap.get? a=ac o)/\gN q f a:=bE g.obj λo l h i j=>by
 have k:=cM.same G h g.out (g.j0 Y) (λr r z=>nomatch i.symm.trans z) λr=>.inr j;exact⟨λn m=>ax (h.symm.trans m)▸k,λz=>(nomatch h.symm.trans (cM.new G a z g.out)),g.new,o,l,k,i,j⟩
theorem gN.loose(g:gN q p a)(Y:At q b p){l:aS}:∀o,p.s.heap.get? a=ac o->a∉p.ρ/\q.u.D.base.get? a=ae/\(o.cls≠.type "tuple"\/∀m n,o.data≠.seq m n)/\(o.cls≠.type "traceback"\/∀r,o.data≠.fields r)/\
  ((∃s∈q.u.envs,s.frame=ac a)->∃h t n,l.get? a=ac h/\h.data=.dict t n):=λo i=>bE g.obj λh x j k u=>by
 have i:=ax (j.symm.trans i);subst i;exact gk g.out g.new (.inr λA A z=>(nomatch k.symm.trans z)) (.inl u) (λz=>ak z λy v w=>(Y.inv.k0 j (λA A z=>nomatch k.symm.trans z) v w).elim)
theorem At.wrote(Y:At q b p)(A:gN q p a)(B:gN q p d){l:aS}{r:Nat}(k:∀g o,g≠a->g≠d->p.s.heap.get? g=ac o->l.get? g=ac o):
  At q b (p.on {p.s with heap:=l,toks:=r})/\eQ q.u.D q.u.envs p.ρ p.s.heap l/\∀{e},cD q e p->e.s.heap.get? a=ae->e.s.heap.get? d=ae->cD q e (p.on {p.s with heap:=l,toks:=r}):=by
 have n:eQ q.u.D q.u.envs p.ρ p.s.heap l:=λg o j=>by
  by_cases s:g=a
  ·subst s;exact .inr (A.loose Y o j)
  ·by_cases t:g=d
   ·subst t;exact .inr (B.loose Y o j)
   ·exact .inl (k g o s t j)
 exact dc ⟨Y.inv.loose (f:={p.s with heap:=l,toks:=r}) n rfl rfl rfl,Y.hd,am Y.c2 λm L=>⟨m,L.but n (λo j=>k _ o (ik (A.j0 Y).1) (ik (B.j0 Y).1) j) λi x h g o u j=>k g o (λz=>(A.j0 Y).2 i x h (z▸u)) (λz=>(B.j0 Y).2 i x h (z▸u)) j⟩⟩ n (λG v y=>cM.more G (λg z C o j=>k g o (λw=>z (w▸v)) (λw=>z (w▸y)) j) λT z=>z.loose n)
noncomputable def aE.forL(q:aE c)(j g i:Nat)(l:List St):Nat->Nat->av->H->X:=Mine.Internal.qO j λk v m h=>q.b2 ((m.set g (ac (.a k))).set i (ac v)) l h
theorem MI:q.forL j h i l (n+1) k b g=match g[j]? with
  |some (.list m)=>match m[k]? with
   |some v=>nO (q.b2 ((b.set h (ac (.a k))).set i (ac v)) l g) (q.forL j h i l n (k+1))|none=>ac (.next,b,g)
  |_=>ae:=rfl
inductive vm(q:aE c)(e:Pt)(j:Nat)(l i g:aj)(m n:Nat)(o:List St)(r:X)(s:Nat):az->Prop
 |mk (k:Nat) (b:av) (p:Pt) (t:ah) (h:q.forL j m n o s k b p.σ=r) (G:cD q e p) (Y:At q b p) (u:IsEnum p.s.heap i g (k:Int) t) (v:p.s.heap.IsListIter g l k) (w:i∉p.ρ) (x:g∉p.ρ) (y:p.ρ[j]?=ac l):vm q e j l i g m n o r s p.s
theorem Pe(h:IsEnum p.s.heap g l i m)(j:g∉p.ρ)(k:q.u.D.base.get? g=ae):gN q p g:=⟨j,k,_,_,h,rfl,λz=>by injection z with z;exact absurd z (by decide)⟩
theorem Gp(h:p.s.heap.IsListIter g l k)(i:g∉p.ρ)(j:q.u.D.base.get? g=ae):gN q p g:=⟨i,j,bP h λo m n r=>bw o _ m r (λz=>by rw[n]at z;injection z with z;exact absurd z (by decide))⟩
set_option tactic.hygienic true in
theorem Zw(z8:jT q)(zi:qo c l B)(h1:c.lay[m]?=ac (ac (N,b1)))(h2:c.lay[n]?=ac (ac (P,b2)))(C:t≠ae)(hh:q.hd=ae)
  (Q:e.s.heap.get? h=ae) (S:e.s.heap.get? i=ae) (T:q.u.D.base.get? h=ae) (U:q.u.D.base.get? i=ae) (z9:i≠h) (zj:vm q e z0 za i h m n B t zB s'):
  jp (Mo q.u.D) q.A (.forLoop (.Tuple [.Name N p1,.Name P p2] kk tp) (.ref i) l [] q.env) (kG q e t) s':=by
 refine codeAny_forLoop_any (vm q e z0 za i h m n B t) (λD s1 z=>?_) _ zj
 induction z using vm.casesOn with|mk k b p zC g zb Y E z4 n1 n2 lj=>
 cases D with
 |zero=>exact absurd g.symm C|succ D=>
 rw[MI]at g;have E1:gN q p i:=Pe E n1 U;have E2:gN q p h:=Gp z4 n2 T
 cases z5:p.σ[z0]? with
 |none=>rw[z5]at g;exact absurd g.symm C
 |some o=>
 rw[z5]at g
 induction o using O.casesOn<;>first|exact absurd g.symm C|skip
 rename_i vs;refine dz (iA Y.inv z5) λZ zc nn z1 zl z2 z3=>?_;have z1:=ax (lj.symm.trans z1);subst z1
 cases F:vs[k]? with
 |none=>
  have g:(match vs[k]? with|some v=>_|none=>ac (.next,b,p.σ))=t:=g;rw[F]at g;subst g;have u:zc[k]?=ae:=Array.getElem?_eq_none_iff.mpr (kq (xs:=zc)▸aI.length z3▸List.getElem?_eq_none_iff.mp F);refine wpAny_pyNext_enum_end (Y.free hh) E z4 z2.isList u λh' zk=>?_;refine fL (Y.wrote E1 E2 (l:=h') (r:=p.s.toks) λd o Z hb r=>zk d o hb r) λY2 lo G2=>?_;exact FC Y2 (G2 zb S Q)
 |some v=>
  have g:(match vs[k]? with|some v=>nO (q.b2 ((b.set m (ac (.a k))).set n (ac v)) B p.σ) (q.forL z0 m n B D (k+1))|none=>ac (.next,b,p.σ))=t:=g;rw[F]at g;refine ak (z3.get F) λxv zm zn=>?_;refine wpAny_pyNext_enum_item E z4 z2.isList (Array.getElem?_toList.symm.trans zm) z9 λh3 zd ze zo zD zp=>?_;refine fL (Y.wrote E1 E2 (r:=p.s.toks+1) zp) λY3 zq G3=>?_;have zr:gN q (p.on {p.s with heap:=h3,toks:=p.s.toks+1}) i:=⟨n1,U,_,_,zd,rfl,λz=>by injection z with z;exact absurd z (by decide)⟩
  have zs:gN q (p.on {p.s with heap:=h3,toks:=p.s.toks+1}) h:=Gp ze n2 T;refine wpAny_letOwnedTupleGo_enum zd λw zt z6=>?_;refine fL (Y3.wrote zr zs (l:=w) (r:=p.s.toks+1) λd o hb Z r=>(z6.2 d hb).trans r) λY4 zu G4=>?_;have zv:p.s.heap.objs.size≠i:=λz=>absurd (fj E) (z▸jn _);refine wpAny_assign_Tuple (s:={p.s with heap:=w,toks:=p.s.toks+1}) (Y.free hh) (wp _ ((z6.2 _ zv).trans zo) rfl _ rfl:w.IsTuple p.s.heap.objs.size #[.int k p.s.toks,xv]) rfl rfl λj zw=>?_;have G:∀l o,w.get? l=ac o->j.get? l=ac o:=λl o r=>zw l o (pO (fj r)) r;have zf:bq p.ρ w p.ρ j:=.c0 G;refine aP (Y4.hw (g:=j) zf (Y4.inv.keeps G rfl rfl rfl)) λI J=>?_;have V5:aI p.ρ j [.a k,v] [.int k p.s.toks,xv]:=ak6 _ _ rfl ⟨_,rfl⟩ _ _ rfl (((zn.loose zq).loose zu).step zf Y4.inv.Y) rfl;have zg:=G _ _ zt;have zh:j.IsListIter h za (k+1):=bP ze λo w1 w2 w3=>br o (G _ _ ((z6.2 h (ik z9)).trans w1)) w2 w3;have x:gN q (p.on {p.s with heap:=j,toks:=p.s.toks+1}) i:=Pe zg n1 U;have y:gN q (p.on {p.s with heap:=j,toks:=p.s.toks+1}) h:=Gp zh n2 T;have J:=(G4 (G3 zb S Q) S Q).trans J I;refine bb (Gk (j:=[m,n]) (d:=[pT (.Name N p1) q.env,pT (.Name P p2) q.env]) rfl (λz7 u=>(List.mem_cons.mp u).elim (λz=>z▸Hi h1) λu=>(List.mem_cons.mp u).elim (λz=>z▸Hi h2) λz=>nomatch z:∀z7∈[m,n].zip [pT (.Name N p1) q.env,pT (.Name P p2) q.env],kI q z7.1 z7.2) I V5 rfl) (λZ s6 zx=>?_) λZ Z z=>z;refine aP zx λA L=>aP (x.same I L) λk6 x=>aP (y.same I L) λzy y=>?_;refine FP z8 (zi q z8 _ (p.on s6)) A (J.trans L A) g C λzz p7 h7 M Y7=>?_;refine aP (x.same A M) λk7 x=>aP (y.same A M) λzA y=>?_;exact al D (og _) (.mk (k+1) zz p7 xv h7 ((J.trans L A).trans M Y7) Y7 (k7 _ (k6 _ zg)) (bP zh λo w1 w2 w3=>br o (zA _ (zy _ w1)) w2 w3) x.out y.out (gH (cM.pre M) lj))
end
end
section
section
variable{c:Cx}{q:aE c}{a:av}{p e d:Pt}{b:H}
noncomputable def Zu(q:aE c)(a:av)(f g:Nat)(i:List St)(h:H):V->X
 |.obj j=>q.forL j f g i q.W 0 a h|_=>ae
theorem aL5:q.d0 a (.f3 g i f j) b=q.un (aO (q.ev a f b) a λv h=>Zu q a g i j h v):=by
 show(if q.hd.isSome then ae else aO (q.ev a f b) a _)=_;unfold aE.un;congr 2
theorem ag8(f:q.forL j i l m n k a b≠ae):∃h,b[j]?=ac (.list h):=by
 cases n with
 |zero=>exact absurd rfl f|succ n=>
  rw[MI]at f
  cases g:b[j]? with
  |none=>rw[g]at f;exact absurd rfl f
  |some o=>rw[g]at f;induction o using O.casesOn<;>first|exact absurd rfl f|exact⟨_,rfl⟩
theorem Zx(Y:At q a p)(G:cD q e p)(k:p.ρ[j]?=ac l)(m:IsEnum f (p.s.heap.objs.size+1) p.s.heap.objs.size 0 .none)(n:f.IsListIter p.s.heap.objs.size l 0)(g:∀h o,p.s.heap.get? h=ac o->f.get? h=ac o):
  vm q e j l (p.s.heap.objs.size+1) p.s.heap.objs.size r s t (q.forL j r s t q.W 0 a p.σ) q.W {p.s with heap:=f}/\(q.u.D.base.get? p.s.heap.objs.size=ae/\q.u.D.base.get? (p.s.heap.objs.size+1)=ae):=by
 have u:p.s.heap.get? (p.s.heap.objs.size+1)=ae:=by
  cases z:p.s.heap.get? (p.s.heap.objs.size+1)with
  |none=>rfl|some o=>exact absurd (fj z) (Nat.not_lt.mpr (nY _))
 refine aP (Y.inv.j4 lh) λv w=>aP (Y.inv.j4 u) λx y=>?_;refine aP (Y.hw (g:=f) (.c0 g) (Y.inv.keeps g rfl rfl rfl)) λi A=>?_;exact dc (.mk 0 a (p.on {p.s with heap:=f}) .none rfl (G.trans A i) i m n x v k) w y
theorem DS:cS c (.For (.Tuple f k i) g h [] j)=(oM g).bind λp=>Ek c (BY f) p.1 (cE c p.2) (fC c h):=rfl
theorem Zv:Ek c (ac (x,y)) g f h=if mY (c.name g)==ac (.type "enumerate")then do return .f3 (<-iC (c.name x)) (<-iC (c.name y)) (<-f) (<-h)else ae:=rfl
set_option tactic.hygienic true in
theorem aY5(u:fQ v):dP (.For (.Tuple [.Name T f,.Name U p2] kk tp) (.Call (.Name z1 gp) [w] [] cp) v [] z2):=λc=>
 .L (DS.trans Zv)<|.E λx=>.bind pc λi k=>.bind pc λl m=>.d3 (gg w c) λz3 y A=>.b6 (u c) λn B q Z a p=>am k λb1 k=>am m λb2 m=>
 .L rfl aL5<|.un λC=>ML x y A λD z4 f o E h g=>by
  induction D using V.casesOn<;>first|exact absurd rfl g|skip
  rename_i j;have g:q.forL j i l n q.W 0 a f.σ≠ae:=g;show aB _ _ _ (λv2 F=>aB _ _ _ (λz5 G=>jp _ _ _ (kG q p (q.forL j i l n q.W 0 a f.σ)) G) _ F) _ _;refine ak (eC E) λz6 s I=>?_;subst I;refine am (ag8 g) λvs J=>dz (iA h.inv J) λY z7 nn r Y L Y=>?_;have r:=ax (s.symm.trans r);subst r;refine call_enumerate_list L.isList λz8 t M hz N=>PySem.wpAny_pyIter_enum t ?_;refine fL (Zx (r:=i) (s:=l) (t:=n) h (.of o) s t M N) λS P Q=>?_;exact Zw Z B k m g C (o.1.gone h.inv lh) (o.1.gone h.inv (by
   cases z:f.s.heap.get? (f.s.heap.objs.size+1)with
   |none=>rfl|some z9=>exact absurd (fj z) (Nat.not_lt.mpr (nY _)))) P Q (bh7 _) S
end
theorem a82(h:BY f=ac q):∃p d,f=[.Name q.1 p,.Name q.2 d]:=by
 rcases f with _|⟨n,_|⟨o,_|⟨s,r⟩⟩⟩<;>first|(injection h;done)|skip
 refine ak (Option.bind_eq_some_iff.mp h) λx g i=>ak (Option.map_eq_some_iff.mp i) λy j k=>?_;subst k;exact am (tM g) λp l=>am (tM j) λd m=>fq p d (by rw[l,m])
theorem JS(h:oM j=ac z):∃i q,j=.Call (.Name z.1 i) [z.2] [] q:=by
 unfold oM at h
 cases w:qA j with
 |none=>rw[w]at h;injection h
 |some x=>
  rw[w]at h;have w:=JW (f:=x.1) (a:=x.2.1) (b:=x.2.2.1) (p:=x.2.2.2) w;obtain⟨f,k,l,p⟩:=x;rcases k with _|⟨s,_|⟨t,r⟩⟩<;>first|(injection h;done)|skip
  induction l using List.casesOn<;>first|(injection h;done)|skip
  refine ak (Option.map_eq_some_iff.mp h) λg m n=>am (tM m) λi o=>?_;subst n;subst o;exact fq i p w
inductive mT:aY->Prop
 |name (x p):mT (.Name x p)
 |tup (h k p):mT (.Tuple h k p)
 |attr (o n p):mT (.Attribute o n p)
 |t (o i p):mT (.Subscript o i p)
 |S (f) (m:∀c v q,cS c (.Assign [f] v q)=ae) (g:∀c j v q,cS c (.AugAssign f j v q)=ae) (r:∀c l g q,cS c (.For f l g [] q)=ae):mT f
theorem Hh(f:aY):mT f:=by
 induction f using Expr.casesOn<;>first|exact .S _ (λg g g=>rfl) (λg g g g=>rfl) (λg g g g=>rfl)|exact .name _ _|exact .tup _ _ _|exact .attr _ _ _|exact .t _ _ _
theorem hZ{f:fO}(h:∀c,cS c f=ae):dP f:=λc=>.L (h c) .S
theorem Jx(h:∀f∈g,dP f):fQ g:=by
 induction g with
 |nil=>exact Ws|cons f r i=>exact Wr (h f HH) (i λx j=>h x (Sl _ j))
theorem a03(f:fQ j)(k:∀g x f h,i=[.ExceptHandler g x f h]->fQ f)(l:fQ m):dP (.Try j i o m n):=by
 cases o with
 |cons o s=>exact hZ λc=>rfl|nil=>
  rcases i with _|⟨⟨g,x,t,h⟩,_|⟨u,r⟩⟩
  ·exact aZ4 f l
  ·exact aZ5 f (k _ _ _ _ rfl)
  ·exact hZ λc=>rfl
theorem a01{t h:aY}{i o:List fO}{l:Pos}(j:fQ i):dP (.For t h i o l):=by
 cases o with
 |cons o u=>exact hZ λc=>rfl|nil=>
  induction Hh t using mT.casesOn with
  |S _ _ _ n=>exact hZ λc=>n c h i l|attr=>exact hZ λc=>rfl|t=>exact hZ λc=>rfl|name x p=>
   cases f:oM h with
   |none=>exact aY6 f j|some z=>refine eH (JS f) λr q g=>?_;subst g;exact aY7 j
  |tup s k v=>
   cases f:oM h with
   |none=>exact hZ λc=>DS.trans (by rw[f];rfl)
   |some z=>
    refine eH (JS f) λr q g=>?_;subst g
    cases m:BY s with
    |none=>exact hZ λc=>DS.trans (by rw[f,m];rfl)
    |some q=>refine eH (a82 m) λp d g=>?_;subst g;exact aY5 j
theorem a00:dP (.AugAssign t f v g):=by
 induction Hh t using mT.casesOn with
 |S _ _ h=>exact hZ λc=>h c f v g|name=>exact aY0|attr=>exact aY1|tup=>exact hZ λc=>rfl|t=>exact hZ λc=>rfl
theorem aZ8:dP (.Assign f v g):=by
 rcases f with _|⟨t,_|⟨j,r⟩⟩
 ·exact hZ λc=>rfl
 ·induction Hh t using mT.casesOn with
  |S _ h=>exact hZ λc=>h c v g|name=>exact aX8|tup=>exact aX9|attr=>exact aZ2|t o i p=>exact aZ3
 ·exact hZ λc=>rfl
set_option tactic.hygienic true in
theorem aZ7:∀(k:Nat) (g:fO),ve g<k->dP g:=by
 intro k
 induction k with
 |zero=>intro g h;exact absurd h (fw _)
 |succ k m=>
  have i:∀(f:List fO),ve f<=k->fQ f:=λf j=>Jx λg n=>m g (fu (bf6 n) j);clear m;intro g h
  induction g using Stmt.casesOn<;>first|exact hZ λc=>rfl|skip
  case Return=>exact aZ1
  case Pass=>exact aY9
  case Break=>exact aY2
  case Continue=>exact aY3
  case Expr=>exact aY4
  case Raise=>exact aZ0
  case If t r f l=>
   rw[Stmt.If.sizeOf_spec]at h;exact aY8 (i r (pM (ia h).2.1)) (i f (pM (ia h).2.2.1))
  case While t f o l=>
   rw[Stmt.While.sizeOf_spec]at h
   cases o with
   |nil=>exact aZ6 (i f (pM (ia h).2.1))|cons _ _=>exact hZ λc=>rfl
  case Assign=>exact aZ8
  case AugAssign=>exact a00
  case For t u f o l=>
   rw[Stmt.For.sizeOf_spec]at h;exact a01 (i f (CC (jg (eB (eB h)))))
  case Try f v o s l=>
   rw[Stmt.Try.sizeOf_spec]at h;refine a03 (i f (CC (jg (eB (eB (eB (eB h))))))) (λw x j y z=>i j ?_) (i s (CC (jg (eB h))));subst z;rw[HE,bm1]at h;exact CC (jg (eB (jg (eB (jg (eB (eB (eB h))))))))
theorem Wq(g:List fO):fQ g:=Jx λf h=>aZ7 (ve f+1) f (og _)
end
end
section
set_option tactic.hygienic false
open PySem PySem.W PyProof.Rows PySem.Calls Builtin Builtin.ObjectAttr
section
section
variable{D:Wd}{e:List Env}{d:List aj}{f:H}{s:az}{A:cB}{g:ca}{P:aZ}
theorem IY{i:Cl->Bool}(h:(P.cls C).any i=af):∃j,P.cls C=ac j/\i j=af:=HY h
theorem XA(T:Kt D g P)(I:ay D e d f s)(k:VR d s.heap (.str x) l)(m:(P.cls C).any (!·.isExc)=af):
  aB (Mo D) A (eN (.builtin "isinstance") [l,.ref C]) (bo VR (.ok (.j ag) f) D e d s.heap) (bF (.ok (.j ag) f:R V) D e d s.heap) s:=by
 refine ak (IY m) λn o v=>?_;have h:=T.inst C n o (by simpa using v);refine dy k λy t z=>?_;subst z;refine bk3 (S:=λL i s=>g.In s.heap/\i (.ok (.ret (.bool ag))) {s with toks:=s.toks+1}) (λB w A i s j=>?_) ⟨T.at I,dT I xD⟩;refine bk6 ?_ (by intro q;injection q);obtain⟨E,y,F,t,G⟩:=s;exact an4 j.1 h.m9 (by refine ak (HY h.cd) λJ q L=>?_;rw[q];rfl) j.2
theorem QU(k:g.In h)(i:iq g (.ref j)=ac t):∃o,h.get? j=ac o/\o.cls=t:=by
 unfold iq at i;dsimp only at i
 cases q:g.lookup j with
 |none=>rw[q]at i;injection i
 |some o=>rw[q]at i;exact al o (k _ _ q) (by simpa using i)
theorem Xz(T:Kt D g P)(I:ay D e d f s)(k:(P.fn h).isSome=af):
  aB (Mo D) A (eN (.builtin "isinstance") [.ref h,.type "tuple"]) (bo VR (.ok (.j ag) f) D e d s.heap) (bF (.ok (.j ag) f:R V) D e d s.heap) s:=by
 refine am (Option.isSome_iff_exists.mp k) λF l=>?_;refine ak (QU (T.at I) (T.fn h F l)) λo m n=>?_;refine bk3 (S:=λC i s=>s.heap.get? h=ac o/\i (.ok (.ret (.bool ag))) {s with toks:=s.toks+1}) (λv w A i s j=>?_) ⟨m,dT I xD⟩;refine bk6 ?_ (by intro q;injection q);obtain⟨x,y,z,t,B⟩:=s;exact an2 j.1 n j.2
theorem XB(I:ay D e d f s)(h:VR d s.heap (.tup a) i):
  aB (Mo D) A (eN (.builtin "isinstance") [i,.type "tuple"]) (bo VR (.ok (.j af) f) D e d s.heap) (bF (.ok (.j af) f:R V) D e d s.heap) s:=by
 refine jk h λq m o n j k=>?_;subst j;refine aP k λl q=>?_;exact IsiPair.tuple_tuple l rfl (jF I xD)
theorem Xx(T:Kt D g P)(I:ay D e d f s)(m:f[i]?=ac (.exc C z6 c))(ha:VR d s.heap (.obj i) va)(hC:(P.cls C).any (·.isExc)=af):
  aB (Mo D) A (eN (.builtin "Exception.__init__") [va,k]) (bo VR (.ok .none f) D e d s.heap) (bF (.ok .none f:R V) D e d s.heap) s:=by
 refine ak (IY hC) λcl h1 h2=>?_;refine(T.exc C cl h1 h2).U λnm q z9 bs sn za ab zb dd k0 k1 x k3 k5 zc hK Z=>?_;refine nS (Av I m) λl S a y U z e4 e5=>?_;refine ak (eC ha) λa' v B=>?_;subst B;rw[y]at v;(injection v with v;subst v);have F:=bj0;refine CZ (CM F.init.plain F.initEntry (wpAny_check_init_sub F (T.at I _ _ hK) U rfl ?_));unfold Builtin.«BaseException.__init__»;dsimp only;rw[if_neg (by simp)];unfold newTuple bl5;have n:=ie (h:=s.heap) {cls:=.type "tuple",data:=.seq [k].toArray} U;refine am (show∃Y,a[0]?=ac Y from⟨a[0],by simp[z]⟩) λY h0=>?_;have x:∀j o,s.heap.get? j=ac o->(s.heap.push {cls:=.type "tuple",data:=.seq [k].toArray}).get? j=ac o:=λj o m=>ie _ m;have E:ay D e d f {s with heap:=s.heap.push {cls:=.type "tuple",data:=.seq [k].toArray}}:=I.keeps x rfl rfl rfl;refine aD (yk (aD (aD (mM n rfl h0 (aD (Da n rfl (by rw[z];decide) ?_))))) (by show(1:Nat)<=mL;rw[yg];decide));have z4:((s.heap.push {cls:=.type "tuple",data:=.seq [k].toArray}).update l (gw (·.setIfInBounds 0 (.ref s.heap.objs.size)))).get? l=ac {cls:=.ref C,dict:=S,data:=.fields (a.setIfInBounds 0 (.ref s.heap.objs.size))}:=pC _ n rfl;have z7:∀j,j≠l->((s.heap.push {cls:=.type "tuple",data:=.seq [k].toArray}).update l (gw (·.setIfInBounds 0 (.ref s.heap.objs.size)))).get? j=(s.heap.push {cls:=.type "tuple",data:=.seq [k].toArray}).get? j:=λj G=>Cj _ _ (ik G);refine Ht (id (E.addr m)) λa2 w zd ze J p3 p4 p5=>?_;rw[y]at w;(injection w with w;subst w);dsimp only at J;rw[n]at J;cases J;obtain⟨L,I'⟩:=E.set (p:={s with heap:=(s.heap.push {cls:=.type "tuple",data:=.seq [k].toArray}).update l (gw (·.setIfInBounds 0 (.ref s.heap.objs.size)))}) (j:=i) (r:=l) (o:=.exc C z6 c) y (λj G ob q=>(z7 j G).trans q) (List.getElem?_eq_some_iff.mp m).1 (λz8=>by
   refine fi z8 λo b T t M z3=>?_;dsimp only at t;rw[n]at t;(injection t with t;subst t);(injection M with M;subst M);exact lZ _ _ T z4 rfl (by rw[Cg (by decide)];exact z3))
  (λL=>by
   refine qT S _ z4 (by simp[z]) ?_ ?_ ?_
   ·exact p4
   ·refine ak (p5.1) λtb N Q=>?_;refine al tb (by rw[Cg (by decide)];exact N) (Q.imp id ?_);intro B;refine bP B λT r1 r2 r3=>?_;exact br T r1 r2 (r3.kept L.kept (E.e2 T r3))
   ·refine ak (p5.2) λcx N Q=>?_;exact al cx (by rw[Cg (by decide)];exact N) Q) rfl rfl rfl
 rw[Qg m]at I';have z5:bo VR (.ok V.none f) D e d s.heap .none {s with heap:=(s.heap.push {cls:=.type "tuple",data:=.seq [k].toArray}).update l (gw (·.setIfInBounds 0 (.ref s.heap.objs.size)))}:=
  ⟨.none,f,d,rfl,bq.trans (.c0 x) L,I',uB⟩
 split
 ·exact wpAny_letGo (bz z5)
 ·exact bz (bz z5)
theorem aI.cons(h:aI d i (j::k) l):∃v r,l=v::r/\VR d i j v/\aI d i k r:=h
end
def Bo(u:sA)(A:cB)(p:Pt)(c:ah)(a:List ah)(r:R V):Prop:=vI u A p (eN c a) VR r
section
variable{u:sA}{A:cB}{p:Pt}{c:ah}{a b:List ah}{r:R V}{g:ca}{P:aZ}
theorem Bo.i:Bo u A p c a .i:=λj h=>absurd rfl h
theorem Bo.E{q:Prop}[Decidable q](k:q->Bo u A p c a r):Bo u A p c a (if q then r else .i):=by
 by_cases h:q
 ·rw[if_pos h];exact k h
 ·rw[if_neg h];exact .i
theorem Bo.list{F:List V->R V}(k:∀l,p.σ[h]?=ac (.list l)->Bo u A p c a (F l)):Bo u A p c a (rt p.σ h F):=by
 unfold rt
 cases j:p.σ[h]? with
 |none=>exact .i|some o=>induction o using O.casesOn with
  |list l=>exact k l j|_=>exact .i
theorem Bo.cons{F:List V->R V}(m:aI p.ρ p.s.heap j a)(n:F []=.i)(k:∀h t v l,VR p.ρ p.s.heap h v->aI p.ρ p.s.heap t l->Bo u A p c (b++v::l) (F (h::t))):Bo u A p c (b++a) (F j):=by
 cases j with
 |nil=>rw[n];exact .i
 |cons h t=>exact bE m.cons λv l z o q=>z▸k h t v l o q
theorem Bo.nil{F:List V->R V}(l:aI p.ρ p.s.heap h a)(n:∀j t,F (j::t)=.i)(k:Bo u A p c b (F [])):Bo u A p c (b++a) (F h):=by
 cases h with
 |nil=>rw[show a=[]from l,cR];exact k
 |cons j t=>rw[n];exact .i
theorem WC(k:aI p.ρ p.s.heap m a):Bo u A p (.builtin "len") a (oG p.σ m):=.cons (b:=[]) (F:=oG p.σ) k rfl λn t v l h j=>by
 induction n using V.casesOn with
 |str x=>exact .nil (b:=[v]) (F:=λt=>oG p.σ (.str x::t)) j (λq q=>rfl) λI q=>JX I h (.inl (al _ rfl rfl))|obj i=>exact .nil (b:=[v]) (F:=λt=>oG p.σ (.obj i::t)) j (λq q=>rfl) (.list λl o I q=>JX I h (.inr (bw _ _ rfl o rfl)))|_=>exact .i
theorem WE(h:aI p.ρ p.s.heap i a):Bo u A p (.builtin "ord") a (qw p.σ i):=.cons (b:=[]) (F:=qw p.σ) h rfl λj t v l k m=>by
 induction j using V.casesOn with
 |str x=>cases x with
  |nil=>exact .i|cons n x=>cases x with
   |nil=>exact .nil (b:=[v]) (F:=λt=>qw p.σ (.str [n]::t)) m (λo o=>rfl) λI o=>XF I k|cons o o=>exact .i
 |_=>exact .i
theorem hB.free{i:Option Nat}{e:List Env}{d:List aj}(k:hB A i e d)(h:¬i.isSome=af):A.handled=ae:=by
 cases i with
 |none=>exact k.hd|some j=>exact absurd rfl h
theorem WI(m:hB A j u.envs p.ρ)(n:aI p.ρ p.s.heap o a):Bo u A p (.builtin "sum") a (vR j p.σ o):=.cons (b:=[]) (F:=vR j p.σ) n rfl λw t v l x y=>by
 induction w using V.casesOn with
 |obj i=>exact .nil (b:=[v]) (F:=λt=>vR j p.σ (.obj i::t)) y (λB B=>rfl) (.list (F:=λa=>match mc a with|some k=>if j.isSome then .i else .ok (.a k.sum) p.σ|Option.none=>.i) λl z=>by
   cases q:mc l with
   |none=>exact .i|some k=>
    by_cases h:j.isSome=af
    ·exact(congrArg _ (if_pos h)).mpr .i
    ·exact(congrArg _ (if_neg h)).mpr λI B=>XM I (m.free h) z q x)
 |_=>exact .i
theorem WA(T:Kt u.D g P)(k:aI p.ρ p.s.heap m a):Bo u A p (.builtin "isinstance") a (sI P p.σ m):=.cons (b:=[]) (F:=sI P p.σ) k rfl λx t v l i n=>.cons (b:=[v]) (F:=λt=>sI P p.σ (x::t)) n rfl λy t w l o q=>by
 induction y using V.casesOn with
 |m c=>exact .nil (b:=[v,w]) (F:=λt=>sI P p.σ (x::.m c::t)) q (λE E=>rfl) ((show w=c from o)▸by
   induction x using V.casesOn with
   |str x=>induction w using Value.casesOn with
    |ref C=>exact .E λh I E=>XA T I i h|_=>exact .i
   |m j=>induction j using Value.casesOn with
    |ref j=>exact .E λh=>aP (Bool.and_eq_true_iff.mp h) λz B I E=>(show v=_ from i)▸(of_decide_eq_true z)▸Xz T I B
    |_=>exact .i
   |tup l=>exact .E λh I E=>h▸XB I i|_=>exact .i)
 |_=>exact .i
theorem WH(j:aI p.ρ p.s.heap k a):Bo u A p (.type "str") a (qx p.σ k):=.cons (b:=[]) (F:=qx p.σ) j rfl λm t v l n o=>by
 induction m using V.casesOn with
 |a i=>exact .nil (b:=[v]) (F:=λt=>qx p.σ (.a i::t)) o (λx x=>rfl) (.E λh I x=>aP (Bool.and_eq_true_iff.mp h) λq w=>XJ I ⟨of_decide_eq_true q,of_decide_eq_true w⟩ n)|_=>exact .i
theorem WJ(h:aI p.ρ p.s.heap j a):Bo u A p (.type "tuple") a (qy p.σ j):=.cons (b:=[]) (F:=qy p.σ) h rfl λk t v l m n=>by
 induction k using V.casesOn with
 |obj i=>exact .nil (b:=[v]) (F:=λt=>qy p.σ (.obj i::t)) n (λq q=>rfl) (.list (F:=λa=>.ok (.tup a) p.σ) λl o I q=>XO I o m)|_=>exact .i
theorem Wz(k:VR p.ρ p.s.heap (.str x) j)(o:aI p.ρ p.s.heap q a):Bo u A p (.builtin "str.find") (j::a) (xd p.σ x q):=.cons (b:=[j]) (F:=xd p.σ x) o rfl λB t v l m n=>by
 induction B using V.casesOn with
 |str y=>cases y with
  |nil=>exact .i|cons C y=>cases y with
   |cons M M=>exact .i|nil=>cases t with
    |nil=>
     rw[show l=[]from n];exact λI M=>JV (h:=ae) I k m (.inl ⟨rfl,rfl⟩)
    |cons i t=>
     refine bE n.cons λw L z E F=>?_;rw[z]
     induction i using V.casesOn with
     |a i=>exact .nil (b:=[j,v,w]) (F:=λt=>xd p.σ x (.str [C]::.a i::t)) F (λM M=>rfl) (.E λh I M=>aP (Bool.and_eq_true_iff.mp h) λG J=>JV (h:=ac (.a i)) I k m (.inr (qT i w rfl rfl E (of_decide_eq_true G) (of_decide_eq_true J))))|_=>exact .i
 |_=>exact .i
theorem WG(i:VR p.ρ p.s.heap (.str x) h)(j:aI p.ρ p.s.heap k a):Bo u A p (.builtin "str.startswith") (h::a) (xe p.σ x k):=.cons (b:=[h]) (F:=xe p.σ x) j rfl λm t v l n o=>by
 induction m using V.casesOn with
 |str y=>exact .nil (b:=[h,v]) (F:=λt=>xe p.σ x (.str y::t)) o (λq q=>rfl) λI q=>XH I i n|_=>exact .i
theorem WB(k:VR p.ρ p.s.heap (.str x) j)(m:aI p.ρ p.s.heap n a):Bo u A p (.builtin "str.join") (j::a) (uc p.σ x n):=.cons (b:=[j]) (F:=uc p.σ x) m rfl λo t v l w y=>by
 induction o using V.casesOn with
 |obj i=>exact .nil (b:=[j,v]) (F:=λt=>uc p.σ x (.obj i::t)) y (λJ J=>rfl) (.list (F:=λa=>match gV a with|some l=>if x=[]&&l.flatten.length<=big&&l.length<=big then .ok (.str l.flatten) p.σ else .i|Option.none=>.i) λl z=>by
   cases q:gV l with
   |none=>exact .i|some G=>exact .E λh I J=>aP (Bool.and_eq_true_iff.mp h) λB C=>aP (Bool.and_eq_true_iff.mp B) λE F=>XC I z q (of_decide_eq_true F) (of_decide_eq_true C) ((of_decide_eq_true E:x=[])▸k) w)
 |_=>exact .i
theorem Wv{i:Nat}{b:List V}{k:List V}{j:ah}(m:p.σ[i]?=ac (.list b))(n:VR p.ρ p.s.heap (.obj i) j)(o:aI p.ρ p.s.heap k a):Bo u A p (.builtin "list.append") (j::a) (tG p.σ i b k):=.cons (b:=[j]) (F:=tG p.σ i b) o rfl λq t v l w x=>
 .nil (b:=[j,v]) (F:=λt=>tG p.σ i b (q::t)) x (λy y=>rfl) (.E λh I y=>JT I m n w h)
theorem Wy{i:Nat}{b:List V}{m:List V}{k:ah}(n:p.σ[i]?=ac (.list b))(o:VR p.ρ p.s.heap (.obj i) k)(q:aI p.ρ p.s.heap m a):Bo u A p (.builtin "list.extend") (k::a) (wG p.σ i b m):=.cons (b:=[k]) (F:=wG p.σ i b) q rfl λw t v l x y=>by
 induction w using V.casesOn with
 |obj j=>exact .nil (b:=[k,v]) (F:=λt=>wG p.σ i b (.obj j::t)) y (λB B=>rfl) (.list λl z=>.E λh I B=>Xy I n z o x (of_decide_eq_true (Bool.and_eq_true_iff.mp h).2))|_=>exact .i
theorem WF{i:Nat}{b:List V}{j:List V}{h:ah}(n:p.σ[i]?=ac (.list b))(o:VR p.ρ p.s.heap (.obj i) h)(q:aI p.ρ p.s.heap j a):Bo u A p (.builtin "list.pop") (h::a) (wH p.σ i b j):=.cons (b:=[h]) (F:=wH p.σ i b) q rfl λx t v l y B=>by
 induction x using V.casesOn with
 |a k=>
  by_cases z:k=0
  ·refine .nil (b:=[h,v]) (F:=λt=>wH p.σ i b (.a k::t)) B (λE E=>z▸rfl) ?_
   cases b with
   |nil=>exact z▸.i|cons w b=>exact am y λt C=>C▸z▸λI E=>XG I n o
  ·induction k using Int.casesOn with
   |ofNat m=>cases m with
    |zero=>exact absurd rfl z|succ m=>exact .i
   |negSucc m=>exact .i
 |_=>exact .i
theorem Ww(n:aI p.ρ p.s.heap q a):Bo u A p (.builtin "dict.pop") a (vQ p.σ q):=.cons (b:=[]) (F:=vQ p.σ) n rfl λj t v l y z=>by
 induction j using V.casesOn with
 |obj i=>
  show Bo u A p _ _ (match p.σ[i]? with|some (.dict h m)=>Ai p.σ i h m (nm "pop") t|_=>.i)
  cases B:p.σ[i]? with
  |none=>exact .i|some o=>induction o using O.casesOn with
   |dict h m=>
    refine .cons (b:=[v]) (F:=qD p.σ i h) z rfl λj t w l C E=>?_
    induction j using V.casesOn with
    |str k=>
     refine .cons (b:=[v,w]) (F:=λt=>qD p.σ i h (.str k::t)) E rfl λF t x l G J=>?_
     induction F using V.casesOn with
      |none=>exact .nil (b:=[v,w,x]) (F:=λt=>qD p.σ i h (.str k::.none::t)) J (λL L=>rfl) ((show x=_ from G)▸λI L=>Xw I B y C)
      |_=>exact .i
    |_=>exact .i
   |_=>exact .i
 |_=>exact .i
theorem Wx(T:Kt u.D g P)(h:aI p.ρ p.s.heap j a):Bo u A p (.builtin "Exception.__init__") a (qt P p.σ j):=.cons (b:=[]) (F:=qt P p.σ) h rfl λk t v l m n=>by
 induction k using V.casesOn with
 |obj i=>
   refine .cons (b:=[v]) (F:=λt=>qt P p.σ (.obj i::t)) n rfl λq t w l E y=>?_
   induction q using V.casesOn with
   |str x=>
    refine .nil (b:=[v,w]) (F:=λt=>qt P p.σ (.obj i::.str x::t)) y (λG G=>rfl) ?_;show Bo u A p _ _ (match p.σ[i]? with|some (.exc C _ _)=>if(P.cls C).any (·.isExc)then .ok .none p.σ else .i|_=>.i)
    cases z:p.σ[i]? with
    |none=>exact .i|some o=>induction o using O.casesOn with
     |exc C F c=>exact .E λB I G=>Xx T I z m B|_=>exact .i
   |_=>exact .i
 |_=>exact .i
theorem DP(j:aI p.ρ p.s.heap h a)(k:∀x i h a,VR p.ρ p.s.heap (.str x) i->aI p.ρ p.s.heap h a->Bo u A p c (i::a) (pq p.σ x n h)):Bo u A p c a (gO p.σ n h):=.cons (b:=[]) (F:=gO p.σ n) j rfl λm t v l o q=>by
 induction m using V.casesOn with
 |str x=>exact k x v t l o q|_=>exact .i
theorem DO(m:aI p.ρ p.s.heap h a)(k:∀i b j h a,p.σ[i]?=ac (.list b)->VR p.ρ p.s.heap (.obj i) j->aI p.ρ p.s.heap h a->Bo u A p c (j::a) (ml p.σ i b n h)):Bo u A p c a (kL p.σ n h):=.cons (b:=[]) (F:=kL p.σ n) m rfl λo t v l q w=>by
 induction o using V.casesOn with
 |obj i=>exact .list λb x=>k i b v t l x q w|_=>exact .i
theorem aw9:pq h s (nm "find") i=xd h s i:=if_pos rfl
theorem aw7{h:H}{i:Nat}{a j:List V}:ml h i a (nm "append") j=tG h i a j:=if_pos rfl
theorem ax2:pq h s (nm "startswith") i=xe h s i:=by kernel_rfl
theorem ax0:pq h s (nm "join") i=uc h s i:=by kernel_rfl
theorem aw8{h:H}{i:Nat}{a j:List V}:ml h i a (nm "extend") j=wG h i a j:=by kernel_rfl
theorem ax1{h:H}{i:Nat}{a j:List V}:ml h i a (nm "pop") j=wH h i a j:=by kernel_rfl
noncomputable def IC{h:Type}(Q:h->Prop):List h->Prop
 |[]=>True|i::l=>Q i/\IC Q l
theorem WD(h:IC (λq=>Bo u A p q.1 a q.2) l):Bo u A p c a ((l.lookup c).getD .i):=by
 induction l with
 |nil=>exact .i|cons q l i=>
  rw[jP]
  cases j:c==q.1 with
  |true=>exact cW j▸h.1|false=>exact i h.2
theorem WX(T:Kt u.D g P)(n:hB A l u.envs p.ρ)(h:aI p.ρ p.s.heap m a):Bo u A p c a (dX P l p.σ c m):=
 WD (l:=Ju P l p.σ m) (Fc (WC h) (WE h) (WI n h) (WA T h) (WH h) (WJ h) (DP h λo o o o i j=>aw9▸Wz i j) (DP h λo o o o i j=>ax2▸WG i j) (DP h λo o o o i j=>ax0▸WB i j) (DO h λo o o o o k i j=>aw7▸Wv k i j) (DO h λo o o o o k i j=>aw8▸Wy k i j) (DO h λo o o o o k i j=>ax1▸WF k i j) (Ww h) (Wx T h) trivial)
end
theorem WY{D:Wd}{e:List Env}{d:List aj}{f:H}{s:az}{A:cB}{g:ca}{P:aZ}{h:Option Nat}{c:ah}{i:List V}{a:List ah}{r:R V}(T:Kt D g P)(j:hB A h e d)(I:ay D e d f s)(k:aI d s.heap i a)(l:dX P h f c i=r)(m:r≠.i):
  aB (Mo D) A (eN c a) (bo VR r D e d s.heap) (bF r D e d s.heap) s:=(l▸WX (u:=⟨D,e⟩) (p:=⟨d,f,s⟩) T j k:Bo ⟨D,e⟩ A ⟨d,f,s⟩ c a r) I m
end
end
section
set_option tactic.hygienic false
open PySem PySem.W PyProof.Rows PySem.Calls
section
noncomputable def po(p:Str×ah)(f:List (Str×ah)):List (Str×ah):=if(f.lookup p.1).isNone then f++[(p.1,p.2)]else f
theorem aW9{M f:List (Str×ah)}:(∀p∈M,(f.lookup p.1).isSome=af)->M.foldl (λj k=>po k j) f=f:=by
 induction M with
 |nil=>exact λo=>rfl|cons p r l=>
  intro h;have i:po p f=f:=if_neg λi=>by have w:=h p (.head _);rw[Option.isNone_iff_eq_none.mp i]at w;injection w
  rw[be2,i];exact l λq n=>h q (.tail _ n)
theorem Ok{l:List (Str×ah)}{p:Str×ah}:(l.map (·.1)).Nodup->p∈l->l.lookup p.1=ac p.2:=by
 induction l with
 |nil=>exact λn h=>nomatch h|cons x r j=>
  intro i f;rw[eU,xN]at i;refine(List.mem_cons.mp f).elim (λz=>?_) λf=>?_
  ·subst z;exact List.lookup_cons_self
  ·have:(p.1==x.1)=ag:=beq_eq_false_iff_ne.mpr λk=>i.1 (k▸Sm f);show(match p.1==x.1 with|true=>ac x.2|false=>r.lookup p.1)=_;rw[this];exact j i.2 f
theorem aW7:∀{f:List (Str×ah)},(M.map (·.1)).Nodup->(∀p∈M,f.lookup p.1=ae)->M.foldl (λl n=>po n l) f=f++M:=by
 induction M with
 |nil=>exact λt t=>(cR _).symm|cons p r o=>
  intro f i h;rw[eU,xN]at i;have j:po p f=f++[p]:=if_pos (by rw[h p (.head _)];rfl);rw[be2,j,o i.2 λq k=>?_,bt];rfl;rw[List.lookup_append,h q (.tail _ k),Option.none_or];show(match q.1==p.1 with|true=>ac p.2|false=>ae)=ae;rw[show(q.1==p.1)=ag from beq_eq_false_iff_ne.mpr λj=>i.1 (j▸Sm k)]
theorem au9{l:List (Str×ah)}{x:Str}(h:x∉l.map (·.1)):l.lookup x=ae:=by
 induction l with
 |nil=>rfl|cons p r f=>
  rw[eU,iR,not_or]at h;obtain⟨i,j⟩:=p;have:(x==i)=ag:=beq_eq_false_iff_ne.mpr h.1;rw[jP,this];exact f h.2
theorem ad0{l:List (Str×ah)}(f:(l.map (·.1)).Nodup):(l.map (·.1)).filterMap (λn=>(l.lookup n).map (n,·))=l:=by
 rw[bd6];have:∀(r:List (Str×ah)),(∀p∈r,p∈l)->r.filterMap ((λn=>(l.lookup n).map (n,·))∘(·.1))=r:=by
  intro r
  induction r with
  |nil=>intro k;rfl
  |cons p r i=>
   intro h;rw[Cp];simp only[Function.comp,Ok f (h p (.head _)),bi5];rw[i λq j=>h q (.tail _ j)]
 exact this l λk h=>h
theorem AC{d c:Type}{l:List d}:∀{f:List c},(l.zip f).map (·.1)=l.take f.length:=by
 induction l with
 |nil=>intro f;rw[List.zip_nil_left,HM];rfl
 |cons i r h=>
  intro f
  cases f with
  |nil=>rfl|cons j k=>rw[List.zip_cons_cons,eU,h];rfl
theorem LR{d c:Type}{g:Nat}{l:List d}{f:List c}:(l.zip f).drop g=(l.drop g).zip (f.drop g):=by rw[HO,HO,List.drop_zipWith]
theorem QH{d c:Type}{g:Nat}{l:List d}{f:List c}:(l.zip f).take g=(l.take g).zip (f.take g):=by rw[HO,HO,List.take_zipWith]
section
variable{N:List Str}{a b:List ah}{m g:Nat}
theorem NR(h:N.Nodup){n:Str}(f:n∈N.take a.length):((N.zip a).lookup n).isSome=af:=by
 rw[<-AC]at f;refine ak (List.mem_map.mp f) λp i z=>?_;rw[<-z,Ok (by rw[AC];exact h.sublist (HN ..)) i];rfl
theorem aq4(f:N.Nodup){n:Str}(i:n∈N.drop a.length):(N.zip a).lookup n=ae:=au9 λh=>by
 rw[AC]at h;rw[<-Cy a.length N,HI]at f;exact f.2.2 n h n i rfl
theorem aq3(f:N.Nodup)(l:m<=a.length):((N.take m).filter λn=>((N.zip a).lookup n).isNone)=[]:=List.filter_eq_nil_iff.mpr λn h i=>by
 have q:=NR f ((List.take_sublist_take_left l).subset h);rw[Option.isNone_iff_eq_none.mp i]at q;exact nomatch q
theorem aq1(j:N.Nodup)(l:m+g=a.length)(o:a.length<=N.length):((N.drop m).zip b).foldl (λf h=>po h f) (N.zip a)=N.zip (a++b.drop g):=by
 have r:(((N.drop m).zip b).take g).foldl (λf h=>po h f) (N.zip a)=N.zip a:=aW9 λp i=>NR j (by
  rw[QH]at i;have q:=(So i).1;rw[List.take_drop,l]at q;exact(Sc ..).subset q)
 have t:(((N.drop m).zip b).drop g).foldl (λf h=>po h f) (N.zip a)=N.zip a++((N.drop m).zip b).drop g:=by
  rw[LR,Sb,l];exact aW7 (by rw[AC];exact j.sublist ((HN ..).trans (Sc ..))) λp i=>aq4 j (So i).1
 rw[<-Cy g ((N.drop m).zip b),be1,r,t,LR,Sb,l];have k:=bg0 (l₁:=N.take a.length) (r₁:=N.drop a.length) (l₂:=a) (r₂:=b.drop g) (List.length_take_of_le o:(N.take a.length).length=a.length);rw[Cy]at k;rw[k];have n:=QH (g:=a.length) (l:=N) (f:=a);rw[bf8,xP (by rw[Sk];exact Sy ..)]at n;rw[n]
theorem aq0(h:N.Nodup)(l:m+g=a.length)(i:N.length<=m+b.length):(N.filterMap λn=>((N.zip (a++b.drop g)).lookup n).map (n,·))=N.zip (a++b.drop g):=by
 have f:(N.zip (a++b.drop g)).map (·.1)=N:=Cw (by
  rw[aU,xL,<-l];exact aV i (by rw[iS];exact xQ (Nat.sub_le_iff_le_add'.mp (bI _)) m))
 have q:=ad0 (l:=N.zip (a++b.drop g)) (by rw[f];exact h);rw[f]at q;exact q
end
section
variable{M:pJ}{A:cB}{E:ah->az->Prop}{s:az}{d c e:Type}{Q:c->az->Prop}
theorem a90{l:List d}{h r:c}{F:d->c->Sem (ForInStep c)}{f:d->c->c}(j:∀i h,F i h=bx (.yield (f i h)))(n:l.foldl (λh i=>f i h) h=r)(k:Q r s):aB M A (forIn l h F) Q E s:=by
 rw[show F=λi h=>bx (.yield (f i h))from funext λi=>funext (j i),List.forIn_pure_yield_eq_foldl,n];exact bz k
end
theorem Wp{s:az}{l:uO}{f:List Arg}{u:List (Option aY)}{v:List aY}{a:List ah}{i:Option (Array ah)}{m g:Nat}
  (j:(f.map (·.arg)).Nodup) (w:∀(M:pJ) (A:cB) (E:ah->az->Prop) (Q:Option (Array ah)->az->Prop),Q i s->aB M A (It l.defaults) Q E s)
  (o:a.length<=(f.map (·.arg)).length) (k:m+g=a.length) (y:(f.map (·.arg)).length<=m+(i.getD #[]).toList.length) (p:(f.map (·.arg)).length-(i.getD #[]).toList.length=m) (z:(i.getD #[]).toList.length-(f.map (·.arg)).length=0):
  BindsTo s {l with params:=⟨[],f,ae,[],u,ae,v⟩} ⟨a,[]⟩ ((f.map (·.arg)).zip (a++(i.getD #[]).toList.drop g)):=λM A E Q B=>by
 have r:(i.getD #[]).toList.drop ((i.getD #[]).toList.length-(f.map (·.arg)).length)=(i.getD #[]).toList:=by rw[z];rfl
 unfold bindArgs;dsimp only;refine aD (bz (aD (w M A E _ (uE (λh=>Nat.not_lt.mpr o (of_decide_eq_true (Bool.and_eq_true_iff.mp h).1)) (uE (λh=>?_) (aD (a90 (f:=po) (λC t=>(apply_ite (λt=>bx (Ci t)) ..).symm) (r:=(f.map (·.arg)).zip (a++(i.getD #[]).toList.drop g)) ?_ (aD (bz (uE (λh=>nomatch h) (bz ?_)))))))))))
 ·have q:=aq3 (m:=m) j (k▸dm ..);rw[<-p]at q;have h:(!(List.filter (λn=>(Cu n ((f.map (·.arg)).zip a)).isNone) (Sr ((f.map (·.arg)).length-((i.getD #[]).toList.drop ((i.getD #[]).toList.length-(f.map (·.arg)).length)).length) (f.map (·.arg)))).isEmpty)=af:=h;rw[r,q]at h;exact nomatch h
 ·show List.foldl _ _ (List.zip (Sa ((f.map (·.arg)).length-((i.getD #[]).toList.drop ((i.getD #[]).toList.length-(f.map (·.arg)).length)).length) (f.map (·.arg))) ((i.getD #[]).toList.drop ((i.getD #[]).toList.length-(f.map (·.arg)).length)))=_;rw[r,p];exact aq1 j k o
 ·show Q (bd5 (λn=>eJ (λx=>(n,x)) (Cu n ((f.map (·.arg)).zip (a++(i.getD #[]).toList.drop g)))) (f.map (·.arg)++[])) s;rw[cR,aq0 j k y];exact B
theorem aG4{p:pA}(h:p.posonlyargs=[])(i:p.kwonlyargs=[])(j:p.vararg=ae)(k:p.kwarg=ae):p=⟨[],p.args,ae,[],p.kw_defaults,ae,p.defaults⟩:=by
 induction p using Arguments.casesOn with
 |mk l q n o r f g=>rw[show l=[]from h,show o=[]from i,show n=ae from j,show f=ae from k]
theorem ac6{f:uO}{p:pA}(h:f.params=p):f={f with params:=p}:=h▸rfl
theorem Wo{s:az}{f:uO}{a b:List ah}{j:Option (Array ah)}(n:f.params.posonlyargs=[])(o:f.params.kwonlyargs=[])(p:f.params.vararg=ae)(q:f.params.kwarg=ae)
  (r:(f.params.args.map (·.arg)).Nodup) (t:∀(M:pJ) (A:cB) (E:ah->az->Prop) (Q:Option (Array ah)->az->Prop),Q j s->aB M A (It f.defaults) Q E s)
  (h:(j.getD #[]).toList=b) (k:a.length<=f.params.args.length) (u:f.params.args.length<=a.length+b.length) (l:b.length<=f.params.args.length):
  BindsTo s f ⟨a,[]⟩ ((f.params.args.map (·.arg)).zip (a++b.drop (b.length-(f.params.args.length-a.length)))):=by
 have i:(f.params.args.map (·.arg)).length=f.params.args.length:=bH _;rw[bh5 _ k,nX,<-bh5 _ l,(ac6 (aG4 n o p q)),<-h];exact Wp (m:=f.params.args.length-b.length) r t (i▸k) (by rw[h];exact rQ (Nat.sub_le_of_le_add u:f.params.args.length-b.length<=a.length)) (by rw[h,i];exact Nat.sub_le_iff_le_add.mp (bI _)) (by rw[h,i]) (by rw[h,i];exact Sz l)
end
section
noncomputable def mi(c:pA)(a:iT):Bool:=
 (gS c a).all (λo=>match o with|some (x,b)=>a.names.lookup x==ac (if b then .cell else .local)|none=>af)&&bf (((gS c a).filterMap (·.map (·.1))).Nodup)
def Dd(a:ca)(b:ah)(c:List V):Prop:=(b=.none/\c=[])\/∃T o d n,b=.ref T/\a.lookup T=ac o/\o.data=.seq d n/\∀(e:List aj) (h:aS),a.In h->aI e h c d.toList
structure UB(c:ca)(d:List (Str×ah))(F:Fn)(a:uO)(b:List fO):Prop where
 code:codeIn c a.code a.qualname=af
 co:a.scope.isCoroutine=ag
 p6:a.scope.isGenerator=ag
 c8:a.scope.kind=.function
 p1:a.params.posonlyargs=[]
 p2:a.params.kwonlyargs=[]
 p3:a.params.vararg=ae
 p4:a.params.kwarg=ae
 p7:a.globals=kB
 p8:a.closure=[]
 p9:a.builtins=xZ
 body:a.body=.stmts b
 cF:cF d a.params b a.scope F.c5=ac F
 c5:Dd c a.defaults F.c5
 dl:F.c5.length<=F.c4
 lay:mi a.params a.scope=af
def IJ(a:ca)(d:List (Str×ah))(f:aj)(F:Fn):Prop:=∃o c b,a.lookup f=ac o/\o.data=.func c/\UB a d F c b
theorem Fw:∃r,gS a b=(a.args.map (·.arg)).map (λx=>ac (x,b.names.lookup x==ac .cell))++r:=by
 unfold gS;dsimp only;rw[pF,bt];exact⟨_,rfl⟩
theorem Fx(h:mi c a=af):sr ⟨a,gS c a,d⟩:=by
 intro i x b e;unfold mi at h;rw[dO]at h;have:=List.all_eq_true.mp h.1 _ (bT e);simpa using this
theorem am2(a:(l.filterMap (·.map (·.1))).Nodup):qm l:=by
 induction l with
 |nil=>exact λc q q q q h=>nomatch(Sg (i:=c)).symm.trans h|cons o r n=>
  have p:(r.filterMap (·.map (·.1))).Nodup:=by
   rw[Cp]at a
   cases o with
   |none=>exact a|some y=>exact(List.nodup_cons.mp a).2
  have m:∀{x:Str} {b:Bool} {k:Nat} {d:Bool},o=ac (x,b)->r[k]?=ac (ac (x,d))->False:=λz e=>by
   rw[z,Cp]at a;exact(List.nodup_cons.mp a).1 ((λe=>List.mem_filterMap.mpr (al _ (bT e) rfl):∀{k:Nat} {x:Str} {b:Bool},r[k]?=ac (ac (x,b))->x∈r.filterMap (·.map (·.1))) e)
  intro c j x b d f g
  cases c with
  |zero=>cases j with
   |zero=>rfl|succ j=>exact(m (ax f) g).elim
  |succ c=>cases j with
   |zero=>exact(m (ax g) f).elim|succ j=>exact congrArg xT (n p c j x b d f g)
theorem as3(h:mi a b=af):qm (gS a b):=by
 unfold mi at h;rw[dO]at h;exact am2 (of_decide_eq_true h.2)
section
variable{k:Str->Option mI}{x:Str}{v:ah}
theorem Ov(h:(x,v)∈(n,w)::r):(x=n/\v=w)\/(x,v)∈r:=(List.mem_cons.mp h).imp io id
theorem Wk(l:List (Str×ah)):∀m:Str->Option ah,x∉l.map (·.1)->xX k l m x=m x:=by
 induction l with
 |nil=>exact λb b=>rfl|cons p r a=>
  intro m h;rw[eU,iR,not_or]at h;unfold xX;rw[a _ h.2];split
  ·exact if_neg h.1
  ·rfl
theorem Wj(l:List (Str×ah)):∀m:Str->Option ah,∀(x:Str) (v:ah),(l.map (·.1)).Nodup->(x,v)∈l->k x=ac .local->xX k l m x=ac v:=by
 induction l with
 |nil=>exact λd d d d h=>nomatch h|cons p r c=>
  intro m x v a h b;rw[eU,xN]at a;unfold xX;refine(Ov h).elim (λe=>?_) λh=>c _ x v a.2 h b;rw[<-e.1]at a⊢;rw[Wk r _ a.1,if_pos b,e.2];exact if_pos rfl
theorem Wi(l:List (Str×ah)):∀m:Str->Option ah,x∉l.map (·.1)->CL k l m x=m x:=by
 induction l with
 |nil=>exact λb b=>rfl|cons p r a=>
  intro m h;rw[eU,iR,not_or]at h;unfold CL;rw[a _ h.2];split
  ·rfl
  ·exact if_neg h.1
theorem Wh(l:List (Str×ah)):∀m:Str->Option ah,∀(x:Str) (v:ah),(l.map (·.1)).Nodup->(x,v)∈l->k x=ac .cell->CL k l m x=ac v:=by
 induction l with
 |nil=>exact λd d d d h=>nomatch h|cons p r c=>
  intro m x v a h b;rw[eU,xN]at a;unfold CL;refine(Ov h).elim (λe=>?_) λh=>c _ x v a.2 h b;rw[<-e.1]at a⊢;rw[Wi r _ a.1,if_neg (by rw[b];exact λz=>nomatch z),e.2];exact if_pos rfl
end
theorem aI.at:∀{c:List ah} {b:Nat} {v:V},aI f g d c->d[b]?=ac v->∃w,c[b]?=ac w/\VR f g v w:=by
 induction d with
 |nil=>exact λ{_ b _} _ e=>nomatch(Sg (i:=b)).symm.trans e|cons a d j=>
  intro c b v h e;refine bE h λw r z l m=>?_;rw[z]
  cases b with
  |zero=>exact al w rfl (ax e▸l)|succ b=>exact j (b:=b) m e
end
section
noncomputable def FB(r:X):R V:=match r with
 |some (.next,_,l)=>.ok .none l|some (.B v,_,l)=>.ok v l|some (.exc i,_,l)=>.exc i l|_=>.i
noncomputable def jv(P:aZ)(e:aj->Option (List Int))(C:bc)(g:Nat)(F:Fn)(i:List V)(f:Option Nat)(l:H):R V:=match fS F i with
 |some m=>FB (aJ P e C g F.body m l f)|none=>.i
structure Base(D:Wd)(h:ca)(P:aZ)(e:aj->Option (List Int))(d:List (Str×ah))(j k:Str->Option ah):Prop where
 T:Kt D h P
 G:Gl D d j k
 fn:∀l F,P.fn l=ac F->IJ h d l F
 i3:∀m i,e m=ac i->i.length<=big/\∃p q o,D.base.get? m=ac o/\o.cls=.type "list"/\o.data=.seq p q/\uP p.toList i
theorem JR(i:cF d l o m p=ac F):
  fC ⟨m,gS l m,d⟩ o=ac F.body/\F.c4=l.args.length/\F.h2=(gS l m).length/\F.c5=p:=by
 unfold cF at i;refine ak (Option.bind_eq_some_iff.mp i) λr q i=>?_
 (injection i with i;subst i)
 exact dE q rfl rfl rfl
theorem jf{m o:Type}[BEq m][LawfulBEq m]{l:List (m×o)}{x:m}{y:o}(i:l.lookup x=ac y):(x,y)∈l:=by
 induction l with
 |nil=>exact nomatch i|cons p r t=>
  obtain⟨u,v⟩:=p;rw[jP]at i;by_cases q:(x==u)=af
  ·rw[q]at i;rw[<-ax i,cW q];exact .head _
  ·rw[bb4]at q;rw[q]at i;exact .tail _ (t i)
theorem aN8:recursionLimit=1000:=rfl
section
variable{D:Wd}{h:ca}{P:aZ}{e:aj->Option (List Int)}{C:bc}{n g:Nat}{d:List (Str×ah)}{j k:Str->Option ah}
variable{A:cB}{f:Option Nat}{c:List Env}{a:List aj}{b:H}{s:az}
theorem ay.size(I:ay D c a b s)(p:s.heap.objs.size<=l):D.base.get? l=ae/\l∉a:=by
 refine⟨?_,λm=>?_⟩
 ·cases q:D.base.get? l with
  |none=>rfl|some o=>exact absurd (fj (I.base _ _ q)) (Nat.not_lt.mpr p)
 ·refine bE (I.at m) λi o t t z=>?_;refine ak z.h3 λr q t=>?_;exact absurd (fj q) (Nat.not_lt.mpr p)
theorem ay.k4(I:ay D (l::c) a b s):ay D c a b s:=
 ⟨I.base,λi m=>I.frames i (.tail _ m),I.gens,I.os,I.e5,I.len,I.nd,I.fresh,I.g2,I.objs⟩
theorem cM.up(x:cM w y a z B E)(p:∀i o,r.get? i=ac o->z.get? i=ac o)(u:∀i o,r.get? i=ac o->iu w y i):bq a r B E:=by
 refine⟨x.pre,λl m n=>?_,λi o v n=>x.kept i o (p i o v) n (u i o v),λl m t=>?_⟩
 ·cases q:r.get? l with
  |none=>rfl|some o=>have:=x.new l m n;rw[p l o q]at this;cases this
 ·refine fi (id t) λo G T F I J=>?_;exact x.tr l m (u l o F) (t.keep (p l))
theorem aF9{l:List (Str×aj)}(o:l.Pairwise λx y=>x.2≠y.2){y z:Str}{q:aj}(t:(y,q)∈l)(u:(z,q)∈l):y=z:=by
 induction l with
 |nil=>exact nomatch t|cons p r v=>
  rw[List.pairwise_cons]at o;exact(List.mem_cons.mp t).elim (λm=>(List.mem_cons.mp u).elim (λi=>congrArg om (m.trans i.symm)) λi=>absurd rfl (m▸o.1 _ i)) λm=>(List.mem_cons.mp u).elim (λi=>absurd rfl (i▸o.1 _ m)) λi=>v o.2 m i
theorem Pl(i:mi l m=af):(l.args.map (·.arg)).Nodup:=by
 unfold mi at i;have q:=of_decide_eq_true (Bool.and_eq_true_iff.mp i).2;refine am (Fw (a:=l) (b:=m)) λr p=>?_;rw[p,List.filterMap_append,HI,bd6]at q;have q:=q.1;rw[show((λ(o:Option (Str×Bool))=>o.map (·.1))∘λx=>ac (x,Cu x m.names==ac Cz))=ac from rfl,List.filterMap_some]at q;exact q
theorem Pk{l:pA}{m:iT}{i:Nat}{x:Str}(o:(l.args.map (·.arg))[i]?=ac x):(gS l m)[i]?=ac (ac (x,m.names.lookup x==ac .cell)):=by
 refine am (Fw (a:=l) (b:=m)) λq p=>?_;rw[p,gI (by rw[bH];exact(List.getElem?_eq_some_iff.mp o).1),iQ,o];rfl
theorem aG5{o:pA}{m:iT}{d:List (Str×ah)}(p:mi o m=af){x:Str}(r:x∈o.args.map (·.arg)):m.names.lookup x=ac .local\/m.names.lookup x=ac .cell:=by
 refine am (List.getElem?_of_mem r) λi t=>?_;have l:=Fx (d:=d) p i x _ (Pk t);dsimp only at l
 cases q:(m.names.lookup x==ac .cell)with
 |false=>rw[q]at l;exact .inl l
 |true=>rw[q]at l;exact .inr l
theorem aG6:i.args.length<=(gS i l).length:=by
 refine am (Fw (a:=i) (b:=l)) λo m=>?_;rw[m,aU,bH,bH];exact dm ..
theorem PQ(l:o<=i)(p:q+i*(n+1)<=m):q+o+i*n<=m:=aV (by rw[bg4,Nat.mul_succ,<-iS];exact xQ l _) p
theorem ac8{i l p:Nat}(m:i<=p)(o:p<=i+l):i+(l-(l-(p-i)))=p:=by rw[Nat.sub_sub_self (Nat.sub_le_iff_le_add'.mpr o)];exact rQ m
theorem YL{l:ah}{F:Fn}(i:Dd h l F.c5)(p:h.In s.heap):∃(r:List ah) (t:Option (Array ah)),(∀(M:pJ) (A:cB) (E:ah->az->Prop) (Q:Option (Array ah)->az->Prop),Q t s->aB M A (It l) Q E s)/\(t.getD #[]).toList=r/\aI a s.heap F.c5 r:=
 i.elim (λi=>bw [] ae (λM A E Q q=>by rw[i.1];exact aD (m:=notAStandIn _) (bz (bz q))) rfl (by rw[i.2];rfl))
  λi=>eH i λT o i=>ch i λu z v w x y=>bw u.toList (ac u) (λM A E Q q=>by rw[v];exact wpAny_seqItems (p _ _ w) x q) rfl (y a s.heap p)
theorem au6{o:pA}{r:iT}{p:Env}{B:List V}{u:List ah}{F:az}(L:mi o r=af)(I:ay D c a b s)(M:p.locals=s.heap.objs.size)(N:∀y,p.kindOf y=r.names.lookup y)(hc:p.cells=cellsFrom (s.heap.objs.size+1) r.names [])
  (x:InCallC s p.locals (xX p.kindOf ((o.args.map (·.arg)).zip u) λZ=>ae) p.cells (CL p.kindOf ((o.args.map (·.arg)).zip u) λZ=>ae) F) (Q:aI a s.heap B u) (S:B.length=o.args.length):
  eV D (gS o r) p a (B.map ac++pI ((gS o r).length-o.args.length) ae) F.heap (xX p.kindOf ((o.args.map (·.arg)).zip u) λZ=>ae):=by
 have T:bq a s.heap a F.heap:=.c0 x.toInCall.keep;have U:=I.size (fN M.symm);have Y:=Fx (d:=[]) L;have G:(B.map ac).length=o.args.length:=by rw[bH,S]
 have z2:((o.args.map (·.arg)).zip u).map (·.1)=o.args.map (·.arg):=Cw (by rw[bH,Q.length,S];exact bI _);have J:=Pl L;rw[<-z2]at J;have up:∀y m,p.cells.lookup y=ac m->D.base.get? m=ae:=λy m q=>(I.size (pM (M▸x.above y m (jf q)))).1;have z0:∀y,r.names.lookup y=ac .cell->∃m,p.cells.lookup y=ac m:=λy q=>Option.isSome_iff_exists.mp (hc▸cellsFrom_some _ _ _ (.inl q));refine⟨U.2,U.1,x.toInCall.ns,?_,λv z3 q y b' E=>?_,λv y E=>?_,λy z4 m e1 e2=>aF9 x.apart (jf e1) (jf e2)⟩
 ·rw[aU,G,Sj];exact rQ aG6
 ·have hi:v<o.args.length:=Nat.lt_of_not_le λz=>by
   rw[fM (G▸z),Sh]at q;split at q<;>exact nomatch q
  rw[gI (G▸hi),iQ]at q;refine bG q λv' q1 q2=>?_;rw[ax q2]at q1;refine ak (Q.at q1) λw w1 w2=>?_;have gy:=nU (l:=o.args.map (·.arg)) (i:=v) (by rw[bH];exact hi);have z1:(y,w)∈(o.args.map (·.arg)).zip u:=bT (i:=v) (List.getElem?_zip_eq_some.mpr ⟨(gy.trans (congrArg ac (congrArg om (ax (ax ((Pk (m:=r) gy).symm.trans E)))))),w1⟩);have z:=Y v y b' E
  cases b' with
  |false=>exact al w (Wj _ _ y w J z1 ((N y).trans z)) (w2.step T I.Y)|true=>
   refine am (z0 y z) λm t=>?_;have ic:=x.cell y m t;rw[Wh _ _ y w J z1 ((N y).trans z)]at ic;exact dp m w t ic (up y m t) (w2.step T I.Y)
 ·refine am (z0 y (Y v y af E)) λm t=>?_;exact bw m _ t (x.cell y m t) (up y m t)
theorem ay.into(I:ay D c a b s)(i:ay D c a b p)(t:l.locals=s.heap.objs.size)(u:l.frame=ac l.locals)(v:l.scope.kind=.function){m:Str->Option ah}(w:p.heap.Ns l.locals m):ay D (l::c) a b p:=
 ⟨i.base,λx q=>(List.mem_cons.mp q).elim (λz=>fi w λo y B E F G=>by
   have r:=I.size (fN t.symm);rw[z];exact AL v _ o y B u r.2 r.1 E F) λq=>i.frames x q,i.gens,i.os,i.e5,i.len,i.nd,i.fresh,i.g2,i.objs⟩
theorem ED(B:Base D h P e d j k)(zj:vh D C n)(zk:∀J o f b,C J o f b≠.i->sb P J)(hF:P.fn J=ac F)
  (ao:hB A f c a) (z2:lO A (n+1)) (I:ay D c a b s) (hv:aI a s.heap o r) (t:jv P e C g F o f b≠.i) {z3:rV->az->Prop}
  (L:∀v p,bo VR (jv P e C g F o f b) D c a s.heap v p->z3 (.ok (.ret v)) p) (M:∀u p,bF (jv P e C g F o f b) D c a s.heap u p->z3 (.error u) p):
  jp (Mo D) A (.call (.ref J) ⟨r,[]⟩) z3 s:=by
 refine fi (B.fn J F hF) λz4 i zl hK zm l=>rO (JR l.cF) λzn z5 zo Z=>?_;have z6:=B.T.at I;by_cases hc:(o.length<=F.c4&&F.c4<=o.length+F.c5.length)=af
 case neg=>exact absurd (by unfold jv fS;rw[if_neg hc]) t
 have er:jv P e C g F o f b=FB (aJ P e C g F.body ((o++F.c5.drop (F.c5.length-(F.c4-o.length))).map ac++pI (F.h2-F.c4) ae) b f):=by unfold jv fS;rw[if_pos hc]
 rw[er]at t L M;refine aP (Bool.and_eq_true_iff.mp hc) λN Q=>?_;have N:=of_decide_eq_true N;have Q:=of_decide_eq_true Q;rw[z5]at N Q;have zd:=l.dl;rw[z5]at zd;have S:=l.lay;have U:=hv.length;refine bE (YL (a:=a) l.c5 z6) λy zA zp zq ze=>?_;have T:=ze.length;have zf:=Wo (s:=s) (a:=r) (f:=i) l.p1 l.p2 l.p3 l.p4 (Pl S) zp zq (U▸N) (by rw[U,T];exact Q) (T▸zd);have z7:=hv.append (ze.drop (y.length-(i.params.args.length-r.length)));have zg:(o++F.c5.drop (y.length-(i.params.args.length-r.length))).length=i.params.args.length:=by rw[aU,xL,<-T];exact(by rw[U,T];exact ac8 N Q:o.length+(y.length-(y.length-(i.params.args.length-r.length)))=i.params.args.length)
 rw[zo,z5,<-T,<-U]at t L M;generalize o++F.c5.drop (y.length-(i.params.args.length-r.length))=zr at z7 zg t L M;generalize r++y.drop (y.length-(i.params.args.length-r.length))=ws at z7 zf;have zs:∀x∈(i.params.args.map (·.arg)).zip ws,x.1∈i.params.args.map (·.arg):=λx z8=>(So (show(x.1,x.2)∈_ from z8)).1;refine codeAny_call_function (by rw[aN8];exact pN (aV (dm ..) z2.1) (by decide)) (z6 _ _ hK) zm l.co l.p6 l.body (codeRec_of z6 l.code) (zf _ _ _ _ ?_);rw[l.p8,l.p7,l.p9];refine wpAny_newFunctionEnv_cells l.c8 (λx z8=>(aG5 (d:=d) S (zs x z8)).imp id λq=>⟨q,cellsFrom_some _ _ _ (.inl q)⟩) λm E p x=>?_;have Y:m.locals=s.heap.objs.size:=by rw[E];rfl
 have hs:m.scope=i.scope:=by rw[E];rfl
 have eo:IH ⟨i.scope,gS i.params i.scope,d⟩ m (m::c):=⟨hs,l.c8,by rw[E];rfl,by rw[E];rfl,(gF m c rfl rfl)⟩
 have zt:=au6 S I Y (λzh=>by rw[E];rfl) (by rw[E];rfl) x z7 zg;have z9:=x.toInCall.keep;have I1:=I.into (l:=m) (cu x.done λh₁ tk z zu=>z▸I.keeps zu rfl rfl rfl:ay D c a b p) Y (by rw[E];rfl) (by rw[hs];exact l.c8) x.toInCall.ns;refine⟨(B.G.lim.keeps I.base).keeps z9,codeAny_func ?_⟩
 have zi:∀z1 z4,s.heap.get? z1=ac z4->iu ⟨i.scope,gS i.params i.scope,d⟩ m z1:=λz1 z4 u=>⟨λq=>jn _ (Y▸q▸fj u),λza zh Z q=>Nat.lt_asymm (fj u) (Y▸x.above zh z1 (jf q))⟩
 have fr:(A.deeper m).frames=ac (m::c):=by show A.frames.map (m::·)=_;rw[ao.fr];rfl
 have rm:lO (A.deeper m) n:=⟨PQ (by decide) z2.1,PQ (by decide) z2.2⟩
 let q:aE ⟨i.scope,gS i.params i.scope,d⟩:=⟨⟨D,m::c⟩,A.deeper m,h,P,e,C,f,n,g,m,j,k,B.T,zj,zk,B.G,eo,Fx S,as3 S,B.i3,fr,rm⟩
 refine bb (Wq zl _ _ zn q ⟨c,rfl⟩ _ ⟨a,b,p⟩ ⟨I1,ao.hd,_,zt⟩ (λu=>t ((congrArg FB u).trans rfl):q.b2 (zr.map ac++pI ((gS i.params i.scope).length-i.params.args.length) ae) F.body b≠ae)) (λfl p z=>?_) λu p hx=>?_
 ·induction z using dB.casesOn with|mk zv zw w G zb zc Y'=>
  have St:=zc.up z9 zi;have G:aJ P e C g F.body _ b f=_:=G;rw[G]at t L;refine L _ w.s ?_
  induction zv using Fl.casesOn with
  |next=>cases zb;exact⟨.none,w.σ,w.ρ,rfl,St,Y'.inv.k4,uB⟩
  |B v=>(refine ak zb λzB z0 zx=>?_;subst z0);exact⟨v,w.σ,w.ρ,rfl,St,Y'.inv.k4,zx⟩
  |a3=>exact absurd rfl t|a5=>exact absurd rfl t|exc za=>exact zb.elim
 ·refine aD (bb (ul (q:=q) ⟨c,rfl⟩ fr hx) (λZ s2 z=>aP z λzy Z=>?_) λZ Z z=>z);refine bb (xm zy) (λZ s3 z=>aP z λzz Z=>?_) λZ Z z=>z
  induction zz using ce.casesOn with|mk za zw w G x zc Y'=>
  have G:aJ P e C g F.body _ b f=_:=G;rw[G]at M;exact M _ _ ⟨za,w.σ,w.ρ,rfl,zc.up z9 zi,Y'.inv.k4,x⟩
end
end
section
noncomputable abbrev tc(C:aj)(k:List ah):Code:=.builtin "type.__call__" ⟨.ref C::k,[]⟩
theorem a41:(tc C k).weight=1:=by kernel_rfl
theorem a40:(tc C k).cUnits=1:=by kernel_rfl
theorem a39:(tc C k).envs=[]:=by kernel_rfl
set_option tactic.hygienic true in
theorem Ge{g:ca}{r:aS}{N:aj}{h:Str->Option ah}{n:Str}{v:ah}(u:g.In r)(G:r.Ns N h)(k:lG g N n=ac (ac v)):h n=ac v:=by
 refine dz G λw l y z p Q B=>?_;rw[<-B n];unfold lG at k
 cases q:g.lookup N with
 |none=>rw[q]at k;exact nomatch k
 |some o=>
  rw[q]at k;have m:=u _ _ q;rw[z]at m;(injection m with m;subst m);obtain⟨I,J,E,L⟩:=w;have p:E=.dict l y:=p;subst p;unfold nsFind findBy;rw[<-bb0];have k:(match Se (λx=>x.key.isStr n) l.toList with|some k=>ac (ac k.val)|none=>if(l.toList.any λx=>x.refKey)=af then ae else ac ae)=ac (ac v):=k;generalize(l.toList.any λx=>x.refKey)=F at k
  cases t:Se (λx=>x.key.isStr n) l.toList with
  |some M=>rw[t]at k;exact ax k
  |none=>rw[t]at k;induction F using Bool.casesOn<;>first|exact no_some k|exact no_some (ax k)
section
variable{D:Wd}{g:ca}{P:aZ}{d:aj->Option (List Int)}{C:bc}{n f:Nat}{i:List (Str×ah)}{h j:Str->Option ah}
variable{A:cB}{c:Option Nat}{e:List Env}{b:List aj}{a:H}{s:az}
theorem hB.tc(x:hB A c e b):hB (A.under (tc k l)) c e b:=by
 refine⟨?_,x.hd⟩
 show pushEnvs (Mine.Internal.tc k l).envs A.frames=_;rw[a39,x.fr];rfl
theorem lO.tc(x:lO A (n+1+1)):lO (A.under (tc k l)) (n+1):=by
 refine aP x λm o=>?_;refine⟨?_,?_⟩
 ·show A.depth+(Mine.Internal.tc k l).weight+_<=_;rw[a41];lia
 ·show A.units+(Mine.Internal.tc k l).cUnits+_<=_;rw[a40];lia
noncomputable def j'(P:aZ)(d:aj->Option (List Int))(C:bc)(f:Nat)(l:aj)(x:Bool)(F:Fn)(m:List V)(c:Option Nat)(k:H):R V:=
 if x then(jv P d C f F (.obj k.length::m) c (k++[.exc l ae ag])).bind (gQ k.length)
 else(jv P d C f F (.obj (k.length+1)::m) c (k++[.ns [],.inst l k.length])).bind (gQ (k.length+1))
theorem DN{k l:Type}{r:R k}{m:k->H->R l}(o:r.bind m≠.i):r≠.i:=R.h4 o
theorem Nu(p:r.bind (gQ k)≠.i)(q:bq t u b s.heap)(w:b[k]?=ac x)
  (y:bo VR r D e b s.heap v z):v=.none/\bo VR (r.bind (gQ k)) D e t u (.ref x) z:=by
 obtain⟨l,m,B,rfl,o,I,E⟩:=y;have F:gQ k l m≠.i:=p
 induction l using Mine.Internal.V.casesOn with
 |none=>exact⟨E,.obj k,m,B,rfl,q.trans o,I,(al x (gH o.pre w) rfl)⟩|_=>exact absurd rfl F
theorem Nt(k:bq l m b s.heap)
  (o:bF r D e b s.heap p q):bF (r.bind (gQ y)) D e l m p q:=by
 obtain⟨t,u,v,rfl,w,I,x⟩:=o;exact⟨t,u,v,rfl,k.trans w,I,x⟩
theorem EN{l:List aj}{k:aj}:(l++[k])[l.length]?=ac k:=by
 rw[fM (bI _),gJ];rfl
theorem az7{l:aj}{p:Cl}{r:aj}{F:Fn}{m:List V}{x:List ah}(B:Base D g P d i h j)(T:vh D C n)(U:∀r m c a,C r m c a≠.i->sb P r)
  (hC:P.cls l=ac p) (G:p.isExc=ag) (hf:p.init=.ref r) (hF:P.fn r=ac F) (ao:hB A c e b) (z0:lO A (n+1+1)) (I:ay D e b a s) (hv:aI b s.heap m x)
  (y:j' P d C f l p.isExc F m c a≠.i):
  aB (Mo D) A (eN (.ref l) x) (bo VR (j' P d C f l p.isExc F m c a) D e b s.heap) (bF (j' P d C f l p.isExc F m c a) D e b s.heap) s:=by
 have z:=B.T.at I;have Z:=B.T.inst l p hC G;refine bP Z.init λf' v z1 z2=>?_;rw[hf]at v;(injection v with v;subst v);have er:j' P d C f l p.isExc F m c a=(jv P d C f F (.obj (a.length+1)::m) c (a++[.ns [],.inst l a.length])).bind (gQ (a.length+1)):=by
  unfold j';rw[G];rfl
 rw[er]at y⊢;obtain⟨k,J,L,t,M⟩:=s;have na:k.get? k.objs.size=ae:=by
  cases q:k.get? k.objs.size with
  |none=>rfl|some o=>exact absurd (fj q) (jn _)
 obtain⟨z3,I1⟩:=I.alloc (t:=⟨k.push yb,J,L,t,M⟩) (A:=ya) (o:=.ns []) (λz4 o u=>ie _ u) (r:=k.objs.size) na
  (Nk (gb _) (λY=>ae) (RY (fG _ (#[]) 0 (mH _ rfl) rfl (λu he=>absurd he (by simp)) (λY=>rfl))) (λza hz=>absurd rfl hz) (λzb=>rfl)) rfl rfl rfl
 have z5:(k.push yb).get? (k.objs.size+1)=ae:=by
  cases q:(k.push yb).get? (k.objs.size+1)with
  |none=>rfl|some o=>have:=fj q;rw[HB]at this;exact absurd this (jn _)
 have z6:((k.push yb).push (Ii l k.objs.size)).get? (k.objs.size+1)=ac (Ii l k.objs.size):=bc1 (by simp only[HB]) rfl;have N:b.length=a.length:=I.len;obtain⟨z7,Q⟩:=I1.alloc (t:=⟨(k.push yb).push (Ii l k.objs.size),J,L,t,M⟩) (A:=ya) (o:=.inst l a.length) (λz4 o u=>ie _ u) (r:=k.objs.size+1) z5
  (al k.objs.size (gH (ij ..) (by rw[<-N];exact EN:(b++[k.objs.size])[a.length]?=some k.objs.size)) z6) rfl rfl rfl
 rw[(by simp:a++[O.ns []]++[O.inst l a.length]=a++[.ns [],.inst l a.length])]at Q;have w:=z3.trans z7;have S:(b++[k.objs.size]++[k.objs.size+1])[a.length+1]?=ac (k.objs.size+1):=by
  have:a.length+1=(b++[k.objs.size]).length:=by simp[N]
  rw[this];exact EN
 refine CZ (make_core (makes_of z Z.m8) (CR z z1) (λz8=>bind_fn z z8 z2) (.inl rfl) ?_);have z9:aI (b++[k.objs.size]++[k.objs.size+1]) ((k.push yb).push (Ii l k.objs.size)) (.obj (a.length+1)::m) (.ref (k.objs.size+1)::x):=
  bw _ _ rfl (al _ S rfl) (hv.step w I.Y)
 refine ED B T U hF ((ao.step w.pre).tc) z0.tc Q z9 (DN y) (λzc s' E=>?_) (λu s' E=>?_)
 ·exact Nu y w S E
 ·exact Nt w E
theorem az6{k:aj}{m:Cl}{o:aj}{F:Fn}{l:List V}{q:List ah}(B:Base D g P d i h j)(J:vh D C n)(L:∀o l c a,C o l c a≠.i->sb P o)
  (M:P.cls k=ac m) (y:m.isExc=af) (Q:m.init=.ref o) (S:P.fn o=ac F) (T:hB A c e b) (U:lO A (n+1+1)) (I:ay D e b a s) (Y:aI b s.heap l q)
  (v:j' P d C f k m.isExc F l c a≠.i) (z0:q.length<=mL):
  aB (Mo D) A (eN (.ref k) q) (bo VR (j' P d C f k m.isExc F l c a) D e b s.heap) (bF (j' P d C f k m.isExc F l c a) D e b s.heap) s:=by
 have r:=B.T.at I;refine(B.T.exc k m M y).U λnm zc N bs sn zd ab ze dd k0 k1 k2 k3 k5 f' hK zz=>?_;obtain⟨z1,z2,z3,t,z4,z5⟩:=zz;rw[Q]at t;(injection t with t;subst t);have er:j' P d C f k m.isExc F l c a=(jv P d C f F (.obj a.length::l) c (a++[.exc k ae ag])).bind (gQ a.length):=by
  unfold j';rw[y];rfl
 rw[er]at v⊢;obtain⟨w,z6,z7,z8,os⟩:=s;have z:w.Ns N (w.nsMap N):=.of_isNs (isNs_of_in r z1);have hi:w.nsMap N "__init__"=ac (.ref o):=Ge r z z3;refine ak (QU r z5) λof o1 o2=>?_;refine wpAny_call_exc_init bj0 (r _ _ hK) z hi o1 o2 (λE p hm=>?_) z0;obtain⟨z9,za,ta,t1,t2,t3⟩:=hm;obtain⟨u,I2⟩:=I.alloc (t:=⟨E,z6,z7,z8,os⟩) (A:=ya) (o:=.exc k ae ag) z9 za
  (qT ae _ t1 rfl rfl (al .none rfl (.inl rfl)) (al .none rfl (λZ=>rfl))) rfl rfl rfl
 have G:(b++[p])[a.length]?=ac p:=by rw[<-(I.len:b.length=a.length)];exact EN
 have zb:aI (b++[p]) E (.obj a.length::l) (.ref p::q):=bw _ _ rfl (al _ G rfl) (Y.step u I.Y);refine CZ (ED B J L S ((T.step u.pre).tc) U.tc I2 zb (DN v) (λzf s' x=>?_) (λp s' x=>?_))
 ·exact Nu v u G x
 ·exact Nt u x
end
end
section
structure Du(D:Wd)(c:ca)(P:aZ)(a:aj->Option (List Int))(d:List (Str×ah))(e f:Str->Option ah):Prop extends Base D c P a d e f where
 init:∀C h,P.cls C=ac h->∃g F,h.init=.ref g/\P.fn g=ac F
 c4:∀g F,P.fn g=ac F->F.c4<=1000
section
variable{D:Wd}{c:ca}{P:aZ}{a:aj->Option (List Int)}{b:Nat}{d:List (Str×ah)}{e f:Str->Option ah}
noncomputable def Bg(C:bc)(i:aj)(j:List V)(k:Option Nat)(h:H)(g:Cl):R V:=if g.isExc then(C (.m g.init) (.obj h.length::j) k (h++[.exc i aw ag])).bind (gQ h.length)
     else(C (.m g.init) (.obj (h.length+1)::j) k (h++[.ns [],.inst i h.length])).bind (gQ (h.length+1))
noncomputable def DY(C:bc)(g:aj)(i:List V)(j:Option Nat)(h:H):Option Cl->R V
 |some k=>Bg C g i j h k|none=>.i
noncomputable def aN9(P:aZ)(a:aj->Option (List Int))(C:bc)(b:Nat)(g:aj)(i:List V)(j:Option Nat)(h:H):Option Fn->R V
 |some F=>jv P a C b F i j h|none=>DY C g i j h (P.cls g)
theorem DU:call P a b (n+1) (.m (.ref g)) i j h=aN9 P a (call P a b n) b g i j h (P.fn g):=by kernel_rfl
theorem DT(g:P.fn i=ac F):
  call P a b (n+1) (.m (.ref i)) j k h=jv P a (call P a b n) b F j k h:=by
 rw[DU,g];rfl
theorem JU(k:P.fn g=ae)(l:P.cls g=ac m):call P a b (n+1) (.m (.ref g)) i j h=Bg (call P a b n) g i j h m:=by
 rw[DU,k];show DY (call P a b n) g i j h (P.cls g)=_;rw[l];rfl
theorem Xu(k:P.fn g=ae)(l:P.cls g=ac i)(m:i.init=.ref o)(j:P.fn o=ac F):
  call P a b (n+1+1) (.m (.ref g)) p q h=j' P a (call P a b n) b g i.isExc F p q h:=by
 rw[JU k l];unfold Bg;rw[m,DT j,DT j];rfl
theorem Xv(i:∀g,v≠.ref g):call P a b (n+1) (.m v) j k h=dX P k h v j:=by
 induction v using Value.casesOn with
 |ref g=>exact absurd rfl (i g)|_=>rfl
theorem AQ(n:Nat)(i:V)(j:List V)(k:Option Nat)(l:H)(g:call P a b n i j k l≠.i):sb P i:=by
 cases n with
 |zero=>exact absurd rfl g|succ n=>
  induction i using Mine.Internal.V.casesOn with
  |m p=>
   induction p using Value.casesOn with
   |ref h=>
    rw[DU]at g
    cases m:P.fn h with
    |some F=>exact .inl (by rw[m];rfl)
    |none=>
     rw[m]at g
     cases o:P.cls h with
     |some q=>exact .inr (by rw[o];rfl)
     |none=>exact absurd (show DY _ h j k l (P.cls h)=.i by rw[o];rfl) g
   |builtin r=>trivial|type t=>trivial|_=>exact absurd rfl g
  |_=>exact absurd rfl g
theorem XD(B:Du D c P a d e f):∀(n:Nat),vh D (call P a b n) n:=by
 intro n
 induction n using Nat.strongRecOn with
 |ind n t=>
  intro A L U Y m z1 o p C M r u I E j g
  cases n with
  |zero=>exact absurd rfl g|succ n=>
   have G:=AQ (n+1) o p L m g
   induction o using Mine.Internal.V.casesOn with
   |m N=>
    have Q:C=N:=E;clear E;subst Q;by_cases J:∃h,C=.ref h
    ·refine am J λh S=>?_;subst S
     cases k:P.fn h with
     |some F=>
      rw[DT k]at g⊢;exact CZ (ED B.toBase (t n (og _)) (AQ n) k r u I j g (λZ Z z=>z) (λZ Z z=>z))
     |none=>
      cases i:P.cls h with
      |none=>rcases G with q|q<;>simp[k,i]at q
      |some v=>
       refine cu (B.init h v i) λo F w s=>?_
       cases n with
       |zero=>
        rw[JU k i]at g;exact absurd (by unfold Bg;induction v.isExc using Bool.casesOn<;>rfl) g
       |succ n=>
        rw[Xu k i w s]at g⊢
        cases l:v.isExc with
        |false=>
         have q:=az7 B.toBase (t n (by lia)) (AQ n) i l w s r u I j g;rw[l]at q;exact q
        |true=>
         have T:M.length<=mL:=by
          rw[aI.length j];have x:=g;unfold j' at x;rw[l,if_pos rfl]at x;have y:=DN x;unfold jv at y
          cases q:fS F (V.obj m.length::p)with
          |none=>rw[q]at y;exact absurd rfl y
          |some le=>
           by_cases z:((V.obj m.length::p).length<=F.c4&&F.c4<=(V.obj m.length::p).length+F.c5.length)=af
           ·exact aV (Nat.le_of_succ_le (aV (of_decide_eq_true (Bool.and_eq_true_iff.mp z).1) (B.c4 o F s))) (n_num rfl)
           ·exact nomatch(if_neg z).symm.trans q
         have q:=az6 B.toBase (t n (by lia)) (AQ n) i l w s r u I j g T;rw[l]at q;exact q
    ·rw[Xv λh z=>J ⟨h,z⟩]at g⊢;exact WY B.T r I j rfl g
   |_=>exact G.elim
end
end
end
section
set_option tactic.hygienic false
open PySem
section
inductive kD where
 |v (i:V)
 |b (t:Bool)
 |r (i:R V)
 |g (f:ah) (j:List V)
 |h (i:H)
 |n (k:av)
 |x (l:X)
 |e (i:R V)
 |s
noncomputable abbrev cG:=List kD
section
variable(P:aZ)(e:aj->Option (List Int))(C:bc)(b:Option Nat)(c:av){a:Type}
noncomputable abbrev Ko(a:Type):=V->H->cG->Prop×a
noncomputable abbrev Ke(a:Type):=Nat->H->cG->Prop×a
noncomputable def mn(o:Prop)(r:Prop×a):Prop×a:=(o/\r.1,r.2)
noncomputable def fail(d:a):Prop×a:=(False,d)
noncomputable def yM(d:a)(k:Ko a)(g:Ke a)(x:R V)(f:cG):Prop×a:=match x with
 |.ok v h=>k v h f|.exc i h=>g i h f|.i=>fail d
noncomputable def nH(d:a)(f:R V->Prop)(k:Ko a)(g:Ke a):cG->Prop×a
 |.r x::h=>mn (f x) (yM d k g x h)|_=>fail d
noncomputable def nG(d:a)(f:Bool->Prop)(k:Bool->cG->Prop×a):cG->Prop×a
 |.b t::g=>mn (f t) (match t with|true=>k af g|false=>k ag g)
 |_=>fail d
noncomputable def rB(d:a)(f:V->Prop)(k:V->cG->Prop×a):cG->Prop×a
 |.v x::g=>mn (f x) (k x g)|_=>fail d
noncomputable def Gw(d:a)(f:ah->List V->Prop)(k:ah->List V->cG->Prop×a):cG->Prop×a
 |.g g l::h=>mn (f g l) (k g l h)|_=>fail d
variable(d:a)
noncomputable def tN(f:R V->Prop)(h:cG->Prop×a)(k:Ko a)(i:Ke a):cG->Prop×a
 |.e x::g=>mn (f x) (yM d k i x g)|.s::g=>h g|g=>h g
mutual
noncomputable def cU:Ex->H->Ko a->Ke a->cG->Prop×a
 |.none,h,k,_,g=>k .none h g|.j p,h,k,_,g=>k (.j p) h g|.a i,h,k,_,g=>k (.a i) h g|.str s,h,k,_,g=>k (.str s) h g|.loc i,h,k,_,g=>match c[i]? with
  |some (ac v)=>k v h g|_=>fail d
 |.a1 v,h,k,_,g=>k (.m v) h g|.attr q n,h,k,m,g=>cU q h (λv h=>rB d (λx=>dH P h v n=ac x) λx g=>k x h g) m g|.b0 f A,h,k,m,g=>cU f h (λD h=>qI A h (λu h=>nH d (λx=>C D u b h=x) k m) m) m g|.c3 o n A,h,k,m,g=>tN d (λx=>ev P e C b c (.c3 o n A) h=x) (λg=>cU o h (λE h=>Gw d (λf B=>fV P E n h=ac (f,B)) λf B g=>qI A h (λu h=>nH d (λx=>C (.m f) (B++u) b h=x) k m) m g) m g) k m g|.d2 y l r,h,k,m,g=>cU l h (λw h=>cU r h (λp h=>nH d (λx=>bZ y w p h=x) k m) m) m g|.f1 q,h,k,m,g=>cU q h (λw h=>nG d (λt=>aA h w=ac t) λt g=>k (.j !t) h g) m g|.Q l y r,h,k,m,g=>cU l h (λw h=>cU r h (λp h=>nG d (λt=>aQ y w p h=ac t) λt g=>k (.j t) h g) m) m g|.d6 y z,h,k,m,g=>tN d (λx=>qG P e C b c y z h=x) (λg=>vZ y z h k m g) k m g|.E F w p,h,k,m,g=>cU F h (λv h=>nG d (λt=>aA h v=ac t) λt g=>match t with
  |true=>cU w h k m g|false=>cU p h k m g) m g
 |.tup z,h,k,m,g=>qI z h (λu h g=>k (.tup u) h g) m g|.y z,h,k,m,g=>qI z h (λu h g=>k (.obj h.length) (h++[.list u]) g) m g|.t q i,h,k,m,g=>cU q h (λo h=>cU i h (λj h=>rB d (λx=>cH h o j=ac x) λx g=>k x h g) m) m g|q,h,k,m,g=>tN d (λx=>ev P e C b c q h=x) (λG=>fail d) k m g
noncomputable def qI:List Ex->H->(List V->H->cG->Prop×a)->Ke a->cG->Prop×a
 |[],h,k,_,f=>k [] h f|i::r,h,k,g,f=>cU i h (λv h=>qI r h (λj h f=>k (v::j) h f) g) g f
noncomputable def vZ(g:mG):List Ex->H->Ko a->Ke a->cG->Prop×a
 |[],_,_,_,_=>fail d|j::r,h,k,i,f=>cU j h (λv h=>match r with
  |[]=>k v h|_::_=>nG d (λt=>aA h v=ac t) λt f=>match g,t with
   |.And,ag=>k v h f|.Or,af=>k v h f|.And,af=>vZ g r h k i f|.Or,ag=>vZ g r h k i f) i f
end
end
end
section
section
variable{P:aZ}{c:aj->Option (List Int)}{C:bc}{e:Option Nat}{b:av}{f:Type}{d:f}{g h:Type}
inductive eP(k:g->H->cG->Prop×f)(a:Ke f)(x:f):R g->Prop
 |ok (v:g) (j:H) (l:cG) (p:(k v j l).1) (m:x=(k v j l).2):eP k a x (.ok v j)
 |exc (i:Nat) (j:H) (l:cG) (p:(a i j l).1) (m:x=(a i j l).2):eP k a x (.exc i j)
variable{k:Ko f}{a:Ke f}{x:f}{r:R V}
theorem eP.bind{m:g->H->cG->Prop×f}{k:h->H->cG->Prop×f}{r:R g}{s:g->H->R h}(o:eP m a x r)(l:∀v l j,(m v l j).1->eP k a (m v l j).2 (s v l)):eP k a x (r.bind s):=by
 induction o using eP.casesOn with
 |ok v n j p q=>exact q▸l v n j p|exc i n j p q=>exact .exc i n j p q
theorem Jq(p:(yM d k a y j).1):eP k a (yM d k a y j).2 y:=by
 induction y using R.casesOn with
 |ok v l=>exact .ok v l j p rfl|exc i l=>exact .exc i l j p rfl|i=>exact p.elim
theorem wX{i:R V->Prop}(p:(nH d i k a j).1)(l:∀y,i y->r=y):eP k a (nH d i k a j).2 r:=by
 cases j with
 |nil=>exact p.elim|cons m j=>induction m using kD.casesOn<;>first|exact p.elim|(have w:=l _ p.1;subst w;exact Jq p.2)
theorem F'{l:R V->Prop}{j:cG->Prop×f}(p:(tN d l j k a i).1)(n:∀y,l y->r=y)(m:∀i,(j i).1->eP k a (j i).2 r):eP k a (tN d l j k a i).2 r:=by
 cases i with
 |nil=>exact m _ p|cons o i=>induction o using kD.casesOn<;>first|exact m _ p|(have w:=n _ p.1;subst w;exact Jq p.2)
set_option tactic.hygienic true in
theorem Bz{l:Bool->Prop}{j:Bool->cG->Prop×f}(p:(nG d l j i).1)(m:∀t i,l t->(j t i).1->eP k a (j t i).2 r):eP k a (nG d l j i).2 r:=by
 cases i with
 |nil=>exact p.elim|cons n i=>
  induction n using kD.casesOn<;>first|exact p.elim|skip
  rename_i t
  cases t with
  |true=>exact m af i p.1 p.2|false=>exact m ag i p.1 p.2
theorem Pz{l:V->Prop}{j:V->cG->Prop×f}(p:(rB d l j i).1)(m:∀t i,l t->(j t i).1->eP k a (j t i).2 r):eP k a (rB d l j i).2 r:=by
 cases i with
 |nil=>exact p.elim|cons n i=>induction n using kD.casesOn<;>first|exact p.elim|exact m _ i p.1 p.2
theorem aH8{m:ah->List V->Prop}{j:ah->List V->cG->Prop×f}(p:(Gw d m j i).1)(n:∀t l i,m t l->(j t l i).1->eP k a (j t l i).2 r):eP k a (Gw d m j i).2 r:=by
 cases i with
 |nil=>exact p.elim|cons o i=>induction o using kD.casesOn<;>first|exact p.elim|exact n _ _ i p.1 p.2
variable(P c C e b d)in
def Dr(i:Ex):Prop:=∀j k a l,(cU P c C e b d i j k a l).1->eP k a (cU P c C e b d i j k a l).2 (ev P c C e b i j)
variable(P c C e b d)in
def UP(j:List Ex):Prop:=(∀i k a l,(qI P c C e b d j i k a l).1->eP k a (qI P c C e b d j i k a l).2 (fD P c C e b j i))/\
 ∀m i k a l,(vZ P c C e b d m j i k a l).1->eP k a (vZ P c C e b d m j i k a l).2 (qG P c C e b m j i)
theorem rI(i:∀i k a j,cU P c C e b d l i k a j=tN d (λx=>ev P c C e b l i=x) (λn=>fail d) k a j):Dr P c C e b d l:=λm k a j p=>by
 rw[i]at p⊢;exact F' p (λn z=>z) λn p=>p.elim
theorem iy(A:Ex):Dr P c C e b d A:=by
 refine@Ex.rec (Dr P c C e b d) (UP P c C e b d) (λT=>True) ?_ ?_ ?_ ?_ ?_ ?_ ?_ ?_ ?_ ?_ ?_ ?_ ?_ ?_ ?_ ?_ ?_ ?_ ?_ ?_ ?_ ?_ ?_ ?_ ?_ ?_ ?_ ?_ A
 ·exact λu k a m p=>.ok V.none u m p rfl
 ·exact λE u k a m p=>.ok (V.j E) u m p rfl
 ·exact λi u k a m p=>.ok (V.a i) u m p rfl
 ·exact λs u k a m p=>.ok (V.str s) u m p rfl
 ·intro i u k a m p;have q:∀o:Option (Option V),((match o with|some (ac v)=>k v u m|_=>fail d:Prop×f)).1->eP k a (match o with|some (ac v)=>k v u m|_=>fail d:Prop×f).2 (match o with|some (ac v)=>.ok v u|_=>.i):=λo p=>by
   cases o with
   |none=>exact p.elim|some o=>cases o with
    |none=>exact p.elim|some v=>exact .ok v u m p rfl
  exact q b[i]? p
 ·exact λv u k a m p=>.ok (V.m v) u m p rfl
 ·exact λA n z u k a m p=>(z u _ a m p).bind λv u m p=>Pz p λx m q p=>by rw[q];exact .ok x u m p rfl
 ·exact λI J w y u k a m p=>(w u _ a m p).bind λM u m p=>(y.1 u _ a m p).bind λB u m p=>wX p λT q=>q
 ·exact λo n J w y u k a m p=>F' p (λT q=>q) λm p=>(w u _ a m p).bind λN u m p=>aH8 p λI l m q p=>by rw[q];exact(y.1 u _ a m p).bind λB u m p=>wX p λT q=>q
 ·exact λD l r w y u k a m p=>(w u _ a m p).bind λF u m p=>(y u _ a m p).bind λE u m p=>wX p λT q=>q
 ·exact λA T=>rI λT T T T=>rfl
 ·exact λA z u k a m p=>(z u _ a m p).bind λF u m p=>Bz p λt m q p=>by rw[q];exact .ok (V.j !t) u m p rfl
 ·exact λl D r w y u k a m p=>(w u _ a m p).bind λF u m p=>(y u _ a m p).bind λE u m p=>Bz p λt m q p=>by unfold iv;rw[q];exact .ok (V.j t) u m p rfl
 ·exact λT T T T T T T T=>rI λT T T T=>rfl
 ·exact λD G z u k a m p=>F' p (λT q=>q) λm p=>z.2 D u k a m p
 ·exact λQ F E w y L u k a m p=>(w u _ a m p).bind λv u m p=>Bz p λt m q p=>by
   rw[q]
   cases t with
   |true=>exact y u k a m p|false=>exact L u k a m p
 ·exact λG z u k a m p=>(z.1 u _ a m p).bind λB u m p=>.ok (V.tup B) u m p rfl
 ·exact λG z u k a m p=>(z.1 u _ a m p).bind λB u m p=>.ok (V.obj u.length) (u++[.list B]) m p rfl
 ·exact λT T T=>rI λT T T T=>rfl
 ·exact λA i w y u k a m p=>(w u _ a m p).bind λo u m p=>(y u _ a m p).bind λj u m p=>Pz p λx m q p=>by rw[q];exact .ok x u m p rfl
 ·exact λT T T T T T=>rI λT T T T=>rfl
 ·exact λT T T T T T=>rI λT T T T=>rfl
 ·exact λT T T T T=>rI λT T T T=>rfl
 ·exact λT T T T=>rI λT T T T=>rfl
 ·exact⟨λu k a m p=>.ok [] u m p rfl,λD u k a m p=>p.elim⟩
 ·intro A r w y;refine⟨λu k a m p=>(w u _ a m p).bind λv u m p=>(y.1 u _ a m p).bind λB u m p=>.ok (v::B) u m p rfl,λD u k a m p=>?_⟩
  cases r with
  |nil=>exact(w u _ a m p).bind λv u m p=>.ok v u m p rfl|cons S r=>
   refine(w u _ a m p).bind λv u m p=>Bz p λt m q p=>?_;dsimp only;rw[q]
   induction D using BoolOp.casesOn<;>induction t using Bool.casesOn
   ·exact .ok v u m p rfl
   ·exact y.2 _ u k a m p
   ·exact y.2 _ u k a m p
   ·exact .ok v u m p rfl
 ·trivial
 ·exact λT T=>trivial
end
end
section
inductive bB where
 |c (x:Nat)
 |s (k:Nat)
inductive cy where
 |e8
 |M (k:Nat)
 |t (i j:Nat)
 |num (k:Nat) (a:Int)
 |h5
 |h6
 |d1 (k:Nat)
 |i5 (k:Nat)
 |pre (s:List Nat)
set_option genCtorIdx true in
inductive W where
 |N (v:V)
 |tup (a:List W)
 |obj (i:Nat)
 |a2 (y:cy)
noncomputable abbrev W.none:W:=.N .none
noncomputable abbrev W.j(g:Bool):W:=.N (.j g)
noncomputable abbrev W.a(i:Int):W:=.N (.a i)
noncomputable abbrev W.str(s:List Nat):W:=.N (.str s)
noncomputable abbrev W.m(v:ah):W:=.N (.m v)
noncomputable abbrev W.e8:W:=.a2 .e8
noncomputable abbrev W.M(k:Nat):W:=.a2 (.M k)
noncomputable abbrev W.t(i g:Nat):W:=.a2 (.t i g)
noncomputable abbrev W.num(k:Nat)(g:Int):W:=.a2 (.num k g)
noncomputable abbrev W.d1(k:Nat):W:=.a2 (.d1 k)
set_option genCtorIdx true in
inductive OS where
 |list (p:Option Nat) (h:List W)
 |dict (a:List (List Nat×W)) (n:Option Nat)
 |ns (a:List (List Nat×W))
 |inst (C:aj) (g:Nat)
 |exc (C:aj) (g:Option Nat) (i:Bool)
noncomputable abbrev HS:=List OS
noncomputable abbrev LS:=List (Option W)
set_option genCtorIdx true in
inductive RS(g:Type)where
 |ok (a:g) (h:HS)
 |exc (j:Nat) (h:HS)
 |i
noncomputable def RS.bind{g j:Type}:RS g->(g->HS->RS j)->RS j
 |.ok a h,k=>k a h|.exc l h,_=>.exc l h|.i,_=>.i
inductive FS where
 |next|a3|a5
 |B (v:W)
 |exc (i:Nat)
noncomputable abbrev XS:=Option (FS×LS×HS)
noncomputable def gU:V->Bool
 |.obj _=>ag|_=>af
noncomputable def jx:V->Option Int
 |.a i=>ac i|_=>aw
noncomputable def jI:V->Option (List Nat)
 |.str s=>ac s|_=>aw
noncomputable def DW:V->Option Nat
 |.str [a]=>ac a|_=>aw
noncomputable def oQ:V->Option ah
 |.m a=>ac a|_=>aw
noncomputable def W.b7{g:Type}(h:V->Option g):W->Option g
 |.N v=>h v|_=>aw
noncomputable def W.ix:W->Option Nat
 |.obj i=>ac i|_=>aw
noncomputable def W.j1:W->Option cy
 |.a2 y=>ac y|_=>aw
noncomputable def cy.at_:cy->Option Nat
 |.M k=>ac k|_=>aw
noncomputable def cy.g4:cy->Bool
 |.e8=>af|_=>ag
noncomputable def W.g4(w:W):Bool:=w.j1.any cy.g4
mutual
noncomputable def de:W->Option V
 |.N v=>if gU v then ac v else aw
 |.tup a=>(jC a).map .tup|_=>aw
noncomputable def jC:List W->Option (List V)
 |[]=>ac []|w::r=>(de w).bind λv=>(jC r).map (v::·)
end
noncomputable def wN:Option W->Option (Option V)
 |Option.none=>ac aw|some w=>(de w).map ac
mutual
noncomputable def QX:V->W
 |.tup a=>.tup (uA a)|v=>.N v
noncomputable def uA:List V->List W
 |[]=>[]|v::r=>QX v::uA r
end
noncomputable def rL:R V->Option W
 |.ok v _=>ac (.N v)|_=>aw
noncomputable def OS.y:Option OS->Option (List W)
 |some (.list aw a)=>ac a|_=>aw
noncomputable def OS.m2:Option OS->Option (Option Nat×List W)
 |some (.list p a)=>ac (p,a)|_=>aw
noncomputable def OS.b8:Option OS->Option (List (List Nat×W)×Option Nat)
 |some (.dict a n)=>ac (a,n)|_=>aw
noncomputable def OS.j2:Option OS->Option (List (List Nat×W))
 |some (.ns a)=>ac a|_=>aw
noncomputable def OS.d9:Option OS->Option (aj×Option Nat×Bool)
 |some (.exc C a g)=>ac (C,a,g)|_=>aw
noncomputable def tQ{g:Type}:List g->Option g
 |[a]=>ac a|_=>aw
noncomputable def mA{g:Type}:List g->Option (g×g)
 |a::r=>(tQ r).map λh=>(a,h)|_=>aw
noncomputable def jE(o:Option W)(h:HS):RS W:=match o with
 |some x=>.ok x h|Option.none=>.i
noncomputable def Bv(o:Option (W×HS)):RS W:=match o with
 |some p=>.ok p.1 p.2|Option.none=>.i
noncomputable def Bu(o:Option Bool)(h:HS):RS W:=jE (o.map λa=>.j a) h
section
variable(T:List bB)
noncomputable def mB:Option bB->Bool
 |some (.s _)=>ag|_=>af
noncomputable def km(k:Nat):Nat->Bool
 |0=>af|m+1=>mB T[k]?&&km (k+1) m
noncomputable def qz:W->Option Nat
 |.N v=>(jx v).bind λn=>bO (bf (0<=n)&&km T 0 n.toNat) n.toNat|.a2 y=>y.at_|_=>aw
noncomputable def xr(k:Nat):Nat->Bool
 |0=>ag|m+1=>mB T[k]?||xr (k+1) m
noncomputable def DI(i j:Nat):Option Ordering:=
 if i=j then ac .eq
 else if i<j then bO (xr T i (j-i)) .lt
 else bO (xr T j (i-j)) .gt
noncomputable def ko(k:Nat):Nat->Nat
 |0=>0|m+1=>if mB T[k]? then ko (k+1) m+1 else 0
noncomputable def Gy(k m:Nat):cy:=match km T k m with
 |true=>.M (k+m)|false=>.i5 (k+ko T k m)
noncomputable def UV(y:cy)(a:Int):Option cy:=match y with
 |.num k g=>ac (.num k (g+a))|.M k=>bO (bf (0<=a)) (Gy T k a.toNat)|_=>aw
noncomputable def a24(a:Int)(k:Nat):Option cy:=bO (bf (0<=a)&&bf (a.toNat<=k)&&km T (k-a.toNat) a.toNat) (.M (k-a.toNat))
noncomputable def OW(g:eI)(y:cy)(a:Int):Option cy:=match g with
 |.Add=>UV T y a|.Sub=>y.at_.bind (a24 T a)|_=>aw
noncomputable def vS(g:eI)(a h:W):Option W:=match a with
 |.a2 y=>(h.b7 jx).bind λi=>(OW T g y i).map .a2|a=>(de a).bind λx=>(de h).bind λy=>rL (bZ g x y [])
noncomputable def Pd(a:gv)(o:Ordering):Option Bool:=match a with
 |.Lt=>ac (o==.lt)|.LtE=>ac (o !=.gt)|.Gt=>ac (o==.gt)|.GtE=>ac (o !=.lt)|.Eq=>ac (o==.eq)|.NotEq=>ac (o !=.eq)|_=>aw
noncomputable def tE(w:W):Bool:=(w.j1.bind cy.at_).isSome
noncomputable def cy.k5:cy->Bool
 |.d1 _=>ag|_=>af
noncomputable def OP:W->Option Bool
 |.N v=>jy v|.a2 y=>bO y.k5 ag|_=>ac ag
noncomputable def Br:V->Option Unit
 |.none=>ac ()|_=>aw
noncomputable def Fq(a g:W):Option Bool:=(g.b7 Br).bind λh=>OP a
noncomputable def Ma(y:cy)(a:W):Option Bool:=match y with
 |.h5=>(a.b7 jx).bind λg=>bO (bf (g=0)) ag|.pre s=>(a.b7 jI).bind λt=>bO (!s.isPrefixOf t) ag|_=>aw
noncomputable def El(a g:W):Option Bool:=match a with
 |.a2 y=>Ma y g|a=>(de a).bind λx=>(de g).bind λy=>gj [] x y
noncomputable def Np(x:V):Option OS->Option Bool
 |some (.list aw a)=>(jC a).bind (lA x)|some (.dict g _)=>(jI x).map λk=>(g.lookup k).isSome|_=>aw
noncomputable def Fm(a g:W)(h:HS):Option Bool:=match g with
 |.obj i=>(de a).bind λx=>Np x h[i]?|g=>(de a).bind λx=>(de g).bind (nv x [])
noncomputable def Lm(i:gv)(a g:W)(h:HS):Option Bool:=match i with
 |.Is=>Fq a g|.IsNot=>(Fq a g).map (!·)|.In=>Fm a g h|.NotIn=>(Fm a g h).map (!·)|.Eq=>El a g|.NotEq=>(El a g).map (!·)|i=>(de a).bind λx=>(de g).bind λy=>aQ i x y []
noncomputable def sR(k:gv)(a g:W)(h:HS):Option Bool:=match tE a||tE g with
 |true=>(qz T a).bind λi=>(qz T g).bind λj=>(DI T i j).bind (Pd k)|false=>Lm k a g h
noncomputable def rJ(h:HS)(w:W):Option Bool:=match w with
 |.obj i=>(OS.y h[i]?).map λa=>!a.isEmpty|w=>(de w).bind (aA [])
noncomputable def rC(g:List (List Nat×W))(k:List Nat)(v:W):List (List Nat×W):=
 match g with
 |[]=>[(k,v)]|(a,h)::r=>if a=k then(k,v)::r else(a,h)::rC r k v
noncomputable def Ah(a:List (List Nat×W))(k:List Nat):List (List Nat×W):=a.filter λp=>p.1 !=k
noncomputable def ON:W->Bool
 |.N v=>(oQ v).isNone|.a2 y=>y.k5|_=>af
noncomputable def au7(a:List (List Nat×W))(n:List Nat):Option W:=(a.lookup n).bind λw=>bO (ON w) w
noncomputable def AF(P:aZ)(n:List Nat):Option OS->Option Nat
 |some (.inst C a)=>bO (P.bears ag C n) a|some (.exc C (ac a) _)=>bO (P.bears af C n) a|_=>aw
noncomputable def Js(P:aZ)(n:List Nat):Option OS->Option (aj×Bool)
 |some (.exc C aw a)=>bO (P.bears af C n) (C,a)|_=>aw
noncomputable def DB(P:aZ)(h:HS)(v:W)(n:List Nat):Option W:=v.ix.bind λi=>(AF P n h[i]?).bind λa=>(OS.j2 h[a]?).bind λg=>au7 g n
noncomputable def aU0(h:HS)(a:Nat)(n:List Nat)(x:W):Option HS:=(OS.j2 h[a]?).bind λg=>bO (bf (g.length<cN)) (h.set a (.ns (rC g n x)))
noncomputable def xl(P:aZ)(h:HS)(v:W)(n:List Nat)(x:W):Option HS:=v.ix.bind λi=>match AF P n h[i]? with
 |some g=>aU0 h g n x|Option.none=>(Js P n h[i]?).map λa=>(h.set i (.exc a.1 (ac h.length) a.2))++[.ns [(n,x)]]
noncomputable def sD{a:Type}(l:List a)(k:Int):Option a:=if 0<=k then l[k.toNat]? else if 0<=k+l.length then l[(k+l.length).toNat]? else aw
noncomputable def OU:Option OS->W->Option W
 |some (.list aw a),i=>(i.b7 jx).bind (sD a)|some (.dict g _),i=>(i.b7 jI).bind λk=>g.lookup k|_,_=>aw
noncomputable def bB.code:bB->Option Nat
 |.c x=>ac x|_=>aw
noncomputable def NI(h:HS)(o i:W):Option W:=match o with
 |.N v=>(i.b7 jx).bind λk=>bO (gU v) ()|>.bind λl=>(cH [] v (.a k)).map .N|.tup g=>(i.b7 jx).bind λk=>bO (bf (0<=k)) k.toNat|>.bind λk=>g[k]?|.obj a=>OU h[a]? i|.a2 y=>bO y.g4 ()|>.bind λl=>(qz T i).bind λk=>(T[k]?.bind bB.code).map λj=>.N (.str [j])
noncomputable def vW:List bB->Option (List Nat)
 |[]=>ac []|a::r=>a.code.bind λx=>(vW r).map (x::·)
noncomputable def Pm(i j:Nat):Option W:=bO (bf (i<=j)) ()|>.bind λa=>match vW ((T.drop i).take (j-i))with
 |some s=>ac (.N (.str s))|Option.none=>bO (bf (j<=T.length)) (.a2 (.t i j))
noncomputable def cy.q0:cy->Option Nat
 |.i5 m=>ac m|_=>aw
noncomputable def EA(w:W):Option Nat:=w.j1.bind cy.q0
noncomputable def Qo(i:Nat)(u:W):Option W:=match EA u with
 |some m=>bO (bf (i<=m)) ()|>.bind λa=>(vW ((T.drop i).take (m-i))).map λs=>.a2 (.pre s)|Option.none=>(qz T u).bind (Pm T i)
noncomputable def Qn(g a:Option W):Option W:=match g with
 |some l=>a.bind λu=>(qz T l).bind λi=>Qo T i u|Option.none=>a.bind λu=>bO (tE u) (.a2 .h6)
noncomputable def Qm(h:HS)(o:W)(i j:Option W):Option (W×HS):=match o with
 |.a2 y=>bO y.g4 ()|>.bind λk=>(Qn T i j).map λw=>(w,h)|.N v=>(jI v).bind λk=>(wN i).bind λl=>(wN j).bind λu=>(rL (dU [] v l u)).map λw=>(w,h)|.obj a=>(wN i).bind λl=>(wN j).bind λu=>(ja l).bind λl=>(ja u).bind λu=>(OS.y h[a]?).map λg=>
  (.obj h.length,h++[.list aw (ct g (l.elim 0 (cg g.length)) (u.elim g.length (cg g.length)))])
 |.tup _=>aw
noncomputable def xk(a:Nat):List bB->Nat->Option (Option Nat)
 |[],_=>ac aw|.c x::r,k=>if x=a then ac (ac k)else xk a r (k+1)
 |.s _::_,_=>aw
noncomputable def MR:Option Nat->W
 |some k=>.a2 (.M k)|Option.none=>.N (.a (-1))
noncomputable def BC(a:H->List V->R V)(h:HS)(g:List W):Option (W×HS):=(jC g).bind λi=>(rL (a [] i)).map λw=>(w,h)
noncomputable def at9(h:HS):W->Option W
 |.N v=>(jI v).map λs=>.N (.a s.length)|.a2 y=>bO y.g4 (.a2 (.M T.length))|.obj i=>(OS.y h[i]?).map λa=>.N (.a a.length)|.tup _=>aw
noncomputable def JM(h:HS)(a:List W):Option (W×HS):=(tQ a).bind λw=>(at9 T h w).map λw=>(w,h)
noncomputable def NS:W->Option V
 |.N v=>bO (gU v) v|.a2 (.t _ _)=>ac (.str [])|.tup _=>ac (.tup [])|_=>aw
noncomputable def JJ(P:aZ)(h:HS)(a:List W):Option (W×HS):=(mA a).bind λp=>(p.2.b7 oQ).bind λg=>(NS p.1).bind λv=>(rL (sH P [] g v)).map λw=>(w,h)
noncomputable def JO(h:HS)(a:List W):Option (W×HS):=(tQ a).bind λw=>w.ix.bind λi=>(OS.y h[i]?).map λg=>(.tup g,h)
noncomputable def ad4(a:W)(g:Nat):List W->Option W
 |[]=>(a.b7 jI).map λs=>.N (.a (lV g s 0))|[w]=>bO a.g4 ()|>.bind λh=>(qz T w).bind λi=>bO (bf (i<=T.length)) ()|>.bind λh=>(xk g (T.drop i) i).map MR|_=>aw
noncomputable def JI(h:HS):List W->Option (W×HS)
 |a::g::r=>(g.b7 DW).bind λi=>(ad4 T a i r).map λw=>(w,h)|_=>aw
noncomputable def JL(h:HS)(a:List W):Option (W×HS):=(mA a).bind λp=>(p.1.b7 jI).bind λs=>p.2.ix.bind λi=>(OS.y h[i]?).bind λg=>(jC g).bind λj=>
 (rL (gO [.list j] (nm "join") [.str s,.obj 0])).map λw=>(w,h)
noncomputable def JE(h:HS)(a:List W):Option (W×HS):=(mA a).bind λp=>p.1.ix.bind λi=>(OS.m2 h[i]?).bind λq=>bO (bf (q.2.length<100000)) (.N .none,h.set i (.list q.1 (q.2++[p.2])))
noncomputable def JH(h:HS)(k:List W):Option (W×HS):=(mA k).bind λp=>p.1.ix.bind λi=>p.2.ix.bind λj=>(OS.y h[i]?).bind λa=>(OS.y h[j]?).bind λg=>
 bO (bf (i≠j)&&bf (a.length+g.length<=100000)) (.N .none,h.set i (.list aw (a++g)))
noncomputable def aH9(i:Nat)(h:HS):List W->Option (W×HS)
 |w::a=>ac (w,h.set i (.list aw a))|[]=>aw
noncomputable def JN(h:HS)(a:List W):Option (W×HS):=(mA a).bind λp=>(p.2.b7 jx).bind λk=>bO (bf (k=0)) ()|>.bind λg=>p.1.ix.bind λi=>(OS.y h[i]?).bind (aH9 i h)
noncomputable def LP(i:Nat)(a:List (List Nat×W))(k:List Nat)(h:HS):W×HS:=match a.lookup k with
 |some w=>(w,h.set i (.dict (Ah a k) aw))|Option.none=>(.N .none,h)
noncomputable def JF(h:HS):List W->Option (W×HS)
 |a::r=>(mA r).bind λp=>(p.2.b7 Br).bind λg=>(p.1.b7 jI).bind λk=>a.ix.bind λi=>(OS.b8 h[i]?).map λq=>LP i q.1 k h|_=>aw
noncomputable def JG(P:aZ)(h:HS)(a:List W):Option (W×HS):=(mA a).bind λp=>(p.2.b7 jI).bind λg=>p.1.ix.bind λi=>(OS.d9 h[i]?).bind λC=>bO ((P.cls C.1).any (·.isExc)) (.N .none,h)
noncomputable def WT(P:aZ)(h:HS)(a:List W):List (ah×Option (W×HS)):=[(.builtin "len",JM T h a),(.builtin "ord",BC qw h a),(.builtin "sum",aw),(.builtin "isinstance",JJ P h a),(.type "str",BC qx h a),(.type "tuple",JO h a),
 (.builtin "str.find",JI T h a),(.builtin "str.startswith",BC (λh a=>gO h (nm "startswith") a) h a),(.builtin "str.join",JL h a),
 (.builtin "list.append",JE h a),(.builtin "list.extend",JH h a),(.builtin "list.pop",JN h a),(.builtin "dict.pop",JF h a),(.builtin "Exception.__init__",JG P h a)]
noncomputable def DR(P:aZ)(h:HS)(a:ah)(g:List W):RS W:=Bv (((WT T P h g).lookup a).bind id)
noncomputable abbrev kE:=W->List W->Option Nat->HS->RS W
variable(P:aZ)(C:kE)(b:Option Nat)
noncomputable def OB:List Nat:=s!"find"
noncomputable def OD:List Nat:=s!"startswith"
noncomputable def OC:List Nat:=s!"join"
noncomputable def Oz:List Nat:=s!"append"
noncomputable def OA:List Nat:=s!"extend"
noncomputable def FV:List Nat:=s!"pop"
noncomputable def FU:List Nat:=s!"__init__"
noncomputable def BN(n:List Nat):Option ah:=if n=OB then ac (.builtin "str.find")else if n=OD then ac (.builtin "str.startswith")else if n=OC then ac (.builtin "str.join")else aw
noncomputable def Om(n:List Nat):Option ah:=if n=Oz then ac (.builtin "list.append")else if n=OA then ac (.builtin "list.extend")else if n=FV then ac (.builtin "list.pop")else aw
noncomputable def LC(n:List Nat):Option ah:=if n=FV then ac (.builtin "dict.pop")else aw
noncomputable def Nv(n:List Nat)(a:Cl)(g:List (List Nat×W)):Option ah:=match(g.lookup n).isSome||a.isExc with
 |true=>aw|false=>a.meths.lookup n
noncomputable def OV(n:List Nat)(h:HS):Option OS->Option ah
 |some (.list _ _)=>Om n|some (.dict _ _)=>LC n|some (.inst a g)=>(P.cls a).bind λi=>(OS.j2 h[g]?).bind (Nv n i)|_=>aw
noncomputable def Ec(n:List Nat):V->Option ah
 |.m (.ref g)=>(P.cls g).bind λa=>bO (bf (n=FU)&&!a.isExc) a.init|.m (.type t)=>bO (bf (t="Exception")&&bf (n=FU)) (.builtin "Exception.__init__")|_=>aw
noncomputable def Bl(v:W)(n:List Nat)(h:HS):Option (ah×List W):=match v with
 |.N (.str _)=>(BN n).map λa=>(a,[v])|.N x=>(Ec P n x).map λa=>(a,[])|.obj i=>(OV P n h h[i]?).map λa=>(a,[v])|.a2 y=>bO y.g4 ()|>.bind λg=>(BN n).map λa=>(a,[v])|.tup _=>aw
noncomputable def LD(a:List (List Nat))(i:Nat)(g:List W)(h:HS):Option (W×HS):=(OS.b8 h[i]?).bind λq=>bO (q.1.isEmpty&&q.2==ac 0&&sY a&&a.length==g.length) (.obj i,h.set i (.dict (a.zip g) (ac a.length)))
noncomputable def PD(a:Nat)(w:W)(h:HS):Option HS:=(OS.y h[a]?).bind λg=>bO (bf (g.length<100000)) (h.set a (.list aw (g++[w])))
noncomputable def a53(o:Option HS)(k:HS->RS W):RS W:=match o with
 |some h=>k h|Option.none=>.i
noncomputable def Ab(g:LS->HS->RS W)(x:Nat)(i:LS)(a k:Nat)(h:HS)(j:HS->RS W)(l:List W):RS W:=match l[k]? with
 |some v=>(g (i.set x (ac v)) h).bind λw h=>a53 (PD a w h) j|Option.none=>.ok (.obj a) h
noncomputable def qB(a:LS->HS->RS W)(x:Nat)(g:LS)(i j:Nat):Nat->Nat->HS->RS W
 |0,_,_=>.i|n+1,k,h=>match OS.y h[i]? with
  |some l=>Ab a x g j k h (qB a x g i j n (k+1)) l|Option.none=>.i
noncomputable def OO{a:Type}:RS a->RS a
 |.exc ..=>.i|r=>r
noncomputable def Eb(a:LS->HS->RS W)(x:Nat)(g:LS)(s:W)(h:HS):RS W:=match s.ix with
 |some i=>match OS.y h[i]? with
  |some j=>OO (qB a x g i h.length (j.length+1) 0 (h++[.list aw []]))|Option.none=>.i
 |Option.none=>.i
noncomputable def qH(a:Ex->HS->RS W):List Ex->HS->RS (List W)
 |[],h=>.ok [] h|g::r,h=>(a g h).bind λv h=>(qH a r h).bind λi h=>.ok (v::i) h
noncomputable def Es(a:Ex->HS->RS W):Option Ex->HS->RS (Option W)
 |Option.none,h=>.ok aw h|some g,h=>(a g h).bind λv h=>.ok (ac v) h
noncomputable def a11(a:mG)(t:Bool):Bool:=match a with
 |.And=>!t|.Or=>t
noncomputable def Er(a:Ex->HS->RS W)(g:mG):List Ex->HS->RS W
 |[],_=>.i|i::r,h=>(a i h).bind λv h=>match r with
  |[]=>.ok v h|_::_=>match(rJ h v).map (a11 g)with
   |some af=>.ok v h|some ag=>Er a g r h|Option.none=>.i
noncomputable def Al(a:LS)(i:Nat)(h:HS):RS W:=match a[i]? with
 |some (ac v)=>.ok v h|_=>.i
noncomputable def YW(a:Ex->HS->RS W)(g:Ex)(n:List Nat)(h:HS):RS W:=(a g h).bind λv h=>jE (DB P h v n) h
noncomputable def YY(a:Ex->HS->RS W)(g:Ex)(i:List Ex)(h:HS):RS W:=(a g h).bind λj h=>(qH a i h).bind λk h=>C j k b h
noncomputable def LU(a:Ex->HS->RS W)(m:Option (ah×List W))(g:List Ex)(h:HS):RS W:=match m with
 |some p=>(qH a g h).bind λi h=>C (.N (.m p.1)) (p.2++i) b h|Option.none=>.i
noncomputable def Zf(a:Ex->HS->RS W)(o:Ex)(n:List Nat)(g:List Ex)(h:HS):RS W:=(a o h).bind λi h=>LU C b a (Bl P i n h) g h
noncomputable def YX(g:Ex->HS->RS W)(i:eI)(l r:Ex)(h:HS):RS W:=(g l h).bind λa h=>(g r h).bind λj h=>jE (vS T i a j) h
noncomputable def Zg(g:Ex->HS->RS W)(j:Ex)(h:HS):RS W:=(g j h).bind λa h=>jE ((a.b7 jx).map λi=>.N (.a (-i))) h
noncomputable def Zh(g:Ex->HS->RS W)(i:Ex)(h:HS):RS W:=(g i h).bind λa h=>Bu ((rJ h a).map (!·)) h
noncomputable def YZ(g:Ex->HS->RS W)(l:Ex)(i:gv)(r:Ex)(h:HS):RS W:=(g l h).bind λa h=>(g r h).bind λj h=>Bu (sR T i a j h) h
noncomputable def Gr(t:Option Bool)(a g:RS W):RS W:=match t with
 |some af=>a|some ag=>g|Option.none=>.i
noncomputable def Za(g:Ex->HS->RS W)(l:Ex)(j:gv)(m:Ex)(k:gv)(r:Ex)(h:HS):RS W:=
 (g l h).bind λa h=>(g m h).bind λi h=>Gr (sR T j a i h) ((g r h).bind λn h=>Bu (sR T k i n h) h) (.ok (.N (.j ag)) h)
noncomputable def Zd(g:Ex->HS->RS W)(i a j:Ex)(h:HS):RS W:=(g i h).bind λv h=>Gr (rJ h v) (g a h) (g j h)
noncomputable def Zl(a:Ex->HS->RS W)(g:List Ex)(h:HS):RS W:=(qH a g h).bind λi h=>.ok (.tup i) h
noncomputable def Ze(a:Ex->HS->RS W)(g:List Ex)(h:HS):RS W:=(qH a g h).bind λi h=>.ok (.obj h.length) (h++[.list aw i])
noncomputable def Zc(a:Ex->HS->RS W)(g:List (List Nat))(i:List Ex)(h:HS):RS W:=(qH a i (h++[.dict [] (ac 0)])).bind λj k=>Bv (LD g h.length j k)
noncomputable def Zk(a:Ex->HS->RS W)(g i:Ex)(h:HS):RS W:=(a g h).bind λo h=>(a i h).bind λk h=>jE (NI T h o k) h
noncomputable def Zi(a:Ex->HS->RS W)(g:Ex)(i j:Option Ex)(h:HS):RS W:=(a g h).bind λo h=>(Es a i h).bind λl h=>(Es a j h).bind λu h=>Bv (Qm T h o l u)
noncomputable def Zb(g:LS->Ex->HS->RS W)(a:LS)(i:Ex)(x:Nat)(j:Ex)(h:HS):RS W:=match b with
 |some _=>.i|Option.none=>(g a j h).bind λs h=>Eb (λa h=>g a i h) x a s h
noncomputable def Hb:W->Bool
 |.N v=>(jI v).isSome|.a2 .h6=>af|_=>ag
noncomputable def Zj(g:Ex->HS->RS W)(i a:Ex)(h:HS):RS W:=(g i h).bind λo h=>match Hb o with
 |true=>(g a h).bind λj h=>jE ((j.b7 DW).map λk=>.a2 .h5) h|false=>.i
noncomputable def a08(j:LS->Ex->HS->RS W)(g:LS)(k:Ex)(h:HS):RS W:=match k with
 |.none=>.ok .none h|.j t=>.ok (.j t) h|.a i=>.ok (.a i) h|.str s=>.ok (.str s) h|.loc i=>Al g i h|.a1 v=>.ok (.m v) h|.attr k n=>YW P (j g) k n h|.b0 w u=>YY C b (j g) w u h|.c3 o n u=>Zf P C b (j g) o n u h|.d2 p l r=>YX T (j g) p l r h|.f0 k=>Zg (j g) k h|.f1 k=>Zh (j g) k h|.Q l p r=>YZ T (j g) l p r h|.f6 l p m y r=>Za T (j g) l p m y r h|.d6 p q=>Er (j g) p q h|.E z a t=>Zd (j g) z a t h|.tup q=>Zl (j g) q h|.y q=>Ze (j g) q h|.b8 A q=>Zc (j g) A q h|.t k i=>Zk T (j g) k i h|.a7 k B D=>Zi T (j g) k B D h|.h0 _ _ _=>.i|.g0 E x F=>Zb b j g E x F h|.h1 k a=>Zj (j g) k a h
noncomputable def fp:Nat->LS->Ex->HS->RS W
 |0=>λa a a=>.i|n+1=>a08 T P C b (fp n)
end
noncomputable def OS.free(o:Option OS):Bool:=match OS.d9 o with
 |some a=>!a.2.2|Option.none=>ag
noncomputable def PN(b:Option Nat)(i:Nat)(h:HS):Option HS:=match b with
 |Option.none=>ac h|some j=>match bf (i=j)with
  |true=>ac h|false=>bO (OS.free h[j]?) ()|>.bind λg=>(OS.d9 h[i]?).map λa=>h.set i (.exc a.1 a.2.1 af)
noncomputable def AD(b:Option Nat)(h:HS):Bool:=match b with
 |Option.none=>af|some j=>OS.free h[j]?
noncomputable def fJ{g:Type}(r:RS g)(j:LS)(k:g->HS->XS):XS:=match r with
 |.ok a h=>k a h|.exc i h=>ac (.exc i,j,h)|.i=>aw
noncomputable def ui:List Nat->List W->LS->Option LS
 |[],[],a=>ac a|i::g,v::h,a=>ui g h (a.set i (ac v))|_,_,_=>aw
noncomputable def BX(r:XS)(k:LS->HS->XS):XS:=match r with
 |some (.next,a,h)=>k a h|some (.a5,a,h)=>k a h|some (.a3,a,h)=>ac (.next,a,h)|r=>r
noncomputable def ry(t:Option Bool)(a g:XS):XS:=match t with
 |some af=>a|some ag=>g|Option.none=>aw
noncomputable def Ho(g:LS->HS->RS W)(i:LS->HS->XS):Nat->LS->HS->XS
 |0,_,_=>aw|n+1,a,h=>fJ (g a h) a λv h=>ry (rJ h v) (BX (i a h) (Ho g i n)) (ac (.next,a,h))
noncomputable def oX(a:HS->Bool)(i:W->LS->HS->XS):List W->LS->HS->XS
 |[],g,h=>ry (ac (a h)) (ac (.next,g,h)) aw|v::r,g,h=>ry (ac (a h)) (BX (i v g h) (oX a i r)) aw
noncomputable def GZ(i:Nat)(m:Nat)(a:List (List Nat))(h:HS):Bool:=match OS.b8 h[i]? with
 |some q=>match q.2 with
  |some n=>n==m&&q.1.map (·.1)==a&&a.all fc|Option.none=>ag
 |Option.none=>ag
noncomputable def EG(x:Option Nat)(r:XS):XS:=match x with
 |Option.none=>r|some _=>r.map λp=>(p.1,p.2.1.map λa=>aw,p.2.2)
noncomputable def Je(x:Option Nat)(i:Nat)(a:LS):LS:=match x with
 |Option.none=>a|some x=>a.set x (ac (.obj i))
noncomputable def oO(P:aZ)(a:ah)(C:aj):Bool:=match a with
 |.ref a=>bf (C=a)&&(P.cls C).any (·.isExc)|_=>ag
noncomputable def QO(P:aZ)(a:ah)(x:Option Nat)(r:XS)(k:LS->HS->Option Nat->XS):XS:=match r with
 |some (.exc i,g,h)=>((OS.d9 h[i]?).bind λC=>bO (oO P a C.1) ()).bind λj=>EG x (k (Je x i g) h (ac i))|r=>r
noncomputable def FS.raised:FS->Option Nat
 |.exc i=>ac i|_=>aw
noncomputable def O'(a:FS)(r:XS):XS:=match r with
 |some (.next,g,h)=>ac (a,g,h)|_=>aw
noncomputable def QM(b:Option Nat)(r:XS)(k:LS->HS->Option Nat->XS):XS:=r.bind λp=>O' p.1 (k p.2.1 p.2.2 (p.1.raised.or b))
noncomputable def vT(g:St->LS->HS->Option Nat->XS):List St->LS->HS->Option Nat->XS
 |[],a,h,_=>ac (.next,a,h)|s::r,a,h,b=>match g s a h b with
  |some (.next,a,h)=>vT g r a h b|x=>x
section
variable(T:List bB)(P:aZ)(C:kE)(c d:Nat)
noncomputable def uw(w:W):Option (List W):=match w with
 |.tup a=>ac a|.N (.tup g)=>ac (uA g)|_=>aw
noncomputable def GU(o k v:W)(h:HS):Option HS:=o.ix.bind λa=>(k.b7 jI).bind λk=>(OS.b8 h[a]?).bind λq=>bO (bf (q.1.length<cN)) (h.set a (.dict (rC q.1 k v) aw))
noncomputable def GC(P:aZ)(b:Option Nat)(v:W)(h:HS):Option (Nat×HS):=v.ix.bind λi=>(OS.d9 h[i]?).bind λa=>bO ((P.cls a.1).any (·.isExc)) ()|>.bind λg=>(PN b i h).map λh=>(i,h)
noncomputable def Fv(a:List (List Nat×W)):List W:=a.map λp=>.N (.str p.1)
noncomputable def Go(w:W)(h:HS):Option (List W×(HS->Bool)):=match w with
 |.obj i=>(OS.b8 h[i]?).bind λq=>q.2.map λm=>(Fv q.1,GZ i m (q.1.map (·.1)))|w=>(uw w).map λa=>(a,λg=>af)
noncomputable def Nw(a g:W):Bool:=(g.b7 jx).isSome&&match a with
 |.N v=>(jx v).isSome|.a2 (.num _ _)=>af|_=>ag
noncomputable def Qx(m:List St->LS->HS->Option Nat->XS)(w:St)(g:LS)(h:HS)(b:Option Nat):XS:=match w with
 |.q i j=>fJ (fp T P C b c g j h) g λv h=>ac (.next,g.set i (ac v),h)|.a8 y j=>fJ (fp T P C b c g j h) g λv h=>(uw v).bind λz=>bO (AD b h) ()|>.bind λD=>(ui y z g).map λg=>(.next,g,h)|.Z o n j=>fJ (fp T P C b c g j h) g λv h=>fJ (fp T P C b c g o h) g λr h=>(xl P h r n v).map λh=>(.next,g,h)|.e4 o i j=>fJ (fp T P C b c g j h) g λv h=>fJ (fp T P C b c g o h) g λr h=>fJ (fp T P C b c g i h) g λk h=>(GU r k v h).map λh=>(.next,g,h)|.a6 i u j=>fJ (Al g i h) g λt h=>fJ (fp T P C b c g j h) g λv h=>fJ (jE (vS T u t v) h) g λv h=>ac (.next,g.set i (ac v),h)|.e1 o n u j=>fJ (fp T P C b c g o h) g λr h=>fJ (jE (DB P h r n) h) g λt h=>fJ (fp T P C b c g j h) g λv h=>
  fJ (jE (bO (Nw t v) ()|>.bind λD=>vS T u t v) h) g λv h=>(xl P h r n v).map λh=>(.next,g,h)
 |.E s a l=>fJ (fp T P C b c g s h) g λv h=>ry (rJ h v) (m a g h b) (m l g h b)|.a9 s l=>Ho (λg h=>fp T P C b c g s h) (λg h=>m l g h b) d g h|.f2 x j l=>match b with
  |some _=>aw|Option.none=>fJ (fp T P C aw c g j h) g λv h=>(Go v h).bind λq=>oX q.2 (λv g h=>m l (g.set x (ac v)) h aw) q.1 g h
 |.g1 _ _ _=>aw|.f3 _ _ _ _=>aw|.B j=>match j with
  |Option.none=>ac (.B .none,g,h)|some j=>fJ (fp T P C b c g j h) g λv h=>ac (.B v,g,h)
 |.b3 j=>fJ (fp T P C b c g j h) g λv h=>(GC P b v h).map λp=>(.exc p.1,g,p.2)|.c6 l s x A=>QO P s x (m l g h b) λg h b=>m A g h b|.f7 l B=>QM b (m l g h b) λg h b=>m B g h b|.d7 j=>fJ (fp T P C b c g j h) g λD h=>ac (.next,g,h)|.b9=>ac (.next,g,h)|.a3=>ac (.a3,g,h)|.a5=>ac (.a5,g,h)
noncomputable def Ez:Nat->St->LS->HS->Option Nat->XS
 |0=>λa a a a=>aw|n+1=>Qx T P C c d (vT (Ez n))
end
noncomputable def Od(r:XS):RS W:=match r with
 |some (.next,_,h)=>.ok .none h|some (.B v,_,h)=>.ok v h|some (.exc i,_,h)=>.exc i h|_=>.i
noncomputable def DM(F:Fn)(a:List W):Option LS:=bO (bf (a.length<=F.c4)&&bf (F.c4<=a.length+F.c5.length))
 ((a++uA (F.c5.drop (F.c5.length-(F.c4-a.length)))).map ac++pI (F.h2-F.c4) aw)
noncomputable def Fo(i:Nat)(v:W)(h:HS):RS W:=jE ((v.b7 Br).map λa=>.obj i) h
section
variable(T:List bB)(P:aZ)(f:W->List W->HS->Option (RS W))(c d e:Nat)
noncomputable def DQ(C:kE)(F:Fn)(a:List W)(b:Option Nat)(h:HS):RS W:=match DM F a with
 |some g=>Od (vT (Ez T P C c d e) F.body g h b)|Option.none=>.i
noncomputable def FR(C:kE)(a:aj)(i:List W)(b:Option Nat)(h:HS)(g:Cl):RS W:=match g.isExc with
 |true=>(C (.N (.m g.init)) (.obj h.length::i) b (h++[.exc a aw ag])).bind (Fo h.length)|false=>(C (.N (.m g.init)) (.obj (h.length+1)::i) b (h++[.ns [],.inst a h.length])).bind (Fo (h.length+1))
noncomputable def GG(C:kE)(a:aj)(g:List W)(b:Option Nat)(h:HS):RS W:=match P.fn a with
 |some F=>DQ T P c d e C F g b h|Option.none=>match P.cls a with
  |some i=>FR C a g b h i|Option.none=>.i
noncomputable def YF(C:kE)(g:List W)(b:Option Nat)(h:HS):ah->RS W
 |.ref a=>GG T P c d e C a g b h|i=>DR T P h i g
noncomputable def Ha(C:kE)(a:W)(g:List W)(b:Option Nat)(h:HS):RS W:=match a.b7 oQ with
 |some i=>YF T P c d e C g b h i|Option.none=>.i
noncomputable def cY:Nat->kE
 |0=>λa g i h=>(f a g h).getD .i|n+1=>λa g b h=>match f a g h with
  |some r=>r|Option.none=>Ha T P c d e (cY n) a g b h
end
end
section
structure cj where
 seg:Nat->List Nat
 num:Nat->Int
 g5:Nat->List V
 d1:Nat->V
section
variable(a:cj)
noncomputable def sW:bB->List Nat
 |.c x=>[x]|.s k=>a.seg k
noncomputable def cat(T:List bB):List Nat:=T.flatMap (sW a)
noncomputable def bk:List bB->Nat->Nat
 |_,0=>0|[],k+1=>k+1|b::r,k+1=>(sW a b).length+bk r k
theorem oN(b:bB)(r:List bB):cat a (b::r)=sW a b++cat a r:=List.flatMap_cons
theorem XQ(b r:List bB):cat a (b++r)=cat a b++cat a r:=List.flatMap_append
theorem Gv(k:Nat):bk a [] k=k:=by induction k using Nat.casesOn<;>rfl
theorem tV(T:List bB):bk a T 0=0:=by induction T using List.casesOn<;>rfl
theorem Gs(T:List bB)(i m:Nat):bk a T (i+m)=bk a T i+bk a (T.drop i) m:=by
 induction i generalizing T with
 |zero=>rw[jo,tV,uQ,jo]|succ i b=>
  rw[bh6]
  cases T with
  |nil=>rw[bd2,Gv,Gv,Gv];exact(bh6 i m).symm
  |cons c r=>exact(congrArg _ (b r)).trans (iS _ _ _).symm
theorem Px(T:List bB):bk a T T.length=(cat a T).length:=by
 induction T with
 |nil=>rfl|cons c r b=>rw[oN,aU,<-b];rfl
theorem Ej(T:List bB)(k:Nat):(cat a T).drop (bk a T k)=cat a (T.drop k):=by
 induction k generalizing T with
 |zero=>rw[tV,uQ,uQ]|succ k b=>cases T with
  |nil=>exact bd2|cons c r=>
   rw[List.drop_succ_cons,<-b r,oN];show Sa ((sW a c).length+bk a r k) _=_;rw[<-Sb,bd1]
theorem a36(T:List bB)(k:Nat):(cat a T).take (bk a T k)=cat a (T.take k):=by
 induction k generalizing T with
 |zero=>rw[tV];rfl
 |succ k b=>cases T with
  |nil=>exact HM|cons c r=>
   rw[List.take_succ_cons,oN,oN,<-b r];show Sr ((sW a c).length+bk a r k) _=_;rw[bf9]
theorem Qp(h:i<=j):ct (cat a T) (bk a T i) (bk a T j)=cat a ((T.drop i).take (j-i)):=by
 refine am (bg5 h) λm b=>?_;subst b;unfold ct;rw[Ej,Gs,CB,a36,CB]
theorem Ls:∀{s:List Nat},vW l=ac s->cat a l=s:=by
 induction l with
 |nil=>exact λh=>ax h|cons c r d=>
  exact λh=>aC h λx b e=>bG e λt f g=>by
   rw[oN,d f,<-g]
   induction c using bB.casesOn with
   |c y=>rw[<-ax b];rfl
   |s k=>exact nomatch b
theorem Hn(h:mB T[k]?=af):bk a T (k+1)=bk a T k+1:=by
 rw[Gs];congr 1;rw[<-Si]at h
 cases q:T.drop k with
 |nil=>rfl|cons b r=>
  rw[q]at h
  induction b using bB.casesOn with
  |c x=>exact congrArg _ (tV a r)|s j=>exact nomatch h
theorem BZ:∀{k:Nat},km T k m=af->bk a T (k+m)=bk a T k+m:=by
 induction m with
 |zero=>exact λe=>rfl|succ m b=>exact λ{k} h=>dr h λc d=>by rw[show k+(m+1)=k+1+m from(rU k m).symm,b d,Hn a c];exact rU ..
theorem QV:∀{k:Nat},ko T k m<=m/\bk a T (k+ko T k m)=bk a T k+ko T k m:=by
 induction m with
 |zero=>exact⟨bI _,rfl⟩|succ m b=>
  intro k;show(if mB T[k]?=af then ko T (k+1) m+1 else 0)<=_/\bk a T (k+if mB T[k]?=af then ko T (k+1) m+1 else 0)=bk a T k+if mB T[k]?=af then ko T (k+1) m+1 else 0
  cases h:mB T[k]? with
  |true=>exact⟨uV b.1,by
    show bk a T (k+(ko T (k+1) m+1))=bk a T k+(ko T (k+1) m+1);rw[show k+(ko T (k+1) m+1)=k+1+ko T (k+1) m from(rU ..).symm,b.2,Hn a h];exact rU ..⟩
  |false=>exact⟨gb _,rfl⟩
theorem Gu(h:i<=j):bk a T i<=bk a T j:=by
 refine am (bg5 h) λm b=>?_;subst b;rw[Gs];exact dm ..
theorem Qs:∀{k:Nat},xr T k m=af->bk a T k<bk a T (k+m):=by
 induction m with
 |zero=>exact λh=>nomatch h|succ m b=>
  intro k h;show bk a T k<bk a T (k+(m+1));rw[<-rU];have h:(mB T[k]?||xr T (k+1) m)=af:=h;rw[lC]at h;rcases h with h|h
  ·exact fu (Hn a h▸og _) (Gu a (dm _ _))
  ·exact pN (Gu a (nY k)) (b h)
theorem VW(h:DI T i j=ac o):CN (bk a T i) (bk a T j)=o:=by
 unfold DI at h;by_cases e:i=j
 ·rw[if_pos e]at h;rw[<-ax h,e];exact Nat.compare_eq_eq.mpr rfl
 ·rw[if_neg e]at h;by_cases l:i<j
  ·rw[if_pos l]at h;exact cb h λb c=>by
    have:=Qs a b;rw[rQ (pM l)]at this;exact c▸Nat.compare_eq_lt.mpr this
  ·rw[if_neg l]at h;exact cb h λb c=>by
    have:=Qs a b;rw[rQ (xR l)]at this;exact c▸Nat.compare_eq_gt.mpr this
theorem Vr(h:T[k]?=ac (.c c)):(cat a T)[bk a T k]?=ac c:=by
 rw[<-Si,Ej];rw[<-Si]at h
 cases q:T.drop k with
 |nil=>rw[q]at h;exact nomatch h
 |cons b r=>
  rw[q]at h;rw[show b=.c c from ax h];exact rfl
inductive vC(c:Nat)(s:List Nat)(l:List bB)(i:Nat):Option Nat->Prop
 |S (e:jV c s=ae):vC c s l i ae
 |at_ (m:Nat) (e:jV c s=ac m) (u:km l 0 m=af):vC c s l i (ac (i+m))
theorem a83(b:bB)(l:List bB)(k m:Nat):km (b::l) (k+1) m=km l k m:=by
 induction m generalizing k with
 |zero=>rfl|succ m c=>exact congrArg _ (c (k+1))
theorem Ms(e:¬x=c):jV c (x::r)=(jV c r).map (· +1):=if_neg e
theorem aT2:∀{i:Nat} {r:Option Nat},xk c l i=ac r->vC c (cat a l) l i r:=by
 induction l with
 |nil=>exact λh=>ax h▸.S rfl|cons b t d=>
  intro i r h
  induction b using bB.casesOn with
  |s k=>exact nomatch h|c x=>
   rw[show cat a (.c x::t)=x::cat a t from oN ..];have h:(if x=c then ac (ac i)else xk c t (i+1))=ac r:=h;by_cases e:x=c
   ·rw[if_pos e]at h;rw[<-ax h];exact .at_ 0 (if_pos e) rfl
   ·rw[if_neg e]at h
    induction d h using vC.casesOn with
    |S q=>exact .S (by rw[Ms e,q];rfl)
    |at_ m q u=>
     rw[rU];exact .at_ (m+1) (by rw[Ms e,q];rfl) ((a83 (.c x) t 0 m).trans u)
theorem a84:∀{k:Nat},km (T.drop i) k m=km T (i+k) m:=by
 induction m with
 |zero=>exact λ{_}=>rfl|succ m b=>
  intro k;show(mB (T.drop i)[k]?&&km (T.drop i) (k+1) m)=_;rw[b,Cq];rfl
end
section
variable(a:cj)(T:List bB)
noncomputable def oE:cy->V->Prop
 |.e8,v=>v=.str (cat a T)|.M k,v=>v=.a (bk a T k:Nat)|.t i j,v=>v=.str (ct (cat a T) (bk a T i) (bk a T j))|.num k c,v=>v=.a (a.num k+c)|.h5,v=>∃i,v=.a i/\0<i|.h6,v=>∃s,v=.str s|.d1 k,v=>v=a.d1 k|.i5 k,v=>∃i:Nat,v=.a i/\bk a T k<=i|.pre s,v=>∃t,v=.str (s++t)
mutual
noncomputable def dW(b:List Nat):W->V->Prop
 |.N x,v=>v=x|.tup e,v=>∃c,v=.tup c/\ci b e c|.obj i,v=>∃d,b[i]?=ac d/\v=.obj d|.a2 y,v=>oE a T y v
noncomputable def ci(c:List Nat):List W->List V->Prop
 |[],b=>b=[]|w::r,b=>∃v t,b=v::t/\dW c w v/\ci c r t
end
noncomputable def wW:Option Nat->List V
 |none=>[]|some k=>a.g5 k
def eu(d:List Nat)(b:List (List Nat×W))(c:List (List Nat×V)):Prop:=c.map (·.1)=b.map (·.1)/\ci a T d (b.map (·.2)) (c.map (·.2))
noncomputable def gM(b:List Nat):OS->O->Prop
 |.list p i,o=>∃h,o=.list (wW a p++h)/\ci a T b i h|.dict g n,o=>∃e,o=.dict e n/\eu a T b g e|.ns g,o=>∃e,o=.ns e/\eu a T b g e|.inst C d,o=>∃f,b[d]?=ac f/\o=.inst C f|.exc C ae c,o=>o=.exc C ae c|.exc C (ac d) c,o=>∃f,b[d]?=ac f/\o=.exc C (ac f) c
structure ir(b:List Nat)(c:HS)(h:H):Prop where
 len:b.length=c.length
 nd:b.Nodup
 at_:∀(j:Nat) o d,c[j]?=ac o->b[j]?=ac d->∃x,h[d]?=ac x/\gM a T b o x
end
structure fy(c:List Nat)(h:H)(d:List Nat)(e:H):Prop where
 pre:c<+:d
 new:∀b∈d,b∉c->h.length<=b
 same:∀b,b<h.length->b∉c->e[b]?=h[b]?
 len:h.length<=e.length
structure aF(a:cj)(T:List bB)where
 φ:List Nat
 h:H
 p:HS
 ok:ir a T φ p h
def aF.le(s b:aF a T):Prop:=fy s.φ s.h b.φ b.h
section
variable{a:cj}{T:List bB}(s:aF a T)
abbrev aF.z(w:W)(v:V):Prop:=dW a T s.φ w v
abbrev aF.a4(b:List W)(c:List V):Prop:=ci a T s.φ b c
inductive bu{f e:Type}(Q:aF a T->f->e->Prop):RS f->R e->Prop
 |i (r:R e):bu Q .i r
 |ok {c:aF a T} {d:f} {b:e} (h:s.le c) (q:Q c d b):bu Q (.ok d c.p) (.ok b c.h)
 |exc {c:aF a T} {g d:Nat} (h:s.le c) (q:c.φ[g]?=ac d):bu Q (.exc g c.p) (.exc d c.h)
structure cC(b:LS)(e:av):Prop where
 len:b.length=e.length
 at_:∀(i:Nat) w,b[i]?=ac (ac w)->∃v,e[i]?=ac (ac v)/\s.z w v
inductive iU:FS->Fl->Prop
 |next:iU .next .next
 |a3:iU .a3 .a3
 |a5:iU .a5 .a5
 |B {w:W} {v:V} (r:s.z w v):iU (.B w) (.B v)
 |exc {i b:Nat} (r:s.φ[i]?=ac b):iU (.exc i) (.exc b)
inductive bC:XS->Mine.Internal.X->Prop
 |i (r:Mine.Internal.X):bC ae r
 |mk {b:aF a T} {f:FS} {c:Fl} {d:LS} {e:av} (g:s.le b) (L:cC b d e) (F:iU b f c):bC (ac (f,d,b.p)) (ac (c,e,b.h))
end
end
section
section
variable{a:cj}{T:List bB}{b e g:List Nat}{h i j:H}{s c k:aF a T}
theorem fy.b5(b:List Nat)(h:H):fy b h b h:=⟨uT _,λq f p=>absurd f p,λq q q=>rfl,bI _⟩
theorem fy.trans(x:fy b h e i)(y:fy e i g j):fy b h g j:=by
 refine⟨x.pre.trans y.pre,λf t p=>?_,λf r p=>?_,aV x.len y.len⟩
 ·by_cases q:f∈e
  ·exact x.new f q p
  ·exact aV x.len (y.new f t q)
 ·rw[y.same f (fu r x.len) λq=>absurd (x.new f q p) (Nat.not_le.mpr r),x.same f r p]
theorem aF.rfl(s:aF a T):s.le s:=.b5 _ _
theorem aF.le.trans(x:s.le c)(y:c.le k):s.le k:=fy.trans x y
theorem pj{f q:List Nat}(p:f<+:q){r u:Nat}(v:f[r]?=ac u):q[r]?=ac u:=
 am p λt z=>z▸(gI (List.getElem?_eq_some_iff.mp v).1).trans v
theorem ar9{f:List Nat}{p q:Nat}(r:f.length=p):(f++[q])[p]?=ac q:=by
 rw[<-r,fM (bI _),gJ];rfl
theorem aF.le.ix(x:s.le c){f p:Nat}(q:s.φ[f]?=ac p):c.φ[f]?=ac p:=pj x.pre q
theorem dW.mono(p:b<+:e)(w:W):∀{v:V},dW a T b w v->dW a T e w v:=
 @W.rec (λw=>∀{v:V},dW a T b w v->dW a T e w v) (λx=>∀{u:List V},ci a T b x u->ci a T e x u)
  (λD D f=>f) (λD y D f=>ak f λu q r=>al u q (y r)) (λD D f=>ak f λz q r=>al z (pj p q) r) (λD D f=>f)
  (λf=>f) (λD D A B D f=>bE f λv t q r C=>bw v t q (A r) (B C)) w
theorem ci.mono(p:b<+:e){f:List W}{q:List V}(u:ci a T b f q):ci a T e f q:=by
 induction f generalizing q with
 |nil=>exact u|cons w r x=>exact bE u λv t y z A=>bw v t y (dW.mono p w z) (x A)
theorem aF.le.v(x:s.le c){w:W}{f:V}(r:s.z w f):c.z w f:=dW.mono x.pre w r
theorem aF.le.vs(x:s.le c){w:List W}{f:List V}(r:s.a4 w f):c.a4 w f:=ci.mono x.pre r
theorem gM.mono(p:b<+:e){v:OS}{x:O}(t:gM a T b v x):gM a T e v x:=by
 induction v using OS.casesOn with
 |list q A=>exact ak t λu r f=>al u r (f.mono p)|dict z B=>exact ak t λu r f=>br u r f.1 (f.2.mono p)|ns z=>exact ak t λu r f=>br u r f.1 (f.2.mono p)|inst C w=>exact ak t λy r f=>al y (pj p r) f|exc C w D=>cases w with
  |none=>exact t|some w=>exact ak t λy r f=>al y (pj p r) f
theorem cC.up(x:cC s f p)(q:s.le c):cC c f p:=⟨x.len,λr w t=>ak (x.at_ r w t) λv u y=>al v u (q.v y)⟩
theorem cC.set(x:cC s t z)(A:s.z w v)(p:Nat):cC s (t.set p (ac w)) (z.set p (ac v)):=by
 refine⟨by rw[jO,jO,x.len],λy u f=>?_⟩
 rw[be4]at f⊢;by_cases q:p=y
 ·rw[if_pos q]at f⊢;by_cases r:p<t.length
  ·rw[if_pos r]at f;rw[if_pos (x.len▸r)];exact al v rfl (ax (ax f)▸A)
  ·rw[if_neg r]at f;exact nomatch f
 ·rw[if_neg q]at f⊢;exact x.at_ y u f
theorem cC.k6(x:cC s p q):cC s (p.map λt=>ae) (q.map λt=>ae):=
 ⟨by rw[bH,bH,x.len],λr w f=>by
  rw[iQ]at f;exact bG f λt t z=>nomatch z⟩
theorem aF.obj(s:aF a T){f q:Nat}{r:OS}(t:s.φ[f]?=ac q)(u:s.p[f]?=ac r):∃y,s.h[q]?=ac y/\gM a T s.φ r y:=s.ok.at_ f r q u t
theorem tO{f:List Nat}(t:f.Nodup){p q r:Nat}(u:f[p]?=ac r)(v:f[q]?=ac r):p=q:=Bq t u v
theorem wi{d:Type}{p:List d}{r t:Nat}{v u:d}(f:(p.set r v)[t]?=ac u):(r=t/\v=u)\/(r≠t/\p[t]?=ac u):=by
 rw[be4]at f;by_cases q:r=t
 ·rw[if_pos q]at f;by_cases p:r<p.length
  ·rw[if_pos p]at f;exact .inl ⟨q,ax f⟩
  ·rw[if_neg p]at f;exact nomatch f
 ·rw[if_neg q]at f;exact .inr ⟨q,f⟩
theorem EP{d:Type}{p:List d}{r:Nat}{v t:d}(f:(p++[v])[r]?=ac t):(r<p.length/\p[r]?=ac t)\/(r=p.length/\v=t):=by
 rw[List.getElem?_append]at f;by_cases q:r<p.length
 ·rw[if_pos q]at f;exact .inl ⟨q,f⟩
 ·rw[if_neg q]at f
  cases u:r-p.length with
  |zero=>rw[u]at f;exact .inr ⟨bg7 (Nat.le_of_sub_eq_zero u) (xR q),ax f⟩
  |succ w=>rw[u]at f;exact nomatch f
theorem ir.put{t:HS}(x:ir a T b t h){f p:Nat}(v:b[f]?=ac p)(B:p<h.length){w:OS}{y:O}(C:gM a T b w y):ir a T b (t.set f w) (h.set p y):=by
 refine⟨by rw[jO,x.len],x.nd,λD u A E q=>?_⟩
 rcases wi E with z|z
 ·have r:b[f]?=ac A:=by rw[z.1];exact q
  rw[<-z.2,<-ax (v.symm.trans r)];exact al y (ig B) C
 ·refine ak (x.at_ D u A z.2 q) λF G I=>al F ?_ I;rw[fZ λr=>z.1 (tO x.nd v (by rw[r];exact q))];exact G
noncomputable def aF.put(s:aF a T){q f:Nat}(t:s.φ[q]?=ac f)(u:f<s.h.length){r:OS}{y:O}(v:gM a T s.φ r y):aF a T:=⟨s.φ,s.h.set f y,s.p.set q r,s.ok.put t u v⟩
theorem aF.f5(s:aF a T){u f:Nat}(t:s.φ[u]?=ac f)(v:f<s.h.length){w:OS}{y:O}(x:gM a T s.φ w y):s.le (s.put t v x):=
 ⟨uT _,λD A r=>absurd A r,λB C r=>fZ λq=>r ((show f=B from q)▸bT t),fN List.length_set.symm⟩
theorem ir.lt{q:HS}(x:ir a T b q h)(f:Nat)(r:f∈b):f<h.length:=
 am (List.mem_iff_getElem?.mp r) λt p=>ak (x.at_ t _ f (nU (x.len▸(List.getElem?_eq_some_iff.mp p).1)) p) λy u v=>(List.getElem?_eq_some_iff.mp u).1
theorem ir.push{p:HS}(x:ir a T b p h){q:OS}{y:O}(v:gM a T (b++[h.length]) q y):ir a T (b++[h.length]) (p++[q]) (h++[y]):=by
 refine⟨by rw[aU,aU,x.len];rfl,List.nodup_append.mpr (dc x.nd (List.nodup_cons.mpr ⟨ii,Sn⟩) (λG A r f B=>jn h.length (x.lt _ (List.mem_singleton.mp f▸B▸A)))),λC u r D f=>?_⟩
 refine uW (EP D) (λz=>uW (EP f) (λw=>?_) λw=>absurd (x.len▸z.1) (w.1▸jn _)) λz=>uW (EP f) (λw=>absurd w.1 (x.len.symm▸z.1▸jn _)) λw=>?_
 ·exact ak (x.at_ C u r z.2 w.2) λE t F=>al E ((gI (List.getElem?_eq_some_iff.mp t).1).trans t) (F.mono (ij ..))
 ·rw[<-w.2,<-z.2];exact al y (by rw[fM (bI _),gJ];rfl) v
noncomputable def aF.push(s:aF a T){f:OS}{y:O}(q:gM a T (s.φ++[s.h.length]) f y):aF a T:=⟨s.φ++[s.h.length],s.h++[y],s.p++[f],s.ok.push q⟩
theorem aF.g6(s:aF a T)(f:gM a T (s.φ++[s.h.length]) v y):s.le (s.push f):=
 ⟨ij ..,λw r t=>(List.mem_append.mp r).elim (λq=>absurd q t) λq=>fN (List.mem_singleton.mp q).symm,λx u A=>gI u,aU▸dm _ _⟩
theorem aF.g7(s:aF a T)(f:gM a T (s.φ++[s.h.length]) q y):(s.push f).φ[s.p.length]?=ac s.h.length:=ar9 s.ok.len
section
variable{d l m n:Type}{Q:aF a T->d->l->Prop}{o:aF a T->m->n->Prop}
theorem bu.e9(p:s.le c)(q:bu c Q x r):bu s Q x r:=by
 induction q using bu.casesOn with
 |i r=>exact .i r|ok f q=>exact .ok (p.trans f) q|exc f q=>exact .exc (p.trans f) q
theorem bu.bind{t:d->HS->RS m}{f:l->H->R n}(w:bu s Q x r)(y:∀c u v,s.le c->Q c u v->bu c o (t u c.p) (f v c.h)):bu s o (x.bind t) (r.bind f):=by
 induction w using bu.casesOn with
 |i r=>exact .i _|ok p q=>exact .e9 p (y _ _ _ p q)|exc p q=>exact .exc p q
theorem bu.here(q:Q s f p):bu s Q (.ok f s.p) (.ok p s.h):=.ok s.rfl q
end
inductive Is(s:aF a T)(w:W):R V->Prop
 |mk {v:V} (q:s.z w v):Is s w (.ok v s.h)
theorem bu.g8(h:∀w,f=ac w->Is s w r):bu s aF.z (jE f s.p) r:=by
 cases f with
 |none=>exact .i r|some w=>induction h w rfl using Is.casesOn with
  |mk q=>exact .here q
inductive mO(s:aF a T):W×HS->R V->Prop
 |mk {c:aF a T} {w:W} {v:V} (f:s.le c) (q:c.z w v):mO s (w,c.p) (.ok v c.h)
theorem mO.same(x:Is s w r):mO s (w,s.p) r:=by
 induction x using Is.casesOn with
 |mk q=>exact .mk s.rfl q
theorem bu.k7(h:∀p,f=ac p->mO s p r):bu s aF.z (Bv f) r:=by
 cases f with
 |none=>exact .i r|some p=>induction h p rfl using mO.casesOn with
  |mk t q=>exact .ok t q
inductive mS(s:aF a T)(w:W):Option V->Prop
 |mk {v:V} (q:s.z w v):mS s w (ac v)
theorem bu.k8(h:∀w,f=ac w->mS s w r):bu s aF.z (jE f s.p) (match(generalizing:=false) r with|some x=>.ok x s.h|none=>.i):=by
 cases f with
 |none=>exact .i _|some w=>induction h w rfl using mS.casesOn with
  |mk q=>exact .here q
theorem fg{d:Type}{f:V->Option d}{w:W}{p:d}{v:V}(q:w.b7 f=ac p)(r:s.z w v):f v=ac p:=by
 induction w using W.casesOn with
 |N x=>exact(show v=x from r)▸q
 |_=>exact nomatch q
theorem hW(f:w.ix=ac q)(r:s.z w v):∃p,s.φ[q]?=ac p/\v=.obj p:=by
 induction w using W.casesOn with
 |obj t=>exact ax f▸r|_=>exact nomatch f
theorem kR(f:jx v=ac p):v=.a p:=by
 induction v using V.casesOn<;>first|exact congrArg _ (ax f)|exact nomatch f
theorem ly(f:jI v=ac p):v=.str p:=by
 induction v using V.casesOn<;>first|exact congrArg _ (ax f)|exact nomatch f
theorem Lx(f:oQ v=ac p):v=.m p:=by
 induction v using V.casesOn<;>first|exact congrArg _ (ax f)|exact nomatch f
theorem Lc(f:DW v=ac q):v=.str [q]:=by
 induction v using V.casesOn with
 |str p=>cases p with
  |nil=>exact nomatch f|cons r p=>cases p with
   |nil=>exact congrArg (λq=>V.str [q]) (ax f)|cons t p=>exact nomatch f
 |_=>exact nomatch f
theorem Ga(f:Br v=ac u):v=.none:=by
 induction v using V.casesOn<;>first|rfl|exact nomatch f
theorem xB{y:cy}(f:y.g4=af):y=.e8:=by
 induction y using cy.casesOn<;>first|rfl|exact nomatch f
theorem Dy{y:cy}{f:Nat}(p:y.at_=ac f):y=.M f:=by
 induction y using cy.casesOn<;>first|exact congrArg _ (ax p)|exact nomatch p
theorem QG{w:W}{y:cy}(f:w.j1=ac y):w=.a2 y:=by
 induction w using W.casesOn<;>first|exact congrArg _ (ax f)|exact nomatch f
theorem Pa{d:Type}{f:List d}{p:d}(q:tQ f=ac p):f=[p]:=by
 cases f with
 |nil=>exact nomatch q|cons r f=>cases f with
  |nil=>exact congrArg (λp=>[p]) (ax q)|cons t f=>exact nomatch q
theorem a81{d:Type}{f:List d}{p:d×d}(q:mA f=ac p):f=[p.1,p.2]:=by
 cases f with
 |nil=>exact nomatch q|cons u f=>exact bG q λv r t=>by rw[Pa r,<-t]
theorem kp{w:W}{f:List W}{p:List V}{G:Prop}(r:s.a4 (w::f) p)(q:∀v t,p=v::t->s.z w v->s.a4 f t->G):G:=bE r q
theorem a89{f:List W}{w:W}{p:List V}{G:Prop}(q:tQ f=ac w)(r:s.a4 f p)(u:∀v,p=[v]->s.z w v->G):G:=by
 rw[Pa q]at r;exact kp r λv t z x y=>u v (z.trans (congrArg _ y)) x
theorem Rj{f:List W}{p:W×W}{q:List V}{G:Prop}(u:mA f=ac p)(r:s.a4 f q)(w:∀v x,q=[v,x]->s.z p.1 v->s.z p.2 x->G):G:=by
 rw[a81 u]at r;exact kp r λv t z y A=>kp A λx B C D E=>w v x (by rw[z,C,show B=[]from E]) y D
theorem iD(w:W):∀{x v:V},de w=ac x->dW a T b w v->v=x/\gU x=af:=
 @W.rec (λw=>∀{x v:V},de w=ac x->dW a T b w v->v=x/\gU x=af) (λu=>∀{p z:List V},jC u=ac p->ci a T b u z->z=p)
  (λy x v f r=>by
   have f:(if gU y=af then ac y else ae)=ac x:=f;by_cases q:gU y=af
   ·rw[if_pos q]at f;exact⟨r.trans (ax f),ax f▸q⟩
   ·rw[if_neg q]at f;exact nomatch f)
  (λu E x v f r=>bG f λp B A=>ak r λz C D=>by rw[C,E B D,A,<-A];exact⟨rfl,rfl⟩)
  (λM M M f=>nomatch f) (λM M M f=>nomatch f)
  (λf r=>r.trans (ax f))
  (λw u F G p z f r=>aC f λx B A=>bG A λp C D=>bE r λv t I J L=>by rw[I,(F B J).1,G C L,D]) w
theorem FJ(q:jC f=ac p)(r:ci a T b f u):u=p:=by
 induction f generalizing p u with
 |nil=>exact r.trans (ax q)|cons w f y=>exact aC q λx z A=>bG A λp B C=>bE r λv t D E F=>by rw[D,(iD w z E).1,y B F,C]
theorem au5(f:List V):ci a T b (f.map .N) f:=by
 induction f with
 |nil=>exact rfl|cons v f p=>exact bw v f rfl rfl p
theorem QZ(f:List V):ci a T b (uA f) f:=
 @V.rec_1 (λv=>dW a T b (QX v) v) (λf=>ci a T b (uA f) f) rfl (λt=>rfl) (λt=>rfl) (λt=>rfl) (λf p=>al f rfl p) (λt=>rfl) (λt=>rfl) rfl (λv f q r=>bw v f rfl q r) f
theorem ci.len{f:List W}{p:List V}(q:ci a T b f p):p.length=f.length:=by
 induction f generalizing p with
 |nil=>exact congrArg pE q|cons w r u=>exact bE q λv t z x h=>by rw[z];exact congrArg xT (u h)
theorem ci.get{q:List W}{p:List V}{f:Nat}{w:W}(h:ci a T b q p)(x:q[f]?=ac w):∃v,p[f]?=ac v/\dW a T b w v:=by
 induction q generalizing p f with
 |nil=>exact nomatch x|cons u r y=>
  exact bE h λv t z A B=>by
   subst z
   cases f with
   |zero=>exact al v rfl (ax x▸A)|succ f=>exact y (p:=t) (f:=f) B x
theorem ci.app(p:ci a T b q u)(h:ci a T b x f):ci a T b (q++x) (u++f):=by
 induction q generalizing u with
 |nil=>cases p;exact h
 |cons w r y=>exact bE p λv t z A B=>bw v (t++f) (congrArg (· ++f) z) A (y B)
theorem ci.q1(f:Nat)(h:ci a T b p q):ci a T b (p.drop f) (q.drop f):=by
 induction p generalizing q f with
 |nil=>cases h;induction f using Nat.casesOn<;>exact rfl
 |cons w r u=>
  cases f with
  |zero=>exact h|succ f=>exact bE h λv t z y x=>z▸u f x
theorem ci.q2(f:Nat)(h:ci a T b p q):ci a T b (p.take f) (q.take f):=by
 induction p generalizing q f with
 |nil=>cases h;induction f using Nat.casesOn<;>exact rfl
 |cons w r u=>
  cases f with
  |zero=>exact rfl|succ f=>exact bE h λv t z x y=>z▸(bw v (t.take f) rfl x (u f y))
theorem sJ(h:qz T w=ac f)(r:dW a T b w v):v=.a (bk a T f:Nat):=by
 induction w using W.casesOn with
 |N x=>
  exact aC h λC q t=>cb t λu z=>dr u λA B=>by
   have p:=BZ a B;rw[jo,tV,jo]at p;rw[show v=x from r,kR q,<-z,p,xI (of_decide_eq_true A)]
 |a2 y=>rw[Dy (show y.at_=ac f from h)]at r;exact r
 |_=>exact nomatch h
theorem iE{t u:Nat}{v:List W}(f:OS.y s.p[t]?=ac v)(w:s.φ[t]?=ac u):∃r,s.h[u]?=ac (.list r)/\s.a4 v r:=by
 cases q:s.p[t]? with
 |none=>rw[q]at f;exact nomatch f
 |some x=>
  rw[q]at f
  induction x using OS.casesOn with
  |list p D=>cases p with
   |none=>exact ak (s.obj w q) λy z A=>ak A λr B C=>al r (B▸z) (ax f▸C)|some E=>exact nomatch f
  |_=>exact nomatch f
theorem av7{t u:Nat}{p:Option Nat×List W}(f:OS.m2 s.p[t]?=ac p)(v:s.φ[t]?=ac u):∃r,s.h[u]?=ac (.list (wW a p.1++r))/\s.a4 p.2 r:=by
 cases q:s.p[t]? with
 |none=>rw[q]at f;exact nomatch f
 |some w=>
  rw[q]at f
  induction w using OS.casesOn with
  |list p C=>exact ak (s.obj v q) λy x z=>ak z λr A B=>ax f▸(al r (A▸x) B)|_=>exact nomatch f
theorem sV{r t:Nat}{p:List (List Nat×W)×Option Nat}(f:OS.b8 s.p[r]?=ac p)(v:s.φ[r]?=ac t):∃u,s.h[t]?=ac (.dict u p.2)/\eu a T s.φ p.1 u:=by
 cases q:s.p[r]? with
 |none=>rw[q]at f;exact nomatch f
 |some w=>
  rw[q]at f
  induction w using OS.casesOn with
  |dict D E=>exact ak (s.obj v q) λy x z=>ak z λA B C=>ax f▸(al A (B▸x) C)|_=>exact nomatch f
theorem Bt{r t:Nat}{p:List (List Nat×W)}(f:OS.j2 s.p[r]?=ac p)(v:s.φ[r]?=ac t):∃u,s.h[t]?=ac (.ns u)/\eu a T s.φ p u:=by
 cases q:s.p[r]? with
 |none=>rw[q]at f;exact nomatch f
 |some w=>
  rw[q]at f
  induction w using OS.casesOn with
  |ns D=>exact ak (s.obj v q) λy x z=>ak z λA B C=>ax f▸(al A (B▸x) C)|_=>exact nomatch f
theorem te{t v:Nat}{p:aj×Option Nat×Bool}(f:OS.d9 s.p[t]?=ac p)(A:s.φ[t]?=ac v):∃r,s.h[v]?=ac (.exc p.1 r p.2.2)/\∀u,gM a T s.φ (.exc p.1 p.2.1 u) (.exc p.1 r u):=by
 cases q:s.p[t]? with
 |none=>rw[q]at f;exact nomatch f
 |some B=>
  rw[q]at f
  induction B using OS.casesOn with
  |exc C r u=>
   cases f;refine ak (s.obj A q) λy w x=>?_
   cases r with
   |none=>exact al ae (w.trans (congrArg ac x)) (λF=>rfl)|some r=>exact ak x λz D E=>al (ac z) (w.trans (congrArg ac E)) (λF=>al z D rfl)
  |_=>exact nomatch f
theorem lk{p f:Nat}{q:O}(_:s.φ[p]?=ac f)(r:s.h[f]?=ac q):f<s.h.length:=(List.getElem?_eq_some_iff.mp r).1
theorem eu.inv{G:Prop}(r:eu a T b (q::w) p)(x:∀v t,p=(q.1,v)::t->dW a T b q.2 v->eu a T b w t->G):G:=by
 cases p with
 |nil=>exact nomatch r.1|cons f p=>exact bE r.2 λv t u y z=>x f.2 p (congrArg (λA=>(A,f.2)::p) (rR r.1).1) ((show f.2=v from(rR u).1)▸y) ⟨(rR r.1).2,(rR u).2▸z⟩
theorem eu.cons{f:List Nat×W}{p:List (List Nat×W)}{v:V}{t:List (List Nat×V)}(r:dW a T b f.2 v)(q:eu a T b p t):eu a T b (f::p) ((f.1,v)::t):=wo (congrArg (f.1::·) q.1) v _ rfl r q.2
theorem eu.nil{f:List (List Nat×V)}(r:eu a T b [] f):f=[]:=List.map_eq_nil_iff.mp r.1
inductive lN(b:List Nat):Option W->Option V->Prop
 |S:lN b ae ae
 |at_ {w:W} {v:V} (r:dW a T b w v):lN b (ac w) (ac v)
theorem lN.isSome(f:lN (a:=a) (T:=T) b p q):q.isSome=p.isSome:=by induction f using lN.casesOn<;>rfl
theorem lN.k9(f:lN (a:=a) (T:=T) b (ac w) p):∃v,p=ac v/\dW a T b w v:=by
 cases f with
 |at_ r=>exact al _ rfl r
theorem lN.none(f:lN (a:=a) (T:=T) b ae p):p=ae:=by cases f;rfl
theorem eu.look(q:eu a T b u w)(f:List Nat):lN (a:=a) (T:=T) b (u.lookup f) (w.lookup f):=by
 induction u generalizing w with
 |nil=>rw[q.nil];exact .S
 |cons p r x=>
  exact q.inv λv t z y A=>by
   subst z;rw[show p=(p.1,p.2)from rfl,jP,jP]
   cases f==p.1 with
   |true=>exact .at_ y|false=>exact x A
theorem eu.put(u:eu a T b y A)(f:List Nat)(B:dW a T b w v):eu a T b (rC y f w) (cL A f v):=by
 induction y generalizing A with
 |nil=>rw[u.nil];exact wo rfl v [] rfl B rfl
 |cons p r D=>
  exact u.inv λx t z E C=>by
   subst z;show eu a T b (if p.1=f then(f,w)::r else(p.1,p.2)::rC r f w) (if p.1=f then(f,v)::t else(p.1,x)::cL t f v);by_cases q:p.1=f
   ·rw[if_pos q,if_pos q];exact .cons B C
   ·rw[if_neg q,if_neg q];exact .cons E (D C)
theorem eu.del(u:eu a T b v w)(f:List Nat):eu a T b (Ah v f) (oR w f):=by
 unfold Ah oR
 induction v generalizing w with
 |nil=>rw[u.nil];exact⟨rfl,rfl⟩
 |cons p r y=>
  exact u.inv λx t z B A=>by
   subst z;rw[bd7,bd7];by_cases q:(p.1 !=f)=af
   ·rw[if_pos q,if_pos q];exact .cons B (y A)
   ·rw[if_neg q,if_neg q];exact y A
theorem eu.len{p:List (List Nat×W)}{q:List (List Nat×V)}(r:eu a T b p q):q.length=p.length:=by
 rw[<-bH (f:=om),<-bH (f:=om) (as:=p)];exact congrArg pE r.1
end
end
section
noncomputable def R.at_(h:H):R V->R V
 |.ok v _=>.ok v h|.exc b _=>.exc b h|.i=>.i
theorem tC{c:Prop}[Decidable c]:(if c then R.ok v h else .i)=R.at_ h (if c then .ok v []else .i):=by
 by_cases q:c
 ·rw[if_pos q,if_pos q];rfl
 ·rw[if_neg q,if_neg q];rfl
theorem am4:wr b x y h=(wr b x y []).at_ h:=by induction b using Operator.casesOn<;>first|rfl|exact tC
theorem a17:xu b x y h=(xu b x y []).at_ h:=by induction b using Operator.casesOn<;>first|rfl|exact tC
theorem Wf(n:gU x=af):bZ b x y h=(bZ b x y []).at_ h:=by
 induction x using V.casesOn with
 |a i=>induction y using V.casesOn<;>first|rfl|exact am4
 |str i=>induction y using V.casesOn<;>first|rfl|exact a17
 |obj i=>exact nomatch n|_=>rfl
theorem aj7(n:gU x=af)(e:gj [] x y=ac t):gj h x y=ac t:=by
 induction x using V.casesOn<;>first|exact e|exact nomatch n
theorem am0(n:gU y=af)(e:nv x [] y=ac t):nv x h y=ac t:=by
 induction y using V.casesOn<;>first|exact e|exact nomatch n
theorem a62(n:gU x=af)(e:aA [] x=ac t):aA h x=ac t:=by
 induction x using V.casesOn<;>first|exact e|exact nomatch n
theorem an6(n:gU x=af)(e:cH [] x (.a k)=ac y):cH h x (.a k)=ac y:=by
 induction x using V.casesOn<;>first|exact e|exact nomatch n
theorem Li{n b:Nat}:cg n (b:Int)=min b n:=by
 unfold cg;rw[if_neg (Int.not_lt.mpr (ku b))];by_cases h:b<=n
 ·rw[bc5 (Int.ofNat_le.mpr h),HC (ku b),pD,HR h]
 ·have h:=HQ h;rw[Int.min_eq_right (Int.ofNat_le.mpr h),HC (ku n),pD,Sx h]
theorem aV8{e:Type}{s:List e}{d b:Nat}:ct s (min d s.length) (min b s.length)=ct s d b:=by
 unfold ct;by_cases h:d<=s.length
 ·rw[HR h];by_cases c:b<=s.length
  ·rw[HR c]
  ·have c:=HQ c;rw[Sx c,xP (fN xL),xP (aV (fN xL) (bh3 c d))]
 ·have h:=HQ h;rw[Sx h,bd3 h,bd3 (bI _),HM,HM]
theorem Ql{h:H}{s:List Nat}{c b:Nat}:dU h (.str s) (ac (.a c)) (ac (.a b))=.ok (.str (ct s c b)) h:=by
 show R.ok (V.str (ct s (cg s.length c) (cg s.length b))) h=_;rw[Li,Li,aV8]
theorem aV6:dU h (.str s) l u=(dU [] (.str s) l u).at_ h:=by
 unfold dU
 induction ja l using Option.casesOn<;>induction ja u using Option.casesOn<;>rfl
theorem FY(h:(!b)=af):b=ag:=by induction b using Bool.casesOn<;>first|rfl|exact nomatch h
theorem aI4{s t u:List Nat}(h:s.isPrefixOf t=ag):((s++u)==t)=ag:=by
 rw[beq_eq_false_iff_ne];intro e;rw[<-e,List.isPrefixOf_iff_prefix.mpr (ij ..)]at h;exact nomatch h
section
variable{a:cj}{T:List bB}{s:aF a T}
theorem Is.c1(e:rL r=ac w)(z:b=r.at_ s.h):Is s w b:=by
 induction r using R.casesOn with
 |ok v c=>rw[z,<-ax e];exact .mk rfl
 |_=>exact nomatch e
theorem aI3:oE a T (Gy T k m) (.a ((bk a T k:Int)+(m:Int))):=by
 unfold Gy
 cases q:km T k m with
 |true=>exact congrArg V.a (by rw[BZ a q];rfl)
 |false=>exact al (bk a T k+m) rfl (by rw[(QV a).2];exact xQ (QV a).1 _)
theorem aC6(e:OW T g y d=ac j)(r:oE a T y u):∃i k,u=.a i/\(∀h,bZ g (.a i) (.a d) h=.ok k h)/\oE a T j k:=by
 induction g using Operator.casesOn with
 |Add=>
  induction y using cy.casesOn with
  |num k c=>exact bw _ _ r (λw=>rfl) (by rw[<-ax e];exact congrArg V.a (bc3 ..))
  |M k=>
   exact cb e λb f=>bw _ _ r (λw=>rfl) (by
    have q:=aI3 (a:=a) (T:=T) (k:=k) (m:=d.toNat);rw[xI (of_decide_eq_true b)]at q;exact f▸q)
  |_=>exact nomatch e
 |Sub=>
  exact aC e λk b f=>cb f λm n=>dr m λo p=>dr o λt v=>by
   have l:=BZ a p;rw[xS (of_decide_eq_true v)]at l;rw[Dy b]at r;refine bw _ _ r (λw=>rfl) (n▸congrArg V.a ?_);rw[l,bc7,xI (of_decide_eq_true t),Cm]
 |_=>exact nomatch e
theorem Wg(d:s.z c u)(f:s.z b v)(e:((de c).bind λx=>(de b).bind λy=>rL (bZ g x y []))=ac w):Is s w (bZ g u v s.h)/\gU u=af:=
 aC e λx h e=>aC e λy i e=>by
  have q:=iD c h d;rw[q.1,(iD b i f).1];exact⟨.c1 e (Wf q.2),q.2⟩
theorem DL(c:s.z f u)(g:s.z b v)(e:vS T h f b=ac w):Is s w (bZ h u v s.h)/\gU u=af:=by
 induction f using W.casesOn with
 |a2 y=>
  exact aC e λd j e=>bG e λp l m=>bE (aC6 l c) λi k z n o=>by
   rw[z,kR (fg j g),n,<-m];exact⟨.mk o,rfl⟩
 |_=>exact Wg c g e
theorem Vt(n:gU u=af):js b u v h=bZ b u v h:=by
 induction u using V.casesOn<;>first|rfl|exact nomatch n
theorem aE8{f:gv}{o:Ordering}{t:Bool}{i j:Nat}{h:H}(r:CN i j=o)(e:Pd f o=ac t):aQ f (.a i) (.a j) h=ac t:=by
 have d:∀(p:Prop) [Decidable p] (b:Bool),(b=af↔p)->ac (bf p)=ac b:=λp u b q=>congrArg ac (by cases b with|true=>exact decide_eq_true (q.mp rfl)|false=>exact decide_eq_false λz=>nomatch q.mpr z);subst r;have k:(CN i j==.lt)=af↔(i:Int)<j:=(beq_iff_eq.trans Nat.compare_eq_lt).trans Int.ofNat_lt.symm;have l:(CN i j==.eq)=af↔(i:Int)=j:=(beq_iff_eq.trans Nat.compare_eq_eq).trans Int.ofNat_inj.symm;have m:(CN i j==.gt)=af↔(j:Int)<i:=(beq_iff_eq.trans Nat.compare_eq_gt).trans Int.ofNat_lt.symm;have n:∀{g b c:Int} {o:Bool},(o=af↔g<b)->((!o)=af↔b<=g):=λ{g b c o} q=>by
  rw[xG,<-bb4,q];exact Int.not_lt
 induction f using CmpOp.casesOn with
 |Lt=>exact(d _ _ k).trans e|Gt=>exact(d _ _ m).trans e|LtE=>exact(d _ _ (n (c:=0) m)).trans e|GtE=>exact(d _ _ (n (c:=0) k)).trans e|Eq=>exact(d _ _ l).trans e|NotEq=>exact(congrArg (eJ (!·)) (d _ _ l)).trans e|_=>exact nomatch e
theorem aB9(r:s.z w v)(e:OP w=ac t):jy v=ac t:=by
 induction w using W.casesOn with
 |N x=>exact(show v=x from r)▸e
 |tup d=>exact ak r λf z f=>z▸e|obj i=>exact ak r λf f z=>z▸e|a2 y=>
  refine cb e λb c=>c▸?_
  induction y using cy.casesOn with
  |d1 k=>exact nomatch b|h5=>exact ak r λf z f=>z▸rfl|h6=>exact am r λf z=>z▸rfl|i5 k=>exact ak r λf z f=>z▸rfl|pre k=>exact am r λf z=>z▸rfl|_=>exact(show v=_ from r)▸rfl
theorem Nz(c:s.z d u)(f:s.z b v)(e:Fq d b=ac t):wt u v=ac t:=
 aC e λh g e=>by rw[Ga (fg g f)];exact aB9 c e
theorem Zy{y:cy}{b:W}{u v:V}{t:Bool}(h:oE a T y u)(j:s.z b v)(e:Ma y b=ac t):gj s.h u v=ac t:=by
 induction y using cy.casesOn with
 |h5=>
  exact aC e λd c e=>cb e λf g=>ak h λi z k=>by
   rw[z,kR (fg c j),of_decide_eq_true f,<-g];exact congrArg ac (beq_eq_false_iff_ne.mpr (R' k))
 |pre p=>
  exact aC e λd c e=>cb e λf g=>am h λr z=>by
   rw[z,ly (fg c j),<-g];exact congrArg ac (aI4 (FY f))
 |_=>exact nomatch e
theorem LZ(d:s.z c u)(f:s.z b v)(e:El c b=ac t):gj s.h u v=ac t:=by
 have h:((de c).bind λx=>(de b).bind λy=>gj [] x y)=ac t->gj s.h u v=ac t:=λe=>aC e λx g e=>aC e λy i e=>by
  rw[(iD c g d).1,(iD b i f).1];exact aj7 (iD c g d).2 e
 induction c using W.casesOn with
 |a2 y=>exact Zy d f e|_=>exact h e
theorem al8{x:V}{i d:Nat}{t:Bool}(g:s.φ[i]?=ac d)(e:Np x s.p[i]?=ac t):qU x s.h[d]?=ac t:=by
 cases q:s.p[i]? with
 |none=>rw[q]at e;exact nomatch e
 |some o=>
  rw[q]at e;refine ak (s.obj g q) λy h f=>h▸?_
  induction o using OS.casesOn with
  |list p j=>cases p with
   |none=>exact aC e λl b c=>ak f λm z r=>by rw[z,FJ b r];exact c
   |some k=>exact nomatch e
  |dict u n=>
   exact bG e λk b c=>ak f λv z r=>by
    rw[z,ly b,<-c];refine congrArg ac ?_;exact(r.look k).isSome
  |_=>exact nomatch e
theorem Nq{c b:W}{u v:V}{t:Bool}(h:s.z c u)(f:s.z b v)(e:Fm c b s.p=ac t):nv u s.h v=ac t:=by
 have k:((de c).bind λx=>(de b).bind (nv x []))=ac t->nv u s.h v=ac t:=λe=>aC e λx g e=>aC e λy d e=>by
  rw[(iD c g h).1,(iD b d f).1];exact am0 (iD b d f).2 e
 induction b using W.casesOn with
 |obj i=>exact aC e λx g e=>ak f λj d z=>by rw[z,(iD c g h).1];exact al8 d e
 |_=>exact k e
theorem Yr(d:s.z g u)(f:s.z b v)(e:Lm c g b s.p=ac t):aQ c u v s.h=ac t:=by
 have i:∀{o m:Option Bool},(∀{r},o=ac r->m=ac r)->o.map (!·)=ac t->m.map (!·)=ac t:=λk e=>bG e λr j l=>by rw[k j,<-l];rfl
 have n:∀c,(∀h,aQ c u v h=aQ c u v [])->((de g).bind λx=>(de b).bind λy=>aQ c x y [])=ac t->aQ c u v s.h=ac t:=λc p e=>aC e λx j e=>aC e λy l e=>by
  rw[p,(iD g j d).1,(iD b l f).1];exact e
 induction c using CmpOp.casesOn with
 |Is=>exact Nz d f e|IsNot=>exact i (Nz d f) e|In=>exact Nq d f e|NotIn=>exact i (Nq d f) e|Eq=>exact LZ d f e|NotEq=>exact i (LZ d f) e|_=>exact n _ (λq=>rfl) e
theorem Lo{d:gv}{c b:W}{u v:V}{t:Bool}(f:s.z c u)(g:s.z b v)(e:sR T d c b s.p=ac t):aQ d u v s.h=ac t:=by
 unfold sR at e
 cases q:(tE c||tE b)with
 |true=>
  rw[q]at e;exact aC e λi h e=>aC e λj k e=>aC e λo l e=>by
   rw[sJ h f,sJ k g];exact aE8 (VW a l) e
 |false=>rw[q]at e;exact Yr f g e
theorem xz(r:s.z w v)(e:rJ s.p w=ac t):aA s.h v=ac t:=by
 have d:(de w).bind (aA [])=ac t->aA s.h v=ac t:=λe=>aC e λx b e=>by rw[(iD w b r).1];exact a62 (iD w b r).2 e
 induction w using W.casesOn with
 |obj i=>
  exact bG e λf b g=>ak r λh j z=>ak (iE b j) λc k l=>by
   rw[z,<-g];show(match s.h[h]? with|some (O.list c)=>ac !c.isEmpty|_=>ae)=_;rw[k]
   induction f using List.casesOn<;>induction c using List.casesOn<;>first|rfl|exact nomatch l.len
 |_=>exact d e
theorem Vq(r:s.a4 c d)(e:sD c k=ac w):mS s w (sD d k):=by
 have g:∀n:Nat,c[n]?=ac w->mS s w d[n]?:=λn e=>ak (r.get e) λv b h=>b▸.mk h;unfold sD at e⊢;rw[r.len];by_cases f:0<=k
 ·rw[if_pos f]at e⊢;exact g _ e
 ·rw[if_neg f]at e⊢;by_cases b:0<=k+c.length
  ·rw[if_pos b]at e⊢;exact g _ e
  ·rw[if_neg b]at e;exact nomatch e
theorem aC4{G:Prop}(e:OU o i=ac w)(f:∀b k,OS.y o=ac b->i.b7 jx=ac k->sD b k=ac w->G)(g:∀p k,OS.b8 o=ac p->i.b7 jI=ac k->p.1.lookup k=ac w->G):G:=by
 cases o with
 |none=>exact nomatch e|some o=>induction o using OS.casesOn with
  |list p b=>cases p with
   |none=>exact aC e λk c d=>f b k rfl c d|some _=>exact nomatch e
  |dict h n=>exact aC e λk c d=>g (h,n) k rfl c d|_=>exact nomatch e
theorem NH(e:h[b]?=ac (.list c)):cH h (.obj b) (.a k)=sD c k:=by
 show(match h[b]? with|some (.list c)=>_|_=>_)=_;rw[e];rfl
theorem wz(e:h[c]?=ac (.dict b n)):cH h (.obj c) (.str k)=b.lookup k:=by
 show(match h[c]? with|some (.dict b m)=>dJ b k|_=>ae)=_;rw[e];rfl
theorem ao0(n:s.z C u)(o:s.z b v)(e:NI T s.p C b=ac w):mS s w (cH s.h u v):=by
 induction C using W.casesOn with
 |N x=>
  exact aC e λk l e=>aC e λI d e=>cb d λf I=>bG e λy g h=>by
   rw[show u=x from n,kR (fg l o),an6 f g,<-h];exact .mk rfl
 |tup E=>
  exact aC e λk l e=>aC e λm d e=>cb d λf g=>ak n λD z r=>ak (r.get e) λy h j=>by
   rw[z,kR (fg l o)];show mS s w (if 0<=k then D[k.toNat]? else ae);rw[if_pos (of_decide_eq_true f),g,h];exact .mk j
 |obj i=>
  exact ak n λc l z=>aC4 e (λE k d f g=>ak (iE d l) λD h j=>by
   rw[z,kR (fg f o),NH h];exact Vq j g) λp k d f g=>ak (sV d l) λG h j=>by
   rw[z,ly (fg f o),wz h];have q:=j.look k;rw[g]at q;exact ak q.k9 λx B A=>by rw[B];exact .mk A
 |a2 y=>
  exact aC e λI d e=>cb d λf I=>aC e λk g e=>bG e λc h j=>aC h λt B A=>by
   rw[xB f]at n;rw[show u=.str (cat a T)from n,sJ g o,<-j];have F:t=.c c:=by induction t using bB.casesOn<;>first|exact congrArg _ (ax A)|exact nomatch A
   show mS s _ (if(0:Int)<=(bk a T k:Nat)then((cat a T)[((bk a T k:Nat):Int).toNat]?).map λc=>.str [c]else ae);rw[if_pos (ku _),pD,Vr a (F▸B)];exact .mk rfl
inductive iV(s:aF a T):Option W->Option V->Prop
 |S:iV s ae ae
 |at_ {w:W} {v:V} (r:s.z w v):iV s (ac w) (ac v)
theorem iV.up(r:iV s c b)(l:s.le d):iV d c b:=by
 induction r using iV.casesOn with
 |S=>exact .S|at_ r=>exact .at_ (l.v r)
theorem Ba(r:iV s c b)(e:wN c=ac l):b=l:=by
 induction r using iV.casesOn with
 |S=>exact ax e|at_ r=>exact bG e λx d f=>by rw[(iD _ d r).1,f]
theorem aH0(e:Pm T i j=ac w):s.z w (.str (ct (cat a T) (bk a T i) (bk a T j))):=by
 refine aC e λf b e=>cb b λc f=>?_
 cases q:vW ((T.drop i).take (j-i))with
 |some l=>rw[q]at e;rw[Qp a (of_decide_eq_true c),Ls a q,<-ax e];exact rfl
 |none=>rw[q]at e;exact cb e λf d=>d▸rfl
theorem ac2(e:EA w=ac m)(r:s.z w v):∃i:Nat,v=.a i/\bk a T m<=i:=aC e λy c b=>by
 rw[QG c]at r
 induction y using cy.casesOn<;>first|exact ax b▸r|exact nomatch b
theorem aV5(v:iV s x A)(p:iV s B C)(e:Qn T x B=ac w):Is s w (dU s.h (.str (cat a T)) A C):=by
 induction v using iV.casesOn with
 |S=>
  exact aC e λu f g=>cb g λb c=>by
   subst f;subst c
   cases p with
   |at_ r=>
    cases q:u.j1.bind cy.at_ with
    |none=>rw[tE,q]at b;exact nomatch b
    |some k=>
     exact aC q λy h o=>by
      rw[QG h,Dy o]at r;rw[show _=V.a (bk a T k:Nat)from r];exact .mk ⟨_,rfl⟩
 |at_ l=>
  exact aC e λu f D=>aC D λi g d=>by
   subst f
   cases p with
   |at_ r=>
    rw[sJ g l];unfold Qo at d
    cases q:EA u with
    |none=>rw[q]at d;exact aC d λj b c=>by rw[sJ b r,Ql];exact .mk (aH0 c)
    |some m=>
     rw[q]at d;exact aC d λJ b E=>cb b λc J=>bG E λt h o=>ak (ac2 q r) λn z F=>by
      rw[z,Ql,<-o];have G:t<+:ct (cat a T) (bk a T i) n:=by
       rw[<-Ls a h,<-Qp a (of_decide_eq_true c)];exact List.take_prefix_take_left (bh3 F _)
      exact .mk (am G λz I=>⟨z,congrArg V.str I.symm⟩)
theorem aV7(e:h[c]?=ac (.list b))(d:ja f=ac l)(g:ja i=ac u):
  dU h (.obj c) f i=.ok (.obj h.length) (h++[.list (ct b (l.elim 0 (cg b.length)) (u.elim b.length (cg b.length)))]):=by
 unfold dU;rw[d,g];show(match h[c]? with|some (.list b)=>_|_=>_)=_;rw[e]
theorem aW0(h:s.z q u)(j:iV s v A)(k:iV s B C)(e:Qm T s.p q v B=ac p):mO s p (dU s.h u A C):=by
 induction q using W.casesOn with
 |a2 y=>
  exact aC e λM n e=>cb n λd M=>bG e λw f b=>by
   rw[xB d]at h;rw[show u=.str (cat a T)from h,<-b];exact .same (aV5 j k f)
 |N x=>
  exact aC e λt n e=>aC e λl d e=>aC e λm f e=>bG e λw b o=>by
   rw[Ba j d,Ba k f,show u=x from h,<-o];rw[ly n]at b⊢;exact .same (.c1 b aV6)
 |obj i=>
  exact aC e λl d e=>aC e λm f e=>aC e λD b e=>aC e λE o e=>bG e λg F G=>ak h λc I z=>ak (iE F I) λL J r=>by
   rw[Ba j d,Ba k f,z,aV7 J b o,<-G,r.len];exact .mk (s.g6 (v:=.list ae (ct g (D.elim 0 (cg g.length)) (E.elim g.length (cg g.length)))) (al _ rfl (((r.q1 _).q2 _).mono (ij ..)))) (al _ (s.g7 _) rfl)
 |tup g=>exact nomatch e
end
end
section
inductive qk(P:aZ)(n:List Nat)(h:H)(f d:Nat):Prop
 |inst {C:aj} (e:h[f]?=ac (.inst C d)) (b:P.bears ag C n=af)
 |exc {C:aj} {c:Bool} (e:h[f]?=ac (.exc C (ac d) c)) (b:P.bears af C n=af)
theorem qk.attr(x:qk P n h f d)(e:h[d]?=ac (.ns g)):dH P h (.obj f) n=hO g n:=by
 unfold dH;dsimp only
 induction x using qk.casesOn with
 |inst c b=>rw[c];dsimp only;rw[b,e]
 |exc c b=>rw[c];dsimp only;rw[b,e]
theorem qk.set(x:qk P n h g d)(e:h[d]?=ac (.ns f))(l:f.length<cN):dN P h (.obj g) n v=ac (h.set d (.ns (cL f n v))):=by
 unfold dN;dsimp only
 induction x using qk.casesOn with
 |inst c b=>rw[c];dsimp only;rw[b,e];exact if_pos l
 |exc c b=>rw[c];dsimp only;rw[b,e];exact if_pos l
theorem aU6(e:h[d]?=ac (.exc C ae c))(b:P.bears af C n=af):dN P h (.obj d) n v=ac ((h.set d (.exc C (ac h.length) c))++[.ns [(n,v)]]):=by
 unfold dN;dsimp only;rw[e];exact if_pos b
section
variable{a:cj}{T:List bB}{s:aF a T}{P:aZ}
theorem Na{n:List Nat}{i p d:Nat}(r:s.φ[i]?=ac p)(e:AF P n s.p[i]?=ac d):∃b,s.φ[d]?=ac b/\qk P n s.h p b:=by
 cases q:s.p[i]? with
 |none=>rw[q]at e;exact nomatch e
 |some o=>
  rw[q]at e
  induction o using OS.casesOn with
  |inst C f=>exact cb e λg h=>ak (s.obj r q) λy j k=>ak k λb l m=>al b (h▸l) (.inst (m▸j) g)|exc C f c=>cases f with
   |none=>exact nomatch e|some f=>exact cb e λg h=>ak (s.obj r q) λy j k=>ak k λb l m=>al b (h▸l) (.exc (m▸j) g)
  |_=>exact nomatch e
theorem VU{n:List Nat}{i b:Nat}{c:aj×Bool}(f:s.φ[i]?=ac b)(e:Js P n s.p[i]?=ac c):s.h[b]?=ac (.exc c.1 ae c.2)/\P.bears af c.1 n=af:=by
 cases q:s.p[i]? with
 |none=>rw[q]at e;exact nomatch e
 |some o=>
  rw[q]at e
  induction o using OS.casesOn with
  |exc C d l=>cases d with
   |none=>exact cb e λg h=>ak (s.obj f q) λy j k=>by subst h;exact⟨j.trans (congrArg ac k),g⟩
   |some d=>exact nomatch e
  |_=>exact nomatch e
theorem ar8(e:y.k5=af)(r:oE a T y v):oQ v=ae:=by
 induction y using cy.casesOn with
 |d1 k=>exact nomatch e|h5=>exact ak r λb z b=>z▸rfl|h6=>exact am r λb z=>z▸rfl|i5 k=>exact ak r λb z b=>z▸rfl|pre k=>exact am r λb z=>z▸rfl|_=>exact(show v=_ from r)▸rfl
theorem aB4(e:ON w=af)(r:s.z w v):oQ v=ae:=by
 induction w using W.casesOn with
 |N x=>exact(show v=x from r)▸Option.isNone_iff_eq_none.mp e
 |tup b=>exact ak r λc z c=>z▸rfl|obj i=>exact ak r λc c z=>z▸rfl|a2 y=>exact ar8 e r
theorem YN(e:b.lookup n=ac v)(c:oQ v=ae):hO b n=ac v:=by
 unfold hO dJ;rw[e]
 induction v using V.casesOn<;>first|rfl|exact nomatch c
theorem Ji{f w:W}{u:V}{n:List Nat}(h:s.z f u)(e:DB P s.p f n=ac w):mS s w (dH P s.h u n):=
 aC e λi j e=>ak (hW j h) λc k z=>aC e λd l e=>ak (Na k l) λb m o=>aC e λC p e=>ak (Bt p m) λD t r=>aC e λE x e=>cb e λy A=>by
  have q:=r.look n;rw[x]at q;exact ak q.k9 λv B g=>by rw[z,o.attr t,YN B (aB4 (s:=s) y g),<-A];exact .mk g
inductive ow(s:aF a T):HS->Option H->Prop
 |mk {b:aF a T} (c:s.le b):ow s b.p (ac b.h)
theorem aT9{l w:W}{u v:V}{n:List Nat}{m:HS}(x:s.z l u)(o:s.z w v)(e:xl P s.p l n w=ac m):ow s m (dN P s.h u n v):=
 aC e λi y e=>ak (hW y x) λc f z=>by
  rw[z]
  cases q:AF P n s.p[i]? with
  |some d=>
   rw[q]at e;exact ak (Na f q) λb g A=>aC e λB h e=>ak (Bt h g) λG j r=>cb e λC D=>by
    rw[<-D,A.set j (r.len▸of_decide_eq_true C)];exact .mk (s.f5 g (lk g j) (w:=.ns (rC B n w)) (al _ rfl (r.put n o)))
  |none=>
   rw[q]at e;exact bG e λp E g=>aP (VU f E) λh j=>by
    have F:i<s.p.length:=s.ok.len▸(List.getElem?_eq_some_iff.mp f).1;have t:=lk f h;have k:=s.g6 (v:=.ns [(n,w)]) (y:=.ns [(n,v)]) (ak4 _ rfl rfl v [] rfl (o.mono (ij ..)) rfl);rw[aU6 h j,<-g,<-Sp _ _ F,<-Sp _ _ t];exact .mk (k.trans (aF.f5 _ (k.ix f) (fu t k.len) (w:=.exc p.1 (ac s.p.length) p.2) (al _ (s.g7 _) rfl)))
def gA(s:aF a T)(o:Option (W×HS))(r:R V):Prop:=∀p,o=ac p->mO s p r
inductive yH(s:aF a T):List (ah×Option (W×HS))->List (ah×R V)->Prop
 |nil:yH s [] []
 |cons {k:ah} {o:Option (W×HS)} {r:R V} {l:List (ah×Option (W×HS))} {m:List (ah×R V)} (h:gA s o r) (t:yH s l m):yH s ((k,o)::l) ((k,r)::m)
theorem a35(t:yH s l m)(f:ah):gA s ((l.lookup f).bind id) ((m.lookup f).getD .i):=by
 induction t with
 |nil=>exact λp e=>nomatch e|cons h t b=>
  rw[jP,jP];generalize(f==(_:ah))=q
  induction q using Bool.casesOn
  ·exact b
  ·exact h
theorem mO.here(r:s.z w v):mO s (w,s.p) (.ok v s.h):=.mk s.rfl r
theorem Pb{f:W->Option (W×HS)}{g:List V->R V}(r:s.a4 b c)(h:∀w v,s.z w v->gA s (f w) (g [v])):gA s ((tQ b).bind f) (g c):=λp e=>aC e λw d e=>a89 d r λv z i=>z▸h w v i p e
theorem uz{f:W×W->Option (W×HS)}{g:List V->R V}(r:s.a4 b c)(h:∀p v x,s.z p.1 v->s.z p.2 x->gA s (f p) (g [v,x])):gA s ((mA b).bind f) (g c):=λp e=>aC e λw d e=>Rj d r λv x z i j=>z▸h w v x i j p e
theorem GA{f:H->List V->R V}(c:∀b h,f h b=(f [] b).at_ h)(r:s.a4 d b):gA s (BC f s.p d) (f s.h b):=λp e=>aC e λg i e=>bG e λw j k=>by
 rw[FJ i r,<-k];exact .same (.c1 j (c g _))
theorem Oe(e:h[c]?=ac (.list b)):oG h [.obj c]=.ok (.a b.length) h:=by
 show(match h[c]? with|some (.list b)=>R.ok (V.a b.length) h|_=>.i)=_;rw[e]
theorem au0(r:s.a4 f g):gA s (JM T s.p f) (oG s.h g):=Pb r λw v d p e=>bG e λx e h=>h▸by
 induction w using W.casesOn with
 |N y=>exact bG e λt b c=>by rw[show v=y from d,ly b,<-c];exact .here (v:=.a t.length) rfl
 |a2 y=>
  exact cb e λb c=>by
   rw[xB b]at d;rw[show v=.str (cat a T)from d,<-c];exact .here (v:=.a (cat a T).length) (congrArg (λn:Nat=>V.a n) (Px a T).symm)
 |obj i=>exact bG e λj b c=>ak d λo k z=>ak (iE b k) λq l m=>by rw[z,Oe l,<-c,m.len];exact .here rfl
 |tup j=>exact nomatch e
theorem Fs:sH P h c x=(sH P [] c x).at_ h:=by
 induction x using V.casesOn with
 |str t=>induction c using Value.casesOn<;>first|rfl|exact tC
 |m f=>induction f using Value.casesOn<;>first|rfl|exact tC
 |tup b=>exact tC|_=>rfl
theorem aq7(r:s.z w v)(e:NS w=ac x):sH P s.h c v=(sH P [] c x).at_ s.h:=by
 induction w using W.casesOn with
 |N y=>exact cb e λg b=>by rw[show v=y from r,b];exact Fs
 |tup d=>exact ak r λf z g=>by rw[z,<-ax e];exact Fs (x:=.tup [])
 |a2 y=>induction y using cy.casesOn with
  |t i j=>rw[show v=_ from r,<-ax e];exact Fs (x:=.str [])
  |_=>exact nomatch e
 |obj i=>exact nomatch e
theorem an3(r:s.a4 b d):gA s (JJ P s.p b) (sI P s.h d):=uz r λp v x f g q e=>aC e λc h e=>aC e λy i e=>bG e λw j k=>by
 rw[Lx (fg h g),<-k];exact .same (.c1 j (aq7 f i))
theorem a75(r:s.a4 f b):gA s (JO s.p f) (qy s.h b):=Pb r λw v g p e=>aC e λi h e=>bG e λo j k=>ak (hW h g) λc l z=>ak (iE j l) λd m n=>by
 have q:qy s.h [.obj c]=.ok (.tup d) s.h:=by
  show(match s.h[c]? with|some (.list b)=>R.ok (V.tup b) s.h|_=>.i)=_;rw[m]
 rw[z,q,<-k];exact .here (al d rfl n)
theorem ad5:gO h (nm "find") [.str t,.str [c]]=.ok (.a (lV c t 0)) h:=by kernel_rfl
theorem ad6:gO h (nm "find") [.str t,.str [c],.a b]=if 0<=b&&b<=t.length then .ok (.a (lV c t b.toNat)) h else .i:=by kernel_rfl
theorem ah4(l:i<=T.length)(e:xk c (T.drop i) i=ac o):Is s (MR o) (gO s.h (nm "find") [.str (cat a T),.str [c],.a (bk a T i:Nat)]):=by
 rw[ad6,if_pos (Bool.and_eq_true_iff.mpr ⟨decide_eq_true (ku _),decide_eq_true (Int.ofNat_le.mpr (Px a T▸Gu a l:bk a T i<=(cat a T).length))⟩),pD];unfold lV;rw[Ej]
 induction aT2 a e using vC.casesOn with
 |S q=>rw[q];exact .mk rfl
 |at_ m q u=>
  rw[a84,HP]at u;rw[q];exact .mk (congrArg (λn:Nat=>V.a n) ((nX ..).trans (BZ a u).symm))
theorem ad8(r:s.a4 f m):gA s (JI T s.p f) (gO s.h (nm "find") m):=λp e=>by
 cases f with
 |nil=>exact nomatch e|cons n f=>cases f with
  |nil=>exact nomatch e|cons b f=>
   exact aC e λc x e=>bG e λw h A=>kp r λu t z j r=>kp r λv B C D r=>by
    rw[z,C,Lc (fg x D),<-A]
    cases f with
    |nil=>exact bG h λl k g=>by rw[show B=[]from r,ly (fg k j),ad5,<-g];exact .here rfl
    |cons d f=>cases f with
     |nil=>
      exact aC h λU k e=>cb k λg U=>aC e λi E e=>aC e λU F e=>cb F λG U=>bG e λo I J=>kp r λS L M N Q=>by
       have q:u=.str (cat a T):=by
        induction n using W.casesOn with
        |a2 y=>rw[xB (y:=y) g]at j;exact j
        |_=>exact nomatch g
       rw[M,show L=[]from Q,q,sJ E N,<-J];exact .same (ah4 (of_decide_eq_true G) I)
     |cons U U=>exact nomatch h
theorem a05(c:List V)(h:H):gO h (nm "startswith") c=(gO [] (nm "startswith") c).at_ h:=by
 have e:∀h s b,pq h s (nm "startswith") b=match b with|[.str p]=>.ok (.j (p.isPrefixOf s)) h|_=>.i:=λh s b=>by kernel_rfl
 rcases c with _|⟨v,b⟩
 ·rfl
 ·induction v using V.casesOn<;>first|rfl|skip
  show pq h _ _ _=(pq [] _ _ _).at_ h;rw[e,e];rcases b with _|⟨w,_|⟨_,_⟩⟩
  ·rfl
  ·induction w using V.casesOn<;>rfl
  ·induction w using V.casesOn<;>rfl
theorem aE7(b:List V)(h:H):qw h b=(qw [] b).at_ h:=by
 rcases b with _|⟨v,_|⟨_,_⟩⟩
 ·rfl
 ·induction v using V.casesOn with
  |str l=>rcases l with _|⟨_,_|⟨_,_⟩⟩<;>rfl
  |_=>rfl
 ·induction v using V.casesOn with
  |str l=>rcases l with _|⟨_,_|⟨_,_⟩⟩<;>rfl
  |_=>rfl
theorem WU(b:List V)(h:H):qx h b=(qx [] b).at_ h:=by
 rcases b with _|⟨v,_|⟨_,_⟩⟩
 ·rfl
 ·induction v using V.casesOn<;>first|rfl|exact tC
 ·induction v using V.casesOn<;>rfl
theorem ao4(e:h[d]?=ac (.list b)):gO h (nm "join") [.str t,.obj d]=(gO [.list b] (nm "join") [.str t,.obj 0]).at_ h:=by
 have q:∀h d,gO h (nm "join") [.str t,.obj d]=hX (λb=>match gV b with|some l=>if t=[]&&l.flatten.length<=big&&l.length<=big then .ok (.str l.flatten) h else .i|Option.none=>.i) h[d]?:=λh d=>by kernel_rfl
 rw[q,q,e];show(match gV b with|some l=>if t=[]&&l.flatten.length<=big&&l.length<=big then R.ok (V.str l.flatten) h else .i|Option.none=>.i)=R.at_ h (match gV b with|some l=>if t=[]&&l.flatten.length<=big&&l.length<=big then R.ok (V.str l.flatten) _ else .i|Option.none=>.i)
 cases gV b with
 |none=>rfl|some l=>
  dsimp only;by_cases c:(bf (t=[])&&bf (l.flatten.length<=big)&&bf (l.length<=big))=af
  ·rw[if_pos c,if_pos c];rfl
  ·rw[if_neg c,if_neg c];rfl
theorem ao5(r:s.a4 c d):gA s (JL s.p c) (gO s.h (nm "join") d):=uz r λp v x f g q e=>aC e λt h e=>aC e λi j e=>aC e λy k e=>aC e λA l e=>bG e λw b m=>ak (hW j g) λB n z=>ak (iE k n) λC o u=>by
 rw[ly (fg h f),z,<-m];rw[<-FJ l u]at b;exact .same (.c1 b (ao4 o))
theorem Gg{f:List V->R V}(e:h[b]?=ac (.list c)):rt h b f=f c:=by
 unfold rt;rw[e]
theorem Vi(e:h[c]?=ac (.list b))(l:b.length<big):kL h (nm "append") [.obj c,v]=.ok .none (h.set c (.list (b++[v]))):=by
 exact(Gg e).trans ((by kernel_rfl:ml h c b (nm "append") [v]=if b.length<big then .ok .none (h.set c (.list (b++[v])))else .i).trans (if_pos l))
theorem ac0(e:h[c]?=ac (.list d))(g:h[b]?=ac (.list f))(n:c≠b)(l:d.length+f.length<=big):kL h (nm "extend") [.obj c,.obj b]=.ok .none (h.set c (.list (d++f))):=by
 have q:ml h c d (nm "extend") [.obj b]=hX (λf=>if c≠b&&d.length+f.length<=big then .ok .none (h.set c (.list (d++f)))else .i) h[b]?:=by kernel_rfl
 rw[g]at q;exact(Gg e).trans (q.trans (if_pos (Bool.and_eq_true_iff.mpr ⟨decide_eq_true n,decide_eq_true l⟩)))
theorem PB(e:h[b]?=ac (.list (v::c))):kL h (nm "pop") [.obj b,.a 0]=.ok v (h.set b (.list c)):=by
 exact(Gg e).trans (by kernel_rfl:ml h b (v::c) (nm "pop") [.a 0]=.ok v (h.set b (.list c)))
theorem YT(e:h[c]?=ac (.dict b m)):vQ h [.obj c,.str k,.none]=match dJ b k with|some v=>.ok v (h.set c (.dict (oR b k) aw))|none=>.ok .none h:=by
 show(match h[c]? with|some (.dict b m)=>Ai h c b m (nm "pop") [.str k,.none]|_=>.i)=_;rw[e];exact(by kernel_rfl:Ai h c b m (nm "pop") [.str k,.none]=match dJ b k with|some v=>.ok v (h.set c (.dict (oR b k) Option.none))|none=>.ok .none h)
theorem aa6(e:h[f]?=ac (.exc C d c))(b:(P.cls C).any (·.isExc)=af):qt P h [.obj f,.str t]=.ok .none h:=by
 show(match h[f]? with|some (O.exc C _ _)=>if(P.cls C).any (λc:Cl=>c.isExc)then R.ok V.none h else .i|_=>.i)=_;rw[e];exact if_pos b
def jr(a:cj):Prop:=∀k,(a.g5 k).length<=1000
theorem aH2(b:jr a)(p:Option Nat):(wW a p).length<=1000:=by
 cases p with
 |none=>exact gb _|some k=>exact b k
theorem Vj(h:jr a)(r:s.a4 j k):gA s (JE s.p j) (kL s.h (nm "append") k):=uz r λp v x m n q e=>aC e λi o e=>aC e λl t e=>cb e λu w=>ak (hW o m) λy b z=>ak (av7 t b) λd f g=>by
 have c:(wW a l.1++d).length<big:=by
  rw[aU,g.len];exact mJ (bg3 (aH2 h l.1) (of_decide_eq_true u)) (by decide)
 rw[z,Vi f c,<-w];exact .mk (s.f5 b (lk b f) (w:=.list l.1 (l.2++[p.2])) (al (d++[x]) (congrArg O.list (bt ..)) (g.app (bw x [] rfl n rfl)))) rfl
theorem ac1(r:s.a4 k l):gA s (JH s.p k) (kL s.h (nm "extend") l):=uz r λp v x m n q e=>aC e λi o e=>aC e λj t e=>aC e λu y e=>aC e λA B e=>cb e λC D=>dr C λE F=>ak (hW o m) λJ c z=>ak (hW t n) λb d G=>ak (iE y c) λL f g=>ak (iE B d) λM I h=>by
 rw[z,G,ac0 f I (λw=>of_decide_eq_true E (tO s.ok.nd c (w▸d))) (by rw[g.len,h.len];exact aV (of_decide_eq_true F) (by decide)),<-D];exact .mk (s.f5 c (lk c f) (w:=.list ae (u++A)) (al _ rfl (g.app h))) rfl
theorem aI2(r:s.a4 f g):gA s (JN s.p f) (kL s.h (nm "pop") g):=uz r λp v x h j q e=>aC e λk l e=>aC e λG m e=>cb m λn G=>aC e λi o e=>aC e λb u e=>ak (hW o h) λE c z=>ak (iE u c) λF d A=>by
 cases b with
 |nil=>exact nomatch e|cons w b=>
  exact kp A λy t B C D=>by
   rw[z,kR (fg l j),of_decide_eq_true n,PB (B▸d),<-ax e];exact .mk (s.f5 c (lk c d) (w:=.list ae b) (al _ rfl D)) C
theorem YU(r:s.a4 c j):gA s (JF s.p c) (vQ s.h j):=λp e=>by
 cases c with
 |nil=>exact nomatch e|cons M c=>
  exact aC e λq m e=>aC e λQ n e=>aC e λk o e=>aC e λi A e=>bG e λd B C=>kp r λu t z D r=>Rj m r λv x E F G=>ak (hW A D) λb f I=>ak (sV B f) λN g h=>by
   rw[z,E,I,ly (fg o F),Ga (fg n G),YT g,<-C];have l:=h.look k;unfold LP dJ
   cases q:d.1.lookup k with
   |none=>rw[q]at l;rw[l.none];exact .here rfl
   |some w=>
    rw[q]at l;exact ak l.k9 λy J L=>by
     rw[J];exact .mk (s.f5 f (lk f g) (w:=.dict (Ah d.1 k) ae) (al _ rfl (h.del k))) L
theorem aa7(r:s.a4 b c):gA s (JG P s.p b) (qt P s.h c):=uz r λp v x f g q e=>aC e λt h e=>aC e λi j e=>aC e λC k e=>cb e λl m=>ak (hW j f) λu n z=>ak (te k n) λd o w=>by
 rw[z,ly (fg h g),aa6 o l,<-m];exact .here rfl
theorem WW(b:jr a)(r:s.a4 c d):bu s aF.z (DR T P s.p f c) (dX P g s.h f d):=
 .k7 (a35 (.cons (au0 r)<|.cons (GA aE7 r)<|.cons (λp (e:ae=ac p)=>nomatch e)<|.cons (an3 r)<|.cons (GA WU r)<|.cons (a75 r)<|.cons (ad8 r)<|.cons (GA a05 r)<|.cons (ao5 r)<|
  .cons (Vj b r)<|.cons (ac1 r)<|.cons (aI2 r)<|.cons (YU r)<|.cons (aa7 r) .nil) f)
end
end
section
theorem aA5:nm "find"=OB:=by decide+kernel
theorem aA7:nm "startswith"=OD:=by decide+kernel
theorem aA6:nm "join"=OC:=by decide+kernel
theorem aA3:nm "append"=Oz:=by decide+kernel
theorem aA4:nm "extend"=OA:=by decide+kernel
theorem OJ:nm "pop"=FV:=by decide+kernel
theorem OI:nm "__init__"=FU:=by decide+kernel
theorem rj{h:Prop}[Decidable h]{i k:Type}{l:i}{o:Option i}{m:Option k}{j:i->k}(n:m=o.map j):(if h then ac (j l)else m)=(if h then ac l else o).map j:=by
 by_cases q:h
 ·rw[if_pos q,if_pos q];rfl
 ·rw[if_neg q,if_neg q];exact n
theorem aw5(v:V)(n:List Nat):Bf v n=(BN n).map λh=>(h,[v]):=by
 unfold Bf;rw[aA5,aA7,aA6];exact rj (j:=λh=>(h,[v])) (rj (j:=λh=>(h,[v])) (rj (j:=λh=>(h,[v])) rfl))
theorem aw1(v:V)(n:List Nat):Be v n=(Om n).map λh=>(h,[v]):=by
 unfold Be;rw[aA3,aA4,OJ];exact rj (j:=λh=>(h,[v])) (rj (j:=λh=>(h,[v])) (rj (j:=λh=>(h,[v])) rfl))
theorem aw0(v:V)(n:List Nat):FQ v n=(LC n).map λh=>(h,[v]):=by
 unfold FQ;rw[OJ];exact rj (j:=λh=>(h,[v])) rfl
section
variable{e:cj}{T:List bB}{s:aF e T}{P:aZ}{f:aj->Option (List Int)}{g:kE}{C:bc}{a d:Option Nat}
inductive fk(s:aF e T):Option Nat->Option Nat->Prop
 |S:fk s ae ae
 |at_ {i h:Nat} (r:s.φ[i]?=ac h):fk s (ac i) (ac h)
theorem fk.up(h:fk s a d)(l:s.le i):fk i a d:=by
 induction h using fk.casesOn with
 |S=>exact .S|at_ r=>exact .at_ (l.ix r)
def rZ(e:cj)(T:List bB)(g:kE)(C:bc):Prop:=∀(s:aF e T) (h:W) (i:List W) (a d:Option Nat) (j:V) (k:List V),s.z h j->s.a4 i k->fk s a d->bu s aF.z (g h i a s.p) (C j k d s.h)
theorem aC5{n:List Nat}{l:ah}{i j:Nat}(x:s.φ[i]?=ac j)(h:OV P n s.p s.p[i]?=ac l):wO P (.obj j) n s.h s.h[j]?=ac (l,[.obj j]):=by
 cases q:s.p[i]? with
 |none=>rw[q]at h;exact nomatch h
 |some o=>
  rw[q]at h;refine ak (s.obj x q) λy A t=>A▸?_
  induction o using OS.casesOn with
  |list p M=>exact ak t λB z Q=>by rw[z];exact(aw1 _ n).trans (congrArg (eJ _) h)
  |dict u m=>exact ak t λB z Q=>by rw[z];exact(aw0 _ n).trans (congrArg (eJ _) h)
  |inst D N=>
   exact aC h λk E h=>aC h λu F h=>ak t λG I z=>ak (Bt F I) λJ L r=>by
    unfold Nv at h;rw[z];show(P.cls D).bind (λk=>Bd (.obj j) n k s.h[G]?)=_;rw[E,L];show(if(dJ J n).isSome then ae else(k.meths.lookup n).bind λl=>if k.isExc then ae else ac (l,[V.obj j]))=_;unfold dJ;rw[(r.look n).isSome]
    cases v:(u.lookup n).isSome with
    |true=>rw[v]at h;exact nomatch h
    |false=>rw[v]at h;cases w:k.isExc with
     |true=>rw[w]at h;exact nomatch h
     |false=>rw[w]at h;rw[show k.meths.lookup n=ac l from h];rfl
  |_=>exact nomatch h
theorem YE(h:H)(i:Ec P n x=ac q):fV P x n h=ac (q,[]):=by
 induction x using V.casesOn with
 |m k=>induction k using Value.casesOn with
  |ref r=>
   exact aC i λl u i=>cb i λj m=>dr j λo p=>by
    show(P.cls r).bind (λl=>if n=nm "__init__"&&!l.isExc then ac (l.init,[])else ae)=_;rw[u,OI,<-m];exact if_pos j
  |type t=>
   exact cb i λj m=>dr j λo p=>by
    show(if t="Exception"then if n=nm "__init__"then ac (bj5 "Exception.__init__",[])else ae else ae)=_;rw[if_pos (of_decide_eq_true o),OI,if_pos (of_decide_eq_true p),m]
  |_=>exact nomatch i
 |_=>exact nomatch i
theorem ay0{w:W}{v:V}{n:List Nat}{p:ah×List W}(r:s.z w v)(h:Bl P w n s.p=ac p):∃j,fV P v n s.h=ac (p.1,j)/\s.a4 p.2 j:=by
 have q:s.a4 [w] [v]:=bw v [] rfl r rfl;have o:∀t,v=.str t->(BN n).map (λm=>(m,[w]))=ac p->∃j,fV P v n s.h=ac (p.1,j)/\s.a4 p.2 j:=λt z h=>bG h λm k l=>by
  subst z;subst l;exact al _ ((aw5 _ n).trans (congrArg (eJ _) k)) q
 induction w using W.casesOn with
 |N x=>
  rw[show v=x from r]at o⊢;have u:(Ec P n x).map (λm=>(m,[]))=ac p->∃j,fV P x n s.h=ac (p.1,j)/\s.a4 p.2 j:=λh=>bG h λm k l=>by
   subst l;exact al [] (YE s.h k) rfl
  induction x using V.casesOn with
  |str t=>exact(show v=.str t from r)▸o t rfl h
  |_=>exact u h
 |obj i=>
  exact bG h λm k l=>ak r λB A z=>by
   subst z;subst l;exact al _ (aC5 A k) q
 |a2 y=>exact aC h λE k h=>cb k λl E=>o _ (by rw[xB l]at r;exact r) h
 |tup D=>exact nomatch h
theorem ba9{l:List Nat}{h:List (List Nat)}{i:List W}{j:List V}(r:ci e T l i j):eu e T l (h.zip i) (h.zip j):=by
 induction i generalizing h j with
 |nil=>cases r;rw[bg1,bg1];exact⟨rfl,rfl⟩
 |cons w i m=>
  cases h with
  |nil=>exact⟨rfl,rfl⟩|cons k h=>exact bE r λv t z n o=>z▸.cons (f:=(k,w)) n (m o)
theorem YH(k:s.φ[i]?=ac j)(r:s.a4 o m):gA s (LD h i o s.p) (iw h j m s.h):=λp n=>aC n λq u n=>cb n λv w=>dr v λx y=>dr x λA B=>dr A λD E=>ak (sV u k) λF t G=>by
 have z:F=[]:=by
  have l:=G.len;rw[List.isEmpty_iff.mp D]at l;exact Sd l
 have I:iw h j m s.h=.ok (.obj j) (s.h.set j (.dict (h.zip m) (ac h.length))):=by
  unfold iw sX;rw[t,r.len,if_pos (Bool.and_eq_true_iff.mpr ⟨B,y⟩),z,beq_iff_eq.mp E];rfl
 rw[I,<-w];exact .mk (s.f5 k (lk k t) (w:=.dict (h.zip o) (ac h.length)) (al _ rfl (ba9 r))) (al j k rfl)
noncomputable def Ld(k:av->H->R V)(x:Nat)(c:av)(i:Nat)(h:H)(l:H->R V):Option V->R V
 |some v=>(k (c.set x (ac v)) h).bind λw h=>hX (λj=>if j.length<big then l (h.set i (.list (j++[w])))else .i) h[i]?
 |none=>.ok (.obj i) h
theorem DX{j:av->H->R V}:dY j x c i l (n+1) k h=hX (λm=>Ld j x c l h (dY j x c i l n (k+1)) m[k]?) h[i]?:=by kernel_rfl
theorem XY{j:LS->HS->RS W}:qB j l b i m (n+1) k h=(match OS.y h[i]? with
  |some o=>Ab j l b m k h (qB j l b i m n (k+1)) o|none=>.i):=rfl
theorem Yu{t:LS->HS->RS W}{u:av->H->R V}(N:∀h b o,s.le h->cC h b o->bu h aF.z (t b h.p) (u o h.h))(n:Nat):
  ∀(k:Nat) (h:aF e T),s.le h->cC h b o->h.φ[i]?=ac z->h.φ[v]?=ac p->bu h aF.z (qB t m b i v n k h.p) (dY u m o z p n k h.h):=by
 induction n with
 |zero=>exact λZ Z Z Z Z Z=>.i _|succ n Q=>
  intro k h l L F a;rw[XY,DX]
  cases q:OS.y h.p[i]? with
  |none=>exact .i _|some G=>
   refine ak (iE q F) λS U r=>?_;rw[U];show bu h aF.z (Ab t m b v k h.p (qB t m b i v n (k+1)) G) (Ld u m o p h.h (dY u m o z p n (k+1)) S[k]?);unfold Ab
   cases I:G[k]? with
   |none=>
    rw[Cr (r.len▸List.getElem?_eq_none_iff.mp I)];exact .here (al p a rfl)
   |some z0=>
    refine ak (r.get I) λz1 Y h3=>?_;rw[Y];refine(N h _ _ l (L.set h3 m)).bind λw A x j J=>?_
    cases q3:PD v A w.p with
    |none=>exact .i _|some h'=>
     exact aC q3 λM h4 e4=>cb e4 λh5 h6=>ak (iE h4 (j.ix a)) λy B D=>by
      subst h6;rw[B];show bu w aF.z (qB t m b i v n (k+1) _) (if y.length<big then dY u m o z p n (k+1) (w.h.set p (.list (y++[x])))else .i);rw[if_pos (D.len▸mJ (of_decide_eq_true h5) (by decide))];have E:=w.f5 (j.ix a) (lk (j.ix a) B) (w:=.list ae (M++[A])) (y:=.list (y++[x])) (al _ rfl (D.app (bw x [] rfl J rfl)));exact .e9 E (Q (k+1) (w.put (j.ix a) (lk (j.ix a) B) (r:=.list ae (M++[A])) (y:=.list (y++[x])) (al _ rfl (D.app (bw x [] rfl J rfl)))) (l.trans (j.trans E)) (L.up (j.trans E)) (j.ix F) (j.ix a))
theorem aB6(l:s.le h)(p:bu h aF.z x y):bu s aF.z (OO x) (pg y):=by
 induction p using bu.casesOn with
 |i=>exact .i _|ok i q=>exact .ok (l.trans i) q|exc=>exact .i _
theorem YC{p:LS->HS->RS W}{j:av->H->R V}(u:∀k b h,s.le k->cC k b h->bu k aF.z (p b k.p) (j h k.h))(L:cC s b h)(r:s.z w v):bu s aF.z (Eb p m b w s.p) (oP j m h v s.h):=by
 unfold Eb
 cases q:w.ix with
 |none=>exact .i _|some i=>
  dsimp only
  cases x:OS.y s.p[i]? with
  |none=>exact .i _|some y=>
   exact ak (hW q r) λn t z=>ak (iE x t) λo A B=>by
    rw[z];have D:oP j m h (.obj n) s.h=pg (dY j m h n s.h.length (o.length+1) 0 (s.h++[.list []])):=by
     show(match s.h[n]? with|some (O.list o)=>pg (dY j m h n s.h.length (o.length+1) 0 (s.h++[O.list []]))|_=>R.i)=_;rw[A]
    have l:=s.g6 (v:=.list ae []) (y:=.list []) (al [] rfl rfl);rw[D,B.len];dsimp only;exact aB6 l (Yu (m:=m) u (y.length+1) 0 _ l (L.up l) (l.ix t) (s.g7 _))
variable{b:LS}{c:av}
def yp(s:aF e T)(j:Ex->HS->RS W)(k:Ex->H->R V):Prop:=∀i h,s.le h->bu h aF.z (j i h.p) (k i h.h)
theorem wb{j:Ex->HS->RS W}(k:yp s j (ev P f C a c))(i:List Ex):∀h,s.le h->bu h aF.a4 (qH j i h.p) (fD P f C a c i h.h):=by
 induction i with
 |nil=>exact λh A=>.here (f:=[]) (p:=[]) rfl|cons m r n=>exact λh l=>(k m h l).bind λo w v p q=>(n o (l.trans p)).bind λy z t u x=>.here (bw v t rfl (u.v q) x)
theorem Mg{j:Ex->HS->RS W}(k:yp s j (ev P f C a c))(h:Option Ex)(i:aF e T)(l:s.le i):bu i iV (Es j h i.p) (Ap P f C a c h i.h):=by
 cases h with
 |none=>exact .here (f:=ae) (p:=ae) .S|some h=>exact(k h i l).bind λn w v o m=>.here (.at_ m)
theorem Z'{m:Ex->HS->RS W}(p:yp s m (ev P f C a c))(j:mG)(k:List Ex):∀h,s.le h->bu h aF.z (Er m j k h.p) (qG P f C a c j k h.h):=by
 induction k with
 |nil=>exact λh A=>.i _|cons u r x=>
  intro h l;refine(p u h l).bind λn w v y i=>?_
  cases r with
  |nil=>exact .here i|cons z r=>
   dsimp only
   cases q:rJ n.p w with
   |none=>exact .i _|some t=>
    rw[xz i q];have o:=x n (l.trans y)
    induction j using BoolOp.casesOn<;>induction t using Bool.casesOn
    ·exact .here i
    ·exact o
    ·exact o
    ·exact .here i
theorem Md(j:c[i]?=ac (ac v)):ev P f C a c (.loc i) h=.ok v h:=by
 show(match c[i]? with|some (ac v)=>R.ok v h|_=>.i)=_;rw[j]
theorem Oi(L:cC s b c)(i:Nat):bu s aF.z (Al b i s.p) (ev P f C a c (.loc i) s.h):=by
 unfold Al
 cases q:b[i]? with
 |none=>exact .i _|some o=>cases o with
  |none=>exact .i _|some w=>exact ak (L.at_ i w q) λv h j=>by rw[Md h];exact .here j
theorem Ln(h:s.z i u)(j:s.z k v):bu s aF.z (Bu (sR T l i k s.p) s.p) (iv l u v s.h):=.g8 λw m=>bG m λt n o=>by
 unfold iv;rw[Lo h j n,<-o];exact .mk rfl
theorem bu.as{h j:Type}{Q:aF e T->h->j->Prop}{k:RS h}{r l:R j}(m:r=l)(x:bu s Q k l):bu s Q k r:=m▸x
theorem Pv(h:∀t,o=ac t->i=ac t)(j:bu s aF.z k l)(m:bu s aF.z n p):bu s aF.z (Gr o k n) (match(generalizing:=false) i with|some af=>l|some ag=>p|none=>.i):=by
 cases o with
 |none=>exact .i _|some t=>
  rw[h t rfl]
  cases t with
  |true=>exact j|false=>exact m
theorem Yp:((iv k u v h).bind λi h=>match i with|.j af=>(ev P f C a c r h).bind λj h=>iv l v j h|i=>.ok i h)=match aQ k u v h with|some af=>(ev P f C a c r h).bind λj h=>iv l v j h|some ag=>.ok (.j ag) h|none=>.i:=by
 unfold iv
 cases aQ k u v h with
 |none=>rfl|some t=>induction t using Bool.casesOn<;>rfl
theorem aX4:0<rh t i:=by
 unfold rh HW;split
 ·exact bh9
 ·split
  ·exact bh9
  ·rw[bn6];exact eH (bn7 ..) λp q h=>h▸bh8 _
theorem a15(i:Hb w=af)(r:s.z w v):∃t,v=.str t:=by
 induction w using W.casesOn with
 |N x=>exact(show v=x from r)▸am (Option.isSome_iff_exists.mp i) λt h=>⟨t,ly h⟩
 |a2 y=>induction y using cy.casesOn with
  |h6=>exact r|_=>exact nomatch i
 |_=>exact nomatch i
theorem Me(hC:rZ e T g C)(n:Nat):∀(j:Ex) (s:aF e T) (b:LS) (c:av) (a d:Option Nat),cC s b c->fk s a d->bu s aF.z (fp T P g a n b j s.p) (ev P f C d c j s.h):=by
 induction n with
 |zero=>exact λZ Z Z Z Z Z Z Z=>.i _|succ n ih=>
  intro j s b c a d z1 D;have q:yp s (fp T P g a n b) (ev P f C d c):=λj s' l=>ih j s' b c a d (z1.up l) (D.up l);have y:=λj=>q j s s.rfl
  induction j using Ex.casesOn with
  |none=>exact .here (f:=W.none) (p:=V.none) rfl|j J=>exact .here (f:=W.j J) (p:=V.j J) rfl|a i=>exact .here (f:=W.a i) (p:=V.a i) rfl|str t=>exact .here (f:=W.str t) (p:=V.str t) rfl|a1 v=>exact .here (f:=W.m v) (p:=V.m v) rfl|loc i=>exact Oi z1 i|attr j m=>exact(y j).bind λh w v l r=>.k8 λu hu=>Ji r hu|b0 z4 S=>exact(y z4).bind λh w v l r=>(wb q S h l).bind λA F B k o=>hC A w F a d v B (k.v r) o (D.up (l.trans k))|c3 z5 m S=>
   refine(y z5).bind λh w v l r=>?_;show bu h aF.z (LU g a (fp T P g a n b) (Bl P w m h.p) S h.p) _
   cases z2:Bl P w m h.p with
   |none=>exact .i _|some p=>
    refine ak (ay0 r z2) λfs G M=>?_;rw[G];exact(wb q S h l).bind λA F B k o=>hC A (W.m p.1) (p.2++F) a d (V.m p.1) (fs++B) rfl ((k.vs M).app o) (D.up (l.trans k))
  |d2 U l r=>exact(y l).bind λh w v L N=>(q r h L).bind λA u z k o=>.g8 λx E=>(DL (k.v N) o E).1|f0 j=>exact(y j).bind λh w v l r=>.g8 λx E=>bG E λi G Q=>by rw[kR (fg G r),<-Q];exact .mk (v:=V.a (-i)) rfl
  |f1 j=>exact(y j).bind λh w v l r=>.g8 λx E=>bG E λJ G Q=>bG G λt h3 h4=>by rw[xz r h3,<-Q,<-h4];exact .mk rfl
  |Q l U r=>exact(y l).bind λh w v L N=>(q r h L).bind λA u z k o=>Ln (k.v N) o|f6 l U m z9 r=>
   refine(y l).bind λh w v L N=>(q m h L).bind λA u z k o=>?_;exact .as Yp<|Pv (λt=>Lo (k.v N) o) ((q r A (L.trans k)).bind λs4 za zb Y M=>Ln (Y.v o) M) (.here rfl)
  |d6 U I=>exact Z' q U I s s.rfl|E z3 z0 J=>exact(y z3).bind λh w v l r=>Pv (λt=>xz r) (q z0 h l) (q J h l)|tup I=>exact(wb q I s s.rfl).bind λh F B l r=>.here (al B rfl r)|y I=>exact(wb q I s s.rfl).bind λh F B l r=>.ok (h.g6 (v:=.list ae F) (y:=.list B) (al B rfl (r.mono (ij ..)))) (al _ (h.g7 _) rfl)|b8 ks I=>
   have l:=s.g6 (v:=.dict [] (ac 0)) (y:=.dict [] (ac 0)) (br [] rfl rfl rfl);exact .e9 l ((wb q I _ l).bind λA F B k o=>.k7 (YH (k.ix (s.g7 _)) o))
  |t j i=>exact(y j).bind λh w v l r=>(q i h l).bind λA u z k o=>.k8 λx E=>ao0 (k.v r) o E|a7 j lo hi=>exact(y j).bind λh w v l r=>(Mg q lo h l).bind λA z0 a' k o=>(Mg q hi A (l.trans k)).bind λs4 J b' Y M=>.k7 λp hp=>aW0 (Y.v (k.v r)) (o.up Y) M hp|h0 j lo st=>exact .i _|g0 z6 x0 z7=>
   induction D using fk.casesOn with
   |S=>exact(y z7).bind λh w v l r=>YC (λs' z8 e' l' L'=>ih z6 s' z8 e' ae ae L' .S) (z1.up l) r|at_ r=>exact .i _
  |h1 j z0=>
   refine(y j).bind λh w v l r=>?_
   cases z2:Hb w with
   |false=>exact .i _|true=>
    exact am (a15 z2 r) λt z=>by
     rw[z];exact(q z0 h l).bind λA u z k o=>.g8 λx E=>bG E λz3 G Q=>by
      rw[Lc (fg G o),<-Q];exact .mk (v:=V.a (rh t z3)) (al _ rfl (Int.ofNat_lt.mpr aX4))
end
end
section
section
variable{h:cj}{T:List bB}{s b:aF h T}{P:aZ}{f:aj->Option (List Int)}{k:kE}{C:bc}{d e:Option Nat}{c:LS}{a:av}
theorem bC.e9(l:s.le b)(x:bC b r m):bC s r m:=by
 induction x using bC.casesOn with
 |i=>exact .i _|mk n L F=>exact .mk (l.trans n) L F
theorem bC.here(L:cC s c a)(F:iU s l m):bC s (ac (l,c,s.p)) (ac (m,a,s.h)):=.mk s.rfl L F
theorem bC.bind{m n:Type}{Q:aF h T->m->n->Prop}{x:RS m}{r:R n}{o:m->HS->XS}{p:n->H->Mine.Internal.X}(L:cC s c a)(v:bu s Q x r)
  (w:∀b t u,s.le b->cC b c a->Q b t u->bC b (o t b.p) (p u b.h)):bC s (fJ x c o) (aO r a p):=by
 induction v using bu.casesOn with
 |i=>exact .i _|ok l q=>exact .e9 l (w _ _ _ l (L.up l) q)|exc l q=>exact .mk l (L.up l) (.exc q)
theorem bC.heap(L:cC s c a)(m:ow s n o):bC s (ac (.next,c,n)) (o.map λp=>(.next,a,p)):=by
 induction m using ow.casesOn with
 |mk l=>exact .mk l (L.up l) .next
theorem bC.q3(L:cC s c a)(m:s.φ[n]?=ac p)(q:ow s r o):bC s (ac (.exc n,c,r)) (o.map λt=>(.exc p,a,t)):=by
 induction q using ow.casesOn with
 |mk l=>exact .mk l (L.up l) (.exc (l.ix m))
theorem bC.pick(l:∀t,o=ac t->m=ac t)(n:bC s p q)(r:bC s u v):bC s (ry o p u) (match(generalizing:=false) m with|some af=>q|some ag=>v|none=>ae):=by
 cases o with
 |none=>exact .i _|some t=>
  rw[l t rfl]
  cases t with
  |true=>exact n|false=>exact r
theorem bC.as(l:r=m)(x:bC s n m):bC s n r:=l▸x
noncomputable def uy(r:Mine.Internal.X)(m:av->H->Mine.Internal.X):Mine.Internal.X:=match r with
 |some (.next,a,l)=>m a l|some (.a5,a,l)=>m a l|some (.a3,a,l)=>ac (.next,a,l)|r=>r
theorem bC.turn{m:LS->HS->XS}{n:av->H->Mine.Internal.X}(q:bC s r p)(o:∀b c a,s.le b->cC b c a->bC b (m c b.p) (n a b.h)):bC s (BX r m) (uy p n):=by
 induction q using bC.casesOn with
 |i=>exact .i _|mk l L F=>induction F using iU.casesOn with
  |next=>exact .e9 l (o _ _ _ l L)|a5=>exact .e9 l (o _ _ _ l L)|a3=>exact .mk l L .next|B r=>exact .mk l L (.B r)|exc r=>exact .mk l L (.exc r)
theorem a96{o:LS->HS->RS W}{t:av->H->R V}{p:LS->HS->XS}{q:av->H->Mine.Internal.X}
  (y:∀b c a,s.le b->cC b c a->bu b aF.z (o c b.p) (t a b.h)) (z:∀b c a,s.le b->cC b c a->bC b (p c b.p) (q a b.h)) (m:Nat):
  ∀(n:Nat) (b:aF h T) (c:LS) (a:av),m<=n->s.le b->cC b c a->bC b (Ho o p m c b.p) (py t q n a b.h):=by
 induction m with
 |zero=>exact λM M M M M M M=>.i _|succ m A=>
  intro n b c a r l L
  cases n with
  |zero=>exact absurd r (bh1 m)|succ n=>
   refine bC.bind L (y b c a l L) λB w v u x D=>.pick (λt=>xz D) ?_ (.here x .next);exact(z B c a (l.trans u) x).turn λE F G I J=>A n E F G (bg8 r) (l.trans (u.trans I)) J
theorem ag9{m:H->Bool}{n:V->av->H->Mine.Internal.X}:gP m n [] a l=match m l with|true=>ac (.next,a,l)|false=>ae:=by
 show(if m l=af then ac (Fl.next,a,l)else ae)=_
 induction m l using Bool.casesOn<;>rfl
theorem MJ{l:H->Bool}{m:V->av->H->Mine.Internal.X}:gP l m (v::o) a n=match l n with|true=>uy (m v a n) (gP l m o)|false=>ae:=by
 show(if l n=af then uy (m v a n) (gP l m o)else ae)=_
 induction l n using Bool.casesOn<;>rfl
theorem ah2:oX m n [] c l=ry (ac (m l)) (ac (.next,c,l)) ae:=rfl
theorem ah1:oX l m (v::r) c n=ry (ac (l n)) (BX (m v c n) (oX l m r)) ae:=rfl
theorem MP{n:HS->Bool}{p:H->Bool}{u:W->LS->HS->XS}{x:V->av->H->Mine.Internal.X}(y:∀b,s.le b->n b.p=af->p b.h=af)
  (B:∀b c a w v,s.le b->cC b c a->b.z w v->bC b (u w c b.p) (x v a b.h)) (o:List W):
  ∀(m:List V) (b:aF h T) (c:LS) (a:av),s.le b->cC b c a->b.a4 o m->bC b (oX n u o c b.p) (gP p x m a b.h):=by
 induction o with
 |nil=>
  intro m b c a l L r;rw[show m=[]from r,ag9,ah2]
  cases q:n b.p with
  |false=>exact .i _|true=>rw[y b l q];exact .here L .next
 |cons w o D=>
  intro m b c a l L r;refine kp r λv t z E F=>?_;rw[z,MJ,ah1]
  cases q:n b.p with
  |false=>exact .i _|true=>rw[y b l q];exact(B b c a w v l L E).turn λG I J A M=>D t G I J (l.trans A) M (A.vs F)
theorem MT{m o:Nat}(r:s.φ[m]?=ac o)(l:OS.free s.p[m]?=af):∃C n,s.h[o]?=ac (.exc C n ag):=by
 unfold OS.free at l
 cases q:OS.d9 s.p[m]? with
 |none=>rw[q]at l;exact nomatch l
 |some p=>
  rw[q]at l;exact ak (te q r) λn t u=>fq p.1 n (FY l▸t)
theorem aj5(D:fk s d e)(l:AD d s.p=af):dQ e s.h=af:=by
 induction D using fk.casesOn with
 |S=>rfl|at_ r=>
  exact eH (MT r l) λC n m=>by
   show(match s.h[_]? with|some (O.exc _ _ ag)=>af|_=>ag)=af;rw[m]
set_option tactic.hygienic true in
theorem aN5{m n:Nat}{t:HS}(D:fk s d e)(o:s.φ[m]?=ac n)(l:PN d m s.p=ac t):ow s t (ki e n s.h):=by
 induction D using fk.casesOn with
 |S=>rw[<-ax l];exact .mk s.rfl
 |at_ r=>
  rename_i u v;show ow s t (if n=v then ac s.h else match s.h[v]?,s.h[n]? with|some (O.exc _ _ ag),ac (O.exc p w _)=>ac (s.h.set n (O.exc p w af))|_,_=>ae);have l:(match bf (m=u)with|true=>ac s.p|false=>(bO (OS.free s.p[u]?) ()).bind λJ=>(OS.d9 s.p[m]?).map λp=>s.p.set m (.exc p.1 p.2.1 af))=ac t:=l;by_cases q:m=u
  ·rw[decide_eq_true q]at l;rw[if_pos (ax (o.symm.trans (q▸r))),<-ax l];exact .mk s.rfl
  ·rw[decide_eq_false q]at l;exact aC l λJ y l=>cb y λA J=>bG l λp B E=>eH (MT r A) λC w F=>ak (te B o) λI x G=>by
    rw[if_neg λz:n=v=>q (tO s.ok.nd o (z▸r)),F,x,<-E];exact .mk (s.f5 o (lk o x) (G af))
theorem aT7(o:List Nat):∀{l:List W} {m:List V} {c p:LS} {a:av},s.a4 l m->cC s c a->ui o l c=ac p->∃q,fY o m a=ac q/\cC s p q:=by
 induction o with
 |nil=>
  intro l m c p a r L n
  cases l with
  |nil=>rw[show m=[]from r,<-ax n];exact al a rfl L
  |cons w l=>exact nomatch n
 |cons u o x=>
  intro l m c p a r L n
  cases l with
  |nil=>exact nomatch n|cons w l=>exact kp r λv t z y A=>z▸x A (L.set y u) n
noncomputable def MQ(x:Option Nat)(r:Mine.Internal.X):Mine.Internal.X:=match x with
 |none=>r|some _=>r.map λp=>(p.1,p.2.1.map λl=>ae,p.2.2)
noncomputable def Jd(x:Option Nat)(l:Nat)(a:av):av:=match x with
 |none=>a|some x=>a.set x (ac (.obj l))
theorem QN{o:ah}{x t:Option Nat}{C:aj}{u:Bool}{m:Nat}{n:H}{p:av->H->Option Nat->Mine.Internal.X}(v:n[m]?=ac (.exc C t u))(q:oO P o C=af):lz P o x (ac (.exc m,a,n)) p=MQ x (p (Jd x m a) n (ac m)):=by
 induction o using Value.casesOn with
 |ref o=>
  show(match n[m]?,lE o with|some (O.exc C _ _),lE o=>if C=o&&(P.cls C).any (λl:Cl=>l.isExc)then(match x with|none=>p a n (ac m)|some x=>match p (a.set x (ac (.obj m))) n (ac m)with|some (r,a,n)=>ac (r,a.map λw=>ae,n)|none=>ae)else ae|_,_=>ae)=_;rw[v];dsimp only;rw[if_pos (show(bf (C=o)&&(P.cls C).any (·.isExc))=af from q)]
  cases x with
  |none=>rfl|some x=>
   show(match p (a.set x (ac (.obj m))) n (ac m)with|some (r,a,n)=>ac (r,a.map λw=>ae,n)|none=>ae)=(p (a.set x (ac (.obj m))) n (ac m)).map _
   induction p (a.set x (ac (.obj m))) n (ac m)using Option.casesOn<;>rfl
 |_=>exact nomatch q
theorem bC.k6(q:bC s r l):bC s (EG x r) (MQ x l):=by
 cases x with
 |none=>exact q|some x=>induction q using bC.casesOn with
  |i=>exact .i _|mk m L F=>exact .mk m L.k6 F
set_option tactic.hygienic true in
theorem a70{t:LS->HS->Option Nat->XS}{v:av->H->Option Nat->Mine.Internal.X}(y:bC s r z)
  (A:∀b c a d e,s.le b->cC b c a->fk b d e->bC b (t c b.p d) (v a b.h e)):bC s (QO P m x r t) (lz P m x z v):=by
 cases y with
 |i=>exact .i _|mk l L F=>cases F with
  |next=>exact .mk l L .next|a3=>exact .mk l L .a3|a5=>exact .mk l L .a5|B r=>exact .mk l L (.B r)|exc r=>
   rename_i o B E n w;show bC s (((OS.d9 o.p[n]?).bind λC=>bO (oO P m C.1) ()).bind λI=>EG x (t (Je x n B) o.p (ac n))) _
   cases q:OS.d9 o.p[n]? with
   |none=>exact .i _|some p=>
    cases u:oO P m p.1 with
    |false=>show bC s ((bO (oO P m p.1) ()).bind _) _;rw[u];exact .i _
    |true=>
     show bC s ((bO (oO P m p.1) ()).bind _) _;rw[u];exact ak (te q r) λG D I=>.as (QN D u)<|.e9 l<|.k6<|A o _ _ _ _ l (by
      cases x with
      |none=>exact L|some x=>exact L.set (w:=.obj n) (v:=.obj w) (al w r rfl) x) (.at_ r)
noncomputable def Gh(l:Fl)(r:Mine.Internal.X):Mine.Internal.X:=match r with
 |some (.next,a,m)=>ac (l,a,m)|_=>ae
theorem bC.once(F:iU s m n)(q:bC s r o):bC s (O' m r) (Gh n o):=by
 induction q using bC.casesOn with
 |i=>exact .i _|mk l L G=>induction G using iU.casesOn with
  |next=>
   exact .mk l L (by
    induction F using iU.casesOn with
    |next=>exact .next|a3=>exact .a3|a5=>exact .a5|B r=>exact .B (l.v r)|exc r=>exact .exc (l.ix r))
  |_=>exact .i _
theorem a67{n:LS->HS->Option Nat->XS}{o:av->H->Option Nat->Mine.Internal.X}(D:fk s d e)(p:bC s r q)
  (m:∀b c a d e,s.le b->cC b c a->fk b d e->bC b (n c b.p d) (o a b.h e)):bC s (QM d r n) (uv e q o):=by
 induction p using bC.casesOn with
 |i=>exact .i _|mk l L F=>
  refine .e9 l ?_
  induction F using iU.casesOn with
  |next=>exact(m _ _ _ _ _ l L (D.up l)).once .next|a3=>exact(m _ _ _ _ _ l L (D.up l)).once .a3|a5=>exact(m _ _ _ _ _ l L (D.up l)).once .a5|B r=>exact(m _ _ _ _ _ l L (D.up l)).once (.B r)|exc r=>exact(m _ _ _ _ _ l L (.at_ r)).once (.exc r)
def vJ(h:cj)(T:List bB){l:Type}(n:l->LS->HS->Option Nat->XS)(o:l->av->H->Option Nat->Mine.Internal.X):Prop:=
 ∀(m:l) (s:aF h T) (c:LS) (a:av) (d e:Option Nat),cC s c a->fk s d e->bC s (n m c s.p d) (o m a s.h e)
theorem Jy{m:St->LS->HS->Option Nat->XS}(t:vJ h T m (bX P f C g)):vJ h T (vT m) (aJ P f C g):=by
 intro u
 induction u with
 |nil=>exact λs c a d e L D=>.here L .next|cons n r v=>
  intro s c a d e L D;have q:=t n s c a d e L D;show bC s (match m n c s.p d with|some (.next,a,p)=>vT m r a p d|x=>x) (match bX P f C g n a s.h e with|some (.next,a,p)=>aJ P f C g r a p e|x=>x);generalize m n c s.p d=x at q;generalize bX P f C g n a s.h e=y at q
  induction q using bC.casesOn with
  |i=>exact .i _|mk l o F=>induction F using iU.casesOn with
   |next=>exact .e9 l (v _ _ _ _ _ o (D.up l))|a3=>exact .mk l o .a3|a5=>exact .mk l o .a5|B r=>exact .mk l o (.B r)|exc r=>exact .mk l o (.exc r)
theorem Hm(m:uw w=ac n)(r:s.z w v):∃l,v=.tup l/\s.a4 n l:=by
 induction w using W.casesOn with
 |tup o=>exact ax m▸r|N x=>induction x using V.casesOn with
  |tup l=>exact al l r (ax m▸QZ l)|_=>exact nomatch m
 |_=>exact nomatch m
theorem aq5(n:m.map (·.1)=l.map (·.1)):ci h T o (Fv l) (keysOf m):=by
 rw[(by rw[<-n,uR];rfl:keysOf m=(l.map (·.1)).map .str),(by rw[uR,uR];rfl:Fv l=((l.map (·.1)).map V.str).map .N)];exact au5 _
theorem a07(v:s.φ[r]?=ac t)(l:GZ r m o s.p=af):mW t m o s.h=af:=by
 unfold GZ at l
 cases q:OS.b8 s.p[r]? with
 |none=>rw[q]at l;exact nomatch l
 |some p=>
  rw[q]at l;refine ak (sV q v) λz w x=>?_;show(match s.h[t]? with|some (O.dict y (ac n))=>n==m&&y.map (·.1)==o&&o.all fc|_=>ag)=af;rw[w]
  cases u:p.2 with
  |none=>dsimp only at l;rw[u]at l;exact nomatch l
  |some n=>dsimp only at l⊢;rw[u]at l;rw[x.1];exact l
theorem aU1{q:H}{p m:Nat}{o:List (List Nat×V)}{n:Option Nat}{r:List Nat}{v:V}(t:q[p]?=ac (.dict o n))(l:o.length<cN):
  (match V.obj p,V.str r with|.obj p,.str r=>(match q[p]? with|some (O.dict o m)=>if o.length<cN then ac (Fl.next,a,q.set p (.dict (cL o r v) ae))else ae|_=>ae)|_,_=>ae)=ac (Fl.next,a,q.set p (.dict (cL o r v) ae)):=by
 show(match q[p]? with|some (O.dict o m)=>if o.length<cN then ac (Fl.next,a,q.set p (.dict (cL o r v) ae))else ae|_=>ae)=_;rw[t];exact if_pos l
theorem aU2{o n w:W}{u x v:V}{y:HS}(L:cC s c a)(F:s.z o u)(G:s.z n x)(I:s.z w v)(l:GU o n w s.p=ac y):
  bC s (ac (.next,c,y)) (match(generalizing:=false) u,x with|.obj q,.str n=>(match s.h[q]? with|some (O.dict A m)=>if A.length<cN then ac (Fl.next,a,s.h.set q (.dict (cL A n v) ae))else ae|_=>ae)|_,_=>ae):=
 aC l λY J l=>aC l λt M l=>aC l λp N l=>cb l λQ S=>ak (hW J F) λq r z=>ak (sV N r) λU B D=>by
  rw[z,ly (fg M G),<-S];have E:=s.f5 r (lk r B) (w:=.dict (rC p.1 t w) ae) (y:=.dict (cL U t v) ae) (al _ rfl (D.put t I));refine .as (aU1 (m:=0) B (D.len▸of_decide_eq_true Q)) (.mk E (L.up E) .next)
theorem aN3(L:cC s c a)(D:fk s d e)(r:s.z w v)(l:GC P d w s.p=ac p):
  bC s (ac (.exc p.1,c,p.2)) (match(generalizing:=false) v with|.obj o=>(match s.h[o]? with|some (O.exc C _ _)=>if(P.cls C).any (·.isExc)then(ki e o s.h).map λm=>(Fl.exc o,a,m)else ae|_=>ae)|_=>ae):=
 aC l λo t l=>aC l λF u l=>aC l λJ x l=>cb x λy J=>bG l λG A B=>ak (hW t r) λn q z=>ak (te u q) λI E J=>by
  rw[z,<-B];refine .as (show(match s.h[n]? with|some (O.exc C _ _)=>if(P.cls C).any (·.isExc)then(ki e n s.h).map λm=>(Fl.exc n,a,m)else ae|_=>ae)=(ki e n s.h).map λm=>(Fl.exc n,a,m) by rw[E];exact if_pos y) ?_;exact .q3 L q (aN5 D q A)
noncomputable def Gn(n:V->av->H->Mine.Internal.X)(a:av)(l:H)(v:V):Mine.Internal.X:=match v with
 |.tup q=>gP (λr=>af) n q a l|.obj o=>match l[o]? with
  |some (.dict p (ac m))=>gP (mW o m (p.map (·.1))) n (keysOf p) a l|_=>ae
 |_=>ae
theorem aF1{q:List W×(HS->Bool)}{u:W->LS->HS->XS}{n:V->av->H->Mine.Internal.X}(L:cC s c a)(r:s.z w v)(o:Go w s.p=ac q)
  (B:∀b c a w v,s.le b->cC b c a->b.z w v->bC b (u w c b.p) (n v a b.h)):bC s (oX q.2 u q.1 c s.p) (Gn n a s.h v):=by
 have J:(uw w).map (λx=>(x,λU:HS=>af))=ac q->bC s (oX q.2 u q.1 c s.p) (Gn n a s.h v):=λo=>bG o λx y A=>ak (Hm y r) λM z N=>by
  rw[z,<-A];exact MP (s:=s) (p:=λU=>af) (λU U U=>rfl) B x M s c a s.rfl L N
 induction w using W.casesOn with
 |obj S=>
  exact aC o λp y o=>bG o λm A Q=>ak r λt D z=>ak (sV y D) λE F G=>by
   rw[A]at F;rw[z,<-Q];refine .as (show Gn n a s.h (.obj t)=gP (mW t m (E.map (·.1))) n (keysOf E) a s.h from(show(match s.h[t]? with|some (O.dict I (ac m))=>gP (mW t m (I.map λp:List Nat×V=>p.1)) n (keysOf I) a s.h|_=>ae)=_ by rw[F])) ?_;exact MP (s:=s) (λb l q=>G.1▸a07 (l.ix D) q) B _ _ s c a s.rfl L (aq5 G.1)
 |_=>exact J o
theorem am6(r:Nw p t=af)(q:s.z p u)(w:s.z t v):∃l m,u=.a l/\v=.a m:=dr r λz n=>am (Option.isSome_iff_exists.mp z) λm A=>by
 refine am (show∃l,u=.a l from ?_) λl o=>gF l m o (kR (fg A w))
 induction p using W.casesOn with
 |N x=>exact(show u=x from q)▸am (Option.isSome_iff_exists.mp n) λl o=>⟨l,kR o⟩
 |a2 y=>induction y using cy.casesOn with
  |num B D=>exact⟨_,q⟩|_=>exact nomatch n
 |_=>exact nomatch n
variable{j i g:Nat}
theorem Vu:bX P f C g (.a6 m p q) a l d=aO (ev P f C d a (.loc m) l) a λn l=>aO (ev P f C d a q l) a λv l=>aO (js p n v l) a λv l=>ac (.next,a.set m (ac v),l):=by
 show(match a[m]? with|some (ac n)=>aO (ev P f C d a q l) a λv l=>aO (js p n v l) a λv l=>ac (Fl.next,a.set m (ac v),l)|_=>ae)=aO (match a[m]? with|some (ac v)=>R.ok v l|_=>.i) a _
 cases a[m]? with
 |none=>rfl|some o=>induction o using Option.casesOn<;>rfl
noncomputable def qq(l:eI)(m n:V)(o:H):R V:=match m,n with
 |.a x,.a y=>bZ l (.a x) (.a y) o|_,_=>.i
theorem Jm:bX P f C g (.e1 o n A B) a l d=aO (ev P f C d a o l) a λm l=>aO (match dH P l m n with|some x=>R.ok x l|none=>.i) a λp l=>aO (ev P f C d a B l) a λv l=>
  aO (qq A p v l) a λv l=>(dN P l m n v).map λl=>(.next,a,l):=by
 have D:∀{u:Type} {r:R u} {w z:u->H->Mine.Internal.X},(∀t l,w t l=z t l)->aO r a w=aO r a z:=λ{u r w z} q=>congrArg (aO r a) (funext λt=>funext λl=>q t l);refine D λm l=>?_;show(match dH P l m n with|some p=>aO (ev P f C d a B l) a λv l=>(match p,v with|.a x,.a y=>aO (bZ A (.a x) (.a y) l) a λv l=>(dN P l m n v).map λl=>(Fl.next,a,l)|_,_=>ae)|none=>ae)=_
 cases dH P l m n with
 |none=>rfl|some p=>
  refine D λv l=>?_
  induction p using V.casesOn with
  |a x=>induction v using V.casesOn<;>rfl
  |_=>rfl
theorem a09(hC:rZ h T k C)(hw:i<=g){bl:List St->LS->HS->Option Nat->XS}(F:vJ h T bl (aJ P f C g)):vJ h T (Qx T P k j i bl) (bX P f C g):=by
 intro st s c a d e L D;have A:∀p (b:aF h T) {c a},s.le b->cC b c a->bu b aF.z (fp T P k d j c p b.p) (ev P f C e a p b.h):=λp b {c a} l B=>Me hC j p b c a d e B (D.up l);have z3:∀{m:aF h T} {M w:W} {u v:V} {n:List Nat},cC m c a->m.z M u->m.z w v->bC m ((xl P m.p M n w).map λz1=>(FS.next,c,z1)) ((dN P m.h u n v).map λz1=>(Fl.next,a,z1)):=λ{m M w u v n} t ra z5=>by
  cases p:xl P m.p M n w with
  |none=>exact .i _|some z9=>exact .heap t (aT9 ra z5 p)
 induction st using St.casesOn with
 |q J p=>exact .bind L (A p s s.rfl L) λm w v l t r=>.here (t.set r J) .next|a8 Q p=>
  refine .bind L (A p s s.rfl L) λm w v l t r=>?_
  cases q:uw w with
  |none=>exact .i _|some ws=>
   exact ak (Hm q r) λvs z r2=>by
    rw[z];show bC m ((bO (AD d m.p) ()).bind λZ=>(ui Q ws c).map λa=>(FS.next,a,m.p)) (if dQ e m.h=af then(fY Q vs a).map λa=>(Fl.next,a,m.h)else ae)
    cases q2:AD d m.p with
    |false=>exact .i _|true=>
     rw[if_pos (aj5 (D.up l) q2)];show bC m ((ui Q ws c).map λa=>(FS.next,a,m.p)) _
     cases q3:ui Q ws c with
     |none=>exact .i _|some za=>exact ak (aT7 Q r2 t q3) λzb h1 E=>by rw[h1];exact .here E .next
 |Z o n p=>exact .bind L (A p s s.rfl L) λm w v l t r=>.bind t (A o m l t) λS u z G E I=>z3 E I (G.v r)|e4 o J p=>
  refine .bind L (A p s s.rfl L) λm w v l t r=>.bind t (A o m l t) λS u z G E I=>.bind E (A J S (l.trans G) E) λs4 z6 z4 N L4 Y=>?_
  cases q:GU u z6 w s4.p with
  |none=>exact .i _|some hS=>exact aU2 L4 (N.v I) Y (N.v (G.v r)) q
 |a6 J op p=>
  refine .as Vu ?_;exact .bind L (Oi L J) λs1 w0 v0 l1 L1 r1=>.bind L1 (A p s1 l1 L1) λm w v l t r=>.bind t (Q:=aF.z) (x:=jE (vS T op w0 w) m.p) (r:=js op v0 v m.h) (.g8 λx U=>by
   have y:=DL (l.v r1) r U;rw[Vt y.2];exact y.1) λS x z4 G E I=>.here (E.set I J) .next
 |e1 o n op p=>
  refine .as Jm ?_;refine .bind L (A o s s.rfl L) λm w v l t r=>.bind t (Q:=aF.z) (.k8 λu hu=>Ji r hu) λS zc ov G E I=>.bind E (A p S (l.trans G) E) λs4 w2 v2 N L4 Y=>.bind L4 (Q:=aF.z) (.g8 λx U=>?_) λs5 x z4 l5 L5 r5=>z3 L5 (l5.v (N.v (G.v r))) r5;exact aC U λZ h1 U=>cb h1 λh2 Z=>by
   have y:=DL (N.v I) Y U;exact cu (am6 h2 (N.v I) Y) λJ zd z z2=>by
    rw[z,z2]at y⊢;exact y.1
 |E z0 M y=>exact .bind L (A z0 s s.rfl L) λm w v l t r=>.pick (λze=>xz r) (F M _ _ _ _ _ t (D.up l)) (F y _ _ _ _ _ t (D.up l))|a9 z0 y=>exact a96 (s:=s) (λb c a l B=>A z0 b l B) (λb c a l B=>F y _ _ _ _ _ B (D.up l)) i g s c a hw s.rfl L|f2 x0 p y=>
  induction D using fk.casesOn with
  |at_ r=>exact .i _|S=>
   refine .bind L (A p s s.rfl L) λm w v l t r=>?_
   cases q:Go w m.p with
   |none=>exact .i _|some z7=>exact aF1 t r q λb c a w v l' B r'=>F y _ _ _ _ _ (B.set r' x0) .S
 |g1 x0 p y=>exact .i _|f3 x0 y0 p y=>exact .i _|B p=>
  cases p with
  |none=>exact .here L (.B rfl)|some p=>exact .bind L (A p s s.rfl L) λm w v l t r=>.here t (.B r)
 |b3 p=>
  refine .bind L (A p s s.rfl L) λm w v l t r=>?_
  cases q:GC P d w m.p with
  |none=>exact .i _|some z7=>exact aN3 t (D.up l) r q
 |c6 y z0 x z8=>exact a70 (F y _ _ _ _ _ L D) λb c a d e l B D'=>F z8 _ _ _ _ _ B D'|f7 y fb=>exact a67 D (F y _ _ _ _ _ L D) λb c a d e l B D'=>F fb _ _ _ _ _ B D'|d7 p=>exact .bind L (A p s s.rfl L) λm w v l t r=>.here t .next|b9=>exact .here L .next|a3=>exact .here L .a3|a5=>exact .here L .a5
theorem ab9(l:rZ h T k C)(m:i<=g)(n:Nat):vJ h T (Ez T P k j i n) (bX P f C g):=by
 induction n with
 |zero=>exact λp p p p p p p p=>.i _|succ n o=>exact a09 l m (Jy o)
noncomputable def bY(r:Mine.Internal.X):R V:=match r with
 |some (.next,_,l)=>R.ok V.none l|some (.B v,_,l)=>.ok v l|some (.exc m,_,l)=>.exc m l|_=>.i
theorem at8(x:bC s r m):bu s aF.z (Od r) (bY m):=by
 induction x using bC.casesOn with
 |i=>exact .i _|mk l L F=>induction F using iU.casesOn with
  |next=>exact .ok l (b:=V.none) rfl|B r=>exact .ok l r|exc r=>exact .exc l r|_=>exact .i _
theorem Nr(m:s.φ[n]?=ac l)(r:s.z w v):bu s aF.z (Fo n w s.p) (gQ l v s.h):=.g8 λx o=>bG o λt p q=>by
 rw[Ga (fg p r),<-q];exact .mk (v:=V.obj l) (al l m rfl)
theorem cC.of(r:s.a4 o p):cC s (o.map ac++pI n ae) (p.map ac++pI n ae):=by
 refine⟨by rw[aU,aU,bH,bH,r.len,Sj,Sj],λq w l=>?_⟩
 by_cases m:q<o.length
 ·rw[gI (by rw[bH];exact m),iQ]at l;exact bG l λu t x=>ak (r.get t) λv y z=>al v (by
   rw[gI (by rw[bH,r.len];exact m),iQ,y];rfl) (ax x▸z)
 ·rw[fM (by rw[bH];exact xR m),Sh]at l;split at l<;>exact nomatch l
theorem Wm(r:s.a4 l m)(n:DM F l=ac c):∃a,fS F m=ac a/\cC s c a:=cb n λo p=>by
 unfold fS;rw[r.len,if_pos o,<-p];exact al _ rfl (.of (r.app (QZ _)))
def oB(h:cj)(T:List bB)(p:W->List W->HS->Option (RS W))(C:bc):Prop:=∀(s:aF h T) (l:W) (m:List W) (d e:Option Nat) (n:V) (o:List V) (r:RS W),
 p l m s.p=ac r->s.z l n->s.a4 m o->fk s d e->bu s aF.z r (C n o e s.h)
noncomputable def wP(C:bc)(n:aj)(o:List V)(d:Option Nat)(l:H)(m:Cl):R V:=match m.isExc with
 |true=>(C (.m m.init) (.obj l.length::o) d (l++[.exc n ae ag])).bind (gQ l.length)|false=>(C (.m m.init) (.obj (l.length+1)::o) d (l++[.ns [],.inst n l.length])).bind (gQ (l.length+1))
noncomputable def sL(P:aZ)(f:aj->Option (List Int))(C:bc)(g:Nat)(F:Fn)(l:List V)(d:Option Nat)(m:H):R V:=match fS F l with
 |some a=>bY (aJ P f C g F.body a m d)|none=>.i
noncomputable def BE(P:aZ)(f:aj->Option (List Int))(C:bc)(g:Nat)(l:aj)(m:List V)(d:Option Nat)(n:H):R V:=match P.fn l with
 |some F=>sL P f C g F m d n|none=>match P.cls l with
  |some o=>wP C l m d n o|none=>.i
theorem JY:call P f g (n+1) (.m (.ref m)) p d l=BE P f (call P f g n) g m p d l:=by
 unfold BE;show(match P.fn m with
  |some F=>sL P f (call P f g n) g F p d l|none=>match P.cls m with
   |some o=>(if o.isExc=af then(call P f g n (V.m o.init) (V.obj l.length::p) d (l++[O.exc m ae ag])).bind (gQ l.length)else(call P f g n (V.m o.init) (V.obj (l.length+1)::p) d (l++[O.ns [],O.inst m l.length])).bind (gQ (l.length+1)))
   |none=>.i)=_
 cases P.fn m with
 |some F=>rfl|none=>cases P.cls m with
  |none=>rfl|some o=>
   show(if o.isExc=af then _ else _)=wP _ _ _ _ _ _;unfold wP
   induction o.isExc using Bool.casesOn<;>rfl
theorem ax3(y:rZ h T k C)(r:s.a4 t u)(D:fk s d e):bu s aF.z (FR k m t d s.p n) (wP C m u e s.h n):=by
 unfold FR wP
 cases n.isExc with
 |true=>
  have l:=s.g6 (v:=.exc m ae ag) (y:=.exc m ae ag) rfl;have p:=s.g7 (q:=.exc m ae ag) (y:=.exc m ae ag) rfl;exact .e9 l ((y _ (W.m n.init) (.obj s.p.length::t) d e (V.m n.init) (.obj s.h.length::u) rfl (bw _ _ rfl (al _ p rfl) (l.vs r)) (D.up l)).bind λA w v o x=>Nr (o.ix p) x)
 |false=>
  have p:=s.g7 (q:=.ns []) (y:=.ns []) (br [] rfl rfl rfl);have q:gM h T ((s.push (f:=.ns []) (y:=.ns []) (br [] rfl rfl rfl)).φ++[(s.h++[O.ns []]).length]) (.inst m s.p.length) (.inst m s.h.length):=al s.h.length (pj (ij ..) p) rfl;have o:=(s.g6 (v:=.ns []) (y:=.ns []) (br [] rfl rfl rfl)).trans (aF.g6 _ q);have B:=aF.g7 _ q;have E:s.p++[OS.ns []]++[OS.inst m s.p.length]=s.p++[.ns [],.inst m s.p.length]:=bt ..;have F:s.h++[O.ns []]++[O.inst m s.h.length]=s.h++[.ns [],.inst m s.h.length]:=bt ..;have G:(s.p++[OS.ns []]).length=s.p.length+1:=aU;have I:(s.h++[O.ns []]).length=s.h.length+1:=aU;have z:(aF.push _ q).φ[s.p.length+1]?=ac (s.h.length+1):=G▸I▸B;rw[<-E,<-F];exact .e9 o ((y (aF.push _ q) (W.m n.init) (.obj (s.p.length+1)::t) d e (V.m n.init) (.obj (s.h.length+1)::u) rfl (bw _ _ rfl (al _ z rfl) (o.vs r)) (D.up o)).bind λA w v J x=>Nr (J.ix z) x)
theorem yS(m:∀o,l≠.ref o):call P f g (n+1) (.m l) p d q=dX P d q l p:=by
 induction l using Value.casesOn<;>first|rfl|exact absurd rfl (m _)
theorem yT{o:W->List W->HS->Option (RS W)}(M:jr h)(N:i<=g)(Q:1<=I)(J:∀n,I<=n->oB h T o (call P f g n))(m:Nat):
  ∀n,I+m<=n->rZ h T (cY T P o j i t m) (call P f g n):=by
 induction m with
 |zero=>
  intro n v s p l d e E w y u D;show bu s aF.z ((o p l s.p).getD .i) _
  cases G:o p l s.p with
  |none=>exact .i _|some r=>exact J n v s p l d e E w r G y u D
 |succ m A=>
  intro n v s p l d e E w y u D;show bu s aF.z (match o p l s.p with|some r=>r|none=>Ha T P j i t (cY T P o j i t m) p l d s.p) _
  cases G:o p l s.p with
  |some r=>exact J n (aV (dm _ _) v) s p l d e E w r G y u D|none=>
   cases n with
   |zero=>exact absurd (aV Q (aV (dm _ _) v)) (bh1 0)|succ n=>
    have A:=A n (bg8 v);dsimp only;unfold Ha
    cases q:p.b7 oQ with
    |none=>exact .i _|some B=>
     rw[Lx (fg q y)];have S:(∀x,B≠.ref x)->bu s aF.z (DR T P s.p B l) (call P f g (n+1) (.m B) w e s.h):=λz=>.as (yS z) (WW M u)
     induction B using Value.casesOn with
     |ref x=>
      refine .as JY ?_;show bu s aF.z (GG T P j i t (cY T P o j i t m) x l d s.p) _;unfold GG BE
      cases P.fn x with
      |some F=>
       show bu s aF.z (DQ T P j i t (cY T P o j i t m) F l d s.p) _;show bu s aF.z _ (sL P f (call P f g n) g F w e s.h);unfold DQ sL
       cases U:DM F l with
       |none=>exact .i _|some c=>
        exact ak (Wm u U) λa Y L=>by
         rw[Y];exact at8 (Jy (ab9 A N t) F.body s c a d e L D)
      |none=>
       cases P.cls x with
       |none=>exact .i _|some cl=>exact ax3 A u D
     |_=>exact S λZ z=>nomatch z
end
end
section
section
variable{P:aZ}{a:Option Nat}{h:H}
theorem WV:dX P a h (.builtin "sum") b=vR a h b:=by kernel_rfl
theorem VG:dX P a h (.builtin "len") [.str s]=.ok (.a s.length) h:=by kernel_rfl
theorem VF(e:h[i]?=ac (.list b)):dX P a h (.builtin "len") [.obj i]=.ok (.a b.length) h:=
 (show dX P a h (.builtin "len") [.obj i]=oG h [.obj i] by kernel_rfl).trans (Oe e)
theorem VD(e:(P.cls C).any (!·.isExc)=af):dX P a h (.builtin "isinstance") [.str s,.m (.ref C)]=.ok (.j ag) h:=
 (show dX P a h (.builtin "isinstance") [.str s,.m (.ref C)]=if(P.cls C).any (!·.isExc)then .ok (.j ag) h else .i by kernel_rfl).trans (if_pos e)
theorem VJ(e:0<=i/\i<10):dX P a h (.type "str") [.a i]=.ok (.str [48+i.toNat]) h:=
 (show dX P a h (.type "str") [.a i]=if 0<=i&&i<10 then .ok (.str [48+i.toNat]) h else .i by kernel_rfl).trans (if_pos (Bool.and_eq_true_iff.mpr ⟨decide_eq_true e.1,decide_eq_true e.2⟩))
theorem VL(e:h[i]?=ac (.list b)):dX P a h (.type "tuple") [.obj i]=.ok (.tup b) h:=
 (show dX P a h (.type "tuple") [.obj i]=qy h [.obj i] by kernel_rfl).trans (by show(match h[i]? with|some (O.list b)=>R.ok (V.tup b) h|_=>.i)=_;rw[e])
theorem VE:dX P a h (.builtin "str.join") (.str s::b)=uc h s b:=by kernel_rfl
theorem Vz:dX P a h (.builtin "list.append") (.obj i::b)=rt h i λc=>ml h i c (nm "append") b:=by kernel_rfl
theorem VH:dX P a h (.builtin "list.pop") (.obj i::b)=rt h i λc=>ml h i c (nm "pop") b:=by kernel_rfl
end
end
section
noncomputable def pk(P:aZ)(e:Option Nat)(f:av)(v:V)(h:H):X:=match v with
 |.obj i=>match h[i]? with
  |some (.exc C _ _)=>if(P.cls C).any (·.isExc)then(ki e i h).map λh=>(.exc i,f,h)else ae
  |_=>ae
 |_=>ae
noncomputable def jj(f:Option Nat)(g:List Nat)(e:av)(v:V)(h:H):X:=match v with
 |.tup i=>if dQ f h then(fY g i e).map λe=>(.next,e,h)else ae
 |_=>ae
noncomputable def EB(f:Fl)(e:Option Nat):Option Nat:=match f with
 |.exc i=>ac i|_=>e
noncomputable def Qc(g:av)(v i k:V)(h:H):X:=match i,k with
 |.obj e,.str k=>match h[e]? with
  |some (.dict f m)=>if f.length<cN then ac (.next,g,h.set e (.dict (cL f k v) aw))else aw
  |_=>aw
 |_,_=>aw
noncomputable def az2(r:X):X:=match r with
 |some (f,e,h)=>ac (f,e.map λg=>ae,h)|none=>ae
section
variable(P:aZ)(b:aj->Option (List Int))(C:bc)(c:Nat){a:Type}(d:a)
noncomputable abbrev Kx(a:Type):=X->cG->Prop×a
noncomputable def BA(f:H->Prop)(k:H->cG->Prop×a):cG->Prop×a
 |.h x::e=>mn (f x) (k x e)|_=>fail d
noncomputable def tW(f:X->Prop)(k:Kx a):cG->Prop×a
 |.x x::e=>mn (f x) (k x e)|_=>fail d
noncomputable def Hl(f:Option Nat)(g:List Nat)(e:av)(v:V)(h:H)(k:Kx a)(i:cG):Prop×a:=match v with
 |.tup j=>mn (dQ f h=af) (match fY g j e with
  |some e=>k (ac (.next,e,h)) i|none=>fail d)
 |_=>fail d
noncomputable def Gx(f:Option Nat)(g:List Nat)(i:av)(v:V)(h:H)(k:Kx a):cG->Prop×a
 |.x x::e=>mn (jj f g i v h=x) (k x e)|e=>Hl d f g i v h k e
noncomputable def kx(k:Kx a)(e:av):Ke a:=λi h f=>k (ac (.exc i,e,h)) f
mutual
noncomputable def qJ:St->av->H->Option Nat->Kx a->cG->Prop×a
 |.q i e,g,h,m,k,l=>cU P b C m g d e h (λv h l=>k (ac (.next,g.set i (ac v),h)) l) (kx k g) l|.a8 A e,g,h,m,k,l=>cU P b C m g d e h (λv h=>Gx d m A g v h k) (kx k g) l|.Z o n e,g,h,m,k,l=>cU P b C m g d e h (λv h=>cU P b C m g d o h (λp h=>BA d (λx=>dN P h p n v=ac x) λx l=>k (ac (.next,g,x)) l) (kx k g)) (kx k g) l|.e4 o i e,g,h,m,k,l=>cU P b C m g d e h (λv h=>cU P b C m g d o h (λp h=>cU P b C m g d i h (λj h=>tW d (λx=>Qc g v p j h=x) k) (kx k g)) (kx k g)) (kx k g) l|.a6 i u e,g,h,m,k,l=>match g[i]? with
  |some (ac w)=>cU P b C m g d e h (λv h=>nH d (λx=>js u w v h=x) (λv h l=>k (ac (.next,g.set i (ac v),h)) l) (kx k g)) (kx k g) l|_=>fail d
 |.E y B q,g,h,m,k,l=>cU P b C m g d y h (λv h=>nG d (λt=>aA h v=ac t) λt l=>match t with
  |true=>ju B g h m k l|false=>ju q g h m k l) (kx k g) l
 |.B e,g,h,m,k,l=>match e with
  |none=>k (ac (.B .none,g,h)) l|some e=>cU P b C m g d e h (λv h l=>k (ac (.B v,g,h)) l) (kx k g) l
 |.b3 e,g,h,m,k,l=>cU P b C m g d e h (λv h=>tW d (λx=>pk P m g v h=x) k) (kx k g) l|.c6 q y x z,g,h,m,k,l=>ju q g h m (λr l=>match r with
  |some (.exc i,g,h)=>mn (∃D e E,y=.ref D/\h[i]?=ac (.exc D e E)/\(P.cls D).any (·.isExc)=af) (match x with
   |none=>ju z g h (ac i) k l|some x=>ju z (g.set x (ac (.obj i))) h (ac i) (λr l=>k (az2 r) l) l)
  |r=>k r l) l
 |.e1 o n u e,g,h,m,k,l=>cU P b C m g d o h (λp h=>rB d (λx=>dH P h p n=ac x) λw=>cU P b C m g d e h (λv h=>nH d (λx=>qq u w v h=x) (λv h=>BA d (λx=>dN P h p n v=ac x) λx l=>k (ac (.next,g,x)) l) (kx k g)) (kx k g)) (kx k g) l|.f7 q F,g,h,m,k,l=>ju q g h m (λr l=>match r with
  |some (f,g,h)=>ju F g h (EB f m) (λr l=>k (Gh f r) l) l|none=>k ae l) l
 |.d7 e,g,h,m,k,l=>cU P b C m g d e h (λv h l=>k (ac (.next,g,h)) l) (kx k g) l|.b9,g,h,_,k,l=>k (ac (.next,g,h)) l|.a3,g,h,_,k,l=>k (ac (.a3,g,h)) l|.a5,g,h,_,k,l=>k (ac (.a5,g,h)) l|s,g,h,m,k,l=>tW d (λx=>bX P b C c s g h m=x) k l
noncomputable def ju:List St->av->H->Option Nat->Kx a->cG->Prop×a
 |[],f,h,_,k,e=>k (ac (.next,f,h)) e|s::r,f,h,g,k,e=>qJ s f h g (λx e=>match x with
  |some (.next,f,h)=>ju r f h g k e|x=>k x e) e
end
end
end
section
section
variable{P:aZ}{c:aj->Option (List Int)}{C:bc}{e:Nat}{b:Option Nat}{a:av}{f:Type}{d:f}{k:Kx f}{x:f}{r:X}
inductive dh(k:Kx f)(x:f)(r:X):Prop
 |mk (g:cG) (p:(k r g).1) (h:x=(k r g).2)
theorem ib{j:Type}{r:R j}{n:j->H->X}{l:j->H->cG->Prop×f}(o:eP l (kx k a) x r)(h:∀v h g,(l v h g).1->dh k (l v h g).2 (n v h)):dh k x (aO r a n):=by
 induction o using eP.casesOn with
 |ok v q g p m=>exact m▸h v q g p|exc i q g p m=>exact .mk g p m
theorem BB{h:X->Prop}(p:(tW d h k g).1)(i:∀y,h y->r=y):dh k (tW d h k g).2 r:=by
 cases g with
 |nil=>exact p.elim|cons j g=>induction j using kD.casesOn<;>first|exact p.elim|(have w:=i _ p.1;subst w;exact .mk g p.2 rfl)
theorem Py{i:H->Prop}{h:H->cG->Prop×f}(p:(BA d i h g).1)(j:∀t g,i t->(h t g).1->dh k (h t g).2 r):dh k (BA d i h g).2 r:=by
 cases g with
 |nil=>exact p.elim|cons l g=>induction l using kD.casesOn<;>first|exact p.elim|exact j _ g p.1 p.2
set_option tactic.hygienic true in
theorem aH7{i:Bool->Prop}{h:Bool->cG->Prop×f}(p:(nG d i h g).1)(j:∀t g,i t->(h t g).1->dh k (h t g).2 r):dh k (nG d i h g).2 r:=by
 cases g with
 |nil=>exact p.elim|cons l g=>
  induction l using kD.casesOn<;>first|exact p.elim|skip
  rename_i t
  cases t with
  |true=>exact j af g p.1 p.2|false=>exact j ag g p.1 p.2
variable(P c C e d)in
def Ds(g:St):Prop:=∀a h b k i,(qJ P c C e d g a h b k i).1->dh k (qJ P c C e d g a h b k i).2 (bX P c C e g a h b)
variable(P c C e d)in
def IU(g:List St):Prop:=∀a h b k i,(ju P c C e d g a h b k i).1->dh k (ju P c C e d g a h b k i).2 (aJ P c C e g a h b)
theorem Bp(h:∀a h b k g,qJ P c C e d i a h b k g=tW d (λx=>bX P c C e i a h b=x) k g):Ds P c C e d i:=λa j b k g p=>by
 rw[h]at p⊢;exact BB p λl z=>z
theorem aI1{i:V->Prop}{h:V->cG->Prop×f}(p:(rB d i h g).1)(j:∀t g,i t->(h t g).1->dh k (h t g).2 r):dh k (rB d i h g).2 r:=by
 cases g with
 |nil=>exact p.elim|cons l g=>induction l using kD.casesOn<;>first|exact p.elim|exact j _ g p.1 p.2
theorem QR(p:(Hl d b g a v h k i).1):dh k (Hl d b g a v h k i).2 (jj b g a v h):=by
 induction v using V.casesOn with
 |tup j=>
  have l:(match fY g j a with|some a=>k (ac (.next,a,h)) i|none=>fail d:Prop×f).1:=p.2;show dh k (match fY g j a with|some a=>k (ac (.next,a,h)) i|none=>fail d:Prop×f).2 (if dQ b h=af then(fY g j a).map λa=>(.next,a,h)else ae);rw[if_pos (p.1:dQ b h=af)];generalize fY g j a=o at l⊢
  cases o with
  |none=>exact l.elim|some m=>exact .mk i l rfl
 |_=>exact p.elim
theorem aI0(p:(Gx d b i a v h k g).1):dh k (Gx d b i a v h k g).2 (jj b i a v h):=by
 cases g with
 |nil=>exact QR p|cons j g=>induction j using kD.casesOn<;>first|exact QR p|exact BB (d:=d) (h:=λx=>jj b i a v h=x) (g:=.x _::g) p λl z=>z
theorem dh.as(h:r=i)(g:dh k x i):dh k x r:=h▸g
theorem a66{k:av->H->Option Nat->X}:uv b (ac (g,a,h)) k=Gh g (k a h (EB g b)):=by induction g using Fl.casesOn<;>rfl
set_option tactic.hygienic true in
theorem Mi(I:St):Ds P c C e d I:=by
 refine@St.rec (Ds P c C e d) (IU P c C e d) ?_ ?_ ?_ ?_ ?_ ?_ ?_ ?_ ?_ ?_ ?_ ?_ ?_ ?_ ?_ ?_ ?_ ?_ ?_ ?_ ?_ I
 ·exact λi l a h b k g p=>ib (iy l h _ _ g p) λv h g p=>.mk g p rfl
 ·exact λS l a h b k g p=>ib (iy l h _ _ g p) λv h g p=>aI0 p
 ·exact λo n l a h b k g p=>ib (iy l h _ _ g p) λv h g p=>ib (iy o h _ _ g p) λG h g p=>Py p λx g q p=>by rw[q];exact .mk g p rfl
 ·exact λo i l a h b k g p=>ib (iy l h _ _ g p) λv h g p=>ib (iy o h _ _ g p) λG h g p=>ib (iy i h _ _ g p) λj h g p=>BB p λY q=>q
 ·intro i B l a h b k g p;have q:∀o:Option (Option V),((match o with|some (ac m)=>cU P c C b a d l h (λv h=>nH d (λx=>js B m v h=x) (λv h g=>k (ac (.next,a.set i (ac v),h)) g) (kx k a)) (kx k a) g|_=>fail d:Prop×f)).1->
    dh k (match o with|some (ac m)=>cU P c C b a d l h (λv h=>nH d (λx=>js B m v h=x) (λv h g=>k (ac (.next,a.set i (ac v),h)) g) (kx k a)) (kx k a) g|_=>fail d:Prop×f).2
     (match o with|some (ac m)=>aO (ev P c C b a l h) a λv h=>aO (js B m v h) a λv h=>ac (.next,a.set i (ac v),h)|_=>ae):=λo p=>by
   cases o with
   |none=>exact p.elim|some o=>cases o with
    |none=>exact p.elim|some m=>exact ib (iy l h _ _ g p) λv h g p=>ib (wX p λY q=>q) λv h g p=>.mk g p rfl
  exact q a[i]? p
 ·exact λo n B l a h b k g p=>.as Jm<|ib (iy o h _ _ g p) λG h g p=>aI1 p λm g q p=>by
   rw[q];show dh k _ (aO (ev P c C b a l h) a λv h=>aO (qq B m v h) a λv h=>(dN P h G n v).map λh=>(.next,a,h));exact ib (iy l h _ _ g p) λv h g p=>ib (wX p λY q=>q) λv h g p=>Py p λx g q p=>by rw[q];exact .mk g p rfl
 ·exact λF T u y w a h b k g p=>ib (iy F h _ _ g p) λv h g p=>aH7 p λt g q p=>by
   rw[q]
   cases t with
   |true=>exact y a h b k g p|false=>exact w a h b k g p
 ·exact λY Y Y=>Bp λY Y Y Y Y=>rfl
 ·exact λY Y Y Y=>Bp λY Y Y Y Y=>rfl
 ·exact λY Y Y Y=>Bp λY Y Y Y Y=>rfl
 ·exact λY Y Y Y Y=>Bp λY Y Y Y Y=>rfl
 ·intro l a h b k g p
  cases l with
  |none=>exact .mk g p rfl|some l=>exact ib (iy l h _ _ g p) λv h g p=>.mk g p rfl
 ·exact λl a h b k g p=>ib (iy l h _ _ g p) λv h g p=>BB p λY q=>by rw[<-q];induction v using V.casesOn<;>rfl
 ·intro u F x J y w a h b k g p;show dh k _ (lz P F x (aJ P c C e u a h b) λa h b=>aJ P c C e J a h b)
  induction y a h b _ g p using dh.casesOn with|mk g p l=>
  have l:(qJ P c C e d (.c6 u F x J) a h b k _).2=_:=l;rw[l];clear l;generalize aJ P c C e u a h b=r at p⊢;rcases r with _|⟨E,A,z⟩
  ·exact .mk g p rfl
  ·induction E using Fl.casesOn<;>first|exact .mk g p rfl|skip
   rename_i i;refine fi p.1 λD l U M N Q=>?_;subst M;have p:=p.2;rw[QP,N];show dh k _ (if D=D&&(P.cls D).any (·.isExc)then yX x i A z _ else ae);rw[Q,decide_eq_true rfl]
   cases x with
   |none=>exact w A z (ac i) k g p|some x=>
    induction w _ z (ac i) _ g p using dh.casesOn with|mk g p l=>
    refine .mk g ?_ ?_
    ·exact p
    ·exact l
 ·intro u L y w a h b k g p;show dh k _ (uv b (aJ P c C e u a h b) λa h b=>aJ P c C e L a h b)
  induction y a h b _ g p using dh.casesOn with|mk g p l=>
  have l:(qJ P c C e d (.f7 u L) a h b k _).2=_:=l;rw[l];clear l;generalize aJ P c C e u a h b=r at p⊢;rcases r with _|⟨E,A,z⟩
  ·exact .mk g p rfl
  ·refine .as a66 ?_
   induction w A z (EB E b) _ g p using dh.casesOn with|mk g p l=>exact .mk g p l
 ·exact λl a h b k g p=>ib (iy l h _ _ g p) λv h g p=>.mk g p rfl
 ·exact λa h b k g p=>.mk g p rfl
 ·exact λa h b k g p=>.mk g p rfl
 ·exact λa h b k g p=>.mk g p rfl
 ·exact λa h b k g p=>.mk g p rfl
 ·intro s r y w a h b k g p;show dh k _ (match bX P c C e s a h b with|some (.next,a,h)=>aJ P c C e r a h b|x=>x)
  induction y a h b _ g p using dh.casesOn with|mk g p l=>
  have l:(ju P c C e d (s::r) a h b k _).2=_:=l;rw[l];clear l;generalize bX P c C e s a h b=x at p⊢;rcases x with _|⟨E,A,z⟩
  ·exact .mk g p rfl
  ·induction E using Fl.casesOn<;>first|exact .mk g p rfl|exact w A z b k g p
end
theorem aa4{P:aZ}{c:aj->Option (List Int)}{C:bc}{e:Nat}{f:Type}{d:f}(j:List St):IU P c C e d j:=by
 induction j with
 |nil=>exact λa h b k g p=>.mk g p rfl|cons s r l=>
  intro a h b k g p;show dh k _ (match bX P c C e s a h b with|some (.next,a,h)=>aJ P c C e r a h b|x=>x)
  induction Mi s a h b _ g p using dh.casesOn with|mk g p i=>
  have i:(ju P c C e d (s::r) a h b k _).2=_:=i;rw[i];clear i;generalize bX P c C e s a h b=x at p⊢;rcases x with _|⟨m,n,o⟩
  ·exact .mk g p rfl
  ·induction m using Fl.casesOn<;>first|exact .mk g p rfl|exact l n o b k g p
theorem be{P:aZ}{c:aj->Option (List Int)}{C:bc}{e:Nat}{g:List St}{a:av}{h:H}{b:Option Nat}{r:X}{o:Prop}(i:cG)(l:o)(j:ju P c C e ae g a h b (λx n=>(True,x)) i=(o,r)):aJ P c C e g a h b=r:=by
 have q:=aa4 g a h b _ i (RT (congrArg om j) l)
 induction q using dh.casesOn with|mk m p z=>exact z.symm.trans (congrArg SD j)
theorem hY{c:aj->Option (List Int)}{o:Prop}(g:cG)(m:o)(j:cU P c C b a R.i x h (λv h t=>(True,.ok v h)) (λi h t=>(True,.exc i h)) g=(o,r)):ev P c C b a x h=r:=by
 have q:=iy x h _ _ g (RT (congrArg om j) m);generalize ev P c C b a x h=y at q;have l:=congrArg SD j
 induction q using eP.casesOn with
 |ok v n s p z=>exact z.symm.trans l|exc i n s p z=>exact z.symm.trans l
end
section
section
variable{P:aZ}{c:aj->Option (List Int)}{C:bc}{a:Option Nat}{b:av}{d:Nat}
theorem ej{o:Prop}(f:cG)(i:o)(e:qJ P c C d ae g b h a (λx k=>(True,x)) f=(o,r)):bX P c C d g b h a=r:=by
 have q:=Mi g b h a _ f (RT (congrArg om e) i)
 induction q using dh.casesOn with|mk j p z=>exact z.symm.trans (congrArg SD e)
end
end
noncomputable def aR:Ex:=.a 0
noncomputable def aG:Ex:=.a 1
noncomputable def cI:Ex:=.a 2
noncomputable def dZ:Ex:=.a 3
noncomputable def jd:Ex:=.a 4
noncomputable def wC:Ex:=.a 5
noncomputable def aq:Ex:=.loc 0
noncomputable def au:Ex:=.loc 1
noncomputable def AR:Ex:=.loc 10
noncomputable def rc:Ex:=.loc 11
noncomputable def wD:Ex:=.loc 12
noncomputable def ar0:Ex:=.loc 13
noncomputable def NT:Ex:=.loc 14
noncomputable def ar1:Ex:=.loc 15
noncomputable def ar2:Ex:=.loc 16
noncomputable def NU:Ex:=.loc 17
noncomputable def ar3:Ex:=.loc 18
noncomputable def NV:Ex:=.loc 19
noncomputable def aL:Ex:=.loc 2
noncomputable def ar4:Ex:=.loc 20
noncomputable def ar5:Ex:=.loc 21
noncomputable def NW:Ex:=.loc 22
noncomputable def AS:Ex:=.loc 23
noncomputable def NX:Ex:=.loc 24
noncomputable def ar6:Ex:=.loc 25
noncomputable def AT:Ex:=.loc 26
noncomputable def NY:Ex:=.loc 27
noncomputable def wE:Ex:=.loc 28
noncomputable def ar7:Ex:=.loc 29
noncomputable def aT:Ex:=.loc 3
noncomputable def bM:Ex:=.loc 4
noncomputable def eY:Ex:=.loc 5
noncomputable def fH:Ex:=.loc 6
noncomputable def jZ:Ex:=.loc 7
noncomputable def fT:Ex:=.loc 8
noncomputable def AU:Ex:=.loc 9
noncomputable def eX:List Nat->Ex:=.attr (.loc 0)
noncomputable def aM:Ex->Ex->Ex:=.d2 .Add
noncomputable def gG:List Ex->Ex:=.d6 .And
noncomputable def wA(s:String)(a:List Ex):Ex:=.b0 (.a1 (.builtin s)) a
noncomputable def aH(n:Nat)(a:List Ex):Ex:=.b0 (.a1 (.ref n)) a
noncomputable def wB(s:String)(a:List Ex):Ex:=.b0 (.a1 (.type s)) a
noncomputable def dR(o:Ex)(n:List Nat)(a:List Ex):St:=.d7 (.c3 o n a)
noncomputable def bA(a:Ex):Ex->Ex:=.Q a .Eq
noncomputable def ba(c:Ex)(b:List St):St:=.E c b []
noncomputable def jY(a:Ex):Ex->Ex:=.Q a .In
noncomputable def qZ(a:Ex):Ex:=.Q a .Is .none
noncomputable def dM(e:Ex):Ex:=.b0 (.a1 (.builtin "len")) [e]
noncomputable def fU(a:Ex):Ex->Ex:=.Q a .Lt
noncomputable def jA:List Nat->List Ex->Ex:=.c3 (.loc 0)
noncomputable def gm(a:Ex):Ex->Ex:=.Q a .NotEq
noncomputable def wF(a:Ex):Ex:=.Q a .IsNot .none
noncomputable def nz:List Ex->Ex:=.d6 .Or
noncomputable def aN(e:Ex):St:=.B (ac e)
noncomputable def dk:Ex:=.str []
noncomputable def re:Ex->Ex->Ex:=.d2 .Sub
noncomputable def TC:Fn:=⟨2,3,[.tup [.str s!"NONE"]],[aN (aH 84 [aG,aq,au])]⟩
noncomputable def TD:Fn:=⟨3,7,[],[.q 3 (.y []),.f2 4 aL [ba (bA bM au) [aN bM],ba (gG [gm au dk,.c3 bM s!"startswith" [au]]) [dR aT s!"append" [bM]]],ba (bA (dM aT) aG) [aN (.t aT aR)],.q 5 (.E (.Q (dM aT) .Gt aR) (.str s!"ambiguous ") (.str s!"bad ")),.b3 (aH 139 [aM (aM (aM (aM (aM eY aq) (.str [32,34])) au) (.str s!"\": must be ")) (aH 153 [aL]),.tup [.str s!"TCL",.str s!"LOOKUP",.str s!"INDEX",aq,au]])]⟩
noncomputable def yu:Fn:=⟨2,3,[],[ba (.Q (dM aq) .Gt au) [aN (aM (.a7 aq ae (ac au)) (.str s!"..."))],aN aq]⟩
noncomputable def Dg:Fn:=⟨2,3,[],[ba (gm (eX s!"code") aG) [.B ae],.E (bA (eX s!"info") dk) [.Z aq s!"info" (aM (aM (aM (eX s!"value") (.str s!"\n    while executing\n\"")) (aH 167 [au,.a 150])) (.str [34]))] [ba (eX s!"is_noted") [.Z aq s!"info" (aM (aM (aM (eX s!"info") (.str s!"\n    invoked from within\n\"")) (aH 167 [au,.a 150])) (.str [34]))]],.Z aq s!"is_noted" (.j af)]⟩
noncomputable def TF:Fn:=⟨1,2,[],[aN (jY aq (.tup [.str [32],.str [9],.str [10],.str [11],.str [12],.str [13]]))]⟩
noncomputable def TG:Fn:=⟨1,3,[],[ba (gm (dM aq) aG) [aN (.f0 aG)],.q 1 (wA "ord" [aq]),ba (.f6 (.a 48) .LtE au .LtE (.a 57)) [aN (re au (.a 48))],ba (.f6 (.a 97) .LtE au .LtE (.a 122)) [aN (re au (.a 87))],ba (.f6 (.a 65) .LtE au .LtE (.a 90)) [aN (re au (.a 55))],aN (.f0 aG)]⟩
noncomputable def TH:Fn:=⟨2,6,[],[.q 2 (.a7 aq (ac (aM au aG)) (ac (aM au cI))),ba (bA aL dk) [aN (.tup [.str [92],aM au aG])],.q 3 (.c3 (.str s!"abfnrtv") s!"find" [aL]),ba (.Q aT .GtE aR) [aN (.tup [.t (.str [7,8,12,10,13,9,11]) aT,aM au cI])],ba (bA aL (.str [10])) [.q 4 (aM au cI),.a9 (jY (.a7 aq (ac bM) (ac (aM bM aG))) (.tup [.str [32],.str [9]])) [.a6 4 .Add aG],aN (.tup [.str [32],bM])],ba (jY aL (.tup [.str [120],.str [117],.str [85]])) [aN (aH 216 [aq,aM au aG])],ba (jY aL (.tup [.str [48],.str [49],.str [50],.str [51],.str [52],.str [53],.str [54],.str [55]])) [aN (aH 223 [aq,aM au aG])],aN (.tup [aL,aM au cI])]⟩
noncomputable def TI:Fn:=⟨1,2,[],[aN (jY aq (.tup [.str [32],.str [9],.str [11],.str [12],.str [13]]))]⟩
noncomputable def TJ:Fn:=⟨2,3,[],[.a9 (fU au (dM aq)) [.E (aH 237 [.t aq au]) [.a6 1 .Add aG] [.E (bA (.a7 aq (ac au) (ac (aM au cI))) (.str [92,10])) [.a6 1 .Add cI] [aN au]]],aN au]⟩
noncomputable def TL:Fn:=⟨2,4,[],[.q 2 (dM aq),.a9 (fU au aL) [.E (bA (.t aq au) (.str [92])) [.a6 1 .Add cI] [.E (bA (.t aq au) (.str [10])) [aN (aM au aG)] [.a6 1 .Add aG]]],aN aL]⟩
noncomputable def TM:Fn:=⟨2,3,[],[.q 1 (aH 244 [aq,au]),.a9 (jY (.a7 aq (ac au) (ac (aM au aG))) (.tup [.str [10],.str [59],.str [35]])) [.E (bA (.t aq au) (.str [35])) [.q 1 (aH 251 [aq,au])] [.a6 1 .Add aG],.q 1 (aH 244 [aq,au])],aN au]⟩
noncomputable def TN:Fn:=⟨2,3,[],[.a9 (fU au (dM aq)) [.E (nz [bA (.t aq au) (.str [95]),.Q (aH 209 [.t aq au]) .GtE aR]) [.a6 1 .Add aG] [.E (bA (.a7 aq (ac au) (ac (aM au cI))) (.str s!"::")) [.a6 1 .Add cI,.a9 (bA (.a7 aq (ac au) (ac (aM au aG))) (.str [58])) [.a6 1 .Add aG]] [aN au]]],aN au]⟩
noncomputable def TO:Fn:=⟨2,7,[],[.q 2 (aM au aG),ba (bA (.a7 aq (ac aL) (ac (aM aL aG))) (.str [123])) [.q 3 (jA s!"find" [.str [125],aL]),ba (fU aT aR) [.b3 (aH 139 [.str s!"missing close-brace for variable name"])],aN (.tup [.tup [.str s!"var",.a7 aq (ac (aM aL aG)) (ac aT),.none],aM aT aG])],.q 4 (aH 265 [aq,aL]),ba (bA (.a7 aq (ac bM) (ac (aM bM aG))) (.str [40])) [.a8 [5,3] (aH 293 [aq,aM bM aG,.tup [.str [41]]]),ba (.Q aT .GtE (dM aq)) [.b3 (aH 139 [.str s!"missing )"])],aN (.tup [.tup [.str s!"var",.a7 aq (ac aL) (ac bM),eY],aM aT aG])],ba (bA bM aL) [aN (.tup [.tup [.str s!"text",.str [36]],aL])],aN (.tup [.tup [.str s!"var",.a7 aq (ac aL) (ac bM),.none],bM])]⟩
noncomputable def si:Fn:=⟨2,6,[],[.q 2 (aM au aG),.q 3 (aH 258 [aq,aL]),.a9 (gG [fU aT (dM aq),gm (.t aq aT) (.str [93])]) [.q 4 (aH 322 [aq,aT,.j af]),.q 3 (aH 258 [aq,.t bM dZ])],ba (.Q aT .GtE (dM aq)) [.b3 (aH 139 [.str s!"missing close-bracket"])],aN (.tup [.a7 aq (ac aL) (ac aT),aM aT aG])]⟩
noncomputable def TP:Fn:=⟨2,10,[],[.q 2 (dM aq),.q 3 (aM au aG),.q 4 aT,.q 5 dk,.q 6 aG,.a9 (fU bM aL) [.E (bA (.t aq bM) (.str [123])) [.a6 6 .Add aG,.a6 4 .Add aG] [.E (bA (.t aq bM) (.str [125])) [.a6 6 .Sub aG,.a6 4 .Add aG,ba (bA fH aR) [aN (.tup [aM eY (.a7 aq (ac aT) (ac (re bM aG))),bM])]] [.E (bA (.a7 aq (ac bM) (ac (aM bM cI))) (.str [92,10])) [.a8 [7,8] (aH 230 [aq,bM]),.a6 5 .Add (aM (.a7 aq (ac aT) (ac bM)) jZ),.q 4 fT,.q 3 fT] [.E (bA (.t aq bM) (.str [92])) [.a6 4 .Add cI] [.a9 (gG [fU bM aL,.Q (.t aq bM) .NotIn (.str s!"\{}\\")]) [.a6 4 .Add aG]]]]]],.b3 (aH 139 [.str s!"missing close-brace"])]⟩
noncomputable def TQ:Fn:=⟨3,11,[],[.q 3 (.y []),.q 4 dk,.q 5 (dM aq),.a9 (gG [fU au eY,.Q (.t aq au) .NotIn aL]) [.E (bA (.t aq au) (.str [36])) [.a8 [6,1] (aH 272 [aq,au])] [.E (bA (.t aq au) (.str [91])) [.a8 [7,1] (aH 279 [aq,au]),.q 6 (.tup [.str s!"cmd",jZ])] [.E (bA (.t aq au) (.str [92])) [ba (gG [jY (.str [32]) aL,bA (.a7 aq (ac (aM au aG)) (ac (aM au cI))) (.str [10])]) [.a3],.a8 [8,1] (aH 230 [aq,au]),.q 6 (.tup [.str s!"text",fT])] [.q 9 au,.a9 (gG [fU au eY,.Q (.t aq au) .NotIn (.str s!"$[\\"),.Q (.t aq au) .NotIn aL]) [.a6 1 .Add aG],.q 6 (.tup [.str s!"text",.a7 aq (ac AU) (ac au)])]]],.E (bA (.t fH aR) (.str s!"text")) [.a6 4 .Add (.t fH aG)] [ba (gm bM dk) [dR aT s!"append" [.tup [.str s!"text",bM]],.q 4 dk],dR aT s!"append" [fH]]],ba (gm bM dk) [dR aT s!"append" [.tup [.str s!"text",bM]]],aN (.tup [wB "tuple" [aT],au])]⟩
noncomputable def TR:Fn:=⟨1,2,[],[ba aq [aN (.tup [.str [32],.str [9],.str [11],.str [12],.str [13],.str [10],.str [59],.str [93]])],aN (.tup [.str [32],.str [9],.str [11],.str [12],.str [13],.str [10],.str [59]])]⟩
noncomputable def TS:Fn:=⟨2,4,[],[ba (gm (.a7 aq (ac au) (ac (aM au dZ))) (.str s!"\{*}")) [aN (.j ag)],.q 2 (aM au dZ),ba (jY (.a7 aq (ac aL) (ac (aM aL aG))) (.tup [dk,.str [10],.str [59]])) [aN (.j ag)],aN (bA (aH 244 [aq,aL]) aL)]⟩
noncomputable def TT:Fn:=⟨3,10,[],[.q 3 (aH 307 [aq,au]),ba aT [.a6 1 .Add dZ],.q 4 (.a7 aq (ac au) (ac (aM au aG))),ba (bA bM (.str [123])) [.a8 [5,6] (aH 286 [aq,au]),ba (bA eY dk) [aN (.tup [.tup [aT,.tup []],fH])],aN (.tup [.tup [aT,.tup [.tup [.str s!"text",eY]]],fH])],ba (bA bM (.str [34])) [.a8 [7,8] (aH 293 [aq,aM au aG,.tup [.str [34]]]),ba (.Q fT .GtE (dM aq)) [.b3 (aH 139 [.str s!"missing \""])],aN (.tup [.tup [aT,jZ],aM fT aG])],.a8 [7,6] (aH 293 [aq,au,aH 300 [aL]]),aN (.tup [.tup [aT,jZ],fH])]⟩
noncomputable def vq:Fn:=⟨3,10,[.j ag],[.q 3 (aH 258 [aq,au]),.q 4 (dM aq),ba (nz [.Q aT .GtE bM,gG [aL,bA (.t aq aT) (.str [93])]]) [aN .none],.q 5 (.y []),.q 6 aT,.a9 (.j af) [.a8 [7,8] (aH 314 [aq,fH,aL]),dR eY s!"append" [jZ],.q 6 (aH 244 [aq,fT]),ba (.Q fH .GtE bM) [aN (.tup [wB "tuple" [eY],aT,fT,bM])],ba (jY (.t aq fH) (.tup [.str [10],.str [59]])) [aN (.tup [wB "tuple" [eY],aT,fT,aM fH aG])],ba (gG [aL,bA (.t aq fH) (.str [93])]) [aN (.tup [wB "tuple" [eY],aT,fT,fH])],ba (bA fH fT) [ba (bA (.t aq (re fT aG)) (.str [34])) [.b3 (aH 139 [.str s!"extra characters after close-quote"])],.b3 (aH 139 [.str s!"extra characters after close-brace"])]]]⟩
noncomputable def TU:Fn:=⟨3,5,[],[ba (nz [.Q au .GtE (dM aq),aH 202 [.t aq au]]) [.B ae],.q 3 au,.a9 (gG [fU aT (dM aq),fU aT (aM au (.a 20)),.f1 (aH 202 [.t aq aT])]) [.a6 3 .Add aG],.b3 (aH 139 [aM (aM (aM (aM (.str s!"list element in ") aL) (.str s!" followed by \"")) (.a7 aq (ac au) (ac aT))) (.str s!"\" instead of space"),.tup [.str s!"TCL",.str s!"VALUE",.str s!"LIST",.str s!"JUNK"]])]⟩
noncomputable def TV:Fn:=⟨2,6,[],[.a8 [2,3] (.tup [aG,au]),.a9 (fU aT (dM aq)) [.q 4 (.t aq aT),.E (bA bM (.str [92])) [.a6 3 .Add aG] [.E (bA bM (.str [123])) [.a6 2 .Add aG] [ba (bA bM (.str [125])) [.a6 2 .Sub aG,ba (bA aL aR) [.d7 (aH 329 [aq,aM aT aG,.str s!"braces"]),aN (.tup [.a7 aq (ac au) (ac aT),aM aT aG])]]]],.a6 3 .Add aG],.b3 (aH 139 [.str s!"unmatched open brace in list",.tup [.str s!"TCL",.str s!"VALUE",.str s!"LIST",.str s!"BRACE"]])]⟩
noncomputable def TX:Fn:=⟨2,5,[],[.q 2 (.y []),.a9 (fU au (dM aq)) [.q 3 (.t aq au),.E (bA aT (.str [92])) [.a8 [3,1] (aH 230 [aq,au])] [.E (bA aT (.str [34])) [.d7 (aH 329 [aq,aM au aG,.str s!"quotes"]),aN (.tup [.c3 dk s!"join" [aL],aM au aG])] [.a6 1 .Add aG]],dR aL s!"append" [aT]],.b3 (aH 139 [.str s!"unmatched open quote in list",.tup [.str s!"TCL",.str s!"VALUE",.str s!"LIST",.str s!"QUOTE"]])]⟩
noncomputable def TY:Fn:=⟨2,5,[],[.q 2 (.y []),.a9 (gG [fU au (dM aq),.f1 (aH 202 [.t aq au])]) [.q 3 (.t aq au),.E (bA aT (.str [92])) [.a8 [3,1] (aH 230 [aq,au])] [.a6 1 .Add aG],dR aL s!"append" [aT]],aN (.tup [.c3 dk s!"join" [aL],au])]⟩
noncomputable def TZ:Fn:=⟨2,3,[],[.a9 (gG [fU au (dM aq),aH 202 [.t aq au]]) [.a6 1 .Add aG],ba (.Q au .GtE (dM aq)) [aN .none],ba (bA (.t aq au) (.str [123])) [aN (aH 336 [aq,aM au aG])],ba (bA (.t aq au) (.str [34])) [aN (aH 343 [aq,aM au aG])],aN (aH 350 [aq,au])]⟩
noncomputable def Ua:Fn:=⟨1,4,[],[.q 1 (.y []),.q 2 (aH 357 [aq,aR]),.a9 (wF aL) [dR au s!"append" [.t aL aR],.q 2 (aH 357 [aq,.t aL aG])],aN au]⟩
noncomputable def Dh:Fn:=⟨2,6,[],[.q 2 (.y []),.f2 3 au [.E (bA (.t aT aR) (.str s!"text")) [dR aL s!"append" [.t aT aG]] [.E (bA (.t aT aR) (.str s!"cmd")) [dR aL s!"append" [jA s!"run" [.t aT aG]]] [.E (qZ (.t aT cI)) [dR aL s!"append" [jA s!"read" [.t aT aG]]] [.q 4 (aH 392 [aq,.t aT cI]),dR aL s!"append" [jA s!"read" [aM (aM (aM (.t aT aG) (.str [40])) bM) (.str [41])]]]]]],aN (.c3 dk s!"join" [aL])]⟩
noncomputable def Uc:Fn:=⟨2,6,[],[.q 2 (.y []),.f2 3 au [.q 4 (aH 392 [aq,.t aT aG]),.E (.t aT aR) [dR aL s!"extend" [aH 364 [bM]]] [dR aL s!"append" [bM]]],aN aL]⟩
noncomputable def yv:Fn:=⟨4,5,[],[ba (gm (eX s!"code") aG) [.B ae],.q 2 (aH 258 [au,aL]),ba (bA (eX s!"line") aR) [.Z aq s!"line" (.h1 (.a7 au ae (ac aL)) (.str [10]))],.d7 (aH 174 [aq,.a7 au (ac aL) (ac aT)])]⟩
noncomputable def qc:Fn:=⟨2,10,[],[.q 2 dk,.q 3 aR,.q 4 (dM au),.c6 [.q 5 (aH 322 [au,aR]),.a9 (wF eY) [.a8 [6,3,4,7] eY,.q 2 (jA s!"call" [aH 399 [aq,fH]]),.q 3 jZ,.q 4 (dM au),.q 5 (aH 322 [au,jZ])]] (.ref 84) (ac 8) [.d7 (aH 406 [fT,au,aT,bM]),.b3 fT],aN aL]⟩
noncomputable def Ue:Fn:=⟨1,2,[],[.e4 (eX s!"tools") (.str s!"run") (.a1 (.ref 413))]⟩
noncomputable def Ug:Fn:=⟨2,4,[],[.q 2 (aM (aM (aM (aM (.str s!"can't ") aq) (.str [32,34])) au) (.str s!"\": no such variable")),aN (aH 139 [aL,.tup [.str s!"TCL",.str s!"LOOKUP",.str s!"VARNAME",au]])]⟩
noncomputable def Uh:Fn:=⟨2,3,[],[ba (.Q au .NotIn aq) [.e4 aq au (aH 381 [])],aN (.t aq au)]⟩
noncomputable def Ui:Fn:=⟨3,4,[],[.Z aq s!"kind" au,.Z aq s!"value" aL,.e1 aq s!"writes" .Add aG,aN aL]⟩
noncomputable def Uj:Fn:=⟨1,2,[],[ba (wA "isinstance" [aq,.a1 (.type "tuple")]) [aN aq],aN (.tup [aq,.none])]⟩
noncomputable def yx:Fn:=⟨4,5,[],[ba (qZ aT) [aN (.b0 aL [aq,au])],aN (.b0 aL [aq,au,aT])]⟩
noncomputable def qg:Fn:=⟨2,5,[],[.q 2 (aM au aG),.c6 [.q 3 (aH 322 [aq,aL,.j af]),.a9 (gG [wF aT,fU (aH 244 [aq,.t aT cI]) (.t aT dZ)]) [.q 2 (.t aT dZ),.q 3 (aH 322 [aq,aL,.j af])]] (.ref 84) ae [.b9],ba (bA aL (aM au aG)) [aN (.tup [.str s!"text",dk])],aN (.tup [.str s!"cmd",.a7 aq (ac (aM au aG)) (ac aL)])]⟩
noncomputable def II:Fn:=⟨2,7,[],[ba (bA (.t aq au) (.str [36])) [.a8 [2,3] (aH 272 [aq,au]),aN (.tup [aL,aT,.none])],.c6 [.a8 [4,3] (aH 279 [aq,au])] (.ref 84) (ac 5) [aN (.tup [aH 673 [aq,au],dM aq,eY])],aN (.tup [.tup [.str s!"cmd",bM],aT,.none])]⟩
noncomputable def yy:Fn:=⟨2,4,[],[.c6 [aN (aH 392 [aq,.tup [au]])] (.ref 84) (ac 2) [ba (bA (.attr aL s!"code") aG) [.b3 aL],ba (bA (.attr aL s!"code") dZ) [aN .none],ba (bA (.attr aL s!"code") jd) [aN dk],aN (.attr aL s!"value")]]⟩
noncomputable def lM:Fn:=⟨5,12,[.j af,.j af,.j af],[.q 5 (.y []),.q 6 aR,.a9 (fU fH (dM au)) [.q 7 (.t au fH),.E (gG [bA jZ (.str [92]),aL]) [.a8 [8,6] (aH 230 [au,fH])] [.E (nz [gG [bA jZ (.str [91]),aT],gG [bA jZ (.str [36]),bM]]) [.a8 [9,6,10] (aH 680 [au,fH]),.q 8 (aH 687 [aq,AU]),ba (qZ fT) [aN (.c3 dk s!"join" [eY])],ba (wF AR) [.b3 AR]] [.q 8 jZ,.a6 6 .Add aG]],dR eY s!"append" [fT]],aN (.c3 dk s!"join" [eY])]⟩
noncomputable def sj:Fn:=⟨2,5,[],[ba (fU (dM au) cI) [.b3 (aH 146 [aM (.t au aR) (.str s!" ?-nobackslashes? ?-nocommands? ?-novariables? string")])],.q 2 (.tup [.str s!"-nobackslashes",.str s!"-nocommands",.str s!"-novariables"]),.q 3 (.g0 (aH 160 [.str s!"option",bM,aL]) 4 (.a7 au (ac aG) (ac (.f0 aG)))),aN (aH 695 [aq,.t au (.f0 aG),.Q (.t aL aR) .NotIn aT,.Q (.t aL aG) .NotIn aT,.Q (.t aL cI) .NotIn aT])]⟩
noncomputable def Ut:Fn:=⟨0,1,[],[aN (.b8 [s!"subst"] [.a1 (.ref 700)])]⟩
noncomputable def Uu:Fn:=⟨0,1,[],[aN (.y [.y [aR,aR,aR,aR,aR],.y [aR,aG,aG,aR,aG,aR,aR],.y [aG,cI,cI,aR,dZ,.a 10,cI,aR,aR],.y [cI,cI,cI,cI,jd,aR,aR,aR,aR],.y [dZ,dZ,cI,aR,aR,.a 6,aG,aR,aG],.y [aR,jd,dZ,.a 11,aG,aR,wC,dZ,cI,aR,cI],.y [aG,aG,cI,aR,wC,wC,aR,aR,aR],.y [cI,aR,aG,aG,cI,aR,aR],.y [dZ,dZ,aG,.a 7,dZ,aR,aR],.y [aR,cI,aG,jd,jd,aR,aR],.y [aG,jd,aG,.a 8,aR,aR,aR],.y [cI,dZ,dZ,.a 10,aR,.a 6,cI,.a 9,aG,aR,aG],.y [dZ,aR,aR,aR,aR]])]⟩
noncomputable def yz:Fn:=⟨2,5,[],[.q 2 (.E (gm (.t aq (.str s!"row")) (.y [])) (.c3 (.t aq (.str s!"row")) s!"pop" [aR]) aR),.q 3 (.d2 .Mod (aM aL (.t aq (.str s!"rest"))) au),.e4 aq (.str s!"rest") (.d2 .FloorDiv (.t aq (.str s!"rest")) au),aN aT]⟩
noncomputable def Uv:Fn:=⟨2,7,[],[.q 2 (.tup [aG,.str s!"can't read \"zz\": no such variable",.tup [.str s!"TCL",.str s!"LOOKUP",.str s!"VARNAME",.str s!"zz"],aR]),.q 3 (.tup [aG,.str s!"invalid command name \"nope\"",.tup [.str s!"TCL",.str s!"LOOKUP",.str s!"COMMAND",.str s!"nope"],aR]),ba (fU aq (.a 6)) [.q 4 (.t (.y [.str s!"ok",.str s!"break",.str s!"continue",.str s!"return",.str s!"six",.str s!"error"]) aq),aN (.tup [aM (aM (aM (.str s!"say ") au) (.str [32])) bM,.y [au],aH 735 [bM]])],.q 5 (.y [.tup [aM (aM (.str s!"say ") au) (.str s!" [say in$n ok]"),.y [.str s!"inn",au],.none],.tup [aM (aM (.str s!"say ") au) (.str s!" [say in continue]"),.y [.str s!"in"],aH 735 [.str s!"continue"]],.tup [aM (.str s!"nope ") au,.y [],aT],.tup [aM (aM (.str s!"say ") au) (.str s!" $zz"),.y [],aL],.tup [aM (aM (.str s!"\{say} ") au) (.str s!" \"ok\" \{]}"),.y [au],.none],.tup [aM (aM (.str s!"\{*}\{say ") au) (.str s!" ok ]}"),.y [au],.none]]),aN (.t eY (re aq (.a 6)))]⟩
noncomputable def Uw:Fn:=⟨1,3,[],[.q 1 (.b8 [s!"break",s!"continue",s!"return",s!"six",s!"error"] [.tup [dZ,dk,.tup [.str s!"NONE"],aR],.tup [jd,.str [99],.tup [.str s!"NONE"],aR],.tup [cI,.str s!"r[say 9 ok]",.tup [.str s!"NONE"],aG],.tup [.a 6,.str s!"s$n",.tup [.str s!"NONE"],aR],.tup [aG,.str s!"wrong",.tup [.str [65],.str s!"b c"],aR]]),aN (.E (jY aq au) (.t au aq) .none)]⟩
noncomputable def Ux:Fn:=⟨2,4,[],[.q 2 (.t (.y [.str [32],.str s!" $zz [say 9 ok]",.str s!"]; [nope"]) au),aN (.t (.y [.tup [dk,.str s!"missing close-bracket",.j ag,.y []],.tup [.str s!"say 7 ok",.str s!"missing close-bracket",.j ag,.y [.str [55]]],.tup [.str s!"say 7 ok \\\n",.str s!"missing close-bracket",.j ag,.y [.str [55]]],.tup [.str s!"# say 7 ok ]",.str s!"missing close-bracket",.j ag,.y []],.tup [aM (.str s!"\{a}b say") aL,.str s!"extra characters after close-brace",.j af,.y []],.tup [aM (.str s!"say 7 \"a\"b]") aL,.str s!"extra characters after close-quote",.j af,.y []],.tup [.str s!"say 7 \{a]",.str s!"missing close-brace",.j af,.y []],.tup [.str s!"say 7 \"a]",.str s!"missing \"",.j af,.y []],.tup [.str s!"say 7 $y(a]",.str s!"missing )",.j af,.y []],.tup [.str s!"say 7 $\{a]",.str s!"missing close-brace for variable name",.j af,.y []],.tup [.str s!"say 7 [say 8 ok",.str s!"missing close-bracket",.j af,.y []],.tup [aM (.str s!"say 7 [say 8 ok;\{a}b]") aL,.str s!"extra characters after close-brace",.j af,.y []],.tup [.str [9,10,32],.str s!"missing close-bracket",.j ag,.y []]]) aq)]⟩
noncomputable def Uy:Fn:=⟨3,5,[],[dR aL s!"append" [.t au aG],.q 3 (aH 735 [.t au cI]),ba (qZ aT) [aN (.t au cI)],.b3 (aH 84 [.t aT aR,.t aT aG,.t aT cI,.t aT dZ])]⟩
noncomputable def Uz:Fn:=⟨1,3,[],[.q 1 (aH 664 []),.d7 (aH 420 [au]),dR au s!"add" [aH 707 []],dR au s!"add" [.b8 [s!"say"] [.tup [.a1 (.ref 749),aq]]],dR au s!"write" [.str [110],.str [110]],dR au s!"write" [.str [120],.str s!"v[say 9 ok;"],aN au]⟩
noncomputable def qi:Fn:=⟨3,6,[],[.c6 [ba (bA au aR) [aN (.tup [aR,aH 695 [aq,aL],.tup [],aR])],ba (bA au jd) [aN (.tup [aR,aH 413 [aq,aL],.tup [],aR])],.q 3 (.t (.y [.y [.str s!"subst",aL],.y [.str s!"subst",.str s!"-novariables",aL],.y [.str s!"subst",.str s!"-nov",.str s!"-nob",aL],.y [.str s!"subst",.str s!"-nobackslashes",.str s!"-nocommands",.str s!"-novariables",aL]]) (.E (fU au jd) (re au aG) dZ)),aN (.tup [aR,jA s!"call" [aT],.tup [],aR])] (.ref 84) (ac 4) [aN (.tup [.attr bM s!"code",.attr bM s!"value",.attr bM s!"errorcode",.attr bM s!"level"])]]⟩
noncomputable def yA:Fn:=⟨3,31,[],[.q 3 (.b8 [s!"row",s!"rest"] [au,aq]),.a8 [4,5] (.tup [aH 721 [aT,jd],aH 721 [aT,wC]]),ba (gG [bA bM dZ,bA eY jd]) [.q 5 aG],.q 6 (.t (.y [dk,.str s!"p\tq",.str s!"a$x",.str s!"[say 0 ok]]",.str s!"\\[say"]) eY),.q 7 (.t (.t (.y [.y [dk,.str s!"p\tq",.str s!"av[say 9 ok;",.str s!"ok]",.str s!"[say"],.y [dk,.str s!"p\tq",.str s!"a$x",.str s!"ok]",.str s!"[say"]]) (.d2 .FloorDiv bM cI)) eY),.a8 [8,9,10,11] (.tup [dk,dk,.E (bA eY dZ) (.y [.str [48]]) (.y []),.none]),.q 12 (.y []),.g1 13 (aH 721 [aT,jd]) [.a8 [14,15,16] (aH 728 [aH 721 [aT,.a 12],wB "str" [aM aG ar0]]),.a8 [17,18] (.t (.y [.tup [.str [59],aG],.tup [.str [10],aG],.tup [.str s!" ;\t",cI],.tup [.str s!"\\\n;",dZ],.tup [.str s!";# ] c\n",aG],.tup [.str s!"\n\n ;",aG]]) (aH 721 [aT,.a 6])),.q 9 (aM (aM fT NT) (.a7 NU ae (ac ar3))),.q 8 (aM (aM fT NT) NU),ba (qZ rc) [.a8 [12,11] (.tup [aM wD ar1,ar2])]],.a8 [19,20,21,22] (aH 742 [.d2 .Mod (aM aL (aH 721 [aT,.a 13])) (.a 13),aH 721 [aT,dZ]]),.a8 [23,24] (.tup [aM (aM (aM fH (.str [91])) fT) NV,.tup [aG,ar4,.tup [.str s!"NONE"],aR]]),.E (nz [qZ rc,jY (.t rc aR) (.y [cI,jd,.a 6])]) [.q 25 NX] [.q 25 (.E (bA (.t rc aR) dZ) (.tup [aR,jZ,.tup [],aR]) rc)],.a8 [26,27] (.tup [.y [],.y []]),.a8 [28,29] (.tup [aH 756 [AT],aH 756 [NY]]),ba (nz [gm (aH 763 [wE,bM,AS]) ar6,gm AT (aM AR wD),gm (.attr wE s!"depth") aR]) [aN (.j ag)],ba (gm (aH 673 [AS,dM fH]) (.E (bA AU dk) (.tup [.str s!"text",dk]) (.tup [.str s!"cmd",AU]))) [aN (.j ag)],ba (nz [gm (aH 763 [wE,wC,AS]) (.tup [aR,AS,.tup [],aR]),gm AT (aM AR wD)]) [aN (.j ag)],ba (nz [gm (.attr wE s!"spent") (aM (dM AT) (.E (bA bM aR) aG cI)),gm (.c3 wE s!"read" [.str [120]]) (.str s!"v[say 9 ok;")]) [aN (.j ag)],ba (qZ rc) [.q 11 (.E ar5 NX (.tup [aR,.E (nz [gm fT dk,gm NW (.y [])]) (.str s!"ok") dk,.tup [],aR])),.q 12 (aM wD NW)],aN (gG [bA (aH 763 [ar7,jd,aM fT NV]) rc,bA NY wD])]⟩
noncomputable def yB:Fn:=⟨1,4,[],[.f3 1 2 (aH 714 []) [ba (.f1 (aH 770 [wA "sum" [.h0 aq au (.a 13)],aL,au])) [aN (.j ag)]],aN (.j af)]⟩
noncomputable def UA:Fn:=⟨6,7,[.tup [.str s!"NONE"],.a 0,.a 0],[dR (.a1 (.type "Exception")) s!"__init__" [aq,aL],.Z aq s!"code" au,.Z aq s!"value" aL,.Z aq s!"errorcode" aT,.Z aq s!"level" bM,.Z aq s!"ret" eY,.Z aq s!"info" dk,.Z aq s!"is_noted" (.j ag),.Z aq s!"line" aR,.Z aq s!"extra" (.y [])]⟩
noncomputable def TA:Fn:=⟨5,6,[.none,.j ag,.str []],[.Z aq s!"script" au,.Z aq s!"back" aL,.Z aq s!"is_proc" aT,.Z aq s!"label" bM]⟩
noncomputable def TB:Fn:=⟨3,4,[],[.Z aq s!"kind" au,.Z aq s!"words" aL]⟩
noncomputable def Ub:Fn:=⟨1,2,[],[.Z aq s!"kind" (.str s!"none"),.Z aq s!"value" dk,.Z aq s!"traces" (.y []),.Z aq s!"is_busy" (.j ag),.Z aq s!"is_element" (.j ag),.Z aq s!"writes" aR]⟩
noncomputable def Uf:Fn:=⟨3,4,[.a 40,.none],[.Z aq s!"tools" (.b8 [] []),.Z aq s!"inline" (.b8 [] []),.Z aq s!"limit" au,.Z aq s!"fuel" aL,.Z aq s!"depth" aR,.Z aq s!"spent" aR,.Z aq s!"epoch" aR,.Z aq s!"frame" .none,.Z aq s!"coroutine" .none]⟩
noncomputable def Di:Fn:=⟨2,3,[],[ba (.Q au .NotIn (eX s!"tools")) [.b3 (aH 51 [aM (.str s!"the host lacks the tool ") au])],aN (.t (eX s!"tools") au)]⟩
noncomputable def yw:Fn:=⟨1,2,[],[.e1 aq s!"spent" .Add aG,ba (gG [wF (eX s!"fuel"),.Q (eX s!"spent") .Gt (eX s!"fuel")]) [.b3 (aH 63 [.str s!"the script spent all its fuel"])]]⟩
noncomputable def vt:Fn:=⟨2,4,[],[ba (.Q (eX s!"depth") .GtE (eX s!"limit")) [.b3 (aH 139 [.str s!"too many nested evaluations (infinite loop?)",.tup [.str s!"TCL",.str s!"LIMIT",.str s!"STACK"]])],.q 2 (jA s!"tool" [.str s!"run"]),.e1 aq s!"depth" .Add aG,.f7 [aN (.b0 aL [aq,au])] [.e1 aq s!"depth" .Sub aG]]⟩
noncomputable def vy:Fn:=⟨2,4,[],[ba (.f1 au) [aN dk],.q 2 (jA s!"begin" [au]),ba (wA "isinstance" [aL,.a1 (.ref 105)]) [aN (jA s!"finish" [aL])],ba (wA "isinstance" [aL,.a1 (.ref 126)]) [.b3 (aH 139 [.str s!"cannot yield: C stack busy",.tup [.str s!"TCL",.str s!"COROUTINE",.str s!"CANT_YIELD"]])],aN aL]⟩
noncomputable def Uk:Fn:=⟨3,4,[.a 40,.none],[dR (.a1 (.ref 501)) s!"__init__" [aq,au,aL],.Z aq s!"vars" (.b8 [] []),.Z aq s!"commands" (.b8 [] []),.Z aq s!"firsts" (.b8 [] [])]⟩
noncomputable def Ul:Fn:=⟨2,3,[],[aN (aH 519 [eX s!"vars",au])]⟩
noncomputable def Um:Fn:=⟨3,4,[],[ba (bA (.attr au s!"kind") (.str s!"none")) [.b3 (aH 512 [.str s!"read",aL])],aN (.attr au s!"value")]⟩
noncomputable def Un:Fn:=⟨4,5,[],[aN (aH 526 [au,.str s!"scalar",aT])]⟩
noncomputable def Uo:Fn:=⟨2,3,[],[aN (jA s!"read_var" [jA s!"place" [au],au])]⟩
noncomputable def Up:Fn:=⟨3,4,[],[aN (jA s!"write_var" [jA s!"place" [au],au,aL])]⟩
noncomputable def Uq:Fn:=⟨4,5,[.none],[dR aq s!"remove" [au],.e4 (eX s!"commands") au (.tup [aL,aT])]⟩
noncomputable def Ur:Fn:=⟨2,3,[],[dR (eX s!"commands") s!"pop" [au,.none],dR (eX s!"firsts") s!"pop" [au,.none],ba (jY au (eX s!"inline")) [.e1 aq s!"epoch" .Add aG]]⟩
noncomputable def Us:Fn:=⟨2,6,[],[.f2 2 au [.a8 [3,4] (aH 540 [.t au aL]),dR aq s!"put" [aL,aT,bM],.e4 (eX s!"firsts") aL (.j af)]]⟩
noncomputable def vA:Fn:=⟨2,5,[],[ba (.Q (.t au aR) .NotIn (eX s!"commands")) [.b3 (aH 139 [aM (aM (.str s!"invalid command name \"") (.t au aR)) (.str [34]),.tup [.str s!"TCL",.str s!"LOOKUP",.str s!"COMMAND",.t au aR]])],dR aq s!"spend" [],.a8 [2,3] (.t (eX s!"commands") (.t au aR)),aN (aH 547 [aq,au,aL,aT])]⟩
noncomputable def kg(s:String)(v:ah):Str×ah:=(s,v)
noncomputable def bh(s:String)(n:Nat):Str×ah:=(s,.ref n)
noncomputable def jM:List (aj×Fn):=[(139,TC),(160,TD),(167,yu),(174,Dg),(202,TF),(209,TG),(230,TH),(237,TI),(244,TJ),(251,TL),(258,TM),(265,TN),(272,TO),(279,si),(286,TP),(293,TQ),(300,TR),(307,TS),(314,TT),(322,vq),(329,TU),(336,TV),(343,TX),(350,TY),(357,TZ),(364,Ua),(392,Dh),(399,Uc),(406,yv),(413,qc),(420,Ue),(512,Ug),(519,Uh),(526,Ui),(540,Uj),(547,yx),(673,qg),(680,II),(687,yy),(695,lM),(700,sj),(707,Ut),(714,Uu),(721,yz),(728,Uv),(735,Uw),(742,Ux),(749,Uy),(756,Uz),(763,qi),(770,yA),(777,yB),(81,UA),(102,TA),(123,TB),(378,Ub),(435,Uf),(442,Di),(449,yw),(463,vt),(477,vy),(562,Uk),(576,Ul),(583,Um),(590,Un),(597,Uo),(604,Up),(633,Uq),(640,Ur),(647,Us),(661,vA)]
noncomputable def gl:List (Str×ah):=[bh "_wall" 21,bh "error" 139,bh "wrong_args" 146,bh "listing" 153,bh "pick" 160,bh "cut" 167,bh "note" 174,bh "note_row" 181,bh "end_return" 188,bh "end_proc" 195,bh "is_blank" 202,bh "digit" 209,bh "hex_sign" 216,bh "octal_sign" 223,bh "backslash" 230,bh "is_gap" 237,bh "skip_gaps" 244,bh "comment_behind" 251,bh "skip_to_command" 258,bh "read_name" 265,bh "variable" 272,bh "brackets" 279,bh "braces" 286,bh "parts_until" 293,bh "bare_stops" 300,bh "is_expanded" 307,bh "word" 314,bh "command_at" 322,bh "check_behind" 329,bh "braced_element" 336,bh "quoted_element" 343,bh "bare_element" 350,bh "find_element" 357,bh "split_list" 364,bh "text_of" 392,bh "words_of" 399,bh "blame" 406,bh "run_script" 413,bh "use_scripts" 420,bh "no_variable" 512,bh "var_in" 519,bh "put_value" 526,bh "elements_in" 533,bh "pair_of" 540,bh "act" 547,bh "part_ahead" 673,bh "part_at" 680,bh "part_text" 687,bh "subst_text" 695,bh "subst_action" 700,bh "subst_commands" 707,bh "_law_rows" 714,bh "_law_digit" 721,bh "_law_command" 728,bh "_law_end" 735,bh "_law_fault" 742,bh "_law_say" 749,bh "_law_host" 756,bh "_law_outcome" 763,bh "_law_right" 770,bh "law" 777,bh "TclFault" 38,bh "Misused" 51,bh "OutOfFuel" 63,bh "Raised" 84,bh "Nest" 105,bh "Pause" 126,bh "Var" 381,bh "Host" 501,bh "SmallHost" 664,kg "len" (.builtin "len"),kg "ord" (.builtin "ord"),kg "sum" (.builtin "sum"),kg "isinstance" (.builtin "isinstance"),kg "str" (.type "str"),kg "tuple" (.type "tuple"),kg "range" (.type "range"),kg "enumerate" (.type "enumerate"),kg "Exception" (.type "Exception")]
noncomputable def lT:List (aj×Cl):=[
 (84,⟨[],.ref 81,af,[s!"code",s!"value",s!"errorcode",s!"level",s!"ret",s!"info",s!"is_noted",s!"line",s!"extra"]⟩),
 (105,⟨[],.ref 102,ag,[]⟩),
 (126,⟨[],.ref 123,ag,[]⟩),
 (381,⟨[],.ref 378,ag,[s!"kind",s!"value",s!"traces",s!"is_busy",s!"is_element",s!"writes"]⟩),
 (501,⟨[],.ref 435,ag,[]⟩),
 (664,⟨[(s!"place",.ref 576),(s!"read_var",.ref 583),(s!"write_var",.ref 590),(s!"read",.ref 597),(s!"write",.ref 604),(s!"put",.ref 633),(s!"remove",.ref 640),(s!"add",.ref 647),(s!"begin",.ref 661),(s!"tool",.ref 442),(s!"spend",.ref 449),(s!"run",.ref 463),(s!"call",.ref 477)],.ref 562,ag,[s!"tools",s!"inline",s!"limit",s!"fuel",s!"depth",s!"spent",s!"epoch",s!"frame",s!"coroutine",s!"vars",s!"commands",s!"firsts"]⟩)]
noncomputable def prog:aZ:=⟨λa=>jM.lookup a,λa=>lT.lookup a⟩
section
noncomputable def jJ:St->List St
 |.a9 _ d=>d|.c6 d _ _ _=>d|.f2 _ _ d=>d|.f3 _ _ _ d=>d|.g1 _ _ d=>d|_=>[]
noncomputable def xw:St->Ex
 |.a9 d _=>d|.q _ e=>e|_=>.none
noncomputable def a23:Ex->Ex
 |.t d _=>d|_=>.none
noncomputable def wS:RS W->Option W
 |.ok w _=>ac w|_=>ae
noncomputable def gn:W->List W->HS->Option (RS W):=λd d d=>ae
theorem kZ:oB a T gn C:=λd d d d d d d d e=>nomatch e
section
variable(a:cj)(T:List bB)
noncomputable def ut:cy->Option V
 |.e8=>ac (.str (cat a T))|.M k=>ac (.a (bk a T k:Nat))|.t i j=>ac (.str (ct (cat a T) (bk a T i) (bk a T j)))|.num k d=>ac (.a (a.num k+d))|.d1 k=>ac (a.d1 k)|_=>ae
mutual
noncomputable def cV:W->Option V
 |.N v=>ac v|.tup d=>(bW d).map .tup|.a2 y=>ut a T y|.obj _=>ae
noncomputable def bW:List W->Option (List V)
 |[]=>ac []|w::r=>(cV w).bind λv=>(bW r).map (v::·)
end
theorem iO:bW a T (w::r)=(cV a T w).bind λv=>(bW a T r).map (v::·):=rfl
theorem a29(h:ut a T y=ac v):oE a T y x↔x=v:=by
 induction y using cy.casesOn<;>first|exact(λe=>ax e▸Ck:∀{u:V},ac u=ac v->(x=u↔x=v)) h|exact nomatch h
theorem Hs(w:W):∀{v x:V},cV a T w=ac v->(dW a T m w x↔x=v):=
 @W.rec (λw=>∀{v x:V},cV a T w=ac v->(dW a T m w x↔x=v)) (λg=>∀{d i:List V},bW a T g=ac d->(ci a T m g i↔i=d))
  (λy v x h=>(ax h:y=v)▸Ck)
  (λg n v x h=>bG h λd f k=>by
   subst k;exact⟨λr=>ak r λi j l=>j.trans (congrArg V.tup ((n f).mp l)),λe=>al d e ((n f).mpr rfl)⟩)
  (λA A A h=>nomatch h) (λy v x h=>a29 a T h)
  (λh=>(ax h)▸Ck)
  (λw g o p d i h=>aC h λv f k=>bG k λq j l=>by
   subst l;exact⟨λr=>bE r λx t s u z=>by rw[s,(o f).mp u,(p j).mp z],λe=>bw v q e ((o f).mpr rfl) ((p j).mpr rfl)⟩) w
theorem xA(e:V.tup d=.tup f):d=f:=by injection e
theorem Ry(h:bW a T f=ac g):ci a T i f d↔d=g:=by
 have q:=Hs a T (m:=i) (.tup f) (v:=.tup g) (x:=.tup d) (congrArg (eJ V.tup) h);exact⟨λr=>xA (q.mp (al d rfl r)),λe=>ak (q.mpr (congrArg V.tup e)) λl j k=>xA j▸k⟩
theorem Cb(h:cV a T w=ac v)(r:dW a T d w x):x=v:=(Hs a T w h).mp r
theorem Cc(h:bW a T d=ac e)(r:ci a T g d f):f=e:=(Ry a T h).mp r
theorem Rw(h:cV a T w=ac v):dW a T d w v:=(Hs a T w h).mpr rfl
theorem Ce(h:bW a T d=ac e):ci a T f d e:=(Ry a T h).mpr rfl
end
theorem NP{h d:H}(k:∀i,i<h.length->d[i]?=h[i]?):∃l,d=h++l:=by
 refine⟨d.drop h.length,?_⟩
 have e:d.take h.length=h:=by
  apply bd4;intro i;by_cases f:i<h.length
  ·rw[xJ f,k i f]
  ·rw[Cr (aV (bf0 ..) (xR f)),Cr (xR f)]
 conv=>lhs;rw[<-Cy h.length d,e]
theorem fy.g5{h d:H}{e:List Nat}(g:fy [] h e d):∃l,d=h++l:=NP λi f=>g.same i f ii
theorem ir.nil:ir a T [] [] h:=⟨rfl,.nil,λj o d e=>nomatch e⟩
section
variable{c:aj->Option (List Int)}{b:Nat}
theorem ub{d:W->List W->HS->Option (RS W)}
  (l:jr a) (o:60<=b) (p:1<=e) (q:∀n,e<=n->oB a T d (call prog c b n)) (r:cV a T f=ac g) (t:bW a T h=ac i) (u:e+m<=n) (s:aF a T) (D:fk s j k):
  bu s aF.z (cY T prog d 60 60 60 m f h j s.p) (call prog c b n g i k s.h):=
 yT (f:=c) (j:=60) (t:=60) l o p q m n u s f h j k g i (Rw _ _ r) (Ce _ _ t) D
theorem bu.h7{a:cj}{T:List bB}{s:aF a T}{e f:Type}{Q:aF a T->e->f->Prop}{w:e}{g:HS}{r:R f}(q:bu s Q (.ok w g) r):∃d h,s.le d/\d.p=g/\r=.ok h d.h/\Q d w h:=by
 cases q with
 |ok j q=>exact dp _ _ j rfl rfl q
theorem bu.l0{a:cj}{T:List bB}{s:aF a T}{j e:Type}{Q:aF a T->j->e->Prop}{f:Nat}{g:HS}{r:R e}(q:bu s Q (.exc f g) r):∃d h,s.le d/\d.p=g/\r=.exc h d.h/\d.φ[f]?=ac h:=by
 cases q with
 |exc k q=>exact dp _ _ k rfl rfl q
theorem aC9(e:wS r=ac w):∃h,r=.ok w h:=by
 induction r using RS.casesOn with
 |ok v h=>exact⟨h,congrArg (λv=>RS.ok v h) (ax e)⟩|_=>exact nomatch e
theorem PW{a:cj}{T:List bB}{i:W->List W->HS->Option (RS W)}{d m:Nat}{f:W}{j:List W}{w:W}{k v:V}{o:List V}
  (p:jr a) (r:60<=b) (s:1<=d) (t:∀n,d<=n->oB a T i (call prog c b n)) (u:wS (cY T prog i 60 60 60 m f j ae [])=ac w)
  (x:cV a T f=ac k) (y:bW a T j=ac o) (A:cV a T w=ac v) {n:Nat} (B:d+m<=n) (h:H):∃g,call prog c b n k o ae h=.ok v (h++g):=
 am (aC9 u) λF e=>by
  have q:=ub p r s t x y B ⟨[],h,[],.nil⟩ .S;rw[e]at q;exact ch q.h7 λG I C J D E=>am (fy.g5 C) λl z=>⟨l,by rw[D,Cb _ _ A E,z]⟩
noncomputable def ao6:List Nat:=s!"code"
noncomputable def ap4:List Nat:=s!"value"
noncomputable def ao7:List Nat:=s!"errorcode"
noncomputable def ap0:List Nat:=s!"level"
noncomputable def ap3:List Nat:=s!"ret"
noncomputable def ao9:List Nat:=s!"info"
noncomputable def ap2:List Nat:=s!"is_noted"
noncomputable def ap1:List Nat:=s!"line"
noncomputable def ao8:List Nat:=s!"extra"
noncomputable def cn:List (List Nat):=[ao6,ap4,ao7,ap0,ap3,ao9,ap2,ap1,ao8]
noncomputable def tR(n:Nat):Nat->List W
 |0=>[]|m+1=>.a2 (.d1 n)::tR (n+1) m
noncomputable def fF:HS:=[.exc 84 (ac 1) ag,.ns (cn.zip (tR 1000 9))]
def oC(h:H)(i:Nat)(e:List V):Prop:=∃d,i≠d/\h[i]?=ac (.exc 84 (ac d) ag)/\h[d]?=ac (.ns (cn.zip e))/\e.length=9
def dj(l:Nat)(h:H)(i:Nat)(e:List V):Prop:=∃d,l<=i/\l<=d/\i≠d/\h[i]?=ac (.exc 84 (ac d) ag)/\h[d]?=ac (.ns (cn.zip e))/\e.length=9
theorem dj.at_(x:dj l h i e):oC h i e:=mE x λd k k n f g j=>jW d n f g j
theorem dj.mono(x:dj l h i e)(q:f<=l):dj f h i e:=mE x λd g j n k m o=>tB d (aV q g) (aV q j) n k m o
noncomputable def jw(a:cj)(d:List V):cj:={a with d1:=λk=>if 1000<=k then d.getD (k-1000) .none else a.d1 k}
theorem aE6:∀{n:Nat},(∀k v,d[k]?=ac v->a.d1 (n+k)=v)->bW a T (tR n d.length)=ac d:=by
 induction d with
 |nil=>exact λg=>rfl|cons v r f=>
  intro n h;show(ac (a.d1 n)).bind (λx=>(bW a T (tR (n+1) r.length)).map (x::·))=_;rw[f λk x e=>by rw[rU];exact h (k+1) x e,show a.d1 n=v from h 0 v rfl];rfl
theorem MZ(f:d.length=9):bW (jw a d) T (tR 1000 9)=ac d:=f▸aE6 λk v e=>by
 show(if 1000<=1000+k then d.getD (1000+k-1000) .none else a.d1 (1000+k))=v;rw[if_pos (dm _ _),CB,Sf,e];rfl
theorem Cf{g h:Type}{d:List (g×h)}:∀{i:List g} {j:List h},d.map (·.1)=i->d.map (·.2)=j->d=i.zip j:=by
 induction d with
 |nil=>exact λe f=>by subst e f;rfl
 |cons p r k=>exact λe f=>by subst e f;exact congrArg (p::·) (k rfl rfl)
theorem RH{f g:Type}{e:List f}:∀{d:List g},d.length=e.length->(e.zip d).map (·.1)=e/\(e.zip d).map (·.2)=d:=by
 induction e with
 |nil=>exact λ{d} h=>by rw[Sd h];exact⟨rfl,rfl⟩
 |cons k e i=>
  intro d h
  cases d with
  |nil=>exact nomatch h|cons u d=>exact aP (i (pP h)) λj l=>⟨congrArg (k::·) j,congrArg (u::·) l⟩
theorem aj6{a:cj}{T:List bB}{f:List Nat}{d:List V}(e:d.length=9):gM (jw a d) T f (.ns (cn.zip (tR 1000 9))) (.ns (cn.zip d)):=by
 refine br _ rfl ?_ ?_
 ·exact(RH (d:=d) (e:=cn) e).1
 ·rw[(RH (d:=d) (e:=cn) e).2];exact Ce _ _ (MZ e)
theorem M'(n:j≠d)(k:h[j]?=ac (.exc 84 (ac d) ag))(l:h[d]?=ac (.ns (cn.zip f)))(p:f.length=9):ir (jw a f) T [j,d] fF h:=by
 refine⟨rfl,List.nodup_cons.mpr ⟨λm=>n (List.mem_singleton.mp m),List.nodup_cons.mpr ⟨ii,.nil⟩⟩,λi o q e g=>?_⟩
 cases i with
 |zero=>rw[<-ax e,<-ax g];exact Fi _ k d rfl rfl
 |succ i=>cases i with
  |zero=>rw[<-ax e,<-ax g];exact al _ l (aj6 p)
  |succ i=>exact nomatch e
theorem MY{a:cj}{T:List bB}{h:H}{e:aF (jw a p) T}{j d:Nat}(n:j≠d)(s:h[j]?=ac (.exc 84 (ac d) ag))(u:h[d]?=ac (.ns (cn.zip p)))(v:p.length=9)
  (g:fy [j,d] h e.φ e.h) (t:e.p.take 2=fF):∃l,e.h=h++l:=by
 have k:∀i,i<2->e.p[i]?=fF[i]?:=λi q=>by rw[<-t,xJ q]
 have r:e.φ[1]?=ac d:=pj g.pre rfl;refine ak (e.obj (pj g.pre rfl:e.φ[0]?=ac j) ((k 0 (by decide)).trans rfl)) λw x y=>ak (e.obj r ((k 1 (by decide)).trans rfl)) λz A B=>?_;have C:z=.ns (cn.zip p):=ak B λD o f=>by
  rw[o,Cf (d:=D) (i:=cn) (j:=p) f.1 (Cc _ _ (MZ v) f.2)]
 refine NP λi q=>?_;by_cases o:i=j
 ·rw[o,x,s,(ak y λE o f=>by rw[f,ax (o.symm.trans r)]:w=.exc 84 (ac d) ag)]
 ·by_cases f:i=d
  ·rw[f,A,u,C]
  ·exact g.same i q λm=>(List.mem_cons.mp m).elim o λm=>f (List.mem_singleton.mp m)
noncomputable def OY:RS W->Option (W×HS)
 |.ok w h=>ac (w,h.take 2)|_=>ae
theorem aP5{a:cj}{T:List bB}{o:W->List W->HS->Option (RS W)}{p m:Nat}{f:W}{r:List W}{w:W}{s v:V}{t i:List V}
  (B:jr a) (C:60<=b) (D:1<=p) (E:∀n,p<=n->oB (jw a i) T o (call prog c b n)) (k:OY (cY T prog o 60 60 60 m f r (ac 0) fF)=ac (w,fF))
  (F:cV (jw a i) T f=ac s) (G:bW (jw a i) T r=ac t) (I:cV (jw a i) T w=ac v) {n:Nat} (J:p+m<=n) {h:H} {j:Nat} (L:oC h j i):∃g,call prog c b n s t (ac j) h=.ok v (h++g):=
 iP L λd u x y A=>by
  have q:=ub (a:=jw a i) B C D E F G J ⟨[j,d],h,fF,M' u x y A⟩ (.at_ (i:=0) rfl)
  induction e:cY T prog o 60 60 60 m f r (ac 0) fF using RS.casesOn with
  |ok Y Z=>
   rw[e]at q k;have z:=io (ax k);exact ch q.h7 λs' M N P Q S=>am (MY u x y A N (P▸z.2)) λl U=>⟨l,by rw[Q,show M=v from Cb (w:=w) _ _ I (z.1▸S),U]⟩
  |_=>rw[e]at k;exact nomatch k
noncomputable def an0:W->Bool
 |.obj _=>af|_=>ag
noncomputable def wd(i:Nat)(h:HS):Option (Bool×List W):=(OS.d9 h[i]?).bind λe=>e.2.1.bind λd=>(OS.j2 h[d]?).bind λf=>
 bO (bf (e.1=84)&&bf (f.map (·.1)=cn)&&bf (i≠d)&&((f.map (·.2)).drop 8).all an0) (e.2.2,(f.map (·.2)).take 8)
noncomputable def Mm:RS W->Option (Bool×List W)
 |.exc i h=>wd i h|_=>ae
noncomputable def Mp:RS W->Option (Bool×List W)
 |.ok (.obj i) h=>wd i h|_=>ae
theorem ci.q4(r:ci a T h (f++i) g):∃d e,g=d++e/\ci a T h f d/\ci a T h i e:=by
 induction f generalizing g with
 |nil=>exact bw [] g rfl rfl r|cons w f j=>exact bE r λv t z k l=>bE (j l) λd e m n o=>bw (v::d) e (by rw[z,m];rfl) (bw v d rfl k n) o
theorem ab8(e:OS.d9 o=ac p):o=ac (.exc p.1 p.2.1 p.2.2):=by
 cases o with
 |none=>exact nomatch e|some o=>induction o using OS.casesOn<;>first|(rw[<-ax e];done)|exact nomatch e
structure De{a:cj}{T:List bB}(s:aF a T)(e d:Nat)(f:List V)(y:Nat):Prop where
 ne:e≠d
 exc:s.h[e]?=ac (.exc 84 (ac d) ag)
 ns:s.h[d]?=ac (.ns (cn.zip (f++[V.obj y])))
 len:(f++[V.obj y]).length=9
theorem Eu{a:cj}{T:List bB}{s:aF a T}{i q:Nat}{t:List W}{j:List V}(r:s.φ[i]?=ac q)(C:wd i s.p=ac (ag,t))(D:bW a T t=ac j):
  ∃y h,De s q h j y/\∃u,s.p[i]?=ac (.exc 84 (ac u) ag)/\s.φ[u]?=ac h:=
 aC C λE F e=>aC e λd G e=>aC e λl I e=>cb e λJ L=>dr J λM v=>dr M λN P=>dr N λQ S=>by
  have k:=of_decide_eq_true S;have z:=io L;have o:=ab8 F;rw[G,of_decide_eq_true Q,show E.2.2=ag from z.1]at o;refine ak (s.obj r o) λy U Y=>ak Y λh m q4=>ak (Bt I m) λw q5 n=>?_;have x:=n.2;rw[<-Cy 8 (l.map (·.2)),z.2]at x;refine bE x.q4 λv1 v2 q7 q8 A=>?_;refine am (show∃p,(l.map (·.2)).drop 8=[p]from List.length_eq_one_iff.mp (by rw[xL,(by rw[bH,<-bH (f:=om)];exact congrArg pE k:(l.map (·.2)).length=9)])) λp z0=>?_;rw[z0]at v A;refine am (show∃g,v2=[V.obj g]from bE A λy z3 z r1 r2=>?_) λg z2=>?_
  ·induction p using W.casesOn with
   |obj k=>exact ak r1 λg Z z1=>⟨g,by rw[z,z1,show z3=[]from r2]⟩
   |_=>exact nomatch v
  ·have B:w.map (·.2)=j++[V.obj g]:=by rw[q7,Cc _ _ D q8,z2]
   exact ak7 g h ⟨λz4=>of_decide_eq_true P (tO s.ok.nd r (by rw[z4];exact m)),by rw[U,q4],by rw[q5,Cf (d:=w) (n.1.trans k) B],by
    rw[<-B,bH,<-bH (f:=om)];exact(congrArg pE (n.1.trans k))⟩ d o m
theorem De.new{a:cj}{T:List bB}{h:H}{s:aF a T}{d e y i j:Nat}{f:List V}(x:De s d e f y)(g:fy [] h s.φ s.h)(k:s.φ[i]?=ac d)(l:s.φ[j]?=ac e):dj h.length s.h d (f++[.obj y]):=
 tB e (g.new d (bT k) ii) (g.new e (bT l) ii) x.ne x.exc x.ns x.len
theorem PU{a:cj}{T:List bB}{j:W->List W->HS->Option (RS W)}{k m:Nat}{f:W}{o p:List W}{r:V}{s t:List V}
  (A:jr a) (B:60<=b) (C:1<=k) (D:∀n,k<=n->oB a T j (call prog c b n)) (d:Mm (cY T prog j 60 60 60 m f o ae [])=ac (ag,p))
  (E:cV a T f=ac r) (F:bW a T o=ac s) (G:bW a T p=ac t) {n:Nat} (I:k+m<=n) (h:H):
  ∃g i x,call prog c b n r s ae h=.exc i (h++g)/\dj h.length (h++g) i (t++[.obj x]):=by
 have q:=ub A B C D E F I ⟨[],h,[],.nil⟩ .S
 induction e:cY T prog j 60 60 60 m f o ae []using RS.casesOn with
 |exc i P=>
  rw[e]at q d;exact ch q.l0 λQ J u L M v=>cu (Eu v (L▸d) G) λy S x z=>ak z λU Y N=>am (fy.g5 u) λl w=>kQ l J y (w▸M) (w▸x.new u v N)
 |_=>rw[e]at d;exact nomatch d
theorem aP3{a:cj}{T:List bB}{j:W->List W->HS->Option (RS W)}{k m:Nat}{f:W}{o p:List W}{r:V}{s t:List V}
  (B:jr a) (C:60<=b) (D:1<=k) (E:∀n,k<=n->oB a T j (call prog c b n)) (d:Mp (cY T prog j 60 60 60 m f o ae [])=ac (ag,p))
  (F:cV a T f=ac r) (G:bW a T o=ac s) (I:bW a T p=ac t) {n:Nat} (J:k+m<=n) (h:H):
  ∃g i x,call prog c b n r s ae h=.ok (.obj i) (h++g)/\dj h.length (h++g) i (t++[.obj x]):=by
 have q:=ub B C D E F G J ⟨[],h,[],.nil⟩ .S
 induction e:cY T prog j 60 60 60 m f o ae []using RS.casesOn with
 |ok w U=>
  rw[e]at q d
  induction w using W.casesOn with
  |obj i=>exact ch q.h7 λY z0 u L M N=>ak N λP v Q=>cu (Eu v (L▸d) I) λy d' x z=>ak z λdS Z S=>am (fy.g5 u) λl A=>kQ l P y (A▸Q▸M) (A▸x.new u v S)|_=>exact nomatch d
 |_=>rw[e]at d;exact nomatch d
noncomputable def Mn:RS W->Option HS
 |.exc i h=>(OS.d9 h[i]?).bind λd=>bO (bf (d.1=84)) (h.take 2)|_=>ae
theorem aP2{a:cj}{T:List bB}{o:W->List W->HS->Option (RS W)}{p m:Nat}{f:W}{r:List W}{t:V}{u k:List V}
  (B:jr a) (C:60<=b) (D:1<=p) (E:∀n,p<=n->oB (jw a k) T o (call prog c b n)) (l:Mn (cY T prog o 60 60 60 m f r (ac 0) fF)=ac fF)
  (F:cV (jw a k) T f=ac t) (G:bW (jw a k) T r=ac u) {n:Nat} (I:p+m<=n) {h:H} {j:Nat} (J:oC h j k):
  ∃g i d s,call prog c b n t u (ac j) h=.exc i (h++g)/\(h++g)[i]?=ac (.exc 84 d s):=
 iP J λd v w x y=>by
  have q:=ub (a:=jw a k) B C D E F G I ⟨[j,d],h,fF,M' v w x y⟩ (.at_ (i:=0) rfl)
  induction e:cY T prog o 60 60 60 m f r (ac 0) fF using RS.casesOn with
  |exc i z1=>
   rw[e]at q l;exact aC l λs L e=>cb e λM N=>ch q.l0 λs' P Q z S U=>ak (te (z▸L) U) λY h7 Z=>am (MY v w x y Q (z▸N)) λz0 A=>Nm z0 P Y s.2.2 (A▸S) (by rw[<-A,h7,of_decide_eq_true M])
  |_=>rw[e]at l;exact nomatch l
end
end
section
def kF(d:Option Nat)(h:H):Prop:=match d with
 |none=>True|some a=>∃g,oC h a g
theorem cQ{a:Type}{h y:List a}{u:Nat}{w:a}(e:h[u]?=ac w):(h++y)[u]?=ac w:=by
 refine am (List.getElem?_eq_some_iff.mp e) λx z=>?_;subst z;rw[gI x,nU x]
theorem oC.app{h u:H}{a:Nat}{g:List V}(x:oC h a g):oC (h++u) a g:=by
 refine iP x λw y z A B=>?_;exact jW w y (cQ z) (cQ A) B
theorem dj.app{a:Nat}{h w:H}{u:Nat}{g:List V}(x:dj a h u g):dj a (h++w) u g:=by
 refine mE x λy f b z A B a=>?_;exact tB y f b z (cQ A) (cQ B) a
theorem kF.app(x:kF d h):kF d (h++a):=by
 cases d with
 |none=>trivial|some u=>refine am x λg x=>?_;exact⟨g,x.app⟩
theorem kF.free(x:kF d h):dQ d h=af:=by
 cases d with
 |none=>rfl|some u=>refine ch x λg w y a z A=>?_;unfold dQ;dsimp only;rw[a]
def bU(C:bc)(d:Option Nat)(a:aj)(u:List V)(v:V):Prop:=∀h,kF d h->∃w,C (.m (.ref a)) u d h=.ok v (h++w)
theorem kO:gj h (.str f) (.str b)=ac (f==b):=by
 unfold gj;dsimp only;rfl
theorem hP:gj h (.a f) (.a b)=ac (f==b):=by
 unfold gj;dsimp only;rfl
theorem No:lA (.str [c]) [.str [10],.str [59]]=ac (c==10||c==59):=by
 have e:∀f:Nat,([f]==[c])=(c==f):=λf=>by rw[List.cons_beq_cons,BEq.comm (a:=f)];exact Bool.and_true _
 show ac (([10]==[c])||(([59]==[c])||false))=_;rw[e,e,Bool.or_false]
theorem jX{t:List Nat}{s c:Nat}{h:H}(e:t[s]?=ac c):cH h (.str t) (.a (s:Int))=ac (.str [c]):=by
 unfold cH;dsimp only;rw[if_pos (ku s),pD,e];rfl
def IG(t:List Nat)(s r:Nat):Prop:=(t.length<=s/\r=t.length)\/∃c,t[s]?=ac c/\(c=10\/c=59)/\r=s+1
section
variable(C:bc)(d:Option Nat)(t:List Nat)(b:Bool)
def UQ(P:Nat->List V->Nat->Nat->Prop):Prop:=(∀{p e s r:Nat} {v:V},bU C d 314 [.str t,.a p,.j b] (.tup [v,.a e])->bU C d 244 [.str t,.a e] (.a s)->IG t s r->P p [v] e r)/\(∀{p e s a r c:Nat} {v:V} {u:List V},bU C d 314 [.str t,.a p,.j b] (.tup [v,.a e])->bU C d 244 [.str t,.a e] (.a s)->t[s]?=ac c->c≠10->c≠59->c≠93->s≠e->P s u a r->P p (v::u) a r)
def lP(a:Nat)(u:List V)(w:Nat)(x:Nat):Prop:=∀P,UQ C d t b P->P a u w x
section
variable{C d t b}
theorem lP.f9{p e s r:Nat}{v:V}(a:bU C d 314 [.str t,.a p,.j b] (.tup [v,.a e]))(j:bU C d 244 [.str t,.a e] (.a s))(q:IG t s r):lP C d t b p [v] e r:=λP c=>c.1 a j q
theorem lP.more{p e s a r c:Nat}{v:V}{u:List V}(w:bU C d 314 [.str t,.a p,.j b] (.tup [v,.a e]))(j:bU C d 244 [.str t,.a e] (.a s))(q:t[s]?=ac c)(i:c≠10)(x:c≠59)(y:c≠93)(z:s≠e)(A:lP C d t b s u a r):lP C d t b p (v::u) a r:=λP c=>c.2 w j q i x y z (A P c)
end
end
noncomputable def yZ:List St:=jJ (vq.body.getD 5 .b9)
section
variable{k:aj->Option (List Int)}{C:bc}{d:Option Nat}{t:List Nat}{b:Bool}
theorem Qd{a:Type}{h u:List a}{f:Nat}{w:a}(x:h.length<=f):(h++u).set f w=h++u.set (f-h.length) w:=by
 rw[HJ _ _ x]
theorem vN(u:∀a h,C (.m (.builtin "list.append")) a d h=dX prog d h (.builtin "list.append") a)(e:h[f]?=ac (.list g))(w:g.length<big):C (.m (.builtin "list.append")) [.obj f,v] d h=.ok .none (h.set f (.list (g++[v]))):=by
 rw[u,Vz];show hX (λx=>tG h f x [v]) h[f]?=_;rw[e];exact if_pos w
theorem a73(u:∀a h,C (.m (.type "tuple")) a d h=dX prog d h (.type "tuple") a)(e:h[f]?=ac (.list g)):C (.m (.type "tuple")) [.obj f] d h=.ok (.tup g) h:=by
 rw[u,VL e]
theorem nF(e:h[f]?=ac (.list g)):fV prog (.obj f) s!"append" h=ac (.builtin "list.append",[.obj f]):=by
 unfold fV;dsimp only;rw[e];rfl
end
section
variable{P:aZ}{k:aj->Option (List Int)}{C:bc}{d:Option Nat}{z4 z0:Nat}{c:Ex}{b:List St}{l:av}{h j:H}{v:V}{r:Mine.Internal.X}
noncomputable def kH(P:aZ)(k:aj->Option (List Int))(C:bc)(d:Option Nat)(z4:Nat)(c:Ex)(b:List St)(z0:Nat)(l:av)(h:H):Mine.Internal.X:=py (λl h=>ev P k C d l c h) (λl h=>aJ P k C z4 b l h d) z0 l h
theorem pe(a:ev P k C d l c h=.ok v j)(u:aA j v=ac af)(w:aJ P k C z4 b l j d=r):kH P k C d z4 c b (z0+1) l h=nO r λl h=>kH P k C d z4 c b z0 l h:=by
 show aO (ev P k C d l c h) l _=_;rw[a];subst w;show(match aA j v with|some af=>_|some ag=>_|none=>_)=_;rw[u];rfl
theorem AY(a:ev P k C d l c h=.ok v j)(u:aA j v=ac ag):kH P k C d z4 c b (z0+1) l h=ac (.next,l,j):=by
 show aO (ev P k C d l c h) l _=_;rw[a];show(match aA j v with|some af=>_|some ag=>_|none=>_)=_;rw[u]
theorem ux(a:dQ d h=af)(u:fY w x l=ac y):jj d w l (.tup x) h=ac (.next,y,h):=(if_pos a).trans (by rw[u];rfl)
end
section
variable{k:aj->Option (List Int)}{C:bc}{d:Option Nat}{t:List Nat}{b:Bool}{h j q i:H}{f z3:Nat}{m o p e s c:Nat}{g:List V}{v:V}{z1 z2 n:Option V}
noncomputable def jb(t:List Nat)(m:Nat)(b:Bool)(o f:Nat)(p:Int)(z1 z2 n:Option V):av:=[ac (.str t),ac (.a m),ac (.j b),ac (.a o),ac (.a t.length),ac (.obj f),ac (.a p),z1,z2,n]
theorem Xo(u:C (.m (.ref 314)) [.str t,.a p,.j b] d h=.ok (.tup [v,.a e]) j)(w:dQ d j=af)(x:j[f]?=ac (.list g))(y:C (.m (.builtin "list.append")) [.obj f,v] d j=.ok .none q)(z:C (.m (.ref 244)) [.str t,.a e] d q=.ok (.a s) i)
  (A:(t.length:Int)<=s) (B:C (.m (.type "tuple")) [.obj f] d i=.ok (.tup a) i):aJ prog k C z3 yZ (jb t m b o f p z1 z2 n) h d=ac (.B (.tup [.tup a,.a o,.a e,.a t.length]),jb t m b o f s (ac v) (ac (.a e)) n,i):=
 be [.r (.ok (.tup [v,.a e]) j),.x (ac (.next,jb t m b o f p (ac v) (ac (.a e)) n,j)),.g (.builtin "list.append") [.obj f],.r (.ok .none q),.r (.ok (.a s) i),.b af,.b af,.r (.ok (.tup a) i)]
  (nk u (ux (l:=jb t m b o f p z1 z2 n) (w:=[7,8]) (x:=[v,.a e]) w rfl) (nF x) y z (congrArg ac (decide_eq_true A)) (rfl:aA i (.j af)=ac af) B trivial) (by kernel_rfl)
theorem Xr{a:List V}(w:C (.m (.ref 314)) [.str t,.a p,.j b] d h=.ok (.tup [v,.a e]) j)(x:dQ d j=af)(y:j[f]?=ac (.list g))(z:C (.m (.builtin "list.append")) [.obj f,v] d j=.ok .none q)(A:C (.m (.ref 244)) [.str t,.a e] d q=.ok (.a s) i)
  (u:t[s]?=ac c) (B:(c==10||c==59)=af) (D:C (.m (.type "tuple")) [.obj f] d i=.ok (.tup a) i):aJ prog k C z3 yZ (jb t m b o f p z1 z2 n) h d=ac (.B (.tup [.tup a,.a o,.a e,.a (s+1:Nat)]),jb t m b o f s (ac v) (ac (.a e)) n,i):=
 be [.r (.ok (.tup [v,.a e]) j),.x (ac (.next,jb t m b o f p (ac v) (ac (.a e)) n,j)),.g (.builtin "list.append") [.obj f],.r (.ok .none q),.r (.ok (.a s) i),.b ag,.b ag,.v (.str [c]),.b af,.b af,.r (.ok (.tup a) i),.r (.ok (.a (s+1)) i)]
  (AI w (ux (l:=jb t m b o f p z1 z2 n) (w:=[7,8]) (x:=[v,.a e]) x rfl) (nF y) z A (congrArg ac (decide_eq_false (show¬((t.length:Int)<=s) by have:=(List.getElem?_eq_some_iff.mp u).1;lia))) (rfl:aA i (.j ag)=ac ag) (jX (h:=i) u) ((No (c:=c)).trans (congrArg ac B)) (rfl:aA i (.j af)=ac af) D (rfl:bZ .Add (.a s) (.a 1) i=.ok (.a (s+1)) i) trivial) (by kernel_rfl)
theorem Xn(a:t[s]?=ac c)(u:([c]==[93])=ag):ev prog k C d (jb t m b o f s z1 z2 n) (.d6 .And [.loc 2,.Q (.t (.loc 0) (.loc 6)) .Eq (.str [93])]) h=.ok (.j ag) h:=by
 induction b using Bool.casesOn
 ·exact hY [.s,.b ag] (jm (rfl:aA h (.j ag)=ac ag) trivial) (by kernel_rfl)
 ·exact hY [.s,.b af,.v (.str [c]),.b ag] (dE (rfl:aA h (.j af)=ac af) (jX (h:=h) a) ((kO (h:=h)).trans (congrArg ac u)) trivial) (by kernel_rfl)
theorem Xq(u:C (.m (.ref 314)) [.str t,.a p,.j b] d h=.ok (.tup [v,.a e]) j)(w:dQ d j=af)(x:j[f]?=ac (.list g))(y:C (.m (.builtin "list.append")) [.obj f,v] d j=.ok .none q)(z:C (.m (.ref 244)) [.str t,.a e] d q=.ok (.a s) i)
  (a:t[s]?=ac c) (A:(c==10||c==59)=ag) (B:([c]==[93])=ag) (D:((s:Int)==(e:Int))=ag):aJ prog k C z3 yZ (jb t m b o f p z1 z2 n) h d=ac (.next,jb t m b o f s (ac v) (ac (.a e)) n,i):=
 be [.r (.ok (.tup [v,.a e]) j),.x (ac (.next,jb t m b o f p (ac v) (ac (.a e)) n,j)),.g (.builtin "list.append") [.obj f],.r (.ok .none q),.r (.ok (.a s) i),.b ag,.b ag,.v (.str [c]),.b ag,.b ag,.e (.ok (.j ag) i),.b ag,.b ag,.b ag]
  (Fc u (ux (l:=jb t m b o f p z1 z2 n) (w:=[7,8]) (x:=[v,.a e]) w rfl) (nF x) y z (congrArg ac (decide_eq_false (show¬((t.length:Int)<=s) by have:=(List.getElem?_eq_some_iff.mp a).1;lia))) (rfl:aA i (.j ag)=ac ag) (jX (h:=i) a) ((No (c:=c)).trans (congrArg ac A)) (rfl:aA i (.j ag)=ac ag) (Xn (k:=k) (C:=C) (d:=d) (m:=m) (b:=b) (o:=o) (f:=f) (z1:=ac v) (z2:=ac (.a e)) (n:=n) (h:=i) a B) (rfl:aA i (.j ag)=ac ag) ((hP (h:=i)).trans (congrArg ac D)) (rfl:aA i (.j ag)=ac ag) trivial) (by kernel_rfl)
def IE(k:aj->Option (List Int))(z3:Nat)(C:bc)(d:Option Nat)(t:List Nat)(b:Bool)(m u p:Nat)(a:List V)(e r:Nat):Prop:=∀(z0:Nat) (g:List V) (z1 z2 n:Option V) (h w:H) (f:Nat),a.length<z0->g.length+a.length<big->kF d h->h.length<=f->(h++w)[f]?=ac (.list g)->
  ∃x y,kH prog k C d z3 (.j af) yZ z0 (jb t m b u f p z1 z2 n) (h++w)=ac (.B (.tup [.tup (g++a),.a u,.a e,.a r]),x,h++y)
theorem Ym{z3:Nat}{m T:Nat}(U:∀Y w h,C (.m (.builtin Y)) w d h=dX prog d h (.builtin Y) w)(hT:∀w h,C (.m (.type "tuple")) w d h=dX prog d h (.type "tuple") w){p:Nat}{N:List V}{e r:Nat}(hw:lP C d t b p N e r):IE k z3 C d t b m T p N e r:=by
 refine hw (IE k z3 C d t b m T) ⟨λ{p e s r v} j q i=>?_,λ{p e s e' r c v N} j q i n1 n2 n3 n4 F=>?_⟩
 ·intro z0 g z1 z2 n h a f D G x I Q
  cases z0 with
  |zero=>exact absurd D (fw _)|succ z0=>
  refine am (j (h++a) x.app) λu J=>?_;have y:(h++a++u)[f]?=ac (.list g):=cQ Q;have E:(h++a++u).set f (.list (g++[v]))=h++(a++u).set (f-h.length) (.list (g++[v])):=by rw[bt,Qd I]
  refine am (q (h++(a++u).set (f-h.length) (.list (g++[v]))) x.app) λL M=>?_;have B:=vN (C:=C) (d:=d) (v:=v) (λw h=>U _ w h) y (pN (dm _ _) G);rw[E]at B;have Z:dQ d (h++a++u)=af:=((x.app (a:=a)).app (a:=u)).free;have S:f<(h++a++u).length:=(List.getElem?_eq_some_iff.mp y).1;have A:(h++(a++u).set (f-h.length) (.list (g++[v]))++L)[f]?=ac (.list (g++[v])):=cQ (by rw[<-E,ig S]);have A:=a73 hT A;refine i.elim (λz=>?_) λz=>?_
  ·refine aP z λi z=>?_;subst z;exact fq _ _ ((pe rfl rfl (Xo J Z y B M (by lia) A)).trans (by rw[bt];rfl))
  ·refine bP z λc h5 h4 z=>?_;subst z;exact fq _ _ ((pe rfl rfl (Xr J Z y B M h5 (by rw[lC,beq_iff_eq,beq_iff_eq];exact h4:(c==10||c==59)=true) A)).trans (by rw[bt];rfl))
 ·intro z0 g z1 z2 n h a f D G x I Q
  cases z0 with
  |zero=>exact absurd D (fw _)|succ z0=>
  refine am (j (h++a) x.app) λu J=>?_;have y:(h++a++u)[f]?=ac (.list g):=cQ Q;have E:(h++a++u).set f (.list (g++[v]))=h++(a++u).set (f-h.length) (.list (g++[v])):=by rw[bt,Qd I]
  refine am (q (h++(a++u).set (f-h.length) (.list (g++[v]))) x.app) λL M=>?_;rw[rS]at D G;have B:=vN (C:=C) (d:=d) (v:=v) (λw h=>U _ w h) y (pN (dm _ _) G);rw[E]at B;have S:f<(h++a++u).length:=(List.getElem?_eq_some_iff.mp y).1;have A:(h++(a++u).set (f-h.length) (.list (g++[v]))++L)[f]?=ac (.list (g++[v])):=cQ (by rw[<-E,ig S]);rw[pe rfl rfl (Xq J (((x.app (a:=a)).app (a:=u)).free:dQ d (h++a++u)=af) y B M i (by simp[n1,n2]) (by simp[n3]) (beq_eq_false_iff_ne.mpr (by lia)))];rw[bt h]at A⊢;have F:=F z0 (g++[v]) (ac v) (ac (.a e)) n h ((a++u).set (f-h.length) (.list (g++[v]))++L) f (nZ D) (by rw[aU,List.length_singleton];lia) x I A;rw[bt g,List.singleton_append]at F;exact F
end
end
section
section
variable{a:aj->Option (List Int)}{b:Nat}
theorem lS:call prog a b (n+1) (.m (.builtin f)) c d h=dX prog d h (.builtin f) c:=yS λe z=>nomatch z
theorem XN:call prog a b (n+1) (.m (.type "tuple")) c d h=dX prog d h (.type "tuple") c:=yS λe z=>nomatch z
theorem cX(e:prog.fn f=ac F)(g:fS F c=ac i):call prog a b (n+1) (.m (.ref f)) c d h=bY (aJ prog a (call prog a b n) b F.body i h d):=by
 rw[JY];unfold BE;rw[e];show sL prog a (call prog a b n) b F c d h=_;unfold sL;rw[g]
theorem gT:call prog a b (n+1) (.m (.builtin "len")) [.str s] c h=.ok (.a s.length) h:=by
 rw[lS,VG]
theorem MA:prog.fn 322=ac vq:=by kernel_rfl
theorem Jv(h:c=[.str t,.a r,.j d]\/(d=ag/\c=[.str t,.a r])):fS vq c=ac [ac (.str t),ac (.a r),ac (.j d),ae,ae,ae,ae,ae,ae,ae]:=by
 rcases h with rfl|⟨rfl,rfl⟩<;>rfl
theorem Xp{C:bc}{a:aj->Option (List Int)}{e:Option Nat}{t:List Nat}{d:Bool}{h:H}{r p c:Nat}(f:t[p]?=ac c)(g:([c]==[93])=ag):ev prog a C e [ac (.str t),ac (.a r),ac (.j d),ac (.a p),ac (.a t.length),ae,ae,ae,ae,ae] (.d6 .And [.loc 2,.Q (.t (.loc 0) (.loc 3)) .Eq (.str [93])]) h=.ok (.j ag) h:=by
 induction d using Bool.casesOn
 ·exact hY [.s,.b ag] (jm (rfl:aA h (.j ag)=ac ag) trivial) (by kernel_rfl)
 ·exact hY [.s,.b af,.v (.str [c]),.b ag] (dE (rfl:aA h (.j af)=ac af) (jX (h:=h) f) ((kO (h:=h)).trans (congrArg ac g)) trivial) (by kernel_rfl)
theorem Yt{n:Nat}{i:Option Nat}{t:List Nat}{k:Bool}{r p e l c:Nat}{d j:List V}(v:bU (call prog a b (n+1)) i 258 [.str t,.a r] (.a p))(o:t[p]?=ac c)(w:c≠93)
  (x:lP (call prog a b (n+1)) i t k p d e l) (y:d.length<b) (A:d.length<1000) (B:j=[.str t,.a r,.j k]\/(k=ag/\j=[.str t,.a r])):bU (call prog a b (n+2)) i 322 j (.tup [.tup d,.a p,.a e,.a l]):=by
 intro h q;rw[cX MA (Jv B)];refine am (v h q) λg C=>?_;have D:(h++(g++[O.list []]))[(h++g).length]?=ac (.list []):=by rw[<-bt,fM (bI _),gJ];rfl
 refine eH (Ym (k:=a) (z3:=b) (m:=r) (T:=p) (λf j h=>lS) (λj h=>XN) x b [] ae ae ae h (g++[.list []]) (h++g).length y (by rw[nW,jo];exact mJ A (by decide)) q (by rw[aU];exact dm _ _) D) λs m u=>?_;rw[<-bt,pH]at u;refine⟨m,congrArg bY (be (g:=vq.body) (r:=ac (.B (.tup [.tup d,.a p,.a e,.a l]),s,h++m)) [.r (.ok (.a p) (h++g)),.r (.ok (.a t.length) (h++g)),.s,.b ag,.b ag,.e (.ok (.j ag) (h++g)),.b ag,.x (ac (.B (.tup [.tup d,.a p,.a e,.a l]),s,h++m))]
  (wm C (gT (a:=a) (b:=b) (n:=n) (s:=t) (c:=i) (h:=h++g)) (congrArg ac (decide_eq_false (show¬((t.length:Int)<=p) by have:=(List.getElem?_eq_some_iff.mp o).1;lia))) (rfl:aA (h++g) (.j ag)=ac ag) (Xp (a:=a) (C:=call prog a b (n+1)) (e:=i) (d:=k) (h:=h++g) (r:=r) o (beq_eq_false_iff_ne.mpr λz=>w (rR z).1)) (rfl:aA (h++g) (.j ag)=ac ag) u trivial) (by kernel_rfl))⟩
theorem Ea{p:Nat}(f:bU (call prog a b (n+1)) c 258 [.str t,.a r] (.a p))(l:t.length<=p)
  (i:d=[.str t,.a r,.j e]\/(e=ag/\d=[.str t,.a r])):bU (call prog a b (n+2)) c 322 d .none:=by
 intro h j;rw[cX MA (Jv i)];refine am (f h j) λg k=>⟨g,congrArg bY (be (r:=ac (.B .none,[ac (.str t),ac (.a r),ac (.j e),ac (.a p),ac (.a t.length),ae,ae,ae,ae,ae],h++g)) [.r (.ok (.a p) (h++g)),.r (.ok (.a t.length) (h++g)),.s,.b af,.b af,.b af]
  (kP k (gT (a:=a) (b:=b) (n:=n) (s:=t) (c:=c) (h:=h++g)) (congrArg ac (decide_eq_true (show(t.length:Int)<=p by lia))) (rfl:aA (h++g) (.j af)=ac af) (rfl:aA (h++g) (.j af)=ac af) trivial) (by kernel_rfl))⟩
end
end
section
def qb(C:bc)(k:aj)(l:List V)(m:List V):Prop:=∀h,∃j i x,C (.m (.ref k)) l ae h=.exc i (h++j)/\dj h.length (h++j) i (m++[.obj x])
def Tw(C:bc)(t:List Nat)(P:Nat->Nat->Nat->Prop):Prop:=(∀{p:Nat},P 0 p p)/\(∀{k p i q j l m r:Nat} {n:V},t[p]?=ac j->j≠93->bU C ae 322 [.str t,.a p,.j af] (.tup [n,.a l,.a m,.a r])->bU C ae 258 [.str t,.a r] (.a i)->P k i q->P (k+1) p q)
def mN(C:bc)(t:List Nat)(i:Nat)(j:Nat)(k:Nat):Prop:=∀P,Tw C t P->P i j k
theorem mN.nil:mN C t 0 p p:=λP i=>i.1
theorem mN.cons{C:bc}{t:List Nat}{k p j q i l m r:Nat}{n:V}(o:t[p]?=ac i)(s:i≠93)(u:bU C ae 322 [.str t,.a p,.j af] (.tup [n,.a l,.a m,.a r]))(v:bU C ae 258 [.str t,.a r] (.a j))(w:mN C t k j q):mN C t (k+1) p q:=λP i=>i.2 o s u v (w P i)
noncomputable def yQ:Ex:=xw (si.body.getD 2 .b9)
noncomputable def yP:List St:=jJ (si.body.getD 2 .b9)
section
variable{b:aj->Option (List Int)}{a:Nat}{t:List Nat}{g:Option Nat}
theorem wy:cH h (.tup [j,k,l,i]) (.a 3)=ac i:=rfl
theorem NG:cH h (.tup [j,k,i,l]) (.a 2)=ac i:=rfl
theorem Oo{s:Nat}{i:Nat}(j:t[s]?=ac i):bf ((s:Int)<(t.length:Int))=af:=decide_eq_true (by have:=(List.getElem?_eq_some_iff.mp j).1;lia)
noncomputable def iZ(t:List Nat)(d e:V)(p:Int)(c f:Option V):av:=[ac (.str t),ac d,ac e,ac (.a p),c,f]
section
variable{C:bc}{d e:V}{c f:Option V}{h:H}
theorem Jp{q i:Nat}(k:∀s h,C (.m (.builtin "len")) [.str s] ae h=.ok (.a s.length) h)(j:t[q]?=ac i)(l:i≠93):ev prog b C ae (iZ t d e q c f) yQ h=.ok (.j af) h:=
 hY [.s,.r (.ok (.a t.length) h),.b af,.b af,.v (.str [i]),.b af] (kP (k t h) (congrArg ac (Oo j)) (rfl:aA h (.j af)=ac af) (jX (h:=h) j) (congrArg (eJ (!·)) ((kO (h:=h)).trans (congrArg ac (show([i]==[93])=ag from beq_eq_false_iff_ne.mpr λz=>l (rR z).1)))) trivial) (by kernel_rfl)
theorem VI(i:∀s h,C (.m (.builtin "len")) [.str s] ae h=.ok (.a s.length) h)(j:t.length<=q):ev prog b C ae (iZ t d e q c f) yQ h=.ok (.j ag) h:=
 hY [.s,.r (.ok (.a t.length) h),.b ag,.b ag] (dE (i t h) (congrArg ac (decide_eq_false (show¬((q:Int)<(t.length:Int)) by lia))) (rfl:aA h (.j ag)=ac ag) trivial) (by kernel_rfl)
theorem VA(o:C (.m (.ref 322)) [.str t,.a p,.j af] ae h=.ok (.tup [i,.a j,.a k,.a r]) l)(q:C (.m (.ref 258)) [.str t,.a r] ae l=.ok (.a m) n):
  aJ prog b C a yP (iZ t d e p c f) h ae=ac (.next,iZ t d e m (ac (.tup [i,.a j,.a k,.a r])) f,n):=
 be [.r (.ok (.tup [i,.a j,.a k,.a r]) l),.v (.a r),.r (.ok (.a m) n)] (dE o (wy (h:=l) (j:=i) (k:=.a j) (l:=.a k) (i:=.a r)) q trivial) (by kernel_rfl)
theorem VC(k:C (.m (.ref 322)) [.str t,.a p,.j af] ae h=.exc i j):aJ prog b C a yP (iZ t d e p c f) h ae=ac (.exc i,iZ t d e p c f,j):=
 be [.r (.exc i j)] (jm k trivial) (by kernel_rfl)
end
def ID(b:aj->Option (List Int))(a:Nat)(C:bc)(t:List Nat)(d e:V)(k p q:Nat):Prop:=∀(N:Nat) (c f:Option V) (h:H),∃i j,
  kH prog b C ae a yQ yP (N+k) (iZ t d e p c f) h=kH prog b C ae a yQ yP N (iZ t d e q i f) (h++j)
theorem JD{C:bc}(m:∀s h,C (.m (.builtin "len")) [.str s] ae h=.ok (.a s.length) h){d e:V}{k p q:Nat}(n:mN C t k p q):ID b a C t d e k p q:=by
 refine n (ID b a C t d e) ⟨@λp N c f h=>(fq c [] (by rw[cR];rfl)),λ{k p F q G o u r v} w x y z i=>?_⟩
 ·intro N c f h;refine am (y h trivial) λj A=>am (z (h++j) trivial) λl B=>eH (i N (ac (.tup [v,.a o,.a u,.a r])) f (h++j++l)) λD E i=>?_;exact fq D (j++l++E) ((pe (z0:=N+k) (Jp m w x) rfl (VA A B)).trans (i.trans (by rw[<-bt,<-bt])))
theorem Mz:prog.fn 279=ac si:=by kernel_rfl
theorem WR{n:Nat}{j k p q r:Nat}{s:List V}(w:bU (call prog b a (n+1)) ae 258 [.str t,.a (j+1:Nat)] (.a p))(y:mN (call prog b a (n+1)) t k p q)(u:k<a)
  (z:t[q]?=ac r) (A:r≠93) (B:qb (call prog b a (n+1)) 322 [.str t,.a q,.j af] s):qb (call prog b a (n+2)) 279 [.str t,.a j] s:=by
 intro h;rw[cX Mz (i:=[ac (.str t),ac (.a j),ae,ae,ae,ae]) rfl];refine am (w h trivial) λl D=>?_;refine eH (JD (b:=b) (a:=a) (C:=call prog b a (n+1)) (d:=.a j) (e:=.a (j+1:Nat)) (λG G=>gT) y (a-k) ae ae (h++l)) λc m v=>?_;refine gY (B (h++l++m)) λo i x E F=>?_;rw[xS (pM u),show a-k=(a-k-1)+1 from(xS (bh4 u)).symm]at v;refine kQ (l++m++o) i x ?_ (by rw[<-bt,<-bt];exact F.mono (by rw[aU,aU,iS];exact dm _ _));rw[<-bt,<-bt];exact congrArg bY (be (g:=si.body) (r:=ac (.exc i,iZ t (.a j) (.a (j+1:Nat)) q c ae,h++l++m++o)) [.r (.ok (.a (j+1:Nat)) h),.r (.ok (.a p) (h++l)),.x (ac (.exc i,iZ t (.a j) (.a (j+1:Nat)) q c ae,h++l++m++o))]
  (dE (rfl:bZ .Add (.a j) (.a 1) h=.ok (.a (j+1:Nat)) h) D (v.trans (pe (Jp (λG G=>gT) z A) rfl (VC E))) trivial) (by kernel_rfl))
noncomputable def rp:List Nat:=s!"missing close-bracket"
noncomputable def qP(i:List Nat):List V:=[.a 1,.str i,.tup [.str s!"NONE"],.a 0,.a 0,.str [],.j ag,.a 0]
noncomputable def EH(i:List Nat):List W:=[.a 1,.str i,.tup [.str s!"NONE"],.a 0,.a 0,.str [],.j ag,.a 0]
theorem EI(j:cj)(T:List bB)(i:List Nat):bW j T (EH i)=ac (qP i):=rfl
noncomputable def fI:cj:=⟨λi=>[],λi=>0,λi=>[],λi=>.none⟩
theorem FX:jr fI:=λi=>gb _
theorem ZB:Mp (cY [] prog gn 60 60 60 9 (.m (.ref 139)) [.str rp] ae [])=ac (ag,EH rp):=by kernel_rfl
theorem yY:((prog.cls 84).any (·.isExc))=af:=by kernel_rfl
theorem aN0(r:oC h i m):pk prog ae j (.obj i) h=ac (.exc i,j,h):=by
 refine iP r λo n k p l=>?_;unfold pk;dsimp only;rw[k];dsimp only;rw[yY];rfl
theorem ZA(k:60<=a)(l:10<=n)(h:H):∃j i x,call prog b a n (.m (.ref 139)) [.str rp] ae h=.ok (.obj i) (h++j)/\dj h.length (h++j) i (qP rp++[.obj x]):=
 aP3 FX k (bI 1) (λm m=>kZ) ZB rfl rfl (EI fI [] rp) l h
theorem JC(v:60<=a){n:Nat}(w:9<=n){j k p q:Nat}(y:bU (call prog b a (n+1)) ae 258 [.str t,.a (j+1:Nat)] (.a p))(z:mN (call prog b a (n+1)) t k p q)(r:k<a)
  (A:t.length<=q):qb (call prog b a (n+2)) 279 [.str t,.a j] (qP rp):=by
 intro h;rw[cX Mz (i:=[ac (.str t),ac (.a j),ae,ae,ae,ae]) rfl];refine am (y h trivial) λl B=>?_;refine eH (JD (b:=b) (a:=a) (C:=call prog b a (n+1)) (d:=.a j) (e:=.a (j+1:Nat)) (λE E=>gT) z (a-k) ae ae (h++l)) λc m s=>?_;refine gY (ZA (b:=b) v (n:=n+1) (uV w) (h++l++m)) λo i x D u=>?_;rw[xS (pM r),show a-k=(a-k-1)+1 from(xS (bh4 r)).symm]at s;refine kQ (l++m++o) i x ?_ (by rw[<-bt,<-bt];exact u.mono (by rw[aU,aU,iS];exact dm _ _));rw[<-bt,<-bt];exact congrArg bY (be (g:=si.body) (r:=ac (.exc i,iZ t (.a j) (.a (j+1:Nat)) q c ae,h++l++m++o)) [.r (.ok (.a (j+1:Nat)) h),.r (.ok (.a p) (h++l)),.x (ac (.next,iZ t (.a j) (.a (j+1:Nat)) q c ae,h++l++m)),.r (.ok (.a t.length) (h++l++m)),.b af,.b af,.r (.ok (.obj i) (h++l++m++o)),.x (ac (.exc i,iZ t (.a j) (.a (j+1:Nat)) q c ae,h++l++m++o))]
  (nk (rfl:bZ .Add (.a j) (.a 1) h=.ok (.a (j+1:Nat)) h) B (s.trans (AY (VI (λE E=>gT) A) rfl)) (gT (a:=b) (b:=a) (n:=n) (s:=t) (c:=ae) (h:=h++l++m)) (congrArg ac (decide_eq_true (show(t.length:Int)<=q by lia))) (rfl:aA (h++l++m) (.j af)=ac af) D (aN0 (j:=iZ t (.a j) (.a (j+1:Nat)) q c ae) u.at_) trivial) (by kernel_rfl))
end
end
section
def yn(C:bc)(a:Option Nat)(u:aj)(v:List V):Prop:=∀h,kF a h->∃p i w x,C (.m (.ref u)) v a h=.exc i (h++p)/\(h++p)[i]?=ac (.exc 84 w x)
def UE(C:bc)(a:Option Nat)(t:List Nat)(P:Nat->Nat->V->Nat->Prop):Prop:=(∀{r:Nat},P 0 r .none r)/\(∀{r b e c s:Nat} {j:V},bU C a 244 [.str t,.a e] (.a s)->c<=s->P 0 r (.tup [j,.a b,.a e,.a c]) r)/\(∀{r b e c s:Nat} {j:V},bU C a 244 [.str t,.a e] (.a s)->s<c->yn C a 322 [.str t,.a c,.j af]->P 0 r (.tup [j,.a b,.a e,.a c]) c)/\(∀{i r b e c s q:Nat} {j k:V},bU C a 244 [.str t,.a e] (.a s)->s<c->bU C a 322 [.str t,.a c,.j af] k->P i c k q->P (i+1) r (.tup [j,.a b,.a e,.a c]) q)
def PA(C:bc)(a:Option Nat)(t:List Nat)(i:Nat)(p:Nat)(u:V)(v:Nat):Prop:=∀P,UE C a t P->P i p u v
theorem PA.none:PA C a t 0 r .none r:=λP p=>p.1
theorem PA.j5{C:bc}{a:Option Nat}{t:List Nat}{r b e c s:Nat}{j:V}(p:bU C a 244 [.str t,.a e] (.a s))(f:c<=s):PA C a t 0 r (.tup [j,.a b,.a e,.a c]) r:=λP u=>u.2.1 p f
theorem PA.i{C:bc}{a:Option Nat}{t:List Nat}{r b e c s:Nat}{j:V}(p:bU C a 244 [.str t,.a e] (.a s))(f:s<c)(u:yn C a 322 [.str t,.a c,.j af]):PA C a t 0 r (.tup [j,.a b,.a e,.a c]) c:=λP v=>v.2.2.1 p f u
theorem PA.more{C:bc}{a:Option Nat}{t:List Nat}{p r b e c s q:Nat}{j k:V}(v:bU C a 244 [.str t,.a e] (.a s))(f:s<c)(w:bU C a 322 [.str t,.a c,.j af] k)(x:PA C a t p c k q):PA C a t (p+1) r (.tup [j,.a b,.a e,.a c]) q:=λP u=>u.2.2.2 v f w (x P u)
noncomputable def By:Ex:=xw ((jJ (qg.body.getD 1 .b9)).getD 1 .b9)
noncomputable def Bw:List St:=jJ ((jJ (qg.body.getD 1 .b9)).getD 1 .b9)
section
variable{l:aj->Option (List Int)}{m:Nat}{t:List Nat}{a:Option Nat}
noncomputable def kf(t:List Nat)(n k:V)(r:Int)(g:Option V):av:=[ac (.str t),ac n,ac (.a r),ac k,g]
section
variable{C:bc}{n:V}{g:Option V}{h f:H}{r b e c s:Nat}{j:V}
theorem aF6:ev prog l C a (kf t n .none r g) By h=.ok (.j ag) h:=
 hY [.s,.b ag,.b ag] (dc (rfl:aQ .IsNot .none .none h=ac ag) (rfl:aA h (.j ag)=ac ag) trivial) (by kernel_rfl)
theorem Gq(i:Bool)(p:C (.m (.ref 244)) [.str t,.a e] a h=.ok (.a s) f)(u:bf ((s:Int)<(c:Int))=i):ev prog l C a (kf t n (.tup [j,.a b,.a e,.a c]) r g) By h=.ok (.j i) f:=by
 induction i using Bool.casesOn
 ·exact hY [.s,.b af,.b af,.v (.a e),.r (.ok (.a s) f),.v (.a c),.b ag] (nj (rfl:aQ .IsNot (.tup [j,.a b,.a e,.a c]) .none h=ac af) (rfl:aA h (.j af)=ac af) (NG (h:=h) (j:=j) (k:=.a b) (i:=.a e) (l:=.a c)) p (wy (h:=f) (j:=j) (k:=.a b) (l:=.a e) (i:=.a c)) (congrArg ac u) trivial) (by kernel_rfl)
 ·exact hY [.s,.b af,.b af,.v (.a e),.r (.ok (.a s) f),.v (.a c),.b af] (nj (rfl:aQ .IsNot (.tup [j,.a b,.a e,.a c]) .none h=ac af) (rfl:aA h (.j af)=ac af) (NG (h:=h) (j:=j) (k:=.a b) (i:=.a e) (l:=.a c)) p (wy (h:=f) (j:=j) (k:=.a b) (l:=.a e) (i:=.a c)) (congrArg ac u) trivial) (by kernel_rfl)
theorem aF3(i:C (.m (.ref 322)) [.str t,.a c,.j af] a h=.ok k f):aJ prog l C m Bw (kf t n (.tup [j,.a b,.a e,.a c]) r g) h a=ac (.next,kf t n k c g,f):=
 be [.v (.a c),.r (.ok k f)] (dc (wy (h:=h) (j:=j) (k:=.a b) (l:=.a e) (i:=.a c)) i trivial) (by kernel_rfl)
theorem aF4(p:C (.m (.ref 322)) [.str t,.a c,.j af] a h=.exc i f):aJ prog l C m Bw (kf t n (.tup [j,.a b,.a e,.a c]) r g) h a=ac (.exc i,kf t n (.tup [j,.a b,.a e,.a c]) c g,f):=
 be [.v (.a c),.r (.exc i f)] (dc (wy (h:=h) (j:=j) (k:=.a b) (l:=.a e) (i:=.a c)) p trivial) (by kernel_rfl)
end
inductive vH(t:List Nat)(n:V)(q:Nat)(h:H)(x:Mine.Internal.X):Prop
 |next(k:V) (g:Option V) (p:H) (e:x=ac (.next,kf t n k q g,h++p)):vH t n q h x
 |exc (i:Nat) (u:Option Nat) (v:Bool) (k:V) (g:Option V) (p:H) (e:x=ac (.exc i,kf t n k q g,h++p)) (r:(h++p)[i]?=ac (.exc 84 u v)):vH t n q h x
def IN(l:aj->Option (List Int))(m:Nat)(C:bc)(a:Option Nat)(t:List Nat)(n:V)(i r:Nat)(k:V)(q:Nat):Prop:=∀(N:Nat) (g:Option V) (h p:H),i+1<N->kF a h->vH t n q h (kH prog l C a m By Bw N (kf t n k r g) (h++p))
theorem aF8(F:PA C a t B r k q):IN l m C a t n B r k q:=by
 refine F (IN l m C a t n) (dE (@λr=>?_) (λ{r b e c s j} f D=>?_) (λ{r b e c s j} f D y=>?_) (λ{B r b e c s q j k} f D y G=>?_))
 ·intro N g h p v u
  cases N with
  |zero=>exact absurd v (fw _)|succ N=>exact .next .none g p (AY aF6 rfl)
 ·intro N g h p v u
  cases N with
  |zero=>exact absurd v (fw _)|succ N=>
   refine am (f (h++p) u.app) λw x=>?_;exact .next (.tup [j,.a b,.a e,.a c]) g (p++w) ((AY (Gq ag x (decide_eq_false (by lia))) rfl).trans (by rw[bt]))
 ·intro N g h p v u
  cases N with
  |zero=>exact absurd v (fw _)|succ N=>
   refine am (f (h++p) u.app) λw x=>pz (y (h++p++w) u.app.app) λz i I J A E=>?_;rw[bt (h++p),bt h]at E;exact .exc i I J (.tup [j,.a b,.a e,.a c]) g (p++(w++z)) ((pe (Gq af x (decide_eq_true (by lia))) rfl (aF4 A)).trans (by rw[bt (h++p),bt h];rfl)) E
 ·intro N g h p v u
  cases N with
  |zero=>exact absurd v (fw _)|succ N=>
   refine am (f (h++p) u.app) λw x=>am (y (h++p++w) u.app.app) λz A=>?_;rw[pe (Gq af x (decide_eq_true (by lia))) rfl (aF3 A),bt (h++p),bt h];exact G N g h (p++(w++z)) (nZ v) u
theorem af1:prog.fn 673=ac qg:=by kernel_rfl
inductive qn(C:bc)(a:Option Nat)(t:List Nat)(p r q:Nat):Prop where
 |i:yn C a 322 [.str t,.a r,.j af]->q=r->qn C a t p r q
 |ok {k:V}:bU C a 322 [.str t,.a r,.j af] k->PA C a t p r k q->qn C a t p r q
noncomputable def tT(t:List Nat)(p q:Nat):V:=if q=p then .tup [.str s!"text",.str []]else .tup [.str s!"cmd",.str (ct t p q)]
theorem Lh{p i:Nat}(h:i<=p):(max 0 (min (i:Int) (p:Int))).toNat=i:=by rw[bc5 (Int.ofNat_le.mpr h),HC (ku i)];rfl
theorem vV{p i:Nat}(h:i<=p):cg p (i:Int)=i:=by unfold cg;rw[if_neg (Int.not_lt.mpr (ku i))];exact Lh h
theorem Qr(f:p<=t.length)(i:q<=t.length):dU h (.str t) (ac (.a p)) (ac (.a q))=.ok (.str (ct t p q)) h:=by
 unfold dU xp ja;dsimp only[HU];rw[vV f,vV i]
theorem wc{P:aZ}{l:aj->Option (List Int)}{C:bc}{p:Nat}{u b:List St}:∀{i:av} {h:H} {a:Option Nat},aJ P l C p (u++b) i h a=kJ (aJ P l C p u i h a) λi h=>aJ P l C p b i h a:=by
 induction u with
 |nil=>intro i h a;rfl
 |cons s r v=>
  intro i h a;show kJ (bX P l C p s i h a) (λi h=>aJ P l C p (r++b) i h a)=kJ (kJ (bX P l C p s i h a) λi h=>aJ P l C p r i h a) _;generalize bX P l C p s i h a=x;rcases x with _|⟨w,e,h⟩
  ·rfl
  ·induction w using Fl.casesOn<;>first|rfl|exact v
noncomputable def Bx:List St:=qg.body.take 2
noncomputable def Pj:List St:=qg.body.drop 2
section
variable{C:bc}{h f:H}{d q:Nat}{k:V}{o g:Option V}
theorem aF5(f:d+1<=t.length)(p:q<=t.length):bY (aJ prog l C m Pj [ac (.str t),ac (.a d),ac (.a q),o,g] h a)=.ok (tT t (d+1) q) h:=by
 unfold tT;by_cases i:q=d+1
 ·rw[if_pos i];exact congrArg bY (be (r:=ac (.B (.tup [.str s!"text",.str []]),[ac (.str t),ac (.a d),ac (.a q),o,g],h)) [.r (.ok (.a (d+1:Nat)) h),.b af,.b af]
   (dE (rfl:bZ .Add (.a d) (.a 1) h=.ok (.a (d+1:Nat)) h) ((hP (h:=h)).trans (congrArg ac (show((q:Int)==((d+1:Nat):Int))=af by rw[i,beq_self_eq_true]))) (rfl:aA h (.j af)=ac af) trivial) (by kernel_rfl))
 ·rw[if_neg i];exact congrArg bY (be (r:=ac (.B (.tup [.str s!"cmd",.str (ct t (d+1) q)]),[ac (.str t),ac (.a d),ac (.a q),o,g],h)) [.r (.ok (.a (d+1:Nat)) h),.b ag,.b ag,.e (.ok (.str (ct t (d+1) q)) h)]
   (gk (rfl:bZ .Add (.a d) (.a 1) h=.ok (.a (d+1:Nat)) h) ((hP (h:=h)).trans (congrArg ac (show((q:Int)==((d+1:Nat):Int))=ag from beq_eq_false_iff_ne.mpr λz=>i (Int.ofNat.inj z)))) (rfl:aA h (.j ag)=ac ag) (Qr (h:=h) f p) trivial) (by kernel_rfl))
theorem sN{i:Nat}{p:Option Nat}{x:Bool}(e:h[i]?=ac (.exc 84 p x)):∃D e u,lE 84=.ref D/\h[i]?=ac (.exc D e u)/\(prog.cls D).any (·.isExc)=af:=lZ 84 p x rfl e yY
theorem aF2{i:Nat}{p:Option Nat}{u:Bool}(v:C (.m (.ref 322)) [.str t,.a (d+1:Nat),.j af] a h=.exc i f)(w:f[i]?=ac (.exc 84 p u)):aJ prog l C m Bx [ac (.str t),ac (.a d),ae,ae,ae] h a=ac (.next,[ac (.str t),ac (.a d),ac (.a (d+1:Nat)),ae,ae],f):=
 be [.r (.ok (.a (d+1:Nat)) h),.r (.exc i f)] (dE (rfl:bZ .Add (.a d) (.a 1) h=.ok (.a (d+1:Nat)) h) v (sN w) trivial) (by kernel_rfl)
theorem aF7{v:H}(x:C (.m (.ref 322)) [.str t,.a (d+1:Nat),.j af] a h=.ok k f)(y:vH t (.a d) q v (kH prog l C a m By Bw m (kf t (.a d) k (d+1:Nat) ae) f)):∃o g p,aJ prog l C m Bx [ac (.str t),ac (.a d),ae,ae,ae] h a=ac (.next,[ac (.str t),ac (.a d),ac (.a q),o,g],v++p):=by
 induction y using vH.casesOn with
 |next u g p w=>exact wq (ac u) g p (be [.r (.ok (.a (d+1:Nat)) h),.r (.ok k f),.x (ac (.next,kf t (.a d) u q g,v++p))] (dE (rfl:bZ .Add (.a d) (.a 1) h=.ok (.a (d+1:Nat)) h) x w trivial) (by kernel_rfl))
 |exc i A B u g p w z=>exact wq (ac u) g p (be [.r (.ok (.a (d+1:Nat)) h),.r (.ok k f),.x (ac (.exc i,kf t (.a d) u q g,v++p))] (gk (rfl:bZ .Add (.a d) (.a 1) h=.ok (.a (d+1:Nat)) h) x w (sN z) trivial) (by kernel_rfl))
end
theorem UX(y:qn (call prog l m (u+1)) a t z (d+1) q)(A:z+1<m)(f:d+1<=t.length)(B:q<=t.length):bU (call prog l m (u+2)) a 673 [.str t,.a d] (tT t (d+1) q):=by
 intro h v;rw[cX af1 (i:=[ac (.str t),ac (.a d),ae,ae,ae]) rfl];have x:∀{o g:Option V} {p:H},aJ prog l (call prog l m (u+1)) m Bx [ac (.str t),ac (.a d),ae,ae,ae] h a=ac (.next,[ac (.str t),ac (.a d),ac (.a q),o,g],h++p)->bY (aJ prog l (call prog l m (u+1)) m qg.body [ac (.str t),ac (.a d),ae,ae,ae] h a)=.ok (tT t (d+1) q) (h++p):=λe=>
  (congrArg bY ((wc (u:=Bx) (b:=Pj)).trans (congrArg (kJ · _) e))).trans (aF5 f B)
 induction y using qn.casesOn with
 |i D E=>
  subst E;exact pz (D h v) λp i L M w F=>⟨p,x (aF2 w F)⟩
 |ok G I=>
  exact am (G h v) λp w=>mF (aF7 (v:=h) w (aF8 I m ae h p A v)) λo g J e=>⟨J,x e⟩
end
end
section
section
variable{a:aj->Option (List Int)}{b:Nat}{t:List Nat}
theorem af2:prog.fn 680=ac II:=by kernel_rfl
theorem aG8{n e:Nat}{l:List V}{v:V}(m:t[e]?=ac 91)(o:qb (call prog a b (n+1)) 279 [.str t,.a e] l)(p:∀j,bU (call prog a b (n+1)) (ac j) 673 [.str t,.a e] v)(h:H):
  ∃g i x,call prog a b (n+2) (.m (.ref 680)) [.str t,.a e] ae h=.ok (.tup [v,.a t.length,.obj i]) (h++g)/\dj h.length (h++g) i (l++[.obj x]):=by
 rw[cX af2 (i:=[ac (.str t),ac (.a e),ae,ae,ae,ae,ae]) rfl];refine gY (o h) λc i x q k=>?_;refine am (p i (h++c) ⟨_,k.at_⟩) λf r=>?_;refine iP k.at_ λd u s w y=>?_;refine kQ (c++f) i x ?_ (by rw[<-bt];exact k.app);rw[<-bt];exact congrArg bY (be (r:=ac (.B (.tup [v,.a t.length,.obj i]),[ae,ae,ae,ae,ae,ae,ae],h++c++f)) [.v (.str [91]),.b ag,.b ag,.r (.exc i (h++c)),.r (.ok v (h++c++f)),.r (.ok (.a t.length) (h++c++f))]
  (wm (jX (h:=h) m) (rfl:aQ .Eq (.str [91]) (.str [36]) h=ac ag) (rfl:aA h (.j ag)=ac ag) q (sN s) r (gT (a:=a) (b:=b) (n:=n) (s:=t) (c:=ac i) (h:=h++c++f)) trivial) (by kernel_rfl))
end
end
section
section
variable{b:aj->Option (List Int)}{c:Nat}{a:Option Nat}
theorem ae4:prog.fn 167=ac yu:=by kernel_rfl
theorem ae5:prog.fn 174=ac Dg:=by kernel_rfl
theorem MC:prog.fn 406=ac yv:=by kernel_rfl
theorem YG:∃e:List Nat,e.length<=1000/\call prog b c (n+2) (.m (.ref 167)) [.str s,.a 150] a h=.ok (.str e) h:=by
 rw[cX ae4 (i:=[ac (.str s),ac (.a 150),ae]) rfl];by_cases f:(150:Int)<(s.length:Int)
 ·have d:=decide_eq_true f;have i:(ct s 0 (cg s.length 150)).length<=150:=by
   have:=vV (p:=s.length) (i:=150) (by lia);rw[show((150:Nat):Int)=150 from rfl]at this;rw[this];unfold ct;simp;lia
  have g:(ct s 0 (cg s.length 150)).length+s!"...".length<=big:=by
   have:s!"...".length=3:=rfl;have:big=1000000:=rfl
   lia
  refine al (ct s 0 (cg s.length 150)++s!"...") (by rw[aU];have:s!"...".length=3:=rfl;lia) ?_;exact congrArg bY (be (g:=yu.body) (r:=ac (.B (.str (ct s 0 (cg s.length 150)++s!"...")),[ac (.str s),ac (.a 150),ae],h)) [.r (.ok (.a s.length) h),.b af,.b af,.e (.ok (.str (ct s 0 (cg s.length 150))) h),.r (.ok (.str (ct s 0 (cg s.length 150)++s!"...")) h)]
   (kP (gT (a:=b) (b:=c) (n:=n) (s:=s) (c:=a) (h:=h)) (congrArg ac d) (rfl:aA h (.j af)=ac af) ((λh=>rfl:∀h:H,dU h (.str s) ae (ac (.a 150))=.ok (.str (ct s 0 (cg s.length 150))) h) h) (if_pos g:bZ .Add (.str (ct s 0 (cg s.length 150))) (.str s!"...") h=.ok (.str (ct s 0 (cg s.length 150)++s!"...")) h) trivial) (by kernel_rfl))
 ·have d:=decide_eq_false f;refine al s (by lia) ?_;exact congrArg bY (be (g:=yu.body) (r:=ac (.B (.str s),[ac (.str s),ac (.a 150),ae],h)) [.r (.ok (.a s.length) h),.b ag,.b ag]
   (dE (gT (a:=b) (b:=c) (n:=n) (s:=s) (c:=a) (h:=h)) (congrArg ac d) (rfl:aA h (.j ag)=ac ag) trivial) (by kernel_rfl))
theorem jU(e:h[i]?=ac (.exc 84 (ac d) l))(f:h[d]?=ac (.ns j))(k:prog.bears af 84 n=af)(g:hO j n=ac v):dH prog h (.obj i) n=ac v:=by
 unfold dH;dsimp only;rw[e];dsimp only;rw[k,f];exact g
theorem GW(f:h[i]?=ac (.exc 84 (ac d) k))(g:h[d]?=ac (.ns e))(j:prog.bears af 84 n=af)(l:e.length<cN):dN prog h (.obj i) n v=ac (h.set d (.ns (cL e n v))):=by
 unfold dN;dsimp only;rw[f];dsimp only;rw[j,g];dsimp only;rw[if_pos l]
theorem vO:prog.bears af 84 s!"code"=af:=by kernel_rfl
theorem Jn:prog.bears af 84 s!"info"=af:=by kernel_rfl
theorem DC:prog.bears af 84 s!"value"=af:=by kernel_rfl
theorem Vy:prog.bears af 84 s!"is_noted"=af:=by kernel_rfl
theorem Jo:prog.bears af 84 s!"line"=af:=by kernel_rfl
theorem GV{h:H}{d:Nat}{o f:O}(e:h[d]?=ac o):(h.set d f)[d]?=ac f:=ig (List.getElem?_eq_some_iff.mp e).1
theorem uj{h:H}{d i:Nat}{e:O}(n:i≠d):(h.set d e)[i]?=h[i]?:=fZ (λq=>n q.symm)
theorem aC1{n:Nat}{h:H}{i d x:Nat}{e s:List Nat}{g k r l:V}{t:Bool}(u:i≠d)(o:h[i]?=ac (.exc 84 (ac d) t))(p:h[d]?=ac (.ns (cn.zip [.a 1,.str e,g,k,r,.str [],.j ag,l,.obj x])))(N:e.length<=10000):
  ∃f q,call prog b c (n+3) (.m (.ref 174)) [.obj i,.str s] a h=.ok .none q/\q[i]?=ac (.exc 84 (ac d) t)/\q[d]?=ac (.ns (cn.zip [.a 1,.str e,g,k,r,.str f,.j af,l,.obj x]))/\q.length=h.length/\∀j,j≠d->q[j]?=h[j]?:=by
 rw[cX ae5 (i:=[ac (.obj i),ac (.str s),ae]) rfl];refine ak (YG (b:=b) (c:=c) (a:=a) (n:=n) (s:=s) (h:=h)) λm P B=>?_;have C:=jU (v:=.str []) o p Jn rfl;have D:=jU (v:=.str e) o p DC rfl;have Q:(s!"\n    while executing\n\"":List Nat).length=22:=rfl;have S:big=1000000:=rfl;have E:e.length+(s!"\n    while executing\n\"":List Nat).length<=big:=by lia
 have F:(e++s!"\n    while executing\n\"").length+m.length<=big:=by rw[aU];lia
 have G:((e++s!"\n    while executing\n\"")++m).length+([34]:List Nat).length<=big:=by rw[aU,aU];have:([34]:List Nat).length=1:=rfl;lia
 have T:((1:Int)==1)=af:=rfl;have U:(([]:List Nat)==[])=af:=rfl;have I:=λv=>GW (v:=v) o p Jn (show 9<500 by decide);generalize J:(((e++s!"\n    while executing\n\"")++m)++[34])=f at*;have Y:cL (cn.zip [.a 1,.str e,g,k,r,.str [],.j ag,l,.obj x]) s!"info" (.str f)=cn.zip [.a 1,.str e,g,k,r,.str f,.j ag,l,.obj x]:=rfl;have w:(h.set d (.ns (cn.zip [.a 1,.str e,g,k,r,.str f,.j ag,l,.obj x])))[i]?=ac (.exc 84 (ac d) t):=by rw[uj u,o]
 have y:(h.set d (.ns (cn.zip [.a 1,.str e,g,k,r,.str f,.j ag,l,.obj x])))[d]?=ac (.ns (cn.zip [.a 1,.str e,g,k,r,.str f,.j ag,l,.obj x])):=GV p;have z:=GW (v:=.j af) w y Vy (show 9<500 by decide);have L:cL (cn.zip [.a 1,.str e,g,k,r,.str f,.j ag,l,.obj x]) s!"is_noted" (.j af)=cn.zip [.a 1,.str e,g,k,r,.str f,.j af,l,.obj x]:=rfl;rw[L]at z;refine qT f ((h.set d (.ns (cn.zip [.a 1,.str e,g,k,r,.str f,.j ag,l,.obj x]))).set d (.ns (cn.zip [.a 1,.str e,g,k,r,.str f,.j af,l,.obj x]))) ?_ (by rw[uj u,w]) (GV y) (by rw[jO,jO]) (λj A=>by rw[uj A,uj A]);have M:bZ .Add (.str ((e++s!"\n    while executing\n\"")++m)) (.str [34]) h=.ok (.str f) h:=(if_pos G).trans (by rw[J]);exact congrArg bY (be (g:=Dg.body) (r:=ac (.next,[ac (.obj i),ac (.str s),ae],(h.set d (.ns (cn.zip [.a 1,.str e,g,k,r,.str f,.j ag,l,.obj x]))).set d (.ns (cn.zip [.a 1,.str e,g,k,r,.str f,.j af,l,.obj x]))))
  [.v (.a 1),.b ag,.b ag,.v (.str []),.b af,.b af,.v (.str e),.r (.ok (.str (e++s!"\n    while executing\n\"")) h),.r (.ok (.str m) h),.r (.ok (.str ((e++s!"\n    while executing\n\"")++m)) h),.r (.ok (.str f) h),
   .h (h.set d (.ns (cn.zip [.a 1,.str e,g,k,r,.str f,.j ag,l,.obj x]))),.h ((h.set d (.ns (cn.zip [.a 1,.str e,g,k,r,.str f,.j ag,l,.obj x]))).set d (.ns (cn.zip [.a 1,.str e,g,k,r,.str f,.j af,l,.obj x])))]
  (Fb (jU (v:=.a 1) o p vO rfl) (rfl:aQ .NotEq (.a 1) (.a 1) h=ac ag) (rfl:aA h (.j ag)=ac ag) C (rfl:aQ .Eq (.str []) (.str []) h=ac af) (rfl:aA h (.j af)=ac af) D (if_pos E:bZ .Add (.str e) (.str s!"\n    while executing\n\"") h=.ok (.str (e++s!"\n    while executing\n\"")) h) B (if_pos F:bZ .Add (.str (e++s!"\n    while executing\n\"")) (.str m) h=.ok (.str ((e++s!"\n    while executing\n\"")++m)) h) M (I (.str f)) z trivial) (by kernel_rfl))
theorem Wt(j:h[i]?=ac (.exc 84 (ac d) m))(k:h[d]?=ac (.ns (cn.zip (.a e::o))))(l:e≠1):
  call prog b c (n+1) (.m (.ref 406)) [.obj i,.str t,.a f,.a g] a h=.ok .none h:=by
 rw[cX MC (i:=[ac (.obj i),ac (.str t),ac (.a f),ac (.a g),ae]) rfl];exact congrArg bY (be (g:=yv.body) (r:=ac (.B .none,[ac (.obj i),ac (.str t),ac (.a f),ac (.a g),ae],h)) [.v (.a e),.b af,.b af] (dE (jU (v:=.a e) j k vO rfl) (congrArg (eJ (!·)) ((hP (h:=h)).trans (congrArg ac (by rw[beq_eq_false_iff_ne];exact l:(e==1)=false))):aQ .NotEq (.a e) (.a 1) h=ac af) (rfl:aA h (.j af)=ac af) trivial) (by kernel_rfl))
theorem Wu{n:Nat}{h:H}{i d x:Nat}{t:List Nat}{q o p:Nat}{e:List Nat}{f k r:V}{s:Bool}(y:i≠d)(C:kF a h)(D:bU (call prog b c (n+3)) a 258 [.str t,.a q] (.a p))(E:p<=t.length)(F:o<=t.length)
  (z:h[i]?=ac (.exc 84 (ac d) s)) (A:h[d]?=ac (.ns (cn.zip [.a 1,.str e,f,k,r,.str [],.j ag,.a 0,.obj x]))) (G:e.length<=10000):
  ∃u l m,call prog b c (n+4) (.m (.ref 406)) [.obj i,.str t,.a q,.a o] a h=.ok .none m/\m[i]?=ac (.exc 84 (ac d) s)/\m[d]?=ac (.ns (cn.zip [.a 1,.str e,f,k,r,.str u,.j af,.a l,.obj x]))/\h.length<=m.length/\∀j,j<h.length->j≠d->m[j]?=h[j]?:=by
 rw[cX MC (i:=[ac (.obj i),ac (.str t),ac (.a q),ac (.a o),ae]) rfl];refine am (D h C) λg I=>?_;have v:=cQ (y:=g) z;have w:=cQ (y:=g) A;generalize J:rh (ct t 0 (cg t.length p)) 10=l at*;have B:=GW (v:=.a l) v w Jo (show 9<500 by decide);rw[(rfl:cL (cn.zip [.a 1,.str e,f,k,r,.str [],.j ag,.a 0,.obj x]) s!"line" (.a l)=cn.zip [.a 1,.str e,f,k,r,.str [],.j ag,.a l,.obj x])]at B;refine RB (aC1 (b:=b) (c:=c) (a:=a) (n:=n) (s:=ct t p o) y (by rw[uj y,v]:((h++g).set d (.ns (cn.zip [.a 1,.str e,f,k,r,.str [],.j false,.a l,.obj x])))[i]?=some (.exc 84 (some d) s)) (GV w:((h++g).set d (.ns (cn.zip [.a 1,.str e,f,k,r,.str [],.j ag,.a l,.obj x])))[d]?=ac (.ns (cn.zip [.a 1,.str e,f,k,r,.str [],.j ag,.a l,.obj x]))) G) λu m L M N P Q=>?_;have T:((1:Int)==1)=af:=rfl;have U:((0:Int)==0)=af:=rfl;refine nq u l m ?_ M N (by rw[P,jO,aU];lia) (λj S a=>by rw[Q j a,uj a,gI S]);exact congrArg bY (be (g:=yv.body) (r:=ac (.next,[ac (.obj i),ac (.str t),ac (.a p),ac (.a o),ae],m)) [.v (.a 1),.b ag,.b ag,.r (.ok (.a p) (h++g)),.v (.a 0),.b af,.b af,.e (.ok (.a l) (h++g)),.h ((h++g).set d (.ns (cn.zip [.a 1,.str e,f,k,r,.str [],.j ag,.a l,.obj x]))),
   .e (.ok (.str (ct t p o)) ((h++g).set d (.ns (cn.zip [.a 1,.str e,f,k,r,.str [],.j ag,.a l,.obj x])))),.r (.ok .none m)]
  (tz (jU (v:=.a 1) z A vO rfl) (rfl:aQ .NotEq (.a 1) (.a 1) h=ac ag) (rfl:aA h (.j ag)=ac ag) I (jU (v:=.a 0) v w Jo rfl) (rfl:aQ .Eq (.a 0) (.a 0) (h++g)=ac af) (rfl:aA (h++g) (.j af)=ac af) (by rw[<-J];rfl:ev prog b (call prog b c (n+3)) a [some (.obj i),some (.str t),some (.a p),some (.a o),none] (.h1 (.a7 (.loc 1) none (some (.loc 2))) (.str [10])) (h++g)=.ok (.a l) (h++g)) B ((λh=>Qr (h:=h) E F) ((h++g).set d (.ns (cn.zip [.a 1,.str e,f,k,r,.str [],.j ag,.a l,.obj x])))) L trivial) (by kernel_rfl))
end
end
section
structure Fr(i:List Nat)(h g:H):Prop where
 len:h.length<=g.length
 same:∀f,f<h.length->f∉i->g[f]?=h[f]?
theorem Fr.b5{f:List Nat}{h:H}:Fr f h h:=⟨bI _,λg g g=>rfl⟩
theorem Fr.trans{f:List Nat}{h g i:H}(x:Fr f h g)(y:Fr f g i):Fr f h i:=
 ⟨aV x.len y.len,λj l n=>by rw[y.same j (fu l x.len) n,x.same j l n]⟩
theorem Fr.app{f:List Nat}{h g:H}:Fr f h (h++g):=⟨by simp,λi l j=>gI l⟩
noncomputable def wf:Ex:=.c3 (.loc 0) s!"call" [(.b0 (.a1 (.ref 399)) [(.loc 0),(.loc 6)])]
set_option genCtorIdx true in
inductive cJ where
 |ok (v:V)
 |exc (f:Int) (g:List Nat) (h i j:V)
structure mQ(b:Type)where
 φ:List Nat
 o:Nat
 I:b->H->Prop
 lt:∀s h,I s h->∀f∈φ,f<h.length
 keep:∀s h g,I s h->(∀f∈φ,g[f]?=h[f]?)->I s g
theorem mQ.app{b:Type}(a:mQ b){s:b}{h g:H}(x:a.I s h):a.I s (h++g):=a.keep s h _ x λf m=>gI (a.lt s h x f m)
noncomputable def qQ(f:Int)(g:List Nat)(h i j:V)(x:Nat):List V:=[.a f,.str g,h,i,j,.str [],.j ag,.a 0,.obj x]
section
variable{b:Type}(a:mQ b)(c:aj->Option (List Int))(C d:bc)(t:List Nat)
def sg(i:V)(s:b)(v:V)(j:b):Prop:=∀f h,f.length=10->f[0]?=ac (ac (.obj a.o))->f[6]?=ac (ac i)->a.I s h->∃g,ev prog c C ae f wf h=.ok v g/\a.I j g/\Fr a.φ h g
def yq(j:V)(s:b)(k:Int)(l:List Nat)(m n o:V)(p:b):Prop:=∀f h,f.length=10->f[0]?=ac (ac (.obj a.o))->f[6]?=ac (ac j)->a.I s h->∃g i x,ev prog c C ae f wf h=.exc i g/\a.I p g/\Fr a.φ h g/\dj h.length g i (qQ k l m n o x)
def ou(g h:Nat)(f:Int)(i:List Nat):Prop:=f≠1\/(f=1/\i.length<=10000/\h<=t.length/\∃p,p<=t.length/\∀j,bU d (ac j) 258 [.str t,.a g] (.a p))
def UF(P:Nat->b->V->V->b->cJ->Prop):Prop:=(∀{s:b} {f:V},P 0 s .none f s (.ok f))/\(∀{k:Nat} {s j z:b} {l v A f:V} {p q r:Nat} {o:cJ},sg a c C l s v j->bU C ae 322 [.str t,.a r] A->P k j A v z o->P (k+1) s (.tup [l,.a p,.a q,.a r]) f z o)/\(∀{s j:b} {l f:V} {p q r:Nat} {m:Int} {n:List Nat} {u w y:V},yq a c C l s m n u w y j->ou d t p q m n->P 0 s (.tup [l,.a p,.a q,.a r]) f j (.exc m n u w y))/\(∀{s j:b} {l v f:V} {p q r:Nat} {m:Int} {n:List Nat} {u w y:V},sg a c C l s v j->(∀h,∃g i x,C (.m (.ref 322)) [.str t,.a r] ae h=.exc i (h++g)/\dj h.length (h++g) i (qQ m n u w y x))->ou d t r t.length m n->P 0 s (.tup [l,.a p,.a q,.a r]) f j (.exc m n u w y))
def RC(f:Nat)(g:b)(h:V)(i:V)(j:b)(k:cJ):Prop:=∀P,UF a c C d t P->P f g h i j k
section
variable{a c C d t}
theorem RC.done{s:b}{f:V}:RC a c C d t 0 s .none f s (.ok f):=λP g=>g.1
theorem RC.more{k:Nat}{s f g:b}{h v j m:V}{n p r:Nat}{o:cJ}(q:sg a c C h s v f)(u:bU C ae 322 [.str t,.a r] j)(w:RC a c C d t k f j v g o):RC a c C d t (k+1) s (.tup [h,.a n,.a p,.a r]) m g o:=λP l=>l.2.1 q u (w P l)
theorem RC.q5{s h:b}{j p:V}{k l r:Nat}{f:Int}{g:List Nat}{m n o:V}(q:yq a c C j s f g m n o h)(u:ou d t k l f g):RC a c C d t 0 s (.tup [j,.a k,.a l,.a r]) p h (.exc f g m n o):=λP v=>v.2.2.1 q u
theorem RC.i{s k:b}{l v q:V}{u w r:Nat}{f:Int}{j:List Nat}{m n o:V}(y:sg a c C l s v k)(z:(∀h,∃g p x,C (.m (.ref 322)) [.str t,.a r] ae h=.exc p (h++g)/\dj h.length (h++g) p (qQ f j m n o x)))(A:ou d t r t.length f j):RC a c C d t 0 s (.tup [l,.a u,.a w,.a r]) q k (.exc f j m n o):=λP B=>B.2.2.2 y z A
end
inductive oz(s:b)(h:H)(r:Mine.Internal.X):cJ->Prop
 |ok (v:V) (l:av) (g:H) (u:r=ac (.next,l,g)) (F:l[2]?=ac (ac v)) (w:a.I s g) (f:Fr a.φ h g):oz s h r (.ok v)
 |exc (j:Int) (k:List Nat) (m n o:V) (i:Nat) (g:H) (x p q:Nat) (y z A B D E:Option V) (u:r=ac (.exc i,[ac (.obj a.o),ac (.str t),y,ac (.a (p:Nat)),ac (.a (q:Nat)),z,A,B,D,E],g)) (w:a.I s g) (f:Fr a.φ h g) (G:dj h.length g i (qQ j k m n o x)) (I:ou d t p q j k):oz s h r (.exc j k m n o)
end
noncomputable def xc:Ex:=xw ((jJ (qc.body.getD 3 .b9)).getD 1 .b9)
noncomputable def nM:List St:=jJ ((jJ (qc.body.getD 3 .b9)).getD 1 .b9)
section
variable{b:Type}{a:mQ b}{c:aj->Option (List Int)}{e:Nat}{C d:bc}{t:List Nat}
theorem oz.mono{s:b}{h m:H}{o:cJ}{r:Mine.Internal.X}(f:Fr a.φ m h)(x:oz a d t s h r o):oz a d t s m r o:=by
 induction x using oz.casesOn with
 |ok v n g j p k l=>exact .ok v n g j p k (f.trans l)|exc q u w y z i g x A B D E F G I J j k l L M=>exact .exc q u w y z i g x A B D E F G I J j k (f.trans l) (L.mono f.len) M
noncomputable def gq(f:Nat)(t:List Nat)(g h i j:V)(k l m n:Option V):av:=[ac (.obj f),ac (.str t),ac g,ac h,ac i,ac j,k,l,m,n]
theorem GL{n:Nat}{h:H}{f:List V}{g i j:V}{k l m o:Option V}{r:Mine.Internal.X}(p:aJ prog c C e nM (gq a.o t g i j (.tup f) k l m o) h ae=r):kH prog c C ae e xc nM (n+1) (gq a.o t g i j (.tup f) k l m o) h=nO r λq h=>kH prog c C ae e xc nM n q h:=
 pe (v:=.j af) (hY [.b af] (jm (rfl:aQ .IsNot (.tup f) .none h=ac af) trivial) (by kernel_rfl)) rfl p
def IP{b:Type}(a:mQ b)(c:aj->Option (List Int))(e:Nat)(C d:bc)(t:List Nat)(k:Nat)(s:b)(f g:V)(i:b)(o:cJ):Prop:=∀(N:Nat) (h:H) (j l:V) (m n p q:Option V),k+1<N->a.I s h->
  oz a d t i h (kH prog c C ae e xc nM N (gq a.o t g j l f m n p q) h) o
theorem aP0(hC:∀s h,C (.m (.builtin "len")) [.str s] ae h=.ok (.a s.length) h){k:Nat}{s s':b}{E m:V}{o:cJ}(hr:RC a c C d t k s E m s' o):IP a c e C d t k s E m s' o:=by
 refine hr (IP a c e C d t) (dE (@λs m=>?_) (λ{k s s1 s2 f v E m j l r o} F G ih=>?_) (λ{s s1 f m j l r P Q S T U} F G=>?_) (λ{s s1 f v m j l r P Q S T U} F h3 G=>?_))
 ·intro N h u w y z n p A B
  cases N with
  |zero=>exact absurd A (fw _)|succ N=>exact .ok m (gq a.o t m u w .none y z n p) h (AY (v:=.j ag) (hY [.b ag] (jm (rfl:aQ .IsNot .none .none h=ac ag) trivial) (by kernel_rfl)) rfl) rfl B .b5
 ·intro N h u w y z n p A B
  cases N with
  |zero=>exact absurd A (fw _)|succ N=>
  refine bP (F (gq a.o t m (.a j) (.a l) (.tup [f,.a j,.a l,.a r]) (ac f) (ac (.a r)) n p) h rfl rfl rfl B) λq I J D=>?_;refine am (G q trivial) λM Y=>?_;have L:aJ prog c C e nM (gq a.o t m u w (.tup [f,.a j,.a l,.a r]) y z n p) h ae=ac (.next,gq a.o t v (.a r) (.a t.length) E (ac f) (ac (.a r)) n p,q++M):=
   be [.x (ac (.next,gq a.o t m (.a j) (.a l) (.tup [f,.a j,.a l,.a r]) (ac f) (ac (.a r)) n p,h)),.e (.ok v q),.r (.ok (.a t.length) q),.r (.ok E (q++M))]
    (gk (rfl:jj ae [6,3,4,7] (gq a.o t m u w (.tup [f,.a j,.a l,.a r]) y z n p) (.tup [f,.a j,.a l,.a r]) h=_) I (hC t q) Y trivial) (by kernel_rfl)
  rw[GL L];exact(ih N (q++M) (.a r) (.a t.length) (ac f) (ac (.a r)) n p (nZ A) (a.app J)).mono (D.trans (Fr.app (g:=M)))
 ·intro N h u w y z n p A B
  cases N with
  |zero=>exact absurd A (fw _)|succ N=>
  refine dz (F (gq a.o t m (.a j) (.a l) (.tup [f,.a j,.a l,.a r]) (ac f) (ac (.a r)) n p) h rfl rfl rfl B) λq i x I J D Z=>?_;have L:aJ prog c C e nM (gq a.o t m u w (.tup [f,.a j,.a l,.a r]) y z n p) h ae=ac (.exc i,gq a.o t m (.a j) (.a l) (.tup [f,.a j,.a l,.a r]) (ac f) (ac (.a r)) n p,q):=
   be [.x (ac (.next,gq a.o t m (.a j) (.a l) (.tup [f,.a j,.a l,.a r]) (ac f) (ac (.a r)) n p,h)),.e (.exc i q)]
    (dc (rfl:jj ae [6,3,4,7] (gq a.o t m u w (.tup [f,.a j,.a l,.a r]) y z n p) (.tup [f,.a j,.a l,.a r]) h=_) I trivial) (by kernel_rfl)
  exact .exc P Q S T U i q x j l (ac m) _ _ _ _ _ (GL L) J D Z G
 ·intro N h u w y z n p A B
  cases N with
  |zero=>exact absurd A (fw _)|succ N=>
  refine bP (F (gq a.o t m (.a j) (.a l) (.tup [f,.a j,.a l,.a r]) (ac f) (ac (.a r)) n p) h rfl rfl rfl B) λq I J D=>gY (h3 q) λg i x Y Z=>?_;have L:aJ prog c C e nM (gq a.o t m u w (.tup [f,.a j,.a l,.a r]) y z n p) h ae=ac (.exc i,gq a.o t v (.a r) (.a t.length) (.tup [f,.a j,.a l,.a r]) (ac f) (ac (.a r)) n p,q++g):=
   be [.x (ac (.next,gq a.o t m (.a j) (.a l) (.tup [f,.a j,.a l,.a r]) (ac f) (ac (.a r)) n p,h)),.e (.ok v q),.r (.ok (.a t.length) q),.r (.exc i (q++g))]
    (gk (rfl:jj ae [6,3,4,7] (gq a.o t m u w (.tup [f,.a j,.a l,.a r]) y z n p) (.tup [f,.a j,.a l,.a r]) h=_) I (hC t q) Y trivial) (by kernel_rfl)
  exact .exc P Q S T U i (q++g) x r t.length (ac v) _ _ _ _ _ (GL L) (a.app J) (D.trans .app) (Z.mono D.len) G
end
end
section
section
variable{d:Type}(a:mQ d)(b:aj->Option (List Int))(C e:bc)(t:List Nat)
inductive Dn:Nat->d->d->cJ->Prop where
 |ok {k:Nat} {s l:d} {m:V} {o:cJ}:bU C ae 322 [.str t,.a (0:Nat)] m->RC a b C e t k s m (.str []) l o->Dn k s l o
 |i {s:d} {f:Int} {j:List Nat} {n p q:V}:(∀h,∃g r x,C (.m (.ref 322)) [.str t,.a (0:Nat)] ae h=.exc r (h++g)/\dj h.length (h++g) r (qQ f j n p q x))->ou e t 0 t.length f j->Dn 0 s s (.exc f j n p q)
def eR(C:bc)(f:ah)(j:List V)(s:d)(k:d)(o:cJ):Prop:=∀h,a.I s h->match o with
 |.ok v=>∃g,C (.m f) j ae h=.ok v g/\a.I k g/\Fr a.φ h g|.exc l m n p q=>∃g i r,C (.m f) j ae h=.exc i g/\a.I k g/\Fr a.φ h g/\dj h.length g i (.a l::.str m::n::p::q::r)
end
noncomputable def PR:List St:=[.d7 (.b0 (.a1 (.ref 406)) [(.loc 8),(.loc 1),(.loc 3),(.loc 4)]),.b3 (.loc 8)]
noncomputable def PS:List St:=[.B (ac (.loc 2))]
theorem ae6:prog.fn 413=ac qc:=by kernel_rfl
section
variable{d:Type}{a:mQ d}{b:aj->Option (List Int)}{c:Nat}{t:List Nat}
theorem GD{i:Nat}{g:Option Nat}{j:Bool}{f:av}{h:H}(k:h[i]?=ac (.exc 84 g j)):pk prog (ac i) f (.obj i) h=ac (.exc i,f,h):=by
 unfold pk;dsimp only;rw[k];dsimp only;rw[yY,show ki (ac i) i h=ac h from if_pos rfl];rfl
inductive Dc(a:mQ d)(b:aj->Option (List Int))(c n:Nat)(t:List Nat)(s:d)(h j:H)(k l i:Nat)(m:List V):Prop
 |mk (o:V) (g:H) (p:List V) (q:Option Nat) (r:Bool) (u:call prog b c (n+4) (.m (.ref 406)) [.obj i,.str t,.a k,.a l] (ac i) j=.ok o g) (v:g[i]?=ac (.exc 84 q r)) (w:a.I s g) (f:Fr a.φ h g) (x:dj h.length g i (m++p))
theorem PV{n:Nat}{s:d}{h f:H}{k l i x:Nat}{q:Int}{r:List Nat}{A B D:V}(u:a.I s f)(o:Fr a.φ h f)(M:∀g∈a.φ,g<h.length)(E:dj h.length f i (qQ q r A B D x))(v:ou (call prog b c (n+3)) t k l q r):
  Dc a b c n t s h f k l i [.a q,.str r,A,B,D]:=by
 refine mE E λF N P w p y Q=>?_;refine v.elim (λv=>?_) λz=>?_
 ·exact .mk _ f _ _ _ (Wt (b:=b) (c:=c) (a:=ac i) (n:=n+3) (t:=t) (f:=k) (g:=l) p y v) p u o E
 ·refine aP z λz j=>aP j λS j=>aP j λT j=>ak j λz0 U Y=>?_;subst z;refine nS (Wu (b:=b) (c:=c) (a:=ac i) (n:=n) (q:=k) (o:=l) w (dp _ F w p y Q:kF (ac i) f) (Y i) U T p y S) λz1 z3 G Z I b3 b4 J=>?_;exact .mk _ G _ _ _ Z I (a.keep s f G u (λg m=>J g (a.lt s f u g m) (λz4=>by have:=M g m;lia))) ⟨aV o.len b4,λg L na=>(J g (fu L o.len) (by lia)).trans (o.same g L na)⟩ (tB F N P w I b3 rfl)
theorem Ud:qc.body=[.q 2 (.str []),.q 3 (.a 0),.q 4 (.b0 (.a1 (.builtin "len")) [(.loc 1)]),.c6 [.q 5 (.b0 (.a1 (.ref 322)) [(.loc 1),(.a 0)]),.a9 xc nM] (.ref 84) (ac 8) PR]++PS:=rfl
theorem PY{n k:Nat}{s Y:d}{o:cJ}(hr:Dn a b (call prog b c (n+4)) (call prog b c (n+3)) t k s Y o)(hk:k+1<c):eR a (call prog b c (n+5)) (.ref 413) [.obj a.o,.str t] s Y o:=by
 intro h y;have Z:=a.lt s h y;have z:∀{r:Mine.Internal.X},aJ prog b (call prog b c (n+4)) c qc.body [ac (.obj a.o),ac (.str t),ae,ae,ae,ae,ae,ae,ae,ae] h ae=r->call prog b c (n+5) (.m (.ref 413)) [.obj a.o,.str t] ae h=bY r:=λz0=>(cX ae6 (rfl:fS qc [.obj a.o,.str t]=ac [ac (.obj a.o),ac (.str t),ae,ae,ae,ae,ae,ae,ae,ae])).trans (congrArg bY z0)
 cases hr with
 |@i _ cd z2 ec z3 z4 A q=>
  refine gY (A h) λg i z5 u r1=>?_
  induction PV (a:=a) (b:=b) (c:=c) (n:=n) (t:=t) (k:=0) (l:=t.length) (a.app (g:=g) y) Fr.app Z r1 q using Dc.casesOn with|mk B f D d2 c2 E F G I J=>
  refine mE r1 λl l1 l2 nd L x2 x3=>?_;exact fG f i D (z (be (r:=ac (.exc i,[ae,ae,ae,ae,ae,ae,ae,ae,ae,ae],f)) [.r (.ok (.a t.length) h),.r (.exc i (h++g)),.r (.ok B f),.x (ac (.exc i,[ac (.obj a.o),ac (.str t),ac (.str []),ac (.a 0),ac (.a t.length),ae,ae,ae,ac (.obj i),ae],f))]
   (kP (gT (a:=b) (b:=c) (n:=n+3) (s:=t) (c:=ae) (h:=h)) u (sN L) E (GD (f:=[ac (.obj a.o),ac (.str t),ac (.str []),ac (.a 0),ac (.a t.length),ae,ae,ae,ac (.obj i),ae]) F) trivial) (by kernel_rfl))) G I J
 |@ok _ _ _ z1 _ A q=>
  refine am (A h trivial) λg u=>?_;have z6:=(aP0 (e:=c) (λs h=>gT) q c (h++g) (.a (0:Nat)) (.a t.length) ae ae ae ae hk (a.app y)).mono (Fr.app (g:=g));clear q
  induction z6 using oz.casesOn with
  |ok v m j M p N l=>
   refine br j ?_ N l;have e2:=be (P:=prog) (c:=b) (C:=call prog b c (n+4)) (e:=c) (b:=ae) (a:=[ac (.obj a.o),ac (.str t),ae,ae,ae,ae,ae,ae,ae,ae]) (h:=h) (g:=[.q 2 (.str []),.q 3 (.a 0),.q 4 (.b0 (.a1 (.builtin "len")) [(.loc 1)]),.c6 [.q 5 (.b0 (.a1 (.ref 322)) [(.loc 1),(.a 0)]),.a9 xc nM] (.ref 84) (ac 8) PR]) (r:=ac (.next,m,j)) [.r (.ok (.a t.length) h),.r (.ok z1 (h++g)),.x (ac (.next,m,j))]
    (dE (gT (a:=b) (b:=c) (n:=n+3) (s:=t) (c:=ae) (h:=h)) u M trivial) (by kernel_rfl)
   have e3:aJ prog b (call prog b c (n+4)) c PS m j ae=ac (.B v,m,j):=by
    show kJ (aO (match m[2]? with|some (ac v)=>R.ok v j|_=>.i) m _) _=_;rw[p];rfl
   exact z ((congrArg (λp=>aJ prog b (call prog b c (n+4)) c p _ h ae) Ud).trans (wc.trans ((congrArg (kJ · _) e2).trans e3)))
  |exc cd z2 z0 z3 z4 i j z5 w x P Q S T o8 U M p N l hb=>
   induction PV (a:=a) (b:=b) (c:=c) (n:=n) (t:=t) (k:=w) (l:=x) p N Z l hb using Dc.casesOn with|mk B f D d2 c2 E F G I J=>
   refine mE l λl l1 l2 nd L x2 x3=>?_;exact fG f i D (z (be (r:=ac (.exc i,[ae,ae,ae,ae,ae,ae,ae,ae,ae,ae],f)) [.r (.ok (.a t.length) h),.r (.ok z1 (h++g)),.x (ac (.exc i,[ac (.obj a.o),ac (.str t),P,ac (.a (w:Nat)),ac (.a (x:Nat)),Q,S,T,o8,U],j)),.r (.ok B f),.x (ac (.exc i,[ac (.obj a.o),ac (.str t),P,ac (.a (w:Nat)),ac (.a (x:Nat)),Q,S,T,ac (.obj i),U],f))]
    (nj (gT (a:=b) (b:=c) (n:=n+3) (s:=t) (c:=ae) (h:=h)) u M (sN L) E (GD (f:=[ac (.obj a.o),ac (.str t),P,ac (.a (w:Nat)),ac (.a (x:Nat)),Q,S,T,ac (.obj i),U]) F) trivial) (by kernel_rfl))) G I J
end
end
section
noncomputable def cy.d5:cy->Bool
 |.h5=>ag|.h6=>ag|.i5 _=>ag|.pre _=>ag|_=>af
mutual
noncomputable def tU(n:Nat):W->Bool
 |.N _=>af|.tup g=>mr n g|.obj i=>Su i n|.a2 y=>y.d5
noncomputable def mr(n:Nat):List W->Bool
 |[]=>af|w::r=>tU n w&&mr n r
end
noncomputable def rz(n:Nat):OS->Bool
 |.list _ h=>mr n h|.dict g _=>mr n (g.map (·.2))|.ns g=>mr n (g.map (·.2))|.inst _ i=>Su i n|_=>ag
section
variable(a:cj)(T:List bB)(c:Nat->Nat)
mutual
noncomputable def lU:W->V
 |.N v=>v|.tup g=>.tup (mV g)|.obj i=>.obj (c i)|.a2 y=>(ut a T y).getD .none
noncomputable def mV:List W->List V
 |[]=>[]|w::r=>lU w::mV r
end
noncomputable def oS(g:List (List Nat×W)):List (List Nat×V):=g.map λp=>(p.1,lU a T c p.2)
noncomputable def qE:OS->O
 |.list p i=>.list (wW a p++mV a T c i)|.dict g n=>.dict (oS a T c g) n|.ns g=>.ns (oS a T c g)|.inst C h=>.inst C (c h)|.exc C h j=>.exc C (h.map c) j
end
section
variable{a:cj}{T:List bB}{b:List Nat}{n:Nat}{c:Nat->Nat}(d:∀i,i<n->b[i]?=ac (c i))
theorem aT3(h:y.d5=af):oE a T y v↔v=(ut a T y).getD .none:=by
 induction y using cy.casesOn<;>first|exact⟨λr=>r,λr=>r⟩|exact nomatch h
include d in
theorem Ee(w:W):∀{v:V},tU n w=af->(dW a T b w v↔v=lU a T c w):=
 @W.rec (λw=>∀{v:V},tU n w=af->(dW a T b w v↔v=lU a T c w)) (λk=>∀{m:List V},mr n k=af->(ci a T b k m↔m=mV a T c k))
  (λA A A=>Ck)
  (λk o v h=>⟨λr=>ak r λm g j=>g.trans (congrArg V.tup ((o h).mp j)),λl=>al _ l ((o h).mpr rfl)⟩)
  (λi v h=>⟨λr=>ak r λz g j=>by rw[j,ax (g.symm.trans (d i (Nat.blt_eq.mp h)))];rfl,λl=>al (c i) (d i (Nat.blt_eq.mp h)) l⟩)
  (λy v h=>aT3 h)
  (λA=>Ck)
  (λw k p q m h=>dr h λg j=>⟨λr=>bE r λv t s u x=>by rw[s,(p g).mp u,(q j).mp x];rfl,λl=>bw _ _ l ((p g).mpr rfl) ((q j).mpr rfl)⟩) w
include d in
theorem Ag(h:mr n g=af):ci a T b g i↔i=mV a T c g:=by
 have q:=Ee (a:=a) (T:=T) d (.tup g) (v:=.tup i) h;exact⟨λr=>xA (q.mp (al i rfl r)),λj=>ak (q.mpr (congrArg V.tup j)) λm k l=>xA k▸l⟩
theorem Af(g:List (List Nat×W)):(oS a T c g).map (·.1)=g.map (·.1)/\(oS a T c g).map (·.2)=mV a T c (g.map (·.2)):=by
 induction g with
 |nil=>exact⟨rfl,rfl⟩|cons p r h=>exact⟨congrArg (p.1::·) h.1,congrArg (lU a T c p.2::·) h.2⟩
include d in
theorem Ae(h:mr n (g.map (·.2))=af):eu a T b g i↔i=oS a T c g:=
 ⟨λr=>by rw[Cf (d:=i) r.1 ((Ag d h).mp r.2),Cf (d:=oS a T c g) (Af g).1 (Af g).2],λj=>j▸⟨(Af g).1,(Ag d h).mpr (Af g).2⟩⟩
include d in
theorem LF(h:rz n o=af):gM a T b o y↔y=qE a T c o:=by
 induction o using OS.casesOn with
 |list p s=>exact⟨λr=>ak r λl g i=>by rw[g,(Ag d h).mp i];rfl,λj=>al _ j ((Ag d h).mpr rfl)⟩
 |dict q m=>exact⟨λr=>ak r λl g i=>by rw[g,(Ae d h).mp i];rfl,λj=>al _ j ((Ae d h).mpr rfl)⟩
 |ns q=>exact⟨λr=>ak r λl g i=>by rw[g,(Ae d h).mp i];rfl,λj=>al _ j ((Ae d h).mpr rfl)⟩
 |inst C k=>exact⟨λr=>ak r λt g i=>by rw[i,ax (g.symm.trans (d k (Nat.blt_eq.mp h)))];rfl,λj=>al _ (d k (Nat.blt_eq.mp h)) j⟩
 |exc C k u=>exact nomatch h
theorem a30(h:ut a T y=ac v):y.d5=af/\(ut a T y).getD .none=v:=
 by
 refine⟨?_,by rw[h];rfl⟩
 induction y using cy.casesOn<;>first|rfl|exact nomatch h
theorem Ef(w:W):∀{v:V},cV a T w=ac v->tU n w=af/\lU a T c w=v:=
 @W.rec (λw=>∀{v:V},cV a T w=ac v->tU n w=af/\lU a T c w=v) (λg=>∀{j:List V},bW a T g=ac j->mr n g=af/\mV a T c g=j)
  (λs s h=>⟨rfl,ax h⟩)
  (λg l v h=>bG h λj i k=>⟨(l i).1,(congrArg V.tup (l i).2).trans k⟩)
  (λs s h=>nomatch h)
  (λy v h=>a30 h)
  (λh=>⟨rfl,ax h⟩)
  (λw g m o j h=>aC h λv i k=>bG k λq p r=>⟨Bool.and_eq_true_iff.mpr ⟨(m i).1,(o p).1⟩,r▸(show lU a T c w::mV a T c g=v::q by rw[(m i).2,(o p).2])⟩) w
theorem LG(h:bW a T g=ac i):mr n g=af/\mV a T c g=i:=
 aP (Ef (n:=n) (c:=c) (.tup g) (v:=.tup i) (congrArg (eJ V.tup) h)) λj k=>⟨j,xA k⟩
end
theorem ti{b:List Nat}{i g:Nat}(h:b[i]?=ac g):b.getD i 0=g:=by rw[Sf,h];rfl
theorem wg{b:List Nat}{i:Nat}(h:i<b.length):b[i]?=ac (b.getD i 0):=by rw[ti (nU h)];exact nU h
noncomputable def NN:List Nat:=s!"tools"
noncomputable def NL:List Nat:=s!"depth"
noncomputable def NM:List Nat:=s!"spent"
noncomputable def kN:List Nat:=[110]
noncomputable def kX:List Nat:=[120]
noncomputable def ny:List Nat:=s!"zz"
noncomputable def dL:List Nat:=s!"subst"
noncomputable def qX:List Nat:=s!"say"
noncomputable def EV:List (List Nat):=[NN,s!"inline",s!"limit",s!"fuel",NL,NM,s!"epoch",s!"frame",s!"coroutine",s!"vars",s!"commands",s!"firsts"]
noncomputable def Rc:List (List Nat):=[s!"kind",s!"value",s!"traces",s!"is_busy",s!"is_element",s!"writes"]
noncomputable def Rd(v:List Nat)(t:Nat):OS:=.ns (Rc.zip [.str s!"scalar",.str v,.obj t,.j ag,.j ag,.a 1])
noncomputable def ey(g:Int)(h:W)(i:OS)(j:List (List Nat×W)):HS:=[i,.ns (EV.zip [.obj 3,.obj 4,.a 40,.none,.a g,h,.a 0,.none,.none,.obj 5,.obj 6,.obj 7]),
 .inst 664 1,.dict [(s!"run",.m (.ref 413))] ae,.dict [] (ac 0),.dict ((kN,.obj 11)::(kX,.obj 14)::j) ae,
 .dict [(dL,.tup [.m (.ref 700),.none]),(qX,.tup [.m (.ref 749),.obj 0])] ae,.dict [(dL,.j af),(qX,.j af)] ae,
 .dict [(dL,.m (.ref 700))] (ac 1),.dict [(qX,.tup [.m (.ref 749),.obj 0])] (ac 1),
 Rd [110] 12,.inst 381 10,.list ae [],Rd s!"v[say 9 ok;" 15,.inst 381 13,.list ae []]
noncomputable def Re(v:List Nat)(t:Nat):O:=.ns (Rc.zip [.str s!"scalar",.str v,.obj t,.j ag,.j ag,.a 1])
noncomputable def qS(c:Nat->Nat)(g:Int)(h:V)(i:O)(j:List (List Nat×V)):List O:=[i,.ns (EV.zip [.obj (c 3),.obj (c 4),.a 40,.none,.a g,h,.a 0,.none,.none,.obj (c 5),.obj (c 6),.obj (c 7)]),
 .inst 664 (c 1),.dict [(s!"run",.m (.ref 413))] ae,.dict [] (ac 0),.dict ((kN,.obj (c 11))::(kX,.obj (c 14))::j) ae,
 .dict [(dL,.tup [.m (.ref 700),.none]),(qX,.tup [.m (.ref 749),.obj (c 0)])] ae,.dict [(dL,.j af),(qX,.j af)] ae,
 .dict [(dL,.m (.ref 700))] (ac 1),.dict [(qX,.tup [.m (.ref 749),.obj (c 0)])] (ac 1),
 Re [110] (c 12),.inst 381 (c 10),.list [],Re s!"v[say 9 ok;" (c 15),.inst 381 (c 13),.list []]
theorem Nc{c:Nat->Nat}:(ey g h i j).map (qE a T c)=qS c g (lU a T c h) (qE a T c i) (oS a T c j):=rfl
structure bd where
 d:Int
 sp:Int
 log:List V
 J:Bool
noncomputable def rM:Bool->List (List Nat×W)
 |false=>[]|true=>[(ny,.d1 0)]
noncomputable def nP:Bool->V->List (List Nat×V)
 |false,_=>[]|true,z=>[(ny,z)]
noncomputable def iH(s:bd)(z:V):cj:=⟨λg=>[],λg=>s.sp,λg=>s.log.take 1000,λg=>z⟩
theorem GY(s:bd)(z:V):jr (iH s z):=λg=>bf0 ..
def UD(b:List Nat)(h:H)(g:List O):Prop:=∀i o,g[i]?=ac o->h[b.getD i 0]?=ac o
structure cq(b:List Nat)(s:bd)(h:H):Prop where
 log:s.log.length<=1000
 len:b.length=16
 nd:b.Nodup
 g9:∃z,UD b h (qS (b.getD · 0) s.d (.a s.sp) (.list s.log) (nP s.J z))
theorem cq.lt{b:List Nat}{s:bd}{h:H}(x:cq b s h)(g:Nat)(m:g∈b):g<h.length:=
 am (List.mem_iff_getElem?.mp m) λi j=>am x.g9 λz k=>by
  have l:i<16:=x.len▸(List.getElem?_eq_some_iff.mp j).1;have q:=k i _ (nU (show i<(qS (b.getD · 0) s.d (.a s.sp) (.list s.log) (nP s.J z)).length from l));rw[ti j]at q;exact(List.getElem?_eq_some_iff.mp q).1
theorem qR{b:List Nat}{s:bd}{h g:H}(x:cq b s h)(k:∀j∈b,g[j]?=h[j]?):cq b s g:=
 ⟨x.log,x.len,x.nd,am x.g9 λz p=>⟨z,λi o m=>by
  have l:i<16:=(List.getElem?_eq_some_iff.mp m).1;rw[k _ (bT (wg (x.len▸l)))];exact p i o m⟩⟩
noncomputable def an(b:List Nat):mQ bd:=⟨b,b.getD 2 0,cq b,λs h x g m=>x.lt g m,λs h i x k=>qR x k⟩
theorem Nd{b:List Nat}(l:b.length=16):b[2]?=ac (an b).o:=wg (l▸by decide)
theorem fy.fr(g:fy b h j i):Fr b h i:=⟨g.len,g.same⟩
theorem a37{b g:List Nat}(p:b<+:g)(l:b.length=16):g.take 16=b:=am p λr z=>by rw[<-z,<-l,HL]
theorem Ps(l:s.log.length<=1000):(iH s z).g5 0=s.log:=xP l
theorem EY{b:List Nat}{s:bd}{h:H}(x:cq b s h):∃z,ir (iH s z) [] b (ey s.d (.num 0 0) (.list (ac 0) []) (rM s.J)) h:=
 am x.g9 λz j=>⟨z,x.len,x.nd,λi o m g k=>by
  have d:∀i,i<16->b[i]?=ac (b.getD i 0):=λi l=>wg (x.len▸l);refine al _ ?_ ((LF d (List.all_eq_true.mp (by induction s.J using Bool.casesOn<;>rfl:(ey s.d (.num 0 0) (.list (some 0) []) (rM s.J)).all (rz 16)=true) o (bT g))).mpr rfl);have q:(qS (b.getD · 0) s.d (.a s.sp) (.list s.log) (nP s.J z))[i]?=ac (qE (iH s z) [] (b.getD · 0) o):=by
   rw[show V.a s.sp=lU (iH s z) [] (b.getD · 0) (.num 0 0)from congrArg V.a (Cn _).symm,show O.list s.log=qE (iH s z) [] (b.getD · 0) (.list (ac 0) [])from congrArg O.list ((cR _).trans (Ps x.log)).symm,
    show nP s.J z=oS (iH s z) [] (b.getD · 0) (rM s.J) by induction s.J using Bool.casesOn<;>rfl,<-Nc,iQ,g];rfl
  rw[<-ti k];exact j i _ q⟩
theorem Ng{a:cj}{T:List bB}{s:aF a T}{h n:Int}{g:W}{j:OS}{r:List (List Nat×W)}{u:List V}{t:Bool}(F:s.p.take 16=ey h g j r)(G:rz 16 j=af/\∀c,qE a T c j=.list u)(I:cV a T g=ac (.a n))
  (M:(t=ag/\r=[])\/(t=af/\∃w,r=[(ny,w)])) (N:u.length<=1000):cq (s.φ.take 16) ⟨h,n,u,t⟩ s.h:=by
 have P:16<=s.p.length:=by
  have q:(s.p.take 16).length=16:=by rw[F];rfl
  rw[be9]at q;exact aV (fN q.symm) (Sy ..)
 have J:(s.φ.take 16).length=16:=by rw[be9];exact HR (s.ok.len▸P:16<=s.φ.length)
 have v:∀i,i<16->s.φ[i]?=ac ((s.φ.take 16).getD i 0):=λi l=>by
  rw[<-xJ l];exact wg (b:=s.φ.take 16) (by rw[J];exact l)
 have L:∀i o,(ey h g j r)[i]?=ac o->i<16/\∃y,s.h[(s.φ.take 16).getD i 0]?=ac y/\gM a T s.φ o y:=λi o k=>by
  have l:i<16:=(List.getElem?_eq_some_iff.mp k).1;rw[<-F,xJ l]at k;exact⟨l,s.obj (v i l) k⟩
 have pl:(ey h (.a n) (.list ae []) []).tail.all (rz 16)=af:=rfl;refine aP (L 5 _ rfl) λZ B=>ak B λy5 Q C=>ak C λfs S C=>C.inv λU t1 Y r6 r7=>r7.inv λv2 t2 w2 r8 x=>?_;have D:∃z,t2=nP t z:=by
  rcases M with⟨m,p⟩|⟨m,p⟩
  ·rw[p]at x;rw[m,x.nil];exact⟨.none,rfl⟩
  ·exact am p λw p=>by
    rw[p]at x;exact x.inv λz0 z7 w3 z8 z3=>⟨z0,by rw[w3,z3.nil,m];rfl⟩
 refine am D λz D=>⟨N,J,s.ok.nd.sublist (HN ..),z,λi o k=>?_⟩
 have z4:qS ((s.φ.take 16).getD · 0) h (.a n) (.list u) (nP t z)=((ey h g j []).map (qE a T ((s.φ.take 16).getD · 0))).set 5 (.dict ((kN,.obj ((s.φ.take 16).getD 11 0))::(kX,.obj ((s.φ.take 16).getD 14 0))::nP t z) ae):=by
  rw[Nc,(Ef (n:=16) g I).2];rw[G.2];rfl
 rw[z4]at k;rcases wi k with⟨m,p⟩|⟨m,k⟩
 ·rw[<-m,Q,S,Y,w2,D,<-p];rw[show U=_ from(Ee (c:=((s.φ.take 16).getD · 0)) v (.obj 11) rfl).mp r6,show v2=_ from(Ee (c:=((s.φ.take 16).getD · 0)) v (.obj 14) rfl).mp r8];rfl
 ·rw[iQ]at k;exact bG k λA E h3=>by
   have h4:(ey h g j r)[i]?=ac A:=by
    rw[show ey h g j []=(ey h g j r).set 5 (.dict [(kN,.obj 11),(kX,.obj 14)] ae)from rfl,fZ m]at E;exact E
   refine aP (L i A h4) λl B=>ak B λy h6 h7=>?_;have z6:rz 16 A=af:=by
    have pa:(ey h g j []).all (rz 16)=af:=by
     show(rz 16 j&&((af&&(af&&(af&&(af&&(af&&(tU 16 g&&_))))))&&_))=af;rw[G.1,((Ef (n:=16) (c:=id) g I).1)];rfl
    exact List.all_eq_true.mp pa A (bT E)
   rw[h6,(LF v z6).mp h7,h3]
noncomputable def td(m:Nat)(g:W)(h:Int):RS W:=fp [] prog (cY [] prog gn 60 60 60 m) ae 60 [ac (.obj 2),ae,ae,ae,ae,ae,ac g,ae,ae,ae] wf (ey h (.num 0 0) (.list (ac 0) []) [])
noncomputable def nJ:RS W->Option (W×HS)
 |.ok w h=>ac (w,h.take 16)|_=>ae
noncomputable def aa5(i:Nat)(h:HS):Bool:=pL 16 i&&match OS.d9 h[i]? with
 |some g=>g.2.1.any (pL 16)|none=>ag
noncomputable def GH:RS W->Option (List W×HS)
 |.exc i h=>(wd i h).bind λp=>bO (!p.1&&aa5 i h) (p.2,h.take 16)|_=>ae
theorem GI(g:nJ r=ac (w,i)):∃h,r=.ok w h/\h.take 16=i:=by
 induction r using RS.casesOn with
 |ok v h=>exact al h (congrArg (λv=>RS.ok v h) (io (ax g)).1) ((io (ax g)).2)|_=>exact nomatch g
section
variable{e:aj->Option (List Int)}{f:Nat}{b:List Nat}
theorem Mk(r:60<=f)(t:1+m<=n)(u:∀a,cV a [] p=ac v)(l:j.length=10)(x:j[0]?=ac (ac (.obj (an b).o)))(A:j[6]?=ac (ac v))(B:b.length=16)
(y:ir (iH s z) [] b (ey s.d (.num 0 0) (.list (ac 0) []) []) h):bu ⟨b,h,_,y⟩ aF.z (td m p s.d) (ev prog e (call prog e f n) ae j wf h):=by
 refine Me (yT (GY s z) r (bI 1) (λC C=>kZ) m n t:rZ (iH s z) [] (cY [] prog gn 60 60 60 m) (call prog e f n)) 60 wf ⟨b,h,_,y⟩ _ j ae ae ⟨by rw[l];rfl,λi w g=>?_⟩ .S;have g:(((pI 10 ae).set 0 (ac (W.obj 2))).set 6 (ac p))[i]?=ac (ac w):=g;rcases wi g with⟨k,o⟩|⟨C,g⟩
 ·rw[<-k,<-ax o];exact al _ A (Rw _ _ (u _))
 ·rcases wi g with⟨k,o⟩|⟨C,g⟩
  ·rw[<-k,<-ax o];exact Fi _ x _ (Nd B) rfl
  ·rw[Sh]at g;by_cases q:i<10
   ·rw[if_pos q]at g;exact nomatch g
   ·rw[if_neg q]at g;exact nomatch g
theorem EW{s:bd}{z:V}{p q:aF (iH s z) []}(r:p.le q)(t:p.φ.length=16)(u:s.log.length<=1000){l h:Int}{m:List W}{g:List V}{i:List (List Nat×W)}{j:Bool}(v:q.p.take 16=ey l (.num 0 h) (.list (ac 0) m) i)
  (o:∀a,bW a [] m=ac g) (x:(j=ag/\i=[])\/(j=af/\∃w,i=[(ny,w)])) (y:s.log.length+g.length<=1000):cq p.φ ⟨l,s.sp+h,s.log++g,j⟩ q.h:=by
 have k:=Ng (s:=q) (n:=s.sp+h) (u:=s.log++g) v ⟨(LG (n:=16) (c:=id) (o (iH s z))).1,λc=>congrArg O.list (by rw[(LG (n:=16) (c:=c) (o (iH s z))).2];exact congrArg (· ++g) (Ps u))⟩ rfl x (by rw[aU];exact y);rw[a37 r.pre t]at k;exact k
theorem aa2(k:60<=f)(o:nJ (td m p g)=ac (w,ey g (.num 0 r) (.list (ac 0) t) []))(u:1+m<=n)(A:s.d=g)(B:s.J=ag)(C:∀a,cV a [] p=ac D)
  (E:∀a,cV a [] w=ac v) (F:∀a,bW a [] t=ac i) (G:s.log.length+i.length<=1000):sg (an b) e (call prog e f n) D s v ⟨g,s.sp+r,s.log++i,ag⟩:=by
 subst A;intro U h l I J x;refine ak (GI o) λY L M=>am (EY x) λz y=>?_;rw[B]at y;have q:=Mk (e:=e) k u C l I J x.len y;rw[L]at q;exact ch q.h7 λN Z j P Q S=>br N.h (by rw[Q,Cb _ _ (E _) S]) (EW (j:=ag) j x.len x.log (P▸M) F (.inl ⟨rfl,rfl⟩) G) (fy.fr j)
theorem Rx(g:bW a T h=ac u)(j:bW a T i=ac v):bW a T (h++i)=ac (u++v):=by
 induction h generalizing u with
 |nil=>rw[<-ax g];exact j
 |cons w r k=>
  exact aC g λx l m=>bG m λq o p=>by
   show(cV a T w).bind (λv=>(bW a T (r++i)).map (v::·))=_;rw[l,k o,<-p];rfl
theorem aa0{m n:Nat}{v:W}{F:V}{G:List W}{w:List V}{I j g:Int}{h:List Nat}{J L M:W}{A B C:V}{D:List (List Nat×W)}{E:Bool}{s:bd}(hw:60<=f)(l:GH (td m v j)=ac ([.a g,.str h,J,L,M,.str [],.j ag,.a 0],ey j (.num 0 I) (.list (ac 0) G) D))(hn:1+m<=n)(hd:s.d=j)(hz:s.J=ag)(hv:∀a,cV a [] v=ac F)
  (hr:∀a,bW a [] [J,L,M]=ac [A,B,C]) (hu:∀a,bW a [] G=ac w) (z1:(E=ag/\D=[])\/(E=af/\∃z2,D=[(ny,z2)])) (hl:s.log.length+w.length<=1000):yq (an b) e (call prog e f n) F s g h A B C ⟨j,s.sp+I,s.log++w,E⟩:=by
 subst hd;intro z9 z4 z5 e0 e6 x;refine am (EY x) λz y=>?_;rw[hz]at y;have q:=Mk (e:=e) hw hn hv z5 e0 e6 x.len y
 induction o:td m v s.d using RS.casesOn with
 |exc i hS=>
  rw[o]at q l;refine aC l λN h1 o=>cb o λh2 h3=>dr h2 λh4 h5=>ch q.l0 λp P r h6 h7 Q=>?_;subst h6;have S:=io h3;have z6:bW (iH s z) [] N.2=ac [.a g,.str h,A,B,C,.str [],.j ag,.a 0]:=by
   rw[S.1];exact Rx (h:=[.a g,.str h]) (u:=[.a g,.str h]) rfl (Rx (hr (iH s z)) (i:=[.str [],.j ag,.a 0]) (v:=[.str [],.j ag,.a 0]) rfl)
  refine cu (Eu Q (show wd i p.p=ac (ag,N.2) by rw[h1,<-FY h4]) z6) λy U t k=>ak k λdS o6 r7=>?_;have Y:∀k u,16<=k->p.φ[k]?=ac u->z4.length<=u:=λk u hk Z=>r.new u (bT Z) λmφ=>am (List.mem_iff_getElem?.mp mφ) λz7 hj=>by
   have z8:z7<16:=by rw[<-x.len];exact(List.getElem?_eq_some_iff.mp hj).1
   exact absurd (tO p.ok.nd Z (r.ix hj)) (uU (fu z8 hk))
  refine dr h5 λh9 z0=>?_;rw[o6]at z0;exact al0 p.h P y h7 (EW r x.len x.log S.2 hu z1 hl) (fy.fr r) U (Y i P (kz h9) Q) (Y dS U (kz z0) r7) t.ne t.exc t.ns t.len
 |_=>rw[o]at l;exact nomatch l
end
end
noncomputable def jH:List Nat:=s!"text"
noncomputable def eT:List Nat:=s!"cmd"
noncomputable def xg:List Nat:=s!"var"
noncomputable def cr:List Nat:=s!"ok"
noncomputable def gr:List Nat:=s!"say"
noncomputable def ln:List Nat:=s!"NONE"
noncomputable def bR(s:List Nat):W:=.tup [.j ag,.tup [.tup [.str jH,.str s]]]
noncomputable def uD(s:List Nat):W:=.tup [.j ag,.tup [.tup [.str eT,.str s]]]
noncomputable def iz:Nat->List Nat
 |0=>cr|1=>s!"break"|2=>s!"continue"|3=>s!"return"|4=>s!"six"|_=>s!"error"
noncomputable def nQ(f c:Nat):List W:=match f with
 |6=>[bR gr,bR [c],uD s!"say in$n ok"]|7=>[bR gr,bR [c],uD s!"say in continue"]|8=>[bR s!"nope",bR [c]]|9=>[bR gr,bR [c],.tup [.j ag,.tup [.tup [.str xg,.str ny,.none]]]]|10=>[bR gr,bR [c],bR cr,bR [93]]|11=>[.tup [.j af,.tup [.tup [.str jH,.str (gr++32::c::s!" ok ]")]]]]|f=>[bR gr,bR [c],bR (iz f)]
noncomputable def dq(f c:Nat):List (List Nat):=match f with
 |6=>[s!"inn",[c]]|7=>[s!"in"]|8=>[]|9=>[]|f=>[[c]]
noncomputable def xt(f:Nat):Int:=match f with
 |6=>2|8=>0|9=>0|f=>1
noncomputable def bV(f:Nat):Option (Int×List Nat×List (List Nat)×Int):=match f with
 |1=>ac (3,[],[ln],0)|2=>ac (4,[99],[ln],0)|3=>ac (2,s!"r[say 9 ok]",[ln],1)|4=>ac (6,s!"s$n",[ln],0)|5=>ac (1,s!"wrong",[[65],s!"b c"],0)|7=>ac (4,[99],[ln],0)|8=>ac (1,s!"invalid command name \"nope\"",[s!"TCL",s!"LOOKUP",s!"COMMAND",s!"nope"],0)|9=>ac (1,s!"can't read \"zz\": no such variable",[s!"TCL",s!"LOOKUP",s!"VARNAME",s!"zz"],0)|_=>ae
noncomputable def RJ(f:Nat):List (List Nat×W):=if f=9 then[(ny,.obj 21)]else[]
noncomputable def BF(r:RS W):Option (Bool×List W×HS):=match r with
 |.ok w h=>ac (af,[w],h.take 16)|.exc i h=>(GH (.exc i h)).map λp=>(ag,p)|.i=>ae
noncomputable def As(f c:Nat)(d:Int):Option (Bool×List W×HS):=match bV f with
 |none=>ac (af,[.str cr],ey d (.num 0 (xt f)) (.list (ac 0) ((dq f c).map .str)) [])|some (a,b,e,g)=>ac (ag,[.a a,.str b,.tup (e.map .str),.a g,.a 0,.str [],.j ag,.a 0],ey d (.num 0 (xt f)) (.list (ac 0) ((dq f c).map .str)) (RJ f))
noncomputable def Ar:List (Nat×Nat×Int):=((ek 12).flatMap λf=>s!"123".flatMap λc=>[(f,c,0),(f,c,1)])++[(0,55,0),(0,55,1)]
noncomputable def Mh(x:Nat×Nat×Int):Option (Bool×List W×HS):=BF (td 30 (.tup (nQ x.1 x.2.1)) x.2.2)
noncomputable def Mj(x:Nat×Nat×Int):Option (Bool×List W×HS):=As x.1 x.2.1 x.2.2
theorem aa3:Ar.map Mh=Ar.map Mj:=by kernel_rfl
section
theorem av1(d:cj)(T:List bB)(w:W):∀{v:V},de w=ac v->cV d T w=ac v:=
 @W.rec (λw=>∀{v:V},de w=ac v->cV d T w=ac v) (λe=>∀{f:List V},jC e=ac f->bW d T e=ac f)
  (λy v h=>by
   have h:(if gU y=af then ac y else ae)=ac v:=h;by_cases q:gU y=af
   ·rw[if_pos q]at h;exact h
   ·rw[if_neg q]at h;exact nomatch h)
  (λe j v h=>bG h λf g i=>i▸congrArg (eJ V.tup) (j g))
  (λp p h=>nomatch h) (λp p h=>nomatch h) (λh=>h)
  (λw e k l f h=>aC h λv g i=>bG i λo m n=>by
   show(cV d T w).bind (λv=>(bW d T e).map (v::·))=_;rw[k g,l m,<-n];rfl) w
theorem Bb(d:cj)(T:List bB)(h:de w=ac v):cV d T w=ac v:=av1 d T w h
theorem FL(d:cj)(T:List bB)(h:jC e=ac f):bW d T e=ac f:=by
 induction e generalizing f with
 |nil=>exact h|cons w e g=>
  exact aC h λv i j=>bG j λm k l=>by
   show(cV d T w).bind (λv=>(bW d T e).map (v::·))=_;rw[Bb d T i,g k,<-l];rfl
theorem uG(d:cj)(T:List bB)(l:List (List Nat)):bW d T (l.map .str)=ac (l.map .str):=by
 induction l with
 |nil=>rfl|cons s r e=>
  show(ac (V.str s)).bind (λv=>(bW d T (r.map .str)).map (v::·))=_;rw[e];rfl
noncomputable def uF(f d:Nat):V:=(de (.tup (nQ f d))).getD .none
theorem Hr(e:f<12):de (.tup (nQ f d))=ac (uF f d):=by
 have h:=List.all_eq_true.mp (show(ek 12).all (λf=>(de (.tup (nQ f d))).isSome)=af from rfl) f (List.mem_range.mpr e);unfold uF
 cases q:de (.tup (nQ f d))with
 |none=>rw[q]at h;exact nomatch h
 |some v=>rfl
def vG(f d:Nat):Prop:=d=49\/d=50\/d=51\/(f=0/\d=55)
theorem aa1(j:f<12)(k:vG f e)(i:d=0\/d=1):(f,e,d)∈Ar:=by
 unfold Ar;have h:∀g,g∈s!"123"->(f,g,d)∈(ek 12).flatMap λf=>s!"123".flatMap λe=>[(f,e,(0:Int)),(f,e,1)]:=λg m=>
  List.mem_flatMap.mpr (al f (List.mem_range.mpr j) (List.mem_flatMap.mpr (al g m (by rcases i with rfl|rfl<;>simp))))
 rcases k with rfl|rfl|rfl|⟨rfl,rfl⟩
 ·exact pG _ (h _ (by simp))
 ·exact pG _ (h _ (by simp))
 ·exact pG _ (h _ (by simp))
 ·exact uS _ (by rcases i with rfl|rfl<;>simp)
theorem Ml(g:f<12)(i:vG f e)(j:d=0\/d=1):BF (td 30 (.tup (nQ f e)) d)=As f e d:=by
 have h:=List.map_inj_left.mp aa3 (f,e,d) (aa1 g i j);unfold Mh Mj at h;exact h
theorem Vh(h:BF r=ac (af,[w],e)):nJ r=ac (w,e):=by
 induction r using RS.casesOn with
 |ok v g=>
  have h:ac (af,[v],g.take 16)=ac (af,[w],e):=h;injection h with h;injection h with _ h;injection h with d f;injection d with d;subst d f;rfl
 |exc i g=>
  refine ak (Option.map_eq_some_iff.mp h) λp j h=>?_;injection h with h;injection h
 |i=>exact nomatch h
theorem Ve(h:BF r=ac (ag,d,e)):GH r=ac (d,e):=by
 induction r using RS.casesOn with
 |ok v g=>
  have h:ac (af,[v],g.take 16)=ac (ag,d,e):=h;injection h with h;injection h with h;injection h
 |exc i g=>
  refine ak (Option.map_eq_some_iff.mp h) λp f h=>?_;injection h with _ h;subst h;exact f
 |i=>exact nomatch h
noncomputable def bd.next(s:bd)(f e:Nat):bd:=⟨s.d,s.sp+xt f,s.log++(dq f e).map .str,bf (f=9)⟩
noncomputable def mo(e:Int×List Nat×List (List Nat)×Int):cJ:=.exc e.1 e.2.1 (.tup (e.2.2.1.map .str)) (.a e.2.2.2) (.a 0)
section
variable{a:aj->Option (List Int)}{b:Nat}{c:List Nat}
theorem wL:(dq f d).length<=2:=cw f (n_num rfl) λf=>cw f (n_num rfl) λf=>cw f (n_num rfl) λf=>cw f (n_num rfl) λf=>cw f (n_num rfl) λf=>cw f (n_num rfl) λf=>cw f (n_num rfl) λf=>cw f (n_num rfl) λf=>cw f (n_num rfl) λf=>cw f (n_num rfl) λf=>n_num rfl
theorem LN(h:60<=b)(o:31<=n)(e:f<12)(i:vG f d)(j:s.d=0\/s.d=1)(k:s.J=ag)(p:s.log.length<=900)(g:bV f=ae):
  sg (an c) a (call prog a b n) (uF f d) s (.str cr) (s.next f d):=by
 have r:=Ml e i j;unfold As at r;rw[g]at r;have l:bf (f=9)=ag:=decide_eq_false (λq=>by subst q;injection g);unfold bd.next
 rw[l];exact aa2 h (Vh r) (by lia) rfl k (λm=>Bb _ _ (Hr e)) (λt=>rfl) (λm=>uG _ _ _) (by rw[bH];have:=@wL f d;lia)
theorem YS(j:60<=b)(q:31<=n)(i:f<12)(k:vG f g)(l:s.d=0\/s.d=1)(m:s.J=ag)(t:s.log.length<=900)(o:bV f=ac e):
  yq (an c) a (call prog a b n) (uF f g) s e.1 e.2.1 (.tup (e.2.2.1.map .str)) (.a e.2.2.2) (.a 0) (s.next f g):=by
 have r:=Ml i k l;unfold As at r;rw[o]at r;obtain⟨u,v,p,w⟩:=e;refine aa0 j (Ve r) (by lia) rfl m (λh=>Bb _ _ (Hr i)) (λh=>?_) (λh=>uG _ _ _) ?_ (by rw[bH];have:=@wL f g;lia)
 ·show((bW h [] (p.map .str)).map V.tup).bind _=_;rw[uG];rfl
 ·unfold RJ;by_cases d:f=9
  ·rw[if_pos d,decide_eq_true d];exact .inr (tA rfl _ rfl)
  ·rw[if_neg d,decide_eq_false d];exact .inl ⟨rfl,rfl⟩
end
end
noncomputable def Tc(a:List Nat)(b:Bool):List bB:=.s 0::(a.map .c++if b then[.s 1]else[])
structure cP where
 f:aj
 ex:List W
 codes:List Nat
 j3:Bool
 c7:W
noncomputable def cP.T(x:cP):List bB:=Tc x.codes x.j3
noncomputable def cP.go(x:cP):Option W:=wS (cY x.T prog gn 60 60 60 14 (.m (.ref x.f)) (.e8::.M 1::x.ex) ae [])
noncomputable def cP.e0(x:cP):Option (W×HS):=OY (cY x.T prog gn 60 60 60 14 (.m (.ref x.f)) (.e8::.M 1::x.ex) (ac 0) fF)
noncomputable def tH:List (List Nat×W):=[([49],bR [49]),([50],bR [50]),([51],bR [51]),(iz 0,bR (iz 0)),(iz 1,bR (iz 1)),(iz 2,bR (iz 2)),(iz 3,bR (iz 3)),(iz 4,bR (iz 4)),(iz 5,bR (iz 5)),
 (s!"[say in$n ok]",uD s!"say in$n ok"),(s!"[say in continue]",uD s!"say in continue"),(s!"$zz",.tup [.j ag,.tup [.tup [.str xg,.str ny,.none]]]),(s!"\{]}",bR [93]),
 (s!"\{*}\{say 1 ok ]}",.tup [.j af,.tup [.tup [.str jH,.str s!"say 1 ok ]"]]]),(s!"\{*}\{say 2 ok ]}",.tup [.j af,.tup [.tup [.str jH,.str s!"say 2 ok ]"]]]),(s!"\{*}\{say 3 ok ]}",.tup [.j af,.tup [.tup [.str jH,.str s!"say 3 ok ]"]]])]
noncomputable def uh:List (List Nat×W):=[(gr,bR gr),([49],bR [49]),([50],bR [50]),([51],bR [51]),(s!"nope",bR s!"nope"),(s!"\{say}",bR gr),(s!"\"ok\"",bR cr),([55],bR [55])]
noncomputable def rN(b:Bool)(s f:List Nat)(w:W):cP:=⟨314,[.j b],s++f,af,.tup [w,.M (1+s.length)]⟩
noncomputable def jN(b:Bool):List cP:=(tH.flatMap λp=>[[59],[10],[32],[92,10]].map λf=>rN b p.1 f p.2)++(uh.map λp=>rN b p.1 [32] p.2)++[⟨314,[.j b],cr,ag,.tup [bR cr,.M 3]⟩]
noncomputable def qM:List Nat:=s!"1237obcrse[$\"\{"
noncomputable def lW:List cP:=(qM.map λg=>⟨244,[],[32,g],af,.M 2⟩)++[⟨244,[],[59],af,.M 1⟩,⟨244,[],[10],af,.M 1⟩,⟨244,[],s!" ;",af,.M 2⟩,⟨244,[],s!"\\\n;",af,.M 3⟩,⟨244,[],[],ag,.M 1⟩,⟨244,[],s!" \\\n",ag,.M 4⟩]
noncomputable def jL:List (List Nat):=[[],[9],s!"# ] c\n",s!"\n ;"]
noncomputable def mw:List cP:=jL.flatMap λa=>(s!"sn\{".map λg=>⟨258,[],a++[g],af,.M (1+a.length)⟩)++([[],s!"# say 7 ok ]",[9,10,32]].map λr=>⟨258,[],a++r,ag,.M (1+(a++r).length)⟩)
noncomputable def wR(x:cP):Option W:=ac x.c7
noncomputable def Gf(x:cP):Option (W×HS):=ac (x.c7,fF)
theorem ba3:(jN af).map cP.go=(jN af).map wR:=by kernel_rfl
theorem ba1:(jN ag).map cP.go=(jN ag).map wR:=by kernel_rfl
theorem ba2:(jN af).map cP.e0=(jN af).map Gf:=by kernel_rfl
theorem ai7:lW.map cP.go=lW.map wR:=by kernel_rfl
theorem ai6:lW.map cP.e0=lW.map Gf:=by kernel_rfl
theorem aV2:mw.map cP.go=mw.map wR:=by kernel_rfl
theorem aV1:mw.map cP.e0=mw.map Gf:=by kernel_rfl
section
noncomputable def tY(c d:List Nat):cj:=⟨λk=>if k=0 then c else d,λe=>0,λe=>[],λe=>.none⟩
theorem wZ:jr (tY c d):=λe=>gb _
theorem La(d:cj):∀(l:List Nat),cat d (l.map .c)=l
 |[]=>rfl|c::r=>by rw[eU,oN,La d r];rfl
theorem J'{c:cj}{d:List Nat}{e:Bool}{f g:List Nat}(h:c.seg 0=f)(i:c.seg 1=g)(j:e=ag->g=[]):cat c (Tc d e)=f++d++g:=by
 unfold Tc;rw[oN,XQ,La];show c.seg 0++(d++cat c _)=_;rw[h,bt]
 cases e with
 |true=>show f++(d++(c.seg 1++[]))=_;rw[i,cR]
 |false=>rw[j rfl];rfl
theorem Pw(d:cj):∀(l:List Nat) (r:List bB) (k:Nat),k<=l.length->bk d (l.map .c++r) k=k
 |l,r,0,_=>tV _ _|c::l,r,k+1,h=>by
  show(sW d (.c c)).length+bk d (l.map .c++r) k=_;rw[Pw d l r k (by simpa using h)];show 1+k=k+1;lia
theorem rA{c:cj}{d:List Nat}{f:Bool}{e:List Nat}(g:c.seg 0=e){k:Nat}(h:k<=d.length):bk c (Tc d f) (1+k)=e.length+k:=by
 rw[nX 1 k];show(c.seg 0).length+bk c (d.map .c++_) k=_;rw[g,Pw _ _ _ _ h]
section
variable{b:aj->Option (List Int)}{a:Nat}
theorem wV{x:cP}(i:60<=a)(h:x.go=ac x.c7){g:Option Nat}(r:g≠ae->x.e0=ac (x.c7,fF)){d e:List Nat}(s:x.j3=ag->e=[]){f:List V}{v:V}(t:jC x.ex=ac f)
  (k:∀c:cj,c.seg 0=d->c.seg 1=e->cV c x.T x.c7=ac v) {n:Nat} (D:15<=n):bU (call prog b a n) g x.f (.str (d++x.codes++e)::.a d.length::f) v:=by
 intro u w;have l:∀c:cj,c.seg 0=d->c.seg 1=e->bW c x.T (.e8::.M 1::x.ex)=ac (.str (d++x.codes++e)::.a d.length::f):=by
  intro c o y;have z:cat c x.T=d++x.codes++e:=J' o y s;have A:bk c x.T 1=d.length:=rA (d:=x.codes) (f:=x.j3) o (k:=0) (gb _);rw[iO,iO];rw[FL _ _ t];show ac (V.str (cat c x.T)::V.a (bk c x.T 1)::f)=_;rw[z,A]
 have m:x.go=ac x.c7:=h;unfold cP.go at m
 cases g with
 |none=>exact PW (a:=tY d e) wZ i (bI 1) (λE E=>kZ) m rfl (l _ rfl rfl) (k _ rfl rfl) (by lia) u
 |some j=>
  refine am w λB C=>?_;have p:=r (λq=>by injection q);unfold cP.e0 at p;exact aP5 (a:=tY d e) (i:=B) wZ i (bI 1) (λE E=>kZ) p rfl (l _ rfl rfl) (k _ rfl rfl) (by lia) C
theorem Gz{x:cP}(g:60<=a)(h:x.go=ac x.c7){d:Option Nat}(i:d≠ae->x.e0=ac (x.c7,fF)){c e:List Nat}(j:x.j3=ag->e=[]){k:Nat}(l:x.ex=[])
  (m:x.c7=.M (1+k)) (o:k<=x.codes.length) {n:Nat} (p:15<=n):bU (call prog b a n) d x.f [.str (c++x.codes++e),.a c.length] (.a (c.length+k:Nat)):=by
 refine wV g h i j (f:=[]) (by rw[l];rfl) (λf q r=>?_) p;rw[m];show ac (V.a (bk f x.T (1+k)))=_;rw[show bk f x.T (1+k)=c.length+k from rA q o]
theorem Rs{x:cP}(i:60<=a)(h:x.go=ac x.c7){f:Option Nat}(j:f≠ae->x.e0=ac (x.c7,fF)){c g:List Nat}(l:x.j3=ag->g=[]){d:Bool}{k:Nat}{w:W}{v:V}(m:x.ex=[.j d])
  (o:x.c7=.tup [w,.M (1+k)]) (p:de w=ac v) (q:k<=x.codes.length) {n:Nat} (r:15<=n):bU (call prog b a n) f x.f [.str (c++x.codes++g),.a c.length,.j d] (.tup [v,.a (c.length+k:Nat)]):=by
 refine wV i h j l (f:=[.j d]) (by rw[m];rfl) (λe s t=>?_) r;rw[o];show(bW e x.T [w,.M (1+k)]).map V.tup=_;rw[iO,iO];rw[Bb _ _ p];show ac (V.tup [v,.a (bk e x.T (1+k))])=_;rw[show bk e x.T (1+k)=c.length+k from rA s q]
theorem Rt(m:x∈jN c):x.go=ac x.c7:=by
 cases c with
 |true=>exact List.map_inj_left.mp ba3 x m|false=>exact List.map_inj_left.mp ba1 x m
theorem Ru(m:x∈jN af):x.e0=ac (x.c7,fF):=List.map_inj_left.mp ba2 x m
theorem ai3(m:x∈lW):x.go=ac x.c7:=List.map_inj_left.mp ai7 x m
theorem ai5(m:x∈lW):x.e0=ac (x.c7,fF):=List.map_inj_left.mp ai6 x m
theorem Qj(m:x∈mw):x.go=ac x.c7:=List.map_inj_left.mp aV2 x m
theorem Qk(m:x∈mw):x.e0=ac (x.c7,fF):=List.map_inj_left.mp aV1 x m
end
end
section
noncomputable def kj(f e:Nat):List (List Nat×W):=match f with
 |6=>[(gr,bR gr),([e],bR [e]),(s!"[say in$n ok]",uD s!"say in$n ok")]|7=>[(gr,bR gr),([e],bR [e]),(s!"[say in continue]",uD s!"say in continue")]|8=>[(s!"nope",bR s!"nope"),([e],bR [e])]|9=>[(gr,bR gr),([e],bR [e]),(s!"$zz",.tup [.j ag,.tup [.tup [.str xg,.str ny,.none]]])]|10=>[(s!"\{say}",bR gr),([e],bR [e]),(s!"\"ok\"",bR cr),(s!"\{]}",bR [93])]|11=>[(s!"\{*}\{say "++e::s!" ok ]}",.tup [.j af,.tup [.tup [.str jH,.str (gr++32::e::s!" ok ]")]]])]|f=>[(gr,bR gr),([e],bR [e]),(iz f,bR (iz f))]
noncomputable def jc:List (List Nat×W)->List Nat
 |[]=>[]|[p]=>p.1|p::r=>p.1++32::jc r
noncomputable def src(f e:Nat):List Nat:=jc (kj f e)
theorem lQ{e:Type}{F G:Nat->e}(h:(ek n).map F=(ek n).map G)(g:f<n):F f=G f:=List.map_inj_left.mp h f (List.mem_range.mpr g)
theorem jD{P:Nat->Prop}(e:P 0)(h:∀k,k<n->P (k+1))(k:Nat)(f:k<n+1):P k:=by
 cases k with
 |zero=>exact e|succ k=>exact h k (nZ f)
theorem eg{P:Nat->Prop}(e:P 0)(h:∀k,P (k+1)):∀k,P k
 |0=>e|k+1=>h k
theorem aX5(g:f<12):(kj f e).map (·.2)=nQ f e:=lQ (F:=λf=>(kj f e).map (·.2)) (G:=λf=>nQ f e) rfl g
noncomputable def bv:Nat->List Nat
 |1=>[10]|2=>s!" ;"|3=>s!"\\\n;"|5=>[10]|6=>s!" ;"|_=>[59]
noncomputable def bN:Nat->List Nat
 |2=>[9]|4=>s!"# ] c\n"|5=>s!"\n ;"|_=>[]
inductive vF:List Nat×W->List Nat->List Nat->Prop where
 |m3 {p:List Nat×W} {e f:List Nat}:p∈tH->e=[59]\/e=[10]\/e=s!" ;"\/e=s!"\\\n;"->vF p e f
 |j5:vF (cr,bR cr) [] []
 |m4:vF (cr,bR cr) s!" \\\n" []
inductive jS:List (List Nat×W)->List Nat->List Nat->Prop where
 |f9 {p:List Nat×W} {e f:List Nat}:vF p e f->jS [p] e f
 |more {p q:List Nat×W} {r:List (List Nat×W)} {e f s:List Nat} {g:Nat}:p∈uh->g∈qM->q.1=g::s->jS (q::r) e f->jS (p::q::r) e f
section
variable{c:aj->Option (List Int)}{d:Nat}{a:Option Nat}{b:Bool}
theorem Ou(m:p∈tH)(e:f=[59]\/f=[10]\/f=[32]\/f=[92,10]):rN b p.1 f p.2∈jN b:=by
 unfold jN;refine pG _ (pG _ (List.mem_flatMap.mpr (al p m (List.mem_map.mpr (al f ?_ rfl)))));rw[iR,iR,iR,bf4];exact e
theorem ax9(m:p∈uh):rN b p.1 [32] p.2∈jN b:=by
 unfold jN;exact pG _ (uS _ (List.mem_map.mpr (al p m rfl)))
theorem ax8(m:g∈qM):(⟨244,[],[32,g],af,.M 2⟩:cP)∈lW:=by
 unfold lW;exact pG _ (List.mem_map.mpr (al g m rfl))
theorem Hq(i:60<=d)(j:b=af\/a=ae)(m:rN b s f w∈jN b)(k:de w=ac v)(g h t:List Nat)(e:t=g++s++f++h)(l:15<=n):
  bU (call prog c d n) a 314 [.str t,.a g.length,.j b] (.tup [v,.a (g.length+s.length:Nat)]):=by
 subst e;have:=Rs (b:=c) (a:=d) (x:=rN b s f w) (f:=a) (c:=g) (g:=h) (d:=b) (k:=s.length) i (Rt m) (λq=>by
  rcases j with rfl|rfl
  ·exact Ru m
  ·exact absurd rfl q) (λq=>by injection q) rfl rfl k (by unfold rN;simp) l
 rw[show g++s++f++h=g++(s++f)++h by simp];exact this
theorem lX(j:60<=d){f:List Nat}{g:Bool}{k:Nat}(m:(⟨244,[],f,g,.M (1+k)⟩:cP)∈lW)(l:k<=f.length)(h i t:List Nat)(e:t=h++f++i)(o:g=ag->i=[]){n:Nat}(p:15<=n):
  bU (call prog c d n) a 244 [.str t,.a h.length] (.a (h.length+k:Nat)):=by
 subst e;exact Gz (x:=⟨244,[],f,g,.M (1+k)⟩) j (ai3 m) (λq=>ai5 m) o rfl rfl l p
theorem XW(m:g∈qM):g≠10/\g≠59/\g≠93:=by
 have h:qM.all (λg=>g !=10&&g !=59&&g !=93)=af:=by rfl
 rw[bc8]at h;have:=h g m;simp[dO,bne_iff_ne]at this;exact dc this.1.1 this.1.2 this.2
theorem sF{f s:List Nat}{g:Nat}{r t:List Nat}(e:t=f++s++g::r){k:Nat}(h:k=f.length+s.length):t[k]?=ac g:=by
 subst e h;rw[fM (by simp)];simp
theorem BJ(o:60<=d)(x:b=af\/a=ae){n:Nat}(r:15<=n){p:List Nat×W}{v:V}(y:de p.2=ac v)(m:p∈tH){e i h t:List Nat}(l:t=h++p.1++e++i){f s j:List Nat}{k:Nat}(z:e=f++s)(u:e=j++[k])
  (A:k=10\/k=59) (B:f=[59]\/f=[10]\/f=[32]\/f=[92,10]) (C:(⟨244,[],e,af,.M (1+j.length)⟩:cP)∈lW):lP (call prog c d n) a t b h.length [v] (h.length+p.1.length) (h.length+p.1.length+e.length):=by
 have w:e.length=j.length+1:=by rw[u,aU];rfl
 have g:=lX (c:=c) (a:=a) o C (w▸nY _) (h++p.1) i t l (λq=>nomatch q) r;rw[aU]at g;refine .f9 (Hq o x (Ou m B) y h (s++i) t (by rw[l,z,<-bt,<-bt]) r) g (.inr (br k (sF (f:=h) (s:=p.1++j) (r:=i) ?_ ?_) A (by rw[w];rfl)))
 ·rw[l,u];simp only[bt,HF,pH]
 ·rw[aU,iS]
theorem XV(j:60<=d)(u:b=af\/a=ae){n:Nat}(k:15<=n){y:List (List Nat×W)}{e l:List Nat}(L:jS y e l):∀(f t:List Nat) {x:List V},t=f++jc y++e++l->jC (y.map (·.2))=ac x->
  lP (call prog c d n) a t b f.length x (f.length+(jc y).length) (f.length+(jc y).length+e.length):=by
 induction L with
 |@f9 p e l M=>
  intro f t x h C;refine aC C λv o D=>?_;rw[<-(show ac [v]=ac x from D)|>ax]
  induction M using vF.casesOn with
  |m3 m N=>
   rcases N with rfl|rfl|rfl|rfl
   ·exact BJ j u k o m h (f:=[59]) (s:=[]) (j:=[]) rfl rfl (.inr rfl) (.inl rfl) (bT (i:=14) rfl)
   ·exact BJ j u k o m h (f:=[10]) (s:=[]) (j:=[]) rfl rfl (.inl rfl) (.inr (.inl rfl)) (bT (i:=15) rfl)
   ·exact BJ j u k o m h (f:=[32]) (s:=[59]) (j:=[32]) rfl rfl (.inr rfl) (.inr (.inr (.inl rfl))) (bT (i:=16) rfl)
   ·exact BJ j u k o m h (f:=[92,10]) (s:=[59]) (j:=[92,10]) rfl rfl (.inr rfl) (.inr (.inr (.inr rfl))) (bT (i:=17) rfl)
  |j5=>
   have h:t=f++cr:=by rw[h,cR,cR];rfl
   have w:=Rs (b:=c) (a:=d) (x:=⟨314,[.j b],cr,ag,.tup [bR cr,.M 3]⟩) (f:=a) (c:=f) (g:=[]) (d:=b) (k:=2) j (Rt (c:=b) (uS _ (List.mem_singleton.mpr rfl))) (λq=>by
    rcases u with rfl|rfl
    ·exact Ru (uS _ (List.mem_singleton.mpr rfl))
    ·exact absurd rfl q) (λZ=>rfl) rfl rfl o (bI 2) k
   have g:=lX (c:=c) (a:=a) j (f:=[]) (g:=ag) (k:=0) (bT (i:=18) rfl) (bI 0) (f++cr) [] t (by rw[h,cR,cR]) (λZ=>rfl) k;rw[aU]at g;rw[show f++(cP.mk 314 [.j b] cr ag (.tup [bR cr,.M 3])).codes++[]=t by rw[h,cR]]at w;have z:t.length=f.length+2:=by rw[h,aU];rfl
   exact .f9 w g (.inl ⟨fN z,z.symm⟩)
  |m4=>
   have g:=lX (c:=c) (a:=a) j (f:=s!" \\\n") (g:=ag) (k:=3) (bT (i:=19) rfl) (bI 3) (f++cr) [] t h (λZ=>rfl) k;rw[aU]at g;have z:t.length=f.length+2+3:=by rw[h,cR,aU,aU];rfl
   exact .f9 (Hq j u (Ou (p:=(cr,bR cr)) (bT (i:=3) rfl) (.inr (.inr (.inl rfl)))) o f [92,10] t (by rw[h,cR,bt (f++cr)];rfl) k) g (.inl ⟨fN z,z.symm⟩)
 |@more p q r e l s g P F G hr B=>
  intro f t x h C;have h:t=f++(p.1++32::jc (q::r))++e++l:=h;refine aC C λv o D=>bG D λus Q S=>am (show∃A,jc (q::r)=g::A from ?_) λA T=>?_
  ·cases r with
   |nil=>exact⟨s,G⟩|cons U Y=>exact⟨s++32::jc (U::Y),by show q.1++_=_;rw[G];rfl⟩
  have E:t=f++p.1++[32]++jc (q::r)++e++l:=by rw[h];simp only[bt,HF,pH]
  have I:t=f++p.1++[32,g]++(A++e++l):=by rw[E,T];simp only[bt,HF,pH]
  have J:=lX (c:=c) (a:=a) j (f:=[32,g]) (g:=af) (k:=1) (ax8 F) (nY 1) (f++p.1) (A++e++l) t I (λq=>nomatch q) k;rw[aU]at J;have B:=B (f++p.1++[32]) t E Q;rw[aU,aU,show[32].length=1 from rfl]at B;refine fL (XW F) λc1 c2 c3=>?_;show lP _ _ _ _ _ x (f.length+(p.1++32::jc (q::r)).length) (f.length+(p.1++32::jc (q::r)).length+e.length);rw[show(p.1++32::jc (q::r)).length=p.1.length+(1+(jc (q::r)).length) by rw[aU,rS,nX 1],<-iS f.length,<-iS (f.length+p.1.length),<-S];exact .more (Hq j u (ax9 P) o f (jc (q::r)++e++l) t (by rw[E];simp only[bt]) k) J (sF (g:=g) (r:=A++e++l) (f:=f) (s:=p.1++[32]) (by rw[I];simp only[bt,HF,pH]) (by rw[aU,iS];rfl)) c1 c2 c3 (bh7 _) B
end
end
noncomputable def hJ:Nat->List Nat×Bool×List Nat
 |4=>(s!"\{a}b",af,s!"extra characters after close-brace")|5=>(s!"say 7 \"a\"b",af,s!"extra characters after close-quote")|6=>(s!"say 7 \{a]",ag,s!"missing close-brace")|7=>(s!"say 7 \"a]",ag,s!"missing \"")|8=>(s!"say 7 $y(a]",ag,s!"missing )")|9=>(s!"say 7 $\{a]",ag,s!"missing close-brace for variable name")|10=>(s!"say 7 [say 8 ok",ag,s!"missing close-bracket")|11=>(s!"say 7 [say 8 ok;\{a}b",af,s!"extra characters after close-brace")|_=>([],af,[])
structure gz where
 k:Nat
 tail:List Nat
 ex:List W
noncomputable def gz.T(x:gz):List bB:=Tc (x.tail++(hJ x.k).1) (hJ x.k).2.1
noncomputable def gz.go(x:gz):Option (Bool×List W):=Mm (cY x.T prog gn 60 60 60 18 (.m (.ref 322)) (.e8::.M 1::x.ex) ae [])
noncomputable def gz.e0(x:gz):Option HS:=Mn (cY x.T prog gn 60 60 60 18 (.m (.ref 322)) (.e8::.M 1::x.ex) (ac 0) fF)
noncomputable def lR(b:List W):List gz:=[4,5,6,7,8,9,10,11].flatMap λk=>jL.map λa=>⟨k,a,b⟩
noncomputable def sG(x:gz):Option (Bool×List W):=ac (ag,EH (hJ x.k).2.2)
noncomputable def DD(x:gz):Option HS:=ac fF
theorem VP:(lR [.j af]).map gz.go=(lR [.j af]).map sG:=by kernel_rfl
theorem VN:(lR []).map gz.go=(lR []).map sG:=by kernel_rfl
theorem VO:(lR [.j af]).map gz.e0=(lR [.j af]).map DD:=by kernel_rfl
section
def yo(e:List Nat):Prop:=e=[59]\/e=[10]\/e=s!" ;"\/e=s!"\\\n;"
theorem vY(i:Nat):yo (bv i):=by
 exact cw i (.inl rfl) λi=>cw i (.inr (.inl rfl)) λi=>cw i (.inr (.inr (.inl rfl))) λi=>cw i (.inr (.inr (.inr rfl))) λi=>cw i (.inl rfl) λi=>cw i (.inr (.inl rfl)) λi=>cw i (.inr (.inr (.inl rfl))) λi=>.inl rfl
theorem Hf(d:Nat):bN d∈jL:=by
 have z:([]:List Nat)∈jL:=bT (i:=0) rfl;exact cw d z λd=>cw d z λd=>cw d (bT (i:=1) rfl) λd=>cw d z λd=>cw d (bT (i:=2) rfl) λd=>cw d (bT (i:=3) rfl) λd=>z
noncomputable def xE(d:List Nat)(j:Nat):List (List Nat×W):=d.map (λi=>uh.getD i ([],.none))++[tH.getD j ([],.none)]
noncomputable def ER:List Nat->Nat->Bool
 |[],j=>bf (j<tH.length)|i::d,j=>bf (i<uh.length)&&(ER d j&&qM.contains (((xE d j).head?.bind λp=>p.1.head?).getD 0))
theorem MV{d:Type}{l:List d}{i:Nat}{e:d}(h:i<l.length):l.getD i e∈l:=by
 rw[Sf,nU h];exact be7 h
theorem aj1{d:List Nat}{j:Nat}{e f:List Nat}(h:ER d j=af)(n:yo e):jS (xE d j) e f:=by
 induction d with
 |nil=>exact .f9 (.m3 (MV (of_decide_eq_true h)) n)|cons i d o=>
  exact dr h λt u=>dr u λv l=>by
   have g:=o v;have q:∃p r,xE d j=p::r:=by
    cases d with
    |nil=>exact fq _ _ rfl|cons k d=>exact fq _ _ rfl
   refine eH q λp r q=>?_;show jS (uh.getD i ([],.none)::xE d j) e f;rw[q]at g l⊢;have m:p.1.head?.getD 0∈qM:=List.contains_iff_mem.mp l
   cases k:p.1 with
   |nil=>rw[k]at m;exact absurd m (by decide)
   |cons x s=>rw[k]at m;exact .more (MV (of_decide_eq_true t)) m k g
noncomputable def AM(f k:Nat):List Nat×Nat:=match f with
 |6=>([0,k+1],9)|7=>([0,k+1],10)|8=>([4],k)|9=>([0,k+1],11)|10=>([5,k+1,6],12)|11=>([],13+k)|f=>([0,k+1],3+f)
theorem al6:(ek 36).all (λn=>ER (AM (n/3) (n%3)).1 (AM (n/3) (n%3)).2)=af:=by kernel_rfl
theorem al7:(ek 36).map (λn=>kj (n/3) (49+n%3))=(ek 36).map λn=>xE (AM (n/3) (n%3)).1 (AM (n/3) (n%3)).2:=by kernel_rfl
theorem ET(j:f<12)(l:d=49\/d=50\/d=51)(m:yo e):jS (kj f d) e o:=by
 have k:∀k,k<3->jS (kj f (49+k)) e o:=λk g=>by
  have n:3*f+k<36:=bg3 (bh0 3 (CC j)) g;have h:=List.all_eq_true.mp al6 _ (List.mem_range.mpr n);have i:=lQ (F:=λn=>kj (n/3) (49+n%3)) al7 n;rw[((Nat.mul_add_div (by decide) f k).trans (congrArg (f+·) (Nat.div_eq_of_lt g)):(3*f+k)/3=f),((Nat.mul_add_mod 3 f k).trans (Nat.mod_eq_of_lt g):(3*f+k)%3=k)]at h i;rw[i];exact aj1 h m
 rcases l with rfl|rfl|rfl
 ·exact k 0 (by decide)
 ·exact k 1 (by decide)
 ·exact k 2 (by decide)
theorem aj2:jS (kj 0 55) [] []:=.more (bT (i:=0) rfl) (bT (i:=3) rfl) rfl (.more (bT (i:=7) rfl) (bT (i:=4) rfl) rfl (.f9 .j5))
theorem aj3:jS (kj 0 55) s!" \\\n" []:=.more (bT (i:=0) rfl) (bT (i:=3) rfl) rfl (.more (bT (i:=7) rfl) (bT (i:=4) rfl) rfl (.f9 .m4))
def vL(g:Nat):Prop:=g=115\/g=110\/g=123
theorem BM(e:f<12):∃g s,src f d=g::s/\vL g:=by
 have h:=List.all_eq_true.mp (show(ek 12).all (λf=>((src f d).head?.getD 0==115||((src f d).head?.getD 0==110||(src f d).head?.getD 0==123)))=af from rfl) f (List.mem_range.mpr e)
 cases q:src f d with
 |nil=>rw[q]at h;exact nomatch h
 |cons g s=>
  rw[q]at h;exact gF g s rfl ((Bool.or_eq_true_iff.mp h).imp cW λh=>(Bool.or_eq_true_iff.mp h).imp cW cW)
section
variable{b:aj->Option (List Int)}{c:Nat}{a:Option Nat}
theorem um(j:60<=c)(m:d∈jL)(k:vL g)(f h t:List Nat)(e:t=f++d++g::h)(l:15<=n):bU (call prog b c n) a 258 [.str t,.a f.length] (.a (f.length+d.length:Nat)):=by
 have i:(⟨258,[],d++[g],af,.M (1+d.length)⟩:cP)∈mw:=by
  unfold mw;refine List.mem_flatMap.mpr (al d m (pG _ (List.mem_map.mpr (al g ?_ rfl))));rcases k with rfl|rfl|rfl<;>simp
 subst e;rw[show f++d++g::h=f++(d++[g])++h by simp];exact Gz (x:=⟨258,[],d++[g],af,.M (1+d.length)⟩) j (Qj i) (λo=>Qk i) (λq=>by injection q) rfl rfl (by simp) l
def IF(r:List Nat):Prop:=r=[]\/r=s!"# say 7 ok ]"\/r=[9,10,32]
theorem xo(h:60<=c)(m:d∈jL)(i:IF r)(f t:List Nat)(e:t=f++d++r)(j:15<=n):bU (call prog b c n) a 258 [.str t,.a f.length] (.a (t.length:Nat)):=by
 have g:(⟨258,[],d++r,ag,.M (1+(d++r).length)⟩:cP)∈mw:=by
  unfold mw;refine List.mem_flatMap.mpr (al d m (uS _ (List.mem_map.mpr (al r ?_ rfl))));rcases i with rfl|rfl|rfl<;>simp
 have:=Gz (b:=b) (a:=c) (d:=a) (c:=f) (e:=[]) (x:=⟨258,[],d++r,ag,.M (1+(d++r).length)⟩) h (Qj g) (λk=>Qk g) (λk=>rfl) rfl rfl (bI _) j;rw[show f++(d++r)++[]=t by rw[e];simp,show f.length+(d++r).length=t.length by rw[e];simp]at this;exact this
theorem ai1(g:60<=c)(k:yo e)(d f t:List Nat)(h:t=d++e++f)(j:15<=n):∃s,s<d.length+e.length/\bU (call prog b c n) a 244 [.str t,.a d.length] (.a (s:Nat)):=by
 rcases k with rfl|rfl|rfl|rfl
 ·exact al _ (by simp) (lX g (f:=[59]) (g:=af) (k:=0) (bT (i:=14) rfl) (by simp) d f t h (λq=>by injection q) j)
 ·exact al _ (by simp) (lX g (f:=[10]) (g:=af) (k:=0) (bT (i:=15) rfl) (by simp) d f t h (λq=>by injection q) j)
 ·exact al _ (by simp) (lX g (f:=s!" ;") (g:=af) (k:=1) (bT (i:=16) rfl) (by simp) d f t h (λq=>by injection q) j)
 ·exact al _ (by simp) (lX g (f:=s!"\\\n;") (g:=af) (k:=2) (bT (i:=17) rfl) (by simp) d f t h (λq=>by injection q) j)
theorem ba4(e:f<12):∃d,jC ((kj f g).map (·.2))=ac d/\uF f g=.tup d/\d.length<6:=by
 rw[aX5 e];exact bG (Hr (d:=g) e) λd h i=>br d h i.symm (by
  rw[(Ce (f:=[]) fI [] (FL fI [] h)).len];exact of_decide_eq_true (List.all_eq_true.mp (show(ek 12).all (λf=>bf ((nQ f g).length<6))=af from rfl) f (List.mem_range.mpr e)))
theorem sP(p:60<=c)(q:f<12)(d j t:List Nat)(x:jS (kj f h) e j)(m:i∈jL)(y:l=af\/a=ae)(o:t=d++i++src f h++e++j)(E:20<=n)
  (z:r=[.str t,.a d.length,.j l]\/(l=ag/\r=[.str t,.a d.length])):
  bU (call prog b c n) a 322 r (.tup [uF f h,.a (d.length+i.length:Nat),.a (d.length+i.length+(src f h).length:Nat),.a (d.length+i.length+(src f h).length+e.length:Nat)]):=by
 refine am (show∃k,n=k+2 from⟨n-2,by lia⟩) λk A=>?_;subst A;refine bP (ba4 (g:=h) q) λF B C G=>?_;refine cu (BM (d:=h) q) λg s u v=>?_;rw[C];have D:=um (b:=b) (a:=a) p m v d (s++e++j) t (by rw[o,u];simp) (n:=k+1) (by lia);have w:=XV (c:=b) (a:=a) (b:=l) p y (n:=k+1) (by lia) x (d++i) t o B;rw[aU]at w;refine Yt (c:=g) D (sF (g:=g) (r:=s++e++j) (f:=d) (s:=i) (by rw[o,u];simp) rfl) ?_ w (by lia) (by lia) z;rcases v with rfl|rfl|rfl<;>decide
end
end
section
noncomputable def lay:List Nat->List (Nat×Nat×Nat)->List Nat->List Nat
 |d,[],e=>d++e|d,(f,g,i)::h,e=>d++(src f g++(bv i++lay (bN i) h e))
def fR(x:Nat×Nat×Nat):Prop:=x.1<12/\(x.2.1=49\/x.2.1=50\/x.2.1=51)
inductive gf where
 |d4
 |e3
 |i (d:List Nat)
noncomputable def iW:gf->List Nat->Prop
 |.d4,r=>IF r|.e3,r=>∃e,(e=[]\/e=s!" \\\n")/\r=src 0 55++e|.i f,r=>∃k,k∈[4,5,6,7,8,9,10,11]/\f=(hJ k).2.2/\∃d,r=(hJ k).1++d/\((hJ k).2.1=ag->d=[])
section
variable{a:aj->Option (List Int)}{c:Nat}{b:Option Nat}
theorem VT(m:x∈lR [.j af]):x.go=sG x:=List.map_inj_left.mp VP x m
theorem VQ(m:x∈lR []):x.go=sG x:=List.map_inj_left.mp VN x m
theorem VS(m:x∈lR [.j af]):x.e0=DD x:=List.map_inj_left.mp VO x m
theorem DG(e:k∈[4,5,6,7,8,9,10,11])(m:d∈jL):(⟨k,d,f⟩:gz)∈lR f:=List.mem_flatMap.mpr (al k e (List.mem_map.mpr (al d m rfl)))
theorem DE{x:gz}{f:List V}(i:jC x.ex=ac f){e g t:List Nat}(j:t=e++x.tail++(hJ x.k).1++g)(k:(hJ x.k).2.1=ag->g=[])(d:cj)(h:d.seg 0=e)(l:d.seg 1=g):
  bW d x.T (.e8::.M 1::x.ex)=ac (.str t::.a e.length::f):=by
 have m:bk d x.T 1=e.length:=rA h (k:=0) (gb _);rw[iO,iO];rw[FL _ _ i];show ac (V.str (cat d x.T)::V.a (bk d x.T 1)::f)=_;rw[(by rw[j];unfold gz.T;rw[J' h l k];simp:cat d x.T=t),m]
theorem DF(i:60<=c){j l:List Nat}(s:iW (.i j) l){e:List Nat}(m:e∈jL)(d t:List Nat)(u:t=d++e++l){n:Nat}(z:20<=n){f:List V}(v:f=[.str t,.a d.length,.j af]\/f=[.str t,.a d.length]):
  qb (call prog a c n) 322 f (qP j):=by
 refine bP s λk o w x=>?_;subst w;refine ak x λg y p=>?_;subst y;have q:t=d++e++(hJ k).1++g:=by rw[u];simp
 intro h;rcases v with rfl|rfl
 ·have r:=VT (DG (f:=[.j af]) o m);unfold gz.go sG at r;exact PU (a:=tY d g) wZ i (bI 1) (λA A=>kZ) r rfl (DE (x:=⟨k,e,[.j af]⟩) rfl q p _ rfl rfl) (EI _ _ _) (by lia) h
 ·have r:=VQ (DG (f:=[]) o m);unfold gz.go sG at r;exact PU (a:=tY d g) wZ i (bI 1) (λA A=>kZ) r rfl (DE (x:=⟨k,e,[]⟩) rfl q p _ rfl rfl) (EI _ _ _) (by lia) h
theorem VM(o:60<=c){v p:List Nat}(q:iW (.i v) p){l:List Nat}(m:l∈jL)(f t:List Nat)(s:t=f++l++p){n:Nat}(w:20<=n):yn (call prog a c n) b 322 [.str t,.a f.length,.j af]:=by
 intro h y
 cases b with
 |none=>
  refine gY (DF (a:=a) o q m f t s w (.inl rfl) h) λg i x e r=>?_;refine iP r.at_ λd I z J L=>?_;exact Nm g i (ac d) ag e z
 |some j=>
  refine bP q λk A B C=>?_;subst B;refine ak C λu D E=>?_;subst D;refine am y λF G=>?_;have r:=VS (DG (f:=[.j af]) A m);unfold gz.e0 DD at r;exact aP2 (a:=tY f u) (k:=F) wZ o (bI 1) (λM M=>kZ) r rfl (DE (x:=⟨k,l,[.j af]⟩) rfl (by rw[s];simp:t=f++l++(hJ k).1++u) E _ rfl rfl) (by lia) G
theorem Jr(e:iW (.i l) f):∃g s,f=g::s/\vL g:=by
 refine bP e λk d h i=>?_;subst h;refine ak i λm j n=>?_;subst j;simp only[iR,ii,or_false]at d;rcases d with rfl|rfl|rfl|rfl|rfl|rfl|rfl|rfl
 ·exact gF _ _ rfl (.inr (.inr rfl))
 all_goals exact gF _ _ rfl (.inl rfl)
theorem vL.ne(h:vL g):g≠93:=by rcases h with rfl|rfl|rfl<;>decide
noncomputable def Tx(C:bc)(t:List Nat)(q:Nat):gf->Prop
 |.i e=>∃d,t[q]?=ac d/\d≠93/\qb C 322 [.str t,.a q,.j af] (qP e)|_=>t.length<=q
theorem ES(d:e=[]\/e=s!" \\\n"):jS (kj 0 55) e []:=by
 rcases d with rfl|rfl
 ·exact aj2
 ·exact aj3
theorem VV(o:60<=c)(D:20<=n)(C:iW G r):∀(z:List (Nat×Nat×Nat)),(∀x∈z,fR x)->∀(d h t:List Nat),h∈jL->t=d++lay h z r->
  ∃p k q,bU (call prog a c n) ae 258 [.str t,.a d.length] (.a (p:Nat))/\mN (call prog a c n) t k p q/\k<=z.length+1/\Tx (call prog a c n) t q G:=by
 intro z
 induction z with
 |nil=>
  intro _ d h t m j;have j:t=d++h++r:=j.trans (bt d h r).symm
  induction G using gf.casesOn with
  |d4=>exact fG _ 0 _ (xo o m C d t j (by lia)) .nil (by simp) (bI _)
  |e3=>
   refine ak C λe L M=>?_;subst M;refine cu (BM (f:=0) (d:=55) (by decide)) λg s u v=>?_;have A:=um (b:=a) (a:=ae) o m v d (s++e) t (by rw[j,u];simp) (n:=n) (by lia);have y:=sP (b:=a) (a:=ae) (l:=af) o (f:=0) (h:=55) (i:=[]) (j:=[]) (by decide) (d++h) t (ES L) (bT (i:=0) rfl) (.inl rfl) (by rw[j];simp) D (.inl rfl);rw[(by rw[j];simp<;>lia:(d++h).length+([]:List Nat).length+(src 0 55).length+e.length=t.length)]at y;have N:(d++h).length=d.length+h.length:=by simp
   rw[N]at y;refine fG _ 1 _ A (.cons (sF (g:=g) (r:=s++e) (f:=d) (s:=h) (by rw[j,u];simp) rfl) v.ne y (xo (b:=a) (a:=ae) o (d:=[]) (r:=[]) (bT (i:=0) rfl) (.inl rfl) t t (by simp) (n:=n) (by lia)) .nil) (by simp) (bI _)
  |i Y=>
   refine cu (Jr C) λg s u v=>?_;have A:=um (b:=a) (a:=ae) o m v d s t (by rw[j,u]) (n:=n) (by lia);have I:=DF (a:=a) o C (e:=[]) (bT (i:=0) rfl) (d++h) t (by rw[j];simp) D (.inl rfl);rw[aU]at I;exact ak9 _ 0 _ A .nil (by simp) g (sF (g:=g) (r:=s) (f:=d) (s:=h) (by rw[j,u]) rfl) v.ne I
 |cons x B P=>
  intro J d h t m j;obtain⟨f,w,l⟩:=x;refine aP (J (f,w,l) (by simp)) λE Q=>?_;have j:t=d++h++src f w++bv l++lay (bN l) B r:=by rw[j];show d++(h++(src f w++(bv l++lay (bN l) B r)))=_;rw[bt (d++h++src f w),bt (d++h),bt d]
  refine cu (BM (f:=f) (d:=w) E) λg s u v=>?_;have A:=um (b:=a) (a:=ae) o m v d (s++bv l++lay (bN l) B r) t (by rw[j,u];simp) (n:=n) (by lia);have y:=sP (b:=a) (a:=ae) (l:=af) o (i:=[]) E (d++h) (lay (bN l) B r) t (ET E Q (vY l)) (bT (i:=0) rfl) (.inl rfl) (by rw[j];simp) D (.inl rfl);refine dz (P (λx S=>J x (by simp[S])) (d++h++src f w++bv l) (bN l) t (Hf l) j) λp k q F T Z U=>?_;rw[(by simp<;>lia:(d++h++src f w++bv l).length=(d++h).length+([]:List Nat).length+(src f w).length+(bv l).length)]at F;rw[(by simp:(d++h).length=d.length+h.length)]at y F;exact fG _ (k+1) q A (.cons (sF (g:=g) (r:=s++bv l++lay (bN l) B r) (f:=d) (s:=h) (by rw[j,u];simp) rfl) v.ne y F T) (by simp;lia) U
noncomputable def gX:List Nat->List (Nat×Nat×Nat)->Nat
 |_,[]=>0|d,(f,e,i)::g=>d.length+(src f e).length+(bv i).length+gX (bN i) g
theorem aH1(o:60<=c)(v:20<=n)(w:iW F p):∀(r:List (Nat×Nat×Nat)),(∀x∈r,fR x)->∀(d g t:List Nat),g∈jL->t=d++lay g r p->
  ∃k,k<=r.length/\qn (call prog a c n) b t k d.length (d.length+gX g r):=by
 intro r
 induction r with
 |nil=>
  intro Z d g t m j;have j:t=d++g++p:=j.trans (bt d g p).symm;refine al 0 (by simp) ?_;show qn _ _ _ _ _ (d.length+0);rw[HP]
  induction F using gf.casesOn with
  |d4=>
   refine am (show∃k,n=k+2 from⟨n-2,by lia⟩) λU y=>?_;subst y;exact .ok (Ea (xo o m w d t j (by lia)) (bI _) (.inl rfl)) .none
  |e3=>
   refine ak w λe B y=>?_;subst y;have u:=sP (b:=a) (a:=b) (l:=af) o (f:=0) (h:=55) (j:=[]) (by decide) d t (ES B) m (.inl rfl) (by rw[j];simp) v (.inl rfl);rw[(by rw[j];simp<;>lia:d.length+g.length+(src 0 55).length+e.length=t.length)]at u;have G:bU (call prog a c n) b 244 [.str t,.a (d.length+g.length+(src 0 55).length:Nat)] (.a (t.length:Nat)):=by
    have I:(d++g++src 0 55).length=d.length+g.length+(src 0 55).length:=by simp<;>lia
    rw[<-I];rcases B with rfl|rfl
    ·have:=lX (c:=a) (a:=b) o (f:=[]) (g:=ag) (k:=0) (bT (i:=18) rfl) (by simp) (d++g++src 0 55) [] t (by rw[j];simp) (λZ=>rfl) (n:=n) (by lia);rw[show(d++g++src 0 55).length+0=t.length by rw[j];simp<;>lia]at this;exact this
    ·have:=lX (c:=a) (a:=b) o (f:=s!" \\\n") (g:=ag) (k:=3) (bT (i:=19) rfl) (by simp) (d++g++src 0 55) [] t (by rw[j];simp) (λZ=>rfl) (n:=n) (by lia);rw[show(d++g++src 0 55).length+3=t.length by rw[j];simp<;>lia]at this;exact this
   exact .ok u (.j5 G (bI _))
  |i Y=>exact .i (VM o w m d t j v) rfl
 |cons x q J=>
  intro C d g t m j;obtain⟨f,l,h⟩:=x;refine aP (C (f,l,h) (by simp)) λD L=>?_;have j:t=d++g++src f l++bv h++lay (bN h) q p:=by rw[j];show d++(g++(src f l++(bv h++lay (bN h) q p)))=_;rw[bt (d++g++src f l),bt (d++g),bt d]
  have u:=sP (b:=a) (a:=b) (l:=af) o D d (lay (bN h) q p) t (ET D L (vY h)) m (.inl rfl) (by rw[j]) v (.inl rfl);refine ak (ai1 (b:=a) (a:=b) o (vY h) (d++g++src f l) (lay (bN h) q p) t j (n:=n) (by lia)) λs z A=>?_;refine ak (J (λx M=>C x (by simp[M])) (d++g++src f l++bv h) (bN h) t (Hf h) j) λk hk E=>?_;rw[(by simp<;>lia:(d++g++src f l++bv h).length=d.length+g.length+(src f l).length+(bv h).length)]at E;rw[(by simp<;>lia:(d++g++src f l).length=d.length+g.length+(src f l).length)]at A z;have N:d.length+gX g ((f,l,h)::q)=d.length+g.length+(src f l).length+(bv h).length+gX (bN h) q:=by
   show d.length+(g.length+(src f l).length+(bv h).length+gX (bN h) q)=_;lia
  rw[N]
  induction E using qn.casesOn with
  |i P Q=>rw[Q];exact al 0 (by simp) (.ok u (.i A z P))
  |ok S T=>exact al (k+1) (by simp;lia) (.ok u (.more A z S T))
end
end
section
noncomputable def dw(d:gf):List (Nat×Nat×Nat)->bd->V->bd×cJ
 |[],s,g=>match d with
  |.d4=>(s,.ok g)|.e3=>(s.next 0 55,.ok (.str cr))|.i j=>(s,.exc 1 j (.tup [.str ln]) (.a 0) (.a 0))
 |(f,h,i)::k,s,g=>match bV f with
  |none=>dw d k (s.next f h) (.str cr)|some e=>(s.next f h,mo e)
section
variable{a:aj->Option (List Int)}{c:Nat}{b:List Nat}
def Tz(C e:bc)(t:List Nat)(r:Nat)(s:bd)(p:bd×cJ):Prop:=∃d,(∀h,∃g i x,C (.m (.ref 322)) [.str t,.a r] ae h=.exc i (h++g)/\dj h.length (h++g) i (qQ 1 d (.tup [.str ln]) (.a 0) (.a 0) x))/\ou e t r t.length 1 d/\p=(s,.exc 1 d (.tup [.str ln]) (.a 0) (.a 0))
theorem a99(d:iW (.i e) h):e.length<=10000:=
 bP d λk f g i=>g▸kz (List.all_eq_true.mp (rfl:[4,5,6,7,8,9,10,11].all (λk=>pL (hJ k).2.2.length 10000)=af) k f)
theorem Zn:∀f,(bV f).all (λe=>pL e.2.1.length 10000)=af:=eg rfl<|eg rfl<|eg rfl<|eg rfl<|eg rfl<|eg rfl<|eg rfl<|eg rfl<|eg rfl<|eg rfl λd=>rfl
theorem Zp(h:bV f=ac e):e.2.1.length<=10000:=by
 have q:=Zn f;rw[h]at q;exact kz q
theorem az9{s:bd}{f d:Nat}:(s.next f d).log.length<=s.log.length+2:=by
 show(s.log++_).length<=_;rw[aU,bH];exact xQ wL _
theorem aN7(q:60<=c){n:Nat}(hn:40<=n){u:gf}{y:List Nat}(D:iW u y):∀(r:List (Nat×Nat×Nat)),(∀x∈r,fR x)->∀(d o t:List Nat) (s:bd) (v:V),o∈jL->t=d++lay o r y->
  s.J=ag->s.d=0\/s.d=1->s.log.length+2*(r.length+1)<=900->
  (∃k P,k<=r.length+1/\bU (call prog a c (n+4)) ae 322 [.str t,.a d.length] P/\RC (an b) a (call prog a c (n+4)) (call prog a c (n+3)) t k s P v (dw u r s v).1 (dw u r s v).2)\/
   Tz (call prog a c (n+4)) (call prog a c (n+3)) t d.length s (dw u r s v):=by
 intro r
 induction r with
 |nil=>
  intro _ d o t s v m p G E I;have p:t=d++o++y:=p.trans (bt ..).symm;have J:s.log.length<=900:=aV (dm ..) I
  induction u using gf.casesOn with
  |d4=>exact .inl (bw 0 .none (gb _) (Ea (n:=n+2) (e:=ag) (xo q m D d t p (by lia)) (bI _) (.inr ⟨rfl,rfl⟩)) .done)
  |e3=>
   refine ak D λe w z0=>?_;subst z0;have A:=sP (b:=a) (a:=ae) (l:=ag) q (f:=0) (h:=55) (j:=[]) (by decide) d t (ES w) m (.inr rfl) (p.trans (by rw[cR,<-bt])) (n:=n+4) (by lia) (.inr ⟨rfl,rfl⟩);have L:d.length+o.length+(src 0 55).length+e.length=t.length:=by rw[p,aU,aU,aU,iS _ (src 0 55).length]
   rw[L]at A;have B:=LN (a:=a) (c:=b) q (n:=n+4) (f:=0) (d:=55) (s:=s) (by lia) (by decide) (.inr (.inr (.inr ⟨rfl,rfl⟩))) E G J rfl;exact .inl (bw 1 _ (bI _) A (.more B (Ea (a:=a) (b:=c) (c:=ae) (n:=n+2) (e:=ag) (r:=t.length) (xo (d:=[]) (r:=[]) q (bT (i:=0) rfl) (.inl rfl) t t (by rw[cR,cR]) (by lia)) (bI _) (.inr ⟨rfl,rfl⟩)) .done))
  |i U=>
   refine cu (Jr D) λz2 M Q S=>?_;refine .inr (br U (λh=>DF (a:=a) q D m d t p (n:=n+4) (by lia) (.inr rfl) h) (.inr (Ni rfl (a99 D) (bI _) (d.length+o.length) (by rw[p,aU,aU];exact dm ..) (λj=>um q m S d M t (by rw[p,Q]) (by lia)))) rfl)
 |cons x z N=>
  intro Y d o t s v m p G E I;obtain⟨f,g,l⟩:=x;refine aP (Y (f,g,l) (.head _)) λF Z=>?_;have p:t=d++o++src f g++bv l++lay (bN l) z y:=by rw[p,bt,bt,bt];rfl
  have L:t.length=d.length+o.length+(src f g).length+(bv l).length+(lay (bN l) z y).length:=by rw[p,aU,aU,aU,aU]
  have J:s.log.length<=900:=aV (dm ..) I;have A:=sP (b:=a) (a:=ae) (l:=ag) q F d (lay (bN l) z y) t (ET F Z (vY l)) m (.inr rfl) (by rw[p]) (n:=n+4) (by lia) (.inr ⟨rfl,rfl⟩);have z1:vG f g:=by rcases Z with h|h|h;exact .inl h;exact .inr (.inl h);exact .inr (.inr (.inl h))
  left
  cases w:bV f with
  |some e=>
   have B:=YS (a:=a) (c:=b) q (n:=n+4) (f:=f) (g:=g) (s:=s) (by lia) F z1 E G J w;refine cu (BM (f:=f) (d:=g) F) λz2 M Q S=>?_;have sk:=λj=>um (b:=a) (a:=ac j) q (d:=[]) (bT (i:=0) rfl) S (d++o) (M++bv l++lay (bN l) z y) t (by rw[p,Q,cR,bt (_++_),bt (_++_),bt M];rfl) (n:=n+3) (by lia);rw[(aU:(d++o).length=d.length+o.length)]at sk;refine bw 0 _ (gb _) A ?_;have er:dw u ((f,g,l)::z) s v=(s.next f g,mo e):=by show(match bV f with|none=>_|some e=>_)=_;rw[w]
   rw[er];refine .q5 B ?_;by_cases C:e.1=1
   ·exact .inr (Ni C (Zp w) (by rw[L];exact aV (dm _ _) (dm _ _)) _ (by rw[L];exact aV (aV (dm _ _) (dm _ _)) (dm _ _)) sk)
   ·exact .inl C
  |none=>
   have B:=LN (a:=a) (c:=b) q (n:=n+4) (f:=f) (d:=g) (s:=s) (by lia) F z1 E G J w;have h9:(s.next f g).J=ag:=decide_eq_false (λz3=>by subst z3;injection w);have N:=N (λx hx=>Y x (.tail _ hx)) (d++o++src f g++bv l) (bN l) t (s.next f g) (.str cr) (Hf l) p h9 E (aV (CA az9 _) (by rw[iS,nX 2];exact I));rw[(by rw[aU,aU,aU]:(d++o++src f g++bv l).length=d.length+o.length+(src f g).length+(bv l).length)]at N;rw[(by show(match bV f with|none=>_|some e=>_)=_;rw[w]:dw u ((f,g,l)::z) s v=dw u z (s.next f g) (.str cr))];rcases N with⟨k,P,hk,C,T⟩|⟨U,C,T,h3⟩
   ·exact bw (k+1) _ (uV hk) A (.more B C T)
   ·rw[h3];exact bw 0 _ (gb _) A (.i B C T)
theorem Qa(l:60<=c)(u:50<=n)(m:iW g h)(o:∀x∈d,fR x)(v:d.length<=20)(p:s.J=ag)(q:s.d=0\/s.d=1)(w:s.log.length<=500):
  eR (an b) (call prog a c n) (.ref 413) [.obj (an b).o,.str (lay [] d h)] s (dw g d s (.str [])).1 (dw g d s (.str [])).2:=by
 refine am (show∃k,n=k+5 from⟨n-5,by lia⟩) λk r=>?_;subst r;rcases aN7 (a:=a) (b:=b) l (n:=k) (by lia) m d o [] [] (lay [] d h) s (.str []) (bT (i:=0) rfl) (by simp) p q (by lia)with⟨j,y,z,e,f⟩|⟨A,e,f,t⟩
 ·exact PY (.ok e f) (by lia)
 ·rw[t];exact PY (.i e f) (by lia)
end
end
section
noncomputable def nh(a:List Nat)(s:bd):List (List Nat×V):=EV.zip [.obj (a.getD 3 0),.obj (a.getD 4 0),.a 40,.none,.a s.d,.a s.sp,.a 0,.none,.none,.obj (a.getD 5 0),.obj (a.getD 6 0),.obj (a.getD 7 0)]
section
variable{a:List Nat}{s:bd}{h:H}
theorem EX(x:cq a s h):h[(an a).o]?=ac (.inst 664 (a.getD 1 0))/\h[a.getD 1 0]?=ac (.ns (nh a s)):=am x.g9 λz b=>⟨b 2 _ rfl,b 1 _ rfl⟩
theorem vP:prog.bears ag 664 NL=af:=by kernel_rfl
theorem DJ:prog.bears ag 664 NM=af:=by kernel_rfl
theorem V':prog.bears ag 664 s!"limit"=af:=by kernel_rfl
theorem VZ:prog.bears ag 664 s!"fuel"=af:=by kernel_rfl
theorem Wa:prog.bears ag 664 NN=af:=by kernel_rfl
theorem Jt:prog.bears ag 664 s!"commands"=af:=by kernel_rfl
theorem lY(x:cq a s h)(b:prog.bears ag 664 n=af)(g:hO (nh a s) n=ac v):dH prog h (.obj (an a).o) n=ac v:=by
 refine aP (EX x) λc d=>?_;unfold dH;dsimp only;rw[c];dsimp only;rw[b,d];exact g
theorem EZ(x:cq a s h)(b:prog.bears ag 664 n=af)(l:cL (nh a s) n v=nh a c)(j:c.log=s.log)(m:c.J=s.J):
  ∃d,dN prog h (.obj (an a).o) n v=ac d/\cq a c d/\Fr a h d:=
 aP (EX x) λp k=>am x.g9 λz r=>by
  have g:∀i,i<16->a[i]?=ac (a.getD i 0):=λi t=>wg (x.len▸t);refine⟨h.set (a.getD 1 0) (.ns (nh a c)),?_,⟨j▸x.log,x.len,x.nd,z,λi o e=>?_⟩,fN List.length_set.symm,λu y n=>fZ λq:a.getD 1 0=u=>n (q▸bT (g 1 (by decide)))⟩
  ·unfold dN;dsimp only;rw[p];dsimp only;rw[b,k];dsimp only;rw[if_pos (show(nh a s).length<cN from(show 12<500 by decide)),l]
  ·rw[show qS (a.getD · 0) c.d (.a c.sp) (.list c.log) (nP c.J z)=(qS (a.getD · 0) s.d (.a s.sp) (.list s.log) (nP s.J z)).set 1 (.ns (nh a c)) by rw[j,m];rfl]at e;rcases wi e with⟨f,w⟩|⟨f,e⟩
   ·rw[<-f,<-w];exact ig (List.getElem?_eq_some_iff.mp k).1
   ·rw[fZ λq=>f (tO x.nd (g 1 (by decide)) (by rw[q];exact g i (List.getElem?_eq_some_iff.mp e).1))];exact r i o e
end
end
section
theorem OQ:aQ .NotIn (.str k) (.obj i) h=(qU (.str k) h[i]?).map (!·):=rfl
theorem dj.fr(x:dj l h i o)(f:Fr a h p)(e:∀q∈a,q<l):dj l p i o:=by
 refine mE x λg r t n j k u=>?_;refine tB g r t n ?_ ?_ u
 ·rw[f.same i (List.getElem?_eq_some_iff.mp j).1 (λm=>by have:=e _ m;lia)];exact j
 ·rw[f.same g (List.getElem?_eq_some_iff.mp k).1 (λm=>by have:=e _ m;lia)];exact k
section
variable{a:List Nat}{s:bd}{h:H}{b:aj->Option (List Int)}{c:Nat}{d:Option Nat}
theorem Nh(x:cq a s h):h[a.getD 3 0]?=ac (.dict [(s!"run",.m (.ref 413))] ae):=am x.g9 λz e=>e 3 _ rfl
theorem tw(x:cq a s h)(e:((prog.cls 664).bind λk=>if k.isExc then ae else k.meths.lookup n)=ac f)(g:dJ (nh a s) n=ae):fV prog (.obj (an a).o) n h=ac (f,[.obj (an a).o]):=by
 refine aP (EX x) λl m=>?_
 cases q:prog.cls 664 with
 |none=>rw[q]at e;injection e
 |some i=>
  rw[q]at e;dsimp only[bi2]at e
  cases j:i.isExc with
  |true=>rw[j]at e;injection e
  |false=>
   rw[j]at e;have e:i.meths.lookup n=ac f:=e;show wO prog _ n h h[(an a).o]?=_;rw[l];show(prog.cls 664).bind (λi=>Bd (.obj (an a).o) n i h[a.getD 1 0]?)=_;rw[q,m];show(if(dJ (nh a s) n).isSome then ae else(i.meths.lookup n).bind λf=>if i.isExc then ae else ac (f,[V.obj (an a).o]))=_;rw[g,e,j];rfl
theorem ae7:prog.fn 442=ac Di:=by kernel_rfl
theorem MD:prog.fn 463=ac vt:=by kernel_rfl
theorem aw6:((prog.cls 664).bind λe=>if e.isExc then ae else e.meths.lookup s!"tool")=ac (.ref 442):=by kernel_rfl
theorem aw3:((prog.cls 664).bind λe=>if e.isExc then ae else e.meths.lookup s!"run")=ac (.ref 463):=by kernel_rfl
theorem a60(x:cq a s h):call prog b c (n+1) (.m (.ref 442)) [.obj (an a).o,.str s!"run"] d h=.ok (.m (.ref 413)) h:=by
 rw[cX ae7 (i:=[ac (.obj (an a).o),ac (.str s!"run"),ae]) rfl];have e:=lY x (n:=s!"tools") (v:=.obj (a.getD 3 0)) Wa rfl;refine congrArg bY (be (g:=Di.body) (r:=ac (.B (.m (.ref 413)),[ac (.obj (an a).o),ac (.str s!"run"),ae],h)) [.v (.obj (a.getD 3 0)),.b ag,.b ag,.v (.obj (a.getD 3 0)),.v (.m (.ref 413))]
  (kP e (show aQ .NotIn (.str s!"run") (.obj (a.getD 3 0)) h=ac ag by rw[OQ,Nh x];rfl) (rfl:aA h (.j ag)=ac ag) e ((wz (Nh x)).trans rfl:cH h (.obj (a.getD 3 0)) (.str s!"run")=ac (.m (.ref 413))) trivial) (by kernel_rfl))
theorem aP4(L:s.d<39)(r:eR (an a) (call prog b c (n+1)) (.ref 413) [.obj (an a).o,.str t] ⟨s.d+1,s.sp,s.log,s.J⟩ f o):
  eR (an a) (call prog b c (n+2)) (.ref 463) [.obj (an a).o,.str t] s ⟨f.d-1,f.sp,f.log,f.J⟩ o:=by
 intro h x;have x:cq a s h:=x;have B:=lY x (n:=s!"depth") (v:=.a s.d) vP rfl;refine bP (EZ x (n:=s!"depth") (v:=.a (s.d+1)) (c:=⟨s.d+1,s.sp,s.log,s.J⟩) vP rfl rfl rfl) λu F G w=>?_;have C:fS vt [.obj (an a).o,.str t]=ac [ac (.obj (an a).o),ac (.str t),ae,ae]:=rfl;have D:∀g,cq a f g->∃j,dH prog g (.obj (an a).o) s!"depth"=ac (.a f.d)/\dN prog g (.obj (an a).o) s!"depth" (.a (f.d-1))=ac j/\cq a ⟨f.d-1,f.sp,f.log,f.J⟩ j/\Fr a g j:=λg k=>
  bP (EZ k (n:=s!"depth") (v:=.a (f.d-1)) (c:=⟨f.d-1,f.sp,f.log,f.J⟩) vP rfl rfl rfl) λj m p l=>jW j (lY k (n:=s!"depth") (v:=.a f.d) vP rfl) m p l
 have r:=r u G;have E:∀{o:Prop},o->(dH prog h (.obj (an a).o) s!"depth"=ac (.a s.d)/\dH prog h (.obj (an a).o) s!"limit"=ac (.a 40)/\aQ .GtE (.a s.d) (.a 40) h=ac ag/\aA h (.j ag)=ac ag/\
   fV prog (.obj (an a).o) s!"tool" h=ac (.ref 442,[.obj (an a).o])/\call prog b c (n+1) (.m (.ref 442)) [.obj (an a).o,.str s!"run"] ae h=.ok (.m (.ref 413)) h/\dH prog h (.obj (an a).o) s!"depth"=ac (.a s.d)/\
   qq .Add (.a s.d) (.a 1) h=.ok (.a (s.d+1)) h/\dN prog h (.obj (an a).o) s!"depth" (.a (s.d+1))=ac u/\o):=λq=>Fa B (lY x (n:=s!"limit") (v:=.a 40) V' rfl) (congrArg ac (decide_eq_false (by lia):bf ((40:Int)<=s.d)=ag)) rfl (tw x aw6 rfl) (a60 (b:=b) (c:=c) (d:=ae) (n:=n) x) B rfl F q
 induction o using cJ.casesOn with
 |ok v=>
  refine bP r λg y k z=>iP (D g k) λj A m p l=>br j ?_ p (w.trans (z.trans l));rw[cX MD C];exact congrArg bY (be (g:=vt.body) (r:=ac (.B v,[ac (.obj (an a).o),ac (.str t),ac (.m (.ref 413)),ae],j)) [.v (.a s.d),.v (.a 40),.b ag,.b ag,.g (.ref 442) [.obj (an a).o],.r (.ok (.m (.ref 413)) h),.v (.a s.d),.r (.ok (.a (s.d+1)) h),.h u,.r (.ok v g),.v (.a f.d),.r (.ok (.a (f.d-1)) g),.h j]
   (E (gk y A (rfl:qq .Sub (.a f.d) (.a 1) g=.ok (.a (f.d-1)) g) m trivial)) (by kernel_rfl))
 |exc M N e P Q=>
  refine dz r λg i I y k z J=>iP (D g k) λj A m p l=>fG j i I ?_ p (w.trans (z.trans l)) ((J.mono w.len).fr l x.lt);rw[cX MD C];exact congrArg bY (be (g:=vt.body) (r:=ac (.exc i,[ac (.obj (an a).o),ac (.str t),ac (.m (.ref 413)),ae],j)) [.v (.a s.d),.v (.a 40),.b ag,.b ag,.g (.ref 442) [.obj (an a).o],.r (.ok (.m (.ref 413)) h),.v (.a s.d),.r (.ok (.a (s.d+1)) h),.h u,.r (.exc i g),.v (.a f.d),.r (.ok (.a (f.d-1)) g),.h j]
   (E (gk y A (rfl:qq .Sub (.a f.d) (.a 1) g=.ok (.a (f.d-1)) g) m trivial)) (by kernel_rfl))
end
end
section
section
variable{a:List Nat}{s:bd}{h:H}{b:aj->Option (List Int)}{c:Nat}{d:Option Nat}
theorem MB:prog.fn 392=ac Dh:=by kernel_rfl
theorem af3:prog.fn 687=ac yy:=by kernel_rfl
theorem AP(e:h[g]?=ac (.list f))(i:gV f=ac l)(j:l.flatten.length<=big)(k:l.length<=big):call prog b c (n+1) (.m (.builtin "str.join")) [.str [],.obj g] d h=.ok (.str l.flatten) h:=by
 rw[lS,VE];show(match h[g]? with|some (.list f)=>(match gV f with|some l=>if[]=([]:List Nat)&&l.flatten.length<=big&&l.length<=big then R.ok (V.str l.flatten) h else R.i|Option.none=>R.i)|_=>R.i)=_;rw[e];show(match gV f with|some l=>_|Option.none=>_)=_;rw[i];exact if_pos (Bool.and_eq_true_iff.mpr ⟨decide_eq_true j,decide_eq_true k⟩)
theorem Ox{s:List Nat}:fV prog (.str s) s!"join" h=ac (.builtin "str.join",[.str s]):=rfl
theorem Fr.obj(f:Fr a h i)(e:h[g]?=ac o)(n:g∉a):i[g]?=ac o:=by
 rw[f.same g (List.getElem?_eq_some_iff.mp e).1 n];exact e
theorem Fr.set(n:h.length<=e)(f:Fr a h g):Fr a h (g.set e o):=
 ⟨by rw[jO];exact f.len,λi l m=>by rw[fZ (by lia)];exact f.same i l m⟩
theorem MO(g:ev P b C ae f e h=.ok (.tup [v]) h)(i:aJ P b C c j (f.set x (ac v)) h ae=r):bX P b C c (.f2 x e j) f h ae=nO r λf h=>ac (.next,f,h):=by
 show aO (ev P b C ae f e h) f _=_;rw[g];subst i;rfl
noncomputable def rH:List St:=jJ (Dh.body.getD 1 .b9)
noncomputable def pv(a:List Nat)(e:Nat)(p:V):av:=[ac (.obj (an a).o),ac (.tup [p]),ac (.obj e),ac p,ae,ae]
theorem QI{n:Nat}{p:V}{e:H}{w:List Nat}(f:aJ prog b (call prog b c (n+1)) c rH (pv a h.length p) (h++[.list []]) ae=ac (.next,pv a h.length p,e))(g:call prog b c (n+1) (.m (.builtin "str.join")) [.str [],.obj h.length] ae e=.ok (.str w) e):
  call prog b c (n+2) (.m (.ref 392)) [.obj (an a).o,.tup [p]] ae h=.ok (.str w) e:=
 (cX MB (i:=[ac (.obj (an a).o),ac (.tup [p]),ae,ae,ae,ae]) rfl).trans (congrArg bY (be (r:=ac (.B (.str w),pv a h.length p,e)) [.x (ac (.next,pv a h.length p,e)),.g (.builtin "str.join") [.str []],.r (.ok (.str w) e)]
  (dE (MO (x:=3) (e:=.loc 1) (j:=rH) (v:=p) (f:=[ac (.obj (an a).o),ac (.tup [p]),ac (.obj h.length),ae,ae,ae]) (h:=h++[.list []]) rfl f) (Ox (h:=e) (s:=[])) g trivial) (by kernel_rfl)))
theorem a51(f:aJ prog b (call prog b c (n+1)) c rH (pv a h.length p) (h++[.list []]) ae=ac (.exc i,pv a h.length p,e)):
  call prog b c (n+2) (.m (.ref 392)) [.obj (an a).o,.tup [p]] ae h=.exc i e:=
 (cX MB (i:=[ac (.obj (an a).o),ac (.tup [p]),ae,ae,ae,ae]) rfl).trans (congrArg bY (be (r:=ac (.exc i,pv a h.length p,e)) [.x (ac (.exc i,pv a h.length p,e))]
  (jm (MO (x:=3) (e:=.loc 1) (j:=rH) (v:=p) (f:=[ac (.obj (an a).o),ac (.tup [p]),ac (.obj h.length),ae,ae,ae]) (h:=h++[.list []]) rfl f) trivial) (by kernel_rfl)))
theorem NO(g:f∉a):∀e∈a,(h.set f o)[e]?=h[e]?:=λe m=>fZ λq:f=e=>g (q▸m)
theorem a50(B:∀v,o=.ok v->∃w,v=.str w/\w.length<=1000)(g:eR (an a) (call prog b c (n+1)) (.ref 463) [.obj (an a).o,.str t] s q o):
  eR (an a) (call prog b c (n+2)) (.ref 392) [.obj (an a).o,.tup [.tup [.str eT,.str t]]] s q o:=by
 intro h x;have x:cq a s h:=x;have r:cq a s (h++[.list []]):=(an a).app x;have u:=tw r aw3 rfl;have k:(h++[O.list []])[h.length]?=ac (.list []):=by rw[fM (bI _),gJ];rfl
 have y:h.length∉a:=λm=>jn _ ((x.lt:∀C∈a,C<h.length) _ m);have g:=g (h++[O.list []]) r
 induction o using cJ.casesOn with
 |ok v=>
  refine ak (B _ rfl) λw D E=>?_;subst D;refine bP g λf l p j=>?_;have z:f[h.length]?=ac (.list []):=j.obj k y;have F:(f.set h.length (.list ([]++[.str w])))[h.length]?=ac (.list [.str w]):=ig (List.getElem?_eq_some_iff.mp z).1;have A:=AP (b:=b) (c:=c) (d:=ae) (n:=n) F (l:=[w]) rfl (by rw[HG,be0,cR];exact aV E (by decide)) (show 1<=big by decide);rw[show[w].flatten=w by rw[HG,be0,cR]]at A;exact br _ (QI (be (g:=rH) [.v (.str eT),.b ag,.b ag,.v (.str eT),.b af,.b af,.g (.builtin "list.append") [.obj h.length],.g (.ref 463) [.obj (an a).o],.v (.str t),.r (.ok (.str w) f),.r (.ok .none (f.set h.length (.list ([]++[.str w]))))]
   (tz (rfl:cH (h++[.list []]) (.tup [.str eT,.str t]) (.a 0)=ac (.str eT)) (rfl:aQ .Eq (.str eT) (.str s!"text") (h++[.list []])=ac ag) (rfl:aA (h++[.list []]) (.j ag)=ac ag) (rfl:cH (h++[.list []]) (.tup [.str eT,.str t]) (.a 0)=ac (.str eT)) (rfl:aQ .Eq (.str eT) (.str s!"cmd") (h++[.list []])=ac af) (rfl:aA (h++[.list []]) (.j af)=ac af) (nF k) u (rfl:cH (h++[.list []]) (.tup [.str eT,.str t]) (.a 1)=ac (.str t)) l (vN (C:=call prog b c (n+1)) (d:=ae) (v:=.str w) (λJ h=>lS) z (by decide)) trivial) (by kernel_rfl)) A) ((an a).keep q f _ p (NO y)) ((Fr.app.trans j).set (bI _))
 |exc L M e N P=>
  refine dz g λf i G l p j I=>?_;exact fG f i G (a51 (be (g:=rH) [.v (.str eT),.b ag,.b ag,.v (.str eT),.b af,.b af,.g (.builtin "list.append") [.obj h.length],.g (.ref 463) [.obj (an a).o],.v (.str t),.r (.exc i f)]
   (ak1 (rfl:cH (h++[.list []]) (.tup [.str eT,.str t]) (.a 0)=ac (.str eT)) (rfl:aQ .Eq (.str eT) (.str s!"text") (h++[.list []])=ac ag) (rfl:aA (h++[.list []]) (.j ag)=ac ag) (rfl:cH (h++[.list []]) (.tup [.str eT,.str t]) (.a 0)=ac (.str eT)) (rfl:aQ .Eq (.str eT) (.str s!"cmd") (h++[.list []])=ac af) (rfl:aA (h++[.list []]) (.j af)=ac af) (nF k) u (rfl:cH (h++[.list []]) (.tup [.str eT,.str t]) (.a 1)=ac (.str t)) l trivial) (by kernel_rfl))) p (Fr.app.trans j) (I.mono (by rw[aU];exact dm _ _))
theorem a52:eR (an a) (call prog b c (n+2)) (.ref 392) [.obj (an a).o,.tup [.tup [.str jH,.str []]]] s s (.ok (.str [])):=by
 intro h x;have x:cq a s h:=x;have e:(h++[O.list []])[h.length]?=ac (.list []):=by rw[fM (bI _),gJ];rfl
 have f:((h++[O.list []]).set h.length (.list ([]++[.str []])))[h.length]?=ac (.list [.str []]):=ig (List.getElem?_eq_some_iff.mp e).1;exact br _ (QI (be (g:=rH) [.v (.str jH),.b af,.b af,.g (.builtin "list.append") [.obj h.length],.v (.str []),.r (.ok .none ((h++[O.list []]).set h.length (.list ([]++[.str []]))))]
   (nj (rfl:cH (h++[.list []]) (.tup [.str jH,.str []]) (.a 0)=ac (.str jH)) (rfl:aQ .Eq (.str jH) (.str s!"text") (h++[.list []])=ac af) (rfl:aA (h++[.list []]) (.j af)=ac af) (nF e) (rfl:cH (h++[.list []]) (.tup [.str jH,.str []]) (.a 1)=ac (.str [])) (vN (C:=call prog b c (n+1)) (d:=ae) (v:=.str []) (λi h=>lS) e (by decide)) trivial) (by kernel_rfl)) (AP (b:=b) (c:=c) (d:=ae) (n:=n) f (l:=[[]]) rfl (by decide) (by decide))) ((an a).keep s _ _ ((an a).app (g:=[.list []]) x) (NO (λm=>jn _ ((x.lt:∀g∈a,g<h.length) _ m):h.length∉a))) (Fr.app.set (bI _))
noncomputable def mq:cJ->cJ
 |.ok v=>.ok v|.exc f g e i j=>if f=1 then .exc f g e i j else if f=3 then .ok .none else if f=4 then .ok (.str [])else .ok (.str g)
theorem tD(e:(f==k)=g):aQ .Eq (.a f) (.a k) h=ac g:=(hP (h:=h)).trans (congrArg ac e)
theorem Pp(w:eR (an a) (call prog b c (n+1)) (.ref 392) [.obj (an a).o,.tup [p]] s D o):
  eR (an a) (call prog b c (n+2)) (.ref 687) [.obj (an a).o,p] s D (mq o):=by
 intro h x;have w:=w h x;have y:∀{r:Mine.Internal.X},aJ prog b (call prog b c (n+1)) c yy.body [ac (.obj (an a).o),ac p,ae,ae] h ae=r->call prog b c (n+2) (.m (.ref 687)) [.obj (an a).o,p] ae h=bY r:=λe=>(cX af3 (rfl:fS yy [.obj (an a).o,p]=ac [ac (.obj (an a).o),ac p,ae,ae])).trans (congrArg bY e)
 induction o using cJ.casesOn with
 |ok v=>exact bP w λf q t u=>br f (y (be (r:=ac (.B v,[ac (.obj (an a).o),ac p,ae,ae],f)) [.r (.ok v f)] (jm q trivial) (by kernel_rfl))) t u
 |exc g m e E F=>
  refine dz w λf i G q t u L=>mE (id L) λU N P Q z I S=>?_;have j:=jU (v:=.a g) z I vO rfl;have T:=jU (v:=.str m) z I DC rfl;have k:=sN z;clear w N P Q I S;show match(if g=1 then cJ.exc g m e E F else if g=3 then .ok .none else if g=4 then .ok (.str [])else .ok (.str m))with
   |.ok v=>∃l,call prog b c (n+2) (.m (.ref 687)) [.obj (an a).o,p] ae h=.ok v l/\(an a).I D l/\Fr (an a).φ h l|.exc g m e E F=>∃l i G,call prog b c (n+2) (.m (.ref 687)) [.obj (an a).o,p] ae h=.exc i l/\(an a).I D l/\Fr (an a).φ h l/\dj h.length l i (.a g::.str m::e::E::F::G)
  by_cases A:g=1
  ·rw[if_pos A];exact fG f i G (y (be (r:=ac (.exc i,[ae,ae,ae,ae],f)) [.r (.exc i f),.v (.a g),.b af,.b af,.x (ac (.exc i,[ac (.obj (an a).o),ac p,ac (.obj i),ae],f))]
    (nj q k j (tD (h:=f) (beq_iff_eq.mpr A)) (rfl:aA f (.j af)=ac af) (GD (f:=[ac (.obj (an a).o),ac p,ac (.obj i),ae]) z) trivial) (by kernel_rfl))) t u L
  ·rw[if_neg A];have J:=tD (h:=f) (beq_eq_false_iff_ne.mpr A);by_cases B:g=3
   ·rw[if_pos B];exact br f (y (be (r:=ac (.B .none,[ae,ae,ae,ae],f)) [.r (.exc i f),.v (.a g),.b ag,.b ag,.v (.a g),.b af,.b af]
     (nk q k j J (rfl:aA f (.j ag)=ac ag) j (tD (h:=f) (beq_iff_eq.mpr B)) (rfl:aA f (.j af)=ac af) trivial) (by kernel_rfl))) t u
   ·rw[if_neg B];have M:=tD (h:=f) (beq_eq_false_iff_ne.mpr B);by_cases C:g=4
    ·rw[if_pos C];exact br f (y (be (r:=ac (.B (.str []),[ae,ae,ae,ae],f)) [.r (.exc i f),.v (.a g),.b ag,.b ag,.v (.a g),.b ag,.b ag,.v (.a g),.b af,.b af]
      (tz q k j J (rfl:aA f (.j ag)=ac ag) j M (rfl:aA f (.j ag)=ac ag) j (tD (h:=f) (beq_iff_eq.mpr C)) (rfl:aA f (.j af)=ac af) trivial) (by kernel_rfl))) t u
    ·rw[if_neg C];exact br f (y (be (r:=ac (.B (.str m),[ae,ae,ae,ae],f)) [.r (.exc i f),.v (.a g),.b ag,.b ag,.v (.a g),.b ag,.b ag,.v (.a g),.b ag,.b ag,.v (.str m)]
      (AI q k j J (rfl:aA f (.j ag)=ac ag) j M (rfl:aA f (.j ag)=ac ag) j (tD (h:=f) (beq_eq_false_iff_ne.mpr C)) (rfl:aA f (.j ag)=ac ag) T trivial) (by kernel_rfl))) t u
end
end
section
noncomputable def gR(e:Bool)(l:Nat):Bool:=l==92&&e
noncomputable def hU(f g:Bool)(l:Nat):Bool:=(l==91&&f)||(l==36&&g)
set_option genCtorIdx true in
inductive iX where
 |ok (l:List (List Nat))
 |exc (m:Int) (n:List Nat) (o p q:V)
def Dj(C:bc)(t:List Nat)(p:Nat)(n:V)(o:List Nat):Prop:=∀h,∃l m x,C (.m (.ref 680)) [.str t,.a p] ae h=.ok (.tup [n,.a t.length,.obj m]) (h++l)/\dj h.length (h++l) m (qP o++[.obj x])
noncomputable def qL(l:List (List Nat))(m:List Nat):cJ->iX
 |.ok .none=>.ok l|.ok _=>.exc 1 m (.tup [.str ln]) (.a 0) (.a 0)|.exc n o p q r=>.exc n o p q r
section
variable(c:List Nat)(C:bc)(t:List Nat)(e f g:Bool)
def UH(P:Nat->Nat->List (List Nat)->bd->bd->iX->Prop):Prop:=(∀{p:Nat} {l:List (List Nat)} {s:bd},t.length<=p->P 0 p l s s (.ok l))/\(∀{r p m:Nat} {l:List (List Nat)} {s n:bd} {o:iX},t[p]?=ac m->gR e m=ag->hU f g m=ag->l.length<1000->P r (p+1) (l++[[m]]) s n o->P (r+1) p l s n o)/\(∀{r p q:Nat} {w:List Nat} {l:List (List Nat)} {s n:bd} {o:iX},t[p]?=ac 92->e=af->bU C ae 230 [.str t,.a p] (.tup [.str w,.a q])->l.length<1000->P r q (l++[w]) s n o->P (r+1) p l s n o)/\(∀{r p q m:Nat} {w:List Nat} {u:V} {l:List (List Nat)} {s z n:bd} {o:iX},t[p]?=ac m->gR e m=ag->hU f g m=af->bU C ae 680 [.str t,.a p] (.tup [u,.a q,.none])->eR (an c) C (.ref 687) [.obj (an c).o,u] s z (.ok (.str w))->l.length<1000->P r q (l++[w]) z n o->P (r+1) p l s n o)/\(∀{p m:Nat} {A:List Nat} {u:V} {l:List (List Nat)} {s n:bd} {o:cJ},t[p]?=ac m->gR e m=ag->hU f g m=af->Dj C t p u A->eR (an c) C (.ref 687) [.obj (an c).o,u] s n o->(∀v,o=.ok v->v=.none\/∃w,v=.str w)->l.flatten.length<=1000->l.length<1000->P 0 p l s n (qL l A o))
def SC(l:Nat)(m:Nat)(n:List (List Nat))(o:bd)(p:bd)(q:iX):Prop:=∀P,UH c C t e f g P->P l m n o p q
variable{c C t e f g}
theorem SC.done{p:Nat}{l:List (List Nat)}{s:bd}(m:t.length<=p):SC c C t e f g 0 p l s s (.ok l):=λP n=>n.1 m
theorem SC.d5{n p l:Nat}{m:List (List Nat)}{s q:bd}{o:iX}(r:t[p]?=ac l)(u:gR e l=ag)(v:hU f g l=ag)(w:m.length<1000)(z:SC c C t e f g n (p+1) (m++[[l]]) s q o):SC c C t e f g (n+1) p m s q o:=λP l=>l.2.1 r u v w (z P l)
theorem SC.q6{m p q:Nat}{w:List Nat}{l:List (List Nat)}{s n:bd}{o:iX}(u:t[p]?=ac 92)(v:e=af)(z:bU C ae 230 [.str t,.a p] (.tup [.str w,.a q]))(A:l.length<1000)(B:SC c C t e f g m q (l++[w]) s n o):SC c C t e f g (m+1) p l s n o:=λP r=>r.2.2.1 u v z A (B P r)
theorem SC.m5{n p q l:Nat}{w:List Nat}{r:V}{m:List (List Nat)}{s u v:bd}{o:iX}(z:t[p]?=ac l)(A:gR e l=ag)(B:hU f g l=af)(D:bU C ae 680 [.str t,.a p] (.tup [r,.a q,.none]))(E:eR (an c) C (.ref 687) [.obj (an c).o,r] s u (.ok (.str w)))(F:m.length<1000)(G:SC c C t e f g n q (m++[w]) u v o):SC c C t e f g (n+1) p m s v o:=λP l=>l.2.2.2.1 z A B D E F (G P l)
theorem SC.q7{p l:Nat}{n:List Nat}{q:V}{m:List (List Nat)}{s r:bd}{o:cJ}(u:t[p]?=ac l)(z:gR e l=ag)(A:hU f g l=af)(B:Dj C t p q n)(D:eR (an c) C (.ref 687) [.obj (an c).o,q] s r o)(E:(∀v,o=.ok v->v=.none\/∃w,v=.str w))(F:m.flatten.length<=1000)(G:m.length<1000):SC c C t e f g 0 p m s r (qL m n o):=λP l=>l.2.2.2.2 u z A B D E F G
end
inductive sx(c:List Nat)(s:bd)(m:H)(a:Nat)(r:Mine.Internal.X):iX->Prop
 |next(o:List (List Nat)) (n:av) (l:H) (p:r=ac (.next,n,l)) (F:n[5]?=ac (ac (.obj a))) (G:l[a]?=ac (.list (o.map .str))) (x:cq c s l) (q:Fr c m l):sx c s m a r (.ok o)
 |B (o:List (List Nat)) (n:av) (l:H) (p:r=ac (.B (.str o.flatten),n,l)) (x:cq c s l) (q:Fr c m l):sx c s m a r (.ok o)
 |exc (u:Int) (v:List Nat) (w z A:V) (D:Nat) (l:H) (n:av) (E:List V) (p:r=ac (.exc D,n,l)) (x:cq c s l) (q:Fr c m l) (I:dj m.length l D (.a u::.str v::w::z::A::E)):sx c s m a r (.exc u v w z A)
noncomputable def pp:Ex:=xw (lM.body.getD 2 .b9)
noncomputable def GX:List St:=jJ (lM.body.getD 2 .b9)
noncomputable def Ly:Ex:=.d6 .And [(.Q (.loc 7) .Eq (.str [92])),(.loc 2)]
noncomputable def Lz:Ex:=.d6 .Or [(.d6 .And [(.Q (.loc 7) .Eq (.str [91])),(.loc 3)]),(.d6 .And [(.Q (.loc 7) .Eq (.str [36])),(.loc 4)])]
section
variable{i:aj->Option (List Int)}{C:bc}{k:Nat}{e f g:Bool}
theorem Zz{l m:Nat}:(([l]:List Nat)==[m])=(l==m):=by
 by_cases h:l=m
 ·subst h;simp
 ·have:¬([l]=[m]):=λq=>h (by injection q);rw[beq_eq_false_iff_ne.mpr h,beq_eq_false_iff_ne.mpr this]
theorem Aa{l:gv}{a b:V}{h:H}{t:Bool}(m:aQ l a b h=ac t):iv l a b h=.ok (.j t) h:=by unfold iv;rw[m]
section
variable{d:av}{h:H}{a b:Ex}{x y:Bool}{j:Option Nat}
theorem Ao{l:Nat}{v:V}(m:d[l]?=ac (ac v)):ev prog i C j d (.loc l) h=.ok v h:=by
 show(match d[l]? with|some (ac v)=>R.ok v h|_=>.i)=_;rw[m]
theorem En(l:ev prog i C j d a h=.ok (.j x) h)(m:ev prog i C j d b h=.ok (.j y) h):ev prog i C j d (.d6 .And [a,b]) h=.ok (.j (x&&y)) h:=by
 show R.bind (ev prog i C j d a h) _=_;rw[l]
 cases x with
 |false=>rfl|true=>
  show R.bind (ev prog i C j d b h) _=_;rw[m];rfl
theorem ZY(l:ev prog i C j d a h=.ok (.j x) h)(m:ev prog i C j d b h=.ok (.j y) h):ev prog i C j d (.d6 .Or [a,b]) h=.ok (.j (x||y)) h:=by
 show R.bind (ev prog i C j d a h) _=_;rw[l]
 cases x with
 |true=>rfl|false=>
  show R.bind (ev prog i C j d b h) _=_;rw[m];rfl
theorem Ep{n m l:Nat}(o:d[n]?=ac (ac (.str [m]))):ev prog i C j d (.Q (.loc n) .Eq (.str [l])) h=.ok (.j (m==l)) h:=by
 show R.bind (ev prog i C j d (.loc n) h) (λa h=>R.bind (R.ok (V.str [l]) h) λb h=>iv .Eq a b h)=_;rw[Ao o];exact Aa (l:=.Eq) (a:=.str [m]) (b:=.str [l]) (h:=h) ((kO (h:=h) (f:=[m]) (b:=[l])).trans (congrArg ac Zz))
end
theorem ZW{d:av}{h:H}{l:Nat}(m:d[7]?=ac (ac (.str [l])))(n:d[2]?=ac (ac (.j e))):ev prog i C ae d Ly h=.ok (.j (gR e l)) h:=En (Ep m) (Ao n)
theorem ZX{d:av}{h:H}{l:Nat}(m:d[7]?=ac (ac (.str [l])))(n:d[3]?=ac (ac (.j f)))(o:d[4]?=ac (ac (.j g))):ev prog i C ae d Lz h=.ok (.j (hU f g l)) h:=ZY (En (Ep m) (Ao n)) (En (Ep m) (Ao o))
end
end
section
section
variable{b:aj->Option (List Int)}{c:Nat}{i f g:Bool}{d:List Nat}{n:Nat}{t:List Nat}{h m:H}{a:Nat}{p:Int}{q j k l e:Option V}{o r:av}{N:Nat}
noncomputable def dx(d:List Nat)(t:List Nat)(i f g:Bool)(a:Nat)(p:Int)(q j k l e:Option V):av:=[ac (.obj (an d).o),ac (.str t),ac (.j i),ac (.j f),ac (.j g),ac (.obj a),ac (.a p),q,j,k,l,e]
noncomputable def rE(b:aj->Option (List Int))(c n:Nat)(o:av)(h:H):Mine.Internal.X:=aJ prog b (call prog b c (n+1)) c GX o h ae
noncomputable def BG(b:aj->Option (List Int))(c n N:Nat)(o:av)(h:H):Mine.Internal.X:=py (λo h=>ev prog b (call prog b c (n+1)) ae o pp h) (λo h=>aJ prog b (call prog b c (n+1)) c GX o h ae) N o h
theorem uf{p s:Nat}(u:t[p]?=ac s):ev prog b (call prog b c (n+1)) ae (dx d t i f g a p q j k l e) pp h=.ok (.j af) h:=
 hY [.r (.ok (.a t.length) h),.b af] (dc (gT (a:=b) (b:=c) (n:=n) (s:=t) (c:=ae) (h:=h)) (congrArg ac (Oo u)) trivial) (by kernel_rfl)
theorem ue{s:Mine.Internal.X}(u:ev prog b (call prog b c (n+1)) ae o pp h=.ok (.j af) h)(v:rE b c n o h=s):BG b c n (N+1) o h=nO s λo h=>BG b c n N o h:=by
 show aO (ev prog b (call prog b c (n+1)) ae o pp h) o _=_;rw[u];subst v;rfl
theorem GQ{s:List (List Nat)}{w:List Nat}(u:h[a]?=ac (.list (s.map .str))):(h.set a (.list (s.map .str++[.str w])))[a]?=ac (.list ((s++[w]).map .str)):=by
 rw[ig (List.getElem?_eq_some_iff.mp u).1,pF];rfl
theorem GP{s:List (List Nat)}{w:List Nat}(u:h[a]?=ac (.list (s.map .str)))(v:s.length<1000):call prog b c (n+1) (.m (.builtin "list.append")) [.obj a,.str w] ae h=.ok .none (h.set a (.list (s.map .str++[.str w]))):=
 vN (C:=call prog b c (n+1)) (d:=ae) (v:=.str w) (λx h=>lS) u (by rw[bH];exact mJ v (by decide))
theorem ud{s:Nat}{u:Bool}(v:gR i s=u):ev prog b (call prog b c (n+1)) ae (dx d t i f g a p (ac (.str [s])) j k l e) Ly h=.ok (.j u) h:=v▸ZW rfl rfl
theorem xj{s:Nat}{u:Bool}(v:hU f g s=u):ev prog b (call prog b c (n+1)) ae (dx d t i f g a p (ac (.str [s])) j k l e) Lz h=.ok (.j u) h:=v▸ZX rfl rfl rfl
theorem aS8{p s:Nat}{u:List (List Nat)}(w:t[p]?=ac s)(x:gR i s=ag)(y:hU f g s=ag)(z:u.length<1000)(v:h[a]?=ac (.list (u.map .str))):
  rE b c n (dx d t i f g a p q j k l e) h=ac (.next,dx d t i f g a (p+1:Nat) (ac (.str [s])) (ac (.str [s])) k l e,h.set a (.list (u.map .str++[.str [s]]))):=
 be [.v (.str [s]),.e (.ok (.j ag) h),.b ag,.e (.ok (.j ag) h),.b ag,.r (.ok (.a (p+1)) h),.g (.builtin "list.append") [.obj a],.r (.ok .none (h.set a (.list (u.map .str++[.str [s]]))))]
  (nk (jX (h:=h) w) (ud (b:=b) (c:=c) (n:=n) (d:=d) (t:=t) (f:=f) (g:=g) (a:=a) (p:=p) (j:=j) (k:=k) (l:=l) (e:=e) (h:=h) x) (rfl:aA h (.j ag)=ac ag) (xj (b:=b) (c:=c) (n:=n) (d:=d) (t:=t) (i:=i) (a:=a) (p:=p) (j:=j) (k:=k) (l:=l) (e:=e) (h:=h) y) (rfl:aA h (.j ag)=ac ag) (rfl:js .Add (.a (p:Int)) (.a 1) h=.ok (.a (p+1)) h) (nF v) (GP (b:=b) (c:=c) (n:=n) (w:=[s]) v z) trivial) (by kernel_rfl)
theorem aS1{p u:Nat}{v:List (List Nat)}{w:List Nat}{s:H}(y:t[p]?=ac 92)(z:gR i 92=af)(A:call prog b c (n+1) (.m (.ref 230)) [.str t,.a p] ae h=.ok (.tup [.str w,.a u]) (h++s))(B:v.length<1000)(x:(h++s)[a]?=ac (.list (v.map .str))):
  rE b c n (dx d t i f g a p q j k l e) h=ac (.next,dx d t i f g a u (ac (.str [92])) (ac (.str w)) k l e,(h++s).set a (.list (v.map .str++[.str w]))):=
 be [.v (.str [92]),.e (.ok (.j af) h),.b af,.r (.ok (.tup [.str w,.a u]) (h++s)),.x (ac (.next,dx d t i f g a u (ac (.str [92])) (ac (.str w)) k l e,h++s)),.g (.builtin "list.append") [.obj a],.r (.ok .none ((h++s).set a (.list (v.map .str++[.str w]))))]
  (wm (jX (h:=h) y) (ud (b:=b) (c:=c) (n:=n) (d:=d) (t:=t) (f:=f) (g:=g) (a:=a) (p:=p) (j:=j) (k:=k) (l:=l) (e:=e) (h:=h) z) (rfl:aA h (.j af)=ac af) A (rfl:jj ae [8,6] (dx d t i f g a p (ac (.str [92])) j k l e) (.tup [.str w,.a u]) (h++s)=_) (nF x) (GP (b:=b) (c:=c) (n:=n) (w:=w) x B) trivial) (by kernel_rfl)
theorem aS7{p v s:Nat}{y:List (List Nat)}{w:List Nat}{u:V}{x:H}(A:t[p]?=ac s)(B:gR i s=ag)(C:hU f g s=af)(D:call prog b c (n+1) (.m (.ref 680)) [.str t,.a p] ae h=.ok (.tup [u,.a v,.none]) (h++x))
  (E:call prog b c (n+1) (.m (.ref 687)) [.obj (an d).o,u] ae (h++x)=.ok (.str w) m) (F:y.length<1000) (z:m[a]?=ac (.list (y.map .str))):
  rE b c n (dx d t i f g a p q j k l e) h=ac (.next,dx d t i f g a v (ac (.str [s])) (ac (.str w)) (ac u) (ac .none) e,m.set a (.list (y.map .str++[.str w]))):=
 be [.v (.str [s]),.e (.ok (.j ag) h),.b ag,.e (.ok (.j af) h),.b af,.r (.ok (.tup [u,.a v,.none]) (h++x)),.x (ac (.next,dx d t i f g a v (ac (.str [s])) j (ac u) (ac .none) e,h++x)),.r (.ok (.str w) m),.b ag,.b ag,.b ag,.b ag,.g (.builtin "list.append") [.obj a],.r (.ok .none (m.set a (.list (y.map .str++[.str w]))))]
  (Fc (jX (h:=h) A) (ud (b:=b) (c:=c) (n:=n) (d:=d) (t:=t) (f:=f) (g:=g) (a:=a) (p:=p) (j:=j) (k:=k) (l:=l) (e:=e) (h:=h) B) (rfl:aA h (.j ag)=ac ag) (xj (b:=b) (c:=c) (n:=n) (d:=d) (t:=t) (i:=i) (a:=a) (p:=p) (j:=j) (k:=k) (l:=l) (e:=e) (h:=h) C) (rfl:aA h (.j af)=ac af) D (rfl:jj ae [9,6,10] (dx d t i f g a p (ac (.str [s])) j k l e) (.tup [u,.a v,.none]) (h++x)=_) E (rfl:aQ .Is (.str w) .none m=ac ag) (rfl:aA m (.j ag)=ac ag) (rfl:aQ .IsNot .none .none m=ac ag) (rfl:aA m (.j ag)=ac ag) (nF z) (GP (b:=b) (c:=c) (n:=n) (w:=w) z F) trivial) (by kernel_rfl)
theorem aS2{p s:Nat}{u:V}{v:H}{w x:Nat}(y:t[p]?=ac s)(z:gR i s=ag)(A:hU f g s=af)(B:call prog b c (n+1) (.m (.ref 680)) [.str t,.a p] ae h=.ok (.tup [u,.a t.length,.obj w]) (h++v))
  (C:call prog b c (n+1) (.m (.ref 687)) [.obj (an d).o,u] ae (h++v)=.exc x m):rE b c n (dx d t i f g a p q j k l e) h=ac (.exc x,dx d t i f g a t.length (ac (.str [s])) j (ac u) (ac (.obj w)) e,m):=
 be [.v (.str [s]),.e (.ok (.j ag) h),.b ag,.e (.ok (.j af) h),.b af,.r (.ok (.tup [u,.a t.length,.obj w]) (h++v)),.x (ac (.next,dx d t i f g a t.length (ac (.str [s])) j (ac u) (ac (.obj w)) e,h++v)),.r (.exc x m)] (nk (jX (h:=h) y) (ud (b:=b) (c:=c) (n:=n) (d:=d) (t:=t) (f:=f) (g:=g) (a:=a) (p:=p) (j:=j) (k:=k) (l:=l) (e:=e) (h:=h) z) (rfl:aA h (.j ag)=ac ag) (xj (b:=b) (c:=c) (n:=n) (d:=d) (t:=t) (i:=i) (a:=a) (p:=p) (j:=j) (k:=k) (l:=l) (e:=e) (h:=h) A) (rfl:aA h (.j af)=ac af) B (rfl:jj ae [9,6,10] (dx d t i f g a p (ac (.str [s])) j k l e) (.tup [u,.a t.length,.obj w]) (h++v)=_) C trivial) (by kernel_rfl)
theorem aS3{p s:Nat}{x:List (List Nat)}{u:V}{v:H}{w:Nat}(y:t[p]?=ac s)(z:gR i s=ag)(A:hU f g s=af)(B:call prog b c (n+1) (.m (.ref 680)) [.str t,.a p] ae h=.ok (.tup [u,.a t.length,.obj w]) (h++v))
  (C:call prog b c (n+1) (.m (.ref 687)) [.obj (an d).o,u] ae (h++v)=.ok .none m) (D:call prog b c (n+1) (.m (.builtin "str.join")) [.str [],.obj a] ae m=.ok (.str x.flatten) m):
  rE b c n (dx d t i f g a p q j k l e) h=ac (.B (.str x.flatten),dx d t i f g a t.length (ac (.str [s])) (ac .none) (ac u) (ac (.obj w)) e,m):=
 be [.v (.str [s]),.e (.ok (.j ag) h),.b ag,.e (.ok (.j af) h),.b af,.r (.ok (.tup [u,.a t.length,.obj w]) (h++v)),.x (ac (.next,dx d t i f g a t.length (ac (.str [s])) j (ac u) (ac (.obj w)) e,h++v)),.r (.ok .none m),.b af,.b af,.g (.builtin "str.join") [.str []],.r (.ok (.str x.flatten) m)] (AI (jX (h:=h) y) (ud (b:=b) (c:=c) (n:=n) (d:=d) (t:=t) (f:=f) (g:=g) (a:=a) (p:=p) (j:=j) (k:=k) (l:=l) (e:=e) (h:=h) z) (rfl:aA h (.j ag)=ac ag) (xj (b:=b) (c:=c) (n:=n) (d:=d) (t:=t) (i:=i) (a:=a) (p:=p) (j:=j) (k:=k) (l:=l) (e:=e) (h:=h) A) (rfl:aA h (.j af)=ac af) B (rfl:jj ae [9,6,10] (dx d t i f g a p (ac (.str [s])) j k l e) (.tup [u,.a t.length,.obj w]) (h++v)=_) C (rfl:aQ .Is .none .none m=ac af) (rfl:aA m (.j af)=ac af) (Ox (h:=m) (s:=[])) D trivial) (by kernel_rfl)
theorem aS4{p u:Nat}{w:List Nat}{v:V}{x:H}{s:Nat}(y:t[p]?=ac u)(z:gR i u=ag)(A:hU f g u=af)(B:call prog b c (n+1) (.m (.ref 680)) [.str t,.a p] ae h=.ok (.tup [v,.a t.length,.obj s]) (h++x))
  (C:call prog b c (n+1) (.m (.ref 687)) [.obj (an d).o,v] ae (h++x)=.ok (.str w) m) (D:pk prog ae (dx d t i f g a t.length (ac (.str [u])) (ac (.str w)) (ac v) (ac (.obj s)) e) (.obj s) m=ac (.exc s,dx d t i f g a t.length (ac (.str [u])) (ac (.str w)) (ac v) (ac (.obj s)) e,m)):
  rE b c n (dx d t i f g a p q j k l e) h=ac (.exc s,dx d t i f g a t.length (ac (.str [u])) (ac (.str w)) (ac v) (ac (.obj s)) e,m):=
 be [.v (.str [u]),.e (.ok (.j ag) h),.b ag,.e (.ok (.j af) h),.b af,.r (.ok (.tup [v,.a t.length,.obj s]) (h++x)),.x (ac (.next,dx d t i f g a t.length (ac (.str [u])) j (ac v) (ac (.obj s)) e,h++x)),.r (.ok (.str w) m),.b ag,.b ag,.b af,.b af,.x (ac (.exc s,dx d t i f g a t.length (ac (.str [u])) (ac (.str w)) (ac v) (ac (.obj s)) e,m))] (Fb (jX (h:=h) y) (ud (b:=b) (c:=c) (n:=n) (d:=d) (t:=t) (f:=f) (g:=g) (a:=a) (p:=p) (j:=j) (k:=k) (l:=l) (e:=e) (h:=h) z) (rfl:aA h (.j ag)=ac ag) (xj (b:=b) (c:=c) (n:=n) (d:=d) (t:=t) (i:=i) (a:=a) (p:=p) (j:=j) (k:=k) (l:=l) (e:=e) (h:=h) A) (rfl:aA h (.j af)=ac af) B (rfl:jj ae [9,6,10] (dx d t i f g a p (ac (.str [u])) j k l e) (.tup [v,.a t.length,.obj s]) (h++x)=_) C (rfl:aQ .Is (.str w) .none m=ac ag) (rfl:aA m (.j ag)=ac ag) (rfl:aQ .IsNot (.obj s) .none m=ac af) (rfl:aA m (.j af)=ac af) D trivial) (by kernel_rfl)
theorem aT0{p:Nat}(s:t.length<=p):ev prog b (call prog b c (n+1)) ae (dx d t i f g a p q j k l e) pp h=.ok (.j ag) h:=
 hY [.r (.ok (.a t.length) h),.b ag] (dc (gT (a:=b) (b:=c) (n:=n) (s:=t) (c:=ae) (h:=h)) (congrArg ac (decide_eq_false (show¬((p:Int)<(t.length:Int)) by lia))) trivial) (by kernel_rfl)
theorem aS5(s:ev prog b (call prog b c (n+1)) ae o pp h=.ok (.j ag) h):BG b c n (N+1) o h=ac (.next,o,h):=by
 show aO (ev prog b (call prog b c (n+1)) ae o pp h) o _=_;rw[s];rfl
theorem a22(s:List (List Nat)):gV (s.map V.str)=ac s:=by
 induction s with
 |nil=>rfl|cons w u v=>show(gV (u.map V.str)).map (w::·)=_;rw[v];rfl
theorem aS9{u:List V}{v s:Nat}{o:av}(w:dj v m s u):pk prog ae o (.obj s) m=ac (.exc s,o,m):=by
 refine mE (id w) λy z A B x C D=>?_;unfold pk;dsimp only;rw[x];dsimp only;rw[yY];rfl
theorem Ft{u:O}(v:a∉d):∀s∈d,(h.set a u)[s]?=h[s]?:=λs w=>fZ λx:a=s=>v (x▸w)
def IR(d:List Nat)(b:aj->Option (List Int))(c n:Nat)(t:List Nat)(i f g:Bool)(v p:Nat)(w:List (List Nat))(s y:bd)(z:iX):Prop:=∀(N:Nat) (u h:H) (a:Nat) (q j k l e:Option V),v+1<N->cq d s h->Fr d u h->u.length<=a->h[a]?=ac (.list (w.map .str))->(∀x∈d,x<u.length)->
  sx d y u a (BG b c n N (dx d t i f g a p q j k l e) h) z
theorem aS6{d:List Nat}{n:Nat}{t:List Nat}{z1 p:Nat}{Y:List (List Nat)}{z0 s':bd}{Z:iX}(hS:SC d (call prog b c (n+1)) t i f g z1 p Y z0 s' Z):IR d b c n t i f g z1 p Y z0 s' Z:=by
 refine hS (IR d b c n t i f g) (gk (λs=>?_) (λs B E Q S=>?_) (λs B E Q S=>?_) (λs B T E I Q S=>?_) (λ{p zb zc pt Y z0 s' Z} s B T E I hv hl z2=>?_))
 ·intro N F h a q j k l e w x u v A y
  cases N with
  |zero=>exact absurd w (fw _)|succ N=>exact .next _ _ h (aS5 (aT0 s)) rfl A x u
 ·intro N F h a q j k l e w x u v A y;have J:a∉d:=λC=>Nat.not_lt.mpr v (y a C)
  cases N with
  |zero=>exact absurd w (fw _)|succ N=>
   rw[ue (uf s) (aS8 s B E Q A)];exact S N F _ a _ _ _ _ _ (nZ w) (qR x (Ft J)) (u.set v) v (GQ A) y
 ·intro N F h a q j k l e w x u v A y;have J:a∉d:=λC=>Nat.not_lt.mpr v (y a C);refine am (E h trivial) λL G=>?_;have U:=cQ (y:=L) A
  cases N with
  |zero=>exact absurd w (fw _)|succ N=>
   rw[ue (uf s) (aS1 s B G Q U)];exact S N F _ a _ _ _ _ _ (nZ w) (qR ((an d).app (g:=L) x) (Ft J)) ((u.trans .app).set v) v (GQ U) y
 ·intro N F h a q j k l e w x u v A y;have J:a∉d:=λC=>Nat.not_lt.mpr v (y a C);refine am (E h trivial) λL G=>bP (I (h++L) ((an d).app x)) λm M P D=>?_;have U:=D.obj (cQ A) J
  cases N with
  |zero=>exact absurd w (fw _)|succ N=>
   rw[ue (uf s) (aS7 s B T G M Q U)];exact S N F _ a _ _ _ _ _ (nZ w) (qR P (Ft J)) (((u.trans .app).trans D).set v) v (GQ U) y
 ·intro N F h a q j k l e w x u v A y;refine gY (E h) λL z3 zd G r1=>?_;have I:=I (h++L) ((an d).app x)
  cases N with
  |zero=>exact absurd w (fw _)|succ N=>
  induction Z using cJ.casesOn with
  |exc cd z4 z5 z6 z7=>
   refine dz I λm z8 vs M P D r2=>?_;rw[ue (uf s) (aS2 s B T G M)];exact .exc cd z4 z5 z6 z7 z8 m _ vs rfl P ((u.trans .app).trans D) (r2.mono (aV u.len (by simp)))
  |ok z9=>
   refine bP I λm M P D=>?_;refine(hv z9 rfl).elim (λz=>?_) λz=>?_
   ·subst z;rw[ue (uf s) (aS3 s B T G M (AP (b:=b) (c:=c) (d:=ae) (n:=n) (D.obj (cQ A) (λC=>Nat.not_lt.mpr v (y a C):a∉d)) (a22 Y) (aV hl (by decide)) (aV (pM z2) (by decide))))];exact .B _ _ m rfl P ((u.trans .app).trans D)
   ·refine am z λze z=>?_;subst z;have r3:=(r1.fr D λza C=>fu (y za C) u.len).mono u.len;rw[ue (uf s) (aS4 s B T G M (aS9 r3))];exact .exc _ _ _ _ _ z3 m _ _ rfl P ((u.trans .app).trans D) r3
end
end
section
noncomputable def rF:iX->cJ
 |.ok g=>.ok (.str g.flatten)|.exc h i j k l=>.exc h i j k l
theorem QD:∀(l:List (List Nat)),gV (l.map V.str)=ac l
 |[]=>rfl|w::r=>by show(gV (r.map V.str)).map (w::·)=_;rw[QD r];rfl
section
variable{a:aj->Option (List Int)}{C:bc}{b:Nat}{d e f:Bool}{c:List Nat}{t:List Nat}
theorem af4:prog.fn 695=ac lM:=by kernel_rfl
theorem at6{g:av}{i:Nat}{w:V}{h:H}(k:g[5]?=ac (ac (.obj i)))(l:C (.m (.builtin "str.join")) [.str [],.obj i] ae h=.ok w h):bY (aJ prog a C b (lM.body.drop 3) g h ae)=.ok w h:=by
 have q:ev prog a C ae g (.c3 (.str []) s!"join" [(.loc 5)]) h=.ok w h:=by
  have q:fD prog a C ae g [.loc 5] h=.ok [.obj i] h:=by
   show R.bind (match g[5]? with|some (ac v)=>R.ok v h|_=>.i) (λv h=>R.bind (R.ok ([]:List V) h) λj h=>R.ok (v::j) h)=_;rw[k];rfl
  show R.bind (fD prog a C ae g [.loc 5] h) (λj h=>C (.m (.builtin "str.join")) ([V.str []]++j) ae h)=_;rw[q];exact l
 show bY (match aO (ev prog a C ae g (.c3 (.str []) s!"join" [(.loc 5)]) h) g (λv h=>ac (.B v,g,h))with|some (.next,g,h)=>ac (.next,g,h)|x=>x)=_;rw[q];rfl
theorem QE{n k:Nat}{s w:bd}{o:iX}{m:List V}(B:SC c (call prog a b (n+1)) t d e f k 0 [] s w o)(E:k+1<b)(F:∀j,o=.ok j->j.flatten.length<=1000/\j.length<=1000)
  (G:m=[.obj (an c).o,.str t,.j d,.j e,.j f]\/(d=af/\e=af/\f=af/\m=[.obj (an c).o,.str t])):eR (an c) (call prog a b (n+2)) (.ref 695) m s w (rF o):=by
 intro h x;have x:cq c s h:=x;have I:fS lM m=ac [ac (.obj (an c).o),ac (.str t),ac (.j d),ac (.j e),ac (.j f),ae,ae,ae,ae,ae,ae,ae]:=
  G.elim (λz=>z▸rfl) λz=>rO z λJ L M N=>by rw[J,L,M,N];rfl
 have q:sx c w h h.length (py (λy h=>ev prog a (call prog a b (n+1)) ae y pp h) (λy h=>aJ prog a (call prog a b (n+1)) b GX y h ae) b [ac (.obj (an c).o),ac (.str t),ac (.j d),ac (.j e),ac (.j f),ac (.obj h.length),ac (.a 0),ae,ae,ae,ae,ae] (h++[O.list []])) o:=aS6 (b:=a) (c:=b) B b h (h++[O.list []]) h.length ae ae ae ae ae E ((an c).app (g:=[O.list []]) x) Fr.app (bI _) je x.lt;have A:∀{r:Mine.Internal.X},aJ prog a (call prog a b (n+1)) b lM.body [ac (.obj (an c).o),ac (.str t),ac (.j d),ac (.j e),ac (.j f),ae,ae,ae,ae,ae,ae,ae] h ae=r->call prog a b (n+2) (.m (.ref 695)) m ae h=bY r:=λD=>(cX af4 I).trans (congrArg bY D);clear B
 induction q using sx.casesOn with
 |next j l g p P Q u v=>
  refine aP (F j rfl) λS T=>?_
  ·have r:=be (P:=prog) (c:=a) (C:=call prog a b (n+1)) (e:=b) (b:=ae) (a:=[ac (.obj (an c).o),ac (.str t),ac (.j d),ac (.j e),ac (.j f),ae,ae,ae,ae,ae,ae,ae]) (h:=h) (g:=lM.body.take 3) (r:=ac (.next,l,g)) [.x (ac (.next,l,g))] (jm p trivial) (by kernel_rfl);exact br g ((A ((wc (u:=lM.body.take 3) (b:=lM.body.drop 3)).trans (congrArg (kJ · _) r))).trans (at6 P (AP (n:=n) Q (QD j) (aV S (by decide)) (aV T (by decide))))) u v
 |B j l g p u v=>
  ·exact br g (A (be (r:=ac (.B (.str j.flatten),l,g)) [.x (ac (.B (.str j.flatten),l,g))] (jm p trivial) (by kernel_rfl))) u v
 |exc Y Z D z0 z5 i g l U p u v r=>
  exact fG g i U (A (be (r:=ac (.exc i,l,g)) [.x (ac (.exc i,l,g))] (jm p trivial) (by kernel_rfl))) u v r
theorem OX{s:bd}(l:t.length<1000):∀(k p:Nat) (g:List (List Nat)),p+k=t.length->g.length=p->SC c C t ag ag ag k p g s s (.ok (g++(t.drop p).map λh=>[h]))
 |0,p,g,m,i=>by
  have:t.drop p=[]:=bd0 (by lia);rw[this,bf2,cR];exact .done (by lia)
 |k+1,p,g,m,i=>by
  have j:p<t.length:=by lia
  have n:g++(t.drop p).map (λh=>[h])=(g++[[t[p]]])++(t.drop (p+1)).map (λh=>[h]):=by
   rw[bc9 j,eU,bt];rfl
  rw[n];exact .d5 (nU j) (by simp[gR]) (by simp[hU]) (by lia) (OX (s:=s) l k (p+1) (g++[[t[p]]]) (by lia) (by simp[i]))
theorem EC:∀(t:List Nat),(t.map λg=>[g]).flatten=t
 |[]=>rfl|g::r=>by rw[eU,HG,EC r];rfl
theorem a26{n:Nat}{s:bd}(i:t.length<1000)(j:t.length+1<b):eR (an c) (call prog a b (n+2)) (.ref 695) [.obj (an c).o,.str t,.j ag,.j ag,.j ag] s s (.ok (.str t)):=by
 have h:=QE (a:=a) (b:=b) (n:=n) (OX (c:=c) (C:=call prog a b (n+1)) (s:=s) i t.length 0 [] (by lia) rfl) j (λl g=>by
  injection g with g;subst g;rw[pH,uQ,EC];exact⟨by lia,by simp;lia⟩) (.inl rfl)
 have g:rF (.ok ([]++(t.drop 0).map λk=>[k]))=.ok (.str t):=by
  show cJ.ok (.str _)=_;rw[pH,uQ,EC]
 rw[g]at h;exact h
end
end
section
noncomputable def vX:List Nat:=s!"v[say 9 ok;"
noncomputable def P':List Nat:=s!"say 0 ok"
noncomputable def pX:W:=.tup [.str xg,.str kX,.none]
noncomputable def Pi:V:=.tup [.str xg,.str kX,.none]
noncomputable def p0:W:=.tup [.str eT,.str P']
noncomputable def Ph:V:=.tup [.str eT,.str P']
noncomputable def Dv:List cP:=[⟨680,[],s!"$x[",af,.tup [pX,.M 3,.none]⟩,⟨680,[],s!"[say 0 ok]",af,.tup [p0,.M 11,.none]⟩,⟨230,[],[92,91],af,.tup [.str [91],.M 3]⟩]
theorem UY:Dv.map cP.go=Dv.map wR:=by kernel_rfl
theorem Dw(m:x∈Dv):x.go=ac x.c7:=List.map_inj_left.mp UY x m
noncomputable def tt(f:aj)(e:List W)(d:Int)(g:List (List Nat×W)):RS W:=cY [] prog gn 60 60 60 30 (.m (.ref f)) (.obj 2::e) ae (ey d (.num 0 0) (.list (ac 0) []) g)
theorem aP9:nJ (tt 687 [pX] 0 [])=ac (.str vX,ey 0 (.num 0 0) (.list (ac 0) []) []):=by kernel_rfl
theorem aP8:nJ (tt 687 [p0] 0 [])=ac (.str cr,ey 0 (.num 0 1) (.list (ac 0) [.str [48]]) []):=by kernel_rfl
theorem aP6:nJ (tt 597 [.str kX] 0 [])=ac (.str vX,ey 0 (.num 0 0) (.list (ac 0) []) []):=by kernel_rfl
theorem aP7:nJ (tt 597 [.str kX] 0 (rM af))=ac (.str vX,ey 0 (.num 0 0) (.list (ac 0) []) (rM af)):=by kernel_rfl
section
variable{a:aj->Option (List Int)}{b:Nat}{c:List Nat}
theorem AH(m:60<=b)(o:s.J=g)(p:nJ (tt f i s.d (rM g))=ac (w,ey s.d (.num 0 r) (.list (ac 0) t) (rM g)))(u:31<=n)
  (A:∀d,bW d [] i=ac j) (B:∀d,cV d [] w=ac v) (C:∀d,bW d [] t=ac k) (D:s.log.length+k.length<=1000):eR (an c) (call prog a b n) (.ref f) (.obj (an c).o::j) s ⟨s.d,s.sp+r,s.log++k,s.J⟩ (.ok v):=by
 intro h x;subst o;refine am (EY x) λz y=>ak (GI p) λL e E=>?_;have q:=yT (f:=a) (P:=prog) (T:=[]) (j:=60) (t:=60) (i:=60) (GY s z) m (bI 1) (λN N=>kZ) 30 n u ⟨c,h,_,y⟩ (.m (.ref f)) (.obj 2::i) ae ae (.m (.ref f)) (.obj (an c).o::j) rfl (bw _ _ rfl (al _ (Nd x.len) rfl) (Ce _ _ (A _))) .S;unfold tt at e;rw[e]at q;exact ch q.h7 λF M l G I J=>br F.h (by rw[I,Cb _ _ (B _) J]) (EW l x.len x.log (G▸E) C (by
  cases s.J with
  |false=>exact .inl ⟨rfl,rfl⟩|true=>exact .inr (tA rfl _ rfl)) D) (fy.fr l)
noncomputable def cT:Nat->List Nat
 |1=>s!"p\tq"|2=>s!"a$x"|3=>s!"[say 0 ok]]"|4=>s!"\\[say"|_=>[]
noncomputable def nD(d:Bool):Nat->List (List Nat)
 |1=>[[112],[9],[113]]|2=>if d then[[97],vX]else[[97],[36],[120]]
 |3=>[cr,[93]]|4=>[[91],[115],[97],[121]]|_=>[]
noncomputable def nA(s:bd):Nat->bd
 |3=>⟨s.d,s.sp+1,s.log++[.str [48]],s.J⟩|_=>s
theorem at1(r:60<=b)(J:40<=n)(D:d<5)(u:x=af\/d≠4)(B:s.d=0)(C:s.J=ag)(L:s.log.length<=500)(g:t=cT d++91::p)
  (h:SC c (call prog a b n) t x af y 0 (cT d).length (nD y d) (nA s d) E o):∃k,k<=12/\SC c (call prog a b n) t x af y k 0 [] s E o:=by
 have f:∀j,j≠92->gR x j=ag:=λj F=>by unfold gR;rw[beq_eq_false_iff_ne.mpr F];rfl
 have l:∀j,j≠91->j≠36->hU af y j=ag:=λj z G=>by unfold hU;rw[beq_eq_false_iff_ne.mpr z,beq_eq_false_iff_ne.mpr G];rfl
 cases d with
 |zero=>exact al 0 (gb _) h|succ d=>cases d with
 |zero=>
  subst g;exact al 3 (by lia) (.d5 (l:=112) rfl (f _ (by decide)) (l _ (by decide) (by decide)) (by decide) (.d5 (l:=9) rfl (f _ (by decide)) (l _ (by decide) (by decide)) (by decide) (.d5 (l:=113) rfl (f _ (by decide)) (l _ (by decide) (by decide)) (by decide) h)))
 |succ d=>cases d with
 |zero=>
  cases y with
  |false=>
   subst g;exact al 3 (by lia) (.d5 (l:=97) rfl (f _ (by decide)) rfl (by decide) (.d5 (l:=36) rfl (f _ (by decide)) rfl (by decide) (.d5 (l:=120) rfl (f _ (by decide)) rfl (by decide) h)))
  |true=>
   have m:=wV (b:=a) (a:=b) (g:=ae) (d:=[97]) (e:=p) (f:=[]) (v:=.tup [Pi,.a (3:Nat),.none]) r (Dw (x:=⟨680,[],s!"$x[",af,.tup [pX,.M 3,.none]⟩) (bT (i:=0) rfl)) (λq=>absurd rfl q) (λq=>by injection q) rfl (λe v z=>by
    show(bW e _ [pX,.M 3,.none]).map V.tup=_;rw[iO,iO];rw[show cV e (cP.T ⟨680,[],s!"$x[",af,.tup [pX,.M 3,.none]⟩) (.M 3)=ac (.a (3:Nat)) by
     show ac (V.a (bk e _ 3))=_;rw[show bk e (cP.T ⟨680,[],s!"$x[",af,.tup [pX,.M 3,.none]⟩) (1+2)=1+2 from rA (e:=[97]) v (by decide)]]
    rfl) (n:=n) (by lia)
   have A:=AH (a:=a) (c:=c) r (s:=s) (g:=ag) C (by rw[B];exact aP9) (n:=n) (by lia) (j:=[Pi]) (k:=[]) (v:=.str vX) (λM=>rfl) (λM=>rfl) (λM=>rfl) (by simp;lia);have I:(⟨s.d,s.sp+0,s.log++[],s.J⟩:bd)=s:=by rw[Cn,cR]
   rw[I]at A;have w:t=[97]++s!"$x["++p:=g;rw[<-w]at m;subst g;exact al 2 (by lia) (.d5 (l:=97) rfl (f _ (by decide)) (l _ (by decide) (by decide)) (by decide) (.m5 (l:=36) rfl (f _ (by decide)) rfl m A (by decide) h))
 |succ d=>cases d with
 |zero=>
  have m:=wV (b:=a) (a:=b) (g:=ae) (d:=[]) (e:=93::91::p) (f:=[]) (v:=.tup [Ph,.a (10:Nat),.none]) r (Dw (x:=⟨680,[],s!"[say 0 ok]",af,.tup [p0,.M 11,.none]⟩) (bT (i:=1) rfl)) (λq=>absurd rfl q) (λq=>by injection q) rfl (λe v z=>by
    show(bW e _ [p0,.M 11,.none]).map V.tup=_;rw[iO,iO];rw[show cV e (cP.T ⟨680,[],s!"[say 0 ok]",af,.tup [p0,.M 11,.none]⟩) (.M 11)=ac (.a (10:Nat)) by
     show ac (V.a (bk e _ 11))=_;rw[show bk e (cP.T ⟨680,[],s!"[say 0 ok]",af,.tup [p0,.M 11,.none]⟩) (1+10)=0+10 from rA (e:=[]) v (by decide)]]
    rfl) (n:=n) (by lia)
  have A:=AH (a:=a) (c:=c) r (s:=s) (g:=ag) C (by rw[B];exact aP8) (n:=n) (by lia) (j:=[Ph]) (k:=[.str [48]]) (v:=.str cr) (λM=>rfl) (λM=>rfl) (λM=>rfl) (by simp;lia);have w:t=[]++s!"[say 0 ok]"++93::91::p:=g;rw[<-w]at m;subst g;exact al 2 (by lia) (.m5 (l:=91) rfl (f _ (by decide)) rfl m A (by decide) (.d5 (l:=93) rfl (f _ (by decide)) (l _ (by decide) (by decide)) (by decide) h))
 |succ d=>cases d with
 |succ d=>exact absurd D (by lia)
 |zero=>
  have m:=wV (b:=a) (a:=b) (g:=ae) (d:=[]) (e:=s!"say"++91::p) (f:=[]) (v:=.tup [.str [91],.a (2:Nat)]) r (Dw (x:=⟨230,[],[92,91],af,.tup [.str [91],.M 3]⟩) (bT (i:=2) rfl)) (λq=>absurd rfl q) (λq=>by injection q) rfl (λe v z=>by
    show(bW e _ [.str [91],.M 3]).map V.tup=_;rw[iO,iO];rw[show cV e (cP.T ⟨230,[],[92,91],af,.tup [.str [91],.M 3]⟩) (.M 3)=ac (.a (2:Nat)) by
     show ac (V.a (bk e _ 3))=_;rw[show bk e (cP.T ⟨230,[],[92,91],af,.tup [.str [91],.M 3]⟩) (1+2)=0+2 from rA (e:=[]) v (by decide)]]
    rfl) (n:=n) (by lia)
  have w:t=[]++[92,91]++(s!"say"++91::p):=g;rw[<-w]at m;subst g;exact al 4 (by lia) (.q6 rfl (by rcases u with u|u;exact u;exact absurd rfl u:x=true) m (by decide) (.d5 (l:=115) rfl (f _ (by decide)) (l _ (by decide) (by decide)) (by decide) (.d5 (l:=97) rfl (f _ (by decide)) (l _ (by decide) (by decide)) (by decide) (.d5 (l:=121) rfl (f _ (by decide)) (l _ (by decide) (by decide)) (by decide) h))))
end
end
section
noncomputable def qC:Nat->Nat
 |2=>6|4=>0|5=>1|i=>i
theorem Ad(i:Nat):bv (qC i)=bv i/\bN (qC i)=[]:=by
 match i with
 |0=>exact⟨rfl,rfl⟩|1=>exact⟨rfl,rfl⟩|2=>exact⟨rfl,rfl⟩|3=>exact⟨rfl,rfl⟩|4=>exact⟨rfl,rfl⟩|5=>exact⟨rfl,rfl⟩|i+6=>exact⟨rfl,rfl⟩
noncomputable def dD:List (Nat×Nat×Nat)->List (Nat×Nat×Nat)
 |[]=>[]|[(f,d,i)]=>[(f,d,qC i)]|x::r=>x::dD r
theorem Rn:∀(j:List (Nat×Nat×Nat)) (d:List Nat),j≠[]->(lay d j g).take (gX d j)=lay d (dD j) []
 |[],_,h=>absurd rfl h|[(f,e,i)],d,_=>by
  show(d++(src f e++(bv i++lay (bN i) [] g))).take (d.length+(src f e).length+(bv i).length+0)=d++(src f e++(bv (qC i)++(bN (qC i)++[])));rw[(Ad i).1,(Ad i).2];rw[show d++(src f e++(bv i++lay (bN i) [] g))=(d++src f e++bv i)++lay (bN i) [] g by simp];rw[show d.length+(src f e).length+(bv i).length+0=(d++src f e++bv i).length by simp<;>lia,HL];simp
 |(f,e,i)::y::r,d,_=>by
  show(d++(src f e++(bv i++lay (bN i) (y::r) g))).take (d.length+(src f e).length+(bv i).length+gX (bN i) (y::r))=d++(src f e++(bv i++lay (bN i) (dD (y::r)) []));rw[<-(Rn (g:=g) (y::r) (bN i) (by simp))];rw[show d++(src f e++(bv i++lay (bN i) (y::r) g))=(d++src f e++bv i)++lay (bN i) (y::r) g by simp];rw[show d.length+(src f e).length+(bv i).length+gX (bN i) (y::r)=(d++src f e++bv i).length+gX (bN i) (y::r) by simp<;>lia,bf9];simp
theorem LA:∀{e:List (Nat×Nat×Nat)},(∀x∈e,fR x)->∀x∈dD e,fR x
 |[],h,x,m=>by cases m
 |[(f,d,i)],h,x,m=>by
  cases List.mem_singleton.mp m;exact h (f,d,i) (by simp)
 |(f,d,i)::y::r,h,x,m=>by
  rcases List.mem_cons.mp m with rfl|m
  ·exact h (f,d,i) (by simp)
  ·exact LA (e:=y::r) (λz g=>h z (by simp at g⊢;exact .inr g)) x m
theorem Ed:∀{d:List (Nat×Nat×Nat)},(dD d).length=d.length
 |[]=>rfl|[(f,e,i)]=>rfl|(f,e,i)::y::r=>by show(dD (y::r)).length+1=_;rw[Ed];rfl
theorem PT:∀{j:List (Nat×Nat×Nat)} {s:bd} {d:V},dw g (dD j) s d=dw g j s d
 |[],_,_=>rfl|[(f,h,i)],_,_=>rfl|(f,h,i)::y::r,s,d=>by
  show(match bV f with|none=>dw g (dD (y::r)) (s.next f h) (.str cr)|some e=>_)=(match bV f with|none=>dw g (y::r) (s.next f h) (.str cr)|some e=>_);rw[PT]
theorem GN:∀{m:List (Nat×Nat×Nat)} {s:bd} {w:List Nat},w.length<=1000->∀{v:V},(dw d m s (.str w)).2=.ok v->∃j,v=.str j/\j.length<=1000
 |[],s,w,k,v,h=>by
  induction d using gf.casesOn with
  |d4=>injection h with h;exact al w h.symm k
  |e3=>injection h with h;exact al cr h.symm (by decide)
  |i n=>injection h
 |(f,g,i)::r,s,w,k,v,h=>by
  have e:dw d ((f,g,i)::r) s (.str w)=(match bV f with|none=>dw d r (s.next f g) (.str cr)|some e=>(s.next f g,mo e)):=rfl;rw[e]at h
  cases l:bV f with
  |none=>rw[l]at h;exact GN (by decide) h
  |some x=>rw[l]at h;injection h
noncomputable def eG:gf->List Nat
 |.i d=>d|_=>rp
section
variable{a:aj->Option (List Int)}{b:Nat}{c:List Nat}
theorem WS(f:60<=b)(z:40<=n)(m:iW l o)(r:∀x∈g,fR x)(A:g.length<=20)(s:t=d++91::lay [] g o):
  qb (call prog a b (n+2)) 279 [.str t,.a d.length] (qP (eG l)):=by
 refine dz (VV (a:=a) f (n:=n+1) (by lia) m g r (d++[91]) [] t (bT (i:=0) rfl) (by rw[s];simp)) λp k q e h B j=>?_;have u:(d++[91]).length=d.length+1:=by simp
 rw[u]at e
 induction l using gf.casesOn with
 |d4=>exact JC f (by lia) e h (by lia) j
 |e3=>exact JC f (by lia) e h (by lia) j
 |i C=>
  refine bP j λD v w y=>?_;exact WR e h (by lia) v w y
noncomputable def pi(d:List (Nat×Nat×Nat)):V:=if d=[]then .tup [.str jH,.str []]else .tup [.str eT,.str (lay [] (dD d) [])]
theorem Rm:∀(e:List (Nat×Nat×Nat)) (d:List Nat),gX d e<=(lay d e g).length
 |[],d=>gb _|(f,h,i)::r,d=>by
  show d.length+(src f h).length+(bv i).length+gX (bN i) r<=(d++(src f h++(bv i++lay (bN i) r g))).length;have:=Rm (g:=g) r (bN i);simp only[aU];lia
theorem LV(i:Nat):0<(bv i).length:=by rcases vY i with h|h|h|h<;>rw[h]<;>simp
theorem Pn(s:60<=b)(y:40<=n)(u:iW z m)(v:∀x∈g,fR x)(A:g.length<=20)(o:t=d++91::lay [] g m):
  bU (call prog a b (n+2)) w 673 [.str t,.a d.length] (pi g):=by
 refine ak (aH1 (a:=a) (b:=w) s (n:=n+1) (by lia) u g v (d++[91]) [] t (bT (i:=0) rfl) (by rw[o];simp)) λk B h=>?_;have p:(d++[91]).length=d.length+1:=by simp
 rw[p]at h;have C:=Rm (g:=m) g [];have D:t.length=d.length+1+(lay [] g m).length:=by rw[o];simp;lia
 have q:=UX (l:=a) h (by lia) (by lia) (by lia);have e:tT t (d.length+1) (d.length+1+gX [] g)=pi g:=by
  unfold tT pi
  cases g with
  |nil=>rw[if_pos rfl,if_pos (show d.length+1+gX [] []=d.length+1 from rfl)];rfl
  |cons x r=>
   obtain⟨f,l,j⟩:=x;have:0<gX [] ((f,l,j)::r):=by
    show 0<([]:List Nat).length+(src f l).length+(bv j).length+gX (bN j) r;have:=LV j
    lia
   rw[if_neg (by lia),if_neg (by simp)];unfold ct;rw[show d.length+1+gX [] ((f,l,j)::r)-(d.length+1)=gX [] ((f,l,j)::r) by lia,o,<-p,show d++91::lay [] ((f,l,j)::r) m=(d++[91])++lay [] ((f,l,j)::r) m by simp,bd1,Rn _ _ (by simp)];rfl
 rw[e]at q;exact q
theorem ac3(f:60<=b)(r:50<=n)(g:iW l o)(i:∀x∈d,fR x)(k:d.length<=20)(e:t=p++91::lay [] d o):
  Dj (call prog a b n) t p.length (pi d) (eG l):=by
 refine am (show∃m,n=m+3 from⟨n-3,by lia⟩) λm q=>?_;subst q;intro h;exact aG8 (n:=m+1) (by rw[e,fM (bI _),gJ];rfl) (WS f (n:=m) (by lia) g i k e) (λj=>Pn f (n:=m) (by lia) g i k e) h
noncomputable def lB(d:List (Nat×Nat×Nat))(s:bd):bd×cJ:=
 let p:=dw .d4 d ⟨s.d+1,s.sp,s.log,s.J⟩ (.str [])
 (⟨p.1.d-1,p.1.sp,p.1.log,p.1.J⟩,p.2)
theorem aG9(g:60<=b)(u:60<=n)(i:∀x∈d,fR x)(j:d.length<=20)(k:s.d=0)(l:s.J=ag)(o:s.log.length<=500):
  eR (an c) (call prog a b n) (.ref 687) [.obj (an c).o,pi d] s (lB d s).1 (mq (lB d s).2):=by
 refine am (show∃m,n=m+4 from⟨n-4,by lia⟩) λm p=>?_;subst p
 cases d with
 |nil=>
  have h:=Pp (n:=m+2) (a52 (b:=a) (c:=b) (a:=c) (s:=s) (n:=m+1));have e:(lB [] s).1=s:=by
   show(⟨s.d+1-1,s.sp,s.log,s.J⟩:bd)=s;rw[Cm]
  rw[e];exact h
 |cons x r=>
  have f:=Qa (a:=a) (b:=c) g (n:=m+1) (by lia) (g:=.d4) (h:=[]) (.inl rfl) (LA i) (by rw[Ed];exact j) (s:=⟨s.d+1,s.sp,s.log,s.J⟩) l (.inr (by rw[k];rfl)) o;rw[PT]at f;have q:=a50 (n:=m+1) (λv t=>GN (by decide) t) (aP4 (b:=a) (n:=m) (s:=s) (by lia) f);have e:pi (x::r)=.tup [.str eT,.str (lay [] (dD (x::r)) [])]:=if_neg (by simp);rw[e];exact(Pp (n:=m+2) q)
end
end
section
noncomputable def tL(e:gf)(f:List (Nat×Nat×Nat))(s:bd)(b:Nat)(g:Bool):cJ:=rF (qL (nD g b) (eG e) (mq (lB f (nA s b)).2))
section
variable{a:aj->Option (List Int)}{d:Nat}{c:List Nat}
theorem aG7{b:List (Nat×Nat×Nat)}{s:bd}{v:V}(h:mq (lB b s).2=.ok v):v=.none\/∃w,v=.str w:=by
 have e:(lB b s).2=(dw .d4 b ⟨s.d+1,s.sp,s.log,s.J⟩ (.str [])).2:=rfl;rw[e]at h
 cases q:(dw .d4 b ⟨s.d+1,s.sp,s.log,s.J⟩ (.str [])).2 with
 |ok l=>
  rw[q]at h;injection h with h;subst h;refine ak (GN (by decide) q) λw k p=>?_;exact .inr ⟨w,k⟩
 |exc f m e n o=>
  rw[q]at h;unfold mq at h;dsimp only at h;by_cases g:f=1
  ·rw[if_pos g]at h;injection h
  ·rw[if_neg g]at h;by_cases i:f=3
   ·rw[if_pos i]at h;injection h with h;exact .inl h.symm
   ·rw[if_neg i]at h;by_cases j:f=4
    ·rw[if_pos j]at h;injection h with h;exact .inr ⟨_,h.symm⟩
    ·rw[if_neg j]at h;injection h with h;exact .inr ⟨_,h.symm⟩
theorem at0{e:Bool}{f:Nat}(g:f<5):(nD e f).flatten.length<=1000/\(nD e f).length<1000:=by
 have z:=List.all_eq_true.mp (List.all_eq_true.mp (by kernel_rfl:(List.range 5).all (λl=>[true,false].all λb=>Nat.ble (nD b l).flatten.length 1000&&Nat.ble ((nD b l).length+1) 1000)=true) f (List.mem_range.mpr g)) e (by induction e using Bool.casesOn<;>decide);exact dr z λh i=>⟨n_num h,n_num i⟩
theorem as9{s:bd}{b:Nat}:(nA s b).d=s.d/\(nA s b).J=s.J/\(nA s b).log.length<=s.log.length+1:=by
 have z:s.d=s.d/\s.J=s.J/\s.log.length<=s.log.length+1:=dc rfl rfl (nY _);exact cw b z λl=>cw l z λl=>cw l z λl=>cw l (dc rfl rfl (fN aU)) λe=>z
theorem ac5:∀{o:cJ},qL b g o=.ok f->f=b:=by
 intro o e
 induction o using cJ.casesOn with
 |ok v=>induction v using V.casesOn<;>first|(injection e with e;exact e.symm)|injection e
 |exc=>injection e
theorem BO(j:60<=d){n:Nat}(L:70<=n){p:gf}{q t:List Nat}(A:iW p q){f:List (Nat×Nat×Nat)}(r:∀x∈f,fR x)(u:f.length<=20){b:Nat}{i g:Bool}(w:b<5)(B:i=af\/b≠4){s:bd}(y:s.d=0)(z:s.J=ag)(M:s.log.length<=400)
  (l:t=cT b++91::lay [] f q) {o:List V} (C:o=[.obj (an c).o,.str t,.j i,.j af,.j g]\/(i=af/\af=af/\g=af/\o=[.obj (an c).o,.str t])):
  eR (an c) (call prog a d n) (.ref 695) o s (lB f (nA s b)).1 (tL p f s b g):=by
 refine am (show∃m,n=m+2 from⟨n-2,by lia⟩) λm D=>?_;subst D;refine fL (@as9 s b) λE F N=>?_;have G:=aG9 (a:=a) (c:=c) j (n:=m+1) (by lia) r u (s:=nA s b) (by rw[E];exact y) (by rw[F];exact z) (by lia);refine aP (@at0 g b w) λu1 u2=>?_;have I:t[(cT b).length]?=ac 91:=by rw[l,fM (bI _),gJ];rfl
 refine ak (at1 (a:=a) (c:=c) (s:=s) j (n:=m+1) (by lia) w B y z (by lia) l (.q7 I (by induction i using Bool.casesOn<;>rfl) (by induction g using Bool.casesOn<;>rfl) (ac3 (a:=a) j (n:=m+1) (by lia) A r u l) G (λv J=>aG7 J) u1 u2)) λk P h=>?_;refine QE h (by lia) (λQ e=>?_) C;have e:=ac5 e;subst e;exact⟨u1,by lia⟩
noncomputable def nB:List Nat:=s!"-nobackslashes"
noncomputable def nC:List Nat:=s!"-nocommands"
noncomputable def nV:List Nat:=s!"-novariables"
noncomputable def rq:V:=.tup [.str nB,.str nC,.str nV]
noncomputable def ru:List Nat:=s!"option"
theorem aH4:[nB,nC,nV,s!"-nov",s!"-nob"].map (λo=>wS (cY [] prog gn 60 60 60 12 (.m (.ref 160)) [.str ru,.str o,.tup [.str nB,.str nC,.str nV]] ae []))=[ac (.str nB),ac (.str nC),ac (.str nV),ac (.str nV),ac (.str nB)]:=by kernel_rfl
noncomputable def fE(o:List Nat):List Nat:=if o=s!"-nov"then nV else if o=s!"-nob"then nB else o
theorem aH3(e:60<=d)(m:13<=n)(b:o∈[nB,nC,nV,s!"-nov",s!"-nob"]):bU (call prog a d n) ae 160 [.str ru,.str o,rq] (.str (fE o)):=by
 have f:wS (cY [] prog gn 60 60 60 12 (.m (.ref 160)) [.str ru,.str o,.tup [.str nB,.str nC,.str nV]] ae [])=ac (.str (fE o)):=by
  have h:=aH4;simp only[eU,bf2,List.cons.injEq,and_true]at h;refine uH h λg i j k l=>?_;simp only[iR,ii,or_false]at b;rcases b with rfl|rfl|rfl|rfl|rfl
  ·exact g
  ·exact i
  ·exact j
  ·exact k
  ·exact l
 intro h p;exact PW (a:=fI) FX e (bI 1) (λp p=>kZ) f rfl rfl rfl (by lia) h
theorem YB(w:∀o∈[nB,nC,nV,s!"-nov",s!"-nob"],bU C ae 160 [.str ru,.str o,rq] (.str (fE o)))(x:∀o∈j,o∈[nB,nC,nV,s!"-nov",s!"-nob"])(y:i≠f)(z:j.length<1000):∀(s e:List (List Nat)) (N:Nat) (h:H),j=e++s->s.length<N->h[i]?=ac (.list (j.map .str))->h[f]?=ac (.list ((e.map fE).map .str))->
  ∃m,dY (λA h=>ev prog a C ae A (.b0 (.a1 (.ref 160)) [(.str ru),(.loc 4),(.loc 2)]) h) 4 [B,D,ac rq,ae,ae] i f N e.length h=.ok (.obj f) m/\m[f]?=ac (.list ((j.map fE).map .str))/\h.length<=m.length/\∀b,b<h.length->b≠f->m[b]?=h[b]?:=by
 intro l
 induction l with
 |nil=>
  intro e N h k n p r
  cases N with
  |zero=>exact absurd n (fw _)|succ N=>
  rw[cR]at k;subst k;refine jW h ?_ r (bI _) (λQ Q Q=>rfl);rw[DX,p];dsimp only[hX];rw[Cr (fN (bH _))];rfl
 |cons o s E=>
  intro e N h k n p r
  cases N with
  |zero=>exact absurd n (fw _)|succ N=>
  refine am (w o (x o (by rw[k];simp)) h trivial) λg F=>?_;have t:(h++g)[f]?=ac (.list ((e.map fE).map .str)):=cQ r;have P:f<h.length:=(List.getElem?_eq_some_iff.mp r).1;have G:=E (e++[o]) N ((h++g).set f (.list ((e.map fE).map .str++[.str (fE o)]))) (by rw[k];simp) (by simp at n;lia)
   (by rw[fZ (λq=>y q.symm)];exact(cQ p:(h++g)[i]?=ac (.list (j.map .str)))) (by rw[ig (List.getElem?_eq_some_iff.mp t).1];simp)
  refine iP G λm u I J L=>?_;rw[(by simp:(e++[o]).length=e.length+1)]at u;refine jW m ?_ I (by rw[jO,aU]at J;lia) (λb M v=>?_)
  ·rw[DX,p];dsimp only[hX];rw[show(j.map V.str)[e.length]?=ac (.str o) by rw[k];simp];show(ev prog a C ae [B,D,ac rq,ae,ac (.str o)] (.b0 (.a1 (.ref 160)) [(.str ru),(.loc 4),(.loc 2)]) h).bind _=_;rw[hY (r:=.ok (.str (fE o)) (h++g)) [.r (.ok (.str (fE o)) (h++g))] (jm F trivial) (by kernel_rfl)];show hX _ (h++g)[f]?=_;rw[t];show(if((e.map fE).map V.str).length<big then _ else R.i)=_;rw[if_pos (by rw[bH,bH];exact mJ (mJ (by rw[k];simp:e.length<j.length) z) (by decide))];exact u
  ·rw[L b (by rw[jO,aU];lia) v,fZ (λq=>v q.symm),gI M]
end
end
section
noncomputable def ka(d:List (List Nat))(n:List Nat):Bool:=d.any λy=>y==n
theorem a87:lA (.str x) (l.map .str)=ac (ka l x):=by
 unfold lA ka;have d:(l.map V.str).all (bQ 7)=af:=by
  rw[bc8];intro v e;refine ak (List.mem_map.mp e) λy h f=>?_;subst f;rfl
 rw[d];have g:(l.map V.str).any (λy=>iM y (.str x))=l.any λy=>y==x:=by
  rw[List.any_map];rfl
 rw[g];rfl
noncomputable def Pu:Ex:=.b0 (.a1 (.ref 160)) [(.str ru),(.loc 4),(.loc 2)]
noncomputable def EJ:List Nat:=dL
noncomputable def fh(d:List (List Nat))(t:List Nat):List V:=.str EJ::(d.map .str++[.str t])
theorem Ca:(fh d t).length=d.length+2:=by simp[fh]
section
variable{a:aj->Option (List Int)}{b:Nat}{c:List Nat}
theorem af5:prog.fn 700=ac sj:=by kernel_rfl
theorem ae9:prog.fn 547=ac yx:=by kernel_rfl
theorem af0:prog.fn 661=ac vA:=by kernel_rfl
theorem ae8:prog.fn 449=ac yw:=by kernel_rfl
theorem ME:prog.fn 477=ac vy:=by kernel_rfl
theorem Oy:-1+((m+2:Nat):Int)=((m+1:Nat):Int):=by lia
theorem aW2(e:h[w]?=ac (.list (fh d t))):dU h (.obj w) (ac (.a 1)) (ac (.a (-1)))=.ok (.obj h.length) (h++[.list (d.map .str)]):=by
 unfold dU xp ja;dsimp only[HU];rw[e];dsimp only;have f:cg (fh d t).length 1=1:=vV (i:=1) (by rw[Ca];exact bg6 ..);have g:cg (fh d t).length (-1)=d.length+1:=by
  rw[Ca];show(max 0 (min (-1+((d.length+2:Nat):Int)) ((d.length+2:Nat):Int))).toNat=_;rw[Oy];exact Lh (nY _)
 rw[f,g];unfold ct fh;have:((V.str EJ::(d.map V.str++[V.str t])).drop 1).take (d.length+1-1)=d.map .str:=by
  show(d.map V.str++[V.str t]).take (d.length+1-1)=_;rw[show d.length+1-1=(d.map V.str).length by simp,HL]
 rw[this]
theorem as0(e:h[w]?=ac (.list (fh d t))):cH h (.obj w) (.a (-1))=ac (.str t):=by
 show(match h[w]? with|some (.list f)=>if(0:Int)<=-1 then f[(-1:Int).toNat]? else if(0:Int)<=-1+f.length then f[(-1+f.length:Int).toNat]? else ae|_=>ae)=_;rw[e];show(if(0:Int)<=-1+((fh d t).length:Int)then(fh d t)[(-1+((fh d t).length:Int)).toNat]? else ae)=_;rw[Ca,Oy,if_pos (ku _)];show(V.str EJ::(d.map .str++[.str t]))[d.length+1]?=_;rw[List.getElem?_cons_succ,show d.length=(d.map V.str).length from(bH _).symm];exact je
theorem Of(e:h[w]?=ac (.list d)):call prog a b (n+1) (.m (.builtin "len")) [.obj w] f h=.ok (.a d.length) h:=by
 rw[lS,VF e]
theorem wa(e:ev prog a C d f x h=.ok v j)(r:fD prog a C d f i j=.ok g k):fD prog a C d f (x::i) h=.ok (v::g) k:=by
 show(ev prog a C d f x h).bind (λv h=>(fD prog a C d f i h).bind λg h=>.ok (v::g) h)=_;rw[e];show(fD prog a C d f i j).bind (λg h=>.ok (v::g) h)=_;rw[r];rfl
theorem at4(e:fD prog a C ae d i h=.ok g j):bY (aJ prog a C b [.B (ac (.b0 (.a1 (.ref f)) i))] d h ae)=C (.m (.ref f)) g ae j:=by
 have q:ev prog a C ae d (.b0 (.a1 (.ref f)) i) h=C (.m (.ref f)) g ae j:=by
  show(fD prog a C ae d i h).bind (λg h=>C (.m (.ref f)) g ae h)=_;rw[e];rfl
 show bY (match aO (ev prog a C ae d (.b0 (.a1 (.ref f)) i) h) d (λv h=>ac (.B v,d,h))with|some (.next,d,h)=>ac (.next,d,h)|x=>x)=_;rw[q]
 induction C (.m (.ref f)) g ae j using R.casesOn<;>rfl
theorem UT(g:C (.m (.builtin "len")) [.obj w] ae h=.ok (.a l) h)(i:bf (l<2)=ag)(j:ev prog a C ae [ac (.obj e),ac (.obj w),ac rq,ae,ae] (.g0 Pu 4 (.a7 (.loc 1) (ac (.a 1)) (ac (.f0 (.a 1))))) h=.ok (.obj f) d)
  (k:cH d (.obj w) (.a (-1))=ac (.str t)) (m:aQ .NotIn (.str nB) (.obj f) d=ac n) (o:aQ .NotIn (.str nC) (.obj f) d=ac p) (r:aQ .NotIn (.str nV) (.obj f) d=ac s):
  bY (aJ prog a C b sj.body [ac (.obj e),ac (.obj w),ae,ae,ae] h ae)=C (.m (.ref 695)) [.obj e,.str t,.j n,.j p,.j s] ae d:=by
 have q:=be (P:=prog) (c:=a) (C:=C) (e:=b) (g:=sj.body.take 3) (a:=[ac (.obj e),ac (.obj w),ae,ae,ae]) (h:=h) (b:=ae) (r:=ac (.next,[ac (.obj e),ac (.obj w),ac rq,ac (.obj f),ae],d)) [.r (.ok (.a l) h),.b ag,.b ag,.e (.ok (.obj f) d)]
  (gk g (congrArg ac i:aQ .Lt (.a l) (.a 2) h=ac ag) (rfl:aA h (.j ag)=ac ag) j trivial) (by kernel_rfl)
 refine(congrArg bY ((wc (P:=prog) (l:=a) (C:=C) (p:=b) (u:=sj.body.take 3) (b:=sj.body.drop 3) (i:=[ac (.obj e),ac (.obj w),ae,ae,ae]) (h:=h) (a:=ae)).trans (congrArg (kJ · _) q))).trans (at4 (i:=[(.loc 0),(.t (.loc 1) (.f0 (.a 1))),(.Q (.t (.loc 2) (.a 0)) .NotIn (.loc 3)),(.Q (.t (.loc 2) (.a 1)) .NotIn (.loc 3)),(.Q (.t (.loc 2) (.a 2)) .NotIn (.loc 3))]) ?_);exact wa (j:=d) rfl (wa (j:=d) (by show(match cH d (.obj w) (.a (-1))with|some v=>R.ok v d|none=>.i)=_;rw[k]) (wa (Aa m) (wa (Aa o) (wa (Aa r) rfl))))
theorem US(q:60<=b)(E:13<=n)(r:∀o∈d,o∈[nB,nC,nV,s!"-nov",s!"-nob"])(u:d.length<1000)(x:cq c s h)(e:h[w]?=ac (.list (fh d t))):
  ∃f,call prog a b (n+2) (.m (.ref 700)) [.obj (an c).o,.obj w] ae h=call prog a b (n+1) (.m (.ref 695)) [.obj (an c).o,.str t,.j (!ka (d.map fE) nB),.j (!ka (d.map fE) nC),.j (!ka (d.map fE) nV)] ae f/\cq c s f/\Fr c h f:=by
 have v:w<h.length:=(List.getElem?_eq_some_iff.mp e).1;have j:(h++[O.list (d.map V.str)]).length=h.length+1:=by rw[aU];rfl
 refine iP (YB (a:=a) (C:=call prog a b (n+1)) (B:=ac (.obj (an c).o)) (D:=ac (.obj w)) (i:=h.length) (f:=h.length+1) (λo m=>aH3 q (by lia) m) r (pO (og _)) u d [] (d.length+1) _ rfl (by lia) (cQ je) (j▸je:(h++[O.list (d.map .str)]++[O.list []])[h.length+1]?=ac (.list []))) λf y z A B=>?_;have l:∀g,g<h.length->f[g]?=h[g]?:=λg i=>by
  rw[B g (by rw[aU,j];exact bg9 _ (bg9 _ i)) (pO (Sw i)),bt,gI i]
 have C:Fr c h f:=⟨aV (by rw[aU,j];exact dm h.length 2) A,λg i G=>l g i⟩
 refine br f ?_ (qR x (λk m=>l k ((x.lt:∀k∈c,k<h.length) k m))) C;have p:∀x,aQ .NotIn (.str x) (.obj (h.length+1)) f=ac (!ka (d.map fE) x):=λx=>by
  show(qU (.str x) f[h.length+1]?).map (!·)=_;rw[z];exact congrArg (eJ (!·)) a87
 rw[cX af5 (i:=[ac (.obj (an c).o),ac (.obj w),ae,ae,ae]) rfl];refine UT (f:=h.length+1) (Of e) (decide_eq_false (by rw[Ca];lia)) ?_ (as0 ((l w v).trans e:f[w]?=ac (.list (fh d t)))) (p _) (p _) (p _);show(dU h (.obj w) (ac (.a 1)) (ac (.a (-1)))).bind (λs h=>oP (λD h=>ev prog a (call prog a b (n+1)) ae D Pu h) 4 [ac (.obj (an c).o),ac (.obj w),ac rq,ae,ae] s h)=_;rw[aW2 e];show(match(h++[O.list (d.map V.str)])[h.length]? with|some (.list F)=>_|_=>R.i)=_;rw[je];show pg (dY _ 4 _ h.length (h++[O.list (d.map V.str)]).length ((d.map V.str).length+1) 0 _)=_;rw[bH,j];exact congrArg pg y
end
end
section
section
variable{b:aj->Option (List Int)}{c:Nat}{a:List Nat}{h:H}{s:bd}
theorem aw4:((prog.cls 664).bind λd=>if d.isExc then ae else d.meths.lookup s!"spend")=ac (.ref 449):=by kernel_rfl
theorem av8:((prog.cls 664).bind λd=>if d.isExc then ae else d.meths.lookup s!"begin")=ac (.ref 661):=by kernel_rfl
theorem av9:((prog.cls 664).bind λd=>if d.isExc then ae else d.meths.lookup s!"call")=ac (.ref 477):=by kernel_rfl
theorem aw2:((prog.cls 664).bind λd=>if d.isExc then ae else d.meths.lookup s!"read")=ac (.ref 597):=by kernel_rfl
noncomputable def Yo(a:List Nat):List (List Nat×V):=[(dL,.tup [.m (.ref 700),.none]),(qX,.tup [.m (.ref 749),.obj (a.getD 0 0)])]
theorem Nb(x:cq a s h):h[a.getD 6 0]?=ac (.dict (Yo a) ae):=am x.g9 λz d=>d 6 _ rfl
theorem aX0:∀h,cq a s h->∃e,call prog b c (n+1) (.m (.ref 449)) [.obj (an a).o] ae h=.ok .none e/\cq a ⟨s.d,s.sp+1,s.log,s.J⟩ e/\Fr a h e:=by
 intro h x;refine bP (EZ x (n:=s!"spent") (v:=.a (s.sp+1)) (c:=⟨s.d,s.sp+1,s.log,s.J⟩) DJ rfl rfl rfl) λd g f i=>?_;refine br d ?_ f i;rw[cX ae8 (rfl:fS yw [.obj (an a).o]=ac [ac (.obj (an a).o),ae])];exact congrArg bY (be (g:=yw.body) (r:=ac (.next,[ac (.obj (an a).o),ae],d)) [.v (.a s.sp),.r (.ok (.a (s.sp+1)) h),.h d,.s,.v .none,.b ag,.b ag,.b ag]
  (wm (lY x (n:=s!"spent") (v:=.a s.sp) DJ rfl) (rfl:qq .Add (.a s.sp) (.a 1) h=.ok (.a (s.sp+1)) h) g (lY f (n:=s!"fuel") (v:=.none) VZ rfl) (rfl:aQ .IsNot .none .none d=ac ag) (rfl:aA d (.j ag)=ac ag) (rfl:aA d (.j ag)=ac ag) trivial) (by kernel_rfl))
theorem UR(q:call prog b c n (.m (.ref 700)) [.obj (an a).o,w] ae h=r)(e:r≠.i):call prog b c (n+1) (.m (.ref 547)) [.obj (an a).o,w,.m (.ref 700),.none] ae h=r:=by
 rw[cX ae9 (i:=[ac (.obj (an a).o),ac w,ac (.m (.ref 700)),ac .none,ae]) rfl];have o:aQ .Is .none .none h=ac af/\aA h (.j af)=ac af/\call prog b c n (.m (.ref 700)) [.obj (an a).o,w] ae h=r/\True:=dE rfl rfl q trivial
 induction r using R.casesOn with
 |ok v d=>exact congrArg bY (be (g:=yx.body) (r:=ac (.B v,[ac (.obj (an a).o),ac w,ac (.m (.ref 700)),ac .none,ae],d)) [.b af,.b af,.r (.ok v d)] o (by kernel_rfl))
 |exc i d=>exact congrArg bY (be (g:=yx.body) (r:=ac (.exc i,[ac (.obj (an a).o),ac w,ac (.m (.ref 700)),ac .none,ae],d)) [.b af,.b af,.r (.exc i d)] o (by kernel_rfl))
 |i=>exact absurd rfl e
theorem Rr(e:h[w]?=ac (.list (fh d t))):cH h (.obj w) (.a 0)=ac (.str dL):=(NH e).trans rfl
theorem VX(x:cq a s h)(k:w∉a)(e:h[w]?=ac (.list (fh m t))):
  ∃d,(∀r,r≠.i->call prog b c (n+1) (.m (.ref 700)) [.obj (an a).o,.obj w] ae d=r->call prog b c (n+3) (.m (.ref 661)) [.obj (an a).o,.obj w] ae h=r)/\cq a ⟨s.d,s.sp+1,s.log,s.J⟩ d/\Fr a h d/\d[w]?=ac (.list (fh m t)):=by
 refine bP (aX0 (b:=b) (c:=c) (n:=n+1) h x) λd p g j=>jW d (λr l q=>?_) g j (j.obj e k);have o:cH h (.obj w) (.a 0)=ac (.str dL)/\dH prog h (.obj (an a).o) s!"commands"=ac (.obj (a.getD 6 0))/\aQ .NotIn (.str dL) (.obj (a.getD 6 0)) h=ac ag/\aA h (.j ag)=ac ag/\
   fV prog (.obj (an a).o) s!"spend" h=ac (.ref 449,[.obj (an a).o])/\call prog b c (n+2) (.m (.ref 449)) [.obj (an a).o] ae h=.ok .none d/\dH prog d (.obj (an a).o) s!"commands"=ac (.obj (a.getD 6 0))/\
   cH d (.obj w) (.a 0)=ac (.str dL)/\cH d (.obj (a.getD 6 0)) (.str dL)=ac (.tup [.m (.ref 700),.none])/\jj ae [2,3] [ac (.obj (an a).o),ac (.obj w),ae,ae,ae] (.tup [.m (.ref 700),.none]) d=ac (.next,[ac (.obj (an a).o),ac (.obj w),ac (.m (.ref 700)),ac .none,ae],d)/\
   call prog b c (n+2) (.m (.ref 547)) [.obj (an a).o,.obj w,.m (.ref 700),.none] ae d=r/\True:=
  tz (Rr e) (lY x Jt rfl) (by rw[OQ,Nb x];rfl) rfl (tw x aw4 rfl) p (lY g Jt rfl) (Rr (j.obj e k)) ((wz (Nb g)).trans rfl) rfl (UR q l) trivial
 rw[cX af0 (rfl:fS vA [.obj (an a).o,.obj w]=ac [ac (.obj (an a).o),ac (.obj w),ae,ae,ae])]
 induction r using R.casesOn with
 |ok v f=>exact congrArg bY (be (g:=vA.body) (r:=ac (.B v,[ac (.obj (an a).o),ac (.obj w),ac (.m (.ref 700)),ac .none,ae],f)) [.v (.str dL),.v (.obj (a.getD 6 0)),.b ag,.b ag,.g (.ref 449) [.obj (an a).o],.r (.ok .none d),.v (.obj (a.getD 6 0)),.v (.str dL),.v (.tup [.m (.ref 700),.none]),.x (ac (.next,[ac (.obj (an a).o),ac (.obj w),ac (.m (.ref 700)),ac .none,ae],d)),.r (.ok v f)] o (by kernel_rfl))
 |exc i f=>exact congrArg bY (be (g:=vA.body) (r:=ac (.exc i,[ac (.obj (an a).o),ac (.obj w),ac (.m (.ref 700)),ac .none,ae],f)) [.v (.str dL),.v (.obj (a.getD 6 0)),.b ag,.b ag,.g (.ref 449) [.obj (an a).o],.r (.ok .none d),.v (.obj (a.getD 6 0)),.v (.str dL),.v (.tup [.m (.ref 700),.none]),.x (ac (.next,[ac (.obj (an a).o),ac (.obj w),ac (.m (.ref 700)),ac .none,ae],d)),.r (.exc i f)] o (by kernel_rfl))
 |i=>exact absurd rfl l
theorem Yh:((prog.cls 105).any (!·.isExc))=af:=by kernel_rfl
theorem Yi:((prog.cls 126).any (!·.isExc))=af:=by kernel_rfl
theorem NC(d:((prog.cls k).any (!·.isExc))=af):call prog b c (n+1) (.m (.builtin "isinstance")) [.str v,.m (.ref k)] ae h=.ok (.j ag) h:=by
 rw[lS,VD d]
theorem XE(x:cq a s h)(j:w∉a)(e:h[w]?=ac (.list (fh k t))):
  ∃f,cq a ⟨s.d,s.sp+1,s.log,s.J⟩ f/\Fr a h f/\f[w]?=ac (.list (fh k t))/\(∀v d,call prog b c (n+1) (.m (.ref 700)) [.obj (an a).o,.obj w] ae f=.ok (.str v) d->call prog b c (n+4) (.m (.ref 477)) [.obj (an a).o,.obj w] ae h=.ok (.str v) d)/\
   (∀i d,call prog b c (n+1) (.m (.ref 700)) [.obj (an a).o,.obj w] ae f=.exc i d->call prog b c (n+4) (.m (.ref 477)) [.obj (an a).o,.obj w] ae h=.exc i d):=by
 refine iP (VX (b:=b) (c:=c) (n:=n) x j e) λf l m u A=>?_;have g:fS vy [.obj (an a).o,.obj w]=ac [ac (.obj (an a).o),ac (.obj w),ae,ae]:=rfl;have B:aA h (.obj w)=ac af:=by
  show(match h[w]? with|some (O.list C)=>ac (!C.isEmpty)|_=>ae)=_;rw[e];rfl
 have o:∀{r:R V} {p:Prop},r≠.i->call prog b c (n+1) (.m (.ref 700)) [.obj (an a).o,.obj w] ae f=r->p->(aA h (.obj w)=ac af/\aA h (.j ag)=ac ag/\fV prog (.obj (an a).o) s!"begin" h=ac (.ref 661,[.obj (an a).o])/\call prog b c (n+3) (.m (.ref 661)) [.obj (an a).o,.obj w] ae h=r/\p):=λD q y=>gk B rfl (tw x av8 rfl) (l _ D q) y;refine ak3 f m u A (λv d q=>?_) (λi d q=>?_)
 ·rw[cX ME g];exact congrArg bY (be (g:=vy.body) (r:=ac (.B (.str v),[ac (.obj (an a).o),ac (.obj w),ac (.str v),ae],d)) [.b af,.b ag,.g (.ref 661) [.obj (an a).o],.r (.ok (.str v) d),.r (.ok (.j ag) d),.b ag,.r (.ok (.j ag) d),.b ag]
   (o (r:=.ok (.str v) d) (λz=>nomatch z) q (gk (NC (b:=b) (c:=c) (h:=d) (n:=n+2) (v:=v) Yh) (rfl:aA d (.j ag)=ac ag) (NC (b:=b) (c:=c) (h:=d) (n:=n+2) (v:=v) Yi) (rfl:aA d (.j ag)=ac ag) trivial)) (by kernel_rfl))
 ·rw[cX ME g];exact congrArg bY (be (g:=vy.body) (r:=ac (.exc i,[ac (.obj (an a).o),ac (.obj w),ae,ae],d)) [.b af,.b ag,.g (.ref 661) [.obj (an a).o],.r (.exc i d)] (o (r:=.exc i d) (λz=>nomatch z) q trivial) (by kernel_rfl))
theorem a25(G:60<=c){n:Nat}(Z:20<=n){w:Nat}{f:List (List Nat)}{t:List Nat}{k:bd}{o:cJ}(I:∀o∈f,o∈[nB,nC,nV,s!"-nov",s!"-nob"])(J:f.length<1000)(L:∀v,o=.ok v->∃w,v=.str w)
  (j:eR (an a) (call prog b c n) (.ref 695) [.obj (an a).o,.str t,.j (!ka (f.map fE) nB),.j (!ka (f.map fE) nC),.j (!ka (f.map fE) nV)] ⟨s.d,s.sp+1,s.log,s.J⟩ k o)
  (x:cq a s h) (M:w∉a) (e:h[w]?=ac (.list (fh f t))):match o with
  |.ok v=>∃d,call prog b c (n+4) (.m (.ref 477)) [.obj (an a).o,.obj w] ae h=.ok v d/\cq a k d/\Fr a h d|.exc C D e E F=>∃d i l,call prog b c (n+4) (.m (.ref 477)) [.obj (an a).o,.obj w] ae h=.exc i d/\cq a k d/\Fr a h d/\dj h.length d i (.a C::.str D::e::E::F::l):=by
 refine am (show∃m,n=m+1 from⟨n-1,by lia⟩) λm p=>?_;subst p;obtain⟨h1,N,r,P,Q,S⟩:=XE (b:=b) (c:=c) (n:=m+1) x M e;refine bP (US (a:=b) G (n:=m) (by lia) I J N P) λT q U y=>?_;have j:=j T U
 induction o using cJ.casesOn with
 |ok v=>
  refine am (L v rfl) λu p=>?_;subst p;refine bP j λg z A B=>?_;rw[z]at q;exact br g (Q u g q) A (r.trans (y.trans B))
 |exc C D ec E F=>
  refine dz j λg i l z A B Y=>?_;rw[z]at q;exact fG g i l (S i g q) A (r.trans (y.trans B)) (Y.mono (aV r.len y.len))
end
end
section
noncomputable def wT:cJ->V
 |.ok v=>.tup [.a 0,v,.tup [],.a 0]|.exc f g e i j=>.tup [.a f,.str g,e,i]
noncomputable def o5(v:Nat):Nat:=v
noncomputable def ph:Nat->List (List Nat)
 |2=>[nV]|3=>[s!"-nov",s!"-nob"]|5=>[nB,nC,nV]|_=>[]
noncomputable def AW:Ex:=a23 (xw ((jJ (qi.body.getD 0 .b9)).getD 2 .b9))
noncomputable def FF:List St:=[.B (ac (.tup [(.attr (.loc 4) s!"code"),(.attr (.loc 4) s!"value"),(.attr (.loc 4) s!"errorcode"),(.attr (.loc 4) s!"level")]))]
section
variable{a:aj->Option (List Int)}{c:Nat}{b:List Nat}{h:H}{s d:bd}{t:List Nat}{o:cJ}
theorem tf:prog.fn 763=ac qi:=by kernel_rfl
theorem Vv:prog.bears af 84 s!"errorcode"=af:=by kernel_rfl
theorem Vw:prog.bears af 84 s!"level"=af:=by kernel_rfl
theorem Hj(e:aJ prog a C c g f h i=ac (.B v,l,j)):bY (aJ prog a C c [.c6 g k x m] f h i)=.ok v j:=by
 show bY (match lz prog k x (aJ prog a C c g f h i) _ with|some (.next,f,h)=>ac (.next,f,h)|x=>x)=_;rw[e];rfl
theorem a65(e:aJ prog a C c j f h g=ac (.exc i,n,k))(p:k[i]?=ac (.exc D w y))(q:oO prog l D=af)(r:aJ prog a C c m (Jd x i n) k (ac i)=ac (.B v,z,u)):
  bY (aJ prog a C c [.c6 j l x m] f h g)=.ok v u:=by
 show bY (match lz prog l x (aJ prog a C c j f h g) (λf h g=>aJ prog a C c m f h g)with|some (.next,f,h)=>ac (.next,f,h)|x=>x)=_;rw[e,QN p q,r]
 induction x using Option.casesOn<;>rfl
theorem FG{C:bc}{u:List St}{v:Option Nat}{w:av}{h m:H}{i l:Nat}{g:Int}{j:List Nat}{e f p:V}{q:List V}{x y z A D B:Option V}(E:aJ prog a C c u w h v=ac (.exc i,[x,y,z,A,D,B],m))(r:dj l m i (.a g::.str j::e::f::p::q))(F:hO (cn.zip (.a g::.str j::e::f::p::q)) s!"errorcode"=ac e)(G:hO (cn.zip (.a g::.str j::e::f::p::q)) s!"level"=ac f):
  bY (aJ prog a C c [.c6 u (.ref 84) (ac 4) FF] w h v)=.ok (.tup [.a g,.str j,e,f]) m:=
 iP r.at_ λI J k n L=>a65 E k (show oO prog (.ref 84) 84=af by kernel_rfl) (be (g:=FF) (r:=ac (.B (.tup [.a g,.str j,e,f]),[x,y,z,A,ac (.obj i),B],m)) [.v (.a g),.v (.str j),.v e,.v f]
  (gk (jU (v:=.a g) k n vO rfl) (jU (v:=.str j) k n DC rfl) (jU (v:=e) k n Vv F) (jU (v:=f) k n Vw G) trivial) (by kernel_rfl))
noncomputable def rg:List St:=[.E (.Q (.loc 1) .Eq (.a 0)) [.B (ac (.tup [(.a 0),(.b0 (.a1 (.ref 695)) [(.loc 0),(.loc 2)]),(.tup []),(.a 0)]))] [],.E (.Q (.loc 1) .Eq (.a 4)) [.B (ac (.tup [(.a 0),(.b0 (.a1 (.ref 413)) [(.loc 0),(.loc 2)]),(.tup []),(.a 0)]))] [],.q 3 (.t AW (.E (.Q (.loc 1) .Lt (.a 4)) (.d2 .Sub (.loc 1) (.a 1)) (.a 3))),.B (ac (.tup [(.a 0),(.c3 (.loc 0) s!"call" [(.loc 3)]),(.tup []),(.a 0)]))]
theorem tJ:qi.body=[.c6 rg (.ref 84) (ac 4) FF]:=rfl
def yt(e g:V):Prop:=(∀f,e≠.m f)/\(∀f,g≠.m f)
theorem EL{g:Int}{i:List Nat}{e f j:V}{k:List V}(x:yt e f):hO (cn.zip (.a g::.str i::e::f::j::k)) s!"errorcode"=ac e:=by
 have:dJ (cn.zip (.a g::.str i::e::f::j::k)) s!"errorcode"=ac e:=rfl;unfold hO;rw[this]
 induction e using V.casesOn<;>first|rfl|exact absurd rfl (x.1 _)
theorem EM{g:Int}{i:List Nat}{e f j:V}{k:List V}(x:yt e f):hO (cn.zip (.a g::.str i::e::f::j::k)) s!"level"=ac f:=by
 have:dJ (cn.zip (.a g::.str i::e::f::j::k)) s!"level"=ac f:=rfl;unfold hO;rw[this]
 induction f using V.casesOn<;>first|rfl|exact absurd rfl (x.2 _)
noncomputable def su:cJ->Prop
 |.ok _=>True|.exc _ _ e f _=>yt e f
def sB(b:List Nat)(C:bc)(f:Nat)(t:List Nat)(s d:bd)(o:cJ):Prop:=∀h,cq b s h->∃e,C (.m (.ref 763)) [.obj (an b).o,.a f,.str t] ae h=.ok (wT o) e/\cq b d e/\Fr b h e
theorem a55(m:su o)(g:eR (an b) (call prog a c n) (.ref 695) [.obj (an b).o,.str t] s d o):sB b (call prog a c (n+1)) 0 t s d o:=by
 intro h x;have g:=g h x;have p:fS qi [.obj (an b).o,.a (0:Nat),.str t]=ac [ac (.obj (an b).o),ac (.a 0),ac (.str t),ae,ae,ae]:=rfl
 induction o using cJ.casesOn with
 |ok v=>
  refine bP g λf j k l=>br f ?_ k l;rw[cX tf p,tJ];exact Hj (be (g:=rg) (r:=ac (.B (.tup [.a 0,v,.tup [],.a 0]),[ac (.obj (an b).o),ac (.a 0),ac (.str t),ae,ae,ae],f)) [.b af,.b af,.r (.ok v f)] (dE (rfl:aQ .Eq (.a 0) (.a 0) h=ac af) (rfl:aA h (.j af)=ac af) j trivial) (by kernel_rfl))
 |exc r u e w y=>
  refine dz g λf i z j k l q=>br f ?_ k l;rw[cX tf p,tJ];exact FG (be (g:=rg) (r:=ac (.exc i,[ac (.obj (an b).o),ac (.a 0),ac (.str t),ae,ae,ae],f)) [.b af,.b af,.r (.exc i f)] (dE (rfl:aQ .Eq (.a 0) (.a 0) h=ac af) (rfl:aA h (.j af)=ac af) j trivial) (by kernel_rfl)) q (EL m) (EM m)
theorem a56(m:su o)(g:eR (an b) (call prog a c n) (.ref 413) [.obj (an b).o,.str t] s d o):sB b (call prog a c (n+1)) 4 t s d o:=by
 intro h x;have g:=g h x;have p:fS qi [.obj (an b).o,.a (4:Nat),.str t]=ac [ac (.obj (an b).o),ac (.a 4),ac (.str t),ae,ae,ae]:=rfl
 induction o using cJ.casesOn with
 |ok v=>
  refine bP g λf j k l=>br f ?_ k l;rw[cX tf p,tJ];exact Hj (be (g:=rg) (r:=ac (.B (.tup [.a 0,v,.tup [],.a 0]),[ac (.obj (an b).o),ac (.a 4),ac (.str t),ae,ae,ae],f)) [.b ag,.b ag,.b af,.b af,.r (.ok v f)] (kP (rfl:aQ .Eq (.a 4) (.a 0) h=ac ag) (rfl:aA h (.j ag)=ac ag) (rfl:aQ .Eq (.a 4) (.a 4) h=ac af) (rfl:aA h (.j af)=ac af) j trivial) (by kernel_rfl))
 |exc r u e w y=>
  refine dz g λf i z j k l q=>br f ?_ k l;rw[cX tf p,tJ];exact FG (be (g:=rg) (r:=ac (.exc i,[ac (.obj (an b).o),ac (.a 4),ac (.str t),ae,ae,ae],f)) [.b ag,.b ag,.b af,.b af,.r (.exc i f)] (kP (rfl:aQ .Eq (.a 4) (.a 0) h=ac ag) (rfl:aA h (.j ag)=ac ag) (rfl:aQ .Eq (.a 4) (.a 4) h=ac af) (rfl:aA h (.j af)=ac af) j trivial) (by kernel_rfl)) q (EL m) (EM m)
noncomputable def jG(h:H)(t:List Nat):H:=h++[.list (fh [] t),.list (fh [nV] t),.list (fh [s!"-nov",s!"-nob"] t),.list (fh [nB,nC,nV] t),.list [.obj h.length,.obj (h.length+1),.obj (h.length+2),.obj (h.length+3)]]
theorem au3(e:f[2]?=ac (ac (.str t))):ev prog a C ae f AW h=.ok (.obj (h.length+4)) (jG h t):=by
 have l:∀(i:List (List Nat)) (h:H),ev prog a C ae f (.y (i.map .str++[.loc 2])) h=.ok (.obj h.length) (h++[.list (i.map .str++[.str t])]):=λi h=>by
  have k:∀(i:List (List Nat)) (h:H),fD prog a C ae f (i.map .str++[.loc 2]) h=.ok (i.map .str++[.str t]) h:=λi=>by
   induction i with
   |nil=>intro h;show((ev prog a C ae f (.loc 2) h).bind λv h=>(R.ok [] h).bind λj h=>.ok (v::j) h)=_;rw[(λh=>Md e:∀h,ev prog a C ae f (.loc 2) h=.ok (.str t) h)];rfl
   |cons w i n=>intro h;show(fD prog a C ae f (i.map .str++[.loc 2]) h).bind (λj h=>.ok (.str w::j) h)=_;rw[n];rfl
  show(fD prog a C ae f (i.map .str++[.loc 2]) h).bind _=_;rw[k];rfl
 show(fD prog a C ae f [.y ([dL].map .str++[.loc 2]),.y ([dL,nV].map .str++[.loc 2]),.y ([dL,s!"-nov",s!"-nob"].map .str++[.loc 2]),.y ([dL,nB,nC,nV].map .str++[.loc 2])] h).bind _=_;show(((ev prog a C ae f (.y ([dL].map .str++[.loc 2])) h).bind λv h=>((ev prog a C ae f (.y ([dL,nV].map .str++[.loc 2])) h).bind λv h=>((ev prog a C ae f (.y ([dL,s!"-nov",s!"-nob"].map .str++[.loc 2])) h).bind λv h=>((ev prog a C ae f (.y ([dL,nB,nC,nV].map .str++[.loc 2])) h).bind λv h=>(R.ok [] h).bind λj h=>.ok (v::j) h).bind λj h=>.ok (v::j) h).bind λj h=>.ok (v::j) h).bind λj h=>.ok (v::j) h)).bind _=_;rw[l];show(((ev prog a C ae f (.y ([dL,nV].map .str++[.loc 2])) _).bind _).bind _).bind _=_;rw[l];show((((ev prog a C ae f (.y ([dL,s!"-nov",s!"-nob"].map .str++[.loc 2])) _).bind _).bind _).bind _).bind _=_;rw[l];show(((((ev prog a C ae f (.y ([dL,nB,nC,nV].map .str++[.loc 2])) _).bind _).bind _).bind _).bind _).bind _=_;rw[l];unfold jG;have m:∀(g:H) (o:O),(g++[o]).length=g.length+1:=λp p=>aU;show R.ok (V.obj _) (_++[O.list [.obj _,.obj _,.obj _,.obj _]])=_;rw[m,m,m,m,bt,bt,bt,bt];rfl
theorem aO2{k:Nat}(f:k<4):cH (jG h t) (.obj (h.length+4)) (.a k)=ac (.obj (h.length+k)):=by
 unfold cH;dsimp only;have e:(jG h t)[h.length+4]?=ac (.list [.obj h.length,.obj (h.length+1),.obj (h.length+2),.obj (h.length+3)]):=by
  unfold jG;rw[fM (by lia),CB];rfl
 rw[e];dsimp only;rw[if_pos (ku k),pD];exact lQ (F:=λk=>[V.obj h.length,V.obj (h.length+1),V.obj (h.length+2),V.obj (h.length+3)][k]?) (G:=λk=>ac (V.obj (h.length+k))) rfl f
noncomputable def nL:Nat->Nat
 |2=>1|3=>2|5=>3|_=>0
theorem aO3(f:e=1\/e=2\/e=3\/e=5):(jG h t)[h.length+nL e]?=ac (.list (fh (ph e) t)):=by
 unfold jG;rw[fM (by lia),CB];rcases f with rfl|rfl|rfl|rfl<;>rfl
theorem Pc:(∀o∈ph e,o∈[nB,nC,nV,s!"-nov",s!"-nob"])/\(ph e).length<1000:=by
 have q:∀e,(ph e).all (λo=>o==nB||(o==nC||(o==nV||(o==s!"-nov"||o==s!"-nob"))))&&pL (ph e).length 999=af:=
  eg rfl<|eg rfl<|eg rfl<|eg rfl<|eg rfl<|eg rfl λf=>rfl
 have q:=Bool.and_eq_true_iff.mp (q e);refine⟨λo m=>?_,Nat.lt_succ_of_le (kz (of_decide_eq_true q.2))⟩
 have z:=List.all_eq_true.mp q.1 o m;rw[lC,lC,lC,lC,beq_iff_eq,beq_iff_eq,beq_iff_eq,beq_iff_eq,beq_iff_eq]at z;rw[iR,iR,iR,iR,bf4];exact z
theorem Et(e:bX P a C c i f h g=ac (.next,j,k)):aJ P a C c (i::r) f h g=aJ P a C c r j k g:=by
 show(match bX P a C c i f h g with|some (.next,f,h)=>aJ P a C c r f h g|x=>x)=_;rw[e]
theorem a91{e:Nat}(h:e=1\/e=2\/e=3\/e=5):((e:Int)==0)=ag:=by rcases h with rfl|rfl|rfl|rfl<;>rfl
theorem a92{e:Nat}(h:e=1\/e=2\/e=3\/e=5):((e:Int)==4)=ag:=by rcases h with rfl|rfl|rfl|rfl<;>rfl
theorem a93{e:Nat}(h:e=1\/e=2\/e=3\/e=5):nL e<4:=by rcases h with rfl|rfl|rfl|rfl<;>decide
theorem a94{e:Nat}{C:bc}{f i:Option V}{g:H}(h:e=1\/e=2\/e=3\/e=5):ev prog a C ae [f,ac (.a e),i,ae,ae,ae] (.E (.Q (.loc 1) .Lt (.a 4)) (.d2 .Sub (.loc 1) (.a 1)) (.a 3)) g=.ok (.a (nL e:Nat)) g:=by rcases h with rfl|rfl|rfl|rfl<;>rfl
theorem BS(G:60<=c)(I:20<=n)(j:f=1\/f=2\/f=3\/f=5)(y:su o)(J:∀v,o=.ok v->∃w,v=.str w)
  (L:eR (an b) (call prog a c n) (.ref 695) [.obj (an b).o,.str t,.j (!ka ((ph f).map fE) nB),.j (!ka ((ph f).map fE) nC),.j (!ka ((ph f).map fE) nV)] ⟨s.d,s.sp+1,s.log,s.J⟩ d o):
  sB b (call prog a c (n+5)) f t s d o:=by
 intro h x;have z:cq b s (jG h t):=(an b).app x;have A:Fr b h (jG h t):=Fr.app;have B:=a25 (b:=a) G I Pc.1 Pc.2 J L z (λm=>absurd ((x.lt:∀M∈b,M<h.length) _ m) (Nat.not_lt.mpr (dm _ _))) (aO3 j);have C:fS qi [.obj (an b).o,.a f,.str t]=ac [ac (.obj (an b).o),ac (.a f),ac (.str t),ae,ae,ae]:=rfl;have D:=tw z av9 rfl;have N:bX prog a (call prog a c (n+4)) c (.q 3 (.t AW (.E (.Q (.loc 1) .Lt (.a 4)) (.d2 .Sub (.loc 1) (.a 1)) (.a 3)))) [ac (.obj (an b).o),ac (.a f),ac (.str t),ae,ae,ae] h ae=ac (.next,[ac (.obj (an b).o),ac (.a f),ac (.str t),ac (.obj (h.length+nL f)),ae,ae],jG h t):=by
  show aO ((ev prog a (call prog a c (n+4)) ae [ac (.obj (an b).o),ac (.a f),ac (.str t),ae,ae,ae] AW h).bind λo h=>(ev prog a (call prog a c (n+4)) ae [ac (.obj (an b).o),ac (.a f),ac (.str t),ae,ae,ae] (.E (.Q (.loc 1) .Lt (.a 4)) (.d2 .Sub (.loc 1) (.a 1)) (.a 3)) h).bind λk h=>match cH h o k with|some v=>.ok v h|none=>.i) _ _=_;rw[(au3 (a:=a) (C:=call prog a c (n+4)) (h:=h) (t:=t) (f:=[ac (.obj (an b).o),ac (.a f),ac (.str t),ae,ae,ae]) rfl)];show aO ((ev prog a (call prog a c (n+4)) ae _ (.E (.Q (.loc 1) .Lt (.a 4)) (.d2 .Sub (.loc 1) (.a 1)) (.a 3)) (jG h t)).bind _) _ _=_;rw[a94 j];show aO (match cH (jG h t) (.obj (h.length+4)) (.a (nL f:Nat))with|some v=>R.ok v _|none=>.i) _ _=_;rw[(aO2 (h:=h) (t:=t) (k:=nL f) (a93 j))];rfl
 have E:∀(l:Int) (e:List St),((f:Int)==l)=ag->bX prog a (call prog a c (n+4)) c (.E (.Q (.loc 1) .Eq (.a l)) e []) [ac (.obj (an b).o),ac (.a f),ac (.str t),ae,ae,ae] h ae=ac (.next,[ac (.obj (an b).o),ac (.a f),ac (.str t),ae,ae,ae],h):=λl e P=>
  ej [.b ag,.b ag] (dc ((hP (h:=h)).trans (congrArg ac P):aQ .Eq (.a f) (.a l) h=ac ag) (rfl:aA h (.j ag)=ac ag) trivial) (by kernel_rfl)
 have F:∀r,aJ prog a (call prog a c (n+4)) c [.B (ac (.tup [(.a 0),(.c3 (.loc 0) s!"call" [(.loc 3)]),(.tup []),(.a 0)]))] [ac (.obj (an b).o),ac (.a f),ac (.str t),ac (.obj (h.length+nL f)),ae,ae] (jG h t) ae=r->aJ prog a (call prog a c (n+4)) c rg [ac (.obj (an b).o),ac (.a f),ac (.str t),ae,ae,ae] h ae=r:=λr e=>by
  unfold rg;rw[Et (E 0 _ (a91 j)),Et (E 4 _ (a92 j)),Et N];exact e
 induction o using cJ.casesOn with
 |ok v=>
  refine bP B λg p q u=>br g ?_ q (A.trans u);rw[cX tf C,tJ];exact Hj (F _ (be (r:=ac (.B (.tup [.a 0,v,.tup [],.a 0]),[ac (.obj (an b).o),ac (.a f),ac (.str t),ac (.obj (h.length+nL f)),ae,ae],g)) [.g (.ref 477) [.obj (an b).o],.r (.ok v g)] (dc D p trivial) (by kernel_rfl)))
 |exc S T e U Y=>
  refine dz B λg i Z p q u Q=>br g ?_ q (A.trans u);rw[cX tf C,tJ];exact FG (F _ (be (r:=ac (.exc i,[ac (.obj (an b).o),ac (.a f),ac (.str t),ac (.obj (h.length+nL f)),ae,ae],g)) [.g (.ref 477) [.obj (an b).o],.r (.exc i g)] (dc D p trivial) (by kernel_rfl))) Q (EL y) (EM y)
end
end
section
noncomputable def kT:List Nat:=s!"row"
noncomputable def jz:List Nat:=s!"rest"
def gC(d c:Nat)(h:H):Prop:=d≠c/\∃(e:List Int) (r:Int) (m:Option Nat),h[d]?=ac (.dict [(kT,.obj c),(jz,.a r)] m)/\h[c]?=ac (.list (e.map .a))
section
variable{a:aj->Option (List Int)}{b:Nat}
theorem af6:prog.fn 721=ac yz:=by kernel_rfl
theorem ae0(l:List Int):(l.map V.a).all (bQ 7)=af:=by
 induction l with
 |nil=>rfl|cons i r c=>rw[eU,Co,c];rfl
theorem gC.fr(x:gC c d h)(f:Fr e h g)(i:c∉e)(j:d∉e):gC c d g:=by
 refine jk x λn k r m l o=>?_;exact Nl n k r m (f.obj l i) (f.obj o j)
theorem aO4{h:H}{d:Nat}{c:List Int}(e:h[d]?=ac (.list (c.map .a))):aQ .NotEq (.obj d) (.obj h.length) (h++[.list []])=ac (!(c.map V.a).isEmpty):=by
 show(Bc (h++[O.list []])[d]? (h++[O.list []])[h.length]?).map (!·)=_;rw[cQ e,show(h++[O.list []])[h.length]?=ac (O.list []) by rw[fM (bI _),gJ];rfl];show(if(c.map V.a).all (bQ 7)&&af then ac (mC (c.map V.a) [])else ae).map (!·)=_;rw[ae0]
 induction c using List.casesOn<;>rfl
theorem qF{n:Nat}{j g:Nat}{h:H}{c:Nat}(w:0<c)(Y:c<1000)(x:gC j g h):
  ∃d l,d<c/\call prog a b (n+2) (.m (.ref 721)) [.obj j,.a c] ae h=.ok (.a (d:Nat)) l/\gC j g l/\Fr [j,g] h l:=by
 refine jk x λy p r m A B=>?_;have S:(bf ((0:Int)<(c:Int))&&bf ((c:Int)<1000))=af:=Bool.and_eq_true_iff.mpr ⟨decide_eq_true (Int.ofNat_lt.mpr w),decide_eq_true (Int.ofNat_lt.mpr Y)⟩;have C:∀(s:Int) (o:H),o[j]?=ac (.dict [(kT,.obj g),(jz,.a r)] m)->(∃D:List Int,o[g]?=ac (.list (D.map .a)))->Fr [j,g] h o->(∀d l,d=(s+r).fmod c->l=o.set j (.dict [(kT,.obj g),(jz,.a (r.fdiv c))] ae)->
    cH o (.obj j) (.str jz)=ac (.a r)->bZ .Add (.a s) (.a r) o=.ok (.a (s+r)) o->bZ .Mod (.a (s+r)) (.a c) o=.ok (.a d) o->bZ .FloorDiv (.a r) (.a c) o=.ok (.a (r.fdiv c)) o->
    Qc [ac (.obj j),ac (.a c),ac (.a s),ac (.a d),ae] (.a (r.fdiv c)) (.obj j) (.str jz) o=ac (.next,[ac (.obj j),ac (.a c),ac (.a s),ac (.a d),ae],l)->call prog a b (n+2) (.m (.ref 721)) [.obj j,.a c] ae h=.ok (.a d) l)->
   ∃d l,d<c/\call prog a b (n+2) (.m (.ref 721)) [.obj j,.a c] ae h=.ok (.a (d:Nat)) l/\gC j g l/\Fr [j,g] h l:=λs o E F f k=>am F λD F=>by
  have z:=xI (Int.fmod_nonneg_of_pos _ (Int.ofNat_lt.mpr w):0<=(s+r).fmod c);refine⟨((s+r).fmod c).toNat,o.set j (.dict [(kT,.obj g),(jz,.a (r.fdiv c))] ae),Int.ofNat_lt.mp (z.symm▸(Int.fmod_lt_of_pos _ (Int.ofNat_lt.mpr w):(s+r).fmod c<c)),?_,(Nl y D (r.fdiv c) ae (ig (List.getElem?_eq_some_iff.mp E).1) ((fZ y).trans F)),by rw[jO];exact f.len,λu G v=>(fZ λq:j=u=>v (q▸HH)).trans (f.same u G v)⟩
  rw[z];refine k _ _ rfl rfl ((wz E).trans rfl) rfl (if_pos S) (if_pos S) ?_;show(match o[j]? with|some (O.dict T m)=>if T.length<cN then ac (Fl.next,_,o.set j (.dict (cL T jz (.a (r.fdiv c))) ae))else ae|_=>ae)=_;rw[E];exact if_pos (show 2<500 by decide)
 rw[cX af6 (i:=[ac (.obj j),ac (.a c),ae,ae,ae]) rfl]at C⊢;have I:∀(h:H),h[j]?=ac (.dict [(kT,.obj g),(jz,.a r)] m)->cH h (.obj j) (.str kT)=ac (.obj g):=λh e=>(wz e).trans rfl;have J:(h++[O.list []])[j]?=ac (.dict [(kT,.obj g),(jz,.a r)] m):=cQ A;have U:=aO4 B
 cases p with
 |nil=>
  exact C 0 (h++[O.list []]) J ⟨[],cQ B⟩ Fr.app λd l Z Z t L M N P=>
   congrArg bY (be (g:=yz.body) (r:=ac (.B (.a d),[ac (.obj j),ac (.a c),ac (.a 0),ac (.a d),ae],l)) [.v (.obj g),.b ag,.b ag,.v (.a r),.r (.ok (.a (0+r)) (h++[O.list []])),.r (.ok (.a d) (h++[O.list []])),.v (.a r),.r (.ok (.a (r.fdiv c)) (h++[O.list []])),.x (ac (.next,[ac (.obj j),ac (.a c),ac (.a 0),ac (.a d),ae],l))]
    (Fa (I h A) U (rfl:aA (h++[O.list []]) (.j ag)=ac ag) t L M t N P trivial) (by kernel_rfl))
 |cons i p=>
  have Q:(h++[O.list []])[g]?=ac (.list ((i::p).map .a)):=cQ B;have pm:fV prog (.obj g) s!"pop" (h++[O.list []])=ac (.builtin "list.pop",[.obj g]):=by
   show wO prog (.obj g) s!"pop" _ (h++[O.list []])[g]?=_;rw[Q];rfl
  exact C i ((h++[O.list []]).set g (.list (p.map .a))) ((fZ λq=>y q.symm).trans J) ⟨p,ig (List.getElem?_eq_some_iff.mp Q).1⟩
   ⟨by rw[jO,aU];exact dm _ _,λu G v=>(fZ λq:g=u=>v (q▸Sl _ HH)).trans (gI G)⟩ λd l Z Z t L M N P=>
   congrArg bY (be (g:=yz.body) (r:=ac (.B (.a d),[ac (.obj j),ac (.a c),ac (.a i),ac (.a d),ae],l)) [.v (.obj g),.b af,.b af,.v (.obj g),.g (.builtin "list.pop") [.obj g],.r (.ok (.a i) ((h++[O.list []]).set g (.list (p.map .a)))),.v (.a r),.r (.ok (.a (i+r)) ((h++[O.list []]).set g (.list (p.map .a)))),.r (.ok (.a d) ((h++[O.list []]).set g (.list (p.map .a)))),.v (.a r),.r (.ok (.a (r.fdiv c)) ((h++[O.list []]).set g (.list (p.map .a)))),.x (ac (.next,[ac (.obj j),ac (.a c),ac (.a i),ac (.a d),ae],l))]
    (AI (I h A) U (rfl:aA (h++[O.list []]) (.j af)=ac af) (I _ J) pm (lS.trans (VH.trans (PB Q)):call prog a b (n+1) (.m (.builtin "list.pop")) [.obj g,.a 0] ae (h++[O.list []])=.ok (.a i) ((h++[O.list []]).set g (.list (p.map .a)))) t L M t N P trivial) (by kernel_rfl))
end
end
section
section
variable{a:aj->Option (List Int)}{b:Nat}
theorem PX(e:60<=b)(i:cY [] prog gn 60 60 60 m (.m (.ref f)) j ae []=.ok w k)(o:bW fI [] j=ac p)(r:1+m<=n)(h:H):
  ∃g v,∃s:aF fI [],s.p=k/\s.h=h++g/\call prog a b n (.m (.ref f)) p ae h=.ok v (h++g)/\s.z w v/\∀c∈s.φ,h.length<=c:=by
 have q:=ub (a:=fI) (T:=[]) (c:=a) (f:=.m (.ref f)) FX e (bI 1) (λA A=>kZ) rfl o r ⟨[],h,[],.nil⟩ .S;rw[i]at q;exact ch q.h7 λs t d u x y=>am (fy.g5 d) λl z=>nq l t s u z (z▸x) y (λc m=>d.new c m ii)
noncomputable def Hk(j:Nat):RS W->Option (List W×List W)
 |.ok w h=>(uw w).bind λc=>(c[j]?.bind W.ix).bind λi=>(OS.y h[i]?).map λd=>(c.set j (.N .none),d)|_=>ae
theorem ci.q8(r:ci fI [] e c d)(j:Nat)(q:dW fI [] e w v):ci fI [] e (c.set j w) (d.set j v):=by
 induction c generalizing d j with
 |nil=>rw[show d=[]from r];exact rfl
 |cons u c g=>
  exact bE r λx t z h f=>by
   rw[z]
   cases j with
   |zero=>exact bw v t rfl q f|succ j=>exact bw x (t.set j v) rfl h (g f j)
theorem aU5{c:Type}{l:List c}{j:Nat}{d:c}(e:l[j]?=ac d):l.set j d=l:=by
 induction l generalizing j with
 |nil=>exact nomatch e|cons f l g=>
  cases j with
  |zero=>exact congrArg (· ::l) (ax e).symm|succ j=>exact congrArg (f::·) (g (j:=j) e)
theorem QS(v:60<=b){j:Nat}{f:aj}{k o p:List W}{q t l:List V}{m:Nat}(d:Hk j (cY [] prog gn 60 60 60 m (.m (.ref f)) k ae [])=ac (o,p))(w:bW fI [] k=ac q)(y:bW fI [] o=ac t)(z:bW fI [] p=ac l){n:Nat}(A:1+m<=n)(h:H):
  ∃g c,call prog a b n (.m (.ref f)) q ae h=.ok (.tup (t.set j (.obj c))) (h++g)/\(h++g)[c]?=ac (.list l)/\h.length<=c:=by
 induction e:cY [] prog gn 60 60 60 m (.m (.ref f)) k ae []using RS.casesOn with
 |ok z6 hS=>
  rw[e]at d;exact aC d λz7 B C=>aC C λz8 D E=>bG E λz9 F i=>aC D λwj G I=>mF (PX (a:=a) v e w A h) λg za s x=>uH x λJ L M N P=>by
   have i:=io i;subst J;refine ak (Hm B N) λzb Q r=>ak (r.get G) λx S T=>ak (hW I T) λc u U=>ak (iE F u) λY Z z0=>bw g c ?_ ?_ (P c (bT u))
   ·have z5:=Cc _ _ y (i.1▸ci.q8 r j (w:=.N .none) (v:=.none) rfl);rw[M,Q,<-z5,bf5,aU5 (U▸S)]
   ·rw[<-L,Z,show Y=l from Cc (g:=s.φ) _ _ z (i.2▸z0)]
 |_=>rw[e]at d;exact nomatch d
noncomputable def Am(f:Nat):W:=match bV f with
 |none=>.none|some (c,d,e,g)=>.tup [.a c,.str d,.tup (e.map .str),.a g]
noncomputable def du(f:Nat):V:=match bV f with
 |none=>.none|some (c,d,e,g)=>.tup [.a c,.str d,.tup (e.map .str),.a g]
theorem Zq(f:Nat):cV fI [] (Am f)=ac (du f):=by
 unfold Am du
 cases bV f with
 |none=>rfl|some e=>
  obtain⟨d,g,c,h⟩:=e;show(bW fI [] [.a d,.str g,.tup (c.map .str),.a h]).map V.tup=_;rw[iO,iO,iO];rw[show cV fI [] (.tup (c.map .str))=ac (.tup (c.map .str)) by
   show(bW fI [] (c.map .str)).map V.tup=_;rw[uG];rfl]
  rfl
noncomputable def Yk(x:Nat×Nat):Option (List W×List W):=Hk 1 (cY [] prog gn 60 60 60 12 (.m (.ref 728)) [.a x.1,.str [x.2]] ae [])
noncomputable def Yl(x:Nat×Nat):Option (List W×List W):=ac ([.str (src x.1 x.2),.none,Am x.1],(dq x.1 x.2).map .str)
noncomputable def Ll:List (Nat×Nat):=(ek 12).flatMap λf=>s!"123".map λc=>(f,c)
theorem Yn:Ll.map Yk=Ll.map Yl:=by kernel_rfl
theorem ax6{d e c x:Nat}(h:x=d\/x=e\/x=c):x∈[d,e,c]:=List.mem_cons.mpr (h.imp id λh=>List.mem_cons.mpr (h.imp id List.mem_singleton.mpr))
theorem Ys(e:60<=b){f c:Nat}(i:f<12)(j:c=49\/c=50\/c=51){n:Nat}(k:13<=n)(h:H):
  ∃g d,call prog a b n (.m (.ref 728)) [.a f,.str [c]] ae h=.ok (.tup [.str (src f c),.obj d,du f]) (h++g)/\(h++g)[d]?=ac (.list ((dq f c).map .str))/\h.length<=d:=
 QS (j:=1) (t:=[.str (src f c),.none,du f]) e (List.map_inj_left.mp Yn (f,c) (List.mem_flatMap.mpr (al f (List.mem_range.mpr i) (List.mem_map.mpr (al c (ax6 j) rfl))))) rfl (by
  show(ac (V.str (src f c))).bind (λv=>((ac V.none).bind λv=>((cV fI [] (Am f)).bind λv=>_).map _).map _)=_;rw[Zq];rfl) (uG ..) k h
noncomputable def Hg:Nat->List Nat
 |0=>[32]|1=>s!" $zz [say 9 ok]"|_=>s!"]; [nope"
noncomputable def rawOf(k c:Nat):List Nat:=match k with
 |0=>[]|1=>src 0 55|2=>src 0 55++s!" \\\n"|3=>s!"# say 7 ok ]"|4=>(hJ 4).1++(s!" say"++Hg c)|5=>(hJ 5).1++([93]++Hg c)|11=>(hJ 11).1++([93]++Hg c)|12=>[9,10,32]|k=>(hJ k).1
noncomputable def dv:Nat->gf
 |0=>.d4|1=>.e3|2=>.e3|3=>.d4|12=>.d4|k=>.i (hJ k).2.2
noncomputable def fB:Nat->Bool
 |0=>ag|1=>ag|2=>ag|3=>ag|12=>ag|_=>af
noncomputable def jB:Nat->List (List Nat)
 |1=>[[55]]|2=>[[55]]|_=>[]
theorem GF(c:k<13):iW (dv k) (rawOf k d):=
 jD (P:=λk=>iW (dv k) (rawOf k d)) (.inl rfl) (jD (al [] (.inl rfl) ((cR _).symm))<|jD (al _ (.inr rfl) rfl)<|jD (.inr (.inl rfl))<|jD (pb 4 (by decide) rfl _ rfl (λq=>nomatch q))<|jD (pb 5 (by decide) rfl _ rfl (λq=>nomatch q))<|
  jD (pb 6 (by decide) rfl [] ((cR _).symm) (λe=>rfl))<|jD (pb 7 (by decide) rfl [] ((cR _).symm) (λe=>rfl))<|jD (pb 8 (by decide) rfl [] ((cR _).symm) (λe=>rfl))<|jD (pb 9 (by decide) rfl [] ((cR _).symm) (λe=>rfl))<|
  jD (pb 10 (by decide) rfl [] ((cR _).symm) (λe=>rfl))<|jD (pb 11 (by decide) rfl _ rfl (λq=>nomatch q))<|jD (.inr (.inr rfl)) λe h=>absurd h (fw _)) k c
noncomputable def ae1(x:Nat×Nat):Option (List W×List W):=Hk 3 (cY [] prog gn 60 60 60 12 (.m (.ref 742)) [.a x.1,.a x.2] ae [])
noncomputable def ae2(x:Nat×Nat):Option (List W×List W):=ac ([.str (rawOf x.1 x.2),.str (eG (dv x.1)),.j (fB x.1),.none],(jB x.1).map .str)
noncomputable def Mx:List (Nat×Nat):=(ek 13).flatMap λk=>(ek 3).map λc=>(k,c)
theorem ae3:Mx.map ae1=Mx.map ae2:=by kernel_rfl
theorem ac4(e:60<=b){k c:Nat}(f:k<13)(i:c<3){n:Nat}(j:13<=n)(h:H):
  ∃g d,call prog a b n (.m (.ref 742)) [.a k,.a c] ae h=.ok (.tup [.str (rawOf k c),.str (eG (dv k)),.j (fB k),.obj d]) (h++g)/\(h++g)[d]?=ac (.list ((jB k).map .str))/\h.length<=d:=
 QS (j:=3) (t:=[.str (rawOf k c),.str (eG (dv k)),.j (fB k),.none]) e (List.map_inj_left.mp ae3 (k,c) (List.mem_flatMap.mpr (al k (List.mem_range.mpr f) (List.mem_map.mpr (al c (List.mem_range.mpr i) rfl))))) rfl rfl (uG ..) j h
noncomputable def Ny(w:W):Bool:=(w.b7 jx).isSome
noncomputable def NB(h:HS)(w:W):Bool:=(w.ix.bind λj=>OS.y h[j]?).any λc=>c.all Ny
noncomputable def aO5:RS W->Option Nat
 |.ok w h=>(w.ix.bind λi=>OS.y h[i]?).bind λc=>bO (c.all (NB h)) c.length|_=>ae
theorem aO9:aO5 (cY [] prog gn 60 60 60 12 (.m (.ref 714)) [] ae [])=ac 13:=by kernel_rfl
theorem am7{s:aF fI []}{c:List W}:∀{d:List V},c.all Ny=af->s.a4 c d->∃l:List Int,d=l.map .a:=by
 induction c with
 |nil=>exact λo r=>⟨[],r⟩|cons w c e=>
  exact λh r=>dr h λf g=>kp r λv t z j k=>am (e g k) λl m=>am (Option.isSome_iff_exists.mp f) λi n=>⟨i::l,by rw[z,m,kR (fg n j)];rfl⟩
theorem Vg{d:Type}{o:Option d}{p:d->Bool}(h:o.any p=af):∃c,o=ac c/\p c=af:=by
 cases o with
 |none=>exact nomatch h|some c=>exact al c rfl h
theorem aO8{s:aF fI []}{c:List W}:∀{e:List V},c.all (NB s.p)=af->s.a4 c e->∃d:List Nat,e=d.map .obj/\d.length=c.length/\∀f∈d,∃g:List Int,s.h[f]?=ac (.list (g.map .a)):=by
 induction c with
 |nil=>exact λN r=>br [] r rfl (λN m=>nomatch m)|cons w c i=>
  exact λh r=>dr h λk n=>kp r λv t z o p=>bP (i n p) λd u l m=>ak (Vg k) λM x y=>aC x λj A B=>ak (hW A o) λf C D=>ak (iE B C) λe E F=>am (am7 y F) λG I=>
   br (f::d) (by rw[z,u,D];rfl) (congrArg xT l) (λJ L=>(List.mem_cons.mp L).elim (λq=>⟨G,by rw[q,E,I]⟩) (m J))
theorem aO6(j:60<=b){n:Nat}(k:13<=n)(h:H):∃g d,∃c:List Nat,call prog a b n (.m (.ref 714)) [] ae h=.ok (.obj d) (h++g)/\(h++g)[d]?=ac (.list (c.map .obj))/\c.length=13/\∀x∈c,∃o:List Int,(h++g)[x]?=ac (.list (o.map .a)):=by
 have r:=aO9
 induction e:cY [] prog gn 60 60 60 12 (.m (.ref 714)) [] ae []using RS.casesOn with
 |ok w L=>
  rw[e]at r;exact aC r λM p q=>cb q λt u=>aC p λi y z=>mF (PX (a:=a) j e (p:=[]) rfl k h) λg v s x=>uH x λA f B C P=>by
   subst A;exact ak (hW y C) λd D E=>ak (iE z D) λN F G=>bP (aO8 t G) λc I l m=>fG g d c (E▸B) (by rw[<-f,F,I]) (l.trans u) (λx J=>f▸m x J)
 |_=>rw[e]at r;exact nomatch r
end
end
section
section
variable{b:aj->Option (List Int)}{c:Nat}{a:List Nat}{h:H}{s:bd}
theorem AG(x:cq a s h):h[a.getD 0 0]?=ac (.list s.log):=am x.g9 λz d=>d 0 _ rfl
noncomputable def ft:bd:=⟨0,0,[],ag⟩
theorem ak0:nJ (cY [] prog gn 60 60 60 20 (.m (.ref 756)) [.obj 0] ae [.list (ac 0) []])=ac (.obj 2,ey 0 (.a 0) (.list (ac 0) []) []):=by kernel_rfl
theorem Nf(v:60<=c)(w:21<=n)(e:h[d]?=ac (.list [])):∃a k,call prog b c n (.m (.ref 756)) [.obj d] ae h=.ok (.obj (an a).o) k/\cq a ft k/\a.getD 0 0=d/\d∈a/\(∀x∈a,x=d\/h.length<=x)/\Fr [] h k:=by
 have y:ir (iH ft .none) [] [d] [.list (ac 0) []] h:=⟨rfl,List.nodup_cons.mpr ⟨ii,.nil⟩,λj o z r A=>by
  cases j with
  |zero=>rw[<-ax r,<-ax A];exact Fi _ e [] rfl rfl
  |succ j=>exact nomatch r⟩
 refine ak (GI ak0) λN B C=>?_;have q:=yT (f:=b) (P:=prog) (T:=[]) (j:=60) (t:=60) (i:=60) (GY ft .none) v (bI 1) (λP P=>kZ) 20 n w ⟨[d],h,_,y⟩ (.m (.ref 756)) [.obj 0] ae ae (.m (.ref 756)) [.obj d] rfl (bw _ _ rfl (al _ rfl rfl) rfl) .S;rw[B]at q;refine ch q.h7 λf z i D E F=>ak F λt G I=>?_;have u:cq _ ft _:=Ng (s:=f) (h:=0) (n:=0) (g:=.a 0) (j:=.list (ac 0) []) (r:=[]) (u:=[]) (t:=ag) (D▸C) ⟨rfl,λP=>rfl⟩ rfl (.inl ⟨rfl,rfl⟩) (gb _);have p:(f.φ.take 16)[0]?=ac d:=by rw[xJ (by decide)];exact(pj i.pre rfl:f.φ[0]?=ac d)
 have J:(f.φ.take 16)[2]?=ac t:=by rw[xJ (by decide)];exact G
 have L:(an (f.φ.take 16)).o=t:=ti J;refine Fj (f.φ.take 16) f.h (by rw[E,I,L]) u (ti p) (bT p) (λx m=>?_) ⟨i.len,λx M P=>?_⟩
 ·by_cases g:x=d
  ·exact .inl g
  ·exact .inr (i.new x (List.mem_of_mem_take m) λm=>g (List.mem_singleton.mp m))
 ·by_cases g:x=d
  ·have l:=AG u;rw[ti p]at l;rw[g,l,e]
   try rfl
  ·exact i.same x M λm=>g (List.mem_singleton.mp m)
theorem aj9(e:60<=c)(f:31<=n)(g:s.d=0)(k:s.log.length<=1000):eR (an a) (call prog b c n) (.ref 597) [.obj (an a).o,.str kX] s s (.ok (.str vX)):=by
 have i:∀d,s.J=d->eR (an a) (call prog b c n) (.ref 597) [.obj (an a).o,.str kX] s ⟨s.d,s.sp+0,s.log++[],s.J⟩ (.ok (.str vX)):=by
  intro d j
  cases d with
  |false=>exact AH (a:=b) (c:=a) e j (by rw[g];exact aP6) f (λl=>rfl) (λl=>rfl) (λl=>rfl) (by simp;lia)
  |true=>exact AH (a:=b) (c:=a) e j (by rw[g];exact aP7) f (λl=>rfl) (λl=>rfl) (λl=>rfl) (by simp;lia)
 rw[(by rw[Cn,cR]:(⟨s.d,s.sp+0,s.log++[],s.J⟩:bd)=s)]at i;exact i s.J rfl
end
end
section
noncomputable def bJ(k:Nat):St:=yA.body.getD k .b9
theorem WL:yA.body=[bJ 0,bJ 1,bJ 2,bJ 3,bJ 4,bJ 5,bJ 6,bJ 7,bJ 8,bJ 9,bJ 10,bJ 11,bJ 12,bJ 13,bJ 14,bJ 15,bJ 16,bJ 17,bJ 18]:=rfl
noncomputable def ee(k:Nat):St:=(jJ (bJ 7)).getD k .b9
theorem aX7:bJ 7=.g1 13 (.b0 (.a1 (.ref 721)) [(.loc 3),(.a 4)]) [ee 0,ee 1,ee 2,ee 3,ee 4]:=rfl
theorem gh{a:aj->Option (List Int)}(e:bX P a C b f c h d=ac (.next,g,i)):aJ P a C b (f::r) c h d=aJ P a C b r g i d:=by
 show(match bX P a C b f c h d with|some (.next,c,h)=>aJ P a C b r c h d|x=>x)=_;rw[e]
noncomputable def bD:Nat->List (List Nat)
 |3=>[[48]]|_=>[]
noncomputable def eZ(c d:Nat):List Nat:=(nD (bf (c<2)) d).flatten
noncomputable def eA(n r w:V)(e d c f g:Nat):av:=[ac n,ac r,ac w,ac (.obj e),ac (.a d),ac (.a c),ac (.str (cT c)),ac (.str (eZ d c)),ac (.str []),ac (.str []),ac (.obj f),ac .none,ac (.obj g),ae,ae,ae,ae,ae,ae,ae,ae,ae,ae,ae,ae,ae,ae,ae,ae,ae,ae]
section
variable{a:aj->Option (List Int)}{b:Nat}
theorem aQ0{C:bc}{h:H}{c:Nat}{d:Int}{w:V}{f:List Int}(e:h[c]?=ac (.list (f.map .a))):
  bX prog a C b (bJ 0) [ac (.a d),ac (.obj c),ac w,ae,ae,ae,ae,ae,ae,ae,ae,ae,ae,ae,ae,ae,ae,ae,ae,ae,ae,ae,ae,ae,ae,ae,ae,ae,ae,ae,ae] h ae=
   ac (.next,[ac (.a d),ac (.obj c),ac w,ac (.obj h.length),ae,ae,ae,ae,ae,ae,ae,ae,ae,ae,ae,ae,ae,ae,ae,ae,ae,ae,ae,ae,ae,ae,ae,ae,ae,ae,ae],h++[.dict [(kT,.obj c),(jz,.a d)] (ac 2)])/\gC h.length c (h++[.dict [(kT,.obj c),(jz,.a d)] (ac 2)]):=by
 have g:=(List.getElem?_eq_some_iff.mp e).1;have q:iw [s!"row",s!"rest"] h.length [.obj c,.a d] (h++[O.dict [] (ac 0)])=.ok (.obj h.length) (h++[.dict [(kT,.obj c),(jz,.a d)] (ac 2)]):=by
  unfold iw;rw[(by simp:(h++[O.dict [] (some 0)])[h.length]?=some (.dict [] (some 0))),(rfl:sX [s!"row",s!"rest"] [.obj c,.a d]=ac (.dict [(kT,.obj c),(jz,.a d)] (ac 2)))];show R.ok _ _=_;rw[HJ _ _ (bI _),gJ];rfl
 refine Nj ?_ (by lia) f d (ac 2) (by simp) (cQ e);show aO (iw [s!"row",s!"rest"] h.length [.obj c,.a d] (h++[O.dict [] (ac 0)])) _ _=_;rw[q];rfl
theorem aR5(x:gC c j h):∃d e g,d<4/\e<5/\gC c j g/\Fr [c,j] h g/\
  bX prog a (call prog a b (n+2)) b (bJ 1) [k,l,m,ac (.obj c),ae,ae,ae,ae,ae,ae,ae,ae,ae,ae,ae,ae,ae,ae,ae,ae,ae,ae,ae,ae,ae,ae,ae,ae,ae,ae,ae] h ae=
   ac (.next,[k,l,m,ac (.obj c),ac (.a (d:Nat)),ac (.a (e:Nat)),ae,ae,ae,ae,ae,ae,ae,ae,ae,ae,ae,ae,ae,ae,ae,ae,ae,ae,ae,ae,ae,ae,ae,ae,ae],g):=by
 refine ch (qF (a:=a) (b:=b) (n:=n) (c:=4) (by lia) (by lia) x) λd i o p q r=>?_;refine ch (qF (a:=a) (b:=b) (n:=n) (c:=5) (by lia) (by lia) q) λe f s t u v=>?_;refine nq d e f o s u (r.trans v) ?_;exact ej [.r (.ok (.a (d:Nat)) i),.r (.ok (.a (e:Nat)) f)] (dE (p:call prog a b (n+2) (.m (.ref 721)) [.obj c,.a 4] ae h=.ok (.a (d:Nat)) i) (t:call prog a b (n+2) (.m (.ref 721)) [.obj c,.a 5] ae i=.ok (.a (e:Nat)) f) (rfl:dQ ae f=af) trivial) (by kernel_rfl)
noncomputable def mj(d c:Nat):Nat:=if d=3/\c=4 then 1 else c
theorem aR6{C:bc}{h:H}{c d:Nat}{f g i j:Option V}:
  bX prog a C b (bJ 2) [f,g,i,j,ac (.a (c:Nat)),ac (.a (d:Nat)),ae,ae,ae,ae,ae,ae,ae,ae,ae,ae,ae,ae,ae,ae,ae,ae,ae,ae,ae,ae,ae,ae,ae,ae,ae] h ae=
   ac (.next,[f,g,i,j,ac (.a (c:Nat)),ac (.a (mj c d:Nat)),ae,ae,ae,ae,ae,ae,ae,ae,ae,ae,ae,ae,ae,ae,ae,ae,ae,ae,ae,ae,ae,ae,ae,ae,ae],h):=by
 unfold mj;by_cases k:c=3
 ·by_cases l:d=4
  ·subst k l;rfl
  ·have e:((c:Int)==3)=af:=by rw[beq_iff_eq];lia
   rw[if_neg (λq=>l q.2)];exact ej [.s,.b af,.b af,.b ag,.b ag] (gk ((hP (h:=h)).trans (congrArg ac e):aQ .Eq (.a (c:Nat)) (.a 3) h=ac af) (rfl:aA h (.j af)=ac af) ((hP (h:=h)).trans (congrArg ac (by rw[beq_eq_false_iff_ne];lia:((d:Int)==4)=false)):aQ .Eq (.a (d:Nat)) (.a 4) h=ac ag) (rfl:aA h (.j ag)=ac ag) trivial) (by kernel_rfl)
 ·have e:((c:Int)==3)=ag:=by rw[beq_eq_false_iff_ne];lia
  rw[if_neg (λq=>k q.1)];exact ej [.s,.b ag,.b ag,.b ag] (dE ((hP (h:=h)).trans (congrArg ac e):aQ .Eq (.a (c:Nat)) (.a 3) h=ac ag) (rfl:aA h (.j ag)=ac ag) (rfl:aA h (.j ag)=ac ag) trivial) (by kernel_rfl)
noncomputable def nE:List V:=[.str [],.str s!"p\tq",.str s!"a$x",.str s!"[say 0 ok]]",.str s!"\\[say"]
noncomputable def eE:List V:=[.str [],.str s!"p\tq",.str s!"av[say 9 ok;",.str s!"ok]",.str s!"[say"]
noncomputable def iG:List V:=[.str [],.str s!"p\tq",.str s!"a$x",.str s!"ok]",.str s!"[say"]
theorem AO(e:h[c]?=ac (.list d))(q:d[k]?=ac v):cH h (.obj c) (.a (k:Nat))=ac v:=by
 unfold cH;dsimp only;rw[e];dsimp only;rw[if_pos (ku k),pD];exact q
theorem at2(h:c<5):nE[c]?=ac (.str (cT c)):=lQ (F:=λc=>nE[c]?) (G:=λc=>ac (.str (cT c))) rfl h
theorem aF0(h:c<5):(if e<2 then eE else iG)[c]?=ac (.str (eZ e c)):=by
 unfold eZ;by_cases d:e<2
 ·rw[if_pos d,decide_eq_true d];exact lQ (F:=λc=>eE[c]?) (G:=λc=>ac (.str (nD af c).flatten)) rfl h
 ·rw[if_neg d,decide_eq_false d];exact lQ (F:=λc=>iG[c]?) (G:=λc=>ac (.str (nD ag c).flatten)) rfl h
theorem PZ(d:c<5):bX prog a C b (bJ 3) [ac e,ac f,ac g,ac (.obj i),ac (.a (j:Nat)),ac (.a (c:Nat)),ae,ae,ae,ae,ae,ae,ae,ae,ae,ae,ae,ae,ae,ae,ae,ae,ae,ae,ae,ae,ae,ae,ae,ae,ae] h ae=
  ac (.next,[ac e,ac f,ac g,ac (.obj i),ac (.a (j:Nat)),ac (.a (c:Nat)),ac (.str (cT c)),ae,ae,ae,ae,ae,ae,ae,ae,ae,ae,ae,ae,ae,ae,ae,ae,ae,ae,ae,ae,ae,ae,ae,ae],h++[.list nE]):=by
 have k:=AO (by simp:(h++[O.list nE])[h.length]?=some (.list nE)) (at2 d);have l:[V.str [],.str s!"p\tq",.str s!"a$x",.str s!"[say 0 ok]]",.str s!"\\[say"]=nE:=rfl;exact ej [.v (.str (cT c))] (jm k trivial) (by kernel_rfl)
theorem ac7(h:H)(c:Nat):bZ .FloorDiv (.a (c:Nat)) (.a 2) h=.ok (.a ((c/2:Nat):Int)) h:=by
 have d:(c:Int).fdiv 2=((c/2:Nat):Int):=by
  rw[Int.fdiv_eq_ediv_of_nonneg _ (by lia)];rfl
 rw[<-d];rfl
theorem aR8(n:c<4)(e:d<5):bX prog a C b (bJ 4) [ac f,ac i,ac j,ac (.obj k),ac (.a (c:Nat)),ac (.a (d:Nat)),ac (.str (cT d)),ae,ae,ae,ae,ae,ae,ae,ae,ae,ae,ae,ae,ae,ae,ae,ae,ae,ae,ae,ae,ae,ae,ae,ae] h ae=
  ac (.next,[ac f,ac i,ac j,ac (.obj k),ac (.a (c:Nat)),ac (.a (d:Nat)),ac (.str (cT d)),ac (.str (eZ c d)),ae,ae,ae,ae,ae,ae,ae,ae,ae,ae,ae,ae,ae,ae,ae,ae,ae,ae,ae,ae,ae,ae,ae],h++[.list eE]++[.list iG]++[.list [.obj h.length,.obj (h++[O.list eE]).length]]):=by
 have o:[V.str [],.str s!"p\tq",.str s!"av[say 9 ok;",.str s!"ok]",.str s!"[say"]=eE:=rfl;have p:[V.str [],.str s!"p\tq",.str s!"a$x",.str s!"ok]",.str s!"[say"]=iG:=rfl;have g:(h++[O.list eE]++[O.list iG]++[O.list [.obj h.length,.obj (h++[O.list eE]).length]])[(h++[O.list eE]++[O.list iG]).length]?=ac (.list [.obj h.length,.obj (h++[O.list eE]).length]):=by rw[fM (bI _),gJ];rfl
 have l:cH (h++[O.list eE]++[O.list iG]++[O.list [.obj h.length,.obj (h++[O.list eE]).length]]) (.obj (h++[O.list eE]++[O.list iG]).length) (.a ((c/2:Nat):Int))=ac (.obj (h.length+c/2)):=by
  refine AO g ?_;have:c/2=0\/c/2=1:=by lia
  rcases this with q|q<;>rw[q]
  ·rfl
  ·simp
 have m:(h++[O.list eE]++[O.list iG]++[O.list [.obj h.length,.obj (h++[O.list eE]).length]])[h.length+c/2]?=ac (.list (if c<2 then eE else iG)):=by
  by_cases q:c<2
  ·rw[if_pos q,show c/2=0 by lia];simp
  ·rw[if_neg q,show c/2=1 by lia];simp
 exact ej [.r (.ok (.a ((c/2:Nat):Int)) (h++[.list eE]++[.list iG]++[.list [.obj h.length,.obj (h++[O.list eE]).length]])),.v (.obj (h.length+c/2)),.v (.str (eZ c d))] (dE (ac7 (h++[.list eE]++[.list iG]++[.list [.obj h.length,.obj (h++[O.list eE]).length]]) c) l (AO m (aF0 e)) trivial) (by kernel_rfl)
theorem aR9:bX prog a C b (bJ 5) [ac f,ac g,ac i,ac (.obj j),ac (.a (e:Nat)),ac (.a (c:Nat)),ac (.str (cT c)),ac (.str (eZ e c)),ae,ae,ae,ae,ae,ae,ae,ae,ae,ae,ae,ae,ae,ae,ae,ae,ae,ae,ae,ae,ae,ae,ae] h ae=
  ac (.next,[ac f,ac g,ac i,ac (.obj j),ac (.a (e:Nat)),ac (.a (c:Nat)),ac (.str (cT c)),ac (.str (eZ e c)),ac (.str []),ac (.str []),ac (.obj h.length),ac .none,ae,ae,ae,ae,ae,ae,ae,ae,ae,ae,ae,ae,ae,ae,ae,ae,ae,ae,ae],h++[.list ((bD c).map .str)]):=by
 by_cases q:c=3
 ·subst q;rfl
 ·have d:((c:Int)==3)=ag:=by rw[beq_eq_false_iff_ne];lia
  rw[(show bD c=[]from cw (motive:=λc=>c≠3->bD c=[]) c (λk=>rfl) (λc=>cw c (λk=>rfl) λc=>cw c (λk=>rfl) λc=>cw c (λq=>absurd rfl q) λk k=>rfl) q)];exact ej [.b ag,.b ag] (dE ((hP (h:=h)).trans (congrArg ac d):aQ .Eq (.a (c:Nat)) (.a 3) h=ac ag) (rfl:aA h (.j ag)=ac ag) (rfl:dQ ae (h++[O.list []])=af) trivial) (by kernel_rfl)
theorem aR7(s:j<4)(m:d<5):∃g k l,
  bX prog a C b (bJ 3) [ac n,ac o,ac p,ac (.obj q),ac (.a (j:Nat)),ac (.a (d:Nat)),ae,ae,ae,ae,ae,ae,ae,ae,ae,ae,ae,ae,ae,ae,ae,ae,ae,ae,ae,ae,ae,ae,ae,ae,ae] h ae=ac (.next,[ac n,ac o,ac p,ac (.obj q),ac (.a (j:Nat)),ac (.a (d:Nat)),ac (.str (cT d)),ae,ae,ae,ae,ae,ae,ae,ae,ae,ae,ae,ae,ae,ae,ae,ae,ae,ae,ae,ae,ae,ae,ae,ae],h++[.list nE])/\
  (∀r,aJ prog a C b (bJ 3::bJ 4::bJ 5::bJ 6::r) [ac n,ac o,ac p,ac (.obj q),ac (.a (j:Nat)),ac (.a (d:Nat)),ae,ae,ae,ae,ae,ae,ae,ae,ae,ae,ae,ae,ae,ae,ae,ae,ae,ae,ae,ae,ae,ae,ae,ae,ae] h ae=aJ prog a C b r (eA n o p q j d k l) (h++g) ae)/\
   (h++g)[k]?=ac (.list ((bD d).map .str))/\(h++g)[l]?=ac (.list [])/\h.length<=k/\h.length<=l/\k≠l:=by
 let c:=h++[O.list nE];let f:=c++[.list eE]++[.list iG]++[.list [.obj c.length,.obj (c++[O.list eE]).length]];let e:=f++[.list ((bD d).map .str)];have i:h<+:e++[O.list []]:=(ij h [O.list nE]).trans ((ij c [O.list eE]).trans ((ij (c++[O.list eE]) [O.list iG]).trans ((ij (c++[O.list eE]++[O.list iG]) [.list [.obj c.length,.obj (c++[O.list eE]).length]]).trans ((ij f [.list ((bD d).map .str)]).trans (ij e [O.list []])))));refine am i λg i=>?_;have i:=i.symm;have t:h.length<=f.length:=by simp only[f,c,aU,rS,nW];lia
 have u:e.length=f.length+1:=by simp only[e,aU,rS,nW]
 refine ak8 g f.length e.length (PZ m) (λr=>?_) ?_ ?_ t (by lia) (by lia)
 ·rw[gh (PZ m),gh (aR8 s m),gh (aR9 (h:=f)),gh (show bX prog a C b (bJ 6) _ e ae=ac (.next,_,e++[O.list []])from rfl),i];rfl
 ·rw[<-i];exact cQ (by simp only[e];simp)
 ·rw[<-i];simp
end
end
section
noncomputable abbrev dg:=List (Nat×Nat×Nat)
noncomputable def cZ:dg->Option Nat
 |[]=>ae|(f,_,_)::v=>if(bV f).isSome then ac f else cZ v
noncomputable def ff(v:dg):V:=match cZ v with
 |none=>.none|some f=>du f
noncomputable def aX:dg->List (List Nat)
 |[]=>[]|(f,v,_)::w=>dq f v++(if(bV f).isSome then[]else aX w)
theorem Mu(x:Nat×Nat×Nat):∀(w:dg),cZ (w++[x])=match cZ w with
  |some f=>ac f|none=>if(bV x.1).isSome then ac x.1 else ae
 |[]=>rfl|(f,y,i)::v=>by
  show(if(bV f).isSome then ac f else cZ (v++[x]))=_;rw[Mu x v];show _=match(if(bV f).isSome then ac f else cZ v)with|some f=>ac f|none=>_
  split<;>rfl
theorem LM(x:Nat×Nat×Nat):∀(y:dg),aX (y++[x])=if(cZ y).isSome then aX y else aX y++dq x.1 x.2.1
 |[]=>by
  obtain⟨f,v,i⟩:=x;show dq f v++(if(bV f).isSome then[]else[])=[]++dq f v;split<;>simp
 |(f,v,i)::w=>by
  show dq f v++(if(bV f).isSome then[]else aX (w++[x]))=_;rw[LM x w];show _=if(if(bV f).isSome then ac f else cZ w).isSome then dq f v++(if(bV f).isSome then[]else aX w)else(dq f v++(if(bV f).isSome then[]else aX w))++_
  cases(bV f).isSome with
  |true=>rfl|false=>induction cZ w using Option.casesOn<;>simp
theorem Oa(f w i:Nat)(y:List Nat):∀(A:dg) (v:List Nat),lay v (A++[(f,w,i)]) y=lay v A []++(src f w++(bv i++(bN i++y)))
 |[],v=>by show v++(src f w++(bv i++(bN i++y)))=(v++[])++_;rw[cR]
 |(B,C,j)::z,v=>by
  show v++(src B C++(bv j++lay (bN j) (z++[(f,w,i)]) y))=(v++(src B C++(bv j++lay (bN j) z [])))++_;rw[Oa f w i y z (bN j)];simp
theorem Fz(w:List Nat):∀(z:dg) (v:List Nat),lay v z w=lay v z []++w
 |[],v=>by show v++w=(v++[])++w;rw[cR]
 |(A,B,j)::y,v=>by
  show v++(src A B++(bv j++lay (bN j) y w))=(v++(src A B++(bv j++lay (bN j) y [])))++w;rw[Fz w y (bN j)];simp
theorem Hp(f w i:Nat):∀(C:dg) (v:List Nat),lay v (dD (C++[(f,w,i)])) []=lay v C []++(src f w++bv i)
 |[],v=>by
  show v++(src f w++(bv (qC i)++(bN (qC i)++[])))=(v++[])++_;rw[(Ad i).1,(Ad i).2];simp
 |[(z,A,j)],v=>by
  have D:=Hp f w i [] (bN j);show v++(src z A++(bv j++lay (bN j) (dD ([]++[(f,w,i)])) []))=(v++(src z A++(bv j++lay (bN j) [] [])))++_;rw[D];simp
 |(z,A,j)::y::B,v=>by
  show v++(src z A++(bv j++lay (bN j) (dD ((y::B)++[(f,w,i)])) []))=(v++(src z A++(bv j++lay (bN j) (y::B) [])))++_;rw[(Hp f w i (y::B) (bN j))];simp
theorem Qv(v:f<12):(src f w).length<=30:=
 kz (lQ (F:=λf=>pL (src f w).length 30) (G:=λy=>af) rfl v)
theorem LX:∀i,(bv i).length<=3/\(bN i).length<=6:=
 eg ⟨n_num rfl,n_num rfl⟩<|eg ⟨n_num rfl,n_num rfl⟩<|eg ⟨n_num rfl,n_num rfl⟩<|eg ⟨n_num rfl,n_num rfl⟩<|eg ⟨n_num rfl,n_num rfl⟩<|eg ⟨n_num rfl,n_num rfl⟩<|eg ⟨n_num rfl,n_num rfl⟩ λv=>⟨n_num rfl,n_num rfl⟩
theorem AV:∀{v:List Nat},(∀x∈z,fR x)->(lay v z w).length<=v.length+40*z.length+w.length:=by
 induction z with
 |nil=>exact λ{v} _=>by rw[show lay v [] w=v++w from rfl,aU];exact bI _
 |cons x B y=>
  obtain⟨f,A,i⟩:=x;intro v h;have y:=y (v:=bN i) λx C=>h x (.tail _ C);have l:=Qv (w:=A) (h (f,A,i) (.head _)).1;have z2:=LX i;show(v++(src f A++(bv i++lay (bN i) B w))).length<=_;rw[aU,aU,aU,rS];have D:=aV (rT l (rT z2.1 (aV y (CA (CA z2.2 _) _)))) (bI _);have e:=z2.1;clear z2 l y h
  lia
noncomputable def oU(i:Nat):List Nat:=bv i++bN i
noncomputable def sZ:List V:=[.tup [.str [59],.a 1],.tup [.str [10],.a 1],.tup [.str s!" ;\t",.a 2],.tup [.str s!"\\\n;",.a 3],.tup [.str s!";# ] c\n",.a 1],.tup [.str s!"\n\n ;",.a 1]]
theorem Zs(h:i<6):sZ[i]?=ac (.tup [.str (oU i),.a ((bv i).length:Nat)]):=
 lQ (F:=λi=>sZ[i]?) (G:=λi=>ac (.tup [.str (oU i),.a ((bv i).length:Nat)])) rfl h
theorem Zr:dU h (.str (oU i)) ae (ac (.a ((bv i).length:Nat)))=.ok (.str (bv i)) h:=by
 unfold dU xp ja;dsimp only[HU];rw[vV (by unfold oU;simp)];unfold ct oU;rw[uQ,Nat.sub_zero,HL]
noncomputable def eL(y z w:V)(b g d k c:Nat)(v:dg)(z5 u z3 z4 r s:Option V):av:=[ac y,ac z,ac w,ac (.obj b),ac (.a g),ac (.a d),ac (.str (cT d)),ac (.str (eZ g d)),ac (.str (lay [] v [])),ac (.str (lay [] (dD v) [])),ac (.obj k),ac (ff v),ac (.obj c),z5,u,z3,z4,r,s,ae,ae,ae,ae,ae,ae,ae,ae,ae,ae,ae,ae]
set_option tactic.hygienic true in
theorem BU:jy (ff v)=ac (cZ v).isNone:=by
 unfold ff
 cases w:cZ v with
 |none=>rfl|some f=>
  dsimp only;unfold du
  cases z:bV f with
  |none=>
   exfalso;have:∀v:dg,cZ v=ac f->(bV f).isSome:=by
    intro v
    induction v with
    |nil=>intro h;injection h
    |cons x A B=>
     obtain⟨y,C,j⟩:=x;intro h;show(bV f).isSome;have h:(if(bV y).isSome then ac y else cZ A)=ac f:=h;split at h
     ·rename_i w;injection h with h;rw[<-h];exact w
     ·exact B h
   have:=this v w;rw[z]at this;injection this
  |some x=>rfl
section
variable{m:aj->Option (List Int)}{t:Nat}
theorem a18{v j:Nat}{h:H}(w:j<9):call prog m t (v+1) (.m (.type "str")) [.a (1+(j:Int))] ae h=.ok (.str [49+j]) h:=by
 have:call prog m t (v+1) (.m (.type "str")) [.a (1+(j:Int))] ae h=dX prog ae h (.type "str") [.a (1+(j:Int))]:=yS λy z=>nomatch z;rw[this,VJ (by lia),show(1+(j:Int)).toNat=1+j by lia,show 48+(1+j)=49+j by lia]
theorem wQ{a w y:Nat}(l:a≠w)(z2:a≠y):a∉[w,y]:=λv=>(List.mem_cons.mp v).elim l λv=>z2 (List.mem_singleton.mp v)
noncomputable def eM(v y w:V)(b g d k:Nat)(n z1:List Nat)(z0:V)(c:Nat)(z5 u z3 z4 r s:Option V):av:=[ac v,ac y,ac w,ac (.obj b),ac (.a g),ac (.a d),ac (.str (cT d)),ac (.str (eZ g d)),ac (.str n),ac (.str z1),ac (.obj k),ac z0,ac (.obj c),z5,u,z3,z4,r,s,ae,ae,ae,ae,ae,ae,ae,ae,ae,ae,ae,ae]
section
variable{z8:bc}{h l z2 e:H}{o p q z0:V}{b g d k c j f i a:Nat}{x za z9 n z1 zb zc:List Nat}{z5 u z3 z4 r s:Option V}{z6 z7:List V}
theorem vU{a v w:List Nat}{h:H}(y:a.length+v.length<=big)(z:a++v=w):bZ .Add (.str a) (.str v) h=.ok (.str w) h:=z▸if_pos y
theorem a76{v:Nat}(y:z8 (.m (.ref 721)) [.obj b,.a 12] ae h=.ok (.a (f:Nat)) l)(z:z8 (.m (.type "str")) [.a (1+(j:Int))] ae l=.ok (.str [49+j]) l)(A:z8 (.m (.ref 728)) [.a (f:Nat),.str [49+j]] ae l=.ok (.tup [.str x,.obj a,du f]) z2)
  (B:z8 (.m (.ref 721)) [.obj b,.a 6] ae (z2++[.list sZ])=.ok (.a (i:Nat)) e) (C:cH e (.obj z2.length) (.a (i:Nat))=ac (.tup [.str z9,.a (v:Nat)])) (D:dU e (.str z9) ae (ac (.a (v:Nat)))=.ok (.str za) e)
  (w:n.length+x.length<=big) (E:(n++x).length+za.length<=big) (F:(n++x).length+z9.length<=big) (G:n++x++za=zc) (I:n++x++z9=zb):
  aJ prog m z8 t [ee 0,ee 1,ee 2,ee 3] (eM o p q b g d k n z1 z0 c (ac (.a (j:Nat))) u z3 z4 r s) h ae=ac (.next,eM o p q b g d k zb zc z0 c (ac (.a (j:Nat))) (ac (.str x)) (ac (.obj a)) (ac (du f)) (ac (.str z9)) (ac (.a (v:Nat))),e):=
 be [.r (.ok (.a (f:Nat)) l),.r (.ok (.a (1+(j:Int))) l),.r (.ok (.str [49+j]) l),.r (.ok (.tup [.str x,.obj a,du f]) z2),.x (ac (.next,eM o p q b g d k n z1 z0 c (ac (.a (j:Nat))) (ac (.str x)) (ac (.obj a)) (ac (du f)) r s,z2)),
   .r (.ok (.a (i:Nat)) e),.v (.tup [.str z9,.a (v:Nat)]),.x (ac (.next,eM o p q b g d k n z1 z0 c (ac (.a (j:Nat))) (ac (.str x)) (ac (.obj a)) (ac (du f)) (ac (.str z9)) (ac (.a (v:Nat))),e)),
   .r (.ok (.str (n++x)) e),.e (.ok (.str za) e),.r (.ok (.str zc) e),.r (.ok (.str (n++x)) e),.r (.ok (.str zb) e)]
  (Fb y (rfl:bZ .Add (.a 1) (.a (j:Nat)) l=.ok (.a (1+(j:Int))) l) z A (ux (d:=ae) (h:=z2) (l:=eM o p q b g d k n z1 z0 c (ac (.a (j:Nat))) u z3 z4 r s) (w:=[14,15,16]) (x:=[.str x,.obj a,du f]) rfl rfl) B C (ux (d:=ae) (h:=e) (l:=eM o p q b g d k n z1 z0 c (ac (.a (j:Nat))) (ac (.str x)) (ac (.obj a)) (ac (du f)) r s) (w:=[17,18]) (x:=[.str z9,.a (v:Nat)]) rfl rfl) (vU (h:=e) w rfl) D (vU (h:=e) E G) (vU (h:=e) w rfl) (vU (h:=e) F I) trivial) (by kernel_rfl)
theorem a77(v:jy z0=ac ag):aJ prog m z8 t [ee 4] (eM o p q b g d k n z1 z0 c z5 u z3 z4 r s) h ae=ac (.next,eM o p q b g d k n z1 z0 c z5 u z3 z4 r s,h):=
 be [.b ag,.b ag] (dc (show aQ .Is z0 .none h=ac ag from v) (rfl:aA h (.j ag)=ac ag) trivial) (by kernel_rfl)
theorem au2(v:h[c]?=ac (.list z6))(w:h[a]?=ac (.list z7))(y:z6.length+z7.length<=big):bZ .Add (.obj c) (.obj a) h=.ok (.obj h.length) (h++[.list (z6++z7)]):=by
 show yV .Add h h[c]? h[a]?=_;rw[v,w];exact if_pos y
theorem a78(w:jy z0=ac af)(y:h[c]?=ac (.list z6))(z:h[a]?=ac (.list z7))(A:z6.length+z7.length<=big):
  aJ prog m z8 t [ee 4] (eM o p q b g d k n z1 z0 c z5 u (ac (.obj a)) (ac v) r s) h ae=ac (.next,eM o p q b g d k n z1 v h.length z5 u (ac (.obj a)) (ac v) r s,h++[.list (z6++z7)]):=
 be [.b af,.b af,.r (.ok (.obj h.length) (h++[.list (z6++z7)])),.x (ac (.next,eM o p q b g d k n z1 v h.length z5 u (ac (.obj a)) (ac v) r s,h++[.list (z6++z7)]))]
  (gk (show aQ .Is z0 .none h=ac af from w) (rfl:aA h (.j af)=ac af) (au2 y z A) (ux (d:=ae) (h:=h++[.list (z6++z7)]) (l:=eM o p q b g d k n z1 z0 c z5 u (ac (.obj a)) (ac v) r s) (w:=[12,11]) (x:=[.obj h.length,v]) rfl rfl) trivial) (by kernel_rfl)
end
inductive qp(o p q:V)(b y g d k:Nat)(h:H)(G:dg->Prop)(z:Mine.Internal.X):Prop
 |mk (v:dg) (c:Nat) (w:H) (A B C D E F:Option V) (I:G v) (J:∀x∈v,fR x) (x:gC b y w) (f:Fr [b,y] h w) (L:w[c]?=ac (.list ((aX v).map .str))) (M:c≠b) (N:c≠y)
  (P:z=ac (.next,eL o p q b g d k c v A B C D E F,w))
theorem a79(hw:60<=t){w:Nat}(hn:20<=w){o p q:V}{b z g d k c j:Nat}{v:dg}{h:H}{z5 u z3 z4 r s:Option V}(hj:j<3)(jl:v.length=j)(hc:∀x∈v,fR x)(hl:v.length<=3)(x:gC b z h)(hd:h[c]?=ac (.list ((aX v).map .str)))(J:c≠b)(L:c≠z)(zg:(aX v).length<=100):
  qp o p q b z g d k h (λzh=>zh.length=j+1) (aJ prog m (call prog m t (w+2)) t [ee 0,ee 1,ee 2,ee 3,ee 4] (eL o p q b g d k c v (ac (.a (j:Nat))) u z3 z4 r s) h ae):=by
 have np:b≠z:=x.1;refine ch (qF (a:=m) (b:=t) (n:=w) (c:=12) (by lia) (by lia) x) λf l M e1 x1 B=>?_;refine bE (Ys (a:=m) hw (f:=f) (c:=49+j) M (by lia) (n:=w+2) (by lia) l) λC a e2 q2 zd=>?_;refine ch (qF (a:=m) (b:=t) (n:=w) (c:=6) (by lia) (by lia) ((x1.fr (e:=[]) Fr.app ii ii:gC b z (l++C)).fr (e:=[]) Fr.app ii ii:gC b z (l++C++[O.list sZ]))) λi e li e4 x4 D=>?_;have N:b<h.length:=jk x λZ zi zj zk A Z=>(List.getElem?_eq_some_iff.mp A).1;have P:z<h.length:=jk x λZ zi zj zk Z A=>(List.getElem?_eq_some_iff.mp A).1;have ze:h.length<=(l++C).length:=aV B.len (aU▸dm ..);have gd:e[c]?=ac (.list ((aX v).map .str)):=D.obj (cQ (cQ (B.obj hd (wQ J L)))) (wQ J L);have Q:Fr [b,z] h e:=B.trans (Fr.app.trans (Fr.app.trans D));have lb:(lay [] v []).length<=120:=aV (AV (w:=[]) (v:=[]) hc) (by show 0+40*v.length<=120;rw[jo];exact bh0 40 hl);have S:=rT lb (Qv (w:=49+j) M);have T:=LX i;have ta:=a76 (o:=o) (p:=p) (q:=q) (g:=g) (d:=d) (k:=k) (c:=c) (z0:=ff v) (z1:=lay [] (dD v) []) (u:=u) (z3:=z3) (z4:=z4) (r:=r) (s:=s) (m:=m) (t:=t) (e1:call prog m t (w+2) (.m (.ref 721)) [.obj b,.a 12] ae h=.ok (.a (f:Nat)) l) (a18 (by lia)) e2 (e4:call prog m t (w+2) (.m (.ref 721)) [.obj b,.a 6] ae (l++C++[O.list sZ])=.ok (.a (i:Nat)) e) (AO (D.obj je (wQ (uU (fu N ze)) (uU (fu P ze))):e[(l++C).length]?=ac (.list sZ)) (Zs li)) Zr
  (aV S (n_num rfl)) (by rw[aU];exact aV (rT S T.1) (n_num rfl)) (by unfold oU;rw[aU,aU];exact aV (rT S (rT T.1 T.2)) (n_num rfl))
  (show _=lay [] (dD (v++[(f,49+j,i)])) [] by rw[Hp,bt]) (show _=lay [] (v++[(f,49+j,i)]) [] by rw[Oa,bt,cR];rfl)
 have E:=wc (P:=prog) (l:=m) (C:=call prog m t (w+2)) (p:=t) (u:=[ee 0,ee 1,ee 2,ee 3]) (b:=[ee 4]) (i:=eL o p q b g d k c v (ac (.a (j:Nat))) u z3 z4 r s) (h:=h) (a:=ae);have E:=E.trans (congrArg (kJ · _) ta);have hg:(v++[(f,49+j,i)]).length=j+1:=by rw[aU,jl];rfl
 have zf:∀y∈v++[(f,49+j,i)],fR y:=λy U=>(List.mem_append.mp U).elim (hc y) λU=>List.mem_singleton.mp U▸⟨M,show 49+j=49\/49+j=50\/49+j=51 by lia⟩;have F:=LM (f,49+j,i) v;have G:=Mu (f,49+j,i) v;have I:=@BU v
 cases A:cZ v with
 |some fe=>
  rw[A]at F G I;have Y:ff (v++[(f,49+j,i)])=ff v:=by unfold ff;rw[G,A]
  refine .mk (v++[(f,49+j,i)]) c e (ac (.a (j:Nat))) (ac (.str (src f (49+j)))) (ac (.obj a)) (ac (du f)) (ac (.str (oU i))) (ac (.a ((bv i).length:Nat))) hg zf x4 Q (F▸gd) J L (E.trans ((a77 I).trans ?_));rw[<-Y];rfl
 |none=>
  rw[A]at F G I;have Y:ff (v++[(f,49+j,i)])=du f:=by
   unfold ff;rw[G];unfold du
   cases zl:bV f with
   |none=>rfl|some y=>
    show(match bV f with|none=>V.none|some (cd,zm,ec,zn)=>V.tup [V.a cd,V.str zm,V.tup (Cv V.str ec),V.a zn])=_;rw[zl]
  have ll:((aX v).map V.str).length+((dq f (49+j)).map V.str).length<=big:=by
   rw[bH,bH];exact aV (rT zg wL) (n_num rfl)
  have l4:=Q.len;refine .mk (v++[(f,49+j,i)]) e.length (e++[O.list ((aX v).map V.str++(dq f (49+j)).map V.str)]) (ac (.a (j:Nat))) (ac (.str (src f (49+j)))) (ac (.obj a)) (ac (du f)) (ac (.str (oU i))) (ac (.a ((bv i).length:Nat))) hg zf (x4.fr (e:=[]) Fr.app ii ii) (Q.trans Fr.app) ?_ (uU (fu N l4)) (uU (fu P l4)) (E.trans ((a78 I gd (D.obj (cQ q2) (wQ (uU (fu N (aV B.len zd))) (uU (fu P (aV B.len zd)))):e[a]?=ac (.list ((dq f (49+j)).map .str))) ll).trans ?_))
  ·rw[F,je,if_neg (by decide),pF]
  ·rw[<-Y];rfl
end
end
section
theorem Eh:∀{d:dg},(aX d).length<=2*d.length
 |[]=>bI _|(f,c,i)::r=>by
  show(dq f c++(if(bV f).isSome then[]else aX r)).length<=_;have e:=@wL f c;have g:=@Eh r;rw[aU,rS];split
  ·simp;lia
  ·lia
section
variable{a:aj->Option (List Int)}{b:Nat}
theorem a80(F:60<=b)(G:20<=n)(m:Nat):∀{d:Nat} {c:dg} {h:H} {e f g i j l:Option V},c.length+m<=3->(∀x∈c,fR x)->gC o w h->h[d]?=ac (.list ((aX c).map .str))->d≠o->d≠w->
  qp y z A o w B C D h (λI=>I.length=c.length+m) (gP (λZ=>af) (λv J h=>aJ prog a (call prog a b (n+2)) b [ee 0,ee 1,ee 2,ee 3,ee 4] (J.set 13 (ac v)) h ae) ((List.range' c.length m).map λ(k:Nat)=>V.a (k:Int)) (eL y z A o B C D d c e f g i j l) h):=by
 induction m with
 |zero=>exact λ{d c h e f g i j l} L p x q r s=>.mk c d h _ _ _ _ _ _ rfl p x .b5 q r s rfl|succ m M=>
  intro d c h e f g i j l L p x q r s;have t:=a79 (m:=a) (t:=b) F G (o:=y) (p:=z) (q:=A) (g:=B) (d:=C) (k:=D) (j:=c.length) (z5:=e) (u:=f) (z3:=g) (z4:=i) (r:=j) (s:=l) (by lia) rfl p (by lia) x q r s (by have:=@Eh c;lia);refine EU λzc N=>?_
  induction t using qp.casesOn with|mk c1 zd h1 P Q S T U Y E z0 x1 f1 z1 e1 e2 z2=>
  have t:=M (e:=P) (f:=Q) (g:=S) (i:=T) (j:=U) (l:=Y) (by rw[E];lia) z0 x1 z1 e1 e2
  induction t using qp.casesOn with|mk c2 z3 h2 z4 z5 z6 z7 z8 z9 ze za x2 f2 zb u1 u2 u=>
  refine N (.mk c2 z3 h2 z4 z5 z6 z7 z8 z9 (by lia) za x2 (f1.trans f2) zb u1 u2 ?_);rw[E]at u;rw[List.range'_succ,eU,MJ];exact(congrArg (uy · _) z2).trans u
theorem av0(v:60<=b)(w:20<=n)(x:gC c q h)(y:h[d]?=ac (.list []))(r:d≠c)(s:d≠q):
  qp e f g c q i j l h (λm=>m.length<=3) (bX prog a (call prog a b (n+2)) b (bJ 7) (eA e f g c i j l d) h ae):=by
 refine ch (qF (a:=a) (b:=b) (n:=n) (c:=4) (by lia) (by lia) x) λk o Z p z u=>?_;have p:call prog a b (n+2) (.m (.ref 721)) [.obj c,.a 4] ae h=.ok (.a (k:Nat)) o:=p;have t:=a80 (a:=a) (b:=b) v w (y:=e) (z:=f) (A:=g) (B:=i) (C:=j) (D:=l) k (d:=d) (c:=[]) (e:=ae) (f:=ae) (g:=ae) (i:=ae) (j:=ae) (l:=ae) (by rw[nW];lia) (λx h=>nomatch h) z (u.obj y (wQ r s)) r s;refine EU λz0 A=>?_
 induction t using qp.casesOn with|mk m B C D E F G I J L M N P Q S T U=>
 refine A (.mk m B C D E F G I J (by rw[nW]at L;lia) M N (u.trans P) Q S T ?_);have Y:ev prog a (call prog a b (n+2)) ae (eA e f g c i j l d) (.b0 (.a1 (.ref 721)) [(.loc 3),(.a 4)]) h=.ok (.a (k:Nat)) o:=by
  exact hY [.r (.ok (.a (k:Nat)) o)] (jm p trivial) (by kernel_rfl)
 rw[aX7];show aO (ev prog a (call prog a b (n+2)) ae (eA e f g c i j l d) (.b0 (.a1 (.ref 721)) [(.loc 3),(.a 4)]) h) _ _=_;rw[Y];show(if(bf ((0:Int)<=(k:Int))&&bf ((k:Int)<1000))=af then gP _ _ ((ek (k:Int).toNat).map _) _ _ else ae)=_;rw[if_pos (by simp;lia:(decide ((0:Int)<=(k:Int))&&decide ((k:Int)<1000))=true),pD,List.range_eq_range'];exact U
noncomputable def oV(c:List Nat):V:=.tup [.a 1,.str c,.tup [.str ln],.a 0]
noncomputable def gu(c:Nat)(d:dg)(e:List Nat):List Nat:=cT c++91::lay [] d e
noncomputable def jt(d:dg)(g c:List Nat):V:=match cZ d with
 |none=>oV c|some f=>match bV f with
  |none=>oV c|some e=>if e.1=2\/e.1=4\/e.1=6 then oV c else if e.1=3 then .tup [.a 0,.str g,.tup [],.a 0]else du f
noncomputable def eD(n r w:V)(g e c h i:Nat)(d:dg)(j l m o p q:Option V)(k f s:Nat)(t u v x y:Option V):av:=[ac n,ac r,ac w,ac (.obj g),ac (.a e),ac (.a c),ac (.str (cT c)),ac (.str (eZ e c)),ac (.str (lay [] d [])),ac (.str (lay [] (dD d) [])),ac (.obj h),ac (ff d),ac (.obj i),j,l,m,o,p,q,ac (.str (rawOf k f)),ac (.str (eG (dv k))),ac (.j (fB k)),ac (.obj s),ac (.str (gu c d (rawOf k f))),ac (oV (eG (dv k))),t,u,v,x,y,ae]
theorem aN6:(ek 13).all (λk=>(ek 3).all λc=>bf ((rawOf k c).length<=60))=af:=by kernel_rfl
theorem GE(d:k<13)(e:c<3):(rawOf k c).length<=60:=of_decide_eq_true (List.all_eq_true.mp (List.all_eq_true.mp aN6 k (List.mem_range.mpr d)) c (List.mem_range.mpr e))
theorem Oc:(cT c).length<=12:=by
 exact cw c (n_num rfl) λc=>cw c (n_num rfl) λc=>cw c (n_num rfl) λc=>cw c (n_num rfl) λc=>cw c (n_num rfl) λc=>n_num rfl
theorem ay9(h:H)(c d:Nat):bZ .Mod (.a ((c:Int)+(d:Int))) (.a 13) h=.ok (.a (((c+d)%13:Nat):Int)) h:=by
 have e:((c:Int)+(d:Int)).fmod 13=(((c+d)%13:Nat):Int):=by
  rw[Int.fmod_eq_emod_of_nonneg _ (by lia)];rfl
 rw[<-e];rfl
theorem UU(h:H)(c d:Nat):bZ .Add (.a (c:Int)) (.a (d:Int)) h=.ok (.a ((c:Int)+(d:Int))) h:=rfl
theorem DV(h:H)(q:d.length+f.length<=big)(e:d++f=c):bZ .Add (.str d) (.str f) h=.ok (.str c) h:=by rw[<-e];exact if_pos q
theorem aS0(L:60<=b)(hn:20<=n)(z0:c<13)(M:∀x∈i,fR x)(hl:i.length<=3)(x:gC l C h):
  ∃k j m D,k<13/\j<3/\Fr [l,C] h D/\D[m]?=ac (.list ((jB k).map .str))/\(∃E:List Int,D[C]?=ac (.list (E.map .a)))/\h.length<=m/\∀r,
   aJ prog a (call prog a b (n+2)) b (bJ 8::bJ 9::r) (eL q s (.a (c:Nat)) l o e t u i v w y z A B) h ae=aJ prog a (call prog a b (n+2)) b r (eD q s (.a (c:Nat)) l o e t u i v w y z A B k j m ae ae ae ae ae) D ae:=by
 refine ch (qF (a:=a) (b:=b) (n:=n) (c:=13) (by lia) (by lia) x) λd p l1 N P I=>?_;refine ch (qF (a:=a) (b:=b) (n:=n) (c:=3) (by lia) (by lia) P) λj f F Q S J=>?_;have G:(c+d)%13<13:=Nat.mod_lt _ (by lia);refine bE (ac4 (a:=a) L G F (n:=n+2) (by lia) f) λg m T U Y=>?_;have il:=AV (w:=[]) (v:=[]) M;simp only[nW,jo,HP]at il;have rl:=GE (c:=j) G F;have tl:=@Oc e;have bg:big=1000000:=rfl;refine jk (S.fr (e:=[]) Fr.app (by simp) (by simp):gC l C (f++g)) λZ E Z Z Z q4=>?_;refine al5 ((c+d)%13) j m (f++g) G F (I.trans (J.trans .app):Fr [l,C] h (f++g)) U ⟨E,q4⟩ (aV (aV I.len J.len) Y) (λr=>?_);have t8:bX prog a (call prog a b (n+2)) b (bJ 8) (eL q s (.a (c:Nat)) l o e t u i v w y z A B) h ae=ac (.next,[ac q,ac s,ac (.a (c:Nat)),ac (.obj l),ac (.a o),ac (.a e),ac (.str (cT e)),ac (.str (eZ o e)),ac (.str (lay [] i [])),ac (.str (lay [] (dD i) [])),ac (.obj t),ac (ff i),ac (.obj u),v,w,y,z,A,B,ac (.str (rawOf ((c+d)%13) j)),ac (.str (eG (dv ((c+d)%13)))),ac (.j (fB ((c+d)%13))),ac (.obj m),ae,ae,ae,ae,ae,ae,ae,ae],f++g):=by
  exact ej [.r (.ok (.a (d:Nat)) p),.r (.ok (.a ((c:Int)+(d:Int))) p),.r (.ok (.a (((c+d)%13:Nat):Int)) p),.r (.ok (.a (j:Nat)) f),.r (.ok (.tup [.str (rawOf ((c+d)%13) j),.str (eG (dv ((c+d)%13))),.j (fB ((c+d)%13)),.obj m]) (f++g))] (nj (N:call prog a b (n+2) (.m (.ref 721)) [.obj l,.a 13] ae h=.ok (.a (d:Nat)) p) (UU p c d) (ay9 p c d) (Q:call prog a b (n+2) (.m (.ref 721)) [.obj l,.a 3] ae p=.ok (.a (j:Nat)) f) T (rfl:dQ ae (f++g)=af) trivial) (by kernel_rfl)
 have t9:bX prog a (call prog a b (n+2)) b (bJ 9) [ac q,ac s,ac (.a (c:Nat)),ac (.obj l),ac (.a o),ac (.a e),ac (.str (cT e)),ac (.str (eZ o e)),ac (.str (lay [] i [])),ac (.str (lay [] (dD i) [])),ac (.obj t),ac (ff i),ac (.obj u),v,w,y,z,A,B,ac (.str (rawOf ((c+d)%13) j)),ac (.str (eG (dv ((c+d)%13)))),ac (.j (fB ((c+d)%13))),ac (.obj m),ae,ae,ae,ae,ae,ae,ae,ae] (f++g) ae=ac (.next,eD q s (.a (c:Nat)) l o e t u i v w y z A B ((c+d)%13) j m ae ae ae ae ae,f++g):=by
  exact ej [.r (.ok (.str (cT e++[91])) (f++g)),.r (.ok (.str (cT e++[91]++lay [] i [])) (f++g)),.r (.ok (.str (gu e i (rawOf ((c+d)%13) j))) (f++g))] (gk (DV (f++g) (by have:([91]:List Nat).length=1:=rfl;lia:(cT e).length+([91]:List Nat).length<=big) rfl) (DV (f++g) (by rw[aU];have:([91]:List Nat).length=1:=rfl;lia:(cT e++[91]).length+(lay [] i []).length<=big) rfl) (DV (f++g) (by rw[aU,aU];have:([91]:List Nat).length=1:=rfl;lia:(cT e++[91]++lay [] i []).length+(rawOf ((c+d)%13) j).length<=big) (by unfold gu;rw[Fz (rawOf ((c+d)%13) j)];simp:cT e++[91]++lay [] i []++rawOf ((c+d)%13) j=gu e i (rawOf ((c+d)%13) j))) (rfl:dQ ae (f++g)=af) trivial) (by kernel_rfl)
 rw[gh t8,gh t9]
set_option tactic.hygienic true in
theorem oW:∀{c:dg} {f:Nat},cZ c=ac f->∃e,bV f=ac e
 |(g,d,j)::r,f,h=>by
  have h:(if(bV g).isSome then ac g else cZ r)=ac f:=h;split at h
  ·rename_i q;injection h with h;rw[<-h];exact Option.isSome_iff_exists.mp q
  ·exact oW h
theorem Rh:lA (.a x) [.a 2,.a 4,.a 6]=ac (bf (x=2\/x=4\/x=6)):=by
 have e:lA (.a x) [.a 2,.a 4,.a 6]=ac ((2:Int)==x||((4:Int)==x||((6:Int)==x||false))):=rfl;rw[e];by_cases c:x=2
 ·subst c;rfl
 ·by_cases d:x=4
  ·subst d;rfl
  ·by_cases f:x=6
   ·subst f;rfl
   ·have g:((2:Int)==x)=ag:=by rw[beq_eq_false_iff_ne];lia
    have h:((6:Int)==x)=ag:=by rw[beq_eq_false_iff_ne];lia
    rw[g,(by rw[beq_eq_false_iff_ne];lia:((4:Int)==x)=false),h];have:¬(x=2\/x=4\/x=6):=by lia
    simp[this]
theorem aQ1:∃g,
  bX prog a C b (bJ 10) (eD x y z A p r B D d E F G I J L k M N ae ae ae ae ae) h ae=ac (.next,eD x y z A p r B D d E F G I J L k M N (ac (jt d (eZ p r) (eG (dv k)))) ae ae ae ae,h++g):=by
 unfold jt
 cases q:cZ d with
 |none=>
  refine⟨[],?_⟩
  have j:=@BU d;rw[q]at j;rw[cR];exact ej [.s,.b af,.b af,.b af] (dE (j:aQ .Is (ff d) .none h=ac af) (rfl:aA h (.j af)=ac af) (rfl:aA h (.j af)=ac af) trivial) (by kernel_rfl)
 |some f=>
  refine am (oW q) λe o=>?_;have j:=@BU d;rw[q]at j;obtain⟨c,s,t,u⟩:=e;have v:ff d=.tup [.a c,.str s,.tup (t.map .str),.a u]:=by
   unfold ff du;rw[q];dsimp only;rw[o]
  dsimp only;rw[o];dsimp only;have l:∀h,cH h (ff d) (.a 0)=ac (.a c):=λh=>by rw[v];rfl
  have w:(h++[O.list [.a 2,.a 4,.a 6]])[h.length]?=ac (.list [.a 2,.a 4,.a 6]):=by simp
  refine⟨[.list [.a 2,.a 4,.a 6]],?_⟩
  by_cases m:c=2\/c=4\/c=6
  ·rw[if_pos m];have i:=@Rh c;have i:qU (.a c) (h++[O.list [.a 2,.a 4,.a 6]])[h.length]?=ac af:=by rw[decide_eq_true m]at i;rw[w];exact i
   exact ej [.s,.b ag,.b ag,.v (.a c),.b af,.b af] (kP (j:aQ .Is (ff d) .none h=ac ag) (rfl:aA h (.j ag)=ac ag) (l h) (i:aQ .In (.a c) (.obj h.length) (h++[O.list [.a 2,.a 4,.a 6]])=ac af) (rfl:aA (h++[O.list [.a 2,.a 4,.a 6]]) (.j af)=ac af) trivial) (by kernel_rfl)
  ·rw[if_neg m];have i:=@Rh c;have i:qU (.a c) (h++[O.list [.a 2,.a 4,.a 6]])[h.length]?=ac ag:=by rw[decide_eq_false m]at i;rw[w];exact i
   by_cases n:c=3
   ·rw[if_pos n];have P:(c==3)=af:=by rw[beq_iff_eq];exact n
    exact ej [.s,.b ag,.b ag,.v (.a c),.b ag,.b ag,.v (.a c),.b af,.b af] (nk (j:aQ .Is (ff d) .none h=ac ag) (rfl:aA h (.j ag)=ac ag) (l h) (i:aQ .In (.a c) (.obj h.length) (h++[O.list [.a 2,.a 4,.a 6]])=ac ag) (rfl:aA (h++[O.list [.a 2,.a 4,.a 6]]) (.j ag)=ac ag) (l (h++[O.list [.a 2,.a 4,.a 6]])) ((hP (h:=(h++[O.list [.a 2,.a 4,.a 6]]))).trans (congrArg ac P):aQ .Eq (.a c) (.a 3) (h++[O.list [.a 2,.a 4,.a 6]])=ac af) (rfl:aA (h++[O.list [.a 2,.a 4,.a 6]]) (.j af)=ac af) trivial) (by kernel_rfl)
   ·rw[if_neg n];rw[show du f=ff d from(by unfold du;rw[o]:du f=.tup [.a c,.str s,.tup (t.map .str),.a u]).trans v.symm];exact ej [.s,.b ag,.b ag,.v (.a c),.b ag,.b ag,.v (.a c),.b ag,.b ag] (nk (j:aQ .Is (ff d) .none h=ac ag) (rfl:aA h (.j ag)=ac ag) (l h) (i:aQ .In (.a c) (.obj h.length) (h++[O.list [.a 2,.a 4,.a 6]])=ac ag) (rfl:aA (h++[O.list [.a 2,.a 4,.a 6]]) (.j ag)=ac ag) (l (h++[O.list [.a 2,.a 4,.a 6]])) ((hP (h:=(h++[O.list [.a 2,.a 4,.a 6]]))).trans (congrArg ac (by rw[beq_eq_false_iff_ne];exact n:(c==3)=false)):aQ .Eq (.a c) (.a 3) (h++[O.list [.a 2,.a 4,.a 6]])=ac ag) (rfl:aA (h++[O.list [.a 2,.a 4,.a 6]]) (.j ag)=ac ag) trivial) (by kernel_rfl)
end
end
section
theorem Qt(f c:Nat):xt f=((dq f c).length:Int):=by
 unfold xt dq
 match f with
 |0=>rfl|1=>rfl|2=>rfl|3=>rfl|4=>rfl|5=>rfl|6=>rfl|7=>rfl|8=>rfl|9=>rfl|f+10=>rfl
theorem OH{f c:Nat}{s:bd}(h:bV f=ae):s.next f c=⟨s.d,s.sp+((dq f c).length:Int),s.log++(dq f c).map .str,ag⟩:=by
 unfold bd.next
 rw[Qt f c,decide_eq_false (λq=>by subst q;injection h)]
theorem IW{s:bd}{c e:List (List Nat)}{z:Bool}:(⟨s.d,s.sp+((c++e).length:Int),s.log++(c++e).map V.str,z⟩:bd)=⟨s.d,s.sp+(c.length:Int)+(e.length:Int),s.log++c.map V.str++e.map V.str,z⟩:=by
 rw[aU,pF,bt,bc7,bc3]
theorem ua{k:gf}{f:Nat}{e:Int×List Nat×List (List Nat)×Int}(n:bV f=ac e){j:dg}:∀{s:bd} {l:V},cZ j=ac f->
  dw k j s l=(⟨s.d,s.sp+((aX j).length:Int),s.log++(aX j).map .str,bf (f=9)⟩,mo e):=by
 induction j with
 |nil=>exact λh=>nomatch h|cons x r o=>
  obtain⟨g,c,i⟩:=x;intro s l h;have h:(if(bV g).isSome then ac g else cZ r)=ac f:=h;show(match bV g with|none=>dw k r (s.next g c) (.str cr)|some e=>(s.next g c,mo e))=(⟨s.d,s.sp+((dq g c++(if(bV g).isSome then[]else aX r)).length:Int),s.log++(dq g c++(if(bV g).isSome then[]else aX r)).map .str,bf (f=9)⟩,mo e)
  cases q:bV g with
  |some m=>
   rw[q]at h;have h:=ax h;rw[h,n]at q;rw[ax q,<-h];show(s.next g c,mo m)=(⟨s.d,s.sp+((dq g c++[]).length:Int),s.log++(dq g c++[]).map .str,bf (g=9)⟩,mo m);rw[cR];unfold bd.next
   rw[Qt g c]
  |none=>
   rw[q]at h;show dw k r (s.next g c) (.str cr)=(⟨s.d,s.sp+((dq g c++aX r).length:Int),s.log++(dq g c++aX r).map .str,bf (f=9)⟩,mo e);rw[o h,OH q,IW]
theorem tZ:∀{s:bd} {w:List Nat},s.J=ag->cZ k=ae->
  dw j k s (.str w)=dw j [] ⟨s.d,s.sp+((aX k).length:Int),s.log++(aX k).map .str,ag⟩ (.str (if k=[]then w else cr)):=by
 induction k with
 |nil=>
  intro s w l _;show dw j [] s (.str w)=dw j [] ⟨s.d,s.sp+0,s.log++[],ag⟩ (.str w);rw[Cn,cR,<-l]
 |cons x r m=>
  obtain⟨g,f,i⟩:=x;intro s w l h;have h:(if(bV g).isSome then ac g else cZ r)=ae:=h;rw[if_neg (c:=(g,f,i)::r=[]) λz=>nomatch z];show(match bV g with|none=>dw j r (s.next g f) (.str cr)|some e=>(s.next g f,mo e))=dw j [] ⟨s.d,s.sp+((dq g f++(if(bV g).isSome then[]else aX r)).length:Int),s.log++(dq g f++(if(bV g).isSome then[]else aX r)).map .str,ag⟩ _
  cases q:bV g with
  |some n=>rw[q]at h;exact nomatch h
  |none=>
   rw[q]at h;show dw j r (s.next g f) (.str cr)=dw j [] ⟨s.d,s.sp+((dq g f++aX r).length:Int),s.log++(dq g f++aX r).map .str,ag⟩ (.str cr);rw[IW,OH q,m rfl h,ite_self]
theorem Zo(h:bV f=ac e):e.1=1\/e.1=3\/e.1=2\/e.1=4\/e.1=6:=by
 by_cases l:f<10
 ·have c:=List.all_eq_true.mp (by kernel_rfl:(List.range 10).all (λf=>(bV f).all λe=>decide (e.1=1\/e.1=3\/e.1=2\/e.1=4\/e.1=6))=true) f (List.mem_range.mpr l);rw[h]at c;exact of_decide_eq_true c
 ·refine am (show∃k,f=k+10 from⟨f-10,by lia⟩) λk z=>?_;rw[z]at h;exact nomatch h
theorem FA(s:bd)(c:Nat):nA s c=⟨s.d,s.sp+((bD c).length:Int),s.log++(bD c).map .str,s.J⟩:=by
 have z:s=⟨s.d,s.sp+((([]:List (List Nat)).length:Nat):Int),s.log++([]:List (List Nat)).map .str,s.J⟩:=by
  show s=⟨s.d,s.sp+0,s.log++[],s.J⟩;rw[Cn,cR]
 exact cw c z λl=>cw l z λl=>cw l z λl=>cw l rfl λl=>z
theorem Au(l:List V)(i:Int):yt (.tup l) (.a i):=⟨λc q=>(by injection q),λc q=>(by injection q)⟩
theorem Bi(h:s.J=ag):∃z,(lB g (nA s c)).1=⟨s.d,s.sp+((bD c).length:Int)+((aX g).length:Int),s.log++(bD c).map .str++(aX g).map .str,z⟩:=by
 rw[FA];unfold lB;dsimp only
 cases q:cZ g with
 |some f=>
  refine am (oW q) λe i=>?_;rw[ua i q];exact⟨_,by dsimp only;rw[Cm]⟩
 |none=>
  rw[tZ (s:=⟨s.d+1,s.sp+((bD c).length:Int),s.log++(bD c).map V.str,s.J⟩) h q];refine⟨ag,?_⟩
  show(⟨s.d+1-1,s.sp+((bD c).length:Int)+((aX g).length:Int),s.log++(bD c).map V.str++(aX g).map V.str,ag⟩:bd)=_;rw[Cm]
theorem Bh(o:s.J=ag):wT (tL p i s h (bf (r<2)))=jt i (eZ r h) (eG p):=by
 unfold tL jt;rw[FA];unfold lB;dsimp only
 cases q:cZ i with
 |some f=>
  refine am (oW q) λe g=>?_;rw[ua g q];obtain⟨c,j,k,l⟩:=e;have t:du f=.tup [.a c,.str j,.tup (k.map .str),.a l]:=by unfold du;rw[g]
  dsimp only;rw[g];dsimp only;show wT (rF (qL _ _ (mq (.exc c j (.tup (k.map .str)) (.a l) (.a 0)))))=_;unfold mq;dsimp only;by_cases m:c=1
  ·subst m;rw[if_pos rfl,if_neg (by lia),if_neg (by lia),t];rfl
  ·rw[if_neg m];by_cases n:c=3
   ·subst n;rw[if_pos rfl,if_neg (by lia),if_pos rfl];rfl
   ·rw[if_neg n];have u:c=2\/c=4\/c=6:=by
     have v:=Zo g
     lia
    rw[if_pos u];split<;>rfl
 |none=>
  rw[tZ (s:=⟨s.d+1,s.sp+((bD h).length:Int),s.log++(bD h).map V.str,s.J⟩) o q];rfl
theorem ri(p:s.J=ag):su (tL r i s g t)/\∀v,tL r i s g t=.ok v->∃w,v=.str w:=by
 have h:∀j,su (rF (.exc 1 j (.tup [.str ln]) (.a 0) (.a 0))):=λj=>Au _ _;unfold tL;rw[FA];unfold lB;dsimp only
 cases q:cZ i with
 |some f=>
  refine am (oW q) λe u=>?_;rw[ua u q];obtain⟨c,k,l,m⟩:=e;show su (rF (qL _ _ (mq (.exc c k (.tup (l.map .str)) (.a m) (.a 0)))))/\∀v,rF (qL _ _ (mq (.exc c k (.tup (l.map .str)) (.a m) (.a 0))))=.ok v->_;unfold mq;dsimp only;by_cases n:c=1
  ·rw[if_pos n];exact⟨Au _ _,λv q=>by injection q⟩
  ·rw[if_neg n];by_cases o:c=3
   ·rw[if_pos o];exact⟨trivial,λv q=>by injection q with q;exact⟨_,q.symm⟩⟩
   ·rw[if_neg o];split
    ·exact⟨h _,λv q=>by injection q⟩
    ·exact⟨h _,λv q=>by injection q⟩
 |none=>
  rw[tZ (s:=⟨s.d+1,s.sp+((bD g).length:Int),s.log++(bD g).map V.str,s.J⟩) p q];exact⟨h _,λv q=>by injection q⟩
section
variable{a:aj->Option (List Int)}{d:Nat}{b:List Nat}
theorem a58(g:60<=d)(w:100<=n)(q:k<13)(j:∀x∈e,fR x)(y:e.length<=3)(r:i<4)(l:c<5)(s:i=3->c≠4):
  ∃o z,sB b (call prog a d n) i (gu c e (rawOf k u)) ft ⟨0,(if i=0 then 0 else 1)+((bD c).length:Int)+((aX e).length:Int),(bD c).map .str++(aX e).map .str,z⟩ o/\wT o=jt e (eZ i c) (eG (dv k)):=by
 refine am (show∃m,n=m+5 from⟨n-5,by lia⟩) λm v=>?_;subst v;have p:=GF (d:=u) q
 match i,r with
 |0,_=>
  refine am (Bi (g:=e) (s:=ft) (c:=c) rfl) λz h=>?_;have f:=BO (a:=a) (c:=b) g (n:=m+4) (by lia) p j (by lia) (b:=c) (i:=af) (g:=af) l (.inl rfl) (s:=ft) rfl rfl (by decide) rfl (.inr (dE rfl rfl rfl rfl));rw[h]at f;have t:=a55 (ri rfl).1 f;refine gF _ z ?_ (Bh (s:=ft) (r:=0) rfl);rw[(rfl:(⟨ft.d,ft.sp+((bD c).length:Int)+((aX e).length:Int),ft.log++(bD c).map .str++(aX e).map .str,z⟩:bd)=⟨0,(if 0=0 then 0 else 1)+((bD c).length:Int)+((aX e).length:Int),(bD c).map .str++(aX e).map .str,z⟩)]at t;exact t
 |1,_=>
  refine am (Bi (g:=e) (s:=⟨0,1,[],ag⟩) (c:=c) rfl) λz h=>?_;have f:=BO (a:=a) (c:=b) g (n:=m) (by lia) p j (by lia) (b:=c) (i:=af) (g:=af) l (.inl rfl) (s:=⟨0,1,[],ag⟩) rfl rfl (by decide) rfl (.inl rfl);rw[h]at f;exact gF _ z (BS (s:=ft) g (n:=m) (f:=1) (by lia) (.inl rfl) (ri rfl).1 (ri rfl).2 f) (Bh (s:=⟨0,1,[],ag⟩) (r:=1) rfl)
 |2,_=>
  refine am (Bi (g:=e) (s:=⟨0,1,[],ag⟩) (c:=c) rfl) λz h=>?_;have f:=BO (a:=a) (c:=b) g (n:=m) (by lia) p j (by lia) (b:=c) (i:=af) (g:=ag) l (.inl rfl) (s:=⟨0,1,[],ag⟩) rfl rfl (by decide) rfl (.inl rfl);rw[h]at f;exact gF _ z (BS (s:=ft) g (n:=m) (f:=2) (by lia) (.inr (.inl rfl)) (ri rfl).1 (ri rfl).2 f) (Bh (s:=⟨0,1,[],ag⟩) (r:=2) rfl)
 |3,_=>
  refine am (Bi (g:=e) (s:=⟨0,1,[],ag⟩) (c:=c) rfl) λz h=>?_;have f:=BO (a:=a) (c:=b) g (n:=m) (by lia) p j (by lia) (b:=c) (i:=ag) (g:=ag) l (.inr (s rfl)) (s:=⟨0,1,[],ag⟩) rfl rfl (by decide) rfl (.inl rfl);rw[h]at f;exact gF _ z (BS (s:=ft) g (n:=m) (f:=3) (by lia) (.inr (.inr (.inl rfl))) (ri rfl).1 (ri rfl).2 f) (Bh (s:=⟨0,1,[],ag⟩) (r:=3) rfl)
theorem a59(c:60<=d)(g:2000<d)(h:100<=n)(e:t.length<1000):sB b (call prog a d n) 5 t s ⟨s.d,s.sp+1,s.log,s.J⟩ (.ok (.str t)):=by
 refine am (show∃m,n=m+2+5 from⟨n-7,by lia⟩) λm f=>?_;subst f;exact BS (s:=s) c (n:=m+2) (f:=5) (by lia) (.inr (.inr (.inr rfl))) trivial (λv q=>⟨t,by injection q with q;exact q.symm⟩) (a26 (s:=⟨s.d,s.sp+1,s.log,s.J⟩) e (by lia))
noncomputable def sC(k:Nat)(c:dg):V:=match cZ c with
 |some f=>du f|none=>if fB k then oV (eG (dv k))else .tup [.a 0,.str (if lay [] c []≠[]\/jB k≠[]then cr else[]),.tup [],.a 0]
noncomputable def vM(k:Nat)(c:dg):List (List Nat):=match cZ c with
 |some _=>aX c|none=>aX c++jB k
theorem Fy:lay [] e []=[]↔e=[]:=by
 cases e with
 |nil=>exact⟨λg=>rfl,λg=>rfl⟩|cons x r=>
  obtain⟨f,c,i⟩:=x;constructor
  ·intro h;have h:[]++(src f c++(bv i++lay (bN i) r []))=[]:=h;have:=LV i;simp at h;rw[h.2.1]at this
   cases this
  ·intro h;injection h
noncomputable def NZ:gf->List (List Nat)
 |.e3=>[[55]]|_=>[]
noncomputable def JB:gf->Bool
 |.i _=>af|_=>ag
theorem N'(c:k<13):jB k=NZ (dv k):=lQ (F:=jB) (G:=λk=>NZ (dv k)) rfl c
theorem WQ(c:k<13):fB k=JB (dv k):=lQ (F:=fB) (G:=λk=>JB (dv k)) rfl c
theorem a57(l:60<=d)(u:100<=n)(i:k<13)(p:∀x∈c,fR x)(v:c.length<=3):
  ∃o j,sB b (call prog a d n) 4 (lay [] c (rawOf k r)) ft j o/\j.log=(vM k c).map .str/\wT o=sC k c:=by
 refine am (show∃m,n=m+1 from⟨n-1,by lia⟩) λm s=>?_;subst s;refine bw _ _ (a56 ?_ (Qa (a:=a) (b:=b) l (n:=m) (by lia) (GF (d:=r) i) p (by lia) (s:=ft) rfl (.inl rfl) (by decide))) ?_ ?_
 ·cases q:cZ c with
  |some f=>
   refine am (oW q) λe g=>?_;rw[ua g q];exact Au _ _
  |none=>
   rw[tZ (s:=ft) rfl q]
   induction dv k using gf.casesOn with
   |d4=>trivial|e3=>trivial|i y=>exact Au _ _
 ·unfold vM
  cases q:cZ c with
  |some f=>
   refine am (oW q) λe g=>?_;rw[ua g q];simp[ft]
  |none=>
   rw[tZ (s:=ft) rfl q,N' i]
   induction dv k using gf.casesOn with
   |d4=>exact congrArg (Cv V.str) (cR _).symm|e3=>exact List.map_append.symm|i w=>exact congrArg (Cv V.str) (cR _).symm
 ·unfold sC
  cases q:cZ c with
  |some f=>
   refine am (oW q) λe g=>?_;rw[ua g q];obtain⟨z,A,B,C⟩:=e;show V.tup _=du f;unfold du;rw[g]
  |none=>
   rw[tZ (s:=ft) rfl q,N' i,WQ i];have t:(if c=[]then([]:List Nat)else cr)=if lay [] c []≠[]\/([]:List (List Nat))≠[]then cr else[]:=by
    by_cases h:c=[]
    ·rw[if_pos h,if_neg λq=>q.elim (λq=>q (Fy.mpr h)) λq=>q rfl]
    ·rw[if_neg h,if_pos (.inl λq=>h (Fy.mp q))]
   induction dv k using gf.casesOn with
   |d4=>exact congrArg (λx=>V.tup [.a 0,.str x,.tup [],.a 0]) t|e3=>exact congrArg (λx=>V.tup [.a 0,.str x,.tup [],.a 0]) (if_pos (.inr λh=>nomatch h)).symm|i w=>rfl
end
end
section
theorem Rg(d:∀v:V,bQ n v=af->iM v v=af)(c:List V)(h:c.all (bQ n)=af):mC c c=af:=by
 induction c with
 |nil=>rfl|cons v r e=>
  exact dr h λf g=>by
   show(iM v v&&mC r r)=af;rw[d v f,e g];rfl
theorem Rf(n:Nat):∀(v:V),bQ n v=af->iM v v=af:=by
 induction n with
 |zero=>
  intro v h
  cases qN h with
  |none=>rfl|a i=>exact beq_self_eq_true i|str s=>exact beq_self_eq_true s
 |succ n c=>
  intro v h
  cases qN h with
  |none=>rfl|a i=>exact beq_self_eq_true i|str s=>exact beq_self_eq_true s|tup h=>exact Rg c _ h
theorem wk{h:H}{v:V}(f:bQ 8 v=af):gj h v v=ac af:=by
 have k:(if bQ 8 v&&bQ 8 v then ac (iM v v)else ae)=ac af:=by rw[f,(Rf 8 v f)];rfl
 induction v using V.casesOn<;>first|exact k|exact nomatch f
theorem Ay(n:Nat)(l:List (List Nat)):(l.map V.str).all (bQ n)=af:=by
 induction l with
 |nil=>rfl|cons s r c=>
  rw[eU,Co,c]
  induction n using Nat.casesOn<;>rfl
theorem AE{h:H}{i j:Nat}{l:List (List Nat)}(c:h[i]?=ac (.list (l.map .str)))(d:h[j]?=ac (.list (l.map .str))):gj h (.obj i) (.obj j)=ac af:=by
 show Bc h[i]? h[j]?=_;rw[c,d];show(if(l.map V.str).all (bQ 7)&&(l.map V.str).all (bQ 7)then ac (mC (l.map V.str) (l.map V.str))else ae)=_;rw[Ay,Rg (Rf 7) _ (Ay 7 l)];rfl
theorem bl4(c:List Nat):bQ 8 (oV c)=af:=rfl
theorem LW(f:Nat):bQ 8 (du f)=af:=by
 unfold du
 cases bV f with
 |none=>rfl|some e=>
  obtain⟨d,g,c,h⟩:=e;show[V.a d,.str g,.tup (c.map .str),.a h].all (bQ 7)=af;rw[Co,Co,Co];have:bQ 7 (.tup (c.map V.str))=af:=Ay 6 c;rw[this];rfl
theorem YV(c:dg)(h i:List Nat):bQ 8 (jt c h i)=af:=by
 unfold jt
 cases cZ c with
 |none=>rfl|some f=>
  dsimp only
  cases bV f with
  |none=>rfl|some e=>
   dsimp only;by_cases d:e.1=2\/e.1=4\/e.1=6
   ·rw[if_pos d];rfl
   ·rw[if_neg d];by_cases g:e.1=3
    ·rw[if_pos g];rfl
    ·rw[if_neg g];exact LW _
theorem Vd(k:Nat)(c:dg):bQ 8 (sC k c)=af:=by
 unfold sC
 cases cZ c with
 |some f=>exact LW _|none=>
  dsimp only
  cases fB k with
  |true=>rfl|false=>rfl
theorem a97{c:dg}:(lay [] (dD c) []==[])=bf (c=[]):=by
 by_cases h:c=[]
 ·subst h;rfl
 ·have d:dD c≠[]:=by
   intro q;have:=@Ed c;rw[q]at this;exact h (List.length_eq_zero_iff.mp this.symm)
  rw[decide_eq_false h,beq_eq_false_iff_ne];exact λq=>d (Fy.mp q)
section
variable{a:aj->Option (List Int)}{b:Nat}
theorem yI{h:H}{d c:Nat}{l m:List (List Nat)}(e:h[d]?=ac (.list (l.map .str)))(f:h[c]?=ac (.list (m.map .str)))(g:l.length+m.length<=1000):bZ .Add (.obj d) (.obj c) h=.ok (.obj h.length) (h++[.list ((l++m).map .str)]):=by
 show hX (λi=>hX (yU h i) h[c]?) h[d]?=_;rw[e];show hX (yU h (l.map .str)) h[c]?=_;rw[f];exact(if_pos (by rw[bH,bH];exact aV g (by decide))).trans (by rw[pF])
theorem aQ2:
  bX prog a C b (bJ 11) (eD c d e f g i j l m n o p q r s k t u v ae ae ae ae) h ae=ac (.next,eD c d e f g i j l m n o p q r s k t u v (ac (.obj h.length)) (ac (.obj (h++[O.list []]).length)) ae ae,h++[O.list []]++[O.list []]):=by
 exact ej [] (jm (rfl:dQ ae (h++[O.list []]++[O.list []])=af) trivial) (by kernel_rfl)
theorem aQ3(j:C (.m (.ref 756)) [.obj d] ae h=.ok (.obj e) f)(l:C (.m (.ref 756)) [.obj g] ae f=.ok (.obj i) c):
  bX prog a C b (bJ 12) (eD m n o p q r s t u v w x y z A k B D E (ac (.obj d)) (ac (.obj g)) ae ae) h ae=ac (.next,eD m n o p q r s t u v w x y z A k B D E (ac (.obj d)) (ac (.obj g)) (ac (.obj e)) (ac (.obj i)),c):=by
 exact ej [.r (.ok (.obj e) f),.r (.ok (.obj i) c)] (dE j l (rfl:dQ ae c=af) trivial) (by kernel_rfl)
theorem aQ4{C:bc}{o p q f:V}{r j d l m k n s g t i u:Nat}{e:dg}{h c:H}{v w x y z A:Option V}{L:List (List Nat)}(B:bQ 8 f=af)
  (D:C (.m (.ref 763)) [.obj i,.a j,.str (gu d e (rawOf k n))] ae h=.ok f c) (E:c[l]?=ac (.list ((bD d).map .str))) (F:c[m]?=ac (.list ((aX e).map .str))) (G:c[g]?=ac (.list (((bD d)++(aX e)).map .str))) (I:(bD d).length+(aX e).length<=1000)
  (J:dH prog (c++[.list (((bD d)++(aX e)).map .str)]) (.obj i) s!"depth"=ac (.a 0)):
  bX prog a C b (bJ 13) (eD o p q r j d l m e v w x y z A k n s (ac f) (ac (.obj g)) (ac (.obj t)) (ac (.obj i)) (ac (.obj u))) h ae=ac (.next,eD o p q r j d l m e v w x y z A k n s (ac f) (ac (.obj g)) (ac (.obj t)) (ac (.obj i)) (ac (.obj u)),c++[.list (((bD d)++(aX e)).map .str)]):=by
 have M:((0:Int)==0)=af:=rfl;exact ej [.s,.r (.ok f c),.b ag,.b ag,.r (.ok (.obj c.length) (c++[.list (((bD d)++(aX e)).map .str)])),.b ag,.b ag,.v (.a 0),.b ag,.b ag] (Fa D (congrArg (eJ (!·)) ((λh=>@wk h f B) c):aQ .NotEq f f c=ac ag) (rfl:aA c (.j ag)=ac ag) (yI E F I) (congrArg (eJ (!·)) (AE (cQ (y:=[O.list (((bD d)++(aX e)).map .str)]) G) (show(c++[O.list (((bD d)++(aX e)).map .str)])[c.length]?=_ by simp)):aQ .NotEq (.obj g) (.obj c.length) (c++[.list (((bD d)++(aX e)).map .str)])=ac ag) (rfl:aA (c++[.list (((bD d)++(aX e)).map .str)]) (.j ag)=ac ag) J (rfl:aQ .NotEq (.a 0) (.a 0) (c++[.list (((bD d)++(aX e)).map .str)])=ac ag) (rfl:aA (c++[.list (((bD d)++(aX e)).map .str)]) (.j ag)=ac ag) trivial) (by kernel_rfl)
theorem aQ5{C:bc}{l m n:V}{o p d q r k e t:Nat}{c:dg}{h g:H}{u v w x y z A B D E F:Option V}(G:∀s h,C (.m (.builtin "len")) [.str s] ae h=.ok (.a s.length) h)
  (f:C (.m (.ref 673)) [.str (gu d c (rawOf k e)),.a (cT d).length] ae h=.ok (pi c) (h++g)):
  bX prog a C b (bJ 14) (eD l m n o p d q r c u v w x y z k e t A B D E F) h ae=ac (.next,eD l m n o p d q r c u v w x y z k e t A B D E F,h++g):=by
 have i:=@a97 c;unfold pi at f;by_cases j:c=[]
 ·rw[if_pos j]at f;rw[decide_eq_true j]at i;have I:=@wk (h++g) (.tup [.str s!"text",.str []]) rfl;have J:C (.m (.ref 673)) [.str (gu d c (rawOf k e)),.a (cT d).length] ae h=.ok (.tup [.str s!"text",.str []]) (h++g):=f;exact ej [.r (.ok (.a (cT d).length) h),.r (.ok (.tup [.str s!"text",.str []]) (h++g)),.b af,.b af,.b ag,.b ag] (nj (G (cT d) h) J ((kO (h:=h++g)).trans (congrArg ac i):aQ .Eq (.str (lay [] (dD c) [])) (.str []) (h++g)=ac af) (rfl:aA (h++g) (.j af)=ac af) (congrArg (eJ (!·)) I:aQ .NotEq (.tup [.str s!"text",.str []]) (.tup [.str s!"text",.str []]) (h++g)=ac ag) (rfl:aA (h++g) (.j ag)=ac ag) trivial) (by kernel_rfl)
 ·rw[if_neg j]at f;rw[decide_eq_false j]at i;exact ej [.r (.ok (.a (cT d).length) h),.r (.ok (.tup [.str s!"cmd",.str (lay [] (dD c) [])]) (h++g)),.b ag,.b ag,.b ag,.b ag] (nj (G (cT d) h) (f:C (.m (.ref 673)) [.str (gu d c (rawOf k e)),.a (cT d).length] ae h=.ok (.tup [.str s!"cmd",.str (lay [] (dD c) [])]) (h++g)) ((kO (h:=h++g)).trans (congrArg ac i):aQ .Eq (.str (lay [] (dD c) [])) (.str []) (h++g)=ac ag) (rfl:aA (h++g) (.j ag)=ac ag) (congrArg (eJ (!·)) (@wk (h++g) (.tup [.str s!"cmd",.str (lay [] (dD c) [])]) rfl):aQ .NotEq (.tup [.str s!"cmd",.str (lay [] (dD c) [])]) (.tup [.str s!"cmd",.str (lay [] (dD c) [])]) (h++g)=ac ag) (rfl:aA (h++g) (.j ag)=ac ag) trivial) (by kernel_rfl)
theorem aQ6{C:bc}{m n o:V}{p q c i j k f r g l:Nat}{d:dg}{h e:H}{s t u v w x y z A:Option V}
  (B:C (.m (.ref 763)) [.obj l,.a 5,.str (gu c d (rawOf k f))] ae h=.ok (.tup [.a 0,.str (gu c d (rawOf k f)),.tup [],.a 0]) e) (D:e[i]?=ac (.list ((bD c).map .str))) (E:e[j]?=ac (.list ((aX d).map .str))) (F:e[g]?=ac (.list (((bD c)++(aX d)).map .str))) (G:(bD c).length+(aX d).length<=1000):
  bX prog a C b (bJ 15) (eD m n o p q c i j d s t u v w x k f r y (ac (.obj g)) z (ac (.obj l)) A) h ae=ac (.next,eD m n o p q c i j d s t u v w x k f r y (ac (.obj g)) z (ac (.obj l)) A,e++[.list (((bD c)++(aX d)).map .str)]):=by
 exact ej [.s,.r (.ok (.tup [.a 0,.str (gu c d (rawOf k f)),.tup [],.a 0]) e),.b ag,.b ag,.r (.ok (.obj e.length) (e++[.list (((bD c)++(aX d)).map .str)])),.b ag,.b ag] (nj B (congrArg (eJ (!·)) ((λh=>@wk h (.tup [.a 0,.str (gu c d (rawOf k f)),.tup [],.a 0]) rfl) e):aQ .NotEq (.tup [.a 0,.str (gu c d (rawOf k f)),.tup [],.a 0]) (.tup [.a 0,.str (gu c d (rawOf k f)),.tup [],.a 0]) e=ac ag) (rfl:aA e (.j ag)=ac ag) (yI D E G) (congrArg (eJ (!·)) (AE (cQ (y:=[O.list (((bD c)++(aX d)).map .str)]) F) (show(e++[O.list (((bD c)++(aX d)).map .str)])[e.length]?=_ by simp)):aQ .NotEq (.obj g) (.obj e.length) (e++[.list (((bD c)++(aX d)).map .str)])=ac ag) (rfl:aA (e++[.list (((bD c)++(aX d)).map .str)]) (.j ag)=ac ag) trivial) (by kernel_rfl)
theorem aQ7{C:bc}{n o p:V}{q e r s t k u v l g:Nat}{i:Int}{w:dg}{h d:H}{x y z A B D E F G:Option V}{f:ah}{c:List V}
  (I:dH prog h (.obj g) s!"spent"=ac (.a i)) (J:C (.m (.builtin "len")) [.obj l] ae h=.ok (.a c.length) h) (j:i=(c.length:Int)+(if e=0 then 1 else 2)) (L:fV prog (.obj g) s!"read" h=ac (f,[.obj g])) (M:C (.m f) [.obj g,.str [120]] ae h=.ok (.str vX) d):
  bX prog a C b (bJ 16) (eD n o p q e r s t w x y z A B D k u v E (ac (.obj l)) F (ac (.obj g)) G) h ae=ac (.next,eD n o p q e r s t w x y z A B D k u v E (ac (.obj l)) F (ac (.obj g)) G,d):=by
 have N:(vX==s!"v[say 9 ok;")=af:=rfl;by_cases P:e=0
 ·have m:((e:Int)==0)=af:=by rw[beq_iff_eq];lia
  rw[if_pos P]at j;have Q:(i==(c.length:Int)+1)=af:=by rw[beq_iff_eq];exact j
  exact ej [.s,.v (.a i),.r (.ok (.a c.length) h),.b af,.b af,.r (.ok (.a ((c.length:Int)+1)) h),.b ag,.b ag,.g f [.obj g],.r (.ok (.str vX) d),.b ag,.b ag] (tz I J ((hP (h:=h)).trans (congrArg ac m):aQ .Eq (.a e) (.a 0) h=ac af) (rfl:aA h (.j af)=ac af) (rfl:bZ .Add (.a c.length) (.a 1) h=.ok (.a ((c.length:Int)+1)) h) (congrArg (eJ (!·)) ((hP (h:=h)).trans (congrArg ac Q)):aQ .NotEq (.a i) (.a ((c.length:Int)+1)) h=ac ag) (rfl:aA h (.j ag)=ac ag) L M (congrArg (eJ (!·)) ((kO (h:=d)).trans (congrArg ac N)):aQ .NotEq (.str vX) (.str s!"v[say 9 ok;") d=ac ag) (rfl:aA d (.j ag)=ac ag) trivial) (by kernel_rfl)
 ·have m:((e:Int)==0)=ag:=by rw[beq_eq_false_iff_ne];lia
  rw[if_neg P]at j;exact ej [.s,.v (.a i),.r (.ok (.a c.length) h),.b ag,.b ag,.r (.ok (.a ((c.length:Int)+2)) h),.b ag,.b ag,.g f [.obj g],.r (.ok (.str vX) d),.b ag,.b ag] (tz I J ((hP (h:=h)).trans (congrArg ac m):aQ .Eq (.a e) (.a 0) h=ac ag) (rfl:aA h (.j ag)=ac ag) (rfl:bZ .Add (.a c.length) (.a 2) h=.ok (.a ((c.length:Int)+2)) h) (congrArg (eJ (!·)) ((hP (h:=h)).trans (congrArg ac (by rw[beq_iff_eq];exact j:(i==(c.length:Int)+2)=true))):aQ .NotEq (.a i) (.a ((c.length:Int)+2)) h=ac ag) (rfl:aA h (.j ag)=ac ag) L M (congrArg (eJ (!·)) ((kO (h:=d)).trans (congrArg ac N)):aQ .NotEq (.str vX) (.str s!"v[say 9 ok;") d=ac ag) (rfl:aA d (.j ag)=ac ag) trivial) (by kernel_rfl)
end
end
section
section
variable{f:aj->Option (List Int)}{s:Nat}
noncomputable def eF(x y w:V)(i d c r g:Nat)(a:dg)(j l n o p q:Option V)(k b e:Nat)(z1 z2 z5 z3 z6:Option V)(z0:V):av:=[ac x,ac y,ac w,ac (.obj i),ac (.a d),ac (.a c),ac (.str (cT c)),ac (.str (eZ d c)),ac (.str (lay [] a [])),ac (.str (lay [] (dD a) [])),ac (.obj r),ac z0,ac (.obj g),j,l,n,o,p,q,ac (.str (rawOf k b)),ac (.str (eG (dv k))),ac (.j (fB k)),ac (.obj e),ac (.str (gu c a (rawOf k b))),ac (oV (eG (dv k))),z1,z2,z5,z3,z6,ae]
theorem as1:∀k:Nat,(jB k).length<=1:=eg (n_num rfl)<|eg (n_num rfl)<|eg (n_num rfl) λw=>n_num rfl
section
variable{z7:bc}{t u v z0:V}{i d c r g k b e:Nat}{a:dg}{h:H}{j l n o p q z1 z2 z5 z3 z6:Option V}{z4 m:List (List Nat)}
theorem aQ8(w:jy z0=ac ag):bX prog f z7 s (bJ 17) (eF t u v i d c r g a j l n o p q k b e z1 z2 z5 z3 z6 z0) h ae=ac (.next,eF t u v i d c r g a j l n o p q k b e z1 z2 z5 z3 z6 z0,h):=
 ej [.b ag,.b ag] (dc (show aQ .Is z0 .none h=ac ag from w) (rfl:aA h (.j ag)=ac ag) trivial) (by kernel_rfl)
theorem aQ9(w:jy z0=ac af)(x:fB k=af)(y:bZ .Add (.obj g) (.obj e) h=.ok (.obj h.length) (h++[.list (z4.map .str)])):
  bX prog f z7 s (bJ 17) (eF t u v i d c r g a j l n o p q k b e z1 z2 z5 z3 z6 z0) h ae=ac (.next,eF t u v i d c r h.length a j l n o p q k b e z1 z2 z5 z3 z6 (oV (eG (dv k))),h++[.list (z4.map .str)]):=
 ej [.b af,.b af,.b af,.r (.ok (.obj h.length) (h++[.list (z4.map .str)]))] (gk (show aQ .Is z0 .none h=ac af from w) (rfl:aA h (.j af)=ac af) (show aA h (.j (fB k))=ac af from congrArg ac x) y trivial) (by kernel_rfl)
theorem aR0(w:jy z0=ac af)(x:fB k=ag)(y:bZ .Add (.obj g) (.obj e) h=.ok (.obj h.length) (h++[.list (z4.map .str)]))(z:(lay [] a []==[])=ag):
  bX prog f z7 s (bJ 17) (eF t u v i d c r g a j l n o p q k b e z1 z2 z5 z3 z6 z0) h ae=ac (.next,eF t u v i d c r h.length a j l n o p q k b e z1 z2 z5 z3 z6 (.tup [.a 0,.str cr,.tup [],.a 0]),h++[.list (z4.map .str)]):=
 ej [.b af,.b af,.b ag,.s,.b af,.b af,.b af,.r (.ok (.obj h.length) (h++[.list (z4.map .str)]))] (wm (show aQ .Is z0 .none h=ac af from w) (rfl:aA h (.j af)=ac af) (show aA h (.j (fB k))=ac ag from congrArg ac x) ((congrArg (eJ (!·)) (kO (h:=h))).trans (congrArg (λb=>ac (!b)) z):aQ .NotEq (.str (lay [] a [])) (.str []) h=ac af) (rfl:aA h (.j af)=ac af) (rfl:aA h (.j af)=ac af) y trivial) (by kernel_rfl)
theorem aR1(x:jy z0=ac af)(y:fB k=ag)(z:h++[.list []]=w)(A:bZ .Add (.obj g) (.obj e) w=.ok (.obj w.length) (w++[.list (z4.map .str)]))(B:(lay [] a []==[])=af)(C:gj w (.obj e) (.obj h.length)=ac af):
  bX prog f z7 s (bJ 17) (eF t u v i d c r g a j l n o p q k b e z1 z2 z5 z3 z6 z0) h ae=ac (.next,eF t u v i d c r w.length a j l n o p q k b e z1 z2 z5 z3 z6 (.tup [.a 0,.str [],.tup [],.a 0]),w++[.list (z4.map .str)]):=by
 subst z;exact ej [.b af,.b af,.b ag,.s,.b ag,.b ag,.b ag,.b ag,.r (.ok (.obj (h++[O.list []]).length) (h++[.list []]++[.list (z4.map .str)]))] (nk (show aQ .Is z0 .none h=ac af from x) (rfl:aA h (.j af)=ac af) (show aA h (.j (fB k))=ac ag from congrArg ac y) ((congrArg (eJ (!·)) (kO (h:=h))).trans (congrArg (λb=>ac (!b)) B):aQ .NotEq (.str (lay [] a [])) (.str []) h=ac ag) (rfl:aA h (.j ag)=ac ag) (congrArg (eJ (!·)) C:aQ .NotEq (.obj e) (.obj h.length) (h++[.list []])=ac ag) (rfl:aA (h++[.list []]) (.j ag)=ac ag) A trivial) (by kernel_rfl)
theorem aR2(x:jy z0=ac af)(y:fB k=ag)(z:h++[.list []]=w)(A:bZ .Add (.obj g) (.obj e) w=.ok (.obj w.length) (w++[.list (z4.map .str)]))(B:(lay [] a []==[])=af)(C:gj w (.obj e) (.obj h.length)=ac ag):
  bX prog f z7 s (bJ 17) (eF t u v i d c r g a j l n o p q k b e z1 z2 z5 z3 z6 z0) h ae=ac (.next,eF t u v i d c r w.length a j l n o p q k b e z1 z2 z5 z3 z6 (.tup [.a 0,.str cr,.tup [],.a 0]),w++[.list (z4.map .str)]):=by
 subst z;exact ej [.b af,.b af,.b ag,.s,.b ag,.b ag,.b af,.b af,.r (.ok (.obj (h++[O.list []]).length) (h++[.list []]++[.list (z4.map .str)]))] (nk (show aQ .Is z0 .none h=ac af from x) (rfl:aA h (.j af)=ac af) (show aA h (.j (fB k))=ac ag from congrArg ac y) ((congrArg (eJ (!·)) (kO (h:=h))).trans (congrArg (λb=>ac (!b)) B):aQ .NotEq (.str (lay [] a [])) (.str []) h=ac ag) (rfl:aA h (.j ag)=ac ag) (congrArg (eJ (!·)) C:aQ .NotEq (.obj e) (.obj h.length) (h++[.list []])=ac af) (rfl:aA (h++[.list []]) (.j af)=ac af) A trivial) (by kernel_rfl)
theorem aj8(z:h[w]?=ac (.list (z4.map .str)))(A:h[y]?=ac (.list []))(B:z4≠[]):gj h (.obj w) (.obj y)=ac ag:=by
 show Bc h[w]? h[y]?=_;rw[z,A];show(if(z4.map V.str).all (bQ 7)&&af then ac (mC (z4.map V.str) [])else ae)=_;rw[Ay]
 cases z4 with
 |nil=>exact absurd rfl B|cons x C=>rfl
theorem aR3(E:h[g]?=ac (.list ((aX a).map .str)))(y:h[e]?=ac (.list ((jB k).map .str)))(P:(aX a).length<=900):
  ∃A F,bX prog f z7 s (bJ 17) (eD t u v i d c r g a j l n o p q k b e z1 z2 z5 z3 z6) h ae=ac (.next,eF t u v i d c r A a j l n o p q k b e z1 z2 z5 z3 z6 (sC k a),F)/\F[A]?=ac (.list ((vM k a).map .str))/\Fr [] h F/\(A=g\/h.length<=A):=by
 have w:=@BU a;have B:=rT P (as1 k);have B:(aX a).length+(jB k).length<=1000:=aV B (n_num rfl);have Q:eD t u v i d c r g a j l n o p q k b e z1 z2 z5 z3 z6=eF t u v i d c r g a j l n o p q k b e z1 z2 z5 z3 z6 (ff a):=rfl;rw[Q];have G:¬(ag=af):=λz=>nomatch z;have J:h.length<=(h++[O.list []]).length:=aU▸dm ..;unfold sC vM
 cases I:cZ a with
 |some S=>
  rw[I]at w;have T:ff a=du S:=by unfold ff;rw[I]
  rw[T]at w⊢;exact dp g h (aQ8 w) E .b5 (.inl rfl)
 |none=>
  rw[I]at w;have L:=yI E y B;have M:Fr [] h (h++[O.list []]++[.list ((aX a++jB k).map .str)]):=.trans .app .app;have N:=yI (cQ (y:=[O.list []]) E) (cQ y) B
  cases C:fB k with
  |true=>exact dp _ _ (aQ9 w C L) je .app (.inr (bI _))|false=>
   cases x:lay [] a []==[]with
   |false=>exact dp _ _ ((aR0 w C L x).trans (by rw[if_neg G,if_pos (.inl λz=>by rw[z]at x;exact nomatch x)])) je .app (.inr (bI _))
   |true=>
    by_cases D:jB k=[]
    ·exact dp _ _ ((aR1 w C rfl N x (AE (l:=[]) (by rw[D]at y;exact cQ y) je)).trans (by rw[if_neg G,if_neg λz=>z.elim (λz=>z ((cW:(lay [] a []==[])=af->lay [] a []=[]) x)) λz=>z D])) je M (.inr J)
    ·exact dp _ _ ((aR2 w C rfl N x (aj8 (cQ y) je D)).trans (by rw[if_neg G,if_pos (.inr D)])) je M (.inr J)
end
theorem aR4{z7:bc}{t u v:V}{i d c r g k b e x y:Nat}{a:dg}{h w:H}{j l n o p q z1 z2 z3:Option V}{z0:V}{z4:List (List Nat)}(z:bQ 8 z0=af)(A:(lay [] a []).length+(rawOf k b).length<=big)
  (B:z7 (.m (.ref 763)) [.obj y,.a 4,.str (lay [] a (rawOf k b))] ae h=.ok z0 w) (C:w[x]?=ac (.list (z4.map .str))) (D:w[g]?=ac (.list (z4.map .str))):
  bY (aJ prog f z7 s [bJ 18] (eF t u v i d c r g a j l n o p q k b e z1 z2 (ac (.obj x)) z3 (ac (.obj y)) z0) h ae)=.ok (.j af) w:=by
 refine congrArg bY (a₂:=ac (.B (.j af),eF t u v i d c r g a j l n o p q k b e z1 z2 (ac (.obj x)) z3 (ac (.obj y)) z0,w)) ?_;exact be [.s,.r (.ok (.str (lay [] a (rawOf k b))) h),.r (.ok z0 w),.b af,.b af,.b af] (kP (vU (h:=h) A (Fz _ _ _).symm) B (wk z:aQ .Eq z0 z0 w=ac af) (rfl:aA w (.j af)=ac af) (AE C D:aQ .Eq (.obj x) (.obj g) w=ac af) trivial) (by kernel_rfl)
theorem XX(F:60<=s)(zp:2000<s)(hn:120<=y)(zq:d<4)(zr:c<5)(zs:d=3->c≠4)(I:k<13)(hb:b<3)(J:∀zt∈a,fR zt)(hl:a.length<=3)
  (U:x[r]?=ac (.list ((bD c).map .str))) (N:x[g]?=ac (.list ((aX a).map .str))) (q3:x[e]?=ac (.list ((jB k).map .str))):
  ∃h',bY (aJ prog f (call prog f s y) s [bJ 11,bJ 12,bJ 13,bJ 14,bJ 15,bJ 16,bJ 17,bJ 18] (eD t u v i d c r g a j l n o p q k b e (ac (jt a (eZ d c) (eG (dv k)))) ae ae ae ae) x ae)=.ok (.j af) h'/\Fr [] x h':=by
 have l2:(x++[O.list []]).length=x.length+1:=by simp
 have zu:(x++[O.list []]++[O.list []])[(x++[O.list []]).length]?=ac (.list []):=by rw[fM (bI _),gJ];rfl
 refine Hv (Nf (b:=f) F (n:=y) (by lia) (cQ (by simp):(x++[O.list []]++[O.list []])[x.length]?=ac (.list []))) λz L c1 Y zd m1 s1 f1=>?_;refine Hv (Nf (b:=f) F (n:=y) (by lia) (f1.obj zu (by simp))) λD E c2 i2 zv m2 s2 f2=>?_;have P:∀w∈z,x.length<=w:=λw m=>by
  rcases s1 w m with B|B
  ·lia
  ·simp at B;lia
 have ze:∀w∈D,x.length<=w:=λw m=>by
  have:=f1.len;rcases s2 w m with B|B
  ·lia
  ·simp at this;lia
 have zw:∀w∈D,w∉z:=λw m zf=>by
  have zL:=(Y.lt:∀w∈z,w<L.length) w zf;rcases s2 w m with B|B
  ·rcases s1 w zf with z8|z8
   ·lia
   ·simp at z8;lia
  ·lia
 have C:Fr [] x E:=Fr.app.trans (Fr.app.trans (f1.trans f2));refine cu (a58 (a:=f) (b:=z) F (n:=y) (k:=k) (u:=b) (i:=d) (by lia) I J hl zq zr zs) λzM zz t1 zx=>?_;refine bP (t1 E (qR Y (λw m=>f2.same w (Y.lt w m) (by simp)):cq z ft E)) λQ e4 i4 f4=>?_;rw[zx]at e4;have zg:∀w,w<x.length->Q[w]?=x[w]?:=λw A=>by
  rw[f4.same w (fu A C.len) (λm=>by have:=P w m;lia),C.same w A (by simp)]
 have zh:=(List.getElem?_eq_some_iff.mp U).1;have z9:=(List.getElem?_eq_some_iff.mp N).1;have zy:=(List.getElem?_eq_some_iff.mp q3).1;have zi:=AG i4;rw[zd]at zi;have lm:(bD c).map V.str++(aX a).map V.str=(bD c++aX a).map V.str:=by rw[pF]
 have ll:(bD c).length<=1:=cw c (n_num rfl) λc=>cw c (n_num rfl) λc=>cw c (n_num rfl) λc=>cw c (n_num rfl) λc=>n_num rfl;have dl:=@Eh a;have i5:=(an z).app (g:=[O.list ((bD c++aX a).map V.str)]) i4;have zA:=aQ4 (a:=f) (b:=s) (C:=call prog f s y) (o:=t) (p:=u) (q:=v) (r:=i) (t:=(x++[O.list []]).length) (u:=(an D).o) (v:=j) (w:=l) (x:=n) (y:=o) (z:=p) (A:=q) (s:=e) (L:=[]) (YV a (eZ d c) (eG (dv k))) e4 (by rw[zg r zh];exact U) (by rw[zg g z9];exact N) (by rw[<-lm];exact zi:Q[x.length]?=some (.list ((bD c++aX a).map .str))) (by lia) (lY i5 vP rfl);refine am (show∃m,y=m+2 from⟨y-2,by lia⟩) λm hm=>?_;have zj:=Pn (a:=f) (w:=ae) F (n:=m) (by lia) (GF (d:=b) I) J (by lia) (t:=gu c a (rawOf k b)) (d:=cT c) rfl;rw[<-hm]at zj;refine am (zj (Q++[O.list ((bD c++aX a).map V.str)]) trivial) λg6 e6=>?_;have zB:=aQ5 (a:=f) (b:=s) (C:=call prog f s y) (l:=t) (m:=u) (n:=v) (o:=i) (p:=d) (q:=r) (r:=g) (t:=e) (u:=j) (v:=l) (w:=n) (x:=o) (y:=p) (z:=q) (A:=ac (jt a (eZ d c) (eG (dv k)))) (B:=ac (.obj x.length)) (D:=ac (.obj (x++[O.list []]).length)) (E:=ac (.obj (an z).o)) (F:=ac (.obj (an D).o)) (λzN h=>by rw[hm];exact gT) e6;have tl:(gu c a (rawOf k b)).length<1000:=by
  unfold gu;have h1:=@Oc c;have L:=AV (w:=rawOf k b) (v:=[]) J;have E:=GE (c:=b) I hb;rw[aU,rS];simp only[nW,jo]at L
  lia
 refine bP (a59 (a:=f) (b:=z) F zp (n:=y) (by lia) tl _ ((an z).app (g:=g6) i5)) λG e7 i7 f7=>?_;have F7:Fr z E G:=(f4.trans (Fr.app.trans .app):Fr z E (Q++[O.list ((bD c++aX a).map V.str)]++g6)).trans f7;have zk:∀w,w<x.length->G[w]?=x[w]?:=λw A=>by
  rw[F7.same w (fu A C.len) (λm=>by have:=P w m;lia),C.same w A (by simp)]
 have M:=AG i7;rw[zd]at M;have M:G[x.length]?=ac (.list ((bD c++aX a).map .str)):=by rw[<-lm];exact M
 have zC:=aQ6 (a:=f) (b:=s) (C:=call prog f s y) (m:=t) (n:=u) (o:=v) (p:=i) (q:=d) (r:=e) (s:=j) (t:=l) (u:=n) (v:=o) (w:=p) (x:=q) (y:=ac (jt a (eZ d c) (eG (dv k)))) (z:=ac (.obj (x++[O.list []]).length)) (A:=ac (.obj (an D).o)) e7 (by rw[zk r zh];exact U) (by rw[zk g z9];exact N) M (by lia);have i8:=(an z).app (g:=[O.list ((bD c++aX a).map V.str)]) i7;have rd:=aj9 (b:=f) (a:=z) F (n:=y) (by lia) (s:=⟨0,(if d=0 then 0 else 1)+((bD c).length:Int)+((aX a).length:Int)+1,(bD c).map .str++(aX a).map .str,zz⟩) rfl (by simp;lia);refine bP (rd _ i8) λh9 e9 i9 f9=>?_;have zD:=aQ7 (a:=f) (b:=s) (C:=call prog f s y) (n:=t) (o:=u) (p:=v) (q:=i) (e:=d) (r:=c) (s:=r) (t:=g) (k:=k) (u:=b) (v:=e) (w:=a) (x:=j) (y:=l) (z:=n) (A:=o) (B:=p) (D:=q) (E:=ac (jt a (eZ d c) (eG (dv k)))) (F:=ac (.obj (x++[O.list []]).length)) (G:=ac (.obj (an D).o)) (lY i8 DJ rfl) (by rw[hm];exact Of (cQ M:(G++[O.list ((bD c++aX a).map V.str)])[x.length]?=ac (.list ((bD c++aX a).map .str))):call prog f s y (.m (.builtin "len")) [.obj x.length] none (G++[O.list ((bD c++aX a).map V.str)])=.ok (.a (((bD c++aX a).map V.str).length:Nat)) (G++[O.list ((bD c++aX a).map V.str)])) (by
  rw[bH,aU];by_cases B:d=0
  ·dsimp only;rw[if_pos B,if_pos B];lia
  ·dsimp only;rw[if_neg B,if_neg B];lia) (tw i8 aw2 rfl) e9
 have F9:Fr z E h9:=F7.trans (Fr.app.trans f9);have zl:∀w,w<x.length->h9[w]?=x[w]?:=λw A=>by
  rw[F9.same w (fu A C.len) (λm=>by have:=P w m;lia),C.same w A (by simp)]
 refine ch (aR3 (f:=f) (s:=s) (z7:=call prog f s y) (t:=t) (u:=u) (v:=v) (i:=i) (d:=d) (c:=c) (r:=r) (b:=b) (j:=j) (l:=l) (n:=n) (o:=o) (p:=p) (q:=q) (z1:=ac (jt a (eZ d c) (eG (dv k)))) (z2:=ac (.obj x.length)) (z5:=ac (.obj (x++[O.list []]).length)) (z3:=ac (.obj (an z).o)) (z6:=ac (.obj (an D).o)) (k:=k) (a:=a) (h:=h9) (g:=g) (e:=e) (by rw[zl g z9];exact N) (by rw[zl e zy];exact q3) (by lia)) λza zb zE qa zm zF=>?_;have S:Fr z E zb:=F9.trans ⟨zm.len,λw A Z=>zm.same w A (by simp)⟩;refine bE (a57 (a:=f) (b:=D) F (n:=y) (k:=k) (r:=b) (by lia) I J hl) λo2 zO t2 zG zH=>?_;refine bP (t2 zb (qR i2 (λw m=>S.same w (i2.lt w m) (zw w m)):cq D ft zb)) λT zn zI zc=>?_;rw[zH]at zn;have zo:=AG zI;rw[zv,zG]at zo;have zJ:∀w,w<x.length->T[w]?=x[w]?:=λw A=>by
  rw[zc.same w (fu A (aV C.len S.len)) (λm=>by have:=ze w m;lia),S.same w (fu A C.len) (λm=>by have:=P w m;lia),C.same w A (by simp)]
 have qd:T[za]?=ac (.list ((vM k a).map .str)):=by
  refine zc.obj qa (λm=>?_);have g1:=ze za m;have g2:=i2.lt za m;rcases zF with rfl|z8
  ·lia
  ·have:=F9.len;lia
 have b1:(lay [] a []).length+(rawOf k b).length<=big:=by
  have L:=AV (w:=[]) (v:=[]) J;have E:=GE (c:=b) I hb;simp only[nW,jo,HP]at L;exact aV (show _<=1000 by lia) (by decide)
 refine al T ?_ (⟨aV C.len (aV S.len zc.len),λw A Z=>zJ w A⟩:Fr [] x T);rw[gh (aQ2 (a:=f) (b:=s) (C:=call prog f s y) (c:=t) (d:=u) (e:=v) (f:=i) (g:=d) (i:=c) (j:=r) (l:=g) (k:=k) (t:=b) (u:=e) (m:=a) (h:=x) (n:=j) (o:=l) (p:=n) (q:=o) (r:=p) (s:=q) (v:=ac (jt a (eZ d c) (eG (dv k))))),gh (aQ3 c1 c2),gh zA,gh zB,gh zC,gh zD,gh zE];exact aR4 (Vd k a) b1 zn zo qd
end
end
section
section
variable{a:aj->Option (List Int)}{b:Nat}
theorem af7:prog.fn 770=ac yA:=by kernel_rfl
theorem af8:prog.fn 777=ac yB:=by kernel_rfl
set_option tactic.hygienic true in
theorem as8(h:c<5):mj d c<5/\(d=3->mj d c≠4):=by
 unfold mj;split
 ·exact⟨by lia,λe=>by lia⟩
 ·rename_i q;exact⟨h,λp r=>q ⟨p,r⟩⟩
theorem aO1(r:60<=b)(S:2000<b){n:Nat}(T:120<=n){h:H}{g:Int}{c d:Nat}(U:d<13){Y:List Int}(e:h[c]?=ac (.list (Y.map .a))):
  ∃s,call prog a b (n+1) (.m (.ref 770)) [.a g,.obj c,.a (d:Nat)] ae h=.ok (.j af) s/\(∃t:List Int,s[c]?=ac (.list (t.map .a)))/\Fr [c] h s:=by
 refine am (show∃m,n=m+2 from⟨n-2,by lia⟩) λm Z=>?_;subst Z;have rl:=(List.getElem?_eq_some_iff.mp e).1;refine aP (aQ0 (a:=a) (b:=b) (C:=call prog a b (m+2)) (d:=g) (w:=.a (d:Nat)) e) λe0 x0=>?_;refine nS (aR5 (a:=a) (b:=b) (n:=m) (k:=ac (.a g)) (l:=ac (.obj c)) (m:=ac (.a (d:Nat))) x0) λf i l F z1 x2 G e1=>?_;refine aP (as8 (d:=f) z1) λI z2=>?_;obtain⟨g3,j,da,_,e3,q1,q2,l1,l2,z5⟩:=aR7 (a:=a) (b:=b) (C:=call prog a b (m+2)) (h:=l) (q:=h.length) (n:=.a g) (o:=.obj c) (p:=.a (d:Nat)) F I;have z6:h.length<l.length:=by have:=G.len;simp at this;lia
 have z3:=av0 (a:=a) (b:=b) r (n:=m) (by lia) (e:=.a g) (f:=.obj c) (g:=.a (d:Nat)) (i:=f) (j:=mj f i) (l:=j) (x2.fr (e:=[]) Fr.app (by simp) (by simp):gC h.length c (l++g3)) q2 (by lia) (by lia)
 induction z3 using qp.casesOn with|mk u o h4 v w x y z A J L x4 M qd d1 d2 e4=>
 obtain⟨k,N,P,p,hk,hb,B,ql,⟨t,qr⟩,_,e5⟩:=aS0 (a:=a) (b:=b) r (n:=m) (by lia) (q:=.a g) (s:=.obj c) (c:=d) (o:=f) (e:=mj f i) (t:=j) (u:=o) (v:=v) (w:=w) (y:=x) (z:=y) (A:=z) (B:=A) U L J x4;refine am (aQ1 (a:=a) (b:=b) (C:=call prog a b (m+2)) (x:=.a g) (y:=.obj c) (z:=.a (d:Nat)) (A:=h.length) (p:=f) (r:=mj f i) (B:=j) (D:=o) (k:=k) (M:=N) (N:=P) (d:=u) (h:=p) (E:=v) (F:=w) (G:=x) (I:=y) (J:=z) (L:=A)) λC e6=>?_;have z4:p[j]?=ac (.list ((bD (mj f i)).map .str)):=B.obj (M.obj q1 (by simp;lia)) (by simp;lia);refine ak (XX (f:=a) r S (y:=m+2) T (t:=.a g) (u:=.obj c) (v:=.a (d:Nat)) (i:=h.length) (d:=f) (c:=mj f i) (r:=j) (g:=o) (k:=k) (b:=N) (e:=P) (a:=u) (j:=v) (l:=w) (n:=x) (o:=y) (p:=z) (q:=A) F I z2 hk hb L J (cQ (y:=C) z4) (cQ (y:=C) (B.obj qd (by simp[d1,d2]):p[o]?=ac (.list ((aX u).map .str)))) (cQ (y:=C) ql)) λh7 e7 D=>?_;refine br h7 ?_ ⟨t,D.obj (cQ qr) (by simp)⟩ ?_
 ·rw[cX af7 (i:=[ac (.a g),ac (.obj c),ac (.a (d:Nat)),ae,ae,ae,ae,ae,ae,ae,ae,ae,ae,ae,ae,ae,ae,ae,ae,ae,ae,ae,ae,ae,ae,ae,ae,ae,ae,ae,ae]) rfl,WL,gh e0,gh e1,gh (aR6 (a:=a) (b:=b) (C:=call prog a b (m+2)) (h:=l) (c:=f) (d:=i) (f:=ac (.a g)) (g:=ac (.obj c)) (i:=ac (.a (d:Nat))) (j:=ac (.obj h.length))),e3,gh e4,e5,gh e6];exact e7
 ·have q:Fr [h.length,c] h p:=Fr.app.trans (G.trans (Fr.app.trans (M.trans B)));refine⟨aV q.len (aV (by simp) D.len),λE ha Q=>?_⟩
  have hx:E∉[h.length,c]:=by
   simp only[iR,ii,or_false,not_or]at Q⊢;exact⟨by lia,Q⟩
  rw[D.same E (by have:=q.len;simp;lia) (by simp),gI (by have:=q.len;lia),q.same E ha hx]
theorem Nx:∀(l:List Int),mc (l.map V.a)=ac l
 |[]=>rfl|i::r=>by show(mc (r.map V.a)).map (i::·)=_;rw[Nx r];rfl
noncomputable def wI:List St:=jJ (yB.body.getD 0 .b9)
noncomputable def EE(i:Nat)(d:Nat->V->av->H->X)(k:Nat)(c:av)(h:H)(e:av->H->X):Option V->X
 |some v=>uy (d k v c h) e|none=>ac (.next,c,h)
theorem MH{c:Nat->V->av->H->X}:qO i c (n+1) k d h=match h[i]? with|some (.list e)=>EE i c k d h (qO i c n (k+1)) e[k]?|_=>ae:=by kernel_rfl
theorem aO7(M:60<=b)(P:2000<b){n:Nat}(hn:121<=n){f:aj}{i:List Int}(Q:a f=ac i){w:Nat}{c:List Nat}(S:c.length=13):
  ∀(m:Nat) (k:Nat) (N:Nat) (h:H) (r s g:Option V),k+m=13->m<N->h[w]?=ac (.list (c.map .obj))->(∀x∈c,∃y:List Int,h[x]?=ac (.list (y.map .a)))->
   ∃z j,qO w (λk v T h=>aJ prog a (call prog a b n) b wI ((T.set 1 (ac (.a k))).set 2 (ac v)) h ae) N k [ac (.m (.ref f)),r,s,g] h=ac (.next,z,j):=by
 intro m
 induction m with
 |zero=>
  intro k N h r s g D A e B
  cases N with
  |zero=>exact absurd A (fw _)|succ N=>exact fq [ac (.m (.ref f)),r,s,g] h (by rw[MH,e];show EE _ _ _ _ _ _ ((c.map V.obj)[k]?)=_;rw[Cr (by rw[bH];exact fN (S.trans D.symm))];rfl)
 |succ m U=>
  intro k N h r s g D A e B
  cases N with
  |zero=>exact absurd A (fw _)|succ N=>
  have E:k<c.length:=by lia
  refine am (B c[k] (be7 E)) λy o=>?_;have F:(c.map V.obj)[k]?=ac (.obj c[k]):=by rw[iQ,nU E];rfl
  refine am (show∃q,n=q+1 from⟨n-1,by lia⟩) λq C=>?_;subst C;let d:=SE i (ac k) ae (ac 13);have Y:w≠c[k]:=by
   intro p;rw[<-p,e]at o;injection o with o;injection o with o;have u:(c.map V.obj)[k]?=(y.map V.a)[k]?:=by rw[o]
   rw[F,iQ]at u
   cases G:y[k]? with
   |none=>rw[G]at u;injection u
   |some z3=>rw[G]at u;cases u
  have Z:=cQ (y:=[O.list (d.map .a)]) o;refine bP (aO1 (a:=a) M P (n:=q) (by lia) (g:=d.sum) (c:=c[k]) (d:=k) (by lia) Z) λj c1 C f1=>?_;refine am C λz1 r1=>?_;have sc:dU h (.m (.ref f)) ae ae=.i:=rfl;have sm:call prog a b (q+1) (.m (.builtin "sum")) [.obj h.length] ae (h++[O.list (d.map .a)])=.ok (.a d.sum) (h++[O.list (d.map .a)]):=by
   rw[lS];rw[WV];show(match(h++[O.list (d.map V.a)])[h.length]? with|some (.list vs)=>(match mc vs with|some i=>if(ae:Option Nat).isSome then .i else .ok (.a i.sum) (h++[O.list (d.map V.a)])|none=>.i)|_=>.i:R V)=_;rw[je];show(match mc (d.map V.a)with|some i=>if(ae:Option Nat).isSome then .i else .ok (.a i.sum) (h++[O.list (d.map V.a)])|none=>.i:R V)=_;rw[Nx];rfl
  have c3:∀h:H,ev prog a (call prog a b (q+1)) ae [ac (.m (.ref f)),ac (.a (k:Nat)),ac (.obj c[k]),g] (.h0 (.loc 0) (.loc 1) (.a 13)) h=.ok (.obj h.length) (h++[O.list (d.map .a)]):=by
   intro h;show(match a f,V.a (k:Int),V.a 13 with|some i,V.a l,V.a k=>if 0<=l&&0<k then R.ok (V.obj h.length) (h++[O.list ((SE i (ac l) ae (ac k)).map V.a)])else .i|_,_,_=>.i)=_;rw[Q];exact if_pos (Bool.and_eq_true_iff.mpr ⟨decide_eq_true (ku k),rfl⟩)
  have eb:aJ prog a (call prog a b (q+1)) b wI [ac (.m (.ref f)),ac (.a (k:Nat)),ac (.obj c[k]),g] h ae=ac (.next,[ac (.m (.ref f)),ac (.a (k:Nat)),ac (.obj c[k]),g],j):=by
   exact be [.e (.ok (.obj h.length) (h++[O.list (d.map .a)])),.r (.ok (.a d.sum) (h++[O.list (d.map .a)])),.r (.ok (.j af) j),.b af,.b ag] (kP (c3 h) sm c1 (rfl:aA j (.j af)=ac af) (rfl:aA j (.j ag)=ac ag) trivial) (by kernel_rfl)
  have I:∀t,t<h.length->t≠c[k]->j[t]?=h[t]?:=λt hb z2=>by
   rw[f1.same t (by simp;lia) (by simp[z2]),gI hb]
  obtain⟨z,h2,ih⟩:=U (k+1) N j (ac (.a (k:Nat))) (ac (.obj c[k])) g (by lia) (by lia) (by rw[I w (List.getElem?_eq_some_iff.mp e).1 Y];exact e) (λx hx=>by
   by_cases J:x=c[k]
   ·rw[J];exact⟨z1,r1⟩
   ·refine am (B x hx) λrx L=>?_;exact⟨rx,by rw[I x (List.getElem?_eq_some_iff.mp L).1 J];exact L⟩)
  refine fq z h2 ?_;rw[MH,e];show EE _ _ _ _ _ _ ((c.map V.obj)[k]?)=_;rw[F];show uy (aJ prog a _ b wI ((([ac (.m (.ref f)),r,s,g]:av).set 1 (ac (.a (k:Nat)))).set 2 (ac (.obj c[k]))) h ae) _=_;have es:(([ac (.m (.ref f)),r,s,g]:av).set 1 (ac (.a (k:Nat)))).set 2 (ac (.obj c[k]))=[ac (.m (.ref f)),ac (.a (k:Nat)),ac (.obj c[k]),g]:=rfl;rw[es,eb];exact ih
theorem as2(f:2000<b){n:Nat}(i:121<=n){c:aj}{j:List Int}(k:a c=ac j)(h:H):∃d,call prog a b (n+1) (.m (.ref 777)) [.m (.ref c)] ae h=.ok (.j af) d:=by
 refine dz (aO6 (a:=a) (b:=b) (by lia) (n:=n) (by lia) h) λg e u l m o p=>?_;refine eH (aO7 (a:=a) (b:=b) (by lia) f i k o 13 0 b (h++g) ae ae ae (by lia) (by lia) m p) λq d r=>?_;refine⟨d,?_⟩
 have s:yB.body=[.f3 1 2 (.b0 (.a1 (.ref 714)) []) wI,.B (ac (.j af))]:=rfl;rw[cX af8 (i:=[ac (.m (.ref c)),ae,ae,ae]) rfl,s];have t:bX prog a (call prog a b n) b (.f3 1 2 (.b0 (.a1 (.ref 714)) []) wI) [ac (.m (.ref c)),ae,ae,ae] h ae=ac (.next,q,d):=by
  show aO (ev prog a (call prog a b n) ae [ac (.m (.ref c)),ae,ae,ae] (.b0 (.a1 (.ref 714)) []) h) _ _=_;rw[(hY [.r (.ok (.obj e) (h++g))] (jm l trivial) (by kernel_rfl):ev prog a (call prog a b n) ae [ac (.m (.ref c)),ae,ae,ae] (.b0 (.a1 (.ref 714)) []) h=.ok (.obj e) (h++g))];exact r
 rw[gh t];rfl
end
end
end
section
set_option maxHeartbeats 1000000
set_option backward.match.sparseCases true
set_option tactic.hygienic false
open PySem PySem.W PyProof.Rows PySem.Calls
noncomputable def Dz:ah->Option V
 |.none=>ac .none|.bool b=>ac (.j b)|.int i _=>ac (.a i)|.str s _=>bO (fc (eW s)) (.str (eW s))|_=>ae
noncomputable def pn:ah->Option aj
 |.ref a=>ac a|_=>ae
noncomputable def NA:ah->Bool
 |.none=>af|_=>ag
noncomputable def GR:Data->Option (Array ah×Nat)
 |.seq a n=>ac (a,n)|_=>ae
noncomputable def MU:Data->Option uO
 |.func a=>ac a|_=>ae
noncomputable def Qy:FuncBody->Option (List fO)
 |.stmts b=>ac b|_=>ae
noncomputable def QQ(o:Obj):Option (Array ah×Nat):=(GR o.data).bind λp=>bO (o.cls==.type "tuple"&&(o.dict.isNone&&(o.slots.size==0&&pL p.1.size 100))) p
noncomputable def xC(b:ca):Nat->ah->Option V
 |0,v=>Dz v|n+1,v=>if(pn v).isSome then(pn v).bind λa=>(b.lookup a).bind λo=>(QQ o).bind λp=>(p.1.toList.mapM (xC b n)).map .tup else Dz v
noncomputable def LH(a:ca)(b:ah):Option (List V):=if NA b then ac []else(pn b).bind λT=>(a.lookup T).bind λo=>(GR o.data).bind λp=>p.1.toList.mapM (xC a 2)
noncomputable def aC7(b:ca)(a:uO):Bool:=codeIn b a.code a.qualname&&(!a.scope.isCoroutine&&(!a.scope.isGenerator&&(bf (a.scope.kind=.function)&&(a.params.posonlyargs.isEmpty&&(a.params.kwonlyargs.isEmpty&&(a.params.vararg.isNone&&(a.params.kwarg.isNone&&(a.globals==kB&&(a.closure.isEmpty&&(a.builtins==xZ&&mi a.params a.scope))))))))))
noncomputable abbrev sz:=pA×List fO×iT×List V
noncomputable def MF(d:ca)(a:aj):Option sz:=(d.lookup a).bind λo=>(MU o.data).bind λc=>(Qy c.body).bind λb=>(LH d c.defaults).bind λe=>bO (aC7 d c&&pL e.length c.params.args.length) (c.params,b,c.scope,e)
noncomputable def PC(a:List (Str×ah))(s:Option sz):Option Fn:=s.bind λs=>cF a s.1 s.2.1 s.2.2.1 s.2.2.2
theorem cz{a b:Bool}(h:(a&&b)=af):a=af:=(Bool.and_eq_true_iff.mp h).1
theorem cA{a b:Bool}(h:(a&&b)=af):b=af:=(Bool.and_eq_true_iff.mp h).2
theorem Gb{a:Bool}(h:(!a)=af):a=ag:=by induction a using Bool.casesOn<;>first|rfl|exact nomatch h
theorem Qb(h:GR d=ac p):d=.seq p.1 p.2:=by
 induction d using Data.casesOn with
 |seq x n=>rw[<-ax h]|_=>exact nomatch h
theorem ah7{d:Data}{a:uO}(h:MU d=ac a):d=.func a:=by
 induction d using Data.casesOn with
 |func x=>exact congrArg _ (ax h)|_=>exact nomatch h
theorem a10{d:FuncBody}{b:List fO}(h:Qy d=ac b):d=.stmts b:=by
 induction d using FuncBody.casesOn with
 |stmts x=>exact congrArg _ (ax h)|_=>exact nomatch h
theorem xa(h:pn v=ac a):v=.ref a:=by
 induction v using Value.casesOn with
 |ref x=>exact congrArg _ (ax h)|_=>exact nomatch h
theorem Jg(e:Dz v=ac x)(a:List aj)(h:aS):VR a h x v:=by
 induction v using Value.casesOn with
 |none=>exact ax e▸rfl|bool b=>exact ax e▸rfl|int i t=>exact ax e▸⟨t,rfl⟩|str s t=>exact cb e λg z=>z▸(tA g t rfl)|_=>exact nomatch e
theorem Os{b:ca}{n:Nat}(f:∀(v:ah) (x:V),xC b n v=ac x->∀(a:List aj) (h:aS),b.In h->VR a h x v){l:List ah}:∀{c:List V},l.mapM (xC b n)=ac c->∀(a:List aj) (h:aS),b.In h->aI a h c l:=by
 induction l with
 |nil=>exact λe a h m=>ax e▸rfl|cons v r g=>
  intro c e a h d;rw[List.mapM_cons]at e;exact aC e λx i e=>aC e λk j e=>ax e▸(bw v r rfl (f v x i a h d) (g j a h d))
theorem a71(h:QQ o=ac p):o={cls:=.type "tuple",data:=.seq p.1 p.2}/\p.1.size<=100:=aC h λq b f=>cb f λc z=>by
 have e:=Qb b;rw[z]at e c
 induction o using Obj.casesOn with
 |mk g d k i=>
  have j:g=.type "tuple":=cW (cz c);have c:=cA c;have a:_=ae:=Option.isNone_iff_eq_none.mp (cz c);have c:=cA c;refine⟨?_,kz (cA c)⟩
  dsimp only at e a;rw[j,a,(Array.eq_empty_of_size_eq_zero (cW (cz c)):i=#[]),e]
theorem a86{d:ca}{n:Nat}:∀(v:ah) (x:V),xC d n v=ac x->∀(b:List aj) (h:aS),d.In h->VR b h x v:=by
 induction n with
 |zero=>exact λv x e b h s=>Jg e b h|succ n g=>
  intro v x e b h f;by_cases c:(pn v).isSome=af
  ·refine aC ((if_pos c).symm.trans e) λa i e=>aC e λo j e=>aC e λp k e=>bG e λr l m=>?_;have q:=Os g l b h f;have t:=a71 k;rw[<-m,xa i];exact Fh (aV (fN q.length.symm) (aV t.2 (by decide))) a p.1 p.2 rfl (t.1▸f _ _ j) q
  ·exact Jg ((if_neg c).symm.trans e) b h
theorem YM{b:ca}{a:ah}{d:List V}(e:LH b a=ac d):Dd b a d:=by
 by_cases c:NA a=af
 ·exact .inl ⟨by induction a using Value.casesOn<;>first|rfl|exact(nomatch c),(ax ((if_pos c).symm.trans e)).symm⟩
 ·exact aC ((if_neg c).symm.trans e) λT f e=>aC e λo g e=>aC e λp i e=>.inr (al3 T o p.1 p.2 (xa f) g (Qb i) (λj h k=>Os a86 e j h k))
theorem FW{a:Type}{l:List a}(h:l.isEmpty=af):l=[]:=List.isEmpty_iff.mp h
theorem ag6{g:ca}{h:List (Str×ah)}{a:aj}{F:Fn}(e:PC h (MF g a)=ac F):IJ g h a F:=
 aC e λs e f=>aC e λo x e=>aC e λy A e=>aC e λb B e=>aC e λC i e=>cb e λc z=>lZ o y b x (ah7 A) (by
  subst z;have j:=(JR f).2;have k:=cz c;have l:=cA k;have m:=cA l;have n:=cA m;have p:=cA n;have q:=cA p;have r:=cA q;have t:=cA r;have u:=cA t;have v:=cA u;have w:=cA v;have d:=j.2.2;dsimp only at d f;rw[<-d]at f i c;exact⟨cz k,Gb (cz l),Gb (cz m),of_decide_eq_true (cz n),FW (cz p),FW (cz q),Option.isNone_iff_eq_none.mp (cz r),Option.isNone_iff_eq_none.mp (cz t),cW (cz u),FW (cz v),cW (cz w),a10 B,f,YM i,j.1▸kz (cA c),cA w⟩)
end
section
set_option maxHeartbeats 4000000
set_option tactic.hygienic false
open PySem PySem.W PyProof.Rows PySem.Calls
noncomputable def GO(a:xW->Bool)(b:lD->xW->Option (lD×xW))(n:Nat):lD->xW->Option lD:=
 Nat.rec (motive:=λf=>lD->xW->Option lD) (λf f=>ae) (λf c s t=>match Tn t with
  |true=>ac s|false=>match a t with
   |false=>ae|true=>match b s t with
    |some (d,e)=>c d e|none=>ae) n
theorem aP1{a:String->Option Builtin}{p:pR}{w:gx}{b:Nat}{c:Option ah}(n:Nat):∀(s:lD) (t:xW) (r:lD),GO (Iw b c) (stepT (Ib a) p w) n s t=ac r->IA a p w b c n s.abs t=ac r.abs:=by
 induction n with
 |zero=>exact λk k k h=>nomatch h|succ n g=>
  intro s t r h;have h:(match Tn t with
   |true=>ac s|false=>match Iw b c t with
    |false=>ae|true=>match stepT (Ib a) p w s t with
     |some (i,j)=>GO (Iw b c) (stepT (Ib a) p w) n i j|none=>ae)=ac r:=h
  unfold IA
  cases e:Tn t with
  |true=>rw[e]at h;exact congrArg (λs=>ac (SharedT.abs s)) (ax h)
  |false=>
   rw[e]at h
   cases f:Iw b c t with
   |false=>rw[f]at h;exact nomatch h
   |true=>
    rw[f]at h
    cases d:stepT (Ib a) p w s t with
    |none=>rw[d]at h;exact nomatch h
    |some q=>
     rw[d]at h;rw[stepT_spec d];exact g q.1 q.2 r h
noncomputable abbrev pw:=bn5
noncomputable def JA(P:Params):BT:=
 .node (boot_o_0 P) (.node (boot_o_1 P) (.node (boot_o_3 P) (.node (boot_o_7 P) .nil .nil) .nil) (.node (boot_o_5 P) (.node (boot_o_9 P) .nil .nil) .nil))
  (.node (boot_o_2 P) (.node (boot_o_4 P) (.node (boot_o_8 P) .nil .nil) .nil) (.node (boot_o_6 P) (.node (boot_o_10 P) .nil .nil) .nil))
theorem WP(P:Params):oq P=SM (JA P) 11 {}:=by kernel_rfl
noncomputable def a04(w:gx)(a:pQ):lD:=⟨JA w.params,11,{},#[],SQ,SR,a⟩
noncomputable def uu(w:gx)(a:pQ):Option lD:=
 GO (Fast.tw6613529449190102663 11 (ac (.ref 6))) (Fast.tw10156331382660048174 (Fast.tw11892475500146522536 Fast.tw14364793385576792824) pw w) 4861 (a04 w a) (Tp pw)
theorem a61{w:gx}{a:pQ}{r:lD}(h:uu w a=ac r):IA yj pw w 11 (ac (.ref 6)) 4861 ⟨oq w.params,#[],SQ,SR,a⟩ (Tp pw)=ac r.abs:=by
 unfold uu at h;rw[<-Fast.te6613529449190102663,<-Fast.te10156331382660048174,<-Fast.te11892475500146522536,<-Fast.te14364793385576792824]at h;rw[WP];exact(aP1 _ _ _ _ h)
theorem op1:opening pw=plainProg pw.main.scope.names:=by kernel_rfl
theorem op2(s:az):fenceModules? pw s=ac s:=by
 rw[Fast.te14289696077712309145];kernel_rfl
theorem aE5:∀w:gx,(fencedOpening yj pw w 5000).map (λs=>(s.heap,s.gens,s.drawn,s.toks))=ac (oq w.params,uL [],SQ,SR):=
 boot_open op1 (by kernel_rfl) op2
theorem WO(w:gx):((oq w.params).isNs kB&&(uL []:Array Hy).size==0,(oq w.params).objs.size,(oq w.params).nsMap kB "__annotations__")=(af,11,ac (.ref 6)):=by kernel_rfl
theorem at5{p q:pR}{g:List Str}{m:az->Bool}{n:Type}{o:az->n}{u:gx->n}{c:Params->aS}{i:Drawn}{j v M N:Nat}{x:Option ah}{l:gx->pQ->Option lD}
  (B:∀w:gx,(fencedOpening yj p w N).map (λs=>(s.heap,s.gens,s.drawn,s.toks))=ac (c w.params,uL [],i,j))
  (C:∀w:gx,((c w.params).isNs kB&&(uL []:Array Hy).size==0,(c w.params).objs.size,(c w.params).nsMap kB "__annotations__")=(af,v,x))
  (D:∀(w:gx) (f:pQ) r,l w f=ac r->IA yj p w v x M ⟨c w.params,uL [],i,j,f⟩ (Tp p)=ac r.abs) (S:M<=N)
  (a:∀w f,(l w f).map (λr=>(Iu (u' p.main.body) (c w.params) r.abs.heap&&Iq p r.abs.heap&&Ig r.abs&&Ik (c w.params) r.abs.heap,
   Ti q g (u' p.main.body) m af r.abs))=ac (af,Th q g))
  (b:∀w f,(l w f).map (λr=>o r.abs)=ac (u w)):LeftO p q g m o u N af:=λw=>by
 obtain⟨⟨h,E,d,k,f⟩,e,F⟩:=Option.map_eq_some_iff.mp (B w);obtain⟨rfl,rfl,rfl,rfl⟩:h=c w.params/\E=uL []/\d=i/\k=j:=by simpa using F
 obtain⟨G,I,J⟩:_/\_/\_:=by simpa only[Prod.mk.injEq]using C w
 obtain⟨r,y,L⟩:=Option.map_eq_some_iff.mp (a w f);obtain⟨P,Q⟩:=io L;have z:=b w f;rw[y]at z;have A:=topRun_mono (N-M) _ _ _ _ (D w f r y);rw[show M+(N-M)=N from rQ (by assumption)]at A;have t:To yj p w N ⟨c w.params,uL [],d,k,f⟩=ac r.abs:=by
  unfold To;dsimp only;rw[G,I,J,A];show(match Iu (u' p.main.body) (c w.params) r.abs.heap&&Iq p r.abs.heap&&Ig r.abs&&Ik (c w.params) r.abs.heap with|true=>_|false=>_)=_;rw[P]
 unfold openEnds;rw[e];show(To yj p w N _).map _=_;rw[t];exact congrArg ac (Prod.ext Q (ax z))
theorem at7{q:pR}{c:List Str}{e:az->Bool}{f:Type}{g:az->f}{i:gx->f}
  (a:∀w d,(uu w d).map (λr=>(Iu (u' pw.main.body) (oq w.params) r.abs.heap&&Iq pw r.abs.heap&&Ig r.abs&&Ik (oq w.params) r.abs.heap,
   Ti q c (u' pw.main.body) e af r.abs))=ac (af,Th q c))
  (b:∀w d,(uu w d).map (λr=>g r.abs)=ac (i w)):LeftO pw q c e g i 5000 af:=
 at5 aE5 WO (λj j j h=>a61 h) (by decide) a b
noncomputable section
noncomputable def QT(a:ca)(q:aj×Fn):Bool:=iq a (.ref q.1)==ac (.type "function")
noncomputable def MW(a:ca)(q:Str×ah):Bool:=lG a kB q.1==ac (ac q.2)||(lG a kB q.1==ac ae&&SP q.1==ac q.2&&!(q.1=="__name__"))
noncomputable def am1(q:aj×Cl):Bool:=((pn q.2.init).bind λf=>jM.lookup f).isSome
theorem ap6:lT.all am1=af:=by kernel_rfl
theorem ap7:(jM.all λq=>pL q.2.c4 1000)=af:=by kernel_rfl
noncomputable def Fp(a:ca)(C:aj)(b:Cl):Bool:=((pn b.init).bind λf=>bO ((jR a C).any (·.hasDict)&&(eO a (.ref C) "__getattribute__"==ac (ac (.builtin "object.__getattribute__"))&&(eO a (.ref C) "__getattr__"==ac ae&&
 (eO a (.ref C) "__setattr__"==ac (ac (.builtin "object.__setattr__"))&&(plainOver a C&&(b.attrs.all (Jh a C)&&(b.meths.all (Ow a C)&&(makesIn a C&&(iq a (.ref C)==ac (.type "type")&&
 (eO a (.ref C) "__init__"==ac (ac (.ref f))&&(iq a (.ref f)==ac (.type "function")&&(readsIn a C (.type "type")&&specialIn a (.ref C) "__getattribute__"==ac (ac (.builtin "type.__getattribute__")))))))))))))) ()).isSome
noncomputable def Lj:Data->Option xH
 |.cls a=>ac a|_=>ae
noncomputable def aa8(a:ca)(C:aj)(c:Cl)(o:Obj)(b:xH)(f:aj):Bool:=o.cls==.type "type"&&(b.mro==[.ref C,.type "Exception",.type "BaseException",.type "object"]&&(b.hasDict&&(!b.hasDel&&(o.slots.size==6&&(o.slots[4]?==ac (ac (.builtin "Exception.__new__"))&&
 (nsOkIn a b.ns&&(lG a b.ns "__setattr__"==ac ae&&(lG a b.ns "__init__"==ac (ac (.ref f))&&(c.attrs.all (DA a C b.ns)&&(iq a (.ref f)==ac (.type "function")&&((jR a C).any (·.hasDict)&&
 (eO a (.ref C) "__getattribute__"==ac (ac (.builtin "BaseException.__getattribute__"))&&(eO a (.ref C) "__getattr__"==ac ae&&eO a (.ref C) "__setattr__"==ac (ac (.builtin "object.__setattr__")))))))))))))))
noncomputable def Ev(a:ca)(C:aj)(b:Cl):Bool:=((a.lookup C).bind λo=>(Lj o.data).bind λc=>(pn b.init).bind λf=>bO (aa8 a C b o c f) ()).isSome
noncomputable def qW(a:ca):=(jM.map λq=>MF a q.1,yc a (.type "Exception") (.type "type") "__init__",lT.map (λq=>if q.2.isExc then ae else yc a (.ref q.1) (.type "type") "__init__"),
 lG a kB "law",(a.lookup 3).isSome&&jM.all (QT a)&&(jM.all λq=>keepIn a (.ref q.1))&&(lT.all λq=>keepIn a (.ref q.1))&&gl.all (MW a)&&(lT.all λq=>if q.2.isExc then Ev a q.1 q.2 else Fp a q.1 q.2))
noncomputable def Eg:fO->List sz×List fO
 |.FunctionDef _ a b _ _ _ c ..=>([(a,b,c,[])],[])|.ClassDef _ _ _ b ..=>([],b)|_=>([],[])
noncomputable def aX6:List sz:=pw.main.body.flatMap (λs=>(Eg s).1)++(pw.main.body.flatMap λs=>(Eg s).2).flatMap λs=>(Eg s).1
noncomputable def Qu:List (Option sz):=List.zipWith (λs q=>ac (s.1,s.2.1,s.2.2.1,q.2.c5)) (aX6.zipIdx.filterMap λp=>if Nat.testBit 1788990030386539974096833650 p.2 then ac p.1 else ae) jM
theorem ap5:Qu.map (PC gl)=jM.map λq=>ac q.2:=by kernel_rfl
noncomputable def qY:List (Option sz)×Option CFound×List (Option CFound)×Option (Option ah)×Bool:=
 (Qu,ac (.val (.builtin "Exception.__init__")),lT.map (λq=>if q.2.isExc then ae else ac (.val q.2.init)),ac (ac (.ref 777)),af)
noncomputable def Dx:List aj:=
 let l:=jM.map λq=>q.1
 l++l.map (λa=>a-1)++[367,380,381,423,500,501,550,663,664]++ek 139++l.map λa=>a-7
noncomputable def MS(t:BT):ca:=Dx.filterMap λa=>((t.get a).bind alive).map λo=>(a,o)
noncomputable def th(h:aS):ca:=Dx.filterMap λa=>(h.get? a).map λo=>(a,o)
noncomputable def Jf(t:BT)(n:Nat):Bool:=Dx.all λa=>Su a n&&(t.get a).isSome
theorem My{c d:Type}{f g:c->Option d}:∀{l:List c},(∀a∈l,f a=g a)->l.filterMap f=l.filterMap g
 |[],_=>rfl|a::r,h=>by rw[Cp,Cp,h a (.head _),My λb m=>h b (.tail _ m)]
theorem ah5{t:BT}{n:Nat}(l:Life)(d:Jf t n=af):th (SM t n l)=MS t:=by
 refine My λa e=>?_;have c:=List.all_eq_true.mp d a e;obtain⟨o,b⟩:=Option.isSome_iff_exists.mp (cA c);rw[abs_get (kz (cz c)) b,b];rfl
set_option tactic.hygienic true in
theorem ah6(h:aS):(th h).In h:=by
 intro a o e;have m:(a,o)∈th h:=by
  exact jf e
 unfold th at m;obtain⟨b,_,c⟩:=List.mem_filterMap.mp m;obtain⟨g,d,f⟩:=Option.map_eq_some_iff.mp c
 cases f;exact d
noncomputable def mZ:Hook:=⟨_,λs=>qW (th s.heap),λd=>qY,λd h=>∃c:ca,c.In h/\qW c=qY,λd s e=>(al _ (ah6 _) e),λd d d ⟨c,a,b⟩ k=>al c (a.keeps k) b⟩
end
theorem sU{b:Type}{n:Nat}{l:List b}(h:l.length=n+1):∃a t,l=a::t/\t.length=n:=by
 cases l with
 |nil=>exact nomatch h|cons a t=>exact gF a t rfl (pP h)
theorem aW6{g:Array (Option ah)}(h:g.size=6){x:Option ah}(e:g[4]?=ac x):∃p q r s t,g=#[p,q,r,s,x,t]:=by
 obtain⟨l⟩:=g;refine cu (sU (l:=l) h) λa u i h=>cu (sU h) λb v j h=>cu (sU h) λc w k h=>cu (sU h) λd z m h=>cu (sU h) λy A n h=>cu (sU h) λf B o h=>Nn a b c d f ?_;rw[Sd h]at o;rw[o]at n;rw[n]at m;rw[m]at k;rw[k]at j;rw[j]at i;rw[(i:l=[a,b,c,d,y,f])]at e⊢;rw[<-ax e];rfl
theorem Yj(h:Lj d=ac a):d=.cls a:=by
 induction d using Data.casesOn with
 |cls x=>exact congrArg _ (ax h)|_=>exact nomatch h
theorem XT{a:xH}{m:List ah}(b:a.mro=m)(c:a.hasDict=af)(d:a.hasDel=ag):a={name:=a.name,bases:=a.bases,mro:=m,ns:=a.ns,qualname:=a.qualname,hasDict:=af,slotNames:=a.slotNames,subclasses:=a.subclasses,abstract:=a.abstract,collection:=a.collection,hasDel:=ag}:=by
 rw[<-b,<-c,<-d]
theorem ab7{o:Obj}{a:xH}{C:aj}{b c d e f:Option ah}{g:String}{h:List ah}(j:o.cls=.type "type")(i:o.data=.cls a)(k:o.slots=#[b,c,d,e,ac (.builtin g),f])(l:a.mro=.ref C::h)(m:a.hasDict=af)(n:a.hasDel=ag):
  o=CO a.name a.qualname C a.ns a.bases h af a.slotNames a.subclasses a.abstract a.collection o.dict b c d e f g:=by
 rw[XT l m n]at i;unfold CO;rw[<-j,<-i,<-k]
theorem ab3{b:ca}{C:aj}{d:Cl}(h:Ev b C d=af):yr b C d:=by
 unfold Ev at h;refine am (Option.isSome_iff_exists.mp h) λE h=>aC h λo u h=>aC h λa v h=>aC h λf w h=>cb h λc E=>?_;have e:=cA c;have g:=cA e;have i:=cA g;have j:=cA i;have k:=cA j;have l:=cA k;have m:=cA l;have n:=cA m;have p:=cA n;have q:=cA p;have r:=cA q;have s:=cA r;have t:=cA s;refine uJ (aW6 (cW (cz j)) (cW (cz k))) λx y z A B D=>⟨.mk a.name a.qualname a.ns a.bases a.slotNames a.subclasses a.abstract a.collection o.dict x y z A B f (u.trans (congrArg ac ?_)) (kP (cz l) (cW (cz m)) (cW (cz n)) (xa w) (cz p) (cW (cz q))),cz r,cW (cz s),cW (cz t),cW (cA t)⟩
 exact ab7 (cW (cz c)) (Yj v) D (cW (cz e)) (cz g) (Gb (cz i))
theorem am3{a:ca}{C:aj}{b:Cl}(h:Fp a C b=af)(r:yc a (.ref C) (.type "type") "__init__"=ac (.val b.init)):IL a C b:=by
 unfold Fp at h;refine am (Option.isSome_iff_exists.mp h) λs h=>aC h λf e h=>cb h λc s=>?_;have d:=cA c;have g:=cA d;have i:=cA g;have j:=cA i;have k:=cA j;have l:=cA k;have m:=cA l;have n:=cA m;have o:=cA n;have p:=cA o;have q:=cA p;exact⟨cz c,cW (cz d),cW (cz g),cW (cz i),cz j,cz k,cz l,cz m,cW (cz n),(br f (xa e) (cW (cz o)) (cW (cz p))),cz q,cW (cA q),r⟩
theorem a98{D:Wd}{e:ca}{n g:Str->Option ah}{p:aj->Option (List Int)}(t:qW e=qY)(i:e.In D.base)(G:D.base.Ns kB n)(B:D.base.Ns xZ g)(u:∀x:Str,x≠"__name__"->g x=SP x)(L:D.base.NoLimit)
  (Z:∀a j,p a=ac j->j.length<=big/\∃r k o,D.base.get? a=ac o/\o.cls=.type "list"/\o.data=.seq r k/\uP r.toList j):Du D e prog p gl n g:=by
 refine aP (io t) λv q=>?_;refine aP (io q) λw q=>?_;refine aP (io q) λy q=>?_;refine aP (io q) λq4 q=>?_;simp only[dO]at q;refine aP q λl z=>?_;refine aP l λA E=>?_;refine aP A λI J=>?_;refine aP I λM N=>?_;refine aP M λq5 P=>?_;have Q:=List.all_eq_true.mp N;have s:=List.all_eq_true.mp z;refine{T:=?_,G:=?_,fn:=?_,i3:=Z,init:=?_,c4:=?_}
 ·refine{l1:=i,inst:=?_,exc:=?_,fn:=?_,l2:=w,keep:=?_}
  ·intro C c h d;have m:=jf (show lT.lookup C=ac c from h);have a:=s _ m;have b:=(List.map_inj_left.mp y) _ m;dsimp only at a b;rw[d,if_neg (by decide)]at a;rw[d,if_neg (by decide),if_neg (by decide)]at b;exact am3 a b
  ·intro C c h d;have m:=jf (show lT.lookup C=ac c from h);have a:=s _ m;dsimp only at a;rw[d,if_pos rfl]at a;exact ab3 a
  ·intro f F h;have m:=jf (show jM.lookup f=ac F from h);have a:=(List.all_eq_true.mp P) _ m;unfold QT at a;exact beq_iff_eq.mp a
  ·intro a h;rcases h with h|h
   ·refine am (Option.isSome_iff_exists.mp h) λF h=>?_;exact Q _ (jf (show jM.lookup a=ac F from h))
   ·refine am (Option.isSome_iff_exists.mp h) λF h=>?_;exact(List.all_eq_true.mp J) _ (jf (show lT.lookup a=ac F from h))
 ·refine⟨G,B,λx z4 h=>?_,L⟩
  have a:=(List.all_eq_true.mp E) _ (jf h);unfold MW at a;rw[lC]at a;rcases a with a|a
  ·exact .inl (Ge i G (beq_iff_eq.mp a))
  ·rw[dO,dO,beq_iff_eq,beq_iff_eq]at a;refine aP a λl S=>?_;refine aP l λT U=>?_;refine .inr ⟨ns_none_of i G T,?_⟩;rw[u x (λq=>by subst q;injection S)];exact U
 ·intro f F h;have m:=jf (show jM.lookup f=ac F from h);have k:=ap5;rw[<-v,uR]at k;exact ag6 ((List.map_inj_left.mp k) _ m)
 ·intro C c h;have m:=jf (show lT.lookup C=ac c from h);exact am (Option.isSome_iff_exists.mp ((List.all_eq_true.mp ap6) _ m)) λF Y=>aC Y λf h1 h2=>gF f F (xa h1) h2
 ·intro f F h;exact kz ((List.all_eq_true.mp ap7) _ (jf (show jM.lookup f=ac F from h)))
theorem k3{a:ca}(b:qW a=qY):(a.lookup 3).isSome=af:=by
 have q:=congrArg (λx=>x.2.2.2.2) b;have q:(_&&_)=af:=q;simp only[dO]at q;exact q.1.1.1.1.1
theorem ad1{w:gx}{b:az}{l n:Str->Option ah}{z c:aj}{p:List ah}{f:List Int}{A:Str->Option aj}{B:ExcName->Option ah}{C:List WData}
  {r:ca} (s:qW r=qY) (t:r.In b.heap) (E:b.heap.Ns kB l) (I:b.heap.Ns xZ n) (J:∀x:Str,x≠"__name__"->n x=SP x) (L:b.heap.NoLimit) (d:l "law"=ac (.ref z)) (M:b.gens=#[])
  (N:b.heap.IsList c p.toArray) (P:uP p f) (Q:f.length<=63):
  aB (gZ Challenge.rw_oj0079_01.row.prog w) callerA (eN (.ref z) [.ref c])
   (λv g=>GoodWG Challenge.rw_oj0079_01.row.claim A B C b (.ok (.ret v)) g) (λe g=>GoodWG Challenge.rw_oj0079_01.row.claim A B C b (.error e) g) b:=by
 rw[(Ge t E (congrArg (λx=>x.2.2.2.1) s))]at d;injection d with d;injection d with d;subst d;obtain⟨S,T⟩:=Option.isSome_iff_exists.mp (k3 s);let D:Wd:={prog:=Challenge.rw_oj0079_01.row.prog,w:=w,base:=b.heap,gens:=b.gens,os:=b.os,e5:=b.drawn,main:=⟨S,t _ _ T⟩}
 let i:aj->Option (List Int):=λa=>if a=c then ac f else ae
 have Z:∀a j,i a=ac j->j.length<=big/\∃F k o,D.base.get? a=ac o/\o.cls=.type "list"/\o.data=.seq F k/\uP F.toList j:=by
  intro a j h;by_cases q:a=c
  ·subst q;have U:i a=ac f:=if_pos rfl;rw[U]at h;injection h with h;subst h;obtain⟨o,h1,h2,z0,h3⟩:=N;exact ak2 (aV Q (by decide)) p.toArray z0 o h1 h2 h3 P
  ·have e2:i a=ae:=if_neg q;rw[e2]at h;cases h
 have z1:ay D [] [] [] b:=⟨λY Y h=>h,λY m=>(by cases m),rfl,rfl,rfl,rfl,.nil,λY m=>(by cases m),trivial,λz2 o a h=>(by cases h)⟩
 obtain⟨h',e⟩:=as2 (a:=i) (b:=5000) (by decide) (n:=121) (bI _) (c:=c) (j:=f) (if_pos rfl) [];have G:=XD (b:=5000) (a98 s t E I J L Z:Du D r prog i gl l n) 122 callerA ae [] [] [] b (.m (.ref 777)) [.m (.ref c)] (.ref 777) [.ref c] ⟨rfl,rfl⟩ (by unfold lO;decide) z1 rfl (bw _ _ rfl rfl rfl) (by rw[e];intro q;cases q);rw[e]at G;refine bb G (λv g q=>?_) (λx g q=>?_)
 ·obtain⟨a,σ',ρ',u,St,y,q2⟩:=q
  cases u;have hv:v=.bool af:=q2;subst hv;exact GoodW.toG (dE (.inl (nq (.bool af) (.bool af) [] rfl (λY=>rfl) (.bool af) (by kernel_rfl) (λY=>⟨.nil,λa m=>(by cases m)⟩))) y.base y.os (y.gens.trans M))
 ·obtain⟨z2,σ',ρ',u,Y⟩:=q
  cases u
noncomputable def qv:pR:=view pw [77]
noncomputable def AZ:List Str:=pw.main.scope.names.dropLast.map (·.1)
noncomputable def GJ:RowW:=OpenRow.toRowW PySem.Challenge.rw_oj0079_01.row
theorem aT1:PySem.Challenge.rw_oj0079_01.wellSaid=af:=by
 rw[Fast.te9446332074065402090]
 iterate 37 refine look_both ?_ (by decide+kernel)
 decide+kernel
theorem IX(w:gx)(a:pQ):(uu w a).map (λr=>((Iu (u' pw.main.body) (oq w.params) r.abs.heap&&Iq pw r.abs.heap&&Ig r.abs&&Ik (oq w.params) r.abs.heap,
   Ti qv AZ (u' pw.main.body) (λs=>xlAt qv [] s&&recOk (SG GJ) s) af r.abs),qW (MS r.tree),Jf r.tree r.n))=ac ((af,Th qv AZ),qY,af):=by
 rw[Fast.te4187177175401517315];kernel_rfl
theorem aT4(w:gx)(a:pQ):(uu w a).map (λr=>mZ.obs r.abs)=ac (mZ.val w):=by
 obtain⟨r,b,e⟩:=Option.map_eq_some_iff.mp (IX w a);obtain⟨c,d⟩:=io (io e).2;rw[b];show ac (qW (th (SM r.tree r.n r.life)))=ac qY;rw[ah5 r.life d,c]
theorem at3:LeftO pw qv AZ (λs=>xlAt qv [] s&&recOk (SG GJ) s) (Hook.obs mZ) (Hook.val mZ) 5000 af:=at7 (λw a=>by
 obtain⟨r,b,e⟩:=Option.map_eq_some_iff.mp (IX w a);rw[b];exact congrArg ac (io e).1) aT4
end
end Mine.Internal
open PySem PySem.W PyProof.Rows PySem.Calls in
set_option maxHeartbeats 4000000 in
theorem PySem.Challenge.cw_oj0079_01_holds : PySem.Challenge.rw_oj0079_01.Holds := by
  refine holds_law Mine.Internal.aT1 fun a => ?_
  refine holds_open (q := Mine.Internal.qv) (loose := Mine.Internal.AZ) (Xt := fun s => xlAt Mine.Internal.qv [] s && recOk (SG Mine.Internal.GJ) s) (XP := XL Mine.Internal.qv []) (Yf := Hook.obs Mine.Internal.mZ) (Ya := Hook.val Mine.Internal.mZ) (YP := Hook.says Mine.Internal.mZ) (N := 5000) Mine.Internal.at3 (Hook.of Mine.Internal.mZ) (Hook.keeps Mine.Internal.mZ) (fun s e => xl_of s (Bool.and_eq_true_iff.mp e).1) XL.keeps (by rfl) (by rfl) (by rfl) (fun s e => recFacts_of (Bool.and_eq_true_iff.mp e).2) (by rfl) a (by decide +kernel) ⟨rfl, rfl, rfl, rfl, rfl, by decide +kernel⟩ ?hw ?hc
  case hw => w_witness2
  intro w l m n p G Y r o t u v x y z A C E b c F I J d f g h i
  obtain ⟨L, j, k⟩ := Y
  refine Ground.open G ?_
  intro T B D M P
  wrow_args d f g h i
  exact Mine.Internal.ad1 k j T.g T.b T.builtins T.nolimit b c (by assumption) (by assumption) (by omega)
