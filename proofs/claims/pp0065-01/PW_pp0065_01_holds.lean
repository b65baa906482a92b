import PyProof.Rows.All
import Wide.All
import OpenK.AllK
import Wide.FinOn
import KE.KDictList
import KE.KSlice
import Lean
import PySem.Challenge.RW_pp0065_01
set_option linter.all false
set_option genInjectivity false
set_option genCtorIdx false
set_option genSizeOf false
set_option genSizeOfSpec false
set_option bootstrap.genMatcherCode false
set_option maxRecDepth 1000000
set_option maxHeartbeats 0
section
set_option tactic.hygienic false
local macro_rules |`(tactic|show $t:term)=>`(tactic|refine(?_:$t))
open Array renaming toList_append->Kz,getElem?_toList->pJ,length_toList->wW,toList_push->KP,getElem?_eq_getElem->S8,getElem?_eq_some_iff->DP
open Bool renaming not_eq_true'->jl,false_or->Lc,or_eq_true_iff->KD,or_true->Le,or_eq_true->K4,and_eq_true->ew,and_eq_true_iff->Kx,and_true->Lb,casesOn->bZ,false_ne_true->sj,false_eq_true->TB,false->ai,true->ae,eq_iff_iff->w5
open Char renaming toNat->Lq
open Classical renaming choose->Tu,byContradiction->S5
open Eq renaming symm->bV
open Except renaming casesOn->uy
open ForInStep renaming yield->w4
open Iff renaming mpr->gM
open Int renaming toNat_natCast->KS,le_of_lt->Lh,add_zero->Eb,not_lt->Av,casesOn->Lk,ofNat_lt->mR,natCast_nonneg->kV,add_sub_cancel->uq,ofNat->pE,add_le_add_left->KH,lt_of_le_of_lt->KN,add_comm->D_,le_trans->gk,toNat_lt->Lg,negSucc->Ll,eq_ofNat_of_zero_le->DR,lt_of_lt_of_le->KO,add_nonneg->K8,lt_of_le_sub_one->Tv,le_refl->xb,toNat_of_nonneg->Af,le_of_eq->uC,ofNat_le->jn,zero_add->Ea
open List renaming prefix_append->lI,getElem?_of_mem->Tr,getElem?_map->oD,getElem?_append_right->pH,mem_singleton->eu,drop_drop->D5,mem_cons_of_mem->mO,nodup_cons->jD,getElem?_eq_some_iff->j0,mem_of_find?_eq_some->Kl,reverse_cons->KQ,append_nil->ma,mem_of_getElem?->l7,length_cons->uv,prefix_refl->iH,map_eq_nil_iff->Tw,length_drop->uw,pairwise_iff_getElem->Ta,take_append_drop->q3,forIn_cons->K3,getElem?_eq_getElem->i5,length_eq_zero_iff->Td,isEmpty_iff->D0,append_cancel_left->Te,mem_cons_self->wY,mem_append_left->q4,head?->Lr,mem_append_right->sG,getElem?_modify->Tq,map_congr_left->Tx,map_fst_zip->pK,find?_cons->An,not_mem_nil->lJ,cons_ne_nil->KZ,range->pD,find?_eq_none->KL,map_cons->j2,length_nil->K2,lookup_eq_none_iff->Kq,filterMap_cons->DV,lookup_cons->nQ,length_map->gB,pairwise_cons->wZ,mem_cons->dg,any_eq_true->DZ,getElem?_eq_none_iff->S_,getElem?_append_left->wU,casesOn->es,getElem?_drop->Ag,all_eq_true->eX,any_cons->D9,mem_map->kY,mem_append->mb,append_eq_nil_iff->Ti,pairwise_singleton->Tf,append_assoc->nP,contains_cons->Ah,length_append->iG,mem_map_of_mem->kU
open List.cons renaming inj->qQ
open List.eraseDupsBy renaming loop->S4
open Nat renaming lt_succ_self->K0,repr->sv,le_antisymm->D3,le_of_not_lt->sk,le_of_ble_eq_true->bA,lt_of_succ_lt_succ->Tn,add_sub_cancel'->KI,lt_of_le_of_ne->Ai,le_trans->bU,add_comm->ko,le_of_add_right_le->To,not_lt->i6,lt_trans->sq,not_lt_zero->w7,lt_of_not_le->K1,le_refl->dO,mul_le_mul_left->KG,not_lt_of_le->D1,ne_of_beq_eq_false->Ku,zero_add->uE,lt_of_le_of_lt->jk,zero_le->l5,lt_irrefl->qR,blt->eQ,eq_of_beq_eq_true->d2,le_succ_of_le->KR,sub_eq_of_eq_add'->Tp,beq_refl->Lf,ne_of_gt->pB,lt_of_lt_of_le->ij,sub_self->uD,le_add_right->gs,add_le_add_right->j1,lt_succ_of_lt->w2,div_add_mod->K6,add_le_add_left->l_,casesOn->hD,le_add_left->w6,lt_or_ge->w_,lt_add_of_pos_right->wV,ne_of_lt->kq,ble->dw,le_succ->Lm,le_of_eq->eP,le_of_lt->kp,succ_pos->pA,add_le_add->mP,add_sub_cancel_left->DS,beq->cv,lt_succ_of_le->w1,le_of_lt_succ->Aj,succ_add->Aq,mod_two_eq_zero_or_one->S9,add_assoc->kW
open Nat.succ renaming inj->so
open Ne renaming symm->km
open Option renaming map_eq_some_iff->pI,map_eq_none_iff->Kt,bind_some->Ak,map->uG,some->C,casesOn->b3,isSome_iff_exists->DQ,isNone_iff_eq_none->nM,map_some->nR,some_ne_none->Ky
open Option.some renaming injEq->DW,inj->c0
open PyProof.Rows renaming gt_int->Tc,signs_ofString->Lp,tail_any->mM,iadd_int->Ko,isTrue_and->Ay,lt_int->Ab,mod_int'->Kp,unpackItems_tuple->S1,add_str->Kr,args_cons->kS,getItem_tuple->S2,assign_Name->wR,subscriptTail->xa,args_nil->nL,eq_int->Tb,Subscript_->qX,sub_int->Ks
open PySem renaming execs->cF,notedBy->iF,wpAny_Constant_str->w0,newFunctionEnv->sm,IsRangeIter->DX,wpAny_getItem_list_slice->Tz,getMethod_builtin->D2,ExceptHandler->Ec,wpAny_release->KC,firstIter->Et,truthy->uA,Shared->aM,wpAny_comprehension_free->TA,wpAny_call->sr,pyIter->oB,wpAny_loadName_local->hS,eval->dK,clausesOf->Es,sizeLine_eq->kr,wpAny_Assign_stores->KW,wpAny_Constant_int->nO,firstAsync->En,isTrue->uM,standAt->uJ,call->gc,wpAny_BinOp->qU,wpAny->a5,sysModules->ku,ExcBaseFacts->As,wpAny_pyNext_range_end->KA,model->c8,letOwnedTupleGo->D8,cellsFrom->oy,wpAny_holding->iI,relabel->l6,wpAny_field->Aw,Env->hB,codeAny->ft,cameBackBy->nJ,typeLookup->Em,mainGlobals->ik,wpAny_Return_some->uu,wpAny_isTrue_Compare1->Ad,wpAny_execs_nil->qP,holding->sA,wpAny_Name->hE,sizeLine->oz,nsFind->sD,swappedStores->Ee,theTreesLotGoes->Ld,Sem->hC,Flow->fH,wpAny_AugAssign_SubscriptAny->Tg,wpAny_storeName_local->Ac,storeName->Ep,Value->az,Pos->cn,valueAt->a0,CmpOp->oC,compareOp->Er,Str->aO,Heap->gj,inplaceOp->qY,Stmt->eO,excClassObj->uH,NameKind->hl,wpAny_bind->b2,Addr->aF,getItem->sz,Program->q1,rawInt->q2,setAttr->xd,assign->mQ,comprehension->Ed,wpAny_mono->d4,wpAny_execs_cons->jm,setItem->uz,Around->oA,getMethod->su,wpAny_getItem_list->DY,assignInOrder->w9,StrKeys->xe,slicePick->qZ,noteFrame->q0,codeAny_of_tree->Ap,wpAny_setItem_pairs->KU,bootBuiltins->Ar,fastBuiltinOwn->w8,starEach->lF,wpAny_pyNext_range_item->Kv,callWith->sy,wpAny_newList->Lo,strKind_is->El,builtinsNs->nI,codeAny_mono->uF,slot_list_getitem->w3,wpAny_standAt->kX,wpAny_Assign_Name->Am,Obj->cY,Comprehension->uB,Scope->pG,compPost->jZ,backTo->mN,slot_dict_getitem->K7,Expr->bj,pastItsLine_dict->La,call_meetsIn->Eg,pairTrees_cons_walk->KV,markedBehindIn_of_false->TF,callWith_type->Ts,DictEntry->hT,assignEach->qW,stored->lG,exec->i4,wpAny_getItem_of->D4,wpAny_pure->d3,leaving->uK,binaryOp->sx,Operator->pF,wpAny_truthy_bool->Al,firstIterPos->Eh,wpAny_loadPart->Li,raiseStmt->nK,wpAny_lookBehind->K_,callerA->xf
open PySem.Builtin.List renaming listTooLong->S6
open PySem.Builtin.Str renaming occurrences->S7
open PySem.Calls renaming Name_function_global->l8,loadGlobal_builtin->ur,call_len_list->Ef,callWith_builtin->Ao,loadGlobal_global->ux
open PySem.Code renaming builtin->Lj
open PySem.Data renaming casesOn->Ae
open PySem.Data.cls renaming elim->K9
open PySem.EqBoolInt renaming of_rcne->S3
open PySem.Expr.Attribute renaming elim->Kg
open PySem.Expr.Call renaming elim->Kn
open PySem.Expr.Compare renaming elim->Ki
open PySem.Expr.Constant renaming elim->Kh
open PySem.Expr.Name renaming elim->Km
open PySem.Expr.Slice renaming elim->Kk
open PySem.Expr.Tuple renaming elim->Kj
open PySem.F renaming store_object->Tj
open PySem.Flow renaming casesOn->wX
open PySem.Heap renaming Ns->kT,get?_update_other->Aa,get?_update_self->DT,get?_push_size->nN,SameBut->qS,dictOf_iff->sl,ExtBut->lK,IsList->pC,size_push->D7,get?_push_of_some->f5,lt_size->fU,get?_none_of_le->TC
open PySem.Heap.DictOf renaming new->TG
open PySem.Heap.IsSliceOf renaming new->Th
open PySem.Heap.SameBut renaming update->DU
open PySem.IsL renaming isList->qV
open PySem.NameKind renaming casesOn->sF
open PySem.PyData renaming keyHash->D6
open PySem.Str renaming ofString->bO,ofString_eq_toList->Tt
open PySem.Value renaming casesOn->l9,none->xc,isStrOf_shape->KJ,int->Ek,str->Ej,ref->lE
open PySem.Value.bool renaming elim->KY
open PySem.Value.builtin renaming elim->Kw
open PySem.Value.ref renaming elim->K5
open PySem.Value.type renaming elim->KX
open PySem.W renaming hideAll_get->Ei,nsIn->lH,looks_findIn->Au,Frag->b7,codeRec_of->Eo,mg_none_of->uI,keepIn->sE,callWith_of->Ax,findIn->kn,alongIn->xg,instObj->uL,TopRead->sC,hideAll_none->qT
open PySem.Within renaming cons->Ln
open PySem PySem.W PySem.Calls PySem.SeqAt
open PyProof.Rows hiding wpAt wpAt_bind wpAt_stack
namespace Mine.Internal.MI
theorem aR{p:Prop} [Decidable p](h:decide p=ae):p:=of_decide_eq_true h
variable{bx bQ b8:Prop}
theorem fi(h0:bx)(aa:bQ)(af:b8):bx/\bQ/\b8:=⟨h0,aa,af⟩
variable{P3:Prop}
theorem SQ(h0:bx)(aa:bQ)(af:b8)(aJ:P3):bx/\bQ/\b8/\P3:=⟨h0,aa,af,aJ⟩
variable{dr:Prop}
theorem DK(h0:bx)(aa:bQ)(af:b8)(aJ:P3)(bl:dr):bx/\bQ/\b8/\P3/\dr:=⟨h0,aa,af,aJ,bl⟩
theorem agZ{ef:Prop}(h0:bx)(aa:bQ)(af:b8)(aJ:P3)(bl:dr)(cP:ef):bx/\bQ/\b8/\P3/\dr/\ef:=⟨h0,aa,af,aJ,bl,cP⟩
variable{dh:Sort _}
theorem bh{bx bQ:dh->Prop}(a:dh)(h0:bx a)(aa:bQ a):∃a,bx a/\bQ a:=⟨a,h0,aa⟩
theorem fT{bx bQ b8:dh->Prop}(a:dh)(h0:bx a)(aa:bQ a)(af:b8 a):∃a,bx a/\bQ a/\b8 a:=⟨a,h0,aa,af⟩
theorem l4{bx bQ b8 P3:dh->Prop}(a:dh)(h0:bx a)(aa:bQ a)(af:b8 a)(aJ:P3 a):∃a,bx a/\bQ a/\b8 a/\P3 a:=⟨a,h0,aa,af,aJ⟩
theorem DL{bx bQ b8 P3 dr:dh->Prop}(a:dh)(h0:bx a)(aa:bQ a)(af:b8 a)(aJ:P3 a)(bl:dr a):∃a,bx a/\bQ a/\b8 a/\P3 a/\dr a:=⟨a,h0,aa,af,aJ,bl⟩
theorem SR{bx bQ b8 P3 dr ef:dh->Prop}(a:dh)(h0:bx a)(aa:bQ a)(af:b8 a)(aJ:P3 a)(bl:dr a)(cP:ef a):∃a,bx a/\bQ a/\b8 a/\P3 a/\dr a/\ef a:=⟨a,h0,aa,af,aJ,bl,cP⟩
variable{dZ:Sort _}
theorem wN{bx:dh->dZ->Prop}(a:dh)(b:dZ)(h0:bx a b):∃a,∃b,bx a b:=⟨a,b,h0⟩
theorem gi{bx bQ:dh->dZ->Prop}(a:dh)(b:dZ)(h0:bx a b)(aa:bQ a b):∃a,∃b,bx a b/\bQ a b:=⟨a,b,h0,aa⟩
theorem d1{bx bQ b8:dh->dZ->Prop}(a:dh)(b:dZ)(h0:bx a b)(aa:bQ a b)(af:b8 a b):∃a,∃b,bx a b/\bQ a b/\b8 a b:=⟨a,b,h0,aa,af⟩
theorem i3{bx bQ b8 P3:dh->dZ->Prop}(a:dh)(b:dZ)(h0:bx a b)(aa:bQ a b)(af:b8 a b)(aJ:P3 a b):∃a,∃b,bx a b/\bQ a b/\b8 a b/\P3 a b:=⟨a,b,h0,aa,af,aJ⟩
theorem Kf{bx bQ b8 P3 dr:dh->dZ->Prop}(a:dh)(b:dZ)(h0:bx a b)(aa:bQ a b)(af:b8 a b)(aJ:P3 a b)(bl:dr a b):∃a,∃b,bx a b/\bQ a b/\b8 a b/\P3 a b/\dr a b:=⟨a,b,h0,aa,af,aJ,bl⟩
theorem uk{bx bQ b8 P3 dr ef:dh->dZ->Prop}(a:dh)(b:dZ)(h0:bx a b)(aa:bQ a b)(af:b8 a b)(aJ:P3 a b)(bl:dr a b)(cP:ef a b):∃a,∃b,bx a b/\bQ a b/\b8 a b/\P3 a b/\dr a b/\ef a b:=⟨a,b,h0,aa,af,aJ,bl,cP⟩
theorem SS{bx bQ b8 P3 dr ef i7 lN:dh->dZ->Prop}(a:dh)(b:dZ)(h0:bx a b)(aa:bQ a b)(af:b8 a b)(aJ:P3 a b)(bl:dr a b)(cP:ef a b)(eT:i7 a b)(h7:lN a b):∃a,∃b,bx a b/\bQ a b/\b8 a b/\P3 a b/\dr a b/\ef a b/\i7 a b/\lN a b:=⟨a,b,h0,aa,af,aJ,bl,cP,eT,h7⟩
theorem SU{bx bQ b8 P3 dr ef i7 lN rn:dh->dZ->Prop}(a:dh)(b:dZ)(h0:bx a b)(aa:bQ a b)(af:b8 a b)(aJ:P3 a b)(bl:dr a b)(cP:ef a b)(eT:i7 a b)(h7:lN a b)(h8:rn a b):∃a,∃b,bx a b/\bQ a b/\b8 a b/\P3 a b/\dr a b/\ef a b/\i7 a b/\lN a b/\rn a b:=⟨a,b,h0,aa,af,aJ,bl,cP,eT,h7,h8⟩
variable{gf:Sort _}
theorem DM{bx:dh->dZ->gf->Prop}(a:dh)(b:dZ)(c:gf)(h0:bx a b c):∃a,∃b,∃c,bx a b c:=⟨a,b,c,h0⟩
theorem wO{bx bQ b8:dh->dZ->gf->Prop}(a:dh)(b:dZ)(c:gf)(h0:bx a b c)(aa:bQ a b c)(af:b8 a b c):∃a,∃b,∃c,bx a b c/\bQ a b c/\b8 a b c:=⟨a,b,c,h0,aa,af⟩
theorem z6{bx bQ b8 P3:dh->dZ->gf->Prop}(a:dh)(b:dZ)(c:gf)(h0:bx a b c)(aa:bQ a b c)(af:b8 a b c)(aJ:P3 a b c):∃a,∃b,∃c,bx a b c/\bQ a b c/\b8 a b c/\P3 a b c:=⟨a,b,c,h0,aa,af,aJ⟩
theorem SV{bx bQ b8 P3 dr ef:dh->dZ->gf->Prop}(a:dh)(b:dZ)(c:gf)(h0:bx a b c)(aa:bQ a b c)(af:b8 a b c)(aJ:P3 a b c)(bl:dr a b c)(cP:ef a b c):∃a,∃b,∃c,bx a b c/\bQ a b c/\b8 a b c/\P3 a b c/\dr a b c/\ef a b c:=⟨a,b,c,h0,aa,af,aJ,bl,cP⟩
theorem ag1{bx bQ b8 P3 dr ef i7:dh->dZ->gf->Prop}(a:dh)(b:dZ)(c:gf)(h0:bx a b c)(aa:bQ a b c)(af:b8 a b c)(aJ:P3 a b c)(bl:dr a b c)(cP:ef a b c)(eT:i7 a b c):∃a,∃b,∃c,bx a b c/\bQ a b c/\b8 a b c/\P3 a b c/\dr a b c/\ef a b c/\i7 a b c:=⟨a,b,c,h0,aa,af,aJ,bl,cP,eT⟩
variable{j3:Sort _}
theorem ag2{bx:dh->dZ->gf->j3->Prop}(a:dh)(b:dZ)(c:gf)(d:j3)(h0:bx a b c d):∃a,∃b,∃c,∃d,bx a b c d:=⟨a,b,c,d,h0⟩
theorem ag3{bx bQ b8 P3:dh->dZ->gf->j3->Prop}(a:dh)(b:dZ)(c:gf)(d:j3)(h0:bx a b c d)(aa:bQ a b c d)(af:b8 a b c d)(aJ:P3 a b c d):∃a,∃b,∃c,∃d,bx a b c d/\bQ a b c d/\b8 a b c d/\P3 a b c d:=⟨a,b,c,d,h0,aa,af,aJ⟩
theorem sf{bx bQ b8 P3 dr ef:dh->dZ->gf->j3->Prop}(a:dh)(b:dZ)(c:gf)(d:j3)(h0:bx a b c d)(aa:bQ a b c d)(af:b8 a b c d)(aJ:P3 a b c d)(bl:dr a b c d)(cP:ef a b c d):∃a,∃b,∃c,∃d,bx a b c d/\bQ a b c d/\b8 a b c d/\P3 a b c d/\dr a b c d/\ef a b c d:=⟨a,b,c,d,h0,aa,af,aJ,bl,cP⟩
variable{q9:Sort _}
theorem ag5{bx bQ b8 P3 dr ef:dh->dZ->gf->j3->q9->Prop}(a:dh)(b:dZ)(c:gf)(d:j3)(e:q9)(h0:bx a b c d e)(aa:bQ a b c d e)(af:b8 a b c d e)(aJ:P3 a b c d e)(bl:dr a b c d e)(cP:ef a b c d e):∃a,∃b,∃c,∃d,∃e,bx a b c d e/\bQ a b c d e/\b8 a b c d e/\P3 a b c d e/\dr a b c d e/\ef a b c d e:=⟨a,b,c,d,e,h0,aa,af,aJ,bl,cP⟩
variable{a6:Prop}
theorem a3(h:bx/\bQ)(k:bx->bQ->a6):a6:=k h.1 h.2
theorem fO(h:bx/\bQ/\b8)(k:bx->bQ->b8->a6):a6:=k h.1 h.2.1 h.2.2
theorem I_(h:bx/\bQ/\b8/\P3)(k:bx->bQ->b8->P3->a6):a6:=k h.1 h.2.1 h.2.2.1 h.2.2.2
theorem acS(h:bx/\bQ/\b8/\P3/\dr)(k:bx->bQ->b8->P3->dr->a6):a6:=k h.1 h.2.1 h.2.2.1 h.2.2.2.1 h.2.2.2.2
theorem QU{ef:Prop}(h:bx/\bQ/\b8/\P3/\dr/\ef)(k:bx->bQ->b8->P3->dr->ef->a6):a6:=k h.1 h.2.1 h.2.2.1 h.2.2.2.1 h.2.2.2.2.1 h.2.2.2.2.2
theorem bG{bx:dh->Prop}(h:∃a,bx a)(k:∀a,bx a->a6):a6:=h.elim λa h=>k a h
theorem aS{bx bQ:dh->Prop}(h:∃a,bx a/\bQ a)(k:∀a,bx a->bQ a->a6):a6:=h.elim λa h=>k a h.1 h.2
theorem eH{bx bQ b8:dh->Prop}(h:∃a,bx a/\bQ a/\b8 a)(k:∀a,bx a->bQ a->b8 a->a6):a6:=h.elim λa h=>k a h.1 h.2.1 h.2.2
theorem jQ{bx bQ b8 P3:dh->Prop}(h:∃a,bx a/\bQ a/\b8 a/\P3 a)(k:∀a,bx a->bQ a->b8 a->P3 a->a6):a6:=h.elim λa h=>k a h.1 h.2.1 h.2.2.1 h.2.2.2
theorem C6{bx bQ b8 P3 dr:dh->Prop}(h:∃a,bx a/\bQ a/\b8 a/\P3 a/\dr a)(k:∀a,bx a->bQ a->b8 a->P3 a->dr a->a6):a6:=h.elim λa h=>k a h.1 h.2.1 h.2.2.1 h.2.2.2.1 h.2.2.2.2
theorem QW{bx bQ b8 P3 dr ef:dh->Prop}(h:∃a,bx a/\bQ a/\b8 a/\P3 a/\dr a/\ef a)(k:∀a,bx a->bQ a->b8 a->P3 a->dr a->ef a->a6):a6:=h.elim λa h=>k a h.1 h.2.1 h.2.2.1 h.2.2.2.1 h.2.2.2.2.1 h.2.2.2.2.2
theorem mC{bx:dh->dZ->Prop}(h:∃a,∃b,bx a b)(k:∀a b,bx a b->a6):a6:=h.elim λa h=>h.elim λb h=>k a b h
theorem cz{bx bQ:dh->dZ->Prop}(h:∃a,∃b,bx a b/\bQ a b)(k:∀a b,bx a b->bQ a b->a6):a6:=h.elim λa h=>h.elim λb h=>k a b h.1 h.2
theorem fD{bx bQ b8:dh->dZ->Prop}(h:∃a,∃b,bx a b/\bQ a b/\b8 a b)(k:∀a b,bx a b->bQ a b->b8 a b->a6):a6:=h.elim λa h=>h.elim λb h=>k a b h.1 h.2.1 h.2.2
theorem ig{bx bQ b8 P3:dh->dZ->Prop}(h:∃a,∃b,bx a b/\bQ a b/\b8 a b/\P3 a b)(k:∀a b,bx a b->bQ a b->b8 a b->P3 a b->a6):a6:=h.elim λa h=>h.elim λb h=>k a b h.1 h.2.1 h.2.2.1 h.2.2.2
theorem t4{bx bQ b8 P3 dr:dh->dZ->Prop}(h:∃a,∃b,bx a b/\bQ a b/\b8 a b/\P3 a b/\dr a b)(k:∀a b,bx a b->bQ a b->b8 a b->P3 a b->dr a b->a6):a6:=h.elim λa h=>h.elim λb h=>k a b h.1 h.2.1 h.2.2.1 h.2.2.2.1 h.2.2.2.2
theorem ih{bx bQ b8 P3 dr ef:dh->dZ->Prop}(h:∃a,∃b,bx a b/\bQ a b/\b8 a b/\P3 a b/\dr a b/\ef a b)(k:∀a b,bx a b->bQ a b->b8 a b->P3 a b->dr a b->ef a b->a6):a6:=h.elim λa h=>h.elim λb h=>k a b h.1 h.2.1 h.2.2.1 h.2.2.2.1 h.2.2.2.2.1 h.2.2.2.2.2
theorem qA{bx bQ b8 P3 dr ef i7:dh->dZ->Prop}(h:∃a,∃b,bx a b/\bQ a b/\b8 a b/\P3 a b/\dr a b/\ef a b/\i7 a b)(k:∀a b,bx a b->bQ a b->b8 a b->P3 a b->dr a b->ef a b->i7 a b->a6):a6:=h.elim λa h=>h.elim λb h=>k a b h.1 h.2.1 h.2.2.1 h.2.2.2.1 h.2.2.2.2.1 h.2.2.2.2.2.1 h.2.2.2.2.2.2
theorem t5{bx bQ b8 P3 dr ef i7 lN:dh->dZ->Prop}(h:∃a,∃b,bx a b/\bQ a b/\b8 a b/\P3 a b/\dr a b/\ef a b/\i7 a b/\lN a b)(k:∀a b,bx a b->bQ a b->b8 a b->P3 a b->dr a b->ef a b->i7 a b->lN a b->a6):a6:=h.elim λa h=>h.elim λb h=>k a b h.1 h.2.1 h.2.2.1 h.2.2.2.1 h.2.2.2.2.1 h.2.2.2.2.2.1 h.2.2.2.2.2.2.1 h.2.2.2.2.2.2.2
theorem acU{bx bQ b8 P3 dr ef i7 lN rn:dh->dZ->Prop}(h:∃a,∃b,bx a b/\bQ a b/\b8 a b/\P3 a b/\dr a b/\ef a b/\i7 a b/\lN a b/\rn a b)(k:∀a b,bx a b->bQ a b->b8 a b->P3 a b->dr a b->ef a b->i7 a b->lN a b->rn a b->a6):a6:=h.elim λa h=>h.elim λb h=>k a b h.1 h.2.1 h.2.2.1 h.2.2.2.1 h.2.2.2.2.1 h.2.2.2.2.2.1 h.2.2.2.2.2.2.1 h.2.2.2.2.2.2.2.1 h.2.2.2.2.2.2.2.2
theorem wc{bx:dh->dZ->gf->Prop}(h:∃a,∃b,∃c,bx a b c)(k:∀a b c,bx a b c->a6):a6:=h.elim λa h=>h.elim λb h=>h.elim λc h=>k a b c h
theorem wd{bx bQ:dh->dZ->gf->Prop}(h:∃a,∃b,∃c,bx a b c/\bQ a b c)(k:∀a b c,bx a b c->bQ a b c->a6):a6:=h.elim λa h=>h.elim λb h=>h.elim λc h=>k a b c h.1 h.2
theorem kf{bx bQ b8:dh->dZ->gf->Prop}(h:∃a,∃b,∃c,bx a b c/\bQ a b c/\b8 a b c)(k:∀a b c,bx a b c->bQ a b c->b8 a b c->a6):a6:=h.elim λa h=>h.elim λb h=>h.elim λc h=>k a b c h.1 h.2.1 h.2.2
theorem mD{bx bQ b8 P3:dh->dZ->gf->Prop}(h:∃a,∃b,∃c,bx a b c/\bQ a b c/\b8 a b c/\P3 a b c)(k:∀a b c,bx a b c->bQ a b c->b8 a b c->P3 a b c->a6):a6:=h.elim λa h=>h.elim λb h=>h.elim λc h=>k a b c h.1 h.2.1 h.2.2.1 h.2.2.2
theorem QX{bx bQ b8 P3 dr:dh->dZ->gf->Prop}(h:∃a,∃b,∃c,bx a b c/\bQ a b c/\b8 a b c/\P3 a b c/\dr a b c)(k:∀a b c,bx a b c->bQ a b c->b8 a b c->P3 a b c->dr a b c->a6):a6:=h.elim λa h=>h.elim λb h=>h.elim λc h=>k a b c h.1 h.2.1 h.2.2.1 h.2.2.2.1 h.2.2.2.2
theorem C7{bx bQ b8 P3 dr ef:dh->dZ->gf->Prop}(h:∃a,∃b,∃c,bx a b c/\bQ a b c/\b8 a b c/\P3 a b c/\dr a b c/\ef a b c)(k:∀a b c,bx a b c->bQ a b c->b8 a b c->P3 a b c->dr a b c->ef a b c->a6):a6:=h.elim λa h=>h.elim λb h=>h.elim λc h=>k a b c h.1 h.2.1 h.2.2.1 h.2.2.2.1 h.2.2.2.2.1 h.2.2.2.2.2
theorem acV{bx:dh->dZ->gf->j3->Prop}(h:∃a,∃b,∃c,∃d,bx a b c d)(k:∀a b c d,bx a b c d->a6):a6:=h.elim λa h=>h.elim λb h=>h.elim λc h=>h.elim λd h=>k a b c d h
theorem QY{bx bQ b8 P3:dh->dZ->gf->j3->Prop}(h:∃a,∃b,∃c,∃d,bx a b c d/\bQ a b c d/\b8 a b c d/\P3 a b c d)(k:∀a b c d,bx a b c d->bQ a b c d->b8 a b c d->P3 a b c d->a6):a6:=h.elim λa h=>h.elim λb h=>h.elim λc h=>h.elim λd h=>k a b c d h.1 h.2.1 h.2.2.1 h.2.2.2
theorem we{bx bQ b8 P3 dr ef:dh->dZ->gf->j3->Prop}(h:∃a,∃b,∃c,∃d,bx a b c d/\bQ a b c d/\b8 a b c d/\P3 a b c d/\dr a b c d/\ef a b c d)(k:∀a b c d,bx a b c d->bQ a b c d->b8 a b c d->P3 a b c d->dr a b c d->ef a b c d->a6):a6:=h.elim λa h=>h.elim λb h=>h.elim λc h=>h.elim λd h=>k a b c d h.1 h.2.1 h.2.2.1 h.2.2.2.1 h.2.2.2.2.1 h.2.2.2.2.2
theorem acW{bx:dh->dZ->gf->j3->q9->Prop}(h:∃a,∃b,∃c,∃d,∃e,bx a b c d e)(k:∀a b c d e,bx a b c d e->a6):a6:=h.elim λa h=>h.elim λb h=>h.elim λc h=>h.elim λd h=>h.elim λe h=>k a b c d e h
theorem acX{bx bQ b8:dh->dZ->gf->j3->q9->Prop}(h:∃a,∃b,∃c,∃d,∃e,bx a b c d e/\bQ a b c d e/\b8 a b c d e)(k:∀a b c d e,bx a b c d e->bQ a b c d e->b8 a b c d e->a6):a6:=h.elim λa h=>h.elim λb h=>h.elim λc h=>h.elim λd h=>h.elim λe h=>k a b c d e h.1 h.2.1 h.2.2
theorem acY{bx bQ b8 P3 dr ef i7 lN rn:dh->dZ->gf->j3->q9->Prop}(h:∃a,∃b,∃c,∃d,∃e,bx a b c d e/\bQ a b c d e/\b8 a b c d e/\P3 a b c d e/\dr a b c d e/\ef a b c d e/\i7 a b c d e/\lN a b c d e/\rn a b c d e)(k:∀a b c d e,bx a b c d e->bQ a b c d e->b8 a b c d e->P3 a b c d e->dr a b c d e->ef a b c d e->i7 a b c d e->lN a b c d e->rn a b c d e->a6):a6:=h.elim λa h=>h.elim λb h=>h.elim λc h=>h.elim λd h=>h.elim λe h=>k a b c d e h.1 h.2.1 h.2.2.1 h.2.2.2.1 h.2.2.2.2.1 h.2.2.2.2.2.1 h.2.2.2.2.2.2.1 h.2.2.2.2.2.2.2.1 h.2.2.2.2.2.2.2.2
variable{Ex Ez EA:Sort _}
theorem acZ{bx:dh->dZ->gf->j3->q9->Ex->Ez->EA->Prop}(h:∃a,∃b,∃c,∃d,∃e,∃f,∃g,∃i,bx a b c d e f g i)(k:∀a b c d e f g i,bx a b c d e f g i->a6):a6:=h.elim λa h=>h.elim λb h=>h.elim λc h=>h.elim λd h=>h.elim λe h=>h.elim λf h=>h.elim λg h=>h.elim λi h=>k a b c d e f g i h
theorem QV{EB:Sort _}{jF:Sort _}{bx bQ:dh->dZ->gf->j3->q9->Ex->Ez->EA->EB->jF->Prop}(h:∃a,∃b,∃c,∃d,∃e,∃f,∃g,∃i,∃j,∃l,bx a b c d e f g i j l/\bQ a b c d e f g i j l)(k:∀a b c d e f g i j l,bx a b c d e f g i j l->bQ a b c d e f g i j l->a6):a6:=h.elim λa h=>h.elim λb h=>h.elim λc h=>h.elim λd h=>h.elim λe h=>h.elim λf h=>h.elim λg h=>h.elim λi h=>h.elim λj h=>h.elim λl h=>k a b c d e f g i j l h.1 h.2
theorem acT{EB:Sort _}{jF:Sort _}{TN:Sort _}{TO:Sort _}{TP:Sort _}{TQ:Sort _}{bx:dh->dZ->gf->j3->q9->Ex->Ez->EA->EB->jF->TN->TO->TP->TQ->Prop}(h:∃a,∃b,∃c,∃d,∃e,∃f,∃g,∃i,∃j,∃l,∃m,∃n,∃o,∃p,bx a b c d e f g i j l m n o p)(k:∀a b c d e f g i j l m n o p,bx a b c d e f g i j l m n o p->a6):a6:=h.elim λa h=>h.elim λb h=>h.elim λc h=>h.elim λd h=>h.elim λe h=>h.elim λf h=>h.elim λg h=>h.elim λi h=>h.elim λj h=>h.elim λl h=>h.elim λm h=>h.elim λn h=>h.elim λo h=>h.elim λp h=>k a b c d e f g i j l m n o p h
@[elab_as_elim] theorem G {aV:Sort _} {a b:aV} {motive:aV->Prop} (h:a=b) (k:motive b):motive a:=h▸k
theorem aT{aV:Type _}{a b:aV}(h:C a=C b):a=b:=c0 h
theorem eD{aV:Type _}{β:Type _}{a dp:aV}{b dE:β}(h:(a,b)=(dp,dE)):a=dp/\b=dE:=Prod.mk.inj h
variable{P:Prop}
theorem bM{aV:Type _}{a:aV}(h:none=C a):P:=nomatch h
theorem zH{aV:Type _}{a:aV}(h:C a=none):P:=nomatch h
theorem jB(h:ae=ai):P:=nomatch h
theorem c7(h:ai=ae):P:=nomatch h
theorem aic{aV:Type _}{a:aV}{l:List aV}(h:[]=a::l):P:=nomatch h
theorem adD{aV:Type _}{a:aV}{l:List aV}(h:a::l=[]):P:=nomatch h
noncomputable abbrev bz:=List Nat
noncomputable def cs(x:aO):bz:=x.cps.toList
theorem JO{m i:Nat}(h:i+1<=m):m-i=m-(i+1)+1:=(Nat.sub_add_cancel (Nat.sub_pos_of_lt h)).symm
variable{n k:Nat}
theorem qp(h:n<=k)(q:k<2^63):(n:Int)<2^63:=mR.mpr (jk h q)
theorem QD{i:Nat}(q:i<n):-((i:Int)+1)+n=((n-(i+1):Nat):Int):=by(refine G (Int.ofNat_sub q) (G (D_ _ _) ?_));rfl
variable{S bX:Nat}
theorem xG:S+(n+bX)=S+bX+n:=G ((ko n) _) (G (kW _ _ _) rfl)
theorem JR{a b c x m:Nat}(fB:a=b+c)(eG:x=c)(gv:b<=S+m)(hm:m=4000)(br:S<=100000)(h:x<=4000):a<=108000:=
 bU (eP fB) (mP (bU gv (mP br (eP hm))) (bU (eP eG.symm) h))
theorem Nz{x d m:Nat}(h:x<=310+2*d)(k:d<=m)(q:310+2*m<=n):x<=n:=bU h (bU (l_ (KG 2 k) 310) q)
theorem Ny{x d:Nat}(h:x<=310+2*d)(q:k<=2):x+k<=310+2*(d+1):=bU (mP h q) (eP (kW 310 (2*d) 2))
theorem So{x d:Nat}(h:x<=30+10*d)(q:k<=10):x+k<=30+10*(d+1):=bU (mP h q) (eP (kW 30 (10*d) 10))
variable{z:Int}
theorem L4(h:0<=z/\z<=k)(q:k<n):z.natAbs<n:=by(refine bG (DR h.1) λm J=>?_;subst J);exact jk (jn.mp h.2) q
theorem CI:∀n,n<4->n=0\/n=1\/n=2\/n=3:=by exact aR rfl
theorem Qf:∀n,n<6->n=0\/n=1\/n=2\/n=3\/n=4\/n=5:=by exact aR rfl
theorem RC{r:Int}(h:1<=r):r.toNat=(20-(21-r)).toNat+1:=by(refine bG (Int.le.dest h) λm J=>?_;(clear h;subst J));exact G (show(20:Int)-(21-(1+m))=m by omega) (ko 1 m)
theorem aeV(h:z<=20)(n:¬z=20):(20-z).toNat=(20-(1+z)).toNat+1:=G (RC (r:=20-z) (by omega)) (G (show 20-(21-(20-z))=20-(1+z) by omega) rfl)
theorem abQ{x:Int}(h:0<=x)(k:x<=4):x=0\/x=1\/x=2\/x=3\/x=4:=by(refine bG (DR h) λm J=>?_;(clear h;subst J));exact(aR rfl:∀m:Nat,m<5->(m:Int)=0\/(m:Int)=1\/(m:Int)=2\/(m:Int)=3\/(m:Int)=4) m (w1 (jn.mp k))
theorem kP{a d b s:Nat}(e:b=a+d)(h:a+2*d<=s):b+d<=s:=by(refine G e ?_;(refine G (kW _ _ _) (G (bV (Nat.two_mul _)) ?_)));exact h
theorem Dt{a d s:Nat}(h:a+2*d<=s)(k:s<=n):a+d<=n:=bU (l_ (Nat.le_mul_of_pos_left _ (aR rfl)) _) (bU h k)
theorem IV{m:Nat}(h:1<=m)(k:m<=4):m=1\/m=2\/m=3\/m=4:=(aR rfl:∀m,m<5->1<=m->m=1\/m=2\/m=3\/m=4) m (w1 k) h
theorem Qi{m:Nat}(h:1<=m)(k:m<=4)(n:¬m=1):m=2\/m=3\/m=4:=(IV h k).resolve_left n
theorem afZ{x y a b:Int}(h:x-a=y-b):a=b↔x=y:=by omega
theorem af0{x y a b:Int}(h:x-a=y-b):a<b↔x<y:=by omega
noncomputable def rC:List Nat->List Nat->Bool:=PySem.W.Fast.lEq
noncomputable def eqs(a b:aO):Bool:=rC a.cps.toList b.cps.toList
noncomputable def ltI(a b:Int):Bool:=decide (a<b)
noncomputable def kA(a b:Int):Bool:=decide (a=b)
inductive bo where
 |lit (c:Int)
 |aL (c:Int) (neg:Bool) (v:Nat)
noncomputable def bo.ctorIdx(x:bo):Nat:=bo.casesOn x (λI=>0) (λI I I=>1)
inductive c1 where
 |lit (l:bz)
 |dec (e:bo)
 |chr (k:Nat)
 |any (k:Nat)
noncomputable def c1.ctorIdx(x:c1):Nat:=c1.casesOn x (λI=>0) (λI=>1) (λI=>2) (λI=>3)
noncomputable abbrev ag:=List c1
inductive V where
 |c (v:Value)
 |i (e:bo)
 |s (e:ag)
 |r (n:Nat)
 |u
noncomputable def V.ctorIdx(x:V):Nat:=V.casesOn x (λI=>0) (λI=>1) (λI=>2) (λI=>3) 4
inductive O where
 |inst (U:Addr) (dG:List (Str×V))
 |list (xs:List V)
 |iQ (k:Nat) (xs:List V)
 |tup (xs:List V)
 |dict (ar:List (ag×V)) (aia:Option (List ag))
 |jx (n j:Nat)
 |qE (n:Nat)
 |cell (v:Option V)
 |it (n i:Nat)
 |nh (n i:Nat)
 |itR (i left:Nat)
 |raw (k:Nat)
 |gone
noncomputable def O.ctorIdx(x:O):Nat:=O.casesOn x (λI I=>0) (λI=>1) (λI I=>2) (λI=>3) (λI I=>4) (λI I=>5) (λI=>6) (λI=>7) (λI I=>8) (λI I=>9) (λI I=>10) (λI=>11) 12
inductive d0(aV:Type) where
 |nil
 |node (v:Option aV) (l r:d0 aV)
variable{aV:Type}
noncomputable def d0.ctorIdx(x:d0 aV):Nat:=d0.casesOn x 0 (λI I I=>1)
namespace d0
noncomputable def get:d0 aV->Nat->Option aV
 |.nil,_=>none
 |.node v l r,i=>match cv i 0 with
  |true=>v
  |false=>match cv (i%2) 1 with
   |true=>l.get (i/2)
   |false=>r.get (i/2-1)
noncomputable def put:Nat->d0 aV->Nat->aV->d0 aV
 |0,t,_,_=>t
 |d+1,.nil,i,x=>match cv i 0 with
  |true=>.node (C x) .nil .nil
  |false=>match cv (i%2) 1 with
   |true=>.node none (put d .nil (i/2) x) .nil
   |false=>.node none .nil (put d .nil (i/2-1) x)
 |d+1,.node v l r,i,x=>match cv i 0 with
  |true=>.node (C x) l r
  |false=>match cv (i%2) 1 with
   |true=>.node v (put d l (i/2) x) r
   |false=>.node v l (put d r (i/2-1) x)
end d0
noncomputable abbrev b5:=Int×Int×Option Nat
structure St where
 σ:d0 (Bool×O)
 no:Nat
 au:List b5
 aE:List bz
 ns:Nat
 loc:List (aO×V)
noncomputable abbrev Loc:=List (aO×V)
inductive Out(aV:Type) where
 |fail (why:Nat)
 |ok (a:aV) (st:St)
 |ex (st:St)
noncomputable def Out.ctorIdx(x:Out aV):Nat:=Out.casesOn x (λI=>0) (λI I=>1) (λI=>2)
noncomputable abbrev M(aV:Type):=St->Out aV
noncomputable def M.pure(a:aV):M aV:=λst=>.ok a st
noncomputable def M.bind{β:Type}(m:M aV)(f:aV->M β):M β:=λst=>match m st with
 |.fail n=>.fail n
 |.ok a bk=>f a bk
 |.ex bk=>.ex bk
noncomputable instance:Monad M:=⟨⟩|>λ(I:Unit)=>{pure:=M.pure,bind:=M.bind}
noncomputable def fail(n:Nat):M aV:=λI=>.fail n
noncomputable def raise:M aV:=λst=>.ex st
noncomputable def bp(n:Nat)(x:Option aV):M aV:=match x with
 |some a=>M.pure a
 |none=>fail n
inductive di where
 |next|brk|cont
 |ret (v:V)
noncomputable def di.ctorIdx(x:di):Nat:=di.casesOn x 0 1 2 (λI=>3)
namespace bo
noncomputable def const:bo->Int
 |.lit c=>c
 |.aL c _ _=>c
noncomputable def lo(au:List b5):bo->Option Int
 |.lit c=>C c
 |.aL c neg v=>match au[v]? with
  |some b=>match neg with
   |false=>C (c+b.1)
   |true=>C (c-b.2.1)
  |none=>none
noncomputable def bN(au:List b5):bo->Option Int
 |.lit c=>C c
 |.aL c neg v=>match au[v]? with
  |some b=>match neg with
   |false=>C (c+b.2.1)
   |true=>C (c-b.1)
  |none=>none
noncomputable def add:bo->bo->Option bo
 |.lit a,.lit b=>C (.lit (a+b))
 |.lit a,.aL c n v=>C (.aL (a+c) n v)
 |.aL c n v,.lit a=>C (.aL (c+a) n v)
 |.aL ..,.aL ..=>none
noncomputable def xP:Bool->Bool->Bool
 |true,b=>b
 |false,b=>!b
noncomputable def same:bo->bo->Bool
 |.lit _,.lit _=>ae
 |.aL _ n v,.aL _ m u=>match xP n m with
  |true=>cv v u
  |false=>ai
 |.lit _,.aL ..=>ai
 |.aL ..,.lit _=>ai
noncomputable def sub:bo->bo->Option bo
 |.lit a,.lit b=>C (.lit (a-b))
 |.lit a,.aL c n v=>C (.aL (a-c) (!n) v)
 |.aL c n v,.lit a=>C (.aL (c-a) n v)
 |.aL c n v,.aL d m u=>match same (.aL c n v) (.aL d m u) with
  |true=>C (.lit (c-d))
  |false=>none
noncomputable def lt(au:List b5)(a b:bo):Option Bool:=match same a b with
 |true=>C (ltI a.const b.const)
 |false=>(a.bN au).bind λx=>(b.lo au).bind λy=>match ltI x y with
  |true=>C ae
  |false=>(a.lo au).bind λx=>(b.bN au).bind λy=>match ltI x y with
   |true=>none
   |false=>C ai
noncomputable def pin(au:List b5)(a b:bo):Option Bool:=(a.lo au).bind λx=>(a.bN au).bind λse=>(b.lo au).bind λy=>(b.bN au).bind λjY=>match kA x se&&kA y jY&&kA x y with
  |true=>C ae
  |false=>none
noncomputable def eq(au:List b5)(a b:bo):Option Bool:=match same a b with
 |true=>C (kA a.const b.const)
 |false=>match(lt au a b).any id with
  |true=>C ai
  |false=>match(lt au b a).any id with
   |true=>C ai
   |false=>pin au a b
end bo
noncomputable def bo.small(au:List b5)(e:bo):Bool:=(bo.lo au e).any λx=>(bo.bN au e).any λy=>!ltI x 0&&!ltI 2000000 y
noncomputable def nq(c:Nat)(l:List Nat):Bool:=l.any (cv c)
noncomputable def wx(p l:List Nat):Bool:=p.isPrefixOf l
noncomputable def wD(p:List Nat):List Nat->Bool
 |[]=>wx p []
 |b::m=>match wx p (b::m) with
  |true=>ae
  |false=>wD p m
noncomputable def tn(c:Nat):Bool:=(dw 48 c&&dw c 57)||Nat.beq c 45
noncomputable def clsAt(aE:List bz)(k:Nat):Option bz:=aE[k]?
namespace ag
noncomputable def o7:c1->Option bz
 |.lit l=>C l
 |_=>none
noncomputable def cons(p:c1):ag->ag
 |[]=>[p]
 |q::r=>match(o7 p).bind λl=>(o7 q).map λm=>l++m with
  |some x=>.lit x::r
  |none=>p::q::r
noncomputable def cat:ag->ag->ag
 |[],b=>b
 |[p],b=>cons p b
 |p::r,b=>p::cat r b
inductive sQ where
 |done
 |one (c:Nat) (rest:ag)
 |nx (p:c1) (rest:ag)
noncomputable def sQ.ctorIdx(x:sQ):Nat:=sQ.casesOn x 0 (λI I=>1) (λI I=>2)
noncomputable def head:ag->sQ
 |[]=>.done
 |.lit []::r=>head r
 |.lit (c::l)::r=>.one c (.lit l::r)
 |p::r=>.nx p r
noncomputable def s_(aE:List bz)(k c:Nat):Option Bool:=match clsAt aE k with
 |some l=>C (nq c l)
 |none=>none
noncomputable def Bu(a b:bo):Bool:=match bo.same a b with
 |true=>kA a.const b.const
 |false=>ai
noncomputable def kc:Option Bool->Bool
 |some b=>!b
 |none=>ai
noncomputable def GO:c1->Option Bool
 |.any _=>none
 |.lit _=>C ai
 |.dec _=>C ai
 |.chr _=>C ai
noncomputable def z3(aE:List bz)(c:Nat)(x:Option Bool):c1->Option Bool
 |.dec _=>(match tn c with|true=>none|false=>C ai)
 |.chr k=>(match kc (s_ aE k c) with|true=>C ai|false=>(match kc x with|true=>C ai|false=>none))
 |.lit _=>none
 |.any _=>none
noncomputable def Np:c1->Option bo
 |.dec e=>C e
 |_=>none
noncomputable def MX:c1->Option Nat
 |.chr k=>C k
 |_=>none
noncomputable def Mh:c1->Option Nat
 |.any k=>C k
 |_=>none
noncomputable def SI(aE:List bz)(x:Option Bool)(p q:c1):Option Bool:=match p with
 |.lit _=>none
 |.dec a=>(Np q).bind λb=>match Bu a b with|true=>x|false=>none
 |.chr k=>(MX q).bind λj=>match cv k j with
  |true=>x
  |false=>match eQ k aE.length&&eQ j aE.length with|true=>C ai|false=>none
 |.any k=>(Mh q).bind λj=>match cv k j with|true=>x|false=>none
noncomputable def NR(aE:List bz)(E:ag->ag->Option Bool)(a b:sQ):Option Bool:=match a with
 |.done=>match b with
  |.done=>C ae
  |.one _ _=>C ai
  |.nx p _=>GO p
 |.one c r=>match b with
  |.done=>C ai
  |.one d s=>match cv c d with|true=>E r s|false=>C ai
  |.nx p s=>z3 aE c (E r s) p
 |.nx p r=>match b with
  |.done=>GO p
  |.one c s=>z3 aE c (E r s) p
  |.nx q s=>SI aE (E r s) p q
noncomputable def eq(au:List b5)(aE:List bz):Nat->ag->ag->Option Bool
 |0,_,_=>none
 |n+1,a,b=>NR aE (eq au aE n) (head a) (head b)
noncomputable def QZ(aE:List bz)(c:Nat):c1->Option Bool
 |.lit l=>C (nq c l)
 |.dec _=>(match tn c with|true=>none|false=>C ai)
 |.chr k=>(match kc (s_ aE k c) with|true=>C ai|false=>none)
 |.any _=>none
noncomputable def occurs(aE:List bz)(c:Nat):ag->Option Bool
 |[]=>C ai
 |p::r=>match kc (occurs aE c r) with
  |true=>QZ aE c p
  |false=>occurs aE c r
noncomputable def CE(l:bz):ag->Bool
 |[]=>ai
 |p::r=>match(o7 p).any (wD l) with
  |true=>ae
  |false=>CE l r
noncomputable def xK(aE:List bz)(e:ag):bz->Bool
 |[]=>ai
 |c::l=>match kc (occurs aE c e) with
  |true=>ae
  |false=>xK aE e l
theorem VG(aE:List bz)(e:ag)(c:Nat)(l:bz):xK aE e (c::l)=match kc (occurs aE c e) with|true=>ae|false=>xK aE e l:=rfl
noncomputable def has(aE:List bz)(l:bz)(e:ag):Option Bool:=match CE l e with
 |true=>C ae
 |false=>match xK aE e l with
  |true=>C ai
  |false=>none
noncomputable def first(e:ag):Option ag:=match head e with
 |.one c _=>C [.lit [c]]
 |.nx (.chr k) _=>C [.chr k]
 |_=>none
noncomputable def kd:ag->Option bz
 |[]=>C []
 |[.lit l]=>C l
 |_=>none
end ag
noncomputable def ag.wide(au:List b5):ag->Option Nat
 |[]=>C 0
 |p::r=>(ag.wide au r).bind λn=>match p with
   |.lit l=>C (l.length+n)
   |.dec e=>(match bo.small au e with|true=>C (8+n)|false=>none)
   |.chr _=>C (n+1)
   |.any _=>C (n+1000)
theorem ag.agU(au:List b5)(p:c1)(r:ag):ag.wide au (p::r)=(ag.wide au r).bind λn=>match p with|.lit l=>C (l.length+n)|.dec e=>(match bo.small au e with|true=>C (8+n)|false=>none)|.chr _=>C (n+1)|.any _=>C (n+1000):=rfl
noncomputable def ag.fits(au:List b5)(a b:ag):Option Unit:=(ag.wide au a).bind λm=>(ag.wide au b).bind λn=>match dw (m+n) 100000 with|true=>C ()|false=>none
noncomputable def XO(au:List b5)(aE:List bz):V->V->Option Bool
 |.i a,.i b=>bo.eq au a b
 |.s a,.s b=>ag.eq au aE 400 a b
 |_,_=>none
inductive xl where
 |no|stuck
 |at(i:Nat) (v:V)
noncomputable def xl.ctorIdx(x:xl):Nat:=xl.casesOn x 0 1 (λI I=>2)
noncomputable def tp(au:List b5)(aE:List bz)(k:ag):Nat->List (ag×V)->xl
 |_,[]=>.no
 |i,e::r=>match ag.eq au aE 400 e.1 k with
  |some true=>.at i e.2
  |some false=>tp au aE k (i+1) r
  |none=>.stuck
theorem Od(au:List b5)(aE:List bz)(k:ag)(i:Nat)(e:ag×V)(r:List (ag×V)):tp au aE k i (e::r)=match ag.eq au aE 400 e.1 k with|some true=>.at i e.2|some false=>tp au aE k (i+1) r|none=>.stuck:=rfl
noncomputable def zd(au:List b5)(aE:List bz)(k:ag):List ag->Bool
 |[]=>ai
 |e::r=>match(ag.eq au aE 400 e k).any id with
  |true=>ae
  |false=>zd au aE k r
theorem abV(au:List b5)(aE:List bz)(k e:ag)(r:List ag):zd au aE k (e::r)=match(ag.eq au aE 400 e k).any id with|true=>ae|false=>zd au aE k r:=rfl
noncomputable def look(au:List b5)(aE:List bz)(k:ag)(ar:List (ag×V))(op:Option (List ag)):Option (Option (Nat×V)):=match tp au aE k 0 ar with
 |.at i v=>C (C (i,v))
 |.stuck=>none
 |.no=>match op with
  |none=>C none
  |some abs=>match zd au aE k abs with
   |true=>C none
   |false=>none
noncomputable def ed(x:aO):List (aO×V)->Option V
 |[]=>none
 |e::r=>match eqs e.1 x with
  |true=>C e.2
  |false=>ed x r
theorem Ha(x:aO)(e:aO×V)(r:List (aO×V)):ed x (e::r)=match eqs e.1 x with|true=>C e.2|false=>ed x r:=rfl
noncomputable def ny(x:aO)(v:V):List (aO×V)->List (aO×V)
 |[]=>[(x,v)]
 |e::r=>match eqs e.1 x with
  |true=>(e.1,v)::r
  |false=>e::ny x v r
theorem ady(x:aO)(v:V)(e:aO×V)(r:List (aO×V)):ny x v (e::r)=match eqs e.1 x with|true=>(e.1,v)::r|false=>e::ny x v r:=rfl
noncomputable def cU:Nat:=24
noncomputable def St.at(st:St)(n:Nat):Option O:=match st.σ.get n with
 |some x=>C x.2
 |none=>none
noncomputable def load(n:Nat):M O:=λst=>match st.at n with
 |some o=>.ok o st
 |none=>.fail (1000+n)
noncomputable def store(n:Nat)(o:O):M Unit:=λst=>match st.σ.get n with
 |some (true,_)=>(match eQ n 10000000 with
  |true=>.ok () {st with σ:=st.σ.put cU n (ae,o)}
  |false=>.fail 2)
 |_=>.fail (2000+n)
noncomputable def drop(n:Nat):M Unit:=λst=>match st.σ.get n with
 |some (true,_)=>(match eQ n 10000000 with
  |true=>.ok () {st with σ:=st.σ.put cU n (ai,.gone)}
  |false=>.fail 2)
 |_=>.fail (3000+n)
noncomputable def alloc(o:O):M Nat:=λst=>match eQ st.no 10000000 with
 |true=>.ok st.no {st with σ:=st.σ.put cU st.no (ae,o),no:=st.no+1}
 |false=>.fail 2
noncomputable def gR(x:aO):List (aO×hl)->Option hl
 |[]=>none
 |e::r=>match eqs e.1 x with
  |true=>C e.2
  |false=>gR x r
noncomputable def wg:az->V
 |.int i _=>.i (.lit i)
 |.str s _=>.s [.lit (cs s)]
 |v=>.c v
noncomputable def qO(i k:Nat)(f:i=k->Option aV):Option aV:=match h:cv i k with
 |true=>f (d2 h)
 |false=>none
noncomputable def F9(d:Data):Option ClassData:=qO d.ctorIdx 8 λh=>K9 d h C
noncomputable def vg(d:Data):Option (Array hT):=qO d.ctorIdx 3 λh=>Data.dict.elim d h λar I=>C ar
noncomputable def zJ(v:az):Option Addr:=qO v.ctorIdx 10 λh=>K5 v h C
noncomputable def JW(v:az):Option String:=qO v.ctorIdx 8 λh=>KX v h C
noncomputable def Mv(v:az):Option String:=qO v.ctorIdx 9 λh=>Kw v h C
noncomputable def afV(v:az):Option Str:=qO v.ctorIdx 6 λh=>Value.str.elim v h λx I=>C x
noncomputable def Cz(x:aO)(e:hT):Bool:=(afV e.key).any λy=>eqs y x
noncomputable def Bz(x:aO)(l:List hT):Option Value:=(l.find? (Cz x)).map (·.val)
noncomputable def pe(K:b7)(ns:aF)(x:aO):Option (Option az):=(K.lookup ns).bind λo=>(vg o.data).bind λar=>match Bz x ar.toList with
 |some v=>C (C v)
 |none=>bif ar.toList.any (·.refKey) then none else C none
noncomputable def I0(x:aO)(l:List aO):Bool:=l.any λy=>eqs y x
noncomputable def I9:List Str:=[bO "place",bO "limits",bO "choose",bO "types",bO "typed",bO "static",bO "builders",bO "ways",bO "declarations",bO "statements",bO "line",bO "count"]++ [bO "under_way",bO "kind",bO "owner",bO "parent",bO "root",bO "made",bO "number",bO "level",bO "part",bO "names",bO "order",bO "uses"]++ [bO "use_types",bO "counts",bO "type_homes",bO "generic",bO "name",bO "key",bO "subtype",bO "data",bO "unique",bO "home",bO "region",bO "full"]++ [bO "is_ready",bO "is_complete",bO "is_constant",bO "is_implicit",bO "is_overridden",bO "naming",bO "steps",bO "inner",bO "table",bO "width",bO "depth",bO "members"]++ [bO "text",bO "tasks",bO "heap"]
noncomputable def zA(U:aF)(l:List az):Bool:=(l.head?.bind zJ).any (λa=>cv a U)&&((l.tail.head?.bind JW).any (λt=>t=="object")&&l.tail.tail.isEmpty)
noncomputable def vM(x:Option (Option az)):Bool:=x.any Option.isNone
noncomputable def xU(K:b7)(U:aF):Option ClassData:=(K.lookup U).bind λo=>F9 o.data
noncomputable def Ga(K:b7)(U:aF):Bool:=(xU K U).any λcd=>cd.hasDict&&(zA U cd.mro&&(vM (pe K cd.ns "__getattribute__")&&(vM (pe K cd.ns "__setattr__")&&vM (pe K cd.ns "__getattr__"))))
noncomputable def attrOk(K:b7)(U:aF)(x:aO):Bool:=(xU K U).any λcd=>I0 x I9&&(vM (pe K cd.ns x)&&(zA U cd.mro&&Ga K U))
noncomputable def ze(K:b7)(U:aF)(x:aO):Option (Option az):=(xU K U).bind λcd=>(cd.mro.head?.bind zJ).bind λa=>bif cv a U then(pe K cd.ns x).bind λy=>y.map C else none
noncomputable def yS(v:az):Bool:=(JW v).any λt=>t=="type"
noncomputable def It(K:b7)(a:aF):Bool:=(K.lookup a).any λo=>cv o.data.ctorIdx 7||(Nat.beq o.data.ctorIdx 8&&yS o.cls)
noncomputable def IW(K:b7)(U:aF):Bool:=(K.lookup U).any λo=>(F9 o.data).any λcd=>yS o.cls&&(!cd.abstract&&(!cd.hasDel&&(((o.slots.toList[4]?).join.bind Mv).any (λi=>i=="object.__new__")&&zA U cd.mro)))
variable{fb:Type}
theorem ct{x:Option aV}{f:aV->Option fb}{b:fb}(h:x.bind f=C b)(k:∀a,x=C a->f a=C b->P):P:=by
 induction x using b3 with
 |none=>exact bM h
 |some a=>exact k a rfl h
theorem cN{x:Option aV}{p:aV->Bool}(h:x.any p=ae)(k:∀a,x=C a->p a=ae->a6):a6:=by
 induction x using b3 with
 |none=>exact c7 h
 |some a=>exact k a rfl h
theorem Dc{l:List aV}{x:aV}(h:l.length=1)(e:l[0]? =C x):l=[x]:=by
 induction l using es with
 |nil=>injection h
 |cons y l=>
  induction l using es with
  |nil=>exact congrArg (λz=>[z]) (c0 e)
  |cons _ _=>cases h
theorem agq{l:List aV}{x y:aV}(h:l.length=2)(e:l[0]? =C x)(cq:l[1]? =C y):l=[x,y]:=by
 induction l using es with
 |nil=>injection h
 |cons z l=>exact G (Dc (l:=l) (so h) cq) (G (c0 e) rfl)
variable{b:Bool}
theorem bR{a:Bool}(h:(a&&b)=ae):a=true:=(Kx.mp h).1
theorem bB{a:Bool}(h:(a&&b)=ae):b=true:=(Kx.mp h).2
theorem z7{i:Nat}{f:i=k->Option aV}{y:aV}(h:qO i k f=C y)(q:∀h,f h=C y->P):P:=by
 unfold qO at h;split at h
 .exact q _ h
 .exact bM h
theorem MZ{d:Data}{c:ClassData}(h:F9 d=C c):d=.cls c:=z7 h λaA q=>
 K9 (motive:=λd=>∀aA,K9 (motive:=λI=>Option ClassData) d aA C=C c->d=.cls c) d aA (λI I q=>by(obtain J:=aT q;clear q;(clear q h;subst J));rfl) aA q
theorem Jw{v:az}{a:aF}(h:zJ v=C a):v=.ref a:=z7 h λaA q=>
 K5 (motive:=λd=>∀aA,K5 (motive:=λI=>Option aF) d aA C=C a->d=.ref a) v aA (λI I q=>by(obtain J:=aT q;clear q;(clear q h;subst J));rfl) aA q
theorem Sk{v:az}{a:String}(h:JW v=C a):v=.type a:=z7 h λaA q=>
 KX (motive:=λd=>∀aA,KX (motive:=λI=>Option String) d aA C=C a->d=.type a) v aA (λI I q=>by(obtain J:=aT q;clear q;(clear q h;subst J));rfl) aA q
theorem V5{v:az}{a:String}(h:Mv v=C a):v=.builtin a:=z7 h λaA q=>
 Kw (motive:=λd=>∀aA,Kw (motive:=λI=>Option String) d aA C=C a->d=.builtin a) v aA (λI I q=>by(obtain J:=aT q;clear q;(clear q h;subst J));rfl) aA q
theorem x9{a b:List Nat}:rC a b=ae↔a=b:=PySem.W.Fast.lEq_iff
theorem gu{a b:aO}:eqs a b=ae↔a=b:=by unfold eqs;rw[x9];refine⟨λh=>?_,λh=>by exact G h rfl⟩;obtain⟨⟨x⟩⟩:=a;obtain⟨⟨y⟩⟩:=b;exact congrArg (λl=>Str.mk ⟨l⟩) h
theorem aa9(x:aO)(e:hT):Cz x e=e.key.isStr x:=by
 unfold Cz;induction e.key using l9 with
 |str y t=>show eqs y x=(y==x);(refine gM w5 ?_;rewrite[gu,beq_iff_eq];with_reducible rfl)
 |_=>rfl
theorem C3(K:b7)(ns:aF)(x:aO):pe K ns x=lH K ns x:=by
 unfold pe lH;generalize h:K.lookup ns=aD;induction aD using b3 with
 |none=>rfl
 |some o=>
  obtain(⟨c,d,data,de⟩):=o;clear h;induction data using Ae with
  |dict ar n=>
   show(match Bz x ar.toList with|some v=>C (C v)|none=>bif ar.toList.any (·.refKey) then none else C none)=(match ar.toList.find? (·.key.isStr x) with|some e=>C (C e.val)|none=>if ar.toList.any (·.refKey) then none else C none);refine G (show Bz x ar.toList=(ar.toList.find? (·.key.isStr x)).map (·.val) by unfold Bz;exact G (show Cz x=λe=>e.key.isStr x from funext (aa9 x)) rfl) ?_;cases ar.toList.find? (·.key.isStr x) with
   |some e=>rfl
   |none=>cases ar.toList.any (·.refKey)<;>rfl
  |_=>rfl
variable{x:aO}
theorem abX{l:List aO}(h:I0 x l=ae):x∈l:=aS (DZ.mp h) λy m e=>gu.mp e▸m
theorem acN:(I9.all λx=>(w8 "object" x).isNone)=true:=by kernel_rfl
theorem acO(h:I0 x I9=ae):w8 "object" x=none:=by obtain this:=eX.mp acN x (abX h);exact nM.mp this
variable{U:aF}
theorem Jf{l:List az}(h:zA U l=ae):l=[.ref U,.type "object"]:=by
 refine cN (bR h) λa a9 aa=>ct a9 λv a9 GB=>cN (bR (bB h)) λt bf af=>ct bf λw bf Xt=>?_;obtain cB:=bB (bB h);clear h;induction l using es with
 |nil=>exact bM a9
 |cons x l=>
  induction l using es with
  |nil=>exact bM bf
  |cons y l=>
   induction l using es with
   |cons _ _=>exact c7 cB
   |nil=>exact G (c0 a9) (G (c0 bf) (G (Jw GB) (G (Sk Xt) (G (d2 aa) (G (beq_iff_eq.mp af) rfl)))))
theorem aaL{x:Option (Option az)}(h:vM x=ae):x=C none:=cN h λa e q=>by exact G e (G (nM.mp q) rfl)
variable{K:b7}{cd:ClassData}{bE:az}{fZ:Option aF}
section
theorem F_(h:xU K U=C cd):∃bE fZ de,K.lookup U=C ⟨bE,fZ,.cls cd,de⟩:=ct h λo e q=>(DM o.cls o.dict o.slots (G e (G (bV (MZ q)) rfl)))
theorem GZ{de:Array (Option az)}(h:K.lookup U=C ⟨bE,fZ,.cls cd,de⟩):kn K (.ref U) x=xg K x cd.mro/\ownIn K x (.ref U)=lH K cd.ns x/\clsIn K U=C cd:=by unfold kn ownIn clsIn;dsimp only;exact G h (fi rfl rfl rfl)
theorem Mf{c:az}{r:List az}{v:az}(h:ownIn K x c=C (C v)):xg K x (c::r)=C (C v):=by show(match ownIn K x c with|some (some v)=>C (C v)|some none=>xg K x r|none=>none)=_;exact G h rfl
theorem Me{c:az}{r:List az}(h:ownIn K x c=C none):xg K x (c::r)=xg K x r:=by show(match ownIn K x c with|some (some v)=>C (C v)|some none=>xg K x r|none=>none)=_;exact G h rfl
theorem BA{r:Option az}(h:xU K U=C cd)(hm:zA U cd.mro=ae)(aN:vM (pe K cd.ns x)=ae)(bw:w8 "object" x=r):kn K (.ref U) x=C r:=by
 refine wc (F_ h) λbE fZ de h=>fO (GZ (x:=x) h) λaa af I=>?_;(refine G aa (G (Jf hm) (G (Me (af.trans ((C3 ..).symm.trans (aaL aN)))) ?_)));induction r using b3 with
 |some v=>exact Mf (congrArg C bw)
 |none=>exact Me (congrArg C bw)
structure EF(K:b7)(U:aF):Prop where
 hd:hasDictIn K U=ae
 po:plainOver K U=ae
 ga:kn K (.ref U) "__getattribute__"=C (C (.builtin "object.__getattribute__"))
 r7:kn K (.ref U) "__setattr__"=C (C (.builtin "object.__setattr__"))
 gt:kn K (.ref U) "__getattr__"=C none
theorem acP:w8 "object" "__getattribute__"=C (.builtin "object.__getattribute__"):=by kernel_rfl
theorem acR:w8 "object" "__setattr__"=C (.builtin "object.__setattr__"):=by kernel_rfl
theorem acQ:w8 "object" "__getattr__"=none:=by kernel_rfl
theorem M3(h:Ga K U=ae):EF K U:=cN h λcd bb h=>by
 refine wc (F_ bb) λI I I q=>?_;have e:=(GZ (x:="") q).2.2;refine⟨by unfold hasDictIn;exact G e (bR h),by unfold plainOver;refine G e ?_;show onlyObject cd.mro=ae;refine G (Jf (bR (bB h))) ?_;rfl,?_,?_,?_⟩
 .exact BA bb (bR (bB h)) (bR (bB (bB h))) acP
 .exact BA bb (bR (bB h)) (bR (bB (bB (bB h)))) acR
 .exact BA bb (bR (bB h)) (bB (bB (bB (bB h)))) acQ
theorem Mm(h:attrOk K U x=ae):kn K (.ref U) x=C none/\EF K U:=cN h λI bb h=>
 ⟨BA bb (bR (bB (bB h))) (bR (bB h)) (acO (bR h)),M3 (bB (bB (bB h)))⟩
theorem Qo{v:az}(h:ze K U x=C (C v)):kn K (.ref U) x=C (C v):=ct h λcd bb h=>ct h λa e h=>ct e λw e cq=>by
 refine wc (F_ bb) λI I I q=>fO (GZ (x:=x) q) λaa af I=>?_;generalize aB:cv a U=aD;induction aD using bZ with
 |false=>rw[aB] at h;exact bM h
 |true=>
  rw[aB] at h;refine ct h λy bS h=>?_;induction y using b3 with
  |none=>exact bM h
  |some gA=>
   (obtain J:=aT h;clear h;obtain bT:=aT J;clear J;(clear h;subst bT));refine G aa ?_;generalize hm:cd.mro=aD;induction aD using es with
   |nil=>rw[hm] at e;exact bM e
   |cons y r=>rw[hm] at e;(refine G (c0 e) (G (Jw cq) (G (d2 aB) ?_)));exact Mf (af.trans ((C3 ..).symm.trans bS))
theorem aaM{c:az}(h:yS c=ae):c=.type "type":=cN h λt e q=>by exact G (Sk e) (G (beq_iff_eq.mp q) rfl)
theorem agr:kn K (.type "type") "__call__"=C (C (.builtin "type.__call__")):=by show fastLookup "type" "__call__"=_;kernel_rfl
theorem Sl{a:aF}{o:cY}(h:K.lookup a=C o)(bb:yS o.cls=ae):typeIn K (.ref a)=C (.type "type")/\specialIn K (.ref a) "__call__"=C (C (.builtin "type.__call__")):=by
 have e:typeIn K (.ref a)=C (.type "type"):=by unfold typeIn;show(K.lookup a).map (·.cls)=_;exact G h (G (nR _ _) (G (aaM bb) rfl))
 exact⟨e,by unfold specialIn;exact G e (agr (K:=K))⟩
theorem PE{a:aF}(h:It K a=ae):sE K (.ref a)=true:=cN h λo e h=>by
 unfold sE;obtain(⟨c,d,data,de⟩):=o;dsimp only;refine G e ?_;induction data using Ae with
 |func f=>rfl
 |cls cd=>dsimp only;exact G (Sl e (bB (show(cv 8 8&&yS c)=ae from h))).2 (beq_self_eq_true _)
 |_=>exact c7 h
theorem ags:subIn K (.type "type") (.type "type")=C true:=by kernel_rfl
theorem abS(h:IW K U=ae):makesIn K U=true:=cN h λo e h=>cN h λcd hd h=>by
 obtain(⟨c,d,data,de⟩):=o;cases MZ hd;unfold makesIn;refine G e ?_;dsimp only at h ⊢;refine a3 (Sl e (bR h)) λt1 jh=>?_;obtain gZ:instIn K (.ref U) (.type "type")=C true:=by unfold instIn;exact G t1 (ags (K:=K))
 obtain i9:(de.toList[4]?).join=C (.builtin "object.__new__"):=cN (bR (bB (bB (bB h)))) λi q p=>ct q λv q en=>by exact G q (G (V5 en) (G (beq_iff_eq.mp p) rfl))
 (refine G (bR (bB h)) (G (bR (bB (bB h))) (G jh (G gZ (G i9 (G (Jf (bB (bB (bB (bB h))))) ?_))))));simp
end
structure cI where
 scope:pG
 cells:List (aO×Nat)
 dep:Nat
structure fc where
 ev:cI->bj->M V
 eM:cI->bj->M Bool
 ca:Nat->V->List V->M V
 xs:cI->List eO->M di
 kB:cI->bj->Nat->List eO->M di
 dJ:cI->bj->List eO->M di
 cl:cI->bj->Nat->Nat->Nat->M Unit
noncomputable def kR(f6:Loc)(m:M aV):M aV:=λst=>match m {st with loc:=f6} with
 |.fail n=>.fail n
 |.ok a bk=>.ok a {bk with loc:=st.loc}
 |.ex bk=>.ex {bk with loc:=st.loc}
noncomputable def tv(x:aO):M V:=λst=>match ed x st.loc with
 |some v=>.ok v st
 |none=>.fail 3
noncomputable def RQ(x:aO)(v:V):M Unit:=λst=>.ok () {st with loc:=ny x v st.loc}
noncomputable def guard(k:Nat)(b:Bool):M Unit:=match b with
 |true=>M.pure ()
 |false=>fail k
noncomputable def V.du:V->Option Nat
 |.r n=>C n
 |_=>none
noncomputable def V.aC:V->Option bo
 |.i e=>C e
 |_=>none
noncomputable def V.ck:V->Option ag
 |.s e=>C e
 |_=>none
noncomputable def V.aj:V->Option az
 |.c v=>C v
 |_=>none
noncomputable def O.rS:O->Option (aF×List (aO×V))
 |.inst U dG=>C (U,dG)
 |_=>none
noncomputable def O.kG:O->Option (List V)
 |.list xs=>C xs
 |_=>none
noncomputable def O.Sg:O->Option (List V)
 |.tup xs=>C xs
 |_=>none
noncomputable def O.i_:O->Option (List (ag×V)×Option (List ag))
 |.dict ar op=>C (ar,op)
 |_=>none
noncomputable def O.C0(o:O):Bool:=o.i_.any λq=>q.1.isEmpty&&q.2.isNone
noncomputable def O.rz:O->Option (Option V)
 |.cell v=>C v
 |_=>none
noncomputable def iD:List aV->Option aV
 |[]=>none
 |x::r=>match r with
  |[]=>C x
  |_::_=>none
noncomputable def ow:List aV->Option (aV×aV)
 |[]=>none
 |x::r=>(iD r).map λy=>(x,y)
noncomputable def kJ:List aV->Option Unit
 |[]=>C ()
 |_::_=>none
noncomputable def litOf:bo->Option Int
 |.lit c=>C c
 |.aL ..=>none
noncomputable def isRef(n:Nat):az->Bool
 |.ref a=>cv a n
 |_=>ai
noncomputable def O.zQ:O->Option (List V)
 |.list xs=>C xs
 |.tup xs=>C xs
 |_=>none
noncomputable def O.vV:O->Option (Nat×List V)
 |.iQ k xs=>C (k,xs)
 |_=>none
noncomputable def O.tQ:O->Option (Nat×Nat)
 |.jx n j=>C (n,j)
 |_=>none
noncomputable def yQ:az->Bool
 |.none=>ae
 |_=>ai
noncomputable def Ic(v:V):Bool:=match v.aj with
 |some v=>yQ v
 |none=>ai
noncomputable def nat?:Int->Option Nat
 |.ofNat n=>C n
 |.negSucc _=>none
noncomputable def u4:bo->Option (Nat×Nat)
 |.lit _=>none
 |.aL c neg v=>match neg with
  |true=>none
  |false=>(nat? c).map λd=>(d,v)
noncomputable def pa(v:V):Option Nat:=v.aC.bind λe=>(litOf e).bind nat?
noncomputable def A1(v:V):Option (Nat×Nat):=v.aC.bind u4
noncomputable def Sf(o:cY):Option (List az):=match o.cls with
 |.type t=>(match o.data with
  |.seq g6 _=>(match t=="tuple" with
   |true=>C g6.toList
   |false=>none)
  |_=>none)
 |_=>none
noncomputable def tupK(K:b7)(v:az):Option (List az):=match v with
 |.ref a=>(K.lookup a).bind Sf
 |_=>none
noncomputable def fR(k n:Nat)(f:O->Option aV):M aV:=(load n).bind λo=>bp k (f o)
noncomputable def k3(x:aO):List (aO×Nat)->Option Nat
 |[]=>none
 |e::r=>match eqs e.1 x with
  |true=>C e.2
  |false=>k3 x r
theorem F1(x:aO)(e:aO×Nat)(r:List (aO×Nat)):k3 x (e::r)=match eqs e.1 x with|true=>C e.2|false=>k3 x r:=rfl
noncomputable def ab5(l:bz):Str:=⟨l.toArray⟩
noncomputable def FX(x:aO):Option Value:=
 match eqs x "len" with
 |true=>C (.builtin "len")
 |false=>match eqs x "range" with
  |true=>C (.type "range")
  |false=>match eqs x "str" with
   |true=>C (.type "str")
   |false=>match eqs x "list" with
    |true=>C (.type "list")
    |false=>none
noncomputable def Dj(x:aO):Bool:=match x.cps.toList with
 |a::b::_=>(match cv a 95 with
  |true=>(match cv b 95 with|true=>ai|false=>ae)
  |false=>ae)
 |_=>ae
noncomputable def cellGet(ab:cI)(x:aO):M V:=(bp 5 (k3 x ab.cells)).bind λn=>(fR 6 n O.rz).bind λv=>bp 6 v
noncomputable def YT(K:b7)(x:aO):M V:=(bp 8 (pe K ik x)).bind λv=>match v with
 |some v=>M.pure (wg v)
 |none=>(bp 7 (FX x)).bind λv=>M.pure (.c v)
noncomputable def nc(K:b7)(ab:cI)(x:aO):M V:=(guard 9 (Dj x)).bind λI=>(bp 9 (gR x ab.scope.names)).bind λk=>match k with
 |.local=>tv x
 |.cell=>cellGet ab x
 |.free=>cellGet ab x
 |.globalImplicit=>YT K x
 |_=>fail 9
noncomputable def jf(ab:cI)(x:aO)(v:V):M Unit:=(bp 10 (gR x ab.scope.names)).bind λk=>match k with
 |.local=>RQ x v
 |.cell=>(bp 5 (k3 x ab.cells)).bind λn=>(fR 6 n O.rz).bind λI=>store n (.cell (C v))
 |_=>fail 10
noncomputable def QQ:V->Bool
 |.c (.builtin _)=>ai
 |.u=>ai
 |_=>ae
noncomputable def rG(K:b7)(v:V)(x:aO):M V:=(bp 15 v.du).bind λn=>(fR 14 n O.rS).bind λp=>(guard 12 (attrOk K p.1 x)).bind λI=>(bp 11 (ed x p.2)).bind λu=>(guard 13 (QQ u)).bind λI=>M.pure u
noncomputable def setAt(K:b7)(v:V)(x:aO)(y:V):M Unit:=(bp 18 v.du).bind λn=>(fR 17 n O.rS).bind λp=>(guard 16 (attrOk K p.1 x&&eQ p.2.length 1000)).bind λI=>store n (.inst p.1 (ny x y p.2))
noncomputable def truthy(v:V):M Bool:=match v with
 |.c (.bool b)=>M.pure b
 |.c .none=>M.pure ai
 |_=>fail 20
noncomputable def z1(b:Bool):V:=.c (.bool b)
noncomputable def nF:V:=.c .none
noncomputable def ib(n:Nat)(f:List b5->List bz->Option aV):M aV:=λst=>match f st.au st.aE with
 |some a=>.ok a st
 |none=>.fail n
noncomputable def QL:az->Option Bool
 |.none=>C ae
 |.bool _=>C ai
 |.ref _=>C ai
 |_=>none
noncomputable def isNone:V->Option Bool
 |.c v=>QL v
 |.u=>none
 |_=>C ai
noncomputable def A3(au:List b5)(aE:List bz)(x:V):List V->Option Bool
 |[]=>C ai
 |y::r=>match XO au aE y x with
  |some true=>C ae
  |some false=>A3 au aE x r
  |none=>none
noncomputable def u6:List V->Bool
 |[]=>ae
 |.s _::r=>u6 r
 |_::_=>ai
noncomputable def P0(au:List b5)(aE:List bz):List V->List V->Option Bool
 |[],aH=>C aH.isEmpty
 |x::xs,aH=>match aH with
  |[]=>C ai
  |y::aH=>(kJ xs).bind λI=>(kJ aH).bind λI=>x.ck.bind λa=>y.ck.bind λb=>ag.eq au aE 400 a b
noncomputable def GS(K:b7)(a b:V):M Bool:=match a with
 |.i x=>(bp 24 b.aC).bind λy=>ib 24 λau I=>bo.eq au x y
 |.s x=>(bp 25 b.ck).bind λy=>ib 25 λau aE=>ag.eq au aE 400 x y
 |.r n=>(bp 29 b.du).bind λm=>(fR 28 n O.kG).bind λxs=>(fR 27 m O.kG).bind λaH=>ib 26 λau aE=>P0 au aE xs aH
 |_=>fail 29
noncomputable def among(x:ag)(xs:List V):M Bool:=(guard 33 (u6 xs)).bind λI=>ib 33 λau aE=>A3 au aE (.s x) xs
noncomputable def m9(k:Nat)(e:ag)(p:List (ag×V)×Option (List ag)):M (Option (Nat×V)):=ib k λau aE=>look au aE e p.1 p.2
noncomputable def H7(K:b7)(a b:V):M Bool:=(bp 36 a.ck).bind λx=>match b with
 |.s y=>(bp 30 (ag.kd x)).bind λl=>ib 31 λI aE=>ag.has aE l y
 |.r n=>(load n).bind λo=>(match o.i_ with
  |some p=>(m9 32 x p).bind λr=>M.pure r.isSome
  |none=>(bp 34 o.zQ).bind λxs=>among x xs)
 |.c v=>(bp 35 (tupK K v)).bind λl=>among x (l.map wg)
 |_=>fail 36
noncomputable def y9(a b:V):M Bool:=(bp 38 a.aC).bind λx=>(bp 38 b.aC).bind λy=>ib 37 λau I=>bo.lt au x y
noncomputable def cmp(K:b7)(op:oC)(a b:V):M Bool:=match op with
 |.Eq=>GS K a b
 |.NotEq=>(GS K a b).bind λt=>M.pure (!t)
 |.Lt=>y9 a b
 |.LtE=>(y9 b a).bind λt=>M.pure (!t)
 |.Gt=>y9 b a
 |.GtE=>(y9 a b).bind λt=>M.pure (!t)
 |.Is=>(guard 40 (Ic b)).bind λI=>bp 39 (isNone a)
 |.IsNot=>(guard 40 (Ic b)).bind λI=>(bp 39 (isNone a)).bind λt=>M.pure (!t)
 |.In=>H7 K a b
 |.NotIn=>(H7 K a b).bind λt=>M.pure (!t)
noncomputable def o1(x:Option bo):M V:=(bp 41 x).bind λz=>M.pure (.i z)
noncomputable def tY(xs:List V):M V:=(alloc (.list xs)).bind λk=>M.pure (.r k)
noncomputable def rU(n m:Nat)(f:List V->List V->M V):M V:=(fR 44 n O.kG).bind λxs=>(fR 43 m O.kG).bind λaH=>(guard 43 (dw (xs.length+aH.length) 4000)).bind λI=>f xs aH
noncomputable def v7(a b:V)(ok:Nat->Bool)(f:Nat->Nat->Nat):M V:=(bp 49 (pa a)).bind λx=>(bp 49 (pa b)).bind λy=>(guard 49 (dw x 100000&&(dw y 100000&&ok y))).bind λI=>M.pure (.i (.lit (.ofNat (f x y))))
noncomputable def binop(op:pF)(a b:V):M V:=match op with
 |.Add=>(match a with
  |.i x=>(bp 41 b.aC).bind λy=>o1 (bo.add x y)
  |.s x=>(bp 45 b.ck).bind λy=>(ib 48 λau I=>ag.fits au x y).bind λI=>M.pure (.s (ag.cat x y))
  |.r n=>(bp 45 b.du).bind λm=>rU n m λxs aH=>tY (xs++aH)
  |_=>fail 45)
 |.Sub=>(bp 42 a.aC).bind λx=>(bp 42 b.aC).bind λy=>o1 (bo.sub x y)
 |.Mult=>v7 a b (λI=>ae) λx y=>x*y
 |.FloorDiv=>v7 a b (dw 1) λx y=>x/y
 |_=>fail 45
noncomputable def inplace(op:pF)(a b:V):M V:=match op with
 |.Add=>(match a with
  |.i x=>(bp 41 b.aC).bind λy=>o1 (bo.add x y)
  |.r n=>(bp 45 b.du).bind λm=>rU n m λxs aH=>(store n (.list (xs++aH))).bind λI=>M.pure (.r n)
  |_=>fail 47)
 |.Sub=>(bp 42 a.aC).bind λx=>(bp 42 b.aC).bind λy=>o1 (bo.sub x y)
 |_=>fail 47
noncomputable def cG:List aV->Nat->Option aV
 |[],_=>none
 |x::r,i=>match cv i 0 with
  |true=>C x
  |false=>cG r (i-1)
noncomputable def JI(xs:List V)(c:Int):Option V:=match c with
 |.ofNat i=>(match dw i 4000 with
  |true=>cG xs i
  |false=>none)
 |.negSucc i=>(match eQ i xs.length&&dw i 4000 with
  |true=>cG xs (xs.length-(i+1))
  |false=>none)
noncomputable def P2(l:bz)(c:Int):Option V:=(nat? c).bind λi=>match dw i 4000 with
 |true=>(cG l i).map λx=>.s [.lit [x]]
 |false=>none
noncomputable def itemAt(xs:List V)(e:bo):M V:=(bp 50 (litOf e)).bind λc=>bp 51 (JI xs c)
noncomputable def Ii(n:Nat)(e:ag):M V:=(fR 55 n O.i_).bind λp=>(m9 53 e p).bind λr=>(bp 54 r).bind λp=>M.pure p.2
noncomputable def layAt:Nat:=281
noncomputable def item(K:b7)(o i:V):M V:=match i with
 |.i e=>(match o with
  |.r n=>(fR 52 n O.zQ).bind λxs=>itemAt xs e
  |.s x=>(bp 56 (ag.kd x)).bind λl=>(bp 57 (litOf e)).bind λc=>bp 58 (P2 l c)
  |.c v=>(bp 62 (tupK K v)).bind λl=>itemAt (l.map wg) e
  |_=>fail 61)
 |.s e=>(match o with
  |.r n=>Ii n e
  |.c v=>(guard 60 (isRef layAt v)).bind λI=>(bp 59 (ag.kd e)).bind λl=>(bp 60 (pe K layAt (ab5 l))).bind λv=>(bp 60 v).bind λv=>M.pure (wg v)
  |_=>fail 61)
 |_=>fail 61
noncomputable def Jp(k:ag)(v:V)(ar:List (ag×V))(op:Option (List ag)):Option (Nat×V)->O
 |some p=>.dict (ar.modify p.1 λq=>(q.1,v)) op
 |none=>.dict (ar++ [(k,v)]) op
noncomputable def putD(n:Nat)(e:ag)(v:V):M Unit:=(fR 64 n O.i_).bind λp=>(guard 64 (dw p.1.length 4000)).bind λI=>(m9 62 e p).bind λr=>store n (Jp e v p.1 p.2 r)
noncomputable def OA(au:List b5)(x1:Nat×Nat):Option Nat:=(au[x1.2]?).bind λb=>match ltI b.1 0 with
 |true=>none
 |false=>b.2.2.map λt=>t+x1.1
noncomputable def Rn(n:Nat)(p:Nat×Nat)(v:V):M Unit:=(bp 63 (A1 v)).bind λx1=>(guard 63 (dw p.1 4000)).bind λI=>(ib 63 λau I=>OA au x1).bind λt=>store n (.jx (p.1+1) (Nat.max p.2 t))
noncomputable def setItem(o k v:V):M Unit:=(bp 65 o.du).bind λn=>(bp 65 k.ck).bind λe=>(load n).bind λo=>match o.tQ with
 |some p=>Rn n p v
 |none=>putD n e v
noncomputable def JL(o:V)(i:V):M V:=(bp 71 o.du).bind λn=>match A1 i with
 |some oS=>(fR 68 n O.vV).bind λp=>(guard 67 (cv p.1 oS.2&&(dw oS.1 p.2.length&&dw p.2.length 4000))).bind λI=>tY (p.2.drop oS.1)
 |none=>(bp 71 (pa i)).bind λd=>(fR 70 n O.kG).bind λxs=>(guard 69 (dw d xs.length&&dw xs.length 4000)).bind λI=>tY (xs.drop d)
noncomputable def JK(o:V)(i:V):M V:=(bp 73 o.ck).bind λe=>(bp 73 (pa i)).bind λn=>(guard 73 (cv n 1)).bind λI=>(bp 72 (ag.first e)).bind λf=>M.pure (.s f)
noncomputable def lenOf(v:V):M V:=(bp 81 v.du).bind λn=>(load n).bind λo=>match o with
 |.list xs=>(guard 80 (dw xs.length 100000)).bind λI=>M.pure (.i (.lit xs.length))
 |.dict ar op=>(bp 80 (kJ ar)).bind λI=>(match op with
  |none=>M.pure (.i (.lit 0))
  |some _=>fail 80)
 |.iQ k xs=>(guard 80 (dw xs.length 4000)).bind λI=>M.pure (.i (.aL xs.length ai k))
 |_=>fail 80
noncomputable def JN(e:bo):ag:=match(litOf e).bind nat? with
 |some n=>[.lit (cs (bO (sv n)))]
 |none=>[.dec e]
noncomputable def strOf(v:V):M V:=(bp 84 v.aC).bind λe=>(ib 83 λau I=>(match bo.small au e with|true=>C ()|false=>none)).bind λI=>M.pure (.s (JN e))
noncomputable def Rx(v:V):M V:=(bp 85 (pa v)).bind λn=>(guard 85 (dw n 4000)).bind λI=>(alloc (.qE n)).bind λk=>M.pure (.r k)
noncomputable def FY(f:az)(aK:List V):M V:=match f with
 |.builtin i=>(bp 88 (iD aK)).bind λv=>(guard 86 (i=="len")).bind λI=>lenOf v
 |.type t=>(bp 88 (iD aK)).bind λv=>(match t=="str" with
  |true=>strOf v
  |false=>(guard 87 (t=="range")).bind λI=>Rx v)
 |_=>fail 88
noncomputable def qv(names:List (aO×hl)):List (aO×V)->Loc
 |[]=>[]
 |e::r=>match gR e.1 names with
  |some .local=>e::qv names r
  |_=>qv names r
noncomputable def vT(binds:List (aO×V)):List (aO×hl)->List (aO×Nat)->M (List (aO×Nat))
 |[],acc=>M.pure acc
 |e::r,acc=>match e.2 with
  |.cell=>(alloc (.cell (ed e.1 binds))).bind λn=>vT binds r ((e.1,n)::acc)
  |_=>vT binds r acc
noncomputable def PL(names:List (aO×hl))(ar:List (aO×V)):Bool:=ar.all λe=>(gR e.1 names).any λk=>dw k.ctorIdx 1
noncomputable def isFun:ScopeKind->Bool
 |.function=>ae
 |_=>ai
noncomputable def oi:List aO->Bool
 |[]=>ae
 |x::r=>r.all (λy=>!eqs x y)&&oi r
theorem acC(x:aO)(r:List aO):oi (x::r)=(r.all (λy=>!eqs x y)&&oi r):=rfl
noncomputable def qB(s:pG):Bool:=isFun s.kind&&!s.isGenerator&&!s.isCoroutine&&oi (s.names.map (·.1))
noncomputable def IY:Nat:=300
noncomputable def I7:Option aV->Option Unit
 |none=>C ()
 |some _=>none
noncomputable def Mx:FuncBody->Option (List eO)
 |.stmts b=>C b
 |.expr _=>none
noncomputable def Rg(p:Arguments):Option (List Arg):=(kJ p.posonlyargs).bind λI=>(I7 p.vararg).bind λI=>(kJ p.kwonlyargs).bind λI=>(I7 p.kwarg).bind λI=>C p.args
noncomputable def t9:di->Option V
 |.ret v=>C v
 |.next=>C nF
 |_=>none
noncomputable def MG(aG:fc)(K:b7)(dep:Nat)(fd:FuncData)(aK:List V):M V:=
 (guard 94 (qB fd.scope&&codeIn K fd.code fd.qualname&&eQ dep IY&&yQ fd.defaults&&cv fd.globals ik&&cv fd.builtins nI)).bind λI=>
 (bp 94 (Mx fd.body)).bind λbody=>(bp 94 (Rg fd.params)).bind λas=>(bp 94 (kJ fd.closure)).bind λI=>
 (guard 93 (cv as.length aK.length&&oi (as.map (·.arg))&&PL fd.scope.names ((as.map (·.arg)).zip aK))).bind λI=>
 (vT ((as.map (·.arg)).zip aK) fd.scope.names []).bind λcells=>
 (kR (qv fd.scope.names ((as.map (·.arg)).zip aK)) (aG.xs ⟨fd.scope,cells,dep+1⟩ body)).bind λf=>bp 92 (t9 f)
noncomputable def gp(aG:fc)(K:b7)(dep:Nat)(f:V)(aK:List V):M V:=match f with
 |.c (.ref a)=>match K.lookup a with
  |none=>fail 98
  |some o=>match o.data with
   |.func fd=>MG aG K dep fd aK
   |.cls _=>match IW K a&&eQ dep IY with
    |true=>match((ze K a "__init__").bind λy=>y.bind zJ) with
     |some f=>(match isFn K (.ref f) with
      |true=>(alloc (.inst a [])).bind λn=>(aG.ca (dep+1) (.c (.ref f)) (.r n::aK)).bind λ
       |.c .none=>M.pure (.r n)
       |_=>fail 95
      |false=>fail 96)
     |none=>fail 97
    |false=>fail 97
   |_=>fail 98
 |_=>fail 99
noncomputable def isStar(e:bj):Bool:=cv e.ctorIdx 22
noncomputable def n7(aG:fc)(ab:cI):List bj->M (List V)
 |[]=>M.pure []
 |e::r=>match isStar e with
  |true=>fail 118
  |false=>(aG.ev ab e).bind λv=>(n7 aG ab r).bind λaK=>M.pure (v::aK)
noncomputable def mA:List bj->Bool
 |[]=>ae
 |e::r=>match isStar e with
  |true=>ai
  |false=>mA r
theorem acv(e:bj)(r:List bj):mA (e::r)=match isStar e with|true=>ai|false=>mA r:=rfl
noncomputable def p8(k:Nat)(e:bj)(f:e.ctorIdx=k->Option aV):Option aV:=match h:cv e.ctorIdx k with
 |true=>f (d2 h)
 |false=>none
noncomputable def kI(e:bj):Option (aO×cn):=p8 23 e λh=>Km e h λx p=>C (x,p)
noncomputable def u9(e:bj):Option (bj×aO×cn):=p8 20 e λh=>Kg e h λo x p=>C (o,x,p)
noncomputable def M4(e:bj):Option (bj×List oC×List bj×cn):=p8 15 e λh=>Ki e h λl o r p=>C (l,o,r,p)
noncomputable def Bc(e:bj):Option (bj×List bj×List Keyword×cn):=p8 16 e λh=>Kn e h λf as ks p=>C (f,as,ks,p)
noncomputable def xX(e:bj):Option (Const×Nat×cn):=p8 19 e λh=>Kh e h λc k p=>C (c,k,p)
noncomputable def DE(e:bj):Option (List bj×Nat×cn):=p8 25 e λh=>Kj e h λcm k p=>C (cm,k,p)
noncomputable def Dz(e:bj):Option (Option bj×Option bj×Option bj×cn):=p8 26 e λh=>Kk e h λa b d p=>C (a,b,d,p)
noncomputable def zE(e:bj):Bool:=!((Bc e).any λw=>(kI w.1).isSome&&(w.2.1.isEmpty&&w.2.2.1.isEmpty))
noncomputable def isSet(e:bj):Bool:=cv e.ctorIdx 7
inductive m1 where
 |fn (f:Addr)
 |append|extend|get|zR
noncomputable def m1.ctorIdx(x:m1):Nat:=m1.casesOn x (λI=>0) 1 2 3 4
noncomputable def Jx:az->Option aF
 |.ref a=>C a
 |_=>none
noncomputable def y3(x:aO):Option m1:=match eqs x "append" with
 |true=>C .append
 |false=>match eqs x "extend" with
  |true=>C .extend
  |false=>none
noncomputable def x5(x:aO):Option m1:=match eqs x "get" with
 |true=>C .get
 |false=>match eqs x "setdefault" with
  |true=>C .zR
  |false=>none
noncomputable def Qp(K:b7)(v:V)(x:aO):M m1:=(bp 105 v.du).bind λn=>(load n).bind λo=>match o with
 |.inst U dG=>(guard 101 (Ga K U&&(ed x dG).isNone)).bind λI=>(bp 101 (ze K U x)).bind λw=>(bp 101 w).bind λf=>(bp 101 (Jx f)).bind λf=>(guard 100 (isFn K (.ref f)&&It K f)).bind λI=>M.pure (.fn f)
 |.list _=>bp 102 (y3 x)
 |.iQ _ _=>bp 102 (y3 x)
 |.dict _ _=>bp 103 (x5 x)
 |.jx _ _=>bp 103 (x5 x)
 |_=>fail 104
noncomputable def vc:Int:=1000000
noncomputable def CT(j:Nat):M bo:=λst=>match dw j 100000 with
 |true=>.ok (.aL 0 ai st.au.length) {st with au:=st.au++ [(0,vc,C j)]}
 |false=>.fail 117
noncomputable def Mk(n:Nat)(v:V):M V:=(load n).bind λo=>match o with
 |.list xs=>(guard 106 (dw xs.length 4000)).bind λI=>(store n (.list (xs++ [v]))).bind λI=>M.pure nF
 |.iQ k xs=>(guard 106 (dw xs.length 4000)).bind λI=>(store n (.iQ k (xs++ [v]))).bind λI=>M.pure nF
 |_=>fail 106
noncomputable def N1(n m:Nat):M V:=(guard 107 (!Nat.beq n m)).bind λI=>rU n m λxs aH=>(store n (.list (xs++aH))).bind λI=>M.pure nF
noncomputable def Oi(d:V):Option (Nat×V)->V
 |some p=>p.2
 |none=>d
noncomputable def YN(j:Nat)(d:V):M V:=(bp 111 (pa d)).bind λz=>(guard 111 (cv z 0)).bind λI=>(CT j).bind λe=>M.pure (.i e)
noncomputable def Hb(n:Nat)(e:ag)(d:V):M V:=(load n).bind λo=>match o.tQ with
 |some p=>YN p.2 d
 |none=>(fR 112 n O.i_).bind λp=>(m9 110 e p).bind λr=>M.pure (Oi d r)
noncomputable def RO(n:Nat)(e:ag)(d:V):M V:=(fR 115 n O.i_).bind λp=>(guard 115 (dw p.1.length 4000)).bind λI=>(m9 114 e p).bind λr=>match r with
 |some p=>M.pure p.2
 |none=>(store n (Jp e d p.1 p.2 none)).bind λI=>M.pure d
noncomputable def MH(aG:fc)(K:b7)(dep:Nat)(m:m1)(self:V)(aK:List V):M V:=match m with
 |.fn f=>aG.ca dep (.c (.ref f)) (self::aK)
 |.append=>(bp 116 self.du).bind λn=>(bp 116 (iD aK)).bind λv=>Mk n v
 |.extend=>(bp 116 self.du).bind λn=>(bp 116 (iD aK)).bind λv=>(bp 116 v.du).bind λm=>N1 n m
 |.get=>(bp 116 self.du).bind λn=>(match aK with
  |[]=>fail 116
  |k::r=>(bp 116 k.ck).bind λe=>(match r with
   |[]=>Hb n e nF
   |d::r=>(bp 116 (kJ r)).bind λI=>Hb n e d))
 |.zR=>(bp 116 self.du).bind λn=>(bp 116 (ow aK)).bind λw=>(bp 116 w.1.ck).bind λe=>RO n e w.2
noncomputable def p1(ab:cI):List bj->List V->M Unit
 |[],[]=>M.pure ()
 |t::cm,v::aK=>(bp 120 (kI t)).bind λw=>(jf ab w.1 v).bind λI=>p1 ab cm aK
 |_,_=>fail 120
noncomputable def Qy(cm:List bj):Bool:=cm.all λt=>(kI t).isSome
set_option backward.match.sparseCases false in
noncomputable def assign(aG:fc)(K:b7)(ab:cI)(t:bj)(v:V):M Unit:=match t with
 |.Name x _=>jf ab x v
 |.Attribute o x _=>(aG.ev ab o).bind λgJ=>setAt K gJ x v
 |.Subscript o i _=>(aG.ev ab o).bind λgJ=>(aG.ev ab i).bind λaC=>setItem gJ aC v
 |.Tuple cm _ _=>(match v with
  |.r n=>(load n).bind λ
   |.tup xs=>(match Qy cm&&cv cm.length xs.length&&eQ ab.dep 400 with
    |true=>p1 ab cm xs
    |false=>fail 121)
   |_=>fail 121
  |_=>fail 122)
 |_=>fail 123
noncomputable def ni(v:V):M Nat:=match v with
 |.r n=>(load n).bind λ
  |.list _=>alloc (.it n 0)
  |.tup _=>alloc (.nh n 0)
  |.qE m=>(match dw m 4000 with|true=>alloc (.itR 0 m)|false=>fail 152)
  |_=>fail 152
 |_=>fail 153
noncomputable def Gd:Const->Option V
 |.none=>C nF
 |.bool b=>C (z1 b)
 |.int i=>C (.i (.lit i))
 |.str s=>C (.s [.lit (cs s)])
 |_=>none
noncomputable def ou(own:List (aO×hl))(names:List (aO×hl)):List (aO×hl):=names.map λe=>match e.2 with
 |.free=>(match gR e.1 own with|some .cell=>(e.1,.cell)|_=>e)
 |_=>e
noncomputable def oP(cells:List (aO×Nat)):List (aO×hl)->List (aO×Nat)->Option (List (aO×Nat))
 |[],acc=>C acc
 |e::r,acc=>match e.2 with
  |.free=>(match k3 e.1 cells with|some n=>oP cells r ((e.1,n)::acc)|none=>none)
  |_=>oP cells r acc
theorem Wx(cells:List (aO×Nat))(e:aO×hl)(r:List (aO×hl))(acc:List (aO×Nat)):oP cells (e::r) acc=match e.2 with|.free=>(match k3 e.1 cells with|some n=>oP cells r ((e.1,n)::acc)|none=>none)|_=>oP cells r acc:=rfl
noncomputable def zw(s:pG):Bool:=isFun s.kind&&!s.isGenerator&&!s.isCoroutine&&oi (s.names.map (·.1))&&s.names.all λe=>match e.2 with
 |.cell=>ai
 |_=>ae
noncomputable def isIt:O->Bool
 |.it _ _=>ae
 |.nh _ _=>ae
 |.itR _ _=>ae
 |_=>ai
noncomputable def comp(aG:fc)(ab:cI)(e:bj)(gens:List uB)(scope:pG)(acc:O):M V:=match gens with
 |[]=>fail 133
 |q::_=>match zw scope&&eQ ab.dep 400&&!isSet q.iter&&kA q.is_async 0 with
  |true=>(bp 130 (oP ab.cells scope.names [])).bind λcells=>(aG.ev ab q.iter).bind λv=>(ni v).bind λn=>(alloc acc).bind λk=>(load n).bind λit=>(match isIt it with
     |true=>(kR [] (aG.cl ⟨{scope with names:=ou ab.scope.names scope.names},cells,ab.dep⟩ e 0 n k)).bind λI=>M.pure (.r k)
     |false=>fail 131)
  |false=>fail 132
noncomputable def pairs(aG:fc)(ab:cI):List (Option bj)->List bj->M (List (ag×V))
 |[],[]=>M.pure []
 |some k::ks,v::aK=>(aG.ev ab k).bind λ
  |.s e=>(aG.ev ab v).bind λw=>(pairs aG ab ks aK).bind λr=>M.pure ((e,w)::r)
  |_=>fail 134
 |_,_=>fail 135
noncomputable def tc:List (ag×V)->Bool
 |[]=>ae
 |e::r=>(match ag.kd e.1 with
  |some l=>r.all λf=>match ag.kd f.1 with|some m=>!rC l m|none=>ai
  |none=>ai)&&tc r
theorem Xj(e:ag×V)(r:List (ag×V)):tc (e::r)=((match ag.kd e.1 with|some l=>r.all λf=>(match ag.kd f.1 with|some m=>!rC l m|none=>ai)|none=>ai)&&tc r):=rfl
noncomputable def xR(aG:fc)(ab:cI)(op:BoolOp):List bj->M V
 |[]=>fail 136
 |[e]=>aG.ev ab e
 |e::r=>(aG.ev ab e).bind λv=>(truthy v).bind λt=>match op,t with
  |.And,false=>M.pure v
  |.Or,true=>M.pure v
  |_,_=>xR aG ab op r
noncomputable def JY:Nat:=314
noncomputable def wC(t:ag)(st:St):Bool:=match ag.wide st.au t with
 |some n=>dw n 900
 |none=>ai
noncomputable def afN(ab:cI)(a:az)(zX z0:ag)(y:bo):M V:=(guard 173 (isRef JY a&&eQ ab.dep 280)).bind λI=>λst=>match wC zX st&&(wC z0 st&&bo.small st.au y) with
 |true=>.ok (.s [.any st.ns]) {st with ns:=st.ns+1}
 |false=>.fail 173
noncomputable def RU(K:b7)(ab:cI)(n a9 zj f bf zk dX:aO):M V:=(nc K ab n).bind λv=>(bp 173 v.aC).bind λI=>(nc K ab a9).bind λv1=>(rG K v1 zj).bind λv=>(bp 173 v.ck).bind λzX=>
 (nc K ab f).bind λv=>(bp 173 v.aj).bind λa=>(nc K ab bf).bind λv2=>(rG K v2 zk).bind λv=>(bp 173 v.ck).bind λz0=>(nc K ab dX).bind λv=>(bp 173 v.aC).bind λy=>afN ab a zX z0 y
noncomputable def isSlice(e:bj):Bool:=cv e.ctorIdx 26
noncomputable def eq1:oC->Option Unit
 |.Eq=>C ()
 |_=>none
noncomputable def Pk:Const->Option Int
 |.int k=>C k
 |_=>none
noncomputable def DB(t b o:bj):Option (aO×aO×aO×aO×aO×aO×aO):=
 (M4 t).bind λc=>(kI c.1).bind λn=>(iD c.2.1).bind λop=>(eq1 op).bind λI=>(iD c.2.2.1).bind λk=>(xX k).bind λk=>(Pk k.1).bind λI=>
 (u9 b).bind λa=>(kI a.1).bind λa9=>(Bc o).bind λq=>(kI q.1).bind λf=>(ow q.2.1).bind λas=>(kJ q.2.2.1).bind λI=>
 (u9 as.1).bind λa2=>(kI a2.1).bind λbf=>(kI as.2).bind λdX=>C (n.1,a9.1,a.2.1,f.1,bf.1,a2.2.1,dX.1)
noncomputable def NW(aG:fc)(ab:cI)(op:UnaryOp)(x:bj):M V:=match op with
 |.Not=>(aG.ev ab x).bind λv=>(truthy v).bind λt=>M.pure (z1 (!t))
 |.USub=>(aG.ev ab x).bind λv=>(bp 141 v.aC).bind λe=>(bp 141 (litOf e)).bind λc=>M.pure (.i (.lit (-c)))
 |_=>fail 144
noncomputable def XT(aG:fc)(ab:cI)(ks:List (Option bj))(aK:List bj):M V:=match dw ks.length 15&&ks.all (·.isSome)&&cv ks.length aK.length with
 |true=>(alloc (.dict [] none)).bind λn=>(pairs aG ab ks aK).bind λar=>(load n).bind λ
  o=>match o.C0&&tc ar with
   |true=>(store n (.dict ar none)).bind λI=>M.pure (.r n)
   |false=>fail 142
 |false=>fail 142
noncomputable def NV(aG:fc)(ab:cI)(o:bj)(lo bN st:Option bj):M V:=match st with
 |some _=>fail 143
 |none=>match lo with
  |some lo=>(match bN with
   |none=>(aG.ev ab o).bind λgJ=>(aG.ev ab lo).bind λi=>JL gJ i
   |some _=>fail 143)
  |none=>(match bN with
   |some bN=>(aG.ev ab o).bind λgJ=>(aG.ev ab bN).bind λi=>JK gJ i
   |none=>fail 143)
noncomputable def MD(aG:fc)(K:b7)(ab:cI)(o:bj)(x:aO)(p:cn)(as:List bj)(q:cn):M V:=(guard 149 (zE o&&(cv p.endLine q.line&&(dw as.length 9&&mA as)))).bind λI=>(aG.ev ab o).bind λgJ=>(Qp K gJ x).bind λm=>(n7 aG ab as).bind λaK=>MH aG K ab.dep m gJ aK
noncomputable def MK(aG:fc)(K:b7)(ab:cI)(as:List bj)(f:V):M V:=(bp 99 f.aj).bind λf=>match f with
 |.ref a=>(guard 98 (It K a)).bind λI=>(n7 aG ab as).bind λaK=>aG.ca ab.dep (.c (.ref a)) aK
 |.builtin i=>(n7 aG ab as).bind λaK=>FY (.builtin i) aK
 |.type t=>(n7 aG ab as).bind λaK=>FY (.type t) aK
 |_=>fail 99
noncomputable def MJ(aG:fc)(K:b7)(ab:cI)(f:bj)(as:List bj):M V:=(guard 149 (dw as.length 9&&mA as)).bind λI=>(aG.ev ab f).bind λf=>MK aG K ab as f
set_option backward.match.sparseCases false in
noncomputable def NU(aG:fc)(K:b7)(ab:cI)(e:bj):M V:=match e with
 |.Constant c _ _=>bp 140 (Gd c)
 |.Name x _=>nc K ab x
 |.Attribute o x _=>(match zE o with
  |true=>(aG.ev ab o).bind λv=>rG K v x
  |false=>fail 147)
 |.BoolOp op ar _=>xR aG ab op ar
 |.BinOp l op r _=>(aG.ev ab l).bind λa=>(aG.ev ab r).bind λb=>binop op a b
 |.UnaryOp op x _=>NW aG ab op x
 |.IfExp t b o _=>(match DB t b o with
  |some w=>RU K ab w.1 w.2.1 w.2.2.1 w.2.2.2.1 w.2.2.2.2.1 w.2.2.2.2.2.1 w.2.2.2.2.2.2
  |none=>(aG.eM ab t).bind λc=>match c with
   |true=>aG.ev ab b
   |false=>aG.ev ab o)
 |.Compare l ops rs _=>(bp 144 (iD ops)).bind λop=>(bp 144 (iD rs)).bind λr=>(match isSet r with
  |false=>(aG.ev ab l).bind λa=>(aG.ev ab r).bind λb=>(cmp K op a b).bind λt=>M.pure (z1 t)
  |true=>fail 148)
 |.Tuple ar _ _=>(match dw ar.length 4000 with
  |true=>(n7 aG ab ar).bind λaK=>(alloc (.tup aK)).bind λn=>M.pure (.r n)
  |false=>fail 142)
 |.List ar _=>(match dw ar.length 4000 with
  |true=>(n7 aG ab ar).bind λaK=>(alloc (.list aK)).bind λn=>M.pure (.r n)
  |false=>fail 142)
 |.Dict ks aK _=>(match ks with
  |[]=>(match aK with
   |[]=>(alloc (.dict [] none)).bind λn=>M.pure (.r n)
   |_::_=>fail 142)
  |k::ks=>XT aG ab (k::ks) aK)
 |.Subscript o i _=>(match Dz i with
  |some w=>NV aG ab o w.1 w.2.1 w.2.2.1
  |none=>(match isSlice i with
   |true=>fail 143
   |false=>(aG.ev ab o).bind λgJ=>(aG.ev ab i).bind λaC=>item K gJ aC))
 |.ListComp _ gens scope _=>comp aG ab e gens scope (.list [])
 |.DictComp _ _ gens scope _=>comp aG ab e gens scope (.dict [] none)
 |.Call f as ks q=>(bp 144 (kJ ks)).bind λI=>(match u9 f with
  |some w=>MD aG K ab w.1 w.2.1 w.2.2 as q
  |none=>MJ aG K ab f as)
 |_=>fail 144
noncomputable def xJ(aG:fc)(ab:cI)(op:BoolOp):List bj->M Bool
 |[]=>M.pure (match op with|.And=>ae|.Or=>ai)
 |e::r=>(aG.eM ab e).bind λt=>match op,t with
  |.And,false=>M.pure ai
  |.Or,true=>M.pure ae
  |_,_=>xJ aG ab op r
set_option backward.match.sparseCases false in
noncomputable def Sa(aG:fc)(K:b7)(ab:cI)(e:bj):M Bool:=match e with
 |.UnaryOp op x p=>(match op with
  |.Not=>(aG.eM ab x).bind λt=>M.pure (!t)
  |op=>(aG.ev ab (.UnaryOp op x p)).bind truthy)
 |.BoolOp op ar _=>xJ aG ab op ar
 |.IfExp ..=>fail 145
 |.Compare l ops rs _=>(bp 146 (iD ops)).bind λop=>(bp 146 (iD rs)).bind λr=>(match isSet r with
  |false=>(aG.ev ab l).bind λa=>(aG.ev ab r).bind λb=>cmp K op a b
  |true=>fail 148)
 |e=>(aG.ev ab e).bind truthy
set_option backward.match.sparseCases false in
noncomputable def clauses:bj->List uB
 |.ListComp _ gens _ _=>gens
 |.DictComp _ _ gens _ _=>gens
 |_=>[]
noncomputable def dictPut(n:Nat)(k v:V):M Unit:=(bp 65 k.ck).bind λe=>putD n e v
noncomputable def emit(aG:fc)(ab:cI)(e:bj)(acc:Nat):M Unit:=match e with
 |.ListComp elt _ _ _=>(aG.ev ab elt).bind λv=>(load acc).bind λ
  |.list xs=>(match dw xs.length 4000 with|true=>store acc (.list (xs++ [v]))|false=>fail 150)
  |_=>fail 150
 |.DictComp k v _ _ _=>(aG.ev ab k).bind λdm=>(aG.ev ab v).bind λi2=>dictPut acc dm i2
 |_=>fail 151
noncomputable def yO(aG:fc)(ab:cI):List bj->M Bool
 |[]=>M.pure ae
 |c::r=>(aG.eM ab c).bind λt=>match t with
  |true=>yO aG ab r
  |false=>M.pure ai
noncomputable def nextOf(k:Nat):M (Option V):=(load k).bind λ
 |.it n i=>(load n).bind λ
  |.list xs=>(match cG xs i with
   |some v=>(store k (.it n (i+1))).bind λI=>M.pure (C v)
   |none=>(drop k).bind λI=>M.pure none)
  |_=>fail 152
 |.nh n i=>(load n).bind λ
  |.tup xs=>(match cG xs i with
   |some v=>(store k (.nh n (i+1))).bind λI=>M.pure (C v)
   |none=>(drop k).bind λI=>M.pure none)
  |_=>fail 152
 |.itR i left=>(match left with
  |0=>(drop k).bind λI=>M.pure none
  |left+1=>(store k (.itR (i+1) left)).bind λI=>M.pure (C (.i (.lit i))))
 |_=>fail 152
noncomputable def Cm(aG:fc)(ab:cI)(e:bj)(d acc:Nat):M Unit:=match cG (clauses e) (d+1) with
 |none=>emit aG ab e acc
 |some q=>match kA q.is_async 0&&!isSet q.iter with
  |true=>(aG.ev ab q.iter).bind λv=>(ni v).bind λm=>(load m).bind λit=>(match isIt it with
   |true=>aG.cl ab e (d+1) m acc
   |false=>fail 154)
  |false=>fail 154
noncomputable def F7(aG:fc)(K:b7)(ab:cI)(e:bj)(d n acc:Nat):M Unit:=match cG (clauses e) d with
 |none=>fail 155
 |some q=>match kA q.is_async 0 with
  |false=>fail 155
  |true=>(nextOf n).bind λ
   |none=>M.pure ()
   |some v=>(assign aG K ab q.target v).bind λI=>(yO aG ab q.ifs).bind λok=>(match ok with
    |false=>M.pure ()
    |true=>Cm aG ab e d acc).bind λI=>aG.cl ab e d n acc
noncomputable def PU(ab:cI)(x:aO):M V:=(bp 161 (gR x ab.scope.names)).bind λk=>match k with
 |.local=>tv x
 |.cell=>cellGet ab x
 |_=>fail 161
noncomputable def Pr(o i:V):M V:=(bp 61 o.du).bind λn=>(bp 61 i.ck).bind λe=>Ii n e
noncomputable def A4(aG:fc)(ab:cI)(op:pF)(v:bj)(old:V)(put:V->M Unit):M Unit:=(aG.ev ab v).bind λw=>(inplace op old w).bind put
set_option backward.match.sparseCases false in
noncomputable def A5(aG:fc)(K:b7)(ab:cI)(t:bj)(op:pF)(v:bj):M Unit:=match t with
 |.Name x _=>(PU ab x).bind λold=>A4 aG ab op v old (jf ab x)
 |.Attribute o x _=>(aG.ev ab o).bind λgJ=>(rG K gJ x).bind λold=>A4 aG ab op v old (setAt K gJ x)
 |.Subscript o i _=>(bp 161 (xX i)).bind λI=>(aG.ev ab o).bind λgJ=>(aG.ev ab i).bind λaC=>(Pr gJ aC).bind λold=>A4 aG ab op v old (setItem gJ aC)
 |_=>fail 161
noncomputable def Ob(aG:fc)(ab:cI)(fin:List eO):M di:=λst=>match eQ ab.dep 302 with
 |true=>(match aG.xs {ab with dep:=ab.dep+500} fin st with
  |.ok .next bk=>.ex bk
  |_=>.fail 162)
 |false=>.fail 162
noncomputable def JV(aG:fc)(ab:cI)(body fin:List eO):M di:=λst=>match aG.xs ab body st with
 |.fail n=>.fail n
 |.ex bk=>Ob aG ab fin bk
 |.ok f bk=>match aG.xs ab fin bk with
  |.ok .next qH=>.ok f qH
  |_=>.fail 163
noncomputable def Pm(x:Option hl):Bool:=x.any λk=>cv k.ctorIdx 0
noncomputable def JB(line:Nat)(names:List (aO×hl))(cm:List bj):Bool:=cm.all λt=>(kI t).any λw=>Pm (gR w.1 names)&&cv w.2.line line
noncomputable def nameOf(t:bj):Str:=((kI t).map (·.1)).getD ""
noncomputable def firstLine(cm:List bj):Nat:=((cm.head?.bind kI).map (·.2.line)).getD 0
noncomputable def DC(ab:cI)(cm aK:List bj):Bool:=
 (cv cm.length 2||Nat.beq cm.length 3)&&Nat.beq aK.length cm.length&&mA aK&&JB (firstLine cm) ab.scope.names cm&&oi (cm.map nameOf)&&!(aK.all (constantsAlone 8))&&!(aK.all (foldedForSure 8))&&Nat.blt ab.dep 400
noncomputable def R1(ab:cI)(cm:List bj)(v:V):M Unit:=match v with
 |.r n=>(load n).bind λ
  |.tup xs=>(match cv cm.length xs.length with
   |true=>p1 ab cm.reverse xs.reverse
   |false=>fail 171)
  |_=>fail 171
 |_=>fail 171
noncomputable def handled(aG:fc)(K:b7)(ab:cI)(x:aO)(aB:List eO):M di:=λst=>match eQ ab.dep 302 with
 |true=>(match nc K {ab with dep:=ab.dep+500} x st with
  |.ok (.c (.ref a)) bk=>(match cv a 128,exmOne K (.ref 128) (.ref 128) with
   |true,some true=>(match aG.xs {ab with dep:=ab.dep+500} aB bk with
    |.ok f qH=>.ok f qH
    |_=>.fail 172)
   |_,_=>.fail 172)
  |_=>.fail 172)
 |false=>.fail 172
noncomputable def JU(aG:fc)(K:b7)(ab:cI)(body:List eO)(x:aO)(aB:List eO):M di:=λst=>match aG.xs ab body st with
 |.fail n=>.fail n
 |.ex bk=>handled aG K ab x aB bk
 |.ok f bk=>.ok f bk
noncomputable def vK(e:bj):Bool:=cv e.ctorIdx 8||(Nat.beq e.ctorIdx 9||Nat.beq e.ctorIdx 10)
noncomputable def Jb(t v:bj):Bool:=cv t.ctorIdx 23||(Nat.beq t.ctorIdx 20||(Nat.beq t.ctorIdx 21||(Nat.beq t.ctorIdx 25&&!Nat.beq v.ctorIdx 25)))
noncomputable def Fo(aG:fc)(K:b7)(ab:cI)(t v:bj):M di:=(guard 170 (Jb t v&&!vK v)).bind λI=>(aG.ev ab v).bind λw=>(assign aG K ab t w).bind λI=>M.pure .next
noncomputable def Fp(aG:fc)(ab:cI)(cm aK:List bj)(eF:Nat)(dI:cn):M di:=match DC ab cm aK with
 |true=>(aG.ev ab (.Tuple aK eF dI)).bind λv=>(R1 ab cm v).bind λI=>M.pure .next
 |false=>fail 171
set_option backward.match.sparseCases false in
noncomputable def asg(aG:fc)(K:b7)(ab:cI)(t v:bj):M di:=match v with
 |.ListComp elt gens sc q=>(bp 170 (kI t)).bind λx=>(comp aG ab (.ListComp elt gens sc q) gens sc (.list [])).bind λw=>(jf ab x.1 w).bind λI=>M.pure .next
 |.DictComp k v gens sc q=>(bp 170 (kI t)).bind λx=>(comp aG ab (.DictComp k v gens sc q) gens sc (.dict [] none)).bind λw=>(jf ab x.1 w).bind λI=>M.pure .next
 |.Tuple aK eF dI=>(match DE t with
  |some w=>Fp aG ab w.1 aK eF dI
  |none=>Fo aG K ab t (.Tuple aK eF dI))
 |v=>Fo aG K ab t v
noncomputable def Ju(aG:fc)(K:b7)(ab:cI)(x:aO)(a b:bj):M di:=(guard 168 (eQ ab.dep 280&&mA [a,b])).bind λI=>(nc K ab x).bind λf=>(bp 168 f.aj).bind λf=>(guard 166 (isRef 128 f)).bind λI=>(aG.ev ab a).bind λI=>(aG.ev ab b).bind λv=>(bp 167 v.ck).bind λI=>raise
noncomputable def Rw(e:Option bj):Option (aO×cn×bj×bj×cn):=e.bind λe=>(Bc e).bind λq=>(kI q.1).bind λf=>(ow q.2.1).bind λas=>(kJ q.2.2.1).bind λI=>C (f.1,f.2,as.1,as.2,q.2.2.2)
noncomputable def OJ(h:Ec):Option (aO×cn×eO×List eO×cn):=match h with
 |.ExceptHandler ty nm b p=>match nm with
  |some _=>none
  |none=>match b with
   |[]=>none
   |b::aB=>ty.bind λe=>(kI e).bind λx=>C (x.1,x.2,b,aB,p)
noncomputable def Sd(aG:fc)(K:b7)(ab:cI)(body:List eO)(bL:List Ec)(fin:List eO):M di:=match fin with
 |f::dG=>(bp 169 (kJ bL)).bind λI=>JV aG ab body (f::dG)
 |[]=>(bp 169 (iD bL)).bind λh=>(bp 169 (OJ h)).bind λw=>JU aG K ab body w.1 (w.2.2.1::w.2.2.2.1)
set_option backward.match.sparseCases false in
noncomputable def dv(aG:fc)(K:b7)(ab:cI)(s:eO):M di:=match s with
 |.Expr e _=>(match vK e with
  |true=>fail 164
  |false=>(aG.ev ab e).bind λI=>M.pure .next)
 |.Pass _=>M.pure .next
 |.Break _=>M.pure .brk
 |.Continue _=>M.pure .cont
 |.Return o _=>(match o with
  |none=>M.pure (.ret nF)
  |some e=>(aG.ev ab e).bind λv=>M.pure (.ret v))
 |.Assign cm v _=>(bp 169 (iD cm)).bind λt=>asg aG K ab t v
 |.AugAssign t op v _=>(A5 aG K ab t op v).bind λI=>M.pure .next
 |.If t b o _=>(aG.eM ab t).bind λc=>match c with
  |true=>aG.xs ab b
  |false=>aG.xs ab o
 |.While t b o _=>(bp 169 (kJ o)).bind λI=>aG.dJ ab t b
 |.For t it b o _=>(bp 169 (kJ o)).bind λI=>(match eQ ab.dep 400&&!isSet it with
  |true=>(aG.ev ab it).bind λv=>(ni v).bind λn=>aG.kB ab t n b
  |false=>fail 165)
 |.Raise e k _=>(match k with
  |some _=>fail 169
  |none=>(bp 169 (Rw e)).bind λw=>Ju aG K ab w.1 w.2.2.1 w.2.2.2.1)
 |.Try body bL o fin _=>(bp 169 (kJ o)).bind λI=>Sd aG K ab body bL fin
 |_=>fail 169
noncomputable def S0(aG:fc)(K:b7)(ab:cI):List eO->M di
 |[]=>M.pure .next
 |s::r=>(dv aG K ab s).bind λ
  |.next=>aG.xs ab r
  |f=>M.pure f
noncomputable def G2(aG:fc)(K:b7)(ab:cI)(t:bj)(n:Nat)(b:List eO):M di:=(nextOf n).bind λ
 |none=>M.pure .next
 |some v=>(assign aG K ab t v).bind λI=>(aG.xs ab b).bind λ
  |.next=>aG.kB ab t n b
  |.cont=>aG.kB ab t n b
  |.brk=>M.pure .next
  |.ret v=>M.pure (.ret v)
noncomputable def Kc(aG:fc)(ab:cI)(t:bj)(b:List eO):M di:=(aG.eM ab t).bind λc=>match c with
 |true=>(aG.xs ab b).bind λ
  |.next=>aG.dJ ab t b
  |.cont=>aG.dJ ab t b
  |.brk=>M.pure .next
  |.ret v=>M.pure (.ret v)
 |false=>M.pure .next
noncomputable abbrev gW:=Nat->V->List V->St->Option (Out V)
noncomputable def step(K:b7)(H:gW)(aG:fc):fc where
 ev:=NU aG K
 eM:=Sa aG K
 ca:=λdep f aK st=>match H dep f aK st with
  |some o=>o
  |none=>gp aG K dep f aK st
 xs:=S0 aG K
 kB:=G2 aG K
 dJ:=Kc aG
 cl:=F7 aG K
noncomputable def ep(K:b7)(H:gW):Nat->fc
 |0=>⟨λI I=>fail 0,λI I=>fail 0,λI I I=>fail 0,λI I=>fail 0,λI I I I=>fail 0,λI I I=>fail 0,λI I I I I=>fail 0⟩
 |n+1=>step K H (ep K H n)
noncomputable def newD(x:Option (Bool×O)):Bool:=x.any λp=>p.1&&p.2.i_.any λq=>q.1.isEmpty&&q.2.any List.isEmpty
noncomputable def QM(x:Option (Bool×O)):Bool:=x.any λp=>p.1&&p.2.i_.any λq=>q.1.isEmpty&&q.2.isNone
noncomputable def O.qd(o:O):Bool:=cv o.ctorIdx 12
noncomputable def Hd(x:Option (Bool×O)):Bool:=x.any λp=>!p.1&&p.2.qd
noncomputable def O.Pq(o:O):Option (Nat×Nat):=O.rec (λI I=>none) (λI=>none) (λI I=>none) (λI=>none) (λI I=>none) (λI I=>none) (λI=>none) (λI=>none) (λI I=>none) (λI I=>none) (λi l=>C (i,l)) (λI=>none) none o
noncomputable def Ig(x:Option (Bool×O))(m:Nat):Bool:=x.any λp=>p.1&&p.2.Pq.any λq=>cv q.1 0&&cv q.2 m
noncomputable def Out.r0(o:Out aV):Option (aV×St):=Out.rec (λI=>none) (λa st=>C (a,st)) (λI=>none) o
noncomputable def Out.NY(o:Out aV):Option St:=Out.rec (λI=>none) (λI I=>none) C o
noncomputable def di.QF(f:di):Bool:=di.rec ae ai ai (λI=>ai) f
noncomputable def di.t9(f:di):Option V:=di.rec none none none C f
theorem zu{o:Out di}{f:St->Bool}(h:(match o with|.ok .next st=>f st|_=>ai)=ae):∃st,o=.ok .next st/\f st=true:=by
 induction o using MI.Out.casesOn with
 |ok a st=>
  induction a using MI.di.casesOn with
  |next=>exact⟨st,rfl,h⟩
  |_=>exact c7 h
 |_=>exact c7 h
theorem Ib{k:ScopeKind}(h:isFun k=ae):k=.function:=by
 induction k using ScopeKind.casesOn with
 |function=>rfl
 |_=>exact c7 h
theorem RV{o:Option Nat}{f:Nat->Bool}(h:(match o with|some a=>f a|none=>ai)=ae):∃a,o=C a/\f a=true:=by
 induction o using b3 with
 |some a=>exact⟨a,rfl,h⟩
 |none=>exact c7 h
noncomputable def My(v:az):Option Bool:=qO v.ctorIdx 3 λh=>KY v h C
structure cV where
 ad:List Nat
 aC:List bo
 aj:List ag
 ck:List ag
noncomputable def bo.eM(ah:cV):bo->Option bo
 |.lit c=>C (.lit c)
 |.aL c neg v=>(cG ah.aC v).bind λe=>match neg with
  |false=>bo.add (.lit c) e
  |true=>bo.sub (.lit c) e
noncomputable def Gp(e:bo):ag:=match(litOf e).bind nat? with
 |some n=>[.lit (cs (bO (sv n)))]
 |none=>[.dec e]
noncomputable def c1.eM(ah:cV):c1->Option ag
 |.lit l=>C [.lit l]
 |.dec e=>(e.eM ah).map Gp
 |.chr k=>cG ah.aj k
 |.any k=>cG ah.ck k
noncomputable def ag.eM(ah:cV):ag->Option ag
 |[]=>C []
 |p::r=>(c1.eM ah p).bind λa=>(ag.eM ah r).map (ag.cat a)
noncomputable def V.eM(ah:cV):V->Option V
 |.c v=>C (.c v)
 |.i e=>(e.eM ah).map .i
 |.s e=>(ag.eM ah e).map .s
 |.r n=>(cG ah.ad n).map .r
 |.u=>C .u
noncomputable def pZ{β:Type}(f:aV->β->Bool):List aV->List β->Bool
 |[],[]=>ae
 |a::l,b::m=>f a b&&pZ f l m
 |[],_::_=>ai
 |_::_,[]=>ai
noncomputable def O.Ry:O->Option Nat
 |.raw k=>C k
 |_=>none
noncomputable def FW:az->Option Bool
 |.bool a=>C a
 |_=>none
noncomputable def tS:Option Bool->Bool
 |some b=>b
 |none=>ai
noncomputable def NQ(a b:az):Bool:=(yQ a&&yQ b)||(Jx a).any (λx=>isRef x b)||(FW a).any λx=>(FW b).any (bo.xP x)
noncomputable def NT(au:List b5)(aE:List bz)(a b:V):Bool:=match a with
 |.c x=>b.aj.any (NQ x)
 |.i a=>b.aC.any λb=>tS (bo.eq au a b)
 |.s a=>b.ck.any λb=>tS (ag.eq au aE 400 a b)
 |.r n=>b.du.any (cv n)
 |.u=>ae
noncomputable def n2(ah:cV)(au:List b5)(aE:List bz)(p v:V):Bool:=(p.eM ah).any λdI=>NT au aE dI v
noncomputable def xY(ah:cV)(au:List b5)(aE:List bz):List V->List V->Bool:=pZ (n2 ah au aE)
noncomputable def Nb(ah:cV)(au:List b5)(aE:List bz)(p v:aO×V):Bool:=eqs p.1 v.1&&n2 ah au aE p.2 v.2
noncomputable def Nc(ah:cV)(au:List b5)(aE:List bz):List (aO×V)->List (aO×V)->Bool:=pZ (Nb ah au aE)
noncomputable def Nd(ah:cV)(au:List b5)(aE:List bz)(p v:ag):Bool:=(ag.eM ah p).any λdI=>tS (ag.eq au aE 400 dI v)
noncomputable def Bk(ah:cV)(au:List b5)(aE:List bz)(p v:ag×V):Bool:=Nd ah au aE p.1 v.1&&n2 ah au aE p.2 v.2
noncomputable def Na(ah:cV)(au:List b5)(aE:List bz):List (ag×V)->List (ag×V)->Bool:=pZ (Bk ah au aE)
noncomputable def VI(ah:cV)(au:List b5)(aE:List bz)(p q:ag×V):Bool:=(ag.eM ah p.1).any λk=>(ag.eM ah q.1).any λl=>ag.kc (ag.eq au aE 400 k l)
noncomputable def Fm(ah:cV)(au:List b5)(aE:List bz):List (ag×V)->Bool
 |[]=>ae
 |p::bt=>bt.all (VI ah au aE p)&&Fm ah au aE bt
noncomputable def Vz(ah:cV)(au:List b5)(aE:List bz)(dG:List (ag×V))(op:Option (List ag))(a:ag):Bool:=(ag.eM ah a).any λk=>(look au aE k dG op).any Option.isNone
noncomputable def P6(j:Nat)(dG:List (ag×V)):Bool:=dG.all λe=>(pa e.2).any λz=>dw z j
noncomputable def Ge(ah:cV)(bX:Nat)(au:List b5)(aE:List bz)(xs aH:List V)(m:Nat):Bool:=cv (m+xs.length) aH.length&&dw m bX&&xY ah au aE xs (aH.drop m)
noncomputable def WH(ah:cV)(bX:Nat)(au:List b5)(aE:List bz)(ar dG:List (ag×V))(op:Option (List ag))(abs:List ag):Bool:=
 ar.all (λe=>dG.any (Bk ah au aE e))&&Fm ah au aE ar&&abs.all (Vz ah au aE dG op)&&dw dG.length (ar.length+bX)
noncomputable def p4(ah:cV)(bX:Nat)(au:List b5)(aE:List bz)(p o:O):Bool:=match p with
 |.inst U dG=>o.rS.any λq=>cv U q.1&&Nc ah au aE dG q.2
 |.list xs=>o.kG.any (xY ah au aE xs)
 |.iQ k xs=>(cG ah.aC k).any λe=>match o.kG with
  |some aH=>((litOf e).bind nat?).any (Ge ah bX au aE xs aH)
  |none=>o.vV.any λq=>(u4 e).any λm=>cv m.2 q.1&&Ge ah bX au aE xs q.2 m.1
 |.tup xs=>o.Sg.any (xY ah au aE xs)
 |.dict ar abs=>o.i_.any λq=>match abs with
  |none=>q.2.isNone&&Na ah au aE ar q.1
  |some abs=>WH ah bX au aE ar q.1 q.2 abs
 |.jx n j=>match o.tQ with
  |some q=>dw q.1 (n+bX)&&dw q.2 (j+bX)
  |none=>o.i_.any λq=>q.2.isNone&&(dw q.1.length (n+bX)&&P6 (j+bX) q.1)
 |.cell p=>o.rz.any λv=>match p with
  |none=>v.isNone
  |some p=>v.any (n2 ah au aE p)
 |.raw k=>o.Ry.any (cv k)
 |.gone=>ae
 |.qE _=>ai
 |.it _ _=>ai
 |.nh _ _=>ai
 |.itR _ _=>ai
noncomputable def nu:O->Bool
 |.gone=>ai
 |_=>ae
structure b4 where
 os:List (Bool×O)
 au:List b5
 aE:List bz
 ns:Nat
 loc:Loc
noncomputable def fill:d0 (Bool×O)->Nat->List (Bool×O)->d0 (Bool×O)
 |t,_,[]=>t
 |t,i,x::r=>fill (t.put cU i x) (i+1) r
noncomputable def b4.st(p:b4):St:=⟨fill .nil 0 p.os,p.os.length,p.au,p.aE,p.ns,p.loc⟩
noncomputable def h_:List (Bool×O)->List Nat->List Nat
 |[],_=>[]
 |_::_,[]=>[]
 |x::r,n::ns=>match x.1 with
  |true=>n::h_ r ns
  |false=>h_ r ns
theorem OK(x:Bool×O)(r:List (Bool×O))(n:Nat)(ns:List Nat):h_ (x::r) (n::ns)=match x.1 with|true=>n::h_ r ns|false=>h_ r ns:=rfl
noncomputable def tR(n:Nat):List Nat->Nat
 |[]=>0
 |m::r=>match cv n m with
  |true=>0
  |false=>tR n r+1
noncomputable def De(ah:cV)(bX:Nat)(st:St)(handed:List Nat)(i:Nat)(x:Bool×O)(n:Nat):Bool:=eQ n st.no&&(match x.1 with
 |true=>(st.σ.get n).any λy=>y.1&&(nu x.2&&(cv (tR n ah.ad) i&&p4 ah bX st.au st.aE x.2 y.2))
 |false=>!nu x.2||(st.σ.get n).any λy=>!nq n handed&&p4 ah bX st.au st.aE x.2 y.2)
noncomputable def wi(ah:cV)(bX:Nat)(st:St)(handed:List Nat):Nat->List (Bool×O)->List Nat->Bool
 |_,[],[]=>ae
 |i,x::r,n::ns=>De ah bX st handed i x n&&wi ah bX st handed (i+1) r ns
 |_,[],_::_=>ai
 |_,_::_,[]=>ai
noncomputable def Ba(au:List b5)(bX:Nat)(b:b5)(e:bo):Bool:=(bo.lo au e).any (λx=>!ltI x b.1)&&((bo.bN au e).any (λy=>!ltI b.2.1 y)&&
 (match b.2.2 with
 |none=>ae
 |some j=>match litOf e with
  |some c=>!ltI (.ofNat j) c
  |none=>(u4 e).any λq=>((cG au q.2).bind λb=>b.2.2).any λt=>dw (q.1+t) (bX+j)))
noncomputable def Bb(au:List b5)(bX:Nat):List b5->List bo->Bool:=pZ (Ba au bX)
noncomputable def Bi(aE:List bz)(l:bz)(e:ag):Bool:=(iD e).any λp=>match p with
 |.lit m=>(iD m).any λc=>nq c l
 |.chr k=>(clsAt aE k).any λm=>m.all λc=>nq c l
 |.dec _=>ai
 |.any _=>ai
noncomputable def Bj(aE:List bz):List bz->List ag->Bool:=pZ (Bi aE)
noncomputable def xM(au:List b5)(aE:List bz):List ag->Bool
 |[]=>ae
 |e::r=>r.all (λf=>ag.kc (ag.eq au aE 400 e f))&&xM au aE r
noncomputable def c1.known(st:St):c1->Bool
 |.lit _=>ae
 |.dec e=>(bo.lo st.au e).isSome
 |.chr k=>eQ k st.aE.length
 |.any k=>eQ k st.ns
noncomputable def Dy(st:St)(e:ag):Bool:=e.all (c1.known st)&&(ag.wide st.au e).any λn=>dw n 1000
noncomputable def h1(ah:cV)(bX:Nat)(st:St)(p:b4):Bool:=
 dw p.os.length 100000&&wi ah bX st (h_ p.os ah.ad) 0 p.os ah.ad&&Bb st.au bX p.au ah.aC&&Bj st.aE p.aE ah.aj&&xM st.au st.aE ah.aj&&
 cv ah.ck.length p.ns&&ah.ck.all (Dy st)&&p.loc.all (λe=>(ed e.1 st.loc).any (n2 ah st.au st.aE e.2))
noncomputable def zc(f:aV->Option fb):List aV->Option (List fb)
 |[]=>C []
 |x::r=>(f x).bind λa=>(zc f r).map λb=>a::b
noncomputable def J4(ah:cV):List V->Option (List V):=zc (V.eM ah)
noncomputable def J2(ah:cV)(v:aO×V):Option (aO×V):=(v.2.eM ah).map λa=>(v.1,a)
noncomputable def Sr(ah:cV):List (aO×V)->Option (List (aO×V)):=zc (J2 ah)
noncomputable def J1(ah:cV)(v:ag×V):Option (ag×V):=(ag.eM ah v.1).bind λk=>(v.2.eM ah).map λa=>(k,a)
noncomputable def Sq(ah:cV):List (ag×V)->Option (List (ag×V)):=zc (J1 ah)
noncomputable def O.up(ah:cV)(ha:Nat):O->Option O
 |.inst U dG=>(Sr ah dG).map (.inst U)
 |.list xs=>(J4 ah xs).map .list
 |.tup xs=>(J4 ah xs).map .tup
 |.dict ar op=>match op with
  |none=>(Sq ah ar).map λar=>.dict ar none
  |some _=>none
 |.jx n j=>C (.jx (n+ha) (j+ha))
 |.iQ _ _=>none
 |.qE _=>none
 |.cell _=>none
 |.it _ _=>none
 |.nh _ _=>none
 |.itR _ _=>none
 |.raw _=>none
 |.gone=>none
noncomputable def lA(f:Nat->aV)(n i:Nat):List aV:=(List.range' i n).map f
noncomputable def cV.ext(ah:cV)(st:St)(p q:b4):cV:=⟨ah.ad++lA id (q.os.length-p.os.length) st.no,ah.aC++lA (λi=>bo.aL 0 ai i) (q.au.length-p.au.length) st.au.length,ah.aj,ah.ck++lA (λi=>[c1.any i]) (q.ns-p.ns) st.ns⟩
noncomputable def may:List (Bool×O)->Bool
 |[]=>ae
 |x::_=>x.1
noncomputable def Jo(ah:cV)(ha:Nat)(own:Bool)(o:O):Bool->Option (Option (Bool×O))
 |true=>match own with
  |true=>match nu o with
   |true=>(O.up ah ha o).map λo=>C (ae,o)
   |false=>none
  |false=>match nu o with
   |true=>none
   |false=>C (C (ai,.gone))
 |false=>match own with
  |true=>none
  |false=>C none
noncomputable def VC(n:Nat)(y:Option (Bool×O))(l:List (Nat×(Bool×O))):List (Nat×(Bool×O)):=match y with
 |some y=>(n,y)::l
 |none=>l
noncomputable def Jq(ah:cV)(ha:Nat)(os:List (Bool×O)):List (Bool×O)->List Nat->Option (List (Nat×(Bool×O)))
 |[],[]=>C []
 |x::r,n::ns=>(Jq ah ha (os.drop 1) r ns).bind λl=>(Jo ah ha x.1 x.2 (may os)).map λy=>VC n y l
 |[],_::_=>none
 |_::_,[]=>none
noncomputable def putAll:d0 (Bool×O)->List (Nat×(Bool×O))->d0 (Bool×O)
 |t,[]=>t
 |t,x::r=>putAll (t.put cU x.1 x.2) r
noncomputable def zo:List Nat->Bool
 |[]=>ae
 |n::r=>(match nq n r with|true=>ai|false=>zo r)
theorem acB(n:Nat)(r:List Nat):zo (n::r)=match nq n r with|true=>ai|false=>zo r:=rfl
noncomputable def abb(l:List (Nat×(Bool×O))):List Nat:=l.map λx=>x.1
noncomputable def RR(ha:Nat)(b:b5):b5:=(b.1,b.2.1,b.2.2.map λj=>j+ha)
noncomputable def k_:Bool->Option Unit
 |true=>C ()
 |false=>none
noncomputable def Rh(ah:cV)(ha:Nat)(st:St)(p q:b4):Option St:=(k_ (cv p.aE.length q.aE.length&&dw p.os.length q.os.length&&dw p.au.length q.au.length&&dw p.ns q.ns&&dw q.os.length 100000&&dw (st.no+q.os.length) 1000000)).bind λI=>
 (Jq (ah.ext st p q) ha p.os q.os (ah.ext st p q).ad).bind λl=>(k_ (zo (abb l))).map λI=>
  ⟨putAll st.σ l,st.no+(q.os.length-p.os.length),st.au++(q.au.drop p.au.length).map (RR ha),st.aE,st.ns+(q.ns-p.ns),st.loc⟩
structure nV where
 f:Nat
 D:Nat
 ah:cV
 p:b4
 bt:List V
 q:b4
 r:V
 bX:Nat
 q5:Nat
 ex:Bool
noncomputable def fp(h:nV):gW:=λdep f aK st=>match f with
 |.c (.ref a)=>(match cv a h.f&&dw dep h.D with
  |true=>(match h1 h.ah h.bX {st with loc:=[]} h.p&&xY h.ah st.au st.aE h.bt aK with
   |true=>(match Rh h.ah (h.bX+h.q5) {st with loc:=[]} h.p h.q,h.r.eM (h.ah.ext {st with loc:=[]} h.p h.q) with
    |some bk,some v=>(match h.ex with
     |false=>C (.ok v {bk with loc:=st.loc})
     |true=>C (.ex {bk with loc:=st.loc}))
    |_,_=>C (.fail 174))
   |false=>C (.fail 175))
  |false=>none)
 |_=>none
noncomputable def J3(ah:cV)(o:O):Option O:=match nu o with
 |true=>O.up ah 0 o
 |false=>C .gone
noncomputable def Ip(ah:cV):List (Bool×O)->d0 (Bool×O)->Nat->Option (d0 (Bool×O))
 |[],t,_=>C t
 |x::r,t,i=>(J3 ah x.2).bind λo=>Ip ah r (t.put cU i (ai,o)) (i+1)
noncomputable def Px(st:St)(pre:List Nat)(aj:List ag)(e:b4):cV:=⟨pre++lA id (e.os.length-pre.length) st.no,lA (λi=>bo.aL 0 ai i) e.au.length st.au.length,aj,lA (λi=>[c1.any i]) e.ns st.ns⟩
noncomputable def hu(st:St)(pre:List Nat)(aj:List ag)(e:b4):Option St:=(k_ (dw (st.no+e.os.length) 1000000)).bind λI=>
 (Ip (Px st pre aj e) (e.os.drop pre.length) st.σ st.no).map λt=>⟨t,st.no+(e.os.length-pre.length),st.au++e.au,st.aE,st.ns+e.ns,st.loc⟩
noncomputable def wu(f:Nat->aV->Bool):Nat->Nat->List aV->Bool
 |0,_,_=>ae
 |k+1,i,l=>match l with
  |[]=>ai
  |x::r=>f i x&&wu f k (i+1) r
noncomputable def Cf(i:Nat)(l:List Nat)(k:Nat):Bool:=wu (λi n=>cv n i) k i l
noncomputable def aaG(i:Nat)(e:bo):Bool:=(u4 e).any λq=>cv q.1 0&&cv q.2 i
noncomputable def c1.aaH(i:Nat):c1->Bool
 |.chr v=>cv v i
 |.lit _=>ai
 |.dec _=>ai
 |.any _=>ai
noncomputable def c1.aaK(i:Nat):c1->Bool
 |.any v=>cv v i
 |.lit _=>ai
 |.dec _=>ai
 |.chr _=>ai
noncomputable def Pa(i:Nat)(l:List bo)(k:Nat):Bool:=wu aaG k i l
noncomputable def O_(i:Nat)(l:List ag)(k:Nat):Bool:=wu (λi e=>(iD e).any (c1.aaH i)) k i l
noncomputable def Pb(i:Nat)(l:List ag)(k:Nat):Bool:=wu (λi e=>(iD e).any (c1.aaK i)) k i l
noncomputable def H3(ah:cV)(p:b4):Bool:=Cf 0 ah.ad p.os.length&&Pa 0 ah.aC p.au.length&&O_ 0 ah.aj p.aE.length&&Pb 0 ah.ck p.ns
noncomputable def g_(o:Out V)(ah:cV)(bX:Nat)(p q:b4)(r:V)(ex:Bool):Bool:=H3 ah p&&(bif ex then o.NY.any λst=>h1 ah bX st q else o.r0.any λw=>h1 ah bX w.2 q&&n2 ah w.2.au w.2.aE r w.1)
noncomputable def cZ(x:String):V:=.s [.lit (cs (bO x))]
noncomputable def dc(x:String):ag:=[.lit (cs (bO x))]
noncomputable def li(n:Nat):V:=.i (.lit (.ofNat n))
noncomputable def aC(k:Nat):V:=.i (.aL 0 ai k)
noncomputable def Pw(c k:Nat):V:=.i (.aL (.ofNat c) ai k)
noncomputable def sa:V:=.c (.bool ae)
noncomputable def nD:V:=.c (.bool ai)
noncomputable def dt:V:=.c .none
noncomputable def BE(a:Nat):V:=.c (.ref a)
noncomputable def hq(k:Nat):ag:=[.lit [103],.chr k]
noncomputable def bb(k:Nat):ag:=[.lit [104],.chr k]
noncomputable def region(kind owner parent root made number level part names order uses agA counts Z8 generic:V):O:=.inst 332 [("kind",kind),("owner",owner),("parent",parent),("root",root),("made",made),("number",number),("level",level),("part",part),("names",names),("order",order),("uses",uses),("use_types",agA),("counts",counts),("type_homes",Z8),("generic",generic)]
noncomputable def entity(kind name data line number unique HM part zK ready complete:V):O:=.inst 59 [("kind",kind),("name",name),("key",dt),("subtype",dt),("data",data),("line",line),("number",number),("unique",unique),("home",HM),("part",part),("region",zK),("full",dt),("is_ready",ready),("is_complete",complete),("is_constant",nD),("is_implicit",nD),("is_overridden",nD)]
noncomputable def zP(place line count under:V)(lim typ V6 agR decls afT:Nat):O:=.inst 31 [("place",place),("limits",.r lim),("choose",dt),("types",.r typ),("typed",dt),("static",dt),("builders",.r V6),("ways",.r agR),("declarations",.r decls),("statements",.r afT),("line",line),("count",count),("under_way",under)]
noncomputable def Bp:O:=.dict [(dc "package",BE 610),(dc "instance",BE 683),(dc "rename",BE 720)] none
noncomputable def anyI:b5:=(0,100000,none)
noncomputable def dD:bz:=[97,98,99,100]
noncomputable def bC:bz:=[112,113,114,115,116,118,119]
noncomputable def own(o:O):Bool×O:=(ae,o)
noncomputable def fix(o:O):Bool×O:=(ai,o)
noncomputable def aI(n:Nat):V:=.r n
noncomputable def Ke(k:Nat):ag:=[.lit (cs "wrapper__"),.dec (.aL 0 ai k),.lit (cs "_1")]
noncomputable def agY(k:Nat):ag:=[.lit (cs "wrapper__"),.dec (.aL 1 ai k),.lit (cs "_1")]
noncomputable def cR(u:b5)(v:Nat):b4 where
 os:=[
  own (zP (aI 2) (aC 0) (aC 1) (aC 2) 10 11 12 13 9 14),
  own (region (cZ "root") dt dt (aI 1) (aC 3) (li 1) (li 0) (cZ "body") (aI 8) (aI 15) (aI 16) (aI 17) (aI 18) (aI 19) dt),
  own (region (cZ "package") (aI 20) (aI 3) (aI 1) (li 0) (aC 4) (li 1) (cZ "visible") (aI 5) (aI 6) (aI 21) (aI 22) (aI 23) (aI 24) dt),
  fix (region (cZ "package") (aI 25) (aI 4) (aI 1) (li 0) (aC 5) (li 1) (cZ "visible") (aI 26) (aI 27) (aI 28) (aI 29) (aI 30) (aI 31) dt),
  fix (region (cZ "sub") dt (aI 1) (aI 1) (li 0) (aC 6) (li 1) (cZ "visible") (aI 32) (aI 33) (aI 34) (aI 35) (aI 7) (aI 36) (aI 37)),
  own (.dict [] none),own (.list []),own (.jx 0 0),
  fix .gone,fix Bp,
  fix .gone,fix .gone,fix .gone,fix .gone,fix .gone,fix .gone,
  fix (.list []),fix (.list []),fix .gone,fix (.dict [] none),
  fix .gone,fix (.list []),fix (.list []),fix .gone,fix .gone,
  fix .gone,fix (.dict [] (C [hq 0])),fix .gone,fix (.list []),fix (.list []),fix .gone,fix .gone,
  fix (.dict [(Ke 7,aI 39)] none),fix .gone,fix (.list []),fix (.list []),fix .gone,fix .gone,
  fix .gone,fix .gone,
  fix (.tup [cZ "instance",li 2,cZ "package",cZ "x",aI 41,aI 42]),fix (.tup [cZ "name",.s (hq 0)]),fix (.list [])
  ]
 au:=[anyI,(100,10000+100*(v:Int),C 0),u,(11,10000+100*(v:Int),C 0),(12,10000+100*(v:Int),C 0),(12,10000+100*(v:Int),C 0),(12,10000+100*(v:Int),C 0),(100,10000+100*(v:Int),C 0)]
 aE:=[dD]
 ns:=0
 loc:=[]
noncomputable def MT(om:Bool)(nm:V):Nat->Nat->Nat->Nat->List (Bool×O)
 |0,_,_,_=>[]
 |m+1,b,k,t=>[
  (om,.list [aI (b+1)]),
  (om,entity (cZ "package") nm dt (li 2) (aC k) (.s [.any t]) (aI (b+4)) (cZ "visible") (aI (b+2)) sa sa),
  (om,region (cZ "package") (aI (b+5)) (aI (b+6)) (aI 1) (li 0) (aC (k+1)) (li 1) (cZ "private") (aI (b+3)) (aI (b+7)) (aI (b+8)) (aI (b+9)) (aI (b+10)) (aI (b+11)) dt)]++(match m with
  |0=>[(om,.dict [] none),fix .gone,fix .gone,fix .gone,fix .gone,fix .gone,fix .gone,fix .gone,fix .gone]
  |_=>[(om,.dict [(Ke (k+2),aI (b+12)),(dc "x",aI (b+13))] none),fix .gone,fix .gone,fix .gone,fix .gone,fix .gone,fix .gone,fix .gone,fix .gone,fix .gone]++MT om nm m (b+13) (k+3) (t+1))
noncomputable def MR:Nat->List b5
 |0=>[]
 |1=>[(12,100000,none),(12,100000,none)]
 |m+1=>[(12,100000,none),(12,100000,none),(100,20000,none)]++MR m
noncomputable def lO(u:b5)(v m:Nat):b4 where
 os:=[
  own (zP (aI 2) (li 2) (Pw m 1) (aC 2) 10 11 12 13 9 14),
  own (region (cZ "root") dt dt (aI 1) (Pw (6*m) 3) (li 1) (li 0) (cZ "body") (aI 8) (aI 15) (aI 16) (aI 17) (aI 18) (aI 19) dt)]++((cR u v).os.drop 2).take 3++ [
  own (.dict [(agY 1,aI 43),(dc "x",aI 51)] none),own (.list [aI 52]),own (.jx 0 0)]++(cR u v).os.drop 8++ [
  fix .gone,own (.list [aI 45]),own (.tup [cZ "package",li 2,.s [.any 0],aI 46,aI 47,aI 48,aI 49,aI 50]),
  fix .gone,fix .gone,fix .gone,fix .gone,fix .gone]
  ++MT ae (cZ "x") m 51 8 1
 au:=(cR u v).au++MR m
 aE:=[dD]
 ns:=1+m
 loc:=[]
noncomputable def gX(u:b5)(v:Nat):b4 where
 os:=[
  own (zP (aI 43) (aC 8) (aC 9) (aC 2) 10 11 12 13 9 14),
  own (region (cZ "root") dt dt (aI 1) (aC 10) (li 1) (li 0) (cZ "body") (aI 8) (aI 15) (aI 16) (aI 17) (aI 18) (aI 19) dt)]++((cR u v).os.drop 2).take 3++ [
  fix .gone,fix .gone,fix .gone]++(cR u v).os.drop 8++ [fix .gone]
 au:=(cR u v).au++ [(0,100000,none),(0,50000,none),(11,90000,none)]
 aE:=[dD]
 ns:=0
 loc:=[]
noncomputable def GE:b4 where
 os:=[fix .gone,fix (.list [aI 2]),fix (entity (cZ "generic") (.s (hq 0)) (aI 3) (li 1) (aC 0) (.s [.any 0]) (aI 0) (cZ "body") dt sa nD),fix (.list [aI 4,dt]),fix (.tup [cZ "generic",li 1,aI 5,aI 6]),fix (.list []),fix (.tup [cZ "package",li 1,.s (hq 0),aI 7,aI 8]),fix (.list []),fix (.list [])]
 au:=[(2,10,none)]
 aE:=[dD]
 ns:=1
 loc:=[]
noncomputable def mV(k:Nat)(aE:List bz):b4 where
 os:=GE.os.take 7++ [fix (.list [aI 9]),fix (.list []),fix (.tup [cZ "instance",li 2,cZ "package",cZ "x",aI 10,aI 11]),fix (.tup [cZ "name",.s (hq k)]),fix (.list [])]
 au:=[(2,10,none)]
 aE:=aE
 ns:=1
 loc:=[]
noncomputable def SO(st:St)(cK:Nat)(aj:List ag)(e:b4):St:=match hu st [1] aj e with
 |some bk=>{bk with σ:=bk.σ.put cU cK (ai,.dict [(hq 0,aI st.no)] (C []))}
 |none=>st
noncomputable def jo(m:Nat)(ah:cV)(D:Nat):nV:=⟨683,D,ah,cR (15,20-(m:Int),none) 1,[aI 0,aI 40],lO (15,20-(m:Int),none) 1 m,aI 44,8,10*m,ai⟩
noncomputable def uV(ah:cV)(D:Nat):nV:=⟨683,D,ah,cR (15,20,none) 1,[aI 0,aI 40],gX (15,20,none) 1,dt,8,0,ae⟩
noncomputable def IT:Loc:=[("scope",aI 0),("frame",aI 2),("known",aI 6),("after",aI 10),("room",aC 2)]
noncomputable def dY:b5:=(1,5,none)
noncomputable def tP(gK:b5):List b5:=[anyI,(100,10000,C 0),gK,(11,10000,C 0),(0,10000,C 0),(0,10000,none)]
noncomputable def agB:V:=.i (.aL 20 ae 2)
noncomputable def Je(scope names known:O):List (Bool×O):=[
  own scope,
  own (region (cZ "root") dt dt (aI 1) (aC 3) (li 1) (li 0) (cZ "body") (aI 13) (aI 24) (aI 14) (aI 15) (aI 25) (aI 16) dt),
  own (region (cZ "sub") dt (aI 1) (aI 1) (li 0) (li 11) (li 1) (cZ "body") (aI 3) (aI 4) (aI 17) (aI 18) (aI 5) (aI 26) dt),
  own names,own (.iQ 4 []),own (.jx 0 0),
  own known,own (.dict [(dc "cells",aI 11),(dc "at",aC 5)] none),own (.cell (C (aI 7))),own (.raw 0),
  fix .gone,fix .gone,fix Bp,fix .gone,fix (.list []),fix (.list []),fix (.dict [] none),fix (.list []),fix (.list []),
  fix .gone,fix .gone,fix .gone,fix .gone,fix .gone,fix .gone,fix .gone,fix .gone]
noncomputable def JG:O:=zP (aI 2) (aC 0) (aC 1) agB 19 20 21 22 12 23
noncomputable def xA(gK:b5)(ext:List (Bool×O))(au:List b5)(aE:List bz)(ns:Nat)(loc:Loc):b4:=⟨Je JG (.dict [] (C [])) (.dict [] (C []))++ext,tP gK++au,aE,ns,IT++loc⟩
noncomputable def T0:b4:=xA dY [] [] [] 0 []
noncomputable def dF:b4:={T0 with au:=[anyI,(100,20000,C 0),dY,(11,20000,C 0),(0,20000,C 0),(0,10000,none)]}
noncomputable def sc(k:Nat):V:=.s [.chr k]
noncomputable def jj(a:Int)(n:String):ag:=[.lit (cs "wrapper__"),.dec (.aL a ai 1),.lit (cs n)]
noncomputable def tq(a:Int)(n:String):ag:=[.lit (cs "f__"),.dec (.aL a ai 1),.lit (cs n)]
noncomputable def CF(f:Nat)(node told name:V):Loc:=[("deed",BE f),("node",node),("told",told),("name",name)]
noncomputable def mF(parent number names generic:V):O:=region .u .u parent .u .u number .u .u names .u .u .u .u .u generic
noncomputable def p9(nm unique HM zK:V):O:=.inst 59 [("kind",cZ "package"),("name",nm),("key",dt),("subtype",dt),("data",dt),("line",.u),("number",.u),("unique",unique),("home",HM),("part",.u),("region",zK),("full",dt),("is_ready",sa),("is_complete",.u),("is_constant",nD),("is_implicit",nD),("is_overridden",nD)]
noncomputable def NP(zK:V):O:=.inst 59 [("kind",cZ "package"),("name",.u),("key",.u),("subtype",.u),("data",.u),("line",.u),("number",.u),("unique",.u),("home",.u),("part",cZ "visible"),("region",zK),("full",.u),("is_ready",sa),("is_complete",.u),("is_constant",.u),("is_implicit",.u),("is_overridden",nD)]
noncomputable def GP(number:V):O:=.inst 59 [("kind",.u),("name",.u),("key",.u),("subtype",.u),("data",.u),("line",.u),("number",number),("unique",.u),("home",.u),("part",.u),("region",.u),("full",.u),("is_ready",.u),("is_complete",.u),("is_constant",.u),("is_implicit",.u),("is_overridden",.u)]
noncomputable def zt:b5:=(12,1000000,none)
noncomputable def agX:b5:=(0,1000000,none)
noncomputable def uj:b5:=(-1,3,none)
noncomputable def Be:Nat->Nat->Nat->List (Bool×O)
 |0,_,_=>[]
 |1,b,k=>[fix (mF .u (aC k) (aI (b+1)) .u),fix (.dict [] none)]
 |m+2,b,k=>[fix (mF .u (aC k) (aI (b+1)) .u),fix (.dict [(Ke (k+1),.u),(dc "x",aI (b+2))] none),fix (.list [aI (b+3)]),fix (NP (aI (b+4)))]++Be (m+1) (b+4) (k+2)
noncomputable def Bf:Nat->List b5
 |0=>[]
 |1=>[zt]
 |m+2=>[zt,agX]++Bf (m+1)
noncomputable def sN:b4:=⟨[fix .gone,fix .gone,fix (.list [aI 4]),fix (.tup [aC 0,li 1,cZ ""]),fix (p9 (sc 0) (.s [.any 0]) (aI 1) (aI 5))]++Be 1 5 1,[uj]++Bf 1,[bC],1,[]⟩
noncomputable def gO(m:Nat):b4:=⟨[fix .gone,fix .gone,fix (GP (aC 1)),fix (.list [aI 5]),fix (.tup [aC 0,li m,cZ ""]),fix (p9 (sc 0) (.s [.any 0]) (aI 6) (aI 8)),fix (mF (aI 7) .u .u .u),fix (mF .u .u .u (aI 2))]++Be m 8 2,[uj,(2,10,none)]++Bf m,[bC],1,[]⟩
noncomputable def uT:b4:=⟨[fix .gone,fix .gone,fix (GP (aC 1)),fix (.list [aI 5]),fix (.tup [aC 0,li 1,sc 1]),fix (p9 (sc 0) (.s [.any 0]) (aI 6) (aI 8)),fix (mF (aI 7) .u .u .u),fix (mF .u .u .u (aI 2)),
 fix (mF .u (aC 2) (aI 9) .u),fix (.dict [(dc "u",aI 10)] none),fix (.list [aI 11]),fix (NP (aI 12)),fix (mF .u (aC 3) .u .u),fix (.list [aI 14]),fix (p9 (sc 1) .u .u (aI 12))],[uj,(2,10,none),zt,zt],[bC,bC],1,[]⟩
noncomputable def me:b4:=⟨[fix .gone,fix (.list [aI 2]),fix (entity (cZ "generic") (.s (bb 0)) (aI 3) (li 1) (aC 0) (.s [.any 0]) (aI 0) (cZ "body") dt sa nD),fix (.list [aI 4,dt]),fix (.tup [cZ "generic",li 1,aI 5,aI 10]),fix (.list [aI 6]),fix (.tup [cZ "fpack",li 1,cZ "f",aI 7,cZ "box"]),fix (.tup [cZ "name",.s (hq 0)]),
  fix (.tup [cZ "rename",li 2,cZ "package",cZ "u",dt,aI 9]),fix (.tup [cZ "name",cZ "f"]),fix (.tup [cZ "package",li 1,.s (bb 0),aI 11,aI 12]),fix (.list [aI 8]),fix (.list [])],[(2,10,none)],[dD],1,[]⟩
noncomputable def acy(nm:V):List (Bool×O):=[fix (.tup [cZ "instance",li 5,cZ "package",nm,aI 28,aI 29]),fix (.tup [cZ "name",.s (hq 0)]),fix (.list [])]
noncomputable def acA(nm:V):List (Bool×O):=[fix (.tup [cZ "package",li 5,nm,aI 28,aI 29]),fix (.list []),fix (.list [])]
noncomputable def acx(nm other:V):List (Bool×O):=[fix (.tup [cZ "rename",li 5,cZ "package",nm,dt,aI 28]),fix (.tup [cZ "name",other])]
noncomputable def acz(nm other:V):List (Bool×O):=[fix (.tup [cZ "instance",li 5,cZ "package",nm,aI 28,aI 29]),fix (.tup [cZ "name",.s (bb 0)]),fix (.list [aI 30]),fix (.tup [dt,aI 31]),fix (.tup [cZ "name",other])]
noncomputable def fN(K:b7):List Stmt:=match K.lookup 760 with
 |some ⟨_,_,.func fd,_⟩=>(match fd.body with|.stmts b=>b|_=>[])
 |_=>[]
noncomputable def y4(K:b7):Scope:=match K.lookup 760 with
 |some ⟨_,_,.func fd,_⟩=>fd.scope
 |_=>{kind:=.module,names:=[],isGenerator:=ai,isCoroutine:=ai}
set_option backward.match.sparseCases false in
noncomputable def ea(K:b7):List Stmt:=match(fN K).drop 8 with
 |.For _ _ b _ _::_=>b
 |_=>[]
noncomputable def lax(K:b7):cI:=⟨y4 K,[("bag",8)],2⟩
noncomputable def kv:b4:=⟨[fix (.list [aI 1]),fix (.inst 59 [("kind",.u),("name",sc 0),("key",dt),("subtype",.u),("data",.u),("line",.u),("number",.u),("unique",.u),("home",.u),("part",.u),("region",.u),("full",.u),("is_ready",.u),("is_complete",.u),("is_constant",.u),("is_implicit",nD),("is_overridden",nD)])],[],[bC],0,[]⟩
noncomputable def aho(m:Nat):b4:=⟨[fix (.list [aI 1]),fix (p9 (sc 0) (.s [.any 0]) (aI 2) (aI 3)),fix .gone]++Be m 3 0,Bf m,[bC],1,[]⟩
noncomputable def rb:b4:=⟨[fix (.list [aI 1]),fix (p9 (sc 0) (.s [.any 0]) (aI 2) (aI 3)),fix .gone,fix .gone],[],[bC],1,[]⟩
noncomputable def rd:b4:=⟨[fix .gone,fix (.list [aI 2]),fix (p9 (sc 0) (.s [.any 0]) (aI 3) (aI 5)),fix (mF (aI 4) .u .u .u),fix (mF .u .u .u (aI 0)),fix (mF .u (aC 0) .u .u)],[zt],[bC],1,[]⟩
noncomputable def pO(b:b5):b4:=⟨[fix (GP (aC 0)),fix (.list [aI 2]),fix (p9 (sc 0) (.s [.any 0]) (aI 3) (aI 5)),fix (mF (aI 4) .u .u .u),fix (mF .u .u .u (aI 0)),fix .gone],[b],[bC],1,[]⟩
noncomputable def EG:b4:=⟨[fix .gone,fix (.list [aI 2]),fix (p9 (sc 0) (.s [.any 0]) (aI 0) (aI 3)),fix .gone],[],[bC],1,[]⟩
noncomputable def hO(st:St)(j:List Nat×List ag×b4):St:=(hu st j.1 j.2.1 j.2.2).getD st
noncomputable def pn(st:St)(n:Nat)(om:Bool)(ar:List (ag×V))(abs:List ag):St:={st with σ:=st.σ.put cU n (om,.dict ar (C abs))}
structure AP where
 re:List (ag×V)
 c2:List ag
 ne:List (ag×V)
 na:List ag
 fM:List (ag×V)
 d6:List ag
noncomputable def ab4(p:b4)(jy:List (List Nat×List ag×b4))(v:AP):St:=pn (pn (pn (jy.foldl hO p.st) 13 ai v.re v.c2) 3 ae v.ne v.na) 6 ae v.fM v.d6
noncomputable def wq(ah:cV)(bX:Nat)(st:St)(handed:List Nat)(e:b4):Bool:=
 e.os.all (λx=>!x.1)&&wi ah bX st handed 0 e.os ah.ad&&Bb st.au bX e.au ah.aC&&Bj st.aE e.aE ah.aj&&xM st.au st.aE ah.aj&&cv ah.ck.length e.ns&&ah.ck.all (Dy st)
noncomputable def o5(au:List b5)(aE:List bz):List (ag×V)->List ag->Bool:=pZ λx k=>tS (ag.eq au aE 400 x.1 k)
noncomputable def ui(au:List b5)(aE:List bz)(k:ag)(n:Nat)(ar:List (ag×V)):Bool:=ar.any λx=>tS (ag.eq au aE 400 x.1 k)&&x.2.du.any (cv n)
noncomputable def pY(c:Nat)(v:Nat)(e:bo):Bool:=(u4 e).any λq=>cv c q.1&&cv v q.2
noncomputable def qC(st:St)(n:Nat):Option (List (ag×V)):=(st.σ.get n).bind λx=>match x.1 with
 |true=>x.2.i_.bind λq=>q.2.map λI=>q.1
 |false=>none
noncomputable def Cv(ah:cV)(m k:Nat):Bool:=(cG ah.aC 1).any (pY m 1)&&((cG ah.aC 2).any (pY 0 2)&&(cG ah.aC 5).any (pY k 5))
structure il where
 ah:cV
 fI:cV
 e:b4
 L:Nat
 T:Nat
 nm:ag
 nums:List ag
 more:Nat
 olds:List (ag×Nat)
noncomputable def il.keys(d:il):List ag:=d.olds.map (·.1)++d.nums++ [d.nm]
noncomputable def RL(st:St)(d:il):Bool:=(qC st 3).any λar=>(qC st 6).any λks=>(cG d.fI.ad d.L).any λl=>(cG d.fI.ad d.T).any λt=>
 o5 st.au st.aE ar d.keys&&(d.olds.all (λx=>ui st.au st.aE x.1 x.2 ar)&&(ui st.au st.aE d.nm l ar&&(o5 st.au st.aE ks [d.nm]&&ui st.au st.aE d.nm t ks)))
noncomputable def RF(d:il):Bool:=Cf 0 d.ah.ad 27&&Cv d.ah d.more 0
noncomputable def dR:Nat:=60
noncomputable def gg(o:Out di)(d:il):Bool:=match o with
 |.ok .next st=>RF d&&h1 d.ah dR st dF&&wq d.fI dR st (h_ dF.os d.ah.ad) d.e&&RL st d
 |_=>ai
noncomputable def iv(H:gW):gW:=λdep f aK st=>match eQ 4 dep with
 |true=>H dep f aK st
 |false=>none
noncomputable def d5(o:Out di):Bool:=o.r0.any λp=>p.1.t9.any λv=>v.aj.any λx=>(My x).any λb=>b
noncomputable def ki(m:Nat):b5:=((m:Int),5,none)
noncomputable def rg:b4:=mV 1 [dD,dD]
noncomputable def LK:b4:=mV 0 [dD]
noncomputable def bD:ag:=[.chr 0]
noncomputable def bu:ag:=[.chr 1]
noncomputable def c3:ag:=[.chr 2]
structure Go where
 p:b4
 jy:List (List Nat×List ag×b4)
 v:AP
noncomputable def Go.st(x:Go):St:=ab4 x.p x.jy x.v
inductive mh where
 |no
 |tup (m:Nat) (other:V)
noncomputable def mh.ctorIdx(x:mh):Nat:=mh.casesOn x 0 (λI I=>1)
noncomputable def mh.os:mh->List (Bool×O)
 |.no=>[]
 |.tup m o=>[fix (.tup [aC 6,li m,o])]
noncomputable def mh.au:mh->List b5
 |.no=>[]
 |.tup _ _=>[uj]
noncomputable def mh.v(n:Nat):mh->V
 |.no=>dt
 |.tup _ _=>aI n
noncomputable def ey:V:=cZ ""
noncomputable def k7(gK:b5)(nm:V)(t:mh)(aE:List bz):b4:=xA gK (acy nm++t.os) t.au aE 0 (CF 683 (aI 27) (t.v 30) nm)
noncomputable def vp:Go:=⟨k7 dY (sc 1) (.tup 1 ey) [dD,bC],[([1],[bD],GE)],⟨[(hq 0,aI 31)],[bu],[],[hq 0,bu,jj 1 "_1"],[],[bu]⟩⟩
noncomputable def ju(m:Nat):Go:=⟨k7 (ki m) (sc 1) (.tup m ey) [dD,bC,dD],[([1],[bD,c3],rg)],⟨[(hq 0,aI 31)],[bu],[],[hq 0,bu,jj 1 "_1"],[],[bu]⟩⟩
noncomputable def vq:Go:=⟨k7 dY .u .no [dD],[([1],[bD],LK)],⟨[(hq 0,aI 30)],[],[],[hq 0,jj 1 "_1"],[],[]⟩⟩
noncomputable def tu:Go:=⟨k7 dY .u .no [dD,dD],[([1],[bD,bu],rg)],⟨[(hq 0,aI 30)],[],[],[hq 0,jj 1 "_1"],[],[]⟩⟩
noncomputable def vo:Go:=⟨k7 dY (sc 1) .no [dD,bC],[([1],[bD],GE),([],[bu],kv)],⟨[(hq 0,aI 30)],[bu],[(bu,aI 38)],[hq 0,jj 1 "_1"],[],[]⟩⟩
noncomputable def jt(m:Nat):Go:=⟨k7 (ki m) (sc 1) .no [dD,bC,dD],[([1],[bD,c3],rg),([],[bu],kv)],⟨[(hq 0,aI 30)],[bu],[(bu,aI 41)],[hq 0,jj 1 "_1"],[],[]⟩⟩
noncomputable def Dh(t:mh):b4:=xA dY (acA (sc 0)++t.os) t.au [bC] 0 (CF 610 (aI 27) (t.v 30) (sc 0))
noncomputable def wm:Go:=⟨Dh (.tup 1 ey),[],⟨[],[bD],[],[bD],[],[bD]⟩⟩
noncomputable def wk:Go:=⟨Dh .no,[([],[bD],kv)],⟨[],[bD],[(bD,aI 30)],[],[],[]⟩⟩
noncomputable def lQ(nm other:V)(t:mh)(aE:List bz):b4:=xA dY (acx nm other++t.os) t.au aE 0 (CF 720 (aI 27) (t.v 29) nm)
noncomputable def u1:Go:=⟨lQ (sc 1) (sc 0) (.tup 1 ey) [bC,bC],[([1,2],[bD],sN)],⟨[],[bD,bu],[(bD,aI 30)],[bu],[],[bu]⟩⟩
noncomputable def jJ(m:Nat):Go:=⟨lQ (sc 1) (sc 0) (.tup m ey) [bC,bC],[([1,2],[bD],gO m)],⟨[],[bD,bu],[(bD,aI 31)],[bu],[],[bu]⟩⟩
noncomputable def u2:Go:=⟨lQ (sc 1) (sc 0) (.tup 1 (sc 2)) [bC,bC,bC],[([1,2],[bD,c3],uT)],⟨[],[bD,bu,c3],[(bD,aI 31),(c3,aI 41)],[bu],[],[bu]⟩⟩
noncomputable def uZ:Go:=⟨lQ (sc 1) (sc 0) .no [bC,bC],[([],[bD],rb),([],[bu],kv)],⟨[],[bD,bu],[(bD,aI 29),(bu,aI 33)],[],[],[]⟩⟩
noncomputable def u0:Go:=⟨lQ (sc 0) (sc 0) .no [bC],[([],[bD],rb)],⟨[],[bD],[(bD,aI 29)],[],[],[]⟩⟩
noncomputable def u3:Go:=⟨lQ .u (cZ "none") .no [],[],⟨[],[dc "none"],[],[dc "none"],[],[]⟩⟩
noncomputable def eB(nm other:V)(t:mh)(aE:List bz):b4:=xA dY (acz nm other++t.os) t.au aE 0 (CF 683 (aI 27) (t.v 32) nm)
noncomputable def lL(b:b5):b4:=⟨GE.os.take 2++ [fix (entity (cZ "generic") (.s (hq 0)) .u .u (aC 0) .u .u .u dt sa .u)],[b],[dD],0,[]⟩
noncomputable def wz:List ag:=[tq 1 "_1",dc "f"]
noncomputable def nf(b:b5):List (List Nat×List ag×b4):=[([1],[bD],lL b),([1],[bD],me)]
noncomputable def kH:b5:=(2,10,none)
noncomputable def wB(n:Nat):List (ag×V):=[(hq 0,aI n),(bb 0,aI (n+2))]
noncomputable def v3:List ag:=[hq 0,bb 0,tq 1 "_1",jj 1 "_2"]
noncomputable def j_:Go:=⟨eB (sc 2) (sc 1) (.tup 1 (sc 1)) [dD,bC,bC],nf kH++ [([34],[bu],rd)],⟨wB 33,[bu,c3]++wz,[(bu,aI 47)],c3::v3,[],[c3]⟩⟩
noncomputable def rJ:Go:=⟨eB (sc 2) (sc 1) .no [dD,bC,bC],nf kH++ [([33],[bu],rd),([],[c3],kv)],⟨wB 32,[bu,c3]++wz,[(bu,aI 46),(c3,aI 51)],v3,[],[]⟩⟩
noncomputable def vs:Go:=⟨eB (sc 1) (sc 1) .no [dD,bC],nf kH++ [([33],[bu],rd)],⟨wB 32,bu::wz,[(bu,aI 46)],v3,[],[]⟩⟩
noncomputable def h0:Go:=⟨eB .u (cZ "none") .no [dD],nf kH,⟨wB 32,dc "none"::wz,[],dc "none"::v3,[],[]⟩⟩
noncomputable def qf:Go:=⟨eB .u (sc 1) .no [dD,bC],nf kH++ [([2],[bu],EG)],⟨wB 32,bu::wz,[(bu,aI 46)],v3,[],[]⟩⟩
noncomputable def hX(b dE:b5):Go:=⟨eB .u (sc 1) .no [dD,bC],nf b++ [([],[bu],pO dE)],⟨wB 32,bu::wz,[(bu,aI 47)],v3,[],[]⟩⟩
noncomputable def cO(K:b7)(H:gW)(x:Go):Out di:=(ep K H 300).xs (lax K) ((ea K).drop 3) x.st
structure aZ where
 ad:List (aF×aF)
 aC:List Int
 aj:List Nat
 ck:List bz
structure aZ.le(a b:aZ):Prop where
 ad:a.ad<+:b.ad
 aC:a.aC<+:b.aC
 aj:a.aj<+:b.aj
 ck:a.ck<+:b.ck
theorem aZ.le.refl(a:aZ):a.le a:=⟨iH _,iH _,iH _,iH _⟩
theorem aZ.le.trans{a b c:aZ}(x:a.le b)(y:b.le c):a.le c:=⟨x.ad.trans y.ad,x.aC.trans y.aC,x.aj.trans y.aj,x.ck.trans y.ck⟩
theorem a4{l m:List aV}(h:l<+:m){x:aV}(e:l[n]? =C x):m[n]? =C x:=by(refine bG h λt J=>?_;try clear h;subst J);refine bG (j0.mp e) λaX he=>?_;(refine G (wU aX) ?_;exact G e rfl)
noncomputable def bo.val(β:aZ):bo->Option Int
 |.lit c=>C c
 |.aL c neg v=>match β.aC[v]? with
  |some z=>C (match neg with|false=>c+z|true=>c-z)
  |none=>none
noncomputable def eR(z:Int):bz:=cs (bO (toString z))
noncomputable def c1.val(β:aZ):c1->Option bz
 |.lit l=>C l
 |.dec e=>(e.val β).map eR
 |.chr k=>(β.aj[k]?).map λc=>[c]
 |.any k=>β.ck[k]?
noncomputable def ag.val(β:aZ):ag->Option bz
 |[]=>C []
 |p::r=>match p.val β,ag.val β r with
  |some a,some b=>C (a++b)
  |_,_=>none
noncomputable def aQ(l:bz):Str:=⟨l.toArray⟩
theorem Gf(l:bz):cs (aQ l)=l:=rfl
theorem hj(x:aO):aQ (cs x)=x:=by cases x;simp[aQ,cs]
theorem oh{l m:bz}(h:aQ l=aQ m):l=m:=by obtain this:=congrArg cs h;exact this
noncomputable def a7(β:aZ):V->az->Prop
 |.c v,x=>x=v
 |.i e,x=>∃z t,e.val β=C z/\x=.int z t
 |.s e,x=>∃l t,ag.val β e=C l/\x=.str (aQ l) t
 |.r n,x=>∃a d,β.ad[n]? =C (a,d)/\x=.ref a
 |.u,_=>True
theorem bo.hy{a b:aZ}(h:a.le b){e:bo}(q:e.val a=C z):e.val b=C z:=by
 induction e using MI.bo.casesOn with
 |lit c=>exact q
 |aL c neg v=>
  simp only[bo.val] at q ⊢;generalize bJ:a.aC[v]? =aD;induction aD using b3 with
  |none=>rw[bJ] at q;exact bM q
  |some y=>rw[bJ] at q;exact G (a4 h.aC bJ) q
theorem c1.hy{a b:aZ}(h:a.le b){p:c1}{l:bz}(q:p.val a=C l):p.val b=C l:=by
 induction p using MI.c1.casesOn with
 |lit _=>exact q
 |dec e=>simp only[c1.val] at q ⊢;(refine aS (pI.mp q) λz a8 J=>?_;(clear q;subst J));exact G (bo.hy h a8) rfl
 |chr k=>simp only[c1.val] at q ⊢;(refine aS (pI.mp q) λz a8 J=>?_;(clear q;subst J));exact G (a4 h.aj a8) rfl
 |any k=>exact a4 h.ck q
variable{β:aZ}
theorem ag.eN{p:c1}{r:ag}{l:bz}:ag.val β (p::r)=C l↔∃a b,p.val β=C a/\ag.val β r=C b/\l=a++b:=by show(match p.val β,ag.val β r with|some a,some b=>C (a++b)|_,_=>none)=C l↔_;cases b6:p.val β<;>cases cb:ag.val β r<;>simp[eq_comm]
theorem ag.hy{a b:aZ}(h:a.le b):∀{e:ag}{l:bz},ag.val a e=C l->ag.val b e=C l
 |[],_,q=>q
 |p::r,l,q=>by(refine fD (ag.eN.mp q) λx y ak bS J=>?_;(clear q;subst J));exact ag.eN.mpr (d1 x y (c1.hy h ak) (ag.hy h bS) rfl)
theorem a7.le{a b:aZ}(h:a.le b){v:V}{x:az}(q:a7 a v x):a7 b v x:=by
 induction v using MI.V.casesOn with
 |c v=>exact q
 |i e=>(refine cz q λz t a8 e=>?_;try clear q);exact⟨z,t,bo.hy h a8,e⟩
 |s e=>(refine cz q λz t a8 e=>?_;try clear q);exact⟨z,t,ag.hy h a8,e⟩
 |u=>trivial
 |r n=>(refine cz q λz t a8 e=>?_;try clear q);exact⟨z,t,a4 h.ad a8,e⟩
inductive bK{aV β:Type}(R:aV->β->Prop):List aV->List β->Prop
 |nil:bK R [] []
 |cons {a b l m}:R a b->bK R l m->bK R (a::l) (b::m)
namespace bK
variable{β:Type}{R hV:aV->β->Prop}
theorem imp(h:∀a b,R a b->hV a b){l:List aV}{m:List β}(r:bK R l m):bK hV l m:=by
 induction r with
 |nil=>exact .nil
 |cons x _ bF=>exact .cons (h _ _ x) bF
theorem length{l:List aV}{m:List β}(r:bK R l m):l.length=m.length:=by
 induction r with
 |nil=>rfl
 |cons _ _ bF=>exact congrArg (·+1) bF
theorem append{l a_:List aV}{m jP:List β}(r:bK R l m)(h:bK R a_ jP):bK R (l++a_) (m++jP):=by
 induction r with
 |nil=>exact h
 |cons x _ bF=>exact .cons x bF
theorem get{l:List aV}{m:List β}(r:bK R l m):∀{i:Nat}{a:aV},l[i]? =C a->∃b,m[i]? =C b/\R a b:=by
 induction r with
 |nil=>exact λe=>nomatch e
 |cons x _ bF=>
  intro i a e;induction i using hD with
  |zero=>(obtain J:=aT e;clear e;subst J);exact(bh _ rfl x)
  |succ i=>exact bF (i:=i) e
theorem Oz{l:List aV}{m:List β}(h:bK R l m){i:Nat}(e:l[i]? =none):m[i]? =none:=by rw[S_] at e ⊢;exact G (bV h.length) e
theorem drop{l:List aV}{m:List β}(n:Nat)(r:bK R l m):bK R (l.drop n) (m.drop n):=by
 induction r generalizing n with
 |nil=>cases n<;>exact .nil
 |cons x y bF=>
  induction n using hD with
  |zero=>exact .cons x y
  |succ n=>exact bF n
theorem snoc{l:List aV}{m:List β}{x:aV}{y:β}(q:bK R l m)(r:R x y):bK R (l++ [x]) (m++ [y]):=q.append (.cons r .nil)
theorem reverse{l:List aV}{m:List β}(r:bK R l m):bK R l.reverse m.reverse:=by
 induction r with
 |nil=>exact .nil
 |cons x _ bF=>(refine G KQ (G KQ ?_));exact bF.append (.cons x .nil)
end bK
theorem oU{a b:aO}:eqs a b=ai↔a≠b:=by(refine G (bV (Bool.not_eq_true _)) ?_;rewrite[gu];with_reducible rfl)
theorem fY:∀(l:List aV)(i:Nat),cG l i=l[i]?
 |[],_=>rfl
 |x::r,i=>by
  show(match cv i 0 with|true=>C x|false=>cG r (i-1))=_;induction i using hD with
  |zero=>rfl
  |succ i=>show cG r (i+1-1)=_;refine G (fY _ _) ?_;simp
theorem vQ(x:aO):∀(l:List (aO×hl)),gR x l=l.lookup x
 |[]=>rfl
 |(y,k)::r=>by
  show(match eqs y x with|true=>C k|false=>gR x r)=_;refine G nQ ?_;generalize h:eqs y x=aD;induction aD using bZ with
  |true=>refine G (gu.mp h) ?_;simp
  |false=>obtain this:=oU.mp h;exact G (show(x==y)=ai from by simpa using λe=>this e.symm) (vQ x r)
theorem Ov(x y:aO)(v:V):∀(l:List (aO×V)),ed y (ny x v l)=if y=x then C v else ed y l
 |[]=>by
  show(match eqs x y with|true=>C v|false=>none)=_;generalize h:eqs x y=aD;induction aD using bZ with
  |true=>refine G (gu.mp h) ?_;simp
  |false=>exact G (if_neg (λe=>oU.mp h e.symm)) rfl
 |e::r=>by
  refine G (ady _ _ _ _) ?_;generalize h:eqs e.1 x=aD;induction aD using bZ with
  |true=>
   have he:=gu.mp h;show(match eqs e.1 y with|true=>C v|false=>ed y r)=if y=x then C v else(match eqs e.1 y with|true=>C e.2|false=>ed y r);generalize af:eqs e.1 y=aD;induction aD using bZ with
   |true=>obtain this:=gu.mp af;exact G (if_pos (this.symm.trans he)) rfl
   |false=>exact G (if_neg (λq=>oU.mp af (he.trans q.symm))) rfl
  |false=>
   show(match eqs e.1 y with|true=>C e.2|false=>ed y (ny x v r))=if y=x then C v else(match eqs e.1 y with|true=>C e.2|false=>ed y r);generalize af:eqs e.1 y=aD;induction aD using bZ with
   |true=>have:=gu.mp af;exact G (if_neg (λq=>oU.mp h (this.trans q))) rfl
   |false=>exact Ov x y v r
variable{j:Nat}
namespace d0
theorem beq_eq(a b:Nat):cv a b=decide (a=b):=by
 generalize h:cv a b=aD;induction aD using bZ with
 |true=>refine G (d2 h) ?_;simp
 |false=>have:=Ku h;simp[this]
theorem get_node(v:Option aV)(l r:d0 aV)(i:Nat):(node v l r).get i=if i=0 then v else if i%2=1 then l.get (i/2) else r.get (i/2-1):=by
 show(match cv i 0 with|true=>v|false=>match cv (i%2) 1 with|true=>l.get (i/2)|false=>r.get (i/2-1))=_;(refine G (beq_eq _ _) (G (beq_eq _ _) ?_));by_cases h:i=0
 .simp[h]
 .by_cases q:i%2=1<;>simp[h,q]
theorem get_nil(i:Nat):(nil:d0 aV).get i=none:=rfl
theorem OI{i:Nat}(a:j%2=i%2)(q:j/2=i/2):j=i:=G (bV (K6 j 2)) (G (bV (K6 i 2)) (G a (G q rfl)))
theorem GW{i:Nat}(bN:i≠0)(a:¬i%2=1):0<i/2:=Nat.div_pos (Ai (Nat.pos_of_ne_zero bN) λe=>a (e▸rfl)) (aR rfl)
theorem Zd{i:Nat}(bN:i≠0)(cD:j≠0)(a:¬i%2=1)(b:¬j%2=1)(q:j/2-1=i/2-1):j=i:=
 OI (((S9 j).resolve_right b).trans ((S9 i).resolve_right a).symm) (Nat.sub_one_cancel (GW cD b) (GW bN a) q)
theorem Ze{i:Nat}(h:i+1<2*n)(a:i%2=1):i/2+1<n:=
 have e:2*(i/2)+1=i:=a▸K6 i 2
 Nat.lt_of_mul_lt_mul_left (a:=2) (show 2*(i/2)+1+1<2*n from e.symm▸h)
theorem Zf{i:Nat}(h:i+1<2*n)(bN:i≠0)(a:¬i%2=1):i/2-1+1<n:=
 (Nat.sub_add_cancel (GW bN a)).symm▸Nat.div_lt_of_lt_mul (Nat.lt_of_succ_lt h)
theorem Hc:∀(d:Nat)(t:d0 aV)(i:Nat)(x:aV)(j:Nat),i+1<2^d->(put d t i x).get j=if j=i then C x else t.get j
 |0,t,i,x,j,h=>absurd h (D1 (w6 1 i))
 |d+1,t,i,x,j,h=>by
  have h:i+1<2*2^d:=by rw[Nat.pow_succ,Nat.mul_comm] at h;exact h
  have key:∀(v:Option aV)(l r:d0 aV),(match cv i 0 with
    |true=>node (C x) l r
    |false=>match cv (i%2) 1 with
     |true=>node v (put d l (i/2) x) r
     |false=>node v l (put d r (i/2-1) x)).get j=if j=i then C x else(node v l r).get j:=by
   intro v l r;(refine G (beq_eq _ _) (G (beq_eq _ _) ?_));by_cases bN:i=0
   .simp only[bN,decide_true,get_node];by_cases cD:j=0<;>simp[cD]
   .simp only[bN,decide_false];by_cases bw:i%2=1
    .simp only[bw,decide_true,get_node];refine G (Hc d l (i/2) x (j/2) (Ze h bw)) ?_;by_cases cD:j=0
     .subst cD;rw[if_pos rfl,if_neg (km bN),if_pos rfl]
     .simp only[cD,if_false];by_cases qi:j%2=1
      .simp only[qi,if_true];by_cases e:j=i
       ·(clear bw bN h;subst e);simp
       ·(exact G (if_neg e) (G (if_neg (λq=>e (OI (qi.trans bw.symm) q))) rfl))
      .simp only[qi,if_false];(refine G (if_neg (λq:j=i=>qi (G q bw))) ?_;with_reducible rfl)
    .simp only[bw,decide_false,get_node];refine G (Hc d r (i/2-1) x (j/2-1) (Zf h bN bw)) ?_;by_cases cD:j=0
     .subst cD;rw[if_pos rfl,if_neg (km bN),if_pos rfl]
     .simp only[cD,if_false];by_cases qi:j%2=1
      .simp only[qi,if_true];(refine G (if_neg (λq:j=i=>bw (G (bV q) qi))) ?_;with_reducible rfl)
      .simp only[qi,if_false];by_cases e:j=i
       ·(clear bw bN h;subst e);simp
       ·(exact G (if_neg e) (G (if_neg (λq=>e (Zd bN cD bw qi q))) rfl))
  cases t with
  |nil=>obtain k:=key none nil nil;rw[show(node none nil nil:d0 aV).get j=(nil:d0 aV).get j from by rw[get_node];simp[get_nil]] at k;exact k
  |node v l r=>exact key v l r
theorem k8(d:Nat)(t:d0 aV)(i:Nat)(x:aV)(j:Nat)(h:i<2^d-1):(put d t i x).get j=if j=i then C x else t.get j:=Hc d t i x j (Nat.add_lt_of_lt_sub h)
end d0
structure Facts(S:Nat)(au:List b5)(aE:List bz)(ns:Nat)(β:aZ):Prop where
 aC:bK (λ(b:b5)(z:Int)=>b.1<=z/\z<=b.2.1/\∀j,b.2.2=C j->z<=((S+j:Nat):Int)) au β.aC
 aj:bK (λ(l:bz) c=>c∈l) aE β.aj
 cd:β.aj.Nodup
 de:β.ck.length=ns
 ck:∀l∈β.ck,l.length<=1000
theorem Qg(a b:Int):ltI a b=decide (a<b):=rfl
theorem x8(a b:Int):kA a b=decide (a=b):=rfl
variable{aE:List bz}{ns:Nat}
section
variable{au:List b5}
namespace bo
theorem lo_le(F:Facts S au aE ns β){e:bo}{x:Int}(h:e.lo au=C x)(q:e.val β=C z):x<=z:=by
 induction e using MI.bo.casesOn with
 |lit c=>(obtain J:=aT h;clear h;subst J);(obtain J:=aT q;clear q;subst J);exact xb _
 |aL c neg v=>
  simp only[lo] at h;generalize aB:au[v]? =aD;induction aD using b3 with
  |none=>rw[aB] at h;exact bM h
  |some b=>
   refine jQ (F.aC.get aB) λy bS aa af I=>?_;rw[aB] at h;simp only[val,bS] at q;induction neg using bZ with
   |false=>(obtain J:=aT h;clear h;subst J);(obtain J:=aT q;clear q;subst J);show c+b.1<=c+y;lia
   |true=>(obtain J:=aT h;clear h;subst J);(obtain J:=aT q;clear q;subst J);show c-b.2.1<=c-y;lia
theorem vU(F:Facts S au aE ns β){e:bo}{x:Int}(h:e.bN au=C x)(q:e.val β=C z):z<=x:=by
 induction e using MI.bo.casesOn with
 |lit c=>(obtain J:=aT h;clear h;subst J);(obtain J:=aT q;clear q;subst J);exact xb _
 |aL c neg v=>
  simp only[bN] at h;generalize aB:au[v]? =aD;induction aD using b3 with
  |none=>rw[aB] at h;exact bM h
  |some b=>
   refine jQ (F.aC.get aB) λy bS aa af I=>?_;rw[aB] at h;simp only[val,bS] at q;induction neg using bZ with
   |false=>(obtain J:=aT h;clear h;subst J);(obtain J:=aT q;clear q;subst J);show c+y<=c+b.2.1;lia
   |true=>(obtain J:=aT h;clear h;subst J);(obtain J:=aT q;clear q;subst J);show c-y<=c-b.1;lia
theorem A0{a b e:bo}{x y:Int}(h:add a b=C e)(aU:a.val β=C x)(aB:b.val β=C y):e.val β=C (x+y):=by
 induction a using MI.bo.casesOn with
 |lit c=>
  (obtain J:=aT aU;clear aU;subst J);induction b using MI.bo.casesOn with
  |lit d=>(obtain J:=aT aB;clear aB;subst J);(obtain J:=aT h;clear h;subst J);rfl
  |aL d n v=>
   (obtain J:=aT h;clear h;subst J);simp only[val] at aB ⊢;generalize bJ:β.aC[v]? =aD;induction aD using b3 with
   |none=>rw[bJ] at aB;exact bM aB
   |some z=>rw[bJ] at aB;(obtain J:=aT aB;clear aB;subst J);cases n<;>(simp;lia)
 |aL c n v=>
  induction b using MI.bo.casesOn with
  |lit d=>
   (obtain J:=aT aB;clear aB;subst J);(obtain J:=aT h;clear h;subst J);simp only[val] at aU ⊢;generalize bJ:β.aC[v]? =aD;induction aD using b3 with
   |none=>rw[bJ] at aU;exact bM aU
   |some z=>rw[bJ] at aU;(obtain J:=aT aU;clear aU;subst J);cases n<;>(simp;lia)
  |aL d m u=>exact bM h
theorem Du{a b:bo}{x y:Int}(h:same a b=ae)(aU:a.val β=C x)(aB:b.val β=C y):x-a.const=y-b.const:=by
 induction a using MI.bo.casesOn with
 |lit c=>
  induction b using MI.bo.casesOn with
  |lit d=>(obtain J:=aT aU;clear aU;subst J);(obtain J:=aT aB;clear aB;subst J);simp[const]
  |aL d m u=>exact c7 h
 |aL c n v=>
  induction b using MI.bo.casesOn with
  |lit d=>exact c7 h
  |aL d m u=>
   obtain this:xP n m=ae/\v=u:=by
    simp only[same] at h;generalize q:xP n m=aD;induction aD using bZ with
    |true=>rw[q] at h;exact⟨rfl,d2 h⟩
    |false=>rw[q] at h;exact c7 h
   (refine a3 this λaa J=>?_;try clear this;subst J);obtain this:n=m:=by cases n<;>cases m<;>first|rfl|exact c7 aa
   subst this;simp only[val] at aU aB;generalize bJ:β.aC[v]? =aD;induction aD using b3 with
   |none=>rw[bJ] at aU;exact bM aU
   |some z=>rw[bJ] at aU aB;(obtain J:=aT aU;clear aU;subst J);(obtain J:=aT aB;clear aB;subst J);cases n<;>simp[const]<;>lia
theorem JP{a b e:bo}{x y:Int}(h:sub a b=C e)(aU:a.val β=C x)(aB:b.val β=C y):e.val β=C (x-y):=by
 induction a using MI.bo.casesOn with
 |lit c=>
  (obtain J:=aT aU;clear aU;subst J);induction b using MI.bo.casesOn with
  |lit d=>(obtain J:=aT aB;clear aB;subst J);(obtain J:=aT h;clear h;subst J);rfl
  |aL d n v=>
   (obtain J:=aT h;clear h;subst J);simp only[val] at aB ⊢;generalize bJ:β.aC[v]? =aD;induction aD using b3 with
   |none=>rw[bJ] at aB;exact bM aB
   |some z=>rw[bJ] at aB;(obtain J:=aT aB;clear aB;subst J);cases n<;>(simp;lia)
 |aL c n v=>
  induction b using MI.bo.casesOn with
  |lit d=>
   (obtain J:=aT aB;clear aB;subst J);(obtain J:=aT h;clear h;subst J);simp only[val] at aU ⊢;generalize bJ:β.aC[v]? =aD;induction aD using b3 with
   |none=>rw[bJ] at aU;exact bM aU
   |some z=>rw[bJ] at aU;(obtain J:=aT aU;clear aU;subst J);cases n<;>(simp;lia)
  |aL d m u=>
   simp only[sub] at h;generalize q:same (.aL c n v) (.aL d m u)=aD;induction aD using bZ with
   |false=>rw[q] at h;exact bM h
   |true=>rw[q] at h;(obtain J:=aT h;clear h;subst J);obtain this:=Du q aU aB;simp only[const] at this;simp only[val,DW];lia
theorem IU(F:Facts S au aE ns β){a b:bo}{r:Bool}{x y:Int}(h:lt au a b=C r)(aU:a.val β=C x)(aB:b.val β=C y):r=decide (x<y):=by
 unfold lt at h;generalize q:same a b=aD;induction aD using bZ with
 |true=>rw[q] at h;obtain this:=Du q aU aB;exact(c0 h).symm.trans (decide_eq_decide.mpr (af0 this))
 |false=>
  rw[q] at h;exact ct h λu cx h=>ct h λv bJ h=>by
   obtain aa:=vU F cx aU;obtain af:=lo_le F bJ aB;generalize q:ltI u v=aD;induction aD using bZ with
   |true=>rw[q] at h;exact(c0 h).symm.trans (decide_eq_true (KN aa (KO (aR q) af))).symm
   |false=>
    rw[q] at h;exact ct h λmI qn h=>ct h λgA lg h=>by
     obtain aJ:=lo_le F qn aU;obtain bl:=vU F lg aB;generalize q:ltI mI gA=aD;induction aD using bZ with
     |true=>rw[q] at h;exact bM h
     |false=>rw[q] at h;exact(c0 h).symm.trans (decide_eq_false λz=>of_decide_eq_false q (KN aJ (KO z bl))).symm
theorem Fl{x:Option Bool}(h:x.any id=ae):x=C true:=cN h λa e q=>e.trans (congrArg C q)
theorem k4(F:Facts S au aE ns β){a b:bo}{r:Bool}{x y:Int}(h:eq au a b=C r)(aU:a.val β=C x)(aB:b.val β=C y):r=decide (x=y):=by
 unfold eq at h;generalize q:same a b=aD;induction aD using bZ with
 |true=>rw[q] at h;obtain this:=Du q aU aB;exact(c0 h).symm.trans (decide_eq_decide.mpr (afZ this))
 |false=>
  rw[q] at h;generalize dS:(lt au a b).any id=aD;induction aD using bZ with
  |true=>rw[dS] at h;exact(c0 h).symm.trans (decide_eq_false (Int.ne_of_lt (aR (IU F (Fl dS) aU aB).symm))).symm
  |false=>
   rw[dS] at h;generalize cE:(lt au b a).any id=aD;induction aD using bZ with
   |true=>rw[cE] at h;exact(c0 h).symm.trans (decide_eq_false (Int.ne_of_gt (aR (IU F (Fl cE) aB aU).symm))).symm
   |false=>
    rw[cE] at h;refine ct h λu cx h=>ct h λmI qn h=>ct h λv bJ h=>ct h λgA lg h=>?_;generalize q:(kA u mI&&kA v gA&&kA u v)=aD;induction aD using bZ with
    |true=>rw[q] at h;obtain aa:=lo_le F cx aU;obtain af:=vU F qn aU;obtain aJ:=lo_le F bJ aB;obtain bl:=vU F lg aB;obtain a9:u=mI:=aR (bR (bR q));obtain bf:v=gA:=aR (bB (bR q));have cB:u=v:=aR (bB q);exact(c0 h).symm.trans (decide_eq_true (Int.le_antisymm (gk af (gk (uC (a9.symm.trans cB)) aJ)) (gk bl (gk (uC (bf.symm.trans cB.symm)) aa)))).symm
    |false=>rw[q] at h;exact bM h
end bo
theorem vY{c:Nat}{l:List Nat}:nq c l=ae↔c∈l:=DZ.trans ⟨λgd=>(by(refine aS gd λI h e=>?_;try clear gd);exact d2 e▸h),λh=>(bh c h (Lf c))⟩
theorem abW{c:Nat}{l:List Nat}:nq c l=decide (c∈l):=by(refine gM w5 ?_;rewrite[vY,decide_eq_true_iff];with_reducible rfl)
theorem Jj{p l:List Nat}:wx p l=ae↔p<+:l:=List.isPrefixOf_iff_prefix
theorem RY{p:List Nat}:∀{l:List Nat},wD p l=ae↔p<:+:l
 |[]=>by show wx p []=ae↔_;rw[Jj];simp
 |b::l=>by
  show(match wx p (b::l) with|true=>ae|false=>wD p l)=ae↔_;rw[List.infix_cons_iff];generalize h:(wx p (b::l))=aD;induction aD using bZ with
  |true=>simp[Jj.mp h]
  |false=>
   obtain this:¬p<+:b::l:=λq=>by rw[Jj.mpr q] at h;exact jB h
   simp[this,RY (l:=l)]
theorem Nm(z:Int):eR z≠ []:=by
 intro h;have aa:(toString z).toList.map Lq=[]:=by exact G (bV (Lp _)) h
 rw[Tw,Int.toString_eq_repr,Int.repr_eq_if] at aa;split at aa
 .rw[Nat.toList_repr] at aa;obtain this:=Nat.length_toDigits_pos (b:=10) (n:=z.toNat);rw[aa] at this;simp at this
 .rw[String.toList_append] at aa;simp at aa
theorem Gm(z:Int):∀c∈eR z,tn c=true:=by
 intro c bb;unfold eR cs at bb;rw[Lp] at bb;(refine aS (kY.mp bb) λch cQ J=>?_;subst J);unfold tn;rcases int_sign z ch cQ with h|h
 .have:=digit_range h;simp[Nat.ble_eq,this]
 ·(clear bb cQ;subst h);exact rfl
namespace ag
theorem IS{p:c1}{l:bz}(h:o7 p=C l):p=.lit l:=by
 induction p using MI.c1.casesOn with
 |lit m=>exact congrArg _ (c0 h)
 |_=>exact bM h
theorem WE{p:c1}{e:ag}{l:bz}(h:val β (p::e)=C l):val β (cons p e)=C l:=by
 induction e using es with
 |nil=>exact h
 |cons q r=>
  show val β (match(o7 p).bind λl=>(o7 q).map λm=>l++m with|some x=>.lit x::r|none=>p::q::r)=_;generalize w:((o7 p).bind λl=>(o7 q).map λm=>l++m)=aD;induction aD using b3 with
  |none=>exact h
  |some x=>
   exact ct w λa_ a9 w=>by refine aS (pI.mp w) λjP bf w=>?_;rw[IS a9,IS bf] at h;(refine fD (eN.mp h) λa b aU aB J=>?_;subst J);(refine fD (eN.mp aB) λc d bb hd J=>?_;subst J);(obtain J:=aT aU;clear aU;subst J);(obtain J:=aT bb;clear bb;(clear h aB;subst J));subst w;exact eN.mpr (d1 _ d rfl hd (G (nP _ _ _) rfl))
theorem FZ:∀{a b:ag}{x y:bz},val β a=C x->val β b=C y->val β (cat a b)=C (x++y)
 |[],b,x,y,h,q=>by(obtain J:=aT h;clear h;subst J);exact q
 |[p],b,x,y,h,q=>by(refine fD (eN.mp h) λu v cx bJ J=>?_;subst J);(obtain J:=aT bJ;clear bJ;(clear h;subst J));exact G (ma _) (WE (eN.mpr (d1 u y cx q rfl)))
 |p::dI::r,b,x,y,h,q=>by(refine fD (eN.mp h) λu v cx bJ J=>?_;(clear h;subst J));exact eN.mpr (d1 u (v++y) cx (FZ bJ q) (nP ..))
inductive Ul(β:aZ)(l:bz)(p:c1)(r:ag):Prop
 |mk (aN:∀m,p≠.lit m) (a b:bz) (aa:p.val β=some a) (af:val β r=some b) (e:l=a++b)
noncomputable def EK(β:aZ)(l:bz):sQ->Prop
 |.done=>l=[]
 |.one c r=>∃m,val β r=C m/\l=c::m
 |.nx p r=>Ul β l p r
theorem BU:∀{e:ag}{l:bz},val β e=C l->EK β l (head e)
 |[],_,h=>by(obtain J:=aT h;clear h;subst J);exact rfl
 |.lit []::r,l,h=>by(refine fD (eN.mp h) λu v cx bJ J=>?_;subst J);(obtain J:=aT cx;clear cx;(clear h;subst J));exact BU (e:=r) bJ
 |.lit (c::m)::r,l,h=>by(refine fD (eN.mp h) λu v cx bJ J=>?_;subst J);(obtain J:=aT cx;clear cx;(clear h;subst J));exact⟨m++v,eN.mpr (d1 m v rfl bJ rfl),rfl⟩
 |.dec e::r,l,h=>by(refine fD (eN.mp h) λu v cx bJ J=>?_;(clear h;subst J));exact⟨λI q=>(by(injection q)),u,v,cx,bJ,rfl⟩
 |.chr e::r,l,h=>by(refine fD (eN.mp h) λu v cx bJ J=>?_;(clear h;subst J));exact⟨λI q=>(by(injection q)),u,v,cx,bJ,rfl⟩
 |.any e::r,l,h=>by(refine fD (eN.mp h) λu v cx bJ J=>?_;(clear h;subst J));exact⟨λI q=>(by(injection q)),u,v,cx,bJ,rfl⟩
theorem vf{e:bo}{a:bz}(h:(c1.dec e).val β=C a):∃z,e.val β=C z/\a=eR z:=by(refine aS (pI.mp (show(e.val β).map eR=C a from h)) λz a8 J=>?_;(clear h;subst J));exact(bh z a8 rfl)
theorem b9{a:bz}(h:(c1.chr k).val β=C a):∃c,β.aj[k]? =C c/\a=[c]:=by(refine aS (pI.mp (show(β.aj[k]?).map (λc=>[c])=C a from h)) λz a8 J=>?_;(clear h;subst J));exact(bh z a8 rfl)
set_option tactic.hygienic true in
theorem M0(F:Facts S au aE ns β){c d:Nat}(h:s_ aE k c=C ai)(q:β.aj[k]? =C d):c≠d:=by
 unfold s_ clsAt at h;generalize aX:aE[k]? =z at h;induction z using b3 with
 |none=>exact bM h
 |some l=>dsimp only at h;refine aS (F.aj.get aX) λec lV hm=>?_;rw[q] at lV;(obtain J:=aT lV;clear lV;subst J);intro e;(clear q;subst e);obtain this:nq c l=true:=vY.mpr hm;rw[this] at h;(obtain J:=aT h;clear h;exact jB J)
theorem Ri{p:c1}{a:bz}(aN:∀m,p≠.lit m)(b6:∀k,p≠.any k)(h:p.val β=C a):a≠ []:=by
 induction p using MI.c1.casesOn with
 |lit m=>exact absurd rfl (aN m)
 |dec e=>(refine aS (vf h) λz I J=>?_;(clear h;subst J));exact Nm z
 |chr k=>(refine aS (b9 h) λc I J=>?_;(clear h;subst J));simp
 |any k=>exact absurd rfl (b6 k)
theorem Cq{x:Option Bool}(h:kc x=ae):x=C false:=by
 induction x using b3 with
 |none=>exact c7 h
 |some b=>exact congrArg C (jl _▸h)
theorem BS{a b:Nat}{l m:bz}(h:a≠b):a::l≠b::m:=λe=>h (qQ e).1
theorem SH(F:Facts S au aE ns β){c:Nat}{x:Option Bool}{p:c1}{r:Bool}{a b m:bz}(h:z3 aE c x p=C r)(b6:p.val β=C a)(ak:x=C ai->m≠b):r=ai/\c::m≠a++b:=by
 induction p using MI.c1.casesOn with
 |lit m=>exact bM h
 |any k=>exact bM h
 |dec e=>
  refine aS (vf b6) λz I e=>?_;unfold z3 at h;dsimp only at h;generalize q:tn c=aD;induction aD using bZ with
  |true=>rw[q] at h;exact bM h
  |false=>
   rw[q] at h;refine⟨(c0 h).symm,?_⟩;refine G e ?_;generalize hd:eR z=aD;induction aD using es with
   |nil=>exact absurd hd (Nm z)
   |cons x l=>refine BS λe=>?_;obtain this:=Gm z x (G hd (wY ..));rw[<-e,q] at this;exact c7 this
 |chr k=>
  refine aS (b9 b6) λd hd e=>G e ?_;unfold z3 at h;dsimp only at h;generalize q:kc (s_ aE k c)=aD;induction aD using bZ with
  |true=>rw[q] at h;exact⟨(c0 h).symm,BS (M0 F (Cq q) hd)⟩
  |false=>
   rw[q] at h;dsimp only at h;generalize cE:kc x=aD;induction aD using bZ with
   |true=>rw[cE] at h;exact⟨(c0 h).symm,λe=>ak (Cq cE) (qQ e).2⟩
   |false=>rw[cE] at h;exact bM h
theorem NO{p:c1}{r:Bool}{a:bz}(h:GO p=C r)(aN:∀m,p≠.lit m)(b6:p.val β=C a):r=ai/\a≠ []:=by
 induction p using MI.c1.casesOn with
 |any k=>exact bM h
 |lit m=>exact absurd rfl (aN m)
 |dec e=>exact⟨(c0 h).symm,Ri aN (λI q=>c1.noConfusion q) b6⟩
 |chr k=>exact⟨(c0 h).symm,Ri aN (λI q=>c1.noConfusion q) b6⟩
theorem Xf{p:c1}{e:bo}(h:Np p=C e):p=.dec e:=by
 induction p using MI.c1.casesOn with
 |dec x=>exact congrArg _ (c0 h)
 |_=>exact bM h
theorem Wu{p:c1}{e:Nat}(h:MX p=C e):p=.chr e:=by
 induction p using MI.c1.casesOn with
 |chr x=>exact congrArg _ (c0 h)
 |_=>exact bM h
theorem VH{p:c1}{e:Nat}(h:Mh p=C e):p=.any e:=by
 induction p using MI.c1.casesOn with
 |any x=>exact congrArg _ (c0 h)
 |_=>exact bM h
theorem WN(F:Facts S au aE ns β){c:Nat}(aw:β.aj[k]? =C c)(cD:β.aj[j]? =C c):k=j:=by refine bG (j0.mp aw) λaa a9=>?_;refine bG (j0.mp cD) λaf bf=>?_;exact(List.getElem_inj F.cd).mp (a9.trans bf.symm)
theorem XM{a b:bo}{x y:Int}(h:Bu a b=ae)(aU:a.val β=C x)(aB:b.val β=C y):x=y:=by
 unfold Bu at h;split at h
 .rename_i q;obtain this:=bo.Du q aU aB;rw[x8,decide_eq_true_iff] at h;lia
 .exact c7 h
theorem FU{x:Option aV}{f:aV->Option fb}{b:fb}(h:x.bind f=C b):∃a,x=C a/\f a=C b:=by
 induction x using b3 with
 |none=>exact bM h
 |some a=>exact(bh a rfl h)
theorem agJ(F:Facts S au aE ns β){x:Option Bool}{p q:c1}{r:Bool}{u v mI gA:bz}(h:SI aE x p q=C r)(cx:p.val β=C u)(qn:q.val β=C mI)(ak:∀r,x=C r->r=decide (v=gA)):r=decide (u++v=mI++gA):=by
 have same:u=mI->x=C r->r=decide (u++v=mI++gA):=λa9 bf=>(ak r bf).trans (decide_eq_decide.mpr (a9▸(List.append_cancel_left_eq u v gA▸Iff.rfl)));induction p using MI.c1.casesOn with
 |lit m=>exact bM h
 |dec e=>
  refine aS (FU h) λcq dS af=>?_;cases Xf dS;refine aS (vf cx) λz a8 a9=>aS (vf qn) λgU g5 bf=>?_;generalize cE:Bu e cq=aD;induction aD using bZ with
  |true=>rw[cE] at af;exact same (G a9 (G bf (G (XM cE a8 g5) rfl))) af
  |false=>rw[cE] at af;exact bM af
 |chr k=>
  refine aS (FU h) λj dS af=>?_;cases Wu dS;refine aS (b9 cx) λc bb a9=>aS (b9 qn) λd hd bf=>?_;generalize cE:cv k j=aD;induction aD using bZ with
  |true=>rw[cE] at af;cases d2 cE;cases bb.symm.trans hd;exact same (a9.trans bf.symm) af
  |false=>
   rw[cE] at af;dsimp only at af;generalize fQ:((eQ k aE.length&&eQ j aE.length))=aD;induction aD using bZ with
   |false=>rw[fQ] at af;exact bM af
   |true=>rw[fQ] at af;(refine G (bV (c0 af)) (G a9 (G bf ?_)));refine(decide_eq_false (BS λe=>?_)).symm;exact Ku cE (WN F bb (e▸hd))
 |any k=>
  refine aS (FU h) λj dS af=>?_;cases VH dS;generalize cE:cv k j=aD;induction aD using bZ with
  |true=>rw[cE] at af;cases d2 cE;exact same (c0 (cx.symm.trans qn)) af
  |false=>rw[cE] at af;exact bM af
theorem XK(F:Facts S au aE ns β){E:ag->ag->Option Bool}(bF:∀{a b:ag}{r:Bool}{x y:bz},E a b=C r->val β a=C x->val β b=C y->r=decide (x=y)){A B:sQ}{r:Bool}{x y:bz}(h:NR aE E A B=C r)(rh:EK β x A)(mX:EK β y B):r=decide (x=y):=by
 have no:∀{x y:bz},r=ai->x≠y->r=decide (x=y):=λe n=>e.trans (decide_eq_false n).symm;have half:∀{a b:ag}{x y:bz},val β a=C x->val β b=C y->E a b=C ai->x≠y:=λaU aB e=>of_decide_eq_false (bF e aU aB).symm;cases A with
 |done=>
  have rh:x=[]:=rh;cases B with
  |done=>(refine G rh (G (show y=[] from mX) ?_));exact(c0 h).symm
  |one c s=>(refine aS mX λm I e=>?_;try clear mX);exact no (c0 h).symm (by(refine G rh (G e ?_));exact(KZ _ _).symm)
  |nx p s=>obtain(⟨aN,u,v,cx,bJ,e⟩):=mX;exact a3 (NO h aN cx) λa9 bf=>no a9 (by(refine G rh (G e ?_));exact λq=>bf (Ti.mp q.symm).1)
 |one c s=>
  (refine aS rh λm hm ex=>?_;try clear rh);cases B with
  |done=>exact no (c0 h).symm (by(refine G ex (G (show y=[] from mX) ?_));exact KZ _ _)
  |one d ao=>
   (refine aS mX λjP oX x_=>?_;try clear mX);(refine G ex (G x_ ?_));have af:(match cv c d with|true=>E s ao|false=>C ai)=C r:=h;generalize q:cv c d=aD;induction aD using bZ with
   |true=>rw[q] at af;cases d2 q;exact(bF af hm oX).trans (decide_eq_decide.mpr ⟨congrArg _,λe=>(qQ e).2⟩)
   |false=>rw[q] at af;exact no (c0 af).symm (BS (Ku q))
  |nx p ao=>obtain(⟨aN,u,v,cx,bJ,e⟩):=mX;exact a3 (SH F h cx (half hm bJ)) λa9 bf=>no a9 (by(refine G ex (G e ?_));exact bf)
 |nx p s=>
  obtain(⟨aN,u,v,cx,bJ,ex⟩):=rh;cases B with
  |done=>exact a3 (NO h aN cx) λa9 bf=>no a9 (by(refine G ex (G (show y=[] from mX) ?_));exact λq=>bf (Ti.mp q).1)
  |one c ao=>(refine aS mX λm hm x_=>?_;try clear mX);exact a3 (SH F h cx λe q=>half bJ hm e q.symm) λa9 bf=>no a9 (by(refine G ex (G x_ ?_));exact λq=>bf q.symm)
  |nx q ao=>obtain(⟨tH,mI,gA,qn,lg,x_⟩):=mX;(refine G ex (G x_ ?_));exact agJ F h cx qn λr e=>bF e bJ lg
theorem k4(F:Facts S au aE ns β):∀{n:Nat}{a b:ag}{r:Bool}{x y:bz},eq au aE n a b=C r->val β a=C x->val β b=C y->r=decide (x=y):=by
 intro n;induction n with
 |zero=>exact λh=>nomatch h
 |succ n bF=>exact λh aU aB=>XK F bF h (BU aU) (BU aB)
theorem Ia{x:Option Bool}(h:kc x=ae):x=C false:=by
 induction x using b3 with
 |none=>exact c7 h
 |some b=>induction b using bZ with
  |true=>exact c7 h
  |false=>rfl
theorem ac0(F:Facts S au aE ns β){c:Nat}:∀{e:ag}{r:Bool}{l:bz},occurs aE c e=C r->val β e=C l->r=decide (c∈l):=by
 intro e;induction e with
 |nil=>intro r l h q;(obtain J:=aT h;clear h;subst J);(obtain J:=aT q;clear q;subst J);rfl
 |cons p s bF=>
  intro r l h q;(refine fD (eN.mp q) λu v cx bJ J=>?_;subst J);replace h:(match kc (occurs aE c s) with|true=>QZ aE c p|false=>occurs aE c s)=C r:=h;generalize q:kc (occurs aE c s)=aD;induction aD using bZ with
  |true=>
   rw[q] at h;have Ci:c∉v:=of_decide_eq_false (bF (Ia q) bJ).symm;have no:c∉u->ai=decide (c∈u++v):=λn=>(decide_eq_false λm=>(mb.mp m).elim n Ci).symm;induction p using MI.c1.casesOn with
   |lit m=>(obtain J:=aT h;clear h;subst J);(obtain J:=aT cx;clear cx;(clear q no;subst J));exact G abW (decide_eq_decide.mpr (by simp[Ci]))
   |dec e=>
    (refine aS (vf cx) λz I J=>?_;(clear q cx;subst J));replace h:(match tn c with|true=>none|false=>C ai)=C r:=h;generalize q:tn c=aD;induction aD using bZ with
    |true=>rw[q] at h;exact bM h
    |false=>rw[q] at h;(obtain J:=aT h;clear h;subst J);exact no λhm=>by rw[Gm z c hm] at q;exact jB q
   |chr k=>
    (refine aS (b9 cx) λd hd J=>?_;(clear q cx;subst J));replace h:(match kc (s_ aE k c) with|true=>C ai|false=>none)=C r:=h;generalize q:kc (s_ aE k c)=aD;induction aD using bZ with
    |true=>rw[q] at h;(obtain J:=aT h;clear h;subst J);exact no (by simp[M0 F (Ia q) hd])
    |false=>rw[q] at h;exact bM h
   |any k=>exact bM h
  |false=>
   rw[q] at h;replace h:occurs aE c s=C r:=h;induction r using bZ with
   |false=>rw[h] at q;exact jB q
   |true=>exact(decide_eq_true (sG _ (aR (bF h bJ).symm))).symm
theorem abK{l:bz}:∀{e:ag}{m:bz},CE l e=ae->val β e=C m->l<:+:m:=by
 intro e;induction e with
 |nil=>exact λh=>nomatch h
 |cons p s bF=>
  intro m h q;(refine fD (eN.mp q) λu v cx bJ J=>?_;subst J);replace h:(match(o7 p).any (wD l) with|true=>ae|false=>CE l s)=true:=h;generalize q:(o7 p).any (wD l)=aD;induction aD using bZ with
  |true=>
   exact cN q λk e cE=>by rw[IS e] at cx;(obtain J:=aT cx;clear cx;(clear q;subst J));exact(RY.mp cE).trans (lI _ v).isInfix
  |false=>rw[q] at h;exact(bF h bJ).trans (List.suffix_append u v).isInfix
theorem Mg(F:Facts S au aE ns β){e:ag}{m:bz}(q:val β e=C m):∀{l:bz},xK aE e l=ae->∃c∈l,c∉m
 |[],h=>by exact c7 h
 |c::l,h=>by
  rw[VG] at h;generalize x:kc (occurs aE c e)=aD;induction aD using bZ with
  |true=>exact(bh c (wY ..) (of_decide_eq_false (ac0 F (Ia x) q).symm))
  |false=>rw[x] at h;exact aS (Mg F q h) λd hd hm=>(bh d (mO _ hd) hm)
theorem Zj(F:Facts S au aE ns β){l:bz}{e:ag}{r:Bool}{m:bz}(h:has aE l e=C r)(q:val β e=C m):r=ae↔l<:+:m:=by
 unfold has at h;split at h
 .rename_i x;(obtain J:=aT h;clear h;subst J);exact⟨λ_=>abK x q,λ_=>rfl⟩
 .split at h
  .rename_i x;(obtain J:=aT h;clear h;subst J);exact aS (Mg F q x) λc bb hm=>⟨λe=>(c7 e),λi=>absurd (i.subset bb) hm⟩
  .exact bM h
theorem Yq{e f:ag}{l:bz}(h:first e=C f)(q:val β e=C l):∃c r,l=c::r/\val β f=C [c]:=by
 have H:=BU q;unfold first at h
 generalize hr:head e=aD;cases aD with
 |one c r=>rw[hr] at H h;(refine aS H λm I J=>?_;try clear H;(clear q;subst J));(obtain J:=aT h;clear h;subst J);exact(gi c m rfl (eN.mpr (d1 [c] [] rfl rfl rfl)))
 |nx p r=>
  rw[hr] at H h;clear hr;induction p using MI.c1.casesOn with
  |chr k=>obtain(⟨_,a,b,aU,aB,rfl⟩):=H;(refine aS (b9 aU) λc bb J=>?_;(clear q;subst J));(obtain J:=aT h;clear h;subst J);exact(gi c b rfl (eN.mpr (d1 [c] [] aU rfl rfl)))
  |_=>exact bM h
 |_=>rw[hr] at h;exact bM h
theorem vW{e:ag}{l:bz}(h:kd e=C l):val β e=C l:=by
 induction e using es with
 |nil=>(obtain J:=aT h;clear h;subst J);rfl
 |cons p r=>
  induction p using MI.c1.casesOn with
  |lit l=>
   induction r using es with
   |nil=>(obtain J:=aT h;clear h;subst J);exact eN.mpr (d1 _ [] rfl rfl (by simp))
   |cons _ _=>exact bM h
  |_=>exact bM h
end ag
theorem Oc(F:Facts S au aE ns β){k:ag}{l:bz}(aw:k.val β=C l):∀{ar:List (ag×V)}{i j:Nat}{v:V},(∀e∈ar,∃m,e.1.val β=C m)->tp au aE k i ar=.at j v->
  i<=j/\∃e,ar[j-i]? =C e/\e.2=v/\e.1.val β=C l
 |[],_,_,_,_,h=>by injection h
 |e::r,i,j,v,bJ,h=>by
  rw[Od] at h;refine bG (bJ e (wY ..)) λm hm=>?_;split at h
  .rename_i q;cases h;have:=ag.k4 F q hm aw;obtain a9:m=l:=aR this.symm;(clear aw;subst a9);exact⟨dO _,e,by simp,rfl,hm⟩
  .obtain(⟨aa,cq,af,aJ,bl⟩):=Oc F aw (λe he=>bJ e (mO _ he)) h;refine⟨by exact kp (by assumption),cq,?_,aJ,bl⟩;obtain this:j-i=(j-(i+1))+1:=by exact JO aa
   exact G this af
  .injection h
theorem Oe(F:Facts S au aE ns β){k:ag}{l:bz}(aw:k.val β=C l):∀{ar:List (ag×V)}{i:Nat},(∀e∈ar,∃m,e.1.val β=C m)->tp au aE k i ar=.no->
  ∀e∈ar,∀m,e.1.val β=C m->m≠l
 |[],_,_,_=>by intro e he;cases he
 |e::r,i,bJ,h=>by
  rw[Od] at h;refine bG (bJ e (wY ..)) λm hm=>?_;split at h
  .injection h
  .rename_i q;obtain this:=ag.k4 F q hm aw;obtain a9:m≠l:=of_decide_eq_false this.symm;intro cq ys jP oX;rcases dg.mp ys with rfl|ys
   .rw[hm] at oX;(obtain J:=aT oX;clear oX;subst J);exact a9
   .exact Oe F aw (λe he=>bJ e (mO _ he)) h cq ys jP oX
  .injection h
theorem Qm(F:Facts S au aE ns β){k:ag}{l:bz}(aw:k.val β=C l):∀{ar:List ag},(∀e∈ar,∃m,e.val β=C m)->zd au aE k ar=ae->∃e∈ar,e.val β=C l
 |[],_,h=>by exact c7 h
 |e::r,bJ,h=>by
  rw[abV] at h;refine bG (bJ e (wY ..)) λm hm=>?_;generalize q:(ag.eq au aE 400 e k).any id=aD;induction aD using bZ with
  |true=>exact(bh e (wY ..) (hm.trans (congrArg C (aR (ag.k4 F (bo.Fl q) hm aw).symm))))
  |false=>rw[q] at h;exact aS (Qm F aw (λe he=>bJ e (mO _ he)) h) λcq ys aA=>(bh cq (mO _ ys) aA)
end
structure cy where
 prog:q1
 w:World
 K:b7
 h₀:gj
 p:q1
 loose:List aO
 iS:aO->Option az
 iR:aO->Option az
 S:Nat
 dP:aZ
 base:aF->Option (List (aO×az))
 raw:Nat->cY
 dT:aM
noncomputable abbrev cy.M(g:cy):Model:=c8 g.prog g.w
structure cy.Ok(g:cy):Prop where
 fl:g.K.In g.h₀
 top:sC g.p g.loose g.iS g.iR g.h₀
 S:g.S<=100000
 low:ku<g.h₀.objs.size
structure bc where
 P:aF->Option cY
 cw:List (aF×cY)
 fr:List hB
 L:aF
 A:oA
noncomputable def ip(o:cY):Prop:=∀aK,o.data=.fields aK->aK.size<=3/\∃t,o.cls=.type t
noncomputable def mY(β:aZ)(f:aO×V)(e:hT):Prop:=(∃t,e.key=.str f.1 t)/\a7 β f.2 e.val
noncomputable def most:Nat:=4000
noncomputable def Rest(b:Option (List (aO×az)))(β:aZ)(ay:List (aO×az))(ar:List (ag×V)):Prop:=
 ∀old,b=C old->(old.map (·.1)<+:ay.map (·.1))/\∀k,(∃e:ag×V,e∈ar/\e.1.val β=C (cs k))\/a0 ay k=a0 old k
noncomputable def AY(b:Option (List (aO×az)))(β:aZ)(ay:List (aO×az))(ar:List (ag×V)):Option (List ag)->Prop
 |none=>∀k,a0 ay k≠none->∃e:ag×V,e∈ar/\e.1.val β=C (cs k)
 |some abs=>(∀e:ag,e∈abs->∃l,e.val β=C l/\(a0 ay (aQ l)=none\/∃f:ag×V,f∈ar/\f.1.val β=C l))/\Rest b β ay ar
inductive LH(β:aZ)(ay:List (aO×az))(e:ag×V):Prop
 |mk (l:bz) (v:Value) (aa:e.1.val β=some l) (af:valueAt ay (aQ l)=some v) (aJ:a7 β e.2 v)
noncomputable def kZ(β:aZ)(ay:List (aO×az))(ar:List (ag×V)):Prop:=∀e∈ar,LH β ay e
variable{ay:List (aO×az)}{ar:List (ag×V)}
theorem kZ.vals(h:kZ β ay ar)(e:ag×V)(he:e∈ar):∃m,e.1.val β=C m:=by obtain(⟨m,_,aa,_,_⟩):=h e he;exact⟨m,aa⟩
noncomputable def qG(S:Nat):Option (List ag)->Nat
 |none=>0
 |some _=>S
section
variable(prog:q1)(w:World)(b:Option (List (aO×az)))(S:Nat)(a6:aF->Option cY)(β:aZ)(a d:aF)
inductive T6(U:aF)(dG:List (aO×V)):Prop
 |mk (ne:a≠d) (ar:List DictEntry) (n:Nat) (aa:a6 a=some (instObj U d)) (af:a6 d=some (dictOf ar n)) (aJ:bK (mY β) dG ar)
inductive Ub(xs:List V):Prop
 |mk (e:a=d) (aH:Array Value) (n:Nat) (aa:a6 a=some (listOf aH n)) (af:bK (a7 β) xs aH.toList)
inductive Uc(k:Nat)(xs:List V):Prop
 |mk (e:a=d) (aH:Array Value) (n:Nat) (pre post:List Value) (aa:a6 a=some (listOf aH n)) (af:aH.toList=pre++post) (aJ:β.aC[k]? =some (pre.length:Int)) (bl:bK (a7 β) xs post) (cP:pre.length<=S+most)
inductive Us(xs:List V):Prop
 |mk (e:a=d) (aH:Array Value) (n:Nat) (aa:a6 a=some {cls:=.type "tuple",data:=.seq aH n}) (af:bK (a7 β) xs aH.toList)
inductive TV(ar:List (ag×V))(op:Option (List ag)):Prop
 |mk (e:a=d) (ne:a≠sysModules) (o:Obj) (ay:List (Str×Value)) (aa:a6 a=some o) (af:o.IsDictOf (strKind prog w) ay) (aJ:kZ β ay ar) (bl:ar.Pairwise (λe f=>e.1.val β≠f.1.val β)) (cP:AY b β ay ar op) (eT:ay.length<=ar.length+qG S op)
inductive T5(n j:Nat):Prop
 |mk (e:a=d) (ne:a≠sysModules) (o:Obj) (ay:List (Str×Value)) (aa:a6 a=some o) (af:o.IsDictOf (strKind prog w) ay) (aJ:∀dm∈ay,∃z t,dm.2=.int z t/\0<=z/\z<=((S+j:Nat):Int)) (bl:ay.length<=S+n)
inductive TR(v:Option V):Prop
 |mk (e:a=d) (o:Obj) (y:Option Value) (aa:a6 a=some o) (af:o.data=.cell y) (aJ:match v with|none=>y=none|some v=>∃jY,y=C jY/\a7 β v jY)
end
noncomputable def cL(g:cy)(a6:aF->Option cY)(β:aZ)(a d:aF):O->Prop
 |.inst U dG=>T6 a6 β a d U dG
 |.list xs=>Ub a6 β a d xs
 |.iQ k xs=>Uc g.S a6 β a d k xs
 |.tup xs=>Us a6 β a d xs
 |.dict ar op=>TV g.prog g.w (g.base a) g.S a6 β a d ar op
 |.jx n j=>T5 g.prog g.w g.S a6 a d n j
 |.qE n=>a=d/\∃t u v,a6 a=C {cls:=.type "range",dict:=none,data:=.fields #[.int 0 t,.int n u,.int 1 v],slots:=#[]}
 |.it n i=>a=d/\∃l ec o,β.ad[n]? =C (l,ec)/\a6 a=C o/\o.cls=.type "list_iterator"/\o.data=.fields #[.ref l,.int i 0]
 |.nh n i=>a=d/\∃l ec o,β.ad[n]? =C (l,ec)/\a6 a=C o/\o.cls=.type "tuple_iterator"/\o.data=.fields #[.ref l,.int i 0]
 |.itR i left=>a=d/\a6 a=C {cls:=.type "range_iterator",dict:=none,data:=.fields #[q2 i,q2 left,q2 1],slots:=#[]}
 |.raw k=>a=d/\a6 a=C (g.raw k)/\ip (g.raw k)
 |.gone=>True
 |.cell v=>TR a6 β a d v
variable{d:aF}{g:cy}{fx:aF->Option cY}{av:aZ}
theorem cL.mono{a6:aF->Option cY}{a:aF}(iA:β.le av)(aU:∀o,a6 a=C o->fx a=C o)(hd:∀o,a6 d=C o->fx d=C o):
  ∀{o:O},cL g a6 β a d o->cL g fx av a d o:=by
 intro o R;induction o using MI.O.casesOn with
 |inst=>obtain(⟨h,ar,n,aa,af,aJ⟩):=R;exact⟨h,ar,n,aU _ aa,hd _ af,aJ.imp λI I x=>⟨x.1,x.2.le iA⟩⟩
 |list=>obtain(⟨h,aH,n,aa,af⟩):=R;exact⟨h,aH,n,aU _ aa,af.imp λI I x=>x.le iA⟩
 |iQ=>obtain(⟨h,aH,n,pre,post,aa,af,aJ,bl,cP⟩):=R;exact⟨h,aH,n,pre,post,aU _ aa,af,a4 iA.aC aJ,bl.imp λI I x=>x.le iA,cP⟩
 |tup=>obtain(⟨h,aH,n,aa,af⟩):=R;exact⟨h,aH,n,aU _ aa,af.imp λI I x=>x.le iA⟩
 |dict ar op=>
  obtain(⟨h,bL,o,ay,aa,af,aJ,bl,cP,eT⟩):=R;have up:∀e∈ar,e.1.val av=e.1.val β:=λe he=>by obtain(⟨l,_,aX,_⟩):=aJ e he;exact G aX (G (ag.hy iA aX) rfl)
  refine⟨h,bL,o,ay,aU _ aa,af,λe he=>?_,?_,?_,eT⟩
  .obtain(⟨l,v,x,y,z⟩):=aJ e he;exact⟨l,v,ag.hy iA x,y,z.le iA⟩
  .refine List.Pairwise.imp_of_mem (λ{e f} he hf q=>?_) bl;(refine G (up e he) (G (up f hf) ?_));exact q
  .clear eT;induction op using b3 with
   |none=>intro k aw;exact aS (cP k aw) λe he q=>(bh e he (ag.hy iA q))
   |some abs=>refine⟨λe he=>?_,λold bw=>⟨(cP.2 old bw).1,λk=>((cP.2 old bw).2 k).imp (λgd=>(by(refine aS gd λf hf q=>?_;try clear gd);exact(bh f hf (ag.hy iA q)))) id⟩⟩;exact aS (cP.1 e he) λl x y=>(bh l (ag.hy iA x) (y.imp id λgd=>(by(refine aS gd λf hf q=>?_;try clear gd);exact(bh f hf (ag.hy iA q)))))
 |jx=>obtain(⟨h,bL,o,ay,aa,af,aJ,bl⟩):=R;exact⟨h,bL,o,ay,aU _ aa,af,aJ,bl⟩
 |qE=>obtain(⟨h,t,u,v,aa⟩):=R;exact⟨h,t,u,v,aU _ aa⟩
 |it=>obtain(⟨h,l,ec,o,h0,aa,r⟩):=R;exact⟨h,l,ec,o,a4 iA.ad h0,aU _ aa,r⟩
 |nh=>obtain(⟨h,l,ec,o,h0,aa,r⟩):=R;exact⟨h,l,ec,o,a4 iA.ad h0,aU _ aa,r⟩
 |itR=>exact⟨R.1,aU _ R.2⟩
 |raw=>exact⟨R.1,aU _ R.2.1,R.2.2⟩
 |gone=>trivial
 |cell v=>
  obtain(⟨h,o,y,aa,af,aJ⟩):=R;refine⟨h,o,y,aU _ aa,af,?_⟩;induction v using b3 with
  |none=>exact aJ
  |some v=>(refine aS aJ λjY a b=>?_;try clear aJ);exact(bh jY a (b.le iA))
variable{o:O}
theorem cL.there{a6:aF->Option cY}{a:aF}(iT:o≠.gone)(R:cL g a6 β a d o):(∃x,a6 a=C x)/\∃x,a6 d=C x:=by
 have one:∀{x},a=d->a6 a=C x->(∃x,a6 a=C x)/\∃x,a6 d=C x:=λe h=>by(clear R;subst e);exact⟨⟨_,h⟩,_,h⟩
 induction o using MI.O.casesOn with
 |inst=>obtain(⟨_,_,_,aa,af,_⟩):=R;exact⟨⟨_,aa⟩,_,af⟩
 |list=>obtain(⟨e,_,_,aa,_⟩):=R;exact one e aa
 |iQ=>obtain(⟨e,_,_,_,_,aa,_⟩):=R;exact one e aa
 |tup=>obtain(⟨e,_,_,aa,_⟩):=R;exact one e aa
 |dict=>obtain(⟨e,_,_,_,aa,_⟩):=R;exact one e aa
 |jx=>obtain(⟨e,_,_,_,aa,_⟩):=R;exact one e aa
 |qE=>obtain(⟨e,_,_,_,aa⟩):=R;exact one e aa
 |cell=>obtain(⟨e,_,_,aa,_⟩):=R;exact one e aa
 |it=>obtain(⟨e,_,_,_,_,aa,_⟩):=R;exact one e aa
 |nh=>obtain(⟨e,_,_,_,_,aa,_⟩):=R;exact one e aa
 |itR=>exact one R.1 R.2
 |raw=>exact one R.1 R.2.1
 |gone=>exact absurd rfl iT
noncomputable def bc.gV(c:bc)(a:aF):Prop:=c.P a=none/\a≠c.L/\∀x∈c.cw,x.1≠a
structure EV(c:bc)(f:aF->Nat)(n:Nat)(a d:aF)(o:O):Prop where
 ja:f a=n
 g0:f d=n
 hM:c.gV a
 fd:c.gV d
 iT:o≠.gone
noncomputable def bc.seer(c:bc)(h:gj)(own:Bool):aF->Option Obj:=if own=ae then h.get? else c.P
inductive Ui(g:cy)(c:bc)(β:aZ)(h:gj)(f:aF->Nat)(n:Nat)(own:Bool)(o:O):Prop
 |mk (a d:Addr) (e:β.ad[n]? =some (a,d)) (R:cL g (c.seer h own) β a d o) (w:own=true->EV c f n a d o)
noncomputable def AK(g:cy)(c:bc)(σ:d0 (Bool×O))(β:aZ)(h:gj)(f:aF->Nat):Prop:=∀n own o,σ.get n=C (own,o)->Ui g c β h f n own o
variable{h:gj}{f:aF->Nat}
theorem AK.Bm{c bI:bc}{σ:d0 (Bool×O)}(F:AK g c σ β h f)(k:bI.P=c.P)(PI:∀a,c.gV a->bI.gV a):AK g bI σ β h f:=λn own o e=>by obtain(⟨a,d,aa,af,aJ⟩):=F n own o e;refine⟨a,d,aa,by unfold bc.seer at af ⊢;exact G k af,λq=>?_⟩;obtain(⟨cH,cX,fw,gT,gL⟩):=aJ q;exact⟨cH,cX,PI _ fw,PI _ gT,gL⟩
inductive Uj(g:cy)(h:gj)(β:aZ)(n:Nat)(o:O):Prop
 |mk (a d:Addr) (e:β.ad[n]? =some (a,d)) (R:cL g h.get? β a d o)
structure SatO(g:cy)(c:bc)(st:St)(β:aZ)(h:gj):Prop where
 keep:∀a o,c.P a=C o->h.get? a=C o
 cw:∀x∈c.cw,∃de,h.get? x.1=C {x.2 with slots:=de}
 objs:∃f:aF->Nat,AK g c st.σ β h f
 len:β.ad.length=st.no
 facts:Facts g.S st.au st.aE st.ns β
 ghost:g.dP.le β
noncomputable def lM(st:St)(β:aZ)(L:aF)(h:gj):Prop:=∃m,h.Ns L m/\∀x v,ed x st.loc=C v->∃y,m x=C y/\a7 β v y
noncomputable def m3(g:cy)(s:aM):Prop:=s.os=g.dT.os/\s.gens=g.dT.gens
structure Sat(g:cy)(c:bc)(st:St)(β:aZ)(s:aM):Prop extends SatO g c st β s.heap where
 os:m3 g s
 loc:lM st β c.L s.heap
noncomputable def bc.Apart(c:bc):Prop:=∀x∈c.cw,x.1≠c.L
structure bc.Ok(g:cy)(c:bc)(dep:Nat):Prop where
 base:∀a o,g.h₀.get? a=C o->c.P a=C o
 frames:c.A.frames=C c.fr
 here:∀env∈c.fr,env.scope.kind≠.module/\∃a,env.frame=C a/\(a=c.L\/∃x∈c.cw,x.1=a)
 hd:∀x∈c.cw,c.P x.1=none/\∃ar n,x.2.data=.dict ar n
 iX:c.P c.L=none
 depth:c.A.depth<=310+2*dep
 units:c.A.units<=30+10*dep
 calm:dep<400->c.A.handled=none
 dep:dep<=802
variable{m:aO->Option az}{y:az}{dep t:Nat}{aA:gj}{f6:Loc}
section
variable{c:bc}{st:St}{s:aM}
theorem SatO.h₀(H:SatO g c st β h)(U:c.Ok g dep):∀a o,g.h₀.get? a=C o->h.get? a=C o:=λa o e=>H.keep a o (U.base a o e)
theorem SatO.fl(H:SatO g c st β h)(U:c.Ok g dep)(O:g.Ok):g.K.In h:=O.fl.keeps (H.h₀ U)
theorem SatO.top(H:SatO g c st β h)(U:c.Ok g dep)(O:g.Ok):sC g.p g.loose g.iS g.iR h:=O.top.keeps (H.h₀ U)
theorem SatO.low(H:SatO g c st β h)(U:c.Ok g dep)(O:g.Ok):ku<h.objs.size:=by
 refine wd O.top.b λo ar fm bw I=>?_;obtain aa:=fU (H.h₀ U _ _ bw);(refine aS O.top.nolimit λqw J I=>wd J λo ar fm bw I=>?_;try clear J);obtain af:=fU (H.h₀ U _ _ bw);obtain this:ku<cStatics:=by exact aR rfl
 exact sq this af
set_option tactic.hygienic true in
theorem SatO.obj(H:SatO g c st β h)(e:st.at n=C o):Uj g h β n o:=by
 refine bG H.objs λf k=>?_;unfold St.at at e;generalize q:st.σ.get n=z at e;induction z using b3 with
 |none=>exact bM e
 |some x=>
  obtain(⟨own,dn⟩):=x;(obtain J:=aT e;clear e;subst J);obtain(⟨a,d,aa,af,_⟩):=k n own _ q;refine⟨a,d,aa,?_⟩;clear q;induction own using bZ with
  |true=>exact af
  |false=>exact af.mono (.refl _) (λ_=>H.keep a _) (λ_=>H.keep d _)
theorem bc.gV.C8(U:c.Ok g dep)(H:SatO g c st β h)(gw:lM st β c.L h){a:aF}(aU:h.objs.size<=a):c.gV a:=by
 refine⟨?_,?_,λx ak=>?_⟩
 .generalize q:c.P a=aD;induction aD using b3 with
  |none=>rfl
  |some o=>exact absurd (fU (H.keep a o q)) (i6.mpr aU)
 ·(refine aS gw λm hm I=>?_;try clear gw);exact λe=>absurd hm.lt (G (bV e) (i6.mpr aU))
 .exact bG (H.cw x ak) λde e=>λq=>absurd (fU e) (G q (i6.mpr aU))
theorem SatO.grow(H:SatO g c st β h)(k:∀b o,h.get? b=C o->aA.get? b=C o):SatO g c st β aA:=by
 refine bG H.objs λf hf=>⟨λa o e=>k _ _ (H.keep a o e),λx ak=>?_,⟨f,λn own o e=>?_⟩,H.len,H.facts,H.ghost⟩
 .exact bG (H.cw x ak) λde e=>⟨de,k _ _ e⟩
 .obtain(⟨a,d,aa,af,aJ⟩):=hf n own o e;refine⟨a,d,aa,?_,aJ⟩;clear aJ e;induction own using bZ with
  |true=>exact af.mono (.refl _) (λI=>k a _) (λI=>k d _)
  |false=>exact af
theorem lM.grow{L:aF}(H:lM st β L h)(k:∀b o,h.get? b=C o->aA.get? b=C o):lM st β L aA:=
 (by(refine aS H λm a b=>?_;try clear H);exact⟨m,a.keeps k,b⟩)
theorem lM.le{L:aF}(H:lM st β L h)(iA:β.le av):lM st av L h:=
 (by(refine aS H λm a b=>?_;try clear H);exact⟨m,a,λx v e=>(aS (b x v e) λy p q=>(bh y p (q.le iA)))⟩)
theorem Sat.grow(H:Sat g c st β s)(k:∀b o,s.heap.get? b=C o->aA.get? b=C o):Sat g c st β {s with heap:=aA,toks:=t}:=
 ⟨H.toSatO.grow k,H.os,H.loc.grow k⟩
theorem Sat.toks(H:Sat g c st β s):Sat g c st β {s with toks:=t}:=⟨H.toSatO,H.os,H.loc⟩
theorem O.live(h:o.qd=ai):o≠.gone:=λe=>by rw[e] at h;exact jB h
theorem SatO.turn{dn:O}{a b:aF}(H:SatO g c st β h)(aN:n<10000000)(e:st.σ.get n=C (ae,o))(aU:β.ad[n]? =C (a,d))(aB:b=a\/b=d)
  (k:lK b h aA)(R:cL g aA.get? β a d dn)(iT:dn.qd=ai):SatO g c {st with σ:=st.σ.put cU n (ae,dn)} β aA/\c.gV b:=by
 refine bG H.objs λf hf=>?_;obtain(⟨dp,ec,aa,af,aJ⟩):=hf n ae o e;rw[aU] at aa;(obtain J:=aT aa;clear aa;refine a3 (eD J) λbT cu=>?_;clear J;subst bT;subst cu);obtain(⟨f1,f2,vl,f4,_⟩):=aJ rfl;have h6:c.gV b:=by rcases aB with rfl|rfl<;>assumption
 have fn:f b=n:=by rcases aB with rfl|rfl<;>assumption
 refine⟨⟨λx y q=>k x y (λz=>?_) (H.keep x y q),λx ak=>?_,⟨f,λm own y q=>?_⟩,H.len,H.facts,H.ghost⟩,h6⟩
 .rw[z,h6.1] at q;exact bM q
 .exact bG (H.cw x ak) λde q=>⟨de,k _ _ (h6.2.2 x ak) q⟩
 .rw[d0.k8 cU st.σ n (ae,dn) m (by obtain this:(10000000:Nat)<=2^cU-1:=(aR rfl);exact bU (by assumption) (bA rfl))] at q;by_cases hm:m=n
  ·(clear fn aJ e aN;subst hm);rw[if_pos rfl] at q;(obtain J:=aT q;clear q;refine a3 (eD J) λbT cu=>?_;clear J;subst bT;subst cu);exact⟨a,d,aU,R,λI=>⟨f1,f2,vl,f4,O.live iT⟩⟩
  .rw[if_neg hm] at q;obtain(⟨eg,fK,g1,g2,g3⟩):=hf m own y q;refine⟨eg,fK,g1,?_,g3⟩;clear q;induction own using bZ with
   |false=>exact g2
   |true=>obtain(⟨cH,cX,_⟩):=g3 rfl;exact g2.mono (.refl _) (λI=>k eg _ λz=>hm (G (bV cH) (G z (G fn rfl)))) (λI=>k fK _ λz=>hm (G (bV cX) (G z (G fn rfl))))
theorem lM.turn{L b:aF}{σ:d0 (Bool×O)}(H:lM st β L h)(k:lK b h aA)(aB:b≠L):lM {st with σ:=σ} β L aA:=
 (by(refine aS H λm a r=>?_;try clear H);exact⟨m,a.extBut k (km aB),r⟩)
theorem Sat.turn{dn:O}{a b:aF}(H:Sat g c st β s)(aN:n<10000000)(e:st.σ.get n=C (ae,o))(aU:β.ad[n]? =C (a,d))(aB:b=a\/b=d)
  (k:lK b s.heap aA)(R:cL g aA.get? β a d dn)(iT:dn.qd=ai):Sat g c {st with σ:=st.σ.put cU n (ae,dn)} β {s with heap:=aA,toks:=t}:=a3 (H.toSatO.turn aN e aU aB k R iT) λx y=>⟨x,H.os,H.loc.turn k y.2.1⟩
noncomputable def aZ.new(β:aZ)(a d:aF):aZ:={β with ad:=β.ad++ [(a,d)]}
theorem aZ.gI(β:aZ)(a d:aF):β.le (β.new a d):=⟨lI _ _,iH _,iH _,iH _⟩
theorem Facts.new{a:aF}(F:Facts g.S st.au st.aE st.ns β):Facts g.S st.au st.aE st.ns (β.new a d):=⟨F.aC,F.aj,F.cd,F.de,F.ck⟩
theorem aZ.lp(β:aZ)(a d:aF):(β.new a d).ad[β.ad.length]? =C (a,d):=by show(β.ad++ [(a,d)])[β.ad.length]? =_;(refine G (pH (dO _)) ?_;refine G (uD _) ?_);rfl
theorem SatO.gone{a b:aF}(H:SatO g c st β h)(aN:n<10000000)(e:st.σ.get n=C (ae,o))(aU:β.ad[n]? =C (a,d))(aB:b=a\/b=d)
  (k:lK b h aA):SatO g c {st with σ:=st.σ.put cU n (ai,.gone)} β aA/\c.gV b:=by
 refine bG H.objs λf hf=>?_;obtain(⟨dp,ec,aa,af,aJ⟩):=hf n ae o e;rw[aU] at aa;(obtain J:=aT aa;clear aa;refine a3 (eD J) λbT cu=>?_;clear J;subst bT;subst cu);obtain(⟨f1,f2,vl,f4,_⟩):=aJ rfl;have h6:c.gV b:=by rcases aB with rfl|rfl<;>assumption
 have fn:f b=n:=by rcases aB with rfl|rfl<;>assumption
 refine⟨⟨λx y q=>k x y (λz=>?_) (H.keep x y q),λx ak=>?_,⟨f,λm own y q=>?_⟩,H.len,H.facts,H.ghost⟩,h6⟩
 .rw[z,h6.1] at q;exact bM q
 .exact bG (H.cw x ak) λde q=>⟨de,k _ _ (h6.2.2 x ak) q⟩
 .rw[d0.k8 cU st.σ n (ai,.gone) m (ij aN (aR rfl))] at q;by_cases hm:m=n
  ·(clear fn f2 f1 aJ e aN;subst hm);rw[if_pos rfl] at q;(obtain J:=aT q;clear q;refine a3 (eD J) λbT cu=>?_;clear J;subst bT;subst cu);exact⟨a,d,aU,trivial,λe=>by exact c7 e⟩
  .rw[if_neg hm] at q;obtain(⟨eg,fK,g1,g2,g3⟩):=hf m own y q;refine⟨eg,fK,g1,?_,g3⟩;clear q;induction own using bZ with
   |false=>exact g2
   |true=>obtain(⟨cH,cX,_⟩):=g3 rfl;exact g2.mono (.refl _) (λI=>k eg _ λz=>hm (G (bV cH) (G z (G fn rfl)))) (λI=>k fK _ λz=>hm (G (bV cX) (G z (G fn rfl))))
theorem Sat.gone{a b:aF}(H:Sat g c st β s)(aN:n<10000000)(e:st.σ.get n=C (ae,o))(aU:β.ad[n]? =C (a,d))(aB:b=a\/b=d)
  (k:lK b s.heap aA):Sat g c {st with σ:=st.σ.put cU n (ai,.gone)} β {s with heap:=aA,toks:=t}:=a3 (H.toSatO.gone aN e aU aB k) λx y=>⟨x,H.os,H.loc.turn k y.2.1⟩
theorem SatO.oN{a:aF}(H:SatO g c st β h)(aN:st.no<10000000)(k:∀b o,h.get? b=C o->aA.get? b=C o)(aU:h.objs.size<=a)(hd:h.objs.size<=d)
  (hM:c.gV a)(fd:c.gV d)(R:cL g aA.get? (β.new a d) a d o)(iT:o.qd=ai):SatO g c {st with σ:=st.σ.put cU st.no (ae,o),no:=st.no+1} (β.new a d) aA:=by
 refine bG H.objs λf hf=>⟨λx y q=>k _ _ (H.keep x y q),λx ak=>?_,⟨λx=>if x=a\/x=d then st.no else f x,λm own y q=>?_⟩,?_,H.facts.new,H.ghost.trans (β.gI _ _)⟩
 .exact bG (H.cw x ak) λde q=>⟨de,k _ _ q⟩
 .replace q:(st.σ.put cU st.no (ae,o)).get m=C (own,y):=q;rw[d0.k8 cU st.σ st.no (ae,o) m (by obtain this:(10000000:Nat)<=2^cU-1:=(aR rfl);exact bU (by assumption) (bA rfl))] at q;by_cases hm:m=st.no
  .subst hm;rw[if_pos rfl] at q;(obtain J:=aT q;clear q;refine a3 (eD J) λbT cu=>?_;clear J;subst bT;subst cu);refine⟨a,d,by exact G (bV H.len) (β.lp a d),R,λI=>⟨by simp,by simp,hM,fd,O.live iT⟩⟩
  .rw[if_neg hm] at q;obtain(⟨eg,fK,g1,g2,g3⟩):=hf m own y q;refine⟨eg,fK,a4 (β.gI a d).ad g1,?_,λe=>?_⟩
   .clear g3 q;induction own using bZ with
    |false=>exact g2.mono (β.gI a d) (λI e=>e) (λI e=>e)
    |true=>exact g2.mono (β.gI a d) (λI=>k eg _) (λI=>k fK _)
   ·(clear q;subst e);obtain(⟨cH,cX,fw,gT,gL⟩):=g3 rfl;obtain(⟨⟨dv,t1⟩,dU,jh⟩):=cL.there gL (show cL g h.get? β eg fK y from g2);have eG:=fU t1;have fB:=fU jh;refine⟨?_,?_,fw,gT,gL⟩
    .show(if eg=a\/eg=d then st.no else f eg)=m;exact G (if_neg (by rintro (e|e)<;>(rw[e] at eG;first|exact absurd eG (Nat.not_lt.mpr aU)|exact absurd eG (Nat.not_lt.mpr hd)))) cH
    .show(if fK=a\/fK=d then st.no else f fK)=m;exact G (if_neg (by rintro (e|e)<;>(rw[e] at fB;first|exact absurd fB (Nat.not_lt.mpr aU)|exact absurd fB (Nat.not_lt.mpr hd)))) cX
 .show(β.ad++ [(a,d)]).length=st.no+1;(refine G iG (G H.len ?_));rfl
theorem Sat.oN{a:aF}(H:Sat g c st β s)(U:c.Ok g dep)(aN:st.no<10000000)(k:∀b o,s.heap.get? b=C o->aA.get? b=C o)(aU:s.heap.objs.size<=a)(hd:s.heap.objs.size<=d)
  (R:cL g aA.get? (β.new a d) a d o)(iT:o.qd=ai):Sat g c {st with σ:=st.σ.put cU st.no (ae,o),no:=st.no+1} (β.new a d) {s with heap:=aA,toks:=t}:=
 ⟨H.toSatO.oN aN k aU hd (.C8 U H.toSatO H.loc aU) (.C8 U H.toSatO H.loc hd) R iT,H.os,((H.loc.grow k).le (β.gI a d))⟩
theorem SatO.local(U:c.Ok g dep)(ix:c.Apart)(H:SatO g c st β h)(k:lK c.L h aA):SatO g c {st with loc:=f6} β aA:=by
 refine bG H.objs λf hf=>⟨λx y q=>k x y (λz=>?_) (H.keep x y q),λx ak=>?_,⟨f,λm own y q=>?_⟩,H.len,H.facts,H.ghost⟩
 .rw[z,U.iX] at q;exact bM q
 .exact bG (H.cw x ak) λde q=>⟨de,k _ _ (ix x ak) q⟩
 .obtain(⟨eg,fK,g1,g2,g3⟩):=hf m own y q;refine⟨eg,fK,g1,?_,g3⟩;clear q;induction own using bZ with
  |false=>exact g2
  |true=>obtain(⟨_,_,fw,gT,_⟩):=g3 rfl;exact g2.mono (.refl _) (λI=>k eg _ fw.2.1) (λI=>k fK _ gT.2.1)
theorem Sat.local{v:V}(U:c.Ok g dep)(ix:c.Apart)(H:Sat g c st β s)(k:lK c.L s.heap aA)(hm:s.heap.Ns c.L m)(oX:∀z u,ed z st.loc=C u->∃y,m z=C y/\a7 β u y)
  (aN:aA.Ns c.L (λz=>if z=x then C y else m z))(R:a7 β v y):Sat g c {st with loc:=ny x v st.loc} β {s with heap:=aA,toks:=t}:=
 ⟨H.toSatO.local U ix k,H.os,_,aN,λz u e=>by
  rw[show({st with loc:=ny x v st.loc}:St).loc=ny x v st.loc from rfl,Ov] at e;by_cases a8:z=x
  .rw[if_pos a8] at e;(obtain J:=aT e;clear e;subst J);exact(bh y (if_pos a8) R)
  .rw[if_neg a8] at e;exact aS (oX z u e) λjY a b=>(bh jY ((if_neg a8).trans a) b)⟩
structure pQ(c:bc)(h:gj)(e:aF)(agg:Prop):Prop where
 told:∃cf aK,h.get? e=C cf/\cf.cls=.ref 128/\cf.data=.fields aK/\c.P e=none/\(∃iL,aK[0]? =C iL)/\
  ((¬agg/\aK[1]? =C .none)\/∃T e2 cm eK,aK[1]? =C (.ref T)/\T≠e/\c.P T=none/\h.get? T=C e2/\e2.data=.fields cm/\cm[3]? =C eK)
noncomputable def fW(g:cy)(c:bc)(st:St)(β:aZ)(v:az)(s:aM):Prop:=∃e,v=.ref e/\pQ c s.heap e False/\Sat g c st β s
noncomputable def Told(g:cy)(c:bc)(st:St)(β:aZ)(v:az)(s:aM):Prop:=∃e,v=.ref e/\pQ c s.heap e True/\Sat g c st β s
theorem Told.raised{v:az}(H:Told g c st β v s):fW g c st β v s:=by(refine eH H λe aa J aJ=>?_;try clear H;obtain(⟨cf,aK,a1,a2,cj,c9,iL,dQ⟩):=J);exact⟨e,aa,⟨cf,aK,a1,a2,cj,c9,iL,dQ.elim (λq=>absurd trivial q.1) .inr⟩,aJ⟩
end
noncomputable abbrev Wp(ah:Type):=(ah->aM->Prop)->(az->aM->Prop)->aM->Prop
variable{bk:St}
theorem xQ{β:Type}{m:M aV}{f:aV->M β}{st:St}{v:aV}(e:m st=.ok v bk):(m.bind f) st=f v bk:=by unfold M.bind;exact G e rfl
noncomputable def At(X:cy->bc->St->aZ->az->aM->Prop)(g:cy)(c:bc)(β:aZ)(st:St)(s:aM){ah:Type}(m:M aV)(W:Wp ah)(R:aZ->aV->ah->Prop):Prop:=
 match m st with
  |.fail _=>True
  |.ok v bk=>∀(Q:ah->aM->Prop)(E:az->aM->Prop),(∀a ao av,β.le av->Sat g c bk av ao->R av v a->Q a ao)->W Q E s
  |.ex bk=>∀(Q:ah->aM->Prop)(E:az->aM->Prop),(∀e ao av,β.le av->X g c bk av e ao->E e ao)->W Q E s
noncomputable def bH(X:cy->bc->St->aZ->az->aM->Prop)(g:cy)(c:bc)(β:aZ){aV ah:Type}(m:M aV)(W:Wp ah)(R:aZ->aV->ah->Prop):Prop:=
 ∀(aW:aZ)(st:St)(s:aM),β.le aW->Sat g c st aW s->At X g c aW st s m W R
noncomputable abbrev cS:=@bH fW
noncomputable abbrev rp:=@bH Told
variable{e:bj}{X:cy->bc->St->aZ->az->aM->Prop}{d8 ej:Type}{u:Unit}
section
variable{c:bc}{ah:Type}{m:M aV}{W mi:Wp ah}{R hV:aZ->aV->ah->Prop}{st:St}{s:aM}
theorem At.of(h:At X g c β st s m W R)(k:∀Q E,W Q E s->mi Q E s):At X g c β st s m mi R:=by
 unfold At at h ⊢;split at h
 .trivial
 .exact λQ E aq=>k _ _ (h Q E aq)
 .exact λQ E aq=>k _ _ (h Q E aq)
theorem At.imp(h:At X g c β st s m W R)(k:∀av v a,β.le av->R av v a->hV av v a):At X g c β st s m W hV:=by
 unfold At at h ⊢;split at h
 .trivial
 .exact λQ E aq=>h Q E λa ao av l S r=>aq a ao av l S (k _ _ _ l r)
 .exact h
theorem At.ret{v:aV}(h:∀(Q:ah->aM->Prop)(E:az->aM->Prop),(∀a ao av,β.le av->Sat g c st av ao->R av v a->Q a ao)->W Q E s):At X g c β st s (M.pure v) W R:=h
theorem At.fail:At X g c β st s (MI.fail n:M aV) W R:=trivial
set_option tactic.hygienic true in
theorem At.bind{f:aV->M d8}{k:ah->Wp ej}{cC:aZ->d8->ej->Prop}(h:At X g c β st s m W R)(aw:∀av v a bk ao,β.le av->R av v a->Sat g c bk av ao->At X g c av bk ao (f v) (k a) cC):
  At X g c β st s (m.bind f) (λQ E s=>W (λa bg=>k a Q E bg) E s) cC:=by
 unfold At at h;show match(match m st with|.fail n=>Out.fail n|.ok a bk=>f a bk|.ex bk=>.ex bk) with|.fail _=>True|.ok v bk=>_|.ex bk=>_
 split at h
 .trivial
 .rename_i v bk q;split<;>rename_i en
  .trivial
  .intro Q E aq;refine h _ E λa ao av l S r=>?_;obtain this:=aw av v a bk ao l r S;unfold At at this;rw[en] at this;exact this Q E λdp fa d9 a_ eE g9=>aq dp fa d9 (l.trans a_) eE g9
  .intro Q E aq;refine h _ E λa ao av l S r=>?_;obtain this:=aw av v a bk ao l r S;unfold At at this;rw[en] at this;exact this Q E λdp fa d9 a_ eE=>aq dp fa d9 (l.trans a_) eE
 .exact λQ E aq=>h _ E aq
theorem At.peek{f:aV->M d8}{W:Wp ej}{cC:aZ->d8->ej->Prop}{v:aV}(e:m st=.ok v st)(h:At X g c β st s (f v) W cC):At X g c β st s (m.bind f) W cC:=by
 unfold At at h ⊢;show match(match m st with|.fail n=>Out.fail n|.ok a bk=>f a bk|.ex bk=>.ex bk) with|.fail _=>True|.ok v bk=>_|.ex bk=>_
 exact G e h
theorem At.stuck{f:aV->M d8}{W:Wp ej}{cC:aZ->d8->ej->Prop}(e:m st=.fail n):At X g c β st s (m.bind f) W cC:=by
 unfold At;show match(match m st with|.fail n=>Out.fail n|.ok a bk=>f a bk|.ex bk=>.ex bk) with|.fail _=>True|.ok v bk=>_|.ex bk=>_
 refine G e ?_;trivial
theorem At.load{f:O->M d8}{W:Wp ej}{cC:aZ->d8->ej->Prop}(H:Sat g c st β s)(h:∀o a d,st.at n=C o->β.ad[n]? =C (a,d)->cL g s.heap.get? β a d o->At X g c β st s (f o) W cC):
  At X g c β st s ((MI.load n).bind f) W cC:=by
 generalize e:st.at n=aD;induction aD using b3 with
 |none=>exact .stuck (n:=1000+n) (by unfold MI.load;exact G e rfl)
 |some o=>obtain(⟨a,d,aa,af⟩):=H.obj e;exact .peek (v:=o) (by unfold MI.load;exact G e rfl) (h o a d e aa af)
theorem At.bp{x:Option aV}{f:aV->M d8}{W:Wp ej}{cC:aZ->d8->ej->Prop}(h:∀v,x=C v->At X g c β st s (f v) W cC):At X g c β st s ((MI.bp n x).bind f) W cC:=by
 induction x using b3 with
 |none=>exact .stuck (n:=n) rfl
 |some v=>exact .peek (v:=v) rfl (h v rfl)
theorem At.oj{x:Option aV}{W:Wp ah}(h:∀v,x=C v->At X g c β st s (M.pure v) W R):At X g c β st s (MI.bp n x) W R:=by
 induction x using b3 with
 |none=>exact .fail
 |some v=>exact h v rfl
theorem At.store{f:Unit->M d8}{W:Wp ej}{cC:aZ->d8->ej->Prop}(h:∀gr,n<10000000->st.σ.get n=C (ae,gr)->At X g c β {st with σ:=st.σ.put cU n (ae,o)} s (f ()) W cC):
  At X g c β st s ((MI.store n o).bind f) W cC:=by
 generalize e:st.σ.get n=aD;induction aD using b3 with
 |none=>exact .stuck (n:=2000+n) (by unfold MI.store;exact G e rfl)
 |some x=>
  obtain(⟨own,gr⟩):=x;induction own using bZ with
  |false=>exact .stuck (n:=2000+n) (by unfold MI.store;exact G e rfl)
  |true=>
   generalize q:eQ n 10000000=aD;induction aD using bZ with
   |false=>exact .stuck (n:=2) (by unfold MI.store;refine G e ?_;dsimp only;exact G q rfl)
   |true=>
    obtain aN:n<10000000:=bA q;obtain this:=h gr aN e;unfold At at this ⊢;obtain cq:MI.store n o st=.ok () {st with σ:=st.σ.put cU n (ae,o)}:=by unfold MI.store;refine G e ?_;dsimp only;exact G q rfl
    exact G (xQ cq) this
theorem At.is{v:aV}(e:m st=.ok v bk)(h:∀(Q:ah->aM->Prop)(E:az->aM->Prop),(∀a ao av,β.le av->Sat g c bk av ao->R av v a->Q a ao)->W Q E s):At X g c β st s m W R:=by unfold At;exact G e h
theorem At.o3(e:m st=.fail n):At X g c β st s m W R:=by unfold At;refine G e ?_;trivial
theorem At.zT{W:Wp ah}{R:aZ->Unit->ah->Prop}(h:∀gr,n<10000000->st.σ.get n=C (ae,gr)->∀(Q:ah->aM->Prop)(E:az->aM->Prop),
  (∀a ao av,β.le av->Sat g c {st with σ:=st.σ.put cU n (ae,o)} av ao->R av () a->Q a ao)->W Q E s):At X g c β st s (MI.store n o) W R:=by
 generalize e:st.σ.get n=aD;induction aD using b3 with
 |none=>exact .o3 (n:=2000+n) (by unfold MI.store;exact G e rfl)
 |some x=>
  obtain(⟨own,gr⟩):=x;induction own using bZ with
  |false=>exact .o3 (n:=2000+n) (by unfold MI.store;exact G e rfl)
  |true=>
   generalize q:eQ n 10000000=aD;induction aD using bZ with
   |false=>exact .o3 (n:=2) (by unfold MI.store;refine G e ?_;dsimp only;exact G q rfl)
   |true=>exact .is (by unfold MI.store;refine G e ?_;dsimp only;exact G q rfl) (h gr (bA q) e)
theorem At.drop{f:Unit->M d8}{W:Wp ej}{cC:aZ->d8->ej->Prop}(h:∀gr,n<10000000->st.σ.get n=C (ae,gr)->At X g c β {st with σ:=st.σ.put cU n (ai,.gone)} s (f ()) W cC):
  At X g c β st s ((MI.drop n).bind f) W cC:=by
 generalize e:st.σ.get n=aD;induction aD using b3 with
 |none=>exact .stuck (n:=3000+n) (by unfold MI.drop;exact G e rfl)
 |some x=>
  obtain(⟨own,gr⟩):=x;induction own using bZ with
  |false=>exact .stuck (n:=3000+n) (by unfold MI.drop;exact G e rfl)
  |true=>
   generalize q:eQ n 10000000=aD;induction aD using bZ with
   |false=>exact .stuck (n:=2) (by unfold MI.drop;refine G e ?_;dsimp only;exact G q rfl)
   |true=>
    obtain this:=h gr (bA q) e;unfold At at this ⊢;obtain cq:MI.drop n st=.ok () {st with σ:=st.σ.put cU n (ai,.gone)}:=by unfold MI.drop;refine G e ?_;dsimp only;exact G q rfl
    exact G (xQ cq) this
theorem At.Fi{W:Wp ah}{R:aZ->Nat->ah->Prop}(h:st.no<10000000->∀(Q:ah->aM->Prop)(E:az->aM->Prop),
  (∀a ao av,β.le av->Sat g c {st with σ:=st.σ.put cU st.no (ae,o),no:=st.no+1} av ao->R av st.no a->Q a ao)->W Q E s):At X g c β st s (MI.alloc o) W R:=by
 generalize q:eQ st.no 10000000=aD;induction aD using bZ with
 |false=>exact .o3 (n:=2) (by unfold MI.alloc;exact G q rfl)
 |true=>exact .is (by unfold MI.alloc;exact G q rfl) (h (bA q))
theorem At.alloc{f:Nat->M d8}{W:Wp ej}{cC:aZ->d8->ej->Prop}(h:st.no<10000000->At X g c β {st with σ:=st.σ.put cU st.no (ae,o),no:=st.no+1} s (f st.no) W cC):
  At X g c β st s ((MI.alloc o).bind f) W cC:=by
 generalize q:eQ st.no 10000000=aD;induction aD using bZ with
 |false=>exact .stuck (n:=2) (by unfold MI.alloc;exact G q rfl)
 |true=>
  obtain this:=h (bA q);unfold At at this ⊢;obtain cq:MI.alloc o st=.ok st.no {st with σ:=st.σ.put cU st.no (ae,o),no:=st.no+1}:=by unfold MI.alloc;exact G q rfl
  exact G (xQ cq) this
theorem At.ib{h:List b5->List bz->Option aV}{f:aV->M d8}{W:Wp ej}{cC:aZ->d8->ej->Prop}(k:∀v,h st.au st.aE=C v->At X g c β st s (f v) W cC):At X g c β st s ((MI.ib n h).bind f) W cC:=by
 generalize e:h st.au st.aE=aD;induction aD using b3 with
 |none=>exact .stuck (n:=n) (by unfold MI.ib;exact G e rfl)
 |some v=>exact .peek (v:=v) (by unfold MI.ib;exact G e rfl) (k v e)
theorem At.vJ{h:List b5->List bz->Option aV}{W:Wp ah}(k:∀v,h st.au st.aE=C v->At X g c β st s (M.pure v) W R):At X g c β st s (MI.ib n h) W R:=by
 generalize e:h st.au st.aE=aD;induction aD using b3 with
 |none=>unfold At;refine G (show MI.ib n h st=.fail n by unfold MI.ib;exact G e rfl) ?_;trivial
 |some v=>obtain this:=k v e;unfold At at this ⊢;refine G (show MI.ib n h st=.ok v st by unfold MI.ib;exact G e rfl) ?_;exact this
theorem At.guard{f:Unit->M d8}{W:Wp ej}{cC:aZ->d8->ej->Prop}(h:b=ae->At X g c β st s (f ()) W cC):At X g c β st s ((MI.guard k b).bind f) W cC:=by
 induction b using bZ with
 |true=>exact .peek (v:=()) rfl (h rfl)
 |false=>exact .stuck (n:=k) rfl
theorem At.du{v:V}{f:Nat->M d8}{W:az->Wp ej}{cC:aZ->d8->ej->Prop}(r:a7 β v y)(h:∀n a d,β.ad[n]? =C (a,d)->At X g c β st s (f n) (W (.ref a)) cC):At X g c β st s ((MI.bp k v.du).bind f) (W y) cC:=by
 induction v using MI.V.casesOn with
 |r n=>(refine cz r λa d e J=>?_;try clear r;subst J);exact .peek (v:=n) rfl (h n a d e)
 |_=>exact .stuck (n:=k) rfl
theorem At.aC{v:V}{f:bo->M d8}{W:az->Wp ej}{cC:aZ->d8->ej->Prop}(r:a7 β v y)(h:∀e z t,e.val β=C z->At X g c β st s (f e) (W (.int z t)) cC):At X g c β st s ((MI.bp k v.aC).bind f) (W y) cC:=by
 induction v using MI.V.casesOn with
 |i e=>(refine cz r λz t q J=>?_;try clear r;subst J);exact .peek (v:=e) rfl (h e z t q)
 |_=>exact .stuck (n:=k) rfl
theorem At.ck{v:V}{f:ag->M d8}{W:az->Wp ej}{cC:aZ->d8->ej->Prop}(r:a7 β v y)(h:∀e l t,ag.val β e=C l->At X g c β st s (f e) (W (.str (aQ l) t)) cC):At X g c β st s ((MI.bp k v.ck).bind f) (W y) cC:=by
 induction v using MI.V.casesOn with
 |s e=>(refine cz r λz t q J=>?_;try clear r;subst J);exact .peek (v:=e) rfl (h e z t q)
 |_=>exact .stuck (n:=k) rfl
theorem At.fR{F:O->Option fb}{f:fb->M d8}{W:Wp ej}{cC:aZ->d8->ej->Prop}{a:aF}(H:Sat g c st β s)(aU:β.ad[n]? =C (a,d))(h:∀o x,F o=C x->cL g s.heap.get? β a d o->At X g c β st s (f x) W cC):At X g c β st s ((MI.fR k n F).bind f) W cC:=by
 generalize e:st.at n=aD;induction aD using b3 with
 |none=>exact .stuck (n:=1000+n) (by unfold MI.fR M.bind MI.load;exact G e rfl)
 |some o=>
  obtain(⟨dp,ec,aa,af⟩):=H.obj e;rw[aU] at aa;(obtain J:=aT aa;clear aa;refine a3 (eD J) λbT cu=>?_;clear J;subst bT;subst cu);have ey:MI.fR k n F st=MI.bp k (F o) st:=by unfold MI.fR M.bind MI.load;exact G e rfl
  generalize q:F o=aD;induction aD using b3 with
  |none=>exact .stuck (n:=k) (by(refine G ey (G q ?_));rfl)
  |some x=>exact .peek (v:=x) (by(refine G ey (G q ?_));rfl) (h o x q af)
theorem At.rS{f:aF×List (aO×V)->M d8}{W:Wp ej}{cC:aZ->d8->ej->Prop}{a:aF}(H:Sat g c st β s)(aU:β.ad[n]? =C (a,d))(h:∀U dG ar m,a≠d->s.heap.get? a=C (uL U d)->s.heap.get? d=C (dictOf ar m)->bK (mY β) dG ar->At X g c β st s (f (U,dG)) W cC):At X g c β st s ((MI.fR k n O.rS).bind f) W cC:=
 .fR H aU λo x q r=>by
  induction o using MI.O.casesOn with
  |inst U dG=>(obtain J:=aT q;clear q;subst J);obtain(⟨ne,ar,m,aa,af,aJ⟩):=r;exact h U dG ar m ne aa af aJ
  |_=>exact bM q
theorem At.kG{f:List V->M d8}{W:Wp ej}{cC:aZ->d8->ej->Prop}{a:aF}(H:Sat g c st β s)(aU:β.ad[n]? =C (a,d))(h:∀xs us m,a=d->s.heap.get? a=C (listOf us m)->bK (a7 β) xs us.toList->At X g c β st s (f xs) W cC):At X g c β st s ((MI.fR k n O.kG).bind f) W cC:=
 .fR H aU λo x q r=>by
  induction o using MI.O.casesOn with
  |list xs=>(obtain J:=aT q;clear q;subst J);obtain(⟨e,us,m,aa,af⟩):=r;exact h _ us m e aa af
  |_=>exact bM q
theorem At.i_{f:List (ag×V)×Option (List ag)->M d8}{W:Wp ej}{cC:aZ->d8->ej->Prop}{a:aF}(H:Sat g c st β s)(aU:β.ad[n]? =C (a,d))(h:∀ar op,cL g s.heap.get? β a d (.dict ar op)->At X g c β st s (f (ar,op)) W cC):At X g c β st s ((MI.fR k n O.i_).bind f) W cC:=
 .fR H aU λo x q r=>by
  induction o using MI.O.casesOn with
  |dict ar op=>(obtain J:=aT q;clear q;subst J);exact h ar op r
  |_=>exact bM q
theorem At.rz{f:Option V->M d8}{W:Wp ej}{cC:aZ->d8->ej->Prop}{a:aF}(H:Sat g c st β s)(aU:β.ad[n]? =C (a,d))(h:∀v o y,a=d->s.heap.get? a=C o->o.data=.cell y->(match v with|none=>y=none|some v=>∃jY,y=C jY/\a7 β v jY)->At X g c β st s (f v) W cC):At X g c β st s ((MI.fR k n O.rz).bind f) W cC:=
 .fR H aU λo x q r=>by
  induction o using MI.O.casesOn with
  |cell v=>(obtain J:=aT q;clear q;subst J);obtain(⟨e,f_,y,aa,af,aJ⟩):=r;exact h _ f_ y e aa af aJ
  |_=>exact bM q
theorem At.og{f:O->M d8}{W:Wp ej}{cC:aZ->d8->ej->Prop}{a:aF}(H:Sat g c st β s)(aU:β.ad[n]? =C (a,d))(h:∀o,cL g s.heap.get? β a d o->At X g c β st s (f o) W cC):At X g c β st s ((MI.load n).bind f) W cC:=
 .load H λo dp ec I fo R=>h o (by cases aU.symm.trans fo;exact R)
theorem At.zQ{f:List V->M d8}{W:Wp ej}{cC:aZ->d8->ej->Prop}{a:aF}(H:Sat g c st β s)(aU:β.ad[n]? =C (a,d))(h:∀xs us,s.heap.IsList a us\/s.heap.IsTuple a us->bK (a7 β) xs us.toList->At X g c β st s (f xs) W cC):At X g c β st s ((MI.fR k n O.zQ).bind f) W cC:=
 .fR H aU λo x q r=>by
  induction o using MI.O.casesOn with
  |list xs=>(obtain J:=aT q;clear q;subst J);obtain(⟨_,us,m,aa,af⟩):=r;exact h _ us (.inl ⟨_,aa,rfl,m,rfl⟩) af
  |tup xs=>(obtain J:=aT q;clear q;subst J);obtain(⟨_,us,m,aa,af⟩):=r;exact h _ us (.inr ⟨_,aa,rfl,m,rfl⟩) af
  |_=>exact bM q
theorem At.vV{f:Nat×List V->M d8}{W:Wp ej}{cC:aZ->d8->ej->Prop}{a:aF}(H:Sat g c st β s)(aU:β.ad[n]? =C (a,d))(h:∀j xs,cL g s.heap.get? β a d (.iQ j xs)->At X g c β st s (f (j,xs)) W cC):At X g c β st s ((MI.fR k n O.vV).bind f) W cC:=
 .fR H aU λo x q r=>by
  induction o using MI.O.casesOn with
  |iQ j xs=>(obtain J:=aT q;clear q;subst J);exact h j xs r
  |_=>exact bM q
theorem gy{a:aV}(h:(none:Option aV)=C a):P:=nomatch h
theorem QK(h:ai=ae):P:=nomatch h
theorem oR{p:List (ag×V)×Option (List ag)}(h:o.i_=C p):o=.dict p.1 p.2:=by
 induction o using MI.O.casesOn with
 |dict ar op=>exact c0 h▸rfl
 |_=>exact gy h
theorem acE(h:o.C0=ae):o=.dict [] none:=cN h λq e h=>by exact G (oR e) (G (D0.mp (bR h)) (G (nM.mp (bB h)) rfl))
theorem CS{x:Option (Bool×O)}(h:newD x=ae):x=C (ae,.dict [] (C [])):=cN h λp e h=>cN (bB h) λq bf af=>cN (bB af) λl cB aJ=>by obtain(⟨b,o⟩):=p;exact G e (G (show b=ae from bR h) (G (show o=_ from oR bf) (G (D0.mp (bR af)) (G cB (G (D0.mp aJ) rfl)))))
theorem acF{x:Option (Bool×O)}(h:QM x=ae):x=C (ae,.dict [] none):=cN h λp e h=>cN (bB h) λq bf af=>by obtain(⟨b,o⟩):=p;exact G e (G (show b=ae from bR h) (G (show o=_ from oR bf) (G (D0.mp (bR af)) (G (nM.mp (bB af)) rfl))))
theorem O.YW(h:o.qd=ae):o=.gone:=by
 induction o using O.casesOn with
 |gone=>rfl
 |_=>exact QK h
theorem OB{x:Option (Bool×O)}(h:Hd x=ae):x=C (ai,.gone):=cN h λp e h=>by obtain(⟨b,o⟩):=p;exact G e (G (show b=ai from by obtain this:=bR h;clear h e;induction b using bZ with|true=>exact c7 this|false=>rfl) (G (show o=_ from O.YW (bB h)) rfl))
theorem aaN{p:Nat×Nat}(h:o.Pq=C p):o=.itR p.1 p.2:=by
 induction o using O.casesOn with
 |itR=>exact c0 h▸rfl
 |_=>exact gy h
theorem Pp{x:Option (Bool×O)}{m:Nat}(h:Ig x m=ae):x=C (ae,.itR 0 m):=cN h λp e h=>cN (bB h) λq bf af=>by obtain(⟨b,o⟩):=p;exact G e (G (show b=ae from bR h) (G (show o=_ from aaN bf) (G (d2 (bR af)) (G (d2 (bB af)) rfl))))
theorem t7{o:Out aV}{p:aV×St}(h:o.r0=C p):o=.ok p.1 p.2:=by
 induction o using Out.casesOn with
 |ok=>exact c0 h▸rfl
 |_=>exact gy h
theorem Yb{o:Out aV}{p:St}(h:o.NY=C p):o=.ex p:=by
 induction o using Out.casesOn with
 |ex=>exact c0 h▸rfl
 |_=>exact gy h
theorem aci{f:di}(h:f.QF=ae):f=.next:=by
 induction f using di.casesOn with
 |next=>rfl
 |_=>exact QK h
theorem RB{f:di}{v:V}(h:f.t9=C v):f=.ret v:=by
 induction f using di.casesOn with
 |ret=>exact c0 h▸rfl
 |_=>exact gy h
theorem Wa{v:az}(h:My v=C b):v=.bool b:=z7 h λaA q=>
 KY (motive:=λo=>∀aA,KY (motive:=λI=>Option Bool) o aA C=C b->o=.bool b) v aA (λI I q=>by(obtain J:=aT q;clear q;(clear q h;subst J));rfl) aA q
theorem H5{p:Nat×Nat}(h:o.tQ=C p):o=.jx p.1 p.2:=by
 induction o using MI.O.casesOn with
 |jx n j=>exact c0 h▸rfl
 |_=>exact gy h
theorem aaC{p:aF×List (aO×V)}(h:o.rS=C p):o=.inst p.1 p.2:=by
 induction o using MI.O.casesOn with
 |inst U dG=>exact c0 h▸rfl
 |_=>exact gy h
theorem P1{p:List V}(h:o.kG=C p):o=.list p:=by
 induction o using MI.O.casesOn with
 |list xs=>exact c0 h▸rfl
 |_=>exact gy h
theorem agl{p:List V}(h:o.Sg=C p):o=.tup p:=by
 induction o using MI.O.casesOn with
 |tup xs=>exact c0 h▸rfl
 |_=>exact gy h
theorem abJ{p:Nat×List V}(h:o.vV=C p):o=.iQ p.1 p.2:=by
 induction o using MI.O.casesOn with
 |iQ k xs=>exact c0 h▸rfl
 |_=>exact gy h
theorem Wk{p:Option V}(h:o.rz=C p):o=.cell p:=by
 induction o using MI.O.casesOn with
 |cell v=>exact c0 h▸rfl
 |_=>exact gy h
theorem qs{v:V}{e:bo}(h:v.aC=C e):v=.i e:=by
 induction v using MI.V.casesOn with
 |i e=>exact congrArg _ (c0 h)
 |_=>exact gy h
theorem zV{v:V}{e:ag}(h:v.ck=C e):v=.s e:=by
 induction v using MI.V.casesOn with
 |s e=>exact congrArg _ (c0 h)
 |_=>exact gy h
theorem x2{v:V}{e:az}(h:v.aj=C e):v=.c e:=by
 induction v using MI.V.casesOn with
 |c e=>exact congrArg _ (c0 h)
 |_=>exact gy h
theorem Cr{v:az}(h:yQ v=ae):v=.none:=by
 induction v using l9 with
 |none=>rfl
 |_=>exact c7 h
theorem Pn{v:V}(h:Ic v=ae):v=.c .none:=by
 induction v using MI.V.casesOn with
 |c v=>exact G (Cr h) rfl
 |_=>exact c7 h
theorem Cs{v:az}(h:isRef n v=ae):v=.ref n:=by
 induction v using l9 with
 |ref a=>exact G (d2 h) rfl
 |_=>exact c7 h
theorem v5(h:nat? z=C n):z=.ofNat n:=by
 induction z using Lk with
 |ofNat n=>exact congrArg _ (c0 h)
 |_=>exact gy h
theorem tU{e:bo}(h:litOf e=C z):e=.lit z:=by
 induction e using MI.bo.casesOn with
 |lit e=>exact congrArg _ (c0 h)
 |_=>exact gy h
theorem pb{v:V}(h:pa v=C n):v=.i (.lit (.ofNat n)):=ct h λe a1 h=>ct h λz a2 h=>by(refine G (qs a1) (G (tU a2) (G (v5 h) ?_));with_reducible rfl)
theorem xI{e:bo}{p:Nat×Nat}(h:u4 e=C p):e=.aL (.ofNat p.1) ai p.2:=by
 induction e using MI.bo.casesOn with
 |lit=>exact gy h
 |aL z neg u=>
  induction neg using bZ with
  |true=>exact gy h
  |false=>
   induction z using Lk with
   |ofNat=>exact c0 h▸rfl
   |negSucc=>exact gy h
theorem Mb{v:V}{p:Nat×Nat}(h:A1 v=C p):v=.i (.aL (.ofNat p.1) ai p.2):=ct h λI a1 h=>xI h▸qs a1
theorem Se{v:az}{l:List az}(h:tupK K v=C l)(k:∀a o g6 n,v=.ref a->K.lookup a=C o->o.cls=.type "tuple"->o.data=.seq g6 n->l=g6.toList->P):P:=by
 induction v using l9 with
 |ref a=>
  refine ct h λo a1 h=>?_;unfold Sf at h;generalize a9:o.cls=aD;induction aD using l9 with
  |type t=>
   rw[a9] at h;generalize bf:o.data=aD;induction aD using Ae with
   |seq g6 n=>
    rw[bf] at h;generalize cB:(t=="tuple")=aD;induction aD using bZ with
    |true=>dsimp only at h;rw[cB] at h;(obtain J:=aT h;clear h;(clear h;subst J));exact k a o g6 n rfl a1 (G a9 (G (beq_iff_eq.mp cB) rfl)) bf rfl
    |false=>dsimp only at h;rw[cB] at h;exact bM h
   |_=>rw[bf] at h;exact bM h
  |_=>rw[a9] at h;exact bM h
 |_=>exact bM h
theorem te{f:e.ctorIdx=k->Option aV}{y:aV}(h:p8 k e f=C y)(q:∀h,f h=C y->P):P:=by
 unfold p8 at h;split at h
 .exact q _ h
 .exact bM h
theorem l1{w:aO×cn}(h:kI e=C w):e=.Name w.1 w.2:=te h λaA q=>
 Km (motive_1:=λe=>∀aA,Km (motive_1:=λI=>Option (aO×cn)) e aA (λx p=>C (x,p))=C w->e=.Name w.1 w.2) e aA (λI I I q=>by(obtain J:=aT q;clear q;(clear q h;subst J));rfl) aA q
theorem Fs{w:bj×aO×cn}(h:u9 e=C w):e=.Attribute w.1 w.2.1 w.2.2:=te h λaA q=>
 Kg (motive_1:=λe=>∀aA,Kg (motive_1:=λI=>Option (bj×aO×cn)) e aA (λo x p=>C (o,x,p))=C w->e=.Attribute w.1 w.2.1 w.2.2) e aA (λI I I I q=>by(obtain J:=aT q;clear q;(clear q h;subst J));rfl) aA q
theorem VP(h:u9 e=none)(o:bj)(x:aO)(p:cn)(q:e=.Attribute o x p):False:=by subst q;exact nomatch(show C (o,x,p)=none from h)
theorem Wz{w:bj×List oC×List bj×cn}(h:M4 e=C w):e=.Compare w.1 w.2.1 w.2.2.1 w.2.2.2:=te h λaA q=>
 Ki (motive_1:=λe=>∀aA,Ki (motive_1:=λI=>Option (bj×List oC×List bj×cn)) e aA (λo x r p=>C (o,x,r,p))=C w->e=.Compare w.1 w.2.1 w.2.2.1 w.2.2.2) e aA (λI I I I I q=>by(obtain J:=aT q;clear q;(clear q h;subst J));rfl) aA q
theorem MF{w:bj×List bj×List Keyword×cn}(h:Bc e=C w):e=.Call w.1 w.2.1 w.2.2.1 w.2.2.2:=te h λaA q=>
 Kn (motive_1:=λe=>∀aA,Kn (motive_1:=λI=>Option (bj×List bj×List Keyword×cn)) e aA (λo x r p=>C (o,x,r,p))=C w->e=.Call w.1 w.2.1 w.2.2.1 w.2.2.2) e aA (λI I I I I q=>by(obtain J:=aT q;clear q;(clear q h;subst J));rfl) aA q
theorem M8{w:Const×Nat×cn}(h:xX e=C w):e=.Constant w.1 w.2.1 w.2.2:=te h λaA q=>
 Kh (motive_1:=λe=>∀aA,Kh (motive_1:=λI=>Option (Const×Nat×cn)) e aA (λo x p=>C (o,x,p))=C w->e=.Constant w.1 w.2.1 w.2.2) e aA (λI I I I q=>by(obtain J:=aT q;clear q;(clear q h;subst J));rfl) aA q
theorem agk{w:List bj×Nat×cn}(h:DE e=C w):e=.Tuple w.1 w.2.1 w.2.2:=te h λaA q=>
 Kj (motive_1:=λe=>∀aA,Kj (motive_1:=λI=>Option (List bj×Nat×cn)) e aA (λo x p=>C (o,x,p))=C w->e=.Tuple w.1 w.2.1 w.2.2) e aA (λI I I I q=>by(obtain J:=aT q;clear q;(clear q h;subst J));rfl) aA q
theorem afD{w:Option bj×Option bj×Option bj×cn}(h:Dz e=C w):e=.Slice w.1 w.2.1 w.2.2.1 w.2.2.2:=te h λaA q=>
 Kk (motive_1:=λe=>∀aA,Kk (motive_1:=λI=>Option (Option bj×Option bj×Option bj×cn)) e aA (λo x r p=>C (o,x,r,p))=C w->e=.Slice w.1 w.2.1 w.2.2.1 w.2.2.2) e aA (λI I I I I q=>by(obtain J:=aT q;clear q;(clear q h;subst J));rfl) aA q
theorem lu{l:List aV}{x:aV}(h:iD l=C x):l=[x]:=by
 induction l using es with
 |nil=>exact bM h
 |cons y l=>
  induction l using es with
  |nil=>exact congrArg (λz=>[z]) (c0 h)
  |cons _ _=>exact bM h
theorem ug{l:List aV}{w:aV×aV}(h:ow l=C w):l=[w.1,w.2]:=by
 induction l using es with
 |nil=>exact bM h
 |cons x r=>
  generalize q:iD r=aD;induction aD using b3 with
  |none=>rw[ow,q] at h;exact bM h
  |some y=>rw[ow,q] at h;(obtain J:=aT h;clear h;subst J);exact G (lu q) rfl
theorem lq{l:List aV}(h:kJ l=C u):l=[]:=by
 induction l using es with
 |nil=>rfl
 |cons=>exact bM h
theorem XI{o:oC}(h:eq1 o=C u):o=.Eq:=by cases o<;>first|rfl|exact bM h
theorem aaD{k:Const}(h:Pk k=C z):k=.int z:=by cases k<;>cases h<;>rfl
theorem afM{t b o:bj}{w:aO×aO×aO×aO×aO×aO×aO}(h:DB t b o=C w)
  (k:∀hk dd dx fP iV iW kM jS kg oq z gU,t=.Compare (.Name w.1 hk) [.Eq] [.Constant (.int z) gU dd] dx->b=.Attribute (.Name w.2.1 fP) w.2.2.1 iV->o=.Call (.Name w.2.2.2.1 iW) [.Attribute (.Name w.2.2.2.2.1 kM) w.2.2.2.2.2.1 jS,.Name w.2.2.2.2.2.2 kg] [] oq->P):P:=
 ct h λc a1 h=>ct h λn a2 h=>ct h λI cj h=>ct h λI c9 h=>ct h λI dQ h=>ct h λfg fe h=>ct h λz iq h=>ct h λa ky h=>ct h λa9 Fe h=>ct h λq E7 h=>ct h λf E8 h=>ct h λI E9 h=>ct h λI E_ h=>ct h λUC Fb h=>ct h λbf Fc h=>ct h λdX Fd h=>by(obtain J:=aT h;clear h;(clear h;subst J));exact k n.2 fg.2.2 c.2.2.2 a9.2 a.2.2 f.2 bf.2 UC.2.2 dX.2 q.2.2.2 z fg.2.1 (G (Wz a1) (G (l1 a2) (G (lu cj) (G (XI c9) (G (lu dQ) (G (M8 fe) (G (aaD iq) rfl))))))) (G (Fs ky) (G (l1 Fe) rfl)) (G (MF E7) (G (l1 E8) (G (ug E9) (G (lq E_) (G (Fs Fb) (G (l1 Fc) (G (l1 Fd) rfl)))))))
theorem bH.le(h:bH X g c β m W R)(iA:β.le av):bH X g c av m W R:=λaW st s aa af=>h aW st s (iA.trans aa) af
theorem bH.of(h:bH X g c β m W R)(k:∀Q E s,W Q E s->mi Q E s):bH X g c β m mi R:=λaW st s aa af=>(h aW st s aa af).of λQ E=>k Q E s
theorem bH.imp(h:bH X g c β m W R)(k:∀av v a,β.le av->R av v a->hV av v a):bH X g c β m W hV:=λaW st s aa af=>(h aW st s aa af).imp λav v a l r=>k _ _ _ (aa.trans l) r
theorem bH.pure{v:aV}{a:ah}(h:∀av,β.le av->R av v a):bH X g c β (M.pure v) (λQ I s=>Q a s) R:=
 λaW st s aa af=>.ret λQ E aq=>aq a s aW (.refl _) af (h aW aa)
theorem bH.fail:bH X g c β (MI.fail n:M aV) W R:=λI I I I I=>trivial
theorem bH.asks{x:Option aV}{f:aV->M d8}{W:Wp ej}{cC:aZ->d8->ej->Prop}(h:∀v,x=C v->bH X g c β (f v) W cC):bH X g c β ((MI.bp n x).bind f) W cC:=λaW st s aa af=>.bp λv q=>h v q aW st s aa af
theorem bH.bind{f:aV->M d8}{k:ah->Wp ej}{cC:aZ->d8->ej->Prop}(h:bH X g c β m W R)(aw:∀av v a,β.le av->R av v a->bH X g c av (f v) (k a) cC):
  bH X g c β (m.bind f) (λQ E s=>W (λa bg=>k a Q E bg) E s) cC:=λaW st s aa af=>(h aW st s aa af).bind λav v a bk ao l r S=>aw av v a (aa.trans l) r av bk ao (.refl _) S
end
structure cc(c:bc)(ab:cI)(env:hB)(β:aZ):Prop where
 scope:env.scope=ab.scope
 kind:env.scope.kind=.function
 glob:env.globals=ik
 blt:env.builtins=nI
 loc:env.locals=c.L
 cells:∀x n,k3 x ab.cells=C n->∃a d,env.cells.lookup x=C a/\β.ad[n]? =C (a,d)
 frame:∃e rest,c.fr=e::rest/\env.frame=e.frame
 apart:c.Apart
variable{env:hB}
theorem cc.le{c:bc}{ab:cI}(V:cc c ab env β)(h:β.le av):cc c ab env av:=
 ⟨V.scope,V.kind,V.glob,V.blt,V.loc,λx n e=>(cz (V.cells x n e) λa d p q=>(gi a d p (a4 h.ad q))),V.frame,V.apart⟩
theorem cc.kindOf{c:bc}{ab:cI}(V:cc c ab env β)(x:aO):env.kindOf x=gR x ab.scope.names:=by refine G (vQ _ _) ?_;unfold Env.kindOf;exact G V.scope rfl
noncomputable abbrev ahs(β:aZ)(v:V)(x:az):Prop:=a7 β v x
noncomputable abbrev dM(g:cy)(c:bc)(t:hC az):Wp Value:=λQ E s=>a5 g.M c.A t Q E s
theorem adq(h:Dj x=ae):(x==("__debug__":aO))=false:=by refine gM beq_eq_false_iff_ne ?_;rintro rfl;exact absurd h (aR (by kernel_rfl))
theorem ads(h:Dj x=ae):x≠"__name__":=by rintro rfl;exact absurd h (aR (by kernel_rfl))
theorem adp(h:Dj x=ae):(x==("__classdict__":aO))=false:=by refine gM beq_eq_false_iff_ne ?_;rintro rfl;exact absurd h (aR (by kernel_rfl))
theorem Wb{v:az}(h:FX x=C v):Ar x=C v:=by
 unfold FX at h;split at h
 .rename_i q;refine G (gu.mp q) ?_;(obtain J:=aT h;clear h;subst J);exact Boot.«len»
 .split at h
  .rename_i q;refine G (gu.mp q) ?_;(obtain J:=aT h;clear h;subst J);exact Boot.«range»
  .split at h
   .rename_i q;refine G (gu.mp q) ?_;(obtain J:=aT h;clear h;subst J);exact Boot.«str»
   .split at h
    .rename_i q;refine G (gu.mp q) ?_;(obtain J:=aT h;clear h;subst J);exact Boot.«list»
    .exact bM h
theorem Ja(β:aZ):∀v:az,a7 β (wg v) v:=by
 intro v;induction v using l9 with
 |int i t=>exact⟨i,t,rfl,rfl⟩
 |str x t=>exact⟨cs x,t,ag.eN.mpr (d1 _ [] rfl rfl (by simp)),by exact G (hj _) rfl⟩
 |_=>rfl
section
variable{c:bc}{ab:cI}
theorem Oy(V:cc c ab env β){st:St}{s:aM}(H:Sat g c st β s)(aw:gR x ab.scope.names=C .local):At X g c β st s (tv x) (λQ E s=>a5 g.M c.A (loadName env x) Q E s) a7:=by
 refine aS H.loc λm hm aX=>?_;generalize q:ed x st.loc=aD;induction aD using b3 with
 |none=>exact .o3 (n:=3) (by unfold tv;exact G q rfl)
 |some v=>
  exact .is (v:=v) (by unfold tv;exact G q rfl) λQ E aq=>
   let⟨y,bS,r⟩:=aX x v q
   hS V.kind (G (V.kindOf _) (G aw rfl)) (G V.loc hm) bS (aq y s β (.refl _) H r)
theorem F0(V:cc c ab env β){st:St}{s:aM}(H:Sat g c st β s){W:Wp az}(h:∀(Q:az->aM->Prop)(E:az->aM->Prop) a y,env.cells.lookup x=C a->(∃o,s.heap.get? a=C o/\o.data=.cell (C y))->Q y s->W Q E s):At X g c β st s (cellGet ab x) W a7:=
 .bp λn aN=>
  let⟨a,d,af,aJ⟩:=V.cells x n aN
  .rz H aJ λv o y I bl cP eT=>.oj λu q=>.ret λQ E aq=>by subst q;(refine aS eT λjY e r=>?_;try clear eT);subst e;exact h Q E a jY af (bh o bl cP) (aq jY s β (.refl _) H r)
theorem th(O:g.Ok)(U:c.Ok g dep)(V:cc c ab env β)(x:aO)(pos:cn):bH X g c β (nc g.K ab x) (dM g c (dK (.Name x pos) env)) a7:=λaW st s aa H=>.guard λb6=>.bp λk aw=>by
 have V:=V.le aa;have hd:=adq b6;induction k using sF with
 |«local»=>exact(Oy V H aw).of λQ E k=>hE k hd
 |cell=>exact F0 V H λQ E a y af bl cP=>hE (wpAny_loadName_cell V.kind (G (V.kindOf _) (G aw rfl)) af bl cP) hd
 |free=>exact F0 V H λQ E a y af bl cP=>hE (wpAny_loadName_free V.kind (G (V.kindOf _) (G aw rfl)) af bl cP (adp b6)) hd
 |globalImplicit=>
  have T:=H.toSatO.top U O;have K:=H.toSatO.fl U O;refine .bp λv bJ=>?_;rw[C3] at bJ;induction v using b3 with
  |some v=>exact .ret λQ E aq=>l8 V.kind (G (V.kindOf _) (G aw rfl)) (ux (G V.glob T.g) (mg_of K T.g bJ) (aq v s aW (.refl _) H (Ja _ _))) hd
  |none=>exact .bp λv aB=>.ret λQ E aq=>l8 V.kind (G (V.kindOf _) (G aw rfl)) (ur (G V.glob T.g) (uI K T.g bJ) (G V.blt T.b) ((T.builtins x (ads b6)).trans (Wb aB)) (aq v s aW (.refl _) H rfl)) hd
 |_=>exact .fail
theorem qI(O:g.Ok)(U:c.Ok g dep)(V:cc c ab env β)(x:aO){v:MI.V}(r:a7 β v y):bH X g c β (jf ab x v) (λQ E s=>a5 g.M c.A (Ep env x y) Q E s) (λI I I=>True):=λaW st s aa H=>.bp λk aw=>by
 have V:=V.le aa;induction k using sF with
 |«local»=>refine aS H.loc λm hm aX=>?_;unfold At RQ;intro Q E aq;refine Ac (G (V.kindOf _) (G aw rfl)) (G V.loc hm) (λaA aN bL=>?_) (G V.kind rfl);rw[V.loc] at aN bL;exact aq () _ aW (.refl _) (Sat.local U V.apart H bL.extBut hm aX aN (r.le aa)) trivial
 |cell=>
  refine .bp λn aN=>cz (V.cells x n aN) λa d af aJ=>.rz H aJ λaiw f_ ahg e bl cP I=>.zT λgr aN bL Q E aq=>?_;subst e;exact wpAny_storeName_cell V.kind (G (V.kindOf _) (G aw rfl)) af ⟨f_,bl,cP⟩ λaA bb aB=>
   let⟨kL,Hl,rK⟩:=bb
   aq () _ aW (.refl _) (H.turn (t:=s.toks) aN bL aJ (.inl rfl) aB.extBut ⟨rfl,kL,_,Hl,rK,_,rfl,r.le aa⟩ rfl) trivial
 |_=>exact .fail
theorem M9(mq:Const)(k:Nat)(pos:cn):bH X g c β (bp 140 (Gd mq)) (dM g c (dK (.Constant mq k pos) env)) a7:=by
 intro aW st s aa H;refine .oj λv bJ=>.ret λQ E aq=>?_;cases mq with
 |none=>(obtain J:=aT bJ;clear bJ;subst J);exact wpAny_Constant_none (aq _ s aW (.refl _) H rfl)
 |bool b=>(obtain J:=aT bJ;clear bJ;subst J);exact wpAny_Constant_bool (aq _ s aW (.refl _) H rfl)
 |int i=>(obtain J:=aT bJ;clear bJ;subst J);exact nO (aq _ _ aW (.refl _) H.toks ⟨i,_,rfl,rfl⟩)
 |str x=>(obtain J:=aT bJ;clear bJ;subst J);exact w0 (aq _ _ aW (.refl _) H.toks ⟨cs x,_,ag.eN.mpr (d1 _ [] rfl rfl (by simp)),by exact G (hj _) rfl⟩)
 |_=>exact bM bJ
end
theorem Ie(y x:aO)(t:Tok):(Ej y t).isStr x=eqs y x:=by show(y==x)=_;(refine gM w5 ?_;rewrite[gu,beq_iff_eq];with_reducible rfl)
variable{dG:List (aO×V)}
section
theorem YQ{ar:List hT}{v:V}(R:bK (mY β) dG ar)(h:ed x dG=C v):∃y,getL x ar=C (C y)/\a7 β v y:=by
 induction R with
 |nil=>exact bM h
 |@cons f e dG ar r t bF=>
  (refine a3 r λJ bJ=>?_;try clear r;refine bG J λcW aw=>?_;try clear J);replace h:(match eqs f.1 x with|true=>C f.2|false=>ed x dG)=C v:=h;unfold getL;(refine G An ?_;refine G aw (G (Ie _ _ _) ?_));generalize q:eqs f.1 x=aD;induction aD using bZ with
  |true=>rw[q] at h;(obtain J:=aT h;clear h;(clear bF;subst J));exact(bh _ rfl bJ)
  |false=>
   rw[q] at h;refine aS (bF h) λy bS r=>(bh y ?_ r);unfold getL at bS;dsimp only;generalize z:ar.find? (·.key.isStr x)=aD;induction aD using b3 with
   |some cq=>rw[z] at bS;exact bS
   |none=>rw[z] at bS;dsimp only at bS;split at bS<;>cases bS
theorem Ox{x:aO}{dG:List (aO×V)}{ar:List hT}(R:bK (mY β) dG ar):ar.any (·.refKey)=false:=by
 induction R with
 |nil=>rfl
 |cons r t bF=>(refine a3 r λJ I=>?_;try clear r;refine bG J λcW aw=>?_;try clear J);(refine G D9 (G bF (G (Bool.or_false _) ?_)));unfold DictEntry.refKey;exact G aw rfl
theorem YO{ar:List hT}(R:bK (mY β) dG ar)(h:ed x dG=none):ar.find? (·.key.isStr x)=none:=by
 induction R with
 |nil=>rfl
 |@cons f e dG ar r t bF=>
  (refine a3 r λJ bJ=>?_;try clear r;refine bG J λcW aw=>?_;try clear J);replace h:(match eqs f.1 x with|true=>C f.2|false=>ed x dG)=none:=h;(refine G An ?_;refine G aw (G (Ie _ _ _) ?_));generalize q:eqs f.1 x=aD;induction aD using bZ with
  |true=>rw[q] at h;exact zH h
  |false=>rw[q] at h;exact bF h
theorem YP{ar:List hT}(h:bK (mY β) dG ar)(q:ed x dG=none):getL x ar=C none:=by unfold getL;refine G (YO h q) ?_;dsimp only;exact G (Ox (x:=x) h) rfl
theorem adA{v:V}{bL:Int}{t:Tok}(r:a7 β v y){ar:List hT}(R:bK (mY β) dG ar):bK (mY β) (ny x v dG) (putL x bL (.str x t) y ar):=by
 induction R with
 |nil=>exact .cons ⟨⟨t,rfl⟩,r⟩ .nil
 |@cons f e dG ar q u bF=>
  (refine a3 q λJ bJ=>?_;try clear q;refine bG J λcW aw=>?_;try clear J);show bK _ (match eqs f.1 x with|true=>(f.1,v)::dG|false=>f::ny x v dG) (if e.key.isStr x then⟨e.hash,e.key,y⟩::ar else e::putL x bL (.str x t) y ar);(refine G aw (G (Ie _ _ _) (G (bV aw) ?_)));generalize q:eqs f.1 x=aD;clear q;induction aD using bZ with
  |true=>exact .cons ⟨⟨cW,aw⟩,r⟩ u
  |false=>exact .cons ⟨⟨cW,aw⟩,bJ⟩ bF
theorem Ro(x:aO)(bL:Int)(k y:az):∀ar:List hT,(putL x bL k y ar).length<=ar.length+1
 |[]=>dO _
 |e::ar=>by
  show(if e.key.isStr x then _ else _:List hT).length<=_;split
  .simp
  .obtain this:=Ro x bL k y ar;simp;exact this
end
section
end
theorem Zh{v:V}(h:QQ v=ae)(r:a7 β v y):handedIn y=true:=by
 induction v using MI.V.casesOn with
 |c v=>obtain rfl:=r;cases y<;>first|rfl|exact c7 h
 |i e=>(refine cz r λz t I J=>?_;try clear r;subst J);rfl
 |s e=>(refine cz r λz t I J=>?_;try clear r;subst J);rfl
 |r n=>(refine cz r λz t I J=>?_;try clear r;subst J);rfl
 |u=>exact c7 h
theorem Cn{a:aF}{ar:List hT}(aa:h.get? a=C (uL U d))(af:h.get? d=C (dictOf ar n)):InstAt h a (uL U d) U (C (dictOf ar n)):=⟨aa,rfl,rfl,af⟩
variable{prog:q1}{w:World}{A:oA}{R:Result->aM->Prop}{cW:Tok}
section
variable{s:aM}
theorem ac7{x:aF}{name:aO}{v:az}{ar:List hT}(X:K.In s.heap)(Y:EF K U)(aa:s.heap.get? x=C (uL U d))(af:s.heap.get? d=C (dictOf ar n))
  (ff:kn K (.ref U) name=C none)(aw:ar.any (·.refKey)=ai)(a8:ar.length<=2000)
  (h:∀aA,aA.get? d=C (dictOf (putL name (D6 w.params name) (.str name s.toks) v ar) (putN name ar n))->qS d s.heap aA->R (.ok (.ret .none)) {s with heap:=aA,toks:=s.toks+1}):
  ft (c8 prog w) A (.call (.builtin "object.__setattr__") ⟨[.ref x,.str name cW,v],[]⟩) R s:=by
 refine osa_open X (Cn aa af) Y.po (r:=none) (by unfold takerIn;exact G ff rfl) λb=>?_;refine aS (any_some Y.hd) λcd bb lV=>?_;have I:(s.heap.update d (Obj.putName name (D6 w.params name) (.str name s.toks) v)).get? d=C (dictOf (putL name (D6 w.params name) (.str name s.toks) v ar) (putN name ar n)):=by rw[<-putName_dict];exact DT _ af (by rw[putName_dict];rfl)
 refine b2 (d3 (b2 (b2 (Li aa (b2 ((looks_clsIn X bb).here (G lV (d3 (a:=C d) (b2 (d3 (b2 ?_)))))))))));unfold nsSet;refine b2 (b2 (wpAny_askSetting (d3 (b2 (wpAny_mkText (b2 (Li af ?_)))))));dsimp only;(refine G (aRefKeyMayBeTheName_at _ _) (G List.any_toArray (G List.any_toArray (G aw (G (Bool.and_false _) ?_)))));refine wpAny_updatePart af (b2 (K_ I (La (by(refine G List.size_toArray (G kr ?_));obtain this:=Ro name (D6 w.params name) (.str name s.toks) v ar;lia)) ?_));exact d3 (h _ I (DU ..))
end
section
variable{c:bc}{ab:cI}
theorem G_(O:g.Ok)(U:c.Ok g dep){v:V}(r:a7 β v y)(x:aO)(ex:Bool):bH X g c β (rG g.K v x) (dM g c (getAttr y x ex)) a7:=λaW st s aa H=>
 .du (W:=λy=>dM g c (getAttr y x ex)) (r.le aa) λn a d aU=>.rS H aU λCl dG ar m I af aJ bl=>.guard λq=>.bp λu cx=>.guard λaB=>.ret λQ E aq=>
  have A:=Mm q;let⟨y,bS,r⟩:=YQ bl cx
  get_value (H.toSatO.fl U O) (Cn af aJ) A.2.ga (findObj_own A.2.hd A.1 rfl ((lookIn_dict ..).trans bS)) (Zh aB r) (aq y _ aW (.refl _) H.toks r)
theorem RN(O:g.Ok)(U:c.Ok g dep){v u:V}{z:az}(r:a7 β v y)(x:aO)(q:a7 β u z):bH X g c β (setAt g.K v x u) (λQ E s=>a5 g.M c.A (xd y x z) Q E s) (λI I I=>True):=λaW st s aa H=>
 .du (W:=λy=>λQ E s=>a5 g.M c.A (xd y x z) Q E s) (r.le aa) λn a d aU=>.rS H aU λCl dG ar m ne af aJ bl=>.guard λp=>.zT λgr aN bL Q E aq=>
  have P:=(ew _ _).mp p;have A:=Mm P.1
  set_plain (H.toSatO.fl U O) (Cn af aJ) A.2.r7 (ac7 (s:={s with toks:=s.toks+1}) (H.toSatO.fl U O) A.2 af aJ A.1 (Ox (x:=x) bl) (by obtain this:=bl.length;obtain b8:dG.length<1000:=bA P.2;lia) λaA g1 g2=>
   aq () _ aW (.refl _) (H.turn (t:=s.toks+1+1) aN bL aU (.inr rfl) g2.extBut ⟨ne,_,_,(g2.2 a ne).trans af,g1,adA (q.le aa) bl⟩ rfl) trivial)
end
theorem Yx(x y:bz):(!(S7 (aQ x) (aQ y) 0 (aQ x).length 1).isEmpty)=ae↔y<:+:x:=by
 rw[StrLaws.found_iff];have aX:∀z:bz,(aQ z).length=z.length:=λz=>by simp[aQ,Str.length]
 constructor
 .rintro ⟨i,aa,af⟩;rw[StrLaws.subAt_eq,beq_iff_eq,aX] at af;replace af:(x.drop i).take y.length=y:=af;refine⟨x.take i,(x.drop i).drop y.length,?_⟩;(refine G (bV af) (G (nP _ _ _) ?_));refine G af ?_;obtain this:y++List.drop y.length (List.drop i x)=List.drop i x:=by obtain this:=q3 y.length (x.drop i);rw[af] at this;exact this
  (refine G this ?_;exact G (q3 _ _) rfl)
 .rintro ⟨a,b,rfl⟩;refine(bh a.length ?_ ?_)
  ·(refine G (aX _) (G (aX _) ?_));simp
  ·(refine G (StrLaws.subAt_eq _ _ _) (gM beq_iff_eq (G (aX _) ?_)));show((a++y++b).drop a.length).take y.length=y;exact G (nP _ _ _) (G List.drop_left (G List.take_left rfl))
theorem Pl(x y:Int):(x==y)=decide (x=y):=by(refine gM w5 ?_;rewrite[beq_iff_eq,decide_eq_true_iff];with_reducible rfl)
theorem CO(x y:bz):(aQ x==aQ y)=decide (x=y):=by(refine gM w5 ?_;rewrite[beq_iff_eq,decide_eq_true_iff]);exact⟨oh,congrArg _⟩
noncomputable abbrev ra(g:cy)(c:bc)(op:oC)(x y:az):Wp Value:=λQ E s=>a5 g.M c.A (Er op x y) Q E s
noncomputable def EE(neg:Bool)(_:aZ)(b:Bool)(v:az):Prop:=v=.bool (match neg with|true=>!b|false=>b)
noncomputable def Bv(neg:Bool):CmpOp:=match neg with|true=>.NotEq|false=>.Eq
noncomputable def H8(neg:Bool):CmpOp:=match neg with|true=>.NotIn|false=>.In
variable{xs:List V}{aH:List az}{aW:aZ}{op:Option (List ag)}
section
variable{c:bc}{ab:cI}
theorem bc.Ok.line(U:c.Ok g dep):c.A.units+64<cLine:=by obtain aa:=U.units;obtain af:=U.dep;show c.A.units+64<9900;exact jk (j1 (bU aa (l_ (KG 10 af) 30)) 64) (bA rfl)
theorem VE{au:List b5}(F:Facts S au aE ns β){x:ag}{l:bz}(ak:x.val β=C l){r:Bool}(aU:u6 xs=ae)(R:bK (a7 β) xs aH)(h:A3 au aE (.s x) xs=C r):
  r=aH.any (λy=>match y with|.str z _=>z==aQ l|_=>ai):=by
 induction R with
 |nil=>(obtain J:=aT h;clear h;subst J);rfl
 |@cons v y xs aH q t bF=>
  induction v using MI.V.casesOn with
  |s e=>
   (refine cz q λm cW hm J=>?_;try clear q;subst J);replace h:(match ag.eq au aE 400 e x with|some true=>C ae|some false=>A3 au aE (.s x) xs|none=>none)=C r:=h;refine G D9 ?_;show r=((aQ m==aQ l)||_);refine G (CO _ _) ?_;generalize q:ag.eq au aE 400 e x=aD;induction aD using b3 with
   |none=>rw[q] at h;exact bM h
   |some b=>
    refine G (bV (ag.k4 F q hm ak)) ?_;rw[q] at h;clear q;induction b using bZ with
    |true=>(obtain J:=aT h;clear h;(clear bF;subst J));rfl
    |false=>exact bF (show u6 xs=ae from aU) h
  |_=>exact c7 aU
theorem VF{s:aM}{t:Tok}(aU:u6 xs=ae)(R:bK (a7 β) xs aH):∀y∈aH,EqAt A s y (.str x t) (match y with|.str z _=>z==x|_=>ai):=by
 induction R with
 |nil=>exact λI h=>nomatch h
 |@cons v y xs aH q r bF=>
  induction v using MI.V.casesOn with
  |s e=>
   (refine cz q λm cW hm J=>?_;try clear q;subst J);intro z h;cases(dg.mp h) with
   |inl e=>exact G e (EqAt.str_str _ _ _ _)
   |inr h=>exact bF (show u6 xs=ae from aU) z h
  |_=>exact c7 aU
theorem abI{au:List b5}(F:Facts S au aE ns β){s:aM}{aH:List V}{us ws:Array az}{r:Bool}(g2:bK (a7 β) xs us.toList)(eh:bK (a7 β) aH ws.toList)(cb:P0 au aE xs aH=C r)
  (no:r=ai->(us.size !=ws.size)=ae->P)(yes:∀e:Nat->Bool,us.size=ws.size->(∀j(aa:j<us.size)(af:j<ws.size),EqAt A s us[j] ws[j] (e j))->r=(pD us.size).all e->P):P:=by
 obtain⟨ul⟩:=us;obtain⟨wl⟩:=ws;dsimp only at g2 eh;cases g2 with
 |nil=>
  (obtain J:=aT cb;clear cb;subst J);cases eh with
  |nil=>exact yes (λI=>ae) rfl (λj h=>absurd h (w7 j)) rfl
  |cons=>exact no rfl rfl
 |cons q t=>
  cases eh with
  |nil=>(obtain J:=aT cb;clear cb;(clear yes;subst J));exact no rfl rfl
  |cons en dC=>
   exact ct cb λI a9 cb=>ct cb λI bf cb=>ct cb λa cB cb=>ct cb λb iM cb=>by
    cases lq a9;cases t;cases lq bf;cases dC;cases zV cB;cases zV iM;(refine cz q λl t aX J=>?_;try clear q;subst J);(refine cz en λa_ dC jw J=>?_;try clear en;(clear no;subst J));exact yes (λI=>r) rfl (λj aa af=>match j,aa,af with
     |0,_,_=>by(refine G (ag.k4 F cb aX jw) (G (bV (CO _ _)) ?_));exact EqAt.str_str _ _ _ _
     |j+1,h,_=>absurd (Tn h) (w7 j)) (Lb r).symm
theorem NS(U:c.Ok g dep){a b:V}{x:az}(c2:a7 β a x)(dy:a7 β b y)(neg:Bool):bH X g c β (GS g.K a b) (ra g c (Bv neg) x y) (EE neg):=by
 intro aW st s aa H;obtain c2:=c2.le aa;have dy:=dy.le aa;induction a using MI.V.casesOn with
 |i=>
  (refine cz c2 λz t a8 J=>?_;try clear c2;(clear c2;subst J));exact .aC (W:=λy=>ra g c (Bv neg) (.int z t) y) dy λe gU dC g5=>.vJ λr cb=>.ret λQ E aq=>by
   have:=bo.k4 H.facts cb a8 g5;induction neg using bZ with
   |false=>exact Tb (by(refine G (Pl _ _) (G (bV this) ?_));exact aq _ s aW (.refl _) H rfl)
   |true=>exact PyProof.Rows.ne_int (by((rewrite[bne];refine G (Pl _ _) ?_);refine G (bV this) ?_);exact aq _ s aW (.refl _) H rfl)
 |s=>
  (refine cz c2 λz t a8 J=>?_;try clear c2;(clear c2;subst J));exact .ck (W:=λy=>ra g c (Bv neg) (.str (aQ z) t) y) dy λe gU dC g5=>.vJ λr cb=>.ret λQ E aq=>by
   have:=ag.k4 H.facts cb a8 g5;induction neg using bZ with
   |false=>exact PyProof.Rows.eq_str (by(refine G (CO _ _) (G (bV this) ?_));exact aq _ s aW (.refl _) H rfl)
   |true=>exact PySem.P.ne_str (by((rewrite[bne];refine G (SeqAt.str_beq _ _) (G (CO _ _) ?_));refine G (bV this) ?_);exact aq _ s aW (.refl _) H rfl)
 |r n=>
  (refine cz c2 λa1 eZ gG J=>?_;try clear c2;(clear c2;subst J));exact .du (W:=λy=>ra g c (Bv neg) (.ref a1) y) dy λm a2 hp n_=>.kG H gG λxs us k I g1 g2=>.kG H n_ λaH ws eF I g3 eh=>.vJ λr cb=>.ret λQ E aq=>
   have fJ:s.heap.IsList a1 us:=⟨_,g1,rfl,k,rfl⟩;have fV:s.heap.IsList a2 ws:=⟨_,g3,rfl,eF,rfl⟩;have cx:c.A.units<cLine:=by obtain this:=U.line;exact jk (gs _ _) (by assumption)
   abI H.facts (A:=c.A.in1) (s:=s) g2 eh cb (λe h=>by
    (clear cb;subst e);induction neg using bZ with
    |false=>exact eq_list_lengthsAt fJ fV h cx (aq _ s aW (.refl _) H rfl)
    |true=>exact S3 (RcNeAt.lists_lengths fJ fV h cx) (aq _ s aW (.refl _) H rfl)) λe h he cb=>by
    subst cb;induction neg using bZ with
    |false=>exact eq_listAt fJ fV h cx he (aq _ s aW (.refl _) H rfl)
    |true=>exact S3 (RcNeAt.lists fJ fV h cx he) (aq _ s aW (.refl _) H rfl)
 |_=>exact .fail
theorem H9{st:St}{s:aM}(H:Sat g c st aW s){x:ag}{l:bz}{t:Tok}(ak:x.val aW=C l){a:aF}{aH:Array az}(aX:s.heap.IsList a aH\/s.heap.IsTuple a aH)(R:bK (a7 aW) xs aH.toList)(neg:Bool):
  At X g c aW st s (among x xs) (ra g c (H8 neg) (.str (aQ l) t) (.ref a)) (EE neg):=by
 refine .guard λaU=>.vJ λr cb=>.ret λQ E aq=>?_;obtain aa:=VE H.facts ak aU R cb;have af:∀y,y∈aH->EqAt c.A.in1 s y (.str (aQ l) t) (match y with|.str z _=>z==aQ l|_=>ai):=λy bS=>VF aU R y (Array.mem_toList_iff.mpr bS);rw[Array.any_toList] at aa;(clear cb;subst aa);induction neg using bZ with
 |false=>
  rcases aX with aX|aX
  .exact in_listAt _ aX af (aq _ s aW (.refl _) H rfl)
  .exact in_tupleAt _ aX af (aq _ s aW (.refl _) H rfl)
 |true=>
  rcases aX with aX|aX
  .exact notIn_listAt _ aX af (aq _ s aW (.refl _) H rfl)
  .exact notIn_tupleAt _ aX af (aq _ s aW (.refl _) H rfl)
theorem Fh:∀aH:List az,bK (a7 β) (aH.map wg) aH
 |[]=>.nil
 |y::aH=>.cons (Ja β y) (Fh aH)
noncomputable def Found(β:aZ)(ay:List (aO×az))(ar:List (ag×V))(l:bz):Option (Nat×V)->Prop
 |some p=>(∃y,a0 ay (aQ l)=C y/\a7 β p.2 y)/\∃e:ag×V,ar[p.1]? =C e/\e.1.val β=C l/\e.2=p.2
 |none=>a0 ay (aQ l)=none/\∀e:ag×V,e∈ar->e.1.val β≠C l
set_option tactic.hygienic true in
theorem Qb{au:List b5}(F:Facts S au aE ns β){k:ag}{l:bz}(aw:k.val β=C l)
  (aJ:kZ β ay ar)
  {b:Option (List (aO×az))}(cP:AY b β ay ar op){r:Option (Nat×V)}(h:look au aE k ar op=C r):
  Found β ay ar l r:=by
 have bJ:=aJ.vals;unfold look at h;generalize q:tp au aE k 0 ar=z at h;induction z using MI.xl.casesOn with
 |stuck=>exact bM h
 |«at» i v=>(obtain J:=aT h;clear h;subst J);obtain(⟨_,e,he,bl,eT⟩):=Oc F aw bJ q;rw[Nat.sub_zero] at he;obtain(⟨m,y,hm,bS,r⟩):=aJ e (l7 he);rw[eT] at hm;(obtain J:=aT hm;clear hm;subst J);(clear q;subst bl);exact⟨(bh y bS r),e,he,eT,rfl⟩
 |no=>
  obtain no:=Oe F aw bJ q;have CZ:∀e:ag×V,e∈ar->e.1.val β≠C l:=λe he z=>no e he l z rfl;induction op using b3 with
  |none=>
   (obtain J:=aT h;clear h;subst J);refine⟨?_,CZ⟩;generalize w:a0 ay (aQ l)=aD;induction aD using b3 with
   |none=>rfl
   |some y=>refine aS (cP (aQ l) (by refine G w ?_;simp)) λe he z=>?_;exact absurd z (CZ e he)
  |some abs=>
   dsimp only at h;split at h
   .rename_i u;(obtain J:=aT h;clear h;subst J);obtain lg:∀e:ag,e∈abs->∃m,e.val β=C m:=λe he=>(aS (cP.1 e he) λm h _=>⟨m,h⟩);refine aS (Qm F aw lg u) λe he z=>aS (cP.1 e he) λm hm y=>?_;rw[z] at hm;(obtain J:=aT hm;clear hm;subst J);exact⟨y.elim id λgd=>(by(refine aS gd λf hf q=>?_;try clear gd);exact absurd q (CZ f hf)),CZ⟩
   .exact bM h
theorem vh{a:aF}{o:cY}(aa:h.get? a=C o)(af:o.IsDictOf (strKind g.prog g.w) ay):h.DictOf (strKind g.prog g.w) a ay:=sl.mpr (bh o aa af)
theorem nC(g:cy)(l:bz)(t:Tok):(strKind g.prog g.w).is (aQ l) (.str (aQ l) t)=true:=El _ _ _ _
structure sM(g:cy)(h:gj)(β:aZ)(a d:aF)(ar:List (ag×V))(op:Option (List ag))(ay:List (aO×az)):Prop where
 ja:a=d
 ne:a≠ku
 D:h.DictOf (strKind g.prog g.w) a ay
 g3:kZ β ay ar
 eh:ar.Pairwise (λe f=>e.1.val β≠f.1.val β)
 gv:AY (g.base a) β ay ar op
 jb:ay.length<=ar.length+qG g.S op
theorem sM.of{a:aF}(R:cL g h.get? β a d (.dict ar op)):∃ay,sM g h β a d ar op ay:=by obtain(⟨a9,bf,_,ay,g1,g2,g3,eh,gv,jb⟩):=R;exact⟨ay,a9,bf,vh g1 g2,g3,eh,gv,jb⟩
theorem At.m9{st:St}{s:aM}{ah:Type}{e:ag}{l:bz}{a:aF}{f:Option (Nat×V)->M aV}{W:Wp ah}{R:aZ->aV->ah->Prop}(H:Sat g c st β s)(D:sM g s.heap β a d ar op ay)(aX:e.val β=C l)
  (h:∀r,Found β ay ar l r->At X g c β st s (f r) W R):At X g c β st s ((MI.m9 k e (ar,op)).bind f) W R:=.ib λr cb=>h r (Qb H.facts aX D.g3 D.gv cb)
theorem At.vg{st:St}{s:aM}{ah:Type}{a:aF}{f:List (ag×V)×Option (List ag)->M aV}{W:Wp ah}{R:aZ->aV->ah->Prop}(H:Sat g c st β s)(aU:β.ad[n]? =C (a,d))
  (h:∀ar op ay,sM g s.heap β a d ar op ay->At X g c β st s (f (ar,op)) W R):At X g c β st s ((MI.fR k n O.i_).bind f) W R:=.i_ H aU λar op R=>(sM.of R).elim λay D=>h ar op ay D
theorem Pg(O:g.Ok)(U:c.Ok g dep){a b:V}{x:az}(c2:a7 β a x)(dy:a7 β b y)(neg:Bool):bH X g c β (H7 g.K a b) (ra g c (H8 neg) x y) (EE neg):=λaW st s aa H=>
 .ck (W:=λx=>ra g c (H8 neg) x y) (c2.le aa) λe l t a8=>by
  obtain dy:=dy.le aa;induction b using MI.V.casesOn with
  |s=>
   (refine cz dy λm u g5 J=>?_;try clear dy;subst J);refine .bp λa_ aX=>.vJ λr cb=>.ret λQ E aq=>?_;rw[ag.vW aX] at a8;cases(a8);have e:(!(S7 (aQ m) (aQ l) 0 (aQ m).length 1).isEmpty)=r:=by(refine gM w5 ?_;rewrite[Yx]);exact(ag.Zj H.facts cb g5).symm
   induction neg using bZ with
   |false=>exact PySem.P.in_str (G e (aq _ s aW (.refl _) H rfl))
   |true=>exact PySem.P.notIn_str (G e (aq _ s aW (.refl _) H rfl))
  |r n=>
   (refine cz dy λa2 hp n_ J=>?_;try clear dy;subst J);refine .og H n_ λo R=>?_;generalize q:o.i_=aD;induction aD using b3 with
   |some p=>
    rw[oR q] at R;refine bG (sM.of R) λay D=>.m9 H D a8 λr k=>.ret λQ E aq=>?_;have e:(a0 ay (aQ l)).isSome=r.isSome:=by
     induction r using b3 with
     |none=>exact G k.1 rfl
     |some p=>exact aS k.1 λI bS I=>G bS rfl
    have ne:=beq_eq_false_iff_ne.mpr D.ne;induction neg using bZ with
    |false=>exact wpAny_in_of (nC g l t) ne D.D.mapOf (G e (aq _ _ aW (.refl _) H.toks rfl))
    |true=>exact wpAny_notIn_of (nC g l t) ne D.D.mapOf (G e (aq _ _ aW (.refl _) H.toks rfl))
   |none=>
    refine .bp λxs q=>?_;induction o using MI.O.casesOn with
    |list xs=>(obtain J:=aT q;clear q;subst J);obtain(⟨_,us,k,g1,g2⟩):=R;exact H9 H a8 (.inl ⟨_,g1,rfl,k,rfl⟩) g2 neg
    |tup xs=>(obtain J:=aT q;clear q;subst J);obtain(⟨_,us,k,g1,g2⟩):=R;exact H9 H a8 (.inr ⟨_,g1,rfl,k,rfl⟩) g2 neg
    |_=>exact bM q
  |c v=>
   obtain rfl:=dy;exact .bp λl q=>Se q λa o g6 n a9 bf cB iM lS=>by(refine G a9 (G lS ?_));exact H9 H a8 (.inr ⟨_,H.toSatO.fl U O _ _ bf,cB,n,iM⟩) (Fh _) neg
  |_=>exact .fail
end
variable{E:az->aM->Prop}
section
variable{s:aM}{l b:aF}{items yT:Array az}{dX:Nat}
theorem Yo:fillsInplaceSlot (.type "list") "add" (Operator.Add==.Add)=pure false:=by unfold fillsInplaceSlot;show(Em (.type "list") (dunderI "add")>>=λtm=>pure (tm.isSome&&!isSeqSlot tm))=pure ai;refine G F.slot_list_iadd.lookup ?_;show(pure _:hC Bool)=pure ai;exact congrArg _ (by kernel_rfl)
theorem afx:seqSlot? (.type "list") (dunderI "add")=pure (C (.builtin "list.__iadd__")):=PySem.seqSlot_of F.slot_list_iadd.lookup (by kernel_rfl)
theorem aat{Q:az->aM->Prop}(aX:IsL s.heap l items n)(aB:IsL s.heap b yT dX)(a8:items.size+yT.size<=200000)
  (h:Q (.ref l) {s with heap:=s.heap.update l (Obj.mapSeq λx=>x++yT)}):a5 (c8 prog w) A (qY .Add (.ref l) (.ref b)) Q E s:=by
 have aU:s.TypeIs (.ref l) "list":=⟨_,aX,rfl⟩;obtain iy:s.TypeIs (.ref b) "list":=⟨_,aB,rfl⟩;have bL:items.size+yT.size<=sizeLine:=by exact G kr (bU (by assumption) (bA rfl))
 unfold qY;refine iI (b2 (wpAny_typeOf aU (b2 (wpAny_of_eq Yo (b2 (wpAny_binaryOp1_none (nm:="add") aU iy noFill_list_add (b2 (wpAny_of_eq afx (b2 (wpAny_rule (call_meets (args:=F.args_list_iadd_2 _ _) F.slot_list_iadd aU F.entry_list_iadd (g:=AutoSeq1.list___iadd___list_list_0 l items n b yT dX ?_ ?_ ?_) ?_)))))))))))
 .unfold S6;simp;intro _;refine G kr ?_;assumption
 .exact bU (gs _ _) (by assumption)
 .exact KR (by assumption)
 .exact(fi aX aB h)
end
section
variable{c:bc}{ab:cI}
theorem CJ{st:St}{s:aM}(H:Sat g c st β s){a b:V}{x:az}(c2:a7 β a x)(dy:a7 β b y){W:Wp az}{R:aZ->Bool->az->Prop}
  (k:∀r(z gU:Int) t dC,x=.int z t->y=.int gU dC->r=decide (z<gU)->At X g c β st s (M.pure r) W R):At X g c β st s (y9 a b) W R:=by refine .bp λe q=>?_;cases qs q;refine .bp λf q=>?_;cases qs q;(refine cz c2 λz t a8 J=>?_;try clear c2;subst J);(refine cz dy λgU dC g5 J=>?_;try clear dy;subst J);exact .vJ λr cb=>k r z gU t dC rfl rfl (bo.IU H.facts cb a8 g5)
theorem Po{v:V}{r:Bool}(h:isNone v=C r)(q:a7 β v y):(y==xc)=r:=by
 induction v using MI.V.casesOn with
 |c v=>obtain rfl:=q;replace h:QL y=C r:=h;cases y<;>cases h<;>rfl
 |u=>exact bM h
 |i=>(obtain J:=aT h;clear h;subst J);(refine cz q λI I I J=>?_;try clear q;subst J);rfl
 |s=>(obtain J:=aT h;clear h;subst J);(refine cz q λI I I J=>?_;try clear q;subst J);rfl
 |r=>(obtain J:=aT h;clear h;subst J);(refine cz q λI I I J=>?_;try clear q;subst J);rfl
theorem At.map{st:St}{s:aM}{m:M aV}{f:aV->d8}{W:Wp az}{R:aZ->d8->az->Prop}(h:At X g c β st s m W (λav a v=>R av (f a) v)):At X g c β st s (m.bind λa=>M.pure (f a)) W R:=by obtain this:=h.bind (f:=λa=>M.pure (f a)) (k:=λv=>λQ I s=>Q v s) (cC:=R) λav v a bk ao l r S=>.ret λQ E aq=>aq _ _ av (.refl _) S r;exact this
theorem M5(O:g.Ok)(U:c.Ok g dep){a b:V}{x:az}(c2:a7 β a x)(dy:a7 β b y)(op:oC):bH X g c β (cmp g.K op a b) (ra g c op x y) (λI r v=>v=.bool r):=by
 intro aW st s aa H;have r4:=c2.le aa;have r5:=dy.le aa;cases op with
 |Eq=>exact(NS U c2 dy ai aW st s aa H).imp λI I I I r=>r
 |NotEq=>exact .map ((NS U c2 dy ae aW st s aa H).imp λI I I I r=>r)
 |In=>exact(Pg O U c2 dy ai aW st s aa H).imp λI I I I r=>r
 |NotIn=>exact .map ((Pg O U c2 dy ae aW st s aa H).imp λI I I I r=>r)
 |Lt=>refine CJ H r4 r5 λr z gU t dC a9 bf cB=>.ret λQ E aq=>?_;(clear r4 c2;subst a9 bf cB);exact Ab (aq _ s aW (.refl _) H rfl)
 |GtE=>refine .map (CJ H r4 r5 λr z gU t dC a9 bf cB=>.ret λQ E aq=>?_);(clear r4 c2;subst a9 bf cB);exact PyProof.Rows.ge_int (aq _ s aW (.refl _) H (by congr 1;by_cases h:z<gU<;>simp[h]<;>lia))
 |Gt=>refine CJ H r5 r4 λr z gU t dC a9 bf cB=>.ret λQ E aq=>?_;(clear r5 dy;subst a9 bf cB);exact Tc (aq _ s aW (.refl _) H rfl)
 |LtE=>refine .map (CJ H r5 r4 λr z gU t dC a9 bf cB=>.ret λQ E aq=>?_);(clear r5 dy;subst a9 bf cB);exact PyProof.Rows.le_int (aq _ s aW (.refl _) H (by congr 1;by_cases h:z<gU<;>simp[h]<;>lia))
 |Is=>refine .guard λq=>?_;cases Pn q;obtain rfl:=r5;exact .oj λr cb=>.ret λQ E aq=>PySem.is_none (G (Po cb r4) (aq _ s aW (.refl _) H rfl))
 |IsNot=>refine .guard λq=>?_;cases Pn q;obtain rfl:=r5;exact .bp λr cb=>.ret λQ E aq=>PySem.isNot_none (G (Po cb r4) (aq _ s aW (.refl _) H rfl))
theorem bo.JM{au:List b5}(F:Facts S au aE ns β){e:bo}(h:bo.small au e=ae)(q:e.val β=C z):0<=z/\z<=2000000:=
 cN h λI aa h=>cN h λI af h=>⟨gk (Av.mp (of_decide_eq_false (jl _▸bR h))) (bo.lo_le F aa q),gk (bo.vU F af q) (Av.mp (of_decide_eq_false (jl _▸bB h)))⟩
theorem Gn(h:0<=z/\z<=2000000):(eR z).length<=8:=by
 obtain e:=int_text_length_le10 (a:=z) (k:=7) (aR rfl) (L4 (k:=2000000) h (bA rfl));obtain this:(eR z).length=(toString z).length:=by
  unfold eR cs
  ((refine G (Lp _) (G (gB _) ?_));exact G String.length_toList rfl)
 lia
theorem ag.z5{au:List b5}(F:Facts S au aE ns β):∀{e:ag}{n:Nat}{l:bz},ag.wide au e=C n->ag.val β e=C l->l.length<=n
 |[],n,l,h,q=>by(obtain J:=aT h;clear h;subst J);(obtain J:=aT q;clear q;subst J);exact dO _
 |p::r,n,l,h,q=>by
  (refine fD (ag.eN.mp q) λu v cx bJ J=>?_;subst J);rw[ag.agU] at h;refine ct h λm hm h=>?_
  .have bF:=ag.z5 F hm bJ;refine G iG ?_;induction p using MI.c1.casesOn with
   |lit k=>(obtain J:=aT h;clear h;(clear h;subst J));(obtain J:=aT cx;clear cx;(clear q;subst J));exact l_ (by assumption) _
   |dec e=>
    dsimp only at h;split at h
    .rename_i zS;(obtain J:=aT h;clear h;(clear h;subst J));(refine aS (ag.vf cx) λz a8 J=>?_;(clear q cx;subst J));obtain this:=Gn (bo.JM F zS a8);exact mP (by assumption) (by assumption)
    .exact bM h
   |chr k=>(obtain J:=aT h;clear h;(clear h;subst J));(refine aS (ag.b9 cx) λd _ J=>?_;(clear q cx;subst J));simp;lia
   |any k=>(obtain J:=aT h;clear h;(clear h;subst J));obtain this:=F.ck u (l7 cx);lia
theorem ag.Yr{au:List b5}(F:Facts S au aE ns β){a b:ag}{l m:bz}(h:ag.fits au a b=C ())(aU:ag.val β a=C l)(aB:ag.val β b=C m):l.length+m.length<=100000:=
 ct h λx aa h=>ct h λy af h=>by
  generalize q:(dw (x+y) 100000)=aD;induction aD using bZ with
  |true=>exact bU (mP (ag.z5 F aa aU) (ag.z5 F af aB)) (bA q)
  |false=>rw[q] at h;exact bM h
theorem CN(l m:bz):aQ l++aQ m=aQ (l++m):=by apply gu.mp;unfold eqs;(refine gM x9 (G (cps_toList_append _ _) ?_));rfl
theorem CV(O:g.Ok)(U:c.Ok g dep){st:St}{s:aM}(H:Sat g c st β s)(aN:st.no<10000000){aH:Array az}(R:bK (a7 β) xs aH.toList):
  Sat g c {st with σ:=st.σ.put cU st.no (ae,.list xs),no:=st.no+1} (β.new s.heap.objs.size s.heap.objs.size) {s with heap:=s.heap.push (listOf aH 0),toks:=t}/\a7 (β.new s.heap.objs.size s.heap.objs.size) (.r st.no) (.ref s.heap.objs.size):=
 ⟨H.oN U aN (λI I e=>f5 _ e) (dO _) (dO _) ⟨rfl,aH,0,nN _ rfl,R.imp λI I x=>x.le (β.gI _ _)⟩ rfl,⟨_,_,by exact G (bV H.len) (β.lp _ _),rfl⟩⟩
theorem At.tY(O:g.Ok)(U:c.Ok g dep){st:St}{s:aM}(H:Sat g c st β s){W:Wp az}(h:∀(Q:az->aM->Prop)(E:az->aM->Prop),(∀aH aA t,bK (a7 β) xs aH.toList->aA=s.heap.push (listOf aH 0)->Q (.ref s.heap.objs.size) {s with heap:=aA,toks:=t})->W Q E s):At X g c β st s (MI.tY xs) W a7:=
 .alloc λaN=>.ret λQ E aq=>h Q E λaH aA t R e=>by subst e;have N:=CV (t:=t) O U H aN (xs:=xs) R;exact aq _ _ _ (β.gI _ _) N.1 N.2
theorem At.rU{st:St}{s:aM}{m:Nat}{a1 a2 eZ hp:aF}{f:List V->List V->M V}{W:Wp az}(H:Sat g c st β s)(aa:β.ad[n]? =C (a1,eZ))(af:β.ad[m]? =C (a2,hp))
  (h:∀xs aH us ws k eF,a1=eZ->s.heap.get? a1=C (listOf us k)->s.heap.get? a2=C (listOf ws eF)->bK (a7 β) xs us.toList->bK (a7 β) aH ws.toList->us.size+ws.size<=4000->At X g c β st s (f xs aH) W a7):At X g c β st s (MI.rU n m f) W a7:=
 .kG H aa λxs us k e g1 g2=>.kG H af λaH ws eF I g3 eh=>.guard λq=>h xs aH us ws k eF e g1 g3 g2 eh (by obtain this:=bA q;obtain a9:xs.length=us.size:=g2.length;obtain bf:aH.length=ws.size:=eh.length;lia)
theorem At.v7{st:St}{s:aM}{a b:V}{x:az}{ok:Nat->Bool}{f:Nat->Nat->Nat}{W:az->az->Wp az}(c2:a7 β a x)(dy:a7 β b y)(h:∀i j t u,i<=100000->j<=100000->ok j=ae->At X g c β st s (M.pure (.i (.lit (.ofNat (f i j))))) (W (.int (pE i) t) (.int (pE j) u)) a7):
  At X g c β st s (MI.v7 a b ok f) (W x y) a7:=
 .bp λi dS=>.bp λj cE=>.guard λq=>by cases pb dS;cases pb cE;(refine cz c2 λz t a8 J=>?_;try clear c2;subst J);(refine cz dy λgU dC g5 J=>?_;try clear dy;subst J);(obtain J:=aT a8;clear a8;subst J);(obtain J:=aT g5;clear g5;subst J);have q:=(ew _ _).mp q;have en:=(ew _ _).mp q.2;exact h i j t dC (bA q.1) (bA en.1) en.2
theorem At.o1{st:St}{s:aM}(H:Sat g c st β s){x:Option bo}{W:Wp az}(ak:∀e,x=C e->e.val β=C z)(h:∀(Q:az->aM->Prop)(E:az->aM->Prop),(∀t k,Q (.int z t) {s with toks:=k})->W Q E s):At X g c β st s (MI.o1 x) W a7:=
 .bp λe he=>.ret λQ E aq=>h Q E λt k=>aq _ _ β (.refl _) H.toks ⟨z,t,ak e he,rfl⟩
theorem V3(O:g.Ok)(U:c.Ok g dep){a b:V}{x:az}(c2:a7 β a x)(dy:a7 β b y)(op:pF):bH X g c β (binop op a b) (dM g c (sx op x y)) a7:=by
 intro aW st s aa H;have c2:=c2.le aa;have dy:=dy.le aa;cases op with
 |Add=>
  induction a using MI.V.casesOn with
  |i=>(refine cz c2 λz t a8 J=>?_;try clear c2;(clear c2;subst J));exact .aC (W:=λy=>dM g c (sx .Add (.int z t) y)) dy λe gU dC g5=>.o1 H (λe he=>bo.A0 he a8 g5) λQ E aq=>PyProof.Rows.add_int (aq _ _)
  |s=>
   (refine cz c2 λl t aX J=>?_;try clear c2;(clear c2;subst J));exact .ck (W:=λy=>dM g c (sx .Add (.str (aQ l) t) y)) dy λe m u hm=>.ib λr cb=>.ret λQ E aq=>
    Kr (λdC cW=>aq _ _ aW (.refl _) H.toks ⟨l++m,dC,ag.FZ aX hm,by exact G (CN _ _) rfl⟩) (by obtain this:=ag.Yr H.facts cb aX hm;show l.length+m.length<=_;exact G kr (bU (by assumption) (bA rfl)))
  |r=>
   (refine cz c2 λa1 eZ gG J=>?_;try clear c2;(clear c2;subst J));exact .du (W:=λy=>dM g c (sx .Add (.ref a1) y)) dy λm a2 hp n_=>.rU H gG n_ λxs aH us ws k eF I g1 g3 g2 eh q=>.tY O U H λQ E aq=>
    P.add_list g1 g3 (aq _ _ _ (G Kz (g2.append eh)) rfl) (G kr (bU (by assumption) (bA rfl)))
  |_=>exact .fail
 |Sub=>refine .aC (W:=λx=>dM g c (sx .Sub x y)) c2 λe z t a8=>.aC (W:=λy=>dM g c (sx .Sub (.int z t) y)) dy λe gU dC g5=>.o1 H (λe he=>bo.JP he a8 g5) λQ E aq=>Ks (aq _ _)
 |Mult=>
  exact .v7 (W:=λx y=>dM g c (sx .Mult x y)) c2 dy λi j t u aa af I=>.ret λQ E aq=>
   PyProof.Rows.mul_int (aq _ _ aW (.refl _) H.toks ⟨_,_,rfl,rfl⟩) (by
    obtain aJ:(i:Int)<2^64:=by exact mR.mpr (jk aa (bA rfl))
    exact IntMulOk.of_left (intBits_le_64 (by show-(2^64)<(i:Int);exact KO (aR rfl) (kV i)) aJ))
 |FloorDiv=>
  exact .v7 (W:=λx y=>dM g c (sx .FloorDiv x y)) c2 dy λi j t u aa af aJ=>.ret λQ E aq=>by
   obtain aJ:=bA aJ;obtain e:Int.fdiv (pE i) (pE j)=pE (i/j):=by show Int.fdiv (i:Int) (j:Int)=_;exact G (Int.fdiv_eq_ediv_of_nonneg _ (kV j)) rfl
   exact PyProof.Rows.floordiv_int (by show(j:Int)≠0;lia) (aq _ _ aW (.refl _) H.toks ⟨_,_,rfl,by exact G e rfl⟩) (.inl (PyProof.noPylong_small (by show j<_;exact jk (by assumption) (bA rfl))))
 |_=>exact .fail
end
theorem P5{e:bo}{k:Int}(h:litOf e=C k)(q:e.val β=C z):k=z:=by cases tU h;(obtain J:=aT q;clear q;subst J);rfl
set_option tactic.hygienic true in
theorem afw{aH:Array az}{c:Int}{v:V}(h:JI xs c=C v)(R:bK (a7 β) xs aH.toList):
  ∃j y,seqIndex? c aH.size=C j/\aH[j]? =C y/\a7 β v y/\-(2^63)<=c/\c<2^63:=by
 have len:xs.length=aH.size:=by obtain this:=R.length;simpa using this
 unfold JI at h;induction c using Lk with
 |ofNat i=>
  dsimp only at h;split at h
  .rename_i q;obtain q:=bA q;rw[fY] at h;refine aS (R.get h) λy bS r=>?_;rw[pJ] at bS;refine bG (DP.mp bS) λaX _=>?_;refine(Kf i y ?_ bS r ?_ ?_)
   .obtain this:=seqIndex_of (k:=(i:Int)) (n:=aH.size) (kV _) (jn.mpr (by assumption));exact this
   .show-(2^63)<=(i:Int);exact kV _
   .show(i:Int)<2^63;lia
  .exact bM h
 |negSucc i=>
  dsimp only at h;split at h
  .rename_i q;have dS:i<xs.length:=bA (bR q);obtain cE:=bA (bB q);rw[fY] at h;refine aS (R.get h) λy bS r=>?_;rw[pJ] at bS;refine(Kf (xs.length-(i+1)) y ?_ bS r ?_ ?_)
   .unfold seqIndex?;obtain e:Ll i=-((i:Int)+1):=rfl;dsimp only;(refine G e (G (if_pos (show-((i:Int)+1)<0 from Int.negSucc_lt_zero i)) (G (if_pos (by((refine G (ew _ _) ?_;rewrite[decide_eq_true_iff,decide_eq_true_iff]);refine G (QD (len▸dS)) ?_);exact⟨kV _,mR.mpr (Nat.sub_lt (jk (l5 _) (len▸dS)) (pA _))⟩)) ?_)));(refine G (QD (len▸dS)) (G len ?_));rfl
   .obtain e:Ll i=-((i:Int)+1):=rfl;lia
   .obtain e:Ll i=-((i:Int)+1):=rfl;lia
  .exact bM h
section
variable{c:bc}{ab:cI}
theorem ps(h:isSlice e=ai)(o i:az):subscripted e ai o i=operate [o,i] (sz o i):=by cases e<;>first|rfl|exact jB h
noncomputable abbrev LY(g:cy)(c:bc)(value slice:bj)(o i:az):Wp Value:=λQ E s=>a5 g.M c.A (xa value slice o i) Q E s
theorem RM{st:St}{s:aM}(H:Sat g c st β s){a:aF}{k:Int}{t:Tok}{aH:Array az}(aX:s.heap.IsList a aH\/s.heap.IsTuple a aH)(R:bK (a7 β) xs aH.toList){e:bo}
  (aw:e.val β=C k)(value slice:bj)(bL:isSlice slice=ai):
  At X g c β st s (itemAt xs e) (LY g c value slice (.ref a) (.int k t)) a7:=by
 refine .bp λeF tF=>.oj λv bJ=>.ret λQ E aq=>?_;obtain this:eF=k:=P5 tF aw;(clear aw;subst this);refine t4 (afw bJ R) λj y aa af r aJ bl=>?_;have fin:=aq y s β (.refl _) H r;rcases aX with aX|aX
 .refine mM aX.typeIs w3.lookup ?_ (ps bL _ _);unfold seqIndex? at aa;dsimp only at aa;by_cases h0:eF<0
  .rw[if_pos h0] at aa;split at aa
   .rename_i q;rw[ew,decide_eq_true_iff,decide_eq_true_iff] at q;(obtain J:=aT aa;clear aa;subst J);refine wpAny_getItem_list_neg aX h0 (by lia) (by assumption) af fin
   .exact bM aa
  .rw[if_neg h0] at aa;split at aa
   ·(obtain J:=aT aa;clear aa;subst J);exact DY aX (by lia) (by assumption) af fin
   .exact bM aa
 .exact mM (T:="tuple") (by(refine eH aX λo bw bb _=>?_;try clear aX);exact⟨o,bw,bb⟩) F.slot_tuple_getitem.lookup (S2 aX aJ (by assumption) aa af fin) (ps bL _ _)
theorem abL{l:bz}{k:Int}{v:V}(h:P2 l k=C v)(q:∀ch:Nat,v=.s [.lit [ch]]->Txt.charAt (aQ l) k=C ch->fitsSsize k=ae->P):P:=
 ct h λi aa af=>by
  cases v5 aa;split at af
  .rename_i en;obtain en:=bA en;rw[fY] at af;refine aS (pI.mp af) λch cQ e=>bG (j0.mp cQ) λaX _=>?_;refine q ch e.symm ?_ (by unfold fitsSsize;(refine G (jl _) (gM Bool.or_eq_false_iff ?_);rewrite[decide_eq_false_iff_not,decide_eq_false_iff_not]);show¬((i:Int)<_)/\¬((i:Int)≥_);lia);unfold Txt.charAt;refine G (seqIndex_of (by show(0:Int)<=(i:Int);exact kV _) (by show(i:Int)<((l.toArray.size:Nat):Int);simp;assumption)) ?_;show(l.toArray)[i]? =_;refine G List.getElem?_toArray ?_;exact cQ
  .exact bM af
theorem Pt{st:St}{s:aM}(H:Sat g c st β s){a:aF}(aU:β.ad[n]? =C (a,d)){e:ag}{l:bz}{t:Tok}(aX:e.val β=C l){W:Wp az}
  (h:∀(Q:az->aM->Prop)(E:az->aM->Prop),(s.TypeIs (.ref a) "dict")->a5 g.M c.A (sz (.ref a) (.str (aQ l) t)) Q E s->W Q E s):At X g c β st s (Ii n e) W a7:=
 .vg H aU λar op ay D=>.m9 H D aX λr k=>.bp λp q=>by subst q;(refine a3 k λJ I=>?_;try clear k;refine aS J λy bS r=>?_;try clear J);exact .ret λQ E aq=>h Q E D.D.mapOf.typeIs (D4 (nC g l t) D.D.mapOf bS (aq y _ β (.refl _) H.toks r))
theorem aaP(O:g.Ok)(U:c.Ok g dep)(kE:∃ar n,g.K.lookup layAt=C ⟨.type "dict",none,.dict ar n,#[]⟩/\KeysLit g.w.params ar.toList){a b:V}{x:az}(c2:a7 β a x)(dy:a7 β b y)(value slice:bj)(bL:isSlice slice=ai):
  bH X g c β (item g.K a b) (LY g c value slice x y) a7:=by
 intro aW st s aa H;have c2:=c2.le aa;obtain dy:=dy.le aa;induction b using MI.V.casesOn with
 |i e=>
  (refine cz dy λz u a8 J=>?_;try clear dy;(clear dy;subst J));induction a using MI.V.casesOn with
  |r n=>(refine cz c2 λa1 eZ gG J=>?_;try clear c2;(clear c2;subst J));exact .zQ H gG λxs us L R=>RM H L R a8 value slice bL
  |s e=>(refine cz c2 λl t aX J=>?_;try clear c2;(clear c2;subst J));refine .bp λa_ jw=>.bp λk aw=>.oj λv bJ=>abL bJ λch a9 bf cB=>.ret λQ E aq=>?_;rw[ag.vW jw] at aX;cases(aX);cases P5 aw a8;(clear bJ;subst a9);refine mM (typeIs_str s _ _) F.slot_str_getitem.lookup (SB.getItem cB (G bf rfl) ?_) (ps bL _ _);refine G (show Txt.item (aQ l) z=aQ [ch] by unfold Txt.item;exact G bf rfl) ?_;exact aq _ _ aW (.refl _) H.toks ⟨[ch],_,ag.eN.mpr (d1 _ [] rfl rfl rfl),rfl⟩
  |c v=>
   obtain rfl:=c2;exact .bp λl q=>Se q λa o g6 n a9 bf cB iM lS=>by(refine G a9 (G lS ?_));exact RM H (.inr ⟨_,H.toSatO.fl U O _ _ bf,cB,n,iM⟩) (Fh _) a8 value slice bL
  |_=>exact .fail
 |s e=>
  (refine cz dy λl t aX J=>?_;try clear dy;(clear dy;subst J));induction a using MI.V.casesOn with
  |r n=>(refine cz c2 λa1 eZ gG J=>?_;try clear c2;(clear c2;subst J));exact Pt (t:=t) H gG aX λQ E ty k=>mM ty K7.lookup k (ps bL _ _)
  |c v=>obtain rfl:=c2;refine .guard λq=>.bp λa_ jw=>.bp λw hw=>.bp λv bJ=>.ret λQ E aq=>?_;subst bJ;cases Cs q;rw[ag.vW jw] at aX;cases(aX);rw[C3] at hw;(refine cz kE λar n aw jz=>?_;try clear kE);have hm:=mapOf_K (prog:=g.prog) (H.toSatO.fl U O) aw jz;exact mM hm.typeIs K7.lookup (D4 (nC g l t) hm (find_K aw hw) (aq v _ aW (.refl _) H.toks (Ja _ _))) (ps bL _ _)
  |_=>exact .fail
 |_=>exact .fail
theorem lD(dm:aO×az)(ay:List (aO×az))(x:aO):a0 (dm::ay) x=if dm.1=x then C dm.2 else a0 ay x:=by unfold a0;refine G An ?_;by_cases h:dm.1=x<;>simp[h]
theorem SA:∀(ay:List (aO×az))(k:aO)(v:az)(x:aO),a0 (ay++ [(k,v)]) x=(match a0 ay x with|some y=>C y|none=>if k=x then C v else none)
 |[],k,v,x=>by(refine G (List.nil_append _) (G (lD _ _ _) ?_));rfl
 |dm::ay,k,v,x=>by(refine G List.cons_append ?_;(refine G (lD _ _ _) (G ((SA ay) _ _ _) (G (lD _ _ _) ?_))));by_cases h:dm.1=x<;>simp[h]
theorem SD(k:aO)(v:az)(x:aO):∀ay:List (aO×az),a0 (ay.map λdm=>if dm.1=k then(dm.1,v) else dm) x=if x=k then(a0 ay x).map (λI=>v) else a0 ay x
 |[]=>by by_cases h:x=k<;>simp[h,a0]
 |dm::ay=>by
  (refine G j2 ?_;(refine G (lD _ _ _) (G (lD _ _ _) ?_));refine G (SD k v x ay) ?_);by_cases aa:dm.1=k
  .by_cases af:x=k
   .obtain this:dm.1=x:=aa.trans af.symm;simp[aa,af]
   .obtain this:¬k=x:=λe=>af e.symm;obtain this:¬dm.1=x:=λe=>af (e.symm.trans aa);have:¬k=x:=λe=>af e.symm;simp[aa,af,this]
  .by_cases af:x=k
   .obtain this:¬dm.1=x:=λe=>aa (e.trans af);simp[aa,af]
   .simp[aa,af]
theorem J9(k:aO):∀ay:List (aO×az),ay.any (λdm=>decide (dm.1=k))=(a0 ay k).isSome
 |[]=>rfl
 |dm::ay=>by(refine G D9 (G (lD _ _ _) (G (J9 k ay) ?_)));by_cases h:dm.1=k<;>simp[h]
theorem nG(ay:List (aO×az))(k:aO)(v:az)(x:aO):a0 (lG ay k v) x=if x=k then C v else a0 ay x:=by
 unfold lG;have e:=J9 k ay;split
 .rename_i h;refine G (SD _ _ _ _) ?_;by_cases q:x=k
  .subst q;rw[h] at e;refine bG (DQ.mp e.symm) λy bS=>?_;simp[bS]
  .simp[q]
 .rename_i h;refine G (SA _ _ _ _) ?_;by_cases q:x=k
  .subst q;generalize w:a0 ay x=aD;induction aD using b3 with
   |none=>simp
   |some y=>rw[w] at e;exact absurd e h
  .obtain this:¬k=x:=λe=>q e.symm;cases w:a0 ay x<;>simp[q,this]
theorem afU{k:aO}{v:az}(h:a0 ay k≠none):(lG ay k v).length=ay.length:=by obtain e:=J9 k ay;unfold lG;(refine G (if_pos (G e (Option.isSome_iff_ne_none.mpr h))) ?_;exact G (gB _) rfl)
theorem abY{k:aO}{v:az}{dm:aO×az}(h:dm∈lG ay k v):dm∈ay\/dm.2=v:=by
 unfold lG at h;split at h
 ·(refine aS (kY.mp h) λq aq J=>?_;(clear h;subst J));split
  .exact .inr rfl
  .exact .inl aq
 .rcases mb.mp h with h|h
  .exact .inl h
  .rw[eu] at h;subst h;exact .inr rfl
theorem RW(ay:List (aO×az))(k:aO)(v:az):ay.map (·.1)<+:(lG ay k v).map (·.1):=by
 unfold lG;split
 .obtain this:(ay.map λdm=>if dm.1=k then(dm.1,v) else dm).map (·.1)=ay.map (·.1):=by refine G List.map_map (Tx λdm I=>?_);show(if dm.1=k then(dm.1,v) else dm).1=dm.1;split<;>rfl
  exact G this (iH _)
 .exact G List.map_append (lI _ _)
theorem Gs{a:aF}{kL:cY}(ja:a=d)(p_:a≠ku)
  (g3:kZ β ay ar)(eh:ar.Pairwise (λe f=>e.1.val β≠f.1.val β))
  (gv:AY (g.base a) β ay ar op)(jb:ay.length<=ar.length+qG g.S op){k:ag}{l:bz}(aw:k.val β=C l){v:V}(r:a7 β v y)
  (aa:fx a=C kL)(af:kL.IsDictOf (strKind g.prog g.w) (lG ay (aQ l) y)){q:Option (Nat×V)}
  (aq:Found β ay ar l q):cL g fx β a d (Jp k v ar op q):=by
 have inj:∀m:bz,aQ m=aQ l->m=l:=λm=>oh;induction q using b3 with
 |none=>
  (refine a3 aq λdS cE=>?_;try clear aq);refine⟨ja,p_,kL,_,aa,af,λe he=>?_,?_,?_,?_⟩
  .rcases mb.mp he with he|he
   .obtain(⟨m,w,dv,dU,hz⟩):=g3 e he;refine⟨m,w,dv,?_,hz⟩;(refine G (nG _ _ _ _) (G (if_neg λz=>cE e he (G dv (G (inj m z) rfl))) ?_));exact dU
   .rw[eu] at he;subst he;exact⟨l,y,aw,by exact G (nG _ _ _ _) (G (if_pos rfl) rfl),r⟩
  .refine gM List.pairwise_append (fi eh (by simp) (λe he f hf=>?_));rw[eu] at hf;subst hf;exact G (show((k,v):ag×V).1.val β=C l from aw) (cE e he)
  .clear jb;induction op using b3 with
   |none=>
    intro z a8;rw[nG] at a8;by_cases e:z=aQ l
    ·(clear a8;subst e);exact(bh (k,v) (by simp) aw)
    .rw[if_neg e] at a8;exact aS (gv z a8) λf hf x=>(bh f (q4 _ hf) x)
   |some abs=>
    refine⟨λe he=>?_,λold bw=>⟨(gv.2 old bw).1.trans (RW ay _ _),λx=>?_⟩⟩
    rotate_left
    .rcases(gv.2 old bw).2 x with⟨f,hf,q⟩|q
     .exact .inl (bh f (q4 _ hf) q)
     .refine G (nG _ _ _ _) ?_;by_cases z:x=aQ l
      ·(clear q;subst z);exact .inl (bh (k,v) (by simp) aw)
      .exact G (if_neg z) (.inr q)
    refine aS (gv.1 e he) λm dv dU=>(bh m dv (G (nG _ _ _ _) ?_));by_cases z:aQ m=aQ l
    .obtain this:=inj m z;(clear z cE dS inj af;subst this);exact .inr (bh (k,v) (by simp) aw)
    .exact G (if_neg z) (dU.imp id λgd=>(by(refine aS gd λf hf x=>?_;try clear gd);exact(bh f (q4 _ hf) x)))
  .obtain this:=stored_length_le ay (aQ l) y;refine G iG ?_;simp only[uv,K2];exact bU this (bU (j1 jb 1) (eP (Nat.add_right_comm _ _ _)))
 |some p=>
  obtain(⟨i,u⟩):=p;obtain(⟨⟨ahg,bS,_⟩,N3,tB,yv,_⟩):=aq;have keys:∀j:Nat,((ar.modify i λq=>(q.1,v))[j]?).map (·.1)=(ar[j]?).map (·.1):=λj=>by
   refine G (Tq _ _ _ _) ?_;by_cases h:i=j
   .subst h;cases ar[i]?<;>simp
   .simp[h]
  have mem:∀e:ag×V,e∈ar.modify i (λq=>(q.1,v))->(e∈ar/\e.1.val β≠C l)\/(e.1.val β=C l/\e.2=v):=λe he=>by
   refine bG (Tr he) λj cD=>?_;rw[Tq] at cD;by_cases h:i=j
   .subst h;rw[tB] at cD;simp at cD;(clear he;subst cD);exact .inr ⟨yv,rfl⟩
   .have cD:ar[j]? =C e:=by simpa [h] using cD
    refine .inl ⟨l7 cD,λz=>?_⟩;refine bG (j0.mp cD) λcA e5=>?_;refine bG (j0.mp tB) λel gZ=>?_;rw[Ta] at eh;rcases Nat.lt_or_gt_of_ne h with h|h
    .exact eh i j el cA h (G e5 (G gZ (G z (G yv rfl))))
    .exact eh j i cA el h (G e5 (G gZ (G z (G yv rfl))))
  have back:∀e:ag×V,e∈ar->∃f:ag×V,f∈ar.modify i (λq=>(q.1,v))/\f.1=e.1:=λe he=>by refine bG (Tr he) λj cD=>?_;obtain this:=keys j;rw[cD] at this;exact aS (pI.mp this) λf hf h=>(bh f (l7 hf) h)
  refine⟨ja,p_,kL,_,aa,af,λe he=>?_,?_,?_,?_⟩
  .rcases mem e he with⟨he,ne⟩|⟨he,bJ⟩
   .obtain(⟨m,w,dv,dU,hz⟩):=g3 e he;refine⟨m,w,dv,?_,hz⟩;(refine G (nG _ _ _ _) (G (if_neg λz=>ne (G dv (G (inj m z) rfl))) ?_));exact dU
   .exact⟨l,y,he,by exact G (nG _ _ _ _) (G (if_pos rfl) rfl),by exact G bJ r⟩
  .rw[Ta] at eh ⊢;intro a b aU aB Zc;obtain bu:=keys a;obtain c3:=keys b;rw[i5 aU] at bu;rw[i5 aB] at c3;have fo:a<ar.length:=by simpa using aU
   have iy:b<ar.length:=by simpa using aB
   rw[i5 fo] at bu;rw[i5 iy] at c3;simp only[nR,DW] at bu c3;(refine G bu (G c3 ?_));exact eh a b fo iy Zc
  .clear jb;induction op using b3 with
   |none=>
    intro z a8;rw[nG] at a8;obtain this:a0 ay z≠none:=by
     by_cases e:z=aQ l
     ·(clear a8;subst e);refine G bS ?_;simp
     .rw[if_neg e] at a8;exact a8
    exact aS (gv z this) λf hf x=>aS (back f hf) λk5 qh e=>(bh k5 qh (G e x))
   |some abs=>
    refine⟨λe he=>?_,λold bw=>⟨(gv.2 old bw).1.trans (RW ay _ _),λx=>?_⟩⟩
    rotate_left
    .rcases(gv.2 old bw).2 x with⟨f,hf,q⟩|q
     .exact aS (back f hf) λk5 qh e=>.inl (bh k5 qh (G e q))
     .refine G (nG _ _ _ _) ?_;by_cases z:x=aQ l
      ·(clear q;subst z);exact aS (back N3 (l7 tB)) λk5 qh e=>.inl (bh k5 qh (G e yv))
      .exact G (if_neg z) (.inr q)
    refine aS (gv.1 e he) λm dv dU=>(bh m dv (G (nG _ _ _ _) ?_));by_cases z:aQ m=aQ l
    .obtain this:=inj m z;(clear z mem bS inj af aw;subst this);exact aS (back N3 (l7 tB)) λk5 qh e=>.inr (bh k5 qh (G e yv))
    .exact G (if_neg z) (dU.imp id λ⟨f,hf,x⟩=>aS (back f hf) λk5 qh e=>(bh k5 qh (G e x)))
  ·(refine G (afU (by refine G bS ?_;simp)) ?_;refine G (List.length_modify _ _ _) ?_);exact jb
end
section
variable{c:bc}{ab:cI}
theorem nk(h:n<=300000):n<=sizeLine:=G kr (bU (by assumption) (bA rfl))
theorem Rm(O:g.Ok){st:St}{s:aM}(H:Sat g c st β s){a:aF}(aU:β.ad[n]? =C (a,d)){e:ag}{l:bz}(aX:e.val β=C l){v:V}{z:az}(du:a7 β v z){W:Wp Unit}
  (h:∀(Q:Unit->aM->Prop)(E:az->aM->Prop) ay,s.heap.DictOf (strKind g.prog g.w) a ay->a≠ku->ay.length<=300000->(∀aA t,aA.DictOf (strKind g.prog g.w) a (lG ay (aQ l) z)->qS a s.heap aA->Q () {s with heap:=aA,toks:=t})->W Q E s):At X g c β st s (putD n e v) W (λI I I=>True):=
 .vg H aU λar op ay D=>.guard λa8=>.m9 H D aX λr k=>.zT λgr aN bL Q E aq=>h Q E ay D.D D.ne
  (by
   obtain br:=O.S;obtain a8:ar.length<=4000:=bA a8;have:=D.jb;obtain O2:qG g.S op<=g.S:=by cases op<;>simp[qG]
   lia) λaA t mU JC=>
  aq () _ β (.refl _) (H.turn (t:=t) aN bL aU (.inl rfl) JC.extBut ((aS (sl.mp mU) λI bY c5=>Gs D.ja D.ne D.g3 D.eh D.gv D.jb aX du bY c5 k)) (by cases r<;>rfl)) trivial
theorem YS{au:List b5}(F:Facts S au aE ns β){p:Nat×Nat}(h:OA au p=C t)(a8:bo.val β (.aL (.ofNat p.1) ai p.2)=C z):0<=z/\z<=((S+t:Nat):Int):=
 ct h λb aB h=>by
  refine jQ (F.aC.get aB) λw hw bY c5 fF=>?_;simp only[bo.val,hw] at a8;(obtain J:=aT a8;clear a8;subst J);generalize q:ltI b.1 0=aD;induction aD using bZ with
  |true=>rw[q] at h;exact bM h
  |false=>rw[q] at h;(refine aS (pI.mp h) λu cx J=>?_;(clear h;subst J));rw[Qg,decide_eq_false_iff_not] at q;obtain this:=fF u cx;exact⟨by show 0<=(p.1:Int)+w;exact K8 (kV _) (gk (Av.mp q) bY),by show(p.1:Int)+w<=_;exact gk (KH this _) (jn.mpr (eP ((ko _ _).trans (kW _ _ _))))⟩
theorem adz(O:g.Ok){st:St}{s:aM}(H:Sat g c st β s){a:aF}(aU:β.ad[n]? =C (a,d)){p:Nat×Nat}(R:cL g s.heap.get? β a d (.jx p.1 p.2)){l:bz}{t:Tok}{v:V}{z:az}(du:a7 β v z):
  At X g c β st s (Rn n p v) (λQ E s=>a5 g.M c.A (uz (.ref a) (.str (aQ l) t) z) Q E s) (λI I I=>True):=
 .bp λx1 q=>.guard λa8=>.ib λdC ff=>.zT λgr aN bL Q E aq=>by
  cases Mb q;(refine cz du λgd tt vF J=>?_;try clear du;subst J);have bd:=YS H.facts ff vF;obtain(⟨ja,ne,f_,ay,g1,g2,g3,eh⟩):=R;obtain br:=O.S;obtain a8:=bA a8;refine KU (nC g l t) (vh g1 g2) (λaA hd iy=>?_) (nk (bU eh (bU (mP br a8) (bA rfl))));refine aS (sl.mp hd) λkL bY c5=>aq () _ β (.refl _) (H.turn (t:=s.toks+1) aN bL aU (.inl rfl) iy.extBut ⟨ja,ne,kL,_,bY,c5,λdm tG=>?_,?_⟩ rfl) trivial
  .rcases abY tG with h|h
   .refine fD (g3 dm h) λq jU a9 bf cB=>?_;obtain this:p.2<=Nat.max p.2 dC:=Nat.le_max_left _ _;exact(d1 q jU a9 bf (gk cB (jn.mpr (l_ this _))))
   .obtain this:dC<=Nat.max p.2 dC:=Nat.le_max_right _ _;exact(d1 gd tt h bd.1 (gk bd.2 (jn.mpr (l_ this _))))
  .obtain this:=stored_length_le ay (aQ l) (.int gd tt);exact bU this (j1 eh 1)
theorem RP(O:g.Ok)(U:c.Ok g dep){a b v:V}{x z:az}(c2:a7 β a x)(dy:a7 β b y)(du:a7 β v z):bH X g c β (setItem a b v) (λQ E s=>a5 g.M c.A (uz x y z) Q E s) (λI I I=>True):=λaW st s aa H=>
 .du (W:=λx=>λQ E s=>a5 g.M c.A (uz x y z) Q E s) (c2.le aa) λn a1 eZ gG=>.ck (W:=λy=>λQ E s=>a5 g.M c.A (uz (.ref a1) y z) Q E s) (dy.le aa) λe l t aX=>.og H gG λo R=>by
  generalize q:o.tQ=aD;induction aD using b3 with
  |some p=>rw[H5 q] at R;exact adz O H gG R (du.le aa)
  |none=>exact Rm O H gG aX (du.le aa) λQ E ay D ne wF k=>KU (nC g l t) D (λaA hd iy=>k aA _ hd iy) (nk wF)
theorem aaB(O:g.Ok)(U:c.Ok g dep){a b:V}{x:az}(c2:a7 β a x)(dy:a7 β b y)(op:pF):bH X g c β (inplace op a b) (dM g c (qY op x y)) a7:=by
 intro aW st s aa H;have c2:=c2.le aa;have dy:=dy.le aa;cases op with
 |Add=>
  induction a using MI.V.casesOn with
  |i=>(refine cz c2 λz t a8 J=>?_;try clear c2;(clear c2;subst J));exact .aC (W:=λy=>dM g c (qY .Add (.int z t) y)) dy λe gU dC g5=>.o1 H (λe he=>bo.A0 he a8 g5) λQ E aq=>Ko (aq _ _)
  |r=>
   (refine cz c2 λa1 eZ gG J=>?_;try clear c2;(clear c2;subst J));exact .du (W:=λy=>dM g c (qY .Add (.ref a1) y)) dy λm a2 hp n_=>.rU H gG n_ λxs aH us ws k eF g0 g1 g3 g2 eh q=>.store λgr aN bL=>.ret λQ E aq=>
    aat g1 g3 (bU (by assumption) (bA rfl)) (aq _ _ aW (.refl _) (H.turn (t:=s.toks) aN bL gG (.inl rfl) (DU ..).extBut ⟨g0,us++ws,_,IsL.update g1 (λx=>x++ws),by exact G Kz (g2.append eh)⟩ rfl) ⟨a1,eZ,gG,rfl⟩)
  |_=>exact .fail
 |Sub=>exact .aC (W:=λx=>dM g c (qY .Sub x y)) c2 λe z t a8=>.aC (W:=λy=>dM g c (qY .Sub (.int z t) y)) dy λe gU dC g5=>.o1 H (λe he=>bo.JP he a8 g5) λQ E aq=>PyProof.Rows.isub_int (aq _ _)
 |_=>exact .fail
theorem abH(O:g.Ok)(U:c.Ok g dep){v:V}{x:az}(r:a7 β v x):bH X g c β (lenOf v) (dM g c (gc (.builtin "len") [x])) a7:=λaW st s aa H=>
 .du (W:=λx=>dM g c (gc (.builtin "len") [x])) (r.le aa) λn a1 eZ gG=>.og H gG λo R=>by
  obtain br:=O.S;induction o using MI.O.casesOn with
  |list xs=>obtain(⟨_,us,k,g1,g2⟩):=R;have eG:xs.length=us.size:=g2.length;exact .guard λq=>.ret λQ E aq=>Ef (qV g1) (by obtain this:=bA q;exact qp (bU (eP eG.symm) this) (bA rfl)) (aq _ _ aW (.refl _) H.toks ⟨us.size,_,by refine G eG ?_;rfl,rfl⟩)
  |iQ k xs=>
   obtain(⟨_,us,eF,pre,post,g1,g2,g3,eh,gv⟩):=R;have eG:=eh.length;have fB:us.size=pre.length+post.length:=by exact G (bV wW) (G g2 (G iG rfl))
   obtain hm:most=4000:=rfl;exact .guard λq=>.ret λQ E aq=>Ef (qV g1) (by obtain this:=bA q;exact qp (JR fB eG gv hm br this) (bA rfl)) (aq _ _ aW (.refl _) H.toks ⟨us.size,_,by simp only[bo.val,g3,DW];lia,rfl⟩)
  |dict ar op=>
   refine .bp λI q=>?_;cases lq q;induction op using b3 with
   |none=>
    refine bG (sM.of R) λay D=>?_;have CB:ay.length=0:=by obtain this:=D.jb;simp only[K2,qG] at this;lia
    exact .ret λQ E aq=>call_len_dict (beq_eq_false_iff_ne.mpr D.ne) D.D (qp (eP CB) (bA rfl)) (G CB (aq _ _ aW (.refl _) H.toks ⟨0,_,rfl,rfl⟩))
   |some=>exact .fail
  |_=>exact .fail
theorem log2_small(h:0<=z/\z<=2000000):z.natAbs.log2<1920:=by
 by_cases h0:z.natAbs=0
 .exact G h0 (aR rfl)
 .refine gM (Nat.log2_lt h0) ?_
  calc z.natAbs<2^21:=L4 (k:=2000000) h (bA rfl)
   _<=2^1920:=Nat.pow_le_pow_right (aR rfl) (aR rfl)
theorem afW{e:bo}(h:e.val β=C z):ag.val β (JN e)=C (eR z):=by
 unfold JN;generalize q:(litOf e).bind nat?=aD;induction aD using b3 with
 |some n=>refine ct q λk dS cE=>?_;cases tU dS;cases v5 cE;(obtain J:=aT h;clear h;subst J);exact ag.eN.mpr (d1 (eR (pE _)) [] rfl rfl ((ma _).symm))
 |none=>exact ag.eN.mpr (d1 (eR z) [] (by show(bo.val β e).map eR=_;exact G h rfl) rfl ((ma _).symm))
theorem afX(O:g.Ok)(U:c.Ok g dep){v:V}{x:az}(r:a7 β v x):bH X g c β (strOf v) (dM g c (gc (.type "str") [x])) a7:=λaW st s aa H=>
 .aC (W:=λx=>dM g c (gc (.type "str") [x])) (r.le aa) λe z t a8=>.ib λu cx=>.ret λQ E aq=>by
  generalize q:bo.small st.au e=aD;induction aD using bZ with
  |false=>rw[q] at cx;exact bM cx
  |true=>exact P.str_of_int (log2_small (bo.JM H.facts q a8)) (aq _ _ aW (.refl _) H.toks ⟨eR z,s.toks,afW a8,by unfold eR;exact G (hj _) rfl⟩)
theorem aei(O:g.Ok)(U:c.Ok g dep){v:V}{x:az}(r:a7 β v x):bH X g c β (Rx v) (dM g c (gc (.type "range") [x])) a7:=λaW st s aa H=>
 .bp λn q=>.guard λI=>.alloc λaN=>.ret λQ E aq=>by cases pb q;(refine cz r λz t a8 J=>?_;try clear r;subst J);(obtain J:=aT a8;clear a8;subst J);exact call_range_1 (aq _ _ (aW.new s.heap.objs.size s.heap.objs.size) (aW.gI _ _) (H.oN U aN (λI I e=>f5 _ e) (dO _) (dO _) ⟨rfl,_,_,_,nN _ rfl⟩ rfl) ⟨_,_,by exact G (bV H.len) (aW.lp _ _),rfl⟩)
end
noncomputable def eJ(β:aZ):di->fH->Prop
 |.next,x=>x=.next
 |.brk,x=>x=.brk
 |.cont,x=>x=.cont
 |.ret v,x=>∃y,x=.ret y/\a7 β v y
noncomputable abbrev dW(g:cy)(c:bc)(t:hC fH):Wp Flow:=λQ E s=>a5 g.M c.A t Q E s
noncomputable abbrev jq(g:cy)(c:bc)(k:Code):Wp Flow:=λQ E s=>ft g.M c.A k (λr ao=>match r with|.ok f=>Q f ao|.error e=>E e ao) s
noncomputable abbrev jG(g:cy)(c:bc)(f:az)(aH:List az):Wp Value:=λQ E s=>ft g.M c.A (.call f ⟨aH,[]⟩) (λr ao=>match r with|.ok (.ret v)=>Q v ao|.ok _=>False|.error e=>E e ao) s
structure dV(g:cy)(aG:fc):Prop where
 ev:∀c ab env β e,c.Ok g ab.dep->cc c ab env β->cS g c β (aG.ev ab e) (dM g c (dK e env)) a7
 eM:∀c ab env β e,c.Ok g ab.dep->cc c ab env β->cS g c β (aG.eM ab e) (λQ E s=>a5 g.M c.A (uM e env (dK e env)) Q E s) (λI b dE=>dE=b)
 ca:∀c dep β f aK DI,c.Ok g dep->bK (a7 β) aK DI->cS g c β (aG.ca dep (.c (.ref f)) aK) (jG g c (.ref f) DI) a7
 xs:∀c ab env β b,c.Ok g ab.dep->cc c ab env β->cS g c β (aG.xs ab b) (dW g c (cF b env)) eJ
 kB:∀c ab env β t n b a d,c.Ok g ab.dep->ab.dep<400->cc c ab env β->β.ad[n]? =C (a,d)->rp g c β (aG.kB ab t n b) (jq g c (.forLoop t (.ref a) b [] env)) eJ
 dJ:∀c ab env β t b,c.Ok g ab.dep->cc c ab env β->rp g c β (aG.dJ ab t b) (jq g c (.whileLoop t b [] env)) eJ
 cl:∀c ab env β e k n acc a d eg fK,c.Ok g ab.dep->ab.dep<400->cc c ab env β->β.ad[n]? =C (a,d)->β.ad[acc]? =C (eg,fK)->
  rp g c β (aG.cl ab e k n acc) (jq g c (.compLoop e k (.ref a) (.ref eg) env)) (λI I I=>True)
variable{aG:fc}
section
variable{c:bc}{ab:cI}
theorem Ft{o:bj}(h:zE o=ae)(attr:aO)(w:hC az):attributeBase o attr env w=w:=by
 cases o with
 |Call f as ks p=>
  cases f with
  |Name x q=>
   induction as using es with
   |cons _ _=>rfl
   |nil=>
    induction ks using es with
    |cons _ _=>rfl
    |nil=>exact c7 h
  |_=>rfl
 |_=>rfl
theorem XU(O:g.Ok)(ba:dV g aG)(U:c.Ok g ab.dep)(V:cc c ab env β)(o:bj)(x:aO)(pos:cn):cS g c β (match zE o with
  |true=>(aG.ev ab o).bind λv=>rG g.K v x
  |false=>fail 147) (dM g c (dK (.Attribute o x pos) env)) a7:=by
 split
 .rename_i h;exact bH.of ((ba.ev c ab env β o U V).bind λav v a l r=>G_ O U r x ae) λQ E s k=>Attribute_any_ k (G (arm_eval_Attribute _ _ _ _) (G ((Ft h) _ _) rfl))
 .exact .fail
theorem JT{v:MI.V}(r:a7 β v y):bH X g c β (MI.truthy v) (λQ E s=>a5 g.M c.A (uA y) Q E s) (λI b dE=>dE=b):=by
 intro aW st s aa H;obtain r:=r.le aa;induction v using MI.V.casesOn with
 |c x=>
  induction x using l9 with
  |bool b=>obtain rfl:=r;exact .ret λQ E aq=>λI I I=>aq _ s aW (.refl _) H rfl
  |none=>obtain rfl:=r;exact .ret λQ E aq=>truthy_none (aq _ s aW (.refl _) H rfl)
  |_=>exact .fail
 |_=>exact .fail
theorem NX(ba:dV g aG)(U:c.Ok g ab.dep)(V:cc c ab env β)(op:BoolOp)(pos:cn):∀ar:List bj,cS g c β (xR aG ab op ar) (dM g c (dK (.BoolOp op ar pos) env)) a7
 |[]=>.fail
 |[e]=>(ba.ev c ab env β e U V).of λQ E s k=>BoolOp_one k
 |e::tj::r=>by
  show bH fW g c β ((aG.ev ab e).bind λv=>(MI.truthy v).bind λt=>match op,t with
   |.And,false=>M.pure v
   |.Or,true=>M.pure v
   |_,_=>xR aG ab op (tj::r)) _ _
  have key:bH fW g c β ((aG.ev ab e).bind λv=>(MI.truthy v).bind λt=>match op,t with
   |.And,false=>M.pure v
   |.Or,true=>M.pure v
   |_,_=>xR aG ab op (tj::r)) (λQ E s=>a5 g.M c.A (dK e env) (λv bg=>a5 g.M c.A (uA v) (λt b0=>match op,t with
    |.And,false=>Q v b0
    |.Or,true=>Q v b0
    |_,_=>a5 g.M c.A (dK (.BoolOp op (tj::r) pos) env) Q E b0) E bg) E s) a7:=by
   refine(ba.ev c ab env β e U V).bind λav v a l du=>(JT du).bind (k:=λt=>λQ E b0=>match op,t with
    |.And,false=>Q a b0
    |.Or,true=>Q a b0
    |_,_=>a5 g.M c.A (dK (.BoolOp op (tj::r) pos) env) Q E b0) λd9 t dC a_ e=>?_
   subst e;have bF:=(NX ba U V op pos (tj::r)).le (l.trans a_);cases op<;>cases dC<;>first|exact bF|exact bH.pure λI abp=>du.le (a_.trans abp)
  refine key.of λQ E s k=>?_;cases op with
  |And=>exact BoolOp_and (d4 k (λv bg dq=>d4 dq (λt b0 fz=>by cases t<;>exact fz) λI I x=>x) λI I x=>x)
  |Or=>exact BoolOp_or (d4 k (λv bg dq=>d4 dq (λt b0 fz=>by cases t<;>exact fz) λI I x=>x) λI I x=>x)
theorem XW(O:g.Ok)(ba:dV g aG)(U:c.Ok g ab.dep)(V:cc c ab env β)(l r:bj)(op:pF)(pos:cn):
  cS g c β ((aG.ev ab l).bind λa=>(aG.ev ab r).bind λb=>binop op a b) (dM g c (dK (.BinOp l op r pos) env)) a7:=bH.of ((ba.ev c ab env β l U V).bind λav v a le ly=>(ba.ev c ab env av r U (V.le le)).bind λd9 gA dp oe iZ=>V3 O U (ly.le oe) iZ op) λQ E s k=>qU k
theorem X5(ba:dV g aG)(U:c.Ok g ab.dep)(V:cc c ab env β)(x:bj)(pos:cn):
  cS g c β ((aG.ev ab x).bind λv=>(MI.truthy v).bind λt=>M.pure (z1 (!t))) (dM g c (dK (.UnaryOp .Not x pos) env)) a7:=by refine bH.of ((ba.ev c ab env β x U V).bind λav v a l r=>(JT r).bind (ej:=az) (k:=λt=>λQ I s=>Q (Value.bool (!t)) s) λd9 t dC a_ e=>?_) λQ E s k=>UnaryOp_ (d4 k (λv bg dq=>not_of dq) λI I x=>x);subst e;exact .pure λI I=>rfl
theorem Ya(ba:dV g aG)(U:c.Ok g ab.dep)(V:cc c ab env β)(x:bj)(pos:cn):
  cS g c β (NW aG ab .USub x) (dM g c (dK (.UnaryOp .USub x pos) env)) a7:=
 bH.of ((ba.ev c ab env β x U V).bind (k:=λy=>dM g c (unaryOp .USub y)) λav v a l r aW st s aa H=>.aC (W:=λy=>dM g c (unaryOp .USub y)) (r.le aa) λe z t a8=>.bp λgU q=>.ret λQ E aq=>by
  induction e using MI.bo.casesOn with
  |lit=>(obtain J:=aT q;clear q;subst J);(obtain J:=aT a8;clear a8;subst J);exact PyProof.Rows.neg_int (aq _ _ aW (.refl _) H.toks ⟨_,_,rfl,rfl⟩)
  |aL=>exact bM q) λQ E s k=>UnaryOp_ k
theorem X2(ba:dV g aG)(U:c.Ok g ab.dep)(V:cc c ab env β)(t b o:bj)(pos:cn):
  cS g c β ((aG.eM ab t).bind λc=>match c with
  |true=>aG.ev ab b
  |false=>aG.ev ab o) (dM g c (dK (.IfExp t b o pos) env)) a7:=by
 refine bH.of ((ba.eM c ab env β t U V).bind (k:=λt=>λQ E s=>if t=ae then a5 g.M c.A (dK b env) Q E s else a5 g.M c.A (dK o env) Q E s) λav v a l r=>?_) λQ E s k=>IfExp_ k;subst r;cases a
 .exact(ba.ev c ab env av o U (V.le l)).of λQ E s k=>by simpa using k
 .exact(ba.ev c ab env av b U (V.le l)).of λQ E s k=>by simpa using k
theorem I8{op:oC}{r:bj}(h:isSet r=ai):behindInMarks op r=false:=by cases r<;>first|rfl|exact jB h
theorem XZ(O:g.Ok)(ba:dV g aG)(U:c.Ok g ab.dep)(V:cc c ab env β)(l r:bj)(op:oC)(pos:cn):
  cS g c β (match isSet r with
  |false=>(aG.ev ab l).bind λa=>(aG.ev ab r).bind λb=>(cmp g.K op a b).bind λt=>M.pure (z1 t)
  |true=>fail 148) (dM g c (dK (.Compare l [op] [r] pos) env)) a7:=by
 split
 .rename_i h;refine bH.of ((ba.ev c ab env β l U V).bind λav v a le ly=>(ba.ev c ab env av r U (V.le le)).bind λd9 gA dp oe iZ=>(M5 O U (ly.le oe) iZ op).bind (k:=λy=>λQ E s=>Q y s) λh2 t y _ e=>?_) λQ E s k=>wpAny_Compare1 k (I8 h);subst e;exact .pure λ_ _=>rfl
 .exact .fail
theorem nB(h:isStar e=ai)(r:List bj):lF (e::r) env=(ai,dK e env)::lF r env:=by cases e<;>first|rfl|exact jB h
noncomputable def Ua(n:Nat)(β:aZ)(aK:List MI.V)(aH:List az):Prop:=bK (a7 β) aK aH/\aK.length=n
theorem ti(ba:dV g aG)(U:c.Ok g ab.dep)(pos:cn):∀(ar:List bj){β:aZ},cc c ab env β->cS g c β (n7 aG ab ar) (λQ E s=>a5 g.M c.A (spliced (mN pos (lF ar env))) Q E s) (Ua ar.length)
 |[],β,V=>(bH.pure (a:=([]:List az)) λ_ _=>⟨.nil,rfl⟩).of λQ E s k=>nL k
 |e::r,β,V=>by
  show bH fW g c β (match isStar e with
  |true=>fail 118
  |false=>(aG.ev ab e).bind λv=>(n7 aG ab r).bind λaK=>M.pure (v::aK)) _ _
  split
  .exact .fail
  .rename_i h;refine bH.of ((ba.ev c ab env β e U V).bind λav v a l ly=>(ti ba U pos r (V.le l)).bind (k:=λaH=>λQ E s=>Q (a::aH) s) λd9 aK aH a_ iZ=>.pure λh2 hZ=>⟨.cons (ly.le (a_.trans hZ)) (iZ.1.imp λ_ _ x=>x.le hZ),?_⟩) λQ E s k=>kS k (nB h r);show aK.length+1=r.length+1;exact G iZ.2 rfl
theorem X_(O:g.Ok)(ba:dV g aG)(U:c.Ok g ab.dep)(V:cc c ab env β)(ar:List bj)(k:Nat)(pos:cn):cS g c β (match dw ar.length 4000 with
  |true=>(n7 aG ab ar).bind λaK=>(alloc (.tup aK)).bind λn=>M.pure (.r n)
  |false=>fail 142) (dM g c (dK (.Tuple ar k pos) env)) a7:=by
 split
 .rename_i a8;obtain a8:=bA a8;refine bH.of ((ti ba U pos ar V).bind (k:=λaH=>dM g c (newTuple aH)) λav aK aH l r=>λaW st s aa H=>.alloc λaN=>.ret λQ E aq=>?_) λQ E s k=>Tuple_ k;obtain len:=r.1.length;obtain bf:=r.2;refine wpAny_newTuple (aq _ _ (aW.new s.heap.objs.size s.heap.objs.size) (aW.gI _ _) ?_ ⟨_,_,by exact G (bV H.len) (aW.lp _ _),rfl⟩) (nk (by lia));exact H.oN (t:=s.toks) U aN (λ_ _ e=>f5 _ e) (dO _) (dO _) ⟨rfl,aH.toArray,0,nN _ rfl,r.1.imp λ_ _ x=>(x.le aa).le (aW.gI _ _)⟩ rfl
 .exact .fail
theorem X4(O:g.Ok)(ba:dV g aG)(U:c.Ok g ab.dep)(V:cc c ab env β)(ar:List bj)(pos:cn):cS g c β (match dw ar.length 4000 with
  |true=>(n7 aG ab ar).bind λaK=>(alloc (.list aK)).bind λn=>M.pure (.r n)
  |false=>fail 142) (dM g c (dK (.List ar pos) env)) a7:=by
 split
 .rename_i a8;obtain a8:=bA a8;refine bH.of ((ti ba U pos ar V).bind (k:=λaH=>dM g c (newList aH)) λav aK aH l r=>λaW st s aa H=>.alloc λaN=>.ret λQ E aq=>?_) λQ E s k=>List_ k;obtain len:=r.1.length;obtain bf:=r.2;exact a3 (CV (t:=s.toks) O U H aN (xs:=aK) (aH:=aH.toArray) (r.1.imp λ_ _ x=>x.le aa)) λpU rm=>Lo (aq _ _ _ (aW.gI _ _) pU rm) (nk (bU (eP (len.symm.trans bf)) (bU a8 (bA rfl))))
 .exact .fail
theorem X3(O:g.Ok)(kE:∃ar n,g.K.lookup layAt=C ⟨.type "dict",none,.dict ar n,#[]⟩/\KeysLit g.w.params ar.toList)(ba:dV g aG)(U:c.Ok g ab.dep)(V:cc c ab env β)(o i:bj)(pos:cn):cS g c β (match isSlice i with
  |true=>fail 143
  |false=>(aG.ev ab o).bind λgJ=>(aG.ev ab i).bind λaC=>item g.K gJ aC) (dM g c (dK (.Subscript o i pos) env)) a7:=by
 split
 .exact .fail
 .rename_i h;exact bH.of ((ba.ev c ab env β o U V).bind λav v a le ly=>(ba.ev c ab env av i U (V.le le)).bind λd9 gA dp oe iZ=>aaP O U kE (ly.le oe) iZ o i h) λQ E s k=>qX k
end
theorem bind_pure(m:M aV):(m.bind λv=>M.pure v)=m:=by funext st;unfold M.bind M.pure;cases m st<;>rfl
theorem slicePick_from(items:Array az)(d:Nat)(h:d<=items.size):qZ items (C (d:Int)) none none=(items.toList.drop d).toArray:=by
 obtain e:qZ items (C (d:Int)) none none=qZ items (C (d:Int)) (C (items.size:Int)) none:=by
  unfold qZ;obtain this:sliceBounds (C (d:Int)) none none items.size=sliceBounds (C (d:Int)) (C (items.size:Int)) none items.size:=by
   simp only[sliceBounds,Option.getD_none];have af:¬((items.size:Int)<0):=by lia
   simp only[af,if_false,show(1:Int)>0 by exact aR rfl,if_true];congr 2;lia
  exact G this rfl
 (refine G e (G (slicePick_run items d items.size (dO _) h) ?_));congr 1;rw[List.take_of_length_le];simp
section
variable{c:bc}{ab:cI}
noncomputable abbrev lz(l u:az):Obj:={cls:=.type "slice",data:=.fields #[l,u,.none]}
theorem JQ(l u:Option bj)(p:cn)(o i:az):subscripted (.Slice l u none p) ai o i=operate [i,o] (sz o i):=rfl
theorem RT(O:g.Ok)(U:c.Ok g dep){st:St}{s:aM}(H:Sat g c st β s){a1:aF}{us:Array az}{d:Nat}{t:Tok}(value lo:bj)(p:cn)(g1:s.heap.get? a1=C (listOf us n))(a8:z=(d:Int))(hd:d<=us.size)(rP:us.size<=200000)(R:bK (a7 β) xs (us.toList.drop d)):
  At X g c β st s (tY xs) (λQ E s=>a5 g.M c.A (xa value (.Slice (C lo) none none p) (.ref a1) (.ref s.heap.objs.size)) Q E {s with heap:=s.heap.push (lz (.int z t) .none)}) a7:=.alloc λaN=>.ret λQ E aq=>by subst a8;have L:(s.heap.push (lz (.int (d:Int) t) .none)).IsList a1 us:=⟨_,f5 _ g1,rfl,n,rfl⟩;refine mM (s:={s with heap:=s.heap.push (lz (.int (d:Int) t) .none)}) L.typeIs w3.lookup ?_ (JQ _ _ _ _ _);refine Tz (s:={s with heap:=s.heap.push (lz (.int (d:Int) t) .none)}) L (Th ..) (.int (d:Int) t) .none .none (by simp) ?_ (nk (bU (by assumption) (bA rfl)));refine G (slicePick_from us d hd) ?_;have N:=CV (t:=s.toks) O U (Sat.grow (t:=s.toks) H (aA:=s.heap.push (lz (.int (d:Int) t) .none)) λI I e=>f5 _ e) aN (xs:=xs) (aH:=(us.toList.drop d).toArray) R;exact aq _ _ _ (β.gI _ _) N.1 N.2
theorem afF(O:g.Ok)(U:c.Ok g dep){a b:V}{x:az}(c2:a7 β a x)(dy:a7 β b y)(value:bj)(lo:bj)(p:cn):
  bH X g c β (JL a b) (λQ E s=>a5 g.M c.A (xa value (.Slice (C lo) none none p) x (.ref s.heap.objs.size)) Q E {s with heap:=s.heap.push (lz y .none)}) a7:=λaW st s aa H=>
 .du (W:=λx=>λQ E s=>a5 g.M c.A (xa value (.Slice (C lo) none none p) x (.ref s.heap.objs.size)) Q E {s with heap:=s.heap.push (lz y .none)}) (c2.le aa) λn a1 eZ gG=>by
  have dy:=dy.le aa;generalize q:A1 b=aD;induction aD using b3 with
  |some oS=>
   cases Mb q;(refine cz dy λz t a8 J=>?_;try clear dy;(clear dy;subst J));refine .vV H gG λj xs R=>.guard λq=>?_;have q:=(ew _ _).mp q;have en:=(ew _ _).mp q.2;obtain dS:j=oS.2:=d2 q.1;obtain cE:oS.1<=xs.length:=bA en.1;obtain fQ:xs.length<=4000:=bA en.2;(clear en q;subst dS);obtain(⟨_,us,tW,pre,post,g1,g2,g3,eh,gv⟩):=R;have eG:=eh.length;have fB:us.size=pre.length+post.length:=by exact G (bV wW) (G g2 (G iG rfl))
   obtain hm:most=4000:=rfl;obtain br:=O.S;simp only[bo.val,g3,DW] at a8;exact RT O U H (d:=oS.1+pre.length) value lo p g1 (by refine G (bV a8) ?_;show(oS.1:Int)+_=_;lia) (bU (j1 (bU cE (eP eG)) _) (eP ((ko _ _).trans fB.symm))) (bU (JR fB eG gv hm br fQ) (bA rfl)) (by(refine G g2 (G (ko _ _) (G (bV D5) (G List.drop_left ?_))));exact eh.drop oS.1)
  |none=>refine .bp λd q=>.kG H gG λxs us tW I g1 g2=>.guard λen=>?_;cases pb q;(refine cz dy λz t a8 J=>?_;try clear dy;subst J);(obtain J:=aT a8;clear a8;(clear dy;subst J));have q:=(ew _ _).mp en;obtain cE:=bA q.1;obtain fQ:=bA q.2;have eG:xs.length=us.size:=g2.length;exact RT O U H value lo p g1 rfl (by lia) (by lia) (g2.drop d)
theorem afE(O:g.Ok)(U:c.Ok g dep){a b:V}{x:az}(c2:a7 β a x)(dy:a7 β b y)(value:bj)(bN:bj)(p:cn):
  bH X g c β (JK a b) (λQ E s=>a5 g.M c.A (xa value (.Slice none (C bN) none p) x (.ref s.heap.objs.size)) Q E {s with heap:=s.heap.push (lz .none y)}) a7:=λaW st s aa H=>
 .ck (W:=λx=>λQ E s=>a5 g.M c.A (xa value (.Slice none (C bN) none p) x (.ref s.heap.objs.size)) Q E {s with heap:=s.heap.push (lz .none y)}) (c2.le aa) λe l t aX=>.bp λn q=>.guard λen=>.bp λf hf=>.ret λQ E aq=>by
  cases pb q;cases d2 en;(refine cz (dy.le aa) λz u a8 J=>?_;subst J);(obtain J:=aT a8;clear a8;(clear dy;subst J));(refine cz (ag.Yq hf aX) λch r J bJ=>?_;(clear aX;subst J));refine mM (s:={s with heap:=s.heap.push (lz .none (.int (pE 1) u))}) (typeIs_str _ _ _) F.slot_str_getitem.lookup ?_ (JQ _ _ _ _ _);have de:Txt.slice (aQ (ch::r)) none (C 1)=aQ [ch]:=by obtain this:=slice_closes_to (x:=aQ (ch::r)) (j:=1) ⟨by exact aR rfl,by simp[aQ];lia⟩;refine G (beq_iff_eq.mp this) ?_;simp[aQ]
  refine wpAny_getItem_str_slice (s:={s with heap:=s.heap.push (lz .none (.int (pE 1) u))}) (l:=none) (u:=C (1,u)) (st:=none) ⟨_,nN _ rfl,rfl,rfl⟩ rfl ?_;refine post_val_or_str ⟨?_,λdC k=>?_⟩
  .show(Txt.slice (aQ (ch::r)) none (C 1)).length<=oz;exact G de (nk (by simp[aQ,Str.length]))
  .show Q (.str (Txt.slice (aQ (ch::r)) none (C 1)) dC) _;exact G de (aq _ _ aW (.refl _) (H.grow λI I e=>f5 _ e) ⟨[ch],_,bJ,rfl⟩)
theorem Bw{Q:az->aM->Prop}{s:aM}(h:Q .none s):a5 g.M c.A (evalPart none env) Q E s:=d3 h
theorem X8(O:g.Ok)(ba:dV g aG)(U:c.Ok g ab.dep)(V:cc c ab env β)(o lo:bj)(p pos:cn):cS g c β ((aG.ev ab o).bind λgJ=>(aG.ev ab lo).bind λi=>JL gJ i)
  (dM g c (dK (.Subscript o (.Slice (C lo) none none p) pos) env)) a7:=by refine bH.of ((ba.ev c ab env β o U V).bind λav v a le ly=>(ba.ev c ab env av lo U (V.le le)).bind λd9 gA dp oe iZ=>afF O U (ly.le oe) iZ o lo p) λQ E s k=>qX (d4 k (λa bg dq=>?_) λI I x=>x);exact wpAny_Slice (d4 dq (λb b0 fz=>Bw (Bw fz)) λI I x=>x)
theorem X7(O:g.Ok)(ba:dV g aG)(U:c.Ok g ab.dep)(V:cc c ab env β)(o bN:bj)(p pos:cn):cS g c β ((aG.ev ab o).bind λgJ=>(aG.ev ab bN).bind λi=>JK gJ i)
  (dM g c (dK (.Subscript o (.Slice none (C bN) none p) pos) env)) a7:=by refine bH.of ((ba.ev c ab env β o U V).bind λav v a le ly=>(ba.ev c ab env av bN U (V.le le)).bind λd9 gA dp oe iZ=>afE O U (ly.le oe) iZ o bN p) λQ E s k=>qX (d4 k (λa bg dq=>?_) λI I x=>x);exact wpAny_Slice (Bw (d4 dq (λb b0 fz=>Bw fz) λI I x=>x))
noncomputable abbrev E1(g:cy)(c:bc)(env:hB)(e:bj):Wp Bool:=λQ E s=>a5 g.M c.A (uM e env (dK e env)) Q E s
noncomputable def qr(_:aZ)(b dE:Bool):Prop:=dE=b
theorem Md(ba:dV g aG)(U:c.Ok g ab.dep)(op:BoolOp)(pos:cn)(whole:hC az):∀(ar:List bj){β:aZ},cc c ab env β->cS g c β (xJ aG ab op ar) (λQ E s=>a5 g.M c.A (uM (.BoolOp op ar pos) env whole) Q E s) qr
 |[],β,V=>by
  cases op with
  |And=>exact bH.of (bH.pure (a:=ae) λI I=>rfl) λQ E s k=>isTrue_and_nil k
  |Or=>exact bH.of (bH.pure (a:=ai) λI I=>rfl) λQ E s k=>isTrue_or_nil k
 |e::r,β,V=>by
  show bH fW g c β ((aG.eM ab e).bind λt=>match op,t with
   |.And,false=>M.pure ai
   |.Or,true=>M.pure ae
   |_,_=>xJ aG ab op r) _ _
  have key:=(ba.eM c ab env β e U V).bind (f:=λt=>match op,t with
   |.And,false=>M.pure ai
   |.Or,true=>M.pure ae
   |_,_=>xJ aG ab op r) (k:=λt=>λ(Q:Bool->aM->Prop) E b0=>match op,t with
    |.And,false=>Q ai b0
    |.Or,true=>Q ae b0
    |_,_=>a5 g.M c.A (uM (.BoolOp op r pos) env whole) Q E b0) (cC:=qr) λav t dC l e=>by subst e;have bF:=Md ba U op pos whole r (V.le l);cases op<;>cases dC<;>first|exact bF|exact bH.pure λI I=>rfl
  refine key.of λQ E s k=>?_;cases op with
  |And=>exact Ay (d4 k (λt b0 fz=>by cases t<;>exact fz) λI I x=>x)
  |Or=>exact isTrue_or (d4 k (λt b0 fz=>by cases t<;>exact fz) λI I x=>x)
theorem age(O:g.Ok)(ba:dV g aG)(U:c.Ok g ab.dep)(V:cc c ab env β)(l r:bj)(op:oC)(pos:cn):
  cS g c β (match isSet r with
  |false=>(aG.ev ab l).bind λa=>(aG.ev ab r).bind λb=>cmp g.K op a b
  |true=>fail 148) (E1 g c env (.Compare l [op] [r] pos)) qr:=by
 split
 .rename_i h;have key:∀{d9:aZ}{v gA:MI.V}{a dp:az},a7 d9 v a->a7 d9 gA dp->cS g c d9 (cmp g.K op v gA) (λQ E s=>a5 g.M c.A (Er op a dp) (λy bg=>a5 g.M c.A (uA y) Q E bg) E s) qr:=λly iZ=>by
   obtain this:=(M5 (X:=fW) O U ly iZ op).bind (f:=λt=>M.pure t) (k:=λy=>λ(Q:Bool->aM->Prop) E s=>a5 g.M c.A (uA y) Q E s) (cC:=qr) λh2 t y _ e=>by subst e;exact bH.of (bH.pure (a:=t) (R:=qr) λ_ _=>rfl) λQ E s k=>λ_ _ _=>k
   rwa [bind_pure] at this
  refine bH.of ((ba.ev c ab env β l U V).bind λav v a le ly=>(ba.ev c ab env av r U (V.le le)).bind λd9 gA dp oe iZ=>key (ly.le oe) iZ) λQ E s k=>?_
  .show a5 g.M c.A (do testChain pos (<-dK l env) [op] (markedEach [op] [r] [dK r env])) Q E s;refine b2 (d4 k (λa bg dq=>?_) λ_ _ x=>x);show a5 g.M c.A (do
    let du <-sA [a] (markedBehindIn op r (dK r env))
    uJ pos
    let c <-operate [a,du] (Er op a du)
    sA [c] (uA c)) Q E bg
   exact G (TF (I8 h)) (b2 (iI (d4 dq (λb b0 fz=>b2 (kX (b2 (wpAny_operating (d4 fz (λv dB kF=>iI kF) λ_ _ x=>x))))) λ_ _ x=>x)))
 .exact .fail
theorem Sb(ba:dV g aG)(U:c.Ok g ab.dep)(V:cc c ab env β)(e:bj)(he:uM e env (dK e env)=(do let v <-dK e env;uJ e.pos;sA [v] (uA v))):
  cS g c β ((aG.ev ab e).bind MI.truthy) (E1 g c env e) qr:=by refine bH.of ((ba.ev c ab env β e U V).bind λav v a l r=>(JT r).imp λI I I I q=>q) λQ E s k=>isTrue_plain k he
theorem agd(O:g.Ok)(ba:dV g aG)(U:c.Ok g ab.dep)(V:cc c ab env β)(e:bj):cS g c β (Sa aG g.K ab e) (E1 g c env e) qr:=by
 cases e with
 |UnaryOp op x p=>
  cases op with
  |Not=>exact bH.of ((ba.eM c ab env β x U V).bind (f:=λt=>M.pure (!t)) (k:=λt=>λ(Q:Bool->aM->Prop) I s=>Q (!t) s) (cC:=qr) λav t dC l e=>.pure λI I=>congrArg (!·) e) λQ E s k=>isTrue_not k
  |_=>exact Sb ba U V _ rfl
 |BoolOp=>exact Md ba U _ _ _ _ V
 |IfExp=>exact .fail
 |Compare l ops rs p=>exact .asks λop aa=>.asks λr af=>by(refine G (lu aa) (G (lu af) ?_));exact age O ba U V l r op p
 |_=>exact Sb ba U V _ rfl
end
theorem ip.of{o:cY}(h:∀aK,o.data≠.fields aK):ip o:=λaK e=>absurd e (h aK)
theorem cL.QI{a6:aF->Option cY}{a:aF}(iT:o≠.gone)(R:cL g a6 β a d o):(∃x,a6 a=C x/\ip x)/\∃x,a6 d=C x/\ip x:=by
 have one:∀{x},a=d->a6 a=C x->ip x->(∃x,a6 a=C x/\ip x)/\∃x,a6 d=C x/\ip x:=λe h n=>by(clear R;subst e);exact⟨(bh _ h n),_,h,n⟩
 induction o using MI.O.casesOn with
 |inst=>obtain(⟨_,_,_,aa,af,_⟩):=R;exact⟨(bh _ aa (.of λI e=>nomatch e)),_,af,.of λI e=>nomatch e⟩
 |list=>obtain(⟨e,_,_,aa,_⟩):=R;exact one e aa (.of λI e=>nomatch e)
 |iQ=>obtain(⟨e,_,_,_,_,aa,_⟩):=R;exact one e aa (.of λI e=>nomatch e)
 |tup=>obtain(⟨e,_,_,aa,_⟩):=R;exact one e aa (.of λI e=>nomatch e)
 |dict=>obtain(⟨e,_,_,_,aa,af,_⟩):=R;(refine fD af λI I I hd I=>?_;try clear af);exact one e aa (.of λI e=>nomatch hd.symm.trans e)
 |jx=>obtain(⟨e,_,_,_,aa,af,_⟩):=R;(refine fD af λI I I hd I=>?_;try clear af);exact one e aa (.of λI e=>nomatch hd.symm.trans e)
 |qE=>obtain(⟨e,_,_,_,aa⟩):=R;exact one e aa λaK e=>by cases e;exact⟨dO _,_,rfl⟩
 |cell=>obtain(⟨e,_,_,aa,hd,_⟩):=R;exact one e aa (.of λI e=>nomatch hd.symm.trans e)
 |it=>obtain(⟨e,_,_,_,_,aa,bb,hd⟩):=R;exact one e aa λaK e=>by cases hd.symm.trans e;exact⟨by simp,_,bb⟩
 |nh=>obtain(⟨e,_,_,_,_,aa,bb,hd⟩):=R;exact one e aa λaK e=>by cases hd.symm.trans e;exact⟨by simp,_,bb⟩
 |itR=>(refine a3 R λe aa=>?_;try clear R);exact one e aa λaK e=>by cases e;exact⟨by simp,_,rfl⟩
 |raw=>(refine fO R λe aa af=>?_;try clear R);exact one e aa af
 |gone=>exact absurd rfl iT
section
variable{c:bc}{st:St}{s:aM}{ab:cI}
theorem SatO.t8(H:SatO g c st β h){b:aF}{o:cY}(aB:h.get? b=C o)(cb:¬ip o):∀n y a d,st.σ.get n=C (ae,y)->β.ad[n]? =C (a,d)->a≠b/\d≠b:=by intro n y a d bL aU;refine bG H.objs λf hf=>?_;obtain(⟨dp,ec,aa,af,aJ⟩):=hf n ae y bL;rw[aU] at aa;(obtain J:=aT aa;clear aa;refine a3 (eD J) λbT cu=>?_;clear J;subst bT;subst cu);obtain(⟨_,_,_,_,iT⟩):=aJ rfl;obtain(⟨⟨x,a9,da⟩,se,bf,dA⟩):=cL.QI iT (show cL g h.get? β a d y from af);exact⟨λe=>by rw[e,aB] at a9;(obtain J:=aT a9;clear a9;subst J);exact cb da,λe=>by rw[e,aB] at bf;(obtain J:=aT bf;clear bf;subst J);exact cb dA⟩
theorem Sat.slots(U:c.Ok g dep)(H:Sat g c st β s)(N:aF->Prop)(j_:∀b,N b->c.P b=none)(qf:∀b,N b->∀n y a d,st.σ.get n=C (ae,y)->β.ad[n]? =C (a,d)->a≠b/\d≠b)
  (k:∀b o,s.heap.get? b=C o->¬N b->b≠c.L->(∀x∈c.cw,x.1≠b)->aA.get? b=C o)
  (u:∀b o,s.heap.get? b=C o->(b=c.L\/∃x∈c.cw,x.1=b)->(∀aK,o.data≠.fields aK)->∃de,aA.get? b=C {o with slots:=de}):Sat g c st β {s with heap:=aA,toks:=t}:=by
 refine bG H.objs λf hf=>⟨⟨λa o e=>?_,λx ak=>?_,⟨f,λn own y q=>?_⟩,H.len,H.facts,H.ghost⟩,H.os,?_⟩
 .refine k a o (H.keep a o e) (λn=>?_) (λz=>?_) (λx ak z=>?_)
  .rw[j_ a n] at e;exact bM e
  .rw[z,U.iX] at e;exact bM e
  .rw[<-z,(U.hd x ak).1] at e;exact bM e
 .refine bG (H.cw x ak) λde e=>?_;obtain(⟨_,ar,n,hd⟩):=U.hd x ak;exact bG (u x.1 _ e (.inr (bh x ak rfl)) (λaK z=>by rw[show({x.2 with slots:=de}:cY).data=x.2.data from rfl,hd] at z;(injection z))) λafC cq=>⟨afC,cq⟩
 .obtain(⟨a,d,aa,af,aJ⟩):=hf n own y q;refine⟨a,d,aa,?_,aJ⟩;induction own using bZ with
  |false=>exact af
  |true=>obtain(⟨_,_,hM,fd,_⟩):=aJ rfl;exact af.mono (.refl _) (λo e=>k a o e (λz=>(qf a z n y a d q aa).1 rfl) hM.2.1 hM.2.2) (λo e=>k d o e (λz=>(qf d z n y a d q aa).2 rfl) fd.2.1 fd.2.2)
 ·(refine aS H.loc λm J b=>kf J λo ar fm bw hd r=>?_;try clear J);exact bG (u c.L o bw (.inl rfl) (λaK z=>by rw[hd] at z;(injection z))) λde e=>⟨m,⟨_,ar,fm,e,hd,r⟩,b⟩
theorem acJ{e:az}{cJ:hB}(h:env.frame=cJ.frame):q0 e env=q0 e cJ:=by unfold q0 PySem.frameOf;exact G h rfl
theorem Om(U:c.Ok g dep)(H:Sat g c st β s){B:gj}(g4:∀b,(b=c.L\/∃x∈c.cw,x.1=b)->B.get? b=none)(k:∀b o,(b=c.L\/∃x∈c.cw,x.1=b)->s.heap.get? b=C o->aA.get? b=C o):
  ∀l:List hB,(∀env∈l,env∈c.fr)->aA.FunFrames B l
 |[],_=>trivial
 |env::l,aX=>by
  obtain(⟨aw,a,hf,aU⟩):=U.here env (aX env (.head _));have fo:a=c.L\/∃x∈c.cw,x.1=a:=aU;refine⟨aw,⟨a,?_⟩,Om U H g4 k l λe he=>aX e (.tail _ he)⟩;rcases aU with rfl|⟨x,ak,rfl⟩
  ·(refine aS H.loc λm J I=>kf J λo ar fm bw hd I=>?_;try clear J);exact(l4 o hf (g4 _ fo) (k _ _ fo bw) (λaK z=>by rw[hd] at z;(injection z)))
  .refine bG (H.cw x ak) λde e=>?_;obtain(⟨_,ar,n,hd⟩):=U.hd x ak;exact(l4 _ hf (g4 _ fo) (k _ _ fo e) (λaK z=>by rw[show({x.2 with slots:=de}:cY).data=x.2.data from rfl,hd] at z;(injection z)))
theorem pQ.record{e:aF}(F:pQ c s.heap e P):∃o,s.heap.get? e=C o/\¬ip o:=by refine ig F.told λcf aK aa af aJ I=>(bh cf aa (λn=>?_));obtain(⟨_,t,ff⟩):=n aK aJ;rw[af] at ff;injection ff
theorem zq{o:cY}{cm:Array az}{eK:az}(h:o.data=.fields cm)(aJ:cm[3]? =C eK):¬ip o:=λn=>by refine a3 (n cm h) λa I=>bG (DP.mp aJ) λb I=>?_;exact absurd (by assumption) (D1 (by assumption))
theorem zr(U:c.Ok g dep)(V:∃e rest,c.fr=e::rest/\env.frame=e.frame){v:az}{Q:Unit->aM->Prop}(F:fW g c st β v s)(aq:∀ao,Told g c st β v ao->Q () ao):a5 g.M c.A (q0 v env) Q E s:=by
 (refine eH F λe J gF H=>?_;try clear F;subst J);(refine cz V λBy outer tC ZI=>?_;try clear V);refine G (acJ ZI) ?_;obtain(⟨aw,L,gw,ahO⟩):=U.here By (G tC (.head _));refine aS gF.record λah8 ZC ZD=>?_;have adh:=H.toSatO.t8 ZC ZD;(refine ih gF.told λcf aK he bb hd kD J aa=>bG J λiL h0=>?_;try clear J);obtain ix:c.A.frames=C (By::outer):=by exact G U.frames (G tC rfl)
 obtain aay:∀env∈(By::outer),env∈c.fr:=λenv h=>by exact G tC h
 obtain rP:1<aK.size:=by rcases aa with⟨_,aa⟩|⟨bW,_,_,_,aa,_⟩<;>exact(Array.getElem?_eq_some_iff.mp aa).1
 obtain YB:∀b,(b=c.L\/∃x∈c.cw,x.1=b)->b∈(c.L::c.cw.map (·.1)):=λb aB=>by
  rcases aB with rfl|⟨x,ak,rfl⟩
  .exact .head _
  .exact .tail _ (kU ak)
 have Ol:∀b,b∈(c.L::c.cw.map (·.1))->(b=c.L\/∃x∈c.cw,x.1=b):=λb aB=>by
  rcases dg.mp aB with h|h
  .exact .inl h
  .exact aS (kY.mp h) λx ak e=>.inr (bh x ak e)
 have fin:∀(dq:gj)(T:List aF),(∀b,s.heap.get? b=dq.get? b\/b∈T)->(∀b∈T,c.P b=none/\b≠e/\(∀n y a d,st.σ.get n=C (ae,y)->β.ad[n]? =C (a,d)->a≠b/\d≠b)/\¬(b=c.L\/∃x∈c.cw,x.1=b))->
   (∀head OH,a5 g.M c.A (do let a <-PySem.frameOf By;let kh <-entryPlaceOf L OH;let b <-EntryCells.newEntry head a .none (q2 L) .none kh;setField (.ref e) 1 b) Q E {s with heap:=dq}):=by
  intro dq T e0 yo head OH;have j_:∀b,b∈(e::T)->¬(b=c.L\/∃x∈c.cw,x.1=b):=λb aB=>by
   rcases dg.mp aB with rfl|aB
   .rintro (z|⟨x,ak,z⟩)
    ·(refine aS H.loc λm J I=>kf J λo ar fm bw ka I=>?_;try clear J);rw[<-z,he] at bw;(obtain J:=aT bw;clear bw;subst J);rw[hd] at ka;injection ka
    .refine bG (H.cw x ak) λde cq=>?_;obtain(⟨_,ar,n,ka⟩):=U.hd x ak;rw[z,he] at cq;(obtain J:=aT cq;clear cq;(clear he bb;subst J));rw[show({x.2 with slots:=de}:cY).data=x.2.data from rfl,ka] at hd;injection hd
   .exact(yo b aB).2.2.2
  have Xy:e∉T:=λh=>(yo e h).2.1 rfl;have BV:dq.get? e=C cf:=by
   rcases e0 e with h|h
   .exact G (bV h) he
   .exact absurd h Xy
  let as:=(c.L::c.cw.map (·.1))++(e::T);have cw:∀b,b∈as->(hideAll dq as).get? b=none:=λb aB=>qT _ aB;refine wpAny_entryW (s:={s with heap:=dq}) (base:=hideAll dq as) ix (Om U H (λb aB=>cw b (q4 _ (YB b aB))) (λb o aB bw=>?_) _ aay) gw BV (λb o q=>of_hideAll _ q) (cw e (sG _ (.head _))) hd rP h0 λaA OE=>?_
  .rcases e0 b with h|h
   .exact G (bV h) bw
   .exact absurd aB (j_ b (.tail _ h))
  ·(refine I_ OE λbu c3 J my=>?_;try clear OE;refine acY J λQ0 SG bW e2 cm g1 bT eh gv jb Oo G9 YE ye=>?_;try clear J;refine a3 bT λg2 g3=>?_;try clear bT);have keep:∀b o,s.heap.get? b=C o->¬(b∈(e::T))->b≠c.L->(∀x∈c.cw,x.1≠b)->aA.get? b=C o:=λb o q eV dX vZ=>by
    refine bu b o (Ei _ ?_ λhm=>?_)
    .rcases e0 b with h|h
     .exact G (bV h) q
     .exact absurd (mO _ h) eV
    .rcases mb.mp hm with hm|hm
     .rcases Ol b hm with z|⟨x,ak,z⟩
      .exact dX z
      .exact vZ x ak z
     .exact eV hm
   obtain eE:Sat g c st β {s with heap:=aA,toks:=s.toks}:=Sat.slots U H (λb=>b∈(e::T)) (λb aB=>by
     rcases dg.mp aB with rfl|aB
     .exact kD
     .exact(yo b aB).1) (λb aB=>by
     rcases dg.mp aB with rfl|aB
     .exact adh
     .exact(yo b aB).2.2.1) keep λb o q aB HG=>by
      refine my b o ?_ HG;rcases e0 b with h|h
      .exact G (bV h) q
      .exact absurd aB (j_ b (.tail _ h))
   refine aq _ ⟨e,rfl,⟨Q0,SG,g1,by exact G g2 (G bb rfl),eh,kD,⟨iL,g3⟩,.inr (sf bW e2 cm _ gv Oo ?_ G9 YE ye)⟩,eE⟩;generalize q:c.P bW=aD;induction aD using b3 with
   |none=>rfl
   |some o=>
    exfalso;obtain bL:=H.keep bW o q;have eV:bW∉(e::T):=λhm=>by
     rcases dg.mp hm with z|z
     .exact Oo z
     .rw[(yo bW z).1] at q;exact bM q
    obtain dX:¬(bW=c.L\/∃x∈c.cw,x.1=bW):=by
     rintro (z|⟨x,ak,z⟩)
     .rw[z,U.iX] at q;exact bM q
     .rw[<-z,(U.hd x ak).1] at q;exact bM q
    obtain this:(hideAll dq as).get? bW=C o:=by
     refine Ei _ ?_ λhm=>?_
     .rcases e0 bW with h|h
      .exact G (bV h) bL
      .exact absurd (mO _ h) eV
     .rcases mb.mp hm with hm|hm
      .exact dX (Ol _ hm)
      .exact eV hm
    rw[jb] at this;exact bM this
 unfold q0;simp only[gw];rcases aa with⟨_,aa⟩|⟨T,e2,cm,eK,aa,iO,kC,e0,iz,aJ⟩
 .exact b2 (Aw he hd aa (G (if_neg (by exact sj)) (fin s.heap [] (λb=>.inl rfl) (λb aB=>(nomatch aB)) _ _)))
 .refine b2 (Aw he hd aa (G (if_pos (show(lE T !=xc)=ae from by simp)) (b2 (Aw e0 iz aJ ?_))));by_cases hf:(eK==q2 L)=ae
  .exact G (if_pos hf) (d3 (aq s ⟨e,rfl,⟨cf,aK,he,bb,hd,kD,⟨iL,h0⟩,.inr (sf T e2 cm eK aa iO kC e0 iz aJ)⟩,H⟩))
  .refine G (if_neg hf) (b2 (wpAny_setField e0 iz (DP.mp aJ).1 ?_));have other:∀b,b≠T->(s.heap.update T (Obj.mapFields (·.setIfInBounds 3 xc))).get? b=s.heap.get? b:=λb aB=>Aa _ _ (km aB);refine fin _ [T] (λb=>?_) (λb aB=>?_) _ _
   .by_cases h:b=T
    .exact .inr (G h (.head _))
    .exact .inl (other b h).symm
   .obtain rfl:=eu.mp aB;refine(SQ kC iO (H.toSatO.t8 e0 (zq iz aJ)) ?_);rintro (z|⟨x,ak,z⟩)
    ·(refine aS H.loc λm J I=>kf J λo ar fm bw ka I=>?_;try clear J);rw[<-z,e0] at bw;(obtain J:=aT bw;clear bw;subst J);rw[iz] at ka;injection ka
    .refine bG (H.cw x ak) λde cq=>?_;obtain(⟨_,ar,n,ka⟩):=U.hd x ak;rw[z,e0] at cq;(obtain J:=aT cq;clear cq;(clear e0;subst J));rw[show({x.2 with slots:=de}:cY).data=x.2.data from rfl,ka] at iz;injection iz
theorem vm(U:c.Ok g dep){v:az}{Q:Unit->aM->Prop}{fr:Option aF}(F:Told g c st β v s)(aq:∀ao,Told g c st β v ao->Q () ao):a5 g.M c.A (setFlight v fr) Q E s:=by
 (refine eH F λe J gF H=>?_;try clear F;subst J);refine ih gF.told λcf aK he bb hd kD h0 aa=>we (aa.resolve_left λq=>q.1 trivial) λT e2 cm eK aa iO kC e0 iz aJ=>?_;have O3:3<cm.size:=(DP.mp aJ).1;unfold setFlight;refine b2 (Aw he hd aa (G (if_pos (show(lE T !=xc)=ae from by simp)) (wpAny_setField e0 iz O3 (aq _ ⟨e,rfl,⟨cf,aK,?_,bb,hd,kD,h0,.inr (sf T _ _ _ aa iO kC (DT _ e0 (Obj.isFreed_of_fields (Obj.data_mapFields iz _))) (Obj.data_mapFields iz _) (by simp[O3];rfl))⟩,?_⟩))))
 .exact(Aa _ _ iO).trans he
 .exact Sat.slots (t:=s.toks) U H (λb=>b=T) (λb aB=>by exact G aB kC) (λb aB=>by exact G aB (H.toSatO.t8 e0 (zq iz aJ)))
   (λb o q n I I=>(Aa _ _ (km n)).trans q) λb o q aB HG=>⟨o.slots,(Aa _ _ (λz:T=b=>by(clear aB;subst z);rw[e0] at q;(obtain J:=aT q;clear q;subst J);exact HG cm iz)).trans q⟩
theorem R_{v:az}{Q:az->aM->Prop}(F:Told g c st β v s)(aq:∀T,Q (.ref T) s):a5 g.M c.A (field v 1) Q E s:=by(refine eH F λe J gF H=>?_;try clear F;subst J);exact ih gF.told λcf aK he bb hd kD h0 aa=>we (aa.resolve_left λq=>q.1 trivial) λT e2 cm eK aa iO kC e0 iz aJ=>Aw he hd aa (aq T)
theorem Wj(U:c.Ok g dep){v:az}(F:Told g c st β v s)(aq:∀ao,Told g c st β v ao->E v ao):nJ g.M c.A env E v s:=by unfold nJ;exact b2 (R_ F λT=>G (if_neg (by simp)) (vm U F aq))
theorem Ji{agT:String}(U:c.Ok g dep){v:az}{Q:aV->aM->Prop}(F:Told g c st β v s)(aq:∀ao,Told g c st β v ao->E v ao):a5 g.M c.A (passOn agT v env) Q E s:=by unfold PySem.passOn;exact b2 (R_ F λT=>G (if_neg (by simp)) (b2 (vm U F λao pP=>wpAny_throw (aq ao pP))))
end
section
variable{c:bc}{ab:cI}{ah:Type}{m:M aV}{W:Wp ah}{R:aZ->aV->ah->Prop}
theorem bH.qx(U:c.Ok g dep)(V:cc c ab env β)(h:cS g c β m W R):rp g c β m (λQ E s=>W Q (iF g.M c.A env E) s) R:=λaW st s aa H=>by
 obtain h:=h aW st s aa H;unfold At at h ⊢;split at h
 .trivial
 .exact λQ E aq=>h Q _ aq
 .exact λQ E aq=>h Q _ λe ao av l F=>zr U V.frame F λfa pP=>aq e fa av l pP
theorem bH.back(U:c.Ok g dep)(h:rp g c β m W R):cS g c β m (λQ E s=>W Q (nJ g.M c.A env E) s) R:=λaW st s aa H=>by
 obtain h:=h aW st s aa H;unfold At at h ⊢;split at h
 .trivial
 .exact λQ E aq=>h Q _ aq
 .exact λQ E aq=>h Q _ λe ao av l F=>Wj U F λfa pP=>aq e fa av l pP.raised
end
section
variable{c:bc}{ab:cI}
noncomputable def T7(β:aZ)(k:Nat)(y:az):Prop:=∃a d,y=.ref a/\β.ad[k]? =C (a,d)
theorem afG(n:Nat)(h:n<=4000):Builtin.Range.small 0 (n:Int) 1=true:=small_one (aR rfl) (aR rfl) (kV _) (by lia)
theorem aej(n:Nat):Builtin.Range.rangeSize 0 (n:Int) 1=(n:Int):=by refine G (rangeSize_one _ _) ?_;split<;>lia
theorem yU(O:g.Ok)(U:c.Ok g dep){v:MI.V}(r:a7 β v y):bH X g c β (ni v) (λQ E s=>a5 g.M c.A (oB y) Q E s) T7:=by
 intro aW st s aa H;obtain r:=r.le aa;unfold ni;induction v using MI.V.casesOn with
 |r n=>
  (refine cz r λa1 eZ gG J=>?_;try clear r;(clear r;subst J));refine .og H gG λo R=>?_;induction o using MI.O.casesOn with
  |list xs=>obtain(⟨_,us,k,g1,g2⟩):=R;refine .Fi λaN Q E aq=>wpAny_pyIter_list (qV g1) (aq _ _ (aW.new s.heap.objs.size s.heap.objs.size) (aW.gI _ _) ?_ ⟨_,_,rfl,by exact G (bV H.len) (aW.lp _ _)⟩);exact H.oN (t:=s.toks) U aN (λ_ _ e=>f5 _ e) (dO _) (dO _) ⟨rfl,a1,eZ,_,a4 (aW.gI _ _).ad gG,nN _ rfl,rfl,rfl⟩ rfl
  |tup xs=>obtain(⟨_,us,k,g1,g2⟩):=R;refine .Fi λaN Q E aq=>wpAny_pyIter_tuple (t:=a1) (items:=us) ⟨_,g1,rfl,k,rfl⟩ (aq _ _ (aW.new s.heap.objs.size s.heap.objs.size) (aW.gI _ _) ?_ ⟨_,_,rfl,by exact G (bV H.len) (aW.lp _ _)⟩);exact H.oN (t:=s.toks) U aN (λ_ _ e=>f5 _ e) (dO _) (dO _) ⟨rfl,a1,eZ,_,a4 (aW.gI _ _).ad gG,nN _ rfl,rfl,rfl⟩ rfl
  |qE m=>
   obtain(⟨_,t,u,w,g1⟩):=R;dsimp only;split
   .rename_i hm;obtain hm:=bA hm;refine .Fi λaN Q E aq=>wpAny_pyIter_range g1 (afG m hm) (aq _ _ (aW.new s.heap.objs.size s.heap.objs.size) (aW.gI _ _) ?_ ⟨_,_,rfl,by exact G (bV H.len) (aW.lp _ _)⟩);refine H.oN (t:=s.toks) U aN (λ_ _ e=>f5 _ e) (dO _) (dO _) ⟨rfl,?_⟩ rfl;(refine G (nN _ rfl) ?_;refine G (aej _) ?_);rfl
   .exact .fail
  |_=>exact .fail
 |_=>exact .fail
noncomputable abbrev Ug(g:cy)(c:bc)(a:aF):Wp (Option az):=λQ E s=>a5 g.M c.A (pyNext (.ref a)) (λr bg=>match r with
 |none=>Q none bg
 |some y=>∀target,a5 g.M c.A (D8 target (.ref a) y) (λI b0=>Q (C y) b0) E bg) E s
noncomputable def Ue(β:aZ)(o:Option MI.V)(r:Option az):Prop:=match o,r with
 |none,none=>True
 |some v,some y=>a7 β v y
 |_,_=>False
theorem zB{a:aF}{n:String}{s:aM}{o:cY}{Q:Unit->aM->Prop}(bw:s.heap.get? a=C o)(bb:o.cls=.type n)
  (aN:["enumerate","zip","dict_itemiterator","dict_reverseitemiterator","odict_iterator","itertools.zip_longest","itertools.pairwise"].contains n=ai)(aq:Q () s)(target:bj):
  a5 g.M c.A (D8 target (.ref a) y) Q E s:=by
 have key:a5 g.M c.A (do
   let(.ref r,.ref a):=(lE a,y)|return
   let o <-PySem.load r
   match o.cls,o.data with
   |.type n,.fields aK=>
    if["enumerate","zip","dict_itemiterator","dict_reverseitemiterator","odict_iterator","itertools.zip_longest","itertools.pairwise"].contains n&&aK[0]? ==C (q2 a) then
     rule "for.unpacks-the-owned-tuple"
     updateField r 0 .none
   |_,_=>pure ()) Q E s:=by
  induction y using l9 with
  |ref b=>
   refine b2 (wpAny_load bw ?_);obtain(⟨bE,t6,pf,gb⟩):=o;subst bb;clear bw;induction pf using Ae with
   |fields aK=>dsimp only;exact G aN (d3 aq)
   |_=>exact d3 aq
  |_=>exact d3 aq
 cases target with
 |Tuple _ _ _=>exact key
 |List _ _=>exact key
 |_=>exact d3 aq
theorem QE(U:c.Ok g dep)(dN:dep<400){a:aF}(aw:β.ad[k]? =C (a,d)):bH X g c β (nextOf k) (Ug g c a) Ue:=by
 intro aW st s aa H;have aw:=a4 aa.ad aw;have hr:=U.calm dN;unfold nextOf;refine .og H aw λo R=>?_;induction o using MI.O.casesOn with
 |it n i=>
  obtain(⟨g0,l,dl,f_,aX,da,dA,hx⟩):=R;have hit:s.heap.IsListIter a l i:=⟨f_,da,dA,hx⟩;refine .load H λo dp ec HI fo R=>?_;rw[aX] at fo;(obtain J:=aT fo;clear fo;refine a3 (eD J) λbT cu=>?_;clear J;subst bT;subst cu);clear HI;induction o using MI.O.casesOn with
  |list xs=>
   obtain(⟨_,us,q,g1,g2⟩):=R;dsimp only;refine G (fY _ _) ?_;generalize ak:xs[i]? =aD;induction aD using b3 with
   |none=>
    refine .drop λgr aN bL=>.ret λQ E aq=>?_;obtain this:us[i]? =none:=by refine G (bV pJ) ?_;exact g2.Oz ak
    exact wpAny_pyNext_list_end hr hit (qV g1) this λaA he=>aq none _ aW (.refl _) (H.gone (t:=s.toks) aN bL aw (.inl rfl) he) trivial
   |some v=>refine aS (g2.get ak) λy bS du=>?_;rw[pJ] at bS;refine .store λgr aN bL=>.ret λQ E aq=>wpAny_pyNext_list_item hit (qV g1) bS λaA ia aB=>?_;(refine eH ia λkL bY c5 fF=>?_;try clear ia);exact λtarget=>zB (s:={s with heap:=aA}) bY c5 (by exact rfl) (aq (C y) _ aW (.refl _) (H.turn (t:=s.toks) aN bL aw (.inl rfl) aB.extBut ⟨g0,l,dl,kL,aX,bY,c5,fF⟩ rfl) du) target
  |_=>exact .fail
 |nh n i=>
  obtain(⟨g0,l,dl,f_,aX,da,dA,hx⟩):=R;have hit:s.heap.IsTupleIter a l i:=⟨f_,da,dA,hx⟩;refine .load H λo dp ec HI fo R=>?_;rw[aX] at fo;(obtain J:=aT fo;clear fo;refine a3 (eD J) λbT cu=>?_;clear J;subst bT;subst cu);clear HI;induction o using MI.O.casesOn with
  |tup xs=>
   obtain(⟨_,us,q,g1,g2⟩):=R;have ff:s.heap.IsTuple l us:=⟨_,g1,rfl,q,rfl⟩;dsimp only;refine G (fY _ _) ?_;generalize ak:xs[i]? =aD;induction aD using b3 with
   |none=>
    refine .drop λgr aN bL=>.ret λQ E aq=>?_;obtain this:us[i]? =none:=by refine G (bV pJ) ?_;exact g2.Oz ak
    exact wpAny_pyNext_tuple_end hr hit ff this λaA he=>aq none _ aW (.refl _) (H.gone (t:=s.toks) aN bL aw (.inl rfl) he) trivial
   |some v=>refine aS (g2.get ak) λy bS du=>?_;rw[pJ] at bS;refine .store λgr aN bL=>.ret λQ E aq=>wpAny_pyNext_tuple_item hit ff bS λaA ia aB=>?_;(refine eH ia λkL bY c5 fF=>?_;try clear ia);exact λtarget=>zB (s:={s with heap:=aA}) bY c5 (by exact rfl) (aq (C y) _ aW (.refl _) (H.turn (t:=s.toks) aN bL aw (.inl rfl) aB.extBut ⟨g0,l,dl,kL,aX,bY,c5,fF⟩ rfl) du) target
  |_=>exact .fail
 |itR i left=>
  (refine a3 R λg0 da=>?_;try clear R);induction left using hD with
  |zero=>exact .drop λgr aN bL=>.ret λQ E aq=>KA (x:=i) (left:=0) (step:=1) hr da (aR rfl) λaA he=>aq none _ aW (.refl _) (H.gone (t:=s.toks) aN bL aw (.inl rfl) he) trivial
  |succ left=>
   refine .store λgr aN bL=>.ret λQ E aq=>Kv (x:=i) (left:=((left+1:Nat):Int)) (step:=1) da (mR.mpr (pA left)) λaA ia aB=>?_;have a9:((i:Int)+1)=((i+1:Nat):Int):=by push_cast;rfl
   have bf:(((left+1:Nat):Int)-1)=(left:Int):=uq (left:Int) 1;rw[a9,bf] at ia;exact λtarget=>zB (s:={s with heap:=aA,toks:=s.toks+1}) ia rfl (by exact rfl) (aq (C (.int i s.toks)) _ aW (.refl _) (H.turn (t:=s.toks+1) aN bL aw (.inl rfl) aB.extBut ⟨g0,ia⟩ rfl) ⟨_,_,rfl,rfl⟩) target
 |_=>exact .fail
end
variable{body:List eO}
section
variable{s:aM}
theorem yd{target:bj}{it:aF}
  (h:a5 (c8 prog w) A (pyNext (.ref it)) (λr bg=>match r with
   |none=>R (.ok .next) bg
   |some v=>a5 (c8 prog w) A (D8 target (.ref it) v) (λI b0=>a5 (c8 prog w) A (mQ target env v) (λI dB=>a5 (c8 prog w) A (cF body env) (λf fh=>match f with
     |.next|.cont=>ft (c8 prog w) A (.forLoop target (.ref it) body [] env) R fh
     |.brk=>R (.ok .next) fh
     |.ret v=>R (.ok (.ret v)) fh) (iF (c8 prog w) A env λe ao=>R (.error e) ao) dB) (iF (c8 prog w) A env λe ao=>R (.error e) ao) b0) (iF (c8 prog w) A env λe ao=>R (.error e) ao) bg) (iF (c8 prog w) A env λe ao=>R (.error e) ao) s):
  ft (c8 prog w) A (.forLoop target (.ref it) body [] env) R s:=by
 refine Ap ?_;show a5 _ _ ((forTurn target (.ref it) body [] env).onRaise (λx=>do q0 x env;Ld x)) _ _ s;refine wpAny_noted ?_;simp only[forTurn];refine b2 (kX (b2 (wpAny_onRaise (d4 h (λr bg dq=>?_) λI I aA=>kX aA))));induction r using b3 with
 |none=>exact d3 ⟨rfl,codeAny_block (qP dq)⟩
 |some v=>
  refine b2 (d4 dq (λI b0 fz=>b2 (d4 fz (λI dB kF=>b2 (d4 kF (λf fh iP=>?_) λI I aA=>aA)) λI I aA=>aA)) λI I aA=>aA);induction f using wX with
  |next=>exact d3 ⟨rfl,iP⟩
  |cont=>exact d3 ⟨rfl,iP⟩
  |brk=>exact d3 iP
  |ret v=>exact d3 iP
theorem Kd{test:bj}
  (h:a5 (c8 prog w) A (uM test env (dK test env)) (λb b0=>
    if b=ae then a5 (c8 prog w) A (cF body env) (λf dB=>match f with
      |.next|.cont=>ft (c8 prog w) A (.whileLoop test body [] env) R dB
      |.brk=>R (.ok .next) dB
      |.ret v=>R (.ok (.ret v)) dB) (iF (c8 prog w) A env λe ao=>R (.error e) ao) b0
    else R (.ok .next) b0)
    (iF (c8 prog w) A env λe ao=>R (.error e) ao) s):
  ft (c8 prog w) A (.whileLoop test body [] env) R s:=by
 refine Ap ?_;show a5 _ A ((whileTurn test body [] env).onRaise (λx=>do q0 x env;Ld x)) _ _ s;refine wpAny_noted ?_;simp only[whileTurn];refine b2 (d4 h (λb b0 fz=>?_) λI I aA=>aA);induction b using bZ with
 |false=>simp only[TB,if_false] at fz ⊢;exact b2 (qP (d3 fz))
 |true=>
  simp only[if_true] at fz ⊢;refine b2 (d4 fz (λf dB kF=>?_) λI I aA=>aA);induction f using wX with
  |next=>exact d3 ⟨rfl,kF⟩
  |cont=>exact d3 ⟨rfl,kF⟩
  |brk=>exact d3 kF
  |ret v=>exact d3 kF
end
variable{cm:List bj}
section
variable{c:bc}{ab:cI}
noncomputable def AW(_:aZ)(_ _:Unit):Prop:=True
noncomputable abbrev LB(g:cy)(c:bc)(env:hB)(t:bj)(y:az):Wp Unit:=λQ E s=>a5 g.M c.A (mQ t env y) Q E s
theorem VN(O:g.Ok)(U:c.Ok g dep):∀{aK:List MI.V}{aH:List az}{β:aZ},cc c ab env β->bK (a7 β) aK aH->
  bH fW g c β (p1 ab cm aK) (λQ E s=>a5 g.M c.A (w9 ((qW cm env).map (·.2)) aH) Q E s) AW:=by
 induction cm with
 |nil=>
  intro aK aH β V R;cases R with
  |nil=>exact(bH.pure (a:=()) λI I=>trivial).of λQ E s k=>d3 k
  |cons _ _=>exact .fail
 |cons t cm bF=>
  intro aK aH β V R;cases R with
  |nil=>exact .fail
  |cons r rs=>exact .asks λw q=>G (l1 q) (bH.of ((qI O U V w.1 r).bind λav I I l I=>bF (V.le l) (rs.imp λI I x=>x.le l)) λQ E s k=>b2 (iI (wR k)))
theorem acb(h:Qy cm=ae):(qW cm env).findIdx? (·.1)=none/\(qW cm env).length=cm.length:=by
 induction cm with
 |nil=>exact⟨rfl,rfl⟩
 |cons t cm bF=>refine a3 (bF (bB h)) λa b=>bG (DQ.mp (bR h)) λw q=>G (l1 q) ⟨?_,congrArg (·+1) b⟩;show List.findIdx? (·.1) ((ai,mQ (.Name w.1 w.2) env)::qW cm env)=none;(refine G List.findIdx?_cons ?_;refine G a ?_);rfl
theorem Fq(O:g.Ok)(ba:dV g aG)(U:c.Ok g ab.dep)(V:cc c ab env β)(t:bj){v:MI.V}(r:a7 β v y):cS g c β (MI.assign aG g.K ab t v) (LB g c env t y) AW:=by
 cases t with
 |Name x p=>exact((qI O U V x r).imp λ_ _ _ _ _=>trivial).of λQ E s k=>wR k
 |Attribute o x p=>refine bH.of ((ba.ev c ab env β o U V).bind λav gA a l g9=>(RN O U g9 x (r.le l)).imp λ_ _ _ _ _=>trivial) λQ E s k=>?_;show a5 g.M c.A (mQ (.Attribute o x p) env y) Q E s;rw[arm_assign_Attribute];refine b2 (iI (d4 k (λa bg dq=>b2 (kX (b2 (iI (d4 dq (λ_ b0 fz=>KC fz) λ_ _ e=>e))))) λ_ _ e=>e))
 |Subscript o i p=>refine bH.of ((ba.ev c ab env β o U V).bind λav gA a l g9=>(ba.ev c ab env av i U (V.le l)).bind λd9 aiv dp a_ adH=>(RP O U (g9.le a_) adH (r.le (l.trans a_))).imp λ_ _ _ _ _=>trivial) λQ E s k=>?_;show a5 g.M c.A (mQ (.Subscript o i p) env y) Q E s;rw[arm_assign_Subscript];refine b2 (iI (d4 k (λa bg dq=>b2 (iI (d4 dq (λb b0 fz=>b2 (kX (b2 (iI (d4 fz (λ_ dB kF=>KC kF) λ_ _ e=>e))))) λ_ _ e=>e))) λ_ _ e=>e))
 |Tuple cm k p=>
  induction v using MI.V.casesOn with
  |r n=>
   intro aW st s aa H;obtain r:=r.le aa;unfold MI.assign;(refine cz r λa1 eZ gG J=>?_;try clear r;(clear r;subst J));refine .og H gG λo R=>?_;induction o using MI.O.casesOn with
   |tup xs=>
    obtain(⟨_,us,q,g1,g2⟩):=R;dsimp only;split
    .rename_i bb;simp only[ew] at bb;(refine a3 bb λJ Hm=>?_;try clear bb;refine a3 J λHl rK=>?_;try clear J);obtain rK:=d2 rK;obtain Hm:ab.dep<400:=bA Hm;refine a3 (acb (env:=env) Hl) λa9 bf=>?_;obtain cB:xs.length=us.size:=by obtain this:=g2.length;simpa using this
     have key:∀aA,lK s.heap.objs.size s.heap aA->At fW g c aW st {s with heap:=aA} (p1 ab cm xs) (λQ E s=>a5 g.M c.A (w9 ((qW cm env).map (·.2)) us.toList) Q E s) AW:=λaA he=>
      VN O U (V.le aa) g2 aW st _ (.refl _) (H.grow (t:=s.toks) λb o e=>he b o (kq (fU e)) e)
     have fin:∀(Q:Unit->aM->Prop)(E:az->aM->Prop),(∀aA,lK s.heap.objs.size s.heap aA->a5 g.M c.A (w9 ((qW cm env).map (·.2)) us.toList) Q E {s with heap:=aA})->LB g c env (.Tuple cm k p) (.ref a1) Q E s:=λQ E h=>
      assign_Tuple_tuple (U.calm Hm) ⟨_,g1,rfl,q,rfl⟩ (G bf (G rK (G cB rfl))) a9 h
     unfold At at key ⊢;generalize w:p1 ab cm xs st=aD;induction aD using MI.Out.casesOn with
     |fail n=>trivial
     |ok u bk=>exact λQ E aq=>fin Q E λaA he=>by obtain this:=key aA he;rw[w] at this;exact this Q E aq
     |ex bk=>exact λQ E aq=>fin Q E λaA he=>by obtain this:=key aA he;rw[w] at this;exact this Q E aq
    .exact .fail
   |_=>exact .fail
  |_=>exact .fail
 |_=>exact .fail
end
section
variable{c:bc}{ab:cI}
theorem Yt(O:g.Ok)(ba:dV g aG)(U:c.Ok g ab.dep)(dN:ab.dep<400)(V:cc c ab env β)(t:bj)(b:List eO){a:aF}(aN:β.ad[n]? =C (a,d)):
  rp g c β (G2 aG g.K ab t n b) (jq g c (.forLoop t (.ref a) b [] env)) eJ:=by
 unfold G2;obtain key:=(bH.qx U V (QE (X:=fW) U dN aN)).bind (X:=Told) (f:=λr=>match r with
  |none=>M.pure .next
  |some v=>(MI.assign aG g.K ab t v).bind λI=>(aG.xs ab b).bind λ
   |.next=>aG.kB ab t n b
   |.cont=>aG.kB ab t n b
   |.brk=>M.pure .next
   |.ret v=>M.pure (.ret v)) (k:=λr=>λ(Q:fH->aM->Prop) E bg=>match r with
    |none=>Q .next bg
    |some y=>a5 g.M c.A (mQ t env y) (λI b0=>a5 g.M c.A (cF b env) (λf dB=>match f with
      |.next|.cont=>jq g c (.forLoop t (.ref a) b [] env) Q E dB
      |.brk=>Q .next dB
      |.ret v=>Q (.ret v) dB) (iF g.M c.A env E) b0) (iF g.M c.A env E) bg) (cC:=eJ) λav o r l rel=>by
  induction o using b3 with
  |none=>
   induction r using b3 with
   |none=>exact bH.pure λI I=>rfl
   |some y=>exact rel.elim
  |some v=>
   induction r using b3 with
   |none=>exact rel.elim
   |some y=>
    obtain rel:a7 av v y:=rel;refine(bH.qx U (V.le l) (Fq O ba U (V.le l) t rel)).bind (X:=Told) (k:=λI=>λ(Q:fH->aM->Prop) E b0=>a5 g.M c.A (cF b env) (λf dB=>match f with
      |.next|.cont=>jq g c (.forLoop t (.ref a) b [] env) Q E dB
      |.brk=>Q .next dB
      |.ret v=>Q (.ret v) dB) (iF g.M c.A env E) b0) λd9 I I a_ I=>?_
    have sV:=(V.le l).le a_;refine(bH.qx U sV (ba.xs c ab env d9 b U sV)).bind (X:=Told) (k:=λf=>λ(Q:fH->aM->Prop) E dB=>match f with
      |.next|.cont=>jq g c (.forLoop t (.ref a) b [] env) Q E dB
      |.brk=>Q .next dB
      |.ret v=>Q (.ret v) dB) λh2 eK f hZ fv=>?_
    have again:=ba.kB c ab env h2 t n b a d U dN (sV.le hZ) (a4 ((l.trans a_).trans hZ).ad aN);induction eK using MI.di.casesOn with
    |next=>obtain rfl:=fv;exact again
    |cont=>obtain rfl:=fv;exact again
    |brk=>obtain rfl:=fv;exact bH.pure λI I=>rfl
    |ret v=>(refine aS fv λy J hR=>?_;try clear fv;subst J);exact bH.pure λI jA=>⟨y,rfl,hR.le jA⟩
 refine bH.of key λQ E s k=>yd (R:=λr ao=>match r with|.ok f=>Q f ao|.error e=>E e ao) (d4 k (λr bg dq=>?_) λI I e=>e);induction r using b3 with
 |none=>exact dq
 |some y=>exact dq t
theorem agS(ba:dV g aG)(U:c.Ok g ab.dep)(V:cc c ab env β)(t:bj)(b:List eO):rp g c β (Kc aG ab t b) (jq g c (.whileLoop t b [] env)) eJ:=by
 unfold Kc;obtain key:=(bH.qx U V (ba.eM c ab env β t U V)).bind (X:=Told) (f:=λr=>match r with
  |true=>(aG.xs ab b).bind λ
   |.next=>aG.dJ ab t b
   |.cont=>aG.dJ ab t b
   |.brk=>M.pure .next
   |.ret v=>M.pure (.ret v)
  |false=>M.pure .next) (k:=λr=>λ(Q:fH->aM->Prop) E bg=>if r=ae then a5 g.M c.A (cF b env) (λf dB=>match f with
      |.next|.cont=>jq g c (.whileLoop t b [] env) Q E dB
      |.brk=>Q .next dB
      |.ret v=>Q (.ret v) dB) (iF g.M c.A env E) bg
    else Q .next bg) (cC:=eJ) λav o r l rel=>by
  subst rel;induction r using bZ with
  |false=>exact(bH.pure (v:=di.next) (a:=Flow.next) (R:=eJ) λI I=>rfl).of λQ E s k=>by simpa using k
  |true=>
   have gY:=V.le l;obtain this:=(bH.qx U gY (ba.xs c ab env av b U gY)).bind (X:=Told) (f:=λeK=>match eK with
    |.next=>aG.dJ ab t b
    |.cont=>aG.dJ ab t b
    |.brk=>M.pure .next
    |.ret v=>M.pure (.ret v)) (k:=λf=>λ(Q:fH->aM->Prop) E dB=>match f with
      |.next|.cont=>jq g c (.whileLoop t b [] env) Q E dB
      |.brk=>Q .next dB
      |.ret v=>Q (.ret v) dB) (cC:=eJ) λh2 eK f hZ fv=>by
    have again:=ba.dJ c ab env h2 t b U (gY.le hZ);induction eK using MI.di.casesOn with
    |next=>obtain rfl:=fv;exact again
    |cont=>obtain rfl:=fv;exact again
    |brk=>obtain rfl:=fv;exact bH.pure λI I=>rfl
    |ret v=>(refine aS fv λy J hR=>?_;try clear fv;subst J);exact bH.pure λI jA=>⟨y,rfl,hR.le jA⟩
   exact this.of λQ E s k=>by simpa using k
 exact bH.of key λQ E s k=>Kd (R:=λr ao=>match r with|.ok f=>Q f ao|.error e=>E e ao) k
theorem aaE(V:cc c ab env β):interactive env=false:=by unfold interactive;exact G V.kind rfl
end
noncomputable def bc.enter(c:bc)(L:aF)(o:cY)(fr:List hB)(A:oA):bc:=⟨c.P,(c.L,o)::c.cw,fr,L,A⟩
variable{fr:List hB}{fm:Nat}
section
variable{c:bc}{st:St}{s:aM}{ab:cI}
theorem lM.obj(H:lM st β c.L h):∃o ar fm,h.get? c.L=C o/\o.data=.dict ar fm/\xe ar/\∀x v,ed x st.loc=C v->∃y,sD ar x=C y/\a7 β v y:=by(refine aS H λm J r=>?_;try clear H;refine mD J λo ar fm bw hd aw hm=>?_;try clear J);exact(z6 o ar fm bw hd aw (λx v e=>by exact G (hm _) (r x v e)))
theorem Sat.enter{L:aF}{o:cY}(U:c.Ok g dep)(H:Sat g c st β s)(bw:s.heap.get? c.L=C o)(k:∀b o,s.heap.get? b=C o->aA.get? b=C o)(gw:s.heap.objs.size<=L)
  (loc:lM {st with loc:=f6} β L aA):Sat g (c.enter L o fr A) {st with loc:=f6} β {s with heap:=aA,toks:=t}:=by
 refine bG H.objs λf hf=>⟨⟨λa x e=>k _ _ (H.keep a x e),λx ak=>?_,⟨f,λn own y q=>?_⟩,H.len,H.facts,H.ghost⟩,H.os,loc⟩
 .rcases dg.mp ak with rfl|ak
  .exact⟨o.slots,k _ _ bw⟩
  .exact bG (H.cw x ak) λde e=>⟨de,k _ _ e⟩
 .obtain(⟨a,d,aa,af,aJ⟩):=hf n own y q;refine⟨a,d,aa,?_,λe=>?_⟩
  .clear aJ q;induction own using bZ with
   |false=>exact af
   |true=>exact af.mono (.refl _) (λI=>k a _) (λI=>k d _)
  ·(clear q;subst e);obtain(⟨cH,cX,⟨dd,dx,fP⟩,⟨dS,cE,fQ⟩,gL⟩):=aJ rfl;obtain(⟨⟨dv,t1⟩,dU,jh⟩):=cL.there gL (show cL g s.heap.get? β a d y from af);have eG:=fU t1;have fB:=fU jh;refine⟨cH,cX,⟨dd,λe=>?_,λx ak=>?_⟩,⟨dS,λe=>?_,λx ak=>?_⟩,gL⟩
   .have:a=L:=e;rw[this] at eG;exact absurd eG (i6.mpr gw)
   .rcases dg.mp ak with rfl|ak
    .exact λe=>dx e.symm
    .exact fP x ak
   .have:d=L:=e;rw[this] at fB;exact absurd fB (i6.mpr gw)
   .rcases dg.mp ak with rfl|ak
    .exact λe=>cE e.symm
    .exact fQ x ak
theorem SatO.enter{L:aF}{o:cY}(H:SatO g c st β h)(bw:h.get? c.L=C o)(new:∀n y a d,st.σ.get n=C (ae,y)->β.ad[n]? =C (a,d)->a≠L/\d≠L):SatO g (c.enter L o fr A) {st with loc:=f6} β h:=by
 refine bG H.objs λf hf=>⟨H.keep,λx ak=>?_,⟨f,λn own y q=>?_⟩,H.len,H.facts,H.ghost⟩
 .rcases dg.mp ak with rfl|ak
  .exact⟨o.slots,bw⟩
  .exact H.cw x ak
 .obtain(⟨a,d,aa,af,aJ⟩):=hf n own y q;refine⟨a,d,aa,af,λe=>?_⟩;(clear af;subst e);obtain(⟨cH,cX,⟨dd,dx,fP⟩,⟨dS,cE,fQ⟩,gL⟩):=aJ rfl;refine a3 (new n y a d q aa) λeV dX=>⟨cH,cX,⟨dd,eV,λx ak=>?_⟩,⟨dS,dX,λx ak=>?_⟩,gL⟩
  .rcases dg.mp ak with rfl|ak
   .exact λe=>dx e.symm
   .exact fP x ak
  .rcases dg.mp ak with rfl|ak
   .exact λe=>cE e.symm
   .exact fQ x ak
theorem SatO.leave{L:aF}{o:cY}(H:SatO g (c.enter L o fr A) st β h):SatO g c {st with loc:=f6} β h:=by refine bG H.objs λf hf=>⟨H.keep,λx ak=>H.cw x (.tail _ ak),⟨f,λn own y q=>?_⟩,H.len,H.facts,H.ghost⟩;obtain(⟨a,d,aa,af,aJ⟩):=hf n own y q;refine⟨a,d,aa,af,λe=>?_⟩;obtain(⟨cH,cX,⟨dd,dx,fP⟩,⟨dS,cE,fQ⟩,gL⟩):=aJ e;exact⟨cH,cX,⟨dd,λe=>fP (c.L,o) (.head _) e.symm,λx ak=>fP x (.tail _ ak)⟩,⟨dS,λe=>fQ (c.L,o) (.head _) e.symm,λx ak=>fQ x (.tail _ ak)⟩,gL⟩
theorem Sat.leave{L:aF}{o:cY}{ar:Array hT}(H:Sat g (c.enter L o fr A) st β s)(hd:o.data=.dict ar fm)(aw:xe ar)
  (cb:∀x v,ed x f6=C v->∃y,sD ar x=C y/\a7 β v y):Sat g c {st with loc:=f6} β s:=by refine⟨H.toSatO.leave,H.os,?_⟩;exact bG (H.cw (c.L,o) (.head _)) λde e=>⟨_,⟨_,ar,fm,e,hd,aw,λI=>rfl⟩,cb⟩
theorem bc.Ok.enter{L:aF}{o:cY}{p5:Nat}(U:c.Ok g dep)(H:Sat g c st β s)(bw:s.heap.get? c.L=C o){ar:Array hT}(hd:o.data=.dict ar fm)(gw:s.heap.objs.size<=L)
  (frames:A.frames=C fr)(here:∀env∈fr,env∈c.fr\/(env.scope.kind≠.module/\env.frame=C L))(depth:A.depth<=310+2*p5)(units:A.units<=30+10*p5)(dN:p5<=802)(calm:p5<400->A.handled=none):(c.enter L o fr A).Ok g p5:=by
 have fresh:∀{b:aF}{x:cY},s.heap.get? b=C x->b≠L:=λe q=>by obtain this:=fU e;rw[q] at this;exact absurd this (i6.mpr gw)
 refine⟨U.base,frames,λenv he=>?_,λx ak=>?_,?_,depth,units,calm,dN⟩
 .rcases here env he with h|⟨aa,af⟩
  .obtain(⟨a,b,aB,r⟩):=U.here env h;refine⟨a,b,aB,.inr ?_⟩;rcases r with rfl|⟨x,ak,e⟩
   .exact(bh (c.L,o) (.head _) rfl)
   .exact(bh x (.tail _ ak) e)
  .exact⟨aa,L,af,.inl rfl⟩
 .rcases dg.mp ak with rfl|ak
  .exact⟨U.iX,ar,fm,hd⟩
  .exact U.hd x ak
 .show c.P L=none;generalize q:c.P L=aD;induction aD using b3 with
  |none=>rfl
  |some x=>exact absurd rfl (fresh (H.keep _ _ q))
theorem bc.oT{L:aF}{o:cY}(H:Sat g c st β s)(bw:s.heap.get? c.L=C o)(gw:s.heap.objs.size<=L):(c.enter L o fr A).Apart:=λx ak=>by
 have fresh:∀{b:aF}{x:cY},s.heap.get? b=C x->b≠L:=λe q=>by obtain this:=fU e;rw[q] at this;exact absurd this (i6.mpr gw)
 rcases dg.mp ak with rfl|ak
 .exact fresh bw
 .exact bG (H.cw x ak) λde e=>fresh e
end
theorem ahj{xs:List aO}{aK:List aV}(h:x∈xs)(e:xs.length=aK.length):((xs.zip aK).lookup x).isSome=true:=by
 induction xs generalizing aK with
 |nil=>cases h
 |cons y xs bF=>
  induction aK using es with
  |nil=>injection e
  |cons v aK=>
   (refine G List.zip_cons_cons (G nQ ?_));generalize q:((x==y))=aD;induction aD using bZ with
   |true=>rfl
   |false=>
    rcases dg.mp h with h|h
    .rw[h,beq_self_eq_true] at q;exact jB q
    .exact bF h (so e)
theorem Oa{f h:aV->Option fb}:∀{xs:List aV},(∀x∈xs,f x=h x)->xs.filterMap f=xs.filterMap h
 |[],_=>rfl
 |x::xs,e=>by exact G DV (G DV (G (e x (.head _)) (G (Oa λy bS=>e y (.tail _ bS)) rfl)))
theorem ahi{xs:List aO}{aK:List aV}(aN:xs.Nodup)(e:xs.length=aK.length):xs.filterMap (λn=>((xs.zip aK).lookup n).map (n,·))=xs.zip aK:=by
 induction xs generalizing aK with
 |nil=>rfl
 |cons x xs bF=>
  induction aK using es with
  |nil=>injection e
  |cons v aK=>
  rw[jD] at aN;replace bF:=bF (aK:=aK) aN.2 (so e);obtain same:xs.filterMap (λn=>(((x,v)::xs.zip aK).lookup n).map (n,·))=xs.filterMap (λn=>((xs.zip aK).lookup n).map (n,·)):=Oa λn hm=>by refine G nQ ?_;obtain this:(n==x)=false:=beq_eq_false_iff_ne.mpr λe=>aN.1 (G (bV e) hm);exact G this rfl
  show List.filterMap (λn=>(((x,v)::xs.zip aK).lookup n).map (n,·)) (x::xs)=(x,v)::xs.zip aK;(refine G DV (G nQ (G (beq_self_eq_true _) ?_)));simp only[nR];exact G same (G bF rfl)
theorem Yu{β:Type}{l:List aV}(h:l=[])(i:β)(f:aV->β->hC (ForInStep β))(k:β->hC fb):(forIn l i f>>=k)=k i:=by subst h;rfl
theorem ahh(a:List aO)(k:Nat):a.zip (([]:List az).drop k)=[]:=by exact G List.drop_nil (G List.zip_nil_right rfl)
variable{fd:FuncData}{as:List Arg}
theorem A8{an:List (Option bj)}{vals:List az}{ds:List bj}(b6:fd.params=⟨[],as,none,[],an,none,ds⟩)(hd:fd.defaults=.none)
  (aN:(as.map (·.arg)).Nodup)(aX:as.length=vals.length):bindArgs fd ⟨vals,[]⟩=pure ((as.map (·.arg)).zip vals):=by
 have jw:(as.map (·.arg)).length=vals.length:=by exact G (gB _) (G aX rfl)
 obtain miss:∀k,((as.map (·.arg)).take k).filter (λn=>(((as.map (·.arg)).zip vals).lookup n).isNone)=[]:=λk=>by refine gM List.filter_eq_nil_iff ?_;intro n hm e;obtain this:=ahj (List.mem_of_mem_take hm) jw;rw[nM.mp e] at this;exact c7 this
 obtain em:∀l:List aO,l=[]->(!l.isEmpty)=ae->False:=λl e h=>by rw[e] at h;exact c7 h
 cases fd with
 |mk f1 f2 vl f4 hL nd ahH f8 ahI ahE ahF ahG N6=>
  subst b6;subst hd;refine(if_neg (λe=>?_)).trans ?_
  .obtain this:=aR (Kx.mp e).1;exact absurd this (by show¬vals.length>(as.map (·.arg)).length;exact G jw (qR _))
  exact(if_neg (em _ (miss _))).trans ((Yu (ahh _ _) _ _ _).trans (congrArg (pure:_->hC (List (aO×az))) ((congrArg (List.filterMap _) (ma _)).trans (ahi aN jw))))
section
variable{k:aO->Option hl}
theorem FT(aw:k x=C .local):∀(binds:List (aO×az))(m:aO->Option az),(binds.map (·.1)).Nodup->bindL k binds m x=(match binds.lookup x with|some v=>C v|none=>m x)
 |[],m,_=>rfl
 |(n,v)::r,m,aN=>by
  rw[j2,jD] at aN;show bindL k r (if k n=C .local then λy=>if y=n then C v else m y else m) x=_;(refine G (FT aw r _ aN.2) (G nQ ?_));by_cases h:x=n
  .subst h;(refine G (if_pos aw) (G (beq_self_eq_true _) ?_));obtain this:r.lookup x=none:=by refine gM Kq ?_;intro p b6;obtain ne:x≠p.1:=λe=>aN.1 (by obtain this:=kU (f:=(·.1)) b6;rw[<-e] at this;exact this);simpa using ne
   refine G this ?_;simp
  .obtain this:(x==n)=false:=beq_eq_false_iff_ne.mpr h;refine G this ?_;cases r.lookup x with
   |some y=>rfl
   |none=>dsimp only;split<;>simp[h]
theorem Mu(aw:k x≠C .local):∀(binds:List (aO×az))(m:aO->Option az),(binds.map (·.1)).Nodup->bindC k binds m x=(match binds.lookup x with|some v=>C v|none=>m x)
 |[],m,_=>rfl
 |(n,v)::r,m,aN=>by
  rw[j2,jD] at aN;show bindC k r (if k n=C .local then m else λy=>if y=n then C v else m y) x=_;(refine G (Mu aw r _ aN.2) (G nQ ?_));by_cases h:x=n
  .subst h;(refine G (if_neg aw) (G (beq_self_eq_true _) ?_));obtain this:r.lookup x=none:=by refine gM Kq ?_;intro p b6;obtain ne:x≠p.1:=λe=>aN.1 (by obtain this:=kU (f:=(·.1)) b6;rw[<-e] at this;exact this);simpa using ne
   refine G this ?_;simp
  .obtain this:(x==n)=false:=beq_eq_false_iff_ne.mpr h;refine G this ?_;cases r.lookup x with
   |some y=>rfl
   |none=>dsimp only;split<;>simp[h]
end
variable{aK:List V}
theorem BH{ns:List aO}(h:bK (a7 β) aK aH):(match ed x (ns.zip aK) with
  |some v=>∃y,(ns.zip aH).lookup x=C y/\a7 β v y
  |none=>(ns.zip aH).lookup x=none):=by
 induction ns generalizing aK aH with
 |nil=>rfl
 |cons n ns bF=>
  induction h with
  |nil=>rfl
  |@cons v y aK aH r t _=>
   replace bF:=bF t;show match(match eqs n x with|true=>C v|false=>ed x (ns.zip aK)) with
    |some v=>∃z,((n,y)::ns.zip aH).lookup x=C z/\a7 β v z
    |none=>((n,y)::ns.zip aH).lookup x=none
   refine G nQ ?_;generalize q:eqs n x=aD;induction aD using bZ with
   |true=>obtain this:=gu.mp q;(clear q bF;subst this);exact G (beq_self_eq_true _) (bh y rfl r)
   |false=>obtain this:(x==n)=false:=beq_eq_false_iff_ne.mpr λe=>oU.mp q e.symm;exact G this bF
theorem yg{names:List (aO×hl)}{v:V}:∀{binds:List (aO×V)},(binds.map (·.1)).Nodup->ed x (qv names binds)=C v->gR x names=C .local/\ed x binds=C v
 |[],_,h=>by exact bM h
 |e::r,aN,h=>by
  rw[j2,jD] at aN;obtain C1:ed x (qv names r)=C v->eqs e.1 x=false:=λq=>by
   refine a3 (yg aN.2 q) λ_ b=>gM oU ?_;intro z;apply aN.1;clear q h;refine G z ?_;clear aN;induction r with
   |nil=>exact bM b
   |cons f t bF=>
    replace b:(match eqs f.1 x with|true=>C f.2|false=>ed x t)=C v:=b;generalize q:eqs f.1 x=aD;induction aD using bZ with
    |true=>(refine G j2 (G (gu.mp q) ?_));exact .head _
    |false=>rw[q] at b;exact .tail _ (bF b)
  replace h:ed x (match gR e.1 names with|some .local=>e::qv names r|_=>qv names r)=C v:=h;show _/\(match eqs e.1 x with|true=>C e.2|false=>ed x r)=C v;generalize aw:gR e.1 names=z at h;induction z using b3 with
  |none=>exact G (C1 h) (yg aN.2 h)
  |some fg=>
   induction fg using sF with
   |«local»=>
    replace h:(match eqs e.1 x with|true=>C e.2|false=>ed x (qv names r))=C v:=h;generalize q:eqs e.1 x=aD;induction aD using bZ with
    |true=>rw[q] at h;exact⟨by exact G (bV (gu.mp q)) aw,h⟩
    |false=>rw[q] at h;exact yg aN.2 h
   |_=>exact G (C1 h) (yg aN.2 h)
theorem Bd{p:aO×aF}:∀(l:List (aO×hl))(n:Nat)(acc:List (aO×aF)),p∈acc->p∈oy n l acc
 |[],_,_,h=>h
 |(x,eU)::r,n,acc,h=>by
  unfold oy;split
  .exact Bd r _ _ (.tail _ h)
  .exact Bd r _ _ h
noncomputable def xj(β:aZ):List (aO×Nat)->List (aO×aF)->Prop:=bK λe f=>e.1=f.1/\β.ad[e.2]? =C (f.2,f.2)
theorem xj.look{l:List (aO×Nat)}{m:List (aO×aF)}(R:xj β l m)(h:k3 x l=C n):∃a d,m.lookup x=C a/\β.ad[n]? =C (a,d):=by
 induction R with
 |nil=>exact bM h
 |@cons e DN l m r t bF=>
  obtain(⟨y,a⟩):=DN;(refine a3 r λda dA=>?_;try clear r);replace h:(match eqs e.1 x with|true=>C e.2|false=>k3 x l)=C n:=h;refine G nQ ?_;generalize q:eqs e.1 x=aD;induction aD using bZ with
  |true=>
   rw[q] at h;(obtain J:=aT h;clear h;(clear bF;subst J));obtain this:(x==y)=true:=by exact gM beq_iff_eq (G (bV (gu.mp q)) da)
   exact G this (gi a a rfl dA)
  |false=>rw[q] at h;obtain this:(x==y)=false:=beq_eq_false_iff_ne.mpr λz=>oU.mp q (da.trans z.symm);exact G this (bF h)
section
variable{c:bc}
theorem SatO.adopt{st:St}{a:aF}(H:SatO g c st β h)(aN:st.no<10000000)(new:∀n y dp ec,st.σ.get n=C (ae,y)->β.ad[n]? =C (dp,ec)->dp≠a/\ec≠a)(hM:c.gV a)
  (R:cL g h.get? (β.new a a) a a o)(iT:o.qd=ai):SatO g c {st with σ:=st.σ.put cU st.no (ae,o),no:=st.no+1} (β.new a a) h:=by
 refine bG H.objs λf hf=>⟨H.keep,H.cw,⟨λx=>if x=a then st.no else f x,λm own y q=>?_⟩,?_,H.facts.new,H.ghost.trans (β.gI _ _)⟩
 .replace q:(st.σ.put cU st.no (ae,o)).get m=C (own,y):=q;rw[d0.k8 cU st.σ st.no (ae,o) m (ij aN (aR rfl))] at q;by_cases hm:m=st.no
  .subst hm;rw[if_pos rfl] at q;(obtain J:=aT q;clear q;refine a3 (eD J) λbT cu=>?_;clear J;subst bT;subst cu);exact⟨a,a,by exact G (bV H.len) (β.lp a a),R,λI=>⟨by simp,by simp,hM,hM,O.live iT⟩⟩
  .rw[if_neg hm] at q;obtain(⟨eg,fK,g1,g2,g3⟩):=hf m own y q;refine⟨eg,fK,a4 (β.gI a a).ad g1,?_,λe=>?_⟩
   .clear g3 q;induction own using bZ with
    |false=>exact g2.mono (β.gI a a) (λI e=>e) (λI e=>e)
    |true=>exact g2.mono (β.gI a a) (λI e=>e) (λI e=>e)
   ·(clear g2;subst e);obtain(⟨cH,cX,fw,gT,gL⟩):=g3 rfl;exact a3 (new m y eg fK q g1) λeV dX=>⟨by show(if eg=a then st.no else f eg)=m;exact G (if_neg eV) cH,by show(if fK=a then st.no else f fK)=m;exact G (if_neg dX) cX,fw,gT,gL⟩
 .show(β.ad++ [(a,a)]).length=st.no+1;(refine G iG (G H.len ?_));rfl
theorem IH{binds:List (aO×V)}{xV:aO->Option az}(hm:∀x,match ed x binds with|some v=>∃y,xV x=C y/\a7 β v y|none=>xV x=none){cs:List (aO×aF)}(bb:∀p∈cs,h.IsCell p.2 (xV p.1)/\c.gV p.2){P:aF->Prop}(eB:∀p∈cs,P p.2):
  ∀(names:List (aO×hl))(n:Nat)(acc:List (aO×Nat))(j6:List (aO×aF))(st:St)(aW:aZ),β.le aW->SatO g c st aW h->(∀m y a d,st.σ.get m=C (ae,y)->aW.ad[m]? =C (a,d)->(a<n/\d<n)/\P a/\P d)->xj aW acc j6->oy n names j6=cs->
   match vT binds names acc st with
    |.fail _=>True
    |.ok cells bk=>∃av,aW.le av/\SatO g c bk av h/\xj av cells cs/\bk.loc=st.loc/\∀m y a d,bk.σ.get m=C (ae,y)->av.ad[m]? =C (a,d)->P a/\P d
    |.ex _=>False
 |[],n,acc,j6,st,aW,l,H,aX,R,e=>⟨aW,.refl _,H,by exact G (bV e) R,rfl,λm y a d p q=>(aX m y a d p q).2⟩
 |(x,eU)::r,n,acc,j6,st,aW,l,H,aX,R,e=>by
  unfold oy at e;induction eU using sF with
  |cell=>
   rw[if_pos (by exact rfl)] at e;show match((alloc (.cell (ed x binds))).bind λn=>vT binds r ((x,n)::acc)) st with|.fail _=>True|.ok cells bk=>_|.ex _=>False
   generalize q:eQ st.no 10000000=aD;induction aD using bZ with
   |false=>
    obtain this:alloc (.cell (ed x binds)) st=.fail 2:=by unfold MI.alloc;exact G q rfl
    unfold M.bind;refine G this ?_;trivial
   |true=>
    have aN:st.no<10000000:=bA q;obtain cq:alloc (.cell (ed x binds)) st=.ok st.no {st with σ:=st.σ.put cU st.no (ae,.cell (ed x binds)),no:=st.no+1}:=by unfold MI.alloc;exact G q rfl
    refine G (xQ cq) ?_;have mem:(x,n)∈cs:=by exact G (bV e) (Bd r _ _ (.head _))
    (refine a3 (bb _ mem) λJ fr=>aS J λf_ bY c5=>?_;try clear J);obtain new:∀m y dp ec,st.σ.get m=C (ae,y)->aW.ad[m]? =C (dp,ec)->dp≠n/\ec≠n:=λm y dp ec dd dx=>by(refine a3 (aX m y dp ec dd dx) λJ I=>a3 J λji jV=>?_;try clear J);exact⟨kq ji,kq jV⟩
    obtain oG:=H.adopt (o:=.cell (ed x binds)) (a:=n) aN new fr ⟨rfl,f_,xV x,bY,c5,by
     have:=hm x;generalize z:ed x binds=aD;induction aD using b3 with
     |none=>rw[z] at this;exact this
     |some v=>rw[z] at this;(refine aS this λy bS hR=>?_;try clear this);exact(bh y bS ((hR.le l).le (aW.gI n n)))⟩ rfl
    obtain this:=IH hm bb eB r (n+1) ((x,st.no)::acc) ((x,n)::j6) {st with σ:=st.σ.put cU st.no (ae,.cell (ed x binds)),no:=st.no+1} (aW.new n n) (l.trans (aW.gI n n)) oG (λm y a d dd dx=>by
     replace dd:(st.σ.put cU st.no (ae,.cell (ed x binds))).get m=C (ae,y):=dd;rw[d0.k8 cU st.σ st.no _ m (ij aN (aR rfl))] at dd;by_cases hm:m=st.no
     ·(clear dd;subst hm);rw[<-H.len,aW.lp n n] at dx;(obtain J:=aT dx;clear dx;refine a3 (eD J) λbT cu=>?_;clear J;subst bT;subst cu);exact(fi ⟨K0 _,K0 _⟩ (eB _ mem) (eB _ mem))
     .rw[if_neg hm] at dd;obtain aB:m<aW.ad.length:=by refine bG H.objs λf hf=>?_;obtain(⟨_,_,aa,_⟩):=hf m ae y dd;exact(j0.mp aa).1
      obtain adj:aW.ad[m]? =C (a,d):=by rw[show(aW.new n n).ad=aW.ad++ [(n,n)] from rfl,wU aB] at dx;exact dx
      (refine a3 (aX m y a d dd adj) λJ Sn=>a3 J λji jV=>?_;try clear J);exact⟨⟨w2 ji,w2 jV⟩,Sn⟩) (.cons ⟨rfl,by exact G (bV H.len) (aW.lp n n)⟩ (R.imp λI I z=>⟨z.1,a4 (aW.gI n n).ad z.2⟩)) e
    split at this
    .trivial
    ·(refine aS this λav a_ z=>?_;try clear this);exact(bh av ((aW.gI n n).trans a_) z)
    .exact this
  |_=>rw[if_neg (by exact sj)] at e;exact IH hm bb eB r n acc j6 st aW l H aX R e
end
variable{bg:aM}
section
variable{c:bc}{ah:Type}{m:M aV}{W mi:Wp ah}{R hV:aZ->aV->ah->Prop}{st:St}{s:aM}
theorem At.le(h:At X g c av st s m W R)(l:β.le av):At X g c β st s m W R:=by
 unfold At at h ⊢;split at h
 .trivial
 .exact λQ E aq=>h Q E λa ao aY eC=>aq a ao aY (l.trans eC)
 .exact λQ E aq=>h Q E λa ao aY eC=>aq a ao aY (l.trans eC)
theorem At.step{f:aV->M d8}{W:Wp ej}{cC:aZ->d8->ej->Prop}{v:aV}(e:m st=.ok v bk)(h:At X g c β bk s (f v) W cC):At X g c β st s (m.bind f) W cC:=by unfold At at h ⊢;exact G (xQ e) h
theorem At.wL{aG:aM->Prop}{m8:Wp ah}(h:∀bg,aG bg->At X g c β st bg m m8 R)(k:∀Q E,(∀bg,aG bg->m8 Q E bg)->W Q E s):At X g c β st s m W R:=by
 unfold At at h ⊢;generalize q:m st=aD;induction aD using MI.Out.casesOn with
 |fail n=>trivial
 |ok v bk=>exact λQ E aq=>k Q E λbg dq=>by obtain this:=h bg dq;rw[q] at this;exact this Q E aq
 |ex bk=>exact λQ E aq=>k Q E λbg dq=>by obtain this:=h bg dq;rw[q] at this;exact this Q E aq
theorem At.within{L:aF}{o:cY}{ar:Array hT}{W:Wp ah}{F:(az->aM->Prop)->az->aM->Prop}
  (h:At fW g (c.enter L o fr A) β {st with loc:=f6} s m W R)(hd:o.data=.dict ar fm)(aw:xe ar)(cb:∀x v,ed x st.loc=C v->∃y,sD ar x=C y/\a7 β v y)
  (ak:∀E e ao bk av,fW g (c.enter L o fr A) bk av e ao->(∀fa,Told g (c.enter L o fr A) bk av e fa->E e fa)->F E e ao):At fW g c β st s (kR f6 m) (λQ E s=>W Q (F E) s) R:=by
 unfold At at h ⊢;have e:kR f6 m st=(match m {st with loc:=f6} with
  |.fail n=>.fail n
  |.ok a bk=>.ok a {bk with loc:=st.loc}
  |.ex bk=>.ex {bk with loc:=st.loc}):=rfl
 generalize q:m {st with loc:=f6}=aD;induction aD using MI.Out.casesOn with
 |fail n=>(refine G e (G q ?_));trivial
 |ok v bk=>(refine G e (G q ?_));rw[q] at h;exact λQ E aq=>h Q (F E) λa ao av l S r=>aq a ao av l (S.leave hd aw λx v q=>(aS (cb x v q) λy aa af=>(bh y aa (af.le l)))) r
 |ex bk=>(refine G e (G q ?_));rw[q] at h;intro Q E aq;refine h Q (F E) λe ao av l S=>ak E e ao _ av S λfa T=>aq e fa av l ?_;(refine eH T λa J gF eE=>?_;try clear T;(clear S;subst J));exact ih gF.told λcf aK a1 a2 cj c9 iL dQ=>⟨a,rfl,⟨cf,aK,a1,a2,cj,c9,iL,.inr (dQ.resolve_left λq=>q.1 trivial)⟩,eE.leave hd aw λx v q=>(aS (cb x v q) λy aa af=>(bh y aa (af.le l)))⟩
end
variable{gb:Array (Option az)}
section
variable{c:bc}{st:St}{s:aM}{ab:cI}
theorem PV(U:c.Ok g dep)(V:∃e rest,c.fr=e::rest/\env.frame=e.frame){v:az}{Q:Unit->aM->Prop}(F:fW g c st β v s)(aq:∀ao,Told g c st β v ao->Q () ao):a5 g.M c.A (uK env v) Q E s:=by unfold uK;exact b2 (zr U V F λao pP=>vm U pP aq)
theorem zx{sc:pG}(h:qB sc=ae):sc.kind=.function/\sc.isGenerator=ai/\sc.isCoroutine=false:=by unfold qB at h;simp only[ew,jl] at h;(refine a3 h λJ _=>?_;try clear h;refine a3 J λbT aJ=>?_;try clear J;refine a3 bT λaa af=>?_;try clear bT);refine(fi ?_ af aJ);exact Ib aa
theorem zp:∀{l:List aO},oi l=ae->l.Nodup
 |[],_=>.nil
 |x::r,h=>by rw[acC] at h;rw[ew] at h;(refine a3 h λaa af=>?_;try clear h);refine gM jD ⟨λm=>?_,zp af⟩;obtain this:=eX.mp aa x m;rw[jl,oU] at this;exact this rfl
theorem abf{names:List (aO×hl)}{binds:List (aO×V)}(h:PL names binds=ae)(x:aO)(ak:x∈binds.map (·.1)):gR x names=C .local\/gR x names=C .cell:=by
 (refine aS (kY.mp ak) λe he J=>?_;(clear ak;subst J));refine cN (eX.mp h e he) λk q h=>G q ?_;clear q;induction k using sF with
 |«local»=>exact .inl rfl
 |cell=>exact .inr rfl
 |_=>exact c7 h
theorem cellsFrom_some:∀(l:List (aO×hl))(n:Nat)(acc:List (aO×aF)),(x,NameKind.cell)∈l->((oy n l acc).lookup x).isSome=ae
 |(y,eU)::r,n,acc,h=>by
  obtain aax:∀(l:List (aO×hl))(n:Nat)(acc:List (aO×aF))(a:aF),(x,a)∈acc->((oy n l acc).lookup x).isSome=true:=λl n acc a aU=>by
   obtain this:=Bd l n acc aU;generalize q:(oy n l acc).lookup x=aD;induction aD using b3 with
   |some _=>rfl
   |none=>rw[Kq] at q;obtain this:=q _ this;simp at this
  unfold oy;rcases dg.mp h with e|h
  ·(refine a3 (eD e) λJ bT=>?_;clear e;subst J;(clear h;subst bT));exact G (if_pos (by exact rfl)) (aax r _ _ n (.head _))
  .split
   .exact cellsFrom_some r _ _ h
   .exact cellsFrom_some r _ _ h
theorem mem_of_lookup{v:aV}:∀{l:List (aO×aV)},l.lookup x=C v->(x,v)∈l
 |(y,w)::r,h=>by
  rw[nQ] at h;generalize q:(x==y)=z at h;induction z using bZ with
  |true=>(obtain J:=aT h;clear h;subst J);exact G (beq_iff_eq.mp q) (.head _)
  |false=>exact .tail _ (mem_of_lookup h)
theorem CH{v:aV}{l:List (aO×aV)}(aN:(l.map (·.1)).Nodup)(h:(x,v)∈l):l.lookup x=C v:=by
 induction l with
 |nil=>cases h
 |cons p r bF=>
  rw[j2,jD] at aN;show(match x==p.1 with|true=>C p.2|false=>r.lookup x)=_;rcases dg.mp h with e|h
  ·(clear h aN;subst e);exact G (beq_self_eq_true _) rfl
  .obtain this:(x==p.1)=false:=beq_eq_false_iff_ne.mpr λe=>aN.1 (by obtain this:=kU (f:=(·.1)) h;exact G (bV e) this);exact G this (bF aN.2 h)
theorem Wl{l:List (aO×hl)}:∀(n:Nat)(acc:List (aO×aF)),(l.map (·.1)).Nodup->(acc.map (·.1)).Nodup->(∀x∈l.map (·.1),x∉acc.map (·.1))->
  ((oy n l acc).map (·.1)).Nodup/\∀p∈oy n l acc,p∈acc\/(p.1,NameKind.cell)∈l:=by
 induction l with
 |nil=>exact λn acc _ h _=>⟨h,λp b6=>.inl b6⟩
 |cons e r bF=>
  obtain(⟨x,eU⟩):=e;intro n acc aa af aJ;rw[j2,jD] at aa;unfold oy;split
  .rename_i q;refine a3 (bF (n+1) ((x,n)::acc) aa.2 (by
    (refine G j2 (gM jD ?_));exact⟨aJ x (.head _),af⟩) (λy bS=>by(refine G j2 ?_;(rewrite[dg];refine gM not_or ?_));exact⟨λe=>aa.1 (G (bV e) bS),aJ y (.tail _ bS)⟩)) λa b=>?_
   refine⟨a,λp b6=>?_⟩;rcases b p b6 with h|h
   .rcases dg.mp h with e|h
    ·(clear h b6;subst e);rw[beq_iff_eq] at q;(clear aJ aa;subst q);exact .inr (.head _)
    .exact .inl h
   .exact .inr (.tail _ h)
  .exact a3 (bF n acc aa.2 af (λy bS=>aJ y (.tail _ bS))) λa b=>⟨a,λp b6=>(b p b6).imp id λh=>.tail _ h⟩
theorem QP{o:Option aV}(h:I7 o=C u):o=none:=by
 induction o using b3 with
 |none=>rfl
 |some=>exact bM h
theorem V_{b:FuncBody}{l:List eO}(h:Mx b=C l):b=.stmts l:=by
 cases b with
 |stmts=>(obtain J:=aT h;clear h;subst J);rfl
 |expr=>exact bM h
theorem adl{p:Arguments}(h:Rg p=C as):∃an ds,p=⟨[],as,none,[],an,none,ds⟩:=
 ct h λI a1 h=>ct h λI a2 h=>ct h λI cj h=>ct h λI c9 h=>by obtain(⟨dd,dx,fP,iV,iW,kM,jS⟩):=p;(obtain J:=aT h;clear h;(clear h;subst J));exact(wN iW jS (G (show dd=[] from lq a1) (G (show fP=none from QP a2) (G (show iV=[] from lq cj) (G (show kM=none from QP c9) rfl)))))
theorem Wf(O:g.Ok)(ba:dV g aG)(U:c.Ok g dep){a:aF}(bw:g.K.lookup a=C ⟨bE,fZ,.func fd,gb⟩)(R:bK (a7 β) aK aH):
  cS g c β (MG aG g.K dep fd aK) (jG g c (.ref a) aH) a7:=by
 intro aW st s aa H;have R:=R.imp λI I x=>x.le aa;refine .guard λBN=>.bp λbody aB=>.bp λas b6=>.bp λu lU=>.guard λBO=>?_;obtain aB:=V_ aB;obtain lU:=lq lU;refine mC (adl b6) λan ds b6=>?_;simp only[ew] at BN BO;(refine a3 BN λJ s8=>?_;try clear BN;refine a3 J λbT s7=>?_;try clear J;refine a3 bT λcu s6=>?_;try clear bT;refine a3 cu λjC i9=>?_;try clear cu;refine a3 jC λe5 gZ=>?_;try clear jC);(refine a3 BO λJ cB=>?_;try clear BO;refine a3 J λa9 bf=>?_;try clear J);refine fO (zx e5) λbu c3 fL=>?_;have dN:dep<300:=bA i9;obtain Zy:fd.defaults=.none:=Cr s6;obtain tD:=d2 s7;obtain qg:=d2 s8;have hlen:as.length=aH.length:=(d2 a9).trans R.length;have yA:(as.map (·.arg)).Nodup:=zp bf;have ahU:(as.map (·.arg)).length=aH.length:=by exact G (gB _) (G hlen rfl)
 have OW:(fd.scope.names.map (·.1)).Nodup:=by unfold qB at e5;rw[ew] at e5;exact zp e5.2
 have BQ:=U.depth;obtain HU:=U.units;let L:=s.heap.objs.size;let cJ:=callEnvC fd L a;let binds:=(as.map (·.arg)).zip aH;have rx:(binds.map (·.1)).Nodup:=by show(((as.map (·.arg)).zip aH).map (·.1)).Nodup;exact G (pK (by exact eP (by assumption))) yA
 obtain V8:((((as.map (·.arg)).zip aK)).map (·.1)).Nodup:=by exact G (pK (by obtain this:=R.length;lia)) yA
 have kindOf:∀x,cJ.kindOf x=gR x fd.scope.names:=λx=>(vQ x _).symm;refine At.wL (aG:=InCallC s cJ.locals (bindL cJ.kindOf binds λI=>none) cJ.cells (bindC cJ.kindOf binds λI=>none))
  (m8:=λQ E bg=>a5 g.M (c.A.deeper cJ) (cF body cJ) (λf ao=>Q (match f with|.ret v=>v|_=>.none) ao) (λe ao=>a5 g.M (c.A.deeper cJ) (uK cJ e) (λI fa=>E e fa) (λcq fa=>E cq fa) ao) bg) (λbg bL=>?_) λQ E la=>?_
 ·
  (refine mC bL.toInCall.same λaA cW J=>?_;subst J);have keep:=bL.toInCall.keep;obtain sS:SatO g c st aW aA:=H.toSatO.grow keep;refine mD H.loc.obj λfS qa tg hi jv mw oa=>?_;obtain freeOf:∀b,L<=b->c.gV b:=λb aB=>.C8 U H.toSatO H.loc aB;have lay:=IH (g:=g) (c:=c) (β:=aW) (binds:=(as.map (·.arg)).zip aK) (xV:=λx=>binds.lookup x) (h:=aA) (λx=>BH R) (cs:=cJ.cells) (λp b6=>?_) (P:=λb=>b≠L) (λp b6=>pB (bL.above p.1 p.2 b6)) fd.scope.names (L+1) [] [] st aW (.refl _) sS (λm y dp ec dd dx=>?_) .nil rfl
  .generalize q:vT ((as.map (·.arg)).zip aK) fd.scope.names [] st=aD;induction aD using MI.Out.casesOn with
   |fail n=>exact .stuck q
   |ex bk=>rw[q] at lay;exact lay.elim
   |ok cells qK=>
    rw[q] at lay;(refine C6 lay λaY eC e8 cr yu acI=>?_;try clear lay);refine At.step q (At.le ?_ eC);let bI:=c.enter L fS (cJ::c.fr) (c.A.deeper cJ);have ek:bI.Ok g (dep+1):=U.enter H hi jv (dO _) (by show c.A.frames.map _=_;exact G U.frames rfl) (λenv he=>by
     rcases dg.mp he with rfl|he
     .exact .inr ⟨by show fd.scope.kind≠.module;refine G bu ?_;simp,rfl⟩
     .exact .inl he) (by show c.A.depth+1<=_;exact Ny BQ (bA rfl)) (by show c.A.units+3<=_;exact So HU (bA rfl)) (by exact bU (by assumption) (bA rfl)) (λh=>U.calm (by exact kp (by assumption)))
    have gY:cc bI ⟨fd.scope,cells,dep+1⟩ cJ aY:=⟨rfl,bu,tD,qg,rfl,λx n e=>xj.look cr e,(gi cJ c.fr rfl rfl),bc.oT H hi (dO _)⟩;obtain eE:Sat g bI {qK with loc:=qv fd.scope.names ((as.map (·.arg)).zip aK)} aY {s with heap:=aA,toks:=cW}:=by refine⟨e8.enter (keep _ _ hi) acI,H.os,_,bL.toInCall.ns,λx v e=>?_⟩;refine a3 (yg V8 e) λdc YX=>?_;obtain this:=BH (x:=x) (ns:=as.map (·.arg)) R;rw[YX] at this;(refine aS this λy bS hR=>?_;try clear this);refine(bh y ?_ (hR.le eC));(refine G (FT (by exact G (kindOf _) dc) binds _ rx) ?_;exact G bS rfl)
    obtain run:=ba.xs bI ⟨fd.scope,cells,dep+1⟩ cJ aY body ek gY aY _ _ (.refl _) eE;obtain H_:=At.within (F:=λE e ao=>a5 g.M (c.A.deeper cJ) (uK cJ e) (λI fa=>E e fa) (λcq fa=>E cq fa) ao) run jv mw (λx v e=>by rw[yu] at e;exact aS (oa x v e) λy bS hR=>(bh y bS (hR.le eC))) (λE e ao bk av F aq=>PV ek gY.frame F aq)
    refine(H_.bind (k:=λ(f:fH)=>λ(Q:az->aM->Prop) I ao=>Q (match f with|.ret v=>v|_=>xc) ao) λav eK f bk ao l fv S=>?_).of λQ E k=>k;induction eK using MI.di.casesOn with
    |next=>obtain rfl:=fv;exact .oj λv q=>by(obtain J:=aT q;clear q;subst J);exact .ret λQ E aq=>aq _ _ av (.refl _) S rfl
    |ret v=>(refine aS fv λy J hR=>?_;try clear fv;subst J);exact .oj λv q=>by(obtain J:=aT q;clear q;subst J);exact .ret λQ E aq=>aq _ _ av (.refl _) S hR
    |brk=>exact .oj λv q=>nomatch q
    |cont=>exact .oj λv q=>nomatch q
  .have keys:=Wl (l:=fd.scope.names) (L+1) [] OW .nil (λI I h=>nomatch h);obtain lk:cJ.cells.lookup p.1=C p.2:=CH keys.1 b6;have cl:fd.scope.names.lookup p.1=C .cell:=by
    rcases keys.2 p b6 with h|h
    .cases h
    .exact CH OW h
   have:=bL.cell p.1 p.2 lk;rw[Mu (by(rewrite[kindOf,vQ];refine G cl ?_);simp) binds _ rx] at this;refine⟨?_,freeOf _ (kp (bL.above p.1 p.2 b6))⟩;generalize q:binds.lookup p.1=aD;induction aD using b3 with
   |none=>rw[q] at this;exact this
   |some y=>rw[q] at this;exact this
  .refine bG H.objs λf hf=>?_;obtain(⟨eg,fK,bY,c5,fF⟩):=hf m ae y dd;rw[dx] at bY;(obtain J:=aT bY;clear bY;refine a3 (eD J) λbT cu=>?_;clear J;subst bT;subst cu);obtain(⟨⟨_,t1⟩,_,jh⟩):=cL.there (fF rfl).iT (show cL g s.heap.get? aW dp ec y from c5);have dS:=fU t1;have cE:=fU jh;exact(fi ⟨w2 dS,w2 cE⟩ (kq dS) (kq cE))
 .refine codeAny_call_cells (binds:=binds) (by show c.A.depth<1000;exact jk (Nz BQ (kp dN) (dO _)) (bA rfl)) (H.toSatO.fl U O _ _ bw) rfl (H.toSatO.top U O).nolimit (Eo (H.toSatO.fl U O) gZ) aB (A8 b6 Zy yA hlen) lU (λx ak=>?_) (λbg bL=>la bg bL) fL c3 bu;obtain this:=abf cB x.1 (by refine G (pK (by obtain this:=R.length;lia)) ?_;obtain this:=kU (f:=(·.1)) ak;rwa [pK (by exact eP (by assumption))] at this)
  rw[vQ] at this;rcases this with h|h
  .exact .inl h
  .exact .inr ⟨h,cellsFrom_some _ _ _ (mem_of_lookup h)⟩
end
noncomputable def bc.around(c:bc)(A:oA):bc:=⟨c.P,c.cw,c.fr,c.L,A⟩
section
variable{c:bc}{st:St}{s:aM}
theorem Sat.around(H:Sat g c st β s):Sat g (c.around A) st β s:=⟨⟨H.keep,H.cw,H.objs.imp λI F=>F.Bm rfl λI x=>x,H.len,H.facts,H.ghost⟩,H.os,H.loc⟩
theorem Sat.wJ(H:Sat g (c.around A) st β s):Sat g c st β s:=⟨⟨H.keep,H.cw,H.objs.imp λI F=>F.Bm rfl λI x=>x,H.len,H.facts,H.ghost⟩,H.os,H.loc⟩
theorem fW.wJ{v:az}(H:fW g (c.around A) st β v s):fW g c st β v s:=by(refine eH H λe aa J aJ=>?_;try clear H;obtain(⟨cf,aK,r⟩):=J);exact⟨e,aa,⟨cf,aK,r⟩,aJ.wJ⟩
theorem bH.wJ{ah:Type}{m:M aV}{W:Wp ah}{R:aZ->aV->ah->Prop}(h:cS g (c.around A) β m W R):cS g c β m W R:=λaW st s aa H=>by
 obtain h:=h aW st s aa H.around;unfold At at h ⊢;split at h
 .trivial
 .exact λQ E aq=>h Q E λa ao av l S=>aq a ao av l S.wJ
 .exact λQ E aq=>h Q E λe ao av l S=>aq e ao av l S.wJ
theorem af7(f:aF)(aH:List az):(Lj "type.__call__" ⟨.ref f::aH,[]⟩).weight=1:=by kernel_rfl
theorem af6(f:aF)(aH:List az):(Lj "type.__call__" ⟨.ref f::aH,[]⟩).cUnits=1:=by kernel_rfl
theorem af5(f:aF)(aH:List az):(Lj "type.__call__" ⟨.ref f::aH,[]⟩).envs=[]:=by kernel_rfl
theorem ML(O:g.Ok)(ba:dV g aG)(U:c.Ok g dep){f:aF}(R:bK (a7 β) aK aH):cS g c β (gp aG g.K dep (.c (.ref f)) aK) (jG g c (.ref f) aH) a7:=by
 unfold gp;generalize bw:g.K.lookup f=aD;induction aD using b3 with
 |none=>dsimp only;exact G bw .fail
 |some o=>
 obtain(⟨bE,fZ,data,gb⟩):=o;dsimp only;refine G bw ?_;induction data using Ae with
 |func fd=>exact Wf O ba U bw R
 |cls ahy=>
  dsimp only;generalize hm:(IW g.K f&&eQ dep IY)=aD;induction aD using bZ with
  |false=>exact .fail
  |true=>
  generalize hf:((ze g.K f "__init__").bind λy=>y.bind zJ)=aD;induction aD using b3 with
  |none=>exact .fail
  |some tm=>
   obtain ZJ:ze g.K f "__init__"=C (C (.ref tm)):=ct hf λy e h=>ct h λv cq h=>by exact G e (G cq (G (Jw h) rfl))
   rw[ew] at hm;obtain dN:dep<300:=bA hm.2;dsimp only;split
   .rename_i OS;intro aW st s aa H;refine .alloc λaN=>?_;let cd:Code:=.builtin "type.__call__" ⟨.ref f::aH,[]⟩;obtain hw:cd.weight=1:=af7 f aH;obtain cx:cd.cUnits=1:=af6 f aH;obtain ZA:=U.depth;obtain aah:=U.units;obtain ek:(c.around (c.A.under cd)).Ok g (dep+1):=⟨U.base,by show pushEnvs cd.envs c.A.frames=C c.fr;(refine G U.frames (G (show cd.envs=[] from af5 f aH) ?_));rfl,U.here,U.hd,U.iX,(show c.A.depth+cd.weight<=_ from hw▸Ny ZA (bA rfl)),(show c.A.units+cd.cUnits<=_ from cx▸So aah (bA rfl)),λ_=>U.calm (kp (by assumption)),by exact bU (by assumption) (bA rfl)⟩;obtain ZK:typeIn g.K (.ref tm)=C (.type "function"):=by unfold isFn at OS;exact beq_iff_eq.mp OS
    obtain dk:Sat g c {st with σ:=st.σ.put cU st.no (ae,.inst f []),no:=st.no+1} (aW.new (s.heap.objs.size+1) s.heap.objs.size) {s with heap:=(s.heap.push emptyDict).push (uL f s.heap.objs.size),toks:=s.toks}:=by
     refine H.oN U aN (λ_ _ e=>f5 _ (f5 _ e)) (Lm _) (dO _) ⟨by simp,[],0,?_,?_,.nil⟩ rfl
     .exact(by obtain this:=nN (s.heap.push emptyDict) (o:=uL f s.heap.objs.size) rfl;rwa [D7] at this)
     .exact f5 _ (nN _ rfl)
    have PZ:a7 (aW.new (s.heap.objs.size+1) s.heap.objs.size) (.r st.no) (.ref (s.heap.objs.size+1)):=⟨_,_,by exact G (bV H.len) (aW.lp _ _),rfl⟩;have eG:=aW.gI (s.heap.objs.size+1) s.heap.objs.size;have K:=ba.ca (c.around (c.A.under cd)) (dep+1) (aW.new (s.heap.objs.size+1) s.heap.objs.size) tm (.r st.no::aK) (.ref (s.heap.objs.size+1)::aH) ek (.cons PZ (R.imp λ_ _ x=>(x.le aa).le eG));have T8:=K.wJ.bind (f:=λ
     |.c .none=>M.pure (.r st.no)
     |_=>fail 95) (k:=λv=>λQ _ ao=>v=.none/\Q (.ref (s.heap.objs.size+1)) ao) (cC:=a7) λav v a l r=>?_
    .refine At.wL (m8:=λQ E bg=>jG g (c.around (c.A.under cd)) (.ref tm) (.ref (s.heap.objs.size+1)::aH) (λa bg=>a=.none/\Q (.ref (s.heap.objs.size+1)) bg) E bg) (aG:=λbg=>bg={s with heap:=(s.heap.push emptyDict).push (uL f s.heap.objs.size),toks:=s.toks}) ?_ ?_
     .rintro bg rfl;exact(T8 _ _ _ (.refl _) dk).le eG
     .intro Q E la;have la:=la _ rfl;refine make_core (makes_of (H.toSatO.fl U O) (abS hm.1)) (Au (H.toSatO.fl U O) (Qo ZJ)) (λself=>bind_fn (H.toSatO.fl U O) self ZK) (.inl rfl) (uF la λr ao h=>?_);induction r using uy with
      |error e=>exact h
      |ok fin=>induction fin using wX with
       |ret v=>obtain(⟨rfl,h⟩):=h;exact⟨rfl,h⟩
       |_=>exact h
    .induction v using MI.V.casesOn with
     |c x=>
      induction x using l9 with
      |none=>obtain rfl:=r;exact bH.pure (a:=(.ref (s.heap.objs.size+1):az)) (λd9 a_=>PZ.le (l.trans a_))|>.of λQ E s k=>⟨rfl,k⟩
      |_=>exact .fail
     |_=>exact .fail
   .exact .fail
 |_=>exact .fail
end
variable{pos:cn}
section
variable{M:Model}{s:aM}
theorem zm{r:List bj}(h:mA (e::r)=ae):isStar e=ai/\mA r=true:=by
 rw[acv] at h;split at h
 .exact c7 h
 .rename_i q;exact⟨q,h⟩
theorem nt:∀{as:List bj},mA as=ae->(mN pos (lF as env)).any (·.1)=ai
 |[],_=>rfl
 |e::r,h=>by refine a3 (zm h) λaa af=>G ((nB aa) _) ?_;show(ai||(backTo pos (starEach r env)).any (·.1))=false;exact G (nt af) rfl
theorem n6{f:az}{as:List bj}{Q:Args->aM->Prop}(aN:mA as=ae)
  (h:a5 M A (spliced (mN pos (lF as env))) (λaK ao=>Q ⟨aK,[]⟩ ao) E s):a5 M A (evalArgs f ae (mN pos (lF as env)) []) Q E s:=by
 induction as using es with
 |nil=>unfold evalArgs;show a5 M A (spliced []>>=_) Q E s;refine b2 (d4 h (λaK ao aA=>?_) λI I x=>x);exact iI (b2 (d3 (b2 (d3 (d3 aA)))))
 |cons e r=>refine a3 (zm aN) λaa I=>?_;rw[nB aa] at h ⊢;exact evalArgs_plain h
theorem oO{f:bj}(hf:∀o x p,f≠.Attribute o x p)(as:List bj)(pos:cn):dK (.Call f as [] pos) env=(do sy pos (<-dK f env) [] (mN pos (lF as env)) (backToKw pos (keywordEach [] env))):=by cases f<;>first|rfl|exact absurd rfl (hf _ _ _)
theorem MM{o:bj}{p:cn}{as:List bj}(aa:zE o=ae)(af:cv p.endLine pos.line=ae)(aJ:dw as.length 9=ae)(bl:mA as=ae):dK (.Call (.Attribute o x p) as [] pos) env=(do
  let gJ <-dK o env
  uJ p.atName
  let(f,first) <-sA [gJ] (su gJ x (do return (<-importBound o env).getD ae))
  sy pos f first (mN pos (lF as env)) []):=by
 obtain af:(p.endLine==pos.line)=true:=beq_iff_eq.mpr (d2 af);obtain aJ:=bA aJ;obtain eS:methodCallForm (as.length+([]:List Keyword).length) (mN pos (lF as env)) (backToKw pos (keywordEach [] env))=true:=by
  unfold methodCallForm;obtain this:(mN pos (lF as env)).all (λx=>!x.1)=true:=by obtain this:=nt (env:=env) (pos:=pos) bl;refine gM eX ?_;intro x ak;rw[List.any_eq_false] at this;obtain this:=this x ak;simpa using this
  refine G this ?_;show(ae&&ae&&decide (as.length+0+0<30))=ae;simp;exact jk (by assumption) (bA rfl)
 (rewrite[arm_eval_Call];refine G ((Ft aa) _ _) ?_);unfold methodCall;refine G eS ?_;obtain this:methodCallPos ae o env p pos=pure pos:=by unfold methodCallPos;exact G af rfl
 exact G this rfl
end
section
variable{c:bc}{ab:cI}
theorem bH.with{ah:Type}{m:M aV}{W:Wp ah}{R:aZ->aV->ah->Prop}{P:aM->Prop}(h:bH X g c β m W R)(k:∀st β s,Sat g c st β s->P s):bH X g c β m (λQ E s=>P s/\W Q E s) R:=λaW st s aa H=>
 (h aW st s aa H).of λI I x=>⟨k _ _ _ H,x⟩
theorem ME(O:g.Ok)(U:c.Ok g dep){f:az}(R:bK (a7 β) aK aH):bH X g c β (FY f aK) (dM g c (gc f aH)) a7:=by
 have one:∀{v},iD aK=C v->∃y,aH=[y]/\a7 β v y:=λq=>by
  cases lu q;cases R with
  |cons r t=>cases t;exact(bh _ rfl r)
 induction f using l9 with
 |builtin i=>refine .asks λv q=>λaW st s aa H=>.guard λh=>?_;(refine aS (one q) λy J r=>?_;(clear one R;subst J));exact G (beq_iff_eq.mp h) (abH O U r aW st s aa H)
 |type t=>
  refine .asks λv q=>?_;(refine aS (one q) λy J r=>?_;(clear one R;subst J));generalize h:(t=="str")=aD;induction aD using bZ with
  |true=>exact G (beq_iff_eq.mp h) (afX O U r)
  |false=>exact λaW st s aa H=>.guard λh=>G (beq_iff_eq.mp h) (aei O U r aW st s aa H)
 |_=>exact .fail
theorem XX(O:g.Ok)(ba:dV g aG)(U:c.Ok g ab.dep)(V:cc c ab env β)(f:bj)(hf:∀o x p,f≠.Attribute o x p)(as:List bj)(pos:cn):
  cS g c β (MJ aG g.K ab f as) (dM g c (dK (.Call f as [] pos) env)) a7:=λdP st s h0 H=>.guard λbb=>
 have bb:=(ew _ _).mp bb;have V:=V.le h0
 ((ba.ev c ab env dP f U V).bind (f:=λf=>MK aG g.K ab as f) (k:=λG8=>dM g c (sy pos G8 [] (mN pos (lF as env)) [])) λav v a l r=>.asks λG8 q=>by
  cases x2 q;obtain rfl:=r;clear q;induction a using l9 with
  |ref dp=>exact λaW st s aa H=>.guard λaw=>(((ti ba U pos as (V.le (l.trans aa))).bind (k:=λaH=>λQ E s=>g.K.In s.heap/\jG g c (.ref dp) aH Q E s) λd9 aK aH a_ rs=>((ba.ca c ab.dep d9 dp aK aH U rs.1).with λI I I H=>H.toSatO.fl U O)).of λQ E s k=>by exact Ax (P:=λh=>g.K.In h) (G (nt bb.2) rfl) (λh X=>keeps_K (PE aw) h X) (n6 bb.2 (d4 k (λaK ao h=>⟨h.1,sr h.2⟩) λI I x=>x))) aW st s (.refl _) H
  |builtin i=>exact((ti ba U pos as (V.le l)).bind (k:=λaH=>dM g c (gc (.builtin i) aH)) λd9 aK aH a_ rs=>ME O U rs.1).of λQ E s k=>by exact Ao (nt bb.2) (n6 bb.2 k)
  |type t=>exact((ti ba U pos as (V.le l)).bind (k:=λaH=>dM g c (gc (.type t) aH)) λd9 aK aH a_ rs=>ME O U rs.1).of λQ E s k=>by exact Ts (nt bb.2) (n6 bb.2 k)
  |_=>exact .fail).of (λQ E s k=>by exact G ((oO hf) _ _) (b2 k)) dP st s (.refl _) H
end
noncomputable def IZ:m1->az
 |.fn f=>.ref f
 |.append=>.builtin "list.append"
 |.extend=>.builtin "list.extend"
 |.get=>.builtin "dict.get"
 |.zR=>.builtin "dict.setdefault"
noncomputable def EU(K:b7)(y:az)(m:m1)(p:az×List az):Prop:=p=(IZ m,[y])/\∀f,m=.fn f->sE K (.ref f)=ae
variable{kh:hC Bool}
section
variable{c:bc}{ab:cI}
theorem abx{m:m1}(h:y3 x=C m)(bu:x="append"->m=.append->P)(c3:x="extend"->m=.extend->P):P:=by
 unfold y3 at h;generalize q:eqs x "append"=aD;induction aD using bZ with
 |true=>rw[q] at h;(obtain J:=aT h;clear h;(clear c3;subst J));exact bu (gu.mp q) rfl
 |false=>
  rw[q] at h;generalize cE:eqs x "extend"=aD;induction aD using bZ with
  |true=>dsimp only at h;rw[cE] at h;(obtain J:=aT h;clear h;(clear bu;subst J));exact c3 (gu.mp cE) rfl
  |false=>dsimp only at h;rw[cE] at h;exact bM h
theorem WQ{m:m1}(h:x5 x=C m)(bu:x="get"->m=.get->P)(c3:x="setdefault"->m=.zR->P):P:=by
 unfold x5 at h;generalize q:eqs x "get"=aD;induction aD using bZ with
 |true=>rw[q] at h;(obtain J:=aT h;clear h;(clear c3;subst J));exact bu (gu.mp q) rfl
 |false=>
  rw[q] at h;generalize cE:eqs x "setdefault"=aD;induction aD using bZ with
  |true=>dsimp only at h;rw[cE] at h;(obtain J:=aT h;clear h;(clear bu;subst J));exact c3 (gu.mp cE) rfl
  |false=>dsimp only at h;rw[cE] at h;exact bM h
noncomputable abbrev GM(g:cy)(c:bc)(x:aO)(kh:hC Bool)(y:az):Wp (az×List az):=λQ E s=>a5 g.M c.A (su y x kh) Q E s
theorem Qr{st:St}{s:aM}(H:Sat g c st β s){a:aF}{aH:Array az}{tW:Nat}(g1:s.heap.get? a=C (listOf aH tW)):At X g c β st s (bp n (y3 x)) (GM g c x kh (.ref a)) (λI m p=>EU g.K (.ref a) m p):=
 .oj λm q=>.ret λQ E aq=>abx q (λa9 bf=>by
  subst a9 bf;exact D2 ⟨_,g1,rfl⟩ F.plainAttrs_list F.slot_list_append F.type_list_append (λb e=>by cases e;exact(bh _ g1 rfl)) (aq _ _ β (.refl _) H ⟨rfl,λf e=>nomatch e⟩)) λa9 bf=>by subst a9 bf;exact D2 ⟨_,g1,rfl⟩ F.plainAttrs_list F.slot_list_extend F.type_list_extend (λb e=>by cases e;exact(bh _ g1 rfl)) (aq _ _ β (.refl _) H ⟨rfl,λf e=>nomatch e⟩)
theorem Qq{st:St}{s:aM}(H:Sat g c st β s){a:aF}{f_:cY}(g1:s.heap.get? a=C f_)(g2:f_.IsDictOf (strKind g.prog g.w) ay):At X g c β st s (bp n (x5 x)) (GM g c x kh (.ref a)) (λI m p=>EU g.K (.ref a) m p):=
 let⟨_,_,ex,_⟩:=g2
 .oj λm q=>.ret λQ E aq=>WQ q (λa9 bf=>by
  subst a9 bf;exact D2 ⟨_,g1,ex.1⟩ F.plainAttrs_dict F.slot_dict_get F.type_dict_get (λb e=>by cases e;exact(bh _ g1 ex.2.1)) (aq _ _ β (.refl _) H ⟨rfl,λf e=>nomatch e⟩)) λa9 bf=>by subst a9 bf;exact D2 ⟨_,g1,ex.1⟩ F.plainAttrs_dict F.slot_dict_setdefault F.type_dict_setdefault (λb e=>by cases e;exact(bh _ g1 ex.2.1)) (aq _ _ β (.refl _) H ⟨rfl,λf e=>nomatch e⟩)
theorem Rz{v:az}{a:aF}(h:Jx v=C a):v=.ref a:=by
 induction v using l9 with
 |ref b=>exact congrArg _ (c0 h)
 |_=>exact gy h
theorem ab0(O:g.Ok)(U:c.Ok g dep){v:V}(r:a7 β v y)(x:aO)(kh:hC Bool):bH X g c β (Qp g.K v x) (λQ E s=>a5 g.M c.A (su y x kh) Q E s) (λI m p=>EU g.K y m p):=λaW st s aa H=>by
 induction v using MI.V.casesOn with
 |r n=>
  (refine cz (r.le aa) λa d aU J=>?_;(clear r;subst J));refine .peek (v:=n) rfl (.og H aU λo R=>?_);induction o using MI.O.casesOn with
  |inst Cl dG=>
   obtain(⟨_,ar,m,af,aJ,bl⟩):=R;exact .guard λq=>.bp λw bf=>.bp λf cB=>.bp λk5 iM=>.guard λbb=>.ret λQ E aq=>by have q:=(ew _ _).mp q;have bb:=(ew _ _).mp bb;have k:=M3 q.1;subst cB;rw[Rz iM] at bf;exact method_fn (H.toSatO.fl U O) (Cn af aJ) k.ga k.gt (Qo bf) (beq_iff_eq.mp bb.1) (by unfold shadowIn;dsimp only;(refine G (lookIn_dict _ _ _) (G (YP bl (nM.mp q.2)) ?_));rfl) (aq _ _ aW (.refl _) H ⟨rfl,λk5 e=>by cases e;exact PE bb.2⟩)
  |list xs=>obtain(⟨_,aH,k,g1,_⟩):=R;exact Qr H g1
  |iQ k xs=>obtain(⟨_,aH,k,_,_,g1,_⟩):=R;exact Qr H g1
  |dict ar op=>obtain(⟨_,_,f_,ay,g1,g2,_⟩):=R;exact Qq H g1 g2
  |jx tW j=>obtain(⟨_,_,f_,ay,g1,g2,_⟩):=R;exact Qq H g1 g2
  |_=>exact .fail
 |_=>exact .stuck (n:=105) rfl
end
noncomputable def aZ.lj(β:aZ)(z:Int):aZ:={β with aC:=β.aC++ [z]}
theorem aZ.IJ(β:aZ)(z:Int):β.le (β.lj z):=⟨iH _,⟨[z],rfl⟩,iH _,iH _⟩
section
variable{c:bc}{ab:cI}{st:St}{s:aM}
theorem Sat.lj{b:b5}(H:Sat g c st β s)(h:b.1<=z/\z<=b.2.1/\∀j,b.2.2=C j->z<=((g.S+j:Nat):Int)):Sat g c {st with au:=st.au++ [b]} (β.lj z) s:=by refine bG H.objs λf hf=>?_;have l:=β.IJ z;refine⟨⟨H.keep,H.cw,⟨f,λn own o q=>?_⟩,H.len,⟨H.facts.aC.snoc h,H.facts.aj,H.facts.cd,H.facts.de,H.facts.ck⟩,H.ghost.trans l⟩,H.os,H.loc.le l⟩;obtain(⟨a,d,aa,af,aJ⟩):=hf n own o q;exact⟨a,d,aa,af.mono l (λI e=>e) (λI e=>e),aJ⟩
theorem Sat.PY(H:Sat g c st β s)(z:Int):bo.val (β.lj z) (.aL 0 ai st.au.length)=C z:=by
 obtain len:st.au.length=β.aC.length:=H.facts.aC.length;obtain this:(β.lj z).aC[st.au.length]? =C z:=by exact G len (List.getElem?_concat_length ..)
 simp only[bo.val,this];exact G (Ea _) rfl
noncomputable abbrev LO(g:cy)(c:bc)(f:az)(aH:List az):Wp Value:=λQ E s=>g.K.In s.heap/\a5 g.M c.A (gc f aH) Q E s
theorem agF{k:aO}{v:az}:∀{ay:List (aO×az)},a0 ay k=C v->∃x,(x,v)∈ay:=by intro ay h;unfold a0 at h;refine aS (pI.mp h) λx ak e=>?_;obtain this:=Kl ak;exact⟨x.1,by exact G (bV e) this⟩
theorem IP(O:g.Ok)(H:Sat g c st β s){gr dn:MI.O}{a:aF}{aH:Array az}{u:az}(aN:n<10000000)(bL:st.σ.get n=C (ae,gr))(aU:β.ad[n]? =C (a,a))(g1:s.heap.get? a=C (listOf aH k))(a8:aH.size<=250000)
  (R:∀(a6:aF->Option cY)(eF:Nat),a6 a=C (listOf (aH.push u) eF)->cL g a6 β a a dn)(iT:dn.qd=ai){Q:az->aM->Prop}
  (aq:∀ao,Sat g c {st with σ:=st.σ.put cU n (ae,dn)} β ao->Q .none ao):a5 g.M c.A (gc (.builtin "list.append") [.ref a,u]) Q E s:=by refine call_meets F.slot_list_append ⟨_,g1,rfl⟩ F.entry_list_append (F.args_list_append_2 _ _) (list_append a aH k u (nk (bU (by assumption) (bA rfl)))) ⟨g1,aq _ (H.turn (t:=s.toks) aN bL aU (.inl rfl) (DU ..).extBut (R _ _ (IsL.update g1 (λx=>x.push u))) iT)⟩
theorem bK.one(R:bK (a7 β) aK aH){v:V}(q:iD aK=C v)(k:∀y,aH=[y]->a7 β v y->P):P:=by
 cases lu q;cases R with
 |cons r t=>cases t;exact k _ rfl r
theorem VL(O:g.Ok)(H:Sat g c st β s){a:aF}(aU:β.ad[n]? =C (a,d)){v:V}{u:az}(du:a7 β v u):At X g c β st s (Mk n v) (dM g c (gc (.builtin "list.append") [.ref a,u])) a7:=
 .og H aU λo R=>by
  obtain br:=O.S;induction o using MI.O.casesOn with
  |list xs=>obtain(⟨g0,us,k,g1,g2⟩):=R;subst g0;obtain eG:xs.length=us.size:=g2.length;exact .guard λq=>.store λgr aN bL=>.ret λQ E aq=>IP (dn:=.list (xs++ [v])) O H aN bL aU g1 (by obtain this:=bA q;lia) (λa6 I e=>⟨rfl,_,_,e,by exact G KP (g2.snoc du)⟩) rfl λao S=>aq _ _ β (.refl _) S rfl
  |iQ abo xs=>
   obtain(⟨g0,us,k,pre,post,g1,g2,g3,eh,gv⟩):=R;subst g0;obtain eG:=eh.length;obtain fB:us.size=pre.length+post.length:=by exact G (bV wW) (G g2 (G iG rfl))
   obtain hm:most=4000:=rfl;exact .guard λq=>.store λgr aN bL=>.ret λQ E aq=>IP (dn:=.iQ abo (xs++ [v])) O H aN bL aU g1 (by obtain this:=bA q;exact bU (JR fB eG gv hm br this) (bA rfl)) (λa6 I e=>⟨rfl,_,_,pre,post++ [_],e,by(refine G KP (G g2 ?_);exact G (nP _ _ _) rfl),g3,eh.snoc du,gv⟩) rfl λao S=>aq _ _ β (.refl _) S rfl
  |_=>exact .fail
theorem Yk(H:Sat g c st β s){m:Nat}{a a2 hp:aF}(aU:β.ad[n]? =C (a,d))(n_:β.ad[m]? =C (a2,hp)):At X g c β st s (N1 n m) (dM g c (gc (.builtin "list.extend") [.ref a,.ref a2])) a7:=
 .guard λI=>.rU H aU n_ λxs aH us ws k eF g0 g1 g3 g2 eh q=>.store λgr aN bL=>.ret λQ E aq=>
  call_meets F.slot_list_extend ⟨_,g1,rfl⟩ F.entry_list_extend (F.args_list_extend_2 _ _) (PySem.AutoSeq1.list_extend_list_list_0 a us k a2 ws eF (by unfold S6;refine G kr ?_;simp;lia) (nk (by lia)) (G kr (bU (by assumption) (bA rfl))))
   (fi g1 g3 (aq _ _ β (.refl _) (H.turn (t:=s.toks) aN bL aU (.inl rfl) (DU ..).extBut ⟨g0,us++ws,_,IsL.update g1 (λx=>x++ws),by exact G Kz (g2.append eh)⟩ rfl) rfl))
theorem Yw{l:bz}{r:Option (Nat×V)}(k:Found β ay ar l r){d:V}{z:az}(nz:a7 β d z):a7 β (Oi d r) ((a0 ay (aQ l)).getD z):=by
 induction r using b3 with
 |none=>exact G k.1 nz
 |some p=>(refine a3 k λJ I=>?_;try clear k;refine aS J λy bS hR=>?_;try clear J);exact G bS hR
theorem ach{f:bo->M V}{W:Wp az}(h:j<=100000->At X g c β {st with au:=st.au++ [(0,vc,C j)]} s (f (.aL 0 ai st.au.length)) W a7):At X g c β st s ((CT j).bind f) W a7:=by
 generalize q:dw j 100000=aD;induction aD using bZ with
 |false=>exact .stuck (n:=117) (by unfold CT;exact G q rfl)
 |true=>exact At.step (bk:={st with au:=st.au++ [(0,vc,C j)]}) (by unfold CT;exact G q rfl) (h (bA q))
theorem Ow(O:g.Ok)(H:Sat g c st β s){a:aF}(aU:β.ad[n]? =C (a,d)){e:ag}{l:bz}(aX:e.val β=C l){v:V}{z:az}(nz:a7 β v z){W:Wp az}
  (h:∀(Q:az->aM->Prop)(E:az->aM->Prop) ay,s.heap.DictOf (strKind g.prog g.w) a ay->(a==ku)=ai->(∀t,Q ((a0 ay (aQ l)).getD z) {s with toks:=t})->W Q E s):At X g c β st s (Hb n e v) W a7:=
 .og H aU λo R=>by
  generalize q:o.tQ=aD;induction aD using b3 with
  |none=>exact .vg H aU λar op ay D=>.m9 H D aX λr k=>.ret λQ E aq=>h Q E ay D.D (beq_eq_false_iff_ne.mpr D.ne) λt=>aq _ _ β (.refl _) H.toks (Yw k nz)
  |some p=>
   rw[H5 q] at R;refine .bp λgU q=>.guard λen=>ach λcD=>.ret λQ E aq=>?_;cases pb q;cases d2 en;(refine cz nz λz dC a8 J=>?_;try clear nz;subst J);(obtain J:=aT a8;clear a8;subst J);obtain(⟨ja,ne,f_,ay,g1,g2,g3,eh⟩):=R;obtain br:=O.S;refine h Q E ay (vh g1 g2) (beq_eq_false_iff_ne.mpr ne) λcW=>?_;obtain big:vc=1000000:=rfl;obtain got:∃z t,(a0 ay (aQ l)).getD (.int 0 dC)=.int z t/\0<=z/\z<=((g.S+p.2:Nat):Int):=by
    generalize q:a0 ay (aQ l)=aD;induction aD using b3 with
    |none=>exact(d1 0 dC rfl (xb _) (kV _))
    |some v=>exact bG (agF q) λx ak=>g3 _ ak
   (refine fD got λz ud e fG hA=>?_;try clear got);show Q ((a0 ay (aQ l)).getD (.int 0 dC)) _;exact G e (aq _ _ (β.lj z) (β.IJ z) (Sat.toks (H.lj (fi fG (by show z<=vc;exact gk hA (gk (jn.mpr (bU (mP br cD) (bA rfl))) (show((1000000:Nat):Int)<=vc from uC big.symm))) (λCw cq=>by(obtain J:=aT cq;clear cq;subst J);exact hA)))) ⟨z,ud,H.PY z,rfl⟩)
theorem afy(O:g.Ok)(H:Sat g c st β s){a:aF}(aU:β.ad[n]? =C (a,d)){e:ag}{l:bz}{t:Tok}(aX:e.val β=C l){v:V}{z:az}(nz:a7 β v z):At X g c β st s (RO n e v) (dM g c (gc (.builtin "dict.setdefault") [.ref a,.str (aQ l) t,z])) a7:=
 .vg H aU λar op ay D=>.guard λa8=>.m9 H D aX λr k=>by
  obtain br:=O.S;obtain a8:ar.length<=4000:=bA a8;obtain O2:qG g.S op<=g.S:=by cases op<;>simp[qG]
  obtain eT:=D.jb;have wF:=nk (n:=ay.length) (bU eT (bU (mP a8 (bU O2 br)) (bA rfl)));have ne:=beq_eq_false_iff_ne.mpr D.ne;induction r using b3 with
  |none=>
   refine .store λgr aN bL=>.ret λQ E aq=>Eg F.slot_dict_setdefault D.D.typeIs F.entry_dict_setdefault (F.args_dict_setdefault_3 _ _ _) (kt_meets_setdefault (strKind g.prog g.w) a (nC g l t) ne _) (l4 _ D.D wF (λv bJ=>?_) (λI aA hd iy=>?_))
   .rw[k.1] at bJ;exact bM bJ
   .exact aS (sl.mp hd) λkL bY c5=>aq _ _ β (.refl _) (H.turn (t:=s.toks+1) aN bL aU (.inl rfl) iy.extBut (Gs (q:=none) D.ja D.ne D.g3 D.eh D.gv D.jb aX nz bY c5 k) rfl) nz
  |some p=>
   (refine a3 k λJ I=>?_;try clear k;refine aS J λjY bS hR=>?_;try clear J);refine .ret λQ E aq=>Eg F.slot_dict_setdefault D.D.typeIs F.entry_dict_setdefault (F.args_dict_setdefault_3 _ _ _) (kt_meets_setdefault (strKind g.prog g.w) a (nC g l t) ne _) (l4 _ D.D wF (λv bJ=>?_) (λaN=>?_))
   .rw[bS] at bJ;(obtain J:=aT bJ;clear bJ;subst J);exact aq _ _ β (.refl _) H.toks hR
   .rw[bS] at aN;exact zH aN
theorem Wg(O:g.Ok)(ba:dV g aG)(U:c.Ok g dep){m:m1}{self:V}(r:a7 β self y)(R:bK (a7 β) aK aH):cS g c β (MH aG g.K dep m self aK) (LO g c (IZ m) (y::aH)) a7:=by
 refine bH.with ?_ λI I I H=>H.toSatO.fl U O;cases m with
 |fn f=>exact(ba.ca c dep β _ _ _ U (.cons r R)).of λQ E s k=>sr k
 |append=>exact λaW st s aa H=>.du (W:=λy=>dM g c (gc (.builtin "list.append") (y::aH))) (r.le aa) λn a d aU=>.bp λv q=>R.one q λy e du=>by(clear R;subst e);exact VL O H aU (du.le aa)
 |extend=>
  exact λaW st s aa H=>.du (W:=λy=>dM g c (gc (.builtin "list.extend") (y::aH))) (r.le aa) λn a d aU=>.bp λv q=>R.one q λy e du=>by(clear R;subst e);exact .du (W:=λy=>dM g c (gc (.builtin "list.extend") [.ref a,y])) (du.le aa) λm a2 hp n_=>Yk H aU n_
 |get=>
  exact λaW st s aa H=>.du (W:=λy=>dM g c (gc (.builtin "dict.get") (y::aH))) (r.le aa) λn a d aU=>by
   cases R with
   |nil=>exact .fail
   |cons Jz t=>
    refine .ck (W:=λk=>dM g c (gc (.builtin "dict.get") (.ref a::k::_))) (Jz.le aa) λe l u aX=>?_;cases t with
    |nil=>exact Ow O H aU aX (v:=nF) rfl λQ E ay D ne k=>Eg F.slot_dict_get D.typeIs F.entry_dict_get (F.args_dict_get_2 _ _) (meets_dict_get (strKind g.prog g.w) a (nC g l u) ne) (bh _ D.mapOf (k _))
    |cons nz t=>refine .bp λI q=>?_;cases lq q;cases t;exact Ow O H aU aX (nz.le aa) λQ E ay D ne k=>Eg F.slot_dict_get D.typeIs F.entry_dict_get (F.args_dict_get_3 _ _ _) (meets_dict_get_default (strKind g.prog g.w) a (nC g l u) ne _) (bh _ D.mapOf (k _))
 |zR=>
  exact λaW st s aa H=>.du (W:=λy=>dM g c (gc (.builtin "dict.setdefault") (y::aH))) (r.le aa) λn a d aU=>.bp λw q=>by
   cases ug q;cases R with
   |cons Jz t=>
    cases t with
    |cons nz t=>cases t;exact .ck (W:=λk=>dM g c (gc (.builtin "dict.setdefault") [.ref a,k,_])) (Jz.le aa) λe l u aX=>afy O H aU aX (nz.le aa)
theorem XY(O:g.Ok)(ba:dV g aG)(U:c.Ok g ab.dep)(V:cc c ab env β)(o:bj)(x:aO)(p q:cn)(as:List bj):cS g c β (MD aG g.K ab o x p as q) (dM g c (dK (.Call (.Attribute o x p) as [] q) env)) a7:=λdP st s h0 H=>.guard λbb=>
 have aa:=(ew _ _).mp bb;have af:=(ew _ _).mp aa.2;have aJ:=(ew _ _).mp af.2;have V:=V.le h0
 ((ba.ev c ab env dP o U V).bind (k:=λy=>λQ E s=>a5 g.M c.A (su y x (do return (<-importBound o env).getD ae)) (λn9 bg=>a5 g.M c.A (sy q n9.1 n9.2 (mN q (lF as env)) []) Q E bg) E s) λav v y l r=>
  (ab0 O U r x _).bind (k:=λn9=>dM g c (sy q n9.1 n9.2 (mN q (lF as env)) [])) λd9 m n9 a_ zf=>by
   (refine a3 zf λJ mk=>?_;try clear zf;subst J);refine bH.of ((ti ba U q as (V.le (l.trans a_))).bind (k:=λaH=>LO g c (IZ m) (y::aH)) λh2 aK aH hZ rs=>Wg O ba U (r.le (a_.trans hZ)) rs.1) λQ E s k=>?_;have kh:=nt (env:=env) (pos:=q) aJ.2;cases m with
   |fn f=>exact Ax (P:=λh=>g.K.In h) (G kh rfl) (λh X=>keeps_K (mk f rfl) h X) (n6 aJ.2 k)
   |_=>exact Ao kh (n6 aJ.2 (d4 k (λI I x=>x.2) λI I x=>x))).of (λQ E s k=>by exact G (MM aa.1 af.1 aJ.1 aJ.2) (b2 (d4 k (λgJ bg dq=>b2 (kX (b2 (iI dq)))) λI I x=>x))) dP st s (.refl _) H
end
noncomputable def Co:bj->Bool
 |.ListComp ..=>ae
 |.DictComp ..=>ae
 |_=>ai
noncomputable def GL(e:bj)(a:aF)(env:hB):hC Unit:=match e with
 |.ListComp elt _ _ _=>(do let _ <-gc (.builtin "list.append") [.ref a,<-dK elt env])
 |.DictComp k v _ _ _=>(do
    let dm <-dK k env;let i2 <-sA [dm] (dK v env)
    uJ {k.pos with endLine:=v.pos.endLine,endCol:=v.pos.endCol}
    sA [dm,i2] (dictSet a dm i2))
 |_=>pure ()
noncomputable abbrev sb(ifs:List bj)(env:hB)(b:Bool):hC Bool:=forIn ifs b λc r=>if r=ae then do let ok <-uM c env (dK c env);pure (w4 ok) else pure (w4 r)
noncomputable def rR(M:Model)(A:oA)(e:bj)(k:Nat)(a:aF)(env:hB)(Q:Unit->aM->Prop)(E:az->aM->Prop)(s:aM):Prop:=match(clauses e)[k+1]? with
 |none=>a5 M A (GL e a env) Q E s
 |some bq=>bq.is_async=0/\isSet bq.iter=ai/\a5 M A (dK bq.iter env) (λx jg=>a5 M A (oB x) (λit r_=>ft M A (.compStart e (k+1) it (.ref a) env) (λr ao=>match r with
   |.ok _=>Q () ao
   |.error e=>nJ M A env E e ao) r_) E jg) E s
theorem yc(h:isSet e=ai)(env:hB)(x:az):foldedSetIterable e env x=pure x:=by cases e<;>first|rfl|exact jB h
@[elab_as_elim] theorem Cp {Q:bj->Prop} (h:Co e=ae) (bu:∀a b c d,Q (.ListComp a b c d)) (c3:∀k a b c d,Q (.DictComp k a b c d)):Q e:=by
 cases e with
 |ListComp=>exact bu ..
 |DictComp=>exact c3 ..
 |_=>exact c7 h
variable{ifs:List bj}
section
variable{s:aM}
set_option tactic.hygienic true in
theorem WB(he:Co e=ae){t iter:bj}{it a:aF}(aw:(clauses e)[k]? =C ⟨t,iter,ifs,0⟩)
  (h:a5 (c8 prog w) A (pyNext (.ref it)) (λr bg=>match r with
   |none=>R (.ok .next) bg
   |some v=>a5 (c8 prog w) A (D8 t (.ref it) v) (λ_ b0=>a5 (c8 prog w) A (mQ t env v) (λ_ dB=>a5 (c8 prog w) A (sb ifs env ae) (λok fh=>
     if ok=ae then rR (c8 prog w) A e k a env (λ_ jg=>ft (c8 prog w) A (.compLoop e k (.ref it) (.ref a) env) R jg) (iF (c8 prog w) A env λe ao=>R (.error e) ao) fh
     else ft (c8 prog w) A (.compLoop e k (.ref it) (.ref a) env) R fh) (iF (c8 prog w) A env λe ao=>R (.error e) ao) dB) (iF (c8 prog w) A env λe ao=>R (.error e) ao) b0) (iF (c8 prog w) A env λe ao=>R (.error e) ao) bg) (iF (c8 prog w) A env λe ao=>R (.error e) ao) s):
  ft (c8 prog w) A (.compLoop e k (.ref it) (.ref a) env) R s:=by
 refine Ap ?_;obtain key:a5 (c8 prog w) A ((compTurn e k (.ref it) (.ref a) env).onRaise (λx=>do q0 x env;Ld x)) (λfin ao=>match fin with|.done f=>R (.ok f) ao|.again bI=>bI.quiet=ae/\ft (c8 prog w) A bI R ao) (λe ao=>R (.error e) ao) s:=by
  refine wpAny_noted ?_;unfold compTurn;split;rename_i gens em b6;obtain B7:gens=clauses e/\em=GL e a env:=by clear h;revert b6;exact Cp he (λ_ _ _ _ b6=>by(refine a3 (eD b6) λJ bT=>?_;clear b6;subst J;subst bT);exact⟨rfl,rfl⟩) (λ_ _ _ _ _ b6=>by(refine a3 (eD b6) λJ bT=>?_;clear b6;subst J;subst bT);exact⟨rfl,rfl⟩)
  clear b6;(refine a3 B7 λJ bT=>?_;try clear B7;subst J;subst bT);refine G aw (b2 (kX (b2 (d4 h (λr bg dq=>?_) λ_ _ e=>e))));induction r using b3 with
  |none=>exact d3 dq
  |some v=>
   refine b2 (d4 dq (λ_ b0 fz=>b2 (d4 fz (λ_ dB kF=>b2 (d4 kF (λok fh iP=>?_) λ_ _ e=>e)) λ_ _ e=>e)) λ_ _ e=>e);induction ok using bZ with
   |false=>exact d3 ⟨rfl,iP⟩
   |true=>
    rw[if_pos rfl] at iP;refine G (if_pos rfl) ?_;unfold rR at iP;generalize q:((clauses e)[k+1]?)=aD;induction aD using b3 with
    |none=>rw[q] at iP;exact b2 (d4 iP (λ_ jg vH=>d3 ⟨rfl,vH⟩) λ_ _ e=>e)
    |some bq=>
     rw[q] at iP;refine fO iP λa1 a2 iP=>b2 (d4 iP (λx jg vH=>b2 (kX ?_)) λ_ _ e=>e);refine G a1 ?_;(refine G (if_neg (by exact sj)) (G ((yc a2) _ _) ?_));refine b2 (d3 (b2 (iI (d4 vH (λit r_ aap=>b2 (wpAny_runOwn (uF aap λr ao cb=>?_))) λ_ _ e=>e))));induction r using uy with
     |ok f=>exact d3 ⟨rfl,cb⟩
     |error e=>exact cb
 clear h aw;revert key;exact Cp he (λ_ _ _ _ k=>k) (λ_ _ _ _ _ k=>k)
end
section
variable{s:aM}
theorem xW(he:Co e=ae){t iter:bj}{it acc:az}(aw:(clauses e)[k]? =C ⟨t,iter,ifs,0⟩)
  (h0:ft (c8 prog w) A (.compLoop e k it acc env) R s)
  (h:∀(Q:az->aM->Prop)(E:az->aM->Prop),Q it s->a5 (c8 prog w) A (oB it) Q E s):
  ft (c8 prog w) A (.compStart e k it acc env) R s:=by
 refine Ap ?_;obtain key:a5 (c8 prog w) A ((compStart e k it acc env).onRaise (λx=>do q0 x env;uJ theWindowsPlace)) (λfin ao=>match fin with|.done f=>R (.ok f) ao|.again bI=>bI.quiet=ae/\ft (c8 prog w) A bI R ao) (λe ao=>R (.error e) ao) s:=by
  refine wpAny_notedAt ?_;obtain tF:(Es e)[k]? =C ⟨t,iter,ifs,0⟩:=by clear h h0;revert aw;exact Cp he (λI I I I k=>k) (λI I I I I k=>k)
  unfold compStart;refine G tF ?_;show a5 _ _ (ask>>=_) _ _ s;refine b2 (wpAny_askSetting (wpAny_ite ?_));split
  .first
    |exact wpAny_bind (wpAny_pure (wpAny_pure (And.intro rfl h0)))
    |exact wpAny_pure (And.intro rfl h0)
  .first
    |exact wpAny_bind (wpAny_rule (wpAny_bind (wpAny_standAt (wpAny_bind (h _ _ (wpAny_pure (And.intro rfl h0)))))))
    |(refine wpAny_bind (wpAny_rule ?_);show wpAny _ _ (standAt iter.pos>>=_) _ _ s;exact wpAny_bind (wpAny_standAt (wpAny_bind (h _ _ (wpAny_pure (And.intro rfl h0))))))
 clear h h0 aw;revert key;exact Cp he (λI I I I k=>k) (λI I I I I k=>k)
theorem R6:∀(ifs:List bj){Q:Bool->aM->Prop},Q ai s->a5 (c8 prog w) A (sb ifs env ai) Q E s
 |[],_,h=>d3 h
 |c::r,_,h=>by unfold sb;exact G (K3 _ _ _ _) (G (if_neg (by exact sj)) (b2 (d3 (R6 r h))))
end
variable{acc:Nat}
section
variable{c:bc}{ab:cI}{st:St}{s:aM}
theorem Ik(H:Sat g c st β s){a:aF}(e:st.at n=C o)(aU:β.ad[n]? =C (a,d))(bN:isIt o=ae){Q:az->aM->Prop}(h:Q (.ref a) s):a5 g.M c.A (oB (.ref a)) Q E s:=by
 obtain(⟨dp,ec,aa,R⟩):=H.obj e;rw[aU] at aa;(obtain J:=aT aa;clear aa;refine a3 (eD J) λbT cu=>?_;clear J;subst bT;subst cu);clear e;induction o using MI.O.casesOn with
 |it n i=>obtain(⟨_,l,ec,o,_,g1,g2,g3⟩):=R;exact wpAny_pyIter_listiter (l:=l) (i:=i) ⟨o,g1,g2,g3⟩ h
 |nh n i=>obtain(⟨_,l,ec,o,_,g1,g2,g3⟩):=R;exact wpAny_pyIter_tupleiter (t:=l) (i:=i) ⟨o,g1,g2,g3⟩ h
 |itR i left=>(refine a3 R λI g1=>?_;try clear R);exact wpAny_pyIter_rangeiter (x:=i) (left:=left) (step:=1) g1 h
 |_=>exact c7 bN
theorem Pd(ba:dV g aG)(U:c.Ok g ab.dep):∀(ifs:List bj){β:aZ},cc c ab env β->cS g c β (yO aG ab ifs) (λQ E s=>a5 g.M c.A (sb ifs env ae) Q E s) (λI b dE=>dE=b)
 |[],β,V=>bH.of (bH.pure (v:=ae) (a:=ae) (R:=λI b dE=>dE=b) λI I=>rfl) λQ E s k=>d3 k
 |e::r,β,V=>by
  show bH fW g c β ((aG.eM ab e).bind λt=>match t with
   |true=>yO aG ab r
   |false=>M.pure ai) _ _
  refine bH.of ((ba.eM c ab env β e U V).bind (k:=λb=>λQ E s=>a5 g.M c.A (sb r env b) Q E s) λav v b l e=>?_) λQ E s k=>?_
  .subst e;induction b using bZ with
   |true=>exact Pd ba U r (V.le l)
   |false=>exact bH.of (bH.pure (v:=ai) (a:=ai) (R:=λI b dE=>dE=b) λI I=>rfl) λQ E s k=>R6 r k
  .unfold sb;(refine G (K3 _ _ _ _) (G (if_pos rfl) ?_));exact b2 (b2 (d4 k (λb ao aB=>d3 aB) λI I x=>x))
theorem Xh(O:g.Ok)(U:c.Ok g dep){a:aF}{b v:V}{z:az}(aU:β.ad[n]? =C (a,d))(dy:a7 β b y)(du:a7 β v z):bH X g c β (dictPut n b v) (λQ E s=>a5 g.M c.A (dictSet a y z) Q E s) (λI I I=>True):=λaW st s aa H=>
 .ck (W:=λy=>λQ E s=>a5 g.M c.A (dictSet a y z) Q E s) (dy.le aa) λe l t aX=>Rm O H (a4 aa.ad aU) aX (du.le aa) λQ E ay D ne wF k=>wpAny_dictSet_pairs (nC g l t) D (λaA hd iy=>k aA _ hd iy) (nk wF)
theorem XC(O:g.Ok)(ba:dV g aG)(U:c.Ok g ab.dep)(V:cc c ab env β)(e:bj){a:aF}(aU:β.ad[acc]? =C (a,d)):cS g c β (emit aG ab e acc) (λQ E s=>a5 g.M c.A (GL e a env) Q E s) (λ_ _ _=>True):=by
 unfold emit;cases e with
 |ListComp elt gens scope pos=>
  refine bH.of ((ba.ev c ab env β elt U V).bind (k:=λy=>λ(Q:Unit->aM->Prop) E s=>a5 g.M c.A (gc (.builtin "list.append") [.ref a,y]) (λ_ ao=>Q () ao) E s) λav v y l r=>?_) λQ E s k=>b2 (d4 k (λ_ _ h=>b2 (d4 h (λ_ _ h=>d3 h) λ_ _ e=>e)) λ_ _ e=>e);intro aW st s aa H;obtain br:=O.S;have aU:=a4 (l.trans aa).ad aU;obtain r:=r.le aa;refine .og H aU λo R=>?_;induction o using MI.O.casesOn with
  |list xs=>
   obtain(⟨g0,us,k,g1,g2⟩):=R;subst g0;obtain eG:=g2.length;simp only[wW] at eG;dsimp only;split
   .rename_i q;obtain q:=bA q;refine .zT λgr aN bL Q E aq=>IP O H aN bL aU g1 (by lia) ?_ ?_ λao S=>aq _ _ aW (.refl _) S trivial
    .exact λa6 _ e=>⟨rfl,_,_,e,by exact G KP (g2.snoc r)⟩
    .rfl
   .exact .fail
  |_=>exact .fail
 |DictComp dc SJ gens scope pos=>
  refine bH.of ((ba.ev c ab env β dc U V).bind (k:=λdm=>λ(Q:Unit->aM->Prop) E s=>a5 g.M c.A (dK SJ env) (λi2 ao=>a5 g.M c.A (dictSet a dm i2) Q E ao) E s) λav v y l r=>(ba.ev c ab env av SJ U (V.le l)).bind λd9 gA jY a_ g9=>Xh O U (a4 (l.trans a_).ad aU) (r.le a_) g9)
   λQ E s k=>b2 (d4 k (λ_ _ h=>b2 (iI (d4 h (λ_ _ h=>b2 (kX (iI h))) λ_ _ e=>e))) λ_ _ e=>e)
 |_=>exact .fail
end
theorem vL{d:Nat}{x:uB}(h:(clauses e)[d]? =C x):Co e=true:=by
 cases e with
 |ListComp=>rfl
 |DictComp=>rfl
 |_=>exact nomatch(show(none:Option uB)=C x from h)
section
variable{c:bc}{ab:cI}{st:St}{s:aM}
theorem aaA(O:g.Ok)(ba:dV g aG)(U:c.Ok g ab.dep)(dN:ab.dep<400)(V:cc c ab env β)(e:bj)(k:Nat){a:aF}(aU:β.ad[acc]? =C (a,d)):
  cS g c β (Cm aG ab e k acc) (λQ E s=>rR g.M c.A e k a env Q E s) (λ_ _ _=>True):=by
 unfold Cm;refine G (fY _ _) ?_;generalize aq:((clauses e)[k+1]?)=aD;induction aD using b3 with
 |some q=>
  obtain(⟨t,iter,ifs,qq⟩):=q;dsimp only;generalize bb:(kA qq 0&&!isSet iter)=aD;induction aD using bZ with
  |false=>exact .fail
  |true=>
   obtain rfl:qq=0:=aR ((x8 ..).symm.trans (bR bb));obtain tM:isSet iter=false:=by obtain this:=bB bb;generalize h:isSet iter=aD;induction aD using bZ with|true=>rw[h] at this;exact c7 this|false=>rfl
   refine bH.of ((ba.ev c ab env β iter U V).bind (k:=λx=>λ(Q:Unit->aM->Prop) E s=>a5 g.M c.A (oB x) (λit r_=>ft g.M c.A (.compStart e (k+1) it (.ref a) env) (λr ao=>match r with
     |.ok _=>Q () ao
     |.error e=>nJ g.M c.A env E e ao) r_) E s) (cC:=λ_ _ _=>True) λav v y l r=>?_) λQ E s fg=>?_
   .refine(yU O U r).bind (k:=λit=>λ(Q:Unit->aM->Prop) E s=>ft g.M c.A (.compStart e (k+1) it (.ref a) env) (λr ao=>match r with
     |.ok _=>Q () ao
     |.error e=>nJ g.M c.A env E e ao) s) λd9 m it a_ l2=>?_
    (refine cz l2 λb ec J aB=>?_;try clear l2;subst J);intro aW st s aa H;refine .load H λo dp Ni bw fo _=>?_;rw[a4 aa.ad aB] at fo;(obtain J:=aT fo;clear fo;refine a3 (eD J) λbT cu=>?_;clear J;subst bT;subst cu);split
    .rename_i bN;have lt:=(l.trans a_).trans aa;obtain cl:=((ba.cl c ab env aW e (k+1) m acc b ec a d U dN (V.le lt) (a4 aa.ad aB) (a4 lt.ad aU)).back (env:=env) U).bind (f:=λu=>M.pure u) (ej:=Unit) (k:=λ_=>λQ _ s=>Q () s) (cC:=λ_ _ _=>True) λ_ u _ _ _=>bH.pure λ_ _=>trivial;rw[bind_pure] at cl;refine(cl aW st s (.refl _) H).of λQ E fg=>xW (vL aq) aq (uF fg λr ao h=>?_) λQ E h=>Ik H bw (a4 aa.ad aB) bN h;induction r using uy with
     |ok f=>exact h
     |error e=>exact h
    .exact .fail
   .unfold rR;exact G aq (fi rfl tM fg)
 |none=>refine bH.of (XC O ba U V e aU) λQ E s fg=>?_;unfold rR;exact G aq fg
theorem Ww(O:g.Ok)(ba:dV g aG)(U:c.Ok g ab.dep)(dN:ab.dep<400)(V:cc c ab env β)(e:bj)(k:Nat){a eg fK:aF}(aN:β.ad[n]? =C (a,d))(aU:β.ad[acc]? =C (eg,fK)):
  rp g c β (F7 aG g.K ab e k n acc) (jq g c (.compLoop e k (.ref a) (.ref eg) env)) (λI I I=>True):=by
 unfold F7;refine G (fY _ _) ?_;generalize aq:(clauses e)[k]? =aD;induction aD using b3 with
 |none=>exact .fail
 |some q=>
  obtain(⟨t,iter,ifs,qq⟩):=q;dsimp only;generalize bb:kA qq 0=aD;induction aD using bZ with
  |false=>exact .fail
  |true=>
  obtain rfl:qq=0:=aR ((x8 ..).symm.trans bb);obtain key:=(bH.qx U V (QE (X:=fW) U dN aN)).bind (X:=Told) (f:=λr=>match r with
   |none=>M.pure ()
   |some v=>(MI.assign aG g.K ab t v).bind λI=>(yO aG ab ifs).bind λok=>(match ok with
    |false=>M.pure ()
    |true=>Cm aG ab e k acc:M Unit).bind λI=>aG.cl ab e k n acc) (k:=λr=>λ(Q:fH->aM->Prop) E bg=>match r with
    |none=>Q .next bg
    |some y=>a5 g.M c.A (mQ t env y) (λI dB=>a5 g.M c.A (sb ifs env ae) (λok fh=>
     if ok=ae then rR g.M c.A e k eg env (λI jg=>jq g c (.compLoop e k (.ref a) (.ref eg) env) Q E jg) (iF g.M c.A env E) fh
     else jq g c (.compLoop e k (.ref a) (.ref eg) env) Q E fh) (iF g.M c.A env E) dB) (iF g.M c.A env E) bg) (cC:=λI I I=>True) λav o r l rel=>by
   induction o using b3 with
   |none=>
    induction r using b3 with
    |none=>exact bH.pure λI I=>trivial
    |some y=>exact rel.elim
   |some v=>
    induction r using b3 with
    |none=>exact rel.elim
    |some y=>
     obtain rel:a7 av v y:=rel;refine(bH.qx U (V.le l) (Fq O ba U (V.le l) t rel)).bind (X:=Told) (k:=λI=>λ(Q:fH->aM->Prop) E dB=>a5 g.M c.A (sb ifs env ae) (λok fh=>
      if ok=ae then rR g.M c.A e k eg env (λI jg=>jq g c (.compLoop e k (.ref a) (.ref eg) env) Q E jg) (iF g.M c.A env E) fh
      else jq g c (.compLoop e k (.ref a) (.ref eg) env) Q E fh) (iF g.M c.A env E) dB) λd9 I I a_ I=>?_
     have sV:=(V.le l).le a_;refine(bH.qx U sV (Pd ba U ifs sV)).bind (X:=Told) (k:=λok=>λ(Q:fH->aM->Prop) E fh=>
      if ok=ae then rR g.M c.A e k eg env (λI jg=>jq g c (.compLoop e k (.ref a) (.ref eg) env) Q E jg) (iF g.M c.A env E) fh
      else jq g c (.compLoop e k (.ref a) (.ref eg) env) Q E fh) λh2 ok ac1 hZ XF=>?_
     subst XF;have E5:=sV.le hZ;have lt:=(l.trans a_).trans hZ;have again:∀{pL:aZ},h2.le pL->bH Told g c pL (aG.cl ab e k n acc) (jq g c (.compLoop e k (.ref a) (.ref eg) env)) (λI I I=>True):=λjA=>ba.cl c ab env _ e k n acc a d eg fK U dN (E5.le jA) (a4 (lt.trans jA).ad aN) (a4 (lt.trans jA).ad aU);induction ac1 using bZ with
     |false=>exact(again (.refl _)).of λQ E s fg=>by simpa using fg
     |true=>refine((bH.qx U E5 (aaA O ba U dN E5 e k (a4 lt.ad aU))).bind (X:=Told) (k:=λI=>jq g c (.compLoop e k (.ref a) (.ref eg) env)) λpL I I jA I=>again jA).of λQ E s fg=>by simpa using fg
  refine bH.of key λQ E s fg=>WB (R:=λr ao=>match r with|.ok f=>Q f ao|.error e=>E e ao) (vL aq) aq (d4 fg (λr bg dq=>?_) λI I e=>e);induction r using b3 with
  |none=>exact dq
  |some y=>exact dq t
end
variable{scope:pG}
section
variable{c:bc}{ab:cI}{st:St}{s:aM}
theorem I5(O:g.Ok)(U:c.Ok g dep)(H:Sat g c st β s)(aN:st.no<10000000):
  Sat g c {st with σ:=st.σ.put cU st.no (ae,.dict [] none),no:=st.no+1} (β.new s.heap.objs.size s.heap.objs.size) {s with heap:=s.heap.push {cls:=.type "dict",data:=.dict #[]},toks:=t}/\a7 (β.new s.heap.objs.size s.heap.objs.size) (.r st.no) (.ref s.heap.objs.size):=by refine⟨H.oN U aN (λI I e=>f5 _ e) (dO _) (dO _) ?_ rfl,⟨_,_,by exact G (bV H.len) (β.lp _ _),rfl⟩⟩;refine aS (sl.mp (TG (knd:=strKind g.prog g.w) s.heap)) λo aa af=>⟨rfl,pB (H.toSatO.low U O),o,[],aa,af,λe he=>(nomatch he),.nil,λk aw=>absurd rfl aw,l5 _⟩
theorem X1(O:g.Ok)(U:c.Ok g ab.dep)(pos:cn):cS g c β ((alloc (.dict [] none)).bind λn=>M.pure (.r n)) (dM g c (dK (.Dict [] [] pos) env)) a7:=by intro aW st s aa H;exact .alloc λaN=>.ret λQ E aq=>a3 (I5 (t:=s.toks) O U H aN) λpU rm=>G (eval_Dict_empty _) (b2 (kX (wpAny_newObj_type (aq _ _ _ (aW.gI _ _) pU rm))))
noncomputable def pM(β:aZ):List (aO×Nat)->List (aO×aF)->Prop:=bK λe f=>e.1=f.1/\∃d,β.ad[e.2]? =C (f.2,d)
theorem pM.look{l:List (aO×Nat)}{m:List (aO×aF)}(R:pM β l m)(h:k3 x l=C n):∃a d,m.lookup x=C a/\β.ad[n]? =C (a,d):=by
 induction R with
 |nil=>exact bM h
 |@cons e DN l m r t bF=>
  obtain(⟨y,a⟩):=DN;obtain(⟨da,d,dA⟩):=r;replace h:(match eqs e.1 x with|true=>C e.2|false=>k3 x l)=C n:=h;refine G nQ ?_;generalize q:eqs e.1 x=aD;induction aD using bZ with
  |true=>
   rw[q] at h;(obtain J:=aT h;clear h;(clear bF;subst J));obtain this:(x==y)=true:=by exact gM beq_iff_eq (G (bV (gu.mp q)) da)
   exact G this (gi a d rfl dA)
  |false=>rw[q] at h;obtain this:(x==y)=false:=beq_eq_false_iff_ne.mpr λz=>oU.mp q (da.trans z.symm);exact G this (bF h)
set_option tactic.hygienic true in
theorem F8(V:cc c ab env β):∀(names:List (aO×hl))(acc:List (aO×Nat))(j6:List (aO×aF)){r:List (aO×Nat)},pM β acc j6->oP ab.cells names acc=C r->
  ∃ph,pM β r ph/\(forIn names j6 λx cs=>(do
   if(x.2==.free)=ae then do
    let a <-cellOf env x.1
    pure (w4 ((x.1,a)::cs))
   else pure (w4 cs):hC (ForInStep (List (aO×aF)))))=pure ph
 |[],acc,j6,r,R,h=>by(obtain J:=aT h;clear h;subst J);exact(bh j6 R rfl)
 |(x,eU)::t,acc,j6,r,R,h=>by
  rw[Wx] at h;dsimp only at h;refine G (K3 _ _ _ _) ?_;by_cases hf:eU=.free
  .subst hf;dsimp only at h;split at h
   .rename_i n aN;refine cz (V.cells x n aN) λa d aa af=>?_;obtain bF:=F8 V t ((x,n)::acc) ((x,a)::j6) (.cons ⟨rfl,d,af⟩ R) h;(refine aS bF λph lW rQ=>?_;try clear bF);refine(bh ph lW (G (if_pos (beq_self_eq_true NameKind.free)) ?_));unfold cellOf;refine G aa ?_;simp only[pure_bind];exact rQ
   .exact bM h
  .have:(eU==NameKind.free)=false:=by simpa using hf
   (refine G this (G (if_neg (by exact sj)) ?_));simp only[pure_bind];refine F8 V t acc j6 R ?_;cases eU<;>first|exact h|exact absurd rfl hf
theorem MY(V:cc c ab env β){r:List (aO×Nat)}(h:oP ab.cells scope.names []=C r):∃ph,pM β r ph/\closureFor scope env=pure ph:=by
 refine aS (F8 V scope.names [] [] .nil h) λph aa af=>(bh ph aa ?_);unfold closureFor;obtain this:(forIn scope.names ([]:List (aO×aF)) λx cs=>(do
   if(x.2==.free)=ae then do
    let a <-cellOf env x.1
    pure (w4 ((x.1,a)::cs))
   else pure (w4 cs):hC (ForInStep (List (aO×aF)))))>>=(λcs=>pure cs)=pure ph:=by exact G af rfl
 exact this
theorem RA(V:cc c ab env β)(scope:pG):l6 scope env={scope with names:=ou ab.scope.names scope.names}:=by
 unfold l6 ou;congr 1;refine Tx λx I=>?_;obtain(⟨n,k⟩):=x;dsimp only;(refine G V.kind (G (V.kindOf _) ?_));cases k<;>try rfl
 dsimp only;generalize q:gR n ab.scope.names=aD;induction aD using b3 with
 |none=>rfl
 |some eU=>cases eU<;>rfl
theorem Sat.II{o:cY}{L:aF}{ar:Array hT}(ek:(c.enter L o fr A).Ok g dep)(ix:(c.enter L o fr A).Apart)(H:Sat g (c.enter L o fr A) st β s)(bL:qS L s.heap aA)(hd:o.data=.dict ar fm)(aw:xe ar)
  (cb:∀x v,ed x f6=C v->∃y,sD ar x=C y/\a7 β v y):Sat g c {st with loc:=f6} β {s with heap:=aA,toks:=t}:=by have oG:SatO g (c.enter L o fr A) {st with loc:=[]} β aA:=SatO.local (f6:=[]) ek ix H.toSatO bL.extBut;obtain this:=oG.leave (f6:=f6);refine⟨this,H.os,?_⟩;exact bG (oG.cw (c.L,o) (.head _)) λde e=>⟨_,⟨_,ar,fm,e,hd,aw,λI=>rfl⟩,cb⟩
end
section
variable{c:bc}{ab:cI}{st:St}{s:aM}
noncomputable def xi(g:cy)(c:bc)(acc:MI.O)(ke:hC az):Prop:=∀(st:St)(β:aZ)(s:aM)(Q:az->aM->Prop)(E:az->aM->Prop),Sat g c st β s->st.no<10000000->
 (∀ao av y a d,β.le av->Sat g c {st with σ:=st.σ.put cU st.no (ae,acc),no:=st.no+1} av ao->y=.ref a->av.ad[st.no]? =C (a,d)->Q y ao)->a5 g.M c.A ke Q E s
theorem agV{β:Type}(m:M aV)(b:β):((kR f6 m).bind λI=>M.pure b) st=(match m {st with loc:=f6} with
   |.fail n=>.fail n
   |.ok _ bk=>.ok b {bk with loc:=st.loc}
   |.ex bk=>.ex {bk with loc:=st.loc}):=by unfold M.bind kR;cases m {st with loc:=f6}<;>rfl
theorem bH.Q1{ah:Type}{v:d8}{f:d8->M aV}{W:Wp ah}{R:aZ->aV->ah->Prop}(h:bH X g c β (f v) W R):bH X g c β ((bp n (C v)).bind f) W R:=λaW st s aa H=>At.peek (v:=v) rfl (h aW st s aa H)
theorem At.Oj{ah Ew:Type}{m:M aV}{W:Wp ah}{R:aZ->aV->ah->Prop}{aG:aM->Ew->aZ->Prop}{m8:Ew->Wp ah}(h:∀bg y av,aG bg y av->At X g c av st bg m (m8 y) R)(k:∀Q E,(∀bg y av,aG bg y av->β.le av->m8 y Q E bg)->W Q E s):At X g c β st s m W R:=by
 unfold At at h ⊢;generalize q:m st=aD;induction aD using MI.Out.casesOn with
 |fail n=>trivial
 |ok v bk=>exact λQ E aq=>k Q E λbg y av dq l=>by obtain this:=h bg y av dq;rw[q] at this;exact this Q E λa ao aY eC=>aq a ao aY (l.trans eC)
 |ex bk=>exact λQ E aq=>k Q E λbg y av dq l=>by obtain this:=h bg y av dq;rw[q] at this;exact this Q E λa ao aY eC=>aq a ao aY (l.trans eC)
theorem WC(O:g.Ok)(ba:dV g aG)(U:c.Ok g ab.dep)(dN:ab.dep<400)(V:cc c ab env β){t iter:bj}(aq:(clauses e)[0]? =C ⟨t,iter,ifs,0⟩)(kind:scope.kind=.function)(lr:∀x∈scope.names,x.2≠.cell)
  {cells:List (aO×Nat)}{cl:List (aO×aF)}(cr:pM β cells cl)(H:Sat g c st β s){a b ec:aF}(aN:β.ad[n]? =C (a,d))(aw:β.ad[k]? =C (b,ec)){o:MI.O}(bw:st.at n=C o)(bN:isIt o=ae):
  At fW g c β st s ((kR [] (aG.cl ⟨{scope with names:=ou ab.scope.names scope.names},cells,ab.dep⟩ e 0 n k)).bind λI=>M.pure (MI.V.r k)) (λQ E s=>a5 g.M c.A (sm scope env.globals cl [] env.qual none .none (C env)) (λhK fh=>
    ft g.M c.A (.compStart e 0 (.ref a) (.ref b) {hK with scope:=l6 scope env}) (jZ g.M c.A E none Q (.ref b) hK.locals) fh) E s) a7:=by
 refine mD H.loc.obj λfS qa tg hi jv mw oa=>?_;let L:=s.heap.objs.size;let jK:cI:=⟨{scope with names:=ou ab.scope.names scope.names},cells,ab.dep⟩;have ek:(c.enter L fS c.fr c.A).Ok g ab.dep:=U.enter H hi jv (dO _) U.frames (λI h=>.inl h) U.depth U.units U.dep U.calm;let cJ:Env:={newEnv scope L env.globals cl env.qual none .none (C env) nI with scope:=l6 scope env};obtain gY:cc (c.enter L fS c.fr c.A) jK cJ β:=⟨RA V scope,by show(l6 scope env).kind=_;exact kind,V.glob,V.blt,rfl,λx n e=>pM.look cr e,V.frame,bc.oT H hi (dO _)⟩;obtain run:=ba.cl (c.enter L fS c.fr c.A) jK cJ β e 0 n k a d b ec ek dN gY aN aw;refine At.wL (aG:=λbg=>∃aA cW,bg={s with heap:=aA,toks:=cW}/\aA.Ns L (λI=>none)/\∀b o,s.heap.get? b=C o->aA.get? b=C o)
  (m8:=λQ E bg=>ft g.M c.A (.compStart e 0 (.ref a) (.ref b) cJ) (jZ g.M c.A E none Q (.ref b) L) bg) (λbg bL=>?_) λQ E la=>?_
 ·(refine fD bL λaA cW J ns keep=>?_;try clear bL;subst J);have eE:Sat g (c.enter L fS c.fr c.A) {st with loc:=[]} β {s with heap:=aA,toks:=cW}:=H.enter U hi keep (dO _) ⟨_,ns,λx v e=>nomatch e⟩;have run:=run β _ _ (.refl _) eE;have self:∀(Q:az->aM->Prop)(E:az->aM->Prop),Q (.ref a) {s with heap:=aA,toks:=cW}->a5 g.M c.A (oB (.ref a)) Q E {s with heap:=aA,toks:=cW}:=λQ E h=>Ik eE (show St.at {st with loc:=[]} n=C o from bw) aN bN h;have cb:∀{av:aZ},β.le av->∀x v,ed x st.loc=C v->∃y,sD qa x=C y/\a7 av v y:=λl x v e=>(aS (oa x v e) λy aa af=>(bh y aa (af.le l)));unfold At at run ⊢;refine G (agV _ _) ?_;generalize q:aG.cl ⟨{scope with names:=ou ab.scope.names scope.names},cells,ab.dep⟩ e 0 n k {st with loc:=[]}=aD;induction aD using MI.Out.casesOn with
  |fail n=>trivial
  |ok u bk=>
   rw[q] at run;intro Q E oZ;refine xW (vL aq) aq (uF (run (λI ao=>∃m,ao.heap.Ns L m/\∀aA,qS L ao.heap aA->Q (.ref b) {ao with heap:=aA}) (λe ao=>jZ g.M c.A E none Q (.ref b) L (.error e) ao) λf ao av l S I=>?_) λr ao h=>?_) self
   .exact aS S.loc λm hm I=>(bh m hm (λaA bL=>oZ _ _ av l (Sat.II (t:=ao.toks) ek (bc.oT H hi (dO _)) S bL jv mw (cb l)) ⟨b,ec,a4 l.ad aw,rfl⟩))
   .induction r using uy with
    |ok f=>exact h
    |error e=>exact h
  |ex bk=>
   rw[q] at run;intro Q E oZ;refine xW (vL aq) aq (uF (run (λI ao=>jZ g.M c.A E none Q (.ref b) L (.ok .next) ao) (λe ao=>jZ g.M c.A E none Q (.ref b) L (.error e) ao) λv ao av l T=>?_) λr ao h=>?_) self
   ·(refine eH T λx J gF S=>?_;try clear T;subst J);refine aS S.loc λm hm I=>⟨m,hm,λaA bL hK bb=>?_⟩;obtain e8:Sat g c {bk with loc:=st.loc} av {ao with heap:=aA}:=Sat.II (t:=ao.toks) ek (bc.oT H hi (dO _)) S bL jv mw (cb l);obtain lP:Told g c {bk with loc:=st.loc} av (.ref x) {ao with heap:=aA}:=by
     refine⟨x,rfl,?_,e8⟩;refine ih gF.told λcf aK a1 a2 cj c9 iL dQ=>we (dQ.resolve_left λq=>q.1 trivial) λT e2 cm eK cA el gE jr oK jL=>?_;have ne:∀{x:aF}{zC:cY}{aK:Array az},ao.heap.get? x=C zC->zC.data=.fields aK->x≠L:=λaa af z=>by(refine kf hm λo ar fm bw ka I=>?_;try clear hm);obtain bw:ao.heap.get? L=C o:=bw;rw[<-z,aa] at bw;(obtain J:=aT bw;clear bw;subst J);rw[af] at ka;injection ka
     exact⟨cf,aK,bL.extBut _ _ (ne a1 cj) a1,a2,cj,c9,iL,.inr (sf T e2 cm eK cA el gE (bL.extBut _ _ (ne jr oK) jr) oK jL)⟩
    exact Ji U lP λfa rr=>oZ _ _ av l rr.raised
   .induction r using uy with
    |ok f=>exact h
    |error e=>exact h
 .refine wpAny_newFunctionEnv lr (λx ak=>nomatch ak) (λaA ei HS=>?_) kind;exact la _ (d1 aA _ rfl ei (λb o e=>HS.extBut b o (kq (fU e)) (f5 _ e)))
theorem Gb(O:g.Ok)(ba:dV g aG)(U:c.Ok g ab.dep)(V:cc c ab env β)(e:bj)(scope:pG)(pos:cn)(gens:List uB)(gx:clauses e=gens)(vw:Es e=gens)(acc:MI.O)(ke:hC az)(aU:xi g c acc ke):
  cS g c β (comp aG ab e gens scope acc) (dM g c (Ed e scope env pos ke (En gens) (Et gens env))) a7:=by
 unfold comp;induction gens using es with
 |nil=>exact .fail
 |cons q rest=>
  dsimp only;generalize bb:(zw scope&&eQ ab.dep 400&&!isSet q.iter&&kA q.is_async 0)=aD;induction aD using bZ with
  |false=>exact .fail
  |true=>
   obtain(⟨t,iter,ifs,qq⟩):=q;obtain Hz:qq=0:=aR ((x8 ..).symm.trans (bB bb));subst Hz;replace bb:=bR bb;simp only[ew,jl] at bb;(refine a3 bb λJ tM=>?_;try clear bb;refine a3 J λaa af=>?_;try clear J);obtain dN:ab.dep<400:=bA af;unfold zw at aa;simp only[ew,jl] at aa;(refine a3 aa λJ hY=>?_;try clear aa;refine a3 J λbT my=>?_;try clear J;refine a3 bT λcu fL=>?_;try clear bT;refine a3 cu λbu c3=>?_;try clear cu);have kind:scope.kind=.function:=by exact Ib bu
   obtain nodup:(scope.names.map (·.1)).Nodup:=zp my;obtain lr:∀x∈scope.names,x.2≠.cell:=λx ak e=>by obtain this:=eX.mp hY x ak;rw[e] at this;exact c7 this
   obtain aq:(clauses e)[0]? =C ⟨t,iter,ifs,0⟩:=by exact G gx rfl
   generalize lU:oP ab.cells scope.names []=aD;induction aD using b3 with
   |none=>exact .fail
   |some cells=>
    refine aS (MY V lU) λcl cr Hp=>bH.Q1 ?_;show cS g c β ((aG.ev ab iter).bind λv=>(ni v).bind λn=>(alloc acc).bind λk=>(load n).bind λit=>(match isIt it with
     |true=>(kR [] (aG.cl ⟨{scope with names:=ou ab.scope.names scope.names},cells,ab.dep⟩ e 0 n k)).bind λ_=>M.pure (MI.V.r k)
     |false=>fail 131)) _ _
    refine bH.of ((ba.ev c ab env β iter U V).bind (k:=λx=>λ(Q:az->aM->Prop) E bg=>a5 g.M c.A (oB x) (λit b0=>a5 g.M c.A ke (λacc dB=>
     a5 g.M c.A (sm scope env.globals cl [] env.qual none .none (C env)) (λhK fh=>
     ft g.M c.A (.compStart e 0 it acc {hK with scope:=l6 scope env}) (jZ g.M c.A E none Q acc hK.locals) fh) E dB) E b0) E bg) (cC:=a7) λav v y l r=>(yU O U r).bind (k:=λit=>λ(Q:az->aM->Prop) E b0=>a5 g.M c.A ke (λacc dB=>
     a5 g.M c.A (sm scope env.globals cl [] env.qual none .none (C env)) (λhK fh=>
     ft g.M c.A (.compStart e 0 it acc {hK with scope:=l6 scope env}) (jZ g.M c.A E none Q acc hK.locals) fh) E dB) E b0) λd9 n it a_ l2=>?_) λQ E s k=>TA (use:=none) vw (yc tM env) Hp kind (λx ak aX=>CH nodup (G (bV aX) ak)) k
    (refine cz l2 λb ec J aB=>?_;try clear l2;subst J);intro aW st s aa H;refine .alloc λaN=>?_;obtain aB:=a4 aa.ad aB;let qK:St:={st with σ:=st.σ.put cU st.no (ae,acc),no:=st.no+1};refine At.Oj (Ew:=az) (aG:=λbg y av=>aW.le av/\Sat g c qK av bg/\∃a d,y=.ref a/\av.ad[st.no]? =C (a,d)) (m8:=λy=>λQ E dB=>a5 g.M c.A (sm scope env.globals cl [] env.qual none .none (C env)) (λhK fh=>
     ft g.M c.A (.compStart e 0 (.ref b) y {hK with scope:=l6 scope env}) (jZ g.M c.A E none Q y hK.locals) fh) E dB) (λbg y aY Hj=>?_) λQ E la=>aU st aW s _ E H aN λao aY y a d l S e iy=>la ao y aY (fi l S (gi a d e iy)) l
    obtain(⟨eC,S,a,d,rfl,aw⟩):=Hj;refine .load S λo dp Ni bw fo _=>?_;have yp:=a4 eC.ad aB;rw[yp] at fo;(obtain J:=aT fo;clear fo;refine a3 (eD J) λbT cu=>?_;clear J;subst bT;subst cu);split
    .rename_i bN;have lt:=((l.trans a_).trans aa).trans eC;refine WC O ba U dN (V.le lt) aq kind lr (cr.imp λ_ _ x=>⟨x.1,(bG x.2 λd q=>⟨d,a4 lt.ad q⟩)⟩) S yp aw bw bN
    .exact .fail
end
section
variable{c:bc}{ab:cI}{st:St}{s:aM}
noncomputable def AM(β:aZ):List (ag×MI.V)->List (az×az)->Prop:=bK λe p=>∃l t,e.1.val β=C l/\p.1=.str (aQ l) t/\a7 β e.2 p.2
theorem Rf(ba:dV g aG)(U:c.Ok g ab.dep)(pos:cn):∀(ks:List (Option bj))(aK:List bj){β:aZ},cc c ab env β->cS g c β (MI.pairs aG ab ks aK) (λQ E s=>a5 g.M c.A (evalPairs (pairTrees ks aK env pos)) Q E s) AM
 |[],[],β,V=>bH.of (bH.pure (v:=([]:List (ag×MI.V))) (a:=([]:List (az×az))) (R:=AM) λI I=>.nil) λQ E s k=>pairTrees_nil_walk k
 |some k::ks,v::aK,β,V=>by
  show cS g c β ((aG.ev ab k).bind λ
   |.s e=>(aG.ev ab v).bind λw=>(MI.pairs aG ab ks aK).bind λr=>M.pure ((e,w)::r)
   |_=>fail 134) _ _
  refine bH.of ((ba.ev c ab env β k U V).bind (k:=λdm=>λ(Q:List (az×az)->aM->Prop) E bg=>a5 g.M c.A (dK v env) (λi2 b0=>a5 g.M c.A (evalPairs (pairTrees ks aK env pos)) (λr dB=>Q ((dm,i2)::r) dB) E b0) E bg) (cC:=AM) λav dm y l r=>?_) λQ E s k=>KV k;induction dm using MI.V.casesOn with
  |s e=>(refine cz r λlk t aX J=>?_;try clear r;subst J);refine(ba.ev c ab env av v U (V.le l)).bind λd9 w i2 a_ rw=>(Rf ba U pos ks aK ((V.le l).le a_)).bind (k:=λr=>λ(Q:List (az×az)->aM->Prop) I s=>Q ((.str (aQ lk) t,i2)::r) s) λh2 ar bt hZ JA=>bH.pure λpL jA=>.cons (d1 lk t (ag.hy ((a_.trans hZ).trans jA) aX) rfl (rw.le (hZ.trans jA))) (JA.imp λI I gd=>(by(refine fD gd λl t a b c=>?_;try clear gd);exact(d1 l t (ag.hy jA a) b (c.le jA))))
  |_=>exact .fail
 |[],_::_,_,_=>.fail
 |some _::_,[],_,_=>.fail
 |none::_,_::_,_,_=>.fail
 |none::_,[],_,_=>.fail
theorem XN{l m:List Nat}(h:rC l m=ai):l≠m:=λe=>by
 subst e;obtain this:rC l l=true:=by exact gM x9 rfl
 rw[this] at h;exact jB h
theorem carried{ar:List (ag×MI.V)}{bt:List (az×az)}(R:AM β ar bt):tc ar=ae->∃ay:List (aO×az),Carries (strKind g.prog g.w) bt ay/\(ay.map (·.1)).Nodup/\ay.length=ar.length/\
  (∀e∈ar,∃l v,ag.kd e.1=C l/\e.1.val β=C l/\a0 ay (aQ l)=C v/\a7 β e.2 v)/\ar.Pairwise (λe f=>e.1.val β≠f.1.val β)/\∀k∈ay.map (·.1),∃e∈ar,e.1.val β=C (cs k):=by
 induction R with
 |nil=>exact λ_=>(SR [] trivial .nil rfl (λe he=>(nomatch he)) .nil (λk aw=>(nomatch aw)))
 |@cons e p ar bt r t bF=>
  intro h;obtain(⟨ah1,Ka⟩):=p;rw[Xj] at h;rw[ew] at h;(refine a3 h λaa af=>?_;try clear h);refine QW (bF af) λay lW rQ HX yK HY Cc=>?_;(refine fD r λl cW aX aw bJ=>?_;try clear r);dsimp only at aw bJ;subst aw;generalize OV:ag.kd e.1=z at aa;induction z using b3 with
  |none=>exact c7 aa
  |some a_=>
   have jw:=ag.vW (β:=β) OV;rw[aX] at jw;cases(jw);have I4:∀f∈ar,∀m,ag.kd f.1=C m->l≠m:=λf hf m hm=>by obtain this:=eX.mp aa f hf;rw[hm] at this;exact XN (by simpa using this)
   obtain C1:aQ l∉ay.map (·.1):=λhm=>by refine aS (Cc _ hm) λf hf q=>fD (yK f hf) λm v a b _=>?_;rw[b] at q;cases(q);exact I4 f hf _ a (Gf l).symm
   refine(SR ((aQ l,Ka)::ay) ⟨nC g l cW,rfl,lW⟩ (jD.mpr ⟨C1,rQ⟩) (by simp[HX]) (λf hf=>?_) ?_ (λk aw=>?_))
   .rcases dg.mp hf with rfl|hf
    .exact(i3 l Ka OV aX (by unfold a0;simp) bJ)
    .refine ig (yK f hf) λm v a b q d=>(i3 m v a b ?_ d);unfold a0 at q ⊢;refine G An ?_;obtain this:decide ((aQ l,Ka).1=aQ m)=false:=decide_eq_false λz=>I4 f hf m a (oh z);exact G this q
   .refine wZ.mpr ⟨λf hf=>?_,HY⟩;refine fD (yK f hf) λm v a b _=>?_;(refine G aX (G b ?_));exact λz=>I4 f hf m a (c0 z)
   .rcases dg.mp aw with rfl|aw
    .exact(bh e (.head _) (by(refine G aX ?_;exact G (Gf _) rfl)))
    .exact aS (Cc k aw) λf hf q=>(bh f (.tail _ hf) q)
theorem X0(O:g.Ok)(ba:dV g aG)(U:c.Ok g ab.dep)(V:cc c ab env β)(ks:List (Option bj))(aK:List bj)(pos:cn)(h0:ks≠ []\/aK≠ []):cS g c β (match dw ks.length 15&&ks.all (·.isSome)&&cv ks.length aK.length with
  |true=>(alloc (.dict [] none)).bind λn=>(MI.pairs aG ab ks aK).bind λar=>(load n).bind λ
   o=>match o.C0&&tc ar with
    |true=>(store n (.dict ar none)).bind λ_=>M.pure (.r n)
    |false=>fail 142
  |false=>fail 142) (dM g c (dK (.Dict ks aK pos) env)) a7:=by
 split
 .rename_i bb;simp only[ew] at bb;(refine a3 bb λJ i9=>?_;try clear bb;refine a3 J λe5 gZ=>?_;try clear J);obtain e5:=bA e5;have i9:=d2 i9;have YY:ks≠ []:=by
   rcases h0 with h|h
   .exact h
   .intro e;rw[e] at i9;exact h (Td.mp i9.symm)
  intro aW st s aa H;refine .alloc λaN=>a3 (I5 (t:=s.toks) O U H aN) λpU rm=>?_;let d:=s.heap.objs.size;let aY:=aW.new d d;have fB:aW.le aY:=aW.gI d d;have hd:aY.ad[st.no]? =C (d,d):=by exact G (bV H.len) (aW.lp _ _)
  have run:=(Rf ba U pos ks aK (V.le (aa.trans fB))).bind (ej:=az) (f:=λar=>(load st.no).bind λ
   o=>match o.C0&&tc ar with
    |true=>(store st.no (.dict ar none)).bind λ_=>M.pure (MI.V.r st.no)
    |false=>fail 142) (k:=λbt=>λ(Q:az->aM->Prop) _ bg=>∃ay,Carries (strKind g.prog g.w) bt ay/\bg.heap.DictOf (strKind g.prog g.w) d []/\
   ∀aA,aA.DictOf (strKind g.prog g.w) d (merged [] ay)->qS d bg.heap aA->Q (.ref d) {bg with heap:=aA,toks:=bg.toks+bt.length}) (cC:=a7) λh2 ar bt qu JA=>?_
  .refine At.wL (aG:=λbg=>bg={s with heap:=s.heap.push {cls:=.type "dict",data:=.dict #[]},toks:=s.toks}) (λbg e=>by subst e;exact(run aY _ _ (.refl _) pU).le fB) λQ E k=>wpAny_Dict_walk (knd:=strKind g.prog g.w) gZ i9 YY e5 (k _ rfl)
  .intro pL bk ao rT S;have Hq:=a4 (qu.trans rT).ad hd;refine .load S λo dp ec bw fo R=>?_;rw[Hq] at fo;(obtain J:=aT fo;clear fo;refine a3 (eD J) λbT cu=>?_;clear J;subst bT;subst cu);split
   .rename_i OM
    .obtain Zz:=bB OM;rw[acE (bR OM)] at R;obtain(⟨ja,p_,f_,abn,g1,g2,_,_,gv,jb⟩):=R;obtain abl:abn=[]:=Td.mp (Nat.le_zero.mp jb);(clear jb gv;subst abl);refine QW (carried (g:=g) (JA.imp λ_ _ gd=>(by(refine fD gd λl t a b c=>?_;try clear gd);exact(d1 l t (ag.hy rT a) b (c.le rT)))) Zz) λay lW rQ HX yK HY Cc=>?_;refine .store λgr aN bL=>.ret λQ E aq=>(fT ay lW (vh g1 g2) (λaA lV iy=>?_));rw[merged_nil_of_nodup _ rQ] at lV;refine aS (sl.mp lV) λkL bY c5=>aq _ _ pL (.refl _) (S.turn (t:=ao.toks+bt.length) aN bL Hq (.inl rfl) iy.extBut ⟨rfl,p_,kL,ay,bY,c5,λe he=>?_,HY,λk aw=>?_,by exact G HX (dO _)⟩ rfl) ⟨d,d,Hq,rfl⟩
     .exact ig (yK e he) λl v _ b q r=>⟨l,v,b,q,r⟩
     .refine Cc k ?_;generalize q:a0 ay k=aD;induction aD using b3 with
      |none=>exact absurd q aw
      |some v=>
       unfold a0 at q;refine aS (pI.mp q) λx ak _=>?_;obtain m:=Kl ak;obtain e:=List.find?_some ak;obtain e:x.1=k:=by simpa using e
       exact G (bV e) (kU m)
   .exact .fail
 .exact .fail
theorem L6(O:g.Ok)(U:c.Ok g dep):xi g c (.list []) (newList []):=λst β s Q E H aN aq=>by refine a3 (CV (t:=s.toks) O U H aN (xs:=[]) (aH:=#[]) .nil) λpU I=>Lo (aq _ _ _ s.heap.objs.size s.heap.objs.size (β.gI s.heap.objs.size s.heap.objs.size) pU rfl (G (bV H.len) (β.lp _ _))) (nk (by simp))
theorem L5(O:g.Ok)(U:c.Ok g dep):xi g c (.dict [] none) newDict:=λst β s Q E H aN aq=>by exact a3 (I5 (t:=s.toks) O U H aN) λpU I=>wpAny_newObj_type (aq _ _ _ s.heap.objs.size s.heap.objs.size (β.gI s.heap.objs.size s.heap.objs.size) pU rfl (G (bV H.len) (β.lp _ _)))
end
noncomputable def cy.E2(g:cy):Prop:=sE g.K (.ref JY)=ae/\∀(A:oA)(s:aM)(l:bz)(t u:Tok)(z:Int)(Q:az->aM->Prop)(E:az->aM->Prop),A.depth<=900->g.K.In s.heap->sC g.p g.loose g.iS g.iR s.heap->l.length<=900->0<=z->z<=2000000->
 (∀aA cW dC,(∀b o,s.heap.get? b=C o->aA.get? b=C o)->Q (.str (aQ (l++35::eR z)) dC) {s with heap:=aA,toks:=cW})->a5 g.M A (gc (.ref JY) [.str (aQ l) t,.int z u]) Q E s
variable{nm:aO}{eF:Nat}
section
variable{c:bc}{ab:cI}{st:St}{s:aM}{ah:Type}{m:M aV}{W:Wp ah}{R:aZ->aV->ah->Prop}{v:aV}
theorem bH.go(h:bH X g c β m W R)(le:β.le aW)(H:Sat g c st aW s)(e:m st=.ok v bk){Q:ah->aM->Prop}(aq:∀a ao av,aW.le av->Sat g c bk av ao->R av v a->Q a ao):W Q E s:=by obtain this:=h aW st s le H;unfold At at this;rw[e] at this;exact this Q E aq
noncomputable def Calm(m:M aV):Prop:=∀st,match m st with
 |.ok _ bk=>bk=st
 |.fail _=>True
 |.ex _=>False
theorem Calm.pure{a:aV}:Calm (M.pure a):=λI=>rfl
theorem Calm.fail:Calm (MI.fail n:M aV):=λI=>trivial
theorem Calm.bind{β:Type}{m:M aV}{f:aV->M β}(h:Calm m)(k:∀a,Calm (f a)):Calm (m.bind f):=λst=>by
 have h:=h st;unfold M.bind;generalize q:m st=aD;induction aD using MI.Out.casesOn with
 |ok a bk=>rw[q] at h;(clear q;subst h);exact k a _
 |fail=>trivial
 |ex=>rw[q] at h;exact h
theorem Calm.load:Calm (MI.load n):=λst=>by
 unfold MI.load;cases st.at n with
 |some=>rfl
 |none=>trivial
theorem Calm.bp{x:Option aV}:Calm (MI.bp n x):=by
 induction x using b3 with
 |none=>exact .fail
 |some=>exact .pure
theorem Calm.guard:Calm (MI.guard n b):=by
 induction b using bZ with
 |true=>exact .pure
 |false=>exact .fail
theorem Calm.loc:Calm (tv x):=λst=>by
 unfold tv;cases ed x st.loc with
 |some=>rfl
 |none=>trivial
theorem Calm.fR{F:MI.O->Option aV}:Calm (MI.fR k n F):=Calm.load.bind λI=>.bp
theorem Calm.cell:Calm (cellGet ab x):=Calm.bp.bind λI=>Calm.fR.bind λI=>.bp
theorem Calm.name:Calm (nc K ab x):=Calm.guard.bind λI=>Calm.bp.bind λk=>by
 induction k using sF with
 |«local»=>exact .loc
 |cell=>exact .cell
 |free=>exact .cell
 |globalImplicit=>exact Calm.bp.bind λv=>match v with
  |some _=>.pure
  |none=>Calm.bp.bind λI=>.pure
 |_=>exact .fail
theorem Calm.attr{w:MI.V}:Calm (rG K w x):=Calm.bp.bind λI=>Calm.fR.bind λI=>Calm.guard.bind λI=>Calm.bp.bind λI=>Calm.guard.bind λI=>.pure
theorem At.calm{f:aV->M d8}{W:Wp ej}{cC:aZ->d8->ej->Prop}(h:Calm m)(k:∀v,m st=.ok v st->At X g c β st s (f v) W cC):At X g c β st s (m.bind f) W cC:=by
 have h:=h st;generalize q:m st=aD;induction aD using MI.Out.casesOn with
 |ok a bk=>rw[q] at h;subst h;exact .peek q (k a q)
 |fail=>exact .stuck q
 |ex=>rw[q] at h;exact h.elim
theorem Sat.text(H:Sat g c st β s){l:bz}(aX:l.length<=1000):Sat g c {st with ns:=st.ns+1} {β with ck:=β.ck++ [l]} s/\β.le {β with ck:=β.ck++ [l]}/\ag.val {β with ck:=β.ck++ [l]} [.any st.ns]=C l:=by
 have le:β.le {β with ck:=β.ck++ [l]}:=⟨iH _,iH _,iH _,lI _ _⟩;refine bG H.objs λf hf=>(fi ⟨⟨H.keep,H.cw,⟨f,λn own o q=>?_⟩,H.len,⟨H.facts.aC,H.facts.aj,H.facts.cd,?_,λm hm=>?_⟩,H.ghost.trans le⟩,H.os,H.loc.le le⟩ le ?_)
 .obtain(⟨a,d,aa,af,aJ⟩):=hf n own o q;refine⟨a,d,aa,af.mono le (λI e=>e) (λI e=>e),aJ⟩
 .show(β.ck++ [l]).length=st.ns+1;(refine G iG (G H.facts.de ?_));rfl
 .rcases mb.mp hm with hm|hm
  .exact H.facts.ck m hm
  .exact G (eu.mp hm) aX
 .show(match(β.ck++ [l])[st.ns]?,C [] with|some a,some b=>C (a++b)|_,_=>none)=_;(refine G (bV H.facts.de) (G (pH (dO _)) ?_);refine G (uD _) ?_);simp
set_option tactic.hygienic true in
theorem RS(H:Sat g c st β s){t:ag}{l:bz}(h:wC t st=ae)(q:ag.val β t=C l):l.length<=900:=by unfold wC at h;exact aS (RV h) λn aN h=>bU (ag.z5 H.facts aN q) (bA h)
theorem Mn(O:g.Ok)(U:c.Ok g ab.dep)(V:cc c ab env β)(H:Sat g c st β s){e:aO}{p dI:cn}{w v:MI.V}(aa:nc g.K ab e st=.ok w st)(af:rG g.K w nm st=.ok v st){Q:az->aM->Prop}
  (aq:∀a ao av,β.le av->Sat g c st av ao->a7 av v a->Q a ao):a5 g.M c.A (dK (.Attribute (.Name e p) nm dI) env) Q E s:=by refine Attribute_any_ ((th (X:=fW) O U V e p).go (.refl _) H aa λa bg aY l pT r=>(G_ (X:=fW) O U r nm ae).go (.refl _) pT af λb b0 h2 a_ ri g9=>aq b b0 h2 (l.trans a_) ri g9) (G (arm_eval_Attribute _ _ _ _) (G ((Ft rfl) _ _) rfl))
theorem X9(O:g.Ok)(I:g.E2)(U:c.Ok g ab.dep)(V:cc c ab env β){n a9 zj f bf zk dX:aO}{hk dd dx fP iV iW kM jS kg oq r1:cn}{k:Int}:
  cS g c β (RU g.K ab n a9 zj f bf zk dX) (dM g c (dK (.IfExp (.Compare (.Name n hk) [.Eq] [.Constant (.int k) eF dd] dx) (.Attribute (.Name a9 fP) zj iV) (.Call (.Name f iW) [.Attribute (.Name bf kM) zk jS,.Name dX kg] [] oq) r1) env)) a7:=by
 intro aW st s aa H;have V:=V.le aa;refine .calm .name λv a1=>.bp λx q=>?_;cases qs q;refine .calm .name λv1 a2=>.calm .attr λv cj=>.bp λzX q=>?_;cases zV q;refine .calm .name λv c9=>.bp λait q=>?_;cases x2 q;refine .calm .name λv2 dQ=>.calm .attr λv fe=>.bp λz0 q=>?_;cases zV q;refine .calm .name λv iq=>.bp λy q=>?_;cases qs q;refine .guard λq=>?_;unfold At;dsimp only;generalize cE:(wC zX st&&(wC z0 st&&bo.small st.au y))=aD;induction aD using bZ with
 |false=>trivial
 |true=>
  have q:=(ew _ _).mp q;obtain rfl:=Cs q.1;obtain dN:ab.dep<280:=bA q.2;have cE:=(ew _ _).mp cE;obtain aB:=cE.1;have cE:=(ew _ _).mp cE.2;obtain cx:=cE.1;obtain bS:=cE.2;intro Q E aq;refine IfExp_ ?_;show a5 g.M c.A (do testChain dx (<-dK (.Name n hk) env) [.Eq] (markedEach [.Eq] [.Constant (.int k) eF dd] [dK (.Constant (.int k) eF dd) env])) _ E s;refine b2 ((th (X:=fW) O U V n hk).go (.refl _) H a1 λa bg aY eC ri iZ=>?_);(refine cz iZ λz t a8 J=>?_;try clear iZ;subst J);show a5 g.M c.A (do
    let du <-sA [.int z t] (markedBehindIn .Eq (.Constant (.int k) eF dd) (dK (.Constant (.int k) eF dd) env))
    uJ dx
    let c <-operate [.int z t,du] (Er .Eq (.int z t) du)
    sA [c] (uA c)) _ E bg
  refine G (TF (I8 rfl)) (b2 (iI ((M9 (X:=fW) (g:=g) (c:=c) (β:=aY) (.int k) eF dd).go (.refl _) ri (show bp 140 (Gd (.int k)) st=.ok (.i (.lit k)) st from rfl) λb b0 h2 hZ LM Ds=>?_)));(refine cz Ds λgU dC g5 J=>?_;try clear Ds;subst J);refine b2 (kX (b2 (wpAny_operating (Tb ?_))));have E6:=(V.le eC).le hZ;refine iI ?_;suffices aw:(if(z==gU)=ae then a5 g.M c.A (dK (.Attribute (.Name a9 fP) zj iV) env) Q E b0 else a5 g.M c.A (dK (.Call (.Name f iW) [.Attribute (.Name bf kM) zk jS,.Name dX kg] [] oq) env) Q E b0) from λhH hH hH=>aw;by_cases vF:(z==gU)=ae
  .refine G (if_pos vF) (Mn O U E6 LM a2 cj λa dB pL jA AH r=>?_);(refine cz r λl u aX J=>?_;try clear r;subst J);obtain short:=RS AH aB aX;exact fO (AH.text (l:=l) (bU (by assumption) (bA rfl))) λUn abt lS=>aq _ _ _ (((eC.trans hZ).trans jA).trans abt) Un ⟨l,u,lS,rfl⟩
  ·(refine G (if_neg vF) (G ((oO (λhH hH hH h=>by(injection h))) _ _) ?_));refine b2 ((th (X:=fW) O U E6 f iW).go (.refl _) LM c9 λa dB pL jA AH r=>?_);obtain rfl:=r;have L3:=E6.le jA;refine Ax (P:=λh=>g.K.In h) (G (nt rfl) rfl) (λh X=>keeps_K I.1 h X) (n6 rfl (kS (Mn O U L3 AH dQ fe λa fh aiz Qh LN r=>?_) (nB rfl _)));(refine cz r λl u aX J=>?_;try clear r;subst J);refine kS ((th (X:=fW) O U (L3.le Qh) dX kg).go (.refl _) LN iq λa jg aiA abR xp r=>?_) (nB rfl _);(refine cz r λTH ty aao J=>?_;try clear r;subst J);refine nL ⟨xp.toSatO.fl U O,?_⟩;have zS:=bo.JM xp.facts bS aao;have short:=RS LN cx aX;obtain hd:=U.depth;refine I.2 c.A jg l u ty TH Q E (Nz hd (kp dN) (bA rfl)) (xp.toSatO.fl U O) (xp.toSatO.top U O) short zS.1 zS.2 λaA cW dC keep=>fO ((xp.grow (t:=cW) keep).text (l:=l++35::eR TH) (by obtain this:=Gn zS;(refine G iG (G uv ?_));lia)) λUo abv GD=>?_
   exact aq _ _ _ (((((eC.trans hZ).trans jA).trans Qh).trans abR).trans abv) Uo ⟨_,dC,GD,rfl⟩
end
section
variable{c:bc}{ab:cI}{st:St}{s:aM}
noncomputable def cy.LP(g:cy):Prop:=∃ar n,g.K.lookup layAt=C ⟨.type "dict",none,.dict ar n,#[]⟩/\KeysLit g.w.params ar.toList
noncomputable def cy.Lay(g:cy):Prop:=g.LP/\g.E2
theorem X6(O:g.Ok)(ba:dV g aG)(U:c.Ok g ab.dep)(V:cc c ab env β)(o:bj)(lo bN st:Option bj)(q p:cn):cS g c β (NV aG ab o lo bN st) (dM g c (dK (.Subscript o (.Slice lo bN st q) p) env)) a7:=
 match lo,bN,st with
 |some _,none,none=>X8 O ba U V _ _ _ _
 |none,some _,none=>X7 O ba U V _ _ _ _
 |some _,some _,none=>.fail
 |none,none,none=>.fail
 |none,_,some _=>.fail
 |some _,_,some _=>.fail
theorem XS(O:g.Ok)(kE:g.Lay)(ba:dV g aG)(U:c.Ok g ab.dep)(V:cc c ab env β)(e:bj):cS g c β (NU aG g.K ab e) (dM g c (dK e env)) a7:=by
 cases e with
 |Constant=>exact M9 _ _ _
 |Name=>exact th O U V _ _
 |Attribute=>exact XU O ba U V _ _ _
 |BoolOp=>exact NX ba U V _ _ _
 |BinOp=>exact XW O ba U V _ _ _ _
 |UnaryOp op=>
  cases op with
  |Not=>exact X5 ba U V _ _
  |USub=>exact Ya ba U V _ _
  |_=>exact .fail
 |IfExp t b o p=>
  show cS g c β (match DB t b o with|some w=>_|none=>_) _ _;generalize q:DB t b o=aD;induction aD using b3 with
  |some w=>exact afM q λI I I I I I I I I I I I a9 bf cB=>by(refine G a9 (G bf (G cB ?_)));exact X9 O kE.2 U V
  |none=>exact X2 ba U V _ _ _ _
 |Compare l ops rs p=>exact .asks λop aa=>.asks λr af=>by(refine G (lu aa) (G (lu af) ?_));exact XZ O ba U V _ _ _ _
 |Tuple=>exact X_ O ba U V _ _ _
 |List=>exact X4 O ba U V _ _
 |Dict ks aK p=>
  induction ks using es with
  |nil=>
   induction aK using es with
   |nil=>exact X1 O U _
   |cons=>exact .fail
  |cons=>exact X0 O ba U V _ aK p (.inl (KZ _ _))
 |Subscript o i p=>
  show cS g c β (match Dz i with|some w=>_|none=>_) _ _;generalize q:Dz i=aD;induction aD using b3 with
  |some w=>exact G (afD q) (X6 O ba U V o _ _ _ _ p)
  |none=>exact X3 O kE.1 ba U V _ _ _
 |ListComp a b d f=>show cS g c β (comp aG ab (.ListComp a b d f) b d (.list [])) _ _;exact Gb O ba U V (.ListComp a b d f) _ _ _ rfl rfl _ _ (L6 O U)
 |DictComp k a b d f=>show cS g c β (comp aG ab (.DictComp k a b d f) b d (.dict [] none)) _ _;exact Gb O ba U V (.DictComp k a b d f) _ _ _ rfl rfl _ _ (L5 O U)
 |Call f as ks p=>
  exact .asks λI h=>by
   refine G (lq h) ?_;generalize q:u9 f=aD;induction aD using b3 with
   |some w=>exact G (Fs q) (XY O ba U V _ _ _ _ _)
   |none=>exact XX O ba U V f (VP q) as p
 |_=>exact .fail
end
section
variable{c:bc}{ab:cI}{st:St}{s:aM}
noncomputable abbrev j4(g:cy)(c:bc)(t:hC fH):Wp Flow:=λQ E s=>a5 g.M c.A t Q E s
theorem R2{v:bj}{t:Option bj}{line:Nat}(aa:∀a b d e,v≠.ListComp a b d e)(af:∀a b d e f,v≠.DictComp a b d e f)(aJ:∀a b d e,v≠.SetComp a b d e):swapsWith v t line env=pure false:=by cases v<;>first|rfl|exact absurd rfl (aa _ _ _ _)|exact absurd rfl (af _ _ _ _ _)|exact absurd rfl (aJ _ _ _ _)
theorem sg:bH X g c β (M.pure di.next) (λ(Q:fH->aM->Prop) I s=>Q Flow.next s) eJ:=bH.pure (R:=eJ) λI I=>rfl
theorem ahb(ba:dV g aG)(U:c.Ok g ab.dep)(V:cc c ab env β)(e:bj)(pos:cn):
  cS g c β ((aG.ev ab e).bind λv=>M.pure (di.ret v)) (j4 g c (i4 (.Return (C e) pos) env)) eJ:=
 bH.of ((ba.ev c ab env β e U V).bind (k:=λy=>λQ I s=>Q (.ret y) s) λI v y I r=>bH.pure λI l=>⟨y,rfl,r.le l⟩) λQ E s k=>uu k
theorem ag9(ba:dV g aG)(U:c.Ok g ab.dep)(V:cc c ab env β)(t:bj)(b o:List eO)(pos:cn):
  cS g c β ((aG.eM ab t).bind λc=>match c with
  |true=>aG.xs ab b
  |false=>aG.xs ab o) (j4 g c (i4 (.If t b o pos) env)) eJ:=by
 refine bH.of ((ba.eM c ab env β t U V).bind (k:=λt=>λQ E s=>if t=ae then a5 g.M c.A (cF b env) Q E s else a5 g.M c.A (cF o env) Q E s) λav v a l r=>?_) λQ E s k=>wpAny_If k;subst r;cases a
 .exact(ba.xs c ab env av o U (V.le l)).of λQ E s k=>by simpa using k
 .exact(ba.xs c ab env av b U (V.le l)).of λQ E s k=>by simpa using k
theorem ahd(ba:dV g aG)(U:c.Ok g ab.dep)(V:cc c ab env β)(t:bj)(b:List eO)(pos:cn):cS g c β (aG.dJ ab t b) (j4 g c (i4 (.While t b [] pos) env)) eJ:=
 ((ba.dJ c ab env β t b U V).back (env:=env) U).of λQ E s k=>wpAny_While k
theorem ag8(O:g.Ok)(ba:dV g aG)(U:c.Ok g ab.dep)(V:cc c ab env β)(t it:bj)(b:List eO)(pos:cn):cS g c β (match eQ ab.dep 400&&!isSet it with
  |true=>(aG.ev ab it).bind λv=>(ni v).bind λn=>aG.kB ab t n b
  |false=>fail 165) (j4 g c (i4 (.For t it b [] pos) env)) eJ:=by
 split
 .rename_i bb;simp only[ew,jl] at bb;have dN:ab.dep<400:=bA bb.1;refine bH.of ((ba.ev c ab env β it U V).bind (k:=λx=>λ(Q:fH->aM->Prop) E bg=>a5 g.M c.A (oB x) (λi b0=>
   ft g.M c.A (.forLoop t i b [] env) (λr ao=>match r with|.ok f=>Q f ao|.error e=>nJ g.M c.A env E e ao) b0) E bg) (cC:=eJ) λav v y l r=>(yU O U r).bind (k:=λi=>λ(Q:fH->aM->Prop) E b0=>
   ft g.M c.A (.forLoop t i b [] env) (λr ao=>match r with|.ok f=>Q f ao|.error e=>nJ g.M c.A env E e ao) b0) λd9 n i a_ l2=>?_) λQ E s k=>wpAny_For k (yc bb.2 env)
  (refine cz l2 λa d J aU=>?_;try clear l2;subst J);exact(ba.kB c ab env d9 t n b a d U dN (V.le (l.trans a_)) aU).back (env:=env) U
 .exact .fail
theorem M7{v:bj}(h:vK v=ai):(∀a b d f,v≠.ListComp a b d f)/\(∀a b d f k,v≠.DictComp a b d f k)/\(∀a b d f,v≠.SetComp a b d f):=
 (fi (λI I I I e=>(by subst e;exact jB h)) (λI I I I I e=>(by subst e;exact jB h)) (λI I I I e=>(by subst e;exact jB h)))
theorem acw{t v:bj}(h:Jb t v=ae):Ee [t] v env=pure none:=by
 cases t with
 |Name=>rfl
 |Attribute=>rfl
 |Subscript=>rfl
 |Tuple=>
  cases v with
  |Tuple=>exact c7 h
  |_=>rfl
 |_=>exact c7 h
theorem VO{t v:bj}(h:Jb t v=ae):(qW [t] env).map (·.2)=[mQ t env]:=by
 cases t with
 |Starred=>exact c7 h
 |_=>rfl
theorem SX(O:g.Ok)(ba:dV g aG)(U:c.Ok g ab.dep)(V:cc c ab env β)(t v:bj)(pos:cn):cS g c β (Fo aG g.K ab t v) (j4 g c (i4 (.Assign [t] v pos) env)) eJ:=λaW st s aa H=>.guard λh=>
 have p:=(ew _ _).mp h;have n:=M7 ((jl _).mp p.2);have sw:swapsWithSole [t] v pos.line env=pure false:=R2 n.1 n.2.1 n.2.2
 ((ba.ev c ab env β v U V).bind (k:=λy=>λ(Q:fH->aM->Prop) E bg=>a5 g.M c.A (assignAll y ((qW [t] env).map (·.2))) (λI s=>Q .next s) E bg) (cC:=eJ) λav w y l r=>
  ((Fq O ba U (V.le l) t r).bind (k:=λI=>λ(Q:fH->aM->Prop) I s=>Q .next s) λI I I I I=>sg).of λQ E s k=>by exact G (VO p.1) k).of (λQ E s k=>KW k sw (acw p.1)) aW st s aa H
theorem ag7(ba:dV g aG)(U:c.Ok g ab.dep)(V:cc c ab env β)(e:bj)(pos:cn)(h:vK e=ai):
  cS g c β ((aG.ev ab e).bind λI=>M.pure di.next) (j4 g c (i4 (.Expr e pos) env)) eJ:=
 have n:=M7 h
 bH.of ((ba.ev c ab env β e U V).bind (k:=λI=>λ(Q:fH->aM->Prop) I s=>Q .next s) λI I I I I=>sg) λQ E s k=>wpAny_Expr_any k (aaE V) (R2 n.1 n.2.1 n.2.2)
theorem A9{β:Type}(m:M aV)(f:aV->M β)(h:β->M fb):(m.bind f).bind h=m.bind λa=>(f a).bind h:=by funext st;unfold M.bind;cases m st<;>rfl
theorem aaO(U:c.Ok g dep){a b:V}{x:az}(c2:a7 β a x)(dy:a7 β b y):bH X g c β (Pr a b) (λQ E s=>a5 g.M c.A (sz x y) Q E s) a7:=λaW st s aa H=>
 .du (W:=λx=>λQ E s=>a5 g.M c.A (sz x y) Q E s) (c2.le aa) λn a1 eZ gG=>.ck (W:=λy=>λQ E s=>a5 g.M c.A (sz (.ref a1) y) Q E s) (dy.le aa) λe l t aX=>Pt H gG aX λQ E I k=>k
theorem abF(V:cc c ab env β)(x:aO):cS g c β (PU ab x) (dM g c (loadName env x)) a7:=λaW st s aa H=>.bp λk aw=>by
 have V:=V.le aa;induction k using sF with
 |«local»=>exact Oy V H aw
 |cell=>exact F0 V H λQ E a y af bl cP=>wpAny_loadName_cell V.kind (G (V.kindOf _) (G aw rfl)) af bl cP
 |_=>exact .fail
noncomputable abbrev sI(g:cy)(c:bc)(v:bj)(env:hB)(op:pF)(P:az->Wp Unit)(y:az):Wp Unit:=λQ E s=>a5 g.M c.A (dK v env) (λw bg=>a5 g.M c.A (qY op y w) (λu b0=>P u Q E b0) E bg) E s
theorem Fu(O:g.Ok)(ba:dV g aG)(U:c.Ok g ab.dep)(V:cc c ab env β)(v:bj)(op:pF){old:MI.V}(r:a7 β old y){put:MI.V->M Unit}{P:az->Wp Unit}(h:∀av n u,β.le av->a7 av n u->cS g c av (put n) (P u) (λI I I=>True)):
  cS g c β (A4 aG ab op v old put) (sI g c v env op P y) (λI I I=>True):=
 (ba.ev c ab env β v U V).bind (k:=λw=>λQ E b0=>a5 g.M c.A (qY op y w) (λu dB=>P u Q E dB) E b0) λaY w z l iZ=>(aaB O U (r.le l) iZ op).bind (k:=P) λh2 n u hZ Ds=>h h2 n u (l.trans hZ) Ds
theorem ag6(O:g.Ok)(ba:dV g aG)(U:c.Ok g ab.dep)(V:cc c ab env β)(t v:bj)(op:pF)(pos:cn):cS g c β ((A5 aG g.K ab t op v).bind λI=>M.pure di.next) (j4 g c (i4 (.AugAssign t op v pos) env)) eJ:=by
 have fin:∀{W:Wp Unit},cS g c β (A5 aG g.K ab t op v) W (λI I I=>True)->(∀(Q:fH->aM->Prop)(E:az->aM->Prop) s,W (λI s=>Q .next s) E s->a5 g.M c.A (i4 (.AugAssign t op v pos) env) Q E s)->cS g c β ((A5 aG g.K ab t op v).bind λI=>M.pure di.next) (j4 g c (i4 (.AugAssign t op v pos) env)) eJ:=
  λh k=>(h.bind (k:=λI=>λ(Q:fH->aM->Prop) I s=>Q .next s) λI I I I I=>sg).of k
 cases t with
 |Name x Rq=>exact fin ((abF V x).bind (k:=sI g c v env op λu Q E s=>a5 g.M c.A (Ep env x u) Q E s) λaW o y l r=>Fu O ba U (V.le l) v op r λav n u a_ g9=>qI O U ((V.le l).le a_) x g9) λQ E s k=>wpAny_AugAssign_Name k
 |Attribute o x Rq=>
  exact fin ((ba.ev c ab env β o U V).bind (k:=λox=>λQ E s=>a5 g.M c.A (getAttr ox x ae) (λy s=>sI g c v env op (λu Q E s=>a5 g.M c.A (xd ox x u) Q E s) y Q E s) E s) λdP gJ ox CL zN=>
   (G_ O U zN x ae).bind (k:=sI g c v env op λu Q E s=>a5 g.M c.A (xd ox x u) Q E s) λaW o y l r=>Fu O ba U (V.le (CL.trans l)) v op r λav n u a_ g9=>RN O U (zN.le (l.trans a_)) x g9) λQ E s k=>wpAny_AugAssign_AttributeAny k
 |Subscript o i Rq=>
  generalize q:xX i=aD;induction aD using b3 with
  |none=>exact fin (W:=λI I I=>False) (.asks λw hw=>nomatch q.symm.trans hw) λI I I h=>h.elim
  |some w=>
   obtain(⟨mq,fg,pp⟩):=w;obtain rfl:i=.Constant mq fg pp:=M8 q;obtain ch:=(ba.ev c ab env β o U V).bind (k:=λox=>λQ E s=>a5 g.M c.A (dK (.Constant mq fg pp) env) (λum s=>a5 g.M c.A (sz ox um) (λy s=>sI g c v env op (λu Q E s=>a5 g.M c.A (uz ox um u) Q E s) y Q E s) E s) E s) λdP gJ ox CL zN=>
    (ba.ev c ab env dP (.Constant mq fg pp) U (V.le CL)).bind (k:=λum=>λQ E s=>a5 g.M c.A (sz ox um) (λy s=>sI g c v env op (λu Q E s=>a5 g.M c.A (uz ox um u) Q E s) y Q E s) E s) λav aC um a_ l2=>
     (aaO U (zN.le a_) l2).bind (k:=sI g c v env op λu Q E s=>a5 g.M c.A (uz ox um u) Q E s) λaW o y l r=>Fu O ba U (V.le ((CL.trans a_).trans l)) v op r λaY n u eC g9=>RP O U (zN.le ((a_.trans l).trans eC)) (l2.le (l.trans eC)) g9
   obtain mn:=bH.asks (n:=161) (x:=xX (.Constant mq fg pp)) λI I=>ch;exact fin mn λQ E s k=>Tg k
 |_=>exact .fail
end
noncomputable def bc.fix(c:bc)(e T:aF)(cf e2:cY):bc:=⟨λa=>if a=e then C cf else if a=T then C e2 else c.P a,c.cw,c.fr,c.L,c.A.mark (C (.ref e))⟩
section
variable{c:bc}{ab:cI}{st:St}{s:aM}{e T:aF}{cf e2:cY}
theorem BD:(c.fix e T cf e2).P e=C cf:=if_pos rfl
theorem BC(h:T≠e):(c.fix e T cf e2).P T=C e2:=by show(if T=e then _ else _)=_;exact G (if_neg h) (G (if_pos rfl) rfl)
theorem rD{a:aF}(aa:a≠e)(af:a≠T):(c.fix e T cf e2).P a=c.P a:=by show(if a=e then _ else _)=_;exact G (if_neg aa) (G (if_neg af) rfl)
theorem yb(he:c.P e=none)(e0:c.P T=none){a:aF}{o:cY}(h:c.P a=C o):(c.fix e T cf e2).P a=C o:=G (rD (λq=>by rw[q,he] at h;exact bM h) (λq=>by rw[q,e0] at h;exact bM h)) h
theorem Sat.fix(U:c.Ok g dep)(H:Sat g c st β s)(he:c.P e=none)(e0:c.P T=none)(ge:s.heap.get? e=C cf)(BG:s.heap.get? T=C e2)(re:¬ip cf)(pj:¬ip e2)(iO:T≠e):Sat g (c.fix e T cf e2) st β s:=by
 refine bG H.objs λf hf=>?_;have ne:=H.toSatO.t8 ge re;have Qv:=H.toSatO.t8 BG pj;refine⟨⟨λa o h=>?_,H.cw,⟨f,λn own o q=>?_⟩,H.len,H.facts,H.ghost⟩,H.os,H.loc⟩
 .by_cases aa:a=e
  ·(clear ne iO he;subst aa);rw[BD] at h;(obtain J:=aT h;clear h;subst J);exact ge
  .by_cases af:a=T
   ·(clear Qv iO e0;subst af);rw[BC aa] at h;(obtain J:=aT h;clear h;subst J);exact BG
   .rw[rD aa af] at h;exact H.keep a o h
 .obtain(⟨a,d,aa,af,aJ⟩):=hf n own o q;refine⟨a,d,aa,?_,λbw=>?_⟩
  .clear aJ q;induction own using bZ with
   |true=>exact af
   |false=>exact af.mono (.refl _) (λI=>yb he e0) (λI=>yb he e0)
  ·(clear af;subst bw);obtain(⟨cH,cX,⟨dd,dx⟩,⟨dS,cE⟩,gL⟩):=aJ rfl;exact a3 (ne n o a d q aa) λa9 bf=>a3 (Qv n o a d q aa) λt1 jh=>⟨cH,cX,⟨by exact G (rD a9 t1) dd,dx⟩,⟨by exact G (rD bf jh) dS,cE⟩,gL⟩
theorem Sat.Sp(H:Sat g (c.fix e T cf e2) st β s)(he:c.P e=none)(e0:c.P T=none)(re:¬ip cf)(pj:¬ip e2)(iO:T≠e):Sat g c st β s/\s.heap.get? e=C cf/\s.heap.get? T=C e2:=by
 refine bG H.objs λf hf=>(fi ⟨⟨λa o h=>H.keep a o (yb he e0 h),H.cw,⟨f,λn own o q=>?_⟩,H.len,H.facts,H.ghost⟩,H.os,H.loc⟩ (H.keep e cf BD) (H.keep T e2 (BC iO)));obtain(⟨a,d,aa,af,aJ⟩):=hf n own o q;refine⟨a,d,aa,?_,λbw=>?_⟩
 .induction own using bZ with
  |true=>exact af
  |false=>
   by_cases gx:o=.gone
   ·(clear aJ af q;subst gx);trivial
   .have af:cL g (c.fix e T cf e2).P β a d o:=af;obtain(⟨⟨x,dv,dU⟩,y,cH,cX⟩):=cL.QI gx af;obtain VD:a≠e:=λz=>by rw[z,BD] at dv;(obtain J:=aT dv;clear dv;subst J);exact re dU
    obtain Vx:a≠T:=λz=>by rw[z,BC iO] at dv;(obtain J:=aT dv;clear dv;subst J);exact pj dU
    obtain Gl:d≠e:=λz=>by rw[z,BD] at cH;(obtain J:=aT cH;clear cH;subst J);exact re cX
    have aR:d≠T:=λz=>by rw[z,BC iO] at cH;(have J:=aT cH;clear cH;subst J);exact pj cX
    exact af.mono (.refl _) (λo h=>by rwa [rD VD Vx] at h) (λo h=>by rwa [rD Gl aR] at h)
 ·(clear af q;subst bw);obtain(⟨cH,cX,⟨dd,dx⟩,⟨dS,cE⟩,gL⟩):=aJ rfl;have down:∀{a:aF},(c.fix e T cf e2).P a=none->c.P a=none:=λ{a} h=>by
   generalize q:c.P a=aD;induction aD using b3 with
   |none=>rfl
   |some o=>rw[yb he e0 q] at h;exact zH h
  exact⟨cH,cX,⟨down dd,dx⟩,⟨down dS,cE⟩,gL⟩
theorem bc.Ok.fix(U:c.Ok g dep)(H:Sat g c st β s)(dN:dep<302)(he:c.P e=none)(e0:c.P T=none)(ge:s.heap.get? e=C cf)(BG:s.heap.get? T=C e2){aK cm:Array az}(Gl:cf.data=.fields aK)(aR:e2.data=.fields cm):(c.fix e T cf e2).Ok g (dep+500):=by
 have M6:∀{a:aF}{o:cY}{ar:Array hT}{n:Nat},s.heap.get? a=C o->o.data=.dict ar n->a≠e/\a≠T:=λaa af=>⟨λz=>(by rw[z,ge] at aa;(obtain J:=aT aa;clear aa;subst J);rw[Gl] at af;(injection af)),λz=>(by rw[z,BG] at aa;(obtain J:=aT aa;clear aa;subst J);rw[aR] at af;(injection af))⟩;obtain hd:=U.depth;have cx:=U.units;refine⟨λa o h=>yb he e0 (U.base a o h),U.frames,U.here,λx ak=>?_,?_,(show c.A.depth<=_ by lia),(show c.A.units<=_ by lia),λh=>by lia,by lia⟩
 .obtain(⟨aa,ar,n,aJ⟩):=U.hd x ak;exact bG (H.cw x ak) λde bl=>a3 (M6 bl (show({x.2 with slots:=de}:cY).data=_ from aJ)) λeV dX=>⟨by exact G (rD eV dX) aa,ar,n,aJ⟩
 ·(refine aS H.loc λm J I=>kf J λo ar fm bw ka I=>?_;try clear J);refine a3 (M6 bw ka) λeV dX=>?_;(refine G (show(c.fix e T cf e2).L=c.L from rfl) (G (rD eV dX) ?_));exact U.iX
theorem agj(O:g.Ok)(ba:dV g aG)(U:c.Ok g ab.dep)(V:cc c ab env β)(body:List eO)(rF:eO)(dG:List eO)(pos:cn):cS g c β (JV aG ab body (rF::dG)) (j4 g c (i4 (.Try body [] [] (rF::dG) pos) env)) eJ:=by
 intro aW st s aa H;have V:=V.le aa;have run:=ba.xs c ab env aW body U V aW st s (.refl _) H;unfold At at run ⊢;unfold JV;generalize q:aG.xs ab body st=aD;induction aD using MI.Out.casesOn with
 |fail n=>trivial
 |ex bk=>
  rw[q] at run;dsimp only at run ⊢;unfold Ob;generalize aB:eQ ab.dep 302=aD;induction aD using bZ with
  |false=>trivial
  |true=>
   have dN:ab.dep<302:=bA aB;dsimp only;generalize cE:(aG.xs {ab with dep:=ab.dep+500} (rF::dG) bk)=aD;induction aD using MI.Out.casesOn with
   |fail n=>trivial
   |ex qH=>trivial
   |ok f qH=>
    induction f using MI.di.casesOn with
    |next=>
     dsimp only;intro Q E aq;refine wpAny_Try_finally (run _ _ λe bg av l R=>zr U V.frame R λb0 lP=>?_);have Ut:=lP;(refine aS lP λa J I=>?_;try clear lP;(clear R;subst J));refine⟨(by intro z;(injection z)),?_⟩;refine zr U V.frame Ut.raised λdB rr=>vm U rr λfh m7=>?_;(refine eH m7 λdp ja gF S=>?_;try clear m7);cases ja;refine ih gF.told λcf aK he bb hd kD h0 yi=>we (yi.resolve_left λq=>q.1 trivial) λT e2 cm eK g1 iO kC e0 iz aJ=>?_;have re:¬ip cf:=by refine aS gF.record λdn bY c5=>?_;rw[he] at bY;(obtain J:=aT bY;clear bY;subst J);exact c5
     have pj:=zq iz aJ;obtain ek:=U.fix (e:=a) (T:=T) S dN kD kC he e0 hd iz;obtain gY:cc (c.fix a T cf e2) {ab with dep:=ab.dep+500} env av:=let V:=V.le l;⟨V.scope,V.kind,V.glob,V.blt,V.loc,V.cells,V.frame,V.apart⟩;obtain fin:=ba.xs (c.fix a T cf e2) {ab with dep:=ab.dep+500} env av (rF::dG) ek gY av bk fh (.refl _) (S.fix U kD kC he e0 re pj iO);unfold At at fin;rw[cE] at fin;refine fin _ _ λk5 jg d9 a_ eE fv=>?_;obtain rfl:=fv;dsimp only;exact fO (eE.Sp kD kC re pj iO) λEZ lS JS=>Ji U (⟨a,rfl,⟨cf,aK,lS,bb,hd,kD,h0,.inr (sf T e2 cm eK g1 iO kC JS iz aJ)⟩,EZ⟩:Told g c qH d9 (.ref a) jg) λr_ AU=>aq _ r_ d9 (l.trans a_) AU.raised
    |_=>trivial
 |ok f bk=>
  rw[q] at run;dsimp only at run ⊢;generalize cE:(aG.xs ab (rF::dG) bk)=aD;induction aD using MI.Out.casesOn with
  |fail n=>trivial
  |ex qH=>trivial
  |ok k5 qH=>
   induction k5 using MI.di.casesOn with
   |next=>
    dsimp only;intro Q E aq;refine wpAny_Try_finally (run _ _ λeK bg av l S fv=>?_);obtain fin:=ba.xs c ab env av (rF::dG) U (V.le l) av bk bg (.refl _) S;unfold At at fin;rw[cE] at fin;obtain key:∀uS,a5 g.M c.A (cF (rF::dG) env) (λg ao=>match g with|.next=>Q eK ao|g=>Q g ao) uS bg:=λuS=>fin _ _ λk5 b0 d9 a_ eE aen=>by
     obtain rfl:=aen;refine aq eK b0 d9 (l.trans a_) eE ?_;clear aq q run;induction f using MI.di.casesOn with
     |next=>exact fv
     |brk=>exact fv
     |cont=>exact fv
     |ret v=>(refine aS fv λy e r=>?_;try clear fv);exact⟨y,e,r.le a_⟩
    clear fv;induction eK using wX with
    |next=>exact qP (key _)
    |_=>exact key _
   |_=>trivial
end
noncomputable def bc.oJ(c:bc)(L:aF)(o:cY):bc:=⟨c.P,(L,o)::c.cw,c.fr,c.L,c.A⟩
variable{mB:cY}
section
variable{c:bc}{ab:cI}{st:St}{s:aM}
theorem Sat.oJ{L:aF}{o:cY}{ar:Array hT}(ek:(c.enter L o fr A).Ok g dep)(H:Sat g (c.enter L o fr A) st β s)(f7:s.heap.get? L=C mB)(hd:o.data=.dict ar fm)(aw:xe ar)
  (cb:∀x v,ed x f6=C v->∃y,sD ar x=C y/\a7 β v y):Sat g (c.oJ L mB) {st with loc:=f6} β s:=by
 refine bG H.objs λf hf=>⟨⟨H.keep,λx ak=>?_,⟨f,λn own y q=>?_⟩,H.len,H.facts,H.ghost⟩,H.os,?_⟩
 .rcases dg.mp ak with rfl|ak
  .exact⟨mB.slots,f7⟩
  .exact H.cw x (.tail _ ak)
 .obtain(⟨a,d,aa,af,aJ⟩):=hf n own y q;refine⟨a,d,aa,af,λe=>?_⟩;obtain(⟨cH,cX,⟨dd,dx,fP⟩,⟨dS,cE,fQ⟩,gL⟩):=aJ e;refine⟨cH,cX,⟨dd,λe=>fP (c.L,o) (.head _) e.symm,λx ak=>?_⟩,⟨dS,λe=>fQ (c.L,o) (.head _) e.symm,λx ak=>?_⟩,gL⟩
  .rcases dg.mp ak with rfl|ak
   .exact λz=>dx z.symm
   .exact fP x (.tail _ ak)
  .rcases dg.mp ak with rfl|ak
   .exact λz=>cE z.symm
   .exact fQ x (.tail _ ak)
 .exact bG (H.cw (c.L,o) (.head _)) λde e=>⟨_,⟨_,ar,fm,e,hd,aw,λI=>rfl⟩,cb⟩
theorem bc.Ok.oJ{L:aF}{o:cY}(U:c.Ok g dep)(ek:(c.enter L o c.fr c.A).Ok g dep){ar:Array hT}(hd:mB.data=.dict ar fm):(c.oJ L mB).Ok g dep:=by
 refine⟨U.base,U.frames,λenv he=>?_,λx ak=>?_,U.iX,U.depth,U.units,U.calm,U.dep⟩
 .obtain(⟨aa,a,af,aJ⟩):=U.here env he;refine⟨aa,a,af,?_⟩;rcases aJ with aJ|⟨x,ak,aJ⟩
  .exact .inl aJ
  .exact .inr (bh x (.tail _ ak) aJ)
 .rcases dg.mp ak with rfl|ak
  .exact⟨ek.iX,ar,fm,hd⟩
  .exact U.hd x ak
theorem Sat.agu{L:aF}{o:cY}(ek:(c.enter L o fr A).Ok g dep)(ix:(c.enter L o fr A).Apart)(H:Sat g (c.oJ L mB) st β s)(bL:qS L s.heap aA):Sat g c st β {s with heap:=aA,toks:=t}:=by
 refine bG H.objs λf hf=>?_;have k:=bL.extBut;refine⟨⟨λa x e=>k a x (λz=>?_) (H.keep a x e),λx ak=>?_,⟨f,λn own y q=>?_⟩,H.len,H.facts,H.ghost⟩,H.os,?_⟩
 .obtain e:c.P a=C x:=e;rw[z,show c.P L=none from ek.iX] at e;exact bM e
 .exact bG (H.cw x (.tail _ ak)) λde e=>⟨de,k _ _ (ix x (.tail _ ak)) e⟩
 .obtain(⟨a,d,aa,af,aJ⟩):=hf n own y q;refine⟨a,d,aa,?_,λe=>?_⟩
  .clear q;induction own using bZ with
   |false=>exact af
   |true=>obtain(⟨_,_,⟨_,_,fP⟩,⟨_,_,fQ⟩,_⟩):=aJ rfl;exact af.mono (.refl _) (λI=>k a _ λz=>fP (L,mB) (.head _) z.symm) (λI=>k d _ λz=>fQ (L,mB) (.head _) z.symm)
  .obtain(⟨cH,cX,⟨dd,dx,fP⟩,⟨dS,cE,fQ⟩,gL⟩):=aJ e;exact⟨cH,cX,⟨dd,dx,λx ak=>fP x (.tail _ ak)⟩,⟨dS,cE,λx ak=>fQ x (.tail _ ak)⟩,gL⟩
 ·(refine aS H.loc λm J b=>wd J λdn ar fm bw r=>?_;try clear J);exact⟨m,⟨dn,ar,fm,k _ _ (ix (c.L,o) (.head _)) bw,r⟩,b⟩
theorem cc.oJ{L:aF}(V:cc c ab env β)(gw:L≠c.L):cc (c.oJ L mB) ab env β:=⟨V.scope,V.kind,V.glob,V.blt,V.loc,V.cells,V.frame,λx ak=>by
 rcases dg.mp ak with rfl|ak
 .exact gw
 .exact V.apart x ak⟩
end
section
variable{c:bc}{ab:cI}{st:St}{s:aM}
theorem agW{β:Type}(m:M aV)(f:aV->M β):((kR f6 m).bind f) st=(match m {st with loc:=f6} with
   |.fail n=>.fail n
   |.ok a bk=>f a {bk with loc:=st.loc}
   |.ex bk=>.ex {bk with loc:=st.loc}):=by unfold M.bind kR;cases m {st with loc:=f6}<;>rfl
theorem WD(O:g.Ok)(ba:dV g aG)(U:c.Ok g ab.dep)(dN:ab.dep<400)(V:cc c ab env β){t iter:bj}(aq:(clauses e)[0]? =C ⟨t,iter,ifs,0⟩)(kind:scope.kind=.function)(lr:∀x∈scope.names,x.2≠.cell)
  {cells:List (aO×Nat)}{cl:List (aO×aF)}(cr:pM β cells cl)(H:Sat g c st β s){a b ec:aF}(aN:β.ad[n]? =C (a,d))(aw:β.ad[k]? =C (b,ec)){o:MI.O}(bw:st.at n=C o)(bN:isIt o=ae)(x:aO)(u:az->hC Unit)(cx:∀(y:az)(Q:Unit->aM->Prop)(E:az->aM->Prop)(s:aM),a5 g.M c.A (Ep env x y) Q E s->a5 g.M c.A (u y) Q E s):
  At fW g c β st s ((kR [] (aG.cl ⟨{scope with names:=ou ab.scope.names scope.names},cells,ab.dep⟩ e 0 n k)).bind λI=>jf ab x (MI.V.r k)) (λ(Q:Unit->aM->Prop) E s=>a5 g.M c.A (sm scope env.globals cl [] env.qual none .none (C env)) (λhK fh=>
    ft g.M c.A (.compStart e 0 (.ref a) (.ref b) {hK with scope:=l6 scope env}) (jZ g.M c.A E (C u) (λI s=>Q () s) (.ref b) hK.locals) fh) E s) (λI I I=>True):=by
 refine mD H.loc.obj λfS qa tg hi jv mw oa=>?_;let L:=s.heap.objs.size;let jK:cI:=⟨{scope with names:=ou ab.scope.names scope.names},cells,ab.dep⟩;have ek:(c.enter L fS c.fr c.A).Ok g ab.dep:=U.enter H hi jv (dO _) U.frames (λI h=>.inl h) U.depth U.units U.dep U.calm;let cJ:Env:={newEnv scope L env.globals cl env.qual none .none (C env) nI with scope:=l6 scope env};obtain gY:cc (c.enter L fS c.fr c.A) jK cJ β:=⟨RA V scope,by show(l6 scope env).kind=_;exact kind,V.glob,V.blt,rfl,λx n e=>pM.look cr e,V.frame,bc.oT H hi (dO _)⟩;obtain run:=ba.cl (c.enter L fS c.fr c.A) jK cJ β e 0 n k a d b ec ek dN gY aN aw;refine At.wL (aG:=λbg=>∃aA cW,bg={s with heap:=aA,toks:=cW}/\aA.Ns L (λI=>none)/\∀b o,s.heap.get? b=C o->aA.get? b=C o)
  (m8:=λQ E bg=>ft g.M c.A (.compStart e 0 (.ref a) (.ref b) cJ) (jZ g.M c.A E (C u) (λI s=>Q () s) (.ref b) L) bg) (λbg bL=>?_) λQ E la=>?_
 ·(refine fD bL λaA cW J ns keep=>?_;try clear bL;subst J);have eE:Sat g (c.enter L fS c.fr c.A) {st with loc:=[]} β {s with heap:=aA,toks:=cW}:=H.enter U hi keep (dO _) ⟨_,ns,λx v e=>nomatch e⟩;have run:=run β _ _ (.refl _) eE;have self:∀(Q:az->aM->Prop)(E:az->aM->Prop),Q (.ref a) {s with heap:=aA,toks:=cW}->a5 g.M c.A (oB (.ref a)) Q E {s with heap:=aA,toks:=cW}:=λQ E h=>Ik eE (show St.at {st with loc:=[]} n=C o from bw) aN bN h;have cb:∀{av:aZ},β.le av->∀x v,ed x st.loc=C v->∃y,sD qa x=C y/\a7 av v y:=λl x v e=>(aS (oa x v e) λy aa af=>(bh y aa (af.le l)));unfold At at run ⊢;refine G (agW _ _) ?_;generalize q:aG.cl ⟨{scope with names:=ou ab.scope.names scope.names},cells,ab.dep⟩ e 0 n k {st with loc:=[]}=aD;induction aD using MI.Out.casesOn with
  |fail n=>trivial
  |ok _ bk=>
   rw[q] at run;have RX:∀(Q:Unit->aM->Prop)(E:az->aM->Prop),(∀qL,jf ab x (MI.V.r k) {bk with loc:=st.loc}=.ok () qL->∀ao av,β.le av->Sat g c qL av ao->Q () ao)->(∀w,jf ab x (MI.V.r k) {bk with loc:=st.loc}≠.fail w)->
     ft g.M c.A (.compStart e 0 (.ref a) (.ref b) cJ) (jZ g.M c.A E (C u) (λI s=>Q () s) (.ref b) L) {s with heap:=aA,toks:=cW}:=λQ E oZ acj=>by
    refine xW (vL aq) aq (uF (run (λI ao=>jZ g.M c.A E (C u) (λI s=>Q () s) (.ref b) L (.ok .next) ao) (λe ao=>jZ g.M c.A E (C u) (λI s=>Q () s) (.ref b) L (.error e) ao) λf ao av l S I=>?_) λr ao h=>?_) self
    ·(refine aS S.loc λm J I=>mD J λmB XQ XG f7 OL ZS I=>?_;try clear J);obtain sL:=U.oJ ek OL;obtain e8:=S.oJ ek f7 jv mw (cb l);have fin:=qI (X:=λI I I I I I=>False) O sL ((V.le l).oJ (L:=L) (mB:=mB) λz=>bc.oT (fr:=c.fr) (A:=c.A) H hi (dO _) (c.L,fS) (.head _) z.symm) x (v:=MI.V.r k) (y:=.ref b) ⟨b,ec,a4 l.ad aw,rfl⟩ av _ ao (.refl _) e8;unfold At at fin;show a5 g.M c.A (u (.ref b)) (λI fa=>∃m,fa.heap.Ns L m/\∀aA,qS L fa.heap aA->Q () {fa with heap:=aA}) E ao;refine cx _ _ _ _ ?_;generalize fQ:jf ab x (MI.V.r k) {bk with loc:=st.loc}=aD;induction aD using MI.Out.casesOn with
     |fail w=>exact absurd fQ (acj w)
     |ex qL=>rw[fQ] at fin;exact fin _ _ λI I I I h=>h.elim
     |ok _ qL=>rw[fQ] at fin;exact fin _ _ λI b0 aY eC LW I=>bG (LW.cw (L,mB) (.head _)) λde e=>(bh _ ⟨_,XQ,XG,e,OL,ZS,λI=>rfl⟩ (λaA bL=>oZ qL fQ _ aY (l.trans eC) (Sat.agu (t:=b0.toks) ek (bc.oT H hi (dO _)) LW bL)))
    .induction r using uy with
     |ok f=>exact h
     |error e=>exact h
   dsimp only;generalize fQ:jf ab x (MI.V.r k) {bk with loc:=st.loc}=aD;induction aD using MI.Out.casesOn with
   |fail w=>trivial
   |ok _ qL=>exact λQ E oZ=>RX Q E (λafY h ao av l S=>by rw[fQ] at h;cases h;exact oZ () ao av l S trivial) (by refine G fQ ?_;intro w h;(injection h))
   |ex qL=>exact λQ E oZ=>RX Q E (λafY h ao av l S=>by rw[fQ] at h;(injection h)) (by refine G fQ ?_;intro w h;(injection h))
  |ex bk=>
   rw[q] at run;intro Q E oZ;refine xW (vL aq) aq (uF (run (λI ao=>jZ g.M c.A E (C u) (λI s=>Q () s) (.ref b) L (.ok .next) ao) (λe ao=>jZ g.M c.A E (C u) (λI s=>Q () s) (.ref b) L (.error e) ao) λv ao av l T=>?_) λr ao h=>?_) self
   ·(refine eH T λx J gF S=>?_;try clear T;subst J);refine aS S.loc λm hm I=>⟨m,hm,λaA bL hK bb=>?_⟩;obtain e8:Sat g c {bk with loc:=st.loc} av {ao with heap:=aA}:=Sat.II (t:=ao.toks) ek (bc.oT H hi (dO _)) S bL jv mw (cb l);obtain lP:Told g c {bk with loc:=st.loc} av (.ref x) {ao with heap:=aA}:=by
     refine⟨x,rfl,?_,e8⟩;refine ih gF.told λcf aK a1 a2 cj c9 iL dQ=>we (dQ.resolve_left λq=>q.1 trivial) λT e2 cm eK cA el gE jr oK jL=>?_;have ne:∀{x:aF}{zC:cY}{aK:Array az},ao.heap.get? x=C zC->zC.data=.fields aK->x≠L:=λaa af z=>by(refine kf hm λo ar fm bw ka I=>?_;try clear hm);obtain bw:ao.heap.get? L=C o:=bw;rw[<-z,aa] at bw;(obtain J:=aT bw;clear bw;subst J);rw[af] at ka;injection ka
     exact⟨cf,aK,bL.extBut _ _ (ne a1 cj) a1,a2,cj,c9,iL,.inr (sf T e2 cm eK cA el gE (bL.extBut _ _ (ne jr oK) jr) oK jL)⟩
    exact Ji U lP λfa rr=>oZ _ _ av l rr.raised
   .induction r using uy with
    |ok f=>exact h
    |error e=>exact h
 .refine wpAny_newFunctionEnv lr (λx ak=>nomatch ak) (λaA ei HS=>?_) kind;exact la _ (d1 aA _ rfl ei (λb o e=>HS.extBut b o (kq (fU e)) (f5 _ e)))
end
section
variable{c:bc}{ab:cI}{st:St}{s:aM}
theorem bH.N8{ah:Type}{f:d8->M aV}{W:Wp ah}{R:aZ->aV->ah->Prop}:bH X g c β ((MI.fail n:M d8).bind f) W R:=λI I I I I=>trivial
theorem adv(a:aV)(f:aV->M fb):(M.pure a).bind f=f a:=rfl
theorem WA(O:g.Ok)(ba:dV g aG)(U:c.Ok g ab.dep)(V:cc c ab env β)(e:bj)(scope:pG)(pos:cn)(gens:List uB)(gx:clauses e=gens)(vw:Es e=gens)(acc:MI.O)(ke:hC az)(aU:xi g c acc ke)(x:aO)(u:az->hC Unit)(cx:∀(y:az)(Q:Unit->aM->Prop)(E:az->aM->Prop)(s:aM),a5 g.M c.A (Ep env x y) Q E s->a5 g.M c.A (u y) Q E s):
  cS g c β ((comp aG ab e gens scope acc).bind λw=>jf ab x w) (λ(Q:Unit->aM->Prop) E s=>a5 g.M c.A (Ed e scope env pos ke (En gens) (Et gens env) (C u)) (λ_ s=>Q () s) E s) (λ_ _ _=>True):=by
 unfold comp;induction gens using es with
 |nil=>exact .N8
 |cons q rest=>
  dsimp only;generalize bb:(zw scope&&eQ ab.dep 400&&!isSet q.iter&&kA q.is_async 0)=aD;induction aD using bZ with
  |false=>exact .N8
  |true=>
   obtain(⟨t,iter,ifs,qq⟩):=q;obtain Hz:qq=0:=aR ((x8 ..).symm.trans (bB bb));subst Hz;replace bb:=bR bb;simp only[ew,jl] at bb;(refine a3 bb λJ tM=>?_;try clear bb;refine a3 J λaa af=>?_;try clear J);obtain dN:ab.dep<400:=bA af;unfold zw at aa;simp only[ew,jl] at aa;(refine a3 aa λJ hY=>?_;try clear aa;refine a3 J λbT my=>?_;try clear J;refine a3 bT λcu fL=>?_;try clear bT;refine a3 cu λbu c3=>?_;try clear cu);have kind:scope.kind=.function:=by exact Ib bu
   obtain nodup:(scope.names.map (·.1)).Nodup:=zp my;obtain lr:∀x∈scope.names,x.2≠.cell:=λx ak e=>by obtain this:=eX.mp hY x ak;rw[e] at this;exact c7 this
   obtain aq:(clauses e)[0]? =C ⟨t,iter,ifs,0⟩:=by exact G gx rfl
   generalize lU:oP ab.cells scope.names []=aD;induction aD using b3 with
   |none=>exact λ_ _ _ _ _=>trivial
   |some cells=>
    refine aS (MY V lU) λcl cr Hp=>?_;simp only[A9];refine bH.Q1 ?_;show cS g c β ((aG.ev ab iter).bind λv=>(ni v).bind λn=>(alloc acc).bind λk=>(load n).bind λit=>(match isIt it with
     |true=>(kR [] (aG.cl ⟨{scope with names:=ou ab.scope.names scope.names},cells,ab.dep⟩ e 0 n k)).bind λ_=>M.pure (MI.V.r k)
     |false=>fail 131).bind λw=>jf ab x w) _ _
    refine bH.of ((ba.ev c ab env β iter U V).bind (k:=λahf=>λ(Q:Unit->aM->Prop) E bg=>a5 g.M c.A (oB ahf) (λit b0=>a5 g.M c.A ke (λacc dB=>
     a5 g.M c.A (sm scope env.globals cl [] env.qual none .none (C env)) (λhK fh=>
     ft g.M c.A (.compStart e 0 it acc {hK with scope:=l6 scope env}) (jZ g.M c.A E (C u) (λ_ s=>Q () s) acc hK.locals) fh) E dB) E b0) E bg) (cC:=λ_ _ _=>True) λav v y l r=>(yU O U r).bind (k:=λit=>λ(Q:Unit->aM->Prop) E b0=>a5 g.M c.A ke (λacc dB=>
     a5 g.M c.A (sm scope env.globals cl [] env.qual none .none (C env)) (λhK fh=>
     ft g.M c.A (.compStart e 0 it acc {hK with scope:=l6 scope env}) (jZ g.M c.A E (C u) (λ_ s=>Q () s) acc hK.locals) fh) E dB) E b0) λd9 n it a_ l2=>?_) λQ E s k=>TA (use:=C u) vw (yc tM env) Hp kind (λx ak aX=>CH nodup (G (bV aX) ak)) k
    (refine cz l2 λb ec J aB=>?_;try clear l2;subst J);intro aW st s aa H;refine .alloc λaN=>?_;obtain aB:=a4 aa.ad aB;let qK:St:={st with σ:=st.σ.put cU st.no (ae,acc),no:=st.no+1};refine At.Oj (Ew:=az) (aG:=λbg y av=>aW.le av/\Sat g c qK av bg/\∃a d,y=.ref a/\av.ad[st.no]? =C (a,d)) (m8:=λy=>λQ E dB=>a5 g.M c.A (sm scope env.globals cl [] env.qual none .none (C env)) (λhK fh=>
     ft g.M c.A (.compStart e 0 (.ref b) y {hK with scope:=l6 scope env}) (jZ g.M c.A E (C u) (λ_ s=>Q () s) y hK.locals) fh) E dB) (λbg y aY Hj=>?_) λQ E la=>aU st aW s _ E H aN λao aY y a d l S e iy=>la ao y aY (fi l S (gi a d e iy)) l
    obtain(⟨eC,S,a,d,rfl,aw⟩):=Hj;refine .load S λo dp Ni bw fo _=>?_;have yp:=a4 eC.ad aB;rw[yp] at fo;(obtain J:=aT fo;clear fo;refine a3 (eD J) λbT cu=>?_;clear J;subst bT;subst cu);split
    .rename_i bN;have lt:=((l.trans a_).trans aa).trans eC;simp only[A9,adv];refine WD O ba U dN (V.le lt) aq kind lr (cr.imp λ_ _ x=>⟨x.1,(bG x.2 λd q=>⟨d,a4 lt.ad q⟩)⟩) S yp aw bw bN x u cx
    .exact At.fail (n:=131)
noncomputable abbrev Qx(x:aO)(p:cn)(env:hB):az->hC Unit:=λy=>assignAll y ((qW [.Name x p] env).map (·.2))
theorem ab8(x:aO)(p:cn)(env:hB)(y:az):Qx x p env y=mQ (.Name x p) env y:=rfl
theorem SY(O:g.Ok)(ba:dV g aG)(U:c.Ok g ab.dep)(V:cc c ab env β){v:bj}{gens:List uB}{q:cn}{acc:MI.O}{ke:hC az}(x:aO)(p pos:cn)(gx:clauses v=gens)(vw:Es v=gens)(aU:xi g c acc ke)
  (he:dK v env=Ed v scope env (Eh gens q) ke (En gens) (Et gens env))(cx:∀u,evalThenUse v env u=(do let _ <-Ed v scope env (Eh gens q) ke (En gens) (Et gens env) (C u)))
  (bL:swapsWith v (C (.Name x p)) pos.line env=pure ae\/swapsWith v (C (.Name x p)) pos.line env=pure ai)(hw:Ee [.Name x p] v env=pure none):
  cS g c β ((comp aG ab v gens scope acc).bind λw=>(jf ab x w).bind λI=>M.pure di.next) (j4 g c (i4 (.Assign [.Name x p] v pos) env)) eJ:=by
 rcases bL with bL|bL
 .obtain this:=(WA O ba U V v scope (Eh gens q) gens gx vw acc ke aU x (Qx x p env) (λy Q E s k=>by exact G (ab8 _ _ _ _) (wR k))).bind (f:=λI=>M.pure di.next) (k:=λI=>λ(Q:fH->aM->Prop) I s=>Q .next s) (cC:=eJ) λI I I I I=>sg;simp only[A9] at this;refine this.of λQ E s k=>G (exec_Assign_arm _ _ _) (b2 (kX (G (show swapsWithSole [.Name x p] v pos.line env=pure ae from bL) (b2 (d3 ?_)))));(refine G (if_pos rfl) (G (cx _) ?_));exact b2 (b2 (d4 k (λI s h=>d3 (d3 h)) λI I e=>e))
 .refine bH.of (((Gb O ba U V v scope (Eh gens q) gens gx vw acc ke aU)).bind (k:=λy=>λ(Q:fH->aM->Prop) E bg=>a5 g.M c.A (mQ (.Name x p) env y) (λI s=>Q .next s) E bg) (cC:=eJ) λav w y l r=>?_) λQ E s k=>KW (G he k) bL hw;refine bH.of ((qI O U (V.le l) x r).bind (k:=λI=>λ(Q:fH->aM->Prop) I s=>Q .next s) λI I I I I=>sg) λQ E s k=>wR k
end
section
variable{c:bc}{ab:cI}{st:St}{s:aM}
theorem aaJ{x:Option hl}(h:Pm x=ae):x=C .local:=cN h λk e h=>by
 refine G e ?_;clear e;induction k using sF with
 |«local»=>rfl
 |_=>exact c7 h
theorem afj(V:cc c ab env β){line:Nat}{F:bj->Option aO}(Hi:∀x p,F (.Name x p)=if env.kindOf x==C .local&&p.line==line then C x else none)(h:JB line ab.scope.names cm=ae):
  cm.filterMap F=cm.map nameOf:=by
 induction cm with
 |nil=>rfl
 |cons t cm bF=>refine cN (bR h) λw q hw=>?_;(refine G (l1 q) (G DV ?_);(refine G (Hi _ _) (G (V.kindOf _) ?_));refine G (aaJ (bR hw)) (G (d2 (bB hw)) (G (if_pos (by(refine G (beq_self_eq_true _) (G (beq_self_eq_true _) ?_));rfl)) ?_)));exact congrArg (w.1::·) (bF (bB h))
theorem acD:∀{l:List aO},oi l=ae->l.length=2\/l.length=3->l.eraseDups.length=l.length
 |[x,y],h,_=>by
  simp only[oi,List.all_cons,List.all_nil,Lb,jl] at h;obtain this:¬x=y:=λe=>by rw[gu.mpr e] at h;exact jB h
  have:(y==x)=false:=by exact gM beq_eq_false_iff_ne (λe=>this e.symm)
  simp[List.eraseDups,List.eraseDupsBy,S4,this]
 |[x,y,z],h,_=>by
  simp only[oi,List.all_cons,List.all_nil,Lb,jl,ew] at h;have n:∀{a b:aO},eqs a b=ai->(b==a)=false:=λ{a b} q=>by refine gM beq_eq_false_iff_ne ?_;exact λe=>by rw[gu.mpr e.symm] at q;exact jB q
  simp[List.eraseDups,List.eraseDupsBy,S4,n h.1.1,n h.1.2,n h.2]
 |[],_,h=>by simp at h
 |[_],_,h=>by simp at h
 |_::_::_::_::_,_,h=>by simp at h
theorem Yp{line:Nat}{names:List (aO×hl)}(h:JB line names cm=ae)(h0:cm≠ []):(cm.head?.map (·.pos.line)).getD 0=firstLine cm:=by
 induction cm using es with
 |nil=>exact absurd rfl h0
 |cons t cm=>exact cN (bR h) λw q I=>by exact G (l1 q) rfl
theorem af2(V:cc c ab env β){aK:List bj}{p dI:cn}(h:DC ab cm aK=ae):Ee [.Tuple cm k p] (.Tuple aK eF dI) env=pure (C (cm.map nameOf)):=by
 unfold DC at h;simp only[ew,K4,jl] at h;(refine a3 h λJ h8=>?_;try clear h;refine a3 J λbT h7=>?_;try clear J;refine a3 bT λcu eT=>?_;try clear bT;refine a3 cu λjC cP=>?_;try clear cu;refine a3 jC λsh bl=>?_;try clear jC;refine a3 sh λsi aJ=>?_;try clear sh;refine a3 si λaa af=>?_;try clear si);have af:=d2 af;have aa:cm.length=2\/cm.length=3:=aa.imp d2 d2;obtain h0:cm≠ []:=λe=>by(clear af aa bl cP;subst e);simp at aa
 obtain a9:(!(cm.length==2||cm.length==3)||aK.length !=cm.length||env.blockKind !=.function)=false:=by
  obtain this:env.blockKind=.function:=by unfold Env.blockKind;exact G V.kind rfl
  (refine G this (G af ?_));rcases aa with q|q<;>refine G q ?_<;>rfl
 obtain bf:∀F:bj->Bool,(∀e,F e=isStar e)->aK.any F=false:=λF Hi=>by
  refine G (show F=isStar from funext Hi) ?_;clear a9;revert aJ;generalize aK=ws;intro aJ;induction ws with
  |nil=>rfl
  |cons e r bF=>refine a3 (zm aJ) λdS cE=>?_;(refine G D9 (G dS (G (bF cE) ?_)));rfl
 obtain cB:(cm.map nameOf).eraseDups.length=(cm.map nameOf).length:=acD cP (G (gB _) aa);unfold Ee;dsimp only;(refine G a9 (G (bf _ (λe=>by cases e<;>rfl)) (G (Yp bl h0) (G (afj V (λI I=>rfl) bl) (G cB (G eT (G h7 (G (gB _) ?_))))))));simp only[bne_self_eq_false,Lc,TB,if_false]
theorem af1(O:g.Ok)(U:c.Ok g dep):∀{aK:List MI.V}{aH:List az}{β:aZ},cc c ab env β->bK (a7 β) aK aH->
  bH fW g c β (p1 ab cm aK) (λQ E s=>a5 g.M c.A (w9 (cm.map λt=>bindName env (nameOf t)) aH) Q E s) AW:=by
 induction cm with
 |nil=>
  intro aK aH β V R;cases R with
  |nil=>exact(bH.pure (a:=()) λI I=>trivial).of λQ E s k=>d3 k
  |cons _ _=>exact .fail
 |cons t cm bF=>
  intro aK aH β V R;cases R with
  |nil=>exact .fail
  |cons r rs=>exact .asks λw q=>G (l1 q) (bH.of ((qI O U V w.1 r).bind λav I I l I=>bF (V.le l) (rs.imp λI I x=>x.le l)) λQ E s k=>b2 (iI (d4 (wpAny_bindName k) (λI I x=>x) λI I x=>x)))
theorem ahc(ba:dV g aG)(U:c.Ok g ab.dep)(O:g.Ok)(V:cc c ab env β)(cm aK:List bj)(k eF:Nat)(p dI pos:cn):cS g c β (Fp aG ab cm aK eF dI) (j4 g c (i4 (.Assign [.Tuple cm k p] (.Tuple aK eF dI) pos) env)) eJ:=by
 unfold Fp;split
 .rename_i bL;obtain aag:=af2 (k:=k) (eF:=eF) (p:=p) (dI:=dI) V bL;unfold DC at bL;simp only[ew,K4,jl] at bL;(refine a3 bL λJ h8=>?_;try clear bL;refine a3 J λbT _=>?_;try clear J;refine a3 bT λcu _=>?_;try clear bT;refine a3 cu λjC _=>?_;try clear cu;refine a3 jC λsh bl=>?_;try clear jC;refine a3 sh λsi _=>?_;try clear sh;refine a3 si λ_ _=>?_;try clear si);have dN:ab.dep<400:=bA h8;refine bH.of ((ba.ev c ab env β (.Tuple aK eF dI) U V).bind (k:=λy=>λ(Q:fH->aM->Prop) E bg=>a5 g.M c.A (unpackItems y (cm.map nameOf).length none) (λitems b0=>
   a5 g.M c.A (w9 ((cm.map nameOf).reverse.map λn=>bindName env n) items.reverse) (λ_=>Q .next) E b0) E bg) (cC:=eJ) λav v y l r=>?_) λQ E s k=>PyProof.Rows.Assign_Tuple_swapped k rfl aag
  unfold R1;split
  .rename_i n;intro aW st s aa H;obtain r:=r.le aa;(refine cz r λa1 eZ gG J=>?_;try clear r;(clear r;subst J));refine G (A9 _ _ _) (.og H gG λo R=>?_);induction o using MI.O.casesOn with
   |tup xs=>
    obtain(⟨_,us,q,g1,g2⟩):=R;dsimp only;split
    .rename_i bb;have rK:=d2 bb;have cB:xs.length=us.size:=by obtain this:=g2.length;simpa using this
     obtain rev:bK (a7 aW) xs.reverse us.toList.reverse:=g2.reverse;have key:∀aA,lK s.heap.objs.size s.heap aA->At fW g c aW st {s with heap:=aA} ((p1 ab cm.reverse xs.reverse).bind λ_=>M.pure di.next) (λQ E s=>a5 g.M c.A (w9 ((cm.map nameOf).reverse.map λn=>bindName env n) us.toList.reverse) (λ_=>Q Flow.next) E s) eJ:=λaA he=>
      ((af1 O U (V.le (l.trans aa)) rev aW st {s with heap:=aA} (.refl _) (H.grow (t:=s.toks) λb o e=>he b o (kq (fU e)) e)).bind (k:=λ_=>λ(Q:fH->aM->Prop) _ s=>Q .next s) λd9 _ _ bk ao _ _ S=>sg _ _ _ (.refl _) S).of λQ E k=>by(refine G (bV List.map_reverse) (G List.map_map ?_));exact d4 k (λ_ _ x=>x) λ_ _ x=>x
     unfold At at key ⊢;generalize w:((p1 ab cm.reverse xs.reverse).bind λ_=>M.pure di.next) st=aD;induction aD using MI.Out.casesOn with
     |fail n=>trivial
     |ok v bk=>rw[w] at key;dsimp only at key ⊢;intro Q E aq;(refine G (gB _) (G rK (G cB ?_)));exact S1 (U.calm dN) ⟨_,g1,rfl,q,rfl⟩ λaA he=>key aA he Q E aq
     |ex bk=>rw[w] at key;dsimp only at key ⊢;intro Q E aq;(refine G (gB _) (G rK (G cB ?_)));exact S1 (U.calm dN) ⟨_,g1,rfl,q,rfl⟩ λaA he=>key aA he Q E aq
    .exact .fail
   |_=>exact .fail
  .exact .fail
 .exact .fail
end
noncomputable def bc.held(c:bc)(e:aF):bc:=⟨c.P,c.cw,c.fr,c.L,c.A.mark (C (.ref e))⟩
section
variable{c:bc}{ab:cI}{st:St}{s:aM}{e:aF}{v:az}
theorem bc.Ok.held(U:c.Ok g dep)(h:dep<302):(c.held e).Ok g (dep+500):=by obtain hd:=U.depth;obtain cx:=U.units;exact⟨U.base,U.frames,U.here,U.hd,U.iX,(show c.A.depth<=_ by lia),(show c.A.units<=_ by lia),λh=>by lia,by lia⟩
theorem Told.held(T:Told g c st β v s):Told g (c.held e) st β v s:=by(refine eH T λcq J gF S=>?_;try clear T;subst J);exact⟨cq,rfl,⟨gF.told⟩,⟨⟨S.keep,S.cw,S.objs.imp λI F=>F.Bm rfl λI x=>x,S.len,S.facts,S.ghost⟩,S.os,S.loc⟩⟩
theorem Told.agv(T:Told g (c.held e) st β v s):Told g c st β v s:=by(refine eH T λcq J gF S=>?_;try clear T;subst J);exact⟨cq,rfl,⟨gF.told⟩,⟨⟨S.keep,S.cw,S.objs.imp λI F=>F.Bm rfl λI x=>x,S.len,S.facts,S.ghost⟩,S.os,S.loc⟩⟩
theorem cc.other{bI:bc}{jK:cI}(V:cc c ab env β)(h:bI.L=c.L)(hr:bI.cw=c.cw)(aA:bI.fr=c.fr)(aa:jK.scope=ab.scope)(af:jK.cells=ab.cells):cc bI jK env β:=
 ⟨by exact G aa V.scope,V.kind,V.glob,V.blt,by exact G h V.loc,by exact G af V.cells,by exact G aA V.frame,by unfold bc.Apart;(refine G hr (G h ?_));exact V.apart⟩
theorem Told.run(U:c.Ok g dep)(dN:dep<302){ah:Type}{m:M aV}{W:oA->Wp ah}{R:aZ->aV->ah->Prop}{a:aV}(T:Told g c st β v s)
  (hm:∀bI:bc,bI.Ok g (dep+500)->bI.L=c.L->bI.cw=c.cw->bI.fr=c.fr->bI.A=c.A.mark (C v)->bH fW g bI β m (W bI.A) R)(e:m st=.ok a bk)
  {Q:ah->aM->Prop}(aq:∀x ao av,β.le av->Told g c bk av v ao->R av a x->Q x ao):W (c.A.mark (C v)) Q E s:=by
 (refine eH T λdp J gF S=>?_;try clear T;subst J);refine ih gF.told λcf aK he bb hd kD h0 yi=>we (yi.resolve_left λq=>q.1 trivial) λT e2 cm eK g1 iO kC e0 iz aJ=>?_;have re:¬ip cf:=by refine aS gF.record λdn bY c5=>?_;rw[he] at bY;(obtain J:=aT bY;clear bY;subst J);exact c5
 have pj:=zq iz aJ;obtain ek:=U.fix (e:=dp) (T:=T) S dN kD kC he e0 hd iz;obtain fin:=hm (c.fix dp T cf e2) ek rfl rfl rfl rfl β st s (.refl _) (S.fix U kD kC he e0 re pj iO);unfold At at fin;rw[e] at fin;exact fin Q E λx jg d9 a_ eE fv=>fO (eE.Sp kD kC re pj iO) λEZ lS JS=>aq x jg d9 a_ ⟨dp,rfl,⟨cf,aK,lS,bb,hd,kD,h0,.inr (sf T e2 cm eK g1 iO kC JS iz aJ)⟩,EZ⟩ fv
theorem agi(O:g.Ok)(ba:dV g aG)(U:c.Ok g ab.dep)(V:cc c ab env β)(body:List eO)(x:aO)(p:cn)(xS:eO)(aB:List eO)(b6 pos:cn):
  cS g c β (JU aG g.K ab body x (xS::aB)) (j4 g c (i4 (.Try body [.ExceptHandler (C (.Name x p)) none (xS::aB) b6] [] [] pos) env)) eJ:=by
 intro aW st s aa H;have V:=V.le aa;have run:=ba.xs c ab env aW body U V aW st s (.refl _) H;unfold At at run ⊢;unfold JU;generalize q:aG.xs ab body st=aD;induction aD using MI.Out.casesOn with
 |fail n=>trivial
 |ok f bk=>
  rw[q] at run;dsimp only at run ⊢;intro Q E aq;refine wpAny_Try_except (run _ _ λeK bg av l S fv=>?_);induction eK using wX with
  |next=>exact qP (aq _ bg av l S fv)
  |_=>exact aq _ bg av l S fv
 |ex bk=>
  rw[q] at run;dsimp only at run ⊢;unfold handled;generalize Zk:eQ ab.dep 302=aD;induction aD using bZ with
  |false=>trivial
  |true=>
   have dN:ab.dep<302:=bA Zk;dsimp only;generalize aN:(nc g.K {ab with dep:=ab.dep+500} x bk)=aD;induction aD using MI.Out.casesOn with
   |fail n=>trivial
   |ex qK=>trivial
   |ok v qK=>
    induction v using MI.V.casesOn with
    |c v=>
     induction v using l9 with
     |ref a=>
      dsimp only;generalize aU:cv a 128=aD;induction aD using bZ with
      |false=>trivial
      |true=>
       generalize ak:exmOne g.K (.ref 128) (.ref 128)=aD;induction aD using b3 with
       |none=>trivial
       |some b=>
        induction b using bZ with
        |false=>trivial
        |true=>
         dsimp only;obtain rfl:=d2 aU;generalize cb:(aG.xs {ab with dep:=ab.dep+500} (xS::aB) qK)=aD;induction aD using MI.Out.casesOn with
         |fail n=>trivial
         |ex qK=>trivial
         |ok f qH=>
          dsimp only;intro Q E aq;refine wpAny_Try_except (run _ _ λe bg av l R=>zr U V.frame R λb0 lP=>vm U lP λdB rr=>?_);have LZ:=rr;(refine aS LZ λcq J I=>?_;try clear LZ;(clear lP R;subst J));refine wpAny_handleBy_cons (codeAny_handlers_test (prog:=g.prog) (w:=g.w) ?_) (by intro q;(injection q));refine Told.run (W:=λA Q E s=>a5 g.M A (dK (.Name x p) env) Q E s) U dN rr (λbI ek a9 iM bf cB=>th (ab:={ab with dep:=ab.dep+500}) O ek ((V.le l).other a9 iM bf rfl rfl) x p) aN λy fh aY eC m7 r=>?_;obtain rfl:=r;have L0:=m7;(refine eH L0 λI GH gF S=>?_;try clear L0);cases GH;refine fD gF.told λcf aK he bb I=>?_;have LT:Looks g.M fh.heap (typeOf (.ref cq)) (.ref 128):=by exact G (bV bb) ((Looks.ld (part:=none) he).andThen .now)
          refine(exm_one (S.toSatO.fl U O) LT ak).here ?_;simp only[if_true];have sL:=U.held (e:=cq) dN;refine codeAny_handlers_suite (vm (c:=c.held cq) sL m7.held λjg Uu=>Told.run (W:=λA Q E s=>a5 g.M A (cF (xS::aB) env) Q E s) U dN Uu.agv (λbI ek a9 iM bf cB=>ba.xs bI {ab with dep:=ab.dep+500} env aY (xS::aB) ek ((V.le (l.trans eC)).other a9 iM bf rfl rfl)) cb λy r_ h2 hZ AU r=>?_);(refine eH AU λI I I Up=>?_;try clear AU);exact aq _ r_ h2 ((l.trans eC).trans hZ) Up r
     |_=>trivial
    |_=>trivial
end
noncomputable def cy.nZ(g:cy):Prop:=sE g.K (.ref 128)=ae/\∀(A:oA)(env:hB)(s:aM)(y:az)(l:bz)(t:Tok)(Q:fH->aM->Prop)(E:az->aM->Prop),A.handled=none->A.depth<=900->A.units<=4000->g.K.In s.heap->sC g.p g.loose g.iS g.iR s.heap->
 (∀aA cW e cf aK iL,(∀b o,s.heap.get? b=C o->aA.get? b=C o)->s.heap.objs.size<=e->aA.get? e=C cf->cf.cls=.ref 128->cf.data=.fields aK->aK[0]? =C iL->aK[1]? =C .none->E (.ref e) {s with heap:=aA,toks:=cW})->
 a5 g.M A (gc (.ref 128) [y,.str (aQ l) t]) (λv bg=>a5 g.M A (nK env (C (pure v)) none) Q E bg) E s
section
variable{c:bc}{ab:cI}{st:St}{s:aM}
theorem aee(x:hC az):nK env (C x) none=x>>=λv=>nK env (C (pure v)) none:=by unfold nK;simp only[pure_bind]
theorem R3{m:hC Bool}(h:∃b,m=pure b):m=pure ae\/m=pure false:=by
 (refine bG h λb J=>?_;try clear h;subst J);cases b
 .exact .inr rfl
 .exact .inl rfl
theorem At.raise{ah:Type}{W:Wp ah}{R:aZ->aV->ah->Prop}(h:∀(Q:ah->aM->Prop)(E:az->aM->Prop),(∀e ao av,β.le av->X g c st av e ao->E e ao)->W Q E s):At X g c β st s (MI.raise:M aV) W R:=h
theorem aeb(O:g.Ok)(hN:g.nZ)(ba:dV g aG)(U:c.Ok g ab.dep)(V:cc c ab env β)(rB:cn){a b:bj}(af:mA [a,b]=ae)(dN:ab.dep<280):cS g c β ((aG.ev ab a).bind λI=>(aG.ev ab b).bind λv=>(bp 167 v.ck).bind λI=>raise)
  (λ(Q:fH->aM->Prop) E bg=>a5 g.M c.A (sy rB (.ref 128) [] (mN rB (lF [a,b] env)) []) (λv s=>a5 g.M c.A (nK env (C (pure v)) none) Q E s) E bg) eJ:=
 have r7:=zm af;have JC:=(zm r7.2).1
 ((ba.ev c ab env β a U V).bind (k:=λy=>λ(Q:fH->aM->Prop) E bg=>a5 g.M c.A (dK b env) (λz b0=>g.K.In b0.heap/\a5 g.M c.A (gc (.ref 128) [y,z]) (λv s=>a5 g.M c.A (nK env (C (pure v)) none) Q E s) E b0) E bg) (cC:=eJ) λd9 v y a_ r=>
  (ba.ev c ab env d9 b U (V.le a_)).bind (k:=λz=>λ(Q:fH->aM->Prop) E b0=>g.K.In b0.heap/\a5 g.M c.A (gc (.ref 128) [y,z]) (λv s=>a5 g.M c.A (nK env (C (pure v)) none) Q E s) E b0) λh2 w z hZ afh=>λaW st s hle H=>
   .ck (W:=λz=>λQ E b0=>g.K.In b0.heap/\a5 g.M c.A (gc (.ref 128) [y,z]) (λv s=>a5 g.M c.A (nK env (C (pure v)) none) Q E s) E b0) (afh.le hle) λe CK tz a8=>.raise λQ E aq=>⟨H.toSatO.fl U O,hN.2 c.A env s y CK tz Q E (U.calm (bU (by assumption) (bA rfl))) (by obtain this:=U.depth;lia) (by obtain this:=U.units;lia) (H.toSatO.fl U O) (H.toSatO.top U O) λaA cW e cf aK iL keep fresh he lU Zw aai aaj=>
    aq _ _ aW (.refl _) ⟨e,rfl,⟨cf,aK,he,lU,Zw,(match q:c.P e with|none=>rfl|some o=>absurd (fU (H.keep e o q)) (i6.mpr fresh)),⟨iL,aai⟩,.inl ⟨id,aaj⟩⟩,H.grow keep⟩⟩).of λQ E s k=>
  Ax (P:=λh=>g.K.In h) (G (nt af) rfl) (λh X=>keeps_K hN.1 h X) (n6 af (kS (d4 k (λy bg dq=>kS (d4 dq (λz b0 fz=>nL fz) λI I e=>e) (nB JC _)) λI I e=>e) (nB r7.1 _)))
theorem aha(O:g.Ok)(hN:g.nZ)(ba:dV g aG)(U:c.Ok g ab.dep)(V:cc c ab env β)(x:aO)(p rB pos:cn)(a b:bj):cS g c β (Ju aG g.K ab x a b) (j4 g c (i4 (.Raise (C (.Call (.Name x p) [a,b] [] rB)) none pos) env)) eJ:=λdP st s h0 H=>.guard λbb=>
 have af:=(ew _ _).mp bb;have V:=V.le h0
 ((th (X:=fW) O U V x p).bind (f:=λf=>(bp 168 f.aj).bind λf=>(guard 166 (isRef 128 f)).bind λI=>(aG.ev ab a).bind λI=>(aG.ev ab b).bind λv=>(bp 167 v.ck).bind λI=>raise)
  (k:=λf=>λ(Q:fH->aM->Prop) E bg=>a5 g.M c.A (sy rB f [] (mN rB (lF [a,b] env)) []) (λv s=>a5 g.M c.A (nK env (C (pure v)) none) Q E s) E bg) (cC:=eJ)
  λav w y l r=>.asks λG8 q=>λaW st s aa H=>.guard λgx=>by cases x2 q;cases Cs gx;cases(show y=.ref 128 from r);exact aeb O hN ba U (V.le (l.trans aa)) rB af.2 (bA af.1) aW st s (.refl _) H).of (λQ E s k=>by refine G (arm_exec_Raise _ _ _ _) (b2 (kX ?_));show a5 g.M c.A (nK env (C (do let v <-dK (.Call (.Name x p) [a,b] [] rB) env;uJ pos;pure v)) none) Q E s;(refine G (aee _) (G ((oO (λI I I h=>by(injection h))) _ _) ?_));exact b2 (b2 (b2 (d4 k (λf bg h=>d4 h (λv b0 h=>b2 (kX (d3 h))) λI I e=>e) λI I e=>e)))) dP st s (.refl _) H
theorem Zg{h:Ec}{w:aO×cn×eO×List eO×cn}(q:OJ h=C w)(k:h=.ExceptHandler (C (.Name w.1 w.2.1)) none (w.2.2.1::w.2.2.2.1) w.2.2.2.2->P):P:=by
 cases h with
 |ExceptHandler ty nm b p=>
  induction nm using b3 with
  |some=>exact bM q
  |none=>
   induction b using es with
   |nil=>exact bM q
   |cons b aB=>exact ct q λe a1 q=>ct q λx a2 q=>by(obtain J:=aT q;clear q;(clear q;subst J));exact k (G a1 (G (l1 a2) rfl))
theorem VM(O:g.Ok)(ba:dV g aG)(U:c.Ok g ab.dep)(V:cc c ab env β)(t v:bj)(p:cn):cS g c β (asg aG g.K ab t v) (j4 g c (i4 (.Assign [t] v p) env)) eJ:=by
 cases v with
 |ListComp=>exact .asks λx h=>by exact G (l1 h) (SY O ba U V _ _ _ rfl rfl (L6 O U) rfl (λI=>rfl) (R3 ⟨_,rfl⟩) rfl)
 |DictComp=>exact .asks λx h=>by exact G (l1 h) (SY O ba U V _ _ _ rfl rfl (L5 O U) rfl (λI=>rfl) (R3 ⟨_,rfl⟩) rfl)
 |Tuple aK eF dI=>
  show cS g c β (match DE t with|some w=>_|none=>_) _ _;generalize q:DE t=aD;induction aD using b3 with
  |some w=>exact G (agk q) (ahc ba U O V _ _ _ _ _ _ _)
  |none=>exact SX O ba U V _ _ _
 |_=>exact SX O ba U V _ _ _
theorem aed(O:g.Ok)(hN:g.nZ)(ba:dV g aG)(U:c.Ok g ab.dep)(V:cc c ab env β)(e:Option bj)(p:cn){w}(h:Rw e=C w):cS g c β (Ju aG g.K ab w.1 w.2.2.1 w.2.2.2.1) (j4 g c (i4 (.Raise e none p) env)) eJ:=
 ct h λe a1 h=>ct h λq a2 h=>ct h λf cj h=>ct h λas c9 h=>ct h λI dQ h=>by(obtain J:=aT h;clear h;(clear h;subst J));(refine G a1 (G (MF a2) (G (l1 cj) (G (ug c9) (G (lq dQ) ?_)))));exact aha O hN ba U V _ _ _ _ _ _
theorem agh(O:g.Ok)(ba:dV g aG)(U:c.Ok g ab.dep)(V:cc c ab env β)(b:List eO)(bL:List Ec)(fin:List eO)(p:cn):cS g c β (Sd aG g.K ab b bL fin) (j4 g c (i4 (.Try b bL [] fin p) env)) eJ:=
 match fin with
 |f::dG=>.asks λI h=>by exact G (lq h) (agj O ba U V _ _ _ _)
 |[]=>.asks λI aa=>.asks λw af=>by refine G (lu aa) ?_;exact Zg af λe=>by exact G e (agi O ba U V _ _ _ _ _ _ _)
theorem ag0(O:g.Ok)(hN:g.nZ)(ba:dV g aG)(U:c.Ok g ab.dep)(V:cc c ab env β)(s:eO):cS g c β (dv aG g.K ab s) (j4 g c (i4 s env)) eJ:=by
 cases s with
 |Expr e pos=>
  show cS g c β (match vK e with|true=>_|false=>_) _ _;generalize q:vK e=aD;induction aD using bZ with
  |true=>exact .fail
  |false=>exact ag7 ba U V e pos q
 |Pass=>exact sg.of λQ E s k=>wpAny_Pass k
 |Break=>exact(bH.pure (v:=di.brk) (a:=Flow.brk) (R:=eJ) λI I=>rfl).of λQ E s k=>wpAny_Break k
 |Continue=>exact(bH.pure (v:=di.cont) (a:=Flow.cont) (R:=eJ) λI I=>rfl).of λQ E s k=>wpAny_Continue k
 |Return o=>
  induction o using b3 with
  |none=>exact(bH.pure (v:=di.ret nF) (a:=Flow.ret .none) (R:=eJ) λI I=>⟨_,rfl,rfl⟩).of λQ E s k=>wpAny_Return_none k
  |some=>exact ahb ba U V _ _
 |Assign cm v p=>exact .asks λt h=>by exact G (lu h) (VM O ba U V t v p)
 |AugAssign=>exact ag6 O ba U V _ _ _ _
 |If=>exact ag9 ba U V _ _ _ _
 |While=>exact .asks λI h=>by exact G (lq h) (ahd ba U V _ _ _)
 |For=>exact .asks λI h=>by exact G (lq h) (ag8 O ba U V _ _ _ _)
 |Raise e k p=>
  induction k using b3 with
  |none=>exact .asks λw h=>aed O hN ba U V e p h
  |some=>exact .fail
 |Try=>exact .asks λI h=>by exact G (lq h) (agh O ba U V _ _ _ _)
 |_=>exact .fail
theorem ahe(O:g.Ok)(hN:g.nZ)(ba:dV g aG)(U:c.Ok g ab.dep)(V:cc c ab env β)(b:List eO):cS g c β (S0 aG g.K ab b) (dW g c (cF b env)) eJ:=by
 induction b using es with
 |nil=>exact sg.of λQ E s k=>qP k
 |cons s r=>
  refine bH.of ((ag0 O hN ba U V s).bind (k:=λf=>λ(Q:fH->aM->Prop) E ao=>match f with|.next=>a5 g.M c.A (cF r env) Q E ao|f=>Q f ao) (cC:=eJ) λav eK f l fv=>?_) λQ E s k=>jm k;induction eK using MI.di.casesOn with
  |next=>obtain rfl:=fv;exact ba.xs c ab env av r U (V.le l)
  |brk=>obtain rfl:=fv;exact bH.pure (R:=eJ) λI I=>rfl
  |cont=>obtain rfl:=fv;exact bH.pure (R:=eJ) λI I=>rfl
  |ret v=>(refine aS fv λy J r=>?_;try clear fv;subst J);exact bH.pure (R:=eJ) λI a_=>⟨y,rfl,r.le a_⟩
end
noncomputable def fu(g:cy)(H:gW):Prop:=∀(c:bc)(dep:Nat)(β:aZ)(f:aF)(aK:List V)(aH:List az),c.Ok g dep->bK (a7 β) aK aH->
 cS g c β (λst=>match H dep (.c (.ref f)) aK st with|some o=>o|none=>.fail 0) (jG g c (.ref f) aH) a7
theorem At.same{c:bc}{ah:Type}{m jP:M aV}{W:Wp ah}{R:aZ->aV->ah->Prop}{st:St}{s:aM}(h:At X g c β st s m W R)(e:jP st=m st):At X g c β st s jP W R:=by unfold At at h ⊢;exact G e h
variable{H:gW}
section
theorem afS(O:g.Ok)(kE:g.Lay)(hN:g.nZ)(f9:fu g H)(ba:dV g aG):dV g (step g.K H aG) where
 ev:=λc ab env β e U V=>XS O kE ba U V e
 eM:=λc ab env β e U V=>agd O ba U V e
 ca:=λc dep β f aK DI U R aW st s aa S=>by
  obtain aw:=f9 c dep β f aK DI U R aW st s aa S;obtain aj:=ML (f:=f) O ba U R aW st s aa S;generalize q:H dep (.c (.ref f)) aK st=aD;induction aD using b3 with
  |none=>exact At.same aj (by show(match H dep (.c (.ref f)) aK st with|some o=>o|none=>gp aG g.K dep (.c (.ref f)) aK st)=_;exact G q rfl)
  |some o=>exact At.same aw (by show(match H dep (.c (.ref f)) aK st with|some o=>o|none=>gp aG g.K dep (.c (.ref f)) aK st)=_;exact G q rfl)
 xs:=λc ab env β b U V=>ahe O hN ba U V b
 kB:=λc ab env β t n b a d U dN V aN=>Yt O ba U dN V t b aN
 dJ:=λc ab env β t b U V=>agS ba U V t b
 cl:=λc ab env β e k n acc a d eg fK U dN V aN aU=>Ww O ba U dN V e k aN aU
theorem o2(O:g.Ok)(kE:g.Lay)(hN:g.nZ)(f9:fu g H):∀n,dV g (ep g.K H n)
 |0=>⟨λI I I I I I I=>.fail,λI I I I I I I=>.fail,λI I I I I I I I=>.fail,λI I I I I I I=>.fail,λI I I I I I I I I I I I I=>.fail,λI I I I I I I I=>.fail,λI I I I I I I I I I I I I I I I I=>.fail⟩
 |n+1=>afS O kE hN f9 (o2 O kE hN f9 n)
end
theorem omap{x:Option aV}{f:aV->fb}{b:fb}(h:x.map f=C b)(k:∀a,x=C a->f a=b->a6):a6:=by
 induction x using b3 with
 |none=>exact bM h
 |some a=>exact k a rfl (c0 h)
theorem Jc{a b:Int}(h:(!ltI a b)=ae):b<=a:=by rw[jl,Qg,decide_eq_false_iff_not] at h;exact Av.mp h
theorem p0{f:aV->fb->Bool}{l:List aV}{m:List fb}(h:pZ f l m=ae):bK (λa b=>f a b=ae) l m:=by
 induction l generalizing m with
 |nil=>
  induction m using es with
  |nil=>exact .nil
  |cons _ _=>exact c7 h
 |cons _ _ bF=>
  induction m using es with
  |nil=>exact c7 h
  |cons _ _=>exact .cons (bR h) (bF (bB h))
theorem bK.comp{bX:Type}{R:aV->fb->Prop}{hV:fb->bX->Prop}{LV:aV->bX->Prop}{l:List aV}{m:List fb}(h:bK R l m):∀{n:List bX},bK hV m n->(∀a b c,R a b->hV b c->LV a c)->bK LV l n:=by
 induction h with
 |nil=>intro n h k;cases h;exact .nil
 |cons x _ bF=>intro n h k;cases h with|cons y h=>exact .cons (k _ _ _ x y) (bF h k)
structure e7(ah:cV)(av β:aZ):Prop where
 ad:∀i p,av.ad[i]? =C p->∃n,cG ah.ad i=C n/\β.ad[n]? =C p
 aC:∀v z,av.aC[v]? =C z->∃e,cG ah.aC v=C e/\e.val β=C z
 aj:∀k c,av.aj[k]? =C c->∃e,cG ah.aj k=C e/\ag.val β e=C [c]
 ck:∀k l,av.ck[k]? =C l->∃e,cG ah.ck k=C e/\ag.val β e=C l
 PQ:∀i n,cG ah.ad i=C n->∃p,av.ad[i]? =C p
 P8:∀i n,cG ah.aC i=C n->∃p,av.aC[i]? =C p
 PT:∀i n,cG ah.aj i=C n->∃p,av.aj[i]? =C p
 Qe:∀i n,cG ah.ck i=C n->∃p,av.ck[i]? =C p
variable{ah:cV}
section
theorem e7.i(T:e7 ah av β){v:Nat}{e:bo}(h:cG ah.aC v=C e):∃z,av.aC[v]? =C z/\e.val β=C z:=bG (T.P8 _ _ h) λz a8=>aS (T.aC _ _ a8) λcq aA q=>(bh z a8 (c0 (h.symm.trans aA)▸q))
theorem e7.c(T:e7 ah av β){e:ag}(h:cG ah.aj k=C e):∃c,av.aj[k]? =C c/\ag.val β e=C [c]:=bG (T.PT _ _ h) λz a8=>aS (T.aj _ _ a8) λcq aA q=>(bh z a8 (c0 (h.symm.trans aA)▸q))
theorem e7.s(T:e7 ah av β){e:ag}(h:cG ah.ck k=C e):∃l,av.ck[k]? =C l/\ag.val β e=C l:=bG (T.Qe _ _ h) λz a8=>aS (T.ck _ _ a8) λcq aA q=>(bh z a8 (c0 (h.symm.trans aA)▸q))
theorem e7.a(T:e7 ah av β){m:Nat}(h:cG ah.ad n=C m):∃p,av.ad[n]? =C p/\β.ad[m]? =C p:=bG (T.PQ _ _ h) λz a8=>aS (T.ad _ _ a8) λcq aA q=>(bh z a8 (c0 (h.symm.trans aA)▸q))
theorem rt{c:Int}{neg:Bool}{v:Nat}(h:β.aC[v]? =C z):(bo.aL c neg v).val β=C (match neg with|false=>c+z|true=>c-z):=by unfold bo.val;dsimp only;exact G h rfl
theorem bo.mH(T:e7 ah av β){e cq:bo}(h:e.eM ah=C cq):∃z,e.val av=C z/\cq.val β=C z:=by
 induction e using MI.bo.casesOn with
 |lit c=>(obtain J:=aT h;clear h;subst J);exact(bh c rfl rfl)
 |aL c neg v=>
  exact ct h λx ak h=>by
   refine aS (T.i ak) λz a8 q=>?_;induction neg using bZ with
   |false=>exact(bh _ (rt a8) (bo.A0 h rfl q))
   |true=>exact(bh _ (rt a8) (bo.JP h rfl q))
theorem Xe{e:bo}(h:e.val β=C z):ag.val β (Gp e)=C (eR z):=by
 unfold Gp;generalize q:(litOf e).bind nat?=aD;induction aD using b3 with
 |none=>exact ag.eN.mpr (d1 _ [] (congrArg _ h:(e.val β).map eR=_) rfl ((ma _).symm))
 |some n=>
  exact ct q λx a1 a2=>by rw[tU a1,v5 a2] at h;(obtain J:=aT h;clear h;subst J);exact congrArg C (ma _)
theorem c1.mH(T:e7 ah av β){p:c1}{e:ag}(h:c1.eM ah p=C e):∃l,p.val av=C l/\ag.val β e=C l:=by
 induction p using MI.c1.casesOn with
 |lit m=>(obtain J:=aT h;clear h;subst J);exact(bh m rfl (congrArg C (ma _)))
 |dec x=>
  exact omap h λy bS e=>by exact aS (bo.mH T bS) λz aa af=>(bh (eR z) (congrArg (uG eR) aa:_) (e▸Xe af))
 |chr k=>exact aS (T.c h) λc aa af=>(bh [c] (congrArg (uG λc=>[c]) aa) af)
 |any k=>exact T.s h
theorem ag.mH(T:e7 ah av β):∀{p:ag}{e:ag},ag.eM ah p=C e->∃l,ag.val av p=C l/\ag.val β e=C l:=by
 intro p;induction p with
 |nil=>intro e h;(obtain J:=aT h;clear h;subst J);exact(bh [] rfl rfl)
 |cons p r bF=>
  exact λh=>ct h λa aU h=>omap h λb aB e=>by exact aS (c1.mH T aU) λx ak q=>aS (bF aB) λy bS en=>(bh _ (ag.eN.mpr (d1 x y ak bS rfl)) (e▸ag.FZ q en))
theorem ag.agf(T:e7 ah av β){p:ag}{e:ag}{l:bz}(h:ag.eM ah p=C e)(q:ag.val av p=C l):ag.val β e=C l:=aS (ag.mH T h) λm aa af=>af.trans (aa.symm.trans q)
theorem V.zZ(T:e7 ah av β){v gA:V}(h:v.eM ah=C gA):a7 av v y↔a7 β gA y:=by
 induction v using MI.V.casesOn with
 |u=>(obtain J:=aT h;clear h;subst J);exact Iff.rfl
 |c x=>(obtain J:=aT h;clear h;subst J);exact Iff.rfl
 |i e=>
  exact omap h λcq he q=>by exact aS (bo.mH T he) λz aa af=>q▸Iff.of_eq (congrArg (λo:Option Int=>∃z t,o=C z/\y=Ek z t) (aa.trans af.symm))
 |s e=>
  exact omap h λcq he q=>by exact aS (ag.mH T he) λz aa af=>q▸Iff.of_eq (congrArg (λo:Option bz=>∃l t,o=C l/\y=Ej (aQ l) t) (aa.trans af.symm))
 |r n=>
  exact omap h λcq he q=>by exact aS (T.a he) λz aa af=>q▸Iff.of_eq (congrArg (λo:Option (aF×aF)=>∃a d,o=C (a,d)/\y=lE a) (aa.trans af.symm))
theorem yR{x:Option Bool}(h:tS x=ae):x=C true:=by
 induction x using b3 with
 |none=>exact c7 h
 |some b=>exact congrArg C h
theorem Mz{v:az}{a:Bool}(h:FW v=C a):v=.bool a:=by
 induction v using l9 with
 |bool b=>exact congrArg _ (c0 h)
 |_=>exact gy h
theorem V2{a:Bool}(h:bo.xP a b=ae):a=b:=by cases a<;>cases b<;>first|rfl|exact c7 h
theorem XJ{a b:az}(h:NQ a b=ae):a=b:=by
 rcases KD.mp h with h|h
 .rcases KD.mp h with h|h
  .exact(Cr (bR h)).trans (Cr (bB h)).symm
  .exact cN h λx ak q=>(Rz ak).trans (Cs q).symm
 .exact cN h λx ak q=>cN q λy bS q=>(Mz ak).trans (V2 q▸(Mz bS).symm)
variable{au:List b5}
theorem t_{v:V}{e:Nat}(h:v.du=C e):v=.r e:=by
 induction v using MI.V.casesOn with
 |r n=>exact congrArg _ (c0 h)
 |_=>exact gy h
theorem XP(F:Facts S au aE ns β){a b:V}(h:NT au aE a b=ae){x:az}(ak:a7 β a x)(bS:a7 β b y):a7 β a y:=by
 induction a using MI.V.casesOn with
 |c a=>exact cN h λdE e q=>by rw[x2 e,<-XJ q] at bS;exact bS
 |i a=>
  exact cN h λdE e q=>by rw[qs e] at bS;(refine cz ak λz t a8 I=>?_;try clear ak);(refine cz bS λgU dC g5 cq=>?_;try clear bS);exact⟨z,dC,a8,aR (bo.k4 F (yR q) a8 g5).symm▸cq⟩
 |s a=>
  exact cN h λdE e q=>by rw[zV e] at bS;(refine cz ak λz t a8 I=>?_;try clear ak);(refine cz bS λgU dC g5 cq=>?_;try clear bS);exact⟨z,dC,a8,aR (ag.k4 F (yR q) a8 g5).symm▸cq⟩
 |r n=>exact cN h λdE e q=>by rw[t_ e,<-d2 q] at bS;exact bS
 |u=>trivial
theorem a7.ex(T:e7 ah av β){v gA:V}(h:v.eM ah=C gA):∃y,a7 β gA y:=by
 induction v using MI.V.casesOn with
 |u=>(obtain J:=aT h;clear h;subst J);exact⟨.none,trivial⟩
 |c x=>(obtain J:=aT h;clear h;subst J);exact⟨x,rfl⟩
 |i e=>exact omap h λcq he q=>by exact aS (bo.mH T he) λz I af=>q▸⟨.int z 0,z,0,af,rfl⟩
 |s e=>exact omap h λcq he q=>by exact aS (ag.mH T he) λz I af=>q▸⟨.str (aQ z) 0,z,0,af,rfl⟩
 |r n=>exact omap h λcq he q=>by exact aS (T.a he) λz I af=>q▸⟨.ref z.1,z.1,z.2,af,rfl⟩
theorem ta(T:e7 ah av β)(F:Facts S au aE ns β){p v:V}(h:n2 ah au aE p v=ae)(bS:a7 β v y):a7 av p y:=
 cN h λI b6 q=>(V.zZ T b6).mpr ((a7.ex T b6).elim λI ak=>XP F q ak bS)
theorem Bl(T:e7 ah av β)(F:Facts S au aE ns β){bt:List V}(h:xY ah au aE bt aK=ae)(r:bK (a7 β) aK aH):bK (a7 av) bt aH:=
 (p0 (f:=n2 ah au aE) h).comp r λI I I h r=>ta T F h r
theorem WJ(T:e7 ah av β)(F:Facts S au aE ns β){bt aK:List (aO×V)}{aH:List hT}(h:Nc ah au aE bt aK=ae)(r:bK (mY β) aK aH):bK (mY av) bt aH:=
 (p0 (f:=Nb ah au aE) h).comp r λI I I h r=>⟨by exact G (gu.mp (bR h)) r.1,ta T F (bB h) r.2⟩
theorem WK(T:e7 ah av β)(F:Facts S au aE ns β){p v:ag}(h:Nd ah au aE p v=ae){l:bz}(aX:ag.val β v=C l):ag.val av p=C l:=
 cN h λdI b6 q=>by exact aS (ag.mH T b6) λm aa af=>aR (ag.k4 F (yR q) af aX).symm▸aa
end
variable{bq:cy}
section
variable{a6:aF->Option cY}{au:List b5}{a:aF}
theorem bK.Pf{R hV:aV->fb->Prop}{l:List aV}{m:List fb}(h:bK R l m):(∀a b,b∈m->R a b->hV a b)->bK hV l m:=by
 induction h with
 |nil=>exact λI=>.nil
 |cons x _ bF=>exact λk=>.cons (k _ _ (.head _) x) (bF λa b aB=>k a b (.tail _ aB))
theorem bK.l{R:aV->fb->Prop}{l:List aV}{m:List fb}(h:bK R l m):∀a∈l,∃b,b∈m/\R a b:=by
 induction h with
 |nil=>exact λa aU=>nomatch aU
 |cons x _ bF=>
  intro a aU;rcases dg.mp aU with rfl|aU
  .exact(bh _ (.head _) x)
  .exact(bF a aU).imp λb y=>⟨.tail _ y.1,y.2⟩
theorem bK.r{R:aV->fb->Prop}{l:List aV}{m:List fb}(h:bK R l m):∀b∈m,∃a,a∈l/\R a b:=by
 induction h with
 |nil=>exact λa aU=>nomatch aU
 |cons x _ bF=>
  intro a aU;rcases dg.mp aU with rfl|aU
  .exact(bh _ (.head _) x)
  .exact(bF a aU).imp λb y=>⟨.tail _ y.1,y.2⟩
theorem bK.Rp{R:aV->fb->Prop}{P:fb->fb->Prop}{LR:aV->aV->Prop}{l:List aV}{m:List fb}(h:bK R l m):m.Pairwise P->(∀a b dp dE,R a b->R dp dE->P b dE->LR a dp)->l.Pairwise LR:=by
 induction h with
 |nil=>exact λI I=>.nil
 |cons x h bF=>intro p k;have p:=wZ.mp p;refine wZ.mpr ⟨λa aU=>?_,bF p.2 k⟩;exact aS (h.l a aU) λb aB y=>k _ _ _ _ x y (p.1 b aB)
inductive EH(β av:aZ)(ay:List (aO×az))(e f:ag×V):Prop
 |mk (l:bz) (v:Value) (aa:e.1.val av=some l) (af:f.1.val β=some l) (aJ:valueAt ay (aQ l)=some v) (bl:a7 av e.2 v)
theorem M_(T:e7 ah av β)(F:Facts g.S au aE ns β){e f:ag×V}(h:Bk ah au aE e f=ae)(k:LH β ay f):EH β av ay e f:=by obtain(⟨l,v,bu,c3,fL⟩):=k;exact⟨l,v,WK T F (bR h) bu,bu,c3,ta T F (bB h) fL⟩
theorem WI(T:e7 ah av β)(F:Facts g.S au aE ns β){bt aK:List (ag×V)}(h:Na ah au aE bt aK=ae)(bJ:kZ β ay aK):bK (EH β av ay) bt aK:=
 (p0 (f:=Bk ah au aE) h).Pf λI b aB q=>M_ T F q (bJ b aB)
theorem Mi(T:e7 ah av β)(F:Facts g.S au aE ns β):∀{bt:List (ag×V)},Fm ah au aE bt=ae->bt.Pairwise (λe f=>e.1.val av≠f.1.val av)
 |[],_=>.nil
 |p::bt,h=>wZ.mpr ⟨λf hf z=>cN (eX.mp (bR h) f hf) λk aw q=>cN q λl aX q=>by exact aS (ag.mH T aw) λx dv dU=>aS (ag.mH T aX) λy cH cX=>of_decide_eq_false (ag.k4 F (ag.Cq q) dU cX).symm (c0 (dv.symm.trans (z.trans cH))),Mi T F (bB h)⟩
theorem abM{dG:List (ag×V)}(h:P6 j dG=ae)(e:ag×V)(he:e∈dG):∃z:Nat,e.2=.i (.lit z)/\z<=j:=
 cN (eX.mp h e he) λz a8 q=>(bh z (pb a8) (bA q))
theorem Ng(T:e7 ah av β)(F:Facts g.S au aE ns β){aH:List V}{m:Nat}(h:Ge ah bX au aE xs aH m=ae){us:List az}(r:bK (a7 β) aH us):m<=bX/\(us.take m).length=m/\bK (a7 av) xs (us.drop m):=by refine(fi (bA (bB (bR h))) ?_ (Bl T F (bB h) (r.drop m)));(refine G List.length_take (G (bV r.length) (G (bV (d2 (bR (bR h)))) ?_)));exact Nat.min_eq_left (gs _ _)
theorem Qz{e:bo}(h:(litOf e).bind nat?=C n):e=.lit (.ofNat n):=ct h λI a h=>v5 h▸tU a
theorem aek{p:Nat}(h:o.Ry=C p):o=.raw p:=by
 induction o using MI.O.casesOn with
 |raw k=>exact c0 h▸rfl
 |_=>exact gy h
theorem agE(aN:(ay.map (·.1)).Nodup){dm:aO×az}(h:dm∈ay):a0 ay dm.1=C dm.2:=by
 induction ay with
 |nil=>cases h
 |cons x r bF=>
  rw[j2,jD] at aN;unfold a0;refine G An ?_;rcases dg.mp h with rfl|h
  .simp
  .obtain this:¬x.1=dm.1:=λe=>aN.1 (G e (kU h));simp only[this,decide_false];exact bF aN.2 h
theorem Nf(T:e7 ah av β)(F:Facts g.S au aE ns β)(br:bq.S=g.S+bX)(b6:bq.prog=g.prog)(hw:bq.w=g.w)(cb:bq.raw=g.raw)
  (aB:∀o ay,a6 a=C o->o.IsDictOf (strKind g.prog g.w) ay->∀old,bq.base a=C old->ay=old){p:O}(h:p4 ah bX au aE p o=ae)(R:cL g a6 β a d o):cL bq a6 av a d p:=by
 induction p using MI.O.casesOn with
 |inst U dG=>
  exact cN h λq e h=>by obtain rfl:=aaC e;obtain(⟨aa,ar,n,af,aJ,bl⟩):=R;exact⟨aa,ar,n,d2 (bR h)▸af,aJ,WJ T F (bB h) bl⟩
 |list xs=>
  exact cN h λq e h=>by obtain rfl:=P1 e;obtain(⟨aa,aH,n,af,aJ⟩):=R;exact⟨aa,aH,n,af,Bl T F h aJ⟩
 |tup xs=>
  exact cN h λq e h=>by obtain rfl:=agl e;obtain(⟨aa,aH,n,af,aJ⟩):=R;exact⟨aa,aH,n,af,Bl T F h aJ⟩
 |iQ k xs=>
  exact cN h λx ak h=>by
   refine aS (T.i ak) λz a8 bJ=>?_;generalize e:o.kG=aD;induction aD using b3 with
   |some aH=>
    rw[e] at h;exact cN h λm hm aA=>by obtain rfl:=P1 e;obtain(⟨aa,us,n,af,aJ⟩):=R;refine fO (Ng T F aA aJ) λe5 gZ i9=>?_;rw[Qz hm] at bJ;(obtain J:=aT bJ;clear bJ;subst J);exact⟨aa,us,n,us.toList.take m,us.toList.drop m,af,(q3 _ _).symm,gZ.symm▸a8,i9,by(refine G gZ (G br ?_));exact bU e5 (bU (w6 _ _) (gs _ _))⟩
   |none=>
    rw[e] at h;exact cN h λq e h=>cN h λm hm aA=>by obtain rfl:=abJ e;obtain(⟨aa,us,n,pre,post,af,aJ,bl,cP,eT⟩):=R;refine fO (Ng T F (bB aA) cP) λe5 gZ i9=>?_;rw[xI hm,rt (d2 (bR aA)▸bl)] at bJ;(obtain J:=aT bJ;clear bJ;subst J);refine⟨aa,us,n,pre++post.take m.1,post.drop m.1,af,by(refine G aJ ?_;exact G (nP _ _ _) (G (q3 _ _) rfl)),?_,i9,by(refine G iG (G gZ (G br ?_)));exact bU (mP eT e5) (eP (Nat.add_right_comm _ _ _))⟩;(refine G iG (G gZ (G a8 ?_)));exact congrArg C (D_ _ _)
 |dict ar abs=>
  exact cN h λq e h=>by
   obtain rfl:=oR e;obtain(⟨aa,af,o,ay,aJ,bl,cP,eT,h7,h8⟩):=R;have yl:o.IsDictOf (strKind bq.prog bq.w) ay:=by(refine G b6 (G hw ?_));exact bl
   clear h;induction abs using b3 with
   |none=>
    have A:=WI T F (bB h) cP;rw[nM.mp (bR h)] at h7 h8;refine⟨aa,af,o,ay,aJ,yl,λe he=>?_,A.Rp eT λa b dp dE X Y n z=>?_,λk aw=>?_,A.length▸h8⟩
    .refine aS (A.l e he) λf I q=>?_;obtain(⟨l,v,dv,_,hz,pz⟩):=q;exact⟨l,v,dv,hz,pz⟩
    .obtain(⟨_,_,dv,dU,_,_⟩):=X;obtain(⟨_,_,cH,cX,_,_⟩):=Y;exact n (dU.trans (dv.symm.trans (z.trans (cH.trans cX.symm))))
    .refine aS (h7 k aw) λf hf q=>aS (A.r f hf) λe he en=>?_;obtain(⟨l,v,dv,dU,_,_⟩):=en;exact(bh e he (dv.trans (dU.symm.trans q)))
   |some abs=>
    obtain dS:=bR (bR (bR h));refine⟨aa,af,o,ay,aJ,yl,λe he=>?_,Mi T F (bB (bR (bR h))),⟨λe he=>cN (eX.mp (bB (bR h)) e he) λk aw q=>cN q λr cb q=>?_,λold bw=>aB o ay aJ bl old bw▸⟨iH _,λk=>.inr rfl⟩⟩,?_⟩
    .refine aS (DZ.mp (eX.mp dS e he)) λf hf q=>?_;obtain(⟨l,v,dv,_,hz,pz⟩):=M_ T F q (cP f hf);exact⟨l,v,dv,hz,pz⟩
    .refine aS (ag.mH T aw) λl eG fB=>?_;rw[nM.mp q] at cb;exact(bh l eG (.inl (Qb F fB cP h7 cb).1))
    .have:qG g.S q.2<=g.S:=by cases q.2 with|none=>exact l5 _|some _=>exact dO _
     refine bU h8 (bU (mP (bA (bB h)) this) ?_);show _<=ar.length+bq.S;(refine G br ?_;(refine G (kW _ _ _) (G ((ko bX) _) ?_)));exact dO _
 |jx n j=>
  generalize e:o.tQ=aD;induction aD using b3 with
  |some q=>unfold p4 at h;dsimp only at h;rw[e] at h;obtain rfl:=H5 e;obtain(⟨aa,af,o,ay,aJ,bl,cP,eT⟩):=R;have dS:=bA (bR h);have cE:=bA (bB h);refine⟨aa,af,o,ay,aJ,by(refine G b6 (G hw ?_));exact bl,λdm tG=>?_,by exact G br (bU eT (bU (l_ dS _) (eP xG)))⟩;exact fD (cP dm tG) λz t e z8 fG=>(d1 z t e z8 (G br (gk fG (jn.mpr (bU (l_ cE _) (eP xG))))))
  |none=>
   unfold p4 at h;dsimp only at h;rw[e] at h;exact cN h λq e aA=>by obtain rfl:=oR e;obtain(⟨aa,af,o,ay,aJ,bl,cP,eT,h7,h8⟩):=R;rw[nM.mp (bR aA)] at h7 h8;have dS:=bA (bR (bB aA));have yl:=bl;(refine t4 yl λI I I I I I e9=>?_;try clear yl);obtain h8:ay.length<=q.1.length+0:=h8;refine⟨aa,af,o,ay,aJ,by(refine G b6 (G hw ?_));exact bl,λdm tG=>?_,by exact G br (bU h8 (bU dS (bU (w6 _ g.S) (eP xG))))⟩;have bJ:=agE e9 tG;refine aS (h7 dm.1 (bJ▸Ky _)) λe he aw=>?_;obtain(⟨l,v,dv,dU,hz⟩):=cP e he;cases aw.symm.trans dv;rw[hj,bJ] at dU;(obtain J:=aT dU;clear dU;subst J);refine aS (abM (bB (bB aA)) e he) λz a8 cD=>?_;rw[a8] at hz;(refine cz hz λgU t g5 cq=>?_;try clear hz);(obtain J:=aT g5;clear g5;subst J);exact(d1 z t cq (kV _) (jn.mpr (br▸bU cD (by(refine G (kW _ _ _) (G ((ko j) _) ?_));exact w6 _ _))))
 |cell p=>
  exact cN h λq e h=>by
   obtain rfl:=Wk e;obtain(⟨aa,o,y,af,aJ,bl⟩):=R;refine⟨aa,o,y,af,aJ,?_⟩;clear h;induction p using b3 with
   |none=>rw[nM.mp h] at bl;exact bl
   |some p=>
    exact cN h λv e h=>by rw[e] at bl;exact aS bl λjY bl cP=>(bh jY bl (ta T F h cP))
 |raw k=>
  exact cN h λq e h=>by obtain rfl:=aek e;rw[<-d2 h] at R;(refine fO R λaa af aJ=>?_;try clear R);exact⟨aa,cb▸af,cb▸aJ⟩
 |gone=>trivial
 |_=>exact c7 h
end
theorem adk{ar:List hT}(h:Pairs (strKind prog w) ar ay):∀{y2:List (aO×az)},Pairs (strKind prog w) ar y2->ay=y2:=by
 induction h with
 |nil=>intro l h;cases h;rfl
 |cons a b _ bF=>
  intro l h;cases h with
  |cons dp dE g9=>refine bG (KJ a) λt ff=>bG (KJ dp) λu cx=>?_;exact G (bF g9) (G (Prod.ext (Value.str.inj (ff.symm.trans cx)).1 (b.symm.trans dE)) rfl)
theorem aaI{o:cY}{y2:List (aO×az)}(h:o.IsDictOf (strKind g.prog g.w) ay)(aA:o.IsDictOf (strKind g.prog g.w) y2):ay=y2:=by(refine t4 h λar fm I hd I b6 I=>?_;try clear h);(refine t4 aA λp_ ahD I lV I B7 I=>?_;try clear aA);rw[hd] at lV;cases lV;exact adk b6 B7
noncomputable def baseOf(g:cy)(h:gj)(a:aF):Option (List (aO×az)):=by
 classical exact if q:∃ay o,h.get? a=C o/\o.IsDictOf (strKind g.prog g.w) ay then C q.choose else none
theorem Ms{a:aF}{o:cY}(aa:h.get? a=C o)(af:o.IsDictOf (strKind g.prog g.w) ay):baseOf g h a=C ay:=by unfold baseOf;have q:∃ay o,h.get? a=C o/\o.IsDictOf (strKind g.prog g.w) ay:=(gi ay o aa af);refine G (dif_pos q) (aS q.choose_spec λdn a9 bf=>?_);rw[aa] at a9;(obtain J:=aT a9;clear a9;subst J);exact G (aaI bf af) rfl
noncomputable def Bg(l:Option bz):Nat:=((l.bind iD).getD 0)
noncomputable def pull(ah:cV)(β:aZ):aZ:=⟨ah.ad.map λn=>(β.ad[n]?).getD (0,0),ah.aC.map λe=>(e.val β).getD 0,ah.aj.map λe=>Bg (ag.val β e),ah.ck.map λe=>(ag.val β e).getD []⟩
theorem CM{l:List aV}{f:aV->fb}{i:Nat}{y:fb}(h:(l.map f)[i]? =C y):∃x,cG l i=C x/\x∈l/\f x=y:=by rw[oD] at h;exact omap h λx ak e=>(fT x ((fY l i).trans ak) (l7 ak) e)
theorem get_map{l:List aV}{f:aV->fb}{i:Nat}{x:aV}(h:cG l i=C x):∃y,(l.map f)[i]? =C y:=⟨f x,by(refine G oD ?_;refine G (bV (fY _ _)) (G h ?_));rfl⟩
theorem adu(eZ:∀n∈ah.ad,n<β.ad.length)(hp:∀e∈ah.aC,∃z,e.val β=C z)(ve:∀e∈ah.aj,∃c,ag.val β e=C [c])(x4:∀e∈ah.ck,∃l,ag.val β e=C l):e7 ah (pull ah β) β where
 ad:=λi p h=>by exact eH (CM h) λn aN m e=>(bh n aN (by(refine G (bV e) (G (i5 (eZ n m)) ?_));rfl))
 aC:=λi p h=>by exact eH (CM h) λn aN m e=>bG (hp n m) λz a8=>(bh n aN (by(refine G (bV e) (G a8 ?_));rfl))
 aj:=λi p h=>by exact eH (CM h) λn aN m e=>bG (ve n m) λz a8=>(bh n aN (by(refine G (bV e) (G a8 ?_));rfl))
 ck:=λi p h=>by exact eH (CM h) λn aN m e=>bG (x4 n m) λz a8=>(bh n aN (by(refine G (bV e) (G a8 ?_));rfl))
 PQ:=λI I h=>get_map h
 P8:=λI I h=>get_map h
 PT:=λI I h=>get_map h
 Qe:=λI I h=>get_map h
theorem bK.mapR{bX:Type}{R:aV->fb->Prop}{hV:aV->bX->Prop}{f:fb->bX}{l:List aV}{m:List fb}(h:bK R l m)(k:∀a b,R a b->hV a (f b)):bK hV l (m.map f):=by
 induction h with
 |nil=>exact .nil
 |cons x _ bF=>exact .cons (k _ _ x) bF
theorem N_:∀(l:List (Bool×O))(t:d0 (Bool×O))(i m:Nat),i+l.length<=10000000->(fill t i l).get m=if m<i then t.get m else if m<i+l.length then l[m-i]? else t.get m
 |[],t,i,m,_=>by
  show t.get m=_;by_cases h:m<i
  ·(exact G (if_pos h) rfl)
  ·(exact G (if_neg h) (G (if_neg (by simpa using h)) rfl))
 |x::r,t,i,m,h=>by
  rw[uv] at h;show(fill (t.put cU i x) (i+1) r).get m=_;(refine G (N_ r _ _ _ (bU (eP (Aq i _)) h)) (G (d0.k8 cU t i x m (by obtain this:(10000000:Nat)<=2^cU-1:=(aR rfl);exact ij (ij (wV (pA _)) h) this)) ?_));refine G uv ?_;by_cases aa:m<i
  ·(exact G (if_pos (w2 (by assumption))) (G (if_pos aa) (G (if_neg (kq (by assumption))) rfl)))
  .refine G (if_neg aa) ?_;by_cases af:m=i
   ·(clear aa h;subst af);(refine G (if_pos (dO _)) (G (if_pos rfl) (G (if_pos (wV (pA _))) (G (uD _) ?_))));rfl
   .refine G (if_neg (λz=>af (D3 (Aj z) (sk aa)))) ?_;by_cases aJ:m<i+1+r.length
    ·(refine G (if_pos aJ) (G (if_pos (ij aJ (eP (Aq i _)))) ?_));obtain this:m-i=(m-(i+1))+1:=by exact JO (Ai (sk aa) (km af))
     exact G this rfl
    ·(exact G (if_neg aJ) (G (if_neg af) (G (if_neg (λz=>aJ (ij z (eP (Aq i _).symm)))) rfl)))
theorem d0.ack(m:Nat):(d0.nil:d0 aV).get m=none:=rfl
variable{p:b4}
theorem b4.get(h:p.os.length<=10000000)(m:Nat):p.st.σ.get m=p.os[m]? :=by
 show(fill .nil 0 p.os).get m=_;(refine G (N_ _ _ _ _ (l_ (by assumption) _)) (G (if_neg (by lia)) ?_));by_cases q:m<0+p.os.length
 .exact G (if_pos q) rfl
 ·(refine G (if_neg q) (G (d0.ack _) (G (S_.mpr (by lia)) ?_));with_reducible rfl)
variable{handed:List Nat}{eE:Nat}
section
variable{c:bc}{st:St}{s:aM}
theorem ac4{os:List (Bool×O)}{ns:List Nat}(h:wi ah bX st handed k os ns=ae):os.length=ns.length/\∀(i:Nat)(n:Nat),ns[i]? =C n->∃x,os[i]? =C x/\De ah bX st handed (k+i) x n=true:=by
 induction os generalizing ns k with
 |nil=>
  induction ns using es with
  |nil=>exact⟨rfl,λi n h=>nomatch h⟩
  |cons _ _=>exact c7 h
 |cons x r bF=>
  induction ns using es with
  |nil=>exact c7 h
  |cons n ns=>
   refine a3 (bF (bB h)) λa9 bf=>⟨congrArg (·+1) a9,λi m e=>?_⟩;induction i using hD with
   |zero=>(obtain J:=aT e;clear e;subst J);exact(bh x rfl (bR h))
   |succ i=>exact aS (bf i m e) λy aa af=>(bh y aa (by rw[kW,ko 1] at af;exact af))
theorem ac6{i:Nat}(h:De ah bX st handed i (ae,o) n=ae):∃dn,st.σ.get n=C (ae,dn)/\nu o=ae/\tR n ah.ad=i/\p4 ah bX st.au st.aE o dn=true:=
 cN (bB h) λy bS q=>(l4 y.2 (G bS (G (bV (bR q)) rfl)) (bR (bB q)) (d2 (bR (bB (bB q)))) (bB (bB (bB q))))
theorem QR(h:(!nu o)=ae):o=.gone:=by
 induction o using MI.O.casesOn with
 |gone=>rfl
 |_=>exact c7 h
theorem ac5{i:Nat}(h:De ah bX st handed i (ai,o) n=ae):o=.gone\/∃oo dn,st.σ.get n=C (oo,dn)/\nq n handed=ai/\p4 ah bX st.au st.aE o dn=true:=by
 rcases KD.mp (bB h) with h|h
 .exact .inl (QR h)
 .exact .inr (cN h λy bS q=>(d1 y.1 y.2 bS (jl _▸bR q) (bB q)))
theorem zz{os:List (Bool×O)}{ns:List Nat}(h:wi ah bX st handed k os ns=ae):os.length=ns.length/\(∀n∈ns,n<st.no)/\∀(i:Nat)(own:Bool)(o:O),os[i]? =C (own,o)->∃n,ns[i]? =C n/\
  (own=ae->∃dn,st.σ.get n=C (ae,dn)/\nu o=ae/\tR n ah.ad=k+i/\p4 ah bX st.au st.aE o dn=ae)/\
  (own=ai->o=.gone\/∃oo dn,st.σ.get n=C (oo,dn)/\nq n handed=ai/\p4 ah bX st.au st.aE o dn=ae):=by
 refine a3 (ac4 h) λda dA=>(fi da (λn aN=>?_) (λi own o e=>?_))
 .exact bG (List.mem_iff_getElem?.mp aN) λi bN=>aS (dA i n bN) λx I q=>bA (bR q)
 .have lt:=(j0.mp e).1;have aN:=i5 (da▸lt);refine aS (dA i _ aN) λx ak q=>?_;cases e.symm.trans ak;exact(fT _ aN (λe=>ac6 (e▸q)) (λe=>ac5 (e▸q)))
theorem Zi:∀{os:List (Bool×O)}{ns:List Nat}{i:Nat}{o:O},os[i]? =C (ae,o)->ns[i]? =C n->n∈h_ os ns:=by
 intro os;induction os with
 |nil=>exact λh I=>nomatch h
 |cons x r bF=>
  intro ns i o h e;induction ns using es with
  |nil=>exact nomatch e
  |cons m ns=>
   refine G (OK _ _ _ _) ?_;induction i using hD with
   |zero=>(obtain J:=aT h;clear h;subst J);(obtain J:=aT e;clear e;(clear bF;subst J));exact .head _
   |succ i=>
    generalize q:x.1=aD;clear q;induction aD using bZ with
    |true=>exact .tail _ (bF (i:=i) h e)
    |false=>exact bF (i:=i) h e
theorem Q2:∀{os:List (Bool×O)}{ns:List Nat},n∈h_ os ns->∃(i:Nat)(o:O),os[i]? =C (ae,o)/\ns[i]? =C n:=by
 intro os;induction os with
 |nil=>exact λh=>nomatch h
 |cons x r bF=>
  intro ns h;induction ns using es with
  |nil=>exact nomatch h
  |cons m ns=>
   rw[OK] at h;generalize q:x.1=aD;induction aD using bZ with
   |true=>
    rw[q] at h;rcases dg.mp h with e|h
    .exact(gi 0 x.2 (G (bV q) rfl) (e▸rfl))
    .exact mC (bF h) λi o a=>(wN (i+1) o a)
   |false=>rw[q] at h;exact mC (bF h) λi o a=>(wN (i+1) o a)
theorem Ou{v:V}:∀{l:List (aO×V)},ed x l=C v->(x,v)∈l
 |[],h=>by exact bM h
 |e::r,h=>by
  rw[Ha] at h;split at h
  .rename_i q;(obtain J:=aT h;clear h;subst J);exact G (bV (gu.mp q)) (.head _)
  .exact .tail _ (Ou h)
theorem P_(F:Facts g.S st.au st.aE st.ns β){e:bo}{x:Int}(h:bo.lo st.au e=C x):∃z,e.val β=C z:=by
 induction e using MI.bo.casesOn with
 |lit c=>exact⟨c,rfl⟩
 |aL c neg v=>
  unfold bo.lo at h;dsimp only at h;generalize q:st.au[v]? =aD;induction aD using b3 with
  |none=>rw[q] at h;exact bM h
  |some xO=>exact aS (F.aC.get q) λz a8 I=>⟨_,rt a8⟩
theorem Mw(F:Facts g.S st.au st.aE st.ns β)(br:eE=g.S+bX){b:b5}{e:bo}(h:Ba st.au bX b e=ae):∃z,e.val β=C z/\b.1<=z/\z<=b.2.1/\∀j,b.2.2=C j->z<=((eE+j:Nat):Int):=
 cN (bR h) λx ak dS=>cN (bR (bB h)) λy bS cE=>by
  refine bG (P_ F ak) λz a8=>(l4 z a8 (gk (Jc dS) (bo.lo_le F ak a8)) (gk (bo.vU F bS a8) (Jc cE)) (λj cD=>?_));have a:=bB (bB h);rw[cD] at a;dsimp only at a;generalize dH:litOf e=aD;induction aD using b3 with
  |some c=>rw[dH] at a;rw[tU dH] at a8;(obtain J:=aT a8;clear a8;subst J);exact gk (Jc a) (jn.mpr (w6 _ _))
  |none=>
   rw[dH] at a;exact cN a λp b6 a=>cN a λt ff a=>ct ff λxO aB ff=>by rw[fY] at aB;refine jQ (F.aC.get aB) λgd vF I I w=>?_;rw[xI b6,rt vF] at a8;(obtain J:=aT a8;clear a8;subst J);obtain w:=w t ff;obtain a:=bA a;show(p.1:Int)+gd<=_;exact gk (KH w _) (jn.mpr (bU (eP (Nat.add_left_comm _ _ _)) (bU (l_ a _) (eP ((kW _ _ _).symm.trans (congrArg (·+j) br.symm))))))
theorem V9(F:Facts g.S st.au st.aE st.ns β)(br:eE=g.S+bX){bs:List b5}{ar:List bo}(h:Bb st.au bX bs ar=ae):(∀e∈ar,∃z,e.val β=C z)/\
  bK (λ(b:b5)(z:Int)=>b.1<=z/\z<=b.2.1/\∀j,b.2.2=C j->z<=((eE+j:Nat):Int)) bs (ar.map λe=>(e.val β).getD 0):=by
 have A:=p0 (f:=Ba st.au bX) h;refine⟨λe he=>?_,A.mapR λb e q=>?_⟩
 .exact aS (A.r e he) λb I q=>aS (Mw F br q) λz a8 I=>⟨z,a8⟩
 .exact aS (Mw F br q) λz a8 k=>G a8 k
theorem M1(F:Facts g.S st.au st.aE st.ns β){b:bz}{e:ag}(h:Bi st.aE b e=ae):∃c,ag.val β e=C [c]/\c∈b:=
 cN h λp b6 h=>by
  refine G (lu b6) ?_;clear b6;induction p using MI.c1.casesOn with
  |lit m=>exact cN h λc bb h=>(bh c (congrArg C ((ma m).trans (lu bb))) (vY.mp h))
  |chr k=>
   exact cN h λm hm h=>by unfold clsAt at hm;exact aS (F.aj.get hm) λz a8 bb=>(bh z (ag.eN.mpr (d1 [z] [] (congrArg (uG λc=>[c]) a8) rfl rfl)) (vY.mp (eX.mp h z bb)))
  |dec _=>exact c7 h
  |any _=>exact c7 h
theorem Wy(F:Facts g.S st.au st.aE st.ns β){bs:List bz}{ar:List ag}(h:Bj st.aE bs ar=ae):(∀e∈ar,∃c,ag.val β e=C [c])/\bK (λ(l:bz) c=>c∈l) bs (ar.map λe=>Bg (ag.val β e)):=by
 have A:=p0 (f:=Bi st.aE) h;refine⟨λe he=>?_,A.mapR λb e q=>?_⟩
 .exact aS (A.r e he) λb I q=>aS (M1 F q) λz a8 I=>⟨z,a8⟩
 .exact aS (M1 F q) λz a8 k=>G a8 k
theorem VJ(F:Facts g.S st.au st.aE st.ns β):∀{ar:List ag},(∀e∈ar,∃c,ag.val β e=C [c])->xM st.au st.aE ar=ae->(ar.map λe=>Bg (ag.val β e)).Nodup:=by
 intro ar;induction ar with
 |nil=>exact λI I=>.nil
 |cons e ar bF=>intro d h;(refine G j2 (gM jD ?_));refine⟨λm=>?_,bF (λf hf=>d f (.tail _ hf)) (bB h)⟩;refine aS (kY.mp m) λf hf a9=>bG (d e (.head _)) λx ak=>bG (d f (.tail _ hf)) λy bS=>?_;obtain q:=of_decide_eq_false (ag.k4 F (ag.Cq (eX.mp (bR h) f hf)) ak bS).symm;rw[ak,bS] at a9;exact q (congrArg (λc=>[c]) (show y=x from a9).symm)
theorem c1.ID(F:Facts g.S st.au st.aE st.ns β){p:c1}(h:p.known st=ae):∃x,p.val β=C x:=by
 induction p using MI.c1.casesOn with
 |lit m=>exact⟨m,rfl⟩
 |dec e=>exact bG (DQ.mp h) λx ak=>bG (P_ F ak) λz a8=>⟨_,congrArg (uG eR) a8⟩
 |chr k=>refine aS (F.aj.get (i5 (bA h))) λz a8 I=>?_;exact⟨[z],congrArg (uG λc=>[c]) a8⟩
 |any k=>exact⟨_,i5 (F.de▸bA h)⟩
theorem ID(F:Facts g.S st.au st.aE st.ns β):∀{e:ag},e.all (c1.known st)=ae->∃l,ag.val β e=C l:=by
 intro e;induction e with
 |nil=>exact λI=>⟨[],rfl⟩
 |cons p r bF=>intro h;exact bG (bF (bB h)) λy bS=>bG (c1.ID F (bR h)) λx ak=>⟨_,ag.eN.mpr (d1 x y ak bS rfl)⟩
theorem afA(F:Facts g.S st.au st.aE st.ns β){e:ag}(h:Dy st e=ae):∃l,ag.val β e=C l/\l.length<=1000:=bG (ID F (bR h)) λl aX=>(bh l aX (cN (bB h) λn aN w=>bU (ag.z5 F aN aX) (bA w)))
theorem Jm{i:Nat}{x:aF×aF}(h:ah.ad[i]? =C n)(e:β.ad[n]? =C x):(pull ah β).ad[i]? =C x:=by show(ah.ad.map _)[i]? =_;(refine G oD ?_;refine G h (G (nR _ _) (G e ?_)));rfl
theorem Jn(F:Facts g.S st.au st.aE st.ns β){au:List b5}(aX:∀n∈ah.ad,n<β.ad.length)(fQ:Bb st.au bX au ah.aC=ae)(Jr:Bj st.aE aE ah.aj=ae)(Rr:xM st.au st.aE ah.aj=ae)(Js:cv ah.ck.length ns=ae)(wy:ah.ck.all (Dy st)=ae):e7 ah (pull ah β) β/\Facts (g.S+bX) au aE ns (pull ah β):=by
 refine a3 (V9 (eE:=g.S+bX) F rfl fQ) λcA el=>a3 (Wy F Jr) λbu c3=>?_;have v1:∀e∈ah.ck,∃l,ag.val β e=C l/\l.length<=1000:=λe he=>afA F (eX.mp wy e he);refine⟨adu aX cA bu λe he=>(v1 e he).imp λI x=>x.1,el,c3,VJ F bu Rr,?_,λl aX=>?_⟩
 .show(ah.ck.map _).length=ns;exact G (gB _) (G (d2 Js) rfl)
 .refine aS (kY.mp aX) λe he q=>aS (v1 e he) λa_ jw hw=>?_;(refine G (bV q) (G jw ?_));exact hw
theorem G0{a6:aF->Option cY}{os:List (Bool×O)}(T:e7 ah (pull ah β) β)(F:Facts g.S st.au st.aE st.ns β)(aX:∀n∈ah.ad,n<β.ad.length)(h:wi ah bX st handed 0 os ah.ad=ae)(br:bq.S=g.S+bX)(b6:bq.prog=g.prog)(hw:bq.w=g.w)(cb:bq.raw=g.raw)
  (aB:∀a o ay,a6 a=C o->o.IsDictOf (strKind g.prog g.w) ay->∀old,bq.base a=C old->ay=old)(rest:∀n own o,st.σ.get n=C (own,o)->n∉handed->∃a d,β.ad[n]? =C (a,d)/\cL g a6 β a d o){i:Nat}(q:os[i]? =C (ai,o)):∃a d,(pull ah β).ad[i]? =C (a,d)/\cL bq a6 (pull ah β) a d o:=by
 refine eH ((zz h).2.2 i ai o q) λm a9 I cB=>?_;rcases cB rfl with e|⟨oo,dn,bY,c5,fF⟩
 .exact(gi _ _ (Jm a9 (i5 (aX m (l7 a9)))) (e▸trivial))
 .exact cz (rest m oo dn bY λz=>Bool.noConfusion ((vY.mpr z).symm.trans c5)) λa d cH cX=>(gi a d (Jm a9 cH) (Nf T F br b6 hw cb (aB a) fF cX))
end
noncomputable def cy.re(g:cy)(h₀:gj)(bX:Nat)(dP:aZ)(base:aF->Option (List (aO×az))):cy:={g with h₀:=h₀,S:=g.S+bX,dP:=dP,base:=base}
noncomputable def bc.re(c:bc)(h₀:gj):bc:={c with P:=h₀.get?}
section
variable{c:bc}{st:St}{s:aM}
noncomputable def nv(β:aZ):List Nat->List aF
 |[]=>[]
 |n::r=>match β.ad[n]? with
  |some (a,d)=>a::d::nv β r
  |none=>nv β r
theorem Rd(β:aZ)(n:Nat)(r:List Nat):nv β (n::r)=match β.ad[n]? with|some (a,d)=>a::d::nv β r|none=>nv β r:=rfl
theorem Jh{a d:Nat}(e:β.ad[n]? =C (a,d)):∀{l:List Nat},n∈l->a∈nv β l/\d∈nv β l
 |m::r,h=>by
  rcases dg.mp h with rfl|h
  ·(refine G (Rd _ _ _) (G e ?_));exact⟨.head _,.tail _ (.head _)⟩
  .refine a3 (Jh e h) λx y=>G (Rd _ _ _) ?_;generalize β.ad[m]? =z;induction z using b3 with
   |none=>exact⟨x,y⟩
   |some p=>exact⟨.tail _ (.tail _ x),.tail _ (.tail _ y)⟩
theorem Q3{b:aF}{l:List Nat}(h:b∈nv β l):∃n a d,n∈l/\β.ad[n]? =C (a,d)/\(b=a\/b=d):=by
 induction l with
 |nil=>cases h
 |cons m r bF=>
  have rest:b∈nv β r->∃n a d,n∈m::r/\β.ad[n]? =C (a,d)/\(b=a\/b=d):=λh=>by exact kf (bF h) λn a d x y z=>(wO n a d (.tail _ x) y z)
  replace h:b∈(match β.ad[m]? with|some (a,d)=>a::d::nv β r|none=>nv β r):=h;generalize e:β.ad[m]? =aD;induction aD using b3 with
  |none=>rw[e] at h;exact rest h
  |some p=>
   rw[e] at h;rcases dg.mp h with q|h
   .exact(wO m p.1 p.2 (.head _) e (.inl q))
   .rcases dg.mp h with q|h
    .exact(wO m p.1 p.2 (.head _) e (.inr q))
    .exact rest h
structure Seen(g:cy)(c:bc)(st:St)(β:aZ)(s:aM)(dep:Nat)(ah:cV)(bX:Nat)(p:b4)(h₀:gj)(base:aF->Option (List (aO×az))):Prop where
 ok:(g.re h₀ bX (pull ah β) base).Ok
 cp:(c.re h₀).Ok (g.re h₀ bX (pull ah β) base) dep
 sat:Sat (g.re h₀ bX (pull ah β) base) (c.re h₀) p.st (pull ah β) s
 up:∀a o,c.P a=C o->h₀.get? a=C o
 down:∀a o,h₀.get? a=C o->s.heap.get? a=C o
 base:∀a o ay,s.heap.get? a=C o->o.IsDictOf (strKind g.prog g.w) ay->base a=C ay
 rest:∀n own o,st.σ.get n=C (own,o)->n∉h_ p.os ah.ad->∃a d,β.ad[n]? =C (a,d)/\cL g h₀.get? β a d o
 pull:e7 ah (pull ah β) β
 not:∀n a d,n∈h_ p.os ah.ad->β.ad[n]? =C (a,d)->h₀.get? a=none/\h₀.get? d=none
 own:∀n own o a d,st.σ.get n=C (own,o)->n∉h_ p.os ah.ad->β.ad[n]? =C (a,d)->o≠.gone->∀b,b=a\/b=d->∃x,h₀.get? b=C x
theorem R0(xs:List aF)(aak:∀b∈xs,c.P b=none)(aal:∀n o a d,st.σ.get n=C (ae,o)->β.ad[n]? =C (a,d)->a∉xs/\d∉xs)(O:g.Ok)(U:c.Ok g dep)(H:Sat g c st β s)(h:h1 ah bX st p=ae)(br:g.S+bX<=100000):
  ∃h₀ base,Seen g c st β s dep ah bX p h₀ base/\∀b∈xs,h₀.get? b=none:=by
 obtain Rt:=bB h;have h7:=bR h;have eT:=bR h7;have cP:=bR eT;have bl:=bR cP;have aJ:=bR bl;have af:=bR aJ;have cE:=bB af;have dS:=bA (bR af);refine fO (zz cE) λt2 qz C5=>?_;have F:=H.facts;have lt:∀n∈ah.ad,n<β.ad.length:=λn aN=>H.len.symm▸qz n aN;refine a3 (Jn F lt (bB aJ) (bB bl) (bB cP) (bB eT) (bB h7)) λT W=>bG H.objs λf hf=>?_;let hd:=h_ p.os ah.ad;let hide:=c.L::(c.cw.map (·.1)++(nv β hd++xs));let h₀:=hideAll s.heap hide;have Ra:∀n∈hd,∃o a d,st.σ.get n=C (ae,o)/\β.ad[n]? =C (a,d)/\f a=n/\f d=n/\c.gV a/\c.gV d:=λn aN=>by refine cz (Q2 aN) λi o a9 bf=>eH (C5 i ae o a9) λm cB iM I=>?_;rw[bf] at cB;(obtain J:=aT cB;clear cB;subst J);refine aS (iM rfl) λdn lS I=>?_;obtain(⟨a,d,bY,c5,fF⟩):=hf n ae dn lS;obtain(⟨cH,cX,fw,gT,_⟩):=fF rfl;exact(SV dn a d lS bY cH cX fw gT)
 obtain acH:∀b,c.gV b->b∉xs->(∀n∈hd,∀a d,β.ad[n]? =C (a,d)->b≠a/\b≠d)->b∉hide:=λb h6 n9 aB hm=>by
  rcases dg.mp hm with e|hm
  .exact h6.2.1 e
  .rcases mb.mp hm with hm|hm
   .exact aS (kY.mp hm) λx ak e=>h6.2.2 x ak e
   .rcases mb.mp hm with hm|hm
    .exact kf (Q3 hm) λn a d aN e w=>a3 (aB n aN a d e) λfG hA=>w.elim fG hA
    .exact n9 hm
 obtain Um:∀a o,c.P a=C o->a∉hide:=λa o q hm=>by
  rcases dg.mp hm with e|hm
  .rw[e,U.iX] at q;exact bM q
  .rcases mb.mp hm with hm|hm
   .refine aS (kY.mp hm) λx ak e=>?_;rw[<-e,(U.hd x ak).1] at q;exact bM q
   .rcases mb.mp hm with hm|hm
    .refine kf (Q3 hm) λn dp ec aN e w=>C7 (Ra n aN) λdn a2 hp I bY I I fw gT=>?_;rw[e] at bY;(obtain J:=aT bY;clear bY;refine a3 (eD J) λbT cu=>?_;clear J;subst bT;subst cu);rcases w with rfl|rfl
     .rw[fw.1] at q;exact bM q
     .rw[gT.1] at q;exact bM q
    .rw[aak a hm] at q;exact bM q
 have up:∀a o,c.P a=C o->h₀.get? a=C o:=λa o q=>Ei _ (H.keep a o q) (Um a o q);have down:∀a o,h₀.get? a=C o->s.heap.get? a=C o:=λa o q=>of_hideAll _ q;obtain ah9:∀b x,b∈hide->h₀.get? b=C x->False:=λb x hm q=>by obtain this:h₀.get? b=none:=qT _ hm;rw[this] at q;exact bM q
 have aB:∀(a6:aF->Option cY),(∀a o,a6 a=C o->s.heap.get? a=C o)->∀a o ay,a6 a=C o->o.IsDictOf (strKind g.prog g.w) ay->∀old,baseOf g s.heap a=C old->ay=old:=λa6 nf a o ay a9 bf old cB=>by rw[Ms (nf a o a9) bf] at cB;(obtain J:=aT cB;clear cB;subst J);rfl
 obtain aem:∀n o,st.σ.get n=C (ae,o)->n∉hd->∃a d,β.ad[n]? =C (a,d)/\(∀b,b=a\/b=d->∀x,s.heap.get? b=C x->h₀.get? b=C x)/\cL g h₀.get? β a d o/\o≠.gone:=λn o e aN=>by
  obtain(⟨a,d,bY,c5,fF⟩):=hf n ae o e;obtain(⟨cH,cX,fw,gT,gL⟩):=fF rfl;have c5:cL g s.heap.get? β a d o:=c5;obtain CW:∀b,b=a\/b=d->b∉hide:=λb aB=>by
   have h6:f b=n:=by rcases aB with rfl|rfl<;>assumption
   refine acH b (by rcases aB with rfl|rfl<;>assumption) (by refine a3 (aal n o a d e bY) λeV dX=>?_;rcases aB with rfl|rfl<;>assumption) λm hm dp ec cq=>?_
   refine QX (Ra m hm) λI a2 hp I fG hA kl I=>?_;rw[cq] at fG;(obtain J:=aT fG;clear fG;refine a3 (eD J) λbT cu=>?_;clear J;subst bT;subst cu);exact⟨λz=>aN (by(refine G (bV h6) (G z (G hA ?_)));exact hm),λz=>aN (by(refine G (bV h6) (G z (G kl ?_)));exact hm)⟩
  have k:∀b,b=a\/b=d->∀x,s.heap.get? b=C x->h₀.get? b=C x:=λb aB x q=>Ei _ q (CW b aB);exact(i3 a d bY k (c5.mono (.refl _) (λI=>k a (.inl rfl) _) (λI=>k d (.inr rfl) _)) gL)
 have rest:∀n own o,st.σ.get n=C (own,o)->n∉hd->∃a d,β.ad[n]? =C (a,d)/\cL g h₀.get? β a d o:=λn own o e aN=>by
  induction own using bZ with
  |true=>exact ig (aem n o e aN) λa d bY I c5 I=>(gi a d bY c5)
  |false=>obtain(⟨a,d,bY,c5,_⟩):=hf n ai o e;exact(gi a d bY (cL.mono (.refl _) (up a) (up d) (show cL g c.P β a d o from c5)))
 refine(wN h₀ (baseOf g s.heap) ?_);obtain Y8:(g.re h₀ bX (pull ah β) (baseOf g s.heap)).Ok:=by have k:∀b o,g.h₀.get? b=C o->h₀.get? b=C o:=λb o q=>up b o (U.base b o q);refine⟨O.fl.keeps k,O.top.keeps k,br,?_⟩;show ku<h₀.objs.size;exact G (hideAll_size _ _) (H.toSatO.low U O)
 refine⟨⟨Y8,⟨λa o q=>q,U.frames,U.here,λx ak=>?_,?_,U.depth,U.units,U.calm,U.dep⟩,⟨⟨down,H.cw,⟨λa=>tR (f a) ah.ad,λn own o q=>?_⟩,?_,?_,.refl _⟩,H.os,?_⟩,up,down,λa o ay a9 bf=>Ms a9 bf,rest,T,λn a d aN e=>?_,λn own o a d e aN aU gx b aB=>?_⟩,λb aB=>qT _ (mO _ (sG _ (sG _ aB)))⟩
 .exact⟨qT _ (mO _ (q4 _ (kU ak))),(U.hd x ak).2⟩
 .exact qT _ (.head _)
 .rw[b4.get (bU (by assumption) (bA rfl))] at q;refine eH (C5 n own o q) λm a9 bf cB=>?_;induction own using bZ with
  |true=>
   refine jQ (bf rfl) λdn bY c5 fF jX=>?_;obtain(⟨a,d,cH,cX,fw⟩):=hf m ae dn bY;obtain(⟨fG,hA,kl,uo,_⟩):=fw rfl;obtain ab3:m∈hd:=Zi q a9;refine a3 (Jh cH ab3) λJg Di=>⟨a,d,Jm a9 cH,Nf (g:=g) (bq:=g.re h₀ bX (pull ah β) (baseOf g s.heap)) T F rfl rfl rfl rfl (λo ay=>aB _ (λI I e=>e) a o ay) jX (show cL g s.heap.get? β a d dn from cX),λI=>⟨by show tR (f a) ah.ad=n;(refine G fG (G fF ?_));exact ko _ _,by show tR (f d) ah.ad=n;(refine G hA (G fF ?_));exact ko _ _,?_,?_,?_⟩⟩
   .exact⟨qT _ (mO _ (sG _ (q4 _ Jg))),kl.2⟩
   .exact⟨qT _ (mO _ (sG _ (q4 _ Di))),uo.2⟩
   .intro e;(clear jX cB bf q;subst e);exact c7 c5
  |false=>exact cz (G0 (bq:=g.re h₀ bX (pull ah β) (baseOf g s.heap)) T F lt cE rfl rfl rfl rfl (aB _ down) rest q) λa d cH cX=>⟨a,d,cH,cX,λe=>by exact c7 e⟩
 .exact(gB _).trans t2.symm
 .exact W
 .refine aS H.loc λm hm aX=>⟨m,hm,λx v e=>?_⟩;exact cN (eX.mp Rt (x,v) (Ou e)) λu cx this=>by exact aS (aX x u cx) λy bS r=>(bh y bS (ta T F this r))
 .exact a3 (Jh e aN) λJg Di=>⟨qT _ (mO _ (sG _ (q4 _ Jg))),qT _ (mO _ (sG _ (q4 _ Di)))⟩
 .refine cz (rest n own o e aN) λdp ec bY c5=>?_;rw[aU] at bY;(obtain J:=aT bY;clear bY;refine a3 (eD J) λbT cu=>?_;clear J;subst bT;subst cu);refine a3 (cL.there gx c5) λx y=>?_;rcases aB with rfl|rfl<;>assumption
theorem r9(O:g.Ok)(U:c.Ok g dep)(H:Sat g c st β s)(h:h1 ah bX st p=ae)(br:g.S+bX<=100000):∃h₀ base,Seen g c st β s dep ah bX p h₀ base:=by exact cz (R0 [] (λb aB=>(nomatch aB)) (λn o a d I I=>⟨by simp,by simp⟩) O U H h br) λh₀ base N I=>(wN h₀ base N)
end
variable{cT:cy}{ha:Nat}
section
variable{a6:aF->Option cY}{a:aF}
theorem IX{f:aV->Option fb}:∀{l:List aV}{m:List fb},zc f l=C m->bK (λa b=>f a=C b) l m:=by
 intro l;induction l with
 |nil=>intro m h;(obtain J:=aT h;clear h;subst J);exact .nil
 |cons x r bF=>exact λh=>ct h λa aU h=>omap h λb aB e=>e▸.cons aU (bF aB)
theorem bK.swap{R:aV->fb->Prop}{hV:fb->aV->Prop}(k:∀a b,R a b->hV b a){l:List aV}{m:List fb}(h:bK R l m):bK hV m l:=by
 induction h with
 |nil=>exact .nil
 |cons x _ bF=>exact .cons (k _ _ x) bF
theorem Ss(T:e7 ah av β){zs:List V}(h:J4 ah xs=C zs)(r:bK (a7 av) xs aH):bK (a7 β) zs aH:=
 (bK.swap (hV:=λb a=>V.eM ah a=C b) (λI I h=>h) (IX (f:=V.eM ah) h)).comp r λI I I h r=>(V.zZ T h).mp r
theorem agy(T:e7 ah av β){xs zs:List (aO×V)}{aH:List hT}(h:Sr ah xs=C zs)(r:bK (mY av) xs aH):bK (mY β) zs aH:=
 (bK.swap (hV:=λb a=>J2 ah a=C b) (λI I h=>h) (IX (f:=J2 ah) h)).comp r λI I I h r=>omap h λI h e=>e▸⟨r.1,(V.zZ T h).mp r.2⟩
theorem agx(T:e7 ah av β){xs zs:List (ag×V)}(h:Sq ah xs=C zs)(bJ:kZ av ay xs):bK (EH av β ay) zs xs:=
 (bK.swap (hV:=λb a=>J1 ah a=C b) (λI I h=>h) (IX (f:=J1 ah) h)).Pf λb a aU h=>ct h λk aw h=>omap h λx ak e=>by obtain(⟨l,v,aa,af,aJ⟩):=bJ a aU;exact e▸⟨l,v,ag.agf T aw aa,aa,af,(V.zZ T ak).mp aJ⟩
theorem O.Su(T:e7 ah av β)(br:cT.S=g.S+ha)(b6:cT.prog=g.prog)(hw:cT.w=g.w){dn:O}(h:O.up ah ha o=C dn)(R:cL cT a6 av a d o):cL g a6 β a d dn/\dn≠.gone:=by
 induction o using MI.O.casesOn with
 |inst U dG=>
  exact omap h λzs a8 e=>by obtain(⟨aa,ar,n,af,aJ,bl⟩):=R;exact e▸⟨⟨aa,ar,n,af,aJ,agy T a8 bl⟩,λe=>O.noConfusion e⟩
 |list xs=>
  exact omap h λzs a8 e=>by obtain(⟨aa,aH,n,af,aJ⟩):=R;exact e▸⟨⟨aa,aH,n,af,Ss T a8 aJ⟩,λe=>O.noConfusion e⟩
 |tup xs=>
  exact omap h λzs a8 e=>by obtain(⟨aa,aH,n,af,aJ⟩):=R;exact e▸⟨⟨aa,aH,n,af,Ss T a8 aJ⟩,λe=>O.noConfusion e⟩
 |dict ar op=>
  induction op using b3 with
  |some _=>exact bM h
  |none=>
   exact omap h λzs a8 e=>by
    obtain(⟨aa,af,o,ay,aJ,bl,cP,eT,h7,h8⟩):=R;have A:=agx T a8 cP;refine e▸⟨⟨aa,af,o,ay,aJ,b6▸hw▸bl,λe he=>?_,A.Rp eT λa b dp dE x y n z=>?_,λk aw=>?_,A.length▸h8⟩,λe=>O.noConfusion e⟩
    .refine aS (A.l e he) λf I q=>?_;obtain(⟨l,v,dv,_,hz,pz⟩):=q;exact⟨l,v,dv,hz,pz⟩
    .obtain(⟨_,_,dv,dU,_,_⟩):=x;obtain(⟨_,_,cH,cX,_,_⟩):=y;exact n (dU.trans (dv.symm.trans (z.trans (cH.trans cX.symm))))
    .refine aS (h7 k aw) λf hf q=>aS (A.r f hf) λe he en=>?_;obtain(⟨l,v,dv,dU,_,_⟩):=en;exact(bh e he (dv.trans (dU.symm.trans q)))
 |jx n j=>(obtain J:=aT h;clear h;subst J);obtain(⟨aa,af,o,ay,aJ,bl,cP,eT⟩):=R;refine⟨⟨aa,af,o,ay,aJ,b6▸hw▸bl,λdm tG=>?_,by rw[br] at eT;exact bU eT (eP xG.symm)⟩,λe=>O.noConfusion e⟩;exact fD (cP dm tG) λz t e z8 fG=>(d1 z t e z8 (by rw[br] at fG;exact gk fG (jn.mpr (eP xG.symm))))
 |_=>exact bM h
theorem Sw{f:Nat->aV}{i:Nat}(h:j<n):(lA f n i)[j]? =C (f (i+j)):=by unfold lA;(refine G oD ?_;refine G (List.getElem?_range' h) ?_;refine G (Nat.one_mul _) ?_);rfl
theorem J5{f:Nat->aV}{i:Nat}:(lA f n i).length=n:=(gB ..).trans List.length_range'
theorem l0{l:List aV}{i:Nat}{x:aV}(h:l[i]? =C x):i<l.length:=(j0.mp h).1
theorem Sv{f:Nat->aV}{i:Nat}(h:j<n):cG (lA f n i) j=C (f (i+j)):=(fY _ _).trans (Sw h)
theorem Sx{f:Nat->aV}{i:Nat}{x:aV}(h:cG (lA f n i) j=C x):j<n:=J5 (f:=f) (n:=n) (i:=i)▸l0 ((fY _ _).symm.trans h)
theorem Bx{l m:List aV}{i:Nat}{x:aV}(h:cG l i=C x):cG (l++m) i=C x:=(fY _ _).trans (a4 (lI _ _) ((fY _ _).symm.trans h))
theorem vk{l:List aV}{f:Nat->aV}{q i:Nat}(aX:l.length=k)(h:k<=i)(af:i<q):cG (l++lA f (q-k) eF) i=C (f (eF+(i-k))):=by subst aX;(refine G (fY _ _) (G (pH h) ?_));exact Sw (Nat.sub_lt_sub_right h af)
theorem wo{l m:List aV}{w i:Nat}{x:aV}(hw:l.length=w)(h:k<=i)(e:m[i]? =C x):(l++m.drop k)[w+(i-k)]? =C x:=by(refine G (pH (hw▸gs _ _)) ?_;refine G hw (G (DS _ _) (G Ag ?_));refine G (KI h) ?_);exact e
theorem GY{l:List aV}{f:Nat->aV}{q i:Nat}{x:aV}(aX:l.length=k)(aw:k<=q)(e:cG (l++lA f (q-k) eF) i=C x):i<q:=by obtain this:=l0 ((fY _ _).symm.trans e);rw[iG,J5,aX,KI aw] at this;exact this
theorem qc{l:List aV}{i:Nat}(aX:l.length=n)(h:i<n):∃x,l[i]? =C x:=⟨_,i5 (aX▸h)⟩
theorem zG{l m:List aV}{i:Nat}{x:aV}(b6:l<+:m)(e:m[i]? =C x)(h:i<l.length):l[i]? =C x:=by(refine bG b6 λt J=>?_;try clear b6;subst J);rw[wU h] at e;exact e
theorem Fj{x:bz}(h:β.ck[k]? =C x):ag.val β [.any k]=C x:=ag.eN.mpr (d1 x [] h rfl ((ma _).symm))
theorem Bh{c:Nat}(h:β.aj[k]? =C c):ag.val β [.chr k]=C [c]:=ag.eN.mpr (d1 [c] [] (congrArg (uG λc=>[c]) h) rfl rfl)
theorem L_{x:Int}(h:β.aC[k]? =C x):(bo.aL 0 ai k).val β=C x:=(rt h).trans (congrArg C (Ea x))
theorem QJ:∀{l:List Nat},zo l=ae->l.Nodup
 |[],_=>.nil
 |n::r,h=>by
  rw[acB] at h;split at h
  .exact c7 h
  .rename_i q;exact jD.mpr ⟨λm=>(by rw[vY.mpr m] at q;exact jB q),QJ h⟩
theorem adx(l:List (Nat×(Bool×O))):∀(t:d0 (Bool×O))(m:Nat),(∀x∈l,x.1<10000000)->(l.map (·.1)).Nodup->(∀x,(m,x)∈l->(putAll t l).get m=C x)/\(m∉l.map (·.1)->(putAll t l).get m=t.get m):=by
 induction l with
 |nil=>exact λt m I I=>⟨λx h=>(nomatch h),λI=>rfl⟩
 |cons y l bF=>
  intro t m aB aN;rw[j2,jD] at aN;refine a3 (bF (t.put cU y.1 y.2) m (λx ak=>aB x (.tail _ ak)) aN.2) λda dA=>?_;have bS:=aB y (.head _);have r2:=d0.k8 cU t y.1 y.2 m (by obtain this:(10000000:Nat)<=2^cU-1:=(aR rfl);exact bU (by assumption) (bA rfl));refine⟨λx h=>?_,λh=>?_⟩
  .show(putAll (t.put cU y.1 y.2) l).get m=_;rcases dg.mp h with e|h
   ·(clear h bS da aB;subst e);exact G (dA aN.1) (G r2 (G (if_pos rfl) rfl))
   .exact da x h
  .show(putAll (t.put cU y.1 y.2) l).get m=_;rw[j2,dg,not_or] at h;exact G (dA h.2) (G r2 (G (if_neg h.1) rfl))
theorem mv(h:k_ b=C u):b=true:=by
 induction b using bZ with
 |true=>rfl
 |false=>exact bM h
theorem adw{own:Bool}{m:Bool}{y:Option (Bool×O)}(h:Jo ah ha own o m=C y):(y=none/\m=ai)\/∃b z,y=C (b,z)/\((b=ae/\own=ae/\O.up ah ha o=C z/\nu o=ae/\m=ae)\/(b=ai/\z=.gone/\own=ai)):=by
 induction m using bZ with
 |false=>
  induction own using bZ with
  |true=>exact bM h
  |false=>(obtain J:=aT h;clear h;subst J);exact .inl ⟨rfl,rfl⟩
 |true=>
  unfold Jo at h;dsimp only at h;generalize e:nu o=aD;induction aD using bZ with
  |true=>
   rw[e] at h;induction own using bZ with
   |true=>exact omap h λz a8 e=>.inr (gi ae z e.symm (.inl (DK rfl rfl a8 rfl rfl)))
   |false=>exact bM h
  |false=>
   rw[e] at h;induction own using bZ with
   |true=>exact bM h
   |false=>(obtain J:=aT h;clear h;subst J);exact .inr (gi ai .gone rfl (.inr (fi rfl rfl rfl)))
theorem abT{os:List (Bool×O)}(h:may os=ae)(aX:0<os.length):∃o,os[0]? =C (ae,o):=by
 induction os using es with
 |nil=>exact absurd aX (qR _)
 |cons x r=>exact⟨x.2,by refine G (bV (show x.1=ae from h)) ?_;rfl⟩
theorem NL{l:List aV}{i:Nat}:(l.drop 1)[i]? =l[i+1]? :=by(refine G Ag ?_;exact G (ko _ _) rfl)
noncomputable def AN(ah:cV)(ha:Nat)(os wh:List (Bool×O))(ns:List Nat)(n:Nat)(b:Bool)(x:O):Prop:=∃(i:Nat)(own:Bool)(o:O),wh[i]? =C (own,o)/\ns[i]? =C n/\((b=ae/\own=ae/\O.up ah ha o=C x/\nu o=ae/\(i<os.length->∃o0,os[i]? =C (ae,o0)))\/(b=ai/\x=.gone/\own=ai))
theorem AN.next{os r:List (Bool×O)}{y:Bool×O}{ns:List Nat}{m:Nat}{x:O}(h:AN ah ha (os.drop 1) r ns m b x):AN ah ha os (y::r) (n::ns) m b x:=by(refine kf h λi om qz a9 bf cB=>?_;try clear h);refine⟨i+1,om,qz,a9,bf,cB.imp_left λw=>(DK w.1 w.2.1 w.2.2.1 w.2.2.2.1 (λaX=>?_))⟩;obtain this:=w.2.2.2.2 (G uw (Nat.lt_sub_of_add_lt aX));rw[NL] at this;exact this
theorem adB:∀{wh os:List (Bool×O)}{ns:List Nat}{l:List (Nat×(Bool×O))},Jq ah ha os wh ns=C l->
  (∀n b x,(n,(b,x))∈l->AN ah ha os wh ns n b x)/\
  (∀(i:Nat)(o0:O)(n:Nat),os[i]? =C (ae,o0)->ns[i]? =C n->∃x,(n,x)∈l):=by
 intro wh;induction wh with
 |nil=>
  intro os ns l h;induction ns using es with
  |nil=>(obtain J:=aT h;clear h;subst J);exact⟨λn b x h=>(nomatch h),λi o0 n I h=>(nomatch h)⟩
  |cons _ _=>exact bM h
 |cons y r bF=>
  intro os ns l h;induction ns using es with
  |nil=>exact bM h
  |cons n ns=>
   exact ct h λa_ aA h=>omap h λz a8 e=>by
    refine a3 (bF aA) λa b=>?_;have dE:∀(i:Nat)(o0:O)(m:Nat),os[i+1]? =C (ae,o0)->ns[i]? =C m->∃x,(m,x)∈a_:=λi o0 m bN hm=>b i o0 m (NL.trans bN) hm;rcases adw a8 with⟨rfl,hm⟩|⟨xO,x,rfl,ak⟩
    .obtain e:a_=l:=e;subst e;refine⟨λm xO x ak=>(a m xO x ak).next,λi o0 m bN he=>?_⟩;induction i using hD with
     |succ i=>exact dE i o0 m bN he
     |zero=>
      induction os using es with
      |nil=>exact nomatch bN
      |cons w _=>(obtain J:=aT bN;clear bN;(clear h a8 dE b a aA;subst J));exact jB hm
    .obtain e:(n,(xO,x))::a_=l:=e;subst e;refine⟨λm el dU hm=>?_,λi o0 m bN he=>?_⟩
     .rcases dg.mp hm with q|hm
      ·(refine a3 (eD q) λJ bT=>?_;clear q;subst J;refine a3 (eD bT) λcu jC=>?_;clear bT;subst cu;(clear hm h a8;subst jC));exact⟨0,y.1,y.2,rfl,rfl,ak.imp_left λw=>(DK w.1 w.2.1 w.2.2.1 w.2.2.2.1 (λaX=>abT w.2.2.2.2 aX))⟩
      .exact(a m el dU hm).next
     .induction i using hD with
      |zero=>(obtain J:=aT he;clear he;subst J);exact⟨_,.head _⟩
      |succ i=>exact(dE i o0 m bN he).imp λI q=>.tail _ q
end
variable{aY:aZ}{q:b4}{base:aF->Option (List (aO×az))}{zs:List Int}
section
variable{c c₂:bc}{st:St}{s b0:aM}{Ls:Nat}{h₀:gj}
theorem RZ(h:h1 ah bX st p=ae):ah.ad.length=p.os.length/\ah.aC.length=p.au.length/\ah.aj.length=p.aE.length/\ah.ck.length=p.ns/\p.os.length<=100000/\(∀(i n:Nat),ah.ad[i]? =C n->n<st.no):=by unfold h1 at h;simp only[ew] at h;(refine a3 h λJ Rt=>?_;try clear h;refine a3 J λbT wy=>?_;try clear J;refine a3 bT λcu Js=>?_;try clear bT;refine a3 cu λjC Rr=>?_;try clear cu;refine a3 jC λsh Jr=>?_;try clear jC;refine a3 sh λsi fQ=>?_;try clear sh;refine a3 si λdS cE=>?_;try clear si);exact fO (zz cE) λt2 qz I=>(agZ t2.symm ((p0 (f:=Ba st.au bX) fQ).length.symm) ((p0 (f:=Bi st.aE) Jr).length.symm) (d2 Js) (bA dS) (λi n e=>qz n (l7 e)))
noncomputable def aZ.past(β aY:aZ)(p:b4):aZ:=⟨β.ad++aY.ad.drop p.os.length,β.aC++aY.aC.drop p.au.length,β.aj,β.ck++aY.ck.drop p.ns⟩
theorem aZ.qD:β.le (β.past aY p):=⟨lI _ _,lI _ _,iH _,lI _ _⟩
theorem adm(H:SatO g c st β s.heap)(h:h1 ah bX st p=ae)(T:e7 ah (pull ah β) β)(e8:SatO cT c₂ q.st aY b0.heap)(le:(pull ah β).le aY)(lb:p.aE.length=q.aE.length)(aw:p.os.length<=q.os.length)(bN:p.au.length<=q.au.length)(aN:p.ns<=q.ns):
  e7 (ah.ext st p q) aY (β.past aY p):=by
 refine QU (RZ h) λeG fB qu rT I I=>?_;obtain hP:(pull ah β).ad.length=p.os.length:=by show(ah.ad.map _).length=_;exact G (gB _) (G eG rfl)
 obtain ll:(pull ah β).aC.length=p.au.length:=by show(ah.aC.map _).length=_;exact G (gB _) (G fB rfl)
 obtain za:(pull ah β).aj.length=p.aE.length:=by show(ah.aj.map _).length=_;exact G (gB _) (G qu rfl)
 obtain rX:(pull ah β).ck.length=p.ns:=by show(ah.ck.map _).length=_;exact G (gB _) (G rT rfl)
 have eV:aY.ad.length=q.os.length:=e8.len;have dX:aY.aC.length=q.au.length:=e8.facts.aC.length.symm;have vZ:aY.aj.length=q.aE.length:=e8.facts.aj.length.symm;have rY:aY.ck.length=q.ns:=e8.facts.de;obtain bY:β.ad.length=st.no:=H.len;obtain c5:β.aC.length=st.au.length:=H.facts.aC.length.symm;obtain jX:β.ck.length=st.ns:=H.facts.de;constructor
 .intro i x e;rcases w_ i p.os.length with aX|aX
  .exact aS (T.ad i x (zG le.ad e (hP▸aX))) λn a b=>(bh n (Bx a) (a4 (lI _ _) b))
  .exact(bh _ (vk eG aX (eV▸l0 e)) (wo bY aX e))
 .intro i x e;rcases w_ i p.au.length with aX|aX
  .exact aS (T.aC i x (zG le.aC e (ll▸aX))) λn a b=>(bh n (Bx a) (bo.hy aZ.qD b))
  .exact(bh _ (vk fB aX (dX▸l0 e)) (L_ (wo c5 aX e)))
 .intro i x e;exact aS (T.aj i x (zG le.aj e ((vZ.trans (lb.symm.trans za.symm))▸l0 e))) λn a b=>(bh n a (ag.hy aZ.qD b))
 .intro i x e;rcases w_ i p.ns with aX|aX
  .exact aS (T.ck i x (zG le.ck e (rX▸aX))) λn a b=>(bh n (Bx a) (ag.hy aZ.qD b))
  .exact(bh _ (vk rT aX (rY▸l0 e)) (Fj (wo jX aX e)))
 .exact λi n e=>qc eV (GY eG aw e)
 .exact λi n e=>qc dX (GY fB bN e)
 .exact λi n e=>qc vZ (lb▸qu▸l0 ((fY _ _).symm.trans e))
 .exact λi n e=>qc rY (GY rT aN e)
theorem shifted{bs:List b5}(h:bK (λ(b:b5)(z:Int)=>b.1<=z/\z<=b.2.1/\∀j,b.2.2=C j->z<=((S+ha+j:Nat):Int)) bs zs):
  bK (λ(b:b5)(z:Int)=>b.1<=z/\z<=b.2.1/\∀j,b.2.2=C j->z<=((S+j:Nat):Int)) (bs.map (RR ha)) zs:=by
 induction h with
 |nil=>exact .nil
 |cons r _ bF=>exact .cons (fi r.1 r.2.1 (λj cD=>omap cD λk aw e=>by(refine G (bV e) ?_;(refine G ((ko k) _) (G (bV (kW _ _ _)) ?_)));exact r.2.2 k aw)) bF
noncomputable def Kept(st:St)(β:aZ)(hd:List Nat)(x:aF):Prop:=∃n o a d,st.σ.get n=C (ae,o)/\n∉hd/\β.ad[n]? =C (a,d)/\(x=a\/x=d)
open Classical in
noncomputable def ownerOf(st:St)(β:aZ)(hd l:List Nat)(f oW:aF->Nat)(x:aF):Nat:=if Kept st β hd x then f x else(l[oW x]?).getD 0
theorem Rb{hd l:List Nat}{oW:aF->Nat}{x:aF}(h:Kept st β hd x):ownerOf st β hd l f oW x=f x:=by unfold ownerOf;exact if_pos h
theorem Rc{hd l:List Nat}{oW:aF->Nat}{x:aF}{i:Nat}(h:¬Kept st β hd x)(e:oW x=i)(q:l[i]? =C n):ownerOf st β hd l f oW x=n:=by unfold ownerOf;(refine G (if_neg h) (G e (G q ?_)));rfl
theorem adn(U:c.Ok g dep)(H:Sat g c st β s)(h:h1 ah bX st p=ae)(N:Seen g c st β s dep ah bX p h₀ base)(e8:SatO cT c₂ q.st aY b0.heap)(le:(pull ah β).le aY)
  (eB:∀a o,h₀.get? a=C o->c₂.P a=C o)(gw:c₂.L=c.L)(hr:c₂.cw=c.cw)(br:cT.S=g.S+(bX+Ls))(b6:cT.prog=g.prog)(hw:cT.w=g.w)(e:Rh ah (bX+Ls) st p q=C bk):
  SatO g c bk (β.past aY p) b0.heap/\e7 (ah.ext st p q) aY (β.past aY p)/\bk.loc=st.loc:=by
 exact ct e λhH bb e=>ct e λl aX e=>omap e λhH e9 e=>by
  subst e;have bb:=mv bb;obtain dv:=d2 (bR (bR (bR (bR (bR bb)))));obtain dU:=bA (bB (bR (bR (bR (bR bb)))));obtain hz:=bA (bB (bR (bR (bR bb))));have pz:=bA (bB (bR (bR bb)));have ag4:=bA (bB (bR bb));have SW:=bA (bB bb);have T:=adm H.toSatO h N.pull e8 le dv dU hz pz;refine(fi ?_ T rfl);refine QU (RZ h) λeG fB qu rT hH abu=>?_;have e9:(l.map (·.1)).Nodup:=QJ (mv e9);refine a3 (adB aX) λdd dx=>?_;obtain eV:aY.ad.length=q.os.length:=e8.len;obtain bY:β.ad.length=st.no:=H.len;obtain small:∀x∈l,x.1<10000000:=λx ak=>by
   refine kf (dd x.1 x.2.1 x.2.2 ak) λi own o a9 bf hH=>?_;have bN:i<q.os.length:=l0 a9;rcases w_ i p.os.length with aX|aX
   .obtain this:=abu i x.1 (zG (lI _ _) bf (eG.symm▸aX));exact ij this (bU (gs _ _) (bU SW (bA rfl)))
   .obtain e:st.no+(i-p.os.length)=x.1:=c0 (((fY _ _).symm.trans (vk (f:=id) eG aX bN)).symm.trans bf);exact jk (bU (eP e.symm) (bU (l_ (bU (Nat.sub_le _ _) (kp bN)) _) SW)) (bA rfl)
  refine bG H.objs λf hf=>bG e8.objs λoW ZM=>?_;have get:=λm=>adx l st.σ m small e9;refine⟨λa o q=>e8.keep a o (eB a o (N.up a o q)),λx ak=>e8.cw x (hr▸ak),⟨ownerOf st β (h_ p.os ah.ad) (ah.ext st p q).ad f oW,λn own o aN=>?_⟩,?_,?_,H.ghost.trans aZ.qD⟩
  .replace aN:(putAll st.σ l).get n=C (own,o):=aN;by_cases aw:n∈l.map (·.1)
   .refine aS (kY.mp aw) λe6 ak GN=>?_;(clear aw;subst GN);have ak:(e6.1,(own,o))∈l:=by exact G (bV (c0 (((get e6.1).1 e6.2 ak).symm.trans aN))) ak
    refine kf (dd e6.1 own o ak) λi oo dn a9 bf cB=>?_;have GB:q.st.σ.get i=C (oo,dn):=(b4.get (bU ag4 (aR rfl)) i).trans a9;obtain(⟨a,d,g1,g2,g3⟩):=ZM i oo dn GB;refine aS (T.ad i (a,d) g1) λm t1 jh=>?_;cases bf.symm.trans ((fY _ _).symm.trans t1);suffices q:cL g (c.seer b0.heap own) (β.past aY p) a d o/\(own=ae->EV c (ownerOf st β (h_ p.os ah.ad) (ah.ext st p q).ad f oW) e6.1 a d o) from⟨a,d,jh,q.1,q.2⟩;rcases cB with⟨nE,rfl,ji,jV,Sn⟩|⟨nE,ji,rfl⟩
    ·(clear ak aN;subst nE);refine a3 (O.Su (g:=g) T br b6 hw ji (show cL cT b0.heap.get? aY a d dn from g2)) λda dA=>?_;obtain(⟨cH,cX,fw,gT,_⟩):=g3 rfl;have QS:∀b,c₂.gV b->¬Kept st β (h_ p.os ah.ad) b:=λb h6 k=>by(refine QY k λn o a d v1 v2 wK v4=>?_;try clear k);obtain(⟨dp,ec,fG,hA,kl⟩):=hf n ae o v1;obtain(⟨_,_,_,_,iT⟩):=kl rfl;exact bG (N.own n ae o a d v1 v2 wK iT b v4) λx ak=>gy (h6.1.symm.trans (eB b x ak))
     have free:∀b,c₂.gV b->c.gV b:=λb h6=>by
      refine⟨?_,λz=>h6.2.1 (z.trans gw.symm),λx ak=>h6.2.2 x (hr.symm▸ak)⟩;generalize w:c.P b=aD;induction aD using b3 with
      |none=>rfl
      |some o=>exact gy (h6.1.symm.trans (eB b o (N.up b o w)))
     exact⟨da,λhH=>⟨Rc (QS a fw) cH bf,Rc (QS d gT) cX bf,free a fw,free d gT,dA⟩⟩
    ·(clear ak aN;subst nE);exact G ji ⟨trivial,λe=>by exact c7 e⟩
   .rw[(get n).2 aw] at aN;obtain(⟨a,d,g1,g2,g3⟩):=hf n own o aN;suffices q:cL g (c.seer b0.heap own) (β.past aY p) a d o/\(own=ae->EV c (ownerOf st β (h_ p.os ah.ad) (ah.ext st p q).ad f oW) n a d o) from⟨a,d,a4 (aZ.qD (aY:=aY) (p:=p)).ad g1,q.1,q.2⟩;induction own using bZ with
    |false=>exact⟨cL.mono aZ.qD (λhH e=>e) (λhH e=>e) (show cL g c.P β a d o from g2),λe=>by exact c7 e⟩
    |true=>
     obtain(⟨cH,cX,fw,gT,gL⟩):=g3 rfl;have CW:n∉h_ p.os ah.ad:=λz=>by exact cz (Q2 z) λi o0 a9 bf=>bG (dx i o0 n a9 (a4 (lI _ _) bf)) λx ak=>aw (kU (f:=(·.1)) ak)
     refine cz (N.rest n ae o aN CW) λdp ec fG hA=>?_;cases g1.symm.trans fG;have I:∀b,b=a\/b=d->Kept st β (h_ p.os ah.ad) b:=λb aB=>⟨n,o,a,d,aN,CW,g1,aB⟩;exact⟨cL.mono aZ.qD (λo e=>e8.keep a o (eB a o e)) (λo e=>e8.keep d o (eB d o e)) hA,λhH=>⟨(Rb (I a (.inl rfl))).trans cH,(Rb (I d (.inr rfl))).trans cX,fw,gT,gL⟩⟩
  .show(β.ad++aY.ad.drop p.os.length).length=st.no+(q.os.length-p.os.length);exact G iG (G uw (G bY (G eV rfl)))
  .refine⟨?_,H.facts.aj,H.facts.cd,?_,λl aX=>?_⟩
   .refine H.facts.aC.append (shifted (ha:=bX+Ls) ?_);obtain this:=e8.facts.aC.drop p.au.length;rw[br] at this;exact this
   .show(β.ck++aY.ck.drop p.ns).length=st.ns+(q.ns-p.ns);(refine G iG (G uw (G H.facts.de (G e8.facts.de ?_))));rfl
   .rcases mb.mp aX with aX|aX
    .exact H.facts.ck l aX
    .exact e8.facts.ck l (List.mem_of_mem_drop aX)
end
structure xo(g:cy)(c:bc)(cT:cy)(c₂:bc)(ha:Nat):Prop where
 S:cT.S=g.S+ha
 prog:cT.prog=g.prog
 w:cT.w=g.w
 dT:cT.dT=g.dT
 up:∀a o,c.P a=C o->c₂.P a=C o
 L:c₂.L=c.L
 cw:c₂.cw=c.cw
noncomputable def md(h:nV)(g:cy)(c:bc)(β:aZ)(s:aM):Prop:=∀aH,bK (a7 β) h.bt aH->∀(Q:az->aM->Prop)(E:az->aM->Prop),
 (match h.ex with
 |false=>∀y b0 cT c₂ aY,β.le aY->SatO cT c₂ h.q.st aY b0.heap->m3 g b0->xo g c cT c₂ h.q5->a7 aY h.r y->Q y b0
 |true=>∀e b0 cT c₂ aY,β.le aY->SatO cT c₂ h.q.st aY b0.heap->m3 g b0->xo g c cT c₂ h.q5->pQ c₂ b0.heap e False->E (.ref e) b0)->jG g c (.ref h.f) aH Q E s
noncomputable def bc.seal(c:bc)(o:cY):bc:=c.enter c.L o c.fr c.A
section
variable{c:bc}{st:St}{s:aM}
theorem bc.Ok.seal(U:c.Ok g dep){o:cY}{ar:Array hT}(hd:o.data=.dict ar fm):(c.seal o).Ok g dep:=by
 refine⟨U.base,U.frames,λenv he=>?_,λx ak=>?_,U.iX,U.depth,U.units,U.calm,U.dep⟩
 .obtain(⟨aa,a,af,aJ⟩):=U.here env he;refine⟨aa,a,af,?_⟩;rcases aJ with aJ|⟨x,ak,aJ⟩
  .exact .inl aJ
  .exact .inr (bh x (.tail _ ak) aJ)
 .rcases dg.mp ak with rfl|ak
  .exact⟨U.iX,ar,fm,hd⟩
  .exact U.hd x ak
theorem Sat.seal(H:Sat g c st β s){o:cY}(bw:s.heap.get? c.L=C o):Sat g (c.seal o) {st with loc:=[]} β s:=by
 refine bG H.objs λf hf=>?_;obtain S:=H.toSatO.enter (L:=c.L) (fr:=c.fr) (A:=c.A) (f6:=[]) bw λn y a d q aa=>by obtain(⟨dp,ec,bY,_,fF⟩):=hf n ae y q;rw[aa] at bY;(obtain J:=aT bY;clear bY;refine a3 (eD J) λbT cu=>?_;clear J;subst bT;subst cu);obtain(⟨_,_,dd,dx,_⟩):=fF rfl;exact⟨dd.2.1,dx.2.1⟩
 exact aS H.loc λm hm I=>⟨S,H.os,m,hm,λx v e=>by exact bM e⟩
theorem bc.Ok.raise{p5:Nat}(U:c.Ok g dep)(h:dep<=p5)(aA:p5<400):c.Ok g p5:=by obtain aa:=U.depth;obtain af:=U.units;exact⟨U.base,U.frames,U.here,U.hd,U.iX,by lia,by lia,λI=>U.calm (jk (by assumption) (by assumption)),by lia⟩
set_option tactic.hygienic true in
theorem Z9{h:nV}(O:g.Ok)(br:g.S+h.bX<=100000)
  (f7:∀(c:bc)(dep:Nat)(β:aZ)(s:aM)(h₀:gj)(base:aF->Option (List (aO×az))),(g.re h₀ h.bX (pull h.ah β) base).Ok->c.Ok (g.re h₀ h.bX (pull h.ah β) base) dep->dep<=h.D->
   Sat (g.re h₀ h.bX (pull h.ah β) base) c h.p.st (pull h.ah β) s->c.P=h₀.get?->g.dP.le β->e7 h.ah (pull h.ah β) β->(∀a o,g.h₀.get? a=C o->h₀.get? a=C o)->(∀a o ay,s.heap.get? a=C o->o.IsDictOf (strKind g.prog g.w) ay->base a=C ay)->md h (g.re h₀ h.bX (pull h.ah β) base) c (pull h.ah β) s):fu g (fp h):=by
 intro c dep β f aK aH U R aW st s aa H;obtain R:=R.imp λ_ _ x=>x.le aa;unfold At;dsimp only;generalize q:fp h dep (.c (.ref f)) aK st=aD;induction aD using b3 with
 |none=>trivial
 |some o=>
  unfold fp at q;dsimp only at q;split at q
  .rename_i hm;rw[ew] at hm;obtain rfl:=d2 hm.1;obtain hg:=bA hm.2;split at q
   .rename_i bL;rw[ew] at bL;(refine a3 bL λs1 s2=>?_;try clear bL);refine mD H.loc.obj λfS qa tg hi jv mw oa=>?_;have ek:=U.seal jv;have oG:=H.seal hi;refine mC (r9 O ek oG s1 br) λh₀ base N=>?_;obtain rs:=Bl N.pull H.facts s2 R;have xZ:=f7 ((c.seal fS).re h₀) dep aW s h₀ base N.ok N.cp hg N.sat rfl H.ghost N.pull (λa o e=>N.up a o (ek.base a o e)) N.base aH rs;split at q
    .rename_i qL v b6 bJ;have fin:∀{b0:aM}{cT:cy}{c₂:bc}{aY:aZ},(pull h.ah aW).le aY->SatO cT c₂ h.q.st aY b0.heap->m3 g b0->xo (g.re h₀ h.bX (pull h.ah aW) base) ((c.seal fS).re h₀) cT c₂ h.q5->
       ∃mc,aW.le mc/\Sat g c {qL with loc:=st.loc} mc b0/\e7 (h.ah.ext {st with loc:=[]} h.p h.q) aY mc:=λle e8 bw a6=>by refine fO (adn ek oG s1 N e8 le a6.up a6.L a6.cw (G a6.S (kW _ _ _)) a6.prog a6.w b6) λuX AS _=>?_;refine(fT _ aZ.qD ?_ AS);refine⟨uX.leave,bw,?_⟩;exact bG (uX.cw (c.L,fS) (.head _)) λde e=>⟨_,⟨_,qa,tg,e,jv,mw,λ_=>rfl⟩,λx v e=>(aS (oa x v e) λy a b=>(bh y a (b.le aZ.qD)))⟩
     split at q
     .rename_i ak;(obtain J:=aT q;clear q;subst J);intro Q E aq;unfold md at xZ;rw[ak] at xZ;exact xZ Q E λy b0 cT c₂ aY le e8 bw a6 r=>eH (fin le e8 bw a6) λmc rW uX AS=>aq y b0 mc rW uX ((V.zZ AS bJ).mp r)
     .rename_i ak;(have J:=aT q;clear q;subst J);intro Q E aq;rw[ak] at xZ;refine xZ Q E λe b0 cT c₂ aY le e8 bw a6 gF=>eH (fin le e8 bw a6) λmc rW uX AS=>aq (.ref e) b0 mc rW ⟨e,rfl,?_,uX⟩;refine ih gF.told λcf us a1 a2 cj c9 dQ fe=>?_;have down:∀{x:aF},c₂.P x=none->c.P x=none:=λ{x} aN=>by
       generalize w:c.P x=aD;induction aD using b3 with
       |none=>rfl
       |some f_=>have:=a6.up x f_ (N.up x f_ w);rw[aN] at this;exact bM this
      exact⟨cf,us,a1,a2,cj,down c9,dQ,fe.imp id λgd=>(by(refine QY gd λT e2 cm eK cA el gE jr=>?_;try clear gd);exact(ag3 T e2 cm eK cA el (down gE) jr))⟩
    ·(obtain J:=aT q;clear q;subst J);trivial
   ·(obtain J:=aT q;clear q;subst J);trivial
  .exact bM q
end
structure df(g:cy)(e:b4)(β:aZ):Prop where
 objs:∀(i:Nat) own o,e.os[i]? =C (own,o)->∃a d,β.ad[i]? =C (a,d)/\cL g g.h₀.get? β a d o
 len:β.ad.length=e.os.length
 facts:Facts g.S e.au e.aE e.ns β
variable{ax:aZ}{ch:Nat}
section
variable{c:bc}{st:St}{s:aM}{e:b4}{aj:List ag}
theorem agz{x:O}(h:J3 ah o=C x):(o=.gone/\x=.gone)\/O.up ah 0 o=C x:=by
 unfold J3 at h;generalize e:nu o=aD;induction aD using bZ with
 |true=>rw[e] at h;exact .inr h
 |false=>rw[e] at h;exact .inl ⟨QR (congrArg not e),(c0 h).symm⟩
theorem aaT:∀{os:List (Bool×O)}{t dC:d0 (Bool×O)}{i m:Nat},Ip ah os t i=C dC->i+os.length<=10000000->(m<i->dC.get m=t.get m)/\(i+os.length<=m->dC.get m=t.get m)/\
  (i<=m->m<i+os.length->∃own o,os[m-i]? =C (own,o)/\((o=.gone/\dC.get m=C (ai,.gone))\/∃dn,O.up ah 0 o=C dn/\dC.get m=C (ai,dn))):=by
 intro os;induction os with
 |nil=>intro t dC i m h aB;(obtain J:=aT h;clear h;subst J);exact(fi (λI=>rfl) (λI=>rfl) (λaa af=>absurd af (i6.mpr aa)))
 |cons y r bF=>
  intro t dC i m h aB;exact ct h λx aaa ak=>by
   have bd:i<=2^cU-2:=bU (To aB) (aR rfl);have aB:i+1+r.length<=10000000:=by(refine G (kW _ _ _) (G ((ko 1) _) ?_));exact aB
   refine fO (bF (m:=m) ak aB) λda dA hx=>?_;have r2:=d0.k8 cU t i (ai,x) m (jk bd (aR rfl:2^cU-2<2^cU-1));refine(fi (λhm=>?_) (λhm=>?_) (λaa af=>?_))
   ·(exact G (da (w2 hm)) (G r2 (G (if_neg (kq hm)) rfl)))
   .have hm:i+1+r.length<=m:=by(refine G (kW _ _ _) (G ((ko 1) _) ?_));exact hm
    exact G (dA hm) (G r2 (G (if_neg (pB (To hm))) rfl))
   .by_cases hm:m=i
    ·(clear af aa hx dA bd ak aB h;subst hm);refine(gi y.1 y.2 (G (uD _) rfl) ?_);have:dC.get m=C (ai,x):=by exact G (da (K0 _)) (G r2 (G (if_pos rfl) rfl))
     rcases agz aaa with q|q
     .exact .inl ⟨q.1,q.2▸this⟩
     .exact .inr (bh x q this)
    .refine cz (hx (Ai aa (km hm)) (by(refine G (kW _ _ _) (G ((ko 1) _) ?_));exact af)) λoo dn a9 bf=>?_;refine(gi oo dn ?_ bf);obtain this:m-i=(m-(i+1))+1:=by exact JO (Ai aa (km hm))
     exact G this a9
noncomputable def aZ.app(β:aZ)(k:Nat)(ax:aZ):aZ:=⟨β.ad++ax.ad.drop k,β.aC++ax.aC,β.aj,β.ck++ax.ck⟩
theorem aZ.eb:β.le (β.app k ax):=⟨lI _ _,lI _ _,iH _,lI _ _⟩
theorem aaV{pre:List Nat}(H:SatO g c st β s.heap)(E:df g e ax)(b_:∀k ch,ax.aj[k]? =C ch->∃x,cG aj k=C x/\ag.val β x=C [ch])(aX:aj.length=e.aE.length)(HR:∀(i n:Nat),pre[i]? =C n->∃x,ax.ad[i]? =C x/\β.ad[n]? =C x):e7 (Px st pre aj e) ax (β.app pre.length ax):=by
 obtain bY:β.ad.length=st.no:=H.len;obtain c5:β.aC.length=st.au.length:=H.facts.aC.length.symm;obtain jX:β.ck.length=st.ns:=H.facts.de;have eV:=E.len;have dX:ax.aC.length=e.au.length:=E.facts.aC.length.symm;obtain vZ:ax.aj.length=e.aE.length:=E.facts.aj.length.symm;have rY:ax.ck.length=e.ns:=E.facts.de;have b6:∀(i:Nat)(bN:i<pre.length),∃x,ax.ad[i]? =C x/\β.ad[pre[i]]? =C x:=λi bN=>HR i _ (i5 bN);constructor
 .intro i x q;rcases w_ i pre.length with bN|bN
  .refine aS (b6 i bN) λy cH cX=>?_;cases q.symm.trans cH;exact(bh (pre[i]) (Bx ((fY _ _).trans (i5 bN))) (a4 aZ.eb.ad cX))
  .exact(bh _ (vk rfl bN (eV▸l0 q)) (wo bY bN q))
 .exact λi x q=>(bh _ (Sv (dX▸l0 q)) (L_ (wo (k:=0) c5 (l5 _) q)))
 .intro i x q;exact aS (b_ i x q) λy a b=>(bh y a (ag.hy aZ.eb b))
 .exact λi x q=>(bh _ (Sv (rY▸l0 q)) (Fj (wo (k:=0) jX (l5 _) q)))
 .intro i n q;rcases w_ i pre.length with bN|bN
  .exact(b6 i bN).imp λI y=>y.1
  .obtain this:=l0 ((fY _ _).symm.trans (show cG (pre++lA id (e.os.length-pre.length) st.no) i=C n from q));rw[iG,J5] at this;exact qc eV (by lia)
 .exact λi n q=>qc dX (Sx q)
 .exact λi n q=>qc vZ (aX▸l0 ((fY _ _).symm.trans q))
 .exact λi n q=>qc rY (Sx q)
theorem Py{pre:List Nat}(U:c.Ok g dep)(H:Sat g c st β s)(E:df g e ax)(b_:∀k ch,ax.aj[k]? =C ch->∃x,cG aj k=C x/\ag.val β x=C [ch])(aX:aj.length=e.aE.length)(HR:∀(i n:Nat),pre[i]? =C n->∃x,ax.ad[i]? =C x/\β.ad[n]? =C x)(h:hu st pre aj e=C bk):Sat g c bk (β.app pre.length ax) s:=by
 exact ct h λI aB h=>omap h λt ff h=>by
  subst h;obtain aB:=bA (mv aB);have T:=aaV H.toSatO E b_ aX HR;obtain bY:β.ad.length=st.no:=H.len;refine bG H.objs λf hf=>⟨⟨H.keep,H.cw,⟨f,λn own o q=>?_⟩,?_,?_,H.ghost.trans aZ.eb⟩,H.os,H.loc.le aZ.eb⟩
  .refine fO (aaT (m:=n) ff (G uw (bU (l_ (Nat.sub_le _ _) _) (bU aB (bA rfl))))) λda dA hx=>?_;rw[uw] at dA hx;replace q:t.get n=C (own,o):=q;by_cases aN:st.no<=n/\n<st.no+(e.os.length-pre.length)
   .refine cz (hx aN.1 aN.2) λoo dn a9 bf=>?_;rw[Ag] at a9;refine cz (E.objs _ _ _ a9) λa d cH cX=>aS (T.ad _ _ cH) λm t1 jh=>?_;obtain hm:m=n:=by have jh:cG (pre++lA id (e.os.length-pre.length) st.no) (pre.length+(n-st.no))=_:=vk rfl (gs _ _) (Nat.add_lt_of_lt_sub' (Nat.sub_lt_left_of_lt_add aN.1 aN.2));cases jh.symm.trans t1;show st.no+(pre.length+(n-st.no)-pre.length)=n;exact G (DS _ _) (G (KI aN.1) rfl)
    (clear t1 cH a9 aN hx dA da;subst hm);rcases bf with⟨_,bf⟩|⟨ah6,bf,cB⟩
    .rw[bf] at q;(obtain J:=aT q;clear q;refine a3 (eD J) λbT cu=>?_;clear J;subst bT;subst cu);exact⟨a,d,jh,trivial,λz=>by exact c7 z⟩
    .rw[cB] at q;(obtain J:=aT q;clear q;refine a3 (eD J) λbT cu=>?_;clear J;subst bT;subst cu);exact a3 (O.Su (g:=g) (cT:=g) T rfl rfl rfl bf cX) λfG I=>⟨a,d,jh,cL.mono (.refl _) (λo w=>U.base a o w) (λo w=>U.base d o w) fG,λz=>by exact c7 z⟩
   .obtain this:t.get n=st.σ.get n:=by
     by_cases aa:n<st.no
     .exact da aa
     .exact dA (sk λz=>aN ⟨sk aa,z⟩)
    rw[this] at q;obtain(⟨a,d,aa,af,aJ⟩):=hf n own o q;exact⟨a,d,a4 aZ.eb.ad aa,af.mono aZ.eb (λI e=>e) (λI e=>e),aJ⟩
  .show(β.ad++ax.ad.drop pre.length).length=st.no+(e.os.length-pre.length);exact G iG (G uw (G bY (G E.len rfl)))
  .refine⟨H.facts.aC.append E.facts.aC,H.facts.aj,H.facts.cd,?_,λl aX=>?_⟩
   .show(β.ck++ax.ck).length=st.ns+e.ns;exact G iG (G H.facts.de (G E.facts.de rfl))
   .rcases mb.mp aX with aX|aX
    .exact H.facts.ck l aX
    .exact E.facts.ck l aX
theorem Xi(U:c.Ok g dep)(H:Sat g c st β s){gr:O}{a:aF}{o:cY}(aN:n<10000000)(h0:st.σ.get n=C (ai,gr))(aU:β.ad[n]? =C (a,a))(eB:c.P a=C o)(hd:o.IsDictOf (strKind g.prog g.w) ay)
  (ns:a≠ku)(aa:kZ β ay ar)(af:ar.Pairwise (λe f=>e.1.val β≠f.1.val β))(aB:∀old,g.base a=C old->old=ay)(hlen:ay.length<=ar.length+g.S):
  Sat g c {st with σ:=st.σ.put cU n (ai,.dict ar (C []))} β s:=by
 refine bG H.objs λf hf=>⟨⟨H.keep,H.cw,⟨f,λm own y q=>?_⟩,H.len,H.facts,H.ghost⟩,H.os,H.loc⟩;replace q:(st.σ.put cU n (ai,.dict ar (C []))).get m=C (own,y):=q;rw[d0.k8 cU st.σ n _ m (ij aN (aR rfl))] at q;by_cases hm:m=n
 ·(clear h0 aN;subst hm);rw[if_pos rfl] at q;(obtain J:=aT q;clear q;refine a3 (eD J) λbT cu=>?_;clear J;subst bT;subst cu);refine⟨a,a,aU,⟨rfl,ns,o,ay,eB,hd,aa,af,⟨λe he=>(nomatch he),λold bw=>by exact G (aB old bw) ⟨iH _,λk=>.inr rfl⟩⟩,hlen⟩,λz=>by exact c7 z⟩
 .rw[if_neg hm] at q;exact hf m own y q
theorem PX(H:Sat g c st β s){l:bz}(hm:ch∈l)(aN:ch∉β.aj):Sat g c {st with aE:=st.aE++ [l]} {β with aj:=β.aj++ [ch]} s/\β.le {β with aj:=β.aj++ [ch]}:=by
 have le:β.le {β with aj:=β.aj++ [ch]}:=⟨iH _,iH _,lI _ _,iH _⟩;refine bG H.objs λf hf=>⟨⟨⟨H.keep,H.cw,⟨f,λn own o q=>?_⟩,H.len,⟨H.facts.aC,H.facts.aj.append (.cons hm .nil),?_,H.facts.de,H.facts.ck⟩,H.ghost.trans le⟩,H.os,H.loc.le le⟩,le⟩
 .obtain(⟨a,d,aa,af,aJ⟩):=hf n own o q;exact⟨a,d,aa,af.mono le (λI e=>e) (λI e=>e),aJ⟩
 .exact gM List.nodup_append (fi H.facts.cd (by simp) (λx ak y bS e=>aN (by rw[eu.mp bS] at e;exact G (bV e) ak)))
end
theorem Dm:∀{l m:List aV},(∀(i:Nat) x,l[i]? =C x->m[i]? =C x)->l<+:m:=by
 intro l;induction l with
 |nil=>exact λI=>List.nil_prefix
 |cons a l bF=>
  intro m h;induction m using es with
  |nil=>exact nomatch h 0 a rfl
  |cons b m=>cases c0 (h 0 a rfl);exact List.cons_prefix_cons.mpr ⟨rfl,bF λi x q=>h (i+1) x q⟩
theorem Dl{f:Nat->aV->Bool}:∀{k i:Nat}{l:List aV},wu f k i l=ae->∀j,j<k->∃x,l[j]? =C x/\f (i+j) x=true:=by
 intro k;induction k with
 |zero=>exact λI I h=>absurd h (w7 _)
 |succ k bF=>
  intro i l h j cD;induction l using es with
  |nil=>exact c7 h
  |cons x r=>
   cases j with
   |zero=>exact(bh x rfl (bR h))
   |succ j=>exact aS (bF (bB h) j (Tn cD)) λy aa af=>(bh y aa (by(refine G ((ko j) _) (G (bV (kW _ _ _)) ?_));exact af))
theorem H4{i:Nat}{l:List Nat}(h:Cf i l k=ae)(j:Nat)(cD:j<k):l[j]? =C (i+j):=by refine aS (Dl h j cD) λx aa af=>?_;exact G aa (G (d2 af) rfl)
theorem aav{i:Nat}{l:List bo}(h:Pa i l k=ae)(j:Nat)(cD:j<k):l[j]? =C (.aL 0 ai (i+j)):=by exact aS (Dl h j cD) λx aa af=>cN af λq e h=>by(refine G aa (G (xI e) (G (d2 (bR h)) (G (d2 (bB h)) ?_))));rfl
theorem aau{i:Nat}{l:List ag}(h:O_ i l k=ae)(j:Nat)(cD:j<k):l[j]? =C [.chr (i+j)]:=by
 exact aS (Dl h j cD) λx aa af=>cN af λq e h=>by
  (refine G aa (G (lu e) ?_));clear e;induction q using MI.c1.casesOn with
  |chr v=>exact G (d2 h) rfl
  |_=>exact c7 h
theorem aaw{i:Nat}{l:List ag}(h:Pb i l k=ae)(j:Nat)(cD:j<k):l[j]? =C [.any (i+j)]:=by
 exact aS (Dl h j cD) λx aa af=>cN af λq e h=>by
  (refine G aa (G (lu e) ?_));clear e;induction q using MI.c1.casesOn with
  |any v=>exact G (d2 h) rfl
  |_=>exact c7 h
structure Fits(p:b4)(β:aZ):Prop where
 ad:β.ad.length=p.os.length
 aC:β.aC.length=p.au.length
 aj:β.aj.length=p.aE.length
 ck:β.ck.length=p.ns
theorem Pc(h:H3 ah p=ae)(T:e7 ah (pull ah av) av)(l:β.le av)(F:Fits p β):β.le (pull ah av):=by
 unfold H3 at h;simp only[ew] at h;(refine a3 h λJ bl=>?_;try clear h;refine a3 J λbT aJ=>?_;try clear J;refine a3 bT λaa af=>?_;try clear bT);refine⟨Dm λi x q=>?_,Dm λi x q=>?_,Dm λi x q=>?_,Dm λi x q=>?_⟩
 .obtain this:=H4 aa i (F.ad▸(j0.mp q).1);show(ah.ad.map _)[i]? =_;(refine G oD ?_;refine G this ?_;(refine G (uE _) (G (nR _ _) ?_));refine G (a4 l.ad q) ?_);rfl
 .obtain this:=aav af i (F.aC▸(j0.mp q).1);show(ah.aC.map _)[i]? =_;(refine G oD ?_;refine G this ?_;(refine G (uE _) (G (nR _ _) ?_));refine G (rt (a4 l.aC q)) ?_);exact congrArg C (Ea x)
 .obtain this:=aau aJ i (F.aj▸(j0.mp q).1);show(ah.aj.map _)[i]? =_;(refine G oD ?_;refine G this ?_;(refine G (uE _) (G (nR _ _) ?_));refine G (Bh (a4 l.aj q)) ?_);rfl
 .obtain this:=aaw bl i (F.ck▸(j0.mp q).1);show(ah.ck.map _)[i]? =_;(refine G oD ?_;refine G this ?_;(refine G (uE _) (G (nR _ _) ?_));refine G (Fj (a4 l.ck q)) ?_);rfl
section
variable{c:bc}{st:St}{mc:aZ}{s:aM}{r:V}{ex:Bool}{f:Nat}
theorem pQ.hide{e:aF}(gF:pQ c h e P):∃xs:List aF,(∀b∈xs,c.P b=none)/\(∀b∈xs,∃o,h.get? b=C o/\¬ip o)/\∀bI:bc,(∀b∈xs,bI.P b=none)->pQ bI h e P:=by
 refine ih gF.told λcf us a1 a2 cj c9 dQ fe=>?_;have c5:¬ip cf:=λn=>by obtain(⟨_,t,ff⟩):=n us cj;rw[a2] at ff;injection ff
 rcases fe with⟨eV,dX⟩|⟨T,e2,cm,eK,cA,el,gE,jr,oK,jL⟩
 .refine(fT [e] (λb aB=>?_) (λb aB=>?_) (λbI bb=>⟨cf,us,a1,a2,cj,bb e (.head _),dQ,.inl ⟨eV,dX⟩⟩))
  .exact G (eu.mp aB) c9
  .exact G (eu.mp aB) (bh cf a1 c5)
 .refine(fT [e,T] (λb aB=>?_) (λb aB=>?_) (λbI bb=>⟨cf,us,a1,a2,cj,bb e (.head _),dQ,.inr (sf T e2 cm eK cA el (bb T (.tail _ (.head _))) jr oK jL)⟩))
  .rcases dg.mp aB with rfl|aB
   .exact c9
   .exact G (eu.mp aB) gE
  .rcases dg.mp aB with rfl|aB
   .exact(bh cf a1 c5)
   .exact G (eu.mp aB) (bh e2 jr (zq oK jL))
noncomputable def LD(g:cy)(c:bc)(mc:aZ)(bX:Nat)(q:b4)(r:V)(ex:Bool)(Q:az->aM->Prop)(E:az->aM->Prop):Prop:=match ex with
 |false=>∀y b0 cT c₂ aY,mc.le aY->Sat cT c₂ q.st aY b0->xo g c cT c₂ bX->a7 aY r y->Q y b0
 |true=>∀e b0 cT c₂ aY,mc.le aY->Sat cT c₂ q.st aY b0->xo g c cT c₂ bX->pQ c₂ b0.heap e False->E (.ref e) b0
theorem aeh(O:g.Ok)(kE:g.Lay)(hN:g.nZ)(f9:fu g H)(U:c.Ok g dep)(T3:Sat g c st β s)(e:g_ (gp (ep g.K H n) g.K dep (.c (.ref f)) aK st) ah bX p q r ex=ae)(l:mc.le β)(F:Fits p mc)(br:g.S+bX<=100000)(R:bK (a7 β) aK aH)
  {Q:az->aM->Prop}(aq:LD g c mc bX q r ex Q E):jG g c (.ref f) aH Q E s:=by
 have aj:=ML (f:=f) O (o2 O kE hN f9 n) U R β st s (.refl _) T3;unfold At at aj;unfold g_ at e;have b6:=bR e;replace e:=bB e;induction ex using bZ with
 |false=>refine cN e λw a9 bf=>?_;rw[t7 a9] at aj;exact aj Q E λy b0 av a_ e8 hR=>mC (r9 O U e8 (bR bf) br) λh₀ base N=>aq y b0 _ _ _ (Pc b6 N.pull (l.trans a_) F) N.sat ⟨rfl,rfl,rfl,rfl,N.up,rfl,rfl⟩ (ta N.pull e8.facts (bB bf) hR)
 |true=>
  refine cN e λbk a9 e=>?_;rw[Yb a9] at aj;refine aj Q E λy b0 av a_ sX=>?_;(refine eH sX λx J gF e8=>?_;try clear sX;subst J);refine eH gF.hide λxs dv dU hz=>cz (R0 xs dv (λn o a d aa af=>⟨λm=>by
   exact aS (dU a m) λdn bY c5=>(e8.toSatO.t8 bY c5 n o a d aa af).1 rfl,λm=>by exact aS (dU d m) λdn bY c5=>(e8.toSatO.t8 bY c5 n o a d aa af).2 rfl⟩) O U e8 e br) λh₀ base N ak=>?_
  exact aq x b0 _ _ _ (Pc b6 N.pull (l.trans a_) F) N.sat ⟨rfl,rfl,rfl,rfl,N.up,rfl,rfl⟩ (hz _ ak)
end
noncomputable def Rj:O->Bool
 |.inst _ _=>ae
 |.list _=>ae
 |.tup _=>ae
 |.dict _ none=>ae
 |.gone=>ae
 |_=>ai
theorem cL.re{a6:aF->Option cY}{a:aF}(h:Rj o=ae)(b6:bq.prog=g.prog)(hw:bq.w=g.w)(up:∀b x,a6 b=C x->fx b=C x)(R:cL g a6 β a d o):cL bq fx β a d o:=by
 induction o using MI.O.casesOn with
 |inst U dG=>obtain(⟨aa,ar,n,af,aJ,bl⟩):=R;exact⟨aa,ar,n,up _ _ af,up _ _ aJ,bl⟩
 |list xs=>obtain(⟨aa,aH,n,af,aJ⟩):=R;exact⟨aa,aH,n,up _ _ af,aJ⟩
 |tup xs=>obtain(⟨aa,aH,n,af,aJ⟩):=R;exact⟨aa,aH,n,up _ _ af,aJ⟩
 |dict ar op=>
  induction op using b3 with
  |none=>obtain(⟨aa,af,o,ay,aJ,bl,cP,eT,h7,h8⟩):=R;exact⟨aa,af,o,ay,up _ _ aJ,by(refine G b6 (G hw ?_));exact bl,cP,eT,h7,h8⟩
  |some _=>exact c7 h
 |gone=>trivial
 |_=>exact c7 h
noncomputable def Dk(p:b4):Bool:=p.os.all λx=>Rj x.2
theorem Facts.more{au:List b5}(F:Facts S au aE ns β)(h:S<=eE):Facts eE au aE ns β:=
 ⟨F.aC.imp λb z r=>(fi r.1 r.2.1 (λj cD=>by obtain this:=r.2.2 j cD;exact gk this (jn.mpr (j1 h _)))),F.aj,F.cd,F.de,F.ck⟩
theorem df.re{e:b4}(E:df g e β)(aab:Dk e=ae)(b6:bq.prog=g.prog)(hw:bq.w=g.w)(up:∀b x,g.h₀.get? b=C x->bq.h₀.get? b=C x)(br:g.S<=bq.S):df bq e β:=
 ⟨λi own o q=>(cz (E.objs i own o q) λa d aa af=>(gi a d aa (af.re (eX.mp aab _ (l7 q)) b6 hw up))),E.len,E.facts.more br⟩
noncomputable def gm(after:Nat->Nat):Nat->Nat->Prop
 |0,_=>False
 |1,w=>4<=after w
 |m+2,w=>after w<4/\gm after (m+1) (after w)
noncomputable def xk(after:Nat->Nat):Nat->Nat->Prop
 |0,_=>True
 |k+1,w=>after w<4/\xk after k (after w)
variable{after:Nat->Nat}
theorem gm.ne:∀{m w:Nat},gm after m w->w<4->after w≠w
 |0,_,h,_=>h.elim
 |1,w,h,hw=>λe=>by obtain this:4<=after w:=h;lia
 |m+2,w,h,hw=>λe=>by obtain af:=h.2;rw[e] at af;exact gm.ne af hw e
structure pS(g:cy)(after:Nat->Nat)(root:aF×aF)(cK:aF)(ay:List (aO×az)):Prop where
 dict:∃o,g.h₀.get? cK=C o/\o.IsDictOf (strKind g.prog g.w) ay
 ne:cK≠ku
 eS:ay.length<=20
 base:∀old,g.base cK=C old->old=ay
 all:∀w,w<4->∃L ax,a0 ay (aQ [103,97+w])=C (.ref L)/\ax.ad[0]? =C root/\ax.ad[1]? =C (L,L)/\(4<=after w->df g GE ax/\ax.aj=[97+w])/\
  (after w=w->df g (mV 0 [dD]) ax/\ax.aj=[97+w])/\(after w<4->after w≠w->df g (mV 1 [dD,dD]) ax/\ax.aj=[97+w,97+after w])
variable{root:aF×aF}{cK:aF}
theorem pS.re(a6:pS g after root cK ay)(b6:bq.prog=g.prog)(hw:bq.w=g.w)(up:∀b x,g.h₀.get? b=C x->bq.h₀.get? b=C x)(br:g.S<=bq.S)(aB:∀old,bq.base cK=C old->old=ay):pS bq after root cK ay:=by refine aS a6.dict λo aa af=>⟨(bh o (up _ _ aa) (by(refine G b6 (G hw ?_));exact af)),a6.ne,a6.eS,aB,λw ob=>?_⟩;exact ih (a6.all w ob) λL ax a1 a2 cj c9 dQ fe=>(uk L ax a1 a2 cj (λq=>⟨(c9 q).1.re (by kernel_rfl) b6 hw up br,(c9 q).2⟩) (λq=>⟨(dQ q).1.re (by kernel_rfl) b6 hw up br,(dQ q).2⟩) (λq en=>⟨(fe q en).1.re (by kernel_rfl) b6 hw up br,(fe q en).2⟩))
structure Good(g:cy):Prop where
 ok:g.Ok
 lay:g.Lay
 raise:g.nZ
variable{dP:aZ}
theorem Good.re(a6:Good g){h₀:gj}(h:(g.re h₀ bX dP base).Ok):Good (g.re h₀ bX dP base):=⟨h,a6.lay,a6.raise⟩
noncomputable def cy.pin(g:cy)(β:aZ):cy:={g with dP:=β}
theorem Good.pin(a6:Good g):Good (g.pin β):=⟨⟨a6.ok.fl,a6.ok.top,a6.ok.S,a6.ok.low⟩,a6.lay,a6.raise⟩
section
variable{c:bc}{st:St}{s:aM}
theorem bc.Ok.pin(U:c.Ok g dep):c.Ok (g.pin β) dep:=⟨U.base,U.frames,U.here,U.hd,U.iX,U.depth,U.units,U.calm,U.dep⟩
theorem cL.pin{a6:aF->Option cY}{a:aF}(h:cL g a6 β a d o):cL (g.pin dP) a6 β a d o:=by
 induction o using MI.O.casesOn with
 |_=>exact h
theorem Sat.pin(H:Sat g c st β s):Sat (g.pin β) c st β s:=by exact bG H.objs λf hf=>⟨⟨H.keep,H.cw,⟨f,λn own o q=>(by obtain(⟨a,d,aa,af,aJ⟩):=hf n own o q;exact⟨a,d,aa,af.pin,aJ⟩)⟩,H.len,H.facts,.refl _⟩,H.os,H.loc⟩
noncomputable def VB(st:St):St:={st with aE:=st.aE++ [dD]}
noncomputable def r3(e6:Bool)(st:St):St:=match e6 with
 |true=>VB st
 |false=>st
noncomputable def gS(e6:Bool)(st:St)(cK:Nat)(aj:List ag)(e:b4):St:=SO (r3 e6 st) cK aj e
end
noncomputable def qJ(e6:Bool)(st:St)(cK:Nat)(aj:List ag)(e:b4):Bool:=(hu (r3 e6 st) [1] aj e).any λbk=>Hd (bk.σ.get cK)
variable{e6:Bool}
theorem afQ{st:St}{cK:Nat}{aj:List ag}{e:b4}(h:qJ e6 st cK aj e=ae):∃bk,hu (r3 e6 st) [1] aj e=C bk/\bk.σ.get cK=C (ai,.gone)/\gS e6 st cK aj e={bk with σ:=bk.σ.put cU cK (ai,.dict [(hq 0,aI (r3 e6 st).no)] (C []))}:=by refine cN h λbk cD gx=>(fT bk cD (OB gx) ?_);unfold gS SO;exact G cD rfl
variable{f3:Nat}
section
variable{c:bc}{st:St}{s:aM}
theorem afR{Ce:Nat}{aj:List ag}{e:b4}{w:Nat}{L:aF}(U:c.Ok g dep)(H:Sat g c st β s)(a6:pS g after root cK ay)(h8:Ce<10000000)(bL:qJ e6 st Ce aj e=ae)(cA:β.ad[1]? =C root)(fX:β.ad[Ce]? =C (cK,cK))(b_:∃r,β.aj=(97+w)::r)(BZ:e6=ae->β.aj=[97+w]/\f3≠w/\f3<4)(hw:w<4)
  (E:df g e ax)(gw:a0 ay (aQ [103,97+w])=C (.ref L))(ey:ax.ad[0]? =C root)(a9:ax.ad[1]? =C (L,L))(he:ax.aj=(match e6 with|true=>[97+w,97+f3]|false=>[97+w]))(bb:aj=(match e6 with|true=>[[.chr 0],[.chr 1]]|false=>[[.chr 0]]))(br:20<=g.S):
  ∃aW,β.le aW/\Sat g c (gS e6 st Ce aj e) aW s/\(e6=ae->aW.aj=[97+w,97+f3]):=by
 refine eH (afQ bL) λbk cD gx yG=>?_;(refine bG b_ λpg OZ=>?_;try clear b_);obtain first:∃dP,β.le dP/\Sat g c (r3 e6 st) dP s/\(e6=ae->dP.aj=[97+w,97+f3])/\(∃r,dP.aj=(97+w)::r)/\dP.ad=β.ad:=by
  clear yG cD bb bL;induction e6 using bZ with
  |false=>exact(DL β (.refl _) H (λh=>by exact c7 h) ⟨pg,OZ⟩ rfl)
  |true=>
   refine fO (BZ rfl) λaa af aJ=>?_;obtain hm:97+f3∈dD:=by rcases f3 with _|_|_|_|n<;>first|decide|lia
   refine a3 (PX (l:=dD) (ch:=97+f3) H hm (by refine G aa ?_;simp;assumption)) λdk eG=>?_;exact(DL _ eG dk (λI=>by show β.aj++ [97+f3]=_;exact G aa rfl) ⟨pg++ [97+f3],by show β.aj++ [97+f3]=_;refine G OZ ?_;rfl⟩ rfl)
 (refine C6 first λdP CB sS h5 J iL=>?_;try clear first;refine bG J λda O0=>?_;try clear J);have bD:dP.aj[0]? =C (97+w):=by exact G O0 rfl
 have F6:∀{b:aZ},b.aj[0]? =C (97+w)->ag.val b [.chr 0]=C [97+w]:=λh=>by show(match(c1.chr 0).val _,C [] with|some a,some b=>C (a++b)|_,_=>none)=_;simp only[c1.val,h,nR,ma]
 obtain Zu:∀k ch,ax.aj[k]? =C ch->∃x,cG aj k=C x/\ag.val dP x=C [ch]:=λk ch q=>by
  rw[he] at q;clear sS yG cD he BZ bL;induction e6 using bZ with
  |false=>
   refine G bb ?_
   match k with
   |0=>(obtain J:=aT q;clear q;subst J);exact(bh _ rfl (F6 bD))
   |k+1=>simp at q
  |true=>
   refine G bb ?_
   match k with
   |0=>(obtain J:=aT q;clear q;subst J);exact(bh _ rfl (F6 bD))
   |1=>(obtain J:=aT q;clear q;subst J);refine(bh _ rfl ?_);show(match(c1.chr 1).val _,C [] with|some a,some b=>C (a++b)|_,_=>none)=_;simp only[c1.val,h5 rfl,List.getElem?_cons_succ,List.getElem?_cons_zero,nR,ma]
   |k+2=>simp at q
 obtain hlen:aj.length=e.aE.length:=by obtain this:=E.facts.aj.length;(refine G this (G he (G bb ?_)));cases e6<;>rfl
 obtain dk:=Py (pre:=[1]) U sS E Zu hlen (λi n q=>by
  match i with
  |0=>(obtain J:=aT q;clear q;subst J);exact(bh root ey (G iL cA))
  |i+1=>simp at q) cD
 obtain ah4:(r3 e6 st).no=st.no:=by cases e6<;>rfl
 have y5:dP.ad.length=(r3 e6 st).no:=sS.len;obtain cw:(dP.app 1 ax).ad[(r3 e6 st).no]? =C (L,L):=by show(dP.ad++ax.ad.drop 1)[_]? =_;(refine G (pH (eP (by assumption))) ?_;refine G y5 (G (uD _) (G Ag ?_)));exact a9
 refine aS a6.dict λo eZ hp=>(fT (dP.app 1 ax) (CB.trans aZ.eb) ?_ (λh=>h5 h));refine G yG (Xi (a:=cK) U dk h8 gx (a4 aZ.eb.ad (G iL fX)) (U.base _ _ eZ) hp a6.ne (λx ak=>?_) (by simp) (λold h=>a6.base old h) (by obtain this:=a6.eS;simp;lia));obtain rfl:=eu.mp ak;refine⟨[103,97+w],.ref L,?_,gw,L,L,cw,rfl⟩;show ag.val _ [.lit [103],.chr 0]=_;obtain this:=F6 (b:=dP.app 1 ax) (show dP.aj[0]? =_ from bD);exact ag.eN.mpr (d1 [103] [97+w] rfl this rfl)
end
theorem Fits.of{c:bc}(H:SatO g c p.st β h):Fits p β:=⟨H.len,H.facts.aC.length.symm,H.facts.aj.length.symm,H.facts.de⟩
theorem m3.of{s:aM}(h:m3 bq s)(e:bq.dT=g.dT):m3 g s:=by unfold m3 at h ⊢;rw[e] at h;exact h
structure Spot(K:b7)(g:cy)(c:bc)(β:aZ)(s:aM)(after:Nat->Nat)(root:aF×aF)(cK:aF)(ay:List (aO×az))(w:Nat)(p:b4):Prop where
 good:Good g
 k:g.K=K
 sat:Sat g c p.st β s
 gen:pS g after root cK ay
 cA:β.ad[1]? =C root
 fX:β.ad[8]? =C (cK,cK)
 aj:β.aj=[97+w]
 jX:w<4
 S:20<=g.S
noncomputable def mf(K:b7)(h:nV)(T:(Nat->Nat)->Nat->aZ->Prop)(B:Nat):Prop:=∀g c β s dep after root cK ay w,Spot K g c β s after root cK ay w h.p->c.Ok g dep->dep<=h.D->g.S+B<=10000->T after w β->md h g c β s
variable{B:Nat}
section
variable{h:nV}{T:(Nat->Nat)->Nat->aZ->Prop}{c:bc}{s:aM}{w:Nat}
theorem dz{i:Nat}{x:aF×aF}(h:cG ah.ad i=C n)(e:β.ad[n]? =C x):(pull ah β).ad[i]? =C x:=by rw[fY] at h;show(ah.ad.map _)[i]? =_;(refine G oD ?_;refine G h (G (nR _ _) (G e ?_)));rfl
theorem zi(N:mf K h T B)(a6:Good g)(aw:g.K=K)(gen:pS g after root cK ay){lW HZ:Nat}(cA:g.dP.ad[lW]? =C root)(fX:g.dP.ad[HZ]? =C (cK,cK))(V4:g.dP.aj[j]? =C (97+f3))(t1:cG h.ah.ad 1=C lW)(zW:cG h.ah.ad 8=C HZ)(zY:h.ah.aj=[[.chr j]])
  (e0:∀β,g.dP.le β->T after f3 (pull h.ah β))(hw:f3<4)(br:20<=g.S)(g4:g.S+h.bX+B<=10000):fu g (fp h):=by
 refine Z9 a6.ok (bU (gs _ _) (bU g4 (bA rfl))) λc dep β s h₀ base Ok U hg H eB l ahr up aB=>N _ c _ s dep after root cK ay f3 ⟨a6.re Ok,aw,H,?_,?_,?_,?_,hw,by show 20<=g.S+h.bX;exact bU (by assumption) (gs _ _)⟩ U hg g4 (e0 β l)
 .refine aS gen.dict λo eZ hp=>gen.re rfl rfl up (by show g.S<=g.S+h.bX;exact gs _ _) λold bw=>?_;obtain this:=aB cK o ay (H.keep _ _ (G eB (up _ _ eZ))) hp;obtain bw:base cK=C old:=bw;rw[this] at bw;(obtain J:=aT bw;clear bw;subst J);rfl
 .exact dz t1 (a4 l.ad cA)
 .exact dz zW (a4 l.ad fX)
 .show h.ah.aj.map _=_;refine G zY ?_;(refine G j2 (G List.map_nil (G (Bh (a4 l.aj V4)) ?_)));rfl
theorem yf(a6:pS g after root cK ay)(β:aZ):pS (g.pin β) after root cK ay:=a6.re rfl rfl (λI I e=>e) (dO _) a6.base
theorem tX{h:nV}{D:Nat}{aj:List ag}{e:b4}{L:aF}(S:Spot K g c β s after root cK ay w h.p)(U:c.Ok g dep)(hg:dep<=D)(BJ:D<400)(hf:h.f=683)(aad:h.bt=[aI 0,aI 40])
  (BZ:e6=ae->f3≠w/\f3<4)(bL:qJ e6 h.p.st 8 aj e=ae)(E:df g e ax)(gw:a0 ay (aQ [103,97+w])=C (.ref L))(ey:ax.ad[0]? =C root)(a9:ax.ad[1]? =C (L,L))(he:ax.aj=(match e6 with|true=>[97+w,97+f3]|false=>[97+w]))(bb:aj=(match e6 with|true=>[[.chr 0],[.chr 1]]|false=>[[.chr 0]]))
  (f9:∀aW,β.le aW->(e6=ae->aW.aj[1]? =C (97+f3))->fu (g.pin aW) H)(br:g.S+h.q5<=100000)
  (run:g_ (gp (ep K H n) K D (.c (.ref 683)) [aI 0,aI 40] (gS e6 h.p.st 8 aj e)) ah h.q5 h.p h.q h.r h.ex=ae):md h g c β s:=by
 intro aH R Q uS post;refine eH (afR U S.sat S.gen (aR rfl) bL S.cA S.fX ⟨[],S.aj⟩ (λq=>⟨S.aj,BZ q⟩) S.jX E gw ey a9 he bb S.S) λaW l pT k=>?_;obtain AF:=(U.raise hg BJ).pin (β:=aW);have EL:=S.good.pin (β:=aW);rw[aad] at R;refine G hf ?_;obtain aw:=S.k;obtain F:=Fits.of S.sat.toSatO;(clear S;subst aw);refine aeh (g:=g.pin aW) (H:=H) EL.ok EL.lay EL.raise (f9 aW l λq=>by exact G (k q) rfl) AF pT.pin run l F br (R.imp λ_ _ x=>x.le l) ?_;unfold LD;split
 .rename_i ak;rw[ak] at post;exact λy b0 cT c₂ aY a1 a2 cj c9=>post y b0 cT c₂ aY a1 a2.toSatO (m3.of a2.os cj.dT) ⟨cj.S,cj.prog,cj.w,cj.dT,cj.up,cj.L,cj.cw⟩ c9
 .rename_i ak;rw[ak] at post;exact λy b0 cT c₂ aY a1 a2 cj c9=>post y b0 cT c₂ aY a1 a2.toSatO (m3.of a2.os cj.dT) ⟨cj.S,cj.prog,cj.w,cj.dT,cj.up,cj.L,cj.cw⟩ c9
end
theorem ic:fu g λI I I I=>none:=λI I I I I I I I I I I I I=>trivial
section
variable{c:bc}{st:St}{s:aM}
theorem SatO.bounds(H:SatO g c st β h){au:List b5}(F:Facts g.S au st.aE st.ns β):SatO g c {st with au:=au} β h:=⟨H.keep,H.cw,H.objs,H.len,F,H.ghost⟩
theorem Sat.bounds(H:Sat g c st β s){au:List b5}(F:Facts g.S au st.aE st.ns β):Sat g c {st with au:=au} β s:=⟨H.toSatO.bounds F,H.os,H.loc⟩
noncomputable def hb(S:Nat)(b:b5)(z:Int):Prop:=b.1<=z/\z<=b.2.1/\∀j,b.2.2=C j->z<=((S+j:Nat):Int)
noncomputable def x7(ml:Nat)(b dE:b5):Bool:=decide (dE.1<=b.1)&&(match dE.2.2 with|none=>ae|some Cw=>(match b.2.2 with|some j=>dw j Cw|none=>ai))&&(decide (b.2.1<=dE.2.1)||(match b.2.2 with|some j=>decide (((ml+j:Nat):Int)<=dE.2.1)|none=>ai))
noncomputable def lT(ml:Nat):List b5->List b5->Bool:=pZ (x7 ml)
theorem Xz{ml:Nat}{b dE:b5}(h:x7 ml b dE=ae)(br:S<=ml)(r:hb S b z):hb S dE z:=by
 obtain(⟨lo,bN,j⟩):=b;obtain(⟨ah3,ia,Cw⟩):=dE;(refine fO r λda dA hx=>?_;try clear r);simp only[x7,ew,K4,decide_eq_true_eq] at h;(refine a3 h λJ aJ=>?_;try clear h;refine a3 J λaa af=>?_;try clear J);refine⟨gk aa da,?_,λk aw=>?_⟩
 .rcases aJ with aJ|aJ
  .exact gk dA aJ
  .clear af dA da;induction j using b3 with
   |none=>exact c7 aJ
   |some j=>obtain this:=hx j rfl;simp only[decide_eq_true_eq] at aJ;show z<=ia;exact gk this (gk (jn.mpr (j1 br _)) aJ)
 .obtain aw:Cw=C k:=aw;subst aw;clear aJ dA da;induction j using b3 with
  |none=>exact c7 af
  |some j=>obtain this:=hx j rfl;have:=bA af;exact gk (by assumption) (jn.mpr (l_ this _))
theorem Bs{ml:Nat}(br:S<=ml){l a_:List b5}(h:lT ml l a_=ae)(r:bK (hb S) l zs):bK (hb S) a_ zs:=
 (bK.swap (hV:=λb a=>x7 ml a b=ae) (λI I h=>h) (p0 (f:=x7 ml) h)).comp r λI I I h r=>Xz h br r
end
variable{dI:b4}
section
variable{c:bc}{s:aM}
theorem md.GF{h:nV}{D:Nat}(H:md ⟨h.f,D,ah,p,h.bt,q,h.r,bX,h.q5,h.ex⟩ g c β s)(e:({q.st with au:=h.q.au}:St)=h.q.st)(aB:lT 200000 q.au h.q.au=ae)(br:g.S+h.q5<=200000):md h g c β s:=by
 have up:∀{cT:cy}{c₂:bc}{aY:aZ}{b6:gj},SatO cT c₂ q.st aY b6->cT.S=g.S+h.q5->SatO cT c₂ h.q.st aY b6:=λ{cT c₂ aY b6} e8 tj=>by exact G (bV e) (e8.bounds ⟨Bs (tj▸br) aB e8.facts.aC,e8.facts.aj,e8.facts.cd,e8.facts.de,e8.facts.ck⟩)
 intro aH R Q E post;refine H aH R Q E ?_;dsimp only;split
 .rename_i ak;rw[ak] at post;exact λy b0 cT c₂ aY a1 a2 bw cj c9=>post y b0 cT c₂ aY a1 (up a2 cj.S) bw cj c9
 .rename_i ak;rw[ak] at post;exact λy b0 cT c₂ aY a1 a2 bw cj c9=>post y b0 cT c₂ aY a1 (up a2 cj.S) bw cj c9
theorem Spot.bounds{w:Nat}(S:Spot K g c β s after root cK ay w p)(e:({p.st with au:=dI.au}:St)=dI.st)(F:bK (hb g.S) dI.au β.aC):Spot K g c β s after root cK ay w dI:=
 ⟨S.good,S.k,e▸S.sat.bounds ⟨F,S.sat.facts.aj,S.sat.facts.cd,S.sat.facts.de,S.sat.facts.ck⟩,S.gen,S.cA,S.fX,S.aj,S.jX,S.S⟩
theorem LS{u:b5}{v:Nat}(h:bK (hb S) (cR u v).au zs):∃z,zs[2]? =C z/\hb S u z/\∀mI,hb S mI z->bK (hb S) (cR mI v).au zs:=by
 unfold cR at h ⊢;cases h with
 |cons a h=>cases h with
  |cons b h=>cases h with
   |cons r rest=>exact(fT _ rfl r (λI g9=>.cons a (.cons b (.cons g9 rest))))
end
variable{old:List (aO×az)}{abs:List ag}
section
variable{c:bc}{st:St}{s:aM}{AD:cV}{e:b4}{h₀:gj}
theorem Jk(N:Seen g c st β s dep ah bX p h₀ base)(H:Sat g c st β s)(h:wq AD bX st (h_ p.os ah.ad) e=ae):df (g.re h₀ bX (pull ah β) base) e (pull AD β)/\e7 AD (pull AD β) β:=by obtain wy:=bB h;have eT:=bR h;have cP:=bR eT;have bl:=bR cP;have aJ:=bR bl;have af:=bR aJ;have cE:=bB af;refine fO (zz cE) λt2 qz I=>?_;have aX:∀n∈AD.ad,n<β.ad.length:=λn aN=>H.len.symm▸qz n aN;refine a3 (Jn H.facts aX (bB aJ) (bB bl) (bB cP) (bB eT) wy) λT W=>⟨⟨λi own o q=>?_,(gB _).trans t2.symm,W⟩,T⟩;have hf:=eX.mp (bR af) _ (l7 q);obtain e:own=false:=jl _▸hf;(clear hf;subst e);exact G0 (bq:=g.re h₀ bX (pull ah β) base) T H.facts aX cE rfl rfl rfl rfl (λa o ay a9 bf old cB=>(c0 (cB.symm.trans (N.base a o ay (N.down a o a9) bf))).symm) N.rest q
theorem JH(H:Sat g c st β s){a:aF}(aN:n<10000000)(h0:st.σ.get n=C (ae,.dict [] (C [])))(aU:β.ad[n]? =C (a,a))(aB:g.base a=C old)
  (aa:kZ β old ar)(af:ar.Pairwise (λe f=>e.1.val β≠f.1.val β))(aJ:∀x:ag,x∈abs->∃l,x.val β=C l/\a0 old (aQ l)=none):
  Sat g c {st with σ:=st.σ.put cU n (ae,.dict ar (C abs))} β s:=by
 refine bG H.objs λf hf=>⟨⟨H.keep,H.cw,⟨f,λm own y q=>?_⟩,H.len,H.facts,H.ghost⟩,H.os,H.loc⟩;replace q:(st.σ.put cU n (ae,.dict ar (C abs))).get m=C (own,y):=q;rw[d0.k8 cU st.σ n _ m (ij aN (aR rfl))] at q;by_cases hm:m=n
 ·(clear aN;subst hm);rw[if_pos rfl] at q;(obtain J:=aT q;clear q;refine a3 (eD J) λbT cu=>?_;clear J;subst bT;subst cu);obtain(⟨dp,ec,bY,c5,fF⟩):=hf m ae _ h0;rw[aU] at bY;(obtain J:=aT bY;clear bY;refine a3 (eD J) λbT cu=>?_;clear J;subst bT;subst cu);obtain(⟨cH,cX,fw,gT,_⟩):=fF rfl;obtain(⟨_,dA,o,ay,hx,Dp,_,_,Jt,Dq⟩):=(show cL g s.heap.get? β a a (.dict [] (C [])) from c5);have same:∀k,a0 ay k=a0 old k:=λk=>by
   rcases(Jt.2 old aB).2 k with⟨x,ak,_⟩|h
   .cases ak
   .exact h
  refine⟨a,a,aU,(⟨rfl,dA,o,ay,hx,Dp,λe he=>?_,af,⟨λx ak=>?_,λac2 bw=>⟨(Jt.2 ac2 bw).1,λk=>.inr ?_⟩⟩,?_⟩:cL g s.heap.get? β a a (.dict ar (C abs))),λI=>⟨cH,cX,fw,gT,λz=>by(injection z)⟩⟩
  .obtain(⟨l,v,dv,dU,hz⟩):=aa e he;exact⟨l,v,dv,by exact G (same _) dU,hz⟩
  .exact aS (aJ x ak) λl dv dU=>(bh l dv (.inl (G (same _) dU)))
  .rw[aB] at bw;(obtain J:=aT bw;clear bw;subst J);exact same k
  .obtain Dq:ay.length<=0+g.S:=Dq;show ay.length<=ar.length+g.S;exact bU Dq (j1 (l5 _) _)
 .rw[if_neg hm] at q;exact hf m own y q
theorem RK(H:Sat g c st β s){a:aF}{o:cY}(aN:n<10000000)(h0:st.σ.get n=C (ai,.gone))(aU:β.ad[n]? =C (a,a))(eB:c.P a=C o)(hd:o.IsDictOf (strKind g.prog g.w) ay)
  (ns:a≠ku)(aa:kZ β ay ar)(af:ar.Pairwise (λe f=>e.1.val β≠f.1.val β))(aJ:∀x:ag,x∈abs->∃l,x.val β=C l/\a0 ay (aQ l)=none)(aB:∀old,g.base a=C old->old=ay)(hlen:ay.length<=g.S):
  Sat g c {st with σ:=st.σ.put cU n (ai,.dict ar (C abs))} β s:=by
 refine bG H.objs λf hf=>⟨⟨H.keep,H.cw,⟨f,λm own y q=>?_⟩,H.len,H.facts,H.ghost⟩,H.os,H.loc⟩;replace q:(st.σ.put cU n (ai,.dict ar (C abs))).get m=C (own,y):=q;rw[d0.k8 cU st.σ n _ m (ij aN (aR rfl))] at q;by_cases hm:m=n
 ·(clear h0 aN;subst hm);rw[if_pos rfl] at q;(obtain J:=aT q;clear q;refine a3 (eD J) λbT cu=>?_;clear J;subst bT;subst cu);refine⟨a,a,aU,⟨rfl,ns,o,ay,eB,hd,aa,af,⟨λx ak=>?_,λold bw=>by exact G (aB old bw) ⟨iH _,λk=>.inr rfl⟩⟩,by show ay.length<=ar.length+g.S;exact bU (by assumption) (w6 _ _)⟩,λz=>by exact c7 z⟩;exact aS (aJ x ak) λl dv dU=>(bh l dv (.inl dU))
 .rw[if_neg hm] at q;exact hf m own y q
theorem Fn:(β.app k ax).ad[β.ad.length+j]? =ax.ad[k+j]? :=by show(β.ad++ax.ad.drop k)[_]? =_;(refine G (pH (gs _ _)) ?_;refine G (DS _ _) (G Ag ?_);with_reducible rfl)
structure JoinOk(g:cy)(β:aZ)(j:List Nat×List ag×b4)(ax:aZ):Prop where
 bt:df g j.2.2 ax
 aj:∀k ch,ax.aj[k]? =C ch->∃x,cG j.2.1 k=C x/\ag.val β x=C [ch]
 len:j.2.1.length=j.2.2.aE.length
 pre:∀(i n:Nat),j.1[i]? =C n->∃x,ax.ad[i]? =C x/\β.ad[n]? =C x
theorem aaU{j:List Nat×List ag×b4}(U:c.Ok g dep)(H:Sat g c st β s)(hH:JoinOk g β j ax):∃av,Sat g c (hO st j) av s/\β.le av/\((hu st j.1 j.2.1 j.2.2).isSome=ae->av=β.app j.1.length ax):=by
 unfold hO;generalize q:hu st j.1 j.2.1 j.2.2=aD;induction aD using b3 with
 |none=>exact(fT β H (.refl _) (λh=>by exact c7 h))
 |some bk=>exact(fT _ (Py U H hH.bt hH.aj hH.len hH.pre q) aZ.eb (λI=>rfl))
end
noncomputable def zU(ah:cV)(e cq:b4):Bool:=wq ah 0 e.st [] cq
section
variable{e cq:b4}
theorem df.pick(E:df g e β)(ahR:e.os.all (λx=>!x.1)=ae)(aX:e.os.length<=100000)(h:zU ah e cq=ae)(aB:∀a o ay old,g.h₀.get? a=C o->o.IsDictOf (strKind g.prog g.w) ay->g.base a=C old->ay=old):df g cq (pull ah β)/\e7 ah (pull ah β) β:=by obtain wy:=bB h;have eT:=bR h;have cP:=bR eT;have bl:=bR cP;have aJ:=bR bl;have af:=bR aJ;have cE:=bB af;refine fO (zz cE) λt2 qz I=>?_;have F:Facts g.S e.st.au e.st.aE e.st.ns β:=E.facts;have aN:∀n∈ah.ad,n<β.ad.length:=λn aN=>E.len.symm▸qz n aN;refine a3 (Jn F aN (bB aJ) (bB bl) (bB cP) (bB eT) wy) λT W=>⟨⟨λi own o q=>?_,(gB _).trans t2.symm,W⟩,T⟩;have hf:=eX.mp (bR af) _ (l7 q);have ey:own=false:=jl _▸hf;(clear hf;subst ey);exact G0 (bq:=g) T F aN cE rfl rfl rfl rfl (λa o ay a9 bf old cB=>aB a o ay old a9 bf cB) (λn own o e I=>E.objs n own o ((b4.get (bU aX (aR rfl)) n).symm.trans e)) q
end
theorem Nn(z:Int):∀c∈eR z,c≠95:=λc h e=>by have:=Gm z c h;(clear h;subst e);exact absurd this (aR (by kernel_rfl))
theorem afP{a b x y:bz}(aU:∀c∈a,c≠95)(aB:∀c∈b,c≠95)(h:a++95::x=b++95::y):a=b:=by
 induction a generalizing b with
 |nil=>
  induction b using es with
  |nil=>rfl
  |cons c b=>exact absurd (qQ h).1.symm (aB c (.head _))
 |cons c a bF=>
  induction b using es with
  |nil=>exact absurd (qQ h).1 (aU c (.head _))
  |cons d b=>exact G (qQ h).1 (G (bF (λc bb=>aU c (.tail _ bb)) (λc bb=>aB c (.tail _ bb)) (qQ h).2) rfl)
theorem Xd{a b:Int}(aU:0<=a)(aB:0<=b)(h:eR a=eR b):a=b:=by
 (refine bG (DR aU) λm J=>?_;(clear aU;subst J));(refine bG (DR aB) λn J=>?_;(clear aB;subst J));have e:sv m=sv n:=by unfold eR cs at h;have aa:(bO (sv m)).cps.toList=(bO (sv n)).cps.toList:=h;rw[Tt,Tt] at aa;simp only at aa;have af:(sv m).toList.map Lq=(sv n).toList.map Char.toNat:=aa;have aJ:=(List.map_inj_right (f:=Lq) (λa b e=>Char.toNat_inj.mp e)).mp af;exact String.toList_inj.mp aJ
 exact G (Nat.repr_inj.mp e) rfl
noncomputable def mg(N:Int)(l:bz):Prop:=∃n r,0<=n/\n<=N/\(l=cs "wrapper__"++eR n++95::r\/l=cs "f__"++eR n++95::r)
noncomputable def hU(N:Int)(aP:List (aO×az))(k:aO):Prop:=(∃ch,ch∈bC/\k=aQ [ch]/\a0 aP k≠none)\/k=aQ (cs "lone")\/mg N (cs k)
theorem Qa:cs "lone"=[108,111,110,101]:=by kernel_rfl
variable{N:Int}
theorem mg.mono{M:Int}(h:N<=M){l:bz}:mg N l->mg M l:=λgd=>(by(refine fD gd λn r aa af aJ=>?_;try clear gd);exact⟨n,r,aa,by exact gk (by assumption) (by assumption),aJ⟩)
theorem mg.head{l:bz}(h:mg N l):4<=l.length/\(∃t,l=119::114::t)\/∃t,l=102::95::95::t:=by
 obtain⟨n,r,_,_,h|h⟩:=h
 .refine .inl ?_;obtain e:cs "wrapper__"=[119,114,97,112,112,101,114,95,95]:=by decide+kernel
  (refine G h (G e ?_));exact⟨by simp,_,rfl⟩
 .refine .inr ?_;obtain e:cs "f__"=[102,95,95]:=by decide+kernel
  (refine G h (G e ?_));exact⟨_,rfl⟩
theorem mg.not{n:Int}{p:bz}{r:bz}(b6:p=cs "wrapper__"\/p=cs "f__")(aN:N<n)(h0:0<=N)(h:mg N (p++eR n++95::r)):False:=by
 (refine fD h λm g9 aa af aJ=>?_;try clear h);have n8:cs "wrapper__"=[119,114,97,112,112,101,114,95,95]:=by kernel_rfl
 have jM:cs "f__"=[102,95,95]:=by kernel_rfl
 have key:eR n++95::r=eR m++95::g9->False:=λe=>by obtain this:=afP (Nn n) (Nn m) e;obtain this:=Xd (by lia) aa this;lia
 rcases b6 with rfl|rfl<;>rcases aJ with aJ|aJ
 .rw[n8,nP,nP] at aJ;exact key (Te aJ)
 .rw[n8,jM] at aJ;simp at aJ
 .rw[n8,jM] at aJ;simp at aJ
 .rw[jM,nP,nP] at aJ;exact key (Te aJ)
variable{fn aP:List (aO×az)}
theorem hU.absent(aw:∀k,a0 fn k≠none->hU N aP k){l:bz}(aa:∀ch,ch∈bC->l=[ch]->a0 aP (aQ l)=none)(af:l≠cs "lone")(aJ:¬mg N l):a0 fn (aQ l)=none:=by
 generalize q:a0 fn (aQ l)=aD;induction aD using b3 with
 |none=>rfl
 |some v=>
  rcases aw (aQ l) (by refine G q ?_;simp) with⟨ch,dv,dU,hz⟩|x|x
  .obtain this:=oh dU;exact absurd (aa ch dv this) hz
  .exact absurd (oh x) af
  .rw[Gf] at x;exact absurd x aJ
theorem hU.two(aw:∀k,a0 fn k≠none->hU N aP k){a b:Nat}(aU:a≠119):a0 fn (aQ [a,b])=none:=by
 refine hU.absent aw (λch I e=>by simp at e) (by refine G Qa ?_;simp) λh=>?_;rcases h.head with⟨_,t,e⟩|⟨t,e⟩
 .simp at e;exact aU e.1
 .simp at e
theorem hU.one(aw:∀k,a0 fn k≠none->hU N aP k)(h:a0 aP (aQ [ch])=none):a0 fn (aQ [ch])=none:=by
 refine hU.absent aw (λI I I=>h) (by refine G Qa ?_;simp) λh=>?_;rcases h.head with⟨h,_⟩|⟨t,e⟩
 .simp at h
 .simp at e
theorem hU.num{n:Int}(aw:∀k,a0 fn k≠none->hU N aP k){p r:bz}(b6:p=cs "wrapper__"\/p=cs "f__")(aN:N<n)(h0:0<=N):a0 fn (aQ (p++eR n++95::r))=none:=by
 have n8:cs "wrapper__"=[119,114,97,112,112,101,114,95,95]:=by kernel_rfl
 have jM:cs "f__"=[102,95,95]:=by kernel_rfl
 have n5:cs "lone"=[108,111,110,101]:=by kernel_rfl
 refine hU.absent aw (λch I e=>?_) (λe=>?_) (mg.not b6 aN h0)
 .rcases b6 with rfl|rfl
  .rw[n8] at e;simp at e
  .rw[jM] at e;simp at e
 .rcases b6 with rfl|rfl
  .rw[n8,n5] at e;simp at e
  .rw[jM,n5] at e;simp at e
theorem hU.none(aw:∀k,a0 fn k≠none->hU N aP k):a0 fn (aQ (cs "none"))=none:=by
 have ey:cs "none"=[110,111,110,101]:=by kernel_rfl
 obtain n5:cs "lone"=[108,111,110,101]:=by kernel_rfl
 refine hU.absent aw (λch I e=>by rw[ey] at e;simp at e) (by(refine G ey (G n5 ?_));simp) λh=>?_;rw[ey] at h;rcases h.head with⟨_,t,e⟩|⟨t,e⟩<;>simp at e
structure Gens(g:cy)(after:Nat->Nat)(root:aF×aF)(cK:aF)(ay:List (aO×az))(ga:Nat->aF×aF):Prop where
 gen:pS g after root cK ay
 ru:∀w,w<4->∃L ax,a0 ay (aQ [103,97+w])=C (.ref L)/\ax.ad[0]? =C root/\ax.ad[1]? =C (L,L)/\ax.ad[2]? =C (ga w)/\ax.aC[0]? =C (2+2*(w:Int))/\(4<=after w->df g GE ax/\ax.aj=[97+w])/\
  (after w=w->df g (mV 0 [dD]) ax/\ax.aj=[97+w])/\(after w<4->after w≠w->df g (mV 1 [dD,dD]) ax/\ax.aj=[97+w,97+after w])
 sY:∀w,w<4->∃L ax,a0 ay (aQ [104,97+w])=C (.ref L)/\ax.ad[0]? =C root/\ax.ad[1]? =C (L,L)/\df g me ax/\ax.aj=[97+w]/\ax.aC[0]? =C (3+2*(w:Int))
 keys:∀k,a0 ay k≠none->(∃w,w<4/\(k=aQ [103,97+w]\/k=aQ [104,97+w]))\/k=aQ (cs "bare")
variable{ga:Nat->aF×aF}
theorem Gens.re(a6:Gens g after root cK ay ga)(b6:bq.prog=g.prog)(hw:bq.w=g.w)(up:∀b x,g.h₀.get? b=C x->bq.h₀.get? b=C x)(br:g.S<=bq.S)(aB:∀old,bq.base cK=C old->old=ay):Gens bq after root cK ay ga:=by
 refine⟨a6.gen.re b6 hw up br aB,λw ob=>?_,λw ob=>?_,a6.keys⟩
 .exact t5 (a6.ru w ob) λL ax a1 a2 cj c9 dQ fe iq ky=>(SS L ax a1 a2 cj c9 dQ (λq=>⟨(fe q).1.re (by kernel_rfl) b6 hw up br,(fe q).2⟩) (λq=>⟨(iq q).1.re (by kernel_rfl) b6 hw up br,(iq q).2⟩) (λq en=>⟨(ky q en).1.re (by kernel_rfl) b6 hw up br,(ky q en).2⟩))
 .exact t4 (a6.sY w ob) λL ax a1 a2 cj c9 dQ=>(Kf L ax a1 a2 cj (c9.re (by kernel_rfl) b6 hw up br) dQ)
inductive Entry(g:cy)(qF fr:aF×aF)(ga:Nat->aF×aF)(fn aP:List (aO×az))(ch:Nat):Prop where
 |A (ax:aZ) (L T:Addr×Addr) (bt:df g sN ax) (aj:ax.aj=[ch]) (r:ax.ad[0]? =some qF) (f:ax.ad[1]? =some fr) (l:ax.ad[2]? =some L) (t:ax.ad[3]? =some T) (dJ:ax.aC[0]? =some (-1)) (d7:valueAt fn (aQ [ch])=some (.ref L.1)) (c4:valueAt aP (aQ [ch])=some (.ref T.1))
 |B (m w:Nat) (hm:1<=m/\m<=4) (hw:w<4) (ax:aZ) (L T:Addr×Addr) (bt:df g (gO m) ax) (aj:ax.aj=[ch]) (r:ax.ad[0]? =some qF) (f:ax.ad[1]? =some fr) (ge:ax.ad[2]? =some (ga w)) (l:ax.ad[3]? =some L) (t:ax.ad[4]? =some T) (dJ:ax.aC[0]? =some (w:Int)) (e_:ax.aC[1]? =some (2+2*(w:Int)))
   (d7:a0 fn (aQ [ch])=C (.ref L.1)) (c4:a0 aP (aQ [ch])=C (.ref T.1))
 |U (mn w:Nat) (ax:aZ) (L T gP:Addr×Addr) (bt:df g uT ax) (aj:ax.aj=[ch,mn]) (r:ax.ad[0]? =some qF) (f:ax.ad[1]? =some fr) (l:ax.ad[3]? =some L) (t:ax.ad[4]? =some T) (a_:ax.ad[13]? =some gP) (dJ:ax.aC[0]? =some (-1)) (hw:w<4) (e_:ax.aC[1]? =some (3+2*(w:Int)))
   (d7:a0 fn (aQ [ch])=C (.ref L.1)) (c4:a0 aP (aQ [ch])=C (.ref T.1)) (nH:a0 fn (aQ [mn])=C (.ref gP.1)) (kk:a0 aP (aQ [mn])≠none)
theorem wt{m:Nat}(h:1<=m/\m<=4):Dk (gO m)=true:=by
 (refine a3 h λaa af=>?_;try clear h);rcases m with _|_|_|_|_|m
 .lia
 all_goals first|decide+kernel|lia
variable{qF:aF×aF}
theorem Entry.re{fr:aF×aF}{eL er:List (aO×az)}(E:Entry g qF fr ga fn aP ch)(b6:bq.prog=g.prog)(hw:bq.w=g.w)(up:∀b x,g.h₀.get? b=C x->bq.h₀.get? b=C x)(br:g.S<=bq.S)
  (hf:∀c,a0 aP (aQ [c])≠none->a0 eL (aQ [c])=a0 fn (aQ [c]))(aw:∀c,a0 aP (aQ [c])≠none->a0 er (aQ [c])=a0 aP (aQ [c])):Entry bq qF fr ga eL er ch:=by
 cases E with
 |A ax L T bt aj r f l t dJ d7 c4=>exact .A ax L T (bt.re (by kernel_rfl) b6 hw up br) aj r f l t dJ ((hf _ (by refine G c4 ?_;simp)).trans d7) ((aw _ (by refine G c4 ?_;simp)).trans c4)
 |B m w hm ob ax L T bt aj r f ge l t dJ e_ d7 c4=>exact .B m w hm ob ax L T (bt.re (wt hm) b6 hw up br) aj r f ge l t dJ e_ ((hf _ (by refine G c4 ?_;simp)).trans d7) ((aw _ (by refine G c4 ?_;simp)).trans c4)
 |U mn w ax L T gP bt aj r f l t a_ dJ ob e_ d7 c4 nH kk=>exact .U mn w ax L T gP (bt.re (by kernel_rfl) b6 hw up br) aj r f l t a_ dJ ob e_ ((hf _ (by refine G c4 ?_;simp)).trans d7) ((aw _ (by refine G c4 ?_;simp)).trans c4) ((hf _ kk).trans nH) (G (aw _ kk) kk)
structure gD where
 K:b7
 after:Nat->Nat
 room:Int
 root:aF×aF
 fr:aF×aF
 cK:aF
 r6:List (aO×az)
 ga:Nat->aF×aF
 hM:aF
 d6:aF
 e4:aF
 eo:aF
 M:Model
 A:oA
 h0:gj
 c6:aF×aF
 raw:Nat->cY
 dT:aM
structure bP(X:gD)(p:b4)(g:cy)(c:bc)(β:aZ)(s:aM)(env:hB)(fn aP:List (aO×az))(at_ N:Int):Prop where
 good:Good g
 k:g.K=X.K
 cp:c.Ok g 2
 env:cc c (lax X.K) env β
 sat:Sat g c p.st β s
 eB:c.P=g.h₀.get?
 gens:Gens g X.after X.root X.cK X.r6 X.ga
 cA:β.ad[1]? =C X.root
 el:β.ad[2]? =C X.fr
 gE:β.ad[3]? =C (X.hM,X.hM)
 jL:β.ad[6]? =C (X.d6,X.d6)
 j8:β.ad[10]? =C (X.e4,X.e4)
 k0:β.ad[11]? =C (X.eo,X.eo)
 k1:β.ad[13]? =C (X.cK,X.cK)
 room:β.aC[2]? =C X.room
 od:β.aC[5]? =C at_
 ee:β.aC[1]? =C N
 sZ:g.base X.hM=C fn
 oM:g.base X.d6=C aP
 keys:∀k,a0 fn k≠none->hU N aP k
 ents:∀k,a0 aP k≠none->∃ch,ch∈bC/\k=aQ [ch]/\Entry g X.root X.fr X.ga fn aP ch
 S:20<=g.S
 m2:0<=N
 aB:∀a o ay old,g.h₀.get? a=C o->o.IsDictOf (strKind g.prog g.w) ay->g.base a=C old->ay=old
 m:g.M=X.M
 a:c.A=X.A
 hk:∀a o,X.h0.get? a=C o->c.P a=C o
 hJ:β.ad[9]? =C X.c6
 raw:g.raw=X.raw
 dT:g.dT=X.dT
section
variable{c:bc}{st:St}{s:aM}
theorem vP(F:Facts g.S st.au st.aE st.ns β){ks:List ag}(h:o5 st.au st.aE ar ks=ae)(hd:∀k∈ks,∃l,ag.val β k=C l)(e:ag×V)(he:e∈ar)(l:bz)(aX:e.1.val β=C l):∃k∈ks,ag.val β k=C l:=aS ((p0 (f:=λ(x:ag×V) k=>tS (ag.eq st.au st.aE 400 x.1 k)) h).l e he) λk aw q=>bG (hd k aw) λm hm=>(bh k aw (aR (ag.k4 F (yR q) aX hm).symm▸hm))
theorem agC(F:Facts g.S st.au st.aE st.ns β){k:ag}{l:bz}(aw:k.val β=C l)(h:ui st.au st.aE k n ar=ae)(hd:∀e∈ar,∃l,e.1.val β=C l):∃e∈ar,e.1.val β=C l/\e.2=.r n:=aS (DZ.mp h) λe he q=>bG (hd e he) λa_ jw=>cN (bB q) λm hm en=>(fT e he (aR (ag.k4 F (yR (bR q)) jw aw).symm▸jw) (d2 en▸t_ hm))
theorem z2(F:Facts g.S st.au st.aE st.ns β){k:ag}{l:bz}(aw:k.val β=C l)(h:ui st.au st.aE k n ar=ae)(bJ:kZ β ay ar):∃p,β.ad[n]? =C p/\a0 ay (aQ l)=C (.ref p.1):=by refine eH (agC F aw h bJ.vals) λz fG hA kl=>?_;obtain(⟨a_,v,cH,cX,fw⟩):=bJ z fG;cases hA.symm.trans cH;rw[kl] at fw;(refine cz fw λa d gT e=>?_;try clear fw);exact(bh (a,d) gT (e▸cX))
theorem Ma{c v:Nat}{e:bo}(h:pY c v e=ae):e=.aL (c:Int) ai v:=
 cN h λq e h=>by(refine G (xI e) (G (d2 (bR h)) (G (d2 (bB h)) ?_)));rfl
theorem Q5(h:qC st n=C ar):∃op,st.σ.get n=C (ae,.dict ar (C op)):=
 ct h λx ak h=>by
  obtain(⟨own,o⟩):=x;induction own using bZ with
  |false=>exact bM h
  |true=>exact ct h λq aq h=>omap h λop bw e=>⟨op,by exact G ak (G (show o=_ from oR aq) (G bw (G (bV e) rfl)))⟩
theorem Dd(H:Sat g c st β s){p:aF×aF}(h:qC st n=C ar)(b:β.ad[n]? =C p):∃o ay,s.heap.get? p.1=C o/\o.IsDictOf (strKind g.prog g.w) ay/\(kZ β ay ar)/\Rest (g.base p.1) β ay ar:=by refine bG (Q5 h) λop q=>bG H.objs λf hf=>?_;obtain(⟨a,d,bY,c5,_⟩):=hf n ae _ q;cases b.symm.trans bY;obtain(⟨_,_,o,ay,aa,af,aJ,_,bl,_⟩):=(show cL g s.heap.get? β a d (.dict ar (C op)) from c5);exact(i3 o ay aa af aJ bl.2)
theorem kO{i:Nat}{e:bo}(h:cG ah.aC i=C e)(a8:e.val β=C z):(pull ah β).aC[i]? =C z:=by rw[fY] at h;show(ah.aC.map _)[i]? =_;(refine G oD ?_;refine G h (G (nR _ _) (G a8 ?_)));rfl
theorem lR{c:Nat}{v:Nat}(h:β.aC[v]? =C z):(bo.aL (c:Int) ai v).val β=C (c+z):=rt h
end
theorem Il{c v:Nat}(h:(cG ah.aC v).any (pY c v)=ae)(a8:β.aC[v]? =C z):(pull ah β).aC[v]? =C (z+c):=
 cN h λe he q=>kO he (by(refine G (Ma q) (G (lR a8) ?_);exact G (D_ _ _) rfl))
theorem VY(e:k3 x [("bag",8)]=C n):n=8:=by
 rw[F1] at e;split at e
 ·(obtain J:=aT e;clear e;subst J);rfl
 .exact bM e
variable{ao:aM}{at_:Int}{c6:aF×aF}
theorem Si{X:gD}{c:bc}{s:aM}{eL er:List (aO×az)}{h₀:gj}{m:Nat}(T:bP X p g c dP s env fn aP at_ N)(l:dP.le aY)(hc:Seen g c bk aY ao 2 ah dR q h₀ base)(br:g.S+dR<=9000)
  (AZ:∀i,i<27/\i≠9->cG ah.ad i=C i)(ba:Cv ah m k=ae)(dk:Sat (g.re h₀ dR (pull ah aY) base) (c.re h₀) dI.st (pull ah aY) ao)(sZ:base X.hM=C eL)(oM:base X.d6=C er)(keys:∀k,a0 eL k≠none->hU (N+m) er k)
  (ents:(∀b x,g.h₀.get? b=C x->h₀.get? b=C x)->∀k,a0 er k≠none->∃ch,ch∈bC/\k=aQ [ch]/\Entry (g.re h₀ dR (pull ah aY) base) X.root X.fr X.ga eL er ch)(et:(pull ah aY).ad[9]? =C c6):
  bP {X with c6:=c6} dI (g.re h₀ dR (pull ah aY) base) (c.re h₀) (pull ah aY) ao env eL er (at_+k) (N+m):=by
 have tE:∀b x,g.h₀.get? b=C x->h₀.get? b=C x:=λb x q=>hc.up b x (T.cp.base b x q);have ad:∀{i x},i<27/\i≠9->dP.ad[i]? =C x->(pull ah aY).ad[i]? =C x:=λbN e=>dz (AZ _ bN) (a4 l.ad e);refine⟨T.good.re hc.ok,T.k,hc.cp,?_,dk,rfl,?_,ad (aR rfl) T.cA,ad (aR rfl) T.el,ad (aR rfl) T.gE,ad (aR rfl) T.jL,ad (aR rfl) T.j8,ad (aR rfl) T.k0,ad (aR rfl) T.k1,?_,Il (bB (bB ba)) (a4 l.aC T.od),Il (bR ba) (a4 l.aC T.ee),sZ,oM,keys,ents tE,bU T.S (gs _ _),K8 T.m2 (kV m),λa o ay old a9 bf cB=>?_,T.m,T.a,λa o e=>hc.up a o (T.hk a o e),et,T.raw,T.dT⟩
 .have V:=T.env;refine⟨V.scope,V.kind,V.glob,V.blt,V.loc,λx n e=>?_,V.frame,V.apart⟩;exact cz (V.cells x n e) λa ec dd dx=>(gi a ec dd (ad (G (VY e) (aR rfl)) dx))
 .exact aS T.gens.gen.dict λo a9 bf=>T.gens.re rfl rfl tE (gs _ _) λold bw=>c0 (bw.symm.trans (hc.base X.cK o X.r6 (hc.down _ _ (tE _ _ a9)) bf))
 .obtain this:=Il (bR (bB ba)) (a4 l.aC T.room);exact G this (congrArg C (Eb _))
 .exact(c0 (cB.symm.trans (hc.base a o ay (hc.down _ _ a9) bf))).symm
theorem DJ(h:β.aC[1]? =C N){p r:bz}:ag.val β [.lit p,.dec (.aL 1 ai 1),.lit r]=C (p++eR (1+N)++r):=
 ag.eN.mpr (d1 _ (eR (1+N)++r) rfl (ag.eN.mpr (d1 (eR (1+N)) r (congrArg (uG eR) (lR (c:=1) h)) (ag.eN.mpr (d1 r [] rfl rfl ((ma _).symm))) rfl)) (nP _ _ _))
theorem Iw{a b c:bz}{n:Int}(h:1<a.length):(a++eR n++b).length≠1:=λe=>by rw[iG,iG] at e;exact absurd (ij h (bU (bU (gs _ _) (gs _ _)) (eP e))) (qR _)
theorem agp{X:gD}{c:bc}{s:aM}{d:il}(T:bP X p g c dP s env fn aP at_ N)(l:dP.le aY)(H:Sat g c bk aY ao)(aa:RF d=ae)(af:h1 d.ah dR bk dF=ae)
  (aJ:wq d.fI dR bk (h_ dF.os d.ah.ad) d.e=ae)(bl:RL bk d=ae)(br:g.S+dR<=9000)(cQ:ch∈bC)(rN:d.nm.val aY=C [ch])(e1:a0 aP (aQ [ch])=none)
  (holds:∀x:ag×Nat,x∈d.olds->∃c L,x.1.val aY=C [c]/\aY.ad[x.2]? =C L/\a0 fn (aQ [c])=C (.ref L.1)/\a0 aP (aQ [c])≠none)(HH:d.nums=[]\/(d.nums=[jj 1 "_1"]/\1<=d.more)\/(d.nums=[tq 1 "_1",jj 1 "_2"]/\1<=d.more))
  (Ht:∀bq eL er L h4,df bq d.e (pull d.fI aY)->e7 d.fI (pull d.fI aY) aY->(pull d.fI aY).ad[d.L]? =C L->(pull d.fI aY).ad[d.T]? =C h4->a0 eL (aQ [ch])=C (.ref L.1)->a0 er (aQ [ch])=C (.ref h4.1)->
   (∀c,a0 aP (aQ [c])≠none->a0 eL (aQ [c])=a0 fn (aQ [c])/\a0 er (aQ [c])=a0 aP (aQ [c]))->Entry bq X.root X.fr X.ga eL er ch):
  ∃bq bI eL er av,bP X T0 bq bI av ao env eL er at_ (N+d.more)/\(∀a o,c.P a=C o->bI.P a=C o)/\bq.S=g.S+dR/\bq.raw=g.raw/\bq.dT=g.dT/\(∃x,av.ad[9]? =C x/\dP.ad[9]? =C x):=by
 refine mC (r9 T.good.ok T.cp H af (bU (by assumption) (bA rfl))) λh₀ base hc=>a3 (Jk hc H aJ) λbt pu=>?_;have F:=H.facts;exact cN bl λar he bl=>cN bl λks HB bl=>cN bl λnl adE bl=>cN bl λah5 adF bl=>by
  obtain bu:=bR bl;obtain c3:=bR (bB bl);obtain fL:=bR (bB (bB bl));obtain my:=bR (bB (bB (bB bl)));obtain hY:=bB (bB (bB (bB bl)));refine ig (Dd H he (a4 l.ad T.gE)) λC5 eL HJ BP HV B9=>ig (Dd H HB (a4 l.ad T.jL)) λQT er B1 vv B_ tK=>?_;have H0:=a4 l.aC T.ee;obtain acL:∀x∈d.nums,∃l,ag.val aY x=C l/\mg (N+d.more) l/\l.length≠1:=λx ak=>by
   obtain m2:=T.m2;have n8:1<(cs "wrapper__").length:=by exact aR (by kernel_rfl)
   obtain jM:1<(cs "f__").length:=by exact aR (by kernel_rfl)
   have e5:cs "_1"=95:: [49]:=by kernel_rfl
   obtain gZ:cs "_2"=95:: [50]:=by kernel_rfl
   have le:1<=d.more->0<=1+N/\1+N<=N+d.more:=λh=>by exact⟨K8 (aR rfl) m2,D_ 1 N▸KH (jn.mpr h) N⟩
   rcases HH with e|⟨e,hm⟩|⟨e,hm⟩
   .rw[e] at ak;cases ak
   .rw[e] at ak;obtain rfl:=eu.mp ak;exact(fT _ (DJ H0) ⟨1+N,[49],(le hm).1,(le hm).2,.inl (G e5 rfl)⟩ (Iw (c:=[]) n8))
   .rw[e] at ak;rcases dg.mp ak with rfl|ak
    .exact(fT _ (DJ H0) ⟨1+N,[49],(le hm).1,(le hm).2,.inr (G e5 rfl)⟩ (Iw (c:=[]) jM))
    .obtain rfl:=eu.mp ak;exact(fT _ (DJ H0) ⟨1+N,[50],(le hm).1,(le hm).2,.inl (G gZ rfl)⟩ (Iw (c:=[]) n8))
  have PH:∀x∈d.keys,(∃c L,ag.val aY x=C [c]/\a0 fn (aQ [c])=C (.ref L)/\a0 eL (aQ [c])=C (.ref L)/\a0 aP (aQ [c])≠none)\/(∃l,ag.val aY x=C l/\mg (N+d.more) l/\l.length≠1)\/x=d.nm:=λx ak=>by
   unfold il.keys at ak;rcases mb.mp ak with ak|ak
   .rcases mb.mp ak with ak|ak
    ·(refine aS (kY.mp ak) λy bS J=>?_;(clear ak;subst J));refine ig (holds y bS) λc L a9 bf cB iM=>.inl (i3 c L.1 a9 cB ?_ iM);refine aS (z2 F a9 (eX.mp c3 y bS) HV) λp dd dx=>?_;cases bf.symm.trans dd;exact dx
    .exact .inr (.inl (acL x ak))
   .exact .inr (.inr (eu.mp ak))
  obtain aba:∀k∈d.keys,∃l,ag.val aY k=C l:=λk aw=>by
   rcases PH k aw with⟨c,L,e,_⟩|⟨l,e,_⟩|rfl
   .exact⟨_,e⟩
   .exact⟨_,e⟩
   .exact⟨_,rN⟩
  refine aS (z2 F rN fL HV) λL agG agH=>aS (z2 F rN hY B_) λh4 agI SE=>?_;have IC:∀k,k≠aQ [ch]->a0 er k=a0 aP k:=λk aw=>by
   rcases(tK aP T.oM).2 k with⟨e,he,aX⟩|h
   .refine aS (vP F my (λk aw=>by exact G (eu.mp aw) ⟨_,rN⟩) e he _ aX) λeF a b=>?_;rw[eu.mp a,rN] at b;obtain this:cs k=[ch]:=(c0 b).symm;exact absurd (by(refine G (bV this) ?_;exact G (hj _) rfl)) aw
   .exact h
  have Of:∀k,a0 eL k=a0 fn k\/mg (N+d.more) (cs k)\/k=aQ [ch]:=λk=>by
   rcases(B9 fn T.sZ).2 k with⟨e,he,aX⟩|h
   .refine aS (vP F bu aba e he _ aX) λeF a b=>?_;rcases PH eF a with⟨c,L,a9,bf,cB,_⟩|⟨l,a9,bf,_⟩|rfl
    .rw[b] at a9;obtain this:cs k=[c]:=c0 a9;obtain this:k=aQ [c]:=by(refine G (bV this) ?_;exact G (hj _) rfl)
     left;exact G this (G bf (G cB rfl))
    .rw[b] at a9;(obtain J:=aT a9;clear a9;subst J);exact .inr (.inl bf)
    .rw[rN] at b;obtain this:cs k=[ch]:=(c0 b).symm;exact .inr (.inr (by(refine G (bV this) ?_;exact G (hj _) rfl)))
   .exact .inl h
  have same:∀c,a0 aP (aQ [c])≠none->a0 eL (aQ [c])=a0 fn (aQ [c])/\a0 er (aQ [c])=a0 aP (aQ [c]):=λc bb=>by
   have ne:aQ [c]≠aQ [ch]:=λe=>by rw[e] at bb;exact bb e1
   refine⟨?_,IC _ ne⟩;rcases Of (aQ [c]) with h|h|h
   .exact h
   .rw[show cs (aQ [c])=[c] from by simp[cs,aQ]] at h;rcases h.head with⟨h,_⟩|⟨t,h⟩<;>simp at h
   .exact absurd h ne
  obtain ent:=Ht _ eL er L h4 bt pu (dz adE agG) (dz adF agI) agH SE same;have AZ:∀i,i<27->cG d.ah.ad i=C i:=λi bN=>by obtain this:=H4 (bR aa) i bN;rw[uE] at this;exact(fY _ _).trans this
  have et:=dz (AZ 9 (aR rfl)) (a4 l.ad T.hJ);have dk:=hc.sat;have nU:=dk.facts;obtain abc:∀k,a0 eL k≠none->hU (N+d.more) er k:=λk aw=>by
   obtain abk:∀k,a0 aP k≠none->a0 er k≠none:=λk aw=>by
    by_cases e:k=aQ [ch]
    .rw[e] at aw;exact absurd e1 aw
    .exact G (IC k e) aw
   rcases Of k with h|h|h
   .rw[h] at aw;rcases T.keys k aw with⟨c,dv,dU,hz⟩|x|x
    .exact .inl (fT c dv dU (abk k hz))
    .exact .inr (.inl x)
    .exact .inr (.inr (x.mono (Int.le_add_of_nonneg_right (kV _))))
   .exact .inr (.inr h)
   .exact .inl (fT ch cQ h (by(refine G h (G SE ?_));exact Ky _))
  obtain XD:(∀b x,g.h₀.get? b=C x->h₀.get? b=C x)->∀k,a0 er k≠none->∃ch,ch∈bC/\k=aQ [ch]/\Entry (g.re h₀ dR (pull d.ah aY) base) X.root X.fr X.ga eL er ch:=λtE k aw=>by
   by_cases e:k=aQ [ch]
   .exact(fT ch cQ e ent)
   .rw[IC k e] at aw;exact eH (T.ents k aw) λc dv dU E=>(fT c dv dU (E.re rfl rfl tE (gs _ _) (λc bb=>(same c bb).1) λc bb=>(same c bb).2))
  obtain xC:=Si (dI:=T0) T l hc br (λi bN=>AZ i bN.1) (bB aa) (dk.bounds (au:=T0.au) ⟨Bs (ml:=10000) (bU br (aR rfl)) (by kernel_rfl:lT 10000 dF.au T0.au=ae) nU.aC,nU.aj,nU.cd,nU.de,nU.ck⟩) (hc.base _ _ _ HJ BP) (hc.base _ _ _ B1 vv) abc XD et;rw[show at_+((0:Nat):Int)=at_ from Eb _] at xC;exact(ag5 (g.re h₀ dR (pull d.ah aY) base) (c.re h₀) eL er (pull d.ah aY) xC hc.up rfl rfl rfl (bh _ et T.hJ))
theorem Gq(h:fu g H):fu g (iv H):=λc dep β f aK aH U R aW st s aa S=>by
 unfold iv At;dsimp only;generalize q:eQ 4 dep=aD;clear q;induction aD using bZ with
 |false=>trivial
 |true=>obtain this:=h c dep β f aK aH U R aW st s aa S;unfold At at this;dsimp only at this ⊢;exact this
variable{Q:fH->aM->Prop}{b1:aZ}{h3:gW}
section
variable{X:gD}{c:bc}{s:aM}
theorem bP.bounds(T:bP X p g c β s env fn aP at_ N)(e:({p.st with au:=dI.au}:St)=dI.st)(F:bK (hb g.S) dI.au β.aC):bP X dI g c β s env fn aP at_ N:=
 {T with sat:=e▸T.sat.bounds ⟨F,T.sat.facts.aj,T.sat.facts.cd,T.sat.facts.de,T.sat.facts.ck⟩}
theorem bP.lj(T:bP X p g c β s env fn aP at_ N){l:bz}(e:({p.st with aE:=p.aE++ [l]}:St)=dI.st)(hm:ch∈l)(aN:ch∉β.aj):bP X dI g c {β with aj:=β.aj++ [ch]} s env fn aP at_ N:=by refine a3 (PX T.sat hm aN) λS le=>?_;obtain eE:Sat g c dI.st {β with aj:=β.aj++ [ch]} s:=e▸S;exact{T with sat:=eE,env:=T.env.le le}
theorem fq(U:c.Ok g 2){st:St}(H:Sat g c st β s){j:List Nat×List ag×b4}(hH:JoinOk g β j ax)(h:(hu st j.1 j.2.1 j.2.2).isSome=ae):Sat g c (hO st j) (β.app j.1.length ax) s:=eH (aaU U H hH) λav a I b=>G (bV (b h)) a
structure pV(β:aZ)(ay:List (aO×az))(ar:List (ag×V))(abs:List ag):Prop where
 ar:∃aK:List (bz×az),bK (λ(e:ag×V) x=>e.1.val β=C x.1/\a7 β e.2 x.2/\a0 ay (aQ x.1)=C x.2) ar aK/\(aK.map (·.1)).Nodup
 abs:∀x:ag,x∈abs->∃l,x.val β=C l/\a0 ay (aQ l)=none
theorem pV.parts(h:pV β ay ar abs):(kZ β ay ar)/\ar.Pairwise (λe f=>e.1.val β≠f.1.val β):=by
 refine aS h.ar λaK A e9=>?_;clear h;induction A with
 |nil=>exact⟨λe he=>(nomatch he),.nil⟩
 |@cons e x ar aK r A bF=>
  rw[j2,jD] at e9;refine a3 (bF e9.2) λlW rQ=>⟨λf hf=>?_,wZ.mpr ⟨λf hf q=>?_,rQ⟩⟩
  .rcases dg.mp hf with rfl|hf
   .exact⟨x.1,x.2,r.1,r.2.2,r.2.1⟩
   .exact lW f hf
  .obtain this:∃y∈aK,f.1.val β=C y.1:=by
    clear bF lW rQ e9;induction A with
    |nil=>cases hf
    |@cons cq se p_ SG g9 TM Ci=>
     rcases dg.mp hf with rfl|hf
     .exact(bh se (.head _) g9.1)
     .exact aS (Ci hf) λy a b=>(bh y (.tail _ a) b)
   (refine aS this λy cH cX=>?_;try clear this);rw[r.1,cX] at q;exact e9.1 (G (c0 q) (kU cH))
noncomputable def freshD(st:St):Bool:=newD (st.σ.get 3)&&(newD (st.σ.get 6)&&Hd (st.σ.get 13))
theorem YA{st:St}(h:freshD st=ae):st.σ.get 3=C (ae,.dict [] (C []))/\st.σ.get 6=C (ae,.dict [] (C []))/\st.σ.get 13=C (ai,.gone):=(fi (CS (bR h)) (CS (bR (bB h))) (OB (bB (bB h))))
theorem je{st:St}(T:bP X p g c β s env fn aP at_ N)(l:β.le b1)(H:Sat g c st b1 s)(hf:freshD st=ae)(v:AP)(cb:pV b1 X.r6 v.re v.c2)(aN:pV b1 fn v.ne v.na)(aw:pV b1 aP v.fM v.d6):
  Sat g c (pn (pn (pn st 13 ai v.re v.c2) 3 ae v.ne v.na) 6 ae v.fM v.d6) b1 s:=by
 refine fO (YA hf) λvl nd N6=>?_;have He:∀(t:d0 (Bool×O))(n m:Nat)(x:Bool×O),n<10000000->m≠n->(t.put cU n x).get m=t.get m:=λt n m x aN hm=>by exact G (d0.k8 cU t n x m (ij aN (aR rfl))) (G (if_neg hm) rfl)
 refine aS T.gens.gen.dict λo eZ hp=>a3 cb.parts λda dA=>?_;obtain dk:Sat g c (pn st 13 ai v.re v.c2) b1 s:=RK H (aR rfl) N6 (a4 l.ad T.k1) (G T.eB eZ) hp T.gens.gen.ne da dA cb.abs (λold h=>T.gens.gen.base old h) (by obtain this:=T.gens.gen.eS;obtain this:=T.S;exact bU (by assumption) (by assumption));refine a3 aN.parts λeV dX=>?_;obtain ho:Sat g c (pn (pn st 13 ai v.re v.c2) 3 ae v.ne v.na) b1 s:=JH dk (aR rfl) ((He _ 13 3 _ (aR rfl) (aR rfl)).trans vl) (a4 l.ad T.gE) T.sZ eV dX aN.abs;exact a3 aw.parts λbu c3=>JH ho (aR rfl) (((He _ 3 6 _ (aR rfl) (aR rfl)).trans (He _ 13 6 _ (aR rfl) (aR rfl))).trans nd) (a4 l.ad T.jL) T.oM bu c3 aw.abs
theorem Gens.absent(a6:Gens g after root cK ay ga){l:bz}(aa:∀t,l≠103::t)(af:∀t,l≠104::t)(aJ:∀t,l≠98::t):a0 ay (aQ l)=none:=by
 generalize q:a0 ay (aQ l)=aD;induction aD using b3 with
 |none=>rfl
 |some v=>
  rcases a6.keys (aQ l) (by refine G q ?_;simp) with⟨w,_,e|e⟩|e
  .exact absurd (oh e) (aa _)
  .exact absurd (oh e) (af _)
  .obtain this:=oh e;obtain mr:cs "bare"=98:: [97,114,101]:=by kernel_rfl
   exact absurd (this.trans mr) (aJ _)
theorem Rk(h:ch∈bC):ch≠103/\ch≠104/\ch≠98/\ch∉dD:=by unfold bC at h;simp only[dg,lJ,or_false] at h;rcases h with rfl|rfl|rfl|rfl|rfl|rfl|rfl<;>decide
theorem Gens.Vy(a6:Gens g after root cK ay ga)(h:ch∈bC):a0 ay (aQ [ch])=none:=I_ (Rk h) λaa af aJ I=>a6.absent (λt e=>aa (by simpa using congrArg Lr e)) (λt e=>af (by simpa using congrArg Lr e)) (λt e=>aJ (by simpa using congrArg Lr e))
structure gn(X:gD)(g:cy)(c:bc)(env:hB)(at_:Int)(c6:aF×aF)(Q:fH->aM->Prop):Prop where
 T:∀ao,(∀a o,c.P a=C o->ao.heap.get? a=C o)->m3 g ao->Q (.ret (.bool ae)) ao
 N:∀ao bq bI av eL er sR,bP X T0 bq bI av ao env eL er at_ sR->(∀a o,c.P a=C o->bI.P a=C o)->bq.S=g.S+dR->bq.raw=g.raw->bq.dT=g.dT->av.ad[9]? =C c6->Q .next ao
theorem Sat.wI{b:aZ}{st:St}(H:Sat (g.pin b) c st β s)(h:g.dP.le b):Sat g c st β s:=by exact bG H.objs λf hf=>⟨⟨H.keep,H.cw,⟨f,λn own o q=>(by obtain(⟨a,d,aa,af,aJ⟩):=hf n own o q;exact⟨a,d,aa,cL.pin (g:=g.pin b) (dP:=g.dP) af,aJ⟩)⟩,H.len,H.facts,h.trans H.ghost⟩,H.os,H.loc⟩
theorem aef{o:Out di}(h:d5 o=ae):∃st,o=.ok (.ret (.c (.bool ae))) st:=cN h λp e h=>cN h λv bf h=>cN h λx cB h=>cN h λb iM h=>⟨p.2,by exact G (t7 e) (G (RB bf) (G (x2 cB) (G (Wa iM) (G (show b=ae from h) rfl))))⟩
theorem mG{x:Go}(a6:Good g)(aw:g.K=X.K)(U:c.Ok g 2)(V:cc c (lax X.K) env b1)(f9:fu (g.pin b1) h3)(H:Sat g c x.st b1 s)(run:d5 (cO X.K h3 x)=ae)(aq:gn X g c env at_ c6 Q):
  dW g c (cF ((ea X.K).drop 3) env) Q E s:=by have fx:=a6.pin (β:=b1);obtain aj:=(o2 fx.ok fx.lay fx.raise f9 300).xs c (lax X.K) env b1 ((ea X.K).drop 3) U.pin V b1 x.st s (.refl _) H.pin;rw[show(g.pin b1).K=X.K from aw] at aj;unfold At at aj;refine bG (aef run) λbk q=>?_;replace q:((ep X.K h3 300).xs (lax X.K) ((ea X.K).drop 3)) x.st=_:=q;rw[q] at aj;refine aj Q E λeK ao av l S R=>?_;(refine aS R λy J r=>?_;try clear R;subst J);obtain r:y=.bool true:=r;subst r;exact aq.T ao S.keep S.os
set_option tactic.hygienic true in
theorem ub{x:Go}{d:il}(T:bP X p g c β s env fn aP at_ N)(l:β.le b1)(f9:fu (g.pin b1) h3)(H:Sat g c x.st b1 s)(run:gg (cO X.K h3 x) d=ae)(aq:gn X g c env at_ c6 Q)(et:β.ad[9]? =C c6)(br:g.S+dR<=9000)
  (cQ:ch∈bC)(rN:d.nm.val b1=C [ch])(e1:a0 aP (aQ [ch])=none)
  (holds:∀x:ag×Nat,x∈d.olds->∃c L,x.1.val b1=C [c]/\b1.ad[x.2]? =C L/\a0 fn (aQ [c])=C (.ref L.1)/\a0 aP (aQ [c])≠none)(HH:d.nums=[]\/(d.nums=[jj 1 "_1"]/\1<=d.more)\/(d.nums=[tq 1 "_1",jj 1 "_2"]/\1<=d.more))
  (Ht:∀aY bq eL er L h4,b1.le aY->df bq d.e (pull d.fI aY)->e7 d.fI (pull d.fI aY) aY->(pull d.fI aY).ad[d.L]? =C L->(pull d.fI aY).ad[d.T]? =C h4->a0 eL (aQ [ch])=C (.ref L.1)->a0 er (aQ [ch])=C (.ref h4.1)->
   (∀c,a0 aP (aQ [c])≠none->a0 eL (aQ [c])=a0 fn (aQ [c])/\a0 er (aQ [c])=a0 aP (aQ [c]))->Entry bq X.root X.fr X.ga eL er ch):
  dW g c (cF ((ea X.K).drop 3) env) Q E s:=by
 have fx:=T.good.pin (β:=b1);obtain aj:=(o2 fx.ok fx.lay fx.raise f9 300).xs c (lax X.K) env b1 ((ea X.K).drop 3) T.cp.pin (T.env.le l) b1 x.st s (.refl _) H.pin;rw[show(g.pin b1).K=X.K from T.k] at aj;unfold At at aj;unfold gg cO at run;refine aS (zu run) λbk q run=>?_;rw[q] at aj;simp only[ew] at run;(refine a3 run λJ Dp=>?_;try clear run;refine a3 J λbT hx=>?_;try clear J;refine a3 bT λda dA=>?_;try clear bT);refine aj Q E λeK ao aY a_ S R=>?_;obtain rfl:=R;obtain S:=S.wI H.ghost;obtain(⟨bq,bI,eL,er,av,bW,up,ez,GU,ar,y,cH,cX⟩):=agp T (l.trans a_) S da dA hx Dp br cQ (ag.hy a_ rN) e1 (λx ak=>(ig (holds x ak) λc L a1 a2 cj c9=>(i3 c L (ag.hy a_ a1) (a4 a_.ad a2) cj c9))) HH
  λbq eL er L h4=>Ht aY bq eL er L h4 a_
 rw[et] at cX;(obtain J:=aT cX;clear cX;subst J);exact aq.N ao bq bI av eL er _ bW up ez GU ar cH
end
section
theorem P7{p:bz}(h:β.aj[k]? =C ch):ag.val β [.lit p,.chr k]=C (p++ [ch]):=
 ag.eN.mpr (d1 p [ch] rfl (Bh h) rfl)
theorem mu(h:β.aj[k]? =C ch):ag.val β (hq k)=C [103,ch]:=P7 h
theorem tw(h:β.aj[k]? =C ch):ag.val β (bb k)=C [104,ch]:=P7 h
theorem b9(h:β.aj[k]? =C ch):ag.val β [.chr k]=C [ch]:=Bh h
theorem C4{p:bz}(h:β.aC[1]? =C N)(r:bz):ag.val β [.lit p,.dec (.aL 1 ai 1),.lit r]=C (p++eR (1+N)++r):=DJ h
theorem Mj:(β.app k ax).aC[β.aC.length+j]? =ax.aC[j]? :=by show(β.aC++ax.aC)[_]? =_;(refine G (pH (gs _ _)) ?_;exact G (DS _ _) rfl)
theorem adt{ar:List ag}{l:bz}(h:bK (λe c=>ag.val β e=C [c]) ar l):(ar.map λe=>Bg (ag.val β e))=l:=by
 induction h with
 |nil=>rfl
 |cons h _ bF=>(refine G j2 (G h (G bF ?_)));rfl
theorem e3{l:bz}(h:bK (λe c=>ag.val β e=C [c]) ah.aj l):(pull ah β).aj=l:=adt h
end
noncomputable def vN:ag:=[.chr 0]
variable{L:aF×aF}
section
variable{X:gD}{c:bc}{s:aM}
theorem MB:cs "_1"=95:: [49]:=by kernel_rfl
theorem Wd:cs "_2"=95:: [50]:=by kernel_rfl
theorem bP.nr(T:bP X p g c β s env fn aP at_ N)(h:b1.aj[k]? =C ch):∃l,ag.val b1 (hq k)=C l/\a0 fn (aQ l)=none:=(bh _ (mu h) (hU.two T.keys (aR rfl)))
theorem bP.cM(T:bP X p g c β s env fn aP at_ N)(h:b1.aj[k]? =C ch):∃l,ag.val b1 (bb k)=C l/\a0 fn (aQ l)=none:=(bh _ (tw h) (hU.two T.keys (aR rfl)))
theorem bP.tZ(T:bP X p g c β s env fn aP at_ N)(h:b1.aj[k]? =C ch)(aN:a0 aP (aQ [ch])=none):∃l,ag.val b1 [.chr k]=C l/\a0 fn (aQ l)=none:=(bh _ (b9 h) (hU.one T.keys aN))
theorem bP.g8(h:b1.aj[k]? =C ch)(aN:a0 aP (aQ [ch])=none):∃l,ag.val b1 [.chr k]=C l/\a0 aP (aQ l)=none:=(bh _ (b9 h) aN)
theorem bP.wa(T:bP X p g c β s env fn aP at_ N)(h:b1.aC[1]? =C N):∃l,ag.val b1 (jj 1 "_1")=C l/\a0 fn (aQ l)=none:=(bh _ (C4 h _) (G MB (hU.num T.keys (.inl rfl) (by lia) T.m2)))
theorem bP.wb(T:bP X p g c β s env fn aP at_ N)(h:b1.aC[1]? =C N):∃l,ag.val b1 (jj 1 "_2")=C l/\a0 fn (aQ l)=none:=(bh _ (C4 h _) (G Wd (hU.num T.keys (.inl rfl) (by lia) T.m2)))
theorem bP.v8(T:bP X p g c β s env fn aP at_ N)(h:b1.aC[1]? =C N):∃l,ag.val b1 (tq 1 "_1")=C l/\a0 fn (aQ l)=none:=(bh _ (C4 h _) (G MB (hU.num T.keys (.inr rfl) (by lia) T.m2)))
theorem bP.ie(T:bP X p g c β s env fn aP at_ N)(h:b1.aj[k]? =C ch)(bb:ch∈bC):∃l,ag.val b1 [.chr k]=C l/\a0 X.r6 (aQ l)=none:=(bh _ (b9 h) (T.gens.Vy bb))
theorem bP.v9(T:bP X p g c β s env fn aP at_ N)(h:b1.aC[1]? =C N):∃l,ag.val b1 (tq 1 "_1")=C l/\a0 X.r6 (aQ l)=none:=(bh _ (C4 h _) (by
 obtain jM:cs "f__"=[102,95,95]:=by kernel_rfl
 exact G jM (T.gens.absent (λt e=>by simp at e) (λt e=>by simp at e) (λt e=>by simp at e))))
theorem bP.v_(T:bP X p g c β s env fn aP at_ N):∃l,ag.val b1 (dc "f")=C l/\a0 X.r6 (aQ l)=none:=by
 obtain jM:cs (bO "f")=[102]:=by kernel_rfl
 exact(bh (cs (bO "f")) (ag.eN.mpr (d1 _ [] rfl rfl (by simp))) (G jM (T.gens.absent (λt e=>by simp at e) (λt e=>by simp at e) (λt e=>by simp at e))))
theorem CA(x:String):ag.val b1 (dc x)=C (cs (bO x)):=ag.eN.mpr (d1 _ [] rfl rfl (by simp))
theorem bP.QO(T:bP X p g c β s env fn aP at_ N):∃l,ag.val b1 (dc "none")=C l/\a0 X.r6 (aQ l)=none:=by
 obtain jM:cs (bO "none")=[110,111,110,101]:=by kernel_rfl
 exact(bh _ (CA _) (G jM (T.gens.absent (λt e=>by simp at e) (λt e=>by simp at e) (λt e=>by simp at e))))
theorem bP.QN(T:bP X p g c β s env fn aP at_ N):∃l,ag.val b1 (dc "none")=C l/\a0 fn (aQ l)=none:=(bh _ (CA _) (hU.none T.keys))
theorem fs(h:∀x:ag,x∈abs->∃l,x.val b1=C l/\a0 ay (aQ l)=none):pV b1 ay [] abs:=⟨(bh [] .nil .nil),h⟩
theorem i0{k:ag}{l:bz}(aa:k.val b1=C l)(af:b1.ad[n]? =C L)(aJ:a0 ay (aQ l)=C (.ref L.1))(h:∀x:ag,x∈abs->∃l,x.val b1=C l/\a0 ay (aQ l)=none):pV b1 ay [(k,aI n)] abs:=
 ⟨(bh [(l,.ref L.1)] (.cons (fi aa ⟨L.1,L.2,af,rfl⟩ aJ) .nil) (by simp)),h⟩
theorem pq{k eF:ag}{tW:Nat}{l a_:bz}{gP:aF×aF}(aa:k.val b1=C l)(af:b1.ad[n]? =C L)(aJ:a0 ay (aQ l)=C (.ref L.1))(yi:eF.val b1=C a_)(Y1:b1.ad[tW]? =C gP)(Y3:a0 ay (aQ a_)=C (.ref gP.1))(ne:l≠a_)
  (h:∀x:ag,x∈abs->∃l,x.val b1=C l/\a0 ay (aQ l)=none):pV b1 ay [(k,aI n),(eF,aI tW)] abs:=
 ⟨(bh [(l,.ref L.1),(a_,.ref gP.1)] (.cons (fi aa ⟨L.1,L.2,af,rfl⟩ aJ) (.cons (fi yi ⟨gP.1,gP.2,Y1,rfl⟩ Y3) .nil)) (by simpa using ne)),h⟩
theorem all_nil{q:ag->Prop}:∀x∈([]:List ag),q x:=λx h=>(nomatch h)
theorem all_cons{q:ag->Prop}{a:ag}{l:List ag}(h:q a)(r:∀x∈l,q x):∀x∈a::l,q x:=λx ak=>by
 rcases dg.mp ak with rfl|ak
 .exact h
 .exact r x ak
theorem Entry.ey{fr:aF×aF}(E:Entry g qF fr ga fn aP ch)(aB:∀a o ay old,g.h₀.get? a=C o->o.IsDictOf (strKind g.prog g.w) ay->g.base a=C old->ay=old):
  ∃ax L,df g kv ax/\ax.aj=[ch]/\ax.ad[0]? =C L/\a0 fn (aQ [ch])=C (.ref L.1):=by
 cases E with
 |A ax L T bt aj r f l t dJ d7 c4=>obtain this:=bt.pick (cq:=kv) (ah:=⟨[2,4],[],[vN],[]⟩) (by kernel_rfl) (aR rfl) (by kernel_rfl) aB;exact(i3 _ L this.1 (e3 (.cons (b9 (k:=0) (G aj rfl)) .nil)) (dz rfl l) d7)
 |B m w hm hw ax L T bt aj r f ge l t dJ e_ d7 c4=>
  obtain this:df g kv (pull ⟨[3,5],[],[vN],[]⟩ ax):=by
   (refine a3 hm λaa af=>?_;try clear hm);rcases m with _|_|_|_|_|m
   .exact absurd (by assumption) (qR _)
   all_goals first|exact(bt.pick (cq:=kv) (by kernel_rfl) (aR rfl) (by kernel_rfl) aB).1|lia
  exact(i3 _ L this (e3 (.cons (b9 (k:=0) (G aj rfl)) .nil)) (dz rfl l) d7)
 |U mn w ax L T gP bt aj r f l t a_ dJ hw e_ d7 c4 nH kk=>obtain this:=bt.pick (cq:=kv) (ah:=⟨[3,5],[],[vN],[]⟩) (by kernel_rfl) (aR rfl) (by kernel_rfl) aB;exact(i3 _ L this.1 (e3 (.cons (b9 (k:=0) (G aj rfl)) .nil)) (dz rfl l) d7)
end
section
variable{fr:aF×aF}
noncomputable def sP(g:cy):Prop:=∀a o ay old,g.h₀.get? a=C o->o.IsDictOf (strKind g.prog g.w) ay->g.base a=C old->ay=old
noncomputable def xF:List ag:=[[.any 0]]
theorem df.zD{m:Nat}{cq:b4}(hm:1<=m/\m<=4)(bt:df g (gO m) ax)(aB:sP g)(h:(zU ah (gO 1) cq&&zU ah (gO 2) cq&&zU ah (gO 3) cq&&zU ah (gO 4) cq)=ae):df g cq (pull ah ax):=by
 simp only[ew] at h;(refine a3 h λJ bl=>?_;try clear h;refine a3 J λbT aJ=>?_;try clear J;refine a3 bT λaa af=>?_;try clear bT);(refine a3 hm λdS cE=>?_;try clear hm);rcases m with _|_|_|_|_|m
 .exact absurd (by assumption) (qR _)
 .exact(bt.pick (by kernel_rfl) (aR rfl) aa aB).1
 .exact(bt.pick (by kernel_rfl) (aR rfl) af aB).1
 .exact(bt.pick (by kernel_rfl) (aR rfl) aJ aB).1
 .exact(bt.pick (by kernel_rfl) (aR rfl) bl aB).1
 .lia
theorem Entry.NN(E:Entry g qF fr ga fn aP ch)(aB:sP g):∃ax L,df g rb ax/\ax.aj=[ch]/\ax.ad[0]? =C L/\a0 fn (aQ [ch])=C (.ref L.1):=by
 cases E with
 |A ax L T bt aj r f l t dJ d7 c4=>obtain this:=bt.pick (cq:=rb) (ah:=⟨[2,4,1,5],[],[vN],xF⟩) (by kernel_rfl) (aR rfl) (by kernel_rfl) aB;exact(i3 _ L this.1 (e3 (.cons (b9 (k:=0) (G aj rfl)) .nil)) (dz rfl l) d7)
 |B m w hm hw ax L T bt aj r f ge l t dJ e_ d7 c4=>obtain this:=bt.zD (cq:=rb) (ah:=⟨[3,5,6,8],[],[vN],xF⟩) hm aB (by kernel_rfl);exact(i3 _ L this (e3 (.cons (b9 (k:=0) (G aj rfl)) .nil)) (dz rfl l) d7)
 |U mn w ax L T gP bt aj r f l t a_ dJ hw e_ d7 c4 nH kk=>obtain this:=bt.pick (cq:=rb) (ah:=⟨[3,5,6,8],[],[vN],xF⟩) (by kernel_rfl) (aR rfl) (by kernel_rfl) aB;exact(i3 _ L this.1 (e3 (.cons (b9 (k:=0) (G aj rfl)) .nil)) (dz rfl l) d7)
end
theorem bK.get'{β:Type}{R:aV->β->Prop}{l:List aV}{m:List β}(h:bK R l m):∀{i:Nat}{b:β},m[i]? =C b->∃a,l[i]? =C a/\R a b:=by
 induction h with
 |nil=>exact λh=>nomatch h
 |cons r _ bF=>
  intro i b h;induction i using hD with
  |zero=>(obtain J:=aT h;clear h;subst J);exact(bh _ rfl r)
  |succ i=>exact bF (i:=i) h
theorem df.bounds{e:b4}(bt:df g e β){au:List b5}(h:bK (hb g.S) au β.aC):df g {e with au:=au} β:=⟨bt.objs,bt.len,⟨h,bt.facts.aj,bt.facts.cd,bt.facts.de,bt.facts.ck⟩⟩
noncomputable def L8(aG:fc)(sc:pG)(dep:Nat)(body:List eO)(f6:MI.Loc):M V:=(kR f6 (aG.xs ⟨sc,[],dep+1⟩ body)).bind λ
 |.ret v=>M.pure v
 |.next=>M.pure nF
 |_=>fail 92
theorem Qc{l:List (aO×aV)}(e9:(l.map (·.1)).Nodup):l.reverse.lookup x=l.lookup x:=by
 induction l with
 |nil=>rfl
 |cons p r bF=>
  obtain(⟨y,v⟩):=p;rw[j2,jD] at e9;(refine G KQ (G List.lookup_append (G nQ (G (bF e9.2) ?_))));by_cases h:x=y
  .subst h;obtain this:r.lookup x=none:=by
    generalize q:r.lookup x=aD;induction aD using b3 with
    |none=>rfl
    |some v=>exact absurd (kU (f:=(·.1)) (mem_of_lookup q)) e9.1
   refine G this ?_;simp
  .have:(x==y)=false:=beq_eq_false_iff_ne.mpr h;refine G this ?_;cases q:r.lookup x<;>simp[nQ,this,q]
variable{names:List aO}
section
variable{c:bc}
theorem L7{m:M di}(O:g.Ok)(U:c.Ok g dep){a:aF}{wQ:List az}(bw:g.K.lookup a=C ⟨bE,fZ,.func fd,gb⟩)(aB:fd.body=.stmts body)
  (bu:fd.scope.kind=.function)(c3:fd.scope.isGenerator=ai)(fL:fd.scope.isCoroutine=ai)(rL:codeIn g.K fd.code fd.qualname=ae)(dN:dep<300)(tD:fd.globals=ik)(qg:fd.builtins=nI)(lr:∀x∈fd.scope.names,x.2≠.cell)
  (aX:names.length=aH.length)(aN:names.Nodup)(yu:∀x∈names,fd.scope.names.lookup x=C .local)(Hk:∀s:aM,(∀a o,g.h₀.get? a=C o->s.heap.get? a=C o)->BindsTo s fd ⟨wQ,[]⟩ (names.zip aH))(R:bK (a7 β) aK aH)
  (hm:∀bI cJ av,bI.Ok g (dep+1)->cc bI ⟨fd.scope,[],dep+1⟩ cJ av->β.le av->(∀x,cJ.kindOf x=fd.scope.names.lookup x)->cS g bI av m (dW g bI (cF body cJ)) eJ):
  cS g c β ((kR (names.zip aK) m).bind λ
   |.ret v=>M.pure v
   |.next=>M.pure nF
   |_=>fail 92) (jG g c (.ref a) wQ) a7:=by
 intro aW st s aa H;obtain R:=R.imp λI I x=>x.le aa;have BQ:=U.depth;obtain HU:=U.units;let L:=s.heap.objs.size;let cJ:=callEnv fd L a;let binds:=names.zip aH;obtain rx:(binds.map (·.1)).Nodup:=by show((names.zip aH).map (·.1)).Nodup;exact G (pK (eP (by assumption))) aN
 refine At.wL (aG:=λbg=>∃h₀,bg={s with heap:=h₀,toks:=s.toks+binds.length}/\h₀.Ns L (λx=>binds.reverse.lookup x)/\∀b o,s.heap.get? b=C o->h₀.get? b=C o)
  (m8:=λQ E bg=>a5 g.M (c.A.deeper cJ) (cF body cJ) (λf ao=>Q (match f with|.ret v=>v|_=>.none) ao) (λe ao=>a5 g.M (c.A.deeper cJ) (uK cJ e) (λI fa=>E e fa) (λcq fa=>E cq fa) ao) bg) (λbg bL=>?_) λQ E la=>?_
 ·(refine eH bL λaA J ei keep=>?_;try clear bL;subst J);refine mD H.loc.obj λfS qa tg hi jv mw oa=>?_;let bI:=c.enter L fS (cJ::c.fr) (c.A.deeper cJ);have ek:bI.Ok g (dep+1):=U.enter H hi jv (dO _) (by show c.A.frames.map _=_;exact G U.frames rfl) (λenv he=>by
   rcases dg.mp he with rfl|he
   .exact .inr ⟨by show fd.scope.kind≠.module;refine G bu ?_;simp,rfl⟩
   .exact .inl he) (by show c.A.depth+1<=_;lia) (by show c.A.units+3<=_;lia) (bU (by assumption) (bA rfl)) (λh=>U.calm (kp (by assumption)))
  have gY:cc bI ⟨fd.scope,[],dep+1⟩ cJ aW:=⟨rfl,bu,tD,qg,rfl,(λx n e=>by exact bM e),(gi cJ c.fr rfl rfl),bc.oT H hi (dO _)⟩;obtain eE:Sat g bI {st with loc:=names.zip aK} aW {s with heap:=aA,toks:=s.toks+binds.length}:=H.enter U hi keep (dO _) ⟨_,ei,λx v e=>by obtain this:=BH (x:=x) (ns:=names) R;rw[show({st with loc:=names.zip aK}:St).loc=names.zip aK from rfl] at e;rw[e] at this;(refine aS this λy bS hR=>?_;try clear this);exact(bh y ((Qc rx).trans bS) hR)⟩
  obtain run:=hm bI cJ aW ek gY aa (λx=>rfl) aW _ _ (.refl _) eE;obtain H_:=At.within (F:=λE e ao=>a5 g.M (c.A.deeper cJ) (uK cJ e) (λI fa=>E e fa) (λcq fa=>E cq fa) ao) run jv mw oa (λE e ao bk av F aq=>PV ek gY.frame F aq);refine(H_.bind (k:=λ(f:fH)=>λ(Q:az->aM->Prop) I ao=>Q (match f with|.ret v=>v|_=>xc) ao) λav eK f bk ao l fv S=>?_).of λQ E k=>k;induction eK using MI.di.casesOn with
  |next=>obtain rfl:=fv;exact .ret λQ E aq=>aq _ _ av (.refl _) S rfl
  |ret v=>(refine aS fv λy J hR=>?_;try clear fv;subst J);exact .ret λQ E aq=>aq _ _ av (.refl _) S hR
  |brk=>exact .fail
  |cont=>exact .fail
 .refine codeAny_call_def (binds:=binds) (by show c.A.depth<1000;lia) (H.toSatO.fl U O _ _ bw) rfl (H.toSatO.top U O).nolimit (Eo (H.toSatO.fl U O) rL) aB (Hk s (H.toSatO.h₀ U)) lr (λx ak=>yu x.1 (by obtain this:=kU (f:=(·.1)) ak;rwa [pK (eP (by assumption))] at this)) (λh₀ ei keep=>?_) fL c3 bu
  refine d4 (la _ (fT h₀ rfl ei keep)) (λf ao k=>?_) λe ao k=>k;exact k
theorem VA(O:g.Ok)(ba:dV g aG)(U:c.Ok g dep){a:aF}{wQ:List az}(bw:g.K.lookup a=C ⟨bE,fZ,.func fd,gb⟩)(aB:fd.body=.stmts body)
  (bu:fd.scope.kind=.function)(c3:fd.scope.isGenerator=ai)(fL:fd.scope.isCoroutine=ai)(rL:codeIn g.K fd.code fd.qualname=ae)(dN:dep<300)(tD:fd.globals=ik)(qg:fd.builtins=nI)(lr:∀x∈fd.scope.names,x.2≠.cell)
  (aX:names.length=aH.length)(aN:names.Nodup)(yu:∀x∈names,fd.scope.names.lookup x=C .local)(Hk:∀s:aM,(∀a o,g.h₀.get? a=C o->s.heap.get? a=C o)->BindsTo s fd ⟨wQ,[]⟩ (names.zip aH))(R:bK (a7 β) aK aH):
  cS g c β (L8 aG fd.scope dep body (names.zip aK)) (jG g c (.ref a) wQ) a7:=
 L7 O U bw aB bu c3 fL rL dN tD qg lr aX aN yu Hk R λbI cJ av ek gY I I=>ba.xs bI ⟨fd.scope,[],dep+1⟩ cJ av body ek gY
end
variable{rest:List az}
section
open PySem.Sem (wp)
section
variable{g:Array GenState}{d:Drawn}{os:OsState}
variable{q:aO}{N:aF}{bs bm:List az}{tx:Bool}{sn:List aO}{sub:List az}{mj:Bool}{col:Option Bool}{oQ:Option aF}{bD bu c3 fL hY:Option az}{newId H6 sJ:String}{FV:List az}
theorem Yf(hG:As sJ newId H6 FV)(g4:bm.contains (.type sJ)=ae)(ix:bm.contains (.type "AttributeError")=ai)(j_:bm.contains (.type "NameError")=ai)
  (f7:h.get? U=C (uH nm q U N bs bm tx sn sub mj col oQ bD bu c3 fL hY newId))
  (aq:R (.ok (.ret (.ref (h.objs.size+1)))) ⟨(h.push {cls:=.type "tuple",data:=.seq rest.toArray}).push
   {cls:=.ref U,data:=.fields #[.ref h.objs.size,.none,.none,.none,.bool ai,.none]},g,d,t,os⟩)(qm:rest.length<=oz):
  ft (c8 prog w) A (.builtin newId ⟨.ref U::rest,[]⟩) R ⟨h,g,d,t,os⟩:=by
 obtain ahQ:=hG.ends;obtain yq:(lE U::bm).contains (.type sJ)=true:=by(refine G Ah (G g4 ?_);exact G (Le _) rfl)
 obtain Zn:(lE U::bm).contains (.type "AttributeError")=false:=by(refine G Ah (G ix ?_));rfl
 obtain Zp:(lE U::bm).contains (.type "NameError")=false:=by(refine G Ah (G j_ ?_));rfl
 refine codeAny_builtinAt hG.entry ?_;unfold Builtin.«BaseException.__new__»;refine wpAt_bind ?_;show wpAt _ _ _ (stack>>=_) _ _ _;refine wpAt_bind (wpAt_stack λp below=>wpAt_of_wpAny ?_)
 wp_walk
 refine wpAt_of_wpAny (G hG.owner ?_)
 repeat (first|with_reducible refine wpAny_madeHere_exc hG.canon f7 ?_|with_reducible refine wpAny_loadPart_at f7 ?_|(with_reducible refine wpAny_isSubtype_exc f7 ?_;first|rewrite[yq]|rewrite[Zn]|rewrite[Zp])|wp_step)
 show R _ _;rw[D7];exact aq
theorem Yh(hG:As sJ newId H6 FV)(g4:bm.contains (.type sJ)=ae)(ix:bm.contains (.type "AttributeError")=ai)(j_:bm.contains (.type "NameError")=ai){tl:aF}{zv:cY}{Q:Fin->aM->Prop}
  (f7:h.get? U=C (uH nm q U N bs bm tx sn sub mj col oQ bD bu c3 fL hY newId))(gw:Looks (c8 prog w) h (Em (.ref U) "__init__") (C (.ref tl)))
  (Hu:h.get? tl=C zv)(Hv:zv.cls=.type "function")
  (aq:∀aA e,Heap.MadeExcOf h aA e (.ref U) rest->e=h.objs.size+1->
   a5 (c8 prog w) A (gc (.ref tl) (.ref e::rest)) (λr ao=>r=.none/\Q (.done (.ret (.ref e))) ao) E ⟨aA,g,d,t,os⟩)(qm:rest.length<=oz):
  a5 (c8 prog w) A (Builtin.«type.__call__» ⟨.ref U::rest,[]⟩) Q E ⟨h,g,d,t,os⟩:=by
 repeat (first|with_reducible refine wpAny_loadPart_at f7 ?_|with_reducible refine wpAny_madeBy_exc f7 ?_|wp_step)
 refine codeAny_call_builtin_code (Code.quiet_builtin _ hG.quiet) (wpAny_check_new_subU (bmB:=bm) hG g4 .base f7 (Yf hG g4 ix j_ f7 ?_ qm));show a5 _ _ _ _ _ _;obtain Y5:=f5 {cls:=.ref U,data:=.fields #[.ref h.objs.size,.none,.none,.none,.bool ai,.none]}
  (f5 {cls:=.type "tuple",data:=.seq rest.toArray} f7)
 obtain ZH:=f5 {cls:=.ref U,data:=.fields #[.ref h.objs.size,.none,.none,.none,.bool ai,.none]}
  (f5 {cls:=.type "tuple",data:=.seq rest.toArray} Hu)
 have OT:((h.push {cls:=.type "tuple",data:=.seq rest.toArray}).push
   {cls:=.ref U,data:=.fields #[.ref h.objs.size,.none,.none,.none,.bool ai,.none]}).get? (h.objs.size+1)=C
   {cls:=.ref U,data:=.fields #[.ref h.objs.size,.none,.none,.none,.bool ai,.none]}:=by heap_get
 obtain Zo:(lE U::bm).contains (.ref U)=true:=by simp
 unfold isInstance
 repeat (first|with_reducible refine wpAny_loadPart_at OT ?_|(with_reducible refine wpAny_isSubtype_exc Y5 (G Zo ?_))|wp_step)
 show a5 _ _ (Em (.ref U) _) _ _ _;refine gw _ _ _ _ (λb o e=>f5 _ (f5 _ e)) ?_;refine iI (b2 ?_);unfold bindSpecial;refine b2 (wpAny_typeOf (T:="function") ⟨_,ZH,Hv⟩ (G (if_pos (by exact rfl)) (d3 (b2 (d4 (aq _ (h.objs.size+1) ⟨λb o aB=>f5 _ (f5 _ aB),TC (Lm _),h.objs.size,OT,TC (dO _),?_⟩ rfl) (λr ao cb=>?_) λI I x=>x)))))
 .exact f5 _ (Heap.get?_push_at rfl rfl)
 ·(refine a3 cb λJ Y9=>?_;try clear cb;subst J)
  wp_walk
  exact Y9
theorem Yc(hG:As sJ newId H6 FV)(g4:bm.contains (.type sJ)=ae)(ix:bm.contains (.type "AttributeError")=ai)(j_:bm.contains (.type "NameError")=ai){tl:aF}{zv:cY}{Q:az->aM->Prop}
  (f7:h.get? U=C (uH nm q U N bs bm tx sn sub mj col oQ bD bu c3 fL hY newId))(gw:Looks (c8 prog w) h (Em (.ref U) "__init__") (C (.ref tl)))
  (Hu:h.get? tl=C zv)(Hv:zv.cls=.type "function")
  (aq:∀aA e,Heap.MadeExcOf h aA e (.ref U) rest->e=h.objs.size+1->
   a5 (c8 prog w) (A.under (.builtin "type.__call__" ⟨.ref U::rest,[]⟩)) (gc (.ref tl) (.ref e::rest)) (λr ao=>r=.none/\Q (.ref e) ao) E ⟨aA,g,d,t,os⟩)(qm:rest.length<=oz):
  a5 (c8 prog w) A (gc (.ref U) rest) Q E ⟨h,g,d,t,os⟩:=by
 obtain f1:=tc_lookup;obtain f2:=tc_bind (.ref U);obtain e0:(⟨h,g,d,t,os⟩:aM).TypeIs (.ref U) "type":=⟨_,f7,rfl⟩;refine sr (Ap ?_);show a5 _ _ (callAny (.ref U) _) _ _ _
 repeat (any_goals (first|assumption|with_reducible refine wpAny_loadPart_at f7 ?_|wp_step))
 refine⟨rfl,?_⟩;exact codeAny_call_builtin_at (Code.quiet_builtin _ (by kernel_rfl)) entry_typeCall (wpAny_check_type_call_sub f7 (Yh (qm:=qm) hG g4 ix j_ f7 gw Hu Hv λaA e hm he=>aq aA e hm he))
theorem Yg{s:aM}{e:aF}{iL a2 cj c9 dQ:az}(Zl:bm.contains (.type "BaseException")=ae)(hr:A.handled=none)
  (f7:s.heap.get? U=C (uH nm q U N bs bm tx sn sub mj col oQ bD bu c3 fL hY newId))(he:s.heap.get? e=C {cls:=.ref U,dict:=fZ,data:=.fields #[iL,.none,a2,cj,c9,dQ],slots:=gb})(yn:E (.ref e) s):
  a5 (c8 prog w) A (nK env (C (pure (.ref e))) none) Q E s:=by
 have yq:(lE U::bm).contains (.type "BaseException")=true:=by(refine G Ah (G Zl ?_);exact G (Le _) rfl)
 unfold nK;refine b2 (d3 ?_);obtain(⟨b6,g,d,cW,os⟩):=s
 repeat (first|with_reducible refine wpAny_loadPart_at he ?_|with_reducible refine wpAny_loadPart_at f7 ?_|(with_reducible refine wpAny_isSubtype_exc f7 (G yq ?_))|wp_step)
 exact wpAny_raiseNew_none hr yn
end
end
section
open PySem.Sem (wp)
open Builtin Builtin.ObjectAttr
section
variable{s:aM}{x:aF}{name:aO}{v:az}{o8:aO->Option az}
theorem adi{Q:Fin->aM->Prop}{ns:List aO}{t6:Option aF}{pf:Data}(X:K.In s.heap)(bb:clsIn K U=C cd)(Hy:cd.hasDict=ae)
  (ak:s.heap.get? x=C ⟨.ref U,t6,pf,gb⟩)(yz:∀c,pf≠.cls c)(hd:(t6=none/\∀n,o8 n=none)\/∃d,t6=C d/\d≠x/\s.heap.Ns1 d o8)
  (aq:∀aA l3 iw,(t6=C iw\/(t6=none/\s.heap.objs.size<=iw))->iw≠x->aA.get? x=C ⟨.ref U,C iw,pf,gb⟩->aA.Ns1 iw (λy=>if y=name then C v else o8 y)->(∀b f_,b≠x->b≠iw->s.heap.get? b=C f_->aA.get? b=C f_)->Q (.done (.ret .none)) {s with heap:=aA,toks:=l3})
  (hw:Within o8 ns)(rP:ns.length<=oz):a5 (c8 prog w) A.in1 (storeInOwnDict (.ref x) (.ref U) (.str name cW) name v b) Q E {s with toks:=s.toks+1}:=by
 unfold storeInOwnDict;refine b2 (d3 (b2 ?_));unfold ownDictForStores instanceDict;refine b2 (Li (s:={s with toks:=s.toks+1}) ak ?_);dsimp only;refine b2 (m:=classData U) (looks_clsIn X bb _ _ _ _ (λI I e=>e) (G Hy ?_));rcases hd with⟨rfl,Z2⟩|⟨iw,rfl,hh,ei⟩
 .refine G (if_neg (by exact sj)) ?_;dsimp only;refine G (if_neg (by simp[typeHasDict])) ?_;have tail:∀{Q:Option aF->aM->Prop}{E:az->aM->Prop}{aA:gj},(∀(rI:gj),rI.get? x=C {cls:=.ref U,dict:=C aA.objs.size,data:=pf,slots:=gb}->rI.get? aA.objs.size=C {cls:=.type "dict",data:=.dict #[]}->
    (∀b f_,b≠x->aA.get? b=C f_->rI.get? b=C f_)->Q (C aA.objs.size) {s with heap:=rI,toks:=s.toks+1})->aA.get? x=C {cls:=.ref U,dict:=none,data:=pf,slots:=gb}->
    a5 (c8 prog w) A.in1 (do
     let d <-PySem.alloc {cls:=.type "dict",data:=.dict #[]}
     update x λ(o:cY)=>{cls:=o.cls,dict:=C d,data:=o.data,slots:=o.slots}
     dictMade (.ref U) x d) Q E {s with heap:=aA,toks:=s.toks+1}:=λ{Q E aA} aw O7=>by
   have O8:(aA.push {cls:=.type "dict",data:=.dict #[]}).get? x=C {cls:=.ref U,dict:=none,data:=pf,slots:=gb}:=f5 _ O7;obtain Cb:x≠aA.objs.size:=kq (fU O7);refine b2 (wpAny_alloc' (b2 (wpAny_update' O8 (d3 (aw _ ?_ ?_ ?_)))))
   .refine DT _ O8 ?_;have tC:=(Heap.get?_some_iff.mp ak).2;cases pf<;>first|rfl|exact tC
   .exact(Heap.get?_update_ne _ _ _ _ Cb.symm).trans (Heap.get?_push_at rfl rfl)
   .exact λb f_ aB h=>(Heap.get?_update_ne _ _ _ _ aB).trans (f5 _ h)
  split
  .exact absurd rfl (yz _)
  .refine tail (aA:=s.heap) (λrI aa af aJ=>?_) ak;obtain yA:rI.Ns s.heap.objs.size (λI=>none):=⟨_,#[],_,af,rfl,λe he=>absurd he (by simp),λI=>rfl⟩;have Cb:s.heap.objs.size≠x:=(kq (fU ak)).symm;show a5 _ _ (storeInDict s.heap.objs.size (.str name cW) name v) _ _ _;unfold storeInDict newKeyGuard;refine b2 (d3 (b2 (wpAny_nsSet1 (Heap.Ns1.of_empty yA) λaA tH bL=>kf (tH.count (Ln name v Within.nil)) λacM XR XH HK Hr Hn=>b2 (K_ HK (G Hr (La (bU Hn (by(refine G uv (G K2 (G kr ?_)));exact bA rfl)))) ?_))))
   wp_walk
   refine aq aA _ s.heap.objs.size (.inr ⟨rfl,dO _⟩) Cb ((bL.2 x Cb.symm).trans aa) ?_ λb f_ aB iy h=>(bL.2 b iy).trans (aJ b f_ aB h);(refine QX tH λdn ar fm a9 bf cB GV iM=>?_;try clear tH);exact⟨dn,ar,fm,a9,bf,cB,GV,λy=>by refine G (iM y) ?_;by_cases bS:y=name<;>simp[bS,Z2]⟩
 .refine G (if_neg (by exact sj)) (d3 ?_);show a5 _ _ (storeInDict iw (.str name cW) name v) _ _ _;unfold storeInDict newKeyGuard;refine b2 (d3 (b2 (wpAny_nsSet1 ei λaA tH bL=>kf (tH.count (Ln name v hw)) λacM XR XH HK Hr Hn=>b2 (K_ HK (G Hr (La (bU Hn (G uv (w1 (by assumption)))))) ?_))))
  wp_walk
  exact aq aA _ iw (.inl rfl) hh ((bL.2 x hh.symm).trans ak) tH λb f_ aB iy h=>(bL.2 b iy).trans h
theorem N0{Q:Unit->aM->Prop}{ns:List aO}{o:cY}(X:K.In s.heap)(bb:clsIn K U=C cd)(B8:refuseLoop (.ref x) "__setattr__" cd.mro=pure ())(vC:cd.mro.contains (.type "object")=ae)
  (Hy:cd.hasDict=ae)(bL:kn K (.ref U) "__setattr__"=C (C (.builtin "object.__setattr__")))(Z5:kn K (.ref U) name=C none)
  (ak:s.heap.get? x=C o)(lU:o.cls=.ref U)(yz:∀c,o.data≠.cls c)(hd:(o.dict=none/\∀n,o8 n=none)\/∃d,o.dict=C d/\d≠x/\s.heap.Ns1 d o8)
  (aq:∀aA l3 iw,(o.dict=C iw\/(o.dict=none/\s.heap.objs.size<=iw))->iw≠x->aA.get? x=C {o with dict:=C iw}->aA.Ns1 iw (λy=>if y=name then C v else o8 y)->
   (∀b f_,b≠x->b≠iw->s.heap.get? b=C f_->aA.get? b=C f_)->Q () {s with heap:=aA,toks:=l3})
  (hw:Within o8 ns)(rP:ns.length<=oz):
  a5 (c8 prog w) A (xd (.ref x) name v) Q E s:=by
 have xy:=Tj;obtain ne:cd.mro.isEmpty=false:=by generalize q:cd.mro=aD;induction aD using es with|nil=>rw[q] at vC;exact c7 vC|cons _ _=>rfl
 have DG:Looks (c8 prog w) s.heap (typeOf (.ref x)) (.ref U):=lU▸(Looks.ld (part:=none) ak).andThen .now;obtain sub:Looks (c8 prog w) s.heap (isInstance (.ref x) (.type "object")) true:=DG.andThen (looks_mroIn X (by unfold mroIn;(refine G bb (G (Ak _ _) (G (if_neg (by exact G ne sj)) ?_));exact G vC rfl)));obtain hm:Looks (c8 prog w) s.heap (mroOf (.ref U)) cd.mro:=(looks_clsIn X bb).andThen .now;refine b2 (wpAny_mkText (b2 (b2 (b2 (DG _ _ _ _ (λI I e=>e) (Au X bL _ _ _ _ (λI I e=>e) (iI (G (Tj.slot.bind _) (b2 (d3 (b2 (sr (codeAny_call_builtin xy.slot.plain xy.entry (@check_slot (c8 prog w) _ _ {s with toks:=s.toks+1} "object.__setattr__" "object" "__setattr__" (.ref x) [.str name s.toks,v] [] _ xy.kind xy.split sub (xy.args (.ref x) (.str name s.toks) v) ?_))))))))))))));show a5 _ _ (Builtin.«object.__setattr__» ⟨[.ref x,.str name s.toks,v],[]⟩) _ _ _;(refine G (osa_eq _ _ _ _) (G (refuse_eq _ _) ?_));refine b2 (b2 (DG _ _ _ _ (λI I e=>e) (b2 (hm _ _ _ _ (λI I e=>e) (G B8 (d3 (b2 (DG _ _ _ _ (λI I e=>e) (b2 (Au X Z5 _ _ _ _ (λI I e=>e) (b2 (d3 ?_))))))))))));obtain(⟨bE,t6,pf,gb⟩):=o;subst lU;exact adi X bb Hy ak yz hd (λaA l3 iw aa af aJ bl cP=>d3 (d3 (aq aA l3 iw aa af aJ bl cP))) hw rP
end
end
section
open PySem.Sem (wp)
section
variable{M:Model}{g:Array GenState}{d:Drawn}{os:OsState}
variable{q:aO}{N e:aF}{bs bm bmB:List az}{tx:Bool}{sn:List aO}{sub:List az}{mj:Bool}{col:Option Bool}{oQ:Option aF}{bD bu c3 fL hY:Option az}{newId QG Ck B:String}
theorem Yd(F:As B QG Ck bmB)(g4:bm.contains (.type B)=ae){cf:cY}{Q:Unit->aM->Prop}
  (f7:h.get? U=C (uH nm q U N bs bm tx sn sub mj col oQ bD bu c3 fL hY newId))(he:h.get? e=C cf)(Zr:cf.cls=.ref U)(aq:Q () ⟨h,g,d,t,os⟩):
  a5 M A (checkBuiltinCall Ck ⟨.ref e::rest,[]⟩) Q E ⟨h,g,d,t,os⟩:=by
 obtain yq:(lE U::bm).contains (.type B)=true:=by(refine G Ah (G g4 ?_);exact G (Le _) rfl)
 obtain ahX:=F.noStar;simp only[checkBuiltinCall,F.initKind,F.initSplit,F.initRow]
 repeat (first|(with_reducible refine wpAny_loadPart_at he (G Zr ?_))|with_reducible refine wpAny_loadPart_at f7 ?_|(with_reducible refine wpAny_isSubtype_exc f7 (G yq ?_))|wp_step)
 refine wpAny_onRaise ?_;rw[show∀(a b:String)(n:Nat),Bind.check ⟨.positional,"*",B,.self,[⟨"args",.varPos,ai⟩]⟩ a b n (List.map (λx=>x.fst) ({pos:=lE e::rest}:Args).kw)=pure () from
  λa b n=>check_star_args _ _ _ _ _ _]
 exact d3 aq
theorem Ye(F:As B QG Ck bmB)(g4:bm.contains (.type B)=ae){t0:aF}{a1 a2 cj c9 dQ:az}{Q:az->aM->Prop}
  (f7:h.get? U=C (uH nm q U N bs bm tx sn sub mj col oQ bD bu c3 fL hY newId))(he:h.get? e=C {cls:=.ref U,dict:=fZ,data:=.fields #[.ref t0,a1,a2,cj,c9,dQ],slots:=gb})
  (aq:∀aA dC,aA.get? e=C {cls:=.ref U,dict:=fZ,data:=.fields #[.ref dC,a1,a2,cj,c9,dQ],slots:=gb}->(∀b o,b≠e->h.get? b=C o->aA.get? b=C o)->Q .none ⟨aA,g,d,t,os⟩)(qm:rest.length<=oz):
  a5 (c8 prog w) A (gc (.builtin Ck) (.ref e::rest)) Q E ⟨h,g,d,t,os⟩:=by
 refine sr (codeAny_call_builtin F.init.plain F.initEntry (Yd F g4 f7 he rfl ?_))
 wp_walk
 refine aq _ h.objs.size ?_ ?_
 .refine G (DT _ (f5 _ he) rfl) ?_;rfl
 .intro b o aB bw;refine G (Aa _ _ (km aB)) ?_;exact f5 _ bw
end
end
inductive uU(K:b7)(a:aF)(names glob:List aO)(body:List eO):Prop
 |is (bE:_) (fZ:_) (fd:_) (gb:_) (as:_) (an:_) (ds:_) (aa:K.lookup a=some ⟨bE,fZ,.func fd,gb⟩) (h0:bE=.type "function") (af:fd.params=⟨[],as,none,[],an,none,ds⟩) (aJ:as.map (·.arg)=names) (bl:fd.body=.stmts body) (cP:fd.closure=[]) (eT:fd.defaults=.none)
  (h7:fd.globals=ik) (h8:fd.builtins=nI) (et:qB fd.scope=ae) (aU:codeIn K fd.code fd.qualname=ae) (aB:∀x∈names,fd.scope.names.lookup x=C .local) (bb:∀x∈glob,fd.scope.names.lookup x=C .globalImplicit)
section
variable{s:aM}{a:aF}{glob:List aO}
theorem uU.run(F:uU K a names glob body)(aN:names.Nodup)(X:K.In s.heap)(ZX:s.heap.NoLimit)(hd:A.depth<1000)(aX:names.length=aH.length){Q:az->aM->Prop}
  (h:∀env bg m,env.scope.kind=.function->env.globals=ik->env.builtins=nI->(∀x∈names,env.kindOf x=C .local)->(∀x∈glob,env.kindOf x=C .globalImplicit)->
   (∃h cW,bg={s with heap:=h,toks:=cW})->(∀b o,s.heap.get? b=C o->bg.heap.get? b=C o)->bg.heap.Ns env.locals m->s.heap.objs.size<=env.locals->(∀x∈names,m x=(names.zip aH).lookup x)->
   a5 (c8 prog w) (A.deeper env) (cF body env) (λf ao=>Q (match f with|.ret v=>v|_=>.none) ao) (λI I=>False) bg):
  a5 (c8 prog w) A (gc (.ref a) aH) Q E s:=by
 obtain⟨bE,fZ,fd,gb,as,an,ds,aa,af,aJ,bl,cP,eT,h7,h8,et,YZ,Y0,OC,Hf⟩:=F;refine fO (zx YZ) λbu c3 fL=>?_;obtain hlen:as.length=aH.length:=by(refine G (bV aX) (G (bV bl) ?_);exact G (gB _) rfl)
 obtain rx:((names.zip aH).map (·.1)).Nodup:=by exact G (pK (eP (by assumption))) aN
 refine sr (codeAny_call_cells (binds:=names.zip aH) hd (X _ _ aa) rfl ZX (Eo X Y0) cP (G (bV bl) (A8 aJ h7 (G bl aN) hlen)) eT (λx ak=>.inl ?_) (λbg bL=>?_) fL c3 bu)
 .obtain this:=kU (f:=(·.1)) ak;rw[pK (eP (by assumption))] at this;exact OC _ this
 .have eU:∀x∈names,(callEnvC fd s.heap.objs.size a).kindOf x=C .local:=λx ak=>OC x ak;refine mC bL.toInCall.same λaA cW e=>d4 (h (callEnvC fd s.heap.objs.size a) bg _ bu h8 et eU (λx ak=>Hf x ak) (wN aA cW e) bL.toInCall.keep bL.toInCall.ns bL.toInCall.fresh λx ak=>?_) (λf ao k=>k) λI I x=>x.elim;refine G (FT (eU x ak) _ _ rx) ?_;cases(names.zip aH).lookup x<;>rfl
end
section
variable{s:aM}
theorem Pj{mq an wM:aO}{dd dx fP iV iW kM jS kg oq r1:cn}{aj tV ev DF i2:az}
  (aw:env.scope.kind=.function)(Zs:∀(Q:az->aM->Prop),Q aj s->a5 (c8 prog w) A (dK (.Name mq dd) env) Q E s)
  (Z4:∀(Q:az×List az->aM->Prop) kh,(∀cW,Q (tV,[]) {s with toks:=cW})->a5 (c8 prog w) A (su aj "__init__" kh) Q E s)
  (Zv:∀(s:aM)(args:List (Bool×hC az))(Q:az->aM->Prop),args.any (·.1)=ai->a5 (c8 prog w) A (evalArgs tV ae args []) (λa bg=>(∃cW,bg={s with toks:=cW})/\a5 (c8 prog w) A (gc tV ([]++a.pos) a.kw) Q E bg) E s->(K.In s.heap)->a5 (c8 prog w) A (sy iW tV [] args []) Q E s)
  (X:K.In s.heap)(hm:s.heap.Ns env.locals m)(eG:env.kindOf "self"=C .local)(fB:env.kindOf "text"=C .local)(qu:env.kindOf wM=C .local)
  (hP:m "self"=C ev)(ll:m "text"=C DF)(za:m wM=C i2)(b6:(wM==("__debug__":aO))=ai)(HQ:cv dx.endLine iW.line=ae)
  (h:∀cW,a5 (c8 prog w) A (gc tV [ev,DF]) (λI bg=>bg.heap.Ns env.locals m/\a5 (c8 prog w) A (xd ev an i2) (λI b0=>Q .next b0) E bg) E {s with toks:=cW}):
  a5 (c8 prog w) A (cF [.Expr (.Call (.Attribute (.Name mq dd) "__init__" dx) [.Name "self" fP,.Name "text" iV] [] iW) kM,.Assign [.Attribute (.Name "self" jS) an kg] (.Name wM oq) r1] env) Q E s:=by refine jm (wpAny_Expr_any ?_ (by unfold interactive;exact G aw rfl) rfl);refine G (MM (by rfl) HQ rfl rfl) (b2 (Zs _ (b2 (kX (b2 (iI (Z4 _ _ λcW=>Zv _ _ _ (nt rfl) (n6 rfl (kS (hE (hS aw eG hm hP (kS (hE (hS aw fB hm ll (nL ⟨⟨cW,rfl⟩,?_⟩)) (by kernel_rfl)) (nB rfl _))) (by kernel_rfl)) (nB rfl _))) X)))))));refine d4 (h cW) (λI bg dq=>?_) λI I x=>x;(refine a3 dq λvB yG=>?_;try clear dq);refine jm (KW (hE (hS aw qu vB za ?_) b6) rfl rfl);show a5 _ _ (assignAll i2 [mQ (.Attribute (.Name "self" jS) an kg) env]) _ _ _;show a5 _ _ (mQ (.Attribute (.Name "self" jS) an kg) env i2) _ _ _;rw[arm_assign_Attribute];refine b2 (iI (hE (hS aw eG vB hP (b2 (kX (b2 (iI (d4 yG (λI b0 fz=>KC (qP fz)) λI I x=>x)))))) (by kernel_rfl)))
end
structure EI(K:b7):Prop where
 MA:∃nm q N bs sn sub mj col oQ bD bu c3 fL hY,K.lookup 128=C (uH nm q 128 N bs [.ref 108,.type "Exception",.type "BaseException",.type "object"] ae sn sub mj col oQ bD bu c3 fL hY "Exception.__new__")
 init:kn K (.ref 128) "__init__"=C (C (.ref 125))
 r7:kn K (.ref 128) "__setattr__"=C (C (.builtin "object.__setattr__"))
 text:kn K (.ref 128) "text"=C none
 line:kn K (.ref 128) "line"=C none
 N5:∃dd dx fP iV iW kM jS kg oq r1,cv dx.endLine iW.line=ae/\uU K 125 ["self","line","text"] ["AdaError"] [.Expr (.Call (.Attribute (.Name "AdaError" dd) "__init__" dx) [.Name "self" fP,.Name "text" iV] [] iW) kM,.Assign [.Attribute (.Name "self" jS) "line" kg] (.Name "line" oq) r1]
 N4:∃dd dx fP iV iW kM jS kg oq r1,cv dx.endLine iW.line=ae/\uU K 105 ["self","text"] ["Exception"] [.Expr (.Call (.Attribute (.Name "Exception" dd) "__init__" dx) [.Name "self" fP,.Name "text" iV] [] iW) kM,.Assign [.Attribute (.Name "self" jS) "text" kg] (.Name "text" oq) r1]
 reads:readsIn K 108 (.type "type")=ae
 special:specialIn K (.ref 108) "__getattribute__"=C (C (.builtin "type.__getattribute__"))
 Ph:findCls K (.ref 108) (.type "type") "__init__"=C (.val (.ref 105))
 handed:handedIn (.ref 105)=ae
 L9:lH K ik "AdaError"=C (C (.ref 108))
 exc:lH K ik "Exception"=C none
 keep:sE K (.ref 105)=ae
 NZ:findCls K (.type "Exception") (.type "type") "__init__"=C (.val (.builtin "Exception.__init__"))
theorem Wc:Ar "Exception"=C (.type "Exception"):=by kernel_rfl
section
variable{s:aM}
theorem ab2{Q:az×List az->aM->Prop}(X:K.In s.heap)(yn:findCls K (.type "Exception") (.type "type") "__init__"=C (.val (.builtin "Exception.__init__")))
  (h:Q (.builtin "Exception.__init__",[]) {s with toks:=s.toks+1}):a5 (c8 prog w) A (su (.type "Exception") "__init__" kh) Q E s:=by
 have aaf:opaqueClassAbove (.type "Exception")=pure none:=by kernel_rfl
 have oH:Looks (c8 prog w) s.heap (typeOf (.type "Exception")) (.type "type"):=Looks.of_pure (by kernel_rfl);have gx:kn K (.type "type") "__getattribute__"=C (C (.builtin "type.__getattribute__")):=type_tga;unfold su specialOf;refine b2 (b2 (oH.here ((Au X gx).here ?_)));dsimp only;refine G (if_pos canon_tga) (b2 (d4 (Q:=λv=>Q (v,[])) (E:=E) ?_ (λI I z=>d3 z) λI I z=>z));have T_:Looks (c8 prog w) s.heap (opaqueClassAbove (.type "Exception")) none:=Looks.of_pure aaf;refine cls_open X T_ oH gx (looks_hook X (r:=none) (by rfl)) (by show subIn K _ _=_;rfl) yn
  (d3 (by show a5 _ _ (handedOut _) _ _ _;exact G (handedOut_of (by rfl)) (d3 h)))
theorem ab1{Q:az×List az->aM->Prop}(X:K.In s.heap)(F:EI K)
  (h:Q (.ref 105,[]) {s with toks:=s.toks+1}):a5 (c8 prog w) A (su (.ref 108) "__init__" kh) Q E s:=by exact method_cls X F.special (cls_read X F.reads F.Ph (d3 (by show a5 _ _ (handedOut _) _ _ _;exact G (handedOut_of F.handed) (d3 h))))
end
theorem C2{L:aF}(aN:h.Ns L m)(k:∀o,h.get? L=C o->aA.get? L=C o):aA.Ns L m:=by(refine wd aN λo ar fm e r=>?_;try clear aN);exact⟨o,ar,fm,k _ e,r⟩
theorem aec(g:cy)(F:EI g.K)(ZR:sE g.K (.ref 128)=ae):g.nZ:=by
 refine⟨ZR,λA env s y l t Q E hr hd cx X T yn=>?_⟩;refine acT F.MA λnm q N bs sn sub mj col oQ bD bu c3 fL hY BI=>QV F.N5 λdd dx fP iV iW kM jS kg oq r1 HQ LI=>QV F.N4 λda dA hx Dp aie aif Jt Dq aih aid aac TZ=>?_;have F:=LI;obtain(⟨bE,fZ,fd,gb,as,an,ds,ZG,rfl,_⟩):=F;obtain(⟨h,ahK,d,cW,os⟩):=s;have X:g.K.In h:=X;have T:sC g.p g.loose g.iS g.iR h:=T;obtain f7:=X _ _ BI;have hG:=PySem.F.excBase_Exception;have g4:[lE 108,.type "Exception",.type "BaseException",.type "object"].contains (.type "Exception")=true:=by kernel_rfl
 have vC:(lE 128:: [lE 108,.type "Exception",.type "BaseException",.type "object"]).contains (.type "object")=true:=by kernel_rfl
 have cd:clsIn g.K 128=C {name:=nm,bases:=bs,mro:=.ref 128:: [.ref 108,.type "Exception",.type "BaseException",.type "object"],ns:=N,qualname:=q,hasDict:=ae,slotNames:=sn,subclasses:=sub,abstract:=mj,collection:=col,hasDel:=ai}:=by unfold clsIn;exact G BI rfl
 have B8:∀e:az,refuseLoop e "__setattr__" (.ref 128:: [.ref 108,.type "Exception",.type "BaseException",.type "object"])=pure ():=λe=>by(refine G (refuseLoop_ref _ _ _ _) (G (refuseLoop_ref _ _ _ _) ?_));exact PySem.F.store_Exception.passes e
 refine Yc hG g4 (by kernel_rfl) (by kernel_rfl) f7 (Au X F.init) (X _ _ ZG) rfl (λh₀ e hm he=>?_) (by show 2<=oz;exact G kr (bA rfl));refine eH hm.there λt₀ tB I I=>?_;obtain Ux:g.K.In h₀:=X.keeps hm.keeps;obtain i8:=T.keeps hm.keeps;have big:h.objs.size<=e:=by exact G he (Lm _)
 refine LI.run (aR (by kernel_rfl)) Ux i8.nolimit (by show A.depth+1<1000;lia) rfl ?_;rintro Bt _ m₁ PC YU ahx IA abd ⟨dq,R8,rfl⟩ Cy BX G6 vB;have Cy:∀b o,h₀.get? b=C o->dq.get? b=C o:=Cy;have BX:dq.Ns Bt.locals m₁:=BX;obtain G6:h₀.objs.size<=Bt.locals:=G6;have J6:∀b o,h.get? b=C o->dq.get? b=C o:=λb o q=>Cy _ _ (hm.keeps _ _ q);have sW:=X.keeps J6;have pX:=T.keeps J6;have BV:=Cy _ _ tB;have NM:Bt.locals≠e:=λq=>absurd (fU tB) (G (bV q) (i6.mpr G6));refine Pj (K:=g.K) (mq:="AdaError") (an:="line") (wM:="line") (aj:=.ref 108) (tV:=.ref 105) (ev:=.ref e) (DF:=.str (aQ l) t) (i2:=y) PC
  (λQ aq=>l8 PC (abd _ (.head _)) (ux (G YU pX.g) (mg_of sW pX.g F.L9) aq) (by kernel_rfl))
  (λQ kh aq=>ab1 sW F (aq _)) (λs args Q aU aw X=>Ax (P:=λh=>g.K.In h) (G aU rfl) (λh X=>keeps_K F.keep h X) (d4 aw (λa bg k=>⟨by(refine a3 k λJ I=>?_;try clear k;refine bG J λcW bT=>?_;try clear J;subst bT);exact X,k.2⟩) λI I x=>x))
  sW BX (IA _ (aR rfl)) (IA _ (aR rfl)) (IA _ (aR rfl)) ((vB _ (aR rfl)).trans (by rfl)) ((vB _ (aR rfl)).trans (by rfl)) ((vB _ (aR rfl)).trans (by rfl)) (by kernel_rfl) HQ λain=>?_
 refine TZ.run (aR (by kernel_rfl)) sW pX.nolimit (by show A.depth+1+1<1000;lia) rfl ?_;rintro GR _ m₂ PD YV V7 IB abe ⟨fz,aio,rfl⟩ y1 BY G7 HF;have y1:∀b o,dq.get? b=C o->fz.get? b=C o:=y1;have BY:fz.Ns GR.locals m₂:=BY;obtain G7:dq.objs.size<=GR.locals:=G7;have J7:∀b o,h.get? b=C o->fz.get? b=C o:=λb o q=>y1 _ _ (J6 _ _ q);have sX:=X.keeps J7;have lP:=T.keeps J7;obtain ZE:=y1 _ _ BV;obtain Xw:GR.locals≠e:=λq=>absurd (fU BV) (G (bV q) (i6.mpr G7));refine Pj (K:=g.K) (mq:="Exception") (an:="text") (wM:="text") (aj:=.type "Exception") (tV:=.builtin "Exception.__init__") (ev:=.ref e) (DF:=.str (aQ l) t) (i2:=.str (aQ l) t) PD
  (λQ aq=>l8 PD (abe _ (.head _)) (ur (G YV lP.g) (uI sX lP.g F.exc) (G V7 lP.b) ((T.builtins "Exception" (aR (by kernel_rfl))).trans Wc) aq) (by kernel_rfl))
  (λQ kh aq=>ab2 sX F.NZ (aq _)) (λs args Q aU aw X=>Ao aU (d4 aw (λa bg k=>k.2) λI I x=>x))
  sX BY (IB _ (aR rfl)) (IB _ (aR rfl)) (IB _ (aR rfl)) ((HF _ (aR rfl)).trans (by rfl)) ((HF _ (aR rfl)).trans (by rfl)) ((HF _ (aR rfl)).trans (by rfl)) (by kernel_rfl) aac λaip=>?_
 refine Ye hG g4 (sX _ _ BI) ZE (λkF ais ZF Iu=>?_) (by show 1<=oz;exact G kr (bA rfl));have DH:∀b o,h.get? b=C o->kF.get? b=C o:=λb o q=>Iu _ _ (λz=>absurd (fU q) (G z (i6.mpr big))) (J7 _ _ q);obtain Uy:=X.keeps DH;refine⟨C2 BY λo q=>Iu _ _ Xw q,?_⟩;refine N0 (o8:=λI=>none) (ns:=[]) Uy cd (B8 _) vC rfl F.r7 F.text ZF rfl (λc q=>by(injection q)) (.inl ⟨rfl,λI=>rfl⟩) (λiP aiq iw OO hh OQ OX Iv=>?_) (by intro y bS;exact absurd rfl bS) (by show 0<=oz;exact l5 _);have FR:kF.objs.size<=iw:=by
  rcases OO with q|⟨_,q⟩
  .exact bM q
  .exact q
 have Sy:∀b o,h.get? b=C o->iP.get? b=C o:=λb o q=>Iv _ _ (λz=>absurd (fU q) (G z (i6.mpr big))) (λz=>absurd (fU (DH _ _ q)) (G z (i6.mpr FR))) (DH _ _ q);obtain xE:=X.keeps Sy;refine⟨?_,?_⟩
 .obtain adG:kF.Ns Bt.locals m₁:=C2 (C2 BX λo q=>y1 _ _ q) λo q=>Iu _ _ NM q;refine C2 adG λo q=>Iv _ _ NM (λz=>absurd (fU q) (G z (i6.mpr FR))) q
 .refine N0 (o8:=_) (ns:=["text"]) xE cd (B8 _) vC rfl F.r7 F.line OQ rfl (λc q=>by(injection q)) (.inr (fT iw rfl hh OX)) (λvH agb Xr OP ahV OR ahW aa8=>?_) (Ln "text" _ Within.nil) (by show 1<=oz;exact G kr (bA rfl));obtain g0:Xr=iw:=by
   rcases OP with q|⟨q,_⟩
   .exact(c0 q).symm
   .exact zH q
  (clear OP Iv OX OQ hh OO;subst g0);have Sz:∀b o,h.get? b=C o->vH.get? b=C o:=λb o q=>aa8 _ _ (λz=>absurd (fU q) (G z (i6.mpr big))) (λz=>absurd (fU (DH _ _ q)) (G z (i6.mpr FR))) (Sy _ _ q);refine⟨rfl,?_⟩;exact Yg (by kernel_rfl) hr ((X.keeps Sz) _ _ BI) OR (yn vH agb e _ _ _ Sz big OR rfl rfl rfl rfl)
structure L2(K:b7):Prop where
 fn:∃dd dx fP iV iW kM jS kg,uU K 314 ["name","number"] ["SEPARATOR","str"] [.Return (C (.BinOp (.BinOp (.Name "name" dd) .Add (.Name "SEPARATOR" dx) fP) .Add (.Call (.Name "str" iV) [.Name "number" iW] [] kM) jS)) kg]
 sep:∃t,lH K ik "SEPARATOR"=C (C (.str (aQ [35]) t))
 str:lH K ik "str"=C none
 keep:sE K (.ref 314)=ae
theorem boot_str:Ar "str"=C (.type "str"):=by kernel_rfl
theorem agw(g:cy)(F:L2 g.K):g.E2:=by
 refine⟨F.keep,λA s l t u z Q E hd X T aX h0 aa aq=>?_⟩;refine acZ F.fn λdd dx fP iV iW kM jS kg hG=>bG F.sep λcm aae=>hG.run (aR (by kernel_rfl)) X T.nolimit (jk (by assumption) (bA rfl)) rfl ?_;rintro env _ m eU gl A_ jz PJ ⟨dq,R8,rfl⟩ keep ei fresh hm;have keep:∀b o,s.heap.get? b=C o->dq.get? b=C o:=keep;have sW:=X.keeps keep;have pX:=T.keeps keep;have ei:dq.Ns env.locals m:=ei;obtain hP:m "name"=C (.str (aQ l) t):=(hm _ (aR rfl)).trans (by rfl);obtain ll:m "number"=C (.int z u):=(hm _ (aR rfl)).trans (by rfl);obtain log:z.natAbs.log2<1920:=log2_small ⟨h0,aa⟩;refine jm (uu (qU (qU (hE (hS eU (jz _ (aR rfl)) ei hP ?_) (by kernel_rfl)))));refine l8 eU (PJ _ (aR rfl)) (ux (G gl pX.g) (mg_of sW pX.g aae) ?_) (by kernel_rfl);obtain len:(eR z).length<=8:=Gn ⟨h0,aa⟩;refine Kr (λdC cW=>?_) (by show l.length+1<=_;exact G kr (jk (by assumption) (bA rfl)));refine G ((oO (λI I I h=>by(injection h))) _ _) (b2 (l8 eU (PJ _ (aR rfl)) (ur (G gl pX.g) (uI sW pX.g F.str) (G A_ pX.b) ((T.builtins "str" (aR (by kernel_rfl))).trans boot_str) ?_) (by kernel_rfl)));refine Ts (nt rfl) (n6 rfl (kS (hE (hS eU (jz _ (aR rfl)) ei ll ?_) (by kernel_rfl)) (nB rfl _)));refine nL (P.str_of_int log (Kr (λdC cW=>?_) (by
  refine G (CN _ _) ?_;show(l++ [35]).length+_<=_;(refine G kr (G iG ?_));obtain this:(bO (toString z)).length=(eR z).length:=by unfold eR;rfl
  refine G this ?_;show l.length+1+_<=_;lia)))
 obtain e:aQ l++aQ [35]++bO (toString z)=aQ (l++35::eR z):=by
  obtain this:bO (toString z)=aQ (eR z):=by unfold eR;rw[hj]
  (refine G this ?_;rw[CN,CN,nP]);rfl
 exact G e (aq dq _ dC keep)
noncomputable def zL:List Int:=[2,1,5,0,4,3,0,0,2,1,2,2,4,0,0,3,2,2,0,1,1,0,3,2,1]
noncomputable def pk(zs:List Int)(n:Nat):Int:=if n<=zs.length then zs.getD (n-1) 0 else zL.getD ((n-1)%25) 0
noncomputable def fk(zs:List Int)(n:Nat)(afB:Int):Int:=(pk zs n).fmod afB
noncomputable def Gy(p:Nat->cn):List Stmt:=[.AugAssign (.Subscript (.Name "bag" (p 0)) (.Constant (.str "at") 0 (p 1)) (p 2)) .Add (.Constant (.int 1) 0 (p 3)) (p 4),
 .If (.Compare (.Subscript (.Name "bag" (p 5)) (.Constant (.str "at") 0 (p 6)) (p 7)) [.Gt] [.Call (.Name "len" (p 8)) [.Subscript (.Name "bag" (p 9)) (.Constant (.str "cells") 0 (p 10)) (p 11)] [] (p 12)] (p 13))
  [.Return (C (.BinOp (.Subscript (.Name "_law_rest" (p 14)) (.BinOp (.BinOp (.Subscript (.Name "bag" (p 15)) (.Constant (.str "at") 0 (p 16)) (p 17)) .Sub (.Constant (.int 1) 0 (p 18)) (p 19)) .Mod (.Call (.Name "len" (p 20)) [.Name "_law_rest" (p 21)] [] (p 22)) (p 23)) (p 24)) .Mod (.Name "sides" (p 25)) (p 26))) (p 27)] [] (p 28),
 .Return (C (.BinOp (.Subscript (.Subscript (.Name "bag" (p 29)) (.Constant (.str "cells") 0 (p 30)) (p 31)) (.BinOp (.Subscript (.Name "bag" (p 32)) (.Constant (.str "at") 0 (p 33)) (p 34)) .Sub (.Constant (.int 1) 0 (p 35)) (p 36)) (p 37)) .Mod (.Name "sides" (p 38)) (p 39))) (p 40)]
variable{eI:Int}{loose:List aO}{iS iR:aO->Option az}
section
variable{s:aM}{B Cl:aF}{t pv:Tok}
theorem zI{o:bj}{gH:aO}{q:cn}{Q:az->aM->Prop}(D:s.heap.DictOf (strKind prog w) B ay)(bS:a0 ay gH=C y)(bw:∀{s:aM}{Q:az->aM->Prop},s.heap.Ns env.locals m->Q (.ref B) s->a5 (c8 prog w) A (dK o env) Q E s)(ei:s.heap.Ns env.locals m)
  (aq:∀cW,Q y {s with toks:=cW}):a5 (c8 prog w) A (dK (.Subscript o (.Constant (.str gH) 0 q) pos) env) Q E s:=by
 refine qX (bw ei (w0 ?_));have mU:({s with toks:=s.toks+1}:aM).heap.DictOf (strKind prog w) B ay:=D;obtain uc:(strKind prog w).is gH (.str gH s.toks)=true:=by obtain this:=El prog w (aQ (cs gH)) s.toks;rwa [hj] at this
 exact mM mU.mapOf.typeIs K7.lookup (D4 uc mU.mapOf bS (aq _)) (ps rfl _ _)
theorem boot_len:Ar "len"=C (.builtin "len"):=by kernel_rfl
theorem getD_ints(h:bK (λ(z:Int) y=>∃t,y=.int z t) zs aH){i:Nat}(bN:i<zs.length):∃t,aH[i]? =C (.int (zs.getD i 0) t):=by obtain(⟨y,bS,t,rfl⟩):=h.get (i5 bN);exact⟨t,by(refine G bS (G List.getD_eq_getElem?_getD ?_);refine G (i5 bN) ?_);rfl⟩
set_option maxHeartbeats 4000000 in
theorem Xp{p:Nat->cn}{h₀:gj}{P:q1}{aH:Array az}{AO:aF}{g6:Array az}{yP:Nat}{Ct:Array (Option az)}
  (X:K.In h₀)(T:sC P loose iS iR h₀)(up:∀b o,h₀.get? b=C o->s.heap.get? b=C o)(Hg:h₀.get? B=none)(hlen:lH K ik "len"=C none)(qm:lH K ik "_law_rest"=C (C (.ref AO)))(Y_:K.lookup AO=C ⟨.type "tuple",fZ,.seq g6 yP,Ct⟩)
  (hits:bK (λ(z:Int) y=>∃t,y=.int z t) zL g6.toList)(eU:env.scope.kind=.function)(gl:env.globals=ik)(A_:env.builtins=nI)(vO:env.kindOf "bag"=C .local)(ks:env.kindOf "sides"=C .local)(jz:env.kindOf "len"=C .globalImplicit)(vR:env.kindOf "_law_rest"=C .globalImplicit)
  (ei:s.heap.Ns env.locals m)(Ql:m "bag"=C (.ref B))(ms:m "sides"=C (.int eI t))(Y6:env.locals≠B)(D:s.heap.DictOf (strKind prog w) B ay)(J_:a0 ay "cells"=C (.ref Cl))(uh:a0 ay "at"=C (.int n pv))(f7:h₀.IsList Cl aH)
  (a8:bK (λ(z:Int) y=>∃t,y=.int z t) zs aH.toList)(aan:zs.length<=1000)(aN:n<=10000)(aw:ay.length<=100)(O1:eI≠0)
  (aq:∀aA cW l3 ue,aA.DictOf (strKind prog w) B (lG ay "at" (.int ((n:Int)+1) l3))->qS B s.heap aA->Q (.ret (.int (fk zs (n+1) eI) cW)) {s with heap:=aA,toks:=ue}):a5 (c8 prog w) A (cF (Gy p) env) Q E s:=by
 have uc:∀(x:aO)(t:Tok),(strKind prog w).is x (.str x t)=true:=λx t=>by obtain this:=El prog w (aQ (cs x)) t;rwa [hj] at this
 obtain key:∀(uf R7:Tok)(aA:gj),aA.DictOf (strKind prog w) B (lG ay "at" (.int ((n:Int)+1) uf))->qS B s.heap aA->a5 (c8 prog w) A (cF ((Gy p).drop 1) env) Q E {s with heap:=aA,toks:=R7}:=by
  intro uf R7 aA hd aB;have JZ:∀b o,h₀.get? b=C o->aA.get? b=C o:=λb o e=>aB.extBut b o (λz=>by rw[z,Hg] at e;exact bM e) (up b o e);have oY:aA.Ns env.locals m:=ei.extBut aB.extBut Y6;have bW:=T.keeps JZ;have xD:=X.keeps JZ;have v1:a0 (lG ay "at" (.int ((n:Int)+1) uf)) "at"=C (.int ((n:Int)+1) uf):=by refine G (nG _ _ _ _) ?_;simp
  have v2:a0 (lG ay "at" (.int ((n:Int)+1) uf)) "cells"=C (.ref Cl):=by(refine G (nG _ _ _ _) (G (if_neg (aR (by kernel_rfl))) ?_));exact J_
  have Hh:aA.IsList Cl aH:=by(refine aS f7 λo a b=>?_;try clear f7);exact⟨o,JZ _ _ a,b⟩
  have CK:zs.length=aH.size:=by obtain this:=a8.length;simpa using this
  have xN:∀{pp:cn}{ao:aM}{Q:az->aM->Prop},ao.heap.Ns env.locals m->Q (.ref B) ao->a5 (c8 prog w) A (dK (.Name "bag" pp) env) Q E ao:=λei aq=>hE (hS eU vO ei Ql aq) (by kernel_rfl);show a5 _ _ (cF (_::_) _) _ _ _;refine jm (wpAny_If (Ad (zI hd v1 xN oY λaik=>G ((oO (λI I I h=>by(injection h))) _ _) (b2 (l8 eU jz (ur (by exact G gl bW.g) (uI xD bW.g hlen) (by exact G A_ bW.b) ((bW.builtins "len" (aR (by kernel_rfl))).trans boot_len) ?_) (by kernel_rfl))))));refine Ao (nt rfl) (n6 rfl (kS (zI hd v2 xN oY λail=>?_) (nB rfl _)));refine nL (Ef (show pC _ _ _ from Hh) (by exact qp (bU (eP CK.symm) aan) (bA rfl)) (Tc (Al ?_)));by_cases Hx:(aH.size:Int)<(n:Int)+1
  ·(refine G (decide_eq_true Hx) (G (if_pos rfl) ?_));refine jm (uu (qU (qX (l8 eU vR (ux (by exact G gl bW.g) (mg_of xD bW.g qm) ?_) (by kernel_rfl)))));refine qU (qU (zI hd v1 xN oY λaf9=>nO (Ks (G ((oO (λI I I h=>by(injection h))) _ _) (b2 (l8 eU jz (ur (by exact G gl bW.g) (uI xD bW.g hlen) (by exact G A_ bW.b) ((bW.builtins "len" (aR (by kernel_rfl))).trans boot_len) ?_) (by kernel_rfl)))))));refine Ao (nt rfl) (n6 rfl (kS (l8 eU vR (ux (by exact G gl bW.g) (mg_of xD bW.g qm) ?_) (by kernel_rfl)) (nB rfl _)));refine nL ?_;have tup:IsTup aA AO g6:=⟨_,xD _ _ Y_,rfl,yP,rfl⟩;have li:g6.size=25:=by obtain this:=hits.length;rw[wW] at this;exact this.symm.trans (by exact rfl)
   refine PyProof.Rows.len_tuple (show IsTup _ _ _ from tup) (by exact qp (eP li) (bA rfl)) (Kp (by exact G li (aR rfl)) ?_);obtain a9:((n:Int)+1-1).fmod (g6.size:Int)=((n%25:Nat):Int):=by(refine G li (G (uq _ _) (G (Int.fmod_eq_emod_of_nonneg _ (aR rfl)) ?_)));exact rfl
   refine G a9 ?_;have lt:n%25<zL.length:=Nat.lt_of_lt_of_eq (Nat.mod_lt _ (aR rfl)) (by exact rfl);refine bG (getD_ints hits lt) λaga ff=>mM (T:="tuple") (by(refine eH tup λo bw bb I=>?_;try clear tup);exact⟨o,bw,bb⟩) F.slot_tuple_getitem.lookup (S2 (show IsTup _ _ _ from tup) (by exact kV _) (by exact qp (kp (Nat.mod_lt n (bA rfl))) (bA rfl)) (j:=n%25) ?_ (by refine G (bV pJ) ?_;exact ff) ?_) (ps rfl _ _)
   ·(refine G (seqIndex_of (by exact kV _) (by exact G li (jn.mpr (by assumption)))) ?_;exact G (KS _) rfl)
   .refine hE (hS eU ks oY ms ?_) (by kernel_rfl);refine Kp O1 ?_;obtain this:fk zs (n+1) eI=(zL.getD (n%25) 0).fmod eI:=by unfold fk pk;exact G (if_neg (by lia)) rfl
    exact G (bV this) (aq aA _ uf _ hd aB)
  ·(refine G (decide_eq_false Hx) (G (if_neg (by simp)) ?_));refine qP (jm (uu (qU (qX (zI hd v2 xN oY λaf9=>qU (zI hd v1 xN oY λaga=>nO (Ks (bG (getD_ints a8 (i:=n) (by exact bU (jn.mp (Av.mp Hx)) (eP CK.symm))) λaim ff=>mM (show pC _ _ _ from Hh).typeIs w3.lookup (DY (show pC _ _ _ from Hh) (by lia) (by lia) (by
    refine G (bV pJ) ?_;have:((n:Int)+1-1).toNat=n:=by exact congrArg Int.toNat (uq (n:Int) 1)
    exact G this ff) ?_) (ps rfl _ _)))))))))
   refine hE (hS eU ks oY ms ?_) (by kernel_rfl);refine Kp O1 ?_;have:fk zs (n+1) eI=(zs.getD n 0).fmod eI:=by unfold fk pk;exact G (if_pos (by lia)) rfl
   exact G (bV this) (aq aA _ uf _ hd aB)
 refine jm (Tg (hE (hS eU vO ei Ql ?_) (by kernel_rfl)));refine w0 ?_;have TU:({s with toks:=s.toks+1}:aM).heap.DictOf (strKind prog w) B ay:=D;refine D4 (uc _ _) TU.mapOf uh (nO (Ko (KU (uc _ _) (show Heap.DictOf _ _ _ _ from D) (λaA hd aB=>key _ _ aA hd aB) (nk (by exact bU (by assumption) (bA rfl))))))
end
inductive rf(K:b7)(a:aF)(names:List aO)(body:List eO)(kinds:List (aO×hl)):Prop
 |mk (bE:_) (fZ:_) (fd:_) (gb:_) (as:_) (an:_) (ds:_) (aa:K.lookup a=some ⟨bE,fZ,.func fd,gb⟩) (af:fd.params=⟨[],as,none,[],an,none,ds⟩) (aJ:as.map (·.arg)=names) (bl:fd.body=.stmts body) (cP:fd.closure=[]) (eT:fd.defaults=.none) (h7:fd.globals=mainGlobals) (h8:fd.builtins=builtinsNs) (et:qB fd.scope=true) (aU:codeIn K fd.code fd.qualname=true)
  (aB:∀x∈names,fd.scope.names.lookup x=C .local) (bb:∀x∈kinds,fd.scope.names.lookup x.1=C x.2) (hd:∀x∈fd.scope.names,x.2≠.cell)
noncomputable abbrev pW(aV:Type):=Option (aV×d0 (Bool×O)×List b5)
noncomputable def wj(st:St)(r:aV×d0 (Bool×O)×List b5):St:={st with σ:=r.2.1,au:=r.2.2}
noncomputable def lx(x:St->pW aV):M aV:=λst=>match x st with
 |some r=>.ok r.1 (wj st r)
 |none=>.fail 180
theorem YM:∀{names:List aO}{aK:List V},names.Nodup->∀{p:aO×V},p∈names.zip aK->ed p.1 (names.zip aK)=C p.2:=by
 intro names;induction names with
 |nil=>exact λI I h=>nomatch h
 |cons x r bF=>
  intro aK aN p b6;induction aK using es with
  |nil=>exact nomatch b6
  |cons v aK=>
   rw[jD] at aN;show(match eqs x p.1 with|true=>C v|false=>ed p.1 (r.zip aK))=_;rcases dg.mp b6 with e|b6
   ·(exact G e (G (gu.mpr rfl) rfl))
   .refine G (oU.mpr (λe=>aN.1 (by exact G e ((List.of_mem_zip b6).1)))) ?_;exact bF aN.2 b6
variable{kinds:List (aO×hl)}
section
variable{c:bc}
theorem Ys{a:aF}{m:M di}(O:g.Ok)(U:c.Ok g dep)(dN:dep<300)(F:rf g.K a names body kinds)(aN:names.Nodup)(R:bK (a7 β) aK aH)(aX:names.length=aH.length)
  (hm:∀bI cJ jK av,bI.Ok g (dep+1)->jK.dep=dep+1->cc bI jK cJ av->β.le av->(∀x∈names,cJ.kindOf x=C .local)->(∀x∈kinds,cJ.kindOf x.1=C x.2)->cS g bI av m (dW g bI (cF body cJ)) eJ):
  cS g c β ((kR (names.zip aK) m).bind λ
   |.ret v=>M.pure v
   |.next=>M.pure nF
   |_=>fail 92) (jG g c (.ref a) aH) a7:=by
 obtain⟨bE,fZ,fd,gb,as,an,ds,bD,bu,c3,fL,my,hY,yW,yX,yY,yZ,eV,dX,lr⟩:=F;refine fO (zx yY) λs1 s2 s3=>?_;obtain y5:as.length=aH.length:=by exact G (bV (gB (f:=(·.arg)))) (G c3 (G aX rfl))
 exact L7 O U bD fL s1 s2 s3 yZ dN yW yX lr aX aN eV (λao I=>BindsTo.of_eq (G (bV c3) (A8 bu hY (G c3 aN) y5))) R λbI cJ av ek gY l PK=>hm bI cJ _ av ek rfl gY l (λx ak=>by exact G (PK _) (eV x ak)) (λx ak=>by exact G (PK _) (dX x ak))
theorem G1{a:aF}{x:St->pW V}(O:g.Ok)(U:c.Ok g dep)(dN:dep<300)(F:rf g.K a names body kinds)(aN:names.Nodup)(R:bK (a7 β) aK aH)(aX:names.length=aH.length)
  (ak:∀st f6,x {st with loc:=f6}=x st)(hm:∀bI cJ jK av st s m r,bI.Ok g (dep+1)->cc bI jK cJ av->Sat g bI st av s->s.heap.Ns cJ.locals m->(∀p∈names.zip aK,∃y,m p.1=C y/\a7 av p.2 y)->(∀x∈names,cJ.kindOf x=C .local)->(∀x∈kinds,cJ.kindOf x.1=C x.2)->
   x st=C r->∀(Q:fH->aM->Prop)(E:az->aM->Prop),(∀y ao d9,av.le d9->Sat g bI {wj st r with loc:=[]} d9 ao->a7 d9 r.1 y->Q (.ret y) ao)->dW g bI (cF body cJ) Q E s):cS g c β (lx x) (jG g c (.ref a) aH) a7:=by
 classical
 let out:St->Out di:=λst=>match x st with|some r=>.ok (.ret r.1) {wj st r with loc:=[]}|none=>.fail 180
 let m:M di:=λst=>if∀p∈names.zip aK,ed p.1 st.loc=C p.2 then out st else .fail 180;intro aW st s aa H;refine At.same (Ys (m:=m) O U dN F aN R aX (λbI cJ jK av ek hd V l eV dX aY bk ao af oG=>?_) aW st s aa H) ?_
 .by_cases bb:∀p∈names.zip aK,ed p.1 bk.loc=C p.2
  .have em:m bk=out bk:=if_pos bb;generalize e:x bk=aD;induction aD using b3 with
   |none=>exact At.o3 (n:=180) (em.trans (by show(match x bk with|some r=>_|none=>_:Out di)=_;exact G e rfl))
   |some r=>refine At.is (em.trans (by show(match x bk with|some r=>_|none=>_:Out di)=_;exact G e rfl)) λQ E aq=>?_;exact aS oG.loc λjP oX qj=>hm bI cJ jK aY bk ao jP r ek (V.le af) oG (V.loc▸oX) (λp b6=>qj _ _ (bb p b6)) eV dX e Q E λy fa d9 a_ S q=>aq _ _ d9 a_ S ⟨y,rfl,q⟩
  .exact At.o3 (n:=180) (if_neg bb)
 .obtain e:m {st with loc:=names.zip aK}=out {st with loc:=names.zip aK}:=if_pos λp b6=>YM aN b6;obtain bf:out {st with loc:=names.zip aK}=(match x st with|some r=>.ok (.ret r.1) {wj st r with loc:=[]}|none=>.fail 180):=by show(match x {st with loc:=names.zip aK} with|some r=>_|none=>_:Out di)=_;exact G (ak _ _) rfl
  unfold lx M.bind kR;(refine G e (G bf ?_));cases x st<;>rfl
noncomputable def yF(a D:Nat)(k:List V->Option (St->pW V)):gW:=λdep f aK st=>match eQ dep D&&f.aj.any (isRef a) with
 |true=>(k aK).map λx=>lx x st
 |false=>none
theorem HO{a D:Nat}{k:List V->Option (St->pW V)}(h:∀(c:bc) dep β aH x aK,c.Ok g dep->dep<D->bK (a7 β) aK aH->k aK=C x->cS g c β (lx x) (jG g c (.ref a) aH) a7):fu g (yF a D k):=by
 intro c dep β f aK aH U R aW st s aa H;generalize aB:(eQ dep D&&cv f a)=aD;induction aD using bZ with
 |false=>refine At.o3 (n:=0) ?_;show(match(match eQ dep D&&cv f a with|true=>_|false=>none:Option (Out V)) with|some o=>o|none=>.fail 0)=_;exact G aB rfl
 |true=>
  obtain jM:=d2 (bB aB);generalize aw:k aK=aD;induction aD using b3 with
  |none=>refine At.o3 (n:=0) ?_;show(match(match eQ dep D&&cv f a with|true=>(k aK).map λx=>lx x st|false=>none:Option (Out V)) with|some o=>o|none=>.fail 0)=_;(refine G aB (G aw ?_));rfl
  |some x=>refine At.same (jM▸h c dep β aH x aK U (bA (bR aB)) R aw aW st s aa H) ?_;show(match(match eQ dep D&&cv f a with|true=>(k aK).map λx=>lx x st|false=>none:Option (Out V)) with|some o=>o|none=>.fail 0)=_;(refine G aB (G aw ?_));rfl
end
inductive gN where
 |lit (v:Int)
 |y_
noncomputable def gN.ctorIdx(x:gN):Nat:=gN.casesOn x (λI=>0) 1
noncomputable def Q_(st:St)(n:Nat):Option (List (ag×V)):=(st.σ.get n).bind λx=>match x.1 with
 |true=>x.2.i_.bind λq=>match q.2 with
  |none=>C q.1
  |some _=>none
 |false=>none
theorem adg{st:St}(h:Q_ st n=C ar):st.σ.get n=C (ae,.dict ar none):=
 ct h λx ak h=>by
  obtain(⟨own,o⟩):=x;induction own using bZ with
  |false=>exact bM h
  |true=>
   exact ct h λq aq h=>by
    obtain(⟨p_,op⟩):=q;induction op using b3 with
    |some _=>exact bM h
    |none=>(obtain J:=aT h;clear h;(clear h;subst J));exact G ak (G (show o=_ from oR aq) rfl)
noncomputable def Mq(ar:List (ag×V)):Option (ag×Nat×ag×bo):=(ow ar).bind λq=>q.1.2.du.bind λpd=>q.2.2.aC.bind λe=>(ag.kd q.1.1).bind λlc=>(ag.kd q.2.1).bind λvS=>
 (k_ (rC lc (cs "cells")&&rC vS (cs "at"))).map λI=>(q.1.1,pd,q.2.1,e)
theorem VW{b:ag×Nat×ag×bo}(h:Mq ar=C b):ar=[(b.1,.r b.2.1),(b.2.2.1,.i b.2.2.2)]/\ag.kd b.1=C (cs "cells")/\ag.kd b.2.2.1=C (cs "at"):=
 ct h λq aq h=>ct h λpd aa h=>ct h λe af h=>ct h λlc aJ h=>ct h λvS bl h=>omap h λI cP h=>by subst h;have cP:=mv cP;exact(fi (G (ug aq) (G (bV (t_ aa)) (G (bV (qs af)) rfl))) (G aJ (G (x9.mp (bR cP)) rfl)) (G bl (G (x9.mp (bB cP)) rfl)))
noncomputable def NF(nb:Nat)(st:St):Option (Nat×bo×d0 (Bool×O)):=(Q_ st nb).bind λar=>(Mq ar).bind λb=>(bo.add b.2.2.2 (.lit 1)).bind λa9=>(k_ (eQ nb 10000000)).map λI=>
 (b.2.1,b.2.2.2,st.σ.put cU nb (ae,.dict [(b.1,.r b.2.1),(b.2.2.1,.i a9)] none))
noncomputable def NC(st:St):gN->V
 |.lit v=>.i (.lit v)
 |.y_=>.i (.aL 0 ai st.au.length)
noncomputable def NB(st:St)(eI:Int):gN->List b5
 |.lit _=>st.au
 |.y_=>st.au++ [(0,eI-1,none)]
noncomputable def p7(D:bo->Int->Option gN)(iB nb:Nat)(eI:Int)(st:St):pW V:=(NF nb st).bind λx=>(k_ (cv x.1 iB)).bind λI=>(D x.2.1 eI).map λr=>(NC st r,x.2.2,NB st eI r)
noncomputable def Gz(D:bo->Int->Option gN)(iB:Nat):gW:=yF 713 250 λaK=>(ow aK).bind λq=>q.1.du.bind λnb=>q.2.aC.bind λe=>(litOf e).map λeI=>p7 D iB nb eI
noncomputable def VX:List Str:=[bO "bag",bO "sides"]
structure pN(K:b7):Prop where
 fn:∃p,rf K 713 VX (Gy p) [(bO "len",.globalImplicit),(bO "_law_rest",.globalImplicit)]
 len:lH K ik "len"=C none
 rest:∃R fZ g6 yP Ct,lH K ik "_law_rest"=C (C (.ref R))/\K.lookup R=C ⟨.type "tuple",fZ,.seq g6 yP,Ct⟩/\bK (λ(z:Int) y=>∃t,y=.int z t) zL g6.toList
structure uR(g:cy)(zs:List Int)(iB:Nat)(D:bo->Int->Option gN):Prop where
 cells:∃Cl aH k,(∀β,g.dP.le β->β.ad[iB]? =C (Cl,Cl))/\g.h₀.get? Cl=C (listOf aH k)/\bK (λ(z:Int) y=>∃t,y=.int z t) zs aH.toList
 eS:zs.length<=1000
 draw:∀β,g.dP.le β->∀e eI r,D e eI=C r->∃n:Nat,e.val β=C (n:Int)/\n<=10000/\0<eI/\∀v,r=.lit v->fk zs (n+1) eI=v
theorem tr{a b:Int}(h:0<b):0<=a.fmod b/\a.fmod b<=b-1:=⟨Int.fmod_nonneg_of_pos a h,Int.le_sub_one_of_lt (Int.fmod_lt_of_pos a h)⟩
structure TX(g:cy)(c:bc)(β:aZ)(s:aM)(zs:List Int)(nb:Nat)(eI:Int)(v:V)(B:aF)(ay:List (aO×az))(Cl:aF)(aH:Array az)(n:Nat)(pv:Tok):Prop where
 VV:β.ad[nb]? =C (B,B)
 h0:g.h₀.get? B=none
 ne:B≠c.L
 dict:s.heap.DictOf (strKind g.prog g.w) B ay
 J_:a0 ay "cells"=C (.ref Cl)
 uh:a0 ay "at"=C (.int (n:Nat) pv)
 lst:g.h₀.IsList Cl aH
 Wv:bK (λ(z:Int) y=>∃t,y=.int z t) zs aH.toList
 acs:n<=10000
 eS:ay.length<=100
 pos:0<eI
 lit:∀i2,v=.i (.lit i2)->fk zs (n+1) eI=i2
variable{nb iB:Nat}
section
variable{c:bc}
inductive LG(g:cy)(c:bc)(β:aZ)(st:St)(s:aM)(zs:List Int)(nb:Nat)(eI:Int)(r:V×d0 (Bool×O)×List b5):Prop where
 |mk (B:Addr) (ay:List (Str×Value)) (Cl:Addr) (aH:Array Value) (n:Nat) (pv:Tok) (W:TX g c β s zs nb eI r.1 B ay Cl aH n pv)
   (fin:∀aA cW l3 ue,aA.DictOf (strKind g.prog g.w) B (lG ay "at" (.int ((n:Int)+1) l3))->lK B s.heap aA->∃av,β.le av/\Sat g c (wj st r) av {s with heap:=aA,toks:=ue}/\a7 av r.1 (.int (fk zs (n+1) eI) cW))
theorem Xm{st:St}{s:aM}{pd:Nat}{d:gN}{D:bo->Int->Option gN}{gH d6:ag}{e a9:bo}(Do:uR g zs pd D)(U:c.Ok g dep)(H:Sat g c st β s)(Ru:st.σ.get nb=C (ae,.dict [(gH,.r pd),(d6,.i e)] none))(lc:ag.kd gH=C (cs "cells"))(vS:ag.kd d6=C (cs "at"))(Hs:bo.add e (.lit 1)=C a9)(yy:nb<10000000)(hd:D e eI=C d):
  LG g c β st s zs nb eI (NC st d,st.σ.put cU nb (ae,.dict [(gH,.r pd),(d6,.i a9)] none),NB st eI d):=by
 refine bG H.objs λf hf=>?_;obtain(⟨B,Bn,bY,c5,fF⟩):=hf nb ae _ Ru;obtain(⟨_,_,N7,_,_⟩):=fF rfl;obtain(⟨ja,p_,f_,ay,g1,g2,g3,eh,gv,jb⟩):=(show cL g s.heap.get? β B Bn (.dict [(gH,.r pd),(d6,.i e)] none) from c5);(clear fF c5;subst ja);obtain(⟨eG,cH,v1,v2,wK⟩):=g3 _ (.head _);obtain(⟨fB,cX,v4,J8,v6⟩):=g3 _ (.tail _ (.head _));have v4:ag.val β d6=C fB:=v4;obtain ZW:cs "cells"=eG:=c0 ((ag.vW lc).symm.trans v1);have HE:cs "at"=fB:=c0 ((ag.vW vS).symm.trans v4);rw[<-ZW,hj] at v2;rw[<-HE] at v4;rw[<-HE,hj] at J8;(refine cz wK λahn ahC e5 Yl=>?_;try clear wK);(refine cz v6 λz tz gZ Ym=>?_;try clear v6);refine kf Do.cells λCl aH ahY bu c3 fL=>jQ (Do.draw β H.ghost _ eI d hd) λn eZ hp ve x4=>?_;cases gZ.symm.trans eZ;cases(bu β H.ghost).symm.trans e5;subst Yl;subst Ym;obtain Hg:g.h₀.get? B=none:=by
  generalize aq:g.h₀.get? B=aD;induction aD using b3 with
  |none=>rfl
  |some o=>exact gy (N7.1.symm.trans (U.base B o aq))
 refine .mk B ay _ aH n tz ⟨bY,Hg,N7.2.1,vh (g:=g) g1 g2,v2,J8,qV c3,fL,hp,bU jb (show 2+0<=100 by exact aR rfl),ve,λi2 e=>?_⟩ λaA cW l3 ue hd aB=>?_
 .cases d with
  |lit v=>cases e;exact x4 _ rfl
  |y_=>cases e
 .refine aS (sl.mp hd) λkL dv dU=>?_;obtain R:cL g aA.get? β B B (.dict [(gH,.r pd),(d6,.i a9)] none):=Gs (v:=.i a9) rfl p_ g3 eh gv jb v4 (y:=.int ((n:Int)+1) l3) ⟨(n:Int)+1,l3,bo.A0 Hs gZ rfl,rfl⟩ dv (G (hj _) dU) (q:=C (1,.i e)) ⟨(bh (.int n tz) (G (hj _) J8) ⟨(n:Int),tz,gZ,rfl⟩),(d6,.i e),rfl,v4,rfl⟩;have S:=H.turn (t:=ue) yy Ru bY (.inl rfl) aB R rfl;cases d with
  |lit v=>exact(fT β (.refl _) S ⟨_,cW,congrArg C (x4 _ rfl).symm,rfl⟩)
  |y_=>exact a3 (tr (a:=pk zs (n+1)) ve) λfG hA=>(fT _ (β.IJ _) (S.lj (b:=(0,eI-1,none)) (z:=fk zs (n+1) eI) (fi fG hA (λj cD=>gy cD))) ⟨_,cW,S.PY _,rfl⟩)
theorem NG{st:St}{s:aM}{r:V×d0 (Bool×O)×List b5}{D:bo->Int->Option gN}(Do:uR g zs iB D)(U:c.Ok g dep)(H:Sat g c st β s)(w:p7 D iB nb eI st=C r):LG g c β st s zs nb eI r:=
 ct w λx cx w=>ct w λI yz w=>omap w λd hd w=>ct cx λar tA cx=>ct cx λb aB cx=>ct cx λa9 Hs cx=>omap cx λI yy cx=>by subst cx;subst w;exact fO (VW aB) λGH lc vS=>Xm (d2 (mv yz)▸Do) U H (GH▸adg tA) lc vS Hs (bA (mv yy)) hd
theorem Sat.acu{st:St}{s:aM}(H:Sat g c st β s):Sat g c {st with loc:=[]} β s:=aS H.loc λm hm I=>⟨⟨H.keep,H.cw,H.objs,H.len,H.facts,H.ghost⟩,H.os,m,hm,λx v e=>gy e⟩
theorem NJ{D:bo->Int->Option gN}(O:g.Ok)(F:pN g.K)(Do:uR g zs iB D)(U:c.Ok g dep)(dN:dep<300)(R:bK (a7 β) [.r nb,.i (.lit eI)] aH):cS g c β (lx (p7 D iB nb eI)) (jG g c (.ref 713) aH) a7:=by refine bG F.fn λp hG=>G1 O U dN hG (aR (by kernel_rfl)) R R.length (λI I=>rfl) λbI cJ jK av st s m r ek V H ei aX eV dX e Q E aq=>?_;obtain(⟨B,ay,Cl,aH,n,pv,W,fin⟩):=NG Do ek H e;refine acX F.rest λAO fZ g6 yP Ct da dA hx=>?_;obtain(⟨aix,hP,ahm,Bn,VS,mr⟩):=aX (bO "bag",.r nb) (.head _);obtain(⟨aiy,ll,aii,air,Mo,ar⟩):=aX (bO "sides",.i (.lit eI)) (.tail _ (.head _));cases W.VV.symm.trans VS;(obtain J:=aT Mo;clear Mo;subst J);subst mr;subst ar;exact Xp (p:=p) (K:=g.K) (h₀:=g.h₀) (zs:=zs) (n:=n) O.fl O.top (H.toSatO.h₀ ek) W.h0 F.len da dA hx V.kind V.glob V.blt (eV _ (.head _)) (eV _ (.tail _ (.head _))) (dX (bO "len",.globalImplicit) (.head _)) (dX (bO "_law_rest",.globalImplicit) (.tail _ (.head _))) ei hP ll (V.loc▸km W.ne) W.dict W.J_ W.uh W.lst W.Wv Do.eS W.acs W.eS (Int.ne_of_gt W.pos) λaA cW l3 ue hd aB=>eH (fin aA cW l3 ue hd aB.extBut) λd9 a_ eE g9=>aq _ _ d9 a_ eE.acu g9
theorem NI{D:bo->Int->Option gN}(O:g.Ok)(F:pN g.K)(Do:uR g zs iB D):fu g (Gz D iB):=
 HO λc dep β aH x aK U hd R aw=>ct aw λq aq aw=>ct aw λnb aa aw=>ct aw λe af aw=>omap aw λeI aJ aw=>by subst aw;rw[ug aq,t_ aa,qs af,tU aJ] at R;exact NJ O F Do U (sq hd (aR rfl)) R
end
noncomputable def hW(after:Nat->Nat):Nat->Nat->Nat
 |0,_=>0
 |k+1,w=>if w<4 then hW after k (after w)+1 else 0
theorem MN(after:Nat->Nat)(w:Nat):hW after 0 w=0:=rfl
theorem rA(after:Nat->Nat)(k w:Nat):hW after (k+1) w=if w<4 then hW after k (after w)+1 else 0:=rfl
theorem MO:∀{k m w:Nat},w<4->m<k->hW after k w=m->gm after m w
 |0,_,_,_,h,_=>by lia
 |k+1,m,w,hw,aw,h=>by
  rw[rA] at h;rw[if_pos hw] at h;induction m using hD with
  |zero=>exact absurd (by assumption) (Nat.succ_ne_zero _)
  |succ m=>
   by_cases bl:after w<4
   .induction m using hD with
    |zero=>
     induction k using hD with
     |zero=>exact absurd (by assumption) (qR _)
     |succ k=>rw[rA] at h;rw[if_pos bl] at h;lia
    |succ m=>exact⟨bl,MO (k:=k) bl (Aj (by assumption)) (so (by assumption))⟩
   .induction m using hD with
    |zero=>show 4<=after w;exact sk (by assumption)
    |succ m=>
     induction k using hD with
     |zero=>rw[MN] at h;lia
     |succ k=>rw[rA] at h;rw[if_neg bl] at h;lia
theorem MQ:∀{k r w:Nat},r<hW after k w->xk after r w
 |_,0,_,_=>trivial
 |0,r+1,w,h=>absurd h (w7 _)
 |k+1,r+1,w,h=>by
  rw[rA] at h;split at h
  .have aA:r<hW after k (after w):=by exact Aj (by assumption)
   refine⟨?_,MQ (k:=k) aA⟩;clear h;induction k using hD with
   |zero=>rw[MN] at aA;lia
   |succ k=>
    rw[rA] at aA;split at aA
    .assumption
    .lia
  .lia
theorem gm.uniq{m w:Nat}(h:gm after m w)(aA:gm after n w):m=n:=by
 induction m generalizing n w with
 |zero=>exact h.elim
 |succ m bF=>
  induction n using hD with
  |zero=>exact aA.elim
  |succ n=>
   induction m using hD with
   |zero=>
    induction n using hD with
    |zero=>rfl
    |succ n=>exact absurd aA.1 (D1 h)
   |succ m=>
    induction n using hD with
    |zero=>exact absurd h.1 (D1 aA)
    |succ n=>exact congrArg (·+1) (bF h.2 aA.2)
theorem Yn:∀(n:Nat)(l:List Nat),l.Nodup->(∀x∈l,x<n)->l.length<=n:=by
 intro n;induction n with
 |zero=>
  intro l _ h;induction l using es with
  |nil=>exact dO _
  |cons x l=>exact absurd (h x (.head _)) (w7 _)
 |succ n bF=>
  intro l d h;have:=bF (l.erase n) (d.erase n) λx ak=>Ai (Aj (h x (List.mem_of_mem_erase ak))) (d.mem_erase_iff.mp ak).1;rw[List.length_erase] at this;split at this
  .exact Nat.le_add_of_sub_le this
  .exact KR (by assumption)
noncomputable def g6(after:Nat->Nat):Nat->Nat->List Nat
 |0,_=>[]
 |m+1,w=>w::g6 after m (after w)
theorem aaS(m:Nat):∀w,(g6 after m w).length=m:=by
 induction m with
 |zero=>exact λI=>rfl
 |succ m bF=>exact λw=>congrArg (·+1) (bF (after w))
theorem Pu(m:Nat):∀w,w<4->gm after m w->(g6 after m w).Nodup/\∀x∈g6 after m w,x<4/\∃j,j<=m/\gm after j x:=by
 induction m with
 |zero=>exact λw I h=>h.elim
 |succ m bF=>
  intro w hw h;induction m using hD with
  |zero=>exact⟨jD.mpr ⟨lJ,.nil⟩,λx ak=>eu.mp ak▸⟨hw,1,dO _,h⟩⟩
  |succ m=>
   refine a3 (bF _ h.1 h.2) λda dA=>⟨jD.mpr ⟨λak=>?_,da⟩,λx ak=>?_⟩
   .exact aS (dA w ak).2 λj cD q=>absurd (h.uniq q▸cD) (Nat.not_succ_le_self _)
   .rcases dg.mp ak with e|ak
    .exact e▸⟨hw,_,dO _,h⟩
    .obtain(⟨a,j,cD,q⟩):=dA x ak;exact⟨a,j,KR cD,q⟩
theorem gm.four{m w:Nat}(hw:w<4)(h:gm after m w):m<=4:=
 aaS (after:=after) m w▸Yn 4 _ (Pu m w hw h).1 λx ak=>((Pu m w hw h).2 x ak).1
noncomputable def MU(p:Nat->cn):PySem.Expr:=.BoolOp .And [.Compare (.Name "which" (p 3)) [.Lt] [.Constant (.int 4) 0 (p 4)] (p 5),.Compare (.Name "count" (p 6)) [.Lt] [.Constant (.int 99) 0 (p 7)] (p 8)] (p 9)
noncomputable def MS(p:Nat->cn):List Stmt:=[.AugAssign (.Name "count" (p 10)) .Add (.Constant (.int 1) 0 (p 11)) (p 12),.Assign [.Name "which" (p 13)] (.Subscript (.Name "after" (p 14)) (.Name "which" (p 15)) (p 16)) (p 17)]
noncomputable def Wn(p:Nat->cn):List Stmt:=[.Assign [.Name "count" (p 0)] (.Constant (.int 0) 0 (p 1)) (p 2),.While (MU p) (MS p) [] (p 18),.Return (C (.Name "count" (p 19))) (p 20)]
section
variable{jF:aF}{aH:Array az}
theorem Ws{p:Nat->cn}(eU:env.scope.kind=.function)(gH:env.kindOf "count"=C .local)(kw:env.kindOf "which"=C .local)(d6:env.kindOf "after"=C .local)(aam:∀i,i<4->∃t,aH[i]? =C (.int (after i:Int) t))(ym:jF≠env.locals):
  ∀(k c dJ:Nat)(s:aM)(m:aO->Option az)(R:Result->aM->Prop)(t dC:Tok),c+k=99->s.heap.Ns env.locals m->m "which"=C (.int (dJ:Int) t)->m "count"=C (.int (c:Int) dC)->m "after"=C (.ref jF)->s.heap.IsList jF aH->
   (∀aA cW jP ud,aA.Ns env.locals jP->jP "count"=C (.int ((c+hW after k dJ:Nat):Int) ud)->lK env.locals s.heap aA->R (.ok .next) {s with heap:=aA,toks:=cW})->ft (c8 prog w) A (.whileLoop (MU p) (MS p) [] env) R s:=by
 intro k;induction k with
 |zero=>
  intro c dJ s m R t dC aw ei zg qw Qj aX hN;refine Kd (Ay (Ad (hE (hS eU kw ei zg ?_) (by kernel_rfl))));refine nO (Ab (Al ?_));obtain fin:R (.ok .next) {s with toks:=s.toks+1}:=hN s.heap _ m dC ei (G qw rfl) (λb o I e=>e);by_cases bl:(dJ:Int)<4
  ·(refine G (decide_eq_true bl) (G (if_pos rfl) ?_));refine Ay (Ad (hE (hS eU gH (show kT _ _ _ from ei) qw ?_) (by kernel_rfl)));refine nO (Ab (Al ?_));(refine G (decide_eq_false (λz=>qR _ (ij (mR.mp z) (eP aw.symm)))) (G (if_neg (by simp)) (G (if_neg (by simp)) ?_)));exact hN s.heap _ m dC ei (G qw rfl) (λb o I e=>e)
  ·(refine G (decide_eq_false bl) (G (if_neg (by simp)) (G (if_neg (by simp)) ?_)));exact fin
 |succ k bF=>
  intro c dJ s m R t dC aw ei zg qw Qj aX hN;refine Kd (Ay (Ad (hE (hS eU kw ei zg ?_) (by kernel_rfl))));refine nO (Ab (Al ?_));by_cases bl:(dJ:Int)<4
  ·(refine G (decide_eq_true bl) (G (if_pos rfl) ?_));refine Ay (Ad (hE (hS eU gH (show kT _ _ _ from ei) qw ?_) (by kernel_rfl)));refine nO (Ab (Al ?_));(refine G (decide_eq_true (mR.mpr (ij (wV (pA k)) (eP aw)))) (G (if_pos rfl) ?_));refine isTrue_and_nil (G (if_pos rfl) (jm (wpAny_AugAssign_Name (hS eU gH (show kT _ _ _ from ei) qw (nO (Ko (Ac gH (show kT _ _ _ from ei) (λdq yC yI=>?_) (G eU rfl))))))));refine jm (Am ?_);obtain ab6:(λz=>if z=bO "count" then C (Ek ((c:Int)+1) (s.toks+1+1+1)) else m z) (bO "which")=C (.int (dJ:Int) t):=by show(if _ then _ else _)=_;exact G (if_neg (aR (by kernel_rfl))) zg
   have Qk:(λz=>if z=bO "count" then C (Ek ((c:Int)+1) (s.toks+1+1+1)) else m z) (bO "after")=C (.ref jF):=by show(if _ then _ else _)=_;exact G (if_neg (aR (by kernel_rfl))) Qj
   obtain abU:(λz=>if z=bO "count" then C (Ek ((c:Int)+1) (s.toks+1+1+1)) else m z) (bO "count")=C (.int ((c:Int)+1) (s.toks+1+1+1)):=by show(if _ then _ else _)=_;exact G (if_pos rfl) rfl
   have vz:dq.IsList jF aH:=by(refine aS aX λo a b=>?_;try clear aX);exact⟨o,yI.extBut _ _ ym a,b⟩
   refine qX (hE (hS eU d6 (show kT _ _ _ from yC) Qk ?_) (by kernel_rfl));refine hE (hS eU kw (show kT _ _ _ from yC) ab6 ?_) (by kernel_rfl);refine bG (aam dJ (mR.mp bl)) λpv bS=>mM (show pC _ _ _ from vz).typeIs w3.lookup (DY (show pC _ _ _ from vz) (kV _) (qp (kp (mR.mp bl)) (bA rfl)) (G (KS _) bS) ?_) (ps rfl _ _);refine Ac kw (show kT _ _ _ from yC) (λfz Z6 O4=>?_) (G eU rfl);refine qP ?_;obtain Z1:fz.IsList jF aH:=by(refine aS vz λo a b=>?_;try clear vz);exact⟨o,O4.extBut _ _ ym a,b⟩
   refine bF (c+1) (after dJ) _ _ R pv (s.toks+1+1+1) (by lia) (show kT _ _ _ from Z6) ?_ ?_ ?_ (show pC _ _ _ from Z1) λaA cW jP ud dS cE fQ=>?_
   .show(if _ then _ else _)=_;exact G (if_pos rfl) rfl
   .show(if _ then _ else _)=_;exact G (if_neg (aR (by kernel_rfl))) abU
   .show(if _ then _ else _)=_;exact G (if_neg (aR (by kernel_rfl))) Qk
   .refine hN aA cW jP ud dS ?_ λb o aB e=>fQ b o aB (O4.extBut b o aB (yI.extBut b o aB e));refine G cE ?_;obtain this:c+1+hW after k (after dJ)=c+hW after (k+1) dJ:=by(refine G (show hW after (k+1) dJ=if dJ<4 then hW after k (after dJ)+1 else 0 from rfl) (G (if_pos (by lia)) ?_));lia
    exact G this rfl
  ·(refine G (decide_eq_false bl) (G (if_neg (by simp)) (G (if_neg (by simp)) ?_)));refine hN s.heap _ m dC ei ?_ (λb o I e=>e);(refine G qw (G (show hW after (k+1) dJ=if dJ<4 then hW after k (after dJ)+1 else 0 from rfl) (G (if_neg (by lia)) ?_)));rfl
end
section
variable{c:bc}
noncomputable def MV(nT:Nat->Option Nat)(w:Nat)(st:St):pW V:=(nT w).map λv=>(.i (.lit (.ofNat v)),st.σ,st.au)
noncomputable def F4(nT:Nat->Option Nat)(o_:Nat):gW:=yF 727 250 λaK=>(ow aK).bind λq=>q.1.du.bind λna=>(pa q.2).bind λw=>(k_ (cv na o_)).map λI=>MV nT w
noncomputable def uP(K:b7):Prop:=∃p,rf K 727 [bO "after",bO "which"] (Wn p) [(bO "count",.local)]
structure LF(g:cy)(after:Nat->Nat)(o_:Nat)(nT:Nat->Option Nat):Prop where
 lst:∃jF aH k,(∀β,g.dP.le β->β.ad[o_]? =C (jF,jF))/\g.h₀.get? jF=C (listOf aH k)/\∀i,i<4->∃t,aH[i]? =C (.int (after i:Int) t)
 cnt:∀w v,nT w=C v->hW after 99 w=v
theorem Wt{o_ w:Nat}{nT:Nat->Option Nat}(O:g.Ok)(F:uP g.K)(Ch:LF g after o_ nT)(U:c.Ok g dep)(dN:dep<300)(R:bK (a7 β) [.r o_,.i (.lit (.ofNat w))] aH):cS g c β (lx (MV nT w)) (jG g c (.ref 727) aH) a7:=by
 (refine bG F λp hG=>?_;try clear F);refine G1 O U dN hG (aR (by kernel_rfl)) R R.length (λI I=>rfl) λbI cJ jK av st s m r ek V H ei qj eV dX e Q E aq=>omap e λv Zt e=>?_;have gH:=dX (bO "count",.local) (.head _);refine kf Ch.lst λjF aH k eG fB qu=>?_;obtain(⟨cH,hP,TM,ahB,cA,a9⟩):=qj (bO "after",.r o_) (.head _);obtain(⟨cX,ll,z,tz,el,bf⟩):=qj (bO "which",.i (.lit (.ofNat w))) (.tail _ (.head _));cases(eG av H.ghost).symm.trans cA;(obtain J:=aT el;clear el;subst J);subst a9;subst bf;have ym:jF≠cJ.locals:=λe=>gy (ek.iX.symm.trans (V.loc▸e▸ek.base _ _ fB));obtain aX:s.heap.IsList jF aH:=qV (H.toSatO.h₀ ek _ _ fB);refine jm (Am (nO (Ac gH (show kT _ _ _ from ei) (λdq yC yI=>?_) (G V.kind rfl))));refine jm (wpAny_While ?_);obtain vz:dq.IsList jF aH:=by(refine aS aX λo a b=>?_;try clear aX);exact⟨o,yI.extBut _ _ ym a,b⟩
 refine Ws V.kind gH (eV _ (.tail _ (.head _))) (eV _ (.head _)) qu ym 99 0 w _ _ _ tz s.toks rfl (show kT _ _ _ from yC) ((if_neg (aR (by kernel_rfl))).trans ll) (if_pos rfl) ((if_neg (aR (by kernel_rfl))).trans hP) (show pC _ _ _ from vz) λaA cW jP ud dS cE fQ=>jm (uu (hE (hS V.kind gH (show kT _ _ _ from dS) cE ?_) (by kernel_rfl)));obtain ext:lK bI.L s.heap aA:=λb o aB e=>fQ b o (V.loc▸aB) (yI.extBut b o (V.loc▸aB) e);subst e;refine aq _ _ av (.refl _) ⟨H.toSatO.local (f6:=[]) ek V.apart ext,H.os,jP,V.loc▸dS,λx v e=>gy e⟩ ⟨_,ud,?_,rfl⟩;(refine G (uE _) (G (Ch.cnt w v Zt) ?_));rfl
theorem Wr{o_:Nat}{nT:Nat->Option Nat}(O:g.Ok)(F:uP g.K)(Ch:LF g after o_ nT):fu g (F4 nT o_):=
 HO λc dep β aH x aK U hd R aw=>ct aw λq aq aw=>ct aw λna aa aw=>ct aw λw af aw=>omap aw λI aJ aw=>by subst aw;rw[ug aq,t_ aa,pb af,d2 (mv aJ)] at R;exact Wt O F Ch U (sq hd (aR rfl)) R
end
noncomputable def ac9(p:Nat->cn):List Stmt:=[.Assign [.Name "row" (p 0)] (.BinOp (.Call (.Name "list" (p 1)) [.Name "known" (p 2)] [] (p 3)) .Add (.List [.Constant (.str "none") 0 (p 4)] (p 5)) (p 6)) (p 7),
 .Return (C (.Subscript (.Name "row" (p 8)) (.Call (.Name "_law_draw" (p 9)) [.Name "bag" (p 10),.Call (.Name "len" (p 11)) [.Name "row" (p 12)] [] (p 13)] [] (p 14)) (p 15))) (p 16)]
structure xw(K:b7):Prop where
 fn:∃p,rf K 741 [bO "bag",bO "known"] (ac9 p) [(bO "row",.local),(bO "list",.globalImplicit),(bO "_law_draw",.globalImplicit),(bO "len",.globalImplicit)]
 lst:lH K ik "list"=C none
 draw:lH K ik "_law_draw"=C (C (.ref 713))
theorem boot_list:Ar "list"=C (.type "list"):=by kernel_rfl
theorem PG(e9:(ay.map (·.1)).Nodup)(aa:old.map (·.1)<+:ay.map (·.1))(af:∀k,(∃e:ag×V,e∈ar/\e.1.val β=C (cs k))\/a0 ay k=a0 old k)(aJ:∀e:ag×V,e∈ar->∀l,e.1.val β=C l->a0 old (aQ l)≠none):ay.map (·.1)=old.map (·.1):=by
 (refine bG aa λt ff=>?_;try clear aa);induction t using es with
 |nil=>(refine G (bV ff) ?_;exact G (ma _) rfl)
 |cons k r=>
  exfalso;have aw:k∈ay.map (·.1):=by refine G (bV ff) ?_;simp
  have uh:∀{l:List (aO×az)}{k:aO},a0 l k≠none↔k∈l.map (·.1):=λ{l k}=>by
   unfold a0;rw[Ne,Kt,KL];constructor
   .intro h;refine S5 λaw=>h λx ak=>?_;simp only[decide_eq_true_eq];intro e;exact aw (G (bV e) (kU ak))
   .intro h q;exact aS (kY.mp h) λx ak e=>q x ak (by simp[e])
  obtain this:k∈old.map (·.1):=by
   rcases af k with⟨e,he,aX⟩|h
   .obtain this:=aJ e he _ aX;rw[hj] at this;exact uh.mp this
   .exact uh.mp (G (bV h) (uh.mpr aw))
  rw[<-ff,List.nodup_append] at e9;exact e9.2.2 k this k (.head _) rfl
noncomputable def Dg(D:bo->Int->Option gN)(iB kK fg:Nat)(fA:List ag)(nX:Nat->Option ag)(nb:Nat)(st:St):pW V:=(qC st kK).bind λar=>(k_ (o5 st.au st.aE ar fA)).bind λI=>
 (p7 D iB nb (.ofNat (fg+1)) st).bind λr=>(pa r.1).bind λi=>(nX i).map λcf=>(.s cf,r.2)
structure AL(g:cy)(aP:List (aO×az))(kK fg:Nat)(fA:List ag)(nX:Nat->Option ag):Prop where
 addr:∃d6,(∀β,g.dP.le β->β.ad[kK]? =C (d6,d6))/\g.base d6=C aP
 len:fg=aP.length
 eS:aP.length<=100000
 seen:∀β,g.dP.le β->∀k∈fA,∃l,ag.val β k=C l/\a0 aP (aQ l)≠none
 txt:∀β,g.dP.le β->∀i cf,nX i=C cf->(∀k,(aP.map (·.1))[i]? =C k->ag.val β cf=C (cs k))/\(i=aP.length->ag.val β cf=C (cs "none"))
noncomputable def bc.more(c:bc)(D:aF)(o:cY):bc:={c with P:=λa=>if a=D then C o else c.P a}
variable{kK fg:Nat}{fA:List ag}{nX:Nat->Option ag}{cf:ag}
section
variable{c:bc}{D:aF}{o:cY}
theorem bc.CP(jN:c.gV D){a:aF}{y:cY}(e:c.P a=C y):(c.more D o).P a=C y:=by show(if a=D then C o else c.P a)=_;exact G (if_neg (λz=>by rw[z,jN.1] at e;exact bM e)) e
theorem bc.Ok.more(U:c.Ok g dep)(jN:c.gV D):(c.more D o).Ok g dep:=
 ⟨λa y e=>bc.CP jN (U.base a y e),U.frames,U.here,λx ak=>⟨by
  show(if x.1=D then C o else c.P x.1)=none;exact G (if_neg (jN.2.2 x ak)) ((U.hd x ak).1),(U.hd x ak).2⟩,by show(if c.L=D then C o else c.P c.L)=none;exact G (if_neg (λz=>jN.2.1 z.symm)) U.iX,U.depth,U.units,U.calm,U.dep⟩
theorem SatO.more{st:St}(H:SatO g c st β h)(jN:c.gV D)(hg:h.objs.size<=D)(k:∀b x,h.get? b=C x->aA.get? b=C x)(e:aA.get? D=C o):SatO g (c.more D o) st β aA:=by
 refine bG H.objs λf hf=>⟨λa y q=>?_,λx ak=>?_,⟨f,λn own y q=>?_⟩,H.len,H.facts,H.ghost⟩
 .replace q:(if a=D then C o else c.P a)=C y:=q;split at q
  .rename_i z;(obtain J:=aT q;clear q;subst J);exact G z e
  .exact k _ _ (H.keep a y q)
 .exact bG (H.cw x ak) λde q=>⟨de,k _ _ q⟩
 .obtain(⟨a,d,aa,af,aJ⟩):=hf n own y q;refine⟨a,d,aa,?_,λbw=>?_⟩
  .clear aJ q;induction own using bZ with
   |true=>exact af.mono (.refl _) (λ_=>k a _) (λ_=>k d _)
   |false=>exact af.mono (.refl _) (λ_=>bc.CP jN) (λ_=>bc.CP jN)
  ·(clear q;subst bw);obtain(⟨cH,cX,fw,gT,gL⟩):=aJ rfl;obtain(⟨⟨dv,t1⟩,dU,jh⟩):=cL.there gL (show cL g h.get? β a d y from af);obtain ne1:a≠D:=λz=>absurd (fU t1) (G z (i6.mpr hg));obtain ne2:d≠D:=λz=>absurd (fU jh) (G z (i6.mpr hg));exact⟨cH,cX,⟨by show(if a=D then C o else c.P a)=none;exact G (if_neg ne1) fw.1,fw.2⟩,⟨by show(if d=D then C o else c.P d)=none;exact G (if_neg ne2) gT.1,gT.2⟩,gL⟩
theorem SatO.less{st:St}{h₀:gj}(H:SatO g (c.more D o) bk av h)(jN:c.gV D)(T4:SatO g c st β h₀)(iA:β.le av)(bL:∀n y,bk.σ.get n=C (ai,y)->st.σ.get n=C (ai,y)):SatO g c bk av h:=by
 refine bG H.objs λf hf=>bG T4.objs λrF ZL=>?_;have nn:∀a,(c.more D o).P a=none->c.P a=none:=λa e=>by
  replace e:(if a=D then C o else c.P a)=none:=e;split at e
  .exact zH e
  .exact e
 refine⟨λa y q=>H.keep a y (bc.CP jN q),H.cw,⟨f,λn own y q=>?_⟩,H.len,H.facts,H.ghost⟩;induction own using bZ with
 |true=>obtain(⟨a,d,aa,af,aJ⟩):=hf n ae y q;refine⟨a,d,aa,af,λbw=>?_⟩;obtain(⟨cH,cX,fw,gT,gL⟩):=aJ rfl;exact⟨cH,cX,⟨nn _ fw.1,fw.2⟩,⟨nn _ gT.1,gT.2⟩,gL⟩
 |false=>obtain(⟨a,d,aa,af,_⟩):=ZL n ai y (bL n y q);exact⟨a,d,a4 iA.ad aa,af.mono iA (λI e=>e) (λI e=>e),λe=>by exact c7 e⟩
theorem Xn{D:bo->Int->Option gN}{st:St}{r:V×d0 (Bool×O)×List b5}(w:p7 D iB nb eI st=C r)(n:Nat)(y:O)(q:r.2.1.get n=C (ai,y)):st.σ.get n=C (ai,y):=
 ct w λx cx w=>ct w λI I w=>omap w λd I w=>ct cx λar I cx=>ct cx λb I cx=>ct cx λa9 I cx=>omap cx λI yy cx=>by
  subst cx;subst w;replace q:(st.σ.put cU nb (ae,.dict [(b.1,.r b.2.1),(b.2.2.1,.i a9)] none)).get n=C (ai,y):=q;rw[d0.k8 cU st.σ nb _ n (ij (bA (mv yy):nb<10000000) (aR rfl))] at q;by_cases e:n=nb
  .rw[if_pos e] at q;(have J:=aT q;clear q;cases J)
  .rw[if_neg e] at q;exact q
structure EW(ks:List aO)(arr:Array az):Prop where
 size:arr.size=ks.length+1
 at_:∀(i:Nat) k,ks[i]? =C k->∃t,arr[i]? =C (Ej k t)
 last:∃t,arr[ks.length]? =C (Ej "none" t)
theorem aeW{acc:Array az}(bL:acc.size=ay.length)(h:∀(i:Nat) v,acc[i]? =C v->∃k x,ay[i]? =C (k,x)/\(strKind prog w).is k v=ae):EW (ay.map (·.1)) (acc++#[.str "none" cW]) where
 size:=by(refine G Array.size_append (G bL (G (gB _) ?_)));rfl
 at_:=λi k e=>by
  have bN:i<acc.size:=by(refine G bL (G (bV (gB (f:=λx:aO×az=>x.1))) ?_));exact l0 e
  refine cz (h i _ (S8 bN)) λeF x a9 bf=>?_;refine bG (KJ bf) λt cB=>?_;rw[oD,a9] at e;(obtain J:=aT e;clear e;subst J);exact⟨t,by(refine G (Array.getElem?_append_left bN) ?_;refine G (S8 bN) ?_;exact G cB rfl)⟩
 last:=⟨cW,by(refine G (gB _) (G (bV bL) (G (Array.getElem?_append_right (dO _)) ?_));refine G (uD _) ?_);rfl⟩
theorem ade{ab:cI}{p:Nat->cn}{st:St}{s:aM}{d6:aF}{Q:az->aM->Prop}(O:g.Ok)(di:lH g.K ik "list"=C none)(U:c.Ok g dep)(dN:dep<300)(V:cc c ab env β)(H:SatO g c st β s.heap)
  (ei:s.heap.Ns env.locals m)(ll:m "known"=C (.ref d6))(yH:d6≠ku)(uQ:s.heap.DictOf (strKind g.prog g.w) d6 ay)(eS:ay.length<=100000)(abh:env.kindOf "known"=C .local)(jz:env.kindOf "list"=C .globalImplicit)
  (aq:∀aA D arr cW,(∀b o,s.heap.get? b=C o->aA.get? b=C o)->s.heap.objs.size<=D->aA.get? D=C (listOf arr 0)->EW (ay.map (·.1)) arr->Q (.ref D) {s with heap:=aA,toks:=cW}):
  a5 (c8 g.prog g.w) c.A (dK (.BinOp (.Call (.Name "list" (p 1)) [.Name "known" (p 2)] [] (p 3)) .Add (.List [.Constant (.str "none") 0 (p 4)] (p 5)) (p 6)) env) Q E s:=by refine bG uQ.dictAt λfm vt=>?_;have T:=H.top U O;refine qU (G ((oO (λI I I h=>by(injection h))) _ _) (b2 (l8 V.kind jz (ur (V.glob▸T.g) (uI (H.fl U O) T.g di) (V.blt▸T.b) ((T.builtins "list" (aR (by kernel_rfl))).trans boot_list) ?_) (by kernel_rfl))));refine PyProof.Rows.callWith_type1 (kS (hE (hS V.kind abh ei ll ?_) (by kernel_rfl)));refine nL (kdl_call (kdl_dict (by simpa using yH)) (U.calm (sq dN (aR rfl))) vt (G kr (bU (by assumption) (bA rfl))) λix wG j6 We up1 YF items=>?_);refine List_ (kS (w0 (nL (Lo ?_))));have Oq:(ix.push {cls:=.type "list",data:=.seq #[.str "none" wG]}).get? s.heap.objs.size=C (listOf j6 We):=f5 _ YF;obtain YG:(ix.push {cls:=.type "list",data:=.seq #[.str "none" wG]}).get? ix.objs.size=C (listOf #[.str "none" wG] 0):=nN _ rfl;refine P.add_list (show IsL _ _ _ _ from Oq) (show IsL _ _ _ _ from YG) ?_ (by refine G kr ?_;show j6.size+1<=_;exact G items.1 (jk (by assumption) (bA rfl)));exact aq _ _ _ _ (λb o e=>f5 _ (f5 _ (up1 b o e))) (kp (fU Oq)) (nN _ rfl) (aeW items.1 items.2)
theorem abj{st:St}{s:aM}(nY:AL g aP kK fg fA nX)(H:Sat g c st β s)(tA:qC st kK=C ar)(hs:o5 st.au st.aE ar fA=ae):
  ∃d6 ay,(∀β,g.dP.le β->β.ad[kK]? =C (d6,d6))/\d6≠ku/\s.heap.DictOf (strKind g.prog g.w) d6 ay/\ay.map (·.1)=aP.map (·.1):=by refine aS nY.addr λd6 eG fB=>bG (Q5 tA) λop q=>bG H.objs λf hf=>?_;obtain(⟨a,d,bY,c5,_⟩):=hf kK ae _ q;cases(eG β H.ghost).symm.trans bY;obtain(⟨_,yH,o,ay,g1,g2,g3,eh,gv,_⟩):=(show cL g s.heap.get? β d6 d6 (.dict ar (C op)) from c5);refine a3 (gv.2 aP fB) λpre val=>?_;have uQ:=vh (g:=g) g1 g2;refine bG uQ.dictAt λfm vt=>(i3 d6 ay eG yH uQ (PG (β:=β) vt.nodup pre val λe he l aX=>aS (vP H.facts hs (λk aw=>(nY.seen β H.ghost k aw).imp λI x=>x.1) e he l aX) λk aw ZV=>aS (nY.seen β H.ghost k aw) λa_ a b=>?_));cases ZV.symm.trans a;exact b
theorem aeX{ks:List aO}{i:Nat}{arr:Array az}(nY:AL g aP kK fg fA nX)(l:g.dP.le β)(HL:nX i=C cf)(bN:i<=aP.length)(R:EW ks arr)(e:ks=aP.map (·.1)):∃l t,ag.val β cf=C l/\arr[i]? =C (.str (aQ l) t):=by
 subst e;refine a3 (nY.txt β l i cf HL) λt1 jh=>?_;rcases Nat.lt_or_eq_of_le bN with h|h
 .exact bG (qc (gB (f:=λx:aO×az=>x.1) (as:=aP)) h) λk aw=>bG (R.at_ i k aw) λt ff=>(gi (cs k) t (t1 k aw) (G (hj _) ff))
 .refine bG R.last λt ff=>?_;rw[gB,<-h] at ff;exact(gi _ t (jh h) (G (hj _) ff))
theorem adf{D:bo->Int->Option gN}(O:g.Ok)(F:pN g.K)(xm:xw g.K)(Do:uR g zs iB D)(nY:AL g aP kK fg fA nX)(U:c.Ok g dep)(dN:dep<240)(R:bK (a7 β) [.r nb,.r kK] aH):
  cS g c β (lx (Dg D iB kK fg fA nX nb)) (jG g c (.ref 741) aH) a7:=by
 refine bG xm.fn λp hG=>G1 O U (sq dN (aR rfl)) hG (aR (by kernel_rfl)) R R.length (λI I=>rfl) λbI env ab aW st s m r U V H ei qj eV dX e Q E aq=>ct e λar tA e=>ct e λI hs e=>ct e λr w e=>ct e λi bN e=>omap e λcf HL e=>?_;subst e;have vR:=dX (bO "row",.local) (.head _);refine ig (abj nY H tA (mv hs)) λd6 ay eG yH uQ keys=>?_;obtain(⟨cH,hP,B,Bn,cA,a9⟩):=qj (bO "bag",.r nb) (.head _);obtain(⟨cX,ll,ahZ,oS,el,bf⟩):=qj (bO "known",.r kK) (.tail _ (.head _));cases(eG aW H.ghost).symm.trans el;subst a9;subst bf;have eS:=nY.eS;have PM:(ay.map (·.1)).length=aP.length:=by(refine G keys ?_;exact G (gB _) rfl)
 refine jm (Am (ade O xm.lst U (sq (Nat.succ_lt_succ dN) (aR rfl)) V H.toSatO ei ll yH uQ (by(refine G (bV (gB (f:=λx:aO×az=>x.1))) (G PM ?_));exact eS) (eV _ (.tail _ (.head _))) (dX (bO "list",.globalImplicit) (.tail _ (.head _))) λf7 gN arr wG up OD YH row=>?_));have jN:bI.gV gN:=.C8 U H.toSatO H.loc OD;refine Ac vR (show kT _ _ _ from ei.keeps up) (λiP B0 O5=>?_) (G V.kind rfl);have AG:SatO g (bI.more gN (listOf arr 0)) {st with loc:=[]} aW iP:=(H.toSatO.more jN OD up YH).local (f6:=[]) (U.more jN) V.apart (by rw[V.loc] at O5;exact O5.extBut);have m7:=AG.top (U.more jN) O;have xE:=AG.fl (U.more jN) O;obtain abw:iP.IsList gN arr:=qV (n:=0) (AG.keep gN _ (if_pos rfl));have zf:(λz=>if z=bO "row" then C (lE gN) else m z) (bO "row")=C (.ref gN):=if_pos rfl;obtain(⟨Di,bE,fZ,fd,gb,as,an,ds,bD,_⟩):=F.fn;have R5:arr.size=aP.length+1:=by exact G row.size (G PM rfl)
 refine jm (uu (qX (hE (hS V.kind vR (show kT _ _ _ from B0) zf ?_) (by kernel_rfl))));refine G ((oO (λI I I h=>by(injection h))) _ _) (b2 (l8 V.kind (dX (bO "_law_draw",.globalImplicit) (.tail _ (.tail _ (.head _)))) (ux (V.glob▸m7.g) (mg_of xE m7.g xm.draw) ?_) (by kernel_rfl)));refine callWith_def (o:=⟨bE,fZ,.func fd,gb⟩) (fd:=fd) rfl (kS (hE (hS V.kind (eV _ (.head _)) (show kT _ _ _ from B0) ((if_neg (aR (by kernel_rfl))).trans hP) ?_) (by kernel_rfl)));refine kS (G ((oO (λI I I h=>by(injection h))) _ _) (b2 (l8 V.kind (dX (bO "len",.globalImplicit) (.tail _ (.tail _ (.tail _ (.head _))))) (ur (V.glob▸m7.g) (uI xE m7.g F.len) (V.blt▸m7.b) ((m7.builtins "len" (aR (by kernel_rfl))).trans boot_len) ?_) (by kernel_rfl))));refine PyProof.Rows.callWith_builtin1 (kS (hE (hS V.kind vR (show kT _ _ _ from B0) zf ?_) (by kernel_rfl)));refine nL (Ef (show pC _ _ _ from abw) (qp (eP R5) (jk (Nat.succ_le_succ eS) (bA rfl))) (nL ⟨xE _ _ bD,?_⟩));have LL:∀t,Sat g (bI.more gN (listOf arr 0)) {st with loc:=[]} aW {s with heap:=iP,toks:=t}:=λt=>⟨AG,H.os,_,(show iP.Ns bI.L _ from V.loc▸B0),λx v e=>gy e⟩;obtain aw:=NJ (nb:=nb) (eI:=.ofNat (fg+1)) (aH:=[.ref B,.int (arr.size:Int) (wG+1+1)]) O F Do (U.more jN) (sq (Nat.succ_lt_succ dN) (aR rfl)) (.cons ⟨B,Bn,cA,rfl⟩ (.cons ⟨_,_,rfl,by(refine G R5 (G nY.len ?_));rfl⟩ .nil)) aW {st with loc:=[]} _ (.refl _) (LL (wG+1+1+1));obtain n8:lx (p7 D iB nb (.ofNat (fg+1))) {st with loc:=[]}=.ok r.1 (wj {st with loc:=[]} r):=by
  unfold lx;exact G (show p7 D iB nb (.ofNat (fg+1)) {st with loc:=[]}=C r from w) rfl
 unfold At at aw;rw[n8] at aw;obtain tF:=λQ E h=>sr (aw Q E h);dsimp only;refine tF _ _ λa jg av l S q=>?_;rw[pb bN] at q;(refine cz q λz tz N2 ja=>?_;try clear q);(obtain J:=aT N2;clear N2;subst J);subst ja;have PN:jg.heap.IsList gN arr:=qV (n:=0) (S.keep gN _ (if_pos rfl));obtain(⟨_,_,_,_,nn,_,W,_⟩):=NG Do (U.more jN) (LL s.toks) w;refine a3 (tr (a:=pk zs (nn+1)) W.pos) λI dA=>?_;obtain pg:(pk zs (nn+1)).fmod (pE (fg+1))=pE i:=W.lit _ (pb bN);rw[pg] at dA;have Pe:i<=aP.length:=by exact G (bV nY.len) (jn.mp (gk dA (uC (uq (fg:Int) 1))))
 refine cz (aeX nY S.ghost HL Pe row keys) λa_ dC a9 bf=>mM (show pC _ _ _ from PN).typeIs w3.lookup (DY (show pC _ _ _ from PN) (kV i) (qp Pe (jk eS (bA rfl))) (show arr[(i:Int).toNat]? =_ by exact G (KS _) bf) ?_) (ps rfl _ _);exact aq _ _ av l ⟨S.toSatO.less jN H.toSatO l (Xn w),S.os,S.loc⟩ ⟨a_,dC,a9,rfl⟩
noncomputable def aib(D:bo->Int->Option gN)(iB kK fg:Nat)(fA:List ag)(nX:Nat->Option ag):gW:=yF 741 240 λaK=>(ow aK).bind λq=>q.1.du.bind λnb=>q.2.du.bind λCY=>(k_ (cv CY kK)).map λI=>Dg D iB kK fg fA nX nb
end
theorem abm{a b:List (aO×az)}(h:a.map (·.1)=b.map (·.1))(e9:(a.map (·.1)).Nodup)(bJ:∀k,a0 a k=a0 b k):a=b:=by
 induction a generalizing b with
 |nil=>exact(Tw.mp h.symm).symm
 |cons p a bF=>
  induction b using es with
  |nil=>exact adD h
  |cons q b=>
  obtain(⟨k,v⟩):=p;obtain(⟨eF,gA⟩):=q;obtain aa:k=eF:=(qQ h).1;have af:=(qQ h).2;subst aa;rw[j2,jD] at e9;obtain ey:=bJ k;rw[lD,lD,if_pos rfl,if_pos rfl] at ey;(have J:=aT ey;clear ey;(clear h;subst J));have no:∀{l:List (aO×az)},k∉l.map (·.1)->a0 l k=none:=λ{l} h=>by unfold a0;(refine gM Kt (gM KL ?_));intro x ak e;exact h (G (bV (show x.1=k by simpa using e)) (kU ak))
  rewrite[bF af e9.2 λx=>?_]
  .rfl
  by_cases e:k=x
  .subst e;(refine G (no e9.1) (G (no (G (bV af) e9.1)) ?_);with_reducible rfl)
  .obtain this:=bJ x;rw[lD,lD,if_neg e,if_neg e] at this;exact this
noncomputable def PF(ah:cV)(k:Nat):Bool:=Cf 0 ah.ad 27&&Cv ah 0 k
noncomputable def y0(st:St)(fM:List (ag×Nat)):Bool:=(qC st 3).any λar=>(qC st 6).any λks=>(kJ ar).isSome&&(o5 st.au st.aE ks (fM.map (·.1))&&fM.all (λx=>ui st.au st.aE x.1 x.2 ks))
noncomputable def px(p:b4):b4:={p with au:=[anyI,(100,20000,C 0),(cG p.au 2).getD dY,(11,20000,C 0),(0,20000,C 0),(0,10000,none)]++p.au.drop 6}
noncomputable def hQ(o:Out di)(ah:cV)(p:b4)(k:Nat)(fM:List (ag×Nat)):Bool:=match o with
 |.ok .next st=>PF ah k&&h1 ah dR st (px p)&&y0 st fM
 |_=>ai
theorem Gr{o:cY}(hd:o.IsDictOf (strKind prog w) ay)(R:Rest (C old) β ay ar)(aa:∀e:ag×V,e∈ar->∀l,e.1.val β=C l->a0 old (aQ l)≠none/\a0 ay (aQ l)=a0 old (aQ l)):ay=old:=by
 refine a3 (R old rfl) λpre val=>?_;have e9:(ay.map (·.1)).Nodup:=by(refine t4 hd λI I I I I I h=>?_;try clear hd);exact h
 obtain keys:=PG e9 pre val λe he l aX=>(aa e he l aX).1;refine abm keys e9 λk=>?_;rcases val k with⟨e,he,aX⟩|h
 .obtain this:=(aa e he _ aX).2;rw[hj] at this;exact this
 .exact h
structure oF(g bq:cy):Prop where
 p:bq.prog=g.prog
 w:bq.w=g.w
 up:∀b x,g.h₀.get? b=C x->bq.h₀.get? b=C x
 S:g.S<=bq.S
theorem df.k9{e:b4}(bt:df g e β)(a6:oF g bq)(h:Dk e=ae):df bq e β:=bt.re h a6.p a6.w a6.up a6.S
variable{fM:List (ag×Nat)}
theorem Sh{X:gD}{c:bc}{s:aM}(T:bP X p g c dP s env fn aP at_ N)(l:dP.le aY)(H:Sat g c bk aY ao)(ix:∀i,i<27/\i≠9->cG ah.ad i=C i)(ba:Cv ah 0 k=ae)(af:h1 ah dR bk (px dI)=ae)(aJ:y0 bk fM=ae)
  (ng:lT 10000 (px dI).au dI.au=ae)(br:g.S+dR<=9000)(hs:∀x:ag×Nat,x∈fM->∃c L,x.1.val aY=C [c]/\aY.ad[x.2]? =C L/\a0 aP (aQ [c])=C (.ref L.1)):
  ∃bq bI,(∀c6,(pull ah aY).ad[9]? =C c6->bP {X with c6:=c6} dI bq bI (pull ah aY) ao env fn aP (at_+k) N)/\bq.S=g.S+dR/\oF g bq:=by
 refine mC (r9 T.good.ok T.cp H af (bU br (aR rfl))) λh₀ base hc=>?_;have F:=H.facts;exact cN aJ λar he aJ=>cN aJ λks HB aJ=>by
  refine ig (Dd H he (a4 l.ad T.gE)) λC5 eL HJ BP HV B9=>ig (Dd H HB (a4 l.ad T.jL)) λQT er B1 vv B_ tK=>?_;rw[T.sZ] at B9;rw[T.oM] at tK;refine bG (DQ.mp (bR aJ)) λu cx=>?_;obtain my:=bR (bB aJ);obtain hY:=bB (bB aJ);obtain cB:=Gr BP B9 λe he=>by rw[lq cx] at he;exact nomatch he
  obtain GC:=Gr vv tK λe he a_ aX=>by
   refine aS (vP F my (λk aw=>by(refine aS (kY.mp aw) λy bS J=>?_;(clear aw;subst J));exact cz (hs y bS) λc L a9 I=>⟨_,a9⟩) e he _ aX) λeF a b=>?_
   (refine aS (kY.mp a) λy bS J=>?_;(clear a;subst J));refine fD (hs y bS) λc L a9 bf cB=>?_;cases b.symm.trans a9;refine aS (z2 F b (eX.mp hY y bS) B_) λp dd dx=>?_;cases bf.symm.trans dd;exact⟨by exact G cB (Ky _),dx.trans cB.symm⟩
  have dk:=hc.sat;have nU:=dk.facts;refine(d1 (g.re h₀ dR (pull ah aY) base) (c.re h₀) (λc6 et=>?_) rfl ⟨rfl,rfl,λb x q=>hc.up b x (T.cp.base b x q),gs _ _⟩);obtain xC:=Si (dI:=dI) T l hc br ix ba (dk.bounds (au:=dI.au) ⟨Bs (ml:=10000) (bU br (aR rfl)) ng nU.aC,nU.aj,nU.cd,nU.de,nU.ck⟩) (cB▸hc.base _ _ _ HJ BP) (GC▸hc.base _ _ _ B1 vv) (G (show N+((0:Nat):Int)=N from Eb _) T.keys) (λtE k aw=>(T.ents k aw).imp λc x=>(fi x.1 x.2.1 (x.2.2.re rfl rfl tE (gs _ _) (λc I=>rfl) λc I=>rfl))) et;rw[show N+((0:Nat):Int)=N from Eb _] at xC;exact xC
theorem Sj{X:gD}{c:bc}{s:aM}(T:bP X p g c dP s env fn aP at_ N)(l:dP.le aY)(H:Sat g c bk aY ao)(aa:PF ah k=ae)(af:h1 ah dR bk (px dI)=ae)(aJ:y0 bk fM=ae)
  (ng:lT 10000 (px dI).au dI.au=ae)(br:g.S+dR<=9000)(hs:∀x:ag×Nat,x∈fM->∃c L,x.1.val aY=C [c]/\aY.ad[x.2]? =C L/\a0 aP (aQ [c])=C (.ref L.1)):
  ∃bq bI,bP X dI bq bI (pull ah aY) ao env fn aP (at_+k) N/\bq.S=g.S+dR/\oF g bq:=by
 have id:∀i,i<27->cG ah.ad i=C i:=λi bN=>by obtain this:=H4 (bR aa) i bN;rw[uE] at this;exact(fY _ _).trans this
 exact cz (Sh T l H (λi bN=>id i bN.1) (bB aa) af aJ ng br hs) λbq bI bW r=>(gi bq bI (bW _ (dz (id 9 (aR rfl)) (a4 l.ad T.hJ))) r)
noncomputable def zy(pT ri:gW):gW:=λdep f aK st=>match pT dep f aK st with
 |some o=>C o
 |none=>ri dep f aK st
theorem fu.or{pT ri:gW}(dq:fu g pT)(fz:fu g ri):fu g (zy pT ri):=λc dep β f aK aH U R aW st s aa S=>by
 obtain a:=dq c dep β f aK aH U R aW st s aa S;obtain b:=fz c dep β f aK aH U R aW st s aa S;unfold zy;unfold At at a b ⊢;dsimp only at a b ⊢;generalize q:pT dep (.c (.ref f)) aK st=aD;induction aD using b3 with
 |none=>exact b
 |some o=>rw[q] at a;exact a
noncomputable def td(l:List (Nat×Int×Int))(e:bo)(eI:Int):Option gN:=(l.find? λx=>pY x.1 5 e&&decide (eI=x.2.1)).map λx=>.lit x.2.2
noncomputable def Q7(off:Nat)(fA:List ag)(cf:ag)(nb:Nat)(st:St):pW V:=(qC st 6).bind λar=>(k_ (o5 st.au st.aE ar fA)).bind λI=>(NF nb st).bind λx=>
 (k_ (cv x.1 11&&pY off 5 x.2.1)).map λI=>(.s cf,x.2.2,st.au)
noncomputable def Df(off:Nat)(fA:List ag)(cf:ag):gW:=yF 741 240 λaK=>(ow aK).bind λq=>q.1.du.bind λnb=>q.2.du.bind λCY=>(k_ (cv CY 6)).map λI=>Q7 off fA cf nb
noncomputable def p6(l:List (Nat×Int×Int)):gW:=Gz (td l) 11
noncomputable def Jd(w m:Nat)(x:Nat):Option Nat:=match cv x w with
 |true=>C m
 |false=>none
structure xr(g:cy)(β:aZ)(zs:List Int)(after:Nat->Nat)(at_:Nat)(e4 eo:aF):Prop where
 Mt:β.ad[11]? =C (eo,eo)
 mm:∃aH k,g.h₀.get? eo=C (listOf aH k)/\bK (λ(z:Int) y=>∃t,y=.int z t) zs aH.toList
 eS:zs.length<=1000
 Mp:β.ad[10]? =C (e4,e4)
 u5:∃aH k,g.h₀.get? e4=C (listOf aH k)/\∀i,i<4->∃t,aH[i]? =C (.int (after i:Int) t)
 od:β.aC[5]? =C (at_:Int)
 low:at_<=9000
variable{e4 eo:aF}{off:Nat}
section
variable{at_:Nat}
theorem NK(L:xr g β zs after at_ e4 eo){l:List (Nat×Int×Int)}(h:∀x:Nat×Int×Int,x∈l->x.1<=900/\0<x.2.1/\fk zs (at_+x.1+1) x.2.1=x.2.2):uR (g.pin β) zs 11 (td l) where
 cells:=by exact cz L.mm λaH k aa af=>(wO eo aH k (λav a_=>a4 a_.ad L.Mt) aa af)
 eS:=L.eS
 draw:=λav a_ e eI r cb=>omap cb λx ak GU=>by
  refine fO (h x (Kl ak)) λaa af aJ=>?_;have q:=List.find?_some ak;obtain bf:=aR (bB q);(clear ak;subst bf);(clear cb;subst GU);refine(l4 (x.1+at_) ?_ (bU (mP aa L.low) (aR rfl)) af (λgA e=>?_))
  .exact G (Ma (bR q)) (lR (a4 a_.aC L.od))
  .cases e;exact G (ko x.1 at_) aJ
theorem vi(O:g.Ok)(F:pN g.K)(L:xr g β zs after at_ e4 eo){l:List (Nat×Int×Int)}(h:∀x:Nat×Int×Int,x∈l->x.1<=900/\0<x.2.1/\fk zs (at_+x.1+1) x.2.1=x.2.2):fu (g.pin β) (p6 l):=
 NI (g:=g.pin β) (⟨O.fl,O.top,O.S,O.low⟩) F (NK L h)
theorem Wo(O:g.Ok)(F:uP g.K)(L:xr g β zs after at_ e4 eo){w m:Nat}(h:hW after 99 w=m):fu (g.pin β) (F4 (Jd w m) 10):=
 Wr (g:=g.pin β) (after:=after) (⟨O.fl,O.top,O.S,O.low⟩) F ⟨by
  exact cz L.u5 λaH k aa af=>(wO e4 aH k (λav a_=>a4 a_.ad L.Mp) aa af),λx v e=>by
  unfold Jd at e;split at e
  .rename_i q;(obtain J:=aT e;clear e;subst J);exact G (d2 q) h
  ·(exact bM e)⟩
noncomputable def jR(zs:List Int)(n:Nat)(aP:List (aO×az)):Nat:=(fk zs n (aP.length+1:Nat)).toNat
theorem ae0{c:bc}{ah:Type}{x se:St->pW aV}{W:Wp ah}{R:aZ->aV->ah->Prop}(k:∀st r,se st=C r->x st=C r)(h:cS g c β (lx x) W R):cS g c β (lx se) W R:=by
 intro aW st s aa H;generalize e:se st=aD;induction aD using b3 with
 |none=>exact At.o3 (n:=180) (by unfold lx;exact G e rfl)
 |some r=>exact At.same (h aW st s aa H) (by unfold lx;exact G e (G (k st r e) rfl))
noncomputable def C_(i:Nat)(cf:ag)(j:Nat):Option ag:=(k_ (cv j i)).map λI=>cf
theorem Xq{v:Int}{e:bo}(h:pY k 5 e=ae):td [(k,eI,v)] e eI=C (.lit v):=by unfold td;refine G (List.find?_cons_of_pos (by show(pY k 5 e&&decide (eI=eI))=ae;(refine G h (G (decide_eq_true rfl) ?_));rfl)) ?_;rfl
theorem ada{i:Nat}{st:St}{r:V×d0 (Bool×O)×List b5}(h:Q7 off fA cf nb st=C r):Dg (td [(off,((fg+1:Nat):Int),(i:Int))]) 11 6 fg fA (C_ i cf) nb st=C r:=
 ct h λar tA h=>ct h λI aw h=>ct h λx ak h=>omap h λI gx h=>by
  have gx:=mv gx;obtain d:p7 (td [(off,((fg+1:Nat):Int),(i:Int))]) 11 nb (.ofNat (fg+1)) st=C (.i (.lit (i:Int)),x.2.2,st.au):=by unfold p7;(refine G ak (G (Ak _ _) (G (bR gx) ?_)));show(td _ x.2.1 ((fg+1:Nat):Int)).map _=_;exact G (Xq (bB gx)) rfl
  unfold Dg;(refine G tA (G (Ak _ _) (G aw (G (Ak _ _) (G d (G (Ak _ _) ?_))))));show(C_ i cf i).map _=_;unfold C_;exact G (Lf _) (congrArg C h)
theorem adb(O:g.Ok)(F:pN g.K)(xm:xw g.K)(L:xr g β zs after at_ e4 eo){d6:aF}(Z7:off<=900)(ZT:β.ad[6]? =C (d6,d6))(aB:g.base d6=C aP)(eS:aP.length<=100000)(hs:∀k∈fA,∃l,ag.val β k=C l/\a0 aP (aQ l)≠none)
  (bw:(∀k,(aP.map (·.1))[jR zs (at_+off+1) aP]? =C k->ag.val β cf=C (cs k))/\(jR zs (at_+off+1) aP=aP.length->ag.val β cf=C (cs "none"))):fu (g.pin β) (Df off fA cf):=by
 obtain Uh:(g.pin β).Ok:=⟨O.fl,O.top,O.S,O.low⟩;have pos:(0:Int)<((aP.length+1:Nat):Int):=mR.mpr (pA _);obtain D:=NK L (l:=[(off,((aP.length+1:Nat):Int),((jR zs (at_+off+1) aP:Nat):Int))]) λx ak=>by obtain rfl:=eu.mp ak;exact(fi Z7 pos ((Af (tr pos).1).symm))
 obtain ac8:AL (g.pin β) aP 6 aP.length fA (C_ (jR zs (at_+off+1) aP) cf):=⟨(bh d6 (λav a_=>a4 a_.ad ZT) aB),rfl,eS,λav a_ k aw=>(hs k aw).imp λl x=>⟨ag.hy a_ x.1,x.2⟩,λav a_ j Q0 e=>omap e λI q cq=>by cases d2 (mv q);(clear e;subst cq);exact⟨λk aw=>ag.hy a_ (bw.1 k aw),λaw=>ag.hy a_ (bw.2 aw)⟩⟩
 exact HO λc dep β aH x aK U hd R aw=>ct aw λq aq aw=>ct aw λnb aa aw=>ct aw λCY af aw=>omap aw λI aJ aw=>by subst aw;rw[ug aq,t_ aa,t_ af,d2 (mv aJ)] at R;exact ae0 (λst r h=>ada h) (adf Uh F xm D ac8 U hd R)
end
noncomputable def vI(gK:b5):List b5:=[anyI,(100,10000,C 0),gK,(11,10000,C 0),(0,10000,C 0),(0,9000,none)]
noncomputable def fy(gK:b5)(aE:List bz):b4:=⟨Je JG (.dict [] (C [])) (.dict [] (C [])),vI gK,aE,0,IT++([("name",sc 0)]:Loc)⟩
structure kx where
 p:b4
 jy:List (List Nat×List ag×b4)
 fM:List (ag×Nat)
 d6:List ag
noncomputable def kx.v(x:kx):AP:=⟨[],[],[],[],x.fM.map λe=>(e.1,aI e.2),x.d6⟩
noncomputable def RJ(st:St)(x:kx):St:=pn st 6 ae x.v.fM x.d6
noncomputable def kx.st(x:kx):St:=RJ (x.jy.foldl hO x.p.st) x
noncomputable def j5:b4:=⟨[fix .gone],[],[],0,[]⟩
noncomputable def jI(z:Int):b4:=⟨[fix (.tup [aC 0,.u,.u])],[(z,z,none)],[],0,[]⟩
noncomputable def uY(m:Nat):b4:=⟨[fix (.tup [aC 0,li m,cZ ""])],[uj],[],0,[]⟩
noncomputable def L1:b4:=⟨[fix (.tup [aC 0,li 1,sc 0])],[uj],[bC],0,[]⟩
noncomputable def iE(K:b7)(H:gW)(x:kx):Out di:=(ep K H 300).xs (lax K) (((ea K).drop 1).take 2) x.st
noncomputable def pl(m:Nat):b5:=(1,(match dw m 5 with|true=>(m:Int)-1|false=>5),none)
noncomputable def p3(gK:b5):kx:=⟨fy gK [bC],[],[],[bD]⟩
noncomputable def k2(gK:b5):kx:=⟨fy gK [bC],[([],[],j5)],[(bD,27)],[]⟩
noncomputable def va:kx:=⟨fy dY [bC],[],[],[bD,dc "none"]⟩
noncomputable def vb:kx:=⟨fy dY [bC],[([],[],j5)],[(bD,27)],[dc "none"]⟩
noncomputable def rv(z:Int):kx:=⟨fy dY [bC],[([],[],jI z)],[(bD,27)],[]⟩
noncomputable def m_(u:List ag×b4)(aE:List bz):kx:=⟨fy dY ([bC,bC]++aE),[([],u.1,u.2)],[(bu,27)],[bD]⟩
noncomputable def oL(u:List ag×b4):kx:=⟨fy dY [bC,bC],[([],u.1,u.2),([],[],j5)],[(bu,27),(bD,28)],[]⟩
noncomputable def V1:List Nat:=[0,1,2,3,4,5,6,7,8,9,10,11,12,13,14,15,16,17,18,19,20,21,22,23,24,25,26]
noncomputable def hF(tail:List Nat)(k:Nat)(aC:List bo)(aj:List ag):cV:=⟨V1++tail,[.aL 0 ai 0,.aL 0 ai 1,.aL 0 ai 2,.aL 0 ai 3,.aL 0 ai 4,.aL (k:Int) ai 5]++aC,aj,[]⟩
noncomputable def lc(w:Nat):ag:=[.lit [97+w]]
noncomputable def yD(way:Int)(w m:Nat):gW:=zy (F4 (Jd w m) 10) (p6 [(0,5,way),(1,4,(w:Int))])
noncomputable def ql(w:Nat)(fM:List ag)(cf:ag):gW:=zy (Df 2 fM cf) (p6 [(0,5,3),(1,4,(w:Int))])
noncomputable def tI(fM:List ag)(cf:ag):gW:=zy (Df 1 fM cf) (p6 [(0,5,4)])
noncomputable def HN:gW:=p6 [(0,5,2)]
noncomputable def z4:List Int:=[0,1]
noncomputable def four:List Nat:=[0,1,2,3]
noncomputable def vX:List Nat:=[1,2,3,4]
noncomputable def zb:List Nat:=[2,3,4,99]
noncomputable def qM:List Int:=[-1,0,1,2,3]
noncomputable def FD(K:b7):Bool:=z4.all λway=>four.all λw=>vX.all λm=>hQ (iE K (yD way w m) (p3 (ki m))) (hF [29,27,28,30] 2 [.lit (w:Int)] [lc w,bD]) (k7 (ki m) (sc 1) (.tup m ey) [dD,bC]) 2 []
noncomputable def FC(K:b7):Bool:=z4.all λway=>four.all λw=>vX.all λm=>hQ (iE K (yD way w m) (k2 (ki m))) (hF [30,28,29] 2 [] [lc w,bD]) (k7 (ki m) (sc 1) .no [dD,bC]) 2 [(bD,27)]
noncomputable def FE(K:b7):Bool:=z4.all λway=>four.all λw=>zb.all λm=>hQ (iE K (yD way w m) (p3 (pl m))) (hF [29,27,28] 2 [] [lc w]) (k7 dY .u .no [dD]) 2 []
noncomputable def FF(K:b7):Bool:=z4.all λway=>four.all λw=>zb.all λm=>hQ (iE K (yD way w m) (k2 (pl m))) (hF [30,28,29] 2 [] [lc w]) (k7 dY .u .no [dD]) 2 [(bD,27)]
noncomputable def FQ(K:b7):Bool:=hQ (iE K HN (p3 dY)) (hF [29,27,28,30] 1 [.lit (-1)] [bD]) (Dh (.tup 1 ey)) 1 []
noncomputable def FP(K:b7):Bool:=hQ (iE K HN (k2 dY)) (hF [30,28,29] 1 [] [bD]) (Dh .no) 1 [(bD,27)]
noncomputable def FG(K:b7):Bool:=four.all λw=>hQ (iE K (ql w [] (dc "none")) va) (hF [31,27,30,29,28] 3 [] [lc w]) (eB .u (cZ "none") .no [dD]) 3 []
noncomputable def FH(K:b7):Bool:=four.all λw=>hQ (iE K (ql w [bD] (dc "none")) vb) (hF [32,28,31,30,29] 3 [] [lc w]) (eB .u (cZ "none") .no [dD]) 3 [(bD,27)]
noncomputable def FJ(K:b7):Bool:=four.all λw=>hQ (iE K (ql w [bD] bD) (rv (w:Int))) (hF [32,28,31,30,29] 3 [] [lc w,bD]) (eB (sc 1) (sc 1) .no [dD,bC]) 3 [(bD,27)]
noncomputable def FO(K:b7):Bool:=four.all λw=>qM.all λz=>match decide (z=(w:Int)) with
 |true=>ae
 |false=>hQ (iE K (ql w [bD] bD) (rv z)) (hF [32,28,31,30,29] 3 [] [lc w,bD]) (eB .u (sc 1) .no [dD,bC]) 3 [(bD,27)]
noncomputable def FK(K:b7):Bool:=four.all λw=>hQ (iE K (ql w [bu] bu) (m_ ([],jI (w:Int)) [])) (hF [32,28,31,30,29,33] 3 [.lit (-1)] [lc w,bu,bD]) (eB (sc 2) (sc 1) (.tup 1 (sc 1)) [dD,bC,bC]) 3 [(bu,27)]
noncomputable def FI(K:b7):Bool:=four.all λw=>hQ (iE K (ql w [bu,bD] bu) (oL ([],jI (w:Int)))) (hF [33,29,32,31,30] 3 [] [lc w,bu,bD]) (eB (sc 2) (sc 1) .no [dD,bC,bC]) 3 [(bu,27),(bD,28)]
noncomputable def FL(K:b7):Bool:=four.all λw=>qM.all λz=>match decide (z=(w:Int)) with
 |true=>ae
 |false=>hQ (iE K (ql w [bu] bu) (m_ ([],jI z) [])) (hF [32,28,31,30,29] 3 [] [lc w,bu]) (eB .u (sc 1) .no [dD,bC]) 3 [(bu,27)]
noncomputable def FN(K:b7):Bool:=four.all λw=>qM.all λz=>match decide (z=(w:Int)) with
 |true=>ae
 |false=>hQ (iE K (ql w [bu,bD] bu) (oL ([],jI z))) (hF [33,29,32,31,30] 3 [] [lc w,bu]) (eB .u (sc 1) .no [dD,bC]) 3 [(bu,27),(bD,28)]
noncomputable def Fz(K:b7):Bool:=hQ (iE K (tI [] (dc "none")) va) (hF [28,27] 2 [] []) (lQ .u (cZ "none") .no []) 2 []
noncomputable def FA(K:b7):Bool:=hQ (iE K (tI [bD] (dc "none")) vb) (hF [29,28] 2 [] []) (lQ .u (cZ "none") .no []) 2 [(bD,27)]
noncomputable def Fx(K:b7):Bool:=hQ (iE K (tI [bD] bD) ⟨fy dY [bC],[([],[],j5)],[(bD,27)],[]⟩) (hF [29,28] 2 [] [bD]) (lQ (sc 0) (sc 0) .no [bC]) 2 [(bD,27)]
noncomputable def A6(K:b7):Bool:=vX.all λm=>hQ (iE K (tI [bu] bu) (m_ ([],uY m) [])) (hF [29,28,27] 2 [.aL 0 ai 6] [bu,bD]) (lQ (sc 1) (sc 0) (.tup m ey) [bC,bC]) 2 [(bu,27)]
noncomputable def Fy(K:b7):Bool:=hQ (iE K (tI [bu] bu) (m_ ([c3],L1) [bC])) (hF [29,28,27] 2 [.aL 0 ai 6] [bu,bD,c3]) (lQ (sc 1) (sc 0) (.tup 1 (sc 2)) [bC,bC,bC]) 2 [(bu,27)]
noncomputable def Fw(K:b7):Bool:=hQ (iE K (tI [bu,bD] bu) (oL ([],j5))) (hF [30,29] 2 [] [bu,bD]) (lQ (sc 1) (sc 0) .no [bC,bC]) 2 [(bu,27),(bD,28)]
section
variable{rl:Model}
theorem Yj{b:List eO}(a:List eO):∀(oE:Ctx)(I:oE.In A)(p:cn)(s:aM),Sem.wp rl oE (cF a env) (λf I ao=>match f with|.next=>a5 rl A (cF b env) Q E ao|f=>Q f ao) (λe I ao=>E e ao) p s->
  Sem.wp rl oE (cF (a++b) env) (λf I ao=>Q f ao) (λe I ao=>E e ao) p s:=by
 induction a with
 |nil=>intro oE vG p s h;obtain h:a5 rl A (cF b env) Q E s:=h;exact h oE p vG
 |cons x r bF=>
  intro oE vG p s h;rw[execs_cons,Sem.wp_bind'] at h;(refine G List.cons_append ?_;(refine G (execs_cons _ _ _) ?_;rewrite[Sem.wp_bind']));refine Sem.wp_mono rl oE _ (λf dI ao aA=>?_) (λI I I aA=>aA) _ _ h;induction f using wX with
  |next=>exact bF oE vG dI ao aA
  |_=>exact aA
theorem GX{a b:List eO}{s:aM}(h:a5 rl A (cF a env) (λf ao=>match f with|.next=>a5 rl A (cF b env) Q E ao|f=>Q f ao) E s):a5 rl A (cF (a++b) env) Q E s:=
 λoE p vG=>Yj a oE vG p s (h oE p vG)
end
theorem afO(l:List aV):l.drop 1=(l.drop 1).take 2++l.drop 3:=by obtain this:=q3 2 (l.drop 1);rw[D5] at this;exact this.symm
variable{hI:Nat}{j7:Int}
section
variable{X:gD}{c:bc}{s:aM}
set_option tactic.hygienic true in
theorem i1{x:kx}(T:bP X p g c β s env fn aP at_ N)(l:β.le b1)(f9:fu (g.pin b1) h3)(H:Sat g c x.st b1 s)(run:hQ (iE X.K h3 x) ah dI k fM=ae)(ng:lT 10000 (px dI).au dI.au=ae)(br:g.S+dR<=9000)
  (hs:∀x:ag×Nat,x∈fM->∃c L,x.1.val b1=C [c]/\b1.ad[x.2]? =C L/\a0 aP (aQ [c])=C (.ref L.1))
  (next:∀bq bI aY ao,b1.le aY->bP X dI bq bI (pull ah aY) ao env fn aP (at_+k) N->bq.S=g.S+dR->oF g bq->dW bq bI (cF ((ea X.K).drop 3) env) Q E ao):dW g c (cF ((ea X.K).drop 1) env) Q E s:=by
 have fx:=T.good.pin (β:=b1);obtain aj:=(o2 fx.ok fx.lay fx.raise f9 300).xs c (lax X.K) env b1 (((ea X.K).drop 1).take 2) T.cp.pin (T.env.le l) b1 x.st s (.refl _) H.pin;rw[show(g.pin b1).K=X.K from T.k] at aj;unfold At at aj;unfold hQ iE at run;refine aS (zu run) λbk q run=>?_;rw[q] at aj;simp only[ew] at run;(refine a3 run λJ hx=>?_;try clear run;refine a3 J λda dA=>?_;try clear J);refine G (afO _) (GX (aj _ E λeK ao aY a_ S R=>?_));obtain rfl:=R;obtain S:=S.wI H.ghost;refine fD (Sj T (l.trans a_) S da dA hx ng br λx ak=>(fD (hs x ak) λc L a1 a2 cj=>(d1 c L (ag.hy a_ a1) (a4 a_.ad a2) cj))) λbq bI bW ez eA=>?_;obtain this:a5 bq.M bI.A (cF ((ea X.K).drop 3) env) Q E ao:=next bq bI aY ao a_ bW ez eA
 rw[bW.m,bW.a] at this;show a5 g.M c.A (cF ((ea X.K).drop 3) env) Q E ao;(refine G T.m (G T.a ?_));exact this
noncomputable def k6(st:St):Bool:=newD (st.σ.get 6)
theorem ov{st:St}{x:kx}(T:bP X p g c β s env fn aP at_ N)(l:β.le b1)(H:Sat g c st b1 s)(hf:k6 st=ae)(aw:pV b1 aP x.v.fM x.d6):Sat g c (RJ st x) b1 s:=by
 obtain nd:st.σ.get 6=C (ae,.dict [] (C [])):=by exact CS hf
 exact a3 aw.parts λbu c3=>JH H (aR rfl) nd (a4 l.ad T.jL) T.oM bu c3 aw.abs
structure rk(X:gD)(env:hB)(hI:Nat)(j7:Int)(Q:fH->aM->Prop):Prop where
 T:∀ao,(∀a o,X.h0.get? a=C o->ao.heap.get? a=C o)->ao.os=X.dT.os/\ao.gens=X.dT.gens->Q (.ret (.bool ae)) ao
 N:∀ao bq bI av eL er dp sR,bP X T0 bq bI av ao env eL er dp sR->bq.S<=hI->dp<=j7->Q .next ao
theorem rk.turn(aq:rk X env hI j7 Q)(T:bP X p g c β s env fn aP at_ N)(br:g.S+dR<=hI)(aU:at_<=j7):gn X g c env at_ X.c6 Q where
 T:=λao k os=>aq.T ao (λa o e=>k a o (T.hk a o e)) (by(refine a3 os λaa af=>?_;try clear os);rw[T.dT] at aa af;exact⟨aa,af⟩)
 N:=λao bq bI av eL er sR bW I ez I I I=>aq.N ao bq bI av eL er at_ sR bW (ez▸br) aU
theorem bP.abi(T:bP X p g c β s env fn aP at_ N)(h:k6 p.st=ae):aP.length<=g.S:=by
 have nd:p.st.σ.get 6=C (ae,.dict [] (C [])):=by exact CS h
 refine bG T.sat.objs λf hf=>?_;obtain(⟨fe,Gh,bY,c5,_⟩):=hf 6 ae _ nd;rw[T.jL] at bY;(have J:=aT bY;clear bY;refine a3 (eD J) λbT cu=>?_;clear J;subst bT;subst cu);obtain(⟨_,_,QT,er,B1,vv,B_,_,⟨_,tK⟩,eS⟩):=(show cL g s.heap.get? β X.d6 X.d6 (.dict [] (C [])) from c5);rw[T.oM] at tK;obtain rfl:=Gr vv tK λe he=>(nomatch he);have:er.length<=([]:List (ag×V)).length+g.S:=eS;simpa using this
end
structure Own(X:gD)(zs:List Int):Prop where
 draw:pN X.K
 chain:uP X.K
 other:xw X.K
 mm:∃aH k,X.h0.get? X.eo=C (listOf aH k)/\bK (λ(z:Int) y=>∃t,y=.int z t) zs aH.toList
 eS:zs.length<=1000
 u5:∃aH k,X.h0.get? X.e4=C (listOf aH k)/\∀i,i<4->∃t,aH[i]? =C (.int (X.after i:Int) t)
section
variable{X:gD}{c:bc}{s:aM}
theorem Own.lists(W:Own X zs)(T:bP X p g c β s env fn aP (n:Int) N)(l:β.le b1)(low:n<=9000):xr g b1 zs X.after n X.e4 X.eo where
 Mt:=a4 l.ad T.k0
 mm:=by exact cz W.mm λaH k aa af=>(gi aH k (G (bV T.eB) (T.hk _ _ aa)) af)
 eS:=W.eS
 Mp:=a4 l.ad T.j8
 u5:=by exact cz W.u5 λaH k aa af=>(gi aH k (G (bV T.eB) (T.hk _ _ aa)) af)
 od:=a4 l.aC T.od
 low:=low
end
section
variable{X:gD}{c:bc}{s:aM}
set_option tactic.hygienic true in
theorem afv{a b:List eO}(T:bP X p g c β s env fn aP at_ N)(f9:fu (g.pin β) h3)(run:hQ ((ep X.K h3 300).xs (lax X.K) a p.st) ah dI k []=ae)(ng:lT 10000 (px dI).au dI.au=ae)(br:g.S+dR<=9000)
  (next:∀bq bI aY ao,β.le aY->bP X dI bq bI (pull ah aY) ao env fn aP (at_+k) N->bq.S=g.S+dR->oF g bq->dW bq bI (cF b env) Q E ao):dW g c (cF (a++b) env) Q E s:=by
 have fx:=T.good.pin (β:=β);obtain aj:=(o2 fx.ok fx.lay fx.raise f9 300).xs c (lax X.K) env β a T.cp.pin T.env β p.st s (.refl _) T.sat.pin;rw[show(g.pin β).K=X.K from T.k] at aj;unfold At at aj;unfold hQ at run;refine aS (zu run) λbk q run=>?_;rw[q] at aj;simp only[ew] at run;(refine a3 run λJ hx=>?_;try clear run;refine a3 J λda dA=>?_;try clear J);refine GX (aj _ E λeK ao aY a_ S R=>?_);obtain rfl:=R;obtain S:=S.wI T.sat.ghost;refine fD (Sj T a_ S da dA hx ng br λx ak=>(nomatch ak)) λbq bI bW ez eA=>?_;obtain this:a5 bq.M bI.A (cF b env) Q E ao:=next bq bI aY ao a_ bW ez eA
 rw[bW.m,bW.a] at this;show a5 g.M c.A (cF b env) Q E ao;(refine G T.m (G T.a ?_));exact this
end
noncomputable def six:List Nat:=[0,1,2,3,4,5]
noncomputable def BB:List Int:=[0,1,2,3,4]
noncomputable def H2:List b5:=[anyI,(100,10000,C 0),dY,(11,10000,C 0),(0,10000,C 0),(0,8000,none)]
noncomputable def AQ(i:Nat):b4:=⟨Je JG (.dict [] (C [])) (.dict [] (C [])),H2,[],0,IT++([("turn",li i)]:Loc)⟩
noncomputable def nameAt(i:Nat):Nat:=(cG [112,113,114,115,116,118,119] i).getD 0
noncomputable def Fv(K:b7):Bool:=six.all λi=>BB.all λd=>hQ ((ep K (p6 [(0,5,d)]) 300).xs (lax K) ((ea K).take 1) (AQ i).st) (hF [] 1 [] [[.lit [nameAt (i+(d/4).toNat)]]]) (fy dY [bC]) 1 []
noncomputable def ht(i left:Nat):Obj:={cls:=.type "range_iterator",dict:=none,data:=.fields #[q2 i,q2 left,q2 1],slots:=#[]}
theorem Ih(i left:Nat):ip (ht i left):=λaK e=>by cases e;exact⟨by simp,_,rfl⟩
noncomputable def cy.iter(g:cy)(o:cY):cy:={g with raw:=λI=>o}
noncomputable def gD.iter(X:gD)(o:cY):gD:={X with raw:=λI=>o}
noncomputable def lY:O->Bool
 |.raw _=>ae
 |_=>ai
variable{dn:cY}
section
theorem cL.iter{a6:aF->Option cY}{a:aF}(n:lY o=ai)(h:cL g a6 β a d o):cL (g.iter dn) a6 β a d o:=by
 induction o using MI.O.casesOn with
 |raw _=>exact jB n
 |_=>exact h
theorem Uq:∀n,n<27->∀x,T0.os[n]? =C x->lY x.2=ae->n=9:=by
 obtain h:((pD 27).all λn=>match cG T0.os n with|some x=>!lY x.2||Nat.beq n 9|none=>ae)=true:=by kernel_rfl
 intro n aN x ak cb;obtain this:=eX.mp h n (List.mem_range.mpr aN);rw[fY,ak] at this;simp only[cb,Bool.not_true,Lc] at this;exact d2 this
end
section
variable{X:gD}{c:bc}{s:aM}
theorem bP.Ml(T:bP X T0 g c β s env fn aP at_ N):∃a,X.c6=(a,a)/\s.heap.get? a=C (X.raw 0)/\c.gV a/\(∀o,X.h0.get? a≠C o):=by
 obtain et:T0.st.σ.get 9=C (ae,.raw 0):=by exact G ((b4.get (aR rfl)) _) rfl
 refine bG T.sat.objs λf hf=>?_;obtain(⟨a,d,bY,c5,fF⟩):=hf 9 ae _ et;rw[T.hJ] at bY;refine fO (show cL g s.heap.get? β a d (.raw 0) from c5) λe aa I=>?_;(clear c5;subst e);generalize ak:X.c6=aD;induction aD using Prod.casesOn with
 |mk i j=>rw[ak] at bY;cases(bY);refine(l4 a rfl (G (bV T.raw) aa) ((fF rfl).hM) (λo e=>?_));obtain this:=T.hk _ _ e;rw[(fF rfl).hM.1] at this;exact bM this
theorem ago{a:aF}(T:bP X T0 g c β s env fn aP at_ N)(aU:X.c6=(a,a))(aB:lK a s.heap aA)(bw:aA.get? a=C dn)(aN:ip dn):bP (X.iter dn) T0 (g.iter dn) c β {s with heap:=aA,toks:=t} env fn aP at_ N:=by
 have hJ:=T.hJ;rw[aU] at hJ;have et:T0.st.σ.get 9=C (ae,.raw 0):=by exact G ((b4.get (aR rfl)) _) rfl
 have H:=T.sat;refine bG H.objs λf hf=>?_;obtain(⟨VR,Xs,bY,c5,fF⟩):=hf 9 ae _ et;rw[hJ] at bY;(obtain J:=aT bY;clear bY;refine a3 (eD J) λbT cu=>?_;clear J;subst bT;(clear c5;subst cu));obtain(⟨f1,_,fr,_,_⟩):=fF rfl;refine aS H.loc λm hm aX=>?_;obtain S:Sat (g.iter dn) c T0.st β {s with heap:=aA,toks:=t}:=by
  refine⟨⟨λx y q=>aB x y (λz=>by rw[z,fr.1] at q;exact bM q) (H.keep x y q),λx ak=>?_,⟨f,λn own y q=>?_⟩,H.len,H.facts,H.ghost⟩,H.os,m,hm.extBut aB (km fr.2.1),aX⟩
  .exact bG (H.cw x ak) λde q=>⟨de,aB _ _ (fr.2.2 x ak) q⟩
  .obtain(⟨eg,fK,g1,g2,g3⟩):=hf n own y q;refine⟨eg,fK,g1,?_,g3⟩;by_cases qk:n=9
   .subst qk;rw[et] at q;(obtain J:=aT q;clear q;refine a3 (eD J) λbT cu=>?_;clear J;subst bT;subst cu);rw[hJ] at g1;(obtain J:=aT g1;clear g1;refine a3 (eD J) λbT cu=>?_;clear J;subst bT;(clear g3 g2;subst cu));exact⟨rfl,bw,aN⟩
   .have qy:lY y=false:=by
     obtain lt:n<27:=by obtain this:n<β.ad.length:=(j0.mp g1).1;rw[H.len] at this;exact this
     obtain e:T0.os[n]? =C (own,y):=by exact G (bV ((b4.get (aR rfl)) _)) q
     generalize cb:lY y=aD;induction aD using bZ with
     |false=>rfl
     |true=>exact absurd (Uq n lt _ e cb) qk
    clear q;induction own using bZ with
    |false=>exact(cL.iter qy g2)
    |true=>obtain(⟨cH,cX,_⟩):=g3 rfl;exact cL.iter qy (g2.mono (.refl _) (λI=>aB eg _ λz=>qk (G (bV cH) (G z (G f1 rfl)))) (λI=>aB fK _ λz=>qk (G (bV cX) (G z (G f1 rfl)))))
 refine⟨⟨⟨T.good.ok.fl,T.good.ok.top,T.good.ok.S,T.good.ok.low⟩,T.good.lay,T.good.raise⟩,T.k,⟨T.cp.base,T.cp.frames,T.cp.here,T.cp.hd,T.cp.iX,T.cp.depth,T.cp.units,T.cp.calm,T.cp.dep⟩,T.env,S,T.eB,T.gens.re rfl rfl (λI I e=>e) (dO _) λold h=>?_,T.cA,T.el,T.gE,T.jL,T.j8,T.k0,T.k1,T.room,T.od,T.ee,T.sZ,T.oM,T.keys,λk aw=>?_,T.S,T.m2,T.aB,T.m,T.a,T.hk,T.hJ,rfl,T.dT⟩
 .exact aS T.gens.gen.dict λo a9 bf=>T.aB _ _ _ _ a9 bf h▸rfl
 .exact eH (T.ents k aw) λc dv dU E=>(fT c dv dU (E.re rfl rfl (λI I e=>e) (dO _) (λc I=>rfl) λc I=>rfl))
end
noncomputable def gone(n:Nat):List (Bool×O):=List.replicate n (fix .gone)
noncomputable def fJ:b4:=⟨gone 7++ [own (.dict [(dc "cells",aI 11),(dc "at",li 0)] none),own (.cell (C (aI 7)))]++gone 18,[],[],0,[]⟩
noncomputable def ry(K:b7)(a:aF):List Stmt:=match K.lookup a with
 |some ⟨_,_,.func fd,_⟩=>(match fd.body with|.stmts b=>b|_=>[])
 |_=>[]
noncomputable def r8(K:b7)(a:aF):Scope:=match K.lookup a with
 |some ⟨_,_,.func fd,_⟩=>fd.scope
 |_=>{kind:=.module,names:=[],isGenerator:=ai,isCoroutine:=ai}
noncomputable def ah2:gW:=λdep f aK st=>match f,aK with
 |.c (.ref a),[]=>(match cv a 701&&eQ dep 250&&eQ st.no 10000000 with
  |true=>C (.ok (.r st.no) {st with σ:=st.σ.put cU st.no (ai,.gone),no:=st.no+1})
  |false=>none)
 |_,_=>none
noncomputable def kj(K:b7):cI:=⟨r8 K 734,[],3⟩
noncomputable def kQ(K:b7):List Stmt:=ry K 734
noncomputable def xH:b5:=(0,5,none)
noncomputable def fV:b4:=⟨gone 7++ [own (.dict [(dc "cells",aI 11),(dc "at",li 5)] none),own (.cell (C (aI 7))),fix .gone,fix (.list [aC 0,aC 1,aC 2,aC 3])]++gone 16,[xH,xH,xH,xH,dY],[],0,[("after",aI 10)]⟩
noncomputable def F3(ab:cI)(ah:cV):Bool:=ab.cells.all λe=>match cG ah.ad e.2 with
 |some n=>cv n e.2
 |none=>ai
noncomputable def wA(o:Out di)(ab:cI)(ah:cV)(bX:Nat)(p:b4):Bool:=match o with
 |.ok .next st=>F3 ab ah&&h1 ah bX st p
 |_=>ai
noncomputable def Jv(o:Out di)(ah:cV)(bX:Nat)(p:b4)(r:V):Bool:=o.r0.any λw=>w.1.t9.any λv=>h1 ah bX w.2 p&&n2 ah w.2.au w.2.aE r v
theorem aeg{o:Out di}{r:V}(h:Jv o ah bX p r=ae):∃v st,o=.ok (.ret v) st/\h1 ah bX st p=ae/\n2 ah st.au st.aE r v=true:=cN h λw e h=>cN h λv bf h=>(d1 v w.2 (G (t7 e) (G (RB bf) rfl)) (bR h) (bB h))
section
variable{c:bc}{s:aM}{ab:cI}{st:St}
theorem F2:∀{l:List (aO×Nat)},k3 x l=C n->∃e∈l,e.2=n
 |[],h=>by exact bM h
 |e::r,h=>by
  rw[F1] at h;split at h
  ·(obtain J:=aT h;clear h;subst J);exact(bh e (.head _) rfl)
  .exact aS (F2 h) λcq a b=>(bh cq (.tail _ a) b)
set_option tactic.hygienic true in
theorem GQ{h₀:gj}(V:cc c ab env β)(l:β.le aY)(h:F3 ab ah=ae):cc (c.re h₀) ab env (pull ah aY):=by refine⟨V.scope,V.kind,V.glob,V.blt,V.loc,λx n e=>?_,V.frame,V.apart⟩;refine cz (V.cells x n e) λa ec dd dx=>?_;(refine aS (F2 e) λy bS J=>?_;(clear e;subst J));obtain this:=eX.mp h y bS;refine(gi a ec dd ?_);refine aS (RV this) λm q this=>?_;rw[d2 this] at q;exact dz q (a4 l.ad dx)
set_option tactic.hygienic true in
theorem B5{a b:List eO}(a6:Good g)(U:c.Ok g ab.dep)(V:cc c ab env β)(H:Sat g c st β s)(f9:fu (g.pin β) h3)(run:wA ((ep g.K h3 300).xs ab a st) ab ah bX p=ae)(br:g.S+bX<=100000)
  (next:∀bk aY ao h₀ base,(ep g.K h3 300).xs ab a st=.ok .next bk->β.le aY->Sat g c bk aY ao->Seen g c bk aY ao ab.dep ah bX p h₀ base->cc (c.re h₀) ab env (pull ah aY)->Good (g.re h₀ bX (pull ah aY) base)->dW (g.re h₀ bX (pull ah aY) base) (c.re h₀) (cF b env) Q E ao):dW g c (cF (a++b) env) Q E s:=by have fx:=a6.pin (β:=β);obtain aj:=(o2 fx.ok fx.lay fx.raise f9 300).xs c ab env β a U.pin V β st s (.refl _) H.pin;rw[show(g.pin β).K=g.K from rfl] at aj;unfold At at aj;unfold wA at run;refine aS (zu run) λbk q run=>?_;rw[q] at aj;rw[ew] at run;refine GX (aj _ E λeK ao aY a_ S R=>?_);obtain rfl:=R;have S:=S.wI H.ghost;exact mC (r9 a6.ok U S run.2 br) λh₀ base hc=>next bk aY ao h₀ base q a_ S hc (GQ V a_ run.1) (a6.re hc.ok)
theorem Z_{r:V}{a:List eO}(a6:Good g)(U:c.Ok g ab.dep)(V:cc c ab env β)(H:Sat g c st β s)(f9:fu (g.pin β) h3)(run:Jv ((ep g.K h3 300).xs ab a st) ah bX p r=ae)(br:g.S+bX<=100000)
  (next:∀bk aY ao h₀ base y v,(ep g.K h3 300).xs ab a st=.ok (.ret v) bk->β.le aY->Sat g c bk aY ao->Seen g c bk aY ao ab.dep ah bX p h₀ base->Good (g.re h₀ bX (pull ah aY) base)->a7 aY v y->n2 ah bk.au bk.aE r v=ae->Q (.ret y) ao):dW g c (cF a env) Q E s:=by have fx:=a6.pin (β:=β);obtain aj:=(o2 fx.ok fx.lay fx.raise f9 300).xs c ab env β a U.pin V β st s (.refl _) H.pin;rw[show(g.pin β).K=g.K from rfl] at aj;unfold At at aj;refine fD (aeg run) λv bk q aeY aeZ=>?_;rw[q] at aj;refine aj _ E λeK ao aY a_ S R=>?_;(refine aS R λy J r=>?_;try clear R;subst J);have S:=S.wI H.ghost;exact mC (r9 a6.ok U S aeY br) λh₀ base hc=>next bk aY ao h₀ base y v q a_ S hc (a6.re hc.ok) r aeZ
theorem afu(H:Sat g c st β s){a:aF}{aH:Array az}(aN:n<10000000)(h0:st.σ.get n=C (ai,.gone))(aU:β.ad[n]? =C (a,a))(eB:c.P a=C (W.listOf aH k))(R:bK (a7 β) xs aH.toList):Sat g c {st with σ:=st.σ.put cU n (ai,.list xs)} β s:=by
 refine bG H.objs λf hf=>⟨⟨H.keep,H.cw,⟨f,λm own y q=>?_⟩,H.len,H.facts,H.ghost⟩,H.os,H.loc⟩;replace q:(st.σ.put cU n (ai,.list xs)).get m=C (own,y):=q;rw[d0.k8 cU st.σ n _ m (ij aN (aR rfl))] at q;by_cases hm:m=n
 ·(clear h0 aN;subst hm);rw[if_pos rfl] at q;(obtain J:=aT q;clear q;refine a3 (eD J) λbT cu=>?_;clear J;subst bT;subst cu);exact⟨a,a,aU,⟨rfl,aH,k,eB,R⟩,λz=>by exact c7 z⟩
 .rw[if_neg hm] at q;exact hf m own y q
end
noncomputable def YI(w:Nat):String:=match w with|0=>"ga"|1=>"gb"|2=>"gc"|_=>"gd"
noncomputable def Y7(w:Nat):String:=match w with|0=>"ha"|1=>"hb"|2=>"hc"|_=>"hd"
noncomputable def IQ(k:Nat->Nat->V):Nat->List (ag×V)
 |0=>[]
 |n+1=>IQ k n++ [(dc (YI n),k n 0),(dc (Y7 n),k n 1)]
noncomputable def aca(n:Nat):O:=.dict (IQ (λw j=>aI (27+2*w+j)) n) none
noncomputable def WG(n:Nat):O:=.dict (IQ (λI I=>li 1) n) none
noncomputable def ac3(n:Nat):O:=.list (List.replicate (2*n) .u)
noncomputable def RE(made:Nat):O:=region (cZ "root") dt dt (aI 1) (li made) (li 1) (li 0) (cZ "body") (aI 13) (aI 24) (aI 14) (aI 15) (aI 25) (aI 16) dt
noncomputable def RH(place:V):O:=zP place (li 1) (li 100) (li 0) 19 20 21 22 12 23
noncomputable def Mr(n:Nat):O:=.dict [(dc "cells",aI 11),(dc "at",li n)] none
noncomputable def SC(n:Nat)(loc:Loc):b4:=⟨[own (RH (aI 1)),own (RE (1+2*n))]++gone 5++ [own (Mr 5),own (.cell (C (aI 7))),fix .gone,fix .gone,fix .gone,fix Bp,
 own (aca n),own (.list []),own (.list []),own (.dict [] none),own (.raw 0),fix .gone,fix .gone,fix .gone,fix .gone,fix .gone,fix .gone,own (ac3 n),own (WG n),fix .gone]++gone (2*n),[dY],[],0,([("after",aI 10),("root",aI 1),("scope",aI 0)]:Loc)++loc⟩
noncomputable def P4(at_ v:Nat):List V:=(pD 4).map λi=>match cv i at_ with|true=>li v|false=>.u
noncomputable def Dx(at_ v:Nat):St:={(SC at_ ([("at",li at_)]:Loc)).st with σ:=(SC at_ []).st.σ.put cU 10 (ai,.list (P4 at_ v))}
noncomputable def ua(K:b7):List Stmt:=match(kQ K).drop 3 with
 |.For _ _ b _ _::_=>b
 |_=>[]
noncomputable def g8:gW:=λI I I I=>none
noncomputable def nA(at_ v:Nat):cV:=⟨(pD (27+2*at_))++(match dw 4 v with|true=>[27+2*at_+18,27+2*at_+41]|false=>[27+2*at_+22,27+2*at_+45]),[.aL 0 ai 0],[],[]⟩
noncomputable def rH(at_ v:Nat):cV:=
 let o:=27+2*at_
 match dw 4 v with
 |true=>⟨[1,o+18,o+7,o+6,o+5,o+2,o+4,o,o+3],[.lit (2+2*(at_:Int))],[[.lit [97+at_]]],[[.any 0]]⟩
 |false=>⟨[1,o+22,o+11,o+10,o+9,o+6,o+8,o+5,o+7,o+4,o+2,o+3],[.lit (2+2*(at_:Int))],(match cv at_ v with|true=>[[.lit [97+at_]]]|false=>[[.lit [97+at_]],[.lit [97+v]]]),[[.any 0]]⟩
noncomputable def qb(at_ v:Nat):b4:=match dw 4 v,cv at_ v with
 |true,_=>GE
 |false,true=>mV 0 [dD]
 |false,false=>mV 1 [dD,dD]
noncomputable def yt(at_ v:Nat):cV:=
 let o:=27+2*at_+(match dw 4 v with|true=>0|false=>4)
 ⟨[1,o+41,o+30,o+29,o+28,o+22,o+21,o+20,o+24,o+23,o+27,o+25,o+26],[.lit (3+2*(at_:Int))],[[.lit [97+at_]]],[[.any 1]]⟩
noncomputable def Dw(at_:Nat):b4:=SC (at_+1) []
noncomputable def Ij(K:b7)(at_ v:Nat):Bool:=match(ep K g8 300).xs (kj K) (ua K) (Dx at_ v) with
 |.ok .next st=>h1 (nA at_ v) 60 st (Dw at_)&&wq (rH at_ v) 60 st (h_ (Dw at_).os (nA at_ v).ad) (qb at_ v)&&wq (yt at_ v) 60 st (h_ (Dw at_).os (nA at_ v).ad) me
 |_=>ai
noncomputable def JJ:List Nat:=[0,1,2,3,4,5]
noncomputable def yV(K:b7):Bool:=[0,1,2,3].all λat_=>JJ.all λv=>Ij K at_ v
noncomputable def rZ(st:St)(n:Nat):Bool:=(pD st.no).all λm=>match st.σ.get m with
 |some (_,y)=>!lY y||Nat.beq m n
 |none=>ae
section
variable{c:bc}{s:aM}{ab:cI}{st:St}
theorem QH(H:SatO g c st β s.heap)(h:rZ st n=ae):∀m own y,st.σ.get m=C (own,y)->lY y=ae->m=n:=λm own y q cb=>by refine bG H.objs λf hf=>?_;obtain(⟨a,d,g1,_⟩):=hf m own y q;obtain lt:=(j0.mp g1).1;rw[H.len] at lt;obtain this:=eX.mp h m (List.mem_range.mpr lt);rw[q] at this;simp only[cb,Bool.not_true,Lc] at this;exact d2 this
theorem afm{a:aF}(H:Sat g c st β s)(et:st.σ.get n=C (ae,.raw 0))(hJ:β.ad[n]? =C (a,a))(only:rZ st n=ae)(aB:lK a s.heap aA)(bw:aA.get? a=C dn)(aN:ip dn):Sat (g.iter dn) c st β {s with heap:=aA,toks:=t}:=by
 have only:=QH H.toSatO only;refine bG H.objs λf hf=>?_;obtain(⟨VR,Xs,bY,c5,fF⟩):=hf n ae _ et;rw[hJ] at bY;(obtain J:=aT bY;clear bY;refine a3 (eD J) λbT cu=>?_;clear J;subst bT;(clear c5;subst cu));obtain(⟨f1,_,fr,_,_⟩):=fF rfl;refine aS H.loc λm hm aX=>⟨⟨λx y q=>aB x y (λz=>by rw[z,fr.1] at q;exact bM q) (H.keep x y q),λx ak=>?_,⟨f,λm own y q=>?_⟩,H.len,H.facts,H.ghost⟩,H.os,m,hm.extBut aB (km fr.2.1),aX⟩
 .exact bG (H.cw x ak) λde q=>⟨de,aB _ _ (fr.2.2 x ak) q⟩
 .obtain(⟨eg,fK,g1,g2,g3⟩):=hf m own y q;refine⟨eg,fK,g1,?_,g3⟩;by_cases qk:m=n
  ·(clear f1 fF only;subst qk);rw[et] at q;(obtain J:=aT q;clear q;refine a3 (eD J) λbT cu=>?_;clear J;subst bT;subst cu);rw[hJ] at g1;(obtain J:=aT g1;clear g1;refine a3 (eD J) λbT cu=>?_;clear J;subst bT;(clear g3 g2;subst cu));exact⟨rfl,bw,aN⟩
  .have qy:lY y=false:=by
    generalize cb:lY y=aD;induction aD using bZ with
    |false=>rfl
    |true=>exact absurd (only m own y q cb) qk
   clear q;induction own using bZ with
   |false=>exact cL.iter qy g2
   |true=>obtain(⟨cH,cX,_⟩):=g3 rfl;exact cL.iter qy (g2.mono (.refl _) (λI=>aB eg _ λz=>qk (G (bV cH) (G z (G f1 rfl)))) (λI=>aB fK _ λz=>qk (G (bV cX) (G z (G f1 rfl)))))
theorem RG{i left:Nat}(aN:n<10000000)(H:Sat g c st β s)(et:st.σ.get n=C (ae,.itR i left))(only:rZ st n=ae):(∃a,β.ad[n]? =C (a,a)/\s.heap.get? a=C (ht i left))/\Sat (g.iter (ht i left)) c {st with σ:=st.σ.put cU n (ae,.raw 0)} β s:=by
 have only:=QH H.toSatO only;refine bG H.objs λf hf=>?_;obtain(⟨a,d,bY,c5,fF⟩):=hf n ae _ et;refine a3 (show cL g s.heap.get? β a d (.itR i left) from c5) λe da=>?_;(clear c5;subst e);refine⟨(bh a bY da),⟨H.keep,H.cw,⟨f,λm own y q=>?_⟩,H.len,H.facts,H.ghost⟩,H.os,H.loc⟩;replace q:(st.σ.put cU n (ae,.raw 0)).get m=C (own,y):=q;rw[d0.k8 cU st.σ n _ m (ij aN (aR rfl))] at q;by_cases hm:m=n
 ·(clear only et aN;subst hm);rw[if_pos rfl] at q;(obtain J:=aT q;clear q;refine a3 (eD J) λbT cu=>?_;clear J;subst bT;subst cu);exact⟨a,a,bY,⟨rfl,da,Ih _ _⟩,λI=>by obtain(⟨cH,cX,fw,gT,_⟩):=fF rfl;exact⟨cH,cX,fw,gT,λe=>by(injection e)⟩⟩
 .rw[if_neg hm] at q;obtain(⟨eg,fK,g1,g2,g3⟩):=hf m own y q;obtain qy:lY y=false:=by
   generalize cb:lY y=aD;induction aD using bZ with
   |false=>rfl
   |true=>exact absurd (only m own y q cb) hm
  exact⟨eg,fK,g1,cL.iter qy g2,g3⟩
theorem Oh{t it:bj}{b:List eO}(a6:Good g)(U:c.Ok g ab.dep)(V:cc c ab env β)(H:Sat g c st β s)(f9:fu (g.pin β) h3)(tM:isSet it=ai)(run:((ep g.K h3 300).ev ab it).bind ni st=.ok n bk)
  (next:∀av ao a d,β.le av->Sat g c bk av ao->av.ad[n]? =C (a,d)->ft g.M c.A (.forLoop t (.ref a) b [] env) (λr ao=>match r with|.ok f=>Q f ao|.error e=>nJ g.M c.A env E e ao) ao):a5 g.M c.A (i4 (.For t it b [] pos) env) Q E s:=by have fx:=a6.pin (β:=β);obtain ba:=o2 fx.ok fx.lay fx.raise f9 300;rw[show(g.pin β).K=g.K from rfl] at ba;obtain aj:=((ba.ev c ab env β it U.pin V).bind (k:=λx=>λ(Q:az->aM->Prop) E bg=>a5 g.M c.A (oB x) Q E bg) λav v y l r=>yU fx.ok U.pin r) β st s (.refl _) H.pin;unfold At at aj;rw[run] at aj;refine wpAny_For (aj _ _ λi ao av l S r=>?_) (yc tM env);(refine cz r λa d J aU=>?_;try clear r;subst J);exact next av ao a d l (S.wI H.ghost) aU
end
noncomputable def vr(w v:Nat):bz:=match dw 4 v,cv w v with
 |true,_=>[97+w]
 |false,true=>[97+w]
 |false,false=>[97+w,97+v]
structure GenAt(g:cy)(after:Nat->Nat)(root:aF×aF)(w:Nat)(iJ iK:aF×aF):Prop where
 ge:∃e ax,ax.ad[0]? =C root/\ax.ad[1]? =C iJ/\ax.ad[2]? =C e/\ax.aC[0]? =C (2+2*(w:Int))/\df g (qb w (after w)) ax/\ax.aj=vr w (after w)
 he:∃ax,ax.ad[0]? =C root/\ax.ad[1]? =C iK/\df g me ax/\ax.aj=[97+w]/\ax.aC[0]? =C (3+2*(w:Int))
theorem YK{w v:Nat}:Dk (qb w v)=true:=by unfold qb;split<;>decide+kernel
theorem GenAt.k9{iJ iK:aF×aF}{w:Nat}(a6:GenAt g after root w iJ iK)(eA:oF g bq):GenAt bq after root w iJ iK:=ih a6.ge λe ax a1 a2 cj c9 dQ fe=>C6 a6.he λahk cA el gE jr oK=>⟨(uk e ax a1 a2 cj c9 (dQ.k9 eA YK) fe),(DL ahk cA el (gE.k9 eA (by kernel_rfl)) jr oK)⟩
structure ro where
 K:b7
 after:Nat->Nat
 e4:aF
 eo:aF
 fX:aF×aF
 it:aF
 room:Int
 M:Model
 A:oA
 h0:gj
 cw:List (aF×cY)
 L:aF
 fr:List hB
 dT:aM
 S:Nat
structure sT(W:ro)(n i:Nat)(st:St)(g:cy)(c:bc)(β:aZ)(s:aM)(env:hB):Prop where
 good:Good g
 k:g.K=W.K
 cp:c.Ok g 3
 env:cc c (kj W.K) env β
 sat:Sat g c st β s
 fX:β.ad[8]? =C W.fX
 j8:β.ad[10]? =C (W.e4,W.e4)
 k0:β.ad[11]? =C (W.eo,W.eo)
 u_:β.ad[17]? =C (W.it,W.it)
 room:β.aC[0]? =C W.room
 m:g.M=W.M
 a:c.A=W.A
 hk:∀a o,W.h0.get? a=C o->c.P a=C o
 cw:c.cw=W.cw
 L:c.L=W.L
 fr:c.fr=W.fr
 dT:g.dT=W.dT
 raw:g.raw=λI=>ht i (4-i)
 gens:∀w,w<n->∃r iJ iK,β.ad[1]? =C r/\β.ad[27+2*w]? =C iJ/\β.ad[28+2*w]? =C iK/\GenAt g W.after r w iJ iK
 S:W.S<=g.S/\g.S<=W.S+60*n
structure Ey(W:ro):Prop where
 lst:∃aH k,W.h0.get? W.e4=C (PySem.W.listOf aH k)/\aH.size=4/\∀i,i<4->∃t,aH[i]? =C (.int (W.after i:Int) t)
 eS:∀i,i<4->W.after i<=5
theorem rY(h:n<=4):n=0\/n=1\/n=2\/n=3\/n=4:=(aR rfl:∀n,n<5->n=0\/n=1\/n=2\/n=3\/n=4) n (w1 h)
theorem JD(h:n<=4){loc:MI.Loc}:(SC n loc).st.σ.get 17=C (ae,.raw 0)/\(SC n loc).st.σ.get 10=C (ai,.gone):=by rcases rY h with rfl|rfl|rfl|rfl|rfl<;>(refine⟨?_,?_⟩<;>refine G ((b4.get (by simp[SC,gone])) _) ?_<;>rfl)
theorem afn(h:n<=4):rZ (SC n []).st 17=true:=by rcases rY h with rfl|rfl|rfl|rfl|rfl<;>decide+kernel
section
variable{W:ro}{c:bc}{s:aM}
theorem zl:fu g g8:=ic
theorem Yy{l:List aV}(h:l.length=4):∃a b c d,l=[a,b,c,d]:=by
 induction l using es with
 |nil=>injection h
 |cons a l=>
  induction l using es with
  |nil=>cases h
  |cons b l=>
   induction l using es with
   |nil=>cases h
   |cons c l=>
    induction l using es with
    |nil=>cases h
    |cons d l=>
     induction l using es with
     |nil=>exact(ag2 a b c d rfl)
     |cons _ _=>exact nomatch so (so (so (so h)))
theorem abN{aH:Array az}(aN:n<4)(bl:aH.size=4)(h:∀i,i<4->∃t,aH[i]? =C (.int (after i:Int) t)):bK (a7 β) (P4 n (after n)) aH.toList:=by
 refine acV (Yy (l:=aH.toList) bl) λa b c d e=>bG (h n aN) λt ff=>?_;rw[<-pJ,e] at ff;refine G e ?_;rcases CI n aN with rfl|rfl|rfl|rfl
 .exact .cons ⟨_,t,rfl,c0 ff⟩ (.cons trivial (.cons trivial (.cons trivial .nil)))
 .exact .cons trivial (.cons ⟨_,t,rfl,c0 ff⟩ (.cons trivial (.cons trivial .nil)))
 .exact .cons trivial (.cons trivial (.cons ⟨_,t,rfl,c0 ff⟩ (.cons trivial .nil)))
 .exact .cons trivial (.cons trivial (.cons trivial (.cons ⟨_,t,rfl,c0 ff⟩ .nil)))
theorem afs{v i:Nat}(h:i<27+2*n):cG (nA n v).ad i=C i:=by refine G (fY _ _) ?_;unfold nA;dsimp only;(refine G (wU (by simpa using h)) ?_;refine G (List.getElem?_range h) ?_;with_reducible rfl)
theorem YR{v:Nat}:(pull (rH n v) aY).aj=vr n v:=by
 unfold rH vr;cases dw 4 v with
 |true=>exact e3 (.cons (ag.eN.mpr (d1 _ [] rfl rfl (by simp))) .nil)
 |false=>
  cases cv n v with
  |true=>exact e3 (.cons (ag.eN.mpr (d1 _ [] rfl rfl (by simp))) .nil)
  |false=>exact e3 (.cons (ag.eN.mpr (d1 _ [] rfl rfl (by simp))) (.cons (ag.eN.mpr (d1 _ [] rfl rfl (by simp))) .nil))
theorem aft{v:Nat}:∃IK IL,cG (nA n v).ad (27+2*n)=C IK/\cG (nA n v).ad (28+2*n)=C IL/\cG (rH n v).ad 0=C 1/\cG (rH n v).ad 1=C IK/\(∃e,cG (rH n v).ad 2=C e)/\cG (yt n v).ad 0=C 1/\cG (yt n v).ad 1=C IL/\cG (rH n v).aC 0=C (.lit (2+2*(n:Int)))/\cG (yt n v).aC 0=C (.lit (3+2*(n:Int))):=by
 unfold nA rH yt;have a9:∀{x y:Nat},cG ((pD (27+2*n))++ [x,y]) (27+2*n)=C x:=by intro x y;(refine G (fY _ _) (G (pH (by simp)) ?_);refine G List.length_range (G (uD _) ?_));rfl
 have bf:∀{x y:Nat},cG ((pD (27+2*n))++ [x,y]) (28+2*n)=C y:=by intro x y;(refine G (fY _ _) (G (pH (by simp)) ?_);refine G List.length_range (G (show 28+2*n-(27+2*n)=1 from Nat.add_sub_add_right 28 (2*n) 27) ?_));rfl
 cases dw 4 v with
 |true=>exact(SU _ _ a9 bf rfl rfl ⟨_,rfl⟩ rfl rfl rfl rfl)
 |false=>exact(SU _ _ a9 bf rfl rfl ⟨_,rfl⟩ rfl (by show C (27+2*n+4+41)=_;rfl) rfl rfl)
theorem Ff{i m:Nat}(T:e7 ah (pull ah aY) aY)(h:cG ah.ad i=C m):∃x,aY.ad[m]? =C x/\(pull ah aY).ad[i]? =C x:=by
 have lt:i<(pull ah aY).ad.length:=by show i<(ah.ad.map _).length;refine G (gB _) ?_;rw[fY] at h;exact(j0.mp h).1
 refine aS (T.ad i _ (i5 lt)) λk aa af=>?_;rw[h] at aa;(obtain J:=aT aa;clear aa;subst J);exact(bh _ af (i5 lt))
set_option maxHeartbeats 1000000 in
set_option tactic.hygienic true in
theorem afo(aN:n<4)(L:Ey W)(run:Ij W.K n (W.after n)=ae)(br:W.S<=5000)(T:sT W n (n+1) (SC n ([("at",li n)]:MI.Loc)).st g c β s env)
  (next:∀bq bI av ao,sT W (n+1) (n+1) (SC (n+1) []).st bq bI av ao env->Q .next ao):dW g c (cF (ua W.K) env) Q E s:=by
 refine fD L.lst λaH k aa af aJ=>?_;have aw:=T.k;have dk:Sat g c (Dx n (W.after n)) β s:=afu T.sat (aR rfl) (JD (kp (by assumption))).2 T.j8 (T.hk _ _ aa) (abN aN af aJ);unfold Ij at run;refine aS (zu run) λst q run=>?_;simp only[ew] at run;(refine a3 run λJ hx=>?_;try clear run;refine a3 J λda dA=>?_;try clear J);have BK:=T.S;refine G (bV (ma (ua W.K))) (B5 (st:=Dx n (W.after n)) (p:=Dw n) (ah:=nA n (W.after n)) (bX:=60) (h3:=g8) T.good T.cp T.env dk zl (by refine G aw ?_;unfold wA;exact G (show(ep W.K g8 300).xs (kj W.K) (ua W.K) (Dx n (W.after n))=_ from q) ((ew _ _).mpr ⟨rfl,da⟩)) (bU (j1 (bU BK.2 (mP br (KG 60 (kp aN)))) 60) (bA rfl)) λbk aY ao h₀ base en l S N V a6=>?_);rw[aw,q] at en;cases en;refine a3 (Jk N S dA) λr2 agt=>a3 (Jk N S hx) λado aiu=>?_;have eA:oF g (g.re h₀ 60 (pull (nA n (W.after n)) aY) base):=⟨rfl,rfl,λb x e=>N.up b x (T.cp.base b x e),gs _ _⟩;have ad:∀i x,i<27+2*n->β.ad[i]? =C x->(pull (nA n (W.after n)) aY).ad[i]? =C x:=λi x bN e=>dz (afs bN) (a4 l.ad e);obtain pg:∃r,β.ad[1]? =C r:=by
  obtain len:=T.sat.len;have:1<β.ad.length:=by refine G len ?_;show 1<(SC n ([("at",li n)]:MI.Loc)).os.length;simp[SC,gone]
  exact⟨_,i5 this⟩
 refine bG pg λr pg=>qP (next _ _ _ ao ⟨a6,T.k,N.cp,V,N.sat,ad _ _ (by lia) T.fX,ad _ _ (by lia) T.j8,ad _ _ (by lia) T.k0,ad _ _ (by lia) T.u_,?_,T.m,T.a,λa o e=>N.up a o (T.hk a o e),T.cw,T.L,T.fr,T.dT,T.raw,λw hw=>?_,?_⟩)
 .obtain this:=kO (ah:=nA n (W.after n)) (i:=0) (e:=.aL 0 ai 0) rfl (lR (c:=0) (a4 l.aC T.room));refine G this ?_;simp
 .by_cases O6:w<n
  .exact mD (T.gens w O6) λg9 iJ iK g1 g2 g3 eh=>(z6 g9 iJ iK (ad _ _ (by lia) g1) (ad _ _ (by lia) g2) (ad _ _ (by lia) g3) (eh.k9 eA))
  .obtain rfl:w=n:=D3 (Aj hw) (sk O6);(refine acU (aft (n:=w) (v:=W.after w)) λIK IL a9 bf cB iM J GC GD Xu Xv=>bG J λe lS=>?_;try clear J);refine aS (Ff N.pull a9) λiJ dv dU=>aS (Ff N.pull bf) λiK cH cX=>aS (Ff agt lS) λGN fG hA=>?_;have dA:=a4 l.ad pg;refine(z6 r iJ iK (ad _ _ (by lia) pg) dU cX ⟨(uk GN _ (dz cB dA) (dz iM dv) hA (kO Xu rfl) r2 YR),(DL _ (dz GC dA) (dz GD cH) ado ?_ (kO Xv rfl))⟩);exact e3 (.cons (ag.eN.mpr (d1 _ [] rfl rfl (by simp))) .nil)
 .show W.S<=g.S+60/\g.S+60<=_;exact⟨bU BK.1 (gs _ _),bU (j1 BK.2 60) (eP (kW _ _ _))⟩
theorem RI{pos:cn}{R:Result->aM->Prop}(L:Ey W)(run:yV W.K=ae)(vt:gR "at" (kj W.K).scope.names=C .local)(br:W.S<=5000)
  (fin:∀g c β s,sT W 4 4 {(SC 4 []).st with σ:=(SC 4 []).st.σ.put cU 17 (ai,.gone)} g c β s env->R (.ok .next) s):
  ∀(left n:Nat)(g:cy)(c:bc)(β:aZ)(s:aM),n+left=4->sT W n n (SC n []).st g c β s env->ft g.M c.A (.forLoop (.Name "at" pos) (.ref W.it) (ua W.K) [] env) R s
 |0,n,g,c,β,s,aX,T=>by
  obtain rfl:n=4:=by assumption
  have yj:=(JD (n:=4) (loc:=[]) (dO _)).1;refine bG T.sat.objs λf hf=>?_;obtain(⟨a,d,bY,c5,fF⟩):=hf 17 ae _ yj;rw[T.u_] at bY;(obtain J:=aT bY;clear bY;refine a3 (eD J) λbT cu=>?_;clear J;subst bT;(clear fF;subst cu));refine fO (show cL g s.heap.get? β W.it W.it (.raw 0) from c5) λI da I=>?_;rw[T.raw] at da;refine yd (KA (x:=(4:Nat)) (left:=((4-4:Nat):Int)) (step:=1) (T.cp.calm (aR rfl)) (show DX _ _ _ _ _ from da) (aR rfl) λaA he=>fin g c β _ {T with sat:=T.sat.gone (t:=s.toks) (aR rfl) yj T.u_ (.inl rfl) he})
 |left+1,n,g,c,β,s,aX,T=>by
  have aN:n<4:=by exact ij (wV (pA left)) (eP aX)
  have yj:=(JD (n:=n) (loc:=[]) (kp (by assumption))).1;refine bG T.sat.objs λf hf=>?_;obtain(⟨a,d,bY,c5,fF⟩):=hf 17 ae _ yj;rw[T.u_] at bY;(obtain J:=aT bY;clear bY;refine a3 (eD J) λbT cu=>?_;clear J;subst bT;(clear fF;subst cu));refine fO (show cL g s.heap.get? β W.it W.it (.raw 0) from c5) λI da I=>?_;rw[T.raw,show 4-n=left+1 from Tp aX.symm] at da;refine yd (Kv (x:=n) (left:=((left+1:Nat):Int)) (step:=1) (show DX _ _ _ _ _ from da) (mR.mpr (pA left)) λaA ia aB=>?_);obtain dS:((n:Int)+1)=((n+1:Nat):Int):=by push_cast;rfl
  obtain cE:(((left+1:Nat):Int)-1)=(left:Int):=uq (left:Int) 1;rw[dS,cE] at ia;have ia:aA.get? W.it=C (ht (n+1) left):=ia;obtain n5:left=4-(n+1):=(Tp (aX.symm.trans (Aq n left).symm)).symm;obtain dk:=afm (t:=s.toks+1) T.sat yj T.u_ (afn (kp (by assumption))) aB.extBut ia (Ih _ _);refine zB (g:=g) (s:={s with heap:=aA,toks:=s.toks+1}) ia rfl (by exact rfl) ?_ _;refine wR ?_;have xn:Good (g.iter (ht (n+1) left)):=⟨⟨T.good.ok.fl,T.good.ok.top,T.good.ok.S,T.good.ok.low⟩,T.good.lay,T.good.raise⟩;have AE:c.Ok (g.iter (ht (n+1) left)) 3:=⟨T.cp.base,T.cp.frames,T.cp.here,T.cp.hd,T.cp.iX,T.cp.depth,T.cp.units,T.cp.calm,T.cp.dep⟩;obtain sn:=qI (X:=fW) xn.ok AE T.env "at" (v:=.i (.lit (n:Int))) (y:=.int n s.toks) ⟨_,_,rfl,rfl⟩ β (SC n []).st _ (.refl _) dk;obtain tf:jf (kj W.K) "at" (.i (.lit (n:Int))) (SC n []).st=.ok () (SC n ([("at",li n)]:MI.Loc)).st:=by unfold jf;exact G vt rfl
  unfold At at sn;rw[tf] at sn;refine sn _ _ λI dB av l S I=>?_;obtain eA:oF g (g.iter (ht (n+1) left)):=⟨rfl,rfl,λI I e=>e,dO _⟩;obtain E0:sT W n (n+1) (SC n ([("at",li n)]:MI.Loc)).st (g.iter (ht (n+1) left)) c av dB env:=⟨xn,T.k,AE,T.env.le l,S,a4 l.ad T.fX,a4 l.ad T.j8,a4 l.ad T.k0,a4 l.ad T.u_,a4 l.aC T.room,T.m,T.a,T.hk,T.cw,T.L,T.fr,T.dT,by refine G n5 ?_;rfl,λw hw=>by exact mD (T.gens w hw) λr iJ iK g1 g2 g3 eh=>(z6 r iJ iK (a4 l.ad g1) (a4 l.ad g2) (a4 l.ad g3) (eh.k9 eA)),T.S⟩
  obtain mem:n∈ [0,1,2,3]:=by simp only[dg,lJ,or_false];exact CI n aN
  obtain abZ:W.after n∈JJ:=by obtain this:=L.eS n aN;unfold JJ;simp only[dg,lJ,or_false];exact Qf _ (w1 this)
  obtain it:=eX.mp (eX.mp run n mem) _ abZ;refine afo (g:=g.iter (ht (n+1) left)) (Q:=λf fh=>match f with
   |.next|.cont=>ft g.M c.A (.forLoop (.Name "at" pos) (.ref W.it) (ua W.K) [] env) R fh
   |.brk=>R (.ok .next) fh
   |.ret v=>R (.ok (.ret v)) fh) aN L it br E0 λbq bI d9 fa bW=>?_
  obtain this:=RI (pos:=pos) L run vt br fin left (n+1) bq bI d9 fa ((Aq n left).trans aX) bW;rw[bW.m,bW.a] at this;show ft g.M c.A _ _ _;(refine G T.m (G T.a ?_));exact this
end
noncomputable def xx:b4:={SC 0 [] with os:=(SC 0 []).os.take 17++ [fix .gone]++(SC 0 []).os.drop 18}
noncomputable def AA:cV:=⟨[36,27,2,3,4,5,6,7,8,9,10,11,41,28,30,31,33,9,9,34,35,37,38,40,29,32,9],[.aL 0 ai 4],[],[]⟩
noncomputable def y6:List Str:=[bO "self",bO "width",bO "steps",bO "depth",bO "members",bO "text",bO "tasks",bO "heap"]
noncomputable def IM:List V:=[li 32,li 1000000,li 50,li 10000,li 100000,li 50,li 1000000]
noncomputable def Cj(K:b7):gW:=λdep f aK st=>match f,aK with
 |.c (.ref a),[v]=>(match cv a 698&&eQ dep 290 with
  |true=>C (L8 (ep K g8 100) (r8 K 698) dep (ry K 698) (y6.zip (v::IM)) st)
  |false=>none)
 |_,_=>none
noncomputable def BR(K:b7):Bool:=wA ((ep K (Cj K) 300).xs (kj K) ((kQ K).take 3) fV.st) (kj K) AA 60 xx
noncomputable def Dv(K:b7):PySem.Expr:=match(kQ K).drop 3 with
 |.For _ it _ _ _::_=>it
 |_=>.Constant .none 0 default
noncomputable def q7:cV:=⟨(pD 17)++ [28]++ [18,19,20,21,22,23,24,25,26],[.aL 0 ai 0],[],[]⟩
noncomputable def Cu(K:b7):Bool:=((((ep K g8 300).ev (kj K) (Dv K)).bind ni) xx.st).r0.any λw=>cv w.1 28&&(Ig (w.2.σ.get 28) 4&&(rZ w.2 28&&h1 q7 60 {w.2 with σ:=w.2.σ.put cU 28 (ae,.raw 0)} (SC 0 [])))
noncomputable def zO:St:={(SC 4 []).st with σ:=(SC 4 []).st.σ.put cU 17 (ai,.gone)}
noncomputable def ael(kind:V)(parent made number level part names order uses ut counts af8:V):O:=region kind dt parent (aI 1) made number level part names order uses ut counts af8 dt
noncomputable def rj:b4:=⟨[own (RH (aI 2)),own (RE 11),own (ael (cZ "sub") (aI 1) (li 0) (li 11) (li 1) (cZ "body") (aI 3) (aI 4) (aI 17) (aI 18) (aI 5) (aI 26)),
 own (.dict [] none),own (.list []),own (.dict [] none),fix .gone,own (Mr 5),own (.cell (C (aI 7))),fix .gone,fix .gone,fix .gone,fix Bp,
 fix .gone,own (.list []),own (.list []),own (.dict [] none),own (.list []),own (.list []),fix .gone,fix .gone,fix .gone,fix .gone,fix .gone,fix .gone,fix .gone,fix .gone,
 fix (.list [aI 28]),fix (entity (cZ "generic") (cZ "bare") (aI 29) (li 1) (li 10) (.s [.any 0]) (aI 1) (cZ "body") dt sa nD),fix (.list [aI 30,dt]),fix (.tup [cZ "generic",li 1,aI 31,aI 32]),fix (.list []),fix (.tup [cZ "package",li 1,cZ "bare",aI 33,aI 34]),fix (.list []),fix (.list [])],[dY],[],1,[]⟩
noncomputable def q8:cV:=⟨[0,1,54,55,56,59,6,7,8,9,10,11,12,13,14,15,16,57,58,19,20,21,22,23,24,25,60,52,41,40,39,35,38,36,37],[.aL 0 ai 0],[],[[.any 0]]⟩
noncomputable def DD(K:b7):Bool:=Jv ((ep K g8 300).xs (kj K) ((kQ K).drop 4) zO) q8 60 rj (aI 0)
noncomputable def IG(abs:List ag):St:={rj.st with σ:=rj.st.σ.put cU 13 (ai,.dict [(dc "bare",aI 27)] (C abs)),loc:=[("room",aC 0),("after",aI 10),("scope",aI 0)]}
noncomputable def y7:List ag:=[dc "lone",dc "wrapper__101_1"]
noncomputable def CG(K:b7):Out di:=(ep K g8 300).xs (lax K) (((fN K).drop 4).take 4) (IG y7)
noncomputable def oI(au:List b5):b4:={T0 with os:=T0.os.take 9++ [fix .gone]++T0.os.drop 10,au:=au}
noncomputable def tO:List b5:=[anyI,(101,101,none),dY,(17,17,none),(1,1,none),(5,5,none)]
noncomputable def mT:cV:=⟨[0,1,2,3,4,5,35,7,8,0,10,11,12,13,14,15,16,17,18,19,20,21,22,23,24,25,26],[.lit 4,.lit 101,.aL 0 ai 0,.lit 17,.lit 1,.lit 5],[],[]⟩
noncomputable def y8(K:b7):Bool:=(CG K).r0.any λw=>w.1.QF&&((F3 (lax K) mT&&h1 mT 200 w.2 (oI tO))&&((w.2.σ.get 3).any (λp=>p.1&&p.2.i_.any λq=>q.2.isNone&&o5 w.2.au w.2.aE q.1 [dc "wrapper__101_1",dc "lone"])&&QM (w.2.σ.get 35)))
noncomputable def IF(K:b7):PySem.Expr:=match(fN K).drop 8 with
 |.For _ it _ _ _::_=>it
 |_=>.Constant .none 0 default
noncomputable def ts(K:b7)(d:Nat):Out Nat:=(((ep K (p6 [(0,4,(d:Int))]) 300).ev (lax K) (IF K)).bind ni) (oI Cd).st
 where Cd:List b5:=[anyI,(100,10000,C 0),dY,(11,10000,C 0),(0,10000,C 0),(0,9000,none)]
noncomputable def uO(n:Nat):cV:=⟨(pD 9)++ [n]++ [10,11,12,13,14,15,16,17,18,19,20,21,22,23,24,25,26],[.aL 0 ai 0,.aL 0 ai 1,.aL 0 ai 2,.aL 0 ai 3,.aL 0 ai 4,.aL 1 ai 5],[],[]⟩
noncomputable def Og(K:b7)(d:Nat):Bool:=(ts K d).r0.any λw=>eQ w.1 10000000&&(Ig (w.2.σ.get w.1) (3+d)&&(rZ w.2 w.1&&h1 (uO w.1) 60 {w.2 with σ:=w.2.σ.put cU w.1 (ae,.raw 0)} dF))
noncomputable def G5(K:b7):Bool:=four.all λd=>Og K d
section
variable{c:bc}{s:aM}{st:St}
theorem Wh{a:aF}{Q:az->aM->Prop}(O:g.Ok)(U:c.Ok g dep)(dN:dep<300)(F:rf g.K a names body kinds)(aN:names.Nodup)(R:bK (a7 β) aK aH)(aX:names.length=aH.length)(H:Sat g c st β s)
  (h:∀L fS ar fm cJ ao uS,s.heap.get? c.L=C fS->fS.data=.dict ar fm->xe ar->(∀x v,ed x st.loc=C v->∃y,sD ar x=C y/\a7 β v y)->(c.enter L fS (cJ::c.fr) (c.A.deeper cJ)).Ok g (dep+1)->cc (c.enter L fS (cJ::c.fr) (c.A.deeper cJ)) ⟨r8 g.K a,[],dep+1⟩ cJ β->
   Sat g (c.enter L fS (cJ::c.fr) (c.A.deeper cJ)) {st with loc:=names.zip aK} β ao->(∀b o,s.heap.get? b=C o->ao.heap.get? b=C o)->dW g (c.enter L fS (cJ::c.fr) (c.A.deeper cJ)) (cF (ry g.K a) cJ) (λf fa=>Q (match f with|.ret v=>v|_=>.none) fa) uS ao):jG g c (.ref a) aH Q E s:=by
 obtain⟨bE,fZ,fd,gb,as,an,ds,bD,bu,c3,fL,my,hY,yW,yX,yY,yZ,eV,dX,lr⟩:=F;refine fO (zx yY) λs1 s2 s3=>?_;obtain y5:as.length=aH.length:=by exact G (bV (gB (f:=(·.arg)))) (G c3 (G aX rfl))
 obtain vj:r8 g.K a=fd.scope:=by unfold r8;exact G bD rfl
 obtain XA:ry g.K a=body:=by unfold ry;refine G bD ?_;dsimp only;exact G fL rfl
 have BQ:=U.depth;obtain HU:=U.units;let L:=s.heap.objs.size;let cJ:=callEnv fd L a;let binds:=names.zip aH;obtain rx:(binds.map (·.1)).Nodup:=by show((names.zip aH).map (·.1)).Nodup;exact G (pK (eP (by assumption))) aN
 refine mD H.loc.obj λfS qa tg hi jv mw oa=>codeAny_call_def (binds:=binds) (by show c.A.depth<1000;lia) (H.toSatO.fl U O _ _ bD) rfl (H.toSatO.top U O).nolimit (Eo (H.toSatO.fl U O) yZ) fL (BindsTo.of_eq (by(refine G (show binds=names.zip aH from rfl) (G (bV c3) ?_));exact A8 bu hY (G c3 aN) y5)) lr (λx ak=>eV x.1 (by obtain this:=kU (f:=(·.1)) ak;rwa [pK (eP (by assumption))] at this)) (λh₀ ei keep=>?_) s3 s2 s1
 obtain ek:(c.enter L fS (cJ::c.fr) (c.A.deeper cJ)).Ok g (dep+1):=U.enter H hi jv (dO _) (by show c.A.frames.map _=_;exact G U.frames rfl) (λenv he=>by
   rcases dg.mp he with rfl|he
   .exact .inr ⟨by show fd.scope.kind≠.module;refine G s1 ?_;simp,rfl⟩
   .exact .inl he) (by show c.A.depth+1<=_;lia) (by show c.A.units+3<=_;lia) (bU (by assumption) (bA rfl)) (λh=>U.calm (kp (by assumption)))
 obtain gY:cc (c.enter L fS (cJ::c.fr) (c.A.deeper cJ)) ⟨r8 g.K a,[],dep+1⟩ cJ β:=⟨by refine G vj ?_;rfl,s1,yW,yX,rfl,(λx n e=>by exact bM e),(gi cJ c.fr rfl rfl),bc.oT H hi (dO _)⟩;obtain eE:Sat g (c.enter L fS (cJ::c.fr) (c.A.deeper cJ)) {st with loc:=names.zip aK} β {s with heap:=h₀,toks:=s.toks+binds.length}:=H.enter U hi keep (dO _) ⟨_,ei,λx v e=>by obtain this:=BH (x:=x) (ns:=names) R;rw[show({st with loc:=names.zip aK}:St).loc=names.zip aK from rfl] at e;rw[e] at this;(refine aS this λy bS hR=>?_;try clear this);exact(bh y ((Qc rx).trans bS) hR)⟩
 obtain this:=h L fS qa tg cJ _ (λe ao=>a5 g.M (c.A.deeper cJ) (uK cJ e) (λI fa=>E e fa) (λcq fa=>E cq fa) ao) hi jv mw oa ek gY eE keep;rw[XA] at this;exact this
theorem bc.Ok.leave{L:aF}{fS:cY}{P:aF->Option cY}{Xg:Nat}(U:c.Ok g dep)(sL:(({c with P:=P}:bc).enter L fS fr A).Ok cT Xg):({c with P:=P}:bc).Ok cT dep:=
 ⟨sL.base,U.frames,U.here,λx ak=>sL.hd x (.tail _ ak),(sL.hd (c.L,fS) (.head _)).1,U.depth,U.units,U.calm,U.dep⟩
end
noncomputable def nW:b4:={fV with loc:=[("room",aC 4),("after",aI 10)]}
noncomputable def nS:cV:=⟨[0,0,0,0,0,0,0,7,8,0,29,11,0,0,0,0,0,0,0,0,0,0,0,0,0,0,0],[.aL 0 ai 1,.aL 0 ai 2,.aL 0 ai 3,.aL 0 ai 4,.aL 1 ai 0],[],[]⟩
noncomputable def ND(e:bo)(eI:Int):Option gN:=((litOf e).bind nat?).bind λn=>(nat? eI).bind λm=>(k_ (dw n 100&&eQ 0 m)).map λI=>.y_
noncomputable def GA:gW:=Gz ND 11
noncomputable def Br(K:b7):Bool:=wA ((ep K GA 300).xs (lax K) (((fN K).drop 1).take 2) fJ.st) (lax K) nS 60 nW
noncomputable def iC:List (ag×Nat):=[(dc "ga",27),(dc "ha",28),(dc "gb",29),(dc "hb",30),(dc "gc",31),(dc "hc",32),(dc "gd",33),(dc "hd",34),(dc "bare",52)]
noncomputable def CX(st:St)(ar:List (ag×V)):Bool:=dw ar.length 20&&o5 st.au st.aE ar (iC.map (·.1))&&iC.all λx=>ui st.au st.aE x.1 x.2 ar
noncomputable def I6(st:St):Bool:=(st.σ.get 13).any λp=>p.1&&p.2.i_.any λq=>q.2.isNone&&CX st q.1
noncomputable def CQ(K:b7):Bool:=((ep K g8 300).xs (kj K) ((kQ K).drop 4) zO).r0.any λp=>p.1.t9.isSome&&I6 p.2
noncomputable def JF(K:b7):cn×Pos:=match(kQ K).drop 3 with
 |.For (.Name _ p) _ _ _ q::_=>(p,q)
 |_=>default
noncomputable def JE(K:b7):Stmt:=.For (.Name "at" (JF K).1) (Dv K) (ua K) [] (JF K).2
noncomputable def G3(K:b7)(d:Nat):Bool:=match ts K d with
 |.ok n st=>y0 {st with σ:=st.σ.put cU n (ae,.raw 0)} []
 |_=>ai
noncomputable def G4(K:b7):Bool:=four.all λd=>G3 K d
noncomputable def CC(K:b7):cn×Pos:=match(fN K).drop 8 with
 |.For (.Name _ p) _ _ _ q::_=>(p,q)
 |_=>default
noncomputable def PS(K:b7):Stmt:=.For (.Name "turn" (CC K).1) (IF K) (ea K) [] (CC K).2
structure EO(K:b7):Prop where
 fn:∃bE fZ fd gb defs,K.lookup 698=C ⟨bE,fZ,.func fd,gb⟩/\fd.body=.stmts (ry K 698)/\qB fd.scope=ae/\codeIn K fd.code fd.qualname=ae/\fd.globals=ik/\fd.builtins=nI/\(∀x∈fd.scope.names,x.2≠.cell)/\(∀x∈y6,fd.scope.names.lookup x=C .local)/\
  (∀(s:aM)(y:az),(∀a o,K.lookup a=C o->s.heap.get? a=C o)->BindsTo s fd ⟨[y],[]⟩ (y6.zip (y::defs)))/\defs.length=7/\∀β,bK (a7 β) IM defs
structure uW(K:b7):Prop where
 lim:EO K
 fn:∃kinds,rf K 734 [bO "after"] (kQ K) kinds
 head:BR K=ae
 start:Cu K=ae
 g6:yV K=ae
 tail:DD K=ae
 nine:CQ K=ae
 at_:gR "at" (kj K).scope.names=C .local
 set:isSet (Dv K)=ai
 rE:(kQ K).drop 3=JE K::(kQ K).drop 4
theorem aaz(O:g.Ok)(kE:g.Lay)(hN:g.nZ)(F:EO g.K):fu g (Cj g.K):=by
 intro c dep β f aK aH U R;obtain(⟨bE,fZ,fd,gb,defs,bD,bu,c3,fL,my,hY,yW,yX,yY,yZ,aaW⟩):=F.fn;refine fO (zx c3) λs1 s2 s3=>?_;obtain vj:r8 g.K 698=fd.scope:=by unfold r8;exact G bD rfl
 cases R with
 |nil=>exact λaW st s aa H=>trivial
 |@cons v y aK aH r R=>
  cases R with
  |cons g9 R=>exact λaW st s aa H=>trivial
  |nil=>
   unfold Cj;dsimp only;generalize q:(cv f 698&&eQ dep 290)=aD;induction aD using bZ with
   |false=>exact λaW st s aa H=>trivial
   |true=>rw[ew] at q;obtain rfl:=d2 q.1;obtain dN:dep<290:=bA q.2;obtain this:=VA (names:=y6) (aK:=v::IM) (aH:=y::defs) (wQ:=[y]) O (o2 O kE hN zl 100) U bD bu s1 s2 s3 fL (bU (by assumption) (bA rfl)) my hY yW (by rewrite[uv,yZ];rfl) (by unfold y6;exact aR (by kernel_rfl)) yX (λs h=>yY s y λa o e=>h _ _ (O.fl _ _ e)) (.cons r (aaW β));rw[<-vj] at this;exact this
structure xt where
 K:b7
 after:Nat->Nat
 room:Int
 e4:aF
 eo:aF
 fX:aF×aF
 M:Model
 A:oA
 h0:gj
 dT:aM
 root:aF×aF
 cK:aF
 ay:List (aO×az)
 ga:Nat->aF×aF
structure ET(Y:xt)(p:b4)(g:cy)(c:bc)(β:aZ)(s:aM):Prop where
 good:Good g
 k:g.K=Y.K
 cp:c.Ok g 2
 sat:Sat g c p.st β s
 eB:c.P=g.h₀.get?
 gens:Gens g Y.after Y.root Y.cK Y.ay Y.ga
 cA:β.ad[1]? =C Y.root
 fX:β.ad[8]? =C Y.fX
 j8:β.ad[10]? =C (Y.e4,Y.e4)
 k0:β.ad[11]? =C (Y.eo,Y.eo)
 k1:β.ad[13]? =C (Y.cK,Y.cK)
 bare:∃B,β.ad[27]? =C B/\a0 Y.ay "bare"=C (.ref B.1)
 room:β.aC[0]? =C Y.room
 aB:sP g
 m:g.M=Y.M
 a:c.A=Y.A
 hk:∀a o,Y.h0.get? a=C o->c.P a=C o
 dT:g.dT=Y.dT
 S:20<=g.S/\g.S<=2000
noncomputable def AI:b4:={rj with loc:=[("room",aC 0),("after",aI 10)]}
theorem g7(x:String):ag.val β (dc x)=C (cs (bO x)):=ag.eN.mpr (d1 _ [] rfl rfl (by simp))
section
variable{c:bc}{s:aM}{st:St}
theorem acr{st:St}(h:I6 st=ae):∃ar,st.σ.get 13=C (ae,.dict ar none)/\CX st ar=true:=cN h λp e h=>cN (bB h) λq bf af=>by obtain(⟨b,o⟩):=p;refine(bh q.1 (e.trans ?_) (bB af));exact G (show b=ae from bR h) (G (show o=_ from oR bf) (G (nM.mp (bR af)) rfl))
theorem aco(F:Facts g.S st.au st.aE st.ns β)(h:CX st ar=ae)(bJ:kZ β ay ar):
  ∀x:ag×Nat,x∈iC->∀l,x.1.val β=C l->∃a,β.ad[x.2]? =C a/\a0 ay (aQ l)=C (.ref a.1):=λx ak l aX=>by exact aS (z2 F aX (eX.mp (bB h) x ak) bJ) λp dd dx=>(bh p dd dx)
theorem acp(F:Facts g.S st.au st.aE st.ns β)(h:CX st ar=ae)(aw:∀k,a0 ay k≠none->∃e:ag×V,e∈ar/\e.1.val β=C (cs k)):
  ar.length<=20/\∀k,a0 ay k≠none->∃x:ag×Nat,x∈iC/\x.1.val β=C (cs k):=by
 refine⟨bA (bR (bR h)),λk tF=>?_⟩;refine aS (aw k tF) λe he ev=>?_;obtain eU:∀x∈iC.map (·.1),∃l,ag.val β x=C l:=λx ak=>by
  (refine aS (kY.mp ak) λy bS J=>?_;(clear ak;subst J));obtain this:∀y∈iC,∃t,y.1=dc t:=by intro y bS;unfold iC at bS;simp only[dg,lJ,or_false] at bS;rcases bS with rfl|rfl|rfl|rfl|rfl|rfl|rfl|rfl|rfl<;>exact⟨_,rfl⟩
  exact bG (this y bS) λt e=>⟨_,by exact G e (g7 t)⟩
 refine aS (vP F (bB (bR h)) eU e he _ ev) λx ak bf=>?_;(refine aS (kY.mp ak) λy bS J=>?_;(clear ak;subst J));exact(bh y bS bf)
theorem acm{w:Nat}(hw:w<4):∃x∈iC,x.2=27+2*w/\∀β,x.1.val β=C [103,97+w]:=by
 obtain this:w=0\/w=1\/w=2\/w=3:=by lia
 rcases this with rfl|rfl|rfl|rfl
 .exact(fT (dc "ga",27) (by unfold iC;simp) rfl (λβ=>(g7 _).trans (by kernel_rfl)))
 .exact(fT (dc "gb",29) (by unfold iC;simp) rfl (λβ=>(g7 _).trans (by kernel_rfl)))
 .exact(fT (dc "gc",31) (by unfold iC;simp) rfl (λβ=>(g7 _).trans (by kernel_rfl)))
 .exact(fT (dc "gd",33) (by unfold iC;simp) rfl (λβ=>(g7 _).trans (by kernel_rfl)))
theorem acn{w:Nat}(hw:w<4):∃x∈iC,x.2=28+2*w/\∀β,x.1.val β=C [104,97+w]:=by
 obtain this:w=0\/w=1\/w=2\/w=3:=by exact CI w hw
 rcases this with rfl|rfl|rfl|rfl
 .exact(fT (dc "ha",28) (by unfold iC;simp) rfl (λβ=>(g7 _).trans (by kernel_rfl)))
 .exact(fT (dc "hb",30) (by unfold iC;simp) rfl (λβ=>(g7 _).trans (by kernel_rfl)))
 .exact(fT (dc "hc",32) (by unfold iC;simp) rfl (λβ=>(g7 _).trans (by kernel_rfl)))
 .exact(fT (dc "hd",34) (by unfold iC;simp) rfl (λβ=>(g7 _).trans (by kernel_rfl)))
theorem acq{x:ag×Nat}(ak:x∈iC):(∃w,w<4/\∀β,x.1.val β=C [103,97+w])\/(∃w,w<4/\∀β,x.1.val β=C [104,97+w])\/x.1=dc "bare":=by
 unfold iC at ak;simp only[dg,lJ,or_false] at ak;rcases ak with rfl|rfl|rfl|rfl|rfl|rfl|rfl|rfl|rfl
 .exact .inl (bh 0 (aR rfl) (λβ=>(g7 _).trans (by kernel_rfl)))
 .exact .inr (.inl (bh 0 (aR rfl) (λβ=>(g7 _).trans (by kernel_rfl))))
 .exact .inl (bh 1 (aR rfl) (λβ=>(g7 _).trans (by kernel_rfl)))
 .exact .inr (.inl (bh 1 (aR rfl) (λβ=>(g7 _).trans (by kernel_rfl))))
 .exact .inl (bh 2 (aR rfl) (λβ=>(g7 _).trans (by kernel_rfl)))
 .exact .inr (.inl (bh 2 (aR rfl) (λβ=>(g7 _).trans (by kernel_rfl))))
 .exact .inl (bh 3 (aR rfl) (λβ=>(g7 _).trans (by kernel_rfl)))
 .exact .inr (.inl (bh 3 (aR rfl) (λβ=>(g7 _).trans (by kernel_rfl))))
 .exact .inr (.inr rfl)
theorem Rl{e:b4}(bt:df g e ax)(h:e.os[1]? =C (ai,.list xs))(aX:ax.ad[1]? =C L):L=(L.1,L.1):=by refine cz (bt.objs 1 _ _ h) λa d dd dx=>?_;rw[aX] at dd;(obtain J:=aT dd;clear dd;(clear aX;subst J));obtain(⟨e,_⟩):=(show cL g g.h₀.get? ax a d (.list xs) from dx);exact G e rfl
theorem YJ{w v:Nat}:(qb w v).os[1]? =C (ai,.list [aI 2]):=by unfold qb;split<;>rfl
theorem YL{o:cY}(cA:β.ad[1]? =C root)(Ot:∀w,w<4->∃r iJ iK,β.ad[1]? =C r/\β.ad[27+2*w]? =C iJ/\β.ad[28+2*w]? =C iK/\GenAt g after r w iJ iK)
  (dict:g.h₀.get? cK=C o)(hd:o.IsDictOf (strKind g.prog g.w) ay)(ne:cK≠ku)(eS:ay.length<=20)(base:∀old,g.base cK=C old->old=ay)
  (at_:∀x:ag×Nat,x∈iC->∀l,x.1.val β=C l->∃a,β.ad[x.2]? =C a/\a0 ay (aQ l)=C (.ref a.1))(keys:∀k,a0 ay k≠none->∃x:ag×Nat,x∈iC/\x.1.val β=C (cs k)):
  ∃ga,Gens g after root cK ay ga:=by
 have nf:∀w,w<4->∃e L ax,a0 ay (aQ [103,97+w])=C (.ref L)/\ax.ad[0]? =C root/\ax.ad[1]? =C (L,L)/\ax.ad[2]? =C e/\ax.aC[0]? =C (2+2*(w:Int))/\df g (qb w (after w)) ax/\ax.aj=vr w (after w):=λw hw=>by refine mD (Ot w hw) λr iJ iK g1 g2 g3 eh=>?_;rw[cA] at g1;(obtain J:=aT g1;clear g1;subst J);refine ih eh.ge λe ax a1 a2 cj c9 dQ fe=>eH (acm hw) λx ak dv dU=>aS (at_ x ak _ (dU β)) λa cH cX=>?_;rw[dv,g2] at cH;(obtain J:=aT cH;clear cH;subst J);exact(ag1 e iJ.1 ax cX a1 (G (bV (Rl dQ YJ a2)) a2) cj c9 dQ fe)
 obtain f9:∀w,w<4->∃L ax,a0 ay (aQ [104,97+w])=C (.ref L)/\ax.ad[0]? =C root/\ax.ad[1]? =C (L,L)/\df g me ax/\ax.aj=[97+w]/\ax.aC[0]? =C (3+2*(w:Int)):=λw hw=>by refine mD (Ot w hw) λr iJ iK g1 g2 g3 eh=>?_;rw[cA] at g1;(obtain J:=aT g1;clear g1;subst J);refine C6 eh.he λax a1 a2 cj c9 dQ=>eH (acn hw) λx ak dv dU=>aS (at_ x ak _ (dU β)) λa cH cX=>?_;rw[dv,g3] at cH;(obtain J:=aT cH;clear cH;subst J);exact(uk iK.1 ax cX a1 (G (bV (Rl cj (xs:=[aI 2]) rfl a2)) a2) cj c9 dQ)
 let ga:Nat->aF×Addr:=λw=>if h:w<4 then Tu (nf w h) else(0,0);obtain ZN:∀w,w<4->∃L ax,a0 ay (aQ [103,97+w])=C (.ref L)/\ax.ad[0]? =C root/\ax.ad[1]? =C (L,L)/\ax.ad[2]? =C (ga w)/\ax.aC[0]? =C (2+2*(w:Int))/\df g (qb w (after w)) ax/\ax.aj=vr w (after w):=λw hw=>by obtain this:=Classical.choose_spec (nf w hw);obtain e:ga w=Tu (nf w hw):=dif_pos hw;exact G e this
 have all:∀w,w<4->∃L ax,a0 ay (aQ [103,97+w])=C (.ref L)/\ax.ad[0]? =C root/\ax.ad[1]? =C (L,L)/\ax.ad[2]? =C (ga w)/\ax.aC[0]? =C (2+2*(w:Int))/\(4<=after w->df g GE ax/\ax.aj=[97+w])/\
   (after w=w->df g (mV 0 [dD]) ax/\ax.aj=[97+w])/\(after w<4->after w≠w->df g (mV 1 [dD,dD]) ax/\ax.aj=[97+w,97+after w]):=λw hw=>by
  refine qA (ZN w hw) λL ax a1 a2 cj c9 dQ fe iq=>?_;unfold qb at fe;unfold vr at iq;refine(SS L ax a1 a2 cj c9 dQ (λh=>?_) (λh=>?_) (λh aA=>?_))
  .rw[Nat.ble_eq_true_of_le h] at fe iq;exact⟨fe,iq⟩
  .have a9:dw 4 (after w)=false:=by
    generalize q:dw 4 (after w)=aD;induction aD using bZ with
    |false=>rfl
    |true=>obtain this:=bA q;lia
   have bf:cv w (after w)=true:=by exact G h (Lf w)
   rw[a9,bf] at fe iq;exact⟨fe,iq⟩
  .have a9:dw 4 (after w)=false:=by
    generalize q:dw 4 (after w)=aD;induction aD using bZ with
    |false=>rfl
    |true=>obtain this:=bA q;exact absurd (by assumption) (Nat.not_le_of_lt (by assumption))
   have bf:cv w (after w)=false:=by
    generalize q:cv w (after w)=aD;induction aD using bZ with
    |false=>rfl
    |true=>exact absurd (d2 q).symm aA
   rw[a9,bf] at fe iq;exact⟨fe,iq⟩
 refine⟨ga,⟨(bh o dict hd),ne,eS,base,λw hw=>?_⟩,all,f9,λk aw=>?_⟩
 .exact t5 (all w hw) λL ax a1 a2 cj I I fe iq ky=>(uk L ax a1 a2 cj fe iq ky)
 .refine aS (keys k aw) λx ak e=>?_;rcases acq ak with⟨w,hw,h⟩|⟨w,hw,h⟩|h
  .rw[h β] at e;exact .inl (bh w hw (.inl (G (c0 e) ((hj k).symm))))
  .rw[h β] at e;exact .inl (bh w hw (.inr (G (c0 e) ((hj k).symm))))
  .rw[h,g7] at e;refine .inr ?_;obtain this:aQ (cs k)=aQ (cs (bO "bare")):=by exact G (c0 e) rfl
   rw[hj] at this;exact this
end
variable{m4:fH->aM->Prop}
section
variable{c:bc}{s:aM}{Q:az->aM->Prop}
theorem BM{iN:cy}{c₁:bc}{st:St}{h₀:gj}(N:Seen iN c₁ st aW bg dep ah bX p h₀ base):sP (iN.re h₀ bX dP base):=λa o ay old aa af aJ=>by obtain this:=N.base a o ay (N.down a o aa) af;obtain aJ:base a=C old:=aJ;rw[this] at aJ;exact c0 aJ
theorem afr{W:ro}{iN:cy}{c₁:bc}(F:uW W.K)(T:sT W 4 4 zO iN c₁ aW bg env)(br:W.S<=1000)(yk:20<=W.S)
  (next:∀cT aY b0 root cK ay ga y,Good cT->cT.K=W.K->({c₁ with P:=cT.h₀.get?}:bc).Ok cT 3->Sat cT {c₁ with P:=cT.h₀.get?} rj.st aY b0->Gens cT W.after root cK ay ga->aY.ad[1]? =C root->aY.ad[8]? =C W.fX->aY.ad[10]? =C (W.e4,W.e4)->aY.ad[11]? =C (W.eo,W.eo)->aY.ad[13]? =C (cK,cK)->
   (∃B,aY.ad[27]? =C B/\a0 ay "bare"=C (.ref B.1))->aY.aC[0]? =C W.room->sP cT->cT.M=W.M->(∀a o,W.h0.get? a=C o->cT.h₀.get? a=C o)->cT.dT=W.dT->20<=cT.S->cT.S<=W.S+300->a7 aY (aI 0) y->m4 (.ret y) b0):dW iN c₁ (cF ((kQ W.K).drop 4) env) m4 E bg:=by
 have aw:=T.k;have BK:=T.S;obtain t:=F.tail;obtain o9:=F.nine;unfold DD at t;unfold CQ at o9;refine Z_ (r:=aI 0) (st:=zO) (ah:=q8) (bX:=60) (p:=rj) (h3:=g8) T.good T.cp T.env T.sat zl (G aw t) (by lia) λbk aY ao h₀ base y v en l S N a6 r aj=>?_;rw[aw] at en;obtain en:(ep W.K g8 300).xs (kj W.K) ((kQ W.K).drop 4) zO=.ok (.ret v) bk:=en;rw[en] at o9;obtain o9:((di.ret v).t9.isSome&&I6 bk)=true:=o9;replace o9:=bB o9;refine aS (acr o9) λar Hf o9=>cz (N.rest 13 ae _ Hf (aR (by kernel_rfl))) λcK d bY c5=>?_;obtain(⟨g0,ns,o,ay,eZ,hp,ve,x4,WO,Gh⟩):=(show cL iN h₀.get? aY cK d (.dict ar none) from c5);(clear c5;subst g0);have at_:=aco S.facts o9 ve;refine a3 (acp S.facts o9 WO) λeS keys=>?_;obtain eA:oF iN (iN.re h₀ 60 (pull q8 aY) base):=⟨rfl,rfl,λb x e=>N.up b x (T.cp.base b x e),gs _ _⟩;have ad:∀{i n:Nat}{x:aF×aF},cG q8.ad i=C n->aW.ad[n]? =C x->(pull q8 aY).ad[i]? =C x:=λbN e=>dz bN (a4 l.ad e);refine wd (T.gens 0 (aR rfl)) λroot I I cA I=>?_;obtain VT:=a4 l.ad cA;refine bG (YL (g:=iN.re h₀ 60 (pull q8 aY) base) (after:=W.after) (β:=aY) VT (λw hw=>by exact mD (T.gens w hw) λr iJ iK g1 g2 g3 eh=>(z6 r iJ iK (a4 l.ad g1) (a4 l.ad g2) (a4 l.ad g3) (eh.k9 eA))) eZ hp ns (by obtain Gh:ay.length<=ar.length+0:=Gh;exact bU (by assumption) (by assumption)) (λold h=>(BM N _ _ _ _ eZ hp h).symm) at_ keys) λga EJ=>?_
 refine aS (at_ (dc "bare",52) (by unfold iC;simp) _ (g7 _)) λB a9 bf=>?_;rw[hj] at bf;refine next (iN.re h₀ 60 (pull q8 aY) base) (pull q8 aY) ao root cK ay ga y a6 aw N.cp N.sat EJ (ad rfl cA) (ad rfl T.fX) (ad rfl T.j8) (ad rfl T.k0) (dz rfl bY) (bh B (dz rfl a9) bf) ?_ (BM N) T.m (λa o e=>N.up a o (T.hk a o e)) T.dT ?_ ?_ (ta N.pull S.facts aj r)
 .obtain this:=kO (ah:=q8) (i:=0) (e:=.aL 0 ai 0) rfl (lR (c:=0) (a4 l.aC T.room));refine G this ?_;simp
 .show 20<=iN.S+60;exact bA rfl
 .show iN.S+60<=_;lia
end
section
variable{c:bc}{s:aM}{Q:az->aM->Prop}
theorem aaQ(h:Cu K=ae):∃st,(((ep K g8 300).ev (kj K) (Dv K)).bind ni) xx.st=.ok 28 st/\st.σ.get 28=C (ae,.itR 0 4)/\rZ st 28=ae/\h1 q7 60 {st with σ:=st.σ.put cU 28 (ae,.raw 0)} (SC 0 [])=true:=by refine cN h λw e h=>?_;obtain(⟨n,st⟩):=w;obtain rfl:=d2 (bR h);exact(l4 st (t7 e) (Pp (bR (bB h))) (bR (bB (bB h))) (bB (bB (bB h))))
theorem afp{W:ro}(F:uW g.K)(a6:Good g)(U:c.Ok g 3)(V:cc c (kj g.K) env β)(H:Sat g c xx.st β s)(L:Ey W)(br:g.S<=500)(yk:20<=g.S)
  (Kb:W.K=g.K)(qN:β.ad[10]? =C (W.e4,W.e4))(pw:β.ad[11]? =C (W.eo,W.eo))(sd:β.ad[8]? =C W.fX)(wr:β.aC[0]? =C W.room)(SP:g.M=W.M)(SM:c.A=W.A)(wp:∀a o,W.h0.get? a=C o->c.P a=C o)(dJ:c.cw=W.cw)(agN:c.L=W.L)(wf:c.fr=W.fr)(ws:g.dT=W.dT)(wS:W.S=g.S+60)
  (next:∀(c₁:bc)(cT:cy)(aY:aZ) b0 root cK ay ga y,c₁.cw=W.cw->c₁.L=W.L->c₁.fr=W.fr->c₁.A=W.A->Good cT->cT.K=W.K->({c₁ with P:=cT.h₀.get?}:bc).Ok cT 3->Sat cT {c₁ with P:=cT.h₀.get?} rj.st aY b0->Gens cT W.after root cK ay ga->aY.ad[1]? =C root->aY.ad[8]? =C W.fX->aY.ad[10]? =C (W.e4,W.e4)->aY.ad[11]? =C (W.eo,W.eo)->aY.ad[13]? =C (cK,cK)->
   (∃B,aY.ad[27]? =C B/\a0 ay "bare"=C (.ref B.1))->aY.aC[0]? =C W.room->sP cT->cT.M=W.M->(∀a o,W.h0.get? a=C o->cT.h₀.get? a=C o)->cT.dT=W.dT->20<=cT.S->cT.S<=W.S+300->a7 aY (aI 0) y->m4 (.ret y) b0):dW g c (cF (JE g.K::(kQ g.K).drop 4) env) m4 E s:=by
 refine jQ (aaQ F.start) λst q Y2 only HT=>jm (Oh (h3:=g8) (ab:=kj g.K) a6 U V H zl F.set q λav ao a d l S aU=>?_);(refine a3 (RG (aR rfl) S Y2 only) λJ dk=>aS J λdp fo I=>?_;try clear J);rw[aU] at fo;cases(fo);obtain AE:c.Ok (g.iter (ht 0 4)) 3:=⟨U.base,U.frames,U.here,U.hd,U.iX,U.depth,U.units,U.calm,U.dep⟩;have xn:Good (g.iter (ht 0 4)):=⟨⟨a6.ok.fl,a6.ok.top,a6.ok.S,a6.ok.low⟩,a6.lay,a6.raise⟩;refine mC (r9 xn.ok AE dk HT (by show g.S+60<=100000;exact bU (j1 (by assumption) _) (bA rfl))) λdq base N=>?_;obtain hn:=xn.re N.ok;obtain E3:cc (c.re dq) (kj W.K) env (pull q7 av):=by exact G Kb (GQ V l (ah:=q7) rfl)
 have ad:∀{i n:Nat}{x:aF×aF},cG q7.ad i=C n->β.ad[n]? =C x->(pull q7 av).ad[i]? =C x:=λbN e=>dz bN (a4 l.ad e);have mi:({W with it:=a}:ro).K=g.K:=Kb;obtain T0:sT {W with it:=a} 0 0 (SC 0 []).st ((g.iter (ht 0 4)).re dq 60 (pull q7 av) base) (c.re dq) (pull q7 av) ao env:=⟨hn,Kb.symm,N.cp,E3,N.sat,ad rfl sd,ad rfl qN,ad rfl pw,dz rfl aU,by obtain this:=kO (ah:=q7) (i:=0) (e:=.aL 0 ai 0) rfl (lR (c:=0) (a4 l.aC wr));refine G this ?_;simp,SP,SM,λa o e=>N.up a o (wp a o e),dJ,agN,wf,ws,rfl,(λw hw=>absurd hw (w7 _)),⟨by show W.S<=g.S+60;exact eP (by assumption),by show g.S+60<=W.S+60*0;exact eP (bV (by assumption))⟩⟩
 obtain g6:yV ({W with it:=a}:ro).K=true:=by exact G mi F.g6
 obtain pP:uW ({W with it:=a}:ro).K:=by exact G mi F
 obtain loop:=RI (W:={W with it:=a}) (env:=env) (pos:=(JF g.K).1) (R:=λr ao=>match r with|.ok f=>(match f with|.next=>a5 g.M c.A (cF ((kQ g.K).drop 4) env) m4 E ao|f=>m4 f ao)|.error e=>nJ g.M c.A env E e ao) ⟨L.lst,L.eS⟩ g6 (G mi F.at_) (by show W.S<=5000;lia) (λiN c₁ aW bg T=>by
   obtain R9:=afr (m4:=m4) (E:=E) (W:={W with it:=a}) pP T (by show W.S<=1000;exact wS▸bU (j1 br 60) (bA rfl)) (by show 20<=W.S;lia) λcT aY b0 root cK ay ga y=>next c₁ cT aY b0 root cK ay ga y T.cw T.L T.fr T.a
   obtain agc:iN.M=W.M:=T.m;obtain pv:c₁.A=W.A:=T.a;show a5 g.M c.A (cF ((kQ g.K).drop 4) env) m4 E bg;(refine G SP (G SM (G (bV agc) (G (bV pv) ?_))));rw[mi] at R9;exact R9) 4 0 _ _ _ ao rfl T0
 rw[mi] at loop;exact loop
end
noncomputable def n0(β:aZ):Nat->Nat:=λi=>((β.aC[i]?).getD 0).toNat
variable{fX:aF×aF}{room:Int}
section
variable{c:bc}{s:aM}{Q:az->aM->Prop}
theorem Mc{P:aF->Option cY}{a:aF}{st:St}(F:Facts g.S fV.au st.aE st.ns β)(R:cL g P β a d (.list [aC 0,aC 1,aC 2,aC 3])):a=d/\(∃aH k,P a=C (W.listOf aH k)/\aH.size=4/\∀i,i<4->∃t,aH[i]? =C (.int (n0 β i:Int) t))/\∀i,i<4->n0 β i<=5:=by
 obtain(⟨e,aH,k,aa,af⟩):=R;obtain F:=F.aC;obtain bd:∀i,i<4->∃z:Int,β.aC[i]? =C z/\0<=z/\z<=5:=λi bN=>by
  obtain this:fV.au[i]? =C xH:=by
   obtain this:i=0\/i=1\/i=2\/i=3:=by exact CI i bN
   rcases this with rfl|rfl|rfl|rfl<;>rfl
  exact aS (F.get this) λz a8 r=>(fT z a8 r.1 r.2.1)
 have val:∀i,i<4->β.aC[i]? =C (n0 β i:Int)/\n0 β i<=5:=λi bN=>by
  refine eH (bd i bN) λz a8 z8 DO=>?_;obtain e:n0 β i=z.toNat:=by unfold n0;exact G a8 rfl
  (refine G e (G a8 ?_));exact⟨congrArg C ((Af z8).symm),by exact Int.toNat_le.mpr DO⟩
 refine(fi e (d1 aH k aa ?_ (λi bN=>?_)) (λi bN=>(val i bN).2))
 .obtain this:=af.length;rw[wW] at this;exact this.symm
 .obtain this:[aC 0,aC 1,aC 2,aC 3][i]? =C (aC i):=by
   obtain this:i=0\/i=1\/i=2\/i=3:=by lia
   rcases this with rfl|rfl|rfl|rfl<;>rfl
  obtain(⟨y,bS,z,t,a8,rfl⟩):=af.get this;rw[pJ] at bS;obtain a8:(bo.aL (0:Nat) ai i).val β=C z:=a8;rw[lR (val i bN).1] at a8;refine⟨t,?_⟩;(refine G bS (G (bV (c0 a8)) ?_));simp
theorem afq(F:uW g.K)(a6:Good g)(U:c.Ok g 2)(eB:c.P=g.h₀.get?)(H:Sat g c nW.st β s)(br:g.S<=300)(yk:20<=g.S)(qN:β.ad[10]? =C (e4,e4))(pw:β.ad[11]? =C (eo,eo))(sd:β.ad[8]? =C fX)(wr:β.aC[4]? =C room)
  (next:∀root cK ay ga bq av ao y,ET ⟨g.K,n0 β,room,e4,eo,fX,g.M,c.A,g.h₀,g.dT,root,cK,ay,ga⟩ AI bq {c with P:=bq.h₀.get?} av ao->a7 av (aI 0) y->Q y ao):jG g c (.ref 734) [.ref e4] Q E s:=by
 refine bG F.fn λkinds hG=>?_;obtain ye:nW.st.σ.get 10=C (ai,.list [aC 0,aC 1,aC 2,aC 3]):=by exact G ((b4.get (aR rfl)) _) rfl
 refine bG H.objs λf hf=>?_;obtain(⟨a,d,ji,jV,_⟩):=hf 10 ai _ ye;rw[qN] at ji;(obtain J:=aT ji;clear ji;refine a3 (eD J) λbT cu=>?_;clear J;subst bT;subst cu);(refine fO (Mc (st:=nW.st) H.facts (show cL g c.P β e4 e4 (.list [aC 0,aC 1,aC 2,aC 3]) from jV)) λ_ J eS=>fD J λaH k cH cX fw=>?_;try clear J);rw[eB] at cH;refine Wh (st:=nW.st) (names:=[bO "after"]) (aK:=[aI 10]) a6.ok U (aR rfl) hG (by simp) (.cons ⟨_,_,qN,rfl⟩ .nil) rfl H λL fS ar fm cJ bg uS bw hd aw cb AF E4 hI keep=>?_;obtain mr:ry g.K 734=(kQ g.K).take 3++JE g.K::(kQ g.K).drop 4:=by(refine G (bV F.rE) (G (q3 _ _) ?_));rfl
 refine G mr ?_;obtain lV:=F.head;unfold BR at lV;refine B5 (ab:=kj g.K) (st:=fV.st) (p:=xx) (ah:=AA) (bX:=60) (h3:=Cj g.K) a6 AF E4 hI (aaz (g:=g.pin β) a6.pin.ok a6.pin.lay a6.pin.raise F.lim) lV (bU (j1 (by assumption) _) (bA rfl)) λbk aY b0 h₀ base en fB ho rm E3 hn=>?_;have ad:∀{i n:Nat}{x:aF×aF},cG AA.ad i=C n->β.ad[n]? =C x->(pull AA aY).ad[i]? =C x:=λbN e=>dz bN (a4 fB.ad e);refine afp (W:=⟨g.K,n0 β,e4,eo,fX,0,room,g.M,c.A.deeper cJ,g.h₀,(c.L,fS)::c.cw,L,cJ::c.fr,g.dT,g.S+60+60⟩) F hn rm.cp E3 rm.sat ⟨(d1 aH k cH cX fw),eS⟩ (by show g.S+60<=500;exact bU (j1 (by assumption) _) (bA rfl)) (by show 20<=g.S+60;exact bA rfl) rfl (ad rfl qN) (ad rfl pw) (ad rfl sd) ?_ rfl rfl (λa o e=>rm.up a o (AF.base a o e)) rfl rfl rfl rfl rfl λc₂ qe h2 dB root cK ay ga y dv dU hz pz lL fL LC m5 EJ cA VU j8 k0 k1 bare gK aB za fP afz afi kP hR=>?_
 .obtain this:=kO (ah:=AA) (i:=0) (e:=.aL 0 ai 4) rfl (lR (c:=0) (a4 fB.aC wr));refine G this ?_;simp
 .have dH:({c₂ with P:=qe.h₀.get?}:bc)=({c with P:=qe.h₀.get?}:bc).enter L fS (cJ::c.fr) (c.A.deeper cJ):=by obtain(⟨b8,ahS,ahJ,fV,ahl⟩):=c₂;dsimp only at dv dU hz pz;subst dv dU hz pz;rfl
  rw[dH] at LC m5;obtain EX:Sat qe {c with P:=qe.h₀.get?} AI.st h2 dB:=Sat.leave (f6:=[("room",aC 0),("after",aI 10)]) m5 hd aw λx v e=>by
   rw[Ha] at e;split at e
   .rename_i ak;(obtain J:=aT e;clear e;subst J);obtain(⟨y,eV,z,t,dX,rfl⟩):=cb "room" (aC 4) rfl;obtain ak:x=bO "room":=(gu.mp ak).symm;subst ak;refine(bh _ eV ⟨z,t,?_,rfl⟩);obtain dX:(bo.aL (0:Nat) ai 4).val β=C z:=dX;rw[lR wr] at dX;show(bo.aL (0:Nat) ai 0).val h2=C z;exact G (lR gK) dX
   .rw[Ha] at e;split at e
    .rename_i ak;(obtain J:=aT e;clear e;subst J);obtain(⟨y,eV,a,d,dX,rfl⟩):=cb "after" (aI 10) rfl;obtain ak:x=bO "after":=(gu.mp ak).symm;subst ak;rw[qN] at dX;(obtain J:=aT dX;clear dX;refine a3 (eD J) λbT cu=>?_;clear J;subst bT;subst cu);exact(bh _ eV ⟨_,_,j8,rfl⟩)
    .exact bM e
  exact next root cK ay ga qe h2 dB y ⟨lL,fL,U.leave LC,EX,rfl,EJ,cA,VU,j8,k0,k1,bare,gK,aB,za,rfl,fP,afz,afi,by obtain kP:qe.S<=g.S+60+60+300:=kP;exact bU kP (bU (j1 (j1 (j1 br 60) 60) 300) (bA rfl))⟩ hR
end
noncomputable def AJ:b4:={rj with loc:=[("room",aC 0),("after",aI 10),("scope",aI 0)]}
structure EN(K:b7):Prop where
 scope:uW K
 call:∃hk dd dx fP iV,(fN K).drop 3=.Assign [.Name "scope" hk] (.Call (.Name "_law_scope" dd) [.Name "after" dx] [] fP) iV::(fN K).drop 4
 PB:gR "scope" (lax K).scope.names=C .local
 Pz:gR "after" (lax K).scope.names=C .local
 PA:gR "_law_scope" (lax K).scope.names=C .globalImplicit
 Qu:lH K ik "_law_scope"=C (C (.ref 734))
section
variable{c:bc}{s:aM}
theorem XE{P:aF->Option cY}(V:cc c (lax K) env β)(sd:β.ad[8]? =C fX)(agM:av.ad[8]? =C fX):cc {c with P:=P} (lax K) env av:=by refine⟨V.scope,V.kind,V.glob,V.blt,V.loc,λx n e=>?_,V.frame,V.apart⟩;refine cz (V.cells x n e) λa ec dd dx=>aS (F2 e) λy bS e=>?_;obtain rfl:=eu.mp bS;subst e;rw[sd] at dx;exact(gi a ec dd (agM.trans dx))
theorem abB(F:EN g.K)(a6:Good g)(U:c.Ok g 2)(V:cc c (lax g.K) env β)(eB:c.P=g.h₀.get?)(H:Sat g c nW.st β s)(br:g.S<=300)(yk:20<=g.S)(qN:β.ad[10]? =C (e4,e4))(pw:β.ad[11]? =C (eo,eo))(sd:β.ad[8]? =C fX)(wr:β.aC[4]? =C room)
  (next:∀root cK ay ga bq av ao,ET ⟨g.K,n0 β,room,e4,eo,fX,g.M,c.A,g.h₀,g.dT,root,cK,ay,ga⟩ AJ bq {c with P:=bq.h₀.get?} av ao->cc {c with P:=bq.h₀.get?} (lax g.K) env av->dW g c (cF ((fN g.K).drop 4) env) Q E ao):dW g c (cF ((fN g.K).drop 3) env) Q E s:=by
 refine acW F.call λhk dd dx fP iV mr=>G mr ?_;have T:=H.toSatO.top U a6.ok;have X:=H.toSatO.fl U a6.ok;refine bG F.scope.fn λkinds hG=>?_;obtain(⟨bE,fZ,fd,gb,as,an,ds,bD,_⟩):=hG;refine aS H.loc λm hm qj=>?_;obtain(⟨DN,hP,a,d,cA,rfl⟩):=qj "after" (aI 10) rfl;rw[qN] at cA;(obtain J:=aT cA;clear cA;refine a3 (eD J) λbT cu=>?_;clear J;subst bT;subst cu);obtain ei:s.heap.Ns env.locals m:=by exact G V.loc hm
 refine jm (Am (G ((oO (λI I I h=>by(injection h))) _ _) (b2 (l8 V.kind (G (V.kindOf _) F.PA) (ux (G V.glob T.g) (mg_of X T.g F.Qu) ?_) (by kernel_rfl)))));refine callWith_def (o:=⟨bE,fZ,.func fd,gb⟩) (fd:=fd) rfl (kS (hE (hS V.kind (G (V.kindOf _) F.Pz) ei hP ?_) (by kernel_rfl)));refine nL ⟨X _ _ bD,?_⟩;refine sr (afq F.scope a6 U eB H br yk qN pw sd wr λroot cK ay ga bq av ao y L r=>?_);have gY:cc {c with P:=bq.h₀.get?} (lax g.K) env av:=XE V sd L.fX;obtain sn:=qI (X:=fW) L.good.ok L.cp gY "scope" (v:=aI 0) (y:=y) r av AI.st ao (.refl _) L.sat;obtain tf:jf (lax g.K) "scope" (aI 0) AI.st=.ok () AJ.st:=by unfold jf;exact G F.PB rfl
 unfold At at sn;rw[tf] at sn;obtain hP:bq.M=g.M:=L.m;rw[hP] at sn;refine sn _ _ λI dB d9 l S I=>?_;have ad:∀{i:Nat}{x:aF×aF},av.ad[i]? =C x->d9.ad[i]? =C x:=λe=>a4 l.ad e;exact aS L.bare λB EC ED=>next root cK ay ga bq d9 dB ⟨L.good,L.k,L.cp,S,L.eB,L.gens,ad L.cA,ad L.fX,ad L.j8,ad L.k0,ad L.k1,(bh B (ad EC) ED),a4 l.aC L.room,L.aB,L.m,L.a,L.hk,L.dT,L.S⟩ (gY.le l)
end
theorem WL:cs "lone"=[108,111,110,101]:=by kernel_rfl
theorem WM:cs "wrapper__101_1"=cs "wrapper__"++eR 101++95:: [49]:=by kernel_rfl
theorem SK:∃t,cs "wrapper__101_1"=119::t:=⟨_,by exact G (show cs "wrapper__101_1"=119::(cs "wrapper__101_1").tail by kernel_rfl) rfl⟩
theorem abO(h:y8 K=ae):wA (CG K) (lax K) mT 200 (oI tO)=ae/\∃st ar,CG K=.ok .next st/\st.σ.get 3=C (ae,.dict ar none)/\o5 st.au st.aE ar [dc "wrapper__101_1",dc "lone"]=ae/\st.σ.get 35=C (ae,.dict [] none):=by refine cN h λw e h=>?_;have q:=t7 e;rw[aci (bR h)] at q;refine⟨by exact G q (bR (bB h)),w.2,?_⟩;refine cN (bR (bB (bB h))) λp bf af=>cN (bB af) λd cB aJ=>?_;obtain(⟨b,o⟩):=p;obtain(⟨ar,mj⟩):=d;refine(l4 ar q ?_ (bB aJ) (acF (bB (bB (bB h)))));exact G bf (G (show b=ae from bR af) (G (show o=_ from oR cB) (G (show mj=none from nM.mp (bR aJ)) rfl)))
section
variable{Y:xt}{c:bc}{s:aM}
noncomputable def xt.n9(Y:xt)(fr:aF×aF)(hM d6:aF)(c6:aF×aF)(raw:Nat->cY):gD:=⟨Y.K,Y.after,Y.room,Y.root,fr,Y.cK,Y.ay,Y.ga,hM,d6,Y.e4,Y.eo,Y.M,Y.A,Y.h0,c6,raw,Y.dT⟩
theorem abA(F:y8 g.K=ae)(L:ET Y AJ g c β s)(V:cc c (lax g.K) env β)
  (next:∀fr hM d6 c6 bq bI av ao fn aP,bP (Y.n9 fr hM d6 c6 bq.raw) (oI tO) bq bI av ao env fn aP 5 101->bq.S=g.S+200->dW g c (cF ((fN g.K).drop 8) env) Q E ao):dW g c (cF ((fN g.K).drop 4) env) Q E s:=by
 obtain(⟨run,st,ar,adC,aJ,fL,Y4⟩):=abO F;obtain YD:AJ.st.σ.get 13=C (ai,.gone):=by exact G ((b4.get (aR rfl)) _) rfl
 refine aS L.gens.gen.dict λo eZ hp=>aS L.bare λB EC ED=>?_;obtain dk:Sat g c (IG y7) β s:=RK (ar:=[(dc "bare",aI 27)]) (abs:=y7) L.sat (aR rfl) YD L.k1 (G L.eB eZ) hp L.gens.gen.ne (λe he=>by
   obtain rfl:=eu.mp he;exact⟨_,_,g7 _,by exact G (hj _) ED,B.1,B.2,EC,rfl⟩) (Tf _ _) (λx ak=>by
   unfold y7 at ak;rcases dg.mp ak with rfl|ak
   .refine(bh _ (g7 _) (L.gens.absent ?_ ?_ ?_))<;>(intro t e;rw[WL] at e;simp at e)
   .obtain rfl:=eu.mp ak;(refine bG SK λw hw=>?_;try clear SK);refine(bh _ (g7 _) (L.gens.absent ?_ ?_ ?_))<;>(intro t e;rw[hw] at e;simp at e)) (λold h=>L.gens.gen.base old h) (by obtain this:=L.gens.gen.eS;obtain this:=L.S;lia)
 obtain br:=L.S;obtain aw:g.K=Y.K:=L.k;obtain mr:(fN g.K).drop 4=((fN g.K).drop 4).take 4++(fN g.K).drop 8:=by refine G (show(fN g.K).drop 8=((fN g.K).drop 4).drop 4 by exact G D5 rfl) ?_;exact(q3 4 _).symm
 refine G mr (B5 (ab:=lax g.K) (st:=IG y7) (p:=oI tO) (ah:=mT) (bX:=200) (h3:=g8) L.good L.cp V dk zl run (by lia) λbk aY ao h₀ base en l S N gY a6=>?_);have en:CG g.K=.ok .next bk:=en;rw[adC] at en;cases(en);obtain T1:=S.facts;have ad:∀{i n:Nat}{x:aF×aF},cG mT.ad i=C n->β.ad[n]? =C x->(pull mT aY).ad[i]? =C x:=λbN e=>dz bN (a4 l.ad e);refine bG S.objs λf hf=>?_;obtain(⟨hM,d,ji,jV,_⟩):=hf 3 ae _ aJ;obtain(⟨g0,fns,of,fn,f1,f2,vl,f4,hL,_⟩):=(show cL g ao.heap.get? aY hM d (.dict ar none) from jV);(clear jV;subst g0);obtain(⟨d6,d,v1,v2,_⟩):=hf 35 ae _ Y4;obtain(⟨g0,ah0,ok,aP,bY,c5,fF,jX,agL,_⟩):=(show cL g ao.heap.get? aY d6 d (.dict [] none) from v2);(clear v2;subst g0);have len:∀i,i<27->∃x,(pull mT aY).ad[i]? =C x:=λi bN=>⟨_,i5 (by show i<(mT.ad.map _).length;exact G (gB _) bN)⟩;refine bG (len 2 (aR rfl)) λfr tC=>bG (len 9 (aR rfl)) λc6 rM=>next fr hM d6 c6 (g.re h₀ 200 (pull mT aY) base) (c.re h₀) (pull mT aY) ao fn aP ⟨a6,L.k,N.cp,(by show cc (c.re h₀) (lax Y.K) env (pull mT aY);exact G (bV aw) gY),N.sat,rfl,?_,ad rfl L.cA,tC,dz rfl ji,dz rfl v1,ad rfl L.j8,ad rfl L.k0,ad rfl L.k1,?_,kO rfl rfl,kO rfl rfl,N.base _ _ _ f1 f2,N.base _ _ _ bY c5,λk aw=>?_,λk aw=>?_,by show 20<=g.S+200;exact bA rfl,by exact aR rfl,BM N,L.m,L.a,λa o e=>N.up a o (L.hk a o e),rM,rfl,L.dT⟩ rfl
 .exact L.gens.re rfl rfl (λb x e=>N.up b x (L.cp.base b x e)) (gs _ _) λold h=>by obtain this:=BM (dP:=pull mT aY) N Y.cK o Y.ay old (N.up _ _ (G L.eB eZ)) hp h;exact this.symm
 .obtain this:=kO (ah:=mT) (i:=2) (e:=.aL 0 ai 0) rfl (lR (c:=0) (a4 l.aC L.room));refine G this ?_;show C ((0:Int)+Y.room)=C Y.room;exact G (Ea _) rfl
 .refine aS (hL k aw) λe he ev=>aS (vP T1 fL (λx ak=>by
   rcases dg.mp ak with rfl|ak
   .exact⟨_,g7 _⟩
   .obtain rfl:=eu.mp ak;exact⟨_,g7 _⟩) e he _ ev) λx ak bf=>?_
  rcases dg.mp ak with rfl|ak
  .rw[g7] at bf;refine .inr (.inr ⟨101,[49],by exact aR rfl,by exact aR rfl,.inl ?_⟩);exact G (bV (c0 bf)) WM
  .obtain rfl:=eu.mp ak;rw[g7] at bf;refine .inr (.inl ?_);(refine G (show aQ (cs "lone")=aQ (cs k) by exact G (bV (c0 bf)) rfl) ?_;exact G (hj _) rfl)
 .refine aS (agL k aw) λe he I=>?_;cases he
end
theorem af4{au:List b5}:(oI au).os.all (λx=>!lY x.2)=true:=by show(oI []).os.all (λx=>!lY x.2)=ae;kernel_rfl
structure LJ(K:b7):Prop where
 runs:G5 K=ae
 keeps:G4 K=ae
 set:isSet (IF K)=ai
 rE:(fN K).drop 8=PS K::(fN K).drop 9
theorem Xk(zs:List Int)(k:Nat):∃w:Nat,w<4/\fk zs k 4=(w:Int):=by exact a3 (tr (a:=pk zs k) (b:=4) (aR rfl)) λda dA=>(bh ((fk zs k 4).toNat) (by unfold fk;exact(Lg da).mpr (Tv dA)) (by unfold fk;exact(Af da).symm))
theorem Yv{d:Nat}(h:Og K d=ae)(aA:G3 K d=ae):∃n st,ts K d=.ok n st/\n<10000000/\st.σ.get n=C (ae,.itR 0 (3+d))/\rZ st n=ae/\h1 (uO n) 60 {st with σ:=st.σ.put cU n (ae,.raw 0)} dF=ae/\y0 {st with σ:=st.σ.put cU n (ae,.raw 0)} []=true:=by unfold G3 at aA;refine cN h λw e h=>?_;rw[t7 e] at aA;exact(uk w.1 w.2 (t7 e) (bA (bR h)) (Pp (bR (bB h))) (bR (bB (bB h))) (bB (bB (bB h))) aA)
section
variable{X:gD}{c:bc}{s:aM}
theorem bP.acG(T:bP X p g c β s env fn aP at_ N)(b6:p.os.all (λx=>!lY x.2)=ae)(aX:p.os.length<=10000000)(dn:cY):bP (X.iter dn) p (g.iter dn) c β s env fn aP at_ N:=by
 have H:=T.sat;refine bG H.objs λf hf=>?_;obtain S:Sat (g.iter dn) c p.st β s:=by refine⟨⟨H.keep,H.cw,⟨f,λn own y q=>?_⟩,H.len,H.facts,H.ghost⟩,H.os,H.loc⟩;obtain(⟨eg,fK,g1,g2,g3⟩):=hf n own y q;rw[b4.get aX] at q;obtain qy:=eX.mp b6 _ (l7 q);exact⟨eg,fK,g1,cL.iter (by simpa using qy) g2,g3⟩
 refine⟨⟨⟨T.good.ok.fl,T.good.ok.top,T.good.ok.S,T.good.ok.low⟩,T.good.lay,T.good.raise⟩,T.k,⟨T.cp.base,T.cp.frames,T.cp.here,T.cp.hd,T.cp.iX,T.cp.depth,T.cp.units,T.cp.calm,T.cp.dep⟩,T.env,S,T.eB,T.gens.re rfl rfl (λI I e=>e) (dO _) λold h=>?_,T.cA,T.el,T.gE,T.jL,T.j8,T.k0,T.k1,T.room,T.od,T.ee,T.sZ,T.oM,T.keys,λk aw=>?_,T.S,T.m2,T.aB,T.m,T.a,T.hk,T.hJ,rfl,T.dT⟩
 .exact aS T.gens.gen.dict λo a9 bf=>T.aB _ _ _ _ a9 bf h▸rfl
 .exact eH (T.ents k aw) λch aa af aJ=>(fT ch aa af (aJ.re rfl rfl (λI I e=>e) (dO _) (λI I=>rfl) λI I=>rfl))
set_option tactic.hygienic true in
theorem Yz(h:101<=S)(F:bK (hb S) tO zs):bK (hb S) ts.Cd zs:=by
 unfold tO at F;unfold ts.Cd;cases F with
 |cons h0 F=>cases F with
  |cons aa F=>cases F with
   |cons af F=>cases F with
    |cons aJ F=>cases F with
     |cons bl F=>cases F with
      |cons cP F=>
       cases F;have w:∀(a b z dp dE:Int),hb S (a,b,none) z->dp<=a->b<=dE->b<=101->hb S (dp,dE,C 0) z:=λa b z dp dE r aa af aJ=>by(refine fO r λda dA _=>?_;try clear r);obtain da:a<=z:=da;obtain dA:z<=b:=dA;refine⟨show dp<=z by exact gk (by assumption) (by assumption),show z<=dE by exact gk (by assumption) (by assumption),λj cD=>?_⟩;(obtain J:=aT cD;clear cD;subst J);lia
       refine .cons h0 (.cons (w _ _ _ _ _ aa (aR rfl) (aR rfl) (aR rfl)) (.cons af (.cons (w _ _ _ _ _ aJ (aR rfl) (aR rfl) (aR rfl)) (.cons (w _ _ _ _ _ bl (aR rfl) (aR rfl) (aR rfl)) (.cons ?_ .nil)))));rename_i DO;(refine fO cP λda dA _=>?_;try clear cP);obtain da:5<=DO:=da;obtain dA:DO<=5:=dA;exact⟨gk (aR rfl) da,gk dA (aR rfl),λj cD=>by exact bM cD⟩
theorem abz(F:LJ g.K)(T:bP X (oI tO) g c β s env fn aP 5 101)(W:Own X zs)(br:101<=g.S/\g.S<=3000)
  (loop:∀(c6:aF) bq bI av ao fn aP m,Own {X with c6:=(c6,c6)} zs->bP (({X with c6:=(c6,c6)}:gD).iter (ht 0 m)) T0 bq bI av ao env fn aP 6 101->m<=6->bq.S<=g.S+60->ft g.M c.A (.forLoop (.Name "turn" (CC g.K).1) (.ref c6) (ea g.K) [] env) (λr ao=>match r with|.ok f=>m4 f ao|.error e=>nJ g.M c.A env E e ao) ao):a5 g.M c.A (i4 (PS g.K) env) m4 E s:=by
 have T:=T.bounds (dI:=oI ts.Cd) rfl (Yz br.1 T.sat.facts.aC);have aw:g.K=X.K:=T.k;refine aS (Xk zs (5+0+1)) λw hw hd=>?_;have Qn:w∈four:=by unfold four;simp only[dg,lJ,or_false];lia
 refine ih (Yv (eX.mp F.runs w Qn) (eX.mp F.keeps w Qn)) λn st q aN hit only HT ZU=>?_;obtain f9:fu (g.pin β) (p6 [(0,4,(w:Int))]):=vi T.good.ok (aw▸W.draw) (W.lists (n:=5) T (.refl _) (aR rfl)) λx ak=>by obtain rfl:=eu.mp ak;exact(fi (l5 _) (show(0:Int)<4 by exact aR rfl) hd)
 obtain V:cc c (lax g.K) env β:=by exact G aw T.env
 unfold ts at q;refine Oh (ab:=lax g.K) T.good T.cp V T.sat f9 F.set q λav ao a d l S aU=>?_;(refine a3 (RG aN S hit only) λJ dk=>aS J λdp fo I=>?_;try clear J);rw[aU] at fo;cases(fo);obtain dF:=T.acG af4 (show(oI []).os.length<=10000000 by exact aR rfl) (ht 0 (3+w));refine fD (Sh (dI:=T0) (ah:=uO n) (k:=1) (fM:=[]) dF l dk (λi bN=>by obtain e:(uO n).ad=(uO 0).ad.set 9 n:=rfl;(refine G (fY _ _) (G e (G (List.getElem?_set_ne (km bN.2)) ?_));refine G (bV (fY _ _)) ?_);exact(aR rfl:∀i,i<27->i≠9->cG (uO 0).ad i=C i) i bN.1 bN.2) rfl HT ZU (by exact rfl) (by show g.S+60<=9000;lia) λx ak=>(nomatch ak)) λbq bI bW ez I=>?_
 obtain et:(pull (uO n) av).ad[9]? =C (a,a):=dz rfl aU;obtain ez:bq.S=g.S+60:=ez;exact loop a bq bI _ ao fn aP (3+w) ⟨W.draw,W.chain,W.other,W.mm,W.eS,W.u5⟩ (bW _ et) (by lia) (eP ez)
end
noncomputable def ES(K:b7)(zs:List Int):Prop:=∀(X:gD)(env:hB)(pos:cn)(p2:aF)(R:Result->aM->Prop),X.K=K->Own X zs->X.c6=(p2,p2)->(∀ao,(∀a o,X.h0.get? a=C o->ao.heap.get? a=C o)->ao.os=X.dT.os/\ao.gens=X.dT.gens->R (.ok .next) ao)->
 (∀ao,(∀a o,X.h0.get? a=C o->ao.heap.get? a=C o)->ao.os=X.dT.os/\ao.gens=X.dT.gens->R (.ok (.ret (.bool ae))) ao)->
 ∀(left i:Nat)(g:cy)(c:bc)(β:aZ)(s:aM)(fn aP:List (aO×az))(a N:Int),bP (X.iter (ht i left)) T0 g c β s env fn aP a N->i+left<=6->g.S+180*left<=8000->a+4*left<=3000->ft g.M c.A (.forLoop (.Name "turn" pos) (.ref p2) (ea X.K) [] env) R s
structure EM(K:b7):Prop where
 PR:EN K
 rE:LJ K
 draws:Br K=ae
 rV:y8 K=ae
 draw:pN K
 chain:uP K
 other:xw K
 ret:∃q dd dx,(fN K).drop 9=[.Return (C (.Constant (.bool ae) q dd)) dx]
section
variable{c:bc}{s:aM}
theorem Xl(O:g.Ok)(F:pN g.K)(pw:β.ad[11]? =C (eo,eo))(mm:∃aH k,g.h₀.get? eo=C (W.listOf aH k)/\bK (λ(z:Int) y=>∃t,y=.int z t) zs aH.toList)(eS:zs.length<=1000):fu (g.pin β) GA:=
 NI (g:=g.pin β) (zs:=zs) (iB:=11) (D:=ND) (⟨O.fl,O.top,O.S,O.low⟩) F {
  cells:=by(refine cz mm λaH k aa af=>?_;try clear mm);exact(wO eo aH k (λav a_=>a4 a_.ad pw) aa af)
  eS:=eS
  draw:=λav a_ e eI r cb=>ct cb λn aa cb=>ct cb λm af cb=>omap cb λI q cb=>by subst cb;have q:=mv q;(refine G (Qz aa) (G (v5 af) ?_));exact(l4 n rfl (bU (bA (bR q)) (aR rfl)) (mR.mpr (bA (bB q))) (λv h=>by(injection h)))}
theorem aby(F:EM g.K)(loop:ES g.K zs)(a6:Good g)(U:c.Ok g 2)(V:cc c (lax g.K) env β)(H:Sat g c fJ.st β s)(br:g.S<=200)(yk:20<=g.S)(pw:β.ad[11]? =C (eo,eo))(mm:∃aH k,g.h₀.get? eo=C (W.listOf aH k)/\bK (λ(z:Int) y=>∃t,y=.int z t) zs aH.toList)(eS:zs.length<=1000)
  (fin:∀ao,(∀a o,g.h₀.get? a=C o->ao.heap.get? a=C o)->ao.os=g.dT.os/\ao.gens=g.dT.gens->Q (.ret (.bool ae)) ao):dW g c (cF ((fN g.K).drop 1) env) Q E s:=by
 obtain mr:(fN g.K).drop 1=((fN g.K).drop 1).take 2++(fN g.K).drop 3:=by refine G (show(fN g.K).drop 3=((fN g.K).drop 1).drop 2 by exact G D5 rfl) ?_;exact(q3 2 _).symm
 refine G mr ?_;obtain NA:=F.draws;unfold Br at NA;refine B5 (ab:=lax g.K) (st:=fJ.st) (p:=nW) (ah:=nS) (bX:=60) (h3:=GA) a6 U V H (Xl a6.ok F.draw pw mm eS) NA (bU (j1 (by assumption) _) (bA rfl)) λbk aY ao h₀ base en l S N gY fx=>?_;have up:∀a o,g.h₀.get? a=C o->h₀.get? a=C o:=λa o e=>N.up a o (U.base a o e);obtain agK:(pull nS aY).ad[11]? =C (eo,eo):=dz rfl (a4 l.ad pw);have ho:Sat (g.re h₀ 60 (pull nS aY) base) (c.re h₀) nW.st (pull nS aY) ao:=N.sat;obtain ye:nW.st.σ.get 10=C (ai,.list [aC 0,aC 1,aC 2,aC 3]):=by exact G ((b4.get (aR rfl)) _) rfl
 obtain G9:nW.st.σ.get 8=C (ae,.cell (C (aI 7))):=by exact G ((b4.get (aR rfl)) _) rfl
 refine bG ho.objs λf hf=>?_;obtain(⟨e4,d,ji,jV,_⟩):=hf 10 ai _ ye;(refine fO (Mc (st:=nW.st) ho.facts (show cL (g.re h₀ 60 (pull nS aY) base) h₀.get? (pull nS aY) e4 d (.list [aC 0,aC 1,aC 2,aC 3]) from jV)) λg0 J ahP=>fD J λaH k cH cX fw=>?_;try clear J);(clear jV;subst g0);obtain(⟨fX,Gi,v1,_⟩):=hf 8 ae _ G9;obtain⟨room,cb⟩:∃z,(pull nS aY).aC[4]? =C z:=⟨_,i5 (by show 4<(nS.aC.map _).length;exact G (gB _) (aR rfl))⟩;refine abB (g:=g.re h₀ 60 (pull nS aY) base) (c:=c.re h₀) (e4:=e4) (eo:=eo) (fX:=(fX,Gi)) (room:=room) F.PR fx N.cp gY rfl ho (by show g.S+60<=300;exact bU (j1 (by assumption) _) (bA rfl)) (by show 20<=g.S+60;exact bA rfl) ji agK v1 cb λroot cK ay ga iN aW bg L E4=>?_;have BW:iN.K=g.K:=L.k;have m₁:iN.M=g.M:=L.m;have kP:=L.S;obtain rV:=abA (Y:=⟨g.K,n0 (pull nS aY),room,e4,eo,(fX,Gi),g.M,c.A,h₀,g.dT,root,cK,ay,ga⟩) (g:=iN) (Q:=Q) (E:=E) (s:=bg) (G BW F.rV) L (G BW E4) λfr hM d6 c6 cT c₂ h2 b0 fn aP T ez=>by
  have HD:cT.K=g.K:=T.k;have m₂:cT.M=g.M:=T.m;have eg:c₂.A=c.A:=T.a;obtain Uw:Own ((⟨g.K,n0 (pull nS aY),room,e4,eo,(fX,Gi),g.M,c.A,h₀,g.dT,root,cK,ay,ga⟩:xt).n9 fr hM d6 c6 cT.raw) zs:=⟨F.draw,F.chain,F.other,(by(refine cz mm λaH k a9 bf=>?_;try clear mm);exact(gi aH k (up _ _ a9) bf)),eS,aH,k,cH,fw⟩
  obtain kB:=abz (g:=cT) (m4:=λf ao=>match f with|.next=>a5 cT.M c₂.A (cF ((fN g.K).drop 9) env) Q E ao|f=>Q f ao) (E:=E) (G HD F.rE) T Uw (by lia) λa qe Nh pL dB eL er m mi bW hm Za=>by
   obtain rW:=loop _ env (CC cT.K).1 a (λr ao=>match r with|.ok f=>(match f with|.next=>a5 cT.M c₂.A (cF ((fN g.K).drop 9) env) Q E ao|f=>Q f ao)|.error e=>nJ cT.M c₂.A env E e ao) rfl mi rfl (λao k os=>by refine wc F.ret λq dd dx Xx=>?_;show a5 cT.M c₂.A (cF ((fN g.K).drop 9) env) Q E ao;exact G Xx (jm (uu (wpAny_Constant_bool (fin ao (λa o e=>k a o (up a o e)) os))))) (λao k os=>fin ao (λa o e=>k a o (up a o e)) os) m 0 qe Nh pL dB eL er 6 101 bW (bU (l_ (by assumption) _) (bA rfl)) (by lia) (by lia)
   obtain ab7:qe.M=g.M:=bW.m;obtain VQ:Nh.A=c.A:=bW.a;rw[ab7,VQ] at rW;rw[m₂,eg] at rW ⊢;rw[HD] at rW ⊢;exact rW
  rw[m₂,eg] at kB;rw[HD] at kB;show a5 iN.M c.A (cF ((fN iN.K).drop 8) env) Q E b0;(refine G m₁ (G BW (G F.rE.rE ?_)));exact jm kB
 rw[BW] at rV;obtain rV:a5 iN.M c.A (cF ((fN g.K).drop 4) env) Q E bg:=rV;rw[m₁] at rV;exact rV
end
noncomputable def A7(p:Nat->cn):Stmt:=.Assign [.Name "bag" (p 0)] (.Dict [C (.Constant (.str "cells") 0 (p 1)),C (.Constant (.str "at") 0 (p 2))] [.Subscript (.Name "script" (p 3)) (.Slice none (C (.Constant (.int 60) 0 (p 4))) none (p 5)) (p 6),.Constant (.int 0) 0 (p 7)] (p 8)) (p 9)
section
variable{s:aM}{a aE:aF}{aK:List az}{ns:List Int}
theorem VZ{p:Nat->cn}(eU:env.scope.kind=.function)(ks:env.kindOf "script"=C .local)(vO:env.kindOf "bag"=C .cell)(bb:env.cells.lookup (bO "bag")=C aE)(ei:s.heap.Ns env.locals m)(hm:m "script"=C (.ref a))(aX:s.heap.IsList a aK.toArray)(bN:IntsAre aK ns)(eS:ns.length<=63)(vu:s.heap.IsCell aE none)(gw:env.locals≠aE)
  (next:∀aA t cW aH,aA.DictOf (strKind prog w) s.heap.objs.size [(bO "cells",.ref (s.heap.objs.size+2)),(bO "at",.int 0 t)]->aA.get? (s.heap.objs.size+2)=C (W.listOf aH 0)->IntsAre aH.toList (ns.take 60)->aA.IsCell aE (C (.ref s.heap.objs.size))->(∀b o,b≠aE->s.heap.get? b=C o->aA.get? b=C o)->aA.Ns env.locals m->Q .next {s with heap:=aA,toks:=cW}):a5 (c8 prog w) A (i4 (A7 p) env) Q E s:=by
 unfold A7;obtain rP:aK.length=ns.length:=bN.length;(refine aS vu λbE d_ Zx=>?_;try clear vu);have vd:aE<s.heap.objs.size:=fU d_;refine Am (wpAny_Dict_walk (knd:=strKind prog w) rfl rfl (by simp) (show 2<=15 by exact aR rfl) (KV (w0 (qX (hE (hS eU ks (show kT _ _ _ from ei.push _) hm ?_) (by kernel_rfl))))));refine wpAny_Slice (evalPart_none_step (evalPart_some_step (nO (evalPart_none_step ?_))));have up1:∀b o,s.heap.get? b=C o->(s.heap.push {cls:=.type "dict",data:=.dict #[]}).get? b=C o:=λb o e=>f5 _ e;obtain oH:(s.heap.push {cls:=.type "dict",data:=.dict #[]}).IsList a aK.toArray:=by(refine aS aX λo e r=>?_;try clear aX);exact⟨o,up1 _ _ e,r⟩
 have fJ:((s.heap.push {cls:=.type "dict",data:=.dict #[]}).push (lz .none (.int 60 (s.toks+1)))).IsList a aK.toArray:=by(refine aS oH λo e r=>?_;try clear oH);exact⟨o,f5 _ e,r⟩
 refine mM (s:={s with heap:=(s.heap.push {cls:=.type "dict",data:=.dict #[]}).push (lz .none (.int 60 (s.toks+1))),toks:=s.toks+1+1}) fJ.typeIs w3.lookup ?_ (JQ _ _ _ _ _);refine Tz (s:={s with heap:=(s.heap.push {cls:=.type "dict",data:=.dict #[]}).push (lz .none (.int 60 (s.toks+1))),toks:=s.toks+1+1}) fJ (Th ..) .none (.int 60 _) .none (by simp) ?_ (by refine G List.size_toArray (G kr ?_);lia);refine KV (w0 (nO (pairTrees_nil_walk ?_)));have uc:∀(x:aO)(t:Tok),(strKind prog w).is x (.str x t)=true:=λx t=>by obtain this:=El prog w (aQ (cs x)) t;rwa [hj] at this
 let aa:=s.heap.push {cls:=.type "dict",data:=.dict #[]};let af:=aa.push (lz .none (.int 60 (s.toks+1)));obtain af3:aa.objs.size=s.heap.objs.size+1:=D7 ..;have R4:af.objs.size=s.heap.objs.size+2:=(D7 ..).trans (G af3 rfl);have J0:∀b o,s.heap.get? b=C o->(af.push {cls:=.type "list",data:=.seq (qZ aK.toArray none (C 60) none)}).get? b=C o:=λb o e=>f5 _ (f5 _ (up1 b o e));obtain gl:(af.push {cls:=.type "list",data:=.seq (qZ aK.toArray none (C 60) none)}).get? (s.heap.objs.size+2)=C (W.listOf (qZ aK.toArray none (C 60) none) 0):=by obtain this:=nN af (o:={cls:=.type "list",data:=.seq (qZ aK.toArray none (C 60) none)}) rfl;rwa [R4] at this
 obtain kt:=kmk_upto (y:=60) bN (aR rfl);refine(fT [(bO "cells",.ref (s.heap.objs.size+2)),(bO "at",.int 0 _)] ⟨uc _ _,by exact G (bV R4) rfl,uc _ _,rfl,trivial⟩ (((TG s.heap).push _).push _) (λaA hd aB=>?_));obtain e9:∀x y:az,merged [] [(bO "cells",x),(bO "at",y)]=[(bO "cells",x),(bO "at",y)]:=λx y=>merged_nil_of_nodup _ (show[bO "cells",bO "at"].Nodup by exact aR (by kernel_rfl));rw[e9] at hd;obtain Ho:aA.IsCell aE none:=⟨bE,(aB.2 aE (kq vd)).trans (J0 _ _ d_),Zx⟩;refine wpAny_storeName_cell eU vO bb (show Heap.IsCell _ _ _ from Ho) λrI Zq BL=>?_;obtain Ud:env.locals≠s.heap.objs.size:=kq ei.lt;refine next rI _ _ (qZ aK.toArray none (C 60) none) (hd.sameBut BL (pB vd)) ((BL.2 _ ?_).trans ((aB.2 _ ?_).trans gl)) kt Zq (λb o hh e=>(BL.2 b hh).trans ((aB.2 b (kq (fU e))).trans (J0 b o e))) ?_
 .exact pB (ij vd (gs _ _))
 .exact pB (wV (aR rfl))
 .exact((ei.keeps J0).extBut aB.extBut Ud).extBut BL.extBut gw
end
theorem aaF{aK:List az}{ns:List Int}(h:IntsAre aK ns):bK (λ(z:Int) y=>∃t,y=.int z t) ns aK:=by
 induction h with
 |nil=>exact .nil
 |cons _ _ _ bF=>exact .cons ⟨_,rfl⟩ bF
noncomputable def oH:b4:=⟨gone 7++ [own (.dict [(dc "cells",aI 11),(dc "at",li 0)] none),own (.cell (C (aI 7))),fix .gone,fix .gone,own (.raw 0)]++gone 15,[],[],0,[]⟩
noncomputable def Cg:cV:=⟨pD 27,[],[],[]⟩
theorem abr:h1 Cg 60 oH.st fJ=true:=by kernel_rfl
theorem DA{a own:Bool}{x:O}(h:C (a,x)=C (own,o)):own=a/\o=x:=by(obtain J:=aT h;clear h;refine a3 (eD J) λbT cu=>?_;clear J;subst bT;subst cu);exact⟨rfl,rfl⟩
theorem gone_get{l:List (Bool×O)}:∀{n:Nat}{own:Bool}{o:O},(gone k++l)[n]? =C (own,o)->(own=ai/\o=.gone)\/∃m,n=m+k/\l[m]? =C (own,o):=by
 induction k with
 |zero=>exact λh=>.inr (bh _ rfl h)
 |succ k bF=>
  intro n own o h;induction n using hD with
  |zero=>exact .inl (DA h)
  |succ n=>exact(bF (n:=n) h).imp_right λgd=>(by(refine aS gd λm e q=>?_;try clear gd);exact(bh m (congrArg (·+1) e) q))
theorem abq{own:Bool}(h:oH.os[n]? =C (own,o)):n<27/\((own=ai/\o=.gone)\/(n=7/\own=ae/\o=.dict [(dc "cells",aI 11),(dc "at",li 0)] none)\/(n=8/\own=ae/\o=.cell (C (aI 7)))\/(n=11/\own=ae/\o=.raw 0)):=by
 refine⟨(j0.mp h).1,?_⟩;have h:(gone 7++([MI.own (.dict [(dc "cells",aI 11),(dc "at",li 0)] none),MI.own (.cell (C (aI 7)))]++(gone 2++MI.own (.raw 0)::(gone 15++ []))))[n]? =C (own,o):=h;rcases gone_get h with h|⟨m,rfl,h⟩
 .exact .inl h
 induction m using hD with
 |zero=>exact .inr (.inl ⟨rfl,DA h⟩)
 |succ m=>
  induction m using hD with
  |zero=>exact .inr (.inr (.inl ⟨rfl,DA h⟩))
  |succ m=>
  rcases gone_get (n:=m) h with h|⟨m,rfl,h⟩
  .exact .inl h
  induction m using hD with
  |zero=>exact .inr (.inr (.inr ⟨rfl,DA h⟩))
  |succ m=>
   rcases gone_get (n:=m) h with h|⟨m,rfl,h⟩
   .exact .inl h
   .exact nomatch h
noncomputable def n1(D aE Cl:aF):aZ:=⟨[(0,0),(0,0),(0,0),(0,0),(0,0),(0,0),(0,0),(D,D),(aE,aE),(0,0),(0,0),(Cl,Cl),(0,0),(0,0),(0,0),(0,0),(0,0),(0,0),(0,0),(0,0),(0,0),(0,0),(0,0),(0,0),(0,0),(0,0),(0,0)],[],[],[]⟩
theorem Wm:(bO "cells")≠bO "at":=by exact aR (by kernel_rfl)
theorem V0{x:az}:a0 [(bO "cells",x),(bO "at",y)] (bO "cells")=C x/\a0 [(bO "cells",x),(bO "at",y)] (bO "at")=C y/\∀k,a0 [(bO "cells",x),(bO "at",y)] k≠none->k=bO "cells"\/k=bO "at":=by
 refine(fi ?_ ?_ (λk h=>?_))
 ·(exact G (lD _ _ _) (G (if_pos rfl) rfl))
 ·(exact G (lD _ _ _) (G (if_neg Wm) (G (lD _ _ _) (G (if_pos rfl) rfl))))
 .by_cases e:bO "cells"=k
  .exact .inl e.symm
  .by_cases cq:bO "at"=k
   .exact .inr cq.symm
   .rw[lD,if_neg e,lD,if_neg cq] at h;exact absurd rfl h
section
variable{p:q1}{s:aM}{L a aE D Cl:aF}{aK:List az}{ns:List Int}
noncomputable def yh(prog:q1)(w:World)(K:b7)(bg:aM)(p:q1)(loose:List aO)(iS iR:aO->Option az)(β:aZ)(aH:Array az):cy:=⟨prog,w,K,bg.heap,p,loose,iS,iR,30,β,λI=>none,λI=>W.listOf aH 0,bg⟩
noncomputable def x3(bg:aM)(env:hB)(L:aF):bc:=⟨bg.heap.get?,[],[env],L,xf.deeper env⟩
theorem afl{t:Tok}{cW:Nat}{aH:Array az}(keep:∀b o,bg.heap.get? b=C o->aA.get? b=C o)(HP:s.os=bg.os)(Hw:s.gens=bg.gens)(Qt:bg.heap.get? D=none)(Qs:bg.heap.get? aE=none)(nl:bg.heap.get? Cl=none)(dL:D≠L)(MC:aE≠L)(PO:Cl≠L)(Xc:D≠aE)(dl:D≠Cl)(cl:aE≠Cl)(dsys:D≠ku)
  (hg:aA.DictOf (strKind prog w) D [(bO "cells",.ref Cl),(bO "at",.int 0 t)])(aX:aA.get? Cl=C (W.listOf aH 0))(bb:aA.IsCell aE (C (.ref D)))(ei:aA.Ns L m):
  Sat (yh prog w K bg p loose iS iR (n1 D aE Cl) aH) (x3 bg env L) oH.st (n1 D aE Cl) {s with heap:=aA,toks:=cW}:=by
 have free:∀{b:aF},bg.heap.get? b=none->b≠L->(x3 bg env L).gV b:=λaa af=>⟨aa,af,λx ak=>(nomatch ak)⟩;refine⟨⟨keep,λx ak=>(nomatch ak),⟨λx=>if x=D then 7 else if x=aE then 8 else 11,λn own o q=>?_⟩,rfl,⟨.nil,.nil,.nil,rfl,λl aX=>(nomatch aX)⟩,.refl _⟩,⟨HP,Hw⟩,m,ei,λx v e=>by exact bM e⟩;rw[b4.get (aR rfl)] at q;refine a3 (abq q) λlt h=>?_;rcases h with⟨rfl,rfl⟩|⟨rfl,rfl,rfl⟩|⟨rfl,rfl,rfl⟩|⟨rfl,rfl,rfl⟩
 .exact⟨_,_,i5 lt,trivial,λz=>by exact c7 z⟩
 .refine aS (sl.mp hg) λo aa af=>fO (V0 (x:=.ref Cl) (y:=.int 0 t)) λv1 v2 wK=>?_;have dH:ag.val (n1 D aE Cl) (dc "cells")=C (cs (bO "cells")):=g7 _;have ja:ag.val (n1 D aE Cl) (dc "at")=C (cs (bO "at")):=g7 _;refine⟨D,D,rfl,⟨rfl,dsys,o,_,aa,af,λe he=>?_,?_,λk aw=>?_,dO _⟩,λI=>⟨if_pos rfl,if_pos rfl,free Qt dL,free Qt dL,by intro e;(injection e)⟩⟩
  .rcases dg.mp he with rfl|he
   .exact⟨_,_,dH,by exact G (hj _) v1,_,_,rfl,rfl⟩
   .obtain rfl:=eu.mp he;exact⟨_,_,ja,by exact G (hj _) v2,0,t,rfl,rfl⟩
  .refine wZ.mpr ⟨λf hf=>?_,Tf _ _⟩;obtain rfl:=eu.mp hf;(refine G dH (G ja ?_));exact aR (by kernel_rfl)
  .rcases wK k aw with rfl|rfl
   .exact(bh _ (.head _) dH)
   .exact(bh _ (.tail _ (.head _)) ja)
 ·(refine aS bb λo aa af=>?_;try clear bb);have N9:(if aE=D then 7 else if aE=aE then 8 else 11)=8:=by exact G (if_neg (km Xc)) (G (if_pos rfl) rfl)
  exact⟨aE,aE,rfl,⟨rfl,o,_,aa,af,_,rfl,D,D,rfl,rfl⟩,λI=>⟨N9,N9,free Qs MC,free Qs MC,by intro e;(injection e)⟩⟩
 .have eK:(if Cl=D then 7 else if Cl=aE then 8 else 11)=11:=by exact G (if_neg (km dl)) (G (if_neg (km cl)) rfl)
  exact⟨Cl,Cl,rfl,⟨rfl,aX,λaK e=>by(injection e)⟩,λI=>⟨eK,eK,free nl PO,free nl PO,by intro e;(injection e)⟩⟩
end
section
variable{p:q1}{s:aM}{L a aE:aF}{aK:List az}{ns:List Int}
theorem abP(T:sC p loose iS iR h):ku<h.objs.size:=by
 (refine aS T.nolimit λqw J I=>wd J λo ar fm bw I=>?_;try clear J);obtain af:=fU bw;obtain this:ku<cStatics:=by exact aR rfl
 exact sq this af
theorem Wi(env:hB):(xf.deeper env).frames=C [env]/\(xf.deeper env).depth<=314/\(xf.deeper env).units<=50/\(xf.deeper env).handled=none:=by
 refine(SQ rfl ?_ ?_ rfl)
 .show 1+claimMargin+1<=314;exact aR (by kernel_rfl)
 .show 4+3<=50;exact aR rfl
theorem abC(F:EM K)(good:∀g:cy,g.K=K->g.w=w->g.Ok->Good g)(loop:∀zs,zs.length<=1000->ES K zs)(X:K.In bg.heap)(T:sC p loose iS iR bg.heap)(sO:Fr bg.heap L s.heap m)(HP:s.os=bg.os)(Hw:s.gens=bg.gens)(hm:m "script"=C (.ref a))(vu:s.heap.IsCell aE none)(lb:bg.heap.get? aE=none)(gw:L≠aE)(aX:bg.heap.IsList a aK.toArray)(bN:IntsAre aK ns)(eS:ns.length<=63)
  (vj:env.scope=y4 K)(eU:env.scope.kind=.function)(XB:env.globals=ik)(mr:env.builtins=nI)(n5:env.locals=L)(dH:env.cells.lookup (bO "bag")=C aE)(jM:env.frame=C L)(ks:gR "script" (y4 K).names=C .local)(vO:gR "bag" (y4 K).names=C .cell){pp:Nat->cn}(body:fN K=A7 pp::(fN K).drop 1)
  (fin:∀ao,(∀b o,bg.heap.get? b=C o->ao.heap.get? b=C o)->ao.os=bg.os/\ao.gens=bg.gens->Q (.ret (.bool ae)) ao):a5 (c8 prog w) (xf.deeper env) (cF (fN K) env) Q E s:=by
 have kindOf:∀x,env.kindOf x=gR x (y4 K).names:=λx=>by refine G (vQ _ _) ?_;unfold Env.kindOf;exact G vj rfl
 (refine aS aX λo bw ZZ=>?_;try clear aX);obtain jw:s.heap.IsList a aK.toArray:=⟨o,sO.keep _ _ bw,ZZ⟩;have ei:s.heap.Ns env.locals m:=by exact G n5 sO.ns
 refine G body (jm (VZ eU (G (kindOf _) ks) (G (kindOf _) vO) dH ei hm jw bN eS vu (G n5 gw) λaA t cW aH hg ZY hints Ho keep oY=>?_));have none_of:∀{b:aF},s.heap.objs.size<=b->bg.heap.get? b=none:=λ{b} aB=>by
  generalize q:bg.heap.get? b=aD;induction aD using b3 with
  |none=>rfl
  |some o=>exact absurd (fU (sO.keep _ _ q)) (i6.mpr aB)
 have EP:L<s.heap.objs.size:=sO.ns.lt;(refine aS vu λbE d_ _=>?_;try clear vu);have vd:aE<s.heap.objs.size:=fU d_;have low:=abP T;obtain rP:bg.heap.objs.size<=s.heap.objs.size:=bU sO.above (kp EP);obtain up:∀b o,bg.heap.get? b=C o->aA.get? b=C o:=λb o e=>keep b o (λz=>by rw[z,lb] at e;exact bM e) (sO.keep b o e);rw[n5] at oY;have fC:s.heap.objs.size<=s.heap.objs.size+2:=gs _ _;have sS:=afl (K:=K) (p:=p) (loose:=loose) (iS:=iS) (iR:=iR) (prog:=prog) (w:=w) (s:=s) (env:=env) (cW:=cW) up HP Hw (none_of (dO _)) lb (none_of fC) (pB EP) (km gw) (pB (ij EP fC)) (pB vd) (kq (wV (aR rfl))) (kq (ij vd fC)) (pB (ij low rP)) hg ZY Ho oY;have LQ:(yh prog w K bg p loose iS iR (n1 s.heap.objs.size aE (s.heap.objs.size+2)) aH).Ok:=⟨X,T,show 30<=100000 by exact aR rfl,low⟩;refine I_ (Wi env) λa1 a2 cj c9=>?_;obtain TS:(x3 bg env L).Ok (yh prog w K bg p loose iS iR (n1 s.heap.objs.size aE (s.heap.objs.size+2)) aH) 2:=by
  refine⟨λ_ _ e=>e,a1,λe he=>?_,λx ak=>(nomatch ak),?_,a2,cj,λ_=>c9,by exact aR rfl⟩
  .obtain rfl:=eu.mp he;exact⟨by refine G eU ?_;simp,L,jM,.inl rfl⟩
  .show bg.heap.get? L=none;generalize q:bg.heap.get? L=aD;induction aD using b3 with
   |none=>rfl
   |some o=>exact absurd (fU q) (i6.mpr sO.above)
 obtain Uv:cc (x3 bg env L) (lax K) env (n1 s.heap.objs.size aE (s.heap.objs.size+2)):=by
  refine⟨vj,eU,XB,mr,n5,λx n e=>?_,(gi env [] rfl rfl),λx ak=>(nomatch ak)⟩;obtain e:k3 x [("bag",8)]=C n:=e;rw[F1] at e;split at e
  .rename_i ak;obtain ak:bO "bag"=x:=gu.mp ak;(obtain J:=aT e;clear e;subst J);subst ak;exact(gi aE aE dH rfl)
  .exact bM e
 obtain T2:=good _ rfl rfl LQ;refine mC (r9 (p:=fJ) (ah:=Cg) (bX:=60) LQ TS sS abr (by show 30+60<=100000;exact aR rfl)) λh₀ base N=>?_;obtain YC:oH.st.σ.get 11=C (ae,.raw 0):=by exact G ((b4.get (aR rfl)) _) rfl
 refine cz (N.rest 11 ae _ YC (aR (by kernel_rfl))) λeo d ji jV=>fO (show cL (yh prog w K bg p loose iS iR (n1 s.heap.objs.size aE (s.heap.objs.size+2)) aH) h₀.get? (n1 s.heap.objs.size aE (s.heap.objs.size+2)) eo d (.raw 0) from jV) λg0 da _=>?_;(clear jV;subst g0);have PW:(ns.take 60).length<=1000:=by exact G List.length_take (bU (Nat.min_le_left _ _) (bA rfl))
 obtain run:=aby (g:=(yh prog w K bg p loose iS iR (n1 s.heap.objs.size aE (s.heap.objs.size+2)) aH).re h₀ 60 (pull Cg (n1 s.heap.objs.size aE (s.heap.objs.size+2))) base) (c:=(x3 bg env L).re h₀) (zs:=ns.take 60) (eo:=eo) (Q:=Q) (E:=E) F (loop _ PW) (T2.re N.ok) N.cp (GQ Uv (.refl _) (ah:=Cg) rfl) N.sat (by show 30+60<=200;exact aR rfl) (by show 20<=30+60;exact aR rfl) (dz rfl ji) (gi aH 0 da (aaF hints)) PW (λao k os=>fin ao (λb o e=>k b o (N.up b o e)) os);exact run
end
set_option backward.match.sparseCases false in
noncomputable def jd:Nat->bj->List cn
 |0,_=>[]
 |n+1,e=>match e with
  |.Name _ p=>[p]
  |.Constant _ _ p=>[p]
  |.Subscript o i p=>jd n o++(jd n i++ [p])
  |.BinOp a _ b p=>jd n a++(jd n b++ [p])
  |.Call f as _ p=>jd n f++(as.flatMap (jd n)++ [p])
  |.Compare a _ bs p=>jd n a++(bs.flatMap (jd n)++ [p])
  |.BoolOp _ ar p=>ar.flatMap (jd n)++ [p]
  |.List ar p=>ar.flatMap (jd n)++ [p]
  |.Dict ks aK p=>(ks.flatMap λk=>match k with|some k=>jd n k|none=>[])++(aK.flatMap (jd n)++ [p])
  |.Slice _ (some b) _ p=>jd n b++ [p]
  |_=>[]
set_option backward.match.sparseCases false in
noncomputable def zF:Nat->eO->List cn
 |0,_=>[]
 |n+1,s=>match s with
  |.Assign cm v p=>cm.flatMap (jd 20)++(jd 20 v++ [p])
  |.AugAssign t _ v p=>jd 20 t++(jd 20 v++ [p])
  |.If t b o p=>jd 20 t++(b.flatMap (zF n)++(o.flatMap (zF n)++ [p]))
  |.While t b o p=>jd 20 t++(b.flatMap (zF n)++(o.flatMap (zF n)++ [p]))
  |.Return (some e) p=>jd 20 e++ [p]
  |_=>[]
noncomputable def posOf(K:b7)(a:aF)(i:Nat):Pos:=(cG ((ry K a).flatMap (zF 9)) i).getD default
noncomputable def xT(K:b7):cn×cn×cn×cn×Pos:=match(fN K).drop 3 with
 |.Assign [.Name _ hk] (.Call (.Name _ dd) [.Name _ dx] [] fP) iV::_=>(hk,dd,dx,fP,iV)
 |_=>default
set_option backward.match.sparseCases false in
noncomputable def Jy(K:b7):Nat×cn×Pos:=match(fN K).drop 9 with
 |.Return (some (.Constant _ q p)) dI::_=>(q,p,dI)
 |_=>default
theorem BF{a:aF}{an:List (Option bj)}{ds:List bj}
  (h:K.lookup a=C ⟨bE,fZ,.func fd,gb⟩)(b6:fd.params=⟨[],as,none,[],an,none,ds⟩)(aN:as.map (·.arg)=names)(aB:fd.body=.stmts body)(bb:fd.closure=[])(hd:fd.defaults=.none)(gx:fd.globals=ik)(qg:fd.builtins=nI)(bL:qB fd.scope=ae)(rL:codeIn K fd.code fd.qualname=ae)
  (aX:(names.all λx=>fd.scope.names.lookup x==C .local)=ae)(aw:(kinds.all λx=>fd.scope.names.lookup x.1==C x.2)=ae)(lU:(fd.scope.names.all λx=>x.2 !=.cell)=ae):rf K a names body kinds:=
 ⟨bE,fZ,fd,gb,as,an,ds,h,b6,aN,aB,bb,hd,gx,qg,bL,rL,λx ak=>beq_iff_eq.mp (eX.mp aX x ak),λx ak=>beq_iff_eq.mp (eX.mp aw x ak),λx ak=>by simpa using eX.mp lU x ak⟩
noncomputable def cM:gW:=λI I I I=>none
noncomputable def vy:List Nat:=[0,1,2,3,4,5,6,7,8,9,10,11,12,13,14,15,16,17,18,19,20,21,22,23,24,25,26,27,28,29,30,31,32,33,34,35,36,37,38,39,40,41,42]
noncomputable def vx:List bo:=[(.aL 0 ai 0),(.aL 0 ai 1),(.aL 0 ai 2),(.aL 0 ai 3),(.aL 0 ai 4),(.aL 0 ai 5),(.aL 0 ai 6),(.aL 0 ai 7)]
noncomputable def mS:cV:=⟨[0,1,196,175,150,197,198,7,8,9,10,11,12,13,14,15,16,17,18,19,184,199,200,201,202,163,176,177,178,179,180,181,151,152,153,154,156,44,0,174,51,52,53],[(.lit 2),(.aL 1 ai 1),(.aL 1 ai 2),(.aL 5 ai 3),(.aL 5 ai 3),(.aL 3 ai 3),(.aL 1 ai 3),(.aL 1 ai 1)],[[.chr 1]],[]⟩
noncomputable def mW(m D:Nat):nV:=jo m mS D
noncomputable def jH(D:Nat):nV:=uV mS D
noncomputable def TJ:cV:=⟨vy++ [222,154,217,179,210,214,215,216,243,232,193,194,172,181,172,195,196,197,198,199],vx++ [(.aL 6 ai 3),(.aL 5 ai 3)],[[.chr 0]],[[.any 1],[.any 2]]⟩
noncomputable def TK:cV:=⟨vy++ [246,157,241,182,234,238,239,240,267,256,196,197,175,184,175,198,199,200,201,202,205,213,214,215,216,217,218,219,220,221,222,223,224],vx++ [(.aL 12 ai 3),(.aL 5 ai 3),(.aL 2 ai 1),(.aL 0 ai 11),(.aL 0 ai 12)],[[.chr 0]],[[.any 1],[.any 2],[.any 4]]⟩
noncomputable def TL:cV:=⟨vy++ [259,157,254,182,247,251,252,253,280,269,196,197,175,184,175,198,199,200,201,202,205,213,214,215,216,217,218,219,220,221,222,223,224,225,226,227,228,229,230,231,232,233,234,235,236,237],vx++ [(.aL 18 ai 3),(.aL 5 ai 3),(.aL 2 ai 1),(.aL 0 ai 11),(.aL 0 ai 12),(.aL 0 ai 13),(.aL 0 ai 14),(.aL 0 ai 15)],[[.chr 0]],[[.any 1],[.any 2],[.any 4],[.any 5]]⟩
noncomputable def xh:cV:=⟨vy++ [2],vx++ [(.aL 0 ai 0),(.aL 1 ai 1),(.aL 0 ai 3)],[[.chr 0]],[]⟩
noncomputable def q6:cV:=⟨vy++ [205],vx++ [(.aL 0 ai 11),(.aL 0 ai 12),(.aL 0 ai 13)],[[.chr 0]],[]⟩
noncomputable def Lu:cV:=⟨vy++ [196],vx++ [(.lit 2),(.aL 1 ai 1),(.aL 5 ai 3)],[[.chr 0]],[]⟩
noncomputable def gz:b5:=(20,20,none)
noncomputable def eW:b5:=(15,19,none)
noncomputable def fE(m:Nat):b5:=(15,20-(m:Int),none)
noncomputable def h5:List ag:=[[.chr 0]]
noncomputable def js:List ag:=[[.chr 0],[.chr 1]]
noncomputable def hn:b4:=mV 1 [dD,dD]
noncomputable def pR:b4:=mV 0 [dD]
noncomputable def afd(K:b7):List Bool:=[g_ (gp (ep K cM 300) K 80 (.c (.ref 683)) [aI 0,aI 40] (gS ai (cR (fE 1) 0).st 8 h5 GE)) TJ 10 (cR (fE 1) 0) (lO (fE 1) 0 1) (aI 44) ai,
 g_ (gp (ep K (fp (mW 1 80)) 300) K 60 (.c (.ref 683)) [aI 0,aI 40] (gS ae (cR (fE 2) 0).st 8 js hn)) TK 20 (cR (fE 2) 0) (lO (fE 2) 0 2) (aI 44) ai,
 g_ (gp (ep K (fp (mW 2 60)) 300) K 40 (.c (.ref 683)) [aI 0,aI 40] (gS ae (cR (fE 3) 0).st 8 js hn)) TL 30 (cR (fE 3) 0) (lO (fE 3) 0 3) (aI 44) ai,
 g_ (gp (ep K cM 300) K 120 (.c (.ref 683)) [aI 0,aI 40] (gS ai (cR eW 0).st 8 h5 pR)) Lu 0 (cR eW 0) (gX eW 0) dt ae,
 g_ (gp (ep K cM 300) K 120 (.c (.ref 683)) [aI 0,aI 40] (gS ai (cR gz 0).st 8 h5 GE)) xh 0 (cR gz 0) (gX gz 0) dt ae,
 g_ (gp (ep K cM 300) K 120 (.c (.ref 683)) [aI 0,aI 40] (gS ai (cR gz 0).st 8 h5 pR)) xh 0 (cR gz 0) (gX gz 0) dt ae,
 g_ (gp (ep K cM 300) K 120 (.c (.ref 683)) [aI 0,aI 40] (gS ae (cR gz 0).st 8 js hn)) xh 0 (cR gz 0) (gX gz 0) dt ae,
 g_ (gp (ep K (fp (jH 120)) 300) K 100 (.c (.ref 683)) [aI 0,aI 40] (gS ae (cR eW 0).st 8 js hn)) q6 0 (cR eW 0) (gX eW 0) dt ae,
 g_ (gp (ep K (fp (jH 100)) 300) K 80 (.c (.ref 683)) [aI 0,aI 40] (gS ae (cR eW 0).st 8 js hn)) q6 0 (cR eW 0) (gX eW 0) dt ae,
 g_ (gp (ep K (fp (jH 80)) 300) K 60 (.c (.ref 683)) [aI 0,aI 40] (gS ae (cR eW 0).st 8 js hn)) q6 0 (cR eW 0) (gX eW 0) dt ae,
 g_ (gp (ep K (fp (jH 60)) 300) K 40 (.c (.ref 683)) [aI 0,aI 40] (gS ae (cR eW 0).st 8 js hn)) q6 0 (cR eW 0) (gX eW 0) dt ae]
noncomputable def x6:il:=⟨⟨[0,1,2,3,4,5,6,7,8,9,10,11,12,13,14,15,16,17,18,19,20,21,22,23,24,25,26],[(.lit 5),(.aL 1 ai 1),(.aL 0 ai 2),(.aL 6 ai 3),(.aL 1 ai 4),(.aL 0 ai 5)],[],[]⟩,
 ⟨[1,2,32,213,30,202,142,117,163,164],[(.aL 0 ai 6),(.aL 0 ai 7),(.aL 5 ai 3)],[[.chr 1]],[[.any 2]]⟩,
 gO 1,3,4,bu,[jj 1 "_1"],1,[]⟩
noncomputable def Ly:cV:=⟨[0,1,166,145,120,167,168,5,13,12,19,20,21,22,23,24,14,15,25,16,154,169,170,171,172,133,146,147,148,149,150,151,121,122,123,124,126,32,0,144,39,40,41],[(.lit 2),(.aL 1 ai 1),(.aL 21 ae 2),(.aL 5 ai 3),(.aL 5 ai 3),(.aL 3 ai 3),(.aL 1 ai 3),(.aL 1 ai 1)],[[.chr 2]],[]⟩
noncomputable def Nv:il:=⟨⟨[0,1,2,3,4,5,6,7,8,9,10,11,12,13,14,15,16,17,18,19,20,21,22,23,24,25,26],[(.lit 5),(.aL 2 ai 1),(.aL 0 ai 2),(.aL 12 ai 3),(.aL 1 ai 4),(.aL 0 ai 5)],[],[]⟩,
 ⟨[1,2,32,237,30,226,145,120,166,167,183,184,185,186],[(.aL 0 ai 6),(.aL 0 ai 7),(.aL 5 ai 3),(.aL 2 ai 1),(.aL 0 ai 11)],[[.chr 1]],[[.any 2]]⟩,
 gO 2,3,4,bu,[jj 1 "_1"],2,[]⟩
noncomputable def Lz:cV:=⟨[0,1,166,145,120,167,168,5,13,12,19,20,21,22,23,24,14,15,25,16,154,169,170,171,172,133,146,147,148,149,150,151,121,122,123,124,126,32,0,144,39,40,41],[(.lit 2),(.aL 1 ai 1),(.aL 21 ae 2),(.aL 5 ai 3),(.aL 5 ai 3),(.aL 3 ai 3),(.aL 1 ai 3),(.aL 1 ai 1)],[[.chr 2]],[]⟩
noncomputable def Nw:il:=⟨⟨[0,1,2,3,4,5,6,7,8,9,10,11,12,13,14,15,16,17,18,19,20,21,22,23,24,25,26],[(.lit 5),(.aL 3 ai 1),(.aL 0 ai 2),(.aL 18 ai 3),(.aL 1 ai 4),(.aL 0 ai 5)],[],[]⟩,
 ⟨[1,2,32,250,30,239,145,120,166,167,183,184,185,186,196,197,198,199],[(.aL 0 ai 6),(.aL 0 ai 7),(.aL 5 ai 3),(.aL 2 ai 1),(.aL 0 ai 11),(.aL 0 ai 12),(.aL 0 ai 14)],[[.chr 1]],[[.any 2]]⟩,
 gO 3,3,4,bu,[jj 1 "_1"],3,[]⟩
noncomputable def LA:cV:=⟨[0,1,166,145,120,167,168,5,13,12,19,20,21,22,23,24,14,15,25,16,154,169,170,171,172,133,146,147,148,149,150,151,121,122,123,124,126,32,0,144,39,40,41],[(.lit 2),(.aL 1 ai 1),(.aL 21 ae 2),(.aL 5 ai 3),(.aL 5 ai 3),(.aL 3 ai 3),(.aL 1 ai 3),(.aL 1 ai 1)],[[.chr 2]],[]⟩
noncomputable def Nx:il:=⟨⟨[0,1,2,3,4,5,6,7,8,9,10,11,12,13,14,15,16,17,18,19,20,21,22,23,24,25,26],[(.lit 5),(.aL 4 ai 1),(.aL 0 ai 2),(.aL 24 ai 3),(.aL 1 ai 4),(.aL 0 ai 5)],[],[]⟩,
 ⟨[1,2,32,263,30,252,145,120,166,167,183,184,185,186,196,197,198,199,209,210,211,212],[(.aL 0 ai 6),(.aL 0 ai 7),(.aL 5 ai 3),(.aL 2 ai 1),(.aL 0 ai 11),(.aL 0 ai 12),(.aL 0 ai 14),(.aL 0 ai 15),(.aL 0 ai 17)],[[.chr 1]],[[.any 2]]⟩,
 gO 4,3,4,bu,[jj 1 "_1"],4,[]⟩
noncomputable def Gx:il:=⟨⟨[0,1,2,3,4,5,6,7,8,9,10,11,12,13,14,15,16,17,18,19,20,21,22,23,24,25,26],[(.aL 0 ai 0),(.aL 0 ai 1),(.aL 0 ai 2),(.aL 2 ai 3),(.aL 1 ai 4),(.aL 0 ai 5)],[],[]⟩,
 ⟨[1,2,42,30,31,43,44],[(.aL 0 ai 6),(.aL 2 ai 3)],[[.chr 0]],[[.any 0]]⟩,
 sN,2,3,bD,[],0,[]⟩
noncomputable def Gu:il:=⟨⟨[0,1,2,3,4,5,6,7,8,9,10,11,12,13,14,15,16,17,18,19,20,21,22,23,24,25,26],[(.aL 0 ai 0),(.aL 0 ai 1),(.aL 0 ai 2),(.aL 1 ai 3),(.aL 1 ai 4),(.aL 0 ai 5)],[],[]⟩,
 ⟨[1,2,79,29,68,33,34],[(.aL 0 ai 6),(.aL 0 ai 8)],[[.chr 1]],[[.any 0]]⟩,
 sN,2,3,bu,[],0,[(bD,30)]⟩
noncomputable def Nq:il:=⟨⟨[0,1,2,3,4,5,6,7,8,9,10,11,12,13,14,15,16,17,18,19,20,21,22,23,24,25,26],[(.aL 0 ai 0),(.aL 0 ai 1),(.aL 0 ai 2),(.aL 1 ai 3),(.aL 1 ai 4),(.aL 0 ai 5)],[],[]⟩,
 ⟨[1,2,30,82,29,71,34,35,36,37],[(.aL 0 ai 6),(.aL 0 ai 8),(.aL 0 ai 9)],[[.chr 1]],[[.any 0]]⟩,
 gO 1,3,4,bu,[],0,[(bD,31)]⟩
noncomputable def Nr:il:=⟨⟨[0,1,2,3,4,5,6,7,8,9,10,11,12,13,14,15,16,17,18,19,20,21,22,23,24,25,26],[(.aL 0 ai 0),(.aL 0 ai 1),(.aL 0 ai 2),(.aL 1 ai 3),(.aL 1 ai 4),(.aL 0 ai 5)],[],[]⟩,
 ⟨[1,2,30,86,29,75,34,35,36,37,38,39,40,41],[(.aL 0 ai 6),(.aL 0 ai 8),(.aL 0 ai 9),(.aL 0 ai 10),(.aL 0 ai 11)],[[.chr 1]],[[.any 0]]⟩,
 gO 2,3,4,bu,[],0,[(bD,31)]⟩
noncomputable def Nt:il:=⟨⟨[0,1,2,3,4,5,6,7,8,9,10,11,12,13,14,15,16,17,18,19,20,21,22,23,24,25,26],[(.aL 0 ai 0),(.aL 0 ai 1),(.aL 0 ai 2),(.aL 1 ai 3),(.aL 1 ai 4),(.aL 0 ai 5)],[],[]⟩,
 ⟨[1,2,30,90,29,79,34,35,36,37,38,39,40,41,42,43,44,45],[(.aL 0 ai 6),(.aL 0 ai 8),(.aL 0 ai 9),(.aL 0 ai 10),(.aL 0 ai 11),(.aL 0 ai 12),(.aL 0 ai 13)],[[.chr 1]],[[.any 0]]⟩,
 gO 3,3,4,bu,[],0,[(bD,31)]⟩
noncomputable def Nu:il:=⟨⟨[0,1,2,3,4,5,6,7,8,9,10,11,12,13,14,15,16,17,18,19,20,21,22,23,24,25,26],[(.aL 0 ai 0),(.aL 0 ai 1),(.aL 0 ai 2),(.aL 1 ai 3),(.aL 1 ai 4),(.aL 0 ai 5)],[],[]⟩,
 ⟨[1,2,30,94,29,83,34,35,36,37,38,39,40,41,42,43,44,45,46,47,48,49],[(.aL 0 ai 6),(.aL 0 ai 8),(.aL 0 ai 9),(.aL 0 ai 10),(.aL 0 ai 11),(.aL 0 ai 12),(.aL 0 ai 13),(.aL 0 ai 14),(.aL 0 ai 15)],[[.chr 1]],[[.any 0]]⟩,
 gO 4,3,4,bu,[],0,[(bD,31)]⟩
noncomputable def Gv:il:=⟨⟨[0,1,2,3,4,5,6,7,8,9,10,11,12,13,14,15,16,17,18,19,20,21,22,23,24,25,26],[(.aL 0 ai 0),(.aL 0 ai 1),(.aL 0 ai 2),(.aL 1 ai 3),(.aL 1 ai 4),(.aL 0 ai 5)],[],[]⟩,
 ⟨[1,2,30,87,29,76,34,35,36,37,38,39,40,41,42],[(.aL 0 ai 6),(.aL 0 ai 8),(.aL 0 ai 9),(.aL 0 ai 10)],[[.chr 1],[.chr 2]],[[.any 0]]⟩,
 uT,3,4,bu,[],0,[(bD,31),(c3,41)]⟩
noncomputable def Gw:il:=⟨⟨[0,1,2,3,4,5,6,7,8,9,10,11,12,13,14,15,16,17,18,19,20,21,22,23,24,25,26],[(.lit 5),(.aL 1 ai 1),(.aL 0 ai 2),(.aL 9 ai 3),(.aL 2 ai 4),(.aL 0 ai 5)],[],[]⟩,
 ⟨[1,2,36,473,32,462,239,157,315,316,386,375,51,47,48],[(.aL 0 ai 6),(.aL 0 ai 8),(.aL 7 ai 3),(.aL 0 ai 9)],[[.chr 2],[.chr 1]],[[.any 5]]⟩,
 uT,3,4,c3,[tq 1 "_1",jj 1 "_2"],1,[(bu,47)]⟩
noncomputable def afe(K:b7):List Bool:=[gg (cO K cM vp) x6,
 gg (cO K (iv (fp (jo 1 Ly 80))) (ju 2)) Nv,
 gg (cO K (iv (fp (jo 2 Lz 60))) (ju 3)) Nw,
 gg (cO K (iv (fp (jo 3 LA 40))) (ju 4)) Nx,
 gg (cO K cM wm) Gx,
 gg (cO K cM u1) Gu,
 gg (cO K cM (jJ 1)) Nq,
 gg (cO K cM (jJ 2)) Nr,
 gg (cO K cM (jJ 3)) Nt,
 gg (cO K cM (jJ 4)) Nu,
 gg (cO K cM u2) Gv,
 gg (cO K cM j_) Gw]
noncomputable def Az:cV:=⟨[0,1,165,144,119,166,167,5,13,12,19,20,21,22,23,24,14,15,25,16,153,168,169,170,171,132,145,146,147,148,149,150,120,121,122,123,125,31,0,143,38,39,40],[(.lit 2),(.aL 1 ai 1),(.aL 21 ae 2),(.aL 5 ai 3),(.aL 5 ai 3),(.aL 3 ai 3),(.aL 1 ai 3),(.aL 1 ai 1)],[[.chr 1]],[]⟩
noncomputable def Lv:cV:=⟨[0,1,167,146,121,168,169,5,13,12,19,20,21,22,23,24,14,15,25,16,155,170,171,172,173,134,147,148,149,150,151,152,122,123,124,125,127,31,0,145,38,39,40],[(.lit 2),(.aL 1 ai 1),(.aL 21 ae 2),(.aL 5 ai 3),(.aL 5 ai 3),(.aL 3 ai 3),(.aL 1 ai 3),(.aL 1 ai 1)],[[.chr 2]],[]⟩
noncomputable def Lw:cV:=⟨[0,1,167,146,121,168,169,5,13,12,19,20,21,22,23,24,14,15,25,16,155,170,171,172,173,134,147,148,149,150,151,152,122,123,124,125,127,31,0,145,38,39,40],[(.lit 2),(.aL 1 ai 1),(.aL 21 ae 2),(.aL 5 ai 3),(.aL 5 ai 3),(.aL 3 ai 3),(.aL 1 ai 3),(.aL 1 ai 1)],[[.chr 2]],[]⟩
noncomputable def Lx:cV:=⟨[0,1,167,146,121,168,169,5,13,12,19,20,21,22,23,24,14,15,25,16,155,170,171,172,173,134,147,148,149,150,151,152,122,123,124,125,127,31,0,145,38,39,40],[(.lit 2),(.aL 1 ai 1),(.aL 21 ae 2),(.aL 5 ai 3),(.aL 5 ai 3),(.aL 3 ai 3),(.aL 1 ai 3),(.aL 1 ai 1)],[[.chr 2]],[]⟩
noncomputable def aff(K:b7):List Bool:=[d5 (cO K cM vq),
 d5 (cO K (iv (fp (uV Az 40))) tu),
 d5 (cO K cM vo),
 d5 (cO K (iv (fp (jo 1 Lv 80))) (jt 2)),
 d5 (cO K (iv (fp (jo 2 Lw 60))) (jt 3)),
 d5 (cO K (iv (fp (jo 3 Lx 40))) (jt 4)),
 d5 (cO K cM wk),
 d5 (cO K cM uZ),
 d5 (cO K cM u0),
 d5 (cO K cM u3),
 d5 (cO K cM rJ),
 d5 (cO K cM vs),
 d5 (cO K cM h0),
 d5 (cO K cM qf),
 d5 (cO K cM (hX (2,2,none) (3,10,none))),
 d5 (cO K cM (hX (4,4,none) (2,3,none))),
 d5 (cO K cM (hX (4,4,none) (5,10,none))),
 d5 (cO K cM (hX (6,6,none) (2,5,none))),
 d5 (cO K cM (hX (6,6,none) (7,10,none))),
 d5 (cO K cM (hX (8,8,none) (2,7,none))),
 d5 (cO K cM (hX (8,8,none) (9,10,none)))]
noncomputable def afg(K:b7):List Bool:=[FD K,
 FC K,
 FE K,
 FF K,
 FQ K,
 FP K,
 FG K,
 FH K,
 FJ K,
 FO K,
 FK K,
 FI K,
 FL K,
 FN K,
 Fz K,
 FA K,
 Fx K,
 A6 K,
 Fy K,
 Fw K]
noncomputable def afb(K:b7):List Bool:=[yV K,
 BR K,
 Cu K,
 DD K,
 y8 K,
 G5 K]
noncomputable def q_:List Bool->Prop
 |[]=>True
 |b::l=>b=ae/\q_ l
theorem dj:∀{l:List Bool},q_ l->∀(i:Nat){b:Bool},l[i]? =C b->b=true:=by
 intro l;induction l with
 |nil=>exact λI I I h=>nomatch h
 |cons x l bF=>
  intro h i b e;induction i using hD with
  |zero=>(obtain J:=aT e;clear e;subst J);exact h.1
  |succ i=>exact bF h.2 i e
noncomputable def afc(K:b7):List Bool:=[Fv K,Br K,CQ K,G4 K]
structure cg(K:b7):Prop where
 f2:q_ (afd K)
 f4:q_ (afe K)
 hL:q_ (aff K)
 f8:q_ (afg K)
 tk:q_ (afb K)
 ya:q_ (afc K)
 turn:gR "turn" (lax K).scope.names=C .local
section
theorem ae1(P:cg K):g_ (gp (ep K cM 300) K 80 (.c (.ref 683)) [aI 0,aI 40] (gS ai (cR (fE 1) 0).st 8 h5 GE)) TJ 10 (cR (fE 1) 0) (lO (fE 1) 0 1) (aI 44) ai=true:=dj P.f2 0 rfl
theorem ae2(P:cg K):g_ (gp (ep K (fp (mW 1 80)) 300) K 60 (.c (.ref 683)) [aI 0,aI 40] (gS ae (cR (fE 2) 0).st 8 js hn)) TK 20 (cR (fE 2) 0) (lO (fE 2) 0 2) (aI 44) ai=true:=dj P.f2 1 rfl
theorem ae3(P:cg K):g_ (gp (ep K (fp (mW 2 60)) 300) K 40 (.c (.ref 683)) [aI 0,aI 40] (gS ae (cR (fE 3) 0).st 8 js hn)) TL 30 (cR (fE 3) 0) (lO (fE 3) 0 3) (aI 44) ai=true:=dj P.f2 2 rfl
theorem Dr(P:cg K):g_ (gp (ep K cM 300) K 120 (.c (.ref 683)) [aI 0,aI 40] (gS ai (cR eW 0).st 8 h5 pR)) Lu 0 (cR eW 0) (gX eW 0) dt ae=true:=dj P.f2 3 rfl
theorem ae4(P:cg K):g_ (gp (ep K cM 300) K 120 (.c (.ref 683)) [aI 0,aI 40] (gS ai (cR gz 0).st 8 h5 GE)) xh 0 (cR gz 0) (gX gz 0) dt ae=true:=dj P.f2 4 rfl
theorem ae6(P:cg K):g_ (gp (ep K cM 300) K 120 (.c (.ref 683)) [aI 0,aI 40] (gS ai (cR gz 0).st 8 h5 pR)) xh 0 (cR gz 0) (gX gz 0) dt ae=true:=dj P.f2 5 rfl
theorem ae5(P:cg K):g_ (gp (ep K cM 300) K 120 (.c (.ref 683)) [aI 0,aI 40] (gS ae (cR gz 0).st 8 js hn)) xh 0 (cR gz 0) (gX gz 0) dt ae=true:=dj P.f2 6 rfl
theorem ae7(P:cg K):g_ (gp (ep K (fp (jH 120)) 300) K 100 (.c (.ref 683)) [aI 0,aI 40] (gS ae (cR eW 0).st 8 js hn)) q6 0 (cR eW 0) (gX eW 0) dt ae=true:=dj P.f2 7 rfl
theorem ae8(P:cg K):g_ (gp (ep K (fp (jH 100)) 300) K 80 (.c (.ref 683)) [aI 0,aI 40] (gS ae (cR eW 0).st 8 js hn)) q6 0 (cR eW 0) (gX eW 0) dt ae=true:=dj P.f2 8 rfl
theorem ae9(P:cg K):g_ (gp (ep K (fp (jH 80)) 300) K 60 (.c (.ref 683)) [aI 0,aI 40] (gS ae (cR eW 0).st 8 js hn)) q6 0 (cR eW 0) (gX eW 0) dt ae=true:=dj P.f2 9 rfl
theorem afa(P:cg K):g_ (gp (ep K (fp (jH 60)) 300) K 40 (.c (.ref 683)) [aI 0,aI 40] (gS ae (cR eW 0).st 8 js hn)) q6 0 (cR eW 0) (gX eW 0) dt ae=true:=dj P.f2 10 rfl
theorem aeB(P:cg K):gg (cO K cM vp) x6=true:=dj P.f4 0 rfl
theorem aeC(P:cg K):gg (cO K (iv (fp (jo 1 Ly 80))) (ju 2)) Nv=true:=dj P.f4 1 rfl
theorem aeD(P:cg K):gg (cO K (iv (fp (jo 2 Lz 60))) (ju 3)) Nw=true:=dj P.f4 2 rfl
theorem aeE(P:cg K):gg (cO K (iv (fp (jo 3 LA 40))) (ju 4)) Nx=true:=dj P.f4 3 rfl
theorem aeU(P:cg K):gg (cO K cM wm) Gx=true:=dj P.f4 4 rfl
theorem aeq(P:cg K):gg (cO K cM u1) Gu=true:=dj P.f4 5 rfl
theorem aer(P:cg K):gg (cO K cM (jJ 1)) Nq=true:=dj P.f4 6 rfl
theorem aes(P:cg K):gg (cO K cM (jJ 2)) Nr=true:=dj P.f4 7 rfl
theorem aet(P:cg K):gg (cO K cM (jJ 3)) Nt=true:=dj P.f4 8 rfl
theorem aeu(P:cg K):gg (cO K cM (jJ 4)) Nu=true:=dj P.f4 9 rfl
theorem aev(P:cg K):gg (cO K cM u2) Gv=true:=dj P.f4 10 rfl
theorem aeK(P:cg K):gg (cO K cM j_) Gw=true:=dj P.f4 11 rfl
theorem aeF(P:cg K):d5 (cO K cM vq)=true:=dj P.hL 0 rfl
theorem aeG(P:cg K):d5 (cO K (iv (fp (uV Az 40))) tu)=true:=dj P.hL 1 rfl
theorem aex(P:cg K):d5 (cO K cM vo)=true:=dj P.hL 2 rfl
theorem aey(P:cg K):d5 (cO K (iv (fp (jo 1 Lv 80))) (jt 2))=true:=dj P.hL 3 rfl
theorem aez(P:cg K):d5 (cO K (iv (fp (jo 2 Lw 60))) (jt 3))=true:=dj P.hL 4 rfl
theorem aeA(P:cg K):d5 (cO K (iv (fp (jo 3 Lx 40))) (jt 4))=true:=dj P.hL 5 rfl
theorem aeT(P:cg K):d5 (cO K cM wk)=true:=dj P.hL 6 rfl
theorem aeo(P:cg K):d5 (cO K cM uZ)=true:=dj P.hL 7 rfl
theorem aep(P:cg K):d5 (cO K cM u0)=true:=dj P.hL 8 rfl
theorem aew(P:cg K):d5 (cO K cM u3)=true:=dj P.hL 9 rfl
theorem aeI(P:cg K):d5 (cO K cM rJ)=true:=dj P.hL 10 rfl
theorem aeJ(P:cg K):d5 (cO K cM vs)=true:=dj P.hL 11 rfl
theorem aeH(P:cg K):d5 (cO K cM h0)=true:=dj P.hL 12 rfl
theorem aeL(P:cg K):d5 (cO K cM qf)=true:=dj P.hL 13 rfl
theorem aeM(P:cg K):d5 (cO K cM (hX (2,2,none) (3,10,none)))=true:=dj P.hL 14 rfl
theorem aeN(P:cg K):d5 (cO K cM (hX (4,4,none) (2,3,none)))=true:=dj P.hL 15 rfl
theorem aeO(P:cg K):d5 (cO K cM (hX (4,4,none) (5,10,none)))=true:=dj P.hL 16 rfl
theorem aeP(P:cg K):d5 (cO K cM (hX (6,6,none) (2,5,none)))=true:=dj P.hL 17 rfl
theorem aeQ(P:cg K):d5 (cO K cM (hX (6,6,none) (7,10,none)))=true:=dj P.hL 18 rfl
theorem aeR(P:cg K):d5 (cO K cM (hX (8,8,none) (2,7,none)))=true:=dj P.hL 19 rfl
theorem aeS(P:cg K):d5 (cO K cM (hX (8,8,none) (9,10,none)))=true:=dj P.hL 20 rfl
theorem adP(P:cg K):FD K=true:=dj P.f8 0 rfl
theorem adO(P:cg K):FC K=true:=dj P.f8 1 rfl
theorem adQ(P:cg K):FE K=true:=dj P.f8 2 rfl
theorem adR(P:cg K):FF K=true:=dj P.f8 3 rfl
theorem ad1(P:cg K):FQ K=true:=dj P.f8 4 rfl
theorem ad0(P:cg K):FP K=true:=dj P.f8 5 rfl
theorem adS(P:cg K):FG K=true:=dj P.f8 6 rfl
theorem adT(P:cg K):FH K=true:=dj P.f8 7 rfl
theorem adV(P:cg K):FJ K=true:=dj P.f8 8 rfl
theorem adZ(P:cg K):FO K=true:=dj P.f8 9 rfl
theorem adW(P:cg K):FK K=true:=dj P.f8 10 rfl
theorem adU(P:cg K):FI K=true:=dj P.f8 11 rfl
theorem adX(P:cg K):FL K=true:=dj P.f8 12 rfl
theorem adY(P:cg K):FN K=true:=dj P.f8 13 rfl
theorem adM(P:cg K):Fz K=true:=dj P.f8 14 rfl
theorem adN(P:cg K):FA K=true:=dj P.f8 15 rfl
theorem adK(P:cg K):Fx K=true:=dj P.f8 16 rfl
theorem Rv(P:cg K):A6 K=true:=dj P.f8 17 rfl
theorem adL(P:cg K):Fy K=true:=dj P.f8 18 rfl
theorem adJ(P:cg K):Fw K=true:=dj P.f8 19 rfl
theorem ad5(P:cg K):yV K=true:=dj P.tk 0 rfl
theorem ad4(P:cg K):BR K=true:=dj P.tk 1 rfl
theorem ad9(P:cg K):Cu K=true:=dj P.tk 2 rfl
theorem aea(P:cg K):DD K=true:=dj P.tk 3 rfl
theorem ad7(P:cg K):y8 K=true:=dj P.tk 4 rfl
theorem ad3(P:cg K):G5 K=true:=dj P.tk 5 rfl
theorem adI(P:cg K):Fv K=true:=dj P.ya 0 rfl
theorem ad2(P:cg K):Br K=true:=dj P.ya 1 rfl
theorem ad8(P:cg K):CQ K=true:=dj P.ya 2 rfl
theorem ad6(P:cg K):G4 K=true:=dj P.ya 3 rfl
theorem abD(P:cg K):gR "turn" (lax K).scope.names=C .local:=P.turn
end
noncomputable def sU(m:Nat):(Nat->Nat)->Nat->aZ->Prop:=λafter w I=>gm after m w
noncomputable def xB(j:Nat):(Nat->Nat)->Nat->aZ->Prop:=λafter w β=>∃z,β.aC[2]? =C z/\20-(j:Int)<=z/\z<=20/\xk after (20-z).toNat w
theorem Bq{u:b5}(br:S<=10000)(h:bK (hb S) (cR u 1).au zs)(e:lT 10000 (cR u 1).au (cR u 0).au=ae):bK (hb S) (cR u 0).au zs:=Bs br e h
theorem I2(P:cg K):mf K (mW 1 80) (sU 1) 100:=by intro g c β s dep after root cK ay w S U hg g4 e0;refine md.GF (D:=80) (ah:=mS) (p:=cR (fE 1) 0) (q:=lO (fE 1) 0 1) (bX:=8) ?_ rfl (by kernel_rfl) (by show g.S+10<=_;lia);obtain eE:Spot _ g c β s after root cK ay w (cR (fE 1) 0):=S.bounds rfl (Bq (u:=fE 1) (bU (gs _ _) (by assumption)) S.sat.facts.aC (by kernel_rfl));exact t4 (S.gen.all w S.jX) λL ax a1 a2 cj c9 I=>a3 (c9 e0) λE dH=>tX (f3:=0) (h:=⟨683,80,mS,cR (fE 1) 0,[aI 0,aI 40],lO (fE 1) 0 1,aI 44,8,10,ai⟩) (D:=80) (e6:=ai) (e:=GE) (ax:=ax) (H:=cM) eE U hg (aR rfl) rfl rfl (λq=>by exact c7 q) (by kernel_rfl) E a1 a2 cj dH rfl (λI I I=>ic) (by show g.S+10<=_;lia) (ae1 P)
theorem QC{m D mU:Nat}(BJ:D<400)(N:mf K (mW (m+1) mU) (sU (m+1)) B)(bL:qJ ae (cR (fE (m+2)) 0).st 8 js hn=ae)(ey:lT 10000 (cR (fE (m+2)) 1).au (cR (fE (m+2)) 0).au=ae)(a9:lT 200000 (lO (fE (m+2)) 0 (m+2)).au (lO (fE (m+2)) 1 (m+2)).au=ae)
  (ahL:10*(m+2)<=1000)(run:g_ (gp (ep K (fp (mW (m+1) mU)) 300) K D (.c (.ref 683)) [aI 0,aI 40] (gS ae (cR (fE (m+2)) 0).st 8 js hn)) ah (10*(m+2)) (cR (fE (m+2)) 0) (lO (fE (m+2)) 0 (m+2)) (aI 44) ai=ae):mf K (mW (m+2) D) (sU (m+2)) (B+8):=by intro g c β s dep after root cK ay w S U hg g4 e0;refine md.GF (h:=mW (m+2) D) (D:=D) (ah:=mS) (p:=cR (fE (m+2)) 0) (q:=lO (fE (m+2)) 0 (m+2)) (bX:=8) ?_ rfl a9 (by show g.S+10*(m+2)<=_;lia);obtain eE:Spot K g c β s after root cK ay w (cR (fE (m+2)) 0):=S.bounds rfl (Bq (u:=fE (m+2)) (bU (gs _ _) (by assumption)) S.sat.facts.aC ey);refine ih (S.gen.all w S.jX) λL ax a1 a2 cj I I fe=>?_;have hh:=gm.ne e0 S.jX;(refine a3 e0 λbl Zb=>?_;try clear e0);refine a3 (fe bl hh) λE dH=>tX (f3:=after w) (h:=⟨683,D,mS,cR (fE (m+2)) 0,[aI 0,aI 40],lO (fE (m+2)) 0 (m+2),aI 44,8,10*(m+2),ai⟩) (D:=D) (e6:=ae) (e:=hn) (ax:=ax) (H:=fp (mW (m+1) mU)) eE U hg BJ rfl rfl (λI=>⟨hh,bl⟩) bL E a1 a2 cj dH rfl (λaW l cD=>?_) (by show g.S+10*(m+2)<=_;lia) run;exact zi (B:=B) N S.good.pin S.k (yf S.gen aW) (a4 l.ad S.cA) (a4 l.ad S.fX) (cD rfl) rfl rfl rfl (λI I=>Zb) bl S.S (by show g.S+8+B<=_;lia)
theorem I3(P:cg K):mf K (mW 2 60) (sU 2) 108:=QC (m:=0) (aR rfl) (I2 P) (by kernel_rfl) (by kernel_rfl) (by kernel_rfl) (aR rfl) (ae2 P)
theorem QA(P:cg K):mf K (mW 3 40) (sU 3) 116:=QC (m:=1) (aR rfl) (I3 P) (by kernel_rfl) (by kernel_rfl) (by kernel_rfl) (aR rfl) (ae3 P)
theorem afJ:qJ ai (cR gz 0).st 8 h5 GE=true:=by kernel_rfl
theorem afL:qJ ai (cR gz 0).st 8 h5 pR=true:=by kernel_rfl
theorem afK:qJ ae (cR gz 0).st 8 js hn=true:=by kernel_rfl
theorem afI:qJ ai (cR eW 0).st 8 h5 pR=true:=by kernel_rfl
theorem afH:qJ ae (cR eW 0).st 8 js hn=true:=by kernel_rfl
section
variable{c:bc}{s:aM}{D:Nat}{w:Nat}
theorem LU{u:b5}(H:md ⟨683,D,mS,cR u 0,[aI 0,aI 40],gX u 0,dt,8,0,ae⟩ g c β s)(e:lT 200000 (gX u 0).au (gX (15,20,none) 1).au=ae)(br:g.S<=10000):md (jH D) g c β s:=
 md.GF (h:=jH D) (D:=D) (ah:=mS) (p:=cR u 0) (q:=gX u 0) (bX:=8) H rfl e (by show g.S+0<=_;exact bU (by assumption) (bA rfl))
theorem QB(P:cg K)(S:Spot K g c β s after root cK ay w (jH D).p)(U:c.Ok g dep)(hg:dep<=120)(g4:g.S+100<=10000)(a8:β.aC[2]? =C 20):md (jH D) g c β s:=by
 refine eH (LS S.sat.facts.aC) λz fG hA kl=>?_;rw[a8] at fG;(obtain J:=aT fG;clear fG;(clear hA;subst J));obtain F:=Bq (u:=gz) (bU (gs _ _) (by assumption)) (kl gz ⟨by exact aR rfl,by exact aR rfl,λI q=>by exact bM q⟩) (by kernel_rfl);have eE:Spot _ g c β s after root cK ay w (cR gz 0):=S.bounds rfl F;refine LU (u:=gz) ?_ (by kernel_rfl) (bU (gs _ _) (by assumption));refine ih (S.gen.all w S.jX) λL ax a1 a2 cj c9 dQ fe=>?_;by_cases bl:4<=after w
 .exact a3 (c9 bl) λE dH=>tX (f3:=0) (h:=⟨683,D,mS,cR gz 0,[aI 0,aI 40],gX gz 0,dt,8,0,ae⟩) (D:=120) (e6:=ai) (e:=GE) (ax:=ax) (H:=cM) eE U hg (aR rfl) rfl rfl (λq=>by exact c7 q) afJ E a1 a2 cj dH rfl (λI I I=>ic) (by show g.S+0<=_;lia) (ae4 P)
 by_cases hw:after w=w
 .exact a3 (dQ hw) λE dH=>tX (f3:=0) (h:=⟨683,D,mS,cR gz 0,[aI 0,aI 40],gX gz 0,dt,8,0,ae⟩) (D:=120) (e6:=ai) (e:=pR) (ax:=ax) (H:=cM) eE U hg (aR rfl) rfl rfl (λq=>by exact c7 q) afL E a1 a2 cj dH rfl (λI I I=>ic) (by show g.S+0<=_;lia) (ae6 P)
 .exact a3 (fe (K1 (by assumption)) hw) λE dH=>tX (f3:=after w) (h:=⟨683,D,mS,cR gz 0,[aI 0,aI 40],gX gz 0,dt,8,0,ae⟩) (D:=120) (e6:=ae) (e:=hn) (ax:=ax) (H:=cM) eE U hg (aR rfl) rfl rfl (λI=>⟨hw,by exact K1 (by assumption)⟩) afK E a1 a2 cj dH rfl (λI I I=>ic) (by show g.S+0<=_;lia) (ae5 P)
theorem acg(P:cg K):mf K (jH 120) (xB 0) 100:=by
 intro g c β s dep after root cK ay w S U hg g4 ⟨z,fG,hA,kl,_⟩;obtain this:z=20:=by exact Int.le_antisymm kl (gk (aR rfl) hA)
 (clear kl hA;subst this);exact QB P S U hg g4 fG
theorem CR(P:cg K){D mU:Nat}(BJ:D<=120)(N:mf K (jH mU) (xB j) B)(ahM:100<=B)(run:g_ (gp (ep K (fp (jH mU)) 300) K D (.c (.ref 683)) [aI 0,aI 40] (gS ae (cR eW 0).st 8 js hn)) q6 0 (cR eW 0) (gX eW 0) dt ae=ae)
  (cO:g_ (gp (ep K cM 300) K 120 (.c (.ref 683)) [aI 0,aI 40] (gS ai (cR eW 0).st 8 h5 pR)) Lu 0 (cR eW 0) (gX eW 0) dt ae=ae):mf K (jH D) (xB (j+1)) (B+8):=by
 intro g c β s dep after root cK ay w S U hg g4 ⟨z,fG,hA,kl,uo⟩;have hg:dep<=D:=hg;by_cases a8:z=20
 ·(clear uo kl hA;subst a8);exact QB P S U (bU (by assumption) (by assumption)) (by lia) fG
 refine eH (LS S.sat.facts.aC) λgU cH cX fw=>?_;rw[fG] at cH;(obtain J:=aT cH;clear cH;subst J);obtain F:=Bq (u:=eW) (bU (gs _ _) (by assumption)) (fw eW ⟨cX.1,by show z<=19;lia,λI q=>by exact bM q⟩) (by kernel_rfl);have eE:Spot _ g c β s after root cK ay w (cR eW 0):=S.bounds rfl F;refine LU (u:=eW) ?_ (by kernel_rfl) (bU (gs _ _) (by assumption));refine ih (S.gen.all w S.jX) λL ax a1 a2 cj c9 dQ fe=>?_;have aw:(20-z).toNat=(20-(1+z)).toNat+1:=by exact aeV kl a8
 rw[aw] at uo;refine a3 uo λbl uo=>?_;by_cases hw:after w=w
 .exact a3 (dQ hw) λE dH=>tX (f3:=0) (h:=⟨683,D,mS,cR eW 0,[aI 0,aI 40],gX eW 0,dt,8,0,ae⟩) (D:=120) (e6:=ai) (e:=pR) (ax:=ax) (H:=cM) eE U (bU (by assumption) (by assumption)) (aR rfl) rfl rfl (λq=>by exact c7 q) afI E a1 a2 cj dH rfl (λI I I=>ic) (by show g.S+0<=_;lia) cO
 .refine a3 (fe bl hw) λE dH=>tX (f3:=after w) (h:=⟨683,D,mS,cR eW 0,[aI 0,aI 40],gX eW 0,dt,8,0,ae⟩) (D:=D) (e6:=ae) (e:=hn) (ax:=ax) (H:=fp (jH mU)) eE U hg (jk (by assumption) (bA rfl)) rfl rfl (λI=>⟨hw,bl⟩) afH E a1 a2 cj dH rfl (λaW l cD=>?_) (by show g.S+0<=_;lia) run;refine zi (B:=B) N S.good.pin S.k (yf S.gen aW) (a4 l.ad S.cA) (a4 l.ad S.fX) (cD rfl) rfl rfl rfl (λaY eC=>?_) bl S.S (by show g.S+8+B<=_;lia);obtain bJ:aY.aC[2]? =C z:=a4 (l.trans eC).aC fG;refine⟨1+z,?_,by lia,by lia,uo⟩;show C (((bo.aL 1 ai 2).val aY).getD 0)=_;simp only[bo.val,bJ,Option.getD_some]
theorem acf(P:cg K):mf K (jH 40) (xB 4) 132:=
 CR P (j:=3) (aR rfl) (CR P (j:=2) (aR rfl) (CR P (j:=1) (aR rfl) (CR P (j:=0) (aR rfl) (acg P) (aR rfl) (ae7 P) (Dr P)) (aR rfl) (ae8 P) (Dr P)) (aR rfl) (ae9 P) (Dr P)) (aR rfl) (afa P) (Dr P)
end
section
variable{X:gD}{c:bc}{s:aM}{w:Nat}
theorem Gg(h:β.aj[k]? =C ch):(β.app n ax).aj[k]? =C ch:=h
theorem lh{L:aF}{e:b4}(bt:df g e ax)(lb:e.aE.length=1)(dH:ax.aj=[97+w])(Iq:β.aj[0]? =C (97+w))(cA:β.ad[1]? =C root)(ey:ax.ad[0]? =C root):JoinOk g β ([1],[bD],e) ax:=
 ⟨bt,λk ch q=>by
  rw[dH] at q
  match k with
  |0=>(obtain J:=aT q;clear q;subst J);exact(bh _ rfl (b9 Iq))
  |k+1=>simp at q,by refine G lb ?_;rfl,λi n q=>by
  match i with
  |0=>(obtain J:=aT q;clear q;subst J);exact(bh root ey cA)
  |i+1=>simp at q⟩
theorem Im{e:b4}(bt:df g e ax)(lb:e.aE.length=2)(dH:ax.aj=[97+w,97+f3])(Iq:β.aj[0]? =C (97+w))(abg:β.aj[j]? =C (97+f3))(cA:β.ad[1]? =C root)(ey:ax.ad[0]? =C root):JoinOk g β ([1],[bD,[.chr j]],e) ax:=
 ⟨bt,λk ch q=>by
  rw[dH] at q
  match k with
  |0=>(obtain J:=aT q;clear q;subst J);exact(bh _ rfl (b9 Iq))
  |1=>(obtain J:=aT q;clear q;subst J);exact(bh _ rfl (b9 abg))
  |k+2=>simp at q,by refine G lb ?_;rfl,λi n q=>by
  match i with
  |0=>(obtain J:=aT q;clear q;subst J);exact(bh root ey cA)
  |i+1=>simp at q⟩
theorem qt{e:b4}(bt:df g e ax)(lb:e.aE.length=1)(dH:ax.aj=[ch])(dm:β.aj[j]? =C ch):JoinOk g β ([],[[.chr j]],e) ax:=
 ⟨bt,λk mn q=>by
  rw[dH] at q
  match k with
  |0=>(obtain J:=aT q;clear q;subst J);exact(bh _ rfl (b9 dm))
  |k+1=>simp at q,by refine G lb ?_;rfl,λi n q=>by simp at q⟩
theorem W0(P:cg X.K)(T:bP X vp.p g c β s env fn aP at_ N)(b_:β.aj=[97+w,ch])(hw:w<4)(bl:4<=X.after w)(gQ:β.aC[6]? =C (w:Int))(cQ:ch∈bC)(e1:a0 aP (aQ [ch])=none)(br:g.S+dR<=9000)(aq:gn X g c env at_ c6 Q)(et:β.ad[9]? =C c6):
  dW g c (cF ((ea X.K).drop 3) env) Q E s:=by
 refine qA (T.gens.ru w hw) λL ax a1 a2 cj c9 dQ fe I=>a3 (fe bl) λbt dH=>?_;have F:=Fits.of T.sat.toSatO;have len:β.ad.length=31:=F.ad;obtain mz:β.aC.length=7:=F.aC;have v0:β.aj[0]? =C (97+w):=by exact G b_ rfl
 have v1:β.aj[1]? =C ch:=by exact G b_ rfl
 obtain dk:=fq T.cp T.sat (lh (L:=L) bt rfl dH v0 T.cA a2) (by kernel_rfl);obtain qo:(β.app 1 ax).ad[31]? =C (L,L):=by obtain this:=Fn (β:=β) (ax:=ax) (k:=1) (j:=0);rw[len] at this;exact this.trans cj
 obtain mx:(β.app 1 ax).ad[32]? =C (X.ga w):=by obtain this:=Fn (β:=β) (ax:=ax) (k:=1) (j:=1);rw[len] at this;exact this.trans c9
 obtain I1:(β.app 1 ax).aC[7]? =C (2+2*(w:Int)):=by obtain this:=Mj (β:=β) (ax:=ax) (k:=1) (j:=0);rw[mz] at this;exact this.trans dQ
 obtain ee:=a4 (aZ.eb (β:=β) (k:=1) (ax:=ax)).aC T.ee;obtain H:=je (v:=vp.v) T aZ.eb dk (by kernel_rfl) (i0 (mu v0) qo a1 (all_cons (T.ie v1 cQ) all_nil)) (fs (all_cons (T.nr v0) (all_cons (T.tZ v1 e1) (all_cons (T.wa ee) all_nil)))) (fs (all_cons (bP.g8 v1 e1) all_nil));obtain run:gg (cO X.K cM vp) x6=true:=aeB P;exact ub (x:=vp) T aZ.eb ic H run aq et br cQ (b9 v1) e1 (λx ak=>(nomatch ak)) (.inr (.inl ⟨rfl,by exact aR rfl⟩)) λaY bq eL er gP h4 a_ mE pu mK mL d7 c4 same=>.B 1 w ⟨by exact aR rfl,by exact aR rfl⟩ hw _ gP h4 mE (e3 (.cons (b9 (a4 a_.aj v1)) .nil)) (dz (n:=1) rfl (a4 a_.ad (a4 aZ.eb.ad T.cA))) (dz (n:=2) rfl (a4 a_.ad (a4 aZ.eb.ad T.el))) (dz (n:=32) rfl (a4 a_.ad mx)) mK mL
  (by obtain this:=kO (ah:=x6.fI) (i:=0) (e:=.aL 0 ai 6) rfl (lR (c:=0) (a4 a_.aC (a4 aZ.eb.aC gQ)));refine G this ?_;simp)
  (by obtain this:=kO (ah:=x6.fI) (i:=1) (e:=.aL 0 ai 7) rfl (lR (c:=0) (a4 a_.aC I1));refine G this ?_;simp) d7 c4
theorem eY{i:Nat}{x:Option (aF×aF)}(len:β.ad.length=n)(bN:i=n+j)(h:ax.ad[k+j]? =x):(β.app k ax).ad[i]? =x:=by subst bN;(refine G (bV len) (G Fn ?_));exact h
theorem kz{m:Nat}{e:b4}(len:β.ad.length=n)(bt:df g e ax)(hm:m=n+(e.os.length-k)):(β.app k ax).ad.length=m:=by show(β.ad++ax.ad.drop k).length=m;exact G iG (G uw (G len (G bt.len (G hm rfl))))
theorem u7{i:Nat}{x:Option Int}(len:β.aC.length=n)(bN:i=n+j)(h:ax.aC[j]? =x):(β.app k ax).aC[i]? =x:=by subst bN;(refine G (bV len) (G Mj ?_));exact h
theorem VK{m:Nat}{e:b4}(len:β.aC.length=n)(bt:df g e ax)(hm:m=n+e.au.length):(β.app k ax).aC.length=m:=by show(β.aC++ax.aC).length=m;exact G iG (G len (G (bV bt.facts.aC.length) (G hm rfl)))
theorem ir{v:Nat}{i:Nat}(h:cG ah.aC i=C (.aL 0 ai v))(a8:β.aC[v]? =C z):(pull ah β).aC[i]? =C z:=by obtain this:=kO (ah:=ah) h (lR (c:=0) a8);refine G this ?_;simp
theorem RD(T:bP X p g c β s env fn aP at_ N)(h:p.st.au[2]? =C dY):1<=X.room/\X.room<=5:=by refine jQ (T.sat.facts.aC.get h) λz fG hA kl I=>?_;rw[T.room] at fG;(obtain J:=aT fG;clear fG;subst J);exact⟨hA,kl⟩
theorem lZ(T:bP X p g c β s env fn aP at_ N)(h:a0 aP (aQ [ch])≠none):Entry g X.root X.fr X.ga fn aP ch:=by refine eH (T.ents _ h) λbI I e E=>?_;obtain this:=oh e;simp at this;(clear e;subst this);exact E
theorem Gk{m D more:Nat}{AB fI:cV}(hm:2<=m/\m<=4)(T:bP X (ju m).p g c β s env fn aP at_ N)(b_:β.aj=[97+w,ch,97+X.after w])(hw:w<4)(bl:X.after w<4)(hh:X.after w≠w)(bb:gm X.after (m-1) (X.after w))(gQ:β.aC[6]? =C (w:Int))(cQ:ch∈bC)(e1:a0 aP (aQ [ch])=none)
  (br:g.S+dR<=9000)(aq:gn X g c env at_ c6 Q)(et:β.ad[9]? =C c6)(xv:mf X.K (jo (m-1) ah D) (sU (m-1)) B)(g4:B<=900)(t1:cG ah.ad 1=C 1)(zW:cG ah.ad 8=C 13)(zY:ah.aj=[[.chr 2]])
  (run:gg (cO X.K (iv (fp (jo (m-1) ah D))) (ju m)) ⟨AB,fI,gO m,3,4,bu,[jj 1 "_1"],more,[]⟩=ae)(Z3:1<=more)(ey:cG fI.ad 0=C 1)(a9:cG fI.ad 1=C 2)(bf:cG fI.ad 2=C 32)(GI:cG fI.aC 0=C (.aL 0 ai 6))(GJ:cG fI.aC 1=C (.aL 0 ai 7))(GG:fI.aj=[[.chr 1]])
  (aX:(ju m).p.os.length=31/\(ju m).p.au.length=7)(cD:(hu (ju m).p.st [1] [bD,c3] rg).isSome=ae)(hf:freshD ((ju m).jy.foldl hO (ju m).p.st)=ae):dW g c (cF ((ea X.K).drop 3) env) Q E s:=by
 refine t5 (T.gens.ru w hw) λL ax a1 a2 cj c9 dQ I I ky=>a3 (ky bl hh) λbt dH=>?_;have F:=Fits.of T.sat.toSatO;have len:β.ad.length=31:=F.ad.trans aX.1;obtain mz:β.aC.length=7:=F.aC.trans aX.2;have v0:β.aj[0]? =C (97+w):=by exact G b_ rfl
 have v1:β.aj[1]? =C ch:=by exact G b_ rfl
 have v2:β.aj[2]? =C (97+X.after w):=by exact G b_ rfl
 obtain dk:=fq T.cp T.sat (Im bt rfl dH v0 v2 T.cA a2) cD;obtain qo:(β.app 1 ax).ad[31]? =C (L,L):=eY (j:=0) len rfl cj;obtain mx:(β.app 1 ax).ad[32]? =C (X.ga w):=eY (j:=1) len rfl c9;obtain I1:(β.app 1 ax).aC[7]? =C (2+2*(w:Int)):=u7 (j:=0) mz rfl dQ;have le:β.le (β.app 1 ax):=aZ.eb;obtain ee:=a4 le.aC T.ee;obtain H:=je (v:=(ju m).v) T le dk hf (i0 (mu v0) qo a1 (all_cons (T.ie v1 cQ) all_nil)) (fs (all_cons (T.nr v0) (all_cons (T.tZ v1 e1) (all_cons (T.wa ee) all_nil)))) (fs (all_cons (bP.g8 v1 e1) all_nil));obtain f9:fu (g.pin (β.app 1 ax)) (iv (fp (jo (m-1) ah D))):=Gq (zi (f3:=X.after w) xv T.good.pin T.k (yf T.gens.gen _) (a4 le.ad T.cA) (a4 le.ad T.k1) v2 t1 zW zY (λI I=>bb) bl T.S (by show g.S+8+B<=_;unfold dR at br;lia));exact ub (x:=ju m) T le f9 H run aq et br cQ (b9 v1) e1 (λx ak=>(nomatch ak)) (.inr (.inl ⟨rfl,Z3⟩)) λaY bq eL er gP h4 a_ mE pu mK mL d7 c4 same=>.B m w ⟨by lia,hm.2⟩ hw _ gP h4 mE (e3 (by(refine G (show(il.fI ⟨AB,fI,gO m,3,4,bu,[jj 1 "_1"],more,[]⟩)=fI from rfl) (G GG ?_));exact .cons (b9 (a4 a_.aj v1)) .nil)) (dz ey (a4 a_.ad (a4 le.ad T.cA))) (dz a9 (a4 a_.ad (a4 le.ad T.el))) (dz bf (a4 a_.ad mx)) mK mL
  (ir GI (a4 a_.aC (a4 le.aC gQ))) (ir GJ (a4 a_.aC I1)) d7 c4
theorem W2(P:cg X.K)(T:bP X (ju 2).p g c β s env fn aP at_ N)(b_:β.aj=[97+w,ch,97+X.after w])(hw:w<4)(bb:gm X.after 2 w)(gQ:β.aC[6]? =C (w:Int))(cQ:ch∈bC)(e1:a0 aP (aQ [ch])=none)(br:g.S+dR<=9000)(aq:gn X g c env at_ c6 Q)(et:β.ad[9]? =C c6):
  dW g c (cF ((ea X.K).drop 3) env) Q E s:=
 Gk (m:=2) (D:=80) (B:=100) (ah:=Ly) (aR rfl) T b_ hw bb.1 (gm.ne bb hw) bb.2 gQ cQ e1 br aq et (I2 P) (aR rfl) rfl rfl rfl (aeC P) (aR rfl) rfl rfl rfl rfl rfl rfl ⟨rfl,rfl⟩ (by kernel_rfl) (by kernel_rfl)
theorem W3(P:cg X.K)(T:bP X (ju 3).p g c β s env fn aP at_ N)(b_:β.aj=[97+w,ch,97+X.after w])(hw:w<4)(bb:gm X.after 3 w)(gQ:β.aC[6]? =C (w:Int))(cQ:ch∈bC)(e1:a0 aP (aQ [ch])=none)(br:g.S+dR<=9000)(aq:gn X g c env at_ c6 Q)(et:β.ad[9]? =C c6):
  dW g c (cF ((ea X.K).drop 3) env) Q E s:=
 Gk (m:=3) (D:=60) (B:=108) (ah:=Lz) (aR rfl) T b_ hw bb.1 (gm.ne bb hw) bb.2 gQ cQ e1 br aq et (I3 P) (aR rfl) rfl rfl rfl (aeD P) (aR rfl) rfl rfl rfl rfl rfl rfl ⟨rfl,rfl⟩ (by kernel_rfl) (by kernel_rfl)
theorem W4(P:cg X.K)(T:bP X (ju 4).p g c β s env fn aP at_ N)(b_:β.aj=[97+w,ch,97+X.after w])(hw:w<4)(bb:gm X.after 4 w)(gQ:β.aC[6]? =C (w:Int))(cQ:ch∈bC)(e1:a0 aP (aQ [ch])=none)(br:g.S+dR<=9000)(aq:gn X g c env at_ c6 Q)(et:β.ad[9]? =C c6):
  dW g c (cF ((ea X.K).drop 3) env) Q E s:=
 Gk (m:=4) (D:=40) (B:=116) (ah:=LA) (aR rfl) T b_ hw bb.1 (gm.ne bb hw) bb.2 gQ cQ e1 br aq et (QA P) (aR rfl) rfl rfl rfl (aeE P) (aR rfl) rfl rfl rfl rfl rfl rfl ⟨rfl,rfl⟩ (by kernel_rfl) (by kernel_rfl)
theorem W5(P:cg X.K)(T:bP X vq.p g c β s env fn aP at_ N)(b_:β.aj=[97+w])(hw:w<4)(bl:X.after w=w)(aq:gn X g c env at_ c6 Q):dW g c (cF ((ea X.K).drop 3) env) Q E s:=by
 refine t5 (T.gens.ru w hw) λL ax a1 a2 cj c9 dQ I iq I=>a3 (iq bl) λbt dH=>?_;obtain F:=Fits.of T.sat.toSatO;obtain len:β.ad.length=30:=F.ad;have v0:β.aj[0]? =C (97+w):=by exact G b_ rfl
 obtain dk:=fq T.cp T.sat (j:=([1],[bD],LK)) (lh (L:=L) bt rfl dH v0 T.cA a2) (by kernel_rfl);obtain lX:(β.app 1 ax).ad[30]? =C (L,L):=eY (j:=0) len rfl cj;have le:β.le (β.app 1 ax):=aZ.eb;obtain ee:=a4 le.aC T.ee;obtain H:=je (v:=vq.v) T le dk (by kernel_rfl) (i0 (mu v0) lX a1 all_nil) (fs (all_cons (T.nr v0) (all_cons (T.wa ee) all_nil))) (fs all_nil);obtain run:d5 (cO X.K cM vq)=true:=aeF P;exact mG (x:=vq) T.good T.k T.cp (T.env.le le) ic H run aq
theorem W6(P:cg X.K)(T:bP X tu.p g c β s env fn aP at_ N)(b_:β.aj=[97+w,97+X.after w])(hw:w<4)(bl:X.after w<4)(hh:X.after w≠w)(B6:xk X.after X.room.toNat w)(br:g.S+dR<=9000)(aq:gn X g c env at_ c6 Q):dW g c (cF ((ea X.K).drop 3) env) Q E s:=by
 refine t5 (T.gens.ru w hw) λL ax a1 a2 cj c9 dQ I I ky=>a3 (ky bl hh) λbt dH=>?_;obtain F:=Fits.of T.sat.toSatO;obtain len:β.ad.length=30:=F.ad;have v0:β.aj[0]? =C (97+w):=by exact G b_ rfl
 have v1:β.aj[1]? =C (97+X.after w):=by exact G b_ rfl
 obtain dk:=fq T.cp T.sat (j:=([1],[bD,bu],rg)) (Im bt rfl dH v0 v1 T.cA a2) (by kernel_rfl);obtain lX:(β.app 1 ax).ad[30]? =C (L,L):=eY (j:=0) len rfl cj;have le:β.le (β.app 1 ax):=aZ.eb;obtain ee:=a4 le.aC T.ee;obtain H:=je (v:=tu.v) T le dk (by kernel_rfl) (i0 (mu v0) lX a1 all_nil) (fs (all_cons (T.nr v0) (all_cons (T.wa ee) all_nil))) (fs all_nil);obtain run:d5 (cO X.K (iv (fp (uV Az 40))) tu)=true:=aeG P;refine a3 (RD T rfl) λda dA=>?_;obtain xv:mf X.K (uV Az 40) (xB 4) 132:=acf P;obtain f9:fu (g.pin (β.app 1 ax)) (iv (fp (uV Az 40))):=Gq (zi (f3:=X.after w) xv T.good.pin T.k (yf T.gens.gen _) (lW:=1) (HZ:=13) (j:=1) (a4 le.ad T.cA) (a4 le.ad T.k1) v1 rfl rfl rfl (λaY eC=>by
  obtain cb:aY.aC[2]? =C X.room:=a4 (le.trans eC).aC T.room;refine⟨21-X.room,?_,by lia,by lia,?_⟩
  .show C (((bo.aL 21 ae 2).val aY).getD 0)=_;simp only[bo.val,cb,Option.getD_some]
  .obtain e:X.room.toNat=(20-(21-X.room)).toNat+1:=by exact RC da
   rw[e] at B6;exact B6.2) bl T.S (by show g.S+8+132<=_;unfold dR at br;lia))
 exact mG (x:=tu) T.good T.k T.cp (T.env.le le) f9 H run aq
theorem WW(P:cg X.K)(T:bP X vo.p g c β s env fn aP at_ N)(b_:β.aj=[97+w,ch])(hw:w<4)(bl:4<=X.after w)(cQ:ch∈bC)(hold:a0 aP (aQ [ch])≠none)(aq:gn X g c env at_ c6 Q):dW g c (cF ((ea X.K).drop 3) env) Q E s:=by
 refine qA (T.gens.ru w hw) λL ax a1 a2 cj c9 dQ fe I=>a3 (fe bl) λbt dH=>ig ((lZ T hold).ey T.aB) λjE mZ ot gH jz dm=>?_;obtain F:=Fits.of T.sat.toSatO;have len:β.ad.length=30:=F.ad;have v0:β.aj[0]? =C (97+w):=by exact G b_ rfl
 have v1:β.aj[1]? =C ch:=by exact G b_ rfl
 obtain dk:=fq T.cp T.sat (j:=([1],[bD],GE)) (lh (L:=L) bt rfl dH v0 T.cA a2) (by kernel_rfl);obtain ho:=fq T.cp dk (j:=([],[bu],kv)) (qt ot rfl gH (Gg v1)) (by kernel_rfl);obtain hv:β.le (β.app 1 ax):=aZ.eb;have fC:(β.app 1 ax).le ((β.app 1 ax).app 0 jE):=aZ.eb;obtain lX:(β.app 1 ax).ad[30]? =C (L,L):=eY (j:=0) len rfl cj;obtain aar:((β.app 1 ax).app 0 jE).ad[38]? =C mZ:=eY (j:=0) (kz (m:=38) len bt rfl) rfl jz;have le:=hv.trans fC;obtain ee:=a4 le.aC T.ee;obtain H:=je (v:=vo.v) T le ho (by kernel_rfl) (i0 (mu v0) (a4 fC.ad lX) a1 (all_cons (T.ie v1 cQ) all_nil)) (i0 (b9 v1) aar dm (all_cons (T.nr v0) (all_cons (T.wa ee) all_nil))) (fs all_nil);obtain run:d5 (cO X.K cM vo)=true:=aex P;exact mG (x:=vo) T.good T.k T.cp (T.env.le le) ic H run aq
theorem Gj{m D:Nat}(T:bP X (jt m).p g c β s env fn aP at_ N)(b_:β.aj=[97+w,ch,97+X.after w])(hw:w<4)(bl:X.after w<4)(hh:X.after w≠w)(bb:gm X.after (m-1) (X.after w))(cQ:ch∈bC)(hold:a0 aP (aQ [ch])≠none)
  (br:g.S+dR<=9000)(aq:gn X g c env at_ c6 Q)(xv:mf X.K (jo (m-1) ah D) (sU (m-1)) B)(g4:B<=900)(t1:cG ah.ad 1=C 1)(zW:cG ah.ad 8=C 13)(zY:ah.aj=[[.chr 2]])
  (run:d5 (cO X.K (iv (fp (jo (m-1) ah D))) (jt m))=ae)(aX:(jt m).p.os.length=30)(cD:(hu (jt m).p.st [1] [bD,c3] rg).isSome=ae)(ZO:(hu (hO (jt m).p.st ([1],[bD,c3],rg)) [] [bu] kv).isSome=ae)(hf:freshD ((jt m).jy.foldl hO (jt m).p.st)=ae):dW g c (cF ((ea X.K).drop 3) env) Q E s:=by
 refine t5 (T.gens.ru w hw) λL ax a1 a2 cj c9 dQ I I ky=>a3 (ky bl hh) λbt dH=>ig ((lZ T hold).ey T.aB) λjE mZ ot gH jz dm=>?_;obtain F:=Fits.of T.sat.toSatO;have len:β.ad.length=30:=F.ad.trans aX;have v0:β.aj[0]? =C (97+w):=by exact G b_ rfl
 have v1:β.aj[1]? =C ch:=by exact G b_ rfl
 have v2:β.aj[2]? =C (97+X.after w):=by exact G b_ rfl
 obtain dk:=fq T.cp T.sat (j:=([1],[bD,c3],rg)) (Im bt rfl dH v0 v2 T.cA a2) cD;obtain ho:=fq T.cp dk (j:=([],[bu],kv)) (qt ot rfl gH (Gg v1)) ZO;obtain hv:β.le (β.app 1 ax):=aZ.eb;have fC:(β.app 1 ax).le ((β.app 1 ax).app 0 jE):=aZ.eb;obtain lX:(β.app 1 ax).ad[30]? =C (L,L):=eY (j:=0) len rfl cj;obtain yL:((β.app 1 ax).app 0 jE).ad[41]? =C mZ:=eY (j:=0) (kz (m:=41) len bt rfl) rfl jz;have le:=hv.trans fC;obtain ee:=a4 le.aC T.ee;obtain H:=je (v:=(jt m).v) T le ho hf (i0 (mu v0) (a4 fC.ad lX) a1 (all_cons (T.ie v1 cQ) all_nil)) (i0 (b9 v1) yL dm (all_cons (T.nr v0) (all_cons (T.wa ee) all_nil))) (fs all_nil);obtain f9:fu (g.pin ((β.app 1 ax).app 0 jE)) (iv (fp (jo (m-1) ah D))):=Gq (zi (f3:=X.after w) xv T.good.pin T.k (yf T.gens.gen _) (a4 le.ad T.cA) (a4 le.ad T.k1) (a4 le.aj v2) t1 zW zY (λI I=>bb) bl T.S (by show g.S+8+B<=_;unfold dR at br;lia));exact mG (x:=jt m) T.good T.k T.cp (T.env.le le) f9 H run aq
theorem WX(P:cg X.K)(T:bP X (jt 2).p g c β s env fn aP at_ N)(b_:β.aj=[97+w,ch,97+X.after w])(hw:w<4)(bb:gm X.after 2 w)(cQ:ch∈bC)(hold:a0 aP (aQ [ch])≠none)(br:g.S+dR<=9000)(aq:gn X g c env at_ c6 Q):dW g c (cF ((ea X.K).drop 3) env) Q E s:=
 Gj (m:=2) (D:=80) (B:=100) (ah:=Lv) T b_ hw bb.1 (gm.ne bb hw) bb.2 cQ hold br aq (I2 P) (aR rfl) rfl rfl rfl (aey P) rfl (by kernel_rfl) (by kernel_rfl) (by kernel_rfl)
theorem WY(P:cg X.K)(T:bP X (jt 3).p g c β s env fn aP at_ N)(b_:β.aj=[97+w,ch,97+X.after w])(hw:w<4)(bb:gm X.after 3 w)(cQ:ch∈bC)(hold:a0 aP (aQ [ch])≠none)(br:g.S+dR<=9000)(aq:gn X g c env at_ c6 Q):dW g c (cF ((ea X.K).drop 3) env) Q E s:=
 Gj (m:=3) (D:=60) (B:=108) (ah:=Lw) T b_ hw bb.1 (gm.ne bb hw) bb.2 cQ hold br aq (I3 P) (aR rfl) rfl rfl rfl (aez P) rfl (by kernel_rfl) (by kernel_rfl) (by kernel_rfl)
theorem WZ(P:cg X.K)(T:bP X (jt 4).p g c β s env fn aP at_ N)(b_:β.aj=[97+w,ch,97+X.after w])(hw:w<4)(bb:gm X.after 4 w)(cQ:ch∈bC)(hold:a0 aP (aQ [ch])≠none)(br:g.S+dR<=9000)(aq:gn X g c env at_ c6 Q):dW g c (cF ((ea X.K).drop 3) env) Q E s:=
 Gj (m:=4) (D:=40) (B:=116) (ah:=Lx) T b_ hw bb.1 (gm.ne bb hw) bb.2 cQ hold br aq (QA P) (aR rfl) rfl rfl rfl (aeA P) rfl (by kernel_rfl) (by kernel_rfl) (by kernel_rfl)
end
variable{i8:aF×aF}
section
variable{X:gD}{c:bc}{s:aM}{w bE:Nat}
theorem Xb(P:cg X.K)(T:bP X wm.p g c β s env fn aP at_ N)(b_:β.aj=[ch])(gQ:β.aC[6]? =C (-1))(cQ:ch∈bC)(e1:a0 aP (aQ [ch])=none)(br:g.S+dR<=9000)(aq:gn X g c env at_ c6 Q)(et:β.ad[9]? =C c6):
  dW g c (cF ((ea X.K).drop 3) env) Q E s:=by
 have v0:β.aj[0]? =C ch:=by exact G b_ rfl
 obtain H:=je (v:=wm.v) T (.refl _) T.sat (by kernel_rfl) (fs (all_cons (T.ie v0 cQ) all_nil)) (fs (all_cons (T.tZ v0 e1) all_nil)) (fs (all_cons (bP.g8 v0 e1) all_nil));obtain run:gg (cO X.K cM wm) Gx=true:=aeU P;exact ub (x:=wm) T (.refl _) ic H run aq et br cQ (b9 v0) e1 (λx ak=>(nomatch ak)) (.inl rfl) λaY bq eL er gP h4 a_ mE pu mK mL d7 c4 same=>.A _ gP h4 mE (e3 (.cons (b9 (a4 a_.aj v0)) .nil)) (dz (n:=1) rfl (a4 a_.ad T.cA)) (dz (n:=2) rfl (a4 a_.ad T.el)) mK mL (ir (v:=6) rfl (a4 a_.aC gQ)) d7 c4
theorem Xa(P:cg X.K)(T:bP X wk.p g c β s env fn aP at_ N)(b_:β.aj=[ch])(cQ:ch∈bC)(hold:a0 aP (aQ [ch])≠none)(aq:gn X g c env at_ c6 Q):dW g c (cF ((ea X.K).drop 3) env) Q E s:=by
 refine ig ((lZ T hold).ey T.aB) λjE mZ ot gH jz dm=>?_;obtain F:=Fits.of T.sat.toSatO;obtain len:β.ad.length=30:=F.ad;have v0:β.aj[0]? =C ch:=by exact G b_ rfl
 obtain dk:=fq T.cp T.sat (j:=([],[bD],kv)) (qt ot rfl gH v0) (by kernel_rfl);have le:β.le (β.app 0 jE):=aZ.eb;obtain lX:(β.app 0 jE).ad[30]? =C mZ:=eY (j:=0) len rfl jz;obtain H:=je (v:=wk.v) T le dk (by kernel_rfl) (fs (all_cons (T.ie v0 cQ) all_nil)) (i0 (b9 v0) lX dm all_nil) (fs all_nil);obtain run:d5 (cO X.K cM wk)=true:=aeT P;exact mG (x:=wk) T.good T.k T.cp (T.env.le le) ic H run aq
theorem Io{e:b4}{fr:aF×aF}{aj:List ag}(bt:df g e ax)(b_:bK (λe c=>ag.val β e=C [c]) aj ax.aj)(cA:β.ad[1]? =C root)(el:β.ad[2]? =C fr)(ey:ax.ad[0]? =C root)(a9:ax.ad[1]? =C fr):JoinOk g β ([1,2],aj,e) ax:=
 ⟨bt,λk ch q=>by
  exact aS (b_.get' q) λx dv dU=>(bh x (G (fY _ _) dv) dU),by exact G (show(([1,2],aj,e):List Nat×List ag×b4).2.2=e from rfl) (b_.length.trans bt.facts.aj.length.symm),λi n q=>by
  match i with
  |0=>(obtain J:=aT q;clear q;subst J);exact(bh root ey cA)
  |1=>(obtain J:=aT q;clear q;subst J);exact(bh fr a9 el)
  |i+2=>simp at q⟩
theorem WT(P:cg X.K)(T:bP X u1.p g c β s env fn aP at_ N)(b_:β.aj=[bE,ch])(bt:df g sN ax)(aj:ax.aj=[bE])(r:ax.ad[0]? =C X.root)(f:ax.ad[1]? =C X.fr)(l:ax.ad[2]? =C L)(gh:a0 fn (aQ [bE])=C (.ref L.1))(mJ:a0 aP (aQ [bE])=C (.ref i8.1))
  (gQ:β.aC[6]? =C (-1))(d_:bE∈bC)(cQ:ch∈bC)(e1:a0 aP (aQ [ch])=none)(br:g.S+dR<=9000)(aq:gn X g c env at_ c6 Q)(et:β.ad[9]? =C c6):dW g c (cF ((ea X.K).drop 3) env) Q E s:=by
 obtain F:=Fits.of T.sat.toSatO;obtain len:β.ad.length=30:=F.ad;have v0:β.aj[0]? =C bE:=by exact G b_ rfl
 have v1:β.aj[1]? =C ch:=by exact G b_ rfl
 obtain dk:=fq T.cp T.sat (j:=([1,2],[bD],sN)) (Io bt (G aj (.cons (b9 v0) .nil)) T.cA T.el r f) (by kernel_rfl);have le:β.le (β.app 2 ax):=aZ.eb;have lX:(β.app 2 ax).ad[30]? =C L:=eY (j:=0) len rfl l;obtain H:=je (v:=u1.v) T le dk (by kernel_rfl) (fs (all_cons (T.ie v0 d_) (all_cons (T.ie v1 cQ) all_nil))) (i0 (b9 v0) lX gh (all_cons (T.tZ v1 e1) all_nil)) (fs (all_cons (bP.g8 v1 e1) all_nil));obtain run:gg (cO X.K cM u1) Gu=true:=aeq P;refine ub (x:=u1) T le ic H run aq et br cQ (b9 v1) e1 (λx ak=>?_) (.inl rfl) λaY bq eL er gP h4 a_ mE pu mK mL d7 c4 same=>?_
 .have ak:x∈ [(bD,30)]:=ak;obtain rfl:=eu.mp ak;exact(i3 bE L (b9 v0) lX gh (by refine G mJ ?_;simp))
 .exact .A _ gP h4 mE (e3 (.cons (b9 (a4 a_.aj v1)) .nil)) (dz (n:=1) rfl (a4 a_.ad (a4 le.ad T.cA))) (dz (n:=2) rfl (a4 a_.ad (a4 le.ad T.el))) mK mL (ir (v:=6) rfl (a4 a_.aC (a4 le.aC gQ))) d7 c4
theorem Bo{m:Nat}{AB fI:cV}(hm:1<=m/\m<=4)(hw:w<4)(T:bP X (jJ m).p g c β s env fn aP at_ N)(b_:β.aj=[bE,ch])(bt:df g (gO m) ax)(aj:ax.aj=[bE])(r:ax.ad[0]? =C X.root)(f:ax.ad[1]? =C X.fr)(ge:ax.ad[2]? =C (X.ga w))(l:ax.ad[3]? =C L)(e_:ax.aC[1]? =C (2+2*(w:Int)))(gh:a0 fn (aQ [bE])=C (.ref L.1))(mJ:a0 aP (aQ [bE])=C (.ref i8.1))
  (gQ:β.aC[6]? =C (w:Int))(d_:bE∈bC)(cQ:ch∈bC)(e1:a0 aP (aQ [ch])=none)(br:g.S+dR<=9000)(aq:gn X g c env at_ c6 Q)(et:β.ad[9]? =C c6)
  (run:gg (cO X.K cM (jJ m)) ⟨AB,fI,gO m,3,4,bu,[],0,[(bD,31)]⟩=ae)(ey:cG fI.ad 0=C 1)(a9:cG fI.ad 1=C 2)(bf:cG fI.ad 2=C 30)(GI:cG fI.aC 0=C (.aL 0 ai 6))(GJ:cG fI.aC 1=C (.aL 0 ai 8))(GG:fI.aj=[[.chr 1]])
  (aX:(jJ m).p.os.length=30/\(jJ m).p.au.length=7)(cD:(hu (jJ m).p.st [1,2] [bD] (gO m)).isSome=ae)(hf:freshD ((jJ m).jy.foldl hO (jJ m).p.st)=ae):dW g c (cF ((ea X.K).drop 3) env) Q E s:=by
 have F:=Fits.of T.sat.toSatO;have len:β.ad.length=30:=F.ad.trans aX.1;obtain mz:β.aC.length=7:=F.aC.trans aX.2;have v0:β.aj[0]? =C bE:=by exact G b_ rfl
 have v1:β.aj[1]? =C ch:=by exact G b_ rfl
 obtain dk:=fq T.cp T.sat (j:=([1,2],[bD],gO m)) (Io bt (G aj (.cons (b9 v0) .nil)) T.cA T.el r f) cD;have le:β.le (β.app 2 ax):=aZ.eb;obtain lX:(β.app 2 ax).ad[30]? =C (X.ga w):=eY (j:=0) len rfl ge;have qo:(β.app 2 ax).ad[31]? =C L:=eY (j:=1) len rfl l;obtain zh:(β.app 2 ax).aC[8]? =C (2+2*(w:Int)):=u7 (j:=1) mz rfl e_;obtain H:=je (v:=(jJ m).v) T le dk hf (fs (all_cons (T.ie v0 d_) (all_cons (T.ie v1 cQ) all_nil))) (i0 (b9 v0) qo gh (all_cons (T.tZ v1 e1) all_nil)) (fs (all_cons (bP.g8 v1 e1) all_nil));refine ub (x:=jJ m) T le ic H run aq et br cQ (b9 v1) e1 (λx ak=>?_) (.inl rfl) λaY bq eL er gP h4 a_ mE pu mK mL d7 c4 same=>?_
 .have ak:x∈ [(bD,31)]:=ak;obtain rfl:=eu.mp ak;exact(i3 bE L (b9 v0) qo gh (by refine G mJ ?_;simp))
 .exact .B m w hm hw _ gP h4 mE (e3 (by(refine G (show(il.fI ⟨AB,fI,gO m,3,4,bu,[],0,[(bD,31)]⟩)=fI from rfl) (G GG ?_));exact .cons (b9 (a4 a_.aj v1)) .nil)) (dz ey (a4 a_.ad (a4 le.ad T.cA))) (dz a9 (a4 a_.ad (a4 le.ad T.el))) (dz bf (a4 a_.ad lX)) mK mL
   (ir GI (a4 a_.aC (a4 le.aC gQ))) (ir GJ (a4 a_.aC zh)) d7 c4
theorem WU{m:Nat}(P:cg X.K)(hm:1<=m/\m<=4)(hw:w<4)(T:bP X (jJ m).p g c β s env fn aP at_ N)(b_:β.aj=[bE,ch])(bt:df g (gO m) ax)(aj:ax.aj=[bE])(r:ax.ad[0]? =C X.root)(f:ax.ad[1]? =C X.fr)(ge:ax.ad[2]? =C (X.ga w))(l:ax.ad[3]? =C L)(e_:ax.aC[1]? =C (2+2*(w:Int)))(gh:a0 fn (aQ [bE])=C (.ref L.1))(mJ:a0 aP (aQ [bE])=C (.ref i8.1))
  (gQ:β.aC[6]? =C (w:Int))(d_:bE∈bC)(cQ:ch∈bC)(e1:a0 aP (aQ [ch])=none)(br:g.S+dR<=9000)(aq:gn X g c env at_ c6 Q)(et:β.ad[9]? =C c6):dW g c (cF ((ea X.K).drop 3) env) Q E s:=by
 (refine a3 hm λaa af=>?_;try clear hm);rcases m with _|_|_|_|_|m
 .exact absurd (by assumption) (qR _)
 .exact Bo (m:=1) (aR rfl) hw T b_ bt aj r f ge l e_ gh mJ gQ d_ cQ e1 br aq et (aer P) rfl rfl rfl rfl rfl rfl ⟨rfl,rfl⟩ (by kernel_rfl) (by kernel_rfl)
 .exact Bo (m:=2) (aR rfl) hw T b_ bt aj r f ge l e_ gh mJ gQ d_ cQ e1 br aq et (aes P) rfl rfl rfl rfl rfl rfl ⟨rfl,rfl⟩ (by kernel_rfl) (by kernel_rfl)
 .exact Bo (m:=3) (aR rfl) hw T b_ bt aj r f ge l e_ gh mJ gQ d_ cQ e1 br aq et (aet P) rfl rfl rfl rfl rfl rfl ⟨rfl,rfl⟩ (by kernel_rfl) (by kernel_rfl)
 .exact Bo (m:=4) (aR rfl) hw T b_ bt aj r f ge l e_ gh mJ gQ d_ cQ e1 br aq et (aeu P) rfl rfl rfl rfl rfl rfl ⟨rfl,rfl⟩ (by kernel_rfl) (by kernel_rfl)
 .lia
theorem WR(P:cg X.K)(T:bP X uZ.p g c β s env fn aP at_ N)(b_:β.aj=[bE,ch])(d_:bE∈bC)(cQ:ch∈bC)(bw:a0 aP (aQ [bE])≠none)(hold:a0 aP (aQ [ch])≠none)(aq:gn X g c env at_ c6 Q):dW g c (cF ((ea X.K).drop 3) env) Q E s:=by
 refine ig ((lZ T bw).NN T.aB) λsH ER Dn Ir Iz IE=>ig ((lZ T hold).ey T.aB) λjE mZ ot gH jz dm=>?_;obtain F:=Fits.of T.sat.toSatO;have len:β.ad.length=29:=F.ad;have v0:β.aj[0]? =C bE:=by exact G b_ rfl
 have v1:β.aj[1]? =C ch:=by exact G b_ rfl
 obtain ne:bE≠ch:=by obtain e9:=T.sat.facts.cd;rw[b_] at e9;simpa using e9
 obtain dk:=fq T.cp T.sat (j:=([],[bD],rb)) (qt Dn rfl Ir v0) (by kernel_rfl);obtain ho:=fq T.cp dk (j:=([],[bu],kv)) (qt ot rfl gH (Gg v1)) (by kernel_rfl);obtain hv:β.le (β.app 0 sH):=aZ.eb;have fC:(β.app 0 sH).le ((β.app 0 sH).app 0 jE):=aZ.eb;have le:=hv.trans fC;obtain HW:(β.app 0 sH).ad[29]? =C ER:=eY (j:=0) len rfl Iz;obtain tN:((β.app 0 sH).app 0 jE).ad[33]? =C mZ:=eY (j:=0) (kz (m:=33) len Dn rfl) rfl jz;obtain H:=je (v:=uZ.v) T le ho (by kernel_rfl) (fs (all_cons (T.ie v0 d_) (all_cons (T.ie v1 cQ) all_nil))) (pq (b9 v0) (a4 fC.ad HW) IE (b9 v1) tN dm (by simpa using ne) all_nil) (fs all_nil);obtain run:d5 (cO X.K cM uZ)=true:=aeo P;exact mG (x:=uZ) T.good T.k T.cp (T.env.le le) ic H run aq
theorem WS(P:cg X.K)(T:bP X u0.p g c β s env fn aP at_ N)(b_:β.aj=[ch])(cQ:ch∈bC)(hold:a0 aP (aQ [ch])≠none)(aq:gn X g c env at_ c6 Q):dW g c (cF ((ea X.K).drop 3) env) Q E s:=by
 refine ig ((lZ T hold).NN T.aB) λsH ER Dn Ir Iz IE=>?_;obtain F:=Fits.of T.sat.toSatO;obtain len:β.ad.length=29:=F.ad;have v0:β.aj[0]? =C ch:=by exact G b_ rfl
 obtain dk:=fq T.cp T.sat (j:=([],[bD],rb)) (qt Dn rfl Ir v0) (by kernel_rfl);have le:β.le (β.app 0 sH):=aZ.eb;obtain HW:(β.app 0 sH).ad[29]? =C ER:=eY (j:=0) len rfl Iz;obtain H:=je (v:=u0.v) T le dk (by kernel_rfl) (fs (all_cons (T.ie v0 cQ) all_nil)) (i0 (b9 v0) HW IE all_nil) (fs all_nil);obtain run:d5 (cO X.K cM u0)=true:=aep P;exact mG (x:=u0) T.good T.k T.cp (T.env.le le) ic H run aq
theorem Nj(P:cg X.K)(T:bP X u3.p g c β s env fn aP at_ N)(aq:gn X g c env at_ c6 Q):dW g c (cF ((ea X.K).drop 3) env) Q E s:=by obtain H:=je (v:=u3.v) T (.refl _) T.sat (by kernel_rfl) (fs (all_cons T.QO all_nil)) (fs (all_cons T.QN all_nil)) (fs all_nil);obtain run:d5 (cO X.K cM u3)=true:=aew P;exact mG (x:=u3) T.good T.k T.cp T.env ic H run aq
theorem WV(P:cg X.K){iU:Nat}(hw:w<4)(T:bP X u2.p g c β s env fn aP at_ N)(b_:β.aj=[bE,ch,iU]){xu:aF×aF}(bt:df g uT ax)(aj:ax.aj=[bE,iU])(r:ax.ad[0]? =C X.root)(f:ax.ad[1]? =C X.fr)(l:ax.ad[3]? =C L)(a_:ax.ad[13]? =C xu)(e_:ax.aC[1]? =C (3+2*(w:Int)))
  (gh:a0 fn (aQ [bE])=C (.ref L.1))(mJ:a0 aP (aQ [bE])=C (.ref i8.1))(nH:a0 fn (aQ [iU])=C (.ref xu.1))(kk:a0 aP (aQ [iU])≠none)
  (gQ:β.aC[6]? =C (-1))(d_:bE∈bC)(B3:iU∈bC)(cQ:ch∈bC)(e1:a0 aP (aQ [ch])=none)(br:g.S+dR<=9000)(aq:gn X g c env at_ c6 Q)(et:β.ad[9]? =C c6):dW g c (cF ((ea X.K).drop 3) env) Q E s:=by
 have F:=Fits.of T.sat.toSatO;have len:β.ad.length=30:=F.ad;obtain mz:β.aC.length=7:=F.aC;have v0:β.aj[0]? =C bE:=by exact G b_ rfl
 have v1:β.aj[1]? =C ch:=by exact G b_ rfl
 have v2:β.aj[2]? =C iU:=by exact G b_ rfl
 obtain ne:bE≠iU:=by obtain e9:=T.sat.facts.cd;rw[b_] at e9;simp at e9;exact e9.1.2
 obtain dk:=fq T.cp T.sat (j:=([1,2],[bD,c3],uT)) (Io bt (G aj (.cons (b9 v0) (.cons (b9 v2) .nil))) T.cA T.el r f) (by kernel_rfl);have le:β.le (β.app 2 ax):=aZ.eb;have qo:(β.app 2 ax).ad[31]? =C L:=eY (j:=1) len rfl l;have yL:(β.app 2 ax).ad[41]? =C xu:=eY (j:=11) len rfl a_;obtain zh:(β.app 2 ax).aC[8]? =C (3+2*(w:Int)):=u7 (j:=1) mz rfl e_;obtain H:=je (v:=u2.v) T le dk (by kernel_rfl) (fs (all_cons (T.ie v0 d_) (all_cons (T.ie v1 cQ) (all_cons (T.ie v2 B3) all_nil)))) (pq (b9 v0) qo gh (b9 v2) yL nH (by simpa using ne) (all_cons (T.tZ v1 e1) all_nil)) (fs (all_cons (bP.g8 v1 e1) all_nil));obtain run:gg (cO X.K cM u2) Gv=true:=aev P;refine ub (x:=u2) T le ic H run aq et br cQ (b9 v1) e1 (λx ak=>?_) (.inl rfl) λaY bq eL er gP h4 eC mE pu mK mL d7 c4 same=>?_
 .have ak:x∈ [(bD,31),(c3,41)]:=ak;rcases dg.mp ak with rfl|ak
  .exact(i3 bE L (b9 v0) qo gh (by refine G mJ ?_;simp))
  .obtain rfl:=eu.mp ak;exact(i3 iU xu (b9 v2) yL nH kk)
 .exact .U iU w _ gP h4 xu mE (e3 (.cons (b9 (a4 eC.aj v1)) (.cons (b9 (a4 eC.aj v2)) .nil))) (dz (n:=1) rfl (a4 eC.ad (a4 le.ad T.cA))) (dz (n:=2) rfl (a4 eC.ad (a4 le.ad T.el))) mK mL (dz (n:=41) rfl (a4 eC.ad yL))
   (ir (v:=6) rfl (a4 eC.aC (a4 le.aC gQ))) hw (ir (v:=8) rfl (a4 eC.aC zh)) d7 c4 ((same iU kk).1.trans nH) (G (same iU kk).2 kk)
theorem vn(T:bP X p g c β s env fn aP at_ N)(hw:w<4):∃L ax,a0 X.r6 (aQ [103,97+w])=C (.ref L)/\ax.ad[0]? =C X.root/\ax.ad[1]? =C (L,L)/\ax.ad[2]? =C (X.ga w)/\ax.aC[0]? =C (2+2*(w:Int))/\df g (lL kH) ax/\ax.aj=[97+w]:=by
 refine t5 (T.gens.ru w hw) λL ax a1 a2 cj c9 dQ fe iq ky=>(uk L (pull ⟨[0,1,2],[.aL 0 ai 0],[bD],[]⟩ ax) a1 (dz rfl a2) (dz rfl cj) (dz rfl c9) (ir rfl dQ) ?_);by_cases bl:4<=X.after w
 .exact a3 (fe bl) λbt dH=>⟨(bt.pick (by kernel_rfl) (aR rfl) (by kernel_rfl) T.aB).1,e3 (.cons (b9 (G dH rfl)) .nil)⟩
 by_cases he:X.after w=w
 .exact a3 (iq he) λbt dH=>⟨(bt.pick (by kernel_rfl) (aR rfl) (by kernel_rfl) T.aB).1,e3 (.cons (b9 (G dH rfl)) .nil)⟩
 .exact a3 (ky (K1 (by assumption)) he) λbt dH=>⟨(bt.pick (by kernel_rfl) (aR rfl) (by kernel_rfl) T.aB).1,e3 (.cons (b9 (G dH rfl)) .nil)⟩
theorem GK{m:Nat}(T:bP X p g c β s env fn aP at_ N)(hm:1<=m/\m<=4)(bt:df g (gO m) ax)(aj:ax.aj=[bE])(ge:ax.ad[2]? =C (X.ga w))(l:ax.ad[3]? =C L):∃Eu,df g rd Eu/\Eu.aj=[bE]/\Eu.ad[0]? =C (X.ga w)/\Eu.ad[1]? =C L:=
 (l4 _ (bt.zD (cq:=rd) (ah:=⟨[2,3,5,6,7,8],[.aL 0 ai 2],[bD],[[.any 0]]⟩) hm T.aB (by kernel_rfl)) (e3 (.cons (b9 (G aj rfl)) .nil)) (dz rfl ge) (dz rfl l))
theorem Cx{e:b4}{a:aF×aF}(bt:df g e ax)(lb:e.aE.length=1)(dH:ax.aj=[ch])(dm:β.aj[j]? =C ch)(bn:β.ad[n]? =C a)(ey:ax.ad[0]? =C a):JoinOk g β ([n],[[.chr j]],e) ax:=
 ⟨bt,λk mn q=>by
  rw[dH] at q
  match k with
  |0=>(obtain J:=aT q;clear q;subst J);exact(bh _ rfl (b9 dm))
  |k+1=>simp at q,by refine G lb ?_;rfl,λi m q=>by
  match i with
  |0=>(obtain J:=aT q;clear q;subst J);exact(bh a ey bn)
  |i+1=>simp at q⟩
theorem wH{a b x:Nat}(h:a≠b):[a,x]≠ [b,x]:=by simpa using h
theorem W9(P:cg X.K){m:Nat}(hm:1<=m/\m<=4)(hw:w<4)(T:bP X j_.p g c β s env fn aP at_ N)(b_:β.aj=[97+w,bE,ch])(bt:df g (gO m) ax)(aj:ax.aj=[bE])(ge:ax.ad[2]? =C (X.ga w))(l:ax.ad[3]? =C L)(gh:a0 fn (aQ [bE])=C (.ref L.1))(mJ:a0 aP (aQ [bE])=C (.ref i8.1))
  (gQ:β.aC[6]? =C (-1))(d_:bE∈bC)(cQ:ch∈bC)(e1:a0 aP (aQ [ch])=none)(br:g.S+dR<=9000)(aq:gn X g c env at_ c6 Q)(et:β.ad[9]? =C c6):dW g c (cF ((ea X.K).drop 3) env) Q E s:=by
 refine qA (vn T hw) λfJ c_ a1 a2 cj c9 dQ iY n3=>ih (T.gens.sY w hw) λfV fj cA el gE kN n4 jr=>jQ (GK T hm bt aj ge l) λgC jT j9 h5 e5=>?_;have F:=Fits.of T.sat.toSatO;have len:β.ad.length=33:=F.ad;obtain mz:β.aC.length=7:=F.aC;have v0:β.aj[0]? =C (97+w):=by exact G b_ rfl
 have v1:β.aj[1]? =C bE:=by exact G b_ rfl
 have v2:β.aj[2]? =C ch:=by exact G b_ rfl
 have jO:(β.app 1 c_).ad.length=35:=kz len iY rfl;obtain o6:((β.app 1 c_).app 1 fj).ad.length=47:=kz jO kN rfl;have hv:β.le (β.app 1 c_):=aZ.eb;have fC:(β.app 1 c_).le ((β.app 1 c_).app 1 fj):=aZ.eb;have jc:((β.app 1 c_).app 1 fj).le (((β.app 1 c_).app 1 fj).app 1 gC):=aZ.eb;have le:=hv.trans (fC.trans jc);obtain tN:(β.app 1 c_).ad[33]? =C (fJ,fJ):=eY (j:=0) len rfl cj;obtain oc:(β.app 1 c_).ad[34]? =C (X.ga w):=eY (j:=1) len rfl c9;obtain aaq:((β.app 1 c_).app 1 fj).ad[35]? =C (fV,fV):=eY (j:=0) jO rfl gE;have yN:(((β.app 1 c_).app 1 fj).app 1 gC).ad[47]? =C L:=eY (j:=0) o6 rfl e5;obtain zh:((β.app 1 c_).app 1 fj).aC[8]? =C (3+2*(w:Int)):=u7 (j:=0) (VK (m:=8) mz iY rfl) rfl jr;obtain dk:=fq T.cp T.sat (j:=([1],[bD],lL kH)) (lh (L:=fJ) iY rfl n3 v0 T.cA a2) (by kernel_rfl);obtain ho:=fq T.cp dk (j:=([1],[bD],me)) (lh (L:=fV) kN rfl n4 v0 (a4 hv.ad T.cA) el) (by kernel_rfl);obtain m5:=fq T.cp ho (j:=([34],[bu],rd)) (Cx jT rfl j9 v1 (a4 fC.ad oc) h5) (by kernel_rfl);have ee:=a4 le.aC T.ee;obtain H:=je (v:=j_.v) T le m5 (by kernel_rfl) (pq (mu v0) (a4 (fC.trans jc).ad tN) a1 (tw v0) (a4 jc.ad aaq) cA (wH (aR rfl)) (all_cons (T.ie v1 d_) (all_cons (T.ie v2 cQ) (all_cons (T.v9 ee) (all_cons T.v_ all_nil)))))
  (i0 (b9 v1) yN gh (all_cons (T.tZ v2 e1) (all_cons (T.nr v0) (all_cons (T.cM v0) (all_cons (T.v8 ee) (all_cons (T.wb ee) all_nil)))))) (fs (all_cons (bP.g8 v2 e1) all_nil))
 obtain run:gg (cO X.K cM j_) Gw=true:=aeK P;refine ub (x:=j_) T le ic H run aq et br cQ (b9 v2) e1 (λx ak=>?_) (.inr (.inr ⟨rfl,by exact aR rfl⟩)) λaY bq eL er gP h4 eC mE pu mK mL d7 c4 same=>?_
 .have ak:x∈ [(bu,47)]:=ak;obtain rfl:=eu.mp ak;exact(i3 bE L (b9 v1) yN gh (by refine G mJ ?_;simp))
 .have bw:a0 aP (aQ [bE])≠none:=by refine G mJ ?_;simp
  exact .U bE w _ gP h4 L mE (e3 (.cons (b9 (a4 eC.aj v2)) (.cons (b9 (a4 eC.aj v1)) .nil))) (dz (n:=1) rfl (a4 eC.ad (a4 le.ad T.cA))) (dz (n:=2) rfl (a4 eC.ad (a4 le.ad T.el))) mK mL (dz (n:=47) rfl (a4 eC.ad yN))
   (ir (v:=6) rfl (a4 eC.aC (a4 le.aC gQ))) hw (ir (v:=8) rfl (a4 eC.aC (a4 jc.aC zh))) d7 c4 ((same bE bw).1.trans gh) (G (same bE bw).2 bw)
theorem W7(P:cg X.K){m:Nat}(hm:1<=m/\m<=4)(hw:w<4)(T:bP X MI.rJ.p g c β s env fn aP at_ N)(b_:β.aj=[97+w,bE,ch]){ax:aZ}{L i8:aF×aF}(bt:df g (gO m) ax)(aj:ax.aj=[bE])(ge:ax.ad[2]? =C (X.ga w))(l:ax.ad[3]? =C L)(gh:a0 fn (aQ [bE])=C (.ref L.1))
  (d_:bE∈bC)(cQ:ch∈bC)(hold:a0 aP (aQ [ch])≠none)(aq:gn X g c env at_ c6 Q):dW g c (cF ((ea X.K).drop 3) env) Q E s:=by
 refine qA (vn T hw) λfJ c_ a1 a2 cj c9 dQ iY n3=>ih (T.gens.sY w hw) λfV fj cA el gE kN n4 jr=>jQ (GK T hm bt aj ge l) λgC jT j9 h5 e5=>ig ((lZ T hold).ey T.aB) λjE mZ ot gH jz dm=>?_;obtain F:=Fits.of T.sat.toSatO;have len:β.ad.length=32:=F.ad;have v0:β.aj[0]? =C (97+w):=by exact G b_ rfl
 have v1:β.aj[1]? =C bE:=by exact G b_ rfl
 have v2:β.aj[2]? =C ch:=by exact G b_ rfl
 obtain ne:bE≠ch:=by obtain e9:=T.sat.facts.cd;rw[b_] at e9;simp at e9;exact e9.2
 have jO:(β.app 1 c_).ad.length=34:=kz len iY rfl;have o6:((β.app 1 c_).app 1 fj).ad.length=46:=kz jO kN rfl;obtain abG:(((β.app 1 c_).app 1 fj).app 1 gC).ad.length=51:=kz o6 jT rfl;have hv:β.le (β.app 1 c_):=aZ.eb;have fC:(β.app 1 c_).le ((β.app 1 c_).app 1 fj):=aZ.eb;have jc:((β.app 1 c_).app 1 fj).le (((β.app 1 c_).app 1 fj).app 1 gC):=aZ.eb;have CD:(((β.app 1 c_).app 1 fj).app 1 gC).le ((((β.app 1 c_).app 1 fj).app 1 gC).app 0 jE):=aZ.eb;have le:=hv.trans (fC.trans (jc.trans CD));obtain mx:(β.app 1 c_).ad[32]? =C (fJ,fJ):=eY (j:=0) len rfl cj;obtain tN:(β.app 1 c_).ad[33]? =C (X.ga w):=eY (j:=1) len rfl c9;obtain oc:((β.app 1 c_).app 1 fj).ad[34]? =C (fV,fV):=eY (j:=0) jO rfl gE;obtain yM:(((β.app 1 c_).app 1 fj).app 1 gC).ad[46]? =C L:=eY (j:=0) o6 rfl e5;obtain aas:((((β.app 1 c_).app 1 fj).app 1 gC).app 0 jE).ad[51]? =C mZ:=eY (j:=0) abG rfl jz;obtain dk:=fq T.cp T.sat (j:=([1],[bD],lL kH)) (lh (L:=fJ) iY rfl n3 v0 T.cA a2) (by kernel_rfl);obtain ho:=fq T.cp dk (j:=([1],[bD],me)) (lh (L:=fV) kN rfl n4 v0 (a4 hv.ad T.cA) el) (by kernel_rfl);obtain m5:=fq T.cp ho (j:=([33],[bu],rd)) (Cx jT rfl j9 v1 (a4 fC.ad tN) h5) (by kernel_rfl);obtain EX:=fq T.cp m5 (j:=([],[c3],kv)) (qt ot rfl gH v2) (by kernel_rfl);have ee:=a4 le.aC T.ee;obtain H:=je (v:=MI.rJ.v) T le EX (by kernel_rfl) (pq (mu v0) (a4 (fC.trans (jc.trans CD)).ad mx) a1 (tw v0) (a4 (jc.trans CD).ad oc) cA (wH (aR rfl)) (all_cons (T.ie v1 d_) (all_cons (T.ie v2 cQ) (all_cons (T.v9 ee) (all_cons T.v_ all_nil)))))
  (pq (b9 v1) (a4 CD.ad yM) gh (b9 v2) aas dm (by simpa using ne) (all_cons (T.nr v0) (all_cons (T.cM v0) (all_cons (T.v8 ee) (all_cons (T.wb ee) all_nil))))) (fs all_nil)
 obtain run:d5 (cO X.K cM MI.rJ)=true:=aeI P;exact mG (x:=MI.rJ) T.good T.k T.cp (T.env.le le) ic H run aq
theorem W8(P:cg X.K){m:Nat}(hm:1<=m/\m<=4)(hw:w<4)(T:bP X vs.p g c β s env fn aP at_ N)(b_:β.aj=[97+w,bE]){ax:aZ}{L i8:aF×aF}(bt:df g (gO m) ax)(aj:ax.aj=[bE])(ge:ax.ad[2]? =C (X.ga w))(l:ax.ad[3]? =C L)(gh:a0 fn (aQ [bE])=C (.ref L.1))
  (d_:bE∈bC)(aq:gn X g c env at_ c6 Q):dW g c (cF ((ea X.K).drop 3) env) Q E s:=by
 refine qA (vn T hw) λfJ c_ a1 a2 cj c9 dQ iY n3=>ih (T.gens.sY w hw) λfV fj cA el gE kN n4 jr=>jQ (GK T hm bt aj ge l) λgC jT j9 h5 e5=>?_;obtain F:=Fits.of T.sat.toSatO;have len:β.ad.length=32:=F.ad;have v0:β.aj[0]? =C (97+w):=by exact G b_ rfl
 have v1:β.aj[1]? =C bE:=by exact G b_ rfl
 have jO:(β.app 1 c_).ad.length=34:=kz len iY rfl;obtain o6:((β.app 1 c_).app 1 fj).ad.length=46:=kz jO kN rfl;have hv:β.le (β.app 1 c_):=aZ.eb;have fC:(β.app 1 c_).le ((β.app 1 c_).app 1 fj):=aZ.eb;have jc:((β.app 1 c_).app 1 fj).le (((β.app 1 c_).app 1 fj).app 1 gC):=aZ.eb;have le:=hv.trans (fC.trans jc);obtain mx:(β.app 1 c_).ad[32]? =C (fJ,fJ):=eY (j:=0) len rfl cj;obtain tN:(β.app 1 c_).ad[33]? =C (X.ga w):=eY (j:=1) len rfl c9;obtain oc:((β.app 1 c_).app 1 fj).ad[34]? =C (fV,fV):=eY (j:=0) jO rfl gE;obtain yM:(((β.app 1 c_).app 1 fj).app 1 gC).ad[46]? =C L:=eY (j:=0) o6 rfl e5;obtain dk:=fq T.cp T.sat (j:=([1],[bD],lL kH)) (lh (L:=fJ) iY rfl n3 v0 T.cA a2) (by kernel_rfl);obtain ho:=fq T.cp dk (j:=([1],[bD],me)) (lh (L:=fV) kN rfl n4 v0 (a4 hv.ad T.cA) el) (by kernel_rfl);obtain m5:=fq T.cp ho (j:=([33],[bu],rd)) (Cx jT rfl j9 v1 (a4 fC.ad tN) h5) (by kernel_rfl);have ee:=a4 le.aC T.ee;obtain H:=je (v:=vs.v) T le m5 (by kernel_rfl) (pq (mu v0) (a4 (fC.trans jc).ad mx) a1 (tw v0) (a4 jc.ad oc) cA (wH (aR rfl)) (all_cons (T.ie v1 d_) (all_cons (T.v9 ee) (all_cons T.v_ all_nil))))
  (i0 (b9 v1) yM gh (all_cons (T.nr v0) (all_cons (T.cM v0) (all_cons (T.v8 ee) (all_cons (T.wb ee) all_nil))))) (fs all_nil)
 obtain run:d5 (cO X.K cM vs)=true:=aeJ P;exact mG (x:=vs) T.good T.k T.cp (T.env.le le) ic H run aq
theorem Nk(P:cg X.K)(hw:w<4)(T:bP X h0.p g c β s env fn aP at_ N)(b_:β.aj=[97+w])(aq:gn X g c env at_ c6 Q):dW g c (cF ((ea X.K).drop 3) env) Q E s:=by
 refine qA (vn T hw) λfJ c_ a1 a2 cj c9 dQ iY n3=>ih (T.gens.sY w hw) λfV fj cA el gE kN n4 jr=>?_;obtain F:=Fits.of T.sat.toSatO;have len:β.ad.length=32:=F.ad;have v0:β.aj[0]? =C (97+w):=by exact G b_ rfl
 obtain jO:(β.app 1 c_).ad.length=34:=kz len iY rfl;have hv:β.le (β.app 1 c_):=aZ.eb;have fC:(β.app 1 c_).le ((β.app 1 c_).app 1 fj):=aZ.eb;have le:=hv.trans fC;obtain mx:(β.app 1 c_).ad[32]? =C (fJ,fJ):=eY (j:=0) len rfl cj;obtain oc:((β.app 1 c_).app 1 fj).ad[34]? =C (fV,fV):=eY (j:=0) jO rfl gE;obtain dk:=fq T.cp T.sat (j:=([1],[bD],lL kH)) (lh (L:=fJ) iY rfl n3 v0 T.cA a2) (by kernel_rfl);obtain ho:=fq T.cp dk (j:=([1],[bD],me)) (lh (L:=fV) kN rfl n4 v0 (a4 hv.ad T.cA) el) (by kernel_rfl);have ee:=a4 le.aC T.ee;obtain H:=je (v:=h0.v) T le ho (by kernel_rfl) (pq (mu v0) (a4 fC.ad mx) a1 (tw v0) oc cA (wH (aR rfl)) (all_cons T.QO (all_cons (T.v9 ee) (all_cons T.v_ all_nil))))
  (fs (all_cons T.QN (all_cons (T.nr v0) (all_cons (T.cM v0) (all_cons (T.v8 ee) (all_cons (T.wb ee) all_nil)))))) (fs all_nil)
 obtain run:d5 (cO X.K cM h0)=true:=aeH P;exact mG (x:=h0) T.good T.k T.cp (T.env.le le) ic H run aq
theorem W_(P:cg X.K)(hw:w<4)(T:bP X qf.p g c β s env fn aP at_ N)(b_:β.aj=[97+w,bE])(bt:df g sN ax)(aj:ax.aj=[bE])(f:ax.ad[1]? =C X.fr)(l:ax.ad[2]? =C L)(gh:a0 fn (aQ [bE])=C (.ref L.1))(d_:bE∈bC)(aq:gn X g c env at_ c6 Q):dW g c (cF ((ea X.K).drop 3) env) Q E s:=by
 refine qA (vn T hw) λfJ c_ a1 a2 cj c9 dQ iY n3=>ih (T.gens.sY w hw) λfV fj cA el gE kN n4 jr=>?_;obtain jT:=(bt.pick (cq:=EG) (ah:=⟨[1,2,4,5],[],[bD],[[.any 0]]⟩) (by kernel_rfl) (aR rfl) (by kernel_rfl) T.aB).1;let gC:=pull ⟨[1,2,4,5],[],[bD],[[.any 0]]⟩ ax;obtain j9:gC.aj=[bE]:=e3 (.cons (b9 (G aj rfl)) .nil);obtain h5:gC.ad[0]? =C X.fr:=dz rfl f;obtain e5:gC.ad[1]? =C L:=dz rfl l;obtain F:=Fits.of T.sat.toSatO;have len:β.ad.length=32:=F.ad;have v0:β.aj[0]? =C (97+w):=by exact G b_ rfl
 have v1:β.aj[1]? =C bE:=by exact G b_ rfl
 have jO:(β.app 1 c_).ad.length=34:=kz len iY rfl;obtain o6:((β.app 1 c_).app 1 fj).ad.length=46:=kz jO kN rfl;have hv:β.le (β.app 1 c_):=aZ.eb;have fC:(β.app 1 c_).le ((β.app 1 c_).app 1 fj):=aZ.eb;have jc:((β.app 1 c_).app 1 fj).le (((β.app 1 c_).app 1 fj).app 1 gC):=aZ.eb;have le:=hv.trans (fC.trans jc);obtain mx:(β.app 1 c_).ad[32]? =C (fJ,fJ):=eY (j:=0) len rfl cj;obtain oc:((β.app 1 c_).app 1 fj).ad[34]? =C (fV,fV):=eY (j:=0) jO rfl gE;obtain yM:(((β.app 1 c_).app 1 fj).app 1 gC).ad[46]? =C L:=eY (j:=0) o6 rfl e5;obtain dk:=fq T.cp T.sat (j:=([1],[bD],lL kH)) (lh (L:=fJ) iY rfl n3 v0 T.cA a2) (by kernel_rfl);obtain ho:=fq T.cp dk (j:=([1],[bD],me)) (lh (L:=fV) kN rfl n4 v0 (a4 hv.ad T.cA) el) (by kernel_rfl);obtain m5:=fq T.cp ho (j:=([2],[bu],EG)) (Cx jT rfl j9 v1 (a4 (hv.trans fC).ad T.el) h5) (by kernel_rfl);have ee:=a4 le.aC T.ee;obtain H:=je (v:=qf.v) T le m5 (by kernel_rfl) (pq (mu v0) (a4 (fC.trans jc).ad mx) a1 (tw v0) (a4 jc.ad oc) cA (wH (aR rfl)) (all_cons (T.ie v1 d_) (all_cons (T.v9 ee) (all_cons T.v_ all_nil))))
  (i0 (b9 v1) yM gh (all_cons (T.nr v0) (all_cons (T.cM v0) (all_cons (T.v8 ee) (all_cons (T.wb ee) all_nil))))) (fs all_nil)
 obtain run:d5 (cO X.K cM qf)=true:=aeL P;exact mG (x:=qf) T.good T.k T.cp (T.env.le le) ic H run aq
theorem tb{bd dE:b5}(hw:w<4)(T:bP X (hX bd dE).p g c β s env fn aP at_ N)(b_:β.aj=[97+w,bE]){gC:aZ}(jT:df g (pO dE) gC)(j9:gC.aj=[bE])(e5:gC.ad[1]? =C L)(Zm:hb g.S bd (2+2*(w:Int)))(gh:a0 fn (aQ [bE])=C (.ref L.1))(d_:bE∈bC)(aq:gn X g c env at_ c6 Q)
  (run:d5 (cO X.K cM (hX bd dE))=ae)(aX:(hX bd dE).p.os.length=32)(ZP:(hu (hX bd dE).p.st [1] [bD] (lL bd)).isSome=ae)(HA:(hu (hO (hX bd dE).p.st ([1],[bD],lL bd)) [1] [bD] me).isSome=ae)(ZQ:(hu (hO (hO (hX bd dE).p.st ([1],[bD],lL bd)) ([1],[bD],me)) [] [bu] (pO dE)).isSome=ae)(hf:freshD ((hX bd dE).jy.foldl hO (hX bd dE).p.st)=ae):dW g c (cF ((ea X.K).drop 3) env) Q E s:=by
 refine qA (vn T hw) λfJ c_ a1 a2 cj c9 dQ iY n3=>ih (T.gens.sY w hw) λfV fj cA el gE kN n4 jr=>?_;have iY:df g (lL bd) c_:=iY.bounds (au:=[bd]) (Dc iY.facts.aC.length.symm dQ▸.cons Zm .nil);obtain F:=Fits.of T.sat.toSatO;have len:β.ad.length=32:=F.ad.trans aX;have v0:β.aj[0]? =C (97+w):=by exact G b_ rfl
 have v1:β.aj[1]? =C bE:=by exact G b_ rfl
 have jO:(β.app 1 c_).ad.length=34:=kz len iY rfl;obtain o6:((β.app 1 c_).app 1 fj).ad.length=46:=kz jO kN rfl;have hv:β.le (β.app 1 c_):=aZ.eb;have fC:(β.app 1 c_).le ((β.app 1 c_).app 1 fj):=aZ.eb;have jc:((β.app 1 c_).app 1 fj).le (((β.app 1 c_).app 1 fj).app 0 gC):=aZ.eb;have le:=hv.trans (fC.trans jc);obtain mx:(β.app 1 c_).ad[32]? =C (fJ,fJ):=eY (j:=0) len rfl cj;obtain oc:((β.app 1 c_).app 1 fj).ad[34]? =C (fV,fV):=eY (j:=0) jO rfl gE;obtain yN:(((β.app 1 c_).app 1 fj).app 0 gC).ad[47]? =C L:=eY (j:=1) o6 rfl e5;obtain dk:=fq T.cp T.sat (j:=([1],[bD],lL bd)) (lh (L:=fJ) iY rfl n3 v0 T.cA a2) ZP;obtain ho:=fq T.cp dk (j:=([1],[bD],me)) (lh (L:=fV) kN rfl n4 v0 (a4 hv.ad T.cA) el) HA;obtain m5:=fq T.cp ho (j:=([],[bu],pO dE)) (qt jT rfl j9 v1) ZQ;have ee:=a4 le.aC T.ee;obtain H:=je (v:=(hX bd dE).v) T le m5 hf (pq (mu v0) (a4 (fC.trans jc).ad mx) a1 (tw v0) (a4 jc.ad oc) cA (wH (aR rfl)) (all_cons (T.ie v1 d_) (all_cons (T.v9 ee) (all_cons T.v_ all_nil))))
  (i0 (b9 v1) yN gh (all_cons (T.nr v0) (all_cons (T.cM v0) (all_cons (T.v8 ee) (all_cons (T.wb ee) all_nil))))) (fs all_nil)
 exact mG (x:=hX bd dE) T.good T.k T.cp (T.env.le le) ic H run aq
end
section
variable{X:gD}{c:bc}{s:aM}{bE:Nat}
theorem nj{w:Nat}:ag.val β (lc w)=C [97+w]:=ag.eN.mpr (d1 _ [] rfl rfl (by simp))
theorem narrow{gK zM:b5}(h:bK (hb S) (vI gK) zs)(cb:zs[2]? =C room)(b:hb S zM room):bK (hb S) (vI zM) zs:=by
 unfold vI at h ⊢;cases h with
 |cons h0 h=>cases h with
  |cons aa h=>cases h with
   |cons af h=>(obtain J:=aT cb;clear cb;subst J);exact .cons h0 (.cons aa (.cons b h))
theorem bP.gK{gK zM:b5}(T:bP X (fy gK aE) g c β s env fn aP n N)(b:hb g.S zM X.room):bP X (fy zM aE) g c β s env fn aP n N:=
 T.bounds rfl (narrow T.sat.facts.aC T.room b)
theorem Entry.nE{fr:aF×aF}(TY:Entry g qF fr ga fn aP ch)(aB:sP g):∃ax L,df g j5 ax/\ax.aj=[]/\ax.ad[0]? =C L/\a0 aP (aQ [ch])=C (.ref L.1):=by
 cases TY with
 |A ax L T bt aj r f l t dJ d7 c4=>exact(i3 (pull ⟨[3],[],[],[]⟩ ax) T ((bt.pick (by kernel_rfl) (aR rfl) (by kernel_rfl) aB).1) rfl (dz rfl t) c4)
 |B m w hm hw ax L T bt aj r f ge l t dJ e_ d7 c4=>exact(i3 (pull ⟨[4],[],[],[]⟩ ax) T (bt.zD hm aB (by kernel_rfl)) rfl (dz rfl t) c4)
 |U mn w ax L T gP bt aj r f l t a_ dJ hw e_ d7 c4 nH kk=>exact(i3 (pull ⟨[4],[],[],[]⟩ ax) T ((bt.pick (by kernel_rfl) (aR rfl) (by kernel_rfl) aB).1) rfl (dz rfl t) c4)
theorem o4{e:b4}(bt:df g e ax)(lb:e.aE=[])(dH:ax.aj=[]):JoinOk g β ([],[],e) ax:=
 ⟨bt,λk mn q=>by rw[dH] at q;simp at q,by show 0=e.aE.length;refine G lb ?_;rfl,λi n q=>by simp at q⟩
theorem C9{gK:b5}(T:bP X (fy gK [bC]) g c β s env fn aP n N)(b_:β.aj=[ch])(hold:a0 aP (aQ [ch])≠none)(cD:(hu (fy gK [bC]).st [] [] j5).isSome=ae)(hf:k6 ((k2 gK).jy.foldl hO (k2 gK).p.st)=ae):
  ∃b1,β.le b1/\Sat g c (k2 gK).st b1 s/\b1.aj=[ch]/\(∀x:ag×Nat,x∈ [(bD,27)]->∃c L,x.1.val b1=C [c]/\b1.ad[x.2]? =C L/\a0 aP (aQ [c])=C (.ref L.1)):=by
 refine ig ((lZ T hold).nE T.aB) λax L bt dH l c4=>?_;obtain F:=Fits.of T.sat.toSatO;obtain len:β.ad.length=27:=F.ad;have v0:β.aj[0]? =C ch:=by exact G b_ rfl
 obtain dk:=fq T.cp T.sat (j:=([],[],j5)) (o4 bt rfl dH) cD;have le:β.le (β.app 0 ax):=aZ.eb;have kb:(β.app 0 ax).ad[27]? =C L:=eY (j:=0) len rfl l;refine(l4 (β.app 0 ax) le (ov (x:=k2 gK) T le dk hf (i0 (b9 v0) kb c4 all_nil)) b_ (λx ak=>?_));obtain rfl:=eu.mp ak;exact(d1 ch L (b9 v0) kb c4)
theorem MP{after:Nat->Nat}:∀{k w:Nat},hW after k w<=k
 |0,_=>dO _
 |k+1,w=>by
  refine G (rA _ _ _) ?_;split
  .obtain this:=MP (after:=after) (k:=k) (w:=after w);exact w1 (by assumption)
  .exact l5 _
theorem MW{w:Nat}(hw:w<4):(∃m,(1<=m/\m<=4)/\gm after m w/\hW after 99 w=m)\/hW after 99 w=99:=by
 obtain le:=MP (after:=after) (k:=99) (w:=w);by_cases h:hW after 99 w<99
 .have c:=MO hw h rfl;refine .inl (fT _ ⟨?_,c.four hw⟩ c rfl);generalize q:hW after 99 w=aD;induction aD using hD with
  |zero=>rw[q] at c;exact c.elim
  |succ m=>exact bA rfl
 .exact .inr (D3 le (sk h))
theorem F5{m w:Nat}(hm:2<=m)(c:gm after m w):after w<4/\after w≠w:=by
 match m,hm,c with
 |m+2,_,c=>
  refine⟨c.1,λe=>?_⟩;obtain gZ:gm after (m+1) w:=by obtain this:=c.2;rwa [e] at this
  obtain this:=gm.uniq c gZ;lia
theorem Wq{w:Nat}(hw:w<4)(h:hW after 99 w=99):after w<4:=by refine S5 λq=>?_;rw[rA] at h;rw[if_pos hw] at h;rw[rA] at h;rw[if_neg q] at h;lia
theorem oV{w:Nat}(h:w<4):w∈four:=by unfold four;simp only[dg,lJ,or_false];lia
theorem AX{w:Nat}(h:w<4):97+w∈dD:=by
 obtain this:w=0\/w=1\/w=2\/w=3:=by lia
 rcases this with rfl|rfl|rfl|rfl<;>decide
theorem A2{β:Type}{a:List aV}{b:List β}{d:List fb}{f:aV->β->fb->Bool}(h:(a.all λx=>b.all λy=>d.all λz=>f x y z)=ae){x:aV}{y:β}{z:fb}(ak:x∈a)(bS:y∈b)(a8:z∈d):f x y z=true:=
 eX.mp (eX.mp (eX.mp h x ak) y bS) z a8
theorem B4(W:Own X zs)(T:bP X p g c β s env fn aP n N)(l:β.le b1)(low:n<=9000){way:Int}{w m:Nat}(vD:fk zs (n+0+1) 5=way)(vE:fk zs (n+1+1) 4=(w:Int))(hm:hW X.after 99 w=m):fu (g.pin b1) (yD way w m):=by
 have L:=W.lists T l low;have aw:=T.k;refine(Wo T.good.ok (aw▸W.chain) L hm).or (vi T.good.ok (aw▸W.draw) L λx ak=>?_);rcases dg.mp ak with rfl|ak
 .exact(fi (l5 _) (show(0:Int)<5 by exact aR rfl) vD)
 .obtain rfl:=eu.mp ak;exact(fi (show 1<=900 by exact aR rfl) (show(0:Int)<4 by exact aR rfl) vE)
theorem SN(P:cg X.K)(W:Own X zs)(T:bP X (fy dY [bC]) g c β s env fn aP n N)(b_:β.aj=[ch])(cQ:ch∈bC)(br:g.S+2*dR<=hI)(h9:hI<=9000)(low:n<=5000)(aU:(n:Int)+2<=j7)(aq:rk X env hI j7 Q){way:Int}(Ca:way∈z4)(vD:fk zs (n+0+1) 5=way){w:Nat}(hw:w<4)(vE:fk zs (n+1+1) 4=(w:Int)):
  dW g c (cF ((ea X.K).drop 1) env) Q E s:=by
 have room:1<=X.room/\X.room<=5:=RD T rfl;have v0:β.aj[0]? =C ch:=by exact G b_ rfl
 obtain acK:=Rk cQ;have Qw:∀x,x<4->97+x≠ch:=λx ak e=>acK.2.2.2 (e▸AX ak);obtain yr:dR=60:=rfl;have over:∀m,hW X.after 99 w=m->X.room<m->m∈zb->dW g c (cF ((ea X.K).drop 1) env) Q E s:=λm hm cb yx=>by
  have bl:X.after w<4:=by
   rcases MW (after:=X.after) hw with⟨k,aw,bb,he⟩|h
   .rw[hm] at he;(clear aw;subst he);exact(F5 (jn.mp (Int.add_one_le_of_lt (KN room.1 cb))) bb).1
   .exact Wq hw h
  obtain B6:xk X.after X.room.toNat w:=MQ (k:=99) (G hm ((Lg (gk (aR rfl) room.1)).mpr cb));have dF:bP X (fy (pl m) [bC]) g c β s env fn aP n N:=T.gK (by
   unfold pl;refine⟨room.1,?_,λj cD=>by exact bM cD⟩;generalize q:dw m 5=aD;clear q;induction aD using bZ with
   |true=>dsimp only;lia
   |false=>exact room.2)
  have fin:∀bq bI av ao,bP X (k7 dY .u .no [dD]) bq bI av ao env fn aP ((n:Int)+(2:Nat)) N->bq.S=g.S+dR->av.aj=[97+w]->dW bq bI (cF ((ea X.K).drop 3) env) Q E ao:=λbq bI av ao bW ez bJ=>by
   have jU:=aq.turn bW (kP ez br) aU;by_cases hh:X.after w=w
   .exact W5 P bW bJ hw hh jU
   .obtain m6:bP X tu.p bq bI {av with aj:=av.aj++ [97+X.after w]} ao env fn aP ((n:Int)+(2:Nat)) N:=bW.lj (l:=dD) rfl (AX bl) (by refine G bJ ?_;simp;assumption);exact W6 P m6 (by show av.aj++_=_;exact G bJ rfl) hw bl hh B6 (bU (kP ez br) h9) jU
  generalize aw:a0 aP (aQ [ch])=aD;induction aD using b3 with
  |none=>obtain H:=ov (x:=p3 (pl m)) dF (.refl _) dF.sat (by rfl) (fs (all_cons (bP.g8 v0 aw) all_nil));obtain run:=A2 (adQ P:FE X.K=ae) Ca (oV hw) yx;refine i1 (x:=p3 (pl m)) dF (.refl _) (B4 W dF (.refl _) (bU (by assumption) (bA rfl)) vD vE hm) H run (by kernel_rfl) (Dt br h9) (λx ak=>(nomatch ak)) λbq bI aY ao a_ bW ez eA=>fin bq bI _ ao bW ez (e3 (.cons nj .nil))
  |some v=>
   obtain hold:a0 aP (aQ [ch])≠none:=by refine G aw ?_;simp
   have tT:(hu (fy (pl m) [bC]).st [] [] j5).isSome=ae/\k6 ((k2 (pl m)).jy.foldl hO (k2 (pl m)).p.st)=true:=by unfold zb at yx;simp only[dg,lJ,or_false] at yx;rcases yx with rfl|rfl|rfl|rfl<;>exact⟨by kernel_rfl,by kernel_rfl⟩
   refine jQ (C9 dF b_ hold tT.1 tT.2) λb1 le H bJ hs=>?_;obtain run:=A2 (adR P:FF X.K=ae) Ca (oV hw) yx;exact i1 (x:=k2 (pl m)) dF le (B4 W dF le (bU (by assumption) (bA rfl)) vD vE hm) H run (by kernel_rfl) (Dt br h9) hs λbq bI aY ao a_ bW ez eA=>fin bq bI _ ao bW ez (e3 (.cons nj .nil))
 rcases MW (after:=X.after) hw with⟨m,⟨hP,rX⟩,bb,he⟩|h
 case inr=>exact over 99 h (by lia) (aR rfl)
 by_cases cb:(m:Int)<=X.room
 case neg=>
  refine over m he (by lia) ?_;unfold zb;simp only[dg,lJ,or_false];lia
 have vA:m∈vX:=by unfold vX;simp only[dg,lJ,or_false];lia
 have dF:bP X (fy (ki m) [bC]) g c β s env fn aP n N:=T.gK ⟨cb,room.2,λj cD=>by exact bM cD⟩;generalize aw:a0 aP (aQ [ch])=aD;induction aD using b3 with
 |none=>
  have H:=ov (x:=p3 (ki m)) dF (.refl _) dF.sat (by rfl) (fs (all_cons (bP.g8 v0 aw) all_nil));have run:=A2 (adP P:FD X.K=ae) Ca (oV hw) vA;have ng:lT 10000 (px (k7 (ki m) (sc 1) (.tup m ey) [dD,bC])).au (k7 (ki m) (sc 1) (.tup m ey) [dD,bC]).au=true:=by
   obtain this:m=1\/m=2\/m=3\/m=4:=by exact IV hP rX
   rcases this with rfl|rfl|rfl|rfl<;>decide+kernel
  refine i1 (x:=p3 (ki m)) dF (.refl _) (B4 W dF (.refl _) (bU (by assumption) (bA rfl)) vD vE he) H run ng (Dt br h9) (λx ak=>(nomatch ak)) λbq bI aY ao a_ bW ez eA=>?_;have bJ:(pull (hF [29,27,28,30] 2 [.lit (w:Int)] [lc w,bD]) aY).aj=[97+w,ch]:=e3 (.cons nj (.cons (b9 (a4 a_.aj v0)) .nil));have gQ:(pull (hF [29,27,28,30] 2 [.lit (w:Int)] [lc w,bD]) aY).aC[6]? =C (w:Int):=kO (e:=.lit (w:Int)) rfl rfl;have jU:=aq.turn bW (kP ez br) aU;by_cases yw:m=1
  ·(clear ng run H dF vA cb he rX hP;subst yw);exact W0 P bW bJ hw bb gQ cQ aw (bU (kP ez br) h9) jU bW.hJ
  .refine a3 (F5 (by lia) bb) λbl hh=>?_;have m6:bP X (ju m).p bq bI _ ao env fn aP ((n:Int)+(2:Nat)) N:=bW.lj (l:=dD) rfl (AX bl) (by refine G bJ ?_;simp;exact⟨by assumption,Qw _ bl⟩);have lg:(pull (hF [29,27,28,30] 2 [.lit (w:Int)] [lc w,bD]) aY).aj++ [97+X.after w]=[97+w,ch,97+X.after w]:=by exact G bJ rfl
   obtain this:m=2\/m=3\/m=4:=by exact Qi hP rX yw
   rcases this with rfl|rfl|rfl
   .exact W2 P m6 lg hw bb gQ cQ aw (bU (kP ez br) h9) jU m6.hJ
   .exact W3 P m6 lg hw bb gQ cQ aw (bU (kP ez br) h9) jU m6.hJ
   .exact W4 P m6 lg hw bb gQ cQ aw (bU (kP ez br) h9) jU m6.hJ
 |some v=>
  have hold:a0 aP (aQ [ch])≠none:=by refine G aw ?_;simp
  have tT:(hu (fy (ki m) [bC]).st [] [] j5).isSome=ae/\k6 ((k2 (ki m)).jy.foldl hO (k2 (ki m)).p.st)=ae/\lT 10000 (px (k7 (ki m) (sc 1) .no [dD,bC])).au (k7 (ki m) (sc 1) .no [dD,bC]).au=true:=by
   obtain this:m=1\/m=2\/m=3\/m=4:=by exact IV hP rX
   rcases this with rfl|rfl|rfl|rfl<;>exact(fi (by kernel_rfl) (by kernel_rfl) (by kernel_rfl))
  refine jQ (C9 dF b_ hold tT.1 tT.2.1) λb1 le H yJ hs=>?_;obtain v0:b1.aj[0]? =C ch:=by exact G yJ rfl
  have run:=A2 (adO P:FC X.K=ae) Ca (oV hw) vA;refine i1 (x:=k2 (ki m)) dF le (B4 W dF le (bU (by assumption) (bA rfl)) vD vE he) H run tT.2.2 (Dt br h9) hs λbq bI aY ao a_ bW ez eA=>?_;have bJ:(pull (hF [30,28,29] 2 [] [lc w,bD]) aY).aj=[97+w,ch]:=e3 (.cons nj (.cons (b9 (a4 a_.aj v0)) .nil));have jU:=aq.turn bW (kP ez br) aU;by_cases yw:m=1
  ·(clear run H tT dF vA cb he rX hP;subst yw);exact WW P bW bJ hw bb cQ hold jU
  .refine a3 (F5 (by lia) bb) λbl hh=>?_;have m6:bP X (jt m).p bq bI _ ao env fn aP ((n:Int)+(2:Nat)) N:=bW.lj (l:=dD) rfl (AX bl) (by refine G bJ ?_;simp;exact⟨by assumption,Qw _ bl⟩);have lg:(pull (hF [30,28,29] 2 [] [lc w,bD]) aY).aj++ [97+X.after w]=[97+w,ch,97+X.after w]:=by exact G bJ rfl
   obtain this:m=2\/m=3\/m=4:=by exact Qi hP rX yw
   rcases this with rfl|rfl|rfl
   .exact WX P m6 lg hw bb cQ hold (bU (kP ez br) h9) jU
   .exact WY P m6 lg hw bb cQ hold (bU (kP ez br) h9) jU
   .exact WZ P m6 lg hw bb cQ hold (bU (kP ez br) h9) jU
end
variable{jE:aZ}
section
variable{X:gD}{c:bc}{s:aM}{bE w:Nat}
theorem Nl(P:cg X.K)(hw:w<4)(T:bP X (eB .u (sc 1) .no [dD,bC]) g c β s env fn aP at_ N)(b_:β.aj=[97+w,bE]){gC:aZ}{e_:Int}(jT:df g (pO kH) gC)(j9:gC.aj=[bE])(e5:gC.ad[1]? =C L)(aN:gC.aC[0]? =C e_)(hh:e_≠2+2*(w:Int))(gh:a0 fn (aQ [bE])=C (.ref L.1))(d_:bE∈bC)(aq:gn X g c env at_ c6 Q):
  dW g c (cF ((ea X.K).drop 3) env) Q E s:=by
 obtain lW:gC.aC.length=1:=jT.facts.aC.length.symm;refine jQ (jT.facts.aC.get (show(pO kH).au[0]? =C kH from rfl)) λz a9 bf cB I=>?_;rw[aN] at a9;(obtain J:=aT a9;clear a9;subst J);have bd:∀b:b5,b.1<=e_->e_<=b.2.1->b.2.2=none->df g (pO b) gC:=λb aa af aJ=>jT.bounds (au:=[b]) (Dc lW aN▸.cons ⟨aa,af,λj cD=>by rw[aJ] at cD;exact bM cD⟩ .nil);have bf:(2:Int)<=e_:=bf;have cB:e_<=(10:Int):=cB;have jX:w=0\/w=1\/w=2\/w=3:=by lia
 have aB:∀t:Int,t=2+2*(w:Int)->hb g.S (t,t,none) (2+2*(w:Int)):=λt ff=>⟨uC ff,uC ff.symm,λj cD=>by exact bM cD⟩;by_cases lt:e_<2+2*(w:Int)
 .rcases jX with rfl|rfl|rfl|rfl
  .lia
  .exact tb (bd:=(4,4,none)) (dE:=(2,3,none)) hw T b_ (bd _ bf (by show e_<=3;lia) rfl) j9 e5 (aB 4 rfl) gh d_ aq (aeN P) rfl (by kernel_rfl) (by kernel_rfl) (by kernel_rfl) (by kernel_rfl)
  .exact tb (bd:=(6,6,none)) (dE:=(2,5,none)) hw T b_ (bd _ bf (by show e_<=5;lia) rfl) j9 e5 (aB 6 rfl) gh d_ aq (aeP P) rfl (by kernel_rfl) (by kernel_rfl) (by kernel_rfl) (by kernel_rfl)
  .exact tb (bd:=(8,8,none)) (dE:=(2,7,none)) hw T b_ (bd _ bf (by show e_<=7;lia) rfl) j9 e5 (aB 8 rfl) gh d_ aq (aeR P) rfl (by kernel_rfl) (by kernel_rfl) (by kernel_rfl) (by kernel_rfl)
 .rcases jX with rfl|rfl|rfl|rfl
  .exact tb (bd:=(2,2,none)) (dE:=(3,10,none)) hw T b_ (bd _ (by show(3:Int)<=e_;lia) cB rfl) j9 e5 (aB 2 rfl) gh d_ aq (aeM P) rfl (by kernel_rfl) (by kernel_rfl) (by kernel_rfl) (by kernel_rfl)
  .exact tb (bd:=(4,4,none)) (dE:=(5,10,none)) hw T b_ (bd _ (by show(5:Int)<=e_;lia) cB rfl) j9 e5 (aB 4 rfl) gh d_ aq (aeO P) rfl (by kernel_rfl) (by kernel_rfl) (by kernel_rfl) (by kernel_rfl)
  .exact tb (bd:=(6,6,none)) (dE:=(7,10,none)) hw T b_ (bd _ (by show(7:Int)<=e_;lia) cB rfl) j9 e5 (aB 6 rfl) gh d_ aq (aeQ P) rfl (by kernel_rfl) (by kernel_rfl) (by kernel_rfl) (by kernel_rfl)
  .exact tb (bd:=(8,8,none)) (dE:=(9,10,none)) hw T b_ (bd _ (by show(9:Int)<=e_;lia) cB rfl) j9 e5 (aB 8 rfl) gh d_ aq (aeS P) rfl (by kernel_rfl) (by kernel_rfl) (by kernel_rfl) (by kernel_rfl)
theorem agD{l:List (aO×az)}{k:aO}(h:k∈l.map (·.1)):a0 l k≠none:=by unfold a0;rw[Ne,Kt,KL];intro q;exact aS (kY.mp h) λx ak e=>q x ak (by simp[e])
theorem Q8(T:bP X p g c β s env fn aP at_ N)(k:Nat):(∃bE,bE∈bC/\a0 aP (aQ [bE])≠none/\(aP.map (·.1))[jR zs k aP]? =C (aQ [bE])/\jR zs k aP<aP.length)\/jR zs k aP=aP.length:=by
 refine a3 (tr (a:=pk zs k) (b:=((aP.length+1:Nat):Int)) (mR.mpr (pA _))) λda dA=>?_;obtain le:jR zs k aP<=aP.length:=by unfold jR fk;exact Int.toNat_le.mpr (gk dA (uC (uq (aP.length:Int) 1)))
 by_cases lt:jR zs k aP<aP.length
 .left;have e:(aP.map (·.1))[jR zs k aP]? =C ((aP.map (·.1))[jR zs k aP]'(by simpa using lt)):=i5 _;have ne:=agD (l7 e);refine eH (T.ents _ ne) λbE aa af I=>?_;rw[af] at e ne;exact(l4 bE aa ne e lt)
 .right;exact D3 le (sk lt)
theorem rO{i:Nat}(aa:(aP.map (·.1))[i]? =C (aQ [bE]))(af:i<aP.length)(bJ:ag.val b1 cf=C [bE]):(∀k,(aP.map (·.1))[i]? =C k->ag.val b1 cf=C (cs k))/\(i=aP.length->ag.val b1 cf=C (cs "none")):=
 ⟨λk aw=>by rw[aa] at aw;(obtain J:=aT aw;clear aw;subst J);refine G bJ ?_;simp[cs,aQ],λe=>by lia⟩
theorem B2{i:Nat}(h:i=aP.length):(∀k,(aP.map (·.1))[i]? =C k->ag.val b1 (dc "none")=C (cs k))/\(i=aP.length->ag.val b1 (dc "none")=C (cs "none")):=
 ⟨λk aw=>by obtain this:=(j0.mp aw).1;rw[gB] at this;lia,λI=>CA _⟩
theorem Q9(W:Own X zs)(T:bP X p g c β s env fn aP n N)(nd:k6 p.st=ae)(l:β.le b1)(low:n<=5000)(br:g.S<=9000)(bw:off<=900)(hs:∀k∈fA,∃l,ag.val b1 k=C l/\a0 aP (aQ l)≠none)
  (bJ:(∀k,(aP.map (·.1))[jR zs (n+off+1) aP]? =C k->ag.val b1 cf=C (cs k))/\(jR zs (n+off+1) aP=aP.length->ag.val b1 cf=C (cs "none"))):fu (g.pin b1) (Df off fA cf):=by have aw:=T.k;obtain this:=T.abi nd;exact adb T.good.ok (aw▸W.draw) (aw▸W.other) (W.lists T l (bU (by assumption) (bA rfl))) bw (a4 l.ad T.jL) T.oM (bU (bU (by assumption) (by assumption)) (bA rfl)) hs bJ
theorem yE(W:Own X zs)(T:bP X p g c β s env fn aP n N)(nd:k6 p.st=ae)(l:β.le b1)(low:n<=5000)(br:g.S<=9000)(gq:fk zs (n+0+1) 5=3)(eZ:fk zs (n+1+1) 4=(w:Int))(hs:∀k∈fA,∃l,ag.val b1 k=C l/\a0 aP (aQ l)≠none)
  (bJ:(∀k,(aP.map (·.1))[jR zs (n+2+1) aP]? =C k->ag.val b1 cf=C (cs k))/\(jR zs (n+2+1) aP=aP.length->ag.val b1 cf=C (cs "none"))):fu (g.pin b1) (ql w fA cf):=by
 obtain aw:=T.k;refine(Q9 W T nd l low br (bA rfl) hs bJ).or (vi T.good.ok (aw▸W.draw) (W.lists T l (bU (by assumption) (bA rfl))) λx ak=>?_);rcases dg.mp ak with rfl|ak
 .exact(fi (l5 _) (show(0:Int)<5 by exact aR rfl) gq)
 .obtain rfl:=eu.mp ak;exact(fi (show 1<=900 by exact aR rfl) (show(0:Int)<4 by exact aR rfl) eZ)
theorem tJ(W:Own X zs)(T:bP X p g c β s env fn aP n N)(nd:k6 p.st=ae)(l:β.le b1)(low:n<=5000)(br:g.S<=9000)(gq:fk zs (n+0+1) 5=4)(hs:∀k∈fA,∃l,ag.val b1 k=C l/\a0 aP (aQ l)≠none)
  (bJ:(∀k,(aP.map (·.1))[jR zs (n+1+1) aP]? =C k->ag.val b1 cf=C (cs k))/\(jR zs (n+1+1) aP=aP.length->ag.val b1 cf=C (cs "none"))):fu (g.pin b1) (tI fA cf):=by obtain aw:=T.k;refine(Q9 W T nd l low br (bA rfl) hs bJ).or (vi T.good.ok (aw▸W.draw) (W.lists T l (bU (by assumption) (bA rfl))) λx ak=>?_);obtain rfl:=eu.mp ak;exact(fi (l5 _) (show(0:Int)<5 by exact aR rfl) gq)
noncomputable def AV:b4:=⟨[fix (.tup [aC 0,.u,.u])],[uj],[],0,[]⟩
theorem JX(bt:df g AV ax)(h:ax.aC[0]? =C z):df g (jI z) ax:=bt.bounds (au:=[(z,z,none)]) (Dc bt.facts.aC.length.symm h▸.cons ⟨xb _,xb _,λj cD=>by exact bM cD⟩ .nil)
structure EY(X:gD)(g:cy)(c:bc)(β b1:aZ)(s:aM)(x:kx)(fM:List (ag×Nat))(aP:List (aO×az))(z:Option Int):Prop where
 le:β.le b1
 sat:Sat g c x.st b1 s
 aj:b1.aj=β.aj
 fM:∀x:ag×Nat,x∈fM->∃c L,x.1.val b1=C [c]/\b1.ad[x.2]? =C L/\a0 aP (aQ [c])=C (.ref L.1)
 z:b1.aC[6]? =z
theorem CU{u:b4}{iu:List ag}(T:bP X (fy dY ([bC,bC]++aE)) g c β s env fn aP at_ N)(v0:β.aj[0]? =C ch)(v1:β.aj[1]? =C bE)(hH:JoinOk g β ([],iu,u) ax)(l:ax.ad[0]? =C L)(c4:a0 aP (aQ [bE])=C (.ref L.1))(e1:a0 aP (aQ [ch])=none)
  (cD:(hu (fy dY ([bC,bC]++aE)).st [] iu u).isSome=ae)(hf:k6 ((m_ (iu,u) aE).jy.foldl hO (m_ (iu,u) aE).p.st)=ae):EY X g c β (β.app 0 ax) s (m_ (iu,u) aE) [(bu,27)] aP ax.aC[0]? :=by have F:=Fits.of T.sat.toSatO;obtain len:β.ad.length=27:=F.ad;obtain mz:β.aC.length=6:=F.aC;obtain dk:=fq T.cp T.sat (j:=([],iu,u)) hH cD;have le:β.le (β.app 0 ax):=aZ.eb;have kb:(β.app 0 ax).ad[27]? =C L:=eY (j:=0) len rfl l;refine⟨le,ov (x:=m_ (iu,u) aE) T le dk hf (i0 (b9 v1) kb c4 (all_cons (bP.g8 v0 e1) all_nil)),rfl,λx ak=>?_,u7 (j:=0) mz rfl rfl⟩;obtain rfl:=eu.mp ak;exact(d1 bE L (b9 v1) kb c4)
theorem Q4{u:b4}{iu:List ag}(T:bP X (fy dY [bC,bC]) g c β s env fn aP at_ N)(v0:β.aj[0]? =C ch)(v1:β.aj[1]? =C bE)(hh:bE≠ch)(hH:JoinOk g β ([],iu,u) ax)(cx:u.os.length=1)(l:ax.ad[0]? =C L)(c4:a0 aP (aQ [bE])=C (.ref L.1))(hold:a0 aP (aQ [ch])≠none)
  (cD:(hu (fy dY [bC,bC]).st [] iu u).isSome=ae)(HA:(hu (hO (fy dY [bC,bC]).st ([],iu,u)) [] [] j5).isSome=ae)(hf:k6 ((oL (iu,u)).jy.foldl hO (oL (iu,u)).p.st)=ae):∃b1,EY X g c β b1 s (oL (iu,u)) [(bu,27),(bD,28)] aP b1.aC[6]? :=by
 refine ig ((lZ T hold).nE T.aB) λjE mZ ot tf lk SF=>?_;obtain F:=Fits.of T.sat.toSatO;have len:β.ad.length=27:=F.ad;obtain dk:=fq T.cp T.sat (j:=([],iu,u)) hH cD;obtain ho:=fq T.cp dk (j:=([],[],j5)) (o4 ot rfl tf) HA;obtain hv:β.le (β.app 0 ax):=aZ.eb;have fC:(β.app 0 ax).le ((β.app 0 ax).app 0 jE):=aZ.eb;have le:=hv.trans fC;have kb:(β.app 0 ax).ad[27]? =C L:=eY (j:=0) len rfl l;obtain jO:(β.app 0 ax).ad.length=28:=kz len hH.bt (by show 28=27+(u.os.length-0);exact G cx rfl);have O9:((β.app 0 ax).app 0 jE).ad[28]? =C mZ:=eY (j:=0) jO rfl lk;refine⟨_,le,ov (x:=oL (iu,u)) T le ho hf (pq (b9 v1) (a4 fC.ad kb) c4 (b9 v0) O9 SF (by simpa using hh) all_nil),rfl,λx ak=>?_,rfl⟩;rcases dg.mp ak with rfl|ak
 .exact(d1 bE L (b9 v1) (a4 fC.ad kb) c4)
 .obtain rfl:=eu.mp ak;exact(d1 ch mZ (b9 v0) O9 SF)
theorem afk(T:bP X (fy dY [bC]) g c β s env fn aP at_ N)(v0:β.aj[0]? =C ch)(bt:df g (jI z) ax)(dH:ax.aj=[])(l:ax.ad[0]? =C L)(c4:a0 aP (aQ [ch])=C (.ref L.1))
  (cD:(hu (fy dY [bC]).st [] [] (jI z)).isSome=ae)(hf:k6 ((rv z).jy.foldl hO (rv z).p.st)=ae):EY X g c β (β.app 0 ax) s (rv z) [(bD,27)] aP ax.aC[0]? :=by have F:=Fits.of T.sat.toSatO;obtain len:β.ad.length=27:=F.ad;obtain mz:β.aC.length=6:=F.aC;obtain dk:=fq T.cp T.sat (j:=([],[],jI z)) (o4 bt rfl dH) cD;have le:β.le (β.app 0 ax):=aZ.eb;have kb:(β.app 0 ax).ad[27]? =C L:=eY (j:=0) len rfl l;refine⟨le,ov (x:=rv z) T le dk hf (i0 (b9 v0) kb c4 all_nil),rfl,λx ak=>?_,u7 (j:=0) mz rfl rfl⟩;obtain rfl:=eu.mp ak;exact(d1 ch L (b9 v0) kb c4)
end
section
variable{X:gD}{c:bc}{s:aM}{bE w:Nat}
theorem OY(W:Own X zs)(T:bP X p g c β s env fn aP n N)(l:β.le b1)(low:n<=5000)(gq:fk zs (n+0+1) 5=2):fu (g.pin b1) HN:=by obtain aw:=T.k;refine vi T.good.ok (aw▸W.draw) (W.lists T l (bU (by assumption) (bA rfl))) λx ak=>?_;obtain rfl:=eu.mp ak;exact(fi (l5 _) (show(0:Int)<5 by exact aR rfl) gq)
theorem AR(T:bP X p g c β s env fn aP at_ N):∃l,ag.val b1 (dc "none")=C l/\a0 aP (aQ l)=none:=by
 refine(bh _ (CA _) ?_);generalize q:a0 aP (aQ (cs (bO "none")))=aD;induction aD using b3 with
 |none=>rfl
 |some v=>
  refine eH (T.ents (aQ (cs (bO "none"))) (by refine G q ?_;simp)) λch I h I=>?_;obtain this:=oh h;obtain e:cs (bO "none")=[110,111,110,101]:=by kernel_rfl
  rw[e] at this;simp at this
theorem agQ(P:cg X.K)(W:Own X zs)(T:bP X (fy dY [bC]) g c β s env fn aP n N)(b_:β.aj=[ch])(cQ:ch∈bC)(br:g.S+2*dR<=hI)(h9:hI<=9000)(low:n<=5000)(aU:(n:Int)+1<=j7)(aq:rk X env hI j7 Q)(gq:fk zs (n+0+1) 5=2):dW g c (cF ((ea X.K).drop 1) env) Q E s:=by
 have v0:β.aj[0]? =C ch:=by exact G b_ rfl
 have yr:dR=60:=rfl;generalize aw:a0 aP (aQ [ch])=aD;induction aD using b3 with
 |none=>obtain H:=ov (x:=p3 dY) T (.refl _) T.sat (by rfl) (fs (all_cons (bP.g8 v0 aw) all_nil));refine i1 (x:=p3 dY) T (.refl _) (OY W T (.refl _) low gq) H (ad1 P:FQ X.K=ae) (by kernel_rfl) (by lia) (λx ak=>(nomatch ak)) λbq bI aY ao a_ bW ez eA=>?_;obtain jU:=aq.turn bW (by lia) aU;exact Xb P bW (e3 (.cons (b9 (a4 a_.aj v0)) .nil)) (kO (e:=.lit (-1)) rfl rfl) cQ aw (by lia) jU bW.hJ
 |some v=>
  have hold:a0 aP (aQ [ch])≠none:=by refine G aw ?_;simp
  refine jQ (C9 T b_ hold (by kernel_rfl) (by kernel_rfl)) λb1 le H yJ hs=>?_;obtain v0:b1.aj[0]? =C ch:=by exact G yJ rfl
  refine i1 (x:=k2 dY) T le (OY W T le low gq) H (ad0 P:FP X.K=ae) (by kernel_rfl) (by lia) hs λbq bI aY ao a_ bW ez eA=>?_;obtain jU:=aq.turn bW (by lia) aU;exact Xa P bW (e3 (.cons (b9 (a4 a_.aj v0)) .nil)) cQ hold jU
theorem key_ne(aa:a0 aP (aQ [bE])≠none)(af:a0 aP (aQ [ch])=none):bE≠ch:=λe=>aa (e▸af)
theorem agO(P:cg X.K)(W:Own X zs)(T:bP X (fy dY [bC]) g c β s env fn aP n N)(b_:β.aj=[ch])(cQ:ch∈bC)(br:g.S+2*dR<=hI)(h9:hI<=9000)(low:n<=5000)(aU:(n:Int)+2<=j7)(aq:rk X env hI j7 Q)(gq:fk zs (n+0+1) 5=4):dW g c (cF ((ea X.K).drop 1) env) Q E s:=by
 have v0:β.aj[0]? =C ch:=by exact G b_ rfl
 have yr:dR=60:=rfl;rcases Q8 (zs:=zs) T (n+1+1) with⟨bE,d_,bw,bN,lt⟩|yB
 case inr=>
  generalize aw:a0 aP (aQ [ch])=aD;induction aD using b3 with
  |none=>obtain H:=ov (x:=va) T (.refl _) T.sat (by rfl) (fs (all_cons (bP.g8 v0 aw) (all_cons (AR T) all_nil)));exact i1 (x:=va) T (.refl _) (tJ W T rfl (.refl _) low (by lia) gq (fA:=[]) (λk aw=>(nomatch aw)) (B2 yB)) H (adM P:Fz X.K=ae) (by kernel_rfl) (by lia) (λx ak=>(nomatch ak)) λbq bI aY ao a_ bW ez eA=>Nj P bW (aq.turn bW (by lia) aU)
  |some v=>
   have hold:a0 aP (aQ [ch])≠none:=by refine G aw ?_;simp
   refine ig ((lZ T hold).nE T.aB) λax L bt dH l c4=>?_;obtain F:=Fits.of T.sat.toSatO;obtain len:β.ad.length=27:=F.ad;obtain dk:=fq T.cp T.sat (j:=([],[],j5)) (o4 bt rfl dH) (by kernel_rfl);have le:β.le (β.app 0 ax):=aZ.eb;have kb:(β.app 0 ax).ad[27]? =C L:=eY (j:=0) len rfl l;obtain H:=ov (x:=vb) T le dk (by kernel_rfl) (i0 (b9 v0) kb c4 (all_cons (AR T) all_nil));exact i1 (x:=vb) T le (tJ W T rfl le low (by lia) gq (fA:=[bD]) (λk aw=>by obtain rfl:=eu.mp aw;exact(bh [ch] (b9 v0) hold)) (B2 yB)) H (adN P:FA X.K=ae) (by kernel_rfl) (by lia) (λx ak=>by obtain rfl:=eu.mp ak;exact(d1 ch L (b9 v0) kb c4)) λbq bI aY ao a_ bW ez eA=>Nj P bW (aq.turn bW (by lia) aU)
 by_cases tL:bE=ch
 ·(clear v0 cQ;subst tL);refine jQ (C9 T b_ bw (by kernel_rfl) (by kernel_rfl)) λb1 le H yJ hs=>?_;have v0:b1.aj[0]? =C bE:=by exact G yJ rfl
  exact i1 (x:=k2 dY) T le (tJ W T rfl le low (by lia) gq (fA:=[bD]) (cf:=bD) (λk aw=>by obtain rfl:=eu.mp aw;exact(bh [bE] (b9 v0) bw)) (rO bN lt (b9 v0))) H (adK P:Fx X.K=ae) (by kernel_rfl) (by lia) hs λbq bI aY ao a_ bW ez eA=>WS P bW (e3 (.cons (b9 (a4 a_.aj v0)) .nil)) d_ bw (aq.turn bW (by lia) aU)
 have dF:bP X (fy dY [bC,bC]) g c {β with aj:=β.aj++ [bE]} s env fn aP n N:=T.lj (l:=bC) rfl d_ (by refine G b_ ?_;simpa using tL);have lB:({β with aj:=β.aj++ [bE]}:aZ).aj[0]? =C ch:=by show(β.aj++ [bE])[0]? =_;exact G b_ rfl
 have lC:({β with aj:=β.aj++ [bE]}:aZ).aj[1]? =C bE:=by show(β.aj++ [bE])[1]? =_;exact G b_ rfl
 generalize({β with aj:=β.aj++ [bE]}:aZ)=c_ at dF lB lC;clear T b_ v0;generalize aw:a0 aP (aQ [ch])=aD;induction aD using b3 with
 |some v=>
  have hold:a0 aP (aQ [ch])≠none:=by refine G aw ?_;simp
  refine ig ((lZ dF bw).nE dF.aB) λax L bt dH l c4=>bG (Q4 (u:=j5) (iu:=[]) dF lB lC tL (o4 bt rfl dH) rfl l c4 hold (by kernel_rfl) (by kernel_rfl) (by kernel_rfl)) λb1 Z=>?_;have jW:b1.aj[0]? =C ch:=by exact G Z.aj lB
  have bY:b1.aj[1]? =C bE:=by exact G Z.aj lC
  exact i1 (x:=oL ([],j5)) dF Z.le (tJ W dF rfl Z.le low (by lia) gq (fA:=[bu,bD]) (cf:=bu) (λk aw=>by
   rcases dg.mp aw with rfl|aw
   .exact(bh [bE] (b9 bY) bw)
   .obtain rfl:=eu.mp aw;exact(bh [ch] (b9 jW) hold)) (rO bN lt (b9 bY))) Z.sat (adJ P:Fw X.K=ae) (by kernel_rfl) (by lia) Z.fM λbq bI aY ao a_ bW ez eA=>WR P bW (e3 (.cons (b9 (a4 a_.aj bY)) (.cons (b9 (a4 a_.aj jW)) .nil))) d_ cQ bw hold (aq.turn bW (by lia) aU)
 |none=>
  have HC:∀b1:aZ,b1.aj[1]? =C bE->∀k∈ [bu],∃l,ag.val b1 k=C l/\a0 aP (aQ l)≠none:=λb1 bY k aw=>by obtain rfl:=eu.mp aw;exact(bh [bE] (b9 bY) bw)
  cases lZ dF bw with
  |A ax L i8 bt aj r f l t dJ d7 c4=>have Z:=CU (aE:=[]) (iu:=[]) dF lB lC (o4 (bt.pick (cq:=uY 1) (ah:=⟨[3],[.aL 0 ai 0],[],[]⟩) (by kernel_rfl) (aR rfl) (by kernel_rfl) dF.aB).1 rfl rfl) (dz rfl t) c4 aw (by kernel_rfl) (by kernel_rfl);obtain jW:=(congrArg (·[0]?) Z.aj).trans lB;have bY:=(congrArg (·[1]?) Z.aj).trans lC;obtain z9:=Z.z.trans (ir (i:=0) rfl dJ);exact i1 dF Z.le (tJ W dF rfl Z.le low (by lia) gq (fA:=[bu]) (cf:=bu) (HC _ bY) (rO bN lt (b9 bY))) Z.sat (eX.mp (Rv P:A6 X.K=ae) 1 (aR rfl)) (by kernel_rfl) (by lia) Z.fM λbq bI aY ao a_ bW ez eA=>WT P bW (e3 (.cons (b9 (a4 a_.aj bY)) (.cons (b9 (a4 a_.aj jW)) .nil))) (bt.k9 eA (by kernel_rfl)) aj r f l d7 c4 (ir (v:=6) rfl (a4 a_.aC z9)) d_ cQ aw (by lia) (aq.turn bW (by lia) aU) bW.hJ
  |B m w hm hw ax L i8 bt aj r f ge l t dJ e_ d7 c4=>
   obtain all:df g (uY m) (pull ⟨[4],[.aL 0 ai 0],[],[]⟩ ax)/\(hu (fy dY ([bC,bC]++ [])).st [] [] (uY m)).isSome=ae/\k6 ((m_ ([],uY m) []).jy.foldl hO (m_ ([],uY m) []).p.st)=ae/\lT 10000 (px (lQ (sc 1) (sc 0) (.tup m ey) [bC,bC])).au (lQ (sc 1) (sc 0) (.tup m ey) [bC,bC]).au=ae/\m∈vX:=by
    (refine a3 hm λaa af=>?_;try clear hm);rcases m with _|_|_|_|_|m
    .exact absurd (by assumption) (qR _)
    all_goals first|exact(DK ((bt.pick (by kernel_rfl) (aR rfl) (by kernel_rfl) dF.aB).1) (by kernel_rfl) (by kernel_rfl) (by kernel_rfl) (aR rfl))|lia
   (refine acS all λJl cD hf ng vA=>?_;try clear all);have Z:=CU (aE:=[]) (iu:=[]) dF lB lC (o4 Jl rfl rfl) (dz rfl t) c4 aw cD hf;obtain jW:=(congrArg (·[0]?) Z.aj).trans lB;have bY:=(congrArg (·[1]?) Z.aj).trans lC;obtain z9:=Z.z.trans (ir (i:=0) rfl dJ);exact i1 dF Z.le (tJ W dF rfl Z.le low (by lia) gq (fA:=[bu]) (cf:=bu) (HC _ bY) (rO bN lt (b9 bY))) Z.sat (eX.mp (Rv P:A6 X.K=ae) m vA) ng (by lia) Z.fM λbq bI aY ao a_ bW ez eA=>WU P hm hw bW (e3 (.cons (b9 (a4 a_.aj bY)) (.cons (b9 (a4 a_.aj jW)) .nil))) (bt.k9 eA (wt hm)) aj r f ge l e_ d7 c4 (ir (v:=6) rfl (a4 a_.aC z9)) d_ cQ aw (by lia) (aq.turn bW (by lia) aU) bW.hJ
  |U iU w ax L i8 gP bt aj r f l t P9 dJ hw e_ d7 c4 nH kk=>
   refine eH (dF.ents _ kk) λah7 B3 cq I=>?_;obtain this:=oh cq;simp at this;(clear cq;subst this);obtain e9:bE≠iU:=by obtain e9:=bt.facts.cd;rw[aj] at e9;simpa using e9
   obtain pd:iU≠ch:=key_ne kk aw;have aX:c_.aj.length=2:=dF.sat.facts.aj.length.symm;have rq:bP X (fy dY ([bC,bC]++ [bC])) g c {c_ with aj:=c_.aj++ [iU]} s env fn aP n N:=dF.lj (l:=bC) rfl B3 (by refine G (agq aX lB lC) ?_;simp;exact⟨pd,λe=>e9 e.symm⟩)
   have nE:(c_.aj++ [iU])[0]? =C ch:=by refine G (wU (by lia)) ?_;exact lB
   have ji:(c_.aj++ [iU])[1]? =C bE:=by refine G (wU (eP (bV (by assumption)))) ?_;exact lC
   have jV:(c_.aj++ [iU])[2]? =C iU:=by(refine G (pH (eP (by assumption))) ?_;refine G aX ?_);rfl
   obtain Jl:=(bt.pick (cq:=L1) (ah:=⟨[4],[.aL 0 ai 0],[bu],[]⟩) (by kernel_rfl) (aR rfl) (by kernel_rfl) rq.aB).1;obtain GV:(pull ⟨[4],[.aL 0 ai 0],[bu],[]⟩ ax).aj=[iU]:=e3 (.cons (b9 (G aj rfl)) .nil);have Z:=CU (aE:=[bC]) (iu:=[c3]) rq nE ji (qt Jl rfl GV jV) (dz rfl t) c4 aw (by kernel_rfl) (by kernel_rfl);obtain jW:=(congrArg (·[0]?) Z.aj).trans nE;have bY:=(congrArg (·[1]?) Z.aj).trans ji;obtain c5:=(congrArg (·[2]?) Z.aj).trans jV;obtain z9:=Z.z.trans (ir (i:=0) rfl dJ);exact i1 rq Z.le (tJ W rq rfl Z.le low (by lia) gq (fA:=[bu]) (cf:=bu) (HC _ bY) (rO bN lt (b9 bY))) Z.sat (adL P:Fy X.K=ae) (by kernel_rfl) (by lia) Z.fM λbq bI aY ao a_ bW ez eA=>WV P hw bW (e3 (.cons (b9 (a4 a_.aj bY)) (.cons (b9 (a4 a_.aj jW)) (.cons (b9 (a4 a_.aj c5)) .nil)))) (bt.k9 eA (by kernel_rfl)) aj r f l P9 e_ d7 c4 nH kk (ir (v:=6) rfl (a4 a_.aC z9)) d_ B3 cQ aw (by lia) (aq.turn bW (by lia) aU) bW.hJ
end
section
variable{X:gD}{c:bc}{s:aM}{bE w:Nat}
structure Uk(X:gD)(g:cy)(env:hB)(fn aP:List (aO×az))(N:Int)(bE:Nat)(uN:aZ)(L:aF×aF)(z:Int):Prop where
 bt:df g (jI z) uN
 aj:uN.aj=[]
 l:uN.ad[0]? =C L
 c4:a0 aP (aQ [bE])=C (.ref L.1)
 z_:z∈qM
 own:∀w:Nat,w<4->z=(w:Int)->∃m ax xq,(1<=m/\m<=4)/\df g (gO m) ax/\ax.aj=[bE]/\ax.ad[2]? =C (X.ga w)/\ax.ad[3]? =C xq/\a0 fn (aQ [bE])=C (.ref xq.1)
 not:∀w:Nat,w<4->z≠(w:Int)->∀bq bI av ao a(Q:fH->aM->Prop)(E:az->aM->Prop),oF g bq->bP X (eB .u (sc 1) .no [dD,bC]) bq bI av ao env fn aP a N->av.aj=[97+w,bE]->gn X bq bI env a X.c6 Q->dW bq bI (cF ((ea X.K).drop 3) env) Q E ao
theorem Q6(P:cg X.K)(T:bP X p g c β s env fn aP at_ N)(d_:bE∈bC)(bw:a0 aP (aQ [bE])≠none):∃uN L z,Uk X g env fn aP N bE uN L z:=by
 cases lZ T bw with
 |A ax L i8 bt aj r f l t dJ d7 c4=>refine(DM _ i8 (-1) ⟨JX (bt.pick (cq:=AV) (ah:=⟨[3],[.aL 0 ai 0],[],[]⟩) (by kernel_rfl) (aR rfl) (by kernel_rfl) T.aB).1 (ir rfl dJ),rfl,dz rfl t,c4,by exact aR rfl,λw hw e=>by lia,λw hw I bq bI av ao a Q E eA bW bJ aq=>?_⟩);exact W_ P hw bW bJ (bt.k9 eA (by kernel_rfl)) aj f l d7 d_ aq
 |B m f3 hm ob ax L i8 bt aj r f ge l t dJ e_ d7 c4=>
  refine(DM _ i8 (f3:Int) ⟨JX (bt.zD (cq:=AV) (ah:=⟨[4],[.aL 0 ai 0],[],[]⟩) hm T.aB (by kernel_rfl)) (ir rfl dJ),rfl,dz rfl t,c4,?_,λw hw e=>?_,λw hw hh bq bI av ao a Q E eA bW bJ aq=>?_⟩)
  .unfold qM;simp only[dg,lJ,or_false];lia
  .obtain this:f3=w:=by lia
   (clear e hw;subst this);exact(SV m ax L hm bt aj ge l d7)
  .obtain jT:=(bt.k9 eA (wt hm)).zD (cq:=pO kH) (ah:=⟨[2,3,5,6,7,8],[.aL 0 ai 1],[bD],xF⟩) hm bW.aB (by kernel_rfl);exact Nl P hw bW bJ jT (e3 (.cons (b9 (G aj rfl)) .nil)) (dz rfl l) (ir rfl e_) (by lia) d7 d_ aq
 |U iU f3 ax L i8 gP bt aj r f l t P9 dJ ob e_ d7 c4 nH kk=>refine(DM _ i8 (-1) ⟨JX (bt.pick (cq:=AV) (ah:=⟨[4],[.aL 0 ai 0],[],[]⟩) (by kernel_rfl) (aR rfl) (by kernel_rfl) T.aB).1 (ir rfl dJ),rfl,dz rfl t,c4,by exact aR rfl,λw hw e=>by lia,λw hw I bq bI av ao a Q E eA bW bJ aq=>?_⟩);obtain jT:=((bt.k9 eA (by kernel_rfl)).pick (cq:=pO kH) (ah:=⟨[2,3,5,6,7,8],[.aL 0 ai 1],[bD],xF⟩) (by kernel_rfl) (aR rfl) (by kernel_rfl) bW.aB).1;exact Nl P hw bW bJ jT (e3 (.cons (b9 (G aj rfl)) .nil)) (dz rfl l) (ir rfl e_) (by lia) d7 d_ aq
theorem Sm(h:z∈qM):((hu (fy dY [bC]).st [] [] (jI z)).isSome&&k6 ((rv z).jy.foldl hO (rv z).p.st)&&(hu (fy dY ([bC,bC]++ [])).st [] [] (jI z)).isSome&&k6 ((m_ ([],jI z) []).jy.foldl hO (m_ ([],jI z) []).p.st)&&
  (hu (hO (fy dY [bC,bC]).st ([],[],jI z)) [] [] j5).isSome&&k6 ((oL ([],jI z)).jy.foldl hO (oL ([],jI z)).p.st))=true:=by unfold qM at h;simp only[dg,lJ,or_false] at h;rcases h with rfl|rfl|rfl|rfl|rfl<;>decide+kernel
theorem Fg{f:Nat->Int->Bool}(h:(four.all λw=>qM.all λz=>match decide (z=(w:Int)) with|true=>ae|false=>f w z)=ae){w:Nat}(hw:w<4)(a8:z∈qM)(hh:z≠(w:Int)):f w z=true:=by obtain this:=eX.mp (eX.mp h w (oV hw)) z a8;rw[decide_eq_false hh] at this;exact this
theorem agP(P:cg X.K)(W:Own X zs)(T:bP X (fy dY [bC]) g c β s env fn aP n N)(b_:β.aj=[ch])(cQ:ch∈bC)(br:g.S+2*dR<=hI)(h9:hI<=9000)(low:n<=5000)(aU:(n:Int)+3<=j7)(aq:rk X env hI j7 Q)(gq:fk zs (n+0+1) 5=3){w:Nat}(hw:w<4)(eZ:fk zs (n+1+1) 4=(w:Int)):dW g c (cF ((ea X.K).drop 1) env) Q E s:=by
 have v0:β.aj[0]? =C ch:=by exact G b_ rfl
 have yr:dR=60:=rfl;rcases Q8 (zs:=zs) T (n+2+1) with⟨bE,d_,bw,bN,lt⟩|yB
 case inr=>
  generalize aw:a0 aP (aQ [ch])=aD;induction aD using b3 with
  |none=>obtain H:=ov (x:=va) T (.refl _) T.sat (by rfl) (fs (all_cons (bP.g8 v0 aw) (all_cons (AR T) all_nil)));exact i1 (x:=va) T (.refl _) (yE W T rfl (.refl _) low (by lia) gq eZ (fA:=[]) (λk aw=>(nomatch aw)) (B2 yB)) H (eX.mp (adS P:FG X.K=ae) w (oV hw)) (by kernel_rfl) (by lia) (λx ak=>(nomatch ak)) λbq bI aY ao a_ bW ez eA=>Nk P hw bW (e3 (.cons nj .nil)) (aq.turn bW (by lia) aU)
  |some v=>
   have hold:a0 aP (aQ [ch])≠none:=by refine G aw ?_;simp
   refine ig ((lZ T hold).nE T.aB) λax L bt dH l c4=>?_;obtain F:=Fits.of T.sat.toSatO;obtain len:β.ad.length=27:=F.ad;obtain dk:=fq T.cp T.sat (j:=([],[],j5)) (o4 bt rfl dH) (by kernel_rfl);have le:β.le (β.app 0 ax):=aZ.eb;have kb:(β.app 0 ax).ad[27]? =C L:=eY (j:=0) len rfl l;obtain H:=ov (x:=vb) T le dk (by kernel_rfl) (i0 (b9 v0) kb c4 (all_cons (AR T) all_nil));exact i1 (x:=vb) T le (yE W T rfl le low (by lia) gq eZ (fA:=[bD]) (λk aw=>by obtain rfl:=eu.mp aw;exact(bh [ch] (b9 v0) hold)) (B2 yB)) H (eX.mp (adT P:FH X.K=ae) w (oV hw)) (by kernel_rfl) (by lia) (λx ak=>by obtain rfl:=eu.mp ak;exact(d1 ch L (b9 v0) kb c4)) λbq bI aY ao a_ bW ez eA=>Nk P hw bW (e3 (.cons nj .nil)) (aq.turn bW (by lia) aU)
 by_cases tL:bE=ch
 ·(clear cQ b_;subst tL);refine wc (Q6 P T d_ bw) λuN L z O=>?_;obtain s9:=Sm O.z_;simp only[ew] at s9;(refine a3 s9 λJ s8=>?_;try clear s9;refine a3 J λbT s7=>?_;try clear J;refine a3 bT λcu s6=>?_;try clear bT;refine a3 cu λjC i9=>?_;try clear cu;refine a3 jC λe5 gZ=>?_;try clear jC);have Z:=afk T v0 O.bt O.aj O.l O.c4 e5 gZ;have jW:=(congrArg (·[0]?) Z.aj).trans v0;have hr:=yE W T rfl Z.le low (by lia) gq eZ (fA:=[bD]) (cf:=bD) (λk aw=>by obtain rfl:=eu.mp aw;exact(bh [bE] (b9 jW) bw)) (rO bN lt (b9 jW));by_cases a8:z=(w:Int)
  ·(clear gZ e5 i9 s6 s7 s8;subst a8);exact C7 (O.own w hw rfl) λm ax xq hm bt aj ge l d7=>i1 T Z.le hr Z.sat (eX.mp (adV P:FJ X.K=ae) w (oV hw)) (by kernel_rfl) (by lia) Z.fM λbq bI aY ao a_ bW ez eA=>W8 (i8:=L) P hm hw bW (e3 (.cons nj (.cons (b9 (a4 a_.aj jW)) .nil))) (bt.k9 eA (wt hm)) aj ge l d7 d_ (aq.turn bW (by lia) aU)
  .exact i1 T Z.le hr Z.sat (Fg (adZ P:FO X.K=ae) hw O.z_ a8) (by kernel_rfl) (by lia) Z.fM λbq bI aY ao a_ bW ez eA=>O.not w hw a8 bq bI _ ao _ Q E eA bW (e3 (.cons nj (.cons (b9 (a4 a_.aj jW)) .nil))) (aq.turn bW (by lia) aU)
 have dF:bP X (fy dY [bC,bC]) g c {β with aj:=β.aj++ [bE]} s env fn aP n N:=T.lj (l:=bC) rfl d_ (by refine G b_ ?_;simpa using tL);have lB:({β with aj:=β.aj++ [bE]}:aZ).aj[0]? =C ch:=by show(β.aj++ [bE])[0]? =_;exact G b_ rfl
 have lC:({β with aj:=β.aj++ [bE]}:aZ).aj[1]? =C bE:=by show(β.aj++ [bE])[1]? =_;exact G b_ rfl
 generalize({β with aj:=β.aj++ [bE]}:aZ)=c_ at dF lB lC;clear T b_ v0;refine wc (Q6 P dF d_ bw) λuN L z O=>?_;obtain s9:=Sm O.z_;simp only[ew] at s9;(refine a3 s9 λJ s8=>?_;try clear s9;refine a3 J λbT s7=>?_;try clear J;refine a3 bT λcu s6=>?_;try clear bT;refine a3 cu λjC i9=>?_;try clear cu;refine a3 jC λe5 gZ=>?_;try clear jC);generalize aw:a0 aP (aQ [ch])=aD;induction aD using b3 with
 |some v=>
  have hold:a0 aP (aQ [ch])≠none:=by refine G aw ?_;simp
  refine bG (Q4 (u:=jI z) (iu:=[]) dF lB lC tL (o4 O.bt rfl O.aj) rfl O.l O.c4 hold i9 s7 s8) λb1 Z=>?_;have jW:b1.aj[0]? =C ch:=by exact G Z.aj lB
  have bY:b1.aj[1]? =C bE:=by exact G Z.aj lC
  have hr:=yE W dF rfl Z.le low (by lia) gq eZ (fA:=[bu,bD]) (cf:=bu) (λk aw=>by
   rcases dg.mp aw with rfl|aw
   .exact(bh [bE] (b9 bY) bw)
   .obtain rfl:=eu.mp aw;exact(bh [ch] (b9 jW) hold)) (rO bN lt (b9 bY))
  by_cases a8:z=(w:Int)
  ·(clear gZ e5 i9 s6 s7 s8;subst a8);exact C7 (O.own w hw rfl) λm ax xq hm bt aj ge l d7=>i1 dF Z.le hr Z.sat (eX.mp (adU P:FI X.K=ae) w (oV hw)) (by kernel_rfl) (by lia) Z.fM λbq bI aY ao a_ bW ez eA=>W7 (i8:=L) P hm hw bW (e3 (.cons nj (.cons (b9 (a4 a_.aj bY)) (.cons (b9 (a4 a_.aj jW)) .nil)))) (bt.k9 eA (wt hm)) aj ge l d7 d_ cQ hold (aq.turn bW (by lia) aU)
  .exact i1 dF Z.le hr Z.sat (Fg (adY P:FN X.K=ae) hw O.z_ a8) (by kernel_rfl) (by lia) Z.fM λbq bI aY ao a_ bW ez eA=>O.not w hw a8 bq bI _ ao _ Q E eA bW (e3 (.cons nj (.cons (b9 (a4 a_.aj bY)) .nil))) (aq.turn bW (by lia) aU)
 |none=>
  have Z:=CU (aE:=[]) (iu:=[]) dF lB lC (o4 O.bt rfl O.aj) O.l O.c4 aw i9 s6;obtain jW:=(congrArg (·[0]?) Z.aj).trans lB;have bY:=(congrArg (·[1]?) Z.aj).trans lC;have hr:=yE W dF rfl Z.le low (by lia) gq eZ (fA:=[bu]) (cf:=bu) (λk aw=>by obtain rfl:=eu.mp aw;exact(bh [bE] (b9 bY) bw)) (rO bN lt (b9 bY));by_cases a8:z=(w:Int)
  ·(clear gZ e5 i9 s6 s7 s8;subst a8);exact C7 (O.own w hw rfl) λm ax xq hm bt aj ge l d7=>i1 dF Z.le hr Z.sat (eX.mp (adW P:FK X.K=ae) w (oV hw)) (by kernel_rfl) (by lia) Z.fM λbq bI aY ao a_ bW ez eA=>W9 P hm hw bW (e3 (.cons nj (.cons (b9 (a4 a_.aj bY)) (.cons (b9 (a4 a_.aj jW)) .nil)))) (bt.k9 eA (wt hm)) aj ge l d7 O.c4 (kO (e:=.lit (-1)) rfl rfl) d_ cQ aw (by lia) (aq.turn bW (by lia) aU) bW.hJ
  .exact i1 dF Z.le hr Z.sat (Fg (adX P:FL X.K=ae) hw O.z_ a8) (by kernel_rfl) (by lia) Z.fM λbq bI aY ao a_ bW ez eA=>O.not w hw a8 bq bI _ ao _ Q E eA bW (e3 (.cons nj (.cons (b9 (a4 a_.aj bY)) .nil))) (aq.turn bW (by lia) aU)
end
section
variable{X:gD}{c:bc}{s:aM}{bE w:Nat}
theorem bP.step(T:bP X p g c β s env fn aP at_ N)(l:β.le av)(S:Sat g c dI.st av ao):bP X dI g c av ao env fn aP at_ N:=
 {T with env:=T.env.le l,sat:=S,cA:=a4 l.ad T.cA,el:=a4 l.ad T.el,gE:=a4 l.ad T.gE,jL:=a4 l.ad T.jL,j8:=a4 l.ad T.j8,k0:=a4 l.ad T.k0,k1:=a4 l.ad T.k1,room:=a4 l.aC T.room,od:=a4 l.aC T.od,ee:=a4 l.aC T.ee,hJ:=a4 l.ad T.hJ}
theorem NH(zs:List Int)(k:Nat):fk zs k 5=0\/fk zs k 5=1\/fk zs k 5=2\/fk zs k 5=3\/fk zs k 5=4:=by refine a3 (tr (a:=pk zs k) (b:=5) (aR rfl)) λda dA=>?_;unfold fk;exact abQ da dA
theorem Xo(zs:List Int)(k:Nat):∃w:Nat,w<4/\fk zs k 4=(w:Int):=by exact a3 (tr (a:=pk zs k) (b:=4) (aR rfl)) λda dA=>(bh ((fk zs k 4).toNat) (by unfold fk;exact(Lg da).mpr (Tv dA)) (by unfold fk;exact(Af da).symm))
theorem agm(P:cg X.K)(W:Own X zs)(T:bP X (fy dY [bC]) g c β s env fn aP n N)(b_:β.aj=[ch])(cQ:ch∈bC)(br:g.S+2*dR<=hI)(h9:hI<=9000)(low:n<=5000)(aU:(n:Int)+3<=j7)(aq:rk X env hI j7 Q):dW g c (cF ((ea X.K).drop 1) env) Q E s:=by
 refine aS (Xo zs (n+1+1)) λw hw eZ=>?_;rcases NH zs (n+0+1) with gq|gq|gq|gq|gq
 .exact SN P W T b_ cQ br h9 low (Lh (by assumption)) aq (way:=0) (aR rfl) gq hw eZ
 .exact SN P W T b_ cQ br h9 low (Lh (by assumption)) aq (way:=1) (aR rfl) gq hw eZ
 .exact agQ P W T b_ cQ br h9 low (by lia) aq gq
 .exact agP P W T b_ cQ br h9 low aU aq gq hw eZ
 .exact agO P W T b_ cQ br h9 low (Lh (by assumption)) aq gq
noncomputable def Ur:b4:={fy dY [bC] with au:=tP dY}
noncomputable def LX(i:Nat):b4:={AQ i with au:=tP dY}
theorem ace{l:List Int}(h:bK (hb S) (tP dY) l)(cb:l[5]? =C z)(a8:z<=9000):bK (hb S) (vI dY) l:=by
 unfold tP at h;unfold vI;cases h with
 |cons h0 h=>cases h with
  |cons aa h=>cases h with
   |cons af h=>cases h with
    |cons aJ h=>cases h with
     |cons bl h=>cases h with
      |cons cP h=>cases h;(obtain J:=aT cb;clear cb;subst J);exact .cons h0 (.cons aa (.cons af (.cons aJ (.cons bl (.cons ⟨cP.1,by assumption,λj cD=>by exact bM cD⟩ .nil)))))
theorem ab9:∀i∈six,∀d∈BB,nameAt (i+(d/4).toNat)∈bC:=by exact aR (by kernel_rfl)
theorem agn(P:cg X.K)(W:Own X zs){i:Nat}(bN:i<6)(T:bP X (AQ i) g c β s env fn aP n N)(br:g.S+3*dR<=hI)(h9:hI<=9000)(low:n<=4000)(aU:(n:Int)+4<=j7)(aq:rk X env hI j7 Q):dW g c (cF (ea X.K) env) Q E s:=by
 have yr:dR=60:=rfl;have OU:i∈six:=by unfold six;simp only[dg,lJ,or_false];exact Qf i bN
 have ON:fk zs (n+0+1) 5∈BB:=by unfold BB;simp only[dg,lJ,or_false];exact NH zs _
 obtain aw:=T.k;obtain run:=eX.mp (eX.mp (adI P:Fv X.K=ae) i OU) _ ON;obtain f9:fu (g.pin β) (p6 [(0,5,fk zs (n+0+1) 5)]):=vi T.good.ok (aw▸W.draw) (W.lists T (.refl _) (bU (by assumption) (bA rfl))) λx ak=>by obtain rfl:=eu.mp ak;exact(fi (l5 _) (show(0:Int)<5 by exact aR rfl) rfl)
 refine G (bV (q3 1 (ea X.K))) (afv (dI:=Ur) T f9 run (by kernel_rfl) (by lia) λbq bI aY ao a_ bW ez eA=>?_);have e:((n:Int)+((1:Nat):Int))=((n+1:Nat):Int):=by push_cast;rfl
 rw[e] at bW;obtain bW:bP X (fy dY [bC]) bq bI _ ao env fn aP ((n+1:Nat):Int) N:=bW.bounds rfl (ace bW.sat.facts.aC bW.od (by push_cast;lia));exact agm P W bW (e3 (.cons (ag.eN.mpr (d1 _ [] rfl rfl (by simp))) .nil)) (ab9 i OU _ ON) (by lia) h9 (jk (by assumption) (bA rfl)) (by push_cast;assumption) aq
theorem aaR{o:cY}(W:Own X zs):Own (X.iter o) zs:=⟨W.draw,W.chain,W.other,W.mm,W.eS,W.u5⟩
theorem acd{l:List Int}(h:bK (hb S) (tP dY) l)(cb:l[5]? =C z)(a8:z<=8000):bK (hb S) H2 l/\0<=z:=by
 unfold tP at h;unfold H2;cases h with
 |cons h0 h=>cases h with
  |cons aa h=>cases h with
   |cons af h=>cases h with
    |cons aJ h=>cases h with
     |cons bl h=>cases h with
      |cons cP h=>cases h;(obtain J:=aT cb;clear cb;subst J);exact⟨.cons h0 (.cons aa (.cons af (.cons aJ (.cons bl (.cons ⟨cP.1,by assumption,λj cD=>by exact bM cD⟩ .nil))))),cP.1⟩
theorem Qd(P:cg X.K)(W:Own X zs){pos:cn}{p2:aF}(rM:X.c6=(p2,p2)){R:Result->aM->Prop}(OF:∀ao,(∀a o,X.h0.get? a=C o->ao.heap.get? a=C o)->ao.os=X.dT.os/\ao.gens=X.dT.gens->R (.ok .next) ao)
  (OG:∀ao,(∀a o,X.h0.get? a=C o->ao.heap.get? a=C o)->ao.os=X.dT.os/\ao.gens=X.dT.gens->R (.ok (.ret (.bool ae))) ao):
  ∀(left i:Nat)(g:cy)(c:bc)(β:aZ)(s:aM)(fn aP:List (aO×az))(a N:Int),bP (X.iter (ht i left)) T0 g c β s env fn aP a N->i+left<=6->g.S+180*left<=8000->a+4*left<=3000->ft g.M c.A (.forLoop (.Name "turn" pos) (.ref p2) (ea X.K) [] env) R s
 |0,i,g,c,β,s,fn,aP,a,N,T,aX,br,aU=>by
  refine jQ T.Ml λb a9 bf h6 cB=>?_;obtain a9:X.c6=(b,b):=a9;rw[rM] at a9;(refine a3 (eD a9) λJ bT=>?_;clear a9;(clear h6;subst J);clear bT);refine yd (KA (x:=i) (left:=((0:Nat):Int)) (step:=1) (T.cp.calm (aR rfl)) (show DX _ _ _ _ _ from bf) (aR rfl) λaA he=>OF _ (λb o q=>he b o (λz=>cB o (G (bV z) q)) ?_) ?_)
  .exact T.sat.keep b o (T.hk b o q)
  .obtain this:=T.sat.os;unfold m3 at this;rw[T.dT] at this;exact this
 |left+1,i,g,c,β,s,fn,aP,a,N,T,aX,br,aU=>by
  refine jQ T.Ml λb a9 bf h6 cB=>?_;obtain a9:X.c6=(b,b):=a9;have yr:dR=60:=rfl;rw[rM] at a9;(refine a3 (eD a9) λJ bT=>?_;clear a9;(clear cB h6;subst J);clear bT);refine yd (Kv (x:=i) (left:=((left+1:Nat):Int)) (step:=1) (show DX _ _ _ _ _ from bf) (mR.mpr (pA left)) λaA ia aB=>?_);obtain dS:((i:Int)+1)=((i+1:Nat):Int):=by push_cast;rfl
  obtain cE:(((left+1:Nat):Int)-1)=(left:Int):=uq (left:Int) 1;rw[dS,cE] at ia;have ia:aA.get? p2=C (ht (i+1) left):=ia;have dF:=ago (t:=s.toks+1) T rM aB.extBut ia (Ih _ _);have dF:bP (X.iter (ht (i+1) left)) T0 (g.iter (ht (i+1) left)) c β {s with heap:=aA,toks:=s.toks+1} env fn aP a N:=dF;refine zB (g:=g) (s:={s with heap:=aA,toks:=s.toks+1}) ia rfl (by exact rfl) ?_ _;refine wR ?_;obtain sn:=qI dF.good.ok dF.cp dF.env "turn" (v:=.i (.lit (i:Int))) (y:=.int i s.toks) ⟨_,_,rfl,rfl⟩ β T0.st _ (.refl _) dF.sat (X:=fW);obtain tf:jf (lax X.K) "turn" (.i (.lit (i:Int))) T0.st=.ok () (LX i).st:=by unfold jf;exact G (abD P) rfl
  unfold At at sn;rw[show(X.iter (ht (i+1) left)).K=X.K from rfl,tf] at sn;refine sn _ _ λI dB av a_ S I=>?_;have rq:bP (X.iter (ht (i+1) left)) (LX i) _ c av dB env fn aP a N:=dF.step a_ S;refine a3 (acd rq.sat.facts.aC rq.od (by lia)) λnb na=>?_;obtain E0:bP (X.iter (ht (i+1) left)) (AQ i) _ c av dB env fn aP a N:=rq.bounds rfl nb;obtain⟨n,rfl⟩:∃n:Nat,a=(n:Int):=⟨a.toNat,by exact(Af na).symm⟩;obtain ez:(g.iter (ht (i+1) left)).S=g.S:=rfl;refine agn (g:=g.iter (ht (i+1) left)) (X:=X.iter (ht (i+1) left)) P (aaR W) (i:=i) (hI:=g.S+3*dR) (j7:=n+4) (jk (gs _ _) (by assumption)) E0 (dO _) (by lia) (by lia) (xb _) ⟨λao k os=>OG ao k os,λao bq bI av eL er dp sR bW Za fo=>?_⟩;obtain this:=Qd P W (pos:=pos) rM OF OG left (i+1) bq bI av ao eL er dp sR bW (by lia) (by lia) (by lia);rw[bW.m,bW.a] at this;obtain hP:g.M=X.M:=T.m;obtain ll:c.A=X.A:=T.a;show ft g.M c.A _ _ _;(refine G hP (G ll ?_));exact this
end
end Mine.Internal.MI
end
open PySem PySem.W PySem.Calls PySem.SeqAt
open PyProof.Rows hiding wpAt wpAt_bind wpAt_stack
namespace Mine.Internal.MI
theorem Iy{K:Frag}{a:Addr}{names glob:List Str}{body:List Stmt}{fZ:Option Addr}{fd:FuncData}{gb:Array (Option Value)}{as:List Arg}{an:List (Option PySem.Expr)}{ds:List PySem.Expr}
  (h:K.lookup a=some ⟨.type "function",fZ,.func fd,gb⟩)(b6:fd.params=⟨[],as,none,[],an,none,ds⟩)(aN:as.map (·.arg)=names)(aB:fd.body=.stmts body)(bb:fd.closure=[])
  (hd:fd.defaults=.none)(gx:fd.globals=mainGlobals)(qg:fd.builtins=builtinsNs)(bL:qB fd.scope=true)(rL:codeIn K fd.code fd.qualname=true)
  (aX:(names.all λx=>fd.scope.names.lookup x==some .local)=true)(tD:(glob.all λx=>fd.scope.names.lookup x==some .globalImplicit)=true):uU K a names glob body:=
 ⟨_,fZ,fd,gb,as,an,ds,h,rfl,b6,aN,aB,bb,hd,gx,qg,bL,rL,λx ak=>beq_iff_eq.mp (List.all_eq_true.mp aX x ak),λx ak=>beq_iff_eq.mp (List.all_eq_true.mp tD x ak)⟩
theorem toN{b:Bool}(h:1<=b.toNat):b=true:=by
 cases b with
 |true=>rfl
 |false=>cases h
namespace top
def tw6354265175478039002:=True
def tw4638031748853950433:=True
def tw15599415679604346604:=True
def tw16229354452098628120:=True
def tw8053360776012057399:=True
def tw17947399496621169294:=True
def tw12920934775322673324:=True
def tw8610081157932770720:=True
def tw9982824035746488874:=True
def tw6683617145048547830:=True
def tw6152537856670660009:=True
def tw2687016629760309722:=True
def tw7292860065224790858:=True
def tw3893527089062636175:=True
def tw5905299798245073443:=True
def tw13250083712680862137:=True
def tw5636235025046151883:=True
def tw9797485885345714128:=True
def tw16848267626016032716:=True
def tw7519881159891747923:=True
def tw5544332304931718925:=True
def tw16178190418965161614:=True
def tw293006860173984195:=True
def tw6190383625232338530:=True
def tw15234048564295423756:=True
def tw18030508111123799717:=True
def tw15679651412284018862:=True
def tw15557251920333872730:=True
def tw531102750842199198:=True
def tw9065938778584937748:=True
def tw12299878135084419178:=True
def tw18135634879012935241:=True
def tw11937703304727437969:=True
def tw7043966477291049909:=True
def tw15753794317094119912:=True
def tw3308769794901785668:=True
def tw10093466370678017631:=True
def tw14793951714494839653:=True
def tw9533446662818794684:=True
def tw16981175232747542678:=True
def tw901736634645640661:=True
def tw17649988523110486195:=True
def tw11373592268067003845:=True
def tw4189233226970712963:=True
def tw9967805111562579149:=True
def tw7521451622903759745:=True
def tw14597336812715138691:=True
def tw8243581987880246871:=True
def tw10752015596969136433:=True
def tw10107259064435610531:=True
def tw10306315284314338703:=True
def tw8311029580933230845:=True
def tw6770836895588656244:=True
def tw1727239898134233346:=True
def tw2481346485213952549:=True
def tw1117349421096324284:=True
def tw11607573838827872487:=True
def tw14924962461514030883:=True
def tw6520126413370248495:=True
def tw9893359871987041760:=True
def tw9479857893462407082:=True
def tw15912819009404337458:=True
def tw17507060628226167864:=True
def tw17788036626530868738:=True
def tw16390891136788863073:=True
def tw14182106406060200385:=True
def tw5730528182233584377:=True
def tw17514165251446727031:=True
def tw902581685467152763:=True
def tw13951050518908834453:=True
def tw7996628794068628841:=True
def tw8448175637926478576:=True
def tw12496298296948693246:=True
def tw15736047074200047684:=True
def tw17132551867246142020:=True
def tw3168911750476234789:=True
def tw12972264902805271298:=True
def tw12005890611232622677:=True
def tw8723402389759341913:=True
def tw12313925263852540573:=True
def tw13138773503982215617:=True
def tw5806384103754325699:=True
def tw14790294410786311137:=True
def tw15874930252708603297:=True
def tw11083511765760425565:=True
def tw1009826747202154580:=True
def tw8336313849270550825:=True
def tw9892317528162594763:=True
def tw12353026949314946726:=True
def tw16121434229960830166:=True
def tw7395517224764241944:=True
def tw3208311976464593736:=True
def tw4579515707445137759:=True
def tw6044606855935478473:=True
def tw15641100219793448477:=True
def tw15374681821481166602:=True
def tw14559959105932003695:=True
def tw804021913286105485:=True
def tw2189171069518758961:=True
def tw12834735616119473302:=True
def tw8025003852374707274:=True
def tw64536759449928409:=True
def tw11288394967624746857:=True
def tw12135571592287409703:=True
def tw4008103822565469227:=True
def tw5497592521953649037:=True
def tw6541334901707705831:=True
def tw15113818760099460748:=True
def tw3957793391314565433:=True
def tw3692663438657348594:=True
def tw13038803098037436116:=True
def tw8932692626136063972:=True
def tw444325015793321532:=True
def tw1097778701786459229:=True
def tw18288534024213798091:=True
def tw2379587959138335560:=True
def tw1526175802071463876:=True
def tw15207732829620637784:=True
def tw2284344903473552945:=True
def tw1499091172248443998:=True
def tw2593016829881446926:=True
def tw3508756198894613973:=True
def tw7632773400021808633:=True
def tw18397570292812279416:=True
def tw16505994295777257518:=True
def tw6512549875834172538:=True
def tw5903980255886018151:=True
def tw12529883600401819270:=True
def tw15374009334226054474:=True
def tw14448459955941835930:=True
def tw15878524742104386760:=True
def tw12472576284115129512:=True
def tw977755985963484821:=True
def tw9134438612668001032:=True
def tw10604170818358073591:=True
def tw11522874152844300018:=True
def tw1379969100312980970:=True
def tw10109445551894953287:=True
def tw14197304040971271830:=True
def tw3891868426880109421:=True
def tw5453949650707585730:=True
def tw16367082410322037209:=True
def tw6973592028227460409:=True
def tw5544082958010218729:=True
def tw11982711751967405220:=True
def tw3345230484004643589:=True
def tw12536225974953037999:=True
def tw18210867101831722569:=True
def tw16886032423926026866:=True
def tw6770143847868097213:=True
def tw9761008772412333271:=True
def tw9515433772034657340:=True
def tw5346542629170322650:=True
def tw11813483874794614859:=True
def tw5501699914027756899:=True
def tw12199162167973776337:=True
def tw6874424278012024385:=True
def tw5507186441532014432:=True
def tw7649445965039788291:=True
def tw4686419645832806055:=True
def tw5969473028119636328:=True
def tw5776049528508603358:=True
def tw7532632417700422303:=True
def tw4074609189277387123:=True
def tw18128782497123585175:=True
def tw9344131271486587410:=True
def tw14791575095772558110:=True
def tw5152557915744160752:=True
def tw18349109953950532895:=True
def tw13205014789725024138:=True
def tw5557928114939824371:=True
def tw11601632165744614782:=True
def tw4841889121196047001:=True
def tw5553210519682524966:=True
def tw11983966752690193019:=True
def tw1612041303899540354:=True
def tw12367088798083642720:=True
def tw2522301788564672596:=True
def tw12759327108282382685:=True
def tw14497401897856595083:=True
def tw7975773607638088666:=True
def tw13765376549004389621:=True
def tw11334394620560328630:=True
def tw7122030647947396544:=True
def tw10813126575723246196:=True
def tw11075880919377188910:=True
def tw16626148026697817914:=True
def tw15341159989680653326:=True
def tw8188711210819612421:=True
def tw2430907727968473526:=True
def tw18443157523644189698:=True
def tw6854024421995775639:=True
def tw15154618732273184115:=True
def tw16533746603330394672:=True
def tw17290492582813623409:=True
def tw13025090084303929004:=True
def tw1839233636173427645:=True
def tw9332564777056703480:=True
def tw9950626968558765523:=True
def tw5440663164287053068:=True
def tw16980145057783995205:=True
def tw17828843226870697073:=True
def tw9193399569401604304:=True
def tw15917400010546207950:=True
def tw17345813802770184304:=True
def tw9384674792393451269:=True
def tw17515333718056546874:=True
def tw11082554581353565863:=True
def tw14593666176606708926:=True
def tw16626632764137889389:=True
def tw6985803974208581735:=True
def tw16252878608636439462:=True
def tw4946718671314783247:=True
def tw6431791000201205800:=True
def tw14879685749279245140:=True
def tw17996237309484588718:=True
def tw1999638518772437805:=True
def tw3568878485382782000:=True
def tw11041861385508247829:=True
def tw2364186343568690312:=True
def tw12607887017501012513:=True
def tw14737412396457751433:=True
def tw3144562503327144908:=True
def tw4723523393708383355:=True
def tw9697610186789175658:=True
def tw1895459700071672530:=True
def tw12309614082963137970:=True
def tw5560218118408845348:=True
def tw531710845543638429:=True
def tw18192168001691381772:=True
def tw3642211377091058970:=True
def tw430108149552162293:=True
def tw314789125428932131:=True
def tw17362364380548753306:=True
def tw18431890188663862993:=True
def tw8486524174238020873:=True
def tw8302261605296961364:=True
def tw4195966011265532591:=True
def tw3791594956164079734:=True
def tw8063904918350180358:=True
def tw1115295946447243030:=True
def tw17558300061489453253:=True
def tw16638272638474945009:=True
def tw2421333528835863575:=True
def tw11993594657966004122:=True
def tw17373642844459012038:=True
def tw14342594827721043463:=True
def tw12081884592770916070:=True
def tw10289834219328770952:=True
def tw17218573129645311552:=True
def tw11522819634617913441:=True
def tw5148853475253706873:=True
def tw9124860196147733974:=True
def tw287519782717327867:=True
def tw5962025636269287596:=True
def tw9019798995144230505:=True
def tw15073448337499896677:=True
def tw6046187160050524391:=True
def tw8849403064104081974:=True
def tw15578246757619265265:=True
def tw9932652038483431130:=True
def tw5184344842235076884:=True
def tw10660556841271213458:=True
def tw1170295983093806027:=True
def tw8495535971340973505:=True
def tw16410903976547943035:=True
def tw3159530722445988944:=True
def tw4670762102837576466:=True
def tw17171653805439268816:=True
def tw9794626455992955726:=True
def tw16533225045648306580:=True
def tw3376913927464499175:=True
def tw1969626571421885755:=True
def tw4128585929553051014:=True
def tw14156629084192853230:=True
def tw11512841863781435570:=True
def tw9555073596043175451:=True
def tw16840461871553899506:=True
def tw2888782120494905949:=True
def tw5712945476692880365:=True
def tw10753968979081288673:=True
def tw7232264878816159440:=True
def tw396135043536359051:=True
def tw7987817849012241677:=True
def tw6372324740748294454:=True
def tw15261335417468730373:=True
def tw15057280292387744627:=True
def tw17234926966883362148:=True
def tw13529702333937563129:=True
def tw10574776301096635378:=True
def tw11839792087097636575:=True
def tw7546722050328192708:=True
def tw12193007431550222360:=True
def tw13343754653644397745:=True
def tw2173852861818206174:=True
def tw5693891097510998450:=True
def tw9860274737780744050:=True
def tw2163153975427344523:=True
def tw13129695812622596073:=True
def tw14525661613950525453:=True
def tw1508480821824317253:=True
def tw11138311348813468775:=True
def tw5489629461459318312:=True
def tw14855541647494457536:=True
def tw11034984952972882715:=True
def tw10526593106609400182:=True
def tw9361782571386717152:=True
def tw15436328347597330117:=True
def tw5307225952738212707:=True
def tw17642438950908773317:=True
def tw7221313403563575017:=True
def tw15946472936362090985:=True
def tw6548522601563453456:=True
def tw11909790927548979193:=True
def tw15342044146992461895:=True
def tw6799386465448097598:=True
def tw3329816042575624597:=True
def tw13182189167886964044:=True
def tw18264275153550429968:=True
def tw15328801140844642800:=True
def tw14442095758017409757:=True
def tw8358672793536899632:=True
def tw18442952787415873082:=True
def tw14337920418736304432:=True
def tw9986851065711941680:=True
def tw236027043800429001:=True
def tw10736534458382737618:=True
def tw14182060494325339652:=True
def tw9800917922703115122:=True
def tw8920324039191106273:=True
def tw11919011394736536508:=True
def tw13694302585497922108:=True
def tw8358998923001967735:=True
def tw9058258883165736012:=True
def tw1660317943969035640:=True
def tw12771801961532028618:=True
def tw3045031063261810602:=True
def tw9619665040913681184:=True
def tw7719029757800789867:=True
def tw18217251883719072862:=True
def tw17646377534049337921:=True
def tw10636914193005615376:=True
def tw7505932449636356042:=True
def tw4081171728157798614:=True
def tw15651659204973465271:=True
def tw13260095947738692574:=True
def tw14682500571761235870:=True
def tw11473072716136404555:=True
def tw9195833232260958015:=True
def tw8810636904471203984:=True
def tw9298915142797913163:=True
def tw16215033811658101474:=True
def tw1616604716108011765:=True
def tw11316312822172085787:=True
def tw18424864276936992357:=True
def tw15132768080946435613:=True
def tw17330745275185360572:=True
def tw12958016065702499696:=True
def tw9310714202878155935:=True
def tw5602366146655578261:=True
def tw8982598150175711181:=True
def tw8877529585768420400:=True
def tw17836010938455782546:=True
def tw12422378619986213072:=True
def tw16828408447249040287:=True
def tw3524302569896334759:=True
def tw10195662262665395897:=True
def tw6910028111533761405:=True
def tw4141192509414612351:=True
def tw15577024692797966557:=True
def tw15923391951843048398:=True
def tw8867495794080299899:=True
def tw14271531043560818176:=True
def tw6795225667731869822:=True
def tw6225206689422761478:=True
def tw5954235425640822436:=True
def tw3276813022976585888:=True
def tw17827303125804796800:=True
def tw17545760224016193710:=True
def tw16901276858541132143:=True
def tw15324198527314841639:=True
def tw15080024674972573632:=True
def tw13979770832936919626:=True
def tw13208851870168889859:=True
def tw10486212053389934502:=True
def tw9420419983127754383:=True
def tw940407055169773245:=True
def tw8641700035454580116:=True
def tw6827915713101775543:=True
def tw6557240336732442772:=True
def tw5824753723181187174:=True
def tw5454608823248069908:=True
def tw4769240247227475714:=True
def tw1901613184984001697:=True
def tw16716781742637940833:=True
def tw15898898374066525284:=True
def tw14488005646850394533:=True
def tw13807941525273358490:=True
def tw12969570112794262446:=True
def tw10771647358333295730:=True
def tw5542791274000867579:=True
def tw202563646365114547:=True
def tw15748766309801879811:=True
def tw5196002554994538899:=True
def tw16235548839692000868:=True
def tw10237767179931227713:=True
def tw14725297745681941050:=True
def tw10160297676123054392:=True
def tw14574903222795159659:=True
def tw11279381440157386135:=True
def tw1240372609243420556:=True
def tw7422063949377563487:=True
def tw14469334013364889586:=True
def tw14416400994454086298:=True
def tw9910415821469253709:=True
def tw11350628102021019538:=True
def tw8592924162070584755:=True
def tw5553625443218382:=True
def tw5166099017242089330:=True
def tw5054203922870079535:=True
def tw4333352760257846330:=True
def tw3570972503759235428:=True
def tw33468193410895217:=True
def tw15376153464183636608:=True
def tw13397837080298641380:=True
def tw13300932569816329296:=True
def tw12374819837730857777:=True
def tw13031224089562654637:=True
def tw10824957417915982723:=True
def tw12562285961899919506:=True
def tw195605436526393545:=True
def tw7297310569204051053:=True
def tw7234591344282344128:=True
def tw2874355200876848133:=True
def tw15153346680672923769:=True
def tw12371314117582628892:=True
def tw9543173754565163476:=True
def tw13892654460334184503:=True
def tw8030784001091458476:=True
def tw16909034310445999014:=True
def tw3862266365102555814:=True
def tw2893114203791439244:=True
def tw5926024230314719586:=True
def tw18056276360500718215:=True
def tw13603108765643604605:=True
def tw12661727866047942496:=True
def tw7599679427008230818:=True
def tw7507351673711764540:=True
def tw1850514662937714075:=True
def tw1251865540434269901:=True
def tw10618072436305202696:=True
def tw15000604828777799631:=True
def tw2221253117729981257:=True
def tw1929524504058785588:=True
def tw9615781072004182480:=True
def tw12967932365245546942:=True
def tw12010463292447746568:=True
def tw5413263941842442907:=True
def tw2551437421270523594:=True
def tw18002749853609805654:=True
def tw10224454838323493635:=True
def tw2536593333961722127:=True
end top
set_option Elab.async true in
theorem top:PySem.Challenge.rw_pp0065_01.Holds:=by
 w_on
 o_law
 k_head
 case hw=>w_witness2
 have facts:∀P:Params,cg (top.heap_1_39 P):=by
  intro P
  set_option Elab.async false in
  exact{f2:=⟨toN (by change 1<=?a1;letI h:?a1=1:=(by kernel_rfl);omega),toN (by change 1<=?a2;letI h:?a2=1:=(by kernel_rfl);omega),toN (by change 1<=?cj;letI h:?cj=1:=(by kernel_rfl);omega),toN (by change 1<=?c9;letI h:?c9=1:=(by kernel_rfl);omega),toN (by change 1<=?dQ;letI h:?dQ=1:=(by kernel_rfl);omega),toN (by change 1<=?fe;letI h:?fe=1:=(by kernel_rfl);omega),toN (by change 1<=?iq;letI h:?iq=1:=(by kernel_rfl);omega),toN (by change 1<=?ky;letI h:?ky=1:=(by kernel_rfl);omega),toN (by change 1<=?Fe;letI h:?Fe=1:=(by kernel_rfl);omega),toN (by change 1<=?E7;letI h:?E7=1:=(by kernel_rfl);omega),toN (by change 1<=?E8;letI h:?E8=1:=(by kernel_rfl);omega),trivial⟩,f4:=⟨toN (by change 1<=?E9;letI h:?E9=1:=(by kernel_rfl);omega),toN (by change 1<=?E_;letI h:?E_=1:=(by kernel_rfl);omega),toN (by change 1<=?Fb;letI h:?Fb=1:=(by kernel_rfl);omega),toN (by change 1<=?Fc;letI h:?Fc=1:=(by kernel_rfl);omega),toN (by change 1<=?Fd;letI h:?Fd=1:=(by kernel_rfl);omega),toN (by change 1<=?Uz;letI h:?Uz=1:=(by kernel_rfl);omega),toN (by change 1<=?UA;letI h:?UA=1:=(by kernel_rfl);omega),toN (by change 1<=?UB;letI h:?UB=1:=(by kernel_rfl);omega),toN (by change 1<=?UD;letI h:?UD=1:=(by kernel_rfl);omega),toN (by change 1<=?UE;letI h:?UE=1:=(by kernel_rfl);omega),toN (by change 1<=?UG;letI h:?UG=1:=(by kernel_rfl);omega),toN (by change 1<=?UH;letI h:?UH=1:=(by kernel_rfl);omega),trivial⟩,hL:=⟨toN (by change 1<=?UI;letI h:?UI=1:=(by kernel_rfl);omega),toN (by change 1<=?UJ;letI h:?UJ=1:=(by kernel_rfl);omega),toN (by change 1<=?UK;letI h:?UK=1:=(by kernel_rfl);omega),toN (by change 1<=?UL;letI h:?UL=1:=(by kernel_rfl);omega),toN (by change 1<=?UM;letI h:?UM=1:=(by kernel_rfl);omega),toN (by change 1<=?UN;letI h:?UN=1:=(by kernel_rfl);omega),toN (by change 1<=?UO;letI h:?UO=1:=(by kernel_rfl);omega),toN (by change 1<=?UP;letI h:?UP=1:=(by kernel_rfl);omega),toN (by change 1<=?UQ;letI h:?UQ=1:=(by kernel_rfl);omega),toN (by change 1<=?UR;letI h:?UR=1:=(by kernel_rfl);omega),toN (by change 1<=?US;letI h:?US=1:=(by kernel_rfl);omega),toN (by change 1<=?UT;letI h:?UT=1:=(by kernel_rfl);omega),toN (by change 1<=?UU;letI h:?UU=1:=(by kernel_rfl);omega),toN (by change 1<=?UW;letI h:?UW=1:=(by kernel_rfl);omega),toN (by change 1<=?UX;letI h:?UX=1:=(by kernel_rfl);omega),toN (by change 1<=?UY;letI h:?UY=1:=(by kernel_rfl);omega),toN (by change 1<=?UZ;letI h:?UZ=1:=(by kernel_rfl);omega),toN (by change 1<=?U0;letI h:?U0=1:=(by kernel_rfl);omega),toN (by change 1<=?U1;letI h:?U1=1:=(by kernel_rfl);omega),toN (by change 1<=?U2;letI h:?U2=1:=(by kernel_rfl);omega),toN (by change 1<=?U3;letI h:?U3=1:=(by kernel_rfl);omega),trivial⟩,f8:=⟨toN (by change 1<=?U4;letI h:?U4=1:=(by kernel_rfl);omega),toN (by change 1<=?U5;letI h:?U5=1:=(by kernel_rfl);omega),toN (by change 1<=?U6;letI h:?U6=1:=(by kernel_rfl);omega),toN (by change 1<=?U7;letI h:?U7=1:=(by kernel_rfl);omega),toN (by change 1<=?U8;letI h:?U8=1:=(by kernel_rfl);omega),toN (by change 1<=?U9;letI h:?U9=1:=(by kernel_rfl);omega),toN (by change 1<=?U_;letI h:?U_=1:=(by kernel_rfl);omega),toN (by change 1<=?Va;letI h:?Va=1:=(by kernel_rfl);omega),toN (by change 1<=?Vb;letI h:?Vb=1:=(by kernel_rfl);omega),toN (by change 1<=?Vc;letI h:?Vc=1:=(by kernel_rfl);omega),toN (by change 1<=?Vd;letI h:?Vd=1:=(by kernel_rfl);omega),toN (by change 1<=?Ve;letI h:?Ve=1:=(by kernel_rfl);omega),toN (by change 1<=?Vf;letI h:?Vf=1:=(by kernel_rfl);omega),toN (by change 1<=?Vg;letI h:?Vg=1:=(by kernel_rfl);omega),toN (by change 1<=?Vh;letI h:?Vh=1:=(by kernel_rfl);omega),toN (by change 1<=?Vi;letI h:?Vi=1:=(by kernel_rfl);omega),toN (by change 1<=?Vj;letI h:?Vj=1:=(by kernel_rfl);omega),toN (by change 1<=?Vk;letI h:?Vk=1:=(by kernel_rfl);omega),toN (by change 1<=?Vl;letI h:?Vl=1:=(by kernel_rfl);omega),toN (by change 1<=?Vm;letI h:?Vm=1:=(by kernel_rfl);omega),trivial⟩,tk:=⟨toN (by change 1<=?Vn;letI h:?Vn=1:=(by kernel_rfl);omega),toN (by change 1<=?Vo;letI h:?Vo=1:=(by kernel_rfl);omega),toN (by change 1<=?Vp;letI h:?Vp=1:=(by kernel_rfl);omega),toN (by change 1<=?Vq;letI h:?Vq=1:=(by kernel_rfl);omega),toN (by change 1<=?Vr;letI h:?Vr=1:=(by kernel_rfl);omega),toN (by change 1<=?Vs;letI h:?Vs=1:=(by kernel_rfl);omega),trivial⟩,ya:=⟨toN (by change 1<=?Vt;letI h:?Vt=1:=(by kernel_rfl);omega),toN (by change 1<=?Vu;letI h:?Vu=1:=(by kernel_rfl);omega),toN (by change 1<=?Vv;letI h:?Vv=1:=(by kernel_rfl);omega),toN (by change 1<=?Vw;letI h:?Vw=1:=(by kernel_rfl);omega),trivial⟩,turn:=by kernel_rfl}
 have Yi:∀P:Params,EI (top.heap_1_39 P):=λP=>{
  MA:=⟨_,_,_,_,_,_,_,_,_,_,_,_,_,_,rfl⟩
  init:=by kernel_rfl
  r7:=by kernel_rfl
  text:=by kernel_rfl
  line:=by kernel_rfl
  N5:=⟨_,_,_,_,_,_,_,_,_,_,rfl,Iy rfl rfl rfl rfl rfl rfl rfl rfl (by kernel_rfl) (by kernel_rfl) (by kernel_rfl) (by kernel_rfl)⟩
  N4:=⟨_,_,_,_,_,_,_,_,_,_,rfl,Iy rfl rfl rfl rfl rfl rfl rfl rfl (by kernel_rfl) (by kernel_rfl) (by kernel_rfl) (by kernel_rfl)⟩
  reads:=by kernel_rfl
  special:=by kernel_rfl
  Ph:=by kernel_rfl
  handed:=by kernel_rfl
  L9:=by kernel_rfl
  exc:=by kernel_rfl
  keep:=by kernel_rfl
  NZ:=by kernel_rfl}
 have aa7:∀(P:Params),keepIn (top.heap_1_39 P) (.ref 128)=true:=λP=>by kernel_rfl
 have abE:∀(P:Params),∃ar n,(top.heap_1_39 P).lookup 281=some ⟨.type "dict",none,.dict ar n,#[]⟩/\KeysLit P ar.toList:=λP=>⟨_,_,rfl,⟨⟨_,_,rfl,rfl⟩,⟨_,_,rfl,rfl⟩,⟨_,_,rfl,rfl⟩,⟨_,_,rfl,rfl⟩,trivial⟩⟩;have aaZ:∀P:Params,pN (top.heap_1_39 P):=λP=>{
  fn:=⟨posOf (top.heap_1_39 P) 713,BF rfl rfl rfl (by kernel_rfl) rfl rfl rfl rfl (by kernel_rfl) (by kernel_rfl) (by kernel_rfl) (by kernel_rfl) (by kernel_rfl)⟩
  len:=by kernel_rfl
  rest:=⟨706,_,_,_,_,by kernel_rfl,rfl,.cons ⟨_,rfl⟩ (.cons ⟨_,rfl⟩ (.cons ⟨_,rfl⟩ (.cons ⟨_,rfl⟩ (.cons ⟨_,rfl⟩ (.cons ⟨_,rfl⟩ (.cons ⟨_,rfl⟩ (.cons ⟨_,rfl⟩ (.cons ⟨_,rfl⟩ (.cons ⟨_,rfl⟩ (.cons ⟨_,rfl⟩ (.cons ⟨_,rfl⟩ (.cons ⟨_,rfl⟩ (.cons ⟨_,rfl⟩ (.cons ⟨_,rfl⟩ (.cons ⟨_,rfl⟩ (.cons ⟨_,rfl⟩ (.cons ⟨_,rfl⟩ (.cons ⟨_,rfl⟩ (.cons ⟨_,rfl⟩ (.cons ⟨_,rfl⟩ (.cons ⟨_,rfl⟩ (.cons ⟨_,rfl⟩ (.cons ⟨_,rfl⟩ (.cons ⟨_,rfl⟩ .nil))))))))))))))))))))))))⟩}
 have aaY:∀(P:Params),uP (top.heap_1_39 P):=λP=>⟨posOf (top.heap_1_39 P) 727,BF rfl rfl rfl (by kernel_rfl) rfl rfl rfl rfl (by kernel_rfl) (by kernel_rfl) (by kernel_rfl) (by kernel_rfl) (by kernel_rfl)⟩;have aa4:∀P:Params,xw (top.heap_1_39 P):=λP=>{
  fn:=⟨posOf (top.heap_1_39 P) 741,BF rfl rfl rfl (by kernel_rfl) rfl rfl rfl rfl (by kernel_rfl) (by kernel_rfl) (by kernel_rfl) (by kernel_rfl) (by kernel_rfl)⟩
  lst:=by kernel_rfl
  draw:=by kernel_rfl}
 have aa6:∀P:Params,L2 (top.heap_1_39 P):=λP=>{
  fn:=⟨_,_,_,_,_,_,_,_,Iy rfl rfl rfl rfl rfl rfl rfl rfl (by kernel_rfl) (by kernel_rfl) (by kernel_rfl) (by kernel_rfl)⟩
  sep:=⟨658,by kernel_rfl⟩
  str:=by kernel_rfl
  keep:=by kernel_rfl}
 have aa2:∀P:Params,EO (top.heap_1_39 P):=λP=>{
  fn:=⟨_,_,_,_,[_,_,_,_,_,_,_],rfl,by kernel_rfl,by kernel_rfl,by kernel_rfl,rfl,rfl,by decide+kernel,by decide+kernel,λs y aw=>BindsTo.of_defaults rfl (aw 691 _ rfl) rfl rfl rfl,rfl,λβ=>.cons ⟨_,_,rfl,rfl⟩ (.cons ⟨_,_,rfl,rfl⟩ (.cons ⟨_,_,rfl,rfl⟩ (.cons ⟨_,_,rfl,rfl⟩ (.cons ⟨_,_,rfl,rfl⟩ (.cons ⟨_,_,rfl,rfl⟩ (.cons ⟨_,_,rfl,rfl⟩ .nil))))))⟩}
 have aa5:∀P:Params,uW (top.heap_1_39 P):=λP=>{
  lim:=aa2 P
  fn:=⟨[],BF rfl rfl rfl (by kernel_rfl) rfl rfl rfl rfl (by kernel_rfl) (by kernel_rfl) (by kernel_rfl) (by kernel_rfl) (by kernel_rfl)⟩
  head:=ad4 (facts P)
  start:=ad9 (facts P)
  g6:=ad5 (facts P)
  tail:=aea (facts P)
  nine:=ad8 (facts P)
  at_:=by kernel_rfl
  set:=by kernel_rfl
  rE:=by kernel_rfl}
 have aa1:∀P:Params,EN (top.heap_1_39 P):=λP=>{
  scope:=aa5 P
  call:=⟨(xT (top.heap_1_39 P)).1,(xT (top.heap_1_39 P)).2.1,(xT (top.heap_1_39 P)).2.2.1,(xT (top.heap_1_39 P)).2.2.2.1,(xT (top.heap_1_39 P)).2.2.2.2,by kernel_rfl⟩
  PB:=by kernel_rfl
  Pz:=by kernel_rfl
  PA:=by kernel_rfl
  Qu:=by kernel_rfl}
 have k_all:∀P:Params,EM (top.heap_1_39 P):=λP=>{
  PR:=aa1 P
  rE:=⟨ad3 (facts P),ad6 (facts P),by kernel_rfl,by kernel_rfl⟩
  draws:=ad2 (facts P)
  rV:=ad7 (facts P)
  draw:=aaZ P
  chain:=aaY P
  other:=aa4 P
  ret:=⟨(Jy (top.heap_1_39 P)).1,(Jy (top.heap_1_39 P)).2.1,(Jy (top.heap_1_39 P)).2.2,by kernel_rfl⟩}
 have aa0:∀(g:cy)(w:World)(aw:g.K=top.heap_1_39 w.params)(hw:g.w=w)(O:g.Ok),Good g:=by intro g w aw hw O;refine⟨O,⟨?_,agw g (aw▸aa6 w.params)⟩,aec g (aw▸Yi w.params) (by rw[aw];exact aa7 w.params)⟩;unfold cy.LP;rw[aw,hw];exact abE w.params
 have aa3:∀(P:Params)(zs:List Int),ES (top.heap_1_39 P) zs:=λP zs=>λX env pos p2 R rJ W rM aa af=>Qd (rJ▸facts P) W rM aa af;have aaX:∀(P:Params),fN (top.heap_1_39 P)=A7 (posOf (top.heap_1_39 P) 760)::(fN (top.heap_1_39 P)).drop 1:=λP=>by kernel_rfl
 k_go0
 rename_i w aij bg iS iR a6 Y hM o pm doc bw gx T9 X V ahp T B TE TW zg om M ahz ahA rL ns bL ahT ahN O0 HE ahu ahv a aK ahw gw c2 bY pg ba cb BN BO ahq hg dq R8 F bE d_ m2 aht;have Z0:ns.length<=63:=by omega
 refine abC (K:=top.heap_1_39 w.params) (p:=top.view_1_40) (loose:=looseW top.view_1_40 [Str.ofString "LAYERS",Str.ofString "Limits"]) (iS:=iS) (iR:=iR) (bg:=bg) (ns:=ns) (aK:=aK) (a:=a) (aE:=bg.heap.objs.size+1) (L:=bg.heap.objs.size) (pp:=posOf (top.heap_1_39 w.params) 760) (k_all w.params) (λg aw hw O=>aa0 g w aw hw O) (λzs _=>aa3 w.params zs) T9 (topRead_of T) F rfl rfl ?_ ?_ ?_ ?_ gw ba Z0 ?_ rfl rfl rfl rfl ?_ rfl ?_ ?_ (aaX w.params) ?_
 .kernel_rfl
 .exact⟨bE,(m2 _ (.head _)).1,d_.trans (by kernel_rfl)⟩
 .exact(m2 _ (.head _)).2.2
 .exact Nat.ne_of_lt (Nat.lt_succ_self _)
 .kernel_rfl
 .kernel_rfl
 .kernel_rfl
 .kernel_rfl
 .intro ao keep os;refine⟨.inl ⟨.bool true,.bool true,[],rfl,λcls=>?_,?_,?_,λh=>?_⟩,keep,os.1,os.2.trans gx⟩
  .kernel_rfl
  .exact .bool _
  .kernel_rfl
  .exact⟨.nil,λa aU=>(nomatch aU)⟩
end Mine.Internal.MI
theorem PySem.Challenge.cw_pp0065_01_holds : PySem.Challenge.rw_pp0065_01.Holds :=
  Mine.Internal.MI.top
