import PyProof.Rows.All
import Wide.All
import OpenK.AllK
import Wide.FinOn
import KE.KDictList
import KE.KSlice
import Lean
import PySem.Challenge.RW_pp0065_01
set_option linter.all false
set_option genInjectivity false
set_option genCtorIdx false
set_option genSizeOf false
set_option genSizeOfSpec false
set_option bootstrap.genMatcherCode false
set_option maxRecDepth 1000000
set_option maxHeartbeats 0
section
set_option tactic.hygienic false
local macro_rules |`(tactic|show $t:term)=>`(tactic|refine(?_:$t))
open Array renaming getElem?_eq_getElem->TC,getElem?_toList->pN,length_toList->w9,getElem?_eq_some_iff->D8,toList_append->KY,toList_push->K_
open Bool renaming eq_false_iff->xc,and_true->Lx,and_eq_true_iff->KW,eq_iff_iff->xi,casesOn->bV,rec->jZ,false_eq_true->T_,false_ne_true->sm,or_true->LA,or_eq_true->Lo,false_or->Ly,or_eq_true_iff->K1,not_eq_true'->jl,false->ai,and_eq_true->ew,true->ae
open Char renaming toNat->LO
open Classical renaming byContradiction->Tz,choose->T3
open Eq renaming symm->bW
open Except renaming casesOn->uD
open ForInStep renaming yield->xh
open Iff renaming mpr->gN
open Int renaming negSucc->LJ,ofNat_le->jn,ofNat->pI,ofNat_lt->mU,le_refl->xp,add_nonneg->Ls,casesOn->LI,le_of_lt->LD,lt_of_le_sub_one->T4,toNat_of_nonneg->Av,lt_of_lt_of_le->K8,zero_add->Ew,add_comm->Eu,add_sub_cancel->ux,le_of_eq->uH,toNat_natCast->Lc,toNat_lt->LC,add_le_add_left->K3,natCast_nonneg->kV,lt_of_le_of_lt->K7,add_zero->Ex,eq_ofNat_of_zero_le->D_,le_trans->gk,not_lt->AL
open List renaming lookup_cons->md,any_eq_true->Ei,length_nil->Lm,pairwise_singleton->TN,find?_cons->AE,mem_of_find?_eq_some->KI,getElem?_append_left->w7,not_mem_nil->lL,prefix_refl->iH,getElem?_eq_some_iff->j2,length_drop->uB,lookup_append->T9,mem_cons_self->xa,getElem?_eq_none_iff->TG,mem_singleton->eu,pairwise_cons->xb,map_congr_left->T6,filterMap_cons->Ee,mem_map->kY,forIn_cons->Ln,append_eq_nil_iff->TQ,map_cons->j4,map_fst_zip->pO,nodup_cons->jD,all_eq_true->eX,lookup_eq_none_iff->KP,drop_drop->Eo,casesOn->eo,cons_ne_nil->Lj,mem_cons->dh,getElem?_append_right->pL,append_cancel_left->TM,getElem?_drop->Aw,reverse_cons->La,rec->sz,getElem?_map->oF,append_assoc->nR,length_eq_zero_iff->TL,any_cons->Et,length_cons->uA,contains_cons->Ax,mem_append_right->sL,length_append->iG,mem_cons_of_mem->mR,getElem?_eq_getElem->i5,head?->LP,mem_append->me,prefix_append->lK,range->pH,pairwise_iff_getElem->TH,getElem?_modify->TY,cons_append->Lg,getElem?_of_mem->TZ,isEmpty_iff->Ej,mem_append_left->q8,find?_eq_none->K6,mem_map_of_mem->kU,map_eq_nil_iff->T5,length_map->gB,take_append_drop->q7,append_nil->lM,mem_of_getElem?->ma
open List.cons renaming inj->qU
open List.eraseDupsBy renaming loop->Tx
open Nat renaming lt_succ_self->Lk,not_lt_of_le->Ek,le_of_lt->kq,blt->eK,lt_trans->sv,mod_two_eq_zero_or_one->TF,le_antisymm->Em,sub_eq_of_eq_add'->TX,lt_add_of_pos_right->w8,ne_of_lt->kr,add_le_add_right->j3,zero_add->uJ,lt_of_succ_lt_succ->TU,lt_succ_of_lt->xf,ne_of_beq_eq_false->Eb,le_of_lt_succ->Az,lt_of_le_of_lt->jk,eq_of_beq_eq_true->d0,add_sub_cancel_left->Ea,add_assoc->kW,casesOn->hD,le_succ_of_le->Lb,lt_succ_of_le->xe,succ_pos->pE,add_comm->kp,le_refl->dP,sub_self->uI,mul_le_mul_left->K2,succ_add->AH,ne_of_gt->pF,le_of_not_lt->so,beq_refl->LB,not_lt->i6,ble_eq_true_of_le->Ap,lt_or_ge->xn,lt_of_le_of_ne->Ay,zero_le->l9,le_trans->bR,beq->cw,le_add_right->gu,lt_of_lt_of_le->ij,ble->c6,not_lt_zero->xk,lt_irrefl->qV,div_add_mod->Lq,rec->AP,add_sub_cancel'->K4,le_of_eq->eJ,add_le_add_left->mc,lt_of_not_le->Ll,le_succ->LK,le_of_add_right_le->TV,div->xr,le_add_left->xj,le_of_ble_eq_true->bA,repr->sA,add_le_add->mS
open Nat.succ renaming inj->su
open Ne renaming symm->j1
open Option renaming isSome_iff_exists->D9,rec->LH,map_some->nS,map_eq_none_iff->KS,some_ne_none->KX,some->C,bind_some->AA,isNone_iff_eq_none->nO,map->uL,map_eq_some_iff->pM,casesOn->b1
open Option.some renaming injEq->Ef,inj->c0
open PyProof.Rows renaming iadd_int->KN,subscriptTail->xo,sub_int->KR,args_nil->nN,lt_int->Aq,isTrue_and->AO,args_cons->kS,Subscript_->q1,assign_Name->w6,eq_int->TJ,tail_any->mP,gt_int->TK,getItem_tuple->Tv,add_str->KQ,signs_ofString->LN,mod_int'->KO,unpackItems_tuple->Tu
open PySem renaming excClassObj->uM,wpAny_pyNext_range_end->KZ,IsRangeIter->Eg,storeName->EL,standAt->uO,strKind_is->EH,wpAny_bind->b3,getMethod->sy,sizeLine_eq->ku,comprehension->Ez,setItem->uE,wpAny_Return_some->uz,codeAny_mono->uK,assign->mT,wpAny_call->sx,codeAny->ft,slot_dict_getitem->Lr,markedBehindIn_of_false->Ub,sysModules->kv,slot_list_getitem->xg,wpAny_isTrue_Compare1->As,setAttr->xt,wpAny_Constant_int->nQ,pastItsLine_dict->Lw,wpAny_comprehension_free->T8,wpAny_execs_cons->jm,wpAny_mono->d4,assignInOrder->xm,nsFind->sH,isTrue->uR,wpAny_lookBehind->Lv,Obj->cj,cellsFrom->oA,leaving->uP,wpAny_pyNext_range_item->KU,Comprehension->uG,pairTrees_cons_walk->Le,DictEntry->hT,starEach->lG,call->gc,ExcBaseFacts->AJ,Shared->aN,wpAny_newList->LM,getItem->sE,valueAt->a0,raiseStmt->nM,Sem->hC,binaryOp->sC,firstAsync->EJ,inplaceOp->q2,wpAny_standAt->kX,rawInt->q6,wpAny_getItem_list_slice->T7,Stmt->eQ,assignEach->q0,mainGlobals->ik,backTo->mQ,Heap->gj,wpAny_AugAssign_SubscriptAny->TO,wpAny_execs_nil->qT,firstIter->EO,wpAny_holding->iI,codeAny_of_tree->AG,compPost->j0,Program->q5,wpAny_Constant_str->xd,wpAny_loadPart->LF,wpAny_Assign_stores->Lf,wpAny_truthy_bool->AB,wpAny_pure->d3,CmpOp->oE,Scope->pK,StrKeys->xu,eval->dM,wpAny_BinOp->qY,Expr->bk,Env->hB,newFunctionEnv->sr,wpAny_setItem_pairs->Ld,noteFrame->q4,clausesOf->EN,notedBy->iF,pyIter->oD,Value->aB,Str->aM,bootBuiltins->AI,wpAny_Assign_Name->AD,wpAny->a5,typeLookup->EI,wpAny_storeName_local->Ar,wpAny_release->K0,wpAny_getItem_of->En,Around->oC,callWith->sD,relabel->l_,Flow->fH,fastBuiltinOwn->xl,callerA->xv,Pos->cq,letOwnedTupleGo->Es,exec->i4,compareOp->EM,truthy->uF,wpAny_getItem_list->Eh,callWith_type->T1,model->c9,Addr->az,call_meetsIn->EC,firstIterPos->ED,wpAny_loadName_local->hS,sizeLine->oB,theTreesLotGoes->Lz,Operator->pJ,ExceptHandler->Ey,NameKind->gC,getMethod_builtin->El,cameBackBy->nL,wpAny_Name->hE,builtinsNs->nK,holding->sF,stored->lH,execs->cH,swappedStores->EA,wpAny_field->AM,slicePick->q3
open PySem.Builtin.List renaming listTooLong->TA
open PySem.Builtin.Str renaming occurrences->TB
open PySem.Calls renaming callWith_builtin->AF,loadGlobal_global->uC,Name_function_global->mb,loadGlobal_builtin->uy,call_len_list->EB
open PySem.Code renaming builtin->LG
open PySem.Data renaming casesOn->Au
open PySem.Data.cls renaming elim->Lu
open PySem.Data.fields renaming elim->K9
open PySem.EqBoolInt renaming of_rcne->Tw
open PySem.Expr.Attribute renaming elim->KA
open PySem.Expr.Call renaming elim->KL
open PySem.Expr.Compare renaming elim->KD
open PySem.Expr.Constant renaming elim->KC
open PySem.Expr.Name renaming elim->KJ
open PySem.Expr.Slice renaming elim->KH
open PySem.Expr.Tuple renaming elim->KG
open PySem.F renaming store_object->TR
open PySem.Flow renaming casesOn->w_
open PySem.Heap renaming ExtBut->lN,get?_none_of_le->Ua,Ns->kT,dictOf_iff->sq,get?_push_size->nP,IsList->pG,lt_size->fW,get?_update_other->Ao,size_push->Er,SameBut->qW,get?_update_self->Ec,get?_push_of_some->f6
open PySem.Heap.DictOf renaming new->Uc
open PySem.Heap.IsSliceOf renaming new->TP
open PySem.Heap.SameBut renaming update->Ed
open PySem.IsL renaming isList->qZ
open PySem.NameKind renaming casesOn->sJ
open PySem.PyData renaming keyHash->Ep
open PySem.Str renaming ofString->bO,ofString_eq_toList->T2
open PySem.Value renaming isStrOf_shape->K5,casesOn->lJ,ref->lF,int->EG,str->EF,none->xq
open PySem.Value.bool renaming elim->Li
open PySem.Value.builtin renaming elim->KV
open PySem.Value.ref renaming elim->Lp
open PySem.Value.type renaming elim->Lh
open PySem.W renaming nsIn->lI,findIn->ko,instObj->uQ,callWith_of->AN,looks_findIn->AK,codeRec_of->EK,hideAll_none->qX,mg_none_of->uN,codeIn->uS,alongIn->xw,Frag->b5,TopRead->sG,hideAll_get->EE,keepIn->sI
open PySem.W.Fast renaming lEq->TS
open PySem.Within renaming cons->LL
open PySem PySem.W PySem.Calls PySem.SeqAt
open PyProof.Rows hiding wpAt wpAt_bind wpAt_stack
namespace Mine.Internal.MI
theorem aS{p:Prop} [Decidable p](h:decide p=ae):p:=of_decide_eq_true h
variable{bz bQ b8:Prop}
theorem fi(h0:bz)(aa:bQ)(af:b8):bz/\bQ/\b8:=⟨h0,aa,af⟩
variable{P3:Prop}
theorem Ti(h0:bz)(aa:bQ)(af:b8)(aJ:P3):bz/\bQ/\b8/\P3:=⟨h0,aa,af,aJ⟩
variable{dt:Prop}
theorem D3(h0:bz)(aa:bQ)(af:b8)(aJ:P3)(bl:dt):bz/\bQ/\b8/\P3/\dt:=⟨h0,aa,af,aJ,bl⟩
theorem agA{ee:Prop}(h0:bz)(aa:bQ)(af:b8)(aJ:P3)(bl:dt)(cQ:ee):bz/\bQ/\b8/\P3/\dt/\ee:=⟨h0,aa,af,aJ,bl,cQ⟩
variable{di:Sort _}
theorem bh{bz bQ:di->Prop}(a:di)(h0:bz a)(aa:bQ a):∃a,bz a/\bQ a:=⟨a,h0,aa⟩
theorem fV{bz bQ b8:di->Prop}(a:di)(h0:bz a)(aa:bQ a)(af:b8 a):∃a,bz a/\bQ a/\b8 a:=⟨a,h0,aa,af⟩
theorem l8{bz bQ b8 P3:di->Prop}(a:di)(h0:bz a)(aa:bQ a)(af:b8 a)(aJ:P3 a):∃a,bz a/\bQ a/\b8 a/\P3 a:=⟨a,h0,aa,af,aJ⟩
theorem D4{bz bQ b8 P3 dt:di->Prop}(a:di)(h0:bz a)(aa:bQ a)(af:b8 a)(aJ:P3 a)(bl:dt a):∃a,bz a/\bQ a/\b8 a/\P3 a/\dt a:=⟨a,h0,aa,af,aJ,bl⟩
theorem Tj{bz bQ b8 P3 dt ee:di->Prop}(a:di)(h0:bz a)(aa:bQ a)(af:b8 a)(aJ:P3 a)(bl:dt a)(cQ:ee a):∃a,bz a/\bQ a/\b8 a/\P3 a/\dt a/\ee a:=⟨a,h0,aa,af,aJ,bl,cQ⟩
variable{d1:Sort _}
theorem w2{bz:di->d1->Prop}(a:di)(b:d1)(h0:bz a b):∃a,∃b,bz a b:=⟨a,b,h0⟩
theorem gi{bz bQ:di->d1->Prop}(a:di)(b:d1)(h0:bz a b)(aa:bQ a b):∃a,∃b,bz a b/\bQ a b:=⟨a,b,h0,aa⟩
theorem d2{bz bQ b8:di->d1->Prop}(a:di)(b:d1)(h0:bz a b)(aa:bQ a b)(af:b8 a b):∃a,∃b,bz a b/\bQ a b/\b8 a b:=⟨a,b,h0,aa,af⟩
theorem i3{bz bQ b8 P3:di->d1->Prop}(a:di)(b:d1)(h0:bz a b)(aa:bQ a b)(af:b8 a b)(aJ:P3 a b):∃a,∃b,bz a b/\bQ a b/\b8 a b/\P3 a b:=⟨a,b,h0,aa,af,aJ⟩
theorem Kz{bz bQ b8 P3 dt:di->d1->Prop}(a:di)(b:d1)(h0:bz a b)(aa:bQ a b)(af:b8 a b)(aJ:P3 a b)(bl:dt a b):∃a,∃b,bz a b/\bQ a b/\b8 a b/\P3 a b/\dt a b:=⟨a,b,h0,aa,af,aJ,bl⟩
theorem uu{bz bQ b8 P3 dt ee:di->d1->Prop}(a:di)(b:d1)(h0:bz a b)(aa:bQ a b)(af:b8 a b)(aJ:P3 a b)(bl:dt a b)(cQ:ee a b):∃a,∃b,bz a b/\bQ a b/\b8 a b/\P3 a b/\dt a b/\ee a b:=⟨a,b,h0,aa,af,aJ,bl,cQ⟩
theorem Tn{bz bQ b8 P3 dt ee i7 lQ:di->d1->Prop}(a:di)(b:d1)(h0:bz a b)(aa:bQ a b)(af:b8 a b)(aJ:P3 a b)(bl:dt a b)(cQ:ee a b)(eT:i7 a b)(h7:lQ a b):∃a,∃b,bz a b/\bQ a b/\b8 a b/\P3 a b/\dt a b/\ee a b/\i7 a b/\lQ a b:=⟨a,b,h0,aa,af,aJ,bl,cQ,eT,h7⟩
theorem To{bz bQ b8 P3 dt ee i7 lQ rq:di->d1->Prop}(a:di)(b:d1)(h0:bz a b)(aa:bQ a b)(af:b8 a b)(aJ:P3 a b)(bl:dt a b)(cQ:ee a b)(eT:i7 a b)(h7:lQ a b)(h8:rq a b):∃a,∃b,bz a b/\bQ a b/\b8 a b/\P3 a b/\dt a b/\ee a b/\i7 a b/\lQ a b/\rq a b:=⟨a,b,h0,aa,af,aJ,bl,cQ,eT,h7,h8⟩
variable{gf:Sort _}
theorem D5{bz:di->d1->gf->Prop}(a:di)(b:d1)(c:gf)(h0:bz a b c):∃a,∃b,∃c,bz a b c:=⟨a,b,c,h0⟩
theorem w3{bz bQ b8:di->d1->gf->Prop}(a:di)(b:d1)(c:gf)(h0:bz a b c)(aa:bQ a b c)(af:b8 a b c):∃a,∃b,∃c,bz a b c/\bQ a b c/\b8 a b c:=⟨a,b,c,h0,aa,af⟩
theorem Ak{bz bQ b8 P3:di->d1->gf->Prop}(a:di)(b:d1)(c:gf)(h0:bz a b c)(aa:bQ a b c)(af:b8 a b c)(aJ:P3 a b c):∃a,∃b,∃c,bz a b c/\bQ a b c/\b8 a b c/\P3 a b c:=⟨a,b,c,h0,aa,af,aJ⟩
theorem Tp{bz bQ b8 P3 dt ee:di->d1->gf->Prop}(a:di)(b:d1)(c:gf)(h0:bz a b c)(aa:bQ a b c)(af:b8 a b c)(aJ:P3 a b c)(bl:dt a b c)(cQ:ee a b c):∃a,∃b,∃c,bz a b c/\bQ a b c/\b8 a b c/\P3 a b c/\dt a b c/\ee a b c:=⟨a,b,c,h0,aa,af,aJ,bl,cQ⟩
theorem agC{bz bQ b8 P3 dt ee i7:di->d1->gf->Prop}(a:di)(b:d1)(c:gf)(h0:bz a b c)(aa:bQ a b c)(af:b8 a b c)(aJ:P3 a b c)(bl:dt a b c)(cQ:ee a b c)(eT:i7 a b c):∃a,∃b,∃c,bz a b c/\bQ a b c/\b8 a b c/\P3 a b c/\dt a b c/\ee a b c/\i7 a b c:=⟨a,b,c,h0,aa,af,aJ,bl,cQ,eT⟩
variable{j5:Sort _}
theorem agD{bz:di->d1->gf->j5->Prop}(a:di)(b:d1)(c:gf)(d:j5)(h0:bz a b c d):∃a,∃b,∃c,∃d,bz a b c d:=⟨a,b,c,d,h0⟩
theorem agE{bz bQ b8 P3:di->d1->gf->j5->Prop}(a:di)(b:d1)(c:gf)(d:j5)(h0:bz a b c d)(aa:bQ a b c d)(af:b8 a b c d)(aJ:P3 a b c d):∃a,∃b,∃c,∃d,bz a b c d/\bQ a b c d/\b8 a b c d/\P3 a b c d:=⟨a,b,c,d,h0,aa,af,aJ⟩
theorem si{bz bQ b8 P3 dt ee:di->d1->gf->j5->Prop}(a:di)(b:d1)(c:gf)(d:j5)(h0:bz a b c d)(aa:bQ a b c d)(af:b8 a b c d)(aJ:P3 a b c d)(bl:dt a b c d)(cQ:ee a b c d):∃a,∃b,∃c,∃d,bz a b c d/\bQ a b c d/\b8 a b c d/\P3 a b c d/\dt a b c d/\ee a b c d:=⟨a,b,c,d,h0,aa,af,aJ,bl,cQ⟩
variable{rd:Sort _}
theorem agG{bz bQ b8 P3 dt ee:di->d1->gf->j5->rd->Prop}(a:di)(b:d1)(c:gf)(d:j5)(e:rd)(h0:bz a b c d e)(aa:bQ a b c d e)(af:b8 a b c d e)(aJ:P3 a b c d e)(bl:dt a b c d e)(cQ:ee a b c d e):∃a,∃b,∃c,∃d,∃e,bz a b c d e/\bQ a b c d e/\b8 a b c d e/\P3 a b c d e/\dt a b c d e/\ee a b c d e:=⟨a,b,c,d,e,h0,aa,af,aJ,bl,cQ⟩
variable{a6:Prop}
theorem a3(h:bz/\bQ)(k:bz->bQ->a6):a6:=k h.1 h.2
theorem fO(h:bz/\bQ/\b8)(k:bz->bQ->b8->a6):a6:=k h.1 h.2.1 h.2.2
theorem Ju(h:bz/\bQ/\b8/\P3)(k:bz->bQ->b8->P3->a6):a6:=k h.1 h.2.1 h.2.2.1 h.2.2.2
theorem acu(h:bz/\bQ/\b8/\P3/\dt)(k:bz->bQ->b8->P3->dt->a6):a6:=k h.1 h.2.1 h.2.2.1 h.2.2.2.1 h.2.2.2.2
theorem Rj{ee:Prop}(h:bz/\bQ/\b8/\P3/\dt/\ee)(k:bz->bQ->b8->P3->dt->ee->a6):a6:=k h.1 h.2.1 h.2.2.1 h.2.2.2.1 h.2.2.2.2.1 h.2.2.2.2.2
theorem bG{bz:di->Prop}(h:∃a,bz a)(k:∀a,bz a->a6):a6:=h.elim λa h=>k a h
theorem aU{bz bQ:di->Prop}(h:∃a,bz a/\bQ a)(k:∀a,bz a->bQ a->a6):a6:=h.elim λa h=>k a h.1 h.2
theorem eH{bz bQ b8:di->Prop}(h:∃a,bz a/\bQ a/\b8 a)(k:∀a,bz a->bQ a->b8 a->a6):a6:=h.elim λa h=>k a h.1 h.2.1 h.2.2
theorem jQ{bz bQ b8 P3:di->Prop}(h:∃a,bz a/\bQ a/\b8 a/\P3 a)(k:∀a,bz a->bQ a->b8 a->P3 a->a6):a6:=h.elim λa h=>k a h.1 h.2.1 h.2.2.1 h.2.2.2
theorem Dp{bz bQ b8 P3 dt:di->Prop}(h:∃a,bz a/\bQ a/\b8 a/\P3 a/\dt a)(k:∀a,bz a->bQ a->b8 a->P3 a->dt a->a6):a6:=h.elim λa h=>k a h.1 h.2.1 h.2.2.1 h.2.2.2.1 h.2.2.2.2
theorem Rl{bz bQ b8 P3 dt ee:di->Prop}(h:∃a,bz a/\bQ a/\b8 a/\P3 a/\dt a/\ee a)(k:∀a,bz a->bQ a->b8 a->P3 a->dt a->ee a->a6):a6:=h.elim λa h=>k a h.1 h.2.1 h.2.2.1 h.2.2.2.1 h.2.2.2.2.1 h.2.2.2.2.2
theorem mF{bz:di->d1->Prop}(h:∃a,∃b,bz a b)(k:∀a b,bz a b->a6):a6:=h.elim λa h=>h.elim λb h=>k a b h
theorem cA{bz bQ:di->d1->Prop}(h:∃a,∃b,bz a b/\bQ a b)(k:∀a b,bz a b->bQ a b->a6):a6:=h.elim λa h=>h.elim λb h=>k a b h.1 h.2
theorem fD{bz bQ b8:di->d1->Prop}(h:∃a,∃b,bz a b/\bQ a b/\b8 a b)(k:∀a b,bz a b->bQ a b->b8 a b->a6):a6:=h.elim λa h=>h.elim λb h=>k a b h.1 h.2.1 h.2.2
theorem ig{bz bQ b8 P3:di->d1->Prop}(h:∃a,∃b,bz a b/\bQ a b/\b8 a b/\P3 a b)(k:∀a b,bz a b->bQ a b->b8 a b->P3 a b->a6):a6:=h.elim λa h=>h.elim λb h=>k a b h.1 h.2.1 h.2.2.1 h.2.2.2
theorem t9{bz bQ b8 P3 dt:di->d1->Prop}(h:∃a,∃b,bz a b/\bQ a b/\b8 a b/\P3 a b/\dt a b)(k:∀a b,bz a b->bQ a b->b8 a b->P3 a b->dt a b->a6):a6:=h.elim λa h=>h.elim λb h=>k a b h.1 h.2.1 h.2.2.1 h.2.2.2.1 h.2.2.2.2
theorem ih{bz bQ b8 P3 dt ee:di->d1->Prop}(h:∃a,∃b,bz a b/\bQ a b/\b8 a b/\P3 a b/\dt a b/\ee a b)(k:∀a b,bz a b->bQ a b->b8 a b->P3 a b->dt a b->ee a b->a6):a6:=h.elim λa h=>h.elim λb h=>k a b h.1 h.2.1 h.2.2.1 h.2.2.2.1 h.2.2.2.2.1 h.2.2.2.2.2
theorem qF{bz bQ b8 P3 dt ee i7:di->d1->Prop}(h:∃a,∃b,bz a b/\bQ a b/\b8 a b/\P3 a b/\dt a b/\ee a b/\i7 a b)(k:∀a b,bz a b->bQ a b->b8 a b->P3 a b->dt a b->ee a b->i7 a b->a6):a6:=h.elim λa h=>h.elim λb h=>k a b h.1 h.2.1 h.2.2.1 h.2.2.2.1 h.2.2.2.2.1 h.2.2.2.2.2.1 h.2.2.2.2.2.2
theorem t_{bz bQ b8 P3 dt ee i7 lQ:di->d1->Prop}(h:∃a,∃b,bz a b/\bQ a b/\b8 a b/\P3 a b/\dt a b/\ee a b/\i7 a b/\lQ a b)(k:∀a b,bz a b->bQ a b->b8 a b->P3 a b->dt a b->ee a b->i7 a b->lQ a b->a6):a6:=h.elim λa h=>h.elim λb h=>k a b h.1 h.2.1 h.2.2.1 h.2.2.2.1 h.2.2.2.2.1 h.2.2.2.2.2.1 h.2.2.2.2.2.2.1 h.2.2.2.2.2.2.2
theorem acw{bz bQ b8 P3 dt ee i7 lQ rq:di->d1->Prop}(h:∃a,∃b,bz a b/\bQ a b/\b8 a b/\P3 a b/\dt a b/\ee a b/\i7 a b/\lQ a b/\rq a b)(k:∀a b,bz a b->bQ a b->b8 a b->P3 a b->dt a b->ee a b->i7 a b->lQ a b->rq a b->a6):a6:=h.elim λa h=>h.elim λb h=>k a b h.1 h.2.1 h.2.2.1 h.2.2.2.1 h.2.2.2.2.1 h.2.2.2.2.2.1 h.2.2.2.2.2.2.1 h.2.2.2.2.2.2.2.1 h.2.2.2.2.2.2.2.2
theorem wo{bz:di->d1->gf->Prop}(h:∃a,∃b,∃c,bz a b c)(k:∀a b c,bz a b c->a6):a6:=h.elim λa h=>h.elim λb h=>h.elim λc h=>k a b c h
theorem wq{bz bQ:di->d1->gf->Prop}(h:∃a,∃b,∃c,bz a b c/\bQ a b c)(k:∀a b c,bz a b c->bQ a b c->a6):a6:=h.elim λa h=>h.elim λb h=>h.elim λc h=>k a b c h.1 h.2
theorem kh{bz bQ b8:di->d1->gf->Prop}(h:∃a,∃b,∃c,bz a b c/\bQ a b c/\b8 a b c)(k:∀a b c,bz a b c->bQ a b c->b8 a b c->a6):a6:=h.elim λa h=>h.elim λb h=>h.elim λc h=>k a b c h.1 h.2.1 h.2.2
theorem mG{bz bQ b8 P3:di->d1->gf->Prop}(h:∃a,∃b,∃c,bz a b c/\bQ a b c/\b8 a b c/\P3 a b c)(k:∀a b c,bz a b c->bQ a b c->b8 a b c->P3 a b c->a6):a6:=h.elim λa h=>h.elim λb h=>h.elim λc h=>k a b c h.1 h.2.1 h.2.2.1 h.2.2.2
theorem Rm{bz bQ b8 P3 dt:di->d1->gf->Prop}(h:∃a,∃b,∃c,bz a b c/\bQ a b c/\b8 a b c/\P3 a b c/\dt a b c)(k:∀a b c,bz a b c->bQ a b c->b8 a b c->P3 a b c->dt a b c->a6):a6:=h.elim λa h=>h.elim λb h=>h.elim λc h=>k a b c h.1 h.2.1 h.2.2.1 h.2.2.2.1 h.2.2.2.2
theorem Dq{bz bQ b8 P3 dt ee:di->d1->gf->Prop}(h:∃a,∃b,∃c,bz a b c/\bQ a b c/\b8 a b c/\P3 a b c/\dt a b c/\ee a b c)(k:∀a b c,bz a b c->bQ a b c->b8 a b c->P3 a b c->dt a b c->ee a b c->a6):a6:=h.elim λa h=>h.elim λb h=>h.elim λc h=>k a b c h.1 h.2.1 h.2.2.1 h.2.2.2.1 h.2.2.2.2.1 h.2.2.2.2.2
theorem acx{bz:di->d1->gf->j5->Prop}(h:∃a,∃b,∃c,∃d,bz a b c d)(k:∀a b c d,bz a b c d->a6):a6:=h.elim λa h=>h.elim λb h=>h.elim λc h=>h.elim λd h=>k a b c d h
theorem Rn{bz bQ b8 P3:di->d1->gf->j5->Prop}(h:∃a,∃b,∃c,∃d,bz a b c d/\bQ a b c d/\b8 a b c d/\P3 a b c d)(k:∀a b c d,bz a b c d->bQ a b c d->b8 a b c d->P3 a b c d->a6):a6:=h.elim λa h=>h.elim λb h=>h.elim λc h=>h.elim λd h=>k a b c d h.1 h.2.1 h.2.2.1 h.2.2.2
theorem wt{bz bQ b8 P3 dt ee:di->d1->gf->j5->Prop}(h:∃a,∃b,∃c,∃d,bz a b c d/\bQ a b c d/\b8 a b c d/\P3 a b c d/\dt a b c d/\ee a b c d)(k:∀a b c d,bz a b c d->bQ a b c d->b8 a b c d->P3 a b c d->dt a b c d->ee a b c d->a6):a6:=h.elim λa h=>h.elim λb h=>h.elim λc h=>h.elim λd h=>k a b c d h.1 h.2.1 h.2.2.1 h.2.2.2.1 h.2.2.2.2.1 h.2.2.2.2.2
theorem acy{bz:di->d1->gf->j5->rd->Prop}(h:∃a,∃b,∃c,∃d,∃e,bz a b c d e)(k:∀a b c d e,bz a b c d e->a6):a6:=h.elim λa h=>h.elim λb h=>h.elim λc h=>h.elim λd h=>h.elim λe h=>k a b c d e h
theorem acz{bz bQ b8:di->d1->gf->j5->rd->Prop}(h:∃a,∃b,∃c,∃d,∃e,bz a b c d e/\bQ a b c d e/\b8 a b c d e)(k:∀a b c d e,bz a b c d e->bQ a b c d e->b8 a b c d e->a6):a6:=h.elim λa h=>h.elim λb h=>h.elim λc h=>h.elim λd h=>h.elim λe h=>k a b c d e h.1 h.2.1 h.2.2
theorem acA{bz bQ b8 P3 dt ee i7 lQ rq:di->d1->gf->j5->rd->Prop}(h:∃a,∃b,∃c,∃d,∃e,bz a b c d e/\bQ a b c d e/\b8 a b c d e/\P3 a b c d e/\dt a b c d e/\ee a b c d e/\i7 a b c d e/\lQ a b c d e/\rq a b c d e)(k:∀a b c d e,bz a b c d e->bQ a b c d e->b8 a b c d e->P3 a b c d e->dt a b c d e->ee a b c d e->i7 a b c d e->lQ a b c d e->rq a b c d e->a6):a6:=h.elim λa h=>h.elim λb h=>h.elim λc h=>h.elim λd h=>h.elim λe h=>k a b c d e h.1 h.2.1 h.2.2.1 h.2.2.2.1 h.2.2.2.2.1 h.2.2.2.2.2.1 h.2.2.2.2.2.2.1 h.2.2.2.2.2.2.2.1 h.2.2.2.2.2.2.2.2
variable{ES EU EV:Sort _}
theorem acB{bz:di->d1->gf->j5->rd->ES->EU->EV->Prop}(h:∃a,∃b,∃c,∃d,∃e,∃f,∃g,∃i,bz a b c d e f g i)(k:∀a b c d e f g i,bz a b c d e f g i->a6):a6:=h.elim λa h=>h.elim λb h=>h.elim λc h=>h.elim λd h=>h.elim λe h=>h.elim λf h=>h.elim λg h=>h.elim λi h=>k a b c d e f g i h
theorem Rk{EW:Sort _}{jF:Sort _}{bz bQ:di->d1->gf->j5->rd->ES->EU->EV->EW->jF->Prop}(h:∃a,∃b,∃c,∃d,∃e,∃f,∃g,∃i,∃j,∃l,bz a b c d e f g i j l/\bQ a b c d e f g i j l)(k:∀a b c d e f g i j l,bz a b c d e f g i j l->bQ a b c d e f g i j l->a6):a6:=h.elim λa h=>h.elim λb h=>h.elim λc h=>h.elim λd h=>h.elim λe h=>h.elim λf h=>h.elim λg h=>h.elim λi h=>h.elim λj h=>h.elim λl h=>k a b c d e f g i j l h.1 h.2
theorem acv{EW:Sort _}{jF:Sort _}{Uj:Sort _}{Uk:Sort _}{Ul:Sort _}{Um:Sort _}{bz:di->d1->gf->j5->rd->ES->EU->EV->EW->jF->Uj->Uk->Ul->Um->Prop}(h:∃a,∃b,∃c,∃d,∃e,∃f,∃g,∃i,∃j,∃l,∃m,∃n,∃o,∃p,bz a b c d e f g i j l m n o p)(k:∀a b c d e f g i j l m n o p,bz a b c d e f g i j l m n o p->a6):a6:=h.elim λa h=>h.elim λb h=>h.elim λc h=>h.elim λd h=>h.elim λe h=>h.elim λf h=>h.elim λg h=>h.elim λi h=>h.elim λj h=>h.elim λl h=>h.elim λm h=>h.elim λn h=>h.elim λo h=>h.elim λp h=>k a b c d e f g i j l m n o p h
@[elab_as_elim] theorem G {aQ:Sort _} {a b:aQ} {motive:aQ->Prop} (h:a=b) (k:motive b):motive a:=h▸k
theorem aT{aQ:Type _}{a b:aQ}(h:C a=C b):a=b:=c0 h
theorem eD{aQ:Type _}{β:Type _}{a dq:aQ}{b dF:β}(h:(a,b)=(dq,dF)):a=dq/\b=dF:=Prod.mk.inj h
variable{P:Prop}
theorem bK{aQ:Type _}{a:aQ}(h:none=C a):P:=nomatch h
theorem wJ{aQ:Type _}{a:aQ}(h:C a=none):P:=nomatch h
theorem jB(h:ae=ai):P:=nomatch h
theorem c8(h:ai=ae):P:=nomatch h
theorem ahN{aQ:Type _}{a:aQ}{l:List aQ}(h:[]=a::l):P:=nomatch h
theorem ade{aQ:Type _}{a:aQ}{l:List aQ}(h:a::l=[]):P:=nomatch h
noncomputable abbrev bB:=List Nat
noncomputable def cs(x:aM):bB:=x.cps.toList
theorem J8{m i:Nat}(h:i+1<=m):m-i=m-(i+1)+1:=(Nat.sub_add_cancel (Nat.sub_pos_of_lt h)).symm
variable{n k:Nat}
theorem qt(h:n<=k)(q:k<2^63):(n:Int)<2^63:=mU.mpr (jk h q)
theorem Q2{i:Nat}(q:i<n):-((i:Int)+1)+n=((n-(i+1):Nat):Int):=by(refine G (Int.ofNat_sub q) (G (Eu _ _) ?_));rfl
variable{S bY:Nat}
theorem xW:S+(n+bY)=S+bY+n:=G ((kp n) _) (G (kW _ _ _) rfl)
theorem Ka{a b c x m:Nat}(fB:a=b+c)(eG:x=c)(gv:b<=S+m)(hm:m=4000)(bt:S<=100000)(h:x<=4000):a<=108000:=
 bR (eJ fB) (mS (bR gv (mS bt (eJ hm))) (bR (eJ eG.symm) h))
theorem NX{x d m:Nat}(h:x<=310+2*d)(k:d<=m)(q:310+2*m<=n):x<=n:=bR h (bR (mc (K2 2 k) 310) q)
theorem NW{x d:Nat}(h:x<=310+2*d)(q:k<=2):x+k<=310+2*(d+1):=bR (mS h q) (eJ (kW 310 (2*d) 2))
theorem SU{x d:Nat}(h:x<=30+10*d)(q:k<=10):x+k<=30+10*(d+1):=bR (mS h q) (eJ (kW 30 (10*d) 10))
variable{z:Int}
theorem Mp(h:0<=z/\z<=k)(q:k<n):z.natAbs<n:=by(refine bG (D_ h.1) λm J=>?_;subst J);exact jk (jn.mp h.2) q
theorem CZ:∀n,n<4->n=0\/n=1\/n=2\/n=3:=by exact aS rfl
theorem QE:∀n,n<6->n=0\/n=1\/n=2\/n=3\/n=4\/n=5:=by exact aS rfl
theorem R1{r:Int}(h:1<=r):r.toNat=(20-(21-r)).toNat+1:=by(refine bG (Int.le.dest h) λm J=>?_;(clear h;subst J));exact G (show(20:Int)-(21-(1+m))=m by omega) (kp 1 m)
theorem aex(h:z<=20)(n:¬z=20):(20-z).toNat=(20-(1+z)).toNat+1:=G (R1 (r:=20-z) (by omega)) (G (show 20-(21-(20-z))=20-(1+z) by omega) rfl)
theorem abq{x:Int}(h:0<=x)(k:x<=4):x=0\/x=1\/x=2\/x=3\/x=4:=by(refine bG (D_ h) λm J=>?_;(clear h;subst J));exact(aS rfl:∀m:Nat,m<5->(m:Int)=0\/(m:Int)=1\/(m:Int)=2\/(m:Int)=3\/(m:Int)=4) m (xe (jn.mp k))
theorem kQ{a d b s:Nat}(e:b=a+d)(h:a+2*d<=s):b+d<=s:=by(refine G e ?_;(refine G (kW _ _ _) (G (bW (Nat.two_mul _)) ?_)));exact h
theorem DL{a d s:Nat}(h:a+2*d<=s)(k:s<=n):a+d<=n:=bR (mc (Nat.le_mul_of_pos_left _ (aS rfl)) _) (bR h k)
theorem Jf{m:Nat}(h:1<=m)(k:m<=4):m=1\/m=2\/m=3\/m=4:=(aS rfl:∀m,m<5->1<=m->m=1\/m=2\/m=3\/m=4) m (xe k) h
theorem QH{m:Nat}(h:1<=m)(k:m<=4)(n:¬m=1):m=2\/m=3\/m=4:=(Jf h k).resolve_left n
theorem afA{x y a b:Int}(h:x-a=y-b):a=b↔x=y:=by omega
theorem afB{x y a b:Int}(h:x-a=y-b):a<b↔x<y:=by omega
noncomputable def tl:List Nat->List Nat->Bool:=TS
noncomputable def eqs(a b:aM):Bool:=TS a.cps.toList b.cps.toList
noncomputable def ltI(a b:Int):Bool:=decide (a<b)
noncomputable def kB(a b:Int):Bool:=decide (a=b)
inductive bo where
 |lit (c:Int)
 |aL (c:Int) (neg:Bool) (v:Nat)
noncomputable def bo.ctorIdx(x:bo):Nat:=bo.casesOn x (λI=>0) (λI I I=>1)
inductive c1 where
 |lit (l:bB)
 |dec (e:bo)
 |chr (k:Nat)
 |any (k:Nat)
noncomputable def c1.ctorIdx(x:c1):Nat:=c1.casesOn x (λI=>0) (λI=>1) (λI=>2) (λI=>3)
noncomputable abbrev ag:=List c1
inductive V where
 |c (v:Value)
 |i (e:bo)
 |s (e:ag)
 |r (n:Nat)
 |u
noncomputable def V.ctorIdx(x:V):Nat:=V.casesOn x (λI=>0) (λI=>1) (λI=>2) (λI=>3) 4
inductive O where
 |inst (U:Addr) (dH:List (Str×V))
 |list (xs:List V)
 |iQ (k:Nat) (xs:List V)
 |tup (xs:List V)
 |dict (au:List (ag×V)) (ahL:Option (List ag))
 |jx (n j:Nat)
 |qJ (n:Nat)
 |cell (v:Option V)
 |it (n i:Nat)
 |nk (n i:Nat)
 |itR (i left:Nat)
 |raw (k:Nat)
 |gone
noncomputable def O.ctorIdx(x:O):Nat:=O.casesOn x (λI I=>0) (λI=>1) (λI I=>2) (λI=>3) (λI I=>4) (λI I=>5) (λI=>6) (λI=>7) (λI I=>8) (λI I=>9) (λI I=>10) (λI=>11) 12
inductive dD(aQ:Type) where
 |nil
 |node (v:Option aQ) (l r:dD aQ)
variable{aQ:Type}
noncomputable def dD.ctorIdx(x:dD aQ):Nat:=dD.casesOn x 0 (λI I I=>1)
namespace dD
noncomputable def get(t:dD aQ):Nat->Option aQ:=@dD.rec aQ (λI=>Nat->Option aQ) (λI=>none) (λv I I l r i=>@jZ (λI=>Option aQ) (@jZ (λI=>Option aQ) (r (Nat.pred (xr i 2))) (l (xr i 2)) (cw (Nat.mod i 2) 1)) v (cw i 0)) t
noncomputable def put(d:Nat):dD aQ->Nat->aQ->dD aQ:=@AP (λI=>dD aQ->Nat->aQ->dD aQ) (λt I I=>t) (λI bj t i x=>@dD.rec aQ (λI=>dD aQ)
 (@jZ (λI=>dD aQ) (@jZ (λI=>dD aQ) (.node none .nil (bj .nil (Nat.pred (xr i 2)) x)) (.node none (bj .nil (xr i 2) x) .nil) (cw (Nat.mod i 2) 1)) (.node (C x) .nil .nil) (cw i 0))
 (λv l r I I=>@jZ (λI=>dD aQ) (@jZ (λI=>dD aQ) (.node v l (bj r (Nat.pred (xr i 2)) x)) (.node v (bj l (xr i 2) x) r) (cw (Nat.mod i 2) 1)) (.node (C x) l r) (cw i 0)) t) d
end dD
noncomputable abbrev b6:=Int×Int×Option Nat
structure St where
 σ:dD (Bool×O)
 no:Nat
 ar:List b6
 aC:List bB
 ns:Nat
 loc:List (aM×V)
noncomputable abbrev Loc:=List (aM×V)
inductive Out(aQ:Type) where
 |fail (why:Nat)
 |ok (a:aQ) (st:St)
 |ex (st:St)
noncomputable def Out.ctorIdx(x:Out aQ):Nat:=Out.casesOn x (λI=>0) (λI I=>1) (λI=>2)
noncomputable abbrev M(aQ:Type):=St->Out aQ
noncomputable def M.pure(a:aQ):M aQ:=λst=>.ok a st
noncomputable def M.bind{β:Type}(m:M aQ)(f:aQ->M β):M β:=λst=>@Out.rec aQ (λI=>Out β) .fail f .ex (m st)
noncomputable def fail(n:Nat):M aQ:=λI=>.fail n
noncomputable def raise:M aQ:=λst=>.ex st
noncomputable def bq(n:Nat)(x:Option aQ):M aQ:=@LH aQ (λI=>M aQ) (fail n) M.pure x
inductive dj where
 |next|brk|cont
 |ret (v:V)
noncomputable def dj.ctorIdx(x:dj):Nat:=dj.casesOn x 0 1 2 (λI=>3)
namespace bo
noncomputable def const:bo->Int
 |.lit c=>c
 |.aL c _ _=>c
noncomputable def lo(ar:List b6):bo->Option Int
 |.lit c=>C c
 |.aL c neg v=>match ar[v]? with
  |some b=>match neg with
   |false=>C (c+b.1)
   |true=>C (c-b.2.1)
  |none=>none
noncomputable def bN(ar:List b6):bo->Option Int
 |.lit c=>C c
 |.aL c neg v=>match ar[v]? with
  |some b=>match neg with
   |false=>C (c+b.2.1)
   |true=>C (c-b.1)
  |none=>none
noncomputable def add:bo->bo->Option bo
 |.lit a,.lit b=>C (.lit (a+b))
 |.lit a,.aL c n v=>C (.aL (a+c) n v)
 |.aL c n v,.lit a=>C (.aL (c+a) n v)
 |.aL ..,.aL ..=>none
noncomputable def x5:Bool->Bool->Bool
 |true,b=>b
 |false,b=>!b
noncomputable def same:bo->bo->Bool
 |.lit _,.lit _=>ae
 |.aL _ n v,.aL _ m u=>match x5 n m with
  |true=>cw v u
  |false=>ai
 |.lit _,.aL ..=>ai
 |.aL ..,.lit _=>ai
noncomputable def sub:bo->bo->Option bo
 |.lit a,.lit b=>C (.lit (a-b))
 |.lit a,.aL c n v=>C (.aL (a-c) (!n) v)
 |.aL c n v,.lit a=>C (.aL (c-a) n v)
 |.aL c n v,.aL d m u=>match same (.aL c n v) (.aL d m u) with
  |true=>C (.lit (c-d))
  |false=>none
noncomputable def lt(ar:List b6)(a b:bo):Option Bool:=match same a b with
 |true=>C (ltI a.const b.const)
 |false=>(a.bN ar).bind λx=>(b.lo ar).bind λy=>match ltI x y with
  |true=>C ae
  |false=>(a.lo ar).bind λx=>(b.bN ar).bind λy=>match ltI x y with
   |true=>none
   |false=>C ai
noncomputable def pin(ar:List b6)(a b:bo):Option Bool:=(a.lo ar).bind λx=>(a.bN ar).bind λsh=>(b.lo ar).bind λy=>(b.bN ar).bind λjY=>match kB x sh&&kB y jY&&kB x y with
  |true=>C ae
  |false=>none
noncomputable def eq(ar:List b6)(a b:bo):Option Bool:=match same a b with
 |true=>C (kB a.const b.const)
 |false=>match(lt ar a b).any id with
  |true=>C ai
  |false=>match(lt ar b a).any id with
   |true=>C ai
   |false=>pin ar a b
end bo
noncomputable def bo.small(ar:List b6)(e:bo):Bool:=(bo.lo ar e).any λx=>(bo.bN ar e).any λy=>!ltI x 0&&!ltI 2000000 y
noncomputable def nu(c:Nat)(l:List Nat):Bool:=l.any (cw c)
noncomputable def wH(p l:List Nat):Bool:=p.isPrefixOf l
noncomputable def wQ(p:List Nat):List Nat->Bool
 |[]=>wH p []
 |b::m=>match wH p (b::m) with
  |true=>ae
  |false=>wQ p m
noncomputable def tu(c:Nat):Bool:=(c6 48 c&&c6 c 57)||Nat.beq c 45
noncomputable def clsAt(aC:List bB)(k:Nat):Option bB:=aC[k]?
namespace ag
noncomputable def o_:c1->Option bB
 |.lit l=>C l
 |_=>none
noncomputable def cons(p:c1):ag->ag
 |[]=>[p]
 |q::r=>match(o_ p).bind λl=>(o_ q).map λm=>l++m with
  |some x=>.lit x::r
  |none=>p::q::r
noncomputable def cat:ag->ag->ag
 |[],b=>b
 |[p],b=>cons p b
 |p::r,b=>p::cat r b
inductive sU where
 |done
 |one (c:Nat) (rest:ag)
 |nA (p:c1) (rest:ag)
noncomputable def sU.ctorIdx(x:sU):Nat:=sU.casesOn x 0 (λI I=>1) (λI I=>2)
noncomputable def head:ag->sU
 |[]=>.done
 |.lit []::r=>head r
 |.lit (c::l)::r=>.one c (.lit l::r)
 |p::r=>.nA p r
noncomputable def td(aC:List bB)(k c:Nat):Option Bool:=match clsAt aC k with
 |some l=>C (nu c l)
 |none=>none
noncomputable def BK(a b:bo):Bool:=match bo.same a b with
 |true=>kB a.const b.const
 |false=>ai
noncomputable def ke:Option Bool->Bool
 |some b=>!b
 |none=>ai
noncomputable def G8:c1->Option Bool
 |.any _=>none
 |.lit _=>C ai
 |.dec _=>C ai
 |.chr _=>C ai
noncomputable def Ah(aC:List bB)(c:Nat)(x:Option Bool):c1->Option Bool
 |.dec _=>(match tu c with|true=>none|false=>C ai)
 |.chr k=>(match ke (td aC k c) with|true=>C ai|false=>(match ke x with|true=>C ai|false=>none))
 |.lit _=>none
 |.any _=>none
noncomputable def NO:c1->Option bo
 |.dec e=>C e
 |_=>none
noncomputable def Nk:c1->Option Nat
 |.chr k=>C k
 |_=>none
noncomputable def MD:c1->Option Nat
 |.any k=>C k
 |_=>none
noncomputable def Tb(aC:List bB)(x:Option Bool)(p q:c1):Option Bool:=match p with
 |.lit _=>none
 |.dec a=>(NO q).bind λb=>match BK a b with|true=>x|false=>none
 |.chr k=>(Nk q).bind λj=>match cw k j with
  |true=>x
  |false=>match eK k aC.length&&eK j aC.length with|true=>C ai|false=>none
 |.any k=>(MD q).bind λj=>match cw k j with|true=>x|false=>none
noncomputable def Od(aC:List bB)(E:ag->ag->Option Bool)(a b:sU):Option Bool:=match a with
 |.done=>match b with
  |.done=>C ae
  |.one _ _=>C ai
  |.nA p _=>G8 p
 |.one c r=>match b with
  |.done=>C ai
  |.one d s=>match cw c d with|true=>E r s|false=>C ai
  |.nA p s=>Ah aC c (E r s) p
 |.nA p r=>match b with
  |.done=>G8 p
  |.one c s=>Ah aC c (E r s) p
  |.nA q s=>Tb aC (E r s) p q
noncomputable def eq(ar:List b6)(aC:List bB):Nat->ag->ag->Option Bool
 |0,_,_=>none
 |n+1,a,b=>Od aC (eq ar aC n) (head a) (head b)
noncomputable def Ro(aC:List bB)(c:Nat):c1->Option Bool
 |.lit l=>C (nu c l)
 |.dec _=>(match tu c with|true=>none|false=>C ai)
 |.chr k=>(match ke (td aC k c) with|true=>C ai|false=>none)
 |.any _=>none
noncomputable def occurs(aC:List bB)(c:Nat):ag->Option Bool
 |[]=>C ai
 |p::r=>match ke (occurs aC c r) with
  |true=>Ro aC c p
  |false=>occurs aC c r
noncomputable def CU(l:bB):ag->Bool
 |[]=>ai
 |p::r=>match(o_ p).any (wQ l) with
  |true=>ae
  |false=>CU l r
noncomputable def x1(aC:List bB)(e:ag):bB->Bool
 |[]=>ai
 |c::l=>match ke (occurs aC c e) with
  |true=>ae
  |false=>x1 aC e l
theorem Ve(aC:List bB)(e:ag)(c:Nat)(l:bB):x1 aC e (c::l)=match ke (occurs aC c e) with|true=>ae|false=>x1 aC e l:=rfl
noncomputable def has(aC:List bB)(l:bB)(e:ag):Option Bool:=match CU l e with
 |true=>C ae
 |false=>match x1 aC e l with
  |true=>C ai
  |false=>none
noncomputable def first(e:ag):Option ag:=match head e with
 |.one c _=>C [.lit [c]]
 |.nA (.chr k) _=>C [.chr k]
 |_=>none
noncomputable def kf:ag->Option bB
 |[]=>C []
 |[.lit l]=>C l
 |_=>none
end ag
noncomputable def ag.wide(ar:List b6):ag->Option Nat
 |[]=>C 0
 |p::r=>(ag.wide ar r).bind λn=>match p with
   |.lit l=>C (l.length+n)
   |.dec e=>(match bo.small ar e with|true=>C (8+n)|false=>none)
   |.chr _=>C (n+1)
   |.any _=>C (n+1000)
theorem ag.agv(ar:List b6)(p:c1)(r:ag):ag.wide ar (p::r)=(ag.wide ar r).bind λn=>match p with|.lit l=>C (l.length+n)|.dec e=>(match bo.small ar e with|true=>C (8+n)|false=>none)|.chr _=>C (n+1)|.any _=>C (n+1000):=rfl
noncomputable def ag.fits(ar:List b6)(a b:ag):Option Unit:=(ag.wide ar a).bind λm=>(ag.wide ar b).bind λn=>match c6 (m+n) 100000 with|true=>C ()|false=>none
noncomputable def Xm(ar:List b6)(aC:List bB):V->V->Option Bool
 |.i a,.i b=>bo.eq ar a b
 |.s a,.s b=>ag.eq ar aC 400 a b
 |_,_=>none
inductive xC where
 |no|stuck
 |at(i:Nat) (v:V)
noncomputable def xC.ctorIdx(x:xC):Nat:=xC.casesOn x 0 1 (λI I=>2)
noncomputable def tv(ar:List b6)(aC:List bB)(k:ag):Nat->List (ag×V)->xC
 |_,[]=>.no
 |i,e::r=>match ag.eq ar aC 400 e.1 k with
  |some true=>.at i e.2
  |some false=>tv ar aC k (i+1) r
  |none=>.stuck
theorem OF(ar:List b6)(aC:List bB)(k:ag)(i:Nat)(e:ag×V)(r:List (ag×V)):tv ar aC k i (e::r)=match ag.eq ar aC 400 e.1 k with|some true=>.at i e.2|some false=>tv ar aC k (i+1) r|none=>.stuck:=rfl
noncomputable def zw(ar:List b6)(aC:List bB)(k:ag):List ag->Bool
 |[]=>ai
 |e::r=>match(ag.eq ar aC 400 e k).any id with
  |true=>ae
  |false=>zw ar aC k r
theorem abw(ar:List b6)(aC:List bB)(k e:ag)(r:List ag):zw ar aC k (e::r)=match(ag.eq ar aC 400 e k).any id with|true=>ae|false=>zw ar aC k r:=rfl
noncomputable def look(ar:List b6)(aC:List bB)(k:ag)(au:List (ag×V))(op:Option (List ag)):Option (Option (Nat×V)):=match tv ar aC k 0 au with
 |.at i v=>C (C (i,v))
 |.stuck=>none
 |.no=>match op with
  |none=>C none
  |some abs=>match zw ar aC k abs with
   |true=>C none
   |false=>none
noncomputable def eh(x:aM)(l:List (aM×V)):Option V:=@sz (aM×V) (λI=>Option V) none (λe I bj=>@Prod.rec aM V (λI=>Option V) (λk v=>@jZ (λI=>Option V) bj (C v) (eqs k x)) e) l
theorem Ht(x:aM)(e:aM×V)(r:List (aM×V)):eh x (e::r)=match eqs e.1 x with|true=>C e.2|false=>eh x r:=by kernel_rfl
noncomputable def ov(x:aM)(v:V)(l:List (aM×V)):List (aM×V):=@sz (aM×V) (λI=>List (aM×V)) [(x,v)] (λe r bj=>@Prod.rec aM V (λI=>List (aM×V)) (λk w=>@jZ (λI=>List (aM×V)) ((k,w)::bj) ((k,v)::r) (eqs k x)) e) l
theorem ac7(x:aM)(v:V)(e:aM×V)(r:List (aM×V)):ov x v (e::r)=match eqs e.1 x with|true=>(e.1,v)::r|false=>e::ov x v r:=by kernel_rfl
noncomputable def cU:Nat:=24
noncomputable def St.at(st:St)(n:Nat):Option O:=@LH (Bool×O) (λI=>Option O) none (λx=>C x.2) (st.σ.get n)
noncomputable def load(n:Nat):M O:=λst=>@LH (Bool×O) (λI=>Out O) (.fail (1000+n)) (λx=>.ok x.2 st) (st.σ.get n)
noncomputable def store(n:Nat)(o:O):M Unit:=λst=>match st.σ.get n with
 |some (true,_)=>(match eK n 10000000 with
  |true=>@St.rec (λI=>Out Unit) (λσ no ar aC ns loc=>.ok () ⟨σ.put cU n (ae,o),no,ar,aC,ns,loc⟩) st
  |false=>.fail 2)
 |_=>.fail (2000+n)
noncomputable def drop(n:Nat):M Unit:=λst=>match st.σ.get n with
 |some (true,_)=>(match eK n 10000000 with
  |true=>.ok () {st with σ:=st.σ.put cU n (ai,.gone)}
  |false=>.fail 2)
 |_=>.fail (3000+n)
noncomputable def alloc(o:O):M Nat:=@St.rec (λI=>Out Nat) λσ no ar aC ns loc=>@jZ (λI=>Out Nat) (.fail 2) (.ok no ⟨σ.put cU no (ae,o),Nat.succ no,ar,aC,ns,loc⟩) (eK no 10000000)
noncomputable def g7(x:aM)(l:List (aM×gC)):Option NameKind:=@sz (aM×gC) (λI=>Option gC) none (λe I bj=>@Prod.rec aM gC (λI=>Option gC) (λk v=>@jZ (λI=>Option gC) bj (C v) (eqs k x)) e) l
noncomputable def wu:aB->V
 |.int i _=>.i (.lit i)
 |.str s _=>.s [.lit (cs s)]
 |v=>.c v
noncomputable def wV(n:Nat)(l:List (az×cj)):List (az×cj):=@AP (λI=>List (az×cj)->List (az×cj)) (λI=>[]) (λI bj l=>@sz (az×cj) (λI=>List (az×cj)) [] (λe r I=>e::bj r) l) n l
noncomputable def yl(n:Nat)(l:List (az×cj)):List (az×cj):=@AP (λI=>List (az×cj)->List (az×cj)) (λl=>l) (λI bj l=>@sz (az×cj) (λI=>List (az×cj)) [] (λI r I=>bj r) l) n l
noncomputable def r0(l:List (az×cj)):Nat:=@sz (az×cj) (λI=>Nat) 0 (λe I bj=>@jZ (λI=>Nat) bj e.1 (c6 bj e.1)) l
noncomputable def v9(a:Nat)(k:Option cj)(l:List (az×cj)):Option Obj:=@sz (az×cj) (λI=>Option cj) k (λe I bj=>@jZ (λI=>Option cj) bj (C e.2) (cw e.1 a)) l
noncomputable def v_(n:Nat)(l:List (az×cj))(a:Nat):Option Obj:=@AP (λI=>List (az×cj)->Option cj) (v9 a none) (λI bj l=>@jZ (λI=>Option cj) (bj (yl 32 l)) (v9 a (bj (yl 32 l)) (wV 32 l)) (c6 a (r0 (wV 32 l)))) n l
noncomputable def qz(K:b5)(a:Nat):Option Obj:=@AP (λI=>Option cj) (v_ 20 K 0) (λn I=>v_ 20 K (Nat.succ n)) a
theorem abn{a:Nat}{k:Option cj}{e:az×cj}{l:List (az×cj)}:v9 a k (e::l)=@jZ (λI=>Option cj) (v9 a k l) (C e.2) (cw e.1 a):=rfl
theorem Qv{a:Nat}:∀(l r:List (az×cj)),v9 a (r.lookup a) l=(l++r).lookup a:=by
 intro l r;induction l with
 |nil=>rfl
 |cons e l bj=>
  rw[abn,bj,Lg,md];generalize q:cw e.1 a=z;induction z using bV with
  |true=>rw[d0 q,beq_self_eq_true]
  |false=>rw[beq_eq_false_iff_ne.mpr (j1 (Eb q))]
theorem abI{a:Nat}:∀(l:List (az×cj)),c6 a (r0 l)=ai->l.lookup a=none:=by
 intro l;induction l with
 |nil=>exact λI=>rfl
 |cons e l bj=>
  intro h;have ay:c6 a (@jZ (λI=>Nat) (r0 l) e.1 (c6 (r0 l) e.1))=false:=h;have k:c6 a (r0 l)=ai/\c6 a e.1=false:=by
   generalize q:c6 (r0 l) e.1=z at ay;induction z using bV with
   |true=>exact⟨xc.mpr λg=>xc.mp ay (Ap (bR (bA g) (bA q))),ay⟩
   |false=>exact⟨ay,xc.mpr λg=>xc.mp ay (Ap (bR (bA g) (Nat.le_of_not_le λx=>xc.mp q (Ap x))))⟩
  rw[md,bj k.1,beq_eq_false_iff_ne.mpr];intro x;exact xc.mp k.2 (Ap (eJ x))
theorem Sy:∀(n:Nat)(l:List (az×cj)),wV n l++yl n l=l:=by
 intro n;induction n with
 |zero=>exact λI=>rfl
 |succ n bj=>
  intro l;cases l with
  |nil=>rfl
  |cons e l=>exact congrArg (e::·) (bj l)
theorem Qw{a:Nat}:∀(n:Nat)(l:List (az×cj)),v_ n l a=l.lookup a:=by
 intro n;induction n with
 |zero=>exact λl=>(Qv l []).trans (by rw[lM])
 |succ n bj=>
  intro l;show @jZ (λI=>Option cj) (v_ n (yl 32 l) a) (v9 a (v_ n (yl 32 l) a) (wV 32 l)) (c6 a (r0 (wV 32 l)))=_;rw[bj,Qv,Sy];generalize q:c6 a (r0 (wV 32 l))=z;induction z using bV with
  |true=>rfl
  |false=>refine Eq.trans ?_ (congrArg (List.lookup a) (Sy 32 l));rw[T9,abI _ q];rfl
theorem CV{K:b5}{a:Nat}:qz K a=K.lookup a:=by
 cases a with
 |zero=>exact Eq.trans (b:=v_ 20 K 0) (by kernel_rfl) (Qw 20 K)
 |succ n=>exact Qw 20 K
theorem zm{K:b5}{a:Nat}{o:cj}(h:qz K a=C o):K.lookup a=C o:=CV.symm.trans h
noncomputable def pD(i k:Nat)(f:i=k->Option aQ):Option aQ:=match h:cw i k with
 |true=>f (d0 h)
 |false=>none
noncomputable def Gu(d:Data):Option ClassData:=pD d.ctorIdx 8 λh=>Lu d h C
noncomputable def vn(d:Data):Option (Array hT):=pD d.ctorIdx 3 λh=>Data.dict.elim d h λau I=>C au
noncomputable def wN(v:aB):Option Addr:=pD v.ctorIdx 10 λh=>Lp v h C
noncomputable def Kf(v:aB):Option String:=pD v.ctorIdx 8 λh=>Lh v h C
noncomputable def MS(v:aB):Option String:=pD v.ctorIdx 9 λh=>KV v h C
noncomputable def Sn(v:aB):Option Str:=pD v.ctorIdx 6 λh=>Value.str.elim v h λx I=>C x
noncomputable def CP(x:aM)(e:hT):Bool:=(Sn e.key).any λy=>eqs y x
noncomputable def BP(x:aM)(l:List hT):Option Value:=(l.find? (CP x)).map (·.val)
noncomputable def ph(K:b5)(ns:az)(x:aM):Option (Option aB):=(qz K ns).bind λo=>(vn o.data).bind λau=>match BP x au.toList with
 |some v=>C (C v)
 |none=>bif au.toList.any (·.refKey) then none else C none
noncomputable def Jk(x:aM)(l:List aM):Bool:=l.any λy=>eqs y x
noncomputable def Jt:List Str:=[bO "place",bO "limits",bO "choose",bO "types",bO "typed",bO "static",bO "builders",bO "ways",bO "declarations",bO "statements",bO "line",bO "count"]++ [bO "under_way",bO "kind",bO "owner",bO "parent",bO "root",bO "made",bO "number",bO "level",bO "part",bO "names",bO "order",bO "uses"]++ [bO "use_types",bO "counts",bO "type_homes",bO "generic",bO "name",bO "key",bO "subtype",bO "data",bO "unique",bO "home",bO "region",bO "full"]++ [bO "is_ready",bO "is_complete",bO "is_constant",bO "is_implicit",bO "is_overridden",bO "naming",bO "steps",bO "inner",bO "table",bO "width",bO "depth",bO "members"]++ [bO "text",bO "tasks",bO "heap"]
noncomputable def zR(U:az)(l:List aB):Bool:=(l.head?.bind wN).any (λa=>cw a U)&&((l.tail.head?.bind Kf).any (λt=>t=="object")&&l.tail.tail.isEmpty)
noncomputable def vT(x:Option (Option aB)):Bool:=x.any Option.isNone
noncomputable def x_(K:b5)(U:az):Option ClassData:=(qz K U).bind λo=>Gu o.data
noncomputable def Gw(K:b5)(U:az):Bool:=(x_ K U).any λcd=>cd.hasDict&&(zR U cd.mro&&(vT (ph K cd.ns "__getattribute__")&&(vT (ph K cd.ns "__setattr__")&&vT (ph K cd.ns "__getattr__"))))
noncomputable def attrOk(K:b5)(U:az)(x:aM):Bool:=(x_ K U).any λcd=>Jk x Jt&&(vT (ph K cd.ns x)&&(zR U cd.mro&&Gw K U))
noncomputable def zx(K:b5)(U:az)(x:aM):Option (Option aB):=(x_ K U).bind λcd=>(cd.mro.head?.bind wN).bind λa=>bif cw a U then(ph K cd.ns x).bind λy=>y.map C else none
noncomputable def y8(v:aB):Bool:=(Kf v).any λt=>t=="type"
noncomputable def IP(K:b5)(a:az):Bool:=(qz K a).any λo=>cw o.data.ctorIdx 7||(Nat.beq o.data.ctorIdx 8&&y8 o.cls)
noncomputable def Jg(K:b5)(U:az):Bool:=(qz K U).any λo=>(Gu o.data).any λcd=>y8 o.cls&&(!cd.abstract&&(!cd.hasDel&&(((o.slots.toList[4]?).join.bind MS).any (λi=>i=="object.__new__")&&zR U cd.mro)))
variable{fb:Type}
theorem cu{x:Option aQ}{f:aQ->Option fb}{b:fb}(h:x.bind f=C b)(k:∀a,x=C a->f a=C b->P):P:=by
 induction x using b1 with
 |none=>exact bK h
 |some a=>exact k a rfl h
theorem cF{x:Option aQ}{p:aQ->Bool}(h:x.any p=ae)(k:∀a,x=C a->p a=ae->a6):a6:=by
 induction x using b1 with
 |none=>exact c8 h
 |some a=>exact k a rfl h
theorem Du{l:List aQ}{x:aQ}(h:l.length=1)(e:l[0]? =C x):l=[x]:=by
 induction l using eo with
 |nil=>injection h
 |cons y l=>
  induction l using eo with
  |nil=>exact congrArg (λz=>[z]) (c0 e)
  |cons _ _=>cases h
theorem af1{l:List aQ}{x y:aQ}(h:l.length=2)(e:l[0]? =C x)(cf:l[1]? =C y):l=[x,y]:=by
 induction l using eo with
 |nil=>injection h
 |cons z l=>exact G (Du (l:=l) (su h) cf) (G (c0 e) rfl)
variable{b:Bool}
theorem bS{a:Bool}(h:(a&&b)=ae):a=true:=(KW.mp h).1
theorem bC{a:Bool}(h:(a&&b)=ae):b=true:=(KW.mp h).2
theorem w4{i:Nat}{f:i=k->Option aQ}{y:aQ}(h:pD i k f=C y)(q:∀h,f h=C y->P):P:=by
 unfold pD at h;split at h
 .exact q _ h
 .exact bK h
theorem Nm{d:Data}{c:ClassData}(h:Gu d=C c):d=.cls c:=w4 h λay q=>
 Lu (motive:=λd=>∀ay,Lu (motive:=λI=>Option ClassData) d ay C=C c->d=.cls c) d ay (λI I q=>by(obtain J:=aT q;clear q;(clear q h;subst J));rfl) ay q
theorem DI{v:aB}{a:az}(h:wN v=C a):v=.ref a:=w4 h λay q=>
 Lp (motive:=λd=>∀ay,Lp (motive:=λI=>Option az) d ay C=C a->d=.ref a) v ay (λI I q=>by(obtain J:=aT q;clear q;(clear q h;subst J));rfl) ay q
theorem SP{v:aB}{a:String}(h:Kf v=C a):v=.type a:=w4 h λay q=>
 Lh (motive:=λd=>∀ay,Lh (motive:=λI=>Option String) d ay C=C a->d=.type a) v ay (λI I q=>by(obtain J:=aT q;clear q;(clear q h;subst J));rfl) ay q
theorem VD{v:aB}{a:String}(h:MS v=C a):v=.builtin a:=w4 h λay q=>
 KV (motive:=λd=>∀ay,KV (motive:=λI=>Option String) d ay C=C a->d=.builtin a) v ay (λI I q=>by(obtain J:=aT q;clear q;(clear q h;subst J));rfl) ay q
theorem yo{a b:List Nat}:tl a b=ae↔a=b:=PySem.W.Fast.lEq_iff
theorem gr{a b:aM}:eqs a b=ae↔a=b:=by unfold eqs;refine Iff.trans yo ⟨λh=>?_,λh=>by exact G h rfl⟩;obtain⟨⟨x⟩⟩:=a;obtain⟨⟨y⟩⟩:=b;exact congrArg (λl=>Str.mk ⟨l⟩) h
theorem aaJ(x:aM)(e:hT):CP x e=e.key.isStr x:=by
 unfold CP;induction e.key using lJ with
 |str y t=>show eqs y x=(y==x);(refine gN xi ?_;rewrite[gr,beq_iff_eq];with_reducible rfl)
 |_=>rfl
theorem Dl(K:b5)(ns:az)(x:aM):ph K ns x=lI K ns x:=by
 unfold ph lI;refine G (CV (K:=K) (a:=ns)) ?_;generalize h:K.lookup ns=aF;induction aF using b1 with
 |none=>rfl
 |some o=>
  obtain(⟨c,d,data,dd⟩):=o;clear h;induction data using Au with
  |dict au n=>
   show(match BP x au.toList with|some v=>C (C v)|none=>bif au.toList.any (·.refKey) then none else C none)=(match au.toList.find? (·.key.isStr x) with|some e=>C (C e.val)|none=>if au.toList.any (·.refKey) then none else C none);refine G (show BP x au.toList=(au.toList.find? (·.key.isStr x)).map (·.val) by unfold BP;exact G (show CP x=λe=>e.key.isStr x from funext (aaJ x)) rfl) ?_;cases au.toList.find? (·.key.isStr x) with
   |some e=>rfl
   |none=>cases au.toList.any (·.refKey)<;>rfl
  |_=>rfl
variable{x:aM}
theorem aby{l:List aM}(h:Jk x l=ae):x∈l:=aU (Ei.mp h) λy m e=>gr.mp e▸m
theorem aco:(Jt.all λx=>(xl "object" x).isNone)=true:=by kernel_rfl
theorem acp(h:Jk x Jt=ae):xl "object" x=none:=by obtain this:=eX.mp aco x (aby h);exact nO.mp this
variable{U:az}
theorem JA{l:List aB}(h:zR U l=ae):l=[.ref U,.type "object"]:=by
 refine cF (bS h) λa a9 aa=>cu a9 λv a9 GX=>cF (bS (bC h)) λt bf af=>cu bf λw bf W3=>?_;obtain cC:=bC (bC h);clear h;induction l using eo with
 |nil=>exact bK a9
 |cons x l=>
  induction l using eo with
  |nil=>exact bK bf
  |cons y l=>
   induction l using eo with
   |cons _ _=>exact c8 cC
   |nil=>exact G (c0 a9) (G (c0 bf) (G (DI GX) (G (SP W3) (G (d0 aa) (G (beq_iff_eq.mp af) rfl)))))
theorem aal{x:Option (Option aB)}(h:vT x=ae):x=C none:=cF h λa e q=>by exact G e (G (nO.mp q) rfl)
variable{K:b5}{cd:ClassData}{bF:aB}{fU:Option az}
section
theorem Gv(h:x_ K U=C cd):∃bF fU dd,K.lookup U=C ⟨bF,fU,.cls cd,dd⟩:=cu h λo e q=>(D5 o.cls o.dict o.slots (G (zm e) (G (bW (Nm q)) rfl)))
theorem Hh{dd:Array (Option aB)}(h:K.lookup U=C ⟨bF,fU,.cls cd,dd⟩):ko K (.ref U) x=xw K x cd.mro/\ownIn K x (.ref U)=lI K cd.ns x/\clsIn K U=C cd:=by unfold ko ownIn clsIn;dsimp only;exact G h (fi rfl rfl rfl)
theorem MB{c:aB}{r:List aB}{v:aB}(h:ownIn K x c=C (C v)):xw K x (c::r)=C (C v):=by show(match ownIn K x c with|some (some v)=>C (C v)|some none=>xw K x r|none=>none)=_;exact G h rfl
theorem MA{c:aB}{r:List aB}(h:ownIn K x c=C none):xw K x (c::r)=xw K x r:=by show(match ownIn K x c with|some (some v)=>C (C v)|some none=>xw K x r|none=>none)=_;exact G h rfl
theorem BQ{r:Option aB}(h:x_ K U=C cd)(hm:zR U cd.mro=ae)(aO:vT (ph K cd.ns x)=ae)(bx:xl "object" x=r):ko K (.ref U) x=C r:=by
 refine wo (Gv h) λbF fU dd h=>fO (Hh (x:=x) h) λaa af I=>?_;(refine G aa (G (JA hm) (G (MA (af.trans ((Dl ..).symm.trans (aal aO)))) ?_)));induction r using b1 with
 |some v=>exact MB (congrArg C bx)
 |none=>exact MA (congrArg C bx)
structure E0(K:b5)(U:az):Prop where
 hd:hasDictIn K U=ae
 po:plainOver K U=ae
 ga:ko K (.ref U) "__getattribute__"=C (C (.builtin "object.__getattribute__"))
 r_:ko K (.ref U) "__setattr__"=C (C (.builtin "object.__setattr__"))
 gt:ko K (.ref U) "__getattr__"=C none
theorem acq:xl "object" "__getattribute__"=C (.builtin "object.__getattribute__"):=by kernel_rfl
theorem acs:xl "object" "__setattr__"=C (.builtin "object.__setattr__"):=by kernel_rfl
theorem acr:xl "object" "__getattr__"=none:=by kernel_rfl
theorem Nq(h:Gw K U=ae):E0 K U:=cF h λcd bb h=>by
 refine wo (Gv bb) λI I I q=>?_;have e:=(Hh (x:="") q).2.2;refine⟨by unfold hasDictIn;exact G e (bS h),by unfold plainOver;refine G e ?_;show onlyObject cd.mro=ae;refine G (JA (bS (bC h))) ?_;rfl,?_,?_,?_⟩
 .exact BQ bb (bS (bC h)) (bS (bC (bC h))) acq
 .exact BQ bb (bS (bC h)) (bS (bC (bC (bC h)))) acs
 .exact BQ bb (bS (bC h)) (bC (bC (bC (bC h)))) acr
theorem MJ(h:attrOk K U x=ae):ko K (.ref U) x=C none/\E0 K U:=cF h λI bb h=>
 ⟨BQ bb (bS (bC (bC h))) (bS (bC h)) (acp (bS h)),Nq (bC (bC (bC h)))⟩
theorem QN{v:aB}(h:zx K U x=C (C v)):ko K (.ref U) x=C (C v):=cu h λcd bb h=>cu h λa e h=>cu e λw e cf=>by
 refine wo (Gv bb) λI I I q=>fO (Hh (x:=x) q) λaa af I=>?_;generalize aD:cw a U=aF;induction aF using bV with
 |false=>rw[aD] at h;exact bK h
 |true=>
  rw[aD] at h;refine cu h λy bT h=>?_;induction y using b1 with
  |none=>exact bK h
  |some gA=>
   (obtain J:=aT h;clear h;obtain bU:=aT J;clear J;(clear h;subst bU));refine G aa ?_;generalize hm:cd.mro=aF;induction aF using eo with
   |nil=>rw[hm] at e;exact bK e
   |cons y r=>rw[hm] at e;(refine G (c0 e) (G (DI cf) (G (d0 aD) ?_)));exact MB (af.trans ((Dl ..).symm.trans bT))
theorem aam{c:aB}(h:y8 c=ae):c=.type "type":=cF h λt e q=>by exact G (SP e) (G (beq_iff_eq.mp q) rfl)
theorem af2:ko K (.type "type") "__call__"=C (C (.builtin "type.__call__")):=by show fastLookup "type" "__call__"=_;kernel_rfl
theorem SQ{a:az}{o:cj}(h:K.lookup a=C o)(bb:y8 o.cls=ae):typeIn K (.ref a)=C (.type "type")/\specialIn K (.ref a) "__call__"=C (C (.builtin "type.__call__")):=by
 have e:typeIn K (.ref a)=C (.type "type"):=by unfold typeIn;show(K.lookup a).map (·.cls)=_;exact G h (G (nS _ _) (G (aam bb) rfl))
 exact⟨e,by unfold specialIn;exact G e (af2 (K:=K))⟩
theorem P2{a:az}(h:IP K a=ae):sI K (.ref a)=true:=cF h λo e h=>by
 replace e:=zm e;unfold sI;obtain(⟨c,d,data,dd⟩):=o;dsimp only;refine G e ?_;induction data using Au with
 |func f=>rfl
 |cls cd=>dsimp only;exact G (SQ e (bC (show(cw 8 8&&y8 c)=ae from h))).2 (beq_self_eq_true _)
 |_=>exact c8 h
theorem af3:subIn K (.type "type") (.type "type")=C true:=by kernel_rfl
theorem abt(h:Jg K U=ae):makesIn K U=true:=cF h λo e h=>cF h λcd hd h=>by
 obtain(⟨c,d,data,dd⟩):=o;replace e:=zm e;cases Nm hd;unfold makesIn;refine G e ?_;dsimp only at h ⊢;refine a3 (SQ e (bS h)) λt1 jh=>?_;obtain gZ:instIn K (.ref U) (.type "type")=C true:=by unfold instIn;exact G t1 (af3 (K:=K))
 obtain i9:(dd.toList[4]?).join=C (.builtin "object.__new__"):=cF (bS (bC (bC (bC h)))) λi q p=>cu q λv q en=>by exact G q (G (VD en) (G (beq_iff_eq.mp p) rfl))
 (refine G (bS (bC h)) (G (bS (bC (bC h))) (G jh (G gZ (G i9 (G (JA (bC (bC (bC (bC h))))) ?_))))));simp
end
structure cK where
 scope:pK
 cells:List (aM×Nat)
 dep:Nat
structure fc where
 ev:cK->bk->M V
 eO:cK->bk->M Bool
 ca:Nat->V->List V->M V
 xs:cK->List eQ->M dj
 kC:cK->bk->Nat->List eQ->M dj
 dK:cK->bk->List eQ->M dj
 cl:cK->bk->Nat->Nat->Nat->M Unit
noncomputable def l7(fS:Loc)(m:M aQ):M aQ:=@St.rec (λI=>Out aQ) λσ no ar aC ns loc=>@Out.rec aQ (λI=>Out aQ) .fail (λa=>@St.rec (λI=>Out aQ) λσ no ar aC ns I=>.ok a ⟨σ,no,ar,aC,ns,loc⟩) (@St.rec (λI=>Out aQ) λσ no ar aC ns I=>.ex ⟨σ,no,ar,aC,ns,loc⟩) (m ⟨σ,no,ar,aC,ns,fS⟩)
noncomputable def tC(x:aM):M V:=λst=>match eh x st.loc with
 |some v=>.ok v st
 |none=>.fail 3
noncomputable def Sf(x:aM)(v:V):M Unit:=@St.rec (λI=>Out Unit) λσ no ar aC ns loc=>.ok () ⟨σ,no,ar,aC,ns,ov x v loc⟩
noncomputable def guard(k:Nat)(b:Bool):M Unit:=@jZ (λI=>M Unit) (fail k) (M.pure ()) b
noncomputable def V.dv:V->Option Nat
 |.r n=>C n
 |_=>none
noncomputable def V.aE:V->Option bo
 |.i e=>C e
 |_=>none
noncomputable def V.cn:V->Option ag
 |.s e=>C e
 |_=>none
noncomputable def V.aj:V->Option aB
 |.c v=>C v
 |_=>none
noncomputable def O.rU:O->Option (az×List (aM×V))
 |.inst U dH=>C (U,dH)
 |_=>none
noncomputable def O.kH:O->Option (List V)
 |.list xs=>C xs
 |_=>none
noncomputable def O.SK:O->Option (List V)
 |.tup xs=>C xs
 |_=>none
noncomputable def O.i_:O->Option (List (ag×V)×Option (List ag))
 |.dict au op=>C (au,op)
 |_=>none
noncomputable def O.Di(o:O):Bool:=o.i_.any λq=>q.1.isEmpty&&q.2.isNone
noncomputable def O.rC:O->Option (Option V)
 |.cell v=>C v
 |_=>none
noncomputable def iD:List aQ->Option aQ
 |[]=>none
 |x::r=>match r with
  |[]=>C x
  |_::_=>none
noncomputable def oy:List aQ->Option (aQ×aQ)
 |[]=>none
 |x::r=>(iD r).map λy=>(x,y)
noncomputable def kK:List aQ->Option Unit
 |[]=>C ()
 |_::_=>none
noncomputable def litOf:bo->Option Int
 |.lit c=>C c
 |.aL ..=>none
noncomputable def isRef(n:Nat):aB->Bool
 |.ref a=>cw a n
 |_=>ai
noncomputable def O.z5:O->Option (List V)
 |.list xs=>C xs
 |.tup xs=>C xs
 |_=>none
noncomputable def O.v7:O->Option (Nat×List V)
 |.iQ k xs=>C (k,xs)
 |_=>none
noncomputable def O.tV:O->Option (Nat×Nat)
 |.jx n j=>C (n,j)
 |_=>none
noncomputable def y6:aB->Bool
 |.none=>ae
 |_=>ai
noncomputable def IA(v:V):Bool:=match v.aj with
 |some v=>y6 v
 |none=>ai
noncomputable def nat?:Int->Option Nat
 |.ofNat n=>C n
 |.negSucc _=>none
noncomputable def va:bo->Option (Nat×Nat)
 |.lit _=>none
 |.aL c neg v=>match neg with
  |true=>none
  |false=>(nat? c).map λd=>(d,v)
noncomputable def pe(v:V):Option Nat:=v.aE.bind λe=>(litOf e).bind nat?
noncomputable def Bg(v:V):Option (Nat×Nat):=v.aE.bind va
noncomputable def SJ(o:cj):Option (List aB):=match o.cls with
 |.type t=>(match o.data with
  |.seq g6 _=>(match t=="tuple" with
   |true=>C g6.toList
   |false=>none)
  |_=>none)
 |_=>none
noncomputable def tupK(K:b5)(v:aB):Option (List aB):=match v with
 |.ref a=>(qz K a).bind SJ
 |_=>none
noncomputable def fR(k n:Nat)(f:O->Option aQ):M aQ:=(load n).bind λo=>bq k (f o)
noncomputable def k3(x:aM):List (aM×Nat)->Option Nat
 |[]=>none
 |e::r=>match eqs e.1 x with
  |true=>C e.2
  |false=>k3 x r
theorem Gk(x:aM)(e:aM×Nat)(r:List (aM×Nat)):k3 x (e::r)=match eqs e.1 x with|true=>C e.2|false=>k3 x r:=rfl
noncomputable def abG(l:bB):Str:=⟨l.toArray⟩
noncomputable def Gg(x:aM):Option Value:=
 match eqs x "len" with
 |true=>C (.builtin "len")
 |false=>match eqs x "range" with
  |true=>C (.type "range")
  |false=>match eqs x "str" with
   |true=>C (.type "str")
   |false=>match eqs x "list" with
    |true=>C (.type "list")
    |false=>none
noncomputable def DB(x:aM):Bool:=match x.cps.toList with
 |a::b::_=>(match cw a 95 with
  |true=>(match cw b 95 with|true=>ai|false=>ae)
  |false=>ae)
 |_=>ae
noncomputable def cellGet(ab:cK)(x:aM):M V:=(bq 5 (k3 x ab.cells)).bind λn=>(fR 6 n O.rC).bind λv=>bq 6 v
noncomputable def Yt(K:b5)(x:aM):M V:=(bq 8 (ph K ik x)).bind λv=>match v with
 |some v=>M.pure (wu v)
 |none=>(bq 7 (Gg x)).bind λv=>M.pure (.c v)
noncomputable def ng(K:b5)(ab:cK)(x:aM):M V:=(guard 9 (DB x)).bind λI=>(bq 9 (g7 x ab.scope.names)).bind λk=>match k with
 |.local=>tC x
 |.cell=>cellGet ab x
 |.free=>cellGet ab x
 |.globalImplicit=>Yt K x
 |_=>fail 9
noncomputable def jf(ab:cK)(x:aM)(v:V):M Unit:=(bq 10 (g7 x ab.scope.names)).bind λk=>match k with
 |.local=>Sf x v
 |.cell=>(bq 5 (k3 x ab.cells)).bind λn=>(fR 6 n O.rC).bind λI=>store n (.cell (C v))
 |_=>fail 10
noncomputable def Rf:V->Bool
 |.c (.builtin _)=>ai
 |.u=>ai
 |_=>ae
noncomputable def rI(K:b5)(v:V)(x:aM):M V:=(bq 15 v.dv).bind λn=>(fR 14 n O.rU).bind λp=>(guard 12 (attrOk K p.1 x)).bind λI=>(bq 11 (eh x p.2)).bind λu=>(guard 13 (Rf u)).bind λI=>M.pure u
noncomputable def setAt(K:b5)(v:V)(x:aM)(y:V):M Unit:=(bq 18 v.dv).bind λn=>(fR 17 n O.rU).bind λp=>(guard 16 (attrOk K p.1 x&&eK p.2.length 1000)).bind λI=>store n (.inst p.1 (ov x y p.2))
noncomputable def truthy(v:V):M Bool:=match v with
 |.c (.bool b)=>M.pure b
 |.c .none=>M.pure ai
 |_=>fail 20
noncomputable def Af(b:Bool):V:=.c (.bool b)
noncomputable def nH:V:=.c .none
noncomputable def ib(n:Nat)(f:List b6->List bB->Option aQ):M aQ:=λst=>match f st.ar st.aC with
 |some a=>.ok a st
 |none=>.fail n
noncomputable def Q_:aB->Option Bool
 |.none=>C ae
 |.bool _=>C ai
 |.ref _=>C ai
 |_=>none
noncomputable def isNone:V->Option Bool
 |.c v=>Q_ v
 |.u=>none
 |_=>C ai
noncomputable def Bi(ar:List b6)(aC:List bB)(x:V):List V->Option Bool
 |[]=>C ai
 |y::r=>match Xm ar aC y x with
  |some true=>C ae
  |some false=>Bi ar aC x r
  |none=>none
noncomputable def vc:List V->Bool
 |[]=>ae
 |.s _::r=>vc r
 |_::_=>ai
noncomputable def Qn(ar:List b6)(aC:List bB):List V->List V->Option Bool
 |[],aH=>C aH.isEmpty
 |x::xs,aH=>match aH with
  |[]=>C ai
  |y::aH=>(kK xs).bind λI=>(kK aH).bind λI=>x.cn.bind λa=>y.cn.bind λb=>ag.eq ar aC 400 a b
noncomputable def Hb(K:b5)(a b:V):M Bool:=match a with
 |.i x=>(bq 24 b.aE).bind λy=>ib 24 λar I=>bo.eq ar x y
 |.s x=>(bq 25 b.cn).bind λy=>ib 25 λar aC=>ag.eq ar aC 400 x y
 |.r n=>(bq 29 b.dv).bind λm=>(fR 28 n O.kH).bind λxs=>(fR 27 m O.kH).bind λaH=>ib 26 λar aC=>Qn ar aC xs aH
 |_=>fail 29
noncomputable def among(x:ag)(xs:List V):M Bool:=(guard 33 (vc xs)).bind λI=>ib 33 λar aC=>Bi ar aC (.s x) xs
noncomputable def nd(k:Nat)(e:ag)(p:List (ag×V)×Option (List ag)):M (Option (Nat×V)):=ib k λar aC=>look ar aC e p.1 p.2
noncomputable def It(K:b5)(a b:V):M Bool:=(bq 36 a.cn).bind λx=>match b with
 |.s y=>(bq 30 (ag.kf x)).bind λl=>ib 31 λI aC=>ag.has aC l y
 |.r n=>(load n).bind λo=>(match o.i_ with
  |some p=>(nd 32 x p).bind λr=>M.pure r.isSome
  |none=>(bq 34 o.z5).bind λxs=>among x xs)
 |.c v=>(bq 35 (tupK K v)).bind λl=>among x (l.map wu)
 |_=>fail 36
noncomputable def zq(a b:V):M Bool:=(bq 38 a.aE).bind λx=>(bq 38 b.aE).bind λy=>ib 37 λar I=>bo.lt ar x y
noncomputable def cmp(K:b5)(op:oE)(a b:V):M Bool:=match op with
 |.Eq=>Hb K a b
 |.NotEq=>(Hb K a b).bind λt=>M.pure (!t)
 |.Lt=>zq a b
 |.LtE=>(zq b a).bind λt=>M.pure (!t)
 |.Gt=>zq b a
 |.GtE=>(zq a b).bind λt=>M.pure (!t)
 |.Is=>(guard 40 (IA b)).bind λI=>bq 39 (isNone a)
 |.IsNot=>(guard 40 (IA b)).bind λI=>(bq 39 (isNone a)).bind λt=>M.pure (!t)
 |.In=>It K a b
 |.NotIn=>(It K a b).bind λt=>M.pure (!t)
noncomputable def o4(x:Option bo):M V:=(bq 41 x).bind λz=>M.pure (.i z)
noncomputable def t6(xs:List V):M V:=(alloc (.list xs)).bind λk=>M.pure (.r k)
noncomputable def rW(n m:Nat)(f:List V->List V->M V):M V:=(fR 44 n O.kH).bind λxs=>(fR 43 m O.kH).bind λaH=>(guard 43 (c6 (xs.length+aH.length) 4000)).bind λI=>f xs aH
noncomputable def wg(a b:V)(ok:Nat->Bool)(f:Nat->Nat->Nat):M V:=(bq 49 (pe a)).bind λx=>(bq 49 (pe b)).bind λy=>(guard 49 (c6 x 100000&&(c6 y 100000&&ok y))).bind λI=>M.pure (.i (.lit (.ofNat (f x y))))
noncomputable def binop(op:pJ)(a b:V):M V:=match op with
 |.Add=>(match a with
  |.i x=>(bq 41 b.aE).bind λy=>o4 (bo.add x y)
  |.s x=>(bq 45 b.cn).bind λy=>(ib 48 λar I=>ag.fits ar x y).bind λI=>M.pure (.s (ag.cat x y))
  |.r n=>(bq 45 b.dv).bind λm=>rW n m λxs aH=>t6 (xs++aH)
  |_=>fail 45)
 |.Sub=>(bq 42 a.aE).bind λx=>(bq 42 b.aE).bind λy=>o4 (bo.sub x y)
 |.Mult=>wg a b (λI=>ae) λx y=>x*y
 |.FloorDiv=>wg a b (c6 1) λx y=>x/y
 |_=>fail 45
noncomputable def inplace(op:pJ)(a b:V):M V:=match op with
 |.Add=>(match a with
  |.i x=>(bq 41 b.aE).bind λy=>o4 (bo.add x y)
  |.r n=>(bq 45 b.dv).bind λm=>rW n m λxs aH=>(store n (.list (xs++aH))).bind λI=>M.pure (.r n)
  |_=>fail 47)
 |.Sub=>(bq 42 a.aE).bind λx=>(bq 42 b.aE).bind λy=>o4 (bo.sub x y)
 |_=>fail 47
noncomputable def cI:List aQ->Nat->Option aQ
 |[],_=>none
 |x::r,i=>match cw i 0 with
  |true=>C x
  |false=>cI r (i-1)
noncomputable def J2(xs:List V)(c:Int):Option V:=match c with
 |.ofNat i=>(match c6 i 4000 with
  |true=>cI xs i
  |false=>none)
 |.negSucc i=>(match eK i xs.length&&c6 i 4000 with
  |true=>cI xs (xs.length-(i+1))
  |false=>none)
noncomputable def Qp(l:bB)(c:Int):Option V:=(nat? c).bind λi=>match c6 i 4000 with
 |true=>(cI l i).map λx=>.s [.lit [x]]
 |false=>none
noncomputable def itemAt(xs:List V)(e:bo):M V:=(bq 50 (litOf e)).bind λc=>bq 51 (J2 xs c)
noncomputable def IE(n:Nat)(e:ag):M V:=(fR 55 n O.i_).bind λp=>(nd 53 e p).bind λr=>(bq 54 r).bind λp=>M.pure p.2
noncomputable def layAt:Nat:=281
noncomputable def item(K:b5)(o i:V):M V:=match i with
 |.i e=>(match o with
  |.r n=>(fR 52 n O.z5).bind λxs=>itemAt xs e
  |.s x=>(bq 56 (ag.kf x)).bind λl=>(bq 57 (litOf e)).bind λc=>bq 58 (Qp l c)
  |.c v=>(bq 62 (tupK K v)).bind λl=>itemAt (l.map wu) e
  |_=>fail 61)
 |.s e=>(match o with
  |.r n=>IE n e
  |.c v=>(guard 60 (isRef layAt v)).bind λI=>(bq 59 (ag.kf e)).bind λl=>(bq 60 (ph K layAt (abG l))).bind λv=>(bq 60 v).bind λv=>M.pure (wu v)
  |_=>fail 61)
 |_=>fail 61
noncomputable def JK(k:ag)(v:V)(au:List (ag×V))(op:Option (List ag)):Option (Nat×V)->O
 |some p=>.dict (au.modify p.1 λq=>(q.1,v)) op
 |none=>.dict (au++ [(k,v)]) op
noncomputable def putD(n:Nat)(e:ag)(v:V):M Unit:=(fR 64 n O.i_).bind λp=>(guard 64 (c6 p.1.length 4000)).bind λI=>(nd 62 e p).bind λr=>store n (JK e v p.1 p.2 r)
noncomputable def OX(ar:List b6)(yf:Nat×Nat):Option Nat:=(ar[yf.2]?).bind λb=>match ltI b.1 0 with
 |true=>none
 |false=>b.2.2.map λt=>t+yf.1
noncomputable def RN(n:Nat)(p:Nat×Nat)(v:V):M Unit:=(bq 63 (Bg v)).bind λyf=>(guard 63 (c6 p.1 4000)).bind λI=>(ib 63 λar I=>OX ar yf).bind λt=>store n (.jx (p.1+1) (Nat.max p.2 t))
noncomputable def setItem(o k v:V):M Unit:=(bq 65 o.dv).bind λn=>(bq 65 k.cn).bind λe=>(load n).bind λo=>match o.tV with
 |some p=>RN n p v
 |none=>putD n e v
noncomputable def J5(o:V)(i:V):M V:=(bq 71 o.dv).bind λn=>match Bg i with
 |some oV=>(fR 68 n O.v7).bind λp=>(guard 67 (cw p.1 oV.2&&(c6 oV.1 p.2.length&&c6 p.2.length 4000))).bind λI=>t6 (p.2.drop oV.1)
 |none=>(bq 71 (pe i)).bind λd=>(fR 70 n O.kH).bind λxs=>(guard 69 (c6 d xs.length&&c6 xs.length 4000)).bind λI=>t6 (xs.drop d)
noncomputable def J4(o:V)(i:V):M V:=(bq 73 o.cn).bind λe=>(bq 73 (pe i)).bind λn=>(guard 73 (cw n 1)).bind λI=>(bq 72 (ag.first e)).bind λf=>M.pure (.s f)
noncomputable def lenOf(v:V):M V:=(bq 81 v.dv).bind λn=>(load n).bind λo=>match o with
 |.list xs=>(guard 80 (c6 xs.length 100000)).bind λI=>M.pure (.i (.lit xs.length))
 |.dict au op=>(bq 80 (kK au)).bind λI=>(match op with
  |none=>M.pure (.i (.lit 0))
  |some _=>fail 80)
 |.iQ k xs=>(guard 80 (c6 xs.length 4000)).bind λI=>M.pure (.i (.aL xs.length ai k))
 |_=>fail 80
noncomputable def J7(e:bo):ag:=match(litOf e).bind nat? with
 |some n=>[.lit (cs (bO (sA n)))]
 |none=>[.dec e]
noncomputable def strOf(v:V):M V:=(bq 84 v.aE).bind λe=>(ib 83 λar I=>(match bo.small ar e with|true=>C ()|false=>none)).bind λI=>M.pure (.s (J7 e))
noncomputable def RW(v:V):M V:=(bq 85 (pe v)).bind λn=>(guard 85 (c6 n 4000)).bind λI=>(alloc (.qJ n)).bind λk=>M.pure (.r k)
noncomputable def Gh(f:aB)(aK:List V):M V:=match f with
 |.builtin i=>(bq 88 (iD aK)).bind λv=>(guard 86 (i=="len")).bind λI=>lenOf v
 |.type t=>(bq 88 (iD aK)).bind λv=>(match t=="str" with
  |true=>strOf v
  |false=>(guard 87 (t=="range")).bind λI=>RW v)
 |_=>fail 88
noncomputable def qA(names:List (aM×gC)):List (aM×V)->Loc
 |[]=>[]
 |e::r=>match g7 e.1 names with
  |some .local=>e::qA names r
  |_=>qA names r
noncomputable def v3(binds:List (aM×V)):List (aM×gC)->List (aM×Nat)->M (List (aM×Nat))
 |[],acc=>M.pure acc
 |e::r,acc=>match e.2 with
  |.cell=>(alloc (.cell (eh e.1 binds))).bind λn=>v3 binds r ((e.1,n)::acc)
  |_=>v3 binds r acc
noncomputable def P_(names:List (aM×gC))(au:List (aM×V)):Bool:=au.all λe=>(g7 e.1 names).any λk=>c6 k.ctorIdx 1
noncomputable def isFun:ScopeKind->Bool
 |.function=>ae
 |_=>ai
noncomputable def oj:List aM->Bool
 |[]=>ae
 |x::r=>r.all (λy=>!eqs x y)&&oj r
theorem acb(x:aM)(r:List aM):oj (x::r)=(r.all (λy=>!eqs x y)&&oj r):=rfl
noncomputable def qG(s:pK):Bool:=isFun s.kind&&!s.isGenerator&&!s.isCoroutine&&oj (s.names.map (·.1))
noncomputable def Ji:Nat:=300
noncomputable def Jr:Option aQ->Option Unit
 |none=>C ()
 |some _=>none
noncomputable def MU:FuncBody->Option (List eQ)
 |.stmts b=>C b
 |.expr _=>none
noncomputable def RG(p:Arguments):Option (List Arg):=(kK p.posonlyargs).bind λI=>(Jr p.vararg).bind λI=>(kK p.kwonlyargs).bind λI=>(Jr p.kwarg).bind λI=>C p.args
noncomputable def ud:dj->Option V
 |.ret v=>C v
 |.next=>C nH
 |_=>none
noncomputable def X2(d:Data):Option (Array aB):=pD d.ctorIdx 9 λh=>K9 d h C
noncomputable def Nu(K:b5)(cd:aB)(q:aM):Bool:=(wN cd).any λc=>(qz K c).any λo=>(X2 o.data).any λaK=>(aK.toList.tail.head?.bind Sn).any λn=>eqs n q
theorem V8{cd:aB}{q:aM}(h:Nu K cd q=ae):uS K cd q=true:=cF h λc e h=>cF h λo a h=>cF h λaK f h=>cF h λn cf a8=>by
 obtain d:o.data=.fields aK:=w4 f λay q=>K9 (motive:=λd=>∀ay,K9 (motive:=λI=>Option (Array aB)) d ay C=C aK->d=.fields aK) o.data ay (λI I q=>congrArg _ (aT q)) ay q;obtain⟨bF,fU,data,dd⟩:=o;obtain d:data=.fields aK:=d;subst d;refine G (DI e) ?_;unfold uS;dsimp only;refine G (zm a) ?_;dsimp only;generalize aK.toList=l at cf ⊢;cases l with
 |nil=>exact bK cf
 |cons x l=>
  cases l with
  |nil=>exact bK cf
  |cons v l=>
   induction v using lJ with
   |str y t=>exact beq_iff_eq.mpr ((aT cf).trans (gr.mp a8))
   |_=>exact bK cf
noncomputable def M4(aG:fc)(K:b5)(dep:Nat)(fd:FuncData)(aK:List V):M V:=
 (guard 94 (qG fd.scope&&Nu K fd.code fd.qualname&&eK dep Ji&&y6 fd.defaults&&cw fd.globals ik&&cw fd.builtins nK)).bind λI=>
 (bq 94 (MU fd.body)).bind λbody=>(bq 94 (RG fd.params)).bind λas=>(bq 94 (kK fd.closure)).bind λI=>
 (guard 93 (cw as.length aK.length&&oj (as.map (·.arg))&&P_ fd.scope.names ((as.map (·.arg)).zip aK))).bind λI=>
 (v3 ((as.map (·.arg)).zip aK) fd.scope.names []).bind λcells=>
 (l7 (qA fd.scope.names ((as.map (·.arg)).zip aK)) (aG.xs ⟨fd.scope,cells,dep+1⟩ body)).bind λf=>bq 92 (ud f)
noncomputable def gp(aG:fc)(K:b5)(dep:Nat)(f:V)(aK:List V):M V:=match f with
 |.c (.ref a)=>match qz K a with
  |none=>fail 98
  |some o=>match o.data with
   |.func fd=>M4 aG K dep fd aK
   |.cls _=>match Jg K a&&eK dep Ji with
    |true=>match((zx K a "__init__").bind λy=>y.bind wN) with
     |some f=>(match isFn K (.ref f) with
      |true=>(alloc (.inst a [])).bind λn=>(aG.ca (dep+1) (.c (.ref f)) (.r n::aK)).bind λ
       |.c .none=>M.pure (.r n)
       |_=>fail 95
      |false=>fail 96)
     |none=>fail 97
    |false=>fail 97
   |_=>fail 98
 |_=>fail 99
noncomputable def isStar(e:bk):Bool:=cw e.ctorIdx 22
noncomputable def n8(aG:fc)(ab:cK):List bk->M (List V)
 |[]=>M.pure []
 |e::r=>match isStar e with
  |true=>fail 118
  |false=>(aG.ev ab e).bind λv=>(n8 aG ab r).bind λaK=>M.pure (v::aK)
noncomputable def mD:List bk->Bool
 |[]=>ae
 |e::r=>match isStar e with
  |true=>ai
  |false=>mD r
theorem ab4(e:bk)(r:List bk):mD (e::r)=match isStar e with|true=>ai|false=>mD r:=rfl
noncomputable def qb(k:Nat)(e:bk)(f:e.ctorIdx=k->Option aQ):Option aQ:=match h:cw e.ctorIdx k with
 |true=>f (d0 h)
 |false=>none
noncomputable def kJ(e:bk):Option (aM×cq):=qb 23 e λh=>KJ e h λx p=>C (x,p)
noncomputable def vf(e:bk):Option (bk×aM×cq):=qb 20 e λh=>KA e h λo x p=>C (o,x,p)
noncomputable def Nr(e:bk):Option (bk×List oE×List bk×cq):=qb 15 e λh=>KD e h λl o r p=>C (l,o,r,p)
noncomputable def Bs(e:bk):Option (bk×List bk×List Keyword×cq):=qb 16 e λh=>KL e h λf as ks p=>C (f,as,ks,p)
noncomputable def yc(e:bk):Option (Const×Nat×cq):=qb 19 e λh=>KC e h λc k p=>C (c,k,p)
noncomputable def DW(e:bk):Option (List bk×Nat×cq):=qb 25 e λh=>KG e h λcp k p=>C (cp,k,p)
noncomputable def DR(e:bk):Option (Option bk×Option bk×Option bk×cq):=qb 26 e λh=>KH e h λa b d p=>C (a,b,d,p)
noncomputable def zV(e:bk):Bool:=!((Bs e).any λw=>(kJ w.1).isSome&&(w.2.1.isEmpty&&w.2.2.1.isEmpty))
noncomputable def isSet(e:bk):Bool:=cw e.ctorIdx 7
inductive m4 where
 |fn (f:Addr)
 |append|extend|get|z6
noncomputable def m4.ctorIdx(x:m4):Nat:=m4.casesOn x (λI=>0) 1 2 3 4
noncomputable def JR:aB->Option az
 |.ref a=>C a
 |_=>none
noncomputable def zi(x:aM):Option m4:=match eqs x "append" with
 |true=>C .append
 |false=>match eqs x "extend" with
  |true=>C .extend
  |false=>none
noncomputable def yj(x:aM):Option m4:=match eqs x "get" with
 |true=>C .get
 |false=>match eqs x "setdefault" with
  |true=>C .z6
  |false=>none
noncomputable def QO(K:b5)(v:V)(x:aM):M m4:=(bq 105 v.dv).bind λn=>(load n).bind λo=>match o with
 |.inst U dH=>(guard 101 (Gw K U&&(eh x dH).isNone)).bind λI=>(bq 101 (zx K U x)).bind λw=>(bq 101 w).bind λf=>(bq 101 (JR f)).bind λf=>(guard 100 (isFn K (.ref f)&&IP K f)).bind λI=>M.pure (.fn f)
 |.list _=>bq 102 (zi x)
 |.iQ _ _=>bq 102 (zi x)
 |.dict _ _=>bq 103 (yj x)
 |.jx _ _=>bq 103 (yj x)
 |_=>fail 104
noncomputable def vj:Int:=1000000
noncomputable def C_(j:Nat):M bo:=λst=>match c6 j 100000 with
 |true=>.ok (.aL 0 ai st.ar.length) {st with ar:=st.ar++ [(0,vj,C j)]}
 |false=>.fail 117
noncomputable def MG(n:Nat)(v:V):M V:=(load n).bind λo=>match o with
 |.list xs=>(guard 106 (c6 xs.length 4000)).bind λI=>(store n (.list (xs++ [v]))).bind λI=>M.pure nH
 |.iQ k xs=>(guard 106 (c6 xs.length 4000)).bind λI=>(store n (.iQ k (xs++ [v]))).bind λI=>M.pure nH
 |_=>fail 106
noncomputable def Oq(n m:Nat):M V:=(guard 107 (!Nat.beq n m)).bind λI=>rW n m λxs aH=>(store n (.list (xs++aH))).bind λI=>M.pure nH
noncomputable def OK(d:V):Option (Nat×V)->V
 |some p=>p.2
 |none=>d
noncomputable def Yn(j:Nat)(d:V):M V:=(bq 111 (pe d)).bind λz=>(guard 111 (cw z 0)).bind λI=>(C_ j).bind λe=>M.pure (.i e)
noncomputable def Hu(n:Nat)(e:ag)(d:V):M V:=(load n).bind λo=>match o.tV with
 |some p=>Yn p.2 d
 |none=>(fR 112 n O.i_).bind λp=>(nd 110 e p).bind λr=>M.pure (OK d r)
noncomputable def Sd(n:Nat)(e:ag)(d:V):M V:=(fR 115 n O.i_).bind λp=>(guard 115 (c6 p.1.length 4000)).bind λI=>(nd 114 e p).bind λr=>match r with
 |some p=>M.pure p.2
 |none=>(store n (JK e d p.1 p.2 none)).bind λI=>M.pure d
noncomputable def M5(aG:fc)(K:b5)(dep:Nat)(m:m4)(self:V)(aK:List V):M V:=match m with
 |.fn f=>aG.ca dep (.c (.ref f)) (self::aK)
 |.append=>(bq 116 self.dv).bind λn=>(bq 116 (iD aK)).bind λv=>MG n v
 |.extend=>(bq 116 self.dv).bind λn=>(bq 116 (iD aK)).bind λv=>(bq 116 v.dv).bind λm=>Oq n m
 |.get=>(bq 116 self.dv).bind λn=>(match aK with
  |[]=>fail 116
  |k::r=>(bq 116 k.cn).bind λe=>(match r with
   |[]=>Hu n e nH
   |d::r=>(bq 116 (kK r)).bind λI=>Hu n e d))
 |.z6=>(bq 116 self.dv).bind λn=>(bq 116 (oy aK)).bind λw=>(bq 116 w.1.cn).bind λe=>Sd n e w.2
noncomputable def p5(ab:cK):List bk->List V->M Unit
 |[],[]=>M.pure ()
 |t::cp,v::aK=>(bq 120 (kJ t)).bind λw=>(jf ab w.1 v).bind λI=>p5 ab cp aK
 |_,_=>fail 120
noncomputable def QX(cp:List bk):Bool:=cp.all λt=>(kJ t).isSome
set_option backward.match.sparseCases false in
noncomputable def assign(aG:fc)(K:b5)(ab:cK)(t:bk)(v:V):M Unit:=match t with
 |.Name x _=>jf ab x v
 |.Attribute o x _=>(aG.ev ab o).bind λgK=>setAt K gK x v
 |.Subscript o i _=>(aG.ev ab o).bind λgK=>(aG.ev ab i).bind λaE=>setItem gK aE v
 |.Tuple cp _ _=>(match v with
  |.r n=>(load n).bind λ
   |.tup xs=>(match QX cp&&cw cp.length xs.length&&eK ab.dep 400 with
    |true=>p5 ab cp xs
    |false=>fail 121)
   |_=>fail 121
  |_=>fail 122)
 |_=>fail 123
noncomputable def nq(v:V):M Nat:=match v with
 |.r n=>(load n).bind λ
  |.list _=>alloc (.it n 0)
  |.tup _=>alloc (.nk n 0)
  |.qJ m=>(match c6 m 4000 with|true=>alloc (.itR 0 m)|false=>fail 152)
  |_=>fail 152
 |_=>fail 153
noncomputable def Gy:Const->Option V
 |.none=>C nH
 |.bool b=>C (Af b)
 |.int i=>C (.i (.lit i))
 |.str s=>C (.s [.lit (cs s)])
 |_=>none
noncomputable def ow(own:List (aM×gC))(names:List (aM×gC)):List (aM×gC):=names.map λe=>match e.2 with
 |.free=>(match g7 e.1 own with|some .cell=>(e.1,.cell)|_=>e)
 |_=>e
noncomputable def oS(cells:List (aM×Nat)):List (aM×gC)->List (aM×Nat)->Option (List (aM×Nat))
 |[],acc=>C acc
 |e::r,acc=>match e.2 with
  |.free=>(match k3 e.1 cells with|some n=>oS cells r ((e.1,n)::acc)|none=>none)
  |_=>oS cells r acc
theorem V5(cells:List (aM×Nat))(e:aM×gC)(r:List (aM×gC))(acc:List (aM×Nat)):oS cells (e::r) acc=match e.2 with|.free=>(match k3 e.1 cells with|some n=>oS cells r ((e.1,n)::acc)|none=>none)|_=>oS cells r acc:=rfl
noncomputable def zN(s:pK):Bool:=isFun s.kind&&!s.isGenerator&&!s.isCoroutine&&oj (s.names.map (·.1))&&s.names.all λe=>match e.2 with
 |.cell=>ai
 |_=>ae
noncomputable def isIt:O->Bool
 |.it _ _=>ae
 |.nk _ _=>ae
 |.itR _ _=>ae
 |_=>ai
noncomputable def comp(aG:fc)(ab:cK)(e:bk)(gens:List uG)(scope:pK)(acc:O):M V:=match gens with
 |[]=>fail 133
 |q::_=>match zN scope&&eK ab.dep 400&&!isSet q.iter&&kB q.is_async 0 with
  |true=>(bq 130 (oS ab.cells scope.names [])).bind λcells=>(aG.ev ab q.iter).bind λv=>(nq v).bind λn=>(alloc acc).bind λk=>(load n).bind λit=>(match isIt it with
     |true=>(l7 [] (aG.cl ⟨{scope with names:=ow ab.scope.names scope.names},cells,ab.dep⟩ e 0 n k)).bind λI=>M.pure (.r k)
     |false=>fail 131)
  |false=>fail 132
noncomputable def pairs(aG:fc)(ab:cK):List (Option bk)->List bk->M (List (ag×V))
 |[],[]=>M.pure []
 |some k::ks,v::aK=>(aG.ev ab k).bind λ
  |.s e=>(aG.ev ab v).bind λw=>(pairs aG ab ks aK).bind λr=>M.pure ((e,w)::r)
  |_=>fail 134
 |_,_=>fail 135
noncomputable def tg:List (ag×V)->Bool
 |[]=>ae
 |e::r=>(match ag.kf e.1 with
  |some l=>r.all λf=>match ag.kf f.1 with|some m=>!tl l m|none=>ai
  |none=>ai)&&tg r
theorem WS(e:ag×V)(r:List (ag×V)):tg (e::r)=((match ag.kf e.1 with|some l=>r.all λf=>(match ag.kf f.1 with|some m=>!tl l m|none=>ai)|none=>ai)&&tg r):=rfl
noncomputable def x7(aG:fc)(ab:cK)(op:BoolOp):List bk->M V
 |[]=>fail 136
 |[e]=>aG.ev ab e
 |e::r=>(aG.ev ab e).bind λv=>(truthy v).bind λt=>match op,t with
  |.And,false=>M.pure v
  |.Or,true=>M.pure v
  |_,_=>x7 aG ab op r
noncomputable def Kh:Nat:=314
noncomputable def wO(t:ag)(st:St):Bool:=match ag.wide st.ar t with
 |some n=>c6 n 900
 |none=>ai
noncomputable def afp(ab:cK)(a:aB)(Ab Ae:ag)(y:bo):M V:=(guard 173 (isRef Kh a&&eK ab.dep 280)).bind λI=>λst=>match wO Ab st&&(wO Ae st&&bo.small st.ar y) with
 |true=>.ok (.s [.any st.ns]) {st with ns:=st.ns+1}
 |false=>.fail 173
noncomputable def Sj(K:b5)(ab:cK)(n a9 zC f bf zD dY:aM):M V:=(ng K ab n).bind λv=>(bq 173 v.aE).bind λI=>(ng K ab a9).bind λv1=>(rI K v1 zC).bind λv=>(bq 173 v.cn).bind λAb=>
 (ng K ab f).bind λv=>(bq 173 v.aj).bind λa=>(ng K ab bf).bind λv2=>(rI K v2 zD).bind λv=>(bq 173 v.cn).bind λAe=>(ng K ab dY).bind λv=>(bq 173 v.aE).bind λy=>afp ab a Ab Ae y
noncomputable def isSlice(e:bk):Bool:=cw e.ctorIdx 26
noncomputable def eq1:oE->Option Unit
 |.Eq=>C ()
 |_=>none
noncomputable def PJ:Const->Option Int
 |.int k=>C k
 |_=>none
noncomputable def DT(t b o:bk):Option (aM×aM×aM×aM×aM×aM×aM):=
 (Nr t).bind λc=>(kJ c.1).bind λn=>(iD c.2.1).bind λop=>(eq1 op).bind λI=>(iD c.2.2.1).bind λk=>(yc k).bind λk=>(PJ k.1).bind λI=>
 (vf b).bind λa=>(kJ a.1).bind λa9=>(Bs o).bind λq=>(kJ q.1).bind λf=>(oy q.2.1).bind λas=>(kK q.2.2.1).bind λI=>
 (vf as.1).bind λa2=>(kJ a2.1).bind λbf=>(kJ as.2).bind λdY=>C (n.1,a9.1,a.2.1,f.1,bf.1,a2.2.1,dY.1)
noncomputable def Oi(aG:fc)(ab:cK)(op:UnaryOp)(x:bk):M V:=match op with
 |.Not=>(aG.ev ab x).bind λv=>(truthy v).bind λt=>M.pure (Af (!t))
 |.USub=>(aG.ev ab x).bind λv=>(bq 141 v.aE).bind λe=>(bq 141 (litOf e)).bind λc=>M.pure (.i (.lit (-c)))
 |_=>fail 144
noncomputable def Xr(aG:fc)(ab:cK)(ks:List (Option bk))(aK:List bk):M V:=match c6 ks.length 15&&ks.all (·.isSome)&&cw ks.length aK.length with
 |true=>(alloc (.dict [] none)).bind λn=>(pairs aG ab ks aK).bind λau=>(load n).bind λ
  o=>match o.Di&&tg au with
   |true=>(store n (.dict au none)).bind λI=>M.pure (.r n)
   |false=>fail 142
 |false=>fail 142
noncomputable def Oh(aG:fc)(ab:cK)(o:bk)(lo bN st:Option bk):M V:=match st with
 |some _=>fail 143
 |none=>match lo with
  |some lo=>(match bN with
   |none=>(aG.ev ab o).bind λgK=>(aG.ev ab lo).bind λi=>J5 gK i
   |some _=>fail 143)
  |none=>(match bN with
   |some bN=>(aG.ev ab o).bind λgK=>(aG.ev ab bN).bind λi=>J4 gK i
   |none=>fail 143)
noncomputable def M0(aG:fc)(K:b5)(ab:cK)(o:bk)(x:aM)(p:cq)(as:List bk)(q:cq):M V:=(guard 149 (zV o&&(cw p.endLine q.line&&(c6 as.length 9&&mD as)))).bind λI=>(aG.ev ab o).bind λgK=>(QO K gK x).bind λm=>(n8 aG ab as).bind λaK=>M5 aG K ab.dep m gK aK
noncomputable def M7(aG:fc)(K:b5)(ab:cK)(as:List bk)(f:V):M V:=(bq 99 f.aj).bind λf=>match f with
 |.ref a=>(guard 98 (IP K a)).bind λI=>(n8 aG ab as).bind λaK=>aG.ca ab.dep (.c (.ref a)) aK
 |.builtin i=>(n8 aG ab as).bind λaK=>Gh (.builtin i) aK
 |.type t=>(n8 aG ab as).bind λaK=>Gh (.type t) aK
 |_=>fail 99
noncomputable def M6(aG:fc)(K:b5)(ab:cK)(f:bk)(as:List bk):M V:=(guard 149 (c6 as.length 9&&mD as)).bind λI=>(aG.ev ab f).bind λf=>M7 aG K ab as f
set_option backward.match.sparseCases false in
noncomputable def Og(aG:fc)(K:b5)(ab:cK)(e:bk):M V:=match e with
 |.Constant c _ _=>bq 140 (Gy c)
 |.Name x _=>ng K ab x
 |.Attribute o x _=>(match zV o with
  |true=>(aG.ev ab o).bind λv=>rI K v x
  |false=>fail 147)
 |.BoolOp op au _=>x7 aG ab op au
 |.BinOp l op r _=>(aG.ev ab l).bind λa=>(aG.ev ab r).bind λb=>binop op a b
 |.UnaryOp op x _=>Oi aG ab op x
 |.IfExp t b o _=>(match DT t b o with
  |some w=>Sj K ab w.1 w.2.1 w.2.2.1 w.2.2.2.1 w.2.2.2.2.1 w.2.2.2.2.2.1 w.2.2.2.2.2.2
  |none=>(aG.eO ab t).bind λc=>match c with
   |true=>aG.ev ab b
   |false=>aG.ev ab o)
 |.Compare l ops rs _=>(bq 144 (iD ops)).bind λop=>(bq 144 (iD rs)).bind λr=>(match isSet r with
  |false=>(aG.ev ab l).bind λa=>(aG.ev ab r).bind λb=>(cmp K op a b).bind λt=>M.pure (Af t)
  |true=>fail 148)
 |.Tuple au _ _=>(match c6 au.length 4000 with
  |true=>(n8 aG ab au).bind λaK=>(alloc (.tup aK)).bind λn=>M.pure (.r n)
  |false=>fail 142)
 |.List au _=>(match c6 au.length 4000 with
  |true=>(n8 aG ab au).bind λaK=>(alloc (.list aK)).bind λn=>M.pure (.r n)
  |false=>fail 142)
 |.Dict ks aK _=>(match ks with
  |[]=>(match aK with
   |[]=>(alloc (.dict [] none)).bind λn=>M.pure (.r n)
   |_::_=>fail 142)
  |k::ks=>Xr aG ab (k::ks) aK)
 |.Subscript o i _=>(match DR i with
  |some w=>Oh aG ab o w.1 w.2.1 w.2.2.1
  |none=>(match isSlice i with
   |true=>fail 143
   |false=>(aG.ev ab o).bind λgK=>(aG.ev ab i).bind λaE=>item K gK aE))
 |.ListComp _ gens scope _=>comp aG ab e gens scope (.list [])
 |.DictComp _ _ gens scope _=>comp aG ab e gens scope (.dict [] none)
 |.Call f as ks q=>(bq 144 (kK ks)).bind λI=>(match vf f with
  |some w=>M0 aG K ab w.1 w.2.1 w.2.2 as q
  |none=>M6 aG K ab f as)
 |_=>fail 144
noncomputable def xZ(aG:fc)(ab:cK)(op:BoolOp):List bk->M Bool
 |[]=>M.pure (match op with|.And=>ae|.Or=>ai)
 |e::r=>(aG.eO ab e).bind λt=>match op,t with
  |.And,false=>M.pure ai
  |.Or,true=>M.pure ae
  |_,_=>xZ aG ab op r
set_option backward.match.sparseCases false in
noncomputable def SF(aG:fc)(K:b5)(ab:cK)(e:bk):M Bool:=match e with
 |.UnaryOp op x p=>(match op with
  |.Not=>(aG.eO ab x).bind λt=>M.pure (!t)
  |op=>(aG.ev ab (.UnaryOp op x p)).bind truthy)
 |.BoolOp op au _=>xZ aG ab op au
 |.IfExp ..=>fail 145
 |.Compare l ops rs _=>(bq 146 (iD ops)).bind λop=>(bq 146 (iD rs)).bind λr=>(match isSet r with
  |false=>(aG.ev ab l).bind λa=>(aG.ev ab r).bind λb=>cmp K op a b
  |true=>fail 148)
 |e=>(aG.ev ab e).bind truthy
set_option backward.match.sparseCases false in
noncomputable def clauses:bk->List uG
 |.ListComp _ gens _ _=>gens
 |.DictComp _ _ gens _ _=>gens
 |_=>[]
noncomputable def dictPut(n:Nat)(k v:V):M Unit:=(bq 65 k.cn).bind λe=>putD n e v
noncomputable def emit(aG:fc)(ab:cK)(e:bk)(acc:Nat):M Unit:=match e with
 |.ListComp elt _ _ _=>(aG.ev ab elt).bind λv=>(load acc).bind λ
  |.list xs=>(match c6 xs.length 4000 with|true=>store acc (.list (xs++ [v]))|false=>fail 150)
  |_=>fail 150
 |.DictComp k v _ _ _=>(aG.ev ab k).bind λdn=>(aG.ev ab v).bind λi2=>dictPut acc dn i2
 |_=>fail 151
noncomputable def y4(aG:fc)(ab:cK):List bk->M Bool
 |[]=>M.pure ae
 |c::r=>(aG.eO ab c).bind λt=>match t with
  |true=>y4 aG ab r
  |false=>M.pure ai
noncomputable def nextOf(k:Nat):M (Option V):=(load k).bind λ
 |.it n i=>(load n).bind λ
  |.list xs=>(match cI xs i with
   |some v=>(store k (.it n (i+1))).bind λI=>M.pure (C v)
   |none=>(drop k).bind λI=>M.pure none)
  |_=>fail 152
 |.nk n i=>(load n).bind λ
  |.tup xs=>(match cI xs i with
   |some v=>(store k (.nk n (i+1))).bind λI=>M.pure (C v)
   |none=>(drop k).bind λI=>M.pure none)
  |_=>fail 152
 |.itR i left=>(match left with
  |0=>(drop k).bind λI=>M.pure none
  |left+1=>(store k (.itR (i+1) left)).bind λI=>M.pure (C (.i (.lit i))))
 |_=>fail 152
noncomputable def CC(aG:fc)(ab:cK)(e:bk)(d acc:Nat):M Unit:=match cI (clauses e) (d+1) with
 |none=>emit aG ab e acc
 |some q=>match kB q.is_async 0&&!isSet q.iter with
  |true=>(aG.ev ab q.iter).bind λv=>(nq v).bind λm=>(load m).bind λit=>(match isIt it with
   |true=>aG.cl ab e (d+1) m acc
   |false=>fail 154)
  |false=>fail 154
noncomputable def Gr(aG:fc)(K:b5)(ab:cK)(e:bk)(d n acc:Nat):M Unit:=match cI (clauses e) d with
 |none=>fail 155
 |some q=>match kB q.is_async 0 with
  |false=>fail 155
  |true=>(nextOf n).bind λ
   |none=>M.pure ()
   |some v=>(assign aG K ab q.target v).bind λI=>(y4 aG ab q.ifs).bind λok=>(match ok with
    |false=>M.pure ()
    |true=>CC aG ab e d acc).bind λI=>aG.cl ab e d n acc
noncomputable def Qh(ab:cK)(x:aM):M V:=(bq 161 (g7 x ab.scope.names)).bind λk=>match k with
 |.local=>tC x
 |.cell=>cellGet ab x
 |_=>fail 161
noncomputable def PR(o i:V):M V:=(bq 61 o.dv).bind λn=>(bq 61 i.cn).bind λe=>IE n e
noncomputable def Bj(aG:fc)(ab:cK)(op:pJ)(v:bk)(old:V)(put:V->M Unit):M Unit:=(aG.ev ab v).bind λw=>(inplace op old w).bind put
set_option backward.match.sparseCases false in
noncomputable def Bk(aG:fc)(K:b5)(ab:cK)(t:bk)(op:pJ)(v:bk):M Unit:=match t with
 |.Name x _=>(Qh ab x).bind λold=>Bj aG ab op v old (jf ab x)
 |.Attribute o x _=>(aG.ev ab o).bind λgK=>(rI K gK x).bind λold=>Bj aG ab op v old (setAt K gK x)
 |.Subscript o i _=>(bq 161 (yc i)).bind λI=>(aG.ev ab o).bind λgK=>(aG.ev ab i).bind λaE=>(PR gK aE).bind λold=>Bj aG ab op v old (setItem gK aE)
 |_=>fail 161
noncomputable def OD(aG:fc)(ab:cK)(fin:List eQ):M dj:=λst=>match eK ab.dep 302 with
 |true=>(match aG.xs {ab with dep:=ab.dep+500} fin st with
  |.ok .next bp=>.ex bp
  |_=>.fail 162)
 |false=>.fail 162
noncomputable def Ke(aG:fc)(ab:cK)(body fin:List eQ):M dj:=λst=>match aG.xs ab body st with
 |.fail n=>.fail n
 |.ex bp=>OD aG ab fin bp
 |.ok f bp=>match aG.xs ab fin bp with
  |.ok .next qM=>.ok f qM
  |_=>.fail 163
noncomputable def PL(x:Option gC):Bool:=x.any λk=>cw k.ctorIdx 0
noncomputable def JV(line:Nat)(names:List (aM×gC))(cp:List bk):Bool:=cp.all λt=>(kJ t).any λw=>PL (g7 w.1 names)&&cw w.2.line line
noncomputable def nameOf(t:bk):Str:=((kJ t).map (·.1)).getD ""
noncomputable def firstLine(cp:List bk):Nat:=((cp.head?.bind kJ).map (·.2.line)).getD 0
noncomputable def DU(ab:cK)(cp aK:List bk):Bool:=
 (cw cp.length 2||Nat.beq cp.length 3)&&Nat.beq aK.length cp.length&&mD aK&&JV (firstLine cp) ab.scope.names cp&&oj (cp.map nameOf)&&!(aK.all (constantsAlone 8))&&!(aK.all (foldedForSure 8))&&Nat.blt ab.dep 400
noncomputable def Sr(ab:cK)(cp:List bk)(v:V):M Unit:=match v with
 |.r n=>(load n).bind λ
  |.tup xs=>(match cw cp.length xs.length with
   |true=>p5 ab cp.reverse xs.reverse
   |false=>fail 171)
  |_=>fail 171
 |_=>fail 171
noncomputable def handled(aG:fc)(K:b5)(ab:cK)(x:aM)(aD:List eQ):M dj:=λst=>match eK ab.dep 302 with
 |true=>(match ng K {ab with dep:=ab.dep+500} x st with
  |.ok (.c (.ref a)) bp=>(match cw a 128,exmOne K (.ref 128) (.ref 128) with
   |true,some true=>(match aG.xs {ab with dep:=ab.dep+500} aD bp with
    |.ok f qM=>.ok f qM
    |_=>.fail 172)
   |_,_=>.fail 172)
  |_=>.fail 172)
 |false=>.fail 172
noncomputable def Kd(aG:fc)(K:b5)(ab:cK)(body:List eQ)(x:aM)(aD:List eQ):M dj:=λst=>match aG.xs ab body st with
 |.fail n=>.fail n
 |.ex bp=>handled aG K ab x aD bp
 |.ok f bp=>.ok f bp
noncomputable def vR(e:bk):Bool:=cw e.ctorIdx 8||(Nat.beq e.ctorIdx 9||Nat.beq e.ctorIdx 10)
noncomputable def Jw(t v:bk):Bool:=cw t.ctorIdx 23||(Nat.beq t.ctorIdx 20||(Nat.beq t.ctorIdx 21||(Nat.beq t.ctorIdx 25&&!Nat.beq v.ctorIdx 25)))
noncomputable def FJ(aG:fc)(K:b5)(ab:cK)(t v:bk):M dj:=(guard 170 (Jw t v&&!vR v)).bind λI=>(aG.ev ab v).bind λw=>(assign aG K ab t w).bind λI=>M.pure .next
noncomputable def FK(aG:fc)(ab:cK)(cp aK:List bk)(eF:Nat)(dJ:cq):M dj:=match DU ab cp aK with
 |true=>(aG.ev ab (.Tuple aK eF dJ)).bind λv=>(Sr ab cp v).bind λI=>M.pure .next
 |false=>fail 171
set_option backward.match.sparseCases false in
noncomputable def asg(aG:fc)(K:b5)(ab:cK)(t v:bk):M dj:=match v with
 |.ListComp elt gens sc q=>(bq 170 (kJ t)).bind λx=>(comp aG ab (.ListComp elt gens sc q) gens sc (.list [])).bind λw=>(jf ab x.1 w).bind λI=>M.pure .next
 |.DictComp k v gens sc q=>(bq 170 (kJ t)).bind λx=>(comp aG ab (.DictComp k v gens sc q) gens sc (.dict [] none)).bind λw=>(jf ab x.1 w).bind λI=>M.pure .next
 |.Tuple aK eF dJ=>(match DW t with
  |some w=>FK aG ab w.1 aK eF dJ
  |none=>FJ aG K ab t (.Tuple aK eF dJ))
 |v=>FJ aG K ab t v
noncomputable def JP(aG:fc)(K:b5)(ab:cK)(x:aM)(a b:bk):M dj:=(guard 168 (eK ab.dep 280&&mD [a,b])).bind λI=>(ng K ab x).bind λf=>(bq 168 f.aj).bind λf=>(guard 166 (isRef 128 f)).bind λI=>(aG.ev ab a).bind λI=>(aG.ev ab b).bind λv=>(bq 167 v.cn).bind λI=>raise
noncomputable def RV(e:Option bk):Option (aM×cq×bk×bk×cq):=e.bind λe=>(Bs e).bind λq=>(kJ q.1).bind λf=>(oy q.2.1).bind λas=>(kK q.2.2.1).bind λI=>C (f.1,f.2,as.1,as.2,q.2.2.2)
noncomputable def O6(h:Ey):Option (aM×cq×eQ×List eQ×cq):=match h with
 |.ExceptHandler ty nm b p=>match nm with
  |some _=>none
  |none=>match b with
   |[]=>none
   |b::aD=>ty.bind λe=>(kJ e).bind λx=>C (x.1,x.2,b,aD,p)
noncomputable def SH(aG:fc)(K:b5)(ab:cK)(body:List eQ)(bM:List Ey)(fin:List eQ):M dj:=match fin with
 |f::dH=>(bq 169 (kK bM)).bind λI=>Ke aG ab body (f::dH)
 |[]=>(bq 169 (iD bM)).bind λh=>(bq 169 (O6 h)).bind λw=>Kd aG K ab body w.1 (w.2.2.1::w.2.2.2.1)
set_option backward.match.sparseCases false in
noncomputable def dw(aG:fc)(K:b5)(ab:cK)(s:eQ):M dj:=match s with
 |.Expr e _=>(match vR e with
  |true=>fail 164
  |false=>(aG.ev ab e).bind λI=>M.pure .next)
 |.Pass _=>M.pure .next
 |.Break _=>M.pure .brk
 |.Continue _=>M.pure .cont
 |.Return o _=>(match o with
  |none=>M.pure (.ret nH)
  |some e=>(aG.ev ab e).bind λv=>M.pure (.ret v))
 |.Assign cp v _=>(bq 169 (iD cp)).bind λt=>asg aG K ab t v
 |.AugAssign t op v _=>(Bk aG K ab t op v).bind λI=>M.pure .next
 |.If t b o _=>(aG.eO ab t).bind λc=>match c with
  |true=>aG.xs ab b
  |false=>aG.xs ab o
 |.While t b o _=>(bq 169 (kK o)).bind λI=>aG.dK ab t b
 |.For t it b o _=>(bq 169 (kK o)).bind λI=>(match eK ab.dep 400&&!isSet it with
  |true=>(aG.ev ab it).bind λv=>(nq v).bind λn=>aG.kC ab t n b
  |false=>fail 165)
 |.Raise e k _=>(match k with
  |some _=>fail 169
  |none=>(bq 169 (RV e)).bind λw=>JP aG K ab w.1 w.2.2.1 w.2.2.2.1)
 |.Try body bM o fin _=>(bq 169 (kK o)).bind λI=>SH aG K ab body bM fin
 |_=>fail 169
noncomputable def Tt(aG:fc)(K:b5)(ab:cK):List eQ->M dj
 |[]=>M.pure .next
 |s::r=>(dw aG K ab s).bind λ
  |.next=>aG.xs ab r
  |f=>M.pure f
noncomputable def Hk(aG:fc)(K:b5)(ab:cK)(t:bk)(n:Nat)(b:List eQ):M dj:=(nextOf n).bind λ
 |none=>M.pure .next
 |some v=>(assign aG K ab t v).bind λI=>(aG.xs ab b).bind λ
  |.next=>aG.kC ab t n b
  |.cont=>aG.kC ab t n b
  |.brk=>M.pure .next
  |.ret v=>M.pure (.ret v)
noncomputable def Kw(aG:fc)(ab:cK)(t:bk)(b:List eQ):M dj:=(aG.eO ab t).bind λc=>match c with
 |true=>(aG.xs ab b).bind λ
  |.next=>aG.dK ab t b
  |.cont=>aG.dK ab t b
  |.brk=>M.pure .next
  |.ret v=>M.pure (.ret v)
 |false=>M.pure .next
noncomputable abbrev gW:=Nat->V->List V->St->Option (Out V)
noncomputable def step(K:b5)(H:gW)(aG:fc):fc where
 ev:=Og aG K
 eO:=SF aG K
 ca:=λdep f aK st=>match H dep f aK st with
  |some o=>o
  |none=>gp aG K dep f aK st
 xs:=Tt aG K
 kC:=Hk aG K
 dK:=Kw aG
 cl:=Gr aG K
noncomputable def er(K:b5)(H:gW):Nat->fc
 |0=>⟨λI I=>fail 0,λI I=>fail 0,λI I I=>fail 0,λI I=>fail 0,λI I I I=>fail 0,λI I I=>fail 0,λI I I I I=>fail 0⟩
 |n+1=>step K H (er K H n)
noncomputable def newD(x:Option (Bool×O)):Bool:=x.any λp=>p.1&&p.2.i_.any λq=>q.1.isEmpty&&q.2.any List.isEmpty
noncomputable def Ra(x:Option (Bool×O)):Bool:=x.any λp=>p.1&&p.2.i_.any λq=>q.1.isEmpty&&q.2.isNone
noncomputable def O.qh(o:O):Bool:=cw o.ctorIdx 12
noncomputable def Hw(x:Option (Bool×O)):Bool:=x.any λp=>!p.1&&p.2.qh
noncomputable def O.PQ(o:O):Option (Nat×Nat):=O.rec (λI I=>none) (λI=>none) (λI I=>none) (λI=>none) (λI I=>none) (λI I=>none) (λI=>none) (λI=>none) (λI I=>none) (λI I=>none) (λi l=>C (i,l)) (λI=>none) none o
noncomputable def IC(x:Option (Bool×O))(m:Nat):Bool:=x.any λp=>p.1&&p.2.PQ.any λq=>cw q.1 0&&cw q.2 m
noncomputable def Out.r3(o:Out aQ):Option (aQ×St):=Out.rec (λI=>none) (λa st=>C (a,st)) (λI=>none) o
noncomputable def Out.Ol(o:Out aQ):Option St:=Out.rec (λI=>none) (λI I=>none) C o
noncomputable def dj.Q4(f:dj):Bool:=dj.rec ae ai ai (λI=>ai) f
noncomputable def dj.ud(f:dj):Option V:=dj.rec none none none C f
theorem zL{o:Out dj}{f:St->Bool}(h:(match o with|.ok .next st=>f st|_=>ai)=ae):∃st,o=.ok .next st/\f st=true:=by
 induction o using MI.Out.casesOn with
 |ok a st=>
  induction a using MI.dj.casesOn with
  |next=>exact⟨st,rfl,h⟩
  |_=>exact c8 h
 |_=>exact c8 h
theorem Iz{k:ScopeKind}(h:isFun k=ae):k=.function:=by
 induction k using ScopeKind.casesOn with
 |function=>rfl
 |_=>exact c8 h
theorem Sk{o:Option Nat}{f:Nat->Bool}(h:(match o with|some a=>f a|none=>ai)=ae):∃a,o=C a/\f a=true:=by
 induction o using b1 with
 |some a=>exact⟨a,rfl,h⟩
 |none=>exact c8 h
noncomputable def MV(v:aB):Option Bool:=pD v.ctorIdx 3 λh=>Li v h C
structure cW where
 ad:List Nat
 aE:List bo
 aj:List ag
 cn:List ag
noncomputable def bo.eO(ah:cW):bo->Option bo
 |.lit c=>C (.lit c)
 |.aL c neg v=>(cI ah.aE v).bind λe=>match neg with
  |false=>bo.add (.lit c) e
  |true=>bo.sub (.lit c) e
noncomputable def GK(e:bo):ag:=match(litOf e).bind nat? with
 |some n=>[.lit (cs (bO (sA n)))]
 |none=>[.dec e]
noncomputable def c1.eO(ah:cW):c1->Option ag
 |.lit l=>C [.lit l]
 |.dec e=>(e.eO ah).map GK
 |.chr k=>cI ah.aj k
 |.any k=>cI ah.cn k
noncomputable def ag.eO(ah:cW):ag->Option ag
 |[]=>C []
 |p::r=>(c1.eO ah p).bind λa=>(ag.eO ah r).map (ag.cat a)
noncomputable def V.eO(ah:cW):V->Option V
 |.c v=>C (.c v)
 |.i e=>(e.eO ah).map .i
 |.s e=>(ag.eO ah e).map .s
 |.r n=>(cI ah.ad n).map .r
 |.u=>C .u
noncomputable def p3{β:Type}(f:aQ->β->Bool):List aQ->List β->Bool
 |[],[]=>ae
 |a::l,b::m=>f a b&&p3 f l m
 |[],_::_=>ai
 |_::_,[]=>ai
noncomputable def O.RX:O->Option Nat
 |.raw k=>C k
 |_=>none
noncomputable def Gf:aB->Option Bool
 |.bool a=>C a
 |_=>none
noncomputable def tX:Option Bool->Bool
 |some b=>b
 |none=>ai
noncomputable def Oc(a b:aB):Bool:=(y6 a&&y6 b)||(JR a).any (λx=>isRef x b)||(Gf a).any λx=>(Gf b).any (bo.x5 x)
noncomputable def Of(ar:List b6)(aC:List bB)(a b:V):Bool:=match a with
 |.c x=>b.aj.any (Oc x)
 |.i a=>b.aE.any λb=>tX (bo.eq ar a b)
 |.s a=>b.cn.any λb=>tX (ag.eq ar aC 400 a b)
 |.r n=>b.dv.any (cw n)
 |.u=>ae
noncomputable def n3(ah:cW)(ar:List b6)(aC:List bB)(p v:V):Bool:=(p.eO ah).any λdJ=>Of ar aC dJ v
noncomputable def yd(ah:cW)(ar:List b6)(aC:List bB):List V->List V->Bool:=p3 (n3 ah ar aC)
noncomputable def NB(ah:cW)(ar:List b6)(aC:List bB)(p v:aM×V):Bool:=eqs p.1 v.1&&n3 ah ar aC p.2 v.2
noncomputable def NC(ah:cW)(ar:List b6)(aC:List bB):List (aM×V)->List (aM×V)->Bool:=p3 (NB ah ar aC)
noncomputable def ND(ah:cW)(ar:List b6)(aC:List bB)(p v:ag):Bool:=(ag.eO ah p).any λdJ=>tX (ag.eq ar aC 400 dJ v)
noncomputable def BA(ah:cW)(ar:List b6)(aC:List bB)(p v:ag×V):Bool:=ND ah ar aC p.1 v.1&&n3 ah ar aC p.2 v.2
noncomputable def NA(ah:cW)(ar:List b6)(aC:List bB):List (ag×V)->List (ag×V)->Bool:=p3 (BA ah ar aC)
noncomputable def Vg(ah:cW)(ar:List b6)(aC:List bB)(p q:ag×V):Bool:=(ag.eO ah p.1).any λk=>(ag.eO ah q.1).any λl=>ag.ke (ag.eq ar aC 400 k l)
noncomputable def FH(ah:cW)(ar:List b6)(aC:List bB):List (ag×V)->Bool
 |[]=>ae
 |p::bu=>bu.all (Vg ah ar aC p)&&FH ah ar aC bu
noncomputable def U8(ah:cW)(ar:List b6)(aC:List bB)(dH:List (ag×V))(op:Option (List ag))(a:ag):Bool:=(ag.eO ah a).any λk=>(look ar aC k dH op).any Option.isNone
noncomputable def Qs(j:Nat)(dH:List (ag×V)):Bool:=dH.all λe=>(pe e.2).any λz=>c6 z j
noncomputable def Gz(ah:cW)(bY:Nat)(ar:List b6)(aC:List bB)(xs aH:List V)(m:Nat):Bool:=cw (m+xs.length) aH.length&&c6 m bY&&yd ah ar aC xs (aH.drop m)
noncomputable def We(ah:cW)(bY:Nat)(ar:List b6)(aC:List bB)(au dH:List (ag×V))(op:Option (List ag))(abs:List ag):Bool:=
 au.all (λe=>dH.any (BA ah ar aC e))&&FH ah ar aC au&&abs.all (U8 ah ar aC dH op)&&c6 dH.length (au.length+bY)
noncomputable def p8(ah:cW)(bY:Nat)(ar:List b6)(aC:List bB)(p o:O):Bool:=match p with
 |.inst U dH=>o.rU.any λq=>cw U q.1&&NC ah ar aC dH q.2
 |.list xs=>o.kH.any (yd ah ar aC xs)
 |.iQ k xs=>(cI ah.aE k).any λe=>match o.kH with
  |some aH=>((litOf e).bind nat?).any (Gz ah bY ar aC xs aH)
  |none=>o.v7.any λq=>(va e).any λm=>cw m.2 q.1&&Gz ah bY ar aC xs q.2 m.1
 |.tup xs=>o.SK.any (yd ah ar aC xs)
 |.dict au abs=>o.i_.any λq=>match abs with
  |none=>q.2.isNone&&NA ah ar aC au q.1
  |some abs=>We ah bY ar aC au q.1 q.2 abs
 |.jx n j=>match o.tV with
  |some q=>c6 q.1 (n+bY)&&c6 q.2 (j+bY)
  |none=>o.i_.any λq=>q.2.isNone&&(c6 q.1.length (n+bY)&&Qs (j+bY) q.1)
 |.cell p=>o.rC.any λv=>match p with
  |none=>v.isNone
  |some p=>v.any (n3 ah ar aC p)
 |.raw k=>o.RX.any (cw k)
 |.gone=>ae
 |.qJ _=>ai
 |.it _ _=>ai
 |.nk _ _=>ai
 |.itR _ _=>ai
noncomputable def ny:O->Bool
 |.gone=>ai
 |_=>ae
structure b4 where
 os:List (Bool×O)
 ar:List b6
 aC:List bB
 ns:Nat
 loc:Loc
noncomputable def fill:dD (Bool×O)->Nat->List (Bool×O)->dD (Bool×O)
 |t,_,[]=>t
 |t,i,x::r=>fill (t.put cU i x) (i+1) r
noncomputable def b4.st(p:b4):St:=⟨fill .nil 0 p.os,p.os.length,p.ar,p.aC,p.ns,p.loc⟩
noncomputable def h_:List (Bool×O)->List Nat->List Nat
 |[],_=>[]
 |_::_,[]=>[]
 |x::r,n::ns=>match x.1 with
  |true=>n::h_ r ns
  |false=>h_ r ns
theorem O7(x:Bool×O)(r:List (Bool×O))(n:Nat)(ns:List Nat):h_ (x::r) (n::ns)=match x.1 with|true=>n::h_ r ns|false=>h_ r ns:=rfl
noncomputable def tW(n:Nat):List Nat->Nat
 |[]=>0
 |m::r=>match cw n m with
  |true=>0
  |false=>tW n r+1
noncomputable def Dw(ah:cW)(bY:Nat)(st:St)(handed:List Nat)(i:Nat)(x:Bool×O)(n:Nat):Bool:=eK n st.no&&(match x.1 with
 |true=>(st.σ.get n).any λy=>y.1&&(ny x.2&&(cw (tW n ah.ad) i&&p8 ah bY st.ar st.aC x.2 y.2))
 |false=>!ny x.2||(st.σ.get n).any λy=>!nu n handed&&p8 ah bY st.ar st.aC x.2 y.2)
noncomputable def wy(ah:cW)(bY:Nat)(st:St)(handed:List Nat):Nat->List (Bool×O)->List Nat->Bool
 |_,[],[]=>ae
 |i,x::r,n::ns=>Dw ah bY st handed i x n&&wy ah bY st handed (i+1) r ns
 |_,[],_::_=>ai
 |_,_::_,[]=>ai
noncomputable def Bq(ar:List b6)(bY:Nat)(b:b6)(e:bo):Bool:=(bo.lo ar e).any (λx=>!ltI x b.1)&&((bo.bN ar e).any (λy=>!ltI b.2.1 y)&&
 (match b.2.2 with
 |none=>ae
 |some j=>match litOf e with
  |some c=>!ltI (.ofNat j) c
  |none=>(va e).any λq=>((cI ar q.2).bind λb=>b.2.2).any λt=>c6 (q.1+t) (bY+j)))
noncomputable def Br(ar:List b6)(bY:Nat):List b6->List bo->Bool:=p3 (Bq ar bY)
noncomputable def By(aC:List bB)(l:bB)(e:ag):Bool:=(iD e).any λp=>match p with
 |.lit m=>(iD m).any λc=>nu c l
 |.chr k=>(clsAt aC k).any λm=>m.all λc=>nu c l
 |.dec _=>ai
 |.any _=>ai
noncomputable def Bz(aC:List bB):List bB->List ag->Bool:=p3 (By aC)
noncomputable def x2(ar:List b6)(aC:List bB):List ag->Bool
 |[]=>ae
 |e::r=>r.all (λf=>ag.ke (ag.eq ar aC 400 e f))&&x2 ar aC r
noncomputable def c1.known(st:St):c1->Bool
 |.lit _=>ae
 |.dec e=>(bo.lo st.ar e).isSome
 |.chr k=>eK k st.aC.length
 |.any k=>eK k st.ns
noncomputable def DQ(st:St)(e:ag):Bool:=e.all (c1.known st)&&(ag.wide st.ar e).any λn=>c6 n 1000
noncomputable def h1(ah:cW)(bY:Nat)(st:St)(p:b4):Bool:=
 c6 p.os.length 100000&&wy ah bY st (h_ p.os ah.ad) 0 p.os ah.ad&&Br st.ar bY p.ar ah.aE&&Bz st.aC p.aC ah.aj&&x2 st.ar st.aC ah.aj&&
 cw ah.cn.length p.ns&&ah.cn.all (DQ st)&&p.loc.all (λe=>(eh e.1 st.loc).any (n3 ah st.ar st.aC e.2))
noncomputable def zv(f:aQ->Option fb):List aQ->Option (List fb)
 |[]=>C []
 |x::r=>(f x).bind λa=>(zv f r).map λb=>a::b
noncomputable def Kn(ah:cW):List V->Option (List V):=zv (V.eO ah)
noncomputable def Kl(ah:cW)(v:aM×V):Option (aM×V):=(v.2.eO ah).map λa=>(v.1,a)
noncomputable def SX(ah:cW):List (aM×V)->Option (List (aM×V)):=zv (Kl ah)
noncomputable def Kk(ah:cW)(v:ag×V):Option (ag×V):=(ag.eO ah v.1).bind λk=>(v.2.eO ah).map λa=>(k,a)
noncomputable def SW(ah:cW):List (ag×V)->Option (List (ag×V)):=zv (Kk ah)
noncomputable def O.up(ah:cW)(hb:Nat):O->Option O
 |.inst U dH=>(SX ah dH).map (.inst U)
 |.list xs=>(Kn ah xs).map .list
 |.tup xs=>(Kn ah xs).map .tup
 |.dict au op=>match op with
  |none=>(SW ah au).map λau=>.dict au none
  |some _=>none
 |.jx n j=>C (.jx (n+hb) (j+hb))
 |.iQ _ _=>none
 |.qJ _=>none
 |.cell _=>none
 |.it _ _=>none
 |.nk _ _=>none
 |.itR _ _=>none
 |.raw _=>none
 |.gone=>none
noncomputable def lB(f:Nat->aQ)(n i:Nat):List aQ:=(List.range' i n).map f
noncomputable def cW.ext(ah:cW)(st:St)(p q:b4):cW:=⟨ah.ad++lB id (q.os.length-p.os.length) st.no,ah.aE++lB (λi=>bo.aL 0 ai i) (q.ar.length-p.ar.length) st.ar.length,ah.aj,ah.cn++lB (λi=>[c1.any i]) (q.ns-p.ns) st.ns⟩
noncomputable def may:List (Bool×O)->Bool
 |[]=>ae
 |x::_=>x.1
noncomputable def JJ(ah:cW)(hb:Nat)(own:Bool)(o:O):Bool->Option (Option (Bool×O))
 |true=>match own with
  |true=>match ny o with
   |true=>(O.up ah hb o).map λo=>C (ae,o)
   |false=>none
  |false=>match ny o with
   |true=>none
   |false=>C (C (ai,.gone))
 |false=>match own with
  |true=>none
  |false=>C none
noncomputable def Va(n:Nat)(y:Option (Bool×O))(l:List (Nat×(Bool×O))):List (Nat×(Bool×O)):=match y with
 |some y=>(n,y)::l
 |none=>l
noncomputable def JL(ah:cW)(hb:Nat)(os:List (Bool×O)):List (Bool×O)->List Nat->Option (List (Nat×(Bool×O)))
 |[],[]=>C []
 |x::r,n::ns=>(JL ah hb (os.drop 1) r ns).bind λl=>(JJ ah hb x.1 x.2 (may os)).map λy=>Va n y l
 |[],_::_=>none
 |_::_,[]=>none
noncomputable def putAll:dD (Bool×O)->List (Nat×(Bool×O))->dD (Bool×O)
 |t,[]=>t
 |t,x::r=>putAll (t.put cU x.1 x.2) r
noncomputable def zG:List Nat->Bool
 |[]=>ae
 |n::r=>(match nu n r with|true=>ai|false=>zG r)
theorem aca(n:Nat)(r:List Nat):zG (n::r)=match nu n r with|true=>ai|false=>zG r:=rfl
noncomputable def aaL(l:List (Nat×(Bool×O))):List Nat:=l.map λx=>x.1
noncomputable def Sg(hb:Nat)(b:b6):b6:=(b.1,b.2.1,b.2.2.map λj=>j+hb)
noncomputable def k_:Bool->Option Unit
 |true=>C ()
 |false=>none
noncomputable def RH(ah:cW)(hb:Nat)(st:St)(p q:b4):Option St:=(k_ (cw p.aC.length q.aC.length&&c6 p.os.length q.os.length&&c6 p.ar.length q.ar.length&&c6 p.ns q.ns&&c6 q.os.length 100000&&c6 (st.no+q.os.length) 1000000)).bind λI=>
 (JL (ah.ext st p q) hb p.os q.os (ah.ext st p q).ad).bind λl=>(k_ (zG (aaL l))).map λI=>
  ⟨putAll st.σ l,st.no+(q.os.length-p.os.length),st.ar++(q.ar.drop p.ar.length).map (Sg hb),st.aC,st.ns+(q.ns-p.ns),st.loc⟩
structure nW where
 f:Nat
 D:Nat
 ah:cW
 p:b4
 bu:List V
 q:b4
 r:V
 bY:Nat
 q9:Nat
 ex:Bool
noncomputable def fp(h:nW):gW:=λdep f aK st=>match f with
 |.c (.ref a)=>(match cw a h.f&&c6 dep h.D with
  |true=>(match h1 h.ah h.bY {st with loc:=[]} h.p&&yd h.ah st.ar st.aC h.bu aK with
   |true=>(match RH h.ah (h.bY+h.q9) {st with loc:=[]} h.p h.q,h.r.eO (h.ah.ext {st with loc:=[]} h.p h.q) with
    |some bp,some v=>(match h.ex with
     |false=>C (.ok v {bp with loc:=st.loc})
     |true=>C (.ex {bp with loc:=st.loc}))
    |_,_=>C (.fail 174))
   |false=>C (.fail 175))
  |false=>none)
 |_=>none
noncomputable def Km(ah:cW)(o:O):Option O:=match ny o with
 |true=>O.up ah 0 o
 |false=>C .gone
noncomputable def IK(ah:cW):List (Bool×O)->dD (Bool×O)->Nat->Option (dD (Bool×O))
 |[],t,_=>C t
 |x::r,t,i=>(Km ah x.2).bind λo=>IK ah r (t.put cU i (ai,o)) (i+1)
noncomputable def PV(st:St)(pre:List Nat)(aj:List ag)(e:b4):cW:=⟨pre++lB id (e.os.length-pre.length) st.no,lB (λi=>bo.aL 0 ai i) e.ar.length st.ar.length,aj,lB (λi=>[c1.any i]) e.ns st.ns⟩
noncomputable def hu(st:St)(pre:List Nat)(aj:List ag)(e:b4):Option St:=(k_ (c6 (st.no+e.os.length) 1000000)).bind λI=>
 (IK (PV st pre aj e) (e.os.drop pre.length) st.σ st.no).map λt=>⟨t,st.no+(e.os.length-pre.length),st.ar++e.ar,st.aC,st.ns+e.ns,st.loc⟩
noncomputable def wG(f:Nat->aQ->Bool):Nat->Nat->List aQ->Bool
 |0,_,_=>ae
 |k+1,i,l=>match l with
  |[]=>ai
  |x::r=>f i x&&wG f k (i+1) r
noncomputable def Cx(i:Nat)(l:List Nat)(k:Nat):Bool:=wG (λi n=>cw n i) k i l
noncomputable def aag(i:Nat)(e:bo):Bool:=(va e).any λq=>cw q.1 0&&cw q.2 i
noncomputable def c1.aah(i:Nat):c1->Bool
 |.chr v=>cw v i
 |.lit _=>ai
 |.dec _=>ai
 |.any _=>ai
noncomputable def c1.aak(i:Nat):c1->Bool
 |.any v=>cw v i
 |.lit _=>ai
 |.dec _=>ai
 |.chr _=>ai
noncomputable def PA(i:Nat)(l:List bo)(k:Nat):Bool:=wG aag k i l
noncomputable def Pz(i:Nat)(l:List ag)(k:Nat):Bool:=wG (λi e=>(iD e).any (c1.aah i)) k i l
noncomputable def PB(i:Nat)(l:List ag)(k:Nat):Bool:=wG (λi e=>(iD e).any (c1.aak i)) k i l
noncomputable def Io(ah:cW)(p:b4):Bool:=Cx 0 ah.ad p.os.length&&PA 0 ah.aE p.ar.length&&Pz 0 ah.aj p.aC.length&&PB 0 ah.cn p.ns
noncomputable def ha(o:Out V)(ah:cW)(bY:Nat)(p q:b4)(r:V)(ex:Bool):Bool:=Io ah p&&(bif ex then o.Ol.any λst=>h1 ah bY st q else o.r3.any λw=>h1 ah bY w.2 q&&n3 ah w.2.ar w.2.aC r w.1)
noncomputable def cZ(x:String):V:=.s [.lit (cs (bO x))]
noncomputable def de(x:String):ag:=[.lit (cs (bO x))]
noncomputable def li(n:Nat):V:=.i (.lit (.ofNat n))
noncomputable def aE(k:Nat):V:=.i (.aL 0 ai k)
noncomputable def PU(c k:Nat):V:=.i (.aL (.ofNat c) ai k)
noncomputable def se:V:=.c (.bool ae)
noncomputable def nF:V:=.c (.bool ai)
noncomputable def du:V:=.c .none
noncomputable def BV(a:Nat):V:=.c (.ref a)
noncomputable def hq(k:Nat):ag:=[.lit [103],.chr k]
noncomputable def bb(k:Nat):ag:=[.lit [104],.chr k]
noncomputable def region(kind owner parent root made number level part names order uses agb counts ZI generic:V):O:=.inst 332 [("kind",kind),("owner",owner),("parent",parent),("root",root),("made",made),("number",number),("level",level),("part",part),("names",names),("order",order),("uses",uses),("use_types",agb),("counts",counts),("type_homes",ZI),("generic",generic)]
noncomputable def entity(kind name data line number unique H6 part zZ ready complete:V):O:=.inst 59 [("kind",kind),("name",name),("key",du),("subtype",du),("data",data),("line",line),("number",number),("unique",unique),("home",H6),("part",part),("region",zZ),("full",du),("is_ready",ready),("is_complete",complete),("is_constant",nF),("is_implicit",nF),("is_overridden",nF)]
noncomputable def z4(place line count under:V)(lim typ VE ags decls afv:Nat):O:=.inst 31 [("place",place),("limits",.r lim),("choose",du),("types",.r typ),("typed",du),("static",du),("builders",.r VE),("ways",.r ags),("declarations",.r decls),("statements",.r afv),("line",line),("count",count),("under_way",under)]
noncomputable def BF:O:=.dict [(de "package",BV 610),(de "instance",BV 683),(de "rename",BV 720)] none
noncomputable def anyI:b6:=(0,100000,none)
noncomputable def dE:bB:=[97,98,99,100]
noncomputable def bD:bB:=[112,113,114,115,116,118,119]
noncomputable def own(o:O):Bool×O:=(ae,o)
noncomputable def fix(o:O):Bool×O:=(ai,o)
noncomputable def aI(n:Nat):V:=.r n
noncomputable def Ky(k:Nat):ag:=[.lit (cs "wrapper__"),.dec (.aL 0 ai k),.lit (cs "_1")]
noncomputable def agz(k:Nat):ag:=[.lit (cs "wrapper__"),.dec (.aL 1 ai k),.lit (cs "_1")]
noncomputable def cS(u:b6)(v:Nat):b4 where
 os:=[
  own (z4 (aI 2) (aE 0) (aE 1) (aE 2) 10 11 12 13 9 14),
  own (region (cZ "root") du du (aI 1) (aE 3) (li 1) (li 0) (cZ "body") (aI 8) (aI 15) (aI 16) (aI 17) (aI 18) (aI 19) du),
  own (region (cZ "package") (aI 20) (aI 3) (aI 1) (li 0) (aE 4) (li 1) (cZ "visible") (aI 5) (aI 6) (aI 21) (aI 22) (aI 23) (aI 24) du),
  fix (region (cZ "package") (aI 25) (aI 4) (aI 1) (li 0) (aE 5) (li 1) (cZ "visible") (aI 26) (aI 27) (aI 28) (aI 29) (aI 30) (aI 31) du),
  fix (region (cZ "sub") du (aI 1) (aI 1) (li 0) (aE 6) (li 1) (cZ "visible") (aI 32) (aI 33) (aI 34) (aI 35) (aI 7) (aI 36) (aI 37)),
  own (.dict [] none),own (.list []),own (.jx 0 0),
  fix .gone,fix BF,
  fix .gone,fix .gone,fix .gone,fix .gone,fix .gone,fix .gone,
  fix (.list []),fix (.list []),fix .gone,fix (.dict [] none),
  fix .gone,fix (.list []),fix (.list []),fix .gone,fix .gone,
  fix .gone,fix (.dict [] (C [hq 0])),fix .gone,fix (.list []),fix (.list []),fix .gone,fix .gone,
  fix (.dict [(Ky 7,aI 39)] none),fix .gone,fix (.list []),fix (.list []),fix .gone,fix .gone,
  fix .gone,fix .gone,
  fix (.tup [cZ "instance",li 2,cZ "package",cZ "x",aI 41,aI 42]),fix (.tup [cZ "name",.s (hq 0)]),fix (.list [])
  ]
 ar:=[anyI,(100,10000+100*(v:Int),C 0),u,(11,10000+100*(v:Int),C 0),(12,10000+100*(v:Int),C 0),(12,10000+100*(v:Int),C 0),(12,10000+100*(v:Int),C 0),(100,10000+100*(v:Int),C 0)]
 aC:=[dE]
 ns:=0
 loc:=[]
noncomputable def Ng(oo:Bool)(nm:V):Nat->Nat->Nat->Nat->List (Bool×O)
 |0,_,_,_=>[]
 |m+1,b,k,t=>[
  (oo,.list [aI (b+1)]),
  (oo,entity (cZ "package") nm du (li 2) (aE k) (.s [.any t]) (aI (b+4)) (cZ "visible") (aI (b+2)) se se),
  (oo,region (cZ "package") (aI (b+5)) (aI (b+6)) (aI 1) (li 0) (aE (k+1)) (li 1) (cZ "private") (aI (b+3)) (aI (b+7)) (aI (b+8)) (aI (b+9)) (aI (b+10)) (aI (b+11)) du)]++(match m with
  |0=>[(oo,.dict [] none),fix .gone,fix .gone,fix .gone,fix .gone,fix .gone,fix .gone,fix .gone,fix .gone]
  |_=>[(oo,.dict [(Ky (k+2),aI (b+12)),(de "x",aI (b+13))] none),fix .gone,fix .gone,fix .gone,fix .gone,fix .gone,fix .gone,fix .gone,fix .gone,fix .gone]++Ng oo nm m (b+13) (k+3) (t+1))
noncomputable def Nd:Nat->List b6
 |0=>[]
 |1=>[(12,100000,none),(12,100000,none)]
 |m+1=>[(12,100000,none),(12,100000,none),(100,20000,none)]++Nd m
noncomputable def lR(u:b6)(v m:Nat):b4 where
 os:=[
  own (z4 (aI 2) (li 2) (PU m 1) (aE 2) 10 11 12 13 9 14),
  own (region (cZ "root") du du (aI 1) (PU (6*m) 3) (li 1) (li 0) (cZ "body") (aI 8) (aI 15) (aI 16) (aI 17) (aI 18) (aI 19) du)]++((cS u v).os.drop 2).take 3++ [
  own (.dict [(agz 1,aI 43),(de "x",aI 51)] none),own (.list [aI 52]),own (.jx 0 0)]++(cS u v).os.drop 8++ [
  fix .gone,own (.list [aI 45]),own (.tup [cZ "package",li 2,.s [.any 0],aI 46,aI 47,aI 48,aI 49,aI 50]),
  fix .gone,fix .gone,fix .gone,fix .gone,fix .gone]
  ++Ng ae (cZ "x") m 51 8 1
 ar:=(cS u v).ar++Nd m
 aC:=[dE]
 ns:=1+m
 loc:=[]
noncomputable def gX(u:b6)(v:Nat):b4 where
 os:=[
  own (z4 (aI 43) (aE 8) (aE 9) (aE 2) 10 11 12 13 9 14),
  own (region (cZ "root") du du (aI 1) (aE 10) (li 1) (li 0) (cZ "body") (aI 8) (aI 15) (aI 16) (aI 17) (aI 18) (aI 19) du)]++((cS u v).os.drop 2).take 3++ [
  fix .gone,fix .gone,fix .gone]++(cS u v).os.drop 8++ [fix .gone]
 ar:=(cS u v).ar++ [(0,100000,none),(0,50000,none),(11,90000,none)]
 aC:=[dE]
 ns:=0
 loc:=[]
noncomputable def GE:b4 where
 os:=[fix .gone,fix (.list [aI 2]),fix (entity (cZ "generic") (.s (hq 0)) (aI 3) (li 1) (aE 0) (.s [.any 0]) (aI 0) (cZ "body") du se nF),fix (.list [aI 4,du]),fix (.tup [cZ "generic",li 1,aI 5,aI 6]),fix (.list []),fix (.tup [cZ "package",li 1,.s (hq 0),aI 7,aI 8]),fix (.list []),fix (.list [])]
 ar:=[(2,10,none)]
 aC:=[dE]
 ns:=1
 loc:=[]
noncomputable def mY(k:Nat)(aC:List bB):b4 where
 os:=GE.os.take 7++ [fix (.list [aI 9]),fix (.list []),fix (.tup [cZ "instance",li 2,cZ "package",cZ "x",aI 10,aI 11]),fix (.tup [cZ "name",.s (hq k)]),fix (.list [])]
 ar:=[(2,10,none)]
 aC:=aC
 ns:=1
 loc:=[]
noncomputable def Tg(st:St)(cM:Nat)(aj:List ag)(e:b4):St:=match hu st [1] aj e with
 |some bp=>{bp with σ:=bp.σ.put cU cM (ai,.dict [(hq 0,aI st.no)] (C []))}
 |none=>st
noncomputable def jo(m:Nat)(ah:cW)(D:Nat):nW:=⟨683,D,ah,cS (15,20-(m:Int),none) 1,[aI 0,aI 40],lR (15,20-(m:Int),none) 1 m,aI 44,8,10*m,ai⟩
noncomputable def u1(ah:cW)(D:Nat):nW:=⟨683,D,ah,cS (15,20,none) 1,[aI 0,aI 40],gX (15,20,none) 1,du,8,0,ae⟩
noncomputable def Jd:Loc:=[("scope",aI 0),("frame",aI 2),("known",aI 6),("after",aI 10),("room",aE 2)]
noncomputable def dZ:b6:=(1,5,none)
noncomputable def tU(gL:b6):List b6:=[anyI,(100,10000,C 0),gL,(11,10000,C 0),(0,10000,C 0),(0,10000,none)]
noncomputable def agc:V:=.i (.aL 20 ae 2)
noncomputable def Jz(scope names known:O):List (Bool×O):=[
  own scope,
  own (region (cZ "root") du du (aI 1) (aE 3) (li 1) (li 0) (cZ "body") (aI 13) (aI 24) (aI 14) (aI 15) (aI 25) (aI 16) du),
  own (region (cZ "sub") du (aI 1) (aI 1) (li 0) (li 11) (li 1) (cZ "body") (aI 3) (aI 4) (aI 17) (aI 18) (aI 5) (aI 26) du),
  own names,own (.iQ 4 []),own (.jx 0 0),
  own known,own (.dict [(de "cells",aI 11),(de "at",aE 5)] none),own (.cell (C (aI 7))),own (.raw 0),
  fix .gone,fix .gone,fix BF,fix .gone,fix (.list []),fix (.list []),fix (.dict [] none),fix (.list []),fix (.list []),
  fix .gone,fix .gone,fix .gone,fix .gone,fix .gone,fix .gone,fix .gone,fix .gone]
noncomputable def J0:O:=z4 (aI 2) (aE 0) (aE 1) agc 19 20 21 22 12 23
noncomputable def xQ(gL:b6)(ext:List (Bool×O))(ar:List b6)(aC:List bB)(ns:Nat)(loc:Loc):b4:=⟨Jz J0 (.dict [] (C [])) (.dict [] (C []))++ext,tU gL++ar,aC,ns,Jd++loc⟩
noncomputable def T0:b4:=xQ dZ [] [] [] 0 []
noncomputable def dG:b4:={T0 with ar:=[anyI,(100,20000,C 0),dZ,(11,20000,C 0),(0,20000,C 0),(0,10000,none)]}
noncomputable def sc(k:Nat):V:=.s [.chr k]
noncomputable def jj(a:Int)(n:String):ag:=[.lit (cs "wrapper__"),.dec (.aL a ai 1),.lit (cs n)]
noncomputable def tw(a:Int)(n:String):ag:=[.lit (cs "f__"),.dec (.aL a ai 1),.lit (cs n)]
noncomputable def CW(f:Nat)(node told name:V):Loc:=[("deed",BV f),("node",node),("told",told),("name",name)]
noncomputable def mI(parent number names generic:V):O:=region .u .u parent .u .u number .u .u names .u .u .u .u .u generic
noncomputable def qc(nm unique H6 zZ:V):O:=.inst 59 [("kind",cZ "package"),("name",nm),("key",du),("subtype",du),("data",du),("line",.u),("number",.u),("unique",unique),("home",H6),("part",.u),("region",zZ),("full",du),("is_ready",se),("is_complete",.u),("is_constant",nF),("is_implicit",nF),("is_overridden",nF)]
noncomputable def Ob(zZ:V):O:=.inst 59 [("kind",cZ "package"),("name",.u),("key",.u),("subtype",.u),("data",.u),("line",.u),("number",.u),("unique",.u),("home",.u),("part",cZ "visible"),("region",zZ),("full",.u),("is_ready",se),("is_complete",.u),("is_constant",.u),("is_implicit",.u),("is_overridden",nF)]
noncomputable def G9(number:V):O:=.inst 59 [("kind",.u),("name",.u),("key",.u),("subtype",.u),("data",.u),("line",.u),("number",number),("unique",.u),("home",.u),("part",.u),("region",.u),("full",.u),("is_ready",.u),("is_complete",.u),("is_constant",.u),("is_implicit",.u),("is_overridden",.u)]
noncomputable def zK:b6:=(12,1000000,none)
noncomputable def agy:b6:=(0,1000000,none)
noncomputable def ur:b6:=(-1,3,none)
noncomputable def Bu:Nat->Nat->Nat->List (Bool×O)
 |0,_,_=>[]
 |1,b,k=>[fix (mI .u (aE k) (aI (b+1)) .u),fix (.dict [] none)]
 |m+2,b,k=>[fix (mI .u (aE k) (aI (b+1)) .u),fix (.dict [(Ky (k+1),.u),(de "x",aI (b+2))] none),fix (.list [aI (b+3)]),fix (Ob (aI (b+4)))]++Bu (m+1) (b+4) (k+2)
noncomputable def Bv:Nat->List b6
 |0=>[]
 |1=>[zK]
 |m+2=>[zK,agy]++Bv (m+1)
noncomputable def sR:b4:=⟨[fix .gone,fix .gone,fix (.list [aI 4]),fix (.tup [aE 0,li 1,cZ ""]),fix (qc (sc 0) (.s [.any 0]) (aI 1) (aI 5))]++Bu 1 5 1,[ur]++Bv 1,[bD],1,[]⟩
noncomputable def gP(m:Nat):b4:=⟨[fix .gone,fix .gone,fix (G9 (aE 1)),fix (.list [aI 5]),fix (.tup [aE 0,li m,cZ ""]),fix (qc (sc 0) (.s [.any 0]) (aI 6) (aI 8)),fix (mI (aI 7) .u .u .u),fix (mI .u .u .u (aI 2))]++Bu m 8 2,[ur,(2,10,none)]++Bv m,[bD],1,[]⟩
noncomputable def uZ:b4:=⟨[fix .gone,fix .gone,fix (G9 (aE 1)),fix (.list [aI 5]),fix (.tup [aE 0,li 1,sc 1]),fix (qc (sc 0) (.s [.any 0]) (aI 6) (aI 8)),fix (mI (aI 7) .u .u .u),fix (mI .u .u .u (aI 2)),
 fix (mI .u (aE 2) (aI 9) .u),fix (.dict [(de "u",aI 10)] none),fix (.list [aI 11]),fix (Ob (aI 12)),fix (mI .u (aE 3) .u .u),fix (.list [aI 14]),fix (qc (sc 1) .u .u (aI 12))],[ur,(2,10,none),zK,zK],[bD,bD],1,[]⟩
noncomputable def mh:b4:=⟨[fix .gone,fix (.list [aI 2]),fix (entity (cZ "generic") (.s (bb 0)) (aI 3) (li 1) (aE 0) (.s [.any 0]) (aI 0) (cZ "body") du se nF),fix (.list [aI 4,du]),fix (.tup [cZ "generic",li 1,aI 5,aI 10]),fix (.list [aI 6]),fix (.tup [cZ "fpack",li 1,cZ "f",aI 7,cZ "box"]),fix (.tup [cZ "name",.s (hq 0)]),
  fix (.tup [cZ "rename",li 2,cZ "package",cZ "u",du,aI 9]),fix (.tup [cZ "name",cZ "f"]),fix (.tup [cZ "package",li 1,.s (bb 0),aI 11,aI 12]),fix (.list [aI 8]),fix (.list [])],[(2,10,none)],[dE],1,[]⟩
noncomputable def ab7(nm:V):List (Bool×O):=[fix (.tup [cZ "instance",li 5,cZ "package",nm,aI 28,aI 29]),fix (.tup [cZ "name",.s (hq 0)]),fix (.list [])]
noncomputable def ab9(nm:V):List (Bool×O):=[fix (.tup [cZ "package",li 5,nm,aI 28,aI 29]),fix (.list []),fix (.list [])]
noncomputable def ab6(nm other:V):List (Bool×O):=[fix (.tup [cZ "rename",li 5,cZ "package",nm,du,aI 28]),fix (.tup [cZ "name",other])]
noncomputable def ab8(nm other:V):List (Bool×O):=[fix (.tup [cZ "instance",li 5,cZ "package",nm,aI 28,aI 29]),fix (.tup [cZ "name",.s (bb 0)]),fix (.list [aI 30]),fix (.tup [du,aI 31]),fix (.tup [cZ "name",other])]
noncomputable def fN(K:b5):List Stmt:=match K.lookup 760 with
 |some ⟨_,_,.func fd,_⟩=>(match fd.body with|.stmts b=>b|_=>[])
 |_=>[]
noncomputable def zj(K:b5):Scope:=match K.lookup 760 with
 |some ⟨_,_,.func fd,_⟩=>fd.scope
 |_=>{kind:=.module,names:=[],isGenerator:=ai,isCoroutine:=ai}
set_option backward.match.sparseCases false in
noncomputable def ea(K:b5):List Stmt:=match(fN K).drop 8 with
 |.For _ _ b _ _::_=>b
 |_=>[]
noncomputable def lax(K:b5):cK:=⟨zj K,[("bag",8)],2⟩
noncomputable def kx:b4:=⟨[fix (.list [aI 1]),fix (.inst 59 [("kind",.u),("name",sc 0),("key",du),("subtype",.u),("data",.u),("line",.u),("number",.u),("unique",.u),("home",.u),("part",.u),("region",.u),("full",.u),("is_ready",.u),("is_complete",.u),("is_constant",.u),("is_implicit",nF),("is_overridden",nF)])],[],[bD],0,[]⟩
noncomputable def agZ(m:Nat):b4:=⟨[fix (.list [aI 1]),fix (qc (sc 0) (.s [.any 0]) (aI 2) (aI 3)),fix .gone]++Bu m 3 0,Bv m,[bD],1,[]⟩
noncomputable def rg:b4:=⟨[fix (.list [aI 1]),fix (qc (sc 0) (.s [.any 0]) (aI 2) (aI 3)),fix .gone,fix .gone],[],[bD],1,[]⟩
noncomputable def rh:b4:=⟨[fix .gone,fix (.list [aI 2]),fix (qc (sc 0) (.s [.any 0]) (aI 3) (aI 5)),fix (mI (aI 4) .u .u .u),fix (mI .u .u .u (aI 0)),fix (mI .u (aE 0) .u .u)],[zK],[bD],1,[]⟩
noncomputable def pS(b:b6):b4:=⟨[fix (G9 (aE 0)),fix (.list [aI 2]),fix (qc (sc 0) (.s [.any 0]) (aI 3) (aI 5)),fix (mI (aI 4) .u .u .u),fix (mI .u .u .u (aI 0)),fix .gone],[b],[bD],1,[]⟩
noncomputable def E1:b4:=⟨[fix .gone,fix (.list [aI 2]),fix (qc (sc 0) (.s [.any 0]) (aI 0) (aI 3)),fix .gone],[],[bD],1,[]⟩
noncomputable def hO(st:St)(j:List Nat×List ag×b4):St:=(hu st j.1 j.2.1 j.2.2).getD st
noncomputable def pv(st:St)(n:Nat)(oo:Bool)(au:List (ag×V))(abs:List ag):St:={st with σ:=st.σ.put cU n (oo,.dict au (C abs))}
structure A6 where
 re:List (ag×V)
 c2:List ag
 ne:List (ag×V)
 na:List ag
 fM:List (ag×V)
 d6:List ag
noncomputable def abF(p:b4)(jy:List (List Nat×List ag×b4))(v:A6):St:=pv (pv (pv (jy.foldl hO p.st) 13 ai v.re v.c2) 3 ae v.ne v.na) 6 ae v.fM v.d6
noncomputable def wD(ah:cW)(bY:Nat)(st:St)(handed:List Nat)(e:b4):Bool:=
 e.os.all (λx=>!x.1)&&wy ah bY st handed 0 e.os ah.ad&&Br st.ar bY e.ar ah.aE&&Bz st.aC e.aC ah.aj&&x2 st.ar st.aC ah.aj&&cw ah.cn.length e.ns&&ah.cn.all (DQ st)
noncomputable def o8(ar:List b6)(aC:List bB):List (ag×V)->List ag->Bool:=p3 λx k=>tX (ag.eq ar aC 400 x.1 k)
noncomputable def uq(ar:List b6)(aC:List bB)(k:ag)(n:Nat)(au:List (ag×V)):Bool:=au.any λx=>tX (ag.eq ar aC 400 x.1 k)&&x.2.dv.any (cw n)
noncomputable def p2(c:Nat)(v:Nat)(e:bo):Bool:=(va e).any λq=>cw c q.1&&cw v q.2
noncomputable def qH(st:St)(n:Nat):Option (List (ag×V)):=(st.σ.get n).bind λx=>match x.1 with
 |true=>x.2.i_.bind λq=>q.2.map λI=>q.1
 |false=>none
noncomputable def CL(ah:cW)(m k:Nat):Bool:=(cI ah.aE 1).any (p2 m 1)&&((cI ah.aE 2).any (p2 0 2)&&(cI ah.aE 5).any (p2 k 5))
structure il where
 ah:cW
 fI:cW
 e:b4
 L:Nat
 T:Nat
 nm:ag
 nums:List ag
 more:Nat
 olds:List (ag×Nat)
noncomputable def il.keys(d:il):List ag:=d.olds.map (·.1)++d.nums++ [d.nm]
noncomputable def R_(st:St)(d:il):Bool:=(qH st 3).any λau=>(qH st 6).any λks=>(cI d.fI.ad d.L).any λl=>(cI d.fI.ad d.T).any λt=>
 o8 st.ar st.aC au d.keys&&(d.olds.all (λx=>uq st.ar st.aC x.1 x.2 au)&&(uq st.ar st.aC d.nm l au&&(o8 st.ar st.aC ks [d.nm]&&uq st.ar st.aC d.nm t ks)))
noncomputable def R4(d:il):Bool:=Cx 0 d.ah.ad 27&&CL d.ah d.more 0
noncomputable def dS:Nat:=60
noncomputable def gg(o:Out dj)(d:il):Bool:=match o with
 |.ok .next st=>R4 d&&h1 d.ah dS st dG&&wD d.fI dS st (h_ dG.os d.ah.ad) d.e&&R_ st d
 |_=>ai
noncomputable def iv(H:gW):gW:=λdep f aK st=>match eK 4 dep with
 |true=>H dep f aK st
 |false=>none
noncomputable def d5(o:Out dj):Bool:=o.r3.any λp=>p.1.ud.any λv=>v.aj.any λx=>(MV x).any λb=>b
noncomputable def kk(m:Nat):b6:=((m:Int),5,none)
noncomputable def rj:b4:=mY 1 [dE,dE]
noncomputable def L7:b4:=mY 0 [dE]
noncomputable def bE:ag:=[.chr 0]
noncomputable def bw:ag:=[.chr 1]
noncomputable def c3:ag:=[.chr 2]
structure Go where
 p:b4
 jy:List (List Nat×List ag×b4)
 v:A6
noncomputable def Go.st(x:Go):St:=abF x.p x.jy x.v
inductive ml where
 |no
 |tup (m:Nat) (other:V)
noncomputable def ml.ctorIdx(x:ml):Nat:=ml.casesOn x 0 (λI I=>1)
noncomputable def ml.os:ml->List (Bool×O)
 |.no=>[]
 |.tup m o=>[fix (.tup [aE 6,li m,o])]
noncomputable def ml.ar:ml->List b6
 |.no=>[]
 |.tup _ _=>[ur]
noncomputable def ml.v(n:Nat):ml->V
 |.no=>du
 |.tup _ _=>aI n
noncomputable def ey:V:=cZ ""
noncomputable def k7(gL:b6)(nm:V)(t:ml)(aC:List bB):b4:=xQ gL (ab7 nm++t.os) t.ar aC 0 (CW 683 (aI 27) (t.v 30) nm)
noncomputable def vw:Go:=⟨k7 dZ (sc 1) (.tup 1 ey) [dE,bD],[([1],[bE],GE)],⟨[(hq 0,aI 31)],[bw],[],[hq 0,bw,jj 1 "_1"],[],[bw]⟩⟩
noncomputable def ju(m:Nat):Go:=⟨k7 (kk m) (sc 1) (.tup m ey) [dE,bD,dE],[([1],[bE,c3],rj)],⟨[(hq 0,aI 31)],[bw],[],[hq 0,bw,jj 1 "_1"],[],[bw]⟩⟩
noncomputable def vx:Go:=⟨k7 dZ .u .no [dE],[([1],[bE],L7)],⟨[(hq 0,aI 30)],[],[],[hq 0,jj 1 "_1"],[],[]⟩⟩
noncomputable def tB:Go:=⟨k7 dZ .u .no [dE,dE],[([1],[bE,bw],rj)],⟨[(hq 0,aI 30)],[],[],[hq 0,jj 1 "_1"],[],[]⟩⟩
noncomputable def vv:Go:=⟨k7 dZ (sc 1) .no [dE,bD],[([1],[bE],GE),([],[bw],kx)],⟨[(hq 0,aI 30)],[bw],[(bw,aI 38)],[hq 0,jj 1 "_1"],[],[]⟩⟩
noncomputable def jt(m:Nat):Go:=⟨k7 (kk m) (sc 1) .no [dE,bD,dE],[([1],[bE,c3],rj),([],[bw],kx)],⟨[(hq 0,aI 30)],[bw],[(bw,aI 41)],[hq 0,jj 1 "_1"],[],[]⟩⟩
noncomputable def Dz(t:ml):b4:=xQ dZ (ab9 (sc 0)++t.os) t.ar [bD] 0 (CW 610 (aI 27) (t.v 30) (sc 0))
noncomputable def wB:Go:=⟨Dz (.tup 1 ey),[],⟨[],[bE],[],[bE],[],[bE]⟩⟩
noncomputable def wA:Go:=⟨Dz .no,[([],[bE],kx)],⟨[],[bE],[(bE,aI 30)],[],[],[]⟩⟩
noncomputable def lT(nm other:V)(t:ml)(aC:List bB):b4:=xQ dZ (ab6 nm other++t.os) t.ar aC 0 (CW 720 (aI 27) (t.v 29) nm)
noncomputable def u7:Go:=⟨lT (sc 1) (sc 0) (.tup 1 ey) [bD,bD],[([1,2],[bE],sR)],⟨[],[bE,bw],[(bE,aI 30)],[bw],[],[bw]⟩⟩
noncomputable def jJ(m:Nat):Go:=⟨lT (sc 1) (sc 0) (.tup m ey) [bD,bD],[([1,2],[bE],gP m)],⟨[],[bE,bw],[(bE,aI 31)],[bw],[],[bw]⟩⟩
noncomputable def u9:Go:=⟨lT (sc 1) (sc 0) (.tup 1 (sc 2)) [bD,bD,bD],[([1,2],[bE,c3],uZ)],⟨[],[bE,bw,c3],[(bE,aI 31),(c3,aI 41)],[bw],[],[bw]⟩⟩
noncomputable def u5:Go:=⟨lT (sc 1) (sc 0) .no [bD,bD],[([],[bE],rg),([],[bw],kx)],⟨[],[bE,bw],[(bE,aI 29),(bw,aI 33)],[],[],[]⟩⟩
noncomputable def u6:Go:=⟨lT (sc 0) (sc 0) .no [bD],[([],[bE],rg)],⟨[],[bE],[(bE,aI 29)],[],[],[]⟩⟩
noncomputable def u_:Go:=⟨lT .u (cZ "none") .no [],[],⟨[],[de "none"],[],[de "none"],[],[]⟩⟩
noncomputable def eB(nm other:V)(t:ml)(aC:List bB):b4:=xQ dZ (ab8 nm other++t.os) t.ar aC 0 (CW 683 (aI 27) (t.v 32) nm)
noncomputable def lO(b:b6):b4:=⟨GE.os.take 2++ [fix (entity (cZ "generic") (.s (hq 0)) .u .u (aE 0) .u .u .u du se .u)],[b],[dE],0,[]⟩
noncomputable def wK:List ag:=[tw 1 "_1",de "f"]
noncomputable def ni(b:b6):List (List Nat×List ag×b4):=[([1],[bE],lO b),([1],[bE],mh)]
noncomputable def kI:b6:=(2,10,none)
noncomputable def wM(n:Nat):List (ag×V):=[(hq 0,aI n),(bb 0,aI (n+2))]
noncomputable def wd:List ag:=[hq 0,bb 0,tw 1 "_1",jj 1 "_2"]
noncomputable def kb:Go:=⟨eB (sc 2) (sc 1) (.tup 1 (sc 1)) [dE,bD,bD],ni kI++ [([34],[bw],rh)],⟨wM 33,[bw,c3]++wK,[(bw,aI 47)],c3::wd,[],[c3]⟩⟩
noncomputable def rL:Go:=⟨eB (sc 2) (sc 1) .no [dE,bD,bD],ni kI++ [([33],[bw],rh),([],[c3],kx)],⟨wM 32,[bw,c3]++wK,[(bw,aI 46),(c3,aI 51)],wd,[],[]⟩⟩
noncomputable def vz:Go:=⟨eB (sc 1) (sc 1) .no [dE,bD],ni kI++ [([33],[bw],rh)],⟨wM 32,bw::wK,[(bw,aI 46)],wd,[],[]⟩⟩
noncomputable def h0:Go:=⟨eB .u (cZ "none") .no [dE],ni kI,⟨wM 32,de "none"::wK,[],de "none"::wd,[],[]⟩⟩
noncomputable def qj:Go:=⟨eB .u (sc 1) .no [dE,bD],ni kI++ [([2],[bw],E1)],⟨wM 32,bw::wK,[(bw,aI 46)],wd,[],[]⟩⟩
noncomputable def hX(b dF:b6):Go:=⟨eB .u (sc 1) .no [dE,bD],ni b++ [([],[bw],pS dF)],⟨wM 32,bw::wK,[(bw,aI 47)],wd,[],[]⟩⟩
noncomputable def cP(K:b5)(H:gW)(x:Go):Out dj:=(er K H 300).xs (lax K) ((ea K).drop 3) x.st
structure aZ where
 ad:List (az×az)
 aE:List Int
 aj:List Nat
 cn:List bB
structure aZ.le(a b:aZ):Prop where
 ad:a.ad<+:b.ad
 aE:a.aE<+:b.aE
 aj:a.aj<+:b.aj
 cn:a.cn<+:b.cn
theorem aZ.le.refl(a:aZ):a.le a:=⟨iH _,iH _,iH _,iH _⟩
theorem aZ.le.trans{a b c:aZ}(x:a.le b)(y:b.le c):a.le c:=⟨x.ad.trans y.ad,x.aE.trans y.aE,x.aj.trans y.aj,x.cn.trans y.cn⟩
theorem a4{l m:List aQ}(h:l<+:m){x:aQ}(e:l[n]? =C x):m[n]? =C x:=by(refine bG h λt J=>?_;try clear h;subst J);refine bG (j2.mp e) λaX he=>?_;(refine G (w7 aX) ?_;exact G e rfl)
noncomputable def bo.val(β:aZ):bo->Option Int
 |.lit c=>C c
 |.aL c neg v=>match β.aE[v]? with
  |some z=>C (match neg with|false=>c+z|true=>c-z)
  |none=>none
noncomputable def eR(z:Int):bB:=cs (bO (toString z))
noncomputable def c1.val(β:aZ):c1->Option bB
 |.lit l=>C l
 |.dec e=>(e.val β).map eR
 |.chr k=>(β.aj[k]?).map λc=>[c]
 |.any k=>β.cn[k]?
noncomputable def ag.val(β:aZ):ag->Option bB
 |[]=>C []
 |p::r=>match p.val β,ag.val β r with
  |some a,some b=>C (a++b)
  |_,_=>none
noncomputable def aR(l:bB):Str:=⟨l.toArray⟩
theorem GA(l:bB):cs (aR l)=l:=rfl
theorem hk(x:aM):aR (cs x)=x:=by cases x;simp[aR,cs]
theorem oi{l m:bB}(h:aR l=aR m):l=m:=by obtain this:=congrArg cs h;exact this
noncomputable def a7(β:aZ):V->aB->Prop
 |.c v,x=>x=v
 |.i e,x=>∃z t,e.val β=C z/\x=.int z t
 |.s e,x=>∃l t,ag.val β e=C l/\x=.str (aR l) t
 |.r n,x=>∃a d,β.ad[n]? =C (a,d)/\x=.ref a
 |.u,_=>True
theorem bo.hy{a b:aZ}(h:a.le b){e:bo}(q:e.val a=C z):e.val b=C z:=by
 induction e using MI.bo.casesOn with
 |lit c=>exact q
 |aL c neg v=>
  simp only[bo.val] at q ⊢;generalize bJ:a.aE[v]? =aF;induction aF using b1 with
  |none=>rw[bJ] at q;exact bK q
  |some y=>rw[bJ] at q;exact G (a4 h.aE bJ) q
theorem c1.hy{a b:aZ}(h:a.le b){p:c1}{l:bB}(q:p.val a=C l):p.val b=C l:=by
 induction p using MI.c1.casesOn with
 |lit _=>exact q
 |dec e=>simp only[c1.val] at q ⊢;(refine aU (pM.mp q) λz a8 J=>?_;(clear q;subst J));exact G (bo.hy h a8) rfl
 |chr k=>simp only[c1.val] at q ⊢;(refine aU (pM.mp q) λz a8 J=>?_;(clear q;subst J));exact G (a4 h.aj a8) rfl
 |any k=>exact a4 h.cn q
variable{β:aZ}
theorem ag.eP{p:c1}{r:ag}{l:bB}:ag.val β (p::r)=C l↔∃a b,p.val β=C a/\ag.val β r=C b/\l=a++b:=by show(match p.val β,ag.val β r with|some a,some b=>C (a++b)|_,_=>none)=C l↔_;cases b7:p.val β<;>cases cb:ag.val β r<;>simp[eq_comm]
theorem ag.hy{a b:aZ}(h:a.le b):∀{e:ag}{l:bB},ag.val a e=C l->ag.val b e=C l
 |[],_,q=>q
 |p::r,l,q=>by(refine fD (ag.eP.mp q) λx y ak bT J=>?_;(clear q;subst J));exact ag.eP.mpr (d2 x y (c1.hy h ak) (ag.hy h bT) rfl)
theorem a7.le{a b:aZ}(h:a.le b){v:V}{x:aB}(q:a7 a v x):a7 b v x:=by
 induction v using MI.V.casesOn with
 |c v=>exact q
 |i e=>(refine cA q λz t a8 e=>?_;try clear q);exact⟨z,t,bo.hy h a8,e⟩
 |s e=>(refine cA q λz t a8 e=>?_;try clear q);exact⟨z,t,ag.hy h a8,e⟩
 |u=>trivial
 |r n=>(refine cA q λz t a8 e=>?_;try clear q);exact⟨z,t,a4 h.ad a8,e⟩
inductive bL{aQ β:Type}(R:aQ->β->Prop):List aQ->List β->Prop
 |nil:bL R [] []
 |cons {a b l m}:R a b->bL R l m->bL R (a::l) (b::m)
namespace bL
variable{β:Type}{R hV:aQ->β->Prop}
theorem imp(h:∀a b,R a b->hV a b){l:List aQ}{m:List β}(r:bL R l m):bL hV l m:=by
 induction r with
 |nil=>exact .nil
 |cons x _ bj=>exact .cons (h _ _ x) bj
theorem length{l:List aQ}{m:List β}(r:bL R l m):l.length=m.length:=by
 induction r with
 |nil=>rfl
 |cons _ _ bj=>exact congrArg (·+1) bj
theorem append{l a_:List aQ}{m jP:List β}(r:bL R l m)(h:bL R a_ jP):bL R (l++a_) (m++jP):=by
 induction r with
 |nil=>exact h
 |cons x _ bj=>exact .cons x bj
theorem get{l:List aQ}{m:List β}(r:bL R l m):∀{i:Nat}{a:aQ},l[i]? =C a->∃b,m[i]? =C b/\R a b:=by
 induction r with
 |nil=>exact λe=>nomatch e
 |cons x _ bj=>
  intro i a e;induction i using hD with
  |zero=>(obtain J:=aT e;clear e;subst J);exact(bh _ rfl x)
  |succ i=>exact bj (i:=i) e
theorem OW{l:List aQ}{m:List β}(h:bL R l m){i:Nat}(e:l[i]? =none):m[i]? =none:=by rw[TG] at e ⊢;exact G (bW h.length) e
theorem drop{l:List aQ}{m:List β}(n:Nat)(r:bL R l m):bL R (l.drop n) (m.drop n):=by
 induction r generalizing n with
 |nil=>cases n<;>exact .nil
 |cons x y bj=>
  induction n using hD with
  |zero=>exact .cons x y
  |succ n=>exact bj n
theorem snoc{l:List aQ}{m:List β}{x:aQ}{y:β}(q:bL R l m)(r:R x y):bL R (l++ [x]) (m++ [y]):=q.append (.cons r .nil)
theorem reverse{l:List aQ}{m:List β}(r:bL R l m):bL R l.reverse m.reverse:=by
 induction r with
 |nil=>exact .nil
 |cons x _ bj=>(refine G La (G La ?_));exact bj.append (.cons x .nil)
end bL
theorem oX{a b:aM}:eqs a b=ai↔a≠b:=by(refine G (bW (Bool.not_eq_true _)) ?_;rewrite[gr];with_reducible rfl)
theorem f3:∀(l:List aQ)(i:Nat),cI l i=l[i]?
 |[],_=>rfl
 |x::r,i=>by
  show(match cw i 0 with|true=>C x|false=>cI r (i-1))=_;induction i using hD with
  |zero=>rfl
  |succ i=>show cI r (i+1-1)=_;refine G (f3 _ _) ?_;simp
set_option smartUnfolding false in
theorem vX(x:aM):∀(l:List (aM×gC)),g7 x l=l.lookup x
 |[]=>rfl
 |(y,k)::r=>by
  show(match eqs y x with|true=>C k|false=>g7 x r)=_;refine G md ?_;generalize h:eqs y x=aF;induction aF using bV with
  |true=>refine G (gr.mp h) ?_;simp
  |false=>obtain this:=oX.mp h;exact G (show(x==y)=ai from by simpa using λe=>this e.symm) (vX x r)
set_option smartUnfolding false in
theorem OS(x y:aM)(v:V):∀(l:List (aM×V)),eh y (ov x v l)=if y=x then C v else eh y l
 |[]=>by
  show(match eqs x y with|true=>C v|false=>none)=_;generalize h:eqs x y=aF;induction aF using bV with
  |true=>refine G (gr.mp h) ?_;simp
  |false=>exact G (if_neg (λe=>oX.mp h e.symm)) rfl
 |e::r=>by
  refine G (ac7 _ _ _ _) ?_;generalize h:eqs e.1 x=aF;induction aF using bV with
  |true=>
   have he:=gr.mp h;show(match eqs e.1 y with|true=>C v|false=>eh y r)=if y=x then C v else(match eqs e.1 y with|true=>C e.2|false=>eh y r);generalize af:eqs e.1 y=aF;induction aF using bV with
   |true=>obtain this:=gr.mp af;exact G (if_pos (this.symm.trans he)) rfl
   |false=>exact G (if_neg (λq=>oX.mp af (he.trans q.symm))) rfl
  |false=>
   show(match eqs e.1 y with|true=>C e.2|false=>eh y (ov x v r))=if y=x then C v else(match eqs e.1 y with|true=>C e.2|false=>eh y r);generalize af:eqs e.1 y=aF;induction aF using bV with
   |true=>have:=gr.mp af;exact G (if_neg (λq=>oX.mp h (this.trans q))) rfl
   |false=>exact OS x y v r
variable{j:Nat}
namespace dD
theorem beq_eq(a b:Nat):cw a b=decide (a=b):=by
 generalize h:cw a b=aF;induction aF using bV with
 |true=>refine G (d0 h) ?_;simp
 |false=>have:=Eb h;simp[this]
set_option smartUnfolding false in
theorem get_node(v:Option aQ)(l r:dD aQ)(i:Nat):(node v l r).get i=if i=0 then v else if i%2=1 then l.get (i/2) else r.get (i/2-1):=by
 show(match cw i 0 with|true=>v|false=>match cw (i%2) 1 with|true=>l.get (i/2)|false=>r.get (i/2-1))=_;(refine G (beq_eq _ _) (G (beq_eq _ _) ?_));by_cases h:i=0
 .simp[h]
 .by_cases q:i%2=1<;>simp[h,q]
theorem get_nil(i:Nat):(nil:dD aQ).get i=none:=rfl
theorem O5{i:Nat}(a:j%2=i%2)(q:j/2=i/2):j=i:=G (bW (Lq j 2)) (G (bW (Lq i 2)) (G a (G q rfl)))
theorem He{i:Nat}(bN:i≠0)(a:¬i%2=1):0<i/2:=Nat.div_pos (Ay (Nat.pos_of_ne_zero bN) λe=>a (e▸rfl)) (aS rfl)
theorem YO{i:Nat}(bN:i≠0)(cE:j≠0)(a:¬i%2=1)(b:¬j%2=1)(q:j/2-1=i/2-1):j=i:=
 O5 (((TF j).resolve_right b).trans ((TF i).resolve_right a).symm) (Nat.sub_one_cancel (He cE b) (He bN a) q)
theorem YP{i:Nat}(h:i+1<2*n)(a:i%2=1):i/2+1<n:=
 have e:2*(i/2)+1=i:=a▸Lq i 2
 Nat.lt_of_mul_lt_mul_left (a:=2) (show 2*(i/2)+1+1<2*n from e.symm▸h)
theorem YQ{i:Nat}(h:i+1<2*n)(bN:i≠0)(a:¬i%2=1):i/2-1+1<n:=
 (Nat.sub_add_cancel (He bN a)).symm▸Nat.div_lt_of_lt_mul (Nat.lt_of_succ_lt h)
set_option smartUnfolding false in
theorem Hv:∀(d:Nat)(t:dD aQ)(i:Nat)(x:aQ)(j:Nat),i+1<2^d->(put d t i x).get j=if j=i then C x else t.get j
 |0,t,i,x,j,h=>absurd h (Ek (xj 1 i))
 |d+1,t,i,x,j,h=>by
  have h:i+1<2*2^d:=by rw[Nat.pow_succ,Nat.mul_comm] at h;exact h
  have key:∀(v:Option aQ)(l r:dD aQ),(match cw i 0 with
    |true=>node (C x) l r
    |false=>match cw (i%2) 1 with
     |true=>node v (put d l (i/2) x) r
     |false=>node v l (put d r (i/2-1) x)).get j=if j=i then C x else(node v l r).get j:=by
   intro v l r;(refine G (beq_eq _ _) (G (beq_eq _ _) ?_));by_cases bN:i=0
   .simp only[bN,decide_true,get_node];by_cases cE:j=0<;>simp[cE]
   .simp only[bN,decide_false];by_cases bx:i%2=1
    .simp only[bx,decide_true,get_node];refine G (Hv d l (i/2) x (j/2) (YP h bx)) ?_;by_cases cE:j=0
     .subst cE;rw[if_pos rfl,if_neg (j1 bN),if_pos rfl]
     .simp only[cE,if_false];by_cases qm:j%2=1
      .simp only[qm,if_true];by_cases e:j=i
       ·(clear bx bN h;subst e);simp
       ·(exact G (if_neg e) (G (if_neg (λq=>e (O5 (qm.trans bx.symm) q))) rfl))
      .simp only[qm,if_false];(refine G (if_neg (λq:j=i=>qm (G q bx))) ?_;with_reducible rfl)
    .simp only[bx,decide_false,get_node];refine G (Hv d r (i/2-1) x (j/2-1) (YQ h bN bx)) ?_;by_cases cE:j=0
     .subst cE;rw[if_pos rfl,if_neg (j1 bN),if_pos rfl]
     .simp only[cE,if_false];by_cases qm:j%2=1
      .simp only[qm,if_true];(refine G (if_neg (λq:j=i=>bx (G (bW q) qm))) ?_;with_reducible rfl)
      .simp only[qm,if_false];by_cases e:j=i
       ·(clear bx bN h;subst e);simp
       ·(exact G (if_neg e) (G (if_neg (λq=>e (YO bN cE bx qm q))) rfl))
  cases t with
  |nil=>obtain k:=key none nil nil;rw[show(node none nil nil:dD aQ).get j=(nil:dD aQ).get j from by rw[get_node];simp[get_nil]] at k;exact k
  |node v l r=>exact key v l r
theorem k8(d:Nat)(t:dD aQ)(i:Nat)(x:aQ)(j:Nat)(h:i<2^d-1):(put d t i x).get j=if j=i then C x else t.get j:=Hv d t i x j (Nat.add_lt_of_lt_sub h)
end dD
structure Facts(S:Nat)(ar:List b6)(aC:List bB)(ns:Nat)(β:aZ):Prop where
 aE:bL (λ(b:b6)(z:Int)=>b.1<=z/\z<=b.2.1/\∀j,b.2.2=C j->z<=((S+j:Nat):Int)) ar β.aE
 aj:bL (λ(l:bB) c=>c∈l) aC β.aj
 cd:β.aj.Nodup
 dd:β.cn.length=ns
 cn:∀l∈β.cn,l.length<=1000
theorem QF(a b:Int):ltI a b=decide (a<b):=rfl
theorem yn(a b:Int):kB a b=decide (a=b):=rfl
variable{aC:List bB}{ns:Nat}
section
variable{ar:List b6}
namespace bo
theorem lo_le(F:Facts S ar aC ns β){e:bo}{x:Int}(h:e.lo ar=C x)(q:e.val β=C z):x<=z:=by
 induction e using MI.bo.casesOn with
 |lit c=>(obtain J:=aT h;clear h;subst J);(obtain J:=aT q;clear q;subst J);exact xp _
 |aL c neg v=>
  simp only[lo] at h;generalize aD:ar[v]? =aF;induction aF using b1 with
  |none=>rw[aD] at h;exact bK h
  |some b=>
   refine jQ (F.aE.get aD) λy bT aa af I=>?_;rw[aD] at h;simp only[val,bT] at q;induction neg using bV with
   |false=>(obtain J:=aT h;clear h;subst J);(obtain J:=aT q;clear q;subst J);show c+b.1<=c+y;lia
   |true=>(obtain J:=aT h;clear h;subst J);(obtain J:=aT q;clear q;subst J);show c-b.2.1<=c-y;lia
theorem v5(F:Facts S ar aC ns β){e:bo}{x:Int}(h:e.bN ar=C x)(q:e.val β=C z):z<=x:=by
 induction e using MI.bo.casesOn with
 |lit c=>(obtain J:=aT h;clear h;subst J);(obtain J:=aT q;clear q;subst J);exact xp _
 |aL c neg v=>
  simp only[bN] at h;generalize aD:ar[v]? =aF;induction aF using b1 with
  |none=>rw[aD] at h;exact bK h
  |some b=>
   refine jQ (F.aE.get aD) λy bT aa af I=>?_;rw[aD] at h;simp only[val,bT] at q;induction neg using bV with
   |false=>(obtain J:=aT h;clear h;subst J);(obtain J:=aT q;clear q;subst J);show c+y<=c+b.2.1;lia
   |true=>(obtain J:=aT h;clear h;subst J);(obtain J:=aT q;clear q;subst J);show c-y<=c-b.1;lia
theorem Bf{a b e:bo}{x y:Int}(h:add a b=C e)(aV:a.val β=C x)(aD:b.val β=C y):e.val β=C (x+y):=by
 induction a using MI.bo.casesOn with
 |lit c=>
  (obtain J:=aT aV;clear aV;subst J);induction b using MI.bo.casesOn with
  |lit d=>(obtain J:=aT aD;clear aD;subst J);(obtain J:=aT h;clear h;subst J);rfl
  |aL d n v=>
   (obtain J:=aT h;clear h;subst J);simp only[val] at aD ⊢;generalize bJ:β.aE[v]? =aF;induction aF using b1 with
   |none=>rw[bJ] at aD;exact bK aD
   |some z=>rw[bJ] at aD;(obtain J:=aT aD;clear aD;subst J);cases n<;>(simp;lia)
 |aL c n v=>
  induction b using MI.bo.casesOn with
  |lit d=>
   (obtain J:=aT aD;clear aD;subst J);(obtain J:=aT h;clear h;subst J);simp only[val] at aV ⊢;generalize bJ:β.aE[v]? =aF;induction aF using b1 with
   |none=>rw[bJ] at aV;exact bK aV
   |some z=>rw[bJ] at aV;(obtain J:=aT aV;clear aV;subst J);cases n<;>(simp;lia)
  |aL d m u=>exact bK h
theorem DM{a b:bo}{x y:Int}(h:same a b=ae)(aV:a.val β=C x)(aD:b.val β=C y):x-a.const=y-b.const:=by
 induction a using MI.bo.casesOn with
 |lit c=>
  induction b using MI.bo.casesOn with
  |lit d=>(obtain J:=aT aV;clear aV;subst J);(obtain J:=aT aD;clear aD;subst J);simp[const]
  |aL d m u=>exact c8 h
 |aL c n v=>
  induction b using MI.bo.casesOn with
  |lit d=>exact c8 h
  |aL d m u=>
   obtain this:x5 n m=ae/\v=u:=by
    simp only[same] at h;generalize q:x5 n m=aF;induction aF using bV with
    |true=>rw[q] at h;exact⟨rfl,d0 h⟩
    |false=>rw[q] at h;exact c8 h
   (refine a3 this λaa J=>?_;try clear this;subst J);obtain this:n=m:=by cases n<;>cases m<;>first|rfl|exact c8 aa
   subst this;simp only[val] at aV aD;generalize bJ:β.aE[v]? =aF;induction aF using b1 with
   |none=>rw[bJ] at aV;exact bK aV
   |some z=>rw[bJ] at aV aD;(obtain J:=aT aV;clear aV;subst J);(obtain J:=aT aD;clear aD;subst J);cases n<;>simp[const]<;>lia
theorem J9{a b e:bo}{x y:Int}(h:sub a b=C e)(aV:a.val β=C x)(aD:b.val β=C y):e.val β=C (x-y):=by
 induction a using MI.bo.casesOn with
 |lit c=>
  (obtain J:=aT aV;clear aV;subst J);induction b using MI.bo.casesOn with
  |lit d=>(obtain J:=aT aD;clear aD;subst J);(obtain J:=aT h;clear h;subst J);rfl
  |aL d n v=>
   (obtain J:=aT h;clear h;subst J);simp only[val] at aD ⊢;generalize bJ:β.aE[v]? =aF;induction aF using b1 with
   |none=>rw[bJ] at aD;exact bK aD
   |some z=>rw[bJ] at aD;(obtain J:=aT aD;clear aD;subst J);cases n<;>(simp;lia)
 |aL c n v=>
  induction b using MI.bo.casesOn with
  |lit d=>
   (obtain J:=aT aD;clear aD;subst J);(obtain J:=aT h;clear h;subst J);simp only[val] at aV ⊢;generalize bJ:β.aE[v]? =aF;induction aF using b1 with
   |none=>rw[bJ] at aV;exact bK aV
   |some z=>rw[bJ] at aV;(obtain J:=aT aV;clear aV;subst J);cases n<;>(simp;lia)
  |aL d m u=>
   simp only[sub] at h;generalize q:same (.aL c n v) (.aL d m u)=aF;induction aF using bV with
   |false=>rw[q] at h;exact bK h
   |true=>rw[q] at h;(obtain J:=aT h;clear h;subst J);obtain this:=DM q aV aD;simp only[const] at this;simp only[val,Ef];lia
theorem Je(F:Facts S ar aC ns β){a b:bo}{r:Bool}{x y:Int}(h:lt ar a b=C r)(aV:a.val β=C x)(aD:b.val β=C y):r=decide (x<y):=by
 unfold lt at h;generalize q:same a b=aF;induction aF using bV with
 |true=>rw[q] at h;obtain this:=DM q aV aD;exact(c0 h).symm.trans (decide_eq_decide.mpr (afB this))
 |false=>
  rw[q] at h;exact cu h λu cy h=>cu h λv bJ h=>by
   obtain aa:=v5 F cy aV;obtain af:=lo_le F bJ aD;generalize q:ltI u v=aF;induction aF using bV with
   |true=>rw[q] at h;exact(c0 h).symm.trans (decide_eq_true (K7 aa (K8 (aS q) af))).symm
   |false=>
    rw[q] at h;exact cu h λmL qr h=>cu h λgA lg h=>by
     obtain aJ:=lo_le F qr aV;obtain bl:=v5 F lg aD;generalize q:ltI mL gA=aF;induction aF using bV with
     |true=>rw[q] at h;exact bK h
     |false=>rw[q] at h;exact(c0 h).symm.trans (decide_eq_false λz=>of_decide_eq_false q (K7 aJ (K8 z bl))).symm
theorem FG{x:Option Bool}(h:x.any id=ae):x=C true:=cF h λa e q=>e.trans (congrArg C q)
theorem k4(F:Facts S ar aC ns β){a b:bo}{r:Bool}{x y:Int}(h:eq ar a b=C r)(aV:a.val β=C x)(aD:b.val β=C y):r=decide (x=y):=by
 unfold eq at h;generalize q:same a b=aF;induction aF using bV with
 |true=>rw[q] at h;obtain this:=DM q aV aD;exact(c0 h).symm.trans (decide_eq_decide.mpr (afA this))
 |false=>
  rw[q] at h;generalize dT:(lt ar a b).any id=aF;induction aF using bV with
  |true=>rw[dT] at h;exact(c0 h).symm.trans (decide_eq_false (Int.ne_of_lt (aS (Je F (FG dT) aV aD).symm))).symm
  |false=>
   rw[dT] at h;generalize cG:(lt ar b a).any id=aF;induction aF using bV with
   |true=>rw[cG] at h;exact(c0 h).symm.trans (decide_eq_false (Int.ne_of_gt (aS (Je F (FG cG) aD aV).symm))).symm
   |false=>
    rw[cG] at h;refine cu h λu cy h=>cu h λmL qr h=>cu h λv bJ h=>cu h λgA lg h=>?_;generalize q:(kB u mL&&kB v gA&&kB u v)=aF;induction aF using bV with
    |true=>rw[q] at h;obtain aa:=lo_le F cy aV;obtain af:=v5 F qr aV;obtain aJ:=lo_le F bJ aD;obtain bl:=v5 F lg aD;obtain a9:u=mL:=aS (bS (bS q));obtain bf:v=gA:=aS (bC (bS q));have cC:u=v:=aS (bC q);exact(c0 h).symm.trans (decide_eq_true (Int.le_antisymm (gk af (gk (uH (a9.symm.trans cC)) aJ)) (gk bl (gk (uH (bf.symm.trans cC.symm)) aa)))).symm
    |false=>rw[q] at h;exact bK h
end bo
theorem wb{c:Nat}{l:List Nat}:nu c l=ae↔c∈l:=Ei.trans ⟨λgd=>(by(refine aU gd λI h e=>?_;try clear gd);exact d0 e▸h),λh=>(bh c h (LB c))⟩
theorem abx{c:Nat}{l:List Nat}:nu c l=decide (c∈l):=by(refine gN xi ?_;rewrite[wb,decide_eq_true_iff];with_reducible rfl)
theorem JE{p l:List Nat}:wH p l=ae↔p<+:l:=List.isPrefixOf_iff_prefix
theorem So{p:List Nat}:∀{l:List Nat},wQ p l=ae↔p<:+:l
 |[]=>by show wH p []=ae↔_;rw[JE];simp
 |b::l=>by
  show(match wH p (b::l) with|true=>ae|false=>wQ p l)=ae↔_;rw[List.infix_cons_iff];generalize h:(wH p (b::l))=aF;induction aF using bV with
  |true=>simp[JE.mp h]
  |false=>
   obtain this:¬p<+:b::l:=λq=>by rw[JE.mpr q] at h;exact jB h
   simp[this,So (l:=l)]
theorem NM(z:Int):eR z≠ []:=by
 intro h;have aa:(toString z).toList.map LO=[]:=by exact G (bW (LN _)) h
 rw[T5,Int.toString_eq_repr,Int.repr_eq_if] at aa;split at aa
 .rw[Nat.toList_repr] at aa;obtain this:=Nat.length_toDigits_pos (b:=10) (n:=z.toNat);rw[aa] at this;simp at this
 .rw[String.toList_append] at aa;simp at aa
theorem GI(z:Int):∀c∈eR z,tu c=true:=by
 intro c bb;unfold eR cs at bb;rw[LN] at bb;(refine aU (kY.mp bb) λch cR J=>?_;subst J);unfold tu;rcases int_sign z ch cR with h|h
 .have:=digit_range h;simp[Nat.ble_eq,this]
 ·(clear bb cR;subst h);exact rfl
namespace ag
theorem Ja{p:c1}{l:bB}(h:o_ p=C l):p=.lit l:=by
 induction p using MI.c1.casesOn with
 |lit m=>exact congrArg _ (c0 h)
 |_=>exact bK h
theorem Wc{p:c1}{e:ag}{l:bB}(h:val β (p::e)=C l):val β (cons p e)=C l:=by
 induction e using eo with
 |nil=>exact h
 |cons q r=>
  show val β (match(o_ p).bind λl=>(o_ q).map λm=>l++m with|some x=>.lit x::r|none=>p::q::r)=_;generalize w:((o_ p).bind λl=>(o_ q).map λm=>l++m)=aF;induction aF using b1 with
  |none=>exact h
  |some x=>
   exact cu w λa_ a9 w=>by refine aU (pM.mp w) λjP bf w=>?_;rw[Ja a9,Ja bf] at h;(refine fD (eP.mp h) λa b aV aD J=>?_;subst J);(refine fD (eP.mp aD) λc d bb hd J=>?_;subst J);(obtain J:=aT aV;clear aV;subst J);(obtain J:=aT bb;clear bb;(clear h aD;subst J));subst w;exact eP.mpr (d2 _ d rfl hd (G (nR _ _ _) rfl))
theorem Gi:∀{a b:ag}{x y:bB},val β a=C x->val β b=C y->val β (cat a b)=C (x++y)
 |[],b,x,y,h,q=>by(obtain J:=aT h;clear h;subst J);exact q
 |[p],b,x,y,h,q=>by(refine fD (eP.mp h) λu v cy bJ J=>?_;subst J);(obtain J:=aT bJ;clear bJ;(clear h;subst J));exact G (lM _) (Wc (eP.mpr (d2 u y cy q rfl)))
 |p::dJ::r,b,x,y,h,q=>by(refine fD (eP.mp h) λu v cy bJ J=>?_;(clear h;subst J));exact eP.mpr (d2 u (v++y) cy (Gi bJ q) (nR ..))
inductive UP(β:aZ)(l:bB)(p:c1)(r:ag):Prop
 |mk (aO:∀m,p≠.lit m) (a b:bB) (aa:p.val β=some a) (af:val β r=some b) (e:l=a++b)
noncomputable def E5(β:aZ)(l:bB):sU->Prop
 |.done=>l=[]
 |.one c r=>∃m,val β r=C m/\l=c::m
 |.nA p r=>UP β l p r
theorem B_:∀{e:ag}{l:bB},val β e=C l->E5 β l (head e)
 |[],_,h=>by(obtain J:=aT h;clear h;subst J);exact rfl
 |.lit []::r,l,h=>by(refine fD (eP.mp h) λu v cy bJ J=>?_;subst J);(obtain J:=aT cy;clear cy;(clear h;subst J));exact B_ (e:=r) bJ
 |.lit (c::m)::r,l,h=>by(refine fD (eP.mp h) λu v cy bJ J=>?_;subst J);(obtain J:=aT cy;clear cy;(clear h;subst J));exact⟨m++v,eP.mpr (d2 m v rfl bJ rfl),rfl⟩
 |.dec e::r,l,h=>by(refine fD (eP.mp h) λu v cy bJ J=>?_;(clear h;subst J));exact⟨λI q=>(by(injection q)),u,v,cy,bJ,rfl⟩
 |.chr e::r,l,h=>by(refine fD (eP.mp h) λu v cy bJ J=>?_;(clear h;subst J));exact⟨λI q=>(by(injection q)),u,v,cy,bJ,rfl⟩
 |.any e::r,l,h=>by(refine fD (eP.mp h) λu v cy bJ J=>?_;(clear h;subst J));exact⟨λI q=>(by(injection q)),u,v,cy,bJ,rfl⟩
theorem vm{e:bo}{a:bB}(h:(c1.dec e).val β=C a):∃z,e.val β=C z/\a=eR z:=by(refine aU (pM.mp (show(e.val β).map eR=C a from h)) λz a8 J=>?_;(clear h;subst J));exact(bh z a8 rfl)
theorem b9{a:bB}(h:(c1.chr k).val β=C a):∃c,β.aj[k]? =C c/\a=[c]:=by(refine aU (pM.mp (show(β.aj[k]?).map (λc=>[c])=C a from h)) λz a8 J=>?_;(clear h;subst J));exact(bh z a8 rfl)
set_option tactic.hygienic true in
theorem Nn(F:Facts S ar aC ns β){c d:Nat}(h:td aC k c=C ai)(q:β.aj[k]? =C d):c≠d:=by
 unfold td clsAt at h;generalize aX:aC[k]? =z at h;induction z using b1 with
 |none=>exact bK h
 |some l=>dsimp only at h;refine aU (F.aj.get aX) λec lY hm=>?_;rw[q] at lY;(obtain J:=aT lY;clear lY;subst J);intro e;(clear q;subst e);obtain this:nu c l=true:=wb.mpr hm;rw[this] at h;(obtain J:=aT h;clear h;exact jB J)
theorem RI{p:c1}{a:bB}(aO:∀m,p≠.lit m)(b7:∀k,p≠.any k)(h:p.val β=C a):a≠ []:=by
 induction p using MI.c1.casesOn with
 |lit m=>exact absurd rfl (aO m)
 |dec e=>(refine aU (vm h) λz I J=>?_;(clear h;subst J));exact NM z
 |chr k=>(refine aU (b9 h) λc I J=>?_;(clear h;subst J));simp
 |any k=>exact absurd rfl (b7 k)
theorem CG{x:Option Bool}(h:ke x=ae):x=C false:=by
 induction x using b1 with
 |none=>exact c8 h
 |some b=>exact congrArg C (jl _▸h)
theorem B9{a b:Nat}{l m:bB}(h:a≠b):a::l≠b::m:=λe=>h (qU e).1
theorem Ta(F:Facts S ar aC ns β){c:Nat}{x:Option Bool}{p:c1}{r:Bool}{a b m:bB}(h:Ah aC c x p=C r)(b7:p.val β=C a)(ak:x=C ai->m≠b):r=ai/\c::m≠a++b:=by
 induction p using MI.c1.casesOn with
 |lit m=>exact bK h
 |any k=>exact bK h
 |dec e=>
  refine aU (vm b7) λz I e=>?_;unfold Ah at h;dsimp only at h;generalize q:tu c=aF;induction aF using bV with
  |true=>rw[q] at h;exact bK h
  |false=>
   rw[q] at h;refine⟨(c0 h).symm,?_⟩;refine G e ?_;generalize hd:eR z=aF;induction aF using eo with
   |nil=>exact absurd hd (NM z)
   |cons x l=>refine B9 λe=>?_;obtain this:=GI z x (G hd (xa ..));rw[<-e,q] at this;exact c8 this
 |chr k=>
  refine aU (b9 b7) λd hd e=>G e ?_;unfold Ah at h;dsimp only at h;generalize q:ke (td aC k c)=aF;induction aF using bV with
  |true=>rw[q] at h;exact⟨(c0 h).symm,B9 (Nn F (CG q) hd)⟩
  |false=>
   rw[q] at h;dsimp only at h;generalize cG:ke x=aF;induction aF using bV with
   |true=>rw[cG] at h;exact⟨(c0 h).symm,λe=>ak (CG cG) (qU e).2⟩
   |false=>rw[cG] at h;exact bK h
theorem Oa{p:c1}{r:Bool}{a:bB}(h:G8 p=C r)(aO:∀m,p≠.lit m)(b7:p.val β=C a):r=ai/\a≠ []:=by
 induction p using MI.c1.casesOn with
 |any k=>exact bK h
 |lit m=>exact absurd rfl (aO m)
 |dec e=>exact⟨(c0 h).symm,RI aO (λI q=>c1.noConfusion q) b7⟩
 |chr k=>exact⟨(c0 h).symm,RI aO (λI q=>c1.noConfusion q) b7⟩
theorem WN{p:c1}{e:bo}(h:NO p=C e):p=.dec e:=by
 induction p using MI.c1.casesOn with
 |dec x=>exact congrArg _ (c0 h)
 |_=>exact bK h
theorem V2{p:c1}{e:Nat}(h:Nk p=C e):p=.chr e:=by
 induction p using MI.c1.casesOn with
 |chr x=>exact congrArg _ (c0 h)
 |_=>exact bK h
theorem Vf{p:c1}{e:Nat}(h:MD p=C e):p=.any e:=by
 induction p using MI.c1.casesOn with
 |any x=>exact congrArg _ (c0 h)
 |_=>exact bK h
theorem Wk(F:Facts S ar aC ns β){c:Nat}(aw:β.aj[k]? =C c)(cE:β.aj[j]? =C c):k=j:=by refine bG (j2.mp aw) λaa a9=>?_;refine bG (j2.mp cE) λaf bf=>?_;exact(List.getElem_inj F.cd).mp (a9.trans bf.symm)
theorem Xk{a b:bo}{x y:Int}(h:BK a b=ae)(aV:a.val β=C x)(aD:b.val β=C y):x=y:=by
 unfold BK at h;split at h
 .rename_i q;obtain this:=bo.DM q aV aD;rw[yn,decide_eq_true_iff] at h;lia
 .exact c8 h
theorem Gd{x:Option aQ}{f:aQ->Option fb}{b:fb}(h:x.bind f=C b):∃a,x=C a/\f a=C b:=by
 induction x using b1 with
 |none=>exact bK h
 |some a=>exact(bh a rfl h)
theorem agk(F:Facts S ar aC ns β){x:Option Bool}{p q:c1}{r:Bool}{u v mL gA:bB}(h:Tb aC x p q=C r)(cy:p.val β=C u)(qr:q.val β=C mL)(ak:∀r,x=C r->r=decide (v=gA)):r=decide (u++v=mL++gA):=by
 have same:u=mL->x=C r->r=decide (u++v=mL++gA):=λa9 bf=>(ak r bf).trans (decide_eq_decide.mpr (a9▸(List.append_cancel_left_eq u v gA▸Iff.rfl)));induction p using MI.c1.casesOn with
 |lit m=>exact bK h
 |dec e=>
  refine aU (Gd h) λcf dT af=>?_;cases WN dT;refine aU (vm cy) λz a8 a9=>aU (vm qr) λgU g5 bf=>?_;generalize cG:BK e cf=aF;induction aF using bV with
  |true=>rw[cG] at af;exact same (G a9 (G bf (G (Xk cG a8 g5) rfl))) af
  |false=>rw[cG] at af;exact bK af
 |chr k=>
  refine aU (Gd h) λj dT af=>?_;cases V2 dT;refine aU (b9 cy) λc bb a9=>aU (b9 qr) λd hd bf=>?_;generalize cG:cw k j=aF;induction aF using bV with
  |true=>rw[cG] at af;cases d0 cG;cases bb.symm.trans hd;exact same (a9.trans bf.symm) af
  |false=>
   rw[cG] at af;dsimp only at af;generalize fQ:((eK k aC.length&&eK j aC.length))=aF;induction aF using bV with
   |false=>rw[fQ] at af;exact bK af
   |true=>rw[fQ] at af;(refine G (bW (c0 af)) (G a9 (G bf ?_)));refine(decide_eq_false (B9 λe=>?_)).symm;exact Eb cG (Wk F bb (e▸hd))
 |any k=>
  refine aU (Gd h) λj dT af=>?_;cases Vf dT;generalize cG:cw k j=aF;induction aF using bV with
  |true=>rw[cG] at af;cases d0 cG;exact same (c0 (cy.symm.trans qr)) af
  |false=>rw[cG] at af;exact bK af
theorem Xj(F:Facts S ar aC ns β){E:ag->ag->Option Bool}(bj:∀{a b:ag}{r:Bool}{x y:bB},E a b=C r->val β a=C x->val β b=C y->r=decide (x=y)){A B:sU}{r:Bool}{x y:bB}(h:Od aC E A B=C r)(rk:E5 β x A)(m1:E5 β y B):r=decide (x=y):=by
 have no:∀{x y:bB},r=ai->x≠y->r=decide (x=y):=λe n=>e.trans (decide_eq_false n).symm;have half:∀{a b:ag}{x y:bB},val β a=C x->val β b=C y->E a b=C ai->x≠y:=λaV aD e=>of_decide_eq_false (bj e aV aD).symm;cases A with
 |done=>
  have rk:x=[]:=rk;cases B with
  |done=>(refine G rk (G (show y=[] from m1) ?_));exact(c0 h).symm
  |one c s=>(refine aU m1 λm I e=>?_;try clear m1);exact no (c0 h).symm (by(refine G rk (G e ?_));exact(Lj _ _).symm)
  |nA p s=>obtain(⟨aO,u,v,cy,bJ,e⟩):=m1;exact a3 (Oa h aO cy) λa9 bf=>no a9 (by(refine G rk (G e ?_));exact λq=>bf (TQ.mp q.symm).1)
 |one c s=>
  (refine aU rk λm hm ex=>?_;try clear rk);cases B with
  |done=>exact no (c0 h).symm (by(refine G ex (G (show y=[] from m1) ?_));exact Lj _ _)
  |one d ao=>
   (refine aU m1 λjP o1 yp=>?_;try clear m1);(refine G ex (G yp ?_));have af:(match cw c d with|true=>E s ao|false=>C ai)=C r:=h;generalize q:cw c d=aF;induction aF using bV with
   |true=>rw[q] at af;cases d0 q;exact(bj af hm o1).trans (decide_eq_decide.mpr ⟨congrArg _,λe=>(qU e).2⟩)
   |false=>rw[q] at af;exact no (c0 af).symm (B9 (Eb q))
  |nA p ao=>obtain(⟨aO,u,v,cy,bJ,e⟩):=m1;exact a3 (Ta F h cy (half hm bJ)) λa9 bf=>no a9 (by(refine G ex (G e ?_));exact bf)
 |nA p s=>
  obtain(⟨aO,u,v,cy,bJ,ex⟩):=rk;cases B with
  |done=>exact a3 (Oa h aO cy) λa9 bf=>no a9 (by(refine G ex (G (show y=[] from m1) ?_));exact λq=>bf (TQ.mp q).1)
  |one c ao=>(refine aU m1 λm hm yp=>?_;try clear m1);exact a3 (Ta F h cy λe q=>half bJ hm e q.symm) λa9 bf=>no a9 (by(refine G ex (G yp ?_));exact λq=>bf q.symm)
  |nA q ao=>obtain(⟨tM,mL,gA,qr,lg,yp⟩):=m1;(refine G ex (G yp ?_));exact agk F h cy qr λr e=>bj e bJ lg
theorem k4(F:Facts S ar aC ns β):∀{n:Nat}{a b:ag}{r:Bool}{x y:bB},eq ar aC n a b=C r->val β a=C x->val β b=C y->r=decide (x=y):=by
 intro n;induction n with
 |zero=>exact λh=>nomatch h
 |succ n bj=>exact λh aV aD=>Xj F bj h (B_ aV) (B_ aD)
theorem Iy{x:Option Bool}(h:ke x=ae):x=C false:=by
 induction x using b1 with
 |none=>exact c8 h
 |some b=>induction b using bV with
  |true=>exact c8 h
  |false=>rfl
theorem acC(F:Facts S ar aC ns β){c:Nat}:∀{e:ag}{r:Bool}{l:bB},occurs aC c e=C r->val β e=C l->r=decide (c∈l):=by
 intro e;induction e with
 |nil=>intro r l h q;(obtain J:=aT h;clear h;subst J);(obtain J:=aT q;clear q;subst J);rfl
 |cons p s bj=>
  intro r l h q;(refine fD (eP.mp q) λu v cy bJ J=>?_;subst J);replace h:(match ke (occurs aC c s) with|true=>Ro aC c p|false=>occurs aC c s)=C r:=h;generalize q:ke (occurs aC c s)=aF;induction aF using bV with
  |true=>
   rw[q] at h;have Cz:c∉v:=of_decide_eq_false (bj (Iy q) bJ).symm;have no:c∉u->ai=decide (c∈u++v):=λn=>(decide_eq_false λm=>(me.mp m).elim n Cz).symm;induction p using MI.c1.casesOn with
   |lit m=>(obtain J:=aT h;clear h;subst J);(obtain J:=aT cy;clear cy;(clear q no;subst J));exact G abx (decide_eq_decide.mpr (by simp[Cz]))
   |dec e=>
    (refine aU (vm cy) λz I J=>?_;(clear q cy;subst J));replace h:(match tu c with|true=>none|false=>C ai)=C r:=h;generalize q:tu c=aF;induction aF using bV with
    |true=>rw[q] at h;exact bK h
    |false=>rw[q] at h;(obtain J:=aT h;clear h;subst J);exact no λhm=>by rw[GI z c hm] at q;exact jB q
   |chr k=>
    (refine aU (b9 cy) λd hd J=>?_;(clear q cy;subst J));replace h:(match ke (td aC k c) with|true=>C ai|false=>none)=C r:=h;generalize q:ke (td aC k c)=aF;induction aF using bV with
    |true=>rw[q] at h;(obtain J:=aT h;clear h;subst J);exact no (by simp[Nn F (Iy q) hd])
    |false=>rw[q] at h;exact bK h
   |any k=>exact bK h
  |false=>
   rw[q] at h;replace h:occurs aC c s=C r:=h;induction r using bV with
   |false=>rw[h] at q;exact jB q
   |true=>exact(decide_eq_true (sL _ (aS (bj h bJ).symm))).symm
theorem abj{l:bB}:∀{e:ag}{m:bB},CU l e=ae->val β e=C m->l<:+:m:=by
 intro e;induction e with
 |nil=>exact λh=>nomatch h
 |cons p s bj=>
  intro m h q;(refine fD (eP.mp q) λu v cy bJ J=>?_;subst J);replace h:(match(o_ p).any (wQ l) with|true=>ae|false=>CU l s)=true:=h;generalize q:(o_ p).any (wQ l)=aF;induction aF using bV with
  |true=>
   exact cF q λk e cG=>by rw[Ja e] at cy;(obtain J:=aT cy;clear cy;(clear q;subst J));exact(So.mp cG).trans (lK _ v).isInfix
  |false=>rw[q] at h;exact(bj h bJ).trans (List.suffix_append u v).isInfix
theorem MC(F:Facts S ar aC ns β){e:ag}{m:bB}(q:val β e=C m):∀{l:bB},x1 aC e l=ae->∃c∈l,c∉m
 |[],h=>by exact c8 h
 |c::l,h=>by
  rw[Ve] at h;generalize x:ke (occurs aC c e)=aF;induction aF using bV with
  |true=>exact(bh c (xa ..) (of_decide_eq_false (acC F (Iy x) q).symm))
  |false=>rw[x] at h;exact aU (MC F q h) λd hd hm=>(bh d (mR _ hd) hm)
theorem YU(F:Facts S ar aC ns β){l:bB}{e:ag}{r:Bool}{m:bB}(h:has aC l e=C r)(q:val β e=C m):r=ae↔l<:+:m:=by
 unfold has at h;split at h
 .rename_i x;(obtain J:=aT h;clear h;subst J);exact⟨λ_=>abj x q,λ_=>rfl⟩
 .split at h
  .rename_i x;(obtain J:=aT h;clear h;subst J);exact aU (MC F q x) λc bb hm=>⟨λe=>(c8 e),λi=>absurd (i.subset bb) hm⟩
  .exact bK h
theorem X0{e f:ag}{l:bB}(h:first e=C f)(q:val β e=C l):∃c r,l=c::r/\val β f=C [c]:=by
 have H:=B_ q;unfold first at h
 generalize hr:head e=aF;cases aF with
 |one c r=>rw[hr] at H h;(refine aU H λm I J=>?_;try clear H;(clear q;subst J));(obtain J:=aT h;clear h;subst J);exact(gi c m rfl (eP.mpr (d2 [c] [] rfl rfl rfl)))
 |nA p r=>
  rw[hr] at H h;clear hr;induction p using MI.c1.casesOn with
  |chr k=>obtain(⟨_,a,b,aV,aD,rfl⟩):=H;(refine aU (b9 aV) λc bb J=>?_;(clear q;subst J));(obtain J:=aT h;clear h;subst J);exact(gi c b rfl (eP.mpr (d2 [c] [] aV rfl rfl)))
  |_=>exact bK h
 |_=>rw[hr] at h;exact bK h
theorem v8{e:ag}{l:bB}(h:kf e=C l):val β e=C l:=by
 induction e using eo with
 |nil=>(obtain J:=aT h;clear h;subst J);rfl
 |cons p r=>
  induction p using MI.c1.casesOn with
  |lit l=>
   induction r using eo with
   |nil=>(obtain J:=aT h;clear h;subst J);exact eP.mpr (d2 _ [] rfl rfl (by simp))
   |cons _ _=>exact bK h
  |_=>exact bK h
end ag
theorem OE(F:Facts S ar aC ns β){k:ag}{l:bB}(aw:k.val β=C l):∀{au:List (ag×V)}{i j:Nat}{v:V},(∀e∈au,∃m,e.1.val β=C m)->tv ar aC k i au=.at j v->
  i<=j/\∃e,au[j-i]? =C e/\e.2=v/\e.1.val β=C l
 |[],_,_,_,_,h=>by injection h
 |e::r,i,j,v,bJ,h=>by
  rw[OF] at h;refine bG (bJ e (xa ..)) λm hm=>?_;split at h
  .rename_i q;cases h;have:=ag.k4 F q hm aw;obtain a9:m=l:=aS this.symm;(clear aw;subst a9);exact⟨dP _,e,by simp,rfl,hm⟩
  .obtain(⟨aa,cf,af,aJ,bl⟩):=OE F aw (λe he=>bJ e (mR _ he)) h;refine⟨by exact kq (by assumption),cf,?_,aJ,bl⟩;obtain this:j-i=(j-(i+1))+1:=by exact J8 aa
   exact G this af
  .injection h
theorem OG(F:Facts S ar aC ns β){k:ag}{l:bB}(aw:k.val β=C l):∀{au:List (ag×V)}{i:Nat},(∀e∈au,∃m,e.1.val β=C m)->tv ar aC k i au=.no->
  ∀e∈au,∀m,e.1.val β=C m->m≠l
 |[],_,_,_=>by intro e he;cases he
 |e::r,i,bJ,h=>by
  rw[OF] at h;refine bG (bJ e (xa ..)) λm hm=>?_;split at h
  .injection h
  .rename_i q;obtain this:=ag.k4 F q hm aw;obtain a9:m≠l:=of_decide_eq_false this.symm;intro cf yI jP o1;rcases dh.mp yI with rfl|yI
   .rw[hm] at o1;(obtain J:=aT o1;clear o1;subst J);exact a9
   .exact OG F aw (λe he=>bJ e (mR _ he)) h cf yI jP o1
  .injection h
theorem QL(F:Facts S ar aC ns β){k:ag}{l:bB}(aw:k.val β=C l):∀{au:List ag},(∀e∈au,∃m,e.val β=C m)->zw ar aC k au=ae->∃e∈au,e.val β=C l
 |[],_,h=>by exact c8 h
 |e::r,bJ,h=>by
  rw[abw] at h;refine bG (bJ e (xa ..)) λm hm=>?_;generalize q:(ag.eq ar aC 400 e k).any id=aF;induction aF using bV with
  |true=>exact(bh e (xa ..) (hm.trans (congrArg C (aS (ag.k4 F (bo.FG q) hm aw).symm))))
  |false=>rw[q] at h;exact aU (QL F aw (λe he=>bJ e (mR _ he)) h) λcf yI ay=>(bh cf (mR _ yI) ay)
end
structure cz where
 prog:q5
 w:World
 K:b5
 h₀:gj
 p:q5
 loose:List aM
 iS:aM->Option aB
 iR:aM->Option aB
 S:Nat
 dQ:aZ
 base:az->Option (List (aM×aB))
 raw:Nat->cj
 dU:aN
noncomputable abbrev cz.M(g:cz):Model:=c9 g.prog g.w
structure cz.Ok(g:cz):Prop where
 fl:g.K.In g.h₀
 top:sG g.p g.loose g.iS g.iR g.h₀
 S:g.S<=100000
 low:kv<g.h₀.objs.size
structure bc where
 P:az->Option cj
 cx:List (az×cj)
 fr:List hB
 L:az
 A:oC
noncomputable def ip(o:cj):Prop:=∀aK,o.data=.fields aK->aK.size<=3/\∃t,o.cls=.type t
noncomputable def m2(β:aZ)(f:aM×V)(e:hT):Prop:=(∃t,e.key=.str f.1 t)/\a7 β f.2 e.val
noncomputable def most:Nat:=4000
noncomputable def Rest(b:Option (List (aM×aB)))(β:aZ)(aA:List (aM×aB))(au:List (ag×V)):Prop:=
 ∀old,b=C old->(old.map (·.1)<+:aA.map (·.1))/\∀k,(∃e:ag×V,e∈au/\e.1.val β=C (cs k))\/a0 aA k=a0 old k
noncomputable def Bd(b:Option (List (aM×aB)))(β:aZ)(aA:List (aM×aB))(au:List (ag×V)):Option (List ag)->Prop
 |none=>∀k,a0 aA k≠none->∃e:ag×V,e∈au/\e.1.val β=C (cs k)
 |some abs=>(∀e:ag,e∈abs->∃l,e.val β=C l/\(a0 aA (aR l)=none\/∃f:ag×V,f∈au/\f.1.val β=C l))/\Rest b β aA au
inductive L4(β:aZ)(aA:List (aM×aB))(e:ag×V):Prop
 |mk (l:bB) (v:Value) (aa:e.1.val β=some l) (af:valueAt aA (aR l)=some v) (aJ:a7 β e.2 v)
noncomputable def kZ(β:aZ)(aA:List (aM×aB))(au:List (ag×V)):Prop:=∀e∈au,L4 β aA e
variable{aA:List (aM×aB)}{au:List (ag×V)}
theorem kZ.vals(h:kZ β aA au)(e:ag×V)(he:e∈au):∃m,e.1.val β=C m:=by obtain(⟨m,_,aa,_,_⟩):=h e he;exact⟨m,aa⟩
noncomputable def qL(S:Nat):Option (List ag)->Nat
 |none=>0
 |some _=>S
section
variable(prog:q5)(w:World)(b:Option (List (aM×aB)))(S:Nat)(a6:az->Option cj)(β:aZ)(a d:az)
inductive Uz(U:az)(dH:List (aM×V)):Prop
 |mk (ne:a≠d) (au:List DictEntry) (n:Nat) (aa:a6 a=some (instObj U d)) (af:a6 d=some (dictOf au n)) (aJ:bL (m2 β) dH au)
inductive UG(xs:List V):Prop
 |mk (e:a=d) (aH:Array Value) (n:Nat) (aa:a6 a=some (listOf aH n)) (af:bL (a7 β) xs aH.toList)
inductive UH(k:Nat)(xs:List V):Prop
 |mk (e:a=d) (aH:Array Value) (n:Nat) (pre post:List Value) (aa:a6 a=some (listOf aH n)) (af:aH.toList=pre++post) (aJ:β.aE[k]? =some (pre.length:Int)) (bl:bL (a7 β) xs post) (cQ:pre.length<=S+most)
inductive UX(xs:List V):Prop
 |mk (e:a=d) (aH:Array Value) (n:Nat) (aa:a6 a=some {cls:=.type "tuple",data:=.seq aH n}) (af:bL (a7 β) xs aH.toList)
inductive Uq(au:List (ag×V))(op:Option (List ag)):Prop
 |mk (e:a=d) (ne:a≠sysModules) (o:Obj) (aA:List (Str×Value)) (aa:a6 a=some o) (af:o.IsDictOf (strKind prog w) aA) (aJ:kZ β aA au) (bl:au.Pairwise (λe f=>e.1.val β≠f.1.val β)) (cQ:Bd b β aA au op) (eT:aA.length<=au.length+qL S op)
inductive Uy(n j:Nat):Prop
 |mk (e:a=d) (ne:a≠sysModules) (o:Obj) (aA:List (Str×Value)) (aa:a6 a=some o) (af:o.IsDictOf (strKind prog w) aA) (aJ:∀dn∈aA,∃z t,dn.2=.int z t/\0<=z/\z<=((S+j:Nat):Int)) (bl:aA.length<=S+n)
inductive Un(v:Option V):Prop
 |mk (e:a=d) (o:Obj) (y:Option Value) (aa:a6 a=some o) (af:o.data=.cell y) (aJ:match v with|none=>y=none|some v=>∃jY,y=C jY/\a7 β v jY)
end
noncomputable def cN(g:cz)(a6:az->Option cj)(β:aZ)(a d:az):O->Prop
 |.inst U dH=>Uz a6 β a d U dH
 |.list xs=>UG a6 β a d xs
 |.iQ k xs=>UH g.S a6 β a d k xs
 |.tup xs=>UX a6 β a d xs
 |.dict au op=>Uq g.prog g.w (g.base a) g.S a6 β a d au op
 |.jx n j=>Uy g.prog g.w g.S a6 a d n j
 |.qJ n=>a=d/\∃t u v,a6 a=C {cls:=.type "range",dict:=none,data:=.fields #[.int 0 t,.int n u,.int 1 v],slots:=#[]}
 |.it n i=>a=d/\∃l ec o,β.ad[n]? =C (l,ec)/\a6 a=C o/\o.cls=.type "list_iterator"/\o.data=.fields #[.ref l,.int i 0]
 |.nk n i=>a=d/\∃l ec o,β.ad[n]? =C (l,ec)/\a6 a=C o/\o.cls=.type "tuple_iterator"/\o.data=.fields #[.ref l,.int i 0]
 |.itR i left=>a=d/\a6 a=C {cls:=.type "range_iterator",dict:=none,data:=.fields #[q6 i,q6 left,q6 1],slots:=#[]}
 |.raw k=>a=d/\a6 a=C (g.raw k)/\ip (g.raw k)
 |.gone=>True
 |.cell v=>Un a6 β a d v
variable{d:az}{g:cz}{fx:az->Option cj}{av:aZ}
theorem cN.mono{a6:az->Option cj}{a:az}(iA:β.le av)(aV:∀o,a6 a=C o->fx a=C o)(hd:∀o,a6 d=C o->fx d=C o):
  ∀{o:O},cN g a6 β a d o->cN g fx av a d o:=by
 intro o R;induction o using MI.O.casesOn with
 |inst=>obtain(⟨h,au,n,aa,af,aJ⟩):=R;exact⟨h,au,n,aV _ aa,hd _ af,aJ.imp λI I x=>⟨x.1,x.2.le iA⟩⟩
 |list=>obtain(⟨h,aH,n,aa,af⟩):=R;exact⟨h,aH,n,aV _ aa,af.imp λI I x=>x.le iA⟩
 |iQ=>obtain(⟨h,aH,n,pre,post,aa,af,aJ,bl,cQ⟩):=R;exact⟨h,aH,n,pre,post,aV _ aa,af,a4 iA.aE aJ,bl.imp λI I x=>x.le iA,cQ⟩
 |tup=>obtain(⟨h,aH,n,aa,af⟩):=R;exact⟨h,aH,n,aV _ aa,af.imp λI I x=>x.le iA⟩
 |dict au op=>
  obtain(⟨h,bM,o,aA,aa,af,aJ,bl,cQ,eT⟩):=R;have up:∀e∈au,e.1.val av=e.1.val β:=λe he=>by obtain(⟨l,_,aX,_⟩):=aJ e he;exact G aX (G (ag.hy iA aX) rfl)
  refine⟨h,bM,o,aA,aV _ aa,af,λe he=>?_,?_,?_,eT⟩
  .obtain(⟨l,v,x,y,z⟩):=aJ e he;exact⟨l,v,ag.hy iA x,y,z.le iA⟩
  .refine List.Pairwise.imp_of_mem (λ{e f} he hf q=>?_) bl;(refine G (up e he) (G (up f hf) ?_));exact q
  .clear eT;induction op using b1 with
   |none=>intro k aw;exact aU (cQ k aw) λe he q=>(bh e he (ag.hy iA q))
   |some abs=>refine⟨λe he=>?_,λold bx=>⟨(cQ.2 old bx).1,λk=>((cQ.2 old bx).2 k).imp (λgd=>(by(refine aU gd λf hf q=>?_;try clear gd);exact(bh f hf (ag.hy iA q)))) id⟩⟩;exact aU (cQ.1 e he) λl x y=>(bh l (ag.hy iA x) (y.imp id λgd=>(by(refine aU gd λf hf q=>?_;try clear gd);exact(bh f hf (ag.hy iA q)))))
 |jx=>obtain(⟨h,bM,o,aA,aa,af,aJ,bl⟩):=R;exact⟨h,bM,o,aA,aV _ aa,af,aJ,bl⟩
 |qJ=>obtain(⟨h,t,u,v,aa⟩):=R;exact⟨h,t,u,v,aV _ aa⟩
 |it=>obtain(⟨h,l,ec,o,h0,aa,r⟩):=R;exact⟨h,l,ec,o,a4 iA.ad h0,aV _ aa,r⟩
 |nk=>obtain(⟨h,l,ec,o,h0,aa,r⟩):=R;exact⟨h,l,ec,o,a4 iA.ad h0,aV _ aa,r⟩
 |itR=>exact⟨R.1,aV _ R.2⟩
 |raw=>exact⟨R.1,aV _ R.2.1,R.2.2⟩
 |gone=>trivial
 |cell v=>
  obtain(⟨h,o,y,aa,af,aJ⟩):=R;refine⟨h,o,y,aV _ aa,af,?_⟩;induction v using b1 with
  |none=>exact aJ
  |some v=>(refine aU aJ λjY a b=>?_;try clear aJ);exact(bh jY a (b.le iA))
variable{o:O}
theorem cN.there{a6:az->Option cj}{a:az}(iT:o≠.gone)(R:cN g a6 β a d o):(∃x,a6 a=C x)/\∃x,a6 d=C x:=by
 have one:∀{x},a=d->a6 a=C x->(∃x,a6 a=C x)/\∃x,a6 d=C x:=λe h=>by(clear R;subst e);exact⟨⟨_,h⟩,_,h⟩
 induction o using MI.O.casesOn with
 |inst=>obtain(⟨_,_,_,aa,af,_⟩):=R;exact⟨⟨_,aa⟩,_,af⟩
 |list=>obtain(⟨e,_,_,aa,_⟩):=R;exact one e aa
 |iQ=>obtain(⟨e,_,_,_,_,aa,_⟩):=R;exact one e aa
 |tup=>obtain(⟨e,_,_,aa,_⟩):=R;exact one e aa
 |dict=>obtain(⟨e,_,_,_,aa,_⟩):=R;exact one e aa
 |jx=>obtain(⟨e,_,_,_,aa,_⟩):=R;exact one e aa
 |qJ=>obtain(⟨e,_,_,_,aa⟩):=R;exact one e aa
 |cell=>obtain(⟨e,_,_,aa,_⟩):=R;exact one e aa
 |it=>obtain(⟨e,_,_,_,_,aa,_⟩):=R;exact one e aa
 |nk=>obtain(⟨e,_,_,_,_,aa,_⟩):=R;exact one e aa
 |itR=>exact one R.1 R.2
 |raw=>exact one R.1 R.2.1
 |gone=>exact absurd rfl iT
noncomputable def bc.gV(c:bc)(a:az):Prop:=c.P a=none/\a≠c.L/\∀x∈c.cx,x.1≠a
structure Ff(c:bc)(f:az->Nat)(n:Nat)(a d:az)(o:O):Prop where
 ja:f a=n
 g0:f d=n
 hM:c.gV a
 fd:c.gV d
 iT:o≠.gone
noncomputable def bc.seer(c:bc)(h:gj)(own:Bool):az->Option Obj:=if own=ae then h.get? else c.P
inductive UM(g:cz)(c:bc)(β:aZ)(h:gj)(f:az->Nat)(n:Nat)(own:Bool)(o:O):Prop
 |mk (a d:Addr) (e:β.ad[n]? =some (a,d)) (R:cN g (c.seer h own) β a d o) (w:own=true->Ff c f n a d o)
noncomputable def A1(g:cz)(c:bc)(σ:dD (Bool×O))(β:aZ)(h:gj)(f:az->Nat):Prop:=∀n own o,σ.get n=C (own,o)->UM g c β h f n own o
variable{h:gj}{f:az->Nat}
theorem A1.BC{c bI:bc}{σ:dD (Bool×O)}(F:A1 g c σ β h f)(k:bI.P=c.P)(P7:∀a,c.gV a->bI.gV a):A1 g bI σ β h f:=λn own o e=>by obtain(⟨a,d,aa,af,aJ⟩):=F n own o e;refine⟨a,d,aa,by unfold bc.seer at af ⊢;exact G k af,λq=>?_⟩;obtain(⟨cJ,cY,fw,gT,gM⟩):=aJ q;exact⟨cJ,cY,P7 _ fw,P7 _ gT,gM⟩
inductive UN(g:cz)(h:gj)(β:aZ)(n:Nat)(o:O):Prop
 |mk (a d:Addr) (e:β.ad[n]? =some (a,d)) (R:cN g h.get? β a d o)
structure SatO(g:cz)(c:bc)(st:St)(β:aZ)(h:gj):Prop where
 keep:∀a o,c.P a=C o->h.get? a=C o
 cx:∀x∈c.cx,∃dd,h.get? x.1=C {x.2 with slots:=dd}
 objs:∃f:az->Nat,A1 g c st.σ β h f
 len:β.ad.length=st.no
 facts:Facts g.S st.ar st.aC st.ns β
 ghost:g.dQ.le β
noncomputable def lP(st:St)(β:aZ)(L:az)(h:gj):Prop:=∃m,h.Ns L m/\∀x v,eh x st.loc=C v->∃y,m x=C y/\a7 β v y
noncomputable def m6(g:cz)(s:aN):Prop:=s.os=g.dU.os/\s.gens=g.dU.gens
structure Sat(g:cz)(c:bc)(st:St)(β:aZ)(s:aN):Prop extends SatO g c st β s.heap where
 os:m6 g s
 loc:lP st β c.L s.heap
noncomputable def bc.Apart(c:bc):Prop:=∀x∈c.cx,x.1≠c.L
structure bc.Ok(g:cz)(c:bc)(dep:Nat):Prop where
 base:∀a o,g.h₀.get? a=C o->c.P a=C o
 frames:c.A.frames=C c.fr
 here:∀env∈c.fr,env.scope.kind≠.module/\∃a,env.frame=C a/\(a=c.L\/∃x∈c.cx,x.1=a)
 hd:∀x∈c.cx,c.P x.1=none/\∃au n,x.2.data=.dict au n
 iX:c.P c.L=none
 depth:c.A.depth<=310+2*dep
 units:c.A.units<=30+10*dep
 calm:dep<400->c.A.handled=none
 dep:dep<=802
variable{m:aM->Option aB}{y:aB}{dep t:Nat}{ay:gj}{fS:Loc}
section
variable{c:bc}{st:St}{s:aN}
theorem SatO.h₀(H:SatO g c st β h)(U:c.Ok g dep):∀a o,g.h₀.get? a=C o->h.get? a=C o:=λa o e=>H.keep a o (U.base a o e)
theorem SatO.fl(H:SatO g c st β h)(U:c.Ok g dep)(O:g.Ok):g.K.In h:=O.fl.keeps (H.h₀ U)
theorem SatO.top(H:SatO g c st β h)(U:c.Ok g dep)(O:g.Ok):sG g.p g.loose g.iS g.iR h:=O.top.keeps (H.h₀ U)
theorem SatO.low(H:SatO g c st β h)(U:c.Ok g dep)(O:g.Ok):kv<h.objs.size:=by
 refine wq O.top.b λo au fm bx I=>?_;obtain aa:=fW (H.h₀ U _ _ bx);(refine aU O.top.nolimit λqB J I=>wq J λo au fm bx I=>?_;try clear J);obtain af:=fW (H.h₀ U _ _ bx);obtain this:kv<cStatics:=by exact aS rfl
 exact sv this af
set_option tactic.hygienic true in
theorem SatO.obj(H:SatO g c st β h)(e:st.at n=C o):UN g h β n o:=by
 refine bG H.objs λf k=>?_;unfold St.at at e;generalize q:st.σ.get n=z at e;induction z using b1 with
 |none=>exact bK e
 |some x=>
  obtain(⟨own,dp⟩):=x;(obtain J:=aT e;clear e;subst J);obtain(⟨a,d,aa,af,_⟩):=k n own _ q;refine⟨a,d,aa,?_⟩;clear q;induction own using bV with
  |true=>exact af
  |false=>exact af.mono (.refl _) (λ_=>H.keep a _) (λ_=>H.keep d _)
theorem bc.gV.Dr(U:c.Ok g dep)(H:SatO g c st β h)(gw:lP st β c.L h){a:az}(aV:h.objs.size<=a):c.gV a:=by
 refine⟨?_,?_,λx ak=>?_⟩
 .generalize q:c.P a=aF;induction aF using b1 with
  |none=>rfl
  |some o=>exact absurd (fW (H.keep a o q)) (i6.mpr aV)
 ·(refine aU gw λm hm I=>?_;try clear gw);exact λe=>absurd hm.lt (G (bW e) (i6.mpr aV))
 .exact bG (H.cx x ak) λdd e=>λq=>absurd (fW e) (G q (i6.mpr aV))
theorem SatO.grow(H:SatO g c st β h)(k:∀b o,h.get? b=C o->ay.get? b=C o):SatO g c st β ay:=by
 refine bG H.objs λf hf=>⟨λa o e=>k _ _ (H.keep a o e),λx ak=>?_,⟨f,λn own o e=>?_⟩,H.len,H.facts,H.ghost⟩
 .exact bG (H.cx x ak) λdd e=>⟨dd,k _ _ e⟩
 .obtain(⟨a,d,aa,af,aJ⟩):=hf n own o e;refine⟨a,d,aa,?_,aJ⟩;clear aJ e;induction own using bV with
  |true=>exact af.mono (.refl _) (λI=>k a _) (λI=>k d _)
  |false=>exact af
theorem lP.grow{L:az}(H:lP st β L h)(k:∀b o,h.get? b=C o->ay.get? b=C o):lP st β L ay:=
 (by(refine aU H λm a b=>?_;try clear H);exact⟨m,a.keeps k,b⟩)
theorem lP.le{L:az}(H:lP st β L h)(iA:β.le av):lP st av L h:=
 (by(refine aU H λm a b=>?_;try clear H);exact⟨m,a,λx v e=>(aU (b x v e) λy p q=>(bh y p (q.le iA)))⟩)
theorem Sat.grow(H:Sat g c st β s)(k:∀b o,s.heap.get? b=C o->ay.get? b=C o):Sat g c st β {s with heap:=ay,toks:=t}:=
 ⟨H.toSatO.grow k,H.os,H.loc.grow k⟩
theorem Sat.toks(H:Sat g c st β s):Sat g c st β {s with toks:=t}:=⟨H.toSatO,H.os,H.loc⟩
theorem O.live(h:o.qh=ai):o≠.gone:=λe=>by rw[e] at h;exact jB h
theorem SatO.turn{dp:O}{a b:az}(H:SatO g c st β h)(aO:n<10000000)(e:st.σ.get n=C (ae,o))(aV:β.ad[n]? =C (a,d))(aD:b=a\/b=d)
  (k:lN b h ay)(R:cN g ay.get? β a d dp)(iT:dp.qh=ai):SatO g c {st with σ:=st.σ.put cU n (ae,dp)} β ay/\c.gV b:=by
 refine bG H.objs λf hf=>?_;obtain(⟨dq,ec,aa,af,aJ⟩):=hf n ae o e;rw[aV] at aa;(obtain J:=aT aa;clear aa;refine a3 (eD J) λbU cv=>?_;clear J;subst bU;subst cv);obtain(⟨f1,f2,vs,f4,_⟩):=aJ rfl;have h6:c.gV b:=by rcases aD with rfl|rfl<;>assumption
 have fn:f b=n:=by rcases aD with rfl|rfl<;>assumption
 refine⟨⟨λx y q=>k x y (λz=>?_) (H.keep x y q),λx ak=>?_,⟨f,λm own y q=>?_⟩,H.len,H.facts,H.ghost⟩,h6⟩
 .rw[z,h6.1] at q;exact bK q
 .exact bG (H.cx x ak) λdd q=>⟨dd,k _ _ (h6.2.2 x ak) q⟩
 .rw[dD.k8 cU st.σ n (ae,dp) m (by obtain this:(10000000:Nat)<=2^cU-1:=(aS rfl);exact bR (by assumption) (bA rfl))] at q;by_cases hm:m=n
  ·(clear fn aJ e aO;subst hm);rw[if_pos rfl] at q;(obtain J:=aT q;clear q;refine a3 (eD J) λbU cv=>?_;clear J;subst bU;subst cv);exact⟨a,d,aV,R,λI=>⟨f1,f2,vs,f4,O.live iT⟩⟩
  .rw[if_neg hm] at q;obtain(⟨ef,fK,g1,g2,g3⟩):=hf m own y q;refine⟨ef,fK,g1,?_,g3⟩;clear q;induction own using bV with
   |false=>exact g2
   |true=>obtain(⟨cJ,cY,_⟩):=g3 rfl;exact g2.mono (.refl _) (λI=>k ef _ λz=>hm (G (bW cJ) (G z (G fn rfl)))) (λI=>k fK _ λz=>hm (G (bW cY) (G z (G fn rfl))))
theorem lP.turn{L b:az}{σ:dD (Bool×O)}(H:lP st β L h)(k:lN b h ay)(aD:b≠L):lP {st with σ:=σ} β L ay:=
 (by(refine aU H λm a r=>?_;try clear H);exact⟨m,a.extBut k (j1 aD),r⟩)
theorem Sat.turn{dp:O}{a b:az}(H:Sat g c st β s)(aO:n<10000000)(e:st.σ.get n=C (ae,o))(aV:β.ad[n]? =C (a,d))(aD:b=a\/b=d)
  (k:lN b s.heap ay)(R:cN g ay.get? β a d dp)(iT:dp.qh=ai):Sat g c {st with σ:=st.σ.put cU n (ae,dp)} β {s with heap:=ay,toks:=t}:=a3 (H.toSatO.turn aO e aV aD k R iT) λx y=>⟨x,H.os,H.loc.turn k y.2.1⟩
noncomputable def aZ.new(β:aZ)(a d:az):aZ:={β with ad:=β.ad++ [(a,d)]}
theorem aZ.gJ(β:aZ)(a d:az):β.le (β.new a d):=⟨lK _ _,iH _,iH _,iH _⟩
theorem Facts.new{a:az}(F:Facts g.S st.ar st.aC st.ns β):Facts g.S st.ar st.aC st.ns (β.new a d):=⟨F.aE,F.aj,F.cd,F.dd,F.cn⟩
theorem aZ.lp(β:aZ)(a d:az):(β.new a d).ad[β.ad.length]? =C (a,d):=by show(β.ad++ [(a,d)])[β.ad.length]? =_;(refine G (pL (dP _)) ?_;refine G (uI _) ?_);rfl
theorem SatO.gone{a b:az}(H:SatO g c st β h)(aO:n<10000000)(e:st.σ.get n=C (ae,o))(aV:β.ad[n]? =C (a,d))(aD:b=a\/b=d)
  (k:lN b h ay):SatO g c {st with σ:=st.σ.put cU n (ai,.gone)} β ay/\c.gV b:=by
 refine bG H.objs λf hf=>?_;obtain(⟨dq,ec,aa,af,aJ⟩):=hf n ae o e;rw[aV] at aa;(obtain J:=aT aa;clear aa;refine a3 (eD J) λbU cv=>?_;clear J;subst bU;subst cv);obtain(⟨f1,f2,vs,f4,_⟩):=aJ rfl;have h6:c.gV b:=by rcases aD with rfl|rfl<;>assumption
 have fn:f b=n:=by rcases aD with rfl|rfl<;>assumption
 refine⟨⟨λx y q=>k x y (λz=>?_) (H.keep x y q),λx ak=>?_,⟨f,λm own y q=>?_⟩,H.len,H.facts,H.ghost⟩,h6⟩
 .rw[z,h6.1] at q;exact bK q
 .exact bG (H.cx x ak) λdd q=>⟨dd,k _ _ (h6.2.2 x ak) q⟩
 .rw[dD.k8 cU st.σ n (ai,.gone) m (ij aO (aS rfl))] at q;by_cases hm:m=n
  ·(clear fn f2 f1 aJ e aO;subst hm);rw[if_pos rfl] at q;(obtain J:=aT q;clear q;refine a3 (eD J) λbU cv=>?_;clear J;subst bU;subst cv);exact⟨a,d,aV,trivial,λe=>by exact c8 e⟩
  .rw[if_neg hm] at q;obtain(⟨ef,fK,g1,g2,g3⟩):=hf m own y q;refine⟨ef,fK,g1,?_,g3⟩;clear q;induction own using bV with
   |false=>exact g2
   |true=>obtain(⟨cJ,cY,_⟩):=g3 rfl;exact g2.mono (.refl _) (λI=>k ef _ λz=>hm (G (bW cJ) (G z (G fn rfl)))) (λI=>k fK _ λz=>hm (G (bW cY) (G z (G fn rfl))))
theorem Sat.gone{a b:az}(H:Sat g c st β s)(aO:n<10000000)(e:st.σ.get n=C (ae,o))(aV:β.ad[n]? =C (a,d))(aD:b=a\/b=d)
  (k:lN b s.heap ay):Sat g c {st with σ:=st.σ.put cU n (ai,.gone)} β {s with heap:=ay,toks:=t}:=a3 (H.toSatO.gone aO e aV aD k) λx y=>⟨x,H.os,H.loc.turn k y.2.1⟩
theorem SatO.oQ{a:az}(H:SatO g c st β h)(aO:st.no<10000000)(k:∀b o,h.get? b=C o->ay.get? b=C o)(aV:h.objs.size<=a)(hd:h.objs.size<=d)
  (hM:c.gV a)(fd:c.gV d)(R:cN g ay.get? (β.new a d) a d o)(iT:o.qh=ai):SatO g c {st with σ:=st.σ.put cU st.no (ae,o),no:=st.no+1} (β.new a d) ay:=by
 refine bG H.objs λf hf=>⟨λx y q=>k _ _ (H.keep x y q),λx ak=>?_,⟨λx=>if x=a\/x=d then st.no else f x,λm own y q=>?_⟩,?_,H.facts.new,H.ghost.trans (β.gJ _ _)⟩
 .exact bG (H.cx x ak) λdd q=>⟨dd,k _ _ q⟩
 .replace q:(st.σ.put cU st.no (ae,o)).get m=C (own,y):=q;rw[dD.k8 cU st.σ st.no (ae,o) m (by obtain this:(10000000:Nat)<=2^cU-1:=(aS rfl);exact bR (by assumption) (bA rfl))] at q;by_cases hm:m=st.no
  .subst hm;rw[if_pos rfl] at q;(obtain J:=aT q;clear q;refine a3 (eD J) λbU cv=>?_;clear J;subst bU;subst cv);refine⟨a,d,by exact G (bW H.len) (β.lp a d),R,λI=>⟨by simp,by simp,hM,fd,O.live iT⟩⟩
  .rw[if_neg hm] at q;obtain(⟨ef,fK,g1,g2,g3⟩):=hf m own y q;refine⟨ef,fK,a4 (β.gJ a d).ad g1,?_,λe=>?_⟩
   .clear g3 q;induction own using bV with
    |false=>exact g2.mono (β.gJ a d) (λI e=>e) (λI e=>e)
    |true=>exact g2.mono (β.gJ a d) (λI=>k ef _) (λI=>k fK _)
   ·(clear q;subst e);obtain(⟨cJ,cY,fw,gT,gM⟩):=g3 rfl;obtain(⟨⟨dw,t1⟩,dV,jh⟩):=cN.there gM (show cN g h.get? β ef fK y from g2);have eG:=fW t1;have fB:=fW jh;refine⟨?_,?_,fw,gT,gM⟩
    .show(if ef=a\/ef=d then st.no else f ef)=m;exact G (if_neg (by rintro (e|e)<;>(rw[e] at eG;first|exact absurd eG (Nat.not_lt.mpr aV)|exact absurd eG (Nat.not_lt.mpr hd)))) cJ
    .show(if fK=a\/fK=d then st.no else f fK)=m;exact G (if_neg (by rintro (e|e)<;>(rw[e] at fB;first|exact absurd fB (Nat.not_lt.mpr aV)|exact absurd fB (Nat.not_lt.mpr hd)))) cY
 .show(β.ad++ [(a,d)]).length=st.no+1;(refine G iG (G H.len ?_));rfl
theorem Sat.oQ{a:az}(H:Sat g c st β s)(U:c.Ok g dep)(aO:st.no<10000000)(k:∀b o,s.heap.get? b=C o->ay.get? b=C o)(aV:s.heap.objs.size<=a)(hd:s.heap.objs.size<=d)
  (R:cN g ay.get? (β.new a d) a d o)(iT:o.qh=ai):Sat g c {st with σ:=st.σ.put cU st.no (ae,o),no:=st.no+1} (β.new a d) {s with heap:=ay,toks:=t}:=
 ⟨H.toSatO.oQ aO k aV hd (.Dr U H.toSatO H.loc aV) (.Dr U H.toSatO H.loc hd) R iT,H.os,((H.loc.grow k).le (β.gJ a d))⟩
theorem SatO.local(U:c.Ok g dep)(ix:c.Apart)(H:SatO g c st β h)(k:lN c.L h ay):SatO g c {st with loc:=fS} β ay:=by
 refine bG H.objs λf hf=>⟨λx y q=>k x y (λz=>?_) (H.keep x y q),λx ak=>?_,⟨f,λm own y q=>?_⟩,H.len,H.facts,H.ghost⟩
 .rw[z,U.iX] at q;exact bK q
 .exact bG (H.cx x ak) λdd q=>⟨dd,k _ _ (ix x ak) q⟩
 .obtain(⟨ef,fK,g1,g2,g3⟩):=hf m own y q;refine⟨ef,fK,g1,?_,g3⟩;clear q;induction own using bV with
  |false=>exact g2
  |true=>obtain(⟨_,_,fw,gT,_⟩):=g3 rfl;exact g2.mono (.refl _) (λI=>k ef _ fw.2.1) (λI=>k fK _ gT.2.1)
theorem Sat.local{v:V}(U:c.Ok g dep)(ix:c.Apart)(H:Sat g c st β s)(k:lN c.L s.heap ay)(hm:s.heap.Ns c.L m)(o1:∀z u,eh z st.loc=C u->∃y,m z=C y/\a7 β u y)
  (aO:ay.Ns c.L (λz=>if z=x then C y else m z))(R:a7 β v y):Sat g c {st with loc:=ov x v st.loc} β {s with heap:=ay,toks:=t}:=
 ⟨H.toSatO.local U ix k,H.os,_,aO,λz u e=>by
  rw[show({st with loc:=ov x v st.loc}:St).loc=ov x v st.loc from rfl,OS] at e;by_cases a8:z=x
  .rw[if_pos a8] at e;(obtain J:=aT e;clear e;subst J);exact(bh y (if_pos a8) R)
  .rw[if_neg a8] at e;exact aU (o1 z u e) λjY a b=>(bh jY ((if_neg a8).trans a) b)⟩
structure pU(c:bc)(h:gj)(e:az)(afR:Prop):Prop where
 told:∃cg aK,h.get? e=C cg/\cg.cls=.ref 128/\cg.data=.fields aK/\c.P e=none/\(∃iL,aK[0]? =C iL)/\
  ((¬afR/\aK[1]? =C .none)\/∃T e2 cp eM,aK[1]? =C (.ref T)/\T≠e/\c.P T=none/\h.get? T=C e2/\e2.data=.fields cp/\cp[3]? =C eM)
noncomputable def fY(g:cz)(c:bc)(st:St)(β:aZ)(v:aB)(s:aN):Prop:=∃e,v=.ref e/\pU c s.heap e False/\Sat g c st β s
noncomputable def Told(g:cz)(c:bc)(st:St)(β:aZ)(v:aB)(s:aN):Prop:=∃e,v=.ref e/\pU c s.heap e True/\Sat g c st β s
theorem Told.raised{v:aB}(H:Told g c st β v s):fY g c st β v s:=by(refine eH H λe aa J aJ=>?_;try clear H;obtain(⟨cg,aK,a1,a2,cm,c_,iL,dR⟩):=J);exact⟨e,aa,⟨cg,aK,a1,a2,cm,c_,iL,dR.elim (λq=>absurd trivial q.1) .inr⟩,aJ⟩
end
noncomputable abbrev Wp(ah:Type):=(ah->aN->Prop)->(aB->aN->Prop)->aN->Prop
variable{bp:St}
theorem x6{β:Type}{m:M aQ}{f:aQ->M β}{st:St}{v:aQ}(e:m st=.ok v bp):(m.bind f) st=f v bp:=by unfold M.bind;exact G e rfl
noncomputable def At(X:cz->bc->St->aZ->aB->aN->Prop)(g:cz)(c:bc)(β:aZ)(st:St)(s:aN){ah:Type}(m:M aQ)(W:Wp ah)(R:aZ->aQ->ah->Prop):Prop:=
 match m st with
  |.fail _=>True
  |.ok v bp=>∀(Q:ah->aN->Prop)(E:aB->aN->Prop),(∀a ao av,β.le av->Sat g c bp av ao->R av v a->Q a ao)->W Q E s
  |.ex bp=>∀(Q:ah->aN->Prop)(E:aB->aN->Prop),(∀e ao av,β.le av->X g c bp av e ao->E e ao)->W Q E s
noncomputable def bH(X:cz->bc->St->aZ->aB->aN->Prop)(g:cz)(c:bc)(β:aZ){aQ ah:Type}(m:M aQ)(W:Wp ah)(R:aZ->aQ->ah->Prop):Prop:=
 ∀(aW:aZ)(st:St)(s:aN),β.le aW->Sat g c st aW s->At X g c aW st s m W R
noncomputable abbrev cT:=@bH fY
noncomputable abbrev rt:=@bH Told
variable{e:bk}{X:cz->bc->St->aZ->aB->aN->Prop}{d8 ej:Type}{u:Unit}
section
variable{c:bc}{ah:Type}{m:M aQ}{W mm:Wp ah}{R hV:aZ->aQ->ah->Prop}{st:St}{s:aN}
theorem At.of(h:At X g c β st s m W R)(k:∀Q E,W Q E s->mm Q E s):At X g c β st s m mm R:=by
 unfold At at h ⊢;split at h
 .trivial
 .exact λQ E aq=>k _ _ (h Q E aq)
 .exact λQ E aq=>k _ _ (h Q E aq)
theorem At.imp(h:At X g c β st s m W R)(k:∀av v a,β.le av->R av v a->hV av v a):At X g c β st s m W hV:=by
 unfold At at h ⊢;split at h
 .trivial
 .exact λQ E aq=>h Q E λa ao av l S r=>aq a ao av l S (k _ _ _ l r)
 .exact h
theorem At.ret{v:aQ}(h:∀(Q:ah->aN->Prop)(E:aB->aN->Prop),(∀a ao av,β.le av->Sat g c st av ao->R av v a->Q a ao)->W Q E s):At X g c β st s (M.pure v) W R:=h
theorem At.fail:At X g c β st s (MI.fail n:M aQ) W R:=trivial
set_option tactic.hygienic true in
set_option smartUnfolding false in
theorem At.bind{f:aQ->M d8}{k:ah->Wp ej}{cD:aZ->d8->ej->Prop}(h:At X g c β st s m W R)(aw:∀av v a bp ao,β.le av->R av v a->Sat g c bp av ao->At X g c av bp ao (f v) (k a) cD):
  At X g c β st s (m.bind f) (λQ E s=>W (λa bg=>k a Q E bg) E s) cD:=by
 unfold At at h;show match(match m st with|.fail n=>Out.fail n|.ok a bp=>f a bp|.ex bp=>.ex bp) with|.fail _=>True|.ok v bp=>_|.ex bp=>_
 split at h
 .trivial
 .rename_i v bp q;split<;>rename_i en
  .trivial
  .intro Q E aq;refine h _ E λa ao av l S r=>?_;obtain this:=aw av v a bp ao l r S;unfold At at this;rw[en] at this;exact this Q E λdq fa d9 a_ eE g_=>aq dq fa d9 (l.trans a_) eE g_
  .intro Q E aq;refine h _ E λa ao av l S r=>?_;obtain this:=aw av v a bp ao l r S;unfold At at this;rw[en] at this;exact this Q E λdq fa d9 a_ eE=>aq dq fa d9 (l.trans a_) eE
 .exact λQ E aq=>h _ E aq
set_option smartUnfolding false in
theorem At.peek{f:aQ->M d8}{W:Wp ej}{cD:aZ->d8->ej->Prop}{v:aQ}(e:m st=.ok v st)(h:At X g c β st s (f v) W cD):At X g c β st s (m.bind f) W cD:=by
 unfold At at h ⊢;show match(match m st with|.fail n=>Out.fail n|.ok a bp=>f a bp|.ex bp=>.ex bp) with|.fail _=>True|.ok v bp=>_|.ex bp=>_
 exact G e h
set_option smartUnfolding false in
theorem At.stuck{f:aQ->M d8}{W:Wp ej}{cD:aZ->d8->ej->Prop}(e:m st=.fail n):At X g c β st s (m.bind f) W cD:=by
 unfold At;show match(match m st with|.fail n=>Out.fail n|.ok a bp=>f a bp|.ex bp=>.ex bp) with|.fail _=>True|.ok v bp=>_|.ex bp=>_
 refine G e ?_;trivial
theorem Jb(e:st.at n=none):load n st=.fail (1000+n):=by
 unfold St.at at e;unfold MI.load;generalize st.σ.get n=z at e ⊢;induction z using b1 with
 |none=>rfl
 |some x=>exact wJ e
theorem Jc{o:O}(e:st.at n=C o):load n st=.ok o st:=by
 unfold St.at at e;unfold MI.load;generalize st.σ.get n=z at e ⊢;induction z using b1 with
 |none=>exact bK e
 |some x=>exact congrArg (λo=>Out.ok o st) (aT e)
theorem vd{o:O}:alloc o st=match eK st.no 10000000 with|true=>.ok st.no {st with σ:=st.σ.put cU st.no (ae,o),no:=st.no+1}|false=>.fail 2:=by kernel_rfl
theorem At.load{f:O->M d8}{W:Wp ej}{cD:aZ->d8->ej->Prop}(H:Sat g c st β s)(h:∀o a d,st.at n=C o->β.ad[n]? =C (a,d)->cN g s.heap.get? β a d o->At X g c β st s (f o) W cD):
  At X g c β st s ((MI.load n).bind f) W cD:=by
 generalize e:st.at n=aF;induction aF using b1 with
 |none=>exact .stuck (n:=1000+n) (Jb e)
 |some o=>obtain(⟨a,d,aa,af⟩):=H.obj e;exact .peek (v:=o) (Jc e) (h o a d e aa af)
theorem At.bq{x:Option aQ}{f:aQ->M d8}{W:Wp ej}{cD:aZ->d8->ej->Prop}(h:∀v,x=C v->At X g c β st s (f v) W cD):At X g c β st s ((MI.bq n x).bind f) W cD:=by
 induction x using b1 with
 |none=>exact .stuck (n:=n) rfl
 |some v=>exact .peek (v:=v) rfl (h v rfl)
theorem At.om{x:Option aQ}{W:Wp ah}(h:∀v,x=C v->At X g c β st s (M.pure v) W R):At X g c β st s (MI.bq n x) W R:=by
 induction x using b1 with
 |none=>exact .fail
 |some v=>exact h v rfl
theorem At.store{f:Unit->M d8}{W:Wp ej}{cD:aZ->d8->ej->Prop}(h:∀gs,n<10000000->st.σ.get n=C (ae,gs)->At X g c β {st with σ:=st.σ.put cU n (ae,o)} s (f ()) W cD):
  At X g c β st s ((MI.store n o).bind f) W cD:=by
 generalize e:st.σ.get n=aF;induction aF using b1 with
 |none=>exact .stuck (n:=2000+n) (by unfold MI.store;exact G e rfl)
 |some x=>
  obtain(⟨own,gs⟩):=x;induction own using bV with
  |false=>exact .stuck (n:=2000+n) (by unfold MI.store;exact G e rfl)
  |true=>
   generalize q:eK n 10000000=aF;induction aF using bV with
   |false=>exact .stuck (n:=2) (by unfold MI.store;refine G e ?_;dsimp only;exact G q rfl)
   |true=>
    obtain aO:n<10000000:=bA q;obtain this:=h gs aO e;unfold At at this ⊢;obtain cf:MI.store n o st=.ok () {st with σ:=st.σ.put cU n (ae,o)}:=by unfold MI.store;refine G e ?_;dsimp only;exact G q rfl
    exact G (x6 cf) this
theorem At.is{v:aQ}(e:m st=.ok v bp)(h:∀(Q:ah->aN->Prop)(E:aB->aN->Prop),(∀a ao av,β.le av->Sat g c bp av ao->R av v a->Q a ao)->W Q E s):At X g c β st s m W R:=by unfold At;exact G e h
theorem At.o6(e:m st=.fail n):At X g c β st s m W R:=by unfold At;refine G e ?_;trivial
theorem At.z8{W:Wp ah}{R:aZ->Unit->ah->Prop}(h:∀gs,n<10000000->st.σ.get n=C (ae,gs)->∀(Q:ah->aN->Prop)(E:aB->aN->Prop),
  (∀a ao av,β.le av->Sat g c {st with σ:=st.σ.put cU n (ae,o)} av ao->R av () a->Q a ao)->W Q E s):At X g c β st s (MI.store n o) W R:=by
 generalize e:st.σ.get n=aF;induction aF using b1 with
 |none=>exact .o6 (n:=2000+n) (by unfold MI.store;exact G e rfl)
 |some x=>
  obtain(⟨own,gs⟩):=x;induction own using bV with
  |false=>exact .o6 (n:=2000+n) (by unfold MI.store;exact G e rfl)
  |true=>
   generalize q:eK n 10000000=aF;induction aF using bV with
   |false=>exact .o6 (n:=2) (by unfold MI.store;refine G e ?_;dsimp only;exact G q rfl)
   |true=>exact .is (by unfold MI.store;refine G e ?_;dsimp only;exact G q rfl) (h gs (bA q) e)
theorem At.drop{f:Unit->M d8}{W:Wp ej}{cD:aZ->d8->ej->Prop}(h:∀gs,n<10000000->st.σ.get n=C (ae,gs)->At X g c β {st with σ:=st.σ.put cU n (ai,.gone)} s (f ()) W cD):
  At X g c β st s ((MI.drop n).bind f) W cD:=by
 generalize e:st.σ.get n=aF;induction aF using b1 with
 |none=>exact .stuck (n:=3000+n) (by unfold MI.drop;exact G e rfl)
 |some x=>
  obtain(⟨own,gs⟩):=x;induction own using bV with
  |false=>exact .stuck (n:=3000+n) (by unfold MI.drop;exact G e rfl)
  |true=>
   generalize q:eK n 10000000=aF;induction aF using bV with
   |false=>exact .stuck (n:=2) (by unfold MI.drop;refine G e ?_;dsimp only;exact G q rfl)
   |true=>
    obtain this:=h gs (bA q) e;unfold At at this ⊢;obtain cf:MI.drop n st=.ok () {st with σ:=st.σ.put cU n (ai,.gone)}:=by unfold MI.drop;refine G e ?_;dsimp only;exact G q rfl
    exact G (x6 cf) this
theorem At.FE{W:Wp ah}{R:aZ->Nat->ah->Prop}(h:st.no<10000000->∀(Q:ah->aN->Prop)(E:aB->aN->Prop),
  (∀a ao av,β.le av->Sat g c {st with σ:=st.σ.put cU st.no (ae,o),no:=st.no+1} av ao->R av st.no a->Q a ao)->W Q E s):At X g c β st s (MI.alloc o) W R:=by
 generalize q:eK st.no 10000000=aF;induction aF using bV with
 |false=>exact .o6 (n:=2) (by exact G vd (G q rfl))
 |true=>exact .is (by exact G vd (G q rfl)) (h (bA q))
theorem At.alloc{f:Nat->M d8}{W:Wp ej}{cD:aZ->d8->ej->Prop}(h:st.no<10000000->At X g c β {st with σ:=st.σ.put cU st.no (ae,o),no:=st.no+1} s (f st.no) W cD):
  At X g c β st s ((MI.alloc o).bind f) W cD:=by
 generalize q:eK st.no 10000000=aF;induction aF using bV with
 |false=>exact .stuck (n:=2) (by exact G vd (G q rfl))
 |true=>
  obtain this:=h (bA q);unfold At at this ⊢;obtain cf:MI.alloc o st=.ok st.no {st with σ:=st.σ.put cU st.no (ae,o),no:=st.no+1}:=by exact G vd (G q rfl)
  exact G (x6 cf) this
theorem At.ib{h:List b6->List bB->Option aQ}{f:aQ->M d8}{W:Wp ej}{cD:aZ->d8->ej->Prop}(k:∀v,h st.ar st.aC=C v->At X g c β st s (f v) W cD):At X g c β st s ((MI.ib n h).bind f) W cD:=by
 generalize e:h st.ar st.aC=aF;induction aF using b1 with
 |none=>exact .stuck (n:=n) (by unfold MI.ib;exact G e rfl)
 |some v=>exact .peek (v:=v) (by unfold MI.ib;exact G e rfl) (k v e)
theorem At.vQ{h:List b6->List bB->Option aQ}{W:Wp ah}(k:∀v,h st.ar st.aC=C v->At X g c β st s (M.pure v) W R):At X g c β st s (MI.ib n h) W R:=by
 generalize e:h st.ar st.aC=aF;induction aF using b1 with
 |none=>unfold At;refine G (show MI.ib n h st=.fail n by unfold MI.ib;exact G e rfl) ?_;trivial
 |some v=>obtain this:=k v e;unfold At at this ⊢;refine G (show MI.ib n h st=.ok v st by unfold MI.ib;exact G e rfl) ?_;exact this
theorem At.guard{f:Unit->M d8}{W:Wp ej}{cD:aZ->d8->ej->Prop}(h:b=ae->At X g c β st s (f ()) W cD):At X g c β st s ((MI.guard k b).bind f) W cD:=by
 induction b using bV with
 |true=>exact .peek (v:=()) rfl (h rfl)
 |false=>exact .stuck (n:=k) rfl
theorem At.dv{v:V}{f:Nat->M d8}{W:aB->Wp ej}{cD:aZ->d8->ej->Prop}(r:a7 β v y)(h:∀n a d,β.ad[n]? =C (a,d)->At X g c β st s (f n) (W (.ref a)) cD):At X g c β st s ((MI.bq k v.dv).bind f) (W y) cD:=by
 induction v using MI.V.casesOn with
 |r n=>(refine cA r λa d e J=>?_;try clear r;subst J);exact .peek (v:=n) rfl (h n a d e)
 |_=>exact .stuck (n:=k) rfl
theorem At.aE{v:V}{f:bo->M d8}{W:aB->Wp ej}{cD:aZ->d8->ej->Prop}(r:a7 β v y)(h:∀e z t,e.val β=C z->At X g c β st s (f e) (W (.int z t)) cD):At X g c β st s ((MI.bq k v.aE).bind f) (W y) cD:=by
 induction v using MI.V.casesOn with
 |i e=>(refine cA r λz t q J=>?_;try clear r;subst J);exact .peek (v:=e) rfl (h e z t q)
 |_=>exact .stuck (n:=k) rfl
theorem At.cn{v:V}{f:ag->M d8}{W:aB->Wp ej}{cD:aZ->d8->ej->Prop}(r:a7 β v y)(h:∀e l t,ag.val β e=C l->At X g c β st s (f e) (W (.str (aR l) t)) cD):At X g c β st s ((MI.bq k v.cn).bind f) (W y) cD:=by
 induction v using MI.V.casesOn with
 |s e=>(refine cA r λz t q J=>?_;try clear r;subst J);exact .peek (v:=e) rfl (h e z t q)
 |_=>exact .stuck (n:=k) rfl
theorem At.fR{F:O->Option fb}{f:fb->M d8}{W:Wp ej}{cD:aZ->d8->ej->Prop}{a:az}(H:Sat g c st β s)(aV:β.ad[n]? =C (a,d))(h:∀o x,F o=C x->cN g s.heap.get? β a d o->At X g c β st s (f x) W cD):At X g c β st s ((MI.fR k n F).bind f) W cD:=by
 generalize e:st.at n=aF;induction aF using b1 with
 |none=>exact .stuck (n:=1000+n) (by unfold MI.fR M.bind;exact G (Jb e) rfl)
 |some o=>
  obtain(⟨dq,ec,aa,af⟩):=H.obj e;rw[aV] at aa;(obtain J:=aT aa;clear aa;refine a3 (eD J) λbU cv=>?_;clear J;subst bU;subst cv);have ey:MI.fR k n F st=MI.bq k (F o) st:=by unfold MI.fR M.bind;exact G (Jc e) rfl
  generalize q:F o=aF;induction aF using b1 with
  |none=>exact .stuck (n:=k) (by(refine G ey (G q ?_));rfl)
  |some x=>exact .peek (v:=x) (by(refine G ey (G q ?_));rfl) (h o x q af)
theorem At.rU{f:az×List (aM×V)->M d8}{W:Wp ej}{cD:aZ->d8->ej->Prop}{a:az}(H:Sat g c st β s)(aV:β.ad[n]? =C (a,d))(h:∀U dH au m,a≠d->s.heap.get? a=C (uQ U d)->s.heap.get? d=C (dictOf au m)->bL (m2 β) dH au->At X g c β st s (f (U,dH)) W cD):At X g c β st s ((MI.fR k n O.rU).bind f) W cD:=
 .fR H aV λo x q r=>by
  induction o using MI.O.casesOn with
  |inst U dH=>(obtain J:=aT q;clear q;subst J);obtain(⟨ne,au,m,aa,af,aJ⟩):=r;exact h U dH au m ne aa af aJ
  |_=>exact bK q
theorem At.kH{f:List V->M d8}{W:Wp ej}{cD:aZ->d8->ej->Prop}{a:az}(H:Sat g c st β s)(aV:β.ad[n]? =C (a,d))(h:∀xs us m,a=d->s.heap.get? a=C (listOf us m)->bL (a7 β) xs us.toList->At X g c β st s (f xs) W cD):At X g c β st s ((MI.fR k n O.kH).bind f) W cD:=
 .fR H aV λo x q r=>by
  induction o using MI.O.casesOn with
  |list xs=>(obtain J:=aT q;clear q;subst J);obtain(⟨e,us,m,aa,af⟩):=r;exact h _ us m e aa af
  |_=>exact bK q
theorem At.i_{f:List (ag×V)×Option (List ag)->M d8}{W:Wp ej}{cD:aZ->d8->ej->Prop}{a:az}(H:Sat g c st β s)(aV:β.ad[n]? =C (a,d))(h:∀au op,cN g s.heap.get? β a d (.dict au op)->At X g c β st s (f (au,op)) W cD):At X g c β st s ((MI.fR k n O.i_).bind f) W cD:=
 .fR H aV λo x q r=>by
  induction o using MI.O.casesOn with
  |dict au op=>(obtain J:=aT q;clear q;subst J);exact h au op r
  |_=>exact bK q
theorem At.rC{f:Option V->M d8}{W:Wp ej}{cD:aZ->d8->ej->Prop}{a:az}(H:Sat g c st β s)(aV:β.ad[n]? =C (a,d))(h:∀v o y,a=d->s.heap.get? a=C o->o.data=.cell y->(match v with|none=>y=none|some v=>∃jY,y=C jY/\a7 β v jY)->At X g c β st s (f v) W cD):At X g c β st s ((MI.fR k n O.rC).bind f) W cD:=
 .fR H aV λo x q r=>by
  induction o using MI.O.casesOn with
  |cell v=>(obtain J:=aT q;clear q;subst J);obtain(⟨e,f_,y,aa,af,aJ⟩):=r;exact h _ f_ y e aa af aJ
  |_=>exact bK q
theorem At.oh{f:O->M d8}{W:Wp ej}{cD:aZ->d8->ej->Prop}{a:az}(H:Sat g c st β s)(aV:β.ad[n]? =C (a,d))(h:∀o,cN g s.heap.get? β a d o->At X g c β st s (f o) W cD):At X g c β st s ((MI.load n).bind f) W cD:=
 .load H λo dq ec I fo R=>h o (by cases aV.symm.trans fo;exact R)
theorem At.z5{f:List V->M d8}{W:Wp ej}{cD:aZ->d8->ej->Prop}{a:az}(H:Sat g c st β s)(aV:β.ad[n]? =C (a,d))(h:∀xs us,s.heap.IsList a us\/s.heap.IsTuple a us->bL (a7 β) xs us.toList->At X g c β st s (f xs) W cD):At X g c β st s ((MI.fR k n O.z5).bind f) W cD:=
 .fR H aV λo x q r=>by
  induction o using MI.O.casesOn with
  |list xs=>(obtain J:=aT q;clear q;subst J);obtain(⟨_,us,m,aa,af⟩):=r;exact h _ us (.inl ⟨_,aa,rfl,m,rfl⟩) af
  |tup xs=>(obtain J:=aT q;clear q;subst J);obtain(⟨_,us,m,aa,af⟩):=r;exact h _ us (.inr ⟨_,aa,rfl,m,rfl⟩) af
  |_=>exact bK q
theorem At.v7{f:Nat×List V->M d8}{W:Wp ej}{cD:aZ->d8->ej->Prop}{a:az}(H:Sat g c st β s)(aV:β.ad[n]? =C (a,d))(h:∀j xs,cN g s.heap.get? β a d (.iQ j xs)->At X g c β st s (f (j,xs)) W cD):At X g c β st s ((MI.fR k n O.v7).bind f) W cD:=
 .fR H aV λo x q r=>by
  induction o using MI.O.casesOn with
  |iQ j xs=>(obtain J:=aT q;clear q;subst J);exact h j xs r
  |_=>exact bK q
theorem gy{a:aQ}(h:(none:Option aQ)=C a):P:=nomatch h
theorem Q9(h:ai=ae):P:=nomatch h
theorem oU{p:List (ag×V)×Option (List ag)}(h:o.i_=C p):o=.dict p.1 p.2:=by
 induction o using MI.O.casesOn with
 |dict au op=>exact c0 h▸rfl
 |_=>exact gy h
theorem ace(h:o.Di=ae):o=.dict [] none:=cF h λq e h=>by exact G (oU e) (G (Ej.mp (bS h)) (G (nO.mp (bC h)) rfl))
theorem C9{x:Option (Bool×O)}(h:newD x=ae):x=C (ae,.dict [] (C [])):=cF h λp e h=>cF (bC h) λq bf af=>cF (bC af) λl cC aJ=>by obtain(⟨b,o⟩):=p;exact G e (G (show b=ae from bS h) (G (show o=_ from oU bf) (G (Ej.mp (bS af)) (G cC (G (Ej.mp aJ) rfl)))))
theorem acf{x:Option (Bool×O)}(h:Ra x=ae):x=C (ae,.dict [] none):=cF h λp e h=>cF (bC h) λq bf af=>by obtain(⟨b,o⟩):=p;exact G e (G (show b=ae from bS h) (G (show o=_ from oU bf) (G (Ej.mp (bS af)) (G (nO.mp (bC af)) rfl))))
theorem O.Yw(h:o.qh=ae):o=.gone:=by
 induction o using O.casesOn with
 |gone=>rfl
 |_=>exact Q9 h
theorem OY{x:Option (Bool×O)}(h:Hw x=ae):x=C (ai,.gone):=cF h λp e h=>by obtain(⟨b,o⟩):=p;exact G e (G (show b=ai from by obtain this:=bS h;clear h e;induction b using bV with|true=>exact c8 this|false=>rfl) (G (show o=_ from O.Yw (bC h)) rfl))
theorem aan{p:Nat×Nat}(h:o.PQ=C p):o=.itR p.1 p.2:=by
 induction o using O.casesOn with
 |itR=>exact c0 h▸rfl
 |_=>exact gy h
theorem PO{x:Option (Bool×O)}{m:Nat}(h:IC x m=ae):x=C (ae,.itR 0 m):=cF h λp e h=>cF (bC h) λq bf af=>by obtain(⟨b,o⟩):=p;exact G e (G (show b=ae from bS h) (G (show o=_ from aan bf) (G (d0 (bS af)) (G (d0 (bC af)) rfl))))
theorem ub{o:Out aQ}{p:aQ×St}(h:o.r3=C p):o=.ok p.1 p.2:=by
 induction o using Out.casesOn with
 |ok=>exact c0 h▸rfl
 |_=>exact gy h
theorem XJ{o:Out aQ}{p:St}(h:o.Ol=C p):o=.ex p:=by
 induction o using Out.casesOn with
 |ex=>exact c0 h▸rfl
 |_=>exact gy h
theorem abT{f:dj}(h:f.Q4=ae):f=.next:=by
 induction f using dj.casesOn with
 |next=>rfl
 |_=>exact Q9 h
theorem R0{f:dj}{v:V}(h:f.ud=C v):f=.ret v:=by
 induction f using dj.casesOn with
 |ret=>exact c0 h▸rfl
 |_=>exact gy h
theorem VJ{v:aB}(h:MV v=C b):v=.bool b:=w4 h λay q=>
 Li (motive:=λo=>∀ay,Li (motive:=λI=>Option Bool) o ay C=C b->o=.bool b) v ay (λI I q=>by(obtain J:=aT q;clear q;(clear q h;subst J));rfl) ay q
theorem Iq{p:Nat×Nat}(h:o.tV=C p):o=.jx p.1 p.2:=by
 induction o using MI.O.casesOn with
 |jx n j=>exact c0 h▸rfl
 |_=>exact gy h
theorem aac{p:az×List (aM×V)}(h:o.rU=C p):o=.inst p.1 p.2:=by
 induction o using MI.O.casesOn with
 |inst U dH=>exact c0 h▸rfl
 |_=>exact gy h
theorem Qo{p:List V}(h:o.kH=C p):o=.list p:=by
 induction o using MI.O.casesOn with
 |list xs=>exact c0 h▸rfl
 |_=>exact gy h
theorem afW{p:List V}(h:o.SK=C p):o=.tup p:=by
 induction o using MI.O.casesOn with
 |tup xs=>exact c0 h▸rfl
 |_=>exact gy h
theorem abi{p:Nat×List V}(h:o.v7=C p):o=.iQ p.1 p.2:=by
 induction o using MI.O.casesOn with
 |iQ k xs=>exact c0 h▸rfl
 |_=>exact gy h
theorem VT{p:Option V}(h:o.rC=C p):o=.cell p:=by
 induction o using MI.O.casesOn with
 |cell v=>exact c0 h▸rfl
 |_=>exact gy h
theorem qw{v:V}{e:bo}(h:v.aE=C e):v=.i e:=by
 induction v using MI.V.casesOn with
 |i e=>exact congrArg _ (c0 h)
 |_=>exact gy h
theorem z_{v:V}{e:ag}(h:v.cn=C e):v=.s e:=by
 induction v using MI.V.casesOn with
 |s e=>exact congrArg _ (c0 h)
 |_=>exact gy h
theorem yg{v:V}{e:aB}(h:v.aj=C e):v=.c e:=by
 induction v using MI.V.casesOn with
 |c e=>exact congrArg _ (c0 h)
 |_=>exact gy h
theorem CH{v:aB}(h:y6 v=ae):v=.none:=by
 induction v using lJ with
 |none=>rfl
 |_=>exact c8 h
theorem PM{v:V}(h:IA v=ae):v=.c .none:=by
 induction v using MI.V.casesOn with
 |c v=>exact G (CH h) rfl
 |_=>exact c8 h
theorem CI{v:aB}(h:isRef n v=ae):v=.ref n:=by
 induction v using lJ with
 |ref a=>exact G (d0 h) rfl
 |_=>exact c8 h
theorem we(h:nat? z=C n):z=.ofNat n:=by
 induction z using LI with
 |ofNat n=>exact congrArg _ (c0 h)
 |_=>exact gy h
theorem tZ{e:bo}(h:litOf e=C z):e=.lit z:=by
 induction e using MI.bo.casesOn with
 |lit e=>exact congrArg _ (c0 h)
 |_=>exact gy h
theorem pf{v:V}(h:pe v=C n):v=.i (.lit (.ofNat n)):=cu h λe a1 h=>cu h λz a2 h=>by(refine G (qw a1) (G (tZ a2) (G (we h) ?_));with_reducible rfl)
theorem xY{e:bo}{p:Nat×Nat}(h:va e=C p):e=.aL (.ofNat p.1) ai p.2:=by
 induction e using MI.bo.casesOn with
 |lit=>exact gy h
 |aL z neg u=>
  induction neg using bV with
  |true=>exact gy h
  |false=>
   induction z using LI with
   |ofNat=>exact c0 h▸rfl
   |negSucc=>exact gy h
theorem Mx{v:V}{p:Nat×Nat}(h:Bg v=C p):v=.i (.aL (.ofNat p.1) ai p.2):=cu h λI a1 h=>xY h▸qw a1
theorem SI{v:aB}{l:List aB}(h:tupK K v=C l)(k:∀a o g6 n,v=.ref a->K.lookup a=C o->o.cls=.type "tuple"->o.data=.seq g6 n->l=g6.toList->P):P:=by
 induction v using lJ with
 |ref a=>
  refine cu h λo a1 h=>?_;unfold SJ at h;generalize a9:o.cls=aF;induction aF using lJ with
  |type t=>
   rw[a9] at h;generalize bf:o.data=aF;induction aF using Au with
   |seq g6 n=>
    rw[bf] at h;generalize cC:(t=="tuple")=aF;induction aF using bV with
    |true=>dsimp only at h;rw[cC] at h;(obtain J:=aT h;clear h;(clear h;subst J));exact k a o g6 n rfl (zm a1) (G a9 (G (beq_iff_eq.mp cC) rfl)) bf rfl
    |false=>dsimp only at h;rw[cC] at h;exact bK h
   |_=>rw[bf] at h;exact bK h
  |_=>rw[a9] at h;exact bK h
 |_=>exact bK h
theorem ti{f:e.ctorIdx=k->Option aQ}{y:aQ}(h:qb k e f=C y)(q:∀h,f h=C y->P):P:=by
 unfold qb at h;split at h
 .exact q _ h
 .exact bK h
theorem l4{w:aM×cq}(h:kJ e=C w):e=.Name w.1 w.2:=ti h λay q=>
 KJ (motive_1:=λe=>∀ay,KJ (motive_1:=λI=>Option (aM×cq)) e ay (λx p=>C (x,p))=C w->e=.Name w.1 w.2) e ay (λI I I q=>by(obtain J:=aT q;clear q;(clear q h;subst J));rfl) ay q
theorem FN{w:bk×aM×cq}(h:vf e=C w):e=.Attribute w.1 w.2.1 w.2.2:=ti h λay q=>
 KA (motive_1:=λe=>∀ay,KA (motive_1:=λI=>Option (bk×aM×cq)) e ay (λo x p=>C (o,x,p))=C w->e=.Attribute w.1 w.2.1 w.2.2) e ay (λI I I I q=>by(obtain J:=aT q;clear q;(clear q h;subst J));rfl) ay q
theorem Vn(h:vf e=none)(o:bk)(x:aM)(p:cq)(q:e=.Attribute o x p):False:=by subst q;exact nomatch(show C (o,x,p)=none from h)
theorem V7{w:bk×List oE×List bk×cq}(h:Nr e=C w):e=.Compare w.1 w.2.1 w.2.2.1 w.2.2.2:=ti h λay q=>
 KD (motive_1:=λe=>∀ay,KD (motive_1:=λI=>Option (bk×List oE×List bk×cq)) e ay (λo x r p=>C (o,x,r,p))=C w->e=.Compare w.1 w.2.1 w.2.2.1 w.2.2.2) e ay (λI I I I I q=>by(obtain J:=aT q;clear q;(clear q h;subst J));rfl) ay q
theorem M3{w:bk×List bk×List Keyword×cq}(h:Bs e=C w):e=.Call w.1 w.2.1 w.2.2.1 w.2.2.2:=ti h λay q=>
 KL (motive_1:=λe=>∀ay,KL (motive_1:=λI=>Option (bk×List bk×List Keyword×cq)) e ay (λo x r p=>C (o,x,r,p))=C w->e=.Call w.1 w.2.1 w.2.2.1 w.2.2.2) e ay (λI I I I I q=>by(obtain J:=aT q;clear q;(clear q h;subst J));rfl) ay q
theorem Nx{w:Const×Nat×cq}(h:yc e=C w):e=.Constant w.1 w.2.1 w.2.2:=ti h λay q=>
 KC (motive_1:=λe=>∀ay,KC (motive_1:=λI=>Option (Const×Nat×cq)) e ay (λo x p=>C (o,x,p))=C w->e=.Constant w.1 w.2.1 w.2.2) e ay (λI I I I q=>by(obtain J:=aT q;clear q;(clear q h;subst J));rfl) ay q
theorem afV{w:List bk×Nat×cq}(h:DW e=C w):e=.Tuple w.1 w.2.1 w.2.2:=ti h λay q=>
 KG (motive_1:=λe=>∀ay,KG (motive_1:=λI=>Option (List bk×Nat×cq)) e ay (λo x p=>C (o,x,p))=C w->e=.Tuple w.1 w.2.1 w.2.2) e ay (λI I I I q=>by(obtain J:=aT q;clear q;(clear q h;subst J));rfl) ay q
theorem aff{w:Option bk×Option bk×Option bk×cq}(h:DR e=C w):e=.Slice w.1 w.2.1 w.2.2.1 w.2.2.2:=ti h λay q=>
 KH (motive_1:=λe=>∀ay,KH (motive_1:=λI=>Option (Option bk×Option bk×Option bk×cq)) e ay (λo x r p=>C (o,x,r,p))=C w->e=.Slice w.1 w.2.1 w.2.2.1 w.2.2.2) e ay (λI I I I I q=>by(obtain J:=aT q;clear q;(clear q h;subst J));rfl) ay q
theorem lu{l:List aQ}{x:aQ}(h:iD l=C x):l=[x]:=by
 induction l using eo with
 |nil=>exact bK h
 |cons y l=>
  induction l using eo with
  |nil=>exact congrArg (λz=>[z]) (c0 h)
  |cons _ _=>exact bK h
theorem um{l:List aQ}{w:aQ×aQ}(h:oy l=C w):l=[w.1,w.2]:=by
 induction l using eo with
 |nil=>exact bK h
 |cons x r=>
  generalize q:iD r=aF;induction aF using b1 with
  |none=>rw[oy,q] at h;exact bK h
  |some y=>rw[oy,q] at h;(obtain J:=aT h;clear h;subst J);exact G (lu q) rfl
theorem lq{l:List aQ}(h:kK l=C u):l=[]:=by
 induction l using eo with
 |nil=>rfl
 |cons=>exact bK h
theorem Xh{o:oE}(h:eq1 o=C u):o=.Eq:=by cases o<;>first|rfl|exact bK h
theorem aad{k:Const}(h:PJ k=C z):k=.int z:=by cases k<;>cases h<;>rfl
theorem afo{t b o:bk}{w:aM×aM×aM×aM×aM×aM×aM}(h:DT t b o=C w)
  (k:∀hl df dx fP iV iW kN jS ki ot z gU,t=.Compare (.Name w.1 hl) [.Eq] [.Constant (.int z) gU df] dx->b=.Attribute (.Name w.2.1 fP) w.2.2.1 iV->o=.Call (.Name w.2.2.2.1 iW) [.Attribute (.Name w.2.2.2.2.1 kN) w.2.2.2.2.2.1 jS,.Name w.2.2.2.2.2.2 ki] [] ot->P):P:=
 cu h λc a1 h=>cu h λn a2 h=>cu h λI cm h=>cu h λI c_ h=>cu h λI dR h=>cu h λfg fe h=>cu h λz iq h=>cu h λa kz h=>cu h λa9 Fz h=>cu h λq Ft h=>cu h λf Fu h=>cu h λI Fv h=>cu h λI Fw h=>cu h λU5 Fx h=>cu h λbf Fy h=>cu h λdY U4 h=>by(obtain J:=aT h;clear h;(clear h;subst J));exact k n.2 fg.2.2 c.2.2.2 a9.2 a.2.2 f.2 bf.2 U5.2.2 dY.2 q.2.2.2 z fg.2.1 (G (V7 a1) (G (l4 a2) (G (lu cm) (G (Xh c_) (G (lu dR) (G (Nx fe) (G (aad iq) rfl))))))) (G (FN kz) (G (l4 Fz) rfl)) (G (M3 Ft) (G (l4 Fu) (G (um Fv) (G (lq Fw) (G (FN Fx) (G (l4 Fy) (G (l4 U4) rfl)))))))
theorem bH.le(h:bH X g c β m W R)(iA:β.le av):bH X g c av m W R:=λaW st s aa af=>h aW st s (iA.trans aa) af
theorem bH.of(h:bH X g c β m W R)(k:∀Q E s,W Q E s->mm Q E s):bH X g c β m mm R:=λaW st s aa af=>(h aW st s aa af).of λQ E=>k Q E s
theorem bH.imp(h:bH X g c β m W R)(k:∀av v a,β.le av->R av v a->hV av v a):bH X g c β m W hV:=λaW st s aa af=>(h aW st s aa af).imp λav v a l r=>k _ _ _ (aa.trans l) r
theorem bH.pure{v:aQ}{a:ah}(h:∀av,β.le av->R av v a):bH X g c β (M.pure v) (λQ I s=>Q a s) R:=
 λaW st s aa af=>.ret λQ E aq=>aq a s aW (.refl _) af (h aW aa)
theorem bH.fail:bH X g c β (MI.fail n:M aQ) W R:=λI I I I I=>trivial
theorem bH.asks{x:Option aQ}{f:aQ->M d8}{W:Wp ej}{cD:aZ->d8->ej->Prop}(h:∀v,x=C v->bH X g c β (f v) W cD):bH X g c β ((MI.bq n x).bind f) W cD:=λaW st s aa af=>.bq λv q=>h v q aW st s aa af
theorem bH.bind{f:aQ->M d8}{k:ah->Wp ej}{cD:aZ->d8->ej->Prop}(h:bH X g c β m W R)(aw:∀av v a,β.le av->R av v a->bH X g c av (f v) (k a) cD):
  bH X g c β (m.bind f) (λQ E s=>W (λa bg=>k a Q E bg) E s) cD:=λaW st s aa af=>(h aW st s aa af).bind λav v a bp ao l r S=>aw av v a (aa.trans l) r av bp ao (.refl _) S
end
structure cc(c:bc)(ab:cK)(env:hB)(β:aZ):Prop where
 scope:env.scope=ab.scope
 kind:env.scope.kind=.function
 glob:env.globals=ik
 blt:env.builtins=nK
 loc:env.locals=c.L
 cells:∀x n,k3 x ab.cells=C n->∃a d,env.cells.lookup x=C a/\β.ad[n]? =C (a,d)
 frame:∃e rest,c.fr=e::rest/\env.frame=e.frame
 apart:c.Apart
variable{env:hB}
theorem cc.le{c:bc}{ab:cK}(V:cc c ab env β)(h:β.le av):cc c ab env av:=
 ⟨V.scope,V.kind,V.glob,V.blt,V.loc,λx n e=>(cA (V.cells x n e) λa d p q=>(gi a d p (a4 h.ad q))),V.frame,V.apart⟩
theorem cc.kindOf{c:bc}{ab:cK}(V:cc c ab env β)(x:aM):env.kindOf x=g7 x ab.scope.names:=by refine G (vX _ _) ?_;unfold Env.kindOf;exact G V.scope rfl
noncomputable abbrev ag3(β:aZ)(v:V)(x:aB):Prop:=a7 β v x
noncomputable abbrev dN(g:cz)(c:bc)(t:hC aB):Wp Value:=λQ E s=>a5 g.M c.A t Q E s
theorem ac0(h:DB x=ae):(x==("__debug__":aM))=false:=by refine gN beq_eq_false_iff_ne ?_;rintro rfl;exact absurd h (aS (by kernel_rfl))
theorem ac1(h:DB x=ae):x≠"__name__":=by rintro rfl;exact absurd h (aS (by kernel_rfl))
theorem acZ(h:DB x=ae):(x==("__classdict__":aM))=false:=by refine gN beq_eq_false_iff_ne ?_;rintro rfl;exact absurd h (aS (by kernel_rfl))
theorem VK{v:aB}(h:Gg x=C v):AI x=C v:=by
 unfold Gg at h;split at h
 .rename_i q;refine G (gr.mp q) ?_;(obtain J:=aT h;clear h;subst J);exact Boot.«len»
 .split at h
  .rename_i q;refine G (gr.mp q) ?_;(obtain J:=aT h;clear h;subst J);exact Boot.«range»
  .split at h
   .rename_i q;refine G (gr.mp q) ?_;(obtain J:=aT h;clear h;subst J);exact Boot.«str»
   .split at h
    .rename_i q;refine G (gr.mp q) ?_;(obtain J:=aT h;clear h;subst J);exact Boot.«list»
    .exact bK h
theorem Jv(β:aZ):∀v:aB,a7 β (wu v) v:=by
 intro v;induction v using lJ with
 |int i t=>exact⟨i,t,rfl,rfl⟩
 |str x t=>exact⟨cs x,t,ag.eP.mpr (d2 _ [] rfl rfl (by simp)),by exact G (hk _) rfl⟩
 |_=>rfl
section
variable{c:bc}{ab:cK}
theorem OV(V:cc c ab env β){st:St}{s:aN}(H:Sat g c st β s)(aw:g7 x ab.scope.names=C .local):At X g c β st s (tC x) (λQ E s=>a5 g.M c.A (loadName env x) Q E s) a7:=by
 refine aU H.loc λm hm aX=>?_;generalize q:eh x st.loc=aF;induction aF using b1 with
 |none=>exact .o6 (n:=3) (by unfold tC;exact G q rfl)
 |some v=>
  exact .is (v:=v) (by unfold tC;exact G q rfl) λQ E aq=>
   let⟨y,bT,r⟩:=aX x v q
   hS V.kind (G (V.kindOf _) (G aw rfl)) (G V.loc hm) bT (aq y s β (.refl _) H r)
theorem Gj(V:cc c ab env β){st:St}{s:aN}(H:Sat g c st β s){W:Wp aB}(h:∀(Q:aB->aN->Prop)(E:aB->aN->Prop) a y,env.cells.lookup x=C a->(∃o,s.heap.get? a=C o/\o.data=.cell (C y))->Q y s->W Q E s):At X g c β st s (cellGet ab x) W a7:=
 .bq λn aO=>
  let⟨a,d,af,aJ⟩:=V.cells x n aO
  .rC H aJ λv o y I bl cQ eT=>.om λu q=>.ret λQ E aq=>by subst q;(refine aU eT λjY e r=>?_;try clear eT);subst e;exact h Q E a jY af (bh o bl cQ) (aq jY s β (.refl _) H r)
theorem tm(O:g.Ok)(U:c.Ok g dep)(V:cc c ab env β)(x:aM)(pos:cq):bH X g c β (ng g.K ab x) (dN g c (dM (.Name x pos) env)) a7:=λaW st s aa H=>.guard λb7=>.bq λk aw=>by
 have V:=V.le aa;have hd:=ac0 b7;induction k using sJ with
 |«local»=>exact(OV V H aw).of λQ E k=>hE k hd
 |cell=>exact Gj V H λQ E a y af bl cQ=>hE (wpAny_loadName_cell V.kind (G (V.kindOf _) (G aw rfl)) af bl cQ) hd
 |free=>exact Gj V H λQ E a y af bl cQ=>hE (wpAny_loadName_free V.kind (G (V.kindOf _) (G aw rfl)) af bl cQ (acZ b7)) hd
 |globalImplicit=>
  have T:=H.toSatO.top U O;have K:=H.toSatO.fl U O;refine .bq λv bJ=>?_;rw[Dl] at bJ;induction v using b1 with
  |some v=>exact .ret λQ E aq=>mb V.kind (G (V.kindOf _) (G aw rfl)) (uC (G V.glob T.g) (mg_of K T.g bJ) (aq v s aW (.refl _) H (Jv _ _))) hd
  |none=>exact .bq λv aD=>.ret λQ E aq=>mb V.kind (G (V.kindOf _) (G aw rfl)) (uy (G V.glob T.g) (uN K T.g bJ) (G V.blt T.b) ((T.builtins x (ac1 b7)).trans (VK aD)) (aq v s aW (.refl _) H rfl)) hd
 |_=>exact .fail
theorem qN(O:g.Ok)(U:c.Ok g dep)(V:cc c ab env β)(x:aM){v:MI.V}(r:a7 β v y):bH X g c β (jf ab x v) (λQ E s=>a5 g.M c.A (EL env x y) Q E s) (λI I I=>True):=λaW st s aa H=>.bq λk aw=>by
 have V:=V.le aa;induction k using sJ with
 |«local»=>refine aU H.loc λm hm aX=>?_;unfold At Sf;intro Q E aq;refine Ar (G (V.kindOf _) (G aw rfl)) (G V.loc hm) (λay aO bM=>?_) (G V.kind rfl);rw[V.loc] at aO bM;exact aq () _ aW (.refl _) (Sat.local U V.apart H bM.extBut hm aX aO (r.le aa)) trivial
 |cell=>
  refine .bq λn aO=>cA (V.cells x n aO) λa d af aJ=>.rC H aJ λah6 f_ agR e bl cQ I=>.z8 λgs aO bM Q E aq=>?_;subst e;exact wpAny_storeName_cell V.kind (G (V.kindOf _) (G aw rfl)) af ⟨f_,bl,cQ⟩ λay bb aD=>
   let⟨kM,HE,rM⟩:=bb
   aq () _ aW (.refl _) (H.turn (t:=s.toks) aO bM aJ (.inl rfl) aD.extBut ⟨rfl,kM,_,HE,rM,_,rfl,r.le aa⟩ rfl) trivial
 |_=>exact .fail
theorem Ny(mv:Const)(k:Nat)(pos:cq):bH X g c β (bq 140 (Gy mv)) (dN g c (dM (.Constant mv k pos) env)) a7:=by
 intro aW st s aa H;refine .om λv bJ=>.ret λQ E aq=>?_;cases mv with
 |none=>(obtain J:=aT bJ;clear bJ;subst J);exact wpAny_Constant_none (aq _ s aW (.refl _) H rfl)
 |bool b=>(obtain J:=aT bJ;clear bJ;subst J);exact wpAny_Constant_bool (aq _ s aW (.refl _) H rfl)
 |int i=>(obtain J:=aT bJ;clear bJ;subst J);exact nQ (aq _ _ aW (.refl _) H.toks ⟨i,_,rfl,rfl⟩)
 |str x=>(obtain J:=aT bJ;clear bJ;subst J);exact xd (aq _ _ aW (.refl _) H.toks ⟨cs x,_,ag.eP.mpr (d2 _ [] rfl rfl (by simp)),by exact G (hk _) rfl⟩)
 |_=>exact bK bJ
end
theorem IB(y x:aM)(t:Tok):(EF y t).isStr x=eqs y x:=by show(y==x)=_;(refine gN xi ?_;rewrite[gr,beq_iff_eq];with_reducible rfl)
variable{dH:List (aM×V)}
section
set_option smartUnfolding false in
theorem Yq{au:List hT}{v:V}(R:bL (m2 β) dH au)(h:eh x dH=C v):∃y,getL x au=C (C y)/\a7 β v y:=by
 induction R with
 |nil=>exact bK h
 |@cons f e dH au r t bj=>
  (refine a3 r λJ bJ=>?_;try clear r;refine bG J λcX aw=>?_;try clear J);replace h:(match eqs f.1 x with|true=>C f.2|false=>eh x dH)=C v:=h;unfold getL;(refine G AE ?_;refine G aw (G (IB _ _ _) ?_));generalize q:eqs f.1 x=aF;induction aF using bV with
  |true=>rw[q] at h;(obtain J:=aT h;clear h;(clear bj;subst J));exact(bh _ rfl bJ)
  |false=>
   rw[q] at h;refine aU (bj h) λy bT r=>(bh y ?_ r);unfold getL at bT;dsimp only;generalize z:au.find? (·.key.isStr x)=aF;induction aF using b1 with
   |some cf=>rw[z] at bT;exact bT
   |none=>rw[z] at bT;dsimp only at bT;split at bT<;>cases bT
theorem OU{x:aM}{dH:List (aM×V)}{au:List hT}(R:bL (m2 β) dH au):au.any (·.refKey)=false:=by
 induction R with
 |nil=>rfl
 |cons r t bj=>(refine a3 r λJ I=>?_;try clear r;refine bG J λcX aw=>?_;try clear J);(refine G Et (G bj (G (Bool.or_false _) ?_)));unfold DictEntry.refKey;exact G aw rfl
set_option smartUnfolding false in
theorem Yo{au:List hT}(R:bL (m2 β) dH au)(h:eh x dH=none):au.find? (·.key.isStr x)=none:=by
 induction R with
 |nil=>rfl
 |@cons f e dH au r t bj=>
  (refine a3 r λJ bJ=>?_;try clear r;refine bG J λcX aw=>?_;try clear J);replace h:(match eqs f.1 x with|true=>C f.2|false=>eh x dH)=none:=h;(refine G AE ?_;refine G aw (G (IB _ _ _) ?_));generalize q:eqs f.1 x=aF;induction aF using bV with
  |true=>rw[q] at h;exact wJ h
  |false=>rw[q] at h;exact bj h
theorem Yp{au:List hT}(h:bL (m2 β) dH au)(q:eh x dH=none):getL x au=C none:=by unfold getL;refine G (Yo h q) ?_;dsimp only;exact G (OU (x:=x) h) rfl
set_option smartUnfolding false in
theorem ac9{v:V}{bM:Int}{t:Tok}(r:a7 β v y){au:List hT}(R:bL (m2 β) dH au):bL (m2 β) (ov x v dH) (putL x bM (.str x t) y au):=by
 induction R with
 |nil=>exact .cons ⟨⟨t,rfl⟩,r⟩ .nil
 |@cons f e dH au q u bj=>
  (refine a3 q λJ bJ=>?_;try clear q;refine bG J λcX aw=>?_;try clear J);show bL _ (match eqs f.1 x with|true=>(f.1,v)::dH|false=>f::ov x v dH) (if e.key.isStr x then⟨e.hash,e.key,y⟩::au else e::putL x bM (.str x t) y au);(refine G aw (G (IB _ _ _) (G (bW aw) ?_)));generalize q:eqs f.1 x=aF;clear q;induction aF using bV with
  |true=>exact .cons ⟨⟨cX,aw⟩,r⟩ u
  |false=>exact .cons ⟨⟨cX,aw⟩,bJ⟩ bj
theorem RO(x:aM)(bM:Int)(k y:aB):∀au:List hT,(putL x bM k y au).length<=au.length+1
 |[]=>dP _
 |e::au=>by
  show(if e.key.isStr x then _ else _:List hT).length<=_;split
  .simp
  .obtain this:=RO x bM k y au;simp;exact this
end
section
end
theorem YS{v:V}(h:Rf v=ae)(r:a7 β v y):handedIn y=true:=by
 induction v using MI.V.casesOn with
 |c v=>obtain rfl:=r;cases y<;>first|rfl|exact c8 h
 |i e=>(refine cA r λz t I J=>?_;try clear r;subst J);rfl
 |s e=>(refine cA r λz t I J=>?_;try clear r;subst J);rfl
 |r n=>(refine cA r λz t I J=>?_;try clear r;subst J);rfl
 |u=>exact c8 h
theorem CD{a:az}{au:List hT}(aa:h.get? a=C (uQ U d))(af:h.get? d=C (dictOf au n)):InstAt h a (uQ U d) U (C (dictOf au n)):=⟨aa,rfl,rfl,af⟩
variable{prog:q5}{w:World}{A:oC}{R:Result->aN->Prop}{cX:Tok}
section
variable{s:aN}
theorem acJ{x:az}{name:aM}{v:aB}{au:List hT}(X:K.In s.heap)(Y:E0 K U)(aa:s.heap.get? x=C (uQ U d))(af:s.heap.get? d=C (dictOf au n))
  (ff:ko K (.ref U) name=C none)(aw:au.any (·.refKey)=ai)(a8:au.length<=2000)
  (h:∀ay,ay.get? d=C (dictOf (putL name (Ep w.params name) (.str name s.toks) v au) (putN name au n))->qW d s.heap ay->R (.ok (.ret .none)) {s with heap:=ay,toks:=s.toks+1}):
  ft (c9 prog w) A (.call (.builtin "object.__setattr__") ⟨[.ref x,.str name cX,v],[]⟩) R s:=by
 refine osa_open X (CD aa af) Y.po (r:=none) (by unfold takerIn;exact G ff rfl) λb=>?_;refine aU (any_some Y.hd) λcd bb lY=>?_;have I:(s.heap.update d (Obj.putName name (Ep w.params name) (.str name s.toks) v)).get? d=C (dictOf (putL name (Ep w.params name) (.str name s.toks) v au) (putN name au n)):=by rw[<-putName_dict];exact Ec _ af (by rw[putName_dict];rfl)
 refine b3 (d3 (b3 (b3 (LF aa (b3 ((looks_clsIn X bb).here (G lY (d3 (a:=C d) (b3 (d3 (b3 ?_)))))))))));unfold nsSet;refine b3 (b3 (wpAny_askSetting (d3 (b3 (wpAny_mkText (b3 (LF af ?_)))))));dsimp only;(refine G (aRefKeyMayBeTheName_at _ _) (G List.any_toArray (G List.any_toArray (G aw (G (Bool.and_false _) ?_)))));refine wpAny_updatePart af (b3 (Lv I (Lw (by(refine G List.size_toArray (G ku ?_));obtain this:=RO name (Ep w.params name) (.str name s.toks) v au;lia)) ?_));exact d3 (h _ I (Ed ..))
end
section
variable{c:bc}{ab:cK}
theorem Hs(O:g.Ok)(U:c.Ok g dep){v:V}(r:a7 β v y)(x:aM)(ex:Bool):bH X g c β (rI g.K v x) (dN g c (getAttr y x ex)) a7:=λaW st s aa H=>
 .dv (W:=λy=>dN g c (getAttr y x ex)) (r.le aa) λn a d aV=>.rU H aV λCl dH au m I af aJ bl=>.guard λq=>.bq λu cy=>.guard λaD=>.ret λQ E aq=>
  have A:=MJ q;let⟨y,bT,r⟩:=Yq bl cy
  get_value (H.toSatO.fl U O) (CD af aJ) A.2.ga (findObj_own A.2.hd A.1 rfl ((lookIn_dict ..).trans bT)) (YS aD r) (aq y _ aW (.refl _) H.toks r)
theorem Sb(O:g.Ok)(U:c.Ok g dep){v u:V}{z:aB}(r:a7 β v y)(x:aM)(q:a7 β u z):bH X g c β (setAt g.K v x u) (λQ E s=>a5 g.M c.A (xt y x z) Q E s) (λI I I=>True):=λaW st s aa H=>
 .dv (W:=λy=>λQ E s=>a5 g.M c.A (xt y x z) Q E s) (r.le aa) λn a d aV=>.rU H aV λCl dH au m ne af aJ bl=>.guard λp=>.z8 λgs aO bM Q E aq=>
  have P:=(ew _ _).mp p;have A:=MJ P.1
  set_plain (H.toSatO.fl U O) (CD af aJ) A.2.r_ (acJ (s:={s with toks:=s.toks+1}) (H.toSatO.fl U O) A.2 af aJ A.1 (OU (x:=x) bl) (by obtain this:=bl.length;obtain b8:dH.length<1000:=bA P.2;lia) λay g1 g2=>
   aq () _ aW (.refl _) (H.turn (t:=s.toks+1+1) aO bM aV (.inr rfl) g2.extBut ⟨ne,_,_,(g2.2 a ne).trans af,g1,ac9 (q.le aa) bl⟩ rfl) trivial)
end
theorem X8(x y:bB):(!(TB (aR x) (aR y) 0 (aR x).length 1).isEmpty)=ae↔y<:+:x:=by
 rw[StrLaws.found_iff];have aX:∀z:bB,(aR z).length=z.length:=λz=>by simp[aR,Str.length]
 constructor
 .rintro ⟨i,aa,af⟩;rw[StrLaws.subAt_eq,beq_iff_eq,aX] at af;replace af:(x.drop i).take y.length=y:=af;refine⟨x.take i,(x.drop i).drop y.length,?_⟩;(refine G (bW af) (G (nR _ _ _) ?_));refine G af ?_;obtain this:y++List.drop y.length (List.drop i x)=List.drop i x:=by obtain this:=q7 y.length (x.drop i);rw[af] at this;exact this
  (refine G this ?_;exact G (q7 _ _) rfl)
 .rintro ⟨a,b,rfl⟩;refine(bh a.length ?_ ?_)
  ·(refine G (aX _) (G (aX _) ?_));simp
  ·(refine G (StrLaws.subAt_eq _ _ _) (gN beq_iff_eq (G (aX _) ?_)));show((a++y++b).drop a.length).take y.length=y;exact G (nR _ _ _) (G List.drop_left (G List.take_left rfl))
theorem PK(x y:Int):(x==y)=decide (x=y):=by(refine gN xi ?_;rewrite[beq_iff_eq,decide_eq_true_iff];with_reducible rfl)
theorem C5(x y:bB):(aR x==aR y)=decide (x=y):=by(refine gN xi ?_;rewrite[beq_iff_eq,decide_eq_true_iff]);exact⟨oi,congrArg _⟩
noncomputable abbrev rf(g:cz)(c:bc)(op:oE)(x y:aB):Wp Value:=λQ E s=>a5 g.M c.A (EM op x y) Q E s
noncomputable def EZ(neg:Bool)(_:aZ)(b:Bool)(v:aB):Prop:=v=.bool (match neg with|true=>!b|false=>b)
noncomputable def BL(neg:Bool):CmpOp:=match neg with|true=>.NotEq|false=>.Eq
noncomputable def Iu(neg:Bool):CmpOp:=match neg with|true=>.NotIn|false=>.In
variable{xs:List V}{aH:List aB}{aW:aZ}{op:Option (List ag)}
section
variable{c:bc}{ab:cK}
theorem bc.Ok.line(U:c.Ok g dep):c.A.units+64<cLine:=by obtain aa:=U.units;obtain af:=U.dep;show c.A.units+64<9900;exact jk (j3 (bR aa (mc (K2 10 af) 30)) 64) (bA rfl)
theorem Vc{ar:List b6}(F:Facts S ar aC ns β){x:ag}{l:bB}(ak:x.val β=C l){r:Bool}(aV:vc xs=ae)(R:bL (a7 β) xs aH)(h:Bi ar aC (.s x) xs=C r):
  r=aH.any (λy=>match y with|.str z _=>z==aR l|_=>ai):=by
 induction R with
 |nil=>(obtain J:=aT h;clear h;subst J);rfl
 |@cons v y xs aH q t bj=>
  induction v using MI.V.casesOn with
  |s e=>
   (refine cA q λm cX hm J=>?_;try clear q;subst J);replace h:(match ag.eq ar aC 400 e x with|some true=>C ae|some false=>Bi ar aC (.s x) xs|none=>none)=C r:=h;refine G Et ?_;show r=((aR m==aR l)||_);refine G (C5 _ _) ?_;generalize q:ag.eq ar aC 400 e x=aF;induction aF using b1 with
   |none=>rw[q] at h;exact bK h
   |some b=>
    refine G (bW (ag.k4 F q hm ak)) ?_;rw[q] at h;clear q;induction b using bV with
    |true=>(obtain J:=aT h;clear h;(clear bj;subst J));rfl
    |false=>exact bj (show vc xs=ae from aV) h
  |_=>exact c8 aV
theorem Vd{s:aN}{t:Tok}(aV:vc xs=ae)(R:bL (a7 β) xs aH):∀y∈aH,EqAt A s y (.str x t) (match y with|.str z _=>z==x|_=>ai):=by
 induction R with
 |nil=>exact λI h=>nomatch h
 |@cons v y xs aH q r bj=>
  induction v using MI.V.casesOn with
  |s e=>
   (refine cA q λm cX hm J=>?_;try clear q;subst J);intro z h;cases(dh.mp h) with
   |inl e=>exact G e (EqAt.str_str _ _ _ _)
   |inr h=>exact bj (show vc xs=ae from aV) z h
  |_=>exact c8 aV
theorem abh{ar:List b6}(F:Facts S ar aC ns β){s:aN}{aH:List V}{us ws:Array aB}{r:Bool}(g2:bL (a7 β) xs us.toList)(eg:bL (a7 β) aH ws.toList)(cb:Qn ar aC xs aH=C r)
  (no:r=ai->(us.size !=ws.size)=ae->P)(yes:∀e:Nat->Bool,us.size=ws.size->(∀j(aa:j<us.size)(af:j<ws.size),EqAt A s us[j] ws[j] (e j))->r=(pH us.size).all e->P):P:=by
 obtain⟨ul⟩:=us;obtain⟨wl⟩:=ws;dsimp only at g2 eg;cases g2 with
 |nil=>
  (obtain J:=aT cb;clear cb;subst J);cases eg with
  |nil=>exact yes (λI=>ae) rfl (λj h=>absurd h (xk j)) rfl
  |cons=>exact no rfl rfl
 |cons q t=>
  cases eg with
  |nil=>(obtain J:=aT cb;clear cb;(clear yes;subst J));exact no rfl rfl
  |cons en dC=>
   exact cu cb λI a9 cb=>cu cb λI bf cb=>cu cb λa cC cb=>cu cb λb iM cb=>by
    cases lq a9;cases t;cases lq bf;cases dC;cases z_ cC;cases z_ iM;(refine cA q λl t aX J=>?_;try clear q;subst J);(refine cA en λa_ dC jw J=>?_;try clear en;(clear no;subst J));exact yes (λI=>r) rfl (λj aa af=>match j,aa,af with
     |0,_,_=>by(refine G (ag.k4 F cb aX jw) (G (bW (C5 _ _)) ?_));exact EqAt.str_str _ _ _ _
     |j+1,h,_=>absurd (TU h) (xk j)) (Lx r).symm
theorem Oe(U:c.Ok g dep){a b:V}{x:aB}(c2:a7 β a x)(dy:a7 β b y)(neg:Bool):bH X g c β (Hb g.K a b) (rf g c (BL neg) x y) (EZ neg):=by
 intro aW st s aa H;obtain c2:=c2.le aa;have dy:=dy.le aa;induction a using MI.V.casesOn with
 |i=>
  (refine cA c2 λz t a8 J=>?_;try clear c2;(clear c2;subst J));exact .aE (W:=λy=>rf g c (BL neg) (.int z t) y) dy λe gU dC g5=>.vQ λr cb=>.ret λQ E aq=>by
   have:=bo.k4 H.facts cb a8 g5;induction neg using bV with
   |false=>exact TJ (by(refine G (PK _ _) (G (bW this) ?_));exact aq _ s aW (.refl _) H rfl)
   |true=>exact PyProof.Rows.ne_int (by((rewrite[bne];refine G (PK _ _) ?_);refine G (bW this) ?_);exact aq _ s aW (.refl _) H rfl)
 |s=>
  (refine cA c2 λz t a8 J=>?_;try clear c2;(clear c2;subst J));exact .cn (W:=λy=>rf g c (BL neg) (.str (aR z) t) y) dy λe gU dC g5=>.vQ λr cb=>.ret λQ E aq=>by
   have:=ag.k4 H.facts cb a8 g5;induction neg using bV with
   |false=>exact PyProof.Rows.eq_str (by(refine G (C5 _ _) (G (bW this) ?_));exact aq _ s aW (.refl _) H rfl)
   |true=>exact PySem.P.ne_str (by((rewrite[bne];refine G (SeqAt.str_beq _ _) (G (C5 _ _) ?_));refine G (bW this) ?_);exact aq _ s aW (.refl _) H rfl)
 |r n=>
  (refine cA c2 λa1 eZ gH J=>?_;try clear c2;(clear c2;subst J));exact .dv (W:=λy=>rf g c (BL neg) (.ref a1) y) dy λm a2 hp oa=>.kH H gH λxs us k I g1 g2=>.kH H oa λaH ws eF I g3 eg=>.vQ λr cb=>.ret λQ E aq=>
   have fJ:s.heap.IsList a1 us:=⟨_,g1,rfl,k,rfl⟩;have fX:s.heap.IsList a2 ws:=⟨_,g3,rfl,eF,rfl⟩;have cy:c.A.units<cLine:=by obtain this:=U.line;exact jk (gu _ _) (by assumption)
   abh H.facts (A:=c.A.in1) (s:=s) g2 eg cb (λe h=>by
    (clear cb;subst e);induction neg using bV with
    |false=>exact eq_list_lengthsAt fJ fX h cy (aq _ s aW (.refl _) H rfl)
    |true=>exact Tw (RcNeAt.lists_lengths fJ fX h cy) (aq _ s aW (.refl _) H rfl)) λe h he cb=>by
    subst cb;induction neg using bV with
    |false=>exact eq_listAt fJ fX h cy he (aq _ s aW (.refl _) H rfl)
    |true=>exact Tw (RcNeAt.lists fJ fX h cy he) (aq _ s aW (.refl _) H rfl)
 |_=>exact .fail
theorem Iv{st:St}{s:aN}(H:Sat g c st aW s){x:ag}{l:bB}{t:Tok}(ak:x.val aW=C l){a:az}{aH:Array aB}(aX:s.heap.IsList a aH\/s.heap.IsTuple a aH)(R:bL (a7 aW) xs aH.toList)(neg:Bool):
  At X g c aW st s (among x xs) (rf g c (Iu neg) (.str (aR l) t) (.ref a)) (EZ neg):=by
 refine .guard λaV=>.vQ λr cb=>.ret λQ E aq=>?_;obtain aa:=Vc H.facts ak aV R cb;have af:∀y,y∈aH->EqAt c.A.in1 s y (.str (aR l) t) (match y with|.str z _=>z==aR l|_=>ai):=λy bT=>Vd aV R y (Array.mem_toList_iff.mpr bT);rw[Array.any_toList] at aa;(clear cb;subst aa);induction neg using bV with
 |false=>
  rcases aX with aX|aX
  .exact in_listAt _ aX af (aq _ s aW (.refl _) H rfl)
  .exact in_tupleAt _ aX af (aq _ s aW (.refl _) H rfl)
 |true=>
  rcases aX with aX|aX
  .exact notIn_listAt _ aX af (aq _ s aW (.refl _) H rfl)
  .exact notIn_tupleAt _ aX af (aq _ s aW (.refl _) H rfl)
theorem FD:∀aH:List aB,bL (a7 β) (aH.map wu) aH
 |[]=>.nil
 |y::aH=>.cons (Jv β y) (FD aH)
noncomputable def Found(β:aZ)(aA:List (aM×aB))(au:List (ag×V))(l:bB):Option (Nat×V)->Prop
 |some p=>(∃y,a0 aA (aR l)=C y/\a7 β p.2 y)/\∃e:ag×V,au[p.1]? =C e/\e.1.val β=C l/\e.2=p.2
 |none=>a0 aA (aR l)=none/\∀e:ag×V,e∈au->e.1.val β≠C l
set_option tactic.hygienic true in
theorem QA{ar:List b6}(F:Facts S ar aC ns β){k:ag}{l:bB}(aw:k.val β=C l)
  (aJ:kZ β aA au)
  {b:Option (List (aM×aB))}(cQ:Bd b β aA au op){r:Option (Nat×V)}(h:look ar aC k au op=C r):
  Found β aA au l r:=by
 have bJ:=aJ.vals;unfold look at h;generalize q:tv ar aC k 0 au=z at h;induction z using MI.xC.casesOn with
 |stuck=>exact bK h
 |«at» i v=>(obtain J:=aT h;clear h;subst J);obtain(⟨_,e,he,bl,eT⟩):=OE F aw bJ q;rw[Nat.sub_zero] at he;obtain(⟨m,y,hm,bT,r⟩):=aJ e (ma he);rw[eT] at hm;(obtain J:=aT hm;clear hm;subst J);(clear q;subst bl);exact⟨(bh y bT r),e,he,eT,rfl⟩
 |no=>
  obtain no:=OG F aw bJ q;have Dh:∀e:ag×V,e∈au->e.1.val β≠C l:=λe he z=>no e he l z rfl;induction op using b1 with
  |none=>
   (obtain J:=aT h;clear h;subst J);refine⟨?_,Dh⟩;generalize w:a0 aA (aR l)=aF;induction aF using b1 with
   |none=>rfl
   |some y=>refine aU (cQ (aR l) (by refine G w ?_;simp)) λe he z=>?_;exact absurd z (Dh e he)
  |some abs=>
   dsimp only at h;split at h
   .rename_i u;(obtain J:=aT h;clear h;subst J);obtain lg:∀e:ag,e∈abs->∃m,e.val β=C m:=λe he=>(aU (cQ.1 e he) λm h _=>⟨m,h⟩);refine aU (QL F aw lg u) λe he z=>aU (cQ.1 e he) λm hm y=>?_;rw[z] at hm;(obtain J:=aT hm;clear hm;subst J);exact⟨y.elim id λgd=>(by(refine aU gd λf hf q=>?_;try clear gd);exact absurd q (Dh f hf)),Dh⟩
   .exact bK h
theorem vo{a:az}{o:cj}(aa:h.get? a=C o)(af:o.IsDictOf (strKind g.prog g.w) aA):h.DictOf (strKind g.prog g.w) a aA:=sq.mpr (bh o aa af)
theorem nE(g:cz)(l:bB)(t:Tok):(strKind g.prog g.w).is (aR l) (.str (aR l) t)=true:=EH _ _ _ _
structure sQ(g:cz)(h:gj)(β:aZ)(a d:az)(au:List (ag×V))(op:Option (List ag))(aA:List (aM×aB)):Prop where
 ja:a=d
 ne:a≠kv
 D:h.DictOf (strKind g.prog g.w) a aA
 g3:kZ β aA au
 eg:au.Pairwise (λe f=>e.1.val β≠f.1.val β)
 gv:Bd (g.base a) β aA au op
 jb:aA.length<=au.length+qL g.S op
theorem sQ.of{a:az}(R:cN g h.get? β a d (.dict au op)):∃aA,sQ g h β a d au op aA:=by obtain(⟨a9,bf,_,aA,g1,g2,g3,eg,gv,jb⟩):=R;exact⟨aA,a9,bf,vo g1 g2,g3,eg,gv,jb⟩
theorem At.nd{st:St}{s:aN}{ah:Type}{e:ag}{l:bB}{a:az}{f:Option (Nat×V)->M aQ}{W:Wp ah}{R:aZ->aQ->ah->Prop}(H:Sat g c st β s)(D:sQ g s.heap β a d au op aA)(aX:e.val β=C l)
  (h:∀r,Found β aA au l r->At X g c β st s (f r) W R):At X g c β st s ((MI.nd k e (au,op)).bind f) W R:=.ib λr cb=>h r (QA H.facts aX D.g3 D.gv cb)
theorem At.vn{st:St}{s:aN}{ah:Type}{a:az}{f:List (ag×V)×Option (List ag)->M aQ}{W:Wp ah}{R:aZ->aQ->ah->Prop}(H:Sat g c st β s)(aV:β.ad[n]? =C (a,d))
  (h:∀au op aA,sQ g s.heap β a d au op aA->At X g c β st s (f (au,op)) W R):At X g c β st s ((MI.fR k n O.i_).bind f) W R:=.i_ H aV λau op R=>(sQ.of R).elim λaA D=>h au op aA D
theorem PG(O:g.Ok)(U:c.Ok g dep){a b:V}{x:aB}(c2:a7 β a x)(dy:a7 β b y)(neg:Bool):bH X g c β (It g.K a b) (rf g c (Iu neg) x y) (EZ neg):=λaW st s aa H=>
 .cn (W:=λx=>rf g c (Iu neg) x y) (c2.le aa) λe l t a8=>by
  obtain dy:=dy.le aa;induction b using MI.V.casesOn with
  |s=>
   (refine cA dy λm u g5 J=>?_;try clear dy;subst J);refine .bq λa_ aX=>.vQ λr cb=>.ret λQ E aq=>?_;rw[ag.v8 aX] at a8;cases(a8);have e:(!(TB (aR m) (aR l) 0 (aR m).length 1).isEmpty)=r:=by(refine gN xi ?_;rewrite[X8]);exact(ag.YU H.facts cb g5).symm
   induction neg using bV with
   |false=>exact PySem.P.in_str (G e (aq _ s aW (.refl _) H rfl))
   |true=>exact PySem.P.notIn_str (G e (aq _ s aW (.refl _) H rfl))
  |r n=>
   (refine cA dy λa2 hp oa J=>?_;try clear dy;subst J);refine .oh H oa λo R=>?_;generalize q:o.i_=aF;induction aF using b1 with
   |some p=>
    rw[oU q] at R;refine bG (sQ.of R) λaA D=>.nd H D a8 λr k=>.ret λQ E aq=>?_;have e:(a0 aA (aR l)).isSome=r.isSome:=by
     induction r using b1 with
     |none=>exact G k.1 rfl
     |some p=>exact aU k.1 λI bT I=>G bT rfl
    have ne:=beq_eq_false_iff_ne.mpr D.ne;induction neg using bV with
    |false=>exact wpAny_in_of (nE g l t) ne D.D.mapOf (G e (aq _ _ aW (.refl _) H.toks rfl))
    |true=>exact wpAny_notIn_of (nE g l t) ne D.D.mapOf (G e (aq _ _ aW (.refl _) H.toks rfl))
   |none=>
    refine .bq λxs q=>?_;induction o using MI.O.casesOn with
    |list xs=>(obtain J:=aT q;clear q;subst J);obtain(⟨_,us,k,g1,g2⟩):=R;exact Iv H a8 (.inl ⟨_,g1,rfl,k,rfl⟩) g2 neg
    |tup xs=>(obtain J:=aT q;clear q;subst J);obtain(⟨_,us,k,g1,g2⟩):=R;exact Iv H a8 (.inr ⟨_,g1,rfl,k,rfl⟩) g2 neg
    |_=>exact bK q
  |c v=>
   obtain rfl:=dy;exact .bq λl q=>SI q λa o g6 n a9 bf cC iM lV=>by(refine G a9 (G lV ?_));exact Iv H a8 (.inr ⟨_,H.toSatO.fl U O _ _ bf,cC,n,iM⟩) (FD _) neg
  |_=>exact .fail
end
variable{E:aB->aN->Prop}
section
variable{s:aN}{l b:az}{items y9:Array aB}{dY:Nat}
theorem XY:fillsInplaceSlot (.type "list") "add" (Operator.Add==.Add)=pure false:=by unfold fillsInplaceSlot;show(EI (.type "list") (dunderI "add")>>=λts=>pure (ts.isSome&&!isSeqSlot ts))=pure ai;refine G F.slot_list_iadd.lookup ?_;show(pure _:hC Bool)=pure ai;exact congrArg _ (by kernel_rfl)
theorem ae9:seqSlot? (.type "list") (dunderI "add")=pure (C (.builtin "list.__iadd__")):=PySem.seqSlot_of F.slot_list_iadd.lookup (by kernel_rfl)
theorem Z4{Q:aB->aN->Prop}(aX:IsL s.heap l items n)(aD:IsL s.heap b y9 dY)(a8:items.size+y9.size<=200000)
  (h:Q (.ref l) {s with heap:=s.heap.update l (Obj.mapSeq λx=>x++y9)}):a5 (c9 prog w) A (q2 .Add (.ref l) (.ref b)) Q E s:=by
 have aV:s.TypeIs (.ref l) "list":=⟨_,aX,rfl⟩;obtain iy:s.TypeIs (.ref b) "list":=⟨_,aD,rfl⟩;have bM:items.size+y9.size<=sizeLine:=by exact G ku (bR (by assumption) (bA rfl))
 unfold q2;refine iI (b3 (wpAny_typeOf aV (b3 (wpAny_of_eq XY (b3 (wpAny_binaryOp1_none (nm:="add") aV iy noFill_list_add (b3 (wpAny_of_eq ae9 (b3 (wpAny_rule (call_meets (args:=F.args_list_iadd_2 _ _) F.slot_list_iadd aV F.entry_list_iadd (g:=AutoSeq1.list___iadd___list_list_0 l items n b y9 dY ?_ ?_ ?_) ?_)))))))))))
 .unfold TA;simp;intro _;refine G ku ?_;assumption
 .exact bR (gu _ _) (by assumption)
 .exact Lb (by assumption)
 .exact(fi aX aD h)
end
section
variable{c:bc}{ab:cK}
theorem C0{st:St}{s:aN}(H:Sat g c st β s){a b:V}{x:aB}(c2:a7 β a x)(dy:a7 β b y){W:Wp aB}{R:aZ->Bool->aB->Prop}
  (k:∀r(z gU:Int) t dC,x=.int z t->y=.int gU dC->r=decide (z<gU)->At X g c β st s (M.pure r) W R):At X g c β st s (zq a b) W R:=by refine .bq λe q=>?_;cases qw q;refine .bq λf q=>?_;cases qw q;(refine cA c2 λz t a8 J=>?_;try clear c2;subst J);(refine cA dy λgU dC g5 J=>?_;try clear dy;subst J);exact .vQ λr cb=>k r z gU t dC rfl rfl (bo.Je H.facts cb a8 g5)
theorem PN{v:V}{r:Bool}(h:isNone v=C r)(q:a7 β v y):(y==xq)=r:=by
 induction v using MI.V.casesOn with
 |c v=>obtain rfl:=q;replace h:Q_ y=C r:=h;cases y<;>cases h<;>rfl
 |u=>exact bK h
 |i=>(obtain J:=aT h;clear h;subst J);(refine cA q λI I I J=>?_;try clear q;subst J);rfl
 |s=>(obtain J:=aT h;clear h;subst J);(refine cA q λI I I J=>?_;try clear q;subst J);rfl
 |r=>(obtain J:=aT h;clear h;subst J);(refine cA q λI I I J=>?_;try clear q;subst J);rfl
theorem At.map{st:St}{s:aN}{m:M aQ}{f:aQ->d8}{W:Wp aB}{R:aZ->d8->aB->Prop}(h:At X g c β st s m W (λav a v=>R av (f a) v)):At X g c β st s (m.bind λa=>M.pure (f a)) W R:=by obtain this:=h.bind (f:=λa=>M.pure (f a)) (k:=λv=>λQ I s=>Q v s) (cD:=R) λav v a bp ao l r S=>.ret λQ E aq=>aq _ _ av (.refl _) S r;exact this
theorem Nt(O:g.Ok)(U:c.Ok g dep){a b:V}{x:aB}(c2:a7 β a x)(dy:a7 β b y)(op:oE):bH X g c β (cmp g.K op a b) (rf g c op x y) (λI r v=>v=.bool r):=by
 intro aW st s aa H;have r7:=c2.le aa;have r8:=dy.le aa;cases op with
 |Eq=>exact(Oe U c2 dy ai aW st s aa H).imp λI I I I r=>r
 |NotEq=>exact .map ((Oe U c2 dy ae aW st s aa H).imp λI I I I r=>r)
 |In=>exact(PG O U c2 dy ai aW st s aa H).imp λI I I I r=>r
 |NotIn=>exact .map ((PG O U c2 dy ae aW st s aa H).imp λI I I I r=>r)
 |Lt=>refine C0 H r7 r8 λr z gU t dC a9 bf cC=>.ret λQ E aq=>?_;(clear r7 c2;subst a9 bf cC);exact Aq (aq _ s aW (.refl _) H rfl)
 |GtE=>refine .map (C0 H r7 r8 λr z gU t dC a9 bf cC=>.ret λQ E aq=>?_);(clear r7 c2;subst a9 bf cC);exact PyProof.Rows.ge_int (aq _ s aW (.refl _) H (by congr 1;by_cases h:z<gU<;>simp[h]<;>lia))
 |Gt=>refine C0 H r8 r7 λr z gU t dC a9 bf cC=>.ret λQ E aq=>?_;(clear r8 dy;subst a9 bf cC);exact TK (aq _ s aW (.refl _) H rfl)
 |LtE=>refine .map (C0 H r8 r7 λr z gU t dC a9 bf cC=>.ret λQ E aq=>?_);(clear r8 dy;subst a9 bf cC);exact PyProof.Rows.le_int (aq _ s aW (.refl _) H (by congr 1;by_cases h:z<gU<;>simp[h]<;>lia))
 |Is=>refine .guard λq=>?_;cases PM q;obtain rfl:=r8;exact .om λr cb=>.ret λQ E aq=>PySem.is_none (G (PN cb r7) (aq _ s aW (.refl _) H rfl))
 |IsNot=>refine .guard λq=>?_;cases PM q;obtain rfl:=r8;exact .bq λr cb=>.ret λQ E aq=>PySem.isNot_none (G (PN cb r7) (aq _ s aW (.refl _) H rfl))
theorem bo.J6{ar:List b6}(F:Facts S ar aC ns β){e:bo}(h:bo.small ar e=ae)(q:e.val β=C z):0<=z/\z<=2000000:=
 cF h λI aa h=>cF h λI af h=>⟨gk (AL.mp (of_decide_eq_false (jl _▸bS h))) (bo.lo_le F aa q),gk (bo.v5 F af q) (AL.mp (of_decide_eq_false (jl _▸bC h)))⟩
theorem GJ(h:0<=z/\z<=2000000):(eR z).length<=8:=by
 obtain e:=int_text_length_le10 (a:=z) (k:=7) (aS rfl) (Mp (k:=2000000) h (bA rfl));obtain this:(eR z).length=(toString z).length:=by
  unfold eR cs
  ((refine G (LN _) (G (gB _) ?_));exact G String.length_toList rfl)
 lia
theorem ag.Aj{ar:List b6}(F:Facts S ar aC ns β):∀{e:ag}{n:Nat}{l:bB},ag.wide ar e=C n->ag.val β e=C l->l.length<=n
 |[],n,l,h,q=>by(obtain J:=aT h;clear h;subst J);(obtain J:=aT q;clear q;subst J);exact dP _
 |p::r,n,l,h,q=>by
  (refine fD (ag.eP.mp q) λu v cy bJ J=>?_;subst J);rw[ag.agv] at h;refine cu h λm hm h=>?_
  .have bj:=ag.Aj F hm bJ;refine G iG ?_;induction p using MI.c1.casesOn with
   |lit k=>(obtain J:=aT h;clear h;(clear h;subst J));(obtain J:=aT cy;clear cy;(clear q;subst J));exact mc (by assumption) _
   |dec e=>
    dsimp only at h;split at h
    .rename_i z7;(obtain J:=aT h;clear h;(clear h;subst J));(refine aU (ag.vm cy) λz a8 J=>?_;(clear q cy;subst J));obtain this:=GJ (bo.J6 F z7 a8);exact mS (by assumption) (by assumption)
    .exact bK h
   |chr k=>(obtain J:=aT h;clear h;(clear h;subst J));(refine aU (ag.b9 cy) λd _ J=>?_;(clear q cy;subst J));simp;lia
   |any k=>(obtain J:=aT h;clear h;(clear h;subst J));obtain this:=F.cn u (ma cy);lia
theorem ag.X1{ar:List b6}(F:Facts S ar aC ns β){a b:ag}{l m:bB}(h:ag.fits ar a b=C ())(aV:ag.val β a=C l)(aD:ag.val β b=C m):l.length+m.length<=100000:=
 cu h λx aa h=>cu h λy af h=>by
  generalize q:(c6 (x+y) 100000)=aF;induction aF using bV with
  |true=>exact bR (mS (ag.Aj F aa aV) (ag.Aj F af aD)) (bA q)
  |false=>rw[q] at h;exact bK h
theorem C4(l m:bB):aR l++aR m=aR (l++m):=by apply gr.mp;unfold eqs;(refine gN yo (G (cps_toList_append _ _) ?_));rfl
theorem Dd(O:g.Ok)(U:c.Ok g dep){st:St}{s:aN}(H:Sat g c st β s)(aO:st.no<10000000){aH:Array aB}(R:bL (a7 β) xs aH.toList):
  Sat g c {st with σ:=st.σ.put cU st.no (ae,.list xs),no:=st.no+1} (β.new s.heap.objs.size s.heap.objs.size) {s with heap:=s.heap.push (listOf aH 0),toks:=t}/\a7 (β.new s.heap.objs.size s.heap.objs.size) (.r st.no) (.ref s.heap.objs.size):=
 ⟨H.oQ U aO (λI I e=>f6 _ e) (dP _) (dP _) ⟨rfl,aH,0,nP _ rfl,R.imp λI I x=>x.le (β.gJ _ _)⟩ rfl,⟨_,_,by exact G (bW H.len) (β.lp _ _),rfl⟩⟩
theorem At.t6(O:g.Ok)(U:c.Ok g dep){st:St}{s:aN}(H:Sat g c st β s){W:Wp aB}(h:∀(Q:aB->aN->Prop)(E:aB->aN->Prop),(∀aH ay t,bL (a7 β) xs aH.toList->ay=s.heap.push (listOf aH 0)->Q (.ref s.heap.objs.size) {s with heap:=ay,toks:=t})->W Q E s):At X g c β st s (MI.t6 xs) W a7:=
 .alloc λaO=>.ret λQ E aq=>h Q E λaH ay t R e=>by subst e;have N:=Dd (t:=t) O U H aO (xs:=xs) R;exact aq _ _ _ (β.gJ _ _) N.1 N.2
theorem At.rW{st:St}{s:aN}{m:Nat}{a1 a2 eZ hp:az}{f:List V->List V->M V}{W:Wp aB}(H:Sat g c st β s)(aa:β.ad[n]? =C (a1,eZ))(af:β.ad[m]? =C (a2,hp))
  (h:∀xs aH us ws k eF,a1=eZ->s.heap.get? a1=C (listOf us k)->s.heap.get? a2=C (listOf ws eF)->bL (a7 β) xs us.toList->bL (a7 β) aH ws.toList->us.size+ws.size<=4000->At X g c β st s (f xs aH) W a7):At X g c β st s (MI.rW n m f) W a7:=
 .kH H aa λxs us k e g1 g2=>.kH H af λaH ws eF I g3 eg=>.guard λq=>h xs aH us ws k eF e g1 g3 g2 eg (by obtain this:=bA q;obtain a9:xs.length=us.size:=g2.length;obtain bf:aH.length=ws.size:=eg.length;lia)
theorem At.wg{st:St}{s:aN}{a b:V}{x:aB}{ok:Nat->Bool}{f:Nat->Nat->Nat}{W:aB->aB->Wp aB}(c2:a7 β a x)(dy:a7 β b y)(h:∀i j t u,i<=100000->j<=100000->ok j=ae->At X g c β st s (M.pure (.i (.lit (.ofNat (f i j))))) (W (.int (pI i) t) (.int (pI j) u)) a7):
  At X g c β st s (MI.wg a b ok f) (W x y) a7:=
 .bq λi dT=>.bq λj cG=>.guard λq=>by cases pf dT;cases pf cG;(refine cA c2 λz t a8 J=>?_;try clear c2;subst J);(refine cA dy λgU dC g5 J=>?_;try clear dy;subst J);(obtain J:=aT a8;clear a8;subst J);(obtain J:=aT g5;clear g5;subst J);have q:=(ew _ _).mp q;have en:=(ew _ _).mp q.2;exact h i j t dC (bA q.1) (bA en.1) en.2
theorem At.o4{st:St}{s:aN}(H:Sat g c st β s){x:Option bo}{W:Wp aB}(ak:∀e,x=C e->e.val β=C z)(h:∀(Q:aB->aN->Prop)(E:aB->aN->Prop),(∀t k,Q (.int z t) {s with toks:=k})->W Q E s):At X g c β st s (MI.o4 x) W a7:=
 .bq λe he=>.ret λQ E aq=>h Q E λt k=>aq _ _ β (.refl _) H.toks ⟨z,t,ak e he,rfl⟩
theorem VB(O:g.Ok)(U:c.Ok g dep){a b:V}{x:aB}(c2:a7 β a x)(dy:a7 β b y)(op:pJ):bH X g c β (binop op a b) (dN g c (sC op x y)) a7:=by
 intro aW st s aa H;have c2:=c2.le aa;have dy:=dy.le aa;cases op with
 |Add=>
  induction a using MI.V.casesOn with
  |i=>(refine cA c2 λz t a8 J=>?_;try clear c2;(clear c2;subst J));exact .aE (W:=λy=>dN g c (sC .Add (.int z t) y)) dy λe gU dC g5=>.o4 H (λe he=>bo.Bf he a8 g5) λQ E aq=>PyProof.Rows.add_int (aq _ _)
  |s=>
   (refine cA c2 λl t aX J=>?_;try clear c2;(clear c2;subst J));exact .cn (W:=λy=>dN g c (sC .Add (.str (aR l) t) y)) dy λe m u hm=>.ib λr cb=>.ret λQ E aq=>
    KQ (λdC cX=>aq _ _ aW (.refl _) H.toks ⟨l++m,dC,ag.Gi aX hm,by exact G (C4 _ _) rfl⟩) (by obtain this:=ag.X1 H.facts cb aX hm;show l.length+m.length<=_;exact G ku (bR (by assumption) (bA rfl)))
  |r=>
   (refine cA c2 λa1 eZ gH J=>?_;try clear c2;(clear c2;subst J));exact .dv (W:=λy=>dN g c (sC .Add (.ref a1) y)) dy λm a2 hp oa=>.rW H gH oa λxs aH us ws k eF I g1 g3 g2 eg q=>.t6 O U H λQ E aq=>
    P.add_list g1 g3 (aq _ _ _ (G KY (g2.append eg)) rfl) (G ku (bR (by assumption) (bA rfl)))
  |_=>exact .fail
 |Sub=>refine .aE (W:=λx=>dN g c (sC .Sub x y)) c2 λe z t a8=>.aE (W:=λy=>dN g c (sC .Sub (.int z t) y)) dy λe gU dC g5=>.o4 H (λe he=>bo.J9 he a8 g5) λQ E aq=>KR (aq _ _)
 |Mult=>
  exact .wg (W:=λx y=>dN g c (sC .Mult x y)) c2 dy λi j t u aa af I=>.ret λQ E aq=>
   PyProof.Rows.mul_int (aq _ _ aW (.refl _) H.toks ⟨_,_,rfl,rfl⟩) (by
    obtain aJ:(i:Int)<2^64:=by exact mU.mpr (jk aa (bA rfl))
    exact IntMulOk.of_left (intBits_le_64 (by show-(2^64)<(i:Int);exact K8 (aS rfl) (kV i)) aJ))
 |FloorDiv=>
  exact .wg (W:=λx y=>dN g c (sC .FloorDiv x y)) c2 dy λi j t u aa af aJ=>.ret λQ E aq=>by
   obtain aJ:=bA aJ;obtain e:Int.fdiv (pI i) (pI j)=pI (i/j):=by show Int.fdiv (i:Int) (j:Int)=_;exact G (Int.fdiv_eq_ediv_of_nonneg _ (kV j)) rfl
   exact PyProof.Rows.floordiv_int (by show(j:Int)≠0;lia) (aq _ _ aW (.refl _) H.toks ⟨_,_,rfl,by exact G e rfl⟩) (.inl (PyProof.noPylong_small (by show j<_;exact jk (by assumption) (bA rfl))))
 |_=>exact .fail
end
theorem Qr{e:bo}{k:Int}(h:litOf e=C k)(q:e.val β=C z):k=z:=by cases tZ h;(obtain J:=aT q;clear q;subst J);rfl
set_option tactic.hygienic true in
theorem ae8{aH:Array aB}{c:Int}{v:V}(h:J2 xs c=C v)(R:bL (a7 β) xs aH.toList):
  ∃j y,seqIndex? c aH.size=C j/\aH[j]? =C y/\a7 β v y/\-(2^63)<=c/\c<2^63:=by
 have len:xs.length=aH.size:=by obtain this:=R.length;simpa using this
 unfold J2 at h;induction c using LI with
 |ofNat i=>
  dsimp only at h;split at h
  .rename_i q;obtain q:=bA q;rw[f3] at h;refine aU (R.get h) λy bT r=>?_;rw[pN] at bT;refine bG (D8.mp bT) λaX _=>?_;refine(Kz i y ?_ bT r ?_ ?_)
   .obtain this:=seqIndex_of (k:=(i:Int)) (n:=aH.size) (kV _) (jn.mpr (by assumption));exact this
   .show-(2^63)<=(i:Int);exact kV _
   .show(i:Int)<2^63;lia
  .exact bK h
 |negSucc i=>
  dsimp only at h;split at h
  .rename_i q;have dT:i<xs.length:=bA (bS q);obtain cG:=bA (bC q);rw[f3] at h;refine aU (R.get h) λy bT r=>?_;rw[pN] at bT;refine(Kz (xs.length-(i+1)) y ?_ bT r ?_ ?_)
   .unfold seqIndex?;obtain e:LJ i=-((i:Int)+1):=rfl;dsimp only;(refine G e (G (if_pos (show-((i:Int)+1)<0 from Int.negSucc_lt_zero i)) (G (if_pos (by((refine G (ew _ _) ?_;rewrite[decide_eq_true_iff,decide_eq_true_iff]);refine G (Q2 (len▸dT)) ?_);exact⟨kV _,mU.mpr (Nat.sub_lt (jk (l9 _) (len▸dT)) (pE _))⟩)) ?_)));(refine G (Q2 (len▸dT)) (G len ?_));rfl
   .obtain e:LJ i=-((i:Int)+1):=rfl;lia
   .obtain e:LJ i=-((i:Int)+1):=rfl;lia
  .exact bK h
section
variable{c:bc}{ab:cK}
theorem px(h:isSlice e=ai)(o i:aB):subscripted e ai o i=operate [o,i] (sE o i):=by cases e<;>first|rfl|exact jB h
noncomputable abbrev Mj(g:cz)(c:bc)(value slice:bk)(o i:aB):Wp Value:=λQ E s=>a5 g.M c.A (xo value slice o i) Q E s
theorem Sa{st:St}{s:aN}(H:Sat g c st β s){a:az}{k:Int}{t:Tok}{aH:Array aB}(aX:s.heap.IsList a aH\/s.heap.IsTuple a aH)(R:bL (a7 β) xs aH.toList){e:bo}
  (aw:e.val β=C k)(value slice:bk)(bM:isSlice slice=ai):
  At X g c β st s (itemAt xs e) (Mj g c value slice (.ref a) (.int k t)) a7:=by
 refine .bq λeF tK=>.om λv bJ=>.ret λQ E aq=>?_;obtain this:eF=k:=Qr tK aw;(clear aw;subst this);refine t9 (ae8 bJ R) λj y aa af r aJ bl=>?_;have fin:=aq y s β (.refl _) H r;rcases aX with aX|aX
 .refine mP aX.typeIs xg.lookup ?_ (px bM _ _);unfold seqIndex? at aa;dsimp only at aa;by_cases h0:eF<0
  .rw[if_pos h0] at aa;split at aa
   .rename_i q;rw[ew,decide_eq_true_iff,decide_eq_true_iff] at q;(obtain J:=aT aa;clear aa;subst J);refine wpAny_getItem_list_neg aX h0 (by lia) (by assumption) af fin
   .exact bK aa
  .rw[if_neg h0] at aa;split at aa
   ·(obtain J:=aT aa;clear aa;subst J);exact Eh aX (by lia) (by assumption) af fin
   .exact bK aa
 .exact mP (T:="tuple") (by(refine eH aX λo bx bb _=>?_;try clear aX);exact⟨o,bx,bb⟩) F.slot_tuple_getitem.lookup (Tv aX aJ (by assumption) aa af fin) (px bM _ _)
theorem abk{l:bB}{k:Int}{v:V}(h:Qp l k=C v)(q:∀ch:Nat,v=.s [.lit [ch]]->Txt.charAt (aR l) k=C ch->fitsSsize k=ae->P):P:=
 cu h λi aa af=>by
  cases we aa;split at af
  .rename_i en;obtain en:=bA en;rw[f3] at af;refine aU (pM.mp af) λch cR e=>bG (j2.mp cR) λaX _=>?_;refine q ch e.symm ?_ (by unfold fitsSsize;(refine G (jl _) (gN Bool.or_eq_false_iff ?_);rewrite[decide_eq_false_iff_not,decide_eq_false_iff_not]);show¬((i:Int)<_)/\¬((i:Int)≥_);lia);unfold Txt.charAt;refine G (seqIndex_of (by show(0:Int)<=(i:Int);exact kV _) (by show(i:Int)<((l.toArray.size:Nat):Int);simp;assumption)) ?_;show(l.toArray)[i]? =_;refine G List.getElem?_toArray ?_;exact cR
  .exact bK af
theorem PS{st:St}{s:aN}(H:Sat g c st β s){a:az}(aV:β.ad[n]? =C (a,d)){e:ag}{l:bB}{t:Tok}(aX:e.val β=C l){W:Wp aB}
  (h:∀(Q:aB->aN->Prop)(E:aB->aN->Prop),(s.TypeIs (.ref a) "dict")->a5 g.M c.A (sE (.ref a) (.str (aR l) t)) Q E s->W Q E s):At X g c β st s (IE n e) W a7:=
 .vn H aV λau op aA D=>.nd H D aX λr k=>.bq λp q=>by subst q;(refine a3 k λJ I=>?_;try clear k;refine aU J λy bT r=>?_;try clear J);exact .ret λQ E aq=>h Q E D.D.mapOf.typeIs (En (nE g l t) D.D.mapOf bT (aq y _ β (.refl _) H.toks r))
theorem aap(O:g.Ok)(U:c.Ok g dep)(kF:∃au n,g.K.lookup layAt=C ⟨.type "dict",none,.dict au n,#[]⟩/\KeysLit g.w.params au.toList){a b:V}{x:aB}(c2:a7 β a x)(dy:a7 β b y)(value slice:bk)(bM:isSlice slice=ai):
  bH X g c β (item g.K a b) (Mj g c value slice x y) a7:=by
 intro aW st s aa H;have c2:=c2.le aa;obtain dy:=dy.le aa;induction b using MI.V.casesOn with
 |i e=>
  (refine cA dy λz u a8 J=>?_;try clear dy;(clear dy;subst J));induction a using MI.V.casesOn with
  |r n=>(refine cA c2 λa1 eZ gH J=>?_;try clear c2;(clear c2;subst J));exact .z5 H gH λxs us L R=>Sa H L R a8 value slice bM
  |s e=>(refine cA c2 λl t aX J=>?_;try clear c2;(clear c2;subst J));refine .bq λa_ jw=>.bq λk aw=>.om λv bJ=>abk bJ λch a9 bf cC=>.ret λQ E aq=>?_;rw[ag.v8 jw] at aX;cases(aX);cases Qr aw a8;(clear bJ;subst a9);refine mP (typeIs_str s _ _) F.slot_str_getitem.lookup (SB.getItem cC (G bf rfl) ?_) (px bM _ _);refine G (show Txt.item (aR l) z=aR [ch] by unfold Txt.item;exact G bf rfl) ?_;exact aq _ _ aW (.refl _) H.toks ⟨[ch],_,ag.eP.mpr (d2 _ [] rfl rfl rfl),rfl⟩
  |c v=>
   obtain rfl:=c2;exact .bq λl q=>SI q λa o g6 n a9 bf cC iM lV=>by(refine G a9 (G lV ?_));exact Sa H (.inr ⟨_,H.toSatO.fl U O _ _ bf,cC,n,iM⟩) (FD _) a8 value slice bM
  |_=>exact .fail
 |s e=>
  (refine cA dy λl t aX J=>?_;try clear dy;(clear dy;subst J));induction a using MI.V.casesOn with
  |r n=>(refine cA c2 λa1 eZ gH J=>?_;try clear c2;(clear c2;subst J));exact PS (t:=t) H gH aX λQ E ty k=>mP ty Lr.lookup k (px bM _ _)
  |c v=>obtain rfl:=c2;refine .guard λq=>.bq λa_ jw=>.bq λw hw=>.bq λv bJ=>.ret λQ E aq=>?_;subst bJ;cases CI q;rw[ag.v8 jw] at aX;cases(aX);rw[Dl] at hw;(refine cA kF λau n aw jz=>?_;try clear kF);have hm:=mapOf_K (prog:=g.prog) (H.toSatO.fl U O) aw jz;exact mP hm.typeIs Lr.lookup (En (nE g l t) hm (find_K aw hw) (aq v _ aW (.refl _) H.toks (Jv _ _))) (px bM _ _)
  |_=>exact .fail
 |_=>exact .fail
theorem lE(dn:aM×aB)(aA:List (aM×aB))(x:aM):a0 (dn::aA) x=if dn.1=x then C dn.2 else a0 aA x:=by unfold a0;refine G AE ?_;by_cases h:dn.1=x<;>simp[h]
theorem S6:∀(aA:List (aM×aB))(k:aM)(v:aB)(x:aM),a0 (aA++ [(k,v)]) x=(match a0 aA x with|some y=>C y|none=>if k=x then C v else none)
 |[],k,v,x=>by(refine G (List.nil_append _) (G (lE _ _ _) ?_));rfl
 |dn::aA,k,v,x=>by(refine G Lg ?_;(refine G (lE _ _ _) (G ((S6 aA) _ _ _) (G (lE _ _ _) ?_))));by_cases h:dn.1=x<;>simp[h]
theorem S7(k:aM)(v:aB)(x:aM):∀aA:List (aM×aB),a0 (aA.map λdn=>if dn.1=k then(dn.1,v) else dn) x=if x=k then(a0 aA x).map (λI=>v) else a0 aA x
 |[]=>by by_cases h:x=k<;>simp[h,a0]
 |dn::aA=>by
  (refine G j4 ?_;(refine G (lE _ _ _) (G (lE _ _ _) ?_));refine G (S7 k v x aA) ?_);by_cases aa:dn.1=k
  .by_cases af:x=k
   .obtain this:dn.1=x:=aa.trans af.symm;simp[aa,af]
   .obtain this:¬k=x:=λe=>af e.symm;obtain this:¬dn.1=x:=λe=>af (e.symm.trans aa);have:¬k=x:=λe=>af e.symm;simp[aa,af,this]
  .by_cases af:x=k
   .obtain this:¬dn.1=x:=λe=>aa (e.trans af);simp[aa,af]
   .simp[aa,af]
theorem Ks(k:aM):∀aA:List (aM×aB),aA.any (λdn=>decide (dn.1=k))=(a0 aA k).isSome
 |[]=>rfl
 |dn::aA=>by(refine G Et (G (lE _ _ _) (G (Ks k aA) ?_)));by_cases h:dn.1=k<;>simp[h]
theorem nI(aA:List (aM×aB))(k:aM)(v:aB)(x:aM):a0 (lH aA k v) x=if x=k then C v else a0 aA x:=by
 unfold lH;have e:=Ks k aA;split
 .rename_i h;refine G (S7 _ _ _ _) ?_;by_cases q:x=k
  .subst q;rw[h] at e;refine bG (D9.mp e.symm) λy bT=>?_;simp[bT]
  .simp[q]
 .rename_i h;refine G (S6 _ _ _ _) ?_;by_cases q:x=k
  .subst q;generalize w:a0 aA x=aF;induction aF using b1 with
   |none=>simp
   |some y=>rw[w] at e;exact absurd e h
  .obtain this:¬k=x:=λe=>q e.symm;cases w:a0 aA x<;>simp[q,this]
theorem afw{k:aM}{v:aB}(h:a0 aA k≠none):(lH aA k v).length=aA.length:=by obtain e:=Ks k aA;unfold lH;(refine G (if_pos (G e (Option.isSome_iff_ne_none.mpr h))) ?_;exact G (gB _) rfl)
theorem abz{k:aM}{v:aB}{dn:aM×aB}(h:dn∈lH aA k v):dn∈aA\/dn.2=v:=by
 unfold lH at h;split at h
 ·(refine aU (kY.mp h) λq aq J=>?_;(clear h;subst J));split
  .exact .inr rfl
  .exact .inl aq
 .rcases me.mp h with h|h
  .exact .inl h
  .rw[eu] at h;subst h;exact .inr rfl
theorem Sl(aA:List (aM×aB))(k:aM)(v:aB):aA.map (·.1)<+:(lH aA k v).map (·.1):=by
 unfold lH;split
 .obtain this:(aA.map λdn=>if dn.1=k then(dn.1,v) else dn).map (·.1)=aA.map (·.1):=by refine G List.map_map (T6 λdn I=>?_);show(if dn.1=k then(dn.1,v) else dn).1=dn.1;split<;>rfl
  exact G this (iH _)
 .exact G List.map_append (lK _ _)
theorem GO{a:az}{kM:cj}(ja:a=d)(qd:a≠kv)
  (g3:kZ β aA au)(eg:au.Pairwise (λe f=>e.1.val β≠f.1.val β))
  (gv:Bd (g.base a) β aA au op)(jb:aA.length<=au.length+qL g.S op){k:ag}{l:bB}(aw:k.val β=C l){v:V}(r:a7 β v y)
  (aa:fx a=C kM)(af:kM.IsDictOf (strKind g.prog g.w) (lH aA (aR l) y)){q:Option (Nat×V)}
  (aq:Found β aA au l q):cN g fx β a d (JK k v au op q):=by
 have inj:∀m:bB,aR m=aR l->m=l:=λm=>oi;induction q using b1 with
 |none=>
  (refine a3 aq λdT cG=>?_;try clear aq);refine⟨ja,qd,kM,_,aa,af,λe he=>?_,?_,?_,?_⟩
  .rcases me.mp he with he|he
   .obtain(⟨m,w,dw,dV,hz⟩):=g3 e he;refine⟨m,w,dw,?_,hz⟩;(refine G (nI _ _ _ _) (G (if_neg λz=>cG e he (G dw (G (inj m z) rfl))) ?_));exact dV
   .rw[eu] at he;subst he;exact⟨l,y,aw,by exact G (nI _ _ _ _) (G (if_pos rfl) rfl),r⟩
  .refine gN List.pairwise_append (fi eg (by simp) (λe he f hf=>?_));rw[eu] at hf;subst hf;exact G (show((k,v):ag×V).1.val β=C l from aw) (cG e he)
  .clear jb;induction op using b1 with
   |none=>
    intro z a8;rw[nI] at a8;by_cases e:z=aR l
    ·(clear a8;subst e);exact(bh (k,v) (by simp) aw)
    .rw[if_neg e] at a8;exact aU (gv z a8) λf hf x=>(bh f (q8 _ hf) x)
   |some abs=>
    refine⟨λe he=>?_,λold bx=>⟨(gv.2 old bx).1.trans (Sl aA _ _),λx=>?_⟩⟩
    rotate_left
    .rcases(gv.2 old bx).2 x with⟨f,hf,q⟩|q
     .exact .inl (bh f (q8 _ hf) q)
     .refine G (nI _ _ _ _) ?_;by_cases z:x=aR l
      ·(clear q;subst z);exact .inl (bh (k,v) (by simp) aw)
      .exact G (if_neg z) (.inr q)
    refine aU (gv.1 e he) λm dw dV=>(bh m dw (G (nI _ _ _ _) ?_));by_cases z:aR m=aR l
    .obtain this:=inj m z;(clear z cG dT inj af;subst this);exact .inr (bh (k,v) (by simp) aw)
    .exact G (if_neg z) (dV.imp id λgd=>(by(refine aU gd λf hf x=>?_;try clear gd);exact(bh f (q8 _ hf) x)))
  .obtain this:=stored_length_le aA (aR l) y;refine G iG ?_;simp only[uA,Lm];exact bR this (bR (j3 jb 1) (eJ (Nat.add_right_comm _ _ _)))
 |some p=>
  obtain(⟨i,u⟩):=p;obtain(⟨⟨agR,bT,_⟩,Ou,tG,yL,_⟩):=aq;have keys:∀j:Nat,((au.modify i λq=>(q.1,v))[j]?).map (·.1)=(au[j]?).map (·.1):=λj=>by
   refine G (TY _ _ _ _) ?_;by_cases h:i=j
   .subst h;cases au[i]?<;>simp
   .simp[h]
  have mem:∀e:ag×V,e∈au.modify i (λq=>(q.1,v))->(e∈au/\e.1.val β≠C l)\/(e.1.val β=C l/\e.2=v):=λe he=>by
   refine bG (TZ he) λj cE=>?_;rw[TY] at cE;by_cases h:i=j
   .subst h;rw[tG] at cE;simp at cE;(clear he;subst cE);exact .inr ⟨yL,rfl⟩
   .have cE:au[j]? =C e:=by simpa [h] using cE
    refine .inl ⟨ma cE,λz=>?_⟩;refine bG (j2.mp cE) λcB e5=>?_;refine bG (j2.mp tG) λel gZ=>?_;rw[TH] at eg;rcases Nat.lt_or_gt_of_ne h with h|h
    .exact eg i j el cB h (G e5 (G gZ (G z (G yL rfl))))
    .exact eg j i cB el h (G e5 (G gZ (G z (G yL rfl))))
  have back:∀e:ag×V,e∈au->∃f:ag×V,f∈au.modify i (λq=>(q.1,v))/\f.1=e.1:=λe he=>by refine bG (TZ he) λj cE=>?_;obtain this:=keys j;rw[cE] at this;exact aU (pM.mp this) λf hf h=>(bh f (ma hf) h)
  refine⟨ja,qd,kM,_,aa,af,λe he=>?_,?_,?_,?_⟩
  .rcases mem e he with⟨he,ne⟩|⟨he,bJ⟩
   .obtain(⟨m,w,dw,dV,hz⟩):=g3 e he;refine⟨m,w,dw,?_,hz⟩;(refine G (nI _ _ _ _) (G (if_neg λz=>ne (G dw (G (inj m z) rfl))) ?_));exact dV
   .exact⟨l,y,he,by exact G (nI _ _ _ _) (G (if_pos rfl) rfl),by exact G bJ r⟩
  .rw[TH] at eg ⊢;intro a b aV aD YN;obtain bw:=keys a;obtain c3:=keys b;rw[i5 aV] at bw;rw[i5 aD] at c3;have fo:a<au.length:=by simpa using aV
   have iy:b<au.length:=by simpa using aD
   rw[i5 fo] at bw;rw[i5 iy] at c3;simp only[nS,Ef] at bw c3;(refine G bw (G c3 ?_));exact eg a b fo iy YN
  .clear jb;induction op using b1 with
   |none=>
    intro z a8;rw[nI] at a8;obtain this:a0 aA z≠none:=by
     by_cases e:z=aR l
     ·(clear a8;subst e);refine G bT ?_;simp
     .rw[if_neg e] at a8;exact a8
    exact aU (gv z this) λf hf x=>aU (back f hf) λk5 ql e=>(bh k5 ql (G e x))
   |some abs=>
    refine⟨λe he=>?_,λold bx=>⟨(gv.2 old bx).1.trans (Sl aA _ _),λx=>?_⟩⟩
    rotate_left
    .rcases(gv.2 old bx).2 x with⟨f,hf,q⟩|q
     .exact aU (back f hf) λk5 ql e=>.inl (bh k5 ql (G e q))
     .refine G (nI _ _ _ _) ?_;by_cases z:x=aR l
      ·(clear q;subst z);exact aU (back Ou (ma tG)) λk5 ql e=>.inl (bh k5 ql (G e yL))
      .exact G (if_neg z) (.inr q)
    refine aU (gv.1 e he) λm dw dV=>(bh m dw (G (nI _ _ _ _) ?_));by_cases z:aR m=aR l
    .obtain this:=inj m z;(clear z mem bT inj af aw;subst this);exact aU (back Ou (ma tG)) λk5 ql e=>.inr (bh k5 ql (G e yL))
    .exact G (if_neg z) (dV.imp id λ⟨f,hf,x⟩=>aU (back f hf) λk5 ql e=>(bh k5 ql (G e x)))
  ·(refine G (afw (by refine G bT ?_;simp)) ?_;refine G (List.length_modify _ _ _) ?_);exact jb
end
section
variable{c:bc}{ab:cK}
theorem nt(h:n<=300000):n<=sizeLine:=G ku (bR (by assumption) (bA rfl))
theorem RM(O:g.Ok){st:St}{s:aN}(H:Sat g c st β s){a:az}(aV:β.ad[n]? =C (a,d)){e:ag}{l:bB}(aX:e.val β=C l){v:V}{z:aB}(dv:a7 β v z){W:Wp Unit}
  (h:∀(Q:Unit->aN->Prop)(E:aB->aN->Prop) aA,s.heap.DictOf (strKind g.prog g.w) a aA->a≠kv->aA.length<=300000->(∀ay t,ay.DictOf (strKind g.prog g.w) a (lH aA (aR l) z)->qW a s.heap ay->Q () {s with heap:=ay,toks:=t})->W Q E s):At X g c β st s (putD n e v) W (λI I I=>True):=
 .vn H aV λau op aA D=>.guard λa8=>.nd H D aX λr k=>.z8 λgs aO bM Q E aq=>h Q E aA D.D D.ne
  (by
   obtain bt:=O.S;obtain a8:au.length<=4000:=bA a8;have:=D.jb;obtain Pp:qL g.S op<=g.S:=by cases op<;>simp[qL]
   lia) λay t mX JW=>
  aq () _ β (.refl _) (H.turn (t:=t) aO bM aV (.inl rfl) JW.extBut ((aU (sq.mp mX) λI bZ c5=>GO D.ja D.ne D.g3 D.eg D.gv D.jb aX dv bZ c5 k)) (by cases r<;>rfl)) trivial
theorem Ys{ar:List b6}(F:Facts S ar aC ns β){p:Nat×Nat}(h:OX ar p=C t)(a8:bo.val β (.aL (.ofNat p.1) ai p.2)=C z):0<=z/\z<=((S+t:Nat):Int):=
 cu h λb aD h=>by
  refine jQ (F.aE.get aD) λw hw bZ c5 fF=>?_;simp only[bo.val,hw] at a8;(obtain J:=aT a8;clear a8;subst J);generalize q:ltI b.1 0=aF;induction aF using bV with
  |true=>rw[q] at h;exact bK h
  |false=>rw[q] at h;(refine aU (pM.mp h) λu cy J=>?_;(clear h;subst J));rw[QF,decide_eq_false_iff_not] at q;obtain this:=fF u cy;exact⟨by show 0<=(p.1:Int)+w;exact Ls (kV _) (gk (AL.mp q) bZ),by show(p.1:Int)+w<=_;exact gk (K3 this _) (jn.mpr (eJ ((kp _ _).trans (kW _ _ _))))⟩
theorem ac8(O:g.Ok){st:St}{s:aN}(H:Sat g c st β s){a:az}(aV:β.ad[n]? =C (a,d)){p:Nat×Nat}(R:cN g s.heap.get? β a d (.jx p.1 p.2)){l:bB}{t:Tok}{v:V}{z:aB}(dv:a7 β v z):
  At X g c β st s (RN n p v) (λQ E s=>a5 g.M c.A (uE (.ref a) (.str (aR l) t) z) Q E s) (λI I I=>True):=
 .bq λyf q=>.guard λa8=>.ib λdC ff=>.z8 λgs aO bM Q E aq=>by
  cases Mx q;(refine cA dv λgd tt vM J=>?_;try clear dv;subst J);have bd:=Ys H.facts ff vM;obtain(⟨ja,ne,f_,aA,g1,g2,g3,eg⟩):=R;obtain bt:=O.S;obtain a8:=bA a8;refine Ld (nE g l t) (vo g1 g2) (λay hd iy=>?_) (nt (bR eg (bR (mS bt a8) (bA rfl))));refine aU (sq.mp hd) λkM bZ c5=>aq () _ β (.refl _) (H.turn (t:=s.toks+1) aO bM aV (.inl rfl) iy.extBut ⟨ja,ne,kM,_,bZ,c5,λdn tL=>?_,?_⟩ rfl) trivial
  .rcases abz tL with h|h
   .refine fD (g3 dn h) λq jU a9 bf cC=>?_;obtain this:p.2<=Nat.max p.2 dC:=Nat.le_max_left _ _;exact(d2 q jU a9 bf (gk cC (jn.mpr (mc this _))))
   .obtain this:dC<=Nat.max p.2 dC:=Nat.le_max_right _ _;exact(d2 gd tt h bd.1 (gk bd.2 (jn.mpr (mc this _))))
  .obtain this:=stored_length_le aA (aR l) (.int gd tt);exact bR this (j3 eg 1)
theorem Se(O:g.Ok)(U:c.Ok g dep){a b v:V}{x z:aB}(c2:a7 β a x)(dy:a7 β b y)(dv:a7 β v z):bH X g c β (setItem a b v) (λQ E s=>a5 g.M c.A (uE x y z) Q E s) (λI I I=>True):=λaW st s aa H=>
 .dv (W:=λx=>λQ E s=>a5 g.M c.A (uE x y z) Q E s) (c2.le aa) λn a1 eZ gH=>.cn (W:=λy=>λQ E s=>a5 g.M c.A (uE (.ref a1) y z) Q E s) (dy.le aa) λe l t aX=>.oh H gH λo R=>by
  generalize q:o.tV=aF;induction aF using b1 with
  |some p=>rw[Iq q] at R;exact ac8 O H gH R (dv.le aa)
  |none=>exact RM O H gH aX (dv.le aa) λQ E aA D ne wR k=>Ld (nE g l t) D (λay hd iy=>k ay _ hd iy) (nt wR)
theorem aab(O:g.Ok)(U:c.Ok g dep){a b:V}{x:aB}(c2:a7 β a x)(dy:a7 β b y)(op:pJ):bH X g c β (inplace op a b) (dN g c (q2 op x y)) a7:=by
 intro aW st s aa H;have c2:=c2.le aa;have dy:=dy.le aa;cases op with
 |Add=>
  induction a using MI.V.casesOn with
  |i=>(refine cA c2 λz t a8 J=>?_;try clear c2;(clear c2;subst J));exact .aE (W:=λy=>dN g c (q2 .Add (.int z t) y)) dy λe gU dC g5=>.o4 H (λe he=>bo.Bf he a8 g5) λQ E aq=>KN (aq _ _)
  |r=>
   (refine cA c2 λa1 eZ gH J=>?_;try clear c2;(clear c2;subst J));exact .dv (W:=λy=>dN g c (q2 .Add (.ref a1) y)) dy λm a2 hp oa=>.rW H gH oa λxs aH us ws k eF g0 g1 g3 g2 eg q=>.store λgs aO bM=>.ret λQ E aq=>
    Z4 g1 g3 (bR (by assumption) (bA rfl)) (aq _ _ aW (.refl _) (H.turn (t:=s.toks) aO bM gH (.inl rfl) (Ed ..).extBut ⟨g0,us++ws,_,IsL.update g1 (λx=>x++ws),by exact G KY (g2.append eg)⟩ rfl) ⟨a1,eZ,gH,rfl⟩)
  |_=>exact .fail
 |Sub=>exact .aE (W:=λx=>dN g c (q2 .Sub x y)) c2 λe z t a8=>.aE (W:=λy=>dN g c (q2 .Sub (.int z t) y)) dy λe gU dC g5=>.o4 H (λe he=>bo.J9 he a8 g5) λQ E aq=>PyProof.Rows.isub_int (aq _ _)
 |_=>exact .fail
theorem abg(O:g.Ok)(U:c.Ok g dep){v:V}{x:aB}(r:a7 β v x):bH X g c β (lenOf v) (dN g c (gc (.builtin "len") [x])) a7:=λaW st s aa H=>
 .dv (W:=λx=>dN g c (gc (.builtin "len") [x])) (r.le aa) λn a1 eZ gH=>.oh H gH λo R=>by
  obtain bt:=O.S;induction o using MI.O.casesOn with
  |list xs=>obtain(⟨_,us,k,g1,g2⟩):=R;have eG:xs.length=us.size:=g2.length;exact .guard λq=>.ret λQ E aq=>EB (qZ g1) (by obtain this:=bA q;exact qt (bR (eJ eG.symm) this) (bA rfl)) (aq _ _ aW (.refl _) H.toks ⟨us.size,_,by refine G eG ?_;rfl,rfl⟩)
  |iQ k xs=>
   obtain(⟨_,us,eF,pre,post,g1,g2,g3,eg,gv⟩):=R;have eG:=eg.length;have fB:us.size=pre.length+post.length:=by exact G (bW w9) (G g2 (G iG rfl))
   obtain hm:most=4000:=rfl;exact .guard λq=>.ret λQ E aq=>EB (qZ g1) (by obtain this:=bA q;exact qt (Ka fB eG gv hm bt this) (bA rfl)) (aq _ _ aW (.refl _) H.toks ⟨us.size,_,by simp only[bo.val,g3,Ef];lia,rfl⟩)
  |dict au op=>
   refine .bq λI q=>?_;cases lq q;induction op using b1 with
   |none=>
    refine bG (sQ.of R) λaA D=>?_;have CR:aA.length=0:=by obtain this:=D.jb;simp only[Lm,qL] at this;lia
    exact .ret λQ E aq=>call_len_dict (beq_eq_false_iff_ne.mpr D.ne) D.D (qt (eJ CR) (bA rfl)) (G CR (aq _ _ aW (.refl _) H.toks ⟨0,_,rfl,rfl⟩))
   |some=>exact .fail
  |_=>exact .fail
theorem log2_small(h:0<=z/\z<=2000000):z.natAbs.log2<1920:=by
 by_cases h0:z.natAbs=0
 .exact G h0 (aS rfl)
 .refine gN (Nat.log2_lt h0) ?_
  calc z.natAbs<2^21:=Mp (k:=2000000) h (bA rfl)
   _<=2^1920:=Nat.pow_le_pow_right (aS rfl) (aS rfl)
theorem afx{e:bo}(h:e.val β=C z):ag.val β (J7 e)=C (eR z):=by
 unfold J7;generalize q:(litOf e).bind nat?=aF;induction aF using b1 with
 |some n=>refine cu q λk dT cG=>?_;cases tZ dT;cases we cG;(obtain J:=aT h;clear h;subst J);exact ag.eP.mpr (d2 (eR (pI _)) [] rfl rfl ((lM _).symm))
 |none=>exact ag.eP.mpr (d2 (eR z) [] (by show(bo.val β e).map eR=_;exact G h rfl) rfl ((lM _).symm))
theorem afy(O:g.Ok)(U:c.Ok g dep){v:V}{x:aB}(r:a7 β v x):bH X g c β (strOf v) (dN g c (gc (.type "str") [x])) a7:=λaW st s aa H=>
 .aE (W:=λx=>dN g c (gc (.type "str") [x])) (r.le aa) λe z t a8=>.ib λu cy=>.ret λQ E aq=>by
  generalize q:bo.small st.ar e=aF;induction aF using bV with
  |false=>rw[q] at cy;exact bK cy
  |true=>exact P.str_of_int (log2_small (bo.J6 H.facts q a8)) (aq _ _ aW (.refl _) H.toks ⟨eR z,s.toks,afx a8,by unfold eR;exact G (hk _) rfl⟩)
theorem adU(O:g.Ok)(U:c.Ok g dep){v:V}{x:aB}(r:a7 β v x):bH X g c β (RW v) (dN g c (gc (.type "range") [x])) a7:=λaW st s aa H=>
 .bq λn q=>.guard λI=>.alloc λaO=>.ret λQ E aq=>by cases pf q;(refine cA r λz t a8 J=>?_;try clear r;subst J);(obtain J:=aT a8;clear a8;subst J);exact call_range_1 (aq _ _ (aW.new s.heap.objs.size s.heap.objs.size) (aW.gJ _ _) (H.oQ U aO (λI I e=>f6 _ e) (dP _) (dP _) ⟨rfl,_,_,_,nP _ rfl⟩ rfl) ⟨_,_,by exact G (bW H.len) (aW.lp _ _),rfl⟩)
end
noncomputable def eL(β:aZ):dj->fH->Prop
 |.next,x=>x=.next
 |.brk,x=>x=.brk
 |.cont,x=>x=.cont
 |.ret v,x=>∃y,x=.ret y/\a7 β v y
noncomputable abbrev dX(g:cz)(c:bc)(t:hC fH):Wp Flow:=λQ E s=>a5 g.M c.A t Q E s
noncomputable abbrev jq(g:cz)(c:bc)(k:Code):Wp Flow:=λQ E s=>ft g.M c.A k (λr ao=>match r with|.ok f=>Q f ao|.error e=>E e ao) s
noncomputable abbrev jG(g:cz)(c:bc)(f:aB)(aH:List aB):Wp Value:=λQ E s=>ft g.M c.A (.call f ⟨aH,[]⟩) (λr ao=>match r with|.ok (.ret v)=>Q v ao|.ok _=>False|.error e=>E e ao) s
structure dW(g:cz)(aG:fc):Prop where
 ev:∀c ab env β e,c.Ok g ab.dep->cc c ab env β->cT g c β (aG.ev ab e) (dN g c (dM e env)) a7
 eO:∀c ab env β e,c.Ok g ab.dep->cc c ab env β->cT g c β (aG.eO ab e) (λQ E s=>a5 g.M c.A (uR e env (dM e env)) Q E s) (λI b dF=>dF=b)
 ca:∀c dep β f aK D0,c.Ok g dep->bL (a7 β) aK D0->cT g c β (aG.ca dep (.c (.ref f)) aK) (jG g c (.ref f) D0) a7
 xs:∀c ab env β b,c.Ok g ab.dep->cc c ab env β->cT g c β (aG.xs ab b) (dX g c (cH b env)) eL
 kC:∀c ab env β t n b a d,c.Ok g ab.dep->ab.dep<400->cc c ab env β->β.ad[n]? =C (a,d)->rt g c β (aG.kC ab t n b) (jq g c (.forLoop t (.ref a) b [] env)) eL
 dK:∀c ab env β t b,c.Ok g ab.dep->cc c ab env β->rt g c β (aG.dK ab t b) (jq g c (.whileLoop t b [] env)) eL
 cl:∀c ab env β e k n acc a d ef fK,c.Ok g ab.dep->ab.dep<400->cc c ab env β->β.ad[n]? =C (a,d)->β.ad[acc]? =C (ef,fK)->
  rt g c β (aG.cl ab e k n acc) (jq g c (.compLoop e k (.ref a) (.ref ef) env)) (λI I I=>True)
variable{aG:fc}
section
variable{c:bc}{ab:cK}
theorem FO{o:bk}(h:zV o=ae)(attr:aM)(w:hC aB):attributeBase o attr env w=w:=by
 cases o with
 |Call f as ks p=>
  cases f with
  |Name x q=>
   induction as using eo with
   |cons _ _=>rfl
   |nil=>
    induction ks using eo with
    |cons _ _=>rfl
    |nil=>exact c8 h
  |_=>rfl
 |_=>rfl
theorem Xs(O:g.Ok)(ba:dW g aG)(U:c.Ok g ab.dep)(V:cc c ab env β)(o:bk)(x:aM)(pos:cq):cT g c β (match zV o with
  |true=>(aG.ev ab o).bind λv=>rI g.K v x
  |false=>fail 147) (dN g c (dM (.Attribute o x pos) env)) a7:=by
 split
 .rename_i h;exact bH.of ((ba.ev c ab env β o U V).bind λav v a l r=>Hs O U r x ae) λQ E s k=>Attribute_any_ k (G (arm_eval_Attribute _ _ _ _) (G ((FO h) _ _) rfl))
 .exact .fail
theorem Kc{v:MI.V}(r:a7 β v y):bH X g c β (MI.truthy v) (λQ E s=>a5 g.M c.A (uF y) Q E s) (λI b dF=>dF=b):=by
 intro aW st s aa H;obtain r:=r.le aa;induction v using MI.V.casesOn with
 |c x=>
  induction x using lJ with
  |bool b=>obtain rfl:=r;exact .ret λQ E aq=>λI I I=>aq _ s aW (.refl _) H rfl
  |none=>obtain rfl:=r;exact .ret λQ E aq=>truthy_none (aq _ s aW (.refl _) H rfl)
  |_=>exact .fail
 |_=>exact .fail
theorem Oj(ba:dW g aG)(U:c.Ok g ab.dep)(V:cc c ab env β)(op:BoolOp)(pos:cq):∀au:List bk,cT g c β (x7 aG ab op au) (dN g c (dM (.BoolOp op au pos) env)) a7
 |[]=>.fail
 |[e]=>(ba.ev c ab env β e U V).of λQ E s k=>BoolOp_one k
 |e::tp::r=>by
  show bH fY g c β ((aG.ev ab e).bind λv=>(MI.truthy v).bind λt=>match op,t with
   |.And,false=>M.pure v
   |.Or,true=>M.pure v
   |_,_=>x7 aG ab op (tp::r)) _ _
  have key:bH fY g c β ((aG.ev ab e).bind λv=>(MI.truthy v).bind λt=>match op,t with
   |.And,false=>M.pure v
   |.Or,true=>M.pure v
   |_,_=>x7 aG ab op (tp::r)) (λQ E s=>a5 g.M c.A (dM e env) (λv bg=>a5 g.M c.A (uF v) (λt b0=>match op,t with
    |.And,false=>Q v b0
    |.Or,true=>Q v b0
    |_,_=>a5 g.M c.A (dM (.BoolOp op (tp::r) pos) env) Q E b0) E bg) E s) a7:=by
   refine(ba.ev c ab env β e U V).bind λav v a l dv=>(Kc dv).bind (k:=λt=>λQ E b0=>match op,t with
    |.And,false=>Q a b0
    |.Or,true=>Q a b0
    |_,_=>a5 g.M c.A (dM (.BoolOp op (tp::r) pos) env) Q E b0) λd9 t dC a_ e=>?_
   subst e;have bj:=(Oj ba U V op pos (tp::r)).le (l.trans a_);cases op<;>cases dC<;>first|exact bj|exact bH.pure λI aaZ=>dv.le (a_.trans aaZ)
  refine key.of λQ E s k=>?_;cases op with
  |And=>exact BoolOp_and (d4 k (λv bg dr=>d4 dr (λt b0 fz=>by cases t<;>exact fz) λI I x=>x) λI I x=>x)
  |Or=>exact BoolOp_or (d4 k (λv bg dr=>d4 dr (λt b0 fz=>by cases t<;>exact fz) λI I x=>x) λI I x=>x)
theorem Xt(O:g.Ok)(ba:dW g aG)(U:c.Ok g ab.dep)(V:cc c ab env β)(l r:bk)(op:pJ)(pos:cq):
  cT g c β ((aG.ev ab l).bind λa=>(aG.ev ab r).bind λb=>binop op a b) (dN g c (dM (.BinOp l op r pos) env)) a7:=bH.of ((ba.ev c ab env β l U V).bind λav v a le ly=>(ba.ev c ab env av r U (V.le le)).bind λd9 gA dq og iZ=>VB O U (ly.le og) iZ op) λQ E s k=>qY k
theorem XC(ba:dW g aG)(U:c.Ok g ab.dep)(V:cc c ab env β)(x:bk)(pos:cq):
  cT g c β ((aG.ev ab x).bind λv=>(MI.truthy v).bind λt=>M.pure (Af (!t))) (dN g c (dM (.UnaryOp .Not x pos) env)) a7:=by refine bH.of ((ba.ev c ab env β x U V).bind λav v a l r=>(Kc r).bind (ej:=aB) (k:=λt=>λQ I s=>Q (Value.bool (!t)) s) λd9 t dC a_ e=>?_) λQ E s k=>UnaryOp_ (d4 k (λv bg dr=>not_of dr) λI I x=>x);subst e;exact .pure λI I=>rfl
theorem XI(ba:dW g aG)(U:c.Ok g ab.dep)(V:cc c ab env β)(x:bk)(pos:cq):
  cT g c β (Oi aG ab .USub x) (dN g c (dM (.UnaryOp .USub x pos) env)) a7:=
 bH.of ((ba.ev c ab env β x U V).bind (k:=λy=>dN g c (unaryOp .USub y)) λav v a l r aW st s aa H=>.aE (W:=λy=>dN g c (unaryOp .USub y)) (r.le aa) λe z t a8=>.bq λgU q=>.ret λQ E aq=>by
  induction e using MI.bo.casesOn with
  |lit=>(obtain J:=aT q;clear q;subst J);(obtain J:=aT a8;clear a8;subst J);exact PyProof.Rows.neg_int (aq _ _ aW (.refl _) H.toks ⟨_,_,rfl,rfl⟩)
  |aL=>exact bK q) λQ E s k=>UnaryOp_ k
theorem Xz(ba:dW g aG)(U:c.Ok g ab.dep)(V:cc c ab env β)(t b o:bk)(pos:cq):
  cT g c β ((aG.eO ab t).bind λc=>match c with
  |true=>aG.ev ab b
  |false=>aG.ev ab o) (dN g c (dM (.IfExp t b o pos) env)) a7:=by
 refine bH.of ((ba.eO c ab env β t U V).bind (k:=λt=>λQ E s=>if t=ae then a5 g.M c.A (dM b env) Q E s else a5 g.M c.A (dM o env) Q E s) λav v a l r=>?_) λQ E s k=>IfExp_ k;subst r;cases a
 .exact(ba.ev c ab env av o U (V.le l)).of λQ E s k=>by simpa using k
 .exact(ba.ev c ab env av b U (V.le l)).of λQ E s k=>by simpa using k
theorem Js{op:oE}{r:bk}(h:isSet r=ai):behindInMarks op r=false:=by cases r<;>first|rfl|exact jB h
theorem Xw(O:g.Ok)(ba:dW g aG)(U:c.Ok g ab.dep)(V:cc c ab env β)(l r:bk)(op:oE)(pos:cq):
  cT g c β (match isSet r with
  |false=>(aG.ev ab l).bind λa=>(aG.ev ab r).bind λb=>(cmp g.K op a b).bind λt=>M.pure (Af t)
  |true=>fail 148) (dN g c (dM (.Compare l [op] [r] pos) env)) a7:=by
 split
 .rename_i h;refine bH.of ((ba.ev c ab env β l U V).bind λav v a le ly=>(ba.ev c ab env av r U (V.le le)).bind λd9 gA dq og iZ=>(Nt O U (ly.le og) iZ op).bind (k:=λy=>λQ E s=>Q y s) λh2 t y _ e=>?_) λQ E s k=>wpAny_Compare1 k (Js h);subst e;exact .pure λ_ _=>rfl
 .exact .fail
theorem nD(h:isStar e=ai)(r:List bk):lG (e::r) env=(ai,dM e env)::lG r env:=by cases e<;>first|rfl|exact jB h
noncomputable def UE(n:Nat)(β:aZ)(aK:List MI.V)(aH:List aB):Prop:=bL (a7 β) aK aH/\aK.length=n
theorem tn(ba:dW g aG)(U:c.Ok g ab.dep)(pos:cq):∀(au:List bk){β:aZ},cc c ab env β->cT g c β (n8 aG ab au) (λQ E s=>a5 g.M c.A (spliced (mQ pos (lG au env))) Q E s) (UE au.length)
 |[],β,V=>(bH.pure (a:=([]:List aB)) λ_ _=>⟨.nil,rfl⟩).of λQ E s k=>nN k
 |e::r,β,V=>by
  show bH fY g c β (match isStar e with
  |true=>fail 118
  |false=>(aG.ev ab e).bind λv=>(n8 aG ab r).bind λaK=>M.pure (v::aK)) _ _
  split
  .exact .fail
  .rename_i h;refine bH.of ((ba.ev c ab env β e U V).bind λav v a l ly=>(tn ba U pos r (V.le l)).bind (k:=λaH=>λQ E s=>Q (a::aH) s) λd9 aK aH a_ iZ=>.pure λh2 hZ=>⟨.cons (ly.le (a_.trans hZ)) (iZ.1.imp λ_ _ x=>x.le hZ),?_⟩) λQ E s k=>kS k (nD h r);show aK.length+1=r.length+1;exact G iZ.2 rfl
theorem XH(O:g.Ok)(ba:dW g aG)(U:c.Ok g ab.dep)(V:cc c ab env β)(au:List bk)(k:Nat)(pos:cq):cT g c β (match c6 au.length 4000 with
  |true=>(n8 aG ab au).bind λaK=>(alloc (.tup aK)).bind λn=>M.pure (.r n)
  |false=>fail 142) (dN g c (dM (.Tuple au k pos) env)) a7:=by
 split
 .rename_i a8;obtain a8:=bA a8;refine bH.of ((tn ba U pos au V).bind (k:=λaH=>dN g c (newTuple aH)) λav aK aH l r=>λaW st s aa H=>.alloc λaO=>.ret λQ E aq=>?_) λQ E s k=>Tuple_ k;obtain len:=r.1.length;obtain bf:=r.2;refine wpAny_newTuple (aq _ _ (aW.new s.heap.objs.size s.heap.objs.size) (aW.gJ _ _) ?_ ⟨_,_,by exact G (bW H.len) (aW.lp _ _),rfl⟩) (nt (by lia));exact H.oQ (t:=s.toks) U aO (λ_ _ e=>f6 _ e) (dP _) (dP _) ⟨rfl,aH.toArray,0,nP _ rfl,r.1.imp λ_ _ x=>(x.le aa).le (aW.gJ _ _)⟩ rfl
 .exact .fail
theorem XB(O:g.Ok)(ba:dW g aG)(U:c.Ok g ab.dep)(V:cc c ab env β)(au:List bk)(pos:cq):cT g c β (match c6 au.length 4000 with
  |true=>(n8 aG ab au).bind λaK=>(alloc (.list aK)).bind λn=>M.pure (.r n)
  |false=>fail 142) (dN g c (dM (.List au pos) env)) a7:=by
 split
 .rename_i a8;obtain a8:=bA a8;refine bH.of ((tn ba U pos au V).bind (k:=λaH=>dN g c (newList aH)) λav aK aH l r=>λaW st s aa H=>.alloc λaO=>.ret λQ E aq=>?_) λQ E s k=>List_ k;obtain len:=r.1.length;obtain bf:=r.2;exact a3 (Dd (t:=s.toks) O U H aO (xs:=aK) (aH:=aH.toArray) (r.1.imp λ_ _ x=>x.le aa)) λpY rp=>LM (aq _ _ _ (aW.gJ _ _) pY rp) (nt (bR (eJ (len.symm.trans bf)) (bR a8 (bA rfl))))
 .exact .fail
theorem XA(O:g.Ok)(kF:∃au n,g.K.lookup layAt=C ⟨.type "dict",none,.dict au n,#[]⟩/\KeysLit g.w.params au.toList)(ba:dW g aG)(U:c.Ok g ab.dep)(V:cc c ab env β)(o i:bk)(pos:cq):cT g c β (match isSlice i with
  |true=>fail 143
  |false=>(aG.ev ab o).bind λgK=>(aG.ev ab i).bind λaE=>item g.K gK aE) (dN g c (dM (.Subscript o i pos) env)) a7:=by
 split
 .exact .fail
 .rename_i h;exact bH.of ((ba.ev c ab env β o U V).bind λav v a le ly=>(ba.ev c ab env av i U (V.le le)).bind λd9 gA dq og iZ=>aap O U kF (ly.le og) iZ o i h) λQ E s k=>q1 k
end
theorem bind_pure(m:M aQ):(m.bind λv=>M.pure v)=m:=by funext st;unfold M.bind M.pure;cases m st<;>rfl
theorem slicePick_from(items:Array aB)(d:Nat)(h:d<=items.size):q3 items (C (d:Int)) none none=(items.toList.drop d).toArray:=by
 obtain e:q3 items (C (d:Int)) none none=q3 items (C (d:Int)) (C (items.size:Int)) none:=by
  unfold q3;obtain this:sliceBounds (C (d:Int)) none none items.size=sliceBounds (C (d:Int)) (C (items.size:Int)) none items.size:=by
   simp only[sliceBounds,Option.getD_none];have af:¬((items.size:Int)<0):=by lia
   simp only[af,if_false,show(1:Int)>0 by exact aS rfl,if_true];congr 2;lia
  exact G this rfl
 (refine G e (G (slicePick_run items d items.size (dP _) h) ?_));congr 1;rw[List.take_of_length_le];simp
section
variable{c:bc}{ab:cK}
noncomputable abbrev lz(l u:aB):Obj:={cls:=.type "slice",data:=.fields #[l,u,.none]}
theorem J_(l u:Option bk)(p:cq)(o i:aB):subscripted (.Slice l u none p) ai o i=operate [i,o] (sE o i):=rfl
theorem Si(O:g.Ok)(U:c.Ok g dep){st:St}{s:aN}(H:Sat g c st β s){a1:az}{us:Array aB}{d:Nat}{t:Tok}(value lo:bk)(p:cq)(g1:s.heap.get? a1=C (listOf us n))(a8:z=(d:Int))(hd:d<=us.size)(rR:us.size<=200000)(R:bL (a7 β) xs (us.toList.drop d)):
  At X g c β st s (t6 xs) (λQ E s=>a5 g.M c.A (xo value (.Slice (C lo) none none p) (.ref a1) (.ref s.heap.objs.size)) Q E {s with heap:=s.heap.push (lz (.int z t) .none)}) a7:=.alloc λaO=>.ret λQ E aq=>by subst a8;have L:(s.heap.push (lz (.int (d:Int) t) .none)).IsList a1 us:=⟨_,f6 _ g1,rfl,n,rfl⟩;refine mP (s:={s with heap:=s.heap.push (lz (.int (d:Int) t) .none)}) L.typeIs xg.lookup ?_ (J_ _ _ _ _ _);refine T7 (s:={s with heap:=s.heap.push (lz (.int (d:Int) t) .none)}) L (TP ..) (.int (d:Int) t) .none .none (by simp) ?_ (nt (bR (by assumption) (bA rfl)));refine G (slicePick_from us d hd) ?_;have N:=Dd (t:=s.toks) O U (Sat.grow (t:=s.toks) H (ay:=s.heap.push (lz (.int (d:Int) t) .none)) λI I e=>f6 _ e) aO (xs:=xs) (aH:=(us.toList.drop d).toArray) R;exact aq _ _ _ (β.gJ _ _) N.1 N.2
theorem afh(O:g.Ok)(U:c.Ok g dep){a b:V}{x:aB}(c2:a7 β a x)(dy:a7 β b y)(value:bk)(lo:bk)(p:cq):
  bH X g c β (J5 a b) (λQ E s=>a5 g.M c.A (xo value (.Slice (C lo) none none p) x (.ref s.heap.objs.size)) Q E {s with heap:=s.heap.push (lz y .none)}) a7:=λaW st s aa H=>
 .dv (W:=λx=>λQ E s=>a5 g.M c.A (xo value (.Slice (C lo) none none p) x (.ref s.heap.objs.size)) Q E {s with heap:=s.heap.push (lz y .none)}) (c2.le aa) λn a1 eZ gH=>by
  have dy:=dy.le aa;generalize q:Bg b=aF;induction aF using b1 with
  |some oV=>
   cases Mx q;(refine cA dy λz t a8 J=>?_;try clear dy;(clear dy;subst J));refine .v7 H gH λj xs R=>.guard λq=>?_;have q:=(ew _ _).mp q;have en:=(ew _ _).mp q.2;obtain dT:j=oV.2:=d0 q.1;obtain cG:oV.1<=xs.length:=bA en.1;obtain fQ:xs.length<=4000:=bA en.2;(clear en q;subst dT);obtain(⟨_,us,t4,pre,post,g1,g2,g3,eg,gv⟩):=R;have eG:=eg.length;have fB:us.size=pre.length+post.length:=by exact G (bW w9) (G g2 (G iG rfl))
   obtain hm:most=4000:=rfl;obtain bt:=O.S;simp only[bo.val,g3,Ef] at a8;exact Si O U H (d:=oV.1+pre.length) value lo p g1 (by refine G (bW a8) ?_;show(oV.1:Int)+_=_;lia) (bR (j3 (bR cG (eJ eG)) _) (eJ ((kp _ _).trans fB.symm))) (bR (Ka fB eG gv hm bt fQ) (bA rfl)) (by(refine G g2 (G (kp _ _) (G (bW Eo) (G List.drop_left ?_))));exact eg.drop oV.1)
  |none=>refine .bq λd q=>.kH H gH λxs us t4 I g1 g2=>.guard λen=>?_;cases pf q;(refine cA dy λz t a8 J=>?_;try clear dy;subst J);(obtain J:=aT a8;clear a8;(clear dy;subst J));have q:=(ew _ _).mp en;obtain cG:=bA q.1;obtain fQ:=bA q.2;have eG:xs.length=us.size:=g2.length;exact Si O U H value lo p g1 rfl (by lia) (by lia) (g2.drop d)
theorem afg(O:g.Ok)(U:c.Ok g dep){a b:V}{x:aB}(c2:a7 β a x)(dy:a7 β b y)(value:bk)(bN:bk)(p:cq):
  bH X g c β (J4 a b) (λQ E s=>a5 g.M c.A (xo value (.Slice none (C bN) none p) x (.ref s.heap.objs.size)) Q E {s with heap:=s.heap.push (lz .none y)}) a7:=λaW st s aa H=>
 .cn (W:=λx=>λQ E s=>a5 g.M c.A (xo value (.Slice none (C bN) none p) x (.ref s.heap.objs.size)) Q E {s with heap:=s.heap.push (lz .none y)}) (c2.le aa) λe l t aX=>.bq λn q=>.guard λen=>.bq λf hf=>.ret λQ E aq=>by
  cases pf q;cases d0 en;(refine cA (dy.le aa) λz u a8 J=>?_;subst J);(obtain J:=aT a8;clear a8;(clear dy;subst J));(refine cA (ag.X0 hf aX) λch r J bJ=>?_;(clear aX;subst J));refine mP (s:={s with heap:=s.heap.push (lz .none (.int (pI 1) u))}) (typeIs_str _ _ _) F.slot_str_getitem.lookup ?_ (J_ _ _ _ _ _);have dd:Txt.slice (aR (ch::r)) none (C 1)=aR [ch]:=by obtain this:=slice_closes_to (x:=aR (ch::r)) (j:=1) ⟨by exact aS rfl,by simp[aR];lia⟩;refine G (beq_iff_eq.mp this) ?_;simp[aR]
  refine wpAny_getItem_str_slice (s:={s with heap:=s.heap.push (lz .none (.int (pI 1) u))}) (l:=none) (u:=C (1,u)) (st:=none) ⟨_,nP _ rfl,rfl,rfl⟩ rfl ?_;refine post_val_or_str ⟨?_,λdC k=>?_⟩
  .show(Txt.slice (aR (ch::r)) none (C 1)).length<=oB;exact G dd (nt (by simp[aR,Str.length]))
  .show Q (.str (Txt.slice (aR (ch::r)) none (C 1)) dC) _;exact G dd (aq _ _ aW (.refl _) (H.grow λI I e=>f6 _ e) ⟨[ch],_,bJ,rfl⟩)
theorem BM{Q:aB->aN->Prop}{s:aN}(h:Q .none s):a5 g.M c.A (evalPart none env) Q E s:=d3 h
theorem XF(O:g.Ok)(ba:dW g aG)(U:c.Ok g ab.dep)(V:cc c ab env β)(o lo:bk)(p pos:cq):cT g c β ((aG.ev ab o).bind λgK=>(aG.ev ab lo).bind λi=>J5 gK i)
  (dN g c (dM (.Subscript o (.Slice (C lo) none none p) pos) env)) a7:=by refine bH.of ((ba.ev c ab env β o U V).bind λav v a le ly=>(ba.ev c ab env av lo U (V.le le)).bind λd9 gA dq og iZ=>afh O U (ly.le og) iZ o lo p) λQ E s k=>q1 (d4 k (λa bg dr=>?_) λI I x=>x);exact wpAny_Slice (d4 dr (λb b0 fz=>BM (BM fz)) λI I x=>x)
theorem XE(O:g.Ok)(ba:dW g aG)(U:c.Ok g ab.dep)(V:cc c ab env β)(o bN:bk)(p pos:cq):cT g c β ((aG.ev ab o).bind λgK=>(aG.ev ab bN).bind λi=>J4 gK i)
  (dN g c (dM (.Subscript o (.Slice none (C bN) none p) pos) env)) a7:=by refine bH.of ((ba.ev c ab env β o U V).bind λav v a le ly=>(ba.ev c ab env av bN U (V.le le)).bind λd9 gA dq og iZ=>afg O U (ly.le og) iZ o bN p) λQ E s k=>q1 (d4 k (λa bg dr=>?_) λI I x=>x);exact wpAny_Slice (BM (d4 dr (λb b0 fz=>BM fz) λI I x=>x))
noncomputable abbrev Fm(g:cz)(c:bc)(env:hB)(e:bk):Wp Bool:=λQ E s=>a5 g.M c.A (uR e env (dM e env)) Q E s
noncomputable def qv(_:aZ)(b dF:Bool):Prop:=dF=b
theorem Mz(ba:dW g aG)(U:c.Ok g ab.dep)(op:BoolOp)(pos:cq)(whole:hC aB):∀(au:List bk){β:aZ},cc c ab env β->cT g c β (xZ aG ab op au) (λQ E s=>a5 g.M c.A (uR (.BoolOp op au pos) env whole) Q E s) qv
 |[],β,V=>by
  cases op with
  |And=>exact bH.of (bH.pure (a:=ae) λI I=>rfl) λQ E s k=>isTrue_and_nil k
  |Or=>exact bH.of (bH.pure (a:=ai) λI I=>rfl) λQ E s k=>isTrue_or_nil k
 |e::r,β,V=>by
  show bH fY g c β ((aG.eO ab e).bind λt=>match op,t with
   |.And,false=>M.pure ai
   |.Or,true=>M.pure ae
   |_,_=>xZ aG ab op r) _ _
  have key:=(ba.eO c ab env β e U V).bind (f:=λt=>match op,t with
   |.And,false=>M.pure ai
   |.Or,true=>M.pure ae
   |_,_=>xZ aG ab op r) (k:=λt=>λ(Q:Bool->aN->Prop) E b0=>match op,t with
    |.And,false=>Q ai b0
    |.Or,true=>Q ae b0
    |_,_=>a5 g.M c.A (uR (.BoolOp op r pos) env whole) Q E b0) (cD:=qv) λav t dC l e=>by subst e;have bj:=Mz ba U op pos whole r (V.le l);cases op<;>cases dC<;>first|exact bj|exact bH.pure λI I=>rfl
  refine key.of λQ E s k=>?_;cases op with
  |And=>exact AO (d4 k (λt b0 fz=>by cases t<;>exact fz) λI I x=>x)
  |Or=>exact isTrue_or (d4 k (λt b0 fz=>by cases t<;>exact fz) λI I x=>x)
theorem afP(O:g.Ok)(ba:dW g aG)(U:c.Ok g ab.dep)(V:cc c ab env β)(l r:bk)(op:oE)(pos:cq):
  cT g c β (match isSet r with
  |false=>(aG.ev ab l).bind λa=>(aG.ev ab r).bind λb=>cmp g.K op a b
  |true=>fail 148) (Fm g c env (.Compare l [op] [r] pos)) qv:=by
 split
 .rename_i h;have key:∀{d9:aZ}{v gA:MI.V}{a dq:aB},a7 d9 v a->a7 d9 gA dq->cT g c d9 (cmp g.K op v gA) (λQ E s=>a5 g.M c.A (EM op a dq) (λy bg=>a5 g.M c.A (uF y) Q E bg) E s) qv:=λly iZ=>by
   obtain this:=(Nt (X:=fY) O U ly iZ op).bind (f:=λt=>M.pure t) (k:=λy=>λ(Q:Bool->aN->Prop) E s=>a5 g.M c.A (uF y) Q E s) (cD:=qv) λh2 t y _ e=>by subst e;exact bH.of (bH.pure (a:=t) (R:=qv) λ_ _=>rfl) λQ E s k=>λ_ _ _=>k
   rwa [bind_pure] at this
  refine bH.of ((ba.ev c ab env β l U V).bind λav v a le ly=>(ba.ev c ab env av r U (V.le le)).bind λd9 gA dq og iZ=>key (ly.le og) iZ) λQ E s k=>?_
  .show a5 g.M c.A (do testChain pos (<-dM l env) [op] (markedEach [op] [r] [dM r env])) Q E s;refine b3 (d4 k (λa bg dr=>?_) λ_ _ x=>x);show a5 g.M c.A (do
    let dv <-sF [a] (markedBehindIn op r (dM r env))
    uO pos
    let c <-operate [a,dv] (EM op a dv)
    sF [c] (uF c)) Q E bg
   exact G (Ub (Js h)) (b3 (iI (d4 dr (λb b0 fz=>b3 (kX (b3 (wpAny_operating (d4 fz (λv dB kG=>iI kG) λ_ _ x=>x))))) λ_ _ x=>x)))
 .exact .fail
theorem SG(ba:dW g aG)(U:c.Ok g ab.dep)(V:cc c ab env β)(e:bk)(he:uR e env (dM e env)=(do let v <-dM e env;uO e.pos;sF [v] (uF v))):
  cT g c β ((aG.ev ab e).bind MI.truthy) (Fm g c env e) qv:=by refine bH.of ((ba.ev c ab env β e U V).bind λav v a l r=>(Kc r).imp λI I I I q=>q) λQ E s k=>isTrue_plain k he
theorem afO(O:g.Ok)(ba:dW g aG)(U:c.Ok g ab.dep)(V:cc c ab env β)(e:bk):cT g c β (SF aG g.K ab e) (Fm g c env e) qv:=by
 cases e with
 |UnaryOp op x p=>
  cases op with
  |Not=>exact bH.of ((ba.eO c ab env β x U V).bind (f:=λt=>M.pure (!t)) (k:=λt=>λ(Q:Bool->aN->Prop) I s=>Q (!t) s) (cD:=qv) λav t dC l e=>.pure λI I=>congrArg (!·) e) λQ E s k=>isTrue_not k
  |_=>exact SG ba U V _ rfl
 |BoolOp=>exact Mz ba U _ _ _ _ V
 |IfExp=>exact .fail
 |Compare l ops rs p=>exact .asks λop aa=>.asks λr af=>by(refine G (lu aa) (G (lu af) ?_));exact afP O ba U V l r op p
 |_=>exact SG ba U V _ rfl
end
theorem ip.of{o:cj}(h:∀aK,o.data≠.fields aK):ip o:=λaK e=>absurd e (h aK)
theorem cN.Q7{a6:az->Option cj}{a:az}(iT:o≠.gone)(R:cN g a6 β a d o):(∃x,a6 a=C x/\ip x)/\∃x,a6 d=C x/\ip x:=by
 have one:∀{x},a=d->a6 a=C x->ip x->(∃x,a6 a=C x/\ip x)/\∃x,a6 d=C x/\ip x:=λe h n=>by(clear R;subst e);exact⟨(bh _ h n),_,h,n⟩
 induction o using MI.O.casesOn with
 |inst=>obtain(⟨_,_,_,aa,af,_⟩):=R;exact⟨(bh _ aa (.of λI e=>nomatch e)),_,af,.of λI e=>nomatch e⟩
 |list=>obtain(⟨e,_,_,aa,_⟩):=R;exact one e aa (.of λI e=>nomatch e)
 |iQ=>obtain(⟨e,_,_,_,_,aa,_⟩):=R;exact one e aa (.of λI e=>nomatch e)
 |tup=>obtain(⟨e,_,_,aa,_⟩):=R;exact one e aa (.of λI e=>nomatch e)
 |dict=>obtain(⟨e,_,_,_,aa,af,_⟩):=R;(refine fD af λI I I hd I=>?_;try clear af);exact one e aa (.of λI e=>nomatch hd.symm.trans e)
 |jx=>obtain(⟨e,_,_,_,aa,af,_⟩):=R;(refine fD af λI I I hd I=>?_;try clear af);exact one e aa (.of λI e=>nomatch hd.symm.trans e)
 |qJ=>obtain(⟨e,_,_,_,aa⟩):=R;exact one e aa λaK e=>by cases e;exact⟨dP _,_,rfl⟩
 |cell=>obtain(⟨e,_,_,aa,hd,_⟩):=R;exact one e aa (.of λI e=>nomatch hd.symm.trans e)
 |it=>obtain(⟨e,_,_,_,_,aa,bb,hd⟩):=R;exact one e aa λaK e=>by cases hd.symm.trans e;exact⟨by simp,_,bb⟩
 |nk=>obtain(⟨e,_,_,_,_,aa,bb,hd⟩):=R;exact one e aa λaK e=>by cases hd.symm.trans e;exact⟨by simp,_,bb⟩
 |itR=>(refine a3 R λe aa=>?_;try clear R);exact one e aa λaK e=>by cases e;exact⟨by simp,_,rfl⟩
 |raw=>(refine fO R λe aa af=>?_;try clear R);exact one e aa af
 |gone=>exact absurd rfl iT
section
variable{c:bc}{st:St}{s:aN}{ab:cK}
theorem SatO.uc(H:SatO g c st β h){b:az}{o:cj}(aD:h.get? b=C o)(cb:¬ip o):∀n y a d,st.σ.get n=C (ae,y)->β.ad[n]? =C (a,d)->a≠b/\d≠b:=by intro n y a d bM aV;refine bG H.objs λf hf=>?_;obtain(⟨dq,ec,aa,af,aJ⟩):=hf n ae y bM;rw[aV] at aa;(obtain J:=aT aa;clear aa;refine a3 (eD J) λbU cv=>?_;clear J;subst bU;subst cv);obtain(⟨_,_,_,_,iT⟩):=aJ rfl;obtain(⟨⟨x,a9,dc⟩,sh,bf,dA⟩):=cN.Q7 iT (show cN g h.get? β a d y from af);exact⟨λe=>by rw[e,aD] at a9;(obtain J:=aT a9;clear a9;subst J);exact cb dc,λe=>by rw[e,aD] at bf;(obtain J:=aT bf;clear bf;subst J);exact cb dA⟩
theorem Sat.slots(U:c.Ok g dep)(H:Sat g c st β s)(N:az->Prop)(kb:∀b,N b->c.P b=none)(qj:∀b,N b->∀n y a d,st.σ.get n=C (ae,y)->β.ad[n]? =C (a,d)->a≠b/\d≠b)
  (k:∀b o,s.heap.get? b=C o->¬N b->b≠c.L->(∀x∈c.cx,x.1≠b)->ay.get? b=C o)
  (u:∀b o,s.heap.get? b=C o->(b=c.L\/∃x∈c.cx,x.1=b)->(∀aK,o.data≠.fields aK)->∃dd,ay.get? b=C {o with slots:=dd}):Sat g c st β {s with heap:=ay,toks:=t}:=by
 refine bG H.objs λf hf=>⟨⟨λa o e=>?_,λx ak=>?_,⟨f,λn own y q=>?_⟩,H.len,H.facts,H.ghost⟩,H.os,?_⟩
 .refine k a o (H.keep a o e) (λn=>?_) (λz=>?_) (λx ak z=>?_)
  .rw[kb a n] at e;exact bK e
  .rw[z,U.iX] at e;exact bK e
  .rw[<-z,(U.hd x ak).1] at e;exact bK e
 .refine bG (H.cx x ak) λdd e=>?_;obtain(⟨_,au,n,hd⟩):=U.hd x ak;exact bG (u x.1 _ e (.inr (bh x ak rfl)) (λaK z=>by rw[show({x.2 with slots:=dd}:cj).data=x.2.data from rfl,hd] at z;(injection z))) λafe cf=>⟨afe,cf⟩
 .obtain(⟨a,d,aa,af,aJ⟩):=hf n own y q;refine⟨a,d,aa,?_,aJ⟩;induction own using bV with
  |false=>exact af
  |true=>obtain(⟨_,_,hM,fd,_⟩):=aJ rfl;exact af.mono (.refl _) (λo e=>k a o e (λz=>(qj a z n y a d q aa).1 rfl) hM.2.1 hM.2.2) (λo e=>k d o e (λz=>(qj d z n y a d q aa).2 rfl) fd.2.1 fd.2.2)
 ·(refine aU H.loc λm J b=>kh J λo au fm bx hd r=>?_;try clear J);exact bG (u c.L o bx (.inl rfl) (λaK z=>by rw[hd] at z;(injection z))) λdd e=>⟨m,⟨_,au,fm,e,hd,r⟩,b⟩
theorem acj{e:aB}{cL:hB}(h:env.frame=cL.frame):q4 e env=q4 e cL:=by unfold q4 PySem.frameOf;exact G h rfl
theorem ON(U:c.Ok g dep)(H:Sat g c st β s){B:gj}(g4:∀b,(b=c.L\/∃x∈c.cx,x.1=b)->B.get? b=none)(k:∀b o,(b=c.L\/∃x∈c.cx,x.1=b)->s.heap.get? b=C o->ay.get? b=C o):
  ∀l:List hB,(∀env∈l,env∈c.fr)->ay.FunFrames B l
 |[],_=>trivial
 |env::l,aX=>by
  obtain(⟨aw,a,hf,aV⟩):=U.here env (aX env (.head _));have fo:a=c.L\/∃x∈c.cx,x.1=a:=aV;refine⟨aw,⟨a,?_⟩,ON U H g4 k l λe he=>aX e (.tail _ he)⟩;rcases aV with rfl|⟨x,ak,rfl⟩
  ·(refine aU H.loc λm J I=>kh J λo au fm bx hd I=>?_;try clear J);exact(l8 o hf (g4 _ fo) (k _ _ fo bx) (λaK z=>by rw[hd] at z;(injection z)))
  .refine bG (H.cx x ak) λdd e=>?_;obtain(⟨_,au,n,hd⟩):=U.hd x ak;exact(l8 _ hf (g4 _ fo) (k _ _ fo e) (λaK z=>by rw[show({x.2 with slots:=dd}:cj).data=x.2.data from rfl,hd] at z;(injection z)))
theorem pU.record{e:az}(F:pU c s.heap e P):∃o,s.heap.get? e=C o/\¬ip o:=by refine ig F.told λcg aK aa af aJ I=>(bh cg aa (λn=>?_));obtain(⟨_,t,ff⟩):=n aK aJ;rw[af] at ff;injection ff
theorem zI{o:cj}{cp:Array aB}{eM:aB}(h:o.data=.fields cp)(aJ:cp[3]? =C eM):¬ip o:=λn=>by refine a3 (n cp h) λa I=>bG (D8.mp aJ) λb I=>?_;exact absurd (by assumption) (Ek (by assumption))
theorem zJ(U:c.Ok g dep)(V:∃e rest,c.fr=e::rest/\env.frame=e.frame){v:aB}{Q:Unit->aN->Prop}(F:fY g c st β v s)(aq:∀ao,Told g c st β v ao->Q () ao):a5 g.M c.A (q4 v env) Q E s:=by
 (refine eH F λe J gG H=>?_;try clear F;subst J);(refine cA V λBO outer tH Zh=>?_;try clear V);refine G (acj Zh) ?_;obtain(⟨aw,L,gw,ahp⟩):=U.here BO (G tH (.head _));refine aU gG.record λahJ Zb Zc=>?_;have acR:=H.toSatO.uc Zb Zc;(refine ih gG.told λcg aK he bb hd kE J aa=>bG J λiL h0=>?_;try clear J);obtain ix:c.A.frames=C (BO::outer):=by exact G U.frames (G tH rfl)
 obtain Z9:∀env∈(BO::outer),env∈c.fr:=λenv h=>by exact G tH h
 obtain rR:1<aK.size:=by rcases aa with⟨_,aa⟩|⟨bX,_,_,_,aa,_⟩<;>exact(Array.getElem?_eq_some_iff.mp aa).1
 obtain Yb:∀b,(b=c.L\/∃x∈c.cx,x.1=b)->b∈(c.L::c.cx.map (·.1)):=λb aD=>by
  rcases aD with rfl|⟨x,ak,rfl⟩
  .exact .head _
  .exact .tail _ (kU ak)
 have OM:∀b,b∈(c.L::c.cx.map (·.1))->(b=c.L\/∃x∈c.cx,x.1=b):=λb aD=>by
  rcases dh.mp aD with h|h
  .exact .inl h
  .exact aU (kY.mp h) λx ak e=>.inr (bh x ak e)
 have fin:∀(dr:gj)(T:List az),(∀b,s.heap.get? b=dr.get? b\/b∈T)->(∀b∈T,c.P b=none/\b≠e/\(∀n y a d,st.σ.get n=C (ae,y)->β.ad[n]? =C (a,d)->a≠b/\d≠b)/\¬(b=c.L\/∃x∈c.cx,x.1=b))->
   (∀head O4,a5 g.M c.A (do let a <-PySem.frameOf BO;let kj <-entryPlaceOf L O4;let b <-EntryCells.newEntry head a .none (q6 L) .none kj;setField (.ref e) 1 b) Q E {s with heap:=dr}):=by
  intro dr T e0 yE head O4;have kb:∀b,b∈(e::T)->¬(b=c.L\/∃x∈c.cx,x.1=b):=λb aD=>by
   rcases dh.mp aD with rfl|aD
   .rintro (z|⟨x,ak,z⟩)
    ·(refine aU H.loc λm J I=>kh J λo au fm bx kc I=>?_;try clear J);rw[<-z,he] at bx;(obtain J:=aT bx;clear bx;subst J);rw[hd] at kc;injection kc
    .refine bG (H.cx x ak) λdd cf=>?_;obtain(⟨_,au,n,kc⟩):=U.hd x ak;rw[z,he] at cf;(obtain J:=aT cf;clear cf;(clear he bb;subst J));rw[show({x.2 with slots:=dd}:cj).data=x.2.data from rfl,kc] at hd;injection hd
   .exact(yE b aD).2.2.2
  have W8:e∉T:=λh=>(yE e h).2.1 rfl;have Ca:dr.get? e=C cg:=by
   rcases e0 e with h|h
   .exact G (bW h) he
   .exact absurd h W8
  let as:=(c.L::c.cx.map (·.1))++(e::T);have cx:∀b,b∈as->(hideAll dr as).get? b=none:=λb aD=>qX _ aD;refine wpAny_entryW (s:={s with heap:=dr}) (base:=hideAll dr as) ix (ON U H (λb aD=>cx b (q8 _ (Yb b aD))) (λb o aD bx=>?_) _ Z9) gw Ca (λb o q=>of_hideAll _ q) (cx e (sL _ (.head _))) hd rR h0 λay O1=>?_
  .rcases e0 b with h|h
   .exact G (bW h) bx
   .exact absurd aD (kb b (.tail _ h))
  ·(refine Ju O1 λbw c3 J mB=>?_;try clear O1;refine acA J λRp S_ bX e2 cp g1 bU eg gv jb OO Hr Ye yu=>?_;try clear J;refine a3 bU λg2 g3=>?_;try clear bU);have keep:∀b o,s.heap.get? b=C o->¬(b∈(e::T))->b≠c.L->(∀x∈c.cx,x.1≠b)->ay.get? b=C o:=λb o q eV dY wc=>by
    refine bw b o (EE _ ?_ λhm=>?_)
    .rcases e0 b with h|h
     .exact G (bW h) q
     .exact absurd (mR _ h) eV
    .rcases me.mp hm with hm|hm
     .rcases OM b hm with z|⟨x,ak,z⟩
      .exact dY z
      .exact wc x ak z
     .exact eV hm
   obtain eE:Sat g c st β {s with heap:=ay,toks:=s.toks}:=Sat.slots U H (λb=>b∈(e::T)) (λb aD=>by
     rcases dh.mp aD with rfl|aD
     .exact kE
     .exact(yE b aD).1) (λb aD=>by
     rcases dh.mp aD with rfl|aD
     .exact acR
     .exact(yE b aD).2.2.1) keep λb o q aD HZ=>by
      refine mB b o ?_ HZ;rcases e0 b with h|h
      .exact G (bW h) q
      .exact absurd aD (kb b (.tail _ h))
   refine aq _ ⟨e,rfl,⟨Rp,S_,g1,by exact G g2 (G bb rfl),eg,kE,⟨iL,g3⟩,.inr (si bX e2 cp _ gv OO ?_ Hr Ye yu)⟩,eE⟩;generalize q:c.P bX=aF;induction aF using b1 with
   |none=>rfl
   |some o=>
    exfalso;obtain bM:=H.keep bX o q;have eV:bX∉(e::T):=λhm=>by
     rcases dh.mp hm with z|z
     .exact OO z
     .rw[(yE bX z).1] at q;exact bK q
    obtain dY:¬(bX=c.L\/∃x∈c.cx,x.1=bX):=by
     rintro (z|⟨x,ak,z⟩)
     .rw[z,U.iX] at q;exact bK q
     .rw[<-z,(U.hd x ak).1] at q;exact bK q
    obtain this:(hideAll dr as).get? bX=C o:=by
     refine EE _ ?_ λhm=>?_
     .rcases e0 bX with h|h
      .exact G (bW h) bM
      .exact absurd (mR _ h) eV
     .rcases me.mp hm with hm|hm
      .exact dY (OM _ hm)
      .exact eV hm
    rw[jb] at this;exact bK this
 unfold q4;simp only[gw];rcases aa with⟨_,aa⟩|⟨T,e2,cp,eM,aa,iO,kD,e0,iz,aJ⟩
 .exact b3 (AM he hd aa (G (if_neg (by exact sm)) (fin s.heap [] (λb=>.inl rfl) (λb aD=>(nomatch aD)) _ _)))
 .refine b3 (AM he hd aa (G (if_pos (show(lF T !=xq)=ae from by simp)) (b3 (AM e0 iz aJ ?_))));by_cases hf:(eM==q6 L)=ae
  .exact G (if_pos hf) (d3 (aq s ⟨e,rfl,⟨cg,aK,he,bb,hd,kE,⟨iL,h0⟩,.inr (si T e2 cp eM aa iO kD e0 iz aJ)⟩,H⟩))
  .refine G (if_neg hf) (b3 (wpAny_setField e0 iz (D8.mp aJ).1 ?_));have other:∀b,b≠T->(s.heap.update T (Obj.mapFields (·.setIfInBounds 3 xq))).get? b=s.heap.get? b:=λb aD=>Ao _ _ (j1 aD);refine fin _ [T] (λb=>?_) (λb aD=>?_) _ _
   .by_cases h:b=T
    .exact .inr (G h (.head _))
    .exact .inl (other b h).symm
   .obtain rfl:=eu.mp aD;refine(Ti kD iO (H.toSatO.uc e0 (zI iz aJ)) ?_);rintro (z|⟨x,ak,z⟩)
    ·(refine aU H.loc λm J I=>kh J λo au fm bx kc I=>?_;try clear J);rw[<-z,e0] at bx;(obtain J:=aT bx;clear bx;subst J);rw[iz] at kc;injection kc
    .refine bG (H.cx x ak) λdd cf=>?_;obtain(⟨_,au,n,kc⟩):=U.hd x ak;rw[z,e0] at cf;(obtain J:=aT cf;clear cf;(clear e0;subst J));rw[show({x.2 with slots:=dd}:cj).data=x.2.data from rfl,kc] at iz;injection iz
theorem vt(U:c.Ok g dep){v:aB}{Q:Unit->aN->Prop}{fr:Option az}(F:Told g c st β v s)(aq:∀ao,Told g c st β v ao->Q () ao):a5 g.M c.A (setFlight v fr) Q E s:=by
 (refine eH F λe J gG H=>?_;try clear F;subst J);refine ih gG.told λcg aK he bb hd kE h0 aa=>wt (aa.resolve_left λq=>q.1 trivial) λT e2 cp eM aa iO kD e0 iz aJ=>?_;have Pq:3<cp.size:=(D8.mp aJ).1;unfold setFlight;refine b3 (AM he hd aa (G (if_pos (show(lF T !=xq)=ae from by simp)) (wpAny_setField e0 iz Pq (aq _ ⟨e,rfl,⟨cg,aK,?_,bb,hd,kE,h0,.inr (si T _ _ _ aa iO kD (Ec _ e0 (Obj.isFreed_of_fields (Obj.data_mapFields iz _))) (Obj.data_mapFields iz _) (by simp[Pq];rfl))⟩,?_⟩))))
 .exact(Ao _ _ iO).trans he
 .exact Sat.slots (t:=s.toks) U H (λb=>b=T) (λb aD=>by exact G aD kD) (λb aD=>by exact G aD (H.toSatO.uc e0 (zI iz aJ)))
   (λb o q n I I=>(Ao _ _ (j1 n)).trans q) λb o q aD HZ=>⟨o.slots,(Ao _ _ (λz:T=b=>by(clear aD;subst z);rw[e0] at q;(obtain J:=aT q;clear q;subst J);exact HZ cp iz)).trans q⟩
theorem SE{v:aB}{Q:aB->aN->Prop}(F:Told g c st β v s)(aq:∀T,Q (.ref T) s):a5 g.M c.A (field v 1) Q E s:=by(refine eH F λe J gG H=>?_;try clear F;subst J);exact ih gG.told λcg aK he bb hd kE h0 aa=>wt (aa.resolve_left λq=>q.1 trivial) λT e2 cp eM aa iO kD e0 iz aJ=>AM he hd aa (aq T)
theorem VS(U:c.Ok g dep){v:aB}(F:Told g c st β v s)(aq:∀ao,Told g c st β v ao->E v ao):nL g.M c.A env E v s:=by unfold nL;exact b3 (SE F λT=>G (if_neg (by simp)) (vt U F aq))
theorem JD{agu:String}(U:c.Ok g dep){v:aB}{Q:aQ->aN->Prop}(F:Told g c st β v s)(aq:∀ao,Told g c st β v ao->E v ao):a5 g.M c.A (passOn agu v env) Q E s:=by unfold PySem.passOn;exact b3 (SE F λT=>G (if_neg (by simp)) (b3 (vt U F λao pT=>wpAny_throw (aq ao pT))))
end
section
variable{c:bc}{ab:cK}{ah:Type}{m:M aQ}{W:Wp ah}{R:aZ->aQ->ah->Prop}
theorem bH.qC(U:c.Ok g dep)(V:cc c ab env β)(h:cT g c β m W R):rt g c β m (λQ E s=>W Q (iF g.M c.A env E) s) R:=λaW st s aa H=>by
 obtain h:=h aW st s aa H;unfold At at h ⊢;split at h
 .trivial
 .exact λQ E aq=>h Q _ aq
 .exact λQ E aq=>h Q _ λe ao av l F=>zJ U V.frame F λfa pT=>aq e fa av l pT
theorem bH.back(U:c.Ok g dep)(h:rt g c β m W R):cT g c β m (λQ E s=>W Q (nL g.M c.A env E) s) R:=λaW st s aa H=>by
 obtain h:=h aW st s aa H;unfold At at h ⊢;split at h
 .trivial
 .exact λQ E aq=>h Q _ aq
 .exact λQ E aq=>h Q _ λe ao av l F=>VS U F λfa pT=>aq e fa av l pT.raised
end
section
variable{c:bc}{ab:cK}
noncomputable def UA(β:aZ)(k:Nat)(y:aB):Prop:=∃a d,y=.ref a/\β.ad[k]? =C (a,d)
theorem afi(n:Nat)(h:n<=4000):Builtin.Range.small 0 (n:Int) 1=true:=small_one (aS rfl) (aS rfl) (kV _) (by lia)
theorem adV(n:Nat):Builtin.Range.rangeSize 0 (n:Int) 1=(n:Int):=by refine G (rangeSize_one _ _) ?_;split<;>lia
theorem y_(O:g.Ok)(U:c.Ok g dep){v:MI.V}(r:a7 β v y):bH X g c β (nq v) (λQ E s=>a5 g.M c.A (oD y) Q E s) UA:=by
 intro aW st s aa H;obtain r:=r.le aa;unfold nq;induction v using MI.V.casesOn with
 |r n=>
  (refine cA r λa1 eZ gH J=>?_;try clear r;(clear r;subst J));refine .oh H gH λo R=>?_;induction o using MI.O.casesOn with
  |list xs=>obtain(⟨_,us,k,g1,g2⟩):=R;refine .FE λaO Q E aq=>wpAny_pyIter_list (qZ g1) (aq _ _ (aW.new s.heap.objs.size s.heap.objs.size) (aW.gJ _ _) ?_ ⟨_,_,rfl,by exact G (bW H.len) (aW.lp _ _)⟩);exact H.oQ (t:=s.toks) U aO (λ_ _ e=>f6 _ e) (dP _) (dP _) ⟨rfl,a1,eZ,_,a4 (aW.gJ _ _).ad gH,nP _ rfl,rfl,rfl⟩ rfl
  |tup xs=>obtain(⟨_,us,k,g1,g2⟩):=R;refine .FE λaO Q E aq=>wpAny_pyIter_tuple (t:=a1) (items:=us) ⟨_,g1,rfl,k,rfl⟩ (aq _ _ (aW.new s.heap.objs.size s.heap.objs.size) (aW.gJ _ _) ?_ ⟨_,_,rfl,by exact G (bW H.len) (aW.lp _ _)⟩);exact H.oQ (t:=s.toks) U aO (λ_ _ e=>f6 _ e) (dP _) (dP _) ⟨rfl,a1,eZ,_,a4 (aW.gJ _ _).ad gH,nP _ rfl,rfl,rfl⟩ rfl
  |qJ m=>
   obtain(⟨_,t,u,w,g1⟩):=R;dsimp only;split
   .rename_i hm;obtain hm:=bA hm;refine .FE λaO Q E aq=>wpAny_pyIter_range g1 (afi m hm) (aq _ _ (aW.new s.heap.objs.size s.heap.objs.size) (aW.gJ _ _) ?_ ⟨_,_,rfl,by exact G (bW H.len) (aW.lp _ _)⟩);refine H.oQ (t:=s.toks) U aO (λ_ _ e=>f6 _ e) (dP _) (dP _) ⟨rfl,?_⟩ rfl;(refine G (nP _ rfl) ?_;refine G (adV _) ?_);rfl
   .exact .fail
  |_=>exact .fail
 |_=>exact .fail
noncomputable abbrev UK(g:cz)(c:bc)(a:az):Wp (Option aB):=λQ E s=>a5 g.M c.A (pyNext (.ref a)) (λr bg=>match r with
 |none=>Q none bg
 |some y=>∀target,a5 g.M c.A (Es target (.ref a) y) (λI b0=>Q (C y) b0) E bg) E s
noncomputable def UJ(β:aZ)(o:Option MI.V)(r:Option aB):Prop:=match o,r with
 |none,none=>True
 |some v,some y=>a7 β v y
 |_,_=>False
theorem zS{a:az}{n:String}{s:aN}{o:cj}{Q:Unit->aN->Prop}(bx:s.heap.get? a=C o)(bb:o.cls=.type n)
  (aO:["enumerate","zip","dict_itemiterator","dict_reverseitemiterator","odict_iterator","itertools.zip_longest","itertools.pairwise"].contains n=ai)(aq:Q () s)(target:bk):
  a5 g.M c.A (Es target (.ref a) y) Q E s:=by
 have key:a5 g.M c.A (do
   let(.ref r,.ref a):=(lF a,y)|return
   let o <-PySem.load r
   match o.cls,o.data with
   |.type n,.fields aK=>
    if["enumerate","zip","dict_itemiterator","dict_reverseitemiterator","odict_iterator","itertools.zip_longest","itertools.pairwise"].contains n&&aK[0]? ==C (q6 a) then
     rule "for.unpacks-the-owned-tuple"
     updateField r 0 .none
   |_,_=>pure ()) Q E s:=by
  induction y using lJ with
  |ref b=>
   refine b3 (wpAny_load bx ?_);obtain(⟨bF,ua,pj,gb⟩):=o;subst bb;clear bx;induction pj using Au with
   |fields aK=>dsimp only;exact G aO (d3 aq)
   |_=>exact d3 aq
  |_=>exact d3 aq
 cases target with
 |Tuple _ _ _=>exact key
 |List _ _=>exact key
 |_=>exact d3 aq
theorem Q3(U:c.Ok g dep)(dO:dep<400){a:az}(aw:β.ad[k]? =C (a,d)):bH X g c β (nextOf k) (UK g c a) UJ:=by
 intro aW st s aa H;have aw:=a4 aa.ad aw;have hr:=U.calm dO;unfold nextOf;refine .oh H aw λo R=>?_;induction o using MI.O.casesOn with
 |it n i=>
  obtain(⟨g0,l,dl,f_,aX,dc,dA,hx⟩):=R;have hit:s.heap.IsListIter a l i:=⟨f_,dc,dA,hx⟩;refine .load H λo dq ec H2 fo R=>?_;rw[aX] at fo;(obtain J:=aT fo;clear fo;refine a3 (eD J) λbU cv=>?_;clear J;subst bU;subst cv);clear H2;induction o using MI.O.casesOn with
  |list xs=>
   obtain(⟨_,us,q,g1,g2⟩):=R;dsimp only;refine G (f3 _ _) ?_;generalize ak:xs[i]? =aF;induction aF using b1 with
   |none=>
    refine .drop λgs aO bM=>.ret λQ E aq=>?_;obtain this:us[i]? =none:=by refine G (bW pN) ?_;exact g2.OW ak
    exact wpAny_pyNext_list_end hr hit (qZ g1) this λay he=>aq none _ aW (.refl _) (H.gone (t:=s.toks) aO bM aw (.inl rfl) he) trivial
   |some v=>refine aU (g2.get ak) λy bT dv=>?_;rw[pN] at bT;refine .store λgs aO bM=>.ret λQ E aq=>wpAny_pyNext_list_item hit (qZ g1) bT λay ia aD=>?_;(refine eH ia λkM bZ c5 fF=>?_;try clear ia);exact λtarget=>zS (s:={s with heap:=ay}) bZ c5 (by exact rfl) (aq (C y) _ aW (.refl _) (H.turn (t:=s.toks) aO bM aw (.inl rfl) aD.extBut ⟨g0,l,dl,kM,aX,bZ,c5,fF⟩ rfl) dv) target
  |_=>exact .fail
 |nk n i=>
  obtain(⟨g0,l,dl,f_,aX,dc,dA,hx⟩):=R;have hit:s.heap.IsTupleIter a l i:=⟨f_,dc,dA,hx⟩;refine .load H λo dq ec H2 fo R=>?_;rw[aX] at fo;(obtain J:=aT fo;clear fo;refine a3 (eD J) λbU cv=>?_;clear J;subst bU;subst cv);clear H2;induction o using MI.O.casesOn with
  |tup xs=>
   obtain(⟨_,us,q,g1,g2⟩):=R;have ff:s.heap.IsTuple l us:=⟨_,g1,rfl,q,rfl⟩;dsimp only;refine G (f3 _ _) ?_;generalize ak:xs[i]? =aF;induction aF using b1 with
   |none=>
    refine .drop λgs aO bM=>.ret λQ E aq=>?_;obtain this:us[i]? =none:=by refine G (bW pN) ?_;exact g2.OW ak
    exact wpAny_pyNext_tuple_end hr hit ff this λay he=>aq none _ aW (.refl _) (H.gone (t:=s.toks) aO bM aw (.inl rfl) he) trivial
   |some v=>refine aU (g2.get ak) λy bT dv=>?_;rw[pN] at bT;refine .store λgs aO bM=>.ret λQ E aq=>wpAny_pyNext_tuple_item hit ff bT λay ia aD=>?_;(refine eH ia λkM bZ c5 fF=>?_;try clear ia);exact λtarget=>zS (s:={s with heap:=ay}) bZ c5 (by exact rfl) (aq (C y) _ aW (.refl _) (H.turn (t:=s.toks) aO bM aw (.inl rfl) aD.extBut ⟨g0,l,dl,kM,aX,bZ,c5,fF⟩ rfl) dv) target
  |_=>exact .fail
 |itR i left=>
  (refine a3 R λg0 dc=>?_;try clear R);induction left using hD with
  |zero=>exact .drop λgs aO bM=>.ret λQ E aq=>KZ (x:=i) (left:=0) (step:=1) hr dc (aS rfl) λay he=>aq none _ aW (.refl _) (H.gone (t:=s.toks) aO bM aw (.inl rfl) he) trivial
  |succ left=>
   refine .store λgs aO bM=>.ret λQ E aq=>KU (x:=i) (left:=((left+1:Nat):Int)) (step:=1) dc (mU.mpr (pE left)) λay ia aD=>?_;have a9:((i:Int)+1)=((i+1:Nat):Int):=by push_cast;rfl
   have bf:(((left+1:Nat):Int)-1)=(left:Int):=ux (left:Int) 1;rw[a9,bf] at ia;exact λtarget=>zS (s:={s with heap:=ay,toks:=s.toks+1}) ia rfl (by exact rfl) (aq (C (.int i s.toks)) _ aW (.refl _) (H.turn (t:=s.toks+1) aO bM aw (.inl rfl) aD.extBut ⟨g0,ia⟩ rfl) ⟨_,_,rfl,rfl⟩) target
 |_=>exact .fail
end
variable{body:List eQ}
section
variable{s:aN}
theorem yt{target:bk}{it:az}
  (h:a5 (c9 prog w) A (pyNext (.ref it)) (λr bg=>match r with
   |none=>R (.ok .next) bg
   |some v=>a5 (c9 prog w) A (Es target (.ref it) v) (λI b0=>a5 (c9 prog w) A (mT target env v) (λI dB=>a5 (c9 prog w) A (cH body env) (λf fh=>match f with
     |.next|.cont=>ft (c9 prog w) A (.forLoop target (.ref it) body [] env) R fh
     |.brk=>R (.ok .next) fh
     |.ret v=>R (.ok (.ret v)) fh) (iF (c9 prog w) A env λe ao=>R (.error e) ao) dB) (iF (c9 prog w) A env λe ao=>R (.error e) ao) b0) (iF (c9 prog w) A env λe ao=>R (.error e) ao) bg) (iF (c9 prog w) A env λe ao=>R (.error e) ao) s):
  ft (c9 prog w) A (.forLoop target (.ref it) body [] env) R s:=by
 refine AG ?_;show a5 _ _ ((forTurn target (.ref it) body [] env).onRaise (λx=>do q4 x env;Lz x)) _ _ s;refine wpAny_noted ?_;simp only[forTurn];refine b3 (kX (b3 (wpAny_onRaise (d4 h (λr bg dr=>?_) λI I ay=>kX ay))));induction r using b1 with
 |none=>exact d3 ⟨rfl,codeAny_block (qT dr)⟩
 |some v=>
  refine b3 (d4 dr (λI b0 fz=>b3 (d4 fz (λI dB kG=>b3 (d4 kG (λf fh iP=>?_) λI I ay=>ay)) λI I ay=>ay)) λI I ay=>ay);induction f using w_ with
  |next=>exact d3 ⟨rfl,iP⟩
  |cont=>exact d3 ⟨rfl,iP⟩
  |brk=>exact d3 iP
  |ret v=>exact d3 iP
theorem Kx{test:bk}
  (h:a5 (c9 prog w) A (uR test env (dM test env)) (λb b0=>
    if b=ae then a5 (c9 prog w) A (cH body env) (λf dB=>match f with
      |.next|.cont=>ft (c9 prog w) A (.whileLoop test body [] env) R dB
      |.brk=>R (.ok .next) dB
      |.ret v=>R (.ok (.ret v)) dB) (iF (c9 prog w) A env λe ao=>R (.error e) ao) b0
    else R (.ok .next) b0)
    (iF (c9 prog w) A env λe ao=>R (.error e) ao) s):
  ft (c9 prog w) A (.whileLoop test body [] env) R s:=by
 refine AG ?_;show a5 _ A ((whileTurn test body [] env).onRaise (λx=>do q4 x env;Lz x)) _ _ s;refine wpAny_noted ?_;simp only[whileTurn];refine b3 (d4 h (λb b0 fz=>?_) λI I ay=>ay);induction b using bV with
 |false=>simp only[T_,if_false] at fz ⊢;exact b3 (qT (d3 fz))
 |true=>
  simp only[if_true] at fz ⊢;refine b3 (d4 fz (λf dB kG=>?_) λI I ay=>ay);induction f using w_ with
  |next=>exact d3 ⟨rfl,kG⟩
  |cont=>exact d3 ⟨rfl,kG⟩
  |brk=>exact d3 kG
  |ret v=>exact d3 kG
end
variable{cp:List bk}
section
variable{c:bc}{ab:cK}
noncomputable def Bb(_:aZ)(_ _:Unit):Prop:=True
noncomputable abbrev LZ(g:cz)(c:bc)(env:hB)(t:bk)(y:aB):Wp Unit:=λQ E s=>a5 g.M c.A (mT t env y) Q E s
theorem Vl(O:g.Ok)(U:c.Ok g dep):∀{aK:List MI.V}{aH:List aB}{β:aZ},cc c ab env β->bL (a7 β) aK aH->
  bH fY g c β (p5 ab cp aK) (λQ E s=>a5 g.M c.A (xm ((q0 cp env).map (·.2)) aH) Q E s) Bb:=by
 induction cp with
 |nil=>
  intro aK aH β V R;cases R with
  |nil=>exact(bH.pure (a:=()) λI I=>trivial).of λQ E s k=>d3 k
  |cons _ _=>exact .fail
 |cons t cp bj=>
  intro aK aH β V R;cases R with
  |nil=>exact .fail
  |cons r rs=>exact .asks λw q=>G (l4 q) (bH.of ((qN O U V w.1 r).bind λav I I l I=>bj (V.le l) (rs.imp λI I x=>x.le l)) λQ E s k=>b3 (iI (w6 k)))
theorem abN(h:QX cp=ae):(q0 cp env).findIdx? (·.1)=none/\(q0 cp env).length=cp.length:=by
 induction cp with
 |nil=>exact⟨rfl,rfl⟩
 |cons t cp bj=>refine a3 (bj (bC h)) λa b=>bG (D9.mp (bS h)) λw q=>G (l4 q) ⟨?_,congrArg (·+1) b⟩;show List.findIdx? (·.1) ((ai,mT (.Name w.1 w.2) env)::q0 cp env)=none;(refine G List.findIdx?_cons ?_;refine G a ?_);rfl
theorem FL(O:g.Ok)(ba:dW g aG)(U:c.Ok g ab.dep)(V:cc c ab env β)(t:bk){v:MI.V}(r:a7 β v y):cT g c β (MI.assign aG g.K ab t v) (LZ g c env t y) Bb:=by
 cases t with
 |Name x p=>exact((qN O U V x r).imp λ_ _ _ _ _=>trivial).of λQ E s k=>w6 k
 |Attribute o x p=>refine bH.of ((ba.ev c ab env β o U V).bind λav gA a l g_=>(Sb O U g_ x (r.le l)).imp λ_ _ _ _ _=>trivial) λQ E s k=>?_;show a5 g.M c.A (mT (.Attribute o x p) env y) Q E s;rw[arm_assign_Attribute];refine b3 (iI (d4 k (λa bg dr=>b3 (kX (b3 (iI (d4 dr (λ_ b0 fz=>K0 fz) λ_ _ e=>e))))) λ_ _ e=>e))
 |Subscript o i p=>refine bH.of ((ba.ev c ab env β o U V).bind λav gA a l g_=>(ba.ev c ab env av i U (V.le l)).bind λd9 ah5 dq a_ adi=>(Se O U (g_.le a_) adi (r.le (l.trans a_))).imp λ_ _ _ _ _=>trivial) λQ E s k=>?_;show a5 g.M c.A (mT (.Subscript o i p) env y) Q E s;rw[arm_assign_Subscript];refine b3 (iI (d4 k (λa bg dr=>b3 (iI (d4 dr (λb b0 fz=>b3 (kX (b3 (iI (d4 fz (λ_ dB kG=>K0 kG) λ_ _ e=>e))))) λ_ _ e=>e))) λ_ _ e=>e))
 |Tuple cp k p=>
  induction v using MI.V.casesOn with
  |r n=>
   intro aW st s aa H;obtain r:=r.le aa;unfold MI.assign;(refine cA r λa1 eZ gH J=>?_;try clear r;(clear r;subst J));refine .oh H gH λo R=>?_;induction o using MI.O.casesOn with
   |tup xs=>
    obtain(⟨_,us,q,g1,g2⟩):=R;dsimp only;split
    .rename_i bb;simp only[ew] at bb;(refine a3 bb λJ HF=>?_;try clear bb;refine a3 J λHE rM=>?_;try clear J);obtain rM:=d0 rM;obtain HF:ab.dep<400:=bA HF;refine a3 (abN (env:=env) HE) λa9 bf=>?_;obtain cC:xs.length=us.size:=by obtain this:=g2.length;simpa using this
     have key:∀ay,lN s.heap.objs.size s.heap ay->At fY g c aW st {s with heap:=ay} (p5 ab cp xs) (λQ E s=>a5 g.M c.A (xm ((q0 cp env).map (·.2)) us.toList) Q E s) Bb:=λay he=>
      Vl O U (V.le aa) g2 aW st _ (.refl _) (H.grow (t:=s.toks) λb o e=>he b o (kr (fW e)) e)
     have fin:∀(Q:Unit->aN->Prop)(E:aB->aN->Prop),(∀ay,lN s.heap.objs.size s.heap ay->a5 g.M c.A (xm ((q0 cp env).map (·.2)) us.toList) Q E {s with heap:=ay})->LZ g c env (.Tuple cp k p) (.ref a1) Q E s:=λQ E h=>
      assign_Tuple_tuple (U.calm HF) ⟨_,g1,rfl,q,rfl⟩ (G bf (G rM (G cC rfl))) a9 h
     unfold At at key ⊢;generalize w:p5 ab cp xs st=aF;induction aF using MI.Out.casesOn with
     |fail n=>trivial
     |ok u bp=>exact λQ E aq=>fin Q E λay he=>by obtain this:=key ay he;rw[w] at this;exact this Q E aq
     |ex bp=>exact λQ E aq=>fin Q E λay he=>by obtain this:=key ay he;rw[w] at this;exact this Q E aq
    .exact .fail
   |_=>exact .fail
  |_=>exact .fail
 |_=>exact .fail
end
section
variable{c:bc}{ab:cK}
theorem X4(O:g.Ok)(ba:dW g aG)(U:c.Ok g ab.dep)(dO:ab.dep<400)(V:cc c ab env β)(t:bk)(b:List eQ){a:az}(aO:β.ad[n]? =C (a,d)):
  rt g c β (Hk aG g.K ab t n b) (jq g c (.forLoop t (.ref a) b [] env)) eL:=by
 unfold Hk;obtain key:=(bH.qC U V (Q3 (X:=fY) U dO aO)).bind (X:=Told) (f:=λr=>match r with
  |none=>M.pure .next
  |some v=>(MI.assign aG g.K ab t v).bind λI=>(aG.xs ab b).bind λ
   |.next=>aG.kC ab t n b
   |.cont=>aG.kC ab t n b
   |.brk=>M.pure .next
   |.ret v=>M.pure (.ret v)) (k:=λr=>λ(Q:fH->aN->Prop) E bg=>match r with
    |none=>Q .next bg
    |some y=>a5 g.M c.A (mT t env y) (λI b0=>a5 g.M c.A (cH b env) (λf dB=>match f with
      |.next|.cont=>jq g c (.forLoop t (.ref a) b [] env) Q E dB
      |.brk=>Q .next dB
      |.ret v=>Q (.ret v) dB) (iF g.M c.A env E) b0) (iF g.M c.A env E) bg) (cD:=eL) λav o r l rel=>by
  induction o using b1 with
  |none=>
   induction r using b1 with
   |none=>exact bH.pure λI I=>rfl
   |some y=>exact rel.elim
  |some v=>
   induction r using b1 with
   |none=>exact rel.elim
   |some y=>
    obtain rel:a7 av v y:=rel;refine(bH.qC U (V.le l) (FL O ba U (V.le l) t rel)).bind (X:=Told) (k:=λI=>λ(Q:fH->aN->Prop) E b0=>a5 g.M c.A (cH b env) (λf dB=>match f with
      |.next|.cont=>jq g c (.forLoop t (.ref a) b [] env) Q E dB
      |.brk=>Q .next dB
      |.ret v=>Q (.ret v) dB) (iF g.M c.A env E) b0) λd9 I I a_ I=>?_
    have sZ:=(V.le l).le a_;refine(bH.qC U sZ (ba.xs c ab env d9 b U sZ)).bind (X:=Told) (k:=λf=>λ(Q:fH->aN->Prop) E dB=>match f with
      |.next|.cont=>jq g c (.forLoop t (.ref a) b [] env) Q E dB
      |.brk=>Q .next dB
      |.ret v=>Q (.ret v) dB) λh2 eM f hZ fv=>?_
    have again:=ba.kC c ab env h2 t n b a d U dO (sZ.le hZ) (a4 ((l.trans a_).trans hZ).ad aO);induction eM using MI.dj.casesOn with
    |next=>obtain rfl:=fv;exact again
    |cont=>obtain rfl:=fv;exact again
    |brk=>obtain rfl:=fv;exact bH.pure λI I=>rfl
    |ret v=>(refine aU fv λy J hR=>?_;try clear fv;subst J);exact bH.pure λI jA=>⟨y,rfl,hR.le jA⟩
 refine bH.of key λQ E s k=>yt (R:=λr ao=>match r with|.ok f=>Q f ao|.error e=>E e ao) (d4 k (λr bg dr=>?_) λI I e=>e);induction r using b1 with
 |none=>exact dr
 |some y=>exact dr t
theorem agt(ba:dW g aG)(U:c.Ok g ab.dep)(V:cc c ab env β)(t:bk)(b:List eQ):rt g c β (Kw aG ab t b) (jq g c (.whileLoop t b [] env)) eL:=by
 unfold Kw;obtain key:=(bH.qC U V (ba.eO c ab env β t U V)).bind (X:=Told) (f:=λr=>match r with
  |true=>(aG.xs ab b).bind λ
   |.next=>aG.dK ab t b
   |.cont=>aG.dK ab t b
   |.brk=>M.pure .next
   |.ret v=>M.pure (.ret v)
  |false=>M.pure .next) (k:=λr=>λ(Q:fH->aN->Prop) E bg=>if r=ae then a5 g.M c.A (cH b env) (λf dB=>match f with
      |.next|.cont=>jq g c (.whileLoop t b [] env) Q E dB
      |.brk=>Q .next dB
      |.ret v=>Q (.ret v) dB) (iF g.M c.A env E) bg
    else Q .next bg) (cD:=eL) λav o r l rel=>by
  subst rel;induction r using bV with
  |false=>exact(bH.pure (v:=dj.next) (a:=Flow.next) (R:=eL) λI I=>rfl).of λQ E s k=>by simpa using k
  |true=>
   have gY:=V.le l;obtain this:=(bH.qC U gY (ba.xs c ab env av b U gY)).bind (X:=Told) (f:=λeM=>match eM with
    |.next=>aG.dK ab t b
    |.cont=>aG.dK ab t b
    |.brk=>M.pure .next
    |.ret v=>M.pure (.ret v)) (k:=λf=>λ(Q:fH->aN->Prop) E dB=>match f with
      |.next|.cont=>jq g c (.whileLoop t b [] env) Q E dB
      |.brk=>Q .next dB
      |.ret v=>Q (.ret v) dB) (cD:=eL) λh2 eM f hZ fv=>by
    have again:=ba.dK c ab env h2 t b U (gY.le hZ);induction eM using MI.dj.casesOn with
    |next=>obtain rfl:=fv;exact again
    |cont=>obtain rfl:=fv;exact again
    |brk=>obtain rfl:=fv;exact bH.pure λI I=>rfl
    |ret v=>(refine aU fv λy J hR=>?_;try clear fv;subst J);exact bH.pure λI jA=>⟨y,rfl,hR.le jA⟩
   exact this.of λQ E s k=>by simpa using k
 exact bH.of key λQ E s k=>Kx (R:=λr ao=>match r with|.ok f=>Q f ao|.error e=>E e ao) k
theorem aae(V:cc c ab env β):interactive env=false:=by unfold interactive;exact G V.kind rfl
end
noncomputable def bc.enter(c:bc)(L:az)(o:cj)(fr:List hB)(A:oC):bc:=⟨c.P,(c.L,o)::c.cx,fr,L,A⟩
variable{fr:List hB}{fm:Nat}
section
variable{c:bc}{st:St}{s:aN}{ab:cK}
theorem lP.obj(H:lP st β c.L h):∃o au fm,h.get? c.L=C o/\o.data=.dict au fm/\xu au/\∀x v,eh x st.loc=C v->∃y,sH au x=C y/\a7 β v y:=by(refine aU H λm J r=>?_;try clear H;refine mG J λo au fm bx hd aw hm=>?_;try clear J);exact(Ak o au fm bx hd aw (λx v e=>by exact G (hm _) (r x v e)))
theorem Sat.enter{L:az}{o:cj}(U:c.Ok g dep)(H:Sat g c st β s)(bx:s.heap.get? c.L=C o)(k:∀b o,s.heap.get? b=C o->ay.get? b=C o)(gw:s.heap.objs.size<=L)
  (loc:lP {st with loc:=fS} β L ay):Sat g (c.enter L o fr A) {st with loc:=fS} β {s with heap:=ay,toks:=t}:=by
 refine bG H.objs λf hf=>⟨⟨λa x e=>k _ _ (H.keep a x e),λx ak=>?_,⟨f,λn own y q=>?_⟩,H.len,H.facts,H.ghost⟩,H.os,loc⟩
 .rcases dh.mp ak with rfl|ak
  .exact⟨o.slots,k _ _ bx⟩
  .exact bG (H.cx x ak) λdd e=>⟨dd,k _ _ e⟩
 .obtain(⟨a,d,aa,af,aJ⟩):=hf n own y q;refine⟨a,d,aa,?_,λe=>?_⟩
  .clear aJ q;induction own using bV with
   |false=>exact af
   |true=>exact af.mono (.refl _) (λI=>k a _) (λI=>k d _)
  ·(clear q;subst e);obtain(⟨cJ,cY,⟨df,dx,fP⟩,⟨dT,cG,fQ⟩,gM⟩):=aJ rfl;obtain(⟨⟨dw,t1⟩,dV,jh⟩):=cN.there gM (show cN g s.heap.get? β a d y from af);have eG:=fW t1;have fB:=fW jh;refine⟨cJ,cY,⟨df,λe=>?_,λx ak=>?_⟩,⟨dT,λe=>?_,λx ak=>?_⟩,gM⟩
   .have:a=L:=e;rw[this] at eG;exact absurd eG (i6.mpr gw)
   .rcases dh.mp ak with rfl|ak
    .exact λe=>dx e.symm
    .exact fP x ak
   .have:d=L:=e;rw[this] at fB;exact absurd fB (i6.mpr gw)
   .rcases dh.mp ak with rfl|ak
    .exact λe=>cG e.symm
    .exact fQ x ak
theorem SatO.enter{L:az}{o:cj}(H:SatO g c st β h)(bx:h.get? c.L=C o)(new:∀n y a d,st.σ.get n=C (ae,y)->β.ad[n]? =C (a,d)->a≠L/\d≠L):SatO g (c.enter L o fr A) {st with loc:=fS} β h:=by
 refine bG H.objs λf hf=>⟨H.keep,λx ak=>?_,⟨f,λn own y q=>?_⟩,H.len,H.facts,H.ghost⟩
 .rcases dh.mp ak with rfl|ak
  .exact⟨o.slots,bx⟩
  .exact H.cx x ak
 .obtain(⟨a,d,aa,af,aJ⟩):=hf n own y q;refine⟨a,d,aa,af,λe=>?_⟩;(clear af;subst e);obtain(⟨cJ,cY,⟨df,dx,fP⟩,⟨dT,cG,fQ⟩,gM⟩):=aJ rfl;refine a3 (new n y a d q aa) λeV dY=>⟨cJ,cY,⟨df,eV,λx ak=>?_⟩,⟨dT,dY,λx ak=>?_⟩,gM⟩
  .rcases dh.mp ak with rfl|ak
   .exact λe=>dx e.symm
   .exact fP x ak
  .rcases dh.mp ak with rfl|ak
   .exact λe=>cG e.symm
   .exact fQ x ak
theorem SatO.leave{L:az}{o:cj}(H:SatO g (c.enter L o fr A) st β h):SatO g c {st with loc:=fS} β h:=by refine bG H.objs λf hf=>⟨H.keep,λx ak=>H.cx x (.tail _ ak),⟨f,λn own y q=>?_⟩,H.len,H.facts,H.ghost⟩;obtain(⟨a,d,aa,af,aJ⟩):=hf n own y q;refine⟨a,d,aa,af,λe=>?_⟩;obtain(⟨cJ,cY,⟨df,dx,fP⟩,⟨dT,cG,fQ⟩,gM⟩):=aJ e;exact⟨cJ,cY,⟨df,λe=>fP (c.L,o) (.head _) e.symm,λx ak=>fP x (.tail _ ak)⟩,⟨dT,λe=>fQ (c.L,o) (.head _) e.symm,λx ak=>fQ x (.tail _ ak)⟩,gM⟩
theorem Sat.leave{L:az}{o:cj}{au:Array hT}(H:Sat g (c.enter L o fr A) st β s)(hd:o.data=.dict au fm)(aw:xu au)
  (cb:∀x v,eh x fS=C v->∃y,sH au x=C y/\a7 β v y):Sat g c {st with loc:=fS} β s:=by refine⟨H.toSatO.leave,H.os,?_⟩;exact bG (H.cx (c.L,o) (.head _)) λdd e=>⟨_,⟨_,au,fm,e,hd,aw,λI=>rfl⟩,cb⟩
theorem bc.Ok.enter{L:az}{o:cj}{p9:Nat}(U:c.Ok g dep)(H:Sat g c st β s)(bx:s.heap.get? c.L=C o){au:Array hT}(hd:o.data=.dict au fm)(gw:s.heap.objs.size<=L)
  (frames:A.frames=C fr)(here:∀env∈fr,env∈c.fr\/(env.scope.kind≠.module/\env.frame=C L))(depth:A.depth<=310+2*p9)(units:A.units<=30+10*p9)(dO:p9<=802)(calm:p9<400->A.handled=none):(c.enter L o fr A).Ok g p9:=by
 have fresh:∀{b:az}{x:cj},s.heap.get? b=C x->b≠L:=λe q=>by obtain this:=fW e;rw[q] at this;exact absurd this (i6.mpr gw)
 refine⟨U.base,frames,λenv he=>?_,λx ak=>?_,?_,depth,units,calm,dO⟩
 .rcases here env he with h|⟨aa,af⟩
  .obtain(⟨a,b,aD,r⟩):=U.here env h;refine⟨a,b,aD,.inr ?_⟩;rcases r with rfl|⟨x,ak,e⟩
   .exact(bh (c.L,o) (.head _) rfl)
   .exact(bh x (.tail _ ak) e)
  .exact⟨aa,L,af,.inl rfl⟩
 .rcases dh.mp ak with rfl|ak
  .exact⟨U.iX,au,fm,hd⟩
  .exact U.hd x ak
 .show c.P L=none;generalize q:c.P L=aF;induction aF using b1 with
  |none=>rfl
  |some x=>exact absurd rfl (fresh (H.keep _ _ q))
theorem bc.oW{L:az}{o:cj}(H:Sat g c st β s)(bx:s.heap.get? c.L=C o)(gw:s.heap.objs.size<=L):(c.enter L o fr A).Apart:=λx ak=>by
 have fresh:∀{b:az}{x:cj},s.heap.get? b=C x->b≠L:=λe q=>by obtain this:=fW e;rw[q] at this;exact absurd this (i6.mpr gw)
 rcases dh.mp ak with rfl|ak
 .exact fresh bx
 .exact bG (H.cx x ak) λdd e=>fresh e
end
theorem agU{xs:List aM}{aK:List aQ}(h:x∈xs)(e:xs.length=aK.length):((xs.zip aK).lookup x).isSome=true:=by
 induction xs generalizing aK with
 |nil=>cases h
 |cons y xs bj=>
  induction aK using eo with
  |nil=>injection e
  |cons v aK=>
   (refine G List.zip_cons_cons (G md ?_));generalize q:((x==y))=aF;induction aF using bV with
   |true=>rfl
   |false=>
    rcases dh.mp h with h|h
    .rw[h,beq_self_eq_true] at q;exact jB q
    .exact bj h (su e)
theorem OC{f h:aQ->Option fb}:∀{xs:List aQ},(∀x∈xs,f x=h x)->xs.filterMap f=xs.filterMap h
 |[],_=>rfl
 |x::xs,e=>by exact G Ee (G Ee (G (e x (.head _)) (G (OC λy bT=>e y (.tail _ bT)) rfl)))
theorem agT{xs:List aM}{aK:List aQ}(aO:xs.Nodup)(e:xs.length=aK.length):xs.filterMap (λn=>((xs.zip aK).lookup n).map (n,·))=xs.zip aK:=by
 induction xs generalizing aK with
 |nil=>rfl
 |cons x xs bj=>
  induction aK using eo with
  |nil=>injection e
  |cons v aK=>
  rw[jD] at aO;replace bj:=bj (aK:=aK) aO.2 (su e);obtain same:xs.filterMap (λn=>(((x,v)::xs.zip aK).lookup n).map (n,·))=xs.filterMap (λn=>((xs.zip aK).lookup n).map (n,·)):=OC λn hm=>by refine G md ?_;obtain this:(n==x)=false:=beq_eq_false_iff_ne.mpr λe=>aO.1 (G (bW e) hm);exact G this rfl
  show List.filterMap (λn=>(((x,v)::xs.zip aK).lookup n).map (n,·)) (x::xs)=(x,v)::xs.zip aK;(refine G Ee (G md (G (beq_self_eq_true _) ?_)));simp only[nS];exact G same (G bj rfl)
theorem X5{β:Type}{l:List aQ}(h:l=[])(i:β)(f:aQ->β->hC (ForInStep β))(k:β->hC fb):(forIn l i f>>=k)=k i:=by subst h;rfl
theorem agS(a:List aM)(k:Nat):a.zip (([]:List aB).drop k)=[]:=by exact G List.drop_nil (G List.zip_nil_right rfl)
variable{fd:FuncData}{as:List Arg}
theorem Bn{an:List (Option bk)}{vals:List aB}{ds:List bk}(b7:fd.params=⟨[],as,none,[],an,none,ds⟩)(hd:fd.defaults=.none)
  (aO:(as.map (·.arg)).Nodup)(aX:as.length=vals.length):bindArgs fd ⟨vals,[]⟩=pure ((as.map (·.arg)).zip vals):=by
 have jw:(as.map (·.arg)).length=vals.length:=by exact G (gB _) (G aX rfl)
 obtain miss:∀k,((as.map (·.arg)).take k).filter (λn=>(((as.map (·.arg)).zip vals).lookup n).isNone)=[]:=λk=>by refine gN List.filter_eq_nil_iff ?_;intro n hm e;obtain this:=agU (List.mem_of_mem_take hm) jw;rw[nO.mp e] at this;exact c8 this
 obtain em:∀l:List aM,l=[]->(!l.isEmpty)=ae->False:=λl e h=>by rw[e] at h;exact c8 h
 cases fd with
 |mk f1 f2 vs f4 hL nh ahi f8 ahj ahf ahg ahh Ox=>
  subst b7;subst hd;refine(if_neg (λe=>?_)).trans ?_
  .obtain this:=aS (KW.mp e).1;exact absurd this (by show¬vals.length>(as.map (·.arg)).length;exact G jw (qV _))
  exact(if_neg (em _ (miss _))).trans ((X5 (agS _ _) _ _ _).trans (congrArg (pure:_->hC (List (aM×aB))) ((congrArg (List.filterMap _) (lM _)).trans (agT aO jw))))
section
variable{k:aM->Option gC}
theorem Gb(aw:k x=C .local):∀(binds:List (aM×aB))(m:aM->Option aB),(binds.map (·.1)).Nodup->bindL k binds m x=(match binds.lookup x with|some v=>C v|none=>m x)
 |[],m,_=>rfl
 |(n,v)::r,m,aO=>by
  rw[j4,jD] at aO;show bindL k r (if k n=C .local then λy=>if y=n then C v else m y else m) x=_;(refine G (Gb aw r _ aO.2) (G md ?_));by_cases h:x=n
  .subst h;(refine G (if_pos aw) (G (beq_self_eq_true _) ?_));obtain this:r.lookup x=none:=by refine gN KP ?_;intro p b7;obtain ne:x≠p.1:=λe=>aO.1 (by obtain this:=kU (f:=(·.1)) b7;rw[<-e] at this;exact this);simpa using ne
   refine G this ?_;simp
  .obtain this:(x==n)=false:=beq_eq_false_iff_ne.mpr h;refine G this ?_;cases r.lookup x with
   |some y=>rfl
   |none=>dsimp only;split<;>simp[h]
theorem MR(aw:k x≠C .local):∀(binds:List (aM×aB))(m:aM->Option aB),(binds.map (·.1)).Nodup->bindC k binds m x=(match binds.lookup x with|some v=>C v|none=>m x)
 |[],m,_=>rfl
 |(n,v)::r,m,aO=>by
  rw[j4,jD] at aO;show bindC k r (if k n=C .local then m else λy=>if y=n then C v else m y) x=_;(refine G (MR aw r _ aO.2) (G md ?_));by_cases h:x=n
  .subst h;(refine G (if_neg aw) (G (beq_self_eq_true _) ?_));obtain this:r.lookup x=none:=by refine gN KP ?_;intro p b7;obtain ne:x≠p.1:=λe=>aO.1 (by obtain this:=kU (f:=(·.1)) b7;rw[<-e] at this;exact this);simpa using ne
   refine G this ?_;simp
  .obtain this:(x==n)=false:=beq_eq_false_iff_ne.mpr h;refine G this ?_;cases r.lookup x with
   |some y=>rfl
   |none=>dsimp only;split<;>simp[h]
end
variable{aK:List V}
set_option smartUnfolding false in
theorem BY{ns:List aM}(h:bL (a7 β) aK aH):(match eh x (ns.zip aK) with
  |some v=>∃y,(ns.zip aH).lookup x=C y/\a7 β v y
  |none=>(ns.zip aH).lookup x=none):=by
 induction ns generalizing aK aH with
 |nil=>rfl
 |cons n ns bj=>
  induction h with
  |nil=>rfl
  |@cons v y aK aH r t _=>
   replace bj:=bj t;show match(match eqs n x with|true=>C v|false=>eh x (ns.zip aK)) with
    |some v=>∃z,((n,y)::ns.zip aH).lookup x=C z/\a7 β v z
    |none=>((n,y)::ns.zip aH).lookup x=none
   refine G md ?_;generalize q:eqs n x=aF;induction aF using bV with
   |true=>obtain this:=gr.mp q;(clear q bj;subst this);exact G (beq_self_eq_true _) (bh y rfl r)
   |false=>obtain this:(x==n)=false:=beq_eq_false_iff_ne.mpr λe=>oX.mp q e.symm;exact G this bj
set_option smartUnfolding false in
theorem yw{names:List (aM×gC)}{v:V}:∀{binds:List (aM×V)},(binds.map (·.1)).Nodup->eh x (qA names binds)=C v->g7 x names=C .local/\eh x binds=C v
 |[],_,h=>by exact bK h
 |e::r,aO,h=>by
  rw[j4,jD] at aO;obtain Dj:eh x (qA names r)=C v->eqs e.1 x=false:=λq=>by
   refine a3 (yw aO.2 q) λ_ b=>gN oX ?_;intro z;apply aO.1;clear q h;refine G z ?_;clear aO;induction r with
   |nil=>exact bK b
   |cons f t bj=>
    replace b:(match eqs f.1 x with|true=>C f.2|false=>eh x t)=C v:=b;generalize q:eqs f.1 x=aF;induction aF using bV with
    |true=>(refine G j4 (G (gr.mp q) ?_));exact .head _
    |false=>rw[q] at b;exact .tail _ (bj b)
  replace h:eh x (match g7 e.1 names with|some .local=>e::qA names r|_=>qA names r)=C v:=h;show _/\(match eqs e.1 x with|true=>C e.2|false=>eh x r)=C v;generalize aw:g7 e.1 names=z at h;induction z using b1 with
  |none=>exact G (Dj h) (yw aO.2 h)
  |some fg=>
   induction fg using sJ with
   |«local»=>
    replace h:(match eqs e.1 x with|true=>C e.2|false=>eh x (qA names r))=C v:=h;generalize q:eqs e.1 x=aF;induction aF using bV with
    |true=>rw[q] at h;exact⟨by exact G (bW (gr.mp q)) aw,h⟩
    |false=>rw[q] at h;exact yw aO.2 h
   |_=>exact G (Dj h) (yw aO.2 h)
theorem Bt{p:aM×az}:∀(l:List (aM×gC))(n:Nat)(acc:List (aM×az)),p∈acc->p∈oA n l acc
 |[],_,_,h=>h
 |(x,eU)::r,n,acc,h=>by
  unfold oA;split
  .exact Bt r _ _ (.tail _ h)
  .exact Bt r _ _ h
noncomputable def xA(β:aZ):List (aM×Nat)->List (aM×az)->Prop:=bL λe f=>e.1=f.1/\β.ad[e.2]? =C (f.2,f.2)
theorem xA.look{l:List (aM×Nat)}{m:List (aM×az)}(R:xA β l m)(h:k3 x l=C n):∃a d,m.lookup x=C a/\β.ad[n]? =C (a,d):=by
 induction R with
 |nil=>exact bK h
 |@cons e D6 l m r t bj=>
  obtain(⟨y,a⟩):=D6;(refine a3 r λdc dA=>?_;try clear r);replace h:(match eqs e.1 x with|true=>C e.2|false=>k3 x l)=C n:=h;refine G md ?_;generalize q:eqs e.1 x=aF;induction aF using bV with
  |true=>
   rw[q] at h;(obtain J:=aT h;clear h;(clear bj;subst J));obtain this:(x==y)=true:=by exact gN beq_iff_eq (G (bW (gr.mp q)) dc)
   exact G this (gi a a rfl dA)
  |false=>rw[q] at h;obtain this:(x==y)=false:=beq_eq_false_iff_ne.mpr λz=>oX.mp q (dc.trans z.symm);exact G this (bj h)
section
variable{c:bc}
theorem SatO.adopt{st:St}{a:az}(H:SatO g c st β h)(aO:st.no<10000000)(new:∀n y dq ec,st.σ.get n=C (ae,y)->β.ad[n]? =C (dq,ec)->dq≠a/\ec≠a)(hM:c.gV a)
  (R:cN g h.get? (β.new a a) a a o)(iT:o.qh=ai):SatO g c {st with σ:=st.σ.put cU st.no (ae,o),no:=st.no+1} (β.new a a) h:=by
 refine bG H.objs λf hf=>⟨H.keep,H.cx,⟨λx=>if x=a then st.no else f x,λm own y q=>?_⟩,?_,H.facts.new,H.ghost.trans (β.gJ _ _)⟩
 .replace q:(st.σ.put cU st.no (ae,o)).get m=C (own,y):=q;rw[dD.k8 cU st.σ st.no (ae,o) m (ij aO (aS rfl))] at q;by_cases hm:m=st.no
  .subst hm;rw[if_pos rfl] at q;(obtain J:=aT q;clear q;refine a3 (eD J) λbU cv=>?_;clear J;subst bU;subst cv);exact⟨a,a,by exact G (bW H.len) (β.lp a a),R,λI=>⟨by simp,by simp,hM,hM,O.live iT⟩⟩
  .rw[if_neg hm] at q;obtain(⟨ef,fK,g1,g2,g3⟩):=hf m own y q;refine⟨ef,fK,a4 (β.gJ a a).ad g1,?_,λe=>?_⟩
   .clear g3 q;induction own using bV with
    |false=>exact g2.mono (β.gJ a a) (λI e=>e) (λI e=>e)
    |true=>exact g2.mono (β.gJ a a) (λI e=>e) (λI e=>e)
   ·(clear g2;subst e);obtain(⟨cJ,cY,fw,gT,gM⟩):=g3 rfl;exact a3 (new m y ef fK q g1) λeV dY=>⟨by show(if ef=a then st.no else f ef)=m;exact G (if_neg eV) cJ,by show(if fK=a then st.no else f fK)=m;exact G (if_neg dY) cY,fw,gT,gM⟩
 .show(β.ad++ [(a,a)]).length=st.no+1;(refine G iG (G H.len ?_));rfl
theorem I3{binds:List (aM×V)}{ya:aM->Option aB}(hm:∀x,match eh x binds with|some v=>∃y,ya x=C y/\a7 β v y|none=>ya x=none){cs:List (aM×az)}(bb:∀p∈cs,h.IsCell p.2 (ya p.1)/\c.gV p.2){P:az->Prop}(eB:∀p∈cs,P p.2):
  ∀(names:List (aM×gC))(n:Nat)(acc:List (aM×Nat))(j8:List (aM×az))(st:St)(aW:aZ),β.le aW->SatO g c st aW h->(∀m y a d,st.σ.get m=C (ae,y)->aW.ad[m]? =C (a,d)->(a<n/\d<n)/\P a/\P d)->xA aW acc j8->oA n names j8=cs->
   match v3 binds names acc st with
    |.fail _=>True
    |.ok cells bp=>∃av,aW.le av/\SatO g c bp av h/\xA av cells cs/\bp.loc=st.loc/\∀m y a d,bp.σ.get m=C (ae,y)->av.ad[m]? =C (a,d)->P a/\P d
    |.ex _=>False
 |[],n,acc,j8,st,aW,l,H,aX,R,e=>⟨aW,.refl _,H,by exact G (bW e) R,rfl,λm y a d p q=>(aX m y a d p q).2⟩
 |(x,eU)::r,n,acc,j8,st,aW,l,H,aX,R,e=>by
  unfold oA at e;induction eU using sJ with
  |cell=>
   rw[if_pos (by exact rfl)] at e;show match((alloc (.cell (eh x binds))).bind λn=>v3 binds r ((x,n)::acc)) st with|.fail _=>True|.ok cells bp=>_|.ex _=>False
   generalize q:eK st.no 10000000=aF;induction aF using bV with
   |false=>
    obtain this:alloc (.cell (eh x binds)) st=.fail 2:=by exact G vd (G q rfl)
    unfold M.bind;refine G this ?_;trivial
   |true=>
    have aO:st.no<10000000:=bA q;obtain cf:alloc (.cell (eh x binds)) st=.ok st.no {st with σ:=st.σ.put cU st.no (ae,.cell (eh x binds)),no:=st.no+1}:=by exact G vd (G q rfl)
    refine G (x6 cf) ?_;have mem:(x,n)∈cs:=by exact G (bW e) (Bt r _ _ (.head _))
    (refine a3 (bb _ mem) λJ fr=>aU J λf_ bZ c5=>?_;try clear J);obtain new:∀m y dq ec,st.σ.get m=C (ae,y)->aW.ad[m]? =C (dq,ec)->dq≠n/\ec≠n:=λm y dq ec df dx=>by(refine a3 (aX m y dq ec df dx) λJ I=>a3 J λji jV=>?_;try clear J);exact⟨kr ji,kr jV⟩
    obtain oJ:=H.adopt (o:=.cell (eh x binds)) (a:=n) aO new fr ⟨rfl,f_,ya x,bZ,c5,by
     have:=hm x;generalize z:eh x binds=aF;induction aF using b1 with
     |none=>rw[z] at this;exact this
     |some v=>rw[z] at this;(refine aU this λy bT hR=>?_;try clear this);exact(bh y bT ((hR.le l).le (aW.gJ n n)))⟩ rfl
    obtain this:=I3 hm bb eB r (n+1) ((x,st.no)::acc) ((x,n)::j8) {st with σ:=st.σ.put cU st.no (ae,.cell (eh x binds)),no:=st.no+1} (aW.new n n) (l.trans (aW.gJ n n)) oJ (λm y a d df dx=>by
     replace df:(st.σ.put cU st.no (ae,.cell (eh x binds))).get m=C (ae,y):=df;rw[dD.k8 cU st.σ st.no _ m (ij aO (aS rfl))] at df;by_cases hm:m=st.no
     ·(clear df;subst hm);rw[<-H.len,aW.lp n n] at dx;(obtain J:=aT dx;clear dx;refine a3 (eD J) λbU cv=>?_;clear J;subst bU;subst cv);exact(fi ⟨Lk _,Lk _⟩ (eB _ mem) (eB _ mem))
     .rw[if_neg hm] at df;obtain aD:m<aW.ad.length:=by refine bG H.objs λf hf=>?_;obtain(⟨_,_,aa,_⟩):=hf m ae y df;exact(j2.mp aa).1
      obtain acT:aW.ad[m]? =C (a,d):=by rw[show(aW.new n n).ad=aW.ad++ [(n,n)] from rfl,w7 aD] at dx;exact dx
      (refine a3 (aX m y a d df acT) λJ SS=>a3 J λji jV=>?_;try clear J);exact⟨⟨xf ji,xf jV⟩,SS⟩) (.cons ⟨rfl,by exact G (bW H.len) (aW.lp n n)⟩ (R.imp λI I z=>⟨z.1,a4 (aW.gJ n n).ad z.2⟩)) e
    split at this
    .trivial
    ·(refine aU this λav a_ z=>?_;try clear this);exact(bh av ((aW.gJ n n).trans a_) z)
    .exact this
  |_=>rw[if_neg (by exact sm)] at e;exact I3 hm bb eB r n acc j8 st aW l H aX R e
end
variable{bg:aN}
section
variable{c:bc}{ah:Type}{m:M aQ}{W mm:Wp ah}{R hV:aZ->aQ->ah->Prop}{st:St}{s:aN}
theorem At.le(h:At X g c av st s m W R)(l:β.le av):At X g c β st s m W R:=by
 unfold At at h ⊢;split at h
 .trivial
 .exact λQ E aq=>h Q E λa ao aY eC=>aq a ao aY (l.trans eC)
 .exact λQ E aq=>h Q E λa ao aY eC=>aq a ao aY (l.trans eC)
theorem At.step{f:aQ->M d8}{W:Wp ej}{cD:aZ->d8->ej->Prop}{v:aQ}(e:m st=.ok v bp)(h:At X g c β bp s (f v) W cD):At X g c β st s (m.bind f) W cD:=by unfold At at h ⊢;exact G (x6 e) h
theorem At.w0{aG:aN->Prop}{nc:Wp ah}(h:∀bg,aG bg->At X g c β st bg m nc R)(k:∀Q E,(∀bg,aG bg->nc Q E bg)->W Q E s):At X g c β st s m W R:=by
 unfold At at h ⊢;generalize q:m st=aF;induction aF using MI.Out.casesOn with
 |fail n=>trivial
 |ok v bp=>exact λQ E aq=>k Q E λbg dr=>by obtain this:=h bg dr;rw[q] at this;exact this Q E aq
 |ex bp=>exact λQ E aq=>k Q E λbg dr=>by obtain this:=h bg dr;rw[q] at this;exact this Q E aq
theorem D1{m:M aQ}:l7 fS m st=match m {st with loc:=fS} with
  |.fail n=>.fail n
  |.ok a bp=>.ok a {bp with loc:=st.loc}
  |.ex bp=>.ex {bp with loc:=st.loc}:=by kernel_rfl
theorem At.within{L:az}{o:cj}{au:Array hT}{W:Wp ah}{F:(aB->aN->Prop)->aB->aN->Prop}
  (h:At fY g (c.enter L o fr A) β {st with loc:=fS} s m W R)(hd:o.data=.dict au fm)(aw:xu au)(cb:∀x v,eh x st.loc=C v->∃y,sH au x=C y/\a7 β v y)
  (ak:∀E e ao bp av,fY g (c.enter L o fr A) bp av e ao->(∀fa,Told g (c.enter L o fr A) bp av e fa->E e fa)->F E e ao):At fY g c β st s (l7 fS m) (λQ E s=>W Q (F E) s) R:=by
 unfold At at h ⊢;have e:l7 fS m st=(match m {st with loc:=fS} with
  |.fail n=>.fail n
  |.ok a bp=>.ok a {bp with loc:=st.loc}
  |.ex bp=>.ex {bp with loc:=st.loc}):=D1
 generalize q:m {st with loc:=fS}=aF;induction aF using MI.Out.casesOn with
 |fail n=>(refine G e (G q ?_));trivial
 |ok v bp=>(refine G e (G q ?_));rw[q] at h;exact λQ E aq=>h Q (F E) λa ao av l S r=>aq a ao av l (S.leave hd aw λx v q=>(aU (cb x v q) λy aa af=>(bh y aa (af.le l)))) r
 |ex bp=>(refine G e (G q ?_));rw[q] at h;intro Q E aq;refine h Q (F E) λe ao av l S=>ak E e ao _ av S λfa T=>aq e fa av l ?_;(refine eH T λa J gG eE=>?_;try clear T;(clear S;subst J));exact ih gG.told λcg aK a1 a2 cm c_ iL dR=>⟨a,rfl,⟨cg,aK,a1,a2,cm,c_,iL,.inr (dR.resolve_left λq=>q.1 trivial)⟩,eE.leave hd aw λx v q=>(aU (cb x v q) λy aa af=>(bh y aa (af.le l)))⟩
end
variable{gb:Array (Option aB)}
section
variable{c:bc}{st:St}{s:aN}{ab:cK}
theorem Qi(U:c.Ok g dep)(V:∃e rest,c.fr=e::rest/\env.frame=e.frame){v:aB}{Q:Unit->aN->Prop}(F:fY g c st β v s)(aq:∀ao,Told g c st β v ao->Q () ao):a5 g.M c.A (uP env v) Q E s:=by unfold uP;exact b3 (zJ U V F λao pT=>vt U pT aq)
theorem zO{sc:pK}(h:qG sc=ae):sc.kind=.function/\sc.isGenerator=ai/\sc.isCoroutine=false:=by unfold qG at h;simp only[ew,jl] at h;(refine a3 h λJ _=>?_;try clear h;refine a3 J λbU aJ=>?_;try clear J;refine a3 bU λaa af=>?_;try clear bU);refine(fi ?_ af aJ);exact Iz aa
theorem zH:∀{l:List aM},oj l=ae->l.Nodup
 |[],_=>.nil
 |x::r,h=>by rw[acb] at h;rw[ew] at h;(refine a3 h λaa af=>?_;try clear h);refine gN jD ⟨λm=>?_,zH af⟩;obtain this:=eX.mp aa x m;rw[jl,oX] at this;exact this rfl
theorem aaP{names:List (aM×gC)}{binds:List (aM×V)}(h:P_ names binds=ae)(x:aM)(ak:x∈binds.map (·.1)):g7 x names=C .local\/g7 x names=C .cell:=by
 (refine aU (kY.mp ak) λe he J=>?_;(clear ak;subst J));refine cF (eX.mp h e he) λk q h=>G q ?_;clear q;induction k using sJ with
 |«local»=>exact .inl rfl
 |cell=>exact .inr rfl
 |_=>exact c8 h
theorem cellsFrom_some:∀(l:List (aM×gC))(n:Nat)(acc:List (aM×az)),(x,NameKind.cell)∈l->((oA n l acc).lookup x).isSome=ae
 |(y,eU)::r,n,acc,h=>by
  obtain Z8:∀(l:List (aM×gC))(n:Nat)(acc:List (aM×az))(a:az),(x,a)∈acc->((oA n l acc).lookup x).isSome=true:=λl n acc a aV=>by
   obtain this:=Bt l n acc aV;generalize q:(oA n l acc).lookup x=aF;induction aF using b1 with
   |some _=>rfl
   |none=>rw[KP] at q;obtain this:=q _ this;simp at this
  unfold oA;rcases dh.mp h with e|h
  ·(refine a3 (eD e) λJ bU=>?_;clear e;subst J;(clear h;subst bU));exact G (if_pos (by exact rfl)) (Z8 r _ _ n (.head _))
  .split
   .exact cellsFrom_some r _ _ h
   .exact cellsFrom_some r _ _ h
theorem mem_of_lookup{v:aQ}:∀{l:List (aM×aQ)},l.lookup x=C v->(x,v)∈l
 |(y,w)::r,h=>by
  rw[md] at h;generalize q:(x==y)=z at h;induction z using bV with
  |true=>(obtain J:=aT h;clear h;subst J);exact G (beq_iff_eq.mp q) (.head _)
  |false=>exact .tail _ (mem_of_lookup h)
theorem CY{v:aQ}{l:List (aM×aQ)}(aO:(l.map (·.1)).Nodup)(h:(x,v)∈l):l.lookup x=C v:=by
 induction l with
 |nil=>cases h
 |cons p r bj=>
  rw[j4,jD] at aO;show(match x==p.1 with|true=>C p.2|false=>r.lookup x)=_;rcases dh.mp h with e|h
  ·(clear h aO;subst e);exact G (beq_self_eq_true _) rfl
  .obtain this:(x==p.1)=false:=beq_eq_false_iff_ne.mpr λe=>aO.1 (by obtain this:=kU (f:=(·.1)) h;exact G (bW e) this);exact G this (bj aO.2 h)
theorem VU{l:List (aM×gC)}:∀(n:Nat)(acc:List (aM×az)),(l.map (·.1)).Nodup->(acc.map (·.1)).Nodup->(∀x∈l.map (·.1),x∉acc.map (·.1))->
  ((oA n l acc).map (·.1)).Nodup/\∀p∈oA n l acc,p∈acc\/(p.1,NameKind.cell)∈l:=by
 induction l with
 |nil=>exact λn acc _ h _=>⟨h,λp b7=>.inl b7⟩
 |cons e r bj=>
  obtain(⟨x,eU⟩):=e;intro n acc aa af aJ;rw[j4,jD] at aa;unfold oA;split
  .rename_i q;refine a3 (bj (n+1) ((x,n)::acc) aa.2 (by
    (refine G j4 (gN jD ?_));exact⟨aJ x (.head _),af⟩) (λy bT=>by(refine G j4 ?_;(rewrite[dh];refine gN not_or ?_));exact⟨λe=>aa.1 (G (bW e) bT),aJ y (.tail _ bT)⟩)) λa b=>?_
   refine⟨a,λp b7=>?_⟩;rcases b p b7 with h|h
   .rcases dh.mp h with e|h
    ·(clear h b7;subst e);rw[beq_iff_eq] at q;(clear aJ aa;subst q);exact .inr (.head _)
    .exact .inl h
   .exact .inr (.tail _ h)
  .exact a3 (bj n acc aa.2 af (λy bT=>aJ y (.tail _ bT))) λa b=>⟨a,λp b7=>(b p b7).imp id λh=>.tail _ h⟩
theorem Rd{o:Option aQ}(h:Jr o=C u):o=none:=by
 induction o using b1 with
 |none=>rfl
 |some=>exact bK h
theorem VI{b:FuncBody}{l:List eQ}(h:MU b=C l):b=.stmts l:=by
 cases b with
 |stmts=>(obtain J:=aT h;clear h;subst J);rfl
 |expr=>exact bK h
theorem acV{p:Arguments}(h:RG p=C as):∃an ds,p=⟨[],as,none,[],an,none,ds⟩:=
 cu h λI a1 h=>cu h λI a2 h=>cu h λI cm h=>cu h λI c_ h=>by obtain(⟨df,dx,fP,iV,iW,kN,jS⟩):=p;(obtain J:=aT h;clear h;(clear h;subst J));exact(w2 iW jS (G (show df=[] from lq a1) (G (show fP=none from Rd a2) (G (show iV=[] from lq cm) (G (show kN=none from Rd c_) rfl)))))
theorem VO(O:g.Ok)(ba:dW g aG)(U:c.Ok g dep){a:az}(bx:g.K.lookup a=C ⟨bF,fU,.func fd,gb⟩)(R:bL (a7 β) aK aH):
  cT g c β (M4 aG g.K dep fd aK) (jG g c (.ref a) aH) a7:=by
 intro aW st s aa H;have R:=R.imp λI I x=>x.le aa;refine .guard λB4=>.bq λbody aD=>.bq λas b7=>.bq λu lX=>.guard λB5=>?_;obtain aD:=VI aD;obtain lX:=lq lX;refine mF (acV b7) λan ds b7=>?_;simp only[ew] at B4 B5;(refine a3 B4 λJ tb=>?_;try clear B4;refine a3 J λbU ta=>?_;try clear J;refine a3 bU λcv s_=>?_;try clear bU;refine a3 cv λjC i9=>?_;try clear cv;refine a3 jC λe5 gZ=>?_;try clear jC);(refine a3 B5 λJ cC=>?_;try clear B5;refine a3 J λa9 bf=>?_;try clear J);refine fO (zO e5) λbw c3 fL=>?_;have dO:dep<300:=bA i9;obtain Y9:fd.defaults=.none:=CH s_;obtain tI:=d0 ta;obtain qk:=d0 tb;have hlen:as.length=aH.length:=(d0 a9).trans R.length;have yQ:(as.map (·.arg)).Nodup:=zH bf;have ahv:(as.map (·.arg)).length=aH.length:=by exact G (gB _) (G hlen rfl)
 have Pj:(fd.scope.names.map (·.1)).Nodup:=by unfold qG at e5;rw[ew] at e5;exact zH e5.2
 have B7:=U.depth;obtain Ie:=U.units;let L:=s.heap.objs.size;let cL:=callEnvC fd L a;let binds:=(as.map (·.arg)).zip aH;have rA:(binds.map (·.1)).Nodup:=by show(((as.map (·.arg)).zip aH).map (·.1)).Nodup;exact G (pO (by exact eJ (by assumption))) yQ
 obtain VG:((((as.map (·.arg)).zip aK)).map (·.1)).Nodup:=by exact G (pO (by obtain this:=R.length;lia)) yQ
 have kindOf:∀x,cL.kindOf x=g7 x fd.scope.names:=λx=>(vX x _).symm;refine At.w0 (aG:=InCallC s cL.locals (bindL cL.kindOf binds λI=>none) cL.cells (bindC cL.kindOf binds λI=>none))
  (nc:=λQ E bg=>a5 g.M (c.A.deeper cL) (cH body cL) (λf ao=>Q (match f with|.ret v=>v|_=>.none) ao) (λe ao=>a5 g.M (c.A.deeper cL) (uP cL e) (λI fa=>E e fa) (λcf fa=>E cf fa) ao) bg) (λbg bM=>?_) λQ E la=>?_
 ·
  (refine mF bM.toInCall.same λay cX J=>?_;subst J);have keep:=bM.toInCall.keep;obtain sW:SatO g c st aW ay:=H.toSatO.grow keep;refine mG H.loc.obj λfT qe tk hj jv mz ob=>?_;obtain freeOf:∀b,L<=b->c.gV b:=λb aD=>.Dr U H.toSatO H.loc aD;have lay:=I3 (g:=g) (c:=c) (β:=aW) (binds:=(as.map (·.arg)).zip aK) (ya:=λx=>binds.lookup x) (h:=ay) (λx=>BY R) (cs:=cL.cells) (λp b7=>?_) (P:=λb=>b≠L) (λp b7=>pF (bM.above p.1 p.2 b7)) fd.scope.names (L+1) [] [] st aW (.refl _) sW (λm y dq ec df dx=>?_) .nil rfl
  .generalize q:v3 ((as.map (·.arg)).zip aK) fd.scope.names [] st=aF;induction aF using MI.Out.casesOn with
   |fail n=>exact .stuck q
   |ex bp=>rw[q] at lay;exact lay.elim
   |ok cells qP=>
    rw[q] at lay;(refine Dp lay λaY eC e8 cr yK aci=>?_;try clear lay);refine At.step q (At.le ?_ eC);let bI:=c.enter L fT (cL::c.fr) (c.A.deeper cL);have ek:bI.Ok g (dep+1):=U.enter H hj jv (dP _) (by show c.A.frames.map _=_;exact G U.frames rfl) (λenv he=>by
     rcases dh.mp he with rfl|he
     .exact .inr ⟨by show fd.scope.kind≠.module;refine G bw ?_;simp,rfl⟩
     .exact .inl he) (by show c.A.depth+1<=_;exact NW B7 (bA rfl)) (by show c.A.units+3<=_;exact SU Ie (bA rfl)) (by exact bR (by assumption) (bA rfl)) (λh=>U.calm (by exact kq (by assumption)))
    have gY:cc bI ⟨fd.scope,cells,dep+1⟩ cL aY:=⟨rfl,bw,tI,qk,rfl,λx n e=>xA.look cr e,(gi cL c.fr rfl rfl),bc.oW H hj (dP _)⟩;obtain eE:Sat g bI {qP with loc:=qA fd.scope.names ((as.map (·.arg)).zip aK)} aY {s with heap:=ay,toks:=cX}:=by refine⟨e8.enter (keep _ _ hj) aci,H.os,_,bM.toInCall.ns,λx v e=>?_⟩;refine a3 (yw VG e) λde Yx=>?_;obtain this:=BY (x:=x) (ns:=as.map (·.arg)) R;rw[Yx] at this;(refine aU this λy bT hR=>?_;try clear this);refine(bh y ?_ (hR.le eC));(refine G (Gb (by exact G (kindOf _) de) binds _ rA) ?_;exact G bT rfl)
    obtain run:=ba.xs bI ⟨fd.scope,cells,dep+1⟩ cL aY body ek gY aY _ _ (.refl _) eE;obtain Iw:=At.within (F:=λE e ao=>a5 g.M (c.A.deeper cL) (uP cL e) (λI fa=>E e fa) (λcf fa=>E cf fa) ao) run jv mz (λx v e=>by rw[yK] at e;exact aU (ob x v e) λy bT hR=>(bh y bT (hR.le eC))) (λE e ao bp av F aq=>Qi ek gY.frame F aq)
    refine(Iw.bind (k:=λ(f:fH)=>λ(Q:aB->aN->Prop) I ao=>Q (match f with|.ret v=>v|_=>xq) ao) λav eM f bp ao l fv S=>?_).of λQ E k=>k;induction eM using MI.dj.casesOn with
    |next=>obtain rfl:=fv;exact .om λv q=>by(obtain J:=aT q;clear q;subst J);exact .ret λQ E aq=>aq _ _ av (.refl _) S rfl
    |ret v=>(refine aU fv λy J hR=>?_;try clear fv;subst J);exact .om λv q=>by(obtain J:=aT q;clear q;subst J);exact .ret λQ E aq=>aq _ _ av (.refl _) S hR
    |brk=>exact .om λv q=>nomatch q
    |cont=>exact .om λv q=>nomatch q
  .have keys:=VU (l:=fd.scope.names) (L+1) [] Pj .nil (λI I h=>nomatch h);obtain lk:cL.cells.lookup p.1=C p.2:=CY keys.1 b7;have cl:fd.scope.names.lookup p.1=C .cell:=by
    rcases keys.2 p b7 with h|h
    .cases h
    .exact CY Pj h
   have:=bM.cell p.1 p.2 lk;rw[MR (by(rewrite[kindOf,vX];refine G cl ?_);simp) binds _ rA] at this;refine⟨?_,freeOf _ (kq (bM.above p.1 p.2 b7))⟩;generalize q:binds.lookup p.1=aF;induction aF using b1 with
   |none=>rw[q] at this;exact this
   |some y=>rw[q] at this;exact this
  .refine bG H.objs λf hf=>?_;obtain(⟨ef,fK,bZ,c5,fF⟩):=hf m ae y df;rw[dx] at bZ;(obtain J:=aT bZ;clear bZ;refine a3 (eD J) λbU cv=>?_;clear J;subst bU;subst cv);obtain(⟨⟨_,t1⟩,_,jh⟩):=cN.there (fF rfl).iT (show cN g s.heap.get? aW dq ec y from c5);have dT:=fW t1;have cG:=fW jh;exact(fi ⟨xf dT,xf cG⟩ (kr dT) (kr cG))
 .refine codeAny_call_cells (binds:=binds) (by show c.A.depth<1000;exact jk (NX B7 (kq dO) (dP _)) (bA rfl)) (H.toSatO.fl U O _ _ bx) rfl (H.toSatO.top U O).nolimit (EK (H.toSatO.fl U O) (V8 gZ)) aD (Bn b7 Y9 yQ hlen) lX (λx ak=>?_) (λbg bM=>la bg bM) fL c3 bw;obtain this:=aaP cC x.1 (by refine G (pO (by obtain this:=R.length;lia)) ?_;obtain this:=kU (f:=(·.1)) ak;rwa [pO (by exact eJ (by assumption))] at this)
  rw[vX] at this;rcases this with h|h
  .exact .inl h
  .exact .inr ⟨h,cellsFrom_some _ _ _ (mem_of_lookup h)⟩
end
noncomputable def bc.around(c:bc)(A:oC):bc:=⟨c.P,c.cx,c.fr,c.L,A⟩
section
variable{c:bc}{st:St}{s:aN}
theorem Sat.around(H:Sat g c st β s):Sat g (c.around A) st β s:=⟨⟨H.keep,H.cx,H.objs.imp λI F=>F.BC rfl λI x=>x,H.len,H.facts,H.ghost⟩,H.os,H.loc⟩
theorem Sat.wY(H:Sat g (c.around A) st β s):Sat g c st β s:=⟨⟨H.keep,H.cx,H.objs.imp λI F=>F.BC rfl λI x=>x,H.len,H.facts,H.ghost⟩,H.os,H.loc⟩
theorem fY.wY{v:aB}(H:fY g (c.around A) st β v s):fY g c st β v s:=by(refine eH H λe aa J aJ=>?_;try clear H;obtain(⟨cg,aK,r⟩):=J);exact⟨e,aa,⟨cg,aK,r⟩,aJ.wY⟩
theorem bH.wY{ah:Type}{m:M aQ}{W:Wp ah}{R:aZ->aQ->ah->Prop}(h:cT g (c.around A) β m W R):cT g c β m W R:=λaW st s aa H=>by
 obtain h:=h aW st s aa H.around;unfold At at h ⊢;split at h
 .trivial
 .exact λQ E aq=>h Q E λa ao av l S=>aq a ao av l S.wY
 .exact λQ E aq=>h Q E λe ao av l S=>aq e ao av l S.wY
theorem afI(f:az)(aH:List aB):(LG "type.__call__" ⟨.ref f::aH,[]⟩).weight=1:=by kernel_rfl
theorem afH(f:az)(aH:List aB):(LG "type.__call__" ⟨.ref f::aH,[]⟩).cUnits=1:=by kernel_rfl
theorem afG(f:az)(aH:List aB):(LG "type.__call__" ⟨.ref f::aH,[]⟩).envs=[]:=by kernel_rfl
theorem M8(O:g.Ok)(ba:dW g aG)(U:c.Ok g dep){f:az}(R:bL (a7 β) aK aH):cT g c β (gp aG g.K dep (.c (.ref f)) aK) (jG g c (.ref f) aH) a7:=by
 unfold gp;generalize bx:g.K.lookup f=aF;induction aF using b1 with
 |none=>dsimp only;exact G (CV.trans bx) .fail
 |some o=>
 obtain(⟨bF,fU,data,gb⟩):=o;dsimp only;refine G (CV.trans bx) ?_;induction data using Au with
 |func fd=>exact VO O ba U bx R
 |cls ag9=>
  dsimp only;generalize hm:(Jg g.K f&&eK dep Ji)=aF;induction aF using bV with
  |false=>exact .fail
  |true=>
  generalize hf:((zx g.K f "__init__").bind λy=>y.bind wN)=aF;induction aF using b1 with
  |none=>exact .fail
  |some ts=>
   obtain Zi:zx g.K f "__init__"=C (C (.ref ts)):=cu hf λy e h=>cu h λv cf h=>by exact G e (G cf (G (DI h) rfl))
   rw[ew] at hm;obtain dO:dep<300:=bA hm.2;dsimp only;split
   .rename_i Pe;intro aW st s aa H;refine .alloc λaO=>?_;let cd:Code:=.builtin "type.__call__" ⟨.ref f::aH,[]⟩;obtain hw:cd.weight=1:=afI f aH;obtain cy:cd.cUnits=1:=afH f aH;obtain Za:=U.depth;obtain ZS:=U.units;obtain ek:(c.around (c.A.under cd)).Ok g (dep+1):=⟨U.base,by show pushEnvs cd.envs c.A.frames=C c.fr;(refine G U.frames (G (show cd.envs=[] from afG f aH) ?_));rfl,U.here,U.hd,U.iX,(show c.A.depth+cd.weight<=_ from hw▸NW Za (bA rfl)),(show c.A.units+cd.cUnits<=_ from cy▸SU ZS (bA rfl)),λ_=>U.calm (kq (by assumption)),by exact bR (by assumption) (bA rfl)⟩;obtain Zj:typeIn g.K (.ref ts)=C (.type "function"):=by unfold isFn at Pe;exact beq_iff_eq.mp Pe
    obtain dm:Sat g c {st with σ:=st.σ.put cU st.no (ae,.inst f []),no:=st.no+1} (aW.new (s.heap.objs.size+1) s.heap.objs.size) {s with heap:=(s.heap.push emptyDict).push (uQ f s.heap.objs.size),toks:=s.toks}:=by
     refine H.oQ U aO (λ_ _ e=>f6 _ (f6 _ e)) (LK _) (dP _) ⟨by simp,[],0,?_,?_,.nil⟩ rfl
     .exact(by obtain this:=nP (s.heap.push emptyDict) (o:=uQ f s.heap.objs.size) rfl;rwa [Er] at this)
     .exact f6 _ (nP _ rfl)
    have Qm:a7 (aW.new (s.heap.objs.size+1) s.heap.objs.size) (.r st.no) (.ref (s.heap.objs.size+1)):=⟨_,_,by exact G (bW H.len) (aW.lp _ _),rfl⟩;have eG:=aW.gJ (s.heap.objs.size+1) s.heap.objs.size;have K:=ba.ca (c.around (c.A.under cd)) (dep+1) (aW.new (s.heap.objs.size+1) s.heap.objs.size) ts (.r st.no::aK) (.ref (s.heap.objs.size+1)::aH) ek (.cons Qm (R.imp λ_ _ x=>(x.le aa).le eG));have UB:=K.wY.bind (f:=λ
     |.c .none=>M.pure (.r st.no)
     |_=>fail 95) (k:=λv=>λQ _ ao=>v=.none/\Q (.ref (s.heap.objs.size+1)) ao) (cD:=a7) λav v a l r=>?_
    .refine At.w0 (nc:=λQ E bg=>jG g (c.around (c.A.under cd)) (.ref ts) (.ref (s.heap.objs.size+1)::aH) (λa bg=>a=.none/\Q (.ref (s.heap.objs.size+1)) bg) E bg) (aG:=λbg=>bg={s with heap:=(s.heap.push emptyDict).push (uQ f s.heap.objs.size),toks:=s.toks}) ?_ ?_
     .rintro bg rfl;exact(UB _ _ _ (.refl _) dm).le eG
     .intro Q E la;have la:=la _ rfl;refine make_core (makes_of (H.toSatO.fl U O) (abt hm.1)) (AK (H.toSatO.fl U O) (QN Zi)) (λself=>bind_fn (H.toSatO.fl U O) self Zj) (.inl rfl) (uK la λr ao h=>?_);induction r using uD with
      |error e=>exact h
      |ok fin=>induction fin using w_ with
       |ret v=>obtain(⟨rfl,h⟩):=h;exact⟨rfl,h⟩
       |_=>exact h
    .induction v using MI.V.casesOn with
     |c x=>
      induction x using lJ with
      |none=>obtain rfl:=r;exact bH.pure (a:=(.ref (s.heap.objs.size+1):aB)) (λd9 a_=>Qm.le (l.trans a_))|>.of λQ E s k=>⟨rfl,k⟩
      |_=>exact .fail
     |_=>exact .fail
   .exact .fail
 |_=>exact .fail
end
variable{pos:cq}
section
variable{M:Model}{s:aN}
theorem zF{r:List bk}(h:mD (e::r)=ae):isStar e=ai/\mD r=true:=by
 rw[ab4] at h;split at h
 .exact c8 h
 .rename_i q;exact⟨q,h⟩
theorem nx:∀{as:List bk},mD as=ae->(mQ pos (lG as env)).any (·.1)=ai
 |[],_=>rfl
 |e::r,h=>by refine a3 (zF h) λaa af=>G ((nD aa) _) ?_;show(ai||(backTo pos (starEach r env)).any (·.1))=false;exact G (nx af) rfl
theorem n7{f:aB}{as:List bk}{Q:Args->aN->Prop}(aO:mD as=ae)
  (h:a5 M A (spliced (mQ pos (lG as env))) (λaK ao=>Q ⟨aK,[]⟩ ao) E s):a5 M A (evalArgs f ae (mQ pos (lG as env)) []) Q E s:=by
 induction as using eo with
 |nil=>unfold evalArgs;show a5 M A (spliced []>>=_) Q E s;refine b3 (d4 h (λaK ao ay=>?_) λI I x=>x);exact iI (b3 (d3 (b3 (d3 (d3 ay)))))
 |cons e r=>refine a3 (zF aO) λaa I=>?_;rw[nD aa] at h ⊢;exact evalArgs_plain h
theorem oR{f:bk}(hf:∀o x p,f≠.Attribute o x p)(as:List bk)(pos:cq):dM (.Call f as [] pos) env=(do sD pos (<-dM f env) [] (mQ pos (lG as env)) (backToKw pos (keywordEach [] env))):=by cases f<;>first|rfl|exact absurd rfl (hf _ _ _)
theorem M9{o:bk}{p:cq}{as:List bk}(aa:zV o=ae)(af:cw p.endLine pos.line=ae)(aJ:c6 as.length 9=ae)(bl:mD as=ae):dM (.Call (.Attribute o x p) as [] pos) env=(do
  let gK <-dM o env
  uO p.atName
  let(f,first) <-sF [gK] (sy gK x (do return (<-importBound o env).getD ae))
  sD pos f first (mQ pos (lG as env)) []):=by
 obtain af:(p.endLine==pos.line)=true:=beq_iff_eq.mpr (d0 af);obtain aJ:=bA aJ;obtain eS:methodCallForm (as.length+([]:List Keyword).length) (mQ pos (lG as env)) (backToKw pos (keywordEach [] env))=true:=by
  unfold methodCallForm;obtain this:(mQ pos (lG as env)).all (λx=>!x.1)=true:=by obtain this:=nx (env:=env) (pos:=pos) bl;refine gN eX ?_;intro x ak;rw[List.any_eq_false] at this;obtain this:=this x ak;simpa using this
  refine G this ?_;show(ae&&ae&&decide (as.length+0+0<30))=ae;simp;exact jk (by assumption) (bA rfl)
 (rewrite[arm_eval_Call];refine G ((FO aa) _ _) ?_);unfold methodCall;refine G eS ?_;obtain this:methodCallPos ae o env p pos=pure pos:=by unfold methodCallPos;exact G af rfl
 exact G this rfl
end
section
variable{c:bc}{ab:cK}
theorem bH.with{ah:Type}{m:M aQ}{W:Wp ah}{R:aZ->aQ->ah->Prop}{P:aN->Prop}(h:bH X g c β m W R)(k:∀st β s,Sat g c st β s->P s):bH X g c β m (λQ E s=>P s/\W Q E s) R:=λaW st s aa H=>
 (h aW st s aa H).of λI I x=>⟨k _ _ _ H,x⟩
theorem M1(O:g.Ok)(U:c.Ok g dep){f:aB}(R:bL (a7 β) aK aH):bH X g c β (Gh f aK) (dN g c (gc f aH)) a7:=by
 have one:∀{v},iD aK=C v->∃y,aH=[y]/\a7 β v y:=λq=>by
  cases lu q;cases R with
  |cons r t=>cases t;exact(bh _ rfl r)
 induction f using lJ with
 |builtin i=>refine .asks λv q=>λaW st s aa H=>.guard λh=>?_;(refine aU (one q) λy J r=>?_;(clear one R;subst J));exact G (beq_iff_eq.mp h) (abg O U r aW st s aa H)
 |type t=>
  refine .asks λv q=>?_;(refine aU (one q) λy J r=>?_;(clear one R;subst J));generalize h:(t=="str")=aF;induction aF using bV with
  |true=>exact G (beq_iff_eq.mp h) (afy O U r)
  |false=>exact λaW st s aa H=>.guard λh=>G (beq_iff_eq.mp h) (adU O U r aW st s aa H)
 |_=>exact .fail
theorem Xu(O:g.Ok)(ba:dW g aG)(U:c.Ok g ab.dep)(V:cc c ab env β)(f:bk)(hf:∀o x p,f≠.Attribute o x p)(as:List bk)(pos:cq):
  cT g c β (M6 aG g.K ab f as) (dN g c (dM (.Call f as [] pos) env)) a7:=λdQ st s h0 H=>.guard λbb=>
 have bb:=(ew _ _).mp bb;have V:=V.le h0
 ((ba.ev c ab env dQ f U V).bind (f:=λf=>M7 aG g.K ab as f) (k:=λHq=>dN g c (sD pos Hq [] (mQ pos (lG as env)) [])) λav v a l r=>.asks λHq q=>by
  cases yg q;obtain rfl:=r;clear q;induction a using lJ with
  |ref dq=>exact λaW st s aa H=>.guard λaw=>(((tn ba U pos as (V.le (l.trans aa))).bind (k:=λaH=>λQ E s=>g.K.In s.heap/\jG g c (.ref dq) aH Q E s) λd9 aK aH a_ rs=>((ba.ca c ab.dep d9 dq aK aH U rs.1).with λI I I H=>H.toSatO.fl U O)).of λQ E s k=>by exact AN (P:=λh=>g.K.In h) (G (nx bb.2) rfl) (λh X=>keeps_K (P2 aw) h X) (n7 bb.2 (d4 k (λaK ao h=>⟨h.1,sx h.2⟩) λI I x=>x))) aW st s (.refl _) H
  |builtin i=>exact((tn ba U pos as (V.le l)).bind (k:=λaH=>dN g c (gc (.builtin i) aH)) λd9 aK aH a_ rs=>M1 O U rs.1).of λQ E s k=>by exact AF (nx bb.2) (n7 bb.2 k)
  |type t=>exact((tn ba U pos as (V.le l)).bind (k:=λaH=>dN g c (gc (.type t) aH)) λd9 aK aH a_ rs=>M1 O U rs.1).of λQ E s k=>by exact T1 (nx bb.2) (n7 bb.2 k)
  |_=>exact .fail).of (λQ E s k=>by exact G ((oR hf) _ _) (b3 k)) dQ st s (.refl _) H
end
noncomputable def Jj:m4->aB
 |.fn f=>.ref f
 |.append=>.builtin "list.append"
 |.extend=>.builtin "list.extend"
 |.get=>.builtin "dict.get"
 |.z6=>.builtin "dict.setdefault"
noncomputable def Fe(K:b5)(y:aB)(m:m4)(p:aB×List aB):Prop:=p=(Jj m,[y])/\∀f,m=.fn f->sI K (.ref f)=ae
variable{kj:hC Bool}
section
variable{c:bc}{ab:cK}
theorem aa6{m:m4}(h:zi x=C m)(bw:x="append"->m=.append->P)(c3:x="extend"->m=.extend->P):P:=by
 unfold zi at h;generalize q:eqs x "append"=aF;induction aF using bV with
 |true=>rw[q] at h;(obtain J:=aT h;clear h;(clear c3;subst J));exact bw (gr.mp q) rfl
 |false=>
  rw[q] at h;generalize cG:eqs x "extend"=aF;induction aF using bV with
  |true=>dsimp only at h;rw[cG] at h;(obtain J:=aT h;clear h;(clear bw;subst J));exact c3 (gr.mp cG) rfl
  |false=>dsimp only at h;rw[cG] at h;exact bK h
theorem Wm{m:m4}(h:yj x=C m)(bw:x="get"->m=.get->P)(c3:x="setdefault"->m=.z6->P):P:=by
 unfold yj at h;generalize q:eqs x "get"=aF;induction aF using bV with
 |true=>rw[q] at h;(obtain J:=aT h;clear h;(clear c3;subst J));exact bw (gr.mp q) rfl
 |false=>
  rw[q] at h;generalize cG:eqs x "setdefault"=aF;induction aF using bV with
  |true=>dsimp only at h;rw[cG] at h;(obtain J:=aT h;clear h;(clear bw;subst J));exact c3 (gr.mp cG) rfl
  |false=>dsimp only at h;rw[cG] at h;exact bK h
noncomputable abbrev GM(g:cz)(c:bc)(x:aM)(kj:hC Bool)(y:aB):Wp (aB×List aB):=λQ E s=>a5 g.M c.A (sy y x kj) Q E s
theorem QQ{st:St}{s:aN}(H:Sat g c st β s){a:az}{aH:Array aB}{t4:Nat}(g1:s.heap.get? a=C (listOf aH t4)):At X g c β st s (bq n (zi x)) (GM g c x kj (.ref a)) (λI m p=>Fe g.K (.ref a) m p):=
 .om λm q=>.ret λQ E aq=>aa6 q (λa9 bf=>by
  subst a9 bf;exact El ⟨_,g1,rfl⟩ F.plainAttrs_list F.slot_list_append F.type_list_append (λb e=>by cases e;exact(bh _ g1 rfl)) (aq _ _ β (.refl _) H ⟨rfl,λf e=>nomatch e⟩)) λa9 bf=>by subst a9 bf;exact El ⟨_,g1,rfl⟩ F.plainAttrs_list F.slot_list_extend F.type_list_extend (λb e=>by cases e;exact(bh _ g1 rfl)) (aq _ _ β (.refl _) H ⟨rfl,λf e=>nomatch e⟩)
theorem QP{st:St}{s:aN}(H:Sat g c st β s){a:az}{f_:cj}(g1:s.heap.get? a=C f_)(g2:f_.IsDictOf (strKind g.prog g.w) aA):At X g c β st s (bq n (yj x)) (GM g c x kj (.ref a)) (λI m p=>Fe g.K (.ref a) m p):=
 let⟨_,_,ex,_⟩:=g2
 .om λm q=>.ret λQ E aq=>Wm q (λa9 bf=>by
  subst a9 bf;exact El ⟨_,g1,ex.1⟩ F.plainAttrs_dict F.slot_dict_get F.type_dict_get (λb e=>by cases e;exact(bh _ g1 ex.2.1)) (aq _ _ β (.refl _) H ⟨rfl,λf e=>nomatch e⟩)) λa9 bf=>by subst a9 bf;exact El ⟨_,g1,ex.1⟩ F.plainAttrs_dict F.slot_dict_setdefault F.type_dict_setdefault (λb e=>by cases e;exact(bh _ g1 ex.2.1)) (aq _ _ β (.refl _) H ⟨rfl,λf e=>nomatch e⟩)
theorem RY{v:aB}{a:az}(h:JR v=C a):v=.ref a:=by
 induction v using lJ with
 |ref b=>exact congrArg _ (c0 h)
 |_=>exact gy h
theorem abB(O:g.Ok)(U:c.Ok g dep){v:V}(r:a7 β v y)(x:aM)(kj:hC Bool):bH X g c β (QO g.K v x) (λQ E s=>a5 g.M c.A (sy y x kj) Q E s) (λI m p=>Fe g.K y m p):=λaW st s aa H=>by
 induction v using MI.V.casesOn with
 |r n=>
  (refine cA (r.le aa) λa d aV J=>?_;(clear r;subst J));refine .peek (v:=n) rfl (.oh H aV λo R=>?_);induction o using MI.O.casesOn with
  |inst Cl dH=>
   obtain(⟨_,au,m,af,aJ,bl⟩):=R;exact .guard λq=>.bq λw bf=>.bq λf cC=>.bq λk5 iM=>.guard λbb=>.ret λQ E aq=>by have q:=(ew _ _).mp q;have bb:=(ew _ _).mp bb;have k:=Nq q.1;subst cC;rw[RY iM] at bf;exact method_fn (H.toSatO.fl U O) (CD af aJ) k.ga k.gt (QN bf) (beq_iff_eq.mp bb.1) (by unfold shadowIn;dsimp only;(refine G (lookIn_dict _ _ _) (G (Yp bl (nO.mp q.2)) ?_));rfl) (aq _ _ aW (.refl _) H ⟨rfl,λk5 e=>by cases e;exact P2 bb.2⟩)
  |list xs=>obtain(⟨_,aH,k,g1,_⟩):=R;exact QQ H g1
  |iQ k xs=>obtain(⟨_,aH,k,_,_,g1,_⟩):=R;exact QQ H g1
  |dict au op=>obtain(⟨_,_,f_,aA,g1,g2,_⟩):=R;exact QP H g1 g2
  |jx t4 j=>obtain(⟨_,_,f_,aA,g1,g2,_⟩):=R;exact QP H g1 g2
  |_=>exact .fail
 |_=>exact .stuck (n:=105) rfl
end
noncomputable def aZ.lj(β:aZ)(z:Int):aZ:={β with aE:=β.aE++ [z]}
theorem aZ.I5(β:aZ)(z:Int):β.le (β.lj z):=⟨iH _,⟨[z],rfl⟩,iH _,iH _⟩
section
variable{c:bc}{ab:cK}{st:St}{s:aN}
theorem Sat.lj{b:b6}(H:Sat g c st β s)(h:b.1<=z/\z<=b.2.1/\∀j,b.2.2=C j->z<=((g.S+j:Nat):Int)):Sat g c {st with ar:=st.ar++ [b]} (β.lj z) s:=by refine bG H.objs λf hf=>?_;have l:=β.I5 z;refine⟨⟨H.keep,H.cx,⟨f,λn own o q=>?_⟩,H.len,⟨H.facts.aE.snoc h,H.facts.aj,H.facts.cd,H.facts.dd,H.facts.cn⟩,H.ghost.trans l⟩,H.os,H.loc.le l⟩;obtain(⟨a,d,aa,af,aJ⟩):=hf n own o q;exact⟨a,d,aa,af.mono l (λI e=>e) (λI e=>e),aJ⟩
theorem Sat.Ql(H:Sat g c st β s)(z:Int):bo.val (β.lj z) (.aL 0 ai st.ar.length)=C z:=by
 obtain len:st.ar.length=β.aE.length:=H.facts.aE.length;obtain this:(β.lj z).aE[st.ar.length]? =C z:=by exact G len (List.getElem?_concat_length ..)
 simp only[bo.val,this];exact G (Ew _) rfl
noncomputable abbrev Ma(g:cz)(c:bc)(f:aB)(aH:List aB):Wp Value:=λQ E s=>g.K.In s.heap/\a5 g.M c.A (gc f aH) Q E s
theorem agg{k:aM}{v:aB}:∀{aA:List (aM×aB)},a0 aA k=C v->∃x,(x,v)∈aA:=by intro aA h;unfold a0 at h;refine aU (pM.mp h) λx ak e=>?_;obtain this:=KI ak;exact⟨x.1,by exact G (bW e) this⟩
theorem I9(O:g.Ok)(H:Sat g c st β s){gs dp:MI.O}{a:az}{aH:Array aB}{u:aB}(aO:n<10000000)(bM:st.σ.get n=C (ae,gs))(aV:β.ad[n]? =C (a,a))(g1:s.heap.get? a=C (listOf aH k))(a8:aH.size<=250000)
  (R:∀(a6:az->Option cj)(eF:Nat),a6 a=C (listOf (aH.push u) eF)->cN g a6 β a a dp)(iT:dp.qh=ai){Q:aB->aN->Prop}
  (aq:∀ao,Sat g c {st with σ:=st.σ.put cU n (ae,dp)} β ao->Q .none ao):a5 g.M c.A (gc (.builtin "list.append") [.ref a,u]) Q E s:=by refine call_meets F.slot_list_append ⟨_,g1,rfl⟩ F.entry_list_append (F.args_list_append_2 _ _) (list_append a aH k u (nt (bR (by assumption) (bA rfl)))) ⟨g1,aq _ (H.turn (t:=s.toks) aO bM aV (.inl rfl) (Ed ..).extBut (R _ _ (IsL.update g1 (λx=>x.push u))) iT)⟩
theorem bL.one(R:bL (a7 β) aK aH){v:V}(q:iD aK=C v)(k:∀y,aH=[y]->a7 β v y->P):P:=by
 cases lu q;cases R with
 |cons r t=>cases t;exact k _ rfl r
theorem Vj(O:g.Ok)(H:Sat g c st β s){a:az}(aV:β.ad[n]? =C (a,d)){v:V}{u:aB}(dv:a7 β v u):At X g c β st s (MG n v) (dN g c (gc (.builtin "list.append") [.ref a,u])) a7:=
 .oh H aV λo R=>by
  obtain bt:=O.S;induction o using MI.O.casesOn with
  |list xs=>obtain(⟨g0,us,k,g1,g2⟩):=R;subst g0;obtain eG:xs.length=us.size:=g2.length;exact .guard λq=>.store λgs aO bM=>.ret λQ E aq=>I9 (dp:=.list (xs++ [v])) O H aO bM aV g1 (by obtain this:=bA q;lia) (λa6 I e=>⟨rfl,_,_,e,by exact G K_ (g2.snoc dv)⟩) rfl λao S=>aq _ _ β (.refl _) S rfl
  |iQ aaY xs=>
   obtain(⟨g0,us,k,pre,post,g1,g2,g3,eg,gv⟩):=R;subst g0;obtain eG:=eg.length;obtain fB:us.size=pre.length+post.length:=by exact G (bW w9) (G g2 (G iG rfl))
   obtain hm:most=4000:=rfl;exact .guard λq=>.store λgs aO bM=>.ret λQ E aq=>I9 (dp:=.iQ aaY (xs++ [v])) O H aO bM aV g1 (by obtain this:=bA q;exact bR (Ka fB eG gv hm bt this) (bA rfl)) (λa6 I e=>⟨rfl,_,_,pre,post++ [_],e,by(refine G K_ (G g2 ?_);exact G (nR _ _ _) rfl),g3,eg.snoc dv,gv⟩) rfl λao S=>aq _ _ β (.refl _) S rfl
  |_=>exact .fail
theorem XT(H:Sat g c st β s){m:Nat}{a a2 hp:az}(aV:β.ad[n]? =C (a,d))(oa:β.ad[m]? =C (a2,hp)):At X g c β st s (Oq n m) (dN g c (gc (.builtin "list.extend") [.ref a,.ref a2])) a7:=
 .guard λI=>.rW H aV oa λxs aH us ws k eF g0 g1 g3 g2 eg q=>.store λgs aO bM=>.ret λQ E aq=>
  call_meets F.slot_list_extend ⟨_,g1,rfl⟩ F.entry_list_extend (F.args_list_extend_2 _ _) (PySem.AutoSeq1.list_extend_list_list_0 a us k a2 ws eF (by unfold TA;refine G ku ?_;simp;lia) (nt (by lia)) (G ku (bR (by assumption) (bA rfl))))
   (fi g1 g3 (aq _ _ β (.refl _) (H.turn (t:=s.toks) aO bM aV (.inl rfl) (Ed ..).extBut ⟨g0,us++ws,_,IsL.update g1 (λx=>x++ws),by exact G KY (g2.append eg)⟩ rfl) rfl))
theorem X7{l:bB}{r:Option (Nat×V)}(k:Found β aA au l r){d:V}{z:aB}(nB:a7 β d z):a7 β (OK d r) ((a0 aA (aR l)).getD z):=by
 induction r using b1 with
 |none=>exact G k.1 nB
 |some p=>(refine a3 k λJ I=>?_;try clear k;refine aU J λy bT hR=>?_;try clear J);exact G bT hR
theorem abS{f:bo->M V}{W:Wp aB}(h:j<=100000->At X g c β {st with ar:=st.ar++ [(0,vj,C j)]} s (f (.aL 0 ai st.ar.length)) W a7):At X g c β st s ((C_ j).bind f) W a7:=by
 generalize q:c6 j 100000=aF;induction aF using bV with
 |false=>exact .stuck (n:=117) (by unfold C_;exact G q rfl)
 |true=>exact At.step (bp:={st with ar:=st.ar++ [(0,vj,C j)]}) (by unfold C_;exact G q rfl) (h (bA q))
theorem OT(O:g.Ok)(H:Sat g c st β s){a:az}(aV:β.ad[n]? =C (a,d)){e:ag}{l:bB}(aX:e.val β=C l){v:V}{z:aB}(nB:a7 β v z){W:Wp aB}
  (h:∀(Q:aB->aN->Prop)(E:aB->aN->Prop) aA,s.heap.DictOf (strKind g.prog g.w) a aA->(a==kv)=ai->(∀t,Q ((a0 aA (aR l)).getD z) {s with toks:=t})->W Q E s):At X g c β st s (Hu n e v) W a7:=
 .oh H aV λo R=>by
  generalize q:o.tV=aF;induction aF using b1 with
  |none=>exact .vn H aV λau op aA D=>.nd H D aX λr k=>.ret λQ E aq=>h Q E aA D.D (beq_eq_false_iff_ne.mpr D.ne) λt=>aq _ _ β (.refl _) H.toks (X7 k nB)
  |some p=>
   rw[Iq q] at R;refine .bq λgU q=>.guard λen=>abS λcE=>.ret λQ E aq=>?_;cases pf q;cases d0 en;(refine cA nB λz dC a8 J=>?_;try clear nB;subst J);(obtain J:=aT a8;clear a8;subst J);obtain(⟨ja,ne,f_,aA,g1,g2,g3,eg⟩):=R;obtain bt:=O.S;refine h Q E aA (vo g1 g2) (beq_eq_false_iff_ne.mpr ne) λcX=>?_;obtain big:vj=1000000:=rfl;obtain got:∃z t,(a0 aA (aR l)).getD (.int 0 dC)=.int z t/\0<=z/\z<=((g.S+p.2:Nat):Int):=by
    generalize q:a0 aA (aR l)=aF;induction aF using b1 with
    |none=>exact(d2 0 dC rfl (xp _) (kV _))
    |some v=>exact bG (agg q) λx ak=>g3 _ ak
   (refine fD got λz ui e fG hA=>?_;try clear got);show Q ((a0 aA (aR l)).getD (.int 0 dC)) _;exact G e (aq _ _ (β.lj z) (β.I5 z) (Sat.toks (H.lj (fi fG (by show z<=vj;exact gk hA (gk (jn.mpr (bR (mS bt cE) (bA rfl))) (show((1000000:Nat):Int)<=vj from uH big.symm))) (λCM cf=>by(obtain J:=aT cf;clear cf;subst J);exact hA)))) ⟨z,ui,H.Ql z,rfl⟩)
theorem afa(O:g.Ok)(H:Sat g c st β s){a:az}(aV:β.ad[n]? =C (a,d)){e:ag}{l:bB}{t:Tok}(aX:e.val β=C l){v:V}{z:aB}(nB:a7 β v z):At X g c β st s (Sd n e v) (dN g c (gc (.builtin "dict.setdefault") [.ref a,.str (aR l) t,z])) a7:=
 .vn H aV λau op aA D=>.guard λa8=>.nd H D aX λr k=>by
  obtain bt:=O.S;obtain a8:au.length<=4000:=bA a8;obtain Pp:qL g.S op<=g.S:=by cases op<;>simp[qL]
  obtain eT:=D.jb;have wR:=nt (n:=aA.length) (bR eT (bR (mS a8 (bR Pp bt)) (bA rfl)));have ne:=beq_eq_false_iff_ne.mpr D.ne;induction r using b1 with
  |none=>
   refine .store λgs aO bM=>.ret λQ E aq=>EC F.slot_dict_setdefault D.D.typeIs F.entry_dict_setdefault (F.args_dict_setdefault_3 _ _ _) (kt_meets_setdefault (strKind g.prog g.w) a (nE g l t) ne _) (l8 _ D.D wR (λv bJ=>?_) (λI ay hd iy=>?_))
   .rw[k.1] at bJ;exact bK bJ
   .exact aU (sq.mp hd) λkM bZ c5=>aq _ _ β (.refl _) (H.turn (t:=s.toks+1) aO bM aV (.inl rfl) iy.extBut (GO (q:=none) D.ja D.ne D.g3 D.eg D.gv D.jb aX nB bZ c5 k) rfl) nB
  |some p=>
   (refine a3 k λJ I=>?_;try clear k;refine aU J λjY bT hR=>?_;try clear J);refine .ret λQ E aq=>EC F.slot_dict_setdefault D.D.typeIs F.entry_dict_setdefault (F.args_dict_setdefault_3 _ _ _) (kt_meets_setdefault (strKind g.prog g.w) a (nE g l t) ne _) (l8 _ D.D wR (λv bJ=>?_) (λaO=>?_))
   .rw[bT] at bJ;(obtain J:=aT bJ;clear bJ;subst J);exact aq _ _ β (.refl _) H.toks hR
   .rw[bT] at aO;exact wJ aO
theorem VP(O:g.Ok)(ba:dW g aG)(U:c.Ok g dep){m:m4}{self:V}(r:a7 β self y)(R:bL (a7 β) aK aH):cT g c β (M5 aG g.K dep m self aK) (Ma g c (Jj m) (y::aH)) a7:=by
 refine bH.with ?_ λI I I H=>H.toSatO.fl U O;cases m with
 |fn f=>exact(ba.ca c dep β _ _ _ U (.cons r R)).of λQ E s k=>sx k
 |append=>exact λaW st s aa H=>.dv (W:=λy=>dN g c (gc (.builtin "list.append") (y::aH))) (r.le aa) λn a d aV=>.bq λv q=>R.one q λy e dv=>by(clear R;subst e);exact Vj O H aV (dv.le aa)
 |extend=>
  exact λaW st s aa H=>.dv (W:=λy=>dN g c (gc (.builtin "list.extend") (y::aH))) (r.le aa) λn a d aV=>.bq λv q=>R.one q λy e dv=>by(clear R;subst e);exact .dv (W:=λy=>dN g c (gc (.builtin "list.extend") [.ref a,y])) (dv.le aa) λm a2 hp oa=>XT H aV oa
 |get=>
  exact λaW st s aa H=>.dv (W:=λy=>dN g c (gc (.builtin "dict.get") (y::aH))) (r.le aa) λn a d aV=>by
   cases R with
   |nil=>exact .fail
   |cons JT t=>
    refine .cn (W:=λk=>dN g c (gc (.builtin "dict.get") (.ref a::k::_))) (JT.le aa) λe l u aX=>?_;cases t with
    |nil=>exact OT O H aV aX (v:=nH) rfl λQ E aA D ne k=>EC F.slot_dict_get D.typeIs F.entry_dict_get (F.args_dict_get_2 _ _) (meets_dict_get (strKind g.prog g.w) a (nE g l u) ne) (bh _ D.mapOf (k _))
    |cons nB t=>refine .bq λI q=>?_;cases lq q;cases t;exact OT O H aV aX (nB.le aa) λQ E aA D ne k=>EC F.slot_dict_get D.typeIs F.entry_dict_get (F.args_dict_get_3 _ _ _) (meets_dict_get_default (strKind g.prog g.w) a (nE g l u) ne _) (bh _ D.mapOf (k _))
 |z6=>
  exact λaW st s aa H=>.dv (W:=λy=>dN g c (gc (.builtin "dict.setdefault") (y::aH))) (r.le aa) λn a d aV=>.bq λw q=>by
   cases um q;cases R with
   |cons JT t=>
    cases t with
    |cons nB t=>cases t;exact .cn (W:=λk=>dN g c (gc (.builtin "dict.setdefault") [.ref a,k,_])) (JT.le aa) λe l u aX=>afa O H aV aX (nB.le aa)
theorem Xv(O:g.Ok)(ba:dW g aG)(U:c.Ok g ab.dep)(V:cc c ab env β)(o:bk)(x:aM)(p q:cq)(as:List bk):cT g c β (M0 aG g.K ab o x p as q) (dN g c (dM (.Call (.Attribute o x p) as [] q) env)) a7:=λdQ st s h0 H=>.guard λbb=>
 have aa:=(ew _ _).mp bb;have af:=(ew _ _).mp aa.2;have aJ:=(ew _ _).mp af.2;have V:=V.le h0
 ((ba.ev c ab env dQ o U V).bind (k:=λy=>λQ E s=>a5 g.M c.A (sy y x (do return (<-importBound o env).getD ae)) (λn_ bg=>a5 g.M c.A (sD q n_.1 n_.2 (mQ q (lG as env)) []) Q E bg) E s) λav v y l r=>
  (abB O U r x _).bind (k:=λn_=>dN g c (sD q n_.1 n_.2 (mQ q (lG as env)) [])) λd9 m n_ a_ zy=>by
   (refine a3 zy λJ mk=>?_;try clear zy;subst J);refine bH.of ((tn ba U q as (V.le (l.trans a_))).bind (k:=λaH=>Ma g c (Jj m) (y::aH)) λh2 aK aH hZ rs=>VP O ba U (r.le (a_.trans hZ)) rs.1) λQ E s k=>?_;have kj:=nx (env:=env) (pos:=q) aJ.2;cases m with
   |fn f=>exact AN (P:=λh=>g.K.In h) (G kj rfl) (λh X=>keeps_K (mk f rfl) h X) (n7 aJ.2 k)
   |_=>exact AF kj (n7 aJ.2 (d4 k (λI I x=>x.2) λI I x=>x))).of (λQ E s k=>by exact G (M9 aa.1 af.1 aJ.1 aJ.2) (b3 (d4 k (λgK bg dr=>b3 (kX (b3 (iI dr)))) λI I x=>x))) dQ st s (.refl _) H
end
noncomputable def CE:bk->Bool
 |.ListComp ..=>ae
 |.DictComp ..=>ae
 |_=>ai
noncomputable def G6(e:bk)(a:az)(env:hB):hC Unit:=match e with
 |.ListComp elt _ _ _=>(do let _ <-gc (.builtin "list.append") [.ref a,<-dM elt env])
 |.DictComp k v _ _ _=>(do
    let dn <-dM k env;let i2 <-sF [dn] (dM v env)
    uO {k.pos with endLine:=v.pos.endLine,endCol:=v.pos.endCol}
    sF [dn,i2] (dictSet a dn i2))
 |_=>pure ()
noncomputable abbrev sf(ifs:List bk)(env:hB)(b:Bool):hC Bool:=forIn ifs b λc r=>if r=ae then do let ok <-uR c env (dM c env);pure (xh ok) else pure (xh r)
noncomputable def rT(M:Model)(A:oC)(e:bk)(k:Nat)(a:az)(env:hB)(Q:Unit->aN->Prop)(E:aB->aN->Prop)(s:aN):Prop:=match(clauses e)[k+1]? with
 |none=>a5 M A (G6 e a env) Q E s
 |some br=>br.is_async=0/\isSet br.iter=ai/\a5 M A (dM br.iter env) (λx jg=>a5 M A (oD x) (λit sd=>ft M A (.compStart e (k+1) it (.ref a) env) (λr ao=>match r with
   |.ok _=>Q () ao
   |.error e=>nL M A env E e ao) sd) E jg) E s
theorem ys(h:isSet e=ai)(env:hB)(x:aB):foldedSetIterable e env x=pure x:=by cases e<;>first|rfl|exact jB h
@[elab_as_elim] theorem CF {Q:bk->Prop} (h:CE e=ae) (bw:∀a b c d,Q (.ListComp a b c d)) (c3:∀k a b c d,Q (.DictComp k a b c d)):Q e:=by
 cases e with
 |ListComp=>exact bw ..
 |DictComp=>exact c3 ..
 |_=>exact c8 h
variable{ifs:List bk}
section
variable{s:aN}
set_option tactic.hygienic true in
theorem V_(he:CE e=ae){t iter:bk}{it a:az}(aw:(clauses e)[k]? =C ⟨t,iter,ifs,0⟩)
  (h:a5 (c9 prog w) A (pyNext (.ref it)) (λr bg=>match r with
   |none=>R (.ok .next) bg
   |some v=>a5 (c9 prog w) A (Es t (.ref it) v) (λ_ b0=>a5 (c9 prog w) A (mT t env v) (λ_ dB=>a5 (c9 prog w) A (sf ifs env ae) (λok fh=>
     if ok=ae then rT (c9 prog w) A e k a env (λ_ jg=>ft (c9 prog w) A (.compLoop e k (.ref it) (.ref a) env) R jg) (iF (c9 prog w) A env λe ao=>R (.error e) ao) fh
     else ft (c9 prog w) A (.compLoop e k (.ref it) (.ref a) env) R fh) (iF (c9 prog w) A env λe ao=>R (.error e) ao) dB) (iF (c9 prog w) A env λe ao=>R (.error e) ao) b0) (iF (c9 prog w) A env λe ao=>R (.error e) ao) bg) (iF (c9 prog w) A env λe ao=>R (.error e) ao) s):
  ft (c9 prog w) A (.compLoop e k (.ref it) (.ref a) env) R s:=by
 refine AG ?_;obtain key:a5 (c9 prog w) A ((compTurn e k (.ref it) (.ref a) env).onRaise (λx=>do q4 x env;Lz x)) (λfin ao=>match fin with|.done f=>R (.ok f) ao|.again bI=>bI.quiet=ae/\ft (c9 prog w) A bI R ao) (λe ao=>R (.error e) ao) s:=by
  refine wpAny_noted ?_;unfold compTurn;split;rename_i gens em b7;obtain Co:gens=clauses e/\em=G6 e a env:=by clear h;revert b7;exact CF he (λ_ _ _ _ b7=>by(refine a3 (eD b7) λJ bU=>?_;clear b7;subst J;subst bU);exact⟨rfl,rfl⟩) (λ_ _ _ _ _ b7=>by(refine a3 (eD b7) λJ bU=>?_;clear b7;subst J;subst bU);exact⟨rfl,rfl⟩)
  clear b7;(refine a3 Co λJ bU=>?_;try clear Co;subst J;subst bU);refine G aw (b3 (kX (b3 (d4 h (λr bg dr=>?_) λ_ _ e=>e))));induction r using b1 with
  |none=>exact d3 dr
  |some v=>
   refine b3 (d4 dr (λ_ b0 fz=>b3 (d4 fz (λ_ dB kG=>b3 (d4 kG (λok fh iP=>?_) λ_ _ e=>e)) λ_ _ e=>e)) λ_ _ e=>e);induction ok using bV with
   |false=>exact d3 ⟨rfl,iP⟩
   |true=>
    rw[if_pos rfl] at iP;refine G (if_pos rfl) ?_;unfold rT at iP;generalize q:((clauses e)[k+1]?)=aF;induction aF using b1 with
    |none=>rw[q] at iP;exact b3 (d4 iP (λ_ jg vO=>d3 ⟨rfl,vO⟩) λ_ _ e=>e)
    |some br=>
     rw[q] at iP;refine fO iP λa1 a2 iP=>b3 (d4 iP (λx jg vO=>b3 (kX ?_)) λ_ _ e=>e);refine G a1 ?_;(refine G (if_neg (by exact sm)) (G ((ys a2) _ _) ?_));refine b3 (d3 (b3 (iI (d4 vO (λit sd Z0=>b3 (wpAny_runOwn (uK Z0 λr ao cb=>?_))) λ_ _ e=>e))));induction r using uD with
     |ok f=>exact d3 ⟨rfl,cb⟩
     |error e=>exact cb
 clear h aw;revert key;exact CF he (λ_ _ _ _ k=>k) (λ_ _ _ _ _ k=>k)
end
section
variable{s:aN}
theorem yb(he:CE e=ae){t iter:bk}{it acc:aB}(aw:(clauses e)[k]? =C ⟨t,iter,ifs,0⟩)
  (h0:ft (c9 prog w) A (.compLoop e k it acc env) R s)
  (h:∀(Q:aB->aN->Prop)(E:aB->aN->Prop),Q it s->a5 (c9 prog w) A (oD it) Q E s):
  ft (c9 prog w) A (.compStart e k it acc env) R s:=by
 refine AG ?_;obtain key:a5 (c9 prog w) A ((compStart e k it acc env).onRaise (λx=>do q4 x env;uO theWindowsPlace)) (λfin ao=>match fin with|.done f=>R (.ok f) ao|.again bI=>bI.quiet=ae/\ft (c9 prog w) A bI R ao) (λe ao=>R (.error e) ao) s:=by
  refine wpAny_notedAt ?_;obtain tK:(EN e)[k]? =C ⟨t,iter,ifs,0⟩:=by clear h h0;revert aw;exact CF he (λI I I I k=>k) (λI I I I I k=>k)
  unfold compStart;refine G tK ?_;show a5 _ _ (ask>>=_) _ _ s;refine b3 (wpAny_askSetting (wpAny_ite ?_));split
  .first
    |exact wpAny_bind (wpAny_pure (wpAny_pure (And.intro rfl h0)))
    |exact wpAny_pure (And.intro rfl h0)
  .first
    |exact wpAny_bind (wpAny_rule (wpAny_bind (wpAny_standAt (wpAny_bind (h _ _ (wpAny_pure (And.intro rfl h0)))))))
    |(refine wpAny_bind (wpAny_rule ?_);show wpAny _ _ (standAt iter.pos>>=_) _ _ s;exact wpAny_bind (wpAny_standAt (wpAny_bind (h _ _ (wpAny_pure (And.intro rfl h0))))))
 clear h h0 aw;revert key;exact CF he (λI I I I k=>k) (λI I I I I k=>k)
theorem Sx:∀(ifs:List bk){Q:Bool->aN->Prop},Q ai s->a5 (c9 prog w) A (sf ifs env ai) Q E s
 |[],_,h=>d3 h
 |c::r,_,h=>by unfold sf;exact G (Ln _ _ _ _) (G (if_neg (by exact sm)) (b3 (d3 (Sx r h))))
end
variable{acc:Nat}
section
variable{c:bc}{ab:cK}{st:St}{s:aN}
theorem IG(H:Sat g c st β s){a:az}(e:st.at n=C o)(aV:β.ad[n]? =C (a,d))(bN:isIt o=ae){Q:aB->aN->Prop}(h:Q (.ref a) s):a5 g.M c.A (oD (.ref a)) Q E s:=by
 obtain(⟨dq,ec,aa,R⟩):=H.obj e;rw[aV] at aa;(obtain J:=aT aa;clear aa;refine a3 (eD J) λbU cv=>?_;clear J;subst bU;subst cv);clear e;induction o using MI.O.casesOn with
 |it n i=>obtain(⟨_,l,ec,o,_,g1,g2,g3⟩):=R;exact wpAny_pyIter_listiter (l:=l) (i:=i) ⟨o,g1,g2,g3⟩ h
 |nk n i=>obtain(⟨_,l,ec,o,_,g1,g2,g3⟩):=R;exact wpAny_pyIter_tupleiter (t:=l) (i:=i) ⟨o,g1,g2,g3⟩ h
 |itR i left=>(refine a3 R λI g1=>?_;try clear R);exact wpAny_pyIter_rangeiter (x:=i) (left:=left) (step:=1) g1 h
 |_=>exact c8 bN
theorem PD(ba:dW g aG)(U:c.Ok g ab.dep):∀(ifs:List bk){β:aZ},cc c ab env β->cT g c β (y4 aG ab ifs) (λQ E s=>a5 g.M c.A (sf ifs env ae) Q E s) (λI b dF=>dF=b)
 |[],β,V=>bH.of (bH.pure (v:=ae) (a:=ae) (R:=λI b dF=>dF=b) λI I=>rfl) λQ E s k=>d3 k
 |e::r,β,V=>by
  show bH fY g c β ((aG.eO ab e).bind λt=>match t with
   |true=>y4 aG ab r
   |false=>M.pure ai) _ _
  refine bH.of ((ba.eO c ab env β e U V).bind (k:=λb=>λQ E s=>a5 g.M c.A (sf r env b) Q E s) λav v b l e=>?_) λQ E s k=>?_
  .subst e;induction b using bV with
   |true=>exact PD ba U r (V.le l)
   |false=>exact bH.of (bH.pure (v:=ai) (a:=ai) (R:=λI b dF=>dF=b) λI I=>rfl) λQ E s k=>Sx r k
  .unfold sf;(refine G (Ln _ _ _ _) (G (if_pos rfl) ?_));exact b3 (b3 (d4 k (λb ao aD=>d3 aD) λI I x=>x))
theorem WQ(O:g.Ok)(U:c.Ok g dep){a:az}{b v:V}{z:aB}(aV:β.ad[n]? =C (a,d))(dy:a7 β b y)(dv:a7 β v z):bH X g c β (dictPut n b v) (λQ E s=>a5 g.M c.A (dictSet a y z) Q E s) (λI I I=>True):=λaW st s aa H=>
 .cn (W:=λy=>λQ E s=>a5 g.M c.A (dictSet a y z) Q E s) (dy.le aa) λe l t aX=>RM O H (a4 aa.ad aV) aX (dv.le aa) λQ E aA D ne wR k=>wpAny_dictSet_pairs (nE g l t) D (λay hd iy=>k ay _ hd iy) (nt wR)
theorem Xb(O:g.Ok)(ba:dW g aG)(U:c.Ok g ab.dep)(V:cc c ab env β)(e:bk){a:az}(aV:β.ad[acc]? =C (a,d)):cT g c β (emit aG ab e acc) (λQ E s=>a5 g.M c.A (G6 e a env) Q E s) (λ_ _ _=>True):=by
 unfold emit;cases e with
 |ListComp elt gens scope pos=>
  refine bH.of ((ba.ev c ab env β elt U V).bind (k:=λy=>λ(Q:Unit->aN->Prop) E s=>a5 g.M c.A (gc (.builtin "list.append") [.ref a,y]) (λ_ ao=>Q () ao) E s) λav v y l r=>?_) λQ E s k=>b3 (d4 k (λ_ _ h=>b3 (d4 h (λ_ _ h=>d3 h) λ_ _ e=>e)) λ_ _ e=>e);intro aW st s aa H;obtain bt:=O.S;have aV:=a4 (l.trans aa).ad aV;obtain r:=r.le aa;refine .oh H aV λo R=>?_;induction o using MI.O.casesOn with
  |list xs=>
   obtain(⟨g0,us,k,g1,g2⟩):=R;subst g0;obtain eG:=g2.length;simp only[w9] at eG;dsimp only;split
   .rename_i q;obtain q:=bA q;refine .z8 λgs aO bM Q E aq=>I9 O H aO bM aV g1 (by lia) ?_ ?_ λao S=>aq _ _ aW (.refl _) S trivial
    .exact λa6 _ e=>⟨rfl,_,_,e,by exact G K_ (g2.snoc r)⟩
    .rfl
   .exact .fail
  |_=>exact .fail
 |DictComp de Tc gens scope pos=>
  refine bH.of ((ba.ev c ab env β de U V).bind (k:=λdn=>λ(Q:Unit->aN->Prop) E s=>a5 g.M c.A (dM Tc env) (λi2 ao=>a5 g.M c.A (dictSet a dn i2) Q E ao) E s) λav v y l r=>(ba.ev c ab env av Tc U (V.le l)).bind λd9 gA jY a_ g_=>WQ O U (a4 (l.trans a_).ad aV) (r.le a_) g_)
   λQ E s k=>b3 (d4 k (λ_ _ h=>b3 (iI (d4 h (λ_ _ h=>b3 (kX (iI h))) λ_ _ e=>e))) λ_ _ e=>e)
 |_=>exact .fail
end
theorem vS{d:Nat}{x:uG}(h:(clauses e)[d]? =C x):CE e=true:=by
 cases e with
 |ListComp=>rfl
 |DictComp=>rfl
 |_=>exact nomatch(show(none:Option uG)=C x from h)
section
variable{c:bc}{ab:cK}{st:St}{s:aN}
theorem aaa(O:g.Ok)(ba:dW g aG)(U:c.Ok g ab.dep)(dO:ab.dep<400)(V:cc c ab env β)(e:bk)(k:Nat){a:az}(aV:β.ad[acc]? =C (a,d)):
  cT g c β (CC aG ab e k acc) (λQ E s=>rT g.M c.A e k a env Q E s) (λ_ _ _=>True):=by
 unfold CC;refine G (f3 _ _) ?_;generalize aq:((clauses e)[k+1]?)=aF;induction aF using b1 with
 |some q=>
  obtain(⟨t,iter,ifs,qu⟩):=q;dsimp only;generalize bb:(kB qu 0&&!isSet iter)=aF;induction aF using bV with
  |false=>exact .fail
  |true=>
   obtain rfl:qu=0:=aS ((yn ..).symm.trans (bS bb));obtain tR:isSet iter=false:=by obtain this:=bC bb;generalize h:isSet iter=aF;induction aF using bV with|true=>rw[h] at this;exact c8 this|false=>rfl
   refine bH.of ((ba.ev c ab env β iter U V).bind (k:=λx=>λ(Q:Unit->aN->Prop) E s=>a5 g.M c.A (oD x) (λit sd=>ft g.M c.A (.compStart e (k+1) it (.ref a) env) (λr ao=>match r with
     |.ok _=>Q () ao
     |.error e=>nL g.M c.A env E e ao) sd) E s) (cD:=λ_ _ _=>True) λav v y l r=>?_) λQ E s fg=>?_
   .refine(y_ O U r).bind (k:=λit=>λ(Q:Unit->aN->Prop) E s=>ft g.M c.A (.compStart e (k+1) it (.ref a) env) (λr ao=>match r with
     |.ok _=>Q () ao
     |.error e=>nL g.M c.A env E e ao) s) λd9 m it a_ l5=>?_
    (refine cA l5 λb ec J aD=>?_;try clear l5;subst J);intro aW st s aa H;refine .load H λo dq NI bx fo _=>?_;rw[a4 aa.ad aD] at fo;(obtain J:=aT fo;clear fo;refine a3 (eD J) λbU cv=>?_;clear J;subst bU;subst cv);split
    .rename_i bN;have lt:=(l.trans a_).trans aa;obtain cl:=((ba.cl c ab env aW e (k+1) m acc b ec a d U dO (V.le lt) (a4 aa.ad aD) (a4 lt.ad aV)).back (env:=env) U).bind (f:=λu=>M.pure u) (ej:=Unit) (k:=λ_=>λQ _ s=>Q () s) (cD:=λ_ _ _=>True) λ_ u _ _ _=>bH.pure λ_ _=>trivial;rw[bind_pure] at cl;refine(cl aW st s (.refl _) H).of λQ E fg=>yb (vS aq) aq (uK fg λr ao h=>?_) λQ E h=>IG H bx (a4 aa.ad aD) bN h;induction r using uD with
     |ok f=>exact h
     |error e=>exact h
    .exact .fail
   .unfold rT;exact G aq (fi rfl tR fg)
 |none=>refine bH.of (Xb O ba U V e aV) λQ E s fg=>?_;unfold rT;exact G aq fg
theorem V4(O:g.Ok)(ba:dW g aG)(U:c.Ok g ab.dep)(dO:ab.dep<400)(V:cc c ab env β)(e:bk)(k:Nat){a ef fK:az}(aO:β.ad[n]? =C (a,d))(aV:β.ad[acc]? =C (ef,fK)):
  rt g c β (Gr aG g.K ab e k n acc) (jq g c (.compLoop e k (.ref a) (.ref ef) env)) (λI I I=>True):=by
 unfold Gr;refine G (f3 _ _) ?_;generalize aq:(clauses e)[k]? =aF;induction aF using b1 with
 |none=>exact .fail
 |some q=>
  obtain(⟨t,iter,ifs,qu⟩):=q;dsimp only;generalize bb:kB qu 0=aF;induction aF using bV with
  |false=>exact .fail
  |true=>
  obtain rfl:qu=0:=aS ((yn ..).symm.trans bb);obtain key:=(bH.qC U V (Q3 (X:=fY) U dO aO)).bind (X:=Told) (f:=λr=>match r with
   |none=>M.pure ()
   |some v=>(MI.assign aG g.K ab t v).bind λI=>(y4 aG ab ifs).bind λok=>(match ok with
    |false=>M.pure ()
    |true=>CC aG ab e k acc:M Unit).bind λI=>aG.cl ab e k n acc) (k:=λr=>λ(Q:fH->aN->Prop) E bg=>match r with
    |none=>Q .next bg
    |some y=>a5 g.M c.A (mT t env y) (λI dB=>a5 g.M c.A (sf ifs env ae) (λok fh=>
     if ok=ae then rT g.M c.A e k ef env (λI jg=>jq g c (.compLoop e k (.ref a) (.ref ef) env) Q E jg) (iF g.M c.A env E) fh
     else jq g c (.compLoop e k (.ref a) (.ref ef) env) Q E fh) (iF g.M c.A env E) dB) (iF g.M c.A env E) bg) (cD:=λI I I=>True) λav o r l rel=>by
   induction o using b1 with
   |none=>
    induction r using b1 with
    |none=>exact bH.pure λI I=>trivial
    |some y=>exact rel.elim
   |some v=>
    induction r using b1 with
    |none=>exact rel.elim
    |some y=>
     obtain rel:a7 av v y:=rel;refine(bH.qC U (V.le l) (FL O ba U (V.le l) t rel)).bind (X:=Told) (k:=λI=>λ(Q:fH->aN->Prop) E dB=>a5 g.M c.A (sf ifs env ae) (λok fh=>
      if ok=ae then rT g.M c.A e k ef env (λI jg=>jq g c (.compLoop e k (.ref a) (.ref ef) env) Q E jg) (iF g.M c.A env E) fh
      else jq g c (.compLoop e k (.ref a) (.ref ef) env) Q E fh) (iF g.M c.A env E) dB) λd9 I I a_ I=>?_
     have sZ:=(V.le l).le a_;refine(bH.qC U sZ (PD ba U ifs sZ)).bind (X:=Told) (k:=λok=>λ(Q:fH->aN->Prop) E fh=>
      if ok=ae then rT g.M c.A e k ef env (λI jg=>jq g c (.compLoop e k (.ref a) (.ref ef) env) Q E jg) (iF g.M c.A env E) fh
      else jq g c (.compLoop e k (.ref a) (.ref ef) env) Q E fh) λh2 ok acD hZ Xe=>?_
     subst Xe;have Fq:=sZ.le hZ;have lt:=(l.trans a_).trans hZ;have again:∀{pP:aZ},h2.le pP->bH Told g c pP (aG.cl ab e k n acc) (jq g c (.compLoop e k (.ref a) (.ref ef) env)) (λI I I=>True):=λjA=>ba.cl c ab env _ e k n acc a d ef fK U dO (Fq.le jA) (a4 (lt.trans jA).ad aO) (a4 (lt.trans jA).ad aV);induction acD using bV with
     |false=>exact(again (.refl _)).of λQ E s fg=>by simpa using fg
     |true=>refine((bH.qC U Fq (aaa O ba U dO Fq e k (a4 lt.ad aV))).bind (X:=Told) (k:=λI=>jq g c (.compLoop e k (.ref a) (.ref ef) env)) λpP I I jA I=>again jA).of λQ E s fg=>by simpa using fg
  refine bH.of key λQ E s fg=>V_ (R:=λr ao=>match r with|.ok f=>Q f ao|.error e=>E e ao) (vS aq) aq (d4 fg (λr bg dr=>?_) λI I e=>e);induction r using b1 with
  |none=>exact dr
  |some y=>exact dr t
end
variable{scope:pK}
section
variable{c:bc}{ab:cK}{st:St}{s:aN}
theorem Jp(O:g.Ok)(U:c.Ok g dep)(H:Sat g c st β s)(aO:st.no<10000000):
  Sat g c {st with σ:=st.σ.put cU st.no (ae,.dict [] none),no:=st.no+1} (β.new s.heap.objs.size s.heap.objs.size) {s with heap:=s.heap.push {cls:=.type "dict",data:=.dict #[]},toks:=t}/\a7 (β.new s.heap.objs.size s.heap.objs.size) (.r st.no) (.ref s.heap.objs.size):=by refine⟨H.oQ U aO (λI I e=>f6 _ e) (dP _) (dP _) ?_ rfl,⟨_,_,by exact G (bW H.len) (β.lp _ _),rfl⟩⟩;refine aU (sq.mp (Uc (knd:=strKind g.prog g.w) s.heap)) λo aa af=>⟨rfl,pF (H.toSatO.low U O),o,[],aa,af,λe he=>(nomatch he),.nil,λk aw=>absurd rfl aw,l9 _⟩
theorem Xy(O:g.Ok)(U:c.Ok g ab.dep)(pos:cq):cT g c β ((alloc (.dict [] none)).bind λn=>M.pure (.r n)) (dN g c (dM (.Dict [] [] pos) env)) a7:=by intro aW st s aa H;exact .alloc λaO=>.ret λQ E aq=>a3 (Jp (t:=s.toks) O U H aO) λpY rp=>G (eval_Dict_empty _) (b3 (kX (wpAny_newObj_type (aq _ _ _ (aW.gJ _ _) pY rp))))
noncomputable def pQ(β:aZ):List (aM×Nat)->List (aM×az)->Prop:=bL λe f=>e.1=f.1/\∃d,β.ad[e.2]? =C (f.2,d)
theorem pQ.look{l:List (aM×Nat)}{m:List (aM×az)}(R:pQ β l m)(h:k3 x l=C n):∃a d,m.lookup x=C a/\β.ad[n]? =C (a,d):=by
 induction R with
 |nil=>exact bK h
 |@cons e D6 l m r t bj=>
  obtain(⟨y,a⟩):=D6;obtain(⟨dc,d,dA⟩):=r;replace h:(match eqs e.1 x with|true=>C e.2|false=>k3 x l)=C n:=h;refine G md ?_;generalize q:eqs e.1 x=aF;induction aF using bV with
  |true=>
   rw[q] at h;(obtain J:=aT h;clear h;(clear bj;subst J));obtain this:(x==y)=true:=by exact gN beq_iff_eq (G (bW (gr.mp q)) dc)
   exact G this (gi a d rfl dA)
  |false=>rw[q] at h;obtain this:(x==y)=false:=beq_eq_false_iff_ne.mpr λz=>oX.mp q (dc.trans z.symm);exact G this (bj h)
set_option tactic.hygienic true in
theorem Gs(V:cc c ab env β):∀(names:List (aM×gC))(acc:List (aM×Nat))(j8:List (aM×az)){r:List (aM×Nat)},pQ β acc j8->oS ab.cells names acc=C r->
  ∃pl,pQ β r pl/\(forIn names j8 λx cs=>(do
   if(x.2==.free)=ae then do
    let a <-cellOf env x.1
    pure (xh ((x.1,a)::cs))
   else pure (xh cs):hC (ForInStep (List (aM×az)))))=pure pl
 |[],acc,j8,r,R,h=>by(obtain J:=aT h;clear h;subst J);exact(bh j8 R rfl)
 |(x,eU)::t,acc,j8,r,R,h=>by
  rw[V5] at h;dsimp only at h;refine G (Ln _ _ _ _) ?_;by_cases hf:eU=.free
  .subst hf;dsimp only at h;split at h
   .rename_i n aO;refine cA (V.cells x n aO) λa d aa af=>?_;obtain bj:=Gs V t ((x,n)::acc) ((x,a)::j8) (.cons ⟨rfl,d,af⟩ R) h;(refine aU bj λpl lZ rS=>?_;try clear bj);refine(bh pl lZ (G (if_pos (beq_self_eq_true NameKind.free)) ?_));unfold cellOf;refine G aa ?_;simp only[pure_bind];exact rS
   .exact bK h
  .have:(eU==NameKind.free)=false:=by simpa using hf
   (refine G this (G (if_neg (by exact sm)) ?_));simp only[pure_bind];refine Gs V t acc j8 R ?_;cases eU<;>first|exact h|exact absurd rfl hf
theorem Nl(V:cc c ab env β){r:List (aM×Nat)}(h:oS ab.cells scope.names []=C r):∃pl,pQ β r pl/\closureFor scope env=pure pl:=by
 refine aU (Gs V scope.names [] [] .nil h) λpl aa af=>(bh pl aa ?_);unfold closureFor;obtain this:(forIn scope.names ([]:List (aM×az)) λx cs=>(do
   if(x.2==.free)=ae then do
    let a <-cellOf env x.1
    pure (xh ((x.1,a)::cs))
   else pure (xh cs):hC (ForInStep (List (aM×az)))))>>=(λcs=>pure cs)=pure pl:=by exact G af rfl
 exact this
theorem RZ(V:cc c ab env β)(scope:pK):l_ scope env={scope with names:=ow ab.scope.names scope.names}:=by
 unfold l_ ow;congr 1;refine T6 λx I=>?_;obtain(⟨n,k⟩):=x;dsimp only;(refine G V.kind (G (V.kindOf _) ?_));cases k<;>try rfl
 dsimp only;generalize q:g7 n ab.scope.names=aF;induction aF using b1 with
 |none=>rfl
 |some eU=>cases eU<;>rfl
theorem Sat.I4{o:cj}{L:az}{au:Array hT}(ek:(c.enter L o fr A).Ok g dep)(ix:(c.enter L o fr A).Apart)(H:Sat g (c.enter L o fr A) st β s)(bM:qW L s.heap ay)(hd:o.data=.dict au fm)(aw:xu au)
  (cb:∀x v,eh x fS=C v->∃y,sH au x=C y/\a7 β v y):Sat g c {st with loc:=fS} β {s with heap:=ay,toks:=t}:=by have oJ:SatO g (c.enter L o fr A) {st with loc:=[]} β ay:=SatO.local (fS:=[]) ek ix H.toSatO bM.extBut;obtain this:=oJ.leave (fS:=fS);refine⟨this,H.os,?_⟩;exact bG (oJ.cx (c.L,o) (.head _)) λdd e=>⟨_,⟨_,au,fm,e,hd,aw,λI=>rfl⟩,cb⟩
end
section
variable{c:bc}{ab:cK}{st:St}{s:aN}
noncomputable def xy(g:cz)(c:bc)(acc:MI.O)(kg:hC aB):Prop:=∀(st:St)(β:aZ)(s:aN)(Q:aB->aN->Prop)(E:aB->aN->Prop),Sat g c st β s->st.no<10000000->
 (∀ao av y a d,β.le av->Sat g c {st with σ:=st.σ.put cU st.no (ae,acc),no:=st.no+1} av ao->y=.ref a->av.ad[st.no]? =C (a,d)->Q y ao)->a5 g.M c.A kg Q E s
theorem agw{β:Type}(m:M aQ)(b:β):((l7 fS m).bind λI=>M.pure b) st=(match m {st with loc:=fS} with
   |.fail n=>.fail n
   |.ok _ bp=>.ok b {bp with loc:=st.loc}
   |.ex bp=>.ex {bp with loc:=st.loc}):=by unfold M.bind;refine G D1 ?_;cases m {st with loc:=fS}<;>rfl
theorem bH.Rq{ah:Type}{v:d8}{f:d8->M aQ}{W:Wp ah}{R:aZ->aQ->ah->Prop}(h:bH X g c β (f v) W R):bH X g c β ((bq n (C v)).bind f) W R:=λaW st s aa H=>At.peek (v:=v) rfl (h aW st s aa H)
theorem At.OL{ah ER:Type}{m:M aQ}{W:Wp ah}{R:aZ->aQ->ah->Prop}{aG:aN->ER->aZ->Prop}{nc:ER->Wp ah}(h:∀bg y av,aG bg y av->At X g c av st bg m (nc y) R)(k:∀Q E,(∀bg y av,aG bg y av->β.le av->nc y Q E bg)->W Q E s):At X g c β st s m W R:=by
 unfold At at h ⊢;generalize q:m st=aF;induction aF using MI.Out.casesOn with
 |fail n=>trivial
 |ok v bp=>exact λQ E aq=>k Q E λbg y av dr l=>by obtain this:=h bg y av dr;rw[q] at this;exact this Q E λa ao aY eC=>aq a ao aY (l.trans eC)
 |ex bp=>exact λQ E aq=>k Q E λbg y av dr l=>by obtain this:=h bg y av dr;rw[q] at this;exact this Q E λa ao aY eC=>aq a ao aY (l.trans eC)
theorem Wa(O:g.Ok)(ba:dW g aG)(U:c.Ok g ab.dep)(dO:ab.dep<400)(V:cc c ab env β){t iter:bk}(aq:(clauses e)[0]? =C ⟨t,iter,ifs,0⟩)(kind:scope.kind=.function)(lr:∀x∈scope.names,x.2≠.cell)
  {cells:List (aM×Nat)}{cl:List (aM×az)}(cr:pQ β cells cl)(H:Sat g c st β s){a b ec:az}(aO:β.ad[n]? =C (a,d))(aw:β.ad[k]? =C (b,ec)){o:MI.O}(bx:st.at n=C o)(bN:isIt o=ae):
  At fY g c β st s ((l7 [] (aG.cl ⟨{scope with names:=ow ab.scope.names scope.names},cells,ab.dep⟩ e 0 n k)).bind λI=>M.pure (MI.V.r k)) (λQ E s=>a5 g.M c.A (sr scope env.globals cl [] env.qual none .none (C env)) (λhK fh=>
    ft g.M c.A (.compStart e 0 (.ref a) (.ref b) {hK with scope:=l_ scope env}) (j0 g.M c.A E none Q (.ref b) hK.locals) fh) E s) a7:=by
 refine mG H.loc.obj λfT qe tk hj jv mz ob=>?_;let L:=s.heap.objs.size;let jK:cK:=⟨{scope with names:=ow ab.scope.names scope.names},cells,ab.dep⟩;have ek:(c.enter L fT c.fr c.A).Ok g ab.dep:=U.enter H hj jv (dP _) U.frames (λI h=>.inl h) U.depth U.units U.dep U.calm;let cL:Env:={newEnv scope L env.globals cl env.qual none .none (C env) nK with scope:=l_ scope env};obtain gY:cc (c.enter L fT c.fr c.A) jK cL β:=⟨RZ V scope,by show(l_ scope env).kind=_;exact kind,V.glob,V.blt,rfl,λx n e=>pQ.look cr e,V.frame,bc.oW H hj (dP _)⟩;obtain run:=ba.cl (c.enter L fT c.fr c.A) jK cL β e 0 n k a d b ec ek dO gY aO aw;refine At.w0 (aG:=λbg=>∃ay cX,bg={s with heap:=ay,toks:=cX}/\ay.Ns L (λI=>none)/\∀b o,s.heap.get? b=C o->ay.get? b=C o)
  (nc:=λQ E bg=>ft g.M c.A (.compStart e 0 (.ref a) (.ref b) cL) (j0 g.M c.A E none Q (.ref b) L) bg) (λbg bM=>?_) λQ E la=>?_
 ·(refine fD bM λay cX J ns keep=>?_;try clear bM;subst J);have eE:Sat g (c.enter L fT c.fr c.A) {st with loc:=[]} β {s with heap:=ay,toks:=cX}:=H.enter U hj keep (dP _) ⟨_,ns,λx v e=>nomatch e⟩;have run:=run β _ _ (.refl _) eE;have self:∀(Q:aB->aN->Prop)(E:aB->aN->Prop),Q (.ref a) {s with heap:=ay,toks:=cX}->a5 g.M c.A (oD (.ref a)) Q E {s with heap:=ay,toks:=cX}:=λQ E h=>IG eE (show St.at {st with loc:=[]} n=C o from bx) aO bN h;have cb:∀{av:aZ},β.le av->∀x v,eh x st.loc=C v->∃y,sH qe x=C y/\a7 av v y:=λl x v e=>(aU (ob x v e) λy aa af=>(bh y aa (af.le l)));unfold At at run ⊢;refine G (agw _ _) ?_;generalize q:aG.cl ⟨{scope with names:=ow ab.scope.names scope.names},cells,ab.dep⟩ e 0 n k {st with loc:=[]}=aF;induction aF using MI.Out.casesOn with
  |fail n=>trivial
  |ok u bp=>
   rw[q] at run;intro Q E o3;refine yb (vS aq) aq (uK (run (λI ao=>∃m,ao.heap.Ns L m/\∀ay,qW L ao.heap ay->Q (.ref b) {ao with heap:=ay}) (λe ao=>j0 g.M c.A E none Q (.ref b) L (.error e) ao) λf ao av l S I=>?_) λr ao h=>?_) self
   .exact aU S.loc λm hm I=>(bh m hm (λay bM=>o3 _ _ av l (Sat.I4 (t:=ao.toks) ek (bc.oW H hj (dP _)) S bM jv mz (cb l)) ⟨b,ec,a4 l.ad aw,rfl⟩))
   .induction r using uD with
    |ok f=>exact h
    |error e=>exact h
  |ex bp=>
   rw[q] at run;intro Q E o3;refine yb (vS aq) aq (uK (run (λI ao=>j0 g.M c.A E none Q (.ref b) L (.ok .next) ao) (λe ao=>j0 g.M c.A E none Q (.ref b) L (.error e) ao) λv ao av l T=>?_) λr ao h=>?_) self
   ·(refine eH T λx J gG S=>?_;try clear T;subst J);refine aU S.loc λm hm I=>⟨m,hm,λay bM hK bb=>?_⟩;obtain e8:Sat g c {bp with loc:=st.loc} av {ao with heap:=ay}:=Sat.I4 (t:=ao.toks) ek (bc.oW H hj (dP _)) S bM jv mz (cb l);obtain lS:Told g c {bp with loc:=st.loc} av (.ref x) {ao with heap:=ay}:=by
     refine⟨x,rfl,?_,e8⟩;refine ih gG.told λcg aK a1 a2 cm c_ iL dR=>wt (dR.resolve_left λq=>q.1 trivial) λT e2 cp eM cB el gF jr oN jL=>?_;have ne:∀{x:az}{zT:cj}{aK:Array aB},ao.heap.get? x=C zT->zT.data=.fields aK->x≠L:=λaa af z=>by(refine kh hm λo au fm bx kc I=>?_;try clear hm);obtain bx:ao.heap.get? L=C o:=bx;rw[<-z,aa] at bx;(obtain J:=aT bx;clear bx;subst J);rw[af] at kc;injection kc
     exact⟨cg,aK,bM.extBut _ _ (ne a1 cm) a1,a2,cm,c_,iL,.inr (si T e2 cp eM cB el gF (bM.extBut _ _ (ne jr oN) jr) oN jL)⟩
    exact JD U lS λfa rv=>o3 _ _ av l rv.raised
   .induction r using uD with
    |ok f=>exact h
    |error e=>exact h
 .refine wpAny_newFunctionEnv lr (λx ak=>nomatch ak) (λay ei Ib=>?_) kind;exact la _ (d2 ay _ rfl ei (λb o e=>Ib.extBut b o (kr (fW e)) (f6 _ e)))
theorem Gx(O:g.Ok)(ba:dW g aG)(U:c.Ok g ab.dep)(V:cc c ab env β)(e:bk)(scope:pK)(pos:cq)(gens:List uG)(gx:clauses e=gens)(vD:EN e=gens)(acc:MI.O)(kg:hC aB)(aV:xy g c acc kg):
  cT g c β (comp aG ab e gens scope acc) (dN g c (Ez e scope env pos kg (EJ gens) (EO gens env))) a7:=by
 unfold comp;induction gens using eo with
 |nil=>exact .fail
 |cons q rest=>
  dsimp only;generalize bb:(zN scope&&eK ab.dep 400&&!isSet q.iter&&kB q.is_async 0)=aF;induction aF using bV with
  |false=>exact .fail
  |true=>
   obtain(⟨t,iter,ifs,qu⟩):=q;obtain HS:qu=0:=aS ((yn ..).symm.trans (bC bb));subst HS;replace bb:=bS bb;simp only[ew,jl] at bb;(refine a3 bb λJ tR=>?_;try clear bb;refine a3 J λaa af=>?_;try clear J);obtain dO:ab.dep<400:=bA af;unfold zN at aa;simp only[ew,jl] at aa;(refine a3 aa λJ hY=>?_;try clear aa;refine a3 J λbU mB=>?_;try clear J;refine a3 bU λcv fL=>?_;try clear bU;refine a3 cv λbw c3=>?_;try clear cv);have kind:scope.kind=.function:=by exact Iz bw
   obtain nodup:(scope.names.map (·.1)).Nodup:=zH mB;obtain lr:∀x∈scope.names,x.2≠.cell:=λx ak e=>by obtain this:=eX.mp hY x ak;rw[e] at this;exact c8 this
   obtain aq:(clauses e)[0]? =C ⟨t,iter,ifs,0⟩:=by exact G gx rfl
   generalize lX:oS ab.cells scope.names []=aF;induction aF using b1 with
   |none=>exact .fail
   |some cells=>
    refine aU (Nl V lX) λcl cr HI=>bH.Rq ?_;show cT g c β ((aG.ev ab iter).bind λv=>(nq v).bind λn=>(alloc acc).bind λk=>(load n).bind λit=>(match isIt it with
     |true=>(l7 [] (aG.cl ⟨{scope with names:=ow ab.scope.names scope.names},cells,ab.dep⟩ e 0 n k)).bind λ_=>M.pure (MI.V.r k)
     |false=>fail 131)) _ _
    refine bH.of ((ba.ev c ab env β iter U V).bind (k:=λx=>λ(Q:aB->aN->Prop) E bg=>a5 g.M c.A (oD x) (λit b0=>a5 g.M c.A kg (λacc dB=>
     a5 g.M c.A (sr scope env.globals cl [] env.qual none .none (C env)) (λhK fh=>
     ft g.M c.A (.compStart e 0 it acc {hK with scope:=l_ scope env}) (j0 g.M c.A E none Q acc hK.locals) fh) E dB) E b0) E bg) (cD:=a7) λav v y l r=>(y_ O U r).bind (k:=λit=>λ(Q:aB->aN->Prop) E b0=>a5 g.M c.A kg (λacc dB=>
     a5 g.M c.A (sr scope env.globals cl [] env.qual none .none (C env)) (λhK fh=>
     ft g.M c.A (.compStart e 0 it acc {hK with scope:=l_ scope env}) (j0 g.M c.A E none Q acc hK.locals) fh) E dB) E b0) λd9 n it a_ l5=>?_) λQ E s k=>T8 (use:=none) vD (ys tR env) HI kind (λx ak aX=>CY nodup (G (bW aX) ak)) k
    (refine cA l5 λb ec J aD=>?_;try clear l5;subst J);intro aW st s aa H;refine .alloc λaO=>?_;obtain aD:=a4 aa.ad aD;let qP:St:={st with σ:=st.σ.put cU st.no (ae,acc),no:=st.no+1};refine At.OL (ER:=aB) (aG:=λbg y av=>aW.le av/\Sat g c qP av bg/\∃a d,y=.ref a/\av.ad[st.no]? =C (a,d)) (nc:=λy=>λQ E dB=>a5 g.M c.A (sr scope env.globals cl [] env.qual none .none (C env)) (λhK fh=>
     ft g.M c.A (.compStart e 0 (.ref b) y {hK with scope:=l_ scope env}) (j0 g.M c.A E none Q y hK.locals) fh) E dB) (λbg y aY HC=>?_) λQ E la=>aV st aW s _ E H aO λao aY y a d l S e iy=>la ao y aY (fi l S (gi a d e iy)) l
    obtain(⟨eC,S,a,d,rfl,aw⟩):=HC;refine .load S λo dq NI bx fo _=>?_;have yF:=a4 eC.ad aD;rw[yF] at fo;(obtain J:=aT fo;clear fo;refine a3 (eD J) λbU cv=>?_;clear J;subst bU;subst cv);split
    .rename_i bN;have lt:=((l.trans a_).trans aa).trans eC;refine Wa O ba U dO (V.le lt) aq kind lr (cr.imp λ_ _ x=>⟨x.1,(bG x.2 λd q=>⟨d,a4 lt.ad q⟩)⟩) S yF aw bx bN
    .exact .fail
end
section
variable{c:bc}{ab:cK}{st:St}{s:aN}
noncomputable def A3(β:aZ):List (ag×MI.V)->List (aB×aB)->Prop:=bL λe p=>∃l t,e.1.val β=C l/\p.1=.str (aR l) t/\a7 β e.2 p.2
theorem RF(ba:dW g aG)(U:c.Ok g ab.dep)(pos:cq):∀(ks:List (Option bk))(aK:List bk){β:aZ},cc c ab env β->cT g c β (MI.pairs aG ab ks aK) (λQ E s=>a5 g.M c.A (evalPairs (pairTrees ks aK env pos)) Q E s) A3
 |[],[],β,V=>bH.of (bH.pure (v:=([]:List (ag×MI.V))) (a:=([]:List (aB×aB))) (R:=A3) λI I=>.nil) λQ E s k=>pairTrees_nil_walk k
 |some k::ks,v::aK,β,V=>by
  show cT g c β ((aG.ev ab k).bind λ
   |.s e=>(aG.ev ab v).bind λw=>(MI.pairs aG ab ks aK).bind λr=>M.pure ((e,w)::r)
   |_=>fail 134) _ _
  refine bH.of ((ba.ev c ab env β k U V).bind (k:=λdn=>λ(Q:List (aB×aB)->aN->Prop) E bg=>a5 g.M c.A (dM v env) (λi2 b0=>a5 g.M c.A (evalPairs (pairTrees ks aK env pos)) (λr dB=>Q ((dn,i2)::r) dB) E b0) E bg) (cD:=A3) λav dn y l r=>?_) λQ E s k=>Le k;induction dn using MI.V.casesOn with
  |s e=>(refine cA r λlk t aX J=>?_;try clear r;subst J);refine(ba.ev c ab env av v U (V.le l)).bind λd9 w i2 a_ rw=>(RF ba U pos ks aK ((V.le l).le a_)).bind (k:=λr=>λ(Q:List (aB×aB)->aN->Prop) I s=>Q ((.str (aR lk) t,i2)::r) s) λh2 au bu hZ JU=>bH.pure λpP jA=>.cons (d2 lk t (ag.hy ((a_.trans hZ).trans jA) aX) rfl (rw.le (hZ.trans jA))) (JU.imp λI I gd=>(by(refine fD gd λl t a b c=>?_;try clear gd);exact(d2 l t (ag.hy jA a) b (c.le jA))))
  |_=>exact .fail
 |[],_::_,_,_=>.fail
 |some _::_,[],_,_=>.fail
 |none::_,_::_,_,_=>.fail
 |none::_,[],_,_=>.fail
theorem Xl{l m:List Nat}(h:tl l m=ai):l≠m:=λe=>by
 subst e;obtain this:tl l l=true:=by exact gN yo rfl
 rw[this] at h;exact jB h
theorem carried{au:List (ag×MI.V)}{bu:List (aB×aB)}(R:A3 β au bu):tg au=ae->∃aA:List (aM×aB),Carries (strKind g.prog g.w) bu aA/\(aA.map (·.1)).Nodup/\aA.length=au.length/\
  (∀e∈au,∃l v,ag.kf e.1=C l/\e.1.val β=C l/\a0 aA (aR l)=C v/\a7 β e.2 v)/\au.Pairwise (λe f=>e.1.val β≠f.1.val β)/\∀k∈aA.map (·.1),∃e∈au,e.1.val β=C (cs k):=by
 induction R with
 |nil=>exact λ_=>(Tj [] trivial .nil rfl (λe he=>(nomatch he)) .nil (λk aw=>(nomatch aw)))
 |@cons e p au bu r t bj=>
  intro h;obtain(⟨ahC,Ku⟩):=p;rw[WS] at h;rw[ew] at h;(refine a3 h λaa af=>?_;try clear h);refine Rl (bj af) λaA lZ rS Ii y0 Ij Cu=>?_;(refine fD r λl cX aX aw bJ=>?_;try clear r);dsimp only at aw bJ;subst aw;generalize Ph:ag.kf e.1=z at aa;induction z using b1 with
  |none=>exact c8 aa
  |some a_=>
   have jw:=ag.v8 (β:=β) Ph;rw[aX] at jw;cases(jw);have Jo:∀f∈au,∀m,ag.kf f.1=C m->l≠m:=λf hf m hm=>by obtain this:=eX.mp aa f hf;rw[hm] at this;exact Xl (by simpa using this)
   obtain Dj:aR l∉aA.map (·.1):=λhm=>by refine aU (Cu _ hm) λf hf q=>fD (y0 f hf) λm v a b _=>?_;rw[b] at q;cases(q);exact Jo f hf _ a (GA l).symm
   refine(Tj ((aR l,Ku)::aA) ⟨nE g l cX,rfl,lZ⟩ (jD.mpr ⟨Dj,rS⟩) (by simp[Ii]) (λf hf=>?_) ?_ (λk aw=>?_))
   .rcases dh.mp hf with rfl|hf
    .exact(i3 l Ku Ph aX (by unfold a0;simp) bJ)
    .refine ig (y0 f hf) λm v a b q d=>(i3 m v a b ?_ d);unfold a0 at q ⊢;refine G AE ?_;obtain this:decide ((aR l,Ku).1=aR m)=false:=decide_eq_false λz=>Jo f hf m a (oi z);exact G this q
   .refine xb.mpr ⟨λf hf=>?_,Ij⟩;refine fD (y0 f hf) λm v a b _=>?_;(refine G aX (G b ?_));exact λz=>Jo f hf m a (c0 z)
   .rcases dh.mp aw with rfl|aw
    .exact(bh e (.head _) (by(refine G aX ?_;exact G (GA _) rfl)))
    .exact aU (Cu k aw) λf hf q=>(bh f (.tail _ hf) q)
theorem Xx(O:g.Ok)(ba:dW g aG)(U:c.Ok g ab.dep)(V:cc c ab env β)(ks:List (Option bk))(aK:List bk)(pos:cq)(h0:ks≠ []\/aK≠ []):cT g c β (match c6 ks.length 15&&ks.all (·.isSome)&&cw ks.length aK.length with
  |true=>(alloc (.dict [] none)).bind λn=>(MI.pairs aG ab ks aK).bind λau=>(load n).bind λ
   o=>match o.Di&&tg au with
    |true=>(store n (.dict au none)).bind λ_=>M.pure (.r n)
    |false=>fail 142
  |false=>fail 142) (dN g c (dM (.Dict ks aK pos) env)) a7:=by
 split
 .rename_i bb;simp only[ew] at bb;(refine a3 bb λJ i9=>?_;try clear bb;refine a3 J λe5 gZ=>?_;try clear J);obtain e5:=bA e5;have i9:=d0 i9;have Yy:ks≠ []:=by
   rcases h0 with h|h
   .exact h
   .intro e;rw[e] at i9;exact h (TL.mp i9.symm)
  intro aW st s aa H;refine .alloc λaO=>a3 (Jp (t:=s.toks) O U H aO) λpY rp=>?_;let d:=s.heap.objs.size;let aY:=aW.new d d;have fB:aW.le aY:=aW.gJ d d;have hd:aY.ad[st.no]? =C (d,d):=by exact G (bW H.len) (aW.lp _ _)
  have run:=(RF ba U pos ks aK (V.le (aa.trans fB))).bind (ej:=aB) (f:=λau=>(load st.no).bind λ
   o=>match o.Di&&tg au with
    |true=>(store st.no (.dict au none)).bind λ_=>M.pure (MI.V.r st.no)
    |false=>fail 142) (k:=λbu=>λ(Q:aB->aN->Prop) _ bg=>∃aA,Carries (strKind g.prog g.w) bu aA/\bg.heap.DictOf (strKind g.prog g.w) d []/\
   ∀ay,ay.DictOf (strKind g.prog g.w) d (merged [] aA)->qW d bg.heap ay->Q (.ref d) {bg with heap:=ay,toks:=bg.toks+bu.length}) (cD:=a7) λh2 au bu qy JU=>?_
  .refine At.w0 (aG:=λbg=>bg={s with heap:=s.heap.push {cls:=.type "dict",data:=.dict #[]},toks:=s.toks}) (λbg e=>by subst e;exact(run aY _ _ (.refl _) pY).le fB) λQ E k=>wpAny_Dict_walk (knd:=strKind g.prog g.w) gZ i9 Yy e5 (k _ rfl)
  .intro pP bp ao rV S;have HJ:=a4 (qy.trans rV).ad hd;refine .load S λo dq ec bx fo R=>?_;rw[HJ] at fo;(obtain J:=aT fo;clear fo;refine a3 (eD J) λbU cv=>?_;clear J;subst bU;subst cv);split
   .rename_i O9
    .obtain Y_:=bC O9;rw[ace (bS O9)] at R;obtain(⟨ja,qd,f_,aaX,g1,g2,_,_,gv,jb⟩):=R;obtain aaV:aaX=[]:=TL.mp (Nat.le_zero.mp jb);(clear jb gv;subst aaV);refine Rl (carried (g:=g) (JU.imp λ_ _ gd=>(by(refine fD gd λl t a b c=>?_;try clear gd);exact(d2 l t (ag.hy rV a) b (c.le rV)))) Y_) λaA lZ rS Ii y0 Ij Cu=>?_;refine .store λgs aO bM=>.ret λQ E aq=>(fV aA lZ (vo g1 g2) (λay lY iy=>?_));rw[merged_nil_of_nodup _ rS] at lY;refine aU (sq.mp lY) λkM bZ c5=>aq _ _ pP (.refl _) (S.turn (t:=ao.toks+bu.length) aO bM HJ (.inl rfl) iy.extBut ⟨rfl,qd,kM,aA,bZ,c5,λe he=>?_,Ij,λk aw=>?_,by exact G Ii (dP _)⟩ rfl) ⟨d,d,HJ,rfl⟩
     .exact ig (y0 e he) λl v _ b q r=>⟨l,v,b,q,r⟩
     .refine Cu k ?_;generalize q:a0 aA k=aF;induction aF using b1 with
      |none=>exact absurd q aw
      |some v=>
       unfold a0 at q;refine aU (pM.mp q) λx ak _=>?_;obtain m:=KI ak;obtain e:=List.find?_some ak;obtain e:x.1=k:=by simpa using e
       exact G (bW e) (kU m)
   .exact .fail
 .exact .fail
theorem Mr(O:g.Ok)(U:c.Ok g dep):xy g c (.list []) (newList []):=λst β s Q E H aO aq=>by refine a3 (Dd (t:=s.toks) O U H aO (xs:=[]) (aH:=#[]) .nil) λpY I=>LM (aq _ _ _ s.heap.objs.size s.heap.objs.size (β.gJ s.heap.objs.size s.heap.objs.size) pY rfl (G (bW H.len) (β.lp _ _))) (nt (by simp))
theorem Mq(O:g.Ok)(U:c.Ok g dep):xy g c (.dict [] none) newDict:=λst β s Q E H aO aq=>by exact a3 (Jp (t:=s.toks) O U H aO) λpY I=>wpAny_newObj_type (aq _ _ _ s.heap.objs.size s.heap.objs.size (β.gJ s.heap.objs.size s.heap.objs.size) pY rfl (G (bW H.len) (β.lp _ _)))
end
noncomputable def cz.Fn(g:cz):Prop:=sI g.K (.ref Kh)=ae/\∀(A:oC)(s:aN)(l:bB)(t u:Tok)(z:Int)(Q:aB->aN->Prop)(E:aB->aN->Prop),A.depth<=900->g.K.In s.heap->sG g.p g.loose g.iS g.iR s.heap->l.length<=900->0<=z->z<=2000000->
 (∀ay cX dC,(∀b o,s.heap.get? b=C o->ay.get? b=C o)->Q (.str (aR (l++35::eR z)) dC) {s with heap:=ay,toks:=cX})->a5 g.M A (gc (.ref Kh) [.str (aR l) t,.int z u]) Q E s
variable{nm:aM}{eF:Nat}
section
variable{c:bc}{ab:cK}{st:St}{s:aN}{ah:Type}{m:M aQ}{W:Wp ah}{R:aZ->aQ->ah->Prop}{v:aQ}
theorem bH.go(h:bH X g c β m W R)(le:β.le aW)(H:Sat g c st aW s)(e:m st=.ok v bp){Q:ah->aN->Prop}(aq:∀a ao av,aW.le av->Sat g c bp av ao->R av v a->Q a ao):W Q E s:=by obtain this:=h aW st s le H;unfold At at this;rw[e] at this;exact this Q E aq
noncomputable def Calm(m:M aQ):Prop:=∀st,match m st with
 |.ok _ bp=>bp=st
 |.fail _=>True
 |.ex _=>False
theorem Calm.pure{a:aQ}:Calm (M.pure a):=λI=>rfl
theorem Calm.fail:Calm (MI.fail n:M aQ):=λI=>trivial
theorem Calm.bind{β:Type}{m:M aQ}{f:aQ->M β}(h:Calm m)(k:∀a,Calm (f a)):Calm (m.bind f):=λst=>by
 have h:=h st;unfold M.bind;generalize q:m st=aF;induction aF using MI.Out.casesOn with
 |ok a bp=>rw[q] at h;(clear q;subst h);exact k a _
 |fail=>trivial
 |ex=>rw[q] at h;exact h
theorem Calm.load:Calm (MI.load n):=λst=>by
 cases e:st.at n with
 |some=>rw[Jc e]
 |none=>rw[Jb e];trivial
theorem Calm.bq{x:Option aQ}:Calm (MI.bq n x):=by
 induction x using b1 with
 |none=>exact .fail
 |some=>exact .pure
theorem Calm.guard:Calm (MI.guard n b):=by
 induction b using bV with
 |true=>exact .pure
 |false=>exact .fail
theorem Calm.loc:Calm (tC x):=λst=>by
 unfold tC;cases eh x st.loc with
 |some=>rfl
 |none=>trivial
theorem Calm.fR{F:MI.O->Option aQ}:Calm (MI.fR k n F):=Calm.load.bind λI=>.bq
theorem Calm.cell:Calm (cellGet ab x):=Calm.bq.bind λI=>Calm.fR.bind λI=>.bq
theorem Calm.name:Calm (ng K ab x):=Calm.guard.bind λI=>Calm.bq.bind λk=>by
 induction k using sJ with
 |«local»=>exact .loc
 |cell=>exact .cell
 |free=>exact .cell
 |globalImplicit=>exact Calm.bq.bind λv=>match v with
  |some _=>.pure
  |none=>Calm.bq.bind λI=>.pure
 |_=>exact .fail
theorem Calm.attr{w:MI.V}:Calm (rI K w x):=Calm.bq.bind λI=>Calm.fR.bind λI=>Calm.guard.bind λI=>Calm.bq.bind λI=>Calm.guard.bind λI=>.pure
theorem At.calm{f:aQ->M d8}{W:Wp ej}{cD:aZ->d8->ej->Prop}(h:Calm m)(k:∀v,m st=.ok v st->At X g c β st s (f v) W cD):At X g c β st s (m.bind f) W cD:=by
 have h:=h st;generalize q:m st=aF;induction aF using MI.Out.casesOn with
 |ok a bp=>rw[q] at h;subst h;exact .peek q (k a q)
 |fail=>exact .stuck q
 |ex=>rw[q] at h;exact h.elim
theorem Sat.text(H:Sat g c st β s){l:bB}(aX:l.length<=1000):Sat g c {st with ns:=st.ns+1} {β with cn:=β.cn++ [l]} s/\β.le {β with cn:=β.cn++ [l]}/\ag.val {β with cn:=β.cn++ [l]} [.any st.ns]=C l:=by
 have le:β.le {β with cn:=β.cn++ [l]}:=⟨iH _,iH _,iH _,lK _ _⟩;refine bG H.objs λf hf=>(fi ⟨⟨H.keep,H.cx,⟨f,λn own o q=>?_⟩,H.len,⟨H.facts.aE,H.facts.aj,H.facts.cd,?_,λm hm=>?_⟩,H.ghost.trans le⟩,H.os,H.loc.le le⟩ le ?_)
 .obtain(⟨a,d,aa,af,aJ⟩):=hf n own o q;refine⟨a,d,aa,af.mono le (λI e=>e) (λI e=>e),aJ⟩
 .show(β.cn++ [l]).length=st.ns+1;(refine G iG (G H.facts.dd ?_));rfl
 .rcases me.mp hm with hm|hm
  .exact H.facts.cn m hm
  .exact G (eu.mp hm) aX
 .show(match(β.cn++ [l])[st.ns]?,C [] with|some a,some b=>C (a++b)|_,_=>none)=_;(refine G (bW H.facts.dd) (G (pL (dP _)) ?_);refine G (uI _) ?_);simp
set_option tactic.hygienic true in
theorem Sh(H:Sat g c st β s){t:ag}{l:bB}(h:wO t st=ae)(q:ag.val β t=C l):l.length<=900:=by unfold wO at h;exact aU (Sk h) λn aO h=>bR (ag.Aj H.facts aO q) (bA h)
theorem MK(O:g.Ok)(U:c.Ok g ab.dep)(V:cc c ab env β)(H:Sat g c st β s){e:aM}{p dJ:cq}{w v:MI.V}(aa:ng g.K ab e st=.ok w st)(af:rI g.K w nm st=.ok v st){Q:aB->aN->Prop}
  (aq:∀a ao av,β.le av->Sat g c st av ao->a7 av v a->Q a ao):a5 g.M c.A (dM (.Attribute (.Name e p) nm dJ) env) Q E s:=by refine Attribute_any_ ((tm (X:=fY) O U V e p).go (.refl _) H aa λa bg aY l pX r=>(Hs (X:=fY) O U r nm ae).go (.refl _) pX af λb b0 h2 a_ rl g_=>aq b b0 h2 (l.trans a_) rl g_) (G (arm_eval_Attribute _ _ _ _) (G ((FO rfl) _ _) rfl))
theorem XG(O:g.Ok)(I:g.Fn)(U:c.Ok g ab.dep)(V:cc c ab env β){n a9 zC f bf zD dY:aM}{hl df dx fP iV iW kN jS ki ot r4:cq}{k:Int}:
  cT g c β (Sj g.K ab n a9 zC f bf zD dY) (dN g c (dM (.IfExp (.Compare (.Name n hl) [.Eq] [.Constant (.int k) eF df] dx) (.Attribute (.Name a9 fP) zC iV) (.Call (.Name f iW) [.Attribute (.Name bf kN) zD jS,.Name dY ki] [] ot) r4) env)) a7:=by
 intro aW st s aa H;have V:=V.le aa;refine .calm .name λv a1=>.bq λx q=>?_;cases qw q;refine .calm .name λv1 a2=>.calm .attr λv cm=>.bq λAb q=>?_;cases z_ q;refine .calm .name λv c_=>.bq λah3 q=>?_;cases yg q;refine .calm .name λv2 dR=>.calm .attr λv fe=>.bq λAe q=>?_;cases z_ q;refine .calm .name λv iq=>.bq λy q=>?_;cases qw q;refine .guard λq=>?_;unfold At;dsimp only;generalize cG:(wO Ab st&&(wO Ae st&&bo.small st.ar y))=aF;induction aF using bV with
 |false=>trivial
 |true=>
  have q:=(ew _ _).mp q;obtain rfl:=CI q.1;obtain dO:ab.dep<280:=bA q.2;have cG:=(ew _ _).mp cG;obtain aD:=cG.1;have cG:=(ew _ _).mp cG.2;obtain cy:=cG.1;obtain bT:=cG.2;intro Q E aq;refine IfExp_ ?_;show a5 g.M c.A (do testChain dx (<-dM (.Name n hl) env) [.Eq] (markedEach [.Eq] [.Constant (.int k) eF df] [dM (.Constant (.int k) eF df) env])) _ E s;refine b3 ((tm (X:=fY) O U V n hl).go (.refl _) H a1 λa bg aY eC rl iZ=>?_);(refine cA iZ λz t a8 J=>?_;try clear iZ;subst J);show a5 g.M c.A (do
    let dv <-sF [.int z t] (markedBehindIn .Eq (.Constant (.int k) eF df) (dM (.Constant (.int k) eF df) env))
    uO dx
    let c <-operate [.int z t,dv] (EM .Eq (.int z t) dv)
    sF [c] (uF c)) _ E bg
  refine G (Ub (Js rfl)) (b3 (iI ((Ny (X:=fY) (g:=g) (c:=c) (β:=aY) (.int k) eF df).go (.refl _) rl (show bq 140 (Gy (.int k)) st=.ok (.i (.lit k)) st from rfl) λb b0 h2 hZ L9 DK=>?_)));(refine cA DK λgU dC g5 J=>?_;try clear DK;subst J);refine b3 (kX (b3 (wpAny_operating (TJ ?_))));have Fs:=(V.le eC).le hZ;refine iI ?_;suffices aw:(if(z==gU)=ae then a5 g.M c.A (dM (.Attribute (.Name a9 fP) zC iV) env) Q E b0 else a5 g.M c.A (dM (.Call (.Name f iW) [.Attribute (.Name bf kN) zD jS,.Name dY ki] [] ot) env) Q E b0) from λhH hH hH=>aw;by_cases vM:(z==gU)=ae
  .refine G (if_pos vM) (MK O U Fs L9 a2 cm λa dB pP jA AY r=>?_);(refine cA r λl u aX J=>?_;try clear r;subst J);obtain short:=Sh AY aD aX;exact fO (AY.text (l:=l) (bR (by assumption) (bA rfl))) λUR aa2 lV=>aq _ _ _ (((eC.trans hZ).trans jA).trans aa2) UR ⟨l,u,lV,rfl⟩
  ·(refine G (if_neg vM) (G ((oR (λhH hH hH h=>by(injection h))) _ _) ?_));refine b3 ((tm (X:=fY) O U Fs f iW).go (.refl _) L9 c_ λa dB pP jA AY r=>?_);obtain rfl:=r;have Mo:=Fs.le jA;refine AN (P:=λh=>g.K.In h) (G (nx rfl) rfl) (λh X=>keeps_K I.1 h X) (n7 rfl (kS (MK O U Mo AY dR fe λa fh ah9 QG L_ r=>?_) (nD rfl _)));(refine cA r λl u aX J=>?_;try clear r;subst J);refine kS ((tm (X:=fY) O U (Mo.le QG) dY ki).go (.refl _) L_ iq λa jg aia abr xG r=>?_) (nD rfl _);(refine cA r λUd ty ZZ J=>?_;try clear r;subst J);refine nN ⟨xG.toSatO.fl U O,?_⟩;have z7:=bo.J6 xG.facts bT ZZ;have short:=Sh L_ cy aX;obtain hd:=U.depth;refine I.2 c.A jg l u ty Ud Q E (NX hd (kq dO) (bA rfl)) (xG.toSatO.fl U O) (xG.toSatO.top U O) short z7.1 z7.2 λay cX dC keep=>fO ((xG.grow (t:=cX) keep).text (l:=l++35::eR Ud) (by obtain this:=GJ z7;(refine G iG (G uA ?_));lia)) λUS aa4 GZ=>?_
   exact aq _ _ _ (((((eC.trans hZ).trans jA).trans QG).trans abr).trans aa4) US ⟨_,dC,GZ,rfl⟩
end
section
variable{c:bc}{ab:cK}{st:St}{s:aN}
noncomputable def cz.Mb(g:cz):Prop:=∃au n,g.K.lookup layAt=C ⟨.type "dict",none,.dict au n,#[]⟩/\KeysLit g.w.params au.toList
noncomputable def cz.Lay(g:cz):Prop:=g.Mb/\g.Fn
theorem XD(O:g.Ok)(ba:dW g aG)(U:c.Ok g ab.dep)(V:cc c ab env β)(o:bk)(lo bN st:Option bk)(q p:cq):cT g c β (Oh aG ab o lo bN st) (dN g c (dM (.Subscript o (.Slice lo bN st q) p) env)) a7:=
 match lo,bN,st with
 |some _,none,none=>XF O ba U V _ _ _ _
 |none,some _,none=>XE O ba U V _ _ _ _
 |some _,some _,none=>.fail
 |none,none,none=>.fail
 |none,_,some _=>.fail
 |some _,_,some _=>.fail
theorem Xq(O:g.Ok)(kF:g.Lay)(ba:dW g aG)(U:c.Ok g ab.dep)(V:cc c ab env β)(e:bk):cT g c β (Og aG g.K ab e) (dN g c (dM e env)) a7:=by
 cases e with
 |Constant=>exact Ny _ _ _
 |Name=>exact tm O U V _ _
 |Attribute=>exact Xs O ba U V _ _ _
 |BoolOp=>exact Oj ba U V _ _ _
 |BinOp=>exact Xt O ba U V _ _ _ _
 |UnaryOp op=>
  cases op with
  |Not=>exact XC ba U V _ _
  |USub=>exact XI ba U V _ _
  |_=>exact .fail
 |IfExp t b o p=>
  show cT g c β (match DT t b o with|some w=>_|none=>_) _ _;generalize q:DT t b o=aF;induction aF using b1 with
  |some w=>exact afo q λI I I I I I I I I I I I a9 bf cC=>by(refine G a9 (G bf (G cC ?_)));exact XG O kF.2 U V
  |none=>exact Xz ba U V _ _ _ _
 |Compare l ops rs p=>exact .asks λop aa=>.asks λr af=>by(refine G (lu aa) (G (lu af) ?_));exact Xw O ba U V _ _ _ _
 |Tuple=>exact XH O ba U V _ _ _
 |List=>exact XB O ba U V _ _
 |Dict ks aK p=>
  induction ks using eo with
  |nil=>
   induction aK using eo with
   |nil=>exact Xy O U _
   |cons=>exact .fail
  |cons=>exact Xx O ba U V _ aK p (.inl (Lj _ _))
 |Subscript o i p=>
  show cT g c β (match DR i with|some w=>_|none=>_) _ _;generalize q:DR i=aF;induction aF using b1 with
  |some w=>exact G (aff q) (XD O ba U V o _ _ _ _ p)
  |none=>exact XA O kF.1 ba U V _ _ _
 |ListComp a b d f=>show cT g c β (comp aG ab (.ListComp a b d f) b d (.list [])) _ _;exact Gx O ba U V (.ListComp a b d f) _ _ _ rfl rfl _ _ (Mr O U)
 |DictComp k a b d f=>show cT g c β (comp aG ab (.DictComp k a b d f) b d (.dict [] none)) _ _;exact Gx O ba U V (.DictComp k a b d f) _ _ _ rfl rfl _ _ (Mq O U)
 |Call f as ks p=>
  exact .asks λI h=>by
   refine G (lq h) ?_;generalize q:vf f=aF;induction aF using b1 with
   |some w=>exact G (FN q) (Xv O ba U V _ _ _ _ _)
   |none=>exact Xu O ba U V f (Vn q) as p
 |_=>exact .fail
end
section
variable{c:bc}{ab:cK}{st:St}{s:aN}
noncomputable abbrev j6(g:cz)(c:bc)(t:hC fH):Wp Flow:=λQ E s=>a5 g.M c.A t Q E s
theorem Ss{v:bk}{t:Option bk}{line:Nat}(aa:∀a b d e,v≠.ListComp a b d e)(af:∀a b d e f,v≠.DictComp a b d e f)(aJ:∀a b d e,v≠.SetComp a b d e):swapsWith v t line env=pure false:=by cases v<;>first|rfl|exact absurd rfl (aa _ _ _ _)|exact absurd rfl (af _ _ _ _ _)|exact absurd rfl (aJ _ _ _ _)
theorem sj:bH X g c β (M.pure dj.next) (λ(Q:fH->aN->Prop) I s=>Q Flow.next s) eL:=bH.pure (R:=eL) λI I=>rfl
theorem agM(ba:dW g aG)(U:c.Ok g ab.dep)(V:cc c ab env β)(e:bk)(pos:cq):
  cT g c β ((aG.ev ab e).bind λv=>M.pure (dj.ret v)) (j6 g c (i4 (.Return (C e) pos) env)) eL:=
 bH.of ((ba.ev c ab env β e U V).bind (k:=λy=>λQ I s=>Q (.ret y) s) λI v y I r=>bH.pure λI l=>⟨y,rfl,r.le l⟩) λQ E s k=>uz k
theorem agK(ba:dW g aG)(U:c.Ok g ab.dep)(V:cc c ab env β)(t:bk)(b o:List eQ)(pos:cq):
  cT g c β ((aG.eO ab t).bind λc=>match c with
  |true=>aG.xs ab b
  |false=>aG.xs ab o) (j6 g c (i4 (.If t b o pos) env)) eL:=by
 refine bH.of ((ba.eO c ab env β t U V).bind (k:=λt=>λQ E s=>if t=ae then a5 g.M c.A (cH b env) Q E s else a5 g.M c.A (cH o env) Q E s) λav v a l r=>?_) λQ E s k=>wpAny_If k;subst r;cases a
 .exact(ba.xs c ab env av o U (V.le l)).of λQ E s k=>by simpa using k
 .exact(ba.xs c ab env av b U (V.le l)).of λQ E s k=>by simpa using k
theorem agO(ba:dW g aG)(U:c.Ok g ab.dep)(V:cc c ab env β)(t:bk)(b:List eQ)(pos:cq):cT g c β (aG.dK ab t b) (j6 g c (i4 (.While t b [] pos) env)) eL:=
 ((ba.dK c ab env β t b U V).back (env:=env) U).of λQ E s k=>wpAny_While k
theorem agJ(O:g.Ok)(ba:dW g aG)(U:c.Ok g ab.dep)(V:cc c ab env β)(t it:bk)(b:List eQ)(pos:cq):cT g c β (match eK ab.dep 400&&!isSet it with
  |true=>(aG.ev ab it).bind λv=>(nq v).bind λn=>aG.kC ab t n b
  |false=>fail 165) (j6 g c (i4 (.For t it b [] pos) env)) eL:=by
 split
 .rename_i bb;simp only[ew,jl] at bb;have dO:ab.dep<400:=bA bb.1;refine bH.of ((ba.ev c ab env β it U V).bind (k:=λx=>λ(Q:fH->aN->Prop) E bg=>a5 g.M c.A (oD x) (λi b0=>
   ft g.M c.A (.forLoop t i b [] env) (λr ao=>match r with|.ok f=>Q f ao|.error e=>nL g.M c.A env E e ao) b0) E bg) (cD:=eL) λav v y l r=>(y_ O U r).bind (k:=λi=>λ(Q:fH->aN->Prop) E b0=>
   ft g.M c.A (.forLoop t i b [] env) (λr ao=>match r with|.ok f=>Q f ao|.error e=>nL g.M c.A env E e ao) b0) λd9 n i a_ l5=>?_) λQ E s k=>wpAny_For k (ys bb.2 env)
  (refine cA l5 λa d J aV=>?_;try clear l5;subst J);exact(ba.kC c ab env d9 t n b a d U dO (V.le (l.trans a_)) aV).back (env:=env) U
 .exact .fail
theorem Nw{v:bk}(h:vR v=ai):(∀a b d f,v≠.ListComp a b d f)/\(∀a b d f k,v≠.DictComp a b d f k)/\(∀a b d f,v≠.SetComp a b d f):=
 (fi (λI I I I e=>(by subst e;exact jB h)) (λI I I I I e=>(by subst e;exact jB h)) (λI I I I e=>(by subst e;exact jB h)))
theorem ab5{t v:bk}(h:Jw t v=ae):EA [t] v env=pure none:=by
 cases t with
 |Name=>rfl
 |Attribute=>rfl
 |Subscript=>rfl
 |Tuple=>
  cases v with
  |Tuple=>exact c8 h
  |_=>rfl
 |_=>exact c8 h
theorem Vm{t v:bk}(h:Jw t v=ae):(q0 [t] env).map (·.2)=[mT t env]:=by
 cases t with
 |Starred=>exact c8 h
 |_=>rfl
theorem Tr(O:g.Ok)(ba:dW g aG)(U:c.Ok g ab.dep)(V:cc c ab env β)(t v:bk)(pos:cq):cT g c β (FJ aG g.K ab t v) (j6 g c (i4 (.Assign [t] v pos) env)) eL:=λaW st s aa H=>.guard λh=>
 have p:=(ew _ _).mp h;have n:=Nw ((jl _).mp p.2);have sw:swapsWithSole [t] v pos.line env=pure false:=Ss n.1 n.2.1 n.2.2
 ((ba.ev c ab env β v U V).bind (k:=λy=>λ(Q:fH->aN->Prop) E bg=>a5 g.M c.A (assignAll y ((q0 [t] env).map (·.2))) (λI s=>Q .next s) E bg) (cD:=eL) λav w y l r=>
  ((FL O ba U (V.le l) t r).bind (k:=λI=>λ(Q:fH->aN->Prop) I s=>Q .next s) λI I I I I=>sj).of λQ E s k=>by exact G (Vm p.1) k).of (λQ E s k=>Lf k sw (ab5 p.1)) aW st s aa H
theorem agI(ba:dW g aG)(U:c.Ok g ab.dep)(V:cc c ab env β)(e:bk)(pos:cq)(h:vR e=ai):
  cT g c β ((aG.ev ab e).bind λI=>M.pure dj.next) (j6 g c (i4 (.Expr e pos) env)) eL:=
 have n:=Nw h
 bH.of ((ba.ev c ab env β e U V).bind (k:=λI=>λ(Q:fH->aN->Prop) I s=>Q .next s) λI I I I I=>sj) λQ E s k=>wpAny_Expr_any k (aae V) (Ss n.1 n.2.1 n.2.2)
theorem Bo{β:Type}(m:M aQ)(f:aQ->M β)(h:β->M fb):(m.bind f).bind h=m.bind λa=>(f a).bind h:=by funext st;unfold M.bind;cases m st<;>rfl
theorem aao(U:c.Ok g dep){a b:V}{x:aB}(c2:a7 β a x)(dy:a7 β b y):bH X g c β (PR a b) (λQ E s=>a5 g.M c.A (sE x y) Q E s) a7:=λaW st s aa H=>
 .dv (W:=λx=>λQ E s=>a5 g.M c.A (sE x y) Q E s) (c2.le aa) λn a1 eZ gH=>.cn (W:=λy=>λQ E s=>a5 g.M c.A (sE (.ref a1) y) Q E s) (dy.le aa) λe l t aX=>PS H gH aX λQ E I k=>k
theorem abe(V:cc c ab env β)(x:aM):cT g c β (Qh ab x) (dN g c (loadName env x)) a7:=λaW st s aa H=>.bq λk aw=>by
 have V:=V.le aa;induction k using sJ with
 |«local»=>exact OV V H aw
 |cell=>exact Gj V H λQ E a y af bl cQ=>wpAny_loadName_cell V.kind (G (V.kindOf _) (G aw rfl)) af bl cQ
 |_=>exact .fail
noncomputable abbrev sN(g:cz)(c:bc)(v:bk)(env:hB)(op:pJ)(P:aB->Wp Unit)(y:aB):Wp Unit:=λQ E s=>a5 g.M c.A (dM v env) (λw bg=>a5 g.M c.A (q2 op y w) (λu b0=>P u Q E b0) E bg) E s
theorem FP(O:g.Ok)(ba:dW g aG)(U:c.Ok g ab.dep)(V:cc c ab env β)(v:bk)(op:pJ){old:MI.V}(r:a7 β old y){put:MI.V->M Unit}{P:aB->Wp Unit}(h:∀av n u,β.le av->a7 av n u->cT g c av (put n) (P u) (λI I I=>True)):
  cT g c β (Bj aG ab op v old put) (sN g c v env op P y) (λI I I=>True):=
 (ba.ev c ab env β v U V).bind (k:=λw=>λQ E b0=>a5 g.M c.A (q2 op y w) (λu dB=>P u Q E dB) E b0) λaY w z l iZ=>(aab O U (r.le l) iZ op).bind (k:=P) λh2 n u hZ DK=>h h2 n u (l.trans hZ) DK
theorem agH(O:g.Ok)(ba:dW g aG)(U:c.Ok g ab.dep)(V:cc c ab env β)(t v:bk)(op:pJ)(pos:cq):cT g c β ((Bk aG g.K ab t op v).bind λI=>M.pure dj.next) (j6 g c (i4 (.AugAssign t op v pos) env)) eL:=by
 have fin:∀{W:Wp Unit},cT g c β (Bk aG g.K ab t op v) W (λI I I=>True)->(∀(Q:fH->aN->Prop)(E:aB->aN->Prop) s,W (λI s=>Q .next s) E s->a5 g.M c.A (i4 (.AugAssign t op v pos) env) Q E s)->cT g c β ((Bk aG g.K ab t op v).bind λI=>M.pure dj.next) (j6 g c (i4 (.AugAssign t op v pos) env)) eL:=
  λh k=>(h.bind (k:=λI=>λ(Q:fH->aN->Prop) I s=>Q .next s) λI I I I I=>sj).of k
 cases t with
 |Name x RQ=>exact fin ((abe V x).bind (k:=sN g c v env op λu Q E s=>a5 g.M c.A (EL env x u) Q E s) λaW o y l r=>FP O ba U (V.le l) v op r λav n u a_ g_=>qN O U ((V.le l).le a_) x g_) λQ E s k=>wpAny_AugAssign_Name k
 |Attribute o x RQ=>
  exact fin ((ba.ev c ab env β o U V).bind (k:=λoz=>λQ E s=>a5 g.M c.A (getAttr oz x ae) (λy s=>sN g c v env op (λu Q E s=>a5 g.M c.A (xt oz x u) Q E s) y Q E s) E s) λdQ gK oz C2 z2=>
   (Hs O U z2 x ae).bind (k:=sN g c v env op λu Q E s=>a5 g.M c.A (xt oz x u) Q E s) λaW o y l r=>FP O ba U (V.le (C2.trans l)) v op r λav n u a_ g_=>Sb O U (z2.le (l.trans a_)) x g_) λQ E s k=>wpAny_AugAssign_AttributeAny k
 |Subscript o i RQ=>
  generalize q:yc i=aF;induction aF using b1 with
  |none=>exact fin (W:=λI I I=>False) (.asks λw hw=>nomatch q.symm.trans hw) λI I I h=>h.elim
  |some w=>
   obtain(⟨mv,fg,pp⟩):=w;obtain rfl:i=.Constant mv fg pp:=Nx q;obtain ch:=(ba.ev c ab env β o U V).bind (k:=λoz=>λQ E s=>a5 g.M c.A (dM (.Constant mv fg pp) env) (λuv s=>a5 g.M c.A (sE oz uv) (λy s=>sN g c v env op (λu Q E s=>a5 g.M c.A (uE oz uv u) Q E s) y Q E s) E s) E s) λdQ gK oz C2 z2=>
    (ba.ev c ab env dQ (.Constant mv fg pp) U (V.le C2)).bind (k:=λuv=>λQ E s=>a5 g.M c.A (sE oz uv) (λy s=>sN g c v env op (λu Q E s=>a5 g.M c.A (uE oz uv u) Q E s) y Q E s) E s) λav aE uv a_ l5=>
     (aao U (z2.le a_) l5).bind (k:=sN g c v env op λu Q E s=>a5 g.M c.A (uE oz uv u) Q E s) λaW o y l r=>FP O ba U (V.le ((C2.trans a_).trans l)) v op r λaY n u eC g_=>Se O U (z2.le ((a_.trans l).trans eC)) (l5.le (l.trans eC)) g_
   obtain mu:=bH.asks (n:=161) (x:=yc (.Constant mv fg pp)) λI I=>ch;exact fin mu λQ E s k=>TO k
 |_=>exact .fail
end
noncomputable def bc.fix(c:bc)(e T:az)(cg e2:cj):bc:=⟨λa=>if a=e then C cg else if a=T then C e2 else c.P a,c.cx,c.fr,c.L,c.A.mark (C (.ref e))⟩
section
variable{c:bc}{ab:cK}{st:St}{s:aN}{e T:az}{cg e2:cj}
theorem BU:(c.fix e T cg e2).P e=C cg:=if_pos rfl
theorem BS(h:T≠e):(c.fix e T cg e2).P T=C e2:=by show(if T=e then _ else _)=_;exact G (if_neg h) (G (if_pos rfl) rfl)
theorem rF{a:az}(aa:a≠e)(af:a≠T):(c.fix e T cg e2).P a=c.P a:=by show(if a=e then _ else _)=_;exact G (if_neg aa) (G (if_neg af) rfl)
theorem yr(he:c.P e=none)(e0:c.P T=none){a:az}{o:cj}(h:c.P a=C o):(c.fix e T cg e2).P a=C o:=G (rF (λq=>by rw[q,he] at h;exact bK h) (λq=>by rw[q,e0] at h;exact bK h)) h
theorem Sat.fix(U:c.Ok g dep)(H:Sat g c st β s)(he:c.P e=none)(e0:c.P T=none)(ge:s.heap.get? e=C cg)(BX:s.heap.get? T=C e2)(re:¬ip cg)(pn:¬ip e2)(iO:T≠e):Sat g (c.fix e T cg e2) st β s:=by
 refine bG H.objs λf hf=>?_;have ne:=H.toSatO.uc ge re;have QU:=H.toSatO.uc BX pn;refine⟨⟨λa o h=>?_,H.cx,⟨f,λn own o q=>?_⟩,H.len,H.facts,H.ghost⟩,H.os,H.loc⟩
 .by_cases aa:a=e
  ·(clear ne iO he;subst aa);rw[BU] at h;(obtain J:=aT h;clear h;subst J);exact ge
  .by_cases af:a=T
   ·(clear QU iO e0;subst af);rw[BS aa] at h;(obtain J:=aT h;clear h;subst J);exact BX
   .rw[rF aa af] at h;exact H.keep a o h
 .obtain(⟨a,d,aa,af,aJ⟩):=hf n own o q;refine⟨a,d,aa,?_,λbx=>?_⟩
  .clear aJ q;induction own using bV with
   |true=>exact af
   |false=>exact af.mono (.refl _) (λI=>yr he e0) (λI=>yr he e0)
  ·(clear af;subst bx);obtain(⟨cJ,cY,⟨df,dx⟩,⟨dT,cG⟩,gM⟩):=aJ rfl;exact a3 (ne n o a d q aa) λa9 bf=>a3 (QU n o a d q aa) λt1 jh=>⟨cJ,cY,⟨by exact G (rF a9 t1) df,dx⟩,⟨by exact G (rF bf jh) dT,cG⟩,gM⟩
theorem Sat.SV(H:Sat g (c.fix e T cg e2) st β s)(he:c.P e=none)(e0:c.P T=none)(re:¬ip cg)(pn:¬ip e2)(iO:T≠e):Sat g c st β s/\s.heap.get? e=C cg/\s.heap.get? T=C e2:=by
 refine bG H.objs λf hf=>(fi ⟨⟨λa o h=>H.keep a o (yr he e0 h),H.cx,⟨f,λn own o q=>?_⟩,H.len,H.facts,H.ghost⟩,H.os,H.loc⟩ (H.keep e cg BU) (H.keep T e2 (BS iO)));obtain(⟨a,d,aa,af,aJ⟩):=hf n own o q;refine⟨a,d,aa,?_,λbx=>?_⟩
 .induction own using bV with
  |true=>exact af
  |false=>
   by_cases gx:o=.gone
   ·(clear aJ af q;subst gx);trivial
   .have af:cN g (c.fix e T cg e2).P β a d o:=af;obtain(⟨⟨x,dw,dV⟩,y,cJ,cY⟩):=cN.Q7 gx af;obtain Vb:a≠e:=λz=>by rw[z,BU] at dw;(obtain J:=aT dw;clear dw;subst J);exact re dV
    obtain U6:a≠T:=λz=>by rw[z,BS iO] at dw;(obtain J:=aT dw;clear dw;subst J);exact pn dV
    obtain GH:d≠e:=λz=>by rw[z,BU] at cJ;(obtain J:=aT cJ;clear cJ;subst J);exact re cY
    have aS:d≠T:=λz=>by rw[z,BS iO] at cJ;(have J:=aT cJ;clear cJ;subst J);exact pn cY
    exact af.mono (.refl _) (λo h=>by rwa [rF Vb U6] at h) (λo h=>by rwa [rF GH aS] at h)
 ·(clear af q;subst bx);obtain(⟨cJ,cY,⟨df,dx⟩,⟨dT,cG⟩,gM⟩):=aJ rfl;have down:∀{a:az},(c.fix e T cg e2).P a=none->c.P a=none:=λ{a} h=>by
   generalize q:c.P a=aF;induction aF using b1 with
   |none=>rfl
   |some o=>rw[yr he e0 q] at h;exact wJ h
  exact⟨cJ,cY,⟨down df,dx⟩,⟨down dT,cG⟩,gM⟩
theorem bc.Ok.fix(U:c.Ok g dep)(H:Sat g c st β s)(dO:dep<302)(he:c.P e=none)(e0:c.P T=none)(ge:s.heap.get? e=C cg)(BX:s.heap.get? T=C e2){aK cp:Array aB}(GH:cg.data=.fields aK)(aS:e2.data=.fields cp):(c.fix e T cg e2).Ok g (dep+500):=by
 have Nv:∀{a:az}{o:cj}{au:Array hT}{n:Nat},s.heap.get? a=C o->o.data=.dict au n->a≠e/\a≠T:=λaa af=>⟨λz=>(by rw[z,ge] at aa;(obtain J:=aT aa;clear aa;subst J);rw[GH] at af;(injection af)),λz=>(by rw[z,BX] at aa;(obtain J:=aT aa;clear aa;subst J);rw[aS] at af;(injection af))⟩;obtain hd:=U.depth;have cy:=U.units;refine⟨λa o h=>yr he e0 (U.base a o h),U.frames,U.here,λx ak=>?_,?_,(show c.A.depth<=_ by lia),(show c.A.units<=_ by lia),λh=>by lia,by lia⟩
 .obtain(⟨aa,au,n,aJ⟩):=U.hd x ak;exact bG (H.cx x ak) λdd bl=>a3 (Nv bl (show({x.2 with slots:=dd}:cj).data=_ from aJ)) λeV dY=>⟨by exact G (rF eV dY) aa,au,n,aJ⟩
 ·(refine aU H.loc λm J I=>kh J λo au fm bx kc I=>?_;try clear J);refine a3 (Nv bx kc) λeV dY=>?_;(refine G (show(c.fix e T cg e2).L=c.L from rfl) (G (rF eV dY) ?_));exact U.iX
theorem afU(O:g.Ok)(ba:dW g aG)(U:c.Ok g ab.dep)(V:cc c ab env β)(body:List eQ)(rH:eQ)(dH:List eQ)(pos:cq):cT g c β (Ke aG ab body (rH::dH)) (j6 g c (i4 (.Try body [] [] (rH::dH) pos) env)) eL:=by
 intro aW st s aa H;have V:=V.le aa;have run:=ba.xs c ab env aW body U V aW st s (.refl _) H;unfold At at run ⊢;unfold Ke;generalize q:aG.xs ab body st=aF;induction aF using MI.Out.casesOn with
 |fail n=>trivial
 |ex bp=>
  rw[q] at run;dsimp only at run ⊢;unfold OD;generalize aD:eK ab.dep 302=aF;induction aF using bV with
  |false=>trivial
  |true=>
   have dO:ab.dep<302:=bA aD;dsimp only;generalize cG:(aG.xs {ab with dep:=ab.dep+500} (rH::dH) bp)=aF;induction aF using MI.Out.casesOn with
   |fail n=>trivial
   |ex qM=>trivial
   |ok f qM=>
    induction f using MI.dj.casesOn with
    |next=>
     dsimp only;intro Q E aq;refine wpAny_Try_finally (run _ _ λe bg av l R=>zJ U V.frame R λb0 lS=>?_);have UY:=lS;(refine aU lS λa J I=>?_;try clear lS;(clear R;subst J));refine⟨(by intro z;(injection z)),?_⟩;refine zJ U V.frame UY.raised λdB rv=>vt U rv λfh m_=>?_;(refine eH m_ λdq ja gG S=>?_;try clear m_);cases ja;refine ih gG.told λcg aK he bb hd kE h0 yy=>wt (yy.resolve_left λq=>q.1 trivial) λT e2 cp eM g1 iO kD e0 iz aJ=>?_;have re:¬ip cg:=by refine aU gG.record λdp bZ c5=>?_;rw[he] at bZ;(obtain J:=aT bZ;clear bZ;subst J);exact c5
     have pn:=zI iz aJ;obtain ek:=U.fix (e:=a) (T:=T) S dO kE kD he e0 hd iz;obtain gY:cc (c.fix a T cg e2) {ab with dep:=ab.dep+500} env av:=let V:=V.le l;⟨V.scope,V.kind,V.glob,V.blt,V.loc,V.cells,V.frame,V.apart⟩;obtain fin:=ba.xs (c.fix a T cg e2) {ab with dep:=ab.dep+500} env av (rH::dH) ek gY av bp fh (.refl _) (S.fix U kE kD he e0 re pn iO);unfold At at fin;rw[cG] at fin;refine fin _ _ λk5 jg d9 a_ eE fv=>?_;obtain rfl:=fv;dsimp only;exact fO (eE.SV kE kD re pn iO) λFj lV Kb=>JD U (⟨a,rfl,⟨cg,aK,lV,bb,hd,kE,h0,.inr (si T e2 cp eM g1 iO kD Kb iz aJ)⟩,Fj⟩:Told g c qM d9 (.ref a) jg) λsd A_=>aq _ sd d9 (l.trans a_) A_.raised
    |_=>trivial
 |ok f bp=>
  rw[q] at run;dsimp only at run ⊢;generalize cG:(aG.xs ab (rH::dH) bp)=aF;induction aF using MI.Out.casesOn with
  |fail n=>trivial
  |ex qM=>trivial
  |ok k5 qM=>
   induction k5 using MI.dj.casesOn with
   |next=>
    dsimp only;intro Q E aq;refine wpAny_Try_finally (run _ _ λeM bg av l S fv=>?_);obtain fin:=ba.xs c ab env av (rH::dH) U (V.le l) av bp bg (.refl _) S;unfold At at fin;rw[cG] at fin;obtain key:∀uY,a5 g.M c.A (cH (rH::dH) env) (λg ao=>match g with|.next=>Q eM ao|g=>Q g ao) uY bg:=λuY=>fin _ _ λk5 b0 d9 a_ eE adZ=>by
     obtain rfl:=adZ;refine aq eM b0 d9 (l.trans a_) eE ?_;clear aq q run;induction f using MI.dj.casesOn with
     |next=>exact fv
     |brk=>exact fv
     |cont=>exact fv
     |ret v=>(refine aU fv λy e r=>?_;try clear fv);exact⟨y,e,r.le a_⟩
    clear fv;induction eM using w_ with
    |next=>exact qT (key _)
    |_=>exact key _
   |_=>trivial
end
noncomputable def bc.oM(c:bc)(L:az)(o:cj):bc:=⟨c.P,(L,o)::c.cx,c.fr,c.L,c.A⟩
variable{mE:cj}
section
variable{c:bc}{ab:cK}{st:St}{s:aN}
theorem Sat.oM{L:az}{o:cj}{au:Array hT}(ek:(c.enter L o fr A).Ok g dep)(H:Sat g (c.enter L o fr A) st β s)(f7:s.heap.get? L=C mE)(hd:o.data=.dict au fm)(aw:xu au)
  (cb:∀x v,eh x fS=C v->∃y,sH au x=C y/\a7 β v y):Sat g (c.oM L mE) {st with loc:=fS} β s:=by
 refine bG H.objs λf hf=>⟨⟨H.keep,λx ak=>?_,⟨f,λn own y q=>?_⟩,H.len,H.facts,H.ghost⟩,H.os,?_⟩
 .rcases dh.mp ak with rfl|ak
  .exact⟨mE.slots,f7⟩
  .exact H.cx x (.tail _ ak)
 .obtain(⟨a,d,aa,af,aJ⟩):=hf n own y q;refine⟨a,d,aa,af,λe=>?_⟩;obtain(⟨cJ,cY,⟨df,dx,fP⟩,⟨dT,cG,fQ⟩,gM⟩):=aJ e;refine⟨cJ,cY,⟨df,λe=>fP (c.L,o) (.head _) e.symm,λx ak=>?_⟩,⟨dT,λe=>fQ (c.L,o) (.head _) e.symm,λx ak=>?_⟩,gM⟩
  .rcases dh.mp ak with rfl|ak
   .exact λz=>dx z.symm
   .exact fP x (.tail _ ak)
  .rcases dh.mp ak with rfl|ak
   .exact λz=>cG z.symm
   .exact fQ x (.tail _ ak)
 .exact bG (H.cx (c.L,o) (.head _)) λdd e=>⟨_,⟨_,au,fm,e,hd,aw,λI=>rfl⟩,cb⟩
theorem bc.Ok.oM{L:az}{o:cj}(U:c.Ok g dep)(ek:(c.enter L o c.fr c.A).Ok g dep){au:Array hT}(hd:mE.data=.dict au fm):(c.oM L mE).Ok g dep:=by
 refine⟨U.base,U.frames,λenv he=>?_,λx ak=>?_,U.iX,U.depth,U.units,U.calm,U.dep⟩
 .obtain(⟨aa,a,af,aJ⟩):=U.here env he;refine⟨aa,a,af,?_⟩;rcases aJ with aJ|⟨x,ak,aJ⟩
  .exact .inl aJ
  .exact .inr (bh x (.tail _ ak) aJ)
 .rcases dh.mp ak with rfl|ak
  .exact⟨ek.iX,au,fm,hd⟩
  .exact U.hd x ak
theorem Sat.af5{L:az}{o:cj}(ek:(c.enter L o fr A).Ok g dep)(ix:(c.enter L o fr A).Apart)(H:Sat g (c.oM L mE) st β s)(bM:qW L s.heap ay):Sat g c st β {s with heap:=ay,toks:=t}:=by
 refine bG H.objs λf hf=>?_;have k:=bM.extBut;refine⟨⟨λa x e=>k a x (λz=>?_) (H.keep a x e),λx ak=>?_,⟨f,λn own y q=>?_⟩,H.len,H.facts,H.ghost⟩,H.os,?_⟩
 .obtain e:c.P a=C x:=e;rw[z,show c.P L=none from ek.iX] at e;exact bK e
 .exact bG (H.cx x (.tail _ ak)) λdd e=>⟨dd,k _ _ (ix x (.tail _ ak)) e⟩
 .obtain(⟨a,d,aa,af,aJ⟩):=hf n own y q;refine⟨a,d,aa,?_,λe=>?_⟩
  .clear q;induction own using bV with
   |false=>exact af
   |true=>obtain(⟨_,_,⟨_,_,fP⟩,⟨_,_,fQ⟩,_⟩):=aJ rfl;exact af.mono (.refl _) (λI=>k a _ λz=>fP (L,mE) (.head _) z.symm) (λI=>k d _ λz=>fQ (L,mE) (.head _) z.symm)
  .obtain(⟨cJ,cY,⟨df,dx,fP⟩,⟨dT,cG,fQ⟩,gM⟩):=aJ e;exact⟨cJ,cY,⟨df,dx,λx ak=>fP x (.tail _ ak)⟩,⟨dT,cG,λx ak=>fQ x (.tail _ ak)⟩,gM⟩
 ·(refine aU H.loc λm J b=>wq J λdp au fm bx r=>?_;try clear J);exact⟨m,⟨dp,au,fm,k _ _ (ix (c.L,o) (.head _)) bx,r⟩,b⟩
theorem cc.oM{L:az}(V:cc c ab env β)(gw:L≠c.L):cc (c.oM L mE) ab env β:=⟨V.scope,V.kind,V.glob,V.blt,V.loc,V.cells,V.frame,λx ak=>by
 rcases dh.mp ak with rfl|ak
 .exact gw
 .exact V.apart x ak⟩
end
section
variable{c:bc}{ab:cK}{st:St}{s:aN}
theorem agx{β:Type}(m:M aQ)(f:aQ->M β):((l7 fS m).bind f) st=(match m {st with loc:=fS} with
   |.fail n=>.fail n
   |.ok a bp=>f a {bp with loc:=st.loc}
   |.ex bp=>.ex {bp with loc:=st.loc}):=by unfold M.bind;refine G D1 ?_;cases m {st with loc:=fS}<;>rfl
theorem Wb(O:g.Ok)(ba:dW g aG)(U:c.Ok g ab.dep)(dO:ab.dep<400)(V:cc c ab env β){t iter:bk}(aq:(clauses e)[0]? =C ⟨t,iter,ifs,0⟩)(kind:scope.kind=.function)(lr:∀x∈scope.names,x.2≠.cell)
  {cells:List (aM×Nat)}{cl:List (aM×az)}(cr:pQ β cells cl)(H:Sat g c st β s){a b ec:az}(aO:β.ad[n]? =C (a,d))(aw:β.ad[k]? =C (b,ec)){o:MI.O}(bx:st.at n=C o)(bN:isIt o=ae)(x:aM)(u:aB->hC Unit)(cy:∀(y:aB)(Q:Unit->aN->Prop)(E:aB->aN->Prop)(s:aN),a5 g.M c.A (EL env x y) Q E s->a5 g.M c.A (u y) Q E s):
  At fY g c β st s ((l7 [] (aG.cl ⟨{scope with names:=ow ab.scope.names scope.names},cells,ab.dep⟩ e 0 n k)).bind λI=>jf ab x (MI.V.r k)) (λ(Q:Unit->aN->Prop) E s=>a5 g.M c.A (sr scope env.globals cl [] env.qual none .none (C env)) (λhK fh=>
    ft g.M c.A (.compStart e 0 (.ref a) (.ref b) {hK with scope:=l_ scope env}) (j0 g.M c.A E (C u) (λI s=>Q () s) (.ref b) hK.locals) fh) E s) (λI I I=>True):=by
 refine mG H.loc.obj λfT qe tk hj jv mz ob=>?_;let L:=s.heap.objs.size;let jK:cK:=⟨{scope with names:=ow ab.scope.names scope.names},cells,ab.dep⟩;have ek:(c.enter L fT c.fr c.A).Ok g ab.dep:=U.enter H hj jv (dP _) U.frames (λI h=>.inl h) U.depth U.units U.dep U.calm;let cL:Env:={newEnv scope L env.globals cl env.qual none .none (C env) nK with scope:=l_ scope env};obtain gY:cc (c.enter L fT c.fr c.A) jK cL β:=⟨RZ V scope,by show(l_ scope env).kind=_;exact kind,V.glob,V.blt,rfl,λx n e=>pQ.look cr e,V.frame,bc.oW H hj (dP _)⟩;obtain run:=ba.cl (c.enter L fT c.fr c.A) jK cL β e 0 n k a d b ec ek dO gY aO aw;refine At.w0 (aG:=λbg=>∃ay cX,bg={s with heap:=ay,toks:=cX}/\ay.Ns L (λI=>none)/\∀b o,s.heap.get? b=C o->ay.get? b=C o)
  (nc:=λQ E bg=>ft g.M c.A (.compStart e 0 (.ref a) (.ref b) cL) (j0 g.M c.A E (C u) (λI s=>Q () s) (.ref b) L) bg) (λbg bM=>?_) λQ E la=>?_
 ·(refine fD bM λay cX J ns keep=>?_;try clear bM;subst J);have eE:Sat g (c.enter L fT c.fr c.A) {st with loc:=[]} β {s with heap:=ay,toks:=cX}:=H.enter U hj keep (dP _) ⟨_,ns,λx v e=>nomatch e⟩;have run:=run β _ _ (.refl _) eE;have self:∀(Q:aB->aN->Prop)(E:aB->aN->Prop),Q (.ref a) {s with heap:=ay,toks:=cX}->a5 g.M c.A (oD (.ref a)) Q E {s with heap:=ay,toks:=cX}:=λQ E h=>IG eE (show St.at {st with loc:=[]} n=C o from bx) aO bN h;have cb:∀{av:aZ},β.le av->∀x v,eh x st.loc=C v->∃y,sH qe x=C y/\a7 av v y:=λl x v e=>(aU (ob x v e) λy aa af=>(bh y aa (af.le l)));unfold At at run ⊢;refine G (agx _ _) ?_;generalize q:aG.cl ⟨{scope with names:=ow ab.scope.names scope.names},cells,ab.dep⟩ e 0 n k {st with loc:=[]}=aF;induction aF using MI.Out.casesOn with
  |fail n=>trivial
  |ok _ bp=>
   rw[q] at run;have Sm:∀(Q:Unit->aN->Prop)(E:aB->aN->Prop),(∀qQ,jf ab x (MI.V.r k) {bp with loc:=st.loc}=.ok () qQ->∀ao av,β.le av->Sat g c qQ av ao->Q () ao)->(∀w,jf ab x (MI.V.r k) {bp with loc:=st.loc}≠.fail w)->
     ft g.M c.A (.compStart e 0 (.ref a) (.ref b) cL) (j0 g.M c.A E (C u) (λI s=>Q () s) (.ref b) L) {s with heap:=ay,toks:=cX}:=λQ E o3 abU=>by
    refine yb (vS aq) aq (uK (run (λI ao=>j0 g.M c.A E (C u) (λI s=>Q () s) (.ref b) L (.ok .next) ao) (λe ao=>j0 g.M c.A E (C u) (λI s=>Q () s) (.ref b) L (.error e) ao) λf ao av l S I=>?_) λr ao h=>?_) self
    ·(refine aU S.loc λm J I=>mG J λmE Xo Xf f7 O8 Zr I=>?_;try clear J);obtain sP:=U.oM ek O8;obtain e8:=S.oM ek f7 jv mz (cb l);have fin:=qN (X:=λI I I I I I=>False) O sP ((V.le l).oM (L:=L) (mE:=mE) λz=>bc.oW (fr:=c.fr) (A:=c.A) H hj (dP _) (c.L,fT) (.head _) z.symm) x (v:=MI.V.r k) (y:=.ref b) ⟨b,ec,a4 l.ad aw,rfl⟩ av _ ao (.refl _) e8;unfold At at fin;show a5 g.M c.A (u (.ref b)) (λI fa=>∃m,fa.heap.Ns L m/\∀ay,qW L fa.heap ay->Q () {fa with heap:=ay}) E ao;refine cy _ _ _ _ ?_;generalize fQ:jf ab x (MI.V.r k) {bp with loc:=st.loc}=aF;induction aF using MI.Out.casesOn with
     |fail w=>exact absurd fQ (abU w)
     |ex qQ=>rw[fQ] at fin;exact fin _ _ λI I I I h=>h.elim
     |ok _ qQ=>rw[fQ] at fin;exact fin _ _ λI b0 aY eC Mh I=>bG (Mh.cx (L,mE) (.head _)) λdd e=>(bh _ ⟨_,Xo,Xf,e,O8,Zr,λI=>rfl⟩ (λay bM=>o3 qQ fQ _ aY (l.trans eC) (Sat.af5 (t:=b0.toks) ek (bc.oW H hj (dP _)) Mh bM)))
    .induction r using uD with
     |ok f=>exact h
     |error e=>exact h
   dsimp only;generalize fQ:jf ab x (MI.V.r k) {bp with loc:=st.loc}=aF;induction aF using MI.Out.casesOn with
   |fail w=>trivial
   |ok _ qQ=>exact λQ E o3=>Sm Q E (λafz h ao av l S=>by rw[fQ] at h;cases h;exact o3 () ao av l S trivial) (by refine G fQ ?_;intro w h;(injection h))
   |ex qQ=>exact λQ E o3=>Sm Q E (λafz h ao av l S=>by rw[fQ] at h;(injection h)) (by refine G fQ ?_;intro w h;(injection h))
  |ex bp=>
   rw[q] at run;intro Q E o3;refine yb (vS aq) aq (uK (run (λI ao=>j0 g.M c.A E (C u) (λI s=>Q () s) (.ref b) L (.ok .next) ao) (λe ao=>j0 g.M c.A E (C u) (λI s=>Q () s) (.ref b) L (.error e) ao) λv ao av l T=>?_) λr ao h=>?_) self
   ·(refine eH T λx J gG S=>?_;try clear T;subst J);refine aU S.loc λm hm I=>⟨m,hm,λay bM hK bb=>?_⟩;obtain e8:Sat g c {bp with loc:=st.loc} av {ao with heap:=ay}:=Sat.I4 (t:=ao.toks) ek (bc.oW H hj (dP _)) S bM jv mz (cb l);obtain lS:Told g c {bp with loc:=st.loc} av (.ref x) {ao with heap:=ay}:=by
     refine⟨x,rfl,?_,e8⟩;refine ih gG.told λcg aK a1 a2 cm c_ iL dR=>wt (dR.resolve_left λq=>q.1 trivial) λT e2 cp eM cB el gF jr oN jL=>?_;have ne:∀{x:az}{zT:cj}{aK:Array aB},ao.heap.get? x=C zT->zT.data=.fields aK->x≠L:=λaa af z=>by(refine kh hm λo au fm bx kc I=>?_;try clear hm);obtain bx:ao.heap.get? L=C o:=bx;rw[<-z,aa] at bx;(obtain J:=aT bx;clear bx;subst J);rw[af] at kc;injection kc
     exact⟨cg,aK,bM.extBut _ _ (ne a1 cm) a1,a2,cm,c_,iL,.inr (si T e2 cp eM cB el gF (bM.extBut _ _ (ne jr oN) jr) oN jL)⟩
    exact JD U lS λfa rv=>o3 _ _ av l rv.raised
   .induction r using uD with
    |ok f=>exact h
    |error e=>exact h
 .refine wpAny_newFunctionEnv lr (λx ak=>nomatch ak) (λay ei Ib=>?_) kind;exact la _ (d2 ay _ rfl ei (λb o e=>Ib.extBut b o (kr (fW e)) (f6 _ e)))
end
section
variable{c:bc}{ab:cK}{st:St}{s:aN}
theorem bH.Oz{ah:Type}{f:d8->M aQ}{W:Wp ah}{R:aZ->aQ->ah->Prop}:bH X g c β ((MI.fail n:M d8).bind f) W R:=λI I I I I=>trivial
theorem ac4(a:aQ)(f:aQ->M fb):(M.pure a).bind f=f a:=rfl
theorem V9(O:g.Ok)(ba:dW g aG)(U:c.Ok g ab.dep)(V:cc c ab env β)(e:bk)(scope:pK)(pos:cq)(gens:List uG)(gx:clauses e=gens)(vD:EN e=gens)(acc:MI.O)(kg:hC aB)(aV:xy g c acc kg)(x:aM)(u:aB->hC Unit)(cy:∀(y:aB)(Q:Unit->aN->Prop)(E:aB->aN->Prop)(s:aN),a5 g.M c.A (EL env x y) Q E s->a5 g.M c.A (u y) Q E s):
  cT g c β ((comp aG ab e gens scope acc).bind λw=>jf ab x w) (λ(Q:Unit->aN->Prop) E s=>a5 g.M c.A (Ez e scope env pos kg (EJ gens) (EO gens env) (C u)) (λ_ s=>Q () s) E s) (λ_ _ _=>True):=by
 unfold comp;induction gens using eo with
 |nil=>exact .Oz
 |cons q rest=>
  dsimp only;generalize bb:(zN scope&&eK ab.dep 400&&!isSet q.iter&&kB q.is_async 0)=aF;induction aF using bV with
  |false=>exact .Oz
  |true=>
   obtain(⟨t,iter,ifs,qu⟩):=q;obtain HS:qu=0:=aS ((yn ..).symm.trans (bC bb));subst HS;replace bb:=bS bb;simp only[ew,jl] at bb;(refine a3 bb λJ tR=>?_;try clear bb;refine a3 J λaa af=>?_;try clear J);obtain dO:ab.dep<400:=bA af;unfold zN at aa;simp only[ew,jl] at aa;(refine a3 aa λJ hY=>?_;try clear aa;refine a3 J λbU mB=>?_;try clear J;refine a3 bU λcv fL=>?_;try clear bU;refine a3 cv λbw c3=>?_;try clear cv);have kind:scope.kind=.function:=by exact Iz bw
   obtain nodup:(scope.names.map (·.1)).Nodup:=zH mB;obtain lr:∀x∈scope.names,x.2≠.cell:=λx ak e=>by obtain this:=eX.mp hY x ak;rw[e] at this;exact c8 this
   obtain aq:(clauses e)[0]? =C ⟨t,iter,ifs,0⟩:=by exact G gx rfl
   generalize lX:oS ab.cells scope.names []=aF;induction aF using b1 with
   |none=>exact λ_ _ _ _ _=>trivial
   |some cells=>
    refine aU (Nl V lX) λcl cr HI=>?_;simp only[Bo];refine bH.Rq ?_;show cT g c β ((aG.ev ab iter).bind λv=>(nq v).bind λn=>(alloc acc).bind λk=>(load n).bind λit=>(match isIt it with
     |true=>(l7 [] (aG.cl ⟨{scope with names:=ow ab.scope.names scope.names},cells,ab.dep⟩ e 0 n k)).bind λ_=>M.pure (MI.V.r k)
     |false=>fail 131).bind λw=>jf ab x w) _ _
    refine bH.of ((ba.ev c ab env β iter U V).bind (k:=λagQ=>λ(Q:Unit->aN->Prop) E bg=>a5 g.M c.A (oD agQ) (λit b0=>a5 g.M c.A kg (λacc dB=>
     a5 g.M c.A (sr scope env.globals cl [] env.qual none .none (C env)) (λhK fh=>
     ft g.M c.A (.compStart e 0 it acc {hK with scope:=l_ scope env}) (j0 g.M c.A E (C u) (λ_ s=>Q () s) acc hK.locals) fh) E dB) E b0) E bg) (cD:=λ_ _ _=>True) λav v y l r=>(y_ O U r).bind (k:=λit=>λ(Q:Unit->aN->Prop) E b0=>a5 g.M c.A kg (λacc dB=>
     a5 g.M c.A (sr scope env.globals cl [] env.qual none .none (C env)) (λhK fh=>
     ft g.M c.A (.compStart e 0 it acc {hK with scope:=l_ scope env}) (j0 g.M c.A E (C u) (λ_ s=>Q () s) acc hK.locals) fh) E dB) E b0) λd9 n it a_ l5=>?_) λQ E s k=>T8 (use:=C u) vD (ys tR env) HI kind (λx ak aX=>CY nodup (G (bW aX) ak)) k
    (refine cA l5 λb ec J aD=>?_;try clear l5;subst J);intro aW st s aa H;refine .alloc λaO=>?_;obtain aD:=a4 aa.ad aD;let qP:St:={st with σ:=st.σ.put cU st.no (ae,acc),no:=st.no+1};refine At.OL (ER:=aB) (aG:=λbg y av=>aW.le av/\Sat g c qP av bg/\∃a d,y=.ref a/\av.ad[st.no]? =C (a,d)) (nc:=λy=>λQ E dB=>a5 g.M c.A (sr scope env.globals cl [] env.qual none .none (C env)) (λhK fh=>
     ft g.M c.A (.compStart e 0 (.ref b) y {hK with scope:=l_ scope env}) (j0 g.M c.A E (C u) (λ_ s=>Q () s) y hK.locals) fh) E dB) (λbg y aY HC=>?_) λQ E la=>aV st aW s _ E H aO λao aY y a d l S e iy=>la ao y aY (fi l S (gi a d e iy)) l
    obtain(⟨eC,S,a,d,rfl,aw⟩):=HC;refine .load S λo dq NI bx fo _=>?_;have yF:=a4 eC.ad aD;rw[yF] at fo;(obtain J:=aT fo;clear fo;refine a3 (eD J) λbU cv=>?_;clear J;subst bU;subst cv);split
    .rename_i bN;have lt:=((l.trans a_).trans aa).trans eC;simp only[Bo,ac4];refine Wb O ba U dO (V.le lt) aq kind lr (cr.imp λ_ _ x=>⟨x.1,(bG x.2 λd q=>⟨d,a4 lt.ad q⟩)⟩) S yF aw bx bN x u cy
    .exact At.fail (n:=131)
noncomputable abbrev QW(x:aM)(p:cq)(env:hB):aB->hC Unit:=λy=>assignAll y ((q0 [.Name x p] env).map (·.2))
theorem abK(x:aM)(p:cq)(env:hB)(y:aB):QW x p env y=mT (.Name x p) env y:=rfl
theorem Ts(O:g.Ok)(ba:dW g aG)(U:c.Ok g ab.dep)(V:cc c ab env β){v:bk}{gens:List uG}{q:cq}{acc:MI.O}{kg:hC aB}(x:aM)(p pos:cq)(gx:clauses v=gens)(vD:EN v=gens)(aV:xy g c acc kg)
  (he:dM v env=Ez v scope env (ED gens q) kg (EJ gens) (EO gens env))(cy:∀u,evalThenUse v env u=(do let _ <-Ez v scope env (ED gens q) kg (EJ gens) (EO gens env) (C u)))
  (bM:swapsWith v (C (.Name x p)) pos.line env=pure ae\/swapsWith v (C (.Name x p)) pos.line env=pure ai)(hw:EA [.Name x p] v env=pure none):
  cT g c β ((comp aG ab v gens scope acc).bind λw=>(jf ab x w).bind λI=>M.pure dj.next) (j6 g c (i4 (.Assign [.Name x p] v pos) env)) eL:=by
 rcases bM with bM|bM
 .obtain this:=(V9 O ba U V v scope (ED gens q) gens gx vD acc kg aV x (QW x p env) (λy Q E s k=>by exact G (abK _ _ _ _) (w6 k))).bind (f:=λI=>M.pure dj.next) (k:=λI=>λ(Q:fH->aN->Prop) I s=>Q .next s) (cD:=eL) λI I I I I=>sj;simp only[Bo] at this;refine this.of λQ E s k=>G (exec_Assign_arm _ _ _) (b3 (kX (G (show swapsWithSole [.Name x p] v pos.line env=pure ae from bM) (b3 (d3 ?_)))));(refine G (if_pos rfl) (G (cy _) ?_));exact b3 (b3 (d4 k (λI s h=>d3 (d3 h)) λI I e=>e))
 .refine bH.of (((Gx O ba U V v scope (ED gens q) gens gx vD acc kg aV)).bind (k:=λy=>λ(Q:fH->aN->Prop) E bg=>a5 g.M c.A (mT (.Name x p) env y) (λI s=>Q .next s) E bg) (cD:=eL) λav w y l r=>?_) λQ E s k=>Lf (G he k) bM hw;refine bH.of ((qN O U (V.le l) x r).bind (k:=λI=>λ(Q:fH->aN->Prop) I s=>Q .next s) λI I I I I=>sj) λQ E s k=>w6 k
end
section
variable{c:bc}{ab:cK}{st:St}{s:aN}
theorem aaj{x:Option gC}(h:PL x=ae):x=C .local:=cF h λk e h=>by
 refine G e ?_;clear e;induction k using sJ with
 |«local»=>rfl
 |_=>exact c8 h
theorem aeV(V:cc c ab env β){line:Nat}{F:bk->Option aM}(HB:∀x p,F (.Name x p)=if env.kindOf x==C .local&&p.line==line then C x else none)(h:JV line ab.scope.names cp=ae):
  cp.filterMap F=cp.map nameOf:=by
 induction cp with
 |nil=>rfl
 |cons t cp bj=>refine cF (bS h) λw q hw=>?_;(refine G (l4 q) (G Ee ?_);(refine G (HB _ _) (G (V.kindOf _) ?_));refine G (aaj (bS hw)) (G (d0 (bC hw)) (G (if_pos (by(refine G (beq_self_eq_true _) (G (beq_self_eq_true _) ?_));rfl)) ?_)));exact congrArg (w.1::·) (bj (bC h))
theorem acd:∀{l:List aM},oj l=ae->l.length=2\/l.length=3->l.eraseDups.length=l.length
 |[x,y],h,_=>by
  simp only[oj,List.all_cons,List.all_nil,Lx,jl] at h;obtain this:¬x=y:=λe=>by rw[gr.mpr e] at h;exact jB h
  have:(y==x)=false:=by exact gN beq_eq_false_iff_ne (λe=>this e.symm)
  simp[List.eraseDups,List.eraseDupsBy,Tx,this]
 |[x,y,z],h,_=>by
  simp only[oj,List.all_cons,List.all_nil,Lx,jl,ew] at h;have n:∀{a b:aM},eqs a b=ai->(b==a)=false:=λ{a b} q=>by refine gN beq_eq_false_iff_ne ?_;exact λe=>by rw[gr.mpr e.symm] at q;exact jB q
  simp[List.eraseDups,List.eraseDupsBy,Tx,n h.1.1,n h.1.2,n h.2]
 |[],_,h=>by simp at h
 |[_],_,h=>by simp at h
 |_::_::_::_::_,_,h=>by simp at h
theorem XZ{line:Nat}{names:List (aM×gC)}(h:JV line names cp=ae)(h0:cp≠ []):(cp.head?.map (·.pos.line)).getD 0=firstLine cp:=by
 induction cp using eo with
 |nil=>exact absurd rfl h0
 |cons t cp=>exact cF (bS h) λw q I=>by exact G (l4 q) rfl
theorem afD(V:cc c ab env β){aK:List bk}{p dJ:cq}(h:DU ab cp aK=ae):EA [.Tuple cp k p] (.Tuple aK eF dJ) env=pure (C (cp.map nameOf)):=by
 unfold DU at h;simp only[ew,Lo,jl] at h;(refine a3 h λJ h8=>?_;try clear h;refine a3 J λbU h7=>?_;try clear J;refine a3 bU λcv eT=>?_;try clear bU;refine a3 cv λjC cQ=>?_;try clear cv;refine a3 jC λsk bl=>?_;try clear jC;refine a3 sk λsl aJ=>?_;try clear sk;refine a3 sl λaa af=>?_;try clear sl);have af:=d0 af;have aa:cp.length=2\/cp.length=3:=aa.imp d0 d0;obtain h0:cp≠ []:=λe=>by(clear af aa bl cQ;subst e);simp at aa
 obtain a9:(!(cp.length==2||cp.length==3)||aK.length !=cp.length||env.blockKind !=.function)=false:=by
  obtain this:env.blockKind=.function:=by unfold Env.blockKind;exact G V.kind rfl
  (refine G this (G af ?_));rcases aa with q|q<;>refine G q ?_<;>rfl
 obtain bf:∀F:bk->Bool,(∀e,F e=isStar e)->aK.any F=false:=λF HB=>by
  refine G (show F=isStar from funext HB) ?_;clear a9;revert aJ;generalize aK=ws;intro aJ;induction ws with
  |nil=>rfl
  |cons e r bj=>refine a3 (zF aJ) λdT cG=>?_;(refine G Et (G dT (G (bj cG) ?_)));rfl
 obtain cC:(cp.map nameOf).eraseDups.length=(cp.map nameOf).length:=acd cQ (G (gB _) aa);unfold EA;dsimp only;(refine G a9 (G (bf _ (λe=>by cases e<;>rfl)) (G (XZ bl h0) (G (aeV V (λI I=>rfl) bl) (G cC (G eT (G h7 (G (gB _) ?_))))))));simp only[bne_self_eq_false,Ly,T_,if_false]
theorem afC(O:g.Ok)(U:c.Ok g dep):∀{aK:List MI.V}{aH:List aB}{β:aZ},cc c ab env β->bL (a7 β) aK aH->
  bH fY g c β (p5 ab cp aK) (λQ E s=>a5 g.M c.A (xm (cp.map λt=>bindName env (nameOf t)) aH) Q E s) Bb:=by
 induction cp with
 |nil=>
  intro aK aH β V R;cases R with
  |nil=>exact(bH.pure (a:=()) λI I=>trivial).of λQ E s k=>d3 k
  |cons _ _=>exact .fail
 |cons t cp bj=>
  intro aK aH β V R;cases R with
  |nil=>exact .fail
  |cons r rs=>exact .asks λw q=>G (l4 q) (bH.of ((qN O U V w.1 r).bind λav I I l I=>bj (V.le l) (rs.imp λI I x=>x.le l)) λQ E s k=>b3 (iI (d4 (wpAny_bindName k) (λI I x=>x) λI I x=>x)))
theorem agN(ba:dW g aG)(U:c.Ok g ab.dep)(O:g.Ok)(V:cc c ab env β)(cp aK:List bk)(k eF:Nat)(p dJ pos:cq):cT g c β (FK aG ab cp aK eF dJ) (j6 g c (i4 (.Assign [.Tuple cp k p] (.Tuple aK eF dJ) pos) env)) eL:=by
 unfold FK;split
 .rename_i bM;obtain ZR:=afD (k:=k) (eF:=eF) (p:=p) (dJ:=dJ) V bM;unfold DU at bM;simp only[ew,Lo,jl] at bM;(refine a3 bM λJ h8=>?_;try clear bM;refine a3 J λbU _=>?_;try clear J;refine a3 bU λcv _=>?_;try clear bU;refine a3 cv λjC _=>?_;try clear cv;refine a3 jC λsk bl=>?_;try clear jC;refine a3 sk λsl _=>?_;try clear sk;refine a3 sl λ_ _=>?_;try clear sl);have dO:ab.dep<400:=bA h8;refine bH.of ((ba.ev c ab env β (.Tuple aK eF dJ) U V).bind (k:=λy=>λ(Q:fH->aN->Prop) E bg=>a5 g.M c.A (unpackItems y (cp.map nameOf).length none) (λitems b0=>
   a5 g.M c.A (xm ((cp.map nameOf).reverse.map λn=>bindName env n) items.reverse) (λ_=>Q .next) E b0) E bg) (cD:=eL) λav v y l r=>?_) λQ E s k=>PyProof.Rows.Assign_Tuple_swapped k rfl ZR
  unfold Sr;split
  .rename_i n;intro aW st s aa H;obtain r:=r.le aa;(refine cA r λa1 eZ gH J=>?_;try clear r;(clear r;subst J));refine G (Bo _ _ _) (.oh H gH λo R=>?_);induction o using MI.O.casesOn with
   |tup xs=>
    obtain(⟨_,us,q,g1,g2⟩):=R;dsimp only;split
    .rename_i bb;have rM:=d0 bb;have cC:xs.length=us.size:=by obtain this:=g2.length;simpa using this
     obtain rev:bL (a7 aW) xs.reverse us.toList.reverse:=g2.reverse;have key:∀ay,lN s.heap.objs.size s.heap ay->At fY g c aW st {s with heap:=ay} ((p5 ab cp.reverse xs.reverse).bind λ_=>M.pure dj.next) (λQ E s=>a5 g.M c.A (xm ((cp.map nameOf).reverse.map λn=>bindName env n) us.toList.reverse) (λ_=>Q Flow.next) E s) eL:=λay he=>
      ((afC O U (V.le (l.trans aa)) rev aW st {s with heap:=ay} (.refl _) (H.grow (t:=s.toks) λb o e=>he b o (kr (fW e)) e)).bind (k:=λ_=>λ(Q:fH->aN->Prop) _ s=>Q .next s) λd9 _ _ bp ao _ _ S=>sj _ _ _ (.refl _) S).of λQ E k=>by(refine G (bW List.map_reverse) (G List.map_map ?_));exact d4 k (λ_ _ x=>x) λ_ _ x=>x
     unfold At at key ⊢;generalize w:((p5 ab cp.reverse xs.reverse).bind λ_=>M.pure dj.next) st=aF;induction aF using MI.Out.casesOn with
     |fail n=>trivial
     |ok v bp=>rw[w] at key;dsimp only at key ⊢;intro Q E aq;(refine G (gB _) (G rM (G cC ?_)));exact Tu (U.calm dO) ⟨_,g1,rfl,q,rfl⟩ λay he=>key ay he Q E aq
     |ex bp=>rw[w] at key;dsimp only at key ⊢;intro Q E aq;(refine G (gB _) (G rM (G cC ?_)));exact Tu (U.calm dO) ⟨_,g1,rfl,q,rfl⟩ λay he=>key ay he Q E aq
    .exact .fail
   |_=>exact .fail
  .exact .fail
 .exact .fail
end
noncomputable def bc.held(c:bc)(e:az):bc:=⟨c.P,c.cx,c.fr,c.L,c.A.mark (C (.ref e))⟩
section
variable{c:bc}{ab:cK}{st:St}{s:aN}{e:az}{v:aB}
theorem bc.Ok.held(U:c.Ok g dep)(h:dep<302):(c.held e).Ok g (dep+500):=by obtain hd:=U.depth;obtain cy:=U.units;exact⟨U.base,U.frames,U.here,U.hd,U.iX,(show c.A.depth<=_ by lia),(show c.A.units<=_ by lia),λh=>by lia,by lia⟩
theorem Told.held(T:Told g c st β v s):Told g (c.held e) st β v s:=by(refine eH T λcf J gG S=>?_;try clear T;subst J);exact⟨cf,rfl,⟨gG.told⟩,⟨⟨S.keep,S.cx,S.objs.imp λI F=>F.BC rfl λI x=>x,S.len,S.facts,S.ghost⟩,S.os,S.loc⟩⟩
theorem Told.af6(T:Told g (c.held e) st β v s):Told g c st β v s:=by(refine eH T λcf J gG S=>?_;try clear T;subst J);exact⟨cf,rfl,⟨gG.told⟩,⟨⟨S.keep,S.cx,S.objs.imp λI F=>F.BC rfl λI x=>x,S.len,S.facts,S.ghost⟩,S.os,S.loc⟩⟩
theorem cc.other{bI:bc}{jK:cK}(V:cc c ab env β)(h:bI.L=c.L)(hr:bI.cx=c.cx)(ay:bI.fr=c.fr)(aa:jK.scope=ab.scope)(af:jK.cells=ab.cells):cc bI jK env β:=
 ⟨by exact G aa V.scope,V.kind,V.glob,V.blt,by exact G h V.loc,by exact G af V.cells,by exact G ay V.frame,by unfold bc.Apart;(refine G hr (G h ?_));exact V.apart⟩
theorem Told.run(U:c.Ok g dep)(dO:dep<302){ah:Type}{m:M aQ}{W:oC->Wp ah}{R:aZ->aQ->ah->Prop}{a:aQ}(T:Told g c st β v s)
  (hm:∀bI:bc,bI.Ok g (dep+500)->bI.L=c.L->bI.cx=c.cx->bI.fr=c.fr->bI.A=c.A.mark (C v)->bH fY g bI β m (W bI.A) R)(e:m st=.ok a bp)
  {Q:ah->aN->Prop}(aq:∀x ao av,β.le av->Told g c bp av v ao->R av a x->Q x ao):W (c.A.mark (C v)) Q E s:=by
 (refine eH T λdq J gG S=>?_;try clear T;subst J);refine ih gG.told λcg aK he bb hd kE h0 yy=>wt (yy.resolve_left λq=>q.1 trivial) λT e2 cp eM g1 iO kD e0 iz aJ=>?_;have re:¬ip cg:=by refine aU gG.record λdp bZ c5=>?_;rw[he] at bZ;(obtain J:=aT bZ;clear bZ;subst J);exact c5
 have pn:=zI iz aJ;obtain ek:=U.fix (e:=dq) (T:=T) S dO kE kD he e0 hd iz;obtain fin:=hm (c.fix dq T cg e2) ek rfl rfl rfl rfl β st s (.refl _) (S.fix U kE kD he e0 re pn iO);unfold At at fin;rw[e] at fin;exact fin Q E λx jg d9 a_ eE fv=>fO (eE.SV kE kD re pn iO) λFj lV Kb=>aq x jg d9 a_ ⟨dq,rfl,⟨cg,aK,lV,bb,hd,kE,h0,.inr (si T e2 cp eM g1 iO kD Kb iz aJ)⟩,Fj⟩ fv
theorem afT(O:g.Ok)(ba:dW g aG)(U:c.Ok g ab.dep)(V:cc c ab env β)(body:List eQ)(x:aM)(p:cq)(x8:eQ)(aD:List eQ)(b7 pos:cq):
  cT g c β (Kd aG g.K ab body x (x8::aD)) (j6 g c (i4 (.Try body [.ExceptHandler (C (.Name x p)) none (x8::aD) b7] [] [] pos) env)) eL:=by
 intro aW st s aa H;have V:=V.le aa;have run:=ba.xs c ab env aW body U V aW st s (.refl _) H;unfold At at run ⊢;unfold Kd;generalize q:aG.xs ab body st=aF;induction aF using MI.Out.casesOn with
 |fail n=>trivial
 |ok f bp=>
  rw[q] at run;dsimp only at run ⊢;intro Q E aq;refine wpAny_Try_except (run _ _ λeM bg av l S fv=>?_);induction eM using w_ with
  |next=>exact qT (aq _ bg av l S fv)
  |_=>exact aq _ bg av l S fv
 |ex bp=>
  rw[q] at run;dsimp only at run ⊢;unfold handled;generalize YV:eK ab.dep 302=aF;induction aF using bV with
  |false=>trivial
  |true=>
   have dO:ab.dep<302:=bA YV;dsimp only;generalize aO:(ng g.K {ab with dep:=ab.dep+500} x bp)=aF;induction aF using MI.Out.casesOn with
   |fail n=>trivial
   |ex qP=>trivial
   |ok v qP=>
    induction v using MI.V.casesOn with
    |c v=>
     induction v using lJ with
     |ref a=>
      dsimp only;generalize aV:cw a 128=aF;induction aF using bV with
      |false=>trivial
      |true=>
       generalize ak:exmOne g.K (.ref 128) (.ref 128)=aF;induction aF using b1 with
       |none=>trivial
       |some b=>
        induction b using bV with
        |false=>trivial
        |true=>
         dsimp only;obtain rfl:=d0 aV;generalize cb:(aG.xs {ab with dep:=ab.dep+500} (x8::aD) qP)=aF;induction aF using MI.Out.casesOn with
         |fail n=>trivial
         |ex qP=>trivial
         |ok f qM=>
          dsimp only;intro Q E aq;refine wpAny_Try_except (run _ _ λe bg av l R=>zJ U V.frame R λb0 lS=>vt U lS λdB rv=>?_);have Mk:=rv;(refine aU Mk λcf J I=>?_;try clear Mk;(clear lS R;subst J));refine wpAny_handleBy_cons (codeAny_handlers_test (prog:=g.prog) (w:=g.w) ?_) (by intro q;(injection q));refine Told.run (W:=λA Q E s=>a5 g.M A (dM (.Name x p) env) Q E s) U dO rv (λbI ek a9 iM bf cC=>tm (ab:={ab with dep:=ab.dep+500}) O ek ((V.le l).other a9 iM bf rfl rfl) x p) aO λy fh aY eC m_ r=>?_;obtain rfl:=r;have Ml:=m_;(refine eH Ml λI G2 gG S=>?_;try clear Ml);cases G2;refine fD gG.told λcg aK he bb I=>?_;have LT:Looks g.M fh.heap (typeOf (.ref cf)) (.ref 128):=by exact G (bW bb) ((Looks.ld (part:=none) he).andThen .now)
          refine(exm_one (S.toSatO.fl U O) LT ak).here ?_;simp only[if_true];have sP:=U.held (e:=cf) dO;refine codeAny_handlers_suite (vt (c:=c.held cf) sP m_.held λjg UZ=>Told.run (W:=λA Q E s=>a5 g.M A (cH (x8::aD) env) Q E s) U dO UZ.af6 (λbI ek a9 iM bf cC=>ba.xs bI {ab with dep:=ab.dep+500} env aY (x8::aD) ek ((V.le (l.trans eC)).other a9 iM bf rfl rfl)) cb λy sd h2 hZ A_ r=>?_);(refine eH A_ λI I I UT=>?_;try clear A_);exact aq _ sd h2 ((l.trans eC).trans hZ) UT r
     |_=>trivial
    |_=>trivial
end
noncomputable def cz.n0(g:cz):Prop:=sI g.K (.ref 128)=ae/\∀(A:oC)(env:hB)(s:aN)(y:aB)(l:bB)(t:Tok)(Q:fH->aN->Prop)(E:aB->aN->Prop),A.handled=none->A.depth<=900->A.units<=4000->g.K.In s.heap->sG g.p g.loose g.iS g.iR s.heap->
 (∀ay cX e cg aK iL,(∀b o,s.heap.get? b=C o->ay.get? b=C o)->s.heap.objs.size<=e->ay.get? e=C cg->cg.cls=.ref 128->cg.data=.fields aK->aK[0]? =C iL->aK[1]? =C .none->E (.ref e) {s with heap:=ay,toks:=cX})->
 a5 g.M A (gc (.ref 128) [y,.str (aR l) t]) (λv bg=>a5 g.M A (nM env (C (pure v)) none) Q E bg) E s
section
variable{c:bc}{ab:cK}{st:St}{s:aN}
theorem adQ(x:hC aB):nM env (C x) none=x>>=λv=>nM env (C (pure v)) none:=by unfold nM;simp only[pure_bind]
theorem Su{m:hC Bool}(h:∃b,m=pure b):m=pure ae\/m=pure false:=by
 (refine bG h λb J=>?_;try clear h;subst J);cases b
 .exact .inr rfl
 .exact .inl rfl
theorem At.raise{ah:Type}{W:Wp ah}{R:aZ->aQ->ah->Prop}(h:∀(Q:ah->aN->Prop)(E:aB->aN->Prop),(∀e ao av,β.le av->X g c st av e ao->E e ao)->W Q E s):At X g c β st s (MI.raise:M aQ) W R:=h
theorem adN(O:g.Ok)(hN:g.n0)(ba:dW g aG)(U:c.Ok g ab.dep)(V:cc c ab env β)(rE:cq){a b:bk}(af:mD [a,b]=ae)(dO:ab.dep<280):cT g c β ((aG.ev ab a).bind λI=>(aG.ev ab b).bind λv=>(bq 167 v.cn).bind λI=>raise)
  (λ(Q:fH->aN->Prop) E bg=>a5 g.M c.A (sD rE (.ref 128) [] (mQ rE (lG [a,b] env)) []) (λv s=>a5 g.M c.A (nM env (C (pure v)) none) Q E s) E bg) eL:=
 have r_:=zF af;have JW:=(zF r_.2).1
 ((ba.ev c ab env β a U V).bind (k:=λy=>λ(Q:fH->aN->Prop) E bg=>a5 g.M c.A (dM b env) (λz b0=>g.K.In b0.heap/\a5 g.M c.A (gc (.ref 128) [y,z]) (λv s=>a5 g.M c.A (nM env (C (pure v)) none) Q E s) E b0) E bg) (cD:=eL) λd9 v y a_ r=>
  (ba.ev c ab env d9 b U (V.le a_)).bind (k:=λz=>λ(Q:fH->aN->Prop) E b0=>g.K.In b0.heap/\a5 g.M c.A (gc (.ref 128) [y,z]) (λv s=>a5 g.M c.A (nM env (C (pure v)) none) Q E s) E b0) λh2 w z hZ aeT=>λaW st s hle H=>
   .cn (W:=λz=>λQ E b0=>g.K.In b0.heap/\a5 g.M c.A (gc (.ref 128) [y,z]) (λv s=>a5 g.M c.A (nM env (C (pure v)) none) Q E s) E b0) (aeT.le hle) λe C1 tz a8=>.raise λQ E aq=>⟨H.toSatO.fl U O,hN.2 c.A env s y C1 tz Q E (U.calm (bR (by assumption) (bA rfl))) (by obtain this:=U.depth;lia) (by obtain this:=U.units;lia) (H.toSatO.fl U O) (H.toSatO.top U O) λay cX e cg aK iL keep fresh he lX Y7 ZT ZU=>
    aq _ _ aW (.refl _) ⟨e,rfl,⟨cg,aK,he,lX,Y7,(match q:c.P e with|none=>rfl|some o=>absurd (fW (H.keep e o q)) (i6.mpr fresh)),⟨iL,ZT⟩,.inl ⟨id,ZU⟩⟩,H.grow keep⟩⟩).of λQ E s k=>
  AN (P:=λh=>g.K.In h) (G (nx af) rfl) (λh X=>keeps_K hN.1 h X) (n7 af (kS (d4 k (λy bg dr=>kS (d4 dr (λz b0 fz=>nN fz) λI I e=>e) (nD JW _)) λI I e=>e) (nD r_.1 _)))
theorem agL(O:g.Ok)(hN:g.n0)(ba:dW g aG)(U:c.Ok g ab.dep)(V:cc c ab env β)(x:aM)(p rE pos:cq)(a b:bk):cT g c β (JP aG g.K ab x a b) (j6 g c (i4 (.Raise (C (.Call (.Name x p) [a,b] [] rE)) none pos) env)) eL:=λdQ st s h0 H=>.guard λbb=>
 have af:=(ew _ _).mp bb;have V:=V.le h0
 ((tm (X:=fY) O U V x p).bind (f:=λf=>(bq 168 f.aj).bind λf=>(guard 166 (isRef 128 f)).bind λI=>(aG.ev ab a).bind λI=>(aG.ev ab b).bind λv=>(bq 167 v.cn).bind λI=>raise)
  (k:=λf=>λ(Q:fH->aN->Prop) E bg=>a5 g.M c.A (sD rE f [] (mQ rE (lG [a,b] env)) []) (λv s=>a5 g.M c.A (nM env (C (pure v)) none) Q E s) E bg) (cD:=eL)
  λav w y l r=>.asks λHq q=>λaW st s aa H=>.guard λgx=>by cases yg q;cases CI gx;cases(show y=.ref 128 from r);exact adN O hN ba U (V.le (l.trans aa)) rE af.2 (bA af.1) aW st s (.refl _) H).of (λQ E s k=>by refine G (arm_exec_Raise _ _ _ _) (b3 (kX ?_));show a5 g.M c.A (nM env (C (do let v <-dM (.Call (.Name x p) [a,b] [] rE) env;uO pos;pure v)) none) Q E s;(refine G (adQ _) (G ((oR (λI I I h=>by(injection h))) _ _) ?_));exact b3 (b3 (b3 (d4 k (λf bg h=>d4 h (λv b0 h=>b3 (kX (d3 h))) λI I e=>e) λI I e=>e)))) dQ st s (.refl _) H
theorem YR{h:Ey}{w:aM×cq×eQ×List eQ×cq}(q:O6 h=C w)(k:h=.ExceptHandler (C (.Name w.1 w.2.1)) none (w.2.2.1::w.2.2.2.1) w.2.2.2.2->P):P:=by
 cases h with
 |ExceptHandler ty nm b p=>
  induction nm using b1 with
  |some=>exact bK q
  |none=>
   induction b using eo with
   |nil=>exact bK q
   |cons b aD=>exact cu q λe a1 q=>cu q λx a2 q=>by(obtain J:=aT q;clear q;(clear q;subst J));exact k (G a1 (G (l4 a2) rfl))
theorem Vk(O:g.Ok)(ba:dW g aG)(U:c.Ok g ab.dep)(V:cc c ab env β)(t v:bk)(p:cq):cT g c β (asg aG g.K ab t v) (j6 g c (i4 (.Assign [t] v p) env)) eL:=by
 cases v with
 |ListComp=>exact .asks λx h=>by exact G (l4 h) (Ts O ba U V _ _ _ rfl rfl (Mr O U) rfl (λI=>rfl) (Su ⟨_,rfl⟩) rfl)
 |DictComp=>exact .asks λx h=>by exact G (l4 h) (Ts O ba U V _ _ _ rfl rfl (Mq O U) rfl (λI=>rfl) (Su ⟨_,rfl⟩) rfl)
 |Tuple aK eF dJ=>
  show cT g c β (match DW t with|some w=>_|none=>_) _ _;generalize q:DW t=aF;induction aF using b1 with
  |some w=>exact G (afV q) (agN ba U O V _ _ _ _ _ _ _)
  |none=>exact Tr O ba U V _ _ _
 |_=>exact Tr O ba U V _ _ _
theorem adP(O:g.Ok)(hN:g.n0)(ba:dW g aG)(U:c.Ok g ab.dep)(V:cc c ab env β)(e:Option bk)(p:cq){w}(h:RV e=C w):cT g c β (JP aG g.K ab w.1 w.2.2.1 w.2.2.2.1) (j6 g c (i4 (.Raise e none p) env)) eL:=
 cu h λe a1 h=>cu h λq a2 h=>cu h λf cm h=>cu h λas c_ h=>cu h λI dR h=>by(obtain J:=aT h;clear h;(clear h;subst J));(refine G a1 (G (M3 a2) (G (l4 cm) (G (um c_) (G (lq dR) ?_)))));exact agL O hN ba U V _ _ _ _ _ _
theorem afS(O:g.Ok)(ba:dW g aG)(U:c.Ok g ab.dep)(V:cc c ab env β)(b:List eQ)(bM:List Ey)(fin:List eQ)(p:cq):cT g c β (SH aG g.K ab b bM fin) (j6 g c (i4 (.Try b bM [] fin p) env)) eL:=
 match fin with
 |f::dH=>.asks λI h=>by exact G (lq h) (afU O ba U V _ _ _ _)
 |[]=>.asks λI aa=>.asks λw af=>by refine G (lu aa) ?_;exact YR af λe=>by exact G e (afT O ba U V _ _ _ _ _ _ _)
theorem agB(O:g.Ok)(hN:g.n0)(ba:dW g aG)(U:c.Ok g ab.dep)(V:cc c ab env β)(s:eQ):cT g c β (dw aG g.K ab s) (j6 g c (i4 s env)) eL:=by
 cases s with
 |Expr e pos=>
  show cT g c β (match vR e with|true=>_|false=>_) _ _;generalize q:vR e=aF;induction aF using bV with
  |true=>exact .fail
  |false=>exact agI ba U V e pos q
 |Pass=>exact sj.of λQ E s k=>wpAny_Pass k
 |Break=>exact(bH.pure (v:=dj.brk) (a:=Flow.brk) (R:=eL) λI I=>rfl).of λQ E s k=>wpAny_Break k
 |Continue=>exact(bH.pure (v:=dj.cont) (a:=Flow.cont) (R:=eL) λI I=>rfl).of λQ E s k=>wpAny_Continue k
 |Return o=>
  induction o using b1 with
  |none=>exact(bH.pure (v:=dj.ret nH) (a:=Flow.ret .none) (R:=eL) λI I=>⟨_,rfl,rfl⟩).of λQ E s k=>wpAny_Return_none k
  |some=>exact agM ba U V _ _
 |Assign cp v p=>exact .asks λt h=>by exact G (lu h) (Vk O ba U V t v p)
 |AugAssign=>exact agH O ba U V _ _ _ _
 |If=>exact agK ba U V _ _ _ _
 |While=>exact .asks λI h=>by exact G (lq h) (agO ba U V _ _ _)
 |For=>exact .asks λI h=>by exact G (lq h) (agJ O ba U V _ _ _ _)
 |Raise e k p=>
  induction k using b1 with
  |none=>exact .asks λw h=>adP O hN ba U V e p h
  |some=>exact .fail
 |Try=>exact .asks λI h=>by exact G (lq h) (afS O ba U V _ _ _ _)
 |_=>exact .fail
theorem agP(O:g.Ok)(hN:g.n0)(ba:dW g aG)(U:c.Ok g ab.dep)(V:cc c ab env β)(b:List eQ):cT g c β (Tt aG g.K ab b) (dX g c (cH b env)) eL:=by
 induction b using eo with
 |nil=>exact sj.of λQ E s k=>qT k
 |cons s r=>
  refine bH.of ((agB O hN ba U V s).bind (k:=λf=>λ(Q:fH->aN->Prop) E ao=>match f with|.next=>a5 g.M c.A (cH r env) Q E ao|f=>Q f ao) (cD:=eL) λav eM f l fv=>?_) λQ E s k=>jm k;induction eM using MI.dj.casesOn with
  |next=>obtain rfl:=fv;exact ba.xs c ab env av r U (V.le l)
  |brk=>obtain rfl:=fv;exact bH.pure (R:=eL) λI I=>rfl
  |cont=>obtain rfl:=fv;exact bH.pure (R:=eL) λI I=>rfl
  |ret v=>(refine aU fv λy J r=>?_;try clear fv;subst J);exact bH.pure (R:=eL) λI a_=>⟨y,rfl,r.le a_⟩
end
noncomputable def fu(g:cz)(H:gW):Prop:=∀(c:bc)(dep:Nat)(β:aZ)(f:az)(aK:List V)(aH:List aB),c.Ok g dep->bL (a7 β) aK aH->
 cT g c β (λst=>match H dep (.c (.ref f)) aK st with|some o=>o|none=>.fail 0) (jG g c (.ref f) aH) a7
theorem At.same{c:bc}{ah:Type}{m jP:M aQ}{W:Wp ah}{R:aZ->aQ->ah->Prop}{st:St}{s:aN}(h:At X g c β st s m W R)(e:jP st=m st):At X g c β st s jP W R:=by unfold At at h ⊢;exact G e h
variable{H:gW}
section
theorem afu(O:g.Ok)(kF:g.Lay)(hN:g.n0)(f9:fu g H)(ba:dW g aG):dW g (step g.K H aG) where
 ev:=λc ab env β e U V=>Xq O kF ba U V e
 eO:=λc ab env β e U V=>afO O ba U V e
 ca:=λc dep β f aK D0 U R aW st s aa S=>by
  obtain aw:=f9 c dep β f aK D0 U R aW st s aa S;obtain aj:=M8 (f:=f) O ba U R aW st s aa S;generalize q:H dep (.c (.ref f)) aK st=aF;induction aF using b1 with
  |none=>exact At.same aj (by show(match H dep (.c (.ref f)) aK st with|some o=>o|none=>gp aG g.K dep (.c (.ref f)) aK st)=_;exact G q rfl)
  |some o=>exact At.same aw (by show(match H dep (.c (.ref f)) aK st with|some o=>o|none=>gp aG g.K dep (.c (.ref f)) aK st)=_;exact G q rfl)
 xs:=λc ab env β b U V=>agP O hN ba U V b
 kC:=λc ab env β t n b a d U dO V aO=>X4 O ba U dO V t b aO
 dK:=λc ab env β t b U V=>agt ba U V t b
 cl:=λc ab env β e k n acc a d ef fK U dO V aO aV=>V4 O ba U dO V e k aO aV
theorem o5(O:g.Ok)(kF:g.Lay)(hN:g.n0)(f9:fu g H):∀n,dW g (er g.K H n)
 |0=>⟨λI I I I I I I=>.fail,λI I I I I I I=>.fail,λI I I I I I I I=>.fail,λI I I I I I I=>.fail,λI I I I I I I I I I I I I=>.fail,λI I I I I I I I=>.fail,λI I I I I I I I I I I I I I I I I=>.fail⟩
 |n+1=>afu O kF hN f9 (o5 O kF hN f9 n)
end
theorem omap{x:Option aQ}{f:aQ->fb}{b:fb}(h:x.map f=C b)(k:∀a,x=C a->f a=b->a6):a6:=by
 induction x using b1 with
 |none=>exact bK h
 |some a=>exact k a rfl (c0 h)
theorem Jx{a b:Int}(h:(!ltI a b)=ae):b<=a:=by rw[jl,QF,decide_eq_false_iff_not] at h;exact AL.mp h
theorem p4{f:aQ->fb->Bool}{l:List aQ}{m:List fb}(h:p3 f l m=ae):bL (λa b=>f a b=ae) l m:=by
 induction l generalizing m with
 |nil=>
  induction m using eo with
  |nil=>exact .nil
  |cons _ _=>exact c8 h
 |cons _ _ bj=>
  induction m using eo with
  |nil=>exact c8 h
  |cons _ _=>exact .cons (bS h) (bj (bC h))
theorem bL.comp{bY:Type}{R:aQ->fb->Prop}{hV:fb->bY->Prop}{Mg:aQ->bY->Prop}{l:List aQ}{m:List fb}(h:bL R l m):∀{n:List bY},bL hV m n->(∀a b c,R a b->hV b c->Mg a c)->bL Mg l n:=by
 induction h with
 |nil=>intro n h k;cases h;exact .nil
 |cons x _ bj=>intro n h k;cases h with|cons y h=>exact .cons (k _ _ _ x y) (bj h k)
structure e7(ah:cW)(av β:aZ):Prop where
 ad:∀i p,av.ad[i]? =C p->∃n,cI ah.ad i=C n/\β.ad[n]? =C p
 aE:∀v z,av.aE[v]? =C z->∃e,cI ah.aE v=C e/\e.val β=C z
 aj:∀k c,av.aj[k]? =C c->∃e,cI ah.aj k=C e/\ag.val β e=C [c]
 cn:∀k l,av.cn[k]? =C l->∃e,cI ah.cn k=C e/\ag.val β e=C l
 Qd:∀i n,cI ah.ad i=C n->∃p,av.ad[i]? =C p
 Qu:∀i n,cI ah.aE i=C n->∃p,av.aE[i]? =C p
 Qg:∀i n,cI ah.aj i=C n->∃p,av.aj[i]? =C p
 QD:∀i n,cI ah.cn i=C n->∃p,av.cn[i]? =C p
variable{ah:cW}
section
theorem e7.i(T:e7 ah av β){v:Nat}{e:bo}(h:cI ah.aE v=C e):∃z,av.aE[v]? =C z/\e.val β=C z:=bG (T.Qu _ _ h) λz a8=>aU (T.aE _ _ a8) λcf ay q=>(bh z a8 (c0 (h.symm.trans ay)▸q))
theorem e7.c(T:e7 ah av β){e:ag}(h:cI ah.aj k=C e):∃c,av.aj[k]? =C c/\ag.val β e=C [c]:=bG (T.Qg _ _ h) λz a8=>aU (T.aj _ _ a8) λcf ay q=>(bh z a8 (c0 (h.symm.trans ay)▸q))
theorem e7.s(T:e7 ah av β){e:ag}(h:cI ah.cn k=C e):∃l,av.cn[k]? =C l/\ag.val β e=C l:=bG (T.QD _ _ h) λz a8=>aU (T.cn _ _ a8) λcf ay q=>(bh z a8 (c0 (h.symm.trans ay)▸q))
theorem e7.a(T:e7 ah av β){m:Nat}(h:cI ah.ad n=C m):∃p,av.ad[n]? =C p/\β.ad[m]? =C p:=bG (T.Qd _ _ h) λz a8=>aU (T.ad _ _ a8) λcf ay q=>(bh z a8 (c0 (h.symm.trans ay)▸q))
theorem rx{c:Int}{neg:Bool}{v:Nat}(h:β.aE[v]? =C z):(bo.aL c neg v).val β=C (match neg with|false=>c+z|true=>c-z):=by unfold bo.val;dsimp only;exact G h rfl
theorem bo.mK(T:e7 ah av β){e cf:bo}(h:e.eO ah=C cf):∃z,e.val av=C z/\cf.val β=C z:=by
 induction e using MI.bo.casesOn with
 |lit c=>(obtain J:=aT h;clear h;subst J);exact(bh c rfl rfl)
 |aL c neg v=>
  exact cu h λx ak h=>by
   refine aU (T.i ak) λz a8 q=>?_;induction neg using bV with
   |false=>exact(bh _ (rx a8) (bo.Bf h rfl q))
   |true=>exact(bh _ (rx a8) (bo.J9 h rfl q))
theorem WM{e:bo}(h:e.val β=C z):ag.val β (GK e)=C (eR z):=by
 unfold GK;generalize q:(litOf e).bind nat?=aF;induction aF using b1 with
 |none=>exact ag.eP.mpr (d2 _ [] (congrArg _ h:(e.val β).map eR=_) rfl ((lM _).symm))
 |some n=>
  exact cu q λx a1 a2=>by rw[tZ a1,we a2] at h;(obtain J:=aT h;clear h;subst J);exact congrArg C (lM _)
theorem c1.mK(T:e7 ah av β){p:c1}{e:ag}(h:c1.eO ah p=C e):∃l,p.val av=C l/\ag.val β e=C l:=by
 induction p using MI.c1.casesOn with
 |lit m=>(obtain J:=aT h;clear h;subst J);exact(bh m rfl (congrArg C (lM _)))
 |dec x=>
  exact omap h λy bT e=>by exact aU (bo.mK T bT) λz aa af=>(bh (eR z) (congrArg (uL eR) aa:_) (e▸WM af))
 |chr k=>exact aU (T.c h) λc aa af=>(bh [c] (congrArg (uL λc=>[c]) aa) af)
 |any k=>exact T.s h
theorem ag.mK(T:e7 ah av β):∀{p:ag}{e:ag},ag.eO ah p=C e->∃l,ag.val av p=C l/\ag.val β e=C l:=by
 intro p;induction p with
 |nil=>intro e h;(obtain J:=aT h;clear h;subst J);exact(bh [] rfl rfl)
 |cons p r bj=>
  exact λh=>cu h λa aV h=>omap h λb aD e=>by exact aU (c1.mK T aV) λx ak q=>aU (bj aD) λy bT en=>(bh _ (ag.eP.mpr (d2 x y ak bT rfl)) (e▸ag.Gi q en))
theorem ag.afQ(T:e7 ah av β){p:ag}{e:ag}{l:bB}(h:ag.eO ah p=C e)(q:ag.val av p=C l):ag.val β e=C l:=aU (ag.mK T h) λm aa af=>af.trans (aa.symm.trans q)
theorem V.Ad(T:e7 ah av β){v gA:V}(h:v.eO ah=C gA):a7 av v y↔a7 β gA y:=by
 induction v using MI.V.casesOn with
 |u=>(obtain J:=aT h;clear h;subst J);exact Iff.rfl
 |c x=>(obtain J:=aT h;clear h;subst J);exact Iff.rfl
 |i e=>
  exact omap h λcf he q=>by exact aU (bo.mK T he) λz aa af=>q▸Iff.of_eq (congrArg (λo:Option Int=>∃z t,o=C z/\y=EG z t) (aa.trans af.symm))
 |s e=>
  exact omap h λcf he q=>by exact aU (ag.mK T he) λz aa af=>q▸Iff.of_eq (congrArg (λo:Option bB=>∃l t,o=C l/\y=EF (aR l) t) (aa.trans af.symm))
 |r n=>
  exact omap h λcf he q=>by exact aU (T.a he) λz aa af=>q▸Iff.of_eq (congrArg (λo:Option (az×az)=>∃a d,o=C (a,d)/\y=lF a) (aa.trans af.symm))
theorem y7{x:Option Bool}(h:tX x=ae):x=C true:=by
 induction x using b1 with
 |none=>exact c8 h
 |some b=>exact congrArg C h
theorem MW{v:aB}{a:Bool}(h:Gf v=C a):v=.bool a:=by
 induction v using lJ with
 |bool b=>exact congrArg _ (c0 h)
 |_=>exact gy h
theorem VA{a:Bool}(h:bo.x5 a b=ae):a=b:=by cases a<;>cases b<;>first|rfl|exact c8 h
theorem Xi{a b:aB}(h:Oc a b=ae):a=b:=by
 rcases K1.mp h with h|h
 .rcases K1.mp h with h|h
  .exact(CH (bS h)).trans (CH (bC h)).symm
  .exact cF h λx ak q=>(RY ak).trans (CI q).symm
 .exact cF h λx ak q=>cF q λy bT q=>(MW ak).trans (VA q▸(MW bT).symm)
variable{ar:List b6}
theorem ue{v:V}{e:Nat}(h:v.dv=C e):v=.r e:=by
 induction v using MI.V.casesOn with
 |r n=>exact congrArg _ (c0 h)
 |_=>exact gy h
theorem Xn(F:Facts S ar aC ns β){a b:V}(h:Of ar aC a b=ae){x:aB}(ak:a7 β a x)(bT:a7 β b y):a7 β a y:=by
 induction a using MI.V.casesOn with
 |c a=>exact cF h λdF e q=>by rw[yg e,<-Xi q] at bT;exact bT
 |i a=>
  exact cF h λdF e q=>by rw[qw e] at bT;(refine cA ak λz t a8 I=>?_;try clear ak);(refine cA bT λgU dC g5 cf=>?_;try clear bT);exact⟨z,dC,a8,aS (bo.k4 F (y7 q) a8 g5).symm▸cf⟩
 |s a=>
  exact cF h λdF e q=>by rw[z_ e] at bT;(refine cA ak λz t a8 I=>?_;try clear ak);(refine cA bT λgU dC g5 cf=>?_;try clear bT);exact⟨z,dC,a8,aS (ag.k4 F (y7 q) a8 g5).symm▸cf⟩
 |r n=>exact cF h λdF e q=>by rw[ue e,<-d0 q] at bT;exact bT
 |u=>trivial
theorem a7.ex(T:e7 ah av β){v gA:V}(h:v.eO ah=C gA):∃y,a7 β gA y:=by
 induction v using MI.V.casesOn with
 |u=>(obtain J:=aT h;clear h;subst J);exact⟨.none,trivial⟩
 |c x=>(obtain J:=aT h;clear h;subst J);exact⟨x,rfl⟩
 |i e=>exact omap h λcf he q=>by exact aU (bo.mK T he) λz I af=>q▸⟨.int z 0,z,0,af,rfl⟩
 |s e=>exact omap h λcf he q=>by exact aU (ag.mK T he) λz I af=>q▸⟨.str (aR z) 0,z,0,af,rfl⟩
 |r n=>exact omap h λcf he q=>by exact aU (T.a he) λz I af=>q▸⟨.ref z.1,z.1,z.2,af,rfl⟩
theorem te(T:e7 ah av β)(F:Facts S ar aC ns β){p v:V}(h:n3 ah ar aC p v=ae)(bT:a7 β v y):a7 av p y:=
 cF h λI b7 q=>(V.Ad T b7).mpr ((a7.ex T b7).elim λI ak=>Xn F q ak bT)
theorem BB(T:e7 ah av β)(F:Facts S ar aC ns β){bu:List V}(h:yd ah ar aC bu aK=ae)(r:bL (a7 β) aK aH):bL (a7 av) bu aH:=
 (p4 (f:=n3 ah ar aC) h).comp r λI I I h r=>te T F h r
theorem Wg(T:e7 ah av β)(F:Facts S ar aC ns β){bu aK:List (aM×V)}{aH:List hT}(h:NC ah ar aC bu aK=ae)(r:bL (m2 β) aK aH):bL (m2 av) bu aH:=
 (p4 (f:=NB ah ar aC) h).comp r λI I I h r=>⟨by exact G (gr.mp (bS h)) r.1,te T F (bC h) r.2⟩
theorem Wh(T:e7 ah av β)(F:Facts S ar aC ns β){p v:ag}(h:ND ah ar aC p v=ae){l:bB}(aX:ag.val β v=C l):ag.val av p=C l:=
 cF h λdJ b7 q=>by exact aU (ag.mK T b7) λm aa af=>aS (ag.k4 F (y7 q) af aX).symm▸aa
end
variable{br:cz}
section
variable{a6:az->Option cj}{ar:List b6}{a:az}
theorem bL.PF{R hV:aQ->fb->Prop}{l:List aQ}{m:List fb}(h:bL R l m):(∀a b,b∈m->R a b->hV a b)->bL hV l m:=by
 induction h with
 |nil=>exact λI=>.nil
 |cons x _ bj=>exact λk=>.cons (k _ _ (.head _) x) (bj λa b aD=>k a b (.tail _ aD))
theorem bL.l{R:aQ->fb->Prop}{l:List aQ}{m:List fb}(h:bL R l m):∀a∈l,∃b,b∈m/\R a b:=by
 induction h with
 |nil=>exact λa aV=>nomatch aV
 |cons x _ bj=>
  intro a aV;rcases dh.mp aV with rfl|aV
  .exact(bh _ (.head _) x)
  .exact(bj a aV).imp λb y=>⟨.tail _ y.1,y.2⟩
theorem bL.r{R:aQ->fb->Prop}{l:List aQ}{m:List fb}(h:bL R l m):∀b∈m,∃a,a∈l/\R a b:=by
 induction h with
 |nil=>exact λa aV=>nomatch aV
 |cons x _ bj=>
  intro a aV;rcases dh.mp aV with rfl|aV
  .exact(bh _ (.head _) x)
  .exact(bj a aV).imp λb y=>⟨.tail _ y.1,y.2⟩
theorem bL.RP{R:aQ->fb->Prop}{P:fb->fb->Prop}{Md:aQ->aQ->Prop}{l:List aQ}{m:List fb}(h:bL R l m):m.Pairwise P->(∀a b dq dF,R a b->R dq dF->P b dF->Md a dq)->l.Pairwise Md:=by
 induction h with
 |nil=>exact λI I=>.nil
 |cons x h bj=>intro p k;have p:=xb.mp p;refine xb.mpr ⟨λa aV=>?_,bj p.2 k⟩;exact aU (h.l a aV) λb aD y=>k _ _ _ _ x y (p.1 b aD)
inductive E2(β av:aZ)(aA:List (aM×aB))(e f:ag×V):Prop
 |mk (l:bB) (v:Value) (aa:e.1.val av=some l) (af:f.1.val β=some l) (aJ:valueAt aA (aR l)=some v) (bl:a7 av e.2 v)
theorem Nz(T:e7 ah av β)(F:Facts g.S ar aC ns β){e f:ag×V}(h:BA ah ar aC e f=ae)(k:L4 β aA f):E2 β av aA e f:=by obtain(⟨l,v,bw,c3,fL⟩):=k;exact⟨l,v,Wh T F (bS h) bw,bw,c3,te T F (bC h) fL⟩
theorem Wf(T:e7 ah av β)(F:Facts g.S ar aC ns β){bu aK:List (ag×V)}(h:NA ah ar aC bu aK=ae)(bJ:kZ β aA aK):bL (E2 β av aA) bu aK:=
 (p4 (f:=BA ah ar aC) h).PF λI b aD q=>Nz T F q (bJ b aD)
theorem ME(T:e7 ah av β)(F:Facts g.S ar aC ns β):∀{bu:List (ag×V)},FH ah ar aC bu=ae->bu.Pairwise (λe f=>e.1.val av≠f.1.val av)
 |[],_=>.nil
 |p::bu,h=>xb.mpr ⟨λf hf z=>cF (eX.mp (bS h) f hf) λk aw q=>cF q λl aX q=>by exact aU (ag.mK T aw) λx dw dV=>aU (ag.mK T aX) λy cJ cY=>of_decide_eq_false (ag.k4 F (ag.CG q) dV cY).symm (c0 (dw.symm.trans (z.trans cJ))),ME T F (bC h)⟩
theorem abl{dH:List (ag×V)}(h:Qs j dH=ae)(e:ag×V)(he:e∈dH):∃z:Nat,e.2=.i (.lit z)/\z<=j:=
 cF (eX.mp h e he) λz a8 q=>(bh z (pf a8) (bA q))
theorem NG(T:e7 ah av β)(F:Facts g.S ar aC ns β){aH:List V}{m:Nat}(h:Gz ah bY ar aC xs aH m=ae){us:List aB}(r:bL (a7 β) aH us):m<=bY/\(us.take m).length=m/\bL (a7 av) xs (us.drop m):=by refine(fi (bA (bC (bS h))) ?_ (BB T F (bC h) (r.drop m)));(refine G List.length_take (G (bW r.length) (G (bW (d0 (bS (bS h)))) ?_)));exact Nat.min_eq_left (gu _ _)
theorem QY{e:bo}(h:(litOf e).bind nat?=C n):e=.lit (.ofNat n):=cu h λI a h=>we h▸tZ a
theorem adW{p:Nat}(h:o.RX=C p):o=.raw p:=by
 induction o using MI.O.casesOn with
 |raw k=>exact c0 h▸rfl
 |_=>exact gy h
theorem agf(aO:(aA.map (·.1)).Nodup){dn:aM×aB}(h:dn∈aA):a0 aA dn.1=C dn.2:=by
 induction aA with
 |nil=>cases h
 |cons x r bj=>
  rw[j4,jD] at aO;unfold a0;refine G AE ?_;rcases dh.mp h with rfl|h
  .simp
  .obtain this:¬x.1=dn.1:=λe=>aO.1 (G e (kU h));simp only[this,decide_false];exact bj aO.2 h
theorem NF(T:e7 ah av β)(F:Facts g.S ar aC ns β)(bt:br.S=g.S+bY)(b7:br.prog=g.prog)(hw:br.w=g.w)(cb:br.raw=g.raw)
  (aD:∀o aA,a6 a=C o->o.IsDictOf (strKind g.prog g.w) aA->∀old,br.base a=C old->aA=old){p:O}(h:p8 ah bY ar aC p o=ae)(R:cN g a6 β a d o):cN br a6 av a d p:=by
 induction p using MI.O.casesOn with
 |inst U dH=>
  exact cF h λq e h=>by obtain rfl:=aac e;obtain(⟨aa,au,n,af,aJ,bl⟩):=R;exact⟨aa,au,n,d0 (bS h)▸af,aJ,Wg T F (bC h) bl⟩
 |list xs=>
  exact cF h λq e h=>by obtain rfl:=Qo e;obtain(⟨aa,aH,n,af,aJ⟩):=R;exact⟨aa,aH,n,af,BB T F h aJ⟩
 |tup xs=>
  exact cF h λq e h=>by obtain rfl:=afW e;obtain(⟨aa,aH,n,af,aJ⟩):=R;exact⟨aa,aH,n,af,BB T F h aJ⟩
 |iQ k xs=>
  exact cF h λx ak h=>by
   refine aU (T.i ak) λz a8 bJ=>?_;generalize e:o.kH=aF;induction aF using b1 with
   |some aH=>
    rw[e] at h;exact cF h λm hm ay=>by obtain rfl:=Qo e;obtain(⟨aa,us,n,af,aJ⟩):=R;refine fO (NG T F ay aJ) λe5 gZ i9=>?_;rw[QY hm] at bJ;(obtain J:=aT bJ;clear bJ;subst J);exact⟨aa,us,n,us.toList.take m,us.toList.drop m,af,(q7 _ _).symm,gZ.symm▸a8,i9,by(refine G gZ (G bt ?_));exact bR e5 (bR (xj _ _) (gu _ _))⟩
   |none=>
    rw[e] at h;exact cF h λq e h=>cF h λm hm ay=>by obtain rfl:=abi e;obtain(⟨aa,us,n,pre,post,af,aJ,bl,cQ,eT⟩):=R;refine fO (NG T F (bC ay) cQ) λe5 gZ i9=>?_;rw[xY hm,rx (d0 (bS ay)▸bl)] at bJ;(obtain J:=aT bJ;clear bJ;subst J);refine⟨aa,us,n,pre++post.take m.1,post.drop m.1,af,by(refine G aJ ?_;exact G (nR _ _ _) (G (q7 _ _) rfl)),?_,i9,by(refine G iG (G gZ (G bt ?_)));exact bR (mS eT e5) (eJ (Nat.add_right_comm _ _ _))⟩;(refine G iG (G gZ (G a8 ?_)));exact congrArg C (Eu _ _)
 |dict au abs=>
  exact cF h λq e h=>by
   obtain rfl:=oU e;obtain(⟨aa,af,o,aA,aJ,bl,cQ,eT,h7,h8⟩):=R;have yB:o.IsDictOf (strKind br.prog br.w) aA:=by(refine G b7 (G hw ?_));exact bl
   clear h;induction abs using b1 with
   |none=>
    have A:=Wf T F (bC h) cQ;rw[nO.mp (bS h)] at h7 h8;refine⟨aa,af,o,aA,aJ,yB,λe he=>?_,A.RP eT λa b dq dF X Y n z=>?_,λk aw=>?_,A.length▸h8⟩
    .refine aU (A.l e he) λf I q=>?_;obtain(⟨l,v,dw,_,hz,pC⟩):=q;exact⟨l,v,dw,hz,pC⟩
    .obtain(⟨_,_,dw,dV,_,_⟩):=X;obtain(⟨_,_,cJ,cY,_,_⟩):=Y;exact n (dV.trans (dw.symm.trans (z.trans (cJ.trans cY.symm))))
    .refine aU (h7 k aw) λf hf q=>aU (A.r f hf) λe he en=>?_;obtain(⟨l,v,dw,dV,_,_⟩):=en;exact(bh e he (dw.trans (dV.symm.trans q)))
   |some abs=>
    obtain dT:=bS (bS (bS h));refine⟨aa,af,o,aA,aJ,yB,λe he=>?_,ME T F (bC (bS (bS h))),⟨λe he=>cF (eX.mp (bC (bS h)) e he) λk aw q=>cF q λr cb q=>?_,λold bx=>aD o aA aJ bl old bx▸⟨iH _,λk=>.inr rfl⟩⟩,?_⟩
    .refine aU (Ei.mp (eX.mp dT e he)) λf hf q=>?_;obtain(⟨l,v,dw,_,hz,pC⟩):=Nz T F q (cQ f hf);exact⟨l,v,dw,hz,pC⟩
    .refine aU (ag.mK T aw) λl eG fB=>?_;rw[nO.mp q] at cb;exact(bh l eG (.inl (QA F fB cQ h7 cb).1))
    .have:qL g.S q.2<=g.S:=by cases q.2 with|none=>exact l9 _|some _=>exact dP _
     refine bR h8 (bR (mS (bA (bC h)) this) ?_);show _<=au.length+br.S;(refine G bt ?_;(refine G (kW _ _ _) (G ((kp bY) _) ?_)));exact dP _
 |jx n j=>
  generalize e:o.tV=aF;induction aF using b1 with
  |some q=>unfold p8 at h;dsimp only at h;rw[e] at h;obtain rfl:=Iq e;obtain(⟨aa,af,o,aA,aJ,bl,cQ,eT⟩):=R;have dT:=bA (bS h);have cG:=bA (bC h);refine⟨aa,af,o,aA,aJ,by(refine G b7 (G hw ?_));exact bl,λdn tL=>?_,by exact G bt (bR eT (bR (mc dT _) (eJ xW)))⟩;exact fD (cQ dn tL) λz t e Al fG=>(d2 z t e Al (G bt (gk fG (jn.mpr (bR (mc cG _) (eJ xW))))))
  |none=>
   unfold p8 at h;dsimp only at h;rw[e] at h;exact cF h λq e ay=>by obtain rfl:=oU e;obtain(⟨aa,af,o,aA,aJ,bl,cQ,eT,h7,h8⟩):=R;rw[nO.mp (bS ay)] at h7 h8;have dT:=bA (bS (bC ay));have yB:=bl;(refine t9 yB λI I I I I I e9=>?_;try clear yB);obtain h8:aA.length<=q.1.length+0:=h8;refine⟨aa,af,o,aA,aJ,by(refine G b7 (G hw ?_));exact bl,λdn tL=>?_,by exact G bt (bR h8 (bR dT (bR (xj _ g.S) (eJ xW))))⟩;have bJ:=agf e9 tL;refine aU (h7 dn.1 (bJ▸KX _)) λe he aw=>?_;obtain(⟨l,v,dw,dV,hz⟩):=cQ e he;cases aw.symm.trans dw;rw[hk,bJ] at dV;(obtain J:=aT dV;clear dV;subst J);refine aU (abl (bC (bC ay)) e he) λz a8 cE=>?_;rw[a8] at hz;(refine cA hz λgU t g5 cf=>?_;try clear hz);(obtain J:=aT g5;clear g5;subst J);exact(d2 z t cf (kV _) (jn.mpr (bt▸bR cE (by(refine G (kW _ _ _) (G ((kp j) _) ?_));exact xj _ _))))
 |cell p=>
  exact cF h λq e h=>by
   obtain rfl:=VT e;obtain(⟨aa,o,y,af,aJ,bl⟩):=R;refine⟨aa,o,y,af,aJ,?_⟩;clear h;induction p using b1 with
   |none=>rw[nO.mp h] at bl;exact bl
   |some p=>
    exact cF h λv e h=>by rw[e] at bl;exact aU bl λjY bl cQ=>(bh jY bl (te T F h cQ))
 |raw k=>
  exact cF h λq e h=>by obtain rfl:=adW e;rw[<-d0 h] at R;(refine fO R λaa af aJ=>?_;try clear R);exact⟨aa,cb▸af,cb▸aJ⟩
 |gone=>trivial
 |_=>exact c8 h
end
theorem acU{au:List hT}(h:Pairs (strKind prog w) au aA):∀{zh:List (aM×aB)},Pairs (strKind prog w) au zh->aA=zh:=by
 induction h with
 |nil=>intro l h;cases h;rfl
 |cons a b _ bj=>
  intro l h;cases h with
  |cons dq dF g_=>refine bG (K5 a) λt ff=>bG (K5 dq) λu cy=>?_;exact G (bj g_) (G (Prod.ext (Value.str.inj (ff.symm.trans cy)).1 (b.symm.trans dF)) rfl)
theorem aai{o:cj}{zh:List (aM×aB)}(h:o.IsDictOf (strKind g.prog g.w) aA)(ay:o.IsDictOf (strKind g.prog g.w) zh):aA=zh:=by(refine t9 h λau fm I hd I b7 I=>?_;try clear h);(refine t9 ay λqd ahe I lY I Co I=>?_;try clear ay);rw[hd] at lY;cases lY;exact acU b7 Co
noncomputable def baseOf(g:cz)(h:gj)(a:az):Option (List (aM×aB)):=by
 classical exact if q:∃aA o,h.get? a=C o/\o.IsDictOf (strKind g.prog g.w) aA then C q.choose else none
theorem MP{a:az}{o:cj}(aa:h.get? a=C o)(af:o.IsDictOf (strKind g.prog g.w) aA):baseOf g h a=C aA:=by unfold baseOf;have q:∃aA o,h.get? a=C o/\o.IsDictOf (strKind g.prog g.w) aA:=(gi aA o aa af);refine G (dif_pos q) (aU q.choose_spec λdp a9 bf=>?_);rw[aa] at a9;(obtain J:=aT a9;clear a9;subst J);exact G (aai bf af) rfl
noncomputable def Bw(l:Option bB):Nat:=((l.bind iD).getD 0)
noncomputable def pull(ah:cW)(β:aZ):aZ:=⟨ah.ad.map λn=>(β.ad[n]?).getD (0,0),ah.aE.map λe=>(e.val β).getD 0,ah.aj.map λe=>Bw (ag.val β e),ah.cn.map λe=>(ag.val β e).getD []⟩
theorem C3{l:List aQ}{f:aQ->fb}{i:Nat}{y:fb}(h:(l.map f)[i]? =C y):∃x,cI l i=C x/\x∈l/\f x=y:=by rw[oF] at h;exact omap h λx ak e=>(fV x ((f3 l i).trans ak) (ma ak) e)
theorem get_map{l:List aQ}{f:aQ->fb}{i:Nat}{x:aQ}(h:cI l i=C x):∃y,(l.map f)[i]? =C y:=⟨f x,by(refine G oF ?_;refine G (bW (f3 _ _)) (G h ?_));rfl⟩
theorem ac3(eZ:∀n∈ah.ad,n<β.ad.length)(hp:∀e∈ah.aE,∃z,e.val β=C z)(vl:∀e∈ah.aj,∃c,ag.val β e=C [c])(yi:∀e∈ah.cn,∃l,ag.val β e=C l):e7 ah (pull ah β) β where
 ad:=λi p h=>by exact eH (C3 h) λn aO m e=>(bh n aO (by(refine G (bW e) (G (i5 (eZ n m)) ?_));rfl))
 aE:=λi p h=>by exact eH (C3 h) λn aO m e=>bG (hp n m) λz a8=>(bh n aO (by(refine G (bW e) (G a8 ?_));rfl))
 aj:=λi p h=>by exact eH (C3 h) λn aO m e=>bG (vl n m) λz a8=>(bh n aO (by(refine G (bW e) (G a8 ?_));rfl))
 cn:=λi p h=>by exact eH (C3 h) λn aO m e=>bG (yi n m) λz a8=>(bh n aO (by(refine G (bW e) (G a8 ?_));rfl))
 Qd:=λI I h=>get_map h
 Qu:=λI I h=>get_map h
 Qg:=λI I h=>get_map h
 QD:=λI I h=>get_map h
theorem bL.mapR{bY:Type}{R:aQ->fb->Prop}{hV:aQ->bY->Prop}{f:fb->bY}{l:List aQ}{m:List fb}(h:bL R l m)(k:∀a b,R a b->hV a (f b)):bL hV l (m.map f):=by
 induction h with
 |nil=>exact .nil
 |cons x _ bj=>exact .cons (k _ _ x) bj
theorem OB:∀(l:List (Bool×O))(t:dD (Bool×O))(i m:Nat),i+l.length<=10000000->(fill t i l).get m=if m<i then t.get m else if m<i+l.length then l[m-i]? else t.get m
 |[],t,i,m,_=>by
  show t.get m=_;by_cases h:m<i
  ·(exact G (if_pos h) rfl)
  ·(exact G (if_neg h) (G (if_neg (by simpa using h)) rfl))
 |x::r,t,i,m,h=>by
  rw[uA] at h;show(fill (t.put cU i x) (i+1) r).get m=_;(refine G (OB r _ _ _ (bR (eJ (AH i _)) h)) (G (dD.k8 cU t i x m (by obtain this:(10000000:Nat)<=2^cU-1:=(aS rfl);exact ij (ij (w8 (pE _)) h) this)) ?_));refine G uA ?_;by_cases aa:m<i
  ·(exact G (if_pos (xf (by assumption))) (G (if_pos aa) (G (if_neg (kr (by assumption))) rfl)))
  .refine G (if_neg aa) ?_;by_cases af:m=i
   ·(clear aa h;subst af);(refine G (if_pos (dP _)) (G (if_pos rfl) (G (if_pos (w8 (pE _))) (G (uI _) ?_))));rfl
   .refine G (if_neg (λz=>af (Em (Az z) (so aa)))) ?_;by_cases aJ:m<i+1+r.length
    ·(refine G (if_pos aJ) (G (if_pos (ij aJ (eJ (AH i _)))) ?_));obtain this:m-i=(m-(i+1))+1:=by exact J8 (Ay (so aa) (j1 af))
     exact G this rfl
    ·(exact G (if_neg aJ) (G (if_neg af) (G (if_neg (λz=>aJ (ij z (eJ (AH i _).symm)))) rfl)))
theorem dD.abV(m:Nat):(dD.nil:dD aQ).get m=none:=rfl
variable{p:b4}
theorem b4.get(h:p.os.length<=10000000)(m:Nat):p.st.σ.get m=p.os[m]? :=by
 show(fill .nil 0 p.os).get m=_;(refine G (OB _ _ _ _ (mc (by assumption) _)) (G (if_neg (by lia)) ?_));by_cases q:m<0+p.os.length
 .exact G (if_pos q) rfl
 ·(refine G (if_neg q) (G (dD.abV _) (G (TG.mpr (by lia)) ?_));with_reducible rfl)
variable{handed:List Nat}{eE:Nat}
section
variable{c:bc}{st:St}{s:aN}
theorem acG{os:List (Bool×O)}{ns:List Nat}(h:wy ah bY st handed k os ns=ae):os.length=ns.length/\∀(i:Nat)(n:Nat),ns[i]? =C n->∃x,os[i]? =C x/\Dw ah bY st handed (k+i) x n=true:=by
 induction os generalizing ns k with
 |nil=>
  induction ns using eo with
  |nil=>exact⟨rfl,λi n h=>nomatch h⟩
  |cons _ _=>exact c8 h
 |cons x r bj=>
  induction ns using eo with
  |nil=>exact c8 h
  |cons n ns=>
   refine a3 (bj (bC h)) λa9 bf=>⟨congrArg (·+1) a9,λi m e=>?_⟩;induction i using hD with
   |zero=>(obtain J:=aT e;clear e;subst J);exact(bh x rfl (bS h))
   |succ i=>exact aU (bf i m e) λy aa af=>(bh y aa (by rw[kW,kp 1] at af;exact af))
theorem acI{i:Nat}(h:Dw ah bY st handed i (ae,o) n=ae):∃dp,st.σ.get n=C (ae,dp)/\ny o=ae/\tW n ah.ad=i/\p8 ah bY st.ar st.aC o dp=true:=
 cF (bC h) λy bT q=>(l8 y.2 (G bT (G (bW (bS q)) rfl)) (bS (bC q)) (d0 (bS (bC (bC q)))) (bC (bC (bC q))))
theorem Rg(h:(!ny o)=ae):o=.gone:=by
 induction o using MI.O.casesOn with
 |gone=>rfl
 |_=>exact c8 h
theorem acH{i:Nat}(h:Dw ah bY st handed i (ai,o) n=ae):o=.gone\/∃oq dp,st.σ.get n=C (oq,dp)/\nu n handed=ai/\p8 ah bY st.ar st.aC o dp=true:=by
 rcases K1.mp (bC h) with h|h
 .exact .inl (Rg h)
 .exact .inr (cF h λy bT q=>(d2 y.1 y.2 bT (jl _▸bS q) (bC q)))
theorem zQ{os:List (Bool×O)}{ns:List Nat}(h:wy ah bY st handed k os ns=ae):os.length=ns.length/\(∀n∈ns,n<st.no)/\∀(i:Nat)(own:Bool)(o:O),os[i]? =C (own,o)->∃n,ns[i]? =C n/\
  (own=ae->∃dp,st.σ.get n=C (ae,dp)/\ny o=ae/\tW n ah.ad=k+i/\p8 ah bY st.ar st.aC o dp=ae)/\
  (own=ai->o=.gone\/∃oq dp,st.σ.get n=C (oq,dp)/\nu n handed=ai/\p8 ah bY st.ar st.aC o dp=ae):=by
 refine a3 (acG h) λdc dA=>(fi dc (λn aO=>?_) (λi own o e=>?_))
 .exact bG (List.mem_iff_getElem?.mp aO) λi bN=>aU (dA i n bN) λx I q=>bA (bS q)
 .have lt:=(j2.mp e).1;have aO:=i5 (dc▸lt);refine aU (dA i _ aO) λx ak q=>?_;cases e.symm.trans ak;exact(fV _ aO (λe=>acI (e▸q)) (λe=>acH (e▸q)))
theorem YT:∀{os:List (Bool×O)}{ns:List Nat}{i:Nat}{o:O},os[i]? =C (ae,o)->ns[i]? =C n->n∈h_ os ns:=by
 intro os;induction os with
 |nil=>exact λh I=>nomatch h
 |cons x r bj=>
  intro ns i o h e;induction ns using eo with
  |nil=>exact nomatch e
  |cons m ns=>
   refine G (O7 _ _ _ _) ?_;induction i using hD with
   |zero=>(obtain J:=aT h;clear h;subst J);(obtain J:=aT e;clear e;(clear bj;subst J));exact .head _
   |succ i=>
    generalize q:x.1=aF;clear q;induction aF using bV with
    |true=>exact .tail _ (bj (i:=i) h e)
    |false=>exact bj (i:=i) h e
theorem Rr:∀{os:List (Bool×O)}{ns:List Nat},n∈h_ os ns->∃(i:Nat)(o:O),os[i]? =C (ae,o)/\ns[i]? =C n:=by
 intro os;induction os with
 |nil=>exact λh=>nomatch h
 |cons x r bj=>
  intro ns h;induction ns using eo with
  |nil=>exact nomatch h
  |cons m ns=>
   rw[O7] at h;generalize q:x.1=aF;induction aF using bV with
   |true=>
    rw[q] at h;rcases dh.mp h with e|h
    .exact(gi 0 x.2 (G (bW q) rfl) (e▸rfl))
    .exact mF (bj h) λi o a=>(w2 (i+1) o a)
   |false=>rw[q] at h;exact mF (bj h) λi o a=>(w2 (i+1) o a)
theorem OR{v:V}:∀{l:List (aM×V)},eh x l=C v->(x,v)∈l
 |[],h=>by exact bK h
 |e::r,h=>by
  rw[Ht] at h;split at h
  .rename_i q;(obtain J:=aT h;clear h;subst J);exact G (bW (gr.mp q)) (.head _)
  .exact .tail _ (OR h)
theorem Qy(F:Facts g.S st.ar st.aC st.ns β){e:bo}{x:Int}(h:bo.lo st.ar e=C x):∃z,e.val β=C z:=by
 induction e using MI.bo.casesOn with
 |lit c=>exact⟨c,rfl⟩
 |aL c neg v=>
  unfold bo.lo at h;dsimp only at h;generalize q:st.ar[v]? =aF;induction aF using b1 with
  |none=>rw[q] at h;exact bK h
  |some x4=>exact aU (F.aE.get q) λz a8 I=>⟨_,rx a8⟩
theorem MT(F:Facts g.S st.ar st.aC st.ns β)(bt:eE=g.S+bY){b:b6}{e:bo}(h:Bq st.ar bY b e=ae):∃z,e.val β=C z/\b.1<=z/\z<=b.2.1/\∀j,b.2.2=C j->z<=((eE+j:Nat):Int):=
 cF (bS h) λx ak dT=>cF (bS (bC h)) λy bT cG=>by
  refine bG (Qy F ak) λz a8=>(l8 z a8 (gk (Jx dT) (bo.lo_le F ak a8)) (gk (bo.v5 F bT a8) (Jx cG)) (λj cE=>?_));have a:=bC (bC h);rw[cE] at a;dsimp only at a;generalize dI:litOf e=aF;induction aF using b1 with
  |some c=>rw[dI] at a;rw[tZ dI] at a8;(obtain J:=aT a8;clear a8;subst J);exact gk (Jx a) (jn.mpr (xj _ _))
  |none=>
   rw[dI] at a;exact cF a λp b7 a=>cF a λt ff a=>cu ff λx4 aD ff=>by rw[f3] at aD;refine jQ (F.aE.get aD) λgd vM I I w=>?_;rw[xY b7,rx vM] at a8;(obtain J:=aT a8;clear a8;subst J);obtain w:=w t ff;obtain a:=bA a;show(p.1:Int)+gd<=_;exact gk (K3 w _) (jn.mpr (bR (eJ (Nat.add_left_comm _ _ _)) (bR (mc a _) (eJ ((kW _ _ _).symm.trans (congrArg (·+j) bt.symm))))))
theorem VH(F:Facts g.S st.ar st.aC st.ns β)(bt:eE=g.S+bY){bs:List b6}{au:List bo}(h:Br st.ar bY bs au=ae):(∀e∈au,∃z,e.val β=C z)/\
  bL (λ(b:b6)(z:Int)=>b.1<=z/\z<=b.2.1/\∀j,b.2.2=C j->z<=((eE+j:Nat):Int)) bs (au.map λe=>(e.val β).getD 0):=by
 have A:=p4 (f:=Bq st.ar bY) h;refine⟨λe he=>?_,A.mapR λb e q=>?_⟩
 .exact aU (A.r e he) λb I q=>aU (MT F bt q) λz a8 I=>⟨z,a8⟩
 .exact aU (MT F bt q) λz a8 k=>G a8 k
theorem Np(F:Facts g.S st.ar st.aC st.ns β){b:bB}{e:ag}(h:By st.aC b e=ae):∃c,ag.val β e=C [c]/\c∈b:=
 cF h λp b7 h=>by
  refine G (lu b7) ?_;clear b7;induction p using MI.c1.casesOn with
  |lit m=>exact cF h λc bb h=>(bh c (congrArg C ((lM m).trans (lu bb))) (wb.mp h))
  |chr k=>
   exact cF h λm hm h=>by unfold clsAt at hm;exact aU (F.aj.get hm) λz a8 bb=>(bh z (ag.eP.mpr (d2 [z] [] (congrArg (uL λc=>[c]) a8) rfl rfl)) (wb.mp (eX.mp h z bb)))
  |dec _=>exact c8 h
  |any _=>exact c8 h
theorem V6(F:Facts g.S st.ar st.aC st.ns β){bs:List bB}{au:List ag}(h:Bz st.aC bs au=ae):(∀e∈au,∃c,ag.val β e=C [c])/\bL (λ(l:bB) c=>c∈l) bs (au.map λe=>Bw (ag.val β e)):=by
 have A:=p4 (f:=By st.aC) h;refine⟨λe he=>?_,A.mapR λb e q=>?_⟩
 .exact aU (A.r e he) λb I q=>aU (Np F q) λz a8 I=>⟨z,a8⟩
 .exact aU (Np F q) λz a8 k=>G a8 k
theorem Vh(F:Facts g.S st.ar st.aC st.ns β):∀{au:List ag},(∀e∈au,∃c,ag.val β e=C [c])->x2 st.ar st.aC au=ae->(au.map λe=>Bw (ag.val β e)).Nodup:=by
 intro au;induction au with
 |nil=>exact λI I=>.nil
 |cons e au bj=>intro d h;(refine G j4 (gN jD ?_));refine⟨λm=>?_,bj (λf hf=>d f (.tail _ hf)) (bC h)⟩;refine aU (kY.mp m) λf hf a9=>bG (d e (.head _)) λx ak=>bG (d f (.tail _ hf)) λy bT=>?_;obtain q:=of_decide_eq_false (ag.k4 F (ag.CG (eX.mp (bS h) f hf)) ak bT).symm;rw[ak,bT] at a9;exact q (congrArg (λc=>[c]) (show y=x from a9).symm)
theorem c1.IZ(F:Facts g.S st.ar st.aC st.ns β){p:c1}(h:p.known st=ae):∃x,p.val β=C x:=by
 induction p using MI.c1.casesOn with
 |lit m=>exact⟨m,rfl⟩
 |dec e=>exact bG (D9.mp h) λx ak=>bG (Qy F ak) λz a8=>⟨_,congrArg (uL eR) a8⟩
 |chr k=>refine aU (F.aj.get (i5 (bA h))) λz a8 I=>?_;exact⟨[z],congrArg (uL λc=>[c]) a8⟩
 |any k=>exact⟨_,i5 (F.dd▸bA h)⟩
theorem IZ(F:Facts g.S st.ar st.aC st.ns β):∀{e:ag},e.all (c1.known st)=ae->∃l,ag.val β e=C l:=by
 intro e;induction e with
 |nil=>exact λI=>⟨[],rfl⟩
 |cons p r bj=>intro h;exact bG (bj (bC h)) λy bT=>bG (c1.IZ F (bS h)) λx ak=>⟨_,ag.eP.mpr (d2 x y ak bT rfl)⟩
theorem afc(F:Facts g.S st.ar st.aC st.ns β){e:ag}(h:DQ st e=ae):∃l,ag.val β e=C l/\l.length<=1000:=bG (IZ F (bS h)) λl aX=>(bh l aX (cF (bC h) λn aO w=>bR (ag.Aj F aO aX) (bA w)))
theorem JH{i:Nat}{x:az×az}(h:ah.ad[i]? =C n)(e:β.ad[n]? =C x):(pull ah β).ad[i]? =C x:=by show(ah.ad.map _)[i]? =_;(refine G oF ?_;refine G h (G (nS _ _) (G e ?_)));rfl
theorem JI(F:Facts g.S st.ar st.aC st.ns β){ar:List b6}(aX:∀n∈ah.ad,n<β.ad.length)(fQ:Br st.ar bY ar ah.aE=ae)(JM:Bz st.aC aC ah.aj=ae)(RR:x2 st.ar st.aC ah.aj=ae)(JN:cw ah.cn.length ns=ae)(wI:ah.cn.all (DQ st)=ae):e7 ah (pull ah β) β/\Facts (g.S+bY) ar aC ns (pull ah β):=by
 refine a3 (VH (eE:=g.S+bY) F rfl fQ) λcB el=>a3 (V6 F JM) λbw c3=>?_;have v1:∀e∈ah.cn,∃l,ag.val β e=C l/\l.length<=1000:=λe he=>afc F (eX.mp wI e he);refine⟨ac3 aX cB bw λe he=>(v1 e he).imp λI x=>x.1,el,c3,Vh F bw RR,?_,λl aX=>?_⟩
 .show(ah.cn.map _).length=ns;exact G (gB _) (G (d0 JN) rfl)
 .refine aU (kY.mp aX) λe he q=>aU (v1 e he) λa_ jw hw=>?_;(refine G (bW q) (G jw ?_));exact hw
theorem Hi{a6:az->Option cj}{os:List (Bool×O)}(T:e7 ah (pull ah β) β)(F:Facts g.S st.ar st.aC st.ns β)(aX:∀n∈ah.ad,n<β.ad.length)(h:wy ah bY st handed 0 os ah.ad=ae)(bt:br.S=g.S+bY)(b7:br.prog=g.prog)(hw:br.w=g.w)(cb:br.raw=g.raw)
  (aD:∀a o aA,a6 a=C o->o.IsDictOf (strKind g.prog g.w) aA->∀old,br.base a=C old->aA=old)(rest:∀n own o,st.σ.get n=C (own,o)->n∉handed->∃a d,β.ad[n]? =C (a,d)/\cN g a6 β a d o){i:Nat}(q:os[i]? =C (ai,o)):∃a d,(pull ah β).ad[i]? =C (a,d)/\cN br a6 (pull ah β) a d o:=by
 refine eH ((zQ h).2.2 i ai o q) λm a9 I cC=>?_;rcases cC rfl with e|⟨oq,dp,bZ,c5,fF⟩
 .exact(gi _ _ (JH a9 (i5 (aX m (ma a9)))) (e▸trivial))
 .exact cA (rest m oq dp bZ λz=>Bool.noConfusion ((wb.mpr z).symm.trans c5)) λa d cJ cY=>(gi a d (JH a9 cJ) (NF T F bt b7 hw cb (aD a) fF cY))
end
noncomputable def cz.re(g:cz)(h₀:gj)(bY:Nat)(dQ:aZ)(base:az->Option (List (aM×aB))):cz:={g with h₀:=h₀,S:=g.S+bY,dQ:=dQ,base:=base}
noncomputable def bc.re(c:bc)(h₀:gj):bc:={c with P:=h₀.get?}
section
variable{c:bc}{st:St}{s:aN}
noncomputable def nz(β:aZ):List Nat->List az
 |[]=>[]
 |n::r=>match β.ad[n]? with
  |some (a,d)=>a::d::nz β r
  |none=>nz β r
theorem RE(β:aZ)(n:Nat)(r:List Nat):nz β (n::r)=match β.ad[n]? with|some (a,d)=>a::d::nz β r|none=>nz β r:=rfl
theorem JC{a d:Nat}(e:β.ad[n]? =C (a,d)):∀{l:List Nat},n∈l->a∈nz β l/\d∈nz β l
 |m::r,h=>by
  rcases dh.mp h with rfl|h
  ·(refine G (RE _ _ _) (G e ?_));exact⟨.head _,.tail _ (.head _)⟩
  .refine a3 (JC e h) λx y=>G (RE _ _ _) ?_;generalize β.ad[m]? =z;induction z using b1 with
   |none=>exact⟨x,y⟩
   |some p=>exact⟨.tail _ (.tail _ x),.tail _ (.tail _ y)⟩
theorem Rt{b:az}{l:List Nat}(h:b∈nz β l):∃n a d,n∈l/\β.ad[n]? =C (a,d)/\(b=a\/b=d):=by
 induction l with
 |nil=>cases h
 |cons m r bj=>
  have rest:b∈nz β r->∃n a d,n∈m::r/\β.ad[n]? =C (a,d)/\(b=a\/b=d):=λh=>by exact kh (bj h) λn a d x y z=>(w3 n a d (.tail _ x) y z)
  replace h:b∈(match β.ad[m]? with|some (a,d)=>a::d::nz β r|none=>nz β r):=h;generalize e:β.ad[m]? =aF;induction aF using b1 with
  |none=>rw[e] at h;exact rest h
  |some p=>
   rw[e] at h;rcases dh.mp h with q|h
   .exact(w3 m p.1 p.2 (.head _) e (.inl q))
   .rcases dh.mp h with q|h
    .exact(w3 m p.1 p.2 (.head _) e (.inr q))
    .exact rest h
structure Seen(g:cz)(c:bc)(st:St)(β:aZ)(s:aN)(dep:Nat)(ah:cW)(bY:Nat)(p:b4)(h₀:gj)(base:az->Option (List (aM×aB))):Prop where
 ok:(g.re h₀ bY (pull ah β) base).Ok
 ct:(c.re h₀).Ok (g.re h₀ bY (pull ah β) base) dep
 sat:Sat (g.re h₀ bY (pull ah β) base) (c.re h₀) p.st (pull ah β) s
 up:∀a o,c.P a=C o->h₀.get? a=C o
 down:∀a o,h₀.get? a=C o->s.heap.get? a=C o
 base:∀a o aA,s.heap.get? a=C o->o.IsDictOf (strKind g.prog g.w) aA->base a=C aA
 rest:∀n own o,st.σ.get n=C (own,o)->n∉h_ p.os ah.ad->∃a d,β.ad[n]? =C (a,d)/\cN g h₀.get? β a d o
 pull:e7 ah (pull ah β) β
 not:∀n a d,n∈h_ p.os ah.ad->β.ad[n]? =C (a,d)->h₀.get? a=none/\h₀.get? d=none
 own:∀n own o a d,st.σ.get n=C (own,o)->n∉h_ p.os ah.ad->β.ad[n]? =C (a,d)->o≠.gone->∀b,b=a\/b=d->∃x,h₀.get? b=C x
theorem Sq(xs:List az)(ZV:∀b∈xs,c.P b=none)(ZW:∀n o a d,st.σ.get n=C (ae,o)->β.ad[n]? =C (a,d)->a∉xs/\d∉xs)(O:g.Ok)(U:c.Ok g dep)(H:Sat g c st β s)(h:h1 ah bY st p=ae)(bt:g.S+bY<=100000):
  ∃h₀ base,Seen g c st β s dep ah bY p h₀ base/\∀b∈xs,h₀.get? b=none:=by
 obtain RS:=bC h;have h7:=bS h;have eT:=bS h7;have cQ:=bS eT;have bl:=bS cQ;have aJ:=bS bl;have af:=bS aJ;have cG:=bC af;have dT:=bA (bS af);refine fO (zQ cG) λt8 qE Dn=>?_;have F:=H.facts;have lt:∀n∈ah.ad,n<β.ad.length:=λn aO=>H.len.symm▸qE n aO;refine a3 (JI F lt (bC aJ) (bC bl) (bC cQ) (bC eT) (bC h7)) λT W=>bG H.objs λf hf=>?_;let hd:=h_ p.os ah.ad;let hide:=c.L::(c.cx.map (·.1)++(nz β hd++xs));let h₀:=hideAll s.heap hide;have RB:∀n∈hd,∃o a d,st.σ.get n=C (ae,o)/\β.ad[n]? =C (a,d)/\f a=n/\f d=n/\c.gV a/\c.gV d:=λn aO=>by refine cA (Rr aO) λi o a9 bf=>eH (Dn i ae o a9) λm cC iM I=>?_;rw[bf] at cC;(obtain J:=aT cC;clear cC;subst J);refine aU (iM rfl) λdp lV I=>?_;obtain(⟨a,d,bZ,c5,fF⟩):=hf n ae dp lV;obtain(⟨cJ,cY,fw,gT,_⟩):=fF rfl;exact(Tp dp a d lV bZ cJ cY fw gT)
 obtain ach:∀b,c.gV b->b∉xs->(∀n∈hd,∀a d,β.ad[n]? =C (a,d)->b≠a/\b≠d)->b∉hide:=λb h6 n_ aD hm=>by
  rcases dh.mp hm with e|hm
  .exact h6.2.1 e
  .rcases me.mp hm with hm|hm
   .exact aU (kY.mp hm) λx ak e=>h6.2.2 x ak e
   .rcases me.mp hm with hm|hm
    .exact kh (Rt hm) λn a d aO e w=>a3 (aD n aO a d e) λfG hA=>w.elim fG hA
    .exact n_ hm
 obtain UQ:∀a o,c.P a=C o->a∉hide:=λa o q hm=>by
  rcases dh.mp hm with e|hm
  .rw[e,U.iX] at q;exact bK q
  .rcases me.mp hm with hm|hm
   .refine aU (kY.mp hm) λx ak e=>?_;rw[<-e,(U.hd x ak).1] at q;exact bK q
   .rcases me.mp hm with hm|hm
    .refine kh (Rt hm) λn dq ec aO e w=>Dq (RB n aO) λdp a2 hp I bZ I I fw gT=>?_;rw[e] at bZ;(obtain J:=aT bZ;clear bZ;refine a3 (eD J) λbU cv=>?_;clear J;subst bU;subst cv);rcases w with rfl|rfl
     .rw[fw.1] at q;exact bK q
     .rw[gT.1] at q;exact bK q
    .rw[ZV a hm] at q;exact bK q
 have up:∀a o,c.P a=C o->h₀.get? a=C o:=λa o q=>EE _ (H.keep a o q) (UQ a o q);have down:∀a o,h₀.get? a=C o->s.heap.get? a=C o:=λa o q=>of_hideAll _ q;obtain ahK:∀b x,b∈hide->h₀.get? b=C x->False:=λb x hm q=>by obtain this:h₀.get? b=none:=qX _ hm;rw[this] at q;exact bK q
 have aD:∀(a6:az->Option cj),(∀a o,a6 a=C o->s.heap.get? a=C o)->∀a o aA,a6 a=C o->o.IsDictOf (strKind g.prog g.w) aA->∀old,baseOf g s.heap a=C old->aA=old:=λa6 ni a o aA a9 bf old cC=>by rw[MP (ni a o a9) bf] at cC;(obtain J:=aT cC;clear cC;subst J);rfl
 obtain adY:∀n o,st.σ.get n=C (ae,o)->n∉hd->∃a d,β.ad[n]? =C (a,d)/\(∀b,b=a\/b=d->∀x,s.heap.get? b=C x->h₀.get? b=C x)/\cN g h₀.get? β a d o/\o≠.gone:=λn o e aO=>by
  obtain(⟨a,d,bZ,c5,fF⟩):=hf n ae o e;obtain(⟨cJ,cY,fw,gT,gM⟩):=fF rfl;have c5:cN g s.heap.get? β a d o:=c5;obtain De:∀b,b=a\/b=d->b∉hide:=λb aD=>by
   have h6:f b=n:=by rcases aD with rfl|rfl<;>assumption
   refine ach b (by rcases aD with rfl|rfl<;>assumption) (by refine a3 (ZW n o a d e bZ) λeV dY=>?_;rcases aD with rfl|rfl<;>assumption) λm hm dq ec cf=>?_
   refine Rm (RB m hm) λI a2 hp I fG hA kn I=>?_;rw[cf] at fG;(obtain J:=aT fG;clear fG;refine a3 (eD J) λbU cv=>?_;clear J;subst bU;subst cv);exact⟨λz=>aO (by(refine G (bW h6) (G z (G hA ?_)));exact hm),λz=>aO (by(refine G (bW h6) (G z (G kn ?_)));exact hm)⟩
  have k:∀b,b=a\/b=d->∀x,s.heap.get? b=C x->h₀.get? b=C x:=λb aD x q=>EE _ q (De b aD);exact(i3 a d bZ k (c5.mono (.refl _) (λI=>k a (.inl rfl) _) (λI=>k d (.inr rfl) _)) gM)
 have rest:∀n own o,st.σ.get n=C (own,o)->n∉hd->∃a d,β.ad[n]? =C (a,d)/\cN g h₀.get? β a d o:=λn own o e aO=>by
  induction own using bV with
  |true=>exact ig (adY n o e aO) λa d bZ I c5 I=>(gi a d bZ c5)
  |false=>obtain(⟨a,d,bZ,c5,_⟩):=hf n ai o e;exact(gi a d bZ (cN.mono (.refl _) (up a) (up d) (show cN g c.P β a d o from c5)))
 refine(w2 h₀ (baseOf g s.heap) ?_);obtain YI:(g.re h₀ bY (pull ah β) (baseOf g s.heap)).Ok:=by have k:∀b o,g.h₀.get? b=C o->h₀.get? b=C o:=λb o q=>up b o (U.base b o q);refine⟨O.fl.keeps k,O.top.keeps k,bt,?_⟩;show kv<h₀.objs.size;exact G (hideAll_size _ _) (H.toSatO.low U O)
 refine⟨⟨YI,⟨λa o q=>q,U.frames,U.here,λx ak=>?_,?_,U.depth,U.units,U.calm,U.dep⟩,⟨⟨down,H.cx,⟨λa=>tW (f a) ah.ad,λn own o q=>?_⟩,?_,?_,.refl _⟩,H.os,?_⟩,up,down,λa o aA a9 bf=>MP a9 bf,rest,T,λn a d aO e=>?_,λn own o a d e aO aV gx b aD=>?_⟩,λb aD=>qX _ (mR _ (sL _ (sL _ aD)))⟩
 .exact⟨qX _ (mR _ (q8 _ (kU ak))),(U.hd x ak).2⟩
 .exact qX _ (.head _)
 .rw[b4.get (bR (by assumption) (bA rfl))] at q;refine eH (Dn n own o q) λm a9 bf cC=>?_;induction own using bV with
  |true=>
   refine jQ (bf rfl) λdp bZ c5 fF jX=>?_;obtain(⟨a,d,cJ,cY,fw⟩):=hf m ae dp bZ;obtain(⟨fG,hA,kn,uw,_⟩):=fw rfl;obtain abE:m∈hd:=YT q a9;refine a3 (JC cJ abE) λJB DA=>⟨a,d,JH a9 cJ,NF (g:=g) (br:=g.re h₀ bY (pull ah β) (baseOf g s.heap)) T F rfl rfl rfl rfl (λo aA=>aD _ (λI I e=>e) a o aA) jX (show cN g s.heap.get? β a d dp from cY),λI=>⟨by show tW (f a) ah.ad=n;(refine G fG (G fF ?_));exact kp _ _,by show tW (f d) ah.ad=n;(refine G hA (G fF ?_));exact kp _ _,?_,?_,?_⟩⟩
   .exact⟨qX _ (mR _ (sL _ (q8 _ JB))),kn.2⟩
   .exact⟨qX _ (mR _ (sL _ (q8 _ DA))),uw.2⟩
   .intro e;(clear jX cC bf q;subst e);exact c8 c5
  |false=>exact cA (Hi (br:=g.re h₀ bY (pull ah β) (baseOf g s.heap)) T F lt cG rfl rfl rfl rfl (aD _ down) rest q) λa d cJ cY=>⟨a,d,cJ,cY,λe=>by exact c8 e⟩
 .exact(gB _).trans t8.symm
 .exact W
 .refine aU H.loc λm hm aX=>⟨m,hm,λx v e=>?_⟩;exact cF (eX.mp RS (x,v) (OR e)) λu cy this=>by exact aU (aX x u cy) λy bT r=>(bh y bT (te T F this r))
 .exact a3 (JC e aO) λJB DA=>⟨qX _ (mR _ (sL _ (q8 _ JB))),qX _ (mR _ (sL _ (q8 _ DA)))⟩
 .refine cA (rest n own o e aO) λdq ec bZ c5=>?_;rw[aV] at bZ;(obtain J:=aT bZ;clear bZ;refine a3 (eD J) λbU cv=>?_;clear J;subst bU;subst cv);refine a3 (cN.there gx c5) λx y=>?_;rcases aD with rfl|rfl<;>assumption
theorem sb(O:g.Ok)(U:c.Ok g dep)(H:Sat g c st β s)(h:h1 ah bY st p=ae)(bt:g.S+bY<=100000):∃h₀ base,Seen g c st β s dep ah bY p h₀ base:=by exact cA (Sq [] (λb aD=>(nomatch aD)) (λn o a d I I=>⟨by simp,by simp⟩) O U H h bt) λh₀ base N I=>(w2 h₀ base N)
end
variable{cV:cz}{hb:Nat}
section
variable{a6:az->Option cj}{a:az}
theorem Jh{f:aQ->Option fb}:∀{l:List aQ}{m:List fb},zv f l=C m->bL (λa b=>f a=C b) l m:=by
 intro l;induction l with
 |nil=>intro m h;(obtain J:=aT h;clear h;subst J);exact .nil
 |cons x r bj=>exact λh=>cu h λa aV h=>omap h λb aD e=>e▸.cons aV (bj aD)
theorem bL.swap{R:aQ->fb->Prop}{hV:fb->aQ->Prop}(k:∀a b,R a b->hV b a){l:List aQ}{m:List fb}(h:bL R l m):bL hV m l:=by
 induction h with
 |nil=>exact .nil
 |cons x _ bj=>exact .cons (k _ _ x) bj
theorem SY(T:e7 ah av β){zs:List V}(h:Kn ah xs=C zs)(r:bL (a7 av) xs aH):bL (a7 β) zs aH:=
 (bL.swap (hV:=λb a=>V.eO ah a=C b) (λI I h=>h) (Jh (f:=V.eO ah) h)).comp r λI I I h r=>(V.Ad T h).mp r
theorem af9(T:e7 ah av β){xs zs:List (aM×V)}{aH:List hT}(h:SX ah xs=C zs)(r:bL (m2 av) xs aH):bL (m2 β) zs aH:=
 (bL.swap (hV:=λb a=>Kl ah a=C b) (λI I h=>h) (Jh (f:=Kl ah) h)).comp r λI I I h r=>omap h λI h e=>e▸⟨r.1,(V.Ad T h).mp r.2⟩
theorem af8(T:e7 ah av β){xs zs:List (ag×V)}(h:SW ah xs=C zs)(bJ:kZ av aA xs):bL (E2 av β aA) zs xs:=
 (bL.swap (hV:=λb a=>Kk ah a=C b) (λI I h=>h) (Jh (f:=Kk ah) h)).PF λb a aV h=>cu h λk aw h=>omap h λx ak e=>by obtain(⟨l,v,aa,af,aJ⟩):=bJ a aV;exact e▸⟨l,v,ag.afQ T aw aa,aa,af,(V.Ad T ak).mp aJ⟩
theorem O.S0(T:e7 ah av β)(bt:cV.S=g.S+hb)(b7:cV.prog=g.prog)(hw:cV.w=g.w){dp:O}(h:O.up ah hb o=C dp)(R:cN cV a6 av a d o):cN g a6 β a d dp/\dp≠.gone:=by
 induction o using MI.O.casesOn with
 |inst U dH=>
  exact omap h λzs a8 e=>by obtain(⟨aa,au,n,af,aJ,bl⟩):=R;exact e▸⟨⟨aa,au,n,af,aJ,af9 T a8 bl⟩,λe=>O.noConfusion e⟩
 |list xs=>
  exact omap h λzs a8 e=>by obtain(⟨aa,aH,n,af,aJ⟩):=R;exact e▸⟨⟨aa,aH,n,af,SY T a8 aJ⟩,λe=>O.noConfusion e⟩
 |tup xs=>
  exact omap h λzs a8 e=>by obtain(⟨aa,aH,n,af,aJ⟩):=R;exact e▸⟨⟨aa,aH,n,af,SY T a8 aJ⟩,λe=>O.noConfusion e⟩
 |dict au op=>
  induction op using b1 with
  |some _=>exact bK h
  |none=>
   exact omap h λzs a8 e=>by
    obtain(⟨aa,af,o,aA,aJ,bl,cQ,eT,h7,h8⟩):=R;have A:=af8 T a8 cQ;refine e▸⟨⟨aa,af,o,aA,aJ,b7▸hw▸bl,λe he=>?_,A.RP eT λa b dq dF x y n z=>?_,λk aw=>?_,A.length▸h8⟩,λe=>O.noConfusion e⟩
    .refine aU (A.l e he) λf I q=>?_;obtain(⟨l,v,dw,_,hz,pC⟩):=q;exact⟨l,v,dw,hz,pC⟩
    .obtain(⟨_,_,dw,dV,_,_⟩):=x;obtain(⟨_,_,cJ,cY,_,_⟩):=y;exact n (dV.trans (dw.symm.trans (z.trans (cJ.trans cY.symm))))
    .refine aU (h7 k aw) λf hf q=>aU (A.r f hf) λe he en=>?_;obtain(⟨l,v,dw,dV,_,_⟩):=en;exact(bh e he (dw.trans (dV.symm.trans q)))
 |jx n j=>(obtain J:=aT h;clear h;subst J);obtain(⟨aa,af,o,aA,aJ,bl,cQ,eT⟩):=R;refine⟨⟨aa,af,o,aA,aJ,b7▸hw▸bl,λdn tL=>?_,by rw[bt] at eT;exact bR eT (eJ xW.symm)⟩,λe=>O.noConfusion e⟩;exact fD (cQ dn tL) λz t e Al fG=>(d2 z t e Al (by rw[bt] at fG;exact gk fG (jn.mpr (eJ xW.symm))))
 |_=>exact bK h
theorem S2{f:Nat->aQ}{i:Nat}(h:j<n):(lB f n i)[j]? =C (f (i+j)):=by unfold lB;(refine G oF ?_;refine G (List.getElem?_range' h) ?_;refine G (Nat.one_mul _) ?_);rfl
theorem Ko{f:Nat->aQ}{i:Nat}:(lB f n i).length=n:=(gB ..).trans List.length_range'
theorem l3{l:List aQ}{i:Nat}{x:aQ}(h:l[i]? =C x):i<l.length:=(j2.mp h).1
theorem S1{f:Nat->aQ}{i:Nat}(h:j<n):cI (lB f n i) j=C (f (i+j)):=(f3 _ _).trans (S2 h)
theorem S3{f:Nat->aQ}{i:Nat}{x:aQ}(h:cI (lB f n i) j=C x):j<n:=Ko (f:=f) (n:=n) (i:=i)▸l3 ((f3 _ _).symm.trans h)
theorem BN{l m:List aQ}{i:Nat}{x:aQ}(h:cI l i=C x):cI (l++m) i=C x:=(f3 _ _).trans (a4 (lK _ _) ((f3 _ _).symm.trans h))
theorem vr{l:List aQ}{f:Nat->aQ}{q i:Nat}(aX:l.length=k)(h:k<=i)(af:i<q):cI (l++lB f (q-k) eF) i=C (f (eF+(i-k))):=by subst aX;(refine G (f3 _ _) (G (pL h) ?_));exact S2 (Nat.sub_lt_sub_right h af)
theorem wC{l m:List aQ}{w i:Nat}{x:aQ}(hw:l.length=w)(h:k<=i)(e:m[i]? =C x):(l++m.drop k)[w+(i-k)]? =C x:=by(refine G (pL (hw▸gu _ _)) ?_;refine G hw (G (Ea _ _) (G Aw ?_));refine G (K4 h) ?_);exact e
theorem Hg{l:List aQ}{f:Nat->aQ}{q i:Nat}{x:aQ}(aX:l.length=k)(aw:k<=q)(e:cI (l++lB f (q-k) eF) i=C x):i<q:=by obtain this:=l3 ((f3 _ _).symm.trans e);rw[iG,Ko,aX,K4 aw] at this;exact this
theorem qg{l:List aQ}{i:Nat}(aX:l.length=n)(h:i<n):∃x,l[i]? =C x:=⟨_,i5 (aX▸h)⟩
theorem zX{l m:List aQ}{i:Nat}{x:aQ}(b7:l<+:m)(e:m[i]? =C x)(h:i<l.length):l[i]? =C x:=by(refine bG b7 λt J=>?_;try clear b7;subst J);rw[w7 h] at e;exact e
theorem FF{x:bB}(h:β.cn[k]? =C x):ag.val β [.any k]=C x:=ag.eP.mpr (d2 x [] h rfl ((lM _).symm))
theorem Bx{c:Nat}(h:β.aj[k]? =C c):ag.val β [.chr k]=C [c]:=ag.eP.mpr (d2 [c] [] (congrArg (uL λc=>[c]) h) rfl rfl)
theorem Mv{x:Int}(h:β.aE[k]? =C x):(bo.aL 0 ai k).val β=C x:=(rx h).trans (congrArg C (Ew x))
theorem Q8:∀{l:List Nat},zG l=ae->l.Nodup
 |[],_=>.nil
 |n::r,h=>by
  rw[aca] at h;split at h
  .exact c8 h
  .rename_i q;exact jD.mpr ⟨λm=>(by rw[wb.mpr m] at q;exact jB q),Q8 h⟩
theorem ac6(l:List (Nat×(Bool×O))):∀(t:dD (Bool×O))(m:Nat),(∀x∈l,x.1<10000000)->(l.map (·.1)).Nodup->(∀x,(m,x)∈l->(putAll t l).get m=C x)/\(m∉l.map (·.1)->(putAll t l).get m=t.get m):=by
 induction l with
 |nil=>exact λt m I I=>⟨λx h=>(nomatch h),λI=>rfl⟩
 |cons y l bj=>
  intro t m aD aO;rw[j4,jD] at aO;refine a3 (bj (t.put cU y.1 y.2) m (λx ak=>aD x (.tail _ ak)) aO.2) λdc dA=>?_;have bT:=aD y (.head _);have r5:=dD.k8 cU t y.1 y.2 m (by obtain this:(10000000:Nat)<=2^cU-1:=(aS rfl);exact bR (by assumption) (bA rfl));refine⟨λx h=>?_,λh=>?_⟩
  .show(putAll (t.put cU y.1 y.2) l).get m=_;rcases dh.mp h with e|h
   ·(clear h bT dc aD;subst e);exact G (dA aO.1) (G r5 (G (if_pos rfl) rfl))
   .exact dc x h
  .show(putAll (t.put cU y.1 y.2) l).get m=_;rw[j4,dh,not_or] at h;exact G (dA h.2) (G r5 (G (if_neg h.1) rfl))
theorem my(h:k_ b=C u):b=true:=by
 induction b using bV with
 |true=>rfl
 |false=>exact bK h
theorem ac5{own:Bool}{m:Bool}{y:Option (Bool×O)}(h:JJ ah hb own o m=C y):(y=none/\m=ai)\/∃b z,y=C (b,z)/\((b=ae/\own=ae/\O.up ah hb o=C z/\ny o=ae/\m=ae)\/(b=ai/\z=.gone/\own=ai)):=by
 induction m using bV with
 |false=>
  induction own using bV with
  |true=>exact bK h
  |false=>(obtain J:=aT h;clear h;subst J);exact .inl ⟨rfl,rfl⟩
 |true=>
  unfold JJ at h;dsimp only at h;generalize e:ny o=aF;induction aF using bV with
  |true=>
   rw[e] at h;induction own using bV with
   |true=>exact omap h λz a8 e=>.inr (gi ae z e.symm (.inl (D3 rfl rfl a8 rfl rfl)))
   |false=>exact bK h
  |false=>
   rw[e] at h;induction own using bV with
   |true=>exact bK h
   |false=>(obtain J:=aT h;clear h;subst J);exact .inr (gi ai .gone rfl (.inr (fi rfl rfl rfl)))
theorem abu{os:List (Bool×O)}(h:may os=ae)(aX:0<os.length):∃o,os[0]? =C (ae,o):=by
 induction os using eo with
 |nil=>exact absurd aX (qV _)
 |cons x r=>exact⟨x.2,by refine G (bW (show x.1=ae from h)) ?_;rfl⟩
theorem N8{l:List aQ}{i:Nat}:(l.drop 1)[i]? =l[i+1]? :=by(refine G Aw ?_;exact G (kp _ _) rfl)
noncomputable def A4(ah:cW)(hb:Nat)(os wx:List (Bool×O))(ns:List Nat)(n:Nat)(b:Bool)(x:O):Prop:=∃(i:Nat)(own:Bool)(o:O),wx[i]? =C (own,o)/\ns[i]? =C n/\((b=ae/\own=ae/\O.up ah hb o=C x/\ny o=ae/\(i<os.length->∃o0,os[i]? =C (ae,o0)))\/(b=ai/\x=.gone/\own=ai))
theorem A4.next{os r:List (Bool×O)}{y:Bool×O}{ns:List Nat}{m:Nat}{x:O}(h:A4 ah hb (os.drop 1) r ns m b x):A4 ah hb os (y::r) (n::ns) m b x:=by(refine kh h λi oo qE a9 bf cC=>?_;try clear h);refine⟨i+1,oo,qE,a9,bf,cC.imp_left λw=>(D3 w.1 w.2.1 w.2.2.1 w.2.2.2.1 (λaX=>?_))⟩;obtain this:=w.2.2.2.2 (G uB (Nat.lt_sub_of_add_lt aX));rw[N8] at this;exact this
theorem ada:∀{wx os:List (Bool×O)}{ns:List Nat}{l:List (Nat×(Bool×O))},JL ah hb os wx ns=C l->
  (∀n b x,(n,(b,x))∈l->A4 ah hb os wx ns n b x)/\
  (∀(i:Nat)(o0:O)(n:Nat),os[i]? =C (ae,o0)->ns[i]? =C n->∃x,(n,x)∈l):=by
 intro wx;induction wx with
 |nil=>
  intro os ns l h;induction ns using eo with
  |nil=>(obtain J:=aT h;clear h;subst J);exact⟨λn b x h=>(nomatch h),λi o0 n I h=>(nomatch h)⟩
  |cons _ _=>exact bK h
 |cons y r bj=>
  intro os ns l h;induction ns using eo with
  |nil=>exact bK h
  |cons n ns=>
   exact cu h λa_ ay h=>omap h λz a8 e=>by
    refine a3 (bj ay) λa b=>?_;have dF:∀(i:Nat)(o0:O)(m:Nat),os[i+1]? =C (ae,o0)->ns[i]? =C m->∃x,(m,x)∈a_:=λi o0 m bN hm=>b i o0 m (N8.trans bN) hm;rcases ac5 a8 with⟨rfl,hm⟩|⟨x4,x,rfl,ak⟩
    .obtain e:a_=l:=e;subst e;refine⟨λm x4 x ak=>(a m x4 x ak).next,λi o0 m bN he=>?_⟩;induction i using hD with
     |succ i=>exact dF i o0 m bN he
     |zero=>
      induction os using eo with
      |nil=>exact nomatch bN
      |cons w _=>(obtain J:=aT bN;clear bN;(clear h a8 dF b a ay;subst J));exact jB hm
    .obtain e:(n,(x4,x))::a_=l:=e;subst e;refine⟨λm el dV hm=>?_,λi o0 m bN he=>?_⟩
     .rcases dh.mp hm with q|hm
      ·(refine a3 (eD q) λJ bU=>?_;clear q;subst J;refine a3 (eD bU) λcv jC=>?_;clear bU;subst cv;(clear hm h a8;subst jC));exact⟨0,y.1,y.2,rfl,rfl,ak.imp_left λw=>(D3 w.1 w.2.1 w.2.2.1 w.2.2.2.1 (λaX=>abu w.2.2.2.2 aX))⟩
      .exact(a m el dV hm).next
     .induction i using hD with
      |zero=>(obtain J:=aT he;clear he;subst J);exact⟨_,.head _⟩
      |succ i=>exact(dF i o0 m bN he).imp λI q=>.tail _ q
end
variable{aY:aZ}{q:b4}{base:az->Option (List (aM×aB))}{zs:List Int}
section
variable{c c₂:bc}{st:St}{s b0:aN}{LQ:Nat}{h₀:gj}
theorem Sp(h:h1 ah bY st p=ae):ah.ad.length=p.os.length/\ah.aE.length=p.ar.length/\ah.aj.length=p.aC.length/\ah.cn.length=p.ns/\p.os.length<=100000/\(∀(i n:Nat),ah.ad[i]? =C n->n<st.no):=by unfold h1 at h;simp only[ew] at h;(refine a3 h λJ RS=>?_;try clear h;refine a3 J λbU wI=>?_;try clear J;refine a3 bU λcv JN=>?_;try clear bU;refine a3 cv λjC RR=>?_;try clear cv;refine a3 jC λsk JM=>?_;try clear jC;refine a3 sk λsl fQ=>?_;try clear sk;refine a3 sl λdT cG=>?_;try clear sl);exact fO (zQ cG) λt8 qE I=>(agA t8.symm ((p4 (f:=Bq st.ar bY) fQ).length.symm) ((p4 (f:=By st.aC) JM).length.symm) (d0 JN) (bA dT) (λi n e=>qE n (ma e)))
noncomputable def aZ.past(β aY:aZ)(p:b4):aZ:=⟨β.ad++aY.ad.drop p.os.length,β.aE++aY.aE.drop p.ar.length,β.aj,β.cn++aY.cn.drop p.ns⟩
theorem aZ.qI:β.le (β.past aY p):=⟨lK _ _,lK _ _,iH _,lK _ _⟩
theorem acW(H:SatO g c st β s.heap)(h:h1 ah bY st p=ae)(T:e7 ah (pull ah β) β)(e8:SatO cV c₂ q.st aY b0.heap)(le:(pull ah β).le aY)(lb:p.aC.length=q.aC.length)(aw:p.os.length<=q.os.length)(bN:p.ar.length<=q.ar.length)(aO:p.ns<=q.ns):
  e7 (ah.ext st p q) aY (β.past aY p):=by
 refine Rj (Sp h) λeG fB qy rV I I=>?_;obtain hP:(pull ah β).ad.length=p.os.length:=by show(ah.ad.map _).length=_;exact G (gB _) (G eG rfl)
 obtain ll:(pull ah β).aE.length=p.ar.length:=by show(ah.aE.map _).length=_;exact G (gB _) (G fB rfl)
 obtain zt:(pull ah β).aj.length=p.aC.length:=by show(ah.aj.map _).length=_;exact G (gB _) (G qy rfl)
 obtain rZ:(pull ah β).cn.length=p.ns:=by show(ah.cn.map _).length=_;exact G (gB _) (G rV rfl)
 have eV:aY.ad.length=q.os.length:=e8.len;have dY:aY.aE.length=q.ar.length:=e8.facts.aE.length.symm;have wc:aY.aj.length=q.aC.length:=e8.facts.aj.length.symm;have r1:aY.cn.length=q.ns:=e8.facts.dd;obtain bZ:β.ad.length=st.no:=H.len;obtain c5:β.aE.length=st.ar.length:=H.facts.aE.length.symm;obtain jX:β.cn.length=st.ns:=H.facts.dd;constructor
 .intro i x e;rcases xn i p.os.length with aX|aX
  .exact aU (T.ad i x (zX le.ad e (hP▸aX))) λn a b=>(bh n (BN a) (a4 (lK _ _) b))
  .exact(bh _ (vr eG aX (eV▸l3 e)) (wC bZ aX e))
 .intro i x e;rcases xn i p.ar.length with aX|aX
  .exact aU (T.aE i x (zX le.aE e (ll▸aX))) λn a b=>(bh n (BN a) (bo.hy aZ.qI b))
  .exact(bh _ (vr fB aX (dY▸l3 e)) (Mv (wC c5 aX e)))
 .intro i x e;exact aU (T.aj i x (zX le.aj e ((wc.trans (lb.symm.trans zt.symm))▸l3 e))) λn a b=>(bh n a (ag.hy aZ.qI b))
 .intro i x e;rcases xn i p.ns with aX|aX
  .exact aU (T.cn i x (zX le.cn e (rZ▸aX))) λn a b=>(bh n (BN a) (ag.hy aZ.qI b))
  .exact(bh _ (vr rV aX (r1▸l3 e)) (FF (wC jX aX e)))
 .exact λi n e=>qg eV (Hg eG aw e)
 .exact λi n e=>qg dY (Hg fB bN e)
 .exact λi n e=>qg wc (lb▸qy▸l3 ((f3 _ _).symm.trans e))
 .exact λi n e=>qg r1 (Hg rV aO e)
theorem shifted{bs:List b6}(h:bL (λ(b:b6)(z:Int)=>b.1<=z/\z<=b.2.1/\∀j,b.2.2=C j->z<=((S+hb+j:Nat):Int)) bs zs):
  bL (λ(b:b6)(z:Int)=>b.1<=z/\z<=b.2.1/\∀j,b.2.2=C j->z<=((S+j:Nat):Int)) (bs.map (Sg hb)) zs:=by
 induction h with
 |nil=>exact .nil
 |cons r _ bj=>exact .cons (fi r.1 r.2.1 (λj cE=>omap cE λk aw e=>by(refine G (bW e) ?_;(refine G ((kp k) _) (G (bW (kW _ _ _)) ?_)));exact r.2.2 k aw)) bj
noncomputable def Kept(st:St)(β:aZ)(hd:List Nat)(x:az):Prop:=∃n o a d,st.σ.get n=C (ae,o)/\n∉hd/\β.ad[n]? =C (a,d)/\(x=a\/x=d)
open Classical in
noncomputable def ownerOf(st:St)(β:aZ)(hd l:List Nat)(f oZ:az->Nat)(x:az):Nat:=if Kept st β hd x then f x else(l[oZ x]?).getD 0
theorem RC{hd l:List Nat}{oZ:az->Nat}{x:az}(h:Kept st β hd x):ownerOf st β hd l f oZ x=f x:=by unfold ownerOf;exact if_pos h
theorem RD{hd l:List Nat}{oZ:az->Nat}{x:az}{i:Nat}(h:¬Kept st β hd x)(e:oZ x=i)(q:l[i]? =C n):ownerOf st β hd l f oZ x=n:=by unfold ownerOf;(refine G (if_neg h) (G e (G q ?_)));rfl
theorem acX(U:c.Ok g dep)(H:Sat g c st β s)(h:h1 ah bY st p=ae)(N:Seen g c st β s dep ah bY p h₀ base)(e8:SatO cV c₂ q.st aY b0.heap)(le:(pull ah β).le aY)
  (eB:∀a o,h₀.get? a=C o->c₂.P a=C o)(gw:c₂.L=c.L)(hr:c₂.cx=c.cx)(bt:cV.S=g.S+(bY+LQ))(b7:cV.prog=g.prog)(hw:cV.w=g.w)(e:RH ah (bY+LQ) st p q=C bp):
  SatO g c bp (β.past aY p) b0.heap/\e7 (ah.ext st p q) aY (β.past aY p)/\bp.loc=st.loc:=by
 exact cu e λhH bb e=>cu e λl aX e=>omap e λhH e9 e=>by
  subst e;have bb:=my bb;obtain dw:=d0 (bS (bS (bS (bS (bS bb)))));obtain dV:=bA (bC (bS (bS (bS (bS bb)))));obtain hz:=bA (bC (bS (bS (bS bb))));have pC:=bA (bC (bS (bS bb)));have agF:=bA (bC (bS bb));have Tq:=bA (bC bb);have T:=acW H.toSatO h N.pull e8 le dw dV hz pC;refine(fi ?_ T rfl);refine Rj (Sp h) λeG fB qy rV hH aa3=>?_;have e9:(l.map (·.1)).Nodup:=Q8 (my e9);refine a3 (ada aX) λdf dx=>?_;obtain eV:aY.ad.length=q.os.length:=e8.len;obtain bZ:β.ad.length=st.no:=H.len;obtain small:∀x∈l,x.1<10000000:=λx ak=>by
   refine kh (df x.1 x.2.1 x.2.2 ak) λi own o a9 bf hH=>?_;have bN:i<q.os.length:=l3 a9;rcases xn i p.os.length with aX|aX
   .obtain this:=aa3 i x.1 (zX (lK _ _) bf (eG.symm▸aX));exact ij this (bR (gu _ _) (bR Tq (bA rfl)))
   .obtain e:st.no+(i-p.os.length)=x.1:=c0 (((f3 _ _).symm.trans (vr (f:=id) eG aX bN)).symm.trans bf);exact jk (bR (eJ e.symm) (bR (mc (bR (Nat.sub_le _ _) (kq bN)) _) Tq)) (bA rfl)
  refine bG H.objs λf hf=>bG e8.objs λoZ Zl=>?_;have get:=λm=>ac6 l st.σ m small e9;refine⟨λa o q=>e8.keep a o (eB a o (N.up a o q)),λx ak=>e8.cx x (hr▸ak),⟨ownerOf st β (h_ p.os ah.ad) (ah.ext st p q).ad f oZ,λn own o aO=>?_⟩,?_,?_,H.ghost.trans aZ.qI⟩
  .replace aO:(putAll st.σ l).get n=C (own,o):=aO;by_cases aw:n∈l.map (·.1)
   .refine aU (kY.mp aw) λe6 ak G7=>?_;(clear aw;subst G7);have ak:(e6.1,(own,o))∈l:=by exact G (bW (c0 (((get e6.1).1 e6.2 ak).symm.trans aO))) ak
    refine kh (df e6.1 own o ak) λi oq dp a9 bf cC=>?_;have GX:q.st.σ.get i=C (oq,dp):=(b4.get (bR agF (aS rfl)) i).trans a9;obtain(⟨a,d,g1,g2,g3⟩):=Zl i oq dp GX;refine aU (T.ad i (a,d) g1) λm t1 jh=>?_;cases bf.symm.trans ((f3 _ _).symm.trans t1);suffices q:cN g (c.seer b0.heap own) (β.past aY p) a d o/\(own=ae->Ff c (ownerOf st β (h_ p.os ah.ad) (ah.ext st p q).ad f oZ) e6.1 a d o) from⟨a,d,jh,q.1,q.2⟩;rcases cC with⟨nG,rfl,ji,jV,SS⟩|⟨nG,ji,rfl⟩
    ·(clear ak aO;subst nG);refine a3 (O.S0 (g:=g) T bt b7 hw ji (show cN cV b0.heap.get? aY a d dp from g2)) λdc dA=>?_;obtain(⟨cJ,cY,fw,gT,_⟩):=g3 rfl;have Rh:∀b,c₂.gV b->¬Kept st β (h_ p.os ah.ad) b:=λb h6 k=>by(refine Rn k λn o a d v1 v2 wZ v4=>?_;try clear k);obtain(⟨dq,ec,fG,hA,kn⟩):=hf n ae o v1;obtain(⟨_,_,_,_,iT⟩):=kn rfl;exact bG (N.own n ae o a d v1 v2 wZ iT b v4) λx ak=>gy (h6.1.symm.trans (eB b x ak))
     have free:∀b,c₂.gV b->c.gV b:=λb h6=>by
      refine⟨?_,λz=>h6.2.1 (z.trans gw.symm),λx ak=>h6.2.2 x (hr.symm▸ak)⟩;generalize w:c.P b=aF;induction aF using b1 with
      |none=>rfl
      |some o=>exact gy (h6.1.symm.trans (eB b o (N.up b o w)))
     exact⟨dc,λhH=>⟨RD (Rh a fw) cJ bf,RD (Rh d gT) cY bf,free a fw,free d gT,dA⟩⟩
    ·(clear ak aO;subst nG);exact G ji ⟨trivial,λe=>by exact c8 e⟩
   .rw[(get n).2 aw] at aO;obtain(⟨a,d,g1,g2,g3⟩):=hf n own o aO;suffices q:cN g (c.seer b0.heap own) (β.past aY p) a d o/\(own=ae->Ff c (ownerOf st β (h_ p.os ah.ad) (ah.ext st p q).ad f oZ) n a d o) from⟨a,d,a4 (aZ.qI (aY:=aY) (p:=p)).ad g1,q.1,q.2⟩;induction own using bV with
    |false=>exact⟨cN.mono aZ.qI (λhH e=>e) (λhH e=>e) (show cN g c.P β a d o from g2),λe=>by exact c8 e⟩
    |true=>
     obtain(⟨cJ,cY,fw,gT,gM⟩):=g3 rfl;have De:n∉h_ p.os ah.ad:=λz=>by exact cA (Rr z) λi o0 a9 bf=>bG (dx i o0 n a9 (a4 (lK _ _) bf)) λx ak=>aw (kU (f:=(·.1)) ak)
     refine cA (N.rest n ae o aO De) λdq ec fG hA=>?_;cases g1.symm.trans fG;have I:∀b,b=a\/b=d->Kept st β (h_ p.os ah.ad) b:=λb aD=>⟨n,o,a,d,aO,De,g1,aD⟩;exact⟨cN.mono aZ.qI (λo e=>e8.keep a o (eB a o e)) (λo e=>e8.keep d o (eB d o e)) hA,λhH=>⟨(RC (I a (.inl rfl))).trans cJ,(RC (I d (.inr rfl))).trans cY,fw,gT,gM⟩⟩
  .show(β.ad++aY.ad.drop p.os.length).length=st.no+(q.os.length-p.os.length);exact G iG (G uB (G bZ (G eV rfl)))
  .refine⟨?_,H.facts.aj,H.facts.cd,?_,λl aX=>?_⟩
   .refine H.facts.aE.append (shifted (hb:=bY+LQ) ?_);obtain this:=e8.facts.aE.drop p.ar.length;rw[bt] at this;exact this
   .show(β.cn++aY.cn.drop p.ns).length=st.ns+(q.ns-p.ns);(refine G iG (G uB (G H.facts.dd (G e8.facts.dd ?_))));rfl
   .rcases me.mp aX with aX|aX
    .exact H.facts.cn l aX
    .exact e8.facts.cn l (List.mem_of_mem_drop aX)
end
structure xF(g:cz)(c:bc)(cV:cz)(c₂:bc)(hb:Nat):Prop where
 S:cV.S=g.S+hb
 prog:cV.prog=g.prog
 w:cV.w=g.w
 dU:cV.dU=g.dU
 up:∀a o,c.P a=C o->c₂.P a=C o
 L:c₂.L=c.L
 cx:c₂.cx=c.cx
noncomputable def mg(h:nW)(g:cz)(c:bc)(β:aZ)(s:aN):Prop:=∀aH,bL (a7 β) h.bu aH->∀(Q:aB->aN->Prop)(E:aB->aN->Prop),
 (match h.ex with
 |false=>∀y b0 cV c₂ aY,β.le aY->SatO cV c₂ h.q.st aY b0.heap->m6 g b0->xF g c cV c₂ h.q9->a7 aY h.r y->Q y b0
 |true=>∀e b0 cV c₂ aY,β.le aY->SatO cV c₂ h.q.st aY b0.heap->m6 g b0->xF g c cV c₂ h.q9->pU c₂ b0.heap e False->E (.ref e) b0)->jG g c (.ref h.f) aH Q E s
noncomputable def bc.seal(c:bc)(o:cj):bc:=c.enter c.L o c.fr c.A
section
variable{c:bc}{st:St}{s:aN}
theorem bc.Ok.seal(U:c.Ok g dep){o:cj}{au:Array hT}(hd:o.data=.dict au fm):(c.seal o).Ok g dep:=by
 refine⟨U.base,U.frames,λenv he=>?_,λx ak=>?_,U.iX,U.depth,U.units,U.calm,U.dep⟩
 .obtain(⟨aa,a,af,aJ⟩):=U.here env he;refine⟨aa,a,af,?_⟩;rcases aJ with aJ|⟨x,ak,aJ⟩
  .exact .inl aJ
  .exact .inr (bh x (.tail _ ak) aJ)
 .rcases dh.mp ak with rfl|ak
  .exact⟨U.iX,au,fm,hd⟩
  .exact U.hd x ak
theorem Sat.seal(H:Sat g c st β s){o:cj}(bx:s.heap.get? c.L=C o):Sat g (c.seal o) {st with loc:=[]} β s:=by
 refine bG H.objs λf hf=>?_;obtain S:=H.toSatO.enter (L:=c.L) (fr:=c.fr) (A:=c.A) (fS:=[]) bx λn y a d q aa=>by obtain(⟨dq,ec,bZ,_,fF⟩):=hf n ae y q;rw[aa] at bZ;(obtain J:=aT bZ;clear bZ;refine a3 (eD J) λbU cv=>?_;clear J;subst bU;subst cv);obtain(⟨_,_,df,dx,_⟩):=fF rfl;exact⟨df.2.1,dx.2.1⟩
 exact aU H.loc λm hm I=>⟨S,H.os,m,hm,λx v e=>by exact bK e⟩
theorem bc.Ok.raise{p9:Nat}(U:c.Ok g dep)(h:dep<=p9)(ay:p9<400):c.Ok g p9:=by obtain aa:=U.depth;obtain af:=U.units;exact⟨U.base,U.frames,U.here,U.hd,U.iX,by lia,by lia,λI=>U.calm (jk (by assumption) (by assumption)),by lia⟩
set_option tactic.hygienic true in
theorem ZJ{h:nW}(O:g.Ok)(bt:g.S+h.bY<=100000)
  (f7:∀(c:bc)(dep:Nat)(β:aZ)(s:aN)(h₀:gj)(base:az->Option (List (aM×aB))),(g.re h₀ h.bY (pull h.ah β) base).Ok->c.Ok (g.re h₀ h.bY (pull h.ah β) base) dep->dep<=h.D->
   Sat (g.re h₀ h.bY (pull h.ah β) base) c h.p.st (pull h.ah β) s->c.P=h₀.get?->g.dQ.le β->e7 h.ah (pull h.ah β) β->(∀a o,g.h₀.get? a=C o->h₀.get? a=C o)->(∀a o aA,s.heap.get? a=C o->o.IsDictOf (strKind g.prog g.w) aA->base a=C aA)->mg h (g.re h₀ h.bY (pull h.ah β) base) c (pull h.ah β) s):fu g (fp h):=by
 intro c dep β f aK aH U R aW st s aa H;obtain R:=R.imp λ_ _ x=>x.le aa;unfold At;dsimp only;generalize q:fp h dep (.c (.ref f)) aK st=aF;induction aF using b1 with
 |none=>trivial
 |some o=>
  unfold fp at q;dsimp only at q;split at q
  .rename_i hm;rw[ew] at hm;obtain rfl:=d0 hm.1;obtain hh:=bA hm.2;split at q
   .rename_i bM;rw[ew] at bM;(refine a3 bM λs1 s2=>?_;try clear bM);refine mG H.loc.obj λfT qe tk hj jv mz ob=>?_;have ek:=U.seal jv;have oJ:=H.seal hj;refine mF (sb O ek oJ s1 bt) λh₀ base N=>?_;obtain rs:=BB N.pull H.facts s2 R;have ye:=f7 ((c.seal fT).re h₀) dep aW s h₀ base N.ok N.ct hh N.sat rfl H.ghost N.pull (λa o e=>N.up a o (ek.base a o e)) N.base aH rs;split at q
    .rename_i qQ v b7 bJ;have fin:∀{b0:aN}{cV:cz}{c₂:bc}{aY:aZ},(pull h.ah aW).le aY->SatO cV c₂ h.q.st aY b0.heap->m6 g b0->xF (g.re h₀ h.bY (pull h.ah aW) base) ((c.seal fT).re h₀) cV c₂ h.q9->
       ∃mf,aW.le mf/\Sat g c {qQ with loc:=st.loc} mf b0/\e7 (h.ah.ext {st with loc:=[]} h.p h.q) aY mf:=λle e8 bx a6=>by refine fO (acX ek oJ s1 N e8 le a6.up a6.L a6.cx (G a6.S (kW _ _ _)) a6.prog a6.w b7) λu3 A9 _=>?_;refine(fV _ aZ.qI ?_ A9);refine⟨u3.leave,bx,?_⟩;exact bG (u3.cx (c.L,fT) (.head _)) λdd e=>⟨_,⟨_,qe,tk,e,jv,mz,λ_=>rfl⟩,λx v e=>(aU (ob x v e) λy a b=>(bh y a (b.le aZ.qI)))⟩
     split at q
     .rename_i ak;(obtain J:=aT q;clear q;subst J);intro Q E aq;unfold mg at ye;rw[ak] at ye;exact ye Q E λy b0 cV c₂ aY le e8 bx a6 r=>eH (fin le e8 bx a6) λmf rY u3 A9=>aq y b0 mf rY u3 ((V.Ad A9 bJ).mp r)
     .rename_i ak;(have J:=aT q;clear q;subst J);intro Q E aq;rw[ak] at ye;refine ye Q E λe b0 cV c₂ aY le e8 bx a6 gG=>eH (fin le e8 bx a6) λmf rY u3 A9=>aq (.ref e) b0 mf rY ⟨e,rfl,?_,u3⟩;refine ih gG.told λcg us a1 a2 cm c_ dR fe=>?_;have down:∀{x:az},c₂.P x=none->c.P x=none:=λ{x} aO=>by
       generalize w:c.P x=aF;induction aF using b1 with
       |none=>rfl
       |some f_=>have:=a6.up x f_ (N.up x f_ w);rw[aO] at this;exact bK this
      exact⟨cg,us,a1,a2,cm,down c_,dR,fe.imp id λgd=>(by(refine Rn gd λT e2 cp eM cB el gF jr=>?_;try clear gd);exact(agE T e2 cp eM cB el (down gF) jr))⟩
    ·(obtain J:=aT q;clear q;subst J);trivial
   ·(obtain J:=aT q;clear q;subst J);trivial
  .exact bK q
end
structure dg(g:cz)(e:b4)(β:aZ):Prop where
 objs:∀(i:Nat) own o,e.os[i]? =C (own,o)->∃a d,β.ad[i]? =C (a,d)/\cN g g.h₀.get? β a d o
 len:β.ad.length=e.os.length
 facts:Facts g.S e.ar e.aC e.ns β
variable{ax:aZ}{ch:Nat}
section
variable{c:bc}{st:St}{s:aN}{e:b4}{aj:List ag}
theorem aga{x:O}(h:Km ah o=C x):(o=.gone/\x=.gone)\/O.up ah 0 o=C x:=by
 unfold Km at h;generalize e:ny o=aF;induction aF using bV with
 |true=>rw[e] at h;exact .inr h
 |false=>rw[e] at h;exact .inl ⟨Rg (congrArg not e),(c0 h).symm⟩
theorem aat:∀{os:List (Bool×O)}{t dC:dD (Bool×O)}{i m:Nat},IK ah os t i=C dC->i+os.length<=10000000->(m<i->dC.get m=t.get m)/\(i+os.length<=m->dC.get m=t.get m)/\
  (i<=m->m<i+os.length->∃own o,os[m-i]? =C (own,o)/\((o=.gone/\dC.get m=C (ai,.gone))\/∃dp,O.up ah 0 o=C dp/\dC.get m=C (ai,dp))):=by
 intro os;induction os with
 |nil=>intro t dC i m h aD;(obtain J:=aT h;clear h;subst J);exact(fi (λI=>rfl) (λI=>rfl) (λaa af=>absurd af (i6.mpr aa)))
 |cons y r bj=>
  intro t dC i m h aD;exact cu h λx ZL ak=>by
   have bd:i<=2^cU-2:=bR (TV aD) (aS rfl);have aD:i+1+r.length<=10000000:=by(refine G (kW _ _ _) (G ((kp 1) _) ?_));exact aD
   refine fO (bj (m:=m) ak aD) λdc dA hx=>?_;have r5:=dD.k8 cU t i (ai,x) m (jk bd (aS rfl:2^cU-2<2^cU-1));refine(fi (λhm=>?_) (λhm=>?_) (λaa af=>?_))
   ·(exact G (dc (xf hm)) (G r5 (G (if_neg (kr hm)) rfl)))
   .have hm:i+1+r.length<=m:=by(refine G (kW _ _ _) (G ((kp 1) _) ?_));exact hm
    exact G (dA hm) (G r5 (G (if_neg (pF (TV hm))) rfl))
   .by_cases hm:m=i
    ·(clear af aa hx dA bd ak aD h;subst hm);refine(gi y.1 y.2 (G (uI _) rfl) ?_);have:dC.get m=C (ai,x):=by exact G (dc (Lk _)) (G r5 (G (if_pos rfl) rfl))
     rcases aga ZL with q|q
     .exact .inl ⟨q.1,q.2▸this⟩
     .exact .inr (bh x q this)
    .refine cA (hx (Ay aa (j1 hm)) (by(refine G (kW _ _ _) (G ((kp 1) _) ?_));exact af)) λoq dp a9 bf=>?_;refine(gi oq dp ?_ bf);obtain this:m-i=(m-(i+1))+1:=by exact J8 (Ay aa (j1 hm))
     exact G this a9
noncomputable def aZ.app(β:aZ)(k:Nat)(ax:aZ):aZ:=⟨β.ad++ax.ad.drop k,β.aE++ax.aE,β.aj,β.cn++ax.cn⟩
theorem aZ.eb:β.le (β.app k ax):=⟨lK _ _,lK _ _,iH _,lK _ _⟩
theorem aav{pre:List Nat}(H:SatO g c st β s.heap)(E:dg g e ax)(b_:∀k ch,ax.aj[k]? =C ch->∃x,cI aj k=C x/\ag.val β x=C [ch])(aX:aj.length=e.aC.length)(Ia:∀(i n:Nat),pre[i]? =C n->∃x,ax.ad[i]? =C x/\β.ad[n]? =C x):e7 (PV st pre aj e) ax (β.app pre.length ax):=by
 obtain bZ:β.ad.length=st.no:=H.len;obtain c5:β.aE.length=st.ar.length:=H.facts.aE.length.symm;obtain jX:β.cn.length=st.ns:=H.facts.dd;have eV:=E.len;have dY:ax.aE.length=e.ar.length:=E.facts.aE.length.symm;obtain wc:ax.aj.length=e.aC.length:=E.facts.aj.length.symm;have r1:ax.cn.length=e.ns:=E.facts.dd;have b7:∀(i:Nat)(bN:i<pre.length),∃x,ax.ad[i]? =C x/\β.ad[pre[i]]? =C x:=λi bN=>Ia i _ (i5 bN);constructor
 .intro i x q;rcases xn i pre.length with bN|bN
  .refine aU (b7 i bN) λy cJ cY=>?_;cases q.symm.trans cJ;exact(bh (pre[i]) (BN ((f3 _ _).trans (i5 bN))) (a4 aZ.eb.ad cY))
  .exact(bh _ (vr rfl bN (eV▸l3 q)) (wC bZ bN q))
 .exact λi x q=>(bh _ (S1 (dY▸l3 q)) (Mv (wC (k:=0) c5 (l9 _) q)))
 .intro i x q;exact aU (b_ i x q) λy a b=>(bh y a (ag.hy aZ.eb b))
 .exact λi x q=>(bh _ (S1 (r1▸l3 q)) (FF (wC (k:=0) jX (l9 _) q)))
 .intro i n q;rcases xn i pre.length with bN|bN
  .exact(b7 i bN).imp λI y=>y.1
  .obtain this:=l3 ((f3 _ _).symm.trans (show cI (pre++lB id (e.os.length-pre.length) st.no) i=C n from q));rw[iG,Ko] at this;exact qg eV (by lia)
 .exact λi n q=>qg dY (S3 q)
 .exact λi n q=>qg wc (aX▸l3 ((f3 _ _).symm.trans q))
 .exact λi n q=>qg r1 (S3 q)
theorem PW{pre:List Nat}(U:c.Ok g dep)(H:Sat g c st β s)(E:dg g e ax)(b_:∀k ch,ax.aj[k]? =C ch->∃x,cI aj k=C x/\ag.val β x=C [ch])(aX:aj.length=e.aC.length)(Ia:∀(i n:Nat),pre[i]? =C n->∃x,ax.ad[i]? =C x/\β.ad[n]? =C x)(h:hu st pre aj e=C bp):Sat g c bp (β.app pre.length ax) s:=by
 exact cu h λI aD h=>omap h λt ff h=>by
  subst h;obtain aD:=bA (my aD);have T:=aav H.toSatO E b_ aX Ia;obtain bZ:β.ad.length=st.no:=H.len;refine bG H.objs λf hf=>⟨⟨H.keep,H.cx,⟨f,λn own o q=>?_⟩,?_,?_,H.ghost.trans aZ.eb⟩,H.os,H.loc.le aZ.eb⟩
  .refine fO (aat (m:=n) ff (G uB (bR (mc (Nat.sub_le _ _) _) (bR aD (bA rfl))))) λdc dA hx=>?_;rw[uB] at dA hx;replace q:t.get n=C (own,o):=q;by_cases aO:st.no<=n/\n<st.no+(e.os.length-pre.length)
   .refine cA (hx aO.1 aO.2) λoq dp a9 bf=>?_;rw[Aw] at a9;refine cA (E.objs _ _ _ a9) λa d cJ cY=>aU (T.ad _ _ cJ) λm t1 jh=>?_;obtain hm:m=n:=by have jh:cI (pre++lB id (e.os.length-pre.length) st.no) (pre.length+(n-st.no))=_:=vr rfl (gu _ _) (Nat.add_lt_of_lt_sub' (Nat.sub_lt_left_of_lt_add aO.1 aO.2));cases jh.symm.trans t1;show st.no+(pre.length+(n-st.no)-pre.length)=n;exact G (Ea _ _) (G (K4 aO.1) rfl)
    (clear t1 cJ a9 aO hx dA dc;subst hm);rcases bf with⟨_,bf⟩|⟨ahH,bf,cC⟩
    .rw[bf] at q;(obtain J:=aT q;clear q;refine a3 (eD J) λbU cv=>?_;clear J;subst bU;subst cv);exact⟨a,d,jh,trivial,λz=>by exact c8 z⟩
    .rw[cC] at q;(obtain J:=aT q;clear q;refine a3 (eD J) λbU cv=>?_;clear J;subst bU;subst cv);exact a3 (O.S0 (g:=g) (cV:=g) T rfl rfl rfl bf cY) λfG I=>⟨a,d,jh,cN.mono (.refl _) (λo w=>U.base a o w) (λo w=>U.base d o w) fG,λz=>by exact c8 z⟩
   .obtain this:t.get n=st.σ.get n:=by
     by_cases aa:n<st.no
     .exact dc aa
     .exact dA (so λz=>aO ⟨so aa,z⟩)
    rw[this] at q;obtain(⟨a,d,aa,af,aJ⟩):=hf n own o q;exact⟨a,d,a4 aZ.eb.ad aa,af.mono aZ.eb (λI e=>e) (λI e=>e),aJ⟩
  .show(β.ad++ax.ad.drop pre.length).length=st.no+(e.os.length-pre.length);exact G iG (G uB (G bZ (G E.len rfl)))
  .refine⟨H.facts.aE.append E.facts.aE,H.facts.aj,H.facts.cd,?_,λl aX=>?_⟩
   .show(β.cn++ax.cn).length=st.ns+e.ns;exact G iG (G H.facts.dd (G E.facts.dd rfl))
   .rcases me.mp aX with aX|aX
    .exact H.facts.cn l aX
    .exact E.facts.cn l aX
theorem WR(U:c.Ok g dep)(H:Sat g c st β s){gs:O}{a:az}{o:cj}(aO:n<10000000)(h0:st.σ.get n=C (ai,gs))(aV:β.ad[n]? =C (a,a))(eB:c.P a=C o)(hd:o.IsDictOf (strKind g.prog g.w) aA)
  (ns:a≠kv)(aa:kZ β aA au)(af:au.Pairwise (λe f=>e.1.val β≠f.1.val β))(aD:∀old,g.base a=C old->old=aA)(hlen:aA.length<=au.length+g.S):
  Sat g c {st with σ:=st.σ.put cU n (ai,.dict au (C []))} β s:=by
 refine bG H.objs λf hf=>⟨⟨H.keep,H.cx,⟨f,λm own y q=>?_⟩,H.len,H.facts,H.ghost⟩,H.os,H.loc⟩;replace q:(st.σ.put cU n (ai,.dict au (C []))).get m=C (own,y):=q;rw[dD.k8 cU st.σ n _ m (ij aO (aS rfl))] at q;by_cases hm:m=n
 ·(clear h0 aO;subst hm);rw[if_pos rfl] at q;(obtain J:=aT q;clear q;refine a3 (eD J) λbU cv=>?_;clear J;subst bU;subst cv);refine⟨a,a,aV,⟨rfl,ns,o,aA,eB,hd,aa,af,⟨λe he=>(nomatch he),λold bx=>by exact G (aD old bx) ⟨iH _,λk=>.inr rfl⟩⟩,hlen⟩,λz=>by exact c8 z⟩
 .rw[if_neg hm] at q;exact hf m own y q
theorem Qk(H:Sat g c st β s){l:bB}(hm:ch∈l)(aO:ch∉β.aj):Sat g c {st with aC:=st.aC++ [l]} {β with aj:=β.aj++ [ch]} s/\β.le {β with aj:=β.aj++ [ch]}:=by
 have le:β.le {β with aj:=β.aj++ [ch]}:=⟨iH _,iH _,lK _ _,iH _⟩;refine bG H.objs λf hf=>⟨⟨⟨H.keep,H.cx,⟨f,λn own o q=>?_⟩,H.len,⟨H.facts.aE,H.facts.aj.append (.cons hm .nil),?_,H.facts.dd,H.facts.cn⟩,H.ghost.trans le⟩,H.os,H.loc.le le⟩,le⟩
 .obtain(⟨a,d,aa,af,aJ⟩):=hf n own o q;exact⟨a,d,aa,af.mono le (λI e=>e) (λI e=>e),aJ⟩
 .exact gN List.nodup_append (fi H.facts.cd (by simp) (λx ak y bT e=>aO (by rw[eu.mp bT] at e;exact G (bW e) ak)))
end
theorem DE:∀{l m:List aQ},(∀(i:Nat) x,l[i]? =C x->m[i]? =C x)->l<+:m:=by
 intro l;induction l with
 |nil=>exact λI=>List.nil_prefix
 |cons a l bj=>
  intro m h;induction m using eo with
  |nil=>exact nomatch h 0 a rfl
  |cons b m=>cases c0 (h 0 a rfl);exact List.cons_prefix_cons.mpr ⟨rfl,bj λi x q=>h (i+1) x q⟩
theorem DD{f:Nat->aQ->Bool}:∀{k i:Nat}{l:List aQ},wG f k i l=ae->∀j,j<k->∃x,l[j]? =C x/\f (i+j) x=true:=by
 intro k;induction k with
 |zero=>exact λI I h=>absurd h (xk _)
 |succ k bj=>
  intro i l h j cE;induction l using eo with
  |nil=>exact c8 h
  |cons x r=>
   cases j with
   |zero=>exact(bh x rfl (bS h))
   |succ j=>exact aU (bj (bC h) j (TU cE)) λy aa af=>(bh y aa (by(refine G ((kp j) _) (G (bW (kW _ _ _)) ?_));exact af))
theorem Ip{i:Nat}{l:List Nat}(h:Cx i l k=ae)(j:Nat)(cE:j<k):l[j]? =C (i+j):=by refine aU (DD h j cE) λx aa af=>?_;exact G aa (G (d0 af) rfl)
theorem Z6{i:Nat}{l:List bo}(h:PA i l k=ae)(j:Nat)(cE:j<k):l[j]? =C (.aL 0 ai (i+j)):=by exact aU (DD h j cE) λx aa af=>cF af λq e h=>by(refine G aa (G (xY e) (G (d0 (bS h)) (G (d0 (bC h)) ?_))));rfl
theorem Z5{i:Nat}{l:List ag}(h:Pz i l k=ae)(j:Nat)(cE:j<k):l[j]? =C [.chr (i+j)]:=by
 exact aU (DD h j cE) λx aa af=>cF af λq e h=>by
  (refine G aa (G (lu e) ?_));clear e;induction q using MI.c1.casesOn with
  |chr v=>exact G (d0 h) rfl
  |_=>exact c8 h
theorem Z7{i:Nat}{l:List ag}(h:PB i l k=ae)(j:Nat)(cE:j<k):l[j]? =C [.any (i+j)]:=by
 exact aU (DD h j cE) λx aa af=>cF af λq e h=>by
  (refine G aa (G (lu e) ?_));clear e;induction q using MI.c1.casesOn with
  |any v=>exact G (d0 h) rfl
  |_=>exact c8 h
structure Fits(p:b4)(β:aZ):Prop where
 ad:β.ad.length=p.os.length
 aE:β.aE.length=p.ar.length
 aj:β.aj.length=p.aC.length
 cn:β.cn.length=p.ns
theorem PC(h:Io ah p=ae)(T:e7 ah (pull ah av) av)(l:β.le av)(F:Fits p β):β.le (pull ah av):=by
 unfold Io at h;simp only[ew] at h;(refine a3 h λJ bl=>?_;try clear h;refine a3 J λbU aJ=>?_;try clear J;refine a3 bU λaa af=>?_;try clear bU);refine⟨DE λi x q=>?_,DE λi x q=>?_,DE λi x q=>?_,DE λi x q=>?_⟩
 .obtain this:=Ip aa i (F.ad▸(j2.mp q).1);show(ah.ad.map _)[i]? =_;(refine G oF ?_;refine G this ?_;(refine G (uJ _) (G (nS _ _) ?_));refine G (a4 l.ad q) ?_);rfl
 .obtain this:=Z6 af i (F.aE▸(j2.mp q).1);show(ah.aE.map _)[i]? =_;(refine G oF ?_;refine G this ?_;(refine G (uJ _) (G (nS _ _) ?_));refine G (rx (a4 l.aE q)) ?_);exact congrArg C (Ew x)
 .obtain this:=Z5 aJ i (F.aj▸(j2.mp q).1);show(ah.aj.map _)[i]? =_;(refine G oF ?_;refine G this ?_;(refine G (uJ _) (G (nS _ _) ?_));refine G (Bx (a4 l.aj q)) ?_);rfl
 .obtain this:=Z7 bl i (F.cn▸(j2.mp q).1);show(ah.cn.map _)[i]? =_;(refine G oF ?_;refine G this ?_;(refine G (uJ _) (G (nS _ _) ?_));refine G (FF (a4 l.cn q)) ?_);rfl
section
variable{c:bc}{st:St}{mf:aZ}{s:aN}{r:V}{ex:Bool}{f:Nat}
theorem pU.hide{e:az}(gG:pU c h e P):∃xs:List az,(∀b∈xs,c.P b=none)/\(∀b∈xs,∃o,h.get? b=C o/\¬ip o)/\∀bI:bc,(∀b∈xs,bI.P b=none)->pU bI h e P:=by
 refine ih gG.told λcg us a1 a2 cm c_ dR fe=>?_;have c5:¬ip cg:=λn=>by obtain(⟨_,t,ff⟩):=n us cm;rw[a2] at ff;injection ff
 rcases fe with⟨eV,dY⟩|⟨T,e2,cp,eM,cB,el,gF,jr,oN,jL⟩
 .refine(fV [e] (λb aD=>?_) (λb aD=>?_) (λbI bb=>⟨cg,us,a1,a2,cm,bb e (.head _),dR,.inl ⟨eV,dY⟩⟩))
  .exact G (eu.mp aD) c_
  .exact G (eu.mp aD) (bh cg a1 c5)
 .refine(fV [e,T] (λb aD=>?_) (λb aD=>?_) (λbI bb=>⟨cg,us,a1,a2,cm,bb e (.head _),dR,.inr (si T e2 cp eM cB el (bb T (.tail _ (.head _))) jr oN jL)⟩))
  .rcases dh.mp aD with rfl|aD
   .exact c_
   .exact G (eu.mp aD) gF
  .rcases dh.mp aD with rfl|aD
   .exact(bh cg a1 c5)
   .exact G (eu.mp aD) (bh e2 jr (zI oN jL))
noncomputable def L1(g:cz)(c:bc)(mf:aZ)(bY:Nat)(q:b4)(r:V)(ex:Bool)(Q:aB->aN->Prop)(E:aB->aN->Prop):Prop:=match ex with
 |false=>∀y b0 cV c₂ aY,mf.le aY->Sat cV c₂ q.st aY b0->xF g c cV c₂ bY->a7 aY r y->Q y b0
 |true=>∀e b0 cV c₂ aY,mf.le aY->Sat cV c₂ q.st aY b0->xF g c cV c₂ bY->pU c₂ b0.heap e False->E (.ref e) b0
theorem adT(O:g.Ok)(kF:g.Lay)(hN:g.n0)(f9:fu g H)(U:c.Ok g dep)(Uw:Sat g c st β s)(e:ha (gp (er g.K H n) g.K dep (.c (.ref f)) aK st) ah bY p q r ex=ae)(l:mf.le β)(F:Fits p mf)(bt:g.S+bY<=100000)(R:bL (a7 β) aK aH)
  {Q:aB->aN->Prop}(aq:L1 g c mf bY q r ex Q E):jG g c (.ref f) aH Q E s:=by
 have aj:=M8 (f:=f) O (o5 O kF hN f9 n) U R β st s (.refl _) Uw;unfold At at aj;unfold ha at e;have b7:=bS e;replace e:=bC e;induction ex using bV with
 |false=>refine cF e λw a9 bf=>?_;rw[ub a9] at aj;exact aj Q E λy b0 av a_ e8 hR=>mF (sb O U e8 (bS bf) bt) λh₀ base N=>aq y b0 _ _ _ (PC b7 N.pull (l.trans a_) F) N.sat ⟨rfl,rfl,rfl,rfl,N.up,rfl,rfl⟩ (te N.pull e8.facts (bC bf) hR)
 |true=>
  refine cF e λbp a9 e=>?_;rw[XJ a9] at aj;refine aj Q E λy b0 av a_ s7=>?_;(refine eH s7 λx J gG e8=>?_;try clear s7;subst J);refine eH gG.hide λxs dw dV hz=>cA (Sq xs dw (λn o a d aa af=>⟨λm=>by
   exact aU (dV a m) λdp bZ c5=>(e8.toSatO.uc bZ c5 n o a d aa af).1 rfl,λm=>by exact aU (dV d m) λdp bZ c5=>(e8.toSatO.uc bZ c5 n o a d aa af).2 rfl⟩) O U e8 e bt) λh₀ base N ak=>?_
  exact aq x b0 _ _ _ (PC b7 N.pull (l.trans a_) F) N.sat ⟨rfl,rfl,rfl,rfl,N.up,rfl,rfl⟩ (hz _ ak)
end
noncomputable def RJ:O->Bool
 |.inst _ _=>ae
 |.list _=>ae
 |.tup _=>ae
 |.dict _ none=>ae
 |.gone=>ae
 |_=>ai
theorem cN.re{a6:az->Option cj}{a:az}(h:RJ o=ae)(b7:br.prog=g.prog)(hw:br.w=g.w)(up:∀b x,a6 b=C x->fx b=C x)(R:cN g a6 β a d o):cN br fx β a d o:=by
 induction o using MI.O.casesOn with
 |inst U dH=>obtain(⟨aa,au,n,af,aJ,bl⟩):=R;exact⟨aa,au,n,up _ _ af,up _ _ aJ,bl⟩
 |list xs=>obtain(⟨aa,aH,n,af,aJ⟩):=R;exact⟨aa,aH,n,up _ _ af,aJ⟩
 |tup xs=>obtain(⟨aa,aH,n,af,aJ⟩):=R;exact⟨aa,aH,n,up _ _ af,aJ⟩
 |dict au op=>
  induction op using b1 with
  |none=>obtain(⟨aa,af,o,aA,aJ,bl,cQ,eT,h7,h8⟩):=R;exact⟨aa,af,o,aA,up _ _ aJ,by(refine G b7 (G hw ?_));exact bl,cQ,eT,h7,h8⟩
  |some _=>exact c8 h
 |gone=>trivial
 |_=>exact c8 h
noncomputable def DC(p:b4):Bool:=p.os.all λx=>RJ x.2
theorem Facts.more{ar:List b6}(F:Facts S ar aC ns β)(h:S<=eE):Facts eE ar aC ns β:=
 ⟨F.aE.imp λb z r=>(fi r.1 r.2.1 (λj cE=>by obtain this:=r.2.2 j cE;exact gk this (jn.mpr (j3 h _)))),F.aj,F.cd,F.dd,F.cn⟩
theorem dg.re{e:b4}(E:dg g e β)(ZM:DC e=ae)(b7:br.prog=g.prog)(hw:br.w=g.w)(up:∀b x,g.h₀.get? b=C x->br.h₀.get? b=C x)(bt:g.S<=br.S):dg br e β:=
 ⟨λi own o q=>(cA (E.objs i own o q) λa d aa af=>(gi a d aa (af.re (eX.mp ZM _ (ma q)) b7 hw up))),E.len,E.facts.more bt⟩
noncomputable def gm(after:Nat->Nat):Nat->Nat->Prop
 |0,_=>False
 |1,w=>4<=after w
 |m+2,w=>after w<4/\gm after (m+1) (after w)
noncomputable def xB(after:Nat->Nat):Nat->Nat->Prop
 |0,_=>True
 |k+1,w=>after w<4/\xB after k (after w)
variable{after:Nat->Nat}
theorem gm.ne:∀{m w:Nat},gm after m w->w<4->after w≠w
 |0,_,h,_=>h.elim
 |1,w,h,hw=>λe=>by obtain this:4<=after w:=h;lia
 |m+2,w,h,hw=>λe=>by obtain af:=h.2;rw[e] at af;exact gm.ne af hw e
structure pW(g:cz)(after:Nat->Nat)(root:az×az)(cM:az)(aA:List (aM×aB)):Prop where
 dict:∃o,g.h₀.get? cM=C o/\o.IsDictOf (strKind g.prog g.w) aA
 ne:cM≠kv
 eS:aA.length<=20
 base:∀old,g.base cM=C old->old=aA
 all:∀w,w<4->∃L ax,a0 aA (aR [103,97+w])=C (.ref L)/\ax.ad[0]? =C root/\ax.ad[1]? =C (L,L)/\(4<=after w->dg g GE ax/\ax.aj=[97+w])/\
  (after w=w->dg g (mY 0 [dE]) ax/\ax.aj=[97+w])/\(after w<4->after w≠w->dg g (mY 1 [dE,dE]) ax/\ax.aj=[97+w,97+after w])
variable{root:az×az}{cM:az}
theorem pW.re(a6:pW g after root cM aA)(b7:br.prog=g.prog)(hw:br.w=g.w)(up:∀b x,g.h₀.get? b=C x->br.h₀.get? b=C x)(bt:g.S<=br.S)(aD:∀old,br.base cM=C old->old=aA):pW br after root cM aA:=by refine aU a6.dict λo aa af=>⟨(bh o (up _ _ aa) (by(refine G b7 (G hw ?_));exact af)),a6.ne,a6.eS,aD,λw oc=>?_⟩;exact ih (a6.all w oc) λL ax a1 a2 cm c_ dR fe=>(uu L ax a1 a2 cm (λq=>⟨(c_ q).1.re (by kernel_rfl) b7 hw up bt,(c_ q).2⟩) (λq=>⟨(dR q).1.re (by kernel_rfl) b7 hw up bt,(dR q).2⟩) (λq en=>⟨(fe q en).1.re (by kernel_rfl) b7 hw up bt,(fe q en).2⟩))
structure Good(g:cz):Prop where
 ok:g.Ok
 lay:g.Lay
 raise:g.n0
variable{dQ:aZ}
theorem Good.re(a6:Good g){h₀:gj}(h:(g.re h₀ bY dQ base).Ok):Good (g.re h₀ bY dQ base):=⟨h,a6.lay,a6.raise⟩
noncomputable def cz.pin(g:cz)(β:aZ):cz:={g with dQ:=β}
theorem Good.pin(a6:Good g):Good (g.pin β):=⟨⟨a6.ok.fl,a6.ok.top,a6.ok.S,a6.ok.low⟩,a6.lay,a6.raise⟩
section
variable{c:bc}{st:St}{s:aN}
theorem bc.Ok.pin(U:c.Ok g dep):c.Ok (g.pin β) dep:=⟨U.base,U.frames,U.here,U.hd,U.iX,U.depth,U.units,U.calm,U.dep⟩
theorem cN.pin{a6:az->Option cj}{a:az}(h:cN g a6 β a d o):cN (g.pin dQ) a6 β a d o:=by
 induction o using MI.O.casesOn with
 |_=>exact h
theorem Sat.pin(H:Sat g c st β s):Sat (g.pin β) c st β s:=by exact bG H.objs λf hf=>⟨⟨H.keep,H.cx,⟨f,λn own o q=>(by obtain(⟨a,d,aa,af,aJ⟩):=hf n own o q;exact⟨a,d,aa,af.pin,aJ⟩)⟩,H.len,H.facts,.refl _⟩,H.os,H.loc⟩
noncomputable def U_(st:St):St:={st with aC:=st.aC++ [dE]}
noncomputable def r6(e6:Bool)(st:St):St:=match e6 with
 |true=>U_ st
 |false=>st
noncomputable def gS(e6:Bool)(st:St)(cM:Nat)(aj:List ag)(e:b4):St:=Tg (r6 e6 st) cM aj e
end
noncomputable def qO(e6:Bool)(st:St)(cM:Nat)(aj:List ag)(e:b4):Bool:=(hu (r6 e6 st) [1] aj e).any λbp=>Hw (bp.σ.get cM)
variable{e6:Bool}
theorem afs{st:St}{cM:Nat}{aj:List ag}{e:b4}(h:qO e6 st cM aj e=ae):∃bp,hu (r6 e6 st) [1] aj e=C bp/\bp.σ.get cM=C (ai,.gone)/\gS e6 st cM aj e={bp with σ:=bp.σ.put cU cM (ai,.dict [(hq 0,aI (r6 e6 st).no)] (C []))}:=by refine cF h λbp cE gx=>(fV bp cE (OY gx) ?_);unfold gS Tg;exact G cE rfl
variable{f5:Nat}
section
variable{c:bc}{st:St}{s:aN}
theorem aft{Cw:Nat}{aj:List ag}{e:b4}{w:Nat}{L:az}(U:c.Ok g dep)(H:Sat g c st β s)(a6:pW g after root cM aA)(h8:Cw<10000000)(bM:qO e6 st Cw aj e=ae)(cB:β.ad[1]? =C root)(fZ:β.ad[Cw]? =C (cM,cM))(b_:∃r,β.aj=(97+w)::r)(Ce:e6=ae->β.aj=[97+w]/\f5≠w/\f5<4)(hw:w<4)
  (E:dg g e ax)(gw:a0 aA (aR [103,97+w])=C (.ref L))(ey:ax.ad[0]? =C root)(a9:ax.ad[1]? =C (L,L))(he:ax.aj=(match e6 with|true=>[97+w,97+f5]|false=>[97+w]))(bb:aj=(match e6 with|true=>[[.chr 0],[.chr 1]]|false=>[[.chr 0]]))(bt:20<=g.S):
  ∃aW,β.le aW/\Sat g c (gS e6 st Cw aj e) aW s/\(e6=ae->aW.aj=[97+w,97+f5]):=by
 refine eH (afs bM) λbp cE gx yW=>?_;(refine bG b_ λpk Pm=>?_;try clear b_);obtain first:∃dQ,β.le dQ/\Sat g c (r6 e6 st) dQ s/\(e6=ae->dQ.aj=[97+w,97+f5])/\(∃r,dQ.aj=(97+w)::r)/\dQ.ad=β.ad:=by
  clear yW cE bb bM;induction e6 using bV with
  |false=>exact(D4 β (.refl _) H (λh=>by exact c8 h) ⟨pk,Pm⟩ rfl)
  |true=>
   refine fO (Ce rfl) λaa af aJ=>?_;obtain hm:97+f5∈dE:=by rcases f5 with _|_|_|_|n<;>first|decide|lia
   refine a3 (Qk (l:=dE) (ch:=97+f5) H hm (by refine G aa ?_;simp;assumption)) λdm eG=>?_;exact(D4 _ eG dm (λI=>by show β.aj++ [97+f5]=_;exact G aa rfl) ⟨pk++ [97+f5],by show β.aj++ [97+f5]=_;refine G Pm ?_;rfl⟩ rfl)
 (refine Dp first λdQ CR sW h5 J iL=>?_;try clear first;refine bG J λdc Pn=>?_;try clear J);have bE:dQ.aj[0]? =C (97+w):=by exact G Pn rfl
 have Gq:∀{b:aZ},b.aj[0]? =C (97+w)->ag.val b [.chr 0]=C [97+w]:=λh=>by show(match(c1.chr 0).val _,C [] with|some a,some b=>C (a++b)|_,_=>none)=_;simp only[c1.val,h,nS,lM]
 obtain Y5:∀k ch,ax.aj[k]? =C ch->∃x,cI aj k=C x/\ag.val dQ x=C [ch]:=λk ch q=>by
  rw[he] at q;clear sW yW cE he Ce bM;induction e6 using bV with
  |false=>
   refine G bb ?_
   match k with
   |0=>(obtain J:=aT q;clear q;subst J);exact(bh _ rfl (Gq bE))
   |k+1=>simp at q
  |true=>
   refine G bb ?_
   match k with
   |0=>(obtain J:=aT q;clear q;subst J);exact(bh _ rfl (Gq bE))
   |1=>(obtain J:=aT q;clear q;subst J);refine(bh _ rfl ?_);show(match(c1.chr 1).val _,C [] with|some a,some b=>C (a++b)|_,_=>none)=_;simp only[c1.val,h5 rfl,List.getElem?_cons_succ,List.getElem?_cons_zero,nS,lM]
   |k+2=>simp at q
 obtain hlen:aj.length=e.aC.length:=by obtain this:=E.facts.aj.length;(refine G this (G he (G bb ?_)));cases e6<;>rfl
 obtain dm:=PW (pre:=[1]) U sW E Y5 hlen (λi n q=>by
  match i with
  |0=>(obtain J:=aT q;clear q;subst J);exact(bh root ey (G iL cB))
  |i+1=>simp at q) cE
 obtain ahF:(r6 e6 st).no=st.no:=by cases e6<;>rfl
 have zk:dQ.ad.length=(r6 e6 st).no:=sW.len;obtain cx:(dQ.app 1 ax).ad[(r6 e6 st).no]? =C (L,L):=by show(dQ.ad++ax.ad.drop 1)[_]? =_;(refine G (pL (eJ (by assumption))) ?_;refine G zk (G (uI _) (G Aw ?_)));exact a9
 refine aU a6.dict λo eZ hp=>(fV (dQ.app 1 ax) (CR.trans aZ.eb) ?_ (λh=>h5 h));refine G yW (WR (a:=cM) U dm h8 gx (a4 aZ.eb.ad (G iL fZ)) (U.base _ _ eZ) hp a6.ne (λx ak=>?_) (by simp) (λold h=>a6.base old h) (by obtain this:=a6.eS;simp;lia));obtain rfl:=eu.mp ak;refine⟨[103,97+w],.ref L,?_,gw,L,L,cx,rfl⟩;show ag.val _ [.lit [103],.chr 0]=_;obtain this:=Gq (b:=dQ.app 1 ax) (show dQ.aj[0]? =_ from bE);exact ag.eP.mpr (d2 [103] [97+w] rfl this rfl)
end
theorem Fits.of{c:bc}(H:SatO g c p.st β h):Fits p β:=⟨H.len,H.facts.aE.length.symm,H.facts.aj.length.symm,H.facts.dd⟩
theorem m6.of{s:aN}(h:m6 br s)(e:br.dU=g.dU):m6 g s:=by unfold m6 at h ⊢;rw[e] at h;exact h
structure Spot(K:b5)(g:cz)(c:bc)(β:aZ)(s:aN)(after:Nat->Nat)(root:az×az)(cM:az)(aA:List (aM×aB))(w:Nat)(p:b4):Prop where
 good:Good g
 k:g.K=K
 sat:Sat g c p.st β s
 gen:pW g after root cM aA
 cB:β.ad[1]? =C root
 fZ:β.ad[8]? =C (cM,cM)
 aj:β.aj=[97+w]
 jX:w<4
 S:20<=g.S
noncomputable def mi(K:b5)(h:nW)(T:(Nat->Nat)->Nat->aZ->Prop)(B:Nat):Prop:=∀g c β s dep after root cM aA w,Spot K g c β s after root cM aA w h.p->c.Ok g dep->dep<=h.D->g.S+B<=10000->T after w β->mg h g c β s
variable{B:Nat}
section
variable{h:nW}{T:(Nat->Nat)->Nat->aZ->Prop}{c:bc}{s:aN}{w:Nat}
theorem dz{i:Nat}{x:az×az}(h:cI ah.ad i=C n)(e:β.ad[n]? =C x):(pull ah β).ad[i]? =C x:=by rw[f3] at h;show(ah.ad.map _)[i]? =_;(refine G oF ?_;refine G h (G (nS _ _) (G e ?_)));rfl
theorem zB(N:mi K h T B)(a6:Good g)(aw:g.K=K)(gen:pW g after root cM aA){lZ Ik:Nat}(cB:g.dQ.ad[lZ]? =C root)(fZ:g.dQ.ad[Ik]? =C (cM,cM))(VC:g.dQ.aj[j]? =C (97+f5))(t1:cI h.ah.ad 1=C lZ)(Aa:cI h.ah.ad 8=C Ik)(Ac:h.ah.aj=[[.chr j]])
  (e0:∀β,g.dQ.le β->T after f5 (pull h.ah β))(hw:f5<4)(bt:20<=g.S)(g4:g.S+h.bY+B<=10000):fu g (fp h):=by
 refine ZJ a6.ok (bR (gu _ _) (bR g4 (bA rfl))) λc dep β s h₀ base Ok U hh H eB l ag2 up aD=>N _ c _ s dep after root cM aA f5 ⟨a6.re Ok,aw,H,?_,?_,?_,?_,hw,by show 20<=g.S+h.bY;exact bR (by assumption) (gu _ _)⟩ U hh g4 (e0 β l)
 .refine aU gen.dict λo eZ hp=>gen.re rfl rfl up (by show g.S<=g.S+h.bY;exact gu _ _) λold bx=>?_;obtain this:=aD cM o aA (H.keep _ _ (G eB (up _ _ eZ))) hp;obtain bx:base cM=C old:=bx;rw[this] at bx;(obtain J:=aT bx;clear bx;subst J);rfl
 .exact dz t1 (a4 l.ad cB)
 .exact dz Aa (a4 l.ad fZ)
 .show h.ah.aj.map _=_;refine G Ac ?_;(refine G j4 (G List.map_nil (G (Bx (a4 l.aj VC)) ?_)));rfl
theorem yv(a6:pW g after root cM aA)(β:aZ):pW (g.pin β) after root cM aA:=a6.re rfl rfl (λI I e=>e) (dP _) a6.base
theorem t5{h:nW}{D:Nat}{aj:List ag}{e:b4}{L:az}(S:Spot K g c β s after root cM aA w h.p)(U:c.Ok g dep)(hh:dep<=D)(B0:D<400)(hf:h.f=683)(ZO:h.bu=[aI 0,aI 40])
  (Ce:e6=ae->f5≠w/\f5<4)(bM:qO e6 h.p.st 8 aj e=ae)(E:dg g e ax)(gw:a0 aA (aR [103,97+w])=C (.ref L))(ey:ax.ad[0]? =C root)(a9:ax.ad[1]? =C (L,L))(he:ax.aj=(match e6 with|true=>[97+w,97+f5]|false=>[97+w]))(bb:aj=(match e6 with|true=>[[.chr 0],[.chr 1]]|false=>[[.chr 0]]))
  (f9:∀aW,β.le aW->(e6=ae->aW.aj[1]? =C (97+f5))->fu (g.pin aW) H)(bt:g.S+h.q9<=100000)
  (run:ha (gp (er K H n) K D (.c (.ref 683)) [aI 0,aI 40] (gS e6 h.p.st 8 aj e)) ah h.q9 h.p h.q h.r h.ex=ae):mg h g c β s:=by
 intro aH R Q uY post;refine eH (aft U S.sat S.gen (aS rfl) bM S.cB S.fZ ⟨[],S.aj⟩ (λq=>⟨S.aj,Ce q⟩) S.jX E gw ey a9 he bb S.S) λaW l pX k=>?_;obtain AW:=(U.raise hh B0).pin (β:=aW);have E6:=S.good.pin (β:=aW);rw[ZO] at R;refine G hf ?_;obtain aw:=S.k;obtain F:=Fits.of S.sat.toSatO;(clear S;subst aw);refine adT (g:=g.pin aW) (H:=H) E6.ok E6.lay E6.raise (f9 aW l λq=>by exact G (k q) rfl) AW pX.pin run l F bt (R.imp λ_ _ x=>x.le l) ?_;unfold L1;split
 .rename_i ak;rw[ak] at post;exact λy b0 cV c₂ aY a1 a2 cm c_=>post y b0 cV c₂ aY a1 a2.toSatO (m6.of a2.os cm.dU) ⟨cm.S,cm.prog,cm.w,cm.dU,cm.up,cm.L,cm.cx⟩ c_
 .rename_i ak;rw[ak] at post;exact λy b0 cV c₂ aY a1 a2 cm c_=>post y b0 cV c₂ aY a1 a2.toSatO (m6.of a2.os cm.dU) ⟨cm.S,cm.prog,cm.w,cm.dU,cm.up,cm.L,cm.cx⟩ c_
end
theorem ic:fu g λI I I I=>none:=λI I I I I I I I I I I I I=>trivial
section
variable{c:bc}{st:St}{s:aN}
theorem SatO.bounds(H:SatO g c st β h){ar:List b6}(F:Facts g.S ar st.aC st.ns β):SatO g c {st with ar:=ar} β h:=⟨H.keep,H.cx,H.objs,H.len,F,H.ghost⟩
theorem Sat.bounds(H:Sat g c st β s){ar:List b6}(F:Facts g.S ar st.aC st.ns β):Sat g c {st with ar:=ar} β s:=⟨H.toSatO.bounds F,H.os,H.loc⟩
noncomputable def hc(S:Nat)(b:b6)(z:Int):Prop:=b.1<=z/\z<=b.2.1/\∀j,b.2.2=C j->z<=((S+j:Nat):Int)
noncomputable def ym(mq:Nat)(b dF:b6):Bool:=decide (dF.1<=b.1)&&(match dF.2.2 with|none=>ae|some CM=>(match b.2.2 with|some j=>c6 j CM|none=>ai))&&(decide (b.2.1<=dF.2.1)||(match b.2.2 with|some j=>decide (((mq+j:Nat):Int)<=dF.2.1)|none=>ai))
noncomputable def lW(mq:Nat):List b6->List b6->Bool:=p3 (ym mq)
theorem W9{mq:Nat}{b dF:b6}(h:ym mq b dF=ae)(bt:S<=mq)(r:hc S b z):hc S dF z:=by
 obtain(⟨lo,bN,j⟩):=b;obtain(⟨ahE,ia,CM⟩):=dF;(refine fO r λdc dA hx=>?_;try clear r);simp only[ym,ew,Lo,decide_eq_true_eq] at h;(refine a3 h λJ aJ=>?_;try clear h;refine a3 J λaa af=>?_;try clear J);refine⟨gk aa dc,?_,λk aw=>?_⟩
 .rcases aJ with aJ|aJ
  .exact gk dA aJ
  .clear af dA dc;induction j using b1 with
   |none=>exact c8 aJ
   |some j=>obtain this:=hx j rfl;simp only[decide_eq_true_eq] at aJ;show z<=ia;exact gk this (gk (jn.mpr (j3 bt _)) aJ)
 .obtain aw:CM=C k:=aw;subst aw;clear aJ dA dc;induction j using b1 with
  |none=>exact c8 af
  |some j=>obtain this:=hx j rfl;have:=bA af;exact gk (by assumption) (jn.mpr (mc this _))
theorem BI{mq:Nat}(bt:S<=mq){l a_:List b6}(h:lW mq l a_=ae)(r:bL (hc S) l zs):bL (hc S) a_ zs:=
 (bL.swap (hV:=λb a=>ym mq a b=ae) (λI I h=>h) (p4 (f:=ym mq) h)).comp r λI I I h r=>W9 h bt r
end
variable{dJ:b4}
section
variable{c:bc}{s:aN}
theorem mg.G0{h:nW}{D:Nat}(H:mg ⟨h.f,D,ah,p,h.bu,q,h.r,bY,h.q9,h.ex⟩ g c β s)(e:({q.st with ar:=h.q.ar}:St)=h.q.st)(aD:lW 200000 q.ar h.q.ar=ae)(bt:g.S+h.q9<=200000):mg h g c β s:=by
 have up:∀{cV:cz}{c₂:bc}{aY:aZ}{b7:gj},SatO cV c₂ q.st aY b7->cV.S=g.S+h.q9->SatO cV c₂ h.q.st aY b7:=λ{cV c₂ aY b7} e8 tp=>by exact G (bW e) (e8.bounds ⟨BI (tp▸bt) aD e8.facts.aE,e8.facts.aj,e8.facts.cd,e8.facts.dd,e8.facts.cn⟩)
 intro aH R Q E post;refine H aH R Q E ?_;dsimp only;split
 .rename_i ak;rw[ak] at post;exact λy b0 cV c₂ aY a1 a2 bx cm c_=>post y b0 cV c₂ aY a1 (up a2 cm.S) bx cm c_
 .rename_i ak;rw[ak] at post;exact λy b0 cV c₂ aY a1 a2 bx cm c_=>post y b0 cV c₂ aY a1 (up a2 cm.S) bx cm c_
theorem Spot.bounds{w:Nat}(S:Spot K g c β s after root cM aA w p)(e:({p.st with ar:=dJ.ar}:St)=dJ.st)(F:bL (hc g.S) dJ.ar β.aE):Spot K g c β s after root cM aA w dJ:=
 ⟨S.good,S.k,e▸S.sat.bounds ⟨F,S.sat.facts.aj,S.sat.facts.cd,S.sat.facts.dd,S.sat.facts.cn⟩,S.gen,S.cB,S.fZ,S.aj,S.jX,S.S⟩
theorem Me{u:b6}{v:Nat}(h:bL (hc S) (cS u v).ar zs):∃z,zs[2]? =C z/\hc S u z/\∀mL,hc S mL z->bL (hc S) (cS mL v).ar zs:=by
 unfold cS at h ⊢;cases h with
 |cons a h=>cases h with
  |cons b h=>cases h with
   |cons r rest=>exact(fV _ rfl r (λI g_=>.cons a (.cons b (.cons g_ rest))))
end
variable{old:List (aM×aB)}{abs:List ag}
section
variable{c:bc}{st:St}{s:aN}{AU:cW}{e:b4}{h₀:gj}
theorem JF(N:Seen g c st β s dep ah bY p h₀ base)(H:Sat g c st β s)(h:wD AU bY st (h_ p.os ah.ad) e=ae):dg (g.re h₀ bY (pull ah β) base) e (pull AU β)/\e7 AU (pull AU β) β:=by obtain wI:=bC h;have eT:=bS h;have cQ:=bS eT;have bl:=bS cQ;have aJ:=bS bl;have af:=bS aJ;have cG:=bC af;refine fO (zQ cG) λt8 qE I=>?_;have aX:∀n∈AU.ad,n<β.ad.length:=λn aO=>H.len.symm▸qE n aO;refine a3 (JI H.facts aX (bC aJ) (bC bl) (bC cQ) (bC eT) wI) λT W=>⟨⟨λi own o q=>?_,(gB _).trans t8.symm,W⟩,T⟩;have hf:=eX.mp (bS af) _ (ma q);obtain e:own=false:=jl _▸hf;(clear hf;subst e);exact Hi (br:=g.re h₀ bY (pull ah β) base) T H.facts aX cG rfl rfl rfl rfl (λa o aA a9 bf old cC=>(c0 (cC.symm.trans (N.base a o aA (N.down a o a9) bf))).symm) N.rest q
theorem J1(H:Sat g c st β s){a:az}(aO:n<10000000)(h0:st.σ.get n=C (ae,.dict [] (C [])))(aV:β.ad[n]? =C (a,a))(aD:g.base a=C old)
  (aa:kZ β old au)(af:au.Pairwise (λe f=>e.1.val β≠f.1.val β))(aJ:∀x:ag,x∈abs->∃l,x.val β=C l/\a0 old (aR l)=none):
  Sat g c {st with σ:=st.σ.put cU n (ae,.dict au (C abs))} β s:=by
 refine bG H.objs λf hf=>⟨⟨H.keep,H.cx,⟨f,λm own y q=>?_⟩,H.len,H.facts,H.ghost⟩,H.os,H.loc⟩;replace q:(st.σ.put cU n (ae,.dict au (C abs))).get m=C (own,y):=q;rw[dD.k8 cU st.σ n _ m (ij aO (aS rfl))] at q;by_cases hm:m=n
 ·(clear aO;subst hm);rw[if_pos rfl] at q;(obtain J:=aT q;clear q;refine a3 (eD J) λbU cv=>?_;clear J;subst bU;subst cv);obtain(⟨dq,ec,bZ,c5,fF⟩):=hf m ae _ h0;rw[aV] at bZ;(obtain J:=aT bZ;clear bZ;refine a3 (eD J) λbU cv=>?_;clear J;subst bU;subst cv);obtain(⟨cJ,cY,fw,gT,_⟩):=fF rfl;obtain(⟨_,dA,o,aA,hx,DG,_,_,JO,DH⟩):=(show cN g s.heap.get? β a a (.dict [] (C [])) from c5);have same:∀k,a0 aA k=a0 old k:=λk=>by
   rcases(JO.2 old aD).2 k with⟨x,ak,_⟩|h
   .cases ak
   .exact h
  refine⟨a,a,aV,(⟨rfl,dA,o,aA,hx,DG,λe he=>?_,af,⟨λx ak=>?_,λacE bx=>⟨(JO.2 acE bx).1,λk=>.inr ?_⟩⟩,?_⟩:cN g s.heap.get? β a a (.dict au (C abs))),λI=>⟨cJ,cY,fw,gT,λz=>by(injection z)⟩⟩
  .obtain(⟨l,v,dw,dV,hz⟩):=aa e he;exact⟨l,v,dw,by exact G (same _) dV,hz⟩
  .exact aU (aJ x ak) λl dw dV=>(bh l dw (.inl (G (same _) dV)))
  .rw[aD] at bx;(obtain J:=aT bx;clear bx;subst J);exact same k
  .obtain DH:aA.length<=0+g.S:=DH;show aA.length<=au.length+g.S;exact bR DH (j3 (l9 _) _)
 .rw[if_neg hm] at q;exact hf m own y q
theorem R9(H:Sat g c st β s){a:az}{o:cj}(aO:n<10000000)(h0:st.σ.get n=C (ai,.gone))(aV:β.ad[n]? =C (a,a))(eB:c.P a=C o)(hd:o.IsDictOf (strKind g.prog g.w) aA)
  (ns:a≠kv)(aa:kZ β aA au)(af:au.Pairwise (λe f=>e.1.val β≠f.1.val β))(aJ:∀x:ag,x∈abs->∃l,x.val β=C l/\a0 aA (aR l)=none)(aD:∀old,g.base a=C old->old=aA)(hlen:aA.length<=g.S):
  Sat g c {st with σ:=st.σ.put cU n (ai,.dict au (C abs))} β s:=by
 refine bG H.objs λf hf=>⟨⟨H.keep,H.cx,⟨f,λm own y q=>?_⟩,H.len,H.facts,H.ghost⟩,H.os,H.loc⟩;replace q:(st.σ.put cU n (ai,.dict au (C abs))).get m=C (own,y):=q;rw[dD.k8 cU st.σ n _ m (ij aO (aS rfl))] at q;by_cases hm:m=n
 ·(clear h0 aO;subst hm);rw[if_pos rfl] at q;(obtain J:=aT q;clear q;refine a3 (eD J) λbU cv=>?_;clear J;subst bU;subst cv);refine⟨a,a,aV,⟨rfl,ns,o,aA,eB,hd,aa,af,⟨λx ak=>?_,λold bx=>by exact G (aD old bx) ⟨iH _,λk=>.inr rfl⟩⟩,by show aA.length<=au.length+g.S;exact bR (by assumption) (xj _ _)⟩,λz=>by exact c8 z⟩;exact aU (aJ x ak) λl dw dV=>(bh l dw (.inl dV))
 .rw[if_neg hm] at q;exact hf m own y q
theorem FI:(β.app k ax).ad[β.ad.length+j]? =ax.ad[k+j]? :=by show(β.ad++ax.ad.drop k)[_]? =_;(refine G (pL (gu _ _)) ?_;refine G (Ea _ _) (G Aw ?_);with_reducible rfl)
structure JoinOk(g:cz)(β:aZ)(j:List Nat×List ag×b4)(ax:aZ):Prop where
 bu:dg g j.2.2 ax
 aj:∀k ch,ax.aj[k]? =C ch->∃x,cI j.2.1 k=C x/\ag.val β x=C [ch]
 len:j.2.1.length=j.2.2.aC.length
 pre:∀(i n:Nat),j.1[i]? =C n->∃x,ax.ad[i]? =C x/\β.ad[n]? =C x
theorem aau{j:List Nat×List ag×b4}(U:c.Ok g dep)(H:Sat g c st β s)(hH:JoinOk g β j ax):∃av,Sat g c (hO st j) av s/\β.le av/\((hu st j.1 j.2.1 j.2.2).isSome=ae->av=β.app j.1.length ax):=by
 unfold hO;generalize q:hu st j.1 j.2.1 j.2.2=aF;induction aF using b1 with
 |none=>exact(fV β H (.refl _) (λh=>by exact c8 h))
 |some bp=>exact(fV _ (PW U H hH.bu hH.aj hH.len hH.pre q) aZ.eb (λI=>rfl))
end
noncomputable def z9(ah:cW)(e cf:b4):Bool:=wD ah 0 e.st [] cf
section
variable{e cf:b4}
theorem dg.pick(E:dg g e β)(ahs:e.os.all (λx=>!x.1)=ae)(aX:e.os.length<=100000)(h:z9 ah e cf=ae)(aD:∀a o aA old,g.h₀.get? a=C o->o.IsDictOf (strKind g.prog g.w) aA->g.base a=C old->aA=old):dg g cf (pull ah β)/\e7 ah (pull ah β) β:=by obtain wI:=bC h;have eT:=bS h;have cQ:=bS eT;have bl:=bS cQ;have aJ:=bS bl;have af:=bS aJ;have cG:=bC af;refine fO (zQ cG) λt8 qE I=>?_;have F:Facts g.S e.st.ar e.st.aC e.st.ns β:=E.facts;have aO:∀n∈ah.ad,n<β.ad.length:=λn aO=>E.len.symm▸qE n aO;refine a3 (JI F aO (bC aJ) (bC bl) (bC cQ) (bC eT) wI) λT W=>⟨⟨λi own o q=>?_,(gB _).trans t8.symm,W⟩,T⟩;have hf:=eX.mp (bS af) _ (ma q);have ey:own=false:=jl _▸hf;(clear hf;subst ey);exact Hi (br:=g) T F aO cG rfl rfl rfl rfl (λa o aA a9 bf old cC=>aD a o aA old a9 bf cC) (λn own o e I=>E.objs n own o ((b4.get (bR aX (aS rfl)) n).symm.trans e)) q
end
theorem NN(z:Int):∀c∈eR z,c≠95:=λc h e=>by have:=GI z c h;(clear h;subst e);exact absurd this (aS (by kernel_rfl))
theorem afr{a b x y:bB}(aV:∀c∈a,c≠95)(aD:∀c∈b,c≠95)(h:a++95::x=b++95::y):a=b:=by
 induction a generalizing b with
 |nil=>
  induction b using eo with
  |nil=>rfl
  |cons c b=>exact absurd (qU h).1.symm (aD c (.head _))
 |cons c a bj=>
  induction b using eo with
  |nil=>exact absurd (qU h).1 (aV c (.head _))
  |cons d b=>exact G (qU h).1 (G (bj (λc bb=>aV c (.tail _ bb)) (λc bb=>aD c (.tail _ bb)) (qU h).2) rfl)
theorem WL{a b:Int}(aV:0<=a)(aD:0<=b)(h:eR a=eR b):a=b:=by
 (refine bG (D_ aV) λm J=>?_;(clear aV;subst J));(refine bG (D_ aD) λn J=>?_;(clear aD;subst J));have e:sA m=sA n:=by unfold eR cs at h;have aa:(bO (sA m)).cps.toList=(bO (sA n)).cps.toList:=h;rw[T2,T2] at aa;simp only at aa;have af:(sA m).toList.map LO=(sA n).toList.map Char.toNat:=aa;have aJ:=(List.map_inj_right (f:=LO) (λa b e=>Char.toNat_inj.mp e)).mp af;exact String.toList_inj.mp aJ
 exact G (Nat.repr_inj.mp e) rfl
noncomputable def mj(N:Int)(l:bB):Prop:=∃n r,0<=n/\n<=N/\(l=cs "wrapper__"++eR n++95::r\/l=cs "f__"++eR n++95::r)
noncomputable def hU(N:Int)(aP:List (aM×aB))(k:aM):Prop:=(∃ch,ch∈bD/\k=aR [ch]/\a0 aP k≠none)\/k=aR (cs "lone")\/mj N (cs k)
theorem Qz:cs "lone"=[108,111,110,101]:=by kernel_rfl
variable{N:Int}
theorem mj.mono{M:Int}(h:N<=M){l:bB}:mj N l->mj M l:=λgd=>(by(refine fD gd λn r aa af aJ=>?_;try clear gd);exact⟨n,r,aa,by exact gk (by assumption) (by assumption),aJ⟩)
theorem mj.head{l:bB}(h:mj N l):4<=l.length/\(∃t,l=119::114::t)\/∃t,l=102::95::95::t:=by
 obtain⟨n,r,_,_,h|h⟩:=h
 .refine .inl ?_;obtain e:cs "wrapper__"=[119,114,97,112,112,101,114,95,95]:=by decide+kernel
  (refine G h (G e ?_));exact⟨by simp,_,rfl⟩
 .refine .inr ?_;obtain e:cs "f__"=[102,95,95]:=by decide+kernel
  (refine G h (G e ?_));exact⟨_,rfl⟩
theorem mj.not{n:Int}{p:bB}{r:bB}(b7:p=cs "wrapper__"\/p=cs "f__")(aO:N<n)(h0:0<=N)(h:mj N (p++eR n++95::r)):False:=by
 (refine fD h λm g_ aa af aJ=>?_;try clear h);have n9:cs "wrapper__"=[119,114,97,112,112,101,114,95,95]:=by kernel_rfl
 have jM:cs "f__"=[102,95,95]:=by kernel_rfl
 have key:eR n++95::r=eR m++95::g_->False:=λe=>by obtain this:=afr (NN n) (NN m) e;obtain this:=WL (by lia) aa this;lia
 rcases b7 with rfl|rfl<;>rcases aJ with aJ|aJ
 .rw[n9,nR,nR] at aJ;exact key (TM aJ)
 .rw[n9,jM] at aJ;simp at aJ
 .rw[n9,jM] at aJ;simp at aJ
 .rw[jM,nR,nR] at aJ;exact key (TM aJ)
variable{fn aP:List (aM×aB)}
theorem hU.absent(aw:∀k,a0 fn k≠none->hU N aP k){l:bB}(aa:∀ch,ch∈bD->l=[ch]->a0 aP (aR l)=none)(af:l≠cs "lone")(aJ:¬mj N l):a0 fn (aR l)=none:=by
 generalize q:a0 fn (aR l)=aF;induction aF using b1 with
 |none=>rfl
 |some v=>
  rcases aw (aR l) (by refine G q ?_;simp) with⟨ch,dw,dV,hz⟩|x|x
  .obtain this:=oi dV;exact absurd (aa ch dw this) hz
  .exact absurd (oi x) af
  .rw[GA] at x;exact absurd x aJ
theorem hU.two(aw:∀k,a0 fn k≠none->hU N aP k){a b:Nat}(aV:a≠119):a0 fn (aR [a,b])=none:=by
 refine hU.absent aw (λch I e=>by simp at e) (by refine G Qz ?_;simp) λh=>?_;rcases h.head with⟨_,t,e⟩|⟨t,e⟩
 .simp at e;exact aV e.1
 .simp at e
theorem hU.one(aw:∀k,a0 fn k≠none->hU N aP k)(h:a0 aP (aR [ch])=none):a0 fn (aR [ch])=none:=by
 refine hU.absent aw (λI I I=>h) (by refine G Qz ?_;simp) λh=>?_;rcases h.head with⟨h,_⟩|⟨t,e⟩
 .simp at h
 .simp at e
theorem hU.num{n:Int}(aw:∀k,a0 fn k≠none->hU N aP k){p r:bB}(b7:p=cs "wrapper__"\/p=cs "f__")(aO:N<n)(h0:0<=N):a0 fn (aR (p++eR n++95::r))=none:=by
 have n9:cs "wrapper__"=[119,114,97,112,112,101,114,95,95]:=by kernel_rfl
 have jM:cs "f__"=[102,95,95]:=by kernel_rfl
 have n6:cs "lone"=[108,111,110,101]:=by kernel_rfl
 refine hU.absent aw (λch I e=>?_) (λe=>?_) (mj.not b7 aO h0)
 .rcases b7 with rfl|rfl
  .rw[n9] at e;simp at e
  .rw[jM] at e;simp at e
 .rcases b7 with rfl|rfl
  .rw[n9,n6] at e;simp at e
  .rw[jM,n6] at e;simp at e
theorem hU.none(aw:∀k,a0 fn k≠none->hU N aP k):a0 fn (aR (cs "none"))=none:=by
 have ey:cs "none"=[110,111,110,101]:=by kernel_rfl
 obtain n6:cs "lone"=[108,111,110,101]:=by kernel_rfl
 refine hU.absent aw (λch I e=>by rw[ey] at e;simp at e) (by(refine G ey (G n6 ?_));simp) λh=>?_;rw[ey] at h;rcases h.head with⟨_,t,e⟩|⟨t,e⟩<;>simp at e
structure Gens(g:cz)(after:Nat->Nat)(root:az×az)(cM:az)(aA:List (aM×aB))(ga:Nat->az×az):Prop where
 gen:pW g after root cM aA
 ry:∀w,w<4->∃L ax,a0 aA (aR [103,97+w])=C (.ref L)/\ax.ad[0]? =C root/\ax.ad[1]? =C (L,L)/\ax.ad[2]? =C (ga w)/\ax.aE[0]? =C (2+2*(w:Int))/\(4<=after w->dg g GE ax/\ax.aj=[97+w])/\
  (after w=w->dg g (mY 0 [dE]) ax/\ax.aj=[97+w])/\(after w<4->after w≠w->dg g (mY 1 [dE,dE]) ax/\ax.aj=[97+w,97+after w])
 s8:∀w,w<4->∃L ax,a0 aA (aR [104,97+w])=C (.ref L)/\ax.ad[0]? =C root/\ax.ad[1]? =C (L,L)/\dg g mh ax/\ax.aj=[97+w]/\ax.aE[0]? =C (3+2*(w:Int))
 keys:∀k,a0 aA k≠none->(∃w,w<4/\(k=aR [103,97+w]\/k=aR [104,97+w]))\/k=aR (cs "bare")
variable{ga:Nat->az×az}
theorem Gens.re(a6:Gens g after root cM aA ga)(b7:br.prog=g.prog)(hw:br.w=g.w)(up:∀b x,g.h₀.get? b=C x->br.h₀.get? b=C x)(bt:g.S<=br.S)(aD:∀old,br.base cM=C old->old=aA):Gens br after root cM aA ga:=by
 refine⟨a6.gen.re b7 hw up bt aD,λw oc=>?_,λw oc=>?_,a6.keys⟩
 .exact t_ (a6.ry w oc) λL ax a1 a2 cm c_ dR fe iq kz=>(Tn L ax a1 a2 cm c_ dR (λq=>⟨(fe q).1.re (by kernel_rfl) b7 hw up bt,(fe q).2⟩) (λq=>⟨(iq q).1.re (by kernel_rfl) b7 hw up bt,(iq q).2⟩) (λq en=>⟨(kz q en).1.re (by kernel_rfl) b7 hw up bt,(kz q en).2⟩))
 .exact t9 (a6.s8 w oc) λL ax a1 a2 cm c_ dR=>(Kz L ax a1 a2 cm (c_.re (by kernel_rfl) b7 hw up bt) dR)
inductive Entry(g:cz)(qK fr:az×az)(ga:Nat->az×az)(fn aP:List (aM×aB))(ch:Nat):Prop where
 |A (ax:aZ) (L T:Addr×Addr) (bu:dg g sR ax) (aj:ax.aj=[ch]) (r:ax.ad[0]? =some qK) (f:ax.ad[1]? =some fr) (l:ax.ad[2]? =some L) (t:ax.ad[3]? =some T) (dK:ax.aE[0]? =some (-1)) (d7:valueAt fn (aR [ch])=some (.ref L.1)) (c4:valueAt aP (aR [ch])=some (.ref T.1))
 |B (m w:Nat) (hm:1<=m/\m<=4) (hw:w<4) (ax:aZ) (L T:Addr×Addr) (bu:dg g (gP m) ax) (aj:ax.aj=[ch]) (r:ax.ad[0]? =some qK) (f:ax.ad[1]? =some fr) (ge:ax.ad[2]? =some (ga w)) (l:ax.ad[3]? =some L) (t:ax.ad[4]? =some T) (dK:ax.aE[0]? =some (w:Int)) (e_:ax.aE[1]? =some (2+2*(w:Int)))
   (d7:a0 fn (aR [ch])=C (.ref L.1)) (c4:a0 aP (aR [ch])=C (.ref T.1))
 |U (mu w:Nat) (ax:aZ) (L T gQ:Addr×Addr) (bu:dg g uZ ax) (aj:ax.aj=[ch,mu]) (r:ax.ad[0]? =some qK) (f:ax.ad[1]? =some fr) (l:ax.ad[3]? =some L) (t:ax.ad[4]? =some T) (a_:ax.ad[13]? =some gQ) (dK:ax.aE[0]? =some (-1)) (hw:w<4) (e_:ax.aE[1]? =some (3+2*(w:Int)))
   (d7:a0 fn (aR [ch])=C (.ref L.1)) (c4:a0 aP (aR [ch])=C (.ref T.1)) (nJ:a0 fn (aR [mu])=C (.ref gQ.1)) (km:a0 aP (aR [mu])≠none)
theorem wF{m:Nat}(h:1<=m/\m<=4):DC (gP m)=true:=by
 (refine a3 h λaa af=>?_;try clear h);rcases m with _|_|_|_|_|m
 .lia
 all_goals first|decide+kernel|lia
variable{qK:az×az}
theorem Entry.re{fr:az×az}{eN es:List (aM×aB)}(E:Entry g qK fr ga fn aP ch)(b7:br.prog=g.prog)(hw:br.w=g.w)(up:∀b x,g.h₀.get? b=C x->br.h₀.get? b=C x)(bt:g.S<=br.S)
  (hf:∀c,a0 aP (aR [c])≠none->a0 eN (aR [c])=a0 fn (aR [c]))(aw:∀c,a0 aP (aR [c])≠none->a0 es (aR [c])=a0 aP (aR [c])):Entry br qK fr ga eN es ch:=by
 cases E with
 |A ax L T bu aj r f l t dK d7 c4=>exact .A ax L T (bu.re (by kernel_rfl) b7 hw up bt) aj r f l t dK ((hf _ (by refine G c4 ?_;simp)).trans d7) ((aw _ (by refine G c4 ?_;simp)).trans c4)
 |B m w hm oc ax L T bu aj r f ge l t dK e_ d7 c4=>exact .B m w hm oc ax L T (bu.re (wF hm) b7 hw up bt) aj r f ge l t dK e_ ((hf _ (by refine G c4 ?_;simp)).trans d7) ((aw _ (by refine G c4 ?_;simp)).trans c4)
 |U mu w ax L T gQ bu aj r f l t a_ dK oc e_ d7 c4 nJ km=>exact .U mu w ax L T gQ (bu.re (by kernel_rfl) b7 hw up bt) aj r f l t a_ dK oc e_ ((hf _ (by refine G c4 ?_;simp)).trans d7) ((aw _ (by refine G c4 ?_;simp)).trans c4) ((hf _ km).trans nJ) (G (aw _ km) km)
structure gE where
 K:b5
 after:Nat->Nat
 room:Int
 root:az×az
 fr:az×az
 cM:az
 r9:List (aM×aB)
 ga:Nat->az×az
 hM:az
 d6:az
 e4:az
 ep:az
 M:Model
 A:oC
 h0:gj
 c7:az×az
 raw:Nat->cj
 dU:aN
structure bP(X:gE)(p:b4)(g:cz)(c:bc)(β:aZ)(s:aN)(env:hB)(fn aP:List (aM×aB))(at_ N:Int):Prop where
 good:Good g
 k:g.K=X.K
 ct:c.Ok g 2
 env:cc c (lax X.K) env β
 sat:Sat g c p.st β s
 eB:c.P=g.h₀.get?
 gens:Gens g X.after X.root X.cM X.r9 X.ga
 cB:β.ad[1]? =C X.root
 el:β.ad[2]? =C X.fr
 gF:β.ad[3]? =C (X.hM,X.hM)
 jL:β.ad[6]? =C (X.d6,X.d6)
 j_:β.ad[10]? =C (X.e4,X.e4)
 k0:β.ad[11]? =C (X.ep,X.ep)
 k1:β.ad[13]? =C (X.cM,X.cM)
 room:β.aE[2]? =C X.room
 oe:β.aE[5]? =C at_
 ed:β.aE[1]? =C N
 s9:g.base X.hM=C fn
 oP:g.base X.d6=C aP
 keys:∀k,a0 fn k≠none->hU N aP k
 ents:∀k,a0 aP k≠none->∃ch,ch∈bD/\k=aR [ch]/\Entry g X.root X.fr X.ga fn aP ch
 S:20<=g.S
 m5:0<=N
 aD:∀a o aA old,g.h₀.get? a=C o->o.IsDictOf (strKind g.prog g.w) aA->g.base a=C old->aA=old
 m:g.M=X.M
 a:c.A=X.A
 hl:∀a o,X.h0.get? a=C o->c.P a=C o
 hJ:β.ad[9]? =C X.c7
 raw:g.raw=X.raw
 dU:g.dU=X.dU
section
variable{c:bc}{st:St}{s:aN}
theorem vW(F:Facts g.S st.ar st.aC st.ns β){ks:List ag}(h:o8 st.ar st.aC au ks=ae)(hd:∀k∈ks,∃l,ag.val β k=C l)(e:ag×V)(he:e∈au)(l:bB)(aX:e.1.val β=C l):∃k∈ks,ag.val β k=C l:=aU ((p4 (f:=λ(x:ag×V) k=>tX (ag.eq st.ar st.aC 400 x.1 k)) h).l e he) λk aw q=>bG (hd k aw) λm hm=>(bh k aw (aS (ag.k4 F (y7 q) aX hm).symm▸hm))
theorem agd(F:Facts g.S st.ar st.aC st.ns β){k:ag}{l:bB}(aw:k.val β=C l)(h:uq st.ar st.aC k n au=ae)(hd:∀e∈au,∃l,e.1.val β=C l):∃e∈au,e.1.val β=C l/\e.2=.r n:=aU (Ei.mp h) λe he q=>bG (hd e he) λa_ jw=>cF (bC q) λm hm en=>(fV e he (aS (ag.k4 F (y7 (bS q)) jw aw).symm▸jw) (d0 en▸ue hm))
theorem Ag(F:Facts g.S st.ar st.aC st.ns β){k:ag}{l:bB}(aw:k.val β=C l)(h:uq st.ar st.aC k n au=ae)(bJ:kZ β aA au):∃p,β.ad[n]? =C p/\a0 aA (aR l)=C (.ref p.1):=by refine eH (agd F aw h bJ.vals) λz fG hA kn=>?_;obtain(⟨a_,v,cJ,cY,fw⟩):=bJ z fG;cases hA.symm.trans cJ;rw[kn] at fw;(refine cA fw λa d gT e=>?_;try clear fw);exact(bh (a,d) gT (e▸cY))
theorem Mw{c v:Nat}{e:bo}(h:p2 c v e=ae):e=.aL (c:Int) ai v:=
 cF h λq e h=>by(refine G (xY e) (G (d0 (bS h)) (G (d0 (bC h)) ?_)));rfl
theorem Rv(h:qH st n=C au):∃op,st.σ.get n=C (ae,.dict au (C op)):=
 cu h λx ak h=>by
  obtain(⟨own,o⟩):=x;induction own using bV with
  |false=>exact bK h
  |true=>exact cu h λq aq h=>omap h λop bx e=>⟨op,by exact G ak (G (show o=_ from oU aq) (G bx (G (bW e) rfl)))⟩
theorem Dv(H:Sat g c st β s){p:az×az}(h:qH st n=C au)(b:β.ad[n]? =C p):∃o aA,s.heap.get? p.1=C o/\o.IsDictOf (strKind g.prog g.w) aA/\(kZ β aA au)/\Rest (g.base p.1) β aA au:=by refine bG (Rv h) λop q=>bG H.objs λf hf=>?_;obtain(⟨a,d,bZ,c5,_⟩):=hf n ae _ q;cases b.symm.trans bZ;obtain(⟨_,_,o,aA,aa,af,aJ,_,bl,_⟩):=(show cN g s.heap.get? β a d (.dict au (C op)) from c5);exact(i3 o aA aa af aJ bl.2)
theorem kP{i:Nat}{e:bo}(h:cI ah.aE i=C e)(a8:e.val β=C z):(pull ah β).aE[i]? =C z:=by rw[f3] at h;show(ah.aE.map _)[i]? =_;(refine G oF ?_;refine G h (G (nS _ _) (G a8 ?_)));rfl
theorem lU{c:Nat}{v:Nat}(h:β.aE[v]? =C z):(bo.aL (c:Int) ai v).val β=C (c+z):=rx h
end
theorem IH{c v:Nat}(h:(cI ah.aE v).any (p2 c v)=ae)(a8:β.aE[v]? =C z):(pull ah β).aE[v]? =C (z+c):=
 cF h λe he q=>kP he (by(refine G (Mw q) (G (lU a8) ?_);exact G (Eu _ _) rfl))
theorem Vw(e:k3 x [("bag",8)]=C n):n=8:=by
 rw[Gk] at e;split at e
 ·(obtain J:=aT e;clear e;subst J);rfl
 .exact bK e
variable{ao:aN}{at_:Int}{c7:az×az}
theorem SN{X:gE}{c:bc}{s:aN}{eN es:List (aM×aB)}{h₀:gj}{m:Nat}(T:bP X p g c dQ s env fn aP at_ N)(l:dQ.le aY)(hg:Seen g c bp aY ao 2 ah dS q h₀ base)(bt:g.S+dS<=9000)
  (Be:∀i,i<27/\i≠9->cI ah.ad i=C i)(ba:CL ah m k=ae)(dm:Sat (g.re h₀ dS (pull ah aY) base) (c.re h₀) dJ.st (pull ah aY) ao)(s9:base X.hM=C eN)(oP:base X.d6=C es)(keys:∀k,a0 eN k≠none->hU (N+m) es k)
  (ents:(∀b x,g.h₀.get? b=C x->h₀.get? b=C x)->∀k,a0 es k≠none->∃ch,ch∈bD/\k=aR [ch]/\Entry (g.re h₀ dS (pull ah aY) base) X.root X.fr X.ga eN es ch)(et:(pull ah aY).ad[9]? =C c7):
  bP {X with c7:=c7} dJ (g.re h₀ dS (pull ah aY) base) (c.re h₀) (pull ah aY) ao env eN es (at_+k) (N+m):=by
 have tJ:∀b x,g.h₀.get? b=C x->h₀.get? b=C x:=λb x q=>hg.up b x (T.ct.base b x q);have ad:∀{i x},i<27/\i≠9->dQ.ad[i]? =C x->(pull ah aY).ad[i]? =C x:=λbN e=>dz (Be _ bN) (a4 l.ad e);refine⟨T.good.re hg.ok,T.k,hg.ct,?_,dm,rfl,?_,ad (aS rfl) T.cB,ad (aS rfl) T.el,ad (aS rfl) T.gF,ad (aS rfl) T.jL,ad (aS rfl) T.j_,ad (aS rfl) T.k0,ad (aS rfl) T.k1,?_,IH (bC (bC ba)) (a4 l.aE T.oe),IH (bS ba) (a4 l.aE T.ed),s9,oP,keys,ents tJ,bR T.S (gu _ _),Ls T.m5 (kV m),λa o aA old a9 bf cC=>?_,T.m,T.a,λa o e=>hg.up a o (T.hl a o e),et,T.raw,T.dU⟩
 .have V:=T.env;refine⟨V.scope,V.kind,V.glob,V.blt,V.loc,λx n e=>?_,V.frame,V.apart⟩;exact cA (V.cells x n e) λa ec df dx=>(gi a ec df (ad (G (Vw e) (aS rfl)) dx))
 .exact aU T.gens.gen.dict λo a9 bf=>T.gens.re rfl rfl tJ (gu _ _) λold bx=>c0 (bx.symm.trans (hg.base X.cM o X.r9 (hg.down _ _ (tJ _ _ a9)) bf))
 .obtain this:=IH (bS (bC ba)) (a4 l.aE T.room);exact G this (congrArg C (Ex _))
 .exact(c0 (cC.symm.trans (hg.base a o aA (hg.down _ _ a9) bf))).symm
theorem D2(h:β.aE[1]? =C N){p r:bB}:ag.val β [.lit p,.dec (.aL 1 ai 1),.lit r]=C (p++eR (1+N)++r):=
 ag.eP.mpr (d2 _ (eR (1+N)++r) rfl (ag.eP.mpr (d2 (eR (1+N)) r (congrArg (uL eR) (lU (c:=1) h)) (ag.eP.mpr (d2 r [] rfl rfl ((lM _).symm))) rfl)) (nR _ _ _))
theorem IT{a b c:bB}{n:Int}(h:1<a.length):(a++eR n++b).length≠1:=λe=>by rw[iG,iG] at e;exact absurd (ij h (bR (bR (gu _ _) (gu _ _)) (eJ e))) (qV _)
theorem af0{X:gE}{c:bc}{s:aN}{d:il}(T:bP X p g c dQ s env fn aP at_ N)(l:dQ.le aY)(H:Sat g c bp aY ao)(aa:R4 d=ae)(af:h1 d.ah dS bp dG=ae)
  (aJ:wD d.fI dS bp (h_ dG.os d.ah.ad) d.e=ae)(bl:R_ bp d=ae)(bt:g.S+dS<=9000)(cR:ch∈bD)(rP:d.nm.val aY=C [ch])(e1:a0 aP (aR [ch])=none)
  (holds:∀x:ag×Nat,x∈d.olds->∃c L,x.1.val aY=C [c]/\aY.ad[x.2]? =C L/\a0 fn (aR [c])=C (.ref L.1)/\a0 aP (aR [c])≠none)(H0:d.nums=[]\/(d.nums=[jj 1 "_1"]/\1<=d.more)\/(d.nums=[tw 1 "_1",jj 1 "_2"]/\1<=d.more))
  (HM:∀br eN es L h4,dg br d.e (pull d.fI aY)->e7 d.fI (pull d.fI aY) aY->(pull d.fI aY).ad[d.L]? =C L->(pull d.fI aY).ad[d.T]? =C h4->a0 eN (aR [ch])=C (.ref L.1)->a0 es (aR [ch])=C (.ref h4.1)->
   (∀c,a0 aP (aR [c])≠none->a0 eN (aR [c])=a0 fn (aR [c])/\a0 es (aR [c])=a0 aP (aR [c]))->Entry br X.root X.fr X.ga eN es ch):
  ∃br bI eN es av,bP X T0 br bI av ao env eN es at_ (N+d.more)/\(∀a o,c.P a=C o->bI.P a=C o)/\br.S=g.S+dS/\br.raw=g.raw/\br.dU=g.dU/\(∃x,av.ad[9]? =C x/\dQ.ad[9]? =C x):=by
 refine mF (sb T.good.ok T.ct H af (bR (by assumption) (bA rfl))) λh₀ base hg=>a3 (JF hg H aJ) λbu pu=>?_;have F:=H.facts;exact cF bl λau he bl=>cF bl λks HU bl=>cF bl λnl adf bl=>cF bl λahG adg bl=>by
  obtain bw:=bS bl;obtain c3:=bS (bC bl);obtain fL:=bS (bC (bC bl));obtain mB:=bS (bC (bC (bC bl)));obtain hY:=bC (bC (bC (bC bl)));refine ig (Dv H he (a4 l.ad T.gF)) λDn eN H3 B6 Ig Cq=>ig (Dv H HU (a4 l.ad T.jL)) λRi es Cg vC Cr tP=>?_;have Il:=a4 l.aE T.ed;obtain acm:∀x∈d.nums,∃l,ag.val aY x=C l/\mj (N+d.more) l/\l.length≠1:=λx ak=>by
   obtain m5:=T.m5;have n9:1<(cs "wrapper__").length:=by exact aS (by kernel_rfl)
   obtain jM:1<(cs "f__").length:=by exact aS (by kernel_rfl)
   have e5:cs "_1"=95:: [49]:=by kernel_rfl
   obtain gZ:cs "_2"=95:: [50]:=by kernel_rfl
   have le:1<=d.more->0<=1+N/\1+N<=N+d.more:=λh=>by exact⟨Ls (aS rfl) m5,Eu 1 N▸K3 (jn.mpr h) N⟩
   rcases H0 with e|⟨e,hm⟩|⟨e,hm⟩
   .rw[e] at ak;cases ak
   .rw[e] at ak;obtain rfl:=eu.mp ak;exact(fV _ (D2 Il) ⟨1+N,[49],(le hm).1,(le hm).2,.inl (G e5 rfl)⟩ (IT (c:=[]) n9))
   .rw[e] at ak;rcases dh.mp ak with rfl|ak
    .exact(fV _ (D2 Il) ⟨1+N,[49],(le hm).1,(le hm).2,.inr (G e5 rfl)⟩ (IT (c:=[]) jM))
    .obtain rfl:=eu.mp ak;exact(fV _ (D2 Il) ⟨1+N,[50],(le hm).1,(le hm).2,.inl (G gZ rfl)⟩ (IT (c:=[]) n9))
  have P6:∀x∈d.keys,(∃c L,ag.val aY x=C [c]/\a0 fn (aR [c])=C (.ref L)/\a0 eN (aR [c])=C (.ref L)/\a0 aP (aR [c])≠none)\/(∃l,ag.val aY x=C l/\mj (N+d.more) l/\l.length≠1)\/x=d.nm:=λx ak=>by
   unfold il.keys at ak;rcases me.mp ak with ak|ak
   .rcases me.mp ak with ak|ak
    ·(refine aU (kY.mp ak) λy bT J=>?_;(clear ak;subst J));refine ig (holds y bT) λc L a9 bf cC iM=>.inl (i3 c L.1 a9 cC ?_ iM);refine aU (Ag F a9 (eX.mp c3 y bT) Ig) λp df dx=>?_;cases bf.symm.trans df;exact dx
    .exact .inr (.inl (acm x ak))
   .exact .inr (.inr (eu.mp ak))
  obtain aaK:∀k∈d.keys,∃l,ag.val aY k=C l:=λk aw=>by
   rcases P6 k aw with⟨c,L,e,_⟩|⟨l,e,_⟩|rfl
   .exact⟨_,e⟩
   .exact⟨_,e⟩
   .exact⟨_,rP⟩
  refine aU (Ag F rP fL Ig) λL agh agi=>aU (Ag F rP hY Cr) λh4 agj S8=>?_;have IY:∀k,k≠aR [ch]->a0 es k=a0 aP k:=λk aw=>by
   rcases(tP aP T.oP).2 k with⟨e,he,aX⟩|h
   .refine aU (vW F mB (λk aw=>by exact G (eu.mp aw) ⟨_,rP⟩) e he _ aX) λeF a b=>?_;rw[eu.mp a,rP] at b;obtain this:cs k=[ch]:=(c0 b).symm;exact absurd (by(refine G (bW this) ?_;exact G (hk _) rfl)) aw
   .exact h
  have OH:∀k,a0 eN k=a0 fn k\/mj (N+d.more) (cs k)\/k=aR [ch]:=λk=>by
   rcases(Cq fn T.s9).2 k with⟨e,he,aX⟩|h
   .refine aU (vW F bw aaK e he _ aX) λeF a b=>?_;rcases P6 eF a with⟨c,L,a9,bf,cC,_⟩|⟨l,a9,bf,_⟩|rfl
    .rw[b] at a9;obtain this:cs k=[c]:=c0 a9;obtain this:k=aR [c]:=by(refine G (bW this) ?_;exact G (hk _) rfl)
     left;exact G this (G bf (G cC rfl))
    .rw[b] at a9;(obtain J:=aT a9;clear a9;subst J);exact .inr (.inl bf)
    .rw[rP] at b;obtain this:cs k=[ch]:=(c0 b).symm;exact .inr (.inr (by(refine G (bW this) ?_;exact G (hk _) rfl)))
   .exact .inl h
  have same:∀c,a0 aP (aR [c])≠none->a0 eN (aR [c])=a0 fn (aR [c])/\a0 es (aR [c])=a0 aP (aR [c]):=λc bb=>by
   have ne:aR [c]≠aR [ch]:=λe=>by rw[e] at bb;exact bb e1
   refine⟨?_,IY _ ne⟩;rcases OH (aR [c]) with h|h|h
   .exact h
   .rw[show cs (aR [c])=[c] from by simp[cs,aR]] at h;rcases h.head with⟨h,_⟩|⟨t,h⟩<;>simp at h
   .exact absurd h ne
  obtain ent:=HM _ eN es L h4 bu pu (dz adf agh) (dz adg agj) agi S8 same;have Be:∀i,i<27->cI d.ah.ad i=C i:=λi bN=>by obtain this:=Ip (bS aa) i bN;rw[uJ] at this;exact(f3 _ _).trans this
  have et:=dz (Be 9 (aS rfl)) (a4 l.ad T.hJ);have dm:=hg.sat;have nV:=dm.facts;obtain aaM:∀k,a0 eN k≠none->hU (N+d.more) es k:=λk aw=>by
   obtain aaU:∀k,a0 aP k≠none->a0 es k≠none:=λk aw=>by
    by_cases e:k=aR [ch]
    .rw[e] at aw;exact absurd e1 aw
    .exact G (IY k e) aw
   rcases OH k with h|h|h
   .rw[h] at aw;rcases T.keys k aw with⟨c,dw,dV,hz⟩|x|x
    .exact .inl (fV c dw dV (aaU k hz))
    .exact .inr (.inl x)
    .exact .inr (.inr (x.mono (Int.le_add_of_nonneg_right (kV _))))
   .exact .inr (.inr h)
   .exact .inl (fV ch cR h (by(refine G h (G S8 ?_));exact KX _))
  obtain Xc:(∀b x,g.h₀.get? b=C x->h₀.get? b=C x)->∀k,a0 es k≠none->∃ch,ch∈bD/\k=aR [ch]/\Entry (g.re h₀ dS (pull d.ah aY) base) X.root X.fr X.ga eN es ch:=λtJ k aw=>by
   by_cases e:k=aR [ch]
   .exact(fV ch cR e ent)
   .rw[IY k e] at aw;exact eH (T.ents k aw) λc dw dV E=>(fV c dw dV (E.re rfl rfl tJ (gu _ _) (λc bb=>(same c bb).1) λc bb=>(same c bb).2))
  obtain xS:=SN (dJ:=T0) T l hg bt (λi bN=>Be i bN.1) (bC aa) (dm.bounds (ar:=T0.ar) ⟨BI (mq:=10000) (bR bt (aS rfl)) (by kernel_rfl:lW 10000 dG.ar T0.ar=ae) nV.aE,nV.aj,nV.cd,nV.dd,nV.cn⟩) (hg.base _ _ _ H3 B6) (hg.base _ _ _ Cg vC) aaM Xc et;rw[show at_+((0:Nat):Int)=at_ from Ex _] at xS;exact(agG (g.re h₀ dS (pull d.ah aY) base) (c.re h₀) eN es (pull d.ah aY) xS hg.up rfl rfl rfl (bh _ et T.hJ))
theorem GL(h:fu g H):fu g (iv H):=λc dep β f aK aH U R aW st s aa S=>by
 unfold iv At;dsimp only;generalize q:eK 4 dep=aF;clear q;induction aF using bV with
 |false=>trivial
 |true=>obtain this:=h c dep β f aK aH U R aW st s aa S;unfold At at this;dsimp only at this ⊢;exact this
variable{Q:fH->aN->Prop}{b2:aZ}{h3:gW}
section
variable{X:gE}{c:bc}{s:aN}
theorem bP.bounds(T:bP X p g c β s env fn aP at_ N)(e:({p.st with ar:=dJ.ar}:St)=dJ.st)(F:bL (hc g.S) dJ.ar β.aE):bP X dJ g c β s env fn aP at_ N:=
 {T with sat:=e▸T.sat.bounds ⟨F,T.sat.facts.aj,T.sat.facts.cd,T.sat.facts.dd,T.sat.facts.cn⟩}
theorem bP.lj(T:bP X p g c β s env fn aP at_ N){l:bB}(e:({p.st with aC:=p.aC++ [l]}:St)=dJ.st)(hm:ch∈l)(aO:ch∉β.aj):bP X dJ g c {β with aj:=β.aj++ [ch]} s env fn aP at_ N:=by refine a3 (Qk T.sat hm aO) λS le=>?_;obtain eE:Sat g c dJ.st {β with aj:=β.aj++ [ch]} s:=e▸S;exact{T with sat:=eE,env:=T.env.le le}
theorem fq(U:c.Ok g 2){st:St}(H:Sat g c st β s){j:List Nat×List ag×b4}(hH:JoinOk g β j ax)(h:(hu st j.1 j.2.1 j.2.2).isSome=ae):Sat g c (hO st j) (β.app j.1.length ax) s:=eH (aau U H hH) λav a I b=>G (bW (b h)) a
structure pZ(β:aZ)(aA:List (aM×aB))(au:List (ag×V))(abs:List ag):Prop where
 au:∃aK:List (bB×aB),bL (λ(e:ag×V) x=>e.1.val β=C x.1/\a7 β e.2 x.2/\a0 aA (aR x.1)=C x.2) au aK/\(aK.map (·.1)).Nodup
 abs:∀x:ag,x∈abs->∃l,x.val β=C l/\a0 aA (aR l)=none
theorem pZ.parts(h:pZ β aA au abs):(kZ β aA au)/\au.Pairwise (λe f=>e.1.val β≠f.1.val β):=by
 refine aU h.au λaK A e9=>?_;clear h;induction A with
 |nil=>exact⟨λe he=>(nomatch he),.nil⟩
 |@cons e x au aK r A bj=>
  rw[j4,jD] at e9;refine a3 (bj e9.2) λlZ rS=>⟨λf hf=>?_,xb.mpr ⟨λf hf q=>?_,rS⟩⟩
  .rcases dh.mp hf with rfl|hf
   .exact⟨x.1,x.2,r.1,r.2.2,r.2.1⟩
   .exact lZ f hf
  .obtain this:∃y∈aK,f.1.val β=C y.1:=by
    clear bj lZ rS e9;induction A with
    |nil=>cases hf
    |@cons cf sh qd S_ g_ Ui Cz=>
     rcases dh.mp hf with rfl|hf
     .exact(bh sh (.head _) g_.1)
     .exact aU (Cz hf) λy a b=>(bh y (.tail _ a) b)
   (refine aU this λy cJ cY=>?_;try clear this);rw[r.1,cY] at q;exact e9.1 (G (c0 q) (kU cJ))
noncomputable def freshD(st:St):Bool:=newD (st.σ.get 3)&&(newD (st.σ.get 6)&&Hw (st.σ.get 13))
theorem Ya{st:St}(h:freshD st=ae):st.σ.get 3=C (ae,.dict [] (C []))/\st.σ.get 6=C (ae,.dict [] (C []))/\st.σ.get 13=C (ai,.gone):=(fi (C9 (bS h)) (C9 (bS (bC h))) (OY (bC (bC h))))
theorem je{st:St}(T:bP X p g c β s env fn aP at_ N)(l:β.le b2)(H:Sat g c st b2 s)(hf:freshD st=ae)(v:A6)(cb:pZ b2 X.r9 v.re v.c2)(aO:pZ b2 fn v.ne v.na)(aw:pZ b2 aP v.fM v.d6):
  Sat g c (pv (pv (pv st 13 ai v.re v.c2) 3 ae v.ne v.na) 6 ae v.fM v.d6) b2 s:=by
 refine fO (Ya hf) λvs nh Ox=>?_;have Hx:∀(t:dD (Bool×O))(n m:Nat)(x:Bool×O),n<10000000->m≠n->(t.put cU n x).get m=t.get m:=λt n m x aO hm=>by exact G (dD.k8 cU t n x m (ij aO (aS rfl))) (G (if_neg hm) rfl)
 refine aU T.gens.gen.dict λo eZ hp=>a3 cb.parts λdc dA=>?_;obtain dm:Sat g c (pv st 13 ai v.re v.c2) b2 s:=R9 H (aS rfl) Ox (a4 l.ad T.k1) (G T.eB eZ) hp T.gens.gen.ne dc dA cb.abs (λold h=>T.gens.gen.base old h) (by obtain this:=T.gens.gen.eS;obtain this:=T.S;exact bR (by assumption) (by assumption));refine a3 aO.parts λeV dY=>?_;obtain ho:Sat g c (pv (pv st 13 ai v.re v.c2) 3 ae v.ne v.na) b2 s:=J1 dm (aS rfl) ((Hx _ 13 3 _ (aS rfl) (aS rfl)).trans vs) (a4 l.ad T.gF) T.s9 eV dY aO.abs;exact a3 aw.parts λbw c3=>J1 ho (aS rfl) (((Hx _ 3 6 _ (aS rfl) (aS rfl)).trans (Hx _ 13 6 _ (aS rfl) (aS rfl))).trans nh) (a4 l.ad T.jL) T.oP bw c3 aw.abs
theorem Gens.absent(a6:Gens g after root cM aA ga){l:bB}(aa:∀t,l≠103::t)(af:∀t,l≠104::t)(aJ:∀t,l≠98::t):a0 aA (aR l)=none:=by
 generalize q:a0 aA (aR l)=aF;induction aF using b1 with
 |none=>rfl
 |some v=>
  rcases a6.keys (aR l) (by refine G q ?_;simp) with⟨w,_,e|e⟩|e
  .exact absurd (oi e) (aa _)
  .exact absurd (oi e) (af _)
  .obtain this:=oi e;obtain mw:cs "bare"=98:: [97,114,101]:=by kernel_rfl
   exact absurd (this.trans mw) (aJ _)
theorem RK(h:ch∈bD):ch≠103/\ch≠104/\ch≠98/\ch∉dE:=by unfold bD at h;simp only[dh,lL,or_false] at h;rcases h with rfl|rfl|rfl|rfl|rfl|rfl|rfl<;>decide
theorem Gens.U7(a6:Gens g after root cM aA ga)(h:ch∈bD):a0 aA (aR [ch])=none:=Ju (RK h) λaa af aJ I=>a6.absent (λt e=>aa (by simpa using congrArg LP e)) (λt e=>af (by simpa using congrArg LP e)) (λt e=>aJ (by simpa using congrArg LP e))
structure gn(X:gE)(g:cz)(c:bc)(env:hB)(at_:Int)(c7:az×az)(Q:fH->aN->Prop):Prop where
 T:∀ao,(∀a o,c.P a=C o->ao.heap.get? a=C o)->m6 g ao->Q (.ret (.bool ae)) ao
 N:∀ao br bI av eN es sV,bP X T0 br bI av ao env eN es at_ sV->(∀a o,c.P a=C o->bI.P a=C o)->br.S=g.S+dS->br.raw=g.raw->br.dU=g.dU->av.ad[9]? =C c7->Q .next ao
theorem Sat.wX{b:aZ}{st:St}(H:Sat (g.pin b) c st β s)(h:g.dQ.le b):Sat g c st β s:=by exact bG H.objs λf hf=>⟨⟨H.keep,H.cx,⟨f,λn own o q=>(by obtain(⟨a,d,aa,af,aJ⟩):=hf n own o q;exact⟨a,d,aa,cN.pin (g:=g.pin b) (dQ:=g.dQ) af,aJ⟩)⟩,H.len,H.facts,h.trans H.ghost⟩,H.os,H.loc⟩
theorem adR{o:Out dj}(h:d5 o=ae):∃st,o=.ok (.ret (.c (.bool ae))) st:=cF h λp e h=>cF h λv bf h=>cF h λx cC h=>cF h λb iM h=>⟨p.2,by exact G (ub e) (G (R0 bf) (G (yg cC) (G (VJ iM) (G (show b=ae from h) rfl))))⟩
theorem mJ{x:Go}(a6:Good g)(aw:g.K=X.K)(U:c.Ok g 2)(V:cc c (lax X.K) env b2)(f9:fu (g.pin b2) h3)(H:Sat g c x.st b2 s)(run:d5 (cP X.K h3 x)=ae)(aq:gn X g c env at_ c7 Q):
  dX g c (cH ((ea X.K).drop 3) env) Q E s:=by have fx:=a6.pin (β:=b2);obtain aj:=(o5 fx.ok fx.lay fx.raise f9 300).xs c (lax X.K) env b2 ((ea X.K).drop 3) U.pin V b2 x.st s (.refl _) H.pin;rw[show(g.pin b2).K=X.K from aw] at aj;unfold At at aj;refine bG (adR run) λbp q=>?_;replace q:((er X.K h3 300).xs (lax X.K) ((ea X.K).drop 3)) x.st=_:=q;rw[q] at aj;refine aj Q E λeM ao av l S R=>?_;(refine aU R λy J r=>?_;try clear R;subst J);obtain r:y=.bool true:=r;subst r;exact aq.T ao S.keep S.os
set_option tactic.hygienic true in
theorem ug{x:Go}{d:il}(T:bP X p g c β s env fn aP at_ N)(l:β.le b2)(f9:fu (g.pin b2) h3)(H:Sat g c x.st b2 s)(run:gg (cP X.K h3 x) d=ae)(aq:gn X g c env at_ c7 Q)(et:β.ad[9]? =C c7)(bt:g.S+dS<=9000)
  (cR:ch∈bD)(rP:d.nm.val b2=C [ch])(e1:a0 aP (aR [ch])=none)
  (holds:∀x:ag×Nat,x∈d.olds->∃c L,x.1.val b2=C [c]/\b2.ad[x.2]? =C L/\a0 fn (aR [c])=C (.ref L.1)/\a0 aP (aR [c])≠none)(H0:d.nums=[]\/(d.nums=[jj 1 "_1"]/\1<=d.more)\/(d.nums=[tw 1 "_1",jj 1 "_2"]/\1<=d.more))
  (HM:∀aY br eN es L h4,b2.le aY->dg br d.e (pull d.fI aY)->e7 d.fI (pull d.fI aY) aY->(pull d.fI aY).ad[d.L]? =C L->(pull d.fI aY).ad[d.T]? =C h4->a0 eN (aR [ch])=C (.ref L.1)->a0 es (aR [ch])=C (.ref h4.1)->
   (∀c,a0 aP (aR [c])≠none->a0 eN (aR [c])=a0 fn (aR [c])/\a0 es (aR [c])=a0 aP (aR [c]))->Entry br X.root X.fr X.ga eN es ch):
  dX g c (cH ((ea X.K).drop 3) env) Q E s:=by
 have fx:=T.good.pin (β:=b2);obtain aj:=(o5 fx.ok fx.lay fx.raise f9 300).xs c (lax X.K) env b2 ((ea X.K).drop 3) T.ct.pin (T.env.le l) b2 x.st s (.refl _) H.pin;rw[show(g.pin b2).K=X.K from T.k] at aj;unfold At at aj;unfold gg cP at run;refine aU (zL run) λbp q run=>?_;rw[q] at aj;simp only[ew] at run;(refine a3 run λJ DG=>?_;try clear run;refine a3 J λbU hx=>?_;try clear J;refine a3 bU λdc dA=>?_;try clear bU);refine aj Q E λeM ao aY a_ S R=>?_;obtain rfl:=R;obtain S:=S.wX H.ghost;obtain(⟨br,bI,eN,es,av,bX,up,ez,Hc,au,y,cJ,cY⟩):=af0 T (l.trans a_) S dc dA hx DG bt cR (ag.hy a_ rP) e1 (λx ak=>(ig (holds x ak) λc L a1 a2 cm c_=>(i3 c L (ag.hy a_ a1) (a4 a_.ad a2) cm c_))) H0
  λbr eN es L h4=>HM aY br eN es L h4 a_
 rw[et] at cY;(obtain J:=aT cY;clear cY;subst J);exact aq.N ao br bI av eN es _ bX up ez Hc au cJ
end
section
theorem Qt{p:bB}(h:β.aj[k]? =C ch):ag.val β [.lit p,.chr k]=C (p++ [ch]):=
 ag.eP.mpr (d2 p [ch] rfl (Bx h) rfl)
theorem mx(h:β.aj[k]? =C ch):ag.val β (hq k)=C [103,ch]:=Qt h
theorem tD(h:β.aj[k]? =C ch):ag.val β (bb k)=C [104,ch]:=Qt h
theorem b9(h:β.aj[k]? =C ch):ag.val β [.chr k]=C [ch]:=Bx h
theorem Dm{p:bB}(h:β.aE[1]? =C N)(r:bB):ag.val β [.lit p,.dec (.aL 1 ai 1),.lit r]=C (p++eR (1+N)++r):=D2 h
theorem MF:(β.app k ax).aE[β.aE.length+j]? =ax.aE[j]? :=by show(β.aE++ax.aE)[_]? =_;(refine G (pL (gu _ _)) ?_;exact G (Ea _ _) rfl)
theorem ac2{au:List ag}{l:bB}(h:bL (λe c=>ag.val β e=C [c]) au l):(au.map λe=>Bw (ag.val β e))=l:=by
 induction h with
 |nil=>rfl
 |cons h _ bj=>(refine G j4 (G h (G bj ?_)));rfl
theorem e3{l:bB}(h:bL (λe c=>ag.val β e=C [c]) ah.aj l):(pull ah β).aj=l:=ac2 h
end
noncomputable def vU:ag:=[.chr 0]
variable{L:az×az}
section
variable{X:gE}{c:bc}{s:aN}
theorem MY:cs "_1"=95:: [49]:=by kernel_rfl
theorem VM:cs "_2"=95:: [50]:=by kernel_rfl
theorem bP.nv(T:bP X p g c β s env fn aP at_ N)(h:b2.aj[k]? =C ch):∃l,ag.val b2 (hq k)=C l/\a0 fn (aR l)=none:=(bh _ (mx h) (hU.two T.keys (aS rfl)))
theorem bP.cO(T:bP X p g c β s env fn aP at_ N)(h:b2.aj[k]? =C ch):∃l,ag.val b2 (bb k)=C l/\a0 fn (aR l)=none:=(bh _ (tD h) (hU.two T.keys (aS rfl)))
theorem bP.t7(T:bP X p g c β s env fn aP at_ N)(h:b2.aj[k]? =C ch)(aO:a0 aP (aR [ch])=none):∃l,ag.val b2 [.chr k]=C l/\a0 fn (aR l)=none:=(bh _ (b9 h) (hU.one T.keys aO))
theorem bP.g9(h:b2.aj[k]? =C ch)(aO:a0 aP (aR [ch])=none):∃l,ag.val b2 [.chr k]=C l/\a0 aP (aR l)=none:=(bh _ (b9 h) aO)
theorem bP.wk(T:bP X p g c β s env fn aP at_ N)(h:b2.aE[1]? =C N):∃l,ag.val b2 (jj 1 "_1")=C l/\a0 fn (aR l)=none:=(bh _ (Dm h _) (G MY (hU.num T.keys (.inl rfl) (by lia) T.m5)))
theorem bP.wm(T:bP X p g c β s env fn aP at_ N)(h:b2.aE[1]? =C N):∃l,ag.val b2 (jj 1 "_2")=C l/\a0 fn (aR l)=none:=(bh _ (Dm h _) (G VM (hU.num T.keys (.inl rfl) (by lia) T.m5)))
theorem bP.wh(T:bP X p g c β s env fn aP at_ N)(h:b2.aE[1]? =C N):∃l,ag.val b2 (tw 1 "_1")=C l/\a0 fn (aR l)=none:=(bh _ (Dm h _) (G MY (hU.num T.keys (.inr rfl) (by lia) T.m5)))
theorem bP.ie(T:bP X p g c β s env fn aP at_ N)(h:b2.aj[k]? =C ch)(bb:ch∈bD):∃l,ag.val b2 [.chr k]=C l/\a0 X.r9 (aR l)=none:=(bh _ (b9 h) (T.gens.U7 bb))
theorem bP.wi(T:bP X p g c β s env fn aP at_ N)(h:b2.aE[1]? =C N):∃l,ag.val b2 (tw 1 "_1")=C l/\a0 X.r9 (aR l)=none:=(bh _ (Dm h _) (by
 obtain jM:cs "f__"=[102,95,95]:=by kernel_rfl
 exact G jM (T.gens.absent (λt e=>by simp at e) (λt e=>by simp at e) (λt e=>by simp at e))))
theorem bP.wj(T:bP X p g c β s env fn aP at_ N):∃l,ag.val b2 (de "f")=C l/\a0 X.r9 (aR l)=none:=by
 obtain jM:cs (bO "f")=[102]:=by kernel_rfl
 exact(bh (cs (bO "f")) (ag.eP.mpr (d2 _ [] rfl rfl (by simp))) (G jM (T.gens.absent (λt e=>by simp at e) (λt e=>by simp at e) (λt e=>by simp at e))))
theorem CQ(x:String):ag.val b2 (de x)=C (cs (bO x)):=ag.eP.mpr (d2 _ [] rfl rfl (by simp))
theorem bP.Rc(T:bP X p g c β s env fn aP at_ N):∃l,ag.val b2 (de "none")=C l/\a0 X.r9 (aR l)=none:=by
 obtain jM:cs (bO "none")=[110,111,110,101]:=by kernel_rfl
 exact(bh _ (CQ _) (G jM (T.gens.absent (λt e=>by simp at e) (λt e=>by simp at e) (λt e=>by simp at e))))
theorem bP.Rb(T:bP X p g c β s env fn aP at_ N):∃l,ag.val b2 (de "none")=C l/\a0 fn (aR l)=none:=(bh _ (CQ _) (hU.none T.keys))
theorem fs(h:∀x:ag,x∈abs->∃l,x.val b2=C l/\a0 aA (aR l)=none):pZ b2 aA [] abs:=⟨(bh [] .nil .nil),h⟩
theorem i0{k:ag}{l:bB}(aa:k.val b2=C l)(af:b2.ad[n]? =C L)(aJ:a0 aA (aR l)=C (.ref L.1))(h:∀x:ag,x∈abs->∃l,x.val b2=C l/\a0 aA (aR l)=none):pZ b2 aA [(k,aI n)] abs:=
 ⟨(bh [(l,.ref L.1)] (.cons (fi aa ⟨L.1,L.2,af,rfl⟩ aJ) .nil) (by simp)),h⟩
theorem pw{k eF:ag}{t4:Nat}{l a_:bB}{gQ:az×az}(aa:k.val b2=C l)(af:b2.ad[n]? =C L)(aJ:a0 aA (aR l)=C (.ref L.1))(yy:eF.val b2=C a_)(YB:b2.ad[t4]? =C gQ)(YD:a0 aA (aR a_)=C (.ref gQ.1))(ne:l≠a_)
  (h:∀x:ag,x∈abs->∃l,x.val b2=C l/\a0 aA (aR l)=none):pZ b2 aA [(k,aI n),(eF,aI t4)] abs:=
 ⟨(bh [(l,.ref L.1),(a_,.ref gQ.1)] (.cons (fi aa ⟨L.1,L.2,af,rfl⟩ aJ) (.cons (fi yy ⟨gQ.1,gQ.2,YB,rfl⟩ YD) .nil)) (by simpa using ne)),h⟩
theorem all_nil{q:ag->Prop}:∀x∈([]:List ag),q x:=λx h=>(nomatch h)
theorem all_cons{q:ag->Prop}{a:ag}{l:List ag}(h:q a)(r:∀x∈l,q x):∀x∈a::l,q x:=λx ak=>by
 rcases dh.mp ak with rfl|ak
 .exact h
 .exact r x ak
theorem Entry.ey{fr:az×az}(E:Entry g qK fr ga fn aP ch)(aD:∀a o aA old,g.h₀.get? a=C o->o.IsDictOf (strKind g.prog g.w) aA->g.base a=C old->aA=old):
  ∃ax L,dg g kx ax/\ax.aj=[ch]/\ax.ad[0]? =C L/\a0 fn (aR [ch])=C (.ref L.1):=by
 cases E with
 |A ax L T bu aj r f l t dK d7 c4=>obtain this:=bu.pick (cf:=kx) (ah:=⟨[2,4],[],[vU],[]⟩) (by kernel_rfl) (aS rfl) (by kernel_rfl) aD;exact(i3 _ L this.1 (e3 (.cons (b9 (k:=0) (G aj rfl)) .nil)) (dz rfl l) d7)
 |B m w hm hw ax L T bu aj r f ge l t dK e_ d7 c4=>
  obtain this:dg g kx (pull ⟨[3,5],[],[vU],[]⟩ ax):=by
   (refine a3 hm λaa af=>?_;try clear hm);rcases m with _|_|_|_|_|m
   .exact absurd (by assumption) (qV _)
   all_goals first|exact(bu.pick (cf:=kx) (by kernel_rfl) (aS rfl) (by kernel_rfl) aD).1|lia
  exact(i3 _ L this (e3 (.cons (b9 (k:=0) (G aj rfl)) .nil)) (dz rfl l) d7)
 |U mu w ax L T gQ bu aj r f l t a_ dK hw e_ d7 c4 nJ km=>obtain this:=bu.pick (cf:=kx) (ah:=⟨[3,5],[],[vU],[]⟩) (by kernel_rfl) (aS rfl) (by kernel_rfl) aD;exact(i3 _ L this.1 (e3 (.cons (b9 (k:=0) (G aj rfl)) .nil)) (dz rfl l) d7)
end
section
variable{fr:az×az}
noncomputable def sT(g:cz):Prop:=∀a o aA old,g.h₀.get? a=C o->o.IsDictOf (strKind g.prog g.w) aA->g.base a=C old->aA=old
noncomputable def xV:List ag:=[[.any 0]]
theorem dg.zU{m:Nat}{cf:b4}(hm:1<=m/\m<=4)(bu:dg g (gP m) ax)(aD:sT g)(h:(z9 ah (gP 1) cf&&z9 ah (gP 2) cf&&z9 ah (gP 3) cf&&z9 ah (gP 4) cf)=ae):dg g cf (pull ah ax):=by
 simp only[ew] at h;(refine a3 h λJ bl=>?_;try clear h;refine a3 J λbU aJ=>?_;try clear J;refine a3 bU λaa af=>?_;try clear bU);(refine a3 hm λdT cG=>?_;try clear hm);rcases m with _|_|_|_|_|m
 .exact absurd (by assumption) (qV _)
 .exact(bu.pick (by kernel_rfl) (aS rfl) aa aD).1
 .exact(bu.pick (by kernel_rfl) (aS rfl) af aD).1
 .exact(bu.pick (by kernel_rfl) (aS rfl) aJ aD).1
 .exact(bu.pick (by kernel_rfl) (aS rfl) bl aD).1
 .lia
theorem Entry.N_(E:Entry g qK fr ga fn aP ch)(aD:sT g):∃ax L,dg g rg ax/\ax.aj=[ch]/\ax.ad[0]? =C L/\a0 fn (aR [ch])=C (.ref L.1):=by
 cases E with
 |A ax L T bu aj r f l t dK d7 c4=>obtain this:=bu.pick (cf:=rg) (ah:=⟨[2,4,1,5],[],[vU],xV⟩) (by kernel_rfl) (aS rfl) (by kernel_rfl) aD;exact(i3 _ L this.1 (e3 (.cons (b9 (k:=0) (G aj rfl)) .nil)) (dz rfl l) d7)
 |B m w hm hw ax L T bu aj r f ge l t dK e_ d7 c4=>obtain this:=bu.zU (cf:=rg) (ah:=⟨[3,5,6,8],[],[vU],xV⟩) hm aD (by kernel_rfl);exact(i3 _ L this (e3 (.cons (b9 (k:=0) (G aj rfl)) .nil)) (dz rfl l) d7)
 |U mu w ax L T gQ bu aj r f l t a_ dK hw e_ d7 c4 nJ km=>obtain this:=bu.pick (cf:=rg) (ah:=⟨[3,5,6,8],[],[vU],xV⟩) (by kernel_rfl) (aS rfl) (by kernel_rfl) aD;exact(i3 _ L this.1 (e3 (.cons (b9 (k:=0) (G aj rfl)) .nil)) (dz rfl l) d7)
end
theorem bL.get'{β:Type}{R:aQ->β->Prop}{l:List aQ}{m:List β}(h:bL R l m):∀{i:Nat}{b:β},m[i]? =C b->∃a,l[i]? =C a/\R a b:=by
 induction h with
 |nil=>exact λh=>nomatch h
 |cons r _ bj=>
  intro i b h;induction i using hD with
  |zero=>(obtain J:=aT h;clear h;subst J);exact(bh _ rfl r)
  |succ i=>exact bj (i:=i) h
theorem dg.bounds{e:b4}(bu:dg g e β){ar:List b6}(h:bL (hc g.S) ar β.aE):dg g {e with ar:=ar} β:=⟨bu.objs,bu.len,⟨h,bu.facts.aj,bu.facts.cd,bu.facts.dd,bu.facts.cn⟩⟩
noncomputable def Mt(aG:fc)(sc:pK)(dep:Nat)(body:List eQ)(fS:MI.Loc):M V:=(l7 fS (aG.xs ⟨sc,[],dep+1⟩ body)).bind λ
 |.ret v=>M.pure v
 |.next=>M.pure nH
 |_=>fail 92
theorem QB{l:List (aM×aQ)}(e9:(l.map (·.1)).Nodup):l.reverse.lookup x=l.lookup x:=by
 induction l with
 |nil=>rfl
 |cons p r bj=>
  obtain(⟨y,v⟩):=p;rw[j4,jD] at e9;(refine G La (G T9 (G md (G (bj e9.2) ?_))));by_cases h:x=y
  .subst h;obtain this:r.lookup x=none:=by
    generalize q:r.lookup x=aF;induction aF using b1 with
    |none=>rfl
    |some v=>exact absurd (kU (f:=(·.1)) (mem_of_lookup q)) e9.1
   refine G this ?_;simp
  .have:(x==y)=false:=beq_eq_false_iff_ne.mpr h;refine G this ?_;cases q:r.lookup x<;>simp[md,this,q]
variable{names:List aM}
section
variable{c:bc}
theorem Ms{m:M dj}(O:g.Ok)(U:c.Ok g dep){a:az}{w5:List aB}(bx:g.K.lookup a=C ⟨bF,fU,.func fd,gb⟩)(aD:fd.body=.stmts body)
  (bw:fd.scope.kind=.function)(c3:fd.scope.isGenerator=ai)(fL:fd.scope.isCoroutine=ai)(rN:uS g.K fd.code fd.qualname=ae)(dO:dep<300)(tI:fd.globals=ik)(qk:fd.builtins=nK)(lr:∀x∈fd.scope.names,x.2≠.cell)
  (aX:names.length=aH.length)(aO:names.Nodup)(yK:∀x∈names,fd.scope.names.lookup x=C .local)(HD:∀s:aN,(∀a o,g.h₀.get? a=C o->s.heap.get? a=C o)->BindsTo s fd ⟨w5,[]⟩ (names.zip aH))(R:bL (a7 β) aK aH)
  (hm:∀bI cL av,bI.Ok g (dep+1)->cc bI ⟨fd.scope,[],dep+1⟩ cL av->β.le av->(∀x,cL.kindOf x=fd.scope.names.lookup x)->cT g bI av m (dX g bI (cH body cL)) eL):
  cT g c β ((l7 (names.zip aK) m).bind λ
   |.ret v=>M.pure v
   |.next=>M.pure nH
   |_=>fail 92) (jG g c (.ref a) w5) a7:=by
 intro aW st s aa H;obtain R:=R.imp λI I x=>x.le aa;have B7:=U.depth;obtain Ie:=U.units;let L:=s.heap.objs.size;let cL:=callEnv fd L a;let binds:=names.zip aH;obtain rA:(binds.map (·.1)).Nodup:=by show((names.zip aH).map (·.1)).Nodup;exact G (pO (eJ (by assumption))) aO
 refine At.w0 (aG:=λbg=>∃h₀,bg={s with heap:=h₀,toks:=s.toks+binds.length}/\h₀.Ns L (λx=>binds.reverse.lookup x)/\∀b o,s.heap.get? b=C o->h₀.get? b=C o)
  (nc:=λQ E bg=>a5 g.M (c.A.deeper cL) (cH body cL) (λf ao=>Q (match f with|.ret v=>v|_=>.none) ao) (λe ao=>a5 g.M (c.A.deeper cL) (uP cL e) (λI fa=>E e fa) (λcf fa=>E cf fa) ao) bg) (λbg bM=>?_) λQ E la=>?_
 ·(refine eH bM λay J ei keep=>?_;try clear bM;subst J);refine mG H.loc.obj λfT qe tk hj jv mz ob=>?_;let bI:=c.enter L fT (cL::c.fr) (c.A.deeper cL);have ek:bI.Ok g (dep+1):=U.enter H hj jv (dP _) (by show c.A.frames.map _=_;exact G U.frames rfl) (λenv he=>by
   rcases dh.mp he with rfl|he
   .exact .inr ⟨by show fd.scope.kind≠.module;refine G bw ?_;simp,rfl⟩
   .exact .inl he) (by show c.A.depth+1<=_;lia) (by show c.A.units+3<=_;lia) (bR (by assumption) (bA rfl)) (λh=>U.calm (kq (by assumption)))
  have gY:cc bI ⟨fd.scope,[],dep+1⟩ cL aW:=⟨rfl,bw,tI,qk,rfl,(λx n e=>by exact bK e),(gi cL c.fr rfl rfl),bc.oW H hj (dP _)⟩;obtain eE:Sat g bI {st with loc:=names.zip aK} aW {s with heap:=ay,toks:=s.toks+binds.length}:=H.enter U hj keep (dP _) ⟨_,ei,λx v e=>by obtain this:=BY (x:=x) (ns:=names) R;rw[show({st with loc:=names.zip aK}:St).loc=names.zip aK from rfl] at e;rw[e] at this;(refine aU this λy bT hR=>?_;try clear this);exact(bh y ((QB rA).trans bT) hR)⟩
  obtain run:=hm bI cL aW ek gY aa (λx=>rfl) aW _ _ (.refl _) eE;obtain Iw:=At.within (F:=λE e ao=>a5 g.M (c.A.deeper cL) (uP cL e) (λI fa=>E e fa) (λcf fa=>E cf fa) ao) run jv mz ob (λE e ao bp av F aq=>Qi ek gY.frame F aq);refine(Iw.bind (k:=λ(f:fH)=>λ(Q:aB->aN->Prop) I ao=>Q (match f with|.ret v=>v|_=>xq) ao) λav eM f bp ao l fv S=>?_).of λQ E k=>k;induction eM using MI.dj.casesOn with
  |next=>obtain rfl:=fv;exact .ret λQ E aq=>aq _ _ av (.refl _) S rfl
  |ret v=>(refine aU fv λy J hR=>?_;try clear fv;subst J);exact .ret λQ E aq=>aq _ _ av (.refl _) S hR
  |brk=>exact .fail
  |cont=>exact .fail
 .refine codeAny_call_def (binds:=binds) (by show c.A.depth<1000;lia) (H.toSatO.fl U O _ _ bx) rfl (H.toSatO.top U O).nolimit (EK (H.toSatO.fl U O) rN) aD (HD s (H.toSatO.h₀ U)) lr (λx ak=>yK x.1 (by obtain this:=kU (f:=(·.1)) ak;rwa [pO (eJ (by assumption))] at this)) (λh₀ ei keep=>?_) fL c3 bw
  refine d4 (la _ (fV h₀ rfl ei keep)) (λf ao k=>?_) λe ao k=>k;exact k
theorem U9(O:g.Ok)(ba:dW g aG)(U:c.Ok g dep){a:az}{w5:List aB}(bx:g.K.lookup a=C ⟨bF,fU,.func fd,gb⟩)(aD:fd.body=.stmts body)
  (bw:fd.scope.kind=.function)(c3:fd.scope.isGenerator=ai)(fL:fd.scope.isCoroutine=ai)(rN:uS g.K fd.code fd.qualname=ae)(dO:dep<300)(tI:fd.globals=ik)(qk:fd.builtins=nK)(lr:∀x∈fd.scope.names,x.2≠.cell)
  (aX:names.length=aH.length)(aO:names.Nodup)(yK:∀x∈names,fd.scope.names.lookup x=C .local)(HD:∀s:aN,(∀a o,g.h₀.get? a=C o->s.heap.get? a=C o)->BindsTo s fd ⟨w5,[]⟩ (names.zip aH))(R:bL (a7 β) aK aH):
  cT g c β (Mt aG fd.scope dep body (names.zip aK)) (jG g c (.ref a) w5) a7:=
 Ms O U bx aD bw c3 fL rN dO tI qk lr aX aO yK HD R λbI cL av ek gY I I=>ba.xs bI ⟨fd.scope,[],dep+1⟩ cL av body ek gY
end
variable{rest:List aB}
section
open PySem.Sem (wp)
section
variable{g:Array GenState}{d:Drawn}{os:OsState}
variable{q:aM}{N:az}{bs bm:List aB}{tE:Bool}{sn:List aM}{sub:List aB}{mn:Bool}{col:Option Bool}{oT:Option az}{bE bw c3 fL hY:Option aB}{newId Ir sO:String}{Ge:List aB}
theorem XO(hG:AJ sO newId Ir Ge)(g4:bm.contains (.type sO)=ae)(ix:bm.contains (.type "AttributeError")=ai)(kb:bm.contains (.type "NameError")=ai)
  (f7:h.get? U=C (uM nm q U N bs bm tE sn sub mn col oT bE bw c3 fL hY newId))
  (aq:R (.ok (.ret (.ref (h.objs.size+1)))) ⟨(h.push {cls:=.type "tuple",data:=.seq rest.toArray}).push
   {cls:=.ref U,data:=.fields #[.ref h.objs.size,.none,.none,.none,.bool ai,.none]},g,d,t,os⟩)(qq:rest.length<=oB):
  ft (c9 prog w) A (.builtin newId ⟨.ref U::rest,[]⟩) R ⟨h,g,d,t,os⟩:=by
 obtain ahr:=hG.ends;obtain yG:(lF U::bm).contains (.type sO)=true:=by(refine G Ax (G g4 ?_);exact G (LA _) rfl)
 obtain YY:(lF U::bm).contains (.type "AttributeError")=false:=by(refine G Ax (G ix ?_));rfl
 obtain Y0:(lF U::bm).contains (.type "NameError")=false:=by(refine G Ax (G kb ?_));rfl
 refine codeAny_builtinAt hG.entry ?_;unfold Builtin.«BaseException.__new__»;refine wpAt_bind ?_;show wpAt _ _ _ (stack>>=_) _ _ _;refine wpAt_bind (wpAt_stack λp below=>wpAt_of_wpAny ?_)
 wp_walk
 refine wpAt_of_wpAny (G hG.owner ?_)
 repeat (first|with_reducible refine wpAny_madeHere_exc hG.canon f7 ?_|with_reducible refine wpAny_loadPart_at f7 ?_|(with_reducible refine wpAny_isSubtype_exc f7 ?_;first|rewrite[yG]|rewrite[YY]|rewrite[Y0])|wp_step)
 show R _ _;rw[Er];exact aq
theorem XQ(hG:AJ sO newId Ir Ge)(g4:bm.contains (.type sO)=ae)(ix:bm.contains (.type "AttributeError")=ai)(kb:bm.contains (.type "NameError")=ai){tr:az}{zM:cj}{Q:Fin->aN->Prop}
  (f7:h.get? U=C (uM nm q U N bs bm tE sn sub mn col oT bE bw c3 fL hY newId))(gw:Looks (c9 prog w) h (EI (.ref U) "__init__") (C (.ref tr)))
  (HN:h.get? tr=C zM)(HO:zM.cls=.type "function")
  (aq:∀ay e,Heap.MadeExcOf h ay e (.ref U) rest->e=h.objs.size+1->
   a5 (c9 prog w) A (gc (.ref tr) (.ref e::rest)) (λr ao=>r=.none/\Q (.done (.ret (.ref e))) ao) E ⟨ay,g,d,t,os⟩)(qq:rest.length<=oB):
  a5 (c9 prog w) A (Builtin.«type.__call__» ⟨.ref U::rest,[]⟩) Q E ⟨h,g,d,t,os⟩:=by
 repeat (first|with_reducible refine wpAny_loadPart_at f7 ?_|with_reducible refine wpAny_madeBy_exc f7 ?_|wp_step)
 refine codeAny_call_builtin_code (Code.quiet_builtin _ hG.quiet) (wpAny_check_new_subU (bmB:=bm) hG g4 .base f7 (XO hG g4 ix kb f7 ?_ qq));show a5 _ _ _ _ _ _;obtain YF:=f6 {cls:=.ref U,data:=.fields #[.ref h.objs.size,.none,.none,.none,.bool ai,.none]}
  (f6 {cls:=.type "tuple",data:=.seq rest.toArray} f7)
 obtain Zg:=f6 {cls:=.ref U,data:=.fields #[.ref h.objs.size,.none,.none,.none,.bool ai,.none]}
  (f6 {cls:=.type "tuple",data:=.seq rest.toArray} HN)
 have Pf:((h.push {cls:=.type "tuple",data:=.seq rest.toArray}).push
   {cls:=.ref U,data:=.fields #[.ref h.objs.size,.none,.none,.none,.bool ai,.none]}).get? (h.objs.size+1)=C
   {cls:=.ref U,data:=.fields #[.ref h.objs.size,.none,.none,.none,.bool ai,.none]}:=by heap_get
 obtain YZ:(lF U::bm).contains (.ref U)=true:=by simp
 unfold isInstance
 repeat (first|with_reducible refine wpAny_loadPart_at Pf ?_|(with_reducible refine wpAny_isSubtype_exc YF (G YZ ?_))|wp_step)
 show a5 _ _ (EI (.ref U) _) _ _ _;refine gw _ _ _ _ (λb o e=>f6 _ (f6 _ e)) ?_;refine iI (b3 ?_);unfold bindSpecial;refine b3 (wpAny_typeOf (T:="function") ⟨_,Zg,HO⟩ (G (if_pos (by exact rfl)) (d3 (b3 (d4 (aq _ (h.objs.size+1) ⟨λb o aD=>f6 _ (f6 _ aD),Ua (LK _),h.objs.size,Pf,Ua (dP _),?_⟩ rfl) (λr ao cb=>?_) λI I x=>x)))))
 .exact f6 _ (Heap.get?_push_at rfl rfl)
 ·(refine a3 cb λJ YJ=>?_;try clear cb;subst J)
  wp_walk
  exact YJ
theorem XK(hG:AJ sO newId Ir Ge)(g4:bm.contains (.type sO)=ae)(ix:bm.contains (.type "AttributeError")=ai)(kb:bm.contains (.type "NameError")=ai){tr:az}{zM:cj}{Q:aB->aN->Prop}
  (f7:h.get? U=C (uM nm q U N bs bm tE sn sub mn col oT bE bw c3 fL hY newId))(gw:Looks (c9 prog w) h (EI (.ref U) "__init__") (C (.ref tr)))
  (HN:h.get? tr=C zM)(HO:zM.cls=.type "function")
  (aq:∀ay e,Heap.MadeExcOf h ay e (.ref U) rest->e=h.objs.size+1->
   a5 (c9 prog w) (A.under (.builtin "type.__call__" ⟨.ref U::rest,[]⟩)) (gc (.ref tr) (.ref e::rest)) (λr ao=>r=.none/\Q (.ref e) ao) E ⟨ay,g,d,t,os⟩)(qq:rest.length<=oB):
  a5 (c9 prog w) A (gc (.ref U) rest) Q E ⟨h,g,d,t,os⟩:=by
 obtain f1:=tc_lookup;obtain f2:=tc_bind (.ref U);obtain e0:(⟨h,g,d,t,os⟩:aN).TypeIs (.ref U) "type":=⟨_,f7,rfl⟩;refine sx (AG ?_);show a5 _ _ (callAny (.ref U) _) _ _ _
 repeat (any_goals (first|assumption|with_reducible refine wpAny_loadPart_at f7 ?_|wp_step))
 refine⟨rfl,?_⟩;exact codeAny_call_builtin_at (Code.quiet_builtin _ (by kernel_rfl)) entry_typeCall (wpAny_check_type_call_sub f7 (XQ (qq:=qq) hG g4 ix kb f7 gw HN HO λay e hm he=>aq ay e hm he))
theorem XP{s:aN}{e:az}{iL a2 cm c_ dR:aB}(YW:bm.contains (.type "BaseException")=ae)(hr:A.handled=none)
  (f7:s.heap.get? U=C (uM nm q U N bs bm tE sn sub mn col oT bE bw c3 fL hY newId))(he:s.heap.get? e=C {cls:=.ref U,dict:=fU,data:=.fields #[iL,.none,a2,cm,c_,dR],slots:=gb})(yD:E (.ref e) s):
  a5 (c9 prog w) A (nM env (C (pure (.ref e))) none) Q E s:=by
 have yG:(lF U::bm).contains (.type "BaseException")=true:=by(refine G Ax (G YW ?_);exact G (LA _) rfl)
 unfold nM;refine b3 (d3 ?_);obtain(⟨b7,g,d,cX,os⟩):=s
 repeat (first|with_reducible refine wpAny_loadPart_at he ?_|with_reducible refine wpAny_loadPart_at f7 ?_|(with_reducible refine wpAny_isSubtype_exc f7 (G yG ?_))|wp_step)
 exact wpAny_raiseNew_none hr yD
end
end
section
open PySem.Sem (wp)
open Builtin Builtin.ObjectAttr
section
variable{s:aN}{x:az}{name:aM}{v:aB}{pa:aM->Option aB}
theorem acS{Q:Fin->aN->Prop}{ns:List aM}{ua:Option az}{pj:Data}(X:K.In s.heap)(bb:clsIn K U=C cd)(HR:cd.hasDict=ae)
  (ak:s.heap.get? x=C ⟨.ref U,ua,pj,gb⟩)(yP:∀c,pj≠.cls c)(hd:(ua=none/\∀n,pa n=none)\/∃d,ua=C d/\d≠x/\s.heap.Ns1 d pa)
  (aq:∀ay l6 iw,(ua=C iw\/(ua=none/\s.heap.objs.size<=iw))->iw≠x->ay.get? x=C ⟨.ref U,C iw,pj,gb⟩->ay.Ns1 iw (λy=>if y=name then C v else pa y)->(∀b f_,b≠x->b≠iw->s.heap.get? b=C f_->ay.get? b=C f_)->Q (.done (.ret .none)) {s with heap:=ay,toks:=l6})
  (hw:Within pa ns)(rR:ns.length<=oB):a5 (c9 prog w) A.in1 (storeInOwnDict (.ref x) (.ref U) (.str name cX) name v b) Q E {s with toks:=s.toks+1}:=by
 unfold storeInOwnDict;refine b3 (d3 (b3 ?_));unfold ownDictForStores instanceDict;refine b3 (LF (s:={s with toks:=s.toks+1}) ak ?_);dsimp only;refine b3 (m:=classData U) (looks_clsIn X bb _ _ _ _ (λI I e=>e) (G HR ?_));rcases hd with⟨rfl,ZC⟩|⟨iw,rfl,hi,ei⟩
 .refine G (if_neg (by exact sm)) ?_;dsimp only;refine G (if_neg (by simp[typeHasDict])) ?_;have tail:∀{Q:Option az->aN->Prop}{E:aB->aN->Prop}{ay:gj},(∀(rK:gj),rK.get? x=C {cls:=.ref U,dict:=C ay.objs.size,data:=pj,slots:=gb}->rK.get? ay.objs.size=C {cls:=.type "dict",data:=.dict #[]}->
    (∀b f_,b≠x->ay.get? b=C f_->rK.get? b=C f_)->Q (C ay.objs.size) {s with heap:=rK,toks:=s.toks+1})->ay.get? x=C {cls:=.ref U,dict:=none,data:=pj,slots:=gb}->
    a5 (c9 prog w) A.in1 (do
     let d <-PySem.alloc {cls:=.type "dict",data:=.dict #[]}
     update x λ(o:cj)=>{cls:=o.cls,dict:=C d,data:=o.data,slots:=o.slots}
     dictMade (.ref U) x d) Q E {s with heap:=ay,toks:=s.toks+1}:=λ{Q E ay} aw Pw=>by
   have Px:(ay.push {cls:=.type "dict",data:=.dict #[]}).get? x=C {cls:=.ref U,dict:=none,data:=pj,slots:=gb}:=f6 _ Pw;obtain Ct:x≠ay.objs.size:=kr (fW Pw);refine b3 (wpAny_alloc' (b3 (wpAny_update' Px (d3 (aw _ ?_ ?_ ?_)))))
   .refine Ec _ Px ?_;have tH:=(Heap.get?_some_iff.mp ak).2;cases pj<;>first|rfl|exact tH
   .exact(Heap.get?_update_ne _ _ _ _ Ct.symm).trans (Heap.get?_push_at rfl rfl)
   .exact λb f_ aD h=>(Heap.get?_update_ne _ _ _ _ aD).trans (f6 _ h)
  split
  .exact absurd rfl (yP _)
  .refine tail (ay:=s.heap) (λrK aa af aJ=>?_) ak;obtain yQ:rK.Ns s.heap.objs.size (λI=>none):=⟨_,#[],_,af,rfl,λe he=>absurd he (by simp),λI=>rfl⟩;have Ct:s.heap.objs.size≠x:=(kr (fW ak)).symm;show a5 _ _ (storeInDict s.heap.objs.size (.str name cX) name v) _ _ _;unfold storeInDict newKeyGuard;refine b3 (d3 (b3 (wpAny_nsSet1 (Heap.Ns1.of_empty yQ) λay tM bM=>kh (tM.count (LL name v Within.nil)) λacn Xp Xg H4 HK HG=>b3 (Lv H4 (G HK (Lw (bR HG (by(refine G uA (G Lm (G ku ?_)));exact bA rfl)))) ?_))))
   wp_walk
   refine aq ay _ s.heap.objs.size (.inr ⟨rfl,dP _⟩) Ct ((bM.2 x Ct.symm).trans aa) ?_ λb f_ aD iy h=>(bM.2 b iy).trans (aJ b f_ aD h);(refine Rm tM λdp au fm a9 bf cC Hd iM=>?_;try clear tM);exact⟨dp,au,fm,a9,bf,cC,Hd,λy=>by refine G (iM y) ?_;by_cases bT:y=name<;>simp[bT,ZC]⟩
 .refine G (if_neg (by exact sm)) (d3 ?_);show a5 _ _ (storeInDict iw (.str name cX) name v) _ _ _;unfold storeInDict newKeyGuard;refine b3 (d3 (b3 (wpAny_nsSet1 ei λay tM bM=>kh (tM.count (LL name v hw)) λacn Xp Xg H4 HK HG=>b3 (Lv H4 (G HK (Lw (bR HG (G uA (xe (by assumption)))))) ?_))))
  wp_walk
  exact aq ay _ iw (.inl rfl) hi ((bM.2 x hi.symm).trans ak) tM λb f_ aD iy h=>(bM.2 b iy).trans h
theorem Oo{Q:Unit->aN->Prop}{ns:List aM}{o:cj}(X:K.In s.heap)(bb:clsIn K U=C cd)(Cp:refuseLoop (.ref x) "__setattr__" cd.mro=pure ())(vJ:cd.mro.contains (.type "object")=ae)
  (HR:cd.hasDict=ae)(bM:ko K (.ref U) "__setattr__"=C (C (.builtin "object.__setattr__")))(ZF:ko K (.ref U) name=C none)
  (ak:s.heap.get? x=C o)(lX:o.cls=.ref U)(yP:∀c,o.data≠.cls c)(hd:(o.dict=none/\∀n,pa n=none)\/∃d,o.dict=C d/\d≠x/\s.heap.Ns1 d pa)
  (aq:∀ay l6 iw,(o.dict=C iw\/(o.dict=none/\s.heap.objs.size<=iw))->iw≠x->ay.get? x=C {o with dict:=C iw}->ay.Ns1 iw (λy=>if y=name then C v else pa y)->
   (∀b f_,b≠x->b≠iw->s.heap.get? b=C f_->ay.get? b=C f_)->Q () {s with heap:=ay,toks:=l6})
  (hw:Within pa ns)(rR:ns.length<=oB):
  a5 (c9 prog w) A (xt (.ref x) name v) Q E s:=by
 have xP:=TR;obtain ne:cd.mro.isEmpty=false:=by generalize q:cd.mro=aF;induction aF using eo with|nil=>rw[q] at vJ;exact c8 vJ|cons _ _=>rfl
 have DY:Looks (c9 prog w) s.heap (typeOf (.ref x)) (.ref U):=lX▸(Looks.ld (part:=none) ak).andThen .now;obtain sub:Looks (c9 prog w) s.heap (isInstance (.ref x) (.type "object")) true:=DY.andThen (looks_mroIn X (by unfold mroIn;(refine G bb (G (AA _ _) (G (if_neg (by exact G ne sm)) ?_));exact G vJ rfl)));obtain hm:Looks (c9 prog w) s.heap (mroOf (.ref U)) cd.mro:=(looks_clsIn X bb).andThen .now;refine b3 (wpAny_mkText (b3 (b3 (b3 (DY _ _ _ _ (λI I e=>e) (AK X bM _ _ _ _ (λI I e=>e) (iI (G (TR.slot.bind _) (b3 (d3 (b3 (sx (codeAny_call_builtin xP.slot.plain xP.entry (@check_slot (c9 prog w) _ _ {s with toks:=s.toks+1} "object.__setattr__" "object" "__setattr__" (.ref x) [.str name s.toks,v] [] _ xP.kind xP.split sub (xP.args (.ref x) (.str name s.toks) v) ?_))))))))))))));show a5 _ _ (Builtin.«object.__setattr__» ⟨[.ref x,.str name s.toks,v],[]⟩) _ _ _;(refine G (osa_eq _ _ _ _) (G (refuse_eq _ _) ?_));refine b3 (b3 (DY _ _ _ _ (λI I e=>e) (b3 (hm _ _ _ _ (λI I e=>e) (G Cp (d3 (b3 (DY _ _ _ _ (λI I e=>e) (b3 (AK X ZF _ _ _ _ (λI I e=>e) (b3 (d3 ?_))))))))))));obtain(⟨bF,ua,pj,gb⟩):=o;subst lX;exact acS X bb HR ak yP hd (λay l6 iw aa af aJ bl cQ=>d3 (d3 (aq ay l6 iw aa af aJ bl cQ))) hw rR
end
end
section
open PySem.Sem (wp)
section
variable{M:Model}{g:Array GenState}{d:Drawn}{os:OsState}
variable{q:aM}{N e:az}{bs bm bmB:List aB}{tE:Bool}{sn:List aM}{sub:List aB}{mn:Bool}{col:Option Bool}{oT:Option az}{bE bw c3 fL hY:Option aB}{newId Q5 CB B:String}
theorem XM(F:AJ B Q5 CB bmB)(g4:bm.contains (.type B)=ae){cg:cj}{Q:Unit->aN->Prop}
  (f7:h.get? U=C (uM nm q U N bs bm tE sn sub mn col oT bE bw c3 fL hY newId))(he:h.get? e=C cg)(Y2:cg.cls=.ref U)(aq:Q () ⟨h,g,d,t,os⟩):
  a5 M A (checkBuiltinCall CB ⟨.ref e::rest,[]⟩) Q E ⟨h,g,d,t,os⟩:=by
 obtain yG:(lF U::bm).contains (.type B)=true:=by(refine G Ax (G g4 ?_);exact G (LA _) rfl)
 obtain ahy:=F.noStar;simp only[checkBuiltinCall,F.initKind,F.initSplit,F.initRow]
 repeat (first|(with_reducible refine wpAny_loadPart_at he (G Y2 ?_))|with_reducible refine wpAny_loadPart_at f7 ?_|(with_reducible refine wpAny_isSubtype_exc f7 (G yG ?_))|wp_step)
 refine wpAny_onRaise ?_;rw[show∀(a b:String)(n:Nat),Bind.check ⟨.positional,"*",B,.self,[⟨"args",.varPos,ai⟩]⟩ a b n (List.map (λx=>x.fst) ({pos:=lF e::rest}:Args).kw)=pure () from
  λa b n=>check_star_args _ _ _ _ _ _]
 exact d3 aq
theorem XN(F:AJ B Q5 CB bmB)(g4:bm.contains (.type B)=ae){t0:az}{a1 a2 cm c_ dR:aB}{Q:aB->aN->Prop}
  (f7:h.get? U=C (uM nm q U N bs bm tE sn sub mn col oT bE bw c3 fL hY newId))(he:h.get? e=C {cls:=.ref U,dict:=fU,data:=.fields #[.ref t0,a1,a2,cm,c_,dR],slots:=gb})
  (aq:∀ay dC,ay.get? e=C {cls:=.ref U,dict:=fU,data:=.fields #[.ref dC,a1,a2,cm,c_,dR],slots:=gb}->(∀b o,b≠e->h.get? b=C o->ay.get? b=C o)->Q .none ⟨ay,g,d,t,os⟩)(qq:rest.length<=oB):
  a5 (c9 prog w) A (gc (.builtin CB) (.ref e::rest)) Q E ⟨h,g,d,t,os⟩:=by
 refine sx (codeAny_call_builtin F.init.plain F.initEntry (XM F g4 f7 he rfl ?_))
 wp_walk
 refine aq _ h.objs.size ?_ ?_
 .refine G (Ec _ (f6 _ he) rfl) ?_;rfl
 .intro b o aD bx;refine G (Ao _ _ (j1 aD)) ?_;exact f6 _ bx
end
end
inductive u0(K:b5)(a:az)(names glob:List aM)(body:List eQ):Prop
 |is (bF:_) (fU:_) (fd:_) (gb:_) (as:_) (an:_) (ds:_) (aa:K.lookup a=some ⟨bF,fU,.func fd,gb⟩) (h0:bF=.type "function") (af:fd.params=⟨[],as,none,[],an,none,ds⟩) (aJ:as.map (·.arg)=names) (bl:fd.body=.stmts body) (cQ:fd.closure=[]) (eT:fd.defaults=.none)
  (h7:fd.globals=ik) (h8:fd.builtins=nK) (et:qG fd.scope=ae) (aV:uS K fd.code fd.qualname=ae) (aD:∀x∈names,fd.scope.names.lookup x=C .local) (bb:∀x∈glob,fd.scope.names.lookup x=C .globalImplicit)
section
variable{s:aN}{a:az}{glob:List aM}
theorem u0.run(F:u0 K a names glob body)(aO:names.Nodup)(X:K.In s.heap)(Zw:s.heap.NoLimit)(hd:A.depth<1000)(aX:names.length=aH.length){Q:aB->aN->Prop}
  (h:∀env bg m,env.scope.kind=.function->env.globals=ik->env.builtins=nK->(∀x∈names,env.kindOf x=C .local)->(∀x∈glob,env.kindOf x=C .globalImplicit)->
   (∃h cX,bg={s with heap:=h,toks:=cX})->(∀b o,s.heap.get? b=C o->bg.heap.get? b=C o)->bg.heap.Ns env.locals m->s.heap.objs.size<=env.locals->(∀x∈names,m x=(names.zip aH).lookup x)->
   a5 (c9 prog w) (A.deeper env) (cH body env) (λf ao=>Q (match f with|.ret v=>v|_=>.none) ao) (λI I=>False) bg):
  a5 (c9 prog w) A (gc (.ref a) aH) Q E s:=by
 obtain⟨bF,fU,fd,gb,as,an,ds,aa,af,aJ,bl,cQ,eT,h7,h8,et,Yz,YA,OZ,Hy⟩:=F;refine fO (zO Yz) λbw c3 fL=>?_;obtain hlen:as.length=aH.length:=by(refine G (bW aX) (G (bW bl) ?_);exact G (gB _) rfl)
 obtain rA:((names.zip aH).map (·.1)).Nodup:=by exact G (pO (eJ (by assumption))) aO
 refine sx (codeAny_call_cells (binds:=names.zip aH) hd (X _ _ aa) rfl Zw (EK X YA) cQ (G (bW bl) (Bn aJ h7 (G bl aO) hlen)) eT (λx ak=>.inl ?_) (λbg bM=>?_) fL c3 bw)
 .obtain this:=kU (f:=(·.1)) ak;rw[pO (eJ (by assumption))] at this;exact OZ _ this
 .have eU:∀x∈names,(callEnvC fd s.heap.objs.size a).kindOf x=C .local:=λx ak=>OZ x ak;refine mF bM.toInCall.same λay cX e=>d4 (h (callEnvC fd s.heap.objs.size a) bg _ bw h8 et eU (λx ak=>Hy x ak) (w2 ay cX e) bM.toInCall.keep bM.toInCall.ns bM.toInCall.fresh λx ak=>?_) (λf ao k=>k) λI I x=>x.elim;refine G (Gb (eU x ak) _ _ rA) ?_;cases(names.zip aH).lookup x<;>rfl
end
section
variable{s:aN}
theorem PI{mv an w1:aM}{df dx fP iV iW kN jS ki ot r4:cq}{aj t2 ev DX i2:aB}
  (aw:env.scope.kind=.function)(Y3:∀(Q:aB->aN->Prop),Q aj s->a5 (c9 prog w) A (dM (.Name mv df) env) Q E s)
  (ZE:∀(Q:aB×List aB->aN->Prop) kj,(∀cX,Q (t2,[]) {s with toks:=cX})->a5 (c9 prog w) A (sy aj "__init__" kj) Q E s)
  (Y6:∀(s:aN)(args:List (Bool×hC aB))(Q:aB->aN->Prop),args.any (·.1)=ai->a5 (c9 prog w) A (evalArgs t2 ae args []) (λa bg=>(∃cX,bg={s with toks:=cX})/\a5 (c9 prog w) A (gc t2 ([]++a.pos) a.kw) Q E bg) E s->(K.In s.heap)->a5 (c9 prog w) A (sD iW t2 [] args []) Q E s)
  (X:K.In s.heap)(hm:s.heap.Ns env.locals m)(eG:env.kindOf "self"=C .local)(fB:env.kindOf "text"=C .local)(qy:env.kindOf w1=C .local)
  (hP:m "self"=C ev)(ll:m "text"=C DX)(zt:m w1=C i2)(b7:(w1==("__debug__":aM))=ai)(H_:cw dx.endLine iW.line=ae)
  (h:∀cX,a5 (c9 prog w) A (gc t2 [ev,DX]) (λI bg=>bg.heap.Ns env.locals m/\a5 (c9 prog w) A (xt ev an i2) (λI b0=>Q .next b0) E bg) E {s with toks:=cX}):
  a5 (c9 prog w) A (cH [.Expr (.Call (.Attribute (.Name mv df) "__init__" dx) [.Name "self" fP,.Name "text" iV] [] iW) kN,.Assign [.Attribute (.Name "self" jS) an ki] (.Name w1 ot) r4] env) Q E s:=by refine jm (wpAny_Expr_any ?_ (by unfold interactive;exact G aw rfl) rfl);refine G (M9 (by rfl) H_ rfl rfl) (b3 (Y3 _ (b3 (kX (b3 (iI (ZE _ _ λcX=>Y6 _ _ _ (nx rfl) (n7 rfl (kS (hE (hS aw eG hm hP (kS (hE (hS aw fB hm ll (nN ⟨⟨cX,rfl⟩,?_⟩)) (by kernel_rfl)) (nD rfl _))) (by kernel_rfl)) (nD rfl _))) X)))))));refine d4 (h cX) (λI bg dr=>?_) λI I x=>x;(refine a3 dr λvI yW=>?_;try clear dr);refine jm (Lf (hE (hS aw qy vI zt ?_) b7) rfl rfl);show a5 _ _ (assignAll i2 [mT (.Attribute (.Name "self" jS) an ki) env]) _ _ _;show a5 _ _ (mT (.Attribute (.Name "self" jS) an ki) env i2) _ _ _;rw[arm_assign_Attribute];refine b3 (iI (hE (hS aw eG vI hP (b3 (kX (b3 (iI (d4 yW (λI b0 fz=>K0 (qT fz)) λI I x=>x)))))) (by kernel_rfl)))
end
structure E3(K:b5):Prop where
 MX:∃nm q N bs sn sub mn col oT bE bw c3 fL hY,K.lookup 128=C (uM nm q 128 N bs [.ref 108,.type "Exception",.type "BaseException",.type "object"] ae sn sub mn col oT bE bw c3 fL hY "Exception.__new__")
 init:ko K (.ref 128) "__init__"=C (C (.ref 125))
 r_:ko K (.ref 128) "__setattr__"=C (C (.builtin "object.__setattr__"))
 text:ko K (.ref 128) "text"=C none
 line:ko K (.ref 128) "line"=C none
 Ow:∃df dx fP iV iW kN jS ki ot r4,cw dx.endLine iW.line=ae/\u0 K 125 ["self","line","text"] ["AdaError"] [.Expr (.Call (.Attribute (.Name "AdaError" df) "__init__" dx) [.Name "self" fP,.Name "text" iV] [] iW) kN,.Assign [.Attribute (.Name "self" jS) "line" ki] (.Name "line" ot) r4]
 Ov:∃df dx fP iV iW kN jS ki ot r4,cw dx.endLine iW.line=ae/\u0 K 105 ["self","text"] ["Exception"] [.Expr (.Call (.Attribute (.Name "Exception" df) "__init__" dx) [.Name "self" fP,.Name "text" iV] [] iW) kN,.Assign [.Attribute (.Name "self" jS) "text" ki] (.Name "text" ot) r4]
 reads:readsIn K 108 (.type "type")=ae
 special:specialIn K (.ref 108) "__getattribute__"=C (C (.builtin "type.__getattribute__"))
 PH:findCls K (.ref 108) (.type "type") "__init__"=C (.val (.ref 105))
 handed:handedIn (.ref 105)=ae
 Mu:lI K ik "AdaError"=C (C (.ref 108))
 exc:lI K ik "Exception"=C none
 keep:sI K (.ref 105)=ae
 Om:findCls K (.type "Exception") (.type "type") "__init__"=C (.val (.builtin "Exception.__init__"))
theorem VL:AI "Exception"=C (.type "Exception"):=by kernel_rfl
section
variable{s:aN}
theorem abD{Q:aB×List aB->aN->Prop}(X:K.In s.heap)(yD:findCls K (.type "Exception") (.type "type") "__init__"=C (.val (.builtin "Exception.__init__")))
  (h:Q (.builtin "Exception.__init__",[]) {s with toks:=s.toks+1}):a5 (c9 prog w) A (sy (.type "Exception") "__init__" kj) Q E s:=by
 have ZQ:opaqueClassAbove (.type "Exception")=pure none:=by kernel_rfl
 have oK:Looks (c9 prog w) s.heap (typeOf (.type "Exception")) (.type "type"):=Looks.of_pure (by kernel_rfl);have gx:ko K (.type "type") "__getattribute__"=C (C (.builtin "type.__getattribute__")):=type_tga;unfold sy specialOf;refine b3 (b3 (oK.here ((AK X gx).here ?_)));dsimp only;refine G (if_pos canon_tga) (b3 (d4 (Q:=λv=>Q (v,[])) (E:=E) ?_ (λI I z=>d3 z) λI I z=>z));have UD:Looks (c9 prog w) s.heap (opaqueClassAbove (.type "Exception")) none:=Looks.of_pure ZQ;refine cls_open X UD oK gx (looks_hook X (r:=none) (by rfl)) (by show subIn K _ _=_;rfl) yD
  (d3 (by show a5 _ _ (handedOut _) _ _ _;exact G (handedOut_of (by rfl)) (d3 h)))
theorem abC{Q:aB×List aB->aN->Prop}(X:K.In s.heap)(F:E3 K)
  (h:Q (.ref 105,[]) {s with toks:=s.toks+1}):a5 (c9 prog w) A (sy (.ref 108) "__init__" kj) Q E s:=by exact method_cls X F.special (cls_read X F.reads F.PH (d3 (by show a5 _ _ (handedOut _) _ _ _;exact G (handedOut_of F.handed) (d3 h))))
end
theorem Dk{L:az}(aO:h.Ns L m)(k:∀o,h.get? L=C o->ay.get? L=C o):ay.Ns L m:=by(refine wq aO λo au fm e r=>?_;try clear aO);exact⟨o,au,fm,k _ e,r⟩
theorem adO(g:cz)(F:E3 g.K)(Zq:sI g.K (.ref 128)=ae):g.n0:=by
 refine⟨Zq,λA env s y l t Q E hr hd cy X T yD=>?_⟩;refine acv F.MX λnm q N bs sn sub mn col oT bE bw c3 fL hY BZ=>Rk F.Ow λdf dx fP iV iW kN jS ki ot r4 H_ L5=>Rk F.Ov λdc dA hx DG ahP ahQ JO DH ahR ahO ZN Ut=>?_;have F:=L5;obtain(⟨bF,fU,fd,gb,as,an,ds,Zf,rfl,_⟩):=F;obtain(⟨h,ahl,d,cX,os⟩):=s;have X:g.K.In h:=X;have T:sG g.p g.loose g.iS g.iR h:=T;obtain f7:=X _ _ BZ;have hG:=PySem.F.excBase_Exception;have g4:[lF 108,.type "Exception",.type "BaseException",.type "object"].contains (.type "Exception")=true:=by kernel_rfl
 have vJ:(lF 128:: [lF 108,.type "Exception",.type "BaseException",.type "object"]).contains (.type "object")=true:=by kernel_rfl
 have cd:clsIn g.K 128=C {name:=nm,bases:=bs,mro:=.ref 128:: [.ref 108,.type "Exception",.type "BaseException",.type "object"],ns:=N,qualname:=q,hasDict:=ae,slotNames:=sn,subclasses:=sub,abstract:=mn,collection:=col,hasDel:=ai}:=by unfold clsIn;exact G BZ rfl
 have Cp:∀e:aB,refuseLoop e "__setattr__" (.ref 128:: [.ref 108,.type "Exception",.type "BaseException",.type "object"])=pure ():=λe=>by(refine G (refuseLoop_ref _ _ _ _) (G (refuseLoop_ref _ _ _ _) ?_));exact PySem.F.store_Exception.passes e
 refine XK hG g4 (by kernel_rfl) (by kernel_rfl) f7 (AK X F.init) (X _ _ Zf) rfl (λh₀ e hm he=>?_) (by show 2<=oB;exact G ku (bA rfl));refine eH hm.there λt₀ tG I I=>?_;obtain U2:g.K.In h₀:=X.keeps hm.keeps;obtain i8:=T.keeps hm.keeps;have big:h.objs.size<=e:=by exact G he (LK _)
 refine L5.run (aS (by kernel_rfl)) U2 i8.nolimit (by show A.depth+1<1000;lia) rfl ?_;rintro BJ _ m₁ P0 Yu ag8 IW aaN ⟨dr,SA,rfl⟩ CO Cc Ho vI;have CO:∀b o,h₀.get? b=C o->dr.get? b=C o:=CO;have Cc:dr.Ns BJ.locals m₁:=Cc;obtain Ho:h₀.objs.size<=BJ.locals:=Ho;have Kp:∀b o,h.get? b=C o->dr.get? b=C o:=λb o q=>CO _ _ (hm.keeps _ _ q);have s6:=X.keeps Kp;have p1:=T.keeps Kp;have Ca:=CO _ _ tG;have N9:BJ.locals≠e:=λq=>absurd (fW tG) (G (bW q) (i6.mpr Ho));refine PI (K:=g.K) (mv:="AdaError") (an:="line") (w1:="line") (aj:=.ref 108) (t2:=.ref 105) (ev:=.ref e) (DX:=.str (aR l) t) (i2:=y) P0
  (λQ aq=>mb P0 (aaN _ (.head _)) (uC (G Yu p1.g) (mg_of s6 p1.g F.Mu) aq) (by kernel_rfl))
  (λQ kj aq=>abC s6 F (aq _)) (λs args Q aV aw X=>AN (P:=λh=>g.K.In h) (G aV rfl) (λh X=>keeps_K F.keep h X) (d4 aw (λa bg k=>⟨by(refine a3 k λJ I=>?_;try clear k;refine bG J λcX bU=>?_;try clear J;subst bU);exact X,k.2⟩) λI I x=>x))
  s6 Cc (IW _ (aS rfl)) (IW _ (aS rfl)) (IW _ (aS rfl)) ((vI _ (aS rfl)).trans (by rfl)) ((vI _ (aS rfl)).trans (by rfl)) ((vI _ (aS rfl)).trans (by rfl)) (by kernel_rfl) H_ λahX=>?_
 refine Ut.run (aS (by kernel_rfl)) s6 p1.nolimit (by show A.depth+1+1<1000;lia) rfl ?_;rintro Ha _ m₂ P1 Yv VF IX aaO ⟨fz,ahY,rfl⟩ zg Cd Hp HY;have zg:∀b o,dr.get? b=C o->fz.get? b=C o:=zg;have Cd:fz.Ns Ha.locals m₂:=Cd;obtain Hp:dr.objs.size<=Ha.locals:=Hp;have Kq:∀b o,h.get? b=C o->fz.get? b=C o:=λb o q=>zg _ _ (Kp _ _ q);have s7:=X.keeps Kq;have lS:=T.keeps Kq;obtain Zd:=zg _ _ Ca;obtain W6:Ha.locals≠e:=λq=>absurd (fW Ca) (G (bW q) (i6.mpr Hp));refine PI (K:=g.K) (mv:="Exception") (an:="text") (w1:="text") (aj:=.type "Exception") (t2:=.builtin "Exception.__init__") (ev:=.ref e) (DX:=.str (aR l) t) (i2:=.str (aR l) t) P1
  (λQ aq=>mb P1 (aaO _ (.head _)) (uy (G Yv lS.g) (uN s7 lS.g F.exc) (G VF lS.b) ((T.builtins "Exception" (aS (by kernel_rfl))).trans VL) aq) (by kernel_rfl))
  (λQ kj aq=>abD s7 F.Om (aq _)) (λs args Q aV aw X=>AF aV (d4 aw (λa bg k=>k.2) λI I x=>x))
  s7 Cd (IX _ (aS rfl)) (IX _ (aS rfl)) (IX _ (aS rfl)) ((HY _ (aS rfl)).trans (by rfl)) ((HY _ (aS rfl)).trans (by rfl)) ((HY _ (aS rfl)).trans (by rfl)) (by kernel_rfl) ZN λahZ=>?_
 refine XN hG g4 (s7 _ _ BZ) Zd (λkG ah2 Ze IQ=>?_) (by show 1<=oB;exact G ku (bA rfl));have DZ:∀b o,h.get? b=C o->kG.get? b=C o:=λb o q=>IQ _ _ (λz=>absurd (fW q) (G z (i6.mpr big))) (Kq _ _ q);obtain U3:=X.keeps DZ;refine⟨Dk Cd λo q=>IQ _ _ W6 q,?_⟩;refine Oo (pa:=λI=>none) (ns:=[]) U3 cd (Cp _) vJ rfl F.r_ F.text Ze rfl (λc q=>by(injection q)) (.inl ⟨rfl,λI=>rfl⟩) (λiP ah0 iw Pa hi Pc Pk IS=>?_) (by intro y bT;exact absurd rfl bT) (by show 0<=oB;exact l9 _);have Ga:kG.objs.size<=iw:=by
  rcases Pa with q|⟨_,q⟩
  .exact bK q
  .exact q
 have S4:∀b o,h.get? b=C o->iP.get? b=C o:=λb o q=>IS _ _ (λz=>absurd (fW q) (G z (i6.mpr big))) (λz=>absurd (fW (DZ _ _ q)) (G z (i6.mpr Ga))) (DZ _ _ q);obtain xU:=X.keeps S4;refine⟨?_,?_⟩
 .obtain adh:kG.Ns BJ.locals m₁:=Dk (Dk Cc λo q=>zg _ _ q) λo q=>IQ _ _ N9 q;refine Dk adh λo q=>IS _ _ N9 (λz=>absurd (fW q) (G z (i6.mpr Ga))) q
 .refine Oo (pa:=_) (ns:=["text"]) xU cd (Cp _) vJ rfl F.r_ F.line Pc rfl (λc q=>by(injection q)) (.inr (fV iw rfl hi Pk)) (λvO afM W0 Pb ahw Pd ahx aaI=>?_) (LL "text" _ Within.nil) (by show 1<=oB;exact G ku (bA rfl));obtain g0:W0=iw:=by
   rcases Pb with q|⟨q,_⟩
   .exact(c0 q).symm
   .exact wJ q
  (clear Pb IS Pk Pc hi Pa;subst g0);have S5:∀b o,h.get? b=C o->vO.get? b=C o:=λb o q=>aaI _ _ (λz=>absurd (fW q) (G z (i6.mpr big))) (λz=>absurd (fW (DZ _ _ q)) (G z (i6.mpr Ga))) (S4 _ _ q);refine⟨rfl,?_⟩;exact XP (by kernel_rfl) hr ((X.keeps S5) _ _ BZ) Pd (yD vO afM e _ _ _ S5 big Pd rfl rfl rfl rfl)
structure Mn(K:b5):Prop where
 fn:∃df dx fP iV iW kN jS ki,u0 K 314 ["name","number"] ["SEPARATOR","str"] [.Return (C (.BinOp (.BinOp (.Name "name" df) .Add (.Name "SEPARATOR" dx) fP) .Add (.Call (.Name "str" iV) [.Name "number" iW] [] kN) jS)) ki]
 sep:∃t,lI K ik "SEPARATOR"=C (C (.str (aR [35]) t))
 str:lI K ik "str"=C none
 keep:sI K (.ref 314)=ae
theorem boot_str:AI "str"=C (.type "str"):=by kernel_rfl
theorem af7(g:cz)(F:Mn g.K):g.Fn:=by
 refine⟨F.keep,λA s l t u z Q E hd X T aX h0 aa aq=>?_⟩;refine acB F.fn λdf dx fP iV iW kN jS ki hG=>bG F.sep λcp ZP=>hG.run (aS (by kernel_rfl)) X T.nolimit (jk (by assumption) (bA rfl)) rfl ?_;rintro env _ m eU gl Bp jz P8 ⟨dr,SA,rfl⟩ keep ei fresh hm;have keep:∀b o,s.heap.get? b=C o->dr.get? b=C o:=keep;have s6:=X.keeps keep;have p1:=T.keeps keep;have ei:dr.Ns env.locals m:=ei;obtain hP:m "name"=C (.str (aR l) t):=(hm _ (aS rfl)).trans (by rfl);obtain ll:m "number"=C (.int z u):=(hm _ (aS rfl)).trans (by rfl);obtain log:z.natAbs.log2<1920:=log2_small ⟨h0,aa⟩;refine jm (uz (qY (qY (hE (hS eU (jz _ (aS rfl)) ei hP ?_) (by kernel_rfl)))));refine mb eU (P8 _ (aS rfl)) (uC (G gl p1.g) (mg_of s6 p1.g ZP) ?_) (by kernel_rfl);obtain len:(eR z).length<=8:=GJ ⟨h0,aa⟩;refine KQ (λdC cX=>?_) (by show l.length+1<=_;exact G ku (jk (by assumption) (bA rfl)));refine G ((oR (λI I I h=>by(injection h))) _ _) (b3 (mb eU (P8 _ (aS rfl)) (uy (G gl p1.g) (uN s6 p1.g F.str) (G Bp p1.b) ((T.builtins "str" (aS (by kernel_rfl))).trans boot_str) ?_) (by kernel_rfl)));refine T1 (nx rfl) (n7 rfl (kS (hE (hS eU (jz _ (aS rfl)) ei ll ?_) (by kernel_rfl)) (nD rfl _)));refine nN (P.str_of_int log (KQ (λdC cX=>?_) (by
  refine G (C4 _ _) ?_;show(l++ [35]).length+_<=_;(refine G ku (G iG ?_));obtain this:(bO (toString z)).length=(eR z).length:=by unfold eR;rfl
  refine G this ?_;show l.length+1+_<=_;lia)))
 obtain e:aR l++aR [35]++bO (toString z)=aR (l++35::eR z):=by
  obtain this:bO (toString z)=aR (eR z):=by unfold eR;rw[hk]
  (refine G this ?_;rw[C4,C4,nR]);rfl
 exact G e (aq dr _ dC keep)
noncomputable def z0:List Int:=[2,1,5,0,4,3,0,0,2,1,2,2,4,0,0,3,2,2,0,1,1,0,3,2,1]
noncomputable def pq(zs:List Int)(n:Nat):Int:=if n<=zs.length then zs.getD (n-1) 0 else z0.getD ((n-1)%25) 0
noncomputable def fk(zs:List Int)(n:Nat)(afd:Int):Int:=(pq zs n).fmod afd
noncomputable def GU(p:Nat->cq):List Stmt:=[.AugAssign (.Subscript (.Name "bag" (p 0)) (.Constant (.str "at") 0 (p 1)) (p 2)) .Add (.Constant (.int 1) 0 (p 3)) (p 4),
 .If (.Compare (.Subscript (.Name "bag" (p 5)) (.Constant (.str "at") 0 (p 6)) (p 7)) [.Gt] [.Call (.Name "len" (p 8)) [.Subscript (.Name "bag" (p 9)) (.Constant (.str "cells") 0 (p 10)) (p 11)] [] (p 12)] (p 13))
  [.Return (C (.BinOp (.Subscript (.Name "_law_rest" (p 14)) (.BinOp (.BinOp (.Subscript (.Name "bag" (p 15)) (.Constant (.str "at") 0 (p 16)) (p 17)) .Sub (.Constant (.int 1) 0 (p 18)) (p 19)) .Mod (.Call (.Name "len" (p 20)) [.Name "_law_rest" (p 21)] [] (p 22)) (p 23)) (p 24)) .Mod (.Name "sides" (p 25)) (p 26))) (p 27)] [] (p 28),
 .Return (C (.BinOp (.Subscript (.Subscript (.Name "bag" (p 29)) (.Constant (.str "cells") 0 (p 30)) (p 31)) (.BinOp (.Subscript (.Name "bag" (p 32)) (.Constant (.str "at") 0 (p 33)) (p 34)) .Sub (.Constant (.int 1) 0 (p 35)) (p 36)) (p 37)) .Mod (.Name "sides" (p 38)) (p 39))) (p 40)]
variable{eI:Int}{loose:List aM}{iS iR:aM->Option aB}
section
variable{s:aN}{B Cl:az}{t pz:Tok}
theorem zY{o:bk}{gI:aM}{q:cq}{Q:aB->aN->Prop}(D:s.heap.DictOf (strKind prog w) B aA)(bT:a0 aA gI=C y)(bx:∀{s:aN}{Q:aB->aN->Prop},s.heap.Ns env.locals m->Q (.ref B) s->a5 (c9 prog w) A (dM o env) Q E s)(ei:s.heap.Ns env.locals m)
  (aq:∀cX,Q y {s with toks:=cX}):a5 (c9 prog w) A (dM (.Subscript o (.Constant (.str gI) 0 q) pos) env) Q E s:=by
 refine q1 (bx ei (xd ?_));have mX:({s with toks:=s.toks+1}:aN).heap.DictOf (strKind prog w) B aA:=D;obtain uh:(strKind prog w).is gI (.str gI s.toks)=true:=by obtain this:=EH prog w (aR (cs gI)) s.toks;rwa [hk] at this
 exact mP mX.mapOf.typeIs Lr.lookup (En uh mX.mapOf bT (aq _)) (px rfl _ _)
theorem boot_len:AI "len"=C (.builtin "len"):=by kernel_rfl
theorem getD_ints(h:bL (λ(z:Int) y=>∃t,y=.int z t) zs aH){i:Nat}(bN:i<zs.length):∃t,aH[i]? =C (.int (zs.getD i 0) t):=by obtain(⟨y,bT,t,rfl⟩):=h.get (i5 bN);exact⟨t,by(refine G bT (G List.getD_eq_getElem?_getD ?_);refine G (i5 bN) ?_);rfl⟩
set_option maxHeartbeats 4000000 in
theorem WY{p:Nat->cq}{h₀:gj}{P:q5}{aH:Array aB}{A5:az}{g6:Array aB}{y5:Nat}{CJ:Array (Option aB)}
  (X:K.In h₀)(T:sG P loose iS iR h₀)(up:∀b o,h₀.get? b=C o->s.heap.get? b=C o)(Hz:h₀.get? B=none)(hlen:lI K ik "len"=C none)(qq:lI K ik "_law_rest"=C (C (.ref A5)))(YK:K.lookup A5=C ⟨.type "tuple",fU,.seq g6 y5,CJ⟩)
  (hits:bL (λ(z:Int) y=>∃t,y=.int z t) z0 g6.toList)(eU:env.scope.kind=.function)(gl:env.globals=ik)(Bp:env.builtins=nK)(vV:env.kindOf "bag"=C .local)(ks:env.kindOf "sides"=C .local)(jz:env.kindOf "len"=C .globalImplicit)(vY:env.kindOf "_law_rest"=C .globalImplicit)
  (ei:s.heap.Ns env.locals m)(QK:m "bag"=C (.ref B))(ms:m "sides"=C (.int eI t))(YG:env.locals≠B)(D:s.heap.DictOf (strKind prog w) B aA)(Kt:a0 aA "cells"=C (.ref Cl))(uo:a0 aA "at"=C (.int n pz))(f7:h₀.IsList Cl aH)
  (a8:bL (λ(z:Int) y=>∃t,y=.int z t) zs aH.toList)(ZY:zs.length<=1000)(aO:n<=10000)(aw:aA.length<=100)(Po:eI≠0)
  (aq:∀ay cX l6 uj,ay.DictOf (strKind prog w) B (lH aA "at" (.int ((n:Int)+1) l6))->qW B s.heap ay->Q (.ret (.int (fk zs (n+1) eI) cX)) {s with heap:=ay,toks:=uj}):a5 (c9 prog w) A (cH (GU p) env) Q E s:=by
 have uh:∀(x:aM)(t:Tok),(strKind prog w).is x (.str x t)=true:=λx t=>by obtain this:=EH prog w (aR (cs x)) t;rwa [hk] at this
 obtain key:∀(uk Sz:Tok)(ay:gj),ay.DictOf (strKind prog w) B (lH aA "at" (.int ((n:Int)+1) uk))->qW B s.heap ay->a5 (c9 prog w) A (cH ((GU p).drop 1) env) Q E {s with heap:=ay,toks:=Sz}:=by
  intro uk Sz ay hd aD;have Ki:∀b o,h₀.get? b=C o->ay.get? b=C o:=λb o e=>aD.extBut b o (λz=>by rw[z,Hz] at e;exact bK e) (up b o e);have o2:ay.Ns env.locals m:=ei.extBut aD.extBut YG;have bX:=T.keeps Ki;have xT:=X.keeps Ki;have v1:a0 (lH aA "at" (.int ((n:Int)+1) uk)) "at"=C (.int ((n:Int)+1) uk):=by refine G (nI _ _ _ _) ?_;simp
  have v2:a0 (lH aA "at" (.int ((n:Int)+1) uk)) "cells"=C (.ref Cl):=by(refine G (nI _ _ _ _) (G (if_neg (aS (by kernel_rfl))) ?_));exact Kt
  have HA:ay.IsList Cl aH:=by(refine aU f7 λo a b=>?_;try clear f7);exact⟨o,Ki _ _ a,b⟩
  have C1:zs.length=aH.size:=by obtain this:=a8.length;simpa using this
  have x3:∀{pp:cq}{ao:aN}{Q:aB->aN->Prop},ao.heap.Ns env.locals m->Q (.ref B) ao->a5 (c9 prog w) A (dM (.Name "bag" pp) env) Q E ao:=λei aq=>hE (hS eU vV ei QK aq) (by kernel_rfl);show a5 _ _ (cH (_::_) _) _ _ _;refine jm (wpAny_If (As (zY hd v1 x3 o2 λahU=>G ((oR (λI I I h=>by(injection h))) _ _) (b3 (mb eU jz (uy (by exact G gl bX.g) (uN xT bX.g hlen) (by exact G Bp bX.b) ((bX.builtins "len" (aS (by kernel_rfl))).trans boot_len) ?_) (by kernel_rfl))))));refine AF (nx rfl) (n7 rfl (kS (zY hd v2 x3 o2 λahV=>?_) (nD rfl _)));refine nN (EB (show pG _ _ _ from HA) (by exact qt (bR (eJ C1.symm) ZY) (bA rfl)) (TK (AB ?_)));by_cases HQ:(aH.size:Int)<(n:Int)+1
  ·(refine G (decide_eq_true HQ) (G (if_pos rfl) ?_));refine jm (uz (qY (q1 (mb eU vY (uC (by exact G gl bX.g) (mg_of xT bX.g qq) ?_) (by kernel_rfl)))));refine qY (qY (zY hd v1 x3 o2 λafK=>nQ (KR (G ((oR (λI I I h=>by(injection h))) _ _) (b3 (mb eU jz (uy (by exact G gl bX.g) (uN xT bX.g hlen) (by exact G Bp bX.b) ((bX.builtins "len" (aS (by kernel_rfl))).trans boot_len) ?_) (by kernel_rfl)))))));refine AF (nx rfl) (n7 rfl (kS (mb eU vY (uC (by exact G gl bX.g) (mg_of xT bX.g qq) ?_) (by kernel_rfl)) (nD rfl _)));refine nN ?_;have tup:IsTup ay A5 g6:=⟨_,xT _ _ YK,rfl,y5,rfl⟩;have li:g6.size=25:=by obtain this:=hits.length;rw[w9] at this;exact this.symm.trans (by exact rfl)
   refine PyProof.Rows.len_tuple (show IsTup _ _ _ from tup) (by exact qt (eJ li) (bA rfl)) (KO (by exact G li (aS rfl)) ?_);obtain a9:((n:Int)+1-1).fmod (g6.size:Int)=((n%25:Nat):Int):=by(refine G li (G (ux _ _) (G (Int.fmod_eq_emod_of_nonneg _ (aS rfl)) ?_)));exact rfl
   refine G a9 ?_;have lt:n%25<z0.length:=Nat.lt_of_lt_of_eq (Nat.mod_lt _ (aS rfl)) (by exact rfl);refine bG (getD_ints hits lt) λafL ff=>mP (T:="tuple") (by(refine eH tup λo bx bb I=>?_;try clear tup);exact⟨o,bx,bb⟩) F.slot_tuple_getitem.lookup (Tv (show IsTup _ _ _ from tup) (by exact kV _) (by exact qt (kq (Nat.mod_lt n (bA rfl))) (bA rfl)) (j:=n%25) ?_ (by refine G (bW pN) ?_;exact ff) ?_) (px rfl _ _)
   ·(refine G (seqIndex_of (by exact kV _) (by exact G li (jn.mpr (by assumption)))) ?_;exact G (Lc _) rfl)
   .refine hE (hS eU ks o2 ms ?_) (by kernel_rfl);refine KO Po ?_;obtain this:fk zs (n+1) eI=(z0.getD (n%25) 0).fmod eI:=by unfold fk pq;exact G (if_neg (by lia)) rfl
    exact G (bW this) (aq ay _ uk _ hd aD)
  ·(refine G (decide_eq_false HQ) (G (if_neg (by simp)) ?_));refine qT (jm (uz (qY (q1 (zY hd v2 x3 o2 λafK=>qY (zY hd v1 x3 o2 λafL=>nQ (KR (bG (getD_ints a8 (i:=n) (by exact bR (jn.mp (AL.mp HQ)) (eJ C1.symm))) λahW ff=>mP (show pG _ _ _ from HA).typeIs xg.lookup (Eh (show pG _ _ _ from HA) (by lia) (by lia) (by
    refine G (bW pN) ?_;have:((n:Int)+1-1).toNat=n:=by exact congrArg Int.toNat (ux (n:Int) 1)
    exact G this ff) ?_) (px rfl _ _)))))))))
   refine hE (hS eU ks o2 ms ?_) (by kernel_rfl);refine KO Po ?_;have:fk zs (n+1) eI=(zs.getD n 0).fmod eI:=by unfold fk pq;exact G (if_pos (by lia)) rfl
   exact G (bW this) (aq ay _ uk _ hd aD)
 refine jm (TO (hE (hS eU vV ei QK ?_) (by kernel_rfl)));refine xd ?_;have Up:({s with toks:=s.toks+1}:aN).heap.DictOf (strKind prog w) B aA:=D;refine En (uh _ _) Up.mapOf uo (nQ (KN (Ld (uh _ _) (show Heap.DictOf _ _ _ _ from D) (λay hd aD=>key _ _ ay hd aD) (nt (by exact bR (by assumption) (bA rfl))))))
end
inductive ri(K:b5)(a:az)(names:List aM)(body:List eQ)(kinds:List (aM×gC)):Prop
 |mk (bF:_) (fU:_) (fd:_) (gb:_) (as:_) (an:_) (ds:_) (aa:K.lookup a=some ⟨bF,fU,.func fd,gb⟩) (af:fd.params=⟨[],as,none,[],an,none,ds⟩) (aJ:as.map (·.arg)=names) (bl:fd.body=.stmts body) (cQ:fd.closure=[]) (eT:fd.defaults=.none) (h7:fd.globals=mainGlobals) (h8:fd.builtins=builtinsNs) (et:qG fd.scope=true) (aV:codeIn K fd.code fd.qualname=true)
  (aD:∀x∈names,fd.scope.names.lookup x=C .local) (bb:∀x∈kinds,fd.scope.names.lookup x.1=C x.2) (hd:∀x∈fd.scope.names,x.2≠.cell)
noncomputable abbrev p0(aQ:Type):=Option (aQ×dD (Bool×O)×List b6)
noncomputable def wz(st:St)(r:aQ×dD (Bool×O)×List b6):St:={st with σ:=r.2.1,ar:=r.2.2}
noncomputable def lx(x:St->p0 aQ):M aQ:=λst=>match x st with
 |some r=>.ok r.1 (wz st r)
 |none=>.fail 180
set_option smartUnfolding false in
theorem Ym:∀{names:List aM}{aK:List V},names.Nodup->∀{p:aM×V},p∈names.zip aK->eh p.1 (names.zip aK)=C p.2:=by
 intro names;induction names with
 |nil=>exact λI I h=>nomatch h
 |cons x r bj=>
  intro aK aO p b7;induction aK using eo with
  |nil=>exact nomatch b7
  |cons v aK=>
   rw[jD] at aO;show(match eqs x p.1 with|true=>C v|false=>eh p.1 (r.zip aK))=_;rcases dh.mp b7 with e|b7
   ·(exact G e (G (gr.mpr rfl) rfl))
   .refine G (oX.mpr (λe=>aO.1 (by exact G e ((List.of_mem_zip b7).1)))) ?_;exact bj aO.2 b7
variable{kinds:List (aM×gC)}
section
variable{c:bc}
theorem X3{a:az}{m:M dj}(O:g.Ok)(U:c.Ok g dep)(dO:dep<300)(F:ri g.K a names body kinds)(aO:names.Nodup)(R:bL (a7 β) aK aH)(aX:names.length=aH.length)
  (hm:∀bI cL jK av,bI.Ok g (dep+1)->jK.dep=dep+1->cc bI jK cL av->β.le av->(∀x∈names,cL.kindOf x=C .local)->(∀x∈kinds,cL.kindOf x.1=C x.2)->cT g bI av m (dX g bI (cH body cL)) eL):
  cT g c β ((l7 (names.zip aK) m).bind λ
   |.ret v=>M.pure v
   |.next=>M.pure nH
   |_=>fail 92) (jG g c (.ref a) aH) a7:=by
 obtain⟨bF,fU,fd,gb,as,an,ds,bE,bw,c3,fL,mB,hY,zb,zc,zd,ze,eV,dY,lr⟩:=F;refine fO (zO zd) λs1 s2 s3=>?_;obtain zk:as.length=aH.length:=by exact G (bW (gB (f:=(·.arg)))) (G c3 (G aX rfl))
 exact Ms O U bE fL s1 s2 s3 ze dO zb zc lr aX aO eV (λao I=>BindsTo.of_eq (G (bW c3) (Bn bw hY (G c3 aO) zk))) R λbI cL av ek gY l P9=>hm bI cL _ av ek rfl gY l (λx ak=>by exact G (P9 _) (eV x ak)) (λx ak=>by exact G (P9 _) (dY x ak))
theorem Hj{a:az}{x:St->p0 V}(O:g.Ok)(U:c.Ok g dep)(dO:dep<300)(F:ri g.K a names body kinds)(aO:names.Nodup)(R:bL (a7 β) aK aH)(aX:names.length=aH.length)
  (ak:∀st fS,x {st with loc:=fS}=x st)(hm:∀bI cL jK av st s m r,bI.Ok g (dep+1)->cc bI jK cL av->Sat g bI st av s->s.heap.Ns cL.locals m->(∀p∈names.zip aK,∃y,m p.1=C y/\a7 av p.2 y)->(∀x∈names,cL.kindOf x=C .local)->(∀x∈kinds,cL.kindOf x.1=C x.2)->
   x st=C r->∀(Q:fH->aN->Prop)(E:aB->aN->Prop),(∀y ao d9,av.le d9->Sat g bI {wz st r with loc:=[]} d9 ao->a7 d9 r.1 y->Q (.ret y) ao)->dX g bI (cH body cL) Q E s):cT g c β (lx x) (jG g c (.ref a) aH) a7:=by
 classical
 let out:St->Out dj:=λst=>match x st with|some r=>.ok (.ret r.1) {wz st r with loc:=[]}|none=>.fail 180
 let m:M dj:=λst=>if∀p∈names.zip aK,eh p.1 st.loc=C p.2 then out st else .fail 180;intro aW st s aa H;refine At.same (X3 (m:=m) O U dO F aO R aX (λbI cL jK av ek hd V l eV dY aY bp ao af oJ=>?_) aW st s aa H) ?_
 .by_cases bb:∀p∈names.zip aK,eh p.1 bp.loc=C p.2
  .have em:m bp=out bp:=if_pos bb;generalize e:x bp=aF;induction aF using b1 with
   |none=>exact At.o6 (n:=180) (em.trans (by show(match x bp with|some r=>_|none=>_:Out dj)=_;exact G e rfl))
   |some r=>refine At.is (em.trans (by show(match x bp with|some r=>_|none=>_:Out dj)=_;exact G e rfl)) λQ E aq=>?_;exact aU oJ.loc λjP o1 qn=>hm bI cL jK aY bp ao jP r ek (V.le af) oJ (V.loc▸o1) (λp b7=>qn _ _ (bb p b7)) eV dY e Q E λy fa d9 a_ S q=>aq _ _ d9 a_ S ⟨y,rfl,q⟩
  .exact At.o6 (n:=180) (if_neg bb)
 .obtain e:m {st with loc:=names.zip aK}=out {st with loc:=names.zip aK}:=if_pos λp b7=>Ym aO b7;obtain bf:out {st with loc:=names.zip aK}=(match x st with|some r=>.ok (.ret r.1) {wz st r with loc:=[]}|none=>.fail 180):=by show(match x {st with loc:=names.zip aK} with|some r=>_|none=>_:Out dj)=_;exact G (ak _ _) rfl
  unfold lx M.bind;(refine G D1 (G e (G bf ?_)));cases x st<;>rfl
noncomputable def yV(a D:Nat)(k:List V->Option (St->p0 V)):gW:=λdep f aK st=>match eK dep D&&f.aj.any (isRef a) with
 |true=>(k aK).map λx=>lx x st
 |false=>none
theorem H8{a D:Nat}{k:List V->Option (St->p0 V)}(h:∀(c:bc) dep β aH x aK,c.Ok g dep->dep<D->bL (a7 β) aK aH->k aK=C x->cT g c β (lx x) (jG g c (.ref a) aH) a7):fu g (yV a D k):=by
 intro c dep β f aK aH U R aW st s aa H;generalize aD:(eK dep D&&cw f a)=aF;induction aF using bV with
 |false=>refine At.o6 (n:=0) ?_;show(match(match eK dep D&&cw f a with|true=>_|false=>none:Option (Out V)) with|some o=>o|none=>.fail 0)=_;exact G aD rfl
 |true=>
  obtain jM:=d0 (bC aD);generalize aw:k aK=aF;induction aF using b1 with
  |none=>refine At.o6 (n:=0) ?_;show(match(match eK dep D&&cw f a with|true=>(k aK).map λx=>lx x st|false=>none:Option (Out V)) with|some o=>o|none=>.fail 0)=_;(refine G aD (G aw ?_));rfl
  |some x=>refine At.same (jM▸h c dep β aH x aK U (bA (bS aD)) R aw aW st s aa H) ?_;show(match(match eK dep D&&cw f a with|true=>(k aK).map λx=>lx x st|false=>none:Option (Out V)) with|some o=>o|none=>.fail 0)=_;(refine G aD (G aw ?_));rfl
end
inductive gO where
 |lit (v:Int)
 |zr
noncomputable def gO.ctorIdx(x:gO):Nat:=gO.casesOn x (λI=>0) 1
noncomputable def RA(st:St)(n:Nat):Option (List (ag×V)):=(st.σ.get n).bind λx=>match x.1 with
 |true=>x.2.i_.bind λq=>match q.2 with
  |none=>C q.1
  |some _=>none
 |false=>none
theorem acQ{st:St}(h:RA st n=C au):st.σ.get n=C (ae,.dict au none):=
 cu h λx ak h=>by
  obtain(⟨own,o⟩):=x;induction own using bV with
  |false=>exact bK h
  |true=>
   exact cu h λq aq h=>by
    obtain(⟨qd,op⟩):=q;induction op using b1 with
    |some _=>exact bK h
    |none=>(obtain J:=aT h;clear h;(clear h;subst J));exact G ak (G (show o=_ from oU aq) rfl)
noncomputable def MN(au:List (ag×V)):Option (ag×Nat×ag×bo):=(oy au).bind λq=>q.1.2.dv.bind λpg=>q.2.2.aE.bind λe=>(ag.kf q.1.1).bind λlc=>(ag.kf q.2.1).bind λvZ=>
 (k_ (tl lc (cs "cells")&&tl vZ (cs "at"))).map λI=>(q.1.1,pg,q.2.1,e)
theorem Vu{b:ag×Nat×ag×bo}(h:MN au=C b):au=[(b.1,.r b.2.1),(b.2.2.1,.i b.2.2.2)]/\ag.kf b.1=C (cs "cells")/\ag.kf b.2.2.1=C (cs "at"):=
 cu h λq aq h=>cu h λpg aa h=>cu h λe af h=>cu h λlc aJ h=>cu h λvZ bl h=>omap h λI cQ h=>by subst h;have cQ:=my cQ;exact(fi (G (um aq) (G (bW (ue aa)) (G (bW (qw af)) rfl))) (G aJ (G (yo.mp (bS cQ)) rfl)) (G bl (G (yo.mp (bC cQ)) rfl)))
noncomputable def N2(nb:Nat)(st:St):Option (Nat×bo×dD (Bool×O)):=(RA st nb).bind λau=>(MN au).bind λb=>(bo.add b.2.2.2 (.lit 1)).bind λa9=>(k_ (eK nb 10000000)).map λI=>
 (b.2.1,b.2.2.2,st.σ.put cU nb (ae,.dict [(b.1,.r b.2.1),(b.2.2.1,.i a9)] none))
noncomputable def N0(st:St):gO->V
 |.lit v=>.i (.lit v)
 |.zr=>.i (.aL 0 ai st.ar.length)
noncomputable def NZ(st:St)(eI:Int):gO->List b6
 |.lit _=>st.ar
 |.zr=>st.ar++ [(0,eI-1,none)]
noncomputable def qa(D:bo->Int->Option gO)(iB nb:Nat)(eI:Int)(st:St):p0 V:=(N2 nb st).bind λx=>(k_ (cw x.1 iB)).bind λI=>(D x.2.1 eI).map λr=>(N0 st r,x.2.2,NZ st eI r)
noncomputable def GV(D:bo->Int->Option gO)(iB:Nat):gW:=yV 713 250 λaK=>(oy aK).bind λq=>q.1.dv.bind λnb=>q.2.aE.bind λe=>(litOf e).map λeI=>qa D iB nb eI
noncomputable def Vv:List Str:=[bO "bag",bO "sides"]
structure pR(K:b5):Prop where
 fn:∃p,ri K 713 Vv (GU p) [(bO "len",.globalImplicit),(bO "_law_rest",.globalImplicit)]
 len:lI K ik "len"=C none
 rest:∃R fU g6 y5 CJ,lI K ik "_law_rest"=C (C (.ref R))/\K.lookup R=C ⟨.type "tuple",fU,.seq g6 y5,CJ⟩/\bL (λ(z:Int) y=>∃t,y=.int z t) z0 g6.toList
structure uX(g:cz)(zs:List Int)(iB:Nat)(D:bo->Int->Option gO):Prop where
 cells:∃Cl aH k,(∀β,g.dQ.le β->β.ad[iB]? =C (Cl,Cl))/\g.h₀.get? Cl=C (listOf aH k)/\bL (λ(z:Int) y=>∃t,y=.int z t) zs aH.toList
 eS:zs.length<=1000
 draw:∀β,g.dQ.le β->∀e eI r,D e eI=C r->∃n:Nat,e.val β=C (n:Int)/\n<=10000/\0<eI/\∀v,r=.lit v->fk zs (n+1) eI=v
theorem tx{a b:Int}(h:0<b):0<=a.fmod b/\a.fmod b<=b-1:=⟨Int.fmod_nonneg_of_pos a h,Int.le_sub_one_of_lt (Int.fmod_lt_of_pos a h)⟩
structure Ur(g:cz)(c:bc)(β:aZ)(s:aN)(zs:List Int)(nb:Nat)(eI:Int)(v:V)(B:az)(aA:List (aM×aB))(Cl:az)(aH:Array aB)(n:Nat)(pz:Tok):Prop where
 Vt:β.ad[nb]? =C (B,B)
 h0:g.h₀.get? B=none
 ne:B≠c.L
 dict:s.heap.DictOf (strKind g.prog g.w) B aA
 Kt:a0 aA "cells"=C (.ref Cl)
 uo:a0 aA "at"=C (.int (n:Nat) pz)
 lst:g.h₀.IsList Cl aH
 V3:bL (λ(z:Int) y=>∃t,y=.int z t) zs aH.toList
 ab2:n<=10000
 eS:aA.length<=100
 pos:0<eI
 lit:∀i2,v=.i (.lit i2)->fk zs (n+1) eI=i2
variable{nb iB:Nat}
section
variable{c:bc}
inductive L3(g:cz)(c:bc)(β:aZ)(st:St)(s:aN)(zs:List Int)(nb:Nat)(eI:Int)(r:V×dD (Bool×O)×List b6):Prop where
 |mk (B:Addr) (aA:List (Str×Value)) (Cl:Addr) (aH:Array Value) (n:Nat) (pz:Tok) (W:Ur g c β s zs nb eI r.1 B aA Cl aH n pz)
   (fin:∀ay cX l6 uj,ay.DictOf (strKind g.prog g.w) B (lH aA "at" (.int ((n:Int)+1) l6))->lN B s.heap ay->∃av,β.le av/\Sat g c (wz st r) av {s with heap:=ay,toks:=uj}/\a7 av r.1 (.int (fk zs (n+1) eI) cX))
theorem WV{st:St}{s:aN}{pg:Nat}{d:gO}{D:bo->Int->Option gO}{gI d6:ag}{e a9:bo}(Do:uX g zs pg D)(U:c.Ok g dep)(H:Sat g c st β s)(RT:st.σ.get nb=C (ae,.dict [(gI,.r pg),(d6,.i e)] none))(lc:ag.kf gI=C (cs "cells"))(vZ:ag.kf d6=C (cs "at"))(HL:bo.add e (.lit 1)=C a9)(yO:nb<10000000)(hd:D e eI=C d):
  L3 g c β st s zs nb eI (N0 st d,st.σ.put cU nb (ae,.dict [(gI,.r pg),(d6,.i a9)] none),NZ st eI d):=by
 refine bG H.objs λf hf=>?_;obtain(⟨B,BD,bZ,c5,fF⟩):=hf nb ae _ RT;obtain(⟨_,_,Oy,_,_⟩):=fF rfl;obtain(⟨ja,qd,f_,aA,g1,g2,g3,eg,gv,jb⟩):=(show cN g s.heap.get? β B BD (.dict [(gI,.r pg),(d6,.i e)] none) from c5);(clear fF c5;subst ja);obtain(⟨eG,cJ,v1,v2,wZ⟩):=g3 _ (.head _);obtain(⟨fB,cY,v4,Kr,v6⟩):=g3 _ (.tail _ (.head _));have v4:ag.val β d6=C fB:=v4;obtain Zv:cs "cells"=eG:=c0 ((ag.v8 lc).symm.trans v1);have HX:cs "at"=fB:=c0 ((ag.v8 vZ).symm.trans v4);rw[<-Zv,hk] at v2;rw[<-HX] at v4;rw[<-HX,hk] at Kr;(refine cA wZ λagY ahd e5 XU=>?_;try clear wZ);(refine cA v6 λz tz gZ XW=>?_;try clear v6);refine kh Do.cells λCl aH ahz bw c3 fL=>jQ (Do.draw β H.ghost _ eI d hd) λn eZ hp vl yi=>?_;cases gZ.symm.trans eZ;cases(bw β H.ghost).symm.trans e5;subst XU;subst XW;obtain Hz:g.h₀.get? B=none:=by
  generalize aq:g.h₀.get? B=aF;induction aF using b1 with
  |none=>rfl
  |some o=>exact gy (Oy.1.symm.trans (U.base B o aq))
 refine .mk B aA _ aH n tz ⟨bZ,Hz,Oy.2.1,vo (g:=g) g1 g2,v2,Kr,qZ c3,fL,hp,bR jb (show 2+0<=100 by exact aS rfl),vl,λi2 e=>?_⟩ λay cX l6 uj hd aD=>?_
 .cases d with
  |lit v=>cases e;exact yi _ rfl
  |zr=>cases e
 .refine aU (sq.mp hd) λkM dw dV=>?_;obtain R:cN g ay.get? β B B (.dict [(gI,.r pg),(d6,.i a9)] none):=GO (v:=.i a9) rfl qd g3 eg gv jb v4 (y:=.int ((n:Int)+1) l6) ⟨(n:Int)+1,l6,bo.Bf HL gZ rfl,rfl⟩ dw (G (hk _) dV) (q:=C (1,.i e)) ⟨(bh (.int n tz) (G (hk _) Kr) ⟨(n:Int),tz,gZ,rfl⟩),(d6,.i e),rfl,v4,rfl⟩;have S:=H.turn (t:=uj) yO RT bZ (.inl rfl) aD R rfl;cases d with
  |lit v=>exact(fV β (.refl _) S ⟨_,cX,congrArg C (yi _ rfl).symm,rfl⟩)
  |zr=>exact a3 (tx (a:=pq zs (n+1)) vl) λfG hA=>(fV _ (β.I5 _) (S.lj (b:=(0,eI-1,none)) (z:=fk zs (n+1) eI) (fi fG hA (λj cE=>gy cE))) ⟨_,cX,S.Ql _,rfl⟩)
theorem N3{st:St}{s:aN}{r:V×dD (Bool×O)×List b6}{D:bo->Int->Option gO}(Do:uX g zs iB D)(U:c.Ok g dep)(H:Sat g c st β s)(w:qa D iB nb eI st=C r):L3 g c β st s zs nb eI r:=
 cu w λx cy w=>cu w λI yP w=>omap w λd hd w=>cu cy λau tF cy=>cu cy λb aD cy=>cu cy λa9 HL cy=>omap cy λI yO cy=>by subst cy;subst w;exact fO (Vu aD) λG2 lc vZ=>WV (d0 (my yP)▸Do) U H (G2▸acQ tF) lc vZ HL (bA (my yO)) hd
theorem Sat.ab3{st:St}{s:aN}(H:Sat g c st β s):Sat g c {st with loc:=[]} β s:=aU H.loc λm hm I=>⟨⟨H.keep,H.cx,H.objs,H.len,H.facts,H.ghost⟩,H.os,m,hm,λx v e=>gy e⟩
theorem N6{D:bo->Int->Option gO}(O:g.Ok)(F:pR g.K)(Do:uX g zs iB D)(U:c.Ok g dep)(dO:dep<300)(R:bL (a7 β) [.r nb,.i (.lit eI)] aH):cT g c β (lx (qa D iB nb eI)) (jG g c (.ref 713) aH) a7:=by refine bG F.fn λp hG=>Hj O U dO hG (aS (by kernel_rfl)) R R.length (λI I=>rfl) λbI cL jK av st s m r ek V H ei aX eV dY e Q E aq=>?_;obtain(⟨B,aA,Cl,aH,n,pz,W,fin⟩):=N3 Do ek H e;refine acz F.rest λA5 fU g6 y5 CJ dc dA hx=>?_;obtain(⟨ah7,hP,agX,BD,Vq,mw⟩):=aX (bO "bag",.r nb) (.head _);obtain(⟨ah8,ll,ahS,ah1,ML,au⟩):=aX (bO "sides",.i (.lit eI)) (.tail _ (.head _));cases W.Vt.symm.trans Vq;(obtain J:=aT ML;clear ML;subst J);subst mw;subst au;exact WY (p:=p) (K:=g.K) (h₀:=g.h₀) (zs:=zs) (n:=n) O.fl O.top (H.toSatO.h₀ ek) W.h0 F.len dc dA hx V.kind V.glob V.blt (eV _ (.head _)) (eV _ (.tail _ (.head _))) (dY (bO "len",.globalImplicit) (.head _)) (dY (bO "_law_rest",.globalImplicit) (.tail _ (.head _))) ei hP ll (V.loc▸j1 W.ne) W.dict W.Kt W.uo W.lst W.V3 Do.eS W.ab2 W.eS (Int.ne_of_gt W.pos) λay cX l6 uj hd aD=>eH (fin ay cX l6 uj hd aD.extBut) λd9 a_ eE g_=>aq _ _ d9 a_ eE.ab3 g_
theorem N5{D:bo->Int->Option gO}(O:g.Ok)(F:pR g.K)(Do:uX g zs iB D):fu g (GV D iB):=
 H8 λc dep β aH x aK U hd R aw=>cu aw λq aq aw=>cu aw λnb aa aw=>cu aw λe af aw=>omap aw λeI aJ aw=>by subst aw;rw[um aq,ue aa,qw af,tZ aJ] at R;exact N6 O F Do U (sv hd (aS rfl)) R
end
noncomputable def hW(after:Nat->Nat):Nat->Nat->Nat
 |0,_=>0
 |k+1,w=>if w<4 then hW after k (after w)+1 else 0
theorem M_(after:Nat->Nat)(w:Nat):hW after 0 w=0:=rfl
theorem rD(after:Nat->Nat)(k w:Nat):hW after (k+1) w=if w<4 then hW after k (after w)+1 else 0:=rfl
theorem Na:∀{k m w:Nat},w<4->m<k->hW after k w=m->gm after m w
 |0,_,_,_,h,_=>by lia
 |k+1,m,w,hw,aw,h=>by
  rw[rD] at h;rw[if_pos hw] at h;induction m using hD with
  |zero=>exact absurd (by assumption) (Nat.succ_ne_zero _)
  |succ m=>
   by_cases bl:after w<4
   .induction m using hD with
    |zero=>
     induction k using hD with
     |zero=>exact absurd (by assumption) (qV _)
     |succ k=>rw[rD] at h;rw[if_pos bl] at h;lia
    |succ m=>exact⟨bl,Na (k:=k) bl (Az (by assumption)) (su (by assumption))⟩
   .induction m using hD with
    |zero=>show 4<=after w;exact so (by assumption)
    |succ m=>
     induction k using hD with
     |zero=>rw[M_] at h;lia
     |succ k=>rw[rD] at h;rw[if_neg bl] at h;lia
theorem Nc:∀{k r w:Nat},r<hW after k w->xB after r w
 |_,0,_,_=>trivial
 |0,r+1,w,h=>absurd h (xk _)
 |k+1,r+1,w,h=>by
  rw[rD] at h;split at h
  .have ay:r<hW after k (after w):=by exact Az (by assumption)
   refine⟨?_,Nc (k:=k) ay⟩;clear h;induction k using hD with
   |zero=>rw[M_] at ay;lia
   |succ k=>
    rw[rD] at ay;split at ay
    .assumption
    .lia
  .lia
theorem gm.uniq{m w:Nat}(h:gm after m w)(ay:gm after n w):m=n:=by
 induction m generalizing n w with
 |zero=>exact h.elim
 |succ m bj=>
  induction n using hD with
  |zero=>exact ay.elim
  |succ n=>
   induction m using hD with
   |zero=>
    induction n using hD with
    |zero=>rfl
    |succ n=>exact absurd ay.1 (Ek h)
   |succ m=>
    induction n using hD with
    |zero=>exact absurd h.1 (Ek ay)
    |succ n=>exact congrArg (·+1) (bj h.2 ay.2)
theorem XX:∀(n:Nat)(l:List Nat),l.Nodup->(∀x∈l,x<n)->l.length<=n:=by
 intro n;induction n with
 |zero=>
  intro l _ h;induction l using eo with
  |nil=>exact dP _
  |cons x l=>exact absurd (h x (.head _)) (xk _)
 |succ n bj=>
  intro l d h;have:=bj (l.erase n) (d.erase n) λx ak=>Ay (Az (h x (List.mem_of_mem_erase ak))) (d.mem_erase_iff.mp ak).1;rw[List.length_erase] at this;split at this
  .exact Nat.le_add_of_sub_le this
  .exact Lb (by assumption)
noncomputable def g6(after:Nat->Nat):Nat->Nat->List Nat
 |0,_=>[]
 |m+1,w=>w::g6 after m (after w)
theorem aas(m:Nat):∀w,(g6 after m w).length=m:=by
 induction m with
 |zero=>exact λI=>rfl
 |succ m bj=>exact λw=>congrArg (·+1) (bj (after w))
theorem PT(m:Nat):∀w,w<4->gm after m w->(g6 after m w).Nodup/\∀x∈g6 after m w,x<4/\∃j,j<=m/\gm after j x:=by
 induction m with
 |zero=>exact λw I h=>h.elim
 |succ m bj=>
  intro w hw h;induction m using hD with
  |zero=>exact⟨jD.mpr ⟨lL,.nil⟩,λx ak=>eu.mp ak▸⟨hw,1,dP _,h⟩⟩
  |succ m=>
   refine a3 (bj _ h.1 h.2) λdc dA=>⟨jD.mpr ⟨λak=>?_,dc⟩,λx ak=>?_⟩
   .exact aU (dA w ak).2 λj cE q=>absurd (h.uniq q▸cE) (Nat.not_succ_le_self _)
   .rcases dh.mp ak with e|ak
    .exact e▸⟨hw,_,dP _,h⟩
    .obtain(⟨a,j,cE,q⟩):=dA x ak;exact⟨a,j,Lb cE,q⟩
theorem gm.four{m w:Nat}(hw:w<4)(h:gm after m w):m<=4:=
 aas (after:=after) m w▸XX 4 _ (PT m w hw h).1 λx ak=>((PT m w hw h).2 x ak).1
noncomputable def Nh(p:Nat->cq):PySem.Expr:=.BoolOp .And [.Compare (.Name "which" (p 3)) [.Lt] [.Constant (.int 4) 0 (p 4)] (p 5),.Compare (.Name "count" (p 6)) [.Lt] [.Constant (.int 99) 0 (p 7)] (p 8)] (p 9)
noncomputable def Nf(p:Nat->cq):List Stmt:=[.AugAssign (.Name "count" (p 10)) .Add (.Constant (.int 1) 0 (p 11)) (p 12),.Assign [.Name "which" (p 13)] (.Subscript (.Name "after" (p 14)) (.Name "which" (p 15)) (p 16)) (p 17)]
noncomputable def VW(p:Nat->cq):List Stmt:=[.Assign [.Name "count" (p 0)] (.Constant (.int 0) 0 (p 1)) (p 2),.While (Nh p) (Nf p) [] (p 18),.Return (C (.Name "count" (p 19))) (p 20)]
section
variable{jF:az}{aH:Array aB}
theorem V0{p:Nat->cq}(eU:env.scope.kind=.function)(gI:env.kindOf "count"=C .local)(kw:env.kindOf "which"=C .local)(d6:env.kindOf "after"=C .local)(ZX:∀i,i<4->∃t,aH[i]? =C (.int (after i:Int) t))(yC:jF≠env.locals):
  ∀(k c dK:Nat)(s:aN)(m:aM->Option aB)(R:Result->aN->Prop)(t dC:Tok),c+k=99->s.heap.Ns env.locals m->m "which"=C (.int (dK:Int) t)->m "count"=C (.int (c:Int) dC)->m "after"=C (.ref jF)->s.heap.IsList jF aH->
   (∀ay cX jP ui,ay.Ns env.locals jP->jP "count"=C (.int ((c+hW after k dK:Nat):Int) ui)->lN env.locals s.heap ay->R (.ok .next) {s with heap:=ay,toks:=cX})->ft (c9 prog w) A (.whileLoop (Nh p) (Nf p) [] env) R s:=by
 intro k;induction k with
 |zero=>
  intro c dK s m R t dC aw ei zz qB QI aX hN;refine Kx (AO (As (hE (hS eU kw ei zz ?_) (by kernel_rfl))));refine nQ (Aq (AB ?_));obtain fin:R (.ok .next) {s with toks:=s.toks+1}:=hN s.heap _ m dC ei (G qB rfl) (λb o I e=>e);by_cases bl:(dK:Int)<4
  ·(refine G (decide_eq_true bl) (G (if_pos rfl) ?_));refine AO (As (hE (hS eU gI (show kT _ _ _ from ei) qB ?_) (by kernel_rfl)));refine nQ (Aq (AB ?_));(refine G (decide_eq_false (λz=>qV _ (ij (mU.mp z) (eJ aw.symm)))) (G (if_neg (by simp)) (G (if_neg (by simp)) ?_)));exact hN s.heap _ m dC ei (G qB rfl) (λb o I e=>e)
  ·(refine G (decide_eq_false bl) (G (if_neg (by simp)) (G (if_neg (by simp)) ?_)));exact fin
 |succ k bj=>
  intro c dK s m R t dC aw ei zz qB QI aX hN;refine Kx (AO (As (hE (hS eU kw ei zz ?_) (by kernel_rfl))));refine nQ (Aq (AB ?_));by_cases bl:(dK:Int)<4
  ·(refine G (decide_eq_true bl) (G (if_pos rfl) ?_));refine AO (As (hE (hS eU gI (show kT _ _ _ from ei) qB ?_) (by kernel_rfl)));refine nQ (Aq (AB ?_));(refine G (decide_eq_true (mU.mpr (ij (w8 (pE k)) (eJ aw)))) (G (if_pos rfl) ?_));refine isTrue_and_nil (G (if_pos rfl) (jm (wpAny_AugAssign_Name (hS eU gI (show kT _ _ _ from ei) qB (nQ (KN (Ar gI (show kT _ _ _ from ei) (λdr yS yY=>?_) (G eU rfl))))))));refine jm (AD ?_);obtain abH:(λz=>if z=bO "count" then C (EG ((c:Int)+1) (s.toks+1+1+1)) else m z) (bO "which")=C (.int (dK:Int) t):=by show(if _ then _ else _)=_;exact G (if_neg (aS (by kernel_rfl))) zz
   have QJ:(λz=>if z=bO "count" then C (EG ((c:Int)+1) (s.toks+1+1+1)) else m z) (bO "after")=C (.ref jF):=by show(if _ then _ else _)=_;exact G (if_neg (aS (by kernel_rfl))) QI
   obtain abv:(λz=>if z=bO "count" then C (EG ((c:Int)+1) (s.toks+1+1+1)) else m z) (bO "count")=C (.int ((c:Int)+1) (s.toks+1+1+1)):=by show(if _ then _ else _)=_;exact G (if_pos rfl) rfl
   have vG:dr.IsList jF aH:=by(refine aU aX λo a b=>?_;try clear aX);exact⟨o,yY.extBut _ _ yC a,b⟩
   refine q1 (hE (hS eU d6 (show kT _ _ _ from yS) QJ ?_) (by kernel_rfl));refine hE (hS eU kw (show kT _ _ _ from yS) abH ?_) (by kernel_rfl);refine bG (ZX dK (mU.mp bl)) λpz bT=>mP (show pG _ _ _ from vG).typeIs xg.lookup (Eh (show pG _ _ _ from vG) (kV _) (qt (kq (mU.mp bl)) (bA rfl)) (G (Lc _) bT) ?_) (px rfl _ _);refine Ar kw (show kT _ _ _ from yS) (λfz ZG Pr=>?_) (G eU rfl);refine qT ?_;obtain ZA:fz.IsList jF aH:=by(refine aU vG λo a b=>?_;try clear vG);exact⟨o,Pr.extBut _ _ yC a,b⟩
   refine bj (c+1) (after dK) _ _ R pz (s.toks+1+1+1) (by lia) (show kT _ _ _ from ZG) ?_ ?_ ?_ (show pG _ _ _ from ZA) λay cX jP ui dT cG fQ=>?_
   .show(if _ then _ else _)=_;exact G (if_pos rfl) rfl
   .show(if _ then _ else _)=_;exact G (if_neg (aS (by kernel_rfl))) abv
   .show(if _ then _ else _)=_;exact G (if_neg (aS (by kernel_rfl))) QJ
   .refine hN ay cX jP ui dT ?_ λb o aD e=>fQ b o aD (Pr.extBut b o aD (yY.extBut b o aD e));refine G cG ?_;obtain this:c+1+hW after k (after dK)=c+hW after (k+1) dK:=by(refine G (show hW after (k+1) dK=if dK<4 then hW after k (after dK)+1 else 0 from rfl) (G (if_pos (by lia)) ?_));lia
    exact G this rfl
  ·(refine G (decide_eq_false bl) (G (if_neg (by simp)) (G (if_neg (by simp)) ?_)));refine hN s.heap _ m dC ei ?_ (λb o I e=>e);(refine G qB (G (show hW after (k+1) dK=if dK<4 then hW after k (after dK)+1 else 0 from rfl) (G (if_neg (by lia)) ?_)));rfl
end
section
variable{c:bc}
noncomputable def Ni(nU:Nat->Option Nat)(w:Nat)(st:St):p0 V:=(nU w).map λv=>(.i (.lit (.ofNat v)),st.σ,st.ar)
noncomputable def Gn(nU:Nat->Option Nat)(pd:Nat):gW:=yV 727 250 λaK=>(oy aK).bind λq=>q.1.dv.bind λna=>(pe q.2).bind λw=>(k_ (cw na pd)).map λI=>Ni nU w
noncomputable def uV(K:b5):Prop:=∃p,ri K 727 [bO "after",bO "which"] (VW p) [(bO "count",.local)]
structure L2(g:cz)(after:Nat->Nat)(pd:Nat)(nU:Nat->Option Nat):Prop where
 lst:∃jF aH k,(∀β,g.dQ.le β->β.ad[pd]? =C (jF,jF))/\g.h₀.get? jF=C (listOf aH k)/\∀i,i<4->∃t,aH[i]? =C (.int (after i:Int) t)
 cnt:∀w v,nU w=C v->hW after 99 w=v
theorem V1{pd w:Nat}{nU:Nat->Option Nat}(O:g.Ok)(F:uV g.K)(Ch:L2 g after pd nU)(U:c.Ok g dep)(dO:dep<300)(R:bL (a7 β) [.r pd,.i (.lit (.ofNat w))] aH):cT g c β (lx (Ni nU w)) (jG g c (.ref 727) aH) a7:=by
 (refine bG F λp hG=>?_;try clear F);refine Hj O U dO hG (aS (by kernel_rfl)) R R.length (λI I=>rfl) λbI cL jK av st s m r ek V H ei qn eV dY e Q E aq=>omap e λv Y4 e=>?_;have gI:=dY (bO "count",.local) (.head _);refine kh Ch.lst λjF aH k eG fB qy=>?_;obtain(⟨cJ,hP,Ui,ahc,cB,a9⟩):=qn (bO "after",.r pd) (.head _);obtain(⟨cY,ll,z,tz,el,bf⟩):=qn (bO "which",.i (.lit (.ofNat w))) (.tail _ (.head _));cases(eG av H.ghost).symm.trans cB;(obtain J:=aT el;clear el;subst J);subst a9;subst bf;have yC:jF≠cL.locals:=λe=>gy (ek.iX.symm.trans (V.loc▸e▸ek.base _ _ fB));obtain aX:s.heap.IsList jF aH:=qZ (H.toSatO.h₀ ek _ _ fB);refine jm (AD (nQ (Ar gI (show kT _ _ _ from ei) (λdr yS yY=>?_) (G V.kind rfl))));refine jm (wpAny_While ?_);obtain vG:dr.IsList jF aH:=by(refine aU aX λo a b=>?_;try clear aX);exact⟨o,yY.extBut _ _ yC a,b⟩
 refine V0 V.kind gI (eV _ (.tail _ (.head _))) (eV _ (.head _)) qy yC 99 0 w _ _ _ tz s.toks rfl (show kT _ _ _ from yS) ((if_neg (aS (by kernel_rfl))).trans ll) (if_pos rfl) ((if_neg (aS (by kernel_rfl))).trans hP) (show pG _ _ _ from vG) λay cX jP ui dT cG fQ=>jm (uz (hE (hS V.kind gI (show kT _ _ _ from dT) cG ?_) (by kernel_rfl)));obtain ext:lN bI.L s.heap ay:=λb o aD e=>fQ b o (V.loc▸aD) (yY.extBut b o (V.loc▸aD) e);subst e;refine aq _ _ av (.refl _) ⟨H.toSatO.local (fS:=[]) ek V.apart ext,H.os,jP,V.loc▸dT,λx v e=>gy e⟩ ⟨_,ui,?_,rfl⟩;(refine G (uJ _) (G (Ch.cnt w v Y4) ?_));rfl
theorem VZ{pd:Nat}{nU:Nat->Option Nat}(O:g.Ok)(F:uV g.K)(Ch:L2 g after pd nU):fu g (Gn nU pd):=
 H8 λc dep β aH x aK U hd R aw=>cu aw λq aq aw=>cu aw λna aa aw=>cu aw λw af aw=>omap aw λI aJ aw=>by subst aw;rw[um aq,ue aa,pf af,d0 (my aJ)] at R;exact V1 O F Ch U (sv hd (aS rfl)) R
end
noncomputable def acL(p:Nat->cq):List Stmt:=[.Assign [.Name "row" (p 0)] (.BinOp (.Call (.Name "list" (p 1)) [.Name "known" (p 2)] [] (p 3)) .Add (.List [.Constant (.str "none") 0 (p 4)] (p 5)) (p 6)) (p 7),
 .Return (C (.Subscript (.Name "row" (p 8)) (.Call (.Name "_law_draw" (p 9)) [.Name "bag" (p 10),.Call (.Name "len" (p 11)) [.Name "row" (p 12)] [] (p 13)] [] (p 14)) (p 15))) (p 16)]
structure xN(K:b5):Prop where
 fn:∃p,ri K 741 [bO "bag",bO "known"] (acL p) [(bO "row",.local),(bO "list",.globalImplicit),(bO "_law_draw",.globalImplicit),(bO "len",.globalImplicit)]
 lst:lI K ik "list"=C none
 draw:lI K ik "_law_draw"=C (C (.ref 713))
theorem boot_list:AI "list"=C (.type "list"):=by kernel_rfl
theorem P5(e9:(aA.map (·.1)).Nodup)(aa:old.map (·.1)<+:aA.map (·.1))(af:∀k,(∃e:ag×V,e∈au/\e.1.val β=C (cs k))\/a0 aA k=a0 old k)(aJ:∀e:ag×V,e∈au->∀l,e.1.val β=C l->a0 old (aR l)≠none):aA.map (·.1)=old.map (·.1):=by
 (refine bG aa λt ff=>?_;try clear aa);induction t using eo with
 |nil=>(refine G (bW ff) ?_;exact G (lM _) rfl)
 |cons k r=>
  exfalso;have aw:k∈aA.map (·.1):=by refine G (bW ff) ?_;simp
  have uo:∀{l:List (aM×aB)}{k:aM},a0 l k≠none↔k∈l.map (·.1):=λ{l k}=>by
   unfold a0;rw[Ne,KS,K6];constructor
   .intro h;refine Tz λaw=>h λx ak=>?_;simp only[decide_eq_true_eq];intro e;exact aw (G (bW e) (kU ak))
   .intro h q;exact aU (kY.mp h) λx ak e=>q x ak (by simp[e])
  obtain this:k∈old.map (·.1):=by
   rcases af k with⟨e,he,aX⟩|h
   .obtain this:=aJ e he _ aX;rw[hk] at this;exact uo.mp this
   .exact uo.mp (G (bW h) (uo.mpr aw))
  rw[<-ff,List.nodup_append] at e9;exact e9.2.2 k this k (.head _) rfl
noncomputable def Dy(D:bo->Int->Option gO)(iB kL fg:Nat)(fA:List ag)(nY:Nat->Option ag)(nb:Nat)(st:St):p0 V:=(qH st kL).bind λau=>(k_ (o8 st.ar st.aC au fA)).bind λI=>
 (qa D iB nb (.ofNat (fg+1)) st).bind λr=>(pe r.1).bind λi=>(nY i).map λcg=>(.s cg,r.2)
structure A2(g:cz)(aP:List (aM×aB))(kL fg:Nat)(fA:List ag)(nY:Nat->Option ag):Prop where
 addr:∃d6,(∀β,g.dQ.le β->β.ad[kL]? =C (d6,d6))/\g.base d6=C aP
 len:fg=aP.length
 eS:aP.length<=100000
 seen:∀β,g.dQ.le β->∀k∈fA,∃l,ag.val β k=C l/\a0 aP (aR l)≠none
 txt:∀β,g.dQ.le β->∀i cg,nY i=C cg->(∀k,(aP.map (·.1))[i]? =C k->ag.val β cg=C (cs k))/\(i=aP.length->ag.val β cg=C (cs "none"))
noncomputable def bc.more(c:bc)(D:az)(o:cj):bc:={c with P:=λa=>if a=D then C o else c.P a}
variable{kL fg:Nat}{fA:List ag}{nY:Nat->Option ag}{cg:ag}
section
variable{c:bc}{D:az}{o:cj}
theorem bc.C6(jN:c.gV D){a:az}{y:cj}(e:c.P a=C y):(c.more D o).P a=C y:=by show(if a=D then C o else c.P a)=_;exact G (if_neg (λz=>by rw[z,jN.1] at e;exact bK e)) e
theorem bc.Ok.more(U:c.Ok g dep)(jN:c.gV D):(c.more D o).Ok g dep:=
 ⟨λa y e=>bc.C6 jN (U.base a y e),U.frames,U.here,λx ak=>⟨by
  show(if x.1=D then C o else c.P x.1)=none;exact G (if_neg (jN.2.2 x ak)) ((U.hd x ak).1),(U.hd x ak).2⟩,by show(if c.L=D then C o else c.P c.L)=none;exact G (if_neg (λz=>jN.2.1 z.symm)) U.iX,U.depth,U.units,U.calm,U.dep⟩
theorem SatO.more{st:St}(H:SatO g c st β h)(jN:c.gV D)(hh:h.objs.size<=D)(k:∀b x,h.get? b=C x->ay.get? b=C x)(e:ay.get? D=C o):SatO g (c.more D o) st β ay:=by
 refine bG H.objs λf hf=>⟨λa y q=>?_,λx ak=>?_,⟨f,λn own y q=>?_⟩,H.len,H.facts,H.ghost⟩
 .replace q:(if a=D then C o else c.P a)=C y:=q;split at q
  .rename_i z;(obtain J:=aT q;clear q;subst J);exact G z e
  .exact k _ _ (H.keep a y q)
 .exact bG (H.cx x ak) λdd q=>⟨dd,k _ _ q⟩
 .obtain(⟨a,d,aa,af,aJ⟩):=hf n own y q;refine⟨a,d,aa,?_,λbx=>?_⟩
  .clear aJ q;induction own using bV with
   |true=>exact af.mono (.refl _) (λ_=>k a _) (λ_=>k d _)
   |false=>exact af.mono (.refl _) (λ_=>bc.C6 jN) (λ_=>bc.C6 jN)
  ·(clear q;subst bx);obtain(⟨cJ,cY,fw,gT,gM⟩):=aJ rfl;obtain(⟨⟨dw,t1⟩,dV,jh⟩):=cN.there gM (show cN g h.get? β a d y from af);obtain ne1:a≠D:=λz=>absurd (fW t1) (G z (i6.mpr hh));obtain ne2:d≠D:=λz=>absurd (fW jh) (G z (i6.mpr hh));exact⟨cJ,cY,⟨by show(if a=D then C o else c.P a)=none;exact G (if_neg ne1) fw.1,fw.2⟩,⟨by show(if d=D then C o else c.P d)=none;exact G (if_neg ne2) gT.1,gT.2⟩,gM⟩
theorem SatO.less{st:St}{h₀:gj}(H:SatO g (c.more D o) bp av h)(jN:c.gV D)(Ux:SatO g c st β h₀)(iA:β.le av)(bM:∀n y,bp.σ.get n=C (ai,y)->st.σ.get n=C (ai,y)):SatO g c bp av h:=by
 refine bG H.objs λf hf=>bG Ux.objs λrH Zk=>?_;have nn:∀a,(c.more D o).P a=none->c.P a=none:=λa e=>by
  replace e:(if a=D then C o else c.P a)=none:=e;split at e
  .exact wJ e
  .exact e
 refine⟨λa y q=>H.keep a y (bc.C6 jN q),H.cx,⟨f,λn own y q=>?_⟩,H.len,H.facts,H.ghost⟩;induction own using bV with
 |true=>obtain(⟨a,d,aa,af,aJ⟩):=hf n ae y q;refine⟨a,d,aa,af,λbx=>?_⟩;obtain(⟨cJ,cY,fw,gT,gM⟩):=aJ rfl;exact⟨cJ,cY,⟨nn _ fw.1,fw.2⟩,⟨nn _ gT.1,gT.2⟩,gM⟩
 |false=>obtain(⟨a,d,aa,af,_⟩):=Zk n ai y (bM n y q);exact⟨a,d,a4 iA.ad aa,af.mono iA (λI e=>e) (λI e=>e),λe=>by exact c8 e⟩
theorem WW{D:bo->Int->Option gO}{st:St}{r:V×dD (Bool×O)×List b6}(w:qa D iB nb eI st=C r)(n:Nat)(y:O)(q:r.2.1.get n=C (ai,y)):st.σ.get n=C (ai,y):=
 cu w λx cy w=>cu w λI I w=>omap w λd I w=>cu cy λau I cy=>cu cy λb I cy=>cu cy λa9 I cy=>omap cy λI yO cy=>by
  subst cy;subst w;replace q:(st.σ.put cU nb (ae,.dict [(b.1,.r b.2.1),(b.2.2.1,.i a9)] none)).get n=C (ai,y):=q;rw[dD.k8 cU st.σ nb _ n (ij (bA (my yO):nb<10000000) (aS rfl))] at q;by_cases e:n=nb
  .rw[if_pos e] at q;(have J:=aT q;clear q;cases J)
  .rw[if_neg e] at q;exact q
structure Fg(ks:List aM)(arr:Array aB):Prop where
 size:arr.size=ks.length+1
 at_:∀(i:Nat) k,ks[i]? =C k->∃t,arr[i]? =C (EF k t)
 last:∃t,arr[ks.length]? =C (EF "none" t)
theorem aey{acc:Array aB}(bM:acc.size=aA.length)(h:∀(i:Nat) v,acc[i]? =C v->∃k x,aA[i]? =C (k,x)/\(strKind prog w).is k v=ae):Fg (aA.map (·.1)) (acc++#[.str "none" cX]) where
 size:=by(refine G Array.size_append (G bM (G (gB _) ?_)));rfl
 at_:=λi k e=>by
  have bN:i<acc.size:=by(refine G bM (G (bW (gB (f:=λx:aM×aB=>x.1))) ?_));exact l3 e
  refine cA (h i _ (TC bN)) λeF x a9 bf=>?_;refine bG (K5 bf) λt cC=>?_;rw[oF,a9] at e;(obtain J:=aT e;clear e;subst J);exact⟨t,by(refine G (Array.getElem?_append_left bN) ?_;refine G (TC bN) ?_;exact G cC rfl)⟩
 last:=⟨cX,by(refine G (gB _) (G (bW bM) (G (Array.getElem?_append_right (dP _)) ?_));refine G (uI _) ?_);rfl⟩
theorem acO{ab:cK}{p:Nat->cq}{st:St}{s:aN}{d6:az}{Q:aB->aN->Prop}(O:g.Ok)(dj:lI g.K ik "list"=C none)(U:c.Ok g dep)(dO:dep<300)(V:cc c ab env β)(H:SatO g c st β s.heap)
  (ei:s.heap.Ns env.locals m)(ll:m "known"=C (.ref d6))(yX:d6≠kv)(uW:s.heap.DictOf (strKind g.prog g.w) d6 aA)(eS:aA.length<=100000)(aaR:env.kindOf "known"=C .local)(jz:env.kindOf "list"=C .globalImplicit)
  (aq:∀ay D arr cX,(∀b o,s.heap.get? b=C o->ay.get? b=C o)->s.heap.objs.size<=D->ay.get? D=C (listOf arr 0)->Fg (aA.map (·.1)) arr->Q (.ref D) {s with heap:=ay,toks:=cX}):
  a5 (c9 g.prog g.w) c.A (dM (.BinOp (.Call (.Name "list" (p 1)) [.Name "known" (p 2)] [] (p 3)) .Add (.List [.Constant (.str "none") 0 (p 4)] (p 5)) (p 6)) env) Q E s:=by refine bG uW.dictAt λfm vA=>?_;have T:=H.top U O;refine qY (G ((oR (λI I I h=>by(injection h))) _ _) (b3 (mb V.kind jz (uy (V.glob▸T.g) (uN (H.fl U O) T.g dj) (V.blt▸T.b) ((T.builtins "list" (aS (by kernel_rfl))).trans boot_list) ?_) (by kernel_rfl))));refine PyProof.Rows.callWith_type1 (kS (hE (hS V.kind aaR ei ll ?_) (by kernel_rfl)));refine nN (kdl_call (kdl_dict (by simpa using yX)) (U.calm (sv dO (aS rfl))) vA (G ku (bR (by assumption) (bA rfl))) λix wU j8 VN up1 Yf items=>?_);refine List_ (kS (xd (nN (LM ?_))));have OP:(ix.push {cls:=.type "list",data:=.seq #[.str "none" wU]}).get? s.heap.objs.size=C (listOf j8 VN):=f6 _ Yf;obtain Yg:(ix.push {cls:=.type "list",data:=.seq #[.str "none" wU]}).get? ix.objs.size=C (listOf #[.str "none" wU] 0):=nP _ rfl;refine P.add_list (show IsL _ _ _ _ from OP) (show IsL _ _ _ _ from Yg) ?_ (by refine G ku ?_;show j8.size+1<=_;exact G items.1 (jk (by assumption) (bA rfl)));exact aq _ _ _ _ (λb o e=>f6 _ (f6 _ (up1 b o e))) (kq (fW OP)) (nP _ rfl) (aey items.1 items.2)
theorem aaT{st:St}{s:aN}(nZ:A2 g aP kL fg fA nY)(H:Sat g c st β s)(tF:qH st kL=C au)(hs:o8 st.ar st.aC au fA=ae):
  ∃d6 aA,(∀β,g.dQ.le β->β.ad[kL]? =C (d6,d6))/\d6≠kv/\s.heap.DictOf (strKind g.prog g.w) d6 aA/\aA.map (·.1)=aP.map (·.1):=by refine aU nZ.addr λd6 eG fB=>bG (Rv tF) λop q=>bG H.objs λf hf=>?_;obtain(⟨a,d,bZ,c5,_⟩):=hf kL ae _ q;cases(eG β H.ghost).symm.trans bZ;obtain(⟨_,yX,o,aA,g1,g2,g3,eg,gv,_⟩):=(show cN g s.heap.get? β d6 d6 (.dict au (C op)) from c5);refine a3 (gv.2 aP fB) λpre val=>?_;have uW:=vo (g:=g) g1 g2;refine bG uW.dictAt λfm vA=>(i3 d6 aA eG yX uW (P5 (β:=β) vA.nodup pre val λe he l aX=>aU (vW H.facts hs (λk aw=>(nZ.seen β H.ghost k aw).imp λI x=>x.1) e he l aX) λk aw Zu=>aU (nZ.seen β H.ghost k aw) λa_ a b=>?_));cases Zu.symm.trans a;exact b
theorem aez{ks:List aM}{i:Nat}{arr:Array aB}(nZ:A2 g aP kL fg fA nY)(l:g.dQ.le β)(H5:nY i=C cg)(bN:i<=aP.length)(R:Fg ks arr)(e:ks=aP.map (·.1)):∃l t,ag.val β cg=C l/\arr[i]? =C (.str (aR l) t):=by
 subst e;refine a3 (nZ.txt β l i cg H5) λt1 jh=>?_;rcases Nat.lt_or_eq_of_le bN with h|h
 .exact bG (qg (gB (f:=λx:aM×aB=>x.1) (as:=aP)) h) λk aw=>bG (R.at_ i k aw) λt ff=>(gi (cs k) t (t1 k aw) (G (hk _) ff))
 .refine bG R.last λt ff=>?_;rw[gB,<-h] at ff;exact(gi _ t (jh h) (G (hk _) ff))
theorem acP{D:bo->Int->Option gO}(O:g.Ok)(F:pR g.K)(xD:xN g.K)(Do:uX g zs iB D)(nZ:A2 g aP kL fg fA nY)(U:c.Ok g dep)(dO:dep<240)(R:bL (a7 β) [.r nb,.r kL] aH):
  cT g c β (lx (Dy D iB kL fg fA nY nb)) (jG g c (.ref 741) aH) a7:=by
 refine bG xD.fn λp hG=>Hj O U (sv dO (aS rfl)) hG (aS (by kernel_rfl)) R R.length (λI I=>rfl) λbI env ab aW st s m r U V H ei qn eV dY e Q E aq=>cu e λau tF e=>cu e λI hs e=>cu e λr w e=>cu e λi bN e=>omap e λcg H5 e=>?_;subst e;have vY:=dY (bO "row",.local) (.head _);refine ig (aaT nZ H tF (my hs)) λd6 aA eG yX uW keys=>?_;obtain(⟨cJ,hP,B,BD,cB,a9⟩):=qn (bO "bag",.r nb) (.head _);obtain(⟨cY,ll,ahA,oV,el,bf⟩):=qn (bO "known",.r kL) (.tail _ (.head _));cases(eG aW H.ghost).symm.trans el;subst a9;subst bf;have eS:=nZ.eS;have Qa:(aA.map (·.1)).length=aP.length:=by(refine G keys ?_;exact G (gB _) rfl)
 refine jm (AD (acO O xD.lst U (sv (Nat.succ_lt_succ dO) (aS rfl)) V H.toSatO ei ll yX uW (by(refine G (bW (gB (f:=λx:aM×aB=>x.1))) (G Qa ?_));exact eS) (eV _ (.tail _ (.head _))) (dY (bO "list",.globalImplicit) (.tail _ (.head _))) λf7 gO arr wU up O0 Yh row=>?_));have jN:bI.gV gO:=.Dr U H.toSatO H.loc O0;refine Ar vY (show kT _ _ _ from ei.keeps up) (λiP Cf Pt=>?_) (G V.kind rfl);have AX:SatO g (bI.more gO (listOf arr 0)) {st with loc:=[]} aW iP:=(H.toSatO.more jN O0 up Yh).local (fS:=[]) (U.more jN) V.apart (by rw[V.loc] at Pt;exact Pt.extBut);have m_:=AX.top (U.more jN) O;have xU:=AX.fl (U.more jN) O;obtain aa5:iP.IsList gO arr:=qZ (n:=0) (AX.keep gO _ (if_pos rfl));have zy:(λz=>if z=bO "row" then C (lF gO) else m z) (bO "row")=C (.ref gO):=if_pos rfl;obtain(⟨DA,bF,fU,fd,gb,as,an,ds,bE,_⟩):=F.fn;have Sw:arr.size=aP.length+1:=by exact G row.size (G Qa rfl)
 refine jm (uz (q1 (hE (hS V.kind vY (show kT _ _ _ from Cf) zy ?_) (by kernel_rfl))));refine G ((oR (λI I I h=>by(injection h))) _ _) (b3 (mb V.kind (dY (bO "_law_draw",.globalImplicit) (.tail _ (.tail _ (.head _)))) (uC (V.glob▸m_.g) (mg_of xU m_.g xD.draw) ?_) (by kernel_rfl)));refine callWith_def (o:=⟨bF,fU,.func fd,gb⟩) (fd:=fd) rfl (kS (hE (hS V.kind (eV _ (.head _)) (show kT _ _ _ from Cf) ((if_neg (aS (by kernel_rfl))).trans hP) ?_) (by kernel_rfl)));refine kS (G ((oR (λI I I h=>by(injection h))) _ _) (b3 (mb V.kind (dY (bO "len",.globalImplicit) (.tail _ (.tail _ (.tail _ (.head _))))) (uy (V.glob▸m_.g) (uN xU m_.g F.len) (V.blt▸m_.b) ((m_.builtins "len" (aS (by kernel_rfl))).trans boot_len) ?_) (by kernel_rfl))));refine PyProof.Rows.callWith_builtin1 (kS (hE (hS V.kind vY (show kT _ _ _ from Cf) zy ?_) (by kernel_rfl)));refine nN (EB (show pG _ _ _ from aa5) (qt (eJ Sw) (jk (Nat.succ_le_succ eS) (bA rfl))) (nN ⟨xU _ _ bE,?_⟩));have L8:∀t,Sat g (bI.more gO (listOf arr 0)) {st with loc:=[]} aW {s with heap:=iP,toks:=t}:=λt=>⟨AX,H.os,_,(show iP.Ns bI.L _ from V.loc▸Cf),λx v e=>gy e⟩;obtain aw:=N6 (nb:=nb) (eI:=.ofNat (fg+1)) (aH:=[.ref B,.int (arr.size:Int) (wU+1+1)]) O F Do (U.more jN) (sv (Nat.succ_lt_succ dO) (aS rfl)) (.cons ⟨B,BD,cB,rfl⟩ (.cons ⟨_,_,rfl,by(refine G Sw (G nZ.len ?_));rfl⟩ .nil)) aW {st with loc:=[]} _ (.refl _) (L8 (wU+1+1+1));obtain n9:lx (qa D iB nb (.ofNat (fg+1))) {st with loc:=[]}=.ok r.1 (wz {st with loc:=[]} r):=by
  unfold lx;exact G (show qa D iB nb (.ofNat (fg+1)) {st with loc:=[]}=C r from w) rfl
 unfold At at aw;rw[n9] at aw;obtain tK:=λQ E h=>sx (aw Q E h);dsimp only;refine tK _ _ λa jg av l S q=>?_;rw[pf bN] at q;(refine cA q λz tz Ot ja=>?_;try clear q);(obtain J:=aT Ot;clear Ot;subst J);subst ja;have Qb:jg.heap.IsList gO arr:=qZ (n:=0) (S.keep gO _ (if_pos rfl));obtain(⟨_,_,_,_,nn,_,W,_⟩):=N3 Do (U.more jN) (L8 s.toks) w;refine a3 (tx (a:=pq zs (nn+1)) W.pos) λI dA=>?_;obtain pk:(pq zs (nn+1)).fmod (pI (fg+1))=pI i:=W.lit _ (pf bN);rw[pk] at dA;have PE:i<=aP.length:=by exact G (bW nZ.len) (jn.mp (gk dA (uH (ux (fg:Int) 1))))
 refine cA (aez nZ S.ghost H5 PE row keys) λa_ dC a9 bf=>mP (show pG _ _ _ from Qb).typeIs xg.lookup (Eh (show pG _ _ _ from Qb) (kV i) (qt PE (jk eS (bA rfl))) (show arr[(i:Int).toNat]? =_ by exact G (Lc _) bf) ?_) (px rfl _ _);exact aq _ _ av l ⟨S.toSatO.less jN H.toSatO l (WW w),S.os,S.loc⟩ ⟨a_,dC,a9,rfl⟩
noncomputable def ahM(D:bo->Int->Option gO)(iB kL fg:Nat)(fA:List ag)(nY:Nat->Option ag):gW:=yV 741 240 λaK=>(oy aK).bind λq=>q.1.dv.bind λnb=>q.2.dv.bind λDg=>(k_ (cw Dg kL)).map λI=>Dy D iB kL fg fA nY nb
end
theorem aaW{a b:List (aM×aB)}(h:a.map (·.1)=b.map (·.1))(e9:(a.map (·.1)).Nodup)(bJ:∀k,a0 a k=a0 b k):a=b:=by
 induction a generalizing b with
 |nil=>exact(T5.mp h.symm).symm
 |cons p a bj=>
  induction b using eo with
  |nil=>exact ade h
  |cons q b=>
  obtain(⟨k,v⟩):=p;obtain(⟨eF,gA⟩):=q;obtain aa:k=eF:=(qU h).1;have af:=(qU h).2;subst aa;rw[j4,jD] at e9;obtain ey:=bJ k;rw[lE,lE,if_pos rfl,if_pos rfl] at ey;(have J:=aT ey;clear ey;(clear h;subst J));have no:∀{l:List (aM×aB)},k∉l.map (·.1)->a0 l k=none:=λ{l} h=>by unfold a0;(refine gN KS (gN K6 ?_));intro x ak e;exact h (G (bW (show x.1=k by simpa using e)) (kU ak))
  rewrite[bj af e9.2 λx=>?_]
  .rfl
  by_cases e:k=x
  .subst e;(refine G (no e9.1) (G (no (G (bW af) e9.1)) ?_);with_reducible rfl)
  .obtain this:=bJ x;rw[lE,lE,if_neg e,if_neg e] at this;exact this
noncomputable def P4(ah:cW)(k:Nat):Bool:=Cx 0 ah.ad 27&&CL ah 0 k
noncomputable def zf(st:St)(fM:List (ag×Nat)):Bool:=(qH st 3).any λau=>(qH st 6).any λks=>(kK au).isSome&&(o8 st.ar st.aC ks (fM.map (·.1))&&fM.all (λx=>uq st.ar st.aC x.1 x.2 ks))
noncomputable def pB(p:b4):b4:={p with ar:=[anyI,(100,20000,C 0),(cI p.ar 2).getD dZ,(11,20000,C 0),(0,20000,C 0),(0,10000,none)]++p.ar.drop 6}
noncomputable def hQ(o:Out dj)(ah:cW)(p:b4)(k:Nat)(fM:List (ag×Nat)):Bool:=match o with
 |.ok .next st=>P4 ah k&&h1 ah dS st (pB p)&&zf st fM
 |_=>ai
theorem GN{o:cj}(hd:o.IsDictOf (strKind prog w) aA)(R:Rest (C old) β aA au)(aa:∀e:ag×V,e∈au->∀l,e.1.val β=C l->a0 old (aR l)≠none/\a0 aA (aR l)=a0 old (aR l)):aA=old:=by
 refine a3 (R old rfl) λpre val=>?_;have e9:(aA.map (·.1)).Nodup:=by(refine t9 hd λI I I I I I h=>?_;try clear hd);exact h
 obtain keys:=P5 e9 pre val λe he l aX=>(aa e he l aX).1;refine aaW keys e9 λk=>?_;rcases val k with⟨e,he,aX⟩|h
 .obtain this:=(aa e he _ aX).2;rw[hk] at this;exact this
 .exact h
structure oI(g br:cz):Prop where
 p:br.prog=g.prog
 w:br.w=g.w
 up:∀b x,g.h₀.get? b=C x->br.h₀.get? b=C x
 S:g.S<=br.S
theorem dg.k9{e:b4}(bu:dg g e β)(a6:oI g br)(h:DC e=ae):dg br e β:=bu.re h a6.p a6.w a6.up a6.S
variable{fM:List (ag×Nat)}
theorem SM{X:gE}{c:bc}{s:aN}(T:bP X p g c dQ s env fn aP at_ N)(l:dQ.le aY)(H:Sat g c bp aY ao)(ix:∀i,i<27/\i≠9->cI ah.ad i=C i)(ba:CL ah 0 k=ae)(af:h1 ah dS bp (pB dJ)=ae)(aJ:zf bp fM=ae)
  (nj:lW 10000 (pB dJ).ar dJ.ar=ae)(bt:g.S+dS<=9000)(hs:∀x:ag×Nat,x∈fM->∃c L,x.1.val aY=C [c]/\aY.ad[x.2]? =C L/\a0 aP (aR [c])=C (.ref L.1)):
  ∃br bI,(∀c7,(pull ah aY).ad[9]? =C c7->bP {X with c7:=c7} dJ br bI (pull ah aY) ao env fn aP (at_+k) N)/\br.S=g.S+dS/\oI g br:=by
 refine mF (sb T.good.ok T.ct H af (bR bt (aS rfl))) λh₀ base hg=>?_;have F:=H.facts;exact cF aJ λau he aJ=>cF aJ λks HU aJ=>by
  refine ig (Dv H he (a4 l.ad T.gF)) λDn eN H3 B6 Ig Cq=>ig (Dv H HU (a4 l.ad T.jL)) λRi es Cg vC Cr tP=>?_;rw[T.s9] at Cq;rw[T.oP] at tP;refine bG (D9.mp (bS aJ)) λu cy=>?_;obtain mB:=bS (bC aJ);obtain hY:=bC (bC aJ);obtain cC:=GN B6 Cq λe he=>by rw[lq cy] at he;exact nomatch he
  obtain GY:=GN vC tP λe he a_ aX=>by
   refine aU (vW F mB (λk aw=>by(refine aU (kY.mp aw) λy bT J=>?_;(clear aw;subst J));exact cA (hs y bT) λc L a9 I=>⟨_,a9⟩) e he _ aX) λeF a b=>?_
   (refine aU (kY.mp a) λy bT J=>?_;(clear a;subst J));refine fD (hs y bT) λc L a9 bf cC=>?_;cases b.symm.trans a9;refine aU (Ag F b (eX.mp hY y bT) Cr) λp df dx=>?_;cases bf.symm.trans df;exact⟨by exact G cC (KX _),dx.trans cC.symm⟩
  have dm:=hg.sat;have nV:=dm.facts;refine(d2 (g.re h₀ dS (pull ah aY) base) (c.re h₀) (λc7 et=>?_) rfl ⟨rfl,rfl,λb x q=>hg.up b x (T.ct.base b x q),gu _ _⟩);obtain xS:=SN (dJ:=dJ) T l hg bt ix ba (dm.bounds (ar:=dJ.ar) ⟨BI (mq:=10000) (bR bt (aS rfl)) nj nV.aE,nV.aj,nV.cd,nV.dd,nV.cn⟩) (cC▸hg.base _ _ _ H3 B6) (GY▸hg.base _ _ _ Cg vC) (G (show N+((0:Nat):Int)=N from Ex _) T.keys) (λtJ k aw=>(T.ents k aw).imp λc x=>(fi x.1 x.2.1 (x.2.2.re rfl rfl tJ (gu _ _) (λc I=>rfl) λc I=>rfl))) et;rw[show N+((0:Nat):Int)=N from Ex _] at xS;exact xS
theorem SO{X:gE}{c:bc}{s:aN}(T:bP X p g c dQ s env fn aP at_ N)(l:dQ.le aY)(H:Sat g c bp aY ao)(aa:P4 ah k=ae)(af:h1 ah dS bp (pB dJ)=ae)(aJ:zf bp fM=ae)
  (nj:lW 10000 (pB dJ).ar dJ.ar=ae)(bt:g.S+dS<=9000)(hs:∀x:ag×Nat,x∈fM->∃c L,x.1.val aY=C [c]/\aY.ad[x.2]? =C L/\a0 aP (aR [c])=C (.ref L.1)):
  ∃br bI,bP X dJ br bI (pull ah aY) ao env fn aP (at_+k) N/\br.S=g.S+dS/\oI g br:=by
 have id:∀i,i<27->cI ah.ad i=C i:=λi bN=>by obtain this:=Ip (bS aa) i bN;rw[uJ] at this;exact(f3 _ _).trans this
 exact cA (SM T l H (λi bN=>id i bN.1) (bC aa) af aJ nj bt hs) λbr bI bX r=>(gi br bI (bX _ (dz (id 9 (aS rfl)) (a4 l.ad T.hJ))) r)
noncomputable def zP(pX rl:gW):gW:=λdep f aK st=>match pX dep f aK st with
 |some o=>C o
 |none=>rl dep f aK st
theorem fu.or{pX rl:gW}(dr:fu g pX)(fz:fu g rl):fu g (zP pX rl):=λc dep β f aK aH U R aW st s aa S=>by
 obtain a:=dr c dep β f aK aH U R aW st s aa S;obtain b:=fz c dep β f aK aH U R aW st s aa S;unfold zP;unfold At at a b ⊢;dsimp only at a b ⊢;generalize q:pX dep (.c (.ref f)) aK st=aF;induction aF using b1 with
 |none=>exact b
 |some o=>rw[q] at a;exact a
noncomputable def th(l:List (Nat×Int×Int))(e:bo)(eI:Int):Option gO:=(l.find? λx=>p2 x.1 5 e&&decide (eI=x.2.1)).map λx=>.lit x.2.2
noncomputable def Rx(off:Nat)(fA:List ag)(cg:ag)(nb:Nat)(st:St):p0 V:=(qH st 6).bind λau=>(k_ (o8 st.ar st.aC au fA)).bind λI=>(N2 nb st).bind λx=>
 (k_ (cw x.1 11&&p2 off 5 x.2.1)).map λI=>(.s cg,x.2.2,st.ar)
noncomputable def Dx(off:Nat)(fA:List ag)(cg:ag):gW:=yV 741 240 λaK=>(oy aK).bind λq=>q.1.dv.bind λnb=>q.2.dv.bind λDg=>(k_ (cw Dg 6)).map λI=>Rx off fA cg nb
noncomputable def p_(l:List (Nat×Int×Int)):gW:=GV (th l) 11
noncomputable def Jy(w m:Nat)(x:Nat):Option Nat:=match cw x w with
 |true=>C m
 |false=>none
structure xI(g:cz)(β:aZ)(zs:List Int)(after:Nat->Nat)(at_:Nat)(e4 ep:az):Prop where
 MQ:β.ad[11]? =C (ep,ep)
 mr:∃aH k,g.h₀.get? ep=C (listOf aH k)/\bL (λ(z:Int) y=>∃t,y=.int z t) zs aH.toList
 eS:zs.length<=1000
 MM:β.ad[10]? =C (e4,e4)
 vb:∃aH k,g.h₀.get? e4=C (listOf aH k)/\∀i,i<4->∃t,aH[i]? =C (.int (after i:Int) t)
 oe:β.aE[5]? =C (at_:Int)
 low:at_<=9000
variable{e4 ep:az}{off:Nat}
section
variable{at_:Nat}
theorem N7(L:xI g β zs after at_ e4 ep){l:List (Nat×Int×Int)}(h:∀x:Nat×Int×Int,x∈l->x.1<=900/\0<x.2.1/\fk zs (at_+x.1+1) x.2.1=x.2.2):uX (g.pin β) zs 11 (th l) where
 cells:=by exact cA L.mr λaH k aa af=>(w3 ep aH k (λav a_=>a4 a_.ad L.MQ) aa af)
 eS:=L.eS
 draw:=λav a_ e eI r cb=>omap cb λx ak Hc=>by
  refine fO (h x (KI ak)) λaa af aJ=>?_;have q:=List.find?_some ak;obtain bf:=aS (bC q);(clear ak;subst bf);(clear cb;subst Hc);refine(l8 (x.1+at_) ?_ (bR (mS aa L.low) (aS rfl)) af (λgA e=>?_))
  .exact G (Mw (bS q)) (lU (a4 a_.aE L.oe))
  .cases e;exact G (kp x.1 at_) aJ
theorem vp(O:g.Ok)(F:pR g.K)(L:xI g β zs after at_ e4 ep){l:List (Nat×Int×Int)}(h:∀x:Nat×Int×Int,x∈l->x.1<=900/\0<x.2.1/\fk zs (at_+x.1+1) x.2.1=x.2.2):fu (g.pin β) (p_ l):=
 N5 (g:=g.pin β) (⟨O.fl,O.top,O.S,O.low⟩) F (N7 L h)
theorem VX(O:g.Ok)(F:uV g.K)(L:xI g β zs after at_ e4 ep){w m:Nat}(h:hW after 99 w=m):fu (g.pin β) (Gn (Jy w m) 10):=
 VZ (g:=g.pin β) (after:=after) (⟨O.fl,O.top,O.S,O.low⟩) F ⟨by
  exact cA L.vb λaH k aa af=>(w3 e4 aH k (λav a_=>a4 a_.ad L.MM) aa af),λx v e=>by
  unfold Jy at e;split at e
  .rename_i q;(obtain J:=aT e;clear e;subst J);exact G (d0 q) h
  ·(exact bK e)⟩
noncomputable def jR(zs:List Int)(n:Nat)(aP:List (aM×aB)):Nat:=(fk zs n (aP.length+1:Nat)).toNat
theorem aeC{c:bc}{ah:Type}{x sh:St->p0 aQ}{W:Wp ah}{R:aZ->aQ->ah->Prop}(k:∀st r,sh st=C r->x st=C r)(h:cT g c β (lx x) W R):cT g c β (lx sh) W R:=by
 intro aW st s aa H;generalize e:sh st=aF;induction aF using b1 with
 |none=>exact At.o6 (n:=180) (by unfold lx;exact G e rfl)
 |some r=>exact At.same (h aW st s aa H) (by unfold lx;exact G e (G (k st r e) rfl))
noncomputable def Dt(i:Nat)(cg:ag)(j:Nat):Option ag:=(k_ (cw j i)).map λI=>cg
theorem WZ{v:Int}{e:bo}(h:p2 k 5 e=ae):th [(k,eI,v)] e eI=C (.lit v):=by unfold th;refine G (List.find?_cons_of_pos (by show(p2 k 5 e&&decide (eI=eI))=ae;(refine G h (G (decide_eq_true rfl) ?_));rfl)) ?_;rfl
theorem acM{i:Nat}{st:St}{r:V×dD (Bool×O)×List b6}(h:Rx off fA cg nb st=C r):Dy (th [(off,((fg+1:Nat):Int),(i:Int))]) 11 6 fg fA (Dt i cg) nb st=C r:=
 cu h λau tF h=>cu h λI aw h=>cu h λx ak h=>omap h λI gx h=>by
  have gx:=my gx;obtain d:qa (th [(off,((fg+1:Nat):Int),(i:Int))]) 11 nb (.ofNat (fg+1)) st=C (.i (.lit (i:Int)),x.2.2,st.ar):=by unfold qa;(refine G ak (G (AA _ _) (G (bS gx) ?_)));show(th _ x.2.1 ((fg+1:Nat):Int)).map _=_;exact G (WZ (bC gx)) rfl
  unfold Dy;(refine G tF (G (AA _ _) (G aw (G (AA _ _) (G d (G (AA _ _) ?_))))));show(Dt i cg i).map _=_;unfold Dt;exact G (LB _) (congrArg C h)
theorem acN(O:g.Ok)(F:pR g.K)(xD:xN g.K)(L:xI g β zs after at_ e4 ep){d6:az}(ZH:off<=900)(Zs:β.ad[6]? =C (d6,d6))(aD:g.base d6=C aP)(eS:aP.length<=100000)(hs:∀k∈fA,∃l,ag.val β k=C l/\a0 aP (aR l)≠none)
  (bx:(∀k,(aP.map (·.1))[jR zs (at_+off+1) aP]? =C k->ag.val β cg=C (cs k))/\(jR zs (at_+off+1) aP=aP.length->ag.val β cg=C (cs "none"))):fu (g.pin β) (Dx off fA cg):=by
 obtain UL:(g.pin β).Ok:=⟨O.fl,O.top,O.S,O.low⟩;have pos:(0:Int)<((aP.length+1:Nat):Int):=mU.mpr (pE _);obtain D:=N7 L (l:=[(off,((aP.length+1:Nat):Int),((jR zs (at_+off+1) aP:Nat):Int))]) λx ak=>by obtain rfl:=eu.mp ak;exact(fi ZH pos ((Av (tx pos).1).symm))
 obtain acK:A2 (g.pin β) aP 6 aP.length fA (Dt (jR zs (at_+off+1) aP) cg):=⟨(bh d6 (λav a_=>a4 a_.ad Zs) aD),rfl,eS,λav a_ k aw=>(hs k aw).imp λl x=>⟨ag.hy a_ x.1,x.2⟩,λav a_ j Rp e=>omap e λI q cf=>by cases d0 (my q);(clear e;subst cf);exact⟨λk aw=>ag.hy a_ (bx.1 k aw),λaw=>ag.hy a_ (bx.2 aw)⟩⟩
 exact H8 λc dep β aH x aK U hd R aw=>cu aw λq aq aw=>cu aw λnb aa aw=>cu aw λDg af aw=>omap aw λI aJ aw=>by subst aw;rw[um aq,ue aa,ue af,d0 (my aJ)] at R;exact aeC (λst r h=>acM h) (acP UL F xD D acK U hd R)
end
noncomputable def vP(gL:b6):List b6:=[anyI,(100,10000,C 0),gL,(11,10000,C 0),(0,10000,C 0),(0,9000,none)]
noncomputable def fy(gL:b6)(aC:List bB):b4:=⟨Jz J0 (.dict [] (C [])) (.dict [] (C [])),vP gL,aC,0,Jd++([("name",sc 0)]:Loc)⟩
structure ky where
 p:b4
 jy:List (List Nat×List ag×b4)
 fM:List (ag×Nat)
 d6:List ag
noncomputable def ky.v(x:ky):A6:=⟨[],[],[],[],x.fM.map λe=>(e.1,aI e.2),x.d6⟩
noncomputable def R8(st:St)(x:ky):St:=pv st 6 ae x.v.fM x.d6
noncomputable def ky.st(x:ky):St:=R8 (x.jy.foldl hO x.p.st) x
noncomputable def j7:b4:=⟨[fix .gone],[],[],0,[]⟩
noncomputable def jI(z:Int):b4:=⟨[fix (.tup [aE 0,.u,.u])],[(z,z,none)],[],0,[]⟩
noncomputable def u4(m:Nat):b4:=⟨[fix (.tup [aE 0,li m,cZ ""])],[ur],[],0,[]⟩
noncomputable def Mm:b4:=⟨[fix (.tup [aE 0,li 1,sc 0])],[ur],[bD],0,[]⟩
noncomputable def iE(K:b5)(H:gW)(x:ky):Out dj:=(er K H 300).xs (lax K) (((ea K).drop 1).take 2) x.st
noncomputable def ps(m:Nat):b6:=(1,(match c6 m 5 with|true=>(m:Int)-1|false=>5),none)
noncomputable def p7(gL:b6):ky:=⟨fy gL [bD],[],[],[bE]⟩
noncomputable def k2(gL:b6):ky:=⟨fy gL [bD],[([],[],j7)],[(bE,27)],[]⟩
noncomputable def vh:ky:=⟨fy dZ [bD],[],[],[bE,de "none"]⟩
noncomputable def vi:ky:=⟨fy dZ [bD],[([],[],j7)],[(bE,27)],[de "none"]⟩
noncomputable def rz(z:Int):ky:=⟨fy dZ [bD],[([],[],jI z)],[(bE,27)],[]⟩
noncomputable def nf(u:List ag×b4)(aC:List bB):ky:=⟨fy dZ ([bD,bD]++aC),[([],u.1,u.2)],[(bw,27)],[bE]⟩
noncomputable def oO(u:List ag×b4):ky:=⟨fy dZ [bD,bD],[([],u.1,u.2),([],[],j7)],[(bw,27),(bE,28)],[]⟩
noncomputable def Vz:List Nat:=[0,1,2,3,4,5,6,7,8,9,10,11,12,13,14,15,16,17,18,19,20,21,22,23,24,25,26]
noncomputable def hF(tail:List Nat)(k:Nat)(aE:List bo)(aj:List ag):cW:=⟨Vz++tail,[.aL 0 ai 0,.aL 0 ai 1,.aL 0 ai 2,.aL 0 ai 3,.aL 0 ai 4,.aL (k:Int) ai 5]++aE,aj,[]⟩
noncomputable def lc(w:Nat):ag:=[.lit [97+w]]
noncomputable def yT(way:Int)(w m:Nat):gW:=zP (Gn (Jy w m) 10) (p_ [(0,5,way),(1,4,(w:Int))])
noncomputable def qp(w:Nat)(fM:List ag)(cg:ag):gW:=zP (Dx 2 fM cg) (p_ [(0,5,3),(1,4,(w:Int))])
noncomputable def tN(fM:List ag)(cg:ag):gW:=zP (Dx 1 fM cg) (p_ [(0,5,4)])
noncomputable def H7:gW:=p_ [(0,5,2)]
noncomputable def Ai:List Int:=[0,1]
noncomputable def four:List Nat:=[0,1,2,3]
noncomputable def wa:List Nat:=[1,2,3,4]
noncomputable def zu:List Nat:=[2,3,4,99]
noncomputable def qR:List Int:=[-1,0,1,2,3]
noncomputable def FY(K:b5):Bool:=Ai.all λway=>four.all λw=>wa.all λm=>hQ (iE K (yT way w m) (p7 (kk m))) (hF [29,27,28,30] 2 [.lit (w:Int)] [lc w,bE]) (k7 (kk m) (sc 1) (.tup m ey) [dE,bD]) 2 []
noncomputable def FX(K:b5):Bool:=Ai.all λway=>four.all λw=>wa.all λm=>hQ (iE K (yT way w m) (k2 (kk m))) (hF [30,28,29] 2 [] [lc w,bE]) (k7 (kk m) (sc 1) .no [dE,bD]) 2 [(bE,27)]
noncomputable def FZ(K:b5):Bool:=Ai.all λway=>four.all λw=>zu.all λm=>hQ (iE K (yT way w m) (p7 (ps m))) (hF [29,27,28] 2 [] [lc w]) (k7 dZ .u .no [dE]) 2 []
noncomputable def F0(K:b5):Bool:=Ai.all λway=>four.all λw=>zu.all λm=>hQ (iE K (yT way w m) (k2 (ps m))) (hF [30,28,29] 2 [] [lc w]) (k7 dZ .u .no [dE]) 2 [(bE,27)]
noncomputable def F_(K:b5):Bool:=hQ (iE K H7 (p7 dZ)) (hF [29,27,28,30] 1 [.lit (-1)] [bE]) (Dz (.tup 1 ey)) 1 []
noncomputable def F9(K:b5):Bool:=hQ (iE K H7 (k2 dZ)) (hF [30,28,29] 1 [] [bE]) (Dz .no) 1 [(bE,27)]
noncomputable def F1(K:b5):Bool:=four.all λw=>hQ (iE K (qp w [] (de "none")) vh) (hF [31,27,30,29,28] 3 [] [lc w]) (eB .u (cZ "none") .no [dE]) 3 []
noncomputable def F2(K:b5):Bool:=four.all λw=>hQ (iE K (qp w [bE] (de "none")) vi) (hF [32,28,31,30,29] 3 [] [lc w]) (eB .u (cZ "none") .no [dE]) 3 [(bE,27)]
noncomputable def F4(K:b5):Bool:=four.all λw=>hQ (iE K (qp w [bE] bE) (rz (w:Int))) (hF [32,28,31,30,29] 3 [] [lc w,bE]) (eB (sc 1) (sc 1) .no [dE,bD]) 3 [(bE,27)]
noncomputable def F8(K:b5):Bool:=four.all λw=>qR.all λz=>match decide (z=(w:Int)) with
 |true=>ae
 |false=>hQ (iE K (qp w [bE] bE) (rz z)) (hF [32,28,31,30,29] 3 [] [lc w,bE]) (eB .u (sc 1) .no [dE,bD]) 3 [(bE,27)]
noncomputable def F5(K:b5):Bool:=four.all λw=>hQ (iE K (qp w [bw] bw) (nf ([],jI (w:Int)) [])) (hF [32,28,31,30,29,33] 3 [.lit (-1)] [lc w,bw,bE]) (eB (sc 2) (sc 1) (.tup 1 (sc 1)) [dE,bD,bD]) 3 [(bw,27)]
noncomputable def F3(K:b5):Bool:=four.all λw=>hQ (iE K (qp w [bw,bE] bw) (oO ([],jI (w:Int)))) (hF [33,29,32,31,30] 3 [] [lc w,bw,bE]) (eB (sc 2) (sc 1) .no [dE,bD,bD]) 3 [(bw,27),(bE,28)]
noncomputable def F6(K:b5):Bool:=four.all λw=>qR.all λz=>match decide (z=(w:Int)) with
 |true=>ae
 |false=>hQ (iE K (qp w [bw] bw) (nf ([],jI z) [])) (hF [32,28,31,30,29] 3 [] [lc w,bw]) (eB .u (sc 1) .no [dE,bD]) 3 [(bw,27)]
noncomputable def F7(K:b5):Bool:=four.all λw=>qR.all λz=>match decide (z=(w:Int)) with
 |true=>ae
 |false=>hQ (iE K (qp w [bw,bE] bw) (oO ([],jI z))) (hF [33,29,32,31,30] 3 [] [lc w,bw]) (eB .u (sc 1) .no [dE,bD]) 3 [(bw,27),(bE,28)]
noncomputable def FV(K:b5):Bool:=hQ (iE K (tN [] (de "none")) vh) (hF [28,27] 2 [] []) (lT .u (cZ "none") .no []) 2 []
noncomputable def FW(K:b5):Bool:=hQ (iE K (tN [bE] (de "none")) vi) (hF [29,28] 2 [] []) (lT .u (cZ "none") .no []) 2 [(bE,27)]
noncomputable def FT(K:b5):Bool:=hQ (iE K (tN [bE] bE) ⟨fy dZ [bD],[([],[],j7)],[(bE,27)],[]⟩) (hF [29,28] 2 [] [bE]) (lT (sc 0) (sc 0) .no [bD]) 2 [(bE,27)]
noncomputable def Bl(K:b5):Bool:=wa.all λm=>hQ (iE K (tN [bw] bw) (nf ([],u4 m) [])) (hF [29,28,27] 2 [.aL 0 ai 6] [bw,bE]) (lT (sc 1) (sc 0) (.tup m ey) [bD,bD]) 2 [(bw,27)]
noncomputable def FU(K:b5):Bool:=hQ (iE K (tN [bw] bw) (nf ([c3],Mm) [bD])) (hF [29,28,27] 2 [.aL 0 ai 6] [bw,bE,c3]) (lT (sc 1) (sc 0) (.tup 1 (sc 2)) [bD,bD,bD]) 2 [(bw,27)]
noncomputable def FR(K:b5):Bool:=hQ (iE K (tN [bw,bE] bw) (oO ([],j7))) (hF [30,29] 2 [] [bw,bE]) (lT (sc 1) (sc 0) .no [bD,bD]) 2 [(bw,27),(bE,28)]
section
variable{ro:Model}
theorem XS{b:List eQ}(a:List eQ):∀(oG:Ctx)(I:oG.In A)(p:cq)(s:aN),Sem.wp ro oG (cH a env) (λf I ao=>match f with|.next=>a5 ro A (cH b env) Q E ao|f=>Q f ao) (λe I ao=>E e ao) p s->
  Sem.wp ro oG (cH (a++b) env) (λf I ao=>Q f ao) (λe I ao=>E e ao) p s:=by
 induction a with
 |nil=>intro oG vN p s h;obtain h:a5 ro A (cH b env) Q E s:=h;exact h oG p vN
 |cons x r bj=>
  intro oG vN p s h;rw[execs_cons,Sem.wp_bind'] at h;(refine G Lg ?_;(refine G (execs_cons _ _ _) ?_;rewrite[Sem.wp_bind']));refine Sem.wp_mono ro oG _ (λf dJ ao ay=>?_) (λI I I ay=>ay) _ _ h;induction f using w_ with
  |next=>exact bj oG vN dJ ao ay
  |_=>exact ay
theorem Hf{a b:List eQ}{s:aN}(h:a5 ro A (cH a env) (λf ao=>match f with|.next=>a5 ro A (cH b env) Q E ao|f=>Q f ao) E s):a5 ro A (cH (a++b) env) Q E s:=
 λoG p vN=>XS a oG vN p s (h oG p vN)
end
theorem afq(l:List aQ):l.drop 1=(l.drop 1).take 2++l.drop 3:=by obtain this:=q7 2 (l.drop 1);rw[Eo] at this;exact this.symm
variable{hI:Nat}{j9:Int}
section
variable{X:gE}{c:bc}{s:aN}
set_option tactic.hygienic true in
theorem i1{x:ky}(T:bP X p g c β s env fn aP at_ N)(l:β.le b2)(f9:fu (g.pin b2) h3)(H:Sat g c x.st b2 s)(run:hQ (iE X.K h3 x) ah dJ k fM=ae)(nj:lW 10000 (pB dJ).ar dJ.ar=ae)(bt:g.S+dS<=9000)
  (hs:∀x:ag×Nat,x∈fM->∃c L,x.1.val b2=C [c]/\b2.ad[x.2]? =C L/\a0 aP (aR [c])=C (.ref L.1))
  (next:∀br bI aY ao,b2.le aY->bP X dJ br bI (pull ah aY) ao env fn aP (at_+k) N->br.S=g.S+dS->oI g br->dX br bI (cH ((ea X.K).drop 3) env) Q E ao):dX g c (cH ((ea X.K).drop 1) env) Q E s:=by
 have fx:=T.good.pin (β:=b2);obtain aj:=(o5 fx.ok fx.lay fx.raise f9 300).xs c (lax X.K) env b2 (((ea X.K).drop 1).take 2) T.ct.pin (T.env.le l) b2 x.st s (.refl _) H.pin;rw[show(g.pin b2).K=X.K from T.k] at aj;unfold At at aj;unfold hQ iE at run;refine aU (zL run) λbp q run=>?_;rw[q] at aj;simp only[ew] at run;(refine a3 run λJ hx=>?_;try clear run;refine a3 J λdc dA=>?_;try clear J);refine G (afq _) (Hf (aj _ E λeM ao aY a_ S R=>?_));obtain rfl:=R;obtain S:=S.wX H.ghost;refine fD (SO T (l.trans a_) S dc dA hx nj bt λx ak=>(fD (hs x ak) λc L a1 a2 cm=>(d2 c L (ag.hy a_ a1) (a4 a_.ad a2) cm))) λbr bI bX ez eA=>?_;obtain this:a5 br.M bI.A (cH ((ea X.K).drop 3) env) Q E ao:=next br bI aY ao a_ bX ez eA
 rw[bX.m,bX.a] at this;show a5 g.M c.A (cH ((ea X.K).drop 3) env) Q E ao;(refine G T.m (G T.a ?_));exact this
noncomputable def k6(st:St):Bool:=newD (st.σ.get 6)
theorem ox{st:St}{x:ky}(T:bP X p g c β s env fn aP at_ N)(l:β.le b2)(H:Sat g c st b2 s)(hf:k6 st=ae)(aw:pZ b2 aP x.v.fM x.d6):Sat g c (R8 st x) b2 s:=by
 obtain nh:st.σ.get 6=C (ae,.dict [] (C [])):=by exact C9 hf
 exact a3 aw.parts λbw c3=>J1 H (aS rfl) nh (a4 l.ad T.jL) T.oP bw c3 aw.abs
structure rn(X:gE)(env:hB)(hI:Nat)(j9:Int)(Q:fH->aN->Prop):Prop where
 T:∀ao,(∀a o,X.h0.get? a=C o->ao.heap.get? a=C o)->ao.os=X.dU.os/\ao.gens=X.dU.gens->Q (.ret (.bool ae)) ao
 N:∀ao br bI av eN es dq sV,bP X T0 br bI av ao env eN es dq sV->br.S<=hI->dq<=j9->Q .next ao
theorem rn.turn(aq:rn X env hI j9 Q)(T:bP X p g c β s env fn aP at_ N)(bt:g.S+dS<=hI)(aV:at_<=j9):gn X g c env at_ X.c7 Q where
 T:=λao k os=>aq.T ao (λa o e=>k a o (T.hl a o e)) (by(refine a3 os λaa af=>?_;try clear os);rw[T.dU] at aa af;exact⟨aa,af⟩)
 N:=λao br bI av eN es sV bX I ez I I I=>aq.N ao br bI av eN es at_ sV bX (ez▸bt) aV
theorem bP.aaS(T:bP X p g c β s env fn aP at_ N)(h:k6 p.st=ae):aP.length<=g.S:=by
 have nh:p.st.σ.get 6=C (ae,.dict [] (C [])):=by exact C9 h
 refine bG T.sat.objs λf hf=>?_;obtain(⟨fe,GC,bZ,c5,_⟩):=hf 6 ae _ nh;rw[T.jL] at bZ;(have J:=aT bZ;clear bZ;refine a3 (eD J) λbU cv=>?_;clear J;subst bU;subst cv);obtain(⟨_,_,Ri,es,Cg,vC,Cr,_,⟨_,tP⟩,eS⟩):=(show cN g s.heap.get? β X.d6 X.d6 (.dict [] (C [])) from c5);rw[T.oP] at tP;obtain rfl:=GN vC tP λe he=>(nomatch he);have:es.length<=([]:List (ag×V)).length+g.S:=eS;simpa using this
end
structure Own(X:gE)(zs:List Int):Prop where
 draw:pR X.K
 chain:uV X.K
 other:xN X.K
 mr:∃aH k,X.h0.get? X.ep=C (listOf aH k)/\bL (λ(z:Int) y=>∃t,y=.int z t) zs aH.toList
 eS:zs.length<=1000
 vb:∃aH k,X.h0.get? X.e4=C (listOf aH k)/\∀i,i<4->∃t,aH[i]? =C (.int (X.after i:Int) t)
section
variable{X:gE}{c:bc}{s:aN}
theorem Own.lists(W:Own X zs)(T:bP X p g c β s env fn aP (n:Int) N)(l:β.le b2)(low:n<=9000):xI g b2 zs X.after n X.e4 X.ep where
 MQ:=a4 l.ad T.k0
 mr:=by exact cA W.mr λaH k aa af=>(gi aH k (G (bW T.eB) (T.hl _ _ aa)) af)
 eS:=W.eS
 MM:=a4 l.ad T.j_
 vb:=by exact cA W.vb λaH k aa af=>(gi aH k (G (bW T.eB) (T.hl _ _ aa)) af)
 oe:=a4 l.aE T.oe
 low:=low
end
section
variable{X:gE}{c:bc}{s:aN}
set_option tactic.hygienic true in
theorem ae7{a b:List eQ}(T:bP X p g c β s env fn aP at_ N)(f9:fu (g.pin β) h3)(run:hQ ((er X.K h3 300).xs (lax X.K) a p.st) ah dJ k []=ae)(nj:lW 10000 (pB dJ).ar dJ.ar=ae)(bt:g.S+dS<=9000)
  (next:∀br bI aY ao,β.le aY->bP X dJ br bI (pull ah aY) ao env fn aP (at_+k) N->br.S=g.S+dS->oI g br->dX br bI (cH b env) Q E ao):dX g c (cH (a++b) env) Q E s:=by
 have fx:=T.good.pin (β:=β);obtain aj:=(o5 fx.ok fx.lay fx.raise f9 300).xs c (lax X.K) env β a T.ct.pin T.env β p.st s (.refl _) T.sat.pin;rw[show(g.pin β).K=X.K from T.k] at aj;unfold At at aj;unfold hQ at run;refine aU (zL run) λbp q run=>?_;rw[q] at aj;simp only[ew] at run;(refine a3 run λJ hx=>?_;try clear run;refine a3 J λdc dA=>?_;try clear J);refine Hf (aj _ E λeM ao aY a_ S R=>?_);obtain rfl:=R;obtain S:=S.wX T.sat.ghost;refine fD (SO T a_ S dc dA hx nj bt λx ak=>(nomatch ak)) λbr bI bX ez eA=>?_;obtain this:a5 br.M bI.A (cH b env) Q E ao:=next br bI aY ao a_ bX ez eA
 rw[bX.m,bX.a] at this;show a5 g.M c.A (cH b env) Q E ao;(refine G T.m (G T.a ?_));exact this
end
noncomputable def six:List Nat:=[0,1,2,3,4,5]
noncomputable def BR:List Int:=[0,1,2,3,4]
noncomputable def Im:List b6:=[anyI,(100,10000,C 0),dZ,(11,10000,C 0),(0,10000,C 0),(0,8000,none)]
noncomputable def A7(i:Nat):b4:=⟨Jz J0 (.dict [] (C [])) (.dict [] (C [])),Im,[],0,Jd++([("turn",li i)]:Loc)⟩
noncomputable def nameAt(i:Nat):Nat:=(cI [112,113,114,115,116,118,119] i).getD 0
noncomputable def FQ(K:b5):Bool:=six.all λi=>BR.all λd=>hQ ((er K (p_ [(0,5,d)]) 300).xs (lax K) ((ea K).take 1) (A7 i).st) (hF [] 1 [] [[.lit [nameAt (i+(d/4).toNat)]]]) (fy dZ [bD]) 1 []
noncomputable def ht(i left:Nat):Obj:={cls:=.type "range_iterator",dict:=none,data:=.fields #[q6 i,q6 left,q6 1],slots:=#[]}
theorem ID(i left:Nat):ip (ht i left):=λaK e=>by cases e;exact⟨by simp,_,rfl⟩
noncomputable def cz.iter(g:cz)(o:cj):cz:={g with raw:=λI=>o}
noncomputable def gE.iter(X:gE)(o:cj):gE:={X with raw:=λI=>o}
noncomputable def l1:O->Bool
 |.raw _=>ae
 |_=>ai
variable{dp:cj}
section
theorem cN.iter{a6:az->Option cj}{a:az}(n:l1 o=ai)(h:cN g a6 β a d o):cN (g.iter dp) a6 β a d o:=by
 induction o using MI.O.casesOn with
 |raw _=>exact jB n
 |_=>exact h
theorem UU:∀n,n<27->∀x,T0.os[n]? =C x->l1 x.2=ae->n=9:=by
 obtain h:((pH 27).all λn=>match cI T0.os n with|some x=>!l1 x.2||Nat.beq n 9|none=>ae)=true:=by kernel_rfl
 intro n aO x ak cb;obtain this:=eX.mp h n (List.mem_range.mpr aO);rw[f3,ak] at this;simp only[cb,Bool.not_true,Ly] at this;exact d0 this
end
section
variable{X:gE}{c:bc}{s:aN}
theorem bP.MH(T:bP X T0 g c β s env fn aP at_ N):∃a,X.c7=(a,a)/\s.heap.get? a=C (X.raw 0)/\c.gV a/\(∀o,X.h0.get? a≠C o):=by
 obtain et:T0.st.σ.get 9=C (ae,.raw 0):=by exact G ((b4.get (aS rfl)) _) rfl
 refine bG T.sat.objs λf hf=>?_;obtain(⟨a,d,bZ,c5,fF⟩):=hf 9 ae _ et;rw[T.hJ] at bZ;refine fO (show cN g s.heap.get? β a d (.raw 0) from c5) λe aa I=>?_;(clear c5;subst e);generalize ak:X.c7=aF;induction aF using Prod.casesOn with
 |mk i j=>rw[ak] at bZ;cases(bZ);refine(l8 a rfl (G (bW T.raw) aa) ((fF rfl).hM) (λo e=>?_));obtain this:=T.hl _ _ e;rw[(fF rfl).hM.1] at this;exact bK this
theorem afZ{a:az}(T:bP X T0 g c β s env fn aP at_ N)(aV:X.c7=(a,a))(aD:lN a s.heap ay)(bx:ay.get? a=C dp)(aO:ip dp):bP (X.iter dp) T0 (g.iter dp) c β {s with heap:=ay,toks:=t} env fn aP at_ N:=by
 have hJ:=T.hJ;rw[aV] at hJ;have et:T0.st.σ.get 9=C (ae,.raw 0):=by exact G ((b4.get (aS rfl)) _) rfl
 have H:=T.sat;refine bG H.objs λf hf=>?_;obtain(⟨Vp,W2,bZ,c5,fF⟩):=hf 9 ae _ et;rw[hJ] at bZ;(obtain J:=aT bZ;clear bZ;refine a3 (eD J) λbU cv=>?_;clear J;subst bU;(clear c5;subst cv));obtain(⟨f1,_,fr,_,_⟩):=fF rfl;refine aU H.loc λm hm aX=>?_;obtain S:Sat (g.iter dp) c T0.st β {s with heap:=ay,toks:=t}:=by
  refine⟨⟨λx y q=>aD x y (λz=>by rw[z,fr.1] at q;exact bK q) (H.keep x y q),λx ak=>?_,⟨f,λn own y q=>?_⟩,H.len,H.facts,H.ghost⟩,H.os,m,hm.extBut aD (j1 fr.2.1),aX⟩
  .exact bG (H.cx x ak) λdd q=>⟨dd,aD _ _ (fr.2.2 x ak) q⟩
  .obtain(⟨ef,fK,g1,g2,g3⟩):=hf n own y q;refine⟨ef,fK,g1,?_,g3⟩;by_cases qo:n=9
   .subst qo;rw[et] at q;(obtain J:=aT q;clear q;refine a3 (eD J) λbU cv=>?_;clear J;subst bU;subst cv);rw[hJ] at g1;(obtain J:=aT g1;clear g1;refine a3 (eD J) λbU cv=>?_;clear J;subst bU;(clear g3 g2;subst cv));exact⟨rfl,bx,aO⟩
   .have qD:l1 y=false:=by
     obtain lt:n<27:=by obtain this:n<β.ad.length:=(j2.mp g1).1;rw[H.len] at this;exact this
     obtain e:T0.os[n]? =C (own,y):=by exact G (bW ((b4.get (aS rfl)) _)) q
     generalize cb:l1 y=aF;induction aF using bV with
     |false=>rfl
     |true=>exact absurd (UU n lt _ e cb) qo
    clear q;induction own using bV with
    |false=>exact(cN.iter qD g2)
    |true=>obtain(⟨cJ,cY,_⟩):=g3 rfl;exact cN.iter qD (g2.mono (.refl _) (λI=>aD ef _ λz=>qo (G (bW cJ) (G z (G f1 rfl)))) (λI=>aD fK _ λz=>qo (G (bW cY) (G z (G f1 rfl)))))
 refine⟨⟨⟨T.good.ok.fl,T.good.ok.top,T.good.ok.S,T.good.ok.low⟩,T.good.lay,T.good.raise⟩,T.k,⟨T.ct.base,T.ct.frames,T.ct.here,T.ct.hd,T.ct.iX,T.ct.depth,T.ct.units,T.ct.calm,T.ct.dep⟩,T.env,S,T.eB,T.gens.re rfl rfl (λI I e=>e) (dP _) λold h=>?_,T.cB,T.el,T.gF,T.jL,T.j_,T.k0,T.k1,T.room,T.oe,T.ed,T.s9,T.oP,T.keys,λk aw=>?_,T.S,T.m5,T.aD,T.m,T.a,T.hl,T.hJ,rfl,T.dU⟩
 .exact aU T.gens.gen.dict λo a9 bf=>T.aD _ _ _ _ a9 bf h▸rfl
 .exact eH (T.ents k aw) λc dw dV E=>(fV c dw dV (E.re rfl rfl (λI I e=>e) (dP _) (λc I=>rfl) λc I=>rfl))
end
noncomputable def gone(n:Nat):List (Bool×O):=List.replicate n (fix .gone)
noncomputable def fJ:b4:=⟨gone 7++ [own (.dict [(de "cells",aI 11),(de "at",li 0)] none),own (.cell (C (aI 7)))]++gone 18,[],[],0,[]⟩
noncomputable def rB(K:b5)(a:az):List Stmt:=match K.lookup a with
 |some ⟨_,_,.func fd,_⟩=>(match fd.body with|.stmts b=>b|_=>[])
 |_=>[]
noncomputable def sa(K:b5)(a:az):Scope:=match K.lookup a with
 |some ⟨_,_,.func fd,_⟩=>fd.scope
 |_=>{kind:=.module,names:=[],isGenerator:=ai,isCoroutine:=ai}
noncomputable def ahD:gW:=λdep f aK st=>match f,aK with
 |.c (.ref a),[]=>(match cw a 701&&eK dep 250&&eK st.no 10000000 with
  |true=>C (.ok (.r st.no) {st with σ:=st.σ.put cU st.no (ai,.gone),no:=st.no+1})
  |false=>none)
 |_,_=>none
noncomputable def kl(K:b5):cK:=⟨sa K 734,[],3⟩
noncomputable def kR(K:b5):List Stmt:=rB K 734
noncomputable def xX:b6:=(0,5,none)
noncomputable def fX:b4:=⟨gone 7++ [own (.dict [(de "cells",aI 11),(de "at",li 5)] none),own (.cell (C (aI 7))),fix .gone,fix (.list [aE 0,aE 1,aE 2,aE 3])]++gone 16,[xX,xX,xX,xX,dZ],[],0,[("after",aI 10)]⟩
noncomputable def Gm(ab:cK)(ah:cW):Bool:=ab.cells.all λe=>match cI ah.ad e.2 with
 |some n=>cw n e.2
 |none=>ai
noncomputable def wL(o:Out dj)(ab:cK)(ah:cW)(bY:Nat)(p:b4):Bool:=match o with
 |.ok .next st=>Gm ab ah&&h1 ah bY st p
 |_=>ai
noncomputable def JQ(o:Out dj)(ah:cW)(bY:Nat)(p:b4)(r:V):Bool:=o.r3.any λw=>w.1.ud.any λv=>h1 ah bY w.2 p&&n3 ah w.2.ar w.2.aC r v
theorem adS{o:Out dj}{r:V}(h:JQ o ah bY p r=ae):∃v st,o=.ok (.ret v) st/\h1 ah bY st p=ae/\n3 ah st.ar st.aC r v=true:=cF h λw e h=>cF h λv bf h=>(d2 v w.2 (G (ub e) (G (R0 bf) rfl)) (bS h) (bC h))
section
variable{c:bc}{s:aN}{ab:cK}{st:St}
theorem Gl:∀{l:List (aM×Nat)},k3 x l=C n->∃e∈l,e.2=n
 |[],h=>by exact bK h
 |e::r,h=>by
  rw[Gk] at h;split at h
  ·(obtain J:=aT h;clear h;subst J);exact(bh e (.head _) rfl)
  .exact aU (Gl h) λcf a b=>(bh cf (.tail _ a) b)
set_option tactic.hygienic true in
theorem G_{h₀:gj}(V:cc c ab env β)(l:β.le aY)(h:Gm ab ah=ae):cc (c.re h₀) ab env (pull ah aY):=by refine⟨V.scope,V.kind,V.glob,V.blt,V.loc,λx n e=>?_,V.frame,V.apart⟩;refine cA (V.cells x n e) λa ec df dx=>?_;(refine aU (Gl e) λy bT J=>?_;(clear e;subst J));obtain this:=eX.mp h y bT;refine(gi a ec df ?_);refine aU (Sk this) λm q this=>?_;rw[d0 this] at q;exact dz q (a4 l.ad dx)
set_option tactic.hygienic true in
theorem Cm{a b:List eQ}(a6:Good g)(U:c.Ok g ab.dep)(V:cc c ab env β)(H:Sat g c st β s)(f9:fu (g.pin β) h3)(run:wL ((er g.K h3 300).xs ab a st) ab ah bY p=ae)(bt:g.S+bY<=100000)
  (next:∀bp aY ao h₀ base,(er g.K h3 300).xs ab a st=.ok .next bp->β.le aY->Sat g c bp aY ao->Seen g c bp aY ao ab.dep ah bY p h₀ base->cc (c.re h₀) ab env (pull ah aY)->Good (g.re h₀ bY (pull ah aY) base)->dX (g.re h₀ bY (pull ah aY) base) (c.re h₀) (cH b env) Q E ao):dX g c (cH (a++b) env) Q E s:=by have fx:=a6.pin (β:=β);obtain aj:=(o5 fx.ok fx.lay fx.raise f9 300).xs c ab env β a U.pin V β st s (.refl _) H.pin;rw[show(g.pin β).K=g.K from rfl] at aj;unfold At at aj;unfold wL at run;refine aU (zL run) λbp q run=>?_;rw[q] at aj;rw[ew] at run;refine Hf (aj _ E λeM ao aY a_ S R=>?_);obtain rfl:=R;have S:=S.wX H.ghost;exact mF (sb a6.ok U S run.2 bt) λh₀ base hg=>next bp aY ao h₀ base q a_ S hg (G_ V a_ run.1) (a6.re hg.ok)
theorem ZK{r:V}{a:List eQ}(a6:Good g)(U:c.Ok g ab.dep)(V:cc c ab env β)(H:Sat g c st β s)(f9:fu (g.pin β) h3)(run:JQ ((er g.K h3 300).xs ab a st) ah bY p r=ae)(bt:g.S+bY<=100000)
  (next:∀bp aY ao h₀ base y v,(er g.K h3 300).xs ab a st=.ok (.ret v) bp->β.le aY->Sat g c bp aY ao->Seen g c bp aY ao ab.dep ah bY p h₀ base->Good (g.re h₀ bY (pull ah aY) base)->a7 aY v y->n3 ah bp.ar bp.aC r v=ae->Q (.ret y) ao):dX g c (cH a env) Q E s:=by have fx:=a6.pin (β:=β);obtain aj:=(o5 fx.ok fx.lay fx.raise f9 300).xs c ab env β a U.pin V β st s (.refl _) H.pin;rw[show(g.pin β).K=g.K from rfl] at aj;unfold At at aj;refine fD (adS run) λv bp q aeA aeB=>?_;rw[q] at aj;refine aj _ E λeM ao aY a_ S R=>?_;(refine aU R λy J r=>?_;try clear R;subst J);have S:=S.wX H.ghost;exact mF (sb a6.ok U S aeA bt) λh₀ base hg=>next bp aY ao h₀ base y v q a_ S hg (a6.re hg.ok) r aeB
theorem ae6(H:Sat g c st β s){a:az}{aH:Array aB}(aO:n<10000000)(h0:st.σ.get n=C (ai,.gone))(aV:β.ad[n]? =C (a,a))(eB:c.P a=C (W.listOf aH k))(R:bL (a7 β) xs aH.toList):Sat g c {st with σ:=st.σ.put cU n (ai,.list xs)} β s:=by
 refine bG H.objs λf hf=>⟨⟨H.keep,H.cx,⟨f,λm own y q=>?_⟩,H.len,H.facts,H.ghost⟩,H.os,H.loc⟩;replace q:(st.σ.put cU n (ai,.list xs)).get m=C (own,y):=q;rw[dD.k8 cU st.σ n _ m (ij aO (aS rfl))] at q;by_cases hm:m=n
 ·(clear h0 aO;subst hm);rw[if_pos rfl] at q;(obtain J:=aT q;clear q;refine a3 (eD J) λbU cv=>?_;clear J;subst bU;subst cv);exact⟨a,a,aV,⟨rfl,aH,k,eB,R⟩,λz=>by exact c8 z⟩
 .rw[if_neg hm] at q;exact hf m own y q
end
noncomputable def Yi(w:Nat):String:=match w with|0=>"ga"|1=>"gb"|2=>"gc"|_=>"gd"
noncomputable def YH(w:Nat):String:=match w with|0=>"ha"|1=>"hb"|2=>"hc"|_=>"hd"
noncomputable def I_(k:Nat->Nat->V):Nat->List (ag×V)
 |0=>[]
 |n+1=>I_ k n++ [(de (Yi n),k n 0),(de (YH n),k n 1)]
noncomputable def abM(n:Nat):O:=.dict (I_ (λw j=>aI (27+2*w+j)) n) none
noncomputable def Wd(n:Nat):O:=.dict (I_ (λI I=>li 1) n) none
noncomputable def acF(n:Nat):O:=.list (List.replicate (2*n) .u)
noncomputable def R3(made:Nat):O:=region (cZ "root") du du (aI 1) (li made) (li 1) (li 0) (cZ "body") (aI 13) (aI 24) (aI 14) (aI 15) (aI 25) (aI 16) du
noncomputable def R6(place:V):O:=z4 place (li 1) (li 100) (li 0) 19 20 21 22 12 23
noncomputable def MO(n:Nat):O:=.dict [(de "cells",aI 11),(de "at",li n)] none
noncomputable def SC(n:Nat)(loc:Loc):b4:=⟨[own (R6 (aI 1)),own (R3 (1+2*n))]++gone 5++ [own (MO 5),own (.cell (C (aI 7))),fix .gone,fix .gone,fix .gone,fix BF,
 own (abM n),own (.list []),own (.list []),own (.dict [] none),own (.raw 0),fix .gone,fix .gone,fix .gone,fix .gone,fix .gone,fix .gone,own (acF n),own (Wd n),fix .gone]++gone (2*n),[dZ],[],0,([("after",aI 10),("root",aI 1),("scope",aI 0)]:Loc)++loc⟩
noncomputable def Qq(at_ v:Nat):List V:=(pH 4).map λi=>match cw i at_ with|true=>li v|false=>.u
noncomputable def DP(at_ v:Nat):St:={(SC at_ ([("at",li at_)]:Loc)).st with σ:=(SC at_ []).st.σ.put cU 10 (ai,.list (Qq at_ v))}
noncomputable def uf(K:b5):List Stmt:=match(kR K).drop 3 with
 |.For _ _ b _ _::_=>b
 |_=>[]
noncomputable def g9:gW:=λI I I I=>none
noncomputable def nC(at_ v:Nat):cW:=⟨(pH (27+2*at_))++(match c6 4 v with|true=>[27+2*at_+18,27+2*at_+41]|false=>[27+2*at_+22,27+2*at_+45]),[.aL 0 ai 0],[],[]⟩
noncomputable def rJ(at_ v:Nat):cW:=
 let o:=27+2*at_
 match c6 4 v with
 |true=>⟨[1,o+18,o+7,o+6,o+5,o+2,o+4,o,o+3],[.lit (2+2*(at_:Int))],[[.lit [97+at_]]],[[.any 0]]⟩
 |false=>⟨[1,o+22,o+11,o+10,o+9,o+6,o+8,o+5,o+7,o+4,o+2,o+3],[.lit (2+2*(at_:Int))],(match cw at_ v with|true=>[[.lit [97+at_]]]|false=>[[.lit [97+at_]],[.lit [97+v]]]),[[.any 0]]⟩
noncomputable def qf(at_ v:Nat):b4:=match c6 4 v,cw at_ v with
 |true,_=>GE
 |false,true=>mY 0 [dE]
 |false,false=>mY 1 [dE,dE]
noncomputable def yJ(at_ v:Nat):cW:=
 let o:=27+2*at_+(match c6 4 v with|true=>0|false=>4)
 ⟨[1,o+41,o+30,o+29,o+28,o+22,o+21,o+20,o+24,o+23,o+27,o+25,o+26],[.lit (3+2*(at_:Int))],[[.lit [97+at_]]],[[.any 1]]⟩
noncomputable def DO(at_:Nat):b4:=SC (at_+1) []
noncomputable def IF(K:b5)(at_ v:Nat):Bool:=match(er K g9 300).xs (kl K) (uf K) (DP at_ v) with
 |.ok .next st=>h1 (nC at_ v) 60 st (DO at_)&&wD (rJ at_ v) 60 st (h_ (DO at_).os (nC at_ v).ad) (qf at_ v)&&wD (yJ at_ v) 60 st (h_ (DO at_).os (nC at_ v).ad) mh
 |_=>ai
noncomputable def J3:List Nat:=[0,1,2,3,4,5]
noncomputable def za(K:b5):Bool:=[0,1,2,3].all λat_=>J3.all λv=>IF K at_ v
noncomputable def r2(st:St)(n:Nat):Bool:=(pH st.no).all λm=>match st.σ.get m with
 |some (_,y)=>!l1 y||Nat.beq m n
 |none=>ae
section
variable{c:bc}{s:aN}{ab:cK}{st:St}
theorem Q6(H:SatO g c st β s.heap)(h:r2 st n=ae):∀m own y,st.σ.get m=C (own,y)->l1 y=ae->m=n:=λm own y q cb=>by refine bG H.objs λf hf=>?_;obtain(⟨a,d,g1,_⟩):=hf m own y q;obtain lt:=(j2.mp g1).1;rw[H.len] at lt;obtain this:=eX.mp h m (List.mem_range.mpr lt);rw[q] at this;simp only[cb,Bool.not_true,Ly] at this;exact d0 this
theorem aeY{a:az}(H:Sat g c st β s)(et:st.σ.get n=C (ae,.raw 0))(hJ:β.ad[n]? =C (a,a))(only:r2 st n=ae)(aD:lN a s.heap ay)(bx:ay.get? a=C dp)(aO:ip dp):Sat (g.iter dp) c st β {s with heap:=ay,toks:=t}:=by
 have only:=Q6 H.toSatO only;refine bG H.objs λf hf=>?_;obtain(⟨Vp,W2,bZ,c5,fF⟩):=hf n ae _ et;rw[hJ] at bZ;(obtain J:=aT bZ;clear bZ;refine a3 (eD J) λbU cv=>?_;clear J;subst bU;(clear c5;subst cv));obtain(⟨f1,_,fr,_,_⟩):=fF rfl;refine aU H.loc λm hm aX=>⟨⟨λx y q=>aD x y (λz=>by rw[z,fr.1] at q;exact bK q) (H.keep x y q),λx ak=>?_,⟨f,λm own y q=>?_⟩,H.len,H.facts,H.ghost⟩,H.os,m,hm.extBut aD (j1 fr.2.1),aX⟩
 .exact bG (H.cx x ak) λdd q=>⟨dd,aD _ _ (fr.2.2 x ak) q⟩
 .obtain(⟨ef,fK,g1,g2,g3⟩):=hf m own y q;refine⟨ef,fK,g1,?_,g3⟩;by_cases qo:m=n
  ·(clear f1 fF only;subst qo);rw[et] at q;(obtain J:=aT q;clear q;refine a3 (eD J) λbU cv=>?_;clear J;subst bU;subst cv);rw[hJ] at g1;(obtain J:=aT g1;clear g1;refine a3 (eD J) λbU cv=>?_;clear J;subst bU;(clear g3 g2;subst cv));exact⟨rfl,bx,aO⟩
  .have qD:l1 y=false:=by
    generalize cb:l1 y=aF;induction aF using bV with
    |false=>rfl
    |true=>exact absurd (only m own y q cb) qo
   clear q;induction own using bV with
   |false=>exact cN.iter qD g2
   |true=>obtain(⟨cJ,cY,_⟩):=g3 rfl;exact cN.iter qD (g2.mono (.refl _) (λI=>aD ef _ λz=>qo (G (bW cJ) (G z (G f1 rfl)))) (λI=>aD fK _ λz=>qo (G (bW cY) (G z (G f1 rfl)))))
theorem R5{i left:Nat}(aO:n<10000000)(H:Sat g c st β s)(et:st.σ.get n=C (ae,.itR i left))(only:r2 st n=ae):(∃a,β.ad[n]? =C (a,a)/\s.heap.get? a=C (ht i left))/\Sat (g.iter (ht i left)) c {st with σ:=st.σ.put cU n (ae,.raw 0)} β s:=by
 have only:=Q6 H.toSatO only;refine bG H.objs λf hf=>?_;obtain(⟨a,d,bZ,c5,fF⟩):=hf n ae _ et;refine a3 (show cN g s.heap.get? β a d (.itR i left) from c5) λe dc=>?_;(clear c5;subst e);refine⟨(bh a bZ dc),⟨H.keep,H.cx,⟨f,λm own y q=>?_⟩,H.len,H.facts,H.ghost⟩,H.os,H.loc⟩;replace q:(st.σ.put cU n (ae,.raw 0)).get m=C (own,y):=q;rw[dD.k8 cU st.σ n _ m (ij aO (aS rfl))] at q;by_cases hm:m=n
 ·(clear only et aO;subst hm);rw[if_pos rfl] at q;(obtain J:=aT q;clear q;refine a3 (eD J) λbU cv=>?_;clear J;subst bU;subst cv);exact⟨a,a,bZ,⟨rfl,dc,ID _ _⟩,λI=>by obtain(⟨cJ,cY,fw,gT,_⟩):=fF rfl;exact⟨cJ,cY,fw,gT,λe=>by(injection e)⟩⟩
 .rw[if_neg hm] at q;obtain(⟨ef,fK,g1,g2,g3⟩):=hf m own y q;obtain qD:l1 y=false:=by
   generalize cb:l1 y=aF;induction aF using bV with
   |false=>rfl
   |true=>exact absurd (only m own y q cb) hm
  exact⟨ef,fK,g1,cN.iter qD g2,g3⟩
theorem OJ{t it:bk}{b:List eQ}(a6:Good g)(U:c.Ok g ab.dep)(V:cc c ab env β)(H:Sat g c st β s)(f9:fu (g.pin β) h3)(tR:isSet it=ai)(run:((er g.K h3 300).ev ab it).bind nq st=.ok n bp)
  (next:∀av ao a d,β.le av->Sat g c bp av ao->av.ad[n]? =C (a,d)->ft g.M c.A (.forLoop t (.ref a) b [] env) (λr ao=>match r with|.ok f=>Q f ao|.error e=>nL g.M c.A env E e ao) ao):a5 g.M c.A (i4 (.For t it b [] pos) env) Q E s:=by have fx:=a6.pin (β:=β);obtain ba:=o5 fx.ok fx.lay fx.raise f9 300;rw[show(g.pin β).K=g.K from rfl] at ba;obtain aj:=((ba.ev c ab env β it U.pin V).bind (k:=λx=>λ(Q:aB->aN->Prop) E bg=>a5 g.M c.A (oD x) Q E bg) λav v y l r=>y_ fx.ok U.pin r) β st s (.refl _) H.pin;unfold At at aj;rw[run] at aj;refine wpAny_For (aj _ _ λi ao av l S r=>?_) (ys tR env);(refine cA r λa d J aV=>?_;try clear r;subst J);exact next av ao a d l (S.wX H.ghost) aV
end
noncomputable def vy(w v:Nat):bB:=match c6 4 v,cw w v with
 |true,_=>[97+w]
 |false,true=>[97+w]
 |false,false=>[97+w,97+v]
structure GenAt(g:cz)(after:Nat->Nat)(root:az×az)(w:Nat)(iJ iK:az×az):Prop where
 ge:∃e ax,ax.ad[0]? =C root/\ax.ad[1]? =C iJ/\ax.ad[2]? =C e/\ax.aE[0]? =C (2+2*(w:Int))/\dg g (qf w (after w)) ax/\ax.aj=vy w (after w)
 he:∃ax,ax.ad[0]? =C root/\ax.ad[1]? =C iK/\dg g mh ax/\ax.aj=[97+w]/\ax.aE[0]? =C (3+2*(w:Int))
theorem Yk{w v:Nat}:DC (qf w v)=true:=by unfold qf;split<;>decide+kernel
theorem GenAt.k9{iJ iK:az×az}{w:Nat}(a6:GenAt g after root w iJ iK)(eA:oI g br):GenAt br after root w iJ iK:=ih a6.ge λe ax a1 a2 cm c_ dR fe=>Dp a6.he λagV cB el gF jr oN=>⟨(uu e ax a1 a2 cm c_ (dR.k9 eA Yk) fe),(D4 agV cB el (gF.k9 eA (by kernel_rfl)) jr oN)⟩
structure rr where
 K:b5
 after:Nat->Nat
 e4:az
 ep:az
 fZ:az×az
 it:az
 room:Int
 M:Model
 A:oC
 h0:gj
 cx:List (az×cj)
 L:az
 fr:List hB
 dU:aN
 S:Nat
structure sX(W:rr)(n i:Nat)(st:St)(g:cz)(c:bc)(β:aZ)(s:aN)(env:hB):Prop where
 good:Good g
 k:g.K=W.K
 ct:c.Ok g 3
 env:cc c (kl W.K) env β
 sat:Sat g c st β s
 fZ:β.ad[8]? =C W.fZ
 j_:β.ad[10]? =C (W.e4,W.e4)
 k0:β.ad[11]? =C (W.ep,W.ep)
 vg:β.ad[17]? =C (W.it,W.it)
 room:β.aE[0]? =C W.room
 m:g.M=W.M
 a:c.A=W.A
 hl:∀a o,W.h0.get? a=C o->c.P a=C o
 cx:c.cx=W.cx
 L:c.L=W.L
 fr:c.fr=W.fr
 dU:g.dU=W.dU
 raw:g.raw=λI=>ht i (4-i)
 gens:∀w,w<n->∃r iJ iK,β.ad[1]? =C r/\β.ad[27+2*w]? =C iJ/\β.ad[28+2*w]? =C iK/\GenAt g W.after r w iJ iK
 S:W.S<=g.S/\g.S<=W.S+60*n
structure ET(W:rr):Prop where
 lst:∃aH k,W.h0.get? W.e4=C (PySem.W.listOf aH k)/\aH.size=4/\∀i,i<4->∃t,aH[i]? =C (.int (W.after i:Int) t)
 eS:∀i,i<4->W.after i<=5
theorem r1(h:n<=4):n=0\/n=1\/n=2\/n=3\/n=4:=(aS rfl:∀n,n<5->n=0\/n=1\/n=2\/n=3\/n=4) n (xe h)
theorem JX(h:n<=4){loc:MI.Loc}:(SC n loc).st.σ.get 17=C (ae,.raw 0)/\(SC n loc).st.σ.get 10=C (ai,.gone):=by rcases r1 h with rfl|rfl|rfl|rfl|rfl<;>(refine⟨?_,?_⟩<;>refine G ((b4.get (by simp[SC,gone])) _) ?_<;>rfl)
theorem aeZ(h:n<=4):r2 (SC n []).st 17=true:=by rcases r1 h with rfl|rfl|rfl|rfl|rfl<;>decide+kernel
section
variable{W:rr}{c:bc}{s:aN}
theorem zE:fu g g9:=ic
theorem X9{l:List aQ}(h:l.length=4):∃a b c d,l=[a,b,c,d]:=by
 induction l using eo with
 |nil=>injection h
 |cons a l=>
  induction l using eo with
  |nil=>cases h
  |cons b l=>
   induction l using eo with
   |nil=>cases h
   |cons c l=>
    induction l using eo with
    |nil=>cases h
    |cons d l=>
     induction l using eo with
     |nil=>exact(agD a b c d rfl)
     |cons _ _=>exact nomatch su (su (su (su h)))
theorem abm{aH:Array aB}(aO:n<4)(bl:aH.size=4)(h:∀i,i<4->∃t,aH[i]? =C (.int (after i:Int) t)):bL (a7 β) (Qq n (after n)) aH.toList:=by
 refine acx (X9 (l:=aH.toList) bl) λa b c d e=>bG (h n aO) λt ff=>?_;rw[<-pN,e] at ff;refine G e ?_;rcases CZ n aO with rfl|rfl|rfl|rfl
 .exact .cons ⟨_,t,rfl,c0 ff⟩ (.cons trivial (.cons trivial (.cons trivial .nil)))
 .exact .cons trivial (.cons ⟨_,t,rfl,c0 ff⟩ (.cons trivial (.cons trivial .nil)))
 .exact .cons trivial (.cons trivial (.cons ⟨_,t,rfl,c0 ff⟩ (.cons trivial .nil)))
 .exact .cons trivial (.cons trivial (.cons trivial (.cons ⟨_,t,rfl,c0 ff⟩ .nil)))
theorem ae4{v i:Nat}(h:i<27+2*n):cI (nC n v).ad i=C i:=by refine G (f3 _ _) ?_;unfold nC;dsimp only;(refine G (w7 (by simpa using h)) ?_;refine G (List.getElem?_range h) ?_;with_reducible rfl)
theorem Yr{v:Nat}:(pull (rJ n v) aY).aj=vy n v:=by
 unfold rJ vy;cases c6 4 v with
 |true=>exact e3 (.cons (ag.eP.mpr (d2 _ [] rfl rfl (by simp))) .nil)
 |false=>
  cases cw n v with
  |true=>exact e3 (.cons (ag.eP.mpr (d2 _ [] rfl rfl (by simp))) .nil)
  |false=>exact e3 (.cons (ag.eP.mpr (d2 _ [] rfl rfl (by simp))) (.cons (ag.eP.mpr (d2 _ [] rfl rfl (by simp))) .nil))
theorem ae5{v:Nat}:∃I6 I7,cI (nC n v).ad (27+2*n)=C I6/\cI (nC n v).ad (28+2*n)=C I7/\cI (rJ n v).ad 0=C 1/\cI (rJ n v).ad 1=C I6/\(∃e,cI (rJ n v).ad 2=C e)/\cI (yJ n v).ad 0=C 1/\cI (yJ n v).ad 1=C I7/\cI (rJ n v).aE 0=C (.lit (2+2*(n:Int)))/\cI (yJ n v).aE 0=C (.lit (3+2*(n:Int))):=by
 unfold nC rJ yJ;have a9:∀{x y:Nat},cI ((pH (27+2*n))++ [x,y]) (27+2*n)=C x:=by intro x y;(refine G (f3 _ _) (G (pL (by simp)) ?_);refine G List.length_range (G (uI _) ?_));rfl
 have bf:∀{x y:Nat},cI ((pH (27+2*n))++ [x,y]) (28+2*n)=C y:=by intro x y;(refine G (f3 _ _) (G (pL (by simp)) ?_);refine G List.length_range (G (show 28+2*n-(27+2*n)=1 from Nat.add_sub_add_right 28 (2*n) 27) ?_));rfl
 cases c6 4 v with
 |true=>exact(To _ _ a9 bf rfl rfl ⟨_,rfl⟩ rfl rfl rfl rfl)
 |false=>exact(To _ _ a9 bf rfl rfl ⟨_,rfl⟩ rfl (by show C (27+2*n+4+41)=_;rfl) rfl rfl)
theorem FA{i m:Nat}(T:e7 ah (pull ah aY) aY)(h:cI ah.ad i=C m):∃x,aY.ad[m]? =C x/\(pull ah aY).ad[i]? =C x:=by
 have lt:i<(pull ah aY).ad.length:=by show i<(ah.ad.map _).length;refine G (gB _) ?_;rw[f3] at h;exact(j2.mp h).1
 refine aU (T.ad i _ (i5 lt)) λk aa af=>?_;rw[h] at aa;(obtain J:=aT aa;clear aa;subst J);exact(bh _ af (i5 lt))
set_option maxHeartbeats 1000000 in
set_option tactic.hygienic true in
theorem ae0(aO:n<4)(L:ET W)(run:IF W.K n (W.after n)=ae)(bt:W.S<=5000)(T:sX W n (n+1) (SC n ([("at",li n)]:MI.Loc)).st g c β s env)
  (next:∀br bI av ao,sX W (n+1) (n+1) (SC (n+1) []).st br bI av ao env->Q .next ao):dX g c (cH (uf W.K) env) Q E s:=by
 refine fD L.lst λaH k aa af aJ=>?_;have aw:=T.k;have dm:Sat g c (DP n (W.after n)) β s:=ae6 T.sat (aS rfl) (JX (kq (by assumption))).2 T.j_ (T.hl _ _ aa) (abm aO af aJ);unfold IF at run;refine aU (zL run) λst q run=>?_;simp only[ew] at run;(refine a3 run λJ hx=>?_;try clear run;refine a3 J λdc dA=>?_;try clear J);have B1:=T.S;refine G (bW (lM (uf W.K))) (Cm (st:=DP n (W.after n)) (p:=DO n) (ah:=nC n (W.after n)) (bY:=60) (h3:=g9) T.good T.ct T.env dm zE (by refine G aw ?_;unfold wL;exact G (show(er W.K g9 300).xs (kl W.K) (uf W.K) (DP n (W.after n))=_ from q) ((ew _ _).mpr ⟨rfl,dc⟩)) (bR (j3 (bR B1.2 (mS bt (K2 60 (kq aO)))) 60) (bA rfl)) λbp aY ao h₀ base en l S N V a6=>?_);rw[aw,q] at en;cases en;refine a3 (JF N S dA) λr5 af4=>a3 (JF N S hx) λacY ah4=>?_;have eA:oI g (g.re h₀ 60 (pull (nC n (W.after n)) aY) base):=⟨rfl,rfl,λb x e=>N.up b x (T.ct.base b x e),gu _ _⟩;have ad:∀i x,i<27+2*n->β.ad[i]? =C x->(pull (nC n (W.after n)) aY).ad[i]? =C x:=λi x bN e=>dz (ae4 bN) (a4 l.ad e);obtain pk:∃r,β.ad[1]? =C r:=by
  obtain len:=T.sat.len;have:1<β.ad.length:=by refine G len ?_;show 1<(SC n ([("at",li n)]:MI.Loc)).os.length;simp[SC,gone]
  exact⟨_,i5 this⟩
 refine bG pk λr pk=>qT (next _ _ _ ao ⟨a6,T.k,N.ct,V,N.sat,ad _ _ (by lia) T.fZ,ad _ _ (by lia) T.j_,ad _ _ (by lia) T.k0,ad _ _ (by lia) T.vg,?_,T.m,T.a,λa o e=>N.up a o (T.hl a o e),T.cx,T.L,T.fr,T.dU,T.raw,λw hw=>?_,?_⟩)
 .obtain this:=kP (ah:=nC n (W.after n)) (i:=0) (e:=.aL 0 ai 0) rfl (lU (c:=0) (a4 l.aE T.room));refine G this ?_;simp
 .by_cases Pu:w<n
  .exact mG (T.gens w Pu) λg_ iJ iK g1 g2 g3 eg=>(Ak g_ iJ iK (ad _ _ (by lia) g1) (ad _ _ (by lia) g2) (ad _ _ (by lia) g3) (eg.k9 eA))
  .obtain rfl:w=n:=Em (Az hw) (so Pu);(refine acw (ae5 (n:=w) (v:=W.after w)) λI6 I7 a9 bf cC iM J GY GZ W4 W5=>bG J λe lV=>?_;try clear J);refine aU (FA N.pull a9) λiJ dw dV=>aU (FA N.pull bf) λiK cJ cY=>aU (FA af4 lV) λG7 fG hA=>?_;have dA:=a4 l.ad pk;refine(Ak r iJ iK (ad _ _ (by lia) pk) dV cY ⟨(uu G7 _ (dz cC dA) (dz iM dw) hA (kP W4 rfl) r5 Yr),(D4 _ (dz GY dA) (dz GZ cJ) acY ?_ (kP W5 rfl))⟩);exact e3 (.cons (ag.eP.mpr (d2 _ [] rfl rfl (by simp))) .nil)
 .show W.S<=g.S+60/\g.S+60<=_;exact⟨bR B1.1 (gu _ _),bR (j3 B1.2 60) (eJ (kW _ _ _))⟩
theorem R7{pos:cq}{R:Result->aN->Prop}(L:ET W)(run:za W.K=ae)(vA:g7 "at" (kl W.K).scope.names=C .local)(bt:W.S<=5000)
  (fin:∀g c β s,sX W 4 4 {(SC 4 []).st with σ:=(SC 4 []).st.σ.put cU 17 (ai,.gone)} g c β s env->R (.ok .next) s):
  ∀(left n:Nat)(g:cz)(c:bc)(β:aZ)(s:aN),n+left=4->sX W n n (SC n []).st g c β s env->ft g.M c.A (.forLoop (.Name "at" pos) (.ref W.it) (uf W.K) [] env) R s
 |0,n,g,c,β,s,aX,T=>by
  obtain rfl:n=4:=by assumption
  have yz:=(JX (n:=4) (loc:=[]) (dP _)).1;refine bG T.sat.objs λf hf=>?_;obtain(⟨a,d,bZ,c5,fF⟩):=hf 17 ae _ yz;rw[T.vg] at bZ;(obtain J:=aT bZ;clear bZ;refine a3 (eD J) λbU cv=>?_;clear J;subst bU;(clear fF;subst cv));refine fO (show cN g s.heap.get? β W.it W.it (.raw 0) from c5) λI dc I=>?_;rw[T.raw] at dc;refine yt (KZ (x:=(4:Nat)) (left:=((4-4:Nat):Int)) (step:=1) (T.ct.calm (aS rfl)) (show Eg _ _ _ _ _ from dc) (aS rfl) λay he=>fin g c β _ {T with sat:=T.sat.gone (t:=s.toks) (aS rfl) yz T.vg (.inl rfl) he})
 |left+1,n,g,c,β,s,aX,T=>by
  have aO:n<4:=by exact ij (w8 (pE left)) (eJ aX)
  have yz:=(JX (n:=n) (loc:=[]) (kq (by assumption))).1;refine bG T.sat.objs λf hf=>?_;obtain(⟨a,d,bZ,c5,fF⟩):=hf 17 ae _ yz;rw[T.vg] at bZ;(obtain J:=aT bZ;clear bZ;refine a3 (eD J) λbU cv=>?_;clear J;subst bU;(clear fF;subst cv));refine fO (show cN g s.heap.get? β W.it W.it (.raw 0) from c5) λI dc I=>?_;rw[T.raw,show 4-n=left+1 from TX aX.symm] at dc;refine yt (KU (x:=n) (left:=((left+1:Nat):Int)) (step:=1) (show Eg _ _ _ _ _ from dc) (mU.mpr (pE left)) λay ia aD=>?_);obtain dT:((n:Int)+1)=((n+1:Nat):Int):=by push_cast;rfl
  obtain cG:(((left+1:Nat):Int)-1)=(left:Int):=ux (left:Int) 1;rw[dT,cG] at ia;have ia:ay.get? W.it=C (ht (n+1) left):=ia;obtain n6:left=4-(n+1):=(TX (aX.symm.trans (AH n left).symm)).symm;obtain dm:=aeY (t:=s.toks+1) T.sat yz T.vg (aeZ (kq (by assumption))) aD.extBut ia (ID _ _);refine zS (g:=g) (s:={s with heap:=ay,toks:=s.toks+1}) ia rfl (by exact rfl) ?_ _;refine w6 ?_;have xE:Good (g.iter (ht (n+1) left)):=⟨⟨T.good.ok.fl,T.good.ok.top,T.good.ok.S,T.good.ok.low⟩,T.good.lay,T.good.raise⟩;have AV:c.Ok (g.iter (ht (n+1) left)) 3:=⟨T.ct.base,T.ct.frames,T.ct.here,T.ct.hd,T.ct.iX,T.ct.depth,T.ct.units,T.ct.calm,T.ct.dep⟩;obtain sn:=qN (X:=fY) xE.ok AV T.env "at" (v:=.i (.lit (n:Int))) (y:=.int n s.toks) ⟨_,_,rfl,rfl⟩ β (SC n []).st _ (.refl _) dm;obtain tj:jf (kl W.K) "at" (.i (.lit (n:Int))) (SC n []).st=.ok () (SC n ([("at",li n)]:MI.Loc)).st:=by unfold jf;exact G vA rfl
  unfold At at sn;rw[tj] at sn;refine sn _ _ λI dB av l S I=>?_;obtain eA:oI g (g.iter (ht (n+1) left)):=⟨rfl,rfl,λI I e=>e,dP _⟩;obtain Fl:sX W n (n+1) (SC n ([("at",li n)]:MI.Loc)).st (g.iter (ht (n+1) left)) c av dB env:=⟨xE,T.k,AV,T.env.le l,S,a4 l.ad T.fZ,a4 l.ad T.j_,a4 l.ad T.k0,a4 l.ad T.vg,a4 l.aE T.room,T.m,T.a,T.hl,T.cx,T.L,T.fr,T.dU,by refine G n6 ?_;rfl,λw hw=>by exact mG (T.gens w hw) λr iJ iK g1 g2 g3 eg=>(Ak r iJ iK (a4 l.ad g1) (a4 l.ad g2) (a4 l.ad g3) (eg.k9 eA)),T.S⟩
  obtain mem:n∈ [0,1,2,3]:=by simp only[dh,lL,or_false];exact CZ n aO
  obtain abA:W.after n∈J3:=by obtain this:=L.eS n aO;unfold J3;simp only[dh,lL,or_false];exact QE _ (xe this)
  obtain it:=eX.mp (eX.mp run n mem) _ abA;refine ae0 (g:=g.iter (ht (n+1) left)) (Q:=λf fh=>match f with
   |.next|.cont=>ft g.M c.A (.forLoop (.Name "at" pos) (.ref W.it) (uf W.K) [] env) R fh
   |.brk=>R (.ok .next) fh
   |.ret v=>R (.ok (.ret v)) fh) aO L it bt Fl λbr bI d9 fa bX=>?_
  obtain this:=R7 (pos:=pos) L run vA bt fin left (n+1) br bI d9 fa ((AH n left).trans aX) bX;rw[bX.m,bX.a] at this;show ft g.M c.A _ _ _;(refine G T.m (G T.a ?_));exact this
end
noncomputable def xO:b4:={SC 0 [] with os:=(SC 0 []).os.take 17++ [fix .gone]++(SC 0 []).os.drop 18}
noncomputable def AR:cW:=⟨[36,27,2,3,4,5,6,7,8,9,10,11,41,28,30,31,33,9,9,34,35,37,38,40,29,32,9],[.aL 0 ai 4],[],[]⟩
noncomputable def zl:List Str:=[bO "self",bO "width",bO "steps",bO "depth",bO "members",bO "text",bO "tasks",bO "heap"]
noncomputable def I8:List V:=[li 32,li 1000000,li 50,li 10000,li 100000,li 50,li 1000000]
noncomputable def CA(K:b5):gW:=λdep f aK st=>match f,aK with
 |.c (.ref a),[v]=>(match cw a 698&&eK dep 290 with
  |true=>C (Mt (er K g9 100) (sa K 698) dep (rB K 698) (zl.zip (v::I8)) st)
  |false=>none)
 |_,_=>none
noncomputable def B8(K:b5):Bool:=wL ((er K (CA K) 300).xs (kl K) ((kR K).take 3) fX.st) (kl K) AR 60 xO
noncomputable def DN(K:b5):PySem.Expr:=match(kR K).drop 3 with
 |.For _ it _ _ _::_=>it
 |_=>.Constant .none 0 default
noncomputable def ra:cW:=⟨(pH 17)++ [28]++ [18,19,20,21,22,23,24,25,26],[.aL 0 ai 0],[],[]⟩
noncomputable def CK(K:b5):Bool:=((((er K g9 300).ev (kl K) (DN K)).bind nq) xO.st).r3.any λw=>cw w.1 28&&(IC (w.2.σ.get 28) 4&&(r2 w.2 28&&h1 ra 60 {w.2 with σ:=w.2.σ.put cU 28 (ae,.raw 0)} (SC 0 [])))
noncomputable def z3:St:={(SC 4 []).st with σ:=(SC 4 []).st.σ.put cU 17 (ai,.gone)}
noncomputable def adX(kind:V)(parent made number level part names order uses ut counts afJ:V):O:=region kind du parent (aI 1) made number level part names order uses ut counts afJ du
noncomputable def rm:b4:=⟨[own (R6 (aI 2)),own (R3 11),own (adX (cZ "sub") (aI 1) (li 0) (li 11) (li 1) (cZ "body") (aI 3) (aI 4) (aI 17) (aI 18) (aI 5) (aI 26)),
 own (.dict [] none),own (.list []),own (.dict [] none),fix .gone,own (MO 5),own (.cell (C (aI 7))),fix .gone,fix .gone,fix .gone,fix BF,
 fix .gone,own (.list []),own (.list []),own (.dict [] none),own (.list []),own (.list []),fix .gone,fix .gone,fix .gone,fix .gone,fix .gone,fix .gone,fix .gone,fix .gone,
 fix (.list [aI 28]),fix (entity (cZ "generic") (cZ "bare") (aI 29) (li 1) (li 10) (.s [.any 0]) (aI 1) (cZ "body") du se nF),fix (.list [aI 30,du]),fix (.tup [cZ "generic",li 1,aI 31,aI 32]),fix (.list []),fix (.tup [cZ "package",li 1,cZ "bare",aI 33,aI 34]),fix (.list []),fix (.list [])],[dZ],[],1,[]⟩
noncomputable def rb:cW:=⟨[0,1,54,55,56,59,6,7,8,9,10,11,12,13,14,15,16,57,58,19,20,21,22,23,24,25,60,52,41,40,39,35,38,36,37],[.aL 0 ai 0],[],[[.any 0]]⟩
noncomputable def DV(K:b5):Bool:=JQ ((er K g9 300).xs (kl K) ((kR K).drop 4) z3) rb 60 rm (aI 0)
noncomputable def I2(abs:List ag):St:={rm.st with σ:=rm.st.σ.put cU 13 (ai,.dict [(de "bare",aI 27)] (C abs)),loc:=[("room",aE 0),("after",aI 10),("scope",aI 0)]}
noncomputable def zo:List ag:=[de "lone",de "wrapper__101_1"]
noncomputable def CX(K:b5):Out dj:=(er K g9 300).xs (lax K) (((fN K).drop 4).take 4) (I2 zo)
noncomputable def oL(ar:List b6):b4:={T0 with os:=T0.os.take 9++ [fix .gone]++T0.os.drop 10,ar:=ar}
noncomputable def tT:List b6:=[anyI,(101,101,none),dZ,(17,17,none),(1,1,none),(5,5,none)]
noncomputable def mW:cW:=⟨[0,1,2,3,4,5,35,7,8,0,10,11,12,13,14,15,16,17,18,19,20,21,22,23,24,25,26],[.lit 4,.lit 101,.aL 0 ai 0,.lit 17,.lit 1,.lit 5],[],[]⟩
noncomputable def zp(K:b5):Bool:=(CX K).r3.any λw=>w.1.Q4&&((Gm (lax K) mW&&h1 mW 200 w.2 (oL tT))&&((w.2.σ.get 3).any (λp=>p.1&&p.2.i_.any λq=>q.2.isNone&&o8 w.2.ar w.2.aC q.1 [de "wrapper__101_1",de "lone"])&&Ra (w.2.σ.get 35)))
noncomputable def I1(K:b5):PySem.Expr:=match(fN K).drop 8 with
 |.For _ it _ _ _::_=>it
 |_=>.Constant .none 0 default
noncomputable def tA(K:b5)(d:Nat):Out Nat:=(((er K (p_ [(0,4,(d:Int))]) 300).ev (lax K) (I1 K)).bind nq) (oL Cv).st
 where Cv:List b6:=[anyI,(100,10000,C 0),dZ,(11,10000,C 0),(0,10000,C 0),(0,9000,none)]
noncomputable def uU(n:Nat):cW:=⟨(pH 9)++ [n]++ [10,11,12,13,14,15,16,17,18,19,20,21,22,23,24,25,26],[.aL 0 ai 0,.aL 0 ai 1,.aL 0 ai 2,.aL 0 ai 3,.aL 0 ai 4,.aL 1 ai 5],[],[]⟩
noncomputable def OI(K:b5)(d:Nat):Bool:=(tA K d).r3.any λw=>eK w.1 10000000&&(IC (w.2.σ.get w.1) (3+d)&&(r2 w.2 w.1&&h1 (uU w.1) 60 {w.2 with σ:=w.2.σ.put cU w.1 (ae,.raw 0)} dG))
noncomputable def Hn(K:b5):Bool:=four.all λd=>OI K d
section
variable{c:bc}{s:aN}{st:St}
theorem VQ{a:az}{Q:aB->aN->Prop}(O:g.Ok)(U:c.Ok g dep)(dO:dep<300)(F:ri g.K a names body kinds)(aO:names.Nodup)(R:bL (a7 β) aK aH)(aX:names.length=aH.length)(H:Sat g c st β s)
  (h:∀L fT au fm cL ao uY,s.heap.get? c.L=C fT->fT.data=.dict au fm->xu au->(∀x v,eh x st.loc=C v->∃y,sH au x=C y/\a7 β v y)->(c.enter L fT (cL::c.fr) (c.A.deeper cL)).Ok g (dep+1)->cc (c.enter L fT (cL::c.fr) (c.A.deeper cL)) ⟨sa g.K a,[],dep+1⟩ cL β->
   Sat g (c.enter L fT (cL::c.fr) (c.A.deeper cL)) {st with loc:=names.zip aK} β ao->(∀b o,s.heap.get? b=C o->ao.heap.get? b=C o)->dX g (c.enter L fT (cL::c.fr) (c.A.deeper cL)) (cH (rB g.K a) cL) (λf fa=>Q (match f with|.ret v=>v|_=>.none) fa) uY ao):jG g c (.ref a) aH Q E s:=by
 obtain⟨bF,fU,fd,gb,as,an,ds,bE,bw,c3,fL,mB,hY,zb,zc,zd,ze,eV,dY,lr⟩:=F;refine fO (zO zd) λs1 s2 s3=>?_;obtain zk:as.length=aH.length:=by exact G (bW (gB (f:=(·.arg)))) (G c3 (G aX rfl))
 obtain vq:sa g.K a=fd.scope:=by unfold sa;exact G bE rfl
 obtain W_:rB g.K a=body:=by unfold rB;refine G bE ?_;dsimp only;exact G fL rfl
 have B7:=U.depth;obtain Ie:=U.units;let L:=s.heap.objs.size;let cL:=callEnv fd L a;let binds:=names.zip aH;obtain rA:(binds.map (·.1)).Nodup:=by show((names.zip aH).map (·.1)).Nodup;exact G (pO (eJ (by assumption))) aO
 refine mG H.loc.obj λfT qe tk hj jv mz ob=>codeAny_call_def (binds:=binds) (by show c.A.depth<1000;lia) (H.toSatO.fl U O _ _ bE) rfl (H.toSatO.top U O).nolimit (EK (H.toSatO.fl U O) ze) fL (BindsTo.of_eq (by(refine G (show binds=names.zip aH from rfl) (G (bW c3) ?_));exact Bn bw hY (G c3 aO) zk)) lr (λx ak=>eV x.1 (by obtain this:=kU (f:=(·.1)) ak;rwa [pO (eJ (by assumption))] at this)) (λh₀ ei keep=>?_) s3 s2 s1
 obtain ek:(c.enter L fT (cL::c.fr) (c.A.deeper cL)).Ok g (dep+1):=U.enter H hj jv (dP _) (by show c.A.frames.map _=_;exact G U.frames rfl) (λenv he=>by
   rcases dh.mp he with rfl|he
   .exact .inr ⟨by show fd.scope.kind≠.module;refine G s1 ?_;simp,rfl⟩
   .exact .inl he) (by show c.A.depth+1<=_;lia) (by show c.A.units+3<=_;lia) (bR (by assumption) (bA rfl)) (λh=>U.calm (kq (by assumption)))
 obtain gY:cc (c.enter L fT (cL::c.fr) (c.A.deeper cL)) ⟨sa g.K a,[],dep+1⟩ cL β:=⟨by refine G vq ?_;rfl,s1,zb,zc,rfl,(λx n e=>by exact bK e),(gi cL c.fr rfl rfl),bc.oW H hj (dP _)⟩;obtain eE:Sat g (c.enter L fT (cL::c.fr) (c.A.deeper cL)) {st with loc:=names.zip aK} β {s with heap:=h₀,toks:=s.toks+binds.length}:=H.enter U hj keep (dP _) ⟨_,ei,λx v e=>by obtain this:=BY (x:=x) (ns:=names) R;rw[show({st with loc:=names.zip aK}:St).loc=names.zip aK from rfl] at e;rw[e] at this;(refine aU this λy bT hR=>?_;try clear this);exact(bh y ((QB rA).trans bT) hR)⟩
 obtain this:=h L fT qe tk cL _ (λe ao=>a5 g.M (c.A.deeper cL) (uP cL e) (λI fa=>E e fa) (λcf fa=>E cf fa) ao) hj jv mz ob ek gY eE keep;rw[W_] at this;exact this
theorem bc.Ok.leave{L:az}{fT:cj}{P:az->Option cj}{WO:Nat}(U:c.Ok g dep)(sP:(({c with P:=P}:bc).enter L fT fr A).Ok cV WO):({c with P:=P}:bc).Ok cV dep:=
 ⟨sP.base,U.frames,U.here,λx ak=>sP.hd x (.tail _ ak),(sP.hd (c.L,fT) (.head _)).1,U.depth,U.units,U.calm,U.dep⟩
end
noncomputable def nX:b4:={fX with loc:=[("room",aE 4),("after",aI 10)]}
noncomputable def nT:cW:=⟨[0,0,0,0,0,0,0,7,8,0,29,11,0,0,0,0,0,0,0,0,0,0,0,0,0,0,0],[.aL 0 ai 1,.aL 0 ai 2,.aL 0 ai 3,.aL 0 ai 4,.aL 1 ai 0],[],[]⟩
noncomputable def N1(e:bo)(eI:Int):Option gO:=((litOf e).bind nat?).bind λn=>(nat? eI).bind λm=>(k_ (c6 n 100&&eK 0 m)).map λI=>.zr
noncomputable def GW:gW:=GV N1 11
noncomputable def BH(K:b5):Bool:=wL ((er K GW 300).xs (lax K) (((fN K).drop 1).take 2) fJ.st) (lax K) nT 60 nX
noncomputable def iC:List (ag×Nat):=[(de "ga",27),(de "ha",28),(de "gb",29),(de "hb",30),(de "gc",31),(de "hc",32),(de "gd",33),(de "hd",34),(de "bare",52)]
noncomputable def Df(st:St)(au:List (ag×V)):Bool:=c6 au.length 20&&o8 st.ar st.aC au (iC.map (·.1))&&iC.all λx=>uq st.ar st.aC x.1 x.2 au
noncomputable def Jq(st:St):Bool:=(st.σ.get 13).any λp=>p.1&&p.2.i_.any λq=>q.2.isNone&&Df st q.1
noncomputable def C7(K:b5):Bool:=((er K g9 300).xs (kl K) ((kR K).drop 4) z3).r3.any λp=>p.1.ud.isSome&&Jq p.2
noncomputable def JZ(K:b5):cq×Pos:=match(kR K).drop 3 with
 |.For (.Name _ p) _ _ _ q::_=>(p,q)
 |_=>default
noncomputable def JY(K:b5):Stmt:=.For (.Name "at" (JZ K).1) (DN K) (uf K) [] (JZ K).2
noncomputable def Hl(K:b5)(d:Nat):Bool:=match tA K d with
 |.ok n st=>zf {st with σ:=st.σ.put cU n (ae,.raw 0)} []
 |_=>ai
noncomputable def Hm(K:b5):Bool:=four.all λd=>Hl K d
noncomputable def CS(K:b5):cq×Pos:=match(fN K).drop 8 with
 |.For (.Name _ p) _ _ _ q::_=>(p,q)
 |_=>default
noncomputable def Qf(K:b5):Stmt:=.For (.Name "turn" (CS K).1) (I1 K) (ea K) [] (CS K).2
structure E9(K:b5):Prop where
 fn:∃bF fU fd gb defs,K.lookup 698=C ⟨bF,fU,.func fd,gb⟩/\fd.body=.stmts (rB K 698)/\qG fd.scope=ae/\uS K fd.code fd.qualname=ae/\fd.globals=ik/\fd.builtins=nK/\(∀x∈fd.scope.names,x.2≠.cell)/\(∀x∈zl,fd.scope.names.lookup x=C .local)/\
  (∀(s:aN)(y:aB),(∀a o,K.lookup a=C o->s.heap.get? a=C o)->BindsTo s fd ⟨[y],[]⟩ (zl.zip (y::defs)))/\defs.length=7/\∀β,bL (a7 β) I8 defs
structure u2(K:b5):Prop where
 lim:E9 K
 fn:∃kinds,ri K 734 [bO "after"] (kR K) kinds
 head:B8 K=ae
 start:CK K=ae
 g6:za K=ae
 tail:DV K=ae
 nine:C7 K=ae
 at_:g7 "at" (kl K).scope.names=C .local
 set:isSet (DN K)=ai
 rG:(kR K).drop 3=JY K::(kR K).drop 4
theorem Z_(O:g.Ok)(kF:g.Lay)(hN:g.n0)(F:E9 g.K):fu g (CA g.K):=by
 intro c dep β f aK aH U R;obtain(⟨bF,fU,fd,gb,defs,bE,bw,c3,fL,mB,hY,zb,zc,zd,ze,aaw⟩):=F.fn;refine fO (zO c3) λs1 s2 s3=>?_;obtain vq:sa g.K 698=fd.scope:=by unfold sa;exact G bE rfl
 cases R with
 |nil=>exact λaW st s aa H=>trivial
 |@cons v y aK aH r R=>
  cases R with
  |cons g_ R=>exact λaW st s aa H=>trivial
  |nil=>
   unfold CA;dsimp only;generalize q:(cw f 698&&eK dep 290)=aF;induction aF using bV with
   |false=>exact λaW st s aa H=>trivial
   |true=>rw[ew] at q;obtain rfl:=d0 q.1;obtain dO:dep<290:=bA q.2;obtain this:=U9 (names:=zl) (aK:=v::I8) (aH:=y::defs) (w5:=[y]) O (o5 O kF hN zE 100) U bE bw s1 s2 s3 fL (bR (by assumption) (bA rfl)) mB hY zb (by rewrite[uA,ze];rfl) (by unfold zl;exact aS (by kernel_rfl)) zc (λs h=>zd s y λa o e=>h _ _ (O.fl _ _ e)) (.cons r (aaw β));rw[<-vq] at this;exact this
structure xJ where
 K:b5
 after:Nat->Nat
 room:Int
 e4:az
 ep:az
 fZ:az×az
 M:Model
 A:oC
 h0:gj
 dU:aN
 root:az×az
 cM:az
 aA:List (aM×aB)
 ga:Nat->az×az
structure Fd(Y:xJ)(p:b4)(g:cz)(c:bc)(β:aZ)(s:aN):Prop where
 good:Good g
 k:g.K=Y.K
 ct:c.Ok g 2
 sat:Sat g c p.st β s
 eB:c.P=g.h₀.get?
 gens:Gens g Y.after Y.root Y.cM Y.aA Y.ga
 cB:β.ad[1]? =C Y.root
 fZ:β.ad[8]? =C Y.fZ
 j_:β.ad[10]? =C (Y.e4,Y.e4)
 k0:β.ad[11]? =C (Y.ep,Y.ep)
 k1:β.ad[13]? =C (Y.cM,Y.cM)
 bare:∃B,β.ad[27]? =C B/\a0 Y.aA "bare"=C (.ref B.1)
 room:β.aE[0]? =C Y.room
 aD:sT g
 m:g.M=Y.M
 a:c.A=Y.A
 hl:∀a o,Y.h0.get? a=C o->c.P a=C o
 dU:g.dU=Y.dU
 S:20<=g.S/\g.S<=2000
noncomputable def AZ:b4:={rm with loc:=[("room",aE 0),("after",aI 10)]}
theorem g8(x:String):ag.val β (de x)=C (cs (bO x)):=ag.eP.mpr (d2 _ [] rfl rfl (by simp))
section
variable{c:bc}{s:aN}{st:St}
theorem ab1{st:St}(h:Jq st=ae):∃au,st.σ.get 13=C (ae,.dict au none)/\Df st au=true:=cF h λp e h=>cF (bC h) λq bf af=>by obtain(⟨b,o⟩):=p;refine(bh q.1 (e.trans ?_) (bC af));exact G (show b=ae from bS h) (G (show o=_ from oU bf) (G (nO.mp (bS af)) rfl))
theorem abY(F:Facts g.S st.ar st.aC st.ns β)(h:Df st au=ae)(bJ:kZ β aA au):
  ∀x:ag×Nat,x∈iC->∀l,x.1.val β=C l->∃a,β.ad[x.2]? =C a/\a0 aA (aR l)=C (.ref a.1):=λx ak l aX=>by exact aU (Ag F aX (eX.mp (bC h) x ak) bJ) λp df dx=>(bh p df dx)
theorem abZ(F:Facts g.S st.ar st.aC st.ns β)(h:Df st au=ae)(aw:∀k,a0 aA k≠none->∃e:ag×V,e∈au/\e.1.val β=C (cs k)):
  au.length<=20/\∀k,a0 aA k≠none->∃x:ag×Nat,x∈iC/\x.1.val β=C (cs k):=by
 refine⟨bA (bS (bS h)),λk tK=>?_⟩;refine aU (aw k tK) λe he ev=>?_;obtain eU:∀x∈iC.map (·.1),∃l,ag.val β x=C l:=λx ak=>by
  (refine aU (kY.mp ak) λy bT J=>?_;(clear ak;subst J));obtain this:∀y∈iC,∃t,y.1=de t:=by intro y bT;unfold iC at bT;simp only[dh,lL,or_false] at bT;rcases bT with rfl|rfl|rfl|rfl|rfl|rfl|rfl|rfl|rfl<;>exact⟨_,rfl⟩
  exact bG (this y bT) λt e=>⟨_,by exact G e (g8 t)⟩
 refine aU (vW F (bC (bS h)) eU e he _ ev) λx ak bf=>?_;(refine aU (kY.mp ak) λy bT J=>?_;(clear ak;subst J));exact(bh y bT bf)
theorem abW{w:Nat}(hw:w<4):∃x∈iC,x.2=27+2*w/\∀β,x.1.val β=C [103,97+w]:=by
 obtain this:w=0\/w=1\/w=2\/w=3:=by lia
 rcases this with rfl|rfl|rfl|rfl
 .exact(fV (de "ga",27) (by unfold iC;simp) rfl (λβ=>(g8 _).trans (by kernel_rfl)))
 .exact(fV (de "gb",29) (by unfold iC;simp) rfl (λβ=>(g8 _).trans (by kernel_rfl)))
 .exact(fV (de "gc",31) (by unfold iC;simp) rfl (λβ=>(g8 _).trans (by kernel_rfl)))
 .exact(fV (de "gd",33) (by unfold iC;simp) rfl (λβ=>(g8 _).trans (by kernel_rfl)))
theorem abX{w:Nat}(hw:w<4):∃x∈iC,x.2=28+2*w/\∀β,x.1.val β=C [104,97+w]:=by
 obtain this:w=0\/w=1\/w=2\/w=3:=by exact CZ w hw
 rcases this with rfl|rfl|rfl|rfl
 .exact(fV (de "ha",28) (by unfold iC;simp) rfl (λβ=>(g8 _).trans (by kernel_rfl)))
 .exact(fV (de "hb",30) (by unfold iC;simp) rfl (λβ=>(g8 _).trans (by kernel_rfl)))
 .exact(fV (de "hc",32) (by unfold iC;simp) rfl (λβ=>(g8 _).trans (by kernel_rfl)))
 .exact(fV (de "hd",34) (by unfold iC;simp) rfl (λβ=>(g8 _).trans (by kernel_rfl)))
theorem ab0{x:ag×Nat}(ak:x∈iC):(∃w,w<4/\∀β,x.1.val β=C [103,97+w])\/(∃w,w<4/\∀β,x.1.val β=C [104,97+w])\/x.1=de "bare":=by
 unfold iC at ak;simp only[dh,lL,or_false] at ak;rcases ak with rfl|rfl|rfl|rfl|rfl|rfl|rfl|rfl|rfl
 .exact .inl (bh 0 (aS rfl) (λβ=>(g8 _).trans (by kernel_rfl)))
 .exact .inr (.inl (bh 0 (aS rfl) (λβ=>(g8 _).trans (by kernel_rfl))))
 .exact .inl (bh 1 (aS rfl) (λβ=>(g8 _).trans (by kernel_rfl)))
 .exact .inr (.inl (bh 1 (aS rfl) (λβ=>(g8 _).trans (by kernel_rfl))))
 .exact .inl (bh 2 (aS rfl) (λβ=>(g8 _).trans (by kernel_rfl)))
 .exact .inr (.inl (bh 2 (aS rfl) (λβ=>(g8 _).trans (by kernel_rfl))))
 .exact .inl (bh 3 (aS rfl) (λβ=>(g8 _).trans (by kernel_rfl)))
 .exact .inr (.inl (bh 3 (aS rfl) (λβ=>(g8 _).trans (by kernel_rfl))))
 .exact .inr (.inr rfl)
theorem RL{e:b4}(bu:dg g e ax)(h:e.os[1]? =C (ai,.list xs))(aX:ax.ad[1]? =C L):L=(L.1,L.1):=by refine cA (bu.objs 1 _ _ h) λa d df dx=>?_;rw[aX] at df;(obtain J:=aT df;clear df;(clear aX;subst J));obtain(⟨e,_⟩):=(show cN g g.h₀.get? ax a d (.list xs) from dx);exact G e rfl
theorem Yj{w v:Nat}:(qf w v).os[1]? =C (ai,.list [aI 2]):=by unfold qf;split<;>rfl
theorem Yl{o:cj}(cB:β.ad[1]? =C root)(OQ:∀w,w<4->∃r iJ iK,β.ad[1]? =C r/\β.ad[27+2*w]? =C iJ/\β.ad[28+2*w]? =C iK/\GenAt g after r w iJ iK)
  (dict:g.h₀.get? cM=C o)(hd:o.IsDictOf (strKind g.prog g.w) aA)(ne:cM≠kv)(eS:aA.length<=20)(base:∀old,g.base cM=C old->old=aA)
  (at_:∀x:ag×Nat,x∈iC->∀l,x.1.val β=C l->∃a,β.ad[x.2]? =C a/\a0 aA (aR l)=C (.ref a.1))(keys:∀k,a0 aA k≠none->∃x:ag×Nat,x∈iC/\x.1.val β=C (cs k)):
  ∃ga,Gens g after root cM aA ga:=by
 have ni:∀w,w<4->∃e L ax,a0 aA (aR [103,97+w])=C (.ref L)/\ax.ad[0]? =C root/\ax.ad[1]? =C (L,L)/\ax.ad[2]? =C e/\ax.aE[0]? =C (2+2*(w:Int))/\dg g (qf w (after w)) ax/\ax.aj=vy w (after w):=λw hw=>by refine mG (OQ w hw) λr iJ iK g1 g2 g3 eg=>?_;rw[cB] at g1;(obtain J:=aT g1;clear g1;subst J);refine ih eg.ge λe ax a1 a2 cm c_ dR fe=>eH (abW hw) λx ak dw dV=>aU (at_ x ak _ (dV β)) λa cJ cY=>?_;rw[dw,g2] at cJ;(obtain J:=aT cJ;clear cJ;subst J);exact(agC e iJ.1 ax cY a1 (G (bW (RL dR Yj a2)) a2) cm c_ dR fe)
 obtain f9:∀w,w<4->∃L ax,a0 aA (aR [104,97+w])=C (.ref L)/\ax.ad[0]? =C root/\ax.ad[1]? =C (L,L)/\dg g mh ax/\ax.aj=[97+w]/\ax.aE[0]? =C (3+2*(w:Int)):=λw hw=>by refine mG (OQ w hw) λr iJ iK g1 g2 g3 eg=>?_;rw[cB] at g1;(obtain J:=aT g1;clear g1;subst J);refine Dp eg.he λax a1 a2 cm c_ dR=>eH (abX hw) λx ak dw dV=>aU (at_ x ak _ (dV β)) λa cJ cY=>?_;rw[dw,g3] at cJ;(obtain J:=aT cJ;clear cJ;subst J);exact(uu iK.1 ax cY a1 (G (bW (RL cm (xs:=[aI 2]) rfl a2)) a2) cm c_ dR)
 let ga:Nat->az×Addr:=λw=>if h:w<4 then T3 (ni w h) else(0,0);obtain Zm:∀w,w<4->∃L ax,a0 aA (aR [103,97+w])=C (.ref L)/\ax.ad[0]? =C root/\ax.ad[1]? =C (L,L)/\ax.ad[2]? =C (ga w)/\ax.aE[0]? =C (2+2*(w:Int))/\dg g (qf w (after w)) ax/\ax.aj=vy w (after w):=λw hw=>by obtain this:=Classical.choose_spec (ni w hw);obtain e:ga w=T3 (ni w hw):=dif_pos hw;exact G e this
 have all:∀w,w<4->∃L ax,a0 aA (aR [103,97+w])=C (.ref L)/\ax.ad[0]? =C root/\ax.ad[1]? =C (L,L)/\ax.ad[2]? =C (ga w)/\ax.aE[0]? =C (2+2*(w:Int))/\(4<=after w->dg g GE ax/\ax.aj=[97+w])/\
   (after w=w->dg g (mY 0 [dE]) ax/\ax.aj=[97+w])/\(after w<4->after w≠w->dg g (mY 1 [dE,dE]) ax/\ax.aj=[97+w,97+after w]):=λw hw=>by
  refine qF (Zm w hw) λL ax a1 a2 cm c_ dR fe iq=>?_;unfold qf at fe;unfold vy at iq;refine(Tn L ax a1 a2 cm c_ dR (λh=>?_) (λh=>?_) (λh ay=>?_))
  .rw[Ap h] at fe iq;exact⟨fe,iq⟩
  .have a9:c6 4 (after w)=false:=by
    generalize q:c6 4 (after w)=aF;induction aF using bV with
    |false=>rfl
    |true=>obtain this:=bA q;lia
   have bf:cw w (after w)=true:=by exact G h (LB w)
   rw[a9,bf] at fe iq;exact⟨fe,iq⟩
  .have a9:c6 4 (after w)=false:=by
    generalize q:c6 4 (after w)=aF;induction aF using bV with
    |false=>rfl
    |true=>obtain this:=bA q;exact absurd (by assumption) (Nat.not_le_of_lt (by assumption))
   have bf:cw w (after w)=false:=by
    generalize q:cw w (after w)=aF;induction aF using bV with
    |false=>rfl
    |true=>exact absurd (d0 q).symm ay
   rw[a9,bf] at fe iq;exact⟨fe,iq⟩
 refine⟨ga,⟨(bh o dict hd),ne,eS,base,λw hw=>?_⟩,all,f9,λk aw=>?_⟩
 .exact t_ (all w hw) λL ax a1 a2 cm I I fe iq kz=>(uu L ax a1 a2 cm fe iq kz)
 .refine aU (keys k aw) λx ak e=>?_;rcases ab0 ak with⟨w,hw,h⟩|⟨w,hw,h⟩|h
  .rw[h β] at e;exact .inl (bh w hw (.inl (G (c0 e) ((hk k).symm))))
  .rw[h β] at e;exact .inl (bh w hw (.inr (G (c0 e) ((hk k).symm))))
  .rw[h,g8] at e;refine .inr ?_;obtain this:aR (cs k)=aR (cs (bO "bare")):=by exact G (c0 e) rfl
   rw[hk] at this;exact this
end
variable{m7:fH->aN->Prop}
section
variable{c:bc}{s:aN}{Q:aB->aN->Prop}
theorem B3{iN:cz}{c₁:bc}{st:St}{h₀:gj}(N:Seen iN c₁ st aW bg dep ah bY p h₀ base):sT (iN.re h₀ bY dQ base):=λa o aA old aa af aJ=>by obtain this:=N.base a o aA (N.down a o aa) af;obtain aJ:base a=C old:=aJ;rw[this] at aJ;exact c0 aJ
theorem ae3{W:rr}{iN:cz}{c₁:bc}(F:u2 W.K)(T:sX W 4 4 z3 iN c₁ aW bg env)(bt:W.S<=1000)(yA:20<=W.S)
  (next:∀cV aY b0 root cM aA ga y,Good cV->cV.K=W.K->({c₁ with P:=cV.h₀.get?}:bc).Ok cV 3->Sat cV {c₁ with P:=cV.h₀.get?} rm.st aY b0->Gens cV W.after root cM aA ga->aY.ad[1]? =C root->aY.ad[8]? =C W.fZ->aY.ad[10]? =C (W.e4,W.e4)->aY.ad[11]? =C (W.ep,W.ep)->aY.ad[13]? =C (cM,cM)->
   (∃B,aY.ad[27]? =C B/\a0 aA "bare"=C (.ref B.1))->aY.aE[0]? =C W.room->sT cV->cV.M=W.M->(∀a o,W.h0.get? a=C o->cV.h₀.get? a=C o)->cV.dU=W.dU->20<=cV.S->cV.S<=W.S+300->a7 aY (aI 0) y->m7 (.ret y) b0):dX iN c₁ (cH ((kR W.K).drop 4) env) m7 E bg:=by
 have aw:=T.k;have B1:=T.S;obtain t:=F.tail;obtain pb:=F.nine;unfold DV at t;unfold C7 at pb;refine ZK (r:=aI 0) (st:=z3) (ah:=rb) (bY:=60) (p:=rm) (h3:=g9) T.good T.ct T.env T.sat zE (G aw t) (by lia) λbp aY ao h₀ base y v en l S N a6 r aj=>?_;rw[aw] at en;obtain en:(er W.K g9 300).xs (kl W.K) ((kR W.K).drop 4) z3=.ok (.ret v) bp:=en;rw[en] at pb;obtain pb:((dj.ret v).ud.isSome&&Jq bp)=true:=pb;replace pb:=bC pb;refine aU (ab1 pb) λau Hy pb=>cA (N.rest 13 ae _ Hy (aS (by kernel_rfl))) λcM d bZ c5=>?_;obtain(⟨g0,ns,o,aA,eZ,hp,vl,yi,Wl,GC⟩):=(show cN iN h₀.get? aY cM d (.dict au none) from c5);(clear c5;subst g0);have at_:=abY S.facts pb vl;refine a3 (abZ S.facts pb Wl) λeS keys=>?_;obtain eA:oI iN (iN.re h₀ 60 (pull rb aY) base):=⟨rfl,rfl,λb x e=>N.up b x (T.ct.base b x e),gu _ _⟩;have ad:∀{i n:Nat}{x:az×az},cI rb.ad i=C n->aW.ad[n]? =C x->(pull rb aY).ad[i]? =C x:=λbN e=>dz bN (a4 l.ad e);refine wq (T.gens 0 (aS rfl)) λroot I I cB I=>?_;obtain Vr:=a4 l.ad cB;refine bG (Yl (g:=iN.re h₀ 60 (pull rb aY) base) (after:=W.after) (β:=aY) Vr (λw hw=>by exact mG (T.gens w hw) λr iJ iK g1 g2 g3 eg=>(Ak r iJ iK (a4 l.ad g1) (a4 l.ad g2) (a4 l.ad g3) (eg.k9 eA))) eZ hp ns (by obtain GC:aA.length<=au.length+0:=GC;exact bR (by assumption) (by assumption)) (λold h=>(B3 N _ _ _ _ eZ hp h).symm) at_ keys) λga E4=>?_
 refine aU (at_ (de "bare",52) (by unfold iC;simp) _ (g8 _)) λB a9 bf=>?_;rw[hk] at bf;refine next (iN.re h₀ 60 (pull rb aY) base) (pull rb aY) ao root cM aA ga y a6 aw N.ct N.sat E4 (ad rfl cB) (ad rfl T.fZ) (ad rfl T.j_) (ad rfl T.k0) (dz rfl bZ) (bh B (dz rfl a9) bf) ?_ (B3 N) T.m (λa o e=>N.up a o (T.hl a o e)) T.dU ?_ ?_ (te N.pull S.facts aj r)
 .obtain this:=kP (ah:=rb) (i:=0) (e:=.aL 0 ai 0) rfl (lU (c:=0) (a4 l.aE T.room));refine G this ?_;simp
 .show 20<=iN.S+60;exact bA rfl
 .show iN.S+60<=_;lia
end
section
variable{c:bc}{s:aN}{Q:aB->aN->Prop}
theorem aaq(h:CK K=ae):∃st,(((er K g9 300).ev (kl K) (DN K)).bind nq) xO.st=.ok 28 st/\st.σ.get 28=C (ae,.itR 0 4)/\r2 st 28=ae/\h1 ra 60 {st with σ:=st.σ.put cU 28 (ae,.raw 0)} (SC 0 [])=true:=by refine cF h λw e h=>?_;obtain(⟨n,st⟩):=w;obtain rfl:=d0 (bS h);exact(l8 st (ub e) (PO (bS (bC h))) (bS (bC (bC h))) (bC (bC (bC h))))
theorem ae1{W:rr}(F:u2 g.K)(a6:Good g)(U:c.Ok g 3)(V:cc c (kl g.K) env β)(H:Sat g c xO.st β s)(L:ET W)(bt:g.S<=500)(yA:20<=g.S)
  (Kv:W.K=g.K)(qS:β.ad[10]? =C (W.e4,W.e4))(pA:β.ad[11]? =C (W.ep,W.ep))(sg:β.ad[8]? =C W.fZ)(wr:β.aE[0]? =C W.room)(Th:g.M=W.M)(Te:c.A=W.A)(wp:∀a o,W.h0.get? a=C o->c.P a=C o)(dK:c.cx=W.cx)(ago:c.L=W.L)(wf:c.fr=W.fr)(ws:g.dU=W.dU)(wS:W.S=g.S+60)
  (next:∀(c₁:bc)(cV:cz)(aY:aZ) b0 root cM aA ga y,c₁.cx=W.cx->c₁.L=W.L->c₁.fr=W.fr->c₁.A=W.A->Good cV->cV.K=W.K->({c₁ with P:=cV.h₀.get?}:bc).Ok cV 3->Sat cV {c₁ with P:=cV.h₀.get?} rm.st aY b0->Gens cV W.after root cM aA ga->aY.ad[1]? =C root->aY.ad[8]? =C W.fZ->aY.ad[10]? =C (W.e4,W.e4)->aY.ad[11]? =C (W.ep,W.ep)->aY.ad[13]? =C (cM,cM)->
   (∃B,aY.ad[27]? =C B/\a0 aA "bare"=C (.ref B.1))->aY.aE[0]? =C W.room->sT cV->cV.M=W.M->(∀a o,W.h0.get? a=C o->cV.h₀.get? a=C o)->cV.dU=W.dU->20<=cV.S->cV.S<=W.S+300->a7 aY (aI 0) y->m7 (.ret y) b0):dX g c (cH (JY g.K::(kR g.K).drop 4) env) m7 E s:=by
 refine jQ (aaq F.start) λst q YC only Ic=>jm (OJ (h3:=g9) (ab:=kl g.K) a6 U V H zE F.set q λav ao a d l S aV=>?_);(refine a3 (R5 (aS rfl) S YC only) λJ dm=>aU J λdq fo I=>?_;try clear J);rw[aV] at fo;cases(fo);obtain AV:c.Ok (g.iter (ht 0 4)) 3:=⟨U.base,U.frames,U.here,U.hd,U.iX,U.depth,U.units,U.calm,U.dep⟩;have xE:Good (g.iter (ht 0 4)):=⟨⟨a6.ok.fl,a6.ok.top,a6.ok.S,a6.ok.low⟩,a6.lay,a6.raise⟩;refine mF (sb xE.ok AV dm Ic (by show g.S+60<=100000;exact bR (j3 (by assumption) _) (bA rfl))) λdr base N=>?_;obtain hn:=xE.re N.ok;obtain Fo:cc (c.re dr) (kl W.K) env (pull ra av):=by exact G Kv (G_ V l (ah:=ra) rfl)
 have ad:∀{i n:Nat}{x:az×az},cI ra.ad i=C n->β.ad[n]? =C x->(pull ra av).ad[i]? =C x:=λbN e=>dz bN (a4 l.ad e);have mm:({W with it:=a}:rr).K=g.K:=Kv;obtain T0:sX {W with it:=a} 0 0 (SC 0 []).st ((g.iter (ht 0 4)).re dr 60 (pull ra av) base) (c.re dr) (pull ra av) ao env:=⟨hn,Kv.symm,N.ct,Fo,N.sat,ad rfl sg,ad rfl qS,ad rfl pA,dz rfl aV,by obtain this:=kP (ah:=ra) (i:=0) (e:=.aL 0 ai 0) rfl (lU (c:=0) (a4 l.aE wr));refine G this ?_;simp,Th,Te,λa o e=>N.up a o (wp a o e),dK,ago,wf,ws,rfl,(λw hw=>absurd hw (xk _)),⟨by show W.S<=g.S+60;exact eJ (by assumption),by show g.S+60<=W.S+60*0;exact eJ (bW (by assumption))⟩⟩
 obtain g6:za ({W with it:=a}:rr).K=true:=by exact G mm F.g6
 obtain pT:u2 ({W with it:=a}:rr).K:=by exact G mm F
 obtain loop:=R7 (W:={W with it:=a}) (env:=env) (pos:=(JZ g.K).1) (R:=λr ao=>match r with|.ok f=>(match f with|.next=>a5 g.M c.A (cH ((kR g.K).drop 4) env) m7 E ao|f=>m7 f ao)|.error e=>nL g.M c.A env E e ao) ⟨L.lst,L.eS⟩ g6 (G mm F.at_) (by show W.S<=5000;lia) (λiN c₁ aW bg T=>by
   obtain SD:=ae3 (m7:=m7) (E:=E) (W:={W with it:=a}) pT T (by show W.S<=1000;exact wS▸bR (j3 bt 60) (bA rfl)) (by show 20<=W.S;lia) λcV aY b0 root cM aA ga y=>next c₁ cV aY b0 root cM aA ga y T.cx T.L T.fr T.a
   obtain afN:iN.M=W.M:=T.m;obtain pz:c₁.A=W.A:=T.a;show a5 g.M c.A (cH ((kR g.K).drop 4) env) m7 E bg;(refine G Th (G Te (G (bW afN) (G (bW pz) ?_))));rw[mm] at SD;exact SD) 4 0 _ _ _ ao rfl T0
 rw[mm] at loop;exact loop
end
noncomputable def n1(β:aZ):Nat->Nat:=λi=>((β.aE[i]?).getD 0).toNat
variable{fZ:az×az}{room:Int}
section
variable{c:bc}{s:aN}{Q:aB->aN->Prop}
theorem My{P:az->Option cj}{a:az}{st:St}(F:Facts g.S fX.ar st.aC st.ns β)(R:cN g P β a d (.list [aE 0,aE 1,aE 2,aE 3])):a=d/\(∃aH k,P a=C (W.listOf aH k)/\aH.size=4/\∀i,i<4->∃t,aH[i]? =C (.int (n1 β i:Int) t))/\∀i,i<4->n1 β i<=5:=by
 obtain(⟨e,aH,k,aa,af⟩):=R;obtain F:=F.aE;obtain bd:∀i,i<4->∃z:Int,β.aE[i]? =C z/\0<=z/\z<=5:=λi bN=>by
  obtain this:fX.ar[i]? =C xX:=by
   obtain this:i=0\/i=1\/i=2\/i=3:=by exact CZ i bN
   rcases this with rfl|rfl|rfl|rfl<;>rfl
  exact aU (F.get this) λz a8 r=>(fV z a8 r.1 r.2.1)
 have val:∀i,i<4->β.aE[i]? =C (n1 β i:Int)/\n1 β i<=5:=λi bN=>by
  refine eH (bd i bN) λz a8 Al D7=>?_;obtain e:n1 β i=z.toNat:=by unfold n1;exact G a8 rfl
  (refine G e (G a8 ?_));exact⟨congrArg C ((Av Al).symm),by exact Int.toNat_le.mpr D7⟩
 refine(fi e (d2 aH k aa ?_ (λi bN=>?_)) (λi bN=>(val i bN).2))
 .obtain this:=af.length;rw[w9] at this;exact this.symm
 .obtain this:[aE 0,aE 1,aE 2,aE 3][i]? =C (aE i):=by
   obtain this:i=0\/i=1\/i=2\/i=3:=by lia
   rcases this with rfl|rfl|rfl|rfl<;>rfl
  obtain(⟨y,bT,z,t,a8,rfl⟩):=af.get this;rw[pN] at bT;obtain a8:(bo.aL (0:Nat) ai i).val β=C z:=a8;rw[lU (val i bN).1] at a8;refine⟨t,?_⟩;(refine G bT (G (bW (c0 a8)) ?_));simp
theorem ae2(F:u2 g.K)(a6:Good g)(U:c.Ok g 2)(eB:c.P=g.h₀.get?)(H:Sat g c nX.st β s)(bt:g.S<=300)(yA:20<=g.S)(qS:β.ad[10]? =C (e4,e4))(pA:β.ad[11]? =C (ep,ep))(sg:β.ad[8]? =C fZ)(wr:β.aE[4]? =C room)
  (next:∀root cM aA ga br av ao y,Fd ⟨g.K,n1 β,room,e4,ep,fZ,g.M,c.A,g.h₀,g.dU,root,cM,aA,ga⟩ AZ br {c with P:=br.h₀.get?} av ao->a7 av (aI 0) y->Q y ao):jG g c (.ref 734) [.ref e4] Q E s:=by
 refine bG F.fn λkinds hG=>?_;obtain yu:nX.st.σ.get 10=C (ai,.list [aE 0,aE 1,aE 2,aE 3]):=by exact G ((b4.get (aS rfl)) _) rfl
 refine bG H.objs λf hf=>?_;obtain(⟨a,d,ji,jV,_⟩):=hf 10 ai _ yu;rw[qS] at ji;(obtain J:=aT ji;clear ji;refine a3 (eD J) λbU cv=>?_;clear J;subst bU;subst cv);(refine fO (My (st:=nX.st) H.facts (show cN g c.P β e4 e4 (.list [aE 0,aE 1,aE 2,aE 3]) from jV)) λ_ J eS=>fD J λaH k cJ cY fw=>?_;try clear J);rw[eB] at cJ;refine VQ (st:=nX.st) (names:=[bO "after"]) (aK:=[aI 10]) a6.ok U (aS rfl) hG (by simp) (.cons ⟨_,_,qS,rfl⟩ .nil) rfl H λL fT au fm cL bg uY bx hd aw cb AW Fp hI keep=>?_;obtain mw:rB g.K 734=(kR g.K).take 3++JY g.K::(kR g.K).drop 4:=by(refine G (bW F.rG) (G (q7 _ _) ?_));rfl
 refine G mw ?_;obtain lY:=F.head;unfold B8 at lY;refine Cm (ab:=kl g.K) (st:=fX.st) (p:=xO) (ah:=AR) (bY:=60) (h3:=CA g.K) a6 AW Fp hI (Z_ (g:=g.pin β) a6.pin.ok a6.pin.lay a6.pin.raise F.lim) lY (bR (j3 (by assumption) _) (bA rfl)) λbp aY b0 h₀ base en fB ho rp Fo hn=>?_;have ad:∀{i n:Nat}{x:az×az},cI AR.ad i=C n->β.ad[n]? =C x->(pull AR aY).ad[i]? =C x:=λbN e=>dz bN (a4 fB.ad e);refine ae1 (W:=⟨g.K,n1 β,e4,ep,fZ,0,room,g.M,c.A.deeper cL,g.h₀,(c.L,fT)::c.cx,L,cL::c.fr,g.dU,g.S+60+60⟩) F hn rp.ct Fo rp.sat ⟨(d2 aH k cJ cY fw),eS⟩ (by show g.S+60<=500;exact bR (j3 (by assumption) _) (bA rfl)) (by show 20<=g.S+60;exact bA rfl) rfl (ad rfl qS) (ad rfl pA) (ad rfl sg) ?_ rfl rfl (λa o e=>rp.up a o (AW.base a o e)) rfl rfl rfl rfl rfl λc₂ qi h2 dB root cM aA ga y dw dV hz pC lO fL L0 m8 E4 cB Vs j_ k0 k1 bare gL aD zt fP afb aeU kQ hR=>?_
 .obtain this:=kP (ah:=AR) (i:=0) (e:=.aL 0 ai 4) rfl (lU (c:=0) (a4 fB.aE wr));refine G this ?_;simp
 .have dI:({c₂ with P:=qi.h₀.get?}:bc)=({c with P:=qi.h₀.get?}:bc).enter L fT (cL::c.fr) (c.A.deeper cL):=by obtain(⟨b8,aht,ahk,fX,agW⟩):=c₂;dsimp only at dw dV hz pC;subst dw dV hz pC;rfl
  rw[dI] at L0 m8;obtain Fh:Sat qi {c with P:=qi.h₀.get?} AZ.st h2 dB:=Sat.leave (fS:=[("room",aE 0),("after",aI 10)]) m8 hd aw λx v e=>by
   rw[Ht] at e;split at e
   .rename_i ak;(obtain J:=aT e;clear e;subst J);obtain(⟨y,eV,z,t,dY,rfl⟩):=cb "room" (aE 4) rfl;obtain ak:x=bO "room":=(gr.mp ak).symm;subst ak;refine(bh _ eV ⟨z,t,?_,rfl⟩);obtain dY:(bo.aL (0:Nat) ai 4).val β=C z:=dY;rw[lU wr] at dY;show(bo.aL (0:Nat) ai 0).val h2=C z;exact G (lU gL) dY
   .rw[Ht] at e;split at e
    .rename_i ak;(obtain J:=aT e;clear e;subst J);obtain(⟨y,eV,a,d,dY,rfl⟩):=cb "after" (aI 10) rfl;obtain ak:x=bO "after":=(gr.mp ak).symm;subst ak;rw[qS] at dY;(obtain J:=aT dY;clear dY;refine a3 (eD J) λbU cv=>?_;clear J;subst bU;subst cv);exact(bh _ eV ⟨_,_,j_,rfl⟩)
    .exact bK e
  exact next root cM aA ga qi h2 dB y ⟨lO,fL,U.leave L0,Fh,rfl,E4,cB,Vs,j_,k0,k1,bare,gL,aD,zt,rfl,fP,afb,aeU,by obtain kQ:qi.S<=g.S+60+60+300:=kQ;exact bR kQ (bR (j3 (j3 (j3 bt 60) 60) 300) (bA rfl))⟩ hR
end
noncomputable def A0:b4:={rm with loc:=[("room",aE 0),("after",aI 10),("scope",aI 0)]}
structure E8(K:b5):Prop where
 scope:u2 K
 call:∃hl df dx fP iV,(fN K).drop 3=.Assign [.Name "scope" hl] (.Call (.Name "_law_scope" df) [.Name "after" dx] [] fP) iV::(fN K).drop 4
 PZ:g7 "scope" (lax K).scope.names=C .local
 PX:g7 "after" (lax K).scope.names=C .local
 PY:g7 "_law_scope" (lax K).scope.names=C .globalImplicit
 QT:lI K ik "_law_scope"=C (C (.ref 734))
section
variable{c:bc}{s:aN}
theorem Xd{P:az->Option cj}(V:cc c (lax K) env β)(sg:β.ad[8]? =C fZ)(agn:av.ad[8]? =C fZ):cc {c with P:=P} (lax K) env av:=by refine⟨V.scope,V.kind,V.glob,V.blt,V.loc,λx n e=>?_,V.frame,V.apart⟩;refine cA (V.cells x n e) λa ec df dx=>aU (Gl e) λy bT e=>?_;obtain rfl:=eu.mp bT;subst e;rw[sg] at dx;exact(gi a ec df (agn.trans dx))
theorem aba(F:E8 g.K)(a6:Good g)(U:c.Ok g 2)(V:cc c (lax g.K) env β)(eB:c.P=g.h₀.get?)(H:Sat g c nX.st β s)(bt:g.S<=300)(yA:20<=g.S)(qS:β.ad[10]? =C (e4,e4))(pA:β.ad[11]? =C (ep,ep))(sg:β.ad[8]? =C fZ)(wr:β.aE[4]? =C room)
  (next:∀root cM aA ga br av ao,Fd ⟨g.K,n1 β,room,e4,ep,fZ,g.M,c.A,g.h₀,g.dU,root,cM,aA,ga⟩ A0 br {c with P:=br.h₀.get?} av ao->cc {c with P:=br.h₀.get?} (lax g.K) env av->dX g c (cH ((fN g.K).drop 4) env) Q E ao):dX g c (cH ((fN g.K).drop 3) env) Q E s:=by
 refine acy F.call λhl df dx fP iV mw=>G mw ?_;have T:=H.toSatO.top U a6.ok;have X:=H.toSatO.fl U a6.ok;refine bG F.scope.fn λkinds hG=>?_;obtain(⟨bF,fU,fd,gb,as,an,ds,bE,_⟩):=hG;refine aU H.loc λm hm qn=>?_;obtain(⟨D6,hP,a,d,cB,rfl⟩):=qn "after" (aI 10) rfl;rw[qS] at cB;(obtain J:=aT cB;clear cB;refine a3 (eD J) λbU cv=>?_;clear J;subst bU;subst cv);obtain ei:s.heap.Ns env.locals m:=by exact G V.loc hm
 refine jm (AD (G ((oR (λI I I h=>by(injection h))) _ _) (b3 (mb V.kind (G (V.kindOf _) F.PY) (uC (G V.glob T.g) (mg_of X T.g F.QT) ?_) (by kernel_rfl)))));refine callWith_def (o:=⟨bF,fU,.func fd,gb⟩) (fd:=fd) rfl (kS (hE (hS V.kind (G (V.kindOf _) F.PX) ei hP ?_) (by kernel_rfl)));refine nN ⟨X _ _ bE,?_⟩;refine sx (ae2 F.scope a6 U eB H bt yA qS pA sg wr λroot cM aA ga br av ao y L r=>?_);have gY:cc {c with P:=br.h₀.get?} (lax g.K) env av:=Xd V sg L.fZ;obtain sn:=qN (X:=fY) L.good.ok L.ct gY "scope" (v:=aI 0) (y:=y) r av AZ.st ao (.refl _) L.sat;obtain tj:jf (lax g.K) "scope" (aI 0) AZ.st=.ok () A0.st:=by unfold jf;exact G F.PZ rfl
 unfold At at sn;rw[tj] at sn;obtain hP:br.M=g.M:=L.m;rw[hP] at sn;refine sn _ _ λI dB d9 l S I=>?_;have ad:∀{i:Nat}{x:az×az},av.ad[i]? =C x->d9.ad[i]? =C x:=λe=>a4 l.ad e;exact aU L.bare λB EX EY=>next root cM aA ga br d9 dB ⟨L.good,L.k,L.ct,S,L.eB,L.gens,ad L.cB,ad L.fZ,ad L.j_,ad L.k0,ad L.k1,(bh B (ad EX) EY),a4 l.aE L.room,L.aD,L.m,L.a,L.hl,L.dU,L.S⟩ (gY.le l)
end
theorem Wi:cs "lone"=[108,111,110,101]:=by kernel_rfl
theorem Wj:cs "wrapper__101_1"=cs "wrapper__"++eR 101++95:: [49]:=by kernel_rfl
theorem Td:∃t,cs "wrapper__101_1"=119::t:=⟨_,by exact G (show cs "wrapper__101_1"=119::(cs "wrapper__101_1").tail by kernel_rfl) rfl⟩
theorem abo(h:zp K=ae):wL (CX K) (lax K) mW 200 (oL tT)=ae/\∃st au,CX K=.ok .next st/\st.σ.get 3=C (ae,.dict au none)/\o8 st.ar st.aC au [de "wrapper__101_1",de "lone"]=ae/\st.σ.get 35=C (ae,.dict [] none):=by refine cF h λw e h=>?_;have q:=ub e;rw[abT (bS h)] at q;refine⟨by exact G q (bS (bC h)),w.2,?_⟩;refine cF (bS (bC (bC h))) λp bf af=>cF (bC af) λd cC aJ=>?_;obtain(⟨b,o⟩):=p;obtain(⟨au,mn⟩):=d;refine(l8 au q ?_ (bC aJ) (acf (bC (bC (bC h)))));exact G bf (G (show b=ae from bS af) (G (show o=_ from oU cC) (G (show mn=none from nO.mp (bS aJ)) rfl)))
section
variable{Y:xJ}{c:bc}{s:aN}
noncomputable def xJ.n_(Y:xJ)(fr:az×az)(hM d6:az)(c7:az×az)(raw:Nat->cj):gE:=⟨Y.K,Y.after,Y.room,Y.root,fr,Y.cM,Y.aA,Y.ga,hM,d6,Y.e4,Y.ep,Y.M,Y.A,Y.h0,c7,raw,Y.dU⟩
theorem aa9(F:zp g.K=ae)(L:Fd Y A0 g c β s)(V:cc c (lax g.K) env β)
  (next:∀fr hM d6 c7 br bI av ao fn aP,bP (Y.n_ fr hM d6 c7 br.raw) (oL tT) br bI av ao env fn aP 5 101->br.S=g.S+200->dX g c (cH ((fN g.K).drop 8) env) Q E ao):dX g c (cH ((fN g.K).drop 4) env) Q E s:=by
 obtain(⟨run,st,au,adb,aJ,fL,YE⟩):=abo F;obtain Yd:A0.st.σ.get 13=C (ai,.gone):=by exact G ((b4.get (aS rfl)) _) rfl
 refine aU L.gens.gen.dict λo eZ hp=>aU L.bare λB EX EY=>?_;obtain dm:Sat g c (I2 zo) β s:=R9 (au:=[(de "bare",aI 27)]) (abs:=zo) L.sat (aS rfl) Yd L.k1 (G L.eB eZ) hp L.gens.gen.ne (λe he=>by
   obtain rfl:=eu.mp he;exact⟨_,_,g8 _,by exact G (hk _) EY,B.1,B.2,EX,rfl⟩) (TN _ _) (λx ak=>by
   unfold zo at ak;rcases dh.mp ak with rfl|ak
   .refine(bh _ (g8 _) (L.gens.absent ?_ ?_ ?_))<;>(intro t e;rw[Wi] at e;simp at e)
   .obtain rfl:=eu.mp ak;(refine bG Td λw hw=>?_;try clear Td);refine(bh _ (g8 _) (L.gens.absent ?_ ?_ ?_))<;>(intro t e;rw[hw] at e;simp at e)) (λold h=>L.gens.gen.base old h) (by obtain this:=L.gens.gen.eS;obtain this:=L.S;lia)
 obtain bt:=L.S;obtain aw:g.K=Y.K:=L.k;obtain mw:(fN g.K).drop 4=((fN g.K).drop 4).take 4++(fN g.K).drop 8:=by refine G (show(fN g.K).drop 8=((fN g.K).drop 4).drop 4 by exact G Eo rfl) ?_;exact(q7 4 _).symm
 refine G mw (Cm (ab:=lax g.K) (st:=I2 zo) (p:=oL tT) (ah:=mW) (bY:=200) (h3:=g9) L.good L.ct V dm zE run (by lia) λbp aY ao h₀ base en l S N gY a6=>?_);have en:CX g.K=.ok .next bp:=en;rw[adb] at en;cases(en);obtain Uu:=S.facts;have ad:∀{i n:Nat}{x:az×az},cI mW.ad i=C n->β.ad[n]? =C x->(pull mW aY).ad[i]? =C x:=λbN e=>dz bN (a4 l.ad e);refine bG S.objs λf hf=>?_;obtain(⟨hM,d,ji,jV,_⟩):=hf 3 ae _ aJ;obtain(⟨g0,fns,of,fn,f1,f2,vs,f4,hL,_⟩):=(show cN g ao.heap.get? aY hM d (.dict au none) from jV);(clear jV;subst g0);obtain(⟨d6,d,v1,v2,_⟩):=hf 35 ae _ YE;obtain(⟨g0,ahB,ok,aP,bZ,c5,fF,jX,agm,_⟩):=(show cN g ao.heap.get? aY d6 d (.dict [] none) from v2);(clear v2;subst g0);have len:∀i,i<27->∃x,(pull mW aY).ad[i]? =C x:=λi bN=>⟨_,i5 (by show i<(mW.ad.map _).length;exact G (gB _) bN)⟩;refine bG (len 2 (aS rfl)) λfr tH=>bG (len 9 (aS rfl)) λc7 rO=>next fr hM d6 c7 (g.re h₀ 200 (pull mW aY) base) (c.re h₀) (pull mW aY) ao fn aP ⟨a6,L.k,N.ct,(by show cc (c.re h₀) (lax Y.K) env (pull mW aY);exact G (bW aw) gY),N.sat,rfl,?_,ad rfl L.cB,tH,dz rfl ji,dz rfl v1,ad rfl L.j_,ad rfl L.k0,ad rfl L.k1,?_,kP rfl rfl,kP rfl rfl,N.base _ _ _ f1 f2,N.base _ _ _ bZ c5,λk aw=>?_,λk aw=>?_,by show 20<=g.S+200;exact bA rfl,by exact aS rfl,B3 N,L.m,L.a,λa o e=>N.up a o (L.hl a o e),rO,rfl,L.dU⟩ rfl
 .exact L.gens.re rfl rfl (λb x e=>N.up b x (L.ct.base b x e)) (gu _ _) λold h=>by obtain this:=B3 (dQ:=pull mW aY) N Y.cM o Y.aA old (N.up _ _ (G L.eB eZ)) hp h;exact this.symm
 .obtain this:=kP (ah:=mW) (i:=2) (e:=.aL 0 ai 0) rfl (lU (c:=0) (a4 l.aE L.room));refine G this ?_;show C ((0:Int)+Y.room)=C Y.room;exact G (Ew _) rfl
 .refine aU (hL k aw) λe he ev=>aU (vW Uu fL (λx ak=>by
   rcases dh.mp ak with rfl|ak
   .exact⟨_,g8 _⟩
   .obtain rfl:=eu.mp ak;exact⟨_,g8 _⟩) e he _ ev) λx ak bf=>?_
  rcases dh.mp ak with rfl|ak
  .rw[g8] at bf;refine .inr (.inr ⟨101,[49],by exact aS rfl,by exact aS rfl,.inl ?_⟩);exact G (bW (c0 bf)) Wj
  .obtain rfl:=eu.mp ak;rw[g8] at bf;refine .inr (.inl ?_);(refine G (show aR (cs "lone")=aR (cs k) by exact G (bW (c0 bf)) rfl) ?_;exact G (hk _) rfl)
 .refine aU (agm k aw) λe he I=>?_;cases he
end
theorem afF{ar:List b6}:(oL ar).os.all (λx=>!l1 x.2)=true:=by show(oL []).os.all (λx=>!l1 x.2)=ae;kernel_rfl
structure L6(K:b5):Prop where
 runs:Hn K=ae
 keeps:Hm K=ae
 set:isSet (I1 K)=ai
 rG:(fN K).drop 8=Qf K::(fN K).drop 9
theorem WT(zs:List Int)(k:Nat):∃w:Nat,w<4/\fk zs k 4=(w:Int):=by exact a3 (tx (a:=pq zs k) (b:=4) (aS rfl)) λdc dA=>(bh ((fk zs k 4).toNat) (by unfold fk;exact(LC dc).mpr (T4 dA)) (by unfold fk;exact(Av dc).symm))
theorem X6{d:Nat}(h:OI K d=ae)(ay:Hl K d=ae):∃n st,tA K d=.ok n st/\n<10000000/\st.σ.get n=C (ae,.itR 0 (3+d))/\r2 st n=ae/\h1 (uU n) 60 {st with σ:=st.σ.put cU n (ae,.raw 0)} dG=ae/\zf {st with σ:=st.σ.put cU n (ae,.raw 0)} []=true:=by unfold Hl at ay;refine cF h λw e h=>?_;rw[ub e] at ay;exact(uu w.1 w.2 (ub e) (bA (bS h)) (PO (bS (bC h))) (bS (bC (bC h))) (bC (bC (bC h))) ay)
section
variable{X:gE}{c:bc}{s:aN}
theorem bP.acg(T:bP X p g c β s env fn aP at_ N)(b7:p.os.all (λx=>!l1 x.2)=ae)(aX:p.os.length<=10000000)(dp:cj):bP (X.iter dp) p (g.iter dp) c β s env fn aP at_ N:=by
 have H:=T.sat;refine bG H.objs λf hf=>?_;obtain S:Sat (g.iter dp) c p.st β s:=by refine⟨⟨H.keep,H.cx,⟨f,λn own y q=>?_⟩,H.len,H.facts,H.ghost⟩,H.os,H.loc⟩;obtain(⟨ef,fK,g1,g2,g3⟩):=hf n own y q;rw[b4.get aX] at q;obtain qD:=eX.mp b7 _ (ma q);exact⟨ef,fK,g1,cN.iter (by simpa using qD) g2,g3⟩
 refine⟨⟨⟨T.good.ok.fl,T.good.ok.top,T.good.ok.S,T.good.ok.low⟩,T.good.lay,T.good.raise⟩,T.k,⟨T.ct.base,T.ct.frames,T.ct.here,T.ct.hd,T.ct.iX,T.ct.depth,T.ct.units,T.ct.calm,T.ct.dep⟩,T.env,S,T.eB,T.gens.re rfl rfl (λI I e=>e) (dP _) λold h=>?_,T.cB,T.el,T.gF,T.jL,T.j_,T.k0,T.k1,T.room,T.oe,T.ed,T.s9,T.oP,T.keys,λk aw=>?_,T.S,T.m5,T.aD,T.m,T.a,T.hl,T.hJ,rfl,T.dU⟩
 .exact aU T.gens.gen.dict λo a9 bf=>T.aD _ _ _ _ a9 bf h▸rfl
 .exact eH (T.ents k aw) λch aa af aJ=>(fV ch aa af (aJ.re rfl rfl (λI I e=>e) (dP _) (λI I=>rfl) λI I=>rfl))
set_option tactic.hygienic true in
theorem X_(h:101<=S)(F:bL (hc S) tT zs):bL (hc S) tA.Cv zs:=by
 unfold tT at F;unfold tA.Cv;cases F with
 |cons h0 F=>cases F with
  |cons aa F=>cases F with
   |cons af F=>cases F with
    |cons aJ F=>cases F with
     |cons bl F=>cases F with
      |cons cQ F=>
       cases F;have w:∀(a b z dq dF:Int),hc S (a,b,none) z->dq<=a->b<=dF->b<=101->hc S (dq,dF,C 0) z:=λa b z dq dF r aa af aJ=>by(refine fO r λdc dA _=>?_;try clear r);obtain dc:a<=z:=dc;obtain dA:z<=b:=dA;refine⟨show dq<=z by exact gk (by assumption) (by assumption),show z<=dF by exact gk (by assumption) (by assumption),λj cE=>?_⟩;(obtain J:=aT cE;clear cE;subst J);lia
       refine .cons h0 (.cons (w _ _ _ _ _ aa (aS rfl) (aS rfl) (aS rfl)) (.cons af (.cons (w _ _ _ _ _ aJ (aS rfl) (aS rfl) (aS rfl)) (.cons (w _ _ _ _ _ bl (aS rfl) (aS rfl) (aS rfl)) (.cons ?_ .nil)))));rename_i D7;(refine fO cQ λdc dA _=>?_;try clear cQ);obtain dc:5<=D7:=dc;obtain dA:D7<=5:=dA;exact⟨gk (aS rfl) dc,gk dA (aS rfl),λj cE=>by exact bK cE⟩
theorem aa8(F:L6 g.K)(T:bP X (oL tT) g c β s env fn aP 5 101)(W:Own X zs)(bt:101<=g.S/\g.S<=3000)
  (loop:∀(c7:az) br bI av ao fn aP m,Own {X with c7:=(c7,c7)} zs->bP (({X with c7:=(c7,c7)}:gE).iter (ht 0 m)) T0 br bI av ao env fn aP 6 101->m<=6->br.S<=g.S+60->ft g.M c.A (.forLoop (.Name "turn" (CS g.K).1) (.ref c7) (ea g.K) [] env) (λr ao=>match r with|.ok f=>m7 f ao|.error e=>nL g.M c.A env E e ao) ao):a5 g.M c.A (i4 (Qf g.K) env) m7 E s:=by
 have T:=T.bounds (dJ:=oL tA.Cv) rfl (X_ bt.1 T.sat.facts.aE);have aw:g.K=X.K:=T.k;refine aU (WT zs (5+0+1)) λw hw hd=>?_;have QM:w∈four:=by unfold four;simp only[dh,lL,or_false];lia
 refine ih (X6 (eX.mp F.runs w QM) (eX.mp F.keeps w QM)) λn st q aO hit only Ic Zt=>?_;obtain f9:fu (g.pin β) (p_ [(0,4,(w:Int))]):=vp T.good.ok (aw▸W.draw) (W.lists (n:=5) T (.refl _) (aS rfl)) λx ak=>by obtain rfl:=eu.mp ak;exact(fi (l9 _) (show(0:Int)<4 by exact aS rfl) hd)
 obtain V:cc c (lax g.K) env β:=by exact G aw T.env
 unfold tA at q;refine OJ (ab:=lax g.K) T.good T.ct V T.sat f9 F.set q λav ao a d l S aV=>?_;(refine a3 (R5 aO S hit only) λJ dm=>aU J λdq fo I=>?_;try clear J);rw[aV] at fo;cases(fo);obtain dG:=T.acg afF (show(oL []).os.length<=10000000 by exact aS rfl) (ht 0 (3+w));refine fD (SM (dJ:=T0) (ah:=uU n) (k:=1) (fM:=[]) dG l dm (λi bN=>by obtain e:(uU n).ad=(uU 0).ad.set 9 n:=rfl;(refine G (f3 _ _) (G e (G (List.getElem?_set_ne (j1 bN.2)) ?_));refine G (bW (f3 _ _)) ?_);exact(aS rfl:∀i,i<27->i≠9->cI (uU 0).ad i=C i) i bN.1 bN.2) rfl Ic Zt (by exact rfl) (by show g.S+60<=9000;lia) λx ak=>(nomatch ak)) λbr bI bX ez I=>?_
 obtain et:(pull (uU n) av).ad[9]? =C (a,a):=dz rfl aV;obtain ez:br.S=g.S+60:=ez;exact loop a br bI _ ao fn aP (3+w) ⟨W.draw,W.chain,W.other,W.mr,W.eS,W.vb⟩ (bX _ et) (by lia) (eJ ez)
end
noncomputable def Fc(K:b5)(zs:List Int):Prop:=∀(X:gE)(env:hB)(pos:cq)(p6:az)(R:Result->aN->Prop),X.K=K->Own X zs->X.c7=(p6,p6)->(∀ao,(∀a o,X.h0.get? a=C o->ao.heap.get? a=C o)->ao.os=X.dU.os/\ao.gens=X.dU.gens->R (.ok .next) ao)->
 (∀ao,(∀a o,X.h0.get? a=C o->ao.heap.get? a=C o)->ao.os=X.dU.os/\ao.gens=X.dU.gens->R (.ok (.ret (.bool ae))) ao)->
 ∀(left i:Nat)(g:cz)(c:bc)(β:aZ)(s:aN)(fn aP:List (aM×aB))(a N:Int),bP (X.iter (ht i left)) T0 g c β s env fn aP a N->i+left<=6->g.S+180*left<=8000->a+4*left<=3000->ft g.M c.A (.forLoop (.Name "turn" pos) (.ref p6) (ea X.K) [] env) R s
structure E7(K:b5):Prop where
 Qe:E8 K
 rG:L6 K
 draws:BH K=ae
 rX:zp K=ae
 draw:pR K
 chain:uV K
 other:xN K
 ret:∃q df dx,(fN K).drop 9=[.Return (C (.Constant (.bool ae) q df)) dx]
section
variable{c:bc}{s:aN}
theorem WU(O:g.Ok)(F:pR g.K)(pA:β.ad[11]? =C (ep,ep))(mr:∃aH k,g.h₀.get? ep=C (W.listOf aH k)/\bL (λ(z:Int) y=>∃t,y=.int z t) zs aH.toList)(eS:zs.length<=1000):fu (g.pin β) GW:=
 N5 (g:=g.pin β) (zs:=zs) (iB:=11) (D:=N1) (⟨O.fl,O.top,O.S,O.low⟩) F {
  cells:=by(refine cA mr λaH k aa af=>?_;try clear mr);exact(w3 ep aH k (λav a_=>a4 a_.ad pA) aa af)
  eS:=eS
  draw:=λav a_ e eI r cb=>cu cb λn aa cb=>cu cb λm af cb=>omap cb λI q cb=>by subst cb;have q:=my q;(refine G (QY aa) (G (we af) ?_));exact(l8 n rfl (bR (bA (bS q)) (aS rfl)) (mU.mpr (bA (bC q))) (λv h=>by(injection h)))}
theorem aa7(F:E7 g.K)(loop:Fc g.K zs)(a6:Good g)(U:c.Ok g 2)(V:cc c (lax g.K) env β)(H:Sat g c fJ.st β s)(bt:g.S<=200)(yA:20<=g.S)(pA:β.ad[11]? =C (ep,ep))(mr:∃aH k,g.h₀.get? ep=C (W.listOf aH k)/\bL (λ(z:Int) y=>∃t,y=.int z t) zs aH.toList)(eS:zs.length<=1000)
  (fin:∀ao,(∀a o,g.h₀.get? a=C o->ao.heap.get? a=C o)->ao.os=g.dU.os/\ao.gens=g.dU.gens->Q (.ret (.bool ae)) ao):dX g c (cH ((fN g.K).drop 1) env) Q E s:=by
 obtain mw:(fN g.K).drop 1=((fN g.K).drop 1).take 2++(fN g.K).drop 3:=by refine G (show(fN g.K).drop 3=((fN g.K).drop 1).drop 2 by exact G Eo rfl) ?_;exact(q7 2 _).symm
 refine G mw ?_;obtain NY:=F.draws;unfold BH at NY;refine Cm (ab:=lax g.K) (st:=fJ.st) (p:=nX) (ah:=nT) (bY:=60) (h3:=GW) a6 U V H (WU a6.ok F.draw pA mr eS) NY (bR (j3 (by assumption) _) (bA rfl)) λbp aY ao h₀ base en l S N gY fx=>?_;have up:∀a o,g.h₀.get? a=C o->h₀.get? a=C o:=λa o e=>N.up a o (U.base a o e);obtain agl:(pull nT aY).ad[11]? =C (ep,ep):=dz rfl (a4 l.ad pA);have ho:Sat (g.re h₀ 60 (pull nT aY) base) (c.re h₀) nX.st (pull nT aY) ao:=N.sat;obtain yu:nX.st.σ.get 10=C (ai,.list [aE 0,aE 1,aE 2,aE 3]):=by exact G ((b4.get (aS rfl)) _) rfl
 obtain Hr:nX.st.σ.get 8=C (ae,.cell (C (aI 7))):=by exact G ((b4.get (aS rfl)) _) rfl
 refine bG ho.objs λf hf=>?_;obtain(⟨e4,d,ji,jV,_⟩):=hf 10 ai _ yu;(refine fO (My (st:=nX.st) ho.facts (show cN (g.re h₀ 60 (pull nT aY) base) h₀.get? (pull nT aY) e4 d (.list [aE 0,aE 1,aE 2,aE 3]) from jV)) λg0 J ahq=>fD J λaH k cJ cY fw=>?_;try clear J);(clear jV;subst g0);obtain(⟨fZ,GD,v1,_⟩):=hf 8 ae _ Hr;obtain⟨room,cb⟩:∃z,(pull nT aY).aE[4]? =C z:=⟨_,i5 (by show 4<(nT.aE.map _).length;exact G (gB _) (aS rfl))⟩;refine aba (g:=g.re h₀ 60 (pull nT aY) base) (c:=c.re h₀) (e4:=e4) (ep:=ep) (fZ:=(fZ,GD)) (room:=room) F.Qe fx N.ct gY rfl ho (by show g.S+60<=300;exact bR (j3 (by assumption) _) (bA rfl)) (by show 20<=g.S+60;exact bA rfl) ji agl v1 cb λroot cM aA ga iN aW bg L Fp=>?_;have Cb:iN.K=g.K:=L.k;have m₁:iN.M=g.M:=L.m;have kQ:=L.S;obtain rX:=aa9 (Y:=⟨g.K,n1 (pull nT aY),room,e4,ep,(fZ,GD),g.M,c.A,h₀,g.dU,root,cM,aA,ga⟩) (g:=iN) (Q:=Q) (E:=E) (s:=bg) (G Cb F.rX) L (G Cb Fp) λfr hM d6 c7 cV c₂ h2 b0 fn aP T ez=>by
  have HW:cV.K=g.K:=T.k;have m₂:cV.M=g.M:=T.m;have ef:c₂.A=c.A:=T.a;obtain U1:Own ((⟨g.K,n1 (pull nT aY),room,e4,ep,(fZ,GD),g.M,c.A,h₀,g.dU,root,cM,aA,ga⟩:xJ).n_ fr hM d6 c7 cV.raw) zs:=⟨F.draw,F.chain,F.other,(by(refine cA mr λaH k a9 bf=>?_;try clear mr);exact(gi aH k (up _ _ a9) bf)),eS,aH,k,cJ,fw⟩
  obtain kC:=aa8 (g:=cV) (m7:=λf ao=>match f with|.next=>a5 cV.M c₂.A (cH ((fN g.K).drop 9) env) Q E ao|f=>Q f ao) (E:=E) (G HW F.rG) T U1 (by lia) λa qi NH pP dB eN es m mm bX hm YL=>by
   obtain rY:=loop _ env (CS cV.K).1 a (λr ao=>match r with|.ok f=>(match f with|.next=>a5 cV.M c₂.A (cH ((fN g.K).drop 9) env) Q E ao|f=>Q f ao)|.error e=>nL cV.M c₂.A env E e ao) rfl mm rfl (λao k os=>by refine wo F.ret λq df dx W7=>?_;show a5 cV.M c₂.A (cH ((fN g.K).drop 9) env) Q E ao;exact G W7 (jm (uz (wpAny_Constant_bool (fin ao (λa o e=>k a o (up a o e)) os))))) (λao k os=>fin ao (λa o e=>k a o (up a o e)) os) m 0 qi NH pP dB eN es 6 101 bX (bR (mc (by assumption) _) (bA rfl)) (by lia) (by lia)
   obtain abJ:qi.M=g.M:=bX.m;obtain Vo:NH.A=c.A:=bX.a;rw[abJ,Vo] at rY;rw[m₂,ef] at rY ⊢;rw[HW] at rY ⊢;exact rY
  rw[m₂,ef] at kC;rw[HW] at kC;show a5 iN.M c.A (cH ((fN iN.K).drop 8) env) Q E b0;(refine G m₁ (G Cb (G F.rG.rG ?_)));exact jm kC
 rw[Cb] at rX;obtain rX:a5 iN.M c.A (cH ((fN g.K).drop 4) env) Q E bg:=rX;rw[m₁] at rX;exact rX
end
noncomputable def Bm(p:Nat->cq):Stmt:=.Assign [.Name "bag" (p 0)] (.Dict [C (.Constant (.str "cells") 0 (p 1)),C (.Constant (.str "at") 0 (p 2))] [.Subscript (.Name "script" (p 3)) (.Slice none (C (.Constant (.int 60) 0 (p 4))) none (p 5)) (p 6),.Constant (.int 0) 0 (p 7)] (p 8)) (p 9)
section
variable{s:aN}{a aC:az}{aK:List aB}{ns:List Int}
theorem Vx{p:Nat->cq}(eU:env.scope.kind=.function)(ks:env.kindOf "script"=C .local)(vV:env.kindOf "bag"=C .cell)(bb:env.cells.lookup (bO "bag")=C aC)(ei:s.heap.Ns env.locals m)(hm:m "script"=C (.ref a))(aX:s.heap.IsList a aK.toArray)(bN:IntsAre aK ns)(eS:ns.length<=63)(vB:s.heap.IsCell aC none)(gw:env.locals≠aC)
  (next:∀ay t cX aH,ay.DictOf (strKind prog w) s.heap.objs.size [(bO "cells",.ref (s.heap.objs.size+2)),(bO "at",.int 0 t)]->ay.get? (s.heap.objs.size+2)=C (W.listOf aH 0)->IntsAre aH.toList (ns.take 60)->ay.IsCell aC (C (.ref s.heap.objs.size))->(∀b o,b≠aC->s.heap.get? b=C o->ay.get? b=C o)->ay.Ns env.locals m->Q .next {s with heap:=ay,toks:=cX}):a5 (c9 prog w) A (i4 (Bm p) env) Q E s:=by
 unfold Bm;obtain rR:aK.length=ns.length:=bN.length;(refine aU vB λbF d_ Y8=>?_;try clear vB);have vk:aC<s.heap.objs.size:=fW d_;refine AD (wpAny_Dict_walk (knd:=strKind prog w) rfl rfl (by simp) (show 2<=15 by exact aS rfl) (Le (xd (q1 (hE (hS eU ks (show kT _ _ _ from ei.push _) hm ?_) (by kernel_rfl))))));refine wpAny_Slice (evalPart_none_step (evalPart_some_step (nQ (evalPart_none_step ?_))));have up1:∀b o,s.heap.get? b=C o->(s.heap.push {cls:=.type "dict",data:=.dict #[]}).get? b=C o:=λb o e=>f6 _ e;obtain oK:(s.heap.push {cls:=.type "dict",data:=.dict #[]}).IsList a aK.toArray:=by(refine aU aX λo e r=>?_;try clear aX);exact⟨o,up1 _ _ e,r⟩
 have fJ:((s.heap.push {cls:=.type "dict",data:=.dict #[]}).push (lz .none (.int 60 (s.toks+1)))).IsList a aK.toArray:=by(refine aU oK λo e r=>?_;try clear oK);exact⟨o,f6 _ e,r⟩
 refine mP (s:={s with heap:=(s.heap.push {cls:=.type "dict",data:=.dict #[]}).push (lz .none (.int 60 (s.toks+1))),toks:=s.toks+1+1}) fJ.typeIs xg.lookup ?_ (J_ _ _ _ _ _);refine T7 (s:={s with heap:=(s.heap.push {cls:=.type "dict",data:=.dict #[]}).push (lz .none (.int 60 (s.toks+1))),toks:=s.toks+1+1}) fJ (TP ..) .none (.int 60 _) .none (by simp) ?_ (by refine G List.size_toArray (G ku ?_);lia);refine Le (xd (nQ (pairTrees_nil_walk ?_)));have uh:∀(x:aM)(t:Tok),(strKind prog w).is x (.str x t)=true:=λx t=>by obtain this:=EH prog w (aR (cs x)) t;rwa [hk] at this
 let aa:=s.heap.push {cls:=.type "dict",data:=.dict #[]};let af:=aa.push (lz .none (.int 60 (s.toks+1)));obtain afE:aa.objs.size=s.heap.objs.size+1:=Er ..;have Sv:af.objs.size=s.heap.objs.size+2:=(Er ..).trans (G afE rfl);have Kj:∀b o,s.heap.get? b=C o->(af.push {cls:=.type "list",data:=.seq (q3 aK.toArray none (C 60) none)}).get? b=C o:=λb o e=>f6 _ (f6 _ (up1 b o e));obtain gl:(af.push {cls:=.type "list",data:=.seq (q3 aK.toArray none (C 60) none)}).get? (s.heap.objs.size+2)=C (W.listOf (q3 aK.toArray none (C 60) none) 0):=by obtain this:=nP af (o:={cls:=.type "list",data:=.seq (q3 aK.toArray none (C 60) none)}) rfl;rwa [Sv] at this
 obtain kt:=kmk_upto (y:=60) bN (aS rfl);refine(fV [(bO "cells",.ref (s.heap.objs.size+2)),(bO "at",.int 0 _)] ⟨uh _ _,by exact G (bW Sv) rfl,uh _ _,rfl,trivial⟩ (((Uc s.heap).push _).push _) (λay hd aD=>?_));obtain e9:∀x y:aB,merged [] [(bO "cells",x),(bO "at",y)]=[(bO "cells",x),(bO "at",y)]:=λx y=>merged_nil_of_nodup _ (show[bO "cells",bO "at"].Nodup by exact aS (by kernel_rfl));rw[e9] at hd;obtain HH:ay.IsCell aC none:=⟨bF,(aD.2 aC (kr vk)).trans (Kj _ _ d_),Y8⟩;refine wpAny_storeName_cell eU vV bb (show Heap.IsCell _ _ _ from HH) λrK Y1 B2=>?_;obtain UI:env.locals≠s.heap.objs.size:=kr ei.lt;refine next rK _ _ (q3 aK.toArray none (C 60) none) (hd.sameBut B2 (pF vk)) ((B2.2 _ ?_).trans ((aD.2 _ ?_).trans gl)) kt Y1 (λb o hi e=>(B2.2 b hi).trans ((aD.2 b (kr (fW e))).trans (Kj b o e))) ?_
 .exact pF (ij vk (gu _ _))
 .exact pF (w8 (aS rfl))
 .exact((ei.keeps Kj).extBut aD.extBut UI).extBut B2.extBut gw
end
theorem aaf{aK:List aB}{ns:List Int}(h:IntsAre aK ns):bL (λ(z:Int) y=>∃t,y=.int z t) ns aK:=by
 induction h with
 |nil=>exact .nil
 |cons _ _ _ bj=>exact .cons ⟨_,rfl⟩ bj
noncomputable def oK:b4:=⟨gone 7++ [own (.dict [(de "cells",aI 11),(de "at",li 0)] none),own (.cell (C (aI 7))),fix .gone,fix .gone,own (.raw 0)]++gone 15,[],[],0,[]⟩
noncomputable def Cy:cW:=⟨pH 27,[],[],[]⟩
theorem aa1:h1 Cy 60 oK.st fJ=true:=by kernel_rfl
theorem DS{a own:Bool}{x:O}(h:C (a,x)=C (own,o)):own=a/\o=x:=by(obtain J:=aT h;clear h;refine a3 (eD J) λbU cv=>?_;clear J;subst bU;subst cv);exact⟨rfl,rfl⟩
theorem gone_get{l:List (Bool×O)}:∀{n:Nat}{own:Bool}{o:O},(gone k++l)[n]? =C (own,o)->(own=ai/\o=.gone)\/∃m,n=m+k/\l[m]? =C (own,o):=by
 induction k with
 |zero=>exact λh=>.inr (bh _ rfl h)
 |succ k bj=>
  intro n own o h;induction n using hD with
  |zero=>exact .inl (DS h)
  |succ n=>exact(bj (n:=n) h).imp_right λgd=>(by(refine aU gd λm e q=>?_;try clear gd);exact(bh m (congrArg (·+1) e) q))
theorem aa0{own:Bool}(h:oK.os[n]? =C (own,o)):n<27/\((own=ai/\o=.gone)\/(n=7/\own=ae/\o=.dict [(de "cells",aI 11),(de "at",li 0)] none)\/(n=8/\own=ae/\o=.cell (C (aI 7)))\/(n=11/\own=ae/\o=.raw 0)):=by
 refine⟨(j2.mp h).1,?_⟩;have h:(gone 7++([MI.own (.dict [(de "cells",aI 11),(de "at",li 0)] none),MI.own (.cell (C (aI 7)))]++(gone 2++MI.own (.raw 0)::(gone 15++ []))))[n]? =C (own,o):=h;rcases gone_get h with h|⟨m,rfl,h⟩
 .exact .inl h
 induction m using hD with
 |zero=>exact .inr (.inl ⟨rfl,DS h⟩)
 |succ m=>
  induction m using hD with
  |zero=>exact .inr (.inr (.inl ⟨rfl,DS h⟩))
  |succ m=>
  rcases gone_get (n:=m) h with h|⟨m,rfl,h⟩
  .exact .inl h
  induction m using hD with
  |zero=>exact .inr (.inr (.inr ⟨rfl,DS h⟩))
  |succ m=>
   rcases gone_get (n:=m) h with h|⟨m,rfl,h⟩
   .exact .inl h
   .exact nomatch h
noncomputable def n2(D aC Cl:az):aZ:=⟨[(0,0),(0,0),(0,0),(0,0),(0,0),(0,0),(0,0),(D,D),(aC,aC),(0,0),(0,0),(Cl,Cl),(0,0),(0,0),(0,0),(0,0),(0,0),(0,0),(0,0),(0,0),(0,0),(0,0),(0,0),(0,0),(0,0),(0,0),(0,0)],[],[],[]⟩
theorem VV:(bO "cells")≠bO "at":=by exact aS (by kernel_rfl)
theorem Vy{x:aB}:a0 [(bO "cells",x),(bO "at",y)] (bO "cells")=C x/\a0 [(bO "cells",x),(bO "at",y)] (bO "at")=C y/\∀k,a0 [(bO "cells",x),(bO "at",y)] k≠none->k=bO "cells"\/k=bO "at":=by
 refine(fi ?_ ?_ (λk h=>?_))
 ·(exact G (lE _ _ _) (G (if_pos rfl) rfl))
 ·(exact G (lE _ _ _) (G (if_neg VV) (G (lE _ _ _) (G (if_pos rfl) rfl))))
 .by_cases e:bO "cells"=k
  .exact .inl e.symm
  .by_cases cf:bO "at"=k
   .exact .inr cf.symm
   .rw[lE,if_neg e,lE,if_neg cf] at h;exact absurd rfl h
section
variable{p:q5}{s:aN}{L a aC D Cl:az}{aK:List aB}{ns:List Int}
noncomputable def yx(prog:q5)(w:World)(K:b5)(bg:aN)(p:q5)(loose:List aM)(iS iR:aM->Option aB)(β:aZ)(aH:Array aB):cz:=⟨prog,w,K,bg.heap,p,loose,iS,iR,30,β,λI=>none,λI=>W.listOf aH 0,bg⟩
noncomputable def yh(bg:aN)(env:hB)(L:az):bc:=⟨bg.heap.get?,[],[env],L,xv.deeper env⟩
theorem aeX{t:Tok}{cX:Nat}{aH:Array aB}(keep:∀b o,bg.heap.get? b=C o->ay.get? b=C o)(H9:s.os=bg.os)(HP:s.gens=bg.gens)(QS:bg.heap.get? D=none)(QR:bg.heap.get? aC=none)(nl:bg.heap.get? Cl=none)(dL:D≠L)(MZ:aC≠L)(Qc:Cl≠L)(WK:D≠aC)(dl:D≠Cl)(cl:aC≠Cl)(dsys:D≠kv)
  (hh:ay.DictOf (strKind prog w) D [(bO "cells",.ref Cl),(bO "at",.int 0 t)])(aX:ay.get? Cl=C (W.listOf aH 0))(bb:ay.IsCell aC (C (.ref D)))(ei:ay.Ns L m):
  Sat (yx prog w K bg p loose iS iR (n2 D aC Cl) aH) (yh bg env L) oK.st (n2 D aC Cl) {s with heap:=ay,toks:=cX}:=by
 have free:∀{b:az},bg.heap.get? b=none->b≠L->(yh bg env L).gV b:=λaa af=>⟨aa,af,λx ak=>(nomatch ak)⟩;refine⟨⟨keep,λx ak=>(nomatch ak),⟨λx=>if x=D then 7 else if x=aC then 8 else 11,λn own o q=>?_⟩,rfl,⟨.nil,.nil,.nil,rfl,λl aX=>(nomatch aX)⟩,.refl _⟩,⟨H9,HP⟩,m,ei,λx v e=>by exact bK e⟩;rw[b4.get (aS rfl)] at q;refine a3 (aa0 q) λlt h=>?_;rcases h with⟨rfl,rfl⟩|⟨rfl,rfl,rfl⟩|⟨rfl,rfl,rfl⟩|⟨rfl,rfl,rfl⟩
 .exact⟨_,_,i5 lt,trivial,λz=>by exact c8 z⟩
 .refine aU (sq.mp hh) λo aa af=>fO (Vy (x:=.ref Cl) (y:=.int 0 t)) λv1 v2 wZ=>?_;have dI:ag.val (n2 D aC Cl) (de "cells")=C (cs (bO "cells")):=g8 _;have ja:ag.val (n2 D aC Cl) (de "at")=C (cs (bO "at")):=g8 _;refine⟨D,D,rfl,⟨rfl,dsys,o,_,aa,af,λe he=>?_,?_,λk aw=>?_,dP _⟩,λI=>⟨if_pos rfl,if_pos rfl,free QS dL,free QS dL,by intro e;(injection e)⟩⟩
  .rcases dh.mp he with rfl|he
   .exact⟨_,_,dI,by exact G (hk _) v1,_,_,rfl,rfl⟩
   .obtain rfl:=eu.mp he;exact⟨_,_,ja,by exact G (hk _) v2,0,t,rfl,rfl⟩
  .refine xb.mpr ⟨λf hf=>?_,TN _ _⟩;obtain rfl:=eu.mp hf;(refine G dI (G ja ?_));exact aS (by kernel_rfl)
  .rcases wZ k aw with rfl|rfl
   .exact(bh _ (.head _) dI)
   .exact(bh _ (.tail _ (.head _)) ja)
 ·(refine aU bb λo aa af=>?_;try clear bb);have OA:(if aC=D then 7 else if aC=aC then 8 else 11)=8:=by exact G (if_neg (j1 WK)) (G (if_pos rfl) rfl)
  exact⟨aC,aC,rfl,⟨rfl,o,_,aa,af,_,rfl,D,D,rfl,rfl⟩,λI=>⟨OA,OA,free QR MZ,free QR MZ,by intro e;(injection e)⟩⟩
 .have eM:(if Cl=D then 7 else if Cl=aC then 8 else 11)=11:=by exact G (if_neg (j1 dl)) (G (if_neg (j1 cl)) rfl)
  exact⟨Cl,Cl,rfl,⟨rfl,aX,λaK e=>by(injection e)⟩,λI=>⟨eM,eM,free nl Qc,free nl Qc,by intro e;(injection e)⟩⟩
end
section
variable{p:q5}{s:aN}{L a aC:az}{aK:List aB}{ns:List Int}
theorem abp(T:sG p loose iS iR h):kv<h.objs.size:=by
 (refine aU T.nolimit λqB J I=>wq J λo au fm bx I=>?_;try clear J);obtain af:=fW bx;obtain this:kv<cStatics:=by exact aS rfl
 exact sv this af
theorem VR(env:hB):(xv.deeper env).frames=C [env]/\(xv.deeper env).depth<=314/\(xv.deeper env).units<=50/\(xv.deeper env).handled=none:=by
 refine(Ti rfl ?_ ?_ rfl)
 .show 1+claimMargin+1<=314;exact aS (by kernel_rfl)
 .show 4+3<=50;exact aS rfl
theorem abb(F:E7 K)(good:∀g:cz,g.K=K->g.w=w->g.Ok->Good g)(loop:∀zs,zs.length<=1000->Fc K zs)(X:K.In bg.heap)(T:sG p loose iS iR bg.heap)(sS:Fr bg.heap L s.heap m)(H9:s.os=bg.os)(HP:s.gens=bg.gens)(hm:m "script"=C (.ref a))(vB:s.heap.IsCell aC none)(lb:bg.heap.get? aC=none)(gw:L≠aC)(aX:bg.heap.IsList a aK.toArray)(bN:IntsAre aK ns)(eS:ns.length<=63)
  (vq:env.scope=zj K)(eU:env.scope.kind=.function)(Xa:env.globals=ik)(mw:env.builtins=nK)(n6:env.locals=L)(dI:env.cells.lookup (bO "bag")=C aC)(jM:env.frame=C L)(ks:g7 "script" (zj K).names=C .local)(vV:g7 "bag" (zj K).names=C .cell){pp:Nat->cq}(body:fN K=Bm pp::(fN K).drop 1)
  (fin:∀ao,(∀b o,bg.heap.get? b=C o->ao.heap.get? b=C o)->ao.os=bg.os/\ao.gens=bg.gens->Q (.ret (.bool ae)) ao):a5 (c9 prog w) (xv.deeper env) (cH (fN K) env) Q E s:=by
 have kindOf:∀x,env.kindOf x=g7 x (zj K).names:=λx=>by refine G (vX _ _) ?_;unfold Env.kindOf;exact G vq rfl
 (refine aU aX λo bx Zy=>?_;try clear aX);obtain jw:s.heap.IsList a aK.toArray:=⟨o,sS.keep _ _ bx,Zy⟩;have ei:s.heap.Ns env.locals m:=by exact G n6 sS.ns
 refine G body (jm (Vx eU (G (kindOf _) ks) (G (kindOf _) vV) dI ei hm jw bN eS vB (G n6 gw) λay t cX aH hh Zx hints HH keep o2=>?_));have none_of:∀{b:az},s.heap.objs.size<=b->bg.heap.get? b=none:=λ{b} aD=>by
  generalize q:bg.heap.get? b=aF;induction aF using b1 with
  |none=>rfl
  |some o=>exact absurd (fW (sS.keep _ _ q)) (i6.mpr aD)
 have E_:L<s.heap.objs.size:=sS.ns.lt;(refine aU vB λbF d_ _=>?_;try clear vB);have vk:aC<s.heap.objs.size:=fW d_;have low:=abp T;obtain rR:bg.heap.objs.size<=s.heap.objs.size:=bR sS.above (kq E_);obtain up:∀b o,bg.heap.get? b=C o->ay.get? b=C o:=λb o e=>keep b o (λz=>by rw[z,lb] at e;exact bK e) (sS.keep b o e);rw[n6] at o2;have fC:s.heap.objs.size<=s.heap.objs.size+2:=gu _ _;have sW:=aeX (K:=K) (p:=p) (loose:=loose) (iS:=iS) (iR:=iR) (prog:=prog) (w:=w) (s:=s) (env:=env) (cX:=cX) up H9 HP (none_of (dP _)) lb (none_of fC) (pF E_) (j1 gw) (pF (ij E_ fC)) (pF vk) (kr (w8 (aS rfl))) (kr (ij vk fC)) (pF (ij low rR)) hh Zx HH o2;have Mc:(yx prog w K bg p loose iS iR (n2 s.heap.objs.size aC (s.heap.objs.size+2)) aH).Ok:=⟨X,T,show 30<=100000 by exact aS rfl,low⟩;refine Ju (VR env) λa1 a2 cm c_=>?_;obtain Uo:(yh bg env L).Ok (yx prog w K bg p loose iS iR (n2 s.heap.objs.size aC (s.heap.objs.size+2)) aH) 2:=by
  refine⟨λ_ _ e=>e,a1,λe he=>?_,λx ak=>(nomatch ak),?_,a2,cm,λ_=>c_,by exact aS rfl⟩
  .obtain rfl:=eu.mp he;exact⟨by refine G eU ?_;simp,L,jM,.inl rfl⟩
  .show bg.heap.get? L=none;generalize q:bg.heap.get? L=aF;induction aF using b1 with
   |none=>rfl
   |some o=>exact absurd (fW q) (i6.mpr sS.above)
 obtain U0:cc (yh bg env L) (lax K) env (n2 s.heap.objs.size aC (s.heap.objs.size+2)):=by
  refine⟨vq,eU,Xa,mw,n6,λx n e=>?_,(gi env [] rfl rfl),λx ak=>(nomatch ak)⟩;obtain e:k3 x [("bag",8)]=C n:=e;rw[Gk] at e;split at e
  .rename_i ak;obtain ak:bO "bag"=x:=gr.mp ak;(obtain J:=aT e;clear e;subst J);subst ak;exact(gi aC aC dI rfl)
  .exact bK e
 obtain Uv:=good _ rfl rfl Mc;refine mF (sb (p:=fJ) (ah:=Cy) (bY:=60) Mc Uo sW aa1 (by show 30+60<=100000;exact aS rfl)) λh₀ base N=>?_;obtain Yc:oK.st.σ.get 11=C (ae,.raw 0):=by exact G ((b4.get (aS rfl)) _) rfl
 refine cA (N.rest 11 ae _ Yc (aS (by kernel_rfl))) λep d ji jV=>fO (show cN (yx prog w K bg p loose iS iR (n2 s.heap.objs.size aC (s.heap.objs.size+2)) aH) h₀.get? (n2 s.heap.objs.size aC (s.heap.objs.size+2)) ep d (.raw 0) from jV) λg0 dc _=>?_;(clear jV;subst g0);have Qj:(ns.take 60).length<=1000:=by exact G List.length_take (bR (Nat.min_le_left _ _) (bA rfl))
 obtain run:=aa7 (g:=(yx prog w K bg p loose iS iR (n2 s.heap.objs.size aC (s.heap.objs.size+2)) aH).re h₀ 60 (pull Cy (n2 s.heap.objs.size aC (s.heap.objs.size+2))) base) (c:=(yh bg env L).re h₀) (zs:=ns.take 60) (ep:=ep) (Q:=Q) (E:=E) F (loop _ Qj) (Uv.re N.ok) N.ct (G_ U0 (.refl _) (ah:=Cy) rfl) N.sat (by show 30+60<=200;exact aS rfl) (by show 20<=30+60;exact aS rfl) (dz rfl ji) (gi aH 0 dc (aaf hints)) Qj (λao k os=>fin ao (λb o e=>k b o (N.up b o e)) os);exact run
end
set_option backward.match.sparseCases false in
noncomputable def jd:Nat->bk->List cq
 |0,_=>[]
 |n+1,e=>match e with
  |.Name _ p=>[p]
  |.Constant _ _ p=>[p]
  |.Subscript o i p=>jd n o++(jd n i++ [p])
  |.BinOp a _ b p=>jd n a++(jd n b++ [p])
  |.Call f as _ p=>jd n f++(as.flatMap (jd n)++ [p])
  |.Compare a _ bs p=>jd n a++(bs.flatMap (jd n)++ [p])
  |.BoolOp _ au p=>au.flatMap (jd n)++ [p]
  |.List au p=>au.flatMap (jd n)++ [p]
  |.Dict ks aK p=>(ks.flatMap λk=>match k with|some k=>jd n k|none=>[])++(aK.flatMap (jd n)++ [p])
  |.Slice _ (some b) _ p=>jd n b++ [p]
  |_=>[]
set_option backward.match.sparseCases false in
noncomputable def zW:Nat->eQ->List cq
 |0,_=>[]
 |n+1,s=>match s with
  |.Assign cp v p=>cp.flatMap (jd 20)++(jd 20 v++ [p])
  |.AugAssign t _ v p=>jd 20 t++(jd 20 v++ [p])
  |.If t b o p=>jd 20 t++(b.flatMap (zW n)++(o.flatMap (zW n)++ [p]))
  |.While t b o p=>jd 20 t++(b.flatMap (zW n)++(o.flatMap (zW n)++ [p]))
  |.Return (some e) p=>jd 20 e++ [p]
  |_=>[]
noncomputable def posOf(K:b5)(a:az)(i:Nat):Pos:=(cI ((rB K a).flatMap (zW 9)) i).getD default
noncomputable def x9(K:b5):cq×cq×cq×cq×Pos:=match(fN K).drop 3 with
 |.Assign [.Name _ hl] (.Call (.Name _ df) [.Name _ dx] [] fP) iV::_=>(hl,df,dx,fP,iV)
 |_=>default
set_option backward.match.sparseCases false in
noncomputable def JS(K:b5):Nat×cq×Pos:=match(fN K).drop 9 with
 |.Return (some (.Constant _ q p)) dJ::_=>(q,p,dJ)
 |_=>default
theorem BW{a:az}{an:List (Option bk)}{ds:List bk}
  (h:K.lookup a=C ⟨bF,fU,.func fd,gb⟩)(b7:fd.params=⟨[],as,none,[],an,none,ds⟩)(aO:as.map (·.arg)=names)(aD:fd.body=.stmts body)(bb:fd.closure=[])(hd:fd.defaults=.none)(gx:fd.globals=ik)(qk:fd.builtins=nK)(bM:qG fd.scope=ae)(rN:uS K fd.code fd.qualname=ae)
  (aX:(names.all λx=>fd.scope.names.lookup x==C .local)=ae)(aw:(kinds.all λx=>fd.scope.names.lookup x.1==C x.2)=ae)(lX:(fd.scope.names.all λx=>x.2 !=.cell)=ae):ri K a names body kinds:=
 ⟨bF,fU,fd,gb,as,an,ds,h,b7,aO,aD,bb,hd,gx,qk,bM,rN,λx ak=>beq_iff_eq.mp (eX.mp aX x ak),λx ak=>beq_iff_eq.mp (eX.mp aw x ak),λx ak=>by simpa using eX.mp lX x ak⟩
noncomputable def cO:gW:=λI I I I=>none
noncomputable def vF:List Nat:=[0,1,2,3,4,5,6,7,8,9,10,11,12,13,14,15,16,17,18,19,20,21,22,23,24,25,26,27,28,29,30,31,32,33,34,35,36,37,38,39,40,41,42]
noncomputable def vE:List bo:=[(.aL 0 ai 0),(.aL 0 ai 1),(.aL 0 ai 2),(.aL 0 ai 3),(.aL 0 ai 4),(.aL 0 ai 5),(.aL 0 ai 6),(.aL 0 ai 7)]
noncomputable def mV:cW:=⟨[0,1,196,175,150,197,198,7,8,9,10,11,12,13,14,15,16,17,18,19,184,199,200,201,202,163,176,177,178,179,180,181,151,152,153,154,156,44,0,174,51,52,53],[(.lit 2),(.aL 1 ai 1),(.aL 1 ai 2),(.aL 5 ai 3),(.aL 5 ai 3),(.aL 3 ai 3),(.aL 1 ai 3),(.aL 1 ai 1)],[[.chr 1]],[]⟩
noncomputable def mZ(m D:Nat):nW:=jo m mV D
noncomputable def jH(D:Nat):nW:=u1 mV D
noncomputable def Ue:cW:=⟨vF++ [222,154,217,179,210,214,215,216,243,232,193,194,172,181,172,195,196,197,198,199],vE++ [(.aL 6 ai 3),(.aL 5 ai 3)],[[.chr 0]],[[.any 1],[.any 2]]⟩
noncomputable def Ug:cW:=⟨vF++ [246,157,241,182,234,238,239,240,267,256,196,197,175,184,175,198,199,200,201,202,205,213,214,215,216,217,218,219,220,221,222,223,224],vE++ [(.aL 12 ai 3),(.aL 5 ai 3),(.aL 2 ai 1),(.aL 0 ai 11),(.aL 0 ai 12)],[[.chr 0]],[[.any 1],[.any 2],[.any 4]]⟩
noncomputable def Uh:cW:=⟨vF++ [259,157,254,182,247,251,252,253,280,269,196,197,175,184,175,198,199,200,201,202,205,213,214,215,216,217,218,219,220,221,222,223,224,225,226,227,228,229,230,231,232,233,234,235,236,237],vE++ [(.aL 18 ai 3),(.aL 5 ai 3),(.aL 2 ai 1),(.aL 0 ai 11),(.aL 0 ai 12),(.aL 0 ai 13),(.aL 0 ai 14),(.aL 0 ai 15)],[[.chr 0]],[[.any 1],[.any 2],[.any 4],[.any 5]]⟩
noncomputable def xx:cW:=⟨vF++ [2],vE++ [(.aL 0 ai 0),(.aL 1 ai 1),(.aL 0 ai 3)],[[.chr 0]],[]⟩
noncomputable def q_:cW:=⟨vF++ [205],vE++ [(.aL 0 ai 11),(.aL 0 ai 12),(.aL 0 ai 13)],[[.chr 0]],[]⟩
noncomputable def LR:cW:=⟨vF++ [196],vE++ [(.lit 2),(.aL 1 ai 1),(.aL 5 ai 3)],[[.chr 0]],[]⟩
noncomputable def gz:b6:=(20,20,none)
noncomputable def eW:b6:=(15,19,none)
noncomputable def fE(m:Nat):b6:=(15,20-(m:Int),none)
noncomputable def h5:List ag:=[[.chr 0]]
noncomputable def js:List ag:=[[.chr 0],[.chr 1]]
noncomputable def hn:b4:=mY 1 [dE,dE]
noncomputable def pV:b4:=mY 0 [dE]
noncomputable def aeP(K:b5):List Bool:=[ha (gp (er K cO 300) K 80 (.c (.ref 683)) [aI 0,aI 40] (gS ai (cS (fE 1) 0).st 8 h5 GE)) Ue 10 (cS (fE 1) 0) (lR (fE 1) 0 1) (aI 44) ai,
 ha (gp (er K (fp (mZ 1 80)) 300) K 60 (.c (.ref 683)) [aI 0,aI 40] (gS ae (cS (fE 2) 0).st 8 js hn)) Ug 20 (cS (fE 2) 0) (lR (fE 2) 0 2) (aI 44) ai,
 ha (gp (er K (fp (mZ 2 60)) 300) K 40 (.c (.ref 683)) [aI 0,aI 40] (gS ae (cS (fE 3) 0).st 8 js hn)) Uh 30 (cS (fE 3) 0) (lR (fE 3) 0 3) (aI 44) ai,
 ha (gp (er K cO 300) K 120 (.c (.ref 683)) [aI 0,aI 40] (gS ai (cS eW 0).st 8 h5 pV)) LR 0 (cS eW 0) (gX eW 0) du ae,
 ha (gp (er K cO 300) K 120 (.c (.ref 683)) [aI 0,aI 40] (gS ai (cS gz 0).st 8 h5 GE)) xx 0 (cS gz 0) (gX gz 0) du ae,
 ha (gp (er K cO 300) K 120 (.c (.ref 683)) [aI 0,aI 40] (gS ai (cS gz 0).st 8 h5 pV)) xx 0 (cS gz 0) (gX gz 0) du ae,
 ha (gp (er K cO 300) K 120 (.c (.ref 683)) [aI 0,aI 40] (gS ae (cS gz 0).st 8 js hn)) xx 0 (cS gz 0) (gX gz 0) du ae,
 ha (gp (er K (fp (jH 120)) 300) K 100 (.c (.ref 683)) [aI 0,aI 40] (gS ae (cS eW 0).st 8 js hn)) q_ 0 (cS eW 0) (gX eW 0) du ae,
 ha (gp (er K (fp (jH 100)) 300) K 80 (.c (.ref 683)) [aI 0,aI 40] (gS ae (cS eW 0).st 8 js hn)) q_ 0 (cS eW 0) (gX eW 0) du ae,
 ha (gp (er K (fp (jH 80)) 300) K 60 (.c (.ref 683)) [aI 0,aI 40] (gS ae (cS eW 0).st 8 js hn)) q_ 0 (cS eW 0) (gX eW 0) du ae,
 ha (gp (er K (fp (jH 60)) 300) K 40 (.c (.ref 683)) [aI 0,aI 40] (gS ae (cS eW 0).st 8 js hn)) q_ 0 (cS eW 0) (gX eW 0) du ae]
noncomputable def yk:il:=⟨⟨[0,1,2,3,4,5,6,7,8,9,10,11,12,13,14,15,16,17,18,19,20,21,22,23,24,25,26],[(.lit 5),(.aL 1 ai 1),(.aL 0 ai 2),(.aL 6 ai 3),(.aL 1 ai 4),(.aL 0 ai 5)],[],[]⟩,
 ⟨[1,2,32,213,30,202,142,117,163,164],[(.aL 0 ai 6),(.aL 0 ai 7),(.aL 5 ai 3)],[[.chr 1]],[[.any 2]]⟩,
 gP 1,3,4,bw,[jj 1 "_1"],1,[]⟩
noncomputable def LW:cW:=⟨[0,1,166,145,120,167,168,5,13,12,19,20,21,22,23,24,14,15,25,16,154,169,170,171,172,133,146,147,148,149,150,151,121,122,123,124,126,32,0,144,39,40,41],[(.lit 2),(.aL 1 ai 1),(.aL 21 ae 2),(.aL 5 ai 3),(.aL 5 ai 3),(.aL 3 ai 3),(.aL 1 ai 3),(.aL 1 ai 1)],[[.chr 2]],[]⟩
noncomputable def NT:il:=⟨⟨[0,1,2,3,4,5,6,7,8,9,10,11,12,13,14,15,16,17,18,19,20,21,22,23,24,25,26],[(.lit 5),(.aL 2 ai 1),(.aL 0 ai 2),(.aL 12 ai 3),(.aL 1 ai 4),(.aL 0 ai 5)],[],[]⟩,
 ⟨[1,2,32,237,30,226,145,120,166,167,183,184,185,186],[(.aL 0 ai 6),(.aL 0 ai 7),(.aL 5 ai 3),(.aL 2 ai 1),(.aL 0 ai 11)],[[.chr 1]],[[.any 2]]⟩,
 gP 2,3,4,bw,[jj 1 "_1"],2,[]⟩
noncomputable def LX:cW:=⟨[0,1,166,145,120,167,168,5,13,12,19,20,21,22,23,24,14,15,25,16,154,169,170,171,172,133,146,147,148,149,150,151,121,122,123,124,126,32,0,144,39,40,41],[(.lit 2),(.aL 1 ai 1),(.aL 21 ae 2),(.aL 5 ai 3),(.aL 5 ai 3),(.aL 3 ai 3),(.aL 1 ai 3),(.aL 1 ai 1)],[[.chr 2]],[]⟩
noncomputable def NU:il:=⟨⟨[0,1,2,3,4,5,6,7,8,9,10,11,12,13,14,15,16,17,18,19,20,21,22,23,24,25,26],[(.lit 5),(.aL 3 ai 1),(.aL 0 ai 2),(.aL 18 ai 3),(.aL 1 ai 4),(.aL 0 ai 5)],[],[]⟩,
 ⟨[1,2,32,250,30,239,145,120,166,167,183,184,185,186,196,197,198,199],[(.aL 0 ai 6),(.aL 0 ai 7),(.aL 5 ai 3),(.aL 2 ai 1),(.aL 0 ai 11),(.aL 0 ai 12),(.aL 0 ai 14)],[[.chr 1]],[[.any 2]]⟩,
 gP 3,3,4,bw,[jj 1 "_1"],3,[]⟩
noncomputable def LY:cW:=⟨[0,1,166,145,120,167,168,5,13,12,19,20,21,22,23,24,14,15,25,16,154,169,170,171,172,133,146,147,148,149,150,151,121,122,123,124,126,32,0,144,39,40,41],[(.lit 2),(.aL 1 ai 1),(.aL 21 ae 2),(.aL 5 ai 3),(.aL 5 ai 3),(.aL 3 ai 3),(.aL 1 ai 3),(.aL 1 ai 1)],[[.chr 2]],[]⟩
noncomputable def NV:il:=⟨⟨[0,1,2,3,4,5,6,7,8,9,10,11,12,13,14,15,16,17,18,19,20,21,22,23,24,25,26],[(.lit 5),(.aL 4 ai 1),(.aL 0 ai 2),(.aL 24 ai 3),(.aL 1 ai 4),(.aL 0 ai 5)],[],[]⟩,
 ⟨[1,2,32,263,30,252,145,120,166,167,183,184,185,186,196,197,198,199,209,210,211,212],[(.aL 0 ai 6),(.aL 0 ai 7),(.aL 5 ai 3),(.aL 2 ai 1),(.aL 0 ai 11),(.aL 0 ai 12),(.aL 0 ai 14),(.aL 0 ai 15),(.aL 0 ai 17)],[[.chr 1]],[[.any 2]]⟩,
 gP 4,3,4,bw,[jj 1 "_1"],4,[]⟩
noncomputable def GS:il:=⟨⟨[0,1,2,3,4,5,6,7,8,9,10,11,12,13,14,15,16,17,18,19,20,21,22,23,24,25,26],[(.aL 0 ai 0),(.aL 0 ai 1),(.aL 0 ai 2),(.aL 2 ai 3),(.aL 1 ai 4),(.aL 0 ai 5)],[],[]⟩,
 ⟨[1,2,42,30,31,43,44],[(.aL 0 ai 6),(.aL 2 ai 3)],[[.chr 0]],[[.any 0]]⟩,
 sR,2,3,bE,[],0,[]⟩
noncomputable def GP:il:=⟨⟨[0,1,2,3,4,5,6,7,8,9,10,11,12,13,14,15,16,17,18,19,20,21,22,23,24,25,26],[(.aL 0 ai 0),(.aL 0 ai 1),(.aL 0 ai 2),(.aL 1 ai 3),(.aL 1 ai 4),(.aL 0 ai 5)],[],[]⟩,
 ⟨[1,2,79,29,68,33,34],[(.aL 0 ai 6),(.aL 0 ai 8)],[[.chr 1]],[[.any 0]]⟩,
 sR,2,3,bw,[],0,[(bE,30)]⟩
noncomputable def NP:il:=⟨⟨[0,1,2,3,4,5,6,7,8,9,10,11,12,13,14,15,16,17,18,19,20,21,22,23,24,25,26],[(.aL 0 ai 0),(.aL 0 ai 1),(.aL 0 ai 2),(.aL 1 ai 3),(.aL 1 ai 4),(.aL 0 ai 5)],[],[]⟩,
 ⟨[1,2,30,82,29,71,34,35,36,37],[(.aL 0 ai 6),(.aL 0 ai 8),(.aL 0 ai 9)],[[.chr 1]],[[.any 0]]⟩,
 gP 1,3,4,bw,[],0,[(bE,31)]⟩
noncomputable def NQ:il:=⟨⟨[0,1,2,3,4,5,6,7,8,9,10,11,12,13,14,15,16,17,18,19,20,21,22,23,24,25,26],[(.aL 0 ai 0),(.aL 0 ai 1),(.aL 0 ai 2),(.aL 1 ai 3),(.aL 1 ai 4),(.aL 0 ai 5)],[],[]⟩,
 ⟨[1,2,30,86,29,75,34,35,36,37,38,39,40,41],[(.aL 0 ai 6),(.aL 0 ai 8),(.aL 0 ai 9),(.aL 0 ai 10),(.aL 0 ai 11)],[[.chr 1]],[[.any 0]]⟩,
 gP 2,3,4,bw,[],0,[(bE,31)]⟩
noncomputable def NR:il:=⟨⟨[0,1,2,3,4,5,6,7,8,9,10,11,12,13,14,15,16,17,18,19,20,21,22,23,24,25,26],[(.aL 0 ai 0),(.aL 0 ai 1),(.aL 0 ai 2),(.aL 1 ai 3),(.aL 1 ai 4),(.aL 0 ai 5)],[],[]⟩,
 ⟨[1,2,30,90,29,79,34,35,36,37,38,39,40,41,42,43,44,45],[(.aL 0 ai 6),(.aL 0 ai 8),(.aL 0 ai 9),(.aL 0 ai 10),(.aL 0 ai 11),(.aL 0 ai 12),(.aL 0 ai 13)],[[.chr 1]],[[.any 0]]⟩,
 gP 3,3,4,bw,[],0,[(bE,31)]⟩
noncomputable def NS:il:=⟨⟨[0,1,2,3,4,5,6,7,8,9,10,11,12,13,14,15,16,17,18,19,20,21,22,23,24,25,26],[(.aL 0 ai 0),(.aL 0 ai 1),(.aL 0 ai 2),(.aL 1 ai 3),(.aL 1 ai 4),(.aL 0 ai 5)],[],[]⟩,
 ⟨[1,2,30,94,29,83,34,35,36,37,38,39,40,41,42,43,44,45,46,47,48,49],[(.aL 0 ai 6),(.aL 0 ai 8),(.aL 0 ai 9),(.aL 0 ai 10),(.aL 0 ai 11),(.aL 0 ai 12),(.aL 0 ai 13),(.aL 0 ai 14),(.aL 0 ai 15)],[[.chr 1]],[[.any 0]]⟩,
 gP 4,3,4,bw,[],0,[(bE,31)]⟩
noncomputable def GQ:il:=⟨⟨[0,1,2,3,4,5,6,7,8,9,10,11,12,13,14,15,16,17,18,19,20,21,22,23,24,25,26],[(.aL 0 ai 0),(.aL 0 ai 1),(.aL 0 ai 2),(.aL 1 ai 3),(.aL 1 ai 4),(.aL 0 ai 5)],[],[]⟩,
 ⟨[1,2,30,87,29,76,34,35,36,37,38,39,40,41,42],[(.aL 0 ai 6),(.aL 0 ai 8),(.aL 0 ai 9),(.aL 0 ai 10)],[[.chr 1],[.chr 2]],[[.any 0]]⟩,
 uZ,3,4,bw,[],0,[(bE,31),(c3,41)]⟩
noncomputable def GR:il:=⟨⟨[0,1,2,3,4,5,6,7,8,9,10,11,12,13,14,15,16,17,18,19,20,21,22,23,24,25,26],[(.lit 5),(.aL 1 ai 1),(.aL 0 ai 2),(.aL 9 ai 3),(.aL 2 ai 4),(.aL 0 ai 5)],[],[]⟩,
 ⟨[1,2,36,473,32,462,239,157,315,316,386,375,51,47,48],[(.aL 0 ai 6),(.aL 0 ai 8),(.aL 7 ai 3),(.aL 0 ai 9)],[[.chr 2],[.chr 1]],[[.any 5]]⟩,
 uZ,3,4,c3,[tw 1 "_1",jj 1 "_2"],1,[(bw,47)]⟩
noncomputable def aeQ(K:b5):List Bool:=[gg (cP K cO vw) yk,
 gg (cP K (iv (fp (jo 1 LW 80))) (ju 2)) NT,
 gg (cP K (iv (fp (jo 2 LX 60))) (ju 3)) NU,
 gg (cP K (iv (fp (jo 3 LY 40))) (ju 4)) NV,
 gg (cP K cO wB) GS,
 gg (cP K cO u7) GP,
 gg (cP K cO (jJ 1)) NP,
 gg (cP K cO (jJ 2)) NQ,
 gg (cP K cO (jJ 3)) NR,
 gg (cP K cO (jJ 4)) NS,
 gg (cP K cO u9) GQ,
 gg (cP K cO kb) GR]
noncomputable def AQ:cW:=⟨[0,1,165,144,119,166,167,5,13,12,19,20,21,22,23,24,14,15,25,16,153,168,169,170,171,132,145,146,147,148,149,150,120,121,122,123,125,31,0,143,38,39,40],[(.lit 2),(.aL 1 ai 1),(.aL 21 ae 2),(.aL 5 ai 3),(.aL 5 ai 3),(.aL 3 ai 3),(.aL 1 ai 3),(.aL 1 ai 1)],[[.chr 1]],[]⟩
noncomputable def LS:cW:=⟨[0,1,167,146,121,168,169,5,13,12,19,20,21,22,23,24,14,15,25,16,155,170,171,172,173,134,147,148,149,150,151,152,122,123,124,125,127,31,0,145,38,39,40],[(.lit 2),(.aL 1 ai 1),(.aL 21 ae 2),(.aL 5 ai 3),(.aL 5 ai 3),(.aL 3 ai 3),(.aL 1 ai 3),(.aL 1 ai 1)],[[.chr 2]],[]⟩
noncomputable def LU:cW:=⟨[0,1,167,146,121,168,169,5,13,12,19,20,21,22,23,24,14,15,25,16,155,170,171,172,173,134,147,148,149,150,151,152,122,123,124,125,127,31,0,145,38,39,40],[(.lit 2),(.aL 1 ai 1),(.aL 21 ae 2),(.aL 5 ai 3),(.aL 5 ai 3),(.aL 3 ai 3),(.aL 1 ai 3),(.aL 1 ai 1)],[[.chr 2]],[]⟩
noncomputable def LV:cW:=⟨[0,1,167,146,121,168,169,5,13,12,19,20,21,22,23,24,14,15,25,16,155,170,171,172,173,134,147,148,149,150,151,152,122,123,124,125,127,31,0,145,38,39,40],[(.lit 2),(.aL 1 ai 1),(.aL 21 ae 2),(.aL 5 ai 3),(.aL 5 ai 3),(.aL 3 ai 3),(.aL 1 ai 3),(.aL 1 ai 1)],[[.chr 2]],[]⟩
noncomputable def aeR(K:b5):List Bool:=[d5 (cP K cO vx),
 d5 (cP K (iv (fp (u1 AQ 40))) tB),
 d5 (cP K cO vv),
 d5 (cP K (iv (fp (jo 1 LS 80))) (jt 2)),
 d5 (cP K (iv (fp (jo 2 LU 60))) (jt 3)),
 d5 (cP K (iv (fp (jo 3 LV 40))) (jt 4)),
 d5 (cP K cO wA),
 d5 (cP K cO u5),
 d5 (cP K cO u6),
 d5 (cP K cO u_),
 d5 (cP K cO rL),
 d5 (cP K cO vz),
 d5 (cP K cO h0),
 d5 (cP K cO qj),
 d5 (cP K cO (hX (2,2,none) (3,10,none))),
 d5 (cP K cO (hX (4,4,none) (2,3,none))),
 d5 (cP K cO (hX (4,4,none) (5,10,none))),
 d5 (cP K cO (hX (6,6,none) (2,5,none))),
 d5 (cP K cO (hX (6,6,none) (7,10,none))),
 d5 (cP K cO (hX (8,8,none) (2,7,none))),
 d5 (cP K cO (hX (8,8,none) (9,10,none)))]
noncomputable def aeS(K:b5):List Bool:=[FY K,
 FX K,
 FZ K,
 F0 K,
 F_ K,
 F9 K,
 F1 K,
 F2 K,
 F4 K,
 F8 K,
 F5 K,
 F3 K,
 F6 K,
 F7 K,
 FV K,
 FW K,
 FT K,
 Bl K,
 FU K,
 FR K]
noncomputable def aeN(K:b5):List Bool:=[za K,
 B8 K,
 CK K,
 DV K,
 zp K,
 Hn K]
noncomputable def oH:List Bool->Prop
 |[]=>True
 |b::l=>b=ae/\oH l
noncomputable def allB(l:List Bool):Bool:=@sz Bool (λI=>Bool) ae (λb I bj=>@jZ (λI=>Bool) ai bj b) l
theorem lA(n:Nat){l:List Bool}(h:1<=(allB (l.take n)).toNat)(k:oH (l.drop n)):oH l:=by
 induction n generalizing l with
 |zero=>exact k
 |succ n bj=>
  induction l using eo with
  |nil=>trivial
  |cons b l=>
   induction b using bV with
   |true=>exact⟨rfl,bj h k⟩
   |false=>exact nomatch h
theorem dk:∀{l:List Bool},oH l->∀(i:Nat){b:Bool},l[i]? =C b->b=true:=by
 intro l;induction l with
 |nil=>exact λI I I h=>nomatch h
 |cons x l bj=>
  intro h i b e;induction i using hD with
  |zero=>(obtain J:=aT e;clear e;subst J);exact h.1
  |succ i=>exact bj h.2 i e
noncomputable def aeO(K:b5):List Bool:=[FQ K,BH K,C7 K,Hm K]
structure ck(K:b5):Prop where
 f2:oH (aeP K)
 f4:oH (aeQ K)
 hL:oH (aeR K)
 f8:oH (aeS K)
 tq:oH (aeN K)
 yq:oH (aeO K)
 turn:g7 "turn" (lax K).scope.names=C .local
section
theorem aeD(P:ck K):ha (gp (er K cO 300) K 80 (.c (.ref 683)) [aI 0,aI 40] (gS ai (cS (fE 1) 0).st 8 h5 GE)) Ue 10 (cS (fE 1) 0) (lR (fE 1) 0 1) (aI 44) ai=true:=dk P.f2 0 rfl
theorem aeE(P:ck K):ha (gp (er K (fp (mZ 1 80)) 300) K 60 (.c (.ref 683)) [aI 0,aI 40] (gS ae (cS (fE 2) 0).st 8 js hn)) Ug 20 (cS (fE 2) 0) (lR (fE 2) 0 2) (aI 44) ai=true:=dk P.f2 1 rfl
theorem aeF(P:ck K):ha (gp (er K (fp (mZ 2 60)) 300) K 40 (.c (.ref 683)) [aI 0,aI 40] (gS ae (cS (fE 3) 0).st 8 js hn)) Uh 30 (cS (fE 3) 0) (lR (fE 3) 0 3) (aI 44) ai=true:=dk P.f2 2 rfl
theorem DJ(P:ck K):ha (gp (er K cO 300) K 120 (.c (.ref 683)) [aI 0,aI 40] (gS ai (cS eW 0).st 8 h5 pV)) LR 0 (cS eW 0) (gX eW 0) du ae=true:=dk P.f2 3 rfl
theorem aeG(P:ck K):ha (gp (er K cO 300) K 120 (.c (.ref 683)) [aI 0,aI 40] (gS ai (cS gz 0).st 8 h5 GE)) xx 0 (cS gz 0) (gX gz 0) du ae=true:=dk P.f2 4 rfl
theorem aeI(P:ck K):ha (gp (er K cO 300) K 120 (.c (.ref 683)) [aI 0,aI 40] (gS ai (cS gz 0).st 8 h5 pV)) xx 0 (cS gz 0) (gX gz 0) du ae=true:=dk P.f2 5 rfl
theorem aeH(P:ck K):ha (gp (er K cO 300) K 120 (.c (.ref 683)) [aI 0,aI 40] (gS ae (cS gz 0).st 8 js hn)) xx 0 (cS gz 0) (gX gz 0) du ae=true:=dk P.f2 6 rfl
theorem aeJ(P:ck K):ha (gp (er K (fp (jH 120)) 300) K 100 (.c (.ref 683)) [aI 0,aI 40] (gS ae (cS eW 0).st 8 js hn)) q_ 0 (cS eW 0) (gX eW 0) du ae=true:=dk P.f2 7 rfl
theorem aeK(P:ck K):ha (gp (er K (fp (jH 100)) 300) K 80 (.c (.ref 683)) [aI 0,aI 40] (gS ae (cS eW 0).st 8 js hn)) q_ 0 (cS eW 0) (gX eW 0) du ae=true:=dk P.f2 8 rfl
theorem aeL(P:ck K):ha (gp (er K (fp (jH 80)) 300) K 60 (.c (.ref 683)) [aI 0,aI 40] (gS ae (cS eW 0).st 8 js hn)) q_ 0 (cS eW 0) (gX eW 0) du ae=true:=dk P.f2 9 rfl
theorem aeM(P:ck K):ha (gp (er K (fp (jH 60)) 300) K 40 (.c (.ref 683)) [aI 0,aI 40] (gS ae (cS eW 0).st 8 js hn)) q_ 0 (cS eW 0) (gX eW 0) du ae=true:=dk P.f2 10 rfl
theorem aed(P:ck K):gg (cP K cO vw) yk=true:=dk P.f4 0 rfl
theorem aee(P:ck K):gg (cP K (iv (fp (jo 1 LW 80))) (ju 2)) NT=true:=dk P.f4 1 rfl
theorem aef(P:ck K):gg (cP K (iv (fp (jo 2 LX 60))) (ju 3)) NU=true:=dk P.f4 2 rfl
theorem aeg(P:ck K):gg (cP K (iv (fp (jo 3 LY 40))) (ju 4)) NV=true:=dk P.f4 3 rfl
theorem aew(P:ck K):gg (cP K cO wB) GS=true:=dk P.f4 4 rfl
theorem ad2(P:ck K):gg (cP K cO u7) GP=true:=dk P.f4 5 rfl
theorem ad3(P:ck K):gg (cP K cO (jJ 1)) NP=true:=dk P.f4 6 rfl
theorem ad4(P:ck K):gg (cP K cO (jJ 2)) NQ=true:=dk P.f4 7 rfl
theorem ad5(P:ck K):gg (cP K cO (jJ 3)) NR=true:=dk P.f4 8 rfl
theorem ad6(P:ck K):gg (cP K cO (jJ 4)) NS=true:=dk P.f4 9 rfl
theorem ad7(P:ck K):gg (cP K cO u9) GQ=true:=dk P.f4 10 rfl
theorem aem(P:ck K):gg (cP K cO kb) GR=true:=dk P.f4 11 rfl
theorem aeh(P:ck K):d5 (cP K cO vx)=true:=dk P.hL 0 rfl
theorem aei(P:ck K):d5 (cP K (iv (fp (u1 AQ 40))) tB)=true:=dk P.hL 1 rfl
theorem ad9(P:ck K):d5 (cP K cO vv)=true:=dk P.hL 2 rfl
theorem aea(P:ck K):d5 (cP K (iv (fp (jo 1 LS 80))) (jt 2))=true:=dk P.hL 3 rfl
theorem aeb(P:ck K):d5 (cP K (iv (fp (jo 2 LU 60))) (jt 3))=true:=dk P.hL 4 rfl
theorem aec(P:ck K):d5 (cP K (iv (fp (jo 3 LV 40))) (jt 4))=true:=dk P.hL 5 rfl
theorem aev(P:ck K):d5 (cP K cO wA)=true:=dk P.hL 6 rfl
theorem ad0(P:ck K):d5 (cP K cO u5)=true:=dk P.hL 7 rfl
theorem ad1(P:ck K):d5 (cP K cO u6)=true:=dk P.hL 8 rfl
theorem ad8(P:ck K):d5 (cP K cO u_)=true:=dk P.hL 9 rfl
theorem aek(P:ck K):d5 (cP K cO rL)=true:=dk P.hL 10 rfl
theorem ael(P:ck K):d5 (cP K cO vz)=true:=dk P.hL 11 rfl
theorem aej(P:ck K):d5 (cP K cO h0)=true:=dk P.hL 12 rfl
theorem aen(P:ck K):d5 (cP K cO qj)=true:=dk P.hL 13 rfl
theorem aeo(P:ck K):d5 (cP K cO (hX (2,2,none) (3,10,none)))=true:=dk P.hL 14 rfl
theorem aep(P:ck K):d5 (cP K cO (hX (4,4,none) (2,3,none)))=true:=dk P.hL 15 rfl
theorem aeq(P:ck K):d5 (cP K cO (hX (4,4,none) (5,10,none)))=true:=dk P.hL 16 rfl
theorem aer(P:ck K):d5 (cP K cO (hX (6,6,none) (2,5,none)))=true:=dk P.hL 17 rfl
theorem aes(P:ck K):d5 (cP K cO (hX (6,6,none) (7,10,none)))=true:=dk P.hL 18 rfl
theorem aet(P:ck K):d5 (cP K cO (hX (8,8,none) (2,7,none)))=true:=dk P.hL 19 rfl
theorem aeu(P:ck K):d5 (cP K cO (hX (8,8,none) (9,10,none)))=true:=dk P.hL 20 rfl
theorem adq(P:ck K):FY K=true:=dk P.f8 0 rfl
theorem adp(P:ck K):FX K=true:=dk P.f8 1 rfl
theorem ads(P:ck K):FZ K=true:=dk P.f8 2 rfl
theorem adt(P:ck K):F0 K=true:=dk P.f8 3 rfl
theorem adD(P:ck K):F_ K=true:=dk P.f8 4 rfl
theorem adC(P:ck K):F9 K=true:=dk P.f8 5 rfl
theorem adu(P:ck K):F1 K=true:=dk P.f8 6 rfl
theorem adv(P:ck K):F2 K=true:=dk P.f8 7 rfl
theorem adx(P:ck K):F4 K=true:=dk P.f8 8 rfl
theorem adB(P:ck K):F8 K=true:=dk P.f8 9 rfl
theorem ady(P:ck K):F5 K=true:=dk P.f8 10 rfl
theorem adw(P:ck K):F3 K=true:=dk P.f8 11 rfl
theorem adz(P:ck K):F6 K=true:=dk P.f8 12 rfl
theorem adA(P:ck K):F7 K=true:=dk P.f8 13 rfl
theorem adn(P:ck K):FV K=true:=dk P.f8 14 rfl
theorem ado(P:ck K):FW K=true:=dk P.f8 15 rfl
theorem adl(P:ck K):FT K=true:=dk P.f8 16 rfl
theorem RU(P:ck K):Bl K=true:=dk P.f8 17 rfl
theorem adm(P:ck K):FU K=true:=dk P.f8 18 rfl
theorem adk(P:ck K):FR K=true:=dk P.f8 19 rfl
theorem adH(P:ck K):za K=true:=dk P.tq 0 rfl
theorem adG(P:ck K):B8 K=true:=dk P.tq 1 rfl
theorem adL(P:ck K):CK K=true:=dk P.tq 2 rfl
theorem adM(P:ck K):DV K=true:=dk P.tq 3 rfl
theorem adJ(P:ck K):zp K=true:=dk P.tq 4 rfl
theorem adF(P:ck K):Hn K=true:=dk P.tq 5 rfl
theorem adj(P:ck K):FQ K=true:=dk P.yq 0 rfl
theorem adE(P:ck K):BH K=true:=dk P.yq 1 rfl
theorem adK(P:ck K):C7 K=true:=dk P.yq 2 rfl
theorem adI(P:ck K):Hm K=true:=dk P.yq 3 rfl
theorem abc(P:ck K):g7 "turn" (lax K).scope.names=C .local:=P.turn
end
noncomputable def sY(m:Nat):(Nat->Nat)->Nat->aZ->Prop:=λafter w I=>gm after m w
noncomputable def xR(j:Nat):(Nat->Nat)->Nat->aZ->Prop:=λafter w β=>∃z,β.aE[2]? =C z/\20-(j:Int)<=z/\z<=20/\xB after (20-z).toNat w
theorem BG{u:b6}(bt:S<=10000)(h:bL (hc S) (cS u 1).ar zs)(e:lW 10000 (cS u 1).ar (cS u 0).ar=ae):bL (hc S) (cS u 0).ar zs:=BI bt e h
theorem Jm(P:ck K):mi K (mZ 1 80) (sY 1) 100:=by intro g c β s dep after root cM aA w S U hh g4 e0;refine mg.G0 (D:=80) (ah:=mV) (p:=cS (fE 1) 0) (q:=lR (fE 1) 0 1) (bY:=8) ?_ rfl (by kernel_rfl) (by show g.S+10<=_;lia);obtain eE:Spot _ g c β s after root cM aA w (cS (fE 1) 0):=S.bounds rfl (BG (u:=fE 1) (bR (gu _ _) (by assumption)) S.sat.facts.aE (by kernel_rfl));exact t9 (S.gen.all w S.jX) λL ax a1 a2 cm c_ I=>a3 (c_ e0) λE dI=>t5 (f5:=0) (h:=⟨683,80,mV,cS (fE 1) 0,[aI 0,aI 40],lR (fE 1) 0 1,aI 44,8,10,ai⟩) (D:=80) (e6:=ai) (e:=GE) (ax:=ax) (H:=cO) eE U hh (aS rfl) rfl rfl (λq=>by exact c8 q) (by kernel_rfl) E a1 a2 cm dI rfl (λI I I=>ic) (by show g.S+10<=_;lia) (aeD P)
theorem Q1{m D mX:Nat}(B0:D<400)(N:mi K (mZ (m+1) mX) (sY (m+1)) B)(bM:qO ae (cS (fE (m+2)) 0).st 8 js hn=ae)(ey:lW 10000 (cS (fE (m+2)) 1).ar (cS (fE (m+2)) 0).ar=ae)(a9:lW 200000 (lR (fE (m+2)) 0 (m+2)).ar (lR (fE (m+2)) 1 (m+2)).ar=ae)
  (ahm:10*(m+2)<=1000)(run:ha (gp (er K (fp (mZ (m+1) mX)) 300) K D (.c (.ref 683)) [aI 0,aI 40] (gS ae (cS (fE (m+2)) 0).st 8 js hn)) ah (10*(m+2)) (cS (fE (m+2)) 0) (lR (fE (m+2)) 0 (m+2)) (aI 44) ai=ae):mi K (mZ (m+2) D) (sY (m+2)) (B+8):=by intro g c β s dep after root cM aA w S U hh g4 e0;refine mg.G0 (h:=mZ (m+2) D) (D:=D) (ah:=mV) (p:=cS (fE (m+2)) 0) (q:=lR (fE (m+2)) 0 (m+2)) (bY:=8) ?_ (by kernel_rfl) a9 (by show g.S+10*(m+2)<=_;lia);obtain eE:Spot K g c β s after root cM aA w (cS (fE (m+2)) 0):=S.bounds rfl (BG (u:=fE (m+2)) (bR (gu _ _) (by assumption)) S.sat.facts.aE ey);refine ih (S.gen.all w S.jX) λL ax a1 a2 cm I I fe=>?_;have hi:=gm.ne e0 S.jX;(refine a3 e0 λbl YM=>?_;try clear e0);refine a3 (fe bl hi) λE dI=>t5 (f5:=after w) (h:=⟨683,D,mV,cS (fE (m+2)) 0,[aI 0,aI 40],lR (fE (m+2)) 0 (m+2),aI 44,8,10*(m+2),ai⟩) (D:=D) (e6:=ae) (e:=hn) (ax:=ax) (H:=fp (mZ (m+1) mX)) eE U hh B0 rfl rfl (λI=>⟨hi,bl⟩) bM E a1 a2 cm dI rfl (λaW l cE=>?_) (by show g.S+10*(m+2)<=_;lia) run;exact zB (B:=B) N S.good.pin S.k (yv S.gen aW) (a4 l.ad S.cB) (a4 l.ad S.fZ) (cE rfl) rfl rfl rfl (λI I=>YM) bl S.S (by show g.S+8+B<=_;lia)
theorem Jn(P:ck K):mi K (mZ 2 60) (sY 2) 108:=Q1 (m:=0) (aS rfl) (Jm P) (by kernel_rfl) (by kernel_rfl) (by kernel_rfl) (aS rfl) (aeE P)
theorem QZ(P:ck K):mi K (mZ 3 40) (sY 3) 116:=Q1 (m:=1) (aS rfl) (Jn P) (by kernel_rfl) (by kernel_rfl) (by kernel_rfl) (aS rfl) (aeF P)
theorem afl:qO ai (cS gz 0).st 8 h5 GE=true:=by kernel_rfl
theorem afn:qO ai (cS gz 0).st 8 h5 pV=true:=by kernel_rfl
theorem afm:qO ae (cS gz 0).st 8 js hn=true:=by kernel_rfl
theorem afk:qO ai (cS eW 0).st 8 h5 pV=true:=by kernel_rfl
theorem afj:qO ae (cS eW 0).st 8 js hn=true:=by kernel_rfl
section
variable{c:bc}{s:aN}{D:Nat}{w:Nat}
theorem Mf{u:b6}(H:mg ⟨683,D,mV,cS u 0,[aI 0,aI 40],gX u 0,du,8,0,ae⟩ g c β s)(e:lW 200000 (gX u 0).ar (gX (15,20,none) 1).ar=ae)(bt:g.S<=10000):mg (jH D) g c β s:=
 mg.G0 (h:=jH D) (D:=D) (ah:=mV) (p:=cS u 0) (q:=gX u 0) (bY:=8) H rfl e (by show g.S+0<=_;exact bR (by assumption) (bA rfl))
theorem Q0(P:ck K)(S:Spot K g c β s after root cM aA w (jH D).p)(U:c.Ok g dep)(hh:dep<=120)(g4:g.S+100<=10000)(a8:β.aE[2]? =C 20):mg (jH D) g c β s:=by
 refine eH (Me S.sat.facts.aE) λz fG hA kn=>?_;rw[a8] at fG;(obtain J:=aT fG;clear fG;(clear hA;subst J));obtain F:=BG (u:=gz) (bR (gu _ _) (by assumption)) (kn gz ⟨by exact aS rfl,by exact aS rfl,λI q=>by exact bK q⟩) (by kernel_rfl);have eE:Spot _ g c β s after root cM aA w (cS gz 0):=S.bounds rfl F;refine Mf (u:=gz) ?_ (by kernel_rfl) (bR (gu _ _) (by assumption));refine ih (S.gen.all w S.jX) λL ax a1 a2 cm c_ dR fe=>?_;by_cases bl:4<=after w
 .exact a3 (c_ bl) λE dI=>t5 (f5:=0) (h:=⟨683,D,mV,cS gz 0,[aI 0,aI 40],gX gz 0,du,8,0,ae⟩) (D:=120) (e6:=ai) (e:=GE) (ax:=ax) (H:=cO) eE U hh (aS rfl) rfl rfl (λq=>by exact c8 q) afl E a1 a2 cm dI rfl (λI I I=>ic) (by show g.S+0<=_;lia) (aeG P)
 by_cases hw:after w=w
 .exact a3 (dR hw) λE dI=>t5 (f5:=0) (h:=⟨683,D,mV,cS gz 0,[aI 0,aI 40],gX gz 0,du,8,0,ae⟩) (D:=120) (e6:=ai) (e:=pV) (ax:=ax) (H:=cO) eE U hh (aS rfl) rfl rfl (λq=>by exact c8 q) afn E a1 a2 cm dI rfl (λI I I=>ic) (by show g.S+0<=_;lia) (aeI P)
 .exact a3 (fe (Ll (by assumption)) hw) λE dI=>t5 (f5:=after w) (h:=⟨683,D,mV,cS gz 0,[aI 0,aI 40],gX gz 0,du,8,0,ae⟩) (D:=120) (e6:=ae) (e:=hn) (ax:=ax) (H:=cO) eE U hh (aS rfl) rfl rfl (λI=>⟨hw,by exact Ll (by assumption)⟩) afm E a1 a2 cm dI rfl (λI I I=>ic) (by show g.S+0<=_;lia) (aeH P)
theorem abR(P:ck K):mi K (jH 120) (xR 0) 100:=by
 intro g c β s dep after root cM aA w S U hh g4 ⟨z,fG,hA,kn,_⟩;obtain this:z=20:=by exact Int.le_antisymm kn (gk (aS rfl) hA)
 (clear kn hA;subst this);exact Q0 P S U hh g4 fG
theorem C8(P:ck K){D mX:Nat}(B0:D<=120)(N:mi K (jH mX) (xR j) B)(ahn:100<=B)(run:ha (gp (er K (fp (jH mX)) 300) K D (.c (.ref 683)) [aI 0,aI 40] (gS ae (cS eW 0).st 8 js hn)) q_ 0 (cS eW 0) (gX eW 0) du ae=ae)
  (cP:ha (gp (er K cO 300) K 120 (.c (.ref 683)) [aI 0,aI 40] (gS ai (cS eW 0).st 8 h5 pV)) LR 0 (cS eW 0) (gX eW 0) du ae=ae):mi K (jH D) (xR (j+1)) (B+8):=by
 intro g c β s dep after root cM aA w S U hh g4 ⟨z,fG,hA,kn,uw⟩;have hh:dep<=D:=hh;by_cases a8:z=20
 ·(clear uw kn hA;subst a8);exact Q0 P S U (bR (by assumption) (by assumption)) (by lia) fG
 refine eH (Me S.sat.facts.aE) λgU cJ cY fw=>?_;rw[fG] at cJ;(obtain J:=aT cJ;clear cJ;subst J);obtain F:=BG (u:=eW) (bR (gu _ _) (by assumption)) (fw eW ⟨cY.1,by show z<=19;lia,λI q=>by exact bK q⟩) (by kernel_rfl);have eE:Spot _ g c β s after root cM aA w (cS eW 0):=S.bounds rfl F;refine Mf (u:=eW) ?_ (by kernel_rfl) (bR (gu _ _) (by assumption));refine ih (S.gen.all w S.jX) λL ax a1 a2 cm c_ dR fe=>?_;have aw:(20-z).toNat=(20-(1+z)).toNat+1:=by exact aex kn a8
 rw[aw] at uw;refine a3 uw λbl uw=>?_;by_cases hw:after w=w
 .exact a3 (dR hw) λE dI=>t5 (f5:=0) (h:=⟨683,D,mV,cS eW 0,[aI 0,aI 40],gX eW 0,du,8,0,ae⟩) (D:=120) (e6:=ai) (e:=pV) (ax:=ax) (H:=cO) eE U (bR (by assumption) (by assumption)) (aS rfl) rfl rfl (λq=>by exact c8 q) afk E a1 a2 cm dI rfl (λI I I=>ic) (by show g.S+0<=_;lia) cP
 .refine a3 (fe bl hw) λE dI=>t5 (f5:=after w) (h:=⟨683,D,mV,cS eW 0,[aI 0,aI 40],gX eW 0,du,8,0,ae⟩) (D:=D) (e6:=ae) (e:=hn) (ax:=ax) (H:=fp (jH mX)) eE U hh (jk (by assumption) (bA rfl)) rfl rfl (λI=>⟨hw,bl⟩) afj E a1 a2 cm dI rfl (λaW l cE=>?_) (by show g.S+0<=_;lia) run;refine zB (B:=B) N S.good.pin S.k (yv S.gen aW) (a4 l.ad S.cB) (a4 l.ad S.fZ) (cE rfl) rfl rfl rfl (λaY eC=>?_) bl S.S (by show g.S+8+B<=_;lia);obtain bJ:aY.aE[2]? =C z:=a4 (l.trans eC).aE fG;refine⟨1+z,?_,by lia,by lia,uw⟩;show C (((bo.aL 1 ai 2).val aY).getD 0)=_;simp only[bo.val,bJ,Option.getD_some]
theorem abQ(P:ck K):mi K (jH 40) (xR 4) 132:=
 C8 P (j:=3) (aS rfl) (C8 P (j:=2) (aS rfl) (C8 P (j:=1) (aS rfl) (C8 P (j:=0) (aS rfl) (abR P) (aS rfl) (aeJ P) (DJ P)) (aS rfl) (aeK P) (DJ P)) (aS rfl) (aeL P) (DJ P)) (aS rfl) (aeM P) (DJ P)
end
section
variable{X:gE}{c:bc}{s:aN}{w:Nat}
theorem GB(h:β.aj[k]? =C ch):(β.app n ax).aj[k]? =C ch:=h
theorem lh{L:az}{e:b4}(bu:dg g e ax)(lb:e.aC.length=1)(dI:ax.aj=[97+w])(IL:β.aj[0]? =C (97+w))(cB:β.ad[1]? =C root)(ey:ax.ad[0]? =C root):JoinOk g β ([1],[bE],e) ax:=
 ⟨bu,λk ch q=>by
  rw[dI] at q
  match k with
  |0=>(obtain J:=aT q;clear q;subst J);exact(bh _ rfl (b9 IL))
  |k+1=>simp at q,by refine G lb ?_;rfl,λi n q=>by
  match i with
  |0=>(obtain J:=aT q;clear q;subst J);exact(bh root ey cB)
  |i+1=>simp at q⟩
theorem II{e:b4}(bu:dg g e ax)(lb:e.aC.length=2)(dI:ax.aj=[97+w,97+f5])(IL:β.aj[0]? =C (97+w))(aaQ:β.aj[j]? =C (97+f5))(cB:β.ad[1]? =C root)(ey:ax.ad[0]? =C root):JoinOk g β ([1],[bE,[.chr j]],e) ax:=
 ⟨bu,λk ch q=>by
  rw[dI] at q
  match k with
  |0=>(obtain J:=aT q;clear q;subst J);exact(bh _ rfl (b9 IL))
  |1=>(obtain J:=aT q;clear q;subst J);exact(bh _ rfl (b9 aaQ))
  |k+2=>simp at q,by refine G lb ?_;rfl,λi n q=>by
  match i with
  |0=>(obtain J:=aT q;clear q;subst J);exact(bh root ey cB)
  |i+1=>simp at q⟩
theorem qx{e:b4}(bu:dg g e ax)(lb:e.aC.length=1)(dI:ax.aj=[ch])(dn:β.aj[j]? =C ch):JoinOk g β ([],[[.chr j]],e) ax:=
 ⟨bu,λk mu q=>by
  rw[dI] at q
  match k with
  |0=>(obtain J:=aT q;clear q;subst J);exact(bh _ rfl (b9 dn))
  |k+1=>simp at q,by refine G lb ?_;rfl,λi n q=>by simp at q⟩
theorem Wx(P:ck X.K)(T:bP X vw.p g c β s env fn aP at_ N)(b_:β.aj=[97+w,ch])(hw:w<4)(bl:4<=X.after w)(gR:β.aE[6]? =C (w:Int))(cR:ch∈bD)(e1:a0 aP (aR [ch])=none)(bt:g.S+dS<=9000)(aq:gn X g c env at_ c7 Q)(et:β.ad[9]? =C c7):
  dX g c (cH ((ea X.K).drop 3) env) Q E s:=by
 refine qF (T.gens.ry w hw) λL ax a1 a2 cm c_ dR fe I=>a3 (fe bl) λbu dI=>?_;have F:=Fits.of T.sat.toSatO;have len:β.ad.length=31:=F.ad;obtain mC:β.aE.length=7:=F.aE;have v0:β.aj[0]? =C (97+w):=by exact G b_ rfl
 have v1:β.aj[1]? =C ch:=by exact G b_ rfl
 obtain dm:=fq T.ct T.sat (lh (L:=L) bu rfl dI v0 T.cB a2) (by kernel_rfl);obtain qs:(β.app 1 ax).ad[31]? =C (L,L):=by obtain this:=FI (β:=β) (ax:=ax) (k:=1) (j:=0);rw[len] at this;exact this.trans cm
 obtain mA:(β.app 1 ax).ad[32]? =C (X.ga w):=by obtain this:=FI (β:=β) (ax:=ax) (k:=1) (j:=1);rw[len] at this;exact this.trans c_
 obtain Jl:(β.app 1 ax).aE[7]? =C (2+2*(w:Int)):=by obtain this:=MF (β:=β) (ax:=ax) (k:=1) (j:=0);rw[mC] at this;exact this.trans dR
 obtain ed:=a4 (aZ.eb (β:=β) (k:=1) (ax:=ax)).aE T.ed;obtain H:=je (v:=vw.v) T aZ.eb dm (by kernel_rfl) (i0 (mx v0) qs a1 (all_cons (T.ie v1 cR) all_nil)) (fs (all_cons (T.nv v0) (all_cons (T.t7 v1 e1) (all_cons (T.wk ed) all_nil)))) (fs (all_cons (bP.g9 v1 e1) all_nil));obtain run:gg (cP X.K cO vw) yk=true:=aed P;exact ug (x:=vw) T aZ.eb ic H run aq et bt cR (b9 v1) e1 (λx ak=>(nomatch ak)) (.inr (.inl ⟨rfl,by exact aS rfl⟩)) λaY br eN es gQ h4 a_ mH pu mN mO d7 c4 same=>.B 1 w ⟨by exact aS rfl,by exact aS rfl⟩ hw _ gQ h4 mH (e3 (.cons (b9 (a4 a_.aj v1)) .nil)) (dz (n:=1) rfl (a4 a_.ad (a4 aZ.eb.ad T.cB))) (dz (n:=2) rfl (a4 a_.ad (a4 aZ.eb.ad T.el))) (dz (n:=32) rfl (a4 a_.ad mA)) mN mO
  (by obtain this:=kP (ah:=yk.fI) (i:=0) (e:=.aL 0 ai 6) rfl (lU (c:=0) (a4 a_.aE (a4 aZ.eb.aE gR)));refine G this ?_;simp)
  (by obtain this:=kP (ah:=yk.fI) (i:=1) (e:=.aL 0 ai 7) rfl (lU (c:=0) (a4 a_.aE Jl));refine G this ?_;simp) d7 c4
theorem eY{i:Nat}{x:Option (az×az)}(len:β.ad.length=n)(bN:i=n+j)(h:ax.ad[k+j]? =x):(β.app k ax).ad[i]? =x:=by subst bN;(refine G (bW len) (G FI ?_));exact h
theorem kA{m:Nat}{e:b4}(len:β.ad.length=n)(bu:dg g e ax)(hm:m=n+(e.os.length-k)):(β.app k ax).ad.length=m:=by show(β.ad++ax.ad.drop k).length=m;exact G iG (G uB (G len (G bu.len (G hm rfl))))
theorem ve{i:Nat}{x:Option Int}(len:β.aE.length=n)(bN:i=n+j)(h:ax.aE[j]? =x):(β.app k ax).aE[i]? =x:=by subst bN;(refine G (bW len) (G MF ?_));exact h
theorem Vi{m:Nat}{e:b4}(len:β.aE.length=n)(bu:dg g e ax)(hm:m=n+e.ar.length):(β.app k ax).aE.length=m:=by show(β.aE++ax.aE).length=m;exact G iG (G len (G (bW bu.facts.aE.length) (G hm rfl)))
theorem ir{v:Nat}{i:Nat}(h:cI ah.aE i=C (.aL 0 ai v))(a8:β.aE[v]? =C z):(pull ah β).aE[i]? =C z:=by obtain this:=kP (ah:=ah) h (lU (c:=0) a8);refine G this ?_;simp
theorem R2(T:bP X p g c β s env fn aP at_ N)(h:p.st.ar[2]? =C dZ):1<=X.room/\X.room<=5:=by refine jQ (T.sat.facts.aE.get h) λz fG hA kn I=>?_;rw[T.room] at fG;(obtain J:=aT fG;clear fG;subst J);exact⟨hA,kn⟩
theorem l2(T:bP X p g c β s env fn aP at_ N)(h:a0 aP (aR [ch])≠none):Entry g X.root X.fr X.ga fn aP ch:=by refine eH (T.ents _ h) λbI I e E=>?_;obtain this:=oi e;simp at this;(clear e;subst this);exact E
theorem GG{m D more:Nat}{AS fI:cW}(hm:2<=m/\m<=4)(T:bP X (ju m).p g c β s env fn aP at_ N)(b_:β.aj=[97+w,ch,97+X.after w])(hw:w<4)(bl:X.after w<4)(hi:X.after w≠w)(bb:gm X.after (m-1) (X.after w))(gR:β.aE[6]? =C (w:Int))(cR:ch∈bD)(e1:a0 aP (aR [ch])=none)
  (bt:g.S+dS<=9000)(aq:gn X g c env at_ c7 Q)(et:β.ad[9]? =C c7)(xM:mi X.K (jo (m-1) ah D) (sY (m-1)) B)(g4:B<=900)(t1:cI ah.ad 1=C 1)(Aa:cI ah.ad 8=C 13)(Ac:ah.aj=[[.chr 2]])
  (run:gg (cP X.K (iv (fp (jo (m-1) ah D))) (ju m)) ⟨AS,fI,gP m,3,4,bw,[jj 1 "_1"],more,[]⟩=ae)(ZD:1<=more)(ey:cI fI.ad 0=C 1)(a9:cI fI.ad 1=C 2)(bf:cI fI.ad 2=C 32)(G3:cI fI.aE 0=C (.aL 0 ai 6))(G4:cI fI.aE 1=C (.aL 0 ai 7))(G1:fI.aj=[[.chr 1]])
  (aX:(ju m).p.os.length=31/\(ju m).p.ar.length=7)(cE:(hu (ju m).p.st [1] [bE,c3] rj).isSome=ae)(hf:freshD ((ju m).jy.foldl hO (ju m).p.st)=ae):dX g c (cH ((ea X.K).drop 3) env) Q E s:=by
 refine t_ (T.gens.ry w hw) λL ax a1 a2 cm c_ dR I I kz=>a3 (kz bl hi) λbu dI=>?_;have F:=Fits.of T.sat.toSatO;have len:β.ad.length=31:=F.ad.trans aX.1;obtain mC:β.aE.length=7:=F.aE.trans aX.2;have v0:β.aj[0]? =C (97+w):=by exact G b_ rfl
 have v1:β.aj[1]? =C ch:=by exact G b_ rfl
 have v2:β.aj[2]? =C (97+X.after w):=by exact G b_ rfl
 obtain dm:=fq T.ct T.sat (II bu rfl dI v0 v2 T.cB a2) cE;obtain qs:(β.app 1 ax).ad[31]? =C (L,L):=eY (j:=0) len rfl cm;obtain mA:(β.app 1 ax).ad[32]? =C (X.ga w):=eY (j:=1) len rfl c_;obtain Jl:(β.app 1 ax).aE[7]? =C (2+2*(w:Int)):=ve (j:=0) mC rfl dR;have le:β.le (β.app 1 ax):=aZ.eb;obtain ed:=a4 le.aE T.ed;obtain H:=je (v:=(ju m).v) T le dm hf (i0 (mx v0) qs a1 (all_cons (T.ie v1 cR) all_nil)) (fs (all_cons (T.nv v0) (all_cons (T.t7 v1 e1) (all_cons (T.wk ed) all_nil)))) (fs (all_cons (bP.g9 v1 e1) all_nil));obtain f9:fu (g.pin (β.app 1 ax)) (iv (fp (jo (m-1) ah D))):=GL (zB (f5:=X.after w) xM T.good.pin T.k (yv T.gens.gen _) (a4 le.ad T.cB) (a4 le.ad T.k1) v2 t1 Aa Ac (λI I=>bb) bl T.S (by show g.S+8+B<=_;unfold dS at bt;lia));exact ug (x:=ju m) T le f9 H run aq et bt cR (b9 v1) e1 (λx ak=>(nomatch ak)) (.inr (.inl ⟨rfl,ZD⟩)) λaY br eN es gQ h4 a_ mH pu mN mO d7 c4 same=>.B m w ⟨by lia,hm.2⟩ hw _ gQ h4 mH (e3 (by(refine G (show(il.fI ⟨AS,fI,gP m,3,4,bw,[jj 1 "_1"],more,[]⟩)=fI from rfl) (G G1 ?_));exact .cons (b9 (a4 a_.aj v1)) .nil)) (dz ey (a4 a_.ad (a4 le.ad T.cB))) (dz a9 (a4 a_.ad (a4 le.ad T.el))) (dz bf (a4 a_.ad mA)) mN mO
  (ir G3 (a4 a_.aE (a4 le.aE gR))) (ir G4 (a4 a_.aE Jl)) d7 c4
theorem Wy(P:ck X.K)(T:bP X (ju 2).p g c β s env fn aP at_ N)(b_:β.aj=[97+w,ch,97+X.after w])(hw:w<4)(bb:gm X.after 2 w)(gR:β.aE[6]? =C (w:Int))(cR:ch∈bD)(e1:a0 aP (aR [ch])=none)(bt:g.S+dS<=9000)(aq:gn X g c env at_ c7 Q)(et:β.ad[9]? =C c7):
  dX g c (cH ((ea X.K).drop 3) env) Q E s:=
 GG (m:=2) (D:=80) (B:=100) (ah:=LW) (aS rfl) T b_ hw bb.1 (gm.ne bb hw) bb.2 gR cR e1 bt aq et (Jm P) (aS rfl) rfl rfl rfl (aee P) (aS rfl) rfl rfl rfl rfl rfl rfl ⟨rfl,rfl⟩ (by kernel_rfl) (by kernel_rfl)
theorem Wz(P:ck X.K)(T:bP X (ju 3).p g c β s env fn aP at_ N)(b_:β.aj=[97+w,ch,97+X.after w])(hw:w<4)(bb:gm X.after 3 w)(gR:β.aE[6]? =C (w:Int))(cR:ch∈bD)(e1:a0 aP (aR [ch])=none)(bt:g.S+dS<=9000)(aq:gn X g c env at_ c7 Q)(et:β.ad[9]? =C c7):
  dX g c (cH ((ea X.K).drop 3) env) Q E s:=
 GG (m:=3) (D:=60) (B:=108) (ah:=LX) (aS rfl) T b_ hw bb.1 (gm.ne bb hw) bb.2 gR cR e1 bt aq et (Jn P) (aS rfl) rfl rfl rfl (aef P) (aS rfl) rfl rfl rfl rfl rfl rfl ⟨rfl,rfl⟩ (by kernel_rfl) (by kernel_rfl)
theorem WA(P:ck X.K)(T:bP X (ju 4).p g c β s env fn aP at_ N)(b_:β.aj=[97+w,ch,97+X.after w])(hw:w<4)(bb:gm X.after 4 w)(gR:β.aE[6]? =C (w:Int))(cR:ch∈bD)(e1:a0 aP (aR [ch])=none)(bt:g.S+dS<=9000)(aq:gn X g c env at_ c7 Q)(et:β.ad[9]? =C c7):
  dX g c (cH ((ea X.K).drop 3) env) Q E s:=
 GG (m:=4) (D:=40) (B:=116) (ah:=LY) (aS rfl) T b_ hw bb.1 (gm.ne bb hw) bb.2 gR cR e1 bt aq et (QZ P) (aS rfl) rfl rfl rfl (aeg P) (aS rfl) rfl rfl rfl rfl rfl rfl ⟨rfl,rfl⟩ (by kernel_rfl) (by kernel_rfl)
theorem WB(P:ck X.K)(T:bP X vx.p g c β s env fn aP at_ N)(b_:β.aj=[97+w])(hw:w<4)(bl:X.after w=w)(aq:gn X g c env at_ c7 Q):dX g c (cH ((ea X.K).drop 3) env) Q E s:=by
 refine t_ (T.gens.ry w hw) λL ax a1 a2 cm c_ dR I iq I=>a3 (iq bl) λbu dI=>?_;obtain F:=Fits.of T.sat.toSatO;obtain len:β.ad.length=30:=F.ad;have v0:β.aj[0]? =C (97+w):=by exact G b_ rfl
 obtain dm:=fq T.ct T.sat (j:=([1],[bE],L7)) (lh (L:=L) bu rfl dI v0 T.cB a2) (by kernel_rfl);obtain l0:(β.app 1 ax).ad[30]? =C (L,L):=eY (j:=0) len rfl cm;have le:β.le (β.app 1 ax):=aZ.eb;obtain ed:=a4 le.aE T.ed;obtain H:=je (v:=vx.v) T le dm (by kernel_rfl) (i0 (mx v0) l0 a1 all_nil) (fs (all_cons (T.nv v0) (all_cons (T.wk ed) all_nil))) (fs all_nil);obtain run:d5 (cP X.K cO vx)=true:=aeh P;exact mJ (x:=vx) T.good T.k T.ct (T.env.le le) ic H run aq
theorem WC(P:ck X.K)(T:bP X tB.p g c β s env fn aP at_ N)(b_:β.aj=[97+w,97+X.after w])(hw:w<4)(bl:X.after w<4)(hi:X.after w≠w)(Cn:xB X.after X.room.toNat w)(bt:g.S+dS<=9000)(aq:gn X g c env at_ c7 Q):dX g c (cH ((ea X.K).drop 3) env) Q E s:=by
 refine t_ (T.gens.ry w hw) λL ax a1 a2 cm c_ dR I I kz=>a3 (kz bl hi) λbu dI=>?_;obtain F:=Fits.of T.sat.toSatO;obtain len:β.ad.length=30:=F.ad;have v0:β.aj[0]? =C (97+w):=by exact G b_ rfl
 have v1:β.aj[1]? =C (97+X.after w):=by exact G b_ rfl
 obtain dm:=fq T.ct T.sat (j:=([1],[bE,bw],rj)) (II bu rfl dI v0 v1 T.cB a2) (by kernel_rfl);obtain l0:(β.app 1 ax).ad[30]? =C (L,L):=eY (j:=0) len rfl cm;have le:β.le (β.app 1 ax):=aZ.eb;obtain ed:=a4 le.aE T.ed;obtain H:=je (v:=tB.v) T le dm (by kernel_rfl) (i0 (mx v0) l0 a1 all_nil) (fs (all_cons (T.nv v0) (all_cons (T.wk ed) all_nil))) (fs all_nil);obtain run:d5 (cP X.K (iv (fp (u1 AQ 40))) tB)=true:=aei P;refine a3 (R2 T rfl) λdc dA=>?_;obtain xM:mi X.K (u1 AQ 40) (xR 4) 132:=abQ P;obtain f9:fu (g.pin (β.app 1 ax)) (iv (fp (u1 AQ 40))):=GL (zB (f5:=X.after w) xM T.good.pin T.k (yv T.gens.gen _) (lZ:=1) (Ik:=13) (j:=1) (a4 le.ad T.cB) (a4 le.ad T.k1) v1 rfl rfl rfl (λaY eC=>by
  obtain cb:aY.aE[2]? =C X.room:=a4 (le.trans eC).aE T.room;refine⟨21-X.room,?_,by lia,by lia,?_⟩
  .show C (((bo.aL 21 ae 2).val aY).getD 0)=_;simp only[bo.val,cb,Option.getD_some]
  .obtain e:X.room.toNat=(20-(21-X.room)).toNat+1:=by exact R1 dc
   rw[e] at Cn;exact Cn.2) bl T.S (by show g.S+8+132<=_;unfold dS at bt;lia))
 exact mJ (x:=tB) T.good T.k T.ct (T.env.le le) f9 H run aq
theorem Wt(P:ck X.K)(T:bP X vv.p g c β s env fn aP at_ N)(b_:β.aj=[97+w,ch])(hw:w<4)(bl:4<=X.after w)(cR:ch∈bD)(hold:a0 aP (aR [ch])≠none)(aq:gn X g c env at_ c7 Q):dX g c (cH ((ea X.K).drop 3) env) Q E s:=by
 refine qF (T.gens.ry w hw) λL ax a1 a2 cm c_ dR fe I=>a3 (fe bl) λbu dI=>ig ((l2 T hold).ey T.aD) λjE m3 ou gI jz dn=>?_;obtain F:=Fits.of T.sat.toSatO;have len:β.ad.length=30:=F.ad;have v0:β.aj[0]? =C (97+w):=by exact G b_ rfl
 have v1:β.aj[1]? =C ch:=by exact G b_ rfl
 obtain dm:=fq T.ct T.sat (j:=([1],[bE],GE)) (lh (L:=L) bu rfl dI v0 T.cB a2) (by kernel_rfl);obtain ho:=fq T.ct dm (j:=([],[bw],kx)) (qx ou rfl gI (GB v1)) (by kernel_rfl);obtain hv:β.le (β.app 1 ax):=aZ.eb;have fC:(β.app 1 ax).le ((β.app 1 ax).app 0 jE):=aZ.eb;obtain l0:(β.app 1 ax).ad[30]? =C (L,L):=eY (j:=0) len rfl cm;obtain Z2:((β.app 1 ax).app 0 jE).ad[38]? =C m3:=eY (j:=0) (kA (m:=38) len bu rfl) rfl jz;have le:=hv.trans fC;obtain ed:=a4 le.aE T.ed;obtain H:=je (v:=vv.v) T le ho (by kernel_rfl) (i0 (mx v0) (a4 fC.ad l0) a1 (all_cons (T.ie v1 cR) all_nil)) (i0 (b9 v1) Z2 dn (all_cons (T.nv v0) (all_cons (T.wk ed) all_nil))) (fs all_nil);obtain run:d5 (cP X.K cO vv)=true:=ad9 P;exact mJ (x:=vv) T.good T.k T.ct (T.env.le le) ic H run aq
theorem GF{m D:Nat}(T:bP X (jt m).p g c β s env fn aP at_ N)(b_:β.aj=[97+w,ch,97+X.after w])(hw:w<4)(bl:X.after w<4)(hi:X.after w≠w)(bb:gm X.after (m-1) (X.after w))(cR:ch∈bD)(hold:a0 aP (aR [ch])≠none)
  (bt:g.S+dS<=9000)(aq:gn X g c env at_ c7 Q)(xM:mi X.K (jo (m-1) ah D) (sY (m-1)) B)(g4:B<=900)(t1:cI ah.ad 1=C 1)(Aa:cI ah.ad 8=C 13)(Ac:ah.aj=[[.chr 2]])
  (run:d5 (cP X.K (iv (fp (jo (m-1) ah D))) (jt m))=ae)(aX:(jt m).p.os.length=30)(cE:(hu (jt m).p.st [1] [bE,c3] rj).isSome=ae)(Zn:(hu (hO (jt m).p.st ([1],[bE,c3],rj)) [] [bw] kx).isSome=ae)(hf:freshD ((jt m).jy.foldl hO (jt m).p.st)=ae):dX g c (cH ((ea X.K).drop 3) env) Q E s:=by
 refine t_ (T.gens.ry w hw) λL ax a1 a2 cm c_ dR I I kz=>a3 (kz bl hi) λbu dI=>ig ((l2 T hold).ey T.aD) λjE m3 ou gI jz dn=>?_;obtain F:=Fits.of T.sat.toSatO;have len:β.ad.length=30:=F.ad.trans aX;have v0:β.aj[0]? =C (97+w):=by exact G b_ rfl
 have v1:β.aj[1]? =C ch:=by exact G b_ rfl
 have v2:β.aj[2]? =C (97+X.after w):=by exact G b_ rfl
 obtain dm:=fq T.ct T.sat (j:=([1],[bE,c3],rj)) (II bu rfl dI v0 v2 T.cB a2) cE;obtain ho:=fq T.ct dm (j:=([],[bw],kx)) (qx ou rfl gI (GB v1)) Zn;obtain hv:β.le (β.app 1 ax):=aZ.eb;have fC:(β.app 1 ax).le ((β.app 1 ax).app 0 jE):=aZ.eb;obtain l0:(β.app 1 ax).ad[30]? =C (L,L):=eY (j:=0) len rfl cm;obtain y1:((β.app 1 ax).app 0 jE).ad[41]? =C m3:=eY (j:=0) (kA (m:=41) len bu rfl) rfl jz;have le:=hv.trans fC;obtain ed:=a4 le.aE T.ed;obtain H:=je (v:=(jt m).v) T le ho hf (i0 (mx v0) (a4 fC.ad l0) a1 (all_cons (T.ie v1 cR) all_nil)) (i0 (b9 v1) y1 dn (all_cons (T.nv v0) (all_cons (T.wk ed) all_nil))) (fs all_nil);obtain f9:fu (g.pin ((β.app 1 ax).app 0 jE)) (iv (fp (jo (m-1) ah D))):=GL (zB (f5:=X.after w) xM T.good.pin T.k (yv T.gens.gen _) (a4 le.ad T.cB) (a4 le.ad T.k1) (a4 le.aj v2) t1 Aa Ac (λI I=>bb) bl T.S (by show g.S+8+B<=_;unfold dS at bt;lia));exact mJ (x:=jt m) T.good T.k T.ct (T.env.le le) f9 H run aq
theorem Wu(P:ck X.K)(T:bP X (jt 2).p g c β s env fn aP at_ N)(b_:β.aj=[97+w,ch,97+X.after w])(hw:w<4)(bb:gm X.after 2 w)(cR:ch∈bD)(hold:a0 aP (aR [ch])≠none)(bt:g.S+dS<=9000)(aq:gn X g c env at_ c7 Q):dX g c (cH ((ea X.K).drop 3) env) Q E s:=
 GF (m:=2) (D:=80) (B:=100) (ah:=LS) T b_ hw bb.1 (gm.ne bb hw) bb.2 cR hold bt aq (Jm P) (aS rfl) rfl rfl rfl (aea P) rfl (by kernel_rfl) (by kernel_rfl) (by kernel_rfl)
theorem Wv(P:ck X.K)(T:bP X (jt 3).p g c β s env fn aP at_ N)(b_:β.aj=[97+w,ch,97+X.after w])(hw:w<4)(bb:gm X.after 3 w)(cR:ch∈bD)(hold:a0 aP (aR [ch])≠none)(bt:g.S+dS<=9000)(aq:gn X g c env at_ c7 Q):dX g c (cH ((ea X.K).drop 3) env) Q E s:=
 GF (m:=3) (D:=60) (B:=108) (ah:=LU) T b_ hw bb.1 (gm.ne bb hw) bb.2 cR hold bt aq (Jn P) (aS rfl) rfl rfl rfl (aeb P) rfl (by kernel_rfl) (by kernel_rfl) (by kernel_rfl)
theorem Ww(P:ck X.K)(T:bP X (jt 4).p g c β s env fn aP at_ N)(b_:β.aj=[97+w,ch,97+X.after w])(hw:w<4)(bb:gm X.after 4 w)(cR:ch∈bD)(hold:a0 aP (aR [ch])≠none)(bt:g.S+dS<=9000)(aq:gn X g c env at_ c7 Q):dX g c (cH ((ea X.K).drop 3) env) Q E s:=
 GF (m:=4) (D:=40) (B:=116) (ah:=LV) T b_ hw bb.1 (gm.ne bb hw) bb.2 cR hold bt aq (QZ P) (aS rfl) rfl rfl rfl (aec P) rfl (by kernel_rfl) (by kernel_rfl) (by kernel_rfl)
end
variable{i8:az×az}
section
variable{X:gE}{c:bc}{s:aN}{w bF:Nat}
theorem WJ(P:ck X.K)(T:bP X wB.p g c β s env fn aP at_ N)(b_:β.aj=[ch])(gR:β.aE[6]? =C (-1))(cR:ch∈bD)(e1:a0 aP (aR [ch])=none)(bt:g.S+dS<=9000)(aq:gn X g c env at_ c7 Q)(et:β.ad[9]? =C c7):
  dX g c (cH ((ea X.K).drop 3) env) Q E s:=by
 have v0:β.aj[0]? =C ch:=by exact G b_ rfl
 obtain H:=je (v:=wB.v) T (.refl _) T.sat (by kernel_rfl) (fs (all_cons (T.ie v0 cR) all_nil)) (fs (all_cons (T.t7 v0 e1) all_nil)) (fs (all_cons (bP.g9 v0 e1) all_nil));obtain run:gg (cP X.K cO wB) GS=true:=aew P;exact ug (x:=wB) T (.refl _) ic H run aq et bt cR (b9 v0) e1 (λx ak=>(nomatch ak)) (.inl rfl) λaY br eN es gQ h4 a_ mH pu mN mO d7 c4 same=>.A _ gQ h4 mH (e3 (.cons (b9 (a4 a_.aj v0)) .nil)) (dz (n:=1) rfl (a4 a_.ad T.cB)) (dz (n:=2) rfl (a4 a_.ad T.el)) mN mO (ir (v:=6) rfl (a4 a_.aE gR)) d7 c4
theorem WI(P:ck X.K)(T:bP X wA.p g c β s env fn aP at_ N)(b_:β.aj=[ch])(cR:ch∈bD)(hold:a0 aP (aR [ch])≠none)(aq:gn X g c env at_ c7 Q):dX g c (cH ((ea X.K).drop 3) env) Q E s:=by
 refine ig ((l2 T hold).ey T.aD) λjE m3 ou gI jz dn=>?_;obtain F:=Fits.of T.sat.toSatO;obtain len:β.ad.length=30:=F.ad;have v0:β.aj[0]? =C ch:=by exact G b_ rfl
 obtain dm:=fq T.ct T.sat (j:=([],[bE],kx)) (qx ou rfl gI v0) (by kernel_rfl);have le:β.le (β.app 0 jE):=aZ.eb;obtain l0:(β.app 0 jE).ad[30]? =C m3:=eY (j:=0) len rfl jz;obtain H:=je (v:=wA.v) T le dm (by kernel_rfl) (fs (all_cons (T.ie v0 cR) all_nil)) (i0 (b9 v0) l0 dn all_nil) (fs all_nil);obtain run:d5 (cP X.K cO wA)=true:=aev P;exact mJ (x:=wA) T.good T.k T.ct (T.env.le le) ic H run aq
theorem IJ{e:b4}{fr:az×az}{aj:List ag}(bu:dg g e ax)(b_:bL (λe c=>ag.val β e=C [c]) aj ax.aj)(cB:β.ad[1]? =C root)(el:β.ad[2]? =C fr)(ey:ax.ad[0]? =C root)(a9:ax.ad[1]? =C fr):JoinOk g β ([1,2],aj,e) ax:=
 ⟨bu,λk ch q=>by
  exact aU (b_.get' q) λx dw dV=>(bh x (G (f3 _ _) dw) dV),by exact G (show(([1,2],aj,e):List Nat×List ag×b4).2.2=e from rfl) (b_.length.trans bu.facts.aj.length.symm),λi n q=>by
  match i with
  |0=>(obtain J:=aT q;clear q;subst J);exact(bh root ey cB)
  |1=>(obtain J:=aT q;clear q;subst J);exact(bh fr a9 el)
  |i+2=>simp at q⟩
theorem Wq(P:ck X.K)(T:bP X u7.p g c β s env fn aP at_ N)(b_:β.aj=[bF,ch])(bu:dg g sR ax)(aj:ax.aj=[bF])(r:ax.ad[0]? =C X.root)(f:ax.ad[1]? =C X.fr)(l:ax.ad[2]? =C L)(gh:a0 fn (aR [bF])=C (.ref L.1))(mM:a0 aP (aR [bF])=C (.ref i8.1))
  (gR:β.aE[6]? =C (-1))(d_:bF∈bD)(cR:ch∈bD)(e1:a0 aP (aR [ch])=none)(bt:g.S+dS<=9000)(aq:gn X g c env at_ c7 Q)(et:β.ad[9]? =C c7):dX g c (cH ((ea X.K).drop 3) env) Q E s:=by
 obtain F:=Fits.of T.sat.toSatO;obtain len:β.ad.length=30:=F.ad;have v0:β.aj[0]? =C bF:=by exact G b_ rfl
 have v1:β.aj[1]? =C ch:=by exact G b_ rfl
 obtain dm:=fq T.ct T.sat (j:=([1,2],[bE],sR)) (IJ bu (G aj (.cons (b9 v0) .nil)) T.cB T.el r f) (by kernel_rfl);have le:β.le (β.app 2 ax):=aZ.eb;have l0:(β.app 2 ax).ad[30]? =C L:=eY (j:=0) len rfl l;obtain H:=je (v:=u7.v) T le dm (by kernel_rfl) (fs (all_cons (T.ie v0 d_) (all_cons (T.ie v1 cR) all_nil))) (i0 (b9 v0) l0 gh (all_cons (T.t7 v1 e1) all_nil)) (fs (all_cons (bP.g9 v1 e1) all_nil));obtain run:gg (cP X.K cO u7) GP=true:=ad2 P;refine ug (x:=u7) T le ic H run aq et bt cR (b9 v1) e1 (λx ak=>?_) (.inl rfl) λaY br eN es gQ h4 a_ mH pu mN mO d7 c4 same=>?_
 .have ak:x∈ [(bE,30)]:=ak;obtain rfl:=eu.mp ak;exact(i3 bF L (b9 v0) l0 gh (by refine G mM ?_;simp))
 .exact .A _ gQ h4 mH (e3 (.cons (b9 (a4 a_.aj v1)) .nil)) (dz (n:=1) rfl (a4 a_.ad (a4 le.ad T.cB))) (dz (n:=2) rfl (a4 a_.ad (a4 le.ad T.el))) mN mO (ir (v:=6) rfl (a4 a_.aE (a4 le.aE gR))) d7 c4
theorem BE{m:Nat}{AS fI:cW}(hm:1<=m/\m<=4)(hw:w<4)(T:bP X (jJ m).p g c β s env fn aP at_ N)(b_:β.aj=[bF,ch])(bu:dg g (gP m) ax)(aj:ax.aj=[bF])(r:ax.ad[0]? =C X.root)(f:ax.ad[1]? =C X.fr)(ge:ax.ad[2]? =C (X.ga w))(l:ax.ad[3]? =C L)(e_:ax.aE[1]? =C (2+2*(w:Int)))(gh:a0 fn (aR [bF])=C (.ref L.1))(mM:a0 aP (aR [bF])=C (.ref i8.1))
  (gR:β.aE[6]? =C (w:Int))(d_:bF∈bD)(cR:ch∈bD)(e1:a0 aP (aR [ch])=none)(bt:g.S+dS<=9000)(aq:gn X g c env at_ c7 Q)(et:β.ad[9]? =C c7)
  (run:gg (cP X.K cO (jJ m)) ⟨AS,fI,gP m,3,4,bw,[],0,[(bE,31)]⟩=ae)(ey:cI fI.ad 0=C 1)(a9:cI fI.ad 1=C 2)(bf:cI fI.ad 2=C 30)(G3:cI fI.aE 0=C (.aL 0 ai 6))(G4:cI fI.aE 1=C (.aL 0 ai 8))(G1:fI.aj=[[.chr 1]])
  (aX:(jJ m).p.os.length=30/\(jJ m).p.ar.length=7)(cE:(hu (jJ m).p.st [1,2] [bE] (gP m)).isSome=ae)(hf:freshD ((jJ m).jy.foldl hO (jJ m).p.st)=ae):dX g c (cH ((ea X.K).drop 3) env) Q E s:=by
 have F:=Fits.of T.sat.toSatO;have len:β.ad.length=30:=F.ad.trans aX.1;obtain mC:β.aE.length=7:=F.aE.trans aX.2;have v0:β.aj[0]? =C bF:=by exact G b_ rfl
 have v1:β.aj[1]? =C ch:=by exact G b_ rfl
 obtain dm:=fq T.ct T.sat (j:=([1,2],[bE],gP m)) (IJ bu (G aj (.cons (b9 v0) .nil)) T.cB T.el r f) cE;have le:β.le (β.app 2 ax):=aZ.eb;obtain l0:(β.app 2 ax).ad[30]? =C (X.ga w):=eY (j:=0) len rfl ge;have qs:(β.app 2 ax).ad[31]? =C L:=eY (j:=1) len rfl l;obtain zA:(β.app 2 ax).aE[8]? =C (2+2*(w:Int)):=ve (j:=1) mC rfl e_;obtain H:=je (v:=(jJ m).v) T le dm hf (fs (all_cons (T.ie v0 d_) (all_cons (T.ie v1 cR) all_nil))) (i0 (b9 v0) qs gh (all_cons (T.t7 v1 e1) all_nil)) (fs (all_cons (bP.g9 v1 e1) all_nil));refine ug (x:=jJ m) T le ic H run aq et bt cR (b9 v1) e1 (λx ak=>?_) (.inl rfl) λaY br eN es gQ h4 a_ mH pu mN mO d7 c4 same=>?_
 .have ak:x∈ [(bE,31)]:=ak;obtain rfl:=eu.mp ak;exact(i3 bF L (b9 v0) qs gh (by refine G mM ?_;simp))
 .exact .B m w hm hw _ gQ h4 mH (e3 (by(refine G (show(il.fI ⟨AS,fI,gP m,3,4,bw,[],0,[(bE,31)]⟩)=fI from rfl) (G G1 ?_));exact .cons (b9 (a4 a_.aj v1)) .nil)) (dz ey (a4 a_.ad (a4 le.ad T.cB))) (dz a9 (a4 a_.ad (a4 le.ad T.el))) (dz bf (a4 a_.ad l0)) mN mO
   (ir G3 (a4 a_.aE (a4 le.aE gR))) (ir G4 (a4 a_.aE zA)) d7 c4
theorem Wr{m:Nat}(P:ck X.K)(hm:1<=m/\m<=4)(hw:w<4)(T:bP X (jJ m).p g c β s env fn aP at_ N)(b_:β.aj=[bF,ch])(bu:dg g (gP m) ax)(aj:ax.aj=[bF])(r:ax.ad[0]? =C X.root)(f:ax.ad[1]? =C X.fr)(ge:ax.ad[2]? =C (X.ga w))(l:ax.ad[3]? =C L)(e_:ax.aE[1]? =C (2+2*(w:Int)))(gh:a0 fn (aR [bF])=C (.ref L.1))(mM:a0 aP (aR [bF])=C (.ref i8.1))
  (gR:β.aE[6]? =C (w:Int))(d_:bF∈bD)(cR:ch∈bD)(e1:a0 aP (aR [ch])=none)(bt:g.S+dS<=9000)(aq:gn X g c env at_ c7 Q)(et:β.ad[9]? =C c7):dX g c (cH ((ea X.K).drop 3) env) Q E s:=by
 (refine a3 hm λaa af=>?_;try clear hm);rcases m with _|_|_|_|_|m
 .exact absurd (by assumption) (qV _)
 .exact BE (m:=1) (aS rfl) hw T b_ bu aj r f ge l e_ gh mM gR d_ cR e1 bt aq et (ad3 P) rfl rfl rfl rfl rfl rfl ⟨rfl,rfl⟩ (by kernel_rfl) (by kernel_rfl)
 .exact BE (m:=2) (aS rfl) hw T b_ bu aj r f ge l e_ gh mM gR d_ cR e1 bt aq et (ad4 P) rfl rfl rfl rfl rfl rfl ⟨rfl,rfl⟩ (by kernel_rfl) (by kernel_rfl)
 .exact BE (m:=3) (aS rfl) hw T b_ bu aj r f ge l e_ gh mM gR d_ cR e1 bt aq et (ad5 P) rfl rfl rfl rfl rfl rfl ⟨rfl,rfl⟩ (by kernel_rfl) (by kernel_rfl)
 .exact BE (m:=4) (aS rfl) hw T b_ bu aj r f ge l e_ gh mM gR d_ cR e1 bt aq et (ad6 P) rfl rfl rfl rfl rfl rfl ⟨rfl,rfl⟩ (by kernel_rfl) (by kernel_rfl)
 .lia
theorem Wn(P:ck X.K)(T:bP X u5.p g c β s env fn aP at_ N)(b_:β.aj=[bF,ch])(d_:bF∈bD)(cR:ch∈bD)(bx:a0 aP (aR [bF])≠none)(hold:a0 aP (aR [ch])≠none)(aq:gn X g c env at_ c7 Q):dX g c (cH ((ea X.K).drop 3) env) Q E s:=by
 refine ig ((l2 T bx).N_ T.aD) λsM Fb DF IM IV I0=>ig ((l2 T hold).ey T.aD) λjE m3 ou gI jz dn=>?_;obtain F:=Fits.of T.sat.toSatO;have len:β.ad.length=29:=F.ad;have v0:β.aj[0]? =C bF:=by exact G b_ rfl
 have v1:β.aj[1]? =C ch:=by exact G b_ rfl
 obtain ne:bF≠ch:=by obtain e9:=T.sat.facts.cd;rw[b_] at e9;simpa using e9
 obtain dm:=fq T.ct T.sat (j:=([],[bE],rg)) (qx DF rfl IM v0) (by kernel_rfl);obtain ho:=fq T.ct dm (j:=([],[bw],kx)) (qx ou rfl gI (GB v1)) (by kernel_rfl);obtain hv:β.le (β.app 0 sM):=aZ.eb;have fC:(β.app 0 sM).le ((β.app 0 sM).app 0 jE):=aZ.eb;have le:=hv.trans fC;obtain Ih:(β.app 0 sM).ad[29]? =C Fb:=eY (j:=0) len rfl IV;obtain tS:((β.app 0 sM).app 0 jE).ad[33]? =C m3:=eY (j:=0) (kA (m:=33) len DF rfl) rfl jz;obtain H:=je (v:=u5.v) T le ho (by kernel_rfl) (fs (all_cons (T.ie v0 d_) (all_cons (T.ie v1 cR) all_nil))) (pw (b9 v0) (a4 fC.ad Ih) I0 (b9 v1) tS dn (by simpa using ne) all_nil) (fs all_nil);obtain run:d5 (cP X.K cO u5)=true:=ad0 P;exact mJ (x:=u5) T.good T.k T.ct (T.env.le le) ic H run aq
theorem Wo(P:ck X.K)(T:bP X u6.p g c β s env fn aP at_ N)(b_:β.aj=[ch])(cR:ch∈bD)(hold:a0 aP (aR [ch])≠none)(aq:gn X g c env at_ c7 Q):dX g c (cH ((ea X.K).drop 3) env) Q E s:=by
 refine ig ((l2 T hold).N_ T.aD) λsM Fb DF IM IV I0=>?_;obtain F:=Fits.of T.sat.toSatO;obtain len:β.ad.length=29:=F.ad;have v0:β.aj[0]? =C ch:=by exact G b_ rfl
 obtain dm:=fq T.ct T.sat (j:=([],[bE],rg)) (qx DF rfl IM v0) (by kernel_rfl);have le:β.le (β.app 0 sM):=aZ.eb;obtain Ih:(β.app 0 sM).ad[29]? =C Fb:=eY (j:=0) len rfl IV;obtain H:=je (v:=u6.v) T le dm (by kernel_rfl) (fs (all_cons (T.ie v0 cR) all_nil)) (i0 (b9 v0) Ih I0 all_nil) (fs all_nil);obtain run:d5 (cP X.K cO u6)=true:=ad1 P;exact mJ (x:=u6) T.good T.k T.ct (T.env.le le) ic H run aq
theorem NJ(P:ck X.K)(T:bP X u_.p g c β s env fn aP at_ N)(aq:gn X g c env at_ c7 Q):dX g c (cH ((ea X.K).drop 3) env) Q E s:=by obtain H:=je (v:=u_.v) T (.refl _) T.sat (by kernel_rfl) (fs (all_cons T.Rc all_nil)) (fs (all_cons T.Rb all_nil)) (fs all_nil);obtain run:d5 (cP X.K cO u_)=true:=ad8 P;exact mJ (x:=u_) T.good T.k T.ct T.env ic H run aq
theorem Ws(P:ck X.K){iU:Nat}(hw:w<4)(T:bP X u9.p g c β s env fn aP at_ N)(b_:β.aj=[bF,ch,iU]){xK:az×az}(bu:dg g uZ ax)(aj:ax.aj=[bF,iU])(r:ax.ad[0]? =C X.root)(f:ax.ad[1]? =C X.fr)(l:ax.ad[3]? =C L)(a_:ax.ad[13]? =C xK)(e_:ax.aE[1]? =C (3+2*(w:Int)))
  (gh:a0 fn (aR [bF])=C (.ref L.1))(mM:a0 aP (aR [bF])=C (.ref i8.1))(nJ:a0 fn (aR [iU])=C (.ref xK.1))(km:a0 aP (aR [iU])≠none)
  (gR:β.aE[6]? =C (-1))(d_:bF∈bD)(Cj:iU∈bD)(cR:ch∈bD)(e1:a0 aP (aR [ch])=none)(bt:g.S+dS<=9000)(aq:gn X g c env at_ c7 Q)(et:β.ad[9]? =C c7):dX g c (cH ((ea X.K).drop 3) env) Q E s:=by
 have F:=Fits.of T.sat.toSatO;have len:β.ad.length=30:=F.ad;obtain mC:β.aE.length=7:=F.aE;have v0:β.aj[0]? =C bF:=by exact G b_ rfl
 have v1:β.aj[1]? =C ch:=by exact G b_ rfl
 have v2:β.aj[2]? =C iU:=by exact G b_ rfl
 obtain ne:bF≠iU:=by obtain e9:=T.sat.facts.cd;rw[b_] at e9;simp at e9;exact e9.1.2
 obtain dm:=fq T.ct T.sat (j:=([1,2],[bE,c3],uZ)) (IJ bu (G aj (.cons (b9 v0) (.cons (b9 v2) .nil))) T.cB T.el r f) (by kernel_rfl);have le:β.le (β.app 2 ax):=aZ.eb;have qs:(β.app 2 ax).ad[31]? =C L:=eY (j:=1) len rfl l;have y1:(β.app 2 ax).ad[41]? =C xK:=eY (j:=11) len rfl a_;obtain zA:(β.app 2 ax).aE[8]? =C (3+2*(w:Int)):=ve (j:=1) mC rfl e_;obtain H:=je (v:=u9.v) T le dm (by kernel_rfl) (fs (all_cons (T.ie v0 d_) (all_cons (T.ie v1 cR) (all_cons (T.ie v2 Cj) all_nil)))) (pw (b9 v0) qs gh (b9 v2) y1 nJ (by simpa using ne) (all_cons (T.t7 v1 e1) all_nil)) (fs (all_cons (bP.g9 v1 e1) all_nil));obtain run:gg (cP X.K cO u9) GQ=true:=ad7 P;refine ug (x:=u9) T le ic H run aq et bt cR (b9 v1) e1 (λx ak=>?_) (.inl rfl) λaY br eN es gQ h4 eC mH pu mN mO d7 c4 same=>?_
 .have ak:x∈ [(bE,31),(c3,41)]:=ak;rcases dh.mp ak with rfl|ak
  .exact(i3 bF L (b9 v0) qs gh (by refine G mM ?_;simp))
  .obtain rfl:=eu.mp ak;exact(i3 iU xK (b9 v2) y1 nJ km)
 .exact .U iU w _ gQ h4 xK mH (e3 (.cons (b9 (a4 eC.aj v1)) (.cons (b9 (a4 eC.aj v2)) .nil))) (dz (n:=1) rfl (a4 eC.ad (a4 le.ad T.cB))) (dz (n:=2) rfl (a4 eC.ad (a4 le.ad T.el))) mN mO (dz (n:=41) rfl (a4 eC.ad y1))
   (ir (v:=6) rfl (a4 eC.aE (a4 le.aE gR))) hw (ir (v:=8) rfl (a4 eC.aE zA)) d7 c4 ((same iU km).1.trans nJ) (G (same iU km).2 km)
theorem vu(T:bP X p g c β s env fn aP at_ N)(hw:w<4):∃L ax,a0 X.r9 (aR [103,97+w])=C (.ref L)/\ax.ad[0]? =C X.root/\ax.ad[1]? =C (L,L)/\ax.ad[2]? =C (X.ga w)/\ax.aE[0]? =C (2+2*(w:Int))/\dg g (lO kI) ax/\ax.aj=[97+w]:=by
 refine t_ (T.gens.ry w hw) λL ax a1 a2 cm c_ dR fe iq kz=>(uu L (pull ⟨[0,1,2],[.aL 0 ai 0],[bE],[]⟩ ax) a1 (dz rfl a2) (dz rfl cm) (dz rfl c_) (ir rfl dR) ?_);by_cases bl:4<=X.after w
 .exact a3 (fe bl) λbu dI=>⟨(bu.pick (by kernel_rfl) (aS rfl) (by kernel_rfl) T.aD).1,e3 (.cons (b9 (G dI rfl)) .nil)⟩
 by_cases he:X.after w=w
 .exact a3 (iq he) λbu dI=>⟨(bu.pick (by kernel_rfl) (aS rfl) (by kernel_rfl) T.aD).1,e3 (.cons (b9 (G dI rfl)) .nil)⟩
 .exact a3 (kz (Ll (by assumption)) he) λbu dI=>⟨(bu.pick (by kernel_rfl) (aS rfl) (by kernel_rfl) T.aD).1,e3 (.cons (b9 (G dI rfl)) .nil)⟩
theorem G5{m:Nat}(T:bP X p g c β s env fn aP at_ N)(hm:1<=m/\m<=4)(bu:dg g (gP m) ax)(aj:ax.aj=[bF])(ge:ax.ad[2]? =C (X.ga w))(l:ax.ad[3]? =C L):∃EP,dg g rh EP/\EP.aj=[bF]/\EP.ad[0]? =C (X.ga w)/\EP.ad[1]? =C L:=
 (l8 _ (bu.zU (cf:=rh) (ah:=⟨[2,3,5,6,7,8],[.aL 0 ai 2],[bE],[[.any 0]]⟩) hm T.aD (by kernel_rfl)) (e3 (.cons (b9 (G aj rfl)) .nil)) (dz rfl ge) (dz rfl l))
theorem CN{e:b4}{a:az×az}(bu:dg g e ax)(lb:e.aC.length=1)(dI:ax.aj=[ch])(dn:β.aj[j]? =C ch)(bn:β.ad[n]? =C a)(ey:ax.ad[0]? =C a):JoinOk g β ([n],[[.chr j]],e) ax:=
 ⟨bu,λk mu q=>by
  rw[dI] at q
  match k with
  |0=>(obtain J:=aT q;clear q;subst J);exact(bh _ rfl (b9 dn))
  |k+1=>simp at q,by refine G lb ?_;rfl,λi m q=>by
  match i with
  |0=>(obtain J:=aT q;clear q;subst J);exact(bh a ey bn)
  |i+1=>simp at q⟩
theorem wW{a b x:Nat}(h:a≠b):[a,x]≠ [b,x]:=by simpa using h
theorem WG(P:ck X.K){m:Nat}(hm:1<=m/\m<=4)(hw:w<4)(T:bP X kb.p g c β s env fn aP at_ N)(b_:β.aj=[97+w,bF,ch])(bu:dg g (gP m) ax)(aj:ax.aj=[bF])(ge:ax.ad[2]? =C (X.ga w))(l:ax.ad[3]? =C L)(gh:a0 fn (aR [bF])=C (.ref L.1))(mM:a0 aP (aR [bF])=C (.ref i8.1))
  (gR:β.aE[6]? =C (-1))(d_:bF∈bD)(cR:ch∈bD)(e1:a0 aP (aR [ch])=none)(bt:g.S+dS<=9000)(aq:gn X g c env at_ c7 Q)(et:β.ad[9]? =C c7):dX g c (cH ((ea X.K).drop 3) env) Q E s:=by
 refine qF (vu T hw) λfJ da a1 a2 cm c_ dR iY n4=>ih (T.gens.s8 w hw) λfX fj cB el gF kO n5 jr=>jQ (G5 T hm bu aj ge l) λgD jT ka h5 e5=>?_;have F:=Fits.of T.sat.toSatO;have len:β.ad.length=33:=F.ad;obtain mC:β.aE.length=7:=F.aE;have v0:β.aj[0]? =C (97+w):=by exact G b_ rfl
 have v1:β.aj[1]? =C bF:=by exact G b_ rfl
 have v2:β.aj[2]? =C ch:=by exact G b_ rfl
 have jO:(β.app 1 da).ad.length=35:=kA len iY rfl;obtain o9:((β.app 1 da).app 1 fj).ad.length=47:=kA jO kO rfl;have hv:β.le (β.app 1 da):=aZ.eb;have fC:(β.app 1 da).le ((β.app 1 da).app 1 fj):=aZ.eb;have jc:((β.app 1 da).app 1 fj).le (((β.app 1 da).app 1 fj).app 1 gD):=aZ.eb;have le:=hv.trans (fC.trans jc);obtain tS:(β.app 1 da).ad[33]? =C (fJ,fJ):=eY (j:=0) len rfl cm;obtain od:(β.app 1 da).ad[34]? =C (X.ga w):=eY (j:=1) len rfl c_;obtain Z1:((β.app 1 da).app 1 fj).ad[35]? =C (fX,fX):=eY (j:=0) jO rfl gF;have y3:(((β.app 1 da).app 1 fj).app 1 gD).ad[47]? =C L:=eY (j:=0) o9 rfl e5;obtain zA:((β.app 1 da).app 1 fj).aE[8]? =C (3+2*(w:Int)):=ve (j:=0) (Vi (m:=8) mC iY rfl) rfl jr;obtain dm:=fq T.ct T.sat (j:=([1],[bE],lO kI)) (lh (L:=fJ) iY rfl n4 v0 T.cB a2) (by kernel_rfl);obtain ho:=fq T.ct dm (j:=([1],[bE],mh)) (lh (L:=fX) kO rfl n5 v0 (a4 hv.ad T.cB) el) (by kernel_rfl);obtain m8:=fq T.ct ho (j:=([34],[bw],rh)) (CN jT rfl ka v1 (a4 fC.ad od) h5) (by kernel_rfl);have ed:=a4 le.aE T.ed;obtain H:=je (v:=kb.v) T le m8 (by kernel_rfl) (pw (mx v0) (a4 (fC.trans jc).ad tS) a1 (tD v0) (a4 jc.ad Z1) cB (wW (aS rfl)) (all_cons (T.ie v1 d_) (all_cons (T.ie v2 cR) (all_cons (T.wi ed) (all_cons T.wj all_nil)))))
  (i0 (b9 v1) y3 gh (all_cons (T.t7 v2 e1) (all_cons (T.nv v0) (all_cons (T.cO v0) (all_cons (T.wh ed) (all_cons (T.wm ed) all_nil)))))) (fs (all_cons (bP.g9 v2 e1) all_nil))
 obtain run:gg (cP X.K cO kb) GR=true:=aem P;refine ug (x:=kb) T le ic H run aq et bt cR (b9 v2) e1 (λx ak=>?_) (.inr (.inr ⟨rfl,by exact aS rfl⟩)) λaY br eN es gQ h4 eC mH pu mN mO d7 c4 same=>?_
 .have ak:x∈ [(bw,47)]:=ak;obtain rfl:=eu.mp ak;exact(i3 bF L (b9 v1) y3 gh (by refine G mM ?_;simp))
 .have bx:a0 aP (aR [bF])≠none:=by refine G mM ?_;simp
  exact .U bF w _ gQ h4 L mH (e3 (.cons (b9 (a4 eC.aj v2)) (.cons (b9 (a4 eC.aj v1)) .nil))) (dz (n:=1) rfl (a4 eC.ad (a4 le.ad T.cB))) (dz (n:=2) rfl (a4 eC.ad (a4 le.ad T.el))) mN mO (dz (n:=47) rfl (a4 eC.ad y3))
   (ir (v:=6) rfl (a4 eC.aE (a4 le.aE gR))) hw (ir (v:=8) rfl (a4 eC.aE (a4 jc.aE zA))) d7 c4 ((same bF bx).1.trans gh) (G (same bF bx).2 bx)
theorem WD(P:ck X.K){m:Nat}(hm:1<=m/\m<=4)(hw:w<4)(T:bP X MI.rL.p g c β s env fn aP at_ N)(b_:β.aj=[97+w,bF,ch]){ax:aZ}{L i8:az×az}(bu:dg g (gP m) ax)(aj:ax.aj=[bF])(ge:ax.ad[2]? =C (X.ga w))(l:ax.ad[3]? =C L)(gh:a0 fn (aR [bF])=C (.ref L.1))
  (d_:bF∈bD)(cR:ch∈bD)(hold:a0 aP (aR [ch])≠none)(aq:gn X g c env at_ c7 Q):dX g c (cH ((ea X.K).drop 3) env) Q E s:=by
 refine qF (vu T hw) λfJ da a1 a2 cm c_ dR iY n4=>ih (T.gens.s8 w hw) λfX fj cB el gF kO n5 jr=>jQ (G5 T hm bu aj ge l) λgD jT ka h5 e5=>ig ((l2 T hold).ey T.aD) λjE m3 ou gI jz dn=>?_;obtain F:=Fits.of T.sat.toSatO;have len:β.ad.length=32:=F.ad;have v0:β.aj[0]? =C (97+w):=by exact G b_ rfl
 have v1:β.aj[1]? =C bF:=by exact G b_ rfl
 have v2:β.aj[2]? =C ch:=by exact G b_ rfl
 obtain ne:bF≠ch:=by obtain e9:=T.sat.facts.cd;rw[b_] at e9;simp at e9;exact e9.2
 have jO:(β.app 1 da).ad.length=34:=kA len iY rfl;have o9:((β.app 1 da).app 1 fj).ad.length=46:=kA jO kO rfl;obtain abf:(((β.app 1 da).app 1 fj).app 1 gD).ad.length=51:=kA o9 jT rfl;have hv:β.le (β.app 1 da):=aZ.eb;have fC:(β.app 1 da).le ((β.app 1 da).app 1 fj):=aZ.eb;have jc:((β.app 1 da).app 1 fj).le (((β.app 1 da).app 1 fj).app 1 gD):=aZ.eb;have CT:(((β.app 1 da).app 1 fj).app 1 gD).le ((((β.app 1 da).app 1 fj).app 1 gD).app 0 jE):=aZ.eb;have le:=hv.trans (fC.trans (jc.trans CT));obtain mA:(β.app 1 da).ad[32]? =C (fJ,fJ):=eY (j:=0) len rfl cm;obtain tS:(β.app 1 da).ad[33]? =C (X.ga w):=eY (j:=1) len rfl c_;obtain od:((β.app 1 da).app 1 fj).ad[34]? =C (fX,fX):=eY (j:=0) jO rfl gF;obtain y2:(((β.app 1 da).app 1 fj).app 1 gD).ad[46]? =C L:=eY (j:=0) o9 rfl e5;obtain Z3:((((β.app 1 da).app 1 fj).app 1 gD).app 0 jE).ad[51]? =C m3:=eY (j:=0) abf rfl jz;obtain dm:=fq T.ct T.sat (j:=([1],[bE],lO kI)) (lh (L:=fJ) iY rfl n4 v0 T.cB a2) (by kernel_rfl);obtain ho:=fq T.ct dm (j:=([1],[bE],mh)) (lh (L:=fX) kO rfl n5 v0 (a4 hv.ad T.cB) el) (by kernel_rfl);obtain m8:=fq T.ct ho (j:=([33],[bw],rh)) (CN jT rfl ka v1 (a4 fC.ad tS) h5) (by kernel_rfl);obtain Fh:=fq T.ct m8 (j:=([],[c3],kx)) (qx ou rfl gI v2) (by kernel_rfl);have ed:=a4 le.aE T.ed;obtain H:=je (v:=MI.rL.v) T le Fh (by kernel_rfl) (pw (mx v0) (a4 (fC.trans (jc.trans CT)).ad mA) a1 (tD v0) (a4 (jc.trans CT).ad od) cB (wW (aS rfl)) (all_cons (T.ie v1 d_) (all_cons (T.ie v2 cR) (all_cons (T.wi ed) (all_cons T.wj all_nil)))))
  (pw (b9 v1) (a4 CT.ad y2) gh (b9 v2) Z3 dn (by simpa using ne) (all_cons (T.nv v0) (all_cons (T.cO v0) (all_cons (T.wh ed) (all_cons (T.wm ed) all_nil))))) (fs all_nil)
 obtain run:d5 (cP X.K cO MI.rL)=true:=aek P;exact mJ (x:=MI.rL) T.good T.k T.ct (T.env.le le) ic H run aq
theorem WE(P:ck X.K){m:Nat}(hm:1<=m/\m<=4)(hw:w<4)(T:bP X vz.p g c β s env fn aP at_ N)(b_:β.aj=[97+w,bF]){ax:aZ}{L i8:az×az}(bu:dg g (gP m) ax)(aj:ax.aj=[bF])(ge:ax.ad[2]? =C (X.ga w))(l:ax.ad[3]? =C L)(gh:a0 fn (aR [bF])=C (.ref L.1))
  (d_:bF∈bD)(aq:gn X g c env at_ c7 Q):dX g c (cH ((ea X.K).drop 3) env) Q E s:=by
 refine qF (vu T hw) λfJ da a1 a2 cm c_ dR iY n4=>ih (T.gens.s8 w hw) λfX fj cB el gF kO n5 jr=>jQ (G5 T hm bu aj ge l) λgD jT ka h5 e5=>?_;obtain F:=Fits.of T.sat.toSatO;have len:β.ad.length=32:=F.ad;have v0:β.aj[0]? =C (97+w):=by exact G b_ rfl
 have v1:β.aj[1]? =C bF:=by exact G b_ rfl
 have jO:(β.app 1 da).ad.length=34:=kA len iY rfl;obtain o9:((β.app 1 da).app 1 fj).ad.length=46:=kA jO kO rfl;have hv:β.le (β.app 1 da):=aZ.eb;have fC:(β.app 1 da).le ((β.app 1 da).app 1 fj):=aZ.eb;have jc:((β.app 1 da).app 1 fj).le (((β.app 1 da).app 1 fj).app 1 gD):=aZ.eb;have le:=hv.trans (fC.trans jc);obtain mA:(β.app 1 da).ad[32]? =C (fJ,fJ):=eY (j:=0) len rfl cm;obtain tS:(β.app 1 da).ad[33]? =C (X.ga w):=eY (j:=1) len rfl c_;obtain od:((β.app 1 da).app 1 fj).ad[34]? =C (fX,fX):=eY (j:=0) jO rfl gF;obtain y2:(((β.app 1 da).app 1 fj).app 1 gD).ad[46]? =C L:=eY (j:=0) o9 rfl e5;obtain dm:=fq T.ct T.sat (j:=([1],[bE],lO kI)) (lh (L:=fJ) iY rfl n4 v0 T.cB a2) (by kernel_rfl);obtain ho:=fq T.ct dm (j:=([1],[bE],mh)) (lh (L:=fX) kO rfl n5 v0 (a4 hv.ad T.cB) el) (by kernel_rfl);obtain m8:=fq T.ct ho (j:=([33],[bw],rh)) (CN jT rfl ka v1 (a4 fC.ad tS) h5) (by kernel_rfl);have ed:=a4 le.aE T.ed;obtain H:=je (v:=vz.v) T le m8 (by kernel_rfl) (pw (mx v0) (a4 (fC.trans jc).ad mA) a1 (tD v0) (a4 jc.ad od) cB (wW (aS rfl)) (all_cons (T.ie v1 d_) (all_cons (T.wi ed) (all_cons T.wj all_nil))))
  (i0 (b9 v1) y2 gh (all_cons (T.nv v0) (all_cons (T.cO v0) (all_cons (T.wh ed) (all_cons (T.wm ed) all_nil))))) (fs all_nil)
 obtain run:d5 (cP X.K cO vz)=true:=ael P;exact mJ (x:=vz) T.good T.k T.ct (T.env.le le) ic H run aq
theorem NK(P:ck X.K)(hw:w<4)(T:bP X h0.p g c β s env fn aP at_ N)(b_:β.aj=[97+w])(aq:gn X g c env at_ c7 Q):dX g c (cH ((ea X.K).drop 3) env) Q E s:=by
 refine qF (vu T hw) λfJ da a1 a2 cm c_ dR iY n4=>ih (T.gens.s8 w hw) λfX fj cB el gF kO n5 jr=>?_;obtain F:=Fits.of T.sat.toSatO;have len:β.ad.length=32:=F.ad;have v0:β.aj[0]? =C (97+w):=by exact G b_ rfl
 obtain jO:(β.app 1 da).ad.length=34:=kA len iY rfl;have hv:β.le (β.app 1 da):=aZ.eb;have fC:(β.app 1 da).le ((β.app 1 da).app 1 fj):=aZ.eb;have le:=hv.trans fC;obtain mA:(β.app 1 da).ad[32]? =C (fJ,fJ):=eY (j:=0) len rfl cm;obtain od:((β.app 1 da).app 1 fj).ad[34]? =C (fX,fX):=eY (j:=0) jO rfl gF;obtain dm:=fq T.ct T.sat (j:=([1],[bE],lO kI)) (lh (L:=fJ) iY rfl n4 v0 T.cB a2) (by kernel_rfl);obtain ho:=fq T.ct dm (j:=([1],[bE],mh)) (lh (L:=fX) kO rfl n5 v0 (a4 hv.ad T.cB) el) (by kernel_rfl);have ed:=a4 le.aE T.ed;obtain H:=je (v:=h0.v) T le ho (by kernel_rfl) (pw (mx v0) (a4 fC.ad mA) a1 (tD v0) od cB (wW (aS rfl)) (all_cons T.Rc (all_cons (T.wi ed) (all_cons T.wj all_nil))))
  (fs (all_cons T.Rb (all_cons (T.nv v0) (all_cons (T.cO v0) (all_cons (T.wh ed) (all_cons (T.wm ed) all_nil)))))) (fs all_nil)
 obtain run:d5 (cP X.K cO h0)=true:=aej P;exact mJ (x:=h0) T.good T.k T.ct (T.env.le le) ic H run aq
theorem WH(P:ck X.K)(hw:w<4)(T:bP X qj.p g c β s env fn aP at_ N)(b_:β.aj=[97+w,bF])(bu:dg g sR ax)(aj:ax.aj=[bF])(f:ax.ad[1]? =C X.fr)(l:ax.ad[2]? =C L)(gh:a0 fn (aR [bF])=C (.ref L.1))(d_:bF∈bD)(aq:gn X g c env at_ c7 Q):dX g c (cH ((ea X.K).drop 3) env) Q E s:=by
 refine qF (vu T hw) λfJ da a1 a2 cm c_ dR iY n4=>ih (T.gens.s8 w hw) λfX fj cB el gF kO n5 jr=>?_;obtain jT:=(bu.pick (cf:=E1) (ah:=⟨[1,2,4,5],[],[bE],[[.any 0]]⟩) (by kernel_rfl) (aS rfl) (by kernel_rfl) T.aD).1;let gD:=pull ⟨[1,2,4,5],[],[bE],[[.any 0]]⟩ ax;obtain ka:gD.aj=[bF]:=e3 (.cons (b9 (G aj rfl)) .nil);obtain h5:gD.ad[0]? =C X.fr:=dz rfl f;obtain e5:gD.ad[1]? =C L:=dz rfl l;obtain F:=Fits.of T.sat.toSatO;have len:β.ad.length=32:=F.ad;have v0:β.aj[0]? =C (97+w):=by exact G b_ rfl
 have v1:β.aj[1]? =C bF:=by exact G b_ rfl
 have jO:(β.app 1 da).ad.length=34:=kA len iY rfl;obtain o9:((β.app 1 da).app 1 fj).ad.length=46:=kA jO kO rfl;have hv:β.le (β.app 1 da):=aZ.eb;have fC:(β.app 1 da).le ((β.app 1 da).app 1 fj):=aZ.eb;have jc:((β.app 1 da).app 1 fj).le (((β.app 1 da).app 1 fj).app 1 gD):=aZ.eb;have le:=hv.trans (fC.trans jc);obtain mA:(β.app 1 da).ad[32]? =C (fJ,fJ):=eY (j:=0) len rfl cm;obtain od:((β.app 1 da).app 1 fj).ad[34]? =C (fX,fX):=eY (j:=0) jO rfl gF;obtain y2:(((β.app 1 da).app 1 fj).app 1 gD).ad[46]? =C L:=eY (j:=0) o9 rfl e5;obtain dm:=fq T.ct T.sat (j:=([1],[bE],lO kI)) (lh (L:=fJ) iY rfl n4 v0 T.cB a2) (by kernel_rfl);obtain ho:=fq T.ct dm (j:=([1],[bE],mh)) (lh (L:=fX) kO rfl n5 v0 (a4 hv.ad T.cB) el) (by kernel_rfl);obtain m8:=fq T.ct ho (j:=([2],[bw],E1)) (CN jT rfl ka v1 (a4 (hv.trans fC).ad T.el) h5) (by kernel_rfl);have ed:=a4 le.aE T.ed;obtain H:=je (v:=qj.v) T le m8 (by kernel_rfl) (pw (mx v0) (a4 (fC.trans jc).ad mA) a1 (tD v0) (a4 jc.ad od) cB (wW (aS rfl)) (all_cons (T.ie v1 d_) (all_cons (T.wi ed) (all_cons T.wj all_nil))))
  (i0 (b9 v1) y2 gh (all_cons (T.nv v0) (all_cons (T.cO v0) (all_cons (T.wh ed) (all_cons (T.wm ed) all_nil))))) (fs all_nil)
 obtain run:d5 (cP X.K cO qj)=true:=aen P;exact mJ (x:=qj) T.good T.k T.ct (T.env.le le) ic H run aq
theorem tf{bd dF:b6}(hw:w<4)(T:bP X (hX bd dF).p g c β s env fn aP at_ N)(b_:β.aj=[97+w,bF]){gD:aZ}(jT:dg g (pS dF) gD)(ka:gD.aj=[bF])(e5:gD.ad[1]? =C L)(YX:hc g.S bd (2+2*(w:Int)))(gh:a0 fn (aR [bF])=C (.ref L.1))(d_:bF∈bD)(aq:gn X g c env at_ c7 Q)
  (run:d5 (cP X.K cO (hX bd dF))=ae)(aX:(hX bd dF).p.os.length=32)(Zo:(hu (hX bd dF).p.st [1] [bE] (lO bd)).isSome=ae)(HT:(hu (hO (hX bd dF).p.st ([1],[bE],lO bd)) [1] [bE] mh).isSome=ae)(Zp:(hu (hO (hO (hX bd dF).p.st ([1],[bE],lO bd)) ([1],[bE],mh)) [] [bw] (pS dF)).isSome=ae)(hf:freshD ((hX bd dF).jy.foldl hO (hX bd dF).p.st)=ae):dX g c (cH ((ea X.K).drop 3) env) Q E s:=by
 refine qF (vu T hw) λfJ da a1 a2 cm c_ dR iY n4=>ih (T.gens.s8 w hw) λfX fj cB el gF kO n5 jr=>?_;have iY:dg g (lO bd) da:=iY.bounds (ar:=[bd]) (Du iY.facts.aE.length.symm dR▸.cons YX .nil);obtain F:=Fits.of T.sat.toSatO;have len:β.ad.length=32:=F.ad.trans aX;have v0:β.aj[0]? =C (97+w):=by exact G b_ rfl
 have v1:β.aj[1]? =C bF:=by exact G b_ rfl
 have jO:(β.app 1 da).ad.length=34:=kA len iY rfl;obtain o9:((β.app 1 da).app 1 fj).ad.length=46:=kA jO kO rfl;have hv:β.le (β.app 1 da):=aZ.eb;have fC:(β.app 1 da).le ((β.app 1 da).app 1 fj):=aZ.eb;have jc:((β.app 1 da).app 1 fj).le (((β.app 1 da).app 1 fj).app 0 gD):=aZ.eb;have le:=hv.trans (fC.trans jc);obtain mA:(β.app 1 da).ad[32]? =C (fJ,fJ):=eY (j:=0) len rfl cm;obtain od:((β.app 1 da).app 1 fj).ad[34]? =C (fX,fX):=eY (j:=0) jO rfl gF;obtain y3:(((β.app 1 da).app 1 fj).app 0 gD).ad[47]? =C L:=eY (j:=1) o9 rfl e5;obtain dm:=fq T.ct T.sat (j:=([1],[bE],lO bd)) (lh (L:=fJ) iY rfl n4 v0 T.cB a2) Zo;obtain ho:=fq T.ct dm (j:=([1],[bE],mh)) (lh (L:=fX) kO rfl n5 v0 (a4 hv.ad T.cB) el) HT;obtain m8:=fq T.ct ho (j:=([],[bw],pS dF)) (qx jT rfl ka v1) Zp;have ed:=a4 le.aE T.ed;obtain H:=je (v:=(hX bd dF).v) T le m8 hf (pw (mx v0) (a4 (fC.trans jc).ad mA) a1 (tD v0) (a4 jc.ad od) cB (wW (aS rfl)) (all_cons (T.ie v1 d_) (all_cons (T.wi ed) (all_cons T.wj all_nil))))
  (i0 (b9 v1) y3 gh (all_cons (T.nv v0) (all_cons (T.cO v0) (all_cons (T.wh ed) (all_cons (T.wm ed) all_nil))))) (fs all_nil)
 exact mJ (x:=hX bd dF) T.good T.k T.ct (T.env.le le) ic H run aq
end
section
variable{X:gE}{c:bc}{s:aN}{bF:Nat}
theorem nr{w:Nat}:ag.val β (lc w)=C [97+w]:=ag.eP.mpr (d2 _ [] rfl rfl (by simp))
theorem narrow{gL z1:b6}(h:bL (hc S) (vP gL) zs)(cb:zs[2]? =C room)(b:hc S z1 room):bL (hc S) (vP z1) zs:=by
 unfold vP at h ⊢;cases h with
 |cons h0 h=>cases h with
  |cons aa h=>cases h with
   |cons af h=>(obtain J:=aT cb;clear cb;subst J);exact .cons h0 (.cons aa (.cons b h))
theorem bP.gL{gL z1:b6}(T:bP X (fy gL aC) g c β s env fn aP n N)(b:hc g.S z1 X.room):bP X (fy z1 aC) g c β s env fn aP n N:=
 T.bounds rfl (narrow T.sat.facts.aE T.room b)
theorem Entry.nG{fr:az×az}(Us:Entry g qK fr ga fn aP ch)(aD:sT g):∃ax L,dg g j7 ax/\ax.aj=[]/\ax.ad[0]? =C L/\a0 aP (aR [ch])=C (.ref L.1):=by
 cases Us with
 |A ax L T bu aj r f l t dK d7 c4=>exact(i3 (pull ⟨[3],[],[],[]⟩ ax) T ((bu.pick (by kernel_rfl) (aS rfl) (by kernel_rfl) aD).1) rfl (dz rfl t) c4)
 |B m w hm hw ax L T bu aj r f ge l t dK e_ d7 c4=>exact(i3 (pull ⟨[4],[],[],[]⟩ ax) T (bu.zU hm aD (by kernel_rfl)) rfl (dz rfl t) c4)
 |U mu w ax L T gQ bu aj r f l t a_ dK hw e_ d7 c4 nJ km=>exact(i3 (pull ⟨[4],[],[],[]⟩ ax) T ((bu.pick (by kernel_rfl) (aS rfl) (by kernel_rfl) aD).1) rfl (dz rfl t) c4)
theorem o7{e:b4}(bu:dg g e ax)(lb:e.aC=[])(dI:ax.aj=[]):JoinOk g β ([],[],e) ax:=
 ⟨bu,λk mu q=>by rw[dI] at q;simp at q,by show 0=e.aC.length;refine G lb ?_;rfl,λi n q=>by simp at q⟩
theorem Ds{gL:b6}(T:bP X (fy gL [bD]) g c β s env fn aP n N)(b_:β.aj=[ch])(hold:a0 aP (aR [ch])≠none)(cE:(hu (fy gL [bD]).st [] [] j7).isSome=ae)(hf:k6 ((k2 gL).jy.foldl hO (k2 gL).p.st)=ae):
  ∃b2,β.le b2/\Sat g c (k2 gL).st b2 s/\b2.aj=[ch]/\(∀x:ag×Nat,x∈ [(bE,27)]->∃c L,x.1.val b2=C [c]/\b2.ad[x.2]? =C L/\a0 aP (aR [c])=C (.ref L.1)):=by
 refine ig ((l2 T hold).nG T.aD) λax L bu dI l c4=>?_;obtain F:=Fits.of T.sat.toSatO;obtain len:β.ad.length=27:=F.ad;have v0:β.aj[0]? =C ch:=by exact G b_ rfl
 obtain dm:=fq T.ct T.sat (j:=([],[],j7)) (o7 bu rfl dI) cE;have le:β.le (β.app 0 ax):=aZ.eb;have kd:(β.app 0 ax).ad[27]? =C L:=eY (j:=0) len rfl l;refine(l8 (β.app 0 ax) le (ox (x:=k2 gL) T le dm hf (i0 (b9 v0) kd c4 all_nil)) b_ (λx ak=>?_));obtain rfl:=eu.mp ak;exact(d2 ch L (b9 v0) kd c4)
theorem Nb{after:Nat->Nat}:∀{k w:Nat},hW after k w<=k
 |0,_=>dP _
 |k+1,w=>by
  refine G (rD _ _ _) ?_;split
  .obtain this:=Nb (after:=after) (k:=k) (w:=after w);exact xe (by assumption)
  .exact l9 _
theorem Nj{w:Nat}(hw:w<4):(∃m,(1<=m/\m<=4)/\gm after m w/\hW after 99 w=m)\/hW after 99 w=99:=by
 obtain le:=Nb (after:=after) (k:=99) (w:=w);by_cases h:hW after 99 w<99
 .have c:=Na hw h rfl;refine .inl (fV _ ⟨?_,c.four hw⟩ c rfl);generalize q:hW after 99 w=aF;induction aF using hD with
  |zero=>rw[q] at c;exact c.elim
  |succ m=>exact bA rfl
 .exact .inr (Em le (so h))
theorem Gp{m w:Nat}(hm:2<=m)(c:gm after m w):after w<4/\after w≠w:=by
 match m,hm,c with
 |m+2,_,c=>
  refine⟨c.1,λe=>?_⟩;obtain gZ:gm after (m+1) w:=by obtain this:=c.2;rwa [e] at this
  obtain this:=gm.uniq c gZ;lia
theorem VY{w:Nat}(hw:w<4)(h:hW after 99 w=99):after w<4:=by refine Tz λq=>?_;rw[rD] at h;rw[if_pos hw] at h;rw[rD] at h;rw[if_neg q] at h;lia
theorem oY{w:Nat}(h:w<4):w∈four:=by unfold four;simp only[dh,lL,or_false];lia
theorem Bc{w:Nat}(h:w<4):97+w∈dE:=by
 obtain this:w=0\/w=1\/w=2\/w=3:=by lia
 rcases this with rfl|rfl|rfl|rfl<;>decide
theorem Bh{β:Type}{a:List aQ}{b:List β}{d:List fb}{f:aQ->β->fb->Bool}(h:(a.all λx=>b.all λy=>d.all λz=>f x y z)=ae){x:aQ}{y:β}{z:fb}(ak:x∈a)(bT:y∈b)(a8:z∈d):f x y z=true:=
 eX.mp (eX.mp (eX.mp h x ak) y bT) z a8
theorem Ck(W:Own X zs)(T:bP X p g c β s env fn aP n N)(l:β.le b2)(low:n<=9000){way:Int}{w m:Nat}(vK:fk zs (n+0+1) 5=way)(vL:fk zs (n+1+1) 4=(w:Int))(hm:hW X.after 99 w=m):fu (g.pin b2) (yT way w m):=by
 have L:=W.lists T l low;have aw:=T.k;refine(VX T.good.ok (aw▸W.chain) L hm).or (vp T.good.ok (aw▸W.draw) L λx ak=>?_);rcases dh.mp ak with rfl|ak
 .exact(fi (l9 _) (show(0:Int)<5 by exact aS rfl) vK)
 .obtain rfl:=eu.mp ak;exact(fi (show 1<=900 by exact aS rfl) (show(0:Int)<4 by exact aS rfl) vL)
theorem Tf(P:ck X.K)(W:Own X zs)(T:bP X (fy dZ [bD]) g c β s env fn aP n N)(b_:β.aj=[ch])(cR:ch∈bD)(bt:g.S+2*dS<=hI)(h9:hI<=9000)(low:n<=5000)(aV:(n:Int)+2<=j9)(aq:rn X env hI j9 Q){way:Int}(Cs:way∈Ai)(vK:fk zs (n+0+1) 5=way){w:Nat}(hw:w<4)(vL:fk zs (n+1+1) 4=(w:Int)):
  dX g c (cH ((ea X.K).drop 1) env) Q E s:=by
 have room:1<=X.room/\X.room<=5:=R2 T rfl;have v0:β.aj[0]? =C ch:=by exact G b_ rfl
 obtain ack:=RK cR;have QV:∀x,x<4->97+x≠ch:=λx ak e=>ack.2.2.2 (e▸Bc ak);obtain yH:dS=60:=rfl;have over:∀m,hW X.after 99 w=m->X.room<m->m∈zu->dX g c (cH ((ea X.K).drop 1) env) Q E s:=λm hm cb yN=>by
  have bl:X.after w<4:=by
   rcases Nj (after:=X.after) hw with⟨k,aw,bb,he⟩|h
   .rw[hm] at he;(clear aw;subst he);exact(Gp (jn.mp (Int.add_one_le_of_lt (K7 room.1 cb))) bb).1
   .exact VY hw h
  obtain Cn:xB X.after X.room.toNat w:=Nc (k:=99) (G hm ((LC (gk (aS rfl) room.1)).mpr cb));have dG:bP X (fy (ps m) [bD]) g c β s env fn aP n N:=T.gL (by
   unfold ps;refine⟨room.1,?_,λj cE=>by exact bK cE⟩;generalize q:c6 m 5=aF;clear q;induction aF using bV with
   |true=>dsimp only;lia
   |false=>exact room.2)
  have fin:∀br bI av ao,bP X (k7 dZ .u .no [dE]) br bI av ao env fn aP ((n:Int)+(2:Nat)) N->br.S=g.S+dS->av.aj=[97+w]->dX br bI (cH ((ea X.K).drop 3) env) Q E ao:=λbr bI av ao bX ez bJ=>by
   have jU:=aq.turn bX (kQ ez bt) aV;by_cases hi:X.after w=w
   .exact WB P bX bJ hw hi jU
   .obtain m9:bP X tB.p br bI {av with aj:=av.aj++ [97+X.after w]} ao env fn aP ((n:Int)+(2:Nat)) N:=bX.lj (l:=dE) rfl (Bc bl) (by refine G bJ ?_;simp;assumption);exact WC P m9 (by show av.aj++_=_;exact G bJ rfl) hw bl hi Cn (bR (kQ ez bt) h9) jU
  generalize aw:a0 aP (aR [ch])=aF;induction aF using b1 with
  |none=>obtain H:=ox (x:=p7 (ps m)) dG (.refl _) dG.sat (by rfl) (fs (all_cons (bP.g9 v0 aw) all_nil));obtain run:=Bh (ads P:FZ X.K=ae) Cs (oY hw) yN;refine i1 (x:=p7 (ps m)) dG (.refl _) (Ck W dG (.refl _) (bR (by assumption) (bA rfl)) vK vL hm) H run (by kernel_rfl) (DL bt h9) (λx ak=>(nomatch ak)) λbr bI aY ao a_ bX ez eA=>fin br bI _ ao bX ez (e3 (.cons nr .nil))
  |some v=>
   obtain hold:a0 aP (aR [ch])≠none:=by refine G aw ?_;simp
   have tY:(hu (fy (ps m) [bD]).st [] [] j7).isSome=ae/\k6 ((k2 (ps m)).jy.foldl hO (k2 (ps m)).p.st)=true:=by unfold zu at yN;simp only[dh,lL,or_false] at yN;rcases yN with rfl|rfl|rfl|rfl<;>exact⟨by kernel_rfl,by kernel_rfl⟩
   refine jQ (Ds dG b_ hold tY.1 tY.2) λb2 le H bJ hs=>?_;obtain run:=Bh (adt P:F0 X.K=ae) Cs (oY hw) yN;exact i1 (x:=k2 (ps m)) dG le (Ck W dG le (bR (by assumption) (bA rfl)) vK vL hm) H run (by kernel_rfl) (DL bt h9) hs λbr bI aY ao a_ bX ez eA=>fin br bI _ ao bX ez (e3 (.cons nr .nil))
 rcases Nj (after:=X.after) hw with⟨m,⟨hP,rZ⟩,bb,he⟩|h
 case inr=>exact over 99 h (by lia) (aS rfl)
 by_cases cb:(m:Int)<=X.room
 case neg=>
  refine over m he (by lia) ?_;unfold zu;simp only[dh,lL,or_false];lia
 have vH:m∈wa:=by unfold wa;simp only[dh,lL,or_false];lia
 have dG:bP X (fy (kk m) [bD]) g c β s env fn aP n N:=T.gL ⟨cb,room.2,λj cE=>by exact bK cE⟩;generalize aw:a0 aP (aR [ch])=aF;induction aF using b1 with
 |none=>
  have H:=ox (x:=p7 (kk m)) dG (.refl _) dG.sat (by rfl) (fs (all_cons (bP.g9 v0 aw) all_nil));have run:=Bh (adq P:FY X.K=ae) Cs (oY hw) vH;have nj:lW 10000 (pB (k7 (kk m) (sc 1) (.tup m ey) [dE,bD])).ar (k7 (kk m) (sc 1) (.tup m ey) [dE,bD]).ar=true:=by
   obtain this:m=1\/m=2\/m=3\/m=4:=by exact Jf hP rZ
   rcases this with rfl|rfl|rfl|rfl<;>decide+kernel
  refine i1 (x:=p7 (kk m)) dG (.refl _) (Ck W dG (.refl _) (bR (by assumption) (bA rfl)) vK vL he) H run nj (DL bt h9) (λx ak=>(nomatch ak)) λbr bI aY ao a_ bX ez eA=>?_;have bJ:(pull (hF [29,27,28,30] 2 [.lit (w:Int)] [lc w,bE]) aY).aj=[97+w,ch]:=e3 (.cons nr (.cons (b9 (a4 a_.aj v0)) .nil));have gR:(pull (hF [29,27,28,30] 2 [.lit (w:Int)] [lc w,bE]) aY).aE[6]? =C (w:Int):=kP (e:=.lit (w:Int)) rfl rfl;have jU:=aq.turn bX (kQ ez bt) aV;by_cases yM:m=1
  ·(clear nj run H dG vH cb he rZ hP;subst yM);exact Wx P bX bJ hw bb gR cR aw (bR (kQ ez bt) h9) jU bX.hJ
  .refine a3 (Gp (by lia) bb) λbl hi=>?_;have m9:bP X (ju m).p br bI _ ao env fn aP ((n:Int)+(2:Nat)) N:=bX.lj (l:=dE) rfl (Bc bl) (by refine G bJ ?_;simp;exact⟨by assumption,QV _ bl⟩);have lg:(pull (hF [29,27,28,30] 2 [.lit (w:Int)] [lc w,bE]) aY).aj++ [97+X.after w]=[97+w,ch,97+X.after w]:=by exact G bJ rfl
   obtain this:m=2\/m=3\/m=4:=by exact QH hP rZ yM
   rcases this with rfl|rfl|rfl
   .exact Wy P m9 lg hw bb gR cR aw (bR (kQ ez bt) h9) jU m9.hJ
   .exact Wz P m9 lg hw bb gR cR aw (bR (kQ ez bt) h9) jU m9.hJ
   .exact WA P m9 lg hw bb gR cR aw (bR (kQ ez bt) h9) jU m9.hJ
 |some v=>
  have hold:a0 aP (aR [ch])≠none:=by refine G aw ?_;simp
  have tY:(hu (fy (kk m) [bD]).st [] [] j7).isSome=ae/\k6 ((k2 (kk m)).jy.foldl hO (k2 (kk m)).p.st)=ae/\lW 10000 (pB (k7 (kk m) (sc 1) .no [dE,bD])).ar (k7 (kk m) (sc 1) .no [dE,bD]).ar=true:=by
   obtain this:m=1\/m=2\/m=3\/m=4:=by exact Jf hP rZ
   rcases this with rfl|rfl|rfl|rfl<;>exact(fi (by kernel_rfl) (by kernel_rfl) (by kernel_rfl))
  refine jQ (Ds dG b_ hold tY.1 tY.2.1) λb2 le H yZ hs=>?_;obtain v0:b2.aj[0]? =C ch:=by exact G yZ rfl
  have run:=Bh (adp P:FX X.K=ae) Cs (oY hw) vH;refine i1 (x:=k2 (kk m)) dG le (Ck W dG le (bR (by assumption) (bA rfl)) vK vL he) H run tY.2.2 (DL bt h9) hs λbr bI aY ao a_ bX ez eA=>?_;have bJ:(pull (hF [30,28,29] 2 [] [lc w,bE]) aY).aj=[97+w,ch]:=e3 (.cons nr (.cons (b9 (a4 a_.aj v0)) .nil));have jU:=aq.turn bX (kQ ez bt) aV;by_cases yM:m=1
  ·(clear run H tY dG vH cb he rZ hP;subst yM);exact Wt P bX bJ hw bb cR hold jU
  .refine a3 (Gp (by lia) bb) λbl hi=>?_;have m9:bP X (jt m).p br bI _ ao env fn aP ((n:Int)+(2:Nat)) N:=bX.lj (l:=dE) rfl (Bc bl) (by refine G bJ ?_;simp;exact⟨by assumption,QV _ bl⟩);have lg:(pull (hF [30,28,29] 2 [] [lc w,bE]) aY).aj++ [97+X.after w]=[97+w,ch,97+X.after w]:=by exact G bJ rfl
   obtain this:m=2\/m=3\/m=4:=by exact QH hP rZ yM
   rcases this with rfl|rfl|rfl
   .exact Wu P m9 lg hw bb cR hold (bR (kQ ez bt) h9) jU
   .exact Wv P m9 lg hw bb cR hold (bR (kQ ez bt) h9) jU
   .exact Ww P m9 lg hw bb cR hold (bR (kQ ez bt) h9) jU
end
variable{jE:aZ}
section
variable{X:gE}{c:bc}{s:aN}{bF w:Nat}
theorem NL(P:ck X.K)(hw:w<4)(T:bP X (eB .u (sc 1) .no [dE,bD]) g c β s env fn aP at_ N)(b_:β.aj=[97+w,bF]){gD:aZ}{e_:Int}(jT:dg g (pS kI) gD)(ka:gD.aj=[bF])(e5:gD.ad[1]? =C L)(aO:gD.aE[0]? =C e_)(hi:e_≠2+2*(w:Int))(gh:a0 fn (aR [bF])=C (.ref L.1))(d_:bF∈bD)(aq:gn X g c env at_ c7 Q):
  dX g c (cH ((ea X.K).drop 3) env) Q E s:=by
 obtain lZ:gD.aE.length=1:=jT.facts.aE.length.symm;refine jQ (jT.facts.aE.get (show(pS kI).ar[0]? =C kI from rfl)) λz a9 bf cC I=>?_;rw[aO] at a9;(obtain J:=aT a9;clear a9;subst J);have bd:∀b:b6,b.1<=e_->e_<=b.2.1->b.2.2=none->dg g (pS b) gD:=λb aa af aJ=>jT.bounds (ar:=[b]) (Du lZ aO▸.cons ⟨aa,af,λj cE=>by rw[aJ] at cE;exact bK cE⟩ .nil);have bf:(2:Int)<=e_:=bf;have cC:e_<=(10:Int):=cC;have jX:w=0\/w=1\/w=2\/w=3:=by lia
 have aD:∀t:Int,t=2+2*(w:Int)->hc g.S (t,t,none) (2+2*(w:Int)):=λt ff=>⟨uH ff,uH ff.symm,λj cE=>by exact bK cE⟩;by_cases lt:e_<2+2*(w:Int)
 .rcases jX with rfl|rfl|rfl|rfl
  .lia
  .exact tf (bd:=(4,4,none)) (dF:=(2,3,none)) hw T b_ (bd _ bf (by show e_<=3;lia) rfl) ka e5 (aD 4 rfl) gh d_ aq (aep P) rfl (by kernel_rfl) (by kernel_rfl) (by kernel_rfl) (by kernel_rfl)
  .exact tf (bd:=(6,6,none)) (dF:=(2,5,none)) hw T b_ (bd _ bf (by show e_<=5;lia) rfl) ka e5 (aD 6 rfl) gh d_ aq (aer P) rfl (by kernel_rfl) (by kernel_rfl) (by kernel_rfl) (by kernel_rfl)
  .exact tf (bd:=(8,8,none)) (dF:=(2,7,none)) hw T b_ (bd _ bf (by show e_<=7;lia) rfl) ka e5 (aD 8 rfl) gh d_ aq (aet P) rfl (by kernel_rfl) (by kernel_rfl) (by kernel_rfl) (by kernel_rfl)
 .rcases jX with rfl|rfl|rfl|rfl
  .exact tf (bd:=(2,2,none)) (dF:=(3,10,none)) hw T b_ (bd _ (by show(3:Int)<=e_;lia) cC rfl) ka e5 (aD 2 rfl) gh d_ aq (aeo P) rfl (by kernel_rfl) (by kernel_rfl) (by kernel_rfl) (by kernel_rfl)
  .exact tf (bd:=(4,4,none)) (dF:=(5,10,none)) hw T b_ (bd _ (by show(5:Int)<=e_;lia) cC rfl) ka e5 (aD 4 rfl) gh d_ aq (aeq P) rfl (by kernel_rfl) (by kernel_rfl) (by kernel_rfl) (by kernel_rfl)
  .exact tf (bd:=(6,6,none)) (dF:=(7,10,none)) hw T b_ (bd _ (by show(7:Int)<=e_;lia) cC rfl) ka e5 (aD 6 rfl) gh d_ aq (aes P) rfl (by kernel_rfl) (by kernel_rfl) (by kernel_rfl) (by kernel_rfl)
  .exact tf (bd:=(8,8,none)) (dF:=(9,10,none)) hw T b_ (bd _ (by show(9:Int)<=e_;lia) cC rfl) ka e5 (aD 8 rfl) gh d_ aq (aeu P) rfl (by kernel_rfl) (by kernel_rfl) (by kernel_rfl) (by kernel_rfl)
theorem age{l:List (aM×aB)}{k:aM}(h:k∈l.map (·.1)):a0 l k≠none:=by unfold a0;rw[Ne,KS,K6];intro q;exact aU (kY.mp h) λx ak e=>q x ak (by simp[e])
theorem Ry(T:bP X p g c β s env fn aP at_ N)(k:Nat):(∃bF,bF∈bD/\a0 aP (aR [bF])≠none/\(aP.map (·.1))[jR zs k aP]? =C (aR [bF])/\jR zs k aP<aP.length)\/jR zs k aP=aP.length:=by
 refine a3 (tx (a:=pq zs k) (b:=((aP.length+1:Nat):Int)) (mU.mpr (pE _))) λdc dA=>?_;obtain le:jR zs k aP<=aP.length:=by unfold jR fk;exact Int.toNat_le.mpr (gk dA (uH (ux (aP.length:Int) 1)))
 by_cases lt:jR zs k aP<aP.length
 .left;have e:(aP.map (·.1))[jR zs k aP]? =C ((aP.map (·.1))[jR zs k aP]'(by simpa using lt)):=i5 _;have ne:=age (ma e);refine eH (T.ents _ ne) λbF aa af I=>?_;rw[af] at e ne;exact(l8 bF aa ne e lt)
 .right;exact Em le (so lt)
theorem rQ{i:Nat}(aa:(aP.map (·.1))[i]? =C (aR [bF]))(af:i<aP.length)(bJ:ag.val b2 cg=C [bF]):(∀k,(aP.map (·.1))[i]? =C k->ag.val b2 cg=C (cs k))/\(i=aP.length->ag.val b2 cg=C (cs "none")):=
 ⟨λk aw=>by rw[aa] at aw;(obtain J:=aT aw;clear aw;subst J);refine G bJ ?_;simp[cs,aR],λe=>by lia⟩
theorem Ci{i:Nat}(h:i=aP.length):(∀k,(aP.map (·.1))[i]? =C k->ag.val b2 (de "none")=C (cs k))/\(i=aP.length->ag.val b2 (de "none")=C (cs "none")):=
 ⟨λk aw=>by obtain this:=(j2.mp aw).1;rw[gB] at this;lia,λI=>CQ _⟩
theorem Rz(W:Own X zs)(T:bP X p g c β s env fn aP n N)(nh:k6 p.st=ae)(l:β.le b2)(low:n<=5000)(bt:g.S<=9000)(bx:off<=900)(hs:∀k∈fA,∃l,ag.val b2 k=C l/\a0 aP (aR l)≠none)
  (bJ:(∀k,(aP.map (·.1))[jR zs (n+off+1) aP]? =C k->ag.val b2 cg=C (cs k))/\(jR zs (n+off+1) aP=aP.length->ag.val b2 cg=C (cs "none"))):fu (g.pin b2) (Dx off fA cg):=by have aw:=T.k;obtain this:=T.aaS nh;exact acN T.good.ok (aw▸W.draw) (aw▸W.other) (W.lists T l (bR (by assumption) (bA rfl))) bx (a4 l.ad T.jL) T.oP (bR (bR (by assumption) (by assumption)) (bA rfl)) hs bJ
theorem yU(W:Own X zs)(T:bP X p g c β s env fn aP n N)(nh:k6 p.st=ae)(l:β.le b2)(low:n<=5000)(bt:g.S<=9000)(gq:fk zs (n+0+1) 5=3)(eZ:fk zs (n+1+1) 4=(w:Int))(hs:∀k∈fA,∃l,ag.val b2 k=C l/\a0 aP (aR l)≠none)
  (bJ:(∀k,(aP.map (·.1))[jR zs (n+2+1) aP]? =C k->ag.val b2 cg=C (cs k))/\(jR zs (n+2+1) aP=aP.length->ag.val b2 cg=C (cs "none"))):fu (g.pin b2) (qp w fA cg):=by
 obtain aw:=T.k;refine(Rz W T nh l low bt (bA rfl) hs bJ).or (vp T.good.ok (aw▸W.draw) (W.lists T l (bR (by assumption) (bA rfl))) λx ak=>?_);rcases dh.mp ak with rfl|ak
 .exact(fi (l9 _) (show(0:Int)<5 by exact aS rfl) gq)
 .obtain rfl:=eu.mp ak;exact(fi (show 1<=900 by exact aS rfl) (show(0:Int)<4 by exact aS rfl) eZ)
theorem tO(W:Own X zs)(T:bP X p g c β s env fn aP n N)(nh:k6 p.st=ae)(l:β.le b2)(low:n<=5000)(bt:g.S<=9000)(gq:fk zs (n+0+1) 5=4)(hs:∀k∈fA,∃l,ag.val b2 k=C l/\a0 aP (aR l)≠none)
  (bJ:(∀k,(aP.map (·.1))[jR zs (n+1+1) aP]? =C k->ag.val b2 cg=C (cs k))/\(jR zs (n+1+1) aP=aP.length->ag.val b2 cg=C (cs "none"))):fu (g.pin b2) (tN fA cg):=by obtain aw:=T.k;refine(Rz W T nh l low bt (bA rfl) hs bJ).or (vp T.good.ok (aw▸W.draw) (W.lists T l (bR (by assumption) (bA rfl))) λx ak=>?_);obtain rfl:=eu.mp ak;exact(fi (l9 _) (show(0:Int)<5 by exact aS rfl) gq)
noncomputable def Ba:b4:=⟨[fix (.tup [aE 0,.u,.u])],[ur],[],0,[]⟩
theorem Kg(bu:dg g Ba ax)(h:ax.aE[0]? =C z):dg g (jI z) ax:=bu.bounds (ar:=[(z,z,none)]) (Du bu.facts.aE.length.symm h▸.cons ⟨xp _,xp _,λj cE=>by exact bK cE⟩ .nil)
structure Fi(X:gE)(g:cz)(c:bc)(β b2:aZ)(s:aN)(x:ky)(fM:List (ag×Nat))(aP:List (aM×aB))(z:Option Int):Prop where
 le:β.le b2
 sat:Sat g c x.st b2 s
 aj:b2.aj=β.aj
 fM:∀x:ag×Nat,x∈fM->∃c L,x.1.val b2=C [c]/\b2.ad[x.2]? =C L/\a0 aP (aR [c])=C (.ref L.1)
 z:b2.aE[6]? =z
theorem Dc{u:b4}{iu:List ag}(T:bP X (fy dZ ([bD,bD]++aC)) g c β s env fn aP at_ N)(v0:β.aj[0]? =C ch)(v1:β.aj[1]? =C bF)(hH:JoinOk g β ([],iu,u) ax)(l:ax.ad[0]? =C L)(c4:a0 aP (aR [bF])=C (.ref L.1))(e1:a0 aP (aR [ch])=none)
  (cE:(hu (fy dZ ([bD,bD]++aC)).st [] iu u).isSome=ae)(hf:k6 ((nf (iu,u) aC).jy.foldl hO (nf (iu,u) aC).p.st)=ae):Fi X g c β (β.app 0 ax) s (nf (iu,u) aC) [(bw,27)] aP ax.aE[0]? :=by have F:=Fits.of T.sat.toSatO;obtain len:β.ad.length=27:=F.ad;obtain mC:β.aE.length=6:=F.aE;obtain dm:=fq T.ct T.sat (j:=([],iu,u)) hH cE;have le:β.le (β.app 0 ax):=aZ.eb;have kd:(β.app 0 ax).ad[27]? =C L:=eY (j:=0) len rfl l;refine⟨le,ox (x:=nf (iu,u) aC) T le dm hf (i0 (b9 v1) kd c4 (all_cons (bP.g9 v0 e1) all_nil)),rfl,λx ak=>?_,ve (j:=0) mC rfl rfl⟩;obtain rfl:=eu.mp ak;exact(d2 bF L (b9 v1) kd c4)
theorem Ru{u:b4}{iu:List ag}(T:bP X (fy dZ [bD,bD]) g c β s env fn aP at_ N)(v0:β.aj[0]? =C ch)(v1:β.aj[1]? =C bF)(hi:bF≠ch)(hH:JoinOk g β ([],iu,u) ax)(cy:u.os.length=1)(l:ax.ad[0]? =C L)(c4:a0 aP (aR [bF])=C (.ref L.1))(hold:a0 aP (aR [ch])≠none)
  (cE:(hu (fy dZ [bD,bD]).st [] iu u).isSome=ae)(HT:(hu (hO (fy dZ [bD,bD]).st ([],iu,u)) [] [] j7).isSome=ae)(hf:k6 ((oO (iu,u)).jy.foldl hO (oO (iu,u)).p.st)=ae):∃b2,Fi X g c β b2 s (oO (iu,u)) [(bw,27),(bE,28)] aP b2.aE[6]? :=by
 refine ig ((l2 T hold).nG T.aD) λjE m3 ou tj lk S9=>?_;obtain F:=Fits.of T.sat.toSatO;have len:β.ad.length=27:=F.ad;obtain dm:=fq T.ct T.sat (j:=([],iu,u)) hH cE;obtain ho:=fq T.ct dm (j:=([],[],j7)) (o7 ou rfl tj) HT;obtain hv:β.le (β.app 0 ax):=aZ.eb;have fC:(β.app 0 ax).le ((β.app 0 ax).app 0 jE):=aZ.eb;have le:=hv.trans fC;have kd:(β.app 0 ax).ad[27]? =C L:=eY (j:=0) len rfl l;obtain jO:(β.app 0 ax).ad.length=28:=kA len hH.bu (by show 28=27+(u.os.length-0);exact G cy rfl);have Py:((β.app 0 ax).app 0 jE).ad[28]? =C m3:=eY (j:=0) jO rfl lk;refine⟨_,le,ox (x:=oO (iu,u)) T le ho hf (pw (b9 v1) (a4 fC.ad kd) c4 (b9 v0) Py S9 (by simpa using hi) all_nil),rfl,λx ak=>?_,rfl⟩;rcases dh.mp ak with rfl|ak
 .exact(d2 bF L (b9 v1) (a4 fC.ad kd) c4)
 .obtain rfl:=eu.mp ak;exact(d2 ch m3 (b9 v0) Py S9)
theorem aeW(T:bP X (fy dZ [bD]) g c β s env fn aP at_ N)(v0:β.aj[0]? =C ch)(bu:dg g (jI z) ax)(dI:ax.aj=[])(l:ax.ad[0]? =C L)(c4:a0 aP (aR [ch])=C (.ref L.1))
  (cE:(hu (fy dZ [bD]).st [] [] (jI z)).isSome=ae)(hf:k6 ((rz z).jy.foldl hO (rz z).p.st)=ae):Fi X g c β (β.app 0 ax) s (rz z) [(bE,27)] aP ax.aE[0]? :=by have F:=Fits.of T.sat.toSatO;obtain len:β.ad.length=27:=F.ad;obtain mC:β.aE.length=6:=F.aE;obtain dm:=fq T.ct T.sat (j:=([],[],jI z)) (o7 bu rfl dI) cE;have le:β.le (β.app 0 ax):=aZ.eb;have kd:(β.app 0 ax).ad[27]? =C L:=eY (j:=0) len rfl l;refine⟨le,ox (x:=rz z) T le dm hf (i0 (b9 v0) kd c4 all_nil),rfl,λx ak=>?_,ve (j:=0) mC rfl rfl⟩;obtain rfl:=eu.mp ak;exact(d2 ch L (b9 v0) kd c4)
end
section
variable{X:gE}{c:bc}{s:aN}{bF w:Nat}
theorem Pl(W:Own X zs)(T:bP X p g c β s env fn aP n N)(l:β.le b2)(low:n<=5000)(gq:fk zs (n+0+1) 5=2):fu (g.pin b2) H7:=by obtain aw:=T.k;refine vp T.good.ok (aw▸W.draw) (W.lists T l (bR (by assumption) (bA rfl))) λx ak=>?_;obtain rfl:=eu.mp ak;exact(fi (l9 _) (show(0:Int)<5 by exact aS rfl) gq)
theorem A8(T:bP X p g c β s env fn aP at_ N):∃l,ag.val b2 (de "none")=C l/\a0 aP (aR l)=none:=by
 refine(bh _ (CQ _) ?_);generalize q:a0 aP (aR (cs (bO "none")))=aF;induction aF using b1 with
 |none=>rfl
 |some v=>
  refine eH (T.ents (aR (cs (bO "none"))) (by refine G q ?_;simp)) λch I h I=>?_;obtain this:=oi h;obtain e:cs (bO "none")=[110,111,110,101]:=by kernel_rfl
  rw[e] at this;simp at this
theorem agr(P:ck X.K)(W:Own X zs)(T:bP X (fy dZ [bD]) g c β s env fn aP n N)(b_:β.aj=[ch])(cR:ch∈bD)(bt:g.S+2*dS<=hI)(h9:hI<=9000)(low:n<=5000)(aV:(n:Int)+1<=j9)(aq:rn X env hI j9 Q)(gq:fk zs (n+0+1) 5=2):dX g c (cH ((ea X.K).drop 1) env) Q E s:=by
 have v0:β.aj[0]? =C ch:=by exact G b_ rfl
 have yH:dS=60:=rfl;generalize aw:a0 aP (aR [ch])=aF;induction aF using b1 with
 |none=>obtain H:=ox (x:=p7 dZ) T (.refl _) T.sat (by rfl) (fs (all_cons (bP.g9 v0 aw) all_nil));refine i1 (x:=p7 dZ) T (.refl _) (Pl W T (.refl _) low gq) H (adD P:F_ X.K=ae) (by kernel_rfl) (by lia) (λx ak=>(nomatch ak)) λbr bI aY ao a_ bX ez eA=>?_;obtain jU:=aq.turn bX (by lia) aV;exact WJ P bX (e3 (.cons (b9 (a4 a_.aj v0)) .nil)) (kP (e:=.lit (-1)) rfl rfl) cR aw (by lia) jU bX.hJ
 |some v=>
  have hold:a0 aP (aR [ch])≠none:=by refine G aw ?_;simp
  refine jQ (Ds T b_ hold (by kernel_rfl) (by kernel_rfl)) λb2 le H yZ hs=>?_;obtain v0:b2.aj[0]? =C ch:=by exact G yZ rfl
  refine i1 (x:=k2 dZ) T le (Pl W T le low gq) H (adC P:F9 X.K=ae) (by kernel_rfl) (by lia) hs λbr bI aY ao a_ bX ez eA=>?_;obtain jU:=aq.turn bX (by lia) aV;exact WI P bX (e3 (.cons (b9 (a4 a_.aj v0)) .nil)) cR hold jU
theorem key_ne(aa:a0 aP (aR [bF])≠none)(af:a0 aP (aR [ch])=none):bF≠ch:=λe=>aa (e▸af)
theorem agp(P:ck X.K)(W:Own X zs)(T:bP X (fy dZ [bD]) g c β s env fn aP n N)(b_:β.aj=[ch])(cR:ch∈bD)(bt:g.S+2*dS<=hI)(h9:hI<=9000)(low:n<=5000)(aV:(n:Int)+2<=j9)(aq:rn X env hI j9 Q)(gq:fk zs (n+0+1) 5=4):dX g c (cH ((ea X.K).drop 1) env) Q E s:=by
 have v0:β.aj[0]? =C ch:=by exact G b_ rfl
 have yH:dS=60:=rfl;rcases Ry (zs:=zs) T (n+1+1) with⟨bF,d_,bx,bN,lt⟩|yR
 case inr=>
  generalize aw:a0 aP (aR [ch])=aF;induction aF using b1 with
  |none=>obtain H:=ox (x:=vh) T (.refl _) T.sat (by rfl) (fs (all_cons (bP.g9 v0 aw) (all_cons (A8 T) all_nil)));exact i1 (x:=vh) T (.refl _) (tO W T rfl (.refl _) low (by lia) gq (fA:=[]) (λk aw=>(nomatch aw)) (Ci yR)) H (adn P:FV X.K=ae) (by kernel_rfl) (by lia) (λx ak=>(nomatch ak)) λbr bI aY ao a_ bX ez eA=>NJ P bX (aq.turn bX (by lia) aV)
  |some v=>
   have hold:a0 aP (aR [ch])≠none:=by refine G aw ?_;simp
   refine ig ((l2 T hold).nG T.aD) λax L bu dI l c4=>?_;obtain F:=Fits.of T.sat.toSatO;obtain len:β.ad.length=27:=F.ad;obtain dm:=fq T.ct T.sat (j:=([],[],j7)) (o7 bu rfl dI) (by kernel_rfl);have le:β.le (β.app 0 ax):=aZ.eb;have kd:(β.app 0 ax).ad[27]? =C L:=eY (j:=0) len rfl l;obtain H:=ox (x:=vi) T le dm (by kernel_rfl) (i0 (b9 v0) kd c4 (all_cons (A8 T) all_nil));exact i1 (x:=vi) T le (tO W T rfl le low (by lia) gq (fA:=[bE]) (λk aw=>by obtain rfl:=eu.mp aw;exact(bh [ch] (b9 v0) hold)) (Ci yR)) H (ado P:FW X.K=ae) (by kernel_rfl) (by lia) (λx ak=>by obtain rfl:=eu.mp ak;exact(d2 ch L (b9 v0) kd c4)) λbr bI aY ao a_ bX ez eA=>NJ P bX (aq.turn bX (by lia) aV)
 by_cases tQ:bF=ch
 ·(clear v0 cR;subst tQ);refine jQ (Ds T b_ bx (by kernel_rfl) (by kernel_rfl)) λb2 le H yZ hs=>?_;have v0:b2.aj[0]? =C bF:=by exact G yZ rfl
  exact i1 (x:=k2 dZ) T le (tO W T rfl le low (by lia) gq (fA:=[bE]) (cg:=bE) (λk aw=>by obtain rfl:=eu.mp aw;exact(bh [bF] (b9 v0) bx)) (rQ bN lt (b9 v0))) H (adl P:FT X.K=ae) (by kernel_rfl) (by lia) hs λbr bI aY ao a_ bX ez eA=>Wo P bX (e3 (.cons (b9 (a4 a_.aj v0)) .nil)) d_ bx (aq.turn bX (by lia) aV)
 have dG:bP X (fy dZ [bD,bD]) g c {β with aj:=β.aj++ [bF]} s env fn aP n N:=T.lj (l:=bD) rfl d_ (by refine G b_ ?_;simpa using tQ);have lC:({β with aj:=β.aj++ [bF]}:aZ).aj[0]? =C ch:=by show(β.aj++ [bF])[0]? =_;exact G b_ rfl
 have lD:({β with aj:=β.aj++ [bF]}:aZ).aj[1]? =C bF:=by show(β.aj++ [bF])[1]? =_;exact G b_ rfl
 generalize({β with aj:=β.aj++ [bF]}:aZ)=da at dG lC lD;clear T b_ v0;generalize aw:a0 aP (aR [ch])=aF;induction aF using b1 with
 |some v=>
  have hold:a0 aP (aR [ch])≠none:=by refine G aw ?_;simp
  refine ig ((l2 dG bx).nG dG.aD) λax L bu dI l c4=>bG (Ru (u:=j7) (iu:=[]) dG lC lD tQ (o7 bu rfl dI) rfl l c4 hold (by kernel_rfl) (by kernel_rfl) (by kernel_rfl)) λb2 Z=>?_;have jW:b2.aj[0]? =C ch:=by exact G Z.aj lC
  have bZ:b2.aj[1]? =C bF:=by exact G Z.aj lD
  exact i1 (x:=oO ([],j7)) dG Z.le (tO W dG rfl Z.le low (by lia) gq (fA:=[bw,bE]) (cg:=bw) (λk aw=>by
   rcases dh.mp aw with rfl|aw
   .exact(bh [bF] (b9 bZ) bx)
   .obtain rfl:=eu.mp aw;exact(bh [ch] (b9 jW) hold)) (rQ bN lt (b9 bZ))) Z.sat (adk P:FR X.K=ae) (by kernel_rfl) (by lia) Z.fM λbr bI aY ao a_ bX ez eA=>Wn P bX (e3 (.cons (b9 (a4 a_.aj bZ)) (.cons (b9 (a4 a_.aj jW)) .nil))) d_ cR bx hold (aq.turn bX (by lia) aV)
 |none=>
  have HV:∀b2:aZ,b2.aj[1]? =C bF->∀k∈ [bw],∃l,ag.val b2 k=C l/\a0 aP (aR l)≠none:=λb2 bZ k aw=>by obtain rfl:=eu.mp aw;exact(bh [bF] (b9 bZ) bx)
  cases l2 dG bx with
  |A ax L i8 bu aj r f l t dK d7 c4=>have Z:=Dc (aC:=[]) (iu:=[]) dG lC lD (o7 (bu.pick (cf:=u4 1) (ah:=⟨[3],[.aL 0 ai 0],[],[]⟩) (by kernel_rfl) (aS rfl) (by kernel_rfl) dG.aD).1 rfl rfl) (dz rfl t) c4 aw (by kernel_rfl) (by kernel_rfl);obtain jW:=(congrArg (·[0]?) Z.aj).trans lC;have bZ:=(congrArg (·[1]?) Z.aj).trans lD;obtain Am:=Z.z.trans (ir (i:=0) rfl dK);exact i1 dG Z.le (tO W dG rfl Z.le low (by lia) gq (fA:=[bw]) (cg:=bw) (HV _ bZ) (rQ bN lt (b9 bZ))) Z.sat (eX.mp (RU P:Bl X.K=ae) 1 (aS rfl)) (by kernel_rfl) (by lia) Z.fM λbr bI aY ao a_ bX ez eA=>Wq P bX (e3 (.cons (b9 (a4 a_.aj bZ)) (.cons (b9 (a4 a_.aj jW)) .nil))) (bu.k9 eA (by kernel_rfl)) aj r f l d7 c4 (ir (v:=6) rfl (a4 a_.aE Am)) d_ cR aw (by lia) (aq.turn bX (by lia) aV) bX.hJ
  |B m w hm hw ax L i8 bu aj r f ge l t dK e_ d7 c4=>
   obtain all:dg g (u4 m) (pull ⟨[4],[.aL 0 ai 0],[],[]⟩ ax)/\(hu (fy dZ ([bD,bD]++ [])).st [] [] (u4 m)).isSome=ae/\k6 ((nf ([],u4 m) []).jy.foldl hO (nf ([],u4 m) []).p.st)=ae/\lW 10000 (pB (lT (sc 1) (sc 0) (.tup m ey) [bD,bD])).ar (lT (sc 1) (sc 0) (.tup m ey) [bD,bD]).ar=ae/\m∈wa:=by
    (refine a3 hm λaa af=>?_;try clear hm);rcases m with _|_|_|_|_|m
    .exact absurd (by assumption) (qV _)
    all_goals first|exact(D3 ((bu.pick (by kernel_rfl) (aS rfl) (by kernel_rfl) dG.aD).1) (by kernel_rfl) (by kernel_rfl) (by kernel_rfl) (aS rfl))|lia
   (refine acu all λJG cE hf nj vH=>?_;try clear all);have Z:=Dc (aC:=[]) (iu:=[]) dG lC lD (o7 JG rfl rfl) (dz rfl t) c4 aw cE hf;obtain jW:=(congrArg (·[0]?) Z.aj).trans lC;have bZ:=(congrArg (·[1]?) Z.aj).trans lD;obtain Am:=Z.z.trans (ir (i:=0) rfl dK);exact i1 dG Z.le (tO W dG rfl Z.le low (by lia) gq (fA:=[bw]) (cg:=bw) (HV _ bZ) (rQ bN lt (b9 bZ))) Z.sat (eX.mp (RU P:Bl X.K=ae) m vH) nj (by lia) Z.fM λbr bI aY ao a_ bX ez eA=>Wr P hm hw bX (e3 (.cons (b9 (a4 a_.aj bZ)) (.cons (b9 (a4 a_.aj jW)) .nil))) (bu.k9 eA (wF hm)) aj r f ge l e_ d7 c4 (ir (v:=6) rfl (a4 a_.aE Am)) d_ cR aw (by lia) (aq.turn bX (by lia) aV) bX.hJ
  |U iU w ax L i8 gQ bu aj r f l t Qx dK hw e_ d7 c4 nJ km=>
   refine eH (dG.ents _ km) λahI Cj cf I=>?_;obtain this:=oi cf;simp at this;(clear cf;subst this);obtain e9:bF≠iU:=by obtain e9:=bu.facts.cd;rw[aj] at e9;simpa using e9
   obtain pg:iU≠ch:=key_ne km aw;have aX:da.aj.length=2:=dG.sat.facts.aj.length.symm;have ru:bP X (fy dZ ([bD,bD]++ [bD])) g c {da with aj:=da.aj++ [iU]} s env fn aP n N:=dG.lj (l:=bD) rfl Cj (by refine G (af1 aX lC lD) ?_;simp;exact⟨pg,λe=>e9 e.symm⟩)
   have nG:(da.aj++ [iU])[0]? =C ch:=by refine G (w7 (by lia)) ?_;exact lC
   have ji:(da.aj++ [iU])[1]? =C bF:=by refine G (w7 (eJ (bW (by assumption)))) ?_;exact lD
   have jV:(da.aj++ [iU])[2]? =C iU:=by(refine G (pL (eJ (by assumption))) ?_;refine G aX ?_);rfl
   obtain JG:=(bu.pick (cf:=Mm) (ah:=⟨[4],[.aL 0 ai 0],[bw],[]⟩) (by kernel_rfl) (aS rfl) (by kernel_rfl) ru.aD).1;obtain Hd:(pull ⟨[4],[.aL 0 ai 0],[bw],[]⟩ ax).aj=[iU]:=e3 (.cons (b9 (G aj rfl)) .nil);have Z:=Dc (aC:=[bD]) (iu:=[c3]) ru nG ji (qx JG rfl Hd jV) (dz rfl t) c4 aw (by kernel_rfl) (by kernel_rfl);obtain jW:=(congrArg (·[0]?) Z.aj).trans nG;have bZ:=(congrArg (·[1]?) Z.aj).trans ji;obtain c5:=(congrArg (·[2]?) Z.aj).trans jV;obtain Am:=Z.z.trans (ir (i:=0) rfl dK);exact i1 ru Z.le (tO W ru rfl Z.le low (by lia) gq (fA:=[bw]) (cg:=bw) (HV _ bZ) (rQ bN lt (b9 bZ))) Z.sat (adm P:FU X.K=ae) (by kernel_rfl) (by lia) Z.fM λbr bI aY ao a_ bX ez eA=>Ws P hw bX (e3 (.cons (b9 (a4 a_.aj bZ)) (.cons (b9 (a4 a_.aj jW)) (.cons (b9 (a4 a_.aj c5)) .nil)))) (bu.k9 eA (by kernel_rfl)) aj r f l Qx e_ d7 c4 nJ km (ir (v:=6) rfl (a4 a_.aE Am)) d_ Cj cR aw (by lia) (aq.turn bX (by lia) aV) bX.hJ
end
section
variable{X:gE}{c:bc}{s:aN}{bF w:Nat}
structure UO(X:gE)(g:cz)(env:hB)(fn aP:List (aM×aB))(N:Int)(bF:Nat)(uT:aZ)(L:az×az)(z:Int):Prop where
 bu:dg g (jI z) uT
 aj:uT.aj=[]
 l:uT.ad[0]? =C L
 c4:a0 aP (aR [bF])=C (.ref L.1)
 An:z∈qR
 own:∀w:Nat,w<4->z=(w:Int)->∃m ax xH,(1<=m/\m<=4)/\dg g (gP m) ax/\ax.aj=[bF]/\ax.ad[2]? =C (X.ga w)/\ax.ad[3]? =C xH/\a0 fn (aR [bF])=C (.ref xH.1)
 not:∀w:Nat,w<4->z≠(w:Int)->∀br bI av ao a(Q:fH->aN->Prop)(E:aB->aN->Prop),oI g br->bP X (eB .u (sc 1) .no [dE,bD]) br bI av ao env fn aP a N->av.aj=[97+w,bF]->gn X br bI env a X.c7 Q->dX br bI (cH ((ea X.K).drop 3) env) Q E ao
theorem Rw(P:ck X.K)(T:bP X p g c β s env fn aP at_ N)(d_:bF∈bD)(bx:a0 aP (aR [bF])≠none):∃uT L z,UO X g env fn aP N bF uT L z:=by
 cases l2 T bx with
 |A ax L i8 bu aj r f l t dK d7 c4=>refine(D5 _ i8 (-1) ⟨Kg (bu.pick (cf:=Ba) (ah:=⟨[3],[.aL 0 ai 0],[],[]⟩) (by kernel_rfl) (aS rfl) (by kernel_rfl) T.aD).1 (ir rfl dK),rfl,dz rfl t,c4,by exact aS rfl,λw hw e=>by lia,λw hw I br bI av ao a Q E eA bX bJ aq=>?_⟩);exact WH P hw bX bJ (bu.k9 eA (by kernel_rfl)) aj f l d7 d_ aq
 |B m f5 hm oc ax L i8 bu aj r f ge l t dK e_ d7 c4=>
  refine(D5 _ i8 (f5:Int) ⟨Kg (bu.zU (cf:=Ba) (ah:=⟨[4],[.aL 0 ai 0],[],[]⟩) hm T.aD (by kernel_rfl)) (ir rfl dK),rfl,dz rfl t,c4,?_,λw hw e=>?_,λw hw hi br bI av ao a Q E eA bX bJ aq=>?_⟩)
  .unfold qR;simp only[dh,lL,or_false];lia
  .obtain this:f5=w:=by lia
   (clear e hw;subst this);exact(Tp m ax L hm bu aj ge l d7)
  .obtain jT:=(bu.k9 eA (wF hm)).zU (cf:=pS kI) (ah:=⟨[2,3,5,6,7,8],[.aL 0 ai 1],[bE],xV⟩) hm bX.aD (by kernel_rfl);exact NL P hw bX bJ jT (e3 (.cons (b9 (G aj rfl)) .nil)) (dz rfl l) (ir rfl e_) (by lia) d7 d_ aq
 |U iU f5 ax L i8 gQ bu aj r f l t Qx dK oc e_ d7 c4 nJ km=>refine(D5 _ i8 (-1) ⟨Kg (bu.pick (cf:=Ba) (ah:=⟨[4],[.aL 0 ai 0],[],[]⟩) (by kernel_rfl) (aS rfl) (by kernel_rfl) T.aD).1 (ir rfl dK),rfl,dz rfl t,c4,by exact aS rfl,λw hw e=>by lia,λw hw I br bI av ao a Q E eA bX bJ aq=>?_⟩);obtain jT:=((bu.k9 eA (by kernel_rfl)).pick (cf:=pS kI) (ah:=⟨[2,3,5,6,7,8],[.aL 0 ai 1],[bE],xV⟩) (by kernel_rfl) (aS rfl) (by kernel_rfl) bX.aD).1;exact NL P hw bX bJ jT (e3 (.cons (b9 (G aj rfl)) .nil)) (dz rfl l) (ir rfl e_) (by lia) d7 d_ aq
theorem SR(h:z∈qR):((hu (fy dZ [bD]).st [] [] (jI z)).isSome&&k6 ((rz z).jy.foldl hO (rz z).p.st)&&(hu (fy dZ ([bD,bD]++ [])).st [] [] (jI z)).isSome&&k6 ((nf ([],jI z) []).jy.foldl hO (nf ([],jI z) []).p.st)&&
  (hu (hO (fy dZ [bD,bD]).st ([],[],jI z)) [] [] j7).isSome&&k6 ((oO ([],jI z)).jy.foldl hO (oO ([],jI z)).p.st))=true:=by unfold qR at h;simp only[dh,lL,or_false] at h;rcases h with rfl|rfl|rfl|rfl|rfl<;>decide+kernel
theorem FC{f:Nat->Int->Bool}(h:(four.all λw=>qR.all λz=>match decide (z=(w:Int)) with|true=>ae|false=>f w z)=ae){w:Nat}(hw:w<4)(a8:z∈qR)(hi:z≠(w:Int)):f w z=true:=by obtain this:=eX.mp (eX.mp h w (oY hw)) z a8;rw[decide_eq_false hi] at this;exact this
theorem agq(P:ck X.K)(W:Own X zs)(T:bP X (fy dZ [bD]) g c β s env fn aP n N)(b_:β.aj=[ch])(cR:ch∈bD)(bt:g.S+2*dS<=hI)(h9:hI<=9000)(low:n<=5000)(aV:(n:Int)+3<=j9)(aq:rn X env hI j9 Q)(gq:fk zs (n+0+1) 5=3){w:Nat}(hw:w<4)(eZ:fk zs (n+1+1) 4=(w:Int)):dX g c (cH ((ea X.K).drop 1) env) Q E s:=by
 have v0:β.aj[0]? =C ch:=by exact G b_ rfl
 have yH:dS=60:=rfl;rcases Ry (zs:=zs) T (n+2+1) with⟨bF,d_,bx,bN,lt⟩|yR
 case inr=>
  generalize aw:a0 aP (aR [ch])=aF;induction aF using b1 with
  |none=>obtain H:=ox (x:=vh) T (.refl _) T.sat (by rfl) (fs (all_cons (bP.g9 v0 aw) (all_cons (A8 T) all_nil)));exact i1 (x:=vh) T (.refl _) (yU W T rfl (.refl _) low (by lia) gq eZ (fA:=[]) (λk aw=>(nomatch aw)) (Ci yR)) H (eX.mp (adu P:F1 X.K=ae) w (oY hw)) (by kernel_rfl) (by lia) (λx ak=>(nomatch ak)) λbr bI aY ao a_ bX ez eA=>NK P hw bX (e3 (.cons nr .nil)) (aq.turn bX (by lia) aV)
  |some v=>
   have hold:a0 aP (aR [ch])≠none:=by refine G aw ?_;simp
   refine ig ((l2 T hold).nG T.aD) λax L bu dI l c4=>?_;obtain F:=Fits.of T.sat.toSatO;obtain len:β.ad.length=27:=F.ad;obtain dm:=fq T.ct T.sat (j:=([],[],j7)) (o7 bu rfl dI) (by kernel_rfl);have le:β.le (β.app 0 ax):=aZ.eb;have kd:(β.app 0 ax).ad[27]? =C L:=eY (j:=0) len rfl l;obtain H:=ox (x:=vi) T le dm (by kernel_rfl) (i0 (b9 v0) kd c4 (all_cons (A8 T) all_nil));exact i1 (x:=vi) T le (yU W T rfl le low (by lia) gq eZ (fA:=[bE]) (λk aw=>by obtain rfl:=eu.mp aw;exact(bh [ch] (b9 v0) hold)) (Ci yR)) H (eX.mp (adv P:F2 X.K=ae) w (oY hw)) (by kernel_rfl) (by lia) (λx ak=>by obtain rfl:=eu.mp ak;exact(d2 ch L (b9 v0) kd c4)) λbr bI aY ao a_ bX ez eA=>NK P hw bX (e3 (.cons nr .nil)) (aq.turn bX (by lia) aV)
 by_cases tQ:bF=ch
 ·(clear cR b_;subst tQ);refine wo (Rw P T d_ bx) λuT L z O=>?_;obtain tc:=SR O.An;simp only[ew] at tc;(refine a3 tc λJ tb=>?_;try clear tc;refine a3 J λbU ta=>?_;try clear J;refine a3 bU λcv s_=>?_;try clear bU;refine a3 cv λjC i9=>?_;try clear cv;refine a3 jC λe5 gZ=>?_;try clear jC);have Z:=aeW T v0 O.bu O.aj O.l O.c4 e5 gZ;have jW:=(congrArg (·[0]?) Z.aj).trans v0;have hr:=yU W T rfl Z.le low (by lia) gq eZ (fA:=[bE]) (cg:=bE) (λk aw=>by obtain rfl:=eu.mp aw;exact(bh [bF] (b9 jW) bx)) (rQ bN lt (b9 jW));by_cases a8:z=(w:Int)
  ·(clear gZ e5 i9 s_ ta tb;subst a8);exact Dq (O.own w hw rfl) λm ax xH hm bu aj ge l d7=>i1 T Z.le hr Z.sat (eX.mp (adx P:F4 X.K=ae) w (oY hw)) (by kernel_rfl) (by lia) Z.fM λbr bI aY ao a_ bX ez eA=>WE (i8:=L) P hm hw bX (e3 (.cons nr (.cons (b9 (a4 a_.aj jW)) .nil))) (bu.k9 eA (wF hm)) aj ge l d7 d_ (aq.turn bX (by lia) aV)
  .exact i1 T Z.le hr Z.sat (FC (adB P:F8 X.K=ae) hw O.An a8) (by kernel_rfl) (by lia) Z.fM λbr bI aY ao a_ bX ez eA=>O.not w hw a8 br bI _ ao _ Q E eA bX (e3 (.cons nr (.cons (b9 (a4 a_.aj jW)) .nil))) (aq.turn bX (by lia) aV)
 have dG:bP X (fy dZ [bD,bD]) g c {β with aj:=β.aj++ [bF]} s env fn aP n N:=T.lj (l:=bD) rfl d_ (by refine G b_ ?_;simpa using tQ);have lC:({β with aj:=β.aj++ [bF]}:aZ).aj[0]? =C ch:=by show(β.aj++ [bF])[0]? =_;exact G b_ rfl
 have lD:({β with aj:=β.aj++ [bF]}:aZ).aj[1]? =C bF:=by show(β.aj++ [bF])[1]? =_;exact G b_ rfl
 generalize({β with aj:=β.aj++ [bF]}:aZ)=da at dG lC lD;clear T b_ v0;refine wo (Rw P dG d_ bx) λuT L z O=>?_;obtain tc:=SR O.An;simp only[ew] at tc;(refine a3 tc λJ tb=>?_;try clear tc;refine a3 J λbU ta=>?_;try clear J;refine a3 bU λcv s_=>?_;try clear bU;refine a3 cv λjC i9=>?_;try clear cv;refine a3 jC λe5 gZ=>?_;try clear jC);generalize aw:a0 aP (aR [ch])=aF;induction aF using b1 with
 |some v=>
  have hold:a0 aP (aR [ch])≠none:=by refine G aw ?_;simp
  refine bG (Ru (u:=jI z) (iu:=[]) dG lC lD tQ (o7 O.bu rfl O.aj) rfl O.l O.c4 hold i9 ta tb) λb2 Z=>?_;have jW:b2.aj[0]? =C ch:=by exact G Z.aj lC
  have bZ:b2.aj[1]? =C bF:=by exact G Z.aj lD
  have hr:=yU W dG rfl Z.le low (by lia) gq eZ (fA:=[bw,bE]) (cg:=bw) (λk aw=>by
   rcases dh.mp aw with rfl|aw
   .exact(bh [bF] (b9 bZ) bx)
   .obtain rfl:=eu.mp aw;exact(bh [ch] (b9 jW) hold)) (rQ bN lt (b9 bZ))
  by_cases a8:z=(w:Int)
  ·(clear gZ e5 i9 s_ ta tb;subst a8);exact Dq (O.own w hw rfl) λm ax xH hm bu aj ge l d7=>i1 dG Z.le hr Z.sat (eX.mp (adw P:F3 X.K=ae) w (oY hw)) (by kernel_rfl) (by lia) Z.fM λbr bI aY ao a_ bX ez eA=>WD (i8:=L) P hm hw bX (e3 (.cons nr (.cons (b9 (a4 a_.aj bZ)) (.cons (b9 (a4 a_.aj jW)) .nil)))) (bu.k9 eA (wF hm)) aj ge l d7 d_ cR hold (aq.turn bX (by lia) aV)
  .exact i1 dG Z.le hr Z.sat (FC (adA P:F7 X.K=ae) hw O.An a8) (by kernel_rfl) (by lia) Z.fM λbr bI aY ao a_ bX ez eA=>O.not w hw a8 br bI _ ao _ Q E eA bX (e3 (.cons nr (.cons (b9 (a4 a_.aj bZ)) .nil))) (aq.turn bX (by lia) aV)
 |none=>
  have Z:=Dc (aC:=[]) (iu:=[]) dG lC lD (o7 O.bu rfl O.aj) O.l O.c4 aw i9 s_;obtain jW:=(congrArg (·[0]?) Z.aj).trans lC;have bZ:=(congrArg (·[1]?) Z.aj).trans lD;have hr:=yU W dG rfl Z.le low (by lia) gq eZ (fA:=[bw]) (cg:=bw) (λk aw=>by obtain rfl:=eu.mp aw;exact(bh [bF] (b9 bZ) bx)) (rQ bN lt (b9 bZ));by_cases a8:z=(w:Int)
  ·(clear gZ e5 i9 s_ ta tb;subst a8);exact Dq (O.own w hw rfl) λm ax xH hm bu aj ge l d7=>i1 dG Z.le hr Z.sat (eX.mp (ady P:F5 X.K=ae) w (oY hw)) (by kernel_rfl) (by lia) Z.fM λbr bI aY ao a_ bX ez eA=>WG P hm hw bX (e3 (.cons nr (.cons (b9 (a4 a_.aj bZ)) (.cons (b9 (a4 a_.aj jW)) .nil)))) (bu.k9 eA (wF hm)) aj ge l d7 O.c4 (kP (e:=.lit (-1)) rfl rfl) d_ cR aw (by lia) (aq.turn bX (by lia) aV) bX.hJ
  .exact i1 dG Z.le hr Z.sat (FC (adz P:F6 X.K=ae) hw O.An a8) (by kernel_rfl) (by lia) Z.fM λbr bI aY ao a_ bX ez eA=>O.not w hw a8 br bI _ ao _ Q E eA bX (e3 (.cons nr (.cons (b9 (a4 a_.aj bZ)) .nil))) (aq.turn bX (by lia) aV)
end
section
variable{X:gE}{c:bc}{s:aN}{bF w:Nat}
theorem bP.step(T:bP X p g c β s env fn aP at_ N)(l:β.le av)(S:Sat g c dJ.st av ao):bP X dJ g c av ao env fn aP at_ N:=
 {T with env:=T.env.le l,sat:=S,cB:=a4 l.ad T.cB,el:=a4 l.ad T.el,gF:=a4 l.ad T.gF,jL:=a4 l.ad T.jL,j_:=a4 l.ad T.j_,k0:=a4 l.ad T.k0,k1:=a4 l.ad T.k1,room:=a4 l.aE T.room,oe:=a4 l.aE T.oe,ed:=a4 l.aE T.ed,hJ:=a4 l.ad T.hJ}
theorem N4(zs:List Int)(k:Nat):fk zs k 5=0\/fk zs k 5=1\/fk zs k 5=2\/fk zs k 5=3\/fk zs k 5=4:=by refine a3 (tx (a:=pq zs k) (b:=5) (aS rfl)) λdc dA=>?_;unfold fk;exact abq dc dA
theorem WX(zs:List Int)(k:Nat):∃w:Nat,w<4/\fk zs k 4=(w:Int):=by exact a3 (tx (a:=pq zs k) (b:=4) (aS rfl)) λdc dA=>(bh ((fk zs k 4).toNat) (by unfold fk;exact(LC dc).mpr (T4 dA)) (by unfold fk;exact(Av dc).symm))
theorem afX(P:ck X.K)(W:Own X zs)(T:bP X (fy dZ [bD]) g c β s env fn aP n N)(b_:β.aj=[ch])(cR:ch∈bD)(bt:g.S+2*dS<=hI)(h9:hI<=9000)(low:n<=5000)(aV:(n:Int)+3<=j9)(aq:rn X env hI j9 Q):dX g c (cH ((ea X.K).drop 1) env) Q E s:=by
 refine aU (WX zs (n+1+1)) λw hw eZ=>?_;rcases N4 zs (n+0+1) with gq|gq|gq|gq|gq
 .exact Tf P W T b_ cR bt h9 low (LD (by assumption)) aq (way:=0) (aS rfl) gq hw eZ
 .exact Tf P W T b_ cR bt h9 low (LD (by assumption)) aq (way:=1) (aS rfl) gq hw eZ
 .exact agr P W T b_ cR bt h9 low (by lia) aq gq
 .exact agq P W T b_ cR bt h9 low aV aq gq hw eZ
 .exact agp P W T b_ cR bt h9 low (LD (by assumption)) aq gq
noncomputable def UW:b4:={fy dZ [bD] with ar:=tU dZ}
noncomputable def Mi(i:Nat):b4:={A7 i with ar:=tU dZ}
theorem abP{l:List Int}(h:bL (hc S) (tU dZ) l)(cb:l[5]? =C z)(a8:z<=9000):bL (hc S) (vP dZ) l:=by
 unfold tU at h;unfold vP;cases h with
 |cons h0 h=>cases h with
  |cons aa h=>cases h with
   |cons af h=>cases h with
    |cons aJ h=>cases h with
     |cons bl h=>cases h with
      |cons cQ h=>cases h;(obtain J:=aT cb;clear cb;subst J);exact .cons h0 (.cons aa (.cons af (.cons aJ (.cons bl (.cons ⟨cQ.1,by assumption,λj cE=>by exact bK cE⟩ .nil)))))
theorem abL:∀i∈six,∀d∈BR,nameAt (i+(d/4).toNat)∈bD:=by exact aS (by kernel_rfl)
theorem afY(P:ck X.K)(W:Own X zs){i:Nat}(bN:i<6)(T:bP X (A7 i) g c β s env fn aP n N)(bt:g.S+3*dS<=hI)(h9:hI<=9000)(low:n<=4000)(aV:(n:Int)+4<=j9)(aq:rn X env hI j9 Q):dX g c (cH (ea X.K) env) Q E s:=by
 have yH:dS=60:=rfl;have Pg:i∈six:=by unfold six;simp only[dh,lL,or_false];exact QE i bN
 have O_:fk zs (n+0+1) 5∈BR:=by unfold BR;simp only[dh,lL,or_false];exact N4 zs _
 obtain aw:=T.k;obtain run:=eX.mp (eX.mp (adj P:FQ X.K=ae) i Pg) _ O_;obtain f9:fu (g.pin β) (p_ [(0,5,fk zs (n+0+1) 5)]):=vp T.good.ok (aw▸W.draw) (W.lists T (.refl _) (bR (by assumption) (bA rfl))) λx ak=>by obtain rfl:=eu.mp ak;exact(fi (l9 _) (show(0:Int)<5 by exact aS rfl) rfl)
 refine G (bW (q7 1 (ea X.K))) (ae7 (dJ:=UW) T f9 run (by kernel_rfl) (by lia) λbr bI aY ao a_ bX ez eA=>?_);have e:((n:Int)+((1:Nat):Int))=((n+1:Nat):Int):=by push_cast;rfl
 rw[e] at bX;obtain bX:bP X (fy dZ [bD]) br bI _ ao env fn aP ((n+1:Nat):Int) N:=bX.bounds rfl (abP bX.sat.facts.aE bX.oe (by push_cast;lia));exact afX P W bX (e3 (.cons (ag.eP.mpr (d2 _ [] rfl rfl (by simp))) .nil)) (abL i Pg _ O_) (by lia) h9 (jk (by assumption) (bA rfl)) (by push_cast;assumption) aq
theorem aar{o:cj}(W:Own X zs):Own (X.iter o) zs:=⟨W.draw,W.chain,W.other,W.mr,W.eS,W.vb⟩
theorem abO{l:List Int}(h:bL (hc S) (tU dZ) l)(cb:l[5]? =C z)(a8:z<=8000):bL (hc S) Im l/\0<=z:=by
 unfold tU at h;unfold Im;cases h with
 |cons h0 h=>cases h with
  |cons aa h=>cases h with
   |cons af h=>cases h with
    |cons aJ h=>cases h with
     |cons bl h=>cases h with
      |cons cQ h=>cases h;(obtain J:=aT cb;clear cb;subst J);exact⟨.cons h0 (.cons aa (.cons af (.cons aJ (.cons bl (.cons ⟨cQ.1,by assumption,λj cE=>by exact bK cE⟩ .nil))))),cQ.1⟩
theorem QC(P:ck X.K)(W:Own X zs){pos:cq}{p6:az}(rO:X.c7=(p6,p6)){R:Result->aN->Prop}(O2:∀ao,(∀a o,X.h0.get? a=C o->ao.heap.get? a=C o)->ao.os=X.dU.os/\ao.gens=X.dU.gens->R (.ok .next) ao)
  (O3:∀ao,(∀a o,X.h0.get? a=C o->ao.heap.get? a=C o)->ao.os=X.dU.os/\ao.gens=X.dU.gens->R (.ok (.ret (.bool ae))) ao):
  ∀(left i:Nat)(g:cz)(c:bc)(β:aZ)(s:aN)(fn aP:List (aM×aB))(a N:Int),bP (X.iter (ht i left)) T0 g c β s env fn aP a N->i+left<=6->g.S+180*left<=8000->a+4*left<=3000->ft g.M c.A (.forLoop (.Name "turn" pos) (.ref p6) (ea X.K) [] env) R s
 |0,i,g,c,β,s,fn,aP,a,N,T,aX,bt,aV=>by
  refine jQ T.MH λb a9 bf h6 cC=>?_;obtain a9:X.c7=(b,b):=a9;rw[rO] at a9;(refine a3 (eD a9) λJ bU=>?_;clear a9;(clear h6;subst J);clear bU);refine yt (KZ (x:=i) (left:=((0:Nat):Int)) (step:=1) (T.ct.calm (aS rfl)) (show Eg _ _ _ _ _ from bf) (aS rfl) λay he=>O2 _ (λb o q=>he b o (λz=>cC o (G (bW z) q)) ?_) ?_)
  .exact T.sat.keep b o (T.hl b o q)
  .obtain this:=T.sat.os;unfold m6 at this;rw[T.dU] at this;exact this
 |left+1,i,g,c,β,s,fn,aP,a,N,T,aX,bt,aV=>by
  refine jQ T.MH λb a9 bf h6 cC=>?_;obtain a9:X.c7=(b,b):=a9;have yH:dS=60:=rfl;rw[rO] at a9;(refine a3 (eD a9) λJ bU=>?_;clear a9;(clear cC h6;subst J);clear bU);refine yt (KU (x:=i) (left:=((left+1:Nat):Int)) (step:=1) (show Eg _ _ _ _ _ from bf) (mU.mpr (pE left)) λay ia aD=>?_);obtain dT:((i:Int)+1)=((i+1:Nat):Int):=by push_cast;rfl
  obtain cG:(((left+1:Nat):Int)-1)=(left:Int):=ux (left:Int) 1;rw[dT,cG] at ia;have ia:ay.get? p6=C (ht (i+1) left):=ia;have dG:=afZ (t:=s.toks+1) T rO aD.extBut ia (ID _ _);have dG:bP (X.iter (ht (i+1) left)) T0 (g.iter (ht (i+1) left)) c β {s with heap:=ay,toks:=s.toks+1} env fn aP a N:=dG;refine zS (g:=g) (s:={s with heap:=ay,toks:=s.toks+1}) ia rfl (by exact rfl) ?_ _;refine w6 ?_;obtain sn:=qN dG.good.ok dG.ct dG.env "turn" (v:=.i (.lit (i:Int))) (y:=.int i s.toks) ⟨_,_,rfl,rfl⟩ β T0.st _ (.refl _) dG.sat (X:=fY);obtain tj:jf (lax X.K) "turn" (.i (.lit (i:Int))) T0.st=.ok () (Mi i).st:=by unfold jf;exact G (abc P) rfl
  unfold At at sn;rw[show(X.iter (ht (i+1) left)).K=X.K from rfl,tj] at sn;refine sn _ _ λI dB av a_ S I=>?_;have ru:bP (X.iter (ht (i+1) left)) (Mi i) _ c av dB env fn aP a N:=dG.step a_ S;refine a3 (abO ru.sat.facts.aE ru.oe (by lia)) λnb na=>?_;obtain Fl:bP (X.iter (ht (i+1) left)) (A7 i) _ c av dB env fn aP a N:=ru.bounds rfl nb;obtain⟨n,rfl⟩:∃n:Nat,a=(n:Int):=⟨a.toNat,by exact(Av na).symm⟩;obtain ez:(g.iter (ht (i+1) left)).S=g.S:=rfl;refine afY (g:=g.iter (ht (i+1) left)) (X:=X.iter (ht (i+1) left)) P (aar W) (i:=i) (hI:=g.S+3*dS) (j9:=n+4) (jk (gu _ _) (by assumption)) Fl (dP _) (by lia) (by lia) (xp _) ⟨λao k os=>O3 ao k os,λao br bI av eN es dq sV bX YL fo=>?_⟩;obtain this:=QC P W (pos:=pos) rO O2 O3 left (i+1) br bI av ao eN es dq sV bX (by lia) (by lia) (by lia);rw[bX.m,bX.a] at this;obtain hP:g.M=X.M:=T.m;obtain ll:c.A=X.A:=T.a;show ft g.M c.A _ _ _;(refine G hP (G ll ?_));exact this
end
end Mine.Internal.MI
end
open PySem PySem.W PySem.Calls PySem.SeqAt
open PyProof.Rows hiding wpAt wpAt_bind wpAt_stack
namespace Mine.Internal.MI
theorem IU{K:Frag}{a:Addr}{names glob:List Str}{body:List Stmt}{fU:Option Addr}{fd:FuncData}{gb:Array (Option Value)}{as:List Arg}{an:List (Option PySem.Expr)}{ds:List PySem.Expr}
  (h:K.lookup a=some ⟨.type "function",fU,.func fd,gb⟩)(b7:fd.params=⟨[],as,none,[],an,none,ds⟩)(aO:as.map (·.arg)=names)(aD:fd.body=.stmts body)(bb:fd.closure=[])
  (hd:fd.defaults=.none)(gx:fd.globals=mainGlobals)(qk:fd.builtins=builtinsNs)(bM:qG fd.scope=true)(rN:codeIn K fd.code fd.qualname=true)
  (aX:(names.all λx=>fd.scope.names.lookup x==some .local)=true)(tI:(glob.all λx=>fd.scope.names.lookup x==some .globalImplicit)=true):u0 K a names glob body:=
 ⟨_,fU,fd,gb,as,an,ds,h,rfl,b7,aO,aD,bb,hd,gx,qk,bM,rN,λx ak=>beq_iff_eq.mp (List.all_eq_true.mp aX x ak),λx ak=>beq_iff_eq.mp (List.all_eq_true.mp tI x ak)⟩
theorem toN{b:Bool}(h:1<=b.toNat):b=true:=by
 cases b with
 |true=>rfl
 |false=>cases h
namespace top
def tw6354265175478039002:=True
def tw4638031748853950433:=True
def tw15599415679604346604:=True
def tw16229354452098628120:=True
def tw8053360776012057399:=True
def tw17947399496621169294:=True
def tw12920934775322673324:=True
def tw8610081157932770720:=True
def tw9982824035746488874:=True
def tw6683617145048547830:=True
def tw6152537856670660009:=True
def tw2687016629760309722:=True
def tw7292860065224790858:=True
def tw3893527089062636175:=True
def tw5905299798245073443:=True
def tw13250083712680862137:=True
def tw5636235025046151883:=True
def tw9797485885345714128:=True
def tw16848267626016032716:=True
def tw7519881159891747923:=True
def tw5544332304931718925:=True
def tw16178190418965161614:=True
def tw293006860173984195:=True
def tw6190383625232338530:=True
def tw15234048564295423756:=True
def tw18030508111123799717:=True
def tw15679651412284018862:=True
def tw15557251920333872730:=True
def tw531102750842199198:=True
def tw9065938778584937748:=True
def tw12299878135084419178:=True
def tw18135634879012935241:=True
def tw11937703304727437969:=True
def tw7043966477291049909:=True
def tw15753794317094119912:=True
def tw3308769794901785668:=True
def tw10093466370678017631:=True
def tw14793951714494839653:=True
def tw9533446662818794684:=True
def tw16981175232747542678:=True
def tw901736634645640661:=True
def tw17649988523110486195:=True
def tw11373592268067003845:=True
def tw4189233226970712963:=True
def tw9967805111562579149:=True
def tw7521451622903759745:=True
def tw14597336812715138691:=True
def tw8243581987880246871:=True
def tw10752015596969136433:=True
def tw10107259064435610531:=True
def tw10306315284314338703:=True
def tw8311029580933230845:=True
def tw6770836895588656244:=True
def tw1727239898134233346:=True
def tw2481346485213952549:=True
def tw1117349421096324284:=True
def tw11607573838827872487:=True
def tw14924962461514030883:=True
def tw6520126413370248495:=True
def tw9893359871987041760:=True
def tw9479857893462407082:=True
def tw15912819009404337458:=True
def tw17507060628226167864:=True
def tw17788036626530868738:=True
def tw16390891136788863073:=True
def tw14182106406060200385:=True
def tw5730528182233584377:=True
def tw17514165251446727031:=True
def tw902581685467152763:=True
def tw13951050518908834453:=True
def tw7996628794068628841:=True
def tw8448175637926478576:=True
def tw12496298296948693246:=True
def tw15736047074200047684:=True
def tw17132551867246142020:=True
def tw3168911750476234789:=True
def tw12972264902805271298:=True
def tw12005890611232622677:=True
def tw8723402389759341913:=True
def tw12313925263852540573:=True
def tw13138773503982215617:=True
def tw5806384103754325699:=True
def tw14790294410786311137:=True
def tw15874930252708603297:=True
def tw11083511765760425565:=True
def tw1009826747202154580:=True
def tw8336313849270550825:=True
def tw9892317528162594763:=True
def tw12353026949314946726:=True
def tw16121434229960830166:=True
def tw7395517224764241944:=True
def tw3208311976464593736:=True
def tw4579515707445137759:=True
def tw6044606855935478473:=True
def tw15641100219793448477:=True
def tw15374681821481166602:=True
def tw14559959105932003695:=True
def tw804021913286105485:=True
def tw2189171069518758961:=True
def tw12834735616119473302:=True
def tw8025003852374707274:=True
def tw64536759449928409:=True
def tw11288394967624746857:=True
def tw12135571592287409703:=True
def tw4008103822565469227:=True
def tw5497592521953649037:=True
def tw6541334901707705831:=True
def tw15113818760099460748:=True
def tw3957793391314565433:=True
def tw3692663438657348594:=True
def tw13038803098037436116:=True
def tw8932692626136063972:=True
def tw444325015793321532:=True
def tw1097778701786459229:=True
def tw18288534024213798091:=True
def tw2379587959138335560:=True
def tw1526175802071463876:=True
def tw15207732829620637784:=True
def tw2284344903473552945:=True
def tw1499091172248443998:=True
def tw2593016829881446926:=True
def tw3508756198894613973:=True
def tw7632773400021808633:=True
def tw18397570292812279416:=True
def tw16505994295777257518:=True
def tw6512549875834172538:=True
def tw5903980255886018151:=True
def tw12529883600401819270:=True
def tw15374009334226054474:=True
def tw14448459955941835930:=True
def tw15878524742104386760:=True
def tw12472576284115129512:=True
def tw977755985963484821:=True
def tw9134438612668001032:=True
def tw10604170818358073591:=True
def tw11522874152844300018:=True
def tw1379969100312980970:=True
def tw10109445551894953287:=True
def tw14197304040971271830:=True
def tw3891868426880109421:=True
def tw5453949650707585730:=True
def tw16367082410322037209:=True
def tw6973592028227460409:=True
def tw5544082958010218729:=True
def tw11982711751967405220:=True
def tw3345230484004643589:=True
def tw12536225974953037999:=True
def tw18210867101831722569:=True
def tw16886032423926026866:=True
def tw6770143847868097213:=True
def tw9761008772412333271:=True
def tw9515433772034657340:=True
def tw5346542629170322650:=True
def tw11813483874794614859:=True
def tw5501699914027756899:=True
def tw12199162167973776337:=True
def tw6874424278012024385:=True
def tw5507186441532014432:=True
def tw7649445965039788291:=True
def tw4686419645832806055:=True
def tw5969473028119636328:=True
def tw5776049528508603358:=True
def tw7532632417700422303:=True
def tw4074609189277387123:=True
def tw18128782497123585175:=True
def tw9344131271486587410:=True
def tw14791575095772558110:=True
def tw5152557915744160752:=True
def tw18349109953950532895:=True
def tw13205014789725024138:=True
def tw5557928114939824371:=True
def tw11601632165744614782:=True
def tw4841889121196047001:=True
def tw5553210519682524966:=True
def tw11983966752690193019:=True
def tw1612041303899540354:=True
def tw12367088798083642720:=True
def tw2522301788564672596:=True
def tw12759327108282382685:=True
def tw14497401897856595083:=True
def tw7975773607638088666:=True
def tw13765376549004389621:=True
def tw11334394620560328630:=True
def tw7122030647947396544:=True
def tw10813126575723246196:=True
def tw11075880919377188910:=True
def tw16626148026697817914:=True
def tw15341159989680653326:=True
def tw8188711210819612421:=True
def tw2430907727968473526:=True
def tw18443157523644189698:=True
def tw6854024421995775639:=True
def tw15154618732273184115:=True
def tw16533746603330394672:=True
def tw17290492582813623409:=True
def tw13025090084303929004:=True
def tw1839233636173427645:=True
def tw9332564777056703480:=True
def tw9950626968558765523:=True
def tw5440663164287053068:=True
def tw16980145057783995205:=True
def tw17828843226870697073:=True
def tw9193399569401604304:=True
def tw15917400010546207950:=True
def tw17345813802770184304:=True
def tw9384674792393451269:=True
def tw17515333718056546874:=True
def tw11082554581353565863:=True
def tw14593666176606708926:=True
def tw16626632764137889389:=True
def tw6985803974208581735:=True
def tw16252878608636439462:=True
def tw4946718671314783247:=True
def tw6431791000201205800:=True
def tw14879685749279245140:=True
def tw17996237309484588718:=True
def tw1999638518772437805:=True
def tw3568878485382782000:=True
def tw11041861385508247829:=True
def tw2364186343568690312:=True
def tw12607887017501012513:=True
def tw14737412396457751433:=True
def tw3144562503327144908:=True
def tw4723523393708383355:=True
def tw9697610186789175658:=True
def tw1895459700071672530:=True
def tw12309614082963137970:=True
def tw5560218118408845348:=True
def tw531710845543638429:=True
def tw18192168001691381772:=True
def tw3642211377091058970:=True
def tw430108149552162293:=True
def tw314789125428932131:=True
def tw17362364380548753306:=True
def tw18431890188663862993:=True
def tw8486524174238020873:=True
def tw8302261605296961364:=True
def tw4195966011265532591:=True
def tw3791594956164079734:=True
def tw8063904918350180358:=True
def tw1115295946447243030:=True
def tw17558300061489453253:=True
def tw16638272638474945009:=True
def tw2421333528835863575:=True
def tw11993594657966004122:=True
def tw17373642844459012038:=True
def tw14342594827721043463:=True
def tw12081884592770916070:=True
def tw10289834219328770952:=True
def tw17218573129645311552:=True
def tw11522819634617913441:=True
def tw5148853475253706873:=True
def tw9124860196147733974:=True
def tw287519782717327867:=True
def tw5962025636269287596:=True
def tw9019798995144230505:=True
def tw15073448337499896677:=True
def tw6046187160050524391:=True
def tw8849403064104081974:=True
def tw15578246757619265265:=True
def tw9932652038483431130:=True
def tw5184344842235076884:=True
def tw10660556841271213458:=True
def tw1170295983093806027:=True
def tw8495535971340973505:=True
def tw16410903976547943035:=True
def tw3159530722445988944:=True
def tw4670762102837576466:=True
def tw17171653805439268816:=True
def tw9794626455992955726:=True
def tw16533225045648306580:=True
def tw3376913927464499175:=True
def tw1969626571421885755:=True
def tw4128585929553051014:=True
def tw14156629084192853230:=True
def tw11512841863781435570:=True
def tw9555073596043175451:=True
def tw16840461871553899506:=True
def tw2888782120494905949:=True
def tw5712945476692880365:=True
def tw10753968979081288673:=True
def tw7232264878816159440:=True
def tw396135043536359051:=True
def tw7987817849012241677:=True
def tw6372324740748294454:=True
def tw15261335417468730373:=True
def tw15057280292387744627:=True
def tw17234926966883362148:=True
def tw13529702333937563129:=True
def tw10574776301096635378:=True
def tw11839792087097636575:=True
def tw7546722050328192708:=True
def tw12193007431550222360:=True
def tw13343754653644397745:=True
def tw2173852861818206174:=True
def tw5693891097510998450:=True
def tw9860274737780744050:=True
def tw2163153975427344523:=True
def tw13129695812622596073:=True
def tw14525661613950525453:=True
def tw1508480821824317253:=True
def tw11138311348813468775:=True
def tw5489629461459318312:=True
def tw14855541647494457536:=True
def tw11034984952972882715:=True
def tw10526593106609400182:=True
def tw9361782571386717152:=True
def tw15436328347597330117:=True
def tw5307225952738212707:=True
def tw17642438950908773317:=True
def tw7221313403563575017:=True
def tw15946472936362090985:=True
def tw6548522601563453456:=True
def tw11909790927548979193:=True
def tw15342044146992461895:=True
def tw6799386465448097598:=True
def tw3329816042575624597:=True
def tw13182189167886964044:=True
def tw18264275153550429968:=True
def tw15328801140844642800:=True
def tw14442095758017409757:=True
def tw8358672793536899632:=True
def tw18442952787415873082:=True
def tw14337920418736304432:=True
def tw9986851065711941680:=True
def tw236027043800429001:=True
def tw10736534458382737618:=True
def tw14182060494325339652:=True
def tw9800917922703115122:=True
def tw8920324039191106273:=True
def tw11919011394736536508:=True
def tw13694302585497922108:=True
def tw8358998923001967735:=True
def tw9058258883165736012:=True
def tw1660317943969035640:=True
def tw12771801961532028618:=True
def tw3045031063261810602:=True
def tw9619665040913681184:=True
def tw7719029757800789867:=True
def tw18217251883719072862:=True
def tw17646377534049337921:=True
def tw10636914193005615376:=True
def tw7505932449636356042:=True
def tw4081171728157798614:=True
def tw15651659204973465271:=True
def tw13260095947738692574:=True
def tw14682500571761235870:=True
def tw11473072716136404555:=True
def tw9195833232260958015:=True
def tw8810636904471203984:=True
def tw9298915142797913163:=True
def tw16215033811658101474:=True
def tw1616604716108011765:=True
def tw11316312822172085787:=True
def tw18424864276936992357:=True
def tw15132768080946435613:=True
def tw17330745275185360572:=True
def tw12958016065702499696:=True
def tw9310714202878155935:=True
def tw5602366146655578261:=True
def tw8982598150175711181:=True
def tw8877529585768420400:=True
def tw17836010938455782546:=True
def tw12422378619986213072:=True
def tw16828408447249040287:=True
def tw3524302569896334759:=True
def tw10195662262665395897:=True
def tw6910028111533761405:=True
def tw4141192509414612351:=True
def tw15577024692797966557:=True
def tw15923391951843048398:=True
def tw8867495794080299899:=True
def tw14271531043560818176:=True
def tw6795225667731869822:=True
def tw6225206689422761478:=True
def tw5954235425640822436:=True
def tw3276813022976585888:=True
def tw17827303125804796800:=True
def tw17545760224016193710:=True
def tw16901276858541132143:=True
def tw15324198527314841639:=True
def tw15080024674972573632:=True
def tw13979770832936919626:=True
def tw13208851870168889859:=True
def tw10486212053389934502:=True
def tw9420419983127754383:=True
def tw940407055169773245:=True
def tw8641700035454580116:=True
def tw6827915713101775543:=True
def tw6557240336732442772:=True
def tw5824753723181187174:=True
def tw5454608823248069908:=True
def tw4769240247227475714:=True
def tw1901613184984001697:=True
def tw16716781742637940833:=True
def tw15898898374066525284:=True
def tw14488005646850394533:=True
def tw13807941525273358490:=True
def tw12969570112794262446:=True
def tw10771647358333295730:=True
def tw5542791274000867579:=True
def tw202563646365114547:=True
def tw15748766309801879811:=True
def tw5196002554994538899:=True
def tw16235548839692000868:=True
def tw10237767179931227713:=True
def tw14725297745681941050:=True
def tw10160297676123054392:=True
def tw14574903222795159659:=True
def tw11279381440157386135:=True
def tw1240372609243420556:=True
def tw7422063949377563487:=True
def tw14469334013364889586:=True
def tw14416400994454086298:=True
def tw9910415821469253709:=True
def tw11350628102021019538:=True
def tw8592924162070584755:=True
def tw5553625443218382:=True
def tw5166099017242089330:=True
def tw5054203922870079535:=True
def tw4333352760257846330:=True
def tw3570972503759235428:=True
def tw33468193410895217:=True
def tw15376153464183636608:=True
def tw13397837080298641380:=True
def tw13300932569816329296:=True
def tw12374819837730857777:=True
def tw13031224089562654637:=True
def tw10824957417915982723:=True
def tw12562285961899919506:=True
def tw195605436526393545:=True
def tw7297310569204051053:=True
def tw7234591344282344128:=True
def tw2874355200876848133:=True
def tw15153346680672923769:=True
def tw12371314117582628892:=True
def tw9543173754565163476:=True
def tw13892654460334184503:=True
def tw8030784001091458476:=True
def tw16909034310445999014:=True
def tw3862266365102555814:=True
def tw2893114203791439244:=True
def tw5926024230314719586:=True
def tw18056276360500718215:=True
def tw13603108765643604605:=True
def tw12661727866047942496:=True
def tw7599679427008230818:=True
def tw7507351673711764540:=True
def tw1850514662937714075:=True
def tw1251865540434269901:=True
def tw10618072436305202696:=True
def tw15000604828777799631:=True
def tw2221253117729981257:=True
def tw1929524504058785588:=True
def tw9615781072004182480:=True
def tw12967932365245546942:=True
def tw12010463292447746568:=True
def tw5413263941842442907:=True
def tw2551437421270523594:=True
def tw18002749853609805654:=True
def tw10224454838323493635:=True
def tw2536593333961722127:=True
end top
set_option Elab.async true in
theorem top:PySem.Challenge.rw_pp0065_01.Holds:=by
 w_on
 o_law
 k_head
 case hw=>w_witness2
 have facts:∀P:Params,ck (top.heap_1_39 P):=by
  intro P
  set_option Elab.async false in
  exact{f2:=lA 5 (by change 1<=?a2;letI h:?a2=1:=(by kernel_rfl);omega) (lA 6 (by change 1<=?a1;letI h:?a1=1:=(by kernel_rfl);omega) trivial),f4:=lA 4 (by change 1<=?dR;letI h:?dR=1:=(by kernel_rfl);omega) (lA 4 (by change 1<=?c_;letI h:?c_=1:=(by kernel_rfl);omega) (lA 4 (by change 1<=?cm;letI h:?cm=1:=(by kernel_rfl);omega) trivial)),hL:=lA 5 (by change 1<=?Ft;letI h:?Ft=1:=(by kernel_rfl);omega) (lA 4 (by change 1<=?Fz;letI h:?Fz=1:=(by kernel_rfl);omega) (lA 4 (by change 1<=?kz;letI h:?kz=1:=(by kernel_rfl);omega) (lA 4 (by change 1<=?iq;letI h:?iq=1:=(by kernel_rfl);omega) (lA 4 (by change 1<=?fe;letI h:?fe=1:=(by kernel_rfl);omega) trivial)))),f8:=lA 7 (by change 1<=?Fw;letI h:?Fw=1:=(by kernel_rfl);omega) (lA 7 (by change 1<=?Fv;letI h:?Fv=1:=(by kernel_rfl);omega) (lA 6 (by change 1<=?Fu;letI h:?Fu=1:=(by kernel_rfl);omega) trivial)),tq:=lA 6 (by change 1<=?Fx;letI h:?Fx=1:=(by kernel_rfl);omega) trivial,yq:=lA 4 (by change 1<=?Fy;letI h:?Fy=1:=(by kernel_rfl);omega) trivial,turn:=by kernel_rfl}
 have XR:∀P:Params,E3 (top.heap_1_39 P):=λP=>{
  MX:=⟨_,_,_,_,_,_,_,_,_,_,_,_,_,_,rfl⟩
  init:=by kernel_rfl
  r_:=by kernel_rfl
  text:=by kernel_rfl
  line:=by kernel_rfl
  Ow:=⟨_,_,_,_,_,_,_,_,_,_,rfl,IU rfl rfl rfl rfl rfl rfl rfl rfl (by kernel_rfl) (by kernel_rfl) (by kernel_rfl) (by kernel_rfl)⟩
  Ov:=⟨_,_,_,_,_,_,_,_,_,_,rfl,IU rfl rfl rfl rfl rfl rfl rfl rfl (by kernel_rfl) (by kernel_rfl) (by kernel_rfl) (by kernel_rfl)⟩
  reads:=by kernel_rfl
  special:=by kernel_rfl
  PH:=by kernel_rfl
  handed:=by kernel_rfl
  Mu:=by kernel_rfl
  exc:=by kernel_rfl
  keep:=by kernel_rfl
  Om:=by kernel_rfl}
 have aaH:∀(P:Params),keepIn (top.heap_1_39 P) (.ref 128)=true:=λP=>by kernel_rfl
 have abd:∀(P:Params),∃au n,(top.heap_1_39 P).lookup 281=some ⟨.type "dict",none,.dict au n,#[]⟩/\KeysLit P au.toList:=λP=>⟨_,_,rfl,⟨⟨_,_,rfl,rfl⟩,⟨_,_,rfl,rfl⟩,⟨_,_,rfl,rfl⟩,⟨_,_,rfl,rfl⟩,trivial⟩⟩;have aaz:∀P:Params,pR (top.heap_1_39 P):=λP=>{
  fn:=⟨posOf (top.heap_1_39 P) 713,BW rfl rfl rfl (by kernel_rfl) rfl rfl rfl rfl (by kernel_rfl) (by kernel_rfl) (by kernel_rfl) (by kernel_rfl) (by kernel_rfl)⟩
  len:=by kernel_rfl
  rest:=⟨706,_,_,_,_,by kernel_rfl,rfl,.cons ⟨_,rfl⟩ (.cons ⟨_,rfl⟩ (.cons ⟨_,rfl⟩ (.cons ⟨_,rfl⟩ (.cons ⟨_,rfl⟩ (.cons ⟨_,rfl⟩ (.cons ⟨_,rfl⟩ (.cons ⟨_,rfl⟩ (.cons ⟨_,rfl⟩ (.cons ⟨_,rfl⟩ (.cons ⟨_,rfl⟩ (.cons ⟨_,rfl⟩ (.cons ⟨_,rfl⟩ (.cons ⟨_,rfl⟩ (.cons ⟨_,rfl⟩ (.cons ⟨_,rfl⟩ (.cons ⟨_,rfl⟩ (.cons ⟨_,rfl⟩ (.cons ⟨_,rfl⟩ (.cons ⟨_,rfl⟩ (.cons ⟨_,rfl⟩ (.cons ⟨_,rfl⟩ (.cons ⟨_,rfl⟩ (.cons ⟨_,rfl⟩ (.cons ⟨_,rfl⟩ .nil))))))))))))))))))))))))⟩}
 have aay:∀(P:Params),uV (top.heap_1_39 P):=λP=>⟨posOf (top.heap_1_39 P) 727,BW rfl rfl rfl (by kernel_rfl) rfl rfl rfl rfl (by kernel_rfl) (by kernel_rfl) (by kernel_rfl) (by kernel_rfl) (by kernel_rfl)⟩;have aaE:∀P:Params,xN (top.heap_1_39 P):=λP=>{
  fn:=⟨posOf (top.heap_1_39 P) 741,BW rfl rfl rfl (by kernel_rfl) rfl rfl rfl rfl (by kernel_rfl) (by kernel_rfl) (by kernel_rfl) (by kernel_rfl) (by kernel_rfl)⟩
  lst:=by kernel_rfl
  draw:=by kernel_rfl}
 have aaG:∀P:Params,Mn (top.heap_1_39 P):=λP=>{
  fn:=⟨_,_,_,_,_,_,_,_,IU rfl rfl rfl rfl rfl rfl rfl rfl (by kernel_rfl) (by kernel_rfl) (by kernel_rfl) (by kernel_rfl)⟩
  sep:=⟨658,by kernel_rfl⟩
  str:=by kernel_rfl
  keep:=by kernel_rfl}
 have aaC:∀P:Params,E9 (top.heap_1_39 P):=λP=>{
  fn:=⟨_,_,_,_,[_,_,_,_,_,_,_],rfl,by kernel_rfl,by kernel_rfl,by kernel_rfl,rfl,rfl,by decide+kernel,by decide+kernel,λs y aw=>BindsTo.of_defaults rfl (aw 691 _ rfl) rfl rfl rfl,rfl,λβ=>.cons ⟨_,_,rfl,rfl⟩ (.cons ⟨_,_,rfl,rfl⟩ (.cons ⟨_,_,rfl,rfl⟩ (.cons ⟨_,_,rfl,rfl⟩ (.cons ⟨_,_,rfl,rfl⟩ (.cons ⟨_,_,rfl,rfl⟩ (.cons ⟨_,_,rfl,rfl⟩ .nil))))))⟩}
 have aaF:∀P:Params,u2 (top.heap_1_39 P):=λP=>{
  lim:=aaC P
  fn:=⟨[],BW rfl rfl rfl (by kernel_rfl) rfl rfl rfl rfl (by kernel_rfl) (by kernel_rfl) (by kernel_rfl) (by kernel_rfl) (by kernel_rfl)⟩
  head:=adG (facts P)
  start:=adL (facts P)
  g6:=adH (facts P)
  tail:=adM (facts P)
  nine:=adK (facts P)
  at_:=by kernel_rfl
  set:=by kernel_rfl
  rG:=by kernel_rfl}
 have aaB:∀P:Params,E8 (top.heap_1_39 P):=λP=>{
  scope:=aaF P
  call:=⟨(x9 (top.heap_1_39 P)).1,(x9 (top.heap_1_39 P)).2.1,(x9 (top.heap_1_39 P)).2.2.1,(x9 (top.heap_1_39 P)).2.2.2.1,(x9 (top.heap_1_39 P)).2.2.2.2,by kernel_rfl⟩
  PZ:=by kernel_rfl
  PX:=by kernel_rfl
  PY:=by kernel_rfl
  QT:=by kernel_rfl}
 have k_all:∀P:Params,E7 (top.heap_1_39 P):=λP=>{
  Qe:=aaB P
  rG:=⟨adF (facts P),adI (facts P),by kernel_rfl,by kernel_rfl⟩
  draws:=adE (facts P)
  rX:=adJ (facts P)
  draw:=aaz P
  chain:=aay P
  other:=aaE P
  ret:=⟨(JS (top.heap_1_39 P)).1,(JS (top.heap_1_39 P)).2.1,(JS (top.heap_1_39 P)).2.2,by kernel_rfl⟩}
 have aaA:∀(g:cz)(w:World)(aw:g.K=top.heap_1_39 w.params)(hw:g.w=w)(O:g.Ok),Good g:=by intro g w aw hw O;refine⟨O,⟨?_,af7 g (aw▸aaG w.params)⟩,adO g (aw▸XR w.params) (by rw[aw];exact aaH w.params)⟩;unfold cz.Mb;rw[aw,hw];exact abd w.params
 have aaD:∀(P:Params)(zs:List Int),Fc (top.heap_1_39 P) zs:=λP zs=>λX env pos p6 R rL W rO aa af=>QC (rL▸facts P) W rO aa af;have aax:∀(P:Params),fN (top.heap_1_39 P)=Bm (posOf (top.heap_1_39 P) 760)::(fN (top.heap_1_39 P)).drop 1:=λP=>by kernel_rfl
 k_go0
 rename_i w ahT bg iS iR a6 Y hM o pm doc bx gx UC X V ag0 T B TE TW zz oo M aha ahb rN ns bM ahu aho Pn HX ag5 ag6 a aK ag7 gw c2 bZ pk ba cb B4 B5 ag1 hh dr SA F bF d_ m5 ag4;have Zz:ns.length<=63:=by omega
 refine abb (K:=top.heap_1_39 w.params) (p:=top.view_1_40) (loose:=looseW top.view_1_40 [Str.ofString "LAYERS",Str.ofString "Limits"]) (iS:=iS) (iR:=iR) (bg:=bg) (ns:=ns) (aK:=aK) (a:=a) (aC:=bg.heap.objs.size+1) (L:=bg.heap.objs.size) (pp:=posOf (top.heap_1_39 w.params) 760) (k_all w.params) (λg aw hw O=>aaA g w aw hw O) (λzs _=>aaD w.params zs) UC (topRead_of T) F rfl rfl ?_ ?_ ?_ ?_ gw ba Zz ?_ rfl rfl rfl rfl ?_ rfl ?_ ?_ (aax w.params) ?_
 .kernel_rfl
 .exact⟨bF,(m5 _ (.head _)).1,d_.trans (by kernel_rfl)⟩
 .exact(m5 _ (.head _)).2.2
 .exact Nat.ne_of_lt (Nat.lt_succ_self _)
 .kernel_rfl
 .kernel_rfl
 .kernel_rfl
 .kernel_rfl
 .intro ao keep os;refine⟨.inl ⟨.bool true,.bool true,[],rfl,λcls=>?_,?_,?_,λh=>?_⟩,keep,os.1,os.2.trans gx⟩
  .kernel_rfl
  .exact .bool _
  .kernel_rfl
  .exact⟨.nil,λa aV=>(nomatch aV)⟩
end Mine.Internal.MI
theorem PySem.Challenge.cw_pp0065_01_holds : PySem.Challenge.rw_pp0065_01.Holds :=
  Mine.Internal.MI.top
