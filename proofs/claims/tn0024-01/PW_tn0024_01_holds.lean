import PyProof.Rows.All
import Wide.All
import OpenK.AllK
import Wide.FinOn
import Open.Tops
import Lean
import PySem.Challenge.RW_tn0024_01
set_option Elab.async false
set_option autoImplicit false
set_option genSizeOf false
set_option genInjectivity false
set_option maxRecDepth 100000
set_option maxHeartbeats 0
set_option linter.all false
open And renaming left->ye,right->AD
open Array renaming any_eq_true'->RL,forIn_toList->SF,getElem?_eq_getElem->SG,getElem?_eq_none_iff->JG,getElem?_eq_some_iff->D5,getElem?_toList->tH,getElem_toList->JH,mem_def->SH,mem_toList_iff->JI,perm_iff_toList_perm->JJ,toArray_toList->SI,toList_eraseIdxIfInBounds->SJ,toList_inj->SK
open Array.Perm renaming refl->bi6
open Bool renaming and_eq_false_iff->tI,and_eq_true->wd,and_eq_true_iff->yf,and_false->D6,and_true->yg,decide_and->AE,decide_or->JK,eq_false_iff->mn,eq_iff_iff->JL,false->av,false_and->SM,false_eq_true->SN,false_ne_true->d6,false_or->SO,not_not->we,not_or->SP,not_true->SQ,or_eq_false_iff->JM,or_eq_true->nH,or_true->AF,rec->JN,true->ak,true_or->SR
open Classical renaming byContradiction->JP,em->S1,epsilon->bj2,epsilon_spec_aux->bj3
open Exists renaming intro->JR
open False renaming elim->S7
open ForIn renaming forIn->kJ
open ForInStep renaming yield->qF
open Iff renaming rfl->JX
open Inhabited renaming default->qz
open Int renaming add_assoc->Ta,add_comm->AJ,add_le_add_left->Ea,add_one_le_of_lt->JY,add_zero->JZ,emod_lt_of_pos->yj,emod_nonneg->wg,eq_ofNat_of_zero_le->J0,le_add_one->Tb,le_antisymm->AK,le_of_eq->nI,le_of_lt->hJ,le_of_lt_add_one->Tc,le_refl->pJ,le_trans->eE,lt_add_of_pos_right->Td,lt_add_one_of_le->Te,lt_iff_le_and_ne->Tf,lt_irrefl->J1,lt_of_le_of_lt->m5,lt_of_lt_of_le->oA,lt_succ->Tg,lt_trichotomy->Th,mul_one->Ti,mul_zero->Tj,natCast_add->Tn,natCast_nonneg->mq,natCast_succ->J2,ne_of_gt->qG,ne_of_lt->J3,not_lt->iy,ofNat->tK,ofNat_le->jH,ofNat_lt->fh,ofNat_sub->To,ofNat_zero->Eb,sub_zero->Tp,toNat_lt->AL,toNat_natCast->Tq,toNat_of_nonneg->ji,toNat_sub->J4
open Int.ofNat renaming inj->lx
open LawfulBEq renaming eq_of_beq->qA
open LawfulMonad renaming bind_assoc->xY,pure_bind->Dw
open List renaming all_eq_true->iK,any->J5,any_cons->J6,any_eq_true->Ec,any_map->Tr,append_assoc->fy,append_nil->eX,concat_eq_append->AM,cons->Ts,cons_append->Tt,contains_cons->rN,contains_iff_mem->Tu,dropLast_concat->Tv,drop_eq_getElem_cons->J8,drop_eq_nil_of_le->J9,drop_nil->Tw,eq_nil_or_concat->Ed,filter_cons->wi,filter_cons_of_pos->J',find?_cons->Ee,flatMap->Ka,flatMap_append->wj,flatMap_cons->AN,flatMap_nil->Tx,forIn_cons->pK,forIn_nil->Tz,forall_mem_cons->i3,forall_mem_nil->h9,forall_mem_singleton->AO,getD_eq_getElem?_getD->qH,getElem?_append_left->wk,getElem?_append_right->Ef,getElem?_concat_length->Eg,getElem?_cons_succ->Kb,getElem?_cons_zero->TA,getElem?_eq_getElem->f9,getElem?_eq_none->Eh,getElem?_eq_none_iff->Kc,getElem?_eq_some_iff->mr,getElem?_map->lV,getElem?_replicate->TB,getElem?_zipIdx->TC,getElem?_zip_eq_some->TF,getElem_mem->Ei,head?_map->TG,head?_reverse->TH,isEmpty_iff->Kd,length->yk,length_append->cK,length_cons->jI,length_drop->Ej,length_dropLast->Ek,length_eq_zero_iff->pL,length_filter_le->TJ,length_map->cN,length_nil->El,length_range->mu,length_range'->RM,length_replicate->wm,length_reverse->Em,length_singleton->AP,length_take->TK,length_zipIdx->rO,lookup_cons->tL,map->En,map_append->gA,map_congr_left->TL,map_cons->tM,map_eq_flatMap->Ke,map_flatMap->Kf,map_map->nJ,map_reverse->Kg,map_take->TM,mem_append->gO,mem_append_left->mv,mem_append_right->lW,mem_cons->fS,mem_cons_of_mem->iL,mem_cons_self->dI,mem_filter->rP,mem_filterMap->TN,mem_flatMap->pM,mem_iff_getElem?->tN,mem_map->eS,mem_of_getLast?->TO,mem_range->pN,mem_reverse->wo,mem_singleton->dv,mem_zipIdx_iff_getElem?->tO,nodup_append->AQ,nodup_cons->pO,not_mem_nil->oB,of_mem_zip->TP,pairwise_append->TQ,pairwise_cons->TR,pairwise_iff_getElem->Eo,pairwise_map->Kh,prefix_append->yl,range->gB,range'->qy,range'_succ->RN,range_eq_range'->I8,replicate->pP,reverse_cons->TU,size_toArray->wq,take_append_drop->Ep,take_length->TV,take_nil->TX,toArray->TY,toList_toArray->Ki,zip->TZ,zip_cons_cons->T1
open List.Perm renaming eq_of_pairwise->bj7,symm->bj8
open List.cons renaming inj->J7,injEq->bj9
open Nat renaming add_assoc->wt,add_comm->ym,add_le_add->nL,add_le_add_left->gC,add_le_add_right->nM,add_right_comm->yn,add_sub_cancel'->tr,beq->cf,beq_refl->Er,ble->fI,ble_eq->gP,blt->dy,blt_eq->T3,eq_of_beq_eq_true->AR,le_add_left->rQ,le_add_right->en,le_antisymm->Es,le_of_ble_eq_true->iz,le_of_eq->eK,le_of_lt->jk,le_of_lt_succ->oC,le_of_not_le->T4,le_of_succ_le->rR,le_of_succ_le_succ->Kl,le_refl->da,le_sub_one_of_lt->T5,le_succ->mw,le_succ_of_le->AS,le_trans->aX,lt_add_of_pos_right->wu,lt_asymm->T6,lt_irrefl->nN,lt_of_le_of_lt->d7,lt_of_lt_of_le->fT,lt_of_succ_lt->yo,lt_of_succ_lt_succ->AU,lt_or_eq_of_le->T7,lt_or_ge->Et,lt_succ_iff_lt_or_eq->Eu,lt_succ_of_lt->wx,lt_succ_self->kM,lt_trans->nO,lt_trichotomy->T8,min_eq_left->T9,min_eq_right->T',min_le_right->yp,mul_add->Ua,mul_add_div->Ub,mul_add_mod->Uc,mul_assoc->Ud,mul_comm->Ue,mul_le_mul_right->Km,mul_left_comm->Ug,ne_of_gt->Ew,ne_of_lt->Ex,not_le->Kn,not_lt->tP,not_lt_zero->yq,one_mul->Ey,one_pos->Ko,sub_add_cancel->Uh,sub_le->wy,sub_lt->Kp,sub_pos_of_lt->Ui,sub_self->Uj,succ_add_eq_add_succ->qI,succ_le_of_lt->Uk,succ_le_succ->pQ,succ_lt_succ->Ez,succ_ne_self->Kq,succ_ne_zero->Ul,succ_pos->oD,zero_add->iA,zero_le->eL,zero_lt_succ->yr,zero_lt_two->Kr
open Nat.succ renaming inj->wz
open Ne renaming symm->pR
open Option renaming bind_some->Un,isNone_iff_eq_none->Uo,isSome_iff_exists->EA,isSome_map->Up,map->oE,map_eq_some_iff->wA,map_map->Uq,none->aj,none->ys,some->ab
open Option.some renaming inj->cR
open Prod renaming ext->tT,ext_iff->Ks,fst->rS,snd->nP
open Prod.mk renaming injEq->Ur
open Pure renaming pure->br
open PyProof renaming noPylong_small->Ut
open PyProof.Rows renaming IntsAre->vZ,Subscript_->EB,and_int->bk0,args_list_sort->RO,args_sorted1->RP,collect_list->RQ,entry_list_sort->RR,entry_sorted->RS,failedOf->I',floordiv_int->bk1,get?_update_seq->Dx,getItem_tuple->bk2,isTrue_chain->bk3,kind_sorted->RT,len_tuple->bk4,listUpdate_at->RU,mod_int->bk5,neg_int->Us,places_from->RV,plain_sorted->RW,rangeSize_nat->RX,seqEpoch_at->RY,slicePart_int->RZ,slicePart_none->Dy,slot_list_sort->R0,slot_tuple_getitem->Ao,subscriptTail->Ja,truthy_none->bk6,tuples'->I9
open PySem renaming Addr->a8,Around->ea,CmpOp->Ap,Code->v3,Const->xZ,DictEntry->ts,Env->hI,ExceptHandler->rF,Expr->bU,Fin->Ux,Flow->jE,Heap->bw,IsTupleKey->x1,KeyKind->tu,Model->Aq,NameKind->v5,Obj->bj,Operator->tv,OsState->cJ,Params->d5,Pos->el,Result->v7,Scope->pC,Sem->fq,Shared->bS,Stmt->eJ,Str->a5,Tok->pD,Value->ar,World->cG,argsOk->Au,assign->tx,assignEach->Av,atKey->Aw,attributeBase->DF,backTo->tA,backToKw->Jf,behindInMarks->Ax,bindC->x3,bindName->DG,bindSpecial->R5,bootBuiltins->tB,builtinLookup_eq_fast->rG,builtinsNs->Ay,cLine->lp,call->Uy,call->hq,call_list_seq->R6,call_meetsIn->DH,callerA->Jg,cameBackBy->tC,checkBuiltinCall->R7,codeAny->nG,codeAny_call_builtin->DI,codeAny_handlers_test->R8,codeAny_mono->Jh,compEnvC->m3,compareOp->tD,comprehension->R9,dictDisplay->DJ,entryFor->Ji,entryFor_of_tree->Jj,eqIsQuiet->v8,eval->hr,evalEach->Jk,evalEachOpt->R',execs->v9,field->Az,firstIterPos->Sa,getAttr->DK,getItem->tE,getMethod->Jl,getMethod_builtin->x5,holding->DL,isInstance->v',isSubtype->Jm,isSubtype_tuple_tuple->Sb,isSubtype_type->wa,isTrue->qB,keywordEach->Jn,letOwnedTupleGo->x6,mainGlobals->x7,mem_of_lookup->pE,methodCallForm->Sd,methodCallPos->Se,moduleNames->Sf,noteFrame->DM,notedBy->tF,numAt->wb,onTheHeap->Jo,pastItsLine_dict->Sg,pyIter->qC,pyNext->pF,raiseNew->DN,raiseStmt->Jp,rawInt->j7,recursionLimit->Sh,reduceHash->Jq,seqIndex?->AA,setField->DO,setItem->x8,sizeLine->rH,sizeLine_eq->tG,slot_list_setitem->Sj,specialOf->Jr,standAt->pG,starEach->qD,stored->DP,subscripted->Sk,swappedStores->Sl,sysModules->pH,theTreesLotGoes->Sm,typeLookup->x',typeLookup_type->rI,typeOf->rJ,unbindBehindTheSuite->DQ,valueAt->DR,wpAny->bg,wpAny_Assign_Name->Sn,wpAny_Call_Name_kw->DS,wpAny_Constant_int->DT,wpAny_Slice->Js,wpAny_UnaryOp->Jt,wpAny_allTrue_And_cons->So,wpAny_allTrue_Or_cons->Sp,wpAny_assign_Name->Ju,wpAny_attempt->DU,wpAny_bind->aN,wpAny_call->ya,wpAny_callSpecial?_slot->DV,wpAny_call_entry->rK,wpAny_eqBool_int->Jv,wpAny_execs_nil->DW,wpAny_field->jF,wpAny_forIn_list->Sq,wpAny_handleBy_cons->Sr,wpAny_handled->Ss,wpAny_holding->lq,wpAny_isInstance->Jw,wpAny_isSubtype_exc->Jx,wpAny_letTemporaryGo->Su,wpAny_loadPart->wc,wpAny_loadPart_at->DX,wpAny_lookBehind->Jy,wpAny_mkText->Sv,wpAny_mono->dH,wpAny_newList->Jz,wpAny_newObj_type->DY,wpAny_noted->Sw,wpAny_of_eq->Sx,wpAny_pure->bI,wpAny_pyHash_int->DZ,wpAny_ret_mkInt->Sy,wpAny_rule->AB,wpAny_sequenceKey->Sz,wpAny_setField->JA,wpAny_setField_rec->JB,wpAny_specialOf->D0,wpAny_standAt->qE,wpAny_throw->D1,wpAny_truthy_bool->yb,wpAny_tupleItemsOf->JC,wpAny_typeOf->SA,wpAt_bind->Uz,wpAt_of_wpAny->UA
open PySem.Around renaming under->JF
open PySem.Builtin renaming bitAnd->SY
open PySem.Builtin.List renaming listSubscript?->bi7,listUpdate->bi8
open PySem.Builtin.ObjectAttr renaming storeInOwnDict->bi9
open PySem.Builtin.Range renaming rangeSize->SS,small->JO
open PySem.Builtin.Slice renaming sliceAdjust->AG,sliceApplied->D7,sliceFields->SU,slicePlaces->SV
open PySem.Builtin.SmallTypes renaming stopIteration->bj0
open PySem.Builtin.Tuple renaming tupleExact->D8,tupleHashOf->bj1,tupleIsExact->SW,tupleItemsOf->SX
open PySem.Calls renaming Name_function_global->R1,call_function_entry->S0
open PySem.Challenge renaming pw_tn0024_01->bk7,rw_tn0024_01->EC
open PySem.Code renaming builtin->JQ,quiet_builtin->S2
open PySem.DictEntry renaming refKey->S3
open PySem.EntryCells renaming newEntry->bj4
open PySem.Expr renaming Call->Uu,ListComp->Uv
open PySem.F renaming entry_dict_get->JS,excBase_Exception->Uw,plainAttrs_dict->JT,plainAttrs_list->JU,slot_dict_delitem->S4,slot_dict_get->yh,slot_list_pop->S5,slot_list_remove->S6,slot_tuple_eq->Kt,slot_tuple_hash->ED,type_dict_get->JV
open PySem.Heap renaming ExtBut->S9,SameBut->ix,SlotsOnly->S',get?_push_of_some->iJ,get?_push_size->lr,get?_update_other->D',get?_update_self->yi,lt_size->rM
open PySem.Heap.DictOf renaming new->JW
open PySem.Heap.DictOfH renaming new->bj5
open PySem.Heap.IsSliceOf renaming new->D9
open PySem.Heap.SameBut renaming update->tJ
open PySem.MeetsSeq renaming list_pop_last->bk9,list_remove->bl0
open PySem.MeetsSeq.EqGives renaming int->bk8
open PySem.NameKind renaming cell->Kk,free->nK
open PySem.Obj renaming alive->Um,mapSeq->tQ,putNameByArray->tR,putName_eq->tS
open PySem.Str renaming empty->Ku,ofString->iM
open PySem.Value renaming builtin->wB,int->UB,none->rT,ref->my,type->tU
open PySem.Value.ref renaming inj->Kx
open PySem.Value.type renaming inj->wC
open PySem.W renaming InstAt->EE,Looks->kK,SharedT->tw,callWith_of->R2,check_slot->Jb,deadEnd->Jc,emptyDict->nF,exmOne->Dz,findIn->kL,findObj_own->R3,hasDictIn->DA,kHook->DB,kas_rev->Ar,kas_sort->Jd,lookIn->DC,look_both->i1,looks_clsIn->DD,looks_findIn->x2,looks_mroIn->R4,set_plain->Je,topFrame->DE,typeIn->As
open PySem.W.Fast renaming te10110043849684766642->S8,te14364793385576792824->AH,tw10110043849684766642->AI,tw14364793385576792824->rL
open PySem.W.Looks renaming here->Kj,of_pure->T2
open PySem.pyHashByItsType renaming reduced->bl1
open Sum renaming inl->Kv,inr->Kw
open _root_ renaming Array->dC,Bool->aB,DecidableEq->j6,False->dg,Int->ag,List->af,Nat->ae,Option->aw,String->ht,True->gN,Unit->h8,absurd->aV,beq_self_eq_true->jG,cond->aG,cond_false->yc,cond_true->D2,congrArg->aU,decide_eq_false->de,decide_eq_true->cD,decide_eq_true_eq->yd,decide_not->D3,eq_comm->JE,if_neg->bh,if_pos->bk,not_not_intro->D4,of_decide_eq_false->SD,of_decide_eq_true->ft,or_congr_right->SE,rfl->aa
open PySem PySem.W PySem.Calls PyProof.Rows
namespace Mine.Internal
open Lean Parser.Command in
local macro_rules (kind:=Lean.Parser.Command.declaration)
 |d=>do
  if d.getPos?.isNone then Macro.throwUnsupported
  let d:=d.rewriteBottomUp (·.setInfo .none)
  return if d[0][1].isNone&&(d[1].isOfKind ``«abbrev»||d[1].isOfKind ``definition) then d.setArg 0 (d[0].setArg 4 (.node .none `null #[.node .none ``«noncomputable» #[.atom .none "noncomputable"]])) else d

def yR(f:ae->bj)(n k a b:ae):BT:=
 Nat.rec (motive:=λU=>ae->ae->BT) (λU U=>.nil) (λU aI a b=> @JN (λU=>BT) .nil (.node (f b) (aI (2*a) (a+b)) (aI (2*a) (2*a+b))) (dy b n)) k a b
def pick(l:af bj)(i:ae):bj:= @List.rec bj (λU=>ae->bj) (λU=>qz) (λo U aI i=> @Nat.rec (λU=>bj) o (λj U=>aI j) i) l i
def Iz(f:ae->bj)(n:ae):BT:=yR f n 12 1 0
abbrev if1(c:aB)(a b:bj):bj:= @JN (λU=>bj) b a c
abbrev b8:=bk7
def cq:af eJ:=behindTheImports b8
def b0:hI:={scope:=b8.main.scope,locals:=mainNs,globals:=mainNs,cells:=[],code:=.ref 13,frame:=ab 14}
def aM(s:ht)(t:ae):ar:=.str (iM s) t
def aq(P:d5)(s:ht)(t:ae)(v:ar):ts:={hash:=PyData.keyHash P (iM s),key:=.str (iM s) t,val:=v}
def fD(l:af ts)(m e:ae):bj:={cls:=.type "dict",data:=.dict ⟨l.take m⟩ e}
def fld(l:af ar)(m:ae):bj:={cls:=.none,data:=.fields ⟨l.take m⟩}
def QG(P:d5):bj:={cls:=.none,data:=.dict #[aq P "type.__subclasses__.Exception.0" 241 (.int 38 0),aq P "type.__subclasses__.Exception.n" 242 (.int 1 0)] 2}
def aH5(P:d5):af bj:=[boot_o_0 P,boot_o_1 P,boot_o_2 P,boot_o_3 P,boot_o_4 P,boot_o_5 P,boot_o_6 P,boot_o_7 P,boot_o_8 P,boot_o_9 P,boot_o_10 P,
 {cls:=tU "tuple",data:=Data.seq #[]},{cls:=.none,data:=.fields #[]},
 {cls:=tU "code",data:=Data.fields #[aM "<module>" 182,aM "<module>" 183,aM "/claim/cut.py" 184,.int 1 0,.int 0 0,.int 0 0,.int 0 0,.int 0 0,.ref 11,.bool av,.int 181 0,.ref 12,.none,.none,.none,.none,.int 185 0,.int 1 0,aM "/claim/cut.py" 186]},
 {cls:=tU "frame",slots:=#[ab (.ref 13),ab (.ref 3),ab (.ref 3),aj,ab (aM "__main__" 164),aj,ab (.ref 0)]}]
def bW(f:cG->cJ->ae->bj)(n tk:ae)(w:cG)(os:cJ):tw:=⟨Iz (f w os) n,n,{},#[],{},tk,os⟩
def eW(j m:ae):af eJ:=(b8.main.body.drop j).take m
def dB(n:ae)(S:cG->cJ->tw)(l:af eJ)(pos:el)(w:cG)(os:cJ):aw (jE×tw×v3×el):=
 AI rL b8 w 11 (ab (.ref 6)) 1 n (S w os) (piecesOf l b0 (.body cq b0) pos [DE ⟨0,0,0,0⟩])
def thk(r:aw (jE×tw×v3×el))(i:ae):bj:= @Option.rec (jE×tw×v3×el) (λU=>bj) qz (λx=>(x.2.1.tree.get i).getD qz) r
def vu:ar:=aM "framerune.faults" 212
def dM:ar:=aM "framerune.kinds" 277
def zC:ar:=aM "framerune.ops" 639
def Ca:ar:=aM "framerune.store" 932
def sR:ar:=aM "framerune.kindline" 993
def jA:ar:=aM "framerune.kindrel" 1107
def dx:ar:=aM "framerune.vstate" 1365
def fl:ar:=aM "framerune.vregion" 1744
def lM:ar:=aM "framerune.vplain" 2058
def iU:ar:=aM "framerune.verify" 2151
def sQ:ar:=aM "framerune.vcall" 2268
def fN:ar:=aM "law_tn0024_01" 2320
abbrev eqT:=ht×ae×ar
def cB(s:ht)(t i:ae):eqT:=(s,t,.int i (t - 1))
def bt(s:ht)(t r:ae):eqT:=(s,t,.ref r)
def ents(P:d5)(nm:ar):af ts:=([
 ("__name__",165,nm),
 ("__doc__",166,.none),
 ("__package__",167,.none),
 ("__loader__",168,.builtin "__main__.__loader__#opaque"),
 ("__spec__",169,.none),
 bt "__annotations__" 170 6,
 bt "__builtins__" 171 4,
 ("__file__",173,aM "/claim/cut.py" 172),
 ("__cached__",174,.none),
 bt "_wall" 193 21,
 cB "OP_RET" 195 42,
 cB "OP_SWITCH" 197 69,
 cB "OP_ENDFINALLY" 199 220,
 cB "OP_ENDFILTER" 201 65041,
 cB "OP_RETHROW" 203 65050,
 cB "EC_CATCH" 205 0,
 cB "EC_FILTER" 207 1,
 cB "EC_FINALLY" 209 2,
 cB "EC_FAULT" 211 4,
 bt "RuneError" 244 38,
 bt "BadKind" 260 51,
 bt "VerifyFault" 276 63,
 cB "VOID" 280 0,
 cB "BOOL" 282 1,
 cB "CHAR" 284 2,
 cB "I1" 286 3,
 cB "U1" 288 4,
 cB "I2" 290 5,
 cB "U2" 292 6,
 cB "I4" 294 7,
 cB "U4" 296 8,
 cB "I8" 298 9,
 cB "U8" 300 10,
 cB "NINT" 302 11,
 cB "OBJECT" 304 12,
 cB "STRING" 306 13,
 cB "NULLK" 308 14,
 cB "BAD" 310 15,
 cB "PRIM_END" 312 16,
 cB "R_PRIM" 314 1,
 cB "R_CLASS" 316 2,
 cB "R_VALUE" 318 3,
 cB "R_ARRAY" 320 4,
 cB "R_BYREF" 322 5,
 cB "R_VAR" 324 6,
 cB "R_MVAR" 326 7,
 cB "R_BOXED" 328 8,
 cB "R_ROREF" 330 9,
 cB "R_FTN" 332 10,
 cB "R_RAW" 334 11,
 cB "DEEPEST_KIND" 336 24,
 cB "HEAVIEST_KIND" 338 4096,
 bt "PRIM_TID" 367 66,
 bt "TID_PRIM" 396 67,
 cB "ARRAY_TID" 398 5,
 bt "KindTable" 455 98,
 bt "inner_kinds" 463 109,
 bt "row_level" 470 116,
 bt "row_length" 477 123,
 bt "check_kind_row" 487 130,
 bt "check_named" 495 137,
 bt "check_args" 504 144,
 bt "may_stand" 513 151,
 bt "class_kind" 522 158,
 bt "prim_kind" 530 165,
 bt "array_kind" 538 172,
 bt "byref_kind" 546 179,
 bt "boxed_kind" 554 186,
 bt "roref_kind" 562 193,
 bt "raw_kind" 570 200,
 bt "kind_sort" 578 207,
 bt "elem_of" 587 214,
 bt "tid_of" 596 221,
 bt "args_of" 605 228,
 bt "is_value" 613 235,
 bt "is_ref" 622 242,
 bt "is_var" 631 249,
 bt "stack_kind" 638 256,
 cB "SO_NONE" 642 0,
 cB "SO_I4" 644 1,
 cB "SO_I8" 646 2,
 cB "SO_ARG" 648 3,
 cB "SO_LOCAL" 650 4,
 cB "SO_BRANCH" 652 5,
 cB "SO_SWITCH" 654 6,
 cB "SO_KIND" 656 7,
 cB "SO_FIELD" 658 8,
 cB "SO_METHOD" 660 9,
 cB "SO_TEXT" 662 10,
 cB "SO_TOKEN" 664 11,
 bt "OP_SORT" 917 257,
 bt "is_branch" 924 271,
 bt "targets" 931 278,
 cB "S_IFACE" 935 3,
 cB "VA_NONE" 937 0,
 cB "VA_IN" 939 2,
 cB "GB_CLASS" 941 1,
 cB "GB_STRUCT" 943 2,
 cB "MF_STATIC" 945 1,
 cB "MF_CTOR" 947 32,
 cB "T_OBJECT" 949 1,
 cB "T_VALUETYPE" 951 2,
 cB "T_ENUM" 953 3,
 cB "T_ARRAY" 955 5,
 cB "T_NULLABLE" 957 8,
 bt "Body" 992 295,
 bt "VALUE_ROOTS" 995 300,
 bt "SIGNED_TWIN" 1000 301,
 bt "bound_kinds" 1013 308,
 bt "param_is_value" 1022 315,
 bt "surely_class" 1031 322,
 bt "is_iface" 1039 329,
 bt "base_chain" 1049 336,
 bt "all_ifaces" 1060 343,
 bt "add_ifaces" 1073 350,
 bt "stands_for_ref" 1081 357,
 bt "reduced" 1090 364,
 bt "verified" 1098 371,
 bt "is_nullable" 1106 378,
 bt "BareHost" 1193 437,
 cB "MOST_QUESTIONS" 1195 512,
 bt "Book" 1227 458,
 bt "ref_assignable" 1236 469,
 bt "assign_settled" 1247 476,
 bt "settle_book" 1257 483,
 bt "has_proof" 1266 490,
 bt "assign_within" 1277 497,
 bt "assign_look" 1289 504,
 bt "param_within" 1301 511,
 bt "var_within" 1318 518,
 bt "inner_within" 1329 525,
 bt "elems_within" 1339 532,
 bt "common_array" 1348 539,
 bt "common_base" 1364 546,
 cB "VF_EMPTY" 1368 1,
 cB "VF_DEPTH" 1370 3,
 cB "VF_MERGE" 1372 4,
 cB "VF_JUMP" 1374 5,
 cB "VF_LEAVE" 1376 6,
 cB "VF_END" 1378 7,
 cB "VF_HANDLER" 1380 8,
 cB "VF_RET" 1382 9,
 cB "VF_MAX" 1384 20,
 cB "VF_LOCAL" 1386 21,
 cB "VF_OP" 1388 22,
 cB "MOST_ROUNDS" 1390 60,
 bt "VState" 1423 563,
 bt "VOp" 1452 584,
 bt "V" 1579 668,
 bt "pop_kind" 1586 679,
 bt "push_kind" 1594 686,
 bt "is_raw" 1602 693,
 bt "v_is_place" 1611 700,
 bt "v_stack" 1619 707,
 bt "same_store" 1628 714,
 bt "merge_places" 1640 721,
 bt "merge_kinds" 1650 728,
 bt "merge_raw" 1660 735,
 bt "merge_states" 1674 742,
 bt "state_same" 1682 749,
 bt "copy_state" 1688 754,
 bt "flow_edge" 1698 761,
 bt "flow_to" 1710 768,
 bt "wait_for" 1718 775,
 bt "kind_known" 1734 782,
 bt "check_operand" 1743 789,
 cB "RP_TRY" 1747 0,
 cB "RP_FILTER" 1749 1,
 cB "RP_HANDLER" 1751 2,
 bt "RegionTable" 1824 841,
 bt "parts_of" 1837 852,
 bt "apart" 1845 859,
 bt "inside" 1853 866,
 bt "all_apart" 1863 873,
 bt "all_inside" 1874 880,
 bt "clause_right" 1889 887,
 bt "filter_right" 1900 894,
 bt "is_alone" 1907 901,
 bt "pair_right" 1917 908,
 bt "region_faults" 1930 915,
 bt "note_fault" 1939 922,
 bt "part_at" 1953 929,
 bt "region_of" 1964 936,
 bt "is_entry" 1973 943,
 bt "is_catching" 1981 950,
 bt "is_last" 1989 957,
 bt "enters_right" 2001 964,
 bt "exits_right" 2013 971,
 bt "jump_fault" 2026 978,
 bt "stand_fault" 2036 985,
 bt "rethrow_fault" 2046 992,
 bt "end_fault" 2057 999,
 bt "VNop" 2084 1016,
 bt "VPop" 2109 1035,
 bt "is_class_ctor" 2116 1044,
 bt "v_arg_kind" 2124 1051,
 bt "VLdarg" 2150 1068,
 bt "args_with_this" 2163 1077,
 bt "entries_of" 2180 1084,
 bt "make_v" 2191 1091,
 bt "tell" 2200 1098,
 bt "first_init" 2207 1105,
 bt "catch_kind" 2215 1112,
 bt "begin_handler" 2226 1119,
 bt "enter_clause" 2235 1126,
 bt "enter_handlers" 2246 1133,
 bt "check_one" 2258 1140,
 bt "walk" 2267 1147,
 bt "VEnd" 2294 1164,
 bt "VLeave" 2319 1183,
 bt "_law_FILL" 2336 1186,
 bt "_law_OPS" 2348 1187,
 bt "_law_next" 2355 1194,
 bt "_law_block" 2366 1201,
 bt "_law_try" 2383 1208,
 bt "_law_code" 2395 1215,
 bt "_law_parts" 2411 1222,
 bt "_law_shut" 2425 1229,
 bt "_law_stands" 2431 1234,
 bt "_law_on" 2437 1239,
 bt "_law_one" 2458 1246,
 bt "_law_ways" 2464 1251,
 bt "_law_common" 2470 1256,
 bt "_law_fits" 2476 1261,
 bt "_law_entries" 2482 1266,
 bt "law" 2532 1273]:af eqT).map λx=>aq P x.1 x.2.1 x.2.2
def fL:af ar:=[(1,20),(14,27),(19,47),(21,59),(57,73),(106,108),(115,115),(119,122),(125,129),(147,136),(151,143),(155,150),(160,157),(164,164),(168,171),(170,178),(172,185),(174,192),(176,199),(178,206),(180,213),(185,220),(194,227),(199,234),(203,241),(208,248),(211,255),(231,270),(233,277),(252,284),(262,307),(276,314),(286,321),(293,328),(295,335),(303,342),(309,349),(319,356),(321,363),(324,370),(329,377),(332,384),(363,447),(370,468),(372,475),(378,482),(386,489),(393,496),(409,503),(423,510),(431,517),(449,524),(456,531),(462,538),(467,545),(501,552),(507,573),(511,594),(564,678),(568,685),(572,692),(574,699),(577,706),(581,713),(587,720),(598,727),(607,734),(611,741),(628,748),(630,753),(632,760),(640,767),(659,774),(663,781),(690,788),(703,795),(722,851),(727,858),(729,865),(731,872),(737,879),(746,886),(758,893),(766,900),(768,907),(776,914),(788,921),(792,928),(801,935),(808,942),(813,949),(815,956),(817,963),(824,970),(833,977),(843,984),(854,991),(862,998),(872,1005),(876,1024),(880,1043),(882,1050),(886,1057),(895,1076),(905,1083),(916,1090),(922,1097),(925,1104),(929,1111),(936,1118),(943,1125),(951,1132),(957,1139),(974,1146),(986,1153),(990,1172),(998,1193),(1003,1200),(1010,1207),(1031,1214),(1042,1221),(1053,1228),(1066,1233),(1072,1238),(1083,1245),(1115,1250),(1130,1255),(1136,1260),(1162,1265),(1174,1272)].flatMap λp=>[.int p.1 0,.int 0 0,.ref p.2]
def vz(w:cG)(_:cJ)(i:ae):bj:=pick (aH5 w.params) i
def rx(j:ae):eJ:=(b8.main.body.drop j).headD (.Pass ⟨0,0,0,0⟩)
def QH(j m:ae):eJ:=match rx j with| .ClassDef _ _ _ b _ _ _ _ _ _ _=>(b.drop m).headD (.Pass ⟨0,0,0,0⟩)|s=>s
def Iq:eJ->Arguments| .FunctionDef _ a _ _ _ _ _ _ _ _=>a|_=>qz
def QE:eJ->af eJ| .FunctionDef _ _ b _ _ _ _ _ _ _=>b|_=>[]
def aX5:eJ->pC| .FunctionDef _ _ _ _ _ _ s _ _ _=>s|_=>qz
def p7(k t:ae)(v:ar):ts:={hash:=k,key:=.int k t,val:=v}
def stN:eJ->a5| .FunctionDef n _ _ _ _ _ _ _ _ _=>n|_=>qz
def MN(n q:a5)(st:eJ)(pm cd:ar):FuncData:={name:=n,qualname:=q,params:=Iq st,body:=.stmts (QE st),scope:=aX5 st,globals:=3,closure:=[],defaults:=.none,kwdefaults:=.none,pyModule:=pm,code:=cd}
def F'(q:a5)(st:eJ)(pm:ar)(a:ae):bj:={cls:=.type "function",data:=.func (MN (stN st) q st pm (.ref a))}
def LQ(n:a5)(vR:ae)(q:a5)(ln na r8 aN0:ae)(iH iv:ar)(aN1 NI:ae):bj:={cls:=.type "code",data:=.fields #[.str n vR,.str q (vR+1),aM "/claim/cut.py" (vR+2),.int ln 0,.int na 0,.int 0 0,.int 0 0,.int 3 0,.ref r8,.bool ak,.int 181 0,.ref aN0,.none,iH,iv,.ref aN1,.int NI 0,.int ln 0,aM "/claim/cut.py" (NI+1)]}
def MT(M:ar)(st:eJ)(q:a5)(t l n i a:ae):af bj:=[LQ (stN st) t q l n (a - 5) (a - 4) (.ref (a - 3)) (.ref (a - 2)) (a - 1) i,F' q st M a]
def cM(M:ar)(j t l n i a:ae):af bj:=MT M (rx j) (stN (rx j)) t l n i a
def u6(M:ar)(j t l n i a:ae):af bj:=[LQ (stN (rx j)) t (stN (rx j)) l n (a - 3) (a - 2) .none .none (a - 1) i,F' (stN (rx j)) (rx j) M a]
def hz(M:ar)(j m:ae)(q:ht)(t l n i a:ae):af bj:=MT M (QH j m) (iM q) t l n i a
def MS(d:dC ts)(e:ae):bj:={cls:=.type "dict",data:=.dict d e}
def Gd(l:af (ae×ae×ae×ae))(e:ae):bj:=MS ⟨l.map λx=>p7 x.1 x.2.1 (.int x.2.2.1 x.2.2.2)⟩ e
def e1(P:d5)(s:ht)(t r:ae):ts:=aq P s t (.ref r)
def kqD(P:d5)(M:ar)(t l:ae)(ms:af ts)(e:ae):bj:=MS ⟨aq P "__module__" t M::aq P "__firstlineno__" (t+4) (.int l (t+3))::ms⟩ e
def sF(P:d5)(M:ar)(t l:ae)(ms:af ts)(s r u v w:ae):bj:=kqD P M t l (ms++[e1 P "__static_attributes__" s r,e1 P "__dict__" u (r+3),e1 P "__weakref__" v (r+4),aq P "__doc__" w .none]) 4
def N9(P:d5)(M:ar)(t l s r:ae):bj:=kqD P M t l [e1 P "__static_attributes__" s r,aq P "__doc__" (s+1) .none] 2
def zr(P:d5)(M:ar)(t l c r:ae):bj:=kqD P M t l [e1 P "check" c r,e1 P "__static_attributes__" (c+1) (r+1),aq P "__doc__" (c+2) .none] 2
def GZ(s:ht)(b m:af ar)(a:ae)(u:af ar)(o:aw ar)(nw:ht)(t1 lQ:ae):bj:={cls:=.type "type",data:=.cls {name:=iM s,bases:=b,mro:=.ref a::m,ns:=a - 1,qualname:=iM s,subclasses:=u},slots:=#[o,aj,ab (aM s t1),ab (aM s lQ),ab (.builtin nw),ab (.bool ak)]}
def sG(s:ht)(a t1 lQ:ae)(u:af ar):bj:=GZ s [.type "object"] [.type "object"] a u aj "object.__new__" t1 lQ
def G0(s:ht)(a t1 lQ o:ae)(b:ar)(m u:af ar):bj:=GZ s [b] (m++[.type "Exception",.type "BaseException",.type "object"]) a u (ab (.ref o)) "Exception.__new__" t1 lQ
def zt(s:ht)(a t1 lQ o:ae):bj:=GZ s [.ref 584] [.ref 584,.type "object"] a [] (ab (.ref o)) "object.__new__" t1 lQ
def CZ(l:af ar):bj:=G0 "RuneError" 38 214 222 22 (.type "Exception") [] l
def vV(l:af ar):bj:=sG "VOp" 584 1424 1432 l
def CA(w:cG)(os:cJ):=dB 350 (bW vz 15 187) (eW 0 12) ⟨0,0,0,0⟩ w os
def Hq(w:cG)(os:cJ)(i:ae):bj:=(if1 (cf i 3) (fD (ents w.params (vu)) 20 20) (if1 (cf i 12) (fld fL 6) (if1 (cf i 2) (QG w.params) (if1 (cf i 38) (CZ []) (if1 (dy i 15) (vz w os i) (thk (CA w os) i))))))
def FF(P:d5):af bj:=[hz vu 11 0 "RuneError.__init__" 226 16 3 232 34,
 [kqD P vu 221 14 [e1 P "__init__" 234 35,e1 P "__static_attributes__" 237 36,e1 P "__weakref__" 239 39,aq P "__doc__" 240 .none] 3]].flatten
def uF:af ae:=[34,35,37]
def CB(w:cG)(os:cJ):=dB 214 (bW Hq 42 245) (eW 12 1) ⟨14,0,18,20⟩ w os
def Hz(w:cG)(os:cJ)(i:ae):bj:=(if1 (cf i 3) (fD (ents w.params (vu)) 21 21) (if1 (cf i 12) (fld fL 9) (if1 (cf i 38) (CZ [.ref 51]) (if1 (dy i 42) (Hq w os i) (thk (CB w os) i)))))
def FG(P:d5):af bj:=[[N9 P vu 252 19 257 49],
 [G0 "BadKind" 51 245 253 42 (.ref 38) [(.ref 38)] []]].flatten
def uG:af ae:=[50,51]
def CJ(w:cG)(os:cJ):=dB 394 (bW Hz 54 261) (eW 13 21) ⟨19,0,20,8⟩ w os
def HK(w:cG)(os:cJ)(i:ae):bj:=(if1 (cf i 3) (fD (ents w.params (dM)) 41 41) (if1 (cf i 12) (fld fL 12) (if1 (cf i 38) (CZ [.ref 51,.ref 63]) (if1 (dy i 54) (Hz w os i) (thk (CJ w os) i)))))
def FP(P:d5):af bj:=[[N9 P vu 268 21 273 61],
 [G0 "VerifyFault" 63 261 269 54 (.ref 38) [(.ref 38)] []]].flatten
def uO:af ae:=[62,63]
def Ig(w:cG)(os:cJ):=dB 100 (bW HK 66 317) (eW 34 11) ⟨42,0,42,7⟩ w os
def HN(w:cG)(os:cJ)(i:ae):bj:=(if1 (cf i 3) (fD (ents w.params (dM)) 52 52) (if1 (cf i 12) (fld fL 12) (if1 (dy i 66) (HK w os i) (thk (Ig w os) i))))
def ai8(P:d5):af bj:=[].flatten
def ae5:af ae:=[]
def xw(w:cG)(os:cJ):=dB 207 (bW HN 66 339) (eW 45 1) ⟨53,0,53,13⟩ w os
def Co(w:cG)(os:cJ)(i:ae):bj:=(if1 (cf i 3) (fD (ents w.params (dM)) 53 53) (if1 (cf i 12) (fld fL 12) (if1 (dy i 66) (HN w os i) (thk (xw w os) i))))
def BF(P:d5):af bj:=[[Gd [(0,279,20,339),(1,281,9,340),(2,283,10,341),(3,285,11,342),(4,287,12,343),(5,289,13,344),(6,291,14,345),(7,293,15,346),(8,295,16,347),(9,297,17,348),(10,299,18,349),(11,301,19,350),(12,303,1,351),(13,305,4,352)] 14]].flatten
def sl:af ae:=[66]
def xx(w:cG)(os:cJ):=dB 216 (bW Co 67 368) (eW 46 2) ⟨54,0,54,8⟩ w os
def Cp(w:cG)(os:cJ)(i:ae):bj:=(if1 (cf i 3) (fD (ents w.params (dM)) 55 55) (if1 (cf i 12) (fld fL 12) (if1 (dy i 67) (Co w os i) (thk (xx w os) i))))
def BG(P:d5):af bj:=[[Gd [(20,368,0,279),(9,369,1,281),(10,370,2,283),(11,371,3,285),(12,372,4,287),(13,373,5,289),(14,374,6,291),(15,375,7,293),(16,376,8,295),(17,377,9,297),(18,378,10,299),(19,379,11,301),(1,380,12,303),(4,381,13,305)] 14]].flatten
def sm:af ae:=[67]
def CW(w:cG)(os:cJ):=dB 387 (bW Cp 68 399) (eW 48 4) ⟨56,0,56,9⟩ w os
def HO(w:cG)(os:cJ)(i:ae):bj:=(if1 (cf i 3) (fD (ents w.params (dM)) 59 59) (if1 (cf i 12) (fld fL 24) (if1 (dy i 68) (Cp w os i) (thk (CW w os) i))))
def F3(P:d5):af bj:=[hz dM 48 0 "KindTable.__init__" 411 59 1 417 80,
 hz dM 48 1 "KindTable.row" 420 73 2 425 87,
 hz dM 48 2 "KindTable.put" 428 78 2 440 94,
 [sF P dM 406 57 [e1 P "__init__" 419 81,e1 P "row" 427 88,e1 P "put" 442 95] 448 96 450 452 453],
 [sG "KindTable" 98 399 407 []],
 cM dM 49 456 106 1 461 108,
 cM dM 50 464 115 1 468 115,
 cM dM 51 471 119 1 475 122].flatten
def u1:af ae:=[80,81,87,88,94,95,97,98,108,109,115,116,122,123]
def CX(w:cG)(os:cJ):=dB 397 (bW HO 124 478) (eW 52 13) ⟨119,0,124,12⟩ w os
def HP(w:cG)(os:cJ)(i:ae):bj:=(if1 (cf i 3) (fD (ents w.params (dM)) 72 72) (if1 (cf i 12) (fld fL 63) (if1 (dy i 124) (HO w os i) (thk (CX w os) i))))
def F4(P:d5):af bj:=[cM dM 52 478 125 2 485 129,
 cM dM 53 488 147 2 493 136,
 cM dM 54 496 151 2 502 143,
 cM dM 55 505 155 2 511 150,
 cM dM 56 514 160 3 520 157,
 cM dM 57 523 164 2 528 164,
 cM dM 59 539 170 2 544 178,
 cM dM 60 547 172 2 552 185,
 cM dM 62 563 176 2 568 199,
 cM dM 63 571 178 2 576 206].flatten
def u2:af ae:=[129,130,136,137,143,144,150,151,157,158,164,165,178,179,185,186,199,200,206,207]
def CY(w:cG)(os:cJ):=dB 301 (bW HP 215 588) (eW 65 19) ⟨180,0,184,13⟩ w os
def Cq(w:cG)(os:cJ)(i:ae):bj:=(if1 (cf i 3) (fD (ents w.params (zC)) 90 90) (if1 (cf i 12) (fld fL 81) (if1 (dy i 215) (HP w os i) (thk (CY w os) i))))
def F5(P:d5):af bj:=[cM dM 65 588 185 2 594 220,
 cM dM 66 597 194 2 603 227,
 cM dM 67 606 199 2 611 234,
 cM dM 68 614 203 2 620 241,
 cM dM 69 623 208 2 629 248,
 cM dM 70 632 211 1 636 255].flatten
def u3:af ae:=[220,221,227,228,234,235,241,242,248,249,255,256]
abbrev EI:=aw (fq ar)×fq ar
abbrev jJ:=aw a8×af (fq ar×fq ar)
theorem bm9{F:Type}{G:Type}{P:F->G->Prop}(f:F)(g:G)(h:P f g):P f g:=h
def mK:{p:(EI->jJ->fq (ForInStep jJ))×(jJ->fq ar)//∀items:af EI,DJ items=(kJ items ((aj,[]):jJ) p.1 >>= p.2)}:=by
 apply Subtype.mk
 intro items
 unfold DJ
 dsimp only
 refine Eq.refl (kJ items ((aj,[]):jJ) (Prod.mk _ _).1 >>=(Prod.mk _ _).2)
theorem Ga{α β:Type}(f:α->β->fq (ForInStep β)):∀(l1 d2:af α)(b:β),(∀x∈l1,∀b,∃m:fq β,f x b=m >>=λcL=>br (qF cL))->kJ (l1++d2) b f=(kJ l1 b f >>=λcL=>kJ d2 cL f)
 |[],d2,b,_=>by simp
 |x::l1,d2,b,hf=>by
  obtain⟨m,hm⟩:=hf x (dI ..) b
  rw[Tt,pK,pK,hm]
  simp only[xY,Dw]
  congr 1
  funext cL
  exact Ga f l1 d2 cL λy aQ=>hf y (iL _ aQ)
theorem bh3(m:fq (aw a8)):∃m':fq jJ,(m >>=λmain=>br (qF ((main,[]):jJ)))=m' >>=λcL=>br (qF cL):=
 ⟨m >>=λmain=>br (main,[]),by rw[xY];simp only[Dw]⟩
theorem Mc(k v:fq ar)(b:jJ):∃m:fq jJ,mK.1.1 (ab k,v) b=m >>=λcL=>br (qF cL):=by
 by_cases c:((b.2++[(k,v)]).length==17)=ak
 ·show∃m:fq jJ,(if((b.2++[(k,v)]).length==17)=ak then _ else _)=_
  rw[bk c]
  exact bh3 _
 ·refine⟨br (b.1,b.2++[(k,v)]),?_⟩
  show(if((b.2++[(k,v)]).length==17)=ak then _ else _)=_
  rw[bh c,Dw]
def z9:eJ:=(b8.main.body.drop 84).headD (.Pass ⟨0,0,0,0⟩)
def Dg:af Expr:=match z9 with| .Assign t _ _=>t|_=>[]
def C6:el:=match z9 with| .Assign _ _ p=>p|_=>⟨0,0,0,0⟩
def B3:af (aw Expr):=match z9 with| .Assign _ (.Dict k _ _) _=>k|_=>[]
def Dm:af Expr:=match z9 with| .Assign _ (.Dict _ v _) _=>v|_=>[]
def w2:el:=match z9 with| .Assign _ (.Dict _ _ p) _=>p|_=>⟨0,0,0,0⟩
theorem aR1:eW 84 1=[.Assign Dg (.Dict B3 Dm w2) C6]:=by kernel_rfl
def nx:af EI:=(R' B3 b0).zip ((Jk Dm b0).map λv=>do let x←v;pG w2;br x)
def GX(v:ar):fq jE:=(Sl Dg (.Dict B3 Dm w2) b0 >>=λsw=>assignStores b0 v sw ((Av Dg b0).map (·.2)))>>=λf=>match f with| .next=>v9 [] b0|f=>br f
theorem aY9:swapsWithSole Dg (.Dict B3 Dm w2) C6.line b0=br av:=by kernel_rfl
theorem bh2:v9 (eW 84 1) b0=(pG C6 >>=λU=>pG w2 >>=λU=>DJ nx)>>= GX:=by
 rw[aR1,execs_cons,arm_exec_Assign,aY9,arm_eval_Dict]
 simp only[xY,Dw,SN,if_false]
 rfl
theorem aV8:(nx.take 68).all (·.1.isSome)=ak:=by kernel_rfl
def Dp:fq jJ:=pG C6 >>=λU=>pG w2 >>=λU=>kJ (nx.take 68) ((aj,[]):jJ) mK.1.1
def zV(b:jJ):fq jE:=(kJ (nx.drop 68) b mK.1.1 >>= mK.1.2)>>= GX
theorem bh5:v9 (eW 84 1) b0=Dp >>= zV:=by
 rw[bh2]
 have e:DJ nx=kJ (nx.take 68) ((aj,[]):jJ) mK.1.1 >>=λb=>kJ (nx.drop 68) b mK.1.1 >>= mK.1.2:=by
  rw[mK.2,←xY,←Ga,Ep]
  intro x aE b
  have:=iK.mp aV8 x aE
  obtain⟨k,v⟩:=x
  obtain⟨k,rfl⟩:=EA.mp this
  exact Mc k v b
 rw[e]
 unfold Dp zV
 simp only[xY]
def Md:af (ae×ae×ae×ae):=[(0,665,0,641),(20,667,0,641),(32,669,1,643),(33,671,2,645),(37,673,0,641),(38,675,0,641),(40,677,9,659),(42,679,0,641),(56,681,5,651),(57,683,5,651),(58,685,5,651),(59,687,5,651),(60,689,5,651),(61,691,5,651),(62,693,5,651),(63,695,5,651),(64,697,5,651),(65,699,5,651),(66,701,5,651),(67,703,5,651),(68,705,5,651),(69,707,6,653),(70,709,0,641),(71,711,0,641),(72,713,0,641),(73,715,0,641),(74,717,0,641),(75,719,0,641),(76,721,0,641),(77,723,0,641),(80,725,0,641),(81,727,0,641),(82,729,0,641),(83,731,0,641),(84,733,0,641),(85,735,0,641),(88,737,0,641),(89,739,0,641),(90,741,0,641),(91,743,0,641),(92,745,0,641),(93,747,0,641),(94,749,0,641),(95,751,0,641),(96,753,0,641),(97,755,0,641),(98,757,0,641),(99,759,0,641),(100,761,0,641),(101,763,0,641),(102,765,0,641),(103,767,0,641),(104,769,0,641),(105,771,0,641),(106,773,0,641),(109,775,0,641),(110,777,0,641),(111,779,9,659),(113,781,7,655),(114,783,10,661),(115,785,9,659),(116,787,7,655),(117,789,7,655),(121,791,7,655),(122,793,0,641),(123,795,8,657),(124,797,8,657),(125,799,8,657),(126,801,8,657),(127,803,8,657),(128,805,8,657),(129,807,7,655),(130,809,0,641),(131,811,0,641),(132,813,0,641),(133,815,0,641),(134,817,0,641),(135,819,0,641),(136,821,0,641),(137,823,0,641),(140,825,7,655),(141,827,7,655),(142,829,0,641),(143,831,7,655),(163,833,7,655),(164,835,7,655),(165,837,7,655),(179,839,0,641),(180,841,0,641),(181,843,0,641),(182,845,0,641),(183,847,0,641),(184,849,0,641),(185,851,0,641),(186,853,0,641),(208,855,11,663),(209,857,0,641),(210,859,0,641),(211,861,0,641),(214,863,0,641),(215,865,0,641),(216,867,0,641),(217,869,0,641),(218,871,0,641),(219,873,0,641),(220,875,0,641),(221,877,5,651),(223,879,0,641),(65025,881,0,641),(65026,883,0,641),(65027,885,0,641),(65028,887,0,641),(65029,889,0,641),(65030,891,9,659),(65031,893,9,659),(65033,895,3,647),(65034,897,3,647),(65035,899,3,647),(65036,901,4,649),(65037,903,4,649),(65038,904,4,649),(65041,905,0,641),(65045,906,7,655),(65046,907,7,655),(65050,908,0,641),(65054,909,0,641)]
def Bt(m e:ae):bj:={cls:=.type "dict",data:=.dict ⟨(Md.take m).map λx=>{hash:=x.1,key:=.int x.1 x.2.1,val:=.int x.2.2.1 x.2.2.2}⟩ e}
def Cy(b:jJ):jE:=match b with|(ab d,[])=>.ret (.ref d)|_=>.next
def xy(w:cG)(os:cJ):aw (jE×tw×v3×el):=
 AI rL b8 w 11 (ab (.ref 6)) 1 1300 (bW Cq 257 665 w os) ⟨Dp.wrap (λa=>.pure (.done (Cy a))) Jc id id,.body cq b0,⟨229,0,229,8⟩,[DE ⟨0,0,0,0⟩]⟩
def vA(w:cG)(os:cJ)(i:ae):bj:=(if1 (cf i 257) (Bt 68 68) (if1 (dy i 257) (Cq w os i) (thk (xy w os) i)))
theorem aV9:((nx.drop 68).take 34).all (·.1.isSome)=ak:=by kernel_rfl
def I3(b:jJ):fq jJ:=kJ ((nx.drop 68).take 34) b mK.1.1
def H4(b:jJ):fq jE:=(kJ ((nx.drop 68).drop 34) b mK.1.1 >>= mK.1.2)>>= GX
theorem bh6(b:jJ):zV b=I3 b >>= H4:=by
 have e:kJ (nx.drop 68) b mK.1.1=kJ ((nx.drop 68).take 34) b mK.1.1 >>=λb=>kJ ((nx.drop 68).drop 34) b mK.1.1:=by
  rw[←Ga,Ep]
  intro x aE b
  have:=iK.mp aV9 x aE
  obtain⟨k,v⟩:=x
  obtain⟨k,rfl⟩:=EA.mp this
  exact Mc k v b
 unfold zV I3 H4
 rw[e]
 simp only[xY]
def xA(w:cG)(os:cJ):aw (jE×tw×v3×el):=
 AI rL b8 w 11 (ab (.ref 6)) 1 1300 (bW vA 261 801 w os) ⟨(I3 (ab 257,[])).wrap (λa=>.pure (.done (Cy a))) Jc id id,.body cq b0,⟨230,10,230,1804⟩,[DE ⟨0,0,0,0⟩]⟩
def vB(w:cG)(os:cJ)(i:ae):bj:=(if1 (cf i 257) (Bt 102 102) (if1 (dy i 261) (vA w os i) (thk (xA w os) i)))
def xB(w:cG)(os:cJ):aw (jE×tw×v3×el):=
 AI rL b8 w 11 (ab (.ref 6)) 1 1300 (bW vB 263 869 w os) ⟨(H4 (ab 257,[])).wrap doneF Jc id id,.body cq b0,⟨230,10,230,1804⟩,[DE ⟨0,0,0,0⟩]⟩
def aH4(w:cG)(os:cJ)(i:ae):bj:=(if1 (cf i 3) (fD (ents w.params (aM "framerune.ops" 639)) 91 91) (if1 (cf i 257) (Bt 126 126) (if1 (dy i 263) (vB w os i) (thk (xB w os) i))))
def sU(w:cG)(os:cJ)(i:ae):bj:=aH4 w os i
def CC(w:cG)(os:cJ):=dB 176 (bW sU 265 918) (eW 85 15) ⟨230,0,230,7⟩ w os
def Hr(w:cG)(os:cJ)(i:ae):bj:=(if1 (cf i 3) (fD (ents w.params (Ca)) 105 105) (if1 (cf i 12) (fld fL 87) (if1 (dy i 265) (sU w os i) (thk (CC w os) i))))
def FH(P:d5):af bj:=[cM zC 85 918 231 1 922 270,
 cM zC 86 925 233 1 929 277].flatten
def uH:af ae:=[270,271,277,278]
def CD(w:cG)(os:cJ):=dB 254 (bW Hr 279 958) (eW 100 3) ⟨251,0,251,10⟩ w os
def Hs(w:cG)(os:cJ)(i:ae):bj:=(if1 (cf i 3) (fD (ents w.params (sR)) 107 107) (if1 (cf i 12) (fld fL 90) (if1 (dy i 279) (Hr w os i) (thk (CD w os) i))))
def FI(P:d5):af bj:=[hz Ca 100 0 "Body.__init__" 970 254 5 978 291,
 [sF P Ca 965 252 [e1 P "__init__" 980 292] 985 293 987 989 990],
 [sG "Body" 295 958 966 []],
 [{cls:=(.type "tuple"),data:=.seq #[(.int 1 948),(.int 2 950),(.int 3 952)] 0}]].flatten
def uI:af ae:=[291,292,294,295,300]
def xv(w:cG)(os:cJ):=dB 389 (bW Hs 301 996) (eW 103 11) ⟨260,0,260,11⟩ w os
def Cn(w:cG)(os:cJ)(i:ae):bj:=(if1 (cf i 3) (fD (ents w.params (sR)) 118 118) (if1 (cf i 12) (fld fL 120) (if1 (dy i 301) (Hs w os i) (thk (xv w os) i))))
def BE(P:d5):af bj:=[[Gd [(4,287,3,285),(6,291,5,289),(8,295,7,293),(10,299,9,297)] 4],
 cM sR 104 1001 262 2 1011 307,
 cM sR 106 1023 286 2 1029 321,
 cM sR 107 1032 293 2 1037 328].flatten
def sk:af ae:=[301,307,308,321,322,328,329]
def Ic(w:cG)(os:cJ):=dB 40 (bW Cn 372 1099) (eW 114 2) ⟨324,0,328,33⟩ w os
def Ht(w:cG)(os:cJ)(i:ae):bj:=(if1 (cf i 3) (fD (ents w.params (jA)) 119 119) (if1 (cf i 12) (fld fL 123) (if1 (dy i 372) (Cn w os i) (thk (Ic w os) i))))
def ai6(P:d5):af bj:=[].flatten
def ae3:af ae:=[]
def CE(w:cG)(os:cJ):=dB 423 (bW Ht 379 1109) (eW 116 1) ⟨331,0,331,8⟩ w os
def Hu(w:cG)(os:cJ)(i:ae):bj:=(if1 (cf i 3) (fD (ents w.params (jA)) 120 120) (if1 (cf i 12) (fld fL 126) (if1 (dy i 379) (Ht w os i) (thk (CE w os) i))))
def FJ(P:d5):af bj:=[hz jA 116 0 "BareHost.__init__" 1121 334 2 1126 391,
 hz jA 116 1 "BareHost.base" 1129 345 2 1134 398,
 hz jA 116 3 "BareHost.sort" 1145 351 2 1150 412,
 hz jA 116 5 "BareHost.under" 1161 357 2 1166 426,
 [sF P jA 1116 332 [e1 P "__init__" 1128 392,e1 P "base" 1136 399,e1 P "ifaces_at" 1144 406,e1 P "sort" 1152 413,e1 P "variance" 1160 420,e1 P "under" 1168 427,e1 P "has_new" 1176 434] 1186 435 1188 1190 1191],
 [sG "BareHost" 437 1109 1117 []]].flatten
def uJ:af ae:=[391,392,398,399,412,413,426,427,436,437]
def CF(w:cG)(os:cJ):=dB 395 (bW Hu 442 1194) (eW 117 7) ⟨332,0,361,16⟩ w os
def Hv(w:cG)(os:cJ)(i:ae):bj:=(if1 (cf i 3) (fD (ents w.params (jA)) 127 127) (if1 (cf i 12) (fld fL 144) (if1 (dy i 442) (Hu w os i) (thk (CF w os) i))))
def FK(P:d5):af bj:=[hz jA 118 0 "Book.__init__" 1208 365 2 1213 454,
 [sF P jA 1203 363 [e1 P "__init__" 1215 455] 1220 456 1222 1224 1225],
 [sG "Book" 458 1196 1204 []],
 cM jA 119 1228 370 3 1234 468,
 cM jA 120 1237 372 4 1245 475,
 cM jA 123 1267 393 4 1275 496].flatten
def uK:af ae:=[454,455,457,458,468,469,475,476,496,497]
def Ie(w:cG)(os:cJ):=dB 359 (bW Hv 498 1278) (eW 124 20) ⟨393,0,408,32⟩ w os
def Hw(w:cG)(os:cJ)(i:ae):bj:=(if1 (cf i 3) (fD (ents w.params (dx)) 146 146) (if1 (cf i 12) (fld fL 165) (if1 (dy i 498) (Hv w os i) (thk (Ie w os) i))))
def ai7(P:d5):af bj:=[].flatten
def ae4:af ae:=[]
def CG(w:cG)(os:cJ):=dB 227 (bW Hw 547 1391) (eW 144 1) ⟨500,0,500,11⟩ w os
def Hx(w:cG)(os:cJ)(i:ae):bj:=(if1 (cf i 3) (fD (ents w.params (dx)) 147 147) (if1 (cf i 12) (fld fL 168) (if1 (dy i 547) (Hw w os i) (thk (CG w os) i))))
def FL(P:d5):af bj:=[hz dx 144 0 "VState.__init__" 1403 503 4 1410 559,
 [sF P dx 1398 501 [e1 P "__init__" 1412 560] 1416 561 1418 1420 1421],
 [sG "VState" 563 1391 1399 []]].flatten
def uL:af ae:=[559,560,562,563]
def CH(w:cG)(os:cJ):=dB 223 (bW Hx 568 1424) (eW 145 1) ⟨501,0,506,24⟩ w os
def Hy(w:cG)(os:cJ)(i:ae):bj:=(if1 (cf i 3) (fD (ents w.params (dx)) 148 148) (if1 (cf i 12) (fld fL 171) (if1 (cf i 584) (vV []) (if1 (dy i 568) (Hx w os i) (thk (CH w os) i)))))
def FN(P:d5):af bj:=[[sF P dx 1431 507 [e1 P "check" 1444 581] 1445 582 1447 1449 1450]].flatten
def uM:af ae:=[583]
def CI(w:cG)(os:cJ):=dB 537 (bW Hy 589 1453) (eW 146 1) ⟨507,0,510,38⟩ w os
def HA(w:cG)(os:cJ)(i:ae):bj:=(if1 (cf i 3) (fD (ents w.params (dx)) 149 149) (if1 (cf i 12) (fld fL 174) (if1 (dy i 589) (Hy w os i) (thk (CI w os) i))))
def FO(P:d5):af bj:=[hz dx 146 0 "V.__init__" 1465 513 6 1474 601,
 hz dx 146 1 "V.pop" 1477 538 1 1481 608,
 hz dx 146 3 "V.push" 1491 544 2 1496 622,
 hz dx 146 4 "V.fault" 1499 547 2 1504 629,
 hz dx 146 7 "V.jump" 1525 556 2 1530 650,
 hz dx 146 8 "V.leave" 1533 559 2 1538 657,
 hz dx 146 9 "V.operand" 1541 562 2 1546 664,
 [sF P dx 1460 511 [e1 P "__init__" 1476 602,e1 P "pop" 1483 609,e1 P "use" 1490 616,e1 P "push" 1498 623,e1 P "fault" 1506 630,e1 P "reads_as" 1515 637,e1 P "need" 1524 644,e1 P "jump" 1532 651,e1 P "leave" 1540 658,e1 P "operand" 1548 665] 1572 666 1574 1576 1577],
 [sG "V" 668 1453 1461 []]].flatten
def uN:af ae:=[601,602,608,609,622,623,629,630,650,651,657,658,664,665,667,668]
def CK(w:cG)(os:cJ):=dB 372 (bW HA 673 1580) (eW 147 12) ⟨511,0,563,30⟩ w os
def HB(w:cG)(os:cJ)(i:ae):bj:=(if1 (cf i 3) (fD (ents w.params (dx)) 161 161) (if1 (cf i 12) (fld fL 210) (if1 (dy i 673) (HA w os i) (thk (CK w os) i))))
def FQ(P:d5):af bj:=[cM dx 147 1580 564 1 1584 678,
 cM dx 148 1587 568 2 1592 685,
 cM dx 149 1595 572 2 1600 692,
 cM dx 150 1603 574 2 1609 699,
 cM dx 151 1612 577 2 1617 706,
 cM dx 154 1641 598 3 1648 727,
 cM dx 155 1651 607 4 1658 734,
 cM dx 156 1661 611 3 1672 741,
 cM dx 157 1675 628 2 1680 748,
 u6 dx 158 1683 630 1 1686 753].flatten
def uP:af ae:=[678,679,685,686,692,693,699,700,706,707,727,728,734,735,741,742,748,749,753,754]
def CL(w:cG)(os:cJ):=dB 202 (bW HB 755 1689) (eW 159 9) ⟨630,0,631,50⟩ w os
def HC(w:cG)(os:cJ)(i:ae):bj:=(if1 (cf i 3) (fD (ents w.params (fl)) 169 169) (if1 (cf i 12) (fld fL 225) (if1 (dy i 755) (HB w os i) (thk (CL w os) i))))
def FR(P:d5):af bj:=[cM dx 159 1689 632 3 1696 760,
 cM dx 160 1699 640 3 1708 767,
 cM dx 161 1711 659 2 1716 774,
 cM dx 162 1719 663 4 1732 781,
 cM dx 163 1735 690 2 1741 788].flatten
def uQ:af ae:=[760,761,767,768,774,775,781,782,788,789]
def CM(w:cG)(os:cJ):=dB 387 (bW HC 790 1752) (eW 168 1) ⟨702,0,702,10⟩ w os
def HD(w:cG)(os:cJ)(i:ae):bj:=(if1 (cf i 3) (fD (ents w.params (fl)) 170 170) (if1 (cf i 12) (fld fL 228) (if1 (dy i 790) (HC w os i) (thk (CM w os) i))))
def FT(P:d5):af bj:=[hz fl 168 0 "RegionTable.__init__" 1764 705 2 1769 802,
 hz fl 168 2 "RegionTable.jump" 1780 711 5 1788 816,
 hz fl 168 3 "RegionTable.place" 1791 714 3 1797 823,
 hz fl 168 4 "RegionTable.entry" 1800 717 2 1805 830,
 [sF P fl 1759 703 [e1 P "__init__" 1771 803,e1 P "at" 1779 810,e1 P "jump" 1790 817,e1 P "place" 1799 824,e1 P "entry" 1807 831,e1 P "faults" 1815 838] 1817 839 1819 1821 1822],
 [sG "RegionTable" 841 1752 1760 []]].flatten
def uR:af ae:=[802,803,816,817,823,824,830,831,840,841]
def CN(w:cG)(os:cJ):=dB 394 (bW HD 846 1825) (eW 169 12) ⟨703,0,721,48⟩ w os
def HE(w:cG)(os:cJ)(i:ae):bj:=(if1 (cf i 3) (fD (ents w.params (fl)) 182 182) (if1 (cf i 12) (fld fL 264) (if1 (dy i 846) (HD w os i) (thk (CN w os) i))))
def FU(P:d5):af bj:=[cM fl 176 1901 766 1 1905 900,
 cM fl 180 1940 792 2 1951 928].flatten
def uS:af ae:=[900,901,928,929]
def CO(w:cG)(os:cJ):=dB 334 (bW HE 930 1954) (eW 181 11) ⟨792,0,800,13⟩ w os
def HF(w:cG)(os:cJ)(i:ae):bj:=(if1 (cf i 3) (fD (ents w.params (lM)) 192 192) (if1 (cf i 12) (fld fL 294) (if1 (dy i 930) (HE w os i) (thk (CO w os) i))))
def FV(P:d5):af bj:=[cM fl 181 1954 801 2 1962 935,
 cM fl 182 1965 808 2 1971 942,
 cM fl 183 1974 813 2 1979 949,
 cM fl 184 1982 815 2 1987 956,
 cM fl 185 1990 817 4 1999 963,
 cM fl 186 2002 824 4 2011 970,
 cM fl 187 2014 833 5 2024 977,
 cM fl 188 2027 843 3 2034 984,
 cM fl 189 2037 854 2 2044 991,
 cM fl 190 2047 862 3 2055 998].flatten
def uT:af ae:=[935,936,942,943,949,950,956,957,963,964,970,971,977,978,984,985,991,992,998,999]
def CP(w:cG)(os:cJ):=dB 246 (bW HF 1000 2060) (eW 192 1) ⟨871,0,871,8⟩ w os
def HG(w:cG)(os:cJ)(i:ae):bj:=(if1 (cf i 3) (fD (ents w.params (lM)) 193 193) (if1 (cf i 12) (fld fL 297) (if1 (cf i 584) (vV [.ref 1016]) (if1 (dy i 1000) (HF w os i) (thk (CP w os) i)))))
def FW(P:d5):af bj:=[hz lM 192 0 "VNop.check" 2072 874 3 2078 1012,
 [zr P lM 2067 872 2080 1013],
 [zt "VNop" 1016 2060 2068 1000]].flatten
def uU:af ae:=[1012,1013,1015,1016]
def CQ(w:cG)(os:cJ):=dB 305 (bW HG 1019 2085) (eW 193 3) ⟨872,0,875,14⟩ w os
def HH(w:cG)(os:cJ)(i:ae):bj:=(if1 (cf i 3) (fD (ents w.params (lM)) 196 196) (if1 (cf i 12) (fld fL 306) (if1 (cf i 584) (vV [.ref 1016,.ref 1035]) (if1 (dy i 1019) (HG w os i) (thk (CQ w os) i)))))
def FX(P:d5):af bj:=[hz lM 193 0 "VPop.check" 2097 878 3 2103 1031,
 [zr P lM 2092 876 2105 1032],
 [zt "VPop" 1035 2085 2093 1019],
 cM lM 194 2110 880 1 2114 1043,
 cM lM 195 2117 882 2 2122 1050].flatten
def uV:af ae:=[1031,1032,1034,1035,1043,1044,1050,1051]
def CR(w:cG)(os:cJ):=dB 392 (bW HH 1052 2125) (eW 196 6) ⟨882,0,885,20⟩ w os
def HI(w:cG)(os:cJ)(i:ae):bj:=(if1 (cf i 3) (fD (ents w.params (iU)) 201 201) (if1 (cf i 12) (fld fL 321) (if1 (cf i 584) (vV [.ref 1016,.ref 1035,.ref 1068]) (if1 (dy i 1052) (HH w os i) (thk (CR w os) i)))))
def FY(P:d5):af bj:=[hz lM 196 0 "VLdarg.check" 2137 888 3 2144 1064,
 [zr P lM 2132 886 2146 1065],
 [zt "VLdarg" 1068 2125 2133 1052],
 cM iU 198 2153 895 3 2161 1076,
 cM iU 199 2164 905 1 2178 1083,
 cM iU 200 2181 916 4 2189 1090,
 cM iU 201 2192 922 3 2198 1097].flatten
def uW:af ae:=[1064,1065,1067,1068,1076,1077,1083,1084,1090,1091,1097,1098]
def CS(w:cG)(os:cJ):=dB 231 (bW HI 1099 2201) (eW 202 8) ⟨922,0,924,33⟩ w os
def HJ(w:cG)(os:cJ)(i:ae):bj:=(if1 (cf i 3) (fD (ents w.params (sQ)) 208 208) (if1 (cf i 12) (fld fL 342) (if1 (dy i 1099) (HI w os i) (thk (CS w os) i))))
def FZ(P:d5):af bj:=[cM iU 202 2201 925 1 2205 1104,
 cM iU 203 2208 929 2 2213 1111,
 cM iU 204 2216 936 4 2224 1118,
 cM iU 205 2227 943 3 2233 1125,
 cM iU 206 2236 951 2 2244 1132,
 cM iU 207 2247 957 2 2256 1139,
 cM iU 208 2259 974 1 2265 1146].flatten
def uX:af ae:=[1104,1105,1111,1112,1118,1119,1125,1126,1132,1133,1139,1140,1146,1147]
def CT(w:cG)(os:cJ):=dB 246 (bW HJ 1148 2270) (eW 210 1) ⟨985,0,985,8⟩ w os
def HL(w:cG)(os:cJ)(i:ae):bj:=(if1 (cf i 3) (fD (ents w.params (sQ)) 209 209) (if1 (cf i 12) (fld fL 345) (if1 (cf i 584) (vV [.ref 1016,.ref 1035,.ref 1068,.ref 1164]) (if1 (dy i 1148) (HJ w os i) (thk (CT w os) i)))))
def F0(P:d5):af bj:=[hz sQ 210 0 "VEnd.check" 2282 988 3 2288 1160,
 [zr P sQ 2277 986 2290 1161],
 [zt "VEnd" 1164 2270 2278 1148]].flatten
def uY:af ae:=[1160,1161,1163,1164]
def CU(w:cG)(os:cJ):=dB 401 (bW HL 1167 2295) (eW 211 7) ⟨986,0,989,24⟩ w os
def HM(w:cG)(os:cJ)(i:ae):bj:=(if1 (cf i 3) (fD (ents w.params (fN)) 215 215) (if1 (cf i 12) (fld fL 357) (if1 (cf i 584) (vV [.ref 1016,.ref 1035,.ref 1068,.ref 1164,.ref 1183]) (if1 (dy i 1167) (HL w os i) (thk (CU w os) i)))))
def F1(P:d5):af bj:=[hz sQ 211 0 "VLeave.check" 2307 992 3 2313 1179,
 [zr P sQ 2302 990 2315 1180],
 [zt "VLeave" 1183 2295 2303 1167],
 [{cls:=(.type "tuple"),data:=.seq #[(.int 148 2322),(.int 7 2323),(.int 69 2324),(.int 5 2325),(.int 737 2326),(.int 2 2327),(.int 3 2328),(.int 5 2329),(.int 64 2330),(.int 77 2331),(.int 0 2332),(.int 94 2333),(.int 6 2334),(.int 3 2335)] 0}],
 [{cls:=(.type "tuple"),data:=.seq #[(.int 0 2337),(.int 38 2338),(.int 65033 2339),(.int 122 2340),(.int 221 2341),(.int 65050 2342),(.int 220 2343),(.int 0 2344),(.int 69 2345),(.int 57 2346),(.int 65041 2347)] 0}],
 cM fN 215 2349 998 1 2353 1193,
 cM fN 216 2356 1003 3 2364 1200,
 cM fN 217 2367 1010 3 2381 1207].flatten
def uZ:af ae:=[1179,1180,1182,1183,1186,1187,1193,1194,1200,1201,1207,1208]
def CV(w:cG)(os:cJ):=dB 380 (bW HM 1209 2384) (eW 218 11) ⟨1010,0,1030,27⟩ w os
def eQ(w:cG)(os:cJ)(i:ae):bj:=(if1 (cf i 3) (fD (ents w.params (fN)) 226 226) (if1 (cf i 12) (fld fL 390) (if1 (dy i 1209) (HM w os i) (thk (CV w os) i))))
def F2(P:d5):af bj:=[cM fN 218 2384 1031 1 2393 1214,
 cM fN 219 2396 1042 2 2409 1221,
 cM fN 220 2412 1053 4 2423 1228,
 u6 fN 221 2426 1066 3 2429 1233,
 u6 fN 222 2432 1072 5 2435 1238,
 cM fN 223 2438 1083 4 2456 1245,
 u6 fN 224 2459 1115 2 2462 1250,
 u6 fN 225 2465 1130 2 2468 1255,
 u6 fN 226 2471 1136 4 2474 1260,
 u6 fN 227 2477 1162 2 2480 1265,
 cM fN 228 2483 1174 1 2530 1272].flatten
def u0:af ae:=[1214,1215,1221,1222,1228,1229,1233,1234,1238,1239,1245,1246,1250,1251,1255,1256,1260,1261,1265,1266,1272,1273]
def MG(P:d5):af bj:=[boot_o_0 P,QG P,fD (ents P fN) 226 226,boot_o_4 P,boot_o_5 P,CZ [.ref 51,.ref 63],Bt 126 126,vV [.ref 1016,.ref 1035,.ref 1068,.ref 1164,.ref 1183]]
def BB:af ae:=[0,2,3,4,5,38,257,584]
def KK(P:d5):Frag:=BB.zip (MG P)++(uF.zip (FF P)++uG.zip (FG P)++uO.zip (FP P)++sl.zip (BF P)++sm.zip (BG P)++u1.zip (F3 P)++u2.zip (F4 P)++u3.zip (F5 P)++uH.zip (FH P)++uI.zip (FI P)++sk.zip (BE P)++uJ.zip (FJ P)++uK.zip (FK P)++uL.zip (FL P)++uM.zip (FN P)++uN.zip (FO P)++uP.zip (FQ P)++uQ.zip (FR P)++uR.zip (FT P)++uS.zip (FU P)++uT.zip (FV P)++uU.zip (FW P)++uV.zip (FX P)++uW.zip (FY P)++uX.zip (FZ P)++uY.zip (F0 P)++uZ.zip (F1 P)++u0.zip (F2 P))
def r0:af ae:=BB++(uF++uG++uO++sl++sm++u1++u2++u3++uH++uI++sk++uJ++uK++uL++uM++uN++uP++uQ++uR++uS++uT++uU++uV++uW++uX++uY++uZ++u0)
theorem aP5{n:Nat}{S er:World->OsState->SharedT}{l:List Stmt}{pos pos':Pos}(h:∀w:World,(λos=>dB n S l pos w os)=λos=>some (.next,er w os,.body cq b0,pos'))(w:World)(os:OsState):
  segRun treeTable b8 w 11 (some (.ref 6)) 1 n (S w os).abs (piecesOf l b0 (.body cq b0) pos [topFrame ⟨0,0,0,0⟩])=some (.next,(er w os).abs,.body cq b0,pos'):=by
 have h2:=congrFun (h w) os
 unfold dB at h2
 rw[←S8,←AH]at h2
 exact segRun_of h2
def B0:List Frame:=[topFrame ⟨0,0,0,0⟩]
theorem aL7:∀(w:World),(λos=>Fast.tw15667345088766844465 rL b8 w 11 (some (.ref 6)) 12 ⟨boot_heap w.params,#[],boot_drawn,boot_toks,os⟩ (topStub b8))=
  λos=>some ((bW vz 15 187 w os).abs,⟨Fast.tw11892475500146522536 rL (.body cq b0),.body cq b0,⟨0,0,0,0⟩,[topFrame ⟨0,0,0,0⟩]⟩):=λw=>by kernel_rfl
theorem WS:∀(w:World),(λos=>Fast.tw14374325043358763698 rL b8 w 11 (some (.ref 6)) 1 1 (bW vz 15 187 w os).abs (blockOf cq b0 (.body cq b0) ⟨0,0,0,0⟩ [topFrame ⟨0,0,0,0⟩]))=
  λos=>some (.next,(bW vz 15 187 w os).abs,.body cq b0,⟨0,0,0,0⟩):=λw=>by kernel_rfl
theorem ai1:∀(w:World),(λos=>Fast.tw14082659384304107361 rL b8 w 11 (some (.ref 6)) 2 (bW eQ 1274 2533 w os).abs ⟨doneF .next,.body cq b0,⟨1174,0,1245,40⟩,[topFrame ⟨0,0,0,0⟩]⟩)=
  λos=>some (bW eQ 1274 2533 w os).abs:=λw=>by kernel_rfl
theorem al3(w:World)(os:OsState){N:Nat}{r:Shared}(k:topRun treeTable b8 w 11 (some (.ref 6)) N (bW vz 15 187 w os).abs (restOf cq b0 (.body cq b0) ⟨0,0,0,0⟩ [topFrame ⟨0,0,0,0⟩])=some r):
  topRun treeTable b8 w 11 (some (.ref 6)) (12+(1+N)) ⟨boot_heap w.params,#[],boot_drawn,boot_toks,os⟩ (topStub b8)=some r:=by
 have h1:=congrFun (aL7 w) os
 rw[←Fast.te15667345088766844465,←Fast.te11892475500146522536,←AH]at h1
 have h2:=congrFun (WS w) os
 rw[←Fast.te14374325043358763698,←AH]at h2
 exact go_top h1 (piece_block h2 k)
theorem Yb(w:World)(os:OsState):topRun treeTable b8 w 11 (some (.ref 6)) 2 (bW eQ 1274 2533 w os).abs (restOf [] b0 (.body cq b0) ⟨1174,0,1245,40⟩ [topFrame ⟨0,0,0,0⟩])=some (bW eQ 1274 2533 w os).abs:=by
 have h1:=congrFun (ai1 w) os
 rw[←Fast.te14082659384304107361,←AH]at h1
 exact piece_nil h1
theorem aX9{n N ke d9 t0 t1:Nat}{f ih:World->OsState->Nat->Obj}{j m:Nat}{pos pos':Pos}(h:∀w:World,(λos=>dB n (bW f ke t0) (eW j m) pos w os)=λos=>some (.next,bW ih d9 t1 w os,.body cq b0,pos')){w:World}{os:OsState}{r:Shared}{rest:List Stmt}
  (k:topRun treeTable b8 w 11 (some (.ref 6)) N (bW ih d9 t1 w os).abs (restOf rest b0 (.body cq b0) pos' [topFrame ⟨0,0,0,0⟩])=some r):
  topRun treeTable b8 w 11 (some (.ref 6)) (n+N) (bW f ke t0 w os).abs (restOf (eW j m++rest) b0 (.body cq b0) pos [topFrame ⟨0,0,0,0⟩])=some r:=
 piece_app (aP5 h w os) k
theorem Qo(j m:Nat):b8.main.body.drop j=eW j m++b8.main.body.drop (j+m):=by
 unfold eW
 rw[←List.drop_drop,Ep]
theorem WG:cq=b8.main.body.drop 0:=by kernel_rfl
theorem WT:b8.main.body.drop 229=[]:=by kernel_rfl
theorem gm{n N ke d9 t0 t1:Nat}{f ih:World->OsState->Nat->Obj}{j m:Nat}{pos pos':Pos}(h:∀w:World,(λos=>dB n (bW f ke t0) (eW j m) pos w os)=λos=>some (.next,bW ih d9 t1 w os,.body cq b0,pos')){w:World}{os:OsState}{r:Shared}
  (k:topRun treeTable b8 w 11 (some (.ref 6)) N (bW ih d9 t1 w os).abs (restOf (b8.main.body.drop (j+m)) b0 (.body cq b0) pos' [topFrame ⟨0,0,0,0⟩])=some r):
  topRun treeTable b8 w 11 (some (.ref 6)) (n+N) (bW f ke t0 w os).abs (restOf (b8.main.body.drop j) b0 (.body cq b0) pos [topFrame ⟨0,0,0,0⟩])=some r:=by
 rw[Qo j m]
 exact aX9 h k
theorem al4(w:World)(os:OsState){N:Nat}{r:Shared}(k:topRun treeTable b8 w 11 (some (.ref 6)) N (bW vz 15 187 w os).abs (restOf (b8.main.body.drop 0) b0 (.body cq b0) ⟨0,0,0,0⟩ [topFrame ⟨0,0,0,0⟩])=some r):
  topRun treeTable b8 w 11 (some (.ref 6)) (12+(1+N)) ⟨boot_heap w.params,#[],boot_drawn,boot_toks,os⟩ (topStub b8)=some r:=al3 w os (WG▸k)
theorem Yc(w:World)(os:OsState):topRun treeTable b8 w 11 (some (.ref 6)) 2 (bW eQ 1274 2533 w os).abs (restOf (b8.main.body.drop 229) b0 (.body cq b0) ⟨1174,0,1245,40⟩ [topFrame ⟨0,0,0,0⟩])=some (bW eQ 1274 2533 w os).abs:=by
 rw[WT]
 exact Yb w os
theorem Io{n:Nat}{S er:SharedT}{t:Thread}{f:Flow}{w:World}{c:Code}{pos':Pos}(h:AI rL b8 w 11 (some (.ref 6)) 1 n S t=some (f,er,c,pos')):
  segRun treeTable b8 w 11 (some (.ref 6)) 1 n S.abs t=some (f,er.abs,c,pos'):=by
 rw[←S8,←AH]at h
 exact segRun_of h
theorem PY{b:jJ}{d:Addr}(e:Cy b=.ret (.ref d)):b=(some d,[]):=by
 obtain⟨a,l⟩:=b
 cases a<;>cases l<;>simp only[Cy]at e<;>cases e
 rfl
abbrev aw6(f:Flow):Sem Fin:=match f with| .next=>(execs (b8.main.body.drop 85) b0).wrap doneF (leaveH b0) id id|f=>doneF f
theorem QU{α:Type}{x:Sem α}{y:α->Sem Flow}{res:α->Flow}{n N:Nat}{s s' r:Shared}{w:World}{c jP:Code}{pos pos':Pos}{f:Flow}{K:Flow->Sem Fin}{H:Value->Sem Fin}
  (h:segRun treeTable b8 w 11 (some (.ref 6)) 1 n s ⟨x.wrap (λa=>.pure (.done (res a))) deadEnd id id,c,pos,[topFrame ⟨0,0,0,0⟩]⟩=some (f,s',jP,pos'))
  (k:∀a,res a=f->topRun treeTable b8 w 11 (some (.ref 6)) N s' ⟨(y a).wrap K H id id,jP,pos',[topFrame ⟨0,0,0,0⟩]⟩=some r):
  topRun treeTable b8 w 11 (some (.ref 6)) (n+N) s ⟨(x >>= y).wrap K H id id,c,pos,[topFrame ⟨0,0,0,0⟩]⟩=some r:=by
 rw[Sem.bind_eq_wrap',Sem.wrap_wrap]
 obtain⟨a,cg,g⟩:=seg_top (res:=res) (K':=λa=>(y a).wrap K H id id) (H':=H) (gd:=id) (lv:=id) (B:=[topFrame ⟨0,0,0,0⟩]) rfl n s ⟨x.wrap (λa=>.pure (.done (res a))) deadEnd id id,c,pos,[topFrame ⟨0,0,0,0⟩]⟩ ⟨x.wrap (λa=>(y a).wrap K H id id) H id id,c,pos,[topFrame ⟨0,0,0,0⟩]⟩ f s' jP pos' ⟨rfl,rfl,.inl ⟨rfl,rfl,x,rfl,rfl⟩⟩ h
 exact g N r (k a cg)
theorem ba9{x:Sem Flow}{n N:Nat}{s s' r:Shared}{w:World}{c jP:Code}{pos pos':Pos}{f:Flow}{K:Flow->Sem Fin}{H:Value->Sem Fin}
  (h:segRun treeTable b8 w 11 (some (.ref 6)) 1 n s ⟨x.wrap doneF deadEnd id id,c,pos,[topFrame ⟨0,0,0,0⟩]⟩=some (f,s',jP,pos'))
  (k:topRun treeTable b8 w 11 (some (.ref 6)) N s' ⟨K f,jP,pos',[topFrame ⟨0,0,0,0⟩]⟩=some r):
  topRun treeTable b8 w 11 (some (.ref 6)) (n+N) s ⟨x.wrap K H id id,c,pos,[topFrame ⟨0,0,0,0⟩]⟩=some r:=by
 obtain⟨a,cg,g⟩:=seg_top (res:=id) (K':=K) (H':=H) (gd:=id) (lv:=id) (B:=[topFrame ⟨0,0,0,0⟩]) rfl n s ⟨x.wrap doneF deadEnd id id,c,pos,[topFrame ⟨0,0,0,0⟩]⟩ ⟨x.wrap K H id id,c,pos,[topFrame ⟨0,0,0,0⟩]⟩ f s' jP pos' ⟨rfl,rfl,.inl ⟨rfl,rfl,x,rfl,rfl⟩⟩ h
 obtain rfl:a=f:=cg
 exact g N r k
theorem aO9(w:World)(os:OsState)(pos:Pos):restOf (eW 84 1++b8.main.body.drop 85) b0 (.body cq b0) pos [topFrame ⟨0,0,0,0⟩]=⟨(Dp >>= zV).wrap aw6 (leaveH b0) id id,.body cq b0,pos,[topFrame ⟨0,0,0,0⟩]⟩:=by
 unfold restOf
 rw[execs_app_wrap,bh5]
 rfl
theorem aY0(h1:∀w:World,(λos=>xy w os)=λos=>some (.ret (.ref 257),bW vA 261 801 w os,.body cq b0,⟨230,10,230,1804⟩))(h2:∀w:World,(λos=>xA w os)=λos=>some (.ret (.ref 257),bW vB 263 869 w os,.body cq b0,⟨230,10,230,1804⟩))
  (h3:∀w:World,(λos=>xB w os)=λos=>some (.next,bW sU 265 918 w os,.body cq b0,⟨230,0,230,7⟩)){w:World}{os:OsState}{r:Shared}{N:Nat}
  (k:topRun treeTable b8 w 11 (some (.ref 6)) N (bW sU 265 918 w os).abs (restOf (b8.main.body.drop 85) b0 (.body cq b0) ⟨230,0,230,7⟩ [topFrame ⟨0,0,0,0⟩])=some r):
  topRun treeTable b8 w 11 (some (.ref 6)) (1300+(1300+(1300+N))) (bW Cq 257 665 w os).abs (restOf (b8.main.body.drop 84) b0 (.body cq b0) ⟨229,0,229,8⟩ [topFrame ⟨0,0,0,0⟩])=some r:=by
 rw[Qo 84 1,aO9 w os]
 refine QU (Io (congrFun (h1 w) os)) λa cg=> ?_
 rw[PY cg,bh6]
 refine QU (Io (congrFun (h2 w) os)) λa cg=> ?_
 rw[PY cg]
 exact ba9 (Io (congrFun (h3 w) os)) k
theorem gk{A B:Type}{f:World->OsState->A}{g:World->OsState->B}{ih:World->OsState->A}{bx:World->B}(h:∀w:World,(λos=>(f w os,g w os))=λos=>(ih w os,bx w))(w:World):(λos=>f w os)=λos=>ih w os:=
 funext λos=>congrArg rS (congrFun (h w) os)
def lX(w:World)(os:OsState):Heap:=absHeap (Iz (eQ w os) 1274) 1274 {}
def i6(w:World)(os:OsState):Shared:=⟨lX w os,#[],{},2533,os⟩
def fm:Program:={b8 with main:={b8.main with body:=eW 228 1}}
def ma:List Str:=(["_wall","OP_RET","OP_SWITCH","OP_ENDFINALLY","OP_ENDFILTER","OP_RETHROW","EC_CATCH","EC_FILTER","EC_FINALLY","EC_FAULT","RuneError","BadKind","VerifyFault","VOID","BOOL","CHAR","I1","U1","I2","U2","I4","U4","I8","U8","NINT","OBJECT","STRING","NULLK","BAD","PRIM_END","R_PRIM","R_CLASS","R_VALUE","R_ARRAY","R_BYREF","R_VAR","R_MVAR","R_BOXED","R_ROREF","R_FTN","R_RAW","DEEPEST_KIND","HEAVIEST_KIND","PRIM_TID","TID_PRIM","ARRAY_TID","KindTable","inner_kinds","row_level","row_length","check_kind_row","check_named","check_args","may_stand","class_kind","prim_kind","array_kind","byref_kind","boxed_kind","roref_kind","raw_kind","kind_sort","elem_of","tid_of","args_of","is_value","is_ref","is_var","stack_kind","SO_NONE","SO_I4","SO_I8","SO_ARG","SO_LOCAL","SO_BRANCH","SO_SWITCH","SO_KIND","SO_FIELD","SO_METHOD","SO_TEXT","SO_TOKEN","OP_SORT","is_branch","targets","S_IFACE","VA_NONE","VA_IN","GB_CLASS","GB_STRUCT","MF_STATIC","MF_CTOR","T_OBJECT","T_VALUETYPE","T_ENUM","T_ARRAY","T_NULLABLE","Body","VALUE_ROOTS","SIGNED_TWIN","bound_kinds","param_is_value","surely_class","is_iface","base_chain","all_ifaces","add_ifaces","stands_for_ref","reduced","verified","is_nullable","BareHost","MOST_QUESTIONS","Book","ref_assignable","assign_settled","settle_book","has_proof","assign_within","assign_look","param_within","var_within","inner_within","elems_within","common_array","common_base","VF_EMPTY","VF_DEPTH","VF_MERGE","VF_JUMP","VF_LEAVE","VF_END","VF_HANDLER","VF_RET","VF_MAX","VF_LOCAL","VF_OP","MOST_ROUNDS","VState","VOp","V","pop_kind","push_kind","is_raw","v_is_place","v_stack","same_store","merge_places","merge_kinds","merge_raw","merge_states","state_same","copy_state","flow_edge","flow_to","wait_for","kind_known","check_operand","RP_TRY","RP_FILTER","RP_HANDLER","RegionTable","parts_of","apart","inside","all_apart","all_inside","clause_right","filter_right","is_alone","pair_right","region_faults","note_fault","part_at","region_of","is_entry","is_catching","is_last","enters_right","exits_right","jump_fault","stand_fault","rethrow_fault","end_fault","VNop","VPop","is_class_ctor","v_arg_kind","VLdarg","args_with_this","entries_of","make_v","tell","first_init","catch_kind","begin_handler","enter_clause","enter_handlers","check_one","walk","VEnd","VLeave","_law_FILL","_law_OPS","_law_next","_law_block","_law_try","_law_code","_law_parts","_law_shut","_law_stands","_law_on","_law_one","_law_ways","_law_common","_law_fits","_law_entries"]:List String).map iM
theorem Fe:(recsOf fm).map (·.name)=[iM "law"]:=by kernel_rfl
theorem lE:∀(w:World)(os:OsState),gensDone (i6 w os)=true:=λw os=>by kernel_rfl
theorem bm6:∀(w:World)(os:OsState),(boot_heap w.params).isNs cStatics=true:=λw os=>by kernel_rfl
theorem bm7:∀(w:World)(os:OsState),(lX w os).isNs cStatics=true:=λw os=>by kernel_rfl
theorem hO:∀(w:World)(os:OsState),staticsOk (importedModules b8.main.body) (boot_heap w.params) (lX w os)=true:=λw os=>by kernel_rfl
theorem Bk:∀(w:World)(os:OsState),laidKept (boot_heap w.params) (lX w os)=true:=λw os=>by kernel_rfl
theorem c6:∀(w:World)(os:OsState),(lX w os).bltView=bltViewBooted:=λw os=>by kernel_rfl
theorem c2:∀(w:World)(os:OsState),namesBound b8 (lX w os)=true:=λw os=>by kernel_rfl
theorem Ff:∀(w:World)(os:OsState),seen ((recsOf fm).map (·.name)) (ownsOf fm) [] {i6 w os with gens:=#[]}=expectedOf fm:=λw os=>by kernel_rfl
theorem W0:∀(w:World)(os:OsState),(lX w os).keysOk (looseW fm ma) ((recsOf fm).map (·.name)) ((litsOf fm).map (·.1)) ((clssOf fm (looseW fm ma)).map (·.name))=true:=λw os=>by kernel_rfl
theorem q6:∀(w:World)(os:OsState),(lX w os).accountedOkI (importedModules b8.main.body)=true:=λw os=>by kernel_rfl
theorem W2:∀(w:World)(os:OsState),((lX w os).isNs mainGlobals&&(lX w os).isNs builtinsNs&&tablesOk fm (lX w os))=true:=λw os=>by kernel_rfl
theorem WX:∀(w:World)(os:OsState),tabsOk fm (i6 w os)=true:=λw os=>by kernel_rfl
theorem WY:∀(w:World)(os:OsState),(pinSeenD fm (drecsOf fm) (i6 w os),plainSeenE fm (looseW fm ma) (i6 w os),plainSeenD fm ma (i6 w os),wideSeen fm (i6 w os),clsSeenW fm ma (i6 w os))=(pinGoodD (drecsOf fm),plainGoodE fm (looseW fm ma),plainGoodD fm ma,wideGood fm,clsGoodW fm ma):=λw os=>by kernel_rfl
theorem O8:∀w:World,(λos=>(CA w os,uF.map (thk (CA w os))))=λos=>(some (.next,bW Hq 42 245 w os,.body cq b0,⟨14,0,18,20⟩),FF w.params):=λw=>by kernel_rfl
theorem O9:∀w:World,(λos=>(CB w os,uG.map (thk (CB w os))))=λos=>(some (.next,bW Hz 54 261 w os,.body cq b0,⟨19,0,20,8⟩),FG w.params):=λw=>by kernel_rfl
theorem Ph:∀w:World,(λos=>(CJ w os,uO.map (thk (CJ w os))))=λos=>(some (.next,bW HK 66 317 w os,.body cq b0,⟨42,0,42,7⟩),FP w.params):=λw=>by kernel_rfl
theorem aJ9:∀w:World,(λos=>(Ig w os,ae5.map (thk (Ig w os))))=λos=>(some (.next,bW HN 66 339 w os,.body cq b0,⟨53,0,53,13⟩),ai8 w.params):=λw=>by kernel_rfl
theorem Px:∀w:World,(λos=>(xw w os,sl.map (thk (xw w os))))=λos=>(some (.next,bW Co 67 368 w os,.body cq b0,⟨54,0,54,8⟩),BF w.params):=byRow2 "special-get-raises" (P:=λw=>(λos=>(xw w os,sl.map (thk (xw w os))))=λos=>(some (.next,bW Co 67 368 w os,.body cq b0,⟨54,0,54,8⟩),BF w.params)) (λw=>by kernel_rfl) (λw=>by kernel_rfl)
theorem Py:∀w:World,(λos=>(xx w os,sm.map (thk (xx w os))))=λos=>(some (.next,bW Cp 68 399 w os,.body cq b0,⟨56,0,56,9⟩),BG w.params):=byRow2 "special-get-raises" (P:=λw=>(λos=>(xx w os,sm.map (thk (xx w os))))=λos=>(some (.next,bW Cp 68 399 w os,.body cq b0,⟨56,0,56,9⟩),BG w.params)) (λw=>by kernel_rfl) (λw=>by kernel_rfl)
theorem Pz:∀w:World,(λos=>(CW w os,u1.map (thk (CW w os))))=λos=>(some (.next,bW HO 124 478 w os,.body cq b0,⟨119,0,124,12⟩),F3 w.params):=λw=>by kernel_rfl
theorem PA:∀w:World,(λos=>(CX w os,u2.map (thk (CX w os))))=λos=>(some (.next,bW HP 215 588 w os,.body cq b0,⟨180,0,184,13⟩),F4 w.params):=λw=>by kernel_rfl
theorem PB:∀w:World,(λos=>(CY w os,u3.map (thk (CY w os))))=λos=>(some (.next,bW Cq 257 665 w os,.body cq b0,⟨229,0,229,8⟩),F5 w.params):=λw=>by kernel_rfl
theorem O':∀w:World,(λos=>(CC w os,uH.map (thk (CC w os))))=λos=>(some (.next,bW Hr 279 958 w os,.body cq b0,⟨251,0,251,10⟩),FH w.params):=λw=>by kernel_rfl
theorem Pa:∀w:World,(λos=>(CD w os,uI.map (thk (CD w os))))=λos=>(some (.next,bW Hs 301 996 w os,.body cq b0,⟨260,0,260,11⟩),FI w.params):=λw=>by kernel_rfl
theorem Pb:∀w:World,(λos=>(xv w os,sk.map (thk (xv w os))))=λos=>(some (.next,bW Cn 372 1099 w os,.body cq b0,⟨324,0,328,33⟩),BE w.params):=byRow2 "special-get-raises" (P:=λw=>(λos=>(xv w os,sk.map (thk (xv w os))))=λos=>(some (.next,bW Cn 372 1099 w os,.body cq b0,⟨324,0,328,33⟩),BE w.params)) (λw=>by kernel_rfl) (λw=>by kernel_rfl)
theorem aJ7:∀w:World,(λos=>(Ic w os,ae3.map (thk (Ic w os))))=λos=>(some (.next,bW Ht 379 1109 w os,.body cq b0,⟨331,0,331,8⟩),ai6 w.params):=λw=>by kernel_rfl
theorem Pc:∀w:World,(λos=>(CE w os,uJ.map (thk (CE w os))))=λos=>(some (.next,bW Hu 442 1194 w os,.body cq b0,⟨332,0,361,16⟩),FJ w.params):=λw=>by kernel_rfl
theorem Pd:∀w:World,(λos=>(CF w os,uK.map (thk (CF w os))))=λos=>(some (.next,bW Hv 498 1278 w os,.body cq b0,⟨393,0,408,32⟩),FK w.params):=λw=>by kernel_rfl
theorem aJ8:∀w:World,(λos=>(Ie w os,ae4.map (thk (Ie w os))))=λos=>(some (.next,bW Hw 547 1391 w os,.body cq b0,⟨500,0,500,11⟩),ai7 w.params):=λw=>by kernel_rfl
theorem Pe:∀w:World,(λos=>(CG w os,uL.map (thk (CG w os))))=λos=>(some (.next,bW Hx 568 1424 w os,.body cq b0,⟨501,0,506,24⟩),FL w.params):=λw=>by kernel_rfl
theorem Pf:∀w:World,(λos=>(CH w os,uM.map (thk (CH w os))))=λos=>(some (.next,bW Hy 589 1453 w os,.body cq b0,⟨507,0,510,38⟩),FN w.params):=λw=>by kernel_rfl
theorem Pg:∀w:World,(λos=>(CI w os,uN.map (thk (CI w os))))=λos=>(some (.next,bW HA 673 1580 w os,.body cq b0,⟨511,0,563,30⟩),FO w.params):=λw=>by kernel_rfl
theorem Pj:∀w:World,(λos=>(CK w os,uP.map (thk (CK w os))))=λos=>(some (.next,bW HB 755 1689 w os,.body cq b0,⟨630,0,631,50⟩),FQ w.params):=λw=>by kernel_rfl
theorem Pk:∀w:World,(λos=>(CL w os,uQ.map (thk (CL w os))))=λos=>(some (.next,bW HC 790 1752 w os,.body cq b0,⟨702,0,702,10⟩),FR w.params):=λw=>by kernel_rfl
theorem Pl:∀w:World,(λos=>(CM w os,uR.map (thk (CM w os))))=λos=>(some (.next,bW HD 846 1825 w os,.body cq b0,⟨703,0,721,48⟩),FT w.params):=λw=>by kernel_rfl
theorem Pm:∀w:World,(λos=>(CN w os,uS.map (thk (CN w os))))=λos=>(some (.next,bW HE 930 1954 w os,.body cq b0,⟨792,0,800,13⟩),FU w.params):=λw=>by kernel_rfl
theorem Pn:∀w:World,(λos=>(CO w os,uT.map (thk (CO w os))))=λos=>(some (.next,bW HF 1000 2060 w os,.body cq b0,⟨871,0,871,8⟩),FV w.params):=λw=>by kernel_rfl
theorem Po:∀w:World,(λos=>(CP w os,uU.map (thk (CP w os))))=λos=>(some (.next,bW HG 1019 2085 w os,.body cq b0,⟨872,0,875,14⟩),FW w.params):=λw=>by kernel_rfl
theorem Pp:∀w:World,(λos=>(CQ w os,uV.map (thk (CQ w os))))=λos=>(some (.next,bW HH 1052 2125 w os,.body cq b0,⟨882,0,885,20⟩),FX w.params):=λw=>by kernel_rfl
theorem Pq:∀w:World,(λos=>(CR w os,uW.map (thk (CR w os))))=λos=>(some (.next,bW HI 1099 2201 w os,.body cq b0,⟨922,0,924,33⟩),FY w.params):=λw=>by kernel_rfl
theorem Pr:∀w:World,(λos=>(CS w os,uX.map (thk (CS w os))))=λos=>(some (.next,bW HJ 1148 2270 w os,.body cq b0,⟨985,0,985,8⟩),FZ w.params):=λw=>by kernel_rfl
theorem Pt:∀w:World,(λos=>(CT w os,uY.map (thk (CT w os))))=λos=>(some (.next,bW HL 1167 2295 w os,.body cq b0,⟨986,0,989,24⟩),F0 w.params):=λw=>by kernel_rfl
theorem Pu:∀w:World,(λos=>(CU w os,uZ.map (thk (CU w os))))=λos=>(some (.next,bW HM 1209 2384 w os,.body cq b0,⟨1010,0,1030,27⟩),F1 w.params):=λw=>by kernel_rfl
theorem Pw:∀w:World,(λos=>(CV w os,u0.map (thk (CV w os))))=λos=>(some (.next,bW eQ 1274 2533 w os,.body cq b0,⟨1174,0,1245,40⟩),F2 w.params):=λw=>by kernel_rfl
theorem aK1:∀w:World,(λw:World=>(λos=>xy w os)=λos=>some (.ret (.ref 257),bW vA 261 801 w os,.body cq b0,⟨230,10,230,1804⟩)) (w.withFollow "special-get-raises" false):=λw=>by kernel_rfl
theorem aK2:∀w:World,(λw:World=>(λos=>xy w os)=λos=>some (.ret (.ref 257),bW vA 261 801 w os,.body cq b0,⟨230,10,230,1804⟩)) (w.withFollow "special-get-raises" true):=λw=>by kernel_rfl
theorem aK0:∀w:World,(λos=>xy w os)=λos=>some (.ret (.ref 257),bW vA 261 801 w os,.body cq b0,⟨230,10,230,1804⟩):=byRow2 "special-get-raises" (P:=λw=>(λos=>xy w os)=λos=>some (.ret (.ref 257),bW vA 261 801 w os,.body cq b0,⟨230,10,230,1804⟩)) aK1 aK2
theorem aK4:∀w:World,(λw:World=>(λos=>xA w os)=λos=>some (.ret (.ref 257),bW vB 263 869 w os,.body cq b0,⟨230,10,230,1804⟩)) (w.withFollow "special-get-raises" false):=λw=>by kernel_rfl
theorem aK5:∀w:World,(λw:World=>(λos=>xA w os)=λos=>some (.ret (.ref 257),bW vB 263 869 w os,.body cq b0,⟨230,10,230,1804⟩)) (w.withFollow "special-get-raises" true):=λw=>by kernel_rfl
theorem aK3:∀w:World,(λos=>xA w os)=λos=>some (.ret (.ref 257),bW vB 263 869 w os,.body cq b0,⟨230,10,230,1804⟩):=byRow2 "special-get-raises" (P:=λw=>(λos=>xA w os)=λos=>some (.ret (.ref 257),bW vB 263 869 w os,.body cq b0,⟨230,10,230,1804⟩)) aK4 aK5
theorem aK7:∀w:World,(λw:World=>(λos=>xB w os)=λos=>some (.next,bW sU 265 918 w os,.body cq b0,⟨230,0,230,7⟩)) (w.withFollow "special-get-raises" false):=λw=>by kernel_rfl
theorem aK8:∀w:World,(λw:World=>(λos=>xB w os)=λos=>some (.next,bW sU 265 918 w os,.body cq b0,⟨230,0,230,7⟩)) (w.withFollow "special-get-raises" true):=λw=>by kernel_rfl
theorem aK6:∀w:World,(λos=>xB w os)=λos=>some (.next,bW sU 265 918 w os,.body cq b0,⟨230,0,230,7⟩):=byRow2 "special-get-raises" (P:=λw=>(λos=>xB w os)=λos=>some (.next,bW sU 265 918 w os,.body cq b0,⟨230,0,230,7⟩)) aK7 aK8
theorem aQ4(w:World)(os:OsState):∃M,M<=30000/\topRun treeTable b8 w 11 (some (.ref 6)) M ⟨boot_heap w.params,#[],boot_drawn,boot_toks,os⟩ (topStub b8)=some (i6 w os):=
 ⟨_,by decide,al4 w os (gm (gk O8) (gm (gk O9) (gm (gk Ph) (gm (gk aJ9) (gm (gk Px) (gm (gk Py) (gm (gk Pz) (gm (gk PA) (gm (gk PB) (aY0 aK0 aK3 aK6 (gm (gk O') (gm (gk Pa) (gm (gk Pb) (gm (gk aJ7) (gm (gk Pc) (gm (gk Pd) (gm (gk aJ8) (gm (gk Pe) (gm (gk Pf) (gm (gk Pg) (gm (gk Pj) (gm (gk Pk) (gm (gk Pl) (gm (gk Pm) (gm (gk Pn) (gm (gk Po) (gm (gk Pp) (gm (gk Pq) (gm (gk Pr) (gm (gk Pt) (gm (gk Pu) (gm (gk Pw) (Yc w os)))))))))))))))))))))))))))))))))⟩
theorem Yi:opening b8=plainProg b8.main.scope.names:=by kernel_rfl
theorem ai0(s:Shared):fenceModules? b8 s=some s:=by kernel_rfl
theorem aV5(w:World):((boot_heap w.params).isNs mainGlobals&&(#[]:Array GenState).size==0,(boot_heap w.params).objs.size,(boot_heap w.params).nsMap mainGlobals "__annotations__")=(true,11,some (.ref 6)):=by kernel_rfl
theorem az1{α:Type}{Lg:Shared->α}{Lf:World->α}(aQ:∀w os,Lg (i6 w os)=Lf w):LeftO b8 fm ma (λU=>true) Lg Lf 30000:=λw=>by
 obtain⟨⟨h,jv,d,k,os⟩,e,dO⟩:=wA.mp (boot_open (p:=b8) (N:=30000) Yi (by decide) ai0 w)
 obtain⟨rfl,rfl,rfl,rfl⟩:h=boot_heap w.params/\jv=#[]/\d=boot_drawn/\k=boot_toks:=by simpa using dO
 obtain⟨dZ,i0,qx⟩:_/\_/\_:=by simpa only[Ur]using aV5 w
 obtain⟨M,y',r⟩:=aQ4 w os
 have r:=topRun_mono (30000 - M) _ _ _ _ r
 rw[show M+(30000 - M)=30000 from tr y']at r
 have l1:(staticsOk (importedModules b8.main.body) (boot_heap w.params) (i6 w os).heap&&namesBound b8 (i6 w os).heap&&gensDone (i6 w os)&&laidKept (boot_heap w.params) (i6 w os).heap)=true:=by
  rw[show(i6 w os).heap=lX w os from rfl,hO,c2,lE,Bk];rfl
 have t:topFrom treeTable b8 w 30000 ⟨boot_heap w.params,#[],boot_drawn,boot_toks,os⟩=some (i6 w os):=by
  unfold topFrom
  dsimp only
  rw[dZ,i0,qx,r]
  show(match staticsOk (importedModules b8.main.body) (boot_heap w.params) (i6 w os).heap&&namesBound b8 (i6 w os).heap&&gensDone (i6 w os)&&laidKept (boot_heap w.params) (i6 w os).heap with|true=>_|false=>_)=_
  rw[l1]
 have d2:openSeen fm ma (importedModules b8.main.body) (λU=>true) true (i6 w os)=openGood fm ma:=by
  unfold openSeen openGood
  have z:=WY w os
  simp only[Ur]at z
  obtain⟨f6,ek,j5,m2,lj⟩:=z
  have k9:=W2 w os
  have bF:(i6 w os).heap=lX w os:=rfl
  rw[Ff,WX,f6,ek,j5,m2,lj,bF,c6,W0,q6]
  simp only[wd]at k9
  rw[k9.1.1,k9.1.2,k9.2]
  rfl
 unfold openEnds
 rw[e]
 show(topFrom treeTable b8 w 30000 _).map _=_
 rw[t]
 exact congrArg some (tT d2 (aQ w os))
section
theorem par(i:Nat):i=0\/∃j,i=2*j+1\/i=2*j+2:=by
 rcases i with _|i
 ·exact .inl rfl
 ·have e:=Nat.div_add_mod i 2
  rcases Nat.mod_two_eq_zero_or_one i with h|h<;>rw[h]at e
  ·exact .inr ⟨i/2,.inl (congrArg (·+1) e.symm)⟩
  ·exact .inr ⟨i/2,.inr (congrArg (·+1) e.symm)⟩
theorem Cu(j:Nat):(2*j+1)%2=1/\(2*j+1)/2=j/\(2*j+2)%2≠1/\(2*j+2)/2 - 1=j:=⟨Uc 2 j 1,Ub Kr j 1,λh=>(nomatch (Uc 2 j 2).symm.trans h),congrArg (· - 1) (Ub Kr j 2)⟩
theorem Fc(f:Nat->Obj)(n:Nat):∀(k a b i:Nat),i+1<2^k->a*i+b<n->(yR f n k a b).get i=some (f (a*i+b))
 |0,_,_,i,h,_=>absurd h (tP.mpr (rQ 1 i))
 |k+1,a,b,i,h,a6=>by
  have e:yR f n (k+1) a b=.node (f b) (yR f n k (2*a) (a+b)) (yR f n k (2*a) (2*a+b)):=by
   show @JN (λU=>BT) .nil _ (dy b n)=_
   rw[show dy b n=true from T3.mpr (d7 (rQ b _) a6)]
   rfl
  rw[e,BT.get_node]
  have lo {j:Nat} (u:2*(j+1)<2^(k+1)):j+1<2^k:=Nat.lt_of_mul_lt_mul_left (a:=2) (Ue (2^k) 2▸u)
  rcases par i with z|⟨j,z|z⟩
  ·rw[z];exact congrArg (λx=>some (f x)) (iA b).symm
  ·have q:2*a*j+(a+b)=a*i+b:=by rw[z,Ua,Nat.mul_one,Ug,Ud,wt]
   rw[if_neg (z▸Ul _),if_pos (z▸(Cu j).1),show i/2=j from z▸(Cu j).2.1,Fc f n k _ _ j (lo (show 2*j+1+1<2^(k+1)from z▸h)) (q▸a6),q]
  ·have q:2*a*j+(2*a+b)=a*i+b:=by rw[z,Ua,Ug,Ue a 2,Ud,wt]
   rw[if_neg (z▸Ul _),if_neg (z▸(Cu j).2.2.1),show i/2 - 1=j from z▸(Cu j).2.2.2,Fc f n k _ _ j (lo (nO (kM _) (show 2*j+2+1<2^(k+1)from z▸h))) (q▸a6),q]
variable{w:World}{os:OsState}
def fu(w:World)(os:OsState)(A:List Nat)(F:Frag):Prop:=A.map (lX w os).get?=F.map λp=>some p.2
theorem Vf{i:Nat}(h:dy i 1274=true)(hf:(eQ w os i).alive=true):(lX w os).get? i=some (eQ w os i):=by
 have h:=T3.mp h
 refine(Heap.get?_eq_some _ _ _).mpr ⟨(absHeap_at _ _ _ _).trans ((if_pos h).trans ?_),hf⟩
 unfold Iz
 rw[Fc _ _ 12 1 0 i (nO (Ez h) (by decide)) (d7 (eK (Ey i)) h)]
 exact congrArg (λx=>some (eQ w os x)) (Ey i)
theorem part_of:∀{l:List Nat},l.all (dy · 1274)=true->(l.map (eQ w os)).all Um=true->fu w os l (l.zip (l.map (eQ w os)))
 |[],_,_=>rfl
 |i::l,h1,h2=>by
  have h1:=(wd _ _).mp h1
  have h2:=(wd _ _).mp h2
  exact congr (congrArg Ts (Vf h1.1 h2.1)) (part_of h1.2 h2.2)
theorem fatH{l:List Nat}{g:List Obj}(e:l.map (eQ w os)=g)(h1:l.all (dy · 1274)=true)(h2:g.all Um=true):fu w os l (l.zip g):=by
 rw[←e]at h2|-
 exact part_of h1 h2
theorem g7{A B:List Nat}{F G:Frag}(x:fu w os A F)(y:fu w os B G):fu w os (A++B) (F++G):=gA.trans ((congr (congrArg _ x) y).trans gA.symm)
theorem pc2{l:List Nat}{r:World->OsState->Option (Flow×SharedT×Code×Pos)}{f:World->OsState->Option (Flow×SharedT×Code×Pos)}{g:World->List Obj}(h:∀w:World,(λos=>(r w os,l.map (thk (r w os))))=λos=>(f w os,g w)):l.map (thk (r w os))=g w:=congrArg nP (congrFun (h w) os)
theorem ae8:fu w os uF (uF.zip (FF w.params)):=fatH ((show uF.map (eQ w os)=uF.map (thk (CA w os)) by kernel_rfl).trans (pc2 O8)) (by kernel_rfl) (by kernel_rfl)
theorem ae9:fu w os uG (uG.zip (FG w.params)):=fatH ((show uG.map (eQ w os)=uG.map (thk (CB w os)) by kernel_rfl).trans (pc2 O9)) (by kernel_rfl) (by kernel_rfl)
theorem af8:fu w os uO (uO.zip (FP w.params)):=fatH ((show uO.map (eQ w os)=uO.map (thk (CJ w os)) by kernel_rfl).trans (pc2 Ph)) (by kernel_rfl) (by kernel_rfl)
theorem ah1:fu w os sl (sl.zip (BF w.params)):=fatH ((show sl.map (eQ w os)=sl.map (thk (xw w os)) by kernel_rfl).trans (pc2 Px)) (by kernel_rfl) (by kernel_rfl)
theorem ah2:fu w os sm (sm.zip (BG w.params)):=fatH ((show sm.map (eQ w os)=sm.map (thk (xx w os)) by kernel_rfl).trans (pc2 Py)) (by kernel_rfl) (by kernel_rfl)
theorem ah3:fu w os u1 (u1.zip (F3 w.params)):=fatH ((show u1.map (eQ w os)=u1.map (thk (CW w os)) by kernel_rfl).trans (pc2 Pz)) (by kernel_rfl) (by kernel_rfl)
theorem ah4:fu w os u2 (u2.zip (F4 w.params)):=fatH ((show u2.map (eQ w os)=u2.map (thk (CX w os)) by kernel_rfl).trans (pc2 PA)) (by kernel_rfl) (by kernel_rfl)
theorem ah5:fu w os u3 (u3.zip (F5 w.params)):=fatH ((show u3.map (eQ w os)=u3.map (thk (CY w os)) by kernel_rfl).trans (pc2 PB)) (by kernel_rfl) (by kernel_rfl)
theorem af0:fu w os uH (uH.zip (FH w.params)):=fatH ((show uH.map (eQ w os)=uH.map (thk (CC w os)) by kernel_rfl).trans (pc2 O')) (by kernel_rfl) (by kernel_rfl)
theorem af1:fu w os uI (uI.zip (FI w.params)):=fatH ((show uI.map (eQ w os)=uI.map (thk (CD w os)) by kernel_rfl).trans (pc2 Pa)) (by kernel_rfl) (by kernel_rfl)
theorem af2:fu w os sk (sk.zip (BE w.params)):=fatH ((show sk.map (eQ w os)=sk.map (thk (xv w os)) by kernel_rfl).trans (pc2 Pb)) (by kernel_rfl) (by kernel_rfl)
theorem af3:fu w os uJ (uJ.zip (FJ w.params)):=fatH ((show uJ.map (eQ w os)=uJ.map (thk (CE w os)) by kernel_rfl).trans (pc2 Pc)) (by kernel_rfl) (by kernel_rfl)
theorem af4:fu w os uK (uK.zip (FK w.params)):=fatH ((show uK.map (eQ w os)=uK.map (thk (CF w os)) by kernel_rfl).trans (pc2 Pd)) (by kernel_rfl) (by kernel_rfl)
theorem af5:fu w os uL (uL.zip (FL w.params)):=fatH ((show uL.map (eQ w os)=uL.map (thk (CG w os)) by kernel_rfl).trans (pc2 Pe)) (by kernel_rfl) (by kernel_rfl)
theorem af6:fu w os uM (uM.zip (FN w.params)):=fatH ((show uM.map (eQ w os)=uM.map (thk (CH w os)) by kernel_rfl).trans (pc2 Pf)) (by kernel_rfl) (by kernel_rfl)
theorem af7:fu w os uN (uN.zip (FO w.params)):=fatH ((show uN.map (eQ w os)=uN.map (thk (CI w os)) by kernel_rfl).trans (pc2 Pg)) (by kernel_rfl) (by kernel_rfl)
theorem af9:fu w os uP (uP.zip (FQ w.params)):=fatH ((show uP.map (eQ w os)=uP.map (thk (CK w os)) by kernel_rfl).trans (pc2 Pj)) (by kernel_rfl) (by kernel_rfl)
theorem ag0:fu w os uQ (uQ.zip (FR w.params)):=fatH ((show uQ.map (eQ w os)=uQ.map (thk (CL w os)) by kernel_rfl).trans (pc2 Pk)) (by kernel_rfl) (by kernel_rfl)
theorem ag1:fu w os uR (uR.zip (FT w.params)):=fatH ((show uR.map (eQ w os)=uR.map (thk (CM w os)) by kernel_rfl).trans (pc2 Pl)) (by kernel_rfl) (by kernel_rfl)
theorem ag2:fu w os uS (uS.zip (FU w.params)):=fatH ((show uS.map (eQ w os)=uS.map (thk (CN w os)) by kernel_rfl).trans (pc2 Pm)) (by kernel_rfl) (by kernel_rfl)
theorem ag3:fu w os uT (uT.zip (FV w.params)):=fatH ((show uT.map (eQ w os)=uT.map (thk (CO w os)) by kernel_rfl).trans (pc2 Pn)) (by kernel_rfl) (by kernel_rfl)
theorem ag4:fu w os uU (uU.zip (FW w.params)):=fatH ((show uU.map (eQ w os)=uU.map (thk (CP w os)) by kernel_rfl).trans (pc2 Po)) (by kernel_rfl) (by kernel_rfl)
theorem ag5:fu w os uV (uV.zip (FX w.params)):=fatH ((show uV.map (eQ w os)=uV.map (thk (CQ w os)) by kernel_rfl).trans (pc2 Pp)) (by kernel_rfl) (by kernel_rfl)
theorem ag6:fu w os uW (uW.zip (FY w.params)):=fatH ((show uW.map (eQ w os)=uW.map (thk (CR w os)) by kernel_rfl).trans (pc2 Pq)) (by kernel_rfl) (by kernel_rfl)
theorem ag7:fu w os uX (uX.zip (FZ w.params)):=fatH ((show uX.map (eQ w os)=uX.map (thk (CS w os)) by kernel_rfl).trans (pc2 Pr)) (by kernel_rfl) (by kernel_rfl)
theorem ag8:fu w os uY (uY.zip (F0 w.params)):=fatH ((show uY.map (eQ w os)=uY.map (thk (CT w os)) by kernel_rfl).trans (pc2 Pt)) (by kernel_rfl) (by kernel_rfl)
theorem ag9:fu w os uZ (uZ.zip (F1 w.params)):=fatH ((show uZ.map (eQ w os)=uZ.map (thk (CU w os)) by kernel_rfl).trans (pc2 Pu)) (by kernel_rfl) (by kernel_rfl)
theorem ah0:fu w os u0 (u0.zip (F2 w.params)):=fatH ((show u0.map (eQ w os)=u0.map (thk (CV w os)) by kernel_rfl).trans (pc2 Pw)) (by kernel_rfl) (by kernel_rfl)
theorem ah6:fu w os BB (BB.zip (MG w.params)):=fatH (by kernel_rfl) (by kernel_rfl) (by kernel_rfl)
theorem wG(P:Params):r0=(KK P).map (·.1):=by kernel_rfl
theorem Vp:fu w os r0 (KK w.params):=g7 ah6 (g7 (g7 (g7 (g7 (g7 (g7 (g7 (g7 (g7 (g7 (g7 (g7 (g7 (g7 (g7 (g7 (g7 (g7 (g7 (g7 (g7 (g7 (g7 (g7 (g7 (g7 (g7 ae8 ae9) af8) ah1) ah2) ah3) ah4) ah5) af0) af1) af2) af3) af4) af5) af6) af7) af9) ag0) ag1) ag2) ag3) ag4) ag5) ag6) ag7) ag8) ag9) ah0)
theorem az2:LeftO b8 fm ma (λU=>true) (kHook KK r0 wG).obs (kHook KK r0 wG).val 30000:=az1 λU U=>Vp
end
section
variable{G:Prop}
theorem Dr{A B C:Prop}(h:A/\B/\C)(k:A->B->C->G):G:=k h.1 h.2.1 h.2.2
theorem bf8{A B C D:Prop}(h:A/\B/\C/\D)(k:A->B->C->D->G):G:=k h.1 h.2.1 h.2.2.1 h.2.2.2
theorem b5{α:Sort _}{A B:α->Prop}(h:∃a,A a/\B a)(k:∀a,A a->B a->G):G:=h.elim λa h=>k a h.1 h.2
theorem fH{α:Sort _}{A B C:α->Prop}(h:∃a,A a/\B a/\C a)(k:∀a,A a->B a->C a->G):G:=h.elim λa h=>k a h.1 h.2.1 h.2.2
theorem Al{α:Sort _}{A B C D:α->Prop}(h:∃a,A a/\B a/\C a/\D a)(k:∀a,A a->B a->C a->D a->G):G:=h.elim λa h=>k a h.1 h.2.1 h.2.2.1 h.2.2.2
theorem tn{α:Sort _}{A B C D E:α->Prop}(h:∃a,A a/\B a/\C a/\D a/\E a)(k:∀a,A a->B a->C a->D a->E a->G):G:=h.elim λa h=>k a h.1 h.2.1 h.2.2.1 h.2.2.2.1 h.2.2.2.2
theorem Rw{α:Sort _}{A B C D E F:α->Prop}(h:∃a,A a/\B a/\C a/\D a/\E a/\F a)(k:∀a,A a->B a->C a->D a->E a->F a->G):G:=h.elim λa h=>k a h.1 h.2.1 h.2.2.1 h.2.2.2.1 h.2.2.2.2.1 h.2.2.2.2.2
theorem Rx{α:Sort _}{A B C D E F H:α->Prop}(h:∃a,A a/\B a/\C a/\D a/\E a/\F a/\H a)(k:∀a,A a->B a->C a->D a->E a->F a->H a->G):G:=h.elim λa h=>k a h.1 h.2.1 h.2.2.1 h.2.2.2.1 h.2.2.2.2.1 h.2.2.2.2.2.1 h.2.2.2.2.2.2
theorem rE{α β:Sort _}{A:α->β->Prop}(h:∃a b,A a b)(k:∀a b,A a b->G):G:=h.elim λa h=>h.elim λb h=>k a b h
theorem xV{α β:Sort _}{A B:α->β->Prop}(h:∃a b,A a b/\B a b)(k:∀a b,A a b->B a b->G):G:=h.elim λa h=>h.elim λb h=>k a b h.1 h.2
theorem tp{α β:Sort _}{A B C:α->β->Prop}(h:∃a b,A a b/\B a b/\C a b)(k:∀a b,A a b->B a b->C a b->G):G:=h.elim λa h=>h.elim λb h=>k a b h.1 h.2.1 h.2.2
theorem qw{α β:Sort _}{A B C D:α->β->Prop}(h:∃a b,A a b/\B a b/\C a b/\D a b)(k:∀a b,A a b->B a b->C a b->D a b->G):G:=h.elim λa h=>h.elim λb h=>k a b h.1 h.2.1 h.2.2.1 h.2.2.2
theorem Ry{α β:Sort _}{A B C D E F:α->β->Prop}(h:∃a b,A a b/\B a b/\C a b/\D a b/\E a b/\F a b)(k:∀a b,A a b->B a b->C a b->D a b->E a b->F a b->G):G:=h.elim λa h=>h.elim λb h=>k a b h.1 h.2.1 h.2.2.1 h.2.2.2.1 h.2.2.2.2.1 h.2.2.2.2.2
theorem Rz{α β γ:Sort _}{A:α->β->γ->Prop}(h:∃a b c,A a b c)(k:∀a b c,A a b c->G):G:=h.elim λa h=>h.elim λb h=>h.elim λc h=>k a b c h
theorem kj{α β γ:Sort _}{A B:α->β->γ->Prop}(h:∃a b c,A a b c/\B a b c)(k:∀a b c,A a b c->B a b c->G):G:=h.elim λa h=>h.elim λb h=>h.elim λc h=>k a b c h.1 h.2
theorem vY{α β γ:Sort _}{A B C:α->β->γ->Prop}(h:∃a b c,A a b c/\B a b c/\C a b c)(k:∀a b c,A a b c->B a b c->C a b c->G):G:=h.elim λa h=>h.elim λb h=>h.elim λc h=>k a b c h.1 h.2.1 h.2.2
theorem Am{α β γ:Sort _}{A B C D:α->β->γ->Prop}(h:∃a b c,A a b c/\B a b c/\C a b c/\D a b c)(k:∀a b c,A a b c->B a b c->C a b c->D a b c->G):G:=h.elim λa h=>h.elim λb h=>h.elim λc h=>k a b c h.1 h.2.1 h.2.2.1 h.2.2.2
theorem bf9{α β γ:Sort _}{A B C D E:α->β->γ->Prop}(h:∃a b c,A a b c/\B a b c/\C a b c/\D a b c/\E a b c)(k:∀a b c,A a b c->B a b c->C a b c->D a b c->E a b c->G):G:=h.elim λa h=>h.elim λb h=>h.elim λc h=>k a b c h.1 h.2.1 h.2.2.1 h.2.2.2.1 h.2.2.2.2
theorem I2{α β γ:Sort _}{A B C D E F:α->β->γ->Prop}(h:∃a b c,A a b c/\B a b c/\C a b c/\D a b c/\E a b c/\F a b c)(k:∀a b c,A a b c->B a b c->C a b c->D a b c->E a b c->F a b c->G):G:=h.elim λa h=>h.elim λb h=>h.elim λc h=>k a b c h.1 h.2.1 h.2.2.1 h.2.2.2.1 h.2.2.2.2.1 h.2.2.2.2.2
theorem bg0{α β γ δ:Sort _}{A B:α->β->γ->δ->Prop}(h:∃a b c d,A a b c d/\B a b c d)(k:∀a b c d,A a b c d->B a b c d->G):G:=h.elim λa h=>h.elim λb h=>h.elim λc h=>h.elim λd h=>k a b c d h.1 h.2
theorem bg1{α β γ δ:Sort _}{A B C:α->β->γ->δ->Prop}(h:∃a b c d,A a b c d/\B a b c d/\C a b c d)(k:∀a b c d,A a b c d->B a b c d->C a b c d->G):G:=h.elim λa h=>h.elim λb h=>h.elim λc h=>h.elim λd h=>k a b c d h.1 h.2.1 h.2.2
theorem Ds{α β γ δ ε:Sort _}{A B C:α->β->γ->δ->ε->Prop}(h:∃a b c d e,A a b c d e/\B a b c d e/\C a b c d e)(k:∀a b c d e,A a b c d e->B a b c d e->C a b c d e->G):G:=h.elim λa h=>h.elim λb h=>h.elim λc h=>h.elim λd h=>h.elim λe h=>k a b c d e h.1 h.2.1 h.2.2
@[elab_as_elim] theorem aD {α:Sort _} {a b:α} {P:α->Prop} (h:a=b) (k:P b):P a:=h▸k
@[elab_as_elim] theorem aR {α:Sort _} {a b:α} {P:α->Prop} (h:a=b) (k:P a):P b:=h▸k
theorem ai{p:Prop} [Decidable p](h:decide p=true:=by rfl):p:=of_decide_eq_true h
end
local macro_rules
| `(tactic|cases $x:ident)=> `(tactic|first
  |subst $x:ident
  |(injection $x:ident with h1 h2 h3;cases h1;cases h2;cases h3)
  |(injection $x:ident with h1 h2;cases h1;cases h2)
  |(injection $x:ident with h1;cases h1)
  |(injection $x:ident;done)
  |rcases $x:ident with⟨⟩)
| `(tactic|rw[$rs,*])=>do
 let a:=rs.elemsAndSeps
 let r:=a.getD 0 .missing
 let e:Lean.Term:=⟨r[1]⟩
 let e←if r[0].isNone then `(aD $e ?_)else `(aR $e ?_)
 let t←if a.size<2 then `(tactic|try with_reducible rfl)else `(tactic|rw[$(⟨a.extract 2 a.size⟩),*])
 let t← `(tactic|((first|refine $e|rewrite [$(⟨r⟩)]);$t))
 return t
set_option genCtorIdx false in
inductive V where
 |n
 |b (b:aB)
 |i (i:ag)
 |s (n:ae)
 |t (l:af V)
 |r (a:ae)
def V.ctorIdx(x:V):Nat:=V.casesOn (motive_1:=λU=>Nat) x 0 (λU=>1) (λU=>2) (λU=>3) (λU=>4) (λU=>5)
def V.uj:V->aw h8| .n=>ab ()|_=>ys
def V.ui:V->aw aB| .b x=>ab x|_=>ys
def V.n0:V->aw ag| .i x=>ab x|_=>ys
def V.wW:V->aw ae| .s x=>ab x|_=>ys
def V.yN:V->aw (af V)| .t x=>ab x|_=>ys
def V.Lu:V->aw ae| .r x=>ab x|_=>ys
mutual
noncomputable def V.beq:V->V->aB
 | .n,.n=>ak
 | .b x,.b y=>x==y
 | .i x,.i y=>decide (x=y)
 | .s x,.s y=>decide (x=y)
 | .t x,.t y=>V.Fb x y
 | .r x,.r y=>decide (x=y)
 |_,_=>av
noncomputable def V.Fb:af V->af V->aB
 |[],[]=>ak
 |x::l,y::m=>V.beq x y&&V.Fb l m
 |_,_=>av
end
abbrev dr:=ag×ag×aw (af ag)
def aL(l:af ag):af V:=l.map .i
def dr.v:dr->V
 |(a,b,aj)=>.t [.i a,.i b]
 |(a,b,ab l)=>.t [.i a,.i b,.t (aL l)]
def c'(p:ag×ag):V:=.t [.i p.1,.i p.2]
inductive nT where
 |made|bare|ctx
set_option genCtorIdx false in
inductive dN where
 |l (l:af V)
 |d (ao:af (ag×V))
 |s (ao:af (ae×V))
 |t (ao:af (dr×V))
 |i (C:ae) (fs:af (ae×V))
 |e (C:ae) (fs:af (ae×V)) (r:nT)
def dN.ctorIdx(x:dN):Nat:=dN.casesOn (motive:=λU=>Nat) x (λU=>0) (λU=>1) (λU=>2) (λU=>3) (λU U=>4) (λU U U=>5)
structure O where
 tag:ae
 d:dN
abbrev H:=ae->aw O
abbrev bQ:=V->H->Prop
abbrev bR:=ae->H->Prop
abbrev dn:=H->Prop
def aC(σ:H)(a:ae)(o:O):H:=λb=>if b=a then ab o else σ b
def bN:ae:=1000000
def cw{K:Type} [j6 K](ao:af (K×V))(k:K):aw V:=(ao.find? λd1=>d1.1=k).map (·.2)
def dA{K:Type} [j6 K](ao:af (K×V))(k:K)(v:V):af (K×V):=
 if ao.any (λd1=>d1.1=k)then ao.map (λd1=>if d1.1=k then(d1.1,v)else d1)else ao++[(k,v)]
def q0{K:Type} [j6 K](ao:af (K×V))(k:K):af (K×V):=ao.filter λd1=>decide (d1.1≠k)
def intsOf:af V->aw (af ag)
 |[]=>ab []
 | .i i::r=>(intsOf r).map (i::·)
 |_=>aj
def q9:dN->V->aw (aw V)
 | .d ao,k=>k.n0.map (cw ao)
 | .s ao,k=>k.wW.map (cw ao)
 |_,_=>aj
def w1(o:dN)(k v:V):aw dN:=match o with
 | .d ao=>k.n0.bind λi=>if ao.length<bN then ab (.d (dA ao i v))else aj
 | .s ao=>k.wW.bind λn=>if ao.length<bN then ab (.s (dA ao n v))else aj
 |_=>aj
def fM:af (ae×V)->ae->aw V
 |[],_=>aj
 |(k,v)::r,x=>if k=x then ab v else fM r x
def hS:af (ae×V)->ae->V->af (ae×V)
 |[],x,v=>[(x,v)]
 |(k,w)::r,x,v=>if k=x then(k,v)::r else(k,w)::hS r x v
def lst(σ:H)(p:ae):aw (af V):=match σ p with
 |some ⟨_,.l l⟩=>ab l
 |_=>aj
def lT(f:V->V->aw aB):af V->af V->aw aB
 |[],m=>ab m.isEmpty
 |a::l,b::m=>(f a b).bind λx=>(lT f l m).map (x&&·)
 |_::_,[]=>ab av
def fx(σ:H):ae->V->V->aw aB
 |0,_,_=>aj
 |_+1,.n,b=>b.uj.map λU=>ak
 |_+1,.b a,b=>b.ui.map (a==·)
 |_+1,.i a,b=>b.n0.map λb=>decide (a=b)
 |_+1,.s a,b=>b.wW.map λb=>decide (a=b)
 |n+1,.t l,b=>b.yN.bind (lT (fx σ n) l)
 |n+1,.r a,b=>b.Lu.bind λb=>(lst σ a).bind λl=>(lst σ b).bind λm=>if l.length=m.length then lT (fx σ n) l m else ab av
def m1(σ:H)(x:V):af V->aw aB
 |[]=>ab av
 |y::r=>(fx σ 8 y x).bind λa=>(m1 σ x r).map (a||·)
inductive kO where
 |e|n|l|L|g|G|i|I|m|M
 deriving DecidableEq
inductive m6 where
 |a|s|m|f|b
 deriving DecidableEq
inductive qJ where
 |l|L|t|s|m
 deriving DecidableEq
def IG(σ:H)(x:V):V->aw aB
 | .t l=>m1 σ x l
 | .r p=>(lst σ p).elim ((σ p).bind λo=>(q9 o.d x).map (·.isSome)) (m1 σ x)
 |_=>aj
def yW(f:ag->ag->aB)(a b:V):aw aB:=a.n0.bind λi=>b.n0.map (f i)
def j3(σ:H):kO->V->V->aw aB
 | .e,a,b=>fx σ 8 a b
 | .n,a,b=>(fx σ 8 a b).map (!·)
 | .l,a,b=>yW (λa b=>decide (a<b)) a b
 | .L,a,b=>yW (λa b=>decide (a<=b)) a b
 | .g,a,b=>yW (λa b=>decide (b<a)) a b
 | .G,a,b=>yW (λa b=>decide (b<=a)) a b
 | .i,a,b=>b.uj.map λU=>a.uj.isSome
 | .I,a,b=>b.uj.map λU=> !a.uj.isSome
 | .m,a,b=>IG σ a b
 | .M,a,b=>(IG σ a b).map (!·)
def jC(σ:H):V->aw aB
 | .n=>ab av
 | .b b=>ab b
 | .i i=>ab (decide (i≠0))
 | .r p=>(lst σ p).map (!·.isEmpty)
 |_=>aj
def vIf(σ:H)(v:V)(P:aB->Prop):Prop:=∃b,jC σ v=ab b/\P b
def vNew(d:dN)(σ:H)(Q:V->H->Prop):Prop:=∀a,σ a=aj->∃t,t≠0/\Q (.r a) (aC σ a ⟨t,d⟩)
def Q'(l:af V)(σ:H)(Q:V->H->Prop):Prop:=l.length<=bN/\vNew (.l l) σ Q
def xS(σ:H):V->aw (af V)
 | .t l=>ab l
 | .r p=>lst σ p
 |_=>aj
inductive mZ(σ:H)(Q:bQ):m6->V->V->Prop
 |add {x y:ag}:Q (.i (x+y)) σ->mZ σ Q .a (.i x) (.i y)
 |sub {x y:ag}:Q (.i (x - y)) σ->mZ σ Q .s (.i x) (.i y)
 |mod {x y:ag}:0<y->Q (.i (x%y)) σ->mZ σ Q .m (.i x) (.i y)
 |fdiv {x y:ag}:0<y->y<1000000->Q (.i (x/y)) σ->mZ σ Q .f (.i x) (.i y)
 |band {x y:ag}:0<=x->0<=y->Q (.i ((x.toNat&&& y.toNat:ae):ag)) σ->mZ σ Q .b (.i x) (.i y)
 |cat {p q t u:ae} {l m:af V}:σ p=ab ⟨t,.l l⟩->σ q=ab ⟨u,.l m⟩->Q' (l++m) σ Q->mZ σ Q .a (.r p) (.r q)
def n6{α:Type}(le:α->α->aB)(x:α):af α->af α
 |[]=>[x]
 |y::r=>aG (le x y) (x::y::r) (y::n6 le x r)
def Oi(a b:ag):aB:=decide (a<=b)
abbrev sortI(l:af ag):af ag:=l.foldr (n6 Oi) []
def zS(a b:ag×ag):aB:=decide (a.1<b.1)||(decide (a.1=b.1)&&decide (a.2<=b.2))
abbrev sortP(l:af (ag×ag)):af (ag×ag):=l.foldr (n6 zS) []
inductive mY(σ:H)(Q:bQ):qJ->af V->Prop
 |len {v:V} {l:af V}:xS σ v=ab l->Q (.i l.length) σ->mY σ Q .l [v]
 |list {v:V} {l:af V}:xS σ v=ab l->vNew (.l l) σ Q->mY σ Q .L [v]
 |tuple {p t:ae} {l:af V}:σ p=ab ⟨t,.l l⟩->Q (.t l) σ->mY σ Q .t [.r p]
 |sortI {p t:ae} {l:af ag}:σ p=ab ⟨t,.l (aL l)⟩->l.length<64->vNew (.l (aL (sortI l))) σ Q->mY σ Q .s [.r p]
 |aW1 {p t:ae} {ao:af (ag×V)}:σ p=ab ⟨t,.d ao⟩->ao.length<64->vNew (.l (aL (sortI (ao.map (·.1))))) σ Q->mY σ Q .s [.r p]
 |sortP {p t:ae} {l:af (ag×ag)}:σ p=ab ⟨t,.l (l.map c')⟩->l.length<64->l.Nodup->vNew (.l ((sortP l).map c')) σ Q->mY σ Q .s [.r p]
 |min {p t:ae} {x:ag} {l:af ag}:σ p=ab ⟨t,.l (aL (x::l))⟩->Q (.i (l.foldl (λa b=>if b<a then b else a) x)) σ->mY σ Q .m [.r p]
def place(n:ae)(i:ag):aw ae:=if 0<=i then(if i<n then ab i.toNat else aj)else(if -(n:ag)<=i then ab (n+i).toNat else aj)
def k5(l:af V)(k:ag):aw V:=(place l.length k).bind (l[·]?)
inductive vU(σ:H)(Q:V->Prop):V->V->Prop
 |tup {l:af V} {k:ag} {v:V}:k5 l k=ab v->Q v->vU σ Q (.t l) (.i k)
 |list {p t:ae} {l:af V} {k:ag} {v:V}:σ p=ab ⟨t,.l l⟩->k5 l k=ab v->Q v->vU σ Q (.r p) (.i k)
 |dict {p t:ae} {d:dN} {i v:V}:σ p=ab ⟨t,d⟩->q9 d i=ab (ab v)->Q v->vU σ Q (.r p) i
inductive Di(σ:H)(f:ae)(Q:V->Prop):V->Prop
 |i {p t C:ae} {fs:af (ae×V)} {v:V}:σ p=ab ⟨t,.i C fs⟩->fM fs f=ab v->Q v->Di σ f Q (.r p)
 |e {p t C:ae} {fs:af (ae×V)} {r:nT} {v:V}:σ p=ab ⟨t,.e C fs r⟩->fM fs f=ab v->Q v->Di σ f Q (.r p)
def wZ(n:ae)(k:ag):ae:=if 0<=k then min k.toNat n else(n+k).toNat
inductive Bd where
 |to (k:ag)
 |rev
 deriving j6
def ru(s:Bd)(l:af V):af V:=match s with
 | .to k=>l.take (wZ l.length k)
 | .rev=>l.reverse
inductive IL(σ:H)(Q:bQ)(s:Bd):V->Prop
 |list {p t:ae} {l:af V}:σ p=ab ⟨t,.l l⟩->vNew (.l (ru s l)) σ Q->IL σ Q s (.r p)
 |tup {l:af V} {k:ae}:s=.to k->k<l.length->Q (.t (l.take k)) σ->IL σ Q s (.t l)
inductive Dk(σ:H)(Q:bQ):V->V->Prop
 |tup {k:ag} {l:af V}:0<=k->Q (.t (l.drop k.toNat)) σ->Dk σ Q (.t l) (.i k)
def putAll:af V->dN->aw dN
 |k::v::r,o=>(w1 o k v).bind (putAll r)
 |[],o=>ab o
 |_,_=>aj
inductive tZ where
 |i|s|t
def tZ.empty:tZ->dN
 | .i=>.d []
 | .s=>.s []
 | .t=>.t []
def me(a d:ag):ae->af V
 |0=>[]
 |n+1=>.i a::me (a+d) d n
def H5(a b:ag):af V:=me a 1 (b - a).toNat
def PQ(a b:ag):af V:=me a (-1) (a - b).toNat
def w3:ag->af V->af V
 |_,[]=>[]
 |n,v::r=>.t [.i n,v]::w3 (n+1) r
inductive Src where
 |i|r|down|e|rev
 deriving DecidableEq
set_option genCtorIdx false in
inductive aW where
 |n
 |b (b:aB)
 |i (i:ag)
 |s (n:ae)
 |c (v:V)
 |l (n:ae)
 |g (i:ag)
 |N (e:aW)
 |A (a b:aW)
 |O (a b:aW)
 |I (c a b:aW)
 |o (op:m6) (a b:aW)
 |p (op:kO) (a b:aW)
 |P (c5:kO) (cX:kO) (a b c:aW)
 |a (e:aW) (f:ae)
 |u (e i:aW)
 |S (s:Bd) (e:aW)
 |F (e i:aW)
 |t (ao:af aW)
 |L (ao:af aW)
 |D (k:tZ) (ao:af aW)
 |B (b:qJ) (ao:af aW)
 |f (f:ae) (ao:af aW)
 |w (C:ae) (ao:af aW)
 |m (e:aW) (m:ae) (ao:af aW)
 |C (elt:aW) (nv:ae) (src:Src) (over:af aW) (cond:af aW) (free:af ae)
 |bad
def aW.ctorIdx(x:aW):Nat:=aW.casesOn (motive_1:=λU=>Nat) x 0 (λU=>1) (λU=>2) (λU=>3) (λU=>4) (λU=>5) (λU=>6) (λU=>7) (λU U=>8) (λU U=>9) (λU U U=>10) (λU U U=>11) (λU U U=>12) (λU U U U U=>13) (λU U=>14) (λU U=>15) (λU U=>16) (λU U=>17) (λU=>18) (λU=>19) (λU U=>20) (λU U=>21) (λU U=>22) (λU U=>23) (λU U U=>24) (λU U U U U U=>25) 26
abbrev bf:=af (aw V)
def bf.get(lm:bf)(n:ae):aw V:=(lm[n]?).join
abbrev cy:=ae->af V->H->(V->H->Prop)->(ae->H->Prop)->Prop
structure EG where
 base:aw ae
 exc:aB
 init:aw ae
 meths:af (ae×ae)
 i8:af ae
structure rY where
 np:ae
 nl:ae
abbrev oF:=ae->aw EG
def vr(aZ:oF):ae->ae->ae->aw ae
 |0,_,_=>aj
 |n+1,C,m=>match aZ C with
  |some c=>match c.meths.lookup m with
   |some f=>ab f
   |none=>c.base.bind λB=>vr aZ n B m
  |none=>aj
def mN(aZ:oF):ae->ae->aw (aw ae)
 |0,_=>aj
 |n+1,C=>match aZ C with
  |some c=>match c.init with
   |some f=>ab (ab f)
   |none=>match c.base with
    |some B=>mN aZ n B
    |none=>ab aj
  |none=>aj
def zj(aZ:oF):ae->ae->ae->aB
 |0,_,_=>av
 |n+1,C,D=>C==D||match aZ C with
  |some c=>match c.base with
   |some B=>zj aZ n B D
   |none=>av
  |none=>av
def g8(aZ:oF)(C:ae):aw aB:=(aZ C).map (·.exc)
inductive xR(aZ:oF)(F:cy)(C:ae)(σ:H)(Q:bQ)(X:bR):af V->Prop
 |init {x:aB} {f:ae} {args:af V}:g8 aZ C=ab x->mN aZ 8 C=ab (ab f)->args.length<=9->(∀a,σ a=aj->∃t,t≠0/\F f (.r a::args) (aC σ a ⟨t,aG x (.e C [] .made) (.i C [])⟩) (λv ah=>v=.n/\Q (.r a) ah) X)->xR aZ F C σ Q X args
 |plain:g8 aZ C=ab av->mN aZ 8 C=ab aj->vNew (.i C []) σ Q->xR aZ F C σ Q X []
def Ce:ae:=0
def Cg:ae:=1
def Hh:ae:=2
def zE:ae:=3
def tj(x:ag):af ag->aw (af ag)
 |[]=>aj
 |y::r=>if y=x then ab r else(tj x r).map (y::·)
inductive rB(σ:H)(Q:bQ)(p m t:ae):dN->af V->Prop
 |app {l:af V} {v:V}:m=Ce->t≠0->l.length<bN->Q .n (aC σ p ⟨t,.l (l++[v])⟩)->rB σ Q p m t (.l l) [v]
 |pop {l:af V} {v:V}:m=Cg->t≠0->Q v (aC σ p ⟨t,.l l⟩)->rB σ Q p m t (.l (l++[v])) []
 |rem {l l':af ag} {x:ag}:m=Hh->t≠0->tj x l=ab l'->Q .n (aC σ p ⟨t,.l (aL l')⟩)->rB σ Q p m t (.l (aL l)) [.i x]
 |get {o:dN} {k:V} {r:aw V}:m=zE->q9 o k=ab r->Q (r.getD .n) σ->rB σ Q p m t o [k]
 |Gg {o:dN} {k d:V} {r:aw V}:m=zE->q9 o k=ab r->Q (r.getD d) σ->rB σ Q p m t o [k,d]
 |QR {ao:af (dr×V)} {r:dr} {d:V}:m=zE->Q ((cw ao r).getD d) σ->rB σ Q p m t (.t ao) [r.v,d]
def zM:dN->ae
 | .l _=>0
 | .d _| .s _| .t _=>1
 |_=>2
def HW(d:dN)(m:ae):aB:=match d with
 | .l _=>m==Ce||m==Cg||m==Hh
 | .d _| .s _| .t _=>m==zE
 |_=>av
def yX(f:V->af V->H->(af V->H->Prop)->Prop)(g:H->Prop):af V->af V->H->(af V->H->Prop)->Prop
 |[],acc,σ,k=>g σ/\k acc σ
 |x::r,acc,σ,k=>g σ/\f x acc σ λWd ah=>yX f g r Wd ah k
inductive IH(aZ:oF)(σ:H)(m:ae)(EY:ae->ae->Prop)(EZ:ae->dN->Prop):V->Prop
 |inst {p t C f:ae} {fs:af (ae×V)}:σ p=ab ⟨t,.i C fs⟩->fM fs m=aj->vr aZ 8 C m=ab f->EY p f->IH aZ σ m EY EZ (.r p)
 |own {p t:ae} {d:dN}:σ p=ab ⟨t,d⟩->HW d m=ak->EZ p d->IH aZ σ m EY EZ (.r p)
inductive h5(σ:H)(K:af V->dn->Prop):Src->af V->Prop
 |tup {l:af V}:K l (λU=>gN)->h5 σ K .i [.t l]
 |list {p t:ae} {l:af V}:σ p=ab ⟨t,.l l⟩->K l (λah=>∃t,ah p=ab ⟨t,.l l⟩)->h5 σ K .i [.r p]
 |aN6 {b:ag}: -bN<=b->b<=bN->K (H5 0 b) (λU=>gN)->h5 σ K .r [.i b]
 |aN7 {a b:ag}: -bN<=a->a<=bN-> -bN<=b->b<=bN->K (H5 a b) (λU=>gN)->h5 σ K .r [.i a,.i b]
 |down {a b:ag}: -bN<=a->a<=bN-> -bN<=b->b<=bN->K (PQ a b) (λU=>gN)->h5 σ K .down [.i a,.i b,.i (-1)]
 |enum {p t:ae} {l:af V}:σ p=ab ⟨t,.l l⟩->K (w3 0 l) (λah=>∃t,ah p=ab ⟨t,.l l⟩)->h5 σ K .e [.r p]
 |rev {l:af V}:K l.reverse (λU=>gN)->h5 σ K .rev [.t l]
def lS:ae->V->aw (af V)
 |1,v=>ab [v]
 |n,.t l=>if l.length=n then ab l else aj
 |_,_=>aj
section
variable(aZ:oF)
mutual
noncomputable def vE(F:cy)(hd:aw ae)(lm:bf):aW->H->bQ->bR->Prop
 | .n,σ,Q,_=>Q .n σ
 | .b b,σ,Q,_=>Q (.b b) σ
 | .i i,σ,Q,_=>Q (.i i) σ
 | .g i,σ,Q,_=>Q (.i (-i)) σ
 | .s n,σ,Q,_=>Q (.s n) σ
 | .c v,σ,Q,_=>Q v σ
 | .l n,σ,Q,_=>∃v,lm.get n=ab v/\Q v σ
 | .N e,σ,Q,X=>vE F hd lm e σ (λv σ=>vIf σ v λb=>Q (.b (!b)) σ) X
 | .A a b,σ,Q,X=>vE F hd lm a σ (λv σ=>vIf σ v λt=>aG t (vE F hd lm b σ Q X) (Q v σ)) X
 | .O a b,σ,Q,X=>vE F hd lm a σ (λv σ=>vIf σ v λt=>aG t (Q v σ) (vE F hd lm b σ Q X)) X
 | .I c a b,σ,Q,X=>vE F hd lm c σ (λv σ=>vIf σ v λt=>aG t (vE F hd lm a σ Q X) (vE F hd lm b σ Q X)) X
 | .o op a b,σ,Q,X=>vE F hd lm a σ (λx σ=>vE F hd lm b σ (λy σ=>mZ σ Q op x y) X) X
 | .p op a b,σ,Q,X=>vE F hd lm a σ (λx σ=>vE F hd lm b σ (λy σ=>∃r,j3 σ op x y=ab r/\Q (.b r) σ) X) X
 | .P c5 cX a b c,σ,Q,X=>vE F hd lm a σ (λx σ=>vE F hd lm b σ (λy σ=>∃r,j3 σ c5 x y=ab r/\aG r (vE F hd lm c σ (λz σ=>∃r,j3 σ cX y z=ab r/\Q (.b r) σ) X) (Q (.b av) σ)) X) X
 | .a e f,σ,Q,X=>vE F hd lm e σ (λv σ=>Di σ f (λu=>Q u σ) v) X
 | .u e i,σ,Q,X=>vE F hd lm e σ (λv σ=>vE F hd lm i σ (λj σ=>vU σ (λu=>Q u σ) v j) X) X
 | .S s e,σ,Q,X=>hd=aj/\vE F hd lm e σ (λv σ=>IL σ Q s v) X
 | .F e i,σ,Q,X=>hd=aj/\vE F hd lm e σ (λv σ=>vE F hd lm i σ (λj σ=>Dk σ Q v j) X) X
 | .t ao,σ,Q,X=>h4 F hd lm ao σ (λl σ=>l.length<=bN/\Q (.t l) σ) X
 | .L ao,σ,Q,X=>h4 F hd lm ao σ (λl σ=>Q' l σ Q) X
 | .D k ao,σ,Q,X=>hd=aj/\h4 F hd lm ao σ (λl σ=>∃o,putAll l k.empty=ab o/\vNew o σ Q) X
 | .B b ao,σ,Q,X=>hd=aj/\h4 F hd lm ao σ (λl σ=>mY σ Q b l) X
 | .f f ao,σ,Q,X=>h4 F hd lm ao σ (λl σ=>F f l σ Q X) X
 | .w C ao,σ,Q,X=>h4 F hd lm ao σ (λl σ=>xR aZ F C σ Q X l) X
 | .m e m ao,σ,Q,X=>vE F hd lm e σ (λv σ=>IH aZ σ m (λp f=>h4 F hd lm ao σ (λl σ=>F f (.r p::l) σ Q X) X)
   (λp d=>h4 F hd lm ao σ (λl σ=>∃t ee,σ p=ab ⟨t,ee⟩/\zM d=zM ee/\rB σ Q p m t ee l) X) v) X
 | .C elt nv src over Xs free,σ,Q,X=>hd=aj/\h4 F hd lm over σ (λargs σ=>h5 σ (λitems g=>
   yX (λx acc σ k=>∃vs,lS nv x=ab vs/\Dj (λU U U U U=>dg) hd (vs.map ab++free.map lm.get) Xs σ (λb σ=>aG b (vE (λU U U U U=>dg) hd (vs.map ab++free.map lm.get) elt σ (λv σ=>acc.length<bN/\k (acc++[v]) σ) (λU U=>dg)) (k acc σ)) λU U=>dg)
    g items [] σ λacc σ=>vNew (.l acc) σ Q) src args) X
 | .bad,_,_,_=>dg
noncomputable def h4(F:cy)(hd:aw ae)(lm:bf):af aW->H->(af V->H->Prop)->bR->Prop
 |[],σ,Q,_=>Q [] σ
 |e::r,σ,Q,X=>vE F hd lm e σ (λv σ=>h4 F hd lm r σ (λl σ=>Q (v::l) σ) X) X
noncomputable def Dj(F:cy)(hd:aw ae)(lm:bf):af aW->H->(aB->H->Prop)->bR->Prop
 |[],σ,Q,_=>Q ak σ
 |e::r,σ,Q,X=>vE F hd lm e σ (λv σ=>vIf σ v λt=>aG t (Dj F hd lm r σ Q X) (Q av σ)) X
end
end
set_option genCtorIdx false in
inductive St where
 |r (e:aW)
 |mg
 |a (n:ae) (e:aW)
 |kh (ns:af ae) (e:aW)
 |A (o:aW) (f:ae) (e:aW)
 |S (o i e:aW)
 |p4 (n:ae) (op:m6) (e:aW)
 |q3 (o i:aW) (op:m6) (e:aW)
 |e (e:aW)
 |i (c:aW) (a b:af St)
 |pA (c:aW) (b:af St)
 |dw (ns:af ae) (src:Src) (over:af aW) (b:af St)
 |R (C:ae) (ao:af aW)
 |tf (b:af St) (hs:af (ae×aw ae×af St))
 |del (o i:aW)
 |pass
 |cont
 |bad
def St.ctorIdx(x:St):Nat:=St.casesOn (motive_1:=λU=>Nat) x (λU=>0) 1 (λU U=>2) (λU U=>3) (λU U U=>4) (λU U U=>5) (λU U U=>6) (λU U U U=>7) (λU=>8) (λU U U=>9) (λU U=>10) (λU U U U=>11) (λU U=>12) (λU U=>13) (λU U=>14) 15 16 17
structure cT where
 n:bf->H->Prop
 c:bf->H->Prop
 r:V->H->Prop
 x:ae->bf->H->Prop
def iW:bf->af ae->af V->bf
 |lm,n::ns,v::vs=>iW (lm.set n (ab v)) ns vs
 |lm,_,_=>lm
def forM(f:V->bf->H->(bf->H->Prop)->Prop)(g:H->Prop):af V->bf->H->(bf->H->Prop)->Prop
 |[],lm,σ,k=>g σ/\k lm σ
 |x::r,lm,σ,k=>g σ/\f x lm σ λiD ah=>forM f g r iD ah k
def Dn(c:bf->H->(aB->H->Prop)->Prop)(f:bf->H->(bf->H->Prop)->Prop):ae->bf->H->(bf->H->Prop)->Prop
 |0,_,_,_=>dg
 |n+1,lm,σ,k=>c lm σ λb ah=>aG b (f lm ah λiD hp=>Dn c f n iD hp k) (k lm ah)
inductive IK(aZ:oF)(σ:H)(f:ae)(v:V)(Q:dn):V->Prop
 |i {p t C:ae} {fs:af (ae×V)}:σ p=ab ⟨t,.i C fs⟩->t≠0->fs.length<bN->(aZ C).any (·.i8.contains f)=ak->Q (aC σ p ⟨t,.i C (hS fs f v)⟩)->IK aZ σ f v Q (.r p)
 |e {p t C:ae} {fs:af (ae×V)} {r:nT}:σ p=ab ⟨t,.e C fs r⟩->t≠0->fs.length<bN->(aZ C).any (·.i8.contains f)=ak->Q (aC σ p ⟨t,.e C (hS fs f v) r⟩)->IK aZ σ f v Q (.r p)
inductive xT(σ:H)(v:V)(Q:dn):V->V->Prop
 |list {p t:ae} {l:af V} {k:ag}:σ p=ab ⟨t,.l l⟩->0<=k->k<l.length->t≠0->Q (aC σ p ⟨t,.l (l.set k.toNat v)⟩)->xT σ v Q (.r p) (.i k)
 |dict {p t:ae} {o o':dN} {i:V}:σ p=ab ⟨t,o⟩->w1 o i v=ab o'->t≠0->Q (aC σ p ⟨t,o'⟩)->xT σ v Q (.r p) i
 |row {p t:ae} {ao:af (dr×V)} {r:dr}:σ p=ab ⟨t,.t ao⟩->ao.length<bN->t≠0->Q (aC σ p ⟨t,.t (dA ao r v)⟩)->xT σ v Q (.r p) r.v
inductive IE(σ:H)(Q:dn):V->V->Prop
 |mk {p t:ae} {ao:af (ag×V)} {k:ag}:σ p=ab ⟨t,.d ao⟩->t≠0->(cw ao k).isSome=ak->Q (aC σ p ⟨t,.d (q0 ao k)⟩)->IE σ Q (.r p) (.i k)
inductive rC(σ:H)(P:bR):aw ae->V->Prop
 |top {e t D:ae} {fs:af (ae×V)}:σ e=ab ⟨t,.e D fs .made⟩->t≠0->P e (aC σ e ⟨t,.e D fs .bare⟩)->rC σ P aj (.r e)
 |ctx {h e t D u C:ae} {fs jv:af (ae×V)}:σ e=ab ⟨t,.e D fs .made⟩->t≠0->σ h=ab ⟨u,.e C jv .bare⟩->P e (aC σ e ⟨t,.e D fs .ctx⟩)->rC σ P (ab h) (.r e)
def s9(lm:bf):aw ae->aw V->bf
 |some n,v=>lm.set n v
 |none,_=>lm
section
variable(aZ:oF)
mutual
noncomputable def IJ(F:cy)(a':ae->cy)(hd:aw ae):St->bf->H->cT->Prop
 | .r e,lm,σ,k=>vE aZ F hd lm e σ k.r λa σ=>k.x a lm σ
 | .mg,_,σ,k=>k.r .n σ
 | .a n e,lm,σ,k=>vE aZ F hd lm e σ (λv σ=>k.n (lm.set n (ab v)) σ) λa σ=>k.x a lm σ
 | .kh ns e,lm,σ,k=>hd=aj/\vE aZ F hd lm e σ (λv σ=>∃l,v=.t l/\l.length=ns.length/\k.n (iW lm ns l) σ) λa σ=>k.x a lm σ
 | .A o f e,lm,σ,k=>vE aZ F hd lm e σ (λv σ=>vE aZ F hd lm o σ (λa σ=>IK aZ σ f v (k.n lm) a) λa σ=>k.x a lm σ) λa σ=>k.x a lm σ
 | .S o i e,lm,σ,k=>hd=aj/\vE aZ F hd lm e σ (λv σ=>vE aZ F hd lm o σ (λa σ=>vE aZ F hd lm i σ (λj σ=>xT σ v (k.n lm) a j) λa σ=>k.x a lm σ) λa σ=>k.x a lm σ) λa σ=>k.x a lm σ
 | .p4 n op e,lm,σ,k=>∃x,lm.get n=ab (.i x)/\vE aZ F hd lm e σ (λy σ=>∃j,y=.i j/\mZ σ (λv σ=>k.n (lm.set n (ab v)) σ) op (.i x) (.i j)) λa σ=>k.x a lm σ
 | .q3 o i op e,lm,σ,k=>hd=aj/\vE aZ F hd lm o σ (λa σ=>vE aZ F hd lm i σ (λj σ=>vU σ (λx=>vE aZ F hd lm e σ (λy σ=>∃hn lh,x=.i hn/\y=.i lh/\mZ σ (λv σ=>xT σ v (k.n lm) a j) op (.i hn) (.i lh)) λa σ=>k.x a lm σ) a j) λa σ=>k.x a lm σ) λa σ=>k.x a lm σ
 | .e e,lm,σ,k=>vE aZ F hd lm e σ (λU σ=>k.n lm σ) λa σ=>k.x a lm σ
 | .i c a b,lm,σ,k=>vE aZ F hd lm c σ (λv σ=>vIf σ v λt=>aG t (mj F a' hd a lm σ k) (mj F a' hd b lm σ k)) λa σ=>k.x a lm σ
 | .pA c b,lm,σ,k=>hd=aj/\∃n,Dn (λlm σ K=>vE aZ F hd lm c σ (λv σ=>vIf σ v λr=>K r σ) λa σ=>k.x a lm σ)
  (λlm σ K=>mj F a' hd b lm σ ⟨K,K,k.r,k.x⟩) n lm σ k.n
 | .dw ns src over b,lm,σ,k=>hd=aj/\h4 aZ F hd lm over σ (λargs σ=>
   (∃p t ao,src=.i/\args=[.r p]/\σ p=ab ⟨t,.d ao⟩/\t≠0/\forM (λx lm σ K=>∃vs,lS ns.length x=ab vs/\
     mj F a' hd b (iW lm ns vs) σ ⟨K,K,λv σ=>k.r v (aC σ p ⟨t,.d ao⟩),λa lm σ=>k.x a lm (aC σ p ⟨t,.d ao⟩)⟩)
     (λah=>ah p=ab ⟨0,.d ao⟩) (ao.map λp=>.i p.1) lm (aC σ p ⟨0,.d ao⟩) λlm σ=>k.n lm (aC σ p ⟨t,.d ao⟩))\/
   h5 σ (λitems g=>forM (λx lm σ K=>∃vs,lS ns.length x=ab vs/\mj F a' hd b (iW lm ns vs) σ ⟨K,K,k.r,k.x⟩) g items lm σ k.n) src args) λa σ=>k.x a lm σ
 | .R C ao,lm,σ,k=>g8 aZ C=ab ak/\h4 aZ F hd lm ao σ (λl σ=>xR aZ F C σ (λv σ=>rC σ (λe σ=>k.x e lm σ) hd v) (λa σ=>k.x a lm σ) l) λa σ=>k.x a lm σ
 | .tf b hs,lm,σ,k=>hd=aj/\mj F a' hd b lm σ ⟨k.n,k.c,k.r,λe lm σ=>∃t C fs r,σ e=ab ⟨t,.e C fs r⟩/\IF a' C e hs lm σ k⟩
 | .del o i,lm,σ,k=>hd=aj/\vE aZ F hd lm o σ (λa σ=>vE aZ F hd lm i σ (λj σ=>IE σ (k.n lm) a j) λa σ=>k.x a lm σ) λa σ=>k.x a lm σ
 | .pass,lm,σ,k=>k.n lm σ
 | .cont,lm,σ,k=>k.c lm σ
 | .bad,_,_,_=>dg
noncomputable def mj(F:cy)(a':ae->cy)(hd:aw ae):af St->bf->H->cT->Prop
 |[],lm,σ,k=>k.n lm σ
 |s::r,lm,σ,k=>IJ F a' hd s lm σ ⟨λlm σ=>mj F a' hd r lm σ k,k.c,k.r,k.x⟩
noncomputable def IF(a':ae->cy)(C e:ae):af (ae×aw ae×af St)->bf->H->cT->Prop
 |[],lm,σ,k=>k.x e lm σ
 |(D,nm,b)::r,lm,σ,k=>g8 aZ D=ab ak/\aG (zj aZ 8 C D)
   (mj (a' e) a' (ab e) b (s9 lm nm (ab (.r e))) σ ⟨λlm σ=>k.n (s9 lm nm aj) σ,λlm σ=>k.c (s9 lm nm aj) σ,k.r,λa lm σ=>k.x a (s9 lm nm aj) σ⟩)
   (IF a' C e r lm σ k)
end
end
structure bL where
 np:ae
 nl:ae
 body:af St
def dQ(aZ:oF)(P:ae->aw bL):aw ae->ae->cy
 |_,0=>λU U U U U=>dg
 |hd,n+1=>λf args σ Q X=>∃d,P f=ab d/\args.length=d.np/\mj aZ (dQ aZ P hd n) (λe=>dQ aZ P (ab e) n) hd d.body (args.map ab++pP (d.nl - d.np) aj) σ
    ⟨λU σ=>Q .n σ,λU U=>dg,Q,λe U σ=>X e σ⟩
theorem E9{v:V}{x:h8}(h:v.uj=ab x):v=.n:=by cases v<;>first|rfl|cases h
theorem wV{v:V}{x:aB}(h:v.ui=ab x):v=.b x:=by cases v<;>cases h<;>rfl
theorem q2{v:V}{x:ag}(h:v.n0=ab x):v=.i x:=by cases v<;>cases h<;>rfl
theorem yM{v:V}{x:ae}(h:v.wW=ab x):v=.s x:=by cases v<;>cases h<;>rfl
theorem Lv{v:V}{x:af V}(h:v.yN=ab x):v=.t x:=by cases v<;>cases h<;>rfl
theorem Wu{v:V}{x:ae}(h:v.Lu=ab x):v=.r x:=by cases v<;>cases h<;>rfl
theorem zy{σ:H}{p:ae}{l:af V}{C:Prop}(h:lst σ p=ab l)(k:∀t,σ p=ab ⟨t,.l l⟩->C):C:=by
 unfold lst at h
 generalize σ p=o at h k
 rcases o with _|⟨t,d⟩
 ·cases h
 ·cases d<;>cases h
  exact k t aa
@[elab_as_elim] theorem omap {α β:Type} {f:α->β} {o:aw α} {P:β->Prop} {b:β} (h:o.map f=ab b) (k:∀a,o=ab a->P (f a)):P b:=by
 rcases o with _|a
 ·cases h
 ·cases h;exact k a aa
theorem eD{α β:Type}{f:α->aw β}{o:aw α}{b:β}{C:Prop}(h:o.bind f=ab b)(k:∀a,o=ab a->f a=ab b->C):C:=by
 rcases o with _|a
 ·cases h
 ·exact k a aa h
theorem o9{σ:H}{p t:ae}{l:af V}(h:σ p=ab ⟨t,.l l⟩):lst σ p=ab l:=by unfold lst;rw[h]
section
variable{α:Type}{le:α->α->aB}{x:α}{l l':af α}
structure wL(le:α->α->aB):Prop where
 QV:∀{a b},le a b=av->le b a=ak
 ay:∀{a b c},le a b=ak->le b c=ak->le a c=ak
 an:∀{a b},le a b=ak->le b a=ak->a=b
theorem NQ:(n6 le x l).Perm (x::l):=by
 induction l with
 |nil=>exact .refl _
 |cons y r aI=>
  unfold n6
  cases le x y
  ·exact(aI.cons y).trans (.swap x y r)
  ·exact .refl _
theorem xM:(l.foldr (n6 le) []).Perm l:=by
 induction l with
 |nil=>exact .refl _
 |cons x r aI=>exact NQ.trans (aI.cons x)
theorem at3(O:wL le)(h:l.Pairwise (le · ·=ak)):(n6 le x l).Pairwise (le · ·=ak):=by
 induction l with
 |nil=>exact .cons nofun .nil
 |cons y r aI=>
  have h':=TR.mp h
  unfold n6
  cases e:le x y
  ·exact .cons (λa cg=>(fS.mp (NQ.mem_iff.mp cg)).elim (λz=>aD z (O.QV e)) (h'.1 a)) (aI h'.2)
  ·exact .cons (i3.mpr ⟨e,λa cg=>O.ay e (h'.1 a cg)⟩) h
theorem QC(O:wL le):(l.foldr (n6 le) []).Pairwise (le · ·=ak):=by
 induction l with
 |nil=>exact .nil
 |cons x r aI=>exact at3 O aI
theorem C9(O:wL le)(h:l'.Perm l)(hs:l'.Pairwise (le · ·=ak)):l'=l.foldr (n6 le) []:=
 bj7 (λU U U U=>O.an) hs (QC O) (h.trans xM.symm)
theorem aX4(O:wL le)(h:l'.Perm l):l'.foldr (n6 le) []=l.foldr (n6 le) []:=C9 O (xM.trans h) (QC O)
end
theorem OY:wL Oi:=⟨λh=>cD (hJ (Int.not_le.mp (SD h))),λh k=>cD (eE (ft h) (ft k)),λh k=>AK (ft h) (ft k)⟩
theorem ple_iff{a b:ag×ag}:zS a b=ak↔a.1<b.1\/(a.1=b.1/\a.2<=b.2):=by unfold zS;rw[nH,wd,yd,yd,yd]
theorem OZ:wL zS where
 QV h:=ple_iff.mpr ((Int.lt_or_eq_of_le (iy.mp λw=>nomatch h.symm.trans (ple_iff.mpr (.inl w)))).imp id λe=>⟨e,hJ (Int.not_le.mp λw=>nomatch h.symm.trans (ple_iff.mpr (.inr ⟨e.symm,w⟩)))⟩)
 ay h k:=ple_iff.mpr ((ple_iff.mp h).elim (λh=>(ple_iff.mp k).elim (λk=>.inl (Int.lt_trans h k)) λk=>.inl (aR k.1 h)) λh=>(ple_iff.mp k).imp (λk=>aD h.1 k) λk=>⟨h.1.trans k.1,eE h.2 k.2⟩)
 an h k:=(ple_iff.mp h).elim (λh=>(ple_iff.mp k).elim (λk=>aV h (Int.lt_asymm k)) λk=>aV (k.1▸h) (J1 _)) λh=>(ple_iff.mp k).elim (λk=>aV (h.1▸k) (J1 _)) λk=>tT h.1 (AK h.2 k.2)
def Mz:bL:=⟨3,3,[.A (.l 0) 4 (.l 1),.A (.l 0) 5 (.l 2)]⟩
def My:bL:=⟨1,3,[.A (.l 0) 6 (.L []),.A (.l 0) 7 (.D .t []),.A (.l 0) 8 (.L []),.A (.l 0) 9 (.L []),.A (.l 0) 10 (.L []),.dw [1] .r [.c (.i 16)] [.a 2 (.t [.c (.i 1),.l 1]),.e (.m (.a (.l 0) 6) 0 [.l 2]),.S (.a (.l 0) 7) (.l 2) (.l 1),.e (.m (.a (.l 0) 8) 0 [.i 1]),.e (.m (.a (.l 0) 9) 0 [.i 1]),.e (.m (.a (.l 0) 10) 0 [.i 0])]]⟩
def YZ:bL:=⟨2,2,[.i (.O (.p .l (.l 1) (.i 0)) (.p .G (.l 1) (.B .l [.a (.l 0) 6]))) [.R 1 [.s 11,.l 1]] [],.r (.u (.a (.l 0) 6) (.l 1))]⟩
def FC:bL:=⟨2,9,[.a 2 (.m (.a (.l 0) 7) 3 [.l 1,.g 1]),.i (.p .G (.l 2) (.i 0)) [.r (.l 2)] [],.e (.f 7 [.l 0,.l 1]),.a 3 (.i 1),.a 4 (.i 1),.a 5 (.i 0),.i (.O (.p .e (.u (.l 1) (.i 0)) (.c (.i 6))) (.p .e (.u (.l 1) (.i 0)) (.c (.i 7)))) [.a 5 (.i 1)] [],.a 6 (.f 5 [.u (.l 1) (.i 0)]),.dw [7] .i [.f 4 [.l 1]] [.i (.p .g (.o .a (.u (.a (.l 0) 8) (.l 7)) (.l 6)) (.l 3)) [.a 3 (.o .a (.u (.a (.l 0) 8) (.l 7)) (.l 6))] [],.p4 4 .a (.u (.a (.l 0) 9) (.l 7)),.i (.p .e (.u (.a (.l 0) 10) (.l 7)) (.i 1)) [.a 5 (.i 1)] []],.i (.p .g (.l 3) (.c (.i 24))) [.bad] [],.i (.p .g (.l 4) (.c (.i 4096))) [.bad] [],.a 8 (.B .l [.a (.l 0) 6]),.e (.m (.a (.l 0) 6) 0 [.l 1]),.S (.a (.l 0) 7) (.l 1) (.l 8),.e (.m (.a (.l 0) 8) 0 [.l 3]),.e (.m (.a (.l 0) 9) 0 [.l 4]),.e (.m (.a (.l 0) 10) 0 [.l 5]),.r (.l 8)]⟩
def ZW:bL:=⟨1,2,[.a 1 (.u (.l 0) (.i 0)),.i (.O (.p .e (.l 1) (.c (.i 2))) (.p .e (.l 1) (.c (.i 3)))) [.r (.u (.l 0) (.i 2))] [],.i (.O (.p .e (.l 1) (.c (.i 4))) (.O (.p .e (.l 1) (.c (.i 5))) (.O (.p .e (.l 1) (.c (.i 8))) (.O (.p .e (.l 1) (.c (.i 9))) (.p .e (.l 1) (.c (.i 11))))))) [.r (.t [.u (.l 0) (.i 1)])] [],.i (.p .e (.l 1) (.c (.i 10))) [.bad] [],.r (.t [])]⟩
def ac9:bL:=⟨1,1,[.i (.O (.p .e (.l 0) (.c (.i 2))) (.O (.p .e (.l 0) (.c (.i 3))) (.p .e (.l 0) (.c (.i 4))))) [.r (.i 1)] [],.r (.i 0)]⟩
def ac8:bL:=⟨1,1,[.i (.O (.p .e (.l 0) (.c (.i 2))) (.p .e (.l 0) (.c (.i 3)))) [.r (.i 3)] [],.i (.p .e (.l 0) (.c (.i 10))) [.r (.i 4)] [],.r (.i 2)]⟩
def Zy:bL:=⟨2,4,[.i (.O (.p .e (.B .l [.l 1]) (.i 0)) (.O (.p .L (.u (.l 1) (.i 0)) (.c (.i 1))) (.p .g (.u (.l 1) (.i 0)) (.c (.i 11))))) [.bad] [],.a 2 (.u (.l 1) (.i 0)),.i (.p .n (.B .l [.l 1]) (.f 6 [.l 2])) [.bad] [],.dw [3] .i [.f 4 [.l 1]] [.e (.m (.l 0) 12 [.l 3])],.i (.O (.p .e (.l 2) (.c (.i 2))) (.p .e (.l 2) (.c (.i 3)))) [.e (.f 8 [.l 0,.l 1])] [.i (.O (.p .e (.l 2) (.c (.i 6))) (.p .e (.l 2) (.c (.i 7)))) [.i (.p .l (.u (.l 1) (.i 1)) (.i 0)) [.bad] []] [.i (.p .e (.l 2) (.c (.i 10))) [.bad] [.i (.p .e (.l 2) (.c (.i 8))) [.i (.N (.O (.f 19 [.l 0,.u (.l 1) (.i 1)]) (.f 21 [.l 0,.u (.l 1) (.i 1)]))) [.bad] []] [.i (.N (.f 10 [.l 0,.u (.l 1) (.i 1)])) [.bad] []]]]]]⟩
def Zz:bL:=⟨2,2,[.i (.O (.p .L (.u (.l 1) (.i 1)) (.i 0)) (.p .m (.u (.l 1) (.i 1)) (.c (.r 67)))) [.bad] [],.e (.f 9 [.l 0,.u (.l 1) (.i 2)])]⟩
def Zx:bL:=⟨2,3,[.dw [2] .i [.l 1] [.i (.N (.f 10 [.l 0,.l 2])) [.bad] []]]⟩
def ab3:bL:=⟨2,3,[.i (.O (.p .e (.l 1) (.c (.i 0))) (.p .e (.l 1) (.c (.i 14)))) [.bad] [],.a 2 (.u (.m (.l 0) 12 [.l 1]) (.i 0)),.r (.O (.p .L (.l 2) (.c (.i 4))) (.O (.p .e (.l 2) (.c (.i 6))) (.p .e (.l 2) (.c (.i 7)))))]⟩
def ZD:bL:=⟨3,3,[.i (.p .m (.l 1) (.c (.r 67))) [.r (.f 12 [.l 1,.l 2])] [],.r (.m (.l 0) 13 [.t [.c (.i 2),.l 1,.l 2]])]⟩
def ac2:bL:=⟨2,2,[.i (.p .g (.B .l [.l 1]) (.i 0)) [.bad] [],.r (.u (.c (.r 67)) (.l 0))]⟩
def Zv:bL:=⟨2,2,[.r (.m (.l 0) 13 [.t [.c (.i 5),.l 1]])]⟩
def Zt:bL:=⟨2,2,[.r (.m (.l 0) 13 [.t [.c (.i 8),.l 1]])]⟩
def ac4:bL:=⟨2,2,[.r (.m (.l 0) 13 [.t [.c (.i 11),.l 1]])]⟩
def Z':bL:=⟨2,2,[.r (.u (.m (.l 0) 12 [.l 1]) (.i 0))]⟩
def ad7:bL:=⟨2,3,[.a 2 (.m (.l 0) 12 [.l 1]),.i (.O (.p .e (.u (.l 2) (.i 0)) (.c (.i 2))) (.p .e (.u (.l 2) (.i 0)) (.c (.i 3)))) [.r (.u (.l 2) (.i 1))] [],.i (.p .e (.u (.l 2) (.i 0)) (.c (.i 1))) [.r (.m (.c (.r 66)) 3 [.l 1,.i 0])] [],.i (.p .e (.u (.l 2) (.i 0)) (.c (.i 4))) [.r (.c (.i 5))] [],.r (.i 0)]⟩
def Zf:bL:=⟨2,3,[.a 2 (.m (.l 0) 12 [.l 1]),.i (.O (.p .e (.u (.l 2) (.i 0)) (.c (.i 2))) (.p .e (.u (.l 2) (.i 0)) (.c (.i 3)))) [.r (.u (.l 2) (.i 2))] [],.r (.t [])]⟩
def Z6:bL:=⟨2,2,[.i (.A (.p .L (.c (.i 1)) (.l 1)) (.p .L (.l 1) (.c (.i 11)))) [.r (.b ak)] [],.r (.p .e (.u (.m (.l 0) 12 [.l 1]) (.i 0)) (.c (.i 3)))]⟩
def Z5:bL:=⟨2,3,[.i (.O (.p .e (.l 1) (.c (.i 12))) (.O (.p .e (.l 1) (.c (.i 13))) (.p .e (.l 1) (.c (.i 14))))) [.r (.b ak)] [],.a 2 (.u (.m (.l 0) 12 [.l 1]) (.i 0)),.r (.O (.p .e (.l 2) (.c (.i 2))) (.O (.p .e (.l 2) (.c (.i 4))) (.p .e (.l 2) (.c (.i 8)))))]⟩
def Z7:bL:=⟨2,3,[.a 2 (.u (.m (.l 0) 12 [.l 1]) (.i 0)),.r (.O (.p .e (.l 2) (.c (.i 6))) (.p .e (.l 2) (.c (.i 7))))]⟩
def ad1:bL:=⟨1,1,[.i (.A (.p .L (.c (.i 1)) (.l 0)) (.p .L (.l 0) (.c (.i 8)))) [.r (.c (.i 7))] [],.i (.p .e (.l 0) (.c (.i 10))) [.r (.c (.i 9))] [],.r (.l 0)]⟩
def ZY:bL:=⟨1,1,[.r (.p .e (.m (.c (.r 257)) 3 [.l 0,.g 1]) (.c (.i 5)))]⟩
def ad5:bL:=⟨1,1,[.i (.p .e (.u (.l 0) (.i 0)) (.c (.i 69))) [.r (.u (.l 0) (.i 1))] [],.i (.f 23 [.u (.l 0) (.i 0)]) [.r (.t [.u (.l 0) (.i 1)])] [],.r (.t [])]⟩
def YY:bL:=⟨5,5,[.A (.l 0) 14 (.l 1),.A (.l 0) 15 (.l 2),.A (.l 0) 4 (.l 3),.A (.l 0) 16 (.l 4)]⟩
def Zs:bL:=⟨2,7,[.a 2 (.L []),.a 3 (.D .i [.l 1,.i 1]),.a 4 (.S .rev (.B .L [.m (.a (.l 0) 17) 3 [.l 1,.t []]])),.pA (.l 4) [.a 5 (.m (.l 4) 1 []),.i (.p .m (.l 5) (.l 3)) [.bad] [],.S (.l 3) (.l 5) (.i 1),.e (.m (.l 2) 0 [.l 5]),.i (.f 21 [.a (.l 0) 18,.l 5]) [.bad] []],.r (.l 2)]⟩
def ad4:bL:=⟨2,3,[.i (.o .b (.m (.a (.l 0) 19) 3 [.l 1,.i 0]) (.c (.i 1))) [.r (.b ak)] [],.dw [2] .i [.f 26 [.l 0,.l 1]] [.i (.A (.f 20 [.a (.l 0) 18,.l 2]) (.A (.N (.f 28 [.l 0,.l 2])) (.p .M (.f 17 [.a (.l 0) 18,.l 2]) (.c (.t [.i 1,.i 2,.i 3]))))) [.r (.b ak)] []],.r (.b av)]⟩
def Z2:bL:=⟨2,2,[.r (.A (.p .e (.f 16 [.a (.l 0) 18,.l 1]) (.c (.i 2))) (.p .e (.m (.l 0) 20 [.l 1]) (.c (.i 3))))]⟩
def Mw:bL:=⟨2,2,[.A (.l 0) 18 (.l 1),.A (.l 0) 21 (.D .i []),.A (.l 0) 22 (.D .i []),.A (.l 0) 23 (.D .i []),.A (.l 0) 24 (.D .i []),.A (.l 0) 25 (.D .i []),.A (.l 0) 17 (.D .i []),.A (.l 0) 19 (.D .i []),.A (.l 0) 26 (.D .i [])]⟩
def YV:bL:=⟨2,2,[.r (.m (.a (.l 0) 21) 3 [.l 1,.g 1])]⟩
def YW:bL:=⟨2,2,[.r (.m (.a (.l 0) 23) 3 [.f 17 [.a (.l 0) 18,.l 1],.i 0])]⟩
def YX:bL:=⟨2,2,[.r (.m (.a (.l 0) 25) 3 [.l 1,.l 1])]⟩
def Mx:bL:=⟨2,2,[.A (.l 0) 27 (.l 1),.A (.l 0) 28 (.L []),.A (.l 0) 29 (.D .t []),.A (.l 0) 30 (.D .t [])]⟩
def ac5:bL:=⟨3,3,[.r (.f 35 [.l 0,.l 1,.l 2,.i 0])]⟩
def Zh:bL:=⟨4,5,[.a 4 (.w 6 [.l 3]),.i (.f 36 [.l 0,.l 1,.l 2,.l 4]) [.r (.b ak)] [],.bad]⟩
def Zi:bL:=⟨4,5,[.i (.p .e (.l 1) (.l 2)) [.r (.b ak)] [],.bad]⟩
def MA:bL:=⟨4,4,[.A (.l 0) 31 (.l 1),.A (.l 0) 32 (.l 2),.A (.l 0) 33 (.l 3)]⟩
def MB:bL:=⟨6,6,[.A (.l 0) 34 (.l 1),.A (.l 0) 18 (.a (.l 1) 18),.A (.l 0) 35 (.l 4),.A (.l 0) 36 (.i 0),.A (.l 0) 37 (.l 2),.A (.l 0) 38 (.u (.l 3) (.i 0)),.A (.l 0) 39 (.u (.l 3) (.i 1)),.A (.l 0) 40 (.u (.l 3) (.i 3)),.A (.l 0) 41 (.u (.l 3) (.i 4)),.A (.l 0) 42 (.l 5),.A (.l 0) 43 (.i 0),.A (.l 0) 44 (.w 7 [.L [],.i 1,.i 0]),.A (.l 0) 5 (.i 0),.A (.l 0) 45 (.D .i []),.A (.l 0) 46 (.L []),.A (.l 0) 47 (.D .i []),.A (.l 0) 48 (.D .i []),.A (.l 0) 49 (.D .i []),.A (.l 0) 50 (.D .i []),.A (.l 0) 51 (.D .i []),.A (.l 0) 52 (.D .i []),.A (.l 0) 53 (.n),.A (.l 0) 54 (.L [])]⟩
def Zc:bL:=⟨1,1,[.r (.f 45 [.l 0])]⟩
def Zd:bL:=⟨2,2,[.e (.f 46 [.l 0,.l 1])]⟩
def Y9:bL:=⟨2,2,[.R 2 [.l 1,.a (.l 0) 5]]⟩
def Y':bL:=⟨2,2,[.e (.f 55 [.l 0,.l 1,.i 0])]⟩
def Za:bL:=⟨2,2,[.e (.f 55 [.l 0,.l 1,.i 1])]⟩
def Zb:bL:=⟨2,2,[.e (.f 59 [.l 0,.l 1])]⟩
def ac1:bL:=⟨1,1,[.i (.p .e (.B .l [.a (.a (.l 0) 44) 31]) (.i 0)) [.R 2 [.c (.i 1),.a (.l 0) 5]] [],.r (.m (.a (.a (.l 0) 44) 31) 1 [])]⟩
def ac3:bL:=⟨2,2,[.i (.p .G (.B .l [.a (.a (.l 0) 44) 31]) (.a (.a (.l 0) 35) 15)) [.R 2 [.c (.i 20),.a (.l 0) 5]] [],.e (.m (.a (.a (.l 0) 44) 31) 0 [.l 1])]⟩
def Z4:bL:=⟨2,2,[.r (.p .e (.f 16 [.l 0,.l 1]) (.c (.i 11)))]⟩
def ad9:bL:=⟨2,3,[.a 2 (.f 16 [.l 0,.l 1]),.r (.O (.p .e (.l 2) (.c (.i 5))) (.p .e (.l 2) (.c (.i 9))))]⟩
def ae0:bL:=⟨2,2,[.i (.p .e (.f 16 [.a (.l 0) 18,.l 1]) (.c (.i 3))) [.r (.f 22 [.m (.l 0) 55 [.l 1]])] [],.r (.f 22 [.l 1])]⟩
def ab4:bL:=⟨3,4,[.i (.p .e (.l 1) (.l 2)) [.r (.l 1)] [],.a 3 (.a (.l 0) 18),.i (.A (.f 48 [.l 3,.l 1]) (.f 48 [.l 3,.l 2])) [.bad] [],.i (.O (.N (.f 20 [.l 3,.l 1])) (.N (.f 20 [.l 3,.l 2]))) [.r (.g 1)] [],.bad]⟩
def ab5:bL:=⟨4,4,[.i (.A (.p .e (.l 1) (.i 1)) (.A (.f 47 [.a (.l 0) 18,.l 3]) (.A (.f 20 [.a (.l 0) 18,.l 2]) (.f 34 [.l 0,.l 2,.u (.m (.a (.l 0) 18) 12 [.l 3]) (.i 1)])))) [.r (.l 3)] [],.r (.g 1)]⟩
def ab6:bL:=⟨3,8,[.i (.p .n (.B .l [.a (.l 1) 31]) (.B .l [.a (.l 2) 31])) [.R 2 [.c (.i 3),.B .l [.a (.l 2) 31]]] [],.a 3 (.L []),.dw [4,5] .e [.a (.l 1) 31] [.a 6 (.f 50 [.l 0,.l 5,.u (.a (.l 2) 31) (.l 4)]),.i (.p .l (.l 6) (.i 0)) [.a 6 (.f 51 [.l 0,.a (.l 1) 32,.l 5,.u (.a (.l 2) 31) (.l 4)])] [],.i (.p .l (.l 6) (.i 0)) [.a 6 (.f 51 [.l 0,.a (.l 2) 32,.u (.a (.l 2) 31) (.l 4),.l 5])] [],.i (.p .l (.l 6) (.i 0)) [.bad] [],.e (.m (.l 3) 0 [.l 6])],.a 7 (.a (.l 1) 32),.i (.p .l (.a (.l 2) 32) (.l 7)) [.a 7 (.a (.l 2) 32)] [],.r (.w 7 [.l 3,.l 7,.i 0])]⟩
def ad3:bL:=⟨2,2,[.r (.A (.p .e (.a (.l 0) 32) (.a (.l 1) 32)) (.p .e (.a (.l 0) 31) (.a (.l 1) 31)))]⟩
def ZH:bL:=⟨1,1,[.r (.w 7 [.C (.l 0) 1 .i [.a (.l 0) 31] [] [],.a (.l 0) 32,.i 0])]⟩
def ZR:bL:=⟨3,4,[.a 3 (.m (.a (.l 0) 53) 56 [.a (.a (.l 0) 35) 4,.a (.l 0) 5,.l 1,.l 2]),.i (.p .n (.l 3) (.i 0)) [.R 2 [.l 3,.a (.l 0) 5]] [],.i (.l 2) [.e (.f 56 [.l 0,.l 1,.w 7 [.L [],.a (.a (.l 0) 44) 32,.i 0]])] [.e (.f 56 [.l 0,.l 1,.f 54 [.a (.l 0) 44]])]]⟩
def ZS:bL:=⟨3,6,[.i (.A (.p .g (.B .l [.a (.l 2) 31]) (.i 0)) (.m (.a (.l 0) 53) 57 [.l 1])) [.R 2 [.c (.i 3),.l 1]] [],.a 3 (.m (.a (.l 0) 45) 3 [.l 1]),.i (.p .i (.l 3) (.n)) [.S (.a (.l 0) 45) (.l 1) (.l 2),.e (.f 57 [.l 0,.l 1]),.mg] [],.tf [.a 4 (.f 52 [.a (.l 0) 34,.l 3,.l 2])] [(2,ab 5,[.R 2 [.a (.l 5) 4,.l 1]])],.i (.f 53 [.l 4,.l 3]) [.mg] [],.S (.a (.l 0) 48) (.l 1) (.o .a (.m (.a (.l 0) 48) 3 [.l 1,.i 0]) (.i 1)),.i (.p .g (.u (.a (.l 0) 48) (.l 1)) (.c (.i 60))) [.bad] [],.S (.a (.l 0) 45) (.l 1) (.l 4),.e (.f 57 [.l 0,.l 1])]⟩
def ae1:bL:=⟨2,2,[.i (.p .M (.l 1) (.a (.l 0) 47)) [.S (.a (.l 0) 47) (.l 1) (.i 1),.e (.m (.a (.l 0) 46) 0 [.l 1])] []]⟩
def MC:bL:=⟨4,10,[.a 4 (.L [.l 1]),.a 5 (.D .i []),.pA (.l 4) [.a 6 (.m (.l 4) 1 []),.i (.p .m (.l 6) (.l 5)) [.cont] [],.S (.l 5) (.l 6) (.i 1),.a 7 (.m (.l 0) 12 [.l 6]),.a 8 (.u (.l 7) (.i 0)),.i (.p .e (.l 8) (.c (.i 1))) [.i (.O (.p .e (.u (.l 7) (.i 1)) (.c (.i 14))) (.p .e (.u (.l 7) (.i 1)) (.c (.i 15)))) [.r (.b av)] []] [.i (.O (.p .e (.l 8) (.c (.i 2))) (.p .e (.l 8) (.c (.i 3)))) [.dw [9] .i [.u (.l 7) (.i 2)] [.e (.m (.l 4) 0 [.l 9])]] [.i (.O (.p .e (.l 8) (.c (.i 4))) (.p .e (.l 8) (.c (.i 5)))) [.e (.m (.l 4) 0 [.u (.l 7) (.i 1)])] [.i (.p .e (.l 8) (.c (.i 6))) [.i (.p .G (.u (.l 7) (.i 1)) (.l 2)) [.r (.b av)] []] [.i (.p .e (.l 8) (.c (.i 7))) [.i (.p .G (.u (.l 7) (.i 1)) (.l 3)) [.r (.b av)] []] [.r (.b av)]]]]]],.r (.b ak)]⟩
def ZC:bL:=⟨2,3,[.i (.p .m (.l 1) (.a (.l 0) 51)) [.mg] [],.i (.N (.f 58 [.a (.l 0) 18,.l 1,.a (.l 0) 43,.a (.l 0) 40])) [.R 2 [.c (.i 22),.a (.l 0) 5]] [],.bad]⟩
def Y0:bL:=⟨2,2,[.A (.l 0) 16 (.l 1)]⟩
def f_RegionTable_jump:bL:=⟨5,5,[.r (.f 72 [.l 1,.a (.l 0) 16,.l 2,.l 3,.l 4])]⟩
def f_RegionTable_place:bL:=⟨3,3,[.r (.f 73 [.l 1,.a (.l 0) 16,.l 2])]⟩
def Y1:bL:=⟨2,2,[.r (.f 67 [.a (.l 0) 16,.l 1])]⟩
def ZX:bL:=⟨1,1,[.r (.O (.p .e (.u (.l 0) (.i 0)) (.c (.i 2))) (.p .e (.u (.l 0) (.i 0)) (.c (.i 4))))]⟩
def ac0:bL:=⟨2,8,[.kh [2,3,4,5,6,7] (.l 0),.i (.A (.p .L (.l 3) (.l 1)) (.p .l (.l 1) (.l 4))) [.r (.c (.i 0))] [],.i (.A (.p .L (.l 5) (.l 1)) (.p .l (.l 1) (.l 6))) [.r (.c (.i 2))] [],.i (.A (.p .e (.l 2) (.c (.i 1))) (.A (.p .L (.l 7) (.l 1)) (.p .l (.l 1) (.l 5)))) [.r (.c (.i 1))] [],.r (.g 1)]⟩
def ac6:bL:=⟨2,5,[.a 2 (.L []),.dw [3] .down [.o .s (.B .l [.l 0]) (.i 1),.g 1,.g 1] [.a 4 (.f 65 [.u (.l 0) (.l 3),.l 1]),.i (.p .G (.l 4) (.i 0)) [.e (.m (.l 2) 0 [.t [.l 3,.l 4]])] []],.r (.B .t [.l 2])]⟩
def Z1:bL:=⟨2,3,[.dw [2] .i [.l 0] [.i (.p .e (.u (.l 2) (.i 1)) (.l 1)) [.r (.b ak)] []],.r (.b av)]⟩
def ZZ:bL:=⟨2,2,[.r (.A (.p .e (.l 1) (.c (.i 2))) (.O (.p .e (.u (.l 0) (.i 0)) (.c (.i 0))) (.p .e (.u (.l 0) (.i 0)) (.c (.i 1)))))]⟩
def Z3:bL:=⟨2,2,[.r (.A (.p .e (.l 1) (.c (.i 2))) (.f 64 [.l 0]))]⟩
def ZN:bL:=⟨4,6,[.dw [4,5] .i [.l 2] [.i (.p .m (.t [.l 4,.l 5]) (.l 1)) [.cont] [],.i (.O (.p .n (.l 5) (.c (.i 0))) (.p .n (.u (.u (.l 0) (.l 4)) (.i 1)) (.l 3))) [.r (.b av)] []],.r (.b ak)]⟩
def ZP:bL:=⟨4,6,[.dw [4,5] .i [.l 1] [.i (.p .m (.t [.l 4,.l 5]) (.l 2)) [.cont] [],.i (.N (.l 3)) [.r (.b av)] [],.i (.A (.p .n (.l 5) (.c (.i 0))) (.N (.f 68 [.u (.l 0) (.l 4),.l 5]))) [.r (.b av)] []],.r (.b ak)]⟩
def Z8:bL:=⟨5,7,[.i (.O (.p .l (.l 3) (.i 0)) (.p .G (.l 3) (.B .l [.l 0]))) [.r (.c (.i 5))] [],.a 5 (.f 66 [.l 1,.l 2]),.a 6 (.f 66 [.l 1,.l 3]),.i (.A (.f 71 [.l 1,.l 5,.l 6,.l 4]) (.f 70 [.l 1,.l 5,.l 6,.l 3])) [.r (.i 0)] [],.i (.l 4) [.r (.c (.i 6))] [],.r (.c (.i 5))]⟩
def ad2:bL:=⟨3,4,[.a 3 (.u (.u (.l 0) (.l 2)) (.i 0)),.i (.p .e (.l 3) (.c (.i 42))) [.bad] [],.i (.p .e (.l 3) (.c (.i 65050))) [.r (.f 74 [.l 1,.f 66 [.l 1,.l 2]])] [],.i (.O (.p .e (.l 3) (.c (.i 220))) (.p .e (.l 3) (.c (.i 65041)))) [.r (.f 75 [.l 1,.f 66 [.l 1,.l 2],.l 3])] [],.r (.i 0)]⟩
def ac7:bL:=⟨2,4,[.dw [2,3] .rev [.l 1] [.i (.p .e (.l 3) (.c (.i 0))) [.cont] [],.i (.f 68 [.u (.l 0) (.l 2),.l 3]) [.r (.i 0)] [],.r (.c (.i 5))],.r (.c (.i 5))]⟩
def ZK:bL:=⟨3,5,[.i (.p .e (.B .l [.l 1]) (.i 0)) [.r (.c (.i 5))] [],.kh [3,4] (.u (.l 1) (.o .s (.B .l [.l 1]) (.i 1))),.i (.A (.p .e (.l 2) (.c (.i 220))) (.f 69 [.u (.l 0) (.l 3),.l 4])) [.r (.i 0)] [],.i (.A (.p .e (.l 2) (.c (.i 65041))) (.p .e (.l 4) (.c (.i 1)))) [.r (.i 0)] [],.r (.c (.i 5))]⟩
def Y7:bL:=⟨3,3,[.mg]⟩
def Y8:bL:=⟨3,3,[.e (.m (.l 1) 1 [])]⟩
def Z0:bL:=⟨1,1,[.r (.A (.p .n (.o .b (.a (.l 0) 39) (.c (.i 32))) (.i 0)) (.A (.p .e (.o .b (.a (.l 0) 39) (.c (.i 1))) (.i 0)) (.N (.f 19 [.a (.l 0) 18,.a (.l 0) 37]))))]⟩
def ad8:bL:=⟨2,2,[.i (.O (.p .l (.l 1) (.i 0)) (.p .G (.l 1) (.B .l [.a (.l 0) 42]))) [.e (.m (.l 0) 58 [.c (.i 21)])] [],.r (.u (.a (.l 0) 42) (.l 1))]⟩
def Y5:bL:=⟨3,4,[.a 3 (.f 79 [.l 1,.l 2]),.i (.A (.p .e (.l 2) (.i 0)) (.p .e (.a (.a (.l 1) 44) 32) (.i 0))) [.e (.m (.l 1) 59 [.f 15 [.a (.l 1) 18,.a (.l 1) 37]]),.mg] [],.e (.m (.l 1) 59 [.f 49 [.a (.l 1) 34,.l 3]])]⟩
def Zg:bL:=⟨3,5,[.a 3 (.L []),.i (.p .e (.o .b (.u (.l 2) (.i 1)) (.c (.i 1))) (.i 0)) [.i (.f 19 [.a (.l 0) 18,.l 1]) [.e (.m (.l 3) 0 [.f 13 [.a (.l 0) 18,.l 1]])] [.e (.m (.l 3) 0 [.l 1])]] [],.dw [4] .i [.u (.l 2) (.i 5)] [.e (.m (.l 3) 0 [.l 4])],.r (.l 3)]⟩
def ZO:bL:=⟨1,11,[.a 1 (.D .i []),.dw [2] .i [.a (.l 0) 4] [.dw [3] .i [.f 24 [.l 2]] [.S (.l 1) (.l 3) (.i 1)]],.dw [4,5,6,7,8,9] .i [.a (.l 0) 16] [.dw [10] .i [.t [.l 5,.l 6,.l 7,.l 8]] [.S (.l 1) (.l 10) (.i 1)],.i (.p .e (.l 4) (.c (.i 1))) [.S (.l 1) (.l 9) (.i 1)] []],.r (.l 1)]⟩
def MD:bL:=⟨4,5,[.a 4 (.w 9 [.l 0,.l 1,.l 2,.l 3,.f 81 [.l 0,.l 1,.l 2]]),.A (.l 4) 43 (.B .l [.f 18 [.a (.l 0) 18,.l 1]]),.A (.l 4) 53 (.w 10 [.a (.l 3) 16]),.A (.l 4) 49 (.f 82 [.l 3]),.r (.l 4)]⟩
def ad6:bL:=⟨3,3,[.i (.p .M (.t [.l 1,.l 2]) (.a (.l 0) 54)) [.e (.m (.a (.l 0) 54) 0 [.t [.l 1,.l 2]])] []]⟩
def ZQ:bL:=⟨1,1,[.i (.A (.f 78 [.l 0]) (.p .G (.m (.a (.l 0) 34) 60 [.a (.l 0) 37]) (.i 0))) [.r (.i 0)] [],.r (.i 1)]⟩
def Zw:bL:=⟨2,2,[.e (.m (.l 0) 61 [.l 1]),.i (.f 20 [.a (.l 0) 18,.l 1]) [.r (.l 1)] [],.i (.O (.N (.f 21 [.a (.l 0) 18,.l 1])) (.N (.f 27 [.a (.l 0) 34,.l 1]))) [.e (.m (.l 0) 58 [.c (.i 8)])] [],.r (.f 14 [.a (.l 0) 18,.l 1])]⟩
def Zp:bL:=⟨4,5,[.a 4 (.L []),.i (.p .G (.l 2) (.i 0)) [.i (.p .l (.a (.a (.l 0) 35) 15) (.i 1)) [.e (.m (.l 0) 58 [.c (.i 20)])] [],.e (.m (.l 4) 0 [.l 2])] [],.e (.f 56 [.l 0,.l 1,.w 7 [.l 4,.l 3,.i 0]])]⟩
def ZL:bL:=⟨3,3,[.i (.p .e (.u (.l 1) (.i 0)) (.c (.i 0))) [.e (.f 87 [.l 0,.u (.l 1) (.i 3),.f 86 [.l 0,.u (.l 1) (.i 5)],.l 2])] [.i (.p .e (.u (.l 1) (.i 0)) (.c (.i 1))) [.e (.f 87 [.l 0,.u (.l 1) (.i 5),.c (.i 12),.l 2]),.e (.f 87 [.l 0,.u (.l 1) (.i 3),.c (.i 12),.l 2])] [.e (.f 87 [.l 0,.u (.l 1) (.i 3),.g 1,.l 2])]]]⟩
def ZM:bL:=⟨2,5,[.a 2 (.a (.a (.l 0) 44) 32),.dw [3,4] .e [.a (.a (.l 0) 35) 16] [.i (.A (.p .L (.u (.l 4) (.i 1)) (.l 1)) (.A (.p .l (.l 1) (.u (.l 4) (.i 2))) (.p .l (.l 2) (.m (.a (.l 0) 50) 3 [.l 3,.i 2])))) [.S (.a (.l 0) 50) (.l 3) (.l 2),.e (.f 88 [.l 0,.l 4,.l 2])] []]]⟩
def ZA:bL:=⟨2,6,[.A (.l 0) 5 (.l 1),.A (.l 0) 44 (.f 54 [.u (.a (.l 0) 45) (.l 1)]),.e (.f 89 [.l 0,.l 1]),.a 2 (.m (.a (.l 0) 53) 62 [.a (.a (.l 0) 35) 4,.l 1]),.i (.p .n (.l 2) (.i 0)) [.e (.m (.l 0) 58 [.l 2])] [],.kh [3,4] (.u (.a (.a (.l 0) 35) 4) (.l 1)),.a 5 (.m (.a (.l 0) 52) 3 [.l 3]),.i (.p .i (.l 5) (.n)) [.e (.m (.l 0) 58 [.c (.i 22)])] [],.e (.m (.l 5) 63 [.l 0,.l 4]),.i (.a (.a (.l 0) 44) 33) [.mg] [],.i (.p .G (.o .a (.l 1) (.i 1)) (.B .l [.a (.a (.l 0) 35) 4])) [.e (.m (.l 0) 58 [.c (.i 7)])] [],.e (.m (.l 0) 56 [.o .a (.l 1) (.i 1)])]⟩
def ae2:bL:=⟨1,3,[.pA (.p .g (.B .l [.a (.l 0) 46]) (.i 0)) [.a 1 (.u (.B .s [.a (.l 0) 46]) (.i 0)),.e (.m (.a (.l 0) 46) 2 [.l 1]),.del (.a (.l 0) 47) (.l 1),.tf [.e (.f 90 [.l 0,.l 1])] [(2,ab 2,[.e (.f 84 [.l 0,.a (.l 2) 4,.a (.l 2) 5])]),(1,aj,[.e (.f 84 [.l 0,.c (.i 22),.a (.l 0) 5])])]]]⟩
def Y4:bL:=⟨3,3,[.A (.a (.l 1) 44) 33 (.i 1)]⟩
def Y6:bL:=⟨3,3,[.e (.m (.l 1) 64 [.l 2]),.A (.a (.l 1) 44) 33 (.i 1)]⟩
def aa5:bL:=⟨1,1,[.q3 (.l 0) (.i 1) .a (.i 1),.i (.p .l (.u (.l 0) (.i 1)) (.B .l [.u (.l 0) (.i 0)])) [.r (.u (.u (.l 0) (.i 0)) (.u (.l 0) (.i 1)))] [],.r (.i 0)]⟩
def aa0:bL:=⟨3,5,[.dw [3] .r [.I (.p .l (.B .l [.u (.l 0) (.i 2)]) (.i 11)) (.l 1) (.i 1)] [.a 4 (.f 94 [.l 0]),.i (.A (.p .e (.o .m (.l 4) (.i 10)) (.i 7)) (.A (.p .l (.l 2) (.i 3)) (.p .l (.B .l [.u (.l 0) (.i 2)]) (.i 9)))) [.e (.f 96 [.l 0,.o .f (.l 4) (.i 10),.l 2])] [.e (.m (.u (.l 0) (.i 2)) 0 [.t [.o .m (.l 4) (.i 10),.o .f (.l 4) (.i 10)]])]]]⟩
def ab1:bL:=⟨3,11,[.a 3 (.B .l [.u (.l 0) (.i 2)]),.e (.f 95 [.l 0,.o .a (.i 1) (.o .m (.l 1) (.i 3)),.o .a (.l 2) (.i 1)]),.a 4 (.B .l [.u (.l 0) (.i 2)]),.a 5 (.u (.t [.i 0,.i 1,.i 2,.i 4]) (.o .m (.o .f (.l 1) (.i 3)) (.i 4))),.a 6 (.L []),.dw [7] .r [.I (.A (.p .l (.l 5) (.i 2)) (.p .e (.o .m (.o .f (.l 1) (.i 100)) (.i 3)) (.i 0))) (.i 2) (.i 1)] [.a 8 (.I (.p .e (.l 5) (.i 0)) (.o .a (.o .m (.o .f (.l 1) (.i 24)) (.i 14)) (.l 7)) (.i 0)),.i (.p .e (.l 5) (.i 1)) [.a 8 (.B .l [.u (.l 0) (.i 2)]),.e (.m (.u (.l 0) (.i 2)) 0 [.t [.o .m (.o .f (.l 1) (.i 24)) (.i 3),.i 0]]),.e (.m (.u (.l 0) (.i 2)) 0 [.t [.i 10,.i 0]])] [],.a 9 (.B .l [.u (.l 0) (.i 2)]),.i (.p .l (.l 5) (.i 2)) [.e (.m (.u (.l 0) (.i 2)) 0 [.t [.o .m (.o .f (.l 1) (.i 48)) (.i 3),.i 0]])] [],.e (.f 95 [.l 0,.o .a (.i 1) (.o .m (.o .f (.l 1) (.i 100)) (.i 2)),.o .a (.l 2) (.i 1)]),.e (.m (.l 6) 0 [.t [.l 5,.l 3,.l 4,.l 9,.B .l [.u (.l 0) (.i 2)],.l 8]]),.i (.p .l (.l 5) (.i 2)) [.a 5 (.o .m (.o .f (.l 1) (.i 12)) (.i 2))] []],.dw [10] .i [.l 6] [.e (.m (.u (.l 0) (.i 3)) 0 [.l 10])]]⟩
def aa1:bL:=⟨1,6,[.a 1 (.B .l [.l 0]),.a 2 (.L []),.dw [3,4] .i [.l 0] [.a 5 (.i 0),.i (.p .m (.l 3) (.t [.i 4,.i 9])) [.a 5 (.o .m (.l 4) (.o .a (.l 1) (.i 1)))] [.i (.p .e (.l 3) (.i 8)) [.a 5 (.t [.o .m (.l 4) (.o .a (.l 1) (.i 1)),.o .m (.o .f (.l 4) (.i 7)) (.l 1)])] []],.e (.m (.l 2) 0 [.t [.u (.c (.t [.i 0,.i 38,.i 65033,.i 122,.i 221,.i 65050,.i 220,.i 0,.i 69,.i 57,.i 65041])) (.l 3),.l 5]])],.r (.l 2)]⟩
def aa8:bL:=⟨2,10,[.a 2 (.L []),.dw [3] .r [.B .l [.l 0]] [.kh [4,5,6,7,8,9] (.u (.l 0) (.l 3)),.i (.P .L .l (.l 5) (.l 1) (.l 6)) [.e (.m (.l 2) 0 [.t [.l 3,.s 65]])] [.i (.P .L .l (.l 7) (.l 1) (.l 8)) [.e (.m (.l 2) 0 [.t [.l 3,.s 66]])] [.i (.A (.p .e (.l 4) (.i 1)) (.P .L .l (.l 9) (.l 1) (.l 7))) [.e (.m (.l 2) 0 [.t [.l 3,.s 67]])] []]]],.r (.l 2)]⟩
def aa9:bL:=⟨4,8,[.i (.p .G (.l 2) (.B .l [.u (.l 0) (.s 4)])) [.r (.i 5)] [],.a 4 (.f 98 [.u (.l 0) (.s 16),.l 1]),.a 5 (.f 98 [.u (.l 0) (.s 16),.l 2]),.dw [6] .i [.l 4] [.a 7 (.O (.p .e (.u (.l 6) (.i 1)) (.s 65)) (.A (.p .e (.u (.l 6) (.i 1)) (.s 66)) (.p .l (.u (.u (.u (.l 0) (.s 16)) (.u (.l 6) (.i 0))) (.i 0)) (.i 2)))),.i (.A (.p .M (.l 6) (.l 5)) (.N (.A (.l 3) (.l 7)))) [.r (.I (.l 3) (.i 6) (.i 5))] []],.dw [6] .i [.l 5] [.i (.A (.p .M (.l 6) (.l 4)) (.O (.p .n (.u (.l 6) (.i 1)) (.s 65)) (.p .n (.u (.u (.u (.l 0) (.s 16)) (.u (.l 6) (.i 0))) (.i 1)) (.l 2)))) [.r (.I (.l 3) (.i 6) (.i 5))] []],.r (.i 0)]⟩
def ab0:bL:=⟨3,5,[.a 3 (.f 98 [.u (.l 0) (.s 16),.l 1]),.i (.p .e (.l 2) (.i 220)) [.r (.A (.p .n (.l 3) (.L [])) (.A (.p .e (.u (.u (.l 3) (.i 0)) (.i 1)) (.s 66)) (.p .g (.u (.u (.u (.l 0) (.s 16)) (.u (.u (.l 3) (.i 0)) (.i 0))) (.i 0)) (.i 1))))] [],.a 4 (.C (.l 0) 1 .i [.l 3] [.p .n (.u (.l 0) (.i 1)) (.s 65)] []),.r (.A (.p .n (.l 4) (.L [])) (.A (.p .e (.u (.u (.l 4) (.i 0)) (.i 1)) (.s 66)) (.p .l (.u (.u (.u (.l 0) (.s 16)) (.u (.u (.l 4) (.i 0)) (.i 0))) (.i 0)) (.i 2))))]⟩
def aa6:bL:=⟨5,7,[.a 5 (.o .a (.l 1) (.i 1)),.i (.p .e (.l 5) (.B .l [.u (.l 0) (.s 4)])) [.r (.t [.i 7,.l 1])] [],.a 6 (.f 99 [.l 0,.l 1,.l 5,.b av]),.i (.l 6) [.r (.t [.l 6,.l 1])] [],.i (.A (.p .n (.l 2) (.L [])) (.p .m (.l 5) (.C (.u (.l 0) (.i 1)) 1 .i [.u (.l 0) (.s 16)] [] []))) [.r (.t [.i 3,.l 5])] [],.e (.m (.l 4) 0 [.t [.l 5,.l 2,.l 3]]),.r (.n)]⟩
def aa7:bL:=⟨4,15,[.a 4 (.L []),.dw [5] .r [.B .l [.u (.l 0) (.s 16)]] [.kh [6,7,8,9,10,11] (.u (.u (.l 0) (.s 16)) (.l 5)),.i (.A (.P .L .l (.l 7) (.l 1) (.l 8)) (.p .e (.u (.u (.l 0) (.s 68)) (.l 5)) (.i 0))) [.e (.m (.l 4) 0 [.t [.l 9,.B .L [.u (.u (.l 0) (.s 69)) (.l 5)],.l 3]]),.i (.p .e (.l 6) (.i 1)) [.e (.m (.l 4) 0 [.t [.l 11,.L [.i 12],.l 3]])] []] []],.kh [12,13] (.u (.u (.l 0) (.s 4)) (.l 1)),.i (.A (.p .m (.l 12) (.t [.i 65050,.i 220])) (.N (.f 100 [.l 0,.l 1,.l 12]))) [.r (.t [.t [.i 5,.l 1],.l 4])] [],.i (.p .m (.l 12) (.t [.i 69,.i 57])) [.r (.t [.t [.i 22,.l 1],.l 4])] [],.i (.p .e (.l 12) (.i 221)) [.a 14 (.f 99 [.l 0,.l 1,.l 13,.b ak]),.i (.l 14) [.r (.t [.t [.l 14,.l 1],.l 4])] [],.e (.m (.l 4) 0 [.t [.l 13,.L [],.l 3]]),.r (.t [.n,.l 4])] [],.i (.p .m (.l 12) (.t [.i 122,.i 65050,.i 220,.i 65041])) [.r (.t [.n,.l 4])] [],.i (.p .e (.l 12) (.i 38)) [.i (.p .e (.l 2) (.L [])) [.r (.t [.t [.i 1,.l 1],.l 4])] [],.a 2 (.S (.to (-1)) (.l 2))] [],.i (.p .e (.l 12) (.i 65033)) [.i (.p .l (.u (.l 0) (.s 70)) (.i 0)) [.r (.t [.t [.i 21,.l 1],.l 4])] [],.i (.p .G (.B .l [.l 2]) (.u (.l 0) (.s 71))) [.r (.t [.t [.i 20,.l 1],.l 4])] [],.a 2 (.o .a (.l 2) (.L [.I (.l 3) (.u (.l 0) (.s 70)) (.u (.l 0) (.s 72))]))] [],.r (.t [.f 101 [.l 0,.l 1,.l 2,.l 3,.l 4],.l 4])]⟩
def ab2:bL:=⟨2,9,[.a 2 (.C (.L []) 1 .i [.u (.l 0) (.s 4)] [] []),.a 3 (.L []),.pA (.p .n (.l 1) (.L [])) [.kh [4,5,6] (.m (.l 1) 1 []),.i (.p .m (.t [.l 5,.l 6]) (.u (.l 2) (.l 4))) [.cont] [],.i (.A (.p .n (.u (.l 2) (.l 4)) (.L [])) (.p .n (.B .l [.u (.u (.u (.l 2) (.l 4)) (.i 0)) (.i 0)]) (.B .l [.l 5]))) [.r (.t [.l 2,.l 3,.b av])] [],.e (.m (.u (.l 2) (.l 4)) 0 [.t [.l 5,.l 6]]),.kh [7,8] (.f 102 [.l 0,.l 4,.l 5,.l 6]),.i (.A (.p .I (.l 7) (.n)) (.p .M (.l 7) (.l 3))) [.e (.m (.l 3) 0 [.l 7])] [],.a 1 (.o .a (.l 1) (.l 8))],.r (.t [.l 2,.l 3,.b ak])]⟩
def aa2:bL:=⟨2,5,[.a 2 (.L []),.dw [3] .r [.B .l [.u (.u (.l 1) (.i 0)) (.i 0)]] [.a 4 (.C (.u (.l 0) (.l 2)) 2 .i [.l 1] [] [3]),.e (.m (.l 2) 0 [.I (.p .m (.u (.l 0) (.s 72)) (.l 4)) (.u (.l 0) (.s 72)) (.u (.l 4) (.i 0))])],.r (.t [.l 2,.B .m [.C (.l 1) 2 .i [.l 1] [] []]])]⟩
def aa4:bL:=⟨4,10,[.a 4 (.b av),.a 5 (.b av),.dw [6] .r [.B .l [.u (.l 0) (.s 16)]] [.a 7 (.u (.u (.l 0) (.s 68)) (.l 6)),.a 8 (.C (.l 0) 1 .r [.u (.u (.u (.l 0) (.s 16)) (.l 6)) (.i 1),.u (.u (.u (.l 0) (.s 16)) (.l 6)) (.i 2)] [.p .n (.u (.l 1) (.l 0)) (.L [])] [2]),.i (.A (.l 7) (.p .n (.l 8) (.L []))) [.a 4 (.b ak),.dw [9] .i [.l 8] [.a 5 (.O (.l 5) (.p .m (.t [.l 7,.l 9]) (.a (.l 1) 54))),.i (.p .M (.t [.l 7,.l 9]) (.l 3)) [.a 3 (.o .a (.l 3) (.L [.t [.l 7,.l 9]]))] []]] []],.dw [9] .i [.a (.l 1) 45] [.i (.O (.p .e (.u (.l 2) (.l 9)) (.L [])) (.p .n (.B .l [.a (.u (.a (.l 1) 45) (.l 9)) 31]) (.B .l [.u (.u (.u (.l 2) (.l 9)) (.i 0)) (.i 0)]))) [.r (.b av)] []],.i (.l 4) [.r (.A (.l 5) (.p .e (.C (.l 0) 1 .i [.a (.l 1) 54] [.p .M (.l 0) (.l 1)] [3]) (.L [])))] [],.i (.p .n (.B .s [.a (.l 1) 54]) (.B .s [.l 3])) [.r (.b av)] [],.dw [9] .r [.B .l [.l 2]] [.i (.p .e (.u (.l 2) (.l 9)) (.L [])) [.i (.p .m (.l 9) (.a (.l 1) 45)) [.r (.b av)] []] [.i (.O (.p .M (.l 9) (.a (.l 1) 45)) (.p .n (.t [.a (.u (.a (.l 1) 45) (.l 9)) 31,.a (.u (.a (.l 1) 45) (.l 9)) 32]) (.f 104 [.l 0,.u (.l 2) (.l 9)]))) [.r (.b av)] []]],.r (.b ak)]⟩
def aa3:bL:=⟨2,11,[.a 2 (.L []),.dw [3,4] .i [.l 0] [.i (.p .e (.l 3) (.i 69)) [.a 2 (.o .a (.l 2) (.B .L [.l 4]))] [.i (.p .m (.l 3) (.t [.i 221,.i 57])) [.e (.m (.l 2) 0 [.l 4])] []]],.dw [5,6,7,8,9,10] .i [.l 1] [.a 2 (.o .a (.l 2) (.L [.l 6,.l 7,.l 8,.l 9])),.i (.p .e (.l 5) (.i 1)) [.e (.m (.l 2) 0 [.l 10])] []],.r (.C (.l 0) 1 .r [.o .a (.B .l [.l 0]) (.i 1)] [.p .m (.l 0) (.l 1)] [2])]⟩
def hR:bL:=⟨1,44,[.a 1 (.B .L [.S (.to 36) (.l 0)]),.a 1 (.o .a (.l 1) (.B .L [.F (.c (.t [.i 148,.i 7,.i 69,.i 5,.i 737,.i 2,.i 3,.i 5,.i 64,.i 77,.i 0,.i 94,.i 6,.i 3])) (.B .l [.l 1])])),.a 2 (.u (.l 1) (.i 0)),.a 3 (.o .m (.l 2) (.i 8)),.a 4 (.w 3 []),.a 5 (.L [.l 1,.i 3,.L [],.L []]),.e (.f 95 [.l 5,.o .a (.i 2) (.o .m (.l 2) (.i 3)),.i 0]),.a 6 (.f 97 [.u (.l 5) (.i 2)]),.a 7 (.L [.m (.l 4) 13 [.t [.i 6,.i 0]],.m (.l 4) 13 [.t [.i 6,.i 1]],.m (.l 4) 13 [.t [.i 6,.i 2]]]),.a 8 (.m (.l 4) 13 [.t [.i 7,.i 0]]),.a 9 (.f 11 [.l 4,.i 66,.t []]),.a 10 (.f 11 [.l 4,.i 67,.t []]),.a 11 (.I (.o .m (.o .f (.l 2) (.i 8)) (.i 2)) (.B .t [.l 7]) (.t [])),.a 12 (.p .m (.l 3) (.t [.i 2,.i 5,.i 6])),.a 13 (.I (.l 12) (.m (.l 4) 13 [.t [.i 3,.i 65,.l 11]]) (.f 11 [.l 4,.i 64,.l 11])),.a 14 (.u (.t [.i 1,.i 0,.i 0,.i 32,.i 32,.i 32,.i 1,.i 33]) (.l 3)),.a 15 (.w 5 [.l 4]),.A (.l 15) 23 (.D .i [.i 67,.i 3]),.A (.l 15) 17 (.D .i [.u (.l 7) (.i 0),.t [.l 9],.u (.l 7) (.i 1),.t [.l 10],.u (.l 7) (.i 2),.t [.f 11 [.l 4,.i 2,.t []]]]),.A (.l 15) 19 (.D .i [.l 8,.i 1]),.i (.p .n (.l 3) (.i 4)) [.A (.l 15) 21 (.D .i [.l 13,.i 12])] [],.a 16 (.t [.i 12,.l 9,.i 13,.l 8,.u (.l 7) (.i 0),.l 10,.l 13,.u (.l 7) (.i 1),.u (.l 7) (.i 2),.i 7,.i 0,.i 14,.i 999,.i 12,.l 9]),.a 17 (.L [.i 12,.l 9,.i 13,.m (.l 4) 13 [.t [.i 8,.l 8]],.m (.l 4) 13 [.t [.i 8,.u (.l 7) (.i 0)]],.l 10,.l 13,.i 0,.i 0,.i 0,.i 0,.i 0,.i 0,.i 12,.l 9]),.a 18 (.t [.i 0,.i 0,.i 0,.i 0,.i 0,.i 0,.I (.l 12) (.i 8) (.i 0),.i 8,.i 8,.i 8,.i 8,.i 22,.i 22,.i 0,.i 0]),.a 19 (.D .s [.s 4,.l 6,.s 16,.L [],.s 69,.L [],.s 68,.L [],.s 71,.u (.t [.i 4,.i 2,.i 1,.i 3,.i 0]) (.o .m (.o .f (.l 2) (.i 256)) (.i 5))]),.dw [20,21,22,23,24,25] .i [.u (.l 5) (.i 3)] [.a 26 (.I (.p .e (.l 20) (.i 0)) (.u (.l 18) (.l 25)) (.i 0)),.i (.A (.p .e (.l 26) (.i 0)) (.A (.p .l (.l 20) (.i 2)) (.p .e (.u (.l 19) (.s 71)) (.i 0)))) [.a 26 (.i 20)] [],.e (.m (.u (.l 19) (.s 68)) 0 [.l 26]),.e (.m (.u (.l 19) (.s 69)) 0 [.I (.p .g (.l 20) (.i 1)) (.L []) (.I (.l 20) (.L [.i 12]) (.L [.u (.l 17) (.l 25)]))]),.e (.m (.u (.l 19) (.s 16)) 0 [.t [.l 20,.l 21,.l 22,.l 23,.l 24,.I (.p .e (.l 20) (.i 0)) (.u (.l 16) (.l 25)) (.l 25)]])],.a 27 (.u (.t [.t [],.t [.i 7],.t [.i 1,.i 12],.t [.l 13]]) (.o .m (.o .f (.l 2) (.i 16)) (.i 4))),.a 28 (.B .L [.l 27]),.i (.p .e (.o .m (.l 14) (.i 2)) (.i 0)) [.a 28 (.o .a (.L [.I (.l 12) (.f 13 [.l 4,.l 13]) (.l 13)]) (.l 28))] [],.S (.l 19) (.s 70) (.I (.p .e (.l 28) (.L [])) (.g 1) (.I (.p .e (.u (.l 28) (.i 0)) (.i 1)) (.i 7) (.u (.l 28) (.i 0)))),.S (.l 19) (.s 72) (.f 15 [.l 4,.l 13]),.a 29 (.w 4 [.t [],.u (.l 19) (.s 71),.l 6,.u (.l 19) (.s 16)]),.a 30 (.t [.I (.l 12) (.i 65) (.i 64),.l 14,.i 6,.i 0,.i 0,.l 27]),.a 31 (.f 83 [.l 15,.l 13,.l 30,.l 29]),.i (.O (.p .n (.a (.l 31) 42) (.l 28)) (.O (.p .n (.f 81 [.l 15,.l 13,.l 30]) (.l 28)) (.p .n (.a (.l 31) 43) (.B .l [.l 11])))) [.r (.b av)] [],.a 32 (.f 82 [.l 29]),.i (.O (.p .n (.B .s [.l 32]) (.f 106 [.l 6,.u (.l 19) (.s 16)])) (.p .n (.B .s [.a (.l 31) 49]) (.B .s [.l 32]))) [.r (.b av)] [],.i (.p .n (.f 85 [.l 31]) (.I (.p .e (.l 3) (.i 3)) (.i 0) (.i 1))) [.r (.b av)] [],.dw [33] .i [.S (.to 11) (.l 16)] [.S (.a (.l 31) 51) (.l 33) (.i 1)],.A (.l 31) 52 (.D .i [.i 0,.w 11 [],.i 38,.w 12 [],.i 65033,.w 13 [],.i 122,.w 14 [],.i 221,.w 15 [],.i 65050,.w 14 [],.i 220,.w 14 []]),.S (.a (.l 31) 52) (.i 65041) (.w 14 []),.a 34 (.L [.t [.i 0,.L [],.f 85 [.l 31]]]),.a 35 (.L []),.dw [36] .r [.B .l [.u (.l 19) (.s 16)]] [.i (.p .l (.u (.u (.u (.l 19) (.s 16)) (.l 36)) (.i 0)) (.i 2)) [.e (.m (.l 35) 0 [.u (.u (.u (.l 19) (.s 16)) (.l 36)) (.i 3)])] [],.i (.p .e (.u (.u (.u (.l 19) (.s 16)) (.l 36)) (.i 0)) (.i 1)) [.e (.m (.l 35) 0 [.u (.u (.u (.l 19) (.s 16)) (.l 36)) (.i 5)])] []],.dw [37] .r [.o .m (.o .f (.l 2) (.i 64)) (.i 4)] [.a 38 (.o .m (.u (.l 1) (.o .a (.l 37) (.i 1))) (.B .l [.l 6])),.i (.p .M (.l 38) (.l 35)) [.e (.m (.l 34) 0 [.t [.l 38,.L [],.I (.p .m (.l 3) (.t [.i 3,.i 4])) (.o .m (.o .f (.u (.l 1) (.o .a (.l 37) (.i 1))) (.i 64)) (.i 2)) (.i 1)]])] []],.dw [38,39,40] .i [.l 34] [.e (.f 56 [.l 31,.l 38,.w 7 [.L [],.l 40,.i 0]])],.e (.f 91 [.l 31]),.kh [41,42,43] (.f 103 [.l 19,.l 34]),.i (.N (.l 43)) [.r (.p .n (.a (.l 31) 54) (.L []))] [],.r (.f 105 [.l 19,.l 31,.l 41,.l 42])]⟩
def HX:af bL:=[Mz,My,YZ,FC,ZW,ac9,ac8,Zy,Zz,Zx,ab3,ZD,ac2,Zv,Zt,ac4,Z',ad7,Zf,Z6,Z5,Z7,ad1,ZY,ad5,YY,Zs,ad4,Z2,Mw,YV,YW,YX,Mx,ac5,Zh,Zi,MA,MB,Zc,Zd,Y9,Y',Za,Zb,ac1,ac3,Z4,ad9,ae0,ab4,ab5,ab6,ad3,ZH,ZR,ZS,ae1,MC,ZC,Y0,f_RegionTable_jump,f_RegionTable_place,Y1,ZX,ac0,ac6,Z1,ZZ,Z3,ZN,ZP,Z8,ad2,ac7,ZK,Y7,Y8,Z0,ad8,Y5,Zg,ZO,MD,ad6,ZQ,Zw,Zp,ZL,ZM,ZA,ae2,Y4,Y6,aa5,aa0,ab1,aa1,aa8,aa9,ab0,aa6,aa7,ab2,aa2,aa4,aa3,hR]
def PP(f:ae):aw bL:=HX[f]?
def LL:af EG:=[
 ⟨aj,ak,ab 0,[],[4,5]⟩,
 ⟨ab 0,ak,aj,[],[4,5]⟩,
 ⟨ab 0,ak,aj,[],[4,5]⟩,
 ⟨aj,av,ab 1,[(12,2),(13,3)],[6,7,8,9,10]⟩,
 ⟨aj,av,ab 25,[],[14,15,4,16]⟩,
 ⟨aj,av,ab 29,[(60,30),(20,31),(55,32)],[18,21,22,23,24,25,17,19,26]⟩,
 ⟨aj,av,ab 33,[],[27,28,29,30]⟩,
 ⟨aj,av,ab 37,[],[31,32,33]⟩,
 ⟨aj,av,aj,[],[]⟩,
 ⟨aj,av,ab 38,[(1,39),(59,40),(58,41),(56,42),(64,43),(61,44)],[34,18,35,36,37,38,39,40,41,42,43,44,5,45,46,47,48,49,50,51,52,53,54]⟩,
 ⟨aj,av,ab 60,[(56,61),(62,62),(57,63)],[16]⟩,
 ⟨ab 8,av,aj,[(63,76)],[]⟩,
 ⟨ab 8,av,aj,[(63,77)],[]⟩,
 ⟨ab 8,av,aj,[(63,80)],[]⟩,
 ⟨ab 8,av,aj,[(63,92)],[]⟩,
 ⟨ab 8,av,aj,[(63,93)],[]⟩]
def aZ(C:ae):aw EG:=LL[C]?
def aZ4:af (ag×V):=[(0,.i 20),(1,.i 9),(2,.i 10),(3,.i 11),(4,.i 12),(5,.i 13),(6,.i 14),(7,.i 15),(8,.i 16),(9,.i 17),(10,.i 18),(11,.i 19),(12,.i 1),(13,.i 4)]
def z':af (ag×V):=[(20,.i 0),(9,.i 1),(10,.i 2),(11,.i 3),(12,.i 4),(13,.i 5),(14,.i 6),(15,.i 7),(16,.i 8),(17,.i 9),(18,.i 10),(19,.i 11),(1,.i 12),(4,.i 13)]
def It:af (ag×V):=[(0,.i 0),(20,.i 0),(32,.i 1),(33,.i 2),(37,.i 0),(38,.i 0),(40,.i 9),(42,.i 0),(56,.i 5),(57,.i 5),(58,.i 5),(59,.i 5),(60,.i 5),(61,.i 5),(62,.i 5),(63,.i 5),(64,.i 5),(65,.i 5),(66,.i 5),(67,.i 5),(68,.i 5),(69,.i 6),(70,.i 0),(71,.i 0),(72,.i 0),(73,.i 0),(74,.i 0),(75,.i 0),(76,.i 0),(77,.i 0),(80,.i 0),(81,.i 0),(82,.i 0),(83,.i 0),(84,.i 0),(85,.i 0),(88,.i 0),(89,.i 0),(90,.i 0),(91,.i 0),(92,.i 0),(93,.i 0),(94,.i 0),(95,.i 0),(96,.i 0),(97,.i 0),(98,.i 0),(99,.i 0),(100,.i 0),(101,.i 0),(102,.i 0),(103,.i 0),(104,.i 0),(105,.i 0),(106,.i 0),(109,.i 0),(110,.i 0),(111,.i 9),(113,.i 7),(114,.i 10),(115,.i 9),(116,.i 7),(117,.i 7),(121,.i 7),(122,.i 0),(123,.i 8),(124,.i 8),(125,.i 8),(126,.i 8),(127,.i 8),(128,.i 8),(129,.i 7),(130,.i 0),(131,.i 0),(132,.i 0),(133,.i 0),(134,.i 0),(135,.i 0),(136,.i 0),(137,.i 0),(140,.i 7),(141,.i 7),(142,.i 0),(143,.i 7),(163,.i 7),(164,.i 7),(165,.i 7),(179,.i 0),(180,.i 0),(181,.i 0),(182,.i 0),(183,.i 0),(184,.i 0),(185,.i 0),(186,.i 0),(208,.i 11),(209,.i 0),(210,.i 0),(211,.i 0),(214,.i 0),(215,.i 0),(216,.i 0),(217,.i 0),(218,.i 0),(219,.i 0),(220,.i 0),(221,.i 5),(223,.i 0),(65025,.i 0),(65026,.i 0),(65027,.i 0),(65028,.i 0),(65029,.i 0),(65030,.i 9),(65031,.i 9),(65033,.i 3),(65034,.i 3),(65035,.i 3),(65036,.i 4),(65037,.i 4),(65038,.i 4),(65041,.i 0),(65045,.i 7),(65046,.i 7),(65050,.i 0),(65054,.i 0)]
structure K8 where
 cP:af a5
 cls:ae->aw a8
 bp:oF
set_option genCtorIdx false in
inductive G where
 |fn (f:ae)
 |cls (C:ae)
 |val (v:V)
 |bi (b:qJ)
 |src (s:Src)
structure kP where
 addr:a8
 obj:bj
 fd:FuncData
 as:af Arg
 body:af eJ
 names:af a5
def OD(M:ar)(st:eJ)(q:a5)(a:ae)(l:af ht):kP:=⟨a,F' q st M (a - 1),MN (stN st) q st M (.ref (a - 1)),(Iq st).args,QE st,(Iq st).args.map (·.arg)++l.map iM⟩
def cA(M:ar)(j a:ae):af ht->kP:=OD M (rx j) (stN (rx j)) a
def hD(M:ar)(j m:ae)(q:ht)(a:ae):af ht->kP:=OD M (QH j m) (iM q) a
def lP:af a5:=(["append","pop","remove","get","code","at","rows","index","depths","weights","opens","number","row","put","locals_","maxstack","clauses","bounds","kt","gflags","sort","bases","ifaces","sorts","variances","unders","news","strict","pairs","listed","proved","stack","init","tail","host","body","mid","owner","tid","flags","ngen","ret","args","count","state","states","work","waiting","rounds","entries","entered","fine","ops","regions","told","under","jump","entry","fault","push","base","operand","place","check","leave","t","h","f","bad","begins","first","most","raw"]:af ht).map iM
def aj9:af (ht×G):=[("range",.src .r),("PRIM_END",.val (.i 16)),("R_PRIM",.val (.i 1)),("len",.bi .l),("BadKind",.cls 1),("check_kind_row",.fn 7),("R_MVAR",.val (.i 7)),("R_VAR",.val (.i 6)),("row_level",.fn 5),("inner_kinds",.fn 4),("DEEPEST_KIND",.val (.i 24)),("HEAVIEST_KIND",.val (.i 4096)),("R_VALUE",.val (.i 3)),("R_CLASS",.val (.i 2)),("R_RAW",.val (.i 11)),("R_ROREF",.val (.i 9)),("R_BOXED",.val (.i 8)),("R_BYREF",.val (.i 5)),("R_ARRAY",.val (.i 4)),("R_FTN",.val (.i 10)),("row_length",.fn 6),("check_named",.fn 8),("is_var",.fn 21),("is_value",.fn 19),("may_stand",.fn 10),("TID_PRIM",.val (.r 67)),("check_args",.fn 9),("NULLK",.val (.i 14)),("VOID",.val (.i 0)),("prim_kind",.fn 12),("PRIM_TID",.val (.r 66)),("ARRAY_TID",.val (.i 5)),("NINT",.val (.i 11)),("BOOL",.val (.i 1)),("STRING",.val (.i 13)),("OBJECT",.val (.i 12)),("U4",.val (.i 8)),("I4",.val (.i 7)),("U8",.val (.i 10)),("I8",.val (.i 9)),("OP_SORT",.val (.r 257)),("SO_BRANCH",.val (.i 5)),("OP_SWITCH",.val (.i 69)),("is_branch",.fn 23),("list",.bi .L),("GB_CLASS",.val (.i 1)),("bound_kinds",.fn 26),("tid_of",.fn 17),("VALUE_ROOTS",.val (.t [.i 1,.i 2,.i 3])),("is_iface",.fn 28),("is_ref",.fn 20),("S_IFACE",.val (.i 3)),("kind_sort",.fn 16),("assign_settled",.fn 35),("Book",.cls 6),("assign_within",.fn 36),("VState",.cls 7),("pop_kind",.fn 45),("push_kind",.fn 46),("VerifyFault",.cls 2),("flow_edge",.fn 55),("check_operand",.fn 59),("VF_EMPTY",.val (.i 1)),("VF_MAX",.val (.i 20)),("stack_kind",.fn 22),("v_is_place",.fn 48),("ref_assignable",.fn 34),("is_raw",.fn 47),("VF_DEPTH",.val (.i 3)),("enumerate",.src .e),("merge_kinds",.fn 50),("merge_raw",.fn 51),("flow_to",.fn 56),("copy_state",.fn 54),("wait_for",.fn 57),("merge_states",.fn 52),("state_same",.fn 53),("MOST_ROUNDS",.val (.i 60)),("BAD",.val (.i 15)),("kind_known",.fn 58),("VF_OP",.val (.i 22)),("jump_fault",.fn 72),("stand_fault",.fn 73),("is_entry",.fn 67),("EC_FAULT",.val (.i 4)),("EC_FINALLY",.val (.i 2)),("RP_TRY",.val (.i 0)),("RP_HANDLER",.val (.i 2)),("EC_FILTER",.val (.i 1)),("RP_FILTER",.val (.i 1)),("part_at",.fn 65),("tuple",.bi .t),("EC_CATCH",.val (.i 0)),("is_alone",.fn 64),("is_catching",.fn 68),("VF_JUMP",.val (.i 5)),("region_of",.fn 66),("enters_right",.fn 70),("exits_right",.fn 71),("VF_LEAVE",.val (.i 6)),("OP_RET",.val (.i 42)),("OP_RETHROW",.val (.i 65050)),("rethrow_fault",.fn 74),("OP_ENDFILTER",.val (.i 65041)),("OP_ENDFINALLY",.val (.i 220)),("end_fault",.fn 75),("reversed",.src .rev),("is_last",.fn 69),("MF_STATIC",.val (.i 1)),("MF_CTOR",.val (.i 32)),("VF_LOCAL",.val (.i 21)),("v_arg_kind",.fn 79),("raw_kind",.fn 15),("v_stack",.fn 49),("byref_kind",.fn 13),("targets",.fn 24),("V",.cls 9),("args_with_this",.fn 81),("args_of",.fn 18),("RegionTable",.cls 10),("entries_of",.fn 82),("is_class_ctor",.fn 78),("surely_class",.fn 27),("VF_HANDLER",.val (.i 8)),("boxed_kind",.fn 14),("begin_handler",.fn 87),("catch_kind",.fn 86),("enter_clause",.fn 88),("enter_handlers",.fn 89),("VF_END",.val (.i 7)),("sorted",.bi .s),("tell",.fn 84),("check_one",.fn 90),("_law_next",.fn 94),("_law_try",.fn 96),("_law_block",.fn 95),("_law_OPS",.val (.t [.i 0,.i 38,.i 65033,.i 122,.i 221,.i 65050,.i 220,.i 0,.i 69,.i 57,.i 65041])),("_law_parts",.fn 98),("_law_shut",.fn 99),("_law_stands",.fn 100),("_law_on",.fn 101),("_law_one",.fn 102),("min",.bi .m),("_law_common",.fn 104),("_law_FILL",.val (.t [.i 148,.i 7,.i 69,.i 5,.i 737,.i 2,.i 3,.i 5,.i 64,.i 77,.i 0,.i 94,.i 6,.i 3])),("KindTable",.cls 3),("_law_code",.fn 97),("class_kind",.fn 11),("BareHost",.cls 5),("Body",.cls 4),("make_v",.fn 83),("_law_entries",.fn 106),("first_init",.fn 85),("VNop",.cls 11),("VPop",.cls 12),("VLdarg",.cls 13),("VEnd",.cls 14),("VLeave",.cls 15),("walk",.fn 91),("_law_ways",.fn 103),("_law_fits",.fn 105)]
def hT:af (a5×G):=aj9.map λp=>(iM p.1,p.2)
def fk:af kP:=[hD vu 11 0 "RuneError.__init__" 35 [],
 hD dM 48 0 "KindTable.__init__" 81 ["number","row"],
 hD dM 48 1 "KindTable.row" 88 [],
 hD dM 48 2 "KindTable.put" 95 ["found","depth","weight","opened","level","inner","k"],
 cA dM 49 109 ["sort"],
 cA dM 50 116 [],
 cA dM 51 123 [],
 cA dM 52 130 ["sort","inner"],
 cA dM 53 137 [],
 cA dM 54 144 ["arg"],
 cA dM 55 151 ["sort"],
 cA dM 56 158 [],
 cA dM 57 165 [],
 cA dM 59 179 [],
 cA dM 60 186 [],
 cA dM 62 200 [],
 cA dM 63 207 [],
 cA dM 65 221 ["row"],
 cA dM 66 228 ["row"],
 cA dM 67 235 [],
 cA dM 68 242 ["sort"],
 cA dM 69 249 ["sort"],
 cA dM 70 256 [],
 cA zC 85 271 [],
 cA zC 86 278 [],
 hD Ca 100 0 "Body.__init__" 292 [],
 cA sR 104 308 ["out","seen","todo","b","inner"],
 cA sR 106 322 ["b"],
 cA sR 107 329 [],
 hD jA 116 0 "BareHost.__init__" 392 [],
 hD jA 116 1 "BareHost.base" 399 [],
 hD jA 116 3 "BareHost.sort" 413 [],
 hD jA 116 5 "BareHost.under" 427 [],
 hD jA 118 0 "Book.__init__" 455 [],
 cA jA 119 469 [],
 cA jA 120 476 ["book"],
 cA jA 123 497 ["kt"],
 hD dx 144 0 "VState.__init__" 560 [],
 hD dx 146 0 "V.__init__" 602 [],
 hD dx 146 1 "V.pop" 609 [],
 hD dx 146 3 "V.push" 623 [],
 hD dx 146 4 "V.fault" 630 [],
 hD dx 146 7 "V.jump" 651 [],
 hD dx 146 8 "V.leave" 658 [],
 hD dx 146 9 "V.operand" 665 [],
 cA dx 147 679 [],
 cA dx 148 686 [],
 cA dx 149 693 [],
 cA dx 150 700 ["sort"],
 cA dx 151 707 [],
 cA dx 154 728 ["kt"],
 cA dx 155 735 [],
 cA dx 156 742 ["stack","i","k","m","init"],
 cA dx 157 749 [],
 cA dx 158 754 [],
 cA dx 159 761 ["code"],
 cA dx 160 768 ["old","both","e"],
 cA dx 161 775 [],
 cA dx 162 782 ["todo","seen","inner","row","sort","a"],
 cA dx 163 789 ["code"],
 hD fl 168 0 "RegionTable.__init__" 803 [],
 hD fl 168 2 "RegionTable.jump" 817 [],
 hD fl 168 3 "RegionTable.place" 824 [],
 hD fl 168 4 "RegionTable.entry" 831 [],
 cA fl 176 901 [],
 cA fl 180 929 ["sort","t0","t1","h0","h1","extra"],
 cA fl 181 936 ["found","c","part"],
 cA fl 182 943 ["clause"],
 cA fl 183 950 [],
 cA fl 184 957 [],
 cA fl 185 964 ["c","part"],
 cA fl 186 971 ["c","part"],
 cA fl 187 978 ["was","now"],
 cA fl 188 985 ["op"],
 cA fl 189 992 ["c","part"],
 cA fl 190 999 ["c","part"],
 hD lM 192 0 "VNop.check" 1013 [],
 hD lM 193 0 "VPop.check" 1032 [],
 cA lM 194 1044 [],
 cA lM 195 1051 [],
 hD lM 196 0 "VLdarg.check" 1065 ["k"],
 cA iU 198 1077 ["args","k"],
 cA iU 199 1084 ["found","ins","goal","sort","t0","t1","h0","h1","extra","i"],
 cA iU 200 1091 ["v"],
 cA iU 201 1098 [],
 cA iU 202 1105 [],
 cA iU 203 1112 [],
 cA iU 204 1119 ["stack"],
 cA iU 205 1126 [],
 cA iU 206 1133 ["init","c","clause"],
 cA iU 207 1140 ["code","op","operand","rule"],
 cA iU 208 1147 ["i","e"],
 hD sQ 210 0 "VEnd.check" 1161 [],
 hD sQ 211 0 "VLeave.check" 1180 [],
 cA fN 215 1194 [],
 cA fN 216 1201 ["j","v"],
 cA fN 217 1208 ["t0","t1","sort","rows","j","extra","h0","clause"],
 cA fN 218 1215 ["n","code","form","z","operand"],
 cA fN 219 1222 ["out","place","sort","t0","t1","h0","h1","extra"],
 cA fN 220 1229 ["was","now","row","out"],
 cA fN 221 1234 ["parts","rest"],
 cA fN 222 1239 ["goal","code"],
 cA fN 223 1246 ["ways","place","sort","t0","t1","h0","h1","extra","op","goal","code"],
 cA fN 224 1251 ["seen","faults","i","s","init","fault","ways"],
 cA fN 225 1256 ["stack","j","column"],
 cA fN 226 1261 ["hit","met","place","code","held","i"],
 cA fN 227 1266 ["out","op","goal","sort","t0","t1","h0","h1","extra"],
 cA fN 228 1273 ["s","h","form","kt","t","code","open_kinds","m0","plain","iface","targs","struct","owner","flags","host","kinds","starts","unfit","c","sort","t0","t1","h0","h1","extra","amiss","params","args","body","sig","v","entries","k","given","barred","place","j","at","stack","init","seen","faults","even"]]
def p3:af ae:=[35,81,88,95,109,116,123,130,137,144,151,158,165,179,186,200,207,221,228,235,242,249,256,271,278,292,308,322,329,392,399,413,427,455,469,476,497,560,602,609,623,630,651,658,665,679,686,693,700,707,728,735,742,749,754,761,768,775,782,789,803,817,824,831,901,929,936,943,950,957,964,971,978,985,992,999,1013,1032,1044,1051,1065,1077,1084,1091,1098,1105,1112,1119,1126,1133,1140,1147,1161,1180,1194,1201,1208,1215,1222,1229,1234,1239,1246,1251,1256,1261,1266,1273]
def se:af ae:=[38,51,63,98,295,437,458,563,584,668,841,1016,1035,1068,1164,1183]
def so(f:ae):aw kP:=fk[f]?
def uo(C:ae):aw a8:=se[C]?
def TT:K8:=⟨lP,uo,aZ⟩
structure wO where
 w:cG
 s:bS
 ja:a5->aw ar
 mQ:a5->aw ar
 p:a8
 zs:af ag
structure Given(x:wO):Prop where
 k:(KK x.w.params).In x.s.heap
 g:x.s.heap.Ns x7 x.ja
 b:x.s.heap.Ns Ay x.mQ
 nl:x.s.heap.NoLimit
 cq:∀y:a5,y≠"__name__"->x.mQ y=tB y
 gens:x.s.gens=#[]
 wl:Well x.w.params x.s.heap (.ref x.p) (ofPy (.list (x.zs.map .int)))
 len:x.zs.length<=63
 mod:(x.p==pH)=av
def Goal(x:wO):Prop:=bg (model b8 x.w) Jg (hq (.ref 1273) [.ref x.p]) (λv s'=>v=.bool ak/\(∀b o,x.s.heap.get? b=ab o->s'.heap.get? b=ab o)/\s'.os=x.s.os/\s'.gens=#[]) (λU U=>dg) x.s
theorem Rp:Nonempty wO:=⟨⟨aWorld 0,{},λU=>aj,λU=>aj,0,[]⟩⟩
def fA:wO:= @bj2 _ Rp λx=>¬(Given x->Goal x)
theorem aH9(h:Given fA->Goal fA)(x:wO)(g:Given x):Goal x:=JP λn=>bj3 (p:=λx=>¬(Given x->Goal x)) Rp ⟨x,λz=>n (z g)⟩ h
structure UE where
 prog:Program
 w:cG
 T:K8
 h₀:bw
 ja:a5->aw ar
 mQ:a5->aw ar
 os:cJ
 K:Frag
def X:UE:=⟨b8,fA.w,TT,fA.s.heap,fA.ja,fA.mQ,fA.s.os,KK fA.w.params⟩
abbrev a9:Aq:=model X.prog X.w
abbrev iS:=intKind X.prog X.w
abbrev sK:=strKind X.prog X.w
section
open Sem (wp)
def qV(P:af ag->a8->Prop):dr->af ar->Prop
 |(i,j,aj),vs=>∃t u,vs=[.int i t,.int j u]
 |(i,j,ab l),vs=>∃t u b,vs=[.int i t,.int j u,.ref b]/\P l b
theorem qV.imp{P yF:af ag->a8->Prop}(f:∀l b,P l b->yF l b):∀{k:dr}{vs:af ar},qV P k vs->qV yF k vs
 |(_,_,aj),_,x=>x
 |(_,_,ab _),_,⟨t,u,b,e,h⟩=>⟨t,u,b,e,f _ _ h⟩
section
variable{A:ea}{E:ar->bS->Prop}{s:bS}{h h':bw}
inductive kQ(h:bw)(k:dr)(a:a8):Prop
 |mk (vs:dC ar) (t:h.IsTuple a vs) (i:qV (x1 iS h) k vs.toList)
theorem th{a:a8}{vs:dC ar}(t:s.heap.IsTuple a vs):s.TypeIs (.ref a) "tuple":=let⟨o,aO,aK,_⟩:=t;⟨o,aO,aK⟩
theorem IsTuple.inj{a:a8}{x y:dC ar}(p:h.IsTuple a x)(q:h.IsTuple a y):x=y:=by
 rcases p with⟨o,aO,_,n,hd⟩;rcases q with⟨o',gg,_,xm,jw⟩
 cases aO.symm.trans gg
 injection hd.symm.trans jw
theorem qV.inj{x y:dr}{vs:af ar}(a:qV (x1 iS h) x vs)(z:qV (x1 iS h) y vs):x=y:=by
 rcases x with⟨i,j,_|l⟩<;>rcases y with⟨ky,j',_|l'⟩
 ·rcases a with⟨t,u,rfl⟩;refine rE z λjg px e=> ?_;cases e;rfl
 ·rcases a with⟨t,u,rfl⟩;refine kj z λjg px b e q=> ?_;cases e
 ·rcases z with⟨t,u,rfl⟩;refine kj a λjg px b e q=> ?_;cases e
 ·rcases a with⟨t,u,b,rfl,p⟩;refine kj z λjg px b e q=> ?_;cases e;rw[p.inj q]
theorem kQ.inj{a:a8}{x y:dr}(aE:kQ h x a)(aQ:kQ h y a):x=y:=by
 rcases aE with⟨vs,t,i⟩;rcases aQ with⟨us,jg,ky⟩
 cases IsTuple.inj t jg
 exact i.inj ky
theorem kQ.keeps{k:dr}{a d:a8}{o:bj}{ao ep}(x:kQ h k a)(aO:h.get? d=ab o)(hd:o.data=.dict ao ep)(hs:ix d h h'):kQ h' k a:=by
 rcases x with⟨vs,⟨o',gg,aK,n,jw⟩,i⟩
 have zd:a≠d:=λz=>by subst z;cases gg.symm.trans aO;cases hd.symm.trans jw
 exact⟨vs,⟨o',(hs.2 a zd).trans gg,aK,n,jw⟩,i.imp λl b z=>z.keeps aO hd hs⟩
def PZ(k:dr):ag:=Jq (bj1 ([iS.hash k.1,iS.hash k.2.1]++match k.2.2 with|aj=>[]|ab l=>[tupleKeyHash iS l]))
def Ia(k:dr):ae:=3+match k.2.2 with|aj=>0|ab l=>l.length+1
def wM(A:ea):Prop:=A.units+5<lp
theorem wM.le(h:wM A){n:ae}(z:n<=5):A.units+n<lp:=d7 (gC z _) h
theorem PT{i:ag}{Q:ag->bS->Prop}(h:Q (Jq i) s):bg a9 A (bl1 i) Q E s:=by
 show bg _ _ (if(decide (-(2:ag)^63<=i)&&decide (i<2^63))=ak then _ else _) Q E _
 unfold Jq at h
 by_cases au:(decide (-(2:ag)^63<=i)&&decide (i<2^63))=ak
 ·rw[bk au]at h|-;exact bI h
 ·rw[bh au]at h|-;exact aN (AB (bI h))
theorem aP9{k:dr}{a:a8}{Q:ag->bS->Prop}(dm:wM A)(az:kQ s.heap k a)(h:Q (PZ k) {s with toks:=s.toks+Ia k}):bg a9 A (pyHash (.ref a)) Q E s:=by
 rcases az with⟨vs,t,it⟩
 have dU:=th t
 rcases t with⟨o,aO,_,n,hd⟩
 unfold pyHash pyHashByItsType
 refine aN (wpAny_cRoomFor_or (.inr (dm.le (n:=0) (eL _))) ?_)
 refine aN (D0 dU ED.lookup ?_)
 show bg _ _ (if(ab (wB "tuple.__hash__")==ab rT)=ak then _ else _) Q E s
 rw[bh (by rw[beq_builtin_none];exact d6)]
 refine aN (D0 dU ED.lookup ?_)
 show bg _ _ (callSpecialIfBoundUnlessNone? (.ref a) "__hash__" _ >>= _) Q E s
 refine aN (wpAny_callSpecialIfBoundUnlessNone?_slot dU ED (rK ED dU PySem.F.entry_tuple_hash ?_ (PySem.F.args_tuple_hash_1 _)))
 show bg _ _ (SX (.ref a)>>= _) _ _ s
 refine aN (JC aO hd (aN ?_))
 rw[←SF]
 rcases k with⟨i,j,_|l⟩
 ·refine rE it λt u e=> ?_
  rw[e,pK]
  refine aN (aN (DZ (bI ?_)))
  dsimp only
  rw[pK]
  refine aN (aN (DZ (bI ?_)))
  dsimp only
  rw[Tz]
  exact bI (Sy (PT h))
 ·refine kj it λt u b e bb=> ?_
  rw[e,pK]
  refine aN (aN (DZ (bI ?_)))
  dsimp only
  rw[pK]
  refine aN (aN (DZ (bI ?_)))
  dsimp only
  rw[pK]
  refine aN (aN (wpAny_pyHash_tuple (dm.le (n:=1) ai) bb (bI ?_)))
  dsimp only
  rw[Tz]
  refine bI (Sy (PT ?_))
  have e:s.toks+1+1+(l.length+1)+1=s.toks+Ia (i,j,ab l):=by show _=s.toks+(3+(l.length+1));lia
  exact aD e h
def A0(A:ea)(s:bS)(u v:ar)(e:aB):Prop:=∀(Q:aB->bS->Prop)(E:ar->bS->Prop),Q e s->bg a9 A (eqBool u v) Q E s
def qM(A:ea)(s:bS):af (ar×ar)->aB->Prop
 |[],r=>r=ak
 |(u,v)::l,r=>∃e ei,A0 A s u v e/\qM A s l ei/\r=(e&&ei)
theorem qM.cons{u v:ar}{e:aB}{l:af (ar×ar)}{r:aB}(a:A0 A s u v e)(b:qM A s l r):qM A s ((u,v)::l) (e&&r):=⟨e,r,a,b,aa⟩
theorem qM.nil:qM A s [] ak:=aa
theorem bb5{a b:a8}{xs tq:dC ar}{r:aB}{P:Ux->bS->Prop}(cg:s.heap.IsTuple a xs)(bb:s.heap.IsTuple b tq)
  (h:qM A s (TZ xs.toList tq.toList) r)(k:P (.done (.ret (.bool (r&&(xs.size==tq.size))))) s):
  bg a9 A (Builtin.«tuple.__eq__» ⟨[.ref a,.ref b],[]⟩) P E s:=by
 show bg _ _ (v' (.ref b) (.type "tuple")>>= _) _ _ s
 refine aN (Jw (th bb) Sb ?_)
 rw[SQ,bh d6]
 rcases cg with⟨di,cg,_,na,XM⟩;rcases bb with⟨b3,bb,n2,nb,db⟩
 refine aN (JC cg XM (aN (JC bb db (aN ?_))))
 refine Sq _ (λrest q s'=>q.1=aj/\s'=s/\qM A s rest r) _ ?_ ?_ _ _ ⟨aa,aa,h⟩
 ·rintro p rest q s' ⟨b4,rfl,e,ei,he,au,rfl⟩
  refine aN (he _ _ ?_)
  rcases e with _|_
  ·exact aN (bI (bI (bI k)))
  ·exact bI ⟨aa,aa,au⟩
 ·rintro⟨bT,bE⟩ s' ⟨b4,rfl,e⟩
  cases(show bT=aj from b4)
  cases(show r=ak from e)
  exact bI k
theorem A0.int{x y:ag}{t u:pD}:A0 A s (.int x t) (.int y u) (decide (x=y)):=λU U q=>Jv q
theorem aP8{x y:dr}{xs tq:af ar}(dm:A.units<lp)(aE:qV (x1 iS s.heap) x xs)(aQ:qV (x1 iS s.heap) y tq):
  ∃r,qM A s (TZ xs tq) r/\(r&&(xs.length==tq.length))=decide (x=y):=by
 rcases x with⟨i,j,_|l⟩<;>rcases y with⟨ky,j',_|l'⟩
 ·rcases aE with⟨t,u,rfl⟩;rcases aQ with⟨jg,px,rfl⟩
  exact⟨_,.cons .int (.cons .int .nil),by simp⟩
 ·rcases aE with⟨t,u,rfl⟩;rcases aQ with⟨jg,px,b,rfl,_⟩
  exact⟨_,.cons .int (.cons .int .nil),by simp⟩
 ·rcases aE with⟨t,u,b,rfl,_⟩;rcases aQ with⟨jg,px,rfl⟩
  exact⟨_,.cons .int (.cons .int .nil),by simp⟩
 ·rcases aE with⟨t,u,b,rfl,p⟩;rcases aQ with⟨jg,px,cL,rfl,dj⟩
  exact⟨_,.cons .int (.cons .int (.cons (e:=decide (l=l')) (λU U q=>wpAny_eqBool_tuple dm p dj q) .nil)),by simp⟩
theorem aP7{x y:dr}{a b:a8}{Q:aB->bS->Prop}(dm:wM A)(aE:kQ s.heap x a)(aQ:kQ s.heap y b)(h:Q (decide (x=y)) s):bg a9 A (eqBool (.ref a) (.ref b)) Q E s:=by
 unfold eqBool
 try with_reducible refine lq ?_
 show bg _ _ (if(my a==my b)=ak then _ else _) Q E s
 by_cases Gp:(my a==my b)=ak
 ·rw[bk Gp]
  cases Kx (qA Gp)
  rw[cD (aE.inj aQ)]at h
  exact aN (AB (bI h))
 ·rw[bh Gp]
  rcases aE with⟨xs,Iu,ia⟩
  rcases aQ with⟨tq,xO,GP⟩
  refine b5 (aP8 (A:=A.in1) (dm.le (n:=1) ai) ia GP) λr h1 h2=> ?_
  refine aN (wpAny_richCompare_same_room (op:=.Eq) (th Iu) (th xO) Kt (rK Kt (th Iu) PySem.F.entry_tuple_eq (bb5 Iu xO h1 ⟨_,aa,(λe=>nomatch e),?_⟩) (PySem.F.args_tuple_eq_2 _ _)) (dm.le (n:=0) (eL _)))
  rw[←Array.length_toList,←Array.length_toList,h2]
  exact yb h
theorem Q0{n:ae}{vs:dC ar}{a:a8}{Q:aB->bS->Prop}(t:s.heap.IsTuple a vs)(i:∀v∈vs.toList,bg a9 A (v8 n v) (λq s2=>q=ak/\s2=s) E s)(h:Q ak s):bg a9 A (v8 (n+1) (.ref a)) Q E s:=by
 unfold v8
 refine aN (D0 (th t) Kt.lookup ?_)
 show bg _ _ (v' (.ref a) (.type "tuple")>>= _) _ _ s
 refine aN (Jw (th t) Sb ?_)
 rw[SQ,bh d6]
 rcases t with⟨o,aO,_,m,hd⟩
 refine aN (wpAny_seqItems aO hd (aN ?_))
 show bg _ _ (kJ vs _ _) _ _ s
 rw[←SF]
 refine Sq _ (λrest r s'=>r.1=aj/\s'=s/\∀v∈rest,bg a9 A (v8 n v) (λq s2=>q=ak/\s2=s) E s) _ ?_ ?_ _ _ ⟨aa,aa,i⟩
 ·rintro v rest r s' ⟨au,rfl,Ni⟩
  refine aN (dH (Ni v (.head _)) (λq s2 z=> ?_) λU U z=>z)
  rcases z with⟨rfl,rfl⟩
  exact bI ⟨aa,aa,λu sC=>Ni u (.tail _ sC)⟩
 ·rintro⟨a0,bX⟩ s' ⟨au,rfl,_⟩
  cases(show a0=aj from au)
  exact bI h
theorem jS{α:Type}{P:α->Prop}{a:α}{l:af α}(h:P a)(t:∀v∈l,P v):∀v∈a::l,P v:=i3.mpr ⟨h,t⟩
theorem zU{n:ae}{v:ar}(z:carriedByValue v=ak):bg a9 A (v8 n v) (λq s2=>q=ak/\s2=s) E s:=by rw[eqIsQuiet_byValue _ z];exact bI ⟨aa,aa⟩
theorem aw0{n:ae}{eg:af ag}{a:a8}{Q:aB->bS->Prop}(az:x1 iS s.heap eg a)(h:Q ak s):bg a9 A (v8 (n+1) (.ref a)) Q E s:=
 by refine Am az λo items m aO aK hd hi=> ?_;exact Q0 (vs:=items) ⟨o,aO,aK,m,hd⟩ (λv a4=>zU (hi.byValue v a4)) h
theorem aQ1{k:dr}{a:a8}{Q:aB->bS->Prop}(az:kQ s.heap k a)(h:Q ak s):bg a9 A (v8 8 (.ref a)) Q E s:=by
 rcases az with⟨vs,t,i⟩
 refine Q0 t ?_ h
 rcases k with⟨_,_,_|l⟩
 ·refine rE i λt u e=> ?_;rw[e];exact jS (zU aa) (jS (zU aa) (h9 _))
 ·refine kj i λt u b e bb=> ?_;rw[e];exact jS (zU aa) (jS (zU aa) (jS (aw0 (n:=6) bb ⟨aa,aa⟩) (h9 _)))
end
def Ib:HeapKind X.prog X.w dr where
 is:=kQ
 hash:=PZ
 draws:=Ia
 room:=wM
 inj:=kQ.inj
 keeps:=kQ.keeps
 pyHash:=aP9
 eqBool:=aP7
 quiet:=aQ1
end
set_option genCtorIdx false in
inductive Role where
 |obj
 |fld (a:a8)
 |ns (k:ae)
 |cell (k:ae) (x:a5)
 |xO
def Role.ctorIdx(x:Role):Nat:=Role.casesOn (motive:=λU=>Nat) x 0 (λU=>1) (λU=>2) (λU U=>3) 4
abbrev fX:=a8->aw Role
section
variable(h:bw)
mutual
noncomputable def bq:V->ar->Prop
 | .n,w=>w=.none
 | .b b,w=>w=.bool b
 | .i i,w=>∃t,w=.int i t
 | .s n,w=>∃x t,X.T.cP[n]? =ab x/\w=.str x t
 | .t l,w=>l.length<=bN/\∃a vs,w=.ref a/\h.IsTuple a vs/\b7 l vs.toList
 | .r a,w=>w=.ref a
noncomputable def b7:af V->af ar->Prop
 |[],ws=>ws=[]
 |v::l,ws=>∃w r,ws=w::r/\bq v w/\b7 l r
end
end
def eT(h h':bw)(a:a8):Prop:=∀o,h.get? a=ab o->h'.get? a=ab o
def aP(h h':bw):Prop:=∀a vs,h.IsTuple a vs->h'.IsTuple a vs
theorem aP.refl(h:bw):aP h h:=λU U x=>x
theorem aP.trans{cv jx kx:bw}(x:aP cv jx)(y:aP jx kx):aP cv kx:=λa vs z=>y a vs (x a vs z)
theorem aP.keeps{h h':bw}(k:∀b,eT h h' b):aP h h':=λb U⟨o,aO,r⟩=>⟨o,k b _ aO,r⟩
theorem aP.but{h h':bw}{a:a8}(k:ix a h h')(n:∀vs,¬ h.IsTuple a vs):aP h h':=λb vs z=>by
 by_cases e:b=a
 ·exact aV (aR e z) (n vs)
 ·exact let⟨o,aO,r⟩:=z;⟨o,(k.2 b e).trans aO,r⟩
theorem aP.sameBut{h h':bw}{a:a8}{o:bj}(k:ix a h h')(aO:h.get? a=ab o)(aK:o.cls≠.type "tuple"):aP h h':=
 .but k λU⟨_,gg,hc',_⟩=>aK (aD (cR (aO.symm.trans gg)) hc')
theorem aP.data{h h':bw}{a:a8}{o:bj}(k:ix a h h')(aO:h.get? a=ab o)(aK:∀vs n,o.data≠.seq vs n):aP h h':=
 .but k λvs⟨_,gg,_,n,hd⟩=>aK vs n (aD (cR (aO.symm.trans gg)) hd)
theorem aP.Qv{h h':bw}{l:af a8}(hs:S' l h h'):aP h h':=λb U⟨o,aO,aK,n,hd⟩=>let⟨_,e⟩:=hs.2.2 b o aO;⟨_,e,aK,n,hd⟩
section
variable{h h':bw}
mutual
theorem bq.cu(k:aP h h'):∀{v:V}{w:ar},bq h v w->bq h' v w
 | .n,_,x=>x
 | .b _,_,x=>x
 | .i _,_,x=>x
 | .s _,_,x=>x
 | .t _,_,x=>⟨x.1,let⟨a,vs,e,t,r⟩:=x.2;⟨a,vs,e,k _ _ t,b7.cu k r⟩⟩
 | .r _,_,x=>x
theorem b7.cu(k:aP h h'):∀{l:af V}{ws:af ar},b7 h l ws->b7 h' l ws
 |[],_,x=>x
 |_::_,_,x=>let⟨w,r,e,a,b⟩:=x;⟨w,r,e,bq.cu k a,b7.cu k b⟩
end
theorem b7.nil:b7 h [] []:=aa
theorem b7.cons{v:V}{w:ar}{l:af V}{ws:af ar}(a:bq h v w)(b:b7 h l ws):b7 h (v::l) (w::ws):=⟨w,ws,aa,a,b⟩
@[elab_as_elim] theorem b7.ind {P:af V->af ar->Prop}:∀{l:af V}{ws:af ar}(_:b7 h l ws)(_:P [] [])(_:∀v w l ws,bq h v w->b7 h l ws->P l ws->P (v::l) (w::ws)),P l ws
 |[],_,x,n,_=>aD (show _=[]from x) n
 |_::_,_,x,n,c=>let⟨_,_,e,a,b⟩:=x;aD e (c _ _ _ _ a b (b7.ind b n c))
theorem b7.length{l:af V}{ws:af ar}(x:b7 h l ws):ws.length=l.length:=x.ind aa λU U U U U U aI=>aU (·+1) aI
theorem b7.al2{l:af V}{ws:af ar}(x:b7 h l ws):∀(i:ae)(v:V),l[i]? =ab v->∃w,ws[i]? =ab w/\bq h v w:=
 x.ind (λU U e=>nomatch e) λU w U U a U aI i U e=>match i,e with
  |0,e=>⟨w,aa,aR (cR e) a⟩
  |_+1,e=>aI _ _ e
theorem b7.get{l:af V}{ws:af ar}{i:ae}{v:V}(x:b7 h l ws)(e:l[i]? =ab v):∃w,ws[i]? =ab w/\bq h v w:=x.al2 i v e
theorem b7.append{l m:af V}{ws us:af ar}(x:b7 h l ws)(y:b7 h m us):b7 h (l++m) (ws++us):=x.ind y λU U U U a U aI=>.cons a aI
theorem b7.take{l:af V}{ws:af ar}(x:b7 h l ws):∀n,b7 h (l.take n) (ws.take n):=x.ind (λn=>by rw[TX,TX];exact .nil) λU U U U a U aI n=>match n with
 |0=>.nil
 |n+1=>.cons a (aI n)
theorem b7.drop{l:af V}{ws:af ar}(x:b7 h l ws):∀n,b7 h (l.drop n) (ws.drop n):=x.ind (λn=>by rw[Tw,Tw];exact .nil) λU U U U a b aI n=>match n with
 |0=>.cons a b
 |n+1=>aI n
theorem b7.reverse{l:af V}{ws:af ar}(x:b7 h l ws):b7 h l.reverse ws.reverse:=x.ind .nil λU U U U a U aI=>by rw[TU,TU];exact aI.append (.cons a .nil)
theorem b7.set{l:af V}{ws:af ar}{v:V}{w:ar}(x:b7 h l ws)(y:bq h v w):∀j,b7 h (l.set j v) (ws.set j w):=x.ind (λU=>.nil) λU U U U a b aI j=>match j with
 |0=>.cons y b
 |j+1=>.cons a (aI j)
theorem b7.erase{l:af V}{ws:af ar}(x:b7 h l ws):∀j,b7 h (l.eraseIdx j) (ws.eraseIdx j):=x.ind (λU=>.nil) λU U U U a b aI j=>match j with
 |0=>b
 |j+1=>.cons a (aI j)
theorem b7.one{v:V}{ws:af ar}(x:b7 h [v] ws):∃w,ws=[w]/\bq h v w:=let⟨w,_,e,a,b⟩:=x;⟨w,e.trans (aU _ b),a⟩
theorem b7.size{l:af V}{vs:dC ar}(r:b7 h l vs.toList):vs.size=l.length:=Array.length_toList.symm.trans r.length
end
structure bo where
 f:a8->aw bj
 old:a8->Prop
 base:∀b,old b->∃o,f b=ab o
 h0:∀b o,X.h₀.get? b=ab o->f b=ab o
structure Sc where
 env:hI
 names:af a5
 lm:bf
 own:aB
inductive fV{K K':Type}(ay:K->K'->Prop)(h:bw):af (K×V)->af (K'×ar)->Prop
 |nil:fV ay h [] []
 |cons {k v ao k' ou r}:ay k k'->bq h v ou->fV ay h ao r->fV ay h ((k,v)::ao) ((k',ou)::r)
def KL(vs:dC ar):nT->Prop
 | .made=>∃jn,vs[0]? =ab jn/\vs[1]? =ab .none/\vs[2]? =ab .none
 | .bare=>vs[2]? =ab .none
 | .ctx=>gN
def sW(xs:af (dr×a8×ar)):af (dr×ar):=xs.map λx=>(x.1,x.2.2)
section
def ng(h:bw):aw V->aw ar->Prop
 |some v,o=>∃w,o=ab w/\bq h v w
 |none,o=>o=aj
def oJ(h:bw)(d:a8)(fs:af (ae×V)):Prop:=∀C:Prop,(∀m,h.Ns d m->h.DictLe d fs.length->(∀f x,X.T.cP[f]? =ab x->ng h (fM fs f) (m x))->C)->C
def Ba(h:bw)(ρ:fX)(a:a8)(fs:af (ae×V)):aw a8->Prop
 |none=>fs=[]
 |some d=>ρ d=ab (.fld a)/\oJ h d fs
inductive r7(h:bw)(env:hI)(m:a5->aw ar)(x:a5)(v:V):Prop
 |loc (w:ar) (k:env.kindOf x=ab .local) (e:m x=ab w) (r:bq h v w)
 |cell (c:a8) (w:ar) (k:env.kindOf x=ab .cell\/env.kindOf x=ab .free) (e:env.cells.lookup x=ab c) (i:h.IsCell c (ab w)) (r:bq h v w)
def Sc.zi(sc:Sc)(x:a5):Prop:=sc.own=ak/\sc.env.kindOf x=ab .cell
def Sc.isFree(sc:Sc)(x:a5):Prop:=sc.env.kindOf x=ab .free\/(sc.own=av/\sc.env.kindOf x=ab .cell)
theorem Sc.sorts{sc:Sc}{x:a5}(h:sc.env.kindOf x=ab .cell\/sc.env.kindOf x=ab .free):sc.zi x\/sc.isFree x:=
 h.elim (λh=>match o:sc.own with
  |true=>.inl ⟨o,h⟩
  |false=>.inr (.inr ⟨o,h⟩)) λh=>.inr (.inl h)
def Sc.NT(sc:Sc)(x:a5):Prop:=sc.env.kindOf x=ab .local\/sc.zi x
def rV(h:bw)(ρ:fX)(sc:Sc)(x:a5)(P:ae->Prop):Prop:=∀C:Prop,(∀c w j,P j->sc.env.cells.lookup x=ab c->h.IsCell c w->ρ c=ab (.cell j x)->C)->C
structure oO(h:bw)(ρ:fX)(k:ae)(sc:Sc):Prop where
 kind:sc.env.scope.kind=.function
 globals:sc.env.globals=x7
 builtins:sc.env.builtins=Ay
 role:ρ sc.env.locals=ab (.ns k)
 nodup:sc.names.Nodup
 frame:sc.own=ak->sc.env.frame=ab sc.env.locals
 ns:∃m,h.Ns sc.env.locals m/\∀(i:ae)(x:a5)(v:V),sc.names[i]? =ab x->sc.lm.get i=ab v->r7 h sc.env m x v
 own:∀x,sc.zi x->rV h ρ sc x (·=k)
 free:∀x,sc.isFree x->rV h ρ sc x (·<k)
def nS{K K':Type} [j6 K'](knd:tu X.prog X.w K')(ay:K->K'->Prop)(h:bw)(a:a8)(ao:af (K×V)):Prop:=
 ∀C:Prop,(∀kvs,(a==pH)=av->ao.length<=bN->h.DictOf knd a kvs->fV ay h ao kvs->C)->C
def VZ(h:bw)(a:a8)(ao:af (dr×V)):Prop:=∀C:Prop,(∀xs,(a==pH)=av->ao.length<=bN->h.DictOfH Ib a xs->fV (·=·) h ao (sW xs)->C)->C
def KZ(h:bw)(a:a8)(l:af V):Prop:=∀C:Prop,(∀vs n,l.length<=bN->IsL h a vs n->b7 h l vs.toList->C)->C
def t7(C:ae)(fs:af (ae×V)):Prop:=∀f v,fM fs f=ab v->(X.T.bp C).any (·.i8.contains f)=ak
def Vx(h:bw)(ρ:fX)(a:a8)(C:ae)(fs:af (ae×V)):Prop:=
 ∀P:Prop,(∀c d dG,X.T.cls C=ab c->h.get? a=ab ⟨.ref c,ab d,.plain,dG⟩->ρ d=ab (.fld a)->oJ h d fs->t7 C fs->g8 X.T.bp C=ab av->P)->P
def V8(h:bw)(ρ:fX)(a:a8)(C:ae)(fs:af (ae×V))(r:nT):Prop:=
 ∀P:Prop,(∀c od vs dG,X.T.cls C=ab c->h.get? a=ab ⟨.ref c,od,.fields vs,dG⟩->Ba h ρ a fs od->t7 C fs->g8 X.T.bp C=ab ak->KL vs r->P)->P
abbrev Ad:ag->ag->Prop:=(·=·)
abbrev Iw:ae->a5->Prop:=λn x=>X.T.cP[n]? =ab x
def m8(h:bw)(ρ:fX)(a:a8):dN->Prop
 | .l l=>KZ h a l
 | .d ao=>nS iS Ad h a ao
 | .s ao=>nS sK Iw h a ao
 | .t ao=>VZ h a ao
 | .i C fs=>Vx h ρ a C fs
 | .e C fs r=>V8 h ρ a C fs r
structure kR(B:bo)(h:bw)(ρ:fX)(a:a8)(o:O):Prop where
 new:o.tag≠0->ρ a=ab .obj
 old:o.tag=0->B.old a
 rep:m8 h ρ a o.d
def oP(h:bw)(ρ:fX):af Sc->Prop
 |[]=>gN
 |sc::r=>oO h ρ r.length sc/\oP h ρ r
structure et(B:bo)(stk:af Sc)(σ:H)(ρ:fX)(h:bw):Prop where
 keep:∀b o,B.f b=ab o->h.get? b=ab o
 old:∀b o,B.f b=ab o->ρ b=aj
 k7:∀b,(ρ b).isSome=ak->∃o,h.get? b=ab o
 objs:∀a o,σ a=ab o->kR B h ρ a o
 ff:oP h ρ stk
end
section
variable{B:bo}{stk:af Sc}{σ:H}{ρ ρ':fX}{h h':bw}
theorem fV.cu{K K':Type}{ay:K->K'->Prop}(k:aP h h'){ao:af (K×V)}{xs:af (K'×ar)}(x:fV ay h ao xs):fV ay h' ao xs:=by
 induction x with
 |nil=>exact .nil
 |cons a b _ aI=>exact .cons a (b.cu k) aI
theorem ng.cu(k:aP h h'):∀{o:aw V}{w:aw ar},ng h o w->ng h' o w
 |none,_,x=>x
 |some _,_,x=>let⟨w,e,r⟩:=x;⟨w,e,r.cu k⟩
theorem Ns.il{d:a8}{m:a5->aw ar}(k:eT h h' d):h.Ns d m->h'.Ns d m:=λ⟨o,ao,ep,aO,r⟩=>⟨o,ao,ep,k o aO,r⟩
theorem Cell.il{d:a8}{m:aw ar}(k:eT h h' d):h.IsCell d m->h'.IsCell d m:=λ⟨o,aO,r⟩=>⟨o,k o aO,r⟩
theorem nS.but{K K':Type} [j6 K']{knd:tu X.prog X.w K'}{ay:K->K'->Prop}{a:a8}{ao:af (K×V)}(k:aP h h')(mO:eT h h' a)(x:nS knd ay h a ao):nS knd ay h' a ao:=by
 refineλU c=>x _ λkvs s l d G1=>c kvs s l ?_ (G1.cu k)
 refine kj d λo ao ep aO r=> ?_
 exact⟨o,ao,ep,mO _ aO,r⟩
theorem oJ.but{d:a8}{fs:af (ae×V)}(k:aP h h')(kd:eT h h' d)(x:oJ h d fs):oJ h' d fs:=by
 refineλU c=>x _ λm n z f=>c m (Ns.il kd n) (λo' ao ep gg=> ?_) λg x e=>(f g x e).cu k
 refine kj n λo U U aO U=> ?_
 exact z o' ao ep (aO.trans ((kd _ aO).symm.trans gg))
theorem Ba.but{a:a8}{fs:af (ae×V)}{od:aw a8}(k:aP h h')(au:∀d,ρ d=ab (.fld a)->ρ' d=ab (.fld a)/\eT h h' d)(x:Ba h ρ a fs od):Ba h' ρ' a fs od:=by
 rcases od with _|d
 ·exact x
 ·exact⟨(au d x.1).1,x.2.but k (au d x.1).2⟩
theorem r7.but{env:hI}{m:a5->aw ar}{x:a5}{v:V}(k:aP h h')(aK:∀c w,env.kindOf x=ab .cell\/env.kindOf x=ab .free->env.cells.lookup x=ab c->h.IsCell c w->h'.IsCell c w)(s:r7 h env m x v):r7 h' env m x v:=by
 rcases s with⟨w,a,b,d⟩|⟨c,w,a,b,i,d⟩
 ·exact .loc w a b (d.cu k)
 ·exact .cell c w a b (aK c _ a b i) (d.cu k)
theorem rV.but{sc:Sc}{x:a5}{P:ae->Prop}(aK:∀c j w,P j->ρ c=ab (.cell j x)->h.IsCell c w->ρ' c=ab (.cell j x)/\h'.IsCell c w)(s:rV h ρ sc x P):rV h' ρ' sc x P:=λU k=>s _ λc w j p e i r=>k c w j p e (aK c j w p r i).2 (aK c j w p r i).1
theorem oO.cell{k:ae}{sc:Sc}{x:a5}{c:a8}(s:oO h ρ k sc)(q:sc.env.kindOf x=ab .cell\/sc.env.kindOf x=ab .free)(e:sc.env.cells.lookup x=ab c):∃j,ρ c=ab (.cell j x)/\(j=k\/j<k):=by
 rcases Sc.sorts q with q|q
 ·exact s.own x q _ λjP w j p dO U r=>⟨j,aD (cR (e.symm.trans dO)) r,.inl p⟩
 ·exact s.free x q _ λjP w j p dO U r=>⟨j,aD (cR (e.symm.trans dO)) r,.inr p⟩
theorem oO.but{n:ae}{sc:Sc}(k:aP h h')(au:ρ sc.env.locals=ab (.ns n)->ρ' sc.env.locals=ab (.ns n))(b4:∀c j x,ρ c=ab (.cell j x)->ρ' c=ab (.cell j x))
  (ax:∀m,h.Ns sc.env.locals m->h'.Ns sc.env.locals m)(aK:∀c w j x,j<=n->ρ c=ab (.cell j x)->h.IsCell c w->h'.IsCell c w)(s:oO h ρ n sc):oO h' ρ' n sc where
 kind:=s.kind
 globals:=s.globals
 builtins:=s.builtins
 role:=au s.role
 nodup:=s.nodup
 frame:=s.frame
 ns:=let⟨m,hm,hs⟩:=s.ns;⟨m,ax m hm,λi x v aq e2=>(hs i x v aq e2).but k λc w q bF=>let⟨j,r,z⟩:=s.cell q bF;aK c w j x (z.elim eK jk) r⟩
 own:=λx q=>(s.own x q).but λc j w p r i=>⟨b4 _ _ _ r,aK c w j x (eK p) r i⟩
 free:=λx q=>(s.free x q).but λc j w p r i=>⟨b4 _ _ _ r,aK c w j x (jk p) r i⟩
theorem oP.but(k:aP h h')(b4:∀c j x,ρ c=ab (.cell j x)->ρ' c=ab (.cell j x)):∀{stk:af Sc},(∀b n,n<stk.length->ρ b=ab (.ns n)->ρ' b=ab (.ns n))->(∀b n m,n<stk.length->ρ b=ab (.ns n)->h.Ns b m->h'.Ns b m)->
  (∀c w j x,j<stk.length->ρ c=ab (.cell j x)->h.IsCell c w->h'.IsCell c w)->oP h ρ stk->oP h' ρ' stk
 |[],_,_,_,_=>trivial
 |_::_,au,ax,aK,x=>⟨x.1.but k (au _ _ (kM _)) b4 (λm=>ax _ _ m (kM _) x.1.role) λc w j y z=>aK c w j y (Nat.lt_succ_of_le z),oP.but k b4 (λb n z=>au b n (wx z)) (λb n m z=>ax b n m (wx z)) (λc w j y z=>aK c w j y (wx z)) x.2⟩
theorem kQ.cu{r:dr}{a:a8}(k:aP h h')(x:kQ h r a):kQ h' r a:=by
 rcases x with⟨vs,t,i⟩
 refine⟨vs,k a vs t,i.imp λx b z=> ?_⟩
 refine Am z λb3 its m bb n2 db GP=> ?_
 rcases k b its ⟨b3,bb,n2,m,db⟩with⟨pe,Gq,Xb,m',XN⟩
 exact⟨pe,its,m',Gq,Xb,XN,GP⟩
theorem m8.but{a:a8}{d:dN}(k:aP h h')(mO:eT h h' a)(au:∀d,ρ d=ab (.fld a)->ρ' d=ab (.fld a)/\eT h h' d)(x:m8 h ρ a d):m8 h' ρ' a d:=by
 rcases d with l|ao|ao|ao|⟨C,fs⟩|⟨C,fs,r⟩
 ·exactλU c=>x _ λvs n z i r=>c vs n z (mO _ i) (r.cu k)
 ·exact nS.but k mO x
 ·exact nS.but k mO x
 ·exactλU c=>x _ λxs s l⟨o,ao,ep,aO,aE,hd,he,hi,a6⟩ G1=>c xs s l ⟨o,ao,ep,mO _ aO,aE,hd,he,λx aE=>(hi x aE).cu k,a6⟩ (G1.cu k)
 ·exactλU p=>x _ λc d dG aK aO q f bu x=>p c d dG aK (mO _ aO) (au d q).1 (f.but k (au d q).2) bu x
 ·exactλU p=>x _ λc od vs dG aK aO f bu x e=>p c od vs dG aK (mO _ aO) (f.but k au) bu x e
theorem kR.but{a:a8}{o:O}(k:aP h h')(au:∀b r,ρ b=ab r->ρ' b=ab r)(mO:eT h h' a)(hd:∀d,ρ d=ab (.fld a)->eT h h' d)(x:kR B h ρ a o):kR B h' ρ' a o:=
 ⟨λt=>au _ _ (x.new t),x.old,x.rep.but k mO λd q=>⟨au _ _ q,hd d q⟩⟩
theorem et.grow{ah:H}(S:et B stk σ ρ h)(az:∀b,eT h h' b)(au:∀b r,ρ b=ab r->ρ' b=ab r)
  (a6:∀b,(ρ' b).isSome=ak->(ρ b).isSome=ak\/(B.f b=aj/\∃o,h'.get? b=ab o))
  (GN:∀a o,ah a=ab o->σ a=ab o\/kR B h' ρ' a o):et B stk ah ρ' h' where
 keep:=λb o e=>az _ _ (S.keep b o e)
 old:=λb o e=>by
  rcases q:ρ' b with _|r
  ·rfl
  ·rcases a6 b (aD q aa)with z|z
   ·rw[S.old b o e]at z;cases z
   ·cases z.1.symm.trans e
 k7:=λb q=>(a6 b q).elim (λz=>let⟨o,aO⟩:=S.k7 b z;⟨o,az _ _ aO⟩) (·.2)
 objs:=λa o e=>(GN a o e).elim (λz=>(S.objs a o z).but (aP.keeps az) au (az a) λd U=>az d) id
 ff:=S.ff.but (aP.keeps az) (λb j x=>au b _) (λb n U=>au b _) (λb U U U U=>Ns.il (az b)) λb U U U U U=>Cell.il (az b)
theorem et.keeps(S:et B stk σ ρ h)(az:∀b,eT h h' b):et B stk σ ρ h':=
 S.grow az (λU U e=>e) (λU=>.inl) λU U=>.inl
theorem vT{a b:ae}{o o':O}(e:aC σ a o b=ab o'):(b=a/\o'=o)\/(b≠a/\σ b=ab o'):=by
 unfold aC at e
 by_cases q:b=a
 ·rw[bk q]at e;exact .inl ⟨q,(cR e).symm⟩
 ·rw[bh q]at e;exact .inr ⟨q,e⟩
theorem m8.at_{a:a8}{d:dN}(x:m8 h ρ a d):∃o,h.get? a=ab o:=by
 rcases d with l|ao|ao|ao|⟨C,fs⟩|⟨C,fs,r⟩
 ·exact x _ λU U U i U=>⟨_,i⟩
 ·exact x _ λU U U⟨_,_,_,i,_⟩ U=>⟨_,i⟩
 ·exact x _ λU U U⟨_,_,_,i,_⟩ U=>⟨_,i⟩
 ·exact x _ λU U U⟨_,_,_,i,_⟩ U=>⟨_,i⟩
 ·exact x _ λU U U U i U U U U=>⟨_,i⟩
 ·exact x _ λU U U U U i U U U U=>⟨_,i⟩
theorem mS{α β:Type}{x:aw α}{P:Prop}(h:∀y,x=ab y->P)(n:¬ P):x=aj:=by
 rcases x with _|y
 ·rfl
 ·exact aV (h y aa) n
theorem et.none_of(S:et B stk σ ρ h){a:a8}(e:h.get? a=aj):σ a=aj/\ρ a=aj:=
 have n:¬∃o,h.get? a=ab o:=λ⟨_,z⟩=>nomatch e.symm.trans z
 ⟨mS (β:=h8) (λo q=>(S.objs a o q).rep.at_) n,mS (β:=h8) (λr q=>S.k7 a (aD q aa)) n⟩
theorem et.free(S:et B stk σ ρ h){a:a8}(e:h.get? a=aj):B.f a=aj:=mS (P:=dg) (β:=h8) (λo q=>nomatch e.symm.trans (S.keep a o q)) id
theorem iR{h:bw}{b:a8}(l:h.objs.size<=b):h.get? b=aj:=mS (β:=h8) (λU q=>rM q) (tP.mpr l)
def setR(ρ:fX)(a:a8)(r:Role):fX:=λb=>if b=a then ab r else ρ b
theorem vN{a:a8}{r:Role}:setR ρ a r a=ab r:=bk rfl
theorem oq{a:a8}{r:Role}(e:ρ a=aj):∀b q,ρ b=ab q->setR ρ a r b=ab q:=λb q x=>(bh λz:b=a=>nomatch (z▸e).symm.trans x).trans x
theorem vO{a b:a8}{r:Role}(q:(setR ρ a r b).isSome=ak):(ρ b).isSome=ak\/b=a:=by
 unfold setR at q
 by_cases z:b=a
 ·exact .inr z
 ·rw[bh z]at q;exact .inl q
theorem et.new{a:a8}{t:ae}{d:dN}(S:et B stk σ ρ h)(az:∀b,eT h h' b)(dF:ρ a=aj)(fC:B.f a=aj)(an3:∃o,h'.get? a=ab o)
  (hd:∀ρ',ρ' a=ab .obj->kR B h' ρ' a ⟨t,d⟩):et B stk (aC σ a ⟨t,d⟩) (setR ρ a .obj) h':=
 S.grow az (oq dF) (λb q=>(vO q).imp id λ(z:b=a)=>⟨aD z fC,aD z an3⟩) λb o e=>(vT e).symm.imp (·.2) λ⟨z,y⟩=>by rw[z,y];exact hd _ vN
theorem et.Ae{a:a8}{r:Role}{ah:H}{C':af Sc}(S:et B stk σ ρ h)(au:ρ a=ab r)(hs:ix a h h')(aK:∃b3,h'.get? a=ab b3)
  (aO:∀b o,ah b=ab o->kR B h' ρ b o)(ar3:oP h' ρ C'):et B C' ah ρ h' where
 keep:=λb b3 e=>(hs.2 b λz=>nomatch (S.old b b3 e).symm.trans ((aU ρ z).trans au)).trans (S.keep b b3 e)
 old:=S.old
 k7:=λb q=>by
  by_cases z:b=a
  ·exact aD z aK
  ·exact let⟨b3,e⟩:=S.k7 b q;⟨b3,(hs.2 b z).trans e⟩
 objs:=aO
 ff:=ar3
theorem lK{a b:a8}(hs:ix a h h')(n:b≠a):eT h h' b:=λU e=>(hs.2 b n).trans e
theorem qp{a b:a8}{r ei:Role}(h:ρ a=ab r)(g:ρ b=ab ei)(n:ei≠r):b≠a:=λz=>n (cR (g.symm.trans ((aU ρ z).trans h)))
theorem et.ne{a b:a8}{o:O}{r:Role}(S:et B stk σ ρ h)(au:ρ a=ab r)(e:σ b=ab o)(n:r≠.obj):b≠a:=λz=>by
 have x:=S.objs b o e
 by_cases t0:o.tag=0
 ·rcases B.base _ (x.old t0)with⟨oo,fj⟩;cases(S.old b oo fj).symm.trans ((aU ρ z).trans au)
 ·exact n (cR (((aU ρ z).trans au).symm.trans (x.new t0)))
theorem et.zK{a b:a8}{o:O}{r:Role}(S:et B stk σ ρ h)(au:ρ a=ab r)(hs:ix a h h')(k:aP h h')(n:b≠a)(kC:r≠.fld b)(e:σ b=ab o):kR B h' ρ b o:=
 (S.objs b o e).but k (λU U e=>e) (lK hs n) λU q=>lK hs (qp au q kC.symm)
theorem et.Im{a:a8}{r:Role}(S:et B stk σ ρ h)(au:ρ a=ab r)(hs:ix a h h')(k:aP h h')(d9:∀j,r≠.ns j)(e4:∀j x,r≠.cell j x):oP h' ρ stk:=
 S.ff.but k (λU U U e=>e) (λU U U e=>e) (λU U U U e=>Ns.il (lK hs (qp au e (d9 _).symm))) λU U U U U e=>Cell.il (lK hs (qp au e (e4 _ _).symm))
theorem et.mod{a:a8}{o o':O}(S:et B stk σ ρ h)(aO:σ a=ab o)(aS:o.tag≠0)(hs:ix a h h')(aK:∃b3,h'.get? a=ab b3)(k:aP h h')
  (hd:kR B h' ρ a o'):et B stk (aC σ a o') ρ h':=
 have au:=(S.objs a o aO).new aS
 S.Ae au hs aK (λb b3 e=>(vT e).elim (λ⟨z,y⟩=>by rw[z,y];exact hd) λz=>S.zK au hs k z.1 nofun z.2) (S.Im au hs k nofun nofun)
theorem et.OG{a d:a8}{o':O}(S:et B stk σ ρ h)(au:ρ d=ab (.fld a))(hs:ix d h h')(aK:∃b3,h'.get? d=ab b3)(k:aP h h')
  (hd:kR B h' ρ a o'):et B stk (aC σ a o') ρ h':=
 S.Ae au hs aK (λb b3 e=>(vT e).elim (λ⟨z,y⟩=>by rw[z,y];exact hd) λz=>S.zK au hs k (S.ne au z.2 nofun) (λq=>z.1 (by cases q;rfl)) z.2) (S.Im au hs k nofun nofun)
theorem et.aD4{t:a8}(S:et B stk σ ρ h)(au:ρ t=ab .xO)(hs:ix t h h')(aK:∃b3,h'.get? t=ab b3)(k:aP h h'):et B stk σ ρ h':=
 S.Ae au hs aK (λU U e=>S.zK au hs k (S.ne au e nofun) nofun e) (S.Im au hs k nofun nofun)
end
structure KA(C:ae)(c:a8):Prop where
 ga:kL X.K (.ref c) "__getattribute__"=ab (ab (.builtin "object.__getattribute__"))
 mO:kL X.K (.ref c) "__getattr__"=ab aj
 cn:kL X.K (.ref c) "__setattr__"=ab (ab (.builtin "object.__setattr__"))
 po:plainOver X.K c=ak
 hd:DA X.K c=ak
 bu:∀(f:ae)(x:a5),(X.T.bp C).any (·.i8.contains f)=ak->X.T.cP[f]? =ab x->kL X.K (.ref c) x=ab aj
structure X.Ok:Prop where
 g:X.h₀.Ns x7 X.ja
 b:X.h₀.Ns Ay X.mQ
 nolimit:X.h₀.NoLimit
 builtins:∀x:a5,x≠"__name__"->X.mQ x=tB x
 cP:X.T.cP.Nodup
 k1:X.K.In X.h₀
 cls:∀C c,X.T.cls C=ab c->g8 X.T.bp C=ab av->KA C c
structure cS where
 B:bo
 stk:af Sc
 A:ea
def cS.on(c:cS)(sc:Sc):cS:=⟨c.B,sc::c.stk,c.A⟩
def cS.up(c:cS)(B:bo):cS:=⟨B,c.stk,c.A⟩
def ba8:af Sc->a8
 |sc::_=>sc.env.locals
 |[]=>0
structure eu(B:bo)(stk:af Sc)(σ:H)(ρ:fX)(s:bS):Prop where
 h:et B stk σ ρ s.heap
 os:s.os=X.os
 gens:s.gens=#[]
def aY(B:bo)(stk:af Sc)(σ:H)(s:bS):Prop:=∀C:Prop,(∀ρ,eu B stk σ ρ s->C)->C
theorem eu.sim{B:bo}{stk:af Sc}{σ:H}{ρ:fX}{s:bS}(S:eu B stk σ ρ s):aY B stk σ s:=λU k=>k ρ S
set_option genCtorIdx false in
inductive Mark where
 |made
 |flying
 |held (L:Addr)
def Mark.ctorIdx(x:Mark):Nat:=Mark.casesOn (motive:=λU=>Nat) x 0 1 (λU=>2)
def Mark.val:Mark->ar
 | .held L=>j7 L
 |_=>.none
def yx(h:bw)(ρ:fX)(e:a8)(m:Mark):Prop:=∀C:Prop,(∀c3 vs jn,h.get? e=ab c3->c3.data=.fields vs->vs[0]? =ab jn->(m=.made->vs[1]? =ab .none)->
 (m≠.made->∃t fZ cF,vs[1]? =ab (.ref t)/\t≠e/\ρ t=ab .xO/\h.get? t=ab fZ/\fZ.data=.fields cF/\cF[3]? =ab m.val)->C)->C
def lJ(stk:af Sc):af hI:=(stk.filter (·.own)).map (·.env)
structure ly(A:ea)(hd:aw ae)(n k:ae)(stk:af Sc):Prop where
 handled:A.handled=hd.map .ref
 frames:A.frames=ab (lJ stk)
 depth:A.depth+4*n+k<=Sh
 units:A.units+40*n+10*k<=lp
theorem ly.nh{A:ea}{hd:aw ae}{n k:ae}{stk:af Sc}(a:ly A hd n k stk)(h:hd=aj):A.handled=aj:=by rw[a.handled,h];rfl
abbrev bO:=bS->Prop
def eU{α β:Type}(c:cS)(R:bw->α->β->Prop)(h₀:bw)(Q:α->H->Prop)(b:β)(s:bS):Prop:=
 ∀C:Prop,(∀a σ,R s.heap a b->aY c.B c.stk σ s->aP h₀ s.heap->Q a σ->C)->C
def hM(B:bo)(stk:af Sc)(m:Mark)(h₀:bw)(E:bR)(e:ae)(s:bS):Prop:=
 ∀P:Prop,(∀σ ρ t C fs r,eu B stk σ ρ s->σ e=ab ⟨t,.e C fs r⟩->t≠0->r≠.made->yx s.heap ρ e m->aP h₀ s.heap->E e σ->P)->P
def gE(c:cS)(h₀:bw)(E:bR)(x:ar)(s:bS):Prop:=
 ∀P:Prop,(∀e m,x=.ref e->(m=.made\/m=.flying\/m=.held (ba8 c.stk))->hM c.B c.stk m h₀ E e s->P)->P
def dp{α β:Type}(c:cS)(R:bw->α->β->Prop)(h₀:bw)(t:fq β)(Q:α->H->Prop)(E:bR)(s:bS):Prop:=
 bg a9 c.A t (eU c R h₀ Q) (gE c h₀ E) s
def yH:bw->aB->aB->Prop:=λU a b=>a=b
def r4:bw->h8->h8->Prop:=λU U U=>gN
section
variable{c:cS}{h₀ cv:bw}{s:bS}{α β:Type}{R:bw->α->β->Prop}{Q:α->H->Prop}{E:bR}{t:fq β}
theorem eU.mk{b:β}{a:α}{σ:H}(r:R s.heap a b)(S:aY c.B c.stk σ s)(e:aP h₀ s.heap)(q:Q a σ):eU c R h₀ Q b s:=λU k=>k a σ r S e q
theorem eU.lift{b:β}(k:aP h₀ cv)(p:eU c R cv Q b s):eU c R h₀ Q b s:=λU f=>p _ λa σ r S e q=>f a σ r S (k.trans e) q
theorem hM.lift{B:bo}{stk:af Sc}{m:Mark}{e:ae}(k:aP h₀ cv)(p:hM B stk m cv E e s):hM B stk m h₀ E e s:=λU f=>p _ λσ ρ t C fs r a b d g x e q=>f σ ρ t C fs r a b d g x (k.trans e) q
theorem gE.lift{x:ar}(k:aP h₀ cv)(p:gE c cv E x s):gE c h₀ E x s:=λU f=>p _ λe m a b d=>f e m a b (d.lift k)
theorem dp.lift(k:aP h₀ cv)(p:dp c R cv t Q E s):dp c R h₀ t Q E s:=dH p (λU U z=>z.lift k) λU U z=>z.lift k
theorem dp.to{W:β->bO}(p:dp c R s.heap t Q E s)(ev:aP h₀ s.heap)(k:∀a b σ s',R s'.heap a b->aY c.B c.stk σ s'->aP s.heap s'.heap->Q a σ->W b s'):bg a9 c.A t W (gE c h₀ E) s:=
 dH p (λb s' z=>z _ λa σ r S e q=>k a b σ s' r S e q) λU U z=>z.lift ev
theorem dp.step{W:β->bO}(p:dp c R s.heap t Q E s)(k:∀a b σ s',R s'.heap a b->aY c.B c.stk σ s'->aP s.heap s'.heap->Q a σ->W b s'):bg a9 c.A t W (gE c s.heap E) s:=p.to (aP.refl _) k
end
section
variable{B:bo}{stk:af Sc}{c:cS}{A:ea}{s:bS}{σ:H}{E:bR}
theorem aY.keeps{h':bw}{tk:ae}(S:aY B stk σ s)(k:∀b,eT s.heap h' b):aY B stk σ {s with heap:=h',toks:=tk}:=S _ λU S=>eu.sim ⟨S.h.keeps k,S.os,S.gens⟩
theorem aY.toks{tk:ae}(S:aY B stk σ s):aY B stk σ {s with toks:=tk}:=S.keeps λU U e=>e
theorem aY.base(S:aY B stk σ s):∀b o,X.h₀.get? b=ab o->s.heap.get? b=ab o:=S _ λU S b o e=>S.h.keep b o (B.h0 b o e)
theorem aY.k1(S:aY B stk σ s)(K:X.Ok):X.K.In s.heap:=K.k1.keeps S.base
theorem kA{n:ae}(h:n<=bN):n<=rH:=aX h ai
theorem BD{n:ae}(h:n<=bN):(n:ag)<2^63:=m5 (jH.mpr h) ai
theorem mP{h:bw}(o:bj):∀b,eT h (h.push o) b:=λU U e=>iJ _ e
theorem aP.push(h:bw)(o:bj):aP h (h.push o):=aP.keeps (mP o)
theorem aY.ON{d:dN}{D:a8}{Q:bQ}{h':bw}{tk:ae}{b3:bj}(S:aY c.B c.stk σ s)(az:∀b,eT s.heap h' b)(c8:s.heap.get? D=aj)(n5:h'.get? D=ab b3)(h:vNew d σ Q)(hd:∀ρ,m8 h' ρ D d):
  eU c bq s.heap Q (.ref D) {s with heap:=h',toks:=tk}:=
 S _ λρ S=>let⟨t,aS,b4⟩:=h D (S.h.none_of c8).1
  .mk (a:=.r D) aa (eu.sim ⟨S.h.new az (S.h.none_of c8).2 (S.h.free c8) ⟨_,n5⟩ λρ' e=>⟨λU=>e,λz=>aV z aS,hd ρ'⟩,S.os,S.gens⟩) (aP.keeps az) b4
theorem aY.newObj{d:dN}{b3:bj}{Q:bQ}{tk:ae}(S:aY c.B c.stk σ s)(hf:b3.isFreed=av)(h:vNew d σ Q)(hd:∀ρ,m8 (s.heap.push b3) ρ s.heap.objs.size d):
  eU c bq s.heap Q (.ref s.heap.objs.size) {s with heap:=s.heap.push b3,toks:=tk}:=S.ON (mP b3) (iR (da _)) (lr _ hf) h hd
theorem aY.zF{l:af V}{D:a8}{vs:dC ar}{n:ae}{Q:bQ}{h':bw}{tk:ae}(S:aY c.B c.stk σ s)(az:∀b,eT s.heap h' b)(c8:s.heap.get? D=aj)(n5:IsL h' D vs n)
  (ax:l.length<=bN)(au:b7 h' l vs.toList)(h:vNew (.l l) σ Q):eU c bq s.heap Q (.ref D) {s with heap:=h',toks:=tk}:=S.ON az c8 n5 h λU U k=>k vs n ax n5 au
theorem aY.newList{l:af V}{vs:dC ar}{Q:bQ}{tk:ae}(S:aY c.B c.stk σ s)(ax:l.length<=bN)(au:b7 s.heap l vs.toList)(h:vNew (.l l) σ Q):
  eU c bq s.heap Q (.ref s.heap.objs.size) {s with heap:=s.heap.push {cls:=.type "list",data:=.seq vs},toks:=tk}:=S.zF (mP _) (iR (da _)) (IsL.new _ _) ax (au.cu (aP.push _ _)) h
theorem eU.QX{l:af V}{D:a8}{vs:dC ar}{Q:bQ}{h':bw}{tk:ae}(S:aY c.B c.stk σ s)(az:∀b,eT s.heap h' b)(c8:h'.IsTuple D vs)(ax:l.length<=bN)(au:b7 s.heap l vs.toList)(h:Q (.t l) σ):
  eU c bq s.heap Q (.ref D) {s with heap:=h',toks:=tk}:=.mk (a:=.t l) ⟨ax,D,vs,aa,c8,au.cu (aP.keeps az)⟩ (S.keeps az) (aP.keeps az) h
theorem QZ{h:bw}{vs:dC ar}:(h.push {cls:=.type "tuple",data:=.seq vs}).IsTuple h.objs.size vs:=⟨_,lr _ aa,aa,_,aa⟩
theorem eU.tup{l:af V}{vs:dC ar}{Q:bQ}{tk:ae}(S:aY c.B c.stk σ s)(ax:l.length<=bN)(au:b7 s.heap l vs.toList)(h:Q (.t l) σ):
  eU c bq s.heap Q (.ref s.heap.objs.size) {s with heap:=s.heap.push {cls:=.type "tuple",data:=.seq vs},toks:=tk}:=.QX S (mP _) QZ ax au h
theorem eU.val{v:V}{w:ar}{Q:bQ}{tk:ae}(S:aY c.B c.stk σ s)(r:bq s.heap v w)(h:Q v σ):eU c bq s.heap Q w {s with toks:=tk}:=.mk r S.toks (aP.refl _) h
theorem eU.int{i:ag}{Q:bQ}{n tk:ae}(S:aY c.B c.stk σ s)(h:Q (.i i) σ):eU c bq s.heap Q (.int i n) {s with toks:=tk}:=.val (v:=.i i) S (JR n aa) h
theorem aY.obj{a:a8}{o:O}(S:aY B stk σ s)(h:σ a=ab o):∀C:Prop,(∀ρ,eu B stk σ ρ s->kR B s.heap ρ a o->C)->C:=λU k=>S _ λρ S=>k ρ S (S.h.objs a o h)
theorem aY.list{a:a8}{t:ae}{l:af V}(S:aY B stk σ s)(h:σ a=ab ⟨t,.l l⟩):KZ s.heap a l:=λU k=>S.obj h _ λU U x=>x.rep _ k
@[elab_as_elim] theorem bq.ints {h:bw} {i:ag} {P:ar->Prop} {w:ar} (x:bq h (.i i) w) (k:∀t,P (.int i t)):P w:=let⟨t,e⟩:=x;aD e (k t)
theorem WR{x y:ag}(h0:0<=x)(h1:0<=y):((x.toNat&&& y.toNat:ae):ag)=SY x y:=by unfold SY;rw[cD h0,cD h1]
def Bj:m6->tv
 | .a=>.Add| .s=>.Sub| .m=>.Mod| .f=>.FloorDiv| .b=>.BitAnd
theorem WM{op:m6}{x y:V}{a b:ar}{Q:bQ}(S:aY c.B c.stk σ s)(aE:bq s.heap x a)(aQ:bq s.heap y b)(h:mZ σ Q op x y):dp c bq s.heap (binaryOp (Bj op) a b) Q E s:=by
 rcases h with q|q|⟨h0,q⟩|⟨h0,h1,q⟩|⟨h0,h1,q⟩|⟨aq,e2,q⟩
 ·exact aE.ints λt=>aQ.ints λu=>P.add_int (eU.int S q)
 ·exact aE.ints λt=>aQ.ints λu=>P.sub_int (eU.int S q)
 ·exact aE.ints λt=>aQ.ints λu=>bk5 (qG h0) (eU.int S (aD (Int.fmod_eq_emod_of_nonneg _ (hJ h0)) q))
 ·exact aE.ints λt=>aQ.ints λu=>bk1 (qG h0) (eU.int S (Int.fdiv_eq_ediv_of_nonneg _ (hJ h0)▸q)) (.inl (Ut (fh.mp ((Int.natAbs_of_nonneg (hJ h0)).symm▸Int.lt_trans h1 ai))))
 ·exact aE.ints λt=>aQ.ints λu=>bk0 (eU.int S (aR (WR h0 h1) q))
 ·cases aE;cases aQ
  exact S.list aq _ λvs n U bK a0=>S.list e2 _ λus m U dK bX=>P.add_list bK dK (S.newList q.1 (by rw[Array.toList_append];exact a0.append bX) q.2)
   (kA (by rw[a0.size,bX.size,←cK];exact q.1))
theorem Df{v:V}{a:ar}{b:aB}{Q:aB->bO}{E:ar->bO}(S:aY B stk σ s)(a4:bq s.heap v a)(h:jC σ v=ab b)(q:∀tk:ae,Q b {s with toks:=tk}):bg a9 A (truthy a) Q E s:=by
 rcases v with _|b|i|n|l|p
 ·cases a4;cases h;exact bk6 (q s.toks)
 ·cases a4;cases h;exact yb (q s.toks)
 ·exact a4.ints λt=>P.truthy_int (aD (show(i != 0)=b from(by cases h;by_cases z:i=0<;>simp[z])) (q s.toks))
 ·cases h
 ·cases h
 ·cases a4
  refine omap (show(lst σ p).map (!·.isEmpty)=ab b from h) (P:=λb=>(∀tk:ae,Q b {s with toks:=tk})->bg a9 A (truthy (.ref p)) Q E s) (λl e q=> ?_) q
  refine zy e λt aq=>S.list aq _ λvs n ax i r=>wpAny_truthy_list i.isList (BD (aD r.size ax)) ?_
  rw[show vs.isEmpty=l.isEmpty by rw[Array.isEmpty,r.size];cases l<;>rfl]
  exact q _
end
section
open PySem.SeqAt
section
variable{B:bo}{stk:af Sc}{A:ea}{s:bS}{σ:H}
@[elab_as_elim] theorem Rc {n:ae} {P:V->V->aB->Prop} {a b:V} {r:aB} (h:fx σ (n+1) a b=ab r) (a6:P .n .n ak) (bb:∀x y,P (.b x) (.b y) (x==y)) (hi:∀x y,P (.i x) (.i y) (decide (x=y))) (hs:∀x y,P (.s x) (.s y) (decide (x=y)))
  (aS:∀l m r,lT (fx σ n) l m=ab r->P (.t l) (.t m) r) (au:∀p q t l u m r,σ p=ab ⟨t,.l l⟩->σ q=ab ⟨u,.l m⟩->(if l.length=m.length then lT (fx σ n) l m else ab av)=ab r->P (.r p) (.r q) r):P a b r:=by
 rcases a with _|x|x|x|x|x
 ·exact omap h λU e=>E9 e▸a6
 ·exact omap h λU e=>aD (wV e) (bb _ _)
 ·exact omap h λU e=>aD (q2 e) (hi _ _)
 ·exact omap h λU e=>aD (yM e) (hs _ _)
 ·exact eD h λU e h=>aD (Lv e) (aS _ _ _ h)
 ·exact eD h λU e h=>eD h λU aq h=>eD h λU e2 h=>zy aq λU aq=>zy e2 λU e2=>aD (Wu e) (au _ _ _ _ _ _ _ aq e2 h)
theorem bd1{f:V->V->aw aB}{l:af V}:∀(m:af V)(r:aB),lT f l m=ab r->
  ∃e:ae->aB,(∀j a b,l[j]? =ab a->m[j]? =ab b->f a b=ab (e j))/\r=((gB (min l.length m.length)).all e&&l.length==m.length):=by
 induction l with
 |nil=>exactλm r h=>⟨λU=>ak,nofun,by cases h;cases m<;>simp⟩
 |cons a l aI=>
  intro m r h
  rcases m with _|⟨b,m⟩
  ·exact⟨λU=>ak,nofun,by cases h;rfl⟩
  ·refine eD h λx bT h=>omap h λy bE=> ?_
   refine b5 (aI _ _ bE) λe he au=> ?_
   refine⟨λj=>Nat.casesOn j x e,λj e0 cL dZ i0=> ?_,?_⟩
   ·rcases j with _|j
    ·cases dZ;cases i0;exact bT
    ·exact he j e0 cL dZ i0
   ·rw[au,jI,jI,Nat.succ_min_succ,List.range_succ_eq_map,List.all_cons,List.all_map,Bool.and_assoc]
    congr 2
    exact decide_eq_decide.mpr (Nat.succ_inj).symm
theorem Ml{f:V->V->aw aB}{P:ar->ar->aB->Prop}{h:bw}{l m:af V}{vs us:dC ar}{r:aB}(hf:∀{a b kH jh r},bq h a kH->bq h b jh->f a b=ab r->P kH jh r)
  (a0:b7 h l vs.toList)(bX:b7 h m us.toList)(q:lT f l m=ab r){C:Prop}(k:∀e:ae->aB,(∀j(h1:j<vs.size)(h2:j<us.size),P vs[j] us[j] (e j))->r=((gB (min vs.size us.size)).all e&&vs.size==us.size)->C):C:=by
 refine b5 (bd1 _ _ q) λe he au=> ?_
 refine k e (λj h1 h2=> ?_) (by rw[au,a0.size,bX.size])
 have g1:=f9 (l:=l) (i:=j) (aR a0.size h1)
 have g2:=f9 (l:=m) (i:=j) (aR bX.size h2)
 refine b5 (a0.get g1) λdP aq v1=> ?_
 refine b5 (bX.get g2) λdY e2 v2=> ?_
 cases(f9 (l:=vs.toList) (i:=j) h1).symm.trans aq
 cases(f9 (l:=us.toList) (i:=j) h2).symm.trans e2
 exact hf v1 v2 (he j _ _ g1 g2)
theorem Rb{f:V->V->aw aB}{h:bw}(hf:∀a b w r,bq h a w->bq h b w->f a b=ab r->r=ak){l:af V}{ws:af ar}(x:b7 h l ws):
  ∀(m:af V)(r:aB),b7 h m ws->lT f l m=ab r->r=ak:=
 x.ind (λm r y e=>match m,y,e with
  |[],_,e=>(cR e).symm
  |_::_,⟨_,_,z,_⟩,_=>nomatch z) λv w l ws a U aI m r y e=>match m,y,e with
  |[],y,_=>nomatch (show _=[]from y)
  |b::m,y,e=>eD e λx aq h=>omap h λr e2=>by
   refine tp y λdX ei z f6 ek=> ?_
   cases z
   rw[hf _ _ _ _ a f6 aq,aI _ _ ek e2];rfl
theorem Aa{S:af a5}(a6:S.Nodup):∀(a b:ae)(c:a5),S[a]? =ab c->S[b]? =ab c->a=b:=λU U U x y=>(List.getElem?_inj (mr.mp x).1 a6).mp (x.trans y.symm)
theorem IT(S:aY B stk σ s)(a6:X.T.cP.Nodup):∀(n:ae)(a b:V)(w:ar)(r:aB),bq s.heap a w->bq s.heap b w->fx σ n a b=ab r->r=ak
 |0,_,_,_,_,_,_,h=>nomatch h
 |n+1,a,b,w,r,cg,bb,h=>by
  refine Rc h (P:=λa b r=>bq s.heap a w->bq s.heap b w->r=ak) (λU U=>aa) (λx y p q=> ?_) (λx y p q=> ?_) (λx y p q=> ?_) (λl m r e p q=> ?_) (λp q t l u m r aq e2 e dj xr=> ?_) cg bb
  ·cases p;cases q;exact jG x
  ·rcases p with⟨t,rfl⟩;rcases q with⟨u,q⟩;cases q;exact cD rfl
  ·rcases p with⟨z,t,aq,rfl⟩;refine xV q λjD u e2 q=> ?_;cases q;exact cD (Aa a6 _ _ _ aq e2)
  ·rcases p with⟨_,p,vs,rfl,bK,a0⟩;rcases q with⟨_,q,us,z,dK,bX⟩
   cases z;cases IsTuple.inj bK dK
   exact Rb (IT S a6 n) a0 _ _ bX e
  ·cases dj;cases xr;cases aq.symm.trans e2
   rw[bk rfl]at e
   exact S.list aq _ λvs U U U a0=>Rb (IT S a6 n) a0 _ _ a0 e
structure KP(A:ea)(s:bS)(kH jh:ar)(r:aB):Prop where
 e:EqAt A s kH jh r
 c:RcAt A s kH jh r
 n:RcNeAt A s kH jh (!r)
theorem bn8{i j:ag}:(i==j)=decide (i=j):=aa
theorem Bw(S:aY B stk σ s)(a6:X.T.cP.Nodup):∀(n:ae){A:ea}{a b:V}{kH jh:ar}{r:aB},A.units+n<lp->bq s.heap a kH->bq s.heap b jh->fx σ n a b=ab r->KP A s kH jh r
 |0,_,_,_,_,_,_,_,_,_,h=>nomatch h
 |n+1,A,a,b,kH,jh,r,dm,cg,bb,h=>by
  have sC:A.units<lp:=d7 (en _ _) dm
  have mW:kH=jh->r=ak:=λe=>IT S a6 (n+1) a b kH r cg (aD e bb) h
  have Np:∀{a b kH jh r},bq s.heap a kH->bq s.heap b jh->fx σ n a b=ab r->EqAt A.in1 s kH jh r:=λp q z=>(Bw S a6 n (A:=A.in1) (by show A.units+1+n<lp;lia) p q z).e
  have zX:∀{p q:a8}{r:aB},((my p)=.ref q->r=ak)->RcAt A s (.ref p) (.ref q) r->EqAt A s (.ref p) (.ref q) r:=λ{p q r} mW k=>by
   by_cases z:p=q
   ·rw[mW (aU _ z),z];exact .same _
   ·exact .of_refs z k
  refine Rc h (P:=λa b r=>bq s.heap a kH->bq s.heap b jh->(kH=jh->r=ak)->KP A s kH jh r) (λp q U=> ?_) (λx y p q U=> ?_) (λx y p q U=> ?_) (λx y p q U=> ?_) (λl m r e p q mW=> ?_) (λp q t l u m r aq e2 e dj xr mW=> ?_) cg bb mW
  ·cases p;cases q;exact⟨.same _,.none_none,.none_none⟩
  ·cases p;cases q;exact⟨.bool_bool _ _,.bool_bool _ _,.bool_bool _ _⟩
  ·rcases p with⟨t,rfl⟩;rcases q with⟨u,rfl⟩;exact⟨.int_int _ _ _ _,.int_int _ _ _ _,.int_int _ _ _ _⟩
  ·rcases p with⟨z,t,aq,rfl⟩;rcases q with⟨jD,u,e2,rfl⟩
   rw[show decide (x=y)=(z==jD) by
    by_cases q:x=y
    ·cases q;cases aq.symm.trans e2;rw[jG];exact cD rfl
    ·rw[de q];exact(beq_eq_false_iff_ne.mpr λ(xr:z=jD)=>q (Aa a6 _ _ _ aq (aD xr e2))).symm]
   exact⟨.str_str _ _ _ _,.str_str _ _ _ _,.str_str _ _ _ _⟩
  ·rcases p with⟨_,p,vs,rfl,bK,a0⟩;rcases q with⟨_,q,us,rfl,dK,bX⟩
   exact Ml Np a0 bX e λdO he au=>have k:=aD au (RcAt.tuples bK dK sC he);⟨zX mW k,k,aD au (RcNeAt.tuples bK dK sC he)⟩
  ·cases dj;cases xr
   refine S.list aq _ λvs d9 U bK a0=>S.list e2 _ λus e4 U dK bX=> ?_
   by_cases z:l.length=m.length
   ·rw[bk z]at e
    refine Ml Np a0 bX e λdO he au=> ?_
    have hs:vs.size=us.size:=by rw[a0.size,bX.size,z]
    rw[←hs,Nat.min_self,jG,yg]at au
    have k:=au▸RcAt.lists bK.isList dK.isList hs sC he
    exact⟨zX mW k,k,aD au (RcNeAt.lists bK.isList dK.isList hs sC he)⟩
   ·rw[bh z]at e
    cases e
    have hs:(vs.size != us.size)=ak:=bne_iff_ne.mpr (by rw[a0.size,bX.size];exact z)
    have k:=RcAt.lists_lengths bK.isList dK.isList hs sC
    exact⟨zX mW k,k,RcNeAt.lists_lengths bK.isList dK.isList hs sC⟩
def kq:kO->Ap
 | .e=>.Eq| .n=>.NotEq| .l=>.Lt| .L=>.LtE| .g=>.Gt| .G=>.GtE| .i=>.Is| .I=>.IsNot| .m=>.In| .M=>.NotIn
theorem bd0{x:V}{l:af V}:∀{r:aB},m1 σ x l=ab r->(∀y∈l,∃b,fx σ 8 y x=ab b)/\(r=ak↔∃y∈l,fx σ 8 y x=ab ak):=by
 induction l with
 |nil=>exactλh=>⟨nofun,by cases h;simp⟩
 |cons y l aI=>
  intro r h
  refine eD h λa aq h=>omap h λb e2=> ?_
  rcases aI e2 with⟨h1,h2⟩
  exact⟨i3.mpr ⟨⟨a,aq⟩,h1⟩,by simp[h2,aq]⟩
theorem Lq(S:aY B stk σ s)(a6:X.T.cP.Nodup){A:ea}{x:V}{IW:ar}{l:af V}{vs:dC ar}{r:aB}(dm:A.units+9<lp)(aE:bq s.heap x IW)
  (au:b7 s.heap l vs.toList)(h:m1 σ x l=ab r){C:Prop}(k:∀e:ar->aB,(∀y∈vs,EqAt A.in1 s y IW (e y))->vs.any e=r->C):C:=by
 rcases bd0 h with⟨h1,h2⟩
 have eq:∀{a y b},bq s.heap a y->fx σ 8 a x=ab b->EqAt A.in1 s y IW b:=λa4 q=>(Bw S a6 8 (A:=A.in1) (by show A.units+1+8<lp;lia) a4 aE q).e
 classical
 refine k (λy=>decide (∃a∈l,bq s.heap a y/\fx σ 8 a x=ab ak)) (λy aQ=> ?_) ?_
 ·by_cases z:∃a∈l,bq s.heap a y/\fx σ 8 a x=ab ak
  ·rw[cD z]
   exact let⟨a,_,a4,q⟩:=z;eq a4 q
  ·rw[de z]
   rcases tN.mp (JI.mpr aQ)with⟨j,cp⟩
   have G7:j<l.length:=aR au.length (mr.mp cp).1
   refine b5 (au.get (f9 G7)) λw aq e2=> ?_
   cases cp.symm.trans aq
   rcases h1 _ (Ei G7)with⟨_|_,bb⟩
   ·exact eq e2 bb
   ·exact aV ⟨_,Ei G7,e2,bb⟩ z
 ·rw[JL,h2,RL]
  refine⟨λ⟨y,aQ,q⟩=>let⟨a,cg,_,q⟩:=ft q;⟨a,cg,q⟩,λ⟨a,cg,q⟩=> ?_⟩
  rcases tN.mp cg with⟨j,cp⟩
  refine b5 (au.get cp) λw aq e2=> ?_
  exact⟨w,JI.mp (List.mem_of_getElem? aq),cD ⟨a,cg,e2,q⟩⟩
end
end
section
open PySem.SeqAt
structure mD{K K':Type}(ay:K->K'->Prop):Prop where
 f:∀a b c,ay a b->ay a c->b=c
 i:∀a b c,ay a c->ay b c->a=b
theorem uy{K:Type}:mD (λa b:K=>a=b):=⟨λU U U x y=>aR x y,λU U U x y=>x.trans y.symm⟩
theorem Iy(a6:X.T.cP.Nodup):mD Iw:=⟨λU U U x y=>cR (x.symm.trans y),Aa a6⟩
section
variable{K K':Type} [j6 K] [j6 K']{ay:K->K'->Prop}{h:bw}{k:K}{k':K'}{ao:af (K×V)}{kvs:af (K'×ar)}{v:V}{w:ar}
theorem mD.iff(T:mD ay){a k:K}{b k':K'}(h1:ay a b)(h2:ay k k'):a=k↔b=k':=⟨λz=>T.f _ _ _ h1 (aD z h2),λz=>T.i _ _ _ h1 (aD z h2)⟩
theorem mD.dec(T:mD ay){a k:K}{b k':K'}(h1:ay a b)(h2:ay k k'):decide (a=k)=decide (b=k'):=decide_eq_decide.mpr (T.iff h1 h2)
theorem fV.get(T:mD ay)(aS:ay k k')(x:fV ay h ao kvs):ng h (cw ao k) (DR kvs k'):=by
 induction x with
 |nil=>rfl
 |cons h1 h2 _ aI=>
  unfold cw DR at*
  rw[Ee,Ee]at|-
  dsimp only
  rw[T.dec h1 aS]
  generalize decide (_=k')=b
  rcases b with _|_
  ·exact aI
  ·exact⟨_,aa,h2⟩
theorem fV.any(T:mD ay)(aS:ay k k')(x:fV ay h ao kvs):ao.any (λd1=>decide (d1.1=k))=kvs.any (λd1=>decide (d1.1=k')):=by
 induction x with
 |nil=>rfl
 |cons h1 _ _ aI=>rw[J6,J6,aI,T.dec h1 aS]
theorem fV.map(T:mD ay)(aS:ay k k')(a4:bq h v w)(x:fV ay h ao kvs):fV ay h (ao.map λd1=>if d1.1=k then(d1.1,v)else d1) (kvs.map λd1=>if d1.1=k' then(d1.1,w)else d1):=by
 induction x with
 |nil=>exact .nil
 | @cons a _ _ _ _ _ h1 h2 _ aI=>
  rw[tM,tM]
  by_cases z:a=k
  ·rw[bk z,bk ((T.iff h1 aS).mp z)];exact .cons h1 a4 aI
  ·rw[bh z,bh λq=>z ((T.iff h1 aS).mpr q)];exact .cons h1 h2 aI
theorem fV.snoc(aS:ay k k')(a4:bq h v w)(x:fV ay h ao kvs):fV ay h (ao++[(k,v)]) (kvs++[(k',w)]):=by
 induction x with
 |nil=>exact .cons aS a4 .nil
 |cons h1 h2 _ aI=>exact .cons h1 h2 aI
theorem fV.put(T:mD ay)(aS:ay k k')(a4:bq h v w)(x:fV ay h ao kvs):fV ay h (dA ao k v) (DP kvs k' w):=by
 unfold dA DP
 rw[x.any T aS]
 cases kvs.any _ with
 |false=>exact x.snoc aS a4
 |true=>exact x.map T aS a4
theorem fV.del(T:mD ay)(aS:ay k k')(x:fV ay h ao kvs):fV ay h (q0 ao k) (without kvs k'):=by
 unfold q0 without
 induction x with
 |nil=>exact .nil
 | @cons a _ _ _ _ _ h1 h2 _ aI=>
  rw[wi,wi]
  by_cases z:a=k
  ·rw[bh (show¬(decide (a≠k))=ak fromλq=>ft q z),bh (show¬(decide (_≠k'))=ak fromλq=>ft q ((T.iff h1 aS).mp z))];exact aI
  ·rw[bk (show(decide (a≠k))=ak from cD z),bk (show(decide (_≠k'))=ak from cD λq=>z ((T.iff h1 aS).mpr q))];exact .cons h1 h2 aI
theorem fV.length(x:fV ay h ao kvs):kvs.length=ao.length:=by
 induction x with
 |nil=>rfl
 |cons _ _ _ aI=>exact aU (·+1) aI
theorem Wm:(dA ao k v).length<=ao.length+1:=by unfold dA;split<;>simp
theorem E8(h:ao.length<bN):(dA ao k v).length<=bN:=aX Wm h
end
theorem aK9{xs:af (dr×a8×ar)}{k:dr}:(Aw xs k).map (·.2)=DR (sW xs) k:=by
 unfold Aw DR sW
 rw[List.find?_map,Uq,Uq]at|-;rfl
theorem aL0{xs:af (dr×a8×ar)}{k:dr}{a:a8}{w:ar}:sW (storedH xs k a w)=DP (sW xs) k w:=by
 have e:(Aw xs k).isSome=(sW xs).any λd1=>decide (d1.1=k):=by unfold Aw sW;rw[Up,Tr,JL,List.find?_isSome,Ec]at|-;rfl
 unfold storedH DP
 rw[e]
 split
 ·unfold sW
  rw[nJ,nJ]
  refine TL λx U=> ?_
  unfold putAt
  by_cases z:x.1=k
  ·simp[z]
  ·simp[z]
 ·exact gA
section
variable{B:bo}{stk:af Sc}{c:cS}{A:ea}{s:bS}{σ:H}{E:bR}
theorem H9{h:bw}{is:af ag}:∀{ws:af ar},b7 h (aL is) ws->vZ ws is:=by
 induction is with
 |nil=>intro ws x;cases(show ws=[]from x);exact .nil
 |cons i is aI=>intro ws x;rcases x with⟨w,r,rfl,⟨t,rfl⟩,h2⟩;exact .cons _ _ (aI h2)
theorem NS{h:bw}{is:af ag}{ws:af ar}(x:vZ ws is):b7 h (aL is) ws:=by
 induction x with
 |nil=>exact aa
 |cons n t _ aI=>exact .cons (JR t aa) aI
theorem at7{is:af ag}{ws:af ar}(x:vZ ws is):ItemsAre iS is ws:=by
 induction x with
 |nil=>exact .nil
 |cons n t _ aI=>exact .cons (jG n) aI
theorem P2{h:bw}{r:dr}{w:ar}(au:bq h r.v w){C:ar->Prop}(k:∀a,kQ h r a->C (.ref a)):C w:=by
 rcases r with⟨i,j,_|l⟩
 ·rcases au with⟨_,a,vs,rfl,t,dP,a0,aq,⟨t1,rfl⟩,dY,bX,rfl,⟨lQ,rfl⟩,h3⟩
  cases h3
  exact k a ⟨vs,t,t1,lQ,aq⟩
 ·rcases au with⟨_,a,vs,rfl,t,dP,a0,aq,⟨t1,rfl⟩,dY,bX,rfl,⟨lQ,rfl⟩,gY,g',rfl,⟨_,b,us,rfl,⟨b3,bb,n2,m,db⟩,gT⟩,cQ⟩
  cases cQ
  exact k a ⟨vs,t,t1,lQ,b,aq,b3,us,m,bb,n2,db,at7 (H9 gT)⟩
theorem Bs{p:a8}{t:ae}{o:dN}{k:V}{vk:ar}{r:aw V}(S:aY B stk σ s)(a6:X.T.cP.Nodup)(h:σ p=ab ⟨t,o⟩)(az:bq s.heap k vk)(cE:q9 o k=ab r){C:Prop}
  (q:∀(K:Type)(_:j6 K)(knd:tu X.prog X.w K)(f:K->aw ar)(x:K),(p==pH)=av->knd.is x vk=ak->s.heap.MapOf knd p f->ng s.heap r (f x)->C):C:=by
 refine S.obj h _ λρ b9 x=> ?_
 have x:=x.rep
 rcases o with _|ao|ao|_|⟨_,_⟩|⟨_,_,_⟩
 ·cases cE
 ·refine omap (P:=λr=>(∀(K:Type)(_:j6 K)(knd:tu X.prog X.w K)(f:K->aw ar)(x:K),(p==pH)=av->knd.is x vk=ak->s.heap.MapOf knd p f->ng s.heap r (f x)->C)->C) cE (λi e q=> ?_) q
  cases q2 e
  rcases az with⟨u,rfl⟩
  exact x _ λkvs bT bE d' iq=>q _ _ iS _ i bT (jG i) d'.mapOf (iq.get uy aa)
 ·refine omap (P:=λr=>(∀(K:Type)(_:j6 K)(knd:tu X.prog X.w K)(f:K->aw ar)(x:K),(p==pH)=av->knd.is x vk=ak->s.heap.MapOf knd p f->ng s.heap r (f x)->C)->C) cE (λi e q=> ?_) q
  cases yM e
  rcases az with⟨y,u,e,rfl⟩
  exact x _ λkvs bT bE d' iq=>q _ _ sK _ y bT (jG y) d'.mapOf (iq.get (Iy a6) e)
 ·cases cE
 ·cases cE
 ·cases cE
theorem ng.some{h:bw}{o:aw V}{w:aw ar}(x:ng h o w):w.isSome=o.isSome:=by
 rcases o with _|v
 ·cases x;rfl
 ·rcases x with⟨w,rfl,_⟩;rfl
theorem NL{x y:V}{a b:ar}{r:aB}(S:aY B stk σ s)(a6:X.T.cP.Nodup)(dm:A.units+9<lp)(aE:bq s.heap x a)(aQ:bq s.heap y b)(h:IG σ x y=ab r):
  (∀{Q:ar->bO}{E:ar->bO},(∀tk:ae,Q (.bool r) {s with toks:=tk})->bg a9 A (tD .In a b) Q E s)/\∀{Q:ar->bO}{E:ar->bO},(∀tk:ae,Q (.bool (!r)) {s with toks:=tk})->bg a9 A (tD .NotIn a b) Q E s:=by
 rcases y with _|_|_|_|l|p
 ·cases h
 ·cases h
 ·cases h
 ·cases h
 ·rcases aQ with⟨_,p,vs,rfl,bK,a0⟩
  exact Lq S a6 dm aE a0 h λe he au=>aR au ⟨λq=>in_tupleAt e bK he (q s.toks),λq=>notIn_tupleAt e bK he (q s.toks)⟩
 ·cases aQ
  have h:(lst σ p).elim ((σ p).bind λo=>(q9 o.d x).map (·.isSome)) (m1 σ x)=ab r:=h
  rcases e:lst σ p with _|l
  ·rw[e]at h
   refine eD h λo aq h=>omap h λg cE=>Bs S a6 (t:=o.tag) (o:=o.d) aq aE cE λK inst knd f k z h1 h2 h3=>aR h3.some ⟨λq=>wpAny_in_of (knd:=knd) h1 z h2 (q _),λq=>wpAny_notIn_of (knd:=knd) h1 z h2 (q _)⟩
  ·rw[e]at h
   exact zy e λt aq=>S.list aq _ λvs n U bK a0=>Lq S a6 dm aE a0 h λe he au=>aR au ⟨λq=>in_listAt e bK.isList he (q s.toks),λq=>notIn_listAt e bK.isList he (q s.toks)⟩
theorem Bo{f:ag->ag->aB}{x y:V}{a b:ar}{r:aB}{h:bw}{C:ar->ar->aB->Prop}(aE:bq h x a)(aQ:bq h y b)(e:yW f x y=ab r)(k:∀i j t u,C (.int i t) (.int j u) (f i j)):C a b r:=
 eD e λi aq e=>omap (P:=λr=>C a b r) e λj e2=>by
  cases q2 aq;cases q2 e2
  exact aE.ints (P:=λa=>C a b _) λt=>aQ.ints λu=>k i j t u
theorem NV{h:bw}{x:V}{a:ar}(aE:bq h x a):(a==rT)=x.uj.isSome:=by
 rcases x with _|_|_|_|_|_
 ·cases aE;rfl
 ·cases aE;rfl
 ·exact aE.ints λU=>aa
 ·rcases aE with⟨_,_,_,rfl⟩;rfl
 ·rcases aE with⟨_,_,_,rfl,_⟩;rfl
 ·cases aE;rfl
theorem Xr{op:kO}{x y:V}{a b:ar}{r:aB}{Q:ar->bO}{E:ar->bO}(S:aY B stk σ s)(a6:X.T.cP.Nodup)(dm:A.units+9<lp)(aE:bq s.heap x a)(aQ:bq s.heap y b)
  (h:j3 σ op x y=ab r)(q:∀tk:ae,Q (.bool r) {s with toks:=tk}):bg a9 A (tD (kq op) a b) Q E s:=by
 have u8:A.units+8<lp:=yo dm
 rcases op with _|_|_|_|_|_|_|_|_|_
 ·exact(Bw S a6 8 u8 aE aQ h).c _ _ _ _ (q s.toks)
 ·exact omap (P:=λr=>(∀tk:ae,Q (.bool r) {s with toks:=tk})->_) h (λg cE q=>(Bw S a6 8 u8 aE aQ cE).n _ _ _ _ (q s.toks)) q
 ·exact Bo (C:=λa b r=>(∀tk:ae,Q (.bool r) {s with toks:=tk})->bg a9 A (tD .Lt a b) Q E s) aE aQ h (λU U U U q=>P.lt_int (q s.toks)) q
 ·exact Bo (C:=λa b r=>(∀tk:ae,Q (.bool r) {s with toks:=tk})->bg a9 A (tD .LtE a b) Q E s) aE aQ h (λU U U U q=>P.le_int (q s.toks)) q
 ·exact Bo (C:=λa b r=>(∀tk:ae,Q (.bool r) {s with toks:=tk})->bg a9 A (tD .Gt a b) Q E s) aE aQ h (λU U U U q=>P.gt_int (q s.toks)) q
 ·exact Bo (C:=λa b r=>(∀tk:ae,Q (.bool r) {s with toks:=tk})->bg a9 A (tD .GtE a b) Q E s) aE aQ h (λU U U U q=>P.ge_int (q s.toks)) q
 ·exact omap (P:=λr=>(∀tk:ae,Q (.bool r) {s with toks:=tk})->_) h (λg cE q=>by cases E9 cE;cases aQ;exact PySem.is_none (aD (NV aE) (q s.toks))) q
 ·exact omap (P:=λr=>(∀tk:ae,Q (.bool r) {s with toks:=tk})->_) h (λg cE q=>by cases E9 cE;cases aQ;exact PySem.isNot_none (aD (NV aE) (q s.toks))) q
 ·exact(NL S a6 dm aE aQ h).1 q
 ·exact omap (P:=λr=>(∀tk:ae,Q (.bool r) {s with toks:=tk})->_) h (λg cE q=>(NL S a6 dm aE aQ cE).2 q) q
end
end
section
open PySem.SeqAt
section
variable{B:bo}{stk:af Sc}{c:cS}{A:ea}{s:bS}{σ:H}{E:bR}
theorem aF6{h:bw}{d:a8}{m:a5->aw ar}{o:bj}{x:a5}(a6:h.Ns d m)(aO:h.get? d=ab o):DC x o=ab (m x):=by
 refine Am a6 λo' ao ep gg hd az hf=> ?_
 cases aO.symm.trans gg
 unfold DC
 rw[hd,←hf x]
 unfold nsFind findBy
 dsimp only
 rw[←Array.find?_toList]at|-
 generalize q:ao.toList.find? (λe=>e.key.isStr x)=f
 rcases f with _|cU
 ·have z:ao.toList.any (·.refKey)=av:=List.any_eq_false.mpr λcU Gw=>by
   refine rE (az cU (JI.mp Gw)) λn t az=> ?_
   unfold S3
   rw[az];exact d6
  rw[z];rfl
 ·rfl
theorem PX{h:bw}{u:V}{w:ar}(au:bq h u w):handedIn w=ak:=by
 rcases u with _|_|_|_|_|_
 ·cases au;rfl
 ·cases au;rfl
 ·exact au.ints λU=>aa
 ·rcases au with⟨_,_,_,rfl⟩;rfl
 ·rcases au with⟨_,_,_,rfl,_⟩;rfl
 ·cases au;rfl
theorem oJ.look{h:bw}{d:a8}{fs:af (ae×V)}(x:oJ h d fs){C:Prop}(k:∀od,h.get? d=ab od->(∀f y,X.T.cP[f]? =ab y->∃o,DC y od=ab o/\ng h (fM fs f) o)->C):C:=
 x _ λU n U bu=>let⟨od,_,_,aO,_⟩:=id n;k od aO λf y e=>⟨_,aF6 n aO,bu f y e⟩
theorem Wy{p t C f:ae}{fs:af (ae×V)}{x:a5}{u:V}{ex:aB}{Q:bQ}(S:aY c.B c.stk σ s)(K:X.Ok)(hf:X.T.cP[f]? =ab x)(aq:σ p=ab ⟨t,.i C fs⟩)(e2:fM fs f=ab u)(q:Q u σ):
  dp c bq s.heap (DK (.ref p) x ex) Q E s:=
 S.obj aq _ λU U y=>y.rep _ λU d U bT bE U fd nB xU=>fd.look λod aO lk=>by
  have ez:=K.cls _ _ bT xU
  refine b5 (lk f x hf) λo l1 d2=> ?_
  rw[e2]at d2
  rcases d2 with⟨w,rfl,au⟩
  exact get_value (S.k1 K) ⟨bE,aa,aa,aO⟩ ez.ga (R3 ez.hd (ez.bu f x (nB f u e2) hf) aa l1) (PX au) (.val S au q)
theorem PF{n:ae}{k:ag}{j:ae}(h:place n k=ab j):AA k n=ab j/\ -(n:ag)<=k/\k<n:=by
 unfold place at h
 unfold AA
 by_cases z:0<=k
 ·rw[bk z]at h
  by_cases q:k<(n:ag)
  ·rw[bk q]at h
   rw[bh (iy.mpr z)]
   dsimp only
   rw[bk (by simp[z,q])]
   exact⟨h,eE (Int.neg_nonpos_of_nonneg (mq _)) z,q⟩
  ·rw[bh q]at h;cases h
 ·rw[bh z]at h
  by_cases q: -(n:ag)<=k
  ·rw[bk q]at h
   rw[bk (Int.not_le.mp z)]
   dsimp only
   rw[bk (by simp;lia),AJ]
   exact⟨h,q,by lia⟩
  ·rw[bh q]at h;cases h
theorem PE{n:ae}{k:ag}(ax:n<=bN)(h: -(n:ag)<=k/\k<n): -(2^63)<=k/\k<2^63:=
 have ax:=jH.mpr ax
 ⟨eE ai (eE (Int.neg_le_neg ax) h.1),Int.lt_trans h.2 (m5 ax ai)⟩
theorem PC{h:bw}{l:af V}{vs:dC ar}{k:ag}{u:V}(r:b7 h l vs.toList)(e:k5 l k=ab u){C:Prop}(q:∀j w,place vs.size k=ab j->vs[j]? =ab w->bq h u w->C):C:=
 eD e λj aq e2=>let⟨w,dP,dY⟩:=r.get e2;q j w (aD r.size aq) (tH.symm.trans dP) dY
theorem ak8{p:a8}{vs:dC ar}{n j:ae}{k:ag}{t:pD}{w:ar}{Q:ar->bO}{E:ar->bO}(i:IsL s.heap p vs n)(ax:vs.size<=bN)(z:place vs.size k=ab j)(dP:vs[j]? =ab w)(q:Q w s):bg a9 A (tE (.ref p) (.int k t)) Q E s:=by
 have i0:=(PF z).2
 have f:=PE ax i0
 unfold place at z
 by_cases ll:0<=k
 ·rw[bk ll,bk i0.2]at z
  exact wpAny_getItem_list i.isList ll f.2 (aD (cR z) dP) q
 ·rw[bh ll,bk i0.1,AJ]at z
  exact wpAny_getItem_list_neg i.isList (Int.not_le.mp ll) i0.1 f.1 (aD (cR z) dP) q
theorem QK{v i:V}{a b:ar}{Q:V->Prop}(S:aY c.B c.stk σ s)(K:X.Ok)(a4:bq s.heap v a)(hi:bq s.heap i b)(h:vU σ Q v i):
  dp c bq s.heap (tE a b) (λu ah=>Q u/\ah=σ) E s/\∃T id,s.TypeIs a T/\x' (.type T) "__getitem__"=br (ab (.builtin id)):=by
 rcases h with⟨e,q⟩|⟨aq,e,q⟩|⟨aq,e,q⟩
 ·rcases a4 with⟨ax,p,vs,rfl,bK,a0⟩
  exact hi.ints λt=>PC a0 e λj w z dP dY=>have z:=PF z;have f:=PE (a0.size▸ax) z.2
   ⟨getItem_tuple bK f.1 f.2 z.1 dP (.mk dY S (aP.refl _) ⟨q,aa⟩),_,_,th bK,slot_tuple_getitem.lookup⟩
 ·cases a4
  exact hi.ints λt=>S.list aq _ λvs n ax bK a0=>PC a0 e λj w z dP dY=>⟨ak8 bK (aD a0.size ax) z dP (.mk dY S (aP.refl _) ⟨q,aa⟩),_,_,bK.isList.typeIs,slot_list_getitem.lookup⟩
 ·cases a4
  refine Bs S K.cP aq hi e λKK inst knd f k z h1 h2 h3=> ?_
  refine b5 h3 λw dP dY=> ?_
  exact⟨wpAny_getItem_of h1 h2 dP (.mk dY S.toks (aP.refl _) ⟨q,aa⟩),_,_,h2.typeIs,slot_dict_getitem.lookup⟩
end
end
section
open PySem.SeqAt
section
variable{fs:af (ae×V)}{f g:ae}{v:V}
theorem FE:fM (hS fs f v) g=if f=g then ab v else fM fs g:=by
 induction fs with
 |nil=>rfl
 |cons e r aI=>
  rcases e with⟨k,w⟩
  unfold hS
  by_cases z:k=f
  ·rw[bk z,z];unfold fM;by_cases q:f=g<;>simp[q]
  ·rw[bh z];unfold fM
   by_cases q:k=g
   ·rw[bk q,bk q,bh λe=>z (q.trans e.symm)]
   ·rw[bh q,bh q,aI]
theorem aj4:(hS fs f v).length=if(fM fs f).isSome then fs.length else fs.length+1:=by
 induction fs with
 |nil=>rfl
 |cons e r aI=>
  rcases e with⟨k,w⟩
  unfold hS fM
  by_cases z:k=f
  ·rw[bk z,bk z];rfl
  ·rw[bh z,bh z,jI,jI,aI];split<;>rfl
end
theorem aP.ns{h h':bw}{a:a8}{m:a5->aw ar}(k:ix a h h')(a6:h.Ns a m):aP h h':=by
 refine vY a6 λo ao ep aO hd U=> ?_
 exact .data k aO λvs n e=>nomatch hd.symm.trans e
theorem list_cls:tU "list"≠.type "tuple":=by simp
theorem dict_cls:tU "dict"≠.type "tuple":=by simp
section
variable{B:bo}{stk:af Sc}{c:cS}{A:ea}{s:bS}{σ:H}{E:bR}
theorem oJ.put{h h':bw}{d:a8}{fs:af (ae×V)}{f:ae}{x:a5}{v:V}{w:ar}{m:a5->aw ar}(a6:X.T.cP.Nodup)(hf:X.T.cP[f]? =ab x)(k:aP h h')
  (o5:∀f x,X.T.cP[f]? =ab x->ng h (fM fs f) (m x))(dT:h'.Ns d λy=>if y=x then ab w else m y)(cV:h'.DictLe d (if(m x).isSome then fs.length else fs.length+1))(a4:bq h v w):oJ h' d (hS fs f v):=by
 rw[(o5 f x hf).some,←aj4 (v:=v)]at cV
 refineλU q=>q _ dT cV λg y e=> ?_
 rw[FE]
 by_cases z:f=g
 ·cases z;cases hf.symm.trans e
  rw[bk rfl,bk rfl];exact⟨w,aa,a4.cu k⟩
 ·rw[bh z,bh λ(q:y=x)=>z (Aa a6 _ _ _ hf (aR q e))];exact(o5 g y e).cu k
theorem Hl{M:Aq}{E:ar->bO}{a:a8}{m:a5->aw ar}{name:a5}{v:ar}{n:ae}{Q:h8->bO}(a6:s.heap.Ns a m)(cV:s.heap.DictLe a n)
  (h:∀h',h'.Ns a (λx=>if x=name then ab v else m x)->ix a s.heap h'->h'.DictLe a (if(m name).isSome then n else n+1)->Q () {s with heap:=h',toks:=s.toks+1}):bg M A (nsSet a name v) Q E s:=by
 rcases a6 with⟨⟨cl,d,XU,dG⟩,ao,ep,aO,hd,az,hm⟩
 have he:=cV _ ao ep aO hd
 cases(show XU=.dict ao ep from hd)
 have an8:ao.any (·.refKey)=av:=by
  rw[Array.any_eq_false'];intro e he;refine rE (az e he) λn t h=> ?_;simp[S3,h]
 unfold nsSet
 refine aN (aN (wpAny_askSetting (bI (aN (Sv (aN (wc (s:={s with toks:=s.toks+1}) aO ?_)))))))
 dsimp only
 rw[aRefKeyMayBeTheName_at,an8,D6]
 refine wpAny_updatePart (s:={s with toks:=s.toks+1}) aO ?_
 refine h _ ?_ (tJ _ _ _) ?_
 ·cases hi:(ao.findIdx? (·.key.isStr name))with
  |some i=>
   refine⟨_,_,ep,yi _ aO (by simp only[tS,tR,hi];rfl),by simp only[tS,tR,hi];rfl,az.modify _ _,λx=> ?_⟩
   show _=if x=name then ab v else m x
   rw[←hm];exact findBy_modify (λn v=>v.isStr n) Value.isStr_inj ao name x v i hi
  |none=>
   refine⟨_,_,ep+1,yi _ aO (by simp only[tS,tR,hi];rfl),by simp only[tS,tR,hi];rfl,az.push _ _ _ _,λx=> ?_⟩
   show _=if x=name then ab v else m x
   rw[←hm]
   exact findBy_push (λn v=>v.isStr n) ao name x _ _ v (λy=>decide_eq_decide.mpr JE) hi
 ·intro o' l6 Mk gg jw
  have aq4:(ao.findIdx? (·.key.isStr name)).isSome=(m name).isSome:=by
   rw[←hm name,Array.findIdx?_isSome]at|-
   unfold nsFind findBy
   rw[Up,JL,Array.find?_isSome,RL]at|-
  rw[←aq4]
  cases hi:(ao.findIdx? (·.key.isStr name))with
  |some i=>
   cases(yi _ aO (by simp only[tS,tR,hi];rfl)).symm.trans gg
   simp only[tS,tR,hi]at jw
   cases jw
   simpa using he
  |none=>
   cases(yi _ aO (by simp only[tS,tR,hi];rfl)).symm.trans gg
   simp only[tS,tR,hi]at jw
   cases jw
   simpa using he
theorem aV0{p f t C:ae}{fs:af (ae×V)}{x:a5}{v:V}{w:ar}{Q:dn}(S:aY c.B c.stk σ s)(K:X.Ok)(hf:X.T.cP[f]? =ab x)(a4:bq s.heap v w)
  (aq:σ p=ab ⟨t,.i C fs⟩)(aS:t≠0)(xe:fs.length<bN)(o5:(X.T.bp C).any (·.i8.contains f)=ak)(q:Q (aC σ p ⟨t,.i C (hS fs f v)⟩)):dp c r4 s.heap (setAttr (.ref p) x w) (λU=>Q) E s:=
 S.obj aq _ λρ b9 y=>y.rep _ λyU d dG bT bE d' fd bu xU=>fd _ λm hm cV za=>by
  have hu:=S.k1 K
  have ez:=K.cls C yU bT xU
  refine kj (id hm) λod U U aO U=> ?_
  refine b5 (any_some ez.hd) λcd aK jw=> ?_
  have I:InstAt s.heap p ⟨.ref yU,ab d,.plain,dG⟩ yU (ab od):=⟨bE,aa,aa,aO⟩
  refine Je hu I ez.cn (osa_open (s:={s with toks:=s.toks+1}) (r:=aj) hu I ez.po (by unfold takerIn;rw[ez.bu f x o5 hf];rfl) λb=> ?_)
  refine aN (bI (aN (aN (wc (s:={s with toks:=s.toks+1}) bE (aN (Kj (s:={s with toks:=s.toks+1}) (DD hu aK) ?_))))))
  rw[jw]
  refine bI (a:=ab d) (aN (bI (aN (Hl (s:={s with toks:=s.toks+1}) hm cV λh' dT bY hz'=> ?_))))
  have ev:aP s.heap h':=aP.ns bY hm
  refine vY (id dT) λcX Yl Yk l7 hd2 U=> ?_
  refine aN (Jy (o:=cX) l7 (by rw[hd2];exact Sg (aX (hz' _ _ _ l7 hd2) (show(if(m x).isSome then fs.length else fs.length+1)<=rH+1 from aX (show _<=fs.length+1 by split<;>lia) (AS (kA xe))))) (bI ?_))
  refine .mk (a:=()) trivial (eu.sim ⟨b9.h.OG (o':=⟨t,.i C (hS fs f v)⟩) d' bY ⟨cX,l7⟩ ev ⟨y.new,y.old,?_⟩,b9.os,b9.gens⟩) ev q
  refineλU k=>k yU d dG bT ((bY.2 p (qp d' (y.new aS) nofun)).trans bE) d' (oJ.put K.cP hf ev za dT hz' a4) (λg u e=> ?_) xU
  rw[FE]at e
  by_cases z:f=g
  ·exact aR z o5
  ·rw[bh z]at e;exact bu g u e
theorem aY.Cc{p:a8}{o:O}{d:dN}{h':bw}{tk:ae}{b3:bj}(S:aY B stk σ s)(aq:σ p=ab o)(aS:o.tag≠0)(bY:ix p s.heap h')(aK:h'.get? p=ab b3)(k:aP s.heap h')
  (au:∀ρ,m8 h' ρ p d):aY B stk (aC σ p ⟨o.tag,d⟩) {s with heap:=h',toks:=tk}:=
 S.obj aq _ λρ b9 y=>eu.sim ⟨b9.h.mod aq aS bY ⟨_,aK⟩ k ⟨y.new,y.old,au ρ⟩,b9.os,b9.gens⟩
theorem aY.Cb{p t:ae}{l l':af V}{vs:dC ar}{h':bw}{tk n:ae}{Q:dn}{α β:Type}{R:bw->α->β->Prop}{a:α}{b:β}(S:aY c.B c.stk σ s)(aq:σ p=ab ⟨t,.l l⟩)(aS:t≠0)(bY:ix p s.heap h')(ax:l'.length<=bN)(bK:IsL h' p vs n)
  (a0:aP s.heap h'->b7 h' l' vs.toList/\R h' a b)(q:Q (aC σ p ⟨t,.l l'⟩)):eU c R s.heap (λe0 σ=>e0=a/\Q σ) b {s with heap:=h',toks:=tk}:=
 S.list aq _ λU U U vg U=>have ev:aP s.heap h':=aP.sameBut bY vg list_cls
  .mk (a0 ev).2 (S.Cc (o:=⟨t,.l l⟩) (d:=.l l') aq aS bY bK ev λU U k=>k vs n ax bK (a0 ev).1) ev ⟨aa,q⟩
theorem aV1{l:a8}{its:dC ar}{n:ae}{k:ag}{t:pD}{v:ar}{Q:h8->bO}{E:ar->bO}(ax:IsL s.heap l its n)(h0:0<=k)(cp:k<its.size)(hf:k<2^63)
  (hQ:Q () {s with heap:=s.heap.update l (tQ (·.setIfInBounds k.toNat v))}):bg a9 A (x8 (.ref l) (.int k t) v) Q E s:=by
 have dU:=ax.isList.typeIs
 unfold x8
 try with_reducible refine lq ?_
 refine aN (Sz dU ai ?_)
 refine aN (DV (name:=iM "__setitem__") dU Sj (rK Sj dU entry_list_setitem ?_ (args_list_setitem _ _ _)))
 show bg _ _ (bi7 (.int k t)>>= _) _ _ s
 refine aN (wpAny_listSubscript_int (fitsIndex_of h0 hf) ?_)
 clear hf
 rcases J0 h0 with⟨j,rfl⟩
 have e:=SG (fh.mp cp)
 show bg _ _ ((seqItemAt l j >>=λr=>br (r.map (j,·)))>>= _) _ _ s
 refine aN (aN (wpAny_seqItemAt ax aa (bI ?_)))
 rw[e]
 show bg _ _ (setSeqItemAt l j v >>= _) _ _ s
 exact aN (wpAny_setSeqItemAt ax aa (bI ⟨.none,aa,bI hQ⟩))
theorem eU.un{α β:Type}{R:bw->α->β->Prop}{h₀:bw}{a:α}{Q:dn}{yG:α->H->Prop}{b:β}(p:eU c R h₀ (λe0 σ=>e0=a/\Q σ) b s)(k:∀σ,Q σ->yG a σ):eU c R h₀ yG b s:=λU f=>p _ λe0 σ r S e q=>by
 rcases q with⟨rfl,q⟩;exact f e0 σ r S e (k σ q)
theorem Qr{v i x:V}{a b w:ar}{Q:dn}(S:aY c.B c.stk σ s)(K:X.Ok)(dm:c.A.units+9<lp)(a4:bq s.heap v a)(hi:bq s.heap i b)(aE:bq s.heap x w)(h:xT σ x Q v i):dp c r4 s.heap (x8 a b w) (λU=>Q) E s:=by
 have dict:∀{K K':Type} [j6 K] [j6 K']{ay:K->K'->Prop}(T:mD ay)(knd:tu X.prog X.w K')(mk:af (K×V)->dN){p t:ae}{ao:af (K×V)}{k:K}{k':K'},(∀h ρ ao,nS knd ay h p ao->m8 h ρ p (mk ao))->(∀h ρ,m8 h ρ p (mk ao)->nS knd ay h p ao)->knd.is k' b=ak->ay k k'->
   σ p=ab ⟨t,mk ao⟩->ao.length<bN->t≠0->Q (aC σ p ⟨t,mk (dA ao k x)⟩)->dp c r4 s.heap (x8 (.ref p) b w) (λU=>Q) E s:=by
  intro K K' _ _ ay T knd mk p t ao k k' f g az aS e ax h0 q
  refine S.obj e _ λρ b9 y=>g _ _ y.rep _ λkvs bT bE d' iq=> ?_
  refine wpAny_setItem_pairs (knd:=knd) (k:=k') az d' (λh' c8 bY=> ?_) (by rw[iq.length];exact kA bE)
  refine vY (id d') λb3 U U aO aK U=> ?_
  have ev:aP s.heap h':=aP.sameBut bY aO (aD aK.1 dict_cls)
  refine kj (id c8) λpe U U gg U=> ?_
  exact .mk (a:=()) trivial (S.Cc (o:=⟨t,mk ao⟩) e h0 bY gg ev λρ=>f _ _ _ λU k=>k _ bT (E8 ax) c8 ((iq.cu ev).put T aS (aE.cu ev))) ev q
 rcases h with⟨e,h0,h1,aS,q⟩|⟨e,a7,aS,q⟩|⟨e,ax,aS,q⟩
 ·cases a4
  exact hi.ints λtk=>S.list e _ λvs n ax bK a0=>aV1 bK h0 (aD a0.size h1) (Int.lt_trans h1 (BD ax))
   ((S.Cb (tk:=s.toks) (R:=r4) (a:=()) (b:=()) e aS (tJ _ _ _) (by rw[List.length_set];exact ax) (bK.update (·.setIfInBounds _ w)) (λev=>⟨by rw[Array.toList_setIfInBounds];exact(a0.cu ev).set (aE.cu ev) _,trivial⟩) q).un λU q=>q)
 ·cases a4
  rename_i p t o o'
  rcases o with _|ao|ao|_|⟨_,_⟩|⟨_,_,_⟩
  ·cases a7
  ·refine eD a7 λj ej b4=> ?_
   cases q2 ej
   split at b4
   ·cases b4
    rcases hi with⟨u,rfl⟩
    exact dict uy iS .d (k':=j) (λU U U x=>x) (λU U x=>x) (jG j) aa e ‹_› aS q
   ·cases b4
  ·refine eD a7 λj ej b4=> ?_
   cases yM ej
   split at b4
   ·cases b4
    rcases hi with⟨y,u,aQ,rfl⟩
    exact dict (Iy K.cP) sK .s (λU U U x=>x) (λU U x=>x) (jG y) aQ e ‹_› aS q
   ·cases b4
  ·cases a7
  ·cases a7
  ·cases a7
 ·cases a4
  refine P2 hi (C:=λb=>dp c r4 s.heap (x8 (.ref _) b w) (λU=>Q) E s) λa GD=>S.obj e _ λρ b9 y=>y.rep _ λxs bT bE d' iq=> ?_
  have hlen:xs.length=_:=(cN _).symm.trans iq.length
  refine wpAny_setItem_heap (knd:=Ib) (show wM c.A.in1 from nO (by show c.A.units+1+5<c.A.units+9;lia) dm) GD d' (λh' c8 bY=> ?_) (by rw[hlen];exact kA bE)
  refine vY (id d') λb3 U U aO aK U=> ?_
  have ev:aP s.heap h':=aP.sameBut bY aO (aD aK.1 dict_cls)
  refine kj (id c8) λpe U U gg U=> ?_
  exact .mk (a:=()) trivial (S.Cc (d:=.t _) e aS bY gg ev λρ U k=>k _ bT (E8 ax) c8 (aD aL0 ((iq.cu ev).put uy aa (aE.cu ev)))) ev q
end
end
section
open PySem.SeqAt
section
variable{c:cS}{A:ea}{s:bS}{σ:H}{E:bR}{Q:bQ}
theorem Wl{p t:ae}{l:af V}{v:V}{a:ar}(S:aY c.B c.stk σ s)(aq:σ p=ab ⟨t,.l l⟩)(a4:bq s.heap v a)(aS:t≠0)(ax:l.length<bN)(q:Q .n (aC σ p ⟨t,.l (l++[v])⟩)):
  dp c bq s.heap (hq (.builtin "list.append") [.ref p,a]) Q E s:=
 S.list aq _ λvs n U bK a0=>append_at bK (λh' bY aO=>(S.Cb (tk:=s.toks) (R:=bq) (a:=.n) (b:=.none) aq aS bY (by rw[cK];exact ax) aO (λev=>⟨by rw[Array.toList_push];exact(a0.cu ev).append (.cons (a4.cu ev) .nil),aa⟩) q).un λU q=>q)
  (by rw[a0.size];exact kA (jk ax))
theorem aL6{p t:ae}{l:af V}{v:V}(S:aY c.B c.stk σ s)(aq:σ p=ab ⟨t,.l (l++[v])⟩)(aS:t≠0)(q:Q v (aC σ p ⟨t,.l l⟩)):dp c bq s.heap (hq (.builtin "list.pop") [.ref p]) Q E s:=
 S.list aq _ λvs n ax bK a0=>by
  have kv:vs.size=l.length+1:=by rw[a0.size,cK];rfl
  refine b5 (a0.get (i:=l.length) (v:=v) (by rw[Ef (da _),Uj]at|-;rfl)) λw e hw=> ?_
  refine call_meets S5 bK.isList.typeIs F.entry_list_pop (by rfl) (bk9 p vs n w (by rw[kv,←tH]at|-;exact e) (aD a0.size (kA ax))) ⟨bK,?_⟩
  refine(S.Cb (tk:=s.toks) (R:=bq) (a:=v) (b:=w) aq aS (tJ _ _ _) (l':=l) (aX (by rw[cK];exact en _ _) ax) (bK.update λxs=>xs.eraseIdxIfInBounds (vs.size - 1)) (λev=>⟨?_,hw.cu ev⟩) q).un λU q=>q
  have z:=(a0.cu ev).erase (l.length+1 - 1)
  rw[show(l++[v]).eraseIdx (l.length+1 - 1)=l by simp[List.eraseIdx_append_of_length_le]]at z
  rw[←show vs.size - 1=l.length+1 - 1 by rw[kv]]at z
  rw[SJ];exact z
theorem al1{p t:ae}{o:dN}{k d:V}{vk oy:ar}{r:aw V}(S:aY c.B c.stk σ s)(K:X.Ok)(aq:σ p=ab ⟨t,o⟩)(az:bq s.heap k vk)(hd:bq s.heap d oy)(cE:q9 o k=ab r)(q:Q (r.getD d) σ):
  dp c bq s.heap (hq (.builtin "dict.get") [.ref p,vk,oy]) Q E s:=
 Bs S K.cP aq az cE λKK inst knd f fe z h1 h2 h3=>DH yh h2.typeIs JS (by rfl) (meets_dict_get_default (knd:=knd) p h1 z oy) ⟨f,h2,by
  rcases r with _|v
  ·rw[show f fe=aj from h3];exact .val S hd q
  ·refine b5 h3 λw e hw=> ?_;rw[e];exact .val S hw q⟩
theorem al0{p t:ae}{o:dN}{k:V}{vk:ar}{r:aw V}(S:aY c.B c.stk σ s)(K:X.Ok)(aq:σ p=ab ⟨t,o⟩)(az:bq s.heap k vk)(cE:q9 o k=ab r)(q:Q (r.getD .n) σ):
  dp c bq s.heap (hq (.builtin "dict.get") [.ref p,vk]) Q E s:=
 Bs S K.cP aq az cE λKK inst knd f fe z h1 h2 h3=>DH yh h2.typeIs JS (by rfl) (meets_dict_get (knd:=knd) p h1 z) ⟨f,h2,by
  rcases r with _|v
  ·rw[show f fe=aj from h3];exact .val (v:=.n) S aa q
  ·refine b5 h3 λw e hw=> ?_;rw[e];exact .val S hw q⟩
theorem ba6{p t:ae}{ao:af (dr×V)}{r:dr}{d:V}{vk oy:ar}(S:aY c.B c.stk σ s)(dm:c.A.units+9<lp)(aq:σ p=ab ⟨t,.t ao⟩)(az:bq s.heap r.v vk)(hd:bq s.heap d oy)(q:Q ((cw ao r).getD d) σ):
  dp c bq s.heap (hq (.builtin "dict.get") [.ref p,vk,oy]) Q E s:=
 P2 az (C:=λvk=>dp c bq s.heap (hq (.builtin "dict.get") [.ref p,vk,oy]) Q E s) λa GD=>S.obj aq _ λU U y=>y.rep _ λxs bT U c8 iq=>
  DH yh c8.typeIs JS (by rfl) (meetsH_dict_get_default Ib p a bT oy) ⟨show c.A.units+1+5<lp from nO (by lia) dm,r,xs,GD,c8,by
   have h3:=iq.get uy (k:=r) aa
   rw[←aK9]at h3
   generalize(Aw xs r).map (·.2)=o at h3
   rcases e:cw ao r with _|v
   ·rw[e]at q h3;rw[show o=aj from h3];exact .val S hd q
   ·rw[e]at q h3;refine b5 h3 λw e hw=> ?_;rw[e];exact .val S hw q⟩
theorem bc4{x:ag}{is:af ag}:∀{l':af ag},tj x is=ab l'->∃j,∃h:j<is.length,is[j]=x/\(∀m(hm:m<is.length),m<j->is[m]≠x)/\l'=is.eraseIdx j:=by
 induction is with
 |nil=>intro l' h;cases h
 |cons y r aI=>
  intro l' h
  unfold tj at h
  by_cases z:y=x
  ·rw[bk z]at h;cases h
   exact⟨0,yr _,z,λm U q=>aV q (yq _),aa⟩
  ·rw[bh z]at h
   refine omap (P:=λl'=>∃j,∃h:j<(y::r).length,(y::r)[j]=x/\(∀m(hm:m<(y::r).length),m<j->(y::r)[m]≠x)/\l'=(y::r).eraseIdx j) h λd2 e=> ?_
   rcases aI e with⟨j,cp,h1,h2,rfl⟩
   exact⟨j+1,Ez cp,h1,λm hm q=>match m,hm,q with
    |0,_,_=>z
    |m+1,hm,q=>h2 m (AU hm) (AU q),aa⟩
theorem xi{l:af ag}:(aL l).length=l.length:=cN _
theorem av4(l:af ag):∀j,aL (l.eraseIdx j)=(aL l).eraseIdx j:=by
 induction l with
 |nil=>exactλU=>aa
 |cons a l aI=>exactλj=>match j with
  |0=>rfl
  |j+1=>aU (V.i a::·) (aI j)
theorem GQ{is:af ag}{h:bw}{vs:dC ar}(r:b7 h (aL is) vs.toList)(m:ae)(hm:m<vs.size):∃(hi:m<is.length)(t:pD),vs[m]=.int is[m] t:=by
 have hi:m<is.length:=by rw[r.size,xi]at hm;exact hm
 rcases r.get (i:=m) (v:=.i is[m]) (by unfold aL;rw[lV,f9 hi]at|-;rfl)with⟨w,e,t,rfl⟩
 exact⟨hi,t,cR ((f9 (l:=vs.toList) (i:=m) hm).symm.trans e)⟩
theorem aO8{p t:ae}{is l':af ag}{x:ag}{a:ar}(S:aY c.B c.stk σ s)(aq:σ p=ab ⟨t,.l (aL is)⟩)(a4:bq s.heap (.i x) a)(aS:t≠0)(au:tj x is=ab l')(q:Q .n (aC σ p ⟨t,.l (aL l')⟩)):
  dp c bq s.heap (hq (.builtin "list.remove") [.ref p,a]) Q E s:=
 a4.ints λu=>S.list aq _ λvs n rj bK a0=>by
  rcases bc4 au with⟨j,cp,h1,h2,rfl⟩
  have kv:vs.size=is.length:=by rw[a0.size,xi]
  refine call_meets S6 bK.isList.typeIs F.entry_list_remove (by rfl) (bl0 p vs n (.int x u) (λy=>match y with| .int b _=>b==x|_=>av) (λy aQ=> ?_) j (aD kv cp) ?_ (λm hm q=> ?_) (aD a0.size (kA rj))) ⟨bK,?_⟩
  ·rcases Array.mem_iff_getElem.mp aQ with⟨m,hm,rfl⟩
   refine rE (GQ a0 m hm) λU t e=> ?_
   rw[e];exact bk8 _ _ _ _
  ·refine rE (GQ a0 j (aD kv cp)) λU t e=> ?_
   rw[e];exact beq_iff_eq.mpr h1
  ·refine rE (GQ a0 m hm) λhi t e=> ?_
   rw[e];exact beq_eq_false_iff_ne.mpr (h2 m hi q)
  ·refine(S.Cb (tk:=s.toks) (R:=bq) (a:=.n) (b:=.none) aq aS (tJ _ _ _) (l':=aL (is.eraseIdx j)) ?_ (bK.update λxs=>xs.eraseIdxIfInBounds j) (λev=>⟨?_,aa⟩) q).un λU q=>q
   ·rw[xi];exact aX (List.length_eraseIdx_le _ _) (aR xi rj)
   ·rw[SJ,show aL (is.eraseIdx j)=(aL is).eraseIdx j from av4 is j]
    exact(a0.cu ev).erase _
def HV(d:dN)(m:ae):ht:=if zM d=1 then "dict.get" else if m=Ce then "list.append" else if m=Cg then "list.pop" else "list.remove"
theorem aI9{p m t:ae}{d ee:dN}{l:af V}{ws:af ar}(S:aY c.B c.stk σ s)(K:X.Ok)(dm:c.A.units+9<lp)(e:σ p=ab ⟨t,d⟩)(az:zM ee=zM d)(au:b7 s.heap l ws)(h:rB σ Q p m t d l):
  dp c bq s.heap (hq (.builtin (HV ee m)) (.ref p::ws) []) Q E s:=by
 unfold HV
 rw[az]
 rcases h with⟨rfl,h1,h2,q⟩|⟨rfl,h1,q⟩|⟨rfl,h1,h2,q⟩|⟨rfl,cE,q⟩|⟨rfl,cE,q⟩|⟨rfl,q⟩
 ·rcases au.one with⟨w,rfl,a4⟩;exact Wl S e a4 h1 h2 q
 ·cases(show ws=[]from au);exact aL6 S e h1 q
 ·rcases au.one with⟨w,rfl,a4⟩;exact aO8 S e a4 h1 h2 q
 ·rcases au.one with⟨w,rfl,a4⟩
  rw[bk (by cases d<;>first|rfl|cases cE)];exact al0 S K e a4 cE q
 ·rcases au with⟨w,_,rfl,a4,au⟩;rcases au.one with⟨dY,rfl,GJ⟩
  rw[bk (by cases d<;>first|rfl|cases cE)];exact al1 S K e a4 GJ cE q
 ·rcases au with⟨w,_,rfl,a4,au⟩;rcases au.one with⟨dY,rfl,GJ⟩
  exact ba6 S dm e a4 GJ q
theorem Qq{v:V}{a:ar}{l:af V}(S:aY c.B c.stk σ s)(a4:bq s.heap v a)(h:xS σ v=ab l){C:ar->Prop}
  (k:∀p vs,l.length<=bN->b7 s.heap l vs.toList->(∃n,IsL s.heap p vs n)\/s.heap.IsTuple p vs->C (.ref p)):C a:=by
 rcases v with _|_|_|_|m|p
 ·cases h
 ·cases h
 ·cases h
 ·cases h
 ·cases h;rcases a4 with⟨ax,p,vs,rfl,bK,a0⟩;exact k p vs ax a0 (.inr bK)
 ·cases a4;exact zy h λt aq=>S.list aq _ λvs n ax bK a0=>k p vs ax a0 (.inl ⟨n,bK⟩)
theorem az4{v:V}{a:ar}{l:af V}(S:aY c.B c.stk σ s)(a4:bq s.heap v a)(h:xS σ v=ab l)(q:Q (.i l.length) σ):dp c bq s.heap (hq (.builtin "len") [a]) Q E s:=
 Qq S a4 h (C:=λa=>dp c bq s.heap (hq (.builtin "len") [a]) Q E s) λp vs ax a0 z=>by
  rw[←a0.size]at q ax
  rcases z with⟨n,z⟩|z
  ·exact call_len_list z.isList (BD ax) (.int S q)
  ·exact bk4 z (BD ax) (.int S q)
theorem az6{v:V}{a:ar}{l:af V}(S:aY c.B c.stk σ s)(a4:bq s.heap v a)(h:xS σ v=ab l)(q:vNew (.l l) σ Q):dp c bq s.heap (hq (.type "list") [a]) Q E s:=
 Qq S a4 h (C:=λa=>dp c bq s.heap (hq (.type "list") [a]) Q E s) λp vs ax a0 z=>by
  have fin:∀(h':bw) jP,(∀b,eT s.heap h' b)->IsL h' s.heap.objs.size vs jP->eU c bq s.heap Q (.ref s.heap.objs.size) {s with heap:=h'}:=λh' jP az c8=>S.zF (tk:=s.toks) az (iR (da _)) c8 ax (a0.cu (aP.keeps az)) q
  rcases z with⟨n,z⟩|⟨o,aO,aK,n,hd⟩
  ·exact R6 p (by simp) z aa rfl fin (aD a0.size (kA ax))
  ·exact R6 p (by simp) aO aK hd fin (aD a0.size (kA ax))
theorem bb7{p t:ae}{l:af V}(S:aY c.B c.stk σ s)(aq:σ p=ab ⟨t,.l l⟩)(q:Q (.t l) σ):dp c bq s.heap (hq (.type "tuple") [.ref p]) Q E s:=
 S.list aq _ λvs n ax bK a0=>call_tuple_list bK.isList (λh' az=>.QX S (tk:=s.toks) (λb o e=>iJ _ (az b o e)) QZ ax a0 q) (aD a0.size (kA ax))
theorem foldl_min(l:af ag):∀(a:ag),(l.foldl (λa b=>if b<a then b else a) a∈a::l)/\∀x∈a::l,l.foldl (λa b=>if b<a then b else a) a<=x:=by
 induction l with
 |nil=>exactλa=>⟨.head _,λx h=>by
                         rcases h with _|⟨_,h⟩
                         ·exact pJ _
                         ·cases h⟩
 |cons b l aI=>
  intro a
  rw[List.foldl_cons]
  by_cases z:b<a
  ·rw[bk z]
   exact⟨.tail _ (aI b).1,i3.mpr ⟨hJ (m5 ((aI b).2 b (.head _)) z),(aI b).2⟩⟩
  ·rw[bh z]
   have h:=i3.mp (aI a).2
   refine⟨(fS.mp (aI a).1).elim (λe=>by rw[e];exact .head _) λm=>.tail _ (.tail _ m),i3.mpr ⟨h.1,i3.mpr ⟨eE h.1 (iy.mp z),h.2⟩⟩⟩
theorem au6{ws:af ar}{is:af ag}(x:vZ ws is):∃xs:dC (ag×pD),ws.toArray=intItems xs/\is=xs.toList.map (·.1):=let⟨xs,e⟩:=x.allInts.items;⟨xs,e,by rw[←x.numsOf,←nums_intItems,←e]⟩
theorem aC9{p t:ae}{x:ag}{l:af ag}(S:aY c.B c.stk σ s)(aq:σ p=ab ⟨t,.l (aL (x::l))⟩)(bG:c.A.handled=aj)(q:Q (.i (l.foldl (λa b=>if b<a then b else a) x)) σ):dp c bq s.heap (hq (.builtin "min") [.ref p]) Q E s:=
 S.list aq _ λvs n U bK a0=>by
  refine b5 (au6 (H9 a0)) λxs ex cU=> ?_
  have ax:=bK.isList
  rw[show vs=intItems xs by rw[←ex]]at ax
  have hlen:(x::l).length=xs.size:=by rw[cU,cN,Array.length_toList]
  refine min_intList bG ax (aR hlen (yr _)) λv h' tk a4 az=> ?_
  rcases intItems_at a4 with⟨jg,rfl⟩
  rcases argBest_lt (wb xs) (xs.size - 1)with⟨h1,h2⟩
  have at_:∀j(cp:j<(x::l).length),wb xs j=(x::l)[j]:=λj cp=>by rw[numAt_eq,←cU,qH,f9 cp]at|-;rfl
  have qh:argBest (λi j=>decide (wb xs i<wb xs j)) (xs.size - 1)<(x::l).length:=by rw[hlen];exact d7 h1 (Kp (aR hlen (yr _)) Ko)
  have e:wb xs (argBest (λi j=>decide (wb xs i<wb xs j)) (xs.size - 1))=l.foldl (λa b=>if b<a then b else a) x:=by
   refine AK ?_ ((foldl_min l x).2 _ (aD (at_ _ qh) (Ei qh)))
   rcases List.mem_iff_getElem.mp (foldl_min l x).1 with⟨j,cp,e⟩
   rw[←e,←at_ j cp]
   exact h2 j (T5 (aR hlen cp))
  rw[e]
  exact .mk (a:=.i _) (JR jg aa) (S.keeps (tk:=tk) az) (aP.keeps az) q
end
end
section
open PySem.SeqAt
section
variable{B:bo}{stk:af Sc}{c:cS}{A:ea}{s:bS}{σ:H}{E:bR}{Q:bQ}
theorem aY4(slice:bU)(o i:ar):∃ops,Sk slice av o i=operate ops (tE o i):=by
 cases slice<;>first|exact⟨_,aa⟩|(rename_i a b c _;cases a<;>cases b<;>cases c<;>exact⟨_,aa⟩)
theorem Dc{value slice:bU}{o i:ar}{T id:ht}{Q:ar->bO}{E:ar->bO}(dU:s.TypeIs o T)(ax:x' (.type T) "__getitem__"=br (ab (.builtin id)))(h:bg a9 A (tE o i) Q E s):bg a9 A (Ja value slice o i) Q E s:=by
 rcases aY4 slice o i with⟨ops,e⟩
 have fin:bg a9 A (Sk slice av o i) (λr j1=>bg a9 A (letTemporaryGo value o r >>=λU=>br r) Q E j1) E s:=aD e (wpAny_operating (dH h (λr j1 kx=>aN (Su (bI kx))) λU U x=>x))
 unfold Ja
 refine aN ?_
 rw[getitemInPython_of_ne dU.not_modules]
 refine aN (D0 dU ax ?_)
 first
  |exact bI (aN fin)
  |exact wpAny_bind (wpAny_pure (wpAny_bind fin))
  |exact wpAny_bind fin
theorem XO{v i:V}{a b:ar}{Q:dn}(S:aY c.B c.stk σ s)(a4:bq s.heap v a)(hi:bq s.heap i b)(h:IE σ Q v i):dp c r4 s.heap (delItem a b) (λU=>Q) E s:=by
 rcases h with⟨aq,aS,az,q⟩
 cases a4
 refine hi.ints λu=>S.obj aq _ λρ b9 y=>y.rep _ λkvs bT bE d' iq=> ?_
 have ar4:=(iq.get uy (k':=_) aa).some.trans az
 refine wpAny_delItem_slot d'.typeIs (by decide+kernel) S4 (DH S4 d'.typeIs F.entry_dict_delitem (by rfl) (meets_dict_delitem_pairs (knd:=iS) (k:=_) (d:=_) (jG _))
  ⟨kvs,d',by rw[iq.length];exact kA bE,ar4,λh' c8 bY=> ?_⟩)
 refine vY (id d') λb3 U U aO aK U=> ?_
 refine kj (id c8) λpe U U gg U=> ?_
 have ev:aP s.heap h':=aP.sameBut bY aO (aD aK.1 dict_cls)
 exact .mk (a:=()) trivial (S.Cc (d:=.d _) aq aS bY gg ev λρ U k=>k _ bT (aX (TJ _ _) bE) c8 ((iq.cu ev).del uy aa)) ev q
theorem Qy{v:ar}{is:af ag}{Q:ar->bO}{E:ar->bO}(hlen:is.length<64)
  (ao9:∀R:af ar->bO,(∀h' tk ws,(∀b,eT s.heap h' b)->vZ ws is->R ws {s with heap:=h',toks:=tk})->bg a9 A.in1 (collect v) R E s)
  (h:∀h' tk D(out:dC ar) c,(∀b,eT s.heap h' b)->s.heap.get? D=aj->IsL h' D out c->vZ out.toList (sortI is)->Q (.ref D) {s with heap:=h',toks:=tk}):bg a9 A (hq (.builtin "sorted") [v]) Q E s:=by
 refine S0 RT RW RS (RP _) ?_
 unfold Builtin.«sorted»
 refine aN (m:=checkCount "sorted" 1 1 _) (bI (aN (ao9 _ λh1 tk ws az rg=> ?_)))
 have hw:ws.length<64:=by rw[rg.length];exact hlen
 refine aN (Jz ?_ (by rw[tG];lia))
 have ve:(h1.push (seqObj "list" ws.toArray 0)).get? h1.objs.size=ab (seqObj "list" ws.toArray 0):=lr _ aa
 have ku:∀b o,s.heap.get? b=ab o->h1.objs.size≠b:=λb o e z=>aV (rM (az _ _ e)) (aR z (nN _))
 refine aN (lq (rK R0 ⟨_,ve,aa⟩ RR (list_sort_tree (s:={s with heap:=h1.push (seqObj "list" ws.toArray 0),toks:=tk}) ve rg hw λout aF5 a1 a2 fB=>⟨_,aa,?_⟩) (RO _)))
 refine bI ⟨_,aa,?_⟩
 have ap8:=iJ (seqObj "list" #[] 0) (iJ (seqObj "tuple" ws.toArray 0) (Dx ve λU=>(#[]:dC ar)))
 refine h _ tk _ out _ (λb o e=> ?_) (mS (β:=h8) (λo e=>ku _ o e aa) id) (Dx ap8 λU=>out) (aR (show aF5=sortI is from C9 OY a2 (fB.imp λh=>cD h)) a1)
 unfold sortedHeap
 rw[D' _ _ (ku b o e)]at|-
 refine iJ _ (iJ _ ?_)
 rw[D' _ _ (ku b o e)]at|-
 exact iJ _ (az b o e)
theorem Qx{l:af ag}(h:l.length<64):(aL (sortI l)).length<=bN:=by rw[xi,xM.length_eq];exact aX (jk h) ai
theorem aw8{h:bw}{f:bj->bj}{o:bj}:∀b,eT h ((h.push o).update h.objs.size f) b:=λb p e=>by
 rw[D' _ _ (λz:h.objs.size=b=>aV (rM e) (aR z (nN _)))]at|-;exact iJ _ e
theorem aW6{p t:ae}{is:af ag}(S:aY c.B c.stk σ s)(aq:σ p=ab ⟨t,.l (aL is)⟩)(hlen:is.length<64)(q:vNew (.l (aL (sortI is))) σ Q):dp c bq s.heap (hq (.builtin "sorted") [.ref p]) Q E s:=
 S.list aq _ λvs n ax bK a0=>have rg:=H9 a0
  Qy hlen (λR Gm=>RQ (vs:=vs.toList) (by rw[SI];exact bK.isList) (Gm _ s.toks _ aw8 rg) (by rw[rg.length,tG];lia)) λh' tk D out c az c8 n5 Gl=>S.zF az c8 n5 (Qx hlen) (NS Gl) q
theorem at5{k:ag}{v:ar}(h:iS.is k v=ak):∃t,v=.int k t:=by
 cases v<;>first|(exact aV h d6)|exact⟨_,by rw[qA h]⟩
theorem aw1{h:bw}{ao:af (ag×V)}{kvs:af (ag×ar)}(az:fV (·=·) h ao kvs):∀(l:af ar),l.length=kvs.length->(∀(j:ae)(v:ar),l[j]? =ab v->∃k x,kvs[j]? =ab (k,x)/\iS.is k v=ak)->vZ l (ao.map (·.1)):=by
 induction az with
 |nil=>intro l h1 _;cases pL.mp h1;exact .nil
 |cons h1 _ _ aI=>
  intro l h2 h3
  rcases l with _|⟨v,l⟩
  ·cases h2
  ·refine xV (h3 0 v aa) λk x e a4=> ?_
   cases e
   cases h1
   rcases at5 a4 with⟨t,rfl⟩
   exact .cons _ _ (aI l (wz h2) λj v e=>h3 (j+1) v e)
theorem aW5{p t:ae}{ao:af (ag×V)}(S:aY c.B c.stk σ s)(bG:c.A.handled=aj)(aq:σ p=ab ⟨t,.d ao⟩)(hlen:ao.length<64)(q:vNew (.l (aL (sortI (ao.map (·.1))))) σ Q):dp c bq s.heap (hq (.builtin "sorted") [.ref p]) Q E s:=
 have Nw:(ao.map (·.1)).length<64:=by rw[cN];exact hlen
 S.obj aq _ λρ b9 y=>y.rep _ λkvs lo U c8 az=>by
  rcases c8.dictAt with⟨ep,ao3⟩
  refine Qy Nw (λR Gm=> ?_) λh' tk D out c xc c8 n5 Gl=>S.zF xc c8 n5 (Qx Nw) (NS Gl) q
  exact kdu_collect (A:=c.A.in1) (kdl_dict (prog:=X.prog) (w:=X.w) (knd:=iS) (kvs:=kvs) (ep:=ep) lo) bG ao3 (by rw[az.length,tG];lia) λh' tk acc xc Nh=>
   Gm h' tk acc.toList xc (aw1 az acc.toList (by rw[Array.length_toList,Nh.1]) λj v e=>Nh.2 j v (by rw[←tH]at|-;exact e))
end
end
section
open PySem.SeqAt
section
variable{kindOf:a5->aw v5}{x:a5}
theorem WO{l:af (a5×ar)}:∀{m:a5->aw ar},(∀p∈l,p.1≠x)->bindL kindOf l m x=m x:=by
 induction l with
 |nil=>exactλU=>aa
 |cons p r aI=>
  intro m h
  have h:=i3.mp h
  unfold bindL
  rw[aI h.2]
  split
  ·exact bh (pR h.1)
  ·rfl
theorem WN{l:af (a5×ar)}:∀{m:a5->aw ar},(∀p∈l,p.1≠x)->x3 kindOf l m x=m x:=by
 induction l with
 |nil=>exactλU=>aa
 |cons p r aI=>
  intro m h
  have h:=i3.mp h
  unfold x3
  rw[aI h.2]
  split
  ·rfl
  ·exact bh (pR h.1)
theorem RJ{ns:af a5}{ws:af ar}(h:x∉ns):∀p∈ns.zip ws,p.1≠x:=λp a7 e=>h (aR e (TP (a:=p.1) (b:=p.2) a7).1)
theorem WQ{ns:af a5}:∀{ws:af ar}{i:ae}{w:ar}{m:a5->aw ar},ns.Nodup->ns[i]? =ab x->ws[i]? =ab w->
  (kindOf x=ab .local->bindL kindOf (ns.zip ws) m x=ab w)/\(kindOf x≠ab .local->x3 kindOf (ns.zip ws) m x=ab w):=by
 induction ns with
 |nil=>intro _ _ _ _ _ e;cases e
 |cons n ns aI=>
  intro ws i w m a6 aq e2
  have a6:=pO.mp a6
  rcases ws with _|⟨v,ws⟩
  ·cases e2
  ·rcases i with _|i
   ·cases aq;cases e2
    rw[T1];unfold bindL x3
    exact⟨λaz=>by rw[WO (RJ a6.1),bk az];exact bk rfl,λaz=>by rw[WN (RJ a6.1),bh az];exact bk rfl⟩
   ·rw[T1];unfold bindL x3;exact⟨(aI a6.2 aq e2).1,(aI a6.2 aq e2).2⟩
theorem LR{names:af (a5×v5)}:∀{n:ae}{acc:af (a5×a8)},names.lookup x=ab .cell\/(acc.lookup x).isSome=ak->((cellsFrom n names acc).lookup x).isSome=ak:=by
 induction names with
 |nil=>exactλh=>h.elim nofun id
 |cons p r aI=>
  intro n acc h
  rcases p with⟨y,k⟩
  unfold cellsFrom
  rw[tL]at h
  by_cases az:(k==.cell)=ak
  ·rw[bk az]
   refine aI ?_
   rw[tL]
   by_cases aE:(x==y)=ak
   ·rw[aE];exact .inr aa
   ·rw[mn.mpr aE]at h|-;exact h
  ·rw[bh az]
   by_cases aE:(x==y)=ak
   ·rw[aE]at h;exact aI (h.elim (λe=>aV (by cases e;rfl) az) .inr)
   ·rw[mn.mpr aE]at h;exact aI h
end
section
variable{B:bo}{stk:af Sc}{σ:H}{ρ ρ':fX}{h h':bw}
theorem et.slots{l:af a8}(S:et B stk σ ρ h)(hs:S' l h h')(ax:∀b∈l,∃k,ρ b=ab (.ns k)):et B stk σ ρ h':=by
 have ne:∀b r,ρ b=r->(∀k,r≠ab (.ns k))->eT h h' b:=λb r e q o aO=>(hs.2.1 b λbb=>let⟨k,z⟩:=ax b bb;q k (aR e z)).trans aO
 have ev:=aP.Qv hs
 exact{
  keep:=λb o e=>ne b aj (S.old b o e) nofun o (S.keep b o e)
  old:=S.old
  k7:=λb q=>let⟨o,aO⟩:=S.k7 b q;let⟨dG,e⟩:=hs.2.2 b o aO;⟨_,e⟩
  objs:=λa o e=>(S.objs a o e).but ev (λU U e=>e) (by
   by_cases t0:o.tag=0
   ·rcases B.base _ ((S.objs a o e).old t0)with⟨pe,q⟩;exact ne a aj (S.old a _ q) nofun
   ·exact ne a _ ((S.objs a o e).new t0) (λk z=>by cases z)) λd q=>ne d _ q (λk z=>by cases z)
  ff:=S.ff.but ev (λU U U e=>e) (λU U U e=>e) (λb n m U e⟨o,ao,ep,aO,hd,r⟩=>let⟨dG,dO⟩:=hs.2.2 b o aO;⟨_,ao,ep,dO,hd,r⟩) λc w j x U e=>Cell.il (ne c _ e (λk z=>by cases z))}
theorem oP.MV:∀{stk:af Sc},oP h ρ stk->h.FunFrames {} (lJ stk)/\∀b∈(lJ stk).filterMap (·.frame),∃k,ρ b=ab (.ns k)
 |[],_=>⟨trivial,nofun⟩
 |sc::r,x=>by
  have i:=oP.MV x.2
  unfold lJ at i|-
  by_cases aO:sc.own=ak
  ·rw[J' aO,tM]
   have hf:=x.1.frame aO
   rcases x.1.ns with⟨m,⟨o,ao,ep,aq7,hd,_⟩,_⟩
   refine⟨⟨by rw[x.1.kind];decide,⟨_,o,hf,aa,aq7,λvs q=>by cases hd.symm.trans q⟩,i.1⟩,?_⟩
   rw[List.filterMap_cons,hf]
   exact i3.mpr ⟨⟨_,x.1.role⟩,i.2⟩
  ·rw[List.filter_cons_of_neg aO];exact i
def Sc.at_(sc:Sc)(lm:bf):Sc:={sc with lm:=lm}
theorem aA0{lm:bf}{i j:ae}{v:aw V}{u:V}(e:bf.get (lm.set i v) j=ab u):(j=i/\v=ab u)\/(j≠i/\lm.get j=ab u):=by
 unfold bf.get at e|-
 by_cases z:i=j
 ·cases z
  rw[List.getElem?_set]at e
  simp only[if_true]at e
  split at e
  ·exact .inl ⟨aa,e⟩
  ·cases e
 ·rw[List.getElem?_set_ne z]at e;exact .inr ⟨pR z,e⟩
theorem oO.set{k i:ae}{sc:Sc}{x:a5}{v:aw V}{m':a5->aw ar}(s:oO h ρ k sc)(hi:sc.names[i]? =ab x)(hm:h'.Ns sc.env.locals m')(aE:∀u,v=ab u->r7 h' sc.env m' x u)
  (aQ:∀j y u,y≠x->sc.names[j]? =ab y->sc.lm.get j=ab u->r7 h' sc.env m' y u)(own:∀x,sc.zi x->rV h' ρ sc x (·=k))(free:∀x,sc.isFree x->rV h' ρ sc x (·<k)):oO h' ρ k (sc.at_ (sc.lm.set i v))where
 kind:=s.kind
 globals:=s.globals
 builtins:=s.builtins
 role:=s.role
 nodup:=s.nodup
 frame:=s.frame
 ns:=⟨m',hm,λj y u aq e2=>show r7 h' sc.env m' y u from by
  rcases aA0 e2 with⟨rfl,e⟩|⟨n,e⟩
  ·cases hi.symm.trans aq;exact aE u e
  ·exact aQ j y u (λz=>n (Aa s.nodup _ _ _ aq (aD z hi))) aq e⟩
 own:=own
 free:=free
theorem et.store{sc:Sc}{m:a5->aw ar}{x:a5}{w:aw ar}{v:aw V}{i:ae}(S:et B (sc::stk) σ ρ h)(hm:h.Ns sc.env.locals m)(GF:∀(i:ae)(x:a5)(v:V),sc.names[i]? =ab x->sc.lm.get i=ab v->r7 h sc.env m x v)
  (az:sc.env.kindOf x=ab .local)(hi:sc.names[i]? =ab x)(a4:∀u,v=ab u->∃dX,w=ab dX/\bq h u dX)(dT:h'.Ns sc.env.locals λy=>if y=x then w else m y)(hs:ix sc.env.locals h h'):et B (sc.at_ (sc.lm.set i v)::stk) σ ρ h':=by
 have a:=S.ff.1
 have ev:aP h h':=aP.ns hs hm
 have aK:∀c w j y,ρ c=ab (.cell j y)->h.IsCell c w->h'.IsCell c w:=λc w j y e=>Cell.il (lK hs (qp a.role e nofun))
 refine S.Ae a.role hs (let⟨o,_,_,aO,_⟩:=dT;⟨o,aO⟩) (λb o e=>S.zK a.role hs ev (S.ne a.role e nofun) nofun e) ⟨a.set hi dT (λu e=> ?_) (λj y u n aq e2=> ?_) (λy q=>(a.own y q).but λc j w U r i=>⟨r,aK c w j y r i⟩) λy q=>(a.free y q).but λc j w U r i=>⟨r,aK c w j y r i⟩,?_⟩
 ·rcases a4 u e with⟨dX,rfl,r⟩
  exact .loc dX az (bk rfl) (r.cu ev)
 ·rcases(GF j y u aq e2).but ev (λc w q bF i=>let⟨j',r,_⟩:=a.cell q bF;aK c w j' y r i)with⟨dX,bT,bE,d'⟩|⟨c,dX,bT,bE,d',iq⟩
  ·exact .loc dX bT ((bh n).trans bE) d'
  ·exact .cell c dX bT bE d' iq
 ·exact S.ff.2.but ev (λU U U e=>e) (λU U U e=>e) (λb n m' l e=>Ns.il (lK hs (qp a.role e λz=>by cases z;exact aV l (nN _)))) λc w j y U=>aK c w j y
theorem aP.cell{c:a8}{v:aw ar}(k:ix c h h')(aK:h.IsCell c v):aP h h':=by
 refine b5 aK λo aO hd=> ?_
 exact .data k aO λvs n e=>nomatch hd.symm.trans e
theorem et.aY1{sc:Sc}{x:a5}{w:ar}{v:V}{i:ae}{c:a8}{Rj:aw ar}(S:et B (sc::stk) σ ρ h)(az:sc.zi x)(ax:sc.env.cells.lookup x=ab c)(h0:h.IsCell c Rj)(au:ρ c=ab (.cell stk.length x))(hi:sc.names[i]? =ab x)
  (a4:bq h v w)(dT:h'.IsCell c (ab w))(hs:ix c h h'):et B (sc.at_ (sc.lm.set i (ab v))::stk) σ ρ h':=by
 have a:=S.ff.1
 have ev:aP h h':=aP.cell hs h0
 have OU:∀b k m,ρ b=ab (.ns k)->h.Ns b m->h'.Ns b m:=λb k m e=>Ns.il (lK hs (qp au e nofun))
 have rh:∀jP w j y,ρ jP=ab (.cell j y)->(j≠stk.length\/y≠x)->h.IsCell jP w->h'.IsCell jP w:=λjP w j y e q=>Cell.il (lK hs (qp au e λz=>by cases z;exact q.elim (· rfl) (· rfl)))
 refine b5 a.ns λm hm GF=> ?_
 refine S.Ae au hs (let⟨o,aO,_⟩:=dT;⟨o,aO⟩) (λb o e=>S.zK au hs ev (S.ne au e nofun) nofun e) ⟨a.set hi (OU _ _ _ a.role hm) (λu e=> ?_) (λj y u n aq e2=> ?_) (λy q=> ?_) λy q=>(a.free y q).but λc j w l r i=>⟨r,rh c w j y r (.inl (Ex l)) i⟩,?_⟩
 ·cases e;exact .cell c w (.inl az.2) ax dT (a4.cu ev)
 ·exact(GF j y u aq e2).but ev λc w q bF=>let⟨j',r,_⟩:=a.cell q bF;rh c w j' y r (.inr n)
 ·by_cases z:y=x
  ·cases z;exactλU k=>k c (ab w) _ aa ax dT au
  ·exact(a.own y q).but λc j w U r i=>⟨r,rh c w j y r (.inr z) i⟩
 ·exact S.ff.2.but ev (λU U U e=>e) (λU U U e=>e) (λb n m U=>OU b n m) λc w j y l e=>rh c w j y e (.inl (Ex l))
end
def kP.env(r:kP)(s:bS):hI:=callEnvC r.fd s.heap.objs.size r.addr
def kP.sc(r:kP)(s:bS)(args:af V):Sc:=⟨r.env s,r.names,args.map ab++pP (r.names.length - r.as.length) aj,ak⟩
section
variable{B:bo}{stk:af Sc}{sc:Sc}{c:cS}{A:ea}{s:bS}{σ:H}{E:bR}
def nameOk(x:a5):aB:= !(x==("__debug__":a5))&& !(x==("__classdict__":a5))
theorem aF{a b:aB}(h:(a&&b)=ak):a=ak/\b=ak:=(wd a b).mp h
theorem Hj{b:aB}(h:(!b)=ak):b=av:=by cases b<;>first|rfl|cases h
theorem Om{i:ae}{x:a5}{v:V}{Q:ar->bO}{E:ar->bO}(S:aY B (sc::stk) σ s)(hi:sc.names[i]? =ab x)(a4:sc.lm.get i=ab v)(hd:nameOk x=ak)(q:∀w,bq s.heap v w->Q w s):bg a9 A (loadName sc.env x) Q E s:=
 S _ λρ b9=>by
  have a:=b9.h.ff.1
  refine b5 a.ns λm hm hs=> ?_
  rcases hs i x v hi a4 with⟨w,az,e,au⟩|⟨c,w,az,e,aK,au⟩
  ·exact wpAny_loadName_local a.kind az hm e (q w au)
  ·rcases az with az|az
   ·exact wpAny_loadName_cell a.kind az e aK (q w au)
   ·exact wpAny_loadName_free a.kind az e aK (q w au) (Hj (aF hd).2)
theorem vQ{i:ae}{x:a5}{v:V}{w:ar}{Q:bO}{E:ar->bO}(S:aY B (sc::stk) σ s)(hi:sc.names[i]? =ab x)(az:sc.NT x)(a4:bq s.heap v w)
  (q:∀s',aY B (sc.at_ (sc.lm.set i (ab v))::stk) σ s'->aP s.heap s'.heap->Q s'):bg a9 A (storeName sc.env x w) (λU s'=>Q s') E s:=
 S _ λρ b9=>by
  have a:=b9.h.ff.1
  rcases az with az|az
  ·refine b5 a.ns λm hm hs=> ?_
   exact wpAny_storeName_local az hm (λh' dT bY=>q _ (eu.sim ⟨b9.h.store (w:=ab w) hm hs az hi (λu e=>by cases e;exact⟨w,aa,a4⟩) dT bY,b9.os,b9.gens⟩) (aP.ns bY hm)) (by rw[a.kind];rfl)
  ·refine a.own x az _ λc Rj j p e aK au=> ?_
   cases p
   exact wpAny_storeName_cell a.kind az.2 e aK λh' dT bY=>q _ (eu.sim ⟨b9.h.aY1 az e aK au hi a4 dT bY,b9.os,b9.gens⟩) (aP.cell bY aK)
structure qP(r:kP):Prop where
 at_:X.h₀.get? r.addr=ab r.obj
 data:r.obj.data=.func r.fd
 bind:∀ws:af ar,ws.length=r.as.length->bindArgs r.fd ⟨ws,[]⟩=br ((r.as.map (·.arg)).zip ws)
 body:r.fd.body=.stmts r.body
 LU:r.fd.closure=[]
 globals:r.fd.globals=x7
 builtins:r.fd.builtins=Ay
 code:X.h₀.CodeRec r.fd.code r.fd.qualname
 co:r.fd.scope.isCoroutine=av
 gen:r.fd.scope.isGenerator=av
 kind:r.fd.scope.kind=.function
 names:r.names.take r.as.length=r.as.map (·.arg)
 nodup:r.names.Nodup
 sorts:∀x∈r.as.map (·.arg),r.fd.scope.names.lookup x=ab .local\/r.fd.scope.names.lookup x=ab .cell
 OS:∀x,r.fd.scope.names.lookup x≠ab .free
theorem az8{l:af V}{k i:ae}{v:V}(h:bf.get (l.map ab++pP k aj) i=ab v):l[i]? =ab v:=by
 unfold bf.get at h
 rw[List.getElem?_append]at h
 split at h
 ·rw[lV]at h
  rcases z:l[i]? with _|u
  ·rw[z]at h;cases h
  ·rw[z]at h;exact h
 ·rw[TB]at h
  split at h<;>cases h
def ux(ρ:fX)(k L:ae)(cs:af (a5×a8)):fX:=λb=>if b=L then ab (.ns k)else match cs.find? (λp=>p.2==b&&cs.lookup p.1==ab b)with
  |some p=>ab (.cell k p.1)
  |none=>ρ b
theorem Fu{ρ:fX}{k L:ae}{cs:af (a5×a8)}(b:a8):(b=L/\ux ρ k L cs b=ab (.ns k))\/(∃n,cs.lookup n=ab b/\ux ρ k L cs b=ab (.cell k n))\/((∀n,cs.lookup n≠ab b)/\b≠L/\ux ρ k L cs b=ρ b):=by
 unfold ux
 by_cases z:b=L
 ·exact .inl ⟨z,bk z⟩
 ·rw[bh z]
  right
  cases q:(cs.find? (λp=>p.2==b&&cs.lookup p.1==ab b))with
  |none=>
   refine .inr ⟨λn e=> ?_,z,aa⟩
   have:=List.find?_eq_none.mp q (n,b) (pE e)
   simp[e]at this
  |some p=>exact .inl ⟨p.1,beq_iff_eq.mp (aF (List.find?_some (p:=λp:a5×a8=>p.2==b&&cs.lookup p.1==ab b) q)).2,aa⟩
theorem Ye{r:kP}{args:af V}{ws:af ar}{dW:bS}(O:qP r)(S:aY B stk σ s)(au:b7 s.heap args ws)(ao2:args.length=r.as.length)
  (I:InCallC s (r.env s).locals (bindL (r.env s).kindOf ((r.as.map (·.arg)).zip ws) λU=>aj) (r.env s).cells (x3 (r.env s).kindOf ((r.as.map (·.arg)).zip ws) λU=>aj) dW):aY B (r.sc s args::stk) σ dW/\aP s.heap dW.heap:=by
 rcases I with⟨⟨⟨h',tk,rfl⟩,BS,Nu,bn4⟩,Gs,ao0,an4⟩
 have Gx:aP s.heap h':=aP.keeps Nu
 refine⟨S _ λρ b9=> ?_,Gx⟩
 have ku:∀{b},s.heap.objs.size<=b->s.heap.get? b=aj/\ρ b=aj:=λbb=>⟨iR bb,(b9.h.none_of (iR bb)).2⟩
 have aK:∀{n c},(r.env s).cells.lookup n=ab c->s.heap.objs.size<c:=λe=>an4 _ _ (pE e)
 have ap0:∀{n c},(r.env s).cells.lookup n=ab c->ux ρ stk.length s.heap.objs.size (r.env s).cells c=ab (.cell stk.length n):=λ{n c} e=>by
  rcases Fu (ρ:=ρ) (k:=stk.length) (L:=s.heap.objs.size) (cs:=(r.env s).cells) c with⟨z,_⟩|⟨xm,dO,z⟩|⟨z,_⟩
  ·exact aV (aK e) (aR z (nN _))
  ·rw[z,name_of_addr ao0 (pE dO) (pE e)]
  ·exact aV e (z n)
 have er:et B stk σ (ux ρ stk.length s.heap.objs.size (r.env s).cells) h':=b9.h.grow Nu (λb q e=>by
  have bb:¬ s.heap.objs.size<=b:=λz=>nomatch (ku z).2.symm.trans e
  rcases Fu (ρ:=ρ) (k:=stk.length) (L:=s.heap.objs.size) (cs:=(r.env s).cells) b with⟨z,_⟩|⟨xm,dO,_⟩|⟨_,_,z⟩
  ·exact aV (eK z.symm) bb
  ·exact aV (jk (aK dO)) bb
  ·exact z.trans e) (λb e=>by
  rcases Fu (ρ:=ρ) (k:=stk.length) (L:=s.heap.objs.size) (cs:=(r.env s).cells) b with⟨z,_⟩|⟨xm,dO,_⟩|⟨_,_,z⟩
  ·refine kj BS λo U U aO U=> ?_;exact .inr ⟨b9.h.free (ku (eK z.symm)).1,o,aD z aO⟩
  ·refine b5 (Gs _ _ dO) λo aO U=> ?_;exact .inr ⟨b9.h.free (ku (jk (aK dO))).1,o,aO⟩
  ·exact .inl (aR z e)) λa o e=>.inl e
 have cell:∀{x},(r.env s).kindOf x=ab .cell->∃c,(r.env s).cells.lookup x=ab c:=λq=>EA.mp (LR (n:=s.heap.objs.size+1) (acc:=[]) (.inl q))
 refine eu.sim (ρ:=ux ρ stk.length s.heap.objs.size (r.env s).cells) ⟨{er with ff:=⟨?_,er.ff⟩},b9.os,b9.gens⟩
 exact{
  kind:=O.kind
  globals:=O.globals
  builtins:=O.builtins
  role:=bk rfl
  nodup:=O.nodup
  frame:=λU=>aa
  ns:=by
   refine⟨_,BS,λi x v aq e2=> ?_⟩
   have bF:=az8 e2
   have hi:i<r.as.length:=aR ao2 (mr.mp bF).1
   have eO:(r.as.map (·.arg))[i]? =ab x:=by rw[←O.names,List.getElem?_take_of_lt hi]at|-;exact aq
   refine b5 (au.get bF) λw e5 hw=> ?_
   have g:=WQ (kindOf:=(r.env s).kindOf) (m:=λU=>aj) (show(r.as.map (·.arg)).Nodup by rw[←O.names];exact O.nodup.sublist (List.take_sublist _ _)) eO e5
   rcases O.sorts x (List.mem_of_getElem? eO)with az|az
   ·exact .loc w az (g.1 az) (hw.cu Gx)
   ·rcases cell az with⟨c,aK⟩
    exact .cell c w (.inl az) aK (aR (g.2 (λz=>by cases az.symm.trans z)) (Gs x c aK)) (hw.cu Gx)
  own:=λx q=>let⟨c,e⟩:=cell q.2;λU k=>k c _ _ aa e (Gs x c e) (ap0 e)
  free:=λx q=>q.elim (λz=>aV z (O.OS x)) λz=>nomatch z.1}
end
end
section
open PySem.SeqAt
section
variable{B:bo}{stk:af Sc}{sc:Sc}{c:cS}{A:ea}{s:bS}{σ:H}{ρ:fX}{E:bR}{h h' h₀ cv:bw}{m m':Mark}{e:ae}
theorem Q9{a:ae}{o:O}(e:σ a=ab o):aC σ a o=σ:=funext λb=>by
 unfold aC
 by_cases z:b=a
 ·rw[bk z,z,e]
 ·exact bh z
theorem aP.fields{t:a8}{o:bj}{vs:dC ar}(k:ix t h h')(aO:h.get? t=ab o)(hd:o.data=.fields vs):aP h h':=.data k aO λU U e=>nomatch hd.symm.trans e
abbrev vM(i:ae)(v:ar):bj->bj:=Obj.mapFields (·.setIfInBounds i v)
theorem Ip{t i:ae}{v:ar}{o:bj}{vs:dC ar}(aO:h.get? t=ab o)(hd:o.data=.fields vs):
  ix t h (h.update t (vM i v))/\(h.update t (vM i v)).get? t=ab (vM i v o)/\(vM i v o).data=.fields (vs.setIfInBounds i v)/\aP h (h.update t (vM i v)):=
 have bY:=tJ h t (vM i v)
 have jw:=Obj.data_mapFields hd (·.setIfInBounds i v)
 ⟨bY,yi _ aO (Obj.isFreed_of_fields jw),jw,.fields bY aO hd⟩
theorem Lx{vs:dC ar}{i:ae}{x v:ar}(e:vs[i]? =ab x):(vs.setIfInBounds i v)[i]? =ab v:=by
 rw[Array.getElem?_setIfInBounds_self,bk (D5.mp e).1]at|-
theorem Bf{vs:dC ar}{i j:ae}{v:ar}(n:i≠j):(vs.setIfInBounds i v)[j]? =vs[j]? :=Array.getElem?_setIfInBounds_ne n
theorem kR.aD5{C t:ae}{fs:af (ae×V)}{r:nT}{c3:bj}{v:ar}(x:kR B h ρ e ⟨t,.e C fs r⟩)(aS:t≠0)(au:r≠.made)(bY:ix e h h')(g1:h.get? e=ab c3)(cE:h'.get? e=ab (vM 1 v c3))(ev:aP h h'):kR B h' ρ e ⟨t,.e C fs r⟩:=
 ⟨x.new,x.old,λU P=>x.rep _ λc od vs dG aq e2 bF eO e5 sg=>P c od (vs.setIfInBounds 1 v) dG aq (by cases g1.symm.trans e2;exact cE)
  (bF.but ev λd q=>⟨q,lK bY λz=>nomatch (z▸q).symm.trans (x.new aS)⟩) eO e5 (by
   rcases r with _|_|_
   ·exact aV rfl au
   ·exact(Bf ai).trans sg
   ·trivial)⟩
theorem hM.head{v:ar}(a4:m'.val=v)(h:hM B stk m h₀ E e s)(hm:m≠.made)(BQ:m'≠.made)(P:Prop)
  (k:∀t c3 vs fZ cF,s.heap.get? e=ab c3->c3.data=.fields vs->vs[1]? =ab (.ref t)->s.heap.get? t=ab fZ->fZ.data=.fields cF->cF[3]? =ab m.val->
   (∀{W:h8->bO}{F:ar->bO},(∀s',hM B stk m' h₀ E e s'->W () s')->bg a9 A (DO (.ref t) 3 v) W F s)->P):P:=
 h _ λσ ρ ot C fs r b9 he aS au x d f=>x _ λc3 vs jn g1 g2 g3 U e8=>by
  refine I2 (e8 hm) λt fZ cF fY ik k0 ny rl oa=> ?_
  refine k t c3 vs fZ cF g1 g2 fY ny rl oa λw=>JA ny rl (D5.mp oa).1 (w _ ?_)
  refine bf8 (Ip (i:=3) (v:=v) ny rl) λbY cE hd ev=> ?_
  exactλU P=>P σ ρ ot C fs r ⟨b9.h.aD4 k0 bY ⟨_,cE⟩ ev,b9.os,b9.gens⟩ he aS au
   (λU P=>P c3 vs jn ((bY.2 e ik.symm).trans g1) g2 g3 (λz=>aV z BQ) λU=>⟨t,_,_,fY,ik,k0,cE,hd,aR a4 (Lx oa)⟩) (d.trans ev) f
theorem H8{t:a8}:(my t != rT)=ak:=aa
theorem xK{fr:aw a8}{Q:h8->bO}{F:ar->bO}(a4:m'.val=fr.elim .none λf=>j7 f)(h:hM B stk m h₀ E e s)(hm:m≠.made)(BQ:m'≠.made)(q:∀s',hM B stk m' h₀ E e s'->Q () s'):bg a9 A (setFlight (.ref e) fr) Q F s:=
 h.head a4 hm BQ _ λU U U U U g1 g2 fY U U U w=>aN (jF g1 g2 fY (aD (bk H8) (w q)))
theorem Mi{head:ar}{b:aB}{Q:h8->bO}{F:ar->bO}(aO:sc.own=ak)(o6:A.frames=ab (lJ (sc::stk)))(h:hM B (sc::stk) m h₀ E e s)(q:∀s',hM B (sc::stk) (.held sc.env.locals) h₀ E e s'->Q () s'):
  bg a9 A (do let a←frameOf sc.env;let pl←entryPlaceOf sc.env.locals b;let b←bj4 head a .none (j7 sc.env.locals) .none pl;DO (.ref e) 1 b) Q F s:=
 h _ λσ ρ ot C fs r b9 he aS au x d f=>x _ λc3 vs jn g1 g2 g3 Gh e8=>by
  have ap7:lJ (sc::stk)=sc.env::lJ stk:=by unfold lJ;rw[J' aO,tM]
  have ar0:ρ e=ab .obj:=(b9.h.objs e _ he).new aS
  have w5:=b9.h.ff.MV
  rw[ap7]at w5 o6
  have kv:∃u,vs[1]? =ab u:=by
   by_cases z:m=.made
   ·exact⟨_,Gh z⟩
   ·exact(e8 z).elim λU y=>⟨_,y.choose_spec.choose_spec.1⟩
  rcases kv with⟨u,dm⟩
  refine aN (wpAny_frameOf_fun o6 w5.1 (b9.h.ff.1.frame aO) λh1 zg=>aN (wpAny_entryPlaceOf λpl vf=>aN (DY ?_ (vf.sizeOk5 _ _ _ _ _))))
  have ge1:h1.get? e=ab c3:=(zg.2.1 e λhm=>(w5.2 e hm).elim λU z=>nomatch ar0.symm.trans z).trans g1
  have K2:=(b9.h.slots zg w5.2).grow (ρ':=setR ρ h1.objs.size .xO) (mP ({cls:=.type "traceback",dict:=aj,data:=.fields ([head,.ref sc.env.locals,.none,j7 sc.env.locals,.none]++(if pl.isEmpty then pP 6 rT else pl)).toArray}:bj))
   (oq ((b9.h.slots zg w5.2).none_of (iR (da _))).2) (λb q=>(vO q).imp id λ(z:b=h1.objs.size)=>⟨aD z ((b9.h.slots zg w5.2).free (iR (da _))),_,aD z (lr _ aa)⟩) λa o=>.inl
  refine JA (iJ _ ge1) g2 (D5.mp dm).1 (q _ ?_)
  rcases Ip (i:=1) (v:=.ref h1.objs.size) (iJ _ ge1) g2 with⟨bY,cE,hd,ev⟩
  have K3:=K2.mod (o':=⟨ot,.e C fs r⟩) he aS bY ⟨_,cE⟩ ev ((K2.objs e _ he).aD5 aS au bY (iJ _ ge1) cE ev)
  rw[Q9 he]at K3
  exactλU P=>P σ _ ot C fs r ⟨K3,b9.os,b9.gens⟩ he aS au (λU P=>P _ _ jn cE hd ((Bf ai).trans g3) nofun λU=>
   ⟨_,_,_,Lx dm,Ew (rM ge1),vN,(bY.2 _ (Ew (rM ge1))).trans (lr _ aa),aa,aa⟩) (d.trans ((aP.Qv zg).trans ((aP.push _ _).trans ev))) f
def FS(c:cS)(sc:Sc)(h₀:bw)(P:bf->H->Prop)(s:bS):Prop:=∀C:Prop,(∀lm σ,aY c.B (sc.at_ lm::c.stk) σ s->aP h₀ s.heap->P lm σ->C)->C
def lz(c:cS)(sc:Sc)(h₀:bw)(k:cT)(f:jE)(s:bS):Prop:=match f with
 | .next=>FS c sc h₀ k.n s
 | .cont=>FS c sc h₀ k.c s
 | .ret v=>FS c sc h₀ (λU σ=>∃u,bq s.heap u v/\k.r u σ) s
 | .brk=>dg
def hK(c:cS)(sc:Sc)(h₀:bw)(k:cT)(x:ar)(s:bS):Prop:=∀C:Prop,(∀lm,gE (c.on (sc.at_ lm)) h₀ (λe σ=>k.x e lm σ) x s->C)->C
def oQ(c:cS)(sc:Sc)(h₀:bw)(t:fq jE)(k:cT)(s:bS):Prop:=bg a9 c.A t (lz c sc h₀ k) (hK c sc h₀ k) s
def AW(c:cS)(h₀:bw)(t:v3)(Q:bQ)(E:bR)(s:bS):Prop:=
 nG a9 c.A t (λr s'=>match r with| .ok (.ret v)=>eU c bq h₀ Q v s'| .ok _=>dg| .error e=>gE c h₀ E e s') s
theorem AW.Rq{f:ar}{ws:af ar}{Q:bQ}(h:AW c h₀ (.call f ⟨ws,[]⟩) Q E s):dp c bq h₀ (hq f ws []) Q E s:=ya h
def A1(hd:aw ae)(n:ae)(F:cy):Prop:=
 ∀(c:cS)(f:ae)(args:af V)(ws:af ar)(σ:H)(Q:bQ)(E:bR)(s:bS),
  F f args σ Q E->ly c.A hd n 1 c.stk->aY c.B c.stk σ s->b7 s.heap args ws->∃r,so f=ab r/\qP r/\AW c s.heap (.call (.ref r.addr) ⟨ws,[]⟩) Q E s
def cS.deep(c:cS)(e:hI):cS:=⟨c.B,c.stk,c.A.deeper e⟩
theorem ly.deeper{hd:aw ae}{n:ae}(a:ly A hd (n+1) 1 stk)(aO:sc.own=ak):ly (A.deeper sc.env) hd n 4 (sc::stk)where
 handled:=a.handled
 frames:=by
  show A.frames.map _=_
  rw[a.frames];unfold lJ;rw[J' aO];rfl
 depth:=(Nat.succ_add A.depth (4*n)).symm▸(show A.depth+4*n+1+4<=Sh from a.depth)
 units:=aX ((yn A.units 3 (40*n)).symm▸gC (by decide:43<=50) (A.units+40*n)) a.units
theorem frs_at(lm:bf):lJ (sc.at_ lm::stk)=lJ (sc::stk):=by
 unfold lJ
 rw[wi,wi]
 show En _ (if sc.own=ak then _ else _)=_
 by_cases z:sc.own=ak
 ·rw[bk z,bk z];rfl
 ·rw[bh z,bh z]
theorem eu.pop(S:eu B (sc::stk) σ ρ s):eu B stk σ ρ s:=⟨{S.h with ff:=S.h.ff.2},S.os,S.gens⟩
theorem aY.pop(S:aY B (sc::stk) σ s):aY B stk σ s:=S _ λU S=>S.pop.sim
theorem zH{Q:h8->bO}{F:ar->bO}(aO:sc.own=ak)(o6:A.frames=ab (lJ (sc::stk)))(h:hM B (sc::stk) m h₀ E e s)(hm:m=.made\/m=.flying\/m=.held sc.env.locals)
  (q:∀s',hM B (sc::stk) (.held sc.env.locals) h₀ E e s'->Q () s'):bg a9 A (DM (.ref e) sc.env) Q F s:=by
 have hf:sc.env.frame=ab sc.env.locals:=h _ λσ ρ ot C fs r b9 U U U U U U=>b9.h.ff.1.frame aO
 unfold DM
 rw[hf]
 rcases hm with rfl|rfl|rfl
 ·exact h _ λσ ρ ot C fs r b9 he aS au x d f=>x _ λc3 vs jn g1 g2 g3 Gh e8=>aN (jF g1 g2 (Gh aa) (Mi aO o6 h q))
 ·exact h.head (m':=.flying) aa nofun nofun _ λU U U U U g1 g2 fY ik k0 ny w=>aN (jF g1 g2 fY (aD (bk H8) (aN (jF ik k0 ny (aN (w λs' h'=>Mi aO o6 h' q))))))
 ·exact h.head (A:=A) (m':=.flying) aa nofun nofun _ λU U U U U g1 g2 fY ik k0 ny U=>aN (jF g1 g2 fY (bk H8▸aN (jF ik k0 ny ((bk (jG (j7 sc.env.locals))).symm▸bI (q _ h)))))
theorem aA7{Q:h8->bO}{F:ar->bO}{x:ar}(aO:sc.own=ak)(o6:A.frames=ab (lJ (sc::c.stk)))(h:gE (c.on sc) h₀ E x s)(q:∀s',gE c h₀ E x s'->Q () s'):bg a9 A («leaving» sc.env x) Q F s:=
 h _ λe m aE hm h1=>aD aE (aN (zH aO o6 h1 hm λs1 h1=>xK (m':=.flying) aa h1 nofun nofun λs2 h2=>q s2 (aD aE λU k=>k e .flying aa (.inr (.inl aa)) (λU k=>h2 _ λσ ρ ot C fs r b9=>k σ ρ ot C fs r b9.pop))))
theorem aC0{α β:Type}{l:af α}{m:af β}{x:α×β}(h:x∈l.zip m):x.1∈l:=(TP (a:=x.1) (b:=x.2) h).1
theorem W7{r:kP}{hd:aw ae}{n:ae}{args:af V}{ws:af ar}{Q:bQ}(K:X.Ok)(O:qP r)(a:ly c.A hd (n+1) 1 c.stk)(S:aY c.B c.stk σ s)(au:b7 s.heap args ws)(ax:args.length=r.as.length)
  (h:∀dW,aY c.B (r.sc s args::c.stk) σ dW->ly (c.deep (r.env s)).A hd n 4 (r.sc s args::c.stk)->
   oQ (c.deep (r.env s)) (r.sc s args) dW.heap (v9 r.body (r.env s)) ⟨λU σ=>Q .n σ,λU U=>dg,Q,λe U σ=>E e σ⟩ dW):
  AW c s.heap (.call (.ref r.addr) ⟨ws,[]⟩) Q E s:=by
 have xb:=S.base
 have e0:=a.deeper (sc:=r.sc s args) aa
 refine codeAny_call_cells (fd:=r.fd) (body:=r.body) (binds:=(r.as.map (·.arg)).zip ws) (fT (d7 (en _ _) (kM _)) a.depth) (xb _ _ O.at_) O.data (K.nolimit.keeps xb) (O.code.keeps xb) O.body
  (O.bind ws (au.length.trans ax)) O.LU (λx aE=>(O.sorts x.1 (aC0 aE)).imp id λaz=>⟨az,LR (.inl az)⟩) (λdW I=> ?_) O.co O.gen O.kind
 rcases Ye O S au ax I with⟨b9,ev⟩
 refine dH (h dW b9 e0) (λf s' hf=> ?_) λx s' aE=>aE _ λlm a7=>aA7 (sc:=(r.sc s args).at_ lm) aa (aR (frs_at lm) e0.frames) a7 λs2 h2=>h2.lift ev
 rcases f with _|_|_|v
 ·exact hf _ λlm ah er dO q=>.mk (a:=.n) aa er.pop (ev.trans dO) q
 ·exact hf.elim
 ·exact hf _ λlm ah er dO q=>q.elim
 ·exact hf _ λlm ah er dO q=>q.elim λu q=>.mk q.1 er.pop (ev.trans dO) q.2
end
end
section
open PySem.SeqAt
def Bh:qJ->ar
 | .l=>.builtin "len"
 | .L=>.type "list"
 | .t=>.type "tuple"
 | .s=>.builtin "sorted"
 | .m=>.builtin "min"
def Ih:Src->ar
 | .i=>.none
 | .r| .down=>.type "range"
 | .e=>.type "enumerate"
 | .rev=>.type "reversed"
mutual
theorem V.beq_eq:∀{x y:V},V.beq x y=ak->x=y
 | .n,y,h=>by cases y<;>first|rfl|cases h
 | .b x,y,h=>by cases y<;>first|exact aU V.b (beq_iff_eq.mp h)|cases h
 | .i x,y,h=>by cases y<;>first|exact aU V.i (ft h)|cases h
 | .s x,y,h=>by cases y<;>first|exact aU V.s (ft h)|cases h
 | .r x,y,h=>by cases y<;>first|exact aU V.r (ft h)|cases h
 | .t x,y,h=>by cases y<;>first|exact aU V.t (V.LC h)|cases h
theorem V.LC:∀{x y:af V},V.Fb x y=ak->x=y
 |[],y,h=>by cases y<;>first|rfl|cases h
 |x::l,y,h=>by
  rcases y with _|⟨y,m⟩
  ·cases h
  ·rw[V.beq_eq (aF h).1,V.LC (aF h).2]
end
structure qU where
 k:ae
 p:el
 ao:af bU
 x:a5
 c:xZ
 n:ae
 op:tv
 cs:af Ap
 os:af (aw bU)
 sc:pC
def dead:bU:=.Name "" qz
def cx(k:ae)(p:el)(ao:af bU:=[])(x:a5:="")(c:xZ:=.none)(n:ae:=0)(op:tv:=.Add)(cs:af Ap:=[])(os:af (aw bU):=[])(sc:pC:=qz):qU:=⟨k,p,ao,x,c,n,op,cs,os,sc⟩
def jV:qU:=cx 0 qz
def bB(r:bU):qU:=r.casesOn
 (λo vs p=>match vs with|x::y::r=>cx (match o with| .And=>4| .Or=>5) p (x::y::r)|_=>jV) (λU U U=>jV)
 (λl o r p=>cx 6 p [l,r] (op:=o))
 (λo e p=>match o with| .USub=>cx 3 p [e]| .Not=>cx 15 p [e]|_=>jV)
 (λU U U U=>jV) (λc a b p=>cx 16 p [c,a,b])
 (λeg vs p=>cx 12 p vs (os:=eg)) (λU U U=>jV)
 (λe jv s p=>match jv with|[⟨t,i,cs,z⟩]=>bif z==0 then cx 14 p (e::t::i::cs) (sc:=s)else jV|_=>jV)
 (λU U U U=>jV) (λU U U U U=>jV) (λU U U U=>jV) (λU U=>jV) (λU U=>jV) (λU U=>jV)
 (λl os rs p=>match rs with|[r]=>cx 7 p [l,r] (cs:=os)|[a0,bX]=>cx 17 p [l,a0,bX] (cs:=os)|_=>jV)
 (λf as eg p=>match eg with|[]=>cx 13 p (f::as)|_=>jV)
 (λU U U U=>jV) (λU U=>jV)
 (λc n p=>cx 1 p (c:=c) (n:=n))
 (λr x p=>cx 8 p [r] x) (λr i p=>cx 9 p [r,i]) (λU U=>jV) (λx p=>cx 2 p [] x)
 (λao p=>cx 11 p ao) (λao n p=>cx 10 p ao (n:=n))
 (λa b c p=>match a,b,c with|aj,ab e,aj=>cx 18 p [e]|ab e,aj,aj=>cx 19 p [e]|aj,aj,ab e=>cx 20 p [e]|_,_,_=>jV)
def qU.e(d:qU)(i:ae):bU:=d.ao.getD i dead
def vI(k:ae)(d:qU):bU:=[dead,.Constant d.c d.n d.p,.Name d.x d.p,.UnaryOp .USub (d.e 0) d.p,.BoolOp .And (d.e 0::d.e 1::d.ao.drop 2) d.p,.BoolOp .Or (d.e 0::d.e 1::d.ao.drop 2) d.p,.BinOp (d.e 0) d.op (d.e 1) d.p,
 .Compare (d.e 0) d.cs [d.e 1] d.p,.Attribute (d.e 0) d.x d.p,.Subscript (d.e 0) (d.e 1) d.p,.Tuple d.ao d.n d.p,.List d.ao d.p,.Dict d.os d.ao d.p,.Call (d.e 0) (d.ao.drop 1) [] d.p,.ListComp (d.e 0) [⟨d.e 1,d.e 2,d.ao.drop 3,0⟩] d.sc d.p,
 .UnaryOp .Not (d.e 0) d.p,.IfExp (d.e 0) (d.e 1) (d.e 2) d.p,.Compare (d.e 0) d.cs [d.e 1,d.e 2] d.p,.Slice aj (ab (d.e 0)) aj d.p,.Slice (ab (d.e 0)) aj aj d.p,.Slice aj aj (ab (d.e 0)) d.p].getD k dead
structure Plain(r:bU):Prop where
 ps:vI (bB r).k (bB r)=r
 star:∀rs env,qD (r::rs) env=(av,hr r env)::qD rs env
 marks:∀op,Ax op r=av
 base:(bB r).k≠13->∀x env w,DF r x env w=w
 swap:(bB r).k≠14->∀t line env,swapsWith r t line env=br av
 stores:(bB r).k≠10->∀ao n p env,Sl [.Tuple ao n p] r env=br aj
 fold:∀env x,foldedSetIterable r env x=br x
 aug:dy (bB r).k 18=ak->∀vD BZ new,augStore r vD BZ new=(do DL [new,vD,BZ] (x8 vD BZ new);release [new,vD,BZ] [];br .next)
theorem plain{r:bU}(h:(bB r).k≠0):Plain r:=by
 cases r<;>first
  |exact aV rfl h
  |exact⟨aa,λU U=>aa,λU=>aa,λU U U U=>aa,λU U U U=>aa,λU U U U U=>aa,λU U=>aa,λU U U U=>aa⟩
  |exact⟨aa,λU U=>aa,λU=>aa,λU U U U=>aa,λU U U U=>aa,λn=>aV rfl n,λU U=>aa,λU U U U=>aa⟩
  |skip
 ·rename_i o vs p
  rcases vs with _|⟨x,_|⟨y,r⟩⟩<;>first|exact aV rfl h|exact⟨by cases o<;>rfl,λU U=>aa,λU=>aa,λU U U U=>aa,λU U U U=>aa,λU U U U U=>aa,λU U=>aa,λU U U U=>aa⟩
 ·rename_i o e p
  cases o<;>first|exact aV rfl h|exact⟨aa,λU U=>aa,λU=>aa,λU U U U=>aa,λU U U U=>aa,λU U U U U=>aa,λU U=>aa,λU U U U=>aa⟩
 ·rename_i e jv sc p
  rcases jv with _|⟨⟨t,i,cs,z⟩,_|_⟩<;>first|exact aV rfl h|skip
  rcases cV:z==0 with _|_
  ·exact aV (show(bif z==0 then cx 14 p (e::t::i::cs) (sc:=sc)else jV).k=0 by rw[cV];rfl) h
  ·cases beq_iff_eq.mp cV;exact⟨aa,λU U=>aa,λU=>aa,λU U U U=>aa,λn=>aV rfl n,λU U U U U=>aa,λU U=>aa,λU U U U=>aa⟩
 ·rename_i l os rs p
  rcases rs with _|⟨a,_|⟨b,_|_⟩⟩<;>first|exact aV rfl h|exact⟨aa,λU U=>aa,λU=>aa,λU U U U=>aa,λU U U U=>aa,λU U U U U=>aa,λU U=>aa,λU U U U=>aa⟩
 ·rename_i f as eg p
  cases eg<;>first|exact aV rfl h|exact⟨aa,λU U=>aa,λU=>aa,λn=>aV rfl n,λU U U U=>aa,λU U U U U=>aa,λU U=>aa,λU U U U=>aa⟩
 ·rename_i a b c p
  cases a<;>cases b<;>cases c<;>first|exact aV rfl h|exact⟨aa,λU U=>aa,λU=>aa,λU U U U=>aa,λU U U U=>aa,λU U U U U=>aa,λU U=>aa,λn=>aV n d6⟩
abbrev fK:=af (a5×v5)
def gh(aT:fK)(x:a5):aB:=nameOk x&&aT.lookup x==ab .globalImplicit
def G.is:G->G->aB
 | .fn a,.fn b=>a==b
 | .cls a,.cls b=>a==b
 | .val a,.val b=>V.beq a b
 | .bi a,.bi b=>a.ctorIdx==b.ctorIdx
 | .src a,.src b=>a.ctorIdx==b.ctorIdx
 |_,_=>av
theorem G.au2{a b:G}(h:G.is a b=ak):a=b:=by
 cases a<;>cases b<;>first|exact aV h d6|exact aU _ (beq_iff_eq.mp h)|exact aU _ (V.beq_eq h)|skip
 ·rename_i a b;cases a<;>cases b<;>first|rfl|exact aV h d6
 ·rename_i a b;cases a<;>cases b<;>first|rfl|exact aV h d6
def jy(g:G)(x:a5):aB:=match hT.lookup x with|ab h=>G.is g h|aj=>av
theorem jy.dest{g:G}{x:a5}(h:jy g x=ak):hT.lookup x=ab g:=by
 unfold jy at h
 rcases e:hT.lookup x with _|k
 ·rw[e]at h;cases h
 ·rw[e]at h;exact aU ab (G.au2 h).symm
def isName(r:bU)(P:a5->aB):aB:=(bB r).k==2&&P (bB r).x
def vi(r:bU)(k:ag):aB:=bif (bB r).k==3 then(bB ((bB r).e 0)).k==1&&decide ((bB ((bB r).e 0)).c=.int (-k))&&decide (k<0)else(bB r).k==1&&decide ((bB r).c=.int k)&&decide (0<=k)
def vP(aT:fK)(s:Src)(r:bU):aw (af bU):=match s with
 | .i=>ab [r]
 | .down=>bif (bB r).k==13&&isName ((bB r).e 0) λx=>gh aT x&&jy (.src .r) x then ab ((bB r).ao.drop 1)else aj
 |s=>bif (bB r).k==13&&isName ((bB r).e 0) λx=>gh aT x&&jy (.src s) x then ab ((bB r).ao.drop 1)else aj
def n7(aT:fK)(x:a5):aB:=aT.lookup x==ab .local||aT.lookup x==ab .cell
def oY(sn:af a5)(aT:fK):af ae->af bU->aB
 |[],[]=>ak
 |n::ns,r::ao=>isName r (λx=>sn[n]? ==ab x&&n7 aT x)&&oY sn aT ns ao
 |_,_=>av
def Ab(sn:af a5)(aT:fK)(ns:af ae)(r:bU):aB:=bif (bB r).k==2 then oY sn aT ns [r]else(bB r).k==10&&decide (2<=ns.length)&&oY sn aT ns (bB r).ao
def Ac(r:bU):af a5:=bif (bB r).k==2 then[(bB r).x]else(bB r).ao.map λr=>(bB r).x
def Bp(aT:fK)(cF fs:af a5)(ns:fK):aB:=decide ((cF++fs).Nodup)&&fs.all (λx=>aT.lookup x==ab .cell||aT.lookup x==ab .free)&&fs.all (λx=>ns.lookup x==ab .free)&&
 ns.all (λp=>p.2==.local||p.2==.globalImplicit||(p.2==.free&&fs.contains p.1))&&decide ((ns.map (·.1)).Nodup)
def oV(o:BoolOp)(y:bU)(rest:af bU)(pos:el):bU:=match rest with|[]=>y|_=>.BoolOp o (y::rest) pos
def L8:tZ->aB
 | .t=>av
 |_=>ak
def ed(f:qU->aB)(r:bU):aB:=(bB r).k != 0&&f (bB r)
mutual
noncomputable def ec(sn:af a5)(aT:fK):aW->qU->aB
 | .n,d=>d.k==1&&decide (d.c=.none)
 | .b b,d=>d.k==1&&decide (d.c=.bool b)
 | .i i,d=>d.k==1&&decide (d.c=.int i)
 | .g i,d=>d.k==3&&((bB (d.e 0)).k==1&&decide ((bB (d.e 0)).c=.int i))
 | .s n,d=>d.k==1&&(match d.c with| .str x=>lP[n]? ==ab x|_=>av)
 | .c v,d=>d.k==2&&(gh aT d.x&&jy (.val v) d.x)
 | .l n,d=>d.k==2&&(nameOk d.x&&sn[n]? ==ab d.x)
 | .N e,d=>d.k==15&&ed (ec sn aT e) (d.e 0)
 | .A a b,d=>d.k==4&&(ed (ec sn aT a) (d.e 0)&&ed (ec sn aT b) (oV .And (d.e 1) (d.ao.drop 2) d.p))
 | .O a b,d=>d.k==5&&(ed (ec sn aT a) (d.e 0)&&ed (ec sn aT b) (oV .Or (d.e 1) (d.ao.drop 2) d.p))
 | .I c a b,d=>d.k==16&&(ed (ec sn aT c) (d.e 0)&&ed (ec sn aT a) (d.e 1)&&ed (ec sn aT b) (d.e 2))
 | .o op a b,d=>d.k==6&&(decide (Bj op=d.op)&&ed (ec sn aT a) (d.e 0)&&ed (ec sn aT b) (d.e 1))
 | .p op a b,d=>d.k==7&&(decide ([kq op]=d.cs)&&ed (ec sn aT a) (d.e 0)&&ed (ec sn aT b) (d.e 1))
 | .P c5 cX a b c,d=>d.k==17&&(decide ([kq c5,kq cX]=d.cs)&&ed (ec sn aT a) (d.e 0)&&ed (ec sn aT b) (d.e 1)&&ed (ec sn aT c) (d.e 2))
 | .a e f,d=>d.k==8&&(lP[f]? ==ab d.x&&(bB (d.e 0)).k != 13&&ed (ec sn aT e) (d.e 0))
 | .u e i,d=>d.k==9&&(ed (ec sn aT e) (d.e 0)&&ed (ec sn aT i) (d.e 1))
 | .S s e,d=>d.k==9&&((match s with| .to k=>(bB (d.e 1)).k==18&&vi ((bB (d.e 1)).e 0) k| .rev=>(bB (d.e 1)).k==20&&vi ((bB (d.e 1)).e 0) (-1))&&ed (ec sn aT e) (d.e 0))
 | .F e i,d=>d.k==9&&((bB (d.e 1)).k==19&&ed (ec sn aT e) (d.e 0)&&ed (ec sn aT i) ((bB (d.e 1)).e 0))
 | .t ao,d=>d.k==10&&lF sn aT ao d.ao
 | .L ao,d=>d.k==11&&lF sn aT ao d.ao
 | .D k ao,d=>d.k==12&&(decide (d.os.length<=15)&&(L8 k||d.os.isEmpty)&&Fl sn aT ao d.os d.ao)
 | .B b ao,d=>d.k==13&&(isName (d.e 0) (λx=>gh aT x&&jy (.bi b) x)&&lF sn aT ao (d.ao.drop 1))
 | .f f ao,d=>d.k==13&&(isName (d.e 0) (λx=>gh aT x&&jy (.fn f) x)&&lF sn aT ao (d.ao.drop 1))
 | .w C ao,d=>d.k==13&&(isName (d.e 0) (λx=>gh aT x&&jy (.cls C) x)&&lF sn aT ao (d.ao.drop 1))
 | .m e m ao,d=>d.k==13&&((bB (d.e 0)).k==8&&(lP[m]? ==ab (bB (d.e 0)).x&&(bB ((bB (d.e 0)).e 0)).k != 13&&(bB (d.e 0)).p.endLine==d.p.line&&decide (d.ao.length<=20)&&ed (ec sn aT e) ((bB (d.e 0)).e 0)&&lF sn aT ao (d.ao.drop 1)))
 | .C elt nv src over cond free,d=>d.k==14&&(match vP aT src (d.e 2),free.mapM (sn[·]?)with
   |some rs,ab fs=>decide ((Ac (d.e 1)).length=nv)&&src != .e&&decide (d.sc.kind=.function)&&lF sn aT over rs&&Bp aT (Ac (d.e 1)) fs d.sc.names&&Ab (Ac (d.e 1)++fs) d.sc.names (gB nv) (d.e 1)&&
     ed (ec (Ac (d.e 1)++fs) d.sc.names elt) (d.e 0)&&lF (Ac (d.e 1)++fs) d.sc.names cond (d.ao.drop 3)
   |_,_=>av)
 | .bad,_=>av
noncomputable def lF(sn:af a5)(aT:fK):af aW->af bU->aB
 |[],rs=>rs.isEmpty
 |e::ao,rs=> !rs.isEmpty&&(ed (ec sn aT e) (rs.getD 0 dead)&&lF sn aT ao (rs.drop 1))
noncomputable def Fl(sn:af a5)(aT:fK):af aW->af (aw bU)->af bU->aB
 |[],eg,vs=>eg.isEmpty&&vs.isEmpty
 |k::r,ab rk::eg,rv::vs=>(match r with
  |v::ao=>ed (ec sn aT k) rk&&ed (ec sn aT v) rv&&Fl sn aT ao eg vs
  |[]=>av)
 |_,_,_=>av
end
end
section
open PySem.SeqAt
abbrev Ld:Prop:=∀{c:cS}{σ:H}{s:bS}{Q:bQ}{E:bR}{ex:aB}{p t C:ae}{fs:af (ae×V)}{r:nT}{f:ae}{x:a5}{u:V},
 aY c.B c.stk σ s->σ p=ab ⟨t,.e C fs r⟩->X.T.cP[f]? =ab x->fM fs f=ab u->Q u σ->dp c bq s.heap (DK (.ref p) x ex) Q E s
abbrev Le:Prop:=∀{c:cS}{σ:H}{s:bS}{Q:dn}{E:bR}{p t C:ae}{fs:af (ae×V)}{r:nT}{f:ae}{x:a5}{v:V}{w:ar},
 aY c.B c.stk σ s->X.T.cP[f]? =ab x->bq s.heap v w->σ p=ab ⟨t,.e C fs r⟩->t≠0->fs.length<bN->(X.T.bp C).any (·.i8.contains f)=ak->Q (aC σ p ⟨t,.e C (hS fs f v) r⟩)->dp c r4 s.heap (setAttr (.ref p) x w) (λU=>Q) E s
abbrev Make:Prop:=∀{hd:aw ae}{n:ae}{F:cy}{c:cS}{σ:H}{s:bS}{Q:bQ}{E:bR}{C:ae}{k:a8}{args:af V}{ws:af ar},
 A1 hd n F->ly c.A hd n 4 c.stk->aY c.B c.stk σ s->X.T.cls C=ab k->b7 s.heap args ws->xR X.T.bp F C σ Q E args->dp c bq s.heap (hq (.ref k) ws []) Q E s
abbrev K5:Prop:=∀{c:cS}{σ:H}{s:bS}{Q:bQ}{E:bR}{p t:ae}{l:af (ag×ag)},
 aY c.B c.stk σ s->c.A.handled=aj->σ p=ab ⟨t,.l (l.map c')⟩->l.length<64->l.Nodup->vNew (.l ((sortP l).map c')) σ Q->dp c bq s.heap (hq (.builtin "sorted") [.ref p]) Q E s
structure yB:Prop where
 ok:X.Ok
 fns:∀x f,hT.lookup x=ab (.fn f)->∀C:Prop,(∀r,so f=ab r->X.ja x=ab (.ref r.addr)->qP r->C)->C
 cls:∀x D,hT.lookup x=ab (.cls D)->∀C:Prop,(∀c,X.T.cls D=ab c->X.ja x=ab (.ref c)->keepIn X.K (.ref c)=ak->C)->C
 val:∀x v,hT.lookup x=ab (.val v)->∀C:Prop,(∀w,X.ja x=ab w->bq X.h₀ v w->C)->C
 bi:∀x b,hT.lookup x=ab (.bi b)->X.ja x=aj/\tB x=ab (Bh b)/\x≠"__name__"
 src:∀x b,hT.lookup x=ab (.src b)->X.ja x=aj/\tB x=ab (Ih b)/\x≠"__name__"
 mR:∀D c m x f,X.T.cls D=ab c->vr X.T.bp 8 D m=ab f->X.T.cP[m]? =ab x->∀C:Prop,(∀r,so f=ab r->qP r->kL X.K (.ref c) x=ab (ab (.ref r.addr))->As X.K (.ref r.addr)=ab (.type "function")->C)->C
 own:X.T.cP[Ce]? =ab "append"/\X.T.cP[Cg]? =ab "pop"/\X.T.cP[Hh]? =ab "remove"/\X.T.cP[zE]? =ab "get"
 RA:Ld
 xs:Le
 made:Make
 sp:K5
 FA:∀C c D d,X.T.cls C=ab c->g8 X.T.bp C=ab ak->X.T.cls D=ab d->g8 X.T.bp D=ab ak->Dz X.K (.ref c) (.ref d)=ab (zj X.T.bp 8 C D)
structure dh where
 hd:aw ae
 n:ae
 sn:af a5
 aT:fK
 F:cy
structure At(b:dh)(c:cS)(sc:Sc)(σ:H)(s:bS):Prop where
 k:yB
 names:sc.names=b.sn
 gl:∀x,b.aT.lookup x=ab .globalImplicit->sc.env.kindOf x=ab .globalImplicit
 cl:∀x,b.aT.lookup x=ab .cell\/b.aT.lookup x=ab .free->sc.env.kindOf x=ab .cell\/sc.env.kindOf x=ab .free
 fn:A1 b.hd b.n b.F
 a:ly c.A b.hd b.n 4 (sc::c.stk)
 sim:aY c.B (sc::c.stk) σ s
abbrev bZ(b:dh)(e:aW)(r:bU):Prop:=∀{c:cS}{sc:Sc}{σ:H}{s:bS}{Q:bQ}{E:bR},At b c sc σ s->vE X.T.bp b.F b.hd sc.lm e σ Q E->dp (c.on sc) bq s.heap (hr r sc.env) Q E s
abbrev TS(b:dh)(e:aW)(r:bU):Prop:=∀{c:cS}{sc:Sc}{σ:H}{s:bS}{R:bQ}{Q:aB->dn}{E:bR},At b c sc σ s->vE X.T.bp b.F b.hd sc.lm e σ R E->(∀v σ,R v σ->vIf σ v λt=>Q t σ)->dp (c.on sc) yH s.heap (qB r sc.env (hr r sc.env)) Q E s
abbrev lA(b:dh)(ao:af aW)(rs:af bU):Prop:=∀{c:cS}{sc:Sc}{σ:H}{s:bS}{Q:af V->dn}{E:bR}(pos:el),At b c sc σ s->h4 X.T.bp b.F b.hd sc.lm ao σ Q E->dp (c.on sc) b7 s.heap (spliced (tA pos (qD rs sc.env))) Q E s
section
variable{b:dh}{c:cS}{A:ea}{sc:Sc}{σ ah:H}{s s':bS}{Q:bQ}{E:bR}{h₀:bw}{x:a5}{v:ar}{p:el}{e aq e2 bF:aW}{r a0 bX g':bU}{ao:af aW}{rs:af bU}{n:ae}{k:xZ}
theorem At.next(a:At b c sc σ s)(S:aY c.B (sc::c.stk) ah s'):At b c sc ah s':={a with sim:=S}
theorem At.units(a:At b c sc σ s):c.A.units+9<lp:=fT (fT (Nat.add_lt_add_left (by decide:9<40) c.A.units) (nM (en _ _) _)) a.a.units
theorem At.C5(a:At b c sc σ s)(C:Prop)(k:∀ρ,oO s.heap ρ c.stk.length sc->C):C:=a.sim _ λρ S=>k ρ S.h.ff.1
theorem gh.dest{aT:fK}(h:gh aT x=ak):nameOk x=ak/\aT.lookup x=ab .globalImplicit:=(aF h).imp id beq_iff_eq.mp
theorem nameOk.a(h:nameOk x=ak):(x==("__debug__":a5))=av:=Hj (aF h).1
theorem y9{Q E:ar->bO}(a:At b c sc σ s)(h:gh b.aT x=ak)(a4:X.ja x=ab v)(q:Q v s):bg a9 A (hr (.Name x p) sc.env) Q E s:=
 a.C5 _ λU S=>R1 S.kind (a.gl x (gh.dest h).2) (loadGlobal_global (aD S.globals (a.k.ok.g.keeps a.sim.base)) a4 q) (nameOk.a (gh.dest h).1)
theorem LI{Q E:ar->bO}(a:At b c sc σ s)(h:gh b.aT x=ak)(bb:X.ja x=aj/\tB x=ab v/\x≠"__name__")(q:Q v s):bg a9 A (hr (.Name x p) sc.env) Q E s:=
 a.C5 _ λU S=>R1 S.kind (a.gl x (gh.dest h).2) (loadGlobal_builtin (aD S.globals (a.k.ok.g.keeps a.sim.base)) bb.1 (aD S.builtins (a.k.ok.b.keeps a.sim.base)) ((a.k.ok.builtins x bb.2.2).trans bb.2.1) q) (nameOk.a (gh.dest h).1)
theorem U2(h:k=.none):bZ b .n (.Constant k n p):=λa q=>aD h (wpAny_Constant_none (.mk (a:=.n) aa a.sim (aP.refl _) q))
theorem UN{t:aB}(h:k=.bool t):bZ b (.b t) (.Constant k n p):=λa q=>aD h (wpAny_Constant_bool (.mk (a:=.b t) aa a.sim (aP.refl _) q))
theorem UW{i:ag}(h:k=.int i):bZ b (.i i) (.Constant k n p):=λa q=>aD h (DT (.int (c:=cS.on _ _) a.sim q))
theorem U1{i:ag}{dj:el}(h:k=.int i):bZ b (.g i) (.UnaryOp .USub (.Constant k n dj) p):=λ{c sc U s U U} a q=>aD h (Jt (DT (Us (.int (c:=c.on sc) (s:=s) a.sim q))))
theorem U7{i:ae}(az:k=.str x)(h:lP[i]? =ab x):bZ b (.s i) (.Constant k n p):=λa q=>aD az (wpAny_Constant_str (.mk (a:=.s i) ⟨x,_,h,aa⟩ (aY.toks a.sim) (aP.refl _) q))
theorem UZ{i:ae}(h1:nameOk x=ak)(h2:b.sn[i]? =ab x):bZ b (.l i) (.Name x p):=λa⟨_,a4,q⟩=>wpAny_Name (Om a.sim (a.names.symm▸h2) a4 h1 λU r=>.mk r a.sim (aP.refl _) q) (nameOk.a h1)
theorem UR{u:V}(h1:gh b.aT x=ak)(h2:hT.lookup x=ab (.val u)):bZ b (.c u) (.Name x p):=λa q=>a.k.val x u h2 _ λU m r=>y9 a h1 m (.mk (a:=u) (r.cu (aP.keeps a.sim.base)) a.sim (aP.refl _) q)
theorem K7(H:bZ b e r)(au:∀env w,qB r env w=(do let v←w;pG r.pos;DL [v] (truthy v))):TS b e r:=λa h b4=>
 wpAny_isTrue_value ((H a h).step λU U ah U au S ev q=>let⟨_,aq,q⟩:=b4 _ _ q;Df (Q:=eU _ yH _ _) S au aq λU=>.mk aa S.toks ev q) (au _ _)
theorem U3(H:bZ b e r):bZ b (.N e) (.UnaryOp .Not r p):=λa h=>
 Jt ((H a h).step λU U ah U au S ev q=>let⟨t,aq,q⟩:=q;not_value (Df (Q:=λt=>eU _ bq _ _ (.bool (!t))) S au aq λU=>.mk (a:=.b (!t)) aa S.toks ev q))
theorem V4(H:TS b e r):TS b (.N e) (.UnaryOp .Not r p):=λ{c sc σ s R Q E} a h b4=>
 wpAny_isTrue_Not ((H (Q:=λt σ=>Q (!t) σ) a h λv σ q=>let⟨t,aq,q⟩:=q;let⟨jg,e2,q⟩:=b4 _ _ q;⟨t,aq,by cases e2;exact q⟩).step λt U U U au S ev q=>.mk (aU (!·) au) S ev q)
end
end
section
open PySem.SeqAt
section
variable{b:dh}{c:cS}{A:ea}{sc:Sc}{σ ah:H}{s s':bS}{Q:bQ}{E:bR}{h₀:bw}{x:a5}{v:ar}{p:el}{e aq e2 bF:aW}{r a0 bX g':bU}{ao:af aW}{rs:af bU}{n:ae}{env:hI}{M:Aq}
theorem Mo{o:BoolOp}{Q E:ar->bO}(h:bg M A (hr a0 env) (λv dW=>bg M A (truthy v) (λt jf=>aG (t==(o==.And)) (bg M A (hr (oV o bX rs p) env) Q E jf) (Q v jf)) E dW) E s):
  bg M A (hr (.BoolOp o (a0::bX::rs) p) env) Q E s:=by
 show bg M A (do
  let v←hr a0 env
  pG p
  let t←DL [v] (truthy v)
  match o,t with
  | .And,av| .Or,ak=>br v
  |_,_=>boolOp p o (hr bX env::Jk rs env)) Q E s
 refine aN (dH h (λv dW cv=>aN (qE (aN (lq (dH cv (λt jf jx=> ?_) λU U x=>x))))) λU U x=>x)
 cases o<;>cases t<;>first|exact bI jx|(cases rs<;>exact jx)
theorem NW{o:BoolOp}{w:fq ar}{Q:aB->bO}{E:ar->bO}(h:bg M A (qB a0 env (hr a0 env)) (λt jf=>aG (t==(o==.And)) (bg M A (qB (oV o bX rs p) env (hr (oV o bX rs p) env)) Q E jf) (Q t jf)) E s):
  bg M A (qB (.BoolOp o (a0::bX::rs) p) env w) Q E s:=by
 refine wpAny_isTrue_BoolOp ?_
 have one:∀{jf},bg M A (qB (oV o bX rs p) env (hr (oV o bX rs p) env)) Q E jf->bg M A (allTrue o (bX::rs) env) Q E jf:=λjx=>by
  rcases rs with _|⟨z,l⟩
  ·cases o
   ·exact So (dH jx (λb j1 kx=>by cases b<;>first|exact kx|exact wpAny_allTrue_And_nil kx) λU U x=>x)
   ·exact Sp (dH jx (λb j1 kx=>by cases b<;>first|exact kx|exact wpAny_allTrue_Or_nil kx) λU U x=>x)
  ·exact jx
 cases o
 ·exact So (dH h (λt jf jx=>by cases t<;>first|exact one jx|exact jx) λU U x=>x)
 ·exact Sp (dH h (λt jf jx=>by cases t<;>first|exact one jx|exact jx) λU U x=>x)
theorem UI(H1:bZ b aq a0)(dR:bZ b e2 (oV .And bX rs p)):bZ b (.A aq e2) (.BoolOp .And (a0::bX::rs) p):=λa h=>
 Mo ((H1 a h).step λU U U U au S ev⟨t,aq,q⟩=>Df (E:=gE _ _ _) S au aq λtk=>by
  cases t
  ·exact .mk au S.toks ev q
  ·exact dp.lift ev (dR (a.next (aY.toks (tk:=tk) S)) q))
theorem U4(H1:bZ b aq a0)(dR:bZ b e2 (oV .Or bX rs p)):bZ b (.O aq e2) (.BoolOp .Or (a0::bX::rs) p):=λa h=>
 Mo ((H1 a h).step λU U U U au S ev⟨t,aq,q⟩=>Df (E:=gE _ _ _) S au aq λtk=>by
  cases t
  ·exact dp.lift ev (dR (a.next (aY.toks (tk:=tk) S)) q)
  ·exact .mk au S.toks ev q)
theorem V0(H1:TS b aq a0)(dR:TS b e2 (oV .And bX rs p)):TS b (.A aq e2) (.BoolOp .And (a0::bX::rs) p):=λ{c sc σ s R Q E} a h b4=>
 NW ((H1 (Q:=λt σ=>aG t (vE X.T.bp b.F b.hd sc.lm e2 σ R E) (Q av σ)) a h λv σ⟨t,aq,q⟩=>⟨t,aq,by
  cases t
  ·exact let⟨jg,e2,q⟩:=b4 _ _ q;by cases aq.symm.trans e2;exact q
  ·exact q⟩).step λt jg U U au S ev q=>by
  cases au
  cases t
  ·exact .mk (c:=c.on sc) (R:=yH) aa S ev q
  ·exact dp.lift ev (dR (a.next S) q b4))
theorem V5(H1:TS b aq a0)(dR:TS b e2 (oV .Or bX rs p)):TS b (.O aq e2) (.BoolOp .Or (a0::bX::rs) p):=λ{c sc σ s R Q E} a h b4=>
 NW ((H1 (Q:=λt σ=>aG t (Q ak σ) (vE X.T.bp b.F b.hd sc.lm e2 σ R E)) a h λv σ⟨t,aq,q⟩=>⟨t,aq,by
  cases t
  ·exact q
  ·exact let⟨jg,e2,q⟩:=b4 _ _ q;by cases aq.symm.trans e2;exact q⟩).step λt jg U U au S ev q=>by
  cases au
  cases t
  ·exact dp.lift ev (dR (a.next S) q b4)
  ·exact .mk (c:=c.on sc) (R:=yH) aa S ev q)
theorem UX(H1:TS b aq a0)(dR:bZ b e2 bX)(iN:bZ b bF g'):bZ b (.I aq e2 bF) (.IfExp a0 bX g' p):=λa h=>
 wpAny_IfExp ((H1 a h λU U=>id).step λt jg U U au S ev q=>by
  cases au
  cases t
  ·exact dp.lift ev (iN (a.next S) q)
  ·exact dp.lift ev (dR (a.next S) q))
theorem V3(H1:TS b aq a0)(dR:TS b e2 bX)(iN:TS b bF g'):TS b (.I aq e2 bF) (.IfExp a0 bX g' p):=λa h b4=>
 aN ((H1 a h λU U=>id).step λt jg U U au S ev q=>by
  cases au
  cases t
  ·exact dp.lift ev (iN (a.next S) q b4)
  ·exact dp.lift ev (dR (a.next S) q b4))
theorem UL{o:m6}(H1:bZ b aq a0)(dR:bZ b e2 bX):bZ b (.o o aq e2) (.BinOp a0 (Bj o) bX p):=λa h=>
 wpAny_BinOp ((H1 a h).step λU U U U au S ev q=>(dR (a.next S) q).to ev λU U U U gH cH cb bE=>(WM cH (au.cu cb) gH bE).lift (ev.trans cb))
theorem wY{o:kO}{u v:V}{w z:ar}{t:aB}{W E:ar->bO}(a:At b c sc σ s)(aE:bq s.heap u w)(aQ:bq s.heap v z)(e:j3 σ o u v=ab t)(k:∀s',aY c.B (sc::c.stk) σ s'->s'.heap=s.heap->W (.bool t) s'):bg a9 (c.on sc).A (tD (kq o) w z) W E s:=
 Xr a.sim a.k.ok.cP a.units aE aQ e λU=>k _ a.sim.toks aa
theorem si{h h':bw}(e:h'=h):aP h h':=aR e (aP.refl _)
theorem UP{o:kO}(hm:Ax (kq o) bX=av)(H1:bZ b aq a0)(dR:bZ b e2 bX):bZ b (.p o aq e2) (.Compare a0 [kq o] [bX] p):=λa h=>
 wpAny_Compare1 ((H1 a h).step λU U U U au S ev q=>(dR (a.next S) q).to ev λU U U U gH cH cb⟨t,aq,bE⟩=>wY (a.next cH) (au.cu cb) gH aq λU es bF=>.mk (a:=.b t) aa es ((ev.trans cb).trans (si bF)) bE) hm
theorem V1{o:kO}(hm:Ax (kq o) bX=av)(H1:bZ b aq a0)(dR:bZ b e2 bX):TS b (.p o aq e2) (.Compare a0 [kq o] [bX] p):=λa h b4=>
 wpAny_isTrue_Compare1 ((H1 a h).step λU U U U au S ev q=>(dR (a.next S) q).to ev λU U U U gH cH cb⟨t,aq,bE⟩=>wY (a.next cH) (au.cu cb) gH aq λU es bF=>
  let⟨_,eO,q⟩:=b4 _ _ bE;yb (.mk (cR eO).symm es ((ev.trans cb).trans (si bF)) q)) hm
theorem UQ{o o':kO}(hm:Ax (kq o') g'=av)(H1:bZ b aq a0)(dR:bZ b e2 bX)(iN:bZ b bF g'):bZ b (.P o o' aq e2 bF) (.Compare a0 [kq o,kq o'] [bX,g'] p):=λ{c sc U U U U} a h=>
 Compare_chain ((H1 a h).step λU U U U au S ev q=>chain_link ((dR (a.next S) q).to ev λU U U U gH cH cb⟨t,aq,bE⟩=>wY (a.next cH) (au.cu cb) gH aq λU es bF=>yb (by
  have mM:=(ev.trans cb).trans (si bF)
  cases t
  ·exact .mk (c:=c.on sc) (a:=.b av) aa es mM bE
  ·exact chain_last ((iN (a.next es) bE).to mM λU U U U ze hL ig⟨t,aq,iq⟩=>wY (a.next hL) (gH.cu ((si bF).trans ig)) ze aq λU i5 e5=>.mk (a:=.b t) aa i5 ((mM.trans ig).trans (si e5)) iq)))) hm
theorem V2{o o':kO}(hm:Ax (kq o') g'=av)(H1:bZ b aq a0)(dR:bZ b e2 bX)(iN:bZ b bF g'):TS b (.P o o' aq e2 bF) (.Compare a0 [kq o,kq o'] [bX,g'] p):=λ{c sc U U U U U} a h b4=>
 bk3 ((H1 a h).step λU U U U au S ev q=>test_link ((dR (a.next S) q).to ev λU U U U gH cH cb⟨t,aq,bE⟩=>wY (a.next cH) (au.cu cb) gH aq λU es bF=>yb (by
  have mM:=(ev.trans cb).trans (si bF)
  cases t
  ·exact let⟨_,eO,q⟩:=b4 _ _ bE;.mk (c:=c.on sc) (R:=yH) (cR eO).symm es mM q
  ·exact test_last ((iN (a.next es) bE).to mM λU U U U ze hL ig⟨t,aq,iq⟩=>wY (a.next hL) (gH.cu ((si bF).trans ig)) ze aq λU i5 e5=>
    let⟨_,eO,q⟩:=b4 _ _ iq;yb (.mk (cR eO).symm i5 ((mM.trans ig).trans (si e5)) q))))) hm
theorem U8(H1:bZ b aq a0)(dR:bZ b e2 bX):bZ b (.u aq e2) (.Subscript a0 bX p):=λa h=>
 EB ((H1 a h).step λU U U U au S ev q=>(dR (a.next S) q).to ev λU U U U gH cH cb bE=>
  let⟨fY,_,_,ik,k0⟩:=QK cH a.k.ok (au.cu cb) gH bE
  Dc ik k0 (dH fY (λU U z=>z _ λU U r S e⟨q,hs⟩=>.mk r S ((ev.trans cb).trans e) (aD hs q)) λU U z=>z.lift (ev.trans cb)))
theorem Vu:lA b [] []:=λU a h=>wpAny_items_nil (.mk (a:=[]) aa a.sim (aP.refl _) h)
theorem Vt(au:Plain r)(H1:bZ b e r)(dR:lA b ao rs):lA b (e::ao) (r::rs):=λp a h=>
 wpAny_items_cons ((H1 a h).step λU U U U au S ev q=>(dR p (a.next S) q).to ev λl U U U gH cH cb bE=>.mk (a:=_::l) (.cons (au.cu cb) gH) cH (ev.trans cb) bE) (au.star _ _)
theorem U'(H:lA b ao rs):bZ b (.t ao) (.Tuple rs n p):=λa h=>
 wpAny_Tuple ((H _ a h).step λU ws U U au S ev q=>⟨aD au.length (kA q.1),(eU.tup S q.1 (vs:=ws.toArray) au q.2).lift ev⟩)
theorem UY(H:lA b ao rs):bZ b (.L ao) (.List rs p):=λa h=>
 wpAny_List ((H _ a h).step λU ws U U au S ev q=>⟨aD au.length (kA q.1),(aY.newList S q.1 (vs:=ws.toArray) au q.2).lift ev⟩)
end
end
section
open PySem.SeqAt
section
variable{b:dh}{c:cS}{A:ea}{stk:af Sc}{sc:Sc}{σ ah:H}{s s':bS}{Q:bQ}{E:bR}{h₀ h:bw}{x:a5}{v:ar}{p dj ap:el}{e aq e2 bF:aW}{r a0 bX g':bU}{ao:af aW}{rs:af bU}{n:ae}{env:hI}
theorem UJ{f:ae}(aE:lP[f]? =ab x)(bb:∀x env w,DF r x env w=w)(H:bZ b e r):bZ b (.a e f) (.Attribute r x p):=λ{c sc σ s Q E} a h=>by
 rw[arm_eval_Attribute,bb]
 refine aN ((H a h).step λv w ah s' au S ev q=>aN (qE (aN (lq ?_))))
 have key:dp (c.on sc) bq s'.heap (DK w x ak) Q E s':=by
  rcases q with⟨aq,e2,q⟩|⟨aq,e2,q⟩<;>cases au
  ·exact Wy S a.k.ok aE aq e2 q
  ·exact a.k.RA S aq aE e2 q
 exact key.to ev λU U U U gH cH cb bE=>aN (Su (bI (.mk gH cH (ev.trans cb) bE)))
def kn:af bU->Prop
 |[]=>gN
 |r::rs=>Plain r/\kn rs
theorem kn.args:∀{rs:af bU}(_:kn rs),(tA p (qD rs env)).any (·.1)=av/\(tA p (qD rs env)).all (!·.1)=ak
 |[],_=>⟨aa,aa⟩
 |_::_,h=>aD (h.1.star _ _) h.2.args
theorem kn.eval{f:ar}{M:Aq}{Q:Args->bO}{E:ar->bO}(a7:kn rs)(h:bg M A (spliced (tA p (qD rs env))) (λvs s'=>Q ⟨vs,[]⟩ s') E s):bg M A (evalArgs f ak (tA p (qD rs env)) []) Q E s:=by
 rcases rs with _|⟨r,rs⟩
 ·unfold evalArgs
  exact aN (dH h (λvs s' h'=>lq (aN (bI (aN (bI (bI h')))))) λU U x=>x)
 ·rw[a7.1.star]at h|-
  exact evalArgs_plain h
abbrev r2(h:bw)(f:ar):Prop:=∃k,(k=Keeper.frame\/k=Keeper.machine\/k=Keeper.boundFrame)/\kK a9 h (keeperOf f) k
theorem yT{f:ar}{first:af ar}(a:At b c sc σ s)(ev:aP h₀ s.heap)(a7:kn rs)(H:lA b ao rs)(az:∀{σ s},aY c.B (sc::c.stk) σ s->r2 s.heap f){yG:af V->dn}(q:h4 X.T.bp b.F b.hd sc.lm ao σ yG E)
  (h:∀{l ws ah s'},b7 s'.heap l ws->At b c sc ah s'->aP s.heap s'.heap->yG l ah->dp (c.on sc) bq s'.heap (hq f (first++ws) []) Q E s'):dp (c.on sc) bq h₀ (callWith p f first (tA dj (qD rs sc.env)) (Jf dj (Jn [] sc.env))) Q E s:=
 R2 (P:=λh=>r2 h f) (by rw[a7.args.1];rfl) (λU=>id) (a7.eval ((H _ a q).to ev λU U U U au S cb bE=>⟨az S,(h au (a.next S) cb bE).lift (ev.trans cb)⟩))
theorem r2.fn{f:kP}(O:qP f)(az:∀b o,X.h₀.get? b=ab o->h.get? b=ab o):r2 h (.ref f.addr):=by
 refine⟨.frame,.inl aa,?_⟩
 unfold keeperOf
 refine(Looks.ld (part:=aj) (az _ _ O.at_)).andThen ?_
 rw[O.data]
 exact .now
theorem r2.bi(t:qJ):r2 h (Bh t):=⟨.machine,.inr (.inl aa),by cases t<;>exact .now⟩
theorem r2.m(t:ht):r2 h (.builtin t):=⟨.machine,.inr (.inl aa),.now⟩
theorem ly.less{hd:aw ae}{n:ae}(a:ly A hd n 4 stk):ly A hd n 1 stk:=⟨a.handled,a.frames,aX (gC ai _) a.depth,aX (gC ai _) a.units⟩
theorem At.call{f:ae}{g:kP}{l:af V}{ws:af ar}(a:At b c sc σ s)(aq:so f=ab g)(au:b7 s.heap l ws)(q:b.F f l σ Q E):dp (c.on sc) bq s.heap (Uy (.ref g.addr) ws []) Q E s:=
 (a.fn (c.on sc) f l ws σ Q E s q a.a.less a.sim au).elim λU z=>aR (cR (z.1.symm.trans aq)) z.2.2.Rq
theorem UO{f:ae}(h1:gh b.aT x=ak)(h2:hT.lookup x=ab (.fn f))(a7:kn rs)(H:lA b ao rs):bZ b (.f f ao) (.Call (.Name x dj) rs [] p):=λa h=>
 a.k.fns x f h2 _ λU aq m O=>DS (y9 a h1 m (yT (first:=[]) a (aP.refl _) a7 H (λS=>.fn O S.base) h λau e0 U q=>e0.call aq au q))
theorem KO{C:ae}(h1:gh b.aT x=ak)(h2:hT.lookup x=ab (.cls C))(a7:kn rs)(H:lA b ao rs):bZ b (.w C ao) (.Call (.Name x dj) rs [] p):=λa h=>
 a.k.cls x C h2 _ λU aq m il=>DS (y9 a h1 m (yT (first:=[]) a (aP.refl _) a7 H (λS=>keeps_K il _ (S.k1 a.k.ok)) h λau e0 U q=>a.k.made e0.fn e0.a e0.sim aq au q))
theorem WK{t:qJ}{l:af V}{ws:af ar}(K:yB)(S:aY c.B c.stk σ s)(bG:c.A.handled=aj)(au:b7 s.heap l ws)(h:mY σ Q t l):dp c bq s.heap (hq (Bh t) ws []) Q E s:=by
 rcases h with⟨e,q⟩|⟨e,q⟩|⟨e,q⟩|⟨e,l,q⟩|⟨e,l,q⟩|⟨e,l,n,q⟩|⟨e,q⟩<;>rcases au.one with⟨w,rfl,a4⟩
 ·exact az4 S a4 e q
 ·exact az6 S a4 e q
 all_goals cases a4
 ·exact bb7 S e q
 ·exact aW6 S e l q
 ·exact aW5 S bG e l q
 ·exact K.sp S bG e l n q
 ·exact aC9 S e bG q
theorem UK{t:qJ}(h1:gh b.aT x=ak)(h2:hT.lookup x=ab (.bi t))(a7:kn rs)(H:lA b ao rs):bZ b (.B t ao) (.Call (.Name x dj) rs [] p):=λa h=>
 DS (LI a h1 (a.k.bi x t h2) (yT (first:=[]) a (aP.refl _) a7 H (λU=>.bi t) h.2 λau e0 U q=>WK a.k e0.sim (e0.a.nh h.1) au q))
theorem Yz{Q E:ar->bO}(bb:∀x env w,DF r x env w=w)(b4:(ap.endLine==p.line)=ak)(ax:rs.length<20)(a7:kn rs)
  (h:bg a9 A (hr r env) (λvD dW=>bg a9 A (Jl vD x (do return(←importBound r env).getD ak)) (λbA jf=>bg a9 A (callWith p bA.1 bA.2 (tA p (qD rs env)) (Jf p (Jn [] env))) Q E jf) E dW) E s):
  bg a9 A (hr (.Call (.Attribute r x ap) rs [] p) env) Q E s:=by
 rw[arm_eval_Call,bb]
 refine aN (dH h (λvD dW cv=>aN (qE ?_)) λU U x=>x)
 have hf:Sd (rs.length+([]:af Keyword).length) (tA p (qD rs env)) (Jf p (Jn [] env))=ak:=by
  unfold Sd
  rw[a7.args.2]
  exact cD (show rs.length<30 from nO ax ai)
 have hm:Se ak r env ap p=br p:=by unfold Se;rw[b4];rfl
 unfold methodCall
 rw[hf,hm]
 exact aN (lq (dH cv (λbA jf jx=>aN (bI jx)) λU U x=>x))
theorem at4{P t C m:ae}{fs:af (ae×V)}{f:a8}{pl:fq aB}{W:ar×af ar->bO}{W':ar->bO}(K:X.Ok)(S:aY c.B stk σ s)(aE:X.T.cP[m]? =ab x)(aq:σ P=ab ⟨t,.i C fs⟩)(hm:fM fs m=aj)
  (h:∀k,X.T.cls C=ab k->kL X.K (.ref k) x=ab (ab (.ref f))/\As X.K (.ref f)=ab (.type "function"))(q:W (.ref f,[.ref P]) s):bg a9 A (Jl (.ref P) x pl) W W' s:=
 S.obj aq _ λU U y=>y.rep _ λk d U bT bE U fd nB xU=>fd.look λod aO lk=>by
  have ez:=K.cls _ _ bT xU
  refine b5 (lk m x aE) λo l1 d2=> ?_
  rw[hm]at d2
  exact method_fn (od:=ab od) (S.k1 K) ⟨bE,aa,aa,aO⟩ ez.ga ez.mO (h k bT).1 (h k bT).2 (show(DC x od).map (·.isSome)=ab av by rw[l1,show o=aj from d2];rfl) q
theorem aI8{P t m:ae}{d:dN}{pl:fq aB}{W:ar×af ar->bO}{W':ar->bO}(K:yB)(S:aY c.B stk σ s)(aE:X.T.cP[m]? =ab x)(aq:σ P=ab ⟨t,d⟩)(aO:HW d m=ak)
  (q:W (.builtin (HV d m),[.ref P]) s):bg a9 A (Jl (.ref P) x pl) W W' s:=by
 rcases d with l|ao|ao|ao|⟨_,_⟩|⟨_,_,_⟩
 ·refine S.list aq _ λvs n U bK U=> ?_
  have vd:∀a,my P=.ref a->∃o,s.heap.get? a=ab o/\o.dict=aj:=λa e=>by cases e;exact⟨_,bK,aa⟩
  rcases(nH _ _).mp aO with z|z
  ·rcases(nH _ _).mp z with z|z<;>cases beq_iff_eq.mp z
   ·cases K.own.1.symm.trans aE
    exact x5 bK.isList.typeIs JU slot_list_append F.type_list_append vd q
   ·cases K.own.2.1.symm.trans aE
    exact x5 bK.isList.typeIs JU S5 F.type_list_pop vd q
  ·cases beq_iff_eq.mp z
   cases K.own.2.2.1.symm.trans aE
   exact x5 bK.isList.typeIs JU S6 F.type_list_remove vd q
 ·cases beq_iff_eq.mp aO;cases K.own.2.2.2.symm.trans aE;exact S.obj aq _ λU U y=>y.rep _ λU U U c8 U=>x5 c8.typeIs JT yh JV c8.mapOf.noDict q
 ·cases beq_iff_eq.mp aO;cases K.own.2.2.2.symm.trans aE;exact S.obj aq _ λU U y=>y.rep _ λU U U c8 U=>x5 c8.typeIs JT yh JV c8.mapOf.noDict q
 ·cases beq_iff_eq.mp aO;cases K.own.2.2.2.symm.trans aE;exact S.obj aq _ λU U y=>y.rep _ λU U U c8 U=>x5 c8.typeIs JT yh JV (λa e=>by cases e;exact let⟨o,_,_,g1,g2,_⟩:=c8;⟨o,g1,g2.2.1⟩) q
 ·cases aO
 ·cases aO
theorem U0{m:ae}(aE:lP[m]? =ab x)(bb:∀x env w,DF r x env w=w)(b4:(ap.endLine==p.line)=ak)(ax:rs.length<20)(a7:kn rs)(H1:bZ b e r)(H:lA b ao rs):bZ b (.m e m ao) (.Call (.Attribute r x ap) rs [] p):=λa h=>
 Yz bb b4 ax a7 ((H1 a h).step λU U U U au S ev q=>by
  rcases q with⟨aq,e2,bF,q⟩|⟨aq,e2,q⟩<;>cases au
  ·exact S.obj aq _ λU U y=>y.rep _ λk d U bT U U U U U=>a.k.mR _ k m x _ bT bF aE _ λg f1 O f2 cz=>at4 a.k.ok S aE aq e2 (λk' z=>by cases bT.symm.trans z;exact⟨f2,cz⟩)
    (yT (first:=[.ref _]) (a.next S) ev a7 H (λS=>.fn O S.base) q λau e0 U q=>e0.call f1 (.cons (v:=.r _) aa au) q)
  ·exact aI8 a.k S aE aq e2 (yT (first:=[.ref _]) (a.next S) ev a7 H (λU=>.m _) q λau e0 U q=>let⟨_,_,bF,az,q⟩:=q;aI9 e0.sim a.k.ok e0.units bF az au q))
end
end
section
open PySem.SeqAt
section
variable{b:dh}{c:cS}{A:ea}{stk:af Sc}{sc:Sc}{σ ah:H}{s s':bS}{Q:bQ}{E:bR}{h₀ h:bw}{x:a5}{v:ar}{p dj ap:el}{e aq e2 bF:aW}{r a0 bX g':bU}{ao:af aW}{rs:af bU}{n:ae}{env:hI}{dG:a8}
theorem We(a n:ae):AG (ab (a:ag)) aj 1 (n:ag)=(((min a n:ae):ag),(n:ag)):=by
 unfold AG
 by_cases z:a<=n
 ·rw[T9 z];exact adjust_from a n z
 ·have z:=T4 z
  rw[T' z]
  exact tT (Int.min_eq_right (jH.mpr z)) aa
theorem aV6{a n:ae}{u:pD}{Q:ag×ag×ae->bO}{E:ar->bO}(hs:s.heap.IsSliceOf dG (.int a u) .none .none)(h:Q (((min a n:ae):ag),1,n - min a n) s):bg a9 A (D7 (.ref dG) (br (n:ag))) Q E s:=by
 refine fH (id hs) λos qi BM vb=> ?_
 unfold D7 SU
 refine aN (aN (jF qi vb (x:=.int a u) aa (aN (jF qi vb (x:=.none) aa (aN (jF qi vb (x:=.none) aa (bI ?_)))))))
 refine aN (Dy (aN (RZ (aN (Dy (aN (bI ?_)))))))
 show bg _ _ (match AG (ab (a:ag)) aj 1 (n:ag)with|(lo,hi)=>br (lo,(1:ag),SV lo hi 1)) _ _ s
 rw[We]
 exact bI (aD (RV (min a n) n (yp _ _)) h)
theorem Ma{α:Type}(a:ae)(l:af α):l.drop (min a l.length)=l.drop a:=by
 by_cases z:a<=l.length
 ·rw[T9 z]
 ·have z:=T4 z
  rw[T' z,List.drop_length,J9 z]
theorem M4{t lo m:ae}{L:af ar}{items:dC ar}{Q E:ar->bO}(aS:IsTup s.heap t items)(hs:s.TypeIs (.ref dG) "slice")(an9:∀{A:ea}{Q:ag×ag×ae->bO}{E:ar->bO},Q ((lo:ag),1,m) s->bg a9 A (D7 (.ref dG) (br (items.size:ag))) Q E s)(a7:((gB m).filterMap λ(k:ae)=>items[((lo:ag)+(k:ag)*1).toNat]?).toArray=L.toArray)(va:L.length<=items.size)(h1:lo=0->m=items.size->Q (.ref t) s)
  (h2:Q (.ref s.heap.objs.size) {s with heap:=s.heap.push {cls:=.type "tuple",data:=.seq L.toArray}})(kv:items.size<=rH):bg a9 A (tE (.ref t) (.ref dG)) Q E s:=by
 have BN:sizeOk (.seq L.toArray):=by
  show L.toArray.size<=rH
  rw[wq]
  exact aX va kv
 unfold tE
 try with_reducible refine lq ?_
 first|refine aN (bI ?_)|skip
 refine aN (Sz aS.typeIs ai ?_)
 refine aN (DV (name:=iM "__getitem__") aS.typeIs Ao
  (rK Ao aS.typeIs entry_tuple_getitem ?_ (args_tuple_getitem _ _)))
 show bg _ _ (SX (.ref t)>>= _) _ _ s
 refine aN (tupleItemsOf_ aS ?_)
 refine aN (SA hs ?_)
 rw[bk ai]
 refine aN (an9 ?_)
 show bg _ _ (if(((lo:ae):ag)==0&&(1:ag)==1&&m==items.size)=ak then _ else _) _ _ s
 by_cases hw:(((lo:ae):ag)==0&&(1:ag)==1&&m==items.size)=ak
 ·rw[bk hw]
  have b4:=h1 (Int.ofNat_eq_zero.mp (beq_iff_eq.mp (aF (aF hw).1).1)) (beq_iff_eq.mp (aF hw).2)
  refine aN (m:=SW _) ?_
  unfold SW
  refine aN (SA aS.typeIs (bI ?_))
  rw[bk ai]
  first
   |exact aN (AB (bI (bI ⟨_,rfl,wpAny_pure b4⟩)))
   |exact aN (AB (aN (bI (bI ⟨_,aa,bI b4⟩))))
   |exact wpAny_bind (wpAny_rule (wpAny_pure ⟨_,rfl,wpAny_pure b4⟩))
 ·rw[bh hw,a7]
  first
   |exact aN (m:=D8 _) (DY (bI ⟨_,aa,bI h2⟩) BN)
   |exact wpAny_bind (m:=D8 _) (wpAny_newObj_type (wpAny_bind (wpAny_pure (wpAny_pure ⟨_,rfl,wpAny_pure h2⟩))) BN)
   |exact wpAny_bind (wpAny_bind (m:=D8 _) (wpAny_newObj_type (wpAny_pure (wpAny_pure ⟨_,rfl,wpAny_pure h2⟩)) BN))
   |exact wpAny_bind (wpAny_bind (m:=D8 _) (wpAny_newObj_type (wpAny_pure ⟨_,rfl,wpAny_pure h2⟩) BN))
theorem ak7{t a:ae}{u:pD}{items:dC ar}{Q E:ar->bO}(aS:IsTup s.heap t items)(hs:s.heap.IsSliceOf dG (.int a u) .none .none)(h1:min a items.size=0->Q (.ref t) s)
  (h2:Q (.ref s.heap.objs.size) {s with heap:=s.heap.push {cls:=.type "tuple",data:=.seq (items.toList.drop a).toArray}})(kv:items.size<=rH):bg a9 A (tE (.ref t) (.ref dG)) Q E s:=by
 refine fH (id hs) λos qi BM U=> ?_
 refine M4 aS ⟨os,qi,BM⟩ (aV6 hs) ((pick_from items _ (yp _ _)).trans (aU TY ?_)) (by rw[Ej,Array.length_toList];exact wy _ _) (λh U=>h1 h) h2 kv
 rw[←Array.length_toList];exact Ma a _
theorem ak9{t a:ae}{u:pD}{items:dC ar}{Q E:ar->bO}(aS:IsTup s.heap t items)(hs:s.heap.IsSliceOf dG .none (.int a u) .none)(lt:a<items.size)
  (h2:Q (.ref s.heap.objs.size) {s with heap:=s.heap.push {cls:=.type "tuple",data:=.seq (items.toList.take a).toArray}})(kv:items.size<=rH):bg a9 A (tE (.ref t) (.ref dG)) Q E s:=by
 refine fH (id hs) λos qi BM vb=> ?_
 have PD:=pick_run items 0 a
 rw[List.filterMap_map,List.drop_zero]at PD
 refine M4 (lo:=0) (m:=a) aS ⟨os,qi,BM⟩ (λh=> ?_) (aU TY (Eq.trans (aU (List.filterMap · _) (funext λk=> ?_)) PD)) (by rw[TK,Array.length_toList];exact yp _ _) (λU e=>aV lt (aR e (nN _))) h2 kv
 ·unfold D7 SU
  refine aN (aN (jF qi vb (x:=.none) aa (aN (jF qi vb (x:=.int a u) aa (aN (jF qi vb (x:=.none) aa (bI ?_)))))))
  refine aN (Dy (aN (Dy (aN (RZ (aN (bI ?_)))))))
  show bg _ _ (match AG aj (ab (a:ag)) 1 (items.size:ag)with|(lo,hi)=>br (lo,(1:ag),SV lo hi 1)) _ _ s
  have e:AG aj (ab (a:ag)) 1 (items.size:ag)=(((0:ae):ag),(a:ag)):=tT aa (Int.min_eq_left (jH.mpr (jk lt)))
  rw[e]
  exact bI (aD (RV 0 a (eL _)) h)
 ·show items[(((0:ae):ag)+(k:ag)*1).toNat]? =items[0+k]?
  rw[Ti]
  exact aU (items[·]?) (by lia)
theorem U6(H1:bZ b aq a0)(dR:bZ b e2 bX):bZ b (.F aq e2) (.Subscript a0 (.Slice (ab bX) aj aj dj) p):=λ{c sc σ s Q E} a h=>
 EB ((H1 a h.2).step λU U U s' au S ev q=>Js ((dR (a.next S) q).to ev λU U a3 s2 gH cH cb bE=>bI (bI (by
  rcases bE with⟨az,bE⟩
  rcases J0 az with⟨m,rfl⟩
  rcases gH with⟨t,rfl⟩
  rcases au.cu cb with⟨ax,T,vs,rfl,it,a0⟩
  have es:aY c.B (sc::c.stk) a3 {s2 with heap:=s2.heap.push {cls:=.type "slice",data:=.fields #[.int m t,.none,.none]}}:=cH.keeps (mP _)
  have fc:=aP.push s2.heap {cls:=.type "slice",data:=.fields #[.int m t,.none,.none]}
  have xh:=fc _ _ it
  have mM:=ev.trans (cb.trans fc)
  have sA:=a0.cu fc
  refine Dc xh.typeIs slot_tuple_getitem.lookup (ak7 xh (D9 _ _ _ _) (λz=> ?_) ((eU.tup (c:=c.on sc) es (by rw[Ej];exact aX (wy _ _) ax) (sA.drop m) bE).lift mM) (aD a0.size (kA ax)))
  rw[Tq,←Ma,←a0.size,z]at bE
  exact .mk (c:=c.on sc) (R:=bq) (a:=.t _) ⟨ax,T,vs,aa,xh,sA⟩ es mM bE))))
theorem i7{P:bU->Prop}{k:ae}(h:((bB r).k==k)=ak)(az:k≠0)(x:P (vI k (bB r))):P r:=(plain (beq_iff_eq.mp h▸az)).ps▸(beq_iff_eq.mp h).symm▸x
def nR(r:bU)(k:ag):Prop:=∀{A:ea}{env:hI}{s:bS}{Q E:ar->bO},(∀t tk,Q (.int k t) {s with toks:=tk})->bg a9 A (hr r env) Q E s
theorem nR.pos{k:ag}{k':xZ}(h:k'=.int k):nR (.Constant k' n p) k:=λq=>aD h (DT (q _ _))
theorem nR.neg{k:ag}{k':xZ}(h:k'=.int (-k)):nR (.UnaryOp .USub (.Constant k' n p) dj) k:=λq=>h▸Jt (DT (Us ((Int.neg_neg k).symm▸q _ _)))
theorem vi.dest{k:ag}(h:vi r k=ak):nR r k:=by
 unfold vi at h
 rcases e:(bB r).k==3 with _|_
 ·rw[e]at h;exact i7 (P:=(nR · k)) (aF (aF h).1).1 ai (nR.pos (ft (aF (aF h).1).2))
 ·rw[e]at h;exact i7 (P:=(nR · k)) e ai (i7 (P:=λei=>nR (.UnaryOp .USub ei _) k) (aF (aF h).1).1 ai (nR.neg (ft (aF (aF h).1).2)))
theorem L2{P t:ae}{l l':af V}{Rg Ri vs:ar}{lo hi st:aw ag}(S:aY c.B c.stk σ s)(aq:σ P=ab ⟨t,.l l⟩)(hs:s.heap.IsSliceOf dG Rg Ri vs)(pl:IsPart Rg lo)(pu:IsPart Ri hi)(c1:IsPart vs st)(h0:st≠ab 0)
  (a7:∀items:dC ar,b7 s.heap l items.toList->b7 s.heap l' (slicePick items lo hi st).toList)(ax:l'.length<=l.length)(q:vNew (.l l') σ Q):dp c bq s.heap (Ja a0 bX (.ref P) (.ref dG)) Q E s:=
 S.list aq _ λus n rj bK a0=>Dc bK.isList.typeIs slot_list_getitem.lookup (wpAny_getItem_list_slice bK.isList hs pl pu c1 h0 (S.newList (tk:=s.toks) (aX ax rj) (a7 us a0) q) (aD a0.size (kA rj)))
theorem aZ8{l:af V}{items:dC ar}{k:ag}(au:b7 h l items.toList):b7 h (ru (.to k) l) (slicePick items aj (ab k) aj).toList:=by
 have cV:l.length=items.size:=au.size.symm
 have hm:∀m,min m l.length<=l.length:=λm=>yp _ _
 unfold ru wZ
 dsimp only
 by_cases az:0<=k
 ·rcases J0 az with⟨m,rfl⟩
  rw[bk az,slicePick_upto',show l.take (min (m:ag).toNat l.length)=l.take m by rw[Tq,←List.take_take,TV]]
  exact au.take m
 ·rcases Int.eq_negSucc_of_lt_zero (Int.not_le.mp az)with⟨m,rfl⟩
  rw[bh az,show(Int.negSucc m)= -((m+1:ae):ag)from aa,slicePick_butLast _ _ (oD _),cV,show((items.size:ag)+ -((m+1:ae):ag)).toNat=items.size - (m+1)from by rw[←Int.sub_eq_add_neg,J4]]
  exact au.take _
theorem U9{k:ag}(aK:nR bX k)(H1:bZ b aq a0):bZ b (.S (.to k) aq) (.Subscript a0 (.Slice aj (ab bX) aj dj) p):=λ{c sc σ s Q E} a h=>
 EB ((H1 a h.2).step λU U ah s' au S ev q=>Js (bI (aK λt tk=>bI (by
  rcases q with⟨e,q⟩|⟨z,lt,q⟩
  rotate_left
  ·rcases au with⟨ax,T,vs,rfl,it,a0⟩
   rename_i m
   injection z with z
   subst z
   have es:aY c.B (sc::c.stk) ah {s' with heap:=s'.heap.push {cls:=.type "slice",data:=.fields #[.none,.int m t,.none]},toks:=tk}:=S.keeps (mP _)
   have fc:=aP.push s'.heap {cls:=.type "slice",data:=.fields #[.none,.int m t,.none]}
   have xh:=fc _ _ it
   exact Dc xh.typeIs slot_tuple_getitem.lookup (ak9 xh (D9 _ _ _ _) (by rw[a0.size];exact lt) ((eU.tup (c:=c.on sc) es (by rw[TK];exact aX (yp _ _) ax) ((a0.cu fc).take m) q).lift (ev.trans fc)) (aD a0.size (kA ax)))
  cases au
  exact(L2 (c:=c.on sc) (l':=ru (.to k) _) (s:={s' with heap:=s'.heap.push {cls:=.type "slice",data:=.fields #[.none,.int k t,.none]},toks:=tk}) (S.keeps (mP _)) e (D9 _ _ _ _) .none (.int k t) .none nofun (λitems r=>aZ8 r) (List.length_take_le' _ _) q).lift (ev.trans (aP.push _ _))))))
theorem U5(aK:nR bX (-1))(H1:bZ b aq a0):bZ b (.S .rev aq) (.Subscript a0 (.Slice aj aj (ab bX) dj) p):=λ{c sc σ s Q E} a h=>
 EB ((H1 a h.2).step λU U ah s' au S ev q=>Js (bI (bI (aK λt tk=>by
  rcases q with⟨e,q⟩|⟨z,_,_⟩
  rotate_left
  ·cases z
  cases au
  exact(L2 (c:=c.on sc) (l':=ru .rev _) (s:={s' with heap:=s'.heap.push {cls:=.type "slice",data:=.fields #[.none,.none,.int (-1) t]},toks:=tk}) (S.keeps (mP _)) e (D9 _ _ _ _) .none .none (.int (-1) t) ai (λitems r=>by rw[krv_pick];exact r.reverse) (eK (Em)) q).lift (ev.trans (aP.push _ _))))))
end
end
section
open PySem.SeqAt
def bo.and(B:bo)(a:a8)(o:bj):bo where
 f:=λb=>(B.f b).orElse λU=>if b=a then ab o else aj
 old:=B.old
 base:=λb h=>(B.base b h).imp λx e=>by rw[e];rfl
 h0:=λb x e=>by rw[B.h0 b x e];rfl
section
variable{B B':bo}{stk:af Sc}{a:a8}{o o' x:bj}{σ:H}{ρ:fX}{s:bS}{h' h₀:bw}{tk:ae}{c:cS}{E:bR}
theorem bo.oS(a6:B.f a=aj):(B.and a o).f a=ab o:=by unfold bo.and;dsimp only;rw[a6];exact bk rfl
theorem bo.mG{b:a8}(e:(B.and a o).f b=ab x):B.f b=ab x\/(b=a/\x=o):=by
 unfold bo.and at e
 rcases q:B.f b with _|y
 ·dsimp only at e;rw[q]at e
  by_cases z:b=a
  ·exact .inr ⟨z,(cR ((bk z).symm.trans e)).symm⟩
  ·cases(bh z).symm.trans e
 ·dsimp only at e;rw[q]at e;exact .inl e
theorem bo.oT{b:a8}(a6:B.f a=aj)(e:B.f b=ab x):b≠a:=λz=>nomatch a6.symm.trans ((aU B.f z).symm.trans e)
theorem bo.rp(a6:B.f a=aj):¬ B.old a:=λq=>(B.base a q).elim λU e=>nomatch a6.symm.trans e
theorem ni{P:a8->Prop}(h:P a):∀b,b=a->P b:=λU z=>z.symm▸h
theorem eu.swap{P:a8->Prop}(S:eu B stk σ ρ s)(dF:∀a,P a->ρ a=aj)(na:∀a,P a->¬ B.old a)(aO:∀b,B.old b->B'.old b)(dt:∀b x,B'.f b=ab x->(¬ P b/\B.f b=ab x)\/(P b/\h'.get? b=ab x))(bY:∀b,¬ P b->eT s.heap h' b)(ev:aP s.heap h'):eu B' stk σ ρ {s with heap:=h',toks:=tk}where
 os:=S.os
 gens:=S.gens
 h:=
  have ne:∀b r,ρ b=ab r->eT s.heap h' b:=λb r e=>bY b λz=>nomatch (dF b z).symm.trans e
  {keep:=λb x e=>(dt b x e).elim (λz=>bY b z.1 _ (S.h.keep b x z.2)) λz=>z.2
   old:=λb x e=>(dt b x e).elim (λz=>S.h.old b x z.2) λz=>dF b z.1
   k7:=λb q=>let⟨r,au⟩:=EA.mp q;(S.h.k7 b q).imp λx e=>ne b r au x e
   objs:=λb x e=>
    have z:=S.h.objs b x e
    have n:¬ P b:=λq=>by
     by_cases t0:x.tag=0
     ·exact na b q (z.old t0)
     ·exact nomatch (dF b q).symm.trans (z.new t0)
    have y:=z.but ev (λU U e=>e) (bY b n) λd=>ne d _
    ⟨y.new,λt=>aO b (y.old t),y.rep⟩
   ff:=S.h.ff.but ev (λU U U e=>e) (λU U U e=>e) (λb n m U e=>Ns.il (ne b _ e)) λb w j y U e=>Cell.il (ne b _ e)}
theorem aP.N8(bY:∀b,b≠a->eT s.heap h' b)(n:∀vs,¬ s.heap.IsTuple a vs):aP s.heap h':=λb vs z=>let⟨o,aO,r⟩:=z;⟨o,bY b (λe=>n vs (aR e z)) o aO,r⟩
theorem Cj(e:s.heap.get? a=ab o)(h:o.cls≠.type "tuple"):∀vs,¬ s.heap.IsTuple a vs:=λU⟨_,dO,c,_⟩=>h (by cases e.symm.trans dO;exact c)
theorem aY.free(S:aY B stk σ s)(e:s.heap.get? a=aj):B.f a=aj:=S _ λU S=>S.h.free e
theorem aY.at_(S:aY (B.and a o) stk σ s)(a6:B.f a=aj):s.heap.get? a=ab o:=S _ λU S=>S.h.keep a o (bo.oS a6)
theorem aY.freeze(S:aY B stk σ s)(az:∀b,eT s.heap h' b)(a6:s.heap.get? a=aj)(cg:h'.get? a=ab o):aY (B.and a o) stk σ {s with heap:=h',toks:=tk}:=S _ λU S=>
 (S.swap (P:=(·=a)) (B':=B.and a o) (ni (S.h.none_of a6).2) (ni (bo.rp (S.h.free a6))) (λU=>id) (λb x e=>(bo.mG e).imp (λz=>⟨bo.oT (S.h.free a6) z,z⟩) λz=>⟨z.1,z.1.symm▸z.2▸cg⟩) (λb U=>az b) (aP.keeps az)).sim
theorem aY.push(S:aY B stk σ s)(hf:o.isFreed=av):aY (B.and s.heap.objs.size o) stk σ {s with heap:=s.heap.push o}:=S.freeze (mP o) (iR (da _)) (lr _ hf)
theorem aY.turn(S:aY (B.and a o) stk σ s)(a6:B.f a=aj)(dU:o.cls≠.type "tuple")(bY:∀b,b≠a->eT s.heap h' b)(cg:h'.get? a=ab o'):aY (B.and a o') stk σ {s with heap:=h',toks:=tk}/\aP s.heap h':=
 have ev:=aP.N8 bY (Cj (S.at_ a6) dU)
 ⟨S _ λU S=>(S.swap (P:=(·=a)) (B':=B.and a o') (ni (S.h.old a o (bo.oS a6))) (ni (bo.rp (B:=B) a6)) (λU=>id) (λb x e=>(bo.mG e).imp (λz=>⟨bo.oT a6 z,by unfold bo.and;dsimp only;rw[z];rfl⟩) λz=>⟨z.1,z.1.symm▸z.2▸cg⟩) bY ev).sim,ev⟩
theorem eu.lR(S:eu (B.and a o) stk σ ρ s)(a6:B.f a=aj)(dU:o.cls≠.type "tuple")(bY:∀b,b≠a->eT s.heap h' b):eu B stk σ ρ {s with heap:=h',toks:=tk}/\ρ a=aj/\aP s.heap h':=
 have ev:=aP.N8 bY (Cj (S.h.keep a o (bo.oS a6)) dU)
 have dF:=S.h.old a o (bo.oS a6)
 ⟨S.swap (P:=(·=a)) (ni dF) (ni (bo.rp (B:=B) a6)) (λU=>id) (λb x e=>.inl ⟨bo.oT a6 e,by unfold bo.and;dsimp only;rw[e];rfl⟩) bY ev,dF,ev⟩
theorem aY.lR(S:aY (B.and a o) stk σ s)(a6:B.f a=aj)(dU:o.cls≠.type "tuple")(bY:∀b,b≠a->eT s.heap h' b):aY B stk σ {s with heap:=h',toks:=tk}/\aP s.heap h':=S _ λU S=>⟨(S.lR a6 dU bY).1.sim,(S.lR (tk:=0) a6 dU bY).2.2⟩
theorem hM.lR{m:Mark}{e:ae}(a6:B.f a=aj)(dU:o.cls≠.type "tuple")(p:hM (B.and a o) stk m h₀ E e s):hM B stk m h₀ E e s:=λU k=>p _ λσ ρ t C fs r S=>k σ ρ t C fs r (S.lR (tk:=s.toks) a6 dU λU U U e=>e).1
theorem gE.lR{x:ar}(a6:c.B.f a=aj)(dU:o.cls≠.type "tuple")(p:gE (c.up (c.B.and a o)) h₀ E x s):gE c h₀ E x s:=λU k=>p _ λe m q hm z=>k e m q hm (z.lR a6 dU)
theorem eu.adopt{D:a8}{d:dN}{Q:bQ}{b3:bj}(S:eu c.B c.stk σ ρ s)(kZ:ρ D=aj)(dt:c.B.f D=aj)(c8:s.heap.get? D=ab b3)(h:vNew d σ Q)(hd:∀ρ,m8 s.heap ρ D d):eU c bq s.heap Q (.ref D) s:=
 have GN:σ D=aj:=mS (P:=dg) (β:=h8) (λo e=>if t0:o.tag=0 then bo.rp dt ((S.h.objs D o e).old t0)else nomatch kZ.symm.trans ((S.h.objs D o e).new t0)) id
 let⟨_,aS,b4⟩:=h D GN
 .mk (a:=.r D) aa (eu.sim ⟨S.h.new (λU U e=>e) kZ dt ⟨_,c8⟩ λρ' e=>⟨λU=>e,λz=>aV z aS,hd ρ'⟩,S.os,S.gens⟩) (aP.refl _) b4
end
end
section
open PySem.SeqAt
section
variable{b:dh}{c:cS}{A:ea}{stk:af Sc}{sc:Sc}{σ ah:H}{s s':bS}{Q:bQ}{E:bR}{h₀ h:bw}{x:a5}{v w:ar}{p dj:el}{e aq e2:aW}{r a0 bX:bU}{ao:af aW}{rs vs:af bU}{eg:af (aw bU)}{n:ae}{env:hI}{k:tZ}
def Ct(env:hI)(p:el):af (aw bU)->af bU->af (fq ar×fq ar)
 |some k::eg,v::vs=>(hr k env,do let x←hr v env;pG p;br x)::Ct env p eg vs
 |_,_=>[]
def F6:af (ar×ar)->af ar
 |[]=>[]
 |(k,v)::r=>k::v::F6 r
structure t2(b:dh)(ao:af aW)(eg:af (aw bU))(vs:af bU):Prop where
 shape:∀env p,(R' eg env).zip ((Jk vs env).map λv=>do let x←v;pG p;br x)=(Ct env p eg vs).map (λp=>(ab p.1,p.2))
 len:∀env p,(Ct env p eg vs).length=eg.length
 run:∀{c:cS}{sc:Sc}{σ:H}{s:bS}{Q:af V->dn}{E:bR}(p:el),At b c sc σ s->h4 X.T.bp b.F b.hd sc.lm ao σ Q E->dp (c.on sc) (λh l c1=>b7 h l (F6 c1)) s.heap (evalPairs (Ct sc.env p eg vs)) Q E s
theorem UH:t2 b [] [] []:=⟨λU U=>aa,λU U=>aa,λU a h=>evalPairs_nil (.mk (a:=[]) aa a.sim (aP.refl _) h)⟩
theorem UG(H1:bZ b aq a0)(dR:bZ b e2 bX)(H:t2 b ao eg vs):t2 b (aq::e2::ao) (ab a0::eg) (bX::vs)where
 shape:=λenv p=>aU (_::·) (H.shape env p)
 len:=λenv p=>aU (·+1) (H.len env p)
 run:=λp a h=>evalPairs_cons ((H1 a h).step λU U U U au S ev q=>aN ((dR (a.next S) q).to ev λU U U U gH cH cb bE=>aN (qE (bI
  ((H.run p (a.next cH) bE).to (ev.trans cb) λl U U U sA es fc d'=>.mk (a:=_::_::l) (.cons (au.cu (cb.trans fc)) (.cons (gH.cu fc) sA)) es ((ev.trans cb).trans fc) d')))))
theorem MU(K:X.Ok)(S:aY c.B stk σ s):(s.heap.objs.size==pH)=av:=
 beq_eq_false_iff_ne.mpr λe=>nN _ (e▸modules_low (K.nolimit.keeps S.base))
theorem b7.Q5{l:af V}{ws:af ar}(h1:b7 h l (w::ws)):∀C:Prop,(∀v l',l=v::l'->bq h v w->b7 h l' ws->C)->C:=λU k=>by
 rcases l with _|⟨v,l⟩
 ·cases(show _::_=[]from h1)
 ·refine tp h1 λU U e a b=> ?_;cases e;exact k v l aa a b
def Bc{K K':Type} [j6 K] [j6 K'](ay:K->K'->Prop)(knd:tu X.prog X.w K')(mk:af (K×V)->dN):Prop:=
 ∀(h:bw) ao k v o,w1 (mk ao) k v=ab o->∀C:Prop,(∀x,o=mk (dA ao x v)->ao.length<bN->(∀w,bq h k w->∃y,ay x y/\knd.is y w=ak)->C)->C
theorem Cv{α:Type}{n:ae}{a o:α}(h:(if n<bN then ab a else aj)=ab o):n<bN/\o=a:=by
 by_cases z:n<bN
 ·exact⟨z,(cR ((bk z).symm.trans h)).symm⟩
 ·cases(bh z).symm.trans h
theorem aM3:Bc Ad iS .d:=λU U U U U e U f=>eD e λi aq e2=>f i (Cv e2).2 (Cv e2).1 λw hw=>⟨i,aa,by rw[q2 aq]at hw;exact hw.ints λU=>jG i⟩
theorem aM5:Bc Iw sK .s:=λU U U U U e U f=>eD e λi aq e2=>f i (Cv e2).2 (Cv e2).1 λw hw=>by
 rw[yM aq]at hw
 rcases hw with⟨y,t,e,rfl⟩
 exact⟨y,e,jG y⟩
section
variable{K K':Type} [j6 K] [j6 K']{ay:K->K'->Prop}{knd:tu X.prog X.w K'}{mk:af (K×V)->dN}
theorem aM2(T:mD ay)(P:Bc ay knd mk):∀(c1:af (ar×ar)){l:af V}{ao:af (K×V)}{o:dN}{kvs:af (K'×ar)},b7 h l (F6 c1)->putAll l (mk ao)=ab o->fV ay h ao kvs->ao.length<=bN->
  ∀C:Prop,(∀l6 more,o=mk l6->Carries knd c1 more->fV ay h l6 (merged kvs more)->l6.length<=bN->C)->C:=by
 intro c1
 induction c1 with
 |nil=>
  intro l ao o kvs au a7 az ax C f
  rcases l with _|⟨v,l⟩
  ·cases a7;exact f ao [] aa trivial az ax
  ·refine xV au λU U e U=> ?_;cases e
 |cons q c1 aI=>
  intro l ao o kvs au a7 az ax C f
  exact au.Q5 _ λa l1 aq a0 au=>au.Q5 _ λb d2 e2 bX au=>by
   rw[aq,e2]at a7
   exact eD a7 λc5 gK gU=>P h _ _ _ _ gK _ λx p9 qh aE=>(aE _ a0).elim λy ty=>aI au (aR p9 gU) (az.put T ty.1 bX) (E8 qh) C λl6 more dZ i0=>f l6 ((y,q.2)::more) dZ ⟨ty.2,aa,i0⟩
theorem KN(T:mD ay)(P:Bc ay knd mk)(hd:∀(h:bw) ρ a ao,nS knd ay h a ao->m8 h ρ a (mk ao))(az:mk []=k.empty)(sx:eg.length<=15)(a6:eg≠[])(H:t2 b ao eg vs):bZ b (.D k ao) (.Dict eg vs p):=λ{c sc σ s Q E} a h=>by
 refine wpAny_Dict_pairs (knd:=knd) (H.shape sc.env p) (λe=>a6 (pL.mp ((H.len sc.env p).symm.trans (aU yk e)))) (aD (H.len sc.env p) sx) ?_
 have dt:=a.sim.free (iR (da _))
 refine dH (H.run (c:=c.up (c.B.and s.heap.objs.size {cls:=.type "dict",data:=.dict #[]})) p {a with sim:=a.sim.push aa} h.2) (λc1 s2 z=>z _ λl a3 au cH cb q=> ?_) λx s2 z=>(gE.lR (c:=c.on sc) dt ai z).lift (aP.push _ _)
 refine b5 q λo e q=> ?_
 have cE:=cH.at_ dt
 refine aM2 T P c1 au (aD az e) .nil (eL _) _ λl6 more p9 hO c2 lE=>⟨more,hO,?_,λh' c8 bY=>cH _ λρ es=> ?_⟩
 ·refine kj (JW (knd:=knd) s.heap) λo' Fw Yj gg r=> ?_
  cases gg.symm.trans (lr _ aa)
  exact⟨_,Fw,Yj,cE,r⟩
 ·refine Dr (eu.lR (B:=c.B) (tk:=s2.toks+c1.length) es dt ai (λb n=>lK bY n)) λhL dF ig=> ?_
  refine kj (id c8) λb3 U U aO U=> ?_
  exact(eu.adopt (c:=c.on sc) hL dF dt aO q λρ=>aD p9 (hd _ ρ _ _ λU k=>k _ (MU a.k.ok a.sim) lE c8 (c2.cu ig))).lift (((aP.push _ _).trans cb).trans ig)
end
theorem US:bZ b (.D k []) (.Dict [] [] p):=λ{c sc σ s Q E} a h=>wpAny_Dict_empty (by
 refine b5 h.2 λo e q=> ?_
 cases e
 have fr:=MU a.k.ok a.sim
 rcases k with _|_|_
 ·exact aY.newObj (c:=c.on sc) (tk:=s.toks) a.sim aa q λU U k=>k [] fr (eL _) (JW _) .nil
 ·exact aY.newObj (c:=c.on sc) (tk:=s.toks) a.sim aa q λU U k=>k [] fr (eL _) (JW _) .nil
 ·exact aY.newObj (c:=c.on sc) (tk:=s.toks) a.sim aa q λU U k=>k [] fr (eL _) (bj5 _) .nil)
theorem UT(sx:eg.length<=15)(a6:eg≠[])(H:t2 b ao eg vs):bZ b (.D .i ao) (.Dict eg vs p):=KN uy aM3 (λU U U U x=>x) aa sx a6 H
theorem UU(sx:eg.length<=15)(a6:eg≠[])(H:t2 b ao eg vs):bZ b (.D .s ao) (.Dict eg vs p):=λa h=>KN (Iy a.k.ok.cP) aM5 (λU U U U x=>x) aa sx a6 H a h
end
end
section
open PySem.SeqAt
structure ue where
 k:ae
 p:el
 ao:af bU
 op:tv
 b1:af eJ
 b2:af eJ
 hs:af rF
def sd(k:ae)(p:el)(ao:af bU:=[])(op:tv:=.Add)(b1:af eJ:=[])(b2:af eJ:=[])(hs:af rF:=[]):ue:=⟨k,p,ao,op,b1,b2,hs⟩
def iG:ue:=sd 0 qz
def rD(r:eJ):ue:=r.casesOn
 (λU U U U U U U U U U=>iG) (λU U U U U U U U U U=>iG) (λU U U U U U U U U U U=>iG)
 (λv p=>match v with|ab e=>sd 1 p [e]|aj=>sd 2 p)
 (λcF p=>match cF with|[t]=>sd 11 p [t]|_=>iG)
 (λcF v p=>match cF with|[t]=>sd 3 p [t,v]|_=>iG) (λU U U U U U U=>iG)
 (λt o v p=>sd 4 p [t,v] o) (λU U U U U=>iG)
 (λt i b o p=>match o with|[]=>sd 8 p [t,i] (b1:=b)|_=>iG) (λU U U U U=>iG)
 (λc b o p=>match o with|[]=>sd 7 p [c] (b1:=b)|_=>iG)
 (λc a b p=>sd 6 p [c] (b1:=a) (b2:=b)) (λU U U=>iG) (λU U U=>iG) (λU U U=>iG)
 (λe c p=>match e,c with|ab e,aj=>sd 9 p [e]|_,_=>iG)
 (λb hs o f p=>match o,f with|[],[]=>sd 10 p (b1:=b) (hs:=hs)|_,_=>iG)
 (λU U U U U=>iG) (λU U U=>iG) (λU U=>iG) (λU U U U=>iG) (λU U=>iG) (λU U=>iG)
 (λe p=>sd 5 p [e]) (λp=>sd 12 p) (λU=>iG) (λp=>sd 13 p)
def ue.e(d:ue)(i:ae):bU:=d.ao.getD i dead
def PR(k:ae)(d:ue):eJ:=[.Pass d.p,.Return (ab (d.e 0)) d.p,.Return aj d.p,.Assign [d.e 0] (d.e 1) d.p,.AugAssign (d.e 0) d.op (d.e 1) d.p,.Expr (d.e 0) d.p,.If (d.e 0) d.b1 d.b2 d.p,.While (d.e 0) d.b1 [] d.p,
 .For (d.e 0) (d.e 1) d.b1 [] d.p,.Raise (ab (d.e 0)) aj d.p,.Try d.b1 d.hs [] [] d.p,.Delete [d.e 0] d.p,.Pass d.p,.Continue d.p].getD k (.Pass d.p)
theorem plainS{r:eJ}(h:(rD r).k≠0):PR (rD r).k (rD r)=r:=by
 cases r<;>first|exact aV rfl h|rfl|skip
 ·rename_i v p;cases v<;>rfl
 ·rename_i cF p;rcases cF with _|⟨t,_|_⟩<;>first|exact aV rfl h|rfl
 ·rename_i cF v p;rcases cF with _|⟨t,_|_⟩<;>first|exact aV rfl h|rfl
 ·rename_i t i b o p;cases o<;>first|exact aV rfl h|rfl
 ·rename_i c b o p;cases o<;>first|exact aV rfl h|rfl
 ·rename_i e c p;cases e<;>cases c<;>first|exact aV rfl h|rfl
 ·rename_i b hs o f p;cases o<;>cases f<;>first|exact aV rfl h|rfl
theorem kU{r:eJ}{P:eJ->Prop}{k:ae}(h:((rD r).k==k)=ak)(az:k≠0)(x:P (PR k (rD r))):P r:=plainS (beq_iff_eq.mp h▸az)▸(beq_iff_eq.mp h).symm▸x
mutual
noncomputable def Bm(sn:af a5)(aT:fK):St->ue->aB
 | .r e,d=>d.k==1&&ed (ec sn aT e) (d.e 0)
 | .mg,d=>d.k==2
 | .a n e,d=>d.k==3&&(isName (d.e 0) (λx=>sn[n]? ==ab x&&n7 aT x)&&ed (ec sn aT e) (d.e 1))
 | .kh ns e,d=>d.k==3&&((bB (d.e 0)).k==10&&((bB (d.e 1)).k != 14&&((bB (d.e 1)).k != 10&&(decide (2<=ns.length)&&(oY sn aT ns (bB (d.e 0)).ao&&ed (ec sn aT e) (d.e 1))))))
 | .A o f e,d=>d.k==3&&((bB (d.e 0)).k==8&&((bB (d.e 1)).k != 14&&(lP[f]? ==ab (bB (d.e 0)).x&&(ed (ec sn aT e) (d.e 1)&&ed (ec sn aT o) ((bB (d.e 0)).e 0)))))
 | .S o i e,d=>d.k==3&&((bB (d.e 0)).k==9&&((bB (d.e 1)).k != 14&&(dy (bB ((bB (d.e 0)).e 1)).k 18&&(ed (ec sn aT e) (d.e 1)&&(ed (ec sn aT o) ((bB (d.e 0)).e 0)&&ed (ec sn aT i) ((bB (d.e 0)).e 1))))))
 | .p4 n op e,d=>d.k==4&&(isName (d.e 0) (λx=>nameOk x&&(sn[n]? ==ab x&&n7 aT x))&&(decide (op=.a)&&(decide (d.op=.Add)&&ed (ec sn aT e) (d.e 1))))
 | .q3 o i op e,d=>d.k==4&&((bB (d.e 0)).k==9&&(decide (op=.a)&&(decide (d.op=.Add)&&(dy (bB ((bB (d.e 0)).e 1)).k 18&&(ed (ec sn aT o) ((bB (d.e 0)).e 0)&&(ed (ec sn aT i) ((bB (d.e 0)).e 1)&&ed (ec sn aT e) (d.e 1)))))))
 | .e e,d=>d.k==5&&((bB (d.e 0)).k != 14&&ed (ec sn aT e) (d.e 0))
 | .i c a b,d=>d.k==6&&(ed (ec sn aT c) (d.e 0)&&(p5 sn aT a d.b1&&p5 sn aT b d.b2))
 | .pA c b,d=>d.k==7&&(ed (ec sn aT c) (d.e 0)&&p5 sn aT b d.b1)
 | .dw ns src over b,d=>d.k==8&&((src != .e||decide (2<=ns.length))&&(Ab sn aT ns (d.e 0)&&((match vP aT src (d.e 1)with
   |some rs=>lF sn aT over rs
   |none=>av)&&p5 sn aT b d.b1)))
 | .R C ao,d=>d.k==9&&((bB (d.e 0)).k==13&&(isName ((bB (d.e 0)).e 0) (λx=>gh aT x&&jy (.cls C) x)&&lF sn aT ao ((bB (d.e 0)).ao.drop 1)))
 | .tf b hs,d=>d.k==10&&(!d.hs.isEmpty&&(p5 sn aT b d.b1&&Fm sn aT hs d.hs))
 | .del o i,d=>d.k==11&&((bB (d.e 0)).k==9&&(ed (ec sn aT o) ((bB (d.e 0)).e 0)&&ed (ec sn aT i) ((bB (d.e 0)).e 1)))
 | .pass,d=>d.k==12
 | .cont,d=>d.k==13
 | .bad,_=>ak
noncomputable def p5(sn:af a5)(aT:fK):af St->af eJ->aB
 |[],rs=>rs.isEmpty
 |s::ss,r::rs=>Bm sn aT s iG||Bm sn aT s (rD r)&&p5 sn aT ss rs
 |_,[]=>av
noncomputable def Fm(sn:af a5)(aT:fK):af (ae×aw ae×af St)->af rF->aB
 |[],rs=>rs.isEmpty
 |(C,nm,b)::hs,.ExceptHandler t dB ps _::rs=>(match t with|ab r=>isName r (λx=>gh aT x&&jy (.cls C) x)|aj=>av)&&(match nm,dB with
   |none,aj=>ak
   |some n,ab y=>sn[n]? ==ab y&&aT.lookup y==ab .local
   |_,_=>av)&&(!ps.isEmpty&&(p5 sn aT b ps&&Fm sn aT hs rs))
 |_,[]=>av
end
end
section
open PySem.SeqAt
structure kN(b:dh)(a':ae->cy)(c:cS)(sc:Sc)(σ:H)(s:bS):Prop extends At b c sc σ s where
 own:sc.own=ak
 kinds:∀x,sc.env.kindOf x=b.aT.lookup x
 BC:∀e,A1 (ab e) b.n (a' e)
abbrev dD(b:dh)(a':ae->cy)(st:St)(r:eJ):Prop:=∀{c:cS}{sc:Sc}{σ:H}{s:bS}{k:cT},kN b a' c sc σ s->IJ X.T.bp b.F a' b.hd st sc.lm σ k->oQ c sc s.heap (exec r sc.env) k s
abbrev mC(b:dh)(a':ae->cy)(ss:af St)(rs:af eJ):Prop:=∀{c:cS}{sc:Sc}{σ:H}{s:bS}{k:cT},kN b a' c sc σ s->mj X.T.bp b.F a' b.hd ss sc.lm σ k->oQ c sc s.heap (v9 rs sc.env) k s
section
variable{b:dh}{a':ae->cy}{c:cS}{A:ea}{stk:af Sc}{sc:Sc}{σ ah:H}{s s':bS}{Q:bQ}{E:bR}{h₀ h cv:bw}{x:a5}{v w:ar}{p dj:el}{e aq e2 bF:aW}{r a0 bX g':bU}{ao:af aW}{rs:af bU}{k:cT}{n:ae}{st:St}{ss QD:af St}{q:eJ}{fo PM:af eJ}
theorem FS.mk{P:bf->dn}{lm:bf}(S:aY c.B (sc.at_ lm::c.stk) σ s)(e:aP h₀ s.heap)(q:P lm σ):FS c sc h₀ P s:=λU k=>k lm σ S e q
theorem FS.now{P:bf->dn}(S:aY c.B (sc::c.stk) σ s)(e:aP h₀ s.heap)(q:P sc.lm σ):FS c sc h₀ P s:=λU k=>k sc.lm σ S e q
theorem FS.lift{P:bf->dn}(e:aP h₀ cv)(z:FS c sc cv P s):FS c sc h₀ P s:=λU k=>z _ λlm σ S d q=>k lm σ S (e.trans d) q
theorem lz.lift{f:jE}(e:aP h₀ cv)(z:lz c sc cv k f s):lz c sc h₀ k f s:=by
 cases f with
 |brk=>exact z
 |_=>exact FS.lift e z
theorem hK.lift(e:aP h₀ cv)(z:hK c sc cv k v s):hK c sc h₀ k v s:=λU f=>z _ λlm y=>f lm (y.lift e)
theorem oQ.lift{t:fq jE}(e:aP h₀ cv)(p:oQ c sc cv t k s):oQ c sc h₀ t k s:=dH p (λU U z=>z.lift e) λU U z=>z.lift e
theorem dp.ir{α β:Type}{R:bw->α->β->Prop}{t:fq β}{Q:α->dn}{W:β->bO}(p:dp (c.on sc) R s.heap t Q (λa σ=>k.x a sc.lm σ) s)(ev:aP h₀ s.heap)(f:∀a b σ s',R s'.heap a b->aY c.B (sc::c.stk) σ s'->aP s.heap s'.heap->Q a σ->W b s'):bg a9 c.A t W (hK c sc h₀ k) s:=
 dH p (λb s' z=>z _ λa σ r S e q=>f a b σ s' r S e q) λU U z U g=>g sc.lm (z.lift ev)
theorem kN.next(a:kN b a' c sc σ s)(S:aY c.B (sc::c.stk) ah s'):kN b a' c sc ah s':={a with toAt:=a.toAt.next S}
theorem At.at_{lm:bf}(a:At b c sc σ s)(S:aY c.B (sc.at_ lm::c.stk) ah s'):At b c (sc.at_ lm) ah s':=⟨a.k,a.names,a.gl,a.cl,a.fn,⟨a.a.handled,(frs_at lm).symm▸a.a.frames,a.a.depth,a.a.units⟩,S⟩
theorem kN.at_{lm:bf}(a:kN b a' c sc σ s)(S:aY c.B (sc.at_ lm::c.stk) ah s'):kN b a' c (sc.at_ lm) ah s':=⟨a.toAt.at_ S,a.own,a.kinds,a.BC⟩
def Binds(sc:Sc)(aT:fK):Prop:=∀x,n7 aT x=ak->sc.NT x
theorem kN.binds(a:kN b a' c sc σ s):Binds sc b.aT:=λx h=>((nH _ _).mp h).elim (λh=>.inl ((a.kinds x).trans (beq_iff_eq.mp h))) λh=>.inr ⟨a.own,(a.kinds x).trans (beq_iff_eq.mp h)⟩
theorem VL:dD b a' .pass (.Pass p):=λa h=>wpAny_Pass (FS.now a.sim (aP.refl _) h)
theorem VG:dD b a' .cont (.Continue p):=λa h=>wpAny_Continue (FS.now a.sim (aP.refl _) h)
theorem VO:dD b a' .mg (.Return aj p):=λa h=>wpAny_Return_none (FS.now a.sim (aP.refl _) ⟨.n,aa,h⟩)
theorem VN(H:bZ b e r):dD b a' (.r e) (.Return (ab r) p):=λa h=>wpAny_Return_some ((H a.toAt h).ir (aP.refl _) λu U U U au S ev q=>FS.now S ev ⟨u,au,q⟩)
theorem VI(a7:Plain r)(az:(bB r).k≠14)(H:bZ b e r):dD b a' (.e e) (.Expr r p):=λa h=>
 wpAny_Expr_any ((H a.toAt h).ir (aP.refl _) λU U U U U S ev q=>FS.now S ev q) (a.C5 _ λU S=>by unfold interactive;rw[S.kind];rfl) (a7.swap az _ _ _)
theorem VK(H:TS b e r)(H1:mC b a' ss fo)(dR:mC b a' QD PM):dD b a' (.i e ss QD) (.If r fo PM p):=λa h=>
 wpAny_If ((H a.toAt h λU U=>id).ir (aP.refl _) λt U U U au S ev q=>by
  cases au
  cases t
  ·exact oQ.lift ev (dR (a.next S) q)
  ·exact oQ.lift ev (H1 (a.next S) q))
theorem VV:mC b a' [] []:=λa h=>DW (FS.now a.sim (aP.refl _) h)
theorem VU(H:dD b a' st q)(dR:mC b a' ss fo):mC b a' (st::ss) (q::fo):=λa h=>wpAny_execs_cons (dH (H a h) (λf s' z=>by
 rcases f with _|_|_|v
 ·exact z _ λlm ah S ev q=>oQ.lift (sc:=Sc.at_ _ lm) ev (dR (a.at_ S) q)
 ·exact z
 ·exact z
 ·exact z) λU U z=>z)
theorem VC(a6:b.sn[n]? =ab x)(bb:n7 b.aT x=ak)(a7:Plain r)(az:(bB r).k≠14)(H:bZ b e r):dD b a' (.a n e) (.Assign [.Name x dj] r p):=λa h=>
 Sn ((H a.toAt h).ir (aP.refl _) λU U U U au S ev q=>vQ S (aD a.names a6) (a.binds x bb) au λU cH cb=>FS.mk cH (ev.trans cb) q) (a7.swap az _ _ _)
def qW(sn:af a5)(aT:fK):af ae->af bU->Prop
 |[],[]=>gN
 |n::ns,r::rs=>(∃x p,r=.Name x p/\sn[n]? =ab x/\n7 aT x=ak)/\qW sn aT ns rs
 |_,_=>dg
theorem isName.dest{P:a5->aB}(h:isName r P=ak):∃x p,r=.Name x p/\P x=ak:=i7 (P:=λei=>∃x p,ei=.Name x p/\P x=ak) (aF h).1 ai ⟨_,_,aa,(aF h).2⟩
theorem oY.dest{sn:af a5}{aT:fK}:∀{ns:af ae}{rs:af bU},oY sn aT ns rs=ak->qW sn aT ns rs
 |[],[],_=>trivial
 |_::_,_::_,h=>⟨(isName.dest (aF h).1).imp λU z=>z.imp λU z=>⟨z.1,beq_iff_eq.mp (aF z.2).1,(aF z.2).2⟩,oY.dest (aF h).2⟩
 |[],_::_,h=>aV h d6
 |_::_,[],h=>aV h d6
theorem qW.each{sn:af a5}{aT:fK}{env:hI}:∀{ns:af ae}{rs:af bU},qW sn aT ns rs->(Av rs env).length=ns.length/\(Av rs env).findIdx? (·.1)=aj
 |[],[],_=>⟨aa,aa⟩
 |_::_,_::rs,h=>by
  rcases h.1 with⟨x,p,rfl,_⟩
  have i:=qW.each (env:=env) h.2
  exact⟨aU (·+1) i.1,(List.findIdx?_cons (xs:=Av rs env)).trans (by rw[i.2];rfl)⟩
theorem Ww{sn:af a5}{aT:fK}{B:bo}{F:ar->bO}:∀(ns:af ae){rs:af bU}{l:af V}{ws:af ar}{sc:Sc}{s:bS}{W:bO},qW sn aT ns rs->sc.names=sn->Binds sc aT->aY B (sc::stk) σ s->b7 s.heap l ws->l.length=ns.length->
  (∀s',aY B (sc.at_ (iW sc.lm ns l)::stk) σ s'->aP s.heap s'.heap->W s')->bg a9 A (assignInOrder ((Av rs sc.env).map (·.2)) ws) (λU s'=>W s') F s:=by
 intro ns
 induction ns with
 |nil=>
  intro rs l ws sc s W h _ _ S au ax q
  rcases rs with _|⟨_,_⟩
  ·cases(pL.mp ax);cases(show ws=[]from au);exact bI (q s S (aP.refl _))
  ·exact h.elim
 |cons n ns aI=>
  intro rs l ws sc s W h a6 f S au ax q
  rcases rs with _|⟨oj,rs⟩
  ·exact h.elim
  ·rcases l with _|⟨v,l⟩
   ·cases ax
   ·rcases au with⟨w,r,rfl,h1,h2⟩
    rcases h.1 with⟨x,p,rfl,hO,c2⟩
    exact aN (lq (Ju (vQ S (aD a6 hO) (f _ c2) h1 λs2 cH cb=>aI (sc:=sc.at_ (sc.lm.set n (ab v))) h.2 a6 f cH (h2.cu cb) (wz ax) λs3 es fc=>q s3 es (cb.trans fc))))
theorem Q1{sn:af a5}{aT:fK}{B:bo}{F:ar->bO}{ns:af ae}{l:af V}{W:bO}(h:qW sn aT ns rs)(a6:sc.names=sn)(f:Binds sc aT)(S:aY B (sc::stk) σ s)(bG:A.handled=aj)(au:bq s.heap (.t l) w)(ax:l.length=ns.length)
  (q:∀s',aY B (sc.at_ (iW sc.lm ns l)::stk) σ s'->aP s.heap s'.heap->W s'):bg a9 A (tx (.Tuple rs n p) sc.env w) (λU s'=>W s') F s:=by
 rcases au with⟨_,t,items,rfl,it,a0⟩
 have g:=h.each (env:=sc.env)
 refine wpAny_assign_Tuple bG it (g.1.trans (ax.symm.trans a0.size.symm)) g.2 λh' bY=> ?_
 have az:∀b,eT s.heap h' b:=λb o e=>bY b o (λz=>aV (rM e) (aR z (nN _))) e
 exact Ww ns h a6 f (S.keeps (tk:=s.toks) az) (a0.cu (aP.keeps az)) ax λs' er ev=>q s' er ((aP.keeps az).trans ev)
theorem VS{ns:af ae}(aS:qW b.sn b.aT ns rs)(a7:Plain r)(az:(bB r).k≠14)(o4:(bB r).k≠10)(H:bZ b e r):dD b a' (.kh ns e) (.Assign [.Tuple rs n dj] r p):=λ{c sc U U k} a h=>
 Assign_Tuple ((H a.toAt h.2).ir (aP.refl _) λU U U U au S ev q=>by
  rcases q with⟨l,rfl,ax,q⟩
  exact Q1 aS a.names a.binds S (a.a.nh h.1) au ax λs2 cH cb=>FS.mk cH (ev.trans cb) q) (a7.swap az (ab (.Tuple rs n dj)) p.line sc.env) (a7.stores o4 _ _ _ _)
theorem VP{f:ae}(aE:lP[f]? =ab x)(a7:Plain r)(az:(bB r).k≠14)(H1:bZ b aq a0)(H:bZ b e r):dD b a' (.A aq f e) (.Assign [.Attribute a0 x dj] r p):=λ{c sc U U k} a h=>
 plainObj_wpAny_Assign_Attribute ((H a.toAt h).ir (aP.refl _) λU U U U au S ev q=>(H1 (a.toAt.next S) q).ir ev λU U U U gH cH cb bE=>by
  rcases bE with⟨aq,aS,ax,hf,q⟩|⟨aq,aS,ax,hf,q⟩<;>cases gH
  ·exact(aV0 (c:=c.on sc) cH a.k.ok aE (au.cu cb) aq aS ax hf q).ir (ev.trans cb) λU U U U U es fc d'=>FS.now es ((ev.trans cb).trans fc) d'
  ·exact dp.ir (Q:=λU=>k.n sc.lm) (a.k.xs (c:=c.on sc) cH aE (au.cu cb) aq aS ax hf q) (ev.trans cb) λU U U U U es fc d'=>FS.now es ((ev.trans cb).trans fc) d') (a7.swap az _ _ _)
theorem VQ(a7:Plain r)(az:(bB r).k≠14)(H1:bZ b aq a0)(dR:bZ b e2 bX)(H:bZ b e r):dD b a' (.S aq e2 e) (.Assign [.Subscript a0 bX dj] r p):=λ{c sc U U k} a h=>
 wpAny_Assign_Subscript ((H a.toAt h.2).ir (aP.refl _) λU U U U au S ev q=>(H1 (a.toAt.next S) q).ir ev λU U U U gH cH cb bE=>(dR (a.toAt.next cH) bE).ir (ev.trans cb) λU U U U sA es fc d'=>
  (Qr (c:=c.on sc) es a.k.ok a.units (gH.cu fc) sA (au.cu (cb.trans fc)) d').ir ((ev.trans cb).trans fc) λU U U U U hL ig iq=>FS.now hL (((ev.trans cb).trans fc).trans ig) iq) (a7.swap az _ _ _)
theorem VH(H1:bZ b aq a0)(dR:bZ b e2 bX):dD b a' (.del aq e2) (.Delete [.Subscript a0 bX dj] p):=λ{c sc U U k} a h=>
 wpAny_Delete (wpAny_deleteEach_cons (wpAny_delete_Subscript ((H1 a.toAt h.2).ir (aP.refl _) λU U U U au S ev q=>(dR (a.toAt.next S) q).ir ev λU U U U gH cH cb bE=>
  (XO (c:=c.on sc) cH (au.cu cb) gH bE).ir (ev.trans cb) λU U U U U es fc d'=>wpAny_deleteEach_nil (FS.now es ((ev.trans cb).trans fc) d'))))
theorem mZ.Ll{i j:ag}(h:mZ σ Q .a (.i i) (.i j)):Q (.i (i+j)) σ:=by
 rcases h with q|_
 exact q
theorem VE(h1:nameOk x=ak)(a6:b.sn[n]? =ab x)(bb:n7 b.aT x=ak)(H:bZ b e r):dD b a' (.p4 n .a e) (.AugAssign (.Name x dj) .Add r p):=λa⟨i,aq,h⟩=>
 wpAny_AugAssign_Name (Om a.sim (aD a.names a6) aq h1 λw au=>au.ints λt=>(H a.toAt h).ir (aP.refl _) λU U U U au S ev q=>by
  rcases q with⟨j,rfl,q⟩
  have q:=q.Ll
  exact au.ints λu=>iadd_int (vQ (v:=.i (i+j)) S.toks (aD a.names a6) (a.binds x bb) ⟨_,aa⟩ λs2 cH cb=>FS.mk cH (ev.trans cb) q))
theorem VF(a7:Plain bX)(az:dy (bB bX).k 18=ak)(H1:bZ b aq a0)(dR:bZ b e2 bX)(H:bZ b e r):dD b a' (.q3 aq e2 .a e) (.AugAssign (.Subscript a0 bX dj) .Add r p):=λ{c sc U U k} a h=>
 wpAny_AugAssign_SubscriptAny ((H1 a.toAt h.2).ir (aP.refl _) λU U U U au S ev q=>(dR (a.toAt.next S) q).ir ev λU U U U gH cH cb bE=>
  (QK (c:=c.on sc) cH a.k.ok (au.cu cb) gH bE).1.ir (ev.trans cb) λU U U U sA es fc⟨d',hs⟩=>(H (a.toAt.next (hs▸es)) d').ir ((ev.trans cb).trans fc) λU U U U ze hL ig iq=>by
   rcases iq with⟨i,j,rfl,rfl,q⟩
   have q:=q.Ll
   have Bx:=fc.trans ig
   exact sA.ints λt=>ze.ints λu=>iadd_int ((Qr (x:=.i (i+j)) (c:=c.on sc) (aY.toks (tk:=_+1) hL) a.k.ok a.units (au.cu (cb.trans Bx)) (gH.cu Bx) ⟨_,aa⟩ q).ir ((ev.trans cb).trans Bx) λU U U U U i5 kb nB=>FS.now i5 (((ev.trans cb).trans Bx).trans kb) nB)) λU U U=>a7.aug az _ _ _
end
end
section
open PySem.SeqAt
section
variable{b:dh}{a':ae->cy}{c:cS}{B B':bo}{A:ea}{stk:af Sc}{sc:Sc}{σ ah:H}{s s':bS}{Q:bQ}{E:bR}{h₀ h cv:bw}{x:a5}{v w it:ar}{p dj:el}{e aq e2 bF:aW}{r eI:bU}{k:cT}{n:ae}{ss:af St}{fo:af eJ}{ns:af ae}{items:af V}{g:dn}
theorem LP{e:ae}{W:ar->bO}(aO:sc.own=ak)(h:hM B (sc::stk) (.held sc.env.locals) h₀ E e s)(q:∀s',hM B (sc::stk) (.held sc.env.locals) h₀ E e s'->W (.ref e) s'):tC a9 A sc.env W (.ref e) s:=
 h.head (A:=A) (m':=.flying) aa nofun nofun _ λU U U U U g1 g2 fY U U U U=>aN (jF g1 g2 fY (by
  rw[bh (show¬(my _==rT)=ak from d6),show sc.env.frame=ab sc.env.locals from h _ λU U U U U U b9 U U U U U U=>b9.h.ff.1.frame aO]
  exact xK (m':=.held sc.env.locals) aa h nofun nofun q))
theorem Hk(aO:sc.own=ak)(o6:c.A.frames=ab (lJ (sc::c.stk)))(h:hK c sc h₀ k v s):tF a9 c.A sc.env (λe s'=>tC a9 c.A sc.env (hK c sc h₀ k) e s') v s:=
 h _ λlm a7=>a7 _ λe m aE hm h1=>aE▸zH (sc:=sc.at_ lm) aO ((frs_at lm).symm▸o6) h1 hm λs' h'=>LP (sc:=sc.at_ lm) aO h' λs2 h2 U f=>f lm λU k=>k e _ aa (.inr (.inr aa)) h2
def IX(b:dh)(a':ae->cy)(e:aW)(ss:af St)(k:cT)(m:ae)(lm:bf)(σ:H):Prop:=Dn (λlm σ K=>vE X.T.bp b.F b.hd lm e σ (λv σ=>vIf σ v λr=>K r σ) λa σ=>k.x a lm σ) (λlm σ K=>mj X.T.bp b.F a' b.hd ss lm σ ⟨K,K,k.r,k.x⟩) m lm σ k.n
theorem VT(H:TS b e r)(H1:mC b a' ss fo):dD b a' (.pA e ss) (.While r fo [] p):=λ{c sc σ s k} a⟨_,n,h⟩=>by
 refine wpAny_While (codeAny_whileLoop (λm s'=>FS c sc s.heap (IX b a' e ss k m) s') (λm s1 z=>z _ λlm aJ b9 ev hw=> ?_) n (FS.now a.sim (aP.refl _) h))
 rcases m with _|m
 ·exact hw.elim
 ·have a1:=a.at_ b9
  refine dH (H (sc:=sc.at_ lm) (Q:=λt σ=>aG t (mj X.T.bp b.F a' b.hd ss lm σ ⟨IX b a' e ss k m,IX b a' e ss k m,k.r,k.x⟩) (k.n lm σ)) a1.toAt hw λU U=>id) (λt s2 z=>z _ λjg a3 au cH cb q=> ?_) λx s2 z=>Hk a.own a.a.frames λU f=>f lm (z.lift ev)
  cases au
  cases jg
  ·exact DW (FS.mk cH (ev.trans cb) q)
  ·refine dH (H1 (sc:=sc.at_ lm) (a1.next cH) q) (λf s3 z=> ?_) λx s3 z=>Hk a.own a.a.frames (sc:=sc) λU f=>z _ λiD z=>f iD (z.lift (ev.trans cb))
   rcases f with _|_|_|v
   ·exact⟨m,kM _,FS.lift (sc:=sc) (ev.trans cb) z⟩
   ·exact z.elim
   ·exact⟨m,kM _,FS.lift (sc:=sc) (ev.trans cb) z⟩
   ·exact FS.lift (sc:=sc) (ev.trans cb) z
structure Iter(pl:aB)(A:ea)(cv:bw)(items:af V)(g:dn)(it:ar)(J:bo->ae->bo->Prop)(l0:bo->ae->ar->bo->Prop):Prop where
 ry:∀{B i B' stk σ ρ s},J B i B'->eu B' stk σ ρ s->eu B stk σ ρ s
 item:∀{B i B' stk σ s v}{W:aw ar->bO}{E:ar->bO},J B i B'->aY B' stk σ s->aP cv s.heap->g σ->items[i]? =ab v->(∀w yt s',l0 B (i+1) w yt->aY yt stk σ s'->aP s.heap s'.heap->bq s'.heap v w->W (ab w) s')->bg a9 A (pF it) W E s
 go:∀{B i w B' stk σ s eI}{W:bO}{E:ar->bO},((∃ao n p,eI=.Tuple ao n p)\/pl=ak)->l0 B i w B'->aY B' stk σ s->(∀yt s',J B i yt->aY yt stk σ s'->aP s.heap s'.heap->W s')->bg a9 A (x6 eI it w) (λU=>W) E s
 fin:∀{B i B' stk σ s}{W:aw ar->bO}{E:ar->bO},J B i B'->aY B' stk σ s->aP cv s.heap->g σ->items[i]? =aj->(∀s',aY B stk σ s'->aP s.heap s'.heap->W aj s')->bg a9 A (pF it) W E s
structure Bb(A:ea)(it:ar)(J:bo->ae->bo->Prop)(l0:bo->ae->ar->bo->Prop):Prop where
 go:∀B i w B',l0 B i w B'->J B i B'
 ext:∀{B i B' D} o,J B i B'->B'.f D=aj->J (B.and D o) i (B'.and D o)
 back:∀{B i j X D Y o},J B i X->B.f D=aj->J (B.and D o) j Y->∀C:Prop,(∀qZ,Y=qZ.and D o->J B j qZ->qZ.f D=aj->C)->C
 self:∀{B i B' stk σ s}{W E:ar->bO},J B i B'->aY B' stk σ s->W it s->bg a9 A (qC it) W E s
theorem hK.ry(ry:∀{stk σ ρ s},eu B' stk σ ρ s->eu c.B stk σ ρ s)(z:hK (c.up B') sc h₀ k v s):hK c sc h₀ k v s:=λU f=>z _ λlm z=>f lm λU g=>z _ λe m q hm z=>g e m q hm λU h=>z _ λσ ρ t C fs r S=>h σ ρ t C fs r (ry S)
theorem Xv{R:v7->bO}{orelse:af eJ}{env:hI}(I:ae->bO)
  (turn:∀n s,I n s->bg a9 A (pF it) (λr dW=>match r with
   |none=>bg a9 A (v9 orelse env) (λf j1=>R (.ok f) j1) (tF a9 A env λe s'=>R (.error e) s') dW
   |some v=>bg a9 A (x6 eI it v) (λU dW=>bg a9 A (tx eI env v) (λU jf=>bg a9 A (v9 fo env) (λf j1=>match f with
     | .next| .cont=>∃m,m<n/\I m j1
     | .brk=>R (.ok .next) j1
     | .ret v=>R (.ok (.ret v)) j1) (tF a9 A env λe s'=>R (.error e) s') jf) (tF a9 A env λe s'=>R (.error e) s') dW) (tF a9 A env λe s'=>R (.error e) s') dW) (tF a9 A env λe s'=>R (.error e) s') s)
  (n:ae)(h:I n s):nG a9 A (.forLoop eI it fo orelse env) R s:=by
 refine codeAny_loop' aa I (λn s rg=> ?_) n h
 show bg _ _ ((forTurn eI it fo orelse env).onRaise (λx=>do DM x env;Sm x)) _ _ s
 refine Sw ?_
 unfold forTurn
 refine aN (qE (aN (wpAny_onRaise (dH (turn n s rg) (λr dW cv=> ?_) λU U h'=>qE h'))))
 rcases r with _|v
 ·exact bI (.inr ⟨aa,codeAny_block cv⟩)
 ·refine aN (dH cv (λU dW cv=>aN (dH cv (λU jf jx=>aN (dH jx (λf j1 kx=> ?_) λU U h'=>h')) λU U h'=>h')) λU U h'=>h')
  rcases f with _|_|_|v
  ·exact bI (.inl ⟨aa,kx⟩)
  ·exact bI kx
  ·exact bI (.inl ⟨aa,kx⟩)
  ·exact bI kx
inductive qX(sn:af a5)(aT:fK):af ae->bU->Prop
 |one {n:ae} {x:a5} {p:el}:sn[n]? =ab x->n7 aT x=ak->qX sn aT [n] (.Name x p)
 |tup {ns:af ae} {rs:af bU} {n:ae} {p:el}:2<=ns.length->qW sn aT ns rs->qX sn aT ns (.Tuple rs n p)
theorem Q6{u:V}{l:af V}{n:ae}(h:2<=n)(e:lS n u=ab l):u=.t l/\l.length=n:=by
 rcases n with _|n
 ·cases h
 ·rcases n with _|n
  ·cases h;rename_i h;cases h
  ·cases u<;>first|(cases e;done)|skip
   rename_i m
   have e:(if m.length=n+1+1 then ab m else aj)=ab l:=e
   by_cases z:m.length=n+1+1
   ·rw[bk z]at e;cases e;exact⟨aa,z⟩
   ·rw[bh z]at e;cases e
theorem QO{sn:af a5}{aT:fK}{F:ar->bO}{u:V}{l:af V}{W:bO}(h:qX sn aT ns eI)(a6:sc.names=sn)(f:Binds sc aT)(S:aY B (sc::stk) σ s)(bG:A.handled=aj)(au:bq s.heap u w)(dm:lS ns.length u=ab l)
  (q:∀s',aY B (sc.at_ (iW sc.lm ns l)::stk) σ s'->aP s.heap s'.heap->W s'):bg a9 A (tx eI sc.env w) (λU s'=>W s') F s:=by
 rcases h with⟨h1,h2⟩|⟨h1,h2⟩
 ·cases dm;exact Ju (vQ S (aD a6 h1) (f _ h2) au q)
 ·exact let z:=Q6 h1 dm;Q1 h2 a6 f S bG (aR z.1 au) z.2 q
def o1(b:dh)(a':ae->cy)(ns:af ae)(ss:af St)(g:dn)(k:cT)(items:af V)(lm:bf)(σ:H):Prop:=forM (λx lm σ K=>∃vs,lS ns.length x=ab vs/\mj X.T.bp b.F a' b.hd ss (iW lm ns vs) σ ⟨K,K,k.r,k.x⟩) g items lm σ k.n
def KU(c:cS)(sc:Sc)(h₀:bw)(k:cT)(r:v7)(s:bS):Prop:=match r with| .ok f=>lz c sc h₀ k f s| .error e=>tC a9 c.A sc.env (hK c sc h₀ k) e s
def MO(b:dh)(a':ae->cy)(ns:af ae)(ss:af St)(g:dn)(k:cT)(c:cS)(sc:Sc)(h₀ cv:bw)(J:bo->ae->bo->Prop)(l:af V)(m:ae)(s:bS):Prop:=∀C:Prop,(∀i B' lm σ,m+i=l.length->J c.B i B'->aY B' (sc.at_ lm::c.stk) σ s->aP h₀ s.heap->aP cv s.heap->o1 b a' ns ss g k (l.drop i) lm σ->C)->C
theorem MQ{pl:aB}{J:bo->ae->bo->Prop}{l0:bo->ae->ar->bo->Prop}{l:af V}(H:mC b a' ss fo)(aS:qX b.sn b.aT ns eI)(vf:2<=ns.length\/pl=ak)(lZ:Iter pl c.A cv l g it J l0)(j0:J c.B 0 B')
  (bG:c.A.handled=aj)(a:kN b a' (c.up B') sc σ s)(fj:aP h₀ s.heap)(aq:aP cv s.heap)(h:o1 b a' ns ss g k l sc.lm σ):
  nG a9 c.A (.forLoop eI it fo [] sc.env) (KU c sc h₀ k) s:=by
 have aE:∀x s2,hK c sc h₀ k x s2->tF a9 c.A sc.env (λe s'=>tC a9 c.A sc.env (hK c sc h₀ k) e s') x s2:=λU U=>Hk a.own a.a.frames
 refine Xv (MO b a' ns ss g k c sc h₀ cv J l) (λm s1 z=>z _ λi B1 lm aJ hm cp b9 ev uA hw=> ?_) l.length λU f=>f 0 B' sc.lm σ aa j0 a.sim fj aq h
 rcases m with _|m
 ·have ax:l.length<=i:=eK (hm.symm.trans (iA i))
  rw[J9 ax]at hw
  exact lZ.fin cp b9 uA hw.1 (Eh ax) λs2 cH cb=>DW (FS.mk cH (ev.trans cb) hw.2)
 ·have qh:i<l.length:=aR hm (fT (kM i) (aX (rQ _ m) (eK (by lia))))
  rw[J8 qh]at hw
  rcases hw with⟨cE,vs,dm,hw⟩
  refine lZ.item cp b9 uA cE (f9 qh) λw B2 s2 Gz cH cb au=>lZ.go (vf.imp (λz=> ?_) id) Gz cH λyu s3 zb es fc=>QO (sc:=sc.at_ lm) aS a.names a.binds es bG (au.cu fc) dm λs4 hL ig=> ?_
  ·rcases aS with⟨_,_⟩|⟨_,_⟩
   ·exact aV z (Nat.not_succ_le_self 1)
   ·exact⟨_,_,_,aa⟩
  have jo:kN b a' (c.up yu) (sc.at_ (iW lm ns vs)) aJ s4:={a with sim:=hL,a:=⟨a.a.handled,aR (frs_at _) a.a.frames,a.a.depth,a.a.units⟩}
  have sh:=(cb.trans fc).trans ig
  refine dH (H (c:=c.up yu) (sc:=sc.at_ (iW lm ns vs)) (k:=⟨o1 b a' ns ss g k (l.drop (i+1)),o1 b a' ns ss g k (l.drop (i+1)),k.r,k.x⟩) jo hw) (λf s5 z=> ?_) λx s5 z=>aE x s5 (hK.lift (sc:=sc) (ev.trans sh) (hK.ry (c:=c) (B':=yu) (lZ.ry zb) z))
  have jb:∀P,P=o1 b a' ns ss g k (l.drop (i+1))->FS (c.up yu) (sc.at_ (iW lm ns vs)) s4.heap P s5->∃m',m'<m+1/\MO b a' ns ss g k c sc h₀ cv J l m' s5:=
   λP e z=>⟨m,kM _,λU f=>z _ λiD σ5 i5 kb nB=>f (i+1) yu iD σ5 (by lia) zb i5 ((ev.trans sh).trans kb) ((uA.trans sh).trans kb) (aR e nB)⟩
  rcases f with _|_|_|v
  ·exact jb _ aa z
  ·exact z.elim
  ·exact jb _ aa z
  ·exact z _ λiD σ5 i5 kb nB=>FS.mk (i5 _ λρ S=>(lZ.ry zb S).sim) ((ev.trans sh).trans kb) nB
end
end
section
open PySem.SeqAt
section
variable{b:dh}{a':ae->cy}{c:cS}{B B':bo}{A:ea}{stk:af Sc}{sc:Sc}{σ ah:H}{s s':bS}{Q:bQ}{E:bR}{h₀ h cv:bw}{x:a5}{v w it:ar}{p dj:el}{e aq e2 bF:aW}{r eI:bU}{k:cT}{n:ae}{ss:af St}{fo:af eJ}{ns:af ae}{items:af V}{g:dn}
theorem bo.ext'{B C:bo}(f:B.f=C.f)(o:B.old=C.old):B=C:=by cases B;cases C;cases f;cases o;rfl
theorem bo.and_comm{a d:a8}{o x:bj}(n:a≠d):(B.and a o).and d x=(B.and d x).and a o:=bo.ext' (funext λy=>by
 unfold bo.and
 dsimp only
 cases B.f y with
 |some _=>rfl
 |none=>
  by_cases z:y=a
  ·rw[bk z,bh (z▸n)];rfl
  ·rw[bh z];cases(if y=d then ab x else aj)<;>rfl) aa
inductive qQ(L:bo->Prop)(I:a8)(P:ae->bj->Prop)(B:bo)(i:ae):bo->Prop
 |mk {o:bj}:L B->B.f I=aj->P i o->qQ L I P B i (B.and I o)
def owners:af ht:=["enumerate","zip","dict_itemiterator","dict_reverseitemiterator","odict_iterator","itertools.zip_longest","itertools.pairwise"]
theorem al5{I:a8}{o:bj}{T:ht}{W:bO}{E:ar->bO}(aO:s.heap.get? I=ab o)(aK:o.cls=.type T)(dU:owners.contains T=av)(h:W s):bg a9 A (x6 eI (.ref I) w) (λU=>W) E s:=by
 have key:bg a9 A (do
   let(.ref r,.ref a):=((.ref I:ar),w)|return
   let o←load r
   match o.cls,o.data with
   | .type n,.fields vs=>
    if["enumerate","zip","dict_itemiterator","dict_reverseitemiterator","odict_iterator","itertools.zip_longest","itertools.pairwise"].contains n&&vs[0]? ==ab (j7 a)then
     rule "for.unpacks-the-owned-tuple"
     updateField r 0 .none
   |_,_=>br ()) (λU=>W) E s:=by
  cases w<;>first|exact bI h|skip
  refine aN (wpAny_load aO ?_)
  rw[aK]
  cases o.data<;>first|exact bI h|skip
  dsimp only
  rw[show(["enumerate","zip","dict_itemiterator","dict_reverseitemiterator","odict_iterator","itertools.zip_longest","itertools.pairwise"]:af ht).contains T=av from dU,SM]
  exact bI h
 unfold x6
 cases eI<;>first|exact bI h|exact key
theorem zk{pl:aB}{L:bo->Prop}{I:a8}{P:ae->bj->Prop}{T:ht}(va:∀{B a x},L B->L (B.and a x))(aK:∀i o,P i o->o.cls=.type T)(dU:T≠"tuple")(hG:owners.contains T=av)
  (hs:∀{i:ae}{o:bj}{s:bS}{W E:ar->bO},P i o->s.heap.get? I=ab o->W (.ref I) s->bg a9 A (qC (.ref I)) W E s)
  (hi:∀{i:ae}{o:bj}{B:bo}{stk:af Sc}{σ:H}{s:bS}{v:V}{W:aw ar->bO}{E:ar->bO},P i o->L B->aY B stk σ s->aP cv s.heap->g σ->s.heap.get? I=ab o->items[i]? =ab v->
   (∀w h' o' tk,bq s.heap v w->P (i+1) o'->h'.get? I=ab o'->ix I s.heap h'->W (ab w) {s with heap:=h',toks:=tk})->bg a9 A (pF (.ref I)) W E s)
  (hf:∀{i:ae}{o:bj}{B:bo}{stk:af Sc}{σ:H}{s:bS}{W:aw ar->bO}{E:ar->bO},P i o->L B->aY B stk σ s->aP cv s.heap->g σ->s.heap.get? I=ab o->items.length<=i->
   (∀h',S9 I s.heap h'->W aj {s with heap:=h'})->bg a9 A (pF (.ref I)) W E s):Iter pl A cv items g (.ref I) (qQ L I P) (λB i U=>qQ L I P B i)/\Bb A (.ref I) (qQ L I P) (λB i U=>qQ L I P B i):=
 have sT:∀{i o},P i o->o.cls≠.type "tuple":=λp z=>dU (wC ((aK _ _ p).symm.trans z))
 ⟨{
  ry:=λj S=>by rcases j with⟨ax,a6,p⟩;exact(S.lR (tk:=_) a6 (sT p) λU U U e=>e).1
  item:=λj S he cE a4 k=>by
   rcases j with⟨ax,a6,p⟩
   exact hi p (va ax) S he cE (S.at_ a6) a4 λw h' o' tk au aq8 gg bY=>let⟨er,ev⟩:=S.turn (tk:=tk) a6 (sT p) (λb n=>lK bY n) gg;k w _ _ (.mk ax a6 aq8) er ev (au.cu ev)
  go:=λU j S k=>by rcases j with⟨ax,a6,p⟩;exact al5 (S.at_ a6) (aK _ _ p) hG (k _ _ (.mk ax a6 p) S (aP.refl _))
  fin:=λj S he cE a4 k=>by
   rcases j with⟨ax,a6,p⟩
   exact hf p (va ax) S he cE (S.at_ a6) (Kc.mp a4) λh' bY=>let⟨er,ev⟩:=S.lR (tk:=_) a6 (sT p) (λb n o e=>bY b o n e);k _ er ev},
 {
  go:=λU U U U=>id
  ext:=λ{B i B' D} x j c8=>by
   rcases j with⟨ax,a6,p⟩
   have n:I≠D:=λz=>nomatch (bo.oS a6).symm.trans ((aU (bo.f _) z).trans c8)
   exact aD (bo.and_comm n) (.mk (va ax) (mS (P:=dg) (β:=h8) (λy e=>(bo.mG e).elim (λz=>nomatch a6.symm.trans z) λz=>n z.1) id) p)
  back:=λ{B i k X D Y o} j c8 j' U f=>by
   rcases j with⟨ax,a6,_⟩
   rcases j' with⟨_,aq5,p⟩
   have n:D≠I:=λz=>nomatch aq5.symm.trans ((aU (bo.f _) z).symm.trans (bo.oS c8))
   exact f (B.and I _) (bo.and_comm n) (.mk ax a6 p) (mS (P:=dg) (β:=h8) (λy e=>(bo.mG e).elim (λz=>nomatch c8.symm.trans z) λz=>n z.1) id)
  self:=λj S w=>by rcases j with⟨ax,a6,p⟩;exact hs p (S.at_ a6) w}⟩
def pV(A:ea)(B:bo)(stk:af Sc)(pl:aB)(K:af V->dn->dn)(h₀:bw)(it:ar)(s:bS):Prop:=
 ∀C:Prop,(∀cv items g J l0 B' σ,Iter pl A cv items g it J l0->(pl=ak->Bb A it J l0)->J B 0 B'->aY B' stk σ s->aP h₀ cv->aP cv s.heap->K items g σ->C)->C
theorem pV.of{pl:aB}{L:bo->Prop}{K:af V->dn->dn}{I:a8}{P:ae->bj->Prop}{o:bj}(S:aY B stk σ s)(a6:s.heap.get? I=aj)(aO:(s.heap.push o).get? I=ab o)(az:K items g σ)(ev:aP h₀ s.heap)(lZ:Iter pl A s.heap items g (.ref I) (qQ L I P) (λB i U=>qQ L I P B i)/\Bb A (.ref I) (qQ L I P) (λB i U=>qQ L I P B i))(p0:P 0 o)(ax:L B):
  pV A B stk pl K h₀ (.ref I) {s with heap:=s.heap.push o}:=λU f=>f s.heap items g _ _ _ σ lZ.1 (λU=>lZ.2) (.mk ax (S.free a6) p0) (S.freeze (tk:=s.toks) (mP o) a6 aO) ev (aP.push _ _) az
theorem au9{P t:ae}{l:af V}{pl:aB}{K:af V->dn->dn}{E:ar->bO}(S:aY B stk σ s)(bG:A.handled=aj)(aq:σ P=ab ⟨t,.l l⟩)(ev:aP h₀ s.heap)(az:K l (λah=>∃t,ah P=ab ⟨t,.l l⟩) σ):bg a9 A (qC (.ref P)) (pV A B stk pl K h₀) E s:=
 S.list aq _ λvs n U bK U=>wpAny_pyIter_list bK.isList (.of S (iR (da _)) (lr _ aa) az ev (zk (L:=λU=>gN) id (P:=λi o=>o.cls=.type "list_iterator"/\o.data=.fields #[.ref P,.int i 0]) (T:="list_iterator") (λU U h=>h.1) ai ai
  (λa7 aO w=>wpAny_pyIter_listiter ⟨_,aO,a7.1,a7.2⟩ w)
  (λa7 U S U⟨t,e⟩ aO a4 k=>S.list e _ λvs n U bK a0=>let⟨w,e2,au⟩:=a0.get a4;wpAny_pyNext_list_item ⟨_,aO,a7.1,a7.2⟩ bK.isList (aR tH e2) λh'⟨o',h1,h2,h3⟩ bY=>k w h' o' _ au ⟨h2,h3⟩ h1 bY)
  (λa7 U S U⟨t,e⟩ aO a4 k=>S.list e _ λvs n U bK a0=>wpAny_pyNext_list_end bG ⟨_,aO,a7.1,a7.2⟩ bK.isList (JG.mpr (aD a0.size a4)) k)) ⟨aa,aa⟩ trivial)
theorem av1{l:af V}{pl:aB}{K:af V->dn->dn}{E:ar->bO}(S:aY B stk σ s)(bG:A.handled=aj)(aE:bq s.heap (.t l) v)(ev:aP h₀ s.heap)(az:K l (λU=>gN) σ):bg a9 A (qC v) (pV A B stk pl K h₀) E s:=by
 rcases aE with⟨_,P,vs,rfl,bK,a0⟩
 exact wpAny_pyIter_tuple bK (.of S (iR (da _)) (lr _ aa) az ev (zk (L:=λU=>gN) id (P:=λi o=>o.cls=.type "tuple_iterator"/\o.data=.fields #[.ref P,.int i 0]) (T:="tuple_iterator") (λU U h=>h.1) ai ai
  (λa7 aO w=>PySem.wpAny_pyIter_tupleiter ⟨_,aO,a7.1,a7.2⟩ w)
  (λa7 U S he U aO a4 k=>let⟨w,e2,au⟩:=(a0.cu he).get a4;wpAny_pyNext_tuple_item ⟨_,aO,a7.1,a7.2⟩ (he _ _ bK) (aR tH e2) λh'⟨o',h1,h2,h3⟩ bY=>k w h' o' _ au ⟨h2,h3⟩ h1 bY)
  (λa7 U S he U aO a4 k=>wpAny_pyNext_tuple_end bG ⟨_,aO,a7.1,a7.2⟩ (he _ _ bK) (JG.mpr (aD a0.size a4)) k)) ⟨aa,aa⟩ trivial)
theorem M7(a d:ag)(i:ae):a+d+d*i=a+d*((i+1:ae):ag):=by rw[J2,Int.mul_add,Ti,Ta,AJ d]
theorem aN9{d:ag}{n:ae}:∀{a:ag}{i:ae},(me a d n)[i]? =if i<n then ab (.i (a+d*i))else aj:=by
 induction n with
 |zero=>exactλ{U i}=>(bh (yq i)).symm
 |succ n aI=>
  intro a i
  unfold me
  rcases i with _|i
  ·rw[bk (oD n),show a+d*((0:ae):ag)=a by rw[Eb,Tj,JZ]];rfl
  ·rw[Kb,aI,M7]at|-
   by_cases z:i<n
   ·rw[bk z,bk (Ez z)]
   ·rw[bh z,bh λq=>z (AU q)]
theorem aO0{d:ag}{n:ae}:∀{a:ag},(me a d n).length=n:=by
 induction n with
 |zero=>exact aa
 |succ n aI=>exact aU (·+1) aI
theorem av0{r:a8}{a b d:ag}{t u y:pD}{n:ae}{pl:aB}{K:af V->dn->dn}{E:ar->bO}(S:aY B stk σ s)(bG:A.handled=aj)(au:IsRange s.heap r a b d t u y)(hs:JO a b d=ak)(a6:SS a b d=n)(ev:aP h₀ s.heap)(az:K (me a d n) (λU=>gN) σ):
  bg a9 A (qC (.ref r)) (pV A B stk pl K h₀) E s:=
 wpAny_pyIter_range au hs (.of S (iR (da _)) (lr _ aa) az ev (zk (L:=λU=>gN) id (P:=λi o=>o={cls:=.type "range_iterator",dict:=aj,data:=.fields #[j7 (a+d*i),j7 (n - i:ag),j7 d],slots:=#[]}) (T:="range_iterator") (λU U h=>by rw[h]) ai ai
  (λa7 aO w=>PySem.wpAny_pyIter_rangeiter (a7▸aO) w)
  (λ{i U U U U U U U U} a7 U S U U aO a4 k=>by
   rw[aN9]at a4
   by_cases hi:i<n
   ·rw[bk hi]at a4
    cases a4
    cases a7
    refine wpAny_pyNext_range_item aO (by lia) λh' h1 bY=>k _ h' _ _ ⟨_,aa⟩ ?_ h1 bY
    rw[←M7,show(n:ag) - ((i+1:ae):ag)=(n:ag) - i - 1 by lia,Int.add_right_comm]
   ·cases(bh hi).symm.trans a4)
  (λa7 U S U U aO a4 k=>by cases a7;exact wpAny_pyNext_range_end bG aO (by have a4:=aO0▸a4;lia) k))
  (by rw[a6,Eb,Tj,JZ,Tp]) trivial)
end
end
section
open PySem.SeqAt
abbrev SrcS(b:dh)(src:Src)(over:af aW)(r:bU):Prop:=∀{c:cS}{sc:Sc}{σ:H}{s:bS}{K:af V->dn->dn}{Q:af V->dn}{E:bR},At b c sc σ s->c.A.handled=aj->(∀l σ,Q l σ->h5 σ (λitems g=>K items g σ) src l)->h4 X.T.bp b.F b.hd sc.lm over σ Q E->
 bg a9 c.A (hr r sc.env) (λx s1=>bg a9 c.A (qC x) (pV c.A c.B (sc::c.stk) (src != .e) K s.heap) (gE (c.on sc) s.heap E) s1) (gE (c.on sc) s.heap E) s
section
variable{b:dh}{c:cS}{B B':bo}{A:ea}{stk:af Sc}{sc:Sc}{σ ah:H}{s s':bS}{E:bR}{h₀ h cv:bw}{x:a5}{v w:ar}{p dj:el}{e:aW}{r:bU}{ao:af aW}{rs:af bU}{W:ar->bO}{src:Src}
theorem NZ{u:V}{pl:aB}{K:af V->dn->dn}{E:ar->bO}(S:aY B stk σ s)(bG:A.handled=aj)(au:bq s.heap u w)(ev:aP h₀ s.heap)(q:h5 σ (λitems g=>K items g σ) .i [u]):bg a9 A (qC w) (pV A B stk pl K h₀) E s:=by
 cases(q)
 ·exact av1 S bG au ev ‹_›
 ·cases au;exact au9 S bG ‹_› ev ‹_›
theorem aX1(H:bZ b e r):SrcS b .i [e] r:=λa bG b4 h=>(H a h).step λU U U U au S ev q=>NZ S bG au ev (b4 _ _ q)
theorem C7(h1:gh b.aT x=ak)(h2:hT.lookup x=ab (.src src))(a6:src≠.i)(a7:kn rs)(H:lA b ao rs)(a:At b c sc σ s){Q:af V->dn}(q:h4 X.T.bp b.F b.hd sc.lm ao σ Q E)
  (h:∀{l ws ah s'},b7 s'.heap l ws->aY c.B (sc::c.stk) ah s'->aP s.heap s'.heap->Q l ah->bg a9 c.A (hq (Ih src) ws []) W (gE (c.on sc) s.heap E) s'):bg a9 c.A (hr (.Call (.Name x dj) rs [] p) sc.env) W (gE (c.on sc) s.heap E) s:=
 DS (LI a h1 (a.k.src x src h2) (R2 (P:=λU=>gN) (by rw[a7.args.1];rfl) (λh U=>⟨.machine,.inr (.inl aa),by cases src<;>first|exact aV rfl a6|exact .now⟩)
  (a7.eval ((H _ a q).step λU U U U au S ev q=>⟨trivial,h au S ev q⟩))))
theorem GV{lo hi st:ag}{t u v:pD}{tk n:ae}{pl:aB}{K:af V->dn->dn}(S:aY c.B (sc::c.stk) σ s)(bG:c.A.handled=aj)(ev:aP h₀ s.heap)(hs:JO lo hi st=ak)(a6:SS lo hi st=n)(q:K (me lo st n) (λU=>gN) σ):
  bg a9 c.A (qC (.ref s.heap.objs.size)) (pV c.A c.B (sc::c.stk) pl K h₀) (gE (c.on sc) h₀ E) {s with heap:=s.heap.push {cls:=.type "range",data:=.fields #[.int lo t,.int hi u,.int st v]},toks:=tk}:=
 av0 (S.keeps (mP _)) bG (IsRange.new _ _ _ _ _ _ _) hs a6 (ev.trans (aP.push _ _)) q
theorem sJ{a:ag}(h: -(bN:ag)<=a)(h':a<=bN): -(2^62)<=a/\a<2^62:=⟨eE ai h,m5 h' ai⟩
theorem Qw{a b:ag}(h1: -(bN:ag)<=a)(h2:a<=bN)(h3: -(bN:ag)<=b)(cQ:b<=bN):JO a b 1=ak:=small_one (sJ h1 h2).1 (sJ h1 h2).2 (sJ h3 cQ).1 (sJ h3 cQ).2
theorem src_range(h1:gh b.aT x=ak)(h2:hT.lookup x=ab (.src .r))(a7:kn rs)(H:lA b ao rs):SrcS b .r ao (.Call (.Name x dj) rs [] p):=λa bG b4 h=>
 C7 h1 h2 nofun a7 H a h λau S ev q=>by
  cases(b4 _ _ q)<;>rcases au with⟨_,ws,rfl,⟨t,rfl⟩,x⟩
  ·rename_i bK dK bE
   cases(show ws=[]from x)
   exact call_range_1 (GV S bG ev (Qw ai ai bK dK) (RX _ _) bE)
  ·rename_i bK dK BW BX bE
   rcases x with⟨_,ws,rfl,⟨u,rfl⟩,x⟩
   cases(show ws=[]from x)
   exact call_range_2 (GV S bG ev (Qw bK dK BW BX) (RX _ _) bE)
theorem aW9(h1:gh b.aT x=ak)(h2:hT.lookup x=ab (.src .r))(a7:kn rs)(H:lA b ao rs):SrcS b .down ao (.Call (.Name x dj) rs [] p):=λa bG b4 h=>
 C7 (src:=.r) h1 h2 nofun a7 H a h λau S ev q=>by
  cases(b4 _ _ q)
  rename_i bK dK BW BX bE
  rcases au with⟨_,_,rfl,⟨t,rfl⟩,_,_,rfl,⟨u,rfl⟩,_,ws,rfl,⟨v,rfl⟩,x⟩
  cases(show ws=[]from x)
  exact call_range_3 ai (GV S bG ev (small_down (sJ bK dK).1 (sJ bK dK).2 (sJ BW BX).1 (sJ BW BX).2) (rangeSize_downNat _ _) bE) (.inl (Ut (by unfold bN at*;lia)))
end
end
section
open PySem.SeqAt
def X'(it:a8)(i:ag)(old:ar):bj:={cls:=.type "enumerate",dict:=aj,data:=.fields #[.none,.bool av,.ref it,j7 i,.none,old],slots:=#[]}
def Ya(it:a8)(i:ag)(x:ar)(a:a8):bj:={cls:=.type "enumerate",dict:=aj,data:=.fields #[j7 a,.bool av,.ref it,j7 i,.none,x],slots:=#[]}
def G5(p:a8)(i:ae)(o:bj):Prop:=o.cls=.type "list_iterator"/\o.data=.fields #[.ref p,.int i 0]
inductive ER(e it p:a8)(B:bo)(i:ae)(f:bj->Prop):bo->Prop
 |mk {o x:bj}:B.f e=aj->B.f it=aj->G5 p i o->f x->x.cls=.type "enumerate"->ER e it p B i f ((B.and it o).and e x)
section
variable{b:dh}{c:cS}{B B':bo}{A:ea}{stk:af Sc}{sc:Sc}{σ ah:H}{ρ:fX}{s s':bS}{E:bR}{h₀ h':bw}{x:a5}{v w:ar}{p dj:el}{r:bU}{ao:af aW}{rs:af bU}{e it P:a8}{o o' y lh:bj}{tk i:ae}{l:af V}
theorem vS(n:e≠it)(he:B.f e=aj):(B.and it o).f e=aj:=mS (P:=dg) (β:=h8) (λU z=>(bo.mG z).elim (λz=>nomatch he.symm.trans z) λz=>n z.1) id
theorem bo.r'{a q:a8}(e:B.f q=ab y):(B.and a o).f q=ab y:=by unfold bo.and;dsimp only;rw[e];rfl
theorem Af(hi:B.f it=aj):((B.and it o).and e y).f it=ab o:=bo.r' (bo.oS hi)
theorem G5.sT(h:G5 P i o):o.cls≠.type "tuple":=λz=>aV (wC (h.1.symm.trans z)) ai
theorem Bv(h:y.cls=.type "enumerate"):y.cls≠.type "tuple":=λz=>aV (wC (h.symm.trans z)) ai
theorem Q3(n:e≠it)(he:B.f e=aj)(hi:B.f it=aj)(h1:o.cls≠.type "tuple")(h2:y.cls≠.type "tuple")(S:aY ((B.and it o).and e y) stk σ s)(bY:∀b,b≠e->b≠it->eT s.heap h' b)(fY:h'.get? e=ab lh)(ik:h'.get? it=ab o'):
  aY ((B.and it o').and e lh) stk σ {s with heap:=h',toks:=tk}/\aP s.heap h':=by
 have ge:=S.at_ (vS n he)
 have gi:=S _ λU S=>S.h.keep it o (Af hi)
 have am9:∀b,¬(b=e\/b=it)->eT s.heap h' b:=λb z=>bY b (λq=>z (.inl q)) λq=>z (.inr q)
 have ev:aP s.heap h':=λb vs z=>by
  refine b5 (id z) λb3 aO r=> ?_
  exact⟨b3,bY b (λq=>Cj ge h2 vs (aR q z)) (λq=>Cj gi h1 vs (aR q z)) b3 aO,r⟩
 refine⟨S _ λρ S=>(S.swap (tk:=tk) (B':=(B.and it o').and e lh) (P:=λb=>b=e\/b=it) (λa z=> ?_) (λa z=> ?_) (λU=>id) (λb x q=> ?_) am9 ev).sim,ev⟩
 ·exact z.elim (λq=>aD q (S.h.old e y (bo.oS (vS n he)))) λq=>aD q (S.h.old it o (Af hi))
 ·rcases z with rfl|rfl
  ·exact bo.rp (B:=B) he
  ·exact bo.rp (B:=B) hi
 ·rcases bo.mG q with q|⟨rfl,rfl⟩
  ·rcases bo.mG q with q|⟨rfl,rfl⟩
   ·exact .inl ⟨λz=>z.elim (bo.oT he q) (bo.oT hi q),bo.r' (bo.r' q)⟩
   ·exact .inr ⟨.inr aa,ik⟩
  ·exact .inr ⟨.inl aa,fY⟩
theorem Mj:∀{l:af V}{n:ag}{i:ae},(w3 n l)[i]? =l[i]?.map λv=>.t [.i (n+i),v]:=by
 intro l
 induction l with
 |nil=>exactλ{U U}=>aa
 |cons v l aI=>
  intro n i
  unfold w3
  rcases i with _|i
  ·rw[TA,TA,Eb,JZ]at|-;rfl
  ·rw[Kb,aI,Kb,J2,Ta,AJ 1]at|-
theorem au8(bG:A.handled=aj)(n:e≠it):Iter av A h₀ (w3 0 l) (λah=>∃t,ah P=ab ⟨t,.l l⟩) (.ref e) (λB i=>ER e it P B i λy=>∃old,y=X' it i old) (λB i w=>ER e it P B i λy=>∃x a,w=.ref a/\y=Ya it i x a)where
 ry:=λj S=>by
  rcases j with⟨he,hi,ax,_,aK⟩
  exact((S.lR (tk:=_) (vS n he) (Bv aK) λU U U e=>e).1.lR (tk:=_) hi ax.sT λU U U e=>e).1
 item:=λj S ev⟨t,cE⟩ a4 k=>by
  rcases j with⟨he,hi,ax,⟨old,rfl⟩,aK⟩
  rw[Mj]at a4
  refine S.list cE _ λvs m U bK a0=> ?_
  rcases wA.mp a4 with⟨u,q,rfl⟩
  refine b5 (a0.get q) λw e2 au=> ?_
  refine wpAny_pyNext_enum_item (S.at_ (vS n he)) ⟨_,S _ λU S=>S.h.keep it _ (Af hi),ax.1,ax.2⟩ bK.isList (aR tH e2) n λh2 fY ik k0 ny rl=> ?_
  refine fH ik λo' GW j2 N2=> ?_
  rcases Q3 (tk:=_+1) n he hi ax.sT (Bv aK) S (λc dZ i0 q qx=>rl c q dZ i0 qx) fY GW with⟨er,ev⟩
  exact k _ _ _ (.mk he hi ⟨j2,N2⟩ ⟨w,_,aa,aa⟩ aa) er ev ⟨show 2<=bN by decide,_,_,aa,⟨_,k0,aa,0,aa⟩,.cons ⟨_,by rw[Int.zero_add]at|-⟩ (.cons (au.cu ev) .nil)⟩
 go:=λaS j S k=>by
  rcases j with⟨he,hi,ax,⟨x,a,rfl,rfl⟩,aK⟩
  rcases aS with⟨ao,fe,pp,rfl⟩|aS
  ·refine wpAny_letOwnedTupleGo_enum (S.at_ (vS n he)) λh2 fY bY=> ?_
   rcases Q3 (tk:=_) n he hi ax.sT (Bv aK) S (λc dZ i0=>lK bY dZ) fY ((bY.2 it n.symm).trans (S _ λU S=>S.h.keep it _ (Af hi)))with⟨er,ev⟩
   exact k _ _ (.mk he hi ax ⟨_,aa⟩ aa) er ev
  ·cases aS
 fin:=λj S ev⟨t,cE⟩ a4 k=>by
  rcases j with⟨he,hi,ax,⟨old,rfl⟩,aK⟩
  rw[Mj]at a4
  refine S.list cE _ λvs m U bK a0=>wpAny_pyNext_enum_end bG (S.at_ (vS n he)) ⟨_,S _ λU S=>S.h.keep it _ (Af hi),ax.1,ax.2⟩ bK.isList (JG.mpr (aD a0.size (Kc.mp (Option.map_eq_none_iff.mp a4)))) λh2 bY=> ?_
  rcases(S.lR (tk:=_) (h':=_) (vS n he) (Bv aK) λU U U e=>e).1.lR (tk:=_) hi ax.sT (λb n o e=>bY b o n e)with⟨er,ev⟩
  exact k _ er ev
theorem bb8(n:e≠it)(S:aY B stk σ s)(h1:s.heap.get? e=aj)(h2:s.heap.get? it=aj)(az:∀b,eT s.heap h' b)(fY:h'.get? e=ab y)(ik:h'.get? it=ab o):aY ((B.and it o).and e y) stk σ {s with heap:=h'}:=
 S _ λρ S=>(S.swap (tk:=s.toks) (B':=(B.and it o).and e y) (P:=λb=>b=e\/b=it) (λa z=>z.elim (λq=>aD q (S.h.none_of h1).2) λq=>aD q (S.h.none_of h2).2) (λa z=>by
  rcases z with rfl|rfl
  ·exact bo.rp (S.h.free h1)
  ·exact bo.rp (S.h.free h2)) (λU=>id) (λb x q=>by
  rcases bo.mG q with q|⟨rfl,rfl⟩
  ·rcases bo.mG q with q|⟨rfl,rfl⟩
   ·exact .inl ⟨λz=>z.elim (bo.oT (S.h.free h1) q) (bo.oT (S.h.free h2) q),q⟩
   ·exact .inr ⟨.inr aa,ik⟩
  ·exact .inr ⟨.inl aa,fY⟩) (λb U=>az b) (aP.keeps az)).sim
theorem aX0(h1:gh b.aT x=ak)(h2:hT.lookup x=ab (.src .e))(a7:kn rs)(H:lA b ao rs):SrcS b .e ao (.Call (.Name x dj) rs [] p):=λa bG b4 h=>
 C7 h1 h2 nofun a7 H a h λ{l ws ah s'} au S ev q=>by
  cases(b4 _ _ q)
  rename_i P t l aq bE
  rcases au.one with⟨w,rfl,rfl⟩
  refine S.list aq _ λvs m U bK U=>call_enumerate_list bK.isList λh' fY ik k0 ny=>PySem.wpAny_pyIter_enum fY λU f=> ?_
  have n:=Kq s'.heap.objs.size
  have g1:=iR (h:=s'.heap) (mw _)
  have g2:=iR (h:=s'.heap) (da _)
  refine b5 ik λo GW j2=> ?_
  exact f s'.heap _ _ _ _ _ ah (au8 bG n) nofun (.mk (S.free g1) (S.free g2) j2 ⟨.none,aa⟩ aa) (bb8 n S g1 g2 ny fY GW) ev (aP.keeps ny) bE
end
end
section
open PySem.SeqAt
namespace iB
theorem bo4:PlainAttrs "reversed":=
 ⟨⟨"reversed.__getattribute__",by rw[rI,rG];kernel_rfl,by decide+kernel⟩,by rw[rI,rG];kernel_rfl⟩
theorem Qu:Slot "reversed" "__iter__" "reversed.__iter__":=
 .of (owner:="reversed") (n:="__iter__") (by rw[rI,rG];kernel_rfl) (by decide+kernel) (by decide+kernel) (by decide+kernel)
  (by first|exact .inl (by decide+kernel)|exact .inr (by decide+kernel)) (by rw[wa];kernel_rfl)
theorem slot_next:Slot "reversed" "__next__" "reversed.__next__":=
 .of (owner:="reversed") (n:="__next__") (by rw[rI,rG];kernel_rfl) (by decide+kernel) (by decide+kernel) (by decide+kernel)
  (by first|exact .inl (by decide+kernel)|exact .inr (by decide+kernel)) (by rw[wa];kernel_rfl)
theorem aV7:Slot "reversed" "__init__" "object.__init__":=
 .of (owner:="object") (n:="__init__") (by rw[rI,rG];kernel_rfl) (by decide+kernel) (by decide+kernel) (by decide+kernel)
  (by first|exact .inl (by decide+kernel)|exact .inr (by decide+kernel)) (by rw[wa];kernel_rfl)
theorem Ws(a:ar):Au "reversed.__iter__" ⟨[a],[]⟩:=by unfold Au;kernel_rfl
theorem args_next(a:ar):Au "reversed.__next__" ⟨[a],[]⟩:=by unfold Au;kernel_rfl
theorem Wr(a b:ar):Au "object.__init__" ⟨[a,b],[]⟩:=PySem.F.args_object_init_2 a b
theorem entry_next:Ji table "reversed.__next__"=ab Builtin.«reversed.__next__»:=Jj (by kernel_rfl)
theorem Yh:Ji table "reversed.__new__"=ab Builtin.«reversed.__new__»:=Jj (by kernel_rfl)
theorem Yg:Ji table "reversed.__iter__"=ab Builtin.«dict_keyiterator.__iter__»:=
 entryFor_alias (id':="dict_keyiterator.__iter__") (by kernel_rfl) (by first|rfl|decide+kernel|(unfold String.splitOn;simp+decide [String.splitOnAux])) (by decide+kernel) (by kernel_rfl)
theorem mro:mroOf (.type "reversed")=br [.type "reversed",.type "object"]:=by rw[mroOf_type];kernel_rfl
theorem aA1:x' (.type "reversed") "__new__"=br (ab (.builtin "reversed.__new__")):=by rw[rI,rG];kernel_rfl
theorem called:TypeCalled "reversed" "reversed.__new__" "object.__init__":=
 ⟨by decide+kernel,by decide+kernel,⟨_,_,mro⟩,madeBy_type mro aA1 (by decide+kernel),by decide+kernel,by rw[wa];kernel_rfl,aV7⟩
theorem typeCall(a:ar):checkTypeCall "reversed" ⟨[a],[]⟩=br ():=by kernel_rfl
theorem aE7(a:ar):R7 "reversed.__new__" ⟨[.type "reversed",a],[]⟩=br ():=by kernel_rfl
theorem sub:Jm (.type "reversed") (.type "reversed")=br ak:=by rw[wa];kernel_rfl
theorem bb6:x' (.type "tuple") "__reversed__"=br aj:=by rw[rI,rG];kernel_rfl
theorem QY:x' (.type "tuple") "__getitem__"=br (ab (.builtin "tuple.__getitem__")):=by rw[rI,rG];kernel_rfl
theorem bb4:Jm (.type "tuple") (.type "dict")=br av:=by rw[wa];kernel_rfl
end iB
abbrev vK(t:a8)(i:ag):bj:={cls:=.type "reversed",data:=.fields #[.ref t,j7 i]}
theorem aB9(t:a8)(items:dC ar):
  Meets (Builtin.«reversed.__new__» ⟨[.type "reversed",.ref t],[]⟩) (λU R s=>s.heap.IsTuple t items/\items.size<2^60/\
   ∀tk,R (.ok (.ret (.ref s.heap.objs.size))) {s with heap:=s.heap.push (vK t (items.size - 1)),toks:=tk}):=
 .of_wp λprog w A R s h=>by
  obtain⟨a7,g,d,tk,os⟩:=s;obtain⟨ax,cV,h⟩:=h
  have GG:=iB.sub
  have f1:=iB.bb6
  have f2:=iB.QY
  have cz:=iB.bb4
  have dU:(Shared.mk a7 g d tk os).TypeIs (.ref t) "tuple":=ax.typeIs
  unfold Builtin.«reversed.__new__»
  wp_walk
  refine DI plain_len entry_len ?_
  refine Sx (a:=()) (by simp only[R7,kind_len];kernel_rfl) ?_
  refine dH (len_entry_tuple ax (by lia) (Q:=λv s'=>v=.int items.size (tk+1)/\s'=⟨a7,g,d,tk+1+1,os⟩) ⟨aa,aa⟩) (λfin s' z=> ?_) λU U z=>z
  obtain⟨v,rfl,rfl,rfl⟩:=z
  refine aN (bI ?_)
  wp_walk
  exact⟨_,aa,h _⟩
section
variable{A:ea}{E:ar->bO}{s:bS}
theorem W8{t:a8}{items:dC ar}{Q:ar->bO}(ax:s.heap.IsTuple t items)(cV:items.size<2^60)
  (h:∀tk,Q (.ref s.heap.objs.size) {s with heap:=s.heap.push (vK t (items.size - 1)),toks:=tk}):bg a9 A (hq (.type "reversed") [.ref t]) Q E s:=
 callType_new iB.called ai (iB.typeCall _) (iB.aE7 _) (λobj=>iB.Wr obj _) iB.Yh (aB9 t items) ⟨ax,cV,λtk=>⟨⟨_,lr _ aa,aa⟩,h tk⟩⟩
theorem N0{e t:a8}{i:ag}{Q:ar->bO}(he:s.heap.get? e=ab (vK t i))(h:Q (.ref e) s):bg a9 A (qC (.ref e)) Q E s:=by
 have dU:s.TypeIs (.ref e) "reversed":=⟨_,he,aa⟩
 refine wpAny_pyIter_slot dU iB.Qu (rK iB.Qu dU iB.Yg ?_ (iB.Ws _))
 show bg _ _ (ret (.ref e)) _ _ s
 exact bI ⟨_,aa,"reversed",_,dU,iB.slot_next.lookup,h⟩
theorem aE9{e t:a8}{i:ag}{items:dC ar}{x:ar}{j:ae}{Q:aw ar->bO}(he:s.heap.get? e=ab (vK t i))(ax:s.heap.IsTuple t items)(hi:0<=i)(bn5:i<2^60)(az:AA i items.size=ab j)(aE:items[j]? =ab x)
  (h:∀h' tk,h'.get? e=ab (vK t (i - 1))->ix e s.heap h'->Q (ab x) {s with heap:=h',toks:=tk}):bg a9 A (pF (.ref e)) Q E s:=by
 have dU:s.TypeIs (.ref e) "reversed":=⟨_,he,aa⟩
 have bn1:s.TypeIs (.ref t) "tuple":=ax.typeIs
 unfold pF
 refine aN (DU (DV (name:=iM "__next__") dU iB.slot_next (rK iB.slot_next dU iB.entry_next ?_ (iB.args_next _))))
 show bg _ _ (Az (.ref e) 0 >>= _) _ _ s
 refine aN (jF he aa (x:=.ref t) aa ?_)
 show bg _ _ (Az (.ref e) 1 >>= _) _ _ s
 refine aN (jF he aa (x:=j7 i) aa ?_)
 dsimp only[j7]
 rw[bh (by lia)]
 have sp:kK a9 s.heap (Jr (.ref t) "__getitem__") (ab (.builtin "tuple.__getitem__")):=by
  obtain⟨o,aO,aK,_⟩:=ax
  unfold Jr
  refine Looks.andThen (a:=.type "tuple") ?_ (T2 iB.QY)
  rw[←aK];exactλA Q E s k q=>by
   unfold rJ
   exact aN (wc (k _ _ aO) (bI q))
 refine aN (sp.here ?_)
 rw[bh (show¬((ab (wB "tuple.__getitem__")).isNone=ak)from d6)]
 refine aN (wpAny_mkInt ?_)
 refine aN (DU (bk2 (s:={s with toks:=s.toks+1}) ax (by lia) (by lia) az aE ?_))
 show bg _ _ (Az (.ref e) 1 >>= _) _ _ _
 refine aN (jF (s:={s with toks:=s.toks+1}) he aa (x:=j7 i) aa ?_)
 dsimp only[j7]
 refine aN (JB (s:={s with toks:=s.toks+1}) he (by simp) λh' Gv bY=> ?_)
 exact bI ⟨x,aa,bI (h h' _ Gv bY)⟩
theorem aE8{e t:a8}{i:ag}{Q:aw ar->bO}(bG:A.handled=aj)(he:s.heap.get? e=ab (vK t i))(hi:i<0)
  (h:∀h',S9 e s.heap h'->Q aj {s with heap:=h'}):bg a9 A (pF (.ref e)) Q E s:=by
 have dU:s.TypeIs (.ref e) "reversed":=⟨_,he,aa⟩
 unfold pF
 refine aN (DU (DV (name:=iM "__next__") dU iB.slot_next (rK iB.slot_next dU iB.entry_next ?_ (iB.args_next _))))
 show bg _ _ (Az (.ref e) 0 >>= _) _ _ s
 refine aN (jF he aa (x:=.ref t) aa ?_)
 show bg _ _ (Az (.ref e) 1 >>= _) _ _ s
 refine aN (jF he aa (x:=j7 i) aa ?_)
 dsimp only[j7]
 rw[bk hi]
 refine aN (AB (aN ?_))
 show bg _ _ (DO (.ref e) 1 (j7 (-1))>>=λU=>DO (.ref e) 0 .none) _ _ _
 refine aN (JB he (by simp) λh1 ap3 an0=> ?_)
 refine JB ap3 (by simp) λh2 bn2 Gn=> ?_
 unfold bj0
 refine aN ?_
 show bg _ _ (newExc (.type "StopIteration") []>>= _) _ _ _
 refine aN ?_
 simp only[newExc,newTuple]
 refine aN (DY ?_ (by size_fits))
 refine aN (m:=firstArgMember _ _) (Sx (a:=rT) (by first|rfl|(simp only[firstArgMember];rfl)) ?_)
 refine DY ?_ (by size_fits)
 simp only[DN]
 refine aN (Ss ?_)
 first|rw[show A.in1.handled=aj from bG]|rw[bG]
 refine aN (bI (D1 ?_))
 refine aN (Jw (T:="StopIteration") (b:=ak) ⟨_,lr _ aa,aa⟩ isSubtype_stop ?_)
 exact bI (h _ (((an0.trans Gn).extBut.push _).push _))
end
theorem aP2{n i:ae}(h:i<n):AA ((n:ag) - 1 - i) n=ab (n - 1 - i):=by
 have e:(n:ag) - 1 - i=((n - 1 - i:ae):ag):=by rw[To (T5 h),To (d7 (eL _) h)];rfl
 unfold AA
 rw[e,bh (iy.mpr (mq _))]
 dsimp only
 rw[bk (by simp;lia)]
 rfl
theorem aX2{b:dh}{x:a5}{p dj:el}{ao:af aW}{rs:af bU}(h1:gh b.aT x=ak)(h2:hT.lookup x=ab (.src .rev))(a7:kn rs)(H:lA b ao rs):SrcS b .rev ao (.Call (.Name x dj) rs [] p):=λ{c sc σ s K Q E} a bG b4 h=>
 C7 h1 h2 nofun a7 H a h λ{l ws ah s'} au S ev q=>by
  cases(b4 _ _ q)
  rename_i l bE
  rcases au.one with⟨w,rfl,ax,t,vs,rfl,bK,a0⟩
  have kv:(vs.size:ag)=l.length:=aU Nat.cast a0.size
  have aq0:l.length<2^60:=d7 ax ai
  refine W8 bK (aD a0.size aq0) λtk=>N0 (lr _ aa) ?_
  exact .of (σ:=ah) (s:={s' with toks:=tk}) S.toks (iR (da _)) (lr _ aa) bE ev (zk (L:=λU=>gN) id (P:=λi o=>o=vK t ((l.length:ag) - 1 - i)) (T:="reversed") (λU U h=>by rw[h]) ai ai
   (λa7 aO w=>N0 (aR a7 aO) w)
   (λ{i U U U U U U U U} a7 U S he U aO a4 k=>by
    cases a7
    have hi:i<l.length:=aR Em (mr.mp a4).1
    rw[List.getElem?_reverse hi]at a4
    refine b5 ((a0.cu he).get a4) λw e2 au=> ?_
    exact aE9 (j:=l.length - 1 - i) aO (he _ _ bK) (by lia) (by lia) (by rw[a0.size];exact aP2 hi) (aR tH e2) λh' tk gg bY=>k w h' _ tk au (by rw[J2,←Int.sub_sub]) gg bY)
   (λa7 U S he U aO a4 k=>by
    cases a7
    exact aE8 bG aO (by have:=Em (as:=l)▸a4;lia) k))
   (by rw[kv,Eb,Tp]) trivial
end
section
open PySem.SeqAt
def bo.lock(B:bo)(p:a8)(o:bj):bo where
 f:=(B.and p o).f
 old:=λa=>B.old a\/a=p
 base:=λb h=>h.elim (λh=>(B.and p o).base b h) λz=>by
  unfold bo.and
  dsimp only
  cases B.f b with
  |some x=>exact⟨x,aa⟩
  |none=>exact⟨o,bk z⟩
 h0:=(B.and p o).h0
section
variable{b:dh}{a':ae->cy}{c:cS}{B B':bo}{A:ea}{stk:af Sc}{sc:Sc}{σ ah:H}{ρ:fX}{s s':bS}{E:bR}{h h₀ cv:bw}{v:ar}{p t:ae}{o:bj}{ao:af (ag×V)}{k:cT}{ns:af ae}{ss:af St}{fo:af eJ}{r eI:bU}{c1:el}
abbrev qK(h:bw)(p:a8)(ao:af (ag×V)):Prop:=nS iS Ad h p ao
theorem aY.lock(S:aY B stk σ s)(e:σ p=ab ⟨t,.d ao⟩)(aS:t≠0):∀C:Prop,(∀o,B.f p=aj->s.heap.get? p=ab o->qK s.heap p ao->aY (B.lock p o) stk (aC σ p ⟨0,.d ao⟩) s->C)->C:=λU k=>S _ λρ S=>by
 have x:=S.h.objs p _ e
 have kZ:=x.new aS
 have dt:B.f p=aj:=mS (P:=dg) (β:=h8) (λo q=>nomatch (S.h.old p o q).symm.trans kZ) id
 rcases S.h.k7 p (aD kZ aa)with⟨o,aO⟩
 have cI:∀b r,r≠.obj->ρ b=ab r->(if b=p then aj else ρ b)=ab r:=λb r n e=>(bh λz:b=p=>n (cR (e.symm.trans ((aU ρ z).trans kZ)))).trans e
 refine k o dt aO x.rep (eu.sim (ρ:=λb=>if b=p then aj else ρ b) ⟨{keep:=λb y q=> ?_,old:=λb y q=> ?_,k7:=λb q=> ?_,objs:=λa y q=> ?_,ff:=S.h.ff.but (aP.refl _) (λb j x=>cI b _ nofun) (λb n U=>cI b _ nofun) (λU U U U U x=>x) λU U U U U U x=>x},S.os,S.gens⟩)
 ·exact(bo.mG q).elim (S.h.keep b y) λz=>z.1.symm▸z.2▸aO
 ·exact(bo.mG q).elim (λq=>(bh (bo.oT dt q)).trans (S.h.old b y q)) λz=>bk z.1
 ·by_cases z:b=p
  ·rw[bk z]at q;cases q
  ·rw[bh z]at q;exact S.h.k7 b q
 ·rcases vT q with⟨rfl,rfl⟩|⟨na,q⟩
  ·exact⟨λz=>aV rfl z,λU=>.inr aa,x.rep⟩
  ·have y:=S.h.objs a _ q
   exact⟨λz=>(bh na).trans (y.new z),λz=>.inl (y.old z),y.rep.but (aP.refl _) (λU e=>e) λd q=>⟨cI d _ nofun q,λU e=>e⟩⟩
theorem zx(dt:B.f p=aj):(B.lock p o).f p=ab o:=bo.oS dt
theorem eu.unlock(dt:B.f p=aj)(S:eu (B.lock p o) stk σ ρ s)(d:qK s.heap p ao)(aS:t≠0):eu B stk (aC σ p ⟨t,.d ao⟩) (setR ρ p .obj) s/\ρ p=aj:=by
 have kZ:=S.h.old p o (zx dt)
 refine⟨⟨{keep:=λb q e=>S.h.keep b q (bo.r' e),old:=λb q e=>(bh (bo.oT dt e)).trans (S.h.old b q (bo.r' e)),k7:=λb e=> ?_,objs:=λa q e=> ?_,ff:=S.h.ff.but (aP.refl _) (λb j x=>oq kZ b _) (λb n U=>oq kZ b _) (λU U U U U x=>x) λU U U U U U x=>x},S.os,S.gens⟩,kZ⟩
 ·rcases vO e with z|z
  ·exact S.h.k7 b z
  ·exact aD z ⟨o,S.h.keep p o (zx dt)⟩
 ·rcases vT e with⟨rfl,rfl⟩|⟨na,e⟩
  ·exact⟨λU=>vN,λz=>aV z aS,d⟩
  ·have y:=S.h.objs a _ e
   exact⟨λz=>oq kZ _ _ (y.new z),λz=>(y.old z).resolve_right na,y.rep.but (aP.refl _) (λU e=>e) λd q=>⟨oq kZ _ _ q,λU e=>e⟩⟩
theorem Oo(dt:B.f p=aj)(S:aY (B.lock p o) stk σ s):s.heap.get? p=ab o:=S _ λU S=>S.h.keep p o (zx dt)
theorem qK.at_(d:qK cv p ao)(h1:cv.get? p=ab o)(h2:h.get? p=ab o)(ev:aP cv h):qK h p ao:=nS.but ev (λq e=>by cases h1.symm.trans e;exact h2) d
theorem aY.unlock(dt:B.f p=aj)(h1:cv.get? p=ab o)(d:qK cv p ao)(aS:t≠0)(ev:aP cv s.heap)(S:aY (B.lock p o) stk σ s):aY B stk (aC σ p ⟨t,.d ao⟩) s:=have g:=Oo dt S
 S _ λU S=>(S.unlock dt (d.at_ h1 g ev) aS).1.sim
def cT.un(k:cT)(p t:ae)(ao:af (ag×V)):cT:=
 ⟨λlm σ=>k.n lm (aC σ p ⟨t,.d ao⟩),λlm σ=>k.c lm (aC σ p ⟨t,.d ao⟩),λv σ=>k.r v (aC σ p ⟨t,.d ao⟩),λa lm σ=>k.x a lm (aC σ p ⟨t,.d ao⟩)⟩
theorem lz.unlock{f:jE}(dt:c.B.f p=aj)(h1:cv.get? p=ab o)(d:qK cv p ao)(aS:t≠0)(z:lz (c.up (c.B.lock p o)) sc cv (k.un p t ao) f s):lz c sc cv k f s:=by
 cases f with
 |brk=>exact z
 |_=>exact z _ λlm σ S ev q=>FS.mk (S.unlock dt h1 d aS ev) ev q
theorem yx.le{ρ':fX}{e:ae}{m:Mark}(h:∀b r,ρ b=ab r->ρ' b=ab r)(x:yx s.heap ρ e m):yx s.heap ρ' e m:=λU k=>x _ λc3 vs jn g1 g2 g3 e8 ju=>k c3 vs jn g1 g2 g3 e8 λn=>by
 refine Am (ju n) λa b c dZ i0 qx I4=> ?_
 exact⟨a,b,c,dZ,i0,h _ _ qx,I4⟩
theorem hK.unlock(dt:c.B.f p=aj)(h1:cv.get? p=ab o)(d:qK cv p ao)(aS:t≠0)(z:hK (c.up (c.B.lock p o)) sc cv (k.un p t ao) v s):hK c sc cv k v s:=λU f=>z _ λlm z=>f lm λU f=>z _ λe m q hm z=>f e m q hm λU f=>z _ λσ ρ ot C fs r S he zh au aE ev q=>by
 have cH:=S.unlock dt (d.at_ h1 (S.h.keep p o (zx dt)) ev) aS
 exact f _ _ ot C fs r cH.1 (show aC σ p _ e=_ by unfold aC;rw[bh λz=>nomatch cH.2.symm.trans ((aU ρ z).symm.trans ((S.h.objs e _ he).new zh))];exact he) zh au (aE.le (oq cH.2)) ev q
theorem fV.at_{ao:af (ag×V)}{kvs:af (ag×ar)}(x:fV Ad h ao kvs):∀{i:ae}{d1:ag×V},ao[i]? =ab d1->∃G2,kvs[i]? =ab G2/\d1.1=G2.1:=by
 induction x with
 |nil=>exact nofun
 |cons a _ _ aI=>
  intro i d1 e
  rcases i with _|i
  ·cases e;exact⟨_,aa,a⟩
  ·exact aI e
theorem au7{pl:aB}{K:af V->dn->dn}{E:ar->bO}(dt:B.f p=aj)(S:aY (B.lock p o) stk σ s)(bG:A.handled=aj)(d:qK s.heap p ao)(ev:aP h₀ s.heap)(az:K (ao.map λp=>.i p.1) (λah=>ah p=ab ⟨0,.d ao⟩) σ):
  bg a9 A (qC (.ref p)) (pV A (B.lock p o) stk pl K h₀) E s:=d _ λkvs XC U q8 lH=>by
 rcases q8.dictAt with⟨ep,yY⟩
 have keep:∀{B':bo}{C':af Sc}{ah:H}{s':bS},B'.f p=ab o->aY B' C' ah s'->s'.heap.DictAt iS p kvs ep:=λ{U U U s'} le cH=>by
  refine xV (id yY) λo3 Ym g1 g2=> ?_
  cases(Oo dt S).symm.trans g1
  exact⟨o,Ym,cH _ λU S=>S.h.keep p o le,g2⟩
 refine wpAny_pyIter_dict XC yY (.of S (iR (da _)) (lr _ aa) az ev (zk (L:=λB=>B.f p=ab o) bo.r' (P:=λi o=>o.cls=.type "dict_keyiterator"/\o.data=.fields #[.ref p,.int i 0,.int kvs.length 0,.int ep 0]) (T:="dict_keyiterator") (λU U h=>h.1) ai ai
  (λa7 aO w=>PySem.wpAny_pyIter_keyiter ⟨_,aO,a7.1,a7.2⟩ w) (λa7 ax S U U aO a4 k=> ?_)
  (λa7 ax S U U aO a4 k=>wpAny_pyNext_dict_end (knd:=iS) bG ⟨_,aO,a7.1,a7.2⟩ (keep ax S) (Kc.mpr (aD lH.length (aR (cN (as:=ao) _) a4))) k)) ⟨aa,aa⟩ (zx dt))
 rw[lV]at a4
 rcases wA.mp a4 with⟨d1,q,rfl⟩
 refine b5 (lH.at_ q) λG2 bT bE=> ?_
 refine wpAny_pyNext_dict_item (knd:=iS) ⟨_,aO,a7.1,a7.2⟩ (keep ax S) bT λkey h' az⟨o',h1,h2,h3⟩ bY=> ?_
 rcases Value.isInt_shape az with⟨tk,xd⟩
 exact k key h' o' _ ⟨tk,xd.trans (by rw[←bE])⟩ ⟨h2,h3⟩ h1 bY
theorem WD{M:Aq}{env:hI}{W W':ar->bO}(h:tC M A env W v s)(q:∀x s,W x s->W' x s):tC M A env W' v s:=dH h (λU s z=>q v s z) λx s z=>q x s z
def y8(b:dh)(a':ae->cy)(ns:af ae)(ss:af St)(src:Src)(k:cT)(lm:bf)(args:af V)(σ:H):Prop:=
 (∃p t ao,src=.i/\args=[.r p]/\σ p=ab ⟨t,.d ao⟩/\t≠0/\o1 b a' ns ss (λah=>ah p=ab ⟨0,.d ao⟩) (k.un p t ao) (ao.map λp=>.i p.1) lm (aC σ p ⟨0,.d ao⟩))\/h5 σ (λitems g=>o1 b a' ns ss g k items lm σ) src args
theorem y8.elim{src:Src}{args:af V}{lm:bf}{C:Prop}(h:y8 b a' ns ss src k lm args σ)(fY:∀p t ao,src=.i->args=[.r p]->σ p=ab ⟨t,.d ao⟩->t≠0->o1 b a' ns ss (λah=>ah p=ab ⟨0,.d ao⟩) (k.un p t ao) (ao.map λp=>.i p.1) lm (aC σ p ⟨0,.d ao⟩)->C)
  (ik:h5 σ (λitems g=>o1 b a' ns ss g k items lm σ) src args->C):C:=by
 rcases h with⟨p,t,ao,a,b,d,e,q⟩|h
 ·exact fY p t ao a b d e q
 ·exact ik h
theorem VJ{src:Src}{over:af aW}(aS:qX b.sn b.aT ns eI)(vf:2<=ns.length\/(src != .e)=ak)(a7:Plain r)(Vk:SrcS b src over r)(oK:src=.i->∃e,over=[e]/\bZ b e r)(H:mC b a' ss fo):dD b a' (.dw ns src over ss) (.For eI r fo [] c1):=λ{c sc σ s k} a h=>by
 have bG:=a.a.nh h.1
 have fin:∀{it s2},pV c.A c.B (sc::c.stk) (src != .e) (λitems g σ=>o1 b a' ns ss g k items sc.lm σ) s.heap it s2->nG a9 c.A (.forLoop eI it fo [] sc.env) (KU c sc s.heap k) s2:=λz=>z _ λcv items g J l0 B' a3 I U j0 cH fj aq q=>
  MQ H aS vf I j0 bG {a with sim:=cH} (fj.trans aq) aq q
 have h2:h4 X.T.bp b.F b.hd sc.lm over _ (y8 b a' ns ss src k sc.lm) (λa σ=>k.x a sc.lm σ):=h.2
 refine wpAny_For ?_ λx=>a7.fold _ x
 by_cases hit:src=.i
 ·rcases oK hit with⟨e,rfl,Vi⟩
  refine(Vi a.toAt h2).ir (aP.refl _) λu w ah s' au S ev q=> ?_
  refine y8.elim (args:=[u]) q (λp t ao U cg aq GI bT=> ?_) λbT=> ?_
  ·cases cg
   cases au
   refine S.lock aq GI _ λo dt aO c8 cH=>dH (au7 (pl:=ak) (K:=λitems g σ=>o1 b a' ns ss g (k.un p t ao) items sc.lm σ) (E:=λU U=>dg) dt cH bG c8 (aP.refl _) bT) (λit s2 z=>z _ λcv items g J l0 B' a3 I U j0 es fj aq q=> ?_) λU U z=>z.elim
   refine Jh (MQ (c:=c.up (c.B.lock p o)) (k:=k.un p t ao) H aS (.inr aa) I j0 bG {a with sim:=es} (fj.trans aq) aq q) λr s3 z=> ?_
   rcases r with e|f
   ·exact WD z λx s4 y=>hK.lift ev (hK.unlock dt aO c8 GI y)
   ·exact lz.lift ev (lz.unlock dt aO c8 GI z)
  ·exact dH (NZ (E:=hK c sc s.heap k) S bG au ev (aR hit bT)) (λit s2 z=>fin z) λU U z=>z
 ·exact dH (Vk a.toAt bG (λl σ q=>y8.elim q (λU U U z U U U U=>aV z hit) id) h2) (λx s1 z=>dH z (λit s2 z=>fin z) λU U y U f=>f sc.lm y) λU U y U f=>f sc.lm y
end
end
section
open PySem.SeqAt
def xu(env:hI)(x:a5)(k:v5):v5:=if k==.free&&env.scope.kind==.function&&env.kindOf x==ab .cell then .cell else k
theorem zp{scope:pC}{cl:af (a5×a8)}{C:a8}{env:hI}{x:a5}:(m3 scope cl C env).kindOf x=(scope.names.lookup x).map (xu env x):=by
 show(scope.names.map λ(n,k)=>if(k==nK&&env.scope.kind==.function&&env.kindOf n==ab .cell)then(n,Kk)else(n,k)).lookup x=_
 induction scope.names with
 |nil=>rfl
 |cons p r aI=>
  rcases p with⟨n,k⟩
  have e:(if(k==nK&&env.scope.kind==.function&&env.kindOf n==ab .cell)=ak then(n,Kk)else(n,k))=(n,xu env n k):=by
   unfold xu
   by_cases z:(k==nK&&env.scope.kind==.function&&env.kindOf n==ab .cell)=ak
   ·rw[bk z,bk z]
   ·rw[bh z,bh z]
  rw[tM,tL]
  show List.lookup x ((if(k==nK&&env.scope.kind==.function&&env.kindOf n==ab .cell)=ak then(n,Kk)else(n,k))::_)=_
  rw[e,tL,tL]
  rcases aE:x==n with _|_
  ·exact aI
  ·cases beq_iff_eq.mp aE;rfl
theorem PW{env:hI}{x:a5}:xu env x .free=.cell\/xu env x .free=.free:=by
 unfold xu
 by_cases z:(nK==nK&&env.scope.kind==.function&&env.kindOf x==ab .cell)=ak
 ·rw[bk z];exact .inl aa
 ·rw[bh z];exact .inr aa
theorem Xl{env:hI}:∀(names:af (a5×v5)){acc:af (a5×a8)},(∀x∈names,x.2=.free->∃c,env.cells.lookup x.1=ab c)->(∀p∈acc,env.cells.lookup p.1=ab p.2)->
  ∀C:Prop,(∀cl,(kJ names acc λ(x:a5×v5)(cs:af (a5×a8))=>match x with|(name,kind)=>if(kind==nK)=ak then do let c←cellOf env name;br (qF ((name,c)::cs))else br (qF cs))=(br cl:fq (af (a5×a8)))->
   (∀p∈cl,env.cells.lookup p.1=ab p.2)->(∀p∈acc,p∈cl)->(∀x,(x,nK)∈names->∃c,(x,c)∈cl)->C)->C:=by
 intro names
 induction names with
 |nil=>exactλU h2 U f=>f _ aa h2 (λU h=>h) nofun
 |cons p r aI=>
  intro acc h1 h2 C f
  rcases p with⟨n,k⟩
  have h1:=i3.mp h1
  by_cases az:(k==nK)=ak
  ·rcases h1.1 (beq_iff_eq.mp az)with⟨c,aK⟩
   refine aI (acc:=(n,c)::acc) h1.2 (i3.mpr ⟨aK,h2⟩) C λcl e gK gU nA=>f cl ?_ gK (λp a7=>gU p (.tail _ a7)) λx aE=>(fS.mp aE).elim (λz=>⟨c,by cases z;exact gU _ (.head _)⟩) (nA x)
   rw[pK]
   dsimp only
   rw[bk az]
   unfold cellOf
   rw[show env.cells.lookup n=ab c from aK]
   exact e
  ·refine aI h1.2 h2 C λcl e gK gU nA=>f cl ?_ gK gU λx aE=>(fS.mp aE).elim (λz=>by cases z;exact aV rfl az) (nA x)
   rw[pK]
   dsimp only
   rw[bh az]
   exact e
theorem aA3{α β:Type} [BEq α] [LawfulBEq α]{l:af (α×β)}{x:α}{c:β}(h:(x,c)∈l):∃d,l.lookup x=ab d/\(x,d)∈l:=by
 induction l with
 |nil=>cases h
 |cons p r aI=>
  rcases p with⟨a,b⟩
  rw[tL]
  rcases q:x==a with _|_
  ·exact(fS.mp h).elim (λz=>by cases z;exact aV (jG _) (mn.mp q)) λz=>(aI z).imp λd e=>⟨e.1,.tail _ e.2⟩
  ·cases beq_iff_eq.mp q;exact⟨b,aa,.head _⟩
theorem aA2{α β:Type} [BEq α] [LawfulBEq α]{l:af (α×β)}(a6:(l.map (·.1)).Nodup){x:α}{c:β}(h:(x,c)∈l):l.lookup x=ab c:=by
 induction l with
 |nil=>cases h
 |cons p r aI=>
  rcases p with⟨a,b⟩
  have a6:=pO.mp a6
  rw[tL]
  rcases q:x==a with _|_
  ·exact(fS.mp h).elim (λz=>by cases z;exact aV (jG _) (mn.mp q)) (aI a6.2)
  ·exact(fS.mp h).elim (λz=>by cases z;rfl) λz=>aV (List.mem_map_of_mem (f:=(·.1)) z) (aD (beq_iff_eq.mp q) a6.1)
theorem Xm{scope:pC}{env:hI}(h:∀x∈scope.names,x.2=.free->∃c,env.cells.lookup x.1=ab c):∃cl,closureFor scope env=br cl/\∀x,(x,nK)∈scope.names->cl.lookup x=env.cells.lookup x:=
 Xl (env:=env) scope.names (acc:=[]) h nofun _ λcl e gK U nA=>⟨cl,(aU (λt:fq (af (a5×a8))=>t >>=λcs=>br cs) e).trans aa,λx aE=>(nA x aE).elim λU aK=>(aA3 aK).elim λU z=>z.1.trans (gK _ z.2).symm⟩
structure tW(aT:fK)(cF fs:af a5)(ns:fK):Prop where
 cx:(cF++fs).Nodup
 out:∀x∈fs,aT.lookup x=ab .cell\/aT.lookup x=ab .free
 qk:∀x∈fs,ns.lookup x=ab .free
 all:∀p∈ns,p.2=.local\/p.2=.globalImplicit\/(p.2=.free/\p.1∈fs)
 nn:(ns.map (·.1)).Nodup
theorem Bp.dest{aT:fK}{cF fs:af a5}{ns:fK}(h:Bp aT cF fs ns=ak):tW aT cF fs ns:=
 have gT:=aF h
 have cQ:=aF gT.1
 have h3:=aF cQ.1
 have h2:=aF h3.1
 {cx:=ft h2.1
  out:=λx aE=>((nH _ _).mp (iK.mp h2.2 x aE)).imp beq_iff_eq.mp beq_iff_eq.mp
  qk:=λx aE=>beq_iff_eq.mp (iK.mp h3.2 x aE)
  all:=λp a7=>((nH _ _).mp (iK.mp cQ.2 p a7)).elim (λz=>((nH _ _).mp z).imp beq_iff_eq.mp λz=>.inl (beq_iff_eq.mp z)) λz=>.inr (.inr ⟨beq_iff_eq.mp (aF z).1,Tu.mp (aF z).2⟩)
  nn:=ft gT.2}
theorem aB8{sn:af a5}:∀(free:af ae){fs:af a5},free.mapM (sn[·]?)=ab fs->∀(j n:ae),free[j]? =ab n->∃x,fs[j]? =ab x/\sn[n]? =ab x:=by
 intro free
 induction free with
 |nil=>exactλU U U e=>nomatch e
 |cons n r aI=>
  intro fs h j m cp
  rw[List.mapM_cons]at h
  exact eD h λx e h=>eD h λxs e2 h=>by
   cases h
   rcases j with _|j
   ·cases cp;exact⟨x,aa,e⟩
   ·exact aI e2 j m cp
section
variable{b:dh}{c:cS}{B:bo}{stk:af Sc}{sc:Sc}{σ ah:H}{ρ:fX}{s s':bS}{h h':bw}{x:a5}{scope:pC}{cl:af (a5×a8)}{C:a8}{cF fs:af a5}{lm:bf}{aT:fK}{free:af ae}{tk:ae}
def inner(sc:Sc)(scope:pC)(cl:af (a5×a8))(C:a8)(cF fs:af a5)(lm:bf):Sc:=⟨m3 scope cl C sc.env,cF++fs,lm,av⟩
theorem az9{a:af ae}{k n:ae}{f:ae->aw V}{v:V}(h:bf.get (pP k aj++a.map f) n=ab v):∃j m,n=k+j/\a[j]? =ab m/\f m=ab v:=by
 unfold bf.get at h
 by_cases az:n<k
 ·rw[wk (by rw[wm];exact az),TB,bk az]at h;cases h
 ·have az:=Nat.le_of_not_lt az
  rw[Ef (by rw[wm];exact az),wm,lV]at h
  rcases e:a[n - k]? with _|m
  ·rw[e]at h;cases h
  ·rw[e]at h;exact⟨n - k,m,(tr az).symm,e,h⟩
theorem O4{n:ae}(r:oO h ρ n sc)(aE:sc.env.kindOf x=ab .cell\/sc.env.kindOf x=ab .free):rV h ρ sc x (·<n+1):=(Sc.sorts aE).elim (λz U k=>r.own x z _ λc w j p=>k c w j (aR p (kM _))) λz U k=>r.free x z _ λc w j p=>k c w j (wx p)
theorem as8{env:hI}(K:tW aT cF fs scope.names)(q:(m3 scope cl C env).kindOf x=ab .cell\/(m3 scope cl C env).kindOf x=ab .free):(x,nK)∈scope.names/\x∈fs:=by
 rw[zp]at q
 rcases e:scope.names.lookup x with _|k
 ·rw[e]at q;rcases q with q|q<;>cases q
 ·rw[e]at q
  have hm:=pE e
  rcases K.all _ hm with z|z|z
  ·cases(show k=_ from z);rcases q with q|q<;>cases q
  ·cases(show k=_ from z);rcases q with q|q<;>cases q
  ·cases(show k=_ from z.1);exact⟨hm,z.2⟩
theorem aY.inner{sn:af a5}(S:aY B (sc::stk) σ s)(a6:sc.names=sn)(Nn:∀x,aT.lookup x=ab .cell\/aT.lookup x=ab .free->sc.env.kindOf x=ab .cell\/sc.env.kindOf x=ab .free)(az:scope.kind=.function)(K:tW aT cF fs scope.names)(hf:free.mapM (sn[·]?)=ab fs)
  (rh:∀x,(x,nK)∈scope.names->cl.lookup x=sc.env.cells.lookup x)(dT:h'.Ns s.heap.objs.size λU=>aj)(keep:∀b,eT s.heap h' b):
  aY B (inner sc scope cl s.heap.objs.size cF fs (pP cF.length aj++free.map sc.lm.get)::sc::stk) σ {s with heap:=h',toks:=tk}:=S _ λρ S=>by
 have ku:=iR (h:=s.heap) (da _)
 have kZ:=(S.h.none_of ku).2
 have b9:et B (sc::stk) σ (setR ρ s.heap.objs.size (.ns (stk.length+1))) h':=S.h.grow keep (oq kZ) (λb e=>(vO e).imp id λ(z:b=s.heap.objs.size)=>⟨aD z (S.h.free ku),let⟨o,_,_,aO,_⟩:=dT;⟨o,aD z aO⟩⟩) λa o=>.inl
 have oj:=b9.ff.1
 refine eu.sim ⟨{b9 with ff:=⟨?_,b9.ff⟩},S.os,S.gens⟩
 exact{
  kind:=az
  globals:=oj.globals
  builtins:=oj.builtins
  role:=vN
  nodup:=K.cx
  frame:=nofun
  ns:=by
   refine⟨_,dT,λi x v aq e2=> ?_⟩
   rcases az9 e2 with⟨j,m,rfl,bF,eO⟩
   refine b5 (aB8 free hf j m bF) λy e5 sg=> ?_
   have aq:(cF++fs)[cF.length+j]? =ab x:=aq
   rw[Ef (en _ _),Nat.add_sub_cancel_left,e5]at aq
   cases aq
   have GK:=List.mem_of_getElem? e5
   have aK:=rh y (pE (K.qk y GK))
   have xd:(m3 scope cl s.heap.objs.size sc.env).kindOf y=ab .cell\/(m3 scope cl s.heap.objs.size sc.env).kindOf y=ab .free:=by
    rw[zp,K.qk y GK]
    exact PW.imp (aU ab) (aU ab)
   refine b5 oj.ns λm' BQ zf=> ?_
   rcases zf m y v (aD a6 sg) eO with⟨w,q,_⟩|⟨d,w,q,g1,g2,g3⟩
   ·rcases Nn y (K.out y GK)with z|z<;>cases q.symm.trans z
   ·exact .cell d w xd (aK.trans g1) g2 g3
  own:=λx q=>nomatch q.1
  free:=λx q=>by
   have z:=as8 K (q.elim .inr λz=>.inl z.2)
   exactλU k=>O4 oj (Nn x (K.out x z.2)) _ λc w j p g=>k c w j p ((rh x z.1).trans g)}
end
end
section
open PySem.SeqAt
def tests(ifs:af bU)(env:hI):fq aB:=kJ ifs ak λc r=>if r=ak then do let ok←qB c env (hr c env);br (qF ok)else br (qF r)
section
variable{b:dh}{c:cS}{B B':bo}{A:ea}{stk:af Sc}{sc:Sc}{σ ah:H}{ρ ρ':fX}{s s':bS}{E:bR}{h h' h₀:bw}{x:a5}{v it:ar}{r eI iter:bU}{ifs:af bU}{scope:pC}{p:el}{env:hI}
theorem Xu{R:v7->bO}{D:a8}(I:ae->bO)
  (turn:∀n s,I n s->bg a9 A (pF it) (λei dW=>match ei with
   |none=>R (.ok .next) dW
   |some v=>bg a9 A (x6 eI it v) (λU dW=>bg a9 A (tx eI env v) (λU jf=>bg a9 A (tests ifs env) (λok j1=>
      aG ok (bg a9 A (hr r env) (λx Dd=>bg a9 A (hq (.builtin "list.append") [.ref D,x]) (λU De=>∃m,m<n/\I m De) (λU U=>dg) Dd) (λU U=>dg) j1)
      (∃m,m<n/\I m j1)) (λU U=>dg) jf) (λU U=>dg) dW) (λU U=>dg) dW) (λU U=>dg) s)
  (n:ae)(h:I n s):nG a9 A (.compLoop (.ListComp r [⟨eI,iter,ifs,0⟩] scope p) 0 it (.ref D) env) R s:=by
 have no:∀{W:ar->bO}(x:ar)(s:bS),dg->W x s:=λU U=>S7
 refine codeAny_loop aa I (λn s rg=> ?_) n h
 show bg _ A ((compTurn (.ListComp r [⟨eI,iter,ifs,0⟩] scope p) 0 it (.ref D) env).onRaise (λx=>do DM x env;Sm x)) _ _ s
 refine Sw ?_
 rw[compTurn_list]
 refine aN (qE (aN (dH (turn n s rg) (λei dW cv=> ?_) no)))
 rcases ei with _|v
 ·exact bI cv
 ·refine aN (dH cv (λU dW cv=>aN (dH cv (λU jf jx=>aN (dH jx (λok j1 kx=> ?_) no)) no)) no)
  cases ok
  ·exact bI ⟨aa,kx⟩
  ·exact aN (aN (dH kx (λx Dd as1=>aN (dH as1 (λU De as2=>bI (bI ⟨aa,as2⟩)) no)) no))
theorem aU8{post:bf}:∀(vs as:af V){bs:bf},vs.length=bs.length->iW (as.map ab++bs++post) (qy as.length vs.length) vs=(as++vs).map ab++post:=by
 intro vs
 induction vs with
 |nil=>intro as bs h;cases(pL.mp h.symm);rw[eX,eX];rfl
 |cons v vs aI=>
  intro as bs h
  rcases bs with _|⟨b,bs⟩
  ·cases h
  ·rw[jI,RN]
   unfold iW
   have e:(as.map ab++b::bs++post).set as.length (ab v)=(as++[v]).map ab++bs++post:=by
    rw[fy,List.set_append_right _ _ (eK (cN _)),cN,Uj,gA,fy,fy]
    rfl
   have aI:=aI (as++[v]) (wz h)
   rw[cK]at aI
   rw[e]
   exact aI.trans (by rw[fy];rfl)
theorem aU9{n:ae}{vs:af V}{pre post:bf}(h1:vs.length=n)(h2:pre.length=n):iW (pre++post) (gB n) vs=vs.map ab++post:=by
 rw[I8,←h1]
 exact aU8 vs [] (h1.trans h2.symm)
theorem bc1{n:ae}{v:V}{vs:af V}(h:lS n v=ab vs):vs.length=n:=by
 rcases n with _|_|n
 ·cases v<;>first|(cases h;done)|skip
  rename_i m
  have h:(if m.length=0 then ab m else aj)=ab vs:=h
  by_cases z:m.length=0
  ·rw[bk z]at h;cases h;exact z
  ·cases(bh z).symm.trans h
 ·cases h;rfl
 ·exact(Q6 (pQ (pQ (eL n))) h).2
def yJ(b:dh):af aW->af bU->Prop
 |[],[]=>gN
 |e::ao,r::rs=>TS b e r/\yJ b ao rs
 |_,_=>dg
theorem ba5{Q:aB->dn}{W:aB->bO}:∀(cd:af aW){ifs:af bU}{σ:H}{s:bS},yJ b cd ifs->At b c sc σ s->Dj X.T.bp b.F b.hd sc.lm cd σ Q (λU U=>dg)->(∀t ah s',Q t ah->aY c.B (sc::c.stk) ah s'->aP s.heap s'.heap->W t s')->bg a9 c.A (tests ifs sc.env) W (λU U=>dg) s:=by
 intro cd
 induction cd with
 |nil=>
  intro ifs σ s h a q k
  rcases ifs with _|⟨_,_⟩
  ·exact bI (k ak σ s q a.sim (aP.refl _))
  ·exact h.elim
 |cons e cd aI=>
  intro ifs σ s h a q k
  rcases ifs with _|⟨r,ifs⟩
  ·exact h.elim
  ·have rest:∀(ifs:af bU)(s':bS),W av s'->bg a9 c.A (kJ ifs av λc r=>if r=ak then do let ok←qB c sc.env (hr c sc.env);br (qF ok)else br (qF r)) W (λU U=>dg) s':=λifs=>by
    induction ifs with
    |nil=>intro s' w;exact bI w
    |cons _ _ aI=>intro s' w;rw[pK];exact aI s' w
   unfold tests
   rw[pK]
   refine aN (aN (m:=qB r sc.env (hr r sc.env)) (dH (h.1 a q λU U=>id) (λt s2 z=>z _ λjg a3 bb cH ev q=> ?_) λx s2 z=>z _ λU U U U z=>z _ λU U U U U U U U U U U U q=>q))
   cases bb
   cases jg
   ·exact bI (rest ifs s2 (k av a3 s2 q cH ev))
   ·exact bI (aI h.2 (a.next cH) q λt ah s' q er Fy=>k t ah s' q er (ev.trans Fy))
theorem aY.bc2{o:bj}(S:aY B (sc::stk) σ s)(e9:s.heap.get? sc.env.locals=ab o):aY (B.and sc.env.locals o) stk σ s/\B.f sc.env.locals=aj:=S _ λρ S=>by
 have kZ:=S.h.ff.1.role
 have dt:B.f sc.env.locals=aj:=mS (P:=dg) (β:=h8) (λo q=>nomatch (S.h.old _ o q).symm.trans kZ) id
 have cI:∀b r,r≠.ns stk.length->ρ b=ab r->(if b=sc.env.locals then aj else ρ b)=ab r:=λb r n e=>(bh λz:b=_=>n (cR (e.symm.trans ((aU ρ z).trans kZ)))).trans e
 refine⟨eu.sim (ρ:=λb=>if b=sc.env.locals then aj else ρ b) ⟨{keep:=λb y q=> ?_,old:=λb y q=> ?_,k7:=λb q=> ?_,objs:=λa y q=> ?_,ff:= ?_},S.os,S.gens⟩,dt⟩
 ·exact(bo.mG q).elim (S.h.keep b y) λz=>z.1.symm▸z.2▸e9
 ·exact(bo.mG q).elim (λq=>(bh (bo.oT dt q)).trans (S.h.old b y q)) λz=>bk z.1
 ·by_cases z:b=sc.env.locals
  ·rw[bk z]at q;cases q
  ·rw[bh z]at q;exact S.h.k7 b q
 ·have y:=S.h.objs a _ q
  exact⟨λz=>cI _ _ nofun (y.new z),y.old,y.rep.but (aP.refl _) (λU e=>e) λd q=>⟨cI d _ nofun q,λU e=>e⟩⟩
 ·exact S.h.ff.2.but (aP.refl _) (λb j x=>cI b _ nofun) (λb n l=>cI b _ λz=>by cases z;exact aV l (nN _)) (λU U U U U x=>x) λU U U U U U x=>x
end
end
section
open PySem.SeqAt
section
variable{b:dh}{c:cS}{B B':bo}{A:ea}{stk:af Sc}{sc:Sc}{σ ah:H}{ρ ρ':fX}{s s':bS}{E:bR}{Q:bQ}{h h' h₀:bw}{x:a5}{v it:ar}{r eI iter:bU}{ifs:af bU}{scope:pC}{p:el}{env:hI}{elt:aW}{nv:ae}{src:Src}{over cd:af aW}{free:af ae}
 {aT:fK}{cF fs:af a5}{cl:af (a5×a8)}{C:a8}{lm bu:bf}
abbrev EN:cy:=λU U U U U=>dg
def dh.in(b:dh)(sn:af a5)(aT:fK):dh:=⟨b.hd,b.n,sn,aT,EN⟩
theorem at1(K:tW aT cF fs scope.names):Binds (inner sc scope cl C cF fs lm) scope.names:=λx h=>((nH _ _).mp h).elim (λh=>.inl (show(m3 scope cl C sc.env).kindOf x=_ by rw[zp,beq_iff_eq.mp h];rfl)) λh=>by
 rcases K.all _ (pE (beq_iff_eq.mp h))with z|z|z
 ·cases z
 ·cases z
 ·cases z.1
theorem At.inner(a:At b c sc σ s)(K:tW aT cF fs scope.names)(S:aY B (inner sc scope cl C cF fs lm::sc::c.stk) ah s'):At (b.in (cF++fs) scope.names) ⟨B,sc::c.stk,c.A⟩ (inner sc scope cl C cF fs lm) ah s' where
 k:=a.k
 names:=aa
 gl:=λx h=>show(m3 scope cl C sc.env).kindOf x=_ by rw[zp,show scope.names.lookup x=_ from h];rfl
 cl:=λx h=>show(m3 scope cl C sc.env).kindOf x=_\/(m3 scope cl C sc.env).kindOf x=_ by
  rw[zp]
  rcases h with h|h
  ·rcases K.all _ (pE h)with z|z|z
   ·cases z
   ·cases z
   ·cases z.1
  ·rw[show scope.names.lookup x=_ from h]
   exact PW.imp (aU ab) (aU ab)
 fn:=λU U U U U U U U f=>f.elim
 a:=⟨a.a.handled,a.a.frames,a.a.depth,a.a.units⟩
 sim:=S
def Xp(b:dh)(nv:ae)(elt:aW)(cd:af aW)(bu:bf)(x:V)(acc:af V)(σ:H)(k:af V->dn):Prop:=
 ∃vs,lS nv x=ab vs/\Dj X.T.bp EN b.hd (vs.map ab++bu) cd σ (λt σ=>aG t (vE X.T.bp EN b.hd (vs.map ab++bu) elt σ (λv σ=>acc.length<bN/\k (acc++[v]) σ) (λU U=>dg)) (k acc σ)) λU U=>dg
def Fn(b:dh)(nv:ae)(elt:aW)(cd:af aW)(bu:bf)(Q:bQ)(g:dn)(l acc:af V)(σ:H):Prop:=yX (Xp b nv elt cd bu) g l acc σ λacc σ=>vNew (.l acc) σ Q
def l5(ws:af ar)(n:ae):bj:={cls:=.type "list",data:=.seq ws.toArray n}
theorem Lk{ws:af ar}{n:ae}:(l5 ws n).cls≠.type "tuple":=λz=>aV (wC z) ai
def yV(b:dh)(nv:ae)(elt:aW)(cd:af aW)(bu:bf)(Q:bQ)(g:dn)(l:af V)(J:bo->ae->bo->Prop)(B:bo)(D:a8)(isc:bf->Sc)(stk:af Sc)(h₀ cv:bw)(m:ae)(s:bS):Prop:=
 ∀P:Prop,(∀i Y pre acc ws n σ,m+i=l.length->J B i Y->Y.f D=aj->pre.length=nv->b7 s.heap acc ws->acc.length<=bN->aY (Y.and D (l5 ws n)) (isc (pre++bu)::stk) σ s->aP cv s.heap->aP h₀ s.heap->Fn b nv elt cd bu Q g (l.drop i) acc σ->P)->P
theorem gE.no{c:cS}{v:ar}(p:gE c h₀ (λU U=>dg) v s):dg:=p _ λU U U U z=>z _ λU U U U U U U U U U U U q=>q
theorem Xw{isc:Sc}{D:a8}{acc:af V}{ws:af ar}{n:ae}(c8:c.B.f D=aj)(S:aY (c.B.and D (l5 ws n)) (isc::sc::c.stk) σ s)(au:b7 s.heap acc ws)(ax:acc.length<=bN)(ev:aP h₀ s.heap)(a4:vNew (.l acc) σ Q)(P:Prop)
  (fin:∀lN m,eU ((c.on sc).up (c.B.and isc.env.locals lN)) bq h₀ Q (.ref D) s->c.B.f isc.env.locals=aj->s.heap.get? isc.env.locals=ab lN->s.heap.Ns isc.env.locals m->P):P:=by
 have BS:∃m,s.heap.Ns isc.env.locals m:=S _ λρ S=>S.h.ff.1.ns.imp λU z=>z.1
 rcases BS with⟨m,hm⟩
 refine kj (id hm) λlN U U Ny U=> ?_
 rcases S.bc2 Ny with⟨pY,Na⟩
 have OI:D≠isc.env.locals:=λz=>nomatch Na.symm.trans ((aU (bo.f _) z).symm.trans (bo.oS c8))
 have am3:c.B.f isc.env.locals=aj:=mS (P:=dg) (β:=h8) (λx e=>nomatch Na.symm.trans (bo.r' e)) id
 have n5:(c.B.and isc.env.locals lN).f D=aj:=mS (P:=dg) (β:=h8) (λx e=>(bo.mG e).elim (λz=>nomatch c8.symm.trans z) λz=>OI z.1) id
 rw[bo.and_comm OI]at pY
 have cE:=pY.at_ n5
 refine pY _ λρ E1=> ?_
 refine Dr (E1.lR (tk:=s.toks) n5 Lk λU U U e=>e) λVB dF U=> ?_
 exact fin lN m (eU.lift ev (eu.adopt (c:=(c.on sc).up (c.B.and isc.env.locals lN)) VB dF n5 cE a4 λρ U k=>k ws.toArray n ax cE au)) am3 Ny hm
theorem Xz{W:v7->bO}{D:a8}{J:bo->ae->bo->Prop}{l0:bo->ae->ar->bo->Prop}{l:af V}{g:dn}{pl:aB}{cv:bw}{m:ae}(bG:c.A.handled=aj)(a:∀{B σ s lm},aY B (inner sc scope cl C cF fs lm::sc::c.stk) σ s->At (b.in (cF++fs) scope.names) ⟨B,sc::c.stk,c.A⟩ (inner sc scope cl C cF fs lm) σ s)
  (K:tW aT cF fs scope.names)(aS:qX (cF++fs) scope.names (gB nv) eI)(Vj:bZ (b.in (cF++fs) scope.names) elt r)(Vh:yJ (b.in (cF++fs) scope.names) cd ifs)(lZ:Iter pl c.A cv l g it J l0)(eN:Bb c.A it J l0)(vf:pl=ak)(c8:c.B.f D=aj)
  (z:yV b nv elt cd bu Q g l J c.B D (inner sc scope cl C cF fs) (sc::c.stk) h₀ cv m s)
  (fin:∀lm acc ws n σ s,aY (c.B.and D (l5 ws n)) (inner sc scope cl C cF fs lm::sc::c.stk) σ s->b7 s.heap acc ws->acc.length<=bN->aP h₀ s.heap->vNew (.l acc) σ Q->W (.ok .next) s):
  bg a9 c.A (pF it) (λei dW=>match ei with
   |none=>W (.ok .next) dW
   |some v=>bg a9 c.A (x6 eI it v) (λU dW=>bg a9 c.A (tx eI (m3 scope cl C sc.env) v) (λU jf=>bg a9 c.A (tests ifs (m3 scope cl C sc.env)) (λok j1=>
      aG ok (bg a9 c.A (hr r (m3 scope cl C sc.env)) (λx Dd=>bg a9 c.A (hq (.builtin "list.append") [.ref D,x]) (λU De=>∃m',m'<m/\yV b nv elt cd bu Q g l J c.B D (inner sc scope cl C cF fs) (sc::c.stk) h₀ cv m' De) (λU U=>dg) Dd) (λU U=>dg) j1)
      (∃m',m'<m/\yV b nv elt cd bu Q g l J c.B D (inner sc scope cl C cF fs) (sc::c.stk) h₀ cv m' j1)) (λU U=>dg) jf) (λU U=>dg) dW) (λU U=>dg) dW) (λU U=>dg) s:=z _ λi Y pre acc ws n σ hm cp Ng GC au hlen S uA uz hw=>by
 rcases m with _|m
 ·have ax:l.length<=i:=eK (hm.symm.trans (iA i))
  rw[J9 ax]at hw
  exact lZ.fin (eN.ext _ cp Ng) S uA hw.1 (Eh ax) λqr pY y3=>fin _ acc ws n σ qr pY (au.cu y3) hlen (uz.trans y3) hw.2
 ·have qh:i<l.length:=by lia
  rw[J8 qh]at hw
  rcases hw with⟨cE,vs,dm,hw⟩
  refine lZ.item (eN.ext _ cp Ng) S uA cE (f9 qh) λw Y2 s2 Gz cH cb ar1=>lZ.go (.inr vf) Gz cH λY3 s3 zb es fc=> ?_
  refine eN.back cp c8 zb _ λqZ e ap9 xa=> ?_
  cases e
  have NG:=bc1 dm
  refine QO (sc:=inner sc scope cl C cF fs (pre++bu)) aS aa (at1 K) es bG (ar1.cu fc) (by rw[mu];exact dm) λs4 hL ig=> ?_
  have hL:aY (qZ.and D (l5 ws n)) (inner sc scope cl C cF fs (vs.map ab++bu)::sc::c.stk) σ s4:=by
   have e:iW (pre++bu) (gB nv) vs=vs.map ab++bu:=aU9 NG GC
   exact aR e hL
  have sh:=(cb.trans fc).trans ig
  have jb:∀{acc ws n σ s},b7 s.heap acc ws->acc.length<=bN->aY (qZ.and D (l5 ws n)) (inner sc scope cl C cF fs (vs.map ab++bu)::sc::c.stk) σ s->aP s4.heap s.heap->Fn b nv elt cd bu Q g (l.drop (i+1)) acc σ->∃m',m'<m+1/\yV b nv elt cd bu Q g l J c.B D (inner sc scope cl C cF fs) (sc::c.stk) h₀ cv m' s:=
   λau ax S ev q=>⟨m,kM _,λU f=>f (i+1) qZ (vs.map ab) _ _ _ _ (by lia) ap9 xa ((cN _).trans NG) au ax S ((uA.trans sh).trans ev) ((uz.trans sh).trans ev) q⟩
  refine ba5 (sc:=inner sc scope cl C cF fs (vs.map ab++bu)) (c:=⟨qZ.and D (l5 ws n),sc::c.stk,c.A⟩) cd Vh (a hL) hw λt σ5 s5 q i5 kb=> ?_
  have Mm:=sh.trans kb
  cases t
  ·exact jb (au.cu Mm) hlen i5 kb q
  ·refine dH (Vj (c:=⟨qZ.and D (l5 ws n),sc::c.stk,c.A⟩) (sc:=inner sc scope cl C cF fs (vs.map ab++bu)) (a i5) q) (λu qr z=>z _ λv h7 a4 pY y3 q=> ?_) λU U z=>z.no
   have NC:=(au.cu Mm).cu y3
   refine append_at (D:=D) (its:=ws.toArray) (n:=n) (pY.at_ xa) (λh2 Gn l7=> ?_) (by rw[wq,NC.length];exact kA (jk q.1))
   rcases pY.turn (tk:=qr.toks) xa Lk (λb n=>lK Gn n) (o':=l5 (ws++[u]) (n+1)) (by rw[l7];unfold l5;rw[List.push_toArray])with⟨E1,Fz⟩
   exact jb ((NC.cu Fz).append (.cons (a4.cu Fz) .nil)) (by rw[cK];exact q.1) E1 ((kb.trans y3).trans Fz) q.2
end
end
section
open PySem.SeqAt
structure yw(b:dh)(elt:aW)(src:Src)(over cd:af aW)(free:af ae)(r eI iter:bU)(ifs:af bU)(scope:pC)(cF fs:af a5):Prop where
 hs:SrcS b src over iter
 ne:(src != .e)=ak
 pl:Plain iter
 kd:scope.kind=.function
 ok:tW b.aT cF fs scope.names
 fr:free.mapM (b.sn[·]?)=ab fs
 tg:qX (cF++fs) scope.names (gB cF.length) eI
 he:bZ (b.in (cF++fs) scope.names) elt r
 aK:yJ (b.in (cF++fs) scope.names) cd ifs
section
variable{b:dh}{a':ae->cy}{c:cS}{B B':bo}{A:ea}{stk:af Sc}{sc:Sc}{σ ah:H}{ρ ρ':fX}{s s':bS}{E:bR}{Q:bQ}{h h' h₀:bw}{x:a5}{v it:ar}{r eI iter:bU}{ifs:af bU}{scope:pC}{p p0 pp:el}{env:hI}{elt:aW}{src:Src}{over cd:af aW}{free:af ae}{cF fs:af a5}{n:ae}
theorem LY{use:aw (ar->fq h8)}{W:ar->bO}(M:yw b elt src over cd free r eI iter ifs scope cF fs)(a:At b c sc σ s)(h:vE X.T.bp b.F b.hd sc.lm (.C elt cF.length src over cd free) σ Q E)
  (fin:∀(v:ar)(C:a8)(lN:bj)(m:a5->aw ar)(s':bS),eU ((c.on sc).up (c.B.and C lN)) bq s.heap Q v s'->c.B.f C=aj->s'.heap.get? C=ab lN->s'.heap.Ns C m->compPost a9 c.A (gE (c.on sc) s.heap E) use W v C (.ok .next) s'):
  bg a9 c.A (R9 (.ListComp r [⟨eI,iter,ifs,0⟩] scope p) scope sc.env p0 (newList []) av (hr iter sc.env) use) W (gE (c.on sc) s.heap E) s:=by
 have bG:=a.a.nh h.1
 have rh:∃cl,closureFor scope sc.env=br cl/\∀x,(x,nK)∈scope.names->cl.lookup x=sc.env.cells.lookup x:=Xm λx aE hf=>by
  rcases M.ok.all x aE with z|z|z
  ·cases hf.symm.trans z
  ·cases hf.symm.trans z
  ·exact a.C5 _ λρ S=>O4 S (a.cl x.1 (M.ok.out _ z.2)) _ λc U U U e U U=>⟨c,e⟩
 refine b5 rh λcl ao7 ao8=> ?_
 have Hi:∀{x k},x∈scope.names->x.2=k->k≠.local->k≠.globalImplicit->k=.free:=λaE e d9 e4=>(M.ok.all _ aE).elim (λz=>aV (e.symm.trans z) d9) λz=>z.elim (λz=>aV (e.symm.trans z) e4) λz=>e.symm.trans z.1
 refine wpAny_comprehension_free aa (λx=>M.pl.fold _ x) ao7 M.kd (λx aE ax=>aR ax (aA2 M.ok.nn aE)) ?_
 refine dH (M.hs (K:=λitems g σ=>Fn b cF.length elt cd (free.map sc.lm.get) Q g items [] σ) a bG (λU U=>id) h.2) (λx s1 z=>dH z (λit s2 z=>z _ λcv items g J l0 B' a3 lZ eN j0 cH fj aq hw=> ?_) λU U y=>y) λU U y=>y
 have eN:=eN M.ne
 have kv:=iR (h:=s2.heap) (da _)
 have xa:=cH.free kv
 have c8:c.B.f s2.heap.objs.size=aj:=aY.free (stk:=sc::c.stk) (cH _ λρ S=>(lZ.ry j0 S).sim) kv
 refine wpAny_newList ?_
 refine wpAny_newFunctionEnv (λx aE z=>aV (Hi aE z ai ai) ai) (λU h=>aV h oB) (λh' dT an1=> ?_) M.kd
 have az:∀b,eT (s2.heap.push (l5 [] 0)) h' b:=λb o e=>(an1.2 b (λz=>aV (rM e) (aR z (nN _)))).trans (iJ _ e)
 have hL:=aY.inner (s:={s2 with heap:=s2.heap.push (l5 [] 0)}) (tk:=s2.toks+([]:af (a5×ar)).length) (cH.push aa) a.names a.cl M.kd M.ok M.fr ao8 dT az
 have ig:aP s2.heap h':=(aP.push _ _).trans (aP.keeps az)
 have loop:nG a9 c.A (.compLoop (.ListComp r [⟨eI,iter,ifs,0⟩] scope p) 0 it (.ref s2.heap.objs.size) (m3 scope cl (s2.heap.push (l5 [] 0)).objs.size sc.env)) (compPost a9 c.A (gE (c.on sc) s.heap E) use W (.ref s2.heap.objs.size) (s2.heap.push (l5 [] 0)).objs.size) {s2 with heap:=h',toks:=s2.toks+([]:af (a5×ar)).length}:=
  Xu (yV b cF.length elt cd (free.map sc.lm.get) Q g items J c.B s2.heap.objs.size (inner sc scope cl (s2.heap.push (l5 [] 0)).objs.size cF fs) (sc::c.stk) s.heap cv)
   (λm s5 z=>Xz bG (λS=>a.inner M.ok S) M.ok M.tg M.he M.aK lZ eN M.ne c8 z λlm acc ws n σ qr pY au ax ev a4=>Xw c8 pY au ax ev a4 _ λlN m pv h1 h2 h3=>fin _ _ lN m qr pv h1 h2 h3)
   items.length λU f=>f 0 B' (pP cF.length aj) [] [] 0 a3 aa j0 xa wm .nil (eL _) hL (aq.trans ig) ((fj.trans aq).trans ig) hw
 exact codeAny_compStart_list loop (eN.self (eN.ext _ j0 xa) hL loop)
theorem aY.gone{C:a8}{o:bj}{m:a5->aw ar}{tk:ae}(S:aY (B.and C o) stk σ s)(e9:B.f C=aj)(dT:s.heap.Ns C m)(bY:ix C s.heap h'):aY B stk σ {s with heap:=h',toks:=tk}/\aP s.heap h':=
 have ev:=aP.ns bY dT
 ⟨S _ λU S=>(S.swap (B':=B) (P:=(·=C)) (ni (S.h.old C o (bo.oS e9))) (ni (bo.rp (B:=B) e9)) (λU=>id) (λb x e=>.inl ⟨bo.oT e9 e,bo.r' e⟩) (λb n=>lK bY n) ev).sim,ev⟩
theorem EK(M:yw b elt src over cd free r eI iter ifs scope cF fs):bZ b (.C elt cF.length src over cd free) (.ListComp r [⟨eI,iter,ifs,0⟩] scope p):=λ{c sc σ s Q E} a h=>
 LY (p0:=Sa [⟨eI,iter,ifs,0⟩] p) (use:=aj) M a h λv C lN m s' z dt e9 dT=>⟨m,dT,λh' bY=>z _ λu ah au S ev q=>by
  rcases aY.gone (tk:=s'.toks) S dt dT bY with⟨cH,cb⟩
  exact .mk (c:=c.on sc) (au.cu cb) cH (ev.trans cb) q⟩
theorem VD(M:yw b elt src over cd free r eI iter ifs scope cF fs)(a6:b.sn[n]? =ab x)(bb:n7 b.aT x=ak):dD b a' (.a n (.C elt cF.length src over cd free)) (.Assign [.Name x pp] (.ListComp r [⟨eI,iter,ifs,0⟩] scope p) p0):=λ{c sc σ s k} a h=>by
 have GH:swapsWith (.ListComp r [⟨eI,iter,ifs,0⟩] scope p) (ab (.Name x pp)) p0.line sc.env=
   br (sc.env.blockKind==.function&&sc.env.kindOf x==ab .local&&pp.line==(Uv r [⟨eI,iter,ifs,0⟩] scope p).pos.line&& !(scope.names.any λ(n,k)=>n==x&&(k==.local||k==.cell))):=aa
 generalize(sc.env.blockKind==.function&&sc.env.kindOf x==ab .local&&pp.line==(Uv r [⟨eI,iter,ifs,0⟩] scope p).pos.line&& !(scope.names.any λ(n,k)=>n==x&&(k==.local||k==.cell)))=t at GH
 cases t
 ·exact Sn ((EK M a.toAt h).ir (aP.refl _) λU U U U au S ev q=>vQ S (aD a.names a6) (a.binds x bb) au λU cH cb=>FS.mk cH (ev.trans cb) q) GH
 ·unfold oQ
  rw[exec_Assign_Name_used _ _ _ _ GH]
  refine aN (qE (aN ?_))
  refine aN (m:=R9 (.ListComp r [⟨eI,iter,ifs,0⟩] scope p) scope sc.env (Sa [⟨eI,iter,ifs,0⟩] p) (newList []) av (hr iter sc.env) (ab (tx (.Name x pp) sc.env))) (dH (LY (use:=ab (tx (.Name x pp) sc.env)) (W:=λU s'=>lz c sc s.heap k .next s') M a.toAt h λv C lN m s' z dt e9 dT=>z _ λu ah au S ev q=> ?_)
   (λU s' b4=>bI (bI b4)) λU U z U f=>f sc.lm z)
  show bg _ c.A (tx (.Name x pp) sc.env v) _ _ s'
  refine Ju (vQ S (aD a.names a6) (a.binds x bb) au λs2 cH cb=> ?_)
  have Nd:s2.heap.Ns C m:=Ns.il (λo e=>by cases e9.symm.trans e;exact cH.at_ dt) dT
  refine⟨m,Nd,λh' bY=> ?_⟩
  rcases aY.gone (tk:=s2.toks) cH dt Nd bY with⟨es,fc⟩
  exact FS.mk es ((ev.trans cb).trans fc) q
end
end
section
open PySem.SeqAt
theorem Ag{h:bw}{e:a8}{b3:bj}(aO:h.get? e=ab b3):kK a9 h (rJ (.ref e)) b3.cls:=λA Q E s k q=>by
 unfold rJ
 exact aN (wc (k _ _ aO) (bI q))
section
variable{b:dh}{a':ae->cy}{c:cS}{B:bo}{A:ea}{stk:af Sc}{sc:Sc}{σ:H}{s:bS}{E:bR}{h₀:bw}{r:bU}{p:el}{env:hI}{W:jE->bO}{F:ar->bO}{x:fq ar}{ao:af aW}{C t:ae}{fs:af (ae×V)}{e:ae}
def VA(A:ea)(W:jE->bO)(F:ar->bO)(v:ar)(s:bS):Prop:=
 ∀P:Prop,(∀e k od vs dG b,v=.ref e->s.heap.get? e=ab ⟨.ref k,od,.fields vs,dG⟩->vs[1]? =ab .none->X.K.In s.heap->Dz X.K (.ref k) (.ref k)=ab b->bg a9 A (DN (.ref e):fq jE) W F s->P)->P
theorem aN5(h:bg a9 A x (VA A W F) F s):bg a9 A (Jp env (ab x) aj) W F s:=by
 unfold Jp
 refine aN (dH h (λv dW cv=>cv _ λe k od vs dG b a4 he h1 K aE au=> ?_) λU U x=>x)
 cases a4
 have xb:kK a9 dW.heap (Jm (.ref k) (.type "BaseException")) ak/\kK a9 dW.heap (rJ (.ref k)) (.type "type"):=by
  unfold Dz at aE
  by_cases q:(subIn X.K (.ref k) (.type "BaseException")==ab ak)=ak
  ·rw[bk q]at aE;exact⟨looks_subIn K (beq_iff_eq.mp q),(kit_cls K aE).1⟩
  ·rw[bh q]at aE;cases aE
 have zh:=Ag he
 have hit:kK a9 dW.heap (isType (.ref e)) av:=λA Q E s k q=>by
  unfold isType loadHead
  exact aN (wc (k _ _ he) (bI q))
 refine aN (bI (aN (lq ?_)))
 unfold excFromValue isExcClass
 refine aN (aN (hit.here ?_))
 rw[bh d6]
 refine bI ?_
 rw[bh d6]
 refine aN ?_
 unfold v'
 refine aN (zh.here (xb.1.here ?_))
 rw[bk rfl]
 refine bI ?_
 dsimp only
 refine aN (hit.here ?_)
 rw[bh d6]
 refine aN ?_
 unfold raisedInstance
 refine aN (zh.here (aN (xb.2.here ?_)))
 rw[bk (show(tU "type"==tU "type")=ak by decide)]
 refine bI (aN ?_)
 unfold setFlight
 exact aN (jF he aa h1 (bI au))
theorem bb9{e h:a8}{Cr:bj}{vs:dC ar}{Q E:ar->bO}(aO:s.heap.get? h=ab Cr)(hd:Cr.data=.fields vs)(h2:vs[2]? =ab .none)(q:Q .none s):bg a9 A (runValue (.builtin "proto.unchain" ⟨[.ref e,.ref h,.ref h,.bool av],[]⟩)) Q E s:=by
 refine runValue_entry (Jj (b:=Builtin.«proto.unchain») (by kernel_rfl)) ?_
 unfold Builtin.«proto.unchain»
 exact aN (jF aO hd h2 (bI ⟨_,aa,q⟩))
theorem hM.mk{m:Mark}{ρ:fX}{r:nT}(S:eu B stk σ ρ s)(he:σ e=ab ⟨t,.e C fs r⟩)(aS:t≠0)(au:r≠.made)(x:yx s.heap ρ e m)(ev:aP h₀ s.heap)(q:E e σ):hM B stk m h₀ E e s:=λU k=>k σ ρ t C fs r S he aS au x ev q
theorem aN4{hd:aw ae}{u:V}(a:c.A.handled=hd.map .ref)(S:aY c.B c.stk σ s)(h:rC σ E hd u):∀v,bq s.heap u v->bg a9 c.A (DN v:fq jE) W (gE c s.heap E) s:=λv a4=>S _ λρ S=>by
 rcases h with⟨he,aS,q⟩|⟨he,aS,eh,q⟩<;>cases a4
 all_goals
  unfold DN
  refine aN (Ss ?_)
  rw[a]
  have y:=S.h.objs _ _ he
  refine y.rep _ λk od vs dG f6 ek j5 lj f7 kI=> ?_
  refine fH kI λjn kI xX Dv=> ?_
 ·refine aN (bI (D1 λU f=>f _ .made aa (.inl aa) (.mk ⟨S.h.mod (o':=⟨_,.e _ _ .bare⟩) he aS (.refl ..) ⟨_,ek⟩ (aP.refl _) ⟨y.new,y.old,λU k=>k _ od vs dG f6 ek j5 lj f7 Dv⟩,S.os,S.gens⟩ (bk rfl) aS nofun
   (λU k=>k _ vs jn ek aa kI (λU=>xX) λz=>aV rfl z) (aP.refl _) q)))
 ·refine S.h.objs _ _ eh |>.rep _ λU U vh U U i0 U U U z6=> ?_
  have zd:∀{h e:ae}{o o':O},σ h=ab o->σ e=ab o'->o≠o'->h≠e:=λa b n z=>n (cR (a.symm.trans ((aU σ z).trans b)))
  have zd:=zd eh he nofun
  dsimp only[oE]
  rw[bk (bne_iff_ne.mpr λz=>zd (Kx z))]
  refine aN (lq (bb9 i0 aa z6 (aN ?_)))
  refine JA ek aa (D5.mp Dv).1 (D1 ?_)
  rcases Ip (i:=2) (v:=.ref _) ek aa with⟨bY,cE,_,ev⟩
  exactλU f=>f _ .made aa (.inl aa) (.mk ⟨S.h.mod (o':=⟨_,.e _ _ .ctx⟩) he aS bY ⟨_,cE⟩ ev ⟨y.new,y.old,λU k=>k _ od _ dG f6 cE (j5.but ev λd q=>⟨q,lK bY λz=>nomatch (z▸q).symm.trans (y.new aS)⟩) lj f7 trivial⟩,S.os,S.gens⟩ (bk rfl) aS nofun
   (λU k=>k _ _ jn cE aa ((Bf ai).trans kI) (λU=>(Bf ai).trans xX) λz=>aV rfl z) ev q)
theorem rC.at_{P:bR}{hd:aw ae}{u:V}(h:rC σ P hd u)(C:Prop)(k:∀e t D fs,u=.r e->σ e=ab ⟨t,.e D fs .made⟩->C):C:=by
 rcases h with⟨he,_,_⟩|⟨he,_,_,_⟩
 ·exact k _ _ _ _ aa he
 ·exact k _ _ _ _ aa he
theorem VM(H:bZ b (.w C ao) r):dD b a' (.R C ao) (.Raise (ab r) aj p):=λ{c sc σ s k} a h=>by
 unfold oQ
 rw[arm_exec_Raise]
 refine aN (qE ?_)
 show bg _ c.A (Jp sc.env (ab (do let v←hr r sc.env;pG p;br v)) aj) _ _ s
 refine aN5 (aN ((H a.toAt h.2).ir (aP.refl _) λu w ah s' au S ev q=>aN (qE (bI ?_))))
 have aE:=aN4 (c:=c.on sc) (W:=lz c sc s.heap k) a.a.handled S q w au
 refine rC.at_ q _ λe t D fs dm he=> ?_
 cases dm
 cases au
 refine S.obj he _ λρ b9 y=>y.rep _ λk od vs dG f6 ek U U f7 kI=> ?_
 refine fH kI λjn U xX U=> ?_
 exactλU f=>f e k od vs dG _ aa ek xX (S.k1 a.k.ok) (a.k.FA _ _ _ _ f6 f7 f6 f7) (dH aE (λU U z=>z) λx s2 z U f=>f sc.lm (z.lift ev))
end
end
section
open PySem.SeqAt
section
variable{b:dh}{a':ae->cy}{c:cS}{B:bo}{A:ea}{stk:af Sc}{sc:Sc}{σ I7:H}{ρ:fX}{s s₀:bS}{E:bR}{h₀:bw}{r:bU}{p:el}{n:ae}{y:a5}{v:ar}{k:cT}{m:Mark}{e:ae}{Q:bO}{F:ar->bO}{lm:bf}
theorem M8(S:eu B (sc::stk) σ ρ s)(az:sc.env.kindOf y=ab .local)(hi:sc.names[n]? =ab y)(q:∀s',eu B (sc.at_ (sc.lm.set n aj)::stk) σ ρ s'->aP s.heap s'.heap->(∀b r,ρ b=ab r->r≠.ns stk.length->eT s.heap s'.heap b)->Q s'):
  bg a9 A (do DG sc.env y .none;DQ sc.env y p) (λU s'=>Q s') F s:=by
 have a:=S.h.ff.1
 refine b5 a.ns λm hm hs=> ?_
 exact wpAny_nameGoes_keeps az hm (by rw[a.kind];rfl) λh' v dT bY=>q _ ⟨S.h.store (v:=aj) hm hs az hi nofun dT bY,S.os,S.gens⟩ (aP.ns bY hm) λb r e n=>lK bY (qp a.role e n)
theorem al6(S:hM B (sc::stk) m h₀ E e s)(az:sc.env.kindOf y=ab .local)(hi:sc.names[n]? =ab y)(q:∀s',hM B (sc.at_ (sc.lm.set n aj)::stk) m h₀ E e s'->Q s'):bg a9 A (do DG sc.env y .none;DQ sc.env y p) (λU s'=>Q s') F s:=
 S _ λσ ρ t C fs r S he aS au x ev f=>M8 S az hi λs' er Fy il=>q s' (.mk er he aS au (λU k=>x _ λc3 vs jn g1 g2 g3 e8 ju=>k c3 vs jn (il _ _ ((S.h.objs e _ he).new aS) nofun _ g1) g2 g3 e8 λn=>by
  refine bf9 (ju n) λa b c dZ i0 qx I4 mm=> ?_
  exact⟨a,b,c,dZ,i0,qx,il _ _ qx nofun _ I4,mm⟩) (ev.trans Fy) f)
theorem O7{W:jE->bO}{wh:ht}(aO:sc.own=ak)(S:hM B (sc::stk) m h₀ E e s)(hm:m≠.made)(q:∀s',hM B (sc::stk) (.held sc.env.locals) h₀ E e s'->F (.ref e) s'):bg a9 A (PySem.passOn wh (.ref e) sc.env:fq jE) W F s:=
 S.head (A:=A) (m':=.flying) aa hm nofun _ λU U U U U g1 g2 fY U U U U=>aN (jF g1 g2 fY (by
  rw[bh (show¬(my _==rT)=ak from d6),show sc.env.frame=ab sc.env.locals from S _ λU U U U U U b9 U U U U U U=>b9.h.ff.1.frame aO]
  exact aN (xK (m':=.held sc.env.locals) aa S hm nofun λs' h'=>D1 (q s' h'))))
theorem Ly{Ky:ea}(aO:sc.own=ak)(o6:Ky.frames=ab (lJ (sc::c.stk)))(h:gE (c.on (sc.at_ lm)) h₀ (λe σ=>k.x e lm σ) v s):tF a9 Ky sc.env (λe s'=>tC a9 c.A sc.env (hK c sc h₀ k) e s') v s:=
 h _ λe m aE hm h1=>aE▸zH (sc:=sc.at_ lm) aO ((frs_at lm).symm▸o6) h1 hm λs' h'=>LP (sc:=sc.at_ lm) aO h' λs2 h2 U f=>f lm λU k=>k e _ aa (.inr (.inr aa)) h2
def dh.h(b:dh)(a':ae->cy)(e:ae):dh:=⟨ab e,b.n,b.sn,b.aT,a' e⟩
inductive yE(b:dh):aw ae->aw a5->Prop
 |none:yE b aj aj
 |some {n:ae} {y:a5}:b.sn[n]? =ab y->b.aT.lookup y=ab .local->yE b (ab n) (ab y)
def yC(b:dh)(a':ae->cy):af (ae×aw ae×af St)->af rF->Prop
 |[],[]=>gN
 |(D,nm,bd)::hs,.ExceptHandler t dB body _::iE=>(∃x p,t=ab (.Name x p)/\gh b.aT x=ak/\hT.lookup x=ab (.cls D))/\yE b nm dB/\(∃q fo,body=q::fo)/\(∀e,mC (b.h a' e) a' bd body)/\yC b a' hs iE
 |_,_=>dg
theorem kN.hand(a:kN b a' c sc I7 s₀)(S:aY c.B (sc.at_ lm::c.stk) σ s):kN (b.h a' e) a' ⟨c.B,c.stk,c.A.mark (ab (.ref e))⟩ (sc.at_ lm) σ s where
 k:=a.k
 names:=a.names
 gl:=a.gl
 cl:=a.cl
 fn:=a.BC e
 a:=⟨aa,(frs_at lm).symm▸a.a.frames,a.a.depth,a.a.units⟩
 sim:=S
 own:=a.own
 kinds:=a.kinds
 BC:=a.BC
def cT.nm(k:cT)(nm:aw ae):cT:=⟨λlm σ=>k.n (s9 lm nm aj) σ,λlm σ=>k.c (s9 lm nm aj) σ,k.r,λa lm σ=>k.x a (s9 lm nm aj) σ⟩
def Vg(c:cS)(sc:Sc)(h₀:bw)(k:cT)(dB:aw a5)(p:el)(r:v7)(s:bS):Prop:=match r with
 | .ok f=>match dB with
  |none=>lz c sc h₀ k f s
  |some n=>bg a9 c.A (do DG sc.env n .none;DQ sc.env n p) (λU j1=>lz c sc h₀ k f j1) (hK c sc h₀ k) s
 | .error x=>tC a9 c.A sc.env (hK c sc h₀ k) x s
theorem FS.map{P yF:bf->dn}{f:bf->bf}(h:FS c sc h₀ P s)(q:∀lm σ,aY c.B (sc.at_ lm::c.stk) σ s->aP h₀ s.heap->P lm σ->FS c sc h₀ yF s):FS c sc h₀ yF s:=h _ q
theorem aY5{nm:aw ae}{dB:aw a5}{bd:af St}{H3:eJ}{fo:af eJ}(a:kN b a' c sc I7 s₀)(h:yE b nm dB)(H:mC (b.h a' e) a' bd (H3::fo))(aE:hM c.B (sc.at_ lm::c.stk) .flying h₀ (λe σ=>mj X.T.bp (a' e) a' (ab e) bd (s9 lm nm (ab (.r e))) σ (k.nm nm)) e s):
  nG a9 (c.A.mark (ab (.ref e))) (.handlers (.ref e) [.ExceptHandler aj dB (H3::fo) p] sc.env) (Vg c sc h₀ k dB p) s:=by
 rcases h with _|⟨a6,ax⟩
 ·refine codeAny_handlers_suite (xK (m':=.flying) aa aE nofun nofun λs' h'=>h' _ λσ ρ t C fs r S he aS au Dt ev q=> ?_)
  refine dH (H (sc:=sc.at_ lm) (k:=k.nm aj) (a.hand S.sim) q) (λf s2 z=>lz.lift (c:=c) (sc:=sc) ev z) λx s2 z=> ?_
  exact z _ λiD z=>Ly (lm:=iD) a.own a.a.frames (z.lift ev)
 ·rename_i n y
  have hi:=a.names▸a6
  have az:=(a.kinds y).trans ax
  refine codeAny_handlers_suite_as (xK (m':=.flying) aa aE nofun nofun λs' h'=>h' _ λσ ρ t C fs r S he aS au Dt ev q=> ?_)
  refine vQ (sc:=sc.at_ lm) (v:=.r e) (w:=.ref e) S.sim hi (.inl az) aa λs3 es fc=> ?_
  have ev:=ev.trans fc
  refine dH (H (sc:=sc.at_ (lm.set n (ab (.r e)))) (k:=k.nm (ab n)) (a.hand es) q) (λf s2 z=> ?_) λx s2 z=> ?_
  ·have gone:∀{iD cC}{P:bO},aY c.B (sc.at_ iD::c.stk) cC s2->(∀s5,aY c.B (sc.at_ (iD.set n aj)::c.stk) cC s5->aP s2.heap s5.heap->P s5)->bg a9 c.A (do DG sc.env y .none;DQ sc.env y p) (λU s'=>P s') (hK c sc h₀ k) s2:=
    λ{iD U U} S q=>S _ λρ S=>M8 (sc:=sc.at_ iD) S az hi λs5 i5 kb U=>q s5 i5.sim kb
   rcases f with _|_|_|v
   ·exact z _ λiD cC hL ig q=>gone hL λs5 i5 kb=>FS.mk i5 ((ev.trans ig).trans kb) q
   ·exact z.elim
   ·exact z _ λiD cC hL ig q=>gone hL λs5 i5 kb=>FS.mk i5 ((ev.trans ig).trans kb) q
   ·exact z _ λiD cC hL ig q=>gone hL λs5 i5 kb=>q.elim λu q=>FS.mk i5 ((ev.trans ig).trans kb) ⟨u,q.1.cu kb,q.2⟩
  ·refine z _ λiD z=>z _ λdO m BV hm dZ=> ?_
   cases BV
   refine zH (sc:=sc.at_ iD) a.own ((frs_at iD).symm▸a.a.frames) dZ hm λs5 gT=>al6 (sc:=sc.at_ iD) gT az hi λqr w9=> ?_
   refine O7 (sc:=sc.at_ (iD.set n aj)) a.own w9 nofun λs6 qd=> ?_
   exact Ly (lm:=iD.set n aj) a.own a.a.frames λU f=>f dO _ aa (.inr (.inr aa)) (qd.lift ev)
theorem an6(a:kN b a' c sc I7 s₀):∀(hs:af (ae×aw ae×af St)){iE:af rF}{lm:bf}{e:ae}{s:bS},yC b a' hs iE->
  hM c.B (sc.at_ lm::c.stk) .flying h₀ (λe σ=>∃t C fs r,σ e=ab ⟨t,.e C fs r⟩/\IF X.T.bp a' C e hs lm σ k) e s->bg a9 c.A (handleBy (.ref e) sc.env iE) (lz c sc h₀ k) (hK c sc h₀ k) s:=by
 intro hs
 induction hs with
 |nil=>
  intro iE lm e s h aE
  rcases iE with _|⟨_,_⟩
  ·refine wpAny_handleBy_nil (O7 (sc:=sc.at_ lm) a.own aE nofun λs' h' U f=>f lm λU f=>f e _ aa (.inr (.inr aa)) λU f=>h' _ λσ ρ t C fs r aM bl bH x4 fR fp lU=> ?_)
   refine bg0 lU λU U U U U lU=> ?_
   exact f σ ρ t C fs r aM bl bH x4 fR fp lU
  ·exact h.elim
 |cons h0 hs aI=>
  intro iE lm e s h aE
  rcases h0 with⟨D,nm,bd⟩
  rcases iE with _|⟨h1,iE⟩
  ·exact h.elim
  ·rcases h1 with⟨t,dB,body,pos⟩
   rcases h with⟨⟨x,p,rfl,hO,c2⟩,lE,⟨H3,fo,rfl⟩,Bk,Ff⟩
   refine aE _ λσ ρ t C fs r S he aS au Dt ev q=> ?_
   refine bg1 q λU U U U Gv ap6 q=> ?_
   cases he.symm.trans Gv
   have er:aY c.B (sc.at_ lm::c.stk) σ s:=S.sim
   refine a.k.cls x D c2 _ λcd aq e2 U=>(S.h.objs e _ he).rep _ λyU od vs dG f6 ek U U f7 U=> ?_
   have ex:=a.k.FA _ _ _ _ f6 f7 aq ap6
   rcases GG:zj X.T.bp 8 C D with _|_
   ·rw[GG]at q ex
    exact Sr (R8 (y9 (c:=⟨c.B,c.stk,c.A.mark (ab (.ref e))⟩) (sc:=sc.at_ lm) (a.hand (e:=e) er).toAt hO e2 ((exm_one (er.k1 a.k.ok) (Ag ek) ex).here (aI Ff (.mk S he aS au Dt ev ⟨_,_,_,_,he,q⟩))))) nofun
   ·rw[GG]at q ex
    exact Sr (R8 (y9 (c:=⟨c.B,c.stk,c.A.mark (ab (.ref e))⟩) (sc:=sc.at_ lm) (a.hand (e:=e) er).toAt hO e2 ((exm_one (er.k1 a.k.ok) (Ag ek) ex).here (aY5 a lE (Bk e) (.mk S he aS au Dt ev q))))) nofun
theorem VR{bd:af St}{hs:af (ae×aw ae×af St)}{fo:af eJ}{h0:rF}{iE:af rF}(H:mC b a' bd fo)(EP:yC b a' hs (h0::iE)):dD b a' (.tf bd hs) (.Try fo (h0::iE) [] [] p):=λ{c sc σ s k} a h=>
 wpAny_Try_except (dH (H a h.2) (λf s2 z=>by
  rcases f with _|_|_|v
  ·exact DW z
  ·exact z
  ·exact z
  ·exact z) λx s2 z=>z _ λlm z=>z _ λe m aE hm z=>aE▸zH (sc:=sc.at_ lm) a.own ((frs_at lm).symm▸a.a.frames) z hm λs3 h3=>xK (m':=.flying) aa h3 nofun nofun λs4 cQ=>an6 a hs EP cQ)
end
end
section
open PySem.SeqAt
structure GE(b:dh)(x:aW)(r:bU):Prop where
 e:bZ b x r
 t:TS b x r
 p:Plain r
 c:(bB r).k=14->∀{a':ae->cy}{n:ae}{y:a5}{p0 gK:el},b.sn[n]? =ab y->n7 b.aT y=ak->dD b a' (.a n x) (.Assign [.Name y p0] r gK)
structure yA(b:dh)(ao:af aW)(rs:af bU):Prop where
 n:ao.length=rs.length
 o:∀{e r},ao=[e]->rs=[r]->bZ b e r
 l:lA b ao rs
 t:yJ b ao rs
 p:kn rs
section
variable{b:dh}{e:aW}{r:bU}{ao:af aW}{rs:af bU}{k:ae}{Z:aB}
theorem bm8{f:qU->aB}(h:ed f r=ak):(bB r).k≠0:=bne_iff_ne.mp (aF h).1
theorem GE.of(h:((bB r).k==k&&Z)=ak)(az:k≠0/\k≠14)(x:bZ b e (vI k (bB r))/\TS b e (vI k (bB r))):GE b e r:=
 ⟨i7 (P:=λr=>bZ b e r) (aF h).1 az.1 x.1,i7 (P:=λr=>TS b e r) (aF h).1 az.1 x.2,plain (aD (beq_iff_eq.mp (aF h).1) az.1),λz=>aV ((beq_iff_eq.mp (aF h).1).symm.trans z) az.2⟩
theorem GE.jY(h:((bB r).k==k&&Z)=ak)(az:k≠0/\k≠14)(x:bZ b e (vI k (bB r)))(au:∀env w,qB (vI k (bB r)) env w=(do let v←w;pG (vI k (bB r)).pos;DL [v] (truthy v))):GE b e r:=.of h az ⟨x,K7 x au⟩
section
variable{aq e2 bF:aW}{a0 bX g':bU}{p:el}
theorem UM{o:m6}{o':tv}(aO:Bj o=o')(H1:GE b aq a0)(dR:GE b e2 bX):bZ b (.o o aq e2) (.BinOp a0 o' bX p):=by subst aO;exact UL H1.e dR.e
theorem Vc{o:kO}{os:af Ap}(aO:[kq o]=os)(H1:GE b aq a0)(dR:GE b e2 bX):bZ b (.p o aq e2) (.Compare a0 os [bX] p)/\TS b (.p o aq e2) (.Compare a0 os [bX] p):=by subst aO;exact⟨UP (dR.p.marks _) H1.e dR.e,V1 (dR.p.marks _) H1.e dR.e⟩
theorem Vd{o o':kO}{os:af Ap}(aO:[kq o,kq o']=os)(H1:GE b aq a0)(dR:GE b e2 bX)(iN:GE b bF g'):bZ b (.P o o' aq e2 bF) (.Compare a0 os [bX,g'] p)/\TS b (.P o o' aq e2 bF) (.Compare a0 os [bX,g'] p):=by
 subst aO;exact⟨UQ (iN.p.marks _) H1.e dR.e iN.e,V2 (iN.p.marks _) H1.e dR.e iN.e⟩
end
theorem ta{aT:fK}{src:Src}(h:(bif (bB r).k==13&&isName ((bB r).e 0) λx=>gh aT x&&jy (.src src) x then ab ((bB r).ao.drop 1)else aj)=ab rs):∃x dj p,r=.Call (.Name x dj) rs [] p/\gh aT x=ak/\hT.lookup x=ab (.src src):=by
 rcases e:(bB r).k==13&&isName ((bB r).e 0) λx=>gh aT x&&jy (.src src) x with _|_
 ·rw[e]at h;cases h
 ·rw[e]at h
  refine xV (isName.dest (aF e).2) λx dj q g=> ?_
  cases h
  exact⟨x,dj,(bB r).p,i7 (P:=λei=>ei=Uu (.Name x dj) ((bB r).ao.drop 1) [] (bB r).p) (aF e).1 ai (aU (Uu · _ _ _) q),(aF g).1,jy.dest (aF g).2⟩
theorem Qz{src:Src}(h:vP b.aT src r=ab rs)(G:yA b ao rs):SrcS b src ao r:=by
 rcases src with _|_|_|_|_
 ·cases h
  rcases ao with _|⟨e,_|_⟩
  ·cases G.n
  ·exact aX1 (G.o aa rfl)
  ·cases G.n
 ·rcases ta h with⟨x,dj,p,rfl,h1,h2⟩;exact src_range h1 h2 G.p G.l
 ·rcases ta h with⟨x,dj,p,rfl,h1,h2⟩;exact aW9 h1 h2 G.p G.l
 ·rcases ta h with⟨x,dj,p,rfl,h1,h2⟩;exact aX0 h1 h2 G.p G.l
 ·rcases ta h with⟨x,dj,p,rfl,h1,h2⟩;exact aX2 h1 h2 G.p G.l
theorem QA{src:Src}(h:vP b.aT src r=ab rs)(G:kn rs):Plain r:=by
 have n:(13:ae)≠0:=ai
 rcases src with _|_|_|_|_
 ·cases h;exact G.1
 ·rcases ta h with⟨x,dj,p,rfl,_⟩;exact plain n
 ·rcases ta h with⟨x,dj,p,rfl,_⟩;exact plain n
 ·rcases ta h with⟨x,dj,p,rfl,_⟩;exact plain n
 ·rcases ta h with⟨x,dj,p,rfl,_⟩;exact plain n
theorem QS{sn:af a5}{aT:fK}{ns:af ae}(h:Ab sn aT ns r=ak):qX sn aT ns r:=by
 unfold Ab at h
 rcases e:(bB r).k==2 with _|_
 ·rw[e]at h
  have g:=aF (aF h).1
  exact i7 (P:=λei=>qX sn aT ns ei) g.1 ai (.tup (ft g.2) (oY.dest (aF h).2))
 ·rw[e]at h
  rcases ns with _|⟨n,_|_⟩
  ·exact aV h d6
  ·rcases(oY.dest h).1 with⟨x,p,rfl,h1,h2⟩;exact .one h1 h2
  ·exact(oY.dest h).2.elim
theorem aY3{n:ae}{c:xZ}(h:(match c with| .str x=>lP[n]? ==ab x|_=>av)=ak):∃x,c=.str x/\lP[n]? =ab x:=by cases c<;>first|exact aV h d6|exact⟨_,aa,beq_iff_eq.mp h⟩
theorem wX{P:bU->Prop}{q:a5->aB}(h:isName r q=ak)(k:∀x dj,q x=ak->P (.Name x dj)):P r:=by
 rcases isName.dest h with⟨x,dj,rfl,g⟩
 exact k x dj g
structure KW(b:dh)(ao:af aW)(eg:af (aw bU))(vs:af bU):Prop where
 d:t2 b ao eg vs
 z:eg=[]->ao=[]/\vs=[]
theorem XS{k:tZ}{eg:af (aw bU)}{vs:af bU}{p:el}(sx:eg.length<=15)(az:(L8 k||eg.isEmpty)=ak)(G:KW b ao eg vs):bZ b (.D k ao) (.Dict eg vs p):=by
 rcases eg with _|⟨_,_⟩
 ·rcases G.z aa with⟨rfl,rfl⟩;exact US
 ·rcases k with _|_|_
  ·exact UT sx nofun G.d
  ·exact UU sx nofun G.d
  ·exact aV az d6
theorem az3{α:Type}{l:af α}(h:l.length<=20):(l.drop 1).length<20:=by rw[Ej];exact d7 (Nat.sub_le_sub_right h 1) ai
theorem Xy{elt:aW}{nv:ae}{src:Src}{over cd:af aW}{free:af ae}(gx:∀{b:dh}{r:bU},ed (ec b.sn b.aT elt) r=ak->GE b elt r)(go:∀{b:dh}{rs:af bU},lF b.sn b.aT over rs=ak->yA b over rs)(gc:∀{b:dh}{rs:af bU},lF b.sn b.aT cd rs=ak->yA b cd rs)
  (h:ec b.sn b.aT (.C elt nv src over cd free) (bB r)=ak)(P:Prop)(k:∀cF fs,nv=cF.length->yw b elt src over cd free ((bB r).e 0) ((bB r).e 1) ((bB r).e 2) ((bB r).ao.drop 3) (bB r).sc cF fs->P):P:=by
 have g:=(aF h).2
 generalize aq:vP b.aT src ((bB r).e 2)=c5 at g
 generalize e2:free.mapM (b.sn[·]?)=cX at g
 rcases c5 with _|rs
 ·exact aV g d6
 rcases cX with _|fs
 ·exact aV g d6
 have MY:=aF g
 have MX:=aF MY.1
 have iQ:=aF MX.1
 have ju:=aF iQ.1
 have e8:=aF ju.1
 have g3:=aF e8.1
 have g2:=aF g3.1
 have G:=go e8.2
 have a7:=QA aq G.p
 exact k _ fs (ft g2.1).symm {hs:=Qz aq G,ne:=g2.2,pl:=a7,kd:=ft g3.2,ok:=Bp.dest ju.2,fr:=e2,tg:=(ft g2.1).symm▸QS iQ.2,he:=(gx (b:=b.in _ _) MX.2).e,aK:=(gc (b:=b.in _ _) MY.2).t}
theorem Xx{elt:aW}{nv:ae}{src:Src}{over cd:af aW}{free:af ae}{cF fs:af a5}(h:((bB r).k==14)=ak)(e:nv=cF.length)(M:yw b elt src over cd free ((bB r).e 0) ((bB r).e 1) ((bB r).e 2) ((bB r).ao.drop 3) (bB r).sc cF fs):GE b (.C elt nv src over cd free) r:=by
 subst e
 exact⟨i7 (P:=λr=>bZ b _ r) h ai (EK M),i7 (P:=λr=>TS b _ r) h ai (K7 (EK M) λU U=>aa),plain (beq_iff_eq.mp h▸ai),λU U U U p0 gK h1 h2=>i7 (P:=λr=>dD b _ _ (.Assign [.Name _ p0] r gK)) h ai (VD M h1 h2)⟩
mutual
theorem eC:∀(e:aW){b:dh}{r:bU},ed (ec b.sn b.aT e) r=ak->GE b e r
 | .n,_,_,h=>have h:=(aF h).2;.jY h ai (U2 (ft (aF h).2)) λU U=>aa
 | .b _,_,_,h=>have h:=(aF h).2;.jY h ai (UN (ft (aF h).2)) λU U=>aa
 | .i _,_,_,h=>have h:=(aF h).2;.jY h ai (UW (ft (aF h).2)) λU U=>aa
 | .g i,b,r,h=>have h:=(aF h).2;have g:=aF (aF h).2;.jY h ai (i7 (P:=λx=>bZ b (.g i) (.UnaryOp .USub x (bB r).p)) g.1 ai (U1 (ft g.2))) λU U=>aa
 | .s _,_,_,h=>have h:=(aF h).2;(aY3 (aF h).2).elim λU g=>.jY h ai (U7 g.1 g.2) λU U=>aa
 | .c _,_,_,h=>have h:=(aF h).2;have g:=aF (aF h).2;.jY h ai (UR g.1 (jy.dest g.2)) λU U=>aa
 | .l _,_,_,h=>have h:=(aF h).2;have g:=aF (aF h).2;.jY h ai (UZ g.1 (beq_iff_eq.mp g.2)) λU U=>aa
 | .N e,_,_,h=>have h:=(aF h).2;have G:=eC e (aF h).2;.of h ai ⟨U3 G.e,V4 G.t⟩
 | .A x y,_,_,h=>have h:=(aF h).2;have g:=aF (aF h).2;have G:=eC x g.1;have fJ:=eC y g.2;.of h ai ⟨UI G.e fJ.e,V0 G.t fJ.t⟩
 | .O x y,_,_,h=>have h:=(aF h).2;have g:=aF (aF h).2;have G:=eC x g.1;have fJ:=eC y g.2;.of h ai ⟨U4 G.e fJ.e,V5 G.t fJ.t⟩
 | .I c x y,_,_,h=>have h:=(aF h).2;have g:=aF (aF h).2;have g1:=aF g.1;have G:=eC c g1.1;have nd:=eC x g1.2;have fJ:=eC y g.2;.of h ai ⟨UX G.t nd.e fJ.e,V3 G.t nd.t fJ.t⟩
 | .o _ x y,_,_,h=>have h:=(aF h).2;have g:=aF (aF h).2;have g1:=aF g.1;have nd:=eC x g1.2;have fJ:=eC y g.2;.jY h ai (UM (ft g1.1) nd fJ) λU U=>aa
 | .p _ x y,_,_,h=>have h:=(aF h).2;have g:=aF (aF h).2;have g1:=aF g.1;have nd:=eC x g1.2;have fJ:=eC y g.2;.of h ai (Vc (ft g1.1) nd fJ)
 | .P _ _ x y z,_,_,h=>have h:=(aF h).2;have g:=aF (aF h).2;have g2:=aF g.1;have g1:=aF g2.1;have nd:=eC x g1.2;have fJ:=eC y g2.2;have mA:=eC z g.2;.of h ai (Vd (ft g1.1) nd fJ mA)
 | .a x _,_,_,h=>have h:=(aF h).2;have g:=aF (aF h).2;have g1:=aF g.1;have G:=eC x g.2;.jY h ai (UJ (beq_iff_eq.mp g1.1) (G.p.base (bne_iff_ne.mp g1.2)) G.e) λU U=>aa
 | .u x y,_,_,h=>have h:=(aF h).2;have g:=aF (aF h).2;have nd:=eC x g.1;have fJ:=eC y g.2;.jY h ai (U8 nd.e fJ.e) λU U=>aa
 | .t ao,_,_,h=>have h:=(aF h).2;have G:=gL ao (aF h).2;.jY h ai (U' G.l) λU U=>aa
 | .L ao,_,_,h=>have h:=(aF h).2;have G:=gL ao (aF h).2;.jY h ai (UY G.l) λU U=>aa
 | .S (.to _) x,b,r,h=>have h:=(aF h).2;have g:=aF (aF h).2;have g1:=aF g.1;have G:=eC x g.2;.jY h ai (i7 (P:=λi=>bZ b _ (.Subscript ((bB r).e 0) i (bB r).p)) g1.1 ai (U9 (vi.dest g1.2) G.e)) λU U=>aa
 | .S .rev x,b,r,h=>have h:=(aF h).2;have g:=aF (aF h).2;have g1:=aF g.1;have G:=eC x g.2;.jY h ai (i7 (P:=λi=>bZ b _ (.Subscript ((bB r).e 0) i (bB r).p)) g1.1 ai (U5 (vi.dest g1.2) G.e)) λU U=>aa
 | .F x y,b,r,h=>have h:=(aF h).2;have g:=aF (aF h).2;have g1:=aF g.1;have G:=eC x g1.2;have fJ:=eC y g.2;.jY h ai (i7 (P:=λi=>bZ b _ (.Subscript ((bB r).e 0) i (bB r).p)) g1.1 ai (U6 G.e fJ.e)) λU U=>aa
 | .D k ao,_,_,h=>have h:=(aF h).2;have g:=aF (aF h).2;have g1:=aF g.1;.jY h ai (XS (ft g1.1) g1.2 (MZ ao g.2)) λU U=>aa
 | .B t ao,b,r,h=>have h:=(aF h).2;have g:=aF (aF h).2;have G:=gL ao g.2;.jY h ai (wX (P:=λf=>bZ b (.B t ao) (.Call f ((bB r).ao.drop 1) [] (bB r).p)) g.1 λU U z=>UK (aF z).1 (jy.dest (aF z).2) G.p G.l) λU U=>aa
 | .f f ao,b,r,h=>have h:=(aF h).2;have g:=aF (aF h).2;have G:=gL ao g.2;.jY h ai (wX (P:=λx=>bZ b (.f f ao) (.Call x ((bB r).ao.drop 1) [] (bB r).p)) g.1 λU U z=>UO (aF z).1 (jy.dest (aF z).2) G.p G.l) λU U=>aa
 | .w C ao,b,r,h=>have h:=(aF h).2;have g:=aF (aF h).2;have G:=gL ao g.2;.jY h ai (wX (P:=λx=>bZ b (.w C ao) (.Call x ((bB r).ao.drop 1) [] (bB r).p)) g.1 λU U z=>KO (aF z).1 (jy.dest (aF z).2) G.p G.l) λU U=>aa
 | .m x m ao,b,r,h=>have h:=(aF h).2;have g:=aF (aF h).2;have ju:=aF g.2;have e8:=aF ju.1;have g3:=aF e8.1;have g2:=aF g3.1;have g1:=aF g2.1;have G:=eC x e8.2;have fJ:=gL ao ju.2;
  .jY h ai (i7 (P:=λf=>bZ b (.m x m ao) (.Call f ((bB r).ao.drop 1) [] (bB r).p)) g.1 ai (U0 (beq_iff_eq.mp g1.1) (G.p.base (bne_iff_ne.mp g1.2)) g2.2 (az3 (ft g3.2)) fJ.p G.e fJ.l)) λU U=>aa
 | .C elt nv src over cd free,_,_,h=>have h:=(aF h).2;Xy (eC elt) (gL over) (gL cd) h _ λU U e M=>Xx (aF h).1 e M
 | .bad,_,_,h=>aV (aF h).2 d6
theorem gL:∀(ao:af aW){b:dh}{rs:af bU},lF b.sn b.aT ao rs=ak->yA b ao rs
 |[],_,[],_=>⟨aa,nofun,Vu,trivial,trivial⟩
 |[],_,_::_,h=>aV h d6
 |_::_,_,[],h=>aV h d6
 |e::ao,_,r::rs,h=>have g:=aF (aF h).2;have G:=eC e g.1;have fJ:=gL ao g.2;⟨aU (·+1) fJ.n,λaq e2=>by cases aq;cases e2;exact G.e,Vt G.p G.e fJ.l,⟨G.t,fJ.t⟩,⟨G.p,fJ.p⟩⟩
theorem MZ:∀(ao:af aW){b:dh}{eg:af (aw bU)}{vs:af bU},Fl b.sn b.aT ao eg vs=ak->KW b ao eg vs
 |[],_,[],[],_=>⟨UH,λU=>⟨aa,aa⟩⟩
 |[],_,[],_::_,h=>aV h d6
 |[],_,_::_,_,h=>aV h d6
 |_::_,_,[],_,h=>aV h d6
 |_::_,_,aj::_,_,h=>aV h d6
 |_::_,_,ab _::_,[],h=>aV h d6
 |[_],_,ab _::_,_::_,h=>aV h d6
 |k::v::ao,_,ab _::_,_::_,h=>have g:=aF h;have g1:=aF g.1;⟨UG (eC k g1.1).e (eC v g1.2).e (MZ ao g.2).d,nofun⟩
end
end
end
section
open PySem.SeqAt
section
variable{b:dh}{a':ae->cy}{e:aW}{r:bU}{ao:af aW}{rs:af bU}{q:eJ}
theorem Wv{n:ae}{p:el}(G:GE b e r){t:bU}(h:isName t (λx=>b.sn[n]? ==ab x&&n7 b.aT x)=ak):dD b a' (.a n e) (.Assign [t] r p):=
 wX (P:=λt=>dD b a' (.a n e) (.Assign [t] r p)) h λx dj g=>if z:(bB r).k=14 then G.c z (beq_iff_eq.mp (aF g).1) (aF g).2 else VC (beq_iff_eq.mp (aF g).1) (aF g).2 G.p z G.e
theorem aF1{sn:af a5}{aT:fK}{s:St}{F:cy}{hd:aw ae}{lm:bf}{σ:H}{k:cT}(h:Bm sn aT s iG=ak)(q:IJ X.T.bp F a' hd s lm σ k):dg:=by
 cases s<;>first|exact q|exact aV h d6
theorem aF0{nm:aw ae}{dB:aw a5}(h:(match nm,dB with
   |none,aj=>ak
   |some n,ab y=>b.sn[n]? ==ab y&&b.aT.lookup y==ab .local
   |_,_=>av)=ak):yE b nm dB:=by
 cases nm<;>cases dB<;>first|exact aV h d6|exact .none|exact .some (beq_iff_eq.mp (aF h).1) (beq_iff_eq.mp (aF h).2)
theorem Wz{n:ae}{op:m6}{o:tv}{p:el}{t:bU}(h1:op=.a)(h2:o=.Add)(h:isName t (λx=>nameOk x&&(b.sn[n]? ==ab x&&n7 b.aT x))=ak)(G:GE b e r):dD b a' (.p4 n op e) (.AugAssign t o r p):=by
 subst h1 h2
 exact wX (P:=λt=>dD b a' (.p4 n .a e) (.AugAssign t .Add r p)) h λx dj g=>VE (aF g).1 (beq_iff_eq.mp (aF (aF g).2).1) (aF (aF g).2).2 G.e
theorem WA{o i:aW}{op:m6}{o':tv}{p:el}{t:bU}(h1:op=.a)(h2:o'=.Add)(H:dD b a' (.q3 o i .a e) (.AugAssign t .Add r p)):dD b a' (.q3 o i op e) (.AugAssign t o' r p):=by
 subst h1 h2
 exact H
theorem aj3{ns:af ae}{src:Src}{over:af aW}{ss:af St}{fo:af eJ}{t:bU}{p:el}(h1:(src != .e||decide (2<=ns.length))=ak)(h2:Ab b.sn b.aT ns t=ak)(h3:(match vP b.aT src r with|ab rs=>lF b.sn b.aT over rs|aj=>av)=ak)
  (go:∀{b:dh}{rs:af bU},lF b.sn b.aT over rs=ak->yA b over rs)(H:mC b a' ss fo):dD b a' (.dw ns src over ss) (.For t r fo [] p):=by
 intro c sc σ s k a a4
 generalize aq:vP b.aT src r=c5 at h3
 rcases c5 with _|rs
 ·exact aV h3 d6
 have G:=go h3
 refine VJ (QS h2) (((nH _ _).mp h1).symm.imp ft id) (QA aq G.p) (Qz aq G) (λe=> ?_) H a a4
 cases e
 cases aq
 rcases over with _|⟨e,_|_⟩
 ·cases G.n
 ·exact⟨e,aa,G.o aa rfl⟩
 ·cases G.n
theorem bb1{bd:af St}{hs:af (ae×aw ae×af St)}{fo:af eJ}{iE:af rF}{p:el}(h:(!iE.isEmpty)=ak)(H:mC b a' bd fo)(EP:yC b a' hs iE):dD b a' (.tf bd hs) (.Try fo iE [] [] p):=by
 rcases iE with _|⟨_,_⟩
 ·exact aV h d6
 ·exact VR H EP
theorem Xn{C:ae}{t:aw bU}(h:(match t with|ab r=>isName r (λx=>gh b.aT x&&jy (.cls C) x)|aj=>av)=ak):∃x p,t=ab (.Name x p)/\gh b.aT x=ak/\hT.lookup x=ab (.cls C):=by
 rcases t with _|t
 ·exact aV h d6
 ·rcases isName.dest h with⟨x,p,rfl,g⟩;exact⟨x,p,aa,(aF g).1,jy.dest (aF g).2⟩
theorem aE6{l:af eJ}(h:(!l.isEmpty)=ak):∃q fo,l=q::fo:=by
 rcases l with _|⟨q,fo⟩
 ·exact aV h d6
 ·exact⟨q,fo,aa⟩
mutual
theorem gS:∀(s:St){b:dh}{a':ae->cy}{r:eJ},Bm b.sn b.aT s (rD r)=ak->dD b a' s r
 | .r e,b,a',r,h=>kU (P:=λr=>dD b a' (.r e) r) (aF h).1 ai (VN (eC e (aF h).2).e)
 | .mg,b,a',r,h=>kU (P:=λr=>dD b a' .mg r) h ai VO
 | .a n e,b,a',r,h=>have g:=aF (aF h).2;kU (P:=λr=>dD b a' (.a n e) r) (aF h).1 ai (Wv (eC e g.2) g.1)
 | .e e,b,a',r,h=>have g:=aF (aF h).2;have G:=eC e g.2;kU (P:=λr=>dD b a' (.e e) r) (aF h).1 ai (VI G.p (bne_iff_ne.mp g.1) G.e)
 | .i c x y,b,a',r,h=>have g:=aF (aF h).2;have g2:=aF g.2;kU (P:=λr=>dD b a' (.i c x y) r) (aF h).1 ai (VK (eC c g.1).t (su x g2.1) (su y g2.2))
 | .pA c x,b,a',r,h=>have g:=aF (aF h).2;kU (P:=λr=>dD b a' (.pA c x) r) (aF h).1 ai (VT (eC c g.1).t (su x g.2))
 | .pass,b,a',r,h=>kU (P:=λr=>dD b a' .pass r) h ai VL
 | .cont,b,a',r,h=>kU (P:=λr=>dD b a' .cont r) h ai VG
 | .bad,_,_,_,_=>λU h=>(show dg from h).elim
 | .kh ns e,b,a',r,h=>have g:=aF (aF h).2;have g1:=aF g.2;have g2:=aF g1.2;have g3:=aF g2.2;have e8:=aF g3.2;have G:=eC e e8.2;kU (P:=λr=>dD b a' (.kh ns e) r) (aF h).1 ai (i7 (P:=λt=>dD b a' (.kh ns e) (.Assign [t] _ _)) g.1 ai (VS (oY.dest e8.1) G.p (bne_iff_ne.mp g1.1) (bne_iff_ne.mp g2.1) G.e))
 | .A o f e,b,a',r,h=>have g:=aF (aF h).2;have g1:=aF g.2;have g2:=aF g1.2;have g3:=aF g2.2;have G:=eC e g3.1;have fJ:=eC o g3.2;kU (P:=λr=>dD b a' (.A o f e) r) (aF h).1 ai (i7 (P:=λt=>dD b a' (.A o f e) (.Assign [t] _ _)) g.1 ai (VP (beq_iff_eq.mp g2.1) G.p (bne_iff_ne.mp g1.1) fJ.e G.e))
 | .S o i e,b,a',r,h=>have g:=aF (aF h).2;have g1:=aF g.2;have g2:=aF g1.2;have g3:=aF g2.2;have e8:=aF g3.2;have G:=eC e g3.1;have fJ:=eC o e8.1;have mA:=eC i e8.2;kU (P:=λr=>dD b a' (.S o i e) r) (aF h).1 ai (i7 (P:=λt=>dD b a' (.S o i e) (.Assign [t] _ _)) g.1 ai (VQ G.p (bne_iff_ne.mp g1.1) fJ.e mA.e G.e))
 | .p4 n op e,b,a',r,h=>have g:=aF (aF h).2;have g1:=aF g.2;have g2:=aF g1.2;have G:=eC e g2.2;kU (P:=λr=>dD b a' (.p4 n op e) r) (aF h).1 ai (Wz (ft g1.1) (ft g2.1) g.1 G)
 | .q3 o i op e,b,a',r,h=>have g:=aF (aF h).2;have g1:=aF g.2;have g2:=aF g1.2;have g3:=aF g2.2;have e8:=aF g3.2;have ju:=aF e8.2;have G:=eC o e8.1;have fJ:=eC i ju.1;have mA:=eC e ju.2;kU (P:=λr=>dD b a' (.q3 o i op e) r) (aF h).1 ai (i7 (P:=λt=>dD b a' (.q3 o i op e) (.AugAssign t _ _ _)) g.1 ai (WA (ft g1.1) (ft g2.1) (VF fJ.p g3.1 G.e fJ.e mA.e)))
 | .dw ns src over x,b,a',r,h=>have g:=aF (aF h).2;have g1:=aF g.2;have g2:=aF g1.2;kU (P:=λr=>dD b a' (.dw ns src over x) r) (aF h).1 ai (aj3 g.1 g1.1 g2.1 (gL over) (su x g2.2))
 | .R C ao,b,a',r,h=>have g:=aF (aF h).2;have g1:=aF g.2;have G:=gL ao g1.2;kU (P:=λr=>dD b a' (.R C ao) r) (aF h).1 ai (VM (i7 (P:=λt=>bZ b (.w C ao) t) g.1 ai (wX (P:=λx=>bZ b (.w C ao) (.Call x ((bB ((rD r).e 0)).ao.drop 1) [] (bB ((rD r).e 0)).p)) g1.1 λU U z=>KO (aF z).1 (jy.dest (aF z).2) G.p G.l)))
 | .tf x hs,b,a',r,h=>have g:=aF (aF h).2;have g1:=aF g.2;kU (P:=λr=>dD b a' (.tf x hs) r) (aF h).1 ai (bb1 g.1 (su x g1.1) (M0 hs g1.2))
 | .del o i,b,a',r,h=>have g:=aF (aF h).2;have g1:=aF g.2;kU (P:=λr=>dD b a' (.del o i) r) (aF h).1 ai (i7 (P:=λt=>dD b a' (.del o i) (.Delete [t] _)) g.1 ai (VH (eC o g1.1).e (eC i g1.2).e))
theorem su:∀(ss:af St){b:dh}{a':ae->cy}{rs:af eJ},p5 b.sn b.aT ss rs=ak->mC b a' ss rs
 |[],_,_,[],_=>VV
 |[],_,_,_::_,h=>aV h d6
 |_::_,_,_,[],h=>aV h d6
 |s::ss,_,_,r::rs,h=>((nH _ _).mp h).elim (λz=>λU q=>(aF1 z q).elim) λz=>VU (gS s (aF z).1) (su ss (aF z).2)
theorem M0:∀(hs:af (ae×aw ae×af St)){b:dh}{a':ae->cy}{iE:af rF},Fm b.sn b.aT hs iE=ak->yC b a' hs iE
 |[],_,_,[],_=>trivial
 |[],_,_,_::_,h=>aV h d6
 |_::_,_,_,[],h=>aV h d6
 |(C,nm,x)::hs,b,a',.ExceptHandler t dB ps _::rs,h=>have g:=aF h;have g1:=aF g.1;have g2:=aF g.2;have g3:=aF g2.2;⟨Xn g1.1,aF0 g1.2,aE6 g2.1,λe=>su x (b:=b.h a' e) g3.1,M0 hs g3.2⟩
end
def KV(f:ae)(d:bL):Prop:=∀P:Prop,(∀r,so f=ab r->qP r->r.as.length=d.np->r.names.length=d.nl->p5 r.names r.fd.scope.names d.body r.body=ak->P)->P
theorem be1{D:ae->aw bL}(K:yB)(w':∀f d,D f=ab d->KV f d):∀(n:ae)(hd:aw ae),A1 hd n (dQ X.T.bp D hd n):=by
 intro n
 induction n with
 |zero=>exactλU U U U U U U U U h=>h.elim
 |succ n aI=>
  intro hd c f args ws σ Q E s h a S au
  refine fH h λd e h1 h2=> ?_
  refine w' f d e _ λr aq O e2 bF eO=>⟨r,aq,O,W7 K.ok O a S au (h1.trans e2.symm) λdW VW WB=> ?_⟩
  rw[←e2,←bF]at h2
  exact su d.body (b:=⟨hd,n,r.names,r.fd.scope.names,dQ X.T.bp D hd n⟩) eO ⟨⟨K,aa,λU h=>h,λU h=>h,aI hd,WB,VW⟩,aa,λU=>aa,λe=>aI (ab e)⟩ h2
end
end
section
open PySem.SeqAt
inductive nc:af ar->Prop
 |nil:nc [.type "Exception",.type "BaseException",.type "object"]
 |ref {c:a8} {r:af ar}:nc r->nc (.ref c::r)
theorem YD(self:ar):refuseLoop self "__setattr__" [.type "Exception",.type "BaseException",.type "object"]=br ():=by kernel_rfl
theorem aO3(self:ar){l:af ar}(e:nc l):refuseLoop self "__setattr__" l=br ():=by
 induction e with
 |nil=>exact YD self
 |ref _ aI=>exact(refuseLoop_ref ..).trans aI
theorem Mp{l:af ar}(e:nc l):l.contains (.type "object")=ak/\l.contains (.type "BaseException")=ak:=by
 induction e with
 |nil=>exact⟨ai,ai⟩
 |ref _ aI=>rw[rN,rN,aI.1,aI.2,AF,AF];exact⟨aa,aa⟩
structure EM(C:ae)(c:a8):Prop where
 ga:kL X.K (.ref c) "__getattribute__"=ab (ab (.builtin "BaseException.__getattribute__"))
 mO:kL X.K (.ref c) "__getattr__"=ab aj
 cn:kL X.K (.ref c) "__setattr__"=ab (ab (.builtin "object.__setattr__"))
 po:∃cd,clsIn X.K c=ab cd/\nc cd.mro
 hd:DA X.K c=ak
 bu:∀(f:ae)(x:a5),(X.T.bp C).any (·.i8.contains f)=ak->X.T.cP[f]? =ab x->kL X.K (.ref c) x=ab aj
def EL:Prop:=∀C c,X.T.cls C=ab c->g8 X.T.bp C=ab ak->EM C c
theorem ak3:builtinKind "BaseException.__getattribute__"=ab .slot:=by decide+kernel
theorem ak4:splitId "BaseException.__getattribute__"=ab ("BaseException","__getattribute__"):=by decide+kernel
theorem M3:Slot "Exception" "__getattribute__" "BaseException.__getattribute__":=
 .of (owner:="BaseException") (n:="__getattribute__") (by rw[rI,rG];kernel_rfl) (by decide+kernel) (by decide+kernel) (by decide+kernel)
  (by first|exact .inl (by decide+kernel)|exact .inr (by decide+kernel)) (by rw[wa];kernel_rfl)
theorem EM.isA{C:ae}{c:a8}{h:bw}{e:a8}{T:ht}(ez:EM C c)(K:X.K.In h)(qS:kK a9 h (rJ (.ref e)) (.ref c))(dU:∀l,nc l->l.contains (.type T)=ak):kK a9 h (v' (.ref e) (.type T)) ak:=by
 refine b5 ez.po λcd Gr hm=> ?_
 have ne:cd.mro.isEmpty=av:=by
                    rcases q:cd.mro with _|⟨_,_⟩
                    ·rw[q]at hm;cases hm
                    ·rfl
 exact qS.andThen (R4 K (by unfold mroIn;rw[Gr,Un,bh (by rw[ne];exact d6),dU _ hm]))
theorem bg2(K:X.Ok)(aE:EL):Ld:=λ{c σ s Q E ex p t C fs r f x u} S aq hf e2 q=>S.obj aq _ λρ b9 y=>y.rep _ λk od vs dG f6 ek j5 lj f7 kI=>by
 have ez:=aE C k f6 f7
 rcases od with _|d
 ·rw[show fs=[]from j5]at e2;cases e2
 ·refine j5.2.look λb3 aO lk=> ?_
  refine b5 (lk f x hf) λo l1 d2=> ?_
  rw[e2]at d2
  rcases d2 with⟨w,rfl,au⟩
  have I:EE s.heap p ⟨.ref k,ab d,.fields vs,dG⟩ k (ab b3):=⟨ek,aa,aa,aO⟩
  have hu:=S.k1 K
  have qS:kK a9 s.heap (rJ (.ref p)) (.ref k):=I.type
  have oN:=x2 (M:=a9) hu ez.ga
  have nV:=x2 (M:=a9) hu ez.mO
  have L3:=looks_find (M:=a9) hu I (R3 ez.hd (ez.bu f x (lj f u e2) hf) aa l1)
  have sub:=ez.isA hu qS (T:="BaseException") λU h=>(Mp h).2
  have fin:eU c bq s.heap Q w {s with toks:=s.toks+1}:=.val S au q
  unfold DK getAttrBy
  rcases s with⟨a7,g,q',tk,os⟩
  refine aN (Sv (lq (aN (qS.at (aN (oN.at ?_))))))
  have ar8:(wB "BaseException.__getattribute__"==wB "object.__getattribute__")=av:=by decide+kernel
  dsimp only
  rw[bh (show¬(Jo (my k)&&wB "BaseException.__getattribute__"==wB "object.__getattribute__")=ak by rw[ar8,D6];exact d6)]
  unfold getAttrByItsOwn hookBefore
  rw[bk (show Jo (my k)=ak from aa)]
  refine aN (nV.at (aN (DU (lq ?_))))
  unfold callGetattribute
  rw[bh (show¬(ex&&Jo (wB "BaseException.__getattribute__"))=ak by cases ex<;>exact d6)]
  unfold boundAndCalled
  rw[M3.bind]
  refine aN (bI (ya ?_))
  refine DI M3.plain PySem.F.entry_bexc_ga (@Jb a9 _ _ _ "BaseException.__getattribute__" "BaseException" "__getattribute__" (.ref p) [.str x tk] [] _ ak3 ak4 sub (PySem.F.args_bexc_ga _ _) ?_)
  unfold Builtin.«object.__getattribute__»
  refine aN (bI (aN (bI (aN (qS.at (aN (L3.at (bI ?_))))))))
  show bg _ _ (handedOut w) _ _ _
  rw[handedOut_of (PX au)];exact bI fin
end
section
open PySem.SeqAt
theorem O3{k p:a8}{A:ea}{s:bS}{ox:bj}{od:aw bj}{name:a5}{tk:pD}{v:ar}{R:v7->bS->Prop}(hu:X.K.In s.heap)(I:EE s.heap p ox k od)(po:∃cd,clsIn X.K k=ab cd/\nc cd.mro)(hf:kL X.K (.ref k) name=ab aj)
  (h:∀b,bg a9 A.in1 (bi9 (.ref p) (.ref k) (.str name tk) name v b)
   (λfin s'=>match fin with| .done f=>R (.ok f) s'| .again jP=>jP.quiet=ak/\nG a9 A jP R s') (λe s'=>R (.error e) s') s):
  nG a9 A (.call (.builtin "object.__setattr__") ⟨[.ref p,.str name tk,v],[]⟩) R s:=by
 have lB:=PySem.F.store_object
 refine b5 po λcd aK aO=> ?_
 have ne:cd.mro.isEmpty=av:=by
                    rcases q:cd.mro with _|⟨_,_⟩
                    ·rw[q]at aO;cases aO
                    ·rfl
 have qS:kK a9 s.heap (rJ (.ref p)) (.ref k):=I.type
 have sub:kK a9 s.heap (v' (.ref p) (.type "object")) ak:=qS.andThen (R4 hu (by unfold mroIn;rw[aK,Un,bh (by rw[ne];exact d6),(Mp aO).1]))
 refine DI lB.slot.plain lB.entry (@Jb a9 _ _ s "object.__setattr__" "object" "__setattr__" (.ref p) [.str name tk,v] [] _ lB.kind lB.split sub (lB.args (.ref p) (.str name tk) v) ?_)
 have hm:kK a9 s.heap (mroOf (.ref k)) cd.mro:=(DD hu aK).andThen .now
 rw[osa_eq,refuse_eq]
 refine aN (aN (qS.here (aN (hm.here ?_))))
 rw[aO3 _ aO]
 exact bI (aN (qS.here (aN ((x2 hu hf).here (aN (bI (h _)))))))
section
variable{c:cS}{s:bS}{σ:H}{E:bR}{p t C f:ae}{fs:af (ae×V)}{r:nT}{x:a5}{v:V}{w:ar}{Q:dn}
theorem Ms{ρ:fX}{d k:a8}{vs:dC ar}{dG:dC (aw ar)}{m:a5->aw ar}{h₀ h':bw}{tk:ae}(b9:eu c.B c.stk σ ρ s)(K:X.Ok)(hf:X.T.cP[f]? =ab x)(a4:bq s.heap v w)
  (aq:σ p=ab ⟨t,.e C fs r⟩)(aS:t≠0)(xe:fs.length<bN)(o5:(X.T.bp C).any (·.i8.contains f)=ak)(y:kR c.B s.heap ρ p ⟨t,.e C fs r⟩)(f6:X.T.cls C=ab k)(ek:s.heap.get? p=ab ⟨.ref k,ab d,.fields vs,dG⟩)
  (d':ρ d=ab (.fld p))(lj:t7 C fs)(f7:g8 X.T.bp C=ab ak)(kI:KL vs r)(hm:s.heap.Ns d m)(za:∀f x,X.T.cP[f]? =ab x->ng s.heap (fM fs f) (m x))(uz:aP h₀ s.heap)
  (dT:h'.Ns d λy=>if y=x then ab w else m y)(bY:ix d s.heap h')(hz':h'.DictLe d (if(m x).isSome then fs.length else fs.length+1))(q:Q (aC σ p ⟨t,.e C (hS fs f v) r⟩)):
  ∃o,h'.get? d=ab o/\o.data.pastItsLine=aj/\eU c r4 h₀ (λU=>Q) () {s with heap:=h',toks:=tk}:=by
 have ev:aP s.heap h':=aP.ns bY hm
 refine vY (id dT) λcX Yl Yk l7 hd2 U=> ?_
 refine⟨cX,l7,by rw[hd2];exact Sg (aX (hz' _ _ _ l7 hd2) (show(if(m x).isSome then fs.length else fs.length+1)<=rH+1 from aX (show _<=fs.length+1 by split<;>lia) (AS (kA xe)))),?_⟩
 refine .mk (a:=()) trivial (eu.sim ⟨b9.h.OG (o':=⟨t,.e C (hS fs f v) r⟩) d' bY ⟨cX,l7⟩ ev ⟨y.new,y.old,?_⟩,b9.os,b9.gens⟩) (uz.trans ev) q
 refineλU g=>g k (ab d) vs dG f6 ((bY.2 p (qp d' (y.new aS) nofun)).trans ek) ⟨d',oJ.put K.cP hf ev za dT hz' a4⟩ (λg u e=> ?_) f7 kI
 rw[FE]at e
 by_cases z:f=g
 ·exact aR z o5
 ·rw[bh z]at e;exact lj g u e
end
theorem QI:StrKeys #[]:=λe he=>aV he (Array.not_mem_empty e)
theorem bg4(K:X.Ok)(aE:EL):Le:=λ{c σ s Q E p t C fs r f x v w} S hf a4 aq aS xe o5 q=>S.obj aq _ λρ b9 y=>y.rep _ λk od vs dG f6 ek j5 lj f7 kI=>by
 have hu:=S.k1 K
 have ez:=aE C k f6 f7
 refine b5 (any_some ez.hd) λcd aK jw=> ?_
 have Nm:=ez.bu f x o5 hf
 rcases od with _|d
 ·cases(show fs=[]from j5)
  have I:EE s.heap p ⟨.ref k,aj,.fields vs,dG⟩ k aj:=⟨ek,aa,aa,trivial⟩
  refine Je hu I ez.cn (O3 (s:={s with toks:=s.toks+1}) hu I ez.po Nm λb=> ?_)
  refine aN (bI (aN (aN (wc (s:={s with toks:=s.toks+1}) ek (aN (Kj (s:={s with toks:=s.toks+1}) (DD hu aK) ?_))))))
  rw[jw]
  have ku:s.heap.get? s.heap.objs.size=aj:=iR (da _)
  have Nz:s.heap.objs.size≠p:=λz=>nomatch (z▸ku).symm.trans ek
  have Gu:(s.heap.push nF).get? s.heap.objs.size=ab nF:=lr _ aa
  generalize c8:s.heap.objs.size=hP at ku Nz Gu
  have GL:(s.heap.push nF).get? p=ab ⟨.ref k,aj,.fields vs,dG⟩:=mP _ _ _ ek
  have sy:=tJ (s.heap.push nF) p (λo=>{o with dict:=ab hP})
  have BU:((s.heap.push nF).update p (λo=>{o with dict:=ab hP})).get? p=ab ⟨.ref k,ab hP,.fields vs,dG⟩:=yi _ GL aa
  have hd2:((s.heap.push nF).update p (λo=>{o with dict:=ab hP})).get? hP=ab nF:=(sy.2 hP Nz).trans Gu
  refine aN (wpAny_alloc (aN (wpAny_update (a:=p) GL ?_)))
  rw[c8]
  have cb:aP (s.heap.push nF) ((s.heap.push nF).update p (λo=>{o with dict:=ab hP})):=aP.sameBut sy GL nofun
  generalize(s.heap.push nF).update p (λo=>{o with dict:=ab hP})=h2 at sy BU hd2 cb|-
  have hm:h2.Ns hP λU=>aj:=⟨_,#[],0,hd2,aa,QI,λU=>aa⟩
  have cV:h2.DictLe hP 0:=λo' l6 Mk gg jw=>by cases hd2.symm.trans gg;cases jw;exact da _
  have NB:=(b9.h.none_of ku).2
  have NF:setR ρ hP (.fld p) hP=ab (.fld p):=vN
  have E2:et c.B c.stk σ (setR ρ hP (.fld p)) (s.heap.push nF):=b9.h.grow (mP _) (oq NB) (λb e=>(vO e).imp id λ(z:b=hP)=>aD z ⟨b9.h.free ku,_,Gu⟩) λU U=>.inl
  have lh:kR c.B h2 (setR ρ hP (.fld p)) p ⟨t,.e C [] r⟩:=⟨λU=>oq NB _ _ (y.new aS),y.old,λU g=>g k (ab hP) vs dG f6 BU ⟨NF,λU g=>g _ hm cV λU U U=>aa⟩ lj f7 kI⟩
  have K6:=E2.mod aq aS sy ⟨_,BU⟩ cb lh
  rw[Q9 aq]at K6
  refine bI (a:=ab hP) (aN (bI (aN (Hl (s:={s with heap:=h2,toks:=s.toks+1}) hm cV λh' dT bY hz'=> ?_))))
  rcases Ms (s:={s with heap:=h2,toks:=s.toks+1}) (fs:=[]) ⟨K6,b9.os,b9.gens⟩ K hf (a4.cu ((aP.push _ _).trans cb)) aq aS xe o5 lh f6 BU NF lj f7 kI hm (λU U U=>aa) ((aP.push _ _).trans cb) dT bY hz' q with⟨cX,l7,a7,fin⟩
  exact aN (Jy (o:=cX) l7 a7 (bI fin))
 ·refine j5.2 _ λm hm cV za=> ?_
  refine kj (id hm) λb3 U U aO U=> ?_
  have I:EE s.heap p ⟨.ref k,ab d,.fields vs,dG⟩ k (ab b3):=⟨ek,aa,aa,aO⟩
  refine Je hu I ez.cn (O3 (s:={s with toks:=s.toks+1}) hu I ez.po Nm λb=> ?_)
  refine aN (bI (aN (aN (wc (s:={s with toks:=s.toks+1}) ek (aN (Kj (s:={s with toks:=s.toks+1}) (DD hu aK) ?_))))))
  rw[jw]
  refine bI (a:=ab d) (aN (bI (aN (Hl (s:={s with toks:=s.toks+1}) hm cV λh' dT bY hz'=> ?_))))
  rcases Ms b9 K hf a4 aq aS xe o5 y f6 ek j5.1 lj f7 kI hm za (aP.refl _) dT bY hz' q with⟨cX,l7,a7,fin⟩
  exact aN (Jy (o:=cX) l7 a7 (bI fin))
end
section
open PySem.SeqAt
theorem Mq{l:af ar}(e:nc l):l.contains (.type "Exception")=ak/\l.contains (.type "AttributeError")=av/\l.contains (.type "NameError")=av:=by
 induction e with
 |nil=>exact⟨ai,ai,ai⟩
 |ref _ aI=>rw[rN,rN,rN,aI.1,aI.2.1,aI.2.2];exact⟨aa,aa,aa⟩
structure qL where
 nm:a5
 q:a5
 N:a8
 bs:af ar
 bm:af ar
 ap2:aB
 sn:af a5
 sub:af ar
 dz:aB
 col:aw aB
 hP:aw a8
 o7:aw ar
 fY:aw ar
 ik:aw ar
 k0:aw ar
 rl:aw ar
abbrev qL.obj(k:qL)(C:a8):bj:=excClassObj k.nm k.q C k.N k.bs k.bm k.ap2 k.sn k.sub k.dz k.col k.hP k.o7 k.fY k.ik k.k0 k.rl "Exception.__new__"
def sj(C a:a8):bj:={cls:=.ref C,data:=.fields #[.ref a,.none,.none,.none,.bool av,.none]}
def xQ(l:af ar):bj:={cls:=.type "tuple",data:=.seq l.toArray}
section
variable{A:ea}{E:ar->bO}{R:v7->bO}{h:bw}{g:dC GenState}{d:Drawn}{t:ae}{os:cJ}{k:qL}{C:a8}{rest:af ar}
theorem YC(bb:nc k.bm)(e9:h.get? C=ab (k.obj C))
  (b4:R (.ok (.ret (.ref (h.objs.size+1)))) ⟨(h.push (xQ rest)).push (sj C h.objs.size),g,d,t,os⟩)(ND:rest.length<=rH):
  nG a9 A (.builtin "Exception.__new__" ⟨.ref C::rest,[]⟩) R ⟨h,g,d,t,os⟩:=by
 have rY:=Uw
 have bn3:=rY.ends
 refine Dr (Mq bb) λhO c2 lE=> ?_
 have ao5:(my C::k.bm).contains (.type "Exception")=ak:=by rw[rN,hO,AF]
 have ao4:(my C::k.bm).contains (.type "AttributeError")=av:=by rw[rN,c2];rfl
 have ao6:(my C::k.bm).contains (.type "NameError")=av:=by rw[rN,lE];rfl
 refine codeAny_builtinAt rY.entry ?_
 unfold Builtin.«BaseException.__new__»
 refine Uz ?_
 show PySem.wpAt _ _ _ (stack >>= _) _ _ _
 refine Uz (PySem.wpAt_stack λp below=>UA ?_)
 wp_walk
 refine UA ?_
 rw[rY.owner]
 repeat (first|with_reducible refine wpAny_madeHere_exc rY.canon e9 ?_ |with_reducible refine DX e9 ?_ |(with_reducible refine Jx e9 ?_;first|rw[ao5]at|-|rw[ao4]at|-|rw[ao6]at|-)|wp_step)
 show R _ _
 rw[Heap.size_push]
 exact b4
theorem YB{init:ar}(bb:nc k.bm)(e9:h.get? C=ab (k.obj C))(hi:kK a9 h (x' (.ref C) "__init__") (ab init))
  (BL:∀self,kK a9 h (R5 init self) (init,[self]))(ND:rest.length<=rH)
  (b4:nG a9 (A.under (.builtin "type.__call__" ⟨.ref C::rest,[]⟩)) (.call init ⟨.ref (h.objs.size+1)::rest,[]⟩) (InitBack (h.objs.size+1) R) ⟨(h.push (xQ rest)).push (sj C h.objs.size),g,d,t,os⟩):
  nG a9 A (.call (.ref C) ⟨rest,[]⟩) R ⟨h,g,d,t,os⟩:=by
 have rY:=Uw
 have f1:=tc_lookup
 have f2:=tc_bind (.ref C)
 have dU:(⟨h,g,d,t,os⟩:bS).TypeIs (.ref C) "type":=⟨_,e9,aa⟩
 refine codeAny_of_tree ?_
 show bg _ _ (callAny (.ref C) _) _ _ _
 repeat (any_goals (first|assumption|with_reducible refine DX e9 ?_ |wp_step))
 refine⟨aa,?_⟩
 refine codeAny_call_builtin_at (S2 _ (by decide+kernel)) entry_typeCall (wpAny_check_type_call_sub e9 ?_)
 repeat (first|with_reducible refine DX e9 ?_ |with_reducible refine wpAny_madeBy_exc e9 ?_ |wp_step)
 refine codeAny_call_builtin_code (S2 _ rY.quiet) (wpAny_check_new_subU rY (Mq bb).1 .base e9 ?_)
 refine YC bb e9 ?_ ND
 show bg _ _ _ _ _ _
 have il:∀b o,h.get? b=ab o->((h.push (xQ rest)).push (sj C h.objs.size)).get? b=ab o:=λb o e=>iJ _ (iJ _ e)
 have Nb:=il _ _ e9
 have Nt:((h.push (xQ rest)).push (sj C h.objs.size)).get? (h.objs.size+1)=ab (sj C h.objs.size):=by heap_get
 have Nl:(my C::k.bm).contains (.ref C)=ak:=by rw[rN,jG,SR]
 have bK:=hi.keeps il
 have b1:=(BL (.ref (h.objs.size+1))).keeps il
 unfold v'
 repeat (first|with_reducible refine DX Nt ?_ |(with_reducible refine Jx Nb ?_;rw[Nl])|wp_step)
 refine Jx Nb ?_
 rw[Nl]
 have t1:kK a9 ((h.push (xQ rest)).push (sj C h.objs.size)) (rJ (.ref (h.objs.size+1))) (.ref C):=Ag Nt
 rw[bh (show¬(!ak)=ak from d6)]
 refine aN (lq ?_)
 unfold callSpecial? Jr
 refine aN (aN (t1.at (bK.at ?_)))
 refine lq (aN (b1.at ?_))
 refine aN (ya ?_)
 refine Jh b4 λr s' z=> ?_
 rcases r with e|(v|_|_|_)<;>first|exact z|exact z.elim|skip
 rcases z with⟨rfl,z⟩
 exact bI (bI z)
end
end
section
open PySem.SeqAt
structure K0:Prop where
 inst:∀C c,X.T.cls C=ab c->g8 X.T.bp C=ab av->makesIn X.K c=ak
 init:∀C c f,X.T.cls C=ab c->mN X.T.bp 8 C=ab (ab f)->∃r,so f=ab r/\kL X.K (.ref c) "__init__"=ab (ab (.ref r.addr))/\As X.K (.ref r.addr)=ab (.type "function")
 bare:∀C c,X.T.cls C=ab c->g8 X.T.bp C=ab av->mN X.T.bp 8 C=ab aj->kL X.K (.ref c) "__init__"=ab (ab (.builtin "object.__init__"))
 exc:∀C c,X.T.cls C=ab c->g8 X.T.bp C=ab ak->∃k:qL,X.h₀.get? c=ab (k.obj c)/\nc k.bm
theorem ba4(c:a8)(rest:af ar):(JQ "type.__call__" ⟨.ref c::rest,[]⟩).weight=1:=by kernel_rfl
theorem ba2(c:a8)(rest:af ar):(JQ "type.__call__" ⟨.ref c::rest,[]⟩).envs=[]:=by kernel_rfl
theorem ba3(c:a8)(rest:af ar):(JQ "type.__call__" ⟨.ref c::rest,[]⟩).cUnits=1:=by kernel_rfl
def cS.rA(c:cS)(k:a8)(ws:af ar):cS:=⟨c.B,c.stk,c.A.under (.builtin "type.__call__" ⟨.ref k::ws,[]⟩)⟩
theorem ly.rA{c:cS}{hd:aw ae}{n:ae}{k:a8}{ws:af ar}(a:ly c.A hd n 4 c.stk):ly (c.rA k ws).A hd n 1 c.stk where
 handled:=a.handled
 frames:=by unfold cS.rA JF;dsimp only;rw[ba2];exact a.frames
 depth:=by have:=a.depth;unfold cS.rA JF;dsimp only;rw[ba4];lia
 units:=by have:=a.units;unfold cS.rA JF;dsimp only;rw[ba3];lia
section
variable{B:bo}{stk:af Sc}{σ:H}{s:bS}{C c t:ae}{ws:af ar}
def qg(h:bw)(c:a8):bw:=(h.push nF).push (instObj c h.objs.size)
def BO(h:bw)(c:a8)(ws:af ar):bw:=(h.push (xQ ws)).push (sj c h.objs.size)
theorem zq{h:bw}{a b:bj}:∀x,eT h ((h.push a).push b) x:=λU U e=>iJ _ (iJ _ e)
theorem ap5{h:bw}:(qg h c).get? h.objs.size=ab nF:=by unfold qg;heap_get
theorem Nq{h:bw}:(qg h c).get? (h.objs.size+1)=ab (instObj c h.objs.size):=by unfold qg;heap_get
theorem Nr{h:bw}:(BO h c ws).get? (h.objs.size+1)=ab (sj c h.objs.size):=by unfold BO;heap_get
theorem t7.nil:t7 C []:=λU U e=>nomatch e
theorem aY.Ow(S:aY B stk σ s)(aS:t≠0)(aK:X.T.cls C=ab c)(aE:g8 X.T.bp C=ab av):aY B stk (aC σ (s.heap.objs.size+1) ⟨t,.i C []⟩) {s with heap:=qg s.heap c}:=S _ λρ b9=>by
 have d9:s.heap.get? s.heap.objs.size=aj:=iR (da _)
 have e4:s.heap.get? (s.heap.objs.size+1)=aj:=iR (mw _)
 have g1:=ap5 (c:=c) (h:=s.heap)
 have g2:=Nq (c:=c) (h:=s.heap)
 have ne:s.heap.objs.size+1≠s.heap.objs.size:=Kq _
 have az:∀b,eT s.heap (qg s.heap c) b:=zq
 generalize qg s.heap c=h' at g1 g2 az|-
 generalize s.heap.objs.size+1=a at e4 g2 ne|-
 generalize s.heap.objs.size=d at d9 g1 g2 ne
 have l1:=oq (r:=Role.fld a) (b9.h.none_of d9).2
 have d2:=oq (ρ:=setR ρ d (.fld a)) (a:=a) (r:=Role.obj) ((bh ne).trans (b9.h.none_of e4).2)
 have hm:h'.Ns d λU=>aj:=⟨_,#[],0,g1,aa,QI,λU=>aa⟩
 have cV:h'.DictLe d 0:=λo' l6 Mk gg jw=>by cases g1.symm.trans gg;cases jw;exact da _
 exact eu.sim ⟨b9.h.grow az (λb r e=>d2 _ _ (l1 _ _ e)) (λb e=>(vO e).elim (λz=>(vO z).imp id λ(z:b=d)=>aD z ⟨b9.h.free d9,_,g1⟩) λ(z:b=a)=>.inr (aD z ⟨b9.h.free e4,_,g2⟩))
  λb o e=>(vT e).elim (λz=>by rw[z.1,z.2];exact .inr ⟨λU=>vN,λz=>aV z aS,λU k=>k c d #[] aK g2 (d2 _ _ vN) (λU g=>g _ hm cV λU U U=>aa) t7.nil aE⟩) λz=>.inl z.2,b9.os,b9.gens⟩
theorem aY.aB5(S:aY B stk σ s)(aS:t≠0)(aK:X.T.cls C=ab c)(aE:g8 X.T.bp C=ab ak):aY B stk (aC σ (s.heap.objs.size+1) ⟨t,.e C [] .made⟩) {s with heap:=BO s.heap c ws}:=S _ λρ b9=>
 have e4:s.heap.get? (s.heap.objs.size+1)=aj:=iR (mw _)
 eu.sim ⟨b9.h.new zq (b9.h.none_of e4).2 (b9.h.free e4) ⟨_,Nr⟩ λU r=>⟨λU=>r,λz=>aV z aS,λU k=>k c aj _ #[] aK Nr aa t7.nil aE ⟨_,aa,aa,aa⟩⟩,b9.os,b9.gens⟩
theorem aY.next(S:aY B stk σ s):σ (s.heap.objs.size+1)=aj:=S _ λU b9=>(b9.h.none_of (iR (mw _))).1
end
theorem aB6(K:X.Ok)(mk:K0):Make:=λ{hd n F c σ s Q E C k args ws} hF a S aK au h=>by
 have hu:=S.k1 K
 rcases h with @⟨x,f,_,h1,h2,h3,gT⟩|⟨h1,h2,gT⟩
 ·refine fH (mk.init C k _ aK h2) λr f1 f2 cz=> ?_
  refine b5 (gT _ S.next) λt aS h=> ?_
  have BL:∀(h':bw),X.K.In h'->∀self,kK a9 h' (R5 (.ref r.addr) self) (.ref r.addr,[self]):=λh' k self=>bind_fn k self cz
  have fin:∀{h':bw}{o:O},aY c.B c.stk (aC σ (s.heap.objs.size+1) o) {s with heap:=h'}->(∀b,eT s.heap h' b)->F f (.r (s.heap.objs.size+1)::args) (aC σ (s.heap.objs.size+1) o) (λv ah=>v=.n/\Q (.r (s.heap.objs.size+1)) ah) E->
    nG a9 (c.rA k ws).A (.call (.ref r.addr) ⟨.ref (s.heap.objs.size+1)::ws,[]⟩) (InitBack (s.heap.objs.size+1) (λr s'=>match r with| .ok (.ret v)=>eU c bq s.heap Q v s'| .ok _=>dg| .error e=>gE c s.heap E e s')) {s with heap:=h'}:=by
   intro h' o er il hf
   have ev:=aP.keeps il
   refine fH (hF (c.rA k ws) f (.r (s.heap.objs.size+1)::args) (.ref (s.heap.objs.size+1)::ws) _ _ E _ hf a.rA er (b7.cons aa (au.cu ev))) λei g1 U mJ=> ?_
   cases f1.symm.trans g1
   refine Jh mJ λres s2 z=> ?_
   cases(res)with
   |error e=>exact gE.lift (c:=c.rA k ws) ev z
   |ok bu=>
    cases(bu)with
    |ret v=>exact z _ λu a3 dm cH cb q=>q.elim λbT q=>⟨by cases bT;exact dm,.mk (a:=.r _) aa cH (ev.trans cb) q⟩
    |next=>exact z
    |cont=>exact z
    |brk=>exact z
  rcases x with _|_
  ·have er:=S.Ow (t:=t) aS aK h1
   rcases s with⟨bG,g,d,tk,os⟩
   exact ya (make_core (makes_of hu (mk.inst C k aK h1)) (x2 hu f2) (BL _ hu) (.inl aa) (fin (h':=qg bG k) er zq h))
  ·refine b5 (mk.exc C k aK h1) λnr e9 bb=> ?_
   have er:=S.aB5 (t:=t) (ws:=ws) aS aK h1
   have am4:=S.base _ _ e9
   rcases s with⟨bG,g,d,tk,os⟩
   exact ya (YB bb am4 (x2 hu f2) (BL _ hu) (au.length.symm▸aX h3 ai) (fin (h':=BO bG k ws) er zq h))
 ·cases au
  refine b5 (gT _ S.next) λt aS h=> ?_
  have er:=S.Ow (t:=t) aS aK h1
  have Y:=makes_of (M:=a9) hu (mk.inst C k aK h1)
  rcases s with⟨bG,g,d,tk,os⟩
  refine ya (make_core Y (x2 hu (mk.bare C k aK h1 h2)) (λself=>T2 (oi_bind self)) (.inr ⟨aa,aa⟩) ?_)
  have t1:kK a9 (qg bG k) (rJ (.ref (bG.objs.size+1))) (.ref k):=Ag Nq
  have lQ:kK a9 (qg bG k) (v' (.ref (bG.objs.size+1)) (.type "object")) ak:=t1.andThen (Y.top.keeps λb o e=>iJ _ (iJ _ e))
  refine DI oi_plain entry_oi (@Jb a9 _ _ _ "object.__init__" "object" "__init__" (.ref (bG.objs.size+1)) [] [] _ oi_kind oi_split lQ (oi_args (.ref (bG.objs.size+1))) ?_)
  rw[oi_run]
  exact bI ⟨aa,.mk (a:=.r _) aa er (aP.keeps zq) h⟩
end
section
open PySem.SeqAt
def pl(a b:ag×ag):aB:=decide (a.1<b.1)||(decide (a.1=b.1)&&decide (a.2<b.2))
theorem vG{a b:ag×ag}:pl a b=ak↔a.1<b.1\/(a.1=b.1/\a.2<b.2):=by unfold pl;rw[nH,wd,yd,yd,yd]
theorem HZ{a b c:ag×ag}(h1:pl a b=ak)(h2:pl b c=ak):pl a c=ak:=
 vG.mpr ((vG.mp h1).elim (λx=>.inl ((vG.mp h2).elim (Int.lt_trans x) λy=>aR y.1 x)) λx=>(vG.mp h2).elim (λy=>.inl (aD x.1 y)) λy=>.inr ⟨x.1.trans y.1,Int.lt_trans x.2 y.2⟩)
theorem aL1{a b:ag×ag}(h:a≠b)(h1:¬ pl a b=ak):pl b a=ak:=by
 have n:=λz=>h1 (vG.mpr z)
 refine vG.mpr ?_
 rcases Th a.1 b.1 with x|x|x
 ·exact aV (.inl x) n
 ·rcases Th a.2 b.2 with y|y|y
  ·exact aV (.inr ⟨x,y⟩) n
  ·exact aV (tT x y) h
  ·exact .inr ⟨x.symm,y⟩
 ·exact .inl x
def jN{α:Type}(n:ae)(lt:ae->ae->aB):KasT α->(α->Prop)->Prop
 | .ret a,Q=>Q a
 | .ask i j k,Q=>i<n/\j<n/\jN n lt (k (lt i j)) Q
theorem jN.bind{α β:Type}{n:ae}{lt:ae->ae->aB}{f:α->KasT β}{Q:β->Prop}{R:α->Prop}{t:KasT α}(h:jN n lt t R)(k:∀a,R a->jN n lt (f a) Q):jN n lt (t.bind f) Q:=by
 induction t with
 |ret a=>exact k a h
 |ask i j g aI=>exact⟨h.1,h.2.1,aI _ h.2.2⟩
theorem jN.mono{α:Type}{n:ae}{lt:ae->ae->aB}{Q R:α->Prop}{t:KasT α}(k:∀a,Q a->R a)(h:jN n lt t Q):jN n lt t R:=by
 induction t with
 |ret a=>exact k a h
 |ask i j g aI=>exact⟨h.1,h.2.1,aI _ h.2.2⟩
theorem jN.wp{α:Type}{n:ae}{lt:ae->ae->aB}{cmp:ae->ae->(aB->bS->Prop)->bS->Prop}{Q:α->Prop}{W:α->bS->Prop}(I:bS->Prop)
  (aK:∀i j C s,i<n->j<n->I s->(∀s',I s'->C (lt i j) s')->cmp i j C s)(hw:∀a s,Q a->I s->W a s){t:KasT α}{s:bS}(h:jN n lt t Q)(hs:I s):t.kasWp cmp W s:=by
 induction t generalizing s with
 |ret a=>exact hw a s h hs
 |ask i j g aI=>exact aK i j _ s h.1 h.2.1 hs λs' zf=>aI _ h.2.2 zf
theorem getD_eq{α:Type}{p:dC α}{i:ae}{d:α}:p.getD i d=(p[i]?).getD d:=Array.getD_eq_getD_getElem? ..
section
variable{n:ae}{key:ae->ag×ag}{p:dC ae}{m k l r:ae}
def e'(key:ae->ag×ag)(p:dC ae)(i:ae):ag×ag:=key (p.getD i 0)
def j8(key:ae->ag×ag)(p:dC ae)(b:ae):Prop:=∀i,i+1<b->pl (e' key p i) (e' key p (i+1))=ak
def t4(key:ae->ag×ag)(p:dC ae)(b:ae):Prop:=∀i,i+1<b->pl (e' key p (i+1)) (e' key p i)=ak
theorem j8.all(h:j8 key p m){i j:ae}(hij:i<j)(cp:j<m):pl (e' key p i) (e' key p j)=ak:=by
 induction j with
 |zero=>exact aV hij (yq _)
 |succ j aI=>exact(Eu.mp hij).elim (λz=>HZ (aI z (yo cp)) (h j cp)) λz=>z▸h j cp
abbrev eN(n:ae)(p:dC ae):Prop:=p.Perm (gB n).toArray
theorem eN.size(P:eN n p):p.size=n:=P.size_eq.trans (by rw[wq,mu])
theorem eN.get(P:eN n p){i:ae}(h:i<n):p.getD i 0=p[i]'(aD P.size h):=by rw[getD_eq,SG (aD P.size h)]at|-;rfl
theorem eN.lt(P:eN n p){i:ae}(h:i<n):p.getD i 0<n:=by
 rw[P.get h]
 have:=(JJ.mp P).mem_iff.mp (SH.mp (Array.getElem_mem (aD P.size h)))
 rw[Ki]at this
 exact pN.mp this
abbrev Inj(n:ae)(key:ae->ag×ag):Prop:=∀i j,i<n->j<n->key i=key j->i=j
theorem eN.ne(I:Inj n key)(P:eN n p){i j:ae}(hij:i<j)(cp:j<n):e' key p i≠e' key p j:=λe=>by
 have hi:=nO hij cp
 have z:=I _ _ (P.lt hi) (P.lt cp) e
 rw[P.get hi,P.get cp]at z
 have cx:p.toList.Nodup:=(JJ.mp P).nodup_iff.mpr (by rw[Ki];exact List.nodup_range)
 exact Eo.mp cx i j (by rw[Array.length_toList,P.size];exact hi) (by rw[Array.length_toList,P.size];exact cp) hij (by rw[JH,JH];exact z)
abbrev i9(key:ae->ag×ag)(i j:ae):aB:=pl (key i) (key j)
theorem B8(I:Inj n key)(P:eN n p){i j:ae}(hij:i<j)(cp:j<n)(h:i9 key (p.getD j 0) (p.getD i 0)=av):pl (e' key p i) (e' key p j)=ak:=
 aL1 (λz=>P.ne I hij cp z.symm) (λz=>d6 (h.symm.trans z))
theorem j8.snoc{s:ae}(h:j8 key p (s+1))(z:pl (e' key p s) (e' key p (s+1))=ak):j8 key p (s+1+1):=λi hi=>(Eu.mp hi).elim (h i) λe=>aD (wz e) z
theorem t4.snoc{s:ae}(h:t4 key p (s+1))(z:pl (e' key p (s+1)) (e' key p s)=ak):t4 key p (s+1+1):=λi hi=>(Eu.mp hi).elim (h i) λe=>aD (wz e) z
theorem Lw(I:Inj n key)(P:eN n p)(f:ae){s:ae}(h2:s+1+f<=n)(h:j8 key p (s+1)):jN n (i9 key) (kas_asc p f (s+1)) λr=>s+1<=r/\r<=s+1+f/\j8 key p r/\(r<s+1+f->pl (e' key p r) (e' key p (r - 1))=ak):=by
 induction f generalizing s with
 |zero=>exact⟨da _,da _,h,λz=>aV z (nN _)⟩
 |succ f aI=>
  have hs:s+1<n:=fT (wu (oD f)) h2
  refine⟨P.lt hs,P.lt (yo hs),?_⟩
  show jN n (i9 key) (if i9 key (p.getD (s+1) 0) (p.getD s 0)=ak then _ else _) _
  rcases aK:i9 key (p.getD (s+1) 0) (p.getD s 0)with _|_
  ·exact(aI (s:=s+1) (aD (qI (s+1) f) h2) (h.snoc (B8 I P (kM s) hs aK))).mono λr z=>⟨rR z.1,aR (qI (s+1) f) z.2.1,z.2.2.1,λy=>z.2.2.2 (aD (qI (s+1) f) y)⟩
  ·exact⟨da _,en _ _,h,λU=>aK⟩
theorem XQ(I:Inj n key)(P:eN n p)(f:ae){s:ae}(h2:s+1+f<=n)(h:t4 key p (s+1)):jN n (i9 key) (kas_desc f p (s+1) 0) λr=>r.1=p/\s+1<=r.2.1/\r.2.1<=s+1+f/\r.2.2=0/\t4 key p r.2.1:=by
 induction f generalizing s with
 |zero=>exact⟨aa,da _,da _,aa,h⟩
 |succ f aI=>
  have hs:s+1<n:=fT (wu (oD f)) h2
  refine⟨P.lt hs,P.lt (yo hs),?_⟩
  show jN n (i9 key) (if i9 key (p.getD (s+1) 0) (p.getD s 0)=ak then _ else _) _
  rcases aK:i9 key (p.getD (s+1) 0) (p.getD s 0)with _|_
  ·refine⟨P.lt (yo hs),P.lt hs,?_⟩
   rw[show i9 key (p.getD (s+1 - 1) 0) (p.getD (s+1) 0)=ak from B8 I P (kM s) hs aK]
   exact⟨aa,da _,en _ _,aa,h⟩
  ·exact(aI (s:=s+1) (aD (qI (s+1) f) h2) (h.snoc aK)).mono λr z=>⟨z.1,rR z.2.1,aR (qI (s+1) f) z.2.2.1,z.2.2.2⟩
theorem eN.rev(P:eN n p):eN n (Ar p 0 m):=(by unfold Ar;exact mirror_perm _ _ _ _:(kas_rev p 0 m).Perm p).trans P
theorem Oa(P:eN n p)(hm:m<=n){i:ae}(hi:i<m):e' key (Ar p 0 m) i=e' key p (m - 1 - i):=by
 unfold e' Ar
 rw[getD_eq,getElem?_mirror_all (P.size.symm▸hm),bk ⟨eL _,hi⟩,iA,←getD_eq]at|-
theorem aP1(P:eN n p)(hm:m<=n)(h:t4 key p m):j8 key (Ar p 0 m) m:=λi hi=>by
 rw[Oa P hm (yo hi),Oa P hm hi]
 have p0:0<m - 1 - i:=Ui (Nat.lt_sub_of_add_lt hi)
 have e:m - 1 - i=m - 1 - (i+1)+1:=(Nat.succ_pred_eq_of_pos p0).symm
 rw[e]
 exact h _ (aR e (d7 (wy _ _) (Kp (Nat.zero_lt_of_lt hi) Ko)))
theorem aZ7(I:Inj n key)(P:eN n p){s mb:ae}(h2:s+1<=mb)(h3:mb<=n)(h:t4 key p (s+1)):jN n (i9 key) (kas_tail3 (s+1) mb p) λr=>1<=r.1/\r.1<=mb/\eN n r.2/\j8 key r.2 r.1:=by
 have e:=tr h2
 exact(Lw I P.rev (mb - (s+1)) (e.symm▸h3) (aP1 P (aX h2 h3) h)).bind λr z=>⟨aX (oD s) z.1,e▸z.2.1,P.rev,z.2.2.1⟩
theorem XA(I:Inj n key)(P:eN n p){mb:ae}(h2:2<=mb)(h3:mb<=n):jN n (i9 key) (kas_count mb p) λr=>1<=r.1/\r.1<=mb/\eN n r.2/\j8 key r.2 r.1:=by
 have e:0+1+(mb - 1)=mb:=tr (rR h2)
 refine(Lw I P (mb - 1) (s:=0) (e.symm▸h3) λi hi=>aV hi (tP.mpr (rQ 1 i))).bind λr z=> ?_
 rw[e]at z
 by_cases au:r=mb
 ·rw[bk (by rw[au];exact jG _)]
  exact⟨z.1,z.2.1,P,z.2.2.1⟩
 ·rw[bh λy=>au (qA y)]
  have lt:=Nat.lt_of_le_of_ne z.2.1 au
  have dB:=fT lt h3
  by_cases h1:r>1
  ·rw[bk h1]
   have a0:r - 1<r:=Kp z.1 Ko
   refine⟨P.lt (fT (oD 1) (aX h2 h3)),P.lt (nO a0 dB),?_⟩
   rw[show i9 key (p.getD 0 0) (p.getD (r - 1) 0)=ak from z.2.2.1.all (Ui h1) a0]
   exact⟨z.1,z.2.1,P,z.2.2.1⟩
  ·rw[bh h1]
   have a0:r=1:=Es (tP.mp h1) z.1
   rw[a0]at z lt|-
   have e2:=tr h2
   refine(XQ I P (mb - (1+1)) (s:=1) (e2.symm▸h3) λi hi=> ?_).bind λq w=> ?_
   ·have vg:i=0:=Nat.lt_one_iff.mp (AU hi)
    rw[vg]
    exact z.2.2.2 lt
   ·rw[bh (by rw[w.2.2.2.1];exact nN 0),w.1]
    rcases y:q.2.1 with _|s
    ·rw[y]at w;exact aV w.2.1 ai
    ·rw[y]at w
     exact aZ7 I P (aR e2 w.2.2.1) h3 w.2.2.2.2
theorem mid{l r:ae}(h:l<r):(l+r)/2<r/\l<=(l+r)/2:=⟨Nat.div_lt_of_lt_mul (aD (Nat.two_mul r) (Nat.add_lt_add_right h r)),(Nat.le_div_iff_mul_le Kr).mpr (aD (Nat.mul_two l) (gC (jk h) l))⟩
theorem aC8{l r f m:ae}(h:r - l<=f+1)(g:m<r/\l<=m):m - l<=f/\r - (m+1)<=f:=⟨oC (fT (Nat.sub_lt_sub_right g.2 g.1) h),aX (Nat.sub_le_sub_left (pQ g.2) r) (Nat.pred_le_pred h)⟩
theorem aL3(I:Inj n key)(P:eN n p)(az:k<n)(h:j8 key p k)(f:ae){l r:ae}(h1:l<=r)(h2:r<=k)(h3:r - l<=f)(a:∀i,i<l->pl (e' key p i) (e' key p k)=ak)(b:∀i,r<=i->i<k->pl (e' key p k) (e' key p i)=ak):
  jN n (i9 key) (kas_place p k f l r) λl=>l<=k/\(∀i,i<l->pl (e' key p i) (e' key p k)=ak)/\(∀i,l<=i->i<k->pl (e' key p k) (e' key p i)=ak):=by
 induction f generalizing l r with
 |zero=>exact⟨aX h1 h2,a,λi hi=>b i (aX (Nat.sub_eq_zero_iff_le.mp (Nat.le_zero.mp h3)) hi)⟩
 |succ f aI=>
  unfold kas_place
  by_cases z:l>=r
  ·rw[bk z];exact⟨aX h1 h2,a,λi hi=>b i (aX z hi)⟩
  ·rw[bh z]
   have z:=Kn.mp z
   have hm:=mid z
   have hf:=aC8 h3 hm
   have mk:=fT hm.1 h2
   generalize(l+r)/2=m at hm hf mk|-
   refine⟨P.lt az,P.lt (nO mk az),?_⟩
   rcases aK:i9 key (p.getD k 0) (p.getD m 0)with _|_
   ·exact aI (Uk hm.1) h2 hf.2 (λi hi=>(Eu.mp hi).elim (λe=>HZ (h.all e mk) (B8 I P mk az aK)) λe=>aD e (B8 I P mk az aK)) b
   ·exact aI hm.2 (jk mk) hf.1 a λi hi Gy=>(T7 hi).elim (λe=>HZ aK (h.all e Gy)) λe=>aR e aK
theorem eN.WV{d:ae}(P:eN n p):eN n (bubble p k d):=(bubble_perm _ _ _).trans P
theorem N'{i:ae}(P:eN n p)(az:k<n)(ax:l<=k):e' key (bubble p k (k - l)) i=if i=l then e' key p k else if l<i/\i<=k then e' key p (i - 1)else e' key p i:=by
 unfold e'
 rw[getD_eq,getElem?_bubble (P.size.symm▸az) _ (wy k l),Nat.sub_sub_self ax]at|-
 by_cases e:i=l
 ·rw[bk e,bk e,←getD_eq]
 ·rw[bh e,bh e]
  by_cases e2:l<i/\i<=k
  ·rw[bk e2,bk e2,←getD_eq]
  ·rw[bh e2,bh e2,←getD_eq]
theorem WW(P:eN n p)(az:k<n)(h:j8 key p k)(ax:l<=k)(a:∀i,i<l->pl (e' key p i) (e' key p k)=ak)(b:∀i,l<=i->i<k->pl (e' key p k) (e' key p i)=ak):j8 key (bubble p k (k - l)) (k+1):=λi hi=>by
 have hi:=AU hi
 rw[N' P az ax,N' P az ax]
 rcases T8 i l with c|c|c
 ·rw[bh (Ex c),bh λz=>T6 c z.1]
  rcases T7 (Uk c)with d|d
  ·rw[bh (Ex d),bh λz=>T6 d z.1]
   exact h i (fT d ax)
  ·rw[bk d];exact a i c
 ·rw[bk c,bh λz=>Kq i (z.trans c.symm),bk ⟨aR c (kM i),hi⟩]
  exact b i (eK c.symm) hi
 ·rw[bh (Ew c),bk ⟨c,jk hi⟩,bh (Ew (wx c)),bk ⟨wx c,hi⟩]
  rcases i with _|i
  ·exact aV c (yq _)
  ·exact h i hi
theorem WL(I:Inj n key)(f:ae){p:dC ae}{k:ae}(P:eN n p)(h2:k+f=n)(h:j8 key p k):jN n (i9 key) (kas_bin f p k) λq=>eN n q/\j8 key q n:=by
 induction f generalizing p k with
 |zero=>exact⟨P,aR h2 h⟩
 |succ f aI=>
  have az:k<n:=aR h2 (wu (oD f))
  exact(aL3 I P az h k (l:=0) (r:=k) (eL _) (da _) (da _) (λi hi=>aV hi (yq _)) λi hi Gy=>aV Gy (tP.mpr hi)).bind λl z=>aI P.WV ((qI k f).trans h2) (WW P az h z.1 z.2.1 z.2.2)
theorem aW2(h2:2<=n)(I:Inj n key):jN n (i9 key) (Jd n) λq=>eN n q/\j8 key q n:=by
 unfold Jd
 refine(XA I (bi6 _) h2 (da _)).bind λr z=> ?_
 by_cases y:r.1<n
 ·rw[bk y,Nat.max_eq_left z.1]
  exact WL I (n - r.1) z.2.2.1 (tr z.2.1) z.2.2.2
 ·rw[bh y]
  exact⟨z.2.2.1,aR (Es z.2.1 (tP.mp y)) z.2.2.2⟩
end
end
section
open PySem.SeqAt
theorem b7.map{α:Type}{h:bw}{f:α->V}{g:α->ar}{l:af α}(k:∀x∈l,bq h (f x) (g x)):b7 h (l.map f) (l.map g):=by
 induction l with
 |nil=>exact .nil
 |cons x r aI=>exact .cons (k x dI) (aI λy m=>k y (iL _ m))
section
variable{A:ea}{s:bS}
theorem HY{h:bw}{p:ag×ag}{w:ar}(r:bq h (c' p) w):∃a o n t u,w=.ref a/\h.get? a=ab o/\o.cls=.type "tuple"/\o.data=.seq #[.int p.1 t,.int p.2 u] n:=by
 obtain⟨_,a,vs,rfl,⟨o,aO,aK,n,hd⟩,au⟩:=r
 obtain⟨dP,a0,aq,⟨t,rfl⟩,h2⟩:=au
 obtain⟨dY,bX,rfl,⟨u,rfl⟩,h3⟩:=h2
 cases h3
 refine⟨a,o,n,t,u,aa,aO,aK,?_⟩
 rw[hd,←SK.mp (show vs.toList=#[UB p.1 t,UB p.2 u].toList from aq)]
theorem kat_tups{h:bw}:∀{c1:af (ag×ag)}{ws:af ar},b7 h (c1.map c') ws->∃fs,KatTups h ws fs/\fs.length=c1.length/\∀v∈fs,∃i t,v=.int i t
 |[],ws,r=>by cases r;exact⟨[],KatTups.nil,aa,λv h=>by cases h⟩
 |p::c1,ws,r=>by
  obtain⟨w,bp0,rfl,a0,bX⟩:=r
  obtain⟨a,o,n,t,u,rfl,aO,aK,hd⟩:=HY a0
  obtain⟨fs,k,ax,hi⟩:=kat_tups bX
  refine⟨.int p.1 t::fs,KatTups.cons aO aK hd aa k,by simp[ax],λv a4=> ?_⟩
  rcases fS.mp a4 with rfl|a4
  ·exact⟨_,_,aa⟩
  ·exact hi v a4
theorem aA5{p q:ag×ag}{v w:ar}{C:aB->bS->Prop}{E:ar->bS->Prop}(h1:bq s.heap (c' p) v)(h2:bq s.heap (c' q) w)(c:C (pl p q) s):
  bg a9 A (keyLt' (I9 ak) v w) C E s:=by
 obtain⟨a,o,n,t,u,rfl,aO,aK,hd⟩:=HY h1
 obtain⟨b,cX,e4,lQ,rz,rfl,l7,Nk,hd2⟩:=HY h2
 refine kat_lt aO hd l7 hd2 ?_
 refine kat_cons (Jv ?_)
 by_cases e:p.1=q.1
 ·rw[show(p.1==q.1)=ak by rw[e];exact jG _]
  refine kat_yes (kat_cons (Jv ?_))
  by_cases e2:p.2=q.2
  ·rw[show(p.2==q.2)=ak by rw[e2];exact jG _]
   refine kat_yes (kat_nil ?_)
   have:pl p q=av:=by unfold pl;simp[e,e2]
   rw[this]at c;exact c
  ·rw[show(p.2==q.2)=av by simpa using e2]
   refine kat_no (kat_one _ _ ?_)
   have:pl p q=decide (p.2<q.2):=by unfold pl;simp[e]
   rw[this]at c
   exact P.lt_int c
 ·rw[show(p.1==q.1)=av by simpa using e]
  refine kat_no ?_
  have:pl p q=decide (p.1<q.1):=by unfold pl;simp[e]
  rw[this]at c
  exact kat_lt_int c
end
theorem range_getD{α:Type}(l:af α)(d:α):(gB l.length).map (λi=>l.getD i d)=l:=by
 apply List.ext_getElem?
 intro i
 rw[lV]at|-
 by_cases h:i<l.length
 ·simp[h]
 ·rw[Eh (by simp;lia),Eh (by lia)]at|-;rfl
theorem aL4{c1:af (ag×ag)}{p:dC ae}(P:eN c1.length p)(h:j8 (λi=>c1.getD i (0,0)) p c1.length):p.toList.map (λi=>c1.getD i (0,0))=sortP c1:=by
 refine C9 OZ ?_ ?_
 ·have:=(JJ.mp P).map λi=>c1.getD i (0,0)
  rw[Ki,range_getD]at this
  exact this
 ·rw[Eo]
  intro i j hi cp hij
  rw[cN,Array.length_toList,P.size]at hi cp
  have e:∀k(az:k<c1.length),(p.toList.map (λi=>c1.getD i (0,0)))[k]'(by rw[cN,Array.length_toList,P.size];exact az)=e' (λi=>c1.getD i (0,0)) p k:=λk az=>by
   unfold e'
   rw[List.getElem_map,P.get az,JH]
  rw[e i hi,e j cp]
  exact ple_iff.mpr ((vG.mp (h.all hij cp)).imp id λz=>⟨z.1,hJ z.2⟩)
theorem aF3{c1:af (ag×ag)}(h:c1.Nodup):Inj c1.length λi=>c1.getD i (0,0):=λi j hi cp e=>by
 have e:c1.getD i (0,0)=c1.getD j (0,0):=e
 rw[qH,qH,f9 hi,f9 cp]at e
 rcases T8 i j with c|c|c
 ·exact aV (show c1[i]=c1[j]from e) (Eo.mp h i j hi cp c)
 ·exact c
 ·exact aV (show c1[j]=c1[i]from Eq.symm e) (Eo.mp h j i cp hi c)
section
variable{A:ea}{s:bS}
theorem aW3{a:a8}{n:ae}{c1:af (ag×ag)}{ws:af ar}{P:Ux->bS->Prop}{E:ar->bS->Prop}(aO:s.heap.get? a=ab (seqObj "list" ws.toArray n))(au:b7 s.heap (c1.map c') ws)(vd:c1.Nodup)(M':c1.length<64)
  (k:∀(out:af ar) c h',h'.get? a=ab (seqObj "list" out.toArray c)->(∀b o,b≠a->s.heap.get? b=ab o->h'.get? b=ab o)->b7 s.heap ((sortP c1).map c') out->P (.done (.ret .none)) {s with heap:=h'}):
  bg a9 A (Builtin.«list.sort» ⟨[.ref a],[]⟩) P E s:=by
 have ax:ws.length=c1.length:=by rw[au.length,cN]
 have s1:=tJ s.heap a (tQ λU=>(#[]:dC ar))
 obtain⟨aq,GB⟩:∃aq,(s.heap.update a (tQ λU=>(#[]:dC ar))).get? a=ab (seqObj "list" #[] aq):=⟨_,Dx aO λU=>#[]⟩
 generalize hH:s.heap.update a (tQ λU=>(#[]:dC ar))=H1 at s1 GB
 have zc:∀b o,b≠a->s.heap.get? b=ab o->((H1.push (seqObj "tuple" ws.toArray 0)).push (seqObj "list" #[] 0)).get? b=ab o:=λb o bb e=>iJ _ (iJ _ ((s1.2 b bb).trans e))
 have BR:((H1.push (seqObj "tuple" ws.toArray 0)).push (seqObj "list" #[] 0)).get? a=ab (seqObj "list" #[] aq):=iJ _ (iJ _ GB)
 have ev:aP s.heap ((H1.push (seqObj "tuple" ws.toArray 0)).push (seqObj "list" #[] 0)):=λb vs⟨o,bb,aK,r⟩=>⟨o,zc b o (λz=>by subst z;rw[aO]at bb;cases bb;exact aV (wC aK) ai) bb,aK,r⟩
 rw[list_sort_plain]
 refine aN (listItems_at aO aa ?_)
 refine aN (RU aO aa ?_ (by rw[wq,tG];lia) (eL _))
 rw[hH]
 refine aN (RY GB aa ?_)
 refine aN (wpAny_newTuple ?_ (by show ws.length<=_;rw[tG];lia))
 refine aN (Jz ?_ (eL _))
 refine lq ?_
 show bg _ A _ P E {s with heap:=(H1.push (seqObj "tuple" ws.toArray 0)).push (seqObj "list" #[] 0)}
 generalize((H1.push (seqObj "tuple" ws.toArray 0)).push (seqObj "list" #[] 0))=iN at zc BR ev
 dsimp only
 have tail:∀(pw:SortSt)(out:af ar),(arrOf pw).map (·.2)=out.toArray->I' pw=aj->out.length=c1.length->b7 s.heap ((sortP c1).map c') out->
   bg a9 A (do
    let touched:=(←seqEpoch a)!= aq
    bi8 (.ref a) λU=>(arrOf pw).map (·.2)
    if let ab e:=I' pw then rule "list.sort.comparison-raised";throw e
    if touched then rule "list.sort.modified";raiseError "ValueError" "list modified during sort"
    ret .none) P E {s with heap:=iN}:=by
  intro pw out h1 h2 h3 cQ
  rw[h1,h2]
  have s2:=tJ iN a (tQ λU=>out.toArray)
  obtain⟨c2,Nk⟩:∃c2,(iN.update a (tQ λU=>out.toArray)).get? a=ab (seqObj "list" out.toArray c2):=⟨_,Dx BR λU=>out.toArray⟩
  refine aN (RY BR aa ?_)
  refine aN (RU BR aa ?_ (eL _) (by rw[wq,tG];lia))
  simp only[bne_self_eq_false,SN,if_false]
  exact bI (k out c2 _ Nk (λb o bb e=>(s2.2 b bb).trans (zc b o bb e)) cQ)
 by_cases xf:ws.toArray.size<2
 ·rw[bk xf,bk xf]
  rw[wq]at xf
  refine aN (bI ?_)
  refine aN ?_
  rw[StateT.run_pure]
  refine bI ?_
  refine tail _ ws ?_ rfl ax ?_
  ·show(ws.toArray.zip ws.toArray).map (·.2)=ws.toArray
   apply SK.mp
   simp[List.map_snd_zip]
  ·have:sortP c1=c1:=by
    match c1,ax with
    |[],_=>rfl
    |[p],_=>rfl
    |_::_::_,ax=>simp at ax;lia
   rw[this];exact au
 ·rw[bh xf,bh xf]
  rw[wq]at xf
  obtain⟨fs,kt,i9,ki⟩:=kat_tups (au.cu ev)
  refine aN (kat_kind (s:={s with heap:=iN}) (T:=.type "int") kt (by lia) (λv a4=> ?_) ai ?_)
  ·obtain⟨i,t,rfl⟩:=ki v a4;exact .now
  show bg _ A (((sortRuns').run (SortSt.mk' (I9 ak) (ws.toArray.zip ws.toArray) #[] 7 aj))>>= _) _ _ _
  have aO:=aW2 (n:=c1.length) (key:=λi=>c1.getD i (0,0)) (by lia) (aF3 vd)
  have hw:(Jd ws.length).kasWp (kas_ask X.prog X.w A (I9 ak) ws) (λp s'=>(eN c1.length p/\j8 (λi=>c1.getD i (0,0)) p c1.length)/\s'={s with heap:=iN}) {s with heap:=iN}:=by
   rw[ax]
   exact jN.wp (I:=λs'=>s'={s with heap:=iN}) (λi j C s' hi cp hs e9=>by
    subst hs
    have cE:∀i,i<c1.length->bq iN (c' (c1.getD i (0,0))) (ws.getD i rT):=λi hi=>by
     obtain⟨w,uC,hw⟩:=(au.cu ev).get (i:=i) (v:=c' c1[i]) (by rw[lV,f9 hi]at|-;rfl)
     rw[qH,qH,uC,f9 hi]at|-
     exact hw
    exact aA5 (s:={s with heap:=iN}) (cE i hi) (cE j cp) (e9 _ aa)) (λp s' h1 h2=>⟨h1,h2⟩) aO aa
  refine aN (dH (kat_run (Q:=λpw s'=>∃p:dC ae,arrOf pw=p.map (kas_item (ws.toArray.zip ws.toArray))/\I' pw=aj/\(eN c1.length p/\j8 (λi=>c1.getD i (0,0)) p c1.length)/\s'={s with heap:=iN})
   rfl (by lia) (by lia) (λdj pw s' a1 a2 fB jo=>⟨dj,a2,fB,jo⟩) hw) ?_ λU U e=>e)
  rintro⟨⟨⟩,pw⟩ s' ⟨p,ao1,hf,⟨w',hA⟩,rfl⟩
  refine tail pw (p.toList.map λi=>ws.getD i rT) (kat_snds aa ao1) hf (by rw[cN,Array.length_toList,w'.size]) ?_
  rw[←aL4 w' hA,nJ]
  refine b7.map λj e=> ?_
  rcases tN.mp e with⟨i,e⟩
  have hi:i<p.size:=by rw[←Array.length_toList];exact(mr.mp e).1
  have cp:j<c1.length:=by have:=w'.lt (i:=i) (aR w'.size hi);rw[getD_eq,←tH,e]at this;exact this
  refine b5 (au.get (i:=j) (v:=c' (c1[j]'cp)) (by rw[lV,f9 cp]at|-;rfl)) λw uC hw=> ?_
  rw[qH,uC,show(c'∘λi=>c1.getD i (0,0)) j=c' (c1[j]'cp)from aU c' (show c1.getD j (0,0)=_ by rw[qH,f9 cp];rfl)]at|-
  exact hw
end
theorem aW4:K5:=λ{c σ s Q E p t c1} S bG aq M' vd q=>S.list aq _ λvs n ax bK a0=>by
 have hlen:vs.toList.length=c1.length:=by rw[a0.length,cN]
 refine S0 RT RW RS (RP _) ?_
 unfold Builtin.«sorted»
 refine aN (m:=checkCount "sorted" 1 1 _) (bI ?_)
 refine aN (RQ (vs:=vs.toList) (by rw[SI];exact bK.isList) ?_ (by rw[tG];lia))
 have GA:∀b o,s.heap.get? b=ab o->((s.heap.push (seqObj "list" #[] 0)).update s.heap.objs.size (tQ (·++vs.toList.toArray))).get? b=ab o:=λb o e=>by
  rw[D' _ _ (λz=>by subst z;exact aV (rM e) (nN _))]at|-
  exact iJ _ e
 generalize((s.heap.push (seqObj "list" #[] 0)).update s.heap.objs.size (tQ (·++vs.toList.toArray)))=h1 at GA
 refine aN (Jz ?_ (by rw[tG];lia))
 have ve:(h1.push (seqObj "list" vs.toList.toArray 0)).get? h1.objs.size=ab (seqObj "list" vs.toList.toArray 0):=lr _ aa
 have ku:∀b o,s.heap.get? b=ab o->b≠h1.objs.size:=λb o e z=>by
  subst z;exact aV (rM (GA _ _ e)) (nN _)
 have xd:∀b o,s.heap.get? b=ab o->(h1.push (seqObj "list" vs.toList.toArray 0)).get? b=ab o:=λb o e=>iJ _ (GA b o e)
 refine aN (lq (rK R0 ⟨_,ve,aa⟩ RR (aW3 (s:={s with heap:=h1.push (seqObj "list" vs.toList.toArray 0)}) ve (a0.cu (aP.keeps xd)) vd M' λout c h' g1 g2 g3=>⟨_,aa,?_⟩) (RO _)))
 refine bI ⟨_,aa,?_⟩
 have zc:∀b o,s.heap.get? b=ab o->h'.get? b=ab o:=λb o e=>g2 b o (ku b o e) (xd b o e)
 have c8:s.heap.get? h1.objs.size=aj:=by
  rcases q:s.heap.get? h1.objs.size with _|o
  ·rfl
  ·exact aV rfl (ku _ o q)
 have ev:aP (h1.push (seqObj "list" vs.toList.toArray 0)) h':=λb ws⟨o,bb,aK,r⟩=>⟨o,g2 b o (λz=>by subst z;rw[ve]at bb;cases bb;exact aV (wC aK) ai) bb,aK,r⟩
 exact S.zF (tk:=s.toks) zc c8 g1 (by rw[cN,(xM (le:=zS) (l:=c1)).length_eq];unfold bN;lia) (g3.cu ev) q
end
abbrev gZ:Frag:=KK fA.w.params
theorem gJ{α β:Type}{f g:α->β}{l:af α}(h:l.map f=l.map g){x:α}(aE:x∈l):f x=g x:=List.map_inj_left.mp h x aE
theorem lD{α:Type}{f:α->aB}{l:af α}(h:l.all f=ak){x:α}(aE:x∈l):f x=ak:=iK.mp h x aE
def PU:ar->ae
 | .ref a=>a
 |_=>0
def MH:Data->aw (dC ar)
 | .fields vs=>ab vs
 |_=>aj
def strN:ar->aw a5
 | .str x _=>ab x
 |_=>aj
theorem aj0{d:Data}{vs:dC ar}(h:MH d=ab vs):d=.fields vs:=by cases d<;>first|cases h;done|(cases h;rfl)
theorem aY2{v:ar}{x:a5}(h:strN v=ab x):∃t,v=.str x t:=by cases v<;>first|cases h;done|(cases h;exact⟨_,aa⟩)
theorem ab9:(fk.map λr=>gZ.lookup r.addr)=fk.map λr=>ab r.obj:=by kernel_rfl
theorem ZJ:(fk.map λr=>r.obj.data)=fk.map λr=>Data.func r.fd:=by kernel_rfl
theorem Zr:(fk.map λr=>r.fd.body)=fk.map λr=>FuncBody.stmts r.body:=by kernel_rfl
theorem ZE:(fk.map λr=>r.fd.closure)=fk.map λU=>[]:=by kernel_rfl
theorem ZV:(fk.map λr=>r.fd.globals)=fk.map λU=>x7:=by kernel_rfl
theorem Zu:(fk.map λr=>r.fd.builtins)=fk.map λU=>Ay:=by kernel_rfl
theorem ZF:(fk.map λr=>r.fd.scope.isCoroutine)=fk.map λU=>av:=by kernel_rfl
theorem ZU:(fk.map λr=>r.fd.scope.isGenerator)=fk.map λU=>av:=by kernel_rfl
theorem Z9:(fk.map λr=>r.fd.scope.kind)=fk.map λU=>.function:=by kernel_rfl
theorem ab8:(fk.map λr=>r.names.take r.as.length)=fk.map λr=>r.as.map (·.arg):=by kernel_rfl
theorem ab7:(fk.all λr=>decide r.names.Nodup)=ak:=by kernel_rfl
theorem ZT:(fk.all λr=>r.fd.scope.names.all λp=>p.2 != .free)=ak:=by kernel_rfl
theorem ad0:(fk.all λr=>(r.as.map (·.arg)).all λx=>r.fd.scope.names.lookup x==ab .local||r.fd.scope.names.lookup x==ab .cell)=ak:=by kernel_rfl
theorem ZI:(fk.map λr=>r.fd.code)=fk.map λr=>.ref (PU r.fd.code):=by kernel_rfl
theorem ZG:(fk.map λr=>(gZ.lookup (PU r.fd.code)).bind λo=>(MH o.data).bind λvs=>(vs[1]?).bind strN)=fk.map λr=>ab r.fd.qualname:=by kernel_rfl
theorem f_len:(fk.all λr=>fI r.as.length 6&&fI 1 r.as.length)=ak:=by kernel_rfl
abbrev Mv(n:ae):af kP:=fk.filter λr=>cf r.as.length n
abbrev tV(ws:af ar):Prop:=((Mv ws.length).map λr=>bindArgs r.fd ⟨ws,[]⟩)=(Mv ws.length).map λr=>br ((r.as.map (·.arg)).zip ws)
theorem Zj(a:ar):tV [a]:=by kernel_rfl
theorem Zk(a b:ar):tV [a,b]:=by kernel_rfl
theorem Zl(a b c:ar):tV [a,b,c]:=by kernel_rfl
theorem Zm(a b c d:ar):tV [a,b,c,d]:=by kernel_rfl
theorem Zn(a b c d e:ar):tV [a,b,c,d,e]:=by kernel_rfl
theorem Zo(a b c d e f:ar):tV [a,b,c,d,e,f]:=by kernel_rfl
theorem Zq(ws:af ar)(h:fI ws.length 6=ak)(h1:fI 1 ws.length=ak):tV ws:=by
 rcases ws with _|⟨a,_|⟨b,_|⟨c,_|⟨d,_|⟨e,_|⟨f,_|⟨g,r⟩⟩⟩⟩⟩⟩⟩
 ·cases h1
 ·exact Zj a
 ·exact Zk a b
 ·exact Zl a b c
 ·exact Zm a b c d
 ·exact Zn a b c d e
 ·exact Zo a b c d e f
 ·cases h
theorem MM(K:gZ.In X.h₀){r:kP}(au:r∈fk):qP r where
 at_:=K _ _ (gJ ab9 au)
 data:=gJ ZJ au
 bind:=λws h=>gJ (Zq ws (aD h (aF (lD f_len au)).1) (aD h (aF (lD f_len au)).2)) (rP.mpr ⟨au,aR h (Er _)⟩)
 body:=gJ Zr au
 LU:=gJ ZE au
 globals:=gJ ZV au
 builtins:=gJ Zu au
 code:=eD (gJ ZG au) λo e h=>eD h λvs e2 h=>eD h λv bF h=>(aY2 h).elim λt eO=>⟨_,o,vs,t,gJ ZI au,K _ _ e,aj0 e2,bF.trans (aU ab eO)⟩
 co:=gJ ZF au
 gen:=gJ ZU au
 kind:=gJ Z9 au
 names:=gJ ab8 au
 nodup:=ft (lD ab7 au)
 sorts:=λx aE=>((nH _ _).mp (lD (lD ad0 au) aE)).imp beq_iff_eq.mp beq_iff_eq.mp
 OS:=λx aE=>d6 (lD (lD ZT au) (pE aE))
def sP(P:d5)(x:a5):aw ar:=nsFind ⟨(ents P fN).take 226⟩ x
theorem aC6(P:d5):(KK P).lookup 3=ab (fD (ents P fN) 226 226):=by kernel_rfl
theorem OC{P:d5}{h:bw}(K:(KK P).In h){ja:a5->aw ar}(g:h.Ns x7 ja)(x:a5):ja x=sP P x:=by
 rcases g with⟨o,ao,ep,h1,h2,_,h3⟩
 cases(K _ _ (aC6 P)).symm.trans h1
 cases h2
 exact(h3 x).symm
def H7:ar->aw ae
 | .ref a=>ab a
 |_=>aj
def NR:ar->aw ag
 | .int i _=>ab i
 |_=>aj
def Qp:Data->aw (af ar)
 | .seq vs _=>ab vs.toList
 |_=>aj
theorem PV{v:ar}{x:ae}(h:H7 v=ab x):v=.ref x:=by cases v<;>first|cases h;done|(cases h;rfl)
theorem at6{v:ar}{x:ag}(h:NR v=ab x):∃t,v=.int x t:=by cases v<;>first|cases h;done|(cases h;exact⟨_,aa⟩)
theorem aU7{d:Data}{l:af ar}(h:Qp d=ab l):∃vs n,d=.seq vs n/\vs.toList=l:=by cases d<;>first|cases h;done|(cases h;exact⟨_,_,aa,aa⟩)
mutual
noncomputable def II:V->ar->aB
 | .i i,w=>NR w==ab i
 | .r a,w=>H7 w==ab a
 | .t l,w=>fI l.length bN&&((H7 w).any λa=>(gZ.lookup a).any λo=>(match o.cls with| .type c=>c=="tuple"|_=>av)&&(Qp o.data).any (IV l))
 |_,_=>av
noncomputable def IV:af V->af ar->aB
 |[],ws=>ws.isEmpty
 |v::l,ws=>(ws.head?).any (II v)&&IV l ws.tail
end
theorem yL{α:Type}{o:aw α}{p:α->aB}{C:Prop}(h:o.any p=ak)(k:∀a,o=ab a->p a=ak->C):C:=by
 rcases o with _|a
 ·cases h
 ·exact k a aa h
theorem bb3{v:ar}(h:(match v with| .type c=>c=="tuple"|_=>av)=ak):v=.type "tuple":=by cases v<;>first|cases h;done|exact aU _ (qA h)
mutual
theorem Ra(K:gZ.In X.h₀):∀(v:V){w:ar},II v w=ak->bq X.h₀ v w
 | .n,w,e=>nomatch e
 | .b _,w,e=>nomatch e
 | .s _,w,e=>nomatch e
 | .i i,w,e=>at6 (qA e)
 | .r a,w,e=>PV (qA e)
 | .t l,w,e=>by
  have e:=aF e
  refine yL e.2 λa cg e2=>yL e2 λo aO bF=> ?_
  have bF:=aF bF
  refine yL bF.2 λws hw eO=>(aU7 hw).elim λvs z=>z.elim λn z=> ?_
  exact⟨iz e.1,a,vs,PV cg,⟨o,K _ _ aO,bb3 bF.1,n,z.1⟩,z.2.symm▸Rh K l eO⟩
theorem Rh(K:gZ.In X.h₀):∀(l:af V){ws:af ar},IV l ws=ak->b7 X.h₀ l ws
 |[],ws,e=>Kd.mp e
 |v::l,ws,e=>by
  rcases ws with _|⟨w,r⟩
  ·cases(aF e).1
  ·exact .cons (Ra K v (aF e).1) (Rh K l (aF e).2)
end
def Gf(x:a5):G->aB
 | .fn f=>dy f 108&&(sP fA.w.params x==ab (.ref (p3.getD f 0)))
 | .cls C=>(sP fA.w.params x==ab (.ref (se.getD C 0)))&&(dy C se.length&&keepIn gZ (.ref (se.getD C 0)))
 | .val v=>(sP fA.w.params x).any (II v)
 | .bi _| .src _=>(sP fA.w.params x).isNone&&x != "__name__"
theorem ak2:(hT.all λp=>Gf p.1 p.2)=ak:=by kernel_rfl
def um:G->aw ar
 | .bi b=>ab (Bh b)
 | .src s=>ab (Ih s)
 |_=>aj
theorem ak0:((hT.filter λp=>(um p.2).isSome).map λp=>tB p.1)=(hT.filter λp=>(um p.2).isSome).map λp=>um p.2:=by kernel_rfl
theorem Ze:fk.map (·.addr)=p3:=by kernel_rfl
def Fg:af (ae×ae):=se.zipIdx.map λp=>(p.2,p.1)
def xg:af (ae×ae):=Fg.filter λp=>g8 aZ p.1==ab av
def p6:af (ae×ae):=Fg.filter λp=>g8 aZ p.1==ab ak
theorem LV{C c:ae}(h:uo C=ab c):(C,c)∈Fg:=eS.mpr ⟨(c,C),tO.mpr h,aa⟩
theorem GO{C c:ae}(h:uo C=ab c)(e:g8 aZ C=ab av):(C,c)∈xg:=rP.mpr ⟨LV h,beq_iff_eq.mpr e⟩
theorem Bu{C c:ae}(h:uo C=ab c)(e:g8 aZ C=ab ak):(C,c)∈p6:=rP.mpr ⟨LV h,beq_iff_eq.mpr e⟩
abbrev u4(l:af (ae×ae))(x:ht)(v:aw ar):Prop:=(l.map λp=>kL gZ (.ref p.2) (iM x))=l.map λU=>ab v
theorem as4:u4 xg "__getattribute__" (ab (.builtin "object.__getattribute__")):=by kernel_rfl
theorem as5:u4 xg "__getattr__" aj:=by kernel_rfl
theorem as6:u4 xg "__setattr__" (ab (.builtin "object.__setattr__")):=by kernel_rfl
theorem X2:u4 p6 "__getattribute__" (ab (.builtin "BaseException.__getattribute__")):=by kernel_rfl
theorem X3:u4 p6 "__getattr__" aj:=by kernel_rfl
theorem X4:u4 p6 "__setattr__" (ab (.builtin "object.__setattr__")):=by kernel_rfl
theorem NJ:(xg.all λp=>plainOver gZ p.2&&(DA gZ p.2&&makesIn gZ p.2))=ak:=by kernel_rfl
theorem X1:(p6.all λp=>DA gZ p.2)=ak:=by kernel_rfl
def MI:af (ae×a5):=(se.zip LL).flatMap λp=>p.2.i8.map λf=>(p.1,lP.getD f Ku)
theorem aj2:(MI.map λp=>kL gZ (.ref p.1) p.2)=MI.map λU=>ab aj:=by kernel_rfl
theorem bh8{α β:Type}{l:af α}{m:af β}{i:ae}{a:α}{b:β}(h:l[i]? =ab a)(g:m[i]? =ab b):(a,b)∈l.zip m:=List.mem_of_getElem? (i:=i) (by rw[TF]at|-;exact⟨h,g⟩)
theorem getD_at{α:Type}{l:af α}{i:ae}{a d:α}(h:l[i]? =ab a):l.getD i d=a:=by rw[qH,h]at|-;rfl
theorem MJ{C c:ae}(h:uo C=ab c)(f:ae)(x:a5)(a:(aZ C).any (·.i8.contains f)=ak)(e:lP[f]? =ab x):kL gZ (.ref c) x=ab aj:=
 yL a λk h1 h2=>gJ aj2 (x:=(c,x)) (pM.mpr ⟨(c,k),bh8 h h1,eS.mpr ⟨f,Tu.mp h2,aU _ (getD_at e)⟩⟩)
def B9:af (ae×ae×ae):=se.zipIdx.flatMap λp=>(gB lP.length).filterMap λm=>(vr aZ 8 p.2 m).map λf=>(p.1,m,f)
theorem aB3:(B9.map λp=>kL gZ (.ref p.1) (lP.getD p.2.1 Ku))=B9.map λp=>ab (ab (.ref (p3.getD p.2.2 0))):=by kernel_rfl
theorem aB4:B9.all (λp=>dy p.2.2 108)=ak:=by kernel_rfl
theorem Wb:(p3.map λa=>As gZ (.ref a))=p3.map λU=>ab (.type "function"):=by kernel_rfl
theorem Li:p3.length=108:=by kernel_rfl
theorem bf6:((p6.flatMap λp=>p6.map λq=>(p,q)).map λz=>Dz gZ (.ref z.1.2) (.ref z.2.2))=(p6.flatMap λp=>p6.map λq=>(p,q)).map λz=>ab (zj aZ 8 z.1.1 z.2.1):=by kernel_rfl
def Ci:af (ae×ae):=se.zipIdx.filterMap λp=>(mN aZ 8 p.2).bind λo=>o.map λf=>(p.1,f)
theorem aE3:(Ci.map λp=>kL gZ (.ref p.1) "__init__")=Ci.map λp=>ab (ab (.ref (p3.getD p.2 0))):=by kernel_rfl
theorem aE4:Ci.all (λp=>dy p.2 108)=ak:=by kernel_rfl
def WC:af (ae×ae):=xg.filter λp=>mN aZ 8 p.1==ab aj
theorem aE5:u4 WC "__init__" (ab (.builtin "object.__init__")):=by kernel_rfl
theorem G8{a b:ae}(h:dy a b=ak):a<b:=iz h
theorem Ox{α β:Type}{f:α->β}{o:aw α}{b:β}{C:Prop}(h:o.map f=ab b)(k:∀a,o=ab a->f a=b->C):C:=by
 rcases o with _|a
 ·cases h
 ·exact k a aa (cR h)
theorem F9(K:gZ.In X.h₀){f:ae}(h:dy f 108=ak)(C:Prop)(k:∀r,so f=ab r->r.addr=p3.getD f 0->qP r->As gZ (.ref r.addr)=ab (.type "function")->C):C:=by
 have e:p3[f]? =ab (p3.getD f 0):=by rw[f9 (aD Li.symm (G8 h)),qH,f9 (aD Li.symm (G8 h))]at|-;rfl
 have aq:(fk.map (·.addr))[f]? =_:=aD Ze e
 rw[lV]at aq
 exact Ox aq λr au bF=>k r au bF (MM K (List.mem_of_getElem? au)) (aD bF (gJ Wb (List.mem_of_getElem? e)))
theorem Xo(C:ae)(c:a8)(h:uo C=ab c)(e:g8 aZ C=ab av):KA C c:=
 have m:=GO h e
 have b:=aF (lD NJ m)
 ⟨gJ as4 m,gJ as5 m,gJ as6 m,b.1,(aF b.2).1,MJ h⟩
def X6:qL:=⟨"RuneError","RuneError",37,[.type "Exception"],[.type "Exception",.type "BaseException",.type "object"],ak,[],[.ref 51,.ref 63],av,aj,aj,ab (.ref 22),aj,ab (aM "RuneError" 214),ab (aM "RuneError" 222),ab (.bool ak)⟩
def X7:qL:=⟨"BadKind","BadKind",50,[.ref 38],[.ref 38,.type "Exception",.type "BaseException",.type "object"],ak,[],[],av,aj,aj,ab (.ref 42),aj,ab (aM "BadKind" 245),ab (aM "BadKind" 253),ab (.bool ak)⟩
def X8:qL:=⟨"VerifyFault","VerifyFault",62,[.ref 38],[.ref 38,.type "Exception",.type "BaseException",.type "object"],ak,[],[],av,aj,aj,ab (.ref 54),aj,ab (aM "VerifyFault" 261),ab (aM "VerifyFault" 269),ab (.bool ak)⟩
def tm:af (ae×qL):=[(38,X6),(51,X7),(63,X8)]
theorem bf7:(tm.map λp=>gZ.lookup p.1)=tm.map λp=>ab (p.2.obj p.1):=by kernel_rfl
theorem bf4:(tm.map λp=>(clsIn gZ p.1).map (·.mro))=tm.map λp=>ab (.ref p.1::p.2.bm):=by kernel_rfl
theorem Ru:∀p∈tm,nc p.2.bm:=by
 intro p h
 rcases fS.mp h with e|h
 ·rw[e];exact .nil
 ·rcases fS.mp h with e|h
  ·rw[e];exact .ref .nil
  ·rw[dv.mp h];exact .ref .nil
theorem bf5:p6.map (·.2)=tm.map (·.1):=by kernel_rfl
theorem Me{C c:ae}(h:uo C=ab c)(e:g8 aZ C=ab ak):∃k:qL,(c,k)∈tm:=by
 have m:c∈tm.map (·.1):=aR bf5 (eS.mpr ⟨_,Bu h e,aa⟩)
 rcases eS.mp m with⟨p,a7,z⟩
 exact⟨p.2,aR z a7⟩
theorem Mr:EL:=λC c h e=>by
 have m:=Bu h e
 refine(Me h e).elim λk az=>⟨gJ X2 m,gJ X3 m,gJ X4 m,?_,lD X1 m,MJ h⟩
 exact Ox (gJ bf4 az) λcd h1 h2=>⟨cd,h1,aD h2 (.ref (Ru _ az))⟩
theorem aD1(K:gZ.In X.h₀):K0 where
 inst:=λC c h e=>(aF (aF (lD NJ (GO h e))).2).2
 init:=λC c f h e=>by
  have mem:(c,f)∈Ci:=TN.mpr ⟨(c,C),tO.mpr h,by rw[show mN aZ 8 C=_ from e];rfl⟩
  exact F9 K (lD aE4 mem) _ λr a0 bX U xt=>⟨r,a0,bX.symm▸gJ aE3 mem,xt⟩
 bare:=λC c h aq e2=>gJ aE5 (rP.mpr ⟨GO h aq,beq_iff_eq.mpr e2⟩)
 exc:=λC c h e=>(Me h e).elim λk az=>⟨k,K _ _ (gJ bf7 az),Ru _ az⟩
def ah7(d:bL)(r:kP):aB:=cf r.as.length d.np&&(cf r.names.length d.nl&&p5 r.names r.fd.scope.names d.body r.body)
theorem ah8:((HX.zip fk).all λp=>ah7 p.1 p.2)=ak:=by kernel_rfl
theorem aJ5:HX.length=fk.length:=by kernel_rfl
theorem zip_get{α β:Type}{l:af α}{m:af β}{i:ae}{a:α}{b:β}(h:l[i]? =ab a)(g:m[i]? =ab b):(a,b)∈l.zip m:=List.mem_of_getElem? (i:=i) (by rw[TF]at|-;exact⟨h,g⟩)
theorem Ot{α:Type}{l:af α}{i:ae}{a:α}(h:l[i]? =ab a):i<l.length:=(mr.mp h).1
theorem ah9(K:gZ.In X.h₀)(f:ae)(d:bL)(h:PP f=ab d):KV f d:=λU k=>by
 have e2:=f9 (l:=fk) (aR aJ5 (Ot h))
 have e:=aF (lD ah8 (zip_get h e2))
 have q:=aF e.2
 exact k _ e2 (MM K (List.mem_of_getElem? e2)) (AR e.1) (AR q.1) q.2
theorem BJ{x:a5}{v:G}(h:hT.lookup x=ab v):Gf x v=ak:=lD ak2 (pE h)
theorem ak1{x:a5}{v:G}(h:hT.lookup x=ab v)(z:(um v).isSome=ak):tB x=um v:=gJ ak0 (rP.mpr ⟨pE h,z⟩)
theorem ak6{l:af ae}{i:ae}(h:i<l.length):l[i]? =ab (l.getD i 0):=by rw[qH,f9 h]at|-;rfl
section
variable(g:Given fA)
include g
theorem x_ok:X.Ok:=⟨g.g,g.b,g.nl,g.cq,ft (by kernel_rfl),g.k,Xo⟩
theorem BK(x:a5):X.ja x=sP fA.w.params x:=OC g.k g.g x
theorem M1{x:a5}{v:G}(h:hT.lookup x=ab v)(z:(um v).isSome=ak)(k:Gf x v=((sP fA.w.params x).isNone&&x != "__name__")):X.ja x=aj/\tB x=um v/\x≠"__name__":=
 have e:=aF (aR k (BJ h))
 ⟨(BK g x).trans (Uo.mp e.1),ak1 h z,bne_iff_ne.mp e.2⟩
theorem aj7:yB where
 ok:=x_ok g
 fns:=λx f h C k=>have e:=aF (BJ h);F9 g.k e.1 C λr a0 bX g' U=>k r a0 ((BK g x).trans ((qA e.2).trans (aR bX aa))) g'
 cls:=λx D h C k=>have e:=aF (BJ h);have q:=aF e.2;k _ (ak6 (G8 q.1)) ((BK g x).trans (qA e.1)) q.2
 val:=λx v h C k=>yL (BJ h) λw aq e2=>k w ((BK g x).trans aq) (Ra g.k v e2)
 bi:=λx b h=>M1 g h aa rfl
 src:=λx b h=>M1 g h aa rfl
 mR:=λD c m x f aK hm aS C k=>by
  have mem:(c,m,f)∈B9:=pM.mpr ⟨(c,D),tO.mpr aK,TN.mpr ⟨m,pN.mpr (Ot aS),aU (oE _) hm⟩⟩
  have q:=gJ aB3 mem
  exact F9 g.k (lD aB4 mem) C λr a0 bX g' xt=>k r a0 g' (bX.symm▸(getD_at aS:lP.getD m Ku=x)▸q) xt
 own:=⟨by kernel_rfl,by kernel_rfl,by kernel_rfl,by kernel_rfl⟩
 RA:=bg2 (x_ok g) Mr
 xs:=bg4 (x_ok g) Mr
 made:=aB6 (x_ok g) (aD1 g.k)
 sp:=aW4
 FA:=λC c D d h1 h2 h3 cQ=>gJ bf6 (x:=((C,c),(D,d))) (pM.mpr ⟨_,Bu h1 h2,eS.mpr ⟨_,Bu h3 cQ,aa⟩⟩)
end
def XX:af (ae×ae×ae×ae):=[(0,279,20,339),(1,281,9,340),(2,283,10,341),(3,285,11,342),(4,287,12,343),(5,289,13,344),(6,291,14,345),(7,293,15,346),(8,295,16,347),(9,297,17,348),(10,299,18,349),(11,301,19,350),(12,303,1,351),(13,305,4,352)]
def XY:af (ae×ae×ae×ae):=[(20,368,0,279),(9,369,1,281),(10,370,2,283),(11,371,3,285),(12,372,4,287),(13,373,5,289),(14,374,6,291),(15,375,7,293),(16,376,8,295),(17,377,9,297),(18,378,10,299),(19,379,11,301),(1,380,12,303),(4,381,13,305)]
def L5(l:af (ae×ae×ae×ae))(n:ae):bj:={cls:=.type "dict",data:=.dict ⟨l.map λx=>{hash:=x.1,key:=.int x.1 x.2.1,val:=.int x.2.2.1 x.2.2.2}⟩ n}
def ur(l:af (ae×ae×ae×ae)):af (ag×V):=l.map λx=>(x.1,.i x.2.2.1)
def yZ:af (ae×af (ae×ae×ae×ae)×ae):=[(66,XX,14),(67,XY,14),(257,Md,126)]
theorem L6:(yZ.map λp=>gZ.lookup p.1)=yZ.map λp=>ab (L5 p.2.1 p.2.2):=by kernel_rfl
def L7(l:af (ae×ae×ae×ae)):aB:=(l.all λx=>hashInt x.1==x.1)&&decide ((l.map (·.1)).Nodup)&&fI l.length bN
theorem XE:(yZ.all λp=>L7 p.2.1&& !(p.1==pH))=ak:=by kernel_rfl
theorem XI(l:af (ae×ae×ae×ae)):Pairs iS (l.map λx=>{hash:=x.1,key:=.int x.1 x.2.1,val:=.int x.2.2.1 x.2.2.2}) (l.map λx=>((x.1:Int),.int x.2.2.1 x.2.2.2)):=by
 induction l with
 |nil=>exact .nil
 |cons x l aI=>exact .cons (jG _) aa aI
theorem XK{h:bw}(l:af (ae×ae×ae×ae)):fV Ad h (ur l) (l.map λx=>((x.1:Int),.int x.2.2.1 x.2.2.2)):=by
 unfold ur
 induction l with
 |nil=>exact .nil
 |cons x l aI=>exact .cons aa ⟨_,aa⟩ aI
theorem XJ{B:bo}{h:bw}{ρ:fX}{l:af (ae×ae×ae×ae)}{n a:ae}(az:L7 l=ak)(cg:(a==pH)=av)(dt:B.old a)(e:h.get? a=ab (L5 l n)):kR B h ρ a ⟨0,.d (ur l)⟩:=by
 have q:=aF az
 have bT:=aF q.1
 refine⟨λz=>aV rfl z,λU=>dt,λU k=>k (l.map λx=>((x.1:Int),.int x.2.2.1 x.2.2.2)) cg (by rw[ur,cN];exact iz q.2) ⟨_,_,n,e,⟨aa,aa,aa⟩,aa,λcU Gw=> ?_,?_,?_⟩ ?_⟩
 ·rcases eS.mp (SH.mp Gw)with⟨x,aE,z⟩
  exact⟨x.1,aR z (jG _),aR z (qA (lD bT.1 aE)).symm⟩
 ·exact XI l
 ·rw[nJ]
  exact Kh.mpr ((Kh.mp (ft bT.2)).imp λne e=>ne (lx e))
 ·exact XK l
def Nf:af (ae×O):=yZ.map λp=>(p.1,⟨0,.d (ur p.2.1)⟩)
def dU:H:=λa=>Nf.lookup a
def h0(p:ae)(zs:af ag):H:=aC dU p ⟨0,.l (aL zs)⟩
theorem Rn{P:d5}{h:bw}:∀{zs:af ag}{vs:af ar},WellAll P h vs (ofPys (zs.map .int))->b7 h (aL zs) vs
 |[],vs,w=>by cases w;exact aa
 |z::zs,vs,w=>by
  cases(w)with
  |cons a b=>cases(a)with
   |int i t=>exact⟨_,_,aa,⟨_,aa⟩,Rn b⟩
theorem Ro{P:d5}{h:bw}{p:a8}{zs:af ag}(w:Well P h (.ref p) (ofPy (.list (zs.map .int)))):∃vs:af ar,h.get? p=ab {cls:=.type "list",data:=.seq vs.toArray}/\b7 h (aL zs) vs:=by
 cases(w)with
 |list a b=>exact⟨_,a,Rn b⟩
def wH:Prop:=∀(p:ae)(zs:af ag),dU p=aj->zs.length<=63->dQ aZ PP aj 170 107 [.r p] (h0 p zs) (λv U=>v=.b ak) (λU U=>dg)
def Fd(p:ae):bo where
 f:=X.h₀.get?
 old:=λa=>∃o,X.h₀.get? a=ab o
 base:=λU h=>h
 h0:=λU U e=>e
theorem az7{β:Type}{l:af (ae×β)}{a:ae}{b:β}(h:l.lookup a=ab b):(a,b)∈l:=by
 induction l with
 |nil=>cases h
 |cons x r aI=>
  rcases x with⟨k,v⟩
  rw[tL]at h
  by_cases z:a=k
  ·rw[z,jG]at h;rw[z,←cR h];exact dI
  ·rw[beq_false_of_ne z]at h;exact iL _ (aI h)
theorem dA_mem{a:ae}{o:O}(h:dU a=ab o):∃p∈yZ,p.1=a/\o=⟨0,.d (ur p.2.1)⟩:=by
 have m:(a,o)∈Nf:=az7 h
 rcases eS.mp m with⟨p,a7,e⟩
 exact⟨p,a7,aU rS e,(aU nP e).symm⟩
theorem aV4(g:Given fA)(vs:af ar)(a7:X.h₀.get? fA.p=ab {cls:=.type "list",data:=.seq vs.toArray})(au:b7 X.h₀ (aL fA.zs) vs):et (Fd fA.p) [] (h0 fA.p fA.zs) (λU=>aj) X.h₀ where
 keep:=λU U e=>e
 old:=λU U U=>aa
 k7:=λU h=>nomatch h
 objs:=λa o e=>(vT e).elim (λz=>by
  rw[z.1,z.2]
  exact⟨λz=>aV rfl z,λU=>⟨_,a7⟩,λU k=>k vs.toArray 0 (by rw[xi];exact aX g.len ai) a7 au⟩) λz=>(dA_mem z.2).elim λq h=>by
  have k:=aF (lD XE h.1)
  have e:=g.k _ _ (gJ L6 h.1)
  rw[h.2.2,←h.2.1]
  exact XJ k.1 (Hj k.2) ⟨_,e⟩ e
 ff:=trivial
theorem an2(g:Given fA)(vs:af ar)(a7:X.h₀.get? fA.p=ab {cls:=.type "list",data:=.seq vs.toArray}):dU fA.p=aj:=mS (P:=dg) (β:=h8) (λo e=>(dA_mem e).elim λq h=>by
 have e:=g.k _ _ (gJ L6 h.1)
 rw[h.2.1]at e
 exact XR (aU Obj.cls (cR (e.symm.trans a7)))) id
where XR:tU "dict"≠.type "list":=λh=>aV (wC h) ai
theorem ai3(spec:wH)(g:Given fA):Goal fA:=by
 rcases Ro g.wl with⟨vs,a7,au⟩
 have S:aY (Fd fA.p) [] (h0 fA.p fA.zs) fA.s:=eu.sim ⟨aV4 g vs a7 au,aa,g.gens⟩
 rcases be1 (aj7 g) (ah9 g.k) 170 aj ⟨Fd fA.p,[],Jg⟩ 107 [.r fA.p] [.ref fA.p] _ _ _ _ (spec _ _ (an2 g vs a7) g.len) ⟨aa,aa,by decide+kernel,by decide+kernel⟩ S (.cons aa .nil)with⟨r,e,_,h⟩
 have aq:r.addr=1273:=by
  have q:(so 107).map (·.addr)=ab 1273:=by kernel_rfl
  rw[e]at q
  exact cR q
 rw[aq]at h
 refine dH h.Rq (λv s' z=>z _ λu σ r S ev q=>S _ λρ S=>⟨?_,S.h.keep,S.os,S.gens⟩) λx s z=>z _ λe m a b d=>d _ λU U U U U U U U U U U U q=>q
 rw[q]at r
 exact r
theorem ai4(spec:wH)(x:wO)(g:Given x):Goal x:=aH9 (ai3 spec) x g
section
open PySem.W.X
theorem aC7(P:d5):sP P (iM "law")=ab (.ref 1273):=by kernel_rfl
theorem L4:(defOf fm (iM "law")).isSome=ak:=by kernel_rfl
def n3:DefRec×af (a5×Expr):=(defOf fm (iM "law")).get L4
theorem XF:defOf fm (iM "law")=ab (n3.1,n3.2):=(Option.some_get L4).symm
theorem XG:b8.theDef (iM "law")=ab (n3.1.params,n3.1.body,n3.1.scope):=by kernel_rfl
theorem XH:kwWritten? n3.1.params.kwonlyargs n3.1.params.kw_defaults=ab n3.2:=by kernel_rfl
abbrev P8:=EC.row
theorem ay3(spec:wH){w:cG}{s₀ dW:bS}{ja mQ:a5->aw ar}{jS p:a8}{zs:af ag}{XP:(a5->aw ar)->bw->Prop}{R:WRecords}(G:Ground fm ma R XP w s₀ ja mQ dW.heap)(cE:dW.gens=#[])(A6:(KK w.params).In dW.heap)
  (hm:ja (iM "law")=ab (.ref jS))(wl:Well w.params dW.heap (.ref p) (ofPy (.list (zs.map .int))))(cV:zs.length<=63):
  bg (model b8 w) Jg (hq (.ref jS) [.ref p]) (λv s'=>v=.bool ak/\OldK dW.heap s'.heap/\s'.os=dW.os/\AllBare s'.gens) (λU U=>dg) dW:=by
 have a7:(p==pH)=av:=by
  rcases e:p==pH with _|_
  ·rfl
  ·rcases(G.T.seer (by decide+kernel)).mods with⟨OF,⟨o,ao,ep,h1,h2,_⟩,_⟩
   rcases Ro wl with⟨vs,a,_⟩
   rw[qA e]at a
   cases h1.symm.trans a
   cases h2
 have e:jS=1273:=Kx (cR (hm.symm.trans ((OC A6 G.T.g _).trans (aC7 _))))
 rw[e]
 exact dH (ai4 spec ⟨w,dW,ja,mQ,p,zs⟩ ⟨A6,G.T.g,G.T.b,G.T.nolimit,G.T.builtins,cE,wl,cV,a7⟩) (λv s' q=>⟨q.1,.of_keep q.2.1,q.2.2.1,.of_eq q.2.2.2⟩) λU U h=>h.elim
theorem bd7(spec:wH):WalkO fm ma (λU U=>gN) (DB KK r0 wG).says P8.toRowW n3.1 n3.2 λf vs=>Uy f vs:=by
 intro w s₀ dW ja mQ G Y jS o pm cd doc ur kV aO hd Gr c8 Nx cE args vals as GC aq1 aq9 ar7 aq2
 have A6:=kIn_of Y
 have aq3:ja (iM "law")=ab (.ref jS):=Nx
 clear hd aO Gr c8 Nx
 wrow_args GC aq1 aq9 ar7 aq2
 rename Well _ _ _ _=>wl
 exact dH (ay3 spec (w:=w) (s₀:=s₀) (XP:=λU U=>gN) (R:=P8.records) G cE A6 aq3 wl (by lia)) (λv s' q=>⟨.inl ⟨v,.bool ak,[],aa,λU=>aa,q.1▸.bool ak,(by wrow_post),λU=>⟨.nil,nofun⟩⟩,q.2⟩) λU U h=>h.elim
abbrev lw:=EC
theorem be2:namesResolve b8=ak:=by kernel_rfl
theorem be4:(["vars","dir","locals"]:af a5).filter (readsOut b8 b8.main.body)=[]:=by kernel_rfl
theorem be5:noRoadLSs {strict:= !(importedModules b8.main.body).all cThrough.contains,foot:=aj,bare:=[]} b8.main.body=ak:=by kernel_rfl
theorem be6:namesMeet b8 b8.main.body (λU n=>attrL n)=ak:=by kernel_rfl
theorem be7:(sreFenced b8.main&&((Sf b8.main.body).isEmpty||lookedIntoSs (Sf b8.main.body) b8.main.body))=ak:=by kernel_rfl
theorem be8:(b8.boundNames.all (λn=> !worldNames.contains n))=ak:=by kernel_rfl
theorem be9:looksOpen lw.row.prog=ak:=by
 show(_&&_&&_&&noRoadLSs {strict:=_,foot:=aj,bare:=(["vars","dir","locals"]:af a5).filter (readsOut b8 b8.main.body)} b8.main.body&&_)=ak
 rw[be4]
 exact i1 (i1 (i1 (i1 be7 be2) be8) be5) be6
theorem bf0:lw.row.wellSaid=ak:=by
 show(_&&_&&_&&_&&_&&_&&_&&_&&_&&_&&_&&_&&_&&_&&_&&_)=ak
 iterate 15 refine i1 ?_ (by kernel_rfl)
 exact be9
theorem bf1:lw.bound'.all (λn=> !builtinNamed n||lw.about==[n]|| !lw.reads n)=ak:=by kernel_rfl
theorem be3:namesMeet lw.prog lw.above (λU n=> !lw.own.contains n)=ak:=by kernel_rfl
theorem aT3:lw.wellSaid=ak:=by
 show(_&&_&&_&&_&&_&&_&&_&&_&&_&&_&&_&&_&&_&&_&&_&&_&&_&&_&&_)=ak
 exact i1 (i1 (i1 (i1 (i1 (i1 (i1 (i1 (i1 (i1 (i1 (i1 (i1 (i1 (i1 (i1 (i1 (i1 (bf0) (by kernel_rfl)) (by kernel_rfl)) (by kernel_rfl)) (by kernel_rfl)) (by kernel_rfl)) (by kernel_rfl)) (by kernel_rfl)) (by kernel_rfl)) (by kernel_rfl)) (bf1)) (by kernel_rfl)) (by kernel_rfl)) (by kernel_rfl)) (by kernel_rfl)) (by kernel_rfl)) (by kernel_rfl)) (be3)) (by kernel_rfl)
theorem joined(spec:wH):EC.Holds:=by
 refine holds_law aT3 λaT2=> ?_
 refine holds_open (q:=fm) (loose:=ma) (Xt:=λU=>ak) (XP:=λU U=>gN) (YP:=(DB KK r0 wG).says) (d:=n3.1) (kwd:=n3.2) az2 (DB KK r0 wG).of (DB KK r0 wG).keeps (λU U=>trivial) (λU U U U U=>trivial) XF XG XH (λs U=>recFacts_nil (by rfl)) (by rfl) aT2 (by decide+kernel) ⟨aa,aa,aa,aa,aa,by decide+kernel⟩ ?hw (bd7 spec)
 case hw=>w_witness2
end
abbrev W(n:ae):cy:=dQ aZ PP aj n
abbrev EH(σ:H)(f:ae)(v u:V):Prop:=∀Q:V->Prop,Q u->Di σ f Q v
abbrev AY(σ:H)(v i u:V):Prop:=∀Q:V->Prop,Q u->vU σ Q v i
abbrev eA(F:cy)(σ:H)(f:ae)(l:af V)(v:V):Prop:=∀(Q:bQ)(E:bR),Q v σ->F f l σ Q E
def R(F:cy)(hd:aw ae)(σ:H)(lm:bf)(e:aW)(v:V):Prop:=∀(Q:bQ)(X:bR),Q v σ->vE aZ F hd lm e σ Q X
def Rs(F:cy)(hd:aw ae)(σ:H)(lm:bf)(ao:af aW)(l:af V):Prop:=∀(Q:af V->dn)(X:bR),Q l σ->h4 aZ F hd lm ao σ Q X
def Ext(σ ah:H):Prop:=∀a o,σ a=ab o->ah a=ab o
abbrev kk(F:cy)(σ:H)(f:ae)(l:af V)(v:V):Prop:=∀(Q:bQ)(E:bR),(∀ah,Ext σ ah->Q v ah)->F f l σ Q E
abbrev N(F:cy)(hd:aw ae)(σ:H)(lm:bf)(e:aW)(d:dN):Prop:=∀(Q:bQ)(X:bR),vNew d σ Q->vE aZ F hd lm e σ Q X
def vj:aW->aB
 | .l n=>cf n 0
 |_=>av
theorem NU{e:aW}(h:vj e=ak):e=.l 0:=by
 cases e
 case l n=>rw[AR h]
 all_goals cases h
def pB(x y:ag):m6->aw V
 | .a=>ab (.i (x+y))
 | .s=>ab (.i (x - y))
 |_=>aj
def lN:aw V->aw (af V)->aw (af V)
 |some v,ab l=>ab (v::l)
 |_,_=>aj
theorem aH1{a:aw V}{b:aw (af V)}{l:af V}{P:Prop}(h:lN a b=ab l)(k:∀v m,a=ab v->b=ab m->l=v::m->P):P:=by
 rcases a with _|v
 ·cases h
 ·rcases b with _|m
  ·cases h
  ·exact k v m aa rfl (cR h).symm
mutual
noncomputable def iV(σ:H)(fs ds:af (ae×V))(lm:bf):aW->aw V
 | .n=>ab .n
 | .b b=>ab (.b b)
 | .i i=>ab (.i i)
 | .g i=>ab (.i (-i))
 | .s n=>ab (.s n)
 | .c v=>ab v
 | .l n=>lm.get n
 | .N e=>((iV σ fs ds lm e).bind V.ui).map λb=>.b (!b)
 | .A a b=>((iV σ fs ds lm a).bind V.ui).bind λx=>((iV σ fs ds lm b).bind V.ui).map λy=>.b (x&&y)
 | .O a b=>((iV σ fs ds lm a).bind V.ui).bind λx=>((iV σ fs ds lm b).bind V.ui).map λy=>.b (x||y)
 | .o op a b=>((iV σ fs ds lm a).bind V.n0).bind λx=>((iV σ fs ds lm b).bind V.n0).bind λy=>pB x y op
 | .p o a b=>(iV σ fs ds lm a).bind λx=>(iV σ fs ds lm b).bind λy=>(j3 σ o x y).map .b
 | .P o p a b c=>(iV σ fs ds lm a).bind λx=>(iV σ fs ds lm b).bind λy=>(iV σ fs ds lm c).bind λz=>(j3 σ o x y).bind λs=>(j3 σ p y z).map λt=>.b (s&&t)
 | .a e f=>aG (vj e) (fM fs f) aj
 | .u a b=>(((iV σ fs ds lm a).bind V.yN).bind λl=>((iV σ fs ds lm b).bind V.n0).bind (k5 l)).or (aG (vj a) (((iV σ fs ds lm b).bind V.wW).bind (fM ds)) aj)
 | .t ao=>(pEs σ fs ds lm ao).bind λl=>aG (fI l.length 64) (ab (.t l)) aj
 |_=>aj
noncomputable def pEs(σ:H)(fs ds:af (ae×V))(lm:bf):af aW->aw (af V)
 |[]=>ab []
 |e::r=>lN (iV σ fs ds lm e) (pEs σ fs ds lm r)
end
def fz(Q:bQ)(X:bR):cT:=⟨λU σ=>Q .n σ,λU U=>dg,Q,λe U σ=>X e σ⟩
def km(S:bf->H->Prop)(k:cT):cT:=⟨S,S,k.r,k.x⟩
def aH(hd:aw ae)(n:ae)(r:af St)(lm:bf)(σ:H)(k:cT):Prop:=mj aZ (dQ aZ PP hd n) (λe=>dQ aZ PP (ab e) n) hd r lm σ k
def cT.on(hd:aw ae)(n:ae)(r:af St)(k:cT):cT:=⟨λlm σ=>aH hd n r lm σ k,k.c,k.r,k.x⟩
section
variable{F:cy}{hd:aw ae}{σ ah hp:H}{lm:bf}{k:cT}{r:af St}{e aq e2 bF:aW}{ao:af aW}{v w x y z u:V}{l:af V}{b cL:aB}{n f p t C m:ae}{d ee:dN}{fs:af (ae×V)}{Q:bQ}{X:bR}{o:O}{a:ae}
theorem Ext.rfl:Ext σ σ:=λU U h=>h
theorem Ext.ay(e:Ext σ ah)(f:Ext ah hp):Ext σ hp:=λa o h=>f a o (e a o h)
theorem bc:aC σ a o a=ab o:=bk rfl
theorem iu{b:ae}(h:b≠a):aC σ a o b=σ b:=bh h
theorem k4{b:ae}(h:σ b=ab o)(na:σ a=aj):b≠a:=λz=>nomatch (z▸h).symm.trans na
theorem fO{b:ae}{p:O}(na:σ a=aj)(h:σ b=ab p):aC σ a o b=ab p:=(iu (k4 h na)).trans h
theorem Ext.new(e:Ext σ ah)(na:σ a=aj):Ext σ (aC ah a o):=λU U h=>(iu (k4 h na)).trans (e _ _ h)
theorem Ext.free(e:Ext σ ah)(na:ah a=aj):σ a=aj:=by
 rcases h:σ a with _|o
 ·rfl
 ·cases(e a o h).symm.trans na
theorem R.ev(h:R F hd σ lm e v)(q:Q v σ):vE aZ F hd lm e σ Q X:=h Q X q
theorem Rs.mM{Q:af V->dn}(h:Rs F hd σ lm ao l)(q:Q l σ):h4 aZ F hd lm ao σ Q X:=h Q X q
theorem R.N:R F hd σ lm .n .n:=λU U q=>q
theorem R.Z:R F hd σ lm (.b b) (.b b):=λU U q=>q
theorem R.i{i:ag}:R F hd σ lm (.i i) (.i i):=λU U q=>q
theorem R.neg{i:ag}:R F hd σ lm (.g i) (.i (-i)):=λU U q=>q
theorem R.s:R F hd σ lm (.s n) (.s n):=λU U q=>q
theorem R.c:R F hd σ lm (.c v) v:=λU U q=>q
theorem R.L(h:lm.get n=ab v):R F hd σ lm (.l n) v:=λU U q=>⟨v,h,q⟩
theorem R.not(h:R F hd σ lm e v)(t:jC σ v=ab b):R F hd σ lm (.N e) (.b (!b)):=λU U q=>h _ _ ⟨b,t,q⟩
theorem R.Lp(h:R F hd σ lm aq v)(t:jC σ v=ab ak)(g:R F hd σ lm e2 w):R F hd σ lm (.A aq e2) w:=λU U q=>h _ _ ⟨ak,t,g _ _ q⟩
theorem R.wR(h:R F hd σ lm aq v)(t:jC σ v=ab av):R F hd σ lm (.A aq e2) v:=λU U q=>h _ _ ⟨av,t,q⟩
theorem R.O2(h:R F hd σ lm aq v)(t:jC σ v=ab av)(g:R F hd σ lm e2 w):R F hd σ lm (.O aq e2) w:=λU U q=>h _ _ ⟨av,t,g _ _ q⟩
theorem R.HU(h:R F hd σ lm aq v)(t:jC σ v=ab ak):R F hd σ lm (.O aq e2) v:=λU U q=>h _ _ ⟨ak,t,q⟩
theorem R.GU(h:R F hd σ lm aq v)(t:jC σ v=ab ak)(g:R F hd σ lm e2 w):R F hd σ lm (.I aq e2 bF) w:=λU U q=>h _ _ ⟨ak,t,g _ _ q⟩
theorem R.GS(h:R F hd σ lm aq v)(t:jC σ v=ab av)(g:R F hd σ lm bF w):R F hd σ lm (.I aq e2 bF) w:=λU U q=>h _ _ ⟨av,t,g _ _ q⟩
theorem R.B{op:m6}(h:R F hd σ lm aq x)(g:R F hd σ lm e2 y)(o:∀Q:bQ,Q z σ->mZ σ Q op x y):R F hd σ lm (.o op aq e2) z:=λU U q=>h _ _ (g _ _ (o _ q))
theorem R.q{op:kO}(h:R F hd σ lm aq x)(g:R F hd σ lm e2 y)(o:j3 σ op x y=ab b):R F hd σ lm (.p op aq e2) (.b b):=λU U q=>h _ _ (g _ _ ⟨b,o,q⟩)
theorem R.Xq{c5 cX:kO}(h:R F hd σ lm aq x)(g:R F hd σ lm e2 y)(j:R F hd σ lm bF z)(o:j3 σ c5 x y=ab b)(p:j3 σ cX y z=ab cL):R F hd σ lm (.P c5 cX aq e2 bF) (.b (b&&cL)):=λU U q=>h _ _ (g _ _ ⟨b,o,by
 cases b
 ·exact q
 ·exact j _ _ ⟨cL,p,q⟩⟩)
theorem R.A(h:R F hd σ lm e v)(o:EH σ f v u):R F hd σ lm (.a e f) u:=λQ U q=>h _ _ (o (λu=>Q u σ) q)
theorem R.bC(h:R F hd σ lm aq v)(g:R F hd σ lm e2 w)(o:AY σ v w u):R F hd σ lm (.u aq e2) u:=λQ U q=>h _ _ (g _ _ (o (λu=>Q u σ) q))
theorem R.aV3(z:hd=.none)(h:R F hd σ lm aq v)(g:R F hd σ lm e2 w)(o:∀Q:bQ,Q u σ->Dk σ Q v w):R F hd σ lm (.F aq e2) u:=λU U q=>⟨z,h _ _ (g _ _ (o _ q))⟩
theorem R.T(h:Rs F hd σ lm ao l)(b:l.length<=bN):R F hd σ lm (.t ao) (.t l):=λU U q=>h _ _ ⟨b,q⟩
theorem R.bi{c:qJ}(z:hd=.none)(h:Rs F hd σ lm ao l)(o:∀Q:bQ,Q v σ->mY σ Q c l):R F hd σ lm (.B c ao) v:=λU U q=>⟨z,h _ _ (o _ q)⟩
theorem R.K(h:Rs F hd σ lm ao l)(c:eA F σ f l v):R F hd σ lm (.f f ao) v:=λU U q=>h _ _ (c _ _ q)
theorem R.mR{m:ae}(h:R F hd σ lm e (.r p))(o:σ p=ab ⟨t,.i C fs⟩)(kC:fM fs m=.none)(mo:vr aZ 8 C m=ab f)(hs:Rs F hd σ lm ao l)(c:eA F σ f (.r p::l) v):R F hd σ lm (.m e m ao) v:=λU U q=>h _ _ (.inst o kC mo (hs _ _ (c _ _ q)))
theorem R.own{m:ae}(h:R F hd σ lm e (.r p))(o:σ p=ab ⟨t,d⟩)(ok:HW d m=ak)(hs:Rs F hd σ lm ao l)(g:∀Q:bQ,Q v σ->rB σ Q p m t d l):R F hd σ lm (.m e m ao) v:=λU U q=>h _ _ (.own o ok (hs _ _ ⟨t,d,o,aa,g _ q⟩))
theorem Rs.N:Rs F hd σ lm [] []:=λU U q=>q
theorem Rs.c(h:R F hd σ lm e v)(g:Rs F hd σ lm ao l):Rs F hd σ lm (e::ao) (v::l):=λU U q=>h _ _ (g _ _ q)
theorem N.L(h:Rs F hd σ lm ao l)(b:l.length<=bN):N F hd σ lm (.L ao) (.l l):=λU U q=>h _ _ ⟨b,q⟩
theorem N.D{kd:tZ}(z:hd=aj)(h:Rs F hd σ lm ao l)(p:putAll l kd.empty=ab d):N F hd σ lm (.D kd ao) d:=λU U q=>⟨z,h _ _ ⟨d,p,q⟩⟩
theorem N.B{c:qJ}(z:hd=aj)(h:Rs F hd σ lm ao l)(o:∀Q:bQ,vNew d σ Q->mY σ Q c l):N F hd σ lm (.B c ao) d:=λU U q=>⟨z,h _ _ (o _ q)⟩
theorem N.add{q u:ae}{m:af V}(h:R F hd σ lm aq (.r p))(g:R F hd σ lm e2 (.r q))(a7:σ p=ab ⟨t,.l l⟩)(b4:σ q=ab ⟨u,.l m⟩)(z:(l++m).length<=bN):N F hd σ lm (.o .a aq e2) (.l (l++m)):=λU U w=>h _ _ (g _ _ (.cat a7 b4 ⟨z,w⟩))
abbrev ck(hd:aw ae)(n:ae):H->bf->aW->V->Prop:=R (dQ aZ PP hd n) hd
abbrev nX(hd:aw ae)(n:ae):H->bf->af aW->af V->Prop:=Rs (dQ aZ PP hd n) hd
abbrev ub(hd:aw ae)(n:ae):H->bf->aW->dN->Prop:=N (dQ aZ PP hd n) hd
theorem c7(h:ck hd n σ lm e v)(q:aH hd n r (lm.set m (ab v)) σ k):aH hd n (.a m e::r) lm σ k:=h _ _ q
theorem kg(t:ae)(aS:t≠0)(h:ub hd n σ lm e d)(q:∀a,σ a=aj->aH hd n r (lm.set m (ab (.r a))) (aC σ a ⟨t,d⟩) k):aH hd n (.a m e::r) lm σ k:=h _ _ λa na=>⟨t,aS,q a na⟩
theorem xF(h:nX hd n σ lm ao l)(c:kk (dQ aZ PP hd n) σ f l v)(q:∀ah,Ext σ ah->aH hd n r (lm.set m (ab v)) ah k):aH hd n (.a m (.f f ao)::r) lm σ k:=h _ _ (c _ _ q)
theorem bP(h:ck hd n σ lm e v)(q:k.r v σ):aH hd n (.r e::r) lm σ k:=h _ _ q
theorem bo6(t:ae)(aS:t≠0)(h:ub hd n σ lm e d)(q:∀a,σ a=aj->k.r (.r a) (aC σ a ⟨t,d⟩)):aH hd n (.r e::r) lm σ k:=h _ _ λa na=>⟨t,aS,q a na⟩
theorem Qj(h:nX hd n σ lm ao l)(c:kk (dQ aZ PP hd n) σ f l v)(q:∀ah,Ext σ ah->k.r v ah):aH hd n (.r (.f f ao)::r) lm σ k:=h _ _ (c _ _ q)
theorem xJ{ns:af ae}(z:hd=aj)(h:ck hd n σ lm e (.t l))(w:l.length=ns.length)(q:aH hd n r (iW lm ns l) σ k):aH hd n (.kh ns e::r) lm σ k:=⟨z,h _ _ ⟨l,aa,w,q⟩⟩
theorem hW{a b:af St}{z:aB}(h:ck hd n σ lm e v)(t:jC σ v=ab z)(bT:z=ak->aH hd n a lm σ (k.on hd n r))(bE:z=av->aH hd n b lm σ (k.on hd n r)):aH hd n (.i e a b::r) lm σ k:=h _ _ ⟨z,t,by
 cases z
 ·exact bE aa
 ·exact bT aa⟩
theorem eR{a:af St}{z:aB}(h:ck hd n σ lm e (.b z))(bT:z=ak->aH hd n a lm σ (k.on hd n r))(bE:z=av->aH hd n r lm σ k):aH hd n (.i e a []::r) lm σ k:=hW h aa bT bE
theorem gV{a b:af St}{z:aB}(h:ck hd n σ lm e (.b z))(c:z=ak)(q:aH hd n a lm σ (k.on hd n r)):aH hd n (.i e a b::r) lm σ k:=hW h aa (λU=>q) λy=>nomatch c.symm.trans y
theorem dV{a:af St}{z:aB}(h:ck hd n σ lm e (.b z))(c:z=av)(q:aH hd n r lm σ k):aH hd n (.i e a []::r) lm σ k:=eR h (λy=>nomatch c.symm.trans y) λU=>q
theorem mh{a:af St}{b:aB}{x y:ag}{Q:bQ}{τ:H}(h:ck hd n σ lm e (.b b))(q:Q (.i (aG b x y)) τ)(bT:b=ak->Q (.i x) τ->aH hd n a lm σ (k.on hd n r))(bE:b=av->Q (.i y) τ->aH hd n r lm σ k):aH hd n (.i e a []::r) lm σ k:=by
 cases b
 ·exact eR h nofun λz=>bE z q
 ·exact eR h (λz=>bT z q) nofun
theorem s7{a:af St}{b x y:aB}{Q:bQ}{τ:H}(h:ck hd n σ lm e (.b b))(q:Q (.b (aG b x y)) τ)(bT:b=ak->Q (.b x) τ->aH hd n a lm σ (k.on hd n r))(bE:b=av->Q (.b y) τ->aH hd n r lm σ k):aH hd n (.i e a []::r) lm σ k:=by
 cases b
 ·exact eR h nofun λz=>bE z q
 ·exact eR h (λz=>bT z q) nofun
theorem la{α:Type}{a:af St}{b:aB}{x y:α}(Q:α->Prop)(h:ck hd n σ lm e v)(t:jC σ v=ab b)(q:Q (aG b x y))(bT:b=ak->Q x->aH hd n a lm σ (k.on hd n r))(bE:b=av->Q y->aH hd n r lm σ k):aH hd n (.i e a []::r) lm σ k:=by
 cases b
 ·exact hW h t nofun λz=>bE z q
 ·exact hW h t (λz=>bT z q) nofun
theorem om(h:ck hd n σ lm e2 v)(g:ck hd n σ lm aq (.r p))(a:σ p=ab ⟨t,.i C fs⟩)(aS:t≠0)(ax:fs.length<bN)(bu:(aZ C).any (·.i8.contains f)=ak)(q:aH hd n r lm (aC σ p ⟨t,.i C (hS fs f v)⟩) k):aH hd n (.A aq f e2::r) lm σ k:=h _ _ (g _ _ (.i a aS ax bu q))
theorem aR6(u:ae)(dm:u≠0)(h:ub hd n σ lm e2 d)(g:∀a,σ a=aj->ck hd n (aC σ a ⟨u,d⟩) lm aq (.r p))(cg:σ p=ab ⟨t,.i C fs⟩)(aS:t≠0)(ax:fs.length<bN)(bu:(aZ C).any (·.i8.contains f)=ak)
  (q:∀a,σ a=aj->aH hd n r lm (aC (aC σ a ⟨u,d⟩) p ⟨t,.i C (hS fs f (.r a))⟩) k):aH hd n (.A aq f e2::r) lm σ k:=h _ _ λa na=>⟨u,dm,g a na _ _ (.i (fO na cg) aS ax bu (q a na))⟩
theorem qt(z:hd=aj)(h:ck hd n σ lm bF v)(g:ck hd n σ lm aq (.r p))(gi:ck hd n σ lm e2 w)(a:σ p=ab ⟨t,d⟩)(L':w1 d w v=ab ee)(aS:t≠0)(q:aH hd n r lm (aC σ p ⟨t,ee⟩) k):aH hd n (.S aq e2 bF::r) lm σ k:=⟨z,h _ _ (g _ _ (gi _ _ (.dict a L' aS q)))⟩
theorem fw(g:ck hd n σ lm aq (.r p))(h:ck hd n σ lm e2 v)(a:σ p=ab ⟨t,.l l⟩)(aS:t≠0)(ax:l.length<bN)(q:aH hd n r lm (aC σ p ⟨t,.l (l++[v])⟩) k):aH hd n (.e (.m aq 0 [e2])::r) lm σ k:=g _ _ (.own a aa (h _ _ ⟨t,_,a,aa,.app aa aS ax q⟩))
theorem aR7{op:m6}{x y:ag}(g:lm.get m=ab (.i x))(h:ck hd n σ lm e (.i y))(o:∀Q:bQ,Q v σ->mZ σ Q op (.i x) (.i y))(q:aH hd n r (lm.set m (ab v)) σ k):aH hd n (.p4 m op e::r) lm σ k:=⟨x,g,h _ _ ⟨y,aa,o (λv σ=>aH hd n r (lm.set m (ab v)) σ k) q⟩⟩
theorem aR9(h:ck hd n σ lm e v)(q:aH hd n r lm σ k):aH hd n (.e e::r) lm σ k:=h _ _ q
theorem Il(h:k.n lm σ):aH hd n [] lm σ k:=h
theorem C3(h:k.c lm σ):aH hd n (.cont::r) lm σ k:=h
theorem C4(h:k.r .n σ):aH hd n (.mg::r) lm σ k:=h
theorem bD{D:bL}{args:af V}(h:PP f=ab D)(l:args.length=D.np)(b:aH hd n D.body (args.map ab++pP (D.nl - D.np) aj) σ (fz Q X)):dQ aZ PP hd (n+1) f args σ Q X:=⟨D,h,l,b⟩
theorem dS(h:σ p=ab ⟨t,.i C fs⟩)(g:fM fs f=ab v):EH σ f (.r p) v:=λU q=>.i h g q
theorem E'{r:nT}(h:σ p=ab ⟨t,.e C fs r⟩)(g:fM fs f=ab v):EH σ f (.r p) v:=λU q=>.e h g q
theorem fG{i:ag}(g:k5 l i=ab v):AY σ (.t l) (.i i) v:=λU q=>.tup g q
theorem fF{i:ag}(h:σ p=ab ⟨t,.l l⟩)(g:k5 l i=ab v):AY σ (.r p) (.i i) v:=λU q=>.list h g q
theorem sub_d(h:σ p=ab ⟨t,d⟩)(g:q9 d w=ab (ab v)):AY σ (.r p) w v:=λU q=>.dict h g q
theorem IA:jC σ (.b b)=ab b:=aa
end
theorem Wg(l:af (ae×V))(k:ae):cw l k=fM l k:=by
 induction l with
 |nil=>rfl
 |cons x l aI=>
  unfold cw at*
  rw[Ee]at|-
  show _=if x.1=k then ab x.2 else fM l k
  by_cases z:x.1=k
  ·rw[bk z,cD z];rfl
  ·rw[bh z,de z];exact aI
section
variable{F:cy}{hd:aw ae}{σ:H}{lm:bf}{fs ds:af (ae×V)}(hf:fs=[]\/∃p t C,lm.get 0=ab (.r p)/\σ p=ab ⟨t,.i C fs⟩)(hs:ds=[]\/∃p t,lm.get 0=ab (.r p)/\σ p=ab ⟨t,.s ds⟩)
include hf hs
mutual
theorem kD:∀(e:aW)(v:V),iV σ fs ds lm e=ab v->R F hd σ lm e v
 | .n,v,h=>aR (cR h) .N
 | .b b,v,h=>aR (cR h) .Z
 | .i i,v,h=>aR (cR h) .i
 | .g i,v,h=>aR (cR h) .neg
 | .s n,v,h=>aR (cR h) .s
 | .c w,v,h=>aR (cR h) .c
 | .l n,v,h=>.L h
 | .N e,v,h=>by
  have h1:=kD e
  exact omap h λx h=>eD h λy aq h=>.not (h1 _ aq) (aD (wV h) aa)
 | .A a b,v,h=>by
  have h1:=kD a
  have h2:=kD b
  refine eD h λx h h'=>eD h λy aq h=>omap h' λz h'=>eD h' λu e2 h'=> ?_
  rw[wV h]at aq
  rw[wV h']at e2
  cases x
  ·exact .wR (h1 _ aq) aa
  ·exact .Lp (h1 _ aq) aa (h2 _ e2)
 | .O a b,v,h=>by
  have h1:=kD a
  have h2:=kD b
  refine eD h λx h h'=>eD h λy aq h=>omap h' λz h'=>eD h' λu e2 h'=> ?_
  rw[wV h]at aq
  rw[wV h']at e2
  cases x
  ·exact .O2 (h1 _ aq) aa (h2 _ e2)
  ·exact .HU (h1 _ aq) aa
 | .o op a b,v,h=>by
  have h1:=kD a
  have h2:=kD b
  refine eD h λx h h'=>eD h λy aq h=>eD h' λz h' h3=>eD h' λu e2 h'=> ?_
  rw[q2 h]at aq
  rw[q2 h']at e2
  refine .B (h1 _ aq) (h2 _ e2) λU q=> ?_
  cases op<;>cases h3
  ·exact .add q
  ·exact .sub q
 | .p o a b,v,h=>by
  have h1:=kD a
  have h2:=kD b
  exact eD h λx aq h=>eD h λy e2 h=>omap h λz bF=>.q (h1 _ aq) (h2 _ e2) bF
 | .P o p a b c,v,h=>by
  have h1:=kD a
  have h2:=kD b
  have h3:=kD c
  exact eD h λx aq h=>eD h λy e2 h=>eD h λz bF h=>eD h λs eO h=>omap h λt e5=>.Xq (h1 _ aq) (h2 _ e2) (h3 _ bF) eO e5
 | .a e f,v,h=>by
  have h:aG (vj e) (fM fs f) aj=ab v:=h
  rcases y:vj e with _|_
  ·rw[y]at h;cases h
  ·rw[y]at h
   rcases hf with z|⟨p,t,C,z,o⟩
   ·rw[z]at h;cases h
   ·exact aD (NU y) (.A (.L z) λU q=>.i o h q)
 | .u a b,v,h=>by
  have h1:=kD a
  have h2:=kD b
  have h:((((iV σ fs ds lm a).bind V.yN).bind λl=>((iV σ fs ds lm b).bind V.n0).bind (k5 l)).or (aG (vj a) (((iV σ fs ds lm b).bind V.wW).bind (fM ds)) aj))=ab v:=h
  rcases Option.or_eq_some_iff.mp h with h|⟨_,h⟩
  ·refine eD h λx h h'=>eD h λy aq h=>eD h' λz h' h3=>eD h' λu e2 h'=> ?_
   rw[Lv h]at aq
   rw[q2 h']at e2
   exact .bC (h1 _ aq) (h2 _ e2) λU q=>.tup h3 q
  ·rcases y:vj a with _|_
   ·rw[y]at h;cases h
   ·rw[y]at h
    refine eD h λx h h'=>eD h λz aq h=> ?_
    rw[yM h]at aq
    rcases hs with z|⟨p,t,z,o⟩
    ·rw[z]at h';cases h'
    ·exact aD (NU y) (.bC (.L z) (h2 _ aq) λU q=>.dict o (aU ab ((Wg ds x).trans h')) q)
 | .t ao,v,h=>by
  have h1:=zR ao
  refine eD h λl aq h=> ?_
  rcases e:fI l.length 64 with _|_
  ·rw[e]at h;cases h
  ·rw[e]at h
   cases h
   exact .T (h1 _ aq) (aX (iz e) ai)
 | .I ..,v,h| .S ..,v,h| .F ..,v,h| .L ..,v,h| .D ..,v,h| .B ..,v,h| .f ..,v,h| .w ..,v,h| .m ..,v,h| .C ..,v,h| .bad,v,h=>nomatch (show aj=ab v from h)
theorem zR:∀(ao:af aW)(l:af V),pEs σ fs ds lm ao=ab l->Rs F hd σ lm ao l
 |[],l,h=>aR (cR h) .N
 |e::r,l,h=>by
  have h1:=kD e
  have h2:=zR r
  exact aH1 h λx m aq e2 e=>aD e (.c (h1 _ aq) (h2 _ e2))
end
end
section
variable{F:cy}{hd:aw ae}{σ:H}{lm:bf}{fs:af (ae×V)}{e:aW}{ao:af aW}{w:V}{l:af V}{a t C:ae}
theorem R.p(h:iV σ [] [] lm e=ab w):R F hd σ lm e w:=kD (.inl aa) (.inl aa) _ _ h
theorem Rs.p(h:pEs σ [] [] lm ao=ab l):Rs F hd σ lm ao l:=zR (.inl aa) (.inl aa) _ _ h
theorem R.v(o:σ a=ab ⟨t,.i C fs⟩)(z:lm.get 0=ab (.r a))(h:iV σ fs [] lm e=ab w):R F hd σ lm e w:=kD (.inr ⟨_,_,_,z,o⟩) (.inl aa) _ _ h
theorem Rs.v(o:σ a=ab ⟨t,.i C fs⟩)(z:lm.get 0=ab (.r a))(h:pEs σ fs [] lm ao=ab l):Rs F hd σ lm ao l:=zR (.inr ⟨_,_,_,z,o⟩) (.inl aa) _ _ h
theorem R.d(o:σ a=ab ⟨t,.s fs⟩)(z:lm.get 0=ab (.r a))(h:iV σ [] fs lm e=ab w):R F hd σ lm e w:=kD (.inl aa) (.inr ⟨_,_,z,o⟩) _ _ h
theorem Rs.d(o:σ a=ab ⟨t,.s fs⟩)(z:lm.get 0=ab (.r a))(h:pEs σ [] fs lm ao=ab l):Rs F hd σ lm ao l:=zR (.inl aa) (.inr ⟨_,_,z,o⟩) _ _ h
end
theorem hC:0<=bN:=ai
theorem ob:1<=bN:=ai
theorem qm:2<=bN:=ai
theorem G6:3<=bN:=ai
theorem e3{n:ae}(h:dy n 1000000=ak):n<bN:=iz h
theorem xk{n m:ae}(h:fI n m=ak):n<=m:=iz h
def Fr(S:ae->aB)(σ ah:H):Prop:=∀a o,σ a=ab o->S o.tag=av->ah a=ab o
abbrev du:ae->aB:=λU=>av
section
variable{F:cy}{hd:aw ae}{σ ah hp:H}{lm:bf}{k:cT}{r B:af St}{e aq e2 bF:aW}{ao:af aW}{v w:V}{l items:af V}{z:aB}{n f p t C a m:ae}{d:dN}{fs:af (ae×V)}{Q:bQ}{X:bR}{o q:O}{S:ae->aB}{x y:ag}{d1:af (ag×V)}
theorem qv{b:ae}(h:σ b=ab o)(h':σ a=ab q)(aS:cf o.tag q.tag=av){x:O}:aC σ a x b=ab o:=(iu λz=>by
 rw[z,h']at h;rw[←cR h,Er]at aS;cases aS).trans h
theorem Fr.rfl:Fr S σ σ:=λU U h U=>h
theorem Fr.ay(e:Fr S σ ah)(f:Fr S ah hp):Fr S σ hp:=λa o h s=>f a o (e a o h s) s
theorem Fr.upd(e:Fr S σ ah)(h:ah a=ab q)(hs:S q.tag=ak):Fr S σ (aC ah a o):=λb x bb s=>(iu λz=>by
 have y:=e b x bb s;rw[z,h]at y;rw[←cR y,hs]at s;cases s).trans (e b x bb s)
theorem Ext.fr(e:Ext σ ah):Fr S σ ah:=λa o h U=>e a o h
theorem ti{x y:O}:aC (aC σ a x) a y=aC σ a y:=by
 funext b;unfold aC;by_cases z:b=a
 ·rw[bk z,bk z]
 ·rw[bh z,bh z,bh z]
theorem aL2{n k:ae}(h:k<n):place n (k:ag)=ab k:=by
 unfold place;rw[bk (mq k),bk (fh.mpr h)];rfl
theorem f5{k:ae}(h:l[k]? =ab v):k5 l (k:ag)=ab v:=by
 unfold k5;rw[aL2 (mr.mp h).1]at|-;exact h
theorem jz(h:σ p=ab ⟨t,.l l⟩):∀Q:bQ,Q (.i l.length) σ->mY σ Q .l [.r p]:=λU q=>.len (o9 h) q
theorem zB(h:xS σ v=ab l):∀Q:bQ,vNew (.l l) σ Q->mY σ Q .L [v]:=λU q=>.list h q
theorem OE(h:σ p=ab ⟨t,.l l⟩):∀Q:bQ,Q (.t l) σ->mY σ Q .t [.r p]:=λU q=>.tuple h q
theorem qj(o:σ p=ab ⟨t,.d d1⟩):j3 σ .m (.i x) (.r p)=ab (cw d1 x).isSome:=by
 show(lst σ p).elim _ _=_
 rw[show lst σ p=aj by unfold lst;rw[o]]
 show((σ p).bind _)=_
 rw[o];rfl
theorem sE(o:σ p=ab ⟨t,.l l⟩):j3 σ .m v (.r p)=m1 σ v l:=by
 show(lst σ p).elim _ _=_;rw[o9 o];rfl
theorem pq(h:d1.length<bN):w1 (.d d1) (.i x) v=ab (.d (dA d1 x v)):=bk h
theorem IB(o:σ p=ab ⟨t,.l l⟩):jC σ (.r p)=ab (!l.isEmpty):=by show(lst σ p).map _=_;rw[o9 o];rfl
theorem R.lO{c:aB}(h:R F hd σ lm aq (.b z))(g:R F hd σ lm e2 (.b c)):R F hd σ lm (.O aq e2) (.b (z||c)):=by
 cases z
 ·exact .O2 h aa g
 ·exact .HU h aa
theorem R.hN{c:aB}(h:R F hd σ lm aq (.b z))(g:R F hd σ lm e2 (.b c)):R F hd σ lm (.A aq e2) (.b (z&&c)):=by
 cases z
 ·exact .wR h aa
 ·exact .Lp h aa g
theorem R.g6(h:R F hd σ lm aq (.i x))(g:R F hd σ lm e2 (.i y)):R F hd σ lm (.p .e aq e2) (.b (decide (x=y))):=.q h g aa
theorem R.og(h:R F hd σ lm aq (.i x))(g:R F hd σ lm e2 (.i y)):R F hd σ lm (.p .n aq e2) (.b (!decide (x=y))):=.q h g aa
theorem R.getD(h1:R F hd σ lm aq (.r p))(o:σ p=ab ⟨t,.d d1⟩)(h2:R F hd σ lm e2 (.i x))(h3:R F hd σ lm bF v):R F hd σ lm (.m aq 3 [e2,bF]) ((cw d1 x).getD v):=.own h1 o aa (.c h2 (.c h3 .N)) λU q=>.Gg aa rfl q
theorem R.u'(h1:R F hd σ lm aq (.r p))(o:σ p=ab ⟨t,.d d1⟩)(h2:R F hd σ lm e2 (.i x))(h3:R F hd σ lm bF v)(e:(cw d1 x).getD v=w):R F hd σ lm (.m aq 3 [e2,bF]) w:=aR e (.getD h1 o h2 h3)
theorem R.get(h1:R F hd σ lm aq (.r p))(o:σ p=ab ⟨t,.d d1⟩)(h2:R F hd σ lm e2 (.i x)):R F hd σ lm (.m aq 3 [e2]) ((cw d1 x).getD .n):=.own h1 o aa (.c h2 .N) λU q=>.get aa rfl q
theorem d0(h:Rs F hd σ lm ao l)(c:F f l σ Q X):vE aZ F hd lm (.f f ao) σ Q X:=h _ _ c
theorem jt(h:R F hd σ lm e (.r p))(o:σ p=ab ⟨t,.i C fs⟩)(kC:fM fs m=aj)(mo:vr aZ 8 C m=ab f)(hs:Rs F hd σ lm ao l)(c:F f (.r p::l) σ Q X):vE aZ F hd lm (.m e m ao) σ Q X:=h _ _ (.inst o kC mo (hs _ _ c))
theorem y4{x:aB}(h:Rs F hd σ lm ao l)(aE:g8 aZ C=ab x)(hi:mN aZ 8 C=ab (ab f))(ax:l.length<=9)(t:ae)(aS:t≠0)(c:∀a,σ a=aj->F f (.r a::l) (aC σ a ⟨t,aG x (.e C [] .made) (.i C [])⟩) (λv ah=>v=.n/\Q (.r a) ah) X):vE aZ F hd lm (.w C ao) σ Q X:=
 h _ _ (.init aE hi ax λa na=>⟨t,aS,c a na⟩)
theorem Yt(aE:g8 aZ C=ab av)(hi:mN aZ 8 C=ab aj)(t:ae)(aS:t≠0)(c:∀a,σ a=aj->Q (.r a) (aC σ a ⟨t,.i C []⟩)):vE aZ F hd lm (.w C []) σ Q X:=Rs.N _ _ (.plain aE hi λa na=>⟨t,aS,c a na⟩)
theorem s_pop(g:ck hd n σ lm e (.r p))(a:σ p=ab ⟨t,.l (l++[v])⟩)(aS:t≠0)(q:aH hd n r (lm.set m (ab v)) (aC σ p ⟨t,.l l⟩) k):aH hd n (.a m (.m e 1 [])::r) lm σ k:=g _ _ (.own a aa ⟨t,_,a,aa,.pop aa aS q⟩)
abbrev gb(F:cy)(hd:aw ae)(σ:H)(lm:bf)(e:aW)(v:V):Prop:=∀(Q:bQ)(X:bR),(∀ah,Ext σ ah->Q v ah)->vE aZ F hd lm e σ Q X
abbrev yI(F:cy)(hd:aw ae)(σ:H)(lm:bf)(ao:af aW)(l:af V):Prop:=∀(Q:af V->dn)(X:bR),(∀ah,Ext σ ah->Q l ah)->h4 aZ F hd lm ao σ Q X
theorem R.up(h:R F hd σ lm e v):gb F hd σ lm e v:=λU U q=>h _ _ (q _ Ext.rfl)
theorem Rs.up(h:Rs F hd σ lm ao l):yI F hd σ lm ao l:=λU U q=>h _ _ (q _ Ext.rfl)
theorem z2(h:gb F hd σ lm e v)(g:∀ah,Ext σ ah->yI F hd ah lm ao l):yI F hd σ lm (e::ao) (v::l):=λU U q=>h _ _ λU x=>g _ x _ _ λU y=>q _ (x.ay y)
theorem sZ(h:yI F hd σ lm ao l)(c:∀ah,Ext σ ah->kk F ah f l v):gb F hd σ lm (.f f ao) v:=λU U q=>h _ _ λU x=>c _ x _ _ λU y=>q _ (x.ay y)
theorem EF{F:cy}(c:eA F σ f l v):kk F σ f l v:=λU U q=>c _ _ (q _ Ext.rfl)
theorem xI(h:gb (dQ aZ PP hd n) hd σ lm e v)(q:∀ah,Ext σ ah->k.r v ah):aH hd n (.r e::r) lm σ k:=h _ _ q
theorem aR3(h:gb (dQ aZ PP hd n) hd σ lm e v)(q:∀ah,Ext σ ah->aH hd n r (lm.set m (ab v)) ah k):aH hd n (.a m e::r) lm σ k:=h _ _ q
theorem iF{α β:Type}{ns:af ae}{src:Src}{over:af aW}{args:af V}{g:H->Prop}{gv:α->V}{its:af α}(vs:α->af V)(L:β->bf)(I:af α->β->H->Prop)(gF:β)(z:hd=aj)(h:nX hd n σ lm over args)
  (sr:∀K,K (its.map gv) g->h5 σ K src args)(u:∀x,lS ns.length (gv x)=ab (vs x))(jv:∀l b σ,I l b σ->g σ)(fj:lm=L gF)(vg:I its gF σ)(done:∀b σ,I [] b σ->aH hd n r (L b) σ k)
  (turn:∀x l b σ,x∈its->I (x::l) b σ->∀K:bf->H->Prop,(∀b σ,I l b σ->K (L b) σ)->aH hd n B (iW (L b) ns (vs x)) σ (km K k)):aH hd n (.dw ns src over B::r) lm σ k:=by
 have go:∀(l:af α)(b:β)(σ:H),(∀x∈l,x∈its)->I l b σ->forM (λx lm σ K=>∃vs,lS ns.length x=ab vs/\aH hd n B (iW lm ns vs) σ (km K k)) g (l.map gv) (L b) σ λlm σ=>aH hd n r lm σ k:=by
  intro l
  induction l with
  |nil=>exactλb σ U i=>⟨jv _ _ _ i,done b σ i⟩
  |cons x l aI=>exactλb σ m i=>⟨jv _ _ _ i,_,u x,turn x l b σ (m x dI) i _ λb σ i=>aI b σ (λx h=>m x (iL _ h)) i⟩
 exact⟨z,h _ _ (.inr (sr _ (aD fj (go its gF σ (λU h=>h) vg))))⟩
theorem xH{α β δ:Type}{ns:af ae}{src:Src}{over:af aW}{args:af V}{g:H->Prop}{gv:α->V}{its:af α}(vs:α->af V)(L:β->bf)(gF:β)(P:δ->Prop)(c:α->δ->δ)(d:δ)(z:hd=aj)(h:nX hd n σ lm over args)
  (sr:∀K,K (its.map gv) g->h5 σ K src args)(jv:g σ)(u:∀x,lS ns.length (gv x)=ab (vs x))(fj:lm=L gF)(q:P (its.foldr c d))(done:∀b,P d->aH hd n r (L b) σ k)
  (turn:∀x y b,x∈its->P (c x y)->∀K:bf->H->Prop,(∀b,P y->K (L b) σ)->aH hd n B (iW (L b) ns (vs x)) σ (km K k)):aH hd n (.dw ns src over B::r) lm σ k:=
 iF vs L (λl U ah=>ah=σ/\P (l.foldr c d)) gF z h sr u (λU U U i=>aD i.1 jv) fj ⟨aa,q⟩ (λb U i=>aD i.1 (done b i.2)) λx U b U m i K bV=>aD i.1 (turn x _ b m i.2 K λb y=>bV b σ ⟨aa,y⟩)
theorem xG{α β:Type}{ns:af ae}{src:Src}{over:af aW}{args:af V}{g:H->Prop}{gv:α->V}{its:af α}{σ0:H}{a t N:ae}(vs:α->af V)(L:β->bf)(gF:β)(f:α->af V){Be:af V}(z:hd=aj)(ex:Ext σ0 σ)(h:nX hd n σ lm over args)
  (sr:∀K,K (its.map gv) g->h5 σ K src args)(jv:∀ah,Ext σ0 ah->g ah)(u:∀x,lS ns.length (gv x)=ab (vs x))(fj:lm=L gF)(o:σ a=ab ⟨t,.l Be⟩)(hf:∀x,(f x).length<=1)(ax:Be.length+its.length<=N)
  (done:∀b ah,Ext σ0 ah->ah a=ab ⟨t,.l (Be++its.flatMap f)⟩->aH hd n r (L b) ah k)
  (turn:∀x b acc ah,x∈its->acc.length<N->Ext σ0 ah->ah a=ab ⟨t,.l acc⟩->∀K:bf->H->Prop,(∀b hp,Ext σ0 hp->hp a=ab ⟨t,.l (acc++f x)⟩->K (L b) hp)->aH hd n B (iW (L b) ns (vs x)) ah (km K k)):aH hd n (.dw ns src over B::r) lm σ k:=by
 refine iF vs L (λl U ah=>Ext σ0 ah/\∃acc,ah a=ab ⟨t,.l acc⟩/\acc++l.flatMap f=Be++its.flatMap f/\acc.length+l.length<=N) gF z h sr u (λU U U i=>jv _ i.1) fj ⟨ex,_,o,aa,ax⟩ (λb ah i=>i.2.elim λacc y=>done b ah i.1 (y.2.1▸((eX acc).symm▸y.1))) λx l b ah m i K bV=>i.2.elim λacc y=> ?_
 refine turn x b acc ah m (fT (wu (oD _)) y.2.2) i.1 y.1 K λb hp ex o=>bV b hp ⟨ex,_,o,?_,?_⟩
 ·rw[fy];exact y.2.1
 ·rw[cK,wt]
  exact aX (gC (aX (nM (hf x) _) (eK (ym 1 l.length))) _) y.2.2
theorem aO1(m:ae):H5 0 m=(gB m).map λj=>.i (j:ae):=by
 have go:∀(c j:ae),me j 1 c=(qy j c).map λj=>.i (j:ae):=λc=>by
  induction c with
  |zero=>exactλU=>aa
  |succ c aI=>exactλj=>aU (_::·) (aI (j+1))
 exact(aU (me 0 1) (show((m:ag) - 0).toNat=m by lia)).trans ((go m 0).trans (by rw[I8]))
theorem aN8(m:ae):PQ ((m:ag) - 1) (-1)=((gB m).reverse).map λj=>.i (j:ae):=by
 have go:∀m:ae,me ((m:ag) - 1) (-1) m=((gB m).reverse).map λj=>.i (j:ae):=λm=>by
  induction m with
  |zero=>rfl
  |succ m aI=>rw[List.range_succ,List.reverse_append];exact congr (aU Ts (aU V.i (by lia))) ((aU (me · (-1) m) (by lia)).trans aI)
 exact(aU (me _ _) (show((m:ag) - 1 - -1).toNat=m by lia)).trans (go m)
theorem tb{m:ae}(h:m<=1000):∀K,K ((gB m).map λj=>.i (j:ae)) (λU=>gN)->h5 σ K .r [.i m]:=λU q=>.aN6 (by have e:(bN:ag)=1000000:=aa;lia) (by have e:(bN:ag)=1000000:=aa;lia) (aD (aO1 m) q)
theorem aW8{m:ae}(h:m<=1000):∀K,K (((gB m).reverse).map λj=>.i (j:ae)) (λU=>gN)->h5 σ K .down [.i ((m:ag) - 1),.i (-1),.i (-1)]:=λU q=>by
 have e:(bN:ag)=1000000:=aa
 exact .down (by lia) (by lia) (by lia) (by lia) (aD (aN8 m) q)
abbrev A2:cy:=λU U U U U=>dg
theorem LX{α:Type}{g:α->V}{its:af α}{Mu:V->af V->H->(af V->H->Prop)->Prop}{gd:H->Prop}{K:af V->H->Prop}{σ0:H}(f:α->aB)(h:α->V)(jv:∀ah,Ext σ0 ah->gd ah):
  ∀(acc:af V)(ah:H),Ext σ0 ah->acc.length+its.length<=bN->(∀x∈its,∀(acc:af V)(ah:H)(K:af V->H->Prop),Ext σ0 ah->acc.length<bN->(∀hp,Ext σ0 hp->K (acc++aG (f x) [h x] []) hp)->Mu (g x) acc ah K)->
   (∀hp,Ext σ0 hp->K (acc++(its.filter f).map h) hp)->yX Mu gd (its.map g) acc ah K:=by
 induction its with
 |nil=>exactλacc ah x U U q=>⟨jv _ x,aR (eX acc:acc++[]=acc) (q _ x)⟩
 |cons y l aI=>
  intro acc ah x ax turn q
  rw[jI]at ax
  refine⟨jv _ x,turn y dI acc ah _ x (fT (wu (oD _)) ax) λa3 bl=>aI _ a3 bl ?_ (λz cV=>turn z (iL _ cV)) ?_⟩
  ·rw[cK]
   refine aX (nM (gC (show _<=1 from ?_) _) _) (aX (eK (yn ..)) ax)
   cases f y
   ·exact eL _
   ·exact da _
  ·rw[wi]at q
   rw[fy]
   rcases e:f y with _|_
   ·rw[e]at q;exact q
   ·rw[e]at q;exact q
abbrev M(F:cy)(hd:aw ae)(σ:H)(lm:bf)(e:aW)(t:ae)(d:dN):Prop:=∀(Q:bQ)(X:bR),(∀a ah,Ext σ ah->ah a=ab ⟨t,d⟩->Q (.r a) ah)->vE aZ F hd lm e σ Q X
theorem N.up(t:ae)(aS:t≠0)(h:N F hd σ lm e d):M F hd σ lm e t d:=λU U q=>h _ _ λa na=>⟨t,aS,q a _ (Ext.rfl.new na) bc⟩
theorem M.comp{α:Type}{nv:ae}{src:Src}{c:aW}{over:af aW}{free:af ae}{args:af V}{gd:H->Prop}{g:α->V}{its:af α}(t:ae)(f:α->aB)(h:α->V)(vs:α->af V)(aS:t≠0)(z:hd=aj)(aO:Rs F hd σ lm over args)(sr:∀K,K (its.map g) gd->h5 σ K src args)(jv:∀ah,Ext σ ah->gd ah)
  (u:∀x,lS nv (g x)=ab (vs x))(ax:its.length<=1000)(turn:∀x∈its,∀ah,Ext σ ah->gb A2 hd ah ((vs x).map ab++free.map lm.get) c (.b (f x))/\(f x=ak->R A2 hd ah ((vs x).map ab++free.map lm.get) e (h x))):
  M F hd σ lm (.C e nv src over [c] free) t (.l ((its.filter f).map h)):=λQ X q=>by
 refine⟨z,aO _ _ (sr _ (LX f h jv [] σ Ext.rfl (aX (eK (iA _)) (aX ax ai)) (λx m acc ah K aM cg bV=>⟨vs x,u x,(turn x m ah aM).1 _ _ λa3 bl=> ?_⟩) λah x a na=>⟨t,aS,q a _ (x.ay (Ext.rfl.new na)) bc⟩))⟩
 have bV:=bV a3 (aM.ay bl)
 refine⟨_,aa,?_⟩
 rcases e:f x with _|_
 ·rw[e]at bV;exact(show K acc a3 from aR (eX acc) bV)
 ·rw[e]at bV;exact(turn x m a3 (aM.ay bl)).2 e _ _ ⟨cg,bV⟩
theorem M.map{α:Type}{nv:ae}{src:Src}{over:af aW}{free:af ae}{args:af V}{gd:H->Prop}{g:α->V}{its:af α}(t:ae)(h:α->V)(vs:α->af V)(aS:t≠0)(z:hd=aj)(aO:Rs F hd σ lm over args)(sr:∀K,K (its.map g) gd->h5 σ K src args)(jv:∀ah,Ext σ ah->gd ah)
  (u:∀x,lS nv (g x)=ab (vs x))(ax:its.length<=1000)(turn:∀x∈its,∀ah,Ext σ ah->R A2 hd ah ((vs x).map ab++free.map lm.get) e (h x)):M F hd σ lm (.C e nv src over [] free) t (.l (its.map h)):=λQ X q=>
 ⟨z,aO _ _ (sr _ (LX (λU=>ak) h jv [] σ Ext.rfl (aX (eK (iA _)) (aX ax ai)) (λx m acc ah K aM cg bV=>⟨vs x,u x,turn x m ah aM _ _ ⟨cg,bV _ aM⟩⟩) λah x a na=>⟨t,aS,q a _ (x.ay (Ext.rfl.new na)) (by
  rw[List.filter_eq_self.mpr (λU U=>aa)];exact bc)⟩))⟩
theorem xE(h:M (dQ aZ PP hd n) hd σ lm e t d)(q:∀a ah,Ext σ ah->ah a=ab ⟨t,d⟩->aH hd n r (lm.set m (ab (.r a))) ah k):aH hd n (.a m e::r) lm σ k:=h _ _ q
def V7{β:Type}(hd:aw ae)(n:ae)(L:β->bf)(I:ae->β->H->Prop)(e:aW)(B r:af St)(k:cT)(m:ae)(b:β)(σ:H):Prop:=
 ∃v t,gb (dQ aZ PP hd n) hd σ (L b) e v/\(∀ah,Ext σ ah->jC ah v=ab t)/\(t=av->∀ah,Ext σ ah->aH hd n r (L b) ah k)/\(t=ak->∀ah,Ext σ ah->∀K:bf->H->Prop,(∀m' b σ,m'<m->I m' b σ->K (L b) σ)->aH hd n B (L b) ah (km K k))
theorem Qm{β:Type}(L:β->bf)(I:ae->β->H->Prop)(m:ae)(gF:β)(z:hd=aj)(fj:lm=L gF)(vg:I m gF σ)(step:∀m b σ,I m b σ->V7 hd n L I e B r k m b σ):aH hd n (.pA e B::r) lm σ k:=by
 have go:∀(N m:ae)(b:β)(σ:H),m<N->I m b σ->Dn (λlm σ K=>vE aZ (dQ aZ PP hd n) hd lm e σ (λv σ=>vIf σ v λr=>K r σ) λa σ=>k.x a lm σ) (λlm σ K=>aH hd n B lm σ (km K k)) N (L b) σ λlm σ=>aH hd n r lm σ k:=by
  intro N
  induction N with
  |zero=>exactλU U U h U=>aV h (yq _)
  |succ N aI=>
   refineλm b σ h i=>(step m b σ i).elim λv y=>y.elim λt y=>y.1 _ _ λah x=>⟨t,y.2.1 _ x,?_⟩
   cases t
   ·exact y.2.2.1 aa _ x
   ·exact y.2.2.2 aa _ x _ λm' b σ h' ky=>aI m' b σ (fT h' (oC h)) ky
 exact⟨z,m+1,aD fj (go _ _ _ _ (kM m) vg)⟩
theorem Qd{mL:nT}(h:ck hd n σ lm e2 v)(g:ck hd n σ lm aq (.r p))(a:σ p=ab ⟨t,.e C fs mL⟩)(aS:t≠0)(ax:fs.length<bN)(bu:(aZ C).any (·.i8.contains f)=ak)(q:aH hd n r lm (aC σ p ⟨t,.e C (hS fs f v) mL⟩) k):aH hd n (.A aq f e2::r) lm σ k:=h _ _ (g _ _ (.e a aS ax bu q))
theorem YA{u w:V}(e9:C=1\/C=2)(aS:t≠0)(q:Q .n (aC σ a ⟨t,.e C [(4,u),(5,w)] .made⟩)):dQ aZ PP hd (n+1) 0 [.r a,u,w] (aC σ a ⟨t,.e C [] .made⟩) Q X:=by
 have f4:(aZ C).any (·.i8.contains 4)=ak:=by rcases e9 with z|z<;>rw[z]<;>rfl
 have e7:(aZ C).any (·.i8.contains 5)=ak:=by rcases e9 with z|z<;>rw[z]<;>rfl
 refine bD (D:=Mz) aa rfl (Qd (.L aa) (.L aa) bc aS (e3 aa) f4 (Qd (.L aa) (.L aa) bc aS (e3 aa) e7 ?_))
 rw[ti,ti]
 exact q
theorem PO{u w:V}(e9:C=1\/C=2)(q:∀a,σ a=aj->rC (aC σ a ⟨1,.e C [(4,u),(5,w)] .made⟩) X hd (.r a)):xR aZ (dQ aZ PP hd (n+1)) C σ (λv σ=>rC σ X hd v) X [u,w]:=by
 have aE:g8 aZ C=ab ak:=by rcases e9 with z|z<;>rw[z]<;>rfl
 have hi:mN aZ 8 C=ab (ab 0):=by rcases e9 with z|z<;>rw[z]<;>rfl
 exact .init aE hi (xk aa) λa na=>⟨1,ai,YA e9 ai ⟨aa,q a na⟩⟩
theorem s8{u w:V}(e9:C=1\/C=2)(h:Rs (W (n+1)) aj σ lm ao [u,w])(q:∀a,σ a=aj->k.x a lm (aC σ a ⟨1,.e C [(4,u),(5,w)] .bare⟩)):aH aj (n+1) (.R C ao::r) lm σ k:=
 ⟨by rcases e9 with z|z<;>rw[z]<;>rfl,h _ _ (PO (X:=λe σ=>k.x e lm σ) e9 λa na=>.top bc ai (by rw[ti];exact q a na))⟩
theorem aS4{u w:V}{c t0 UC:ae}(e9:C=1\/C=2)(he:σ c=ab ⟨t0,.e UC fs .bare⟩)(h:Rs (dQ aZ PP (ab c) (n+1)) (ab c) σ lm ao [u,w])(q:∀a,σ a=aj->k.x a lm (aC σ a ⟨1,.e C [(4,u),(5,w)] .ctx⟩)):aH (ab c) (n+1) (.R C ao::r) lm σ k:=
 ⟨by rcases e9 with z|z<;>rw[z]<;>rfl,h _ _ (PO (X:=λe σ=>k.x e lm σ) e9 λa na=>.ctx bc ai (fO na he) (by rw[ti];exact q a na))⟩
end
structure Cl where
 s:ag
 t0:ag
 t1:ag
 h0:ag
 h1:ag
 x:ag
noncomputable section
def Cl.v(c:Cl):V:=.t [.i c.s,.i c.t0,.i c.t1,.i c.h0,.i c.h1,.i c.x]
structure eo where
 op:ag
 arg:V
def eo.v(c:eo):V:=.t [.i c.op,c.arg]
abbrev aA(a b:ag):aB:=decide (a=b)
def mT(c:Cl)(i:ag):ag:=aG (decide (c.t0<=i)&&decide (i<c.t1)) 0 (aG (decide (c.h0<=i)&&decide (i<c.h1)) 2 (aG (aA c.s 1&&(decide (c.x<=i)&&decide (i<c.h0))) 1 (-1)))
def sX(i:ag)(x:Cl×ae):af (ag×ag):=aG (decide (0<=mT x.1 i)) [((x.2:ag),mT x.1 i)] []
def regionO(cs:af Cl)(i:ag):af (ag×ag):=cs.zipIdx.reverse.flatMap (sX i)
def oW(c:Cl)(p:ag):aB:=aA p 2&&(aA c.s 0||aA c.s 1)
def last(c:Cl)(p:ag):aB:=aA p 2&&(aA c.s 2||aA c.s 4)
def g4(cs:af Cl)(m:ag):Cl:=(cs[m.toNat]?).getD ⟨0,0,0,0,0,0⟩
def y6(cs:af Cl)(pz now:af (ag×ag))(lv:aB):aB:=pz.foldr (λp y=>aG (decide (p∈now)) y (aG (!lv) av (aG (!aA p.2 0&& !oW (g4 cs p.1) p.2) av y))) ak
def y1(cs:af Cl)(pz now:af (ag×ag))(goal:ag):aB:=now.foldr (λp y=>aG (decide (p∈pz)) y (aG (!aA p.2 0|| !aA (g4 cs p.1).t0 goal) av y)) ak
def vq(b:aB):ag:=aG b 1 0
def z8(cs:af Cl)(N:ae)(i goal:ag)(lv:aB):ag:=
 aG (decide (goal<0)||decide ((N:ag)<=goal)) 5 (aG (y6 cs (regionO cs i) (regionO cs goal) lv&&y1 cs (regionO cs i) (regionO cs goal) goal) 0 (aG lv 6 5))
def Cz(cs:af Cl)(l:af (ag×ag)):ag:=l.foldr (λp y=>aG (aA p.2 0) y (aG (oW (g4 cs p.1) p.2) 0 5)) 5
def uw(cs:af Cl)(l:af (ag×ag))(op:ag):ag:=l.getLast?.elim 5 λp=>aG (aA op 220&&last (g4 cs p.1) p.2) 0 (aG (aA op 65041&&aA p.2 1) 0 5)
def standF(cs:af Cl)(op i:ag):ag:=aG (aA op 65050) (Cz cs (regionO cs i).reverse) (aG (aA op 220||aA op 65041) (uw cs (regionO cs i) op) 0)
end
theorem oc{α:Type}{l:af α}{x:α×ae}(h:x∈l.zipIdx):l[x.2]? =ab x.1:=tO.mp h
theorem kS{α:Type}{g:α->V}{l:af α}{j:ae}{x:α}(h:l[j]? =ab x):k5 (l.map g) (j:ag)=ab (g x):=f5 (by rw[lV,h]at|-;rfl)
theorem RI{α:Type}(l:af α):(l.zipIdx.map λx=>V.i (x.2:Nat))=(gB l.length).map λj=>.i (j:ae):=by
 show l.zipIdx.map ((λj:ae=>V.i j)∘nP)=_
 rw[←nJ,List.zipIdx_map_snd,I8]
theorem bh7{α:Type}{g:α->V}(l:af α)(j:ae):w3 j (l.map g)=(l.zipIdx j).map λx=>.t [.i (x.2:ae),g x.1]:=by
 induction l generalizing j with
 |nil=>rfl
 |cons x l aI=>exact aU (_::·) (aI (j+1))
section
variable{hd:aw ae}{σ:H}{lm:bf}{n:ae}{e:aW}{b r:af St}{k:cT}{cs:af Cl}{al ac t:ae}{i goal:ag}{c:Cl}{j m:ae}{l pz now:af (ag×ag)}{p q:ag×ag}{lv:aB}{code:af eo}{op:ag}{α:Type}{g:α->V}{its:af α}
theorem C8(h:its.length<=1000):∀K,K (its.zipIdx.map λx=>V.i (x.2:Nat)) (λU=>gN)->h5 σ K .r [.i its.length]:=λK q=>tb h K (aR (RI its) q)
theorem aX3(h:its.length<=1000):∀K,K (its.zipIdx.reverse.map λx=>V.i (x.2:Nat)) (λU=>gN)->h5 σ K .down [.i ((its.length:ag) - 1),.i (-1),.i (-1)]:=λK q=>aW8 h K (by rw[Kg,←RI its,←Kg];exact q)
theorem QB(h:σ al=ab ⟨t,.l (its.map g)⟩):∀K,K (its.zipIdx.map λx=>.t [.i (x.2:Nat),g x.1]) (λah=>∃t,ah al=ab ⟨t,.l (its.map g)⟩)->h5 σ K .e [.r al]:=λU q=>.enum h (aD (bh7 its 0) q)
theorem kF(h:σ al=ab ⟨t,.l (its.map g)⟩):∀K,K (its.map g) (λah=>∃t,ah al=ab ⟨t,.l (its.map g)⟩)->h5 σ K .i [.r al]:=λU q=>.list h q
theorem tc:∀K,K (its.map g) (λU=>gN)->h5 σ K .i [.t (its.map g)]:=λU q=>.tup q
theorem c4{P:Prop} [Decidable P](h:decide P=ak):P:=ft h
theorem hy{P:Prop} [Decidable P](h:decide P=av):¬ P:=SD h
theorem Rd:fx σ (m+2) (c' p) (c' q)=ab (decide (p=q)):=by
 show ab (decide (p.1=q.1)&&(decide (p.2=q.2)&&ak))=_
 rw[yg,←AE]
 exact aU ab (decide_eq_decide.mpr Ks.symm)
theorem IM{α:Type} [j6 α]{g:α->V}{x:α}(l:af α)(h:∀y,fx σ 8 (g y) (g x)=ab (decide (y=x))):m1 σ (g x) (l.map g)=ab (decide (x∈l)):=by
 induction l with
 |nil=>rfl
 |cons y l aI=>
  show(fx σ 8 (g y) (g x)).bind (λa=>(m1 σ (g x) (l.map g)).map (a||·))=_
  rw[h,aI]
  refine aU ab ((JK ..).symm.trans (decide_eq_decide.mpr ?_))
  rw[fS,JE]
theorem IP:m1 σ (c' p) (l.map c')=ab (decide (p∈l)):=(IM l λU=>Rd).trans (aU ab (decide_eq_decide.mpr JX))
theorem NK{a b:ag}:j3 σ .m (.t [.i a,.i b]) (.t (l.map c'))=ab (decide ((a,b)∈l)):=IP (p:=(a,b))
theorem G9:jC σ (.i (vq lv))=ab lv:=by cases lv<;>rfl
theorem Aj{x:ag}(l:af ag):m1 σ (.i x) (aL l)=ab (decide (x∈l)):=IM (g:=.i) l λU=>aa
theorem sD{x:ag}(l:af ag):j3 σ .m (.i x) (.t (aL l))=ab (decide (x∈l)):=Aj l
theorem clAt_of(h:cs[j]? =ab c):g4 cs (j:ag)=c:=by unfold g4;rw[show((j:ag).toNat)=j from aa,h];rfl
def yD(cs:af Cl)(l:af (ag×ag)):Prop:=∀p∈l,∃j c,p.1=(j:ae)/\cs[j]? =ab c
theorem OA:p∈regionO cs i↔∃x∈cs.zipIdx,0<=mT x.1 i/\p=((x.2:ag),mT x.1 i):=by
 unfold regionO
 rw[pM]
 refine exists_congr λx=>and_congr wo ?_
 unfold sX
 by_cases z:0<=mT x.1 i
 ·rw[cD z];exact dv.trans ⟨λe=>⟨z,e⟩,λy=>y.2⟩
 ·rw[de z];exact⟨nofun,λy=>aV y.1 z⟩
theorem zv:yD cs (regionO cs i):=λp h=>(OA.mp h).elim λx y=>⟨x.2,x.1,aU rS y.2.2,oc y.1⟩
theorem aJ6:eA (W (n+1)) σ 65 [c.v,.i i] (.i (mT c i)):=λU U q=>
 bD aa rfl (xJ aa (.p aa) aa (mh (.p aa) q (λU q=>bP (.p aa) q) λU q=>mh (.p aa) q (λU q=>bP (.p aa) q) λU q=>mh (.p aa) q (λU q=>bP (.p aa) q) λU q=>bP (.p aa) q))
variable(aK:σ al=ab ⟨1,.l (cs.map Cl.v)⟩)
include aK
theorem R.cl{aq e2:aW}{F:cy}(h1:R F hd σ lm aq (.r al))(h2:R F hd σ lm e2 (.i j))(h:cs[j]? =ab c):R F hd σ lm (.u aq e2) c.v:=.bC h1 h2 (fF aK (kS h))
theorem au1:eA (W (n+1)) σ 67 [.r al,.i i] (.b (cs.foldr (λc y=>aG (aA c.t0 i) ak y) av)):=λQ E q=>
 bD aa rfl (xH (λc=>[c.v]) (λx=>[ab (.r al),ab (.i i),x]) aj (λb=>Q (.b b) σ) _ _ aa (.p aa) (kF aK) ⟨_,aK⟩ (λU=>aa) aa q (λU q=>bP (.p aa) q) λU U U U q U bV=>s7 (.p aa) q (λU q=>bP (.p aa) q) λU q=>(bV _ q))
theorem Cx(ax:cs.length<=1000):kk (W (n+2)) σ 66 [.r al,.i i] (.t ((regionO cs i).map c')):=λQ E q=>by
 refine bD aa rfl (kg 16 ai (.L .N hC) λa na=>xG (λx=>[.i (x.2:Nat)]) (λb:aw V×aw V=>[ab (.r al),ab (.i i),ab (.r a),b.1,b.2]) (aj,aj) (λx=>(sX i x).map c') aa (Ext.rfl.new na)
  (.c (.B (.bi aa (.p aa) (jz (fO na aK))) .i λU q=>.sub q) (.p aa)) (by rw[cN];exact aX3 ax) (λU U=>trivial) (λU=>aa) aa bc (λx=> ?_) (eK (iA _)) (λU ah f o=>bP (.bi aa (.p aa) (OE o)) ?_) λx b acc ah m h2 f o K bV=>
   c7 (.K (.c (R.cl (f _ _ aK) (.p aa) (.p aa) (oc (wo.mp m))) (.p aa)) aJ6) (eR (.p aa) (λz=>fw (.p aa) (.p aa) o ai (fT h2 ?_) (bV (_,_) _ (f.new ?_) (bc.trans ?_))) λz=>(bV (_,_) _ f (o.trans ?_))))
 ·unfold sX;cases decide (0<=mT x.1 i)<;>exact iz aa
 ·rw[←Kf];exact q _ f
 ·rw[Em,rO];exact aX ax ai
 ·exact na
 ·unfold sX;rw[show decide (0<=mT x.1 i)=ak from z];rfl
 ·unfold sX;rw[show decide (0<=mT x.1 i)=av from z];exact aU (λl=>ab (O.mk 16 (.l l))) (eX _).symm
omit aK
theorem NX{p:ag}:eA (W (n+1)) σ 68 [c.v,.i p] (.b (oW c p)):=λU U q=>bD aa rfl (bP (.p aa) q)
theorem au4{p:ag}:eA (W (n+2)) σ 69 [c.v,.i p] (.b (last c p)):=λU U q=>bD aa rfl (bP (.hN (.p aa) (.K (.p aa) λU U q=>bD aa rfl (bP (.p aa) q))) q)
include aK
theorem Yf(L:yD cs now):eA (W (n+1)) σ 70 [.r al,.t (pz.map c'),.t (now.map c'),.i goal] (.b (y1 cs pz now goal)):=λQ U q=>
 bD aa rfl (xH (λp=>[.i p.1,.i p.2]) (λb:aw V×aw V=>[ab (.r al),ab (.t (pz.map c')),ab (.t (now.map c')),ab (.i goal),b.1,b.2]) (aj,aj) (λb=>Q (.b b) σ) _ _ aa (.p aa) tc trivial (λU=>aa) aa q (λU q=>bP (.p aa) q) λp U U m q U bV=>
  (L p m).elim λj y=>y.elim λc y=>s7 (.q (.p aa) (.p aa) NK) q (λU q=>C3 (bV (_,_) q)) λU q=>s7 (.lO (.p aa) (.og (.bC (R.cl aK (.p aa) (.p (y.1▸aa)) y.2) .i (fG aa)) (.p aa))) (show Q (.b (aG (!aA p.2 0|| !aA c.t0 goal) av _)) σ from(y.1▸clAt_of y.2)▸q) (λU q=>bP (.p aa) q) λU q=>(bV (_,_) q))
theorem YE(L:yD cs pz):eA (W (n+2)) σ 71 [.r al,.t (pz.map c'),.t (now.map c'),.i (vq lv)] (.b (y6 cs pz now lv)):=λQ U q=>
 bD aa rfl (xH (λp=>[.i p.1,.i p.2]) (λb:aw V×aw V=>[ab (.r al),ab (.t (pz.map c')),ab (.t (now.map c')),ab (.i (vq lv)),b.1,b.2]) (aj,aj) (λb=>Q (.b b) σ) _ _ aa (.p aa) tc trivial (λU=>aa) aa q (λU q=>bP (.p aa) q) λp U U m q U bV=>
  (L p m).elim λj y=>y.elim λc y=>s7 (.q (.p aa) (.p aa) NK) q (λU q=>C3 (bV (_,_) q)) λU q=>s7 (.not (.p aa) G9) q (λU q=>bP (.p aa) q) λU q=>
   s7 (.hN (.p aa) (.not (.K (.c (R.cl aK (.p aa) (.p (y.1▸aa)) y.2) (.p aa)) NX) aa)) (show Q (.b (aG (!aA p.2 0&& !oW c p.2) av _)) σ from(y.1▸clAt_of y.2)▸q) (λU q=>bP (.p aa) q) λU q=>(bV (_,_) q))
variable(az:σ ac=ab ⟨1,.l (code.map eo.v)⟩)(ax:cs.length<=1000)
include ax
theorem av6(az:σ ac=ab ⟨1,.l (code.map eo.v)⟩):kk (W (n+3)) σ 72 [.r ac,.r al,.i i,.i goal,.i (vq lv)] (.i (z8 cs code.length i goal lv)):=λQ E q=>
 bD aa rfl (la (λx=>∀ah,Ext σ ah->Q (.i x) ah) (.lO (.p aa) (.q (.p aa) (.bi aa (.p aa) (jz az)) aa)) aa (show∀ah,Ext σ ah->Q (.i (aG (_||decide (((code.map eo.v).length:ag)<=goal)) _ _)) ah from(cN eo.v).symm▸q) (λU q=>bP (.p aa) (q _ Ext.rfl)) λU q=>xF (.p aa) (Cx aK ax) λaJ aM=>xF (.p aa) (Cx (aM _ _ aK) ax) λa3 bl=>
  have hc':=bl _ _ (aM _ _ aK)
  mh (.hN (.K (.p aa) (YE hc' zv)) (.K (.p aa) (Yf hc' zv))) (q _ (aM.ay bl)) (λU q=>bP (.p aa) q) λU q=>la (λx=>Q (.i x) a3) (.p aa) G9 q (λU q=>bP (.p aa) q) λU q=>bP (.p aa) q)
omit ax
theorem aP0(L:yD cs l):eA (W (n+2)) σ 74 [.r al,.t (l.map c')] (.i (Cz cs l.reverse)):=λQ E q=>
 bD aa rfl (xH (λp=>[.i p.1,.i p.2]) (λb:aw V×aw V=>[ab (.r al),ab (.t (l.map c')),b.1,b.2]) (aj,aj) (λb=>Q (.i b) σ) _ _ aa (.p aa) (λU q=>.rev (aR Kg q)) trivial (λU=>aa) aa q (λU q=>bP (.p aa) q) λp U U m q U bV=>
  (L p (wo.mp m)).elim λj y=>y.elim λc y=>mh (.p aa) q (λU q=>C3 (bV (_,_) q)) λU q=>mh (.K (.c (R.cl aK (.p aa) (.p (y.1▸aa)) y.2) (.p aa)) NX) (show Q (.i (aG (oW c p.2) 0 5)) σ from(y.1▸clAt_of y.2)▸q) (λU q=>bP (.p aa) q) λU q=>bP (.p aa) q)
theorem Yd(L:yD cs l):eA (W (n+3)) σ 75 [.r al,.t (l.map c'),.i op] (.i (uw cs l op)):=λQ E q=>by
 have len:∀{lm:bf}{j:ae},lm.get j=ab (.t (l.map c'))->R (W (n+2)) aj σ lm (.B .l [.l j]) (.i l.length):=λh=>.bi aa (.c (.L h) .N) λQ q=>.len aa ((cN c').symm▸q)
 rcases Ed l with e|⟨l',p,e⟩
 ·rw[e]at q len|-
  exact bD aa rfl (gV (.g6 (len aa) .i) aa (bP (.p aa) q))
 ·rw[e]at q len L|-
  have ax:(l'++[p]).length=l'.length+1:=cK
  rw[uw,AM,List.getLast?_concat]at q
  rw[AM]at len L|-
  refine(L p (lW _ dI)).elim λj y=>y.elim λc y=>bD aa rfl (dV (.g6 (len aa) .i) (de (by lia)) (xJ (l:=[.i p.1,.i p.2]) aa (.bC (.p aa) (.B (len aa) .i λU q=>.sub q) (fG ?_)) aa
   (mh (.hN (.p aa) (.K (.c (R.cl aK (.p aa) (.p (y.1▸aa)) y.2) (.p aa)) au4)) (show Q (.i (aG (aA op 220&&last c p.2) 0 _)) σ from(y.1▸clAt_of y.2)▸q) (λU q=>bP (.p aa) q) λU q=>mh (.p aa) q (λU q=>bP (.p aa) q) λU q=>bP (.p aa) q)))
  rw[ax,show((l'.length+1:ae):ag) - 1=(l'.length:ae) by lia]
  exact kS (Eg ..)
include az ax
theorem aX7{c:eo}(h:code[j]? =ab c)(Gj:aA c.op 42=av):kk (W (n+4)) σ 73 [.r ac,.r al,.i j] (.i (standF cs c.op j)):=λQ E q=>
 bD aa rfl (c7 (.bC (.bC (.p aa) (.p aa) (fF az (kS h))) .i (fG aa)) (dV (.p aa) Gj (la (λx=>∀ah,Ext σ ah->Q (.i x) ah) (.p aa) aa q (λU q=>xI (sZ (z2 (R.up (.p aa)) λU x=>z2 (sZ (Rs.up (.p aa)) λU y=>Cx (y _ _ (x _ _ aK)) ax) λU U=>Rs.up .N) λU x=>EF (aP0 (x _ _ aK) zv)) q) λU q=>la (λx=>∀ah,Ext σ ah->Q (.i x) ah) (.p aa) aa q
  (λU q=>xI (sZ (z2 (R.up (.p aa)) λU x=>z2 (sZ (Rs.up (.p aa)) λU y=>Cx (y _ _ (x _ _ aK)) ax) λU U=>Rs.up (.p aa)) λU x=>EF (Yd (x _ _ aK) zv)) q) λU q=>bP (.p aa) (q _ Ext.rfl))))
variable{ew:ae}(au:σ ew=ab ⟨1,.i 10 [(16,.r al)]⟩)
include au
theorem aO5:kk (W (n+4)) σ 61 [.r ew,.r ac,.i i,.i goal,.i (vq lv)] (.i (z8 cs code.length i goal lv)):=λU U q=>bD aa rfl (Qj (.v au aa rfl) (av6 aK ax az) q)
theorem aO6{c:eo}(h:code[j]? =ab c)(Gj:aA c.op 42=av):kk (W (n+5)) σ 62 [.r ew,.r ac,.i j] (.i (standF cs c.op j)):=λU U q=>bD aa rfl (Qj (.v au aa rfl) (aX7 aK az ax h Gj) q)
omit ax az
theorem aO4:eA (W (n+2)) σ 63 [.r ew,.i i] (.b (cs.foldr (λc y=>aG (aA c.t0 i) ak y) av)):=λU U q=>bD aa rfl (bP (.K (.v au aa rfl) (au1 aK)) q)
end
noncomputable section
def kz(i:ag)(x:Cl×ae):af (ag×ae):=aG (decide (x.1.t0<=i)&&decide (i<x.1.t1)) [((x.2:ag),65)] (aG (decide (x.1.h0<=i)&&decide (i<x.1.h1)) [((x.2:ag),66)] (aG (aA x.1.s 1&&(decide (x.1.x<=i)&&decide (i<x.1.h0))) [((x.2:ag),67)] []))
def iT(cs:af Cl)(i:ag):af (ag×ae):=cs.zipIdx.flatMap (kz i)
def oi(p:ag×ae):V:=.t [.i p.1,.s p.2]
abbrev iP(a b:ae):aB:=decide (a=b)
def zu(cs:af Cl)(p:ag×ae):aB:=iP p.2 65||(iP p.2 66&&decide ((g4 cs p.1).s<2))
def fa(cs:af Cl)(N:ae)(i goal:ag)(lv:aB):ag:=aG (decide ((N:ag)<=goal)) 5
 ((iT cs i).foldr (λp y=>aG (!decide (p∈iT cs goal)&& !(lv&&zu cs p)) (aG lv 6 5) y)
  ((iT cs goal).foldr (λp y=>aG (!decide (p∈iT cs i)&&(!iP p.2 65|| !aA (g4 cs p.1).t0 goal)) (aG lv 6 5) y) 0))
def sH(cs:af Cl)(hi:aB)(l:af (ag×ae)):aB:=l.head?.elim av λp=>iP p.2 66&&aG hi (decide (1<(g4 cs p.1).s)) (decide ((g4 cs p.1).s<2))
def sI(cs:af Cl)(i op:ag):aB:=aG (aA op 220) (sH cs ak (iT cs i)) (sH cs av ((iT cs i).filter λp=> !iP p.2 65))
def B5(ac al dz dJ:ae)(mo kY dF:ag):af (ae×V):=[(4,.r ac),(16,.r al),(69,.r dz),(68,.r dJ),(71,.i mo),(70,.i kY),(72,.i dF)]
end
section
variable{F:cy}{hd:aw ae}{σ:H}{lm:bf}{e aq e2 bF:aW}{ao:af aW}{n p t m:ae}{b c:aB}{v:V}{l:af V}{r:af St}{k:cT}{x y:ag}{a:af St}
theorem IQ{q u:ae}(o:σ p=ab ⟨t,.l l⟩)(di:σ q=ab ⟨u,.l []⟩):fx σ 8 (.r p) (.r q)=ab l.isEmpty:=by
 show((lst σ p).bind λl=>(lst σ q).bind λm=>if l.length=m.length then lT (fx σ 7) l m else ab av)=_
 rw[o9 o,o9 di]
 rcases l with _|⟨_,_⟩
 ·rfl
 ·rfl
theorem eq_nil(h:R F hd σ lm e (.r p))(o:σ p=ab ⟨t,.l l⟩):gb F hd σ lm (.p .e e (.L [])) (.b l.isEmpty):=λU U q=>h _ _ ⟨eL _,λU na=>⟨1,ai,_,IQ (fO na o) bc,q _ (Ext.rfl.new na)⟩⟩
theorem ne_nil(h:R F hd σ lm e (.r p))(o:σ p=ab ⟨t,.l l⟩):gb F hd σ lm (.p .n e (.L [])) (.b !l.isEmpty):=λU U q=>h _ _ ⟨eL _,λU na=>⟨1,ai,_,aU (oE (!·)) (IQ (fO na o) bc),q _ (Ext.rfl.new na)⟩⟩
theorem xC(h:gb F hd σ lm aq (.b b))(g:b=ak->∀ah,Ext σ ah->gb F hd ah lm e2 (.b c)):gb F hd σ lm (.A aq e2) (.b (b&&c)):=λU U q=>h _ _ λah x=>⟨b,aa,by
 cases b
 ·exact q _ x
 ·exact g aa _ x _ _ λU y=>q _ (x.ay y)⟩
theorem xD(h:gb F hd σ lm aq (.b b))(g:b=av->∀ah,Ext σ ah->gb F hd ah lm e2 (.b c)):gb F hd σ lm (.O aq e2) (.b (b||c)):=λU U q=>h _ _ λah x=>⟨b,aa,by
 cases b
 ·exact g aa _ x _ _ λU y=>q _ (x.ay y)
 ·exact q _ x⟩
theorem Qa(h:gb F hd σ lm e (.b b)):gb F hd σ lm (.N e) (.b !b):=λU U q=>h _ _ λU x=>⟨b,aa,q _ x⟩
theorem R.n9(h:R F hd σ lm aq v)(t:jC σ v=ab b)(g:R F hd σ lm e2 (.i x))(j:R F hd σ lm bF (.i y)):R F hd σ lm (.I aq e2 bF) (.i (aG b x y)):=by
 cases b
 ·exact .GS h t j
 ·exact .GU h t g
theorem mi{a c:af St}(h:gb (dQ aZ PP hd n) hd σ lm e v)(t:∀ah,jC ah v=ab b)(bT:b=ak->∀ah,Ext σ ah->aH hd n a lm ah (k.on hd n r))(bE:b=av->∀ah,Ext σ ah->aH hd n c lm ah (k.on hd n r)):aH hd n (.i e a c::r) lm σ k:=h _ _ λah x=>⟨b,t _,by
 cases b
 ·exact bE aa _ x
 ·exact bT aa _ x⟩
theorem Qg{α:Type}{x y:α}(Q:α->Prop)(h:gb (dQ aZ PP hd n) hd σ lm e v)(t:∀ah,jC ah v=ab b)(q:Q (aG b x y))(bT:b=ak->Q x->∀ah,Ext σ ah->aH hd n a lm ah (k.on hd n r))(bE:b=av->Q y->∀ah,Ext σ ah->aH hd n r lm ah k):aH hd n (.i e a []::r) lm σ k:=by
 cases b
 ·exact mi h t nofun λz=>bE z q
 ·exact mi h t (λz=>bT z q) nofun
theorem aT1{ns:af ae}{vs:af V}(z:hd=aj)(g:ck hd n σ lm e (.r p))(a:σ p=ab ⟨t,.l (l++[.t vs])⟩)(aS:t≠0)(w:vs.length=ns.length)(q:aH hd n r (iW lm ns vs) (aC σ p ⟨t,.l l⟩) k):aH hd n (.kh ns (.m e 1 [])::r) lm σ k:=⟨z,g _ _ (.own a aa ⟨t,_,a,aa,.pop aa aS ⟨vs,aa,w,q⟩⟩)⟩
theorem Ql{f:ae}{ns:af ae}(z:hd=aj)(h:nX hd n σ lm ao l)(c:dQ aZ PP hd n f l σ (λv ah=>∃l,v=.t l/\l.length=ns.length/\aH hd n r (iW lm ns l) ah k) λa ah=>k.x a lm ah):aH hd n (.kh ns (.f f ao)::r) lm σ k:=⟨z,h _ _ c⟩
abbrev E0(F:cy)(hd:aw ae)(σ:H)(lm:bf)(e:aW)(T:V->H->Prop):Prop:=∀(Q:bQ)(X:bR),(∀v ah,Ext σ ah->T v ah->Q v ah)->vE aZ F hd lm e σ Q X
theorem C2{T:V->H->Prop}(g:ck hd n σ lm aq (.r p))(h:E0 (dQ aZ PP hd n) hd σ lm e2 T)(a:σ p=ab ⟨t,.l l⟩)(aS:t≠0)(ax:l.length<bN)(q:∀v ah,Ext σ ah->T v ah->aH hd n r lm (aC ah p ⟨t,.l (l++[v])⟩) k):aH hd n (.e (.m aq 0 [e2])::r) lm σ k:=g _ _ (.own a aa (h _ _ λv ah x T=>⟨t,_,x _ _ a,aa,.app aa aS ax (q v ah x T)⟩))
theorem M.slice{s:Bd}(t:ae){u:ae}(aS:t≠0)(z:hd=aj)(h:R F hd σ lm e (.r p))(o:σ p=ab ⟨u,.l l⟩):M F hd σ lm (.S s e) t (.l (ru s l)):=λU U q=>⟨z,h _ _ (.list o λa na=>⟨t,aS,q a _ (Ext.rfl.new na) bc⟩)⟩
theorem M.put{u:ae}(t:ae)(aS:t≠0)(h:R F hd σ lm aq (.r p))(o:σ p=ab ⟨u,.l l⟩)(ax:l.length<bN)(h2:R F hd σ lm e2 v):M F hd σ lm (.o .a aq (.L [e2])) t (.l (l++[v])):=λU U q=>
 h _ _ (h2 _ _ ⟨ob,λb nb=>⟨1,ai,.cat (fO nb o) bc ⟨by rw[cK];exact ax,λa na=>⟨t,aS,q a _ ((Ext.rfl.new nb).ay (Ext.rfl.new na)) bc⟩⟩⟩⟩)
end
section
variable{σ:H}{lm:bf}{n:ae}{cs:af Cl}{al ac dz dJ d t:ae}{i goal mo kY dF:ag}{c:Cl}{j:ae}{lv:aB}{code:af eo}{op:ag}{p q:ag×ae}{l:af (ag×ae)}{Q:bQ}{E:bR}
theorem bd4:fx σ 8 (oi p) (oi q)=ab (decide (p=q)):=by
 show ab (decide (p.1=q.1)&&(decide (p.2=q.2)&&ak))=_
 rw[yg,←AE]
 exact aU ab (decide_eq_decide.mpr Ks.symm)
theorem OT(o:σ t=ab ⟨j,.l (l.map oi)⟩):j3 σ .M (oi p) (.r t)=ab (!decide (p∈l)):=
 aU (oE (!·)) ((sE o).trans ((IM l λU=>bd4).trans (aU ab (decide_eq_decide.mpr JX))))
variable(aK:σ al=ab ⟨1,.l (cs.map Cl.v)⟩)
include aK
theorem G4(ax:cs.length<=1000)(q:∀a ah,Ext σ ah->ah a=ab ⟨1,.l ((iT cs i).map oi)⟩->Q (.r a) ah):W (n+1) 98 [.r al,.i i] σ Q E:=by
 refine bD aa rfl (kg 1 ai (.L .N hC) λa na=>xG (λx=>[.i (x.2:Nat)]) (λb:aw V×aw V×aw V×aw V×aw V×aw V×aw V=>[ab (.r al),ab (.i i),ab (.r a),b.1,b.2.1,b.2.2.1,b.2.2.2.1,b.2.2.2.2.1,b.2.2.2.2.2.1,b.2.2.2.2.2.2]) (aj,aj,aj,aj,aj,aj,aj) (λx=>(kz i x).map oi) aa (Ext.rfl.new na)
  (.c (.bi aa (.p aa) (jz (fO na aK))) .N) (by rw[cN]at|-;exact C8 ax) (λU U=>trivial) (λU=>aa) aa bc (λx=> ?_) (eK (iA _)) (λU ah f o=>bP (.p aa) (q a _ f ?_)) λx b acc ah m h2 f o K bV=> ?_)
 ·unfold kz;generalize(_&&_)=a,(_&&_)=b,(_&&_)=c;cases a<;>cases b<;>cases c<;>exact iz aa
 ·rw[←Kf]at o;exact o
 ·have h2:acc.length<bN:=fT h2 (by rw[rO];exact aX ax ai)
  unfold kz at bV
  refine xJ aa (R.cl (f _ _ aK) (.p aa) (.p aa) (oc m)) aa (hW (.p aa) aa (λz=>fw (.p aa) (.p aa) o ai h2 (bV (_,_,_,_,_,_,_) _ (f.new na) ?_)) λz=>hW (.p aa) aa (λy=>fw (.p aa) (.p aa) o ai h2 (bV (_,_,_,_,_,_,_) _ (f.new na) ?_)) λy=>eR (.p aa) (λw=>fw (.p aa) (.p aa) o ai h2 (bV (_,_,_,_,_,_,_) _ (f.new na) ?_)) λw=>(bV (_,_,_,_,_,_,_) _ f ?_))
  all_goals first|rw[show(decide (x.1.t0<=i)&&decide (i<x.1.t1))=ak from z]|rw[show(decide (x.1.t0<=i)&&decide (i<x.1.t1))=av from z]
  ·exact bc
  all_goals first|rw[show(decide (x.1.h0<=i)&&decide (i<x.1.h1))=ak from y]|rw[show(decide (x.1.h0<=i)&&decide (i<x.1.h1))=av from y]
  ·exact bc
  all_goals first|rw[show(aA x.1.s 1&&(decide (x.1.x<=i)&&decide (i<x.1.h0)))=ak from w]|rw[show(aA x.1.s 1&&(decide (x.1.x<=i)&&decide (i<x.1.h0)))=av from w]
  ·exact bc
  ·exact o.trans (aU (λl=>ab (O.mk 1 (.l l))) (eX _).symm)
variable(az:σ ac=ab ⟨1,.l (code.map eo.v)⟩)(o:σ d=ab ⟨1,.s (B5 ac al dz dJ mo kY dF)⟩)(ax:cs.length<=1000)
omit aK
theorem lL{α:Type}{x:α}{b:aB}{l m:af α}(h:x∈aG b l m):(b=ak/\x∈l)\/b=av/\x∈m:=by
 cases b
 ·exact .inr ⟨aa,h⟩
 ·exact .inl ⟨aa,h⟩
theorem Og(h:p∈iT cs i):∃j c,p.1=(j:ae)/\cs[j]? =ab c:=(pM.mp h).elim λx y=>⟨x.2,x.1,by
 have e:∀u:ae,p∈[((x.2:ag),u)]->p.1=(x.2:ae):=λu h=>aD (dv.mp h) aa
 exact(lL y.2).elim (λz=>e _ z.2) λz=>(lL z.2).elim (λz=>e _ z.2) λz=>(lL z.2).elim (λz=>e _ z.2) λz=>(nomatch z.2),oc y.1⟩
include aK o
theorem aS3{hd:aw ae}(h:lm.get 0=ab (.r d))(w9:lm.get 6=ab (oi p))(e:p.1=(j:ae))(cp:cs[j]? =ab c):ck hd n σ lm (.O (.p .e (.u (.l 6) (.i 1)) (.s 65)) (.A (.p .e (.u (.l 6) (.i 1)) (.s 66)) (.p .l (.u (.u (.u (.l 0) (.s 16)) (.u (.l 6) (.i 0))) (.i 0)) (.i 2)))) (.b (zu cs p)):=by
 have qr:∀{v:V}{j:ag},k5 [.i p.1,.s p.2] j=ab v->ck hd n σ lm (.u (.l 6) (.i j)) v:=λq=>.bC (.L w9) .i (fG q)
 unfold zu
 rw[e,clAt_of cp]
 exact .lO (.q (qr aa) .s aa) (.hN (.q (qr aa) .s aa) (.q (.bC (R.cl aK (.bC (.L h) .s (sub_d o aa)) (aR e (qr aa)) cp) .i (fG aa)) .i aa))
include az ax
theorem Oh:kk (W (n+2)) σ 99 [.r d,.i i,.i goal,.b lv] (.i (fa cs code.length i goal lv)):=λQ E q=>by
 refine bD aa rfl (la (λx=>∀ah,Ext σ ah->Q (.i x) ah) (.q (.p aa) (.bi aa (.d o aa rfl) (jz az)) aa) aa (show∀ah,Ext σ ah->Q (.i (aG (decide (((code.map eo.v).length:ag)<=goal)) _ _)) ah from(cN eo.v).symm▸q) (λU q=>bP (.p aa) (q _ Ext.rfl)) λU q=>
  (Rs.d o aa rfl:Rs _ _ _ _ _ [.r al,.i i]) _ _ (G4 aK ax λw aJ aM f3=>(Rs.d (aM _ _ o) aa rfl:Rs _ _ _ _ _ [.r al,.i goal]) _ _ (G4 (aM _ _ aK) ax λu a3 bl pj=> ?_)))
 have aK:=bl _ _ (aM _ _ aK)
 have o:=bl _ _ (aM _ _ o)
 have f3:=bl _ _ f3
 have q:=q _ (aM.ay bl)
 refine xH (λp=>[oi p]) (λb:aw V×aw V=>[ab (.r d),ab (.i i),ab (.i goal),ab (.b lv),ab (.r w),ab (.r u),b.1,b.2]) (aj,aj) (λx=>Q (.i x) a3) _ _ aa (.p aa) (kF f3) ⟨_,f3⟩ (λU=>aa) aa q (λb q=>
  xH (λp=>[oi p]) (λb:aw V×aw V=>[ab (.r d),ab (.i i),ab (.i goal),ab (.b lv),ab (.r w),ab (.r u),b.1,b.2]) b (λx=>Q (.i x) a3) _ _ aa (.p aa) (kF pj) ⟨_,pj⟩ (λU=>aa) aa q (λU q=>bP (.p aa) q) λp U b m q U bV=> ?_) λp U b m q U bV=> ?_
 all_goals refine(Og m).elim λj y=>y.elim λc y=> ?_
 ·exact mh (.hN (.q (.p aa) (.p aa) (OT f3)) (.lO (.p aa) (.og (.bC (R.cl aK (.d o aa rfl) (aR y.1 (.p aa)) y.2) .i (fG aa)) (.p aa)))) (show Q (.i (aG (_&&(_|| !aA c.t0 goal)) _ _)) a3 from aR (clAt_of y.2) (aR y.1 q)) (λU q=>bP (.n9 (.p aa) aa (.p aa) (.p aa)) q) λU q=>bV (_,_) q
 ·exact c7 (aS3 aK o aa rfl y.1 y.2) (mh (.hN (.q (.p aa) (.p aa) (OT pj)) (.p aa)) q (λU q=>bP (.n9 (.p aa) aa (.p aa) (.p aa)) q) λU q=>bV (_,_) q)
omit az ax
theorem QF{hd:aw ae}{hi:aB}{LZ:kO}{fe:ag}{m u:ae}(h:lm.get 0=ab (.r d))(hm:lm.get m=ab (.r u))(pj:σ u=ab ⟨t,.l (l.map oi)⟩)(L:∀p∈l,p∈iT cs i)(w:∀τ s,j3 τ LZ (.i s) (.i fe)=ab (aG hi (decide (1<s)) (decide (s<2)))):
  gb (dQ aZ PP hd n) hd σ lm (.A (.p .n (.l m) (.L [])) (.A (.p .e (.u (.u (.l m) (.i 0)) (.i 1)) (.s 66)) (.p LZ (.u (.u (.u (.l 0) (.s 16)) (.u (.u (.l m) (.i 0)) (.i 0))) (.i 0)) (.i fe)))) (.b (sH cs hi l)):=by
 rcases l with _|⟨p,l⟩
 ·exact xC (c:=av) (ne_nil (.L hm) pj) nofun
 ·refine(Og (L p dI)).elim λj y=>y.elim λc y=> ?_
  have e:sH cs hi (p::l)=(ak&&(iP p.2 66&&aG hi (decide (1<c.s)) (decide (c.s<2)))):=aR (clAt_of y.2) (aR y.1 aa)
  rw[e]
  refine xC (ne_nil (.L hm) pj) λU ah x=>R.up ?_
  have s0:∀{v:V}{j:ag},k5 [.i p.1,.s p.2] j=ab v->ck hd n ah lm (.u (.u (.l m) (.i 0)) (.i j)) v:=λq=>.bC (.bC (.L hm) .i (fF (x _ _ pj) (f5 (k:=0) aa))) .i (fG q)
  exact .hN (.q (s0 aa) .s aa) (.q (.bC (R.cl (x _ _ aK) (.bC (.L h) .s (sub_d (x _ _ o) aa)) (aR y.1 (s0 aa)) y.2) .i (fG aa)) .i (w _ _))
include ax
theorem ay6(au:(iT cs i).length<=1000):kk (W (n+2)) σ 100 [.r d,.i i,.i op] (.b (sI cs i op)):=λQ E q=>by
 refine bD aa rfl ((Rs.d o aa rfl:Rs _ _ _ _ _ [.r al,.i i]) _ _ (G4 aK ax λw aJ aM f3=>la (λx=>∀ah,Ext σ ah->Q (.b x) ah) (.p aa) aa q (λU q=>xI (QF (hi:=ak) (aM _ _ aK) (aM _ _ o) aa rfl f3 (λU h=>h) λU U=>aa) λU x=>q _ (aM.ay x)) λU q=> ?_))
 exact xE (M.comp 1 (λp=> !iP p.2 65) oi (λp=>[oi p]) nofun aa (.p aa) (kF f3) (λU x=>⟨_,x _ _ f3⟩) (λU=>aa) au λp U ah U=>⟨R.up (.p aa),λU=>.p aa⟩) λa a3 bl di=>xI (QF (hi:=av) (bl _ _ (aM _ _ aK)) (bl _ _ (aM _ _ o)) aa rfl di (λU h=>(rP.mp h).1) λU U=>aa) λU x=>q _ ((aM.ay bl).ay x)
end
def dk{α:Type}(R:V->α->Prop):af V->af α->Prop
 |[],[]=>gN
 |v::l,x::m=>R v x/\dk R l m
 |_,_=>dg
section
variable{α:Type}{R S:V->α->Prop}{l l':af V}{m m':af α}
theorem dk.mono(h:∀v x,x∈m->R v x->S v x)(f:dk R l m):dk S l m:=by
 induction m generalizing l with
 |nil=>
     rcases l with _|⟨_,_⟩
     ·exact f
     ·exact f
 |cons x m aI=>
         rcases l with _|⟨v,l⟩
         ·exact f
         ·exact⟨h _ _ dI f.1,aI (λv x aE=>h v x (iL _ aE)) f.2⟩
theorem dk.len:∀{l:af V},dk R l m->l.length=m.length:=by
 induction m with
 |nil=>exactλ{l} f=>by
                rcases l with _|⟨_,_⟩
                ·rfl
                ·exact f.elim
 |cons x m aI=>exactλ{l} f=>by
                    rcases l with _|⟨v,l⟩
                    ·exact f.elim
                    ·exact aU (·+1) (aI f.2)
theorem dk.app(f:dk R l m)(g:dk R l' m'):dk R (l++l') (m++m'):=by
 induction m generalizing l with
 |nil=>
     rcases l with _|⟨_,_⟩
     ·exact g
     ·exact f.elim
 |cons x m aI=>
         rcases l with _|⟨v,l⟩
         ·exact f.elim
         ·exact⟨f.1,aI f.2⟩
theorem dk.snoc{x:α}(f:dk R l (m++[x])):∃l' v,l=l'++[v]/\dk R l' m/\R v x:=by
 induction m generalizing l with
 |nil=>
     rcases l with _|⟨v,l⟩
     ·exact f.elim
     ·rcases l with _|⟨_,_⟩
      ·exact⟨[],v,aa,trivial,f.1⟩
      ·exact f.2.elim
 |cons y m aI=>
         rcases l with _|⟨u,l⟩
         ·exact f.elim
         ·exact(aI f.2).elim λl' y=>y.elim λv y=>⟨u::l',v,aU (u::·) y.1,⟨f.1,y.2.1⟩,y.2.2⟩
theorem dk.one{v:V}{x:α}(h:R v x):dk R [v] [x]:=⟨h,trivial⟩
theorem dk.get{j:ae}{x:α}(f:dk R l m)(h:m[j]? =ab x):∃v,l[j]? =ab v/\R v x:=by
 induction m generalizing l j with
 |nil=>cases h
 |cons y m aI=>
         rcases l with _|⟨v,l⟩
         ·exact f.elim
         ·rcases j with _|j
          ·exact⟨v,aa,aR (cR h) f.1⟩
          ·have w:=aI f.2 h;exact w
end
abbrev ko:=ag×af ag×ag
structure cO where
 code:af eo
 cs:af Cl
 most:ag
 first:ag
 raw:ag
 bad:Cl->ag
 jO:Cl->af ag
noncomputable section
def qf(c:cO)(i j:ag)(x:Cl):af ko:=aG ((decide (x.t0<=i)&&decide (i<x.t1))&&aA (c.bad x) 0) ((x.h0,c.jO x,j)::aG (aA x.s 1) [(x.x,[12],j)] []) []
abbrev Out:=aw (ag×ag)×af ko
def iC(cd p:ag):Out:=(ab (cd,p),[])
def hB(c:cO)(i:ag)(s:af ag)(j:ag):Out:=aG (aA (i+1) c.code.length) (iC 7 i) (aG (!aA (fa c.cs c.code.length i (i+1) av) 0) (iC (fa c.cs c.code.length i (i+1) av) i)
 (aG (!s.isEmpty&&decide ((i+1)∈c.cs.map Cl.t0)) (iC 3 (i+1)) (aj,[(i+1,s,j)])))
def l9(c:cO)(i:ag)(ins:eo)(g:ag)(s:af ag)(j:ag):Out:=
 aG (decide (ins.op∈[65050,220])&& !sI c.cs i ins.op) (iC 5 i) (aG (decide (ins.op∈[69,57])) (iC 22 i)
 (aG (aA ins.op 221) (aG (!aA (fa c.cs c.code.length i g ak) 0) (iC (fa c.cs c.code.length i g ak) i) (aj,[(g,[],j)]))
 (aG (decide (ins.op∈[122,65050,220,65041])) (aj,[])
 (aG (aA ins.op 38) (aG s.isEmpty (iC 1 i) (hB c i s.dropLast j))
 (aG (aA ins.op 65033) (aG (decide (c.first<0)) (iC 21 i) (aG (decide (c.most<=s.length)) (iC 20 i) (hB c i (s++[aG (!aA j 0) c.first c.raw]) j))) (hB c i s j))))))
def BA:aw (ag×ag)->V
 |none=>.n
 |some f=>c' f
end
structure i4 where
 d:ae
 ac:ae
 al:ae
 dz:ae
 dJ:ae
structure j9(c:cO)(A:i4)(σ:H):Prop where
 al:σ A.al=ab ⟨1,.l (c.cs.map Cl.v)⟩
 ac:σ A.ac=ab ⟨1,.l (c.code.map eo.v)⟩
 o:σ A.d=ab ⟨1,.s (B5 A.ac A.al A.dz A.dJ c.most c.first c.raw)⟩
 dJ:σ A.dJ=ab ⟨1,.l (c.cs.map λx=>.i (c.bad x))⟩
 dz:∃eb:af ae,σ A.dz=ab ⟨1,.l (eb.map .r)⟩/\∀(j:ae) x,c.cs[j]? =ab x->∃b,eb[j]? =ab b/\σ b=ab ⟨1,.l (aL (c.jO x))⟩
def EX(Q:bQ)(σ:H)(vW:ae)(l:af V)(x:Out):Prop:=(∀f,x.1=ab f->∀ah,Ext σ ah->Q (c' f) ah)/\(x.1=aj->∀ah,Ext σ ah->Q .n (aC ah vW ⟨18,.l l⟩))
def j4(σ:H)(v:V)(w:ko):Prop:=∃a,v=.t [.i w.1,.r a,.i w.2.2]/\σ a=ab ⟨1,.l (aL w.2.1)⟩
section
variable{σ ah:H}{lm:bf}{n:ae}{c:cO}{A:i4}{i j:ag}{S:ae->aB}{s:af ag}{Q:bQ}{E:bR}{cn vW:ae}{ws:af V}
theorem j9.fr(C:j9 c A σ)(f:Fr S σ ah)(h:S 1=av):j9 c A ah:=⟨f _ _ C.al h,f _ _ C.ac h,f _ _ C.o h,f _ _ C.dJ h,C.dz.elim λeb y=>⟨eb,f _ _ y.1 h,λj x e=>(y.2 j x e).elim λb z=>⟨b,z.1,f _ _ z.2 h⟩⟩⟩
theorem j4.fr{v:V}{w:ko}(h:j4 σ v w)(f:Fr S σ ah)(z:S 1=av):j4 ah v w:=h.elim λa y=>⟨a,y.1,f _ _ y.2 z⟩
theorem gI:(aL s).length=s.length:=cN ..
theorem n'{x:ag}:aL (s++[x])=aL s++[.i x]:=gA ..
theorem av3:ru (.to (-1)) (aL s)=aL s.dropLast:=by
 show(aL s).take (wZ _ _)=_
 rw[wZ,bh ai,gI,show((s.length:ag)+ -1).toNat=s.length - 1 from J4 _ 1,List.dropLast_eq_take]
 exact(TM ..).symm
theorem N1:(aL s).isEmpty=s.isEmpty:=by cases s<;>rfl
theorem aQ8{α:Type}{F:cy}{hd:aw ae}{e aq e2:aW}{its:af α}{g:α->V}{f:α->ag}{x:ag}{p t:ae}(z:hd=aj)(h:R F hd σ lm e (.i x))(h1:R F hd σ lm aq (.r p))(o:σ p=ab ⟨t,.l (its.map g)⟩)(ax:its.length<=1000)(hf:∀y ah,R A2 hd ah [ab (g y)] e2 (.i (f y))):
  gb F hd σ lm (.p .m e (.C e2 1 .i [aq] [] [])) (.b (decide (x∈its.map f))):=λU U q=>
 h _ _ (M.map (free:=[]) (e:=e2) 1 (λy=>.i (f y)) (λy=>[g y]) ai z (.c h1 .N) (kF o) (λU x=>⟨_,x _ _ o⟩) (λU=>aa) ax (λy U ah U=>hf y ah) _ _ λa cC x4 di=>⟨_,(sE di).trans ((aU (m1 cC _) (nJ (f:=f) (g:=V.i)).symm).trans (Aj _)),q _ x4⟩)
variable(ax:c.cs.length<=60)
include ax
theorem ay1(C:j9 c A σ)(os:σ cn=ab ⟨1,.l (aL s)⟩)(f3:σ vW=ab ⟨18,.l ws⟩)(hw:ws.length<=1000)(q:EX Q σ vW (ws++[.t [.i (i+1),.r cn,.i j]]) (hB c i s j)):W (n+3) 101 [.r A.d,.i i,.r cn,.i j,.r vW] σ Q E:=by
 have vc:c.cs.length<=1000:=aX ax ai
 refine bD aa rfl (c7 (.p aa) (la (b:=aA (i+1) c.code.length) (EX Q σ vW _) (.g6 (.p aa) (.bi aa (.d C.o aa rfl) (cN eo.v▸jz C.ac))) aa q (λU q=>bP (.p aa) (q.1 _ aa _ Ext.rfl)) λU q=>
  xF (.p aa) (Oh C.al C.ac C.o vc) λaJ aM=>la (b:= !aA (fa c.cs c.code.length i (i+1) av) 0) (EX Q σ vW _) (.p aa) ?_ q (λU q=>bP (.p aa) (q.1 _ aa _ aM)) λU q=> ?_))
 ·exact aU ab (D3 ..)
 have C:=C.fr aM.fr (S:=du) aa
 refine mi (b:= !s.isEmpty&&decide ((i+1)∈c.cs.map Cl.t0)) (N1 (s:=s)▸xC (ne_nil (.p aa) (aM _ _ os)) λU a3 bl=>aQ8 aa (.p aa) (.d (bl _ _ C.o) aa rfl) (bl _ _ C.al) vc λU U=>.p aa) (λU=>aa) (λz bM bH=> ?_) λz bM bH=> ?_
 ·rw[z]at q
  exact bP (.p aa) (q.1 _ aa _ (aM.ay bH))
 ·rw[z]at q
  exact fw (.p aa) (.p aa) (bH _ _ (aM _ _ f3)) ai (d7 hw ai) (bP (.p aa) (q.2 aa _ (aM.ay bH)))
omit ax
theorem z3{F:cy}{hd:aw ae}{aq e2 bF:aW}{g:ag}(h1:R F hd σ lm aq (.i g))(h2:M F hd σ lm e2 1 (.l (aL s)))(h3:∀ah,Ext σ ah->R F hd ah lm bF (.i j)):E0 F hd σ lm (.t [aq,e2,bF]) λv ah=>j4 ah v (g,s,j):=λU U q=>h1 _ _ (h2 _ _ λa ah x o=>h3 _ x _ _ ⟨G6,q _ _ x ⟨a,aa,o⟩⟩)
theorem aI0{f:ag×ag}(e:(hB c i s j).1=ab f):(hB c i s j).2=[]:=by
 unfold hB at*
 generalize aA _ _=a,(!aA _ _)=b,(_&&_)=d at*
 cases a<;>cases b<;>cases d<;>first|rfl|cases e
theorem aI1(e:(hB c i s j).1=aj):(hB c i s j).2=[(i+1,s,j)]:=by
 unfold hB at*
 generalize aA _ _=a,(!aA _ _)=b,(_&&_)=d at*
 cases a<;>cases b<;>cases d<;>first|rfl|cases e
abbrev pT:ae->aB:=λt=>cf t 18
def l3(Q:bQ)(σ:H)(hs:af ko)(x:Out):Prop:=∀ah w vs,Fr pT σ ah->ah w=ab ⟨18,.l vs⟩->dk (j4 ah) vs (hs++x.2)->Q (.t [BA x.1,.r w]) ah
def kc(c:cO)(i j:ag):af ko:=c.cs.zipIdx.flatMap λx=>qf c i j x.1
theorem an5(x:Cl):(qf c i j x).length<=2:=by
 unfold qf
 generalize(_&&_)=a,aA x.s 1=b
 cases a<;>cases b<;>exact iz aa
theorem dk.fr{S:ae->aB}{vs:af V}{l:af ko}(f:dk (j4 σ) vs l)(x:Fr S σ ah)(z:S 1=av):dk (j4 ah) vs l:=f.mono λU U U h=>h.fr x z
theorem F7{α β:Type}{f:α->af β}{m:ae}(h:∀x,(f x).length<=m)(l:af α):(l.flatMap f).length<=m*l.length:=by
 induction l with
 |nil=>exact eL _
 |cons x l aI=>rw[AN,cK,jI,Nat.mul_succ,ym];exact nL aI (h x)
theorem ax3{cs:af Cl}:(iT cs i).length<=cs.length:=by
 refine aX (F7 (m:=1) (λx=> ?_) _) (by rw[rO,Ey];exact da _)
 unfold kz
 generalize(_&&_)=a,(_&&_)=b,(_&&_)=c
 cases a<;>cases b<;>cases c<;>exact iz aa
variable{p w:ae}{ins:eo}{g:ag}{vs:af V}{hs:af ko}{σ0:H}
theorem l3.ret{f:aw (ag×ag)}(q:l3 Q σ0 hs (f,[]))(x:Fr pT σ0 σ)(o:σ w=ab ⟨18,.l vs⟩)(F:dk (j4 σ) vs hs):Q (.t [BA f,.r w]) σ:=q _ w vs x o ((eX hs).symm▸F)
theorem aS7{hd:aw ae}{m f:ae}{ao:af aW}{l:af V}{u:V}{r:af St}{k:cT}(h:nX hd n σ lm ao l)(z:lm.get m=ab u)(c:∀(T:bQ)(X:bR),(∀v ah,k.r (.t [v,u]) ah->T v ah)->dQ aZ PP hd n f l σ T X):aH hd n (.r (.t [.f f ao,.l m])::r) lm σ k:=h _ _ (c _ _ λU U q=>⟨u,z,qm,q⟩)
theorem HS(ax:c.cs.length<=60)(C:j9 c A σ)(os:σ cn=ab ⟨1,.l (aL s)⟩)(x:Fr pT σ0 σ)(o:σ w=ab ⟨18,.l vs⟩)(F:dk (j4 σ) vs hs)(a4:vs.length<=1000)(q:l3 Q σ0 hs (hB c i s j)){X:bR}(h:pEs σ [] [] lm [.l 0,.l 1,.l 2,.l 3,.l 4]=ab [.r A.d,.i i,.r cn,.i j,.r w])(cQ:lm.get 4=ab (.r w)):
  aH aj (n+3) [.r (.t [.f 101 [.l 0,.l 1,.l 2,.l 3,.l 4],.l 4])] lm σ (fz Q X):=by
 refine aS7 (.p h) cQ λT U dU=>ay1 ax C os o a4 ⟨λf e ah y=>dU _ _ ?_,λe ah y=>dU _ _ ?_⟩
 ·have z:(hB c i s j).2=[]:=aI0 e
  exact(show l3 Q σ0 hs (ab f,[])from aR e (aR z q)).ret (x.ay y.fr) (y _ _ o) (F.fr y.fr (S:=du) aa)
 ·have z:(hB c i s j).2=[(i+1,s,j)]:=aI1 e
  have u:Fr pT ah (aC ah w ⟨18,.l (vs++[.t [.i (i+1),.r cn,.i j]])⟩):=Fr.upd Fr.rfl (y _ _ o) aa
  exact(show Q (.t [BA (hB c i s j).1,.r w]) _ from q _ w _ ((x.ay y.fr).ay u) bc (aD z ((F.fr (y.fr.ay u) aa).app (.one ⟨cn,aa,u _ _ (y _ _ os) aa⟩))))|>λq=>by rw[e]at q;exact q
theorem ay2(ax:c.cs.length<=60)(C:j9 c A σ)(os:σ cn=ab ⟨1,.l (aL s)⟩)(az:c.code[p]? =ab ins)(cE:ins.op=221->ins.arg=.i g)(hs:s.length<=1000)(q:l3 Q σ (kc c p j) (l9 c p ins g s j)):W (n+4) 102 [.r A.d,.i p,.r cn,.i j] σ Q E:=by
 have vc:c.cs.length<=1000:=aX ax ai
 have au:∀i,(iT c.cs i).length<=1000:=λi=>aX ax3 vc
 refine bD aa rfl (kg 18 ai (.L .N hC) λw nw=>iF (λx:Cl×ae=>[.i (x.2:ae)]) (λb:aw V×aw V×aw V×aw V×aw V×aw V×aw V=>[ab (.r A.d),ab (.i p),ab (.r cn),ab (.i j),ab (.r w),b.1,b.2.1,b.2.2.1,b.2.2.2.1,b.2.2.2.2.1,b.2.2.2.2.2.1,b.2.2.2.2.2.2,aj,aj,aj])
  (λl U ah=>Fr pT σ ah/\∃vs bJ,ah w=ab ⟨18,.l vs⟩/\dk (j4 ah) vs bJ/\bJ++l.flatMap (λx=>qf c p j x.1)=kc c p j/\vs.length+2*l.length<=120) (aj,aj,aj,aj,aj,aj,aj) aa
  (.c (.bi aa (.d (fO nw C.o) aa rfl) (jz (fO nw C.al))) .N) (by rw[cN];exact C8 vc) (λU=>aa) (λU U U U=>trivial) aa ⟨(Ext.rfl.new nw).fr,[],[],bc,trivial,aa,by rw[rO];exact aX (eK (iA _)) (Nat.mul_le_mul_left 2 ax)⟩ (λb aJ i=> ?_) λx l b aJ m i K bV=> ?_)
 ·rcases i with⟨aM,vs,bJ,f3,F,e,a4⟩
  rw[Tx,eX]at e
  rw[e]at F
  have a4:vs.length<=1000:=aX (aX (en _ _) a4) ai
  have C:=C.fr aM aa
  have os:=aM _ _ os aa
  have up:∀{a3:H},Ext aJ a3->Fr pT σ a3/\a3 w=ab ⟨18,.l vs⟩/\dk (j4 a3) vs (kc c p j):=λx=>⟨aM.ay x.fr,x _ _ f3,F.fr x.fr (S:=du) aa⟩
  have out:∀{a3:H}{f},Ext aJ a3->l3 Q σ (kc c p j) (f,[])->Q (.t [BA f,.r w]) a3:=λx q=>q.ret (up x).1 (up x).2.1 (up x).2.2
  refine xJ aa (.bC (.d C.o aa rfl) (.p aa) (fF C.ac (kS az))) aa (Qg (l3 Q σ (kc c p j)) (xC (R.up (.q (.p aa) (.p aa) (sD [65050,220]))) λU U x=>Qa (sZ (Rs.up (.p aa)) λU y=>ay6 (y _ _ (x _ _ C.al)) (y _ _ (x _ _ C.o)) vc (au _))) (λU=>aa) q (λU q a3 x=>bP (.p aa) (out x q)) λU q a3 bl=>
   la (l3 Q σ (kc c p j)) (.q (.p aa) (.p aa) (sD [69,57])) aa q (λU q=>bP (.p aa) (out bl q)) λU q=>la (l3 Q σ (kc c p j)) (.p aa) aa q (λz q=> ?_) λU q=>la (l3 Q σ (kc c p j)) (.q (.p aa) (.p aa) (sD [122,65050,220,65041])) aa q (λU q=>bP (.p aa) (out bl q)) λU q=> ?_)
  all_goals have C:=C.fr bl.fr (S:=du) aa
  all_goals have os:=bl _ _ os
  ·refine xF (.c (.p aa) (.c (.p aa) (.c (.L (aU ab (cE (c4 z)))) (.c .Z .N)))) (Oh C.al C.ac C.o vc) λbM bH=>la (b:= !aA (fa c.cs c.code.length p g ak) 0) (l3 Q σ (kc c p j)) (.p aa) (aU ab (D3 ..)) q (λU q=>bP (.p aa) (out (bl.ay bH) q)) λU q=> ?_
   refine C2 (.p aa) (z3 (s:=[]) (j:=j) (.L (aU ab (cE (c4 z)))) (N.up 1 ai (.L .N hC)) λU U=>.p aa) (bH _ _ (bl _ _ f3)) ai (d7 a4 ai) λv cC x4 T=>bP (.p aa) ?_
   have y:=up (bl.ay (bH.ay x4))
   have u:Fr pT cC (aC cC w ⟨18,.l (vs++[v])⟩):=Fr.upd Fr.rfl y.2.1 aa
   exact q _ w _ (y.1.ay u) bc ((y.2.2.fr u aa).app (.one (T.fr u aa)))
  ·by_cases z:ins.op=38
   ·rw[show aA ins.op 38=ak from cD z]at q
    refine gV (.p aa) (cD z) (Qg (b:=s.isEmpty) (l3 Q σ (kc c p j)) (N1 (s:=s)▸eq_nil (.p aa) os) (λU=>aa) q (λU q bM bH=>bP (.p aa) (out (bl.ay bH) q)) λU q bM bH=>xE (M.slice 1 ai aa (.p aa) (bH _ _ os)) λa cC x4 di=>Il (dV (.p aa) (de (by rw[z];decide)) ?_))
    have y:=up (bl.ay (bH.ay x4))
    exact HS ax (C.fr (bH.ay x4).fr (S:=du) aa) (di.trans (aU (λl=>ab (O.mk 1 (.l l))) av3)) y.1 y.2.1 y.2.2 a4 q aa rfl
   ·rw[show aA ins.op 38=av from de z]at q
    refine dV (.p aa) (de z) (la (l3 Q σ (kc c p j)) (.p aa) aa q (λU q=>la (l3 Q σ (kc c p j)) (.d C.o aa rfl) aa q (λU q=>bP (.p aa) (out bl q)) λU q=>la (b:=decide (c.most<=s.length)) (l3 Q σ (kc c p j)) (.q (.bi aa (.p aa) (gI (s:=s)▸jz os)) (.d C.o aa rfl) aa) aa q (λU q=>bP (.p aa) (out bl q)) λU q=>
     xE (M.put 1 ai (.p aa) os (by rw[gI];exact d7 hs ai) (.n9 (.p aa) (aU ab (D3 ..)) (.d C.o aa rfl) (.d C.o aa rfl))) λa cC x4 di=>Il ?_) λU q=> ?_)
    ·have y:=up (bl.ay x4)
     exact HS ax (C.fr x4.fr (S:=du) aa) (di.trans (aU (λl=>ab (O.mk 1 (.l l))) n'.symm)) y.1 y.2.1 y.2.2 a4 q aa rfl
    ·have y:=up bl
     exact HS ax C os y.1 y.2.1 y.2.2 a4 q aa rfl
 ·rcases i with⟨aM,vs,bJ,f3,F,e,a4⟩
  rw[AN,←fy]at e
  rw[jI]at a4
  have ez:=C.fr aM aa
  have aE:=oc m
  have jb:∀{a3:H}{IU:af V}{ee:af ko},Fr pT σ a3->a3 w=ab ⟨18,.l IU⟩->dk (j4 a3) IU ee->bJ++qf c p j x.1=ee->IU.length<=vs.length+2->∀q4 b6 yP yQ oU fC cq,K [ab (.r A.d),ab (.i p),ab (.r cn),ab (.i j),ab (.r w),q4,b6,yP,yQ,oU,fC,cq,aj,aj,aj] a3:=λx o F dO h q4 b6 yP yQ oU fC cq=>bV (q4,b6,yP,yQ,oU,fC,cq) _ ⟨x,_,_,o,F,aR dO e,aX (nM h _) (aX (eK (by lia)) a4)⟩
  have hw:∀{m:ae},m<=vs.length+2->m<bN:=λh=>d7 (aX h (nM (aX (en _ _) a4) 2)) ai
  refine xJ aa (R.cl ez.al (.d ez.o aa rfl) (.p aa) aE) aa (eR (z:=(decide (x.1.t0<=p)&&decide ((p:ag)<x.1.t1))&&aA (c.bad x.1) 0) (.hN (.p aa) (.g6 (.bC (.bC (.L aa) .s (sub_d ez.o aa)) (.p aa) (fF ez.dJ (kS aE))) .i)) (λz=> ?_) λz=> ?_)
  all_goals unfold qf at jb
  all_goals rw[z]at jb
  ·refine b5 ez.dz λeb b3 H=> ?_
   refine b5 (H _ _ aE) λcL aq e2=> ?_
   refine C2 (.p aa) (z3 (.p aa) (N.up 1 ai (N.B aa (.c (.bC (.d ez.o aa rfl) (.p aa) (fF b3 (kS aq))) .N) (zB (o9 e2)))) λU U=>.p aa) f3 ai (hw (en _ _)) λv a3 ek T=> ?_
   have u:Fr pT a3 (aC a3 w ⟨18,.l (vs++[v])⟩):=Fr.upd Fr.rfl (ek _ _ f3) aa
   have t5:=((F.fr ek.fr (S:=du) aa).app (.one T)).fr u aa
   have d2:(vs++[v]).length=vs.length+1:=cK
   refine eR (.p aa) (λz=>C2 (.p aa) (z3 (s:=[12]) (.p aa) (N.up 1 ai (.L (.p aa) ob)) λU U=>.p aa) bc ai (hw (by lia)) λou bM j5 iO=> ?_) λz=> ?_
   all_goals rw[show aA x.1.s 1=_ from z]at jb
   ·have px:Fr pT bM (aC bM w ⟨18,.l (vs++[v]++[ou])⟩):=Fr.upd Fr.rfl (j5 _ _ bc) aa
    exact jb (((aM.ay ek.fr).ay u).ay (j5.fr.ay px)) bc (((t5.fr j5.fr (S:=du) aa).app (.one iO)).fr px aa) (fy _ [_] [_]).symm (by rw[cK,d2];exact da _) ..
   ·exact jb ((aM.ay ek.fr).ay u) bc t5 aa (by lia) ..
  ·exact jb aM f3 F (eX _) (en _ _) ..
end
abbrev p2:=af (aw ag)
def val(c:cO)(j:ag)(z:p2):af ag:=z.map λo=>o.getD (aG (!aA j 0) c.first c.raw)
def nQ(c:cO)(p:ag)(k:ag):Prop:=∃x∈c.cs,c.bad x=0/\((p=x.h0/\c.jO x=[k])\/(x.s=1/\p=x.x/\k=12))
def yK(op:ag)(a z:p2):Prop:=(op=0/\z=a)\/(op=38/\∃o,a=z++[o])\/(op=65033/\z=a++[aj])
def p1(c:cO):ae->p2->Prop
 |0,z=>z=[]\/∃k,nQ c 0 k/\z=[ab k]
 |q+1,z=>z=[]\/(∃k,nQ c ((q+1:ae):ag) k/\z=[ab k])\/((∀k,¬ nQ c ((q+1:ae):ag) k)/\∃ins a,c.code[q]? =ab ins/\p1 c q a/\yK ins.op a z)
def qc(ins:eo):ag:=ins.arg.n0.getD 0
def gj(c:cO)(p:ae)(s:af ag)(j:ag):Out:=(c.code[p]?).elim (aj,[]) λins=>l9 c p ins (qc ins) s j
def nD(c:cO)(p:ae)(s:af ag)(j:ag):af ko:=kc c p j++(gj c p s j).2
abbrev eM:=af (ae×ag)
inductive Re(c:cO)(gv:eM):ae->af ag->ag->Prop
 |given {p:ae} {i:ag} (h:(p,i)∈gv):Re c gv p [] i
 |step {p:ae} {s:af ag} {i:ag} {x:ko} (r:Re c gv p s i) (h:x∈nD c p s i):Re c gv x.1.toNat x.2.1 x.2.2
structure jL(c:cO)(bp:aB)(gv:eM):Prop where
 zY:∀x∈c.cs,0<=x.t0/\x.t0<x.t1/\x.t1<=x.h0/\x.h0<x.h1/\x.h1<=c.code.length/\(x.s=1->x.t1<=x.x/\x.x<x.h0)
 fit:∀x∈c.cs,c.bad x=0->(∃k,c.jO x=[k]/\1<=c.most)\/c.jO x=[]
 b1:∀x∈c.cs,x.s=1->c.jO x=[12]/\(c.bad x=0\/c.bad x=20)
 b2:∀x∈c.cs,x.s≠0->x.s≠1->c.jO x=[]/\c.bad x=0
 Ov:∀x∈c.cs,c.bad x=20->c.most<1
 uniq:∀p k k',nQ c p k->nQ c p k'->k=k'
 k1:∀p k,nQ c p k->0<=k
 OR:∀(q:ae) k,nQ c ((q+1:ae):ag) k->fa c.cs c.code.length q ((q+1:ae):ag) av≠0
 OQ:∀p k,nQ c p k->p∉c.cs.map Cl.t0
 op:∀ins∈c.code,(ins.op∈[69,57]\/ins.op=221\/ins.op∈[122,65050,220,65041]\/ins.op=38\/ins.op=65033\/ins.op=0)/\(ins.op=65033->ins.arg=.i 0)/\(ins.op=221->∃g:ae,ins.arg=.i g)
 ME:∀(j:ae)(ins:eo),c.code[j]? =ab ins->ins.op=65041->standF c.cs 65041 j=0
 n:c.code.length<=60
 dc:c.cs.length<=60
 most:c.most<=9
 Gi:∀p i,(p,i)∈gv->p<c.code.length/\(i=1\/i=0/\bp=ak)
 gl:gv.length<=10
 raw:0<=c.raw
 d4:∀x∈c.cs,x.s=0\/x.s=1\/x.s=2\/x.s=4
section
variable{c:cO}{bp:aB}{gv:eM}{p q:ae}{s s':af ag}{i j j':ag}{x y:ko}{ins:eo}{z jD:p2}{k:ag}{cl:Cl}{g:ag}{u v:Out}{b:aB}
theorem df{x y:aB}(h:(x&&y)=ak):x=ak/\y=ak:=(wd x y).mp h
theorem bc7:val c j (z++[aj])=val c j z++[aG (!aA j 0) c.first c.raw]:=gA ..
theorem p1.nil:p1 c p []:=by cases p<;>exact .inl aa
theorem p1.jO(h:nQ c p k):p1 c p [ab k]:=by
 rcases p with _|q
 ·exact .inr ⟨k,h,aa⟩
 ·exact .inr (.inl ⟨k,h,aa⟩)
theorem yK.uniq{op:ag}{a e0:p2}(h:yK op a z)(h':yK op e0 jD)(e:z.length=jD.length):a.length=e0.length/\(a=e0->z=jD):=by
 rcases h with⟨o,h⟩|⟨o,u,h⟩|⟨o,h⟩<;>rcases h' with⟨o',h'⟩|⟨o',px,h'⟩|⟨o',h'⟩
 all_goals first|exact aV (o.symm.trans o') ai|skip
 ·rw[h,h']at e|-;exact⟨e,id⟩
 ·rw[h,h']
  exact⟨by rw[cK,cK,e];rfl,λy=>(List.append_inj y e).1⟩
 ·rw[h,h',cK,cK]at e
  rw[h,h']
  exact⟨wz e,λy=>aR y aa⟩
theorem p1.uniq(D:jL c bp gv):∀{p:ae}{z jD:p2},p1 c p z->p1 c p jD->z.length=jD.length->z=jD:=by
 intro p
 induction p with
 |zero=>
  intro z jD h h' e
  rcases h with h|⟨k,h,y⟩<;>rcases h' with h'|⟨k',h',lh⟩
  ·rw[h,h']
  ·rw[h,lh]at e;cases e
  ·rw[y,h']at e;cases e
  ·rw[y,lh,D.uniq _ _ _ h h']
 |succ q aI=>
  intro z jD h h' e
  rcases h with h|⟨k,h,y⟩|⟨nb,ins,a,az,r,m⟩
  ·rw[h]at e|-;exact(pL.mp e.symm).symm
  all_goals rcases h' with h'|⟨k',h',lh⟩|⟨vv,bn7,e0,xc,ei,m'⟩
  all_goals first|(rw[h']at e|-;exact pL.mp e)|skip
  ·rw[y,lh,D.uniq _ _ _ h h']
  ·exact aV h (vv _)
  ·exact aV h' (nb _)
  ·rw[az]at xc
   rw[←cR xc]at m'
   exact(m.uniq m' e).2 (aI r ei (m.uniq m' e).1)
theorem nk(h:y∈(aG b u v).2):(b=ak/\y∈u.2)\/b=av/\y∈v.2:=by
 cases b
 ·exact .inr ⟨aa,h⟩
 ·exact .inl ⟨aa,h⟩
theorem Qs{b:aB}{a:ag}(h:fa c.cs c.code.length a g b=0):g<c.code.length:=by
 unfold fa at h
 rcases e:decide ((c.code.length:ag)<=g)with _|_
 ·exact Int.not_le.mp (hy e)
 ·rw[e]at h;cases h
theorem qo{b:aB}(h:(!b)=av):b=ak:=by
 cases b
 ·cases h
 ·rfl
theorem OJ{a b:ag}(h:(!aA a b)=av):a=b:=c4 (qo h)
theorem aI2(h:x∈(hB c i s j).2):fa c.cs c.code.length i (i+1) av=0/\x=(i+1,s,j)/\¬(s≠[]/\i+1∈c.cs.map Cl.t0):=
 (nk h).elim (λy=>nomatch y.2) λy=>(nk y.2).elim (λy=>nomatch y.2) λz=>(nk z.2).elim (λy=>nomatch y.2) λy=>⟨OJ z.1,dv.mp y.2,λw=>by
  have z:=y.1
  rw[cD w.2,yg]at z
  exact w.1 (Kd.mp (qo z))⟩
def Vv(c:cO)(ins:eo)(s:af ag)(j:ag)(s':af ag):Prop:=(ins.op=0/\s'=s)\/(ins.op=38/\s≠[]/\s'=s.dropLast)\/(ins.op=65033/\(s.length:ag)<c.most/\0<=c.first/\s'=s++[aG (!aA j 0) c.first c.raw])
theorem aI6(D:jL c bp gv)(hi:ins∈c.code)(h:x∈(l9 c i ins g s j).2):(ins.op=221/\fa c.cs c.code.length i g ak=0/\x=(g,[],j))\/∃s',Vv c ins s j s'/\x∈(hB c i s' j).2:=by
 refine(nk h).elim (λy=>nomatch y.2) λy=>(nk y.2).elim (λy=>nomatch y.2) λek=>(nk ek.2).elim (λy=>(nk y.2).elim (λy=>nomatch y.2) λw=>.inl ⟨c4 y.1,OJ w.1,dv.mp w.2⟩) λj5=>(nk j5.2).elim (λy=>nomatch y.2) λm2=>
  (nk m2.2).elim (λy=>(nk y.2).elim (λy=>nomatch y.2) λw=>.inr ⟨s.dropLast,.inr (.inl ⟨c4 y.1,λe=>by rw[e]at w;exact(nomatch w.1),aa⟩),w.2⟩) λlj=>(nk lj.2).elim (λy=>(nk y.2).elim (λy=>nomatch y.2) λv=>(nk v.2).elim (λy=>nomatch y.2) λw=>.inr ⟨_,.inr (.inr ⟨c4 y.1,Int.not_le.mp (hy w.1),iy.mp (hy v.1),aa⟩),w.2⟩) λf7=>.inr ⟨s,.inl ⟨?_,aa⟩,f7.2⟩
 exact(D.op ins hi).1.resolve_left (hy ek.1)|>.resolve_left (hy j5.1)|>.resolve_left (hy m2.1)|>.resolve_left (hy lj.1)|>.resolve_left (hy f7.1)
theorem Nj(h:x∈kc c i j):∃cl∈c.cs,cl.t0<=i/\i<cl.t1/\c.bad cl=0/\(x=(cl.h0,c.jO cl,j)\/cl.s=1/\x=(cl.x,[12],j)):=
 (pM.mp h).elim λy w=>(lL w.2).elim (λz=>⟨y.1,List.mem_of_getElem? (oc w.1),c4 (df (df z.1).1).1,c4 (df (df z.1).1).2,c4 (df z.1).2,(fS.mp z.2).elim .inl λz=>(lL z).elim (λz=>.inr ⟨c4 z.1,dv.mp z.2⟩) λz=>nomatch z.2⟩) λz=>nomatch z.2
theorem Rl(aK:cl∈c.cs)(h0:cl.t0<=i)(h1:i<cl.t1)(bb:c.bad cl=0):(cl.h0,c.jO cl,j)∈kc c i j/\(cl.s=1->(cl.x,[12],j)∈kc c i j):=by
 have e:qf c i j cl=(cl.h0,c.jO cl,j)::aG (aA cl.s 1) [(cl.x,[12],j)] []:=by unfold qf;rw[cD h0,cD h1,show aA (c.bad cl) 0=ak from cD bb];rfl
 have m:∀x∈qf c i j cl,x∈kc c i j:=λx h=>(tN.mp aK).elim λk az=>pM.mpr ⟨(cl,k),tO.mpr az,h⟩
 rw[e]at m
 exact⟨m _ dI,λs1=>m _ (by rw[show aA cl.s 1=ak from cD s1];exact iL _ dI)⟩
def wJ(c:cO)(bp:aB)(p:ae)(s:af ag)(j:ag):Prop:=p<c.code.length/\(j=1\/j=0/\bp=ak)/\s.length<=9/\∃z,s=val c j z/\p1 c p z/\∀k∈s,0<=k
theorem bc8{z:p2}(h:val c j z≠[]):∃a o,z=a++[o]:=(Ed z).elim (λe=>aV (aU (val c j) e) h) λy=>y.elim λa y=>y.elim λo e=>⟨a,o,e.trans AM⟩
theorem Rm(D:jL c bp gv)(L:wJ c bp p s j)(h:x∈nD c p s j):wJ c bp x.1.toNat x.2.1 x.2.2/\(x.1.toNat:ag)=x.1/\x.2.2=j/\¬(x.2.1≠[]/\x.1∈c.cs.map Cl.t0):=by
 have d9:∀{g:ag}{k:ag},0<=g->g<c.code.length->nQ c g k->wJ c bp g.toNat [k] j/\(g.toNat:ag)=g/\j=j/\¬(([k]:af ag)≠[]/\g∈c.cs.map Cl.t0):=λ{g k} h0 h1 bb=>
  have e:(g.toNat:ag)=g:=ji h0
  ⟨⟨(AL h0).mpr h1,L.2.1,iz aa,[ab k],aa,.jO (e.symm▸bb),λu dm=>dv.mp dm▸D.k1 _ _ bb⟩,e,aa,λy=>D.OQ _ _ bb y.2⟩
 have ke:∀{g:ag},0<=g->g<c.code.length->wJ c bp g.toNat [] j/\(g.toNat:ag)=g/\j=j/\¬(([]:af ag)≠[]/\g∈c.cs.map Cl.t0):=λh0 h1=>⟨⟨(AL h0).mpr h1,L.2.1,eL _,[],aa,.nil,nofun⟩,ji h0,aa,λy=>y.1 aa⟩
 rcases gO.mp h with h|h
 ·refine tn (Nj h) λcl aK U U bb e=> ?_
  have r:=D.zY cl aK
  have jn:=eE r.1 (eE (hJ r.2.1) r.2.2.1)
  have a1:=oA r.2.2.2.1 r.2.2.2.2.1
  rcases e with e|⟨s1,e⟩<;>rw[e]
  ·rcases D.fit cl aK bb with⟨k,e,_⟩|e
   ·exact aD e (d9 (g:=cl.h0) jn a1 ⟨cl,aK,bb,.inl ⟨aa,e⟩⟩)
   ·exact e▸ke (g:=cl.h0) jn a1
  ·have vH:=r.2.2.2.2.2 s1
   exact d9 (g:=cl.x) (eE (eE r.1 (hJ r.2.1)) vH.1) (Int.lt_trans vH.2 a1) ⟨cl,aK,bb,.inr ⟨s1,aa,aa⟩⟩
 ·rcases az:c.code[p]? with _|ins
  ·unfold gj at h;rw[az]at h;cases h
  ·unfold gj at h
   rw[az]at h
   have hi:=List.mem_of_getElem? az
   rcases aI6 D hi h with⟨o,z7,e⟩|⟨s',m,h⟩
   ·rcases(D.op ins hi).2.2 o with⟨g,cE⟩
    have e2:qc ins=(g:ag):=by unfold qc;rw[cE];rfl
    rw[e,e2]
    rw[e2]at z7
    exact ke (mq g) (Qs z7)
   ·refine Dr (aI2 h) λz7 e ne=> ?_
    rw[e]
    have dG:=Qs z7
    have bF:((p:ag)+1).toNat=p+1:=aa
    refine fH L.2.2.2 λz cV An nn=> ?_
    have st:∀jD,yK ins.op z jD->p1 c (p+1) jD:=λjD zm=>.inr (.inr ⟨λk bb=>D.OR p k bb z7,ins,z,az,An,zm⟩)
    refine⟨⟨(fh (n:=p+1)).mp dG,L.2.1,?_⟩,aa,aa,ne⟩
    rcases m with⟨o,w⟩|⟨o,ne,w⟩|⟨o,lt,f0,w⟩<;>rw[w]
    ·exact⟨L.2.2.1,z,cV,st _ (.inl ⟨o,aa⟩),nn⟩
    ·refine rE (bc8 (aR cV ne)) λa u dm=> ?_
     refine⟨by rw[Ek];exact aX (wy _ _) L.2.2.1,a,?_,st _ (.inr (.inl ⟨o,u,dm⟩)),λk h=>nn k (List.dropLast_subset s h)⟩
     rw[cV,dm]
     exact(aU List.dropLast (gA ..)).trans Tv
    ·have m9:=D.most
     refine⟨by rw[cK,AP];exact(fh (m:=9)).mp (oA lt m9),z++[aj],by rw[bc7,cV],st _ (.inr (.inr ⟨o,aa⟩)),λk h=>(gO.mp h).elim (nn k) λh=> ?_⟩
     rw[dv.mp h]
     cases aA j 0
     ·exact f0
     ·exact D.raw
theorem k6(D:jL c bp gv)(r:Re c gv p s j):wJ c bp p s j:=by
 induction r with
 |given h=>exact⟨(D.Gi _ _ h).1,(D.Gi _ _ h).2,eL _,[],aa,.nil,nofun⟩
 |step _ h aI=>exact(Rm D aI h).1
theorem zW(D:jL c bp gv)(r:Re c gv p s j)(h:x∈nD c p s j):∃q:ae,x.1=q/\Re c gv q x.2.1 j/\x.2.2=j/\¬(x.2.1≠[]/\x.1∈c.cs.map Cl.t0):=
 have w:=Rm D (k6 D r) h
 ⟨_,w.2.1.symm,aR w.2.2.1 (.step r h),w.2.2⟩
theorem PS(D:jL c bp gv)(r:Re c gv p s j)(ei:Re c gv p s' j')(e:s.length=s'.length):∃z,s=val c j z/\s'=val c j' z:=by
 refine fH ((k6 D r).2.2.2) λz h An U=> ?_
 refine fH ((k6 D ei).2.2.2) λjD h' I5 U=> ?_
 refine⟨z,h,?_⟩
 rw[h']at e|-
 rw[h]at e
 unfold val at e
 rw[cN,cN]at e
 rw[An.uniq D I5 e]
def l2(c:cO)(gv:eM):Prop:=∃p s s' j j',Re c gv p s j/\Re c gv p s' j'/\s.length≠s'.length
end
abbrev hv:=af ag×ag
abbrev lC:=ae->af hv
def nC(f:ae->ae):ae->ae
 |0=>0
 |n+1=>nC f n+f n
theorem aY6{f g:ae->ae}{n:ae}(h:∀q<n,f q=g q):nC f n=nC g n:=by
 induction n with
 |zero=>rfl
 |succ n aI=>
  show nC f n+f n=nC g n+g n
  rw[aI λq b4=>h q (wx b4),h n (kM n)]
theorem QL{f g:ae->ae}{p n:ae}(a7:p<n)(h:∀q,q≠p->f q=g q)(e:f p+1<=g p):nC f n+1<=nC g n:=by
 induction n with
 |zero=>cases a7
 |succ n aI=>
  show nC f n+f n+1<=nC g n+g n
  by_cases z:p=n
  ·have w:=aY6 (f:=f) (g:=g) (n:=n) λq b4=>h q (by lia)
   rw[w,wt,←z]
   exact gC e _
  ·have w:=aI (by lia)
   have u:=h n (pR z)
   lia
theorem Ir{m:ae}:∀n,nC (λU=>m) n=n*m
 |0=>(Nat.zero_mul m).symm
 |n+1=>(aU (·+m) (Ir n)).trans (Nat.succ_mul n m).symm
def md(ss:lC)(p:ae)(x:hv):lC:=λq=>if q=p then ss p++[x]else ss q
structure LW(c:cO)(gv:eM)(ss:lC)(fs:af (ag×ag))(todo:af ko):Prop where
 gi:∀p i,(p,i)∈gv->([],i)∈ss p\/((p:ag),([]:af ag),i)∈todo
 re:∀p x,x∈ss p->Re c gv p x.1 x.2
 ay:∀y∈todo,∃p:ae,y.1=p/\Re c gv p y.2.1 y.2.2
 cl:∀p x,x∈ss p->∀y∈nD c p x.1 x.2,y.2∈ss y.1.toNat\/y∈todo
 u7:∀p x,x∈ss p->∀f,(gj c p x.1 x.2).1=ab f->f∈fs
 y7:∀f∈fs,∃p s j,Re c gv p s j/\(gj c p s j).1=ab f
 cx:fs.Nodup
 sn:∀p,(ss p).Nodup
 ev:∀p x y,x∈ss p->y∈ss p->x.1.length=y.1.length
section
variable{c:cO}{bp:aB}{gv:eM}{ss:lC}{fs gf:af (ag×ag)}{t todo:af ko}{p q:ae}{s:af ag}{j:ag}{x:hv}
theorem H2:md ss p x p=ss p++[x]:=bk rfl
theorem xl{y:hv}(h:y∈md ss p x q):y∈ss q\/q=p/\y=x:=by
 unfold md at h
 by_cases z:q=p
 ·rw[bk z]at h;exact(gO.mp h).imp (z▸id) λh=>⟨z,dv.mp h⟩
 ·rw[bh z]at h;exact .inl h
theorem aM1{y:hv}(h:y∈ss q):y∈md ss p x q:=by
 unfold md
 by_cases z:q=p
 ·rw[bk z];exact mv _ (aR z h)
 ·rw[bh z];exact h
theorem aM0:x∈md ss p x p:=by rw[H2];exact lW _ dI
theorem aB1:LW c gv (λU=>[]) [] (gv.map λx=>((x.1:Int),([]:af ag),x.2))where
 gi:=λp i h=>.inr (eS.mpr ⟨(p,i),h,aa⟩)
 re:=λU U h=>aV h oB
 ay:=λy h=>(eS.mp h).elim λx w=>⟨x.1,aR w.2 aa,aR w.2 (.given w.1)⟩
 cl:=λU U h=>aV h oB
 u7:=λU U h=>aV h oB
 y7:=λU h=>aV h oB
 cx:=.nil
 sn:=λU=>.nil
 ev:=λU U U h=>aV h oB
theorem aB0(L:LW c gv ss fs (t++[((p:ag),s,j)]))(h:(s,j)∈ss p):LW c gv ss fs t:=
 have go:∀{y:ko},y∈t++[((p:ag),s,j)]->y.2∈ss y.1.toNat\/y∈t:=λm=>(gO.mp m).elim .inr λm=>.inl (aD (dv.mp m) h)
 {L with gi:=λp i h=>(L.gi p i h).elim .inl go,ay:=λy h=>L.ay y (mv _ h),cl:=λp x h y aQ=>(L.cl p x h y aQ).elim .inl go}
theorem aA9(D:jL c bp gv)(L:LW c gv ss fs (t++[((p:ag),s,j)]))(h:(s,j)∉ss p)(dm:∀x∈ss p,x.1.length=s.length)(f1:∀f∈fs,f∈gf)(f2:∀f,(gj c p s j).1=ab f->f∈gf)(cz:∀f∈gf,f∈fs\/(gj c p s j).1=ab f)(cx:gf.Nodup):
  LW c gv (md ss p (s,j)) gf (t++nD c p s j):=
 have r:Re c gv p s j:=(L.ay _ (lW _ dI)).elim λq w=>aD (lx w.1) w.2
 have go:∀{y:ko},y.2∈ss y.1.toNat\/y∈t++[((p:ag),s,j)]->y.2∈md ss p (s,j) y.1.toNat\/y∈t++nD c p s j:=λm=>m.elim (λm=>.inl (aM1 m)) λm=>(gO.mp m).elim (λm=>.inr (mv _ m)) λm=>.inl (aD (dv.mp m) aM0)
 {gi:=λp i h=>go (y:=((p:ag),[],i)) (L.gi p i h)
  re:=λq x h=>(xl h).elim (L.re q x) λw=>aD w.2 (aD w.1 r)
  ay:=λy h=>(gO.mp h).elim (λh=>L.ay y (mv _ h)) λh=>(zW D r h).elim λq w=>⟨q,w.1,aD w.2.2.1 w.2.1⟩
  cl:=λq x h y aQ=>(xl h).elim (λh=>go (L.cl q x h y aQ)) λw=>.inr (lW _ (by rw[w.1,w.2]at aQ;exact aQ))
  u7:=λq x h f hf=>(xl h).elim (λh=>f1 _ (L.u7 q x h f hf)) λw=>f2 f (by rw[w.1,w.2]at hf;exact hf)
  y7:=λf h=>(cz f h).elim (L.y7 f) λe=>⟨p,s,j,r,e⟩
  cx:=cx
  sn:=λq=>by
   unfold md
   by_cases z:q=p
   ·rw[bk z];exact AQ.mpr ⟨L.sn p,pO.mpr ⟨oB,.nil⟩,λa cg b bb e=>h (aR (dv.mp bb) (aR e cg))⟩
   ·rw[bh z];exact L.sn q
  ev:=λq x y aE aQ=>(xl aE).elim (λaE=>(xl aQ).elim (L.ev q x y aE) λw=>aD w.2 (dm x (aR w.1 aE))) λv=>(xl aQ).elim (λaQ=>aD v.2 (dm y (aR v.1 aQ)).symm) λw=>aD v.2 (aR w.2 aa)}
theorem sL(L:LW c gv ss fs []){i:ag}:Re c gv p s i↔(s,i)∈ss p:=by
 refine⟨λr=> ?_,L.re p (s,i)⟩
 induction r with
 |given h=>exact(L.gi _ _ h).resolve_right nofun
 |step _ h aI=>exact(L.cl _ _ aI _ h).resolve_right nofun
theorem aA8(L:LW c gv ss fs []):¬ l2 c gv:=λh=>by
 refine Ds h λp s s' j j' r ei ne=> ?_
 exact ne (L.ev p _ _ ((sL L).mp r) ((sL L).mp ei))
theorem G'(D:jL c bp gv)(L:LW c gv ss fs todo):(ss p).length<=2:=by
 rcases e:ss p with _|⟨a,_|⟨b,_|⟨d,l⟩⟩⟩
 ·exact eL _
 ·exact iz aa
 ·exact da _
 ·have cx:=e▸L.sn p
  have Ha:a∈ss p:=aD e dI
  have mQ:b∈ss p:=aD e (iL _ dI)
  have hV:d∈ss p:=aD e (iL _ (iL _ dI))
  have two:∀{x y:hv},x∈ss p->y∈ss p->x.2=y.2->x=y:=λ{x y} aE aQ h=>(PS D (L.re p x aE) (L.re p y aQ) (L.ev p x y aE aQ)).elim λz w=>tT (w.1.trans (aD h w.2.symm)) h
  have one:∀{x:hv},x∈ss p->x.2=1\/x.2=0:=λaE=>(k6 D (L.re p _ aE)).2.1.imp id ye
  have d9:a≠b:=λh=>(pO.mp cx).1 (aR h dI)
  have e4:a≠d:=λh=>(pO.mp cx).1 (aR h (iL _ dI))
  have k3:b≠d:=λh=>(pO.mp (pO.mp cx).2).1 (aR h dI)
  rcases one Ha with u|u<;>rcases one mQ with v|v<;>rcases one hV with w|w
  all_goals first|exact aV (two Ha mQ (u.trans v.symm)) d9|exact aV (two Ha hV (u.trans w.symm)) e4|exact aV (two mQ hV (v.trans w.symm)) k3
theorem nq{b:aB}{u v:Out}(h:u.2.length<=1)(g:v.2.length<=1):(aG b u v).2.length<=1:=by
 cases b
 ·exact g
 ·exact h
theorem bd9(D:jL c bp gv):(nD c p s j).length<=121:=by
 unfold nD
 rw[cK]
 have h1:(kc c p j).length<=2*60:=aX (F7 (f:=λx:Cl×ae=>qf c p j x.1) (λx=>an5 x.1) c.cs.zipIdx) (by rw[rO];exact Nat.mul_le_mul_left 2 D.dc)
 have ro:∀{a b:ag},(iC a b).2.length<=1:=eL _
 have HQ:∀s,(hB c p s j).2.length<=1:=λs=>by unfold hB;exact nq ro (nq ro (nq ro (da _)))
 refine(nL h1 ?_ :_<=2*60+1)
 unfold gj
 cases c.code[p]? with
 |none=>exact eL _
 |some ins=>
  show(l9 ..).2.length<=1
  unfold l9
  exact nq ro (nq ro (nq (nq ro (da _)) (nq (eL _) (nq (nq ro (HQ _)) (nq (nq ro (nq ro (HQ _))) (HQ _))))))
end
section
variable{σ ah:H}{l s:af ag}{a b t u m:ae}
theorem bd2:lT (fx σ (m+1)) (aL l) (aL s)=ab (decide (l=s)):=by
 induction l generalizing s with
 |nil=>
     rcases s with _|⟨_,_⟩
     ·rfl
     ·rfl
 |cons x l aI=>
         rcases s with _|⟨y,s⟩
         ·rfl
         ·show(ab (decide (x=y))).bind (λx=>(lT (fx σ (m+1)) (aL l) (aL s)).map (x&&·))=_
          rw[aI]
          refine aU ab ((AE ..).symm.trans (decide_eq_decide.mpr ?_))
          rw[bj9]
theorem IS(cg:σ a=ab ⟨t,.l (aL l)⟩)(bb:σ b=ab ⟨u,.l (aL s)⟩):fx σ (m+2) (.r a) (.r b)=ab (decide (l=s)):=by
 show((lst σ a).bind λl=>(lst σ b).bind λm'=>if l.length=m'.length then lT (fx σ (m+1)) l m' else ab av)=_
 rw[o9 cg,o9 bb]
 show(if(aL l).length=(aL s).length then lT (fx σ (m+1)) (aL l) (aL s)else ab av)=_
 rw[gI,gI,bd2]
 by_cases z:l.length=s.length
 ·rw[bk z]
 ·rw[bh z,de λe=>z (aU yk e)]
theorem bc9{α:Type} [j6 α]{R:V->α->Prop}{x:α}{w:V}{l:af V}{m:af α}(h:∀v y,R v y->fx σ 8 v w=ab (decide (y=x)))(f:dk R l m):m1 σ w l=ab (decide (x∈m)):=by
 induction m generalizing l with
 |nil=>
     rcases l with _|⟨_,_⟩
     ·rfl
     ·exact f.elim
 |cons y m aI=>
         rcases l with _|⟨v,l⟩
         ·exact f.elim
         ·show(fx σ 8 v w).bind (λa=>(m1 σ w l).map (a||·))=_
          rw[h v y f.1,aI f.2]
          refine aU ab ((JK ..).symm.trans (decide_eq_decide.mpr ?_))
          rw[fS,JE]
end
def mX(σ:H)(v:V)(x:hv):Prop:=∃a,v=.t [.r a,.i x.2]/\σ a=ab ⟨1,.l (aL x.1)⟩
abbrev rX:ae->aB:=λt=>fI 18 t
def room(c:cO)(ss:lC):ae:=nC (λq=>2 - (ss q).length) c.code.length
theorem vn{a p:ae}(h:fI 100 a=av):a≠100+p:=λe=>by rw[e,gP.mpr (en ..)]at h;cases h
theorem IZ{m S T:ae}(h:m=122*S+(T+1)):T+122*S<m:=by rw[h,ym];exact kM _
theorem bf2{m S er T W:ae}(h:m=122*S+(T+1))(l8:er+1<=S)(w:W<=121):122*er+(T+W)<m:=by lia
theorem q5{a b:ae}(h:a≠b):cf a b=av:=by
 rcases e:cf a b with _|_
 ·rfl
 ·exact aV (AR e) h
def pZ(bu:af ae)(a:ae)(σ:H)(ss:lC):Prop:=σ a=ab ⟨20,.l (bu.map .r)⟩/\∀p b,bu[p]? =ab b->∃ls,σ b=ab ⟨100+p,.l ls⟩/\dk (mX σ) ls (ss p)
section
variable{σ ah:H}{a b n p q:ae}{bu:af ae}{ss:lC}{s:af ag}{j:ag}{S:ae->aB}{v w:V}{ls:af V}{x:hv}{Q:bQ}{E:bR}{c:cO}{bp:aB}{gv:eM}{A:i4}
theorem mX.fr(h:mX σ v x)(f:Fr S σ ah)(z:S 1=av):mX ah v x:=h.elim λa y=>⟨a,y.1,f _ _ y.2 z⟩
theorem pZ.fr(h:pZ bu a σ ss)(g:Fr S σ ah)(z:S 1=av)(ll:S 20=av)(dZ:∀p,S (100+p)=av):pZ bu a ah ss:=⟨g _ _ h.1 ll,λp b bb=>(h.2 p b bb).elim λls w=>⟨ls,g _ _ w.1 (dZ p),w.2.mono λU U U h=>h.fr g z⟩⟩
theorem pZ.put(h:pZ bu a σ ss)(bb:bu[p]? =ab b)(o:σ b=ab ⟨100+p,.l ls⟩)(F:dk (mX σ) ls (ss p))(a4:mX σ v x):pZ bu a (aC σ b ⟨100+p,.l (ls++[v])⟩) (md ss p x):=by
 have g:Fr (λt=>cf t (100+p)) σ (aC σ b ⟨100+p,.l (ls++[v])⟩):=Fr.upd Fr.rfl o (Er _)
 have m:∀u x,mX σ u x->mX (aC σ b ⟨100+p,.l (ls++[v])⟩) u x:=λu x h=>h.fr g (q5 (vn aa))
 refine⟨g _ _ h.1 (q5 (vn aa)),λq cL b4=> ?_⟩
 unfold md
 by_cases z:q=p
 ·rw[z,bb]at b4
  rw[bk z,z,←cR b4];exact⟨_,bc,(F.mono λv x U=>m v x).app (.one (m _ _ a4))⟩
 ·rw[bh z]
  refine b5 (h.2 q cL b4) λl o' Va=> ?_
  exact⟨l,(iu λe=>z (by rw[e,o]at o';have w:=aU O.tag (cR o');exact(Nat.add_left_cancel w).symm)).trans o',Va.mono λv x U=>m v x⟩
theorem aS2{hd:aw ae}{lm:bf}{over:af aW}{r:af St}{k:cT}{t m:ae}{l:af V}(z:hd=aj)(aO:nX hd n σ lm over [.r p])(o:σ p=ab ⟨t,.l l⟩)(ax:l.length<=1000)(q:∀a bu ah,Ext σ ah->bu.length=l.length->pZ bu a ah (λU=>[])->aH hd n r (lm.set m (ab (.r a))) ah k):
  aH hd n (.a m (.C (.L []) 1 .i over [] [])::r) lm σ k:=by
 have go:∀(ei:af V)(bu:af ae)(ah:H),Ext σ ah->bu.length+ei.length=l.length->(∀(p:ae) b,bu[p]? =ab b->ah b=ab ⟨100+p,.l []⟩)->
   yX (λx acc σ K=>∃vs,lS 1 x=ab vs/\0<=bN/\vNew (.l []) σ λv σ=>acc.length<bN/\K (acc++[v]) σ) (λah=>∃t,ah p=ab ⟨t,.l l⟩) ei (bu.map .r) ah λacc ah=>vNew (.l acc) ah λv ah=>aH hd n r (lm.set m (ab v)) ah k:=by
  intro ei
  induction ei with
  |nil=>exactλbu ah x e h=>⟨⟨t,x _ _ o⟩,λa na=>⟨20,ai,q a bu _ (x.ay (Ext.rfl.new na)) e ⟨bc,λp b bb=>⟨[],fO na (h p b bb),trivial⟩⟩⟩⟩
  |cons y ei aI=>
   refineλbu ah x e h=>⟨⟨t,x _ _ o⟩,[y],aa,eL _,λa na=>⟨100+bu.length,(vn aa).symm,by rw[cN];exact d7 (aX (en _ _) (aD e ax)) ai,?_⟩⟩
   rw[show bu.map V.r++[.r a]=(bu++[a]).map .r from(gA (f:=V.r) (l₁:=bu) (l₂:=[a])).symm]
   refine aI _ _ (x.ay (Ext.rfl.new na)) (by rw[cK];exact(qI ..).trans e) λp b bb=> ?_
   rcases Et p bu.length with w|w
   ·rw[wk w]at bb;exact fO na (h p b bb)
   ·rw[Ef w]at bb
    rcases e:p - bu.length with _|i
    ·rw[e]at bb
     rw[←cR bb,show p=bu.length from Es (Nat.le_of_sub_eq_zero e) w];exact bc
    ·rw[e]at bb;cases bb
 exact⟨z,aO _ _ (.list o (go l [] σ Ext.rfl (iA _) nofun))⟩
theorem Rf{u:hv}{b:ae}(bb:σ b=ab ⟨1,.l (aL x.1)⟩)(h:mX σ v u):fx σ 8 v (.t [.r b,.i x.2])=ab (decide (u=x)):=by
 refine b5 h λa e o=> ?_
 rw[e]
 show(fx σ 7 (.r a) (.r b)).bind (λy=>ab (y&&(decide (u.2=x.2)&&ak)))=_
 rw[IS o bb,yg]
 exact aU ab ((AE ..).symm.trans (decide_eq_decide.mpr Ks.symm))
theorem as9{t:ae}{l:af hv}(bb:σ a=ab ⟨1,.l (aL x.1)⟩)(o:σ b=ab ⟨t,.l ls⟩)(F:dk (mX σ) ls l):j3 σ .m (.t [.r a,.i x.2]) (.r b)=ab (decide (x∈l)):=(sE o).trans ((bc9 (λU U h=>Rf bb h) F).trans (aU ab (decide_eq_decide.mpr JX)))
theorem Ck{t:ae}{f:ag×ag}{l:af (ag×ag)}(o:σ b=ab ⟨t,.l (l.map c')⟩):j3 σ .M (c' f) (.r b)=ab (!decide (f∈l)):=aU (oE (!·)) ((sE o).trans IP)
inductive Lc(c:cO)(gv:eM)(σ:H)(bu:af ae)(a2 fB b m:ae)(ah:H):Prop
 |mk (x:Fr rX σ ah) (ss:lC) (fs:af (ag×ag)) (IC:af V) (todo:af ko):LW c gv ss fs todo->pZ bu a2 ah ss->ah fB=ab ⟨22,.l (fs.map c')⟩->ah b=ab ⟨23,.l IC⟩->dk (j4 ah) IC todo->m=122*room c ss+todo.length->m<=20000->fs.length+room c ss<=120->Lc c gv σ bu a2 fB b m ah
theorem ay8{ga:ae}{gl:af V}(D:jL c bp gv)(C:j9 c A σ)(pg:σ ga=ab ⟨23,.l gl⟩)(oI:dk (j4 σ) gl (gv.map λx=>((x.1:Int),([]:af ag),x.2)))
  (bT:∀ah ss fs bu a b,Fr rX σ ah->bu.length=c.code.length->pZ bu a ah ss->ah b=ab ⟨22,.l (fs.map c')⟩->LW c gv ss fs []->Q (.t [.r a,.r b,.b ak]) ah)(bE:∀ah a b,Fr rX σ ah->l2 c gv->Q (.t [.r a,.r b,.b av]) ah):W (n+5) 103 [.r A.d,.r ga] σ Q E:=by
 refine bD aa rfl (aS2 aa (.c (.d C.o aa rfl) .N) C.ac (by rw[cN];exact aX D.n ai) λa2 bu aJ aM hf b9=>kg 22 ai (.L .N hC) λfB k3=>Qm (λb:ae×aw V×aw V×aw V×aw V×aw V=>[ab (.r A.d),ab (.r b.1),ab (.r a2),ab (.r fB),b.2.1,b.2.2.1,b.2.2.2.1,b.2.2.2.2.1,b.2.2.2.2.2])
  (λm b ah=>Lc c gv σ bu a2 fB b.1 m ah) (122*nC (λU=>2) c.code.length+gv.length) (ga,aj,aj,aj,aj,aj) aa rfl ?_ λm b ah i=> ?_)
 ·have bl:Ext σ (aC aJ fB ⟨22,.l []⟩):=aM.ay (Ext.rfl.new k3)
  have nn:=D.n
  have gl:=D.gl
  have QJ:=Ir (m:=2) c.code.length
  exact⟨bl.fr,_,[],_,_,aB1,b9.fr (S:=du) (Ext.rfl.new k3).fr aa rfl λU=>aa,bc,bl _ _ pg,oI.fr (S:=du) bl.fr aa,by rw[cN];rfl,QJ▸aX (nL (Nat.mul_le_mul_left 122 (Km 2 nn)) gl) ai,aX (eK ((iA _).trans QJ)) (Km 2 nn)⟩
 rw[cN]at hf
 rcases i with⟨x,ss,fs,IC,todo,L,K4,o3,fZ,F,hm,y',b4⟩
 refine⟨_,_,ne_nil (.p aa) fZ,λU U=>aa,λz a3 y=> ?_,λz a3 y K bV=> ?_⟩
 ·rw[Kd.mp (qo z)]at F
  have e:todo=[]:=pL.mp F.len.symm
  exact bP (.p aa) (bT _ ss fs bu _ _ (x.ay y.fr) hf (K4.fr (S:=du) y.fr aa rfl λU=>aa) (y _ _ o3) (e▸L))
 rcases Ed todo with e|⟨t,⟨g,s,j⟩,e⟩
 ·rw[e]at F;rw[pL.mp F.len]at z;cases z
 rw[AM]at e
 rw[e]at F L hm
 rcases F.snoc with⟨qu,v,ev,Vb,a,Fx,di⟩
 refine b5 (L.ay _ (lW _ dI)) λp ra r=> ?_
 have ra:g=(p:ag):=ra
 subst ra
 have hm:m=122*room c ss+(t.length+1):=hm.trans (aU _ cK)
 rw[ev,Fx]at fZ
 have pl:=(k6 D r).1
 have qb:=f9 (hf.symm▸pl:p<bu.length)
 generalize bu[p]=cL at qb
 have cz:Fr (λt=>cf t 23) ah (aC a3 b.1 ⟨23,.l qu⟩):=y.fr.upd (y _ _ fZ) aa
 have es:=K4.fr cz aa rfl λp=>q5 (vn aa).symm
 have wD:=(C.fr x aa).fr cz aa
 have jM:=Vb.fr cz aa
 have o3:=cz _ _ o3 aa
 have di:=cz _ _ di aa
 have bH:Fr rX σ (aC a3 b.1 ⟨23,.l qu⟩):=(x.ay y.fr).upd (y _ _ fZ) aa
 refine aT1 aa (.p aa) (y _ _ fZ) ai aa ?_
 have fZ:aC a3 b.1 ⟨23,.l qu⟩ b.1=ab ⟨23,.l qu⟩:=bc
 generalize aC a3 b.1 ⟨23,.l qu⟩=bM at*
 refine b5 (es.2 p cL qb) λls b3 qO=> ?_
 have ps:∀{cC:H},Ext bM cC->ck aj (n+4) cC [ab (.r A.d),ab (.r b.1),ab (.r a2),ab (.r fB),ab (.i p),ab (.r a),ab (.i j),b.2.2.2.2.1,b.2.2.2.2.2] (.u (.l 2) (.l 4)) (.r cL):=λx4=>.bC (.p aa) (.p aa) (fF (x4 _ _ es.1) (kS qb))
 refine eR (.q (.p aa) (ps Ext.rfl) (as9 (x:=(s,j)) di b3 qO)) (λw=>C3 (bV (t.length+122*room c ss) (b.1,ab (.i p),ab (.r a),ab (.i j),b.2.2.2.2.1,b.2.2.2.2.2) bM ?_ ⟨bH,ss,fs,qu,t,aB0 L (c4 w),es,o3,fZ,jM,ym ..,?_,b4⟩)) λw=> ?_
 ·exact IZ hm
 ·exact aX (jk (IZ hm)) y'
 have ns:=hy w
 have p9:gj c p s j=l9 c p c.code[p] (qc c.code[p]) s j:=by unfold gj;rw[f9 pl]at|-;rfl
 have dm:∀x0 l,ss p=x0::l->x0.1.length=s.length->∀x∈ss p,x.1.length=s.length:=λx0 l e h x aE=>(L.ev p x x0 aE (e▸dI)).trans h
 have rest:(∀x∈ss p,x.1.length=s.length)->∀{cC:H},Ext bM cC->aH aj (n+4) [.e (.m (.u (.l 2) (.l 4)) 0 [.t [.l 5,.l 6]]),.kh [7,8] (.f 102 [.l 0,.l 4,.l 5,.l 6]),.i (.A (.p .I (.l 7) .n) (.p .M (.l 7) (.l 3))) [.e (.m (.l 3) 0 [.l 7])] [],.a 1 (.o .a (.l 1) (.l 8))]
   [ab (.r A.d),ab (.r b.1),ab (.r a2),ab (.r fB),ab (.i p),ab (.r a),ab (.i j),b.2.2.2.2.1,b.2.2.2.2.2] cC (km K (fz Q E)):=λdm cC x4=>by
  have b3:=x4 _ _ b3
  have qO:dk (mX cC) ls (ss p):=qO.mono λU U U h=>h.fr (S:=du) x4.fr aa
  have hL:=es.fr (S:=du) x4.fr aa rfl λU=>aa
  have di:=x4 _ _ di
  have d2:(ss p).length<=2:=G' D L
  refine fw (ps x4) (.p aa) b3 (vn aa).symm (by rw[qO.len];exact d7 d2 ai) ?_
  have ju:Fr (λt=>fI 100 t) cC (aC cC cL ⟨100+p,.l (ls++[.t [.r a,.i j]])⟩):=Fr.upd Fr.rfl b3 (gP.mpr (en _ _))
  have i5:=hL.put qb b3 qO (x:=(s,j)) ⟨a,aa,di⟩
  have fR:Fr rX σ (aC cC cL ⟨100+p,.l (ls++[.t [.r a,.i j]])⟩):=(bH.ay x4.fr).upd b3 (gP.mpr (aX ai (en 100 p)))
  have up:∀{d:ae}{o':O},bM d=ab o'->fI 100 o'.tag=av->aC cC cL ⟨100+p,.l (ls++[.t [.r a,.i j]])⟩ d=ab o':=λh z=>ju _ _ (x4 _ _ h) z
  have fZ:=up fZ aa
  have o3:=up o3 aa
  have UD:=(wD.fr x4.fr (S:=du) aa).fr ju aa
  have EO:=(jM.fr x4.fr (S:=du) aa).fr ju aa
  have di:=ju _ _ di aa
  generalize aC cC cL ⟨100+p,.l (ls++[.t [.r a,.i j]])⟩=σ5 at*
  have hi:=Ei pl
  refine Ql aa (.p aa) (ay2 (g:=qc c.code[p]) D.dc UD di (f9 pl) (λo=>((D.op _ hi).2.2 o).elim λg e=>by unfold qc;rw[e];rfl) (aX (k6 D r).2.2.1 ai) λh7 w vs fp f3 oH=>⟨_,aa,aa,?_⟩)
  have wl:=bd9 D (p:=p) (s:=s) (j:=j)
  have oH:dk (j4 h7) vs (nD c p s j):=by unfold nD;rw[p9];exact oH
  rw[←p9]
  have fin:∀(gf:af (ag×ag)) iI fQ,Fr (λt=>cf t 22) h7 iI->iI fB=ab ⟨22,.l (gf.map c')⟩->(∀f∈fs,f∈gf)->(∀f,(gj c p s j).1=ab f->f∈gf)->(∀f∈gf,f∈fs\/(gj c p s j).1=ab f)->gf.Nodup->gf.length<=fs.length+1->
    aH aj (n+4) [.a 1 (.o .a (.l 1) (.l 8))] [ab (.r A.d),ab (.r b.1),ab (.r a2),ab (.r fB),ab (.i p),ab (.r a),ab (.i j),fQ,ab (.r w)] iI (km K (fz Q E)):=λgf iI fQ lU hE f1 f2 cz cx ai9=>by
   have nU:=aA9 D L ns dm f1 f2 cz cx
   have d2:=G' D nU (p:=p)
   rw[H2,cK]at d2
   have sd:=QL (f:=λq=>2 - (md ss p (s,j) q).length) (g:=λq=>2 - (ss q).length) pl (λq b4=>by unfold md;rw[bh b4]) (by show 2 - (md ss p (s,j) p).length+1<=_;rw[H2,cK,AP];exact eK (Nat.sub_add_eq 2 _ 1▸Uh (Nat.le_sub_of_add_le (by rw[ym]at|-;exact d2))))
   have B4:=jM.len
   have vo:=oH.len
   have l8:(t++nD c p s j).length=t.length+(nD c p s j).length:=cK
   have lb:(qu++vs).length=qu.length+vs.length:=cK
   have k:=l8▸bf2 hm sd wl
   have fZ:=lU _ _ (fp _ _ fZ aa) aa
   refine kg 23 ai (.add (.p aa) (.p aa) fZ (lU _ _ f3 aa) (by rw[lb,B4,vo];exact aX (nL (aX (aX (en _ _) (jk (IZ hm))) y') wl) ai)) λd sS=> ?_
   have vX:Fr (λt=>cf t 22) h7 (aC iI d ⟨23,.l (qu++vs)⟩):=lU.ay (Ext.rfl.new sS).fr
   have x9:Fr rX σ5 (aC iI d ⟨23,.l (qu++vs)⟩):=λb o h z=>vX _ _ (fp _ _ h (q5 λe=>by rw[e]at z;cases z)) (q5 λe=>by rw[e]at z;cases z)
   refine bV (122*room c (md ss p (s,j))+(t++nD c p s j).length) (d,ab (.i p),ab (.r a),ab (.i j),fQ,ab (.r w)) _ k ⟨fR.ay x9,_,gf,_,_,nU,(i5.fr fp aa rfl λp=>q5 (vn aa).symm).fr vX aa rfl λp=>q5 (vn aa).symm,(Ext.rfl.new sS) _ _ hE,bc,((EO.fr fp aa).fr vX aa).app (oH.fr vX aa),aa,aX (jk k) y',aX (nM ai9 _) (aX (eK (qI _ _)) (aX (gC sd _) b4))⟩
  rcases g5:(gj c p s j).1 with _|f
  ·exact dV (.wR (.p aa) aa) aa (fin fs h7 _ Fr.rfl (fp _ _ o3 aa) (λU=>id) (λf e=>nomatch g5.symm.trans e) (λU=>.inl) L.cx (mw _))
  ·refine eR (z:=ak&& !decide (f∈fs)) (.hN (.q (.p aa) .N aa) (.q (.p aa) (.p aa) (Ck (fp _ _ o3 aa)))) (λz=> ?_) λz=> ?_
   ·have kC:f∉fs:=λh=>by rw[cD h]at z;cases z
    have hE:=fp _ _ o3 aa
    refine fw (.p aa) (.p aa) hE ai (by rw[cN];exact d7 (aX (en _ _) b4) ai) (fin (fs++[f]) _ _ (Fr.upd Fr.rfl hE aa) ((bc.trans (by rw[gA];rfl))) (λU h=>mv _ h) (λih e=>lW _ (dv.mpr (cR (e.symm.trans g5)))) (λih h=>(gO.mp h).imp id λh=>g5.trans (aU ab (dv.mp h).symm)) ?_ (by rw[cK];exact da _))
    exact AQ.mpr ⟨L.cx,pO.mpr ⟨oB,.nil⟩,λa cg b bb e=>kC ((e.trans (dv.mp bb))▸cg)⟩
   ·have kC:f∈fs:=c4 (qo z)
    exact fin fs h7 _ Fr.rfl (fp _ _ o3 aa) (λU=>id) (λih e=>cR (g5.symm.trans e)▸kC) (λU=>.inl) L.cx (mw _)
 rcases e:ss p with _|⟨x0,l⟩
 ·rw[e]at qO
  have kW:=qO.len
  rw[pL.mp kW]at b3
  exact mi (b:=av) (xC (c:=av) (ne_nil (ps Ext.rfl) b3) nofun) (λU=>aa) nofun λU cC x4=>rest (by rw[e];exactλU h=>nomatch h) x4
 ·rw[e]at qO
  rcases qO.get (j:=0) aa with⟨v0,ev,jn,oZ,o0⟩
  rw[oZ]at ev
  have z:ls.isEmpty=av:=by
                   rcases ls with _|⟨_,_⟩
                   ·cases ev
                   ·rfl
  refine mi (v:=.b !decide (x0.1.length=s.length)) (b:= !decide (x0.1.length=s.length)) ?_ (λU=>aa) (λw cC x4=>bP (.p aa) (bE _ _ _ (bH.ay x4.fr) ⟨p,x0.1,s,x0.2,j,L.re p x0 (e▸dI),r,λe=>by rw[cD e]at w;cases w⟩)) λw cC x4=>rest (dm x0 l e (c4 (qo w))) x4
  have T:=xC (F:=W (n+4)) (hd:=aj) (e2:=.p .n (.B .l [.u (.u (.u (.l 2) (.l 4)) (.i 0)) (.i 0)]) (.B .l [.l 5])) (c:= !decide ((x0.1.length:ag)=s.length)) (ne_nil (ps Ext.rfl) b3) λU cC x4=>R.up (.og (.bi aa (.c (.bC (.bC (ps x4) .i (fF (x4 _ _ b3) (f5 (k:=0) ev))) .i (fG aa)) .N) (gI▸jz (x4 _ _ o0))) (.bi aa (.p aa) (gI▸jz (x4 _ _ di))))
  rw[z,show decide ((x0.1.length:ag)=s.length)=decide (x0.1.length=s.length)from decide_eq_decide.mpr Int.ofNat_inj]at T
  exact T
end
structure eG where
 (v kt host body ac al ew args ks ops told cc h6 iZ je ent p':ae)
 (owner tid flags ngen ret count:ag)
noncomputable section
def ow(A:eG)(cur:V)(at_:ag):af (ae×V):=[(34,.r A.host),(18,.r A.kt),(35,.r A.body),(36,.i 0),(37,.i A.owner),(38,.i A.tid),(39,.i A.flags),(40,.i A.ngen),(41,.i A.ret),(42,.r A.args),(43,.i A.count),(44,cur),(5,.i at_),
 (45,.r A.cc),(46,.r A.h6),(47,.r A.iZ),(48,.r A.je),(49,.r A.p'),(50,.r A.ent),(51,.r A.ks),(52,.r A.ops),(53,.r A.ew),(54,.r A.told)]
def ho(c:cO)(i:ag)(o:aw ag):ag:=o.getD (aG (!aA i 0) c.first c.raw)
def mF(σ:H)(a:ae)(s:af ag)(i:ag):Prop:=∃l,σ a=ab ⟨1,.i 7 [(31,.r l),(32,.i i),(33,.i 0)]⟩/\σ l=ab ⟨1,.l (aL s)⟩
abbrev mE(σ:H)(A:eG)(cur:V)(at_:ag):Prop:=σ A.v=ab ⟨2,.i 9 (ow A cur at_)⟩
def oL(σ:H)(e:ae)(code p:ag):Prop:=∃r,σ e=ab ⟨1,.e 2 [(4,.i code),(5,.i p)] r⟩
def IsFlt(σ:H)(e:ae)(f:ag×ag)(at_:ag):Prop:=oL σ e f.1 f.2\/f=(22,at_)/\∃r x y,σ e=ab ⟨1,.e 1 [(4,x),(5,y)] r⟩
abbrev b'(a b:ae):ae->aB:=λt=>fI a t&&fI t b
abbrev r5:ae->aB:=b' 2 10
abbrev lB:ae->aB:=b' 3 7
def z4(op:ag):ae:=aG (aA op 0) 11 (aG (aA op 38) 12 (aG (aA op 65033) 13 (aG (aA op 221) 15 14)))
end
structure fW(c:cO)(bp:aB)(gv:eM)(A:eG)(ba:H->Prop):Prop where
 js:jL c bp gv
 up:∀{σ ah},Fr r5 σ ah->ba σ->ba ah
 Q7:∀{σ ah},Fr rX σ ah->ba σ->ba ah
 body:∀{σ},ba σ->σ A.body=ab ⟨1,.i 4 [(14,.t []),(15,.i c.most),(4,.r A.ac),(16,.r A.al)]⟩
 code:∀{σ},ba σ->σ A.ac=ab ⟨1,.l (c.code.map eo.v)⟩
 cls:∀{σ},ba σ->σ A.al=ab ⟨1,.l (c.cs.map Cl.v)⟩
 ew:∀{σ},ba σ->σ A.ew=ab ⟨1,.i 10 [(16,.r A.al)]⟩
 ops:∀{σ},ba σ->∃(t:ae)(l:af (ag×V)),σ A.ops=ab ⟨t,.d l⟩/\(∀op∈([69,57]:af ag),cw l op=aj)/\∀op∈([0,38,65033,122,221,65050,220,65041]:af ag),∃r,cw l op=ab (.r r)/\σ r=ab ⟨1,.i (z4 op) []⟩
 OH:∀{σ n i ky},ba σ->(i=1/\ky=0\/i=0/\ky=1)->bp=ak->eA (W (n+4)) σ 50 [.r A.host,.i (ho c i aj),.i (ho c ky aj)] (.i (-1))
 kB:∀{σ n},ba σ->bp=ak->kk (W (n+4)) σ 51 [.r A.host,.i 1,.i c.first,.i c.raw] (.i c.raw)
 arg:∀{σ},ba σ->∃l,σ A.args=ab ⟨1,.l (aL l)⟩/\(c.first<0->l=[])/\(0<=c.first->∃k r,l=k::r/\∀n,eA (W (n+3)) σ 49 [.r A.host,.i k] (.i c.first))
 P9:∀{σ n},ba σ->bp=ak->kk (W (n+6)) σ 15 [.r A.kt,.i A.owner] (.i c.raw)
 cat:∀{σ n Q E cur at_},ba σ->mE σ A cur at_->∀x∈c.cs,x.s=0->(c.bad x≠20->c.bad x≠0->∀e ah,Ext σ ah->IsFlt ah e (c.bad x,at_) at_->E e ah)->(c.bad x=0\/c.bad x=20->∀k,0<=k->(c.bad x=0->c.jO x=[k])->∀ah,Ext σ ah->Q (.i k) ah)->W (n+8) 86 [.r A.v,.i x.x] σ Q E
section
variable{F:cy}{hd:aw ae}{σ ah:H}{lm:bf}{n t u a b l:ae}{c:cO}{bp:aB}{gv:eM}{A:eG}{ba:H->Prop}{e:aW}{ao:af aW}{y z:V}{d:dN}{Q:bQ}{X:bR}{i bK dK:ag}{s:af ag}{S:ae->aB}
theorem mF.fr(h:mF σ a s i)(f:Fr S σ ah)(z:S 1=av):mF ah a s i:=h.elim λl y=>⟨l,f _ _ y.1 z,f _ _ y.2 z⟩
theorem Fr.wide{S T:ae->aB}(f:Fr S σ ah)(h:∀t,T t=av->S t=av):Fr T σ ah:=λa o e s=>f a o e (h _ s)
theorem fE{a b e0 cL:ae}(f:Fr (b' a b) σ ah)(h1:fI e0 a=ak)(h2:fI b cL=ak):Fr (b' e0 cL) σ ah:=f.wide λt h=>mn.mpr λy=>mn.mp h (yf.mpr ⟨gP.mpr (aX (gP.mp h1) (gP.mp (df y).1)),gP.mpr (aX (gP.mp (df y).2) (gP.mp h2))⟩)
theorem R.M(h:R F hd σ lm e (.r l))(o:σ l=ab ⟨u,d⟩):M F hd σ lm e u d:=λU U q=>h _ _ (q l σ Ext.rfl o)
theorem bd5{x:V}(aS:t≠0)(q:Q .n (aC σ a ⟨t,.i 7 [(31,x),(32,y),(33,z)]⟩)):dQ aZ PP hd (n+1) 37 [.r a,x,y,z] (aC σ a ⟨t,.i 7 []⟩) Q X:=by
 refine bD (D:=MA) aa rfl (om (.L aa) (.L aa) bc aS (e3 aa) aa (om (.L aa) (.L aa) bc aS (e3 aa) aa (om (.L aa) (.L aa) bc aS (e3 aa) aa ?_)))
 rw[ti,ti,ti]
 exact q
theorem w4(t:ae)(aS:t≠0)(h:M (dQ aZ PP hd (n+1)) hd σ lm e u d)(g:∀ah,Ext σ ah->Rs (dQ aZ PP hd (n+1)) hd ah lm ao [y,z])(q:∀a b ah,Ext σ ah->ah a=ab ⟨t,.i 7 [(31,.r b),(32,y),(33,z)]⟩->ah b=ab ⟨u,d⟩->Q (.r a) ah):vE aZ (dQ aZ PP hd (n+1)) hd lm (.w 7 (e::ao)) σ Q X:=
 h _ _ λb aJ aM o=>g aJ aM _ _ (.init aa rfl (xk aa) λa na=>⟨t,aS,bd5 aS ⟨aa,q a b _ (aM.ay (Ext.rfl.new na)) bc (fO na o)⟩⟩)
theorem l4{p:ae}{s:af ag}(h:R F aj σ lm e (.r p))(o:σ p=ab ⟨t,.l (aL s)⟩):R F aj σ lm (.B .l [e]) (.i s.length):=.bi aa (.c h .N) (aR gI (jz o))
theorem L0{dd:ag}{t0 ID:ae}(t u:ae)(aS:t≠0)(dm:u≠0)(gK:σ a=ab ⟨t0,.i 7 [(31,.r l),(32,.i i),(33,.i dd)]⟩)(gU:σ l=ab ⟨ID,.l (aL s)⟩)(ax:s.length<=1000)
  (q:∀a b ah,Ext σ ah->ah a=ab ⟨t,.i 7 [(31,.r b),(32,.i i),(33,.i 0)]⟩->ah b=ab ⟨u,.l (aL s)⟩->Q (.r a) ah):W (n+2) 54 [.r a] σ Q X:=
 bD aa rfl (w4 (n:=n) (hd:=aj) t aS (M.map (its:=s) (free:=[]) u (λx=>.i x) (λx=>[.i x]) dm aa (.v gK aa rfl) (kF gU) (λU x=>⟨_,x _ _ gU⟩) (λU=>aa) ax λU U U U=>.p aa) (λU x=>.v (x _ _ gK) aa rfl) q)
theorem aC3{k:ag}{h:V}:eA (W (n+1)) σ 50 [h,.i k,.i k] (.i k):=λU U q=>bD aa rfl (gV (.p aa) (cD rfl) (bP (.p aa) q))
theorem aC1{k k':ag}{h:V}:eA (W (n+1)) σ 51 [h,.i 0,.i k,.i k'] (.i (-1)):=λU U q=>bD aa rfl (dV (.wR (.p aa) aa) aa (bP (.p aa) q))
theorem MK{α:Type}(h:α->V)(z:af α):z.zipIdx.flatMap (λx=>[h x.1])=z.map h:=(Ke (f:=λx:α×ae=>h x.1)).symm.trans ((nJ (f:=rS) (g:=h)).symm.trans (aU (En h) (List.zipIdx_map_fst ..)))
theorem itz_val(z:p2):aL (val c i z)=z.map λo=>.i (ho c i o):=nJ
def k2(a b:ag):ag:=aG (decide (b<a)) b a
theorem aC4(K:fW c bp gv A ba)(C:ba σ){z:p2}(h1:bK=1\/bK=0/\bp=ak)(h2:dK=1\/dK=0/\bp=ak)(d9:∀k∈val c bK z,0<=k)(e4:∀k∈val c dK z,0<=k)(cV:z.length<=9)(v1:mF σ a (val c bK z) bK)(v2:mF σ b (val c dK z) dK)
  (q:∀d ah,Ext σ ah->mF ah d (val c (k2 bK dK) z) (k2 bK dK)->Q (.r d) ah):W (n+5) 52 [.r A.host,.r a,.r b] σ Q X:=by
 refine b5 v1 λl1 gK c5=> ?_
 refine b5 v2 λd2 gU cX=> ?_
 have aq:(val c bK z).length=z.length:=cN ..
 have e2:(val c dK z).length=z.length:=cN ..
 have zP:∀{ah lm f v},Ext σ ah->lm.get 1=ab (.r a)->fM [(31,.r l1),(32,.i bK),(33,.i 0)] f=ab v->ck aj (n+4) ah lm (.a (.l 1) f) v:=λx h g=>.A (.L h) (dS (x _ _ gK) g)
 have zQ:∀{ah lm f v},Ext σ ah->lm.get 2=ab (.r b)->fM [(31,.r d2),(32,.i dK),(33,.i 0)] f=ab v->ck aj (n+4) ah lm (.a (.l 2) f) v:=λx h g=>.A (.L h) (dS (x _ _ gU) g)
 refine bD aa rfl (dV (.og (l4 (zP Ext.rfl aa rfl) c5) (l4 (zQ Ext.rfl aa rfl) cX)) (show(!decide (((val c bK z).length:ag)=(val c dK z).length))=av by rw[aq,e2,cD rfl];rfl) (kg 1 ai (.L .N hC) λd cx=> ?_))
 rw[itz_val]at c5
 have x0:Ext σ (aC σ d ⟨1,.l []⟩):=Ext.rfl.new cx
 refine xG (its:=z.zipIdx) (σ0:=σ) (N:=9) (λx=>[.i (x.2:ae),.i (ho c bK x.1)]) (λcL:aw V×aw V×aw V=>[ab (.r A.host),ab (.r a),ab (.r b),ab (.r d),cL.1,cL.2.1,cL.2.2,aj]) (aj,aj,aj) (λx=>[.i (ho c (k2 bK dK) x.1)]) aa x0
  (.c (zP x0 aa rfl) .N) (QB (x0 _ _ c5)) (λU x=>⟨_,x _ _ c5⟩) (λU=>aa) aa bc (λU=>da _) (by rw[rO];exact aX (eK (iA _)) cV) (λcL aJ aM o=> ?_) λx cL acc aJ m cg aM o K' bV=> ?_
 ·rw[MK (λo=>V.i (ho c (k2 bK dK) o)),←itz_val]at o
  have fin:∀{lm:bf},lm.get 3=ab (.r d)->lm.get 7=ab (.i (k2 bK dK))->aH aj (n+4) [.r (.w 7 [.l 3,.l 7,.i 0])] lm aJ (fz Q X):=λh qd=>w4 (n:=n+3) (hd:=aj) 1 ai (R.M (.L h) o) (λU U=>.c (.L qd) (.c .i .N)) λe0 cL a3 bl bT bE=>q _ _ (aM.ay bl) ⟨_,bT,bE⟩
  refine c7 (zP aM aa rfl) (eR (z:=decide (dK<bK)) (.q (zQ aM aa rfl) (.p aa) aa) (λz=>c7 (zQ aM aa rfl) (fin aa ?_)) λz=>fin aa ?_)
  all_goals unfold k2;rw[z];rfl
 ·have aE:=oc m
  have ez:=K.up aM.fr C
  have g2:∀{lm:bf},lm.get 2=ab (.r b)->lm.get 4=ab (.i x.2)->ck aj (n+4) aJ lm (.u (.a (.l 2) 31) (.l 4)) (.i (ho c dK x.1)):=λh h'=>.bC (zQ aM h aa) (.L h') (fF (aM _ _ (itz_val z▸cX)) (kS (g:=λo=>V.i (ho c dK o)) aE))
  have sO:∀i,ho c i x.1∈val c i z:=λi=>eS.mpr ⟨x.1,List.mem_of_getElem? aE,aa⟩
  have add:∀{lm:bf}{a3:H}{m:ag}{b1 b2},lm=[ab (.r A.host),ab (.r a),ab (.r b),ab (.r d),b1,b2,ab (.i m),aj]->Ext aJ a3->m=ho c (k2 bK dK) x.1->0<=m->aH aj (n+4) [.i (.p .l (.l 6) (.i 0)) [.bad] [],.e (.m (.l 3) 0 [.l 6])] lm a3 (km K' (fz Q X)):=λe bl em m0=>by
   rw[e]
   exact dV (.p aa) (de (iy.mpr m0)) (fw (.p aa) (.p aa) (bl _ _ o) ai (fT cg ai) (bV (_,_,_) _ ((aM.ay bl).new cx) (aR em bc)))
  have nn:∀i,i=bK\/i=dK->0<=ho c i x.1:=λi h=>h.elim (λe=>d9 _ (aR e (sO i))) λe=>e4 _ (aR e (sO i))
  have hm:k2 bK dK=bK\/k2 bK dK=dK:=by unfold k2;cases decide (dK<bK)<;>first|exact .inl aa|exact .inr aa
  have m0:0<=ho c (k2 bK dK) x.1:=nn _ hm
  by_cases ll:ho c bK x.1=ho c dK x.1
  ·have em:ho c bK x.1=ho c (k2 bK dK) x.1:=hm.elim (λh=>aU (λi=>ho c i x.1) h.symm) λh=>ll.trans (aU (λi=>ho c i x.1) h.symm)
   exact c7 (.K (.c (.p aa) (.c (.p aa) (.c (g2 aa rfl) .N))) (ll▸aC3)) (dV (.p aa) (de (iy.mpr (em▸m0))) (dV (.p aa) (de (iy.mpr (em▸m0))) (add aa Ext.rfl em (em▸m0))))
  ·have ne:bK≠dK:=λh=>ll (aR h aa)
   have aK:bp=ak:=h1.elim (λu=>h2.elim (λw=>aV (u.trans w.symm) ne) AD) AD
   have xn:x.1=aj:=by
    rcases e:x.1 with _|k
    ·rfl
    ·rw[e]at ll;exact aV rfl ll
   have mk:=K.OH (n:=n) ez (h1.elim (λu=>.inl ⟨u,h2.elim (λw=>aV (u.trans w.symm) ne) ye⟩) λu=>.inr ⟨u.1,h2.elim id λw=>aV (u.1.trans w.1.symm) ne⟩) aK
   rw[xn]at g2 add m0|-
   rw[show ho c (k2 bK dK) aj=c.raw by rcases h1 with u|u<;>rcases h2 with w|w<;>first|exact aV (u.trans w.symm) ne|(rw[u,w.1];rfl)|(rw[u.1,w];rfl)|exact aV (u.1.trans w.1.symm) ne]at add m0
   refine c7 (.K (.c (.p aa) (.c (.p aa) (.c (g2 aa rfl) .N))) mk) (gV (.p aa) aa ?_)
   rcases h1 with u|u
   ·have w:dK=0:=h2.elim (λw=>aV (u.trans w.symm) ne) ye
    subst u w
    exact xF (.c (.p aa) (.c (zP aM aa rfl) (.c (.p aa) (.c (g2 aa rfl) .N)))) (K.kB ez aK) λa3 bl=>dV (.p aa) (de (iy.mpr m0)) (add aa bl aa m0)
   ·have w:dK=1:=h2.elim id λw=>aV (u.1.trans w.1.symm) ne
    rcases u with⟨rfl,_⟩
    subst w
    exact c7 (.K (.c (.p aa) (.c (zP aM aa rfl) (.c (.p aa) (.c (g2 aa rfl) .N)))) aC1) (gV (.p aa) aa (xF (.c (.p aa) (.c (zQ aM aa rfl) (.c (g2 aa rfl) (.c (.p aa) .N)))) (K.kB ez aK) λa3 bl=>add aa bl aa m0))
theorem aC5{h:V}{s1 s2:af ag}(v1:mF σ a s1 bK)(v2:mF σ b s2 dK)(ax:s1.length≠s2.length)(q:∀e ah,Ext σ ah->ah e=ab ⟨1,.e 2 [(4,.i 3),(5,.i s2.length)] .bare⟩->X e ah):W (n+2) 52 [h,.r a,.r b] σ Q X:=
 v1.elim λU f6=>v2.elim λU ek=>
  have bX:=l4 (F:=W (n+1)) (lm:=[ab h,ab (.r a),ab (.r b),aj,aj,aj,aj,aj]) (.A (.L (n:=2) aa) (dS ek.1 aa)) ek.2
  bD aa rfl (gV (.og (l4 (.A (.L aa) (dS f6.1 aa)) f6.2) bX) (show(!decide ((s1.length:ag)=s2.length))=ak from aU (!·) (de λe=>ax (lx e))) (s8 (.inr aa) (.c .c (.c bX .N)) λe ne=>q e _ (Ext.rfl.new ne) bc))
theorem aX8{s1 s2:af ag}(v1:mF σ a s1 bK)(v2:mF σ b s2 dK):eA (W (n+1)) σ 53 [.r a,.r b] (.b (decide (bK=dK)&&decide (s1=s2))):=λU U q=>
 v1.elim λU f6=>v2.elim λU ek=>bD aa rfl (bP (.hN (.g6 (.A (.L aa) (dS f6.1 aa)) (.A (.L aa) (dS ek.1 aa))) (.q (.A (.L aa) (dS f6.1 aa)) (.A (.L aa) (dS ek.1 aa)) (IS f6.2 ek.2))) q)
end
structure eY where
 cc:ag->aw hv
 ct:af ag
 cU:af (ag×V)
 told:af (ag×ag)
noncomputable section
def jd(c:cO)(f:ag->aw hv):ae:=nC (λp=>(f p).elim 2 λx=>aG (aA x.2 0) 0 1) c.code.length
def rt(f:ag->aw hv)(p:ag)(x:hv):ag->aw hv:=λq=>if q=p then ab x else f q
def addW(l:af ag)(p:ag):af ag:=aG (decide (p∈l)) l (l++[p])
inductive yz(g:eY)(p:ag)(x:hv):eY->Prop
 |old {y:hv} (h:g.cc p=ab y) (l:y.1.length=x.1.length) (i:y.2<=x.2):yz g p x g
 |new (h:∀y,g.cc p=ab y->y.1.length=x.1.length/\x.2<y.2):yz g p x {g with cc:=rt g.cc p x,ct:=addW g.ct p}
structure lY(c:cO)(A:eG)(g:eY)(σ:H):Prop where
 cc:∃ao,σ A.cc=ab ⟨3,.d ao⟩/\ao.length+jd c g.cc<=200/\∀k,(cw ao k=aj/\g.cc k=aj)\/∃a x,cw ao k=ab (.r a)/\g.cc k=ab x/\mF σ a x.1 x.2
 h6:σ A.h6=ab ⟨4,.l (aL g.ct)⟩
 iZ:∃d,σ A.iZ=ab ⟨5,.d d⟩/\d.length<=g.ct.length/\∀k,(cw d k).isSome=decide (k∈g.ct)
 je:∃d,σ A.je=ab ⟨6,.d d⟩/\d.length+jd c g.cc<=200/\∀k v,cw d k=ab v->∃s,g.cc k=ab (s,0)
 ent:σ A.ent=ab ⟨7,.d g.cU⟩
 told:σ A.told=ab ⟨8,.l (g.told.map c')⟩
end
section
variable{σ ah:H}{n a:ae}{c:cO}{bp:aB}{gv:eM}{A:eG}{ba:H->Prop}{g bx:eY}{Q:bQ}{X:bR}{S:ae->aB}{p at_:ag}{x y:hv}{cur:V}{d:af (ag×V)}{v:V}{k:ag}
theorem lY.fr(h:lY c A g σ)(f:Fr S σ ah)(z:([1,3,4,5,6,7,8].all λt=> !S t)=ak):lY c A g ah:=by
 have e:∀t∈[1,3,4,5,6,7,8],S t=av:=λt m=>(we _).symm.trans (aU (!·) (iK.mp z t m))
 have aq:=e 1 dI
 exact⟨h.cc.elim λao y=>⟨ao,f _ _ y.1 (e 3 (.tail _ (.head _))),y.2.1,λk=>(y.2.2 k).imp id λw=>w.elim λa w=>w.elim λx w=>⟨a,x,w.1,w.2.1,w.2.2.fr f aq⟩⟩,f _ _ h.h6 (e 4 (.tail _ (.tail _ (.head _)))),h.iZ.elim λd y=>⟨d,f _ _ y.1 (e 5 (.tail _ (.tail _ (.tail _ (.head _))))),y.2⟩,
  h.je.elim λd y=>⟨d,f _ _ y.1 (e 6 (.tail _ (.tail _ (.tail _ (.tail _ (.head _)))))),y.2⟩,f _ _ h.ent (e 7 (.tail _ (.tail _ (.tail _ (.tail _ (.tail _ (.head _))))))),f _ _ h.told (e 8 (.tail _ (.tail _ (.tail _ (.tail _ (.tail _ (.tail _ (.head _))))))))⟩
theorem wU{K:Type} [j6 K]{d:af (K×V)}{k:K}{v:V}:(dA d k v).length<=d.length+1:=by
 unfold dA
 cases d.any _ with
 |true=>rw[bk rfl,cN];exact mw _
 |false=>rw[bh nofun,cK];exact da _
theorem nZ(y:ag×V)(l:af (ag×V)):cw (y::l) p=if y.1=p then ab y.2 else cw l p:=by
 unfold cw
 rw[Ee]at|-
 by_cases z:y.1=p
 ·rw[cD z,bk z];rfl
 ·rw[de z,bh z]
theorem q1:cw (dA d k v) p=if p=k then ab v else cw d p:=by
 unfold dA
 rcases e:d.any (λd1=>decide (d1.1=k))with _|_
 ·rw[bh nofun]
  induction d with
  |nil=>
   rw[List.nil_append,nZ];by_cases z:p=k
   ·rw[bk z,bk z.symm]
   ·rw[bh z,bh (pR z)]
  |cons y l aI=>
   have e:=JM.mp e
   rw[Tt,nZ,nZ,aI e.2]
   by_cases z:y.1=p
   ·rw[bk z,bh λu=>hy e.1 (z.trans u),bk z]
   ·rw[bh z,bh z]
 ·rw[bk rfl]
  have go:∀l:af (ag×V),cw (l.map λd1=>if d1.1=k then(d1.1,v)else d1) p=if p=k then(if l.any (λd1=>decide (d1.1=k))=ak then ab v else aj)else cw l p:=λl=>by
   induction l with
   |nil=>
       by_cases w:p=k
       ·rw[bk w];rfl
       ·rw[bh w];rfl
   |cons y l aI=>
    rw[tM,nZ,nZ,aI,J6]
    by_cases z:y.1=k
    ·rw[bk z,cD z]
     by_cases w:p=k
     ·rw[bk w,bk w,bk (z.trans w.symm),bk (SR _)]
     ·rw[bh w,bh w,bh λu=>w (u.symm.trans z),bh λu=>w (u.symm.trans z)]
    ·rw[bh z,de z,SO]
     by_cases w:p=k
     ·rw[bk w,bk w,bh λu=>z (u.trans w)]
     ·rw[bh w,bh w]
  rw[go,bk e]
theorem H0{q:ae}(b4:q<c.code.length)(h:∀y,g.cc q=ab y->x.2=0/\y.2≠0):jd c (rt g.cc q x)+1<=jd c g.cc:=by
 refine QL b4 (λr au=> ?_) ?_
 ·show(if(r:ag)=q then ab x else g.cc r).elim 2 _=_;rw[bh λe:(r:ag)=q=>au (lx e)]
 ·show(if(q:ag)=q then ab x else g.cc q).elim 2 _+1<=_;rw[bk rfl]
  rcases e:g.cc q with _|y
  ·show aG _ 0 1+1<=2;cases aA x.2 0<;>decide
  ·have w:=h y e;show aG _ 0 1+1<=aG _ 0 1;rw[show aA x.2 0=ak from cD w.1,show aA y.2 0=av from de w.2];exact da _
theorem Rk(o:mE σ A cur at_)(h:lY c A g σ)(ax:g.ct.length<=60)(q:∀ah,Fr lB σ ah->lY c A {g with ct:=addW g.ct p} ah->Q .n ah):W (n+1) 57 [.r A.v,.i p] σ Q X:=by
 refine fH h.iZ λd od dl hd=> ?_
 unfold addW at q
 refine bD aa rfl (eR (z:= !decide (p∈g.ct)) (.q (.p aa) (.v o aa rfl) (aU (oE (!·)) ((qj od).trans (aU ab (hd p))))) (λz=> ?_) λz=>Il (k:=fz Q X) ?_)
 ·have z:decide (p∈g.ct)=av:=(we _).symm.trans (aU (!·) z)
  rw[z]at q
  have oz:aC σ A.iZ ⟨5,.d (dA d p (.i 1))⟩ A.h6=_:=qv h.h6 od aa
  have f:Fr (b' 4 5) σ (aC (aC σ A.iZ ⟨5,.d (dA d p (.i 1))⟩) A.h6 ⟨4,.l (aL g.ct++[.i p])⟩):=(Fr.upd Fr.rfl od aa).upd oz aa
  refine qt aa .i (.v o aa rfl) (.p aa) od (pq (d7 dl (d7 ax ai))) ai (fw (.v (qv o od aa) aa rfl) (.p aa) oz ai (by rw[gI];exact d7 ax ai) (q _ (fE f aa rfl) ⟨?_,aR n' bc,⟨_,qv bc oz aa,?_,λk=> ?_⟩,?_,f _ _ h.ent aa,f _ _ h.told aa⟩))
  ·exact h.cc.elim λao y=>⟨ao,f _ _ y.1 aa,y.2.1,λk=>(y.2.2 k).imp id λw=>w.elim λa w=>w.elim λx w=>⟨a,x,w.1,w.2.1,w.2.2.fr f aa⟩⟩
  ·exact aX wU (by show _<=(g.ct++[p]).length;rw[cK];exact pQ dl)
  ·rw[q1]
   show _=decide (k∈g.ct++[p])
   by_cases w:k=p
   ·rw[bk w,cD (lW _ (dv.mpr w))];rfl
   ·rw[bh w,hd];exact decide_eq_decide.mpr ⟨mv _,λh=>(gO.mp h).resolve_right λu=>w (dv.mp u)⟩
  ·exact h.je.elim λd y=>⟨d,f _ _ y.1 aa,y.2⟩
 ·rw[qo z]at q;exact q σ Fr.rfl h
theorem entry_mem(cs:af Cl):cs.foldr (λc y=>aG (aA c.t0 p) ak y) av=decide (p∈cs.map Cl.t0):=by
 induction cs with
 |nil=>rfl
 |cons c l aI=>
  show aG (aA c.t0 p) ak _=_
  rw[aI]
  by_cases z:c.t0=p
  ·rw[show aA c.t0 p=ak from cD z,cD (p:=p∈(c::l).map Cl.t0) (fS.mpr (.inl z.symm))];rfl
  ·rw[show aA c.t0 p=av from de z];exact decide_eq_decide.mpr ⟨iL _,λh=>(fS.mp h).resolve_left (pR z)⟩
theorem NH{aJ:H}{q b:ae}(h:lY c A g σ)(f:Fr (b' 6 6) σ aJ)(vF:jd c (rt g.cc q x)+1<=jd c g.cc)(au:∃d,aJ A.je=ab ⟨6,.d d⟩/\d.length+jd c (rt g.cc q x)<=200/\∀k v,cw d k=ab v->∃s,rt g.cc q x k=ab (s,0))(v:mF aJ b x.1 x.2):
  ∃ao,aJ A.cc=ab ⟨3,.d ao⟩/\ao.length<bN/\lY c A {g with cc:=rt g.cc q x} (aC aJ A.cc ⟨3,.d (dA ao q (.r b))⟩):=by
 refine fH h.cc λao c3 le he=> ?_
 have c3:=f _ _ c3 aa
 refine⟨ao,c3,d7 (aX (en _ _) le) ai,?_⟩
 have cz:Fr (b' 3 3) aJ (aC aJ A.cc ⟨3,.d (dA ao q (.r b))⟩):=Fr.upd Fr.rfl c3 aa
 refine⟨⟨_,bc,?_,λk=> ?_⟩,cz _ _ (f _ _ h.h6 aa) aa,h.iZ.elim λd y=>⟨d,cz _ _ (f _ _ y.1 aa) aa,y.2⟩,au.elim λd y=>⟨d,cz _ _ y.1 aa,y.2⟩,cz _ _ (f _ _ h.ent aa) aa,cz _ _ (f _ _ h.told aa) aa⟩
 ·exact aX (nM wU _) (aX (eK (yn ..)) (aX (gC vF _) le))
 ·rw[q1]
  show _/\(if k=q then ab x else g.cc k)=aj\/∃a y,_/\(if k=q then ab x else g.cc k)=ab y/\_
  by_cases z:k=q
  ·rw[bk z,bk z];exact .inr ⟨b,x,aa,aa,v.fr cz aa⟩
  ·rw[bh z,bh z];exact(he k).imp id λw=>w.elim λa w=>w.elim λy w=>⟨a,y,w.1,w.2.1,(w.2.2.fr f aa).fr cz aa⟩
theorem ML(K:fW c bp gv A ba)(C:ba σ)(o:mE σ A cur at_)(h:lY c A g σ)(ax:g.ct.length<=60)(re:∀(q:ae) y,g.cc q=ab y->Re c gv q y.1 y.2){q:ae}(r:(x.1≠[]->(q:ag)∉c.cs.map Cl.t0)->Re c gv q x.1 x.2)(v:mF σ a x.1 x.2)
  (bT:(x.1≠[]->(q:ag)∉c.cs.map Cl.t0)->∀bx ah,Re c gv q x.1 x.2->yz g q x bx->Fr lB σ ah->lY c A bx ah->Q .n ah)(bE:(x.1≠[]/\(q:ag)∈c.cs.map Cl.t0)\/(∃y,g.cc q=ab y/\y.1.length≠x.1.length)/\l2 c gv->∀e ah,Ext σ ah->oL ah e 3 q->X e ah):W (n+7) 56 [.r A.v,.i q,.r a] σ Q X:=by
 have D:=K.js
 have len:decide (x.1≠[])=decide ((0:ag)<x.1.length):=by cases x.1 with
  |nil=>rfl
  |cons _ _=>exact decide_eq_decide.mpr ⟨λU=>fh.mpr (yr _),λU=>nofun⟩
 have ou:=v
 have h':=h
 refine fH h.cc λao c3 le he=> ?_
 refine fH h.je λmf od ld hd=> ?_
 refine b5 v λl v1 v2=> ?_
 refine bD aa rfl (eR (z:=decide (x.1≠[])&&decide ((q:ag)∈c.cs.map Cl.t0)) (.hN (aD len (.q (l4 (.A (.p aa) (dS v1 aa)) v2) .i aa)) (aR (entry_mem c.cs) (.mR (.v o aa rfl) (K.ew C) aa rfl (.p aa) (aO4 (K.cls C) (K.ew C))))) (λz=> ?_) λz=>c7 (.get (.v o aa rfl) c3 (.p aa)) ?_)
 ·exact s8 (.inr aa) (.p aa) λe ne=>bE (.inl ⟨c4 (df z).1,c4 (df z).2⟩) e _ (Ext.rfl.new ne) ⟨_,bc⟩
 have ne:x.1≠[]->(q:ag)∉c.cs.map Cl.t0:=λa b=>nomatch z.symm.trans (yf.mpr ⟨cD a,cD b⟩)
 have bT:=bT ne
 have r:=r ne
 have o8:=k6 D r
 rcases he q with⟨aq,e2⟩|⟨b,y,aq,e2,jh⟩
 all_goals rw[aq]
 ·have vF:=H0 (g:=g) (x:=x) o8.1 λy aQ=>nomatch e2.symm.trans aQ
  refine fH (NH h Fr.rfl vF ⟨mf,od,by lia,λk v az=>(hd k v az).elim λs hs=>⟨s,(bh λu=>nomatch (u▸hs).symm.trans e2).trans hs⟩⟩ ou) λl6 zN ls h2=> ?_
  refine gV (.p aa) aa (qt aa (.p aa) (.v o aa rfl) (.p aa) zN (pq ls) ai ?_)
  have cz:Fr lB σ (aC σ A.cc ⟨3,.d (dA l6 q (.r a))⟩):=Fr.upd Fr.rfl zN aa
  exact d0 (.p aa) (Rk (n:=n+5) (cz _ _ o aa) h2 ax λbM f4 cQ=>bT _ bM r (.new λy aQ=>nomatch e2.symm.trans aQ) (cz.ay f4) cQ)
 have ei:=re q y e2
 refine dV (.p aa) aa ⟨aa,?_⟩
 by_cases aQ:y.1.length=x.1.length
 ·refine b5 (PS D ei r aQ) λz cV hz'=> ?_
  have sN:=k6 D ei
  have as0:z.length<=9:=(cN _).symm.trans (aU yk cV).symm▸sN.2.2.1
  have NM:∀{p s j},wJ c bp p s j->j=1\/j=0/\bp=ak:=λL=>L.2.1
  rw[cV]at jh
  refine d0 (.c (.v o aa rfl) (.p aa)) (aC4 (n:=n+1) K C (z:=z) sN.2.1 o8.2.1 (aR cV (sN.2.2.2.elim λU w=>w.2.2)) (aR hz' (o8.2.2.2.elim λU w=>w.2.2)) as0 jh (aR hz' ou) λd aJ aM oy=> ?_)
  have c5:=aM _ _ o
  have mW:=aX8 (n:=n+5) oy (jh.fr (S:=du) aM.fr aa)
  by_cases hi:y.2<=x.2
  ·have em:k2 y.2 x.2=y.2:=by unfold k2;rw[de (iy.mpr hi)];rfl
   rw[em,cD rfl,cD rfl]at mW
   exact gV (.K (.p aa) mW) aa (C4 (bT g aJ r (.old e2 aQ hi) aM.fr (h.fr (S:=du) aM.fr aa)))
  ·have hi:=Int.not_le.mp hi
   have em:k2 y.2 x.2=x.2:=by unfold k2;rw[cD hi];rfl
   rw[em]at mW oy
   rw[de (J3 hi)]at mW
   have x0:x.2=0:=o8.2.1.elim (λu=>aV hi (by rw[u];exact sN.2.1.elim (λw=>by rw[w];decide) λw=>by rw[w.1];decide)) ye
   have f6:y.2=1:=sN.2.1.elim id λw=>aV hi (by rw[w.1,x0];decide)
   have vF:=H0 (g:=g) (x:=x) o8.1 λlh h'=>aR (cR (e2.symm.trans h')) ⟨x0,λw=>nomatch f6.symm.trans w⟩
   have cI:cw mf q=aj:=by
    rcases e:cw mf q with _|v
    ·rfl
    ·exact(hd _ _ e).elim λs hs=>nomatch f6.symm.trans (aU nP (cR (e2.symm.trans hs)))
   have zL:=aM _ _ od
   refine dV (.K (.p aa) mW) aa (qt (v:=.i (0+1)) aa (.B (.u' (w:=.i 0) (.v c5 aa rfl) zL (.p aa) .i (by rw[cI];rfl)) .i λU q=>.add q) (.v c5 aa rfl) (.p aa) zL (pq (by have sg:(bN:ae)=1000000:=aa;lia)) ai ?_)
   have kr:Fr (b' 6 6) aJ (aC aJ A.je ⟨6,.d (dA mf q (.i (0+1)))⟩):=Fr.upd Fr.rfl zL aa
   have sV:aC aJ A.je ⟨6,.d (dA mf q (.i (0+1)))⟩ A.je=_:=bc
   have cX:=kr _ _ c5 aa
   generalize aC aJ A.je ⟨6,.d (dA mf q (.i (0+1)))⟩=a3 at*
   refine fH (NH (x:=x) (h.fr (S:=du) aM.fr aa) kr vF ⟨_,sV,by have:=wU (d:=mf) (k:=(q:ag)) (v:=.i (0+1));lia,λk v az=>(by
    rw[q1]at az
    show∃s,(if k=q then ab x else g.cc k)=ab (s,0)
    by_cases z:k=q
    ·rw[bk z];exact⟨x.1,aU ab (tT aa x0)⟩
    ·rw[bh z]at az|-;exact hd k v az)⟩ (aD hz' (oy.fr kr aa))) λl6 zN ls h2=> ?_
   refine dV (.q (.bC (.v cX aa rfl) (.p aa) (sub_d sV (aU ab (q1.trans (bk rfl))))) .c aa) aa (qt aa (.p aa) (.v cX aa rfl) (.p aa) zN (pq ls) ai ?_)
   have cz:Fr (b' 3 3) a3 (aC a3 A.cc ⟨3,.d (dA l6 q (.r d))⟩):=Fr.upd Fr.rfl zN aa
   exact d0 (.p aa) (Rk (n:=n+5) (cz _ _ cX aa) h2 ax λbM f4 cQ=>bT _ bM r (.new λlh h'=>aR (cR (e2.symm.trans h')) ⟨aQ,hi⟩) (((aM.fr.ay (fE kr aa rfl)).ay (fE cz aa rfl)).ay f4) cQ)
 ·exact d0 (.c (.v o aa rfl) (.p aa)) (aC5 (n:=n+4) jh ou aQ λe aJ aM c3=>⟨_,_,_,_,c3,aa,aS4 (n:=n+5) (.inr aa) c3 (.c (.A (.p aa) (E' c3 aa)) (.p aa)) λdO ne'=>bE (.inr ⟨⟨y,e2,aQ⟩,q,_,_,_,_,ei,r,aQ⟩) dO _ (aM.ay (Ext.rfl.new ne')) ⟨_,bc⟩⟩)
end
def f'(g:eY)(p:ag)(n:ae)(i:ag):Prop:=∃y,g.cc p=ab y/\y.1.length=n/\y.2<=i
def oK(c:cO)(gv:eM)(f:ag×ag):Prop:=∃x∈c.cs,∃(q:ae)(s:af ag)(j:ag),Re c gv q s j/\x.t0<=q/\(q:ag)<x.t1/\c.bad x≠0/\f=(c.bad x,(q:ag))
def jl(c:cO)(gv:eM)(T:ag×ag->Prop):Prop:=∃f,T f/\(oK c gv f\/l2 c gv)
def KY(c:cO)(gv:eM)(f:ag×ag):Prop:=(∃p s j,Re c gv p s j/\(gj c p s j).1=ab f)\/oK c gv f\/l2 c gv
def pS(c:cO)(g:eY)(x:Cl)(e:ag):Prop:=c.bad x=0/\f' g x.h0 (c.jO x).length e/\(x.s=1->f' g x.x 1 e)
structure mz(c:cO)(g:eY)(T:ag×ag->Prop)(p:ae)(x:hv):Prop where
 hs:∀y∈c.cs,y.t0<=p->(p:ag)<y.t1->pS c g y x.2
 f:∀f,(gj c p x.1 x.2).1=ab f->T f
 w:∀w∈(gj c p x.1 x.2).2,f' g w.1 w.2.1.length w.2.2
structure fb(c:cO)(gv:eM)(g:eY)(T:ag×ag->Prop)(cur:aw ae):Prop where
 re:∀p x,g.cc p=ab x->∃q:ae,p=q/\Re c gv q x.1 x.2
 ct:∀p∈g.ct,∃x,g.cc p=ab x
 cx:g.ct.Nodup
 vl:∀f,T f->KY c gv f
 cl:∀(p:ae) x,g.cc p=ab x->(p:ag)∈g.ct\/ab p=cur\/jl c gv T\/mz c g T p x
def oG(c:cO)(gv:eM)(g:eY)(T:ag×ag->Prop):Prop:=∀(j:ae) v,cw g.cU j=ab v->∃e:ag,v=.i e/\(jl c gv T\/∀x,c.cs[j]? =ab x->pS c g x e)
structure fU(c:cO)(g bx:eY):Prop where
 m:2*jd c bx.cc+bx.ct.length<=2*jd c g.cc+g.ct.length
 jQ:∀{p n i},f' g p n i->f' bx p n i
 ch:∀{p x},bx.cc p=ab x->g.cc p=ab x\/p∈bx.ct
 ct:∀{p},p∈g.ct->p∈bx.ct
 dd:bx.told=g.told
section
variable{c:cO}{bp:aB}{gv:eM}{g bx MW:eY}{T iO:ag×ag->Prop}{p q:ae}{x:hv}{cur:aw ae}{y:Cl}{e dO:ag}{s s':af ag}{i j j':ag}{n:ae}{f:ag×ag}{ins:eo}{go:ag}
theorem fU.rfl:fU c g g:=⟨da _,id,.inl,id,Eq.refl _⟩
theorem fU.ay(a:fU c g bx)(b:fU c bx MW):fU c g MW:=⟨aX b.m a.m,λh=>b.jQ (a.jQ h),λh=>(b.ch h).elim (λh=>(a.ch h).imp id b.ct) .inr,λh=>b.ct (a.ct h),b.dd.trans a.dd⟩
theorem f'.le(h:f' g i n e)(l:e<=dO):f' g i n dO:=h.elim λy w=>⟨y,w.1,w.2.1,eE w.2.2 l⟩
theorem pS.up(aH:∀{p n i},f' g p n i->f' bx p n i)(h:pS c g y e)(l:e<=dO):pS c bx y dO:=⟨h.1,(aH h.2.1).le l,λs=>(aH (h.2.2 s)).le l⟩
theorem mz.up(aH:∀{p n i},f' g p n i->f' bx p n i)(t:∀f,T f->iO f)(h:mz c g T p x):mz c bx iO p x:=⟨λy aQ a b=>(h.hs y aQ a b).up aH (pJ _),λf e=>t f (h.f f e),λw hw=>aH (h.w w hw)⟩
theorem jl.up(t:∀f,T f->iO f)(h:jl c gv T):jl c gv iO:=h.elim λf w=>⟨f,t f w.1,w.2⟩
theorem fb.sY(L:fb c gv g T cur){p:ae}{x:hv}(h:g.cc p=ab x):Re c gv p x.1 x.2:=(L.re _ _ h).elim λq w=>aD (lx w.1) w.2
theorem fb.wl(D:jL c bp gv)(L:fb c gv g T cur):g.ct.length<=60:=by
 have h:g.ct⊆(gB c.code.length).map λj=>((j:ae):ag):=λp a7=>(L.ct p a7).elim λx aE=>(L.re p x aE).elim λq w=>eS.mpr ⟨q,pN.mpr (k6 D w.2).1,w.1.symm⟩
 have w:=L.cx.length_le_of_subset h
 rw[cN,mu]at w
 exact aX w D.n
theorem fZ{a b:ag}{P R:Prop}(h:a<b)(cg:a=1\/a=0/\P)(bb:b=1\/b=0/\R):a=0/\b≠0:=
 ⟨cg.elim (λe=>bb.elim (λf=>aV h (by rw[e,f];decide)) λf=>aV h (by rw[e,f.1];decide)) ye,λf=>cg.elim (λe=>aV h (by rw[e,f];decide)) λe=>aV h (by rw[e.1,f];decide)⟩
theorem az5{p q w v:ae}(h:p+1<=q)(l:v<=w+1):2*p+v<=2*q+w:=by lia
theorem Ol(D:jL c bp gv)(L:fb c gv g T cur)(r:Re c gv q x.1 x.2)(F:yz g q x bx):fb c gv bx T cur/\fU c g bx/\bx.cU=g.cU/\f' bx q x.1.length x.2:=by
 rcases F with⟨h,l,i⟩|h
 ·exact⟨L,fU.rfl,aa,_,h,l,i⟩
 ·have sM:=k6 D r
  have h2:∀y,g.cc q=ab y->x.2=0/\y.2≠0:=λy aQ=>by
   have w:=h y aQ
   exact fZ w.2 sM.2.1 (k6 D (L.sY aQ)).2.1
  have vF:=H0 sM.1 h2
  have ne:∀{p:ag},p≠q->rt g.cc q x p=g.cc p:=λh=>bh h
  have at_:rt g.cc q x q=ab x:=bk rfl
  have IY:∀p:ag,p∈addW g.ct q↔p∈g.ct\/p=q:=λp=>by
   unfold addW
   rcases z:decide ((q:ag)∈g.ct)with _|_
   ·exact gO.trans (SE dv)
   ·exact⟨.inl,λu=>u.elim id λu=>u.symm▸(c4 z:(q:ag)∈g.ct)⟩
  have aH:fU c g {g with cc:=rt g.cc q x,ct:=addW g.ct q}:={
   m:=by
    have l:(addW g.ct q).length<=g.ct.length+1:=by unfold addW;cases decide ((q:ag)∈g.ct)with
     |true=>exact mw _
     |false=>exact eK cK
    exact az5 vF l
   jQ:=λ{p n i} aK=>aK.elim λy w=>by
    by_cases z:p=q
    ·subst z;exact⟨x,at_,aR (h y w.1).1 w.2.1,eE (hJ (h y w.1).2) w.2.2⟩
    ·exact⟨y,(ne z).trans w.1,w.2⟩
   ch:=λ{p hn} aE=>by
    by_cases z:p=q
    ·exact .inr ((IY p).mpr (.inr z))
    ·exact .inl ((ne z).symm.trans aE)
   ct:=λh=>(IY _).mpr (.inl h)
   dd:=aa}
  refine⟨⟨λp y aQ=> ?_,λp a7=> ?_,?_,L.vl,λp y aQ=>(aH.ch aQ).elim (λaQ=>(L.cl p y aQ).imp aH.ct λw=>w.imp id λw=>w.imp id λw=>w.up aH.jQ λU=>id) .inl⟩,aH,aa,x,at_,aa,pJ _⟩
  ·by_cases z:p=q
   ·rw[z]at aQ;exact⟨q,z,cR (at_.symm.trans aQ)▸r⟩
   ·exact L.re p y ((ne z).symm.trans aQ)
  ·by_cases z:p=q
   ·exact⟨x,z▸at_⟩
   ·exact(L.ct p (((IY p).mp a7).resolve_right z)).elim λx w=>⟨x,(ne z).trans w⟩
  ·show(addW g.ct q).Nodup
   unfold addW
   rcases z:decide ((q:ag)∈g.ct)with _|_
   ·exact AQ.mpr ⟨L.cx,pO.mpr ⟨oB,.nil⟩,λa cg b bb e=>hy z (aR (dv.mp bb) (aR e cg))⟩
   ·exact L.cx
theorem B6(L:fb c gv g T (ab p))(bJ:∀x,g.cc p=ab x->(p:ag)∈g.ct\/jl c gv iO\/mz c g iO p x)(t:∀f,T f->iO f)(j:∀f,iO f->T f\/KY c gv f):fb c gv g iO aj:=
 {L with
  vl:=λf h=>(j f h).elim (L.vl f) id
  cl:=λq y aQ=>(L.cl q y aQ).elim .inl λw=>w.elim (λw=>by
   cases w
   exact(bJ y aQ).imp id .inr) λw=>.inr (.inr (w.imp (jl.up t) (mz.up id t)))}
theorem oG.up(h:oG c gv g T)(aH:∀{p n i},f' g p n i->f' bx p n i)(e:bx.cU=g.cU)(t:∀f,T f->iO f):oG c gv bx iO:=λj v a4=>(h j v (aR e a4)).elim λe w=>⟨e,w.1,w.2.imp (jl.up t) λw x aE=>(w x aE).up aH (pJ _)⟩
theorem fb.kX{d:af (ag×V)}{l:af (ag×ag)}(L:fb c gv g T cur):fb c gv {g with cU:=d,told:=l} T cur:=⟨L.re,L.ct,L.cx,L.vl,λp x h=>(L.cl p x h).imp id λw=>w.imp id λw=>w.imp id (mz.up (g:=g) id λU=>id)⟩
theorem HR(h:s.length=s'.length):(hB c i s j).1=(hB c i s' j').1/\∀w∈(hB c i s j).2,∃dX∈(hB c i s' j').2,dX.1=w.1/\dX.2.1.length=w.2.1.length:=by
 have e:s.isEmpty=s'.isEmpty:=by cases s<;>cases s'<;>first|rfl|cases h
 unfold hB
 rw[e]
 generalize aA _ _=a,(!aA _ _)=b,(_&&_)=d
 cases a
 ·cases b
  ·cases d
   ·exact⟨aa,λw hw=>⟨_,dI,by rw[dv.mp hw],by rw[dv.mp hw];exact h.symm⟩⟩
   ·exact⟨aa,h9 _⟩
  ·exact⟨aa,h9 _⟩
 ·exact⟨aa,h9 _⟩
theorem aI5(h:s.length=s'.length):(l9 c i ins go s j).1=(l9 c i ins go s' j').1/\∀w∈(l9 c i ins go s j).2,∃dX∈(l9 c i ins go s' j').2,dX.1=w.1/\dX.2.1.length=w.2.1.length:=by
 have e:s.isEmpty=s'.isEmpty:=by cases s<;>cases s'<;>first|rfl|cases h
 have hd:s.dropLast.length=s'.dropLast.length:=by rw[Ek,Ek,h]
 have cg:∀k k',(s++[k]).length=(s'++[k']).length:=λU U=>by rw[cK,cK,h];rfl
 unfold l9
 rw[e,h]
 generalize(_&&_)=b1,decide (ins.op∈[69,57])=b2,aA ins.op 221=kp,(!aA _ _)=yO,decide (ins.op∈[122,65050,220,65041])=q4,aA ins.op 38=b6,s'.isEmpty=yP,aA ins.op 65033=yQ,decide (c.first<0)=oU,decide (c.most<=_)=gF
 cases b1
 ·cases b2
  ·cases kp
   ·cases q4
    ·cases b6
     ·cases yQ
      ·exact HR h
      ·cases oU
       ·cases gF
        ·exact HR (cg _ _)
        ·exact⟨aa,h9 _⟩
       ·exact⟨aa,h9 _⟩
     ·cases yP
      ·exact HR hd
      ·exact⟨aa,h9 _⟩
    ·exact⟨aa,h9 _⟩
   ·cases yO
    ·exact⟨aa,λw hw=>⟨_,dI,by rw[dv.mp hw],by rw[dv.mp hw]⟩⟩
    ·exact⟨aa,h9 _⟩
  ·exact⟨aa,h9 _⟩
 ·exact⟨aa,h9 _⟩
theorem HT(h:s.length=s'.length):(gj c p s j).1=(gj c p s' j').1/\∀w∈(gj c p s j).2,∃dX∈(gj c p s' j').2,dX.1=w.1/\dX.2.1.length=w.2.1.length:=by
 unfold gj
 cases c.code[p]? with
 |none=>exact⟨aa,h9 _⟩
 |some ins=>exact aI5 h
theorem zw(D:jL c bp gv)(L:fb c gv g T aj)(wn:g.ct=[])(gi:∀p i,(p,i)∈gv->f' g p 0 i)(ne:¬ jl c gv T)(r:Re c gv p s i):∃x,g.cc p=ab x/\x.1.length=s.length/\x.2<=i/\mz c g T p x:=by
 have cl:∀{p:ae}{n i},f' g p n i->∃x,g.cc p=ab x/\x.1.length=n/\x.2<=i/\mz c g T p x:=λh=>h.elim λx w=>⟨x,w.1,w.2.1,w.2.2,((L.cl _ x w.1).resolve_left (aD wn nofun)).resolve_left nofun |>.resolve_left ne⟩
 induction r with
 |given h=>exact cl (gi _ _ h)
 |step r h aI=>
  refine Al aI λx e l ky bJ=> ?_
  refine Al (zW D r h) λq eq ei ej U=> ?_
  rw[eq,ej]
  refine cl ?_
  rcases gO.mp h with h|h
  ·refine tn (Nj h) λy aQ a b U w=> ?_
   have E:=bJ.hs y aQ a b
   rcases w with w|⟨s1,w⟩<;>rw[w]at eq|-
   ·exact aR eq (E.2.1.le ky)
   ·exact aR eq ((E.2.2 s1).le ky)
  ·refine fH ((HT (j':=x.2) l.symm).2 _ h) λdX hw aq e2=> ?_
   have E:=bJ.w dX hw
   rw[aq,e2,(zW D (L.sY e) (lW _ hw)).elim λU w=>w.2.2.1,eq]at E
   exact E.le ky
theorem Oj(D:jL c bp gv)(L:fb c gv g T aj)(wn:g.ct=[])(gi:∀p i,(p,i)∈gv->f' g p 0 i):(l2 c gv->∃f,T f)/\(¬ l2 c gv->(∃f,oK c gv f)->∃f,T f/\oK c gv f)/\
  (¬ l2 c gv->¬(∃f,oK c gv f)->(∀f,T f↔∃p s j,Re c gv p s j/\(gj c p s j).1=ab f)/\∀p s i,Re c gv p s i->∃x,g.cc p=ab x/\x.2<=i):=by
 refine⟨λm=>JP λh=> ?_,λm bG=>JP λh=> ?_,λm bG=> ?_⟩
 ·have ne:¬ jl c gv T:=λe=>h (e.elim λf w=>⟨f,w.1⟩)
  refine Ds m λp s s' j j' r ei ax=> ?_
  refine fH (zw D L wn gi ne r) λx e l U=> ?_
  refine fH (zw D L wn gi ne ei) λhn dO l' U=> ?_
  exact ax (l.symm.trans (aD (cR (e.symm.trans dO)) l'))
 ·have ne:¬ jl c gv T:=λe=>h (e.elim λf w=>⟨f,w.1,w.2.resolve_right m⟩)
  rcases bG with⟨f,x,aE,q,s,j,r,a,b,bad,_⟩
  refine Al (zw D L wn gi ne r) λy U U U bJ=> ?_
  exact bad (bJ.hs x aE a b).1
 ·have ne:¬ jl c gv T:=λe=>e.elim λf w=>w.2.elim (λw=>bG ⟨f,w⟩) m
  refine⟨λf=>⟨λh=>(L.vl f h).resolve_right λw=>w.elim (λw=>bG ⟨f,w⟩) m,λ⟨p,s,j,r,e⟩=> ?_⟩,λp s i r=>(zw D L wn gi ne r).elim λx w=>⟨x,w.1,w.2.2.1⟩⟩
  refine Al (zw D L wn gi ne r) λx U l U bJ=> ?_
  exact bJ.f f ((HT l).1.trans e)
end
def ay(p:ag×ag):ag×ae:=(p.1,aG (aA p.2 0) 65 (aG (aA p.2 2) 66 67))
def P6(p:ag×ae):ag×ag:=(p.1,aG (iP p.2 65) 0 (aG (iP p.2 66) 2 1))
section
variable{cs:af Cl}{i goal op:ag}{p q:ag×ag}{lv:aB}{N:ae}{α:Type}
theorem vJ(h:p∈regionO cs i):p.2=0\/p.2=1\/p.2=2:=(OA.mp h).elim λx y=>by
 have h0:=y.2.1
 rw[y.2.2]
 show mT x.1 i=0\/mT x.1 i=1\/mT x.1 i=2
 unfold mT at*
 generalize(decide (x.1.t0<=i)&&decide (i<x.1.t1))=a,(decide (x.1.h0<=i)&&decide (i<x.1.h1))=b,(aA x.1.s 1&&(decide (x.1.x<=i)&&decide (i<x.1.h0)))=d at*
 cases a
 ·cases b
  ·cases d
   ·cases h0
   ·exact .inr (.inl aa)
  ·exact .inr (.inr aa)
 ·exact .inl aa
theorem P7(h:p.2=0\/p.2=1\/p.2=2):P6 (ay p)=p:=tT aa (by
 show aG (iP (ay p).2 65) 0 _=p.2
 unfold ay
 rcases h with h|h|h<;>rw[h]<;>rfl)
theorem bb0(h:p.2=0\/p.2=1\/p.2=2)(h':q.2=0\/q.2=1\/q.2=2)(e:ay p=ay q):p=q:=(P7 h).symm.trans ((aU P6 e).trans (P7 h'))
theorem xj(cs:af Cl)(i:ag):iT cs i=(regionO cs i).reverse.map ay:=by
 have e:∀x,kz i x=(sX i x).reverse.map ay:=λx=>by
  unfold kz sX mT
  generalize(decide (x.1.t0<=i)&&decide (i<x.1.t1))=a,(decide (x.1.h0<=i)&&decide (i<x.1.h1))=b,(aA x.1.s 1&&(decide (x.1.x<=i)&&decide (i<x.1.h0)))=d
  cases a<;>cases b<;>cases d<;>rfl
 unfold iT regionO
 rw[List.reverse_flatMap,List.reverse_reverse,Kf]
 exact aU (Ka · _) (funext e)
theorem MP{l:af α}{f:α->aB->aB}{b:α->aB}(h:∀p∈l,∀y,f p y=(b p&&y)):l.foldr f ak=l.all b:=by
 induction l with
 |nil=>rfl
 |cons x l aI=>exact(h x dI _).trans (aU (b x&&·) (aI λp a7=>h p (iL _ a7)))
theorem BH{l:af α}{b:α->aB}{x xW:ag}:l.foldr (λp y=>aG (b p) x y) xW=aG (l.any b) x xW:=by
 induction l with
 |nil=>rfl
 |cons z l aI=>show aG (b z) x _=aG (b z||_) x xW;rw[aI];cases b z<;>rfl
theorem Lr{l:af (ag×ag)}{b:ag×ae->aB}{d:ag×ag->aB}(h:∀p∈l,b (ay p)= !d p):(l.reverse.map ay).any b= !l.all d:=by
 rw[Tr,List.any_reverse,List.all_eq_not_any_not,we]
 induction l with
 |nil=>rfl
 |cons x l aI=>show(b (ay x)||l.any (b∘ay))=(!d x||l.any λx=> !d x);rw[h x dI,aI λp a7=>h p (iL _ a7)]
theorem QW{XB:af Cl}{ky:ag}(h:p∈regionO XB ky):decide (ay p∈iT cs i)=decide (p∈regionO cs i):=decide_eq_decide.mpr (by
 rw[xj]
 exact⟨λm=>(eS.mp m).elim λq w=>aR (bb0 (vJ (wo.mp w.1)) (vJ h) w.2) (wo.mp w.1),λm=>eS.mpr ⟨p,wo.mpr m,aa⟩⟩)
variable(S:∀x∈cs,x.s=0\/x.s=1\/x.s=2\/x.s=4)
include S
theorem Fj(h:p∈regionO cs i):(g4 cs p.1).s=0\/(g4 cs p.1).s=1\/(g4 cs p.1).s=2\/(g4 cs p.1).s=4:=(zv p h).elim λj y=>y.elim λc y=>by
 rw[y.1,clAt_of y.2];exact S c (List.mem_of_getElem? y.2)
theorem ay4(d8:0<=goal):z8 cs N i goal lv=fa cs N i goal lv:=by
 have h1:(iT cs i).any (λp=> !decide (p∈iT cs goal)&& !(lv&&zu cs p))= !y6 cs (regionO cs i) (regionO cs goal) lv:=by
  unfold y6
  rw[MP (b:=λp=>decide (p∈regionO cs goal)||(lv&&(aA p.2 0||oW (g4 cs p.1) p.2))) λp a7 y=> ?_]at|-
  ·refine(aU (J5 · _) (xj cs i)).trans (Lr λp a7=> ?_)
   rw[QW a7,SP,show zu cs (ay p)=(aA p.2 0||oW (g4 cs p.1) p.2)from ?_]at|-
   show(iP (ay p).2 65||(iP (ay p).2 66&&decide ((g4 cs p.1).s<2)))=_
   unfold oW ay
   rcases vJ a7 with z|z|z<;>rw[z]
   ·rfl
   ·rfl
   ·rcases Fj S a7 with w|w|w|w<;>rw[w]<;>rfl
  ·generalize decide (p∈regionO cs goal)=a,aA p.2 0=b,oW (g4 cs p.1) p.2=d
   cases a<;>cases lv<;>cases b<;>cases d<;>rfl
 have h2:(iT cs goal).any (λp=> !decide (p∈iT cs i)&&(!iP p.2 65|| !aA (g4 cs p.1).t0 goal))= !y1 cs (regionO cs i) (regionO cs goal) goal:=by
  unfold y1
  rw[MP (b:=λp=>decide (p∈regionO cs i)||(aA p.2 0&&aA (g4 cs p.1).t0 goal)) λp a7 y=> ?_]at|-
  ·refine(aU (J5 · _) (xj cs goal)).trans (Lr λp a7=> ?_)
   rw[QW a7,SP,Bool.not_and,show iP (ay p).2 65=aA p.2 0 from ?_]at|-
   ·rfl
   ·unfold ay;rcases vJ a7 with z|z|z<;>rw[z]<;>rfl
  ·generalize decide (p∈regionO cs i)=a,aA p.2 0=b,aA (g4 cs p.1).t0 goal=d
   cases a<;>cases b<;>cases d<;>rfl
 unfold z8 fa
 rw[BH,BH,h1,h2,de (iy.mpr d8),SO]
 generalize y6 .. =a,y1 .. =b
 cases a<;>cases b<;>rfl
theorem ay7:standF cs op i=aG (decide (op∈([65050,220]:af ag))&& !sI cs i op) 5 (aG (aA op 65041) (standF cs 65041 i) 0):=by
 by_cases z:op=65050
 ·rw[z]
  have go:∀l:af (ag×ag),(∀p∈l,p∈regionO cs i)->Cz cs l=aG (!sH cs av ((l.map ay).filter λp=> !iP p.2 65)) 5 0:=λl=>by
   induction l with
   |nil=>exactλU=>aa
   |cons p l aI=>
    intro h
    have aI:=aI λq b4=>h q (iL _ b4)
    have a7:=h p dI
    show aG (aA p.2 0) (Cz cs l) (aG (oW (g4 cs p.1) p.2) 0 5)=_
    rw[tM,wi]
    unfold oW
    rcases vJ a7 with z|z|z
    ·rw[show(!iP (ay p).2 65)=av by unfold ay;rw[z];rfl,z];exact aI
    ·rw[show(!iP (ay p).2 65)=ak by unfold ay;rw[z];rfl,bk rfl]
     show _=aG (!(iP (ay p).2 66&&decide ((g4 cs p.1).s<2))) 5 0
     unfold ay;rw[z];rfl
    ·rw[show(!iP (ay p).2 65)=ak by unfold ay;rw[z];rfl,bk rfl]
     show _=aG (!(iP (ay p).2 66&&decide ((g4 cs p.1).s<2))) 5 0
     unfold ay;rw[z]
     rcases Fj S a7 with w|w|w|w<;>rw[w]<;>rfl
  exact(go _ λp=>wo.mp).trans (by rw[←xj];rfl)
 ·by_cases y:op=220
  ·rw[y]
   have e:sI cs i 220=sH cs ak ((regionO cs i).reverse.map ay):=aU (sH cs ak) (xj cs i)
   show uw cs (regionO cs i) 220=aG (!sI cs i 220) 5 0
   rw[e]
   unfold uw sH
   rw[TG,TH]at|-
   rcases u:(regionO cs i).getLast? with _|p
   ·rfl
   ·have a7:=TO u
    show aG (_&&last (g4 cs p.1) p.2) 0 _=aG (!(iP (ay p).2 66&&decide (1<(g4 cs p.1).s))) 5 0
    unfold last ay
    rcases vJ a7 with z|z|z<;>rw[z]
    ·rfl
    ·rfl
    ·rcases Fj S a7 with w|w|w|w<;>rw[w]<;>rfl
  ·rw[de (λh=>(fS.mp h).elim z λh=>y (dv.mp h)),SM]
   by_cases x:op=65041
   ·rw[x];rfl
   ·unfold standF
    rw[show aA op 65050=av from de z,show aA op 220=av from de y,show aA op 65041=av from de x];rfl
end
structure eZ(c:cO)(A:eG)(ba:H->Prop)(cur:V)(at_:ag)(g:eY)(σ:H):Prop where
 C:ba σ
 o:mE σ A cur at_
 h:lY c A g σ
abbrev uf(T:ag×ag->Prop)(f:ag×ag):ag×ag->Prop:=λt=>T t\/t=f
def wQ(c:cO)(gv:eM)(A:eG)(ba:H->Prop)(cur:V)(at_:ag)(T:ag×ag->Prop)(p:aw ae)(X:bR)(g:eY)(σ:H):Prop:=∀e ah bx f,Fr lB σ ah->eZ c A ba cur at_ bx ah->fU c g bx->bx.cU=g.cU->fb c gv bx T p->oK c gv f\/l2 c gv->IsFlt ah e f at_->X e ah
def ud(c:cO)(gv:eM)(A:eG)(ba:H->Prop)(cur:V)(at_:ag)(T:ag×ag->Prop)(p:aw ae)(P:eY->Prop)(K:dn)(g:eY)(σ:H):Prop:=∀ah bx,Fr lB σ ah->eZ c A ba cur at_ bx ah->fU c g bx->bx.cU=g.cU->fb c gv bx T p->P bx->K ah
section
variable{σ ah:H}{n a:ae}{c:cO}{bp:aB}{gv:eM}{A:eG}{ba:H->Prop}{g bx:eY}{T:ag×ag->Prop}{Q:bQ}{X:bR}{S:ae->aB}{at_ j:ag}{p:aw ae}{q:ae}{x:hv}{cur:V}{P:eY->Prop}{K':dn}{s:af ag}{y:Cl}{hd:aw ae}{lm:bf}{k:cT}{r:af St}{aq e2:aW}{cd:ag}
theorem eZ.fr(K:fW c bp gv A ba)(w:eZ c A ba cur at_ g σ)(f:Fr S σ ah)(z:([1,2,3,4,5,6,7,8].all λt=> !S t)=ak)(jD:∀t,fI 2 t=av\/fI t 10=av->S t=av):eZ c A ba cur at_ g ah:=by
 have e:∀t∈[1,2,3,4,5,6,7,8],S t=av:=λt m=>(we _).symm.trans (aU (!·) (iK.mp z t m))
 exact⟨K.up (f.wide λt h=>jD t (tI.mp h)) w.C,f _ _ w.o (e 2 (.tail _ (.head _))),w.h.fr f (iK.mpr λt m=>by rw[e t ((fS.mp m).elim (λu=>aR u (.head _)) λm=>.tail _ (.tail _ m))];rfl)⟩
theorem eZ.ext(K:fW c bp gv A ba)(w:eZ c A ba cur at_ g σ)(f:Ext σ ah):eZ c A ba cur at_ g ah:=w.fr K (S:=du) f.fr aa λU U=>aa
theorem wQ.up(h:wQ c gv A ba cur at_ T p X g σ)(f:Fr lB σ ah)(aH:fU c g bx)(e:bx.cU=g.cU):wQ c gv A ba cur at_ T p X bx ah:=λu a3 g2 f2 a b d ee l bG i=>h u a3 g2 f2 (f.ay a) b (aH.ay d) (ee.trans e) l bG i
theorem ud.up(h:ud c gv A ba cur at_ T p P K' g σ)(f:Fr lB σ ah)(aH:fU c g bx)(e:bx.cU=g.cU):ud c gv A ba cur at_ T p P K' bx ah:=λa3 g2 a b d ee l m=>h a3 g2 (f.ay a) b (aH.ay d) (ee.trans e) l m
theorem F8(K:fW c bp gv A ba)(w:eZ c A ba cur at_ g σ)(L:fb c gv g T p)(r:(x.1≠[]->(q:ag)∉c.cs.map Cl.t0)->Re c gv q x.1 x.2)(v:mF σ a x.1 x.2)(bT:(x.1≠[]->(q:ag)∉c.cs.map Cl.t0)->ud c gv A ba cur at_ T p (λbx=>f' bx q x.1.length x.2) (Q .n) g σ)
  (bE:(x.1≠[]/\(q:ag)∈c.cs.map Cl.t0)\/(∃y,g.cc q=ab y/\y.1.length≠x.1.length)/\l2 c gv->∀e ah,Ext σ ah->oL ah e 3 q->X e ah):W (n+7) 56 [.r A.v,.i q,.r a] σ Q X:=
 ML K w.C w.o w.h (L.wl K.js) (λU U h=>L.sY h) r v (λne bx ah r F f h=>(Ol K.js L r F).elim λl u=>bT ne ah bx f ⟨K.up (fE f aa rfl) w.C,f _ _ w.o aa,h⟩ u.1 u.2.1 l u.2.2) bE
theorem ae6(o:mE σ A cur at_)(q:∀e ah,Ext σ ah->oL ah e cd at_->X e ah):W (n+2) 41 [.r A.v,.i cd] σ Q X:=
 bD aa rfl (s8 (.inr aa) (.v o aa rfl) λe ne=>q e _ (Ext.rfl.new ne) ⟨_,bc⟩)
theorem vL(o:mE σ A cur at_)(h1:ck aj (n+2) σ lm aq (.r A.v))(h2:ck aj (n+2) σ lm e2 (.i cd))(q:∀e ah,Ext σ ah->oL ah e cd at_->k.x e lm ah):aH aj (n+2) (.e (.m aq 58 [e2])::r) lm σ k:=jt h1 o aa rfl (.c h2 .N) (ae6 o q)
theorem By{F:cy}{bF:aW}{f:ae}{v1 v2:V}(h1:R F hd σ lm aq v1)(h2:R F hd σ lm e2 v2)(h3:vE aZ F hd lm bF σ (λv ah=>F f [v1,v2,v] ah Q X) X):vE aZ F hd lm (.f f [aq,e2,bF]) σ Q X:=h1 _ _ (h2 _ _ h3)
theorem Yo{F:cy}{bF eO:aW}{f:ae}{v1 v2:V}(h1:R F hd σ lm aq v1)(h2:R F hd σ lm e2 v2)(h3:vE aZ F hd lm bF σ (λv ah=>h4 aZ F hd lm [eO] ah (λl ah=>F f (v1::v2::v::l) ah Q X) X) X):vE aZ F hd lm (.f f [aq,e2,bF,eO]) σ Q X:=h1 _ _ (h2 _ _ h3)
theorem LA{i:ae}(K:fW c bp gv A ba)(w:eZ c A ba cur i g σ)(L:fb c gv g T p)(aQ:y∈c.cs)(r:Re c gv i s j)(h0:y.t0<=i)(h1:(i:ag)<y.t1)(bE:wQ c gv A ba cur i T p X g σ)(b:c.bad y≠0){e:ae}(x:Ext σ ah)(h:IsFlt ah e (c.bad y,(i:ag)) i):X e ah:=bE e ah _ _ x.fr (w.ext K x) fU.rfl aa L (.inl ⟨y,aQ,i,s,j,r,h0,h1,b,aa⟩) h
theorem begin_{i:ae}{s':af ag}{k:ag}(K:fW c bp gv A ba)(w:eZ c A ba cur i g σ)(L:fb c gv g T p)(aQ:y∈c.cs)(r:Re c gv i s j)(h0:y.t0<=i)(h1:(i:ag)<y.t1)(hs:(k<0/\s'=[])\/(0<=k/\s'=[k]))(bb:c.bad y=0\/(0<=k/\c.bad y=20))(az:c.bad y=0->0<=k->c.jO y≠[])
  (P5:c.bad y=0->Re c gv q s' j/\(s'≠[]->(q:ag)∉c.cs.map Cl.t0))(bT:c.bad y=0->ud c gv A ba cur i T p (λbx=>f' bx q s'.length j) (Q .n) g σ)(bE:wQ c gv A ba cur i T p X g σ):W (n+8) 87 [.r A.v,.i q,.i k,.i j] σ Q X:=by
 have D:=K.js
 have go:∀{aJ:H}{l:ae},c.bad y=0->Ext σ aJ->aJ l=ab ⟨1,.l (aL s')⟩->aH aj (n+7) [.e (.f 56 [.l 0,.l 1,.w 7 [.l 4,.l 3,.i 0]])] [ab (.r A.v),ab (.i q),ab (.i k),ab (.i j),ab (.r l)] aJ (fz Q X):=λm x o=>
  By (.p aa) (.p aa) (w4 (n:=n+6) (hd:=aj) 1 ai (R.M (.L aa) o) (λU U=>.p aa) λa b a3 bl c5 cX=>
   have x:=x.ay bl
   F8 K (w.ext K x) L (x:=(s',j)) (λU=>(P5 m).1) ⟨b,c5,cX⟩ (λU=>(bT m).up x.fr fU.rfl aa) λF e bM bH h=>bE e bM g (3,(q:ag)) (x.ay bH).fr (w.ext K (x.ay bH)) fU.rfl aa L (.inr (F.resolve_left λu=>(P5 m).2 u.1 u.2).2) (.inl h))
 refine bD aa rfl (kg 1 ai (.L .N hC) λl nl=>eR (z:=decide (0<=k)) (.p aa) (λz=> ?_) λz=> ?_)
 ·have x:=Ext.rfl.new (o:=⟨1,.l []⟩) nl
  refine eR (z:=decide (c.most<1)) (.q (.A (.v (x _ _ w.o) aa rfl) (dS (x _ _ (K.body w.C)) aa)) .i aa) (λy=> ?_) λy=>fw (.p aa) (.p aa) bc ai ai (go (bb.resolve_right λu=>aV (D.Ov _ aQ u.2) (hy y)) (by rw[ti];exact Ext.rfl.new nl) (aD (hs.resolve_left λu=>aV (c4 z) (Int.not_le.mpr u.1)).2 bc))
  have b:=bb.resolve_left λb=>(D.fit _ aQ b).elim (λu=>u.elim λU u=>aV (c4 y) (iy.mpr u.2)) (az b (c4 z))
  exact vL (x _ _ w.o) (.p aa) .c λe ah hn h=>LA K w L aQ r h0 h1 bE (λu=>nomatch u.symm.trans b.2) (x.ay hn) (.inl (b.2.symm▸h))
 ·exact go (bb.resolve_right λu=>hy z u.1) (Ext.rfl.new nl) (aD (hs.resolve_right λu=>hy z u.1).2 bc)
theorem Xk{i:ae}(K:fW c bp gv A ba)(w:eZ c A ba cur i g σ)(L:fb c gv g T p)(aQ:y∈c.cs)(r:Re c gv i s j)(h0:y.t0<=i)(h1:(i:ag)<y.t1)(bT:ud c gv A ba cur i T p (λbx=>pS c bx y j) (Q .n) g σ)(bE:wQ c gv A ba cur i T p X g σ):W (n+9) 88 [.r A.v,y.v,.i j] σ Q X:=by
 have D:=K.js
 have ew:=D.zY y aQ
 have nat:∀{g:ag},0<=g->∃q:ae,g=q:=λh=>⟨_,(ji h).symm⟩
 rcases nat (g:=y.h0) (eE (eE ew.1 (hJ ew.2.1)) ew.2.2.1)with⟨h,eh⟩
 have iE:c.bad y=0->Re c gv h (c.jO y) j/\(c.jO y≠[]->(h:ag)∉c.cs.map Cl.t0):=λb=>(zW D r (mv _ (Rl aQ h0 h1 b).1)).elim λq u=>⟨lx (eh.symm.trans u.1)▸u.2.1,λne m=>u.2.2.2 ⟨ne,eh.symm▸m⟩⟩
 have h3:∀{lm},lm.get 1=ab y.v->ck aj (n+8) σ lm (.u (.l 1) (.i 3)) (.i h):=λe=>aR eh (.bC (.L e) .i (fG aa))
 by_cases s0:y.s=0
 ·refine bD aa rfl (hW (z:=ak) (.p aa) (aU ab (cD s0)) (λU=>Yo (.p aa) (h3 aa) (d0 (.p aa) (K.cat w.C w.o y aQ s0 (λU b e ah x h=>LA K w L aQ r h0 h1 bE b x h) λb k o7 uu aJ aM=>Rs.mM (l:=[.i j]) (.p aa) ?_))) nofun)
  exact begin_ (n:=n) (s':=[k]) K (w.ext K aM) L aQ r h0 h1 (.inr ⟨o7,aa⟩) (b.imp id λu=>⟨o7,u⟩) (λb U u=>nomatch (uu b).symm.trans u) (λb=>aR (uu b) (iE b)) (λb=>λah bx f dX aH e l C=>bT ah bx (aM.fr.ay f) dX aH e l ⟨b,aD eh (aD (uu b) C),λu=>nomatch s0.symm.trans u⟩) (bE.up aM.fr fU.rfl aa)
 by_cases s1:y.s=1
 ·have B:=D.b1 y aQ s1
  have vH:=ew.2.2.2.2.2 s1
  rcases nat (g:=y.x) (eE (eE ew.1 (hJ ew.2.1)) vH.1)with⟨f,g5⟩
  have zX:c.bad y=0->Re c gv f [12] j/\(([12]:af ag)≠[]->(f:ag)∉c.cs.map Cl.t0):=λb=>(zW D r (mv _ ((Rl aQ h0 h1 b).2 s1))).elim λq u=>⟨lx (g5.symm.trans u.1)▸u.2.1,λne m=>u.2.2.2 ⟨ne,g5.symm▸m⟩⟩
  have bb:c.bad y=0\/((0:ag)<=12/\c.bad y=20):=B.2.imp id λu=>⟨ai,u⟩
  have az:c.bad y=0->(0:ag)<=12->c.jO y≠[]:=λU U u=>nomatch B.1.symm.trans u
  refine bD aa rfl (hW (z:=av) (.p aa) (aU ab (de s0)) nofun λU=>hW (z:=ak) (.p aa) (aU ab (cD s1)) (λU=>d0 (l:=[.r A.v,.i f,.i 12,.i j]) (.p (aR g5 aa)) ?_) nofun)
  refine begin_ (n:=n) (s':=[12]) K w L aQ r h0 h1 (.inr ⟨ai,aa⟩) bb az zX (λb aJ g1 f1 dP nd aq oN ez=> ?_) bE
  refine d0 (l:=[.r A.v,.i h,.i 12,.i j]) (.p (aR eh aa)) (begin_ (n:=n) (s':=[12]) K dP oN aQ r h0 h1 (.inr ⟨ai,aa⟩) bb az (λb=>aR B.1 (iE b)) (λb=> ?_) (bE.up f1 nd aq))
  exactλah bx f dX aH e l C=>bT ah bx (f1.ay f) dX (nd.ay aH) (e.trans aq) l ⟨b,aD eh (aD B.1 C),λU=>aD g5 (aH.jQ ez)⟩
 ·have B:=D.b2 y aQ s0 s1
  exact bD aa rfl (hW (z:=av) (.p aa) (aU ab (de s0)) nofun λU=>hW (z:=av) (.p aa) (aU ab (de s1)) nofun λU=>d0 (l:=[.r A.v,.i h,.i (-1),.i j]) (.p (eh▸aa)) (begin_ (n:=n) (s':=[]) K w L aQ r h0 h1 (.inl ⟨ai,aa⟩) (.inl B.2) (λU u=>nomatch u) (λb=>B.1▸iE b) (λb ah bx f dX aH e l C=>bT ah bx f dX aH e l ⟨b,eh▸B.1▸C,λu=>aV u s1⟩) bE))
end
structure fi where
 rs:af dr
 ef:af (dr×V)
 ds:af ag
 ws:af ag
 os:af ag
noncomputable section
def c0(l:af ag)(k:ag):ag:=(l[k.toNat]?).getD 0
def qk(r:dr):af ag:=r.2.2.getD (aG (aA r.1 4||(aA r.1 5||(aA r.1 8||(aA r.1 9||aA r.1 11)))) [r.2.1] [])
def vp(a:ag):ag:=aG (aA a 2||(aA a 3||aA a 4)) 1 0
def xN(T:fi)(a:ag)(s:ag×ag×ag)(k:ag):ag×ag×ag:=(aG (decide (s.1<c0 T.ds k+vp a)) (c0 T.ds k+vp a) s.1,s.2.1+c0 T.ws k,aG (aA (c0 T.os k) 1) 1 s.2.2)
def qn(T:fi)(r:dr):ag×ag×ag:=(qk r).foldl (xN T r.1) (1,1,aG (aA r.1 6||aA r.1 7) 1 0)
def fi.put(T:fi)(r:dr):fi:=⟨T.rs++[r],dA T.ef r (.i T.rs.length),T.ds++[(qn T r).1],T.ws++[(qn T r).2.1],T.os++[(qn T r).2.2]⟩
def d4(T:fi)(k:ag):ag:=(T.rs[k.toNat]?).elim 0 (·.1)
def fv(T:fi)(k:ag):aB:=decide (0<=k)&&decide (k<T.rs.length)
def may(T:fi)(k:ag):aB:=decide (d4 T k<=4)||(aA (d4 T k) 6||aA (d4 T k) 7)
def zA(T:fi)(k:ag):aB:=fv T k&&(!(aA k 0||aA k 14)&&may T k)
def isVal(T:fi)(k:ag):aB:=aG (decide (1<=k)&&decide (k<=11)) ak (aA (d4 T k) 3)
def isRef(T:fi)(k:ag):aB:=aG (aA k 12||(aA k 13||aA k 14)) ak (aA (d4 T k) 2||(aA (d4 T k) 4||aA (d4 T k) 8))
def isVar(T:fi)(k:ag):aB:=aA (d4 T k) 6||aA (d4 T k) 7
def Bl(T:fi)(r:dr):aB:=(qk r).all (fv T)&&(decide ((qn T r).1<=24)&&(decide ((qn T r).2.1<=4096)&&aG (aA r.1 2||aA r.1 3) (r.2.2.isSome&&(decide (0<r.2.1)&&(!(cw z' r.2.1).isSome&&(qk r).all (zA T)))) (r.2.2.isNone&&aG (aA r.1 6||aA r.1 7) (decide (0<=r.2.1)) (aG (aA r.1 8) (isVal T r.2.1||isVar T r.2.1) ((aA r.1 5||aA r.1 11)&&zA T r.2.1)))))
end
structure r1 where
 (kt r ef d w o:ae)
structure KT(σ:H)(A:r1)(T:fi):Prop where
 h0:σ A.kt=ab ⟨1,.i 3 [(6,.r A.r),(7,.r A.ef),(8,.r A.d),(9,.r A.w),(10,.r A.o)]⟩
 h1:σ A.r=ab ⟨11,.l (T.rs.map dr.v)⟩
 h2:σ A.ef=ab ⟨12,.t T.ef⟩
 h3:σ A.d=ab ⟨13,.l (aL T.ds)⟩
 cQ:σ A.w=ab ⟨14,.l (aL T.ws)⟩
 gT:σ A.o=ab ⟨15,.l (aL T.os)⟩
 ld:T.ds.length=T.rs.length
 lw:T.ws.length=T.rs.length
 lo:T.os.length=T.rs.length
 rn:T.rs.length<=100
 li:T.ef.length<=100
structure g0(σ:H):Prop where
 a:σ 66=ab ⟨0,.d aZ4⟩
 b:σ 67=ab ⟨0,.d z'⟩
 c:σ 257=ab ⟨0,.d It⟩
section
variable{F:cy}{hd:aw ae}{σ ah:H}{lm:bf}{n t:ae}{A:r1}{T:fi}{k a b:ag}{aq e2:aW}{Q:bQ}{X:bR}{S:ae->aB}{l:af V}{r:dr}{ls:af ag}
theorem KT.fr(h:KT σ A T)(f:Fr S σ ah)(dZ:S 1=av)(z:∀t,fI 11 t=ak->fI t 15=ak->S t=av):KT ah A T:={h with h0:=f _ _ h.h0 dZ,h1:=f _ _ h.h1 (z _ aa rfl),h2:=f _ _ h.h2 (z _ aa rfl),h3:=f _ _ h.h3 (z _ aa rfl),cQ:=f _ _ h.cQ (z _ aa rfl),gT:=f _ _ h.gT (z _ aa rfl)}
theorem g0.fr(h:g0 σ)(f:Fr S σ ah)(z:S 0=av):g0 ah:=⟨f _ _ h.a z,f _ _ h.b z,f _ _ h.c z⟩
theorem Cf{b:aB}(h:(!b)=ak):b=av:=by
 cases b
 ·rfl
 ·cases h
theorem NP(h:fv T k=ak):∃j:ae,k=j/\j<T.rs.length:=⟨k.toNat,(ji (c4 (df h).1)).symm,fh.mp ((ji (c4 (df h).1)).symm▸c4 (df h).2)⟩
theorem bo8{j:ae}(h:T.rs[j]? =ab r):d4 T j=r.1:=by unfold d4;rw[show((j:ag).toNat)=j from aa,h];rfl
theorem bo5:k5 [r.v] 0=ab r.v/\∃l,r.v=.t (.i r.1::.i r.2.1::l):=by rcases r with⟨a,b,_|l⟩<;>exact⟨aa,_,aa⟩
theorem C0:∃l,r.v=.t (.i r.1::.i r.2.1::l):=by rcases r with⟨a,b,_|l⟩<;>exact⟨_,aa⟩
theorem z0(K:KT σ A T)(h:fv T k=ak):∃r,T.rs[k.toNat]? =ab r/\∀n,eA (W (n+1)) σ 2 [.r A.kt,.i k] r.v:=by
 refine b5 (NP h) λj e lt=> ?_
 subst e
 refine⟨_,f9 lt,λn Q E q=> ?_⟩
 exact bD aa rfl (dV (z:=av||decide (((T.rs.map dr.v).length:ag)<=j)) (.lO (.q (.p aa) (.p aa) (aU ab (de (iy.mpr (mq j))))) (.q (.p aa) (.bi aa (.v K.h0 aa rfl) (jz K.h1)) aa)) (de (by rw[cN];exact Int.not_le.mpr (fh.mpr lt))) (bP (.bC (.v K.h0 aa rfl) (.p aa) (fF K.h1 (kS (f9 lt)))) q))
theorem R.row(K:KT σ A T)(h:fv T k=ak)(h1:R (W (n+1)) .none σ lm aq (.r A.kt))(h2:R (W (n+1)) .none σ lm e2 (.i k)):∃l b,R (W (n+1)) .none σ lm (.m aq 12 [e2]) (.t (.i (d4 T k)::.i b::l)):=by
 refine b5 (z0 K h) λr e c=> ?_
 rcases C0 (r:=r)with⟨l,kW⟩
 have ao:d4 T k=r.1:=by unfold d4;rw[e];rfl
 have c:=c n
 rw[kW,←ao]at c
 exact⟨l,_,.mR h1 K.h0 aa rfl (.c h2 .N) c⟩
theorem R.d4(K:KT σ A T)(h:fv T k=ak)(h1:R (W (n+1)) .none σ lm aq (.r A.kt))(h2:R (W (n+1)) .none σ lm e2 (.i k)):R (W (n+1)) .none σ lm (.u (.m aq 12 [e2]) (.i 0)) (.i (d4 T k)):=(R.row K h h1 h2).elim λU w=>w.elim λU w=>.bC w .i (fG (f5 (k:=0) aa))
theorem kind_sort_(K:KT σ A T)(h:fv T k=ak):eA (W (n+2)) σ 16 [.r A.kt,.i k] (.i (d4 T k)):=λU U q=>bD aa rfl (bP (R.d4 K h (.p aa) (.p aa)) q)
theorem GR(K:KT σ A T)(h:fv T k=ak):eA (W (n+2)) σ 19 [.r A.kt,.i k] (.b (isVal T k)):=λU U q=>bD aa rfl (s7 (.p aa) q (λU q=>bP (.p aa) q) λU q=>bP (.g6 (R.d4 K h (.p aa) (.p aa)) .c) q)
theorem is_ref_(K:KT σ A T)(h:fv T k=ak):eA (W (n+2)) σ 20 [.r A.kt,.i k] (.b (isRef T k)):=λU U q=>bD aa rfl (s7 (.p aa) q (λU q=>bP (.p aa) q) λU q=>c7 (R.d4 K h (.p aa) (.p aa)) (bP (.p aa) q))
theorem BY(K:KT σ A T)(h:fv T k=ak):eA (W (n+2)) σ 21 [.r A.kt,.i k] (.b (isVar T k)):=λU U q=>bD aa rfl (c7 (R.d4 K h (.p aa) (.p aa)) (bP (.p aa) q))
theorem Oy(K:KT σ A T)(h:zA T k=ak):eA (W (n+2)) σ 10 [.r A.kt,.i k] (.b ak):=λQ E q=>
 bD aa rfl (dV (z:=aA k 0||aA k 14) (.p aa) (Cf (df (df h).2).1) (c7 (R.d4 K (df h).1 (.p aa) (.p aa)) (bP (.p aa) (show Q (.b (may T k)) σ from aD (df (df h).2).2 q))))
theorem Xd(K:KT σ A T)(h:ls.all (zA T)=ak):eA (W (n+3)) σ 9 [.r A.kt,.t (aL ls)] .n:=λQ E q=>
 bD aa rfl (iF (its:=ls) (gv:=.i) (λx=>[.i x]) (λb=>[ab (.r A.kt),ab (.t (aL ls)),b]) (λU U ah=>ah=σ) .none aa (.p aa) tc (λU=>aa) (λU U U U=>trivial) aa rfl (λU U e=>aD e q) λx U b U m e K' bV=>by
  rw[e];exact dV (.not (.K (.p aa) (Oy K (iK.mp h x m))) aa) aa (bV (ab (.i x)) _ aa))
theorem Xe(K:KT σ A T)(B:g0 σ)(h0:0<b)(h1:(cw z' b).isSome=av)(h:ls.all (zA T)=ak):eA (W (n+4)) σ 8 [.r A.kt,.t [.i a,.i b,.t (aL ls)]] .n:=λQ E q=>
 bD aa rfl (dV (z:=av||(cw z' b).isSome) (.lO (.q (.p aa) (.p aa) (aU ab (de (Int.not_le.mpr h0)))) (.q (.p aa) (.p aa) (qj B.b))) h1 (d0 (.p aa) (Xd K h _ _ q)))
theorem NN(h:(aA a 2||aA a 3)=ak):eA (W (n+1)) σ 4 [.t [.i a,.i b,.t l]] (.t l):=λU U q=>bD aa rfl (c7 (.p aa) (gV (.p aa) h (bP (.p aa) q)))
theorem NO(h:(aA a 2||aA a 3)=av)(h':aA a 10=av):eA (W (n+1)) σ 4 [.t [.i a,.i b]] (.t (aL (qk (a,b,.none)))):=λQ U q=>
 bD aa rfl (c7 (.p aa) (dV (.p aa) h (la (λx=>Q (.t (aL x)) σ) (.p aa) aa q (λU q=>bP (.p aa) q) λU q=>dV (.p aa) h' (bP (.p aa) q))))
theorem aQ0:eA (W (n+1)) σ 5 [.i a] (.i (vp a)):=λU U q=>bD aa rfl (mh (.p aa) q (λU q=>bP (.p aa) q) λU q=>bP (.p aa) q)
theorem P1(h':aA a 10=av):eA (W (n+1)) σ 6 [.i a] (.i (aG (aA a 2||aA a 3) 3 2)):=λU U q=>bD aa rfl (mh (.p aa) q (λU q=>bP (.p aa) q) λU q=>dV (.p aa) h' (bP (.p aa) q))
theorem at0(c:Bl T r=ak):eA (W (n+1)) σ 4 [r.v] (.t (aL (qk r))):=by
 have h2:=(df (df (df c).2).2).2
 rcases r with⟨a,b,o⟩
 rcases c2:aA a 2||aA a 3 with _|_
 ·rw[show(aA (a,b,o).1 2||aA (a,b,o).1 3)=av from c2,yc]at h2
  rcases o with _|_
  ·exact NO c2 (by
have h3:=(df h2).2
rcases e:aA a 10 with _|_
·rfl
·rw[c4 e]at h3;cases h3)
  ·cases(df h2).1
 ·rw[show(aA (a,b,o).1 2||aA (a,b,o).1 3)=ak from c2,D2]at h2
  rcases o with _|l
  ·cases(df h2).1
  ·exact NN c2
end
abbrev eV:=ag×ag×ag
def zZ(r:eV):V:=c' (r.1,r.2.1)
def e6(rows:af eV)(p v:ag):Prop:=∃(q:ae)(r:eV),p=q/\rows[q]? =ab r/\r.2.2=v
structure m7(rows:af eV)(x:Cl):Prop where
 s:x.s=0\/x.s=1\/x.s=2\/x.s=4
 r:0<=x.t0/\x.t0<x.t1/\x.t1<=x.h0/\x.h0<x.h1/\x.h1<=rows.length
 f:x.s=1->x.t1<=x.x/\x.x+2=x.h0
 e:x.s=0->0<=x.x/\x.x<=14
 t:e6 rows x.t0 0
 gF:x.s=0->e6 rows x.h0 (3+x.x)
 b1:x.s=1->e6 rows x.x 2/\e6 rows x.h0 2
abbrev Off(y:Cl)(q:ag):Prop:=y.h1<=q\/q<y.t0
structure gD(rows:af eV)(cls:af Cl)(pn:af ag):Prop where
 jr:∀x∈cls,m7 rows x
 lI:∀r∈rows,0<=r.1/\r.1<=10/\(r.1=10->r.2.2=1)
 g5:∀q:ag,e6 rows q 1->q∈pn\/∃(i:ae)(x:Cl),cls[i]? =ab x/\x.s=1/\x.x+1=q/\∀j<i,∀y:Cl,cls[j]? =ab y->Off y q
 pn:∀q∈pn,q<rows.length/\∀y∈cls,Off y q
section
variable{rows l:af eV}{cls:af Cl}{pn pn':af ag}{r:eV}{x:Cl}{p q v ou:ag}
theorem e6.up(h:e6 rows p v):e6 (rows++l) p v:=h.elim λq w=>w.elim λr w=>⟨q,r,w.1,(wk (mr.mp w.2.1).1).trans w.2.1,w.2.2⟩
theorem e6.one(h:e6 rows p v)(h':e6 rows p ou):v=ou:=by
 refine tp h λq r e a b=> ?_
 refine tp h' λxr ei dO e0 cL=> ?_
 rw[←lx (e.symm.trans dO),a]at e0
 rw[←b,←cL,cR e0]
theorem e6.new:e6 (rows++[r]) rows.length r.2.2:=⟨_,r,aa,Eg ..,aa⟩
theorem e6.lt(h:e6 rows p v):p<rows.length:=h.elim λq w=>w.elim λr w=>aD w.1 (fh.mpr (mr.mp w.2.1).1)
theorem e6.inv(h:e6 (rows++[r]) p v):e6 rows p v\/p=rows.length/\r.2.2=v:=by
 refine tp h λq ei e a b=> ?_
 rcases Et q rows.length with w|w
 ·rw[wk w]at a;exact .inl ⟨q,ei,e,a,b⟩
 ·have lt:=(mr.mp a).1
  rw[cK]at lt
  have eq:q=rows.length:=Es (oC lt) w
  rw[eq,Eg]at a
  exact .inr ⟨e.trans (aU tK eq),aD (cR a) b⟩
theorem m7.up(h:m7 rows x):m7 (rows++l) x:={h with
 r:=⟨h.r.1,h.r.2.1,h.r.2.2.1,h.r.2.2.2.1,eE h.r.2.2.2.2 (jH.mpr (by rw[cK];exact en _ _))⟩
 t:=h.t.up
 gF:=λs=>(h.gF s).up
 b1:=λs=>⟨(h.b1 s).1.up,(h.b1 s).2.up⟩}
theorem e6.mU(h:e6 rows p v)(w:rows<+:l):e6 l p v:=w.elim λt e=>aR e h.up
theorem m7.mU(h:m7 rows x)(w:rows<+:l):m7 l x:=w.elim λt e=>aR e h.up
theorem gD.nil:gD [] [] []:=⟨h9 _,h9 _,λq h=>aV h.lt (h.elim λq w=>w.elim λr w=>aD w.1 (iy.mpr (mq q))),h9 _⟩
theorem gD.row(g:gD rows cls pn)(h0:0<=r.1/\r.1<=10/\(r.1=10->r.2.2=1))(h1:r.2.2=1->(rows.length:ag)∈pn')(s:pn⊆pn')(s':∀q∈pn',q∈pn\/q=rows.length):gD (rows++[r]) cls pn' where
 jr:=λx aE=>(g.jr x aE).up
 lI:=λei h=>(gO.mp h).elim (g.lI ei) λh=>aD (dv.mp h) h0
 g5:=λq h=>h.inv.elim (λh=>(g.g5 q h).imp (λh=>s h) id) λw=>.inl (aD w.1 (h1 w.2))
 pn:=λq b4=>by
  rw[cK]
  exact(s' q b4).elim (λh=>⟨oA (g.pn q h).1 (jH.mpr (en _ _)),(g.pn q h).2⟩) λe=>⟨aD e (fh.mpr (kM _)),λy aQ=>.inl (aD e (g.jr y aQ).r.2.2.2.2)⟩
theorem gD.cl(g:gD rows cls pn)(c:m7 rows x)(h:∀q∈pn,(x.s=1/\q=x.x+1)\/q∈pn')(s:pn'⊆pn)(o:∀q∈pn',Off x q):gD rows (cls++[x]) pn' where
 jr:=λy aQ=>(gO.mp aQ).elim (g.jr y) λh=>aD (dv.mp h) c
 lI:=g.lI
 g5:=λq b4=>(g.g5 q b4).elim (λm=>(h q m).elim (λw=>.inr ⟨cls.length,x,Eg ..,w.1,w.2.symm,λj cp y aQ=>(g.pn q m).2 y (List.mem_of_getElem? ((wk cp).symm.trans aQ))⟩) .inl) λw=>.inr (w.elim λi w=>w.elim λy w=>
  have lt:=(mr.mp w.1).1
  ⟨i,y,(wk lt).trans w.1,w.2.1,w.2.2.1,λj cp z cV=>w.2.2.2 j cp z ((wk (nO cp lt)).symm.trans cV)⟩)
 pn:=λq b4=>⟨(g.pn q (s b4)).1,λy aQ=>(gO.mp aQ).elim ((g.pn q (s b4)).2 y) λh=>aD (dv.mp h) (o q b4)⟩
end
def ph:af ag:=[0,38,65033,122,221,65050,220,0,69,57,65041]
def ij(N:ae)(r:eV):eo:=⟨c0 ph r.1,aG (decide (r.1∈([4,9]:af ag))) (.i (r.2.1%(N+1:ag))) (aG (aA r.1 8) (.t [.i (r.2.1%(N+1:ag)),.i (r.2.1/7%(N:ag))]) (.i 0))⟩
section
variable{F:cy}{hd:aw ae}{σ ah:H}{lm:bf}{n t:ae}{A:r1}{T:fi}{k a b:ag}{aq e2:aW}{Q:bQ}{X:bR}{r:dr}{ls:af ag}
theorem zI{x y:aB}(h:(x||y)=ak):x=ak\/y=ak:=(nH x y).mp h
theorem P4{v:V}{rr:af St}{fe:cT}(K:KT σ A T)(h:ls.all (fv T)=ak)(a4:ck aj (n+1) σ [ab (.r A.kt),ab v,ab (.i a),aj] (.f 4 [.l 1]) (.t (aL ls)))(q:∀o,aH aj (n+1) rr [ab (.r A.kt),ab v,ab (.i a),o] σ fe):aH aj (n+1) (.dw [3] .i [.f 4 [.l 1]] [.e (.m (.l 0) 12 [.l 3])]::rr) [ab (.r A.kt),ab v,ab (.i a),aj] σ fe:=
 iF (its:=ls) (gv:=.i) (λx=>[.i x]) (λo=>[ab (.r A.kt),ab v,ab (.i a),o]) (λU U ah=>ah=σ) .none aa (.c a4 .N) tc (λU=>aa) (λU U U U=>trivial) aa rfl (λo U e=>aD e (q o)) λx U b U mx e K' bV=>by
  rw[e];exact(R.row K (iK.mp h x mx) (.p aa) (.p aa)).elim λU w=>w.elim λU w=>aR9 w (bV _ _ aa)
theorem Xg(K:KT σ A T)(B:g0 σ)(h:Bl T r=ak):eA (W (n+5)) σ 7 [.r A.kt,r.v] .n:=λQ E q=>by
 have h1:=(df h).1
 have h2:=(df (df (df h).2).2).2
 rcases r with⟨a,b,o⟩
 rcases c:aA a 2||aA a 3 with _|_
 ·rw[show(aA (a,b,o).1 2||aA (a,b,o).1 3)=av from c,yc]at h2
  have h3:=df h2
  have p9:o=aj:=by
              rcases o with _|_
              ·rfl
              ·cases h3.1
  subst p9
  have cg:a=6\/a=7\/a=8\/a=5\/a=11:=by
   rcases c6:aA a 6||aA a 7 with _|_
   ·have cQ:=h3.2
    rw[show(aA (a,b,(aj:aw (af ag))).1 6||aA (a,b,(aj:aw (af ag))).1 7)=av from c6,yc]at cQ
    rcases q6:aA a 8 with _|_
    ·rw[show aA (a,b,(aj:aw (af ag))).1 8=av from q6,yc]at cQ
     exact .inr (.inr (.inr ((zI (df cQ).1).imp c4 c4)))
    ·exact .inr (.inr (.inl (c4 q6)))
   ·exact(zI c6).elim (λe=>.inl (c4 e)) λe=>.inr (.inl (c4 e))
  have o4:aA a 10=av:=by rcases cg with e|e|e|e|e<;>rw[e]<;>rfl
  refine bD aa rfl (dV (z:=av||(decide (a<=1)||decide (11<a))) (.lO (z:=av) (.q (x:=.i _) (y:=.i 0) (.bi aa (.p aa) λU q=>.len aa q) .i aa) (.p aa)) (by rcases cg with e|e|e|e|e<;>rw[e]<;>rfl) (c7 (.p aa) (dV (z:= !decide ((2:ag)=aG (aA a 2||aA a 3) 3 2)) (.og (.bi aa (.p aa) λU q=>.len aa q) (.K (.p aa) (P1 o4))) (by rw[c];rfl) (P4 K h1 (.K (.p aa) (NO c o4)) λo=>hW (.p aa) (aU ab c) nofun λU=> ?_))))
  have cQ:=h3.2
  have a0:∀{lm:bf},lm.get 1=ab (.t [.i a,.i b])->ck aj (n+4) σ lm (.u (.l 1) (.i 1)) (.i b):=λe=>.bC (.L e) .i (fG aa)
  refine hW (.p aa) (IA (b:=aA a 6||aA a 7)) (λc6=> ?_) λc6=> ?_
  ·rw[show(aA (a,b,(aj:aw (af ag))).1 6||aA (a,b,(aj:aw (af ag))).1 7)=ak from c6,D2]at cQ
   exact dV (z:=decide (b<0)) (.q (a0 aa) .i aa) (de (iy.mpr (c4 cQ))) q
  rw[show(aA (a,b,(aj:aw (af ag))).1 6||aA (a,b,(aj:aw (af ag))).1 7)=av from c6,yc]at cQ
  refine hW (.p aa) (IA (b:=aA a 10)) (λe=>nomatch o4.symm.trans e) λU=>hW (.p aa) (IA (b:=aA a 8)) (λq6=> ?_) λq6=> ?_
  ·rw[show aA (a,b,(aj:aw (af ag))).1 8=ak from q6,D2]at cQ
   have bb:fv T b=ak:=iK.mp h1 b (by rw[c4 q6];exact dI)
   have w:=R.not (.lO (.K (.c (.p (lm:=[ab (.r A.kt),ab (.t [.i a,.i b]),ab (.i a),o]) (e:=.l 0) aa) (.c (a0 aa) .N)) (GR (n:=n+2) K bb)) (.K (.c (.p (e:=.l 0) aa) (.c (a0 aa) .N)) (BY K bb))) aa
   rw[cQ]at w
   exact dV w aa q
  ·rw[show aA (a,b,(aj:aw (af ag))).1 8=av from q6,yc]at cQ
   exact dV (.not (.K (.c (.p aa) (.c (a0 aa) .N)) (Oy K (df cQ).2)) aa) aa q
 ·rw[show(aA (a,b,o).1 2||aA (a,b,o).1 3)=ak from c,D2]at h2
  rcases o with _|l
  ·cases(df h2).1
  have cg:a=2\/a=3:=(zI c).imp c4 c4
  have h3:=(df h2).2
  have cQ:=df (df h3).2
  refine bD aa rfl (dV (z:=av||(decide (a<=1)||decide (11<a))) (.lO (z:=av) (.q (x:=.i _) (y:=.i 0) (.bi aa (.p aa) λU q=>.len aa q) .i aa) (.p aa)) (by rcases cg with e|e<;>rw[e]<;>rfl) (c7 (.p aa) (dV (z:= !decide ((3:ag)=aG (aA a 2||aA a 3) 3 2)) (.og (.bi aa (.p aa) λU q=>.len aa q) (.K (.p aa) (P1 (by rcases cg with e|e<;>rw[e]<;>rfl)))) (by rw[c];rfl) (P4 K h1 (.K (.p aa) (NN c)) λo=>hW (.p aa) (aU ab c) (λU=>d0 (.p aa) (Xe K B (c4 (df h3).1) (Cf cQ.1) cQ.2 _ _ q)) nofun))))
theorem PI(K:KT σ A T)(h:cw T.ef r=ab (.i k))(h0:decide (0<=k)=ak):eA (W (n+1)) σ 3 [.r A.kt,r.v] (.i k):=λQ E q=>by
 exact bD aa rfl (c7 (v:=.i k) (.own (.v K.h0 aa rfl) K.h2 aa (.p aa) λQ q=>.QR aa (aD h q)) (gV (.p aa) h0 (bP (.p aa) q)))
theorem vw{l:af ag}{k:ag}(h:∃j:ae,k=j/\j<l.length):k5 (aL l) k=ab (.i (c0 l k)):=by
 refine b5 h λj e lt=> ?_
 subst e
 have g:=f9 lt
 rw[show c0 l j=l[j] by unfold c0;rw[show((j:ag).toNat)=j from aa,g];rfl]
 exact kS g
theorem aM7{d w o:ag}{a2 E7:aw V}{lv:V}(K:KT σ A T)(em:qn T r=(d,w,o))(ax:T.rs.length<100)(hi:T.ef.length<100)(q:∀ah,Fr (b' 11 15) σ ah->KT ah A (T.put r)->Q (.i T.rs.length) ah):
  aH aj n (FC.body.drop 12) [ab (.r A.kt),ab r.v,a2,ab (.i d),ab (.i w),ab (.i o),ab lv,E7,ab (.i T.rs.length)] σ (fz Q X):=by
 have len:∀{l:af V}{m:ae},l.length=m->m<=100->l.length<bN:=λe h=>aD e (d7 h ai)
 have rn:=K.rn
 have f1:Fr (b' 11 11) σ (aC σ A.r ⟨11,.l (T.rs.map dr.v++[r.v])⟩):=Fr.upd Fr.rfl K.h1 aa
 have a1:aC σ A.r ⟨11,.l (T.rs.map dr.v++[r.v])⟩ A.r=_:=bc
 refine fw (.v K.h0 aa rfl) (.p aa) K.h1 ai (len (cN _) rn) ?_
 generalize aC σ A.r _=aJ at*
 have h2:=f1 _ _ K.h2 aa
 have f2:Fr (b' 12 12) aJ (aC aJ A.ef ⟨12,.t (dA T.ef r (.i T.rs.length))⟩):=Fr.upd Fr.rfl h2 aa
 have a2:aC aJ A.ef ⟨12,.t (dA T.ef r (.i T.rs.length))⟩ A.ef=_:=bc
 refine⟨aa,(R.p (F:=W n) (hd:=aj) (e:=.l 8) aa).ev (R.ev (.v (f1 _ _ K.h0 aa) aa rfl) ((R.p aa).ev (.row h2 (fT hi ai) ai ?_)))⟩
 show aH aj n _ _ (aC aJ A.ef ⟨12,.t (dA T.ef r (.i T.rs.length))⟩) _
 generalize aC aJ A.ef _=a3 at*
 have h3:=f2 _ _ (f1 _ _ K.h3 aa) aa
 have cz:Fr (b' 13 13) a3 (aC a3 A.d ⟨13,.l (aL T.ds++[.i d])⟩):=Fr.upd Fr.rfl h3 aa
 have fB:aC a3 A.d ⟨13,.l (aL T.ds++[.i d])⟩ A.d=_:=bc
 refine fw (.v (f2 _ _ (f1 _ _ K.h0 aa) aa) aa rfl) (.p aa) h3 ai (len gI (aD K.ld rn)) ?_
 generalize aC a3 A.d _=bM at*
 have cQ:=cz _ _ (f2 _ _ (f1 _ _ K.cQ aa) aa) aa
 have f4:Fr (b' 14 14) bM (aC bM A.w ⟨14,.l (aL T.ws++[.i w])⟩):=Fr.upd Fr.rfl cQ aa
 have jo:aC bM A.w ⟨14,.l (aL T.ws++[.i w])⟩ A.w=_:=bc
 refine fw (.v (cz _ _ (f2 _ _ (f1 _ _ K.h0 aa) aa) aa) aa rfl) (.p aa) cQ ai (len gI (aD K.lw rn)) ?_
 generalize aC bM A.w _=cC at*
 have gT:=f4 _ _ (cz _ _ (f2 _ _ (f1 _ _ K.gT aa) aa) aa) aa
 have h0:=f4 _ _ (cz _ _ (f2 _ _ (f1 _ _ K.h0 aa) aa) aa) aa
 have e7:Fr (b' 15 15) cC (aC cC A.o ⟨15,.l (aL T.os++[.i o])⟩):=Fr.upd Fr.rfl gT aa
 unfold fi.put at q
 rw[em]at q
 exact fw (.v h0 aa rfl) (.p aa) gT ai (len gI (aD K.lo rn)) (bP (.p aa) (q _ ((fE f1 aa rfl).ay ((fE f2 aa rfl).ay ((fE cz aa rfl).ay ((fE f4 aa rfl).ay (fE e7 aa rfl))))) ⟨e7 _ _ h0 aa,
  (e7 _ _ (f4 _ _ (cz _ _ (f2 _ _ a1 aa) aa) aa) aa).trans (aU (λl=>ab (O.mk 11 (.l l))) (gA (l₂:=[r])).symm),e7 _ _ (f4 _ _ (cz _ _ a2 aa) aa) aa,aD (n' (s:=T.ds)) (e7 _ _ (f4 _ _ fB aa) aa),aD (n' (s:=T.ws)) (e7 _ _ jo aa),aR (n' (s:=T.os)) bc,
  (cK.trans (aU (·+1) K.ld)).trans cK.symm,(cK.trans (aU (·+1) K.lw)).trans cK.symm,(cK.trans (aU (·+1) K.lo)).trans cK.symm,aX (eK cK) ax,aX wU hi⟩))
theorem aM4(K:KT σ A T)(B:g0 σ)(h:cw T.ef r=aj)(c:Bl T r=ak)(ax:T.rs.length<100)(hi:T.ef.length<100)(q:∀ah,Fr (b' 11 15) σ ah->KT ah A (T.put r)->Q (.i T.rs.length) ah):W (n+6) 3 [.r A.kt,r.v] σ Q X:=by
 have oj:∀{lm:bf},lm.get 1=ab r.v->ck aj (n+5) σ lm (.u (.l 1) (.i 0)) (.i r.1):=λe=>C0.elim λl kW=>.bC (.L e) .i (aD kW (fG (f5 (k:=0) aa)))
 have cm:=(df c).2
 have go:∀s0:ag,s0=aG (aA r.1 6||aA r.1 7) 1 0->aH aj (n+5) (FC.body.drop 7) [ab (.r A.kt),ab r.v,ab (.i (-1)),ab (.i 1),ab (.i 1),ab (.i s0),aj,aj,aj] σ (fz Q X):=λs0 fj=>by
  rw[fj]
  refine c7 (.K (.c (oj aa) .N) aQ0) (iF (its:=qk r) (gv:=.i) (λx=>[.i x]) (λb:(ag×ag×ag)×aw V=>[ab (.r A.kt),ab r.v,ab (.i (-1)),ab (.i b.1.1),ab (.i b.1.2.1),ab (.i b.1.2.2),ab (.i (vp r.1)),b.2,aj]) (λl b ah=>ah=σ/\l.foldl (xN T r.1) b.1=qn T r) ((1,1,aG (aA r.1 6||aA r.1 7) 1 0),aj) aa
   (.c (.K (.p aa) (at0 c)) .N) tc (λU=>aa) (λU U U U=>trivial) aa ⟨aa,aa⟩ (λb ah i=> ?_) λx l b ah mx i K' bV=> ?_)
  ·have em:b.1=qn T r:=i.2
   rw[i.1,em]
   exact dV (z:=decide (24<(qn T r).1)) (.p aa) (de (iy.mpr (c4 (df cm).1))) (dV (z:=decide (4096<(qn T r).2.1)) (.p aa) (de (iy.mpr (c4 (df (df cm).2).1))) (c7 (v:=.i T.rs.length) (.bi aa (.v K.h0 aa rfl) (aR (cN dr.v) (jz K.h1))) (aM7 K aa ax hi q)))
  ·rw[i.1]
   refine b5 (NP (iK.mp (df c).1 x mx)) λj ej lt=> ?_
   have fin:∀q7 o0,q7=(xN T r.1 b.1 x).1->o0=(xN T r.1 b.1 x).2.2->K' [ab (.r A.kt),ab r.v,ab (.i (-1)),ab (.i q7),ab (.i (b.1.2.1+c0 T.ws x)),ab (.i o0),ab (.i (vp r.1)),ab (.i x),aj] σ:=λq7 o0 aq e2=>by
    rw[aq,e2];exact bV (xN T r.1 b.1 x,ab (.i x)) σ ⟨aa,i.2⟩
   have g:∀{lm:bf}{f p tg:ae}{ls:af ag},lm.get 0=ab (.r A.kt)->lm.get 7=ab (.i x)->fM [(6,V.r A.r),(7,.r A.ef),(8,.r A.d),(9,.r A.w),(10,.r A.o)] f=ab (.r p)->σ p=ab ⟨tg,.l (aL ls)⟩->ls.length=T.rs.length->ck aj (n+5) σ lm (.u (.a (.l 0) f) (.l 7)) (.i (c0 ls x)):=λa b c d e=>.bC (.A (.L a) (dS K.h0 c)) (.L b) (fF d (vw ⟨j,ej,e.symm▸lt⟩))
   have jb:∀q7,q7=(xN T r.1 b.1 x).1->aH aj (n+5) [.p4 4 .a (.u (.a (.l 0) 9) (.l 7)),.i (.p .e (.u (.a (.l 0) 10) (.l 7)) (.i 1)) [.a 5 (.i 1)] []] [ab (.r A.kt),ab r.v,ab (.i (-1)),ab (.i q7),ab (.i b.1.2.1),ab (.i b.1.2.2),ab (.i (vp r.1)),ab (.i x),aj] σ (km K' (fz Q X)):=λq7 aq=>
    aR7 aa (g aa rfl aa K.cQ K.lw) (λU q=>.add q) (eR (.g6 (g aa rfl aa K.gT K.lo) .i) (λz=>c7 .i (fin q7 1 aq (aU (λb=>aG b 1 _) (show aA (c0 T.os x) 1=ak from z)).symm)) λz=>fin q7 _ aq (aU (λb=>aG b 1 _) (show aA (c0 T.os x) 1=av from z)).symm)
   exact eR (z:=decide (b.1.1<c0 T.ds x+vp r.1)) (.q (.B (g aa rfl aa K.h3 K.ld) (.p aa) λU q=>.add q) (.p aa) aa) (λz=>c7 (.B (g aa rfl aa K.h3 K.ld) (.p aa) λU q=>.add q) (jb _ (aU (λb=>aG b _ _) z).symm)) λz=>jb _ (aU (λb=>aG b _ _) z).symm
 exact bD aa rfl (c7 (v:=.i (-1)) (.own (.v K.h0 aa rfl) K.h2 aa (.p aa) λQ q=>.QR aa (aD h q)) (dV (.p aa) aa (d0 (.p aa) (Xg (n:=n) K B c _ _ (c7 .i (c7 .i (c7 .i (eR (.lO (.q (oj aa) .c aa) (.q (oj aa) .c aa)) (λz=>c7 .i (go 1 (aU (λb=>aG b 1 0) z).symm)) λz=>go 0 (aU (λb=>aG b 1 0) z).symm))))))))
end
structure jm extends r1 where
 (h fC b1 cY b2 un cZ c9 kp:ae)
structure eB(σ:H)(A:jm)(T:fi)(bs cY cZ c9:af (ag×V)):Prop where
 K:KT σ A.tor1 T
 o:σ A.h=ab ⟨1,.i 5 [(18,.r A.kt),(21,.r A.fC),(22,.r A.b1),(23,.r A.cY),(24,.r A.b2),(25,.r A.un),(17,.r A.cZ),(19,.r A.c9),(26,.r A.kp)]⟩
 fC:σ A.fC=ab ⟨1,.d bs⟩
 cY:σ A.cY=ab ⟨1,.d cY⟩
 un:σ A.un=ab ⟨1,.d []⟩
 cZ:σ A.cZ=ab ⟨1,.d cZ⟩
 c9:σ A.c9=ab ⟨1,.d c9⟩
def tid(T:fi)(k:ag):ag:=(T.rs[k.toNat]?).elim 0 (·.2.1)
section
variable{F:cy}{hd:aw ae}{σ ah:H}{lm:bf}{n t:ae}{A:jm}{T:fi}{k a b v:ag}{aq e2:aW}{Q:bQ}{X:bR}{r:dr}{ls:af ag}{bs cY cZ c9:af (ag×V)}{S:ae->aB}
theorem eB.fr(h:eB σ A T bs cY cZ c9)(f:Fr S σ ah)(dZ:S 1=av)(z:∀t,fI 11 t=ak->fI t 15=ak->S t=av):eB ah A T bs cY cZ c9:=⟨h.K.fr f dZ z,f _ _ h.o dZ,f _ _ h.fC dZ,f _ _ h.cY dZ,f _ _ h.un dZ,f _ _ h.cZ dZ,f _ _ h.c9 dZ⟩
theorem eB.ext(h:eB σ A T bs cY cZ c9)(f:Ext σ ah):eB ah A T bs cY cZ c9:=h.fr (S:=du) f.fr aa λU U U=>aa
theorem QT(K:KT σ A.tor1 T)(h:fv T k=ak)(hs:(aA (d4 T k) 2||aA (d4 T k) 3)=ak):eA (W (n+2)) σ 17 [.r A.kt,.i k] (.i (tid T k)):=λQ E q=>by
 refine b5 (z0 K h) λr e c=> ?_
 rcases C0 (r:=r)with⟨l,kW⟩
 have c:=c n
 have ao:d4 T k=r.1:=by unfold d4;rw[e];rfl
 have kX:tid T k=r.2.1:=by unfold tid;rw[e];rfl
 rw[kW]at c
 rw[ao]at hs
 rw[kX]at q
 have s0:∀{lm:bf},lm.get 2=ab (.t (.i r.1::.i r.2.1::l))->ck aj (n+1) σ lm (.u (.l 2) (.i 0)) (.i r.1):=λh=>.bC (.L h) .i (fG (f5 (k:=0) aa))
 exact bD aa rfl (c7 (.mR (.p aa) K.h0 aa rfl (.p aa) c) (gV (.lO (.g6 (s0 aa) .c) (.g6 (s0 aa) .c)) hs (bP (.bC (.p aa) .i (fG (f5 (k:=1) aa))) q)))
def Bg(T:fi)(b v:ag):aB:=isRef T b&&(!(aA (d4 T b) 2&&aA v 3)&& !decide (tid T b∈([1,2,3]:af ag)))
theorem au3(O:eB σ A T bs cY cZ c9)(h:fv T k=ak)(hs:(aA (d4 T k) 2||aA (d4 T k) 3)=ak)(a4:(cw cY (tid T k)).getD (.i 0)=.i v):eA (W (n+4)) σ 28 [.r A.h,.i k] (.b (aA (d4 T k) 2&&aA v 3)):=λU U q=>
 bD aa rfl (bP (.hN (.g6 (.K (.c (.v O.o aa rfl) (.p aa)) (kind_sort_ O.K h)) .c) (.g6 (.mR (.p aa) O.o aa rfl (.p aa) λU U q=>bD aa rfl (bP (.own (.v O.o aa rfl) O.cY aa (.c (.K (.c (.v O.o aa rfl) (.p aa)) (QT O.K h hs)) (.p aa)) λU q=>.Gg aa rfl (aD a4 q)) q)) .c)) q)
theorem Qh{a:af St}{rr:af St}{fe:cT}{e:aW}{w:V}(h:ck hd n σ lm e w)(t:jC σ w=ab av)(q:aH hd n rr lm σ fe):aH hd n (.i e a []::rr) lm σ fe:=hW h t nofun λU=>q
theorem WU(O:eB σ A T bs cY cZ c9)(bb:cw cZ k=ab (.t [.i b]))(ne:b≠k)(h:fv T b=ak)(a4:isVar T b=av)(q:∀a ah,Ext σ ah->ah a=ab ⟨16,.l [.i b]⟩->Q (.r a) ah):W (n+3) 26 [.r A.h,.i k] σ Q X:=by
 refine bD aa rfl (kg 16 ai (.L .N hC) λa na=>kg 17 ai (N.D (d:=.d [(k,.i 1)]) aa (.p aa) aa) λd cx=> ?_)
 have aM:=(Ext.rfl (σ:=σ)).new (o:=⟨16,.l []⟩) na
 have sS:=aM.free cx
 have bl:=aM.new (o:=⟨17,.d [(k,.i 1)]⟩) sS
 have di:aC (aC σ a ⟨16,.l []⟩) d ⟨17,.d [(k,.i 1)]⟩ a=ab ⟨16,.l []⟩:=fO cx bc
 have od:aC (aC σ a ⟨16,.l []⟩) d ⟨17,.d [(k,.i 1)]⟩ d=_:=bc
 generalize aC (aC σ a ⟨16,.l []⟩) d ⟨17,.d [(k,.i 1)]⟩=a3 at*
 have nf:=O.ext bl
 have g:Rs (W (n+2)) aj a3 [ab (.r A.h),ab (.i k),ab (.r a),ab (.r d),aj,aj,aj] [.m (.a (.l 0) 17) 3 [.l 1,.t []]] [.t [.i b]]:=.c (.u' (.v nf.o aa rfl) nf.cZ (.p aa) (.p aa) (by rw[bb];rfl)) .N
 refine⟨aa,aa,g.mM (.list aa λaq d9=>⟨1,ai,.list bc λe kC=>⟨18,ai,?_⟩⟩)⟩
 have ne':=bl.free (Ext.rfl.new d9 |>.free kC)
 have bH:Ext a3 (aC (aC a3 aq ⟨1,.l [.i b]⟩) e ⟨18,.l [.i b]⟩):=(Ext.rfl.new d9).ay (Ext.rfl.new kC)
 have c3:aC (aC a3 aq ⟨1,.l [.i b]⟩) e ⟨18,.l [.i b]⟩ e=ab ⟨18,.l ([]++[.i b])⟩:=bc
 show aH aj (n+2) _ _ (aC (aC a3 aq ⟨1,.l [.i b]⟩) e ⟨18,.l [.i b]⟩) _
 generalize aC (aC a3 aq ⟨1,.l [.i b]⟩) e ⟨18,.l [.i b]⟩=bM at*
 refine⟨aa,2,R.ev (v:=.r e) (.p aa) ⟨ak,IB c3,s_pop (.p aa) c3 ai ?_⟩⟩
 have x4:=bl.ay bH
 have vC:=qv (x:=⟨18,.l []⟩) (bH _ _ od) c3 aa
 have OX:=qv (x:=⟨18,.l []⟩) (bH _ _ di) c3 aa
 have fR:=x4.new (o:=⟨18,.l []⟩) ne'
 have aH6:aC bM e ⟨18,.l []⟩ e=ab ⟨18,.l []⟩:=bc
 generalize aC bM e ⟨18,.l []⟩=σ5 at*
 have Hi:(cw [(k,V.i 1)] b).isSome=av:=by rw[nZ,bh (pR ne)];rfl
 refine dV (.q (.p aa) (.p aa) (qj vC)) Hi (qt aa .i (.p aa) (.p aa) vC (pq (show 1<bN by decide)) ai (fw (.p aa) (.p aa) (qv OX vC aa) ai ai ?_))
 have fp:=(fR.new (o:=⟨17,.d (dA [(k,V.i 1)] b (.i 1))⟩) sS).new (o:=⟨16,.l ([]++[.i b])⟩) na
 have aH7:=qv (x:=⟨16,.l ([]++[.i b])⟩) (qv (x:=⟨17,.d (dA [(k,V.i 1)] b (.i 1))⟩) aH6 vC aa) (qv OX vC aa) aa
 have aH2:aC (aC σ5 d ⟨17,.d (dA [(k,V.i 1)] b (.i 1))⟩) a ⟨16,.l ([]++[.i b])⟩ a=_:=bc
 exact dV (.K (.c (.v (O.ext fp).o aa rfl) (.p aa)) (BY (O.ext fp).K h)) a4 (R.ev (v:=.r e) (.p aa) ⟨av,IB aH7,bP (.p aa) (q a _ fp aH2)⟩)
theorem aY7(O:eB σ A T bs cY cZ c9)(bb:cw cZ k=ab (.t [.i b]))(cE:(cw c9 k).getD (.i 0)=.i 0)(ne:b≠k)(h:fv T b=ak)(a4:isVar T b=av)(hs:(aA (d4 T b) 2||aA (d4 T b) 3)=ak)(zf:(cw cY (tid T b)).getD (.i 0)=.i v):kk (W (n+5)) σ 27 [.r A.h,.i k] (.b (Bg T b v)):=λQ E q=>by
 refine bD aa rfl (Qh (.B (.u' (.v O.o aa rfl) O.c9 (.p aa) (.p aa) cE) .c λU q=>.band ai ai q) aa ⟨aa,d0 (.p aa) (WU (n:=n+1) O bb ne h a4 λa aJ aM di=>.inr (.list di ⟨⟨_,di⟩,_,aa,?_⟩))⟩)
 have O:=O.ext aM
 have w:=q aJ aM
 exact eR (z:=Bg T b v) (.hN (.K (.c (.v O.o aa rfl) (.p aa)) (is_ref_ O.K h)) (.hN (.not (.K (.p aa) (au3 O h hs zf)) aa) (.q (.K (.c (.v O.o aa rfl) (.p aa)) (QT O.K h hs)) .c (aU (oE (!·)) (sD (σ:=aJ) [1,2,3]))))) (λz=>bP (.p aa) (aR z w)) λz=>⟨⟨_,di⟩,bP (.p aa) (aR z w)⟩
theorem aY8(O:eB σ A T bs cY cZ c9)(cE:(cw c9 k).getD (.i 0)=.i 1):kk (W (n+5)) σ 27 [.r A.h,.i k] (.b ak):=λQ E q=>
 bD aa rfl (hW (z:=ak) (.B (.u' (.v O.o aa rfl) O.c9 (.p aa) (.p aa) cE) .c λU q=>.band ai ai q) aa (λU=>bP (.p aa) (q _ Ext.rfl)) nofun)
end
noncomputable section
def dd(tg:aB):af ag:=aG tg [16,17,18] []
def O5(st tg:aB):dr:=aG st (3,65,ab (dd tg)) (2,64,ab (dd tg))
def k8(st tg bz:aB):af dr:=[(6,0,aj),(6,1,aj),(6,2,aj),(7,0,aj),(2,66,ab []),(2,67,ab []),O5 st tg,(2,2,ab []),(8,19,aj),(8,16,aj)]++aG bz [(5,22,aj),(11,22,aj)] [(11,22,aj)]
def d3(n:ae):fi:=⟨(gB n).map λi:ae=>(1,(i:ag),aj),(gB n).map λi:ae=>((1,(i:ag),aj),.i i),pP n 1,pP n 1,pP n 0⟩
def cP(st tg bz:aB)(m:ae):fi:=((k8 st tg bz).take m).foldl fi.put (d3 16)
def ey(st tg bz:aB):fi:=(k8 st tg bz).foldl fi.put (d3 16)
def O1(T:fi)(r:dr)(m:ae):aB:=(cw T.ef r).isNone&&(Bl T r&&(cf T.rs.length (16+m)&&fI T.ef.length 50))
def hU:af ag:=[12,20,13,19,16,21,22,17,18,7,0,14,999,12,20]
def nt:af (ag×V):=[(12,.i 1),(20,.i 1),(13,.i 1),(19,.i 1),(16,.i 1),(21,.i 1),(22,.i 1),(17,.i 1),(18,.i 1),(7,.i 1),(0,.i 1)]
def kT:af (ag×V):=[(16,.t [.i 20]),(17,.t [.i 21]),(18,.t [.i 23])]
def Fi(st:aB):af (ag⊕ag):=[.inl 12,.inl 20,.inl 13,.inl 24,.inl 25,.inl 21,aG st (.inr 8) (.inl 22),.inr 8,.inr 8,.inr 8,.inr 8,.inr 22,.inr 22,.inl 12,.inl 20]
end
theorem Wk(st tg bz:aB):((gB (k8 st tg bz).length).all λm=>((k8 st tg bz)[m]?).any λr=>O1 (cP st tg bz m) r m)=ak:=by cases st<;>cases tg<;>cases bz<;>rfl
section
variable{σ ah:H}{n t m:ae}{A:jm}{T:fi}{k b v:ag}{aq e2:aW}{Q:bQ}{X:bR}{r:dr}{st tg bz:aB}{bs:af (ag×V)}{B:eG}{cur:V}{at_:ag}{lm:bf}{rr:af St}{fe:cT}
theorem zT(K:KT σ A.tor1 (cP st tg bz m))(B:g0 σ)(h:(k8 st tg bz)[m]? =ab r)(q:∀ah,Fr (b' 11 15) σ ah->KT ah A.tor1 (cP st tg bz (m+1))->Q (.i (16+m:ae)) ah):W (n+6) 3 [.r A.kt,r.v] σ Q X:=by
 have w:=iK.mp (Wk st tg bz) m (pN.mpr (mr.mp h).1)
 rw[h]at w
 have w:O1 (cP st tg bz m) r m=ak:=w
 have a6:cw (cP st tg bz m).ef r=aj:=Uo.mp (df w).1
 have dY:=df (df w).2
 have gY:=df dY.2
 have aq:=AR gY.1
 have hm:m<13:=fT (mr.mp h).1 (by cases st<;>cases tg<;>cases bz<;>exact iz aa)
 refine aM4 K B a6 dY.1 (by lia) (d7 (iz gY.2) ai) λah f K'=>aD aq (q ah f ?_)
 unfold cP at*
 rw[List.take_add_one,h,List.foldl_append]
 exact K'
theorem Ij(o:mE σ B cur at_)(of:σ B.ks=ab ⟨t,.d nt⟩)(hf:(cw nt k).isSome=ak)(q:aH aj (n+3) rr [ab (.r B.v),ab (.i k)] σ fe):aH aj (n+3) (.e (.m (.l 0) 61 [.l 1])::rr) [ab (.r B.v),ab (.i k)] σ fe:=
 jt (.p aa) o aa rfl (.p aa) (bD aa rfl (d0 (.p aa) (bD aa rfl (gV (.q (.p aa) (.v o aa rfl) (qj of)) hf (C4 q)))))
theorem Qf{hd:aw ae}{f:ae}{ao:af aW}{l:af V}{x y:af St}(h:nX hd n σ lm ao l)(c:dQ aZ PP hd n f l σ (λv ah=>vIf ah v λb=>vIf ah (.b (!b)) λt=>aG t (aH hd n x lm ah (fe.on hd n rr)) (aH hd n y lm ah (fe.on hd n rr))) λe ah=>fe.x e lm ah):aH hd n (.i (.N (.f f ao)) x y::rr) lm σ fe:=h _ _ c
structure AX(σ:H)(at_:ag)(Q:bQ)(X:bR)(x:ag⊕ag):Prop where
 q:∀k,x=.inl k->∀ah,Ext σ ah->Q (.i k) ah
 x:∀c,x=.inr c->∀e ah,Ext σ ah->IsFlt ah e (c,at_) at_->X e ah
variable{cY c9:af (ag×V)}(O:eB σ A T bs cY kT c9)(o:mE σ B cur at_)(of:σ B.ks=ab ⟨t,.d nt⟩)(az:B.kt=A.kt)(bG:B.host=A.h)
include O o of az
theorem LN(hf:(cw nt k).isSome=ak)(h:fv T k=ak)(au:isRef T k=ak)(q:Q (.i k) σ):W (n+7) 86 [.r B.v,.i k] σ Q X:=
 bD aa rfl (Ij o of hf (gV (.K (.c (.v o aa rfl) (.p aa)) (aD az (is_ref_ O.K h))) au (bP (.p aa) q)))
theorem W3(hf:(cw nt k).isSome=ak)(h:fv T k=ak)(au:isRef T k=av)(a4:isVar T k=av)(q:∀e ah,Ext σ ah->oL ah e 8 at_->X e ah):W (n+7) 86 [.r B.v,.i k] σ Q X:=
 bD aa rfl (Ij o of hf (dV (.K (.c (.v o aa rfl) (.p aa)) (aD az (is_ref_ O.K h))) au (gV (.HU (.not (.K (.c (.v o aa rfl) (.p aa)) (aD az (BY O.K h))) aa) (aU (λb=>ab !b) a4)) (by rw[a4];rfl) (vL o (.p aa) .c q))))
include bG
theorem LO{z:aB}(hf:(cw nt k).isSome=ak)(h:fv T k=ak)(au:isRef T k=av)(a4:isVar T k=ak)(s:∀ah,eB ah A T bs cY kT c9->kk (W (n+6)) ah 27 [.r A.h,.i k] (.b z))(q:z=av->∀e ah,Ext σ ah->oL ah e 8 at_->X e ah)(bE:z=ak->∃b,cw T.ef (8,k,aj)=ab (.i b)/\decide (0<=b)=ak/\∀ah,Ext σ ah->Q (.i b) ah):W (n+7) 86 [.r B.v,.i k] σ Q X:=by
 have t1:=R.not (lm:=[ab (.r B.v),ab (.i k)]) (.K (.c (.v o aa rfl:R (W (n+6)) aj _ _ (.a (.l 0) 18) _) (.c (.L (n:=1) aa) .N)) (aD az (BY (n:=n+4) O.K h))) aa
 rw[a4]at t1
 refine bD aa rfl (Ij o of hf (dV (.K (.c (.v o aa rfl) (.p aa)) (aD az (is_ref_ O.K h))) au (mi (b:=av|| !z) (xD (R.up t1) λU aJ aM=>Qa (sZ (Rs.up (.c (.v (aM _ _ o) aa rfl) (.p aa))) λa3 bl=>aD bG (s a3 (O.ext (aM.ay bl))))) (λU=>aa) (λz aJ aM=>vL (aM _ _ o) (.p aa) .c λe ah x=>q (Cf z) e ah (aM.ay x)) λz aJ aM=>(bE (qo z)).elim λb w=> ?_)))
 have O:=O.ext aM
 exact bP (.K (.c (.v (aM _ _ o) aa rfl) (.p aa)) (aD az λU U q=>bD aa rfl (bP (.mR (.p aa) O.K.h0 aa rfl (.c (.T (.p aa) qm) .N) (PI (r:=(8,k,aj)) O.K w.1 w.2.1)) q))) (w.2.2 aJ aM)
omit O az bG
def aw7:af St:=match MC.body with
 |[_,_,.pA _ b,_]=>b.drop 3
 |_=>[]
omit o of
theorem N7{v1 v2 lg:V}(q:∀jX jB ah K,Ext σ ah->aH aj n aw7 [ab v1,ab (.i k),ab v2,ab lg,jX,jB,ab (.i k),aj,aj,aj] ah (km K (fz Q X))):W (n+1) 58 [v1,.i k,v2,lg] σ Q X:=by
 refine bD aa rfl (kg 16 ai (.L (.p aa) ob) λa na=>kg 17 ai (N.D (d:=.d []) aa .N aa) λd cx=> ?_)
 have aM:=(Ext.rfl (σ:=σ)).new (o:=⟨16,.l [.i k]⟩) na
 have sS:=aM.free cx
 have bl:=aM.new (o:=⟨17,.d []⟩) sS
 have di:aC (aC σ a ⟨16,.l [.i k]⟩) d ⟨17,.d []⟩ a=ab ⟨16,.l ([]++[.i k])⟩:=fO cx bc
 have od:aC (aC σ a ⟨16,.l [.i k]⟩) d ⟨17,.d []⟩ d=_:=bc
 generalize aC (aC σ a ⟨16,.l [.i k]⟩) d ⟨17,.d []⟩=a3 at*
 have sV:=qv (x:=⟨16,.l []⟩) od di aa
 exact⟨aa,1,R.ev (v:=.r a) (.p aa) ⟨ak,IB di,s_pop (.p aa) di ai (dV (.q (.p aa) (.p aa) (qj sV)) aa (qt aa .i (.p aa) (.p aa) sV (pq ob) ai (q _ _ _ _ ((bl.new na).new sS))))⟩⟩
include O o of az
theorem W4(h:T.rs[14]? =ab (1,14,aj))(q:∀e ah,Ext σ ah->oL ah e 22 at_->X e ah):W (n+8) 86 [.r B.v,.i 14] σ Q X:=by
 have hi:fv T 14=ak:=yf.mpr ⟨aa,cD (fh.mpr (mr.mp h).1)⟩
 refine bD aa rfl (jt (.p aa) o aa rfl (.p aa) (bD aa rfl (d0 (.p aa) (bD aa rfl (dV (.q (.p aa) (.v o aa rfl) (qj of)) aa (Qf (.v o aa rfl) (N7 (n:=n+4) λjX jB aJ K aM=> ?_)))))))
 refine b5 (z0 (O.ext aM).K hi) λr e c=> ?_
 cases cR (h.symm.trans e)
 exact c7 (.mR (.p aa) (aD az (O.ext aM).K.h0) aa rfl (.p aa) (aD az (c _))) (c7 (.p aa) (gV (.p aa) aa (gV (.p aa) aa (bP (.p aa) ⟨av,aa,ak,aa,s8 (n:=n+4) (.inr aa) (.c .c (.v (aM _ _ o) aa rfl)) λe ne=>q e _ (aM.ay (Ext.rfl.new ne)) ⟨_,bc⟩⟩))))
theorem W5(h:(T.rs.length:ag)<=k)(h0:(cw nt k).isSome=av)(q:∀e ah,Ext σ ah->(∃r x y,ah e=ab ⟨1,.e 1 [(4,x),(5,y)] r⟩)->X e ah):W (n+8) 86 [.r B.v,.i k] σ Q X:=by
 refine bD aa rfl (jt (.p aa) o aa rfl (.p aa) (bD aa rfl (d0 (.p aa) (bD aa rfl (dV (.q (.p aa) (.v o aa rfl) (qj of)) h0 (Qf (.v o aa rfl) (N7 (n:=n+4) λjX jB aJ K aM=> ?_)))))))
 have O:=O.ext aM
 have K:=O.K
 refine jt (.p aa) (aD az K.h0) aa rfl (.p aa) (bD aa rfl ?_)
 refine gV (z:=decide (k<0)||decide (((T.rs.map dr.v).length:ag)<=k)) (.lO (.p aa) (.q (.p aa) (.bi aa (aD az (.v K.h0 aa rfl)) (jz K.h1)) aa)) ?_ (s8 (.inl aa) (.p aa) λe ne=>q e _ (aM.ay (Ext.rfl.new ne)) ⟨_,_,_,bc⟩)
 rw[cN,cD h,AF]
end
section
variable{σ:H}{n t e:ae}{A:jm}{B:eG}{k x:ag}{y:ag⊕ag}{Q:bQ}{X:bR}{st tg bz:aB}{bs:af (ag×V)}{cur:V}{at_:ag}{a b:aB}{T:fi}
def vm(T:fi)(k:ag)(a b:aB):aB:=(cw nt k).isSome&&(fv T k&&((isRef T k==a)&&(isVar T k==b)))
theorem zo(h:vm T k a b=ak):(cw nt k).isSome=ak/\fv T k=ak/\isRef T k=a/\isVar T k=b:=
 have w:=df h
 have dY:=df w.2
 have gY:=df dY.2
 ⟨w.1,dY.1,beq_iff_eq.mp gY.1,beq_iff_eq.mp gY.2⟩
theorem av9(st tg bz:aB):([12,20,13,21]:af ag).all (vm (ey st tg bz) · ak av)=ak:=by cases st<;>cases tg<;>cases bz<;>rfl
theorem av8(st tg bz:aB):([7,0]:af ag).all (vm (ey st tg bz) · av av)=ak:=by cases st<;>cases tg<;>cases bz<;>rfl
theorem N6(st tg bz:aB):([19,16,17,18]:af ag).all (vm (ey st tg bz) · av ak)=ak:=by cases st<;>cases tg<;>cases bz<;>rfl
theorem N5(st tg bz:aB):vm (ey st tg bz) 22 (!st) av=ak:=by cases st<;>cases tg<;>cases bz<;>rfl
theorem av7(st tg bz:aB):([(20,ak,0),(21,av,3),(23,av,0)]:af (ag×aB×ag)).all (λb=>fv (ey st tg bz) b.1&&((isVar (ey st tg bz) b.1==av)&&((aA (d4 (ey st tg bz) b.1) 2)&&((Bg (ey st tg bz) b.1 b.2.2==b.2.1)&&((V.beq ((cw [(67,V.i 3)] (tid (ey st tg bz) b.1)).getD (.i 0)) (.i b.2.2)))))))=ak:=by cases st<;>cases tg<;>cases bz<;>rfl
variable(O:eB σ A (ey st tg bz) bs [(67,.i 3)] kT [(19,.i 1)])(o:mE σ B cur at_)(of:σ B.ks=ab ⟨t,.d nt⟩)(az:B.kt=A.kt)(bG:B.host=A.h)
include O o of az
theorem W6(h:k∈([12,20,13,21]:af ag))(q:AX σ at_ Q X (.inl k)):W (n+8) 86 [.r B.v,.i k] σ Q X:=
 have w:=zo (iK.mp (av9 st tg bz) k h)
 LN (n:=n+1) O o of az w.1 w.2.1 w.2.2.1 (q.q k aa σ Ext.rfl)
theorem LM(h:vm (ey st tg bz) k av av=ak)(q:AX σ at_ Q X (.inr 8)):W (n+8) 86 [.r B.v,.i k] σ Q X:=
 have w:=zo h
 W3 (n:=n+1) O o of az w.1 w.2.1 w.2.2.1 w.2.2.2 λe ah x h=>q.x 8 aa e ah x (.inl h)
include bG
theorem Fh{b v:ag}{z:aB}{y:ag}(h:k∈([19,16,17,18]:af ag))(bb:cw kT k=ab (.t [.i b]))(cE:k≠19)(Gq:(b,z,v)∈([(20,ak,0),(21,av,3),(23,av,0)]:af (ag×aB×ag)))(ne:b≠k)(cV:z=ak->cw (ey st tg bz).ef (8,k,aj)=ab (.i y)/\decide (0<=y)=ak)(q:AX σ at_ Q X (aG z (.inl y) (.inr 8))):W (n+8) 86 [.r B.v,.i k] σ Q X:=by
 have w:=zo (iK.mp (N6 st tg bz) k h)
 have u:=df (iK.mp (av7 st tg bz) _ Gq)
 have rz:=df u.2
 have Ah:=df rz.2
 have Ai:=df Ah.2
 have eO:Bg (ey st tg bz) b v=z:=beq_iff_eq.mp Ai.1
 have u5:(cw [(67,V.i 3)] (tid (ey st tg bz) b)).getD (.i 0)=.i v:=by
  have Q4:=Ai.2
  generalize(cw [(67,V.i 3)] (tid (ey st tg bz) b)).getD (.i 0)=g at*
  cases g<;>first|cases Q4|exact aU V.i (c4 Q4)
 refine LO (n:=n+1) (z:=z) O o of az bG w.1 w.2.1 w.2.2.1 w.2.2.2 (λah EU=>eO▸aY7 (n:=n+2) EU bb ?_ ne u.1 (beq_iff_eq.mp rz.1) (by rw[Ah.1];rfl) u5) (λh=> ?_) λh=> ?_
 ·rw[nZ,bh (pR cE)];rfl
 ·rw[h]at q;exactλe ah x h=>q.x 8 aa e ah x (.inl h)
 ·rw[h]at q;exact⟨y,(cV h).1,(cV h).2,q.q y aa⟩
theorem Xa(aE:hU[e]? =ab x)(aQ:(Fi st)[e]? =ab y)(q:AX σ at_ Q X y):W (n+8) 86 [.r B.v,.i x] σ Q X:=by
 have ref:∀{k:ag},ab k=ab x->ab (Kv k)=ab y->k∈([12,20,13,21]:af ag)->W (n+8) 86 [.r B.v,.i x] σ Q X:=λ{k} a b h=>aR (cR a) (W6 O o of az h (aD (cR b) q))
 have no:∀{k:ag},ab k=ab x->ab (Kw 8)=ab y->vm (ey st tg bz) k av av=ak->W (n+8) 86 [.r B.v,.i x] σ Q X:=λ{k} a b h=>aR (cR a) (LM O o of az h (aD (cR b) q))
 have nn:=λk=>iK.mp (av8 st tg bz) k
 rcases e with _|_|_|_|_|_|_|_|_|_|_|_|_|_|_|e
 ·exact ref aE aQ ai
 ·exact ref aE aQ ai
 ·exact ref aE aQ ai
 ·cases aE;cases aQ
  have w:=zo (iK.mp (N6 st tg bz) 19 ai)
  exact LO (n:=n+1) (z:=ak) O o of az bG w.1 w.2.1 w.2.2.1 w.2.2.2 (λah EU=>aY8 (n:=n+2) EU aa) nofun λU=>⟨24,by cases st<;>cases tg<;>cases bz<;>rfl,aa,q.q 24 aa⟩
 ·cases aE;cases aQ
  exact Fh (b:=20) (v:=0) (z:=ak) (y:=25) O o of az bG ai aa ai ai ai (λU=>⟨by cases st<;>cases tg<;>cases bz<;>rfl,aa⟩) q
 ·exact ref aE aQ ai
 ·cases aE;cases aQ
  rcases st with _|_
  ·have w:=zo (N5 av tg bz)
   exact LN (n:=n+1) O o of az w.1 w.2.1 w.2.2.1 (q.q 22 aa σ Ext.rfl)
  ·exact LM O o of az (N5 ak tg bz) q
 ·cases aE;cases aQ
  exact Fh (b:=21) (v:=3) (z:=av) (y:=0) O o of az bG ai aa ai ai ai nofun q
 ·cases aE;cases aQ
  exact Fh (b:=23) (v:=0) (z:=av) (y:=0) O o of az bG ai aa ai ai ai nofun q
 ·exact no aE aQ (nn _ ai)
 ·exact no aE aQ (nn _ ai)
 ·cases aE;cases aQ
  exact W4 O o of az (by cases st<;>cases tg<;>cases bz<;>rfl) λe ah x h=>q.x 22 aa e ah x (.inl h)
 ·cases aE;cases aQ
  exact W5 O o of az (by cases st<;>cases tg<;>cases bz<;>exact Int.le_of_sub_nonneg ai) aa λe ah x h=>q.x 22 aa e ah x (.inr ⟨aa,h⟩)
 ·exact ref aE aQ ai
 ·exact ref aE aQ ai
 ·cases aE
end
noncomputable section
def ha(st:aB):af ag:=[0,0,0,0,0,0,aG st 8 0,8,8,8,8,22,22,0,0]
def kG:af ag:=[12,20,13,24,25,21,22,0,0,0,0,0,0,12,20]
def pf(l:af ag)(k:ag):ag:=((hU.zip l).lookup k).getD 0
def bA(x:Cl):Cl:={x with x:=aG (aA x.s 0) (c0 hU x.x) x.x}
def ic(st:aB)(mo:ag)(x:Cl):ag:=aG (aA (aG (aA x.s 0) (pf (ha st) x.x) 0) 0&&(decide (x.s<2)&&aA mo 0)) 20 (aG (aA x.s 0) (pf (ha st) x.x) 0)
def jq(x:Cl):af ag:=aG (decide (1<x.s)) [] (aG (!aA x.s 0) [12] [pf kG x.x])
def oX(rows:af eV)(cls:af Cl)(st:aB)(mo kY dF:ag):cO:=⟨rows.map (ij rows.length),cls.map bA,mo,kY,dF,ic st mo,jq⟩
def GY(v:ag):ag:=aG (aA v 2) 12 (pf kG (c0 hU (v - 3)))
end
section
variable{rows:af eV}{cls:af Cl}{st bp:aB}{mo kY dF p k q:ag}{x:Cl}{gv:eM}{r:eV}{i:ae}
theorem B7{e:ag}(h0:0<=e)(h:e<=14)(st:aB):pf (ha st) (c0 hU e)=c0 (ha st) e/\pf kG (c0 hU e)=c0 kG e/\0<=c0 kG e:=by
 have w:∀(st:aB)(e:Fin 15),(pf (ha st) (c0 hU (e.1:ae))=c0 (ha st) (e.1:ae)/\pf kG (c0 hU (e.1:ae))=c0 kG (e.1:ae))/\0<=c0 kG (e.1:ae):=ai
 have:=w st ⟨e.toNat,(AL h0).mpr (m5 h ai)⟩
 rw[show((e.toNat:ae):ag)=e from ji h0]at this
 exact⟨this.1.1,this.1.2,this.2⟩
theorem bn0:(bA x).s=x.s/\(bA x).t0=x.t0/\(bA x).t1=x.t1/\(bA x).h0=x.h0/\(bA x).h1=x.h1:=⟨aa,aa,aa,aa,aa⟩
theorem u9(h:x.s=1):(bA x).x=x.x:=by show aG (aA x.s 0) _ _=_;rw[h];rfl
theorem fx_0(h:x.s=0):(bA x).x=c0 hU x.x:=by show aG (aA x.s 0) _ _=_;rw[h];rfl
theorem Bi(g:gD rows cls [])(h:nQ (oX rows cls st mo kY dF) p k):∃v,e6 rows p v/\2<=v/\v<=17/\k=GY v:=by
 refine fH h λy aQ U h=> ?_
 refine b5 (eS.mp aQ) λx aE e=> ?_
 subst e
 have c:=g.jr x aE
 rcases h with⟨e,b⟩|⟨s1,e,nr⟩
 ·have b:jq (bA x)=[k]:=b
  have e:p=x.h0:=e
  subst e
  unfold jq at b
  rcases c.s with s|s|s|s
  ·rw[fx_0 s,show(bA x).s=0 from s]at b
   have ex:=c.e s
   exact⟨3+x.x,c.gF s,eE (by decide:(2:Int)<=3+0) (Ea ex.1 3),Ea ex.2 3,(J7 b).1.symm.trans (by unfold GY;rw[show aA (3+x.x) 2=av from de (qG (oA (by decide:(2:Int)<3+0) (Ea ex.1 3))),show 3+x.x - 3=x.x from(aU (· - 3) (AJ 3 x.x)).trans (Int.add_sub_cancel ..)];rfl)⟩
  ·rw[show(bA x).s=1 from s]at b
   exact⟨2,(c.b1 s).2,ai,ai,(J7 b).1.symm⟩
  ·rw[show(bA x).s=2 from s]at b;cases b
  ·rw[show(bA x).s=4 from s]at b;cases b
 ·have e:p=(bA x).x:=e
  have s1:x.s=1:=s1
  rw[u9 s1]at e
  exact⟨2,aD e (c.b1 s1).1,ai,ai,nr⟩
theorem outF{a p b:ag}(h:p<a\/b<=p):(decide (a<=p)&&decide (p<b))=av:=by
 rw[←AE]
 exact de λw=>h.elim (λh=>Int.not_le.mpr h w.1) λh=>iy.mpr h w.2
theorem ax2(h:(p<x.t0\/x.t1<=p)/\x.h0<=p/\p<x.h1):kz p (x,i)=[((i:ag),66)]:=by
 unfold kz
 rw[show(decide (x.t0<=p)&&decide (p<x.t1))=av from ?_,show(decide (x.h0<=p)&&decide (p<x.h1))=ak by rw[cD h.2.1,cD h.2.2];rfl]at|-
 ·rfl
 ·exact outF h.1
theorem Of(h:(p<x.t0\/x.t1<=p)/\(p<x.h0\/x.h1<=p)/\x.s=1/\x.x<=p/\p<x.h0):kz p (x,i)=[((i:ag),67)]:=by
 unfold kz
 rw[outF h.1,outF h.2.1,
  show(aA x.s 1&&(decide (x.x<=p)&&decide (p<x.h0)))=ak by rw[show aA x.s 1=ak from cD h.2.2.1,cD h.2.2.2.1,cD h.2.2.2.2];rfl]
 rfl
theorem ax4{cs:af Cl}{u:ae}(aE:cs[i]? =ab x)(h:((i:ag),u)∉kz p (x,i)):((i:ag),u)∉iT cs p:=λm=>(pM.mp m).elim λy w=>by
 have e:=oc w.1
 have p7:(y.2:ag)=i:=by
  have m:=w.2
  unfold kz at m
  rcases lL m with⟨_,m⟩|⟨_,m⟩
  ·exact(aU rS (dv.mp m)).symm
  ·rcases lL m with⟨_,m⟩|⟨_,m⟩
   ·exact(aU rS (dv.mp m)).symm
   ·rcases lL m with⟨_,m⟩|⟨_,m⟩
    ·exact(aU rS (dv.mp m)).symm
    ·cases m
 rw[lx p7,aE]at e
 have dY:=w.2
 rw[←p7]at dY
 exact h (by rw[cR e,←lx p7];exact dY)
theorem OP{cs:af Cl}{N:ae}{u:ae}(aE:cs[i]? =ab x)(dm:u≠65)(h1:kz (q+1) (x,i)=[((i:ag),u)])(h2:((i:ag),u)∉kz q (x,i)):fa cs N q (q+1) av≠0:=by
 unfold fa
 rw[BH,BH]
 have w:(iT cs (q+1)).any (λp=> !decide (p∈iT cs q)&&(!iP p.2 65|| !aA (g4 cs p.1).t0 (q+1)))=ak:=Ec.mpr ⟨((i:ag),u),pM.mpr ⟨(x,i),tO.mpr aE,aD h1 dI⟩,by
  rw[de (ax4 aE h2),show iP u 65=av from de dm];rfl⟩
 rw[w]
 cases decide ((N:ag)<=q+1)<;>cases J5 _ _<;>decide
theorem aF2(g:gD rows cls []){q:ae}(h:nQ (oX rows cls st mo kY dF) ((q+1:ae):ag) k):fa (cls.map bA) (rows.map (ij rows.length)).length q ((q+1:ae):ag) av≠0:=by
 refine fH h λy aQ U h=> ?_
 refine b5 (eS.mp aQ) λx aE e=> ?_
 subst e
 have c:=g.jr x aE
 have r:=c.r
 rcases tN.mp aE with⟨i,hi⟩
 have BP:(cls.map bA)[i]? =ab (bA x):=by rw[lV,hi]at|-;rfl
 rcases h with⟨e,b⟩|⟨s1,e,_⟩
 ·have e:((q+1:ae):ag)=x.h0:=e
  refine OP BP (u:=66) ai (ax2 ⟨.inr (eE r.2.2.1 (nI e.symm)),nI e.symm,m5 (nI e) r.2.2.2.1⟩) λm=> ?_
  unfold kz at m
  rcases lL m with⟨_,m⟩|⟨_,m⟩
  ·cases aU nP (dv.mp m)
  ·rcases lL m with⟨w,_⟩|⟨_,m⟩
   ·have w:x.h0<=q:=c4 (df w).1
    exact aV w (Int.not_le.mpr (oA (Tg _) (nI e)))
   ·rcases lL m with⟨_,m⟩|⟨_,m⟩
    ·cases aU nP (dv.mp m)
    ·cases m
 ·have s1:x.s=1:=s1
  have e:((q+1:ae):ag)=x.x:=e.trans (u9 s1)
  have f:=c.f s1
  have sM:x.x<x.h0:=aR f.2 (Td x.x ai)
  refine OP BP (u:=67) ai (Of ⟨.inr (eE f.1 (nI e.symm)),.inl (m5 (nI e) sM),s1,by rw[u9 s1];exact nI e.symm,m5 (nI e) sM⟩) λm=> ?_
  unfold kz at m
  rcases lL m with⟨_,m⟩|⟨_,m⟩
  ·cases aU nP (dv.mp m)
  ·rcases lL m with⟨_,m⟩|⟨_,m⟩
   ·cases aU nP (dv.mp m)
   ·rcases lL m with⟨w,_⟩|⟨_,m⟩
    ·have w:(bA x).x<=q:=c4 (df (df w).2).1
     rw[u9 s1]at w
     exact aV w (Int.not_le.mpr (oA (Tg _) (nI e)))
    ·cases m
theorem ap4{α β:Type}{f:α->af β}{a:β}{l:af α}(h:∃l1 x d2,l=l1++x::d2/\(∀y∈l1,f y=[])/\f x=[a]):(l.flatMap f).head?=ab a:=by
 refine vY h λl1 x d2 e h1 h2=> ?_
 subst e
 rw[wj,AN,h2,show l1.flatMap f=[]from List.flatMap_eq_nil_iff.mpr h1];rfl
theorem ai2(g:gD rows cls []){j:ae}(h:e6 rows j 1):standF (cls.map bA) 65041 j=0:=by
 refine qw ((g.g5 j h).resolve_left (λm=>nomatch m)) λi x hi s1 ex lo=> ?_
 have c:=g.jr x (List.mem_of_getElem? hi)
 have f:=c.f s1
 have r:=c.r
 have BP:(cls.map bA)[i]? =ab (bA x):=by rw[lV,hi]at|-;rfl
 have RB:x.x<=(j:ag):=eE (Tb (pJ _)) (nI ex)
 have N3:(j:ag)<x.h0:=m5 (nI ex.symm) (aR f.2 (Int.add_lt_add_left ai x.x))
 have e:(iT (cls.map bA) j).head?=ab ((i:ag),67):=by
  have lt:=(mr.mp (show(cls.map bA).zipIdx[i]? =ab (bA x,i) by rw[TC,BP,iA]at|-;rfl))
  refine ap4 ⟨(cls.map bA).zipIdx.take i,(bA x,i),(cls.map bA).zipIdx.drop (i+1),?_,λy aQ=> ?_,Of ⟨.inr (eE f.1 RB),.inl N3,s1,by rw[u9 s1];exact RB,N3⟩⟩
  ·rw[←lt.2,←J8 lt.1,Ep]
  ·rcases tN.mp aQ with⟨k,az⟩
   rw[List.getElem?_take]at az
   by_cases z:k<i
   ·rw[bk z]at az
    have m:=oc (List.mem_of_getElem? az)
    have nr:y.2=k:=by rw[TC]at az;exact(wA.mp az).elim λw u=>aR u.2 (iA k)
    rw[lV]at m
    refine b5 (wA.mp m) λw hw uC=> ?_
    have o:=lo y.2 (aD nr z) w hw
    have w0:=(g.jr w (List.mem_of_getElem? hw)).r
    have Xc:=(g.jr w (List.mem_of_getElem? hw)).f
    unfold kz
    rw[←uC]
    rw[show(decide ((bA w).t0<=(j:ag))&&decide ((j:ag)<(bA w).t1))=av from ?_,show(decide ((bA w).h0<=(j:ag))&&decide ((j:ag)<(bA w).h1))=av from ?_,show(aA (bA w).s 1&&(decide ((bA w).x<=(j:ag))&&decide ((j:ag)<(bA w).h0)))=av from ?_]at|-
    ·rfl
    ·rcases e:aA (bA w).s 1 with _|_
     ·rfl
     ·have s:w.s=1:=c4 e
      have:=Xc s
      rw[u9 s]
      exact outF (o.elim (λh=>.inr (eE (hJ w0.2.2.2.1) h)) λh=>.inl (oA h (eE (hJ w0.2.1) this.1)))
    ·exact outF (o.elim .inr λh=>.inl (oA h (eE (hJ w0.2.1) w0.2.2.1)))
    ·exact outF (o.elim (λh=>.inr (eE (eE w0.2.2.1 (hJ w0.2.2.2.1)) h)) .inl)
   ·rw[bh z]at az;cases az
 rw[xj,TG,TH]at e
 show uw (cls.map bA) (regionO (cls.map bA) j) 65041=0
 unfold uw
 rcases u:(regionO (cls.map bA) j).getLast? with _|p
 ·rw[u]at e;cases e
 ·rw[u]at e
  have e:ay p=((i:ag),67):=cR e
  have e2:=aU nP e
  unfold ay at e2
  rcases vJ (TO u)with z|z|z<;>rw[z]at e2
  ·exact absurd (show(65:Nat)=67 from e2) ai
  ·show aG (aA 65041 220&&last (g4 (cls.map bA) p.1) p.2) 0 (aG (aA 65041 65041&&aA p.2 1) 0 5)=0
   rw[z];rfl
  ·exact absurd (show(66:Nat)=67 from e2) ai
theorem MR(h:0<=r.1/\r.1<=10)(N:ae):((ij N r).op∈([69,57]:af ag)\/(ij N r).op=221\/(ij N r).op∈([122,65050,220,65041]:af ag)\/(ij N r).op=38\/(ij N r).op=65033\/(ij N r).op=0)/\((ij N r).op=65033->(ij N r).arg=.i 0)/\((ij N r).op=221->∃g:ae,(ij N r).arg=.i g)/\((ij N r).op=65041->r.1=10):=by
 rcases r with⟨f,z,c⟩
 have w:∀e:Fin 11,(c0 ph (e.1:ae)∈([69,57]:af ag)\/c0 ph (e.1:ae)=221\/c0 ph (e.1:ae)∈([122,65050,220,65041]:af ag)\/c0 ph (e.1:ae)=38\/c0 ph (e.1:ae)=65033\/c0 ph (e.1:ae)=0)/\(c0 ph (e.1:ae)=65033->e.1=2)/\(c0 ph (e.1:ae)=221->e.1=4)/\(c0 ph (e.1:ae)=65041->e.1=10):=ai
 have e:((f.toNat:ae):ag)=f:=ji h.1
 have w:=w ⟨f.toNat,(AL h.1).mpr (m5 h.2 ai)⟩
 rw[e]at w
 refine⟨w.1,λo=> ?_,λo=> ?_,λo=> ?_⟩
 ·have h2:f=2:=aR e (aU tK (w.2.1 o))
  subst h2;rfl
 ·have cQ:f=4:=aR e (aU tK (w.2.2.1 o))
  subst cQ
  exact⟨(z%(N+1:ag)).toNat,aU V.i (ji (wg z (qG (Te (mq N))))).symm⟩
 ·exact aR e (aU tK (w.2.2.2 o))
theorem Mb(g:gD rows cls [])(a6:rows.length<=60)(aK:cls.length<=60)(hm:0<=mo/\mo<=9)(au:0<=dF)(cE:∀p i,(p,i)∈gv->p<rows.length/\(i=1\/i=0/\bp=ak))(ax:gv.length<=10):jL (oX rows cls st mo kY dF) bp gv:=by
 have kW:(rows.map (ij rows.length)).length=rows.length:=cN _
 have mJ:∀{y},y∈cls.map bA->∃x,m7 rows x/\y=bA x:=λh=>(eS.mp h).elim λx w=>⟨x,g.jr x w.1,w.2.symm⟩
 have Lz:∀{x},ic st mo (bA x)=0->x.s<2->1<=mo:=λ{x} b s=>by
  unfold ic at b
  have e:decide ((bA x).s<2)=ak:=cD s
  rw[e,Bool.true_and]at b
  rcases z:aA mo 0 with _|_
  ·exact JY (Tf.mpr ⟨hm.1,pR (hy z)⟩)
  ·rw[z,yg]at b
   rcases u:aA (aG (aA (bA x).s 0) (pf (ha st) (bA x).x) 0) 0 with _|_
   ·rw[u]at b;exact aV b (hy u)
   ·rw[u]at b;cases b
 exact{
  zY:=λy aQ=>(mJ aQ).elim λx w=>by
   rw[w.2]
   have r:=w.1.r
   refine⟨r.1,r.2.1,r.2.2.1,r.2.2.2.1,by show x.h1<=((rows.map _).length:ag);rw[kW];exact r.2.2.2.2,λs=> ?_⟩
   have s:x.s=1:=s
   have f:=w.1.f s
   rw[u9 s]
   exact⟨f.1,aR f.2 (Td x.x ai)⟩
  fit:=λy aQ b=>(mJ aQ).elim λx w=>by
   rw[w.2]at b|-
   have b:ic st mo (bA x)=0:=b
   show(∃k,jq (bA x)=[k]/\1<=mo)\/jq (bA x)=[]
   unfold jq
   rcases z:decide (1<(bA x).s)with _|_
   ·have lt:x.s<2:=m5 (iy.mp (hy z:¬ 1<x.s)) ai
    refine .inl ?_
    cases aA (bA x).s 0
    ·exact⟨12,aa,Lz b lt⟩
    ·exact⟨_,aa,Lz b lt⟩
   ·exact .inr aa
  b1:=λy aQ s=>(mJ aQ).elim λx w=>by
   rw[w.2]at s|-
   have s:x.s=1:=s
   refine⟨by show jq (bA x)=_;unfold jq;rw[show(bA x).s=1 from s];rfl,?_⟩
   show ic st mo (bA x)=0\/ic st mo (bA x)=20
   unfold ic
   rw[show(bA x).s=1 from s]
   cases z:aA mo 0
   ·exact .inl aa
   ·exact .inr aa
  b2:=λy aQ s0 s1=>(mJ aQ).elim λx w=>by
   rw[w.2]at s0 s1|-
   show jq (bA x)=[]/\ic st mo (bA x)=0
   unfold jq ic
   rcases w.1.s with s|s|s|s
   ·exact aV s s0
   ·exact aV s s1
   all_goals rw[show(bA x).s=_ from s];exact⟨aa,aa⟩
  Ov:=λy aQ b=>(mJ aQ).elim λx w=>by
   rw[w.2]at b
   have b:ic st mo (bA x)=20:=b
   show mo<1
   unfold ic at b
   rcases z:aA mo 0 with _|_
   ·rw[z,D6,D6]at b
    have b:aG (aA x.s 0) (pf (ha st) (bA x).x) 0=20:=b
    rcases w.1.s with s|s|s|s<;>rw[s]at b
    ·have b:pf (ha st) (bA x).x=20:=b
     rw[fx_0 s,(B7 (w.1.e s).1 (w.1.e s).2 st).1]at b
     have u:∀(st:aB)(e:Fin 15),c0 (ha st) (e.1:ae)≠20:=ai
     have:=u st ⟨x.x.toNat,(AL (w.1.e s).1).mpr (m5 (w.1.e s).2 ai)⟩
     rw[show((x.x.toNat:ae):ag)=x.x from ji (w.1.e s).1]at this
     exact aV b this
    all_goals cases b
   ·rw[c4 z];decide
  uniq:=λp k k' h h'=>(Bi g h).elim λv w=>(Bi g h').elim λou dX=>by rw[w.2.2.2,dX.2.2.2,w.1.one dX.1]
  k1:=λp k h=>(Bi g h).elim λv w=>by
   rw[w.2.2.2]
   unfold GY
   rcases z:aA v 2 with _|_
   ·have L:=B7 (e:=v - 3) (Int.sub_nonneg_of_le (JY (Tf.mpr ⟨w.2.1,pR (hy z)⟩))) (Int.sub_le_sub_right w.2.2.1 3) st;rw[←L.2.1]at L;exact L.2.2
   ·exact(show(0:ag)<=12 by decide)
  OR:=λq k h=>aF2 g h
  OQ:=λp k h m=>(Bi g h).elim λv w=>(eS.mp m).elim λy u=>(mJ u.1).elim λx c=>by
   exact aV (aR (w.1.one (aR u.2 (aD c.2 c.1.t):e6 rows p 0)) w.2.1) (by decide:¬(2:Int)<=0)
  op:=λins hi=>(eS.mp hi).elim λr w=>by
   have f:=MR ⟨(g.lI r w.1).1,(g.lI r w.1).2.1⟩ rows.length
   rw[w.2]at f
   exact⟨f.1,f.2.1,f.2.2.1⟩
  ME:=λj ins hi o=>by
   have hi:(rows.map (ij rows.length))[j]? =ab ins:=hi
   rw[lV]at hi
   refine b5 (wA.mp hi) λr au mL=> ?_
   have f:=g.lI r (List.mem_of_getElem? au)
   exact ai2 g ⟨j,r,aa,au,f.2.2 ((MR ⟨f.1,f.2.1⟩ rows.length).2.2.2 (aD mL o))⟩
  n:=aD kW a6
  dc:=(cN bA).symm▸aK
  most:=hm.2
  Gi:=λp i h=>kW.symm▸cE p i h
  gl:=ax
  raw:=au
  d4:=λy aQ=>(mJ aQ).elim λx w=>aD w.2 w.1.s}
end
structure rW where
 (td cn dF ca:ae)
structure jK(σ:H)(D:rW)(zs:af ag)(k:ag)(rows:af eV)(cls:af Cl):Prop where
 td:σ D.td=ab ⟨30,.l [.r D.cn,.i k,.r D.dF,.r D.ca]⟩
 cn:σ D.cn=ab ⟨1,.l (aL zs)⟩
 dF:σ D.dF=ab ⟨31,.l (rows.map zZ)⟩
 ca:σ D.ca=ab ⟨32,.l (cls.map Cl.v)⟩
 o7:0<=k
structure Dq(D:rW)(zs:af ag)(pn:af ag)(rows:af eV)(cls:af Cl)(σ:H)(k:ag)(cI:af eV)(dc:af Cl)(ah:H):Prop where
 f:Fr (b' 30 32) σ ah
 d:jK ah D zs k (rows++cI) (cls++dc)
 g:gD (rows++cI) (cls++dc) pn
 lo:∀y∈dc,(rows.length:ag)<=y.t0
section
variable{F:cy}{hd:aw ae}{σ ah hp:H}{n:ae}{D:rW}{zs pn:af ag}{k k' x y:ag}{rows cI kB:af eV}{cls dc pa:af Cl}{lm:bf}{e aq e2:aW}{r:af St}{K:cT}{Q:bQ}{X:bR}{S:ae->aB}
theorem R.hV(h:R F hd σ lm e (.i x))(aQ:0<y):R F hd σ lm (.o .m e (.i y)) (.i (x%y)):=.B h .i λU q=>.mod aQ q
theorem R.fd(h:R F hd σ lm e (.i x))(aQ:0<y/\y<1000000):R F hd σ lm (.o .f e (.i y)) (.i (x/y)):=.B h .i λU q=>.fdiv aQ.1 aQ.2 q
theorem jK.fr(h:jK σ D zs k rows cls)(f:Fr S σ ah)(z:([1,30,31,32].all λt=> !S t)=ak):jK ah D zs k rows cls:=
 have e:∀t∈[1,30,31,32],S t=av:=λt m=>(we _).symm.trans (aU (!·) (iK.mp z t m))
 ⟨f _ _ h.td (e 30 (.tail _ (.head _))),f _ _ h.cn (e 1 (.head _)),f _ _ h.dF (e 31 (.tail _ (.tail _ (.head _)))),f _ _ h.ca (e 32 (.tail _ (.tail _ (.tail _ (.head _))))),h.o7⟩
theorem jK.at(h:jK σ D zs k rows cls){j:ae}{v:V}(z:lm.get 0=ab (.r D.td))(w:[V.r D.cn,.i k,.r D.dF,.r D.ca][j]? =ab v):R F hd σ lm (.u (.l 0) (.i j)) v:=.bC (.L z) .i (fF h.td (f5 w))
theorem jK.len(h:jK σ D zs k rows cls)(z:lm.get 0=ab (.r D.td)):R F .none σ lm (.B .l [.u (.l 0) (.i 2)]) (.i rows.length):=.bi aa (.c (h.at (j:=2) z aa) .N) (aR (cN (as:=rows) zZ) (jz h.dF))
theorem Dq.ay(a:Dq D zs pn rows cls σ k cI dc ah)(b:Dq D zs pn (rows++cI) (cls++dc) ah k' kB pa hp):Dq D zs pn rows cls σ k' (cI++kB) (dc++pa) hp:=
 ⟨a.f.ay b.f,aR (fy rows cI kB) (aR (fy cls dc pa) b.d),aR (fy rows cI kB) (aR (fy cls dc pa) b.g),λy aQ=>(gO.mp aQ).elim (a.lo y) λh=>eE (jH.mpr (by rw[cK];exact en _ _)) (b.lo y h)⟩
theorem s_row{pn':af ag}(d:jK σ D zs k rows cls)(g:gD rows cls pn)(c:ag)(ax:rows.length<=60)(z:lm.get 0=ab (.r D.td))(h1:ck aj n σ lm aq (.i x))(h2:ck aj n σ lm e2 (.i y))(h0:0<=x/\x<=10/\(x=10->c=1))(aK:c=1->(rows.length:ag)∈pn')(s:pn⊆pn')(s':∀q∈pn',q∈pn\/q=rows.length)
  (q:∀ah,Fr (b' 30 32) σ ah->jK ah D zs k (rows++[(x,y,c)]) cls->gD (rows++[(x,y,c)]) cls pn'->e6 (rows++[(x,y,c)]) rows.length c->aH aj n r lm ah K):aH aj n (.e (.m (.u (.l 0) (.i 2)) 0 [.t [aq,e2]])::r) lm σ K:=by
 have f:Fr (b' 31 31) σ (aC σ D.dF ⟨31,.l (rows.map zZ++[.t [.i x,.i y]])⟩):=Fr.upd Fr.rfl d.dF aa
 exact fw (d.at (j:=2) z aa) (.T (.c h1 (.c h2 .N)) qm) d.dF ai (by rw[cN];exact d7 ax ai) (q _ (fE f aa rfl) ⟨f _ _ d.td aa,f _ _ d.cn aa,bc.trans (aU (λl=>ab (O.mk 31 (.l l))) (gA (l₂:=[(x,y,c)])).symm),f _ _ d.ca aa,d.o7⟩ (g.row h0 aK s s') e6.new)
theorem ay0(d:jK σ D zs k rows cls)(q:∀v k' ah,Fr (b' 30 30) σ ah->jK ah D zs k' rows cls->Q (.i v) ah):W (n+1) 94 [.r D.td] σ Q X:=by
 have f:Fr (b' 30 30) σ (aC σ D.td ⟨30,.l [.r D.cn,.i (k+1),.r D.dF,.r D.ca]⟩):=Fr.upd Fr.rfl d.td aa
 have o7:=d.o7
 have ee:jK (aC σ D.td ⟨30,.l [.r D.cn,.i (k+1),.r D.dF,.r D.ca]⟩) D zs (k+1) rows cls:=⟨bc,f _ _ d.cn aa,f _ _ d.dF aa,f _ _ d.ca aa,by lia⟩
 refine bD aa rfl ⟨aa,R.ev (v:=.r D.td) (.p aa) (R.ev (v:=.i 1) .i (.list d.td (f5 (k:=1) aa) (R.ev (v:=.i 1) .i ⟨k,1,aa,aa,.add (.list d.td ai (show(1:ag)<4 by decide) ai ?_)⟩)))⟩
 show aH aj n _ _ (aC σ D.td ⟨30,.l [.r D.cn,.i (k+1),.r D.dF,.r D.ca]⟩) _
 generalize aC σ D.td _=aJ at*
 refine eR (z:=decide (k+1<zs.length)) (.q (ee.at (j:=1) aa rfl) (l4 (ee.at (j:=0) aa rfl) ee.cn) aa) (λz=> ?_) λz=>bP (.p aa) (q 0 _ _ f ee)
 have e:(((k+1).toNat:ae):ag)=k+1:=ji ee.o7
 have lt:(k+1).toNat<zs.length:=fh.mp (e.symm▸c4 z)
 exact bP (.bC (ee.at (j:=0) aa rfl) (ee.at (j:=1) aa rfl) (fF ee.cn (aR e (kS (g:=V.i) (f9 lt))))) (q _ _ _ f ee)
def AV(m:ae):Prop:=∀{n:ae}{σ:H}{D:rW}{zs pn:af ag}{k:ag}{rows:af eV}{cls:af Cl}(cnt:ae)(Q:bQ)(X:bR),jK σ D zs k rows cls->gD rows cls pn->1<=cnt->cnt<=4->rows.length<=50->cls.length<=rows.length->
 (∀ah k' cI dc,Dq D zs pn rows cls σ k' cI dc ah->e6 (rows++cI) rows.length 0->dc.length+1<=cI.length->(11<=rows.length->cI.length=1)->(rows.length<=10->rows.length+cI.length<=10+10*m+cnt)->Q .n ah)->W (n+2*m+2) 95 [.r D.td,.i cnt,.i (3 - m:ag)] σ Q X
def K9(m:ae):Prop:=∀{n:ae}{σ:H}{D:rW}{zs pn:af ag}{k:ag}{rows:af eV}{cls:af Cl}(z:ag)(Q:bQ)(X:bR),jK σ D zs k rows cls->gD rows cls pn->rows.length<=8->cls.length<=rows.length->
 (∀ah k' cI dc,Dq D zs pn rows cls σ k' cI dc ah->e6 (rows++cI) rows.length 0->dc.length+1<=cI.length->rows.length+cI.length<=21+10*m->Q .n ah)->W (n+2*m+3) 96 [.r D.td,.i z,.i (2 - m:ag)] σ Q X
theorem Dq.nil(d:jK σ D zs k rows cls)(g:gD rows cls pn):Dq D zs pn rows cls σ k [] [] σ:=⟨Fr.rfl,(eX rows).symm▸(eX cls).symm▸d,(eX rows).symm▸(eX cls).symm▸g,h9 _⟩
theorem e6.bc3{p v:ag}(h:e6 (rows++cI) p v):e6 (rows++(cI++kB)) p v:=aR (fy rows cI kB) h.up
theorem g3{a b c l x y:ae}(h:a+c<=b+(l+1))(k:x+1<=y):a+x+c<=b+y+l:=by lia
theorem ju{r a y l m c:ae}(b:l+1<=c)(h:r+a+(l+1)<=10+10*m+c)(k:y=1\/r+a+y<=11+10*m):r+(a+y)+l<=10+10*m+c:=by lia
theorem g9(m:ae):21+10*m=11+10*(m+1):=by lia
theorem LG(m:ae)(hm:m<=3)(T:∀m',m=m'+1->K9 m'):AV m:=λ{n σ D zs pn k rows cls} cnt Q X d g h1 cQ va hw q=>by
 have aK:ck aj (n+2*m+1) σ [ab (.r D.td),ab (.i cnt),ab (.i (3 - m)),aj,aj] (.I (.p .l (.B .l [.u (.l 0) (.i 2)]) (.i 11)) (.l 1) (.i 1)) (.i ((aG (decide (rows.length<11)) cnt 1:ae):ag)):=by
  have w:=R.n9 (.q (op:=.l) (b:=decide ((rows.length:ag)<11)) (d.len aa:R (W (n+2*m+1)) aj σ [ab (.r D.td),ab (.i cnt),ab (.i (3 - m)),aj,aj] _ _) (.i (i:=11)) aa) aa (.L (n:=1) aa) (.i (i:=1))
  rw[show decide ((rows.length:ag)<11)=decide (rows.length<11)from decide_eq_decide.mpr (fh (m:=11))]at w
  cases e:decide (rows.length<11)<;>rw[e]at w<;>exact w
 have n2:1<=aG (decide (rows.length<11)) cnt 1/\aG (decide (rows.length<11)) cnt 1<=4/\(11<=rows.length->aG (decide (rows.length<11)) cnt 1=1)/\aG (decide (rows.length<11)) cnt 1<=cnt:=by
  cases e:decide (rows.length<11)
  ·exact⟨da _,iz aa,λU=>aa,h1⟩
  ·exact⟨h1,cQ,λh=>aV (c4 e) (tP.mpr h),da _⟩
 generalize aG (decide (rows.length<11)) cnt 1=c at*
 refine bD aa rfl (iF (its:=gB c) (λj=>[.i (j:ae)]) (λb:aw V×aw V=>[ab (.r D.td),ab (.i cnt),ab (.i (3 - m)),b.1,b.2]) (λl U aJ=>∃k' cI dc,Dq D zs pn rows cls σ k' cI dc aJ/\(cI=[]\/e6 (rows++cI) rows.length 0)/\l.length<=c/\dc.length+c<=cI.length+l.length/\(11<=rows.length->cI.length+l.length=c)/\(rows.length<=10->rows.length+cI.length+l.length<=10+10*m+c)) (aj,aj) aa
  (.c aK .N) (tb (aX n2.2.1 ai)) (λU=>aa) (λU U U U=>trivial) aa ⟨k,[],[],Dq.nil d g,.inl aa,eK mu,by rw[mu];exact da _,λU=>by rw[mu];exact iA _,λh=>by rw[mu,El];exact nM (aX h (en _ _)) _⟩ (λb aJ i=> ?_) λj l b aJ vt i K' bV=> ?_)
 ·refine I2 i λk' cI dc jR a gF b1 b2 kp=> ?_
  rw[El]at b1 b2 kp
  exact q aJ k' cI dc jR (a.resolve_left λe=>by rw[e]at b1;exact aV (aX (rQ _ _) b1) (Kn.mpr n2.1)) (aX (gC n2.1 _) b1) (λh=>(b2 h).trans (n2.2.2.1 h)) λh=>aX (kp h) (gC n2.2.2.2 _)
 ·refine I2 i λfY cI dc jR a gF b1 b2 kp=> ?_
  rw[jI]at gF b1 b2 kp
  have l8:(rows++cI).length=rows.length+cI.length:=cK
  have jb:∀{ik:ag}{nr2:af eV}{nc2:af Cl}{a3:H},Dq D zs pn (rows++cI) (cls++dc) aJ ik nr2 nc2 a3->e6 (rows++cI++nr2) (rows++cI).length 0->nc2.length+1<=nr2.length->(11<=rows.length->nr2.length=1)->(rows.length<=10->nr2.length=1\/rows.length+cI.length+nr2.length<=11+10*m)->∀b1 b2,K' [ab (.r D.td),ab (.i cnt),ab (.i (3 - m)),b1,b2] a3:=λ{ik nr2 nc2 a3} lG a2 hO c2 lE Dh rz=>by
   have l1:(cI++nr2).length=cI.length+nr2.length:=cK
   have d2:(dc++nc2).length=dc.length+nc2.length:=cK
   exact bV (Dh,rz) a3 ⟨ik,cI++nr2,dc++nc2,jR.ay lG,.inr (a.elim (λe=>by subst e;rwa[eX]at a2) e6.bc3),rR gF,by rw[l1,d2];exact g3 b1 hO,λh=>by rw[l1,c2 h];exact(yn ..).trans (b2 h),λh=>by rw[l1];exact ju gF (kp h) (lE h)⟩
  refine d0 (l:=[.r D.td]) (.p aa) (ay0 jR.d λv ik a3 f2 lG=> ?_)
  have mz:∀{k0 nr2 nc2 bM},Dq D zs pn (rows++cI) (cls++dc) a3 k0 nr2 nc2 bM->Dq D zs pn (rows++cI) (cls++dc) aJ k0 nr2 nc2 bM:=λh=>{h with f:=(fE f2 aa rfl).ay h.f}
  refine hW (v:=.b (decide (v%10=7)&&(decide ((3 - m:ag)<3)&&decide (((rows++cI).length:ag)<9)))) (.hN (.g6 (.hV (.p aa) ai) .i) (.hN (.p aa) (.q (lG.len aa) .i aa))) aa (λz=> ?_) λz=> ?_
  ·have i0:=df (df z).2
   have lt:=fh.mp (c4 i0.2)
   rcases m with _|m
   ·exact aV (c4 i0.1) ai
   exact d0 (l:=[.r D.td,.i (v/10),.i (2 - m)]) (.c (.p aa) (.c (.fd (.p aa) ai) (.c (.L (aU (λx=>ab (V.i x)) (show 3 - ((m+1:ae):ag)=2 - m by lia))) .N))) (T m aa (n:=n) (v/10) _ _ lG jR.g (oC lt) (by rw[l8,cK];exact nL hw (Nat.le_of_add_le_add_right (aX b1 (gC gF _)))) λbM k0 nr2 nc2 XT fB hO c2=>jb (mz XT) fB hO (λh=>aV (aX h (aX (en _ _) (jk (aR l8 lt)))) ai) (λh=>.inr (aX (aR l8 c2) (eK (g9 m)))) _ _)
  ·refine s_row (pn':=pn) lG jR.g 0 ?_ rfl (.hV (.p aa) ai) (.fd (.p aa) ai) ?_ nofun (λU h=>h) (λU h=>.inl h) λbM cz q8 g3 fB=>jb (nr2:=[(v%10,v/10,0)]) (nc2:=[]) (mz ⟨cz,(eX (cls++dc)).symm▸q8,(eX (cls++dc)).symm▸g3,h9 _⟩) fB (da _) (λU=>aa) (λU=>.inl aa) _ _
   ·rcases Et rows.length 11 with u|u
    ·exact aD l8 (aX (aX (en _ _) (kp (oC u))) (aX (nL (gC (Nat.mul_le_mul_left 10 hm) 10) n2.2.1) ai))
    ·exact aD l8 (aX (nL va (aX (aX (en _ _) (eK (b2 u))) n2.2.1)) (show 50+4<=60 by decide))
   ·exact⟨wg _ ai,hJ (yj v ai),λh=>aV h (J3 (yj v ai))⟩
end
def xq(x:Cl):af ag:=aG (aA x.s 1) [x.x+1] []
abbrev pend(l:af Cl):af ag:=l.flatMap xq
structure ug(D:rW)(zs pn:af ag)(ka:af eV)(t1 m:ae)(cls:af Cl)(σ0:H)(p d:ae)(s:ag)(k:ag)(rows:af eV)(dc:af Cl)(rs:af Cl)(σ:H):Prop where
 f:Fr (b' 30 32) σ0 σ
 np:σ0 p=aj
 mU:ka<+:rows
 w6:cls.length<=ka.length
 q':jK σ D zs k rows (cls++dc)
 w8:gD rows (cls++dc) (pn++pend rs)
 lo:∀y∈dc,(ka.length:ag)<=y.t0
 a:e6 rows ka.length 0
 o:σ p=ab ⟨33,.l (rs.map Cl.v)⟩
 jr:∀x∈rs,m7 rows x/\x.t0=ka.length
 b8:rs.Pairwise λa b=>∀q∈xq b,a.h1<=q
 n:ka.length+dc.length+rs.length+1<=rows.length
 l:rows.length<=13+10*m+4*d
 t:t1<=rows.length
 ss:s=0\/s=1\/s=2\/s=4
section
variable{σ ah aJ τ:H}{n p d m t1:ae}{ka:af eV}{D:rW}{zs pn:af ag}{k z s:ag}{rows:af eV}{cls dc rs:af Cl}{lm:bf}{r:af St}{K:cT}{Q:bQ}{X:bR}{j:ae}{L':ag}
theorem oe(z:ag){y:ag}(h:0<y):∃c:ae,z%y=c/\(c:ag)<y:=⟨(z%y).toNat,(ji (wg z (qG h))).symm,(ji (wg z (qG h))).symm▸yj z h⟩
theorem aW0(z:ag):∃s:ag,(s=0\/s=1\/s=2\/s=4)/\k5 [.i 0,.i 1,.i 2,.i 4] (z%4)=ab (.i s):=by
 refine b5 (oe z (y:=4) ai) λc e l=> ?_
 rw[e]
 rcases c with _|_|_|_|c
 ·exact⟨0,.inl aa,aa⟩
 ·exact⟨1,.inr (.inl aa),aa⟩
 ·exact⟨2,.inr (.inr (.inl aa)),aa⟩
 ·exact⟨4,.inr (.inr (.inr aa)),aa⟩
 ·exact aV (fh.mp l) (tP.mpr (rQ 4 c))
abbrev tyB:af St:=[.e (.f 95 [.l 0,.o .a (.i 1) (.o .m (.o .f (.l 1) (.i 100)) (.i 2)),.o .a (.l 2) (.i 1)]),.e (.m (.l 6) 0 [.t [.l 5,.l 3,.l 4,.l 9,.B .l [.u (.l 0) (.i 2)],.l 8]]),.i (.p .l (.l 5) (.i 2)) [.a 5 (.o .m (.o .f (.l 1) (.i 12)) (.i 2))] []]
theorem t8{a b c r u v:ae}(h:a+b+c+1<=r)(k:u+1<=v):a+(b+u)+(c+1)+1<=r+v:=by lia
theorem t9{x m c d:ae}(h:x<=10+10*m+(1+c))(k:c<=1):x<=13+10*m+4*(d+1):=by lia
theorem aZ2{m c:ae}(k:c<=2):10+10*m+(1+c)<=13+10*m+4*0:=by lia
theorem aZ3{m d:ae}(k:d<=2):13+10*m+4*d<=21+10*m:=by lia
theorem QM{m d:ae}(h:m<=2)(k:d<=2):13+10*m+4*d<=41:=nL (gC (Nat.mul_le_mul_left 10 h) 13) (Nat.mul_le_mul_left 4 k)
theorem aZ1{r s v m d:ae}(e:v=1)(l:s<=r+3)(t:r<=13+10*m+4*d):s+v<=13+10*m+4*(d+1):=by lia
theorem Iv(B:AV m)(hm:m<=2){jZ:af eV}{h0 e:ag}{uk:aw V}{K':bf->H->Prop}(T:ug D zs pn ka t1 m cls τ p d s k rows dc rs aJ)(f:Fr (b' 30 32) aJ σ)(mU:rows<+:jZ)(q8:jK σ D zs k jZ (cls++dc))(g3:gD jZ (cls++dc) (pn++pend rs++aG (aA s 1) [e+1] []))(o:σ p=ab ⟨33,.l (rs.map Cl.v)⟩)(hP:d<=1)(lt:ka.length<t1)
  (bG:(t1:ag)<=h0/\h0<=jZ.length)(c:s=1->(rows.length:ag)=e/\e+2=h0/\e6 jZ e 2/\e6 jZ h0 2)(Fe:s=0->(0<=e/\e<=14)/\e6 jZ h0 (3+e))(B4:jZ.length<=rows.length+3)
  (bV:∀s' k' cI jU z1 ah oU uk,ug D zs pn ka t1 m cls τ p (d+1) s' k' cI jU z1 ah->K' [ab (.r D.td),ab (.i z),ab (.i (2 - m)),ab (.i ka.length),ab (.i t1),ab (.i s'),ab (.r p),ab (.i j),ab (.i e),oU,uk] ah):
  aH aj (n+2*m+2) tyB [ab (.r D.td),ab (.i z),ab (.i (2 - m)),ab (.i ka.length),ab (.i t1),ab (.i s),ab (.r p),ab (.i j),ab (.i e),ab (.i h0),uk] σ (km K' (fz Q X)):=by
 refine b5 (oe (z/100) (y:=2) ai) λhO aq l1=> ?_
 have l8:=mU.length_le
 have vR:=T.n
 have w6:=T.w6
 have dd:=T.l
 have yS:hO<=1:=oC (fh.mp l1)
 have QN:rows.length<=37:=aX dd (nL (gC (Nat.mul_le_mul_left 10 hm) 13) (Nat.mul_le_mul_left 4 hP))
 refine d0 (l:=[.r D.td,.i ((1+hO:ae):ag),.i (3 - m)]) (.c (.p aa) (.c (.B (z:=.i (1+hO:ae)) .i (aq▸.hV (.fd (.p aa) ai) ai) λU q=>.add (Tn 1 hO▸q)) (.c (.B (z:=.i (3 - m)) (.p aa) .i λU q=>.add (by rw[show(2 - m+1:ag)=3 - m by lia];exact q)) .N)))
  (B (n:=n) (1+hO) _ _ q8 g3 (en _ _) (aX (gC yS 1) ai) (aX B4 (aX (nM QN 3) ai)) (by rw[cK];exact aX (nM w6 _) (aX (aX (en _ (rs.length+1)) vR) l8)) λcC ny pb OK jR jo kf yO q4=> ?_)
 have jc:=mU.trans (yl jZ pb)
 have cQ:((jZ++pb).length:ag)=jZ.length+pb.length:=by rw[cK];rfl
 have f4:Fr (b' 33 33) cC (aC cC p ⟨33,.l (rs.map Cl.v++[(⟨s,ka.length,t1,h0,(jZ++pb).length,e⟩:Cl).v])⟩):=Fr.upd Fr.rfl (jR.f _ _ o aa) aa
 have mJ:m7 (jZ++pb) ⟨s,ka.length,t1,h0,(jZ++pb).length,e⟩:={
  s:=T.ss
  r:=⟨mq _,fh.mpr lt,bG.1,m5 bG.2 (fh.mpr (by rw[cK];exact wu (fT (oD _) kf))),pJ _⟩
  f:=λaq=>⟨aR (c aq).1 (jH.mpr T.t),(c aq).2.1⟩
  e:=λfj=>(Fe fj).1
  t:=T.a.mU jc
  gF:=λfj=>(Fe fj).2.up
  b1:=λaq=>⟨(c aq).2.2.1.up,(c aq).2.2.2.up⟩}
 have fin:∀s',s'=0\/s'=1\/s'=2\/s'=4->ug D zs pn ka t1 m cls τ p (d+1) s' ny (jZ++pb) (dc++OK) (rs++[⟨s,ka.length,t1,h0,(jZ++pb).length,e⟩]) (aC cC p ⟨33,.l (rs.map Cl.v++[(⟨s,ka.length,t1,h0,(jZ++pb).length,e⟩:Cl).v])⟩):=λs' hs=>{
  f:=λa o h w=>(iu (k4 h T.np)).trans (((T.f.ay f).ay jR.f) a o h w)
  np:=T.np
  mU:=T.mU.trans jc
  w6:=T.w6
  q':=(fy cls dc OK▸jR.d).fr f4 aa
  w8:=by
   have g:=jR.g
   rw[fy cls]at g
   show gD _ _ (pn++Ka xq (rs++[_]))
   rwa[wj,show Ka xq [(⟨s,ka.length,t1,h0,(jZ++pb).length,e⟩:Cl)]=aG (aA s 1) [e+1] []from eX _,←fy pn]
  lo:=λy aQ=>(gO.mp aQ).elim (T.lo y) λh=>eE (eE (jH.mpr (jk lt)) (eE bG.1 bG.2)) (jR.lo y h)
  a:=T.a.mU jc
  o:=bc.trans (aU (λl=>ab (O.mk 33 (.l l))) (gA (l₂:=[(⟨s,ka.length,t1,h0,(jZ++pb).length,e⟩:Cl)])).symm)
  jr:=λx aE=>(gO.mp aE).elim (λh=>⟨(T.jr x h).1.mU jc,(T.jr x h).2⟩) λh=>aD (dv.mp h) ⟨mJ,aa⟩
  b8:=TQ.mpr ⟨T.b8,.cons (h9 _) .nil,λa cg b bb q b4=>by
   rw[dv.mp bb]at b4
   have b4:q∈aG (aA s 1) [e+1] []:=b4
   rcases lL b4 with⟨w,u⟩|⟨_,u⟩
   ·rw[dv.mp u]
    exact Tb (eE (T.jr a cg).1.r.2.2.2.2 (nI (c (c4 w)).1))
   ·cases u⟩
  n:=by
   rw[cK,cK,cK,AP]
   exact t8 (aX vR l8) kf
  l:=by
   rw[cK]
   rcases Et jZ.length 11 with u|u
   ·exact t9 (q4 (oC u)) yS
   ·exact aZ1 (yO u) B4 dd
  t:=by rw[cK];exact aX (jH.mp (eE bG.1 bG.2)) (en _ _)
  ss:=hs}
 refine fw (.p aa) (.T (.c (.p aa) (.c (.p aa) (.c (.p aa) (.c (.p aa) (.c (jR.d.len aa) (.c (.p aa) .N)))))) (show 6<=bN by decide)) (jR.f _ _ o aa) ai ?_ (eR (z:=decide (s<2)) (.p aa) (λw=>c7 (.hV (.fd (.p aa) ai) ai) (bV _ _ _ _ _ _ _ _ (fin _ ?_))) λw=>bV _ _ _ _ _ _ _ _ (fin _ T.ss))
 ·rw[cN]
  exact fT (d7 (aX (rQ rs.length _) (aX (rR vR) QN)) (show 37<100 by decide)) ai
 ·refine b5 (oe (z/12) (y:=2) ai) λc2 e2 d2=> ?_
  rw[e2]
  exact(Nat.le_one_iff_eq_zero_or_eq_one.mp (oC (fh.mp d2))).elim (λh=>.inl (aD h aa)) λh=>.inr (.inl (aD h aa))
theorem bb2(B:AV m)(hm:m<=2):K9 m:=λ{n σ D zs pn k rows cls} z Q X d g ax hw q=>by
 refine b5 (oe z (y:=3) ai) λhO aq l1=> ?_
 have yS:hO<=2:=oC (fh.mp l1)
 have gY:∀{σ:H}{lm:bf},lm.get 2=ab (.i (2 - m:ag))->ck aj (n+2*m+2) σ lm (.o .a (.l 2) (.i 1)) (.i (3 - m)):=λh=>.B (.L h) .i λU q=>.add (by rw[show(2 - m+1:ag)=3 - m by lia];exact q)
 refine bD aa rfl (c7 (d.len aa) (d0 (l:=[.r D.td,.i ((1+hO:ae):ag),.i (3 - m)]) (.c (.p aa) (.c (.B (z:=.i (1+hO:ae)) .i (aq▸.hV (.p aa) ai) λU q=>.add (Tn 1 hO▸q)) (.c (gY aa) .N))) (B (n:=n) (1+hO) _ _ d g (en _ _) (aX (gC yS 1) ai) (aX ax ai) hw λaJ fY cI dc jR a d9 b1 b2=> ?_)))
 refine b5 (aW0 (z/3)) λs0 ar2 Fw=> ?_
 refine c7 (jR.d.len aa) (c7 (.bC (.p aa) (.hV (.fd (.p aa) ai) ai) (fG Fw)) (kg 33 ai (.L .N hC) λp np=> ?_))
 have bl:=(Ext.rfl (σ:=aJ)).new (o:=⟨33,.l []⟩) np
 have l8:(rows++cI).length=rows.length+cI.length:=cK
 have lt:rows.length<(rows++cI).length:=aD l8 (wu (fT (oD _) d9))
 have T0:ug D zs pn rows (rows++cI).length m cls aJ p 0 s0 fY (rows++cI) dc [] (aC aJ p ⟨33,.l []⟩):={f:=bl.fr,np:=np,mU:=yl _ _,w6:=hw,q':=jR.d.fr (S:=du) bl.fr aa,w8:=(eX pn).symm▸jR.g,lo:=jR.lo,a:=a,o:=bc,jr:=h9 _,b8:=.nil,n:=by rw[l8];exact gC d9 _,l:=by rw[l8];exact aX (b2 (aX ax ai)) (aZ2 yS),t:=da _,ss:=ar2}
 generalize aC aJ p ⟨33,.l []⟩=a3 at*
 have aK:∃c:ae,c<=2/\ck aj (n+2*m+2) a3 [ab (.r D.td),ab (.i z),ab (.i (2 - m)),ab (.i rows.length),ab (.i (rows++cI).length),ab (.i s0),ab (.r p),aj,aj,aj,aj] (.I (.A (.p .l (.l 5) (.i 2)) (.p .e (.o .m (.o .f (.l 1) (.i 100)) (.i 3)) (.i 0))) (.i 2) (.i 1)) (.i c):=by
  have w:=R.n9 (b:=decide (s0<2)&&decide (z/100%3=0)) (.hN (.p (F:=W (n+2*m+2)) (hd:=aj) (σ:=a3) (lm:=[ab (.r D.td),ab (.i z),ab (.i (2 - m)),ab (.i rows.length),ab (.i (rows++cI).length),ab (.i s0),ab (.r p),aj,aj,aj,aj]) (e:=.p .l (.l 5) (.i 2)) aa) (.g6 (.hV (.fd (.L (n:=1) aa) ai) ai) .i)) aa (.i (i:=2)) (.i (i:=1))
  cases u:decide (s0<2)&&decide (z/100%3=0)<;>rw[u]at w
  ·exact⟨1,ai,w⟩
  ·exact⟨2,ai,w⟩
 refine b5 aK λc c2 aK=> ?_
 refine iF (its:=gB c) (λj=>[.i (j:ae)]) (λb:ag×aw V×aw V×aw V×aw V=>[ab (.r D.td),ab (.i z),ab (.i (2 - m)),ab (.i rows.length),ab (.i (rows++cI).length),ab (.i b.1),ab (.r p),b.2.1,b.2.2.1,b.2.2.2.1,b.2.2.2.2]) (λl b ah=>∃d k' jW jU rs,d+l.length=c/\(∀j∈l,j<=1)/\ug D zs pn rows (rows++cI).length m cls aJ p d b.1 k' jW jU rs ah) (s0,aj,aj,aj,aj) aa
  (.c aK .N) (tb (aX c2 ai)) (λU=>aa) (λU U U U=>trivial) aa ⟨0,_,_,_,_,(iA _).trans mu,λj cp=>oC (fT (pN.mp cp) c2),T0⟩ (λb bM i=> ?_) λj l b bM vt i K' bV=> ?_
 ·refine Ds i λee k' jW jU rs gG U T=> ?_
  have xm:=T.n
  have lG:ee<=2:=aX (eK gG) c2
  have l':=T.l
  rcases T.mU with⟨kB,em⟩
  subst em
  have Oq:(rows++kB).length=rows.length+kB.length:=cK
  refine iF (its:=rs) (gv:=Cl.v) (λx=>[x.v]) (λo:aw V=>[ab (.r D.td),ab (.i z),ab (.i (2 - m)),ab (.i rows.length),ab (.i (rows++cI).length),ab (.i b.1),ab (.r p),b.2.1,b.2.2.1,b.2.2.2.1,o]) (λl U ah=>∃bJ,bJ++l=rs/\Fr (b' 30 32) aJ ah/\jK ah D zs k' (rows++kB) (cls++(jU++bJ))/\gD (rows++kB) (cls++(jU++bJ)) (pn++pend l)/\ah p=ab ⟨33,.l (rs.map Cl.v)⟩) b.2.2.2.2 aa
   (.p aa) (kF T.o) (λU=>aa) (λU U U i=>i.elim λbJ i=>⟨_,i.2.2.2.2⟩) aa ⟨[],aa,T.f,(eX jU).symm▸T.q',(eX jU).symm▸T.w8,T.o⟩ (λo cC i=> ?_) λx l o cC mx i K' bV=> ?_
  ·refine tn i λbJ gG f4 lH e8 jX=> ?_
   rw[eX]at gG
   subst gG
   exact q cC k' kB (jU++bJ) ⟨jR.f.ay f4,lH,aR (eX pn) e8,λy aQ=>(gO.mp aQ).elim (T.lo y) λh=>aR (T.jr y h).2 (pJ _)⟩ T.a (by rw[cK];exact Nat.le_of_add_le_add_left (a:=rows.length) (aR Oq (aR (wt rows.length _ _) xm:rows.length+(jU.length+bJ.length)+1<=_))) (aX (aR Oq l') (aZ3 lG))
  ·refine tn i λbJ gG f4 lH e8 jX=> ?_
   have e7:Fr (b' 32 32) cC (aC cC D.ca ⟨32,.l ((cls++(jU++bJ)).map Cl.v++[x.v])⟩):=Fr.upd Fr.rfl lH.ca aa
   have e2:cls++(jU++(bJ++[x]))=cls++(jU++bJ)++[x]:=by rw[←fy jU,←fy cls]
   have mJ:=T.jr x (aR gG (lW _ dI))
   have b8:=(TR.mp (TQ.mp (aD gG T.b8)).2.1).1
   refine fw (lH.at (j:=3) aa rfl) (.p aa) lH.ca ai ?_ (bV _ _ ⟨bJ++[x],(fy bJ [x] l).trans gG,f4.ay (fE e7 aa rfl),⟨e7 _ _ lH.td aa,e7 _ _ lH.cn aa,e7 _ _ lH.dF aa,aD e2 (bc.trans (aU (λl=>ab (O.mk 32 (.l l))) (gA (l₂:=[x])).symm)),lH.o7⟩,aD e2 (e8.cl mJ.1 (λq b4=> ?_) (λq b4=> ?_) λq b4=> ?_),e7 _ _ jX aa⟩)
   ·have:=aU yk gG
    rw[cK,jI]at this
    rw[cN,cK,cK]
    exact fT (d7 (aX (nL hw (gC (aX (en _ _) (eK this)) _)) (aX (eK (wt ..).symm) (aX (rR xm) (aX l' (QM hm lG))))) (show 41<200 by decide)) ai
   ·refine(gO.mp b4).elim (λh=>.inr (mv _ h)) λh=> ?_
    rw[show pend (x::l)=xq x++pend l from AN]at h
    refine(gO.mp h).elim (λh=>.inl ?_) λh=>.inr (lW _ h)
    rcases lL h with⟨w,u⟩|⟨_,u⟩
    ·exact⟨c4 w,dv.mp u⟩
    ·cases u
   ·exact(gO.mp b4).elim (mv _) λh=>lW _ (by rw[show pend (x::l)=xq x++pend l from AN];exact lW _ h)
   ·refine(gO.mp b4).elim (λh=>.inr (aD mJ.2 (g.pn q h).1)) λh=> ?_
    exact(pM.mp h).elim λy w=>.inl (b8 y w.1 q w.2)
 ·refine Ds i λee k' jW jU rs gG N4 T=> ?_
  rw[jI]at gG
  have hP:ee<=1:=Kl (aX (pQ (en ee l.length)) (gG.symm▸c2:ee+l.length+1<=2))
  have jj:=N4 j dI
  rcases b with⟨s,hE,oh,pd,OV⟩
  have T:ug D zs pn rows (rows++cI).length m cls aJ p ee s k' jW jU rs bM:=T
  have Gk:∀{e:ag} s' k' jW jU z1 ah oU uk,ug D zs pn rows (rows++cI).length m cls aJ p (ee+1) s' k' jW jU z1 ah->K' [ab (.r D.td),ab (.i z),ab (.i (2 - m)),ab (.i rows.length),ab (.i (rows++cI).length),ab (.i s'),ab (.r p),ab (.i j),ab (.i e),oU,uk] ah:=λ{e} s' k' jW jU z1 ah oU uk t=>bV (s',ab (.i j),ab (.i e),oU,uk) ah ⟨ee+1,k',jW,jU,z1,(yn ee 1 l.length).trans gG,λj h=>N4 j (iL _ h),t⟩
  refine b5 (oe (z/24) (y:=14) ai) λBk eO G3=> ?_
  have l':=T.l
  have hlen:∀{m:ae},m<=jW.length+3->m<=60:=λh=>aX h (aX (nM (aX l' (QM hm (AS hP))) 3) ai)
  have rm:∀{l:af eV}{r:eV},(l++[r]).length=l.length+1:=cK
  have tt:=T.t
  have lI:∀{x y c:ag},0<y->y<=10->0<=x%y/\x%y<=10/\(x%y=10->c=1):=λ{x y c} h0 h1=>by
   have a:=wg x (qG h0)
   have b:=yj x h0
   exact⟨a,hJ (oA b h1),λh=>aV (oA (h▸b) h1) (J1 _)⟩
  have bn6:∀q∈pn++pend rs,q∈pn++pend rs\/q=jW.length:=λU h=>.inl h
  refine c7 (v:=.i (aG (decide (s=0)) (z/24%14+j) 0)) (.n9 (.p aa) aa (.B (.hV (.fd (.p aa) ai) ai) (.p aa) λU q=>.add q) .i) ?_
  by_cases s1:s=1
  ·subst s1
   refine gV (.p aa) aa (c7 (T.q'.len aa) (s_row (pn':=pn++pend rs) T.q' T.w8 2 (hlen (en _ _)) aa (.hV (.fd (.p aa) ai) ai) (.p aa) (lI ai ai) nofun (λU h=>h) (λU h=>.inl h) λcC f4 lH e8 jo=>s_row (pn':=pn++pend rs++[(jW.length:ag)+1]) lH e8 1 (hlen (by rw[rm];exact en (jW.length+1) 2)) aa (.p aa) (.p aa) ai (λU=>lW _ (dv.mpr (by rw[rm];rfl))) (λU h=>mv _ h) (λq h=>(gO.mp h).imp id λh=>(dv.mp h).trans (by rw[rm];rfl)) λσ5 e7 yY ju gQ=> ?_))
   refine c7 (yY.len aa) (gV (.p aa) aa (s_row (pn':=pn++pend rs++[(jW.length:ag)+1]) yY ju 2 (hlen (by rw[rm,rm];exact en (jW.length+2) 1)) aa (.hV (.fd (.p aa) ai) ai) (.p aa) (lI ai ai) nofun (λU h=>h) (λU h=>.inl h) λh7 kr XD iQ E6=> ?_))
   have mU:jW<+:jW++[(z/24%3,0,2)]++[(10,0,1)]++[(z/48%3,0,2)]:=((yl _ _).trans (yl _ _)).trans (yl _ _)
   have aq:= @rm jW (z/24%3,0,2)
   have e2:= @rm (jW++[(z/24%3,0,2)]) (10,0,1)
   have bF:= @rm (jW++[(z/24%3,0,2)]++[(10,0,1)]) (z/48%3,0,2)
   exact Iv B hm T ((f4.ay e7).ay kr) mU XD iQ (kr _ _ (e7 _ _ (f4 _ _ T.o aa) aa) aa) hP lt ⟨jH.mpr (by rw[e2,aq];exact aX tt (en _ 2)),jH.mpr (by rw[bF];exact mw _)⟩ (λU=>⟨aa,by rw[e2,aq];rfl,jo.up.up,E6⟩) nofun (by rw[bF,e2,aq];exact da _) Gk
  ·refine dV (.p aa) (de s1) (c7 (T.q'.len aa) ?_)
   by_cases s0:s=0
   ·subst s0
    have ex:∃e:ag,z/24%14+(j:ag)=e/\0<=e/\e<=14:=⟨_,aa,by rw[eO];exact Int.add_nonneg (mq _) (mq _),by rw[eO];exact Int.add_le_add (Tc (b:=13) G3) (jH.mpr jj)⟩
    refine fH ex λe Fs fj XW=> ?_
    rw[show aG (decide ((0:ag)=0)) (z/24%14+(j:ag)) 0=e from Fs]
    refine gV (.p aa) aa (s_row (pn':=pn++pend rs) T.q' T.w8 (3+e) (hlen (en _ _)) aa (.hV (.fd (.p aa) ai) ai) (.p aa) (lI ai ai) (λh=>aV h (qG (oA ai (Ea fj 3)))) (λU h=>h) (λU h=>.inl h) λcC f4 lH e8 jo=> ?_)
    have aq:= @rm jW (z/48%3,0,3+e)
    exact Iv B hm T f4 (yl _ _) lH ((eX (pn++pend rs)).symm▸e8) (f4 _ _ T.o aa) hP lt ⟨jH.mpr tt,jH.mpr (by rw[aq];exact mw _)⟩ nofun (λU=>⟨⟨fj,XW⟩,jo⟩) (by rw[aq];exact en _ 2) Gk
   ·have aq:aA s 1=av:=de s1
    refine dV (.p aa) (de (((T.ss.resolve_left s0).resolve_left s1).elim (λh=>by rw[h];exact(by decide:¬(2:Int)<2)) λh=>by rw[h];exact(by decide:¬(4:Int)<2))) ?_
    exact Iv B hm T Fr.rfl (List.prefix_refl _) T.q' (by rw[aq];exact(eX (pn++pend rs)).symm▸T.w8) T.o hP lt ⟨jH.mpr tt,pJ _⟩ (λh=>aV h s1) (λh=>aV h s0) (en _ _) Gk
theorem LF:∀m,m<=3->AV m
 |0,h=>LG 0 h λU e=>nomatch e
 |m+1,h=>LG (m+1) h λm' e=>aR (wz e) (bb2 (LF m (rR h)) (Kl h))
end
section
variable{σ ah σ0:H}{n t a N:ae}{rows:af eV}{cls:af Cl}{D:rW}{A:jm}{k p x y:ag}{lm:bf}{r:af St}{fe:cT}{Q:bQ}{X:bR}{d:af (ag×V)}{E l ls:af ag}{e:aW}{v:V}
theorem ax6{dF:ae}(o:σ dF=ab ⟨t,.l (rows.map zZ)⟩)(lI:∀r∈rows,0<=r.1/\r.1<=10)(dT:0<rows.length)(ax:rows.length<=60)(q:∀a ah,Ext σ ah->ah a=ab ⟨1,.l ((rows.map (ij rows.length)).map eo.v)⟩->Q (.r a) ah):W (n+1) 97 [.r dF] σ Q X:=by
 refine bD aa rfl (c7 (v:=.i rows.length) (.bi aa (.p aa) (aR (cN (as:=rows) zZ) (jz o))) (kg 1 ai (.L .N hC) λa na=> ?_))
 have x0:Ext σ (aC σ a ⟨1,.l []⟩):=Ext.rfl.new na
 refine xG (its:=rows) (N:=60) (λr=>[.i r.1,.i r.2.1]) (λb:aw V×aw V×aw V=>[ab (.r dF),ab (.i rows.length),ab (.r a),b.1,b.2.1,b.2.2]) (aj,aj,aj) (λr=>[(ij rows.length r).v]) aa x0 (.p aa) (kF (x0 _ _ o)) (λU x=>⟨_,x _ _ o⟩) (λU=>aa) aa bc (λU=>da _) (by rw[El,iA];exact ax) (λb aJ aM di=>bP (.p aa) (q a aJ aM (di.trans ?_))) λr b acc aJ kB cg aM di K bV=> ?_
 ·rw[nJ];exact aU (λl=>ab (O.mk 1 (.l l))) (Ke (f:=λr=>(ij rows.length r).v)).symm
 ·have f:=lI r kB
  have d9:(0:ag)<(rows.length:ag)+1:=by lia
  have jb:∀v,v=(ij rows.length r).arg->aH aj n [.e (.m (.l 2) 0 [.t [.u (.c (.t [.i 0,.i 38,.i 65033,.i 122,.i 221,.i 65050,.i 220,.i 0,.i 69,.i 57,.i 65041])) (.l 3),.l 5]])] [ab (.r dF),ab (.i rows.length),ab (.r a),ab (.i r.1),ab (.i r.2.1),ab v] aJ (km K (fz Q X)):=λv ev=>by
   rw[ev]
   refine fw (.p aa) (.T (.c (.bC .c (.p aa) (fG (vw (l:=ph) ⟨r.1.toNat,(ji f.1).symm,show r.1.toNat<11 by lia⟩))) (.c (.p aa) .N)) qm) di ai (fT cg ai) (bV (_,_,_) _ (aM.new na) bc)
  have hV:∀{y:ag},0<y->∀{lm:bf}{aq e2:aW}{x:ag},ck aj n aJ lm aq (.i x)->ck aj n aJ lm e2 (.i y)->ck aj n aJ lm (.o .m aq e2) (.i (x%y)):=λh U U U U a b=>.B a b λU q=>.mod h q
  refine c7 .i (hW (v:=.b (decide (r.1∈([4,9]:af ag)))) (.q (.p aa) (.p aa) (sD [4,9])) aa (λz=>c7 (hV d9 (.p aa) (.p aa)) (jb _ ?_)) λz=>eR (z:=aA r.1 8) (.p aa) (λy=>c7 (.T (.c (hV d9 (.p aa) (.p aa)) (.c (hV (fh.mpr dT) (.fd (.p aa) ai) (.p aa)) .N)) qm) (jb _ ?_)) λy=>jb _ ?_)
  all_goals
   unfold ij
   rw[z]
  ·rfl
  ·rw[y];rfl
  ·rw[y];rfl
def fg(i:eo):af ag:=aG (aA i.op 69) (i.arg.yN.elim [] λl=>(intsOf l).getD []) (aG (aA i.op 221||aA i.op 57) (i.arg.n0.elim [] λg=>[g]) [])
def hx(x:Cl):af ag:=[x.t0,x.t1,x.h0,x.h1]++aG (aA x.s 1) [x.x] []
def y2(code:af eo)(cs:af Cl):af ag:=code.flatMap fg++cs.flatMap hx
structure pU(N:ae)(i:eo):Prop where
 sw:i.op=69->∃l,i.arg=.t (aL l)/\fg i=l
 LH:i.op=221\/i.op=57->∃g,i.arg=.i g/\fg i=[g]
 op:cw It i.op=ab (.i (aG (aA i.op 69) 6 (aG (aA i.op 221||aA i.op 57) 5 (aG (aA i.op 65033) 3 0))))
 r:∀g∈fg i,0<=g/\g<=N
 l:(fg i).length<=2
theorem aZ9{i:eo}(B:g0 σ)(I:pU N i):eA (W (n+2)) σ 24 [i.v] (.t (aL (fg i))):=λQ E q=>by
 by_cases z:i.op=69
 ·refine b5 (I.sw z) λl oZ kX=> ?_
  rw[kX]at q
  exact bD aa rfl (gV (.p aa) (cD z) (bP (.bC (.p aa) .i (fG (f5 (k:=1) (aU ab oZ)))) q))
 ·have WH:eA (W (n+1)) σ 23 [.i i.op] (.b (aA i.op 221||aA i.op 57)):=λU U q=>by
   have o:=I.op
   rw[show aA i.op 69=av from de z]at o
   refine bD aa rfl (bP (.g6 (x:=aG (aA i.op 221||aA i.op 57) 5 (aG (aA i.op 65033) 3 0)) (y:=5) (.own .c B.c aa (.p aa) λU q=>.Gg aa rfl (aD o q)) .c) ?_)
   cases h:(aA i.op 221||aA i.op 57)<;>rw[h]at q
   ·cases aA i.op 65033<;>exact q
   ·exact q
  refine bD aa rfl (dV (.p aa) (de z) (eR (.K (.p aa) WH) (λy=> ?_) λy=> ?_))
  ·refine b5 (I.LH ((zI y).imp c4 c4)) λg oZ kX=> ?_
   rw[kX]at q
   exact bP (.T (.c (.bC (.p aa) .i (fG (f5 (k:=1) (aU ab oZ)))) .N) ob) q
  ·rw[show fg i=[] by unfold fg;rw[show aA i.op 69=av from de z,y];rfl]at q
   exact bP (.p aa) q
structure kl(d:af (ag×V))(N:ae)(E:af ag):Prop where
 cx:(d.map (·.1)).Nodup
 m:∀k,k∈d.map (·.1)↔k∈E
 r:∀k∈E,0<=k/\k<=(N:ag)
theorem kl.len(h:kl d N E):d.length<=N+1:=by
 have w:=h.cx.length_le_of_subset (l₂:=(gB (N+1)).map λj=>((j:ae):ag)) λk az=>by
  have r:=h.r k ((h.m k).mp az)
  exact eS.mpr ⟨k.toNat,pN.mpr (by lia),ji r.1⟩
 rwa[cN,cN,mu]at w
theorem aw2:(dA d k v).map (·.1)=if k∈d.map (·.1)then d.map (·.1)else d.map (·.1)++[k]:=by
 unfold dA
 by_cases z:k∈d.map (·.1)
 ·rw[bk z,bk ((eS.mp z).elim λy w=>Ec.mpr ⟨y,w.1,cD w.2⟩),nJ]
  exact TL λy U=>by
                      show(if y.1=k then(y.1,v)else y).1=y.1;by_cases u:y.1=k
                      ·rw[bk u]
                      ·rw[bh u]
 ·rw[bh z,bh λh=>z ((Ec.mp h).elim λy w=>eS.mpr ⟨y,w.1,c4 w.2⟩),gA];rfl
theorem kl.put(h:kl d N E)(az:0<=k/\k<=(N:ag)):kl (dA d k v) N (E++[k]):=by
 refine⟨?_,λy=> ?_,λy aQ=>(gO.mp aQ).elim (h.r y) λe=>aD (dv.mp e) az⟩
 all_goals
  rw[aw2]
  by_cases z:k∈d.map (·.1)
  ·rw[bk z]
   first|exact h.cx|exact(h.m y).trans ⟨mv _,λu=>(gO.mp u).elim id λe=>aD (dv.mp e) ((h.m k).mp z)⟩
  ·rw[bh z]
   first|exact AQ.mpr ⟨h.cx,pO.mpr ⟨oB,.nil⟩,λa cg b bb e=>z (aR (dv.mp bb) (aR e cg))⟩|exact gO.trans ((or_congr_left (h.m y)).trans gO.symm)
theorem PL{m:ae}(ex:Ext σ0 σ)(na:σ0 a=aj)(a4:ck aj n σ lm e (.t (aL ls)))(h1:∀v,bf.get (lm.set m v) 1=ab (.r a))(aE:∀v:V,bf.get (lm.set m (ab v)) m=ab v)(hs:∀v w,(lm.set m v).set m w=lm.set m w)(h0:lm.set m (lm[m]?).join=lm)(o:σ a=ab ⟨t,.d d⟩)(aS:t≠0)(K:kl d N E)(dT:N<=100)(au:∀g∈ls,0<=g/\g<=(N:ag))
  (q:∀w ee ah,Ext σ0 ah->ah a=ab ⟨t,.d ee⟩->kl ee N (E++ls)->aH aj n r (lm.set m w) ah fe):aH aj n (.dw [m] .i [e] [.S (.l 1) (.l m) (.i 1)]::r) lm σ fe:=by
 refine iF (its:=ls) (gv:=.i) (λx=>[.i x]) (λw=>lm.set m w) (λl U ah=>∃ee bJ,bJ++l=ls/\Ext σ0 ah/\ah a=ab ⟨t,.d ee⟩/\kl ee N (E++bJ)) (lm[m]?).join aa (.c a4 .N) tc (λU=>aa) (λU U U U=>trivial) h0.symm ⟨d,[],aa,ex,o,(eX E).symm▸K⟩ (λw aJ i=> ?_) λx l w aJ mx i K' bV=> ?_
 ·refine qw i λee bJ gG aM c5 oM=> ?_
  rw[eX]at gG
  exact q w ee aJ aM c5 (aR gG oM)
 ·refine qw i λee bJ gG aM c5 oM=> ?_
  have i9:=oM.len
  refine qt aa .i (.L (by show bf.get ((lm.set m w).set m _) 1=_;rw[hs];exact h1 _)) (.L (by show bf.get ((lm.set m w).set m _) m=_;rw[hs]at|-;exact aE _)) c5 (pq (d7 i9 (d7 (pQ dT) ai))) aS ?_
  show K' ((lm.set m w).set m (ab (.i x))) _
  rw[hs]
  exact bV _ _ ⟨_,bJ++[x],(fy bJ [x] l).trans gG,aM.new na,bc,aR (fy E bJ [x]) (oM.put (au x mx))⟩
end
section
variable{σ ah σ0:H}{n t a bC:ae}{code:af eo}{cs:af Cl}{k x y:ag}{p:ae}{lm:bf}{r:af St}{fe:cT}{Q:bQ}{X:bR}{d lG:af (ag×V)}{E l ls:af ag}{e aq e2:aW}{v:V}{cZ ac al:ae}
theorem kl.same(h:kl d bC E)(e:E=ls):kl d bC ls:=aR e h
theorem Mh{most:ag}(B:g0 σ)(b3:σ cZ=ab ⟨1,.i 4 [(14,.t []),(15,.i most),(4,.r ac),(16,.r al)]⟩)(az:σ ac=ab ⟨1,.l (code.map eo.v)⟩)(aK:σ al=ab ⟨1,.l (cs.map Cl.v)⟩)(I:∀i∈code,pU bC i)(au:∀x∈cs,∀g∈hx x,0<=g/\g<=(bC:ag))(dT:bC<=100)
  (q:∀a d ah,Ext σ ah->ah a=ab ⟨1,.d d⟩->kl d bC (y2 code cs)->Q (.r a) ah):W (n+3) 82 [.r cZ] σ Q X:=by
 refine bD aa rfl (kg 1 ai (N.D (d:=.d []) aa .N aa) λa na=> ?_)
 have x0:Ext σ (aC σ a ⟨1,.d []⟩):=Ext.rfl.new na
 refine iF (its:=code) (gv:=eo.v) (λi=>[i.v]) (λb:aw V×aw V=>[ab (.r cZ),ab (.r a),b.1,b.2,aj,aj,aj,aj,aj,aj,aj]) (λl U ah=>∃d bJ,bJ++l=code/\Ext σ ah/\ah a=ab ⟨1,.d d⟩/\kl d bC (bJ.flatMap fg)) (aj,aj) aa (.v (x0 _ _ b3) aa rfl) (kF (x0 _ _ az)) (λU=>aa) (λU U U i=>i.elim λd i=>i.elim λbJ i=>⟨_,i.2.1 _ _ az⟩) aa
  ⟨[],[],aa,x0,bc,⟨.nil,λk=>⟨λh=>(nomatch h),λh=>(nomatch h)⟩,h9 _⟩⟩ (λb aJ i=> ?_) λc l b aJ pa i K bV=> ?_
 ·refine qw i λd bJ gG aM di Fp=> ?_
  rw[eX]at gG
  subst gG
  refine iF (its:=cs) (gv:=Cl.v) (λc=>[.i c.s,.i c.t0,.i c.t1,.i c.h0,.i c.h1,.i c.x]) (λu:aw V×aw V×aw V×aw V×aw V×aw V×aw V=>[ab (.r cZ),ab (.r a),b.1,b.2,u.1,u.2.1,u.2.2.1,u.2.2.2.1,u.2.2.2.2.1,u.2.2.2.2.2.1,u.2.2.2.2.2.2]) (λl U ah=>∃d ie,ie++l=cs/\Ext σ ah/\ah a=ab ⟨1,.d d⟩/\kl d bC (bJ.flatMap fg++ie.flatMap hx)) (aj,aj,aj,aj,aj,aj,aj) aa (.v (aM _ _ b3) aa rfl) (kF (aM _ _ aK)) (λU=>aa) (λU U U i=>i.elim λd i=>i.elim λie i=>⟨_,i.2.1 _ _ aK⟩) aa
   ⟨d,[],aa,aM,di,Fp.same (eX _).symm⟩ (λu a3 i=> ?_) λc l u a3 pa i K bV=> ?_
  ·refine qw i λlG ie em bl Hp Fq=> ?_
   rw[eX]at em
   subst em
   exact bP (.p aa) (q a lG a3 bl Hp Fq)
  ·refine qw i λlG ie em bl Hp Fq=> ?_
   have hc':=au c pa
   unfold hx at hc'
   refine PL (n:=n+2) (ls:=[c.t0,c.t1,c.h0,c.h1]) bl na (.p aa) (λU=>aa) (λU=>aa) (λU U=>aa) aa Hp ai Fq dT (λg cE=>hc' g (mv _ cE)) λw q8 bM bH Cm y0=>eR (z:=aA c.s 1) (.p aa) (λz=> ?_) λz=>bV (_,_,_,_,_,_,_) bM ⟨q8,ie++[c],(fy ie [c] l).trans em,bH,Cm,y0.same ?_⟩
   ·have i9:=y0.len
    refine qt aa .i (.p aa) (.p aa) Cm (pq (d7 i9 (d7 (pQ dT) ai))) ai (bV (_,_,_,_,_,_,_) _ ⟨_,ie++[c],(fy ie [c] l).trans em,bH.new na,bc,(y0.put (v:=.i 1) (hc' c.x (lW _ (by rw[show aA c.s 1=ak from z];exact dI)))).same ?_⟩)
    rw[wj,show[c].flatMap hx=hx c from eX _,hx,show aA c.s 1=ak from z]
    show _++[c.t0,c.t1,c.h0,c.h1]++[c.x]=_
    rw[fy,fy];rfl
   ·rw[wj,show[c].flatMap hx=hx c from eX _,hx,show aA c.s 1=av from z]
    rw[fy];rfl
 ·refine qw i λd bJ gG aM di Fp=> ?_
  have wF:=I c pa
  refine PL (n:=n+2) (ls:=fg c) aM na (.K (.p aa) (aZ9 (n:=n) (B.fr (S:=du) aM.fr aa) wF)) (λU=>aa) (λU=>aa) (λU U=>aa) aa di ai Fp dT wF.r λw q8 bM bH Cm y0=>bV (_,_) bM ⟨q8,bJ++[c],(fy bJ [c] l).trans gG,bH,Cm,y0.same ?_⟩
  rw[wj,show[c].flatMap fg=fg c from eX _]
def upTo(bC:ae)(E:af ag):af ag:=((gB (bC+1)).map λj=>((j:ae):ag)).filter λx=>decide (x∈E)
theorem Q8:(upTo bC E).Pairwise (·<·):=(Kh.mpr (List.pairwise_lt_range.imp λh=>fh.mpr h)).filter _
theorem kl.sort(h:kl d bC E):sortI (d.map (·.1))=upTo bC E:=by
 refine(C9 OY ?_ (Q8.imp λh=>cD (hJ h))).symm
 refine bj8 ((List.perm_ext_iff_of_nodup h.cx (Q8.imp λh=>J3 h)).mpr λk=>(h.m k).trans ⟨λm=>rP.mpr ⟨?_,cD m⟩,λm=>c4 (rP.mp m).2⟩)
 have r:=h.r k m
 exact eS.mpr ⟨k.toNat,pN.mpr (by lia),ji r.1⟩
theorem M.sorted{F:cy}(t:ae){u:ae}(aS:t≠0)(h:R F .none σ lm e (.r p))(o:σ p=ab ⟨u,.d d⟩)(k:kl d bC E)(sy:bC<63):M F .none σ lm (.B .s [e]) t (.l (aL (upTo bC E))):=λU U q=>
 ⟨aa,h _ _ (.aW1 o (d7 k.len (Ez sy)) (aD k.sort λa na=>⟨t,aS,q a _ (Ext.rfl.new na) bc⟩))⟩
theorem C1{F:cy}{hd:aw ae}{lQ:ae}(h1:M F hd σ lm aq t (.l (aL l)))(h2:∀ah,Ext σ ah->M F hd ah lm e2 lQ (.l (aL l))):gb F hd σ lm (.p .n aq e2) (.b av):=λU U q=>
 h1 _ _ λa aJ aM di=>h2 aJ aM _ _ λb a3 bl b3=>⟨av,aU (oE (!·)) ((IS (bl _ _ di) b3).trans (aU ab (cD rfl))),q _ (aM.ay bl)⟩
theorem Ii{hd:aw ae}{u m:ae}{l l':af V}(h:ck hd n σ lm aq (.r p))(o:σ p=ab ⟨u,.l l⟩)(h2:ub hd n σ lm e2 (.l l'))(ax:(l++l').length<=bN)(q:∀a ah,Ext σ ah->σ a=aj->ah a=ab ⟨1,.l (l++l')⟩->aH hd n r (lm.set m (ab (.r a))) ah fe):aH hd n (.a m (.o .a aq e2)::r) lm σ fe:=
 h _ _ (h2 _ _ λb nb=>⟨1,ai,.cat (fO nb o) bc ⟨ax,λa na=>⟨1,ai,q a _ ((Ext.rfl.new nb).ay (Ext.rfl.new na)) ((Ext.rfl.new nb).free na) bc⟩⟩⟩)
theorem ax8(az:σ ac=ab ⟨1,.l (code.map eo.v)⟩)(aK:σ al=ab ⟨1,.l (cs.map Cl.v)⟩)(I:∀i∈code,pU bC i)(a6:code.length=bC)(sy:bC<=60)(hs:cs.length<=60)(q:∀a ah,Ext σ ah->ah a=ab ⟨1,.l (aL (upTo bC (y2 code cs)))⟩->Q (.r a) ah):W (n+1) 106 [.r ac,.r al] σ Q X:=by
 have bd:∀{x:ae},x<=1000->x<=bN:=λh=>aX h ai
 refine bD aa rfl (kg 1 ai (.L .N hC) λa na=> ?_)
 have x0:Ext σ (aC σ a ⟨1,.l []⟩):=Ext.rfl.new na
 refine iF (its:=code) (gv:=eo.v) (λi=>[.i i.op,i.arg]) (λb:ae×aw V×aw V=>[ab (.r ac),ab (.r al),ab (.r b.1),b.2.1,b.2.2,aj,aj,aj,aj,aj,aj]) (λl b ah=>∃bJ,bJ++l=code/\Ext σ ah/\σ b.1=aj/\ah b.1=ab ⟨1,.l (aL (bJ.flatMap fg))⟩/\(bJ.flatMap fg).length+2*l.length<=120) (a,aj,aj) aa (.p aa) (kF (x0 _ _ az)) (λU=>aa) (λU U U i=>i.elim λbJ i=>⟨_,i.2.1 _ _ az⟩) aa
  ⟨[],aa,x0,na,bc,by rw[a6];exact aX (eK (iA _)) (Nat.mul_le_mul_left 2 sy)⟩ (λb aJ i=> ?_) λc l b aJ pa i K bV=> ?_
 ·refine tn i λbJ gG aM nb b3 ax=> ?_
  rw[eX]at gG
  subst gG
  refine iF (its:=cs) (gv:=Cl.v) (λc=>[.i c.s,.i c.t0,.i c.t1,.i c.h0,.i c.h1,.i c.x]) (λu:ae×aw V×aw V×aw V×aw V×aw V×aw V=>[ab (.r ac),ab (.r al),ab (.r u.1),b.2.1,b.2.2,u.2.1,u.2.2.1,u.2.2.2.1,u.2.2.2.2.1,u.2.2.2.2.2.1,u.2.2.2.2.2.2]) (λl b ah=>∃ie,ie++l=cs/\Ext σ ah/\σ b.1=aj/\ah b.1=ab ⟨1,.l (aL (bJ.flatMap fg++ie.flatMap hx))⟩/\(bJ.flatMap fg++ie.flatMap hx).length+5*l.length<=420) (b.1,aj,aj,aj,aj,aj,aj) aa (.p aa) (kF (aM _ _ aK)) (λU=>aa) (λU U U i=>i.elim λie i=>⟨_,i.2.1 _ _ aK⟩) aa
   ⟨[],aa,aM,nb,(eX (bJ.flatMap fg)).symm▸b3,by rw[Tx,eX];rw[El]at ax;lia⟩ (λu a3 i=> ?_) λc l u a3 pa i K bV=> ?_
  ·refine tn i λie em bl nu pj ax=> ?_
   rw[eX]at em
   subst em
   refine(M.comp (t:=1) (e:=.l 0) (its:=gB (bJ.length+1)) (free:=[2]) (λj=>decide ((j:ag)∈y2 bJ ie)) (λj=>.i (j:ae)) (λj=>[.i (j:ae)]) ai aa (.c (.B (z:=.i (bJ.length+1:ae)) (.bi aa (.p aa) (cN (as:=bJ) eo.v▸jz (bl _ _ az))) .i λU q=>.add q) .N) (tb (by lia)) (λU U=>trivial) (λU=>aa) (by rw[mu];lia) λj cp ah hn=>⟨R.up (.q (.p aa) (.p aa) ((sE (hn _ _ pj)).trans (Aj _))),λU=>.p aa⟩:M _ _ _ _ _ _ _) _ _ λc bM bH xo=>q c bM (bl.ay bH) (xo.trans ?_)
   refine aU (λl=>ab (O.mk 1 (.l l))) ?_
   unfold upTo
   rw[a6,List.filter_map,aL,nJ];rfl
  ·refine tn i λie em bl nu pj ax=> ?_
   rw[jI]at ax
   have lk:∀{m:ae},m<=1000->m<bN:=λh=>d7 h ai
   refine Ii (.p aa) pj (.L (l:=aL [c.t0,c.t1,c.h0,c.h1]) (.p aa) (show 4<=bN by decide)) (by rw[cK,gI,gI];exact jk (lk (by show _+4<=_;lia))) λcL bM bH vv pe=> ?_
   have G3:(aL (bJ.flatMap fg++ie.flatMap hx)++aL [c.t0,c.t1,c.h0,c.h1]).length=(bJ.flatMap fg++ie.flatMap hx).length+4:=by rw[cK,gI,gI];rfl
   have e5:∀{s},s=(bJ.flatMap fg++ie.flatMap hx)++hx c->bJ.flatMap fg++(ie++[c]).flatMap hx=s:=λh=>by rw[h,wj,show[c].flatMap hx=hx c from eX _,fy]
   refine eR (z:=aA c.s 1) (.p aa) (λz=>fw (.p aa) (.p aa) pe ai (lk (by rw[G3];lia)) (bV (cL,_,_,_,_,_,_) _ ⟨ie++[c],(fy ie [c] l).trans em,(bl.ay bH).new (bl.free vv),bl.free vv,bc.trans ?_,?_⟩)) λz=>bV (cL,_,_,_,_,_,_) bM ⟨ie++[c],(fy ie [c] l).trans em,bl.ay bH,bl.free vv,pe.trans ?_,?_⟩
   ·rw[e5 aa,hx,show aA c.s 1=ak from z]
    refine aU (λl=>ab (O.mk 1 (.l l))) ?_
    unfold aL
    rw[gA (l₂:=_++_),gA (l₂:=aG ak _ _),←fy];rfl
   ·rw[e5 aa,hx,show aA c.s 1=ak from z,cK]
    show _+5+_<=_
    lia
   ·rw[e5 aa,hx,show aA c.s 1=av from z]
    refine aU (λl=>ab (O.mk 1 (.l l))) ?_
    unfold aL
    rw[gA (l₂:=_++_)];rfl
   ·rw[e5 aa,hx,show aA c.s 1=av from z,cK]
    show _+4+_<=_
    lia
 ·refine tn i λbJ gG aM nb b3 ax=> ?_
  rw[jI]at ax
  have wF:=I c pa
  have dd:=wF.l
  have lk:∀{m:ae},m<=1000->m<bN:=λh=>d7 h ai
  have e5:(bJ++[c]).flatMap fg=bJ.flatMap fg++fg c:=by rw[wj,show[c].flatMap fg=fg c from eX _]
  have Od:(bJ.flatMap fg++fg c).length+2*l.length<=120:=by rw[cK];lia
  have ap:aL (bJ.flatMap fg++fg c)=aL (bJ.flatMap fg)++aL (fg c):=gA
  refine hW (z:=aA c.op 69) (.p aa) aa (λz=> ?_) λz=>hW (.q (.p aa) (.p aa) (sD [221,57])) aa (λy=> ?_) λy=>bV (b.1,ab (.i c.op),ab c.arg) aJ ⟨bJ++[c],(fy bJ [c] l).trans gG,aM,nb,?_⟩
  ·refine b5 (wF.sw (c4 z)) λl' oZ kX=> ?_
   have pe:=b3
   rw[oZ]
   refine Ii (.p aa) b3 (N.B aa (.p aa) (zB aa)) (by rw[cK,gI,gI,←kX];exact jk (lk (by lia))) λcL bM bH vv pe=>bV (cL,_,_) bM ⟨bJ++[c],(fy bJ [c] l).trans gG,aM.ay bH,aM.free vv,?_⟩
   rw[e5]
   exact⟨ap▸kX.symm▸pe,Od⟩
  ·have aQ:c.op=221\/c.op=57:=(fS.mp (c4 y)).imp id dv.mp
   refine b5 (wF.LH aQ) λg oZ kX=> ?_
   rw[oZ]
   refine fw (.p aa) (.p aa) b3 ai (lk (by rw[gI];lia)) (bV (b.1,ab (.i c.op),ab (.i g)) _ ⟨bJ++[c],(fy bJ [c] l).trans gG,aM.new nb,nb,?_⟩)
   rw[e5]
   exact⟨bc.trans (by rw[ap,kX];rfl),Od⟩
  ·have fj:fg c=[]:=by
    unfold fg
    have h2:(aA c.op 221||aA c.op 57)=av:=mn.mpr λh=>hy y ((zI h).elim (λh=>fS.mpr (.inl (c4 h))) λh=>iL _ (dv.mpr (c4 h)))
    rw[show aA c.op 69=av from z,h2];rfl
   rw[e5,fj,eX]
   exact⟨b3,by lia⟩
end
section
variable{σ ah σ0:H}{n t a:ae}{lm:bf}{r:af St}{fe:cT}{Q:bQ}{X:bR}
theorem PG(m:ae):(d3 m).rs.length=m/\(d3 m).ef.length=m/\(d3 m).ds.length=m/\(d3 m).ws.length=m/\(d3 m).os.length=m:=⟨(cN _).trans mu,(cN _).trans mu,wm,wm,wm⟩
theorem aL8{m:ae}(h:m<16):(d3 m).rs++[(1,(m:ag),aj)]=(d3 (m+1)).rs/\dA (d3 m).ef (1,(m:ag),aj) (.i m)=(d3 (m+1)).ef/\(d3 m).ds++[1]=(d3 (m+1)).ds/\(d3 m).ws++[1]=(d3 (m+1)).ws/\(d3 m).os++[0]=(d3 (m+1)).os:=by
 have w:∀m:Fin 16,(d3 m.1).rs++[(1,(m.1:ag),aj)]=(d3 (m.1+1)).rs/\dA (d3 m.1).ef (1,(m.1:ag),aj) (.i m.1)=(d3 (m.1+1)).ef/\(d3 m.1).ds++[1]=(d3 (m.1+1)).ds/\(d3 m.1).ws++[1]=(d3 (m.1+1)).ws/\(d3 m.1).os++[0]=(d3 (m.1+1)).os:=λ⟨m,h⟩=>by
  rcases m with _|_|_|_|_|_|_|_|_|_|_|_|_|_|_|_|m
  all_goals first|exact⟨aa,aa,aa,aa,aa⟩|exact aV h (by lia)
 exact w ⟨m,h⟩
structure A7(σ0:H)(A:r1)(m:ae)(σ:H):Prop where
 x:Ext σ0 σ
 d9:σ0 A.r=aj
 e4:σ0 A.ef=aj
 k3:σ0 A.d=aj
 kf:σ0 A.w=aj
 zD:σ0 A.o=aj
 h0:σ A.kt=ab ⟨1,.i 3 [(6,.r A.r),(7,.r A.ef),(8,.r A.d),(9,.r A.w),(10,.r A.o)]⟩
 h1:σ A.r=ab ⟨11,.l ((d3 m).rs.map dr.v)⟩
 h2:σ A.ef=ab ⟨12,.t (d3 m).ef⟩
 h3:σ A.d=ab ⟨13,.l (aL (d3 m).ds)⟩
 cQ:σ A.w=ab ⟨14,.l (aL (d3 m).ws)⟩
 gT:σ A.o=ab ⟨15,.l (aL (d3 m).os)⟩
theorem ax0{A:r1}{m:ae}{b1:aw V}{K:cT}(h:A7 σ0 A m σ)(hm:m<16)(q:∀ah b,A7 σ0 A (m+1) ah->K.n [ab (.r A.kt),ab (.i m),b] ah):
  aH aj n [.a 2 (.t [.c (.i 1),.l 1]),.e (.m (.a (.l 0) 6) 0 [.l 2]),.S (.a (.l 0) 7) (.l 2) (.l 1),.e (.m (.a (.l 0) 8) 0 [.i 1]),.e (.m (.a (.l 0) 9) 0 [.i 1]),.e (.m (.a (.l 0) 10) 0 [.i 0])] [ab (.r A.kt),ab (.i m),b1] σ K:=by
 have L:=PG m
 have S:=aL8 hm
 have len:∀{l:af V},l.length=m->l.length<bN:=λe=>aD e (fT hm ai)
 have f1:Fr (b' 11 11) σ (aC σ A.r ⟨11,.l ((d3 m).rs.map dr.v++[.t [.i 1,.i m]])⟩):=Fr.upd Fr.rfl h.h1 aa
 have a1:aC σ A.r ⟨11,.l ((d3 m).rs.map dr.v++[.t [.i 1,.i m]])⟩ A.r=_:=bc
 have aM:=h.x.new (o:=⟨11,.l ((d3 m).rs.map dr.v++[.t [.i 1,.i m]])⟩) h.d9
 refine c7 (.p aa) (fw (.v h.h0 aa rfl) (.p aa) h.h1 ai (len ((cN _).trans L.1)) ?_)
 generalize aC σ A.r _=aJ at*
 have h2:=f1 _ _ h.h2 aa
 have f2:Fr (b' 12 12) aJ (aC aJ A.ef ⟨12,.t (dA (d3 m).ef (1,(m:ag),aj) (.i m))⟩):=Fr.upd Fr.rfl h2 aa
 have a2:aC aJ A.ef ⟨12,.t (dA (d3 m).ef (1,(m:ag),aj) (.i m))⟩ A.ef=_:=bc
 have bl:=aM.new (o:=⟨12,.t (dA (d3 m).ef (1,(m:ag),aj) (.i m))⟩) h.e4
 refine⟨aa,(R.p (F:=W n) (hd:=aj) (e:=.l 1) aa).ev (R.ev (.v (f1 _ _ h.h0 aa) aa rfl) ((R.p aa).ev (.row (r:=(1,(m:ag),aj)) h2 (fT (L.2.1.symm▸hm) (show 16<=bN by decide)) ai ?_)))⟩
 show aH aj n _ _ (aC aJ A.ef ⟨12,.t (dA (d3 m).ef (1,(m:ag),aj) (.i m))⟩) _
 generalize aC aJ A.ef _=a3 at*
 have h3:=f2 _ _ (f1 _ _ h.h3 aa) aa
 have cz:Fr (b' 13 13) a3 (aC a3 A.d ⟨13,.l (aL (d3 m).ds++[.i 1])⟩):=Fr.upd Fr.rfl h3 aa
 have fB:aC a3 A.d ⟨13,.l (aL (d3 m).ds++[.i 1])⟩ A.d=_:=bc
 have bH:=bl.new (o:=⟨13,.l (aL (d3 m).ds++[.i 1])⟩) h.k3
 refine fw (.v (f2 _ _ (f1 _ _ h.h0 aa) aa) aa rfl) .i h3 ai (len (gI.trans L.2.2.1)) ?_
 generalize aC a3 A.d _=bM at*
 have cQ:=cz _ _ (f2 _ _ (f1 _ _ h.cQ aa) aa) aa
 have f4:Fr (b' 14 14) bM (aC bM A.w ⟨14,.l (aL (d3 m).ws++[.i 1])⟩):=Fr.upd Fr.rfl cQ aa
 have jo:aC bM A.w ⟨14,.l (aL (d3 m).ws++[.i 1])⟩ A.w=_:=bc
 have x4:=bH.new (o:=⟨14,.l (aL (d3 m).ws++[.i 1])⟩) h.kf
 refine fw (.v (cz _ _ (f2 _ _ (f1 _ _ h.h0 aa) aa) aa) aa rfl) .i cQ ai (len (gI.trans L.2.2.2.1)) ?_
 generalize aC bM A.w _=cC at*
 have h0:=f4 _ _ (cz _ _ (f2 _ _ (f1 _ _ h.h0 aa) aa) aa) aa
 have gT:=f4 _ _ (cz _ _ (f2 _ _ (f1 _ _ h.gT aa) aa) aa) aa
 have e7:Fr (b' 15 15) cC (aC cC A.o ⟨15,.l (aL (d3 m).os++[.i 0])⟩):=Fr.upd Fr.rfl gT aa
 refine fw (.v h0 aa rfl) .i gT ai (len (gI.trans L.2.2.2.2)) (q _ _ ⟨x4.new h.zD,h.d9,h.e4,h.k3,h.kf,h.zD,e7 _ _ h0 aa,?_,?_,?_,?_,?_⟩)
 ·rw[←S.1,gA];exact e7 _ _ (f4 _ _ (cz _ _ (f2 _ _ a1 aa) aa) aa) aa
 ·rw[←S.2.1];exact e7 _ _ (f4 _ _ (cz _ _ a2 aa) aa) aa
 ·rw[←S.2.2.1,n'];exact e7 _ _ (f4 _ _ fB aa) aa
 ·rw[←S.2.2.2.1,n'];exact e7 _ _ jo aa
 ·rw[←S.2.2.2.2,n'];exact bc
def nW(p:ae)(σ ah:H):Prop:=∀b o,σ b=ab o->b≠p->ah b=ab o
theorem nW.ay{p:ae}{hp:H}(a:nW p σ ah)(b:nW p ah hp):nW p σ hp:=λc o h ne=>b c o (a c o h ne) ne
theorem nW.ext{p:ae}(x:Ext σ0 σ)(n:σ0 p=aj)(a:nW p σ ah):Ext σ0 ah:=λb o h=>a b o (x b o h) (k4 h n)
theorem s_atN{hd:aw ae}{p f C j:ae}{fs:af (ae×V)}{e2:aW}{d:dN}(u:ae)(dm:u≠0)(h:ub hd n σ lm e2 d)(g:lm.get j=ab (.r p))(cg:σ p=ab ⟨t,.i C fs⟩)(aS:t≠0)(ax:fs.length<bN)(bu:(aZ C).any (·.i8.contains f)=ak)
  (q:∀a ah,σ a=aj->nW p σ ah->ah p=ab ⟨t,.i C (hS fs f (.r a))⟩->ah a=ab ⟨u,d⟩->a≠p->aH hd n r lm ah fe):aH hd n (.A (.l j) f e2::r) lm σ fe:=
 aR6 u dm h (λU U=>.L g) cg aS ax bu λa na=>
  have ne:a≠p:=λe=>nomatch (e▸na).symm.trans cg
  q a _ na (λb o bb nb=>(iu nb).trans (fO na bb)) bc ((iu ne).trans bc) ne
theorem Qc{hd:aw ae}{p f C j:ae}{fs:af (ae×V)}{e2:aW}{v:V}(h:ck hd n σ lm e2 v)(g:lm.get j=ab (.r p))(cg:σ p=ab ⟨t,.i C fs⟩)(aS:t≠0)(ax:fs.length<bN)(bu:(aZ C).any (·.i8.contains f)=ak)
  (q:∀ah,nW p σ ah->ah p=ab ⟨t,.i C (hS fs f v)⟩->aH hd n r lm ah fe):aH hd n (.A (.l j) f e2::r) lm σ fe:=om h (.L g) cg aS ax bu (q _ (λb o bb nb=>(iu nb).trans bb) bc)
theorem aw9{hd:aw ae}(z:hd=aj)(q:∀A ah,Ext σ ah->KT ah A (d3 16)->Q (.r A.kt) ah):vE aZ (dQ aZ PP hd (n+1)) hd lm (.w 3 []) σ Q X:=by
 subst z
 refine y4 (t:=1) .N aa rfl (eL _) ai λa na=> ?_
 have x0:Ext σ (aC σ a ⟨1,.i 3 []⟩):=Ext.rfl.new na
 have o0:aC σ a ⟨1,.i 3 []⟩ a=_:=bc
 show dQ aZ PP aj (n+1) 1 [.r a] (aC σ a ⟨1,.i 3 []⟩) _ _
 generalize aC σ a ⟨1,.i 3 []⟩=σ0 at*
 refine bD (D:=My) aa rfl (s_atN 11 ai (.L .N hC) aa o0 ai (e3 aa) aa λa1 aJ d9 gK c5 b1 aq=>s_atN 12 ai (N.D (d:=.t []) aa .N aa) aa c5 ai (e3 aa) aa λa2 a3 e4 gU cX b2 e2=>s_atN 13 ai (.L .N hC) aa cX ai (e3 aa) aa λfB bM k3 nA o3 kp bF=>
  s_atN 14 ai (.L .N hC) aa o3 ai (e3 aa) aa λjo cC kf jc jX yO eO=>s_atN 15 ai (.L .N hC) aa jX ai (e3 aa) aa λgQ σ5 zD pk jB q4 e5=> ?_)
 have aM:=gK.ext x0 na
 have bl:=gU.ext aM na
 have bH:=nA.ext bl na
 have x4:=jc.ext bH na
 have gZ:A7 σ ⟨a,a1,a2,fB,jo,gQ⟩ 0 σ5:=⟨pk.ext x4 na,x0.free d9,aM.free e4,bl.free k3,bH.free kf,x4.free zD,jB,pk _ _ (jc _ _ (nA _ _ (gU _ _ b1 aq) aq) aq) aq,pk _ _ (jc _ _ (nA _ _ b2 e2) e2) e2,pk _ _ (jc _ _ kp bF) bF,pk _ _ yO eO,q4⟩
 refine iF (its:=gB 16) (λj=>[.i (j:ae)]) (λb:aw V×aw V=>[ab (.r a),b.1,b.2]) (λl U ah=>∃m,m+l.length=16/\l=qy m l.length/\A7 σ ⟨a,a1,a2,fB,jo,gQ⟩ m ah) (aj,aj) aa (.p aa) (tb (m:=16) ai) (λU=>aa) (λU U U U=>trivial) aa ⟨0,aa,aa,gZ⟩ (λb h7 i=> ?_) λj l b h7 vt i K bV=> ?_
 ·refine fH i λm e U k=> ?_
  have L:=PG 16
  have e:m=16:=e
  subst e
  exact⟨aa,q _ h7 k.x ⟨k.h0,k.h1,k.h2,k.h3,k.cQ,k.gT,L.2.2.1.trans L.1.symm,L.2.2.2.1.trans L.1.symm,L.2.2.2.2.trans L.1.symm,L.1▸ai,L.2.1▸ai⟩⟩
 ·refine fH i λm e r k=> ?_
  rw[jI]at e r
  rw[RN]at r
  have w:=J7 r
  rw[w.1]
  exact ax0 k (by lia) λah b k'=>bV (ab (.i m),b) ah ⟨m+1,(qI ..).trans e,w.2,k'⟩
end
structure tX(σ:H)(cW cl:ae)(s:af ag)(j dd:ag):Prop where
 o:σ cW=ab ⟨9,.i 7 [(31,.r cl),(32,.i j),(33,.i dd)]⟩
 l:σ cl=ab ⟨10,.l (aL s)⟩
def V9(c:cO)(gv:eM)(A:eG)(ba:H->Prop)(cur:V)(i:ae)(T:ag×ag->Prop)(B:ae)(X:bR)(g:eY)(σ:H):Prop:=∀e ah bx f,Fr (b' 3 10) σ ah->eZ c A ba cur i bx ah->fU c g bx->bx.cU.length<=B->fb c gv bx (uf T f) aj->oG c gv bx (uf T f)->IsFlt ah e f i->X e ah
def nY(c:cO)(gv:eM)(A:eG)(ba:H->Prop)(cur:V)(i:ae)(T:ag×ag->Prop)(X:bR)(g:eY)(σ:H)(f:ag×ag):Prop:=∀e ah bx,Fr (b' 3 10) σ ah->eZ c A ba cur i bx ah->fU c g bx->bx.cU=g.cU->fb c gv bx T (ab i)->IsFlt ah e f i->X e ah
def uh(c:cO)(gv:eM)(A:eG)(ba:H->Prop)(cur:V)(i:ae)(T:ag×ag->Prop)(Q:bQ)(X:bR)(g:eY)(σ:H)(x:Out):Prop:=(∀f,x=(ab f,[])->nY c gv A ba cur i T X g σ f)/\
 (x.1=aj->∀ah bx,Fr (b' 3 10) σ ah->eZ c A ba cur i bx ah->fU c g bx->bx.cU=g.cU->fb c gv bx T (ab i)->(∀w∈x.2,f' bx w.1 w.2.1.length w.2.2)->Q .n ah)/\∀w∈x.2,Re c gv w.1.toNat w.2.1 w.2.2
section
variable{σ ah:H}{n cW cl i q:ae}{c:cO}{bp:aB}{gv:eM}{A:eG}{ba:H->Prop}{g bx:eY}{T:ag×ag->Prop}{Q:bQ}{X:bR}{S:ae->aB}{j dd at_:ag}{p:aw ae}{cur:V}{s:af ag}{d:af (ag×V)}{lv:aB}{k:cT}{lm:bf}{r:af St}{B:ae}{x:Out}{aq e2:aW}{go:ag}
theorem tX.fr(bC:tX σ cW cl s j dd)(f:Fr S σ ah)(qe:S 9=av)(o4:S 10=av):tX ah cW cl s j dd:=⟨f _ _ bC.o qe,f _ _ bC.l o4⟩
theorem ar5(h:lY c A g σ):lY c A {g with cU:=d} (aC σ A.ent ⟨7,.d d⟩):=
 have f:Fr (b' 7 7) σ (aC σ A.ent ⟨7,.d d⟩):=Fr.upd Fr.rfl h.ent aa
 ⟨h.cc.elim λao y=>⟨ao,f _ _ y.1 aa,y.2.1,λk=>(y.2.2 k).imp id λw=>w.elim λa w=>w.elim λx w=>⟨a,x,w.1,w.2.1,w.2.2.fr f aa⟩⟩,f _ _ h.h6 aa,h.iZ.elim λd y=>⟨d,f _ _ y.1 aa,y.2⟩,h.je.elim λd y=>⟨d,f _ _ y.1 aa,y.2⟩,bc,f _ _ h.told aa⟩
theorem an7(K:fW c bp gv A ba)(w:eZ c A ba (.r cW) i g σ)(bC:tX σ cW cl s j 0)(L:fb c gv g T (ab i))(N:oG c gv g T)(r:Re c gv i s j)(ax:g.cU.length<=30000)
  (bT:∀ah bx,Fr lB σ ah->eZ c A ba (.r cW) i bx ah->fU c g bx->bx.cU.length<=g.cU.length+60->fb c gv bx T (ab i)->oG c gv bx T->(∀y∈c.cs,y.t0<=i->(i:ag)<y.t1->jl c gv T\/pS c bx y j)->Q .n ah)(bE:V9 c gv A ba (.r cW) i T (g.cU.length+60) X g σ):W (n+10) 89 [.r A.v,.i i] σ Q X:=by
 have D:=K.js
 have dc:=D.dc
 have j2:j<2:=(k6 D r).2.1.elim (λe=>e▸ai) λe=>e.1▸ai
 refine bD aa rfl (c7 (.A (.v w.o aa rfl) (dS bC.o aa)) (iF (its:=c.cs.zipIdx) (λx=>[.i (x.2:ae),x.1.v]) (λb:aw V×aw V=>[ab (.r A.v),ab (.i i),ab (.i j),b.1,b.2])
  (λl U aJ=>∃g1,Fr lB σ aJ/\eZ c A ba (.r cW) i g1 aJ/\fU c g g1/\g1.cU.length+l.length<=g.cU.length+c.cs.length/\fb c gv g1 T (ab i)/\oG c gv g1 T/\∀y∈c.cs.zipIdx,y.1.t0<=i->(i:ag)<y.1.t1->y∈l\/jl c gv T\/pS c g1 y.1 j) (aj,aj) aa
  (.c (.A (.v w.o aa rfl) (dS (K.body w.C) aa)) .N) (QB (K.cls w.C)) (λU=>aa) (λU U U i=>i.elim λg1 i=>⟨_,K.cls i.2.1.C⟩) aa ⟨g,Fr.rfl,w,fU.rfl,by rw[rO];exact da _,L,N,λy aQ U U=>.inl aQ⟩ (λU aJ h=> ?_) λx l b aJ m h K' bV=> ?_))
 ·refine Rx h λg1 f dP aH l1 oN wK bJ=> ?_
  exact bT aJ g1 f dP aH (aX l1 (gC dc _)) oN wK λy aQ a b=>(tN.mp aQ).elim λk az=>(bJ (y,k) (tO.mpr az) a b).resolve_left nofun
 refine Rx h λg1 f dP aH l1 oN wK bJ=> ?_
 have aE:=oc m
 rw[jI]at l1
 have ev:∃e:ag,(cw g1.cU x.2).getD (.i 2)=.i e/\(¬ j<e->jl c gv T\/pS c g1 x.1 e):=by
  rcases e:cw g1.cU x.2 with _|v
  ·exact⟨2,aa,λu=>aV j2 u⟩
  ·exact(wK _ _ e).elim λfj u=>⟨fj,u.1,λU=>u.2.imp id λu=>u _ aE⟩
 refine b5 ev λe Fs he=> ?_
 refine eR (z:=decide (x.1.t0<=i)&&(decide ((i:ag)<x.1.t1)&&decide (j<e))) (.hN (.p aa) (.hN (.p aa) (.q (.p aa) (.u' (.v dP.o aa rfl) dP.h.ent (.p aa) .i Fs) aa))) (λz=> ?_) λz=> ?_
 ·have t0:=c4 (df z).1
  have t1:=c4 (df (df z).2).1
  refine qt aa (.p aa) (.v dP.o aa rfl) (.p aa) dP.h.ent (pq (d7 (aX (en _ _) l1) (by have sg:(bN:ae)=1000000:=aa;lia))) ai ?_
  have uE:Fr (b' 7 7) aJ (aC aJ A.ent ⟨7,.d (dA g1.cU x.2 (.i j))⟩):=Fr.upd Fr.rfl dP.h.ent aa
  have f2:=f.ay (fE uE aa rfl)
  have dY:eZ c A ba (.r cW) i {g1 with cU:=dA g1.cU x.2 (.i j)} (aC aJ A.ent ⟨7,.d (dA g1.cU x.2 (.i j))⟩):=⟨K.up (fE uE aa rfl) dP.C,uE _ _ dP.o aa,ar5 dP.h⟩
  generalize aC aJ A.ent _=a3 at*
  have al:=wU (d:=g1.cU) (k:=(x.2:ag)) (v:=.i j)
  have A5:∀{g3},fU c {g1 with cU:=dA g1.cU x.2 (.i j)} g3->fU c g g3:=λh=>aH.ay ⟨h.m,h.jQ,h.ch,h.ct,h.dd⟩
  refine d0 (.p aa) (Xk (n:=n) K dY (p:=ab i) (T:=T) oN.kX (List.mem_of_getElem? aE) r t0 t1 (λbM g3 cz gY mA bF L3 KJ=>bV (_,_) bM ⟨g3,f2.ay cz,gY,A5 mA,?_,L3,λk v a4=> ?_,λy aQ a b=> ?_⟩) λu bM g3 ih cz gY mA bF L3 hm hf=> ?_)
  ·rw[bF];show(dA ..).length+_<=_;lia
  ·rw[bF,q1]at a4
   by_cases z:(k:ag)=x.2
   ·rw[bk z]at a4
    refine⟨j,(cR a4).symm,.inr λhn BV=> ?_⟩
    rw[lx z,aE]at BV
    exact aR (cR BV) KJ
   ·rw[bh z]at a4
    exact(wK k v a4).elim λe u=>⟨e,u.1,u.2.imp id λu y aQ=>(u y aQ).up mA.jQ (pJ _)⟩
  ·refine(bJ y aQ a b).elim (λu=>(fS.mp u).elim (λu=>.inr (.inr (aD u KJ))) .inl) λu=>.inr (u.imp id λu=>u.up mA.jQ (pJ _))
  ·have E:jl c gv (uf T ih):=⟨ih,.inr aa,hm⟩
   refine bE u bM g3 ih (fE (f2.ay cz) aa rfl) gY (A5 mA) (by rw[bF];show(dA ..).length<=_;lia) (B6 L3 (λU U=>.inr (.inl E)) (λU=>.inl) λf(h:T f\/f=ih)=>h.elim .inl λh=>.inr (aD h (.inr hm))) (λk v a4=> ?_) hf
   rw[bF,q1]at a4
   by_cases z:(k:ag)=x.2
   ·rw[bk z]at a4;exact⟨j,(cR a4).symm,.inl E⟩
   ·rw[bh z]at a4;exact(wK k v a4).elim λe u=>⟨e,u.1,.inl E⟩
 ·refine bV (_,_) aJ ⟨g1,f,dP,aH,aX (gC (mw _) _) l1,oN,wK,λy aQ a b=>(bJ y aQ a b).elim (λu=>(fS.mp u).elim (λu=>.inr ?_) .inl) .inr⟩
  rw[u]at a b
  rw[u]
  have OO:¬ j<e:=λh=>nomatch z.symm.trans (yf.mpr ⟨cD a,yf.mpr ⟨cD b,cD h⟩⟩)
  exact(he OO).imp id λu=>u.up id (iy.mp OO)
end
section
variable{σ ah:H}{n cW cl i q:ae}{c:cO}{bp:aB}{gv:eM}{A:eG}{ba:H->Prop}{g bx:eY}{T:ag×ag->Prop}{Q:bQ}{X:bR}{S:ae->aB}{j dd at_:ag}{p:aw ae}{cur:V}{s:af ag}{lv:aB}{k:cT}{lm:bf}{r:af St}{x:Out}{aq e2:aW}{a2 fB jo gQ:aw V}{f:ag×ag}
theorem X5(K:fW c bp gv A ba)(w:eZ c A ba (.r cW) i g σ)(bC:tX σ cW cl s j dd)(L:fb c gv g T p)(ax:s.length<=1000)(r:fa c.cs c.code.length i q lv=0->(aG lv [] s≠[]->(q:ag)∉c.cs.map Cl.t0)->Re c gv q (aG lv [] s) j)
  (bT:fa c.cs c.code.length i q lv=0->(aG lv [] s≠[]->(q:ag)∉c.cs.map Cl.t0)->ud c gv A ba (.r cW) i T p (λbx=>f' bx q (aG lv [] s).length j) (Q .n) g σ)(bE:fa c.cs c.code.length i q lv≠0->∀e ah,Ext σ ah->oL ah e (fa c.cs c.code.length i q lv) i->X e ah)
  (d':fa c.cs c.code.length i q lv=0->(aG lv [] s≠[]/\(q:ag)∈c.cs.map Cl.t0)\/l2 c gv->∀e ah,Ext σ ah->oL ah e 3 q->X e ah):W (n+8) 55 [.r A.v,.i q,.i (vq lv)] σ Q X:=by
 rw[←ay4 K.js.d4 (mq q)]at*
 refine bD aa rfl (jt (.v w.o aa rfl) (K.ew w.C) aa rfl (.c (.A (.v w.o aa rfl) (dS (K.body w.C) aa)) (.v w.o aa rfl)) (aO5 (n:=n+3) (K.cls w.C) (K.code w.C) (aX K.js.dc ai) (K.ew w.C) _ _ λaJ aM=>eR (z:= !decide (z8 c.cs c.code.length i q lv=0)) (.p aa) (λz=> ?_) λz=> ?_))
 ·exact s8 (.inr aa) (.v (aM _ _ w.o) aa rfl) λe ne=>bE (λu=>by rw[cD u]at z;cases z) e _ (aM.ay (Ext.rfl.new ne)) ⟨_,bc⟩
 have z:=c4 (qo z)
 have dP:=w.ext K aM
 have E3:=bC.fr (S:=du) aM.fr aa rfl
 refine hW (.p aa) (G9 (lv:=lv)) (λh=>By (.p aa) (.p aa) (w4 (n:=n+6) (hd:=aj) 1 ai (N.up 1 ai (.L .N hC)) (λU x=>.c (.A (.v (x _ _ dP.o) aa rfl) (dS (x _ _ E3.o) aa)) (.c .i .N)) λa b a3 bl c5 cX=> ?_)) λh=>By (.p aa) (.p aa) (d0 (.v dP.o aa rfl) (L0 (n:=n+5) 1 1 ai ai E3.o E3.l ax λa b a3 bl c5 cX=> ?_))
 all_goals
  have x:=aM.ay bl
  rw[h]at z r bT d'
 ·exact F8 K (w.ext K x) L (x:=([],j)) (r z) ⟨b,c5,cX⟩ (λne=>(bT z ne).up x.fr fU.rfl aa) λF e bM bH=>d' z (F.imp id AD) e bM (x.ay bH)
 ·exact F8 K (w.ext K x) L (x:=(s,j)) (r z) ⟨b,c5,cX⟩ (λne=>(bT z ne).up x.fr fU.rfl aa) λF e bM bH=>d' z (F.imp id AD) e bM (x.ay bH)
structure ib(c:cO)(gv:eM)(A:eG)(ba:H->Prop)(cW cl:ae)(s:af ag)(j dd:ag)(T:ag×ag->Prop)(i:ae)(d8:eY)(σ0:H)(g:eY)(σ:H):Prop where
 w:eZ c A ba (.r cW) i g σ
 u:tX σ cW cl s j dd
 l:fb c gv g T (ab i)
 f:Fr (b' 3 10) σ0 σ
 sv:fU c d8 g
 e:g.cU=d8.cU
variable{d8:eY}{σ0:H}
theorem ib.ext(K:fW c bp gv A ba)(w:ib c gv A ba cW cl s j dd T i d8 σ0 g σ)(x:Ext σ ah):ib c gv A ba cW cl s j dd T i d8 σ0 g ah:=⟨w.w.ext K x,w.u.fr (S:=du) x.fr aa rfl,w.l,w.f.ay x.fr,w.sv,w.e⟩
theorem ib.stk{s':af ag}(K:fW c bp gv A ba)(w:ib c gv A ba cW cl s j dd T i d8 σ0 g σ):ib c gv A ba cW cl s' j dd T i d8 σ0 g (aC σ cl ⟨10,.l (aL s')⟩):=
 have f:Fr (b' 10 10) σ (aC σ cl ⟨10,.l (aL s')⟩):=Fr.upd Fr.rfl w.u.l aa
 ⟨⟨K.up (fE f aa rfl) w.w.C,f _ _ w.w.o aa,w.w.h.fr f aa⟩,⟨f _ _ w.u.o aa,bc⟩,w.l,w.f.ay (fE f aa rfl),w.sv,w.e⟩
theorem ib.tail{t:ag}(K:fW c bp gv A ba)(w:ib c gv A ba cW cl s j dd T i d8 σ0 g σ):ib c gv A ba cW cl s j t T i d8 σ0 g (aC σ cW ⟨9,.i 7 [(31,.r cl),(32,.i j),(33,.i t)]⟩):=
 have f:Fr (b' 9 9) σ (aC σ cW ⟨9,.i 7 [(31,.r cl),(32,.i j),(33,.i t)]⟩):=Fr.upd Fr.rfl w.u.o aa
 ⟨⟨K.up (fE f aa rfl) w.w.C,f _ _ w.w.o aa,w.w.h.fr f aa⟩,⟨bc,f _ _ w.u.l aa⟩,w.l,w.f.ay (fE f aa rfl),w.sv,w.e⟩
theorem ib.iC(K:fW c bp gv A ba)(w:ib c gv A ba cW cl s j dd T i d8 σ0 g σ)(Z:nY c gv A ba (.r cW) i T X d8 σ0 f)(x:Ext σ ah){e:ae}(h:oL ah e f.1 f.2):X e ah:=Z e ah g (w.f.ay x.fr) (w.w.ext K x) w.sv w.e w.l (.inl h)
theorem Mf(K:fW c bp gv A ba)(w:ib c gv A ba cW cl s j dd T i d8 σ0 g σ)(ax:s.length<=1000)(M:∀q:ae,l2 c gv->nY c gv A ba (.r cW) i T X d8 σ0 (3,q))(r:fa c.cs c.code.length i q lv=0->(aG lv [] s≠[]->(q:ag)∉c.cs.map Cl.t0)->Re c gv q (aG lv [] s) j)
  (bT:fa c.cs c.code.length i q lv=0->(aG lv [] s≠[]->(q:ag)∉c.cs.map Cl.t0)->∀bx ah,ib c gv A ba cW cl s j dd T i d8 σ0 bx ah->f' bx q (aG lv [] s).length j->Q .n ah)(bE:fa c.cs c.code.length i q lv≠0->nY c gv A ba (.r cW) i T X d8 σ0 (fa c.cs c.code.length i q lv,(i:ag)))
  (d':fa c.cs c.code.length i q lv=0->aG lv [] s≠[]->(q:ag)∈c.cs.map Cl.t0->nY c gv A ba (.r cW) i T X d8 σ0 (3,(q:ag))):W (n+8) 55 [.r A.v,.i q,.i (vq lv)] σ Q X:=
 X5 K w.w w.u w.l ax r (λz ne ah bx f dX aH e l C=>bT z ne bx ah ⟨dX,w.u.fr f aa rfl,l,w.f.ay (fE f aa rfl),w.sv.ay aH,e.trans w.e,⟩ C) (λz e ah x h=>w.iC K (bE z) x h) λz F e ah x h=>F.elim (λu=>w.iC K (d' z u.1 u.2) x h) λm=>w.iC K (M q m) x h
theorem FD(K:fW c bp gv A ba)(w:ib c gv A ba cW cl s j 0 T i d8 σ0 g σ)(hi:i<c.code.length)(ax:s.length<=1000)(M:∀q:ae,l2 c gv->nY c gv A ba (.r cW) i T X d8 σ0 (3,q))(Z:uh c gv A ba (.r cW) i T Q X d8 σ0 (hB c i s j)):
  aH aj (n+10) [.i (.a (.a (.l 0) 44) 33) [.mg] [],.i (.p .G (.o .a (.l 1) (.i 1)) (.B .l [.a (.a (.l 0) 35) 4])) [.e (.m (.l 0) 58 [.c (.i 7)])] [],.e (.m (.l 0) 56 [.o .a (.l 1) (.i 1)])] [ab (.r A.v),ab (.i i),a2,fB,jo,gQ] σ (fz Q X):=by
 have o:=w.w.o
 unfold hB at Z
 refine hW (z:=av) (.A (.v o aa rfl) (dS w.u.o aa)) aa nofun λU=>la (b:=aA (i+1) c.code.length) (uh c gv A ba (.r cW) i T Q X d8 σ0) (.q (.p aa) (.bi aa (.c (.A (.v o aa rfl) (dS (K.body w.w.C) aa)) .N) (jz (K.code w.w.C))) aa) (aU ab (decide_eq_decide.mpr ?_)) Z (λU Z=> ?_) λz Z=> ?_
 ·rw[cN];exact⟨λh=>AK (JY (fh.mpr hi)) h,λh=>nI h.symm⟩
 ·exact vL o (.p aa) .c λe ah x h=>w.iC K (Z.1 (7,(i:ag)) aa) x h
 ·have cU:∀{P:Prop},fa c.cs c.code.length i ((i+1:ae):ag) av=0->(s≠[]->((i+1:ae):ag)∉c.cs.map Cl.t0)->((!aA (fa c.cs c.code.length i (i+1) av) 0)=av->(!s.isEmpty&&decide ((i:ag)+1∈c.cs.map Cl.t0))=av->P)->P:=λz ne h=>h (by rw[show aA (fa c.cs c.code.length i (i+1) av) 0=ak from cD z];rfl) (by
   rcases e:s with _|⟨_,_⟩
   ·rfl
   ·exact de (ne (aD e nofun)))
  refine jt (.p aa) o aa rfl (.p aa) (bD aa rfl (d0 (.p aa) (Mf (n:=n+1) (q:=i+1) (lv:=av) K w ax M (λz ne=>cU z ne λa b=> ?_) (λz ne bx ah dX C=>cU z ne λa b=> ?_) (λz=> ?_) λz ne m=> ?_)))
  ·rw[a,b]at Z;exact Z.2.2 _ dI
  ·rw[a,b]at Z;exact Z.2.1 aa ah bx dX.f dX.w dX.sv dX.e dX.l λw hw=>aD (dv.mp hw) C
  ·rw[show aA (fa c.cs c.code.length i (i+1) av) 0=av from de z]at Z;exact Z.1 _ aa
  ·rw[show aA (fa c.cs c.code.length i (i+1) av) 0=ak from cD z,show(!s.isEmpty&&decide ((i:ag)+1∈c.cs.map Cl.t0))=ak from yf.mpr ⟨by
                                                                                                   rcases s with _|⟨_,_⟩
                                                                                                   ·exact aV rfl ne
                                                                                                   ·rfl,cD m⟩]at Z;exact Z.1 _ aa
end
section
variable{σ ah:H}{n cW cl i q:ae}{c:cO}{bp:aB}{gv:eM}{A:eG}{ba:H->Prop}{g bx:eY}{T:ag×ag->Prop}{Q:bQ}{X:bR}{j dd at_:ag}{cur:V}{s:af ag}{k:cT}{lm:bf}{r:af St}{x:Out}{a2 fB jo gQ:aw V}{d8:eY}{σ0:H}{ins:eo}{self arg:V}{mf:ae}
theorem Ys{F:cy}{hd:aw ae}{e:aW}{p t C m f:ae}{fs:af (ae×V)}{ao:af aW}{l:af V}(h:R F hd σ lm e (.r p))(o:σ p=ab ⟨t,.i C fs⟩)(kC:fM fs m=aj)(mo:vr aZ 8 C m=ab f)(hs:yI F hd σ lm ao l)(c:∀ah,Ext σ ah->F f (.r p::l) ah Q X):vE aZ F hd lm (.m e m ao) σ Q X:=h _ _ (.inst o kC mo (hs _ _ c))
theorem aS8{hd:aw ae}{e:aW}{p t:ae}{l:af V}{v:V}(g:ck hd n σ lm e (.r p))(a:σ p=ab ⟨t,.l (l++[v])⟩)(aS:t≠0)(q:k.r v (aC σ p ⟨t,.l l⟩)):aH hd n (.r (.m e 1 [])::r) lm σ k:=g _ _ (.own a aa ⟨t,_,a,aa,.pop aa aS q⟩)
theorem aL5(K:fW c bp gv A ba)(w:ib c gv A ba cW cl s j dd T i d8 σ0 g σ)(bT:s≠[]->ib c gv A ba cW cl s.dropLast j dd T i d8 σ0 g (aC σ cl ⟨10,.l (aL s.dropLast)⟩)->Q .n (aC σ cl ⟨10,.l (aL s.dropLast)⟩))(bE:s=[]->nY c gv A ba (.r cW) i T X d8 σ0 (1,(i:ag))):W (n+4) 77 [self,.r A.v,arg] σ Q X:=by
 have o:=w.w.o
 have st:∀{m:ae}{lm:bf},lm.get 0=ab (.r A.v)->ck aj m σ lm (.a (.a (.l 0) 44) 31) (.r cl):=λh=>.A (.v o h aa) (dS w.u.o aa)
 refine bD aa rfl (jt (.p aa) o aa rfl .N (bD aa rfl (d0 (.p aa) (bD aa rfl (eR (.g6 (l4 (st aa) w.u.l) .i) (λz=> ?_) λz=> ?_)))))
 ·exact s8 (.inr aa) (.c .c (.v o aa rfl)) λe ne=>w.iC K (bE (pL.mp (lx (c4 z)))) (Ext.rfl.new ne) ⟨_,bc⟩
 ·rcases Ed s with e|⟨a,b,e⟩
  ·exact aV (by rw[e];rfl) (hy z)
  ·rw[AM]at e
   have W:=w.stk K (s':=s.dropLast)
   have bT:=bT (by rw[e];exactλu=>nomatch (List.append_eq_nil_iff.mp u).2) W
   have l:=w.u.l
   rw[e,Tv]at bT
   rw[e,n']at l
   exact aS8 (st aa) l ai bT
theorem PH{m:ae}{fe:ag}(K:fW c bp gv A ba)(w:ib c gv A ba cW cl s j dd T i d8 σ0 g σ)(ax:s.length<=1000)(bT:(s.length:ag)<c.most->ib c gv A ba cW cl (s++[fe]) j dd T i d8 σ0 g (aC σ cl ⟨10,.l (aL (s++[fe]))⟩)->Q .n (aC σ cl ⟨10,.l (aL (s++[fe]))⟩))(bE:c.most<=s.length->nY c gv A ba (.r cW) i T X d8 σ0 (20,(i:ag))):W (n+3) 40 [.r A.v,.i fe] σ Q X:=by
 have o:=w.w.o
 have st:∀{m:ae}{lm:bf},lm.get 0=ab (.r A.v)->ck aj m σ lm (.a (.a (.l 0) 44) 31) (.r cl):=λh=>.A (.v o h aa) (dS w.u.o aa)
 refine bD aa rfl (d0 (.p aa) (bD aa rfl (eR (z:=decide (c.most<=s.length)) (.q (l4 (st aa) w.u.l) (.A (.v o aa rfl) (dS (K.body w.w.C) aa)) aa) (λz=> ?_) λz=> ?_)))
 ·exact s8 (.inr aa) (.c .c (.v o aa rfl)) λe ne=>w.iC K (bE (c4 z)) (Ext.rfl.new ne) ⟨_,bc⟩
 ·have bT:=bT (Int.not_le.mp (hy z)) (w.stk K)
  rw[n']at bT
  exact fw (st aa) (.p aa) w.u.l ai (by rw[gI];exact d7 ax ai) bT
theorem az0(K:fW c bp gv A ba)(w:ib c gv A ba cW cl s j 0 T i d8 σ0 g σ)(ax:s.length<=1000)(cp:j=0->bp=ak)(bT:0<=c.first->(s.length:ag)<c.most->∀ah,ib c gv A ba cW cl (s++[aG (!aA j 0) c.first c.raw]) j 0 T i d8 σ0 g ah->Q .n ah)(bE:c.first<0->nY c gv A ba (.r cW) i T X d8 σ0 (21,(i:ag)))(d':0<=c.first->c.most<=s.length->nY c gv A ba (.r cW) i T X d8 σ0 (20,(i:ag))):
  W (n+10) 80 [self,.r A.v,.i 0] σ Q X:=by
 have o:=w.w.o
 refine fH (K.arg w.w.C) λl ol Ob l1=> ?_
 by_cases f0:c.first<0
 ·have e:=Ob f0
  subst e
  exact bD aa rfl (d0 (.p aa) (bD aa rfl (gV (z:=ak) (.lO (z:=av) (.p aa) (.q (.p aa) (l4 (.v o aa rfl) ol) aa)) aa (vL o (.p aa) .c λe ah x h=>w.iC K (bE f0) x h))))
 have f1:=iy.mp f0
 refine xV (l1 f1) λk r e ax1=> ?_
 subst e
 have nz:decide (((k::r).length:ag)<=0)=av:=de (Int.not_le.mpr (fh.mpr (yr r.length)))
 refine bD aa rfl (d0 (.p aa) (bD aa rfl (dV (z:=av||decide (((k::r).length:ag)<=0)) (.lO (z:=av) (.p aa) (.q (.p aa) (l4 (.v o aa rfl) ol) aa)) nz (bP (.bC (.v o aa rfl) (.p aa) (fF ol (f5 (k:=0) aa))) ?_))))
 refine eR (z:=ak&&aA j 0) (.hN (.p aa) (.g6 (.A (.A (.p aa) (dS o aa)) (dS w.u.o aa)) .i)) (λz=> ?_) λz=> ?_
 ·rw[show aA j 0=ak from z]at bT
  exact Ys (.p aa) o aa rfl (z2 (sZ (Rs.up (.c (.A (.p aa) (dS o aa)) (.c (.A (.p aa) (dS o aa)) .N))) λU x=>K.P9 (K.up x.fr w.w.C) (cp (c4 z))) λU U=>Rs.up .N) λah x=>PH (n:=n+6) (m:=0) K (w.ext K x) ax (λm W=>bT f1 m _ W) (d' f1)
 ·rw[show aA j 0=av from z]at bT
  exact jt (.p aa) o aa rfl (.c (.K (.c (.A (.p aa) (dS o aa)) (.p aa)) (ax1 (n+6))) .N) (PH (n:=n+6) (m:=0) K w ax (λm W=>bT f1 m _ W) (d' f1))
theorem Qk(K:fW c bp gv A ba)(w:ib c gv A ba cW cl s j dd T i d8 σ0 g σ)(q:∀ah,ib c gv A ba cW cl s j 1 T i d8 σ0 g ah->k.n [ab self,ab (.r A.v),ab arg] ah):aH aj n [.A (.a (.l 1) 44) 33 (.i 1)] [ab self,ab (.r A.v),ab arg] σ k:=
 om (p:=cW) .i (.A (.p aa) (dS w.w.o aa)) w.u.o ai (e3 aa) aa (q _ (w.tail K))
theorem aI4(K:fW c bp gv A ba)(w:ib c gv A ba cW cl s j 0 T i d8 σ0 g σ)(hi:i<c.code.length)(az:c.code[i]? =ab ins)(ax:s.length<=1000)(cp:j=0->bp=ak)(M:∀q:ae,l2 c gv->nY c gv A ba (.r cW) i T X d8 σ0 (3,q))(gF:(decide (ins.op∈([65050,220]:af ag))&& !sI c.cs i ins.op)=av)(Z:uh c gv A ba (.r cW) i T Q X d8 σ0 (l9 c i ins (qc ins) s j)):
  aH aj (n+10) [.a 5 (.m (.a (.l 0) 52) 3 [.l 3]),.i (.p .i (.l 5) (.n)) [.e (.m (.l 0) 58 [.c (.i 22)])] [],.e (.m (.l 5) 63 [.l 0,.l 4]),.i (.a (.a (.l 0) 44) 33) [.mg] [],.i (.p .G (.o .a (.l 1) (.i 1)) (.B .l [.a (.a (.l 0) 35) 4])) [.e (.m (.l 0) 58 [.c (.i 7)])] [],.e (.m (.l 0) 56 [.o .a (.l 1) (.i 1)])]
   [ab (.r A.v),ab (.i i),a2,ab (.i ins.op),ab ins.arg,gQ] σ (fz Q X):=by
 have o:=w.w.o
 have D:=K.js.op ins (List.mem_of_getElem? az)
 refine tp (K.ops w.w.C) λfZ l ol h1 h2=> ?_
 unfold l9 at Z
 rw[gF]at Z
 by_cases z:ins.op∈([69,57]:af ag)
 ·rw[cD z]at Z
  exact c7 (.get (.v o aa rfl) ol (.p aa)) (gV (.p (by rw[h1 _ z];rfl)) aa (vL o (.p aa) .c λe ah x h=>w.iC K (Z.1 (22,(i:ag)) aa) x h))
 rw[de z]at Z
 have KD:=D.1.resolve_left z
 have hm:∀x:ag,x=221\/x∈([122,65050,220,65041]:af ag)\/x=38\/x=65033\/x=0->x∈([0,38,65033,122,221,65050,220,65041]:af ag):=λx h=>by
  have u:∀x∈([122,65050,220,65041]:af ag),x∈([0,38,65033,122,221,65050,220,65041]:af ag):=ai
  rcases h with h|h|h|h|h
  ·subst h;decide
  ·exact u x h
  all_goals subst h;decide
 refine b5 (h2 _ (hm _ KD)) λmf e qq=> ?_
 have AZ:∀{ah r lm g},ib c gv A ba cW cl s j 1 T i d8 σ0 g ah->lm=[ab (.r A.v),ab (.i i),a2,ab (.i ins.op),ab ins.arg,ab (.r mf)]->Q .n ah->aH aj (n+10) (.i (.a (.a (.l 0) 44) 33) [.mg] []::r) lm ah (fz Q X):=λw e q=>by
  rw[e];exact hW (z:=ak) (.A (.v w.w.o aa rfl) (dS w.u.o aa)) aa (λU=>C4 q) nofun
 refine c7 (.get (.v o aa rfl) ol (.p aa)) (dV (.p (by rw[e];rfl)) aa ?_)
 rw[e]
 rcases KD with h|h|h|h|h
 ·rcases D.2.2 h with⟨t,cg⟩
  have ra:qc ins=(t:ag):=by unfold qc;rw[cg];rfl
  rw[ra]at Z
  rw[cg]at AZ|-
  rw[h]at AZ Z qq|-
  have cU:∀{P:Prop},fa c.cs c.code.length i t ak=0->((!aA (fa c.cs c.code.length i t ak) 0)=av->P)->P:=λz h=>h (by rw[show aA (fa c.cs c.code.length i t ak) 0=ak from cD z];rfl)
  have Z:uh c gv A ba (.r cW) i T Q X d8 σ0 (aG (!aA (fa c.cs c.code.length i t ak) 0) (iC (fa c.cs c.code.length i t ak) i) (aj,[((t:ag),[],j)])):=Z
  refine jt (.p aa) qq aa rfl (.p aa) (bD aa rfl (jt (.p aa) o aa rfl (.p aa) (bD aa rfl (d0 (.p aa) (Mf (n:=n) (lv:=ak) K w ax M (λz U=>cU z λa=> ?_) (λz U bx ah dX C=>Qk K dX λa3 dY=>AZ dY aa (cU z λa=> ?_)) (λz=> ?_) λU ne U=>aV rfl ne)))))
  ·rw[a]at Z;exact Z.2.2 _ dI
  ·rw[a]at Z;exact Z.2.1 aa a3 bx dY.f dY.w dY.sv dY.e dY.l λw hw=>aD (dv.mp hw) C
  ·rw[show aA (fa c.cs c.code.length i t ak) 0=av from de z]at Z;exact Z.1 _ aa
 ·have au:z4 ins.op=14/\aA ins.op 221=av:=by
   have:∀x∈([122,65050,220,65041]:af ag),z4 x=14/\aA x 221=av:=ai
   exact this _ h
  rw[au.1]at qq
  rw[au.2,cD h]at Z
  exact jt (.p aa) qq aa rfl (.p aa) (bD aa rfl (Qk K w λa3 dY=>AZ dY aa (Z.2.1 aa a3 g dY.f dY.w dY.sv dY.e dY.l (h9 _))))
 ·rw[h]at Z qq|-
  have Z:uh c gv A ba (.r cW) i T Q X d8 σ0 (aG s.isEmpty (iC 1 i) (hB c i s.dropLast j)):=Z
  refine jt (.p aa) qq aa rfl (.p aa) (aL5 (n:=n+6) K w (λne W=>FD K W hi (by rw[Ek];lia) M ?_) λe=> ?_)
  ·rw[show s.isEmpty=av by
                  rcases s with _|⟨_,_⟩
                  ·exact aV rfl ne
                  ·rfl]at Z;exact Z
  ·rw[e]at Z;exact Z.1 _ aa
 ·have cg:=D.2.1 h
  rw[cg,h]
  rw[h]at Z qq
  have Z:uh c gv A ba (.r cW) i T Q X d8 σ0 (aG (decide (c.first<0)) (iC 21 i) (aG (decide (c.most<=s.length)) (iC 20 i) (hB c i (s++[aG (!aA j 0) c.first c.raw]) j))):=Z
  refine jt (.p aa) qq aa rfl (.p aa) (az0 (n:=n) K w ax cp (λf m ah dX=>FD K dX hi ?_ M ?_) (λf=> ?_) λf m=> ?_)
  ·have:=K.js.most;rw[cK,AP];lia
  ·rw[de (iy.mpr f),de (Int.not_le.mpr m)]at Z;exact Z
  ·rw[cD f]at Z;exact Z.1 _ aa
  ·rw[de (iy.mpr f),cD m]at Z;exact Z.1 _ aa
 ·rw[h]at Z qq|-
  exact jt (.p aa) qq aa rfl (.p aa) (bD aa rfl (C4 (FD K w hi ax M Z)))
theorem Xf{Wx:ag}{x:hv}(K:fW c bp gv A ba)(w:eZ c A ba cur Wx g σ)(L:fb c gv g T (ab i))(N:oG c gv g T)(hs:g.cc i=ab x)(ax:g.cU.length<=30000)
  (bT:∀ah bx uq,Fr r5 σ ah->eZ c A ba uq i bx ah->fb c gv bx T aj->oG c gv bx T->fU c g bx->bx.cU.length<=g.cU.length+60->Q .n ah)
  (bE:∀e ah bx uq f,Fr r5 σ ah->eZ c A ba uq i bx ah->fb c gv bx (uf T f) aj->oG c gv bx (uf T f)->fU c g bx->bx.cU.length<=g.cU.length+60->IsFlt ah e f i->X e ah):W (n+11) 90 [.r A.v,.i i] σ Q X:=by
 have r:=L.sY hs
 have o8:=k6 K.js r
 have a6:=f9 o8.1
 generalize c.code[i]'o8.1=ins at a6
 have Nv:x.1.length<=1000:=aX o8.2.2.1 ai
 refine fH w.h.cc λao c3 U he=> ?_
 rcases(he i).resolve_left (λu=>nomatch hs.symm.trans u.2)with⟨a,hn,aq,e2,l,v1,v2⟩
 have ex:=cR (hs.symm.trans e2)
 subst ex
 have up:∀{aJ:H}{o:Internal.O},aJ A.v=ab ⟨2,o.d⟩->Fr (b' 2 2) aJ (aC aJ A.v o):=λh=>Fr.upd Fr.rfl h aa
 have f1:Fr (b' 2 2) σ (aC σ A.v ⟨2,.i 9 (ow A cur i)⟩):=Fr.upd Fr.rfl w.o aa
 have c5:aC σ A.v ⟨2,.i 9 (ow A cur i)⟩ A.v=_:=bc
 refine bD aa rfl (om (.p aa) (.p aa) w.o ai (e3 aa) aa (show aH aj (n+10) _ _ (aC σ A.v ⟨2,.i 9 (ow A cur i)⟩) _ from ?_))
 generalize aC σ A.v _=aJ at*
 refine d0 (.c (.bC (.v c5 aa rfl) (.p aa) (sub_d (f1 _ _ c3 aa) (aU ab aq))) .N) (L0 (n:=n+8) 9 10 ai ai (f1 _ _ v1 aa) (f1 _ _ v2 aa) Nv λcW cl a3 bl gK gU=>(R.L aa:ck aj (n+10) a3 [ab (.r A.v),ab (.i i),aj,aj,aj,aj] (.l 0) (.r A.v)) _ _ (.i (bl _ _ c5) ai (e3 aa) aa (show aH aj (n+10) _ _ (aC a3 A.v ⟨2,.i 9 (ow A (.r cW) i)⟩) _ from ?_)))
 have cz:Fr (b' 2 2) a3 (aC a3 A.v ⟨2,.i 9 (ow A (.r cW) i)⟩):=Fr.upd Fr.rfl (bl _ _ c5) aa
 have o3:aC a3 A.v ⟨2,.i 9 (ow A (.r cW) i)⟩ A.v=_:=bc
 generalize aC a3 A.v _=bM at*
 have jM:Fr (b' 2 2) σ bM:=(f1.ay bl.fr).ay cz
 have gY:eZ c A ba (.r cW) i g bM:=⟨K.up (fE jM aa rfl) w.C,o3,w.h.fr jM aa⟩
 have La:tX bM cW cl x.1 x.2 0:=⟨cz _ _ gK aa,cz _ _ gU aa⟩
 have jM:Fr r5 σ bM:=fE jM aa rfl
 refine d0 (.p aa) (an7 (n:=n) K gY La L N r ax (λcC e8 f4 oz A3 eO Vq ET Ve=> ?_) λe ah bx f fr dX A5 kW nU Vw bu=>bE e ah bx _ f (jM.ay (fE fr aa rfl)) dX nU Vw A5 kW bu)
 have qN:=jM.ay (fE f4 aa rfl)
 have V6:=La.fr f4 aa rfl
 have WJ:ib c gv A ba cW cl x.1 x.2 0 T i e8 cC e8 cC:=⟨oz,V6,Vq,Fr.rfl,fU.rfl,aa⟩
 have H:jl c gv T\/∀y∈c.cs,y.t0<=i->(i:ag)<y.t1->pS c e8 y x.2:=(S1 (jl c gv T)).imp id λne y aQ a b=>(Ve y aQ a b).resolve_left ne
 have bJ:∀{bx iO},fU c e8 bx->(∀f,T f->iO f)->(∀f,(gj c i x.1 x.2).1=ab f->iO f)->(∀w∈(gj c i x.1 x.2).2,f' bx w.1 w.2.1.length w.2.2)->∀hn,bx.cc i=ab hn->(i:ag)∈bx.ct\/jl c gv iO\/mz c bx iO i hn:=λaH t f w hn aE=>((A3.ay aH).ch aE).elim (λaE=>aR (cR (hs.symm.trans aE)) (.inr (H.imp (jl.up t) λH=>⟨λy aQ a b=>(H y aQ a b).up aH.jQ (pJ _),f,w⟩))) .inl
 have M:∀q:ae,l2 c gv->nY c gv A ba (.r cW) i T X e8 cC (3,(q:ag)):=λq m e ah bx f dX aH cU nU bu=>
  have E:jl c gv (uf T (3,(q:ag))):=⟨_,.inr aa,.inr m⟩
  bE e ah bx _ _ (qN.ay (fE f aa rfl)) dX (B6 nU (λU U=>.inr (.inl E)) (λU=>.inl) λf(h:T f\/f=(3,(q:ag)))=>h.elim .inl λh=>.inr (aD h (.inr (.inr m)))) (ET.up aH.jQ cU λU=>.inl) (A3.ay aH) (aD cU eO) bu
 have p9:gj c i x.1 x.2=l9 c i ins (qc ins) x.1 x.2:=by unfold gj;rw[a6];rfl
 have Z:uh c gv A ba (.r cW) i T Q X e8 cC (gj c i x.1 x.2):=⟨λf g5 e ah bx fr dX aH cU nU bu=>bE e ah bx _ f (qN.ay (fE fr aa rfl)) dX (B6 nU (bJ aH (λU=>.inl) (λih h=>.inr (cR (h.symm.trans (aU rS g5)))) (by rw[g5];exact h9 _)) (λU=>.inl) λih(h:T ih\/ih=f)=>h.elim .inl λh=>.inr (aD h (.inl ⟨_,_,_,r,aU rS g5⟩))) (ET.up aH.jQ cU λU=>.inl) (A3.ay aH) (aD cU eO) bu,
  λfj ah bx fr dX aH cU nU jQ=>bT ah bx _ (qN.ay (fE fr aa rfl)) dX (B6 nU (bJ aH (λU=>id) (λih h=>nomatch h.symm.trans fj) jQ) (λU=>id) λU=>.inl) (ET.up aH.jQ cU λU=>id) (A3.ay aH) (aD cU eO),λw hw=>.step r (lW _ hw)⟩
 rw[p9]at Z
 have D:=K.js
 have hi:=List.mem_of_getElem? a6
 have aE1:aA ins.op 42=av:=by
  have u:∀l:af ag,(42:ag)∉l->ins.op∈l->aA ins.op 42=av:=λl h m=>de λe=>h (aR e m)
  rcases(D.op ins hi).1 with h|h|h|h|h|h
  ·exact u _ ai h
  ·rw[h];rfl
  ·exact u _ ai h
  all_goals rw[h];rfl
 have sf:standF c.cs ins.op i=aG (decide (ins.op∈([65050,220]:af ag))&& !sI c.cs i ins.op) 5 0:=by
  rw[ay7 D.d4]
  rcases e:aA ins.op 65041 with _|_
  ·rfl
  ·rw[D.ME i ins a6 (c4 e)];rfl
 refine jt (.v oz.o aa rfl) (K.ew oz.C) aa rfl (.c (.A (.v oz.o aa rfl) (dS (K.body oz.C) aa)) (.p aa)) (aO6 (n:=n+5) (K.cls oz.C) (K.code oz.C) (aX D.dc ai) (K.ew oz.C) a6 aE1 _ _ λσ5 fR=> ?_)
 have tl:=WJ.ext K fR
 rw[sf]
 rcases b:decide (ins.op∈([65050,220]:af ag))&& !sI c.cs i ins.op with _|_
 ·exact dV (.p aa) aa (xJ aa (.bC (.A (.v tl.w.o aa rfl) (dS (K.body tl.w.C) aa)) (.p aa) (fF (K.code tl.w.C) (kS a6))) aa (aI4 K tl o8.1 a6 Nv (λh=>o8.2.1.elim (λu=>nomatch u.symm.trans h) AD) M b Z))
 ·unfold l9 at Z
  rw[b]at Z
  exact gV (.p aa) aa (vL tl.w.o (.p aa) (.p aa) λe ah x h=>tl.iC K (Z.1 (5,(i:ag)) aa) x h)
end
section
variable{F:cy}{σ ah:H}{n i t p:ae}{c:cO}{bp:aB}{gv:eM}{A:eG}{ba:H->Prop}{g bx:eY}{Q:bQ}{X:bR}{at_:ag}{cur:V}{k:cT}{lm:bf}{r:af St}{hd:aw ae}{f:ag×ag}{l:af ag}{x y:ag}{d:af (ag×V)}{e aq e2:aW}
theorem aO7(h:x∈l):tj x l=ab (l.erase x):=by
 induction l with
 |nil=>cases h
 |cons z l aI=>
  unfold tj
  rw[List.erase_cons]
  by_cases w:z=x
  ·rw[bk w,bk (beq_iff_eq.mpr w)]
  ·rw[bh w,bh λu=>w (beq_iff_eq.mp u),aI ((fS.mp h).resolve_left (pR w))];rfl
theorem Wf:cw (q0 d x) y=if y=x then aj else cw d y:=by
 induction d with
 |nil=>
     by_cases z:y=x
     ·rw[bk z];rfl
     ·rw[bh z];rfl
 |cons w d aI=>
  unfold q0 at*
  rw[wi]
  by_cases z:w.1=x
  ·rw[de (D4 z),bh nofun,aI,nZ]
   by_cases u:y=x
   ·rw[bk u,bk u]
   ·rw[bh u,bh u,bh λv=>u (v.symm.trans z)]
  ·rw[cD z,bk rfl,nZ,nZ,aI]
   by_cases u:w.1=y
   ·rw[bk u,bk u,bh λv=>z (u.trans v)]
   ·rw[bh u,bh u]
theorem Wh(h:(cw d x).isSome=ak):∃y∈d,y.1=x:=by
 induction d with
 |nil=>cases h
 |cons w d aI=>
  rw[nZ]at h
  by_cases z:w.1=x
  ·exact⟨w,dI,z⟩
  ·rw[bh z]at h;exact(aI h).elim λy u=>⟨y,iL _ u.1,u.2⟩
theorem aR0(h:R F .none σ lm e (.r p))(o:σ p=ab ⟨t,.l (aL l)⟩)(ax:l.length<64)(aE:(sortI l)[0]? =ab x):gb F .none σ lm (.u (.B .s [e]) (.i 0)) (.i x):=λU U q=>
 ⟨aa,h _ _ (.sortI o ax λa na=>⟨1,ai,.list bc (kS (g:=V.i) aE) (q _ (Ext.rfl.new na))⟩)⟩
theorem aS5{l':af ag}(h:ck hd n σ lm e (.r p))(h2:ck hd n σ lm e2 (.i x))(o:σ p=ab ⟨t,.l (aL l)⟩)(aS:t≠0)(au:tj x l=ab l')(q:aH hd n r lm (aC σ p ⟨t,.l (aL l')⟩) k):aH hd n (.e (.m e 2 [e2])::r) lm σ k:=h _ _ (.own o aa (h2 _ _ ⟨t,_,o,aa,.rem aa aS au q⟩))
theorem aR8(z:hd=.none)(h:ck hd n σ lm e (.r p))(h2:ck hd n σ lm e2 (.i x))(o:σ p=ab ⟨t,.d d⟩)(aS:t≠0)(aE:(cw d x).isSome=ak)(q:aH hd n r lm (aC σ p ⟨t,.d (q0 d x)⟩) k):aH hd n (.del e e2::r) lm σ k:=⟨z,h _ _ (h2 _ _ (.mk o aS aE q))⟩
theorem QQ(K:fW c bp gv A ba)(w:eZ c A ba cur at_ g σ)(ax:g.told.length<=1000)(cx:g.told.Nodup)(q:∀ah l,Fr (b' 8 8) σ ah->eZ c A ba cur at_ {g with told:=l} ah->(∀t,t∈l↔t∈g.told\/t=f)->l.length<=g.told.length+1->l.Nodup->Q .n ah):dQ aZ PP hd (n+1) 84 [.r A.v,.i f.1,.i f.2] σ Q X:=by
 refine bD aa rfl (eR (.q (.p aa) (.v w.o aa rfl) (Ck (f:=f) w.h.told)) (λz=> ?_) λz=> ?_)
 ·have kC:f∉g.told:=λh=>by rw[cD h]at z;cases z
  have fr:Fr (b' 8 8) σ (aC σ A.told ⟨8,.l (g.told.map c'++[c' f])⟩):=Fr.upd Fr.rfl w.h.told aa
  have h:=w.h
  refine fw (.v w.o aa rfl) (.p aa) w.h.told ai (by rw[cN];exact d7 ax ai) (q _ (g.told++[f]) fr ⟨K.up (fE fr aa rfl) w.C,fr _ _ w.o aa,?_⟩ (λt=>gO.trans (SE dv)) (eK cK) (AQ.mpr ⟨cx,pO.mpr ⟨oB,.nil⟩,λa cg b bb u=>kC (aR (u.trans (dv.mp bb)) cg)⟩))
  exact⟨h.cc.elim λao y=>⟨ao,fr _ _ y.1 aa,y.2.1,λk=>(y.2.2 k).imp id λw=>w.elim λa w=>w.elim λx w=>⟨a,x,w.1,w.2.1,w.2.2.fr fr aa⟩⟩,fr _ _ h.h6 aa,h.iZ.elim λd y=>⟨d,fr _ _ y.1 aa,y.2⟩,h.je.elim λd y=>⟨d,fr _ _ y.1 aa,y.2⟩,fr _ _ h.ent aa,bc.trans (by rw[gA];rfl)⟩
 ·have kC:f∈g.told:=c4 (qo z)
  exact q σ g.told Fr.rfl w (λt=>⟨.inl,λh=>h.elim id λh=>aD h kC⟩) (mw _) cx
structure Lb(c:cO)(gv:eM)(A:eG)(ba:H->Prop)(σ0:H)(cur:V)(at_:ag)(m:ae)(g:eY)(σ:H):Prop where
 f:Fr r5 σ0 σ
 w:eZ c A ba cur at_ g σ
 l:fb c gv g (·∈g.told) aj
 n:oG c gv g (·∈g.told)
 OF:2*jd c g.cc+g.ct.length=m
 cx:g.told.Nodup
 lt:g.told.length+m<=1000
 le:g.cU.length+60*m<=30000
 gi:∀p i,(p,i)∈gv->f' g p 0 i
theorem Mg{a b k m:ae}(l:a<=b+60)(h:b+60*m<=30000)(oa:k<m):a+60*k<=30000:=aX (nM l _) (aX (eK ((wt ..).trans (aU (b+·) (ym ..)))) (aX (gC (Nat.mul_le_mul_left 60 oa) b) h))
theorem bd8(K:fW c bp gv A ba)(w:eZ c A ba cur at_ g σ)(L:fb c gv g (λU=>dg) aj)(h0:g.told=[]/\g.cU=[])(gi:∀p i,(p,i)∈gv->f' g p 0 i)
  (q:∀ah bx uq at',Fr r5 σ ah->eZ c A ba uq at' bx ah->fb c gv bx (·∈bx.told) aj->bx.ct=[]->bx.told.Nodup->bx.told.length<=1000->(∀p i,(p,i)∈gv->f' bx p 0 i)->Q .n ah):W (n+12) 91 [.r A.v] σ Q X:=by
 have u7:(λU:ag×ag=>dg)=(·∈g.told):=funext λt=>propext ⟨S7,λh=>by rw[h0.1]at h;cases h⟩
 have pt:jd c g.cc<=200:=w.h.cc.elim λao y=>aX (rQ _ _) y.2.1
 have wl:=L.wl K.js
 have Q2:2*jd c g.cc+g.ct.length<=2*200+60:=nL (Nat.mul_le_mul_left 2 pt) wl
 have Vl:Lb c gv A ba σ cur at_ (2*jd c g.cc+g.ct.length) g σ:=⟨Fr.rfl,w,aR u7 L,λj v a4=>aV a4 (by rw[h0.2];nofun),aa,by rw[h0.1];exact .nil,by rw[h0.1];exact aX (eK (iA _)) (aX Q2 ai),by rw[h0.2];exact aX (eK (iA _)) (aX (Nat.mul_le_mul_left 60 Q2) ai),gi⟩
 refine bD aa rfl (Qm (λb:aw V×aw V=>[ab (.r A.v),b.1,b.2]) (λm U ah=>∃bx uq at',Lb c gv A ba σ uq at' m bx ah) (2*jd c g.cc+g.ct.length) (aj,aj) aa rfl ⟨g,cur,at_,Vl⟩ λm b aJ I=> ?_)
 refine Rz I λg1 Bq ni I=> ?_
 have o:=I.w.o
 have wl:=I.l.wl K.js
 refine⟨_,decide ((0:ag)<g1.ct.length),R.up (.q (l4 (.v o aa rfl) I.w.h.h6) .i aa),λU U=>aa,λz a3 x=> ?_,λz a3 x K' bV=> ?_⟩
 ·have e:g1.ct=[]:=by
               rcases e:g1.ct with _|⟨_,_⟩
               ·rfl
               ·rw[e]at z;exact aV (fh.mpr (yr _)) (hy z)
  exact q a3 g1 Bq ni (I.f.ay x.fr) (I.w.ext K x) I.l e I.cx (aX (en _ _) I.lt) I.gi
 have dY:=I.w.ext K x
 have dk:=I.f.ay (S:=r5) x.fr
 have o:=dY.o
 have ex:∃y,(sortI g1.ct)[0]? =ab y/\y∈g1.ct:=by
  rcases e:sortI g1.ct with _|⟨y,l⟩
  ·rcases dO:g1.ct with _|⟨a,l⟩
   ·rw[dO]at z;cases z
   ·exact aV (xM.mem_iff.mpr (dO▸dI:a∈g1.ct)) (e▸oB)
  ·exact⟨y,aa,xM.mem_iff.mp (e▸dI)⟩
 refine b5 ex λy fj aQ=> ?_
 rcases I.l.ct y aQ with⟨hn,hs⟩
 refine b5 (I.l.re y hn hs) λi p7 r=> ?_
 subst p7
 refine aR3 (aR0 (.v o aa rfl) dY.h.h6 (d7 wl ai) fj) λbM bH=> ?_
 have gY:=dY.ext K bH
 have jM:=dk.ay (S:=r5) bH.fr
 have o:=gY.o
 refine fH gY.h.iZ λd od dl hd=> ?_
 have f4:Fr (b' 4 4) bM (aC bM A.h6 ⟨4,.l (aL (g1.ct.erase i))⟩):=Fr.upd Fr.rfl gY.h.h6 aa
 have jX:aC bM A.h6 ⟨4,.l (aL (g1.ct.erase i))⟩ A.h6=_:=bc
 refine aS5 (.v o aa rfl) (.p aa) gY.h.h6 ai (aO7 aQ) ?_
 generalize aC bM A.h6 _=cC at*
 have sd:(cw d i).isSome=ak:=(hd i).trans (cD aQ)
 refine aR8 aa (.v (f4 _ _ o aa) aa rfl) (.p aa) (f4 _ _ od aa) ai sd ?_
 have e7:Fr (b' 5 5) cC (aC cC A.iZ ⟨5,.d (q0 d i)⟩):=Fr.upd Fr.rfl (f4 _ _ od aa) aa
 have jB:aC cC A.iZ ⟨5,.d (q0 d i)⟩ A.iZ=_:=bc
 generalize aC cC A.iZ _=σ5 at*
 have f:Fr (b' 4 5) bM σ5:=(fE f4 aa rfl).ay (fE e7 aa rfl)
 have le:(g1.ct.erase (i:ag)).length+1=g1.ct.length:=by rw[List.length_erase_of_mem aQ];exact Uh (List.length_pos_of_mem aQ)
 have sO:∀k,k∈g1.ct.erase (i:ag)↔k≠i/\k∈g1.ct:=λk=>I.l.cx.mem_erase_iff
 have tl:eZ c A ba Bq ni {g1 with ct:=g1.ct.erase i} σ5:=by
  have h:=gY.h
  refine⟨K.up (fE f aa rfl) gY.C,f _ _ gY.o aa,h.cc.elim λao y=>⟨ao,f _ _ y.1 aa,y.2.1,λk=>(y.2.2 k).imp id λw=>w.elim λa w=>w.elim λx w=>⟨a,x,w.1,w.2.1,w.2.2.fr f aa⟩⟩,e7 _ _ jX aa,⟨_,jB,?_,λk=> ?_⟩,h.je.elim λd y=>⟨d,f _ _ y.1 aa,y.2⟩,f _ _ h.ent aa,f _ _ h.told aa⟩
  ·have:(q0 d i).length<d.length:=List.length_filter_lt_length_iff_exists.mpr ((Wh sd).elim λy u=>⟨y,u.1,by rw[de (D4 u.2)];nofun⟩)
   exact oC (fT this (aX dl (eK le.symm)))
  ·rw[Wf]
   show _=decide (k∈g1.ct.erase _)
   by_cases u:k=i
   ·rw[bk u,de λv=>((sO k).mp v).1 u];rfl
   ·rw[bh u,hd];exact decide_eq_decide.mpr ⟨λv=>(sO k).mpr ⟨u,v⟩,λv=>((sO k).mp v).2⟩
 have Vr:fb c gv {g1 with ct:=g1.ct.erase i} (·∈g1.told) (ab i):=⟨I.l.re,λp a7=>I.l.ct p ((sO p).mp a7).2,I.l.cx.erase _,I.l.vl,λp x h=>(S1 (p=i)).elim (λu=>.inr (.inl (aU ab u))) λu=>(I.l.cl p x h).elim (λv=>.inl ((sO p).mpr ⟨λw=>u (lx w),v⟩)) λv=>v.elim (λv=>nomatch v) λv=>.inr (.inr (v.imp id (mz.up (g:=g1) id λU=>id)))⟩
 have Ou:=I.OF
 have l1:=I.lt
 have d2:=I.le
 refine⟨aa,d0 (.p aa) (Xf (n:=n) K tl Vr (I.n.up id aa λU=>id) hs (aX (en _ _) d2) (λh7 iQ Br kr Ak A8 A' A4 vo=> ?_) λe h7 iQ Br bu kr Ak A8 A' A4 vo hf=> ?_)⟩
 all_goals
  have ES:=A4.m
  have ES:2*jd c iQ.cc+iQ.ct.length<=2*jd c g1.cc+(g1.ct.erase (i:ag)).length:=ES
  have oa:2*jd c iQ.cc+iQ.ct.length<m:=d7 ES (fT (kM _) (eK ((aU (2*jd c g1.cc+·) le).trans Ou)))
  have oH:=(jM.ay (fE f aa rfl)).ay kr
  have te:iQ.told=g1.told:=A4.dd
  have vo:iQ.cU.length<=g1.cU.length+60:=vo
  have M6:=λp i h=>A4.jQ (I.gi p i h:f' {g1 with ct:=g1.ct.erase _} _ _ _)
 ·exact bV (2*jd c iQ.cc+iQ.ct.length) (_,_) h7 oa ⟨iQ,Br,_,oH,Ak,aD te A8,aD te A',aa,aD te I.cx,by rw[te];exact aX (gC (jk oa) _) l1,Mg vo d2 oa,M6⟩
 ·have fin:∀iI l,Fr (b' 8 8) h7 iI->eZ c A ba Br i {iQ with told:=l} iI->(∀t,t∈l↔t∈iQ.told\/t=bu)->l.length<=iQ.told.length+1->l.Nodup->∀b1 b2,K' [ab (.r A.v),b1,b2] iI:=λiI l uE w7 ml rn nl b1 b2=>by
   have kX:uf (·∈g1.told) bu=(·∈l):=funext λt=>propext (aR te (ml t).symm)
   rw[kX]at A8 A'
   refine bV (2*jd c iQ.cc+iQ.ct.length) (b1,b2) iI oa ⟨{iQ with told:=l},Br,_,oH.ay (fE uE aa rfl),w7,A8.kX,A'.up id aa λU=>id,aa,nl,?_,Mg vo d2 oa,M6⟩
   rw[te]at rn
   exact aX (nM rn _) (aX (eK (qI _ _)) (aX (gC oa _) l1))
  have dd:iQ.told.length<=1000:=aD te (aX (en _ _) l1)
  have OM:iQ.told.Nodup:=aD te I.cx
  rcases hf with⟨rr,c3⟩|⟨g5,rr,x,y,c3⟩
  ·exact⟨_,_,_,_,c3,aa,d0 (.c (.p aa) (.c (.A (.p aa) (E' c3 aa)) (.c (.A (.p aa) (E' c3 aa)) .N))) (QQ K Ak dd OM λiI l a b d dO f=>fin iI l a b d dO f _ _)⟩
  ·exact⟨_,_,_,_,c3,aa,aa,d0 (l:=[.r A.v,.i bu.1,.i bu.2]) (.c (.p aa) (.c (aD g5 .c) (.c (aD g5 (.v Ak.o aa rfl)) .N))) (QQ K Ak dd OM λiI l a b d dO f=>fin iI l a b d dO f _ _)⟩
end
section
variable{σ ah:H}{n a b t:ae}{c:cO}{bp:aB}{gv:eM}{A:i4}{Q:bQ}{X:bR}{l:af ag}{x y:ag}{ls:af V}{m:af hv}{z:p2}{i:ag}{lm:bf}{r:af St}{k:cT}{S:ae->aB}{p q:ag×ag}{f ih:af (ag×ag)}{ss:lC}{fs:af (ag×ag)}
abbrev au5(x:ae×hv):V:=.t [.r x.1,.i x.2.2]
theorem av2(F:dk (mX σ) ls m):∃its:af (ae×hv),ls=its.map au5/\m=its.map nP/\∀x∈its,σ x.1=ab ⟨1,.l (aL x.2.1)⟩:=by
 induction m generalizing ls with
 |nil=>
     rcases ls with _|⟨_,_⟩
     ·exact⟨[],aa,aa,h9 _⟩
     ·exact F.elim
 |cons s m aI=>
         rcases ls with _|⟨v,ls⟩
         ·exact F.elim
         ·refine b5 F.1 λa e o=> ?_
          exact(aI F.2).elim λits w=>⟨(a,s)::its,by rw[w.1,e];rfl,by rw[w.2.1];rfl,λy aQ=>(fS.mp aQ).elim (λe=>aD e o) (w.2.2 y)⟩
theorem fold_min(h:i=x\/i∈l)(ax:∀y∈l,i<=y)(aE:i<=x):l.foldl (λa b=>if b<a then b else a) x=i:=by
 induction l generalizing x with
 |nil=>exact h.elim Eq.symm λu=>nomatch u
 |cons y l aI=>
  have aQ:=ax y dI
  have go:=λhn h h'=>aI (x:=hn) h (λz cV=>ax z (iL _ cV)) h'
  show l.foldl _ (if y<x then y else x)=i
  by_cases u:y<x
  ·rw[bk u];exact go _ (h.elim (λe=>aV u (iy.mpr (aR e aQ))) λh=>fS.mp h) aQ
  ·rw[bh u];exact go _ (h.elim .inl λh=>(fS.mp h).elim (λe=>.inl (AK aE (aD e (iy.mp u)))) .inr) aE
theorem aS6{hd:aw ae}{aq e2:aW}{v1:V}(h1:ck hd n σ lm aq v1)(h2:vE aZ (dQ aZ PP hd n) hd lm e2 σ (λv ah=>2<=bN/\k.r (.t [v1,v]) ah) λa σ=>k.x a lm σ):aH hd n (.r (.t [aq,e2])::r) lm σ k:=h1 _ _ h2
theorem H6{l:af ag}{v:ag}(h1:x∈l->x=y)(h0:x∉l->v=y):aG (decide (x∈l)) x v=y:=by
 by_cases h:x∈l
 ·rw[cD h];exact h1 h
 ·rw[de h];exact h0 h
theorem ax7(C:j9 c A σ)(o:σ b=ab ⟨t,.l ls⟩)(F:dk (mX σ) ls m)(hm:∀x∈m,x.1=val c x.2 z/\(x.2=1\/x.2=0))(cV:z.length<=9)(ax:m.length<=1000)(hi:(val c i z,i)∈m)(Hb:∀x∈m,i<=x.2)(q:∀a ah,Ext σ ah->ah a=ab ⟨1,.l (aL (val c i z))⟩->Q (.t [.r a,.i i]) ah):W (n+1) 104 [.r A.d,.r b] σ Q X:=by
 refine fH (av2 F) λits aq e2 aO=> ?_
 subst aq e2
 rw[cN]at ax
 rcases its with _|⟨x0,its⟩
 ·cases hi
 have h0:=hm x0.2 (eS.mpr ⟨x0,dI,aa⟩)
 have d8:∀{ah:H}{lm:bf},Ext σ ah->lm.get 1=ab (.r b)->ck aj n ah lm (.B .l [.u (.u (.l 1) (.i 0)) (.i 0)]) (.i z.length):=λ{ah lm} x h=>by
  have w:ck aj n ah lm (.B .l [.u (.u (.l 1) (.i 0)) (.i 0)]) (.i x0.2.1.length):=l4 (.bC (.bC (.L h) .i (fF (x _ _ o) (f5 (k:=0) aa))) .i (fG (i:=0) aa)) (x _ _ (aO x0 dI))
  rw[h0.1]at w
  rwa[show(val c x0.2.2 z).length=z.length from cN _]at w
 refine bD aa rfl (kg 1 ai (.L .N hC) λd cx=> ?_)
 have Rr:Ext σ (aC σ d ⟨1,.l []⟩):=Ext.rfl.new cx
 refine xG (its:=z.zipIdx) (N:=9) (λx=>[.i (x.2:ae)]) (λcL:aw V×aw V=>[ab (.r A.d),ab (.r b),ab (.r d),cL.1,cL.2]) (aj,aj) (λx=>[.i (ho c i x.1)]) aa Rr
  (.c (d8 Rr aa) .N) (C8 (by lia)) (λU U=>trivial) (λU=>aa) aa bc (λU=>da _) (by rw[rO];exact aX (eK (iA _)) cV) (λcL aJ aM od=> ?_) λx cL acc aJ mx cg aM od K bV=> ?_
 ·rw[MK (λo=>V.i (ho c i o)),←itz_val]at od
  refine aS6 (.p aa) ⟨aa,M.map (free:=[]) (e:=.l 1) 1 (λx=>.i x.2.2) (λx=>[.r x.1,.i x.2.2]) ai aa (.p aa) (kF (aM _ _ o)) (λU x=>⟨_,x _ _ (aM _ _ o)⟩) (λU=>aa) ax (λx U ah U=>.p aa) _ _ λe a3 bl c3=> ?_⟩
  have c3:a3 e=ab ⟨1,.l (aL (x0.2.2::its.map λx=>x.2.2))⟩:=c3.trans (by rw[tM];show _=ab (⟨1,.l (_::En V.i (En _ its))⟩:Internal.O);rw[nJ];rfl)
  refine .min c3 ⟨qm,aD (fold_min ?_ (λy aQ=> ?_) ?_) (q d a3 (aM.ay bl) (bl _ _ od))⟩
  ·refine b5 (eS.mp hi) λy aQ e=> ?_
   exact(fS.mp aQ).elim (λu=>.inl (aR u (aU nP e).symm)) λu=>.inr (eS.mpr ⟨y,u,aU nP e⟩)
  ·exact(eS.mp aQ).elim λw u=>aR u.2 (Hb _ (eS.mpr ⟨w,iL _ u.1,aa⟩))
  ·exact Hb _ (eS.mpr ⟨x0,dI,aa⟩)
 ·have aE:=oc mx
  have col:∀y∈x0::its,(aL y.2.1)[x.2]? =ab (.i (ho c y.2.2 x.1)):=λy aQ=>by
   rw[(hm y.2 (eS.mpr ⟨y,aQ,aa⟩)).1,itz_val,lV,aE]at|-;rfl
  refine xE (M.map (free:=[3]) (e:=.u (.l 0) (.l 2)) 1 (λy=>.i (ho c y.2.2 x.1)) (λx=>[.r x.1,.i x.2.2]) ai aa (.p aa) (kF (aM _ _ o)) (λU x=>⟨_,x _ _ (aM _ _ o)⟩) (λU=>aa) ax λy aQ ah hn=>.bC (.p aa) (.p aa) (fF (hn _ _ (aM _ _ (aO y aQ))) (f5 (col y aQ)))) λe a3 bl c3=> ?_
  have Kz:=C.fr (S:=du) (aM.ay bl).fr aa
  have c3:a3 e=ab ⟨1,.l (aL ((x0::its).map λy=>ho c y.2.2 x.1))⟩:=c3.trans (by unfold aL;rw[nJ];rfl)
  refine b5 (eS.mp hi) λy aQ uD=> ?_
  have p7:y.2.2=i:=aU nP uD
  have a1:i=1->∀w∈x0::its,w.2.2=1:=λu w hw=>(hm w.2 (eS.mpr ⟨w,hw,aa⟩)).2.elim id λv=>by
   have:=Hb _ (eS.mpr ⟨w,hw,aa⟩)
   lia
  have as3:=p7▸(hm y.2 (eS.mpr ⟨y,aQ,aa⟩)).2
  have key:aG (decide (c.raw∈(x0::its).map λy=>ho c y.2.2 x.1)) c.raw (ho c x0.2.2 x.1)=ho c i x.1:=by
   rcases ex:x.1 with _|fe
   ·rcases as3 with v|v
    ·rw[a1 v x0 dI,v]
     exact H6 (λh=>(eS.mp h).elim λw u=>aR (a1 v w u.1) u.2.symm) λU=>aa
    ·rw[v]
     exact H6 (λU=>aa) λh=>aV (eS.mpr ⟨y,aQ,by rw[p7,v];rfl⟩) h
   ·exact H6 (λh=>(eS.mp h).elim λw u=>u.2.symm) λU=>aa
  exact fw (.p aa) (.n9 (.q (.d Kz.o aa rfl) (.p aa) ((sE c3).trans (Aj _))) aa (.d Kz.o aa rfl) (.bC (.p aa) .i (fF c3 (f5 (k:=0) aa)))) (bl _ _ od) ai (fT cg ai) (bV (_,_) _ ((aM.ay bl).new cx) (aR key bc))
end
section
variable{F:cy}{hd:aw ae}{σ ah:H}{n a b t p:ae}{c:cO}{bp:aB}{gv:eM}{A:i4}{B:eG}{ba:H->Prop}{g:eY}{cur:V}{at_:ag}{Q:bQ}{X:bR}{l:af V}{lm:bf}{r cL:af St}{k:cT}{x y z:ag×ag}{f ih:af (ag×ag)}{ss:lC}{fs:af (ag×ag)}{bu:af ae}{e aq e2:aW}{u v w:V}{d:af (ag×V)}{m:ae}{j:ag}
theorem ae7(D:jL c bp gv)(L:LW c gv ss fs []):fs.length<=60:=by
 have h:fs⊆(gB c.code.length).flatMap λp=>(ss p).head?.elim [] λx=>(gj c p x.1 x.2).1.toList:=λf hf=>by
  refine kj (L.y7 f hf) λp s j r e=> ?_
  refine pM.mpr ⟨p,pN.mpr (k6 D r).1,?_⟩
  have m:=(sL L).mp r
  rcases ao:ss p with _|⟨x,l⟩
  ·rw[ao]at m;cases m
  ·show f∈(gj c p x.1 x.2).1.toList
   rw[(HT (L.ev p x _ (aD ao dI) m):_/\_).1,e]
   exact dI
 refine aX (L.cx.length_le_of_subset h) (aX (F7 (m:=1) (λp=> ?_) _) (by rw[mu];exact(Ey _).symm▸D.n))
 cases(ss p).head? with
 |none=>exact eL _
 |some x=>show(gj c p x.1 x.2).1.toList.length<=1;cases(gj c p x.1 x.2).1<;>first|exact eL _|exact da _
theorem aW7{a b:ag}(h0:0<=a)(bb:0<=b)(h:b<=1000)(cg:a<=1000):∀K,K ((qy a.toNat (b - a).toNat).map λj=>.i (j:ae)) (λU=>gN)->h5 σ K .r [.i a,.i b]:=λK q=>by
 have e:(bN:ag)=1000000:=aa
 have go:∀(c j:ae),me j 1 c=(qy j c).map λj=>.i (j:ae):=λc=>by
  induction c with
  |zero=>exactλU=>aa
  |succ c aI=>exactλj=>aU (_::·) (aI (j+1))
 have w:=go (b - a).toNat a.toNat
 rw[ji h0]at w
 exact .aN7 (by lia) (by lia) (by lia) (by lia) (show K (me a 1 _) _ from aD w q)
theorem aS0{β:Type}{x:ae}{over:af aW}(L:β->bf)(gF:β)(z:hd=aj)(h:nX hd n σ lm over [.r p])(o:σ p=ab ⟨t,.d d⟩)(aS:t≠0)(fj:lm=L gF)(done:∀b ah,Ext σ ah->aH hd n r (L b) ah k)
  (turn:∀y∈d,∀b ah k',Fr (λu=>cf u t) σ ah->ah p=ab ⟨0,.d d⟩->∀K:bf->H->Prop,(∀b hp,Ext ah hp->K (L b) hp)->aH hd n cL ((L b).set x (ab (.i y.1))) ah (km K k')):aH hd n (.dw [x] .i over cL::r) lm σ k:=by
 have f0:Fr (λu=>cf u t) σ (aC σ p ⟨0,.d d⟩):=Fr.upd Fr.rfl o (Er _)
 have go:∀(l:af (ag×V))(b:β)(aJ:H)(k':cT),(∀y∈l,y∈d)->Ext (aC σ p ⟨0,.d d⟩) aJ->forM (λhn lm σ K=>∃vs,lS 1 hn=ab vs/\aH hd n cL (iW lm [x] vs) σ (km K k')) (λah=>ah p=ab ⟨0,.d d⟩) (l.map λp=>.i p.1) (L b) aJ λlm ah=>aH hd n r lm (aC ah p ⟨t,.d d⟩) k:=by
  intro l
  induction l with
  |nil=>exactλb aJ k' U aM=>⟨aM _ _ bc,done b _ λa o' h=>by
    by_cases e:a=p
    ·rw[e,o]at h;rw[e,←cR h];exact bc
    ·exact(iu e).trans (aM _ _ ((iu e).trans h))⟩
  |cons y l aI=>exactλb aJ k' m aM=>⟨aM _ _ bc,_,aa,turn y (m y dI) b aJ k' (f0.ay aM.fr) (aM _ _ bc) _ λb a3 bl=>aI b a3 k' (λy h=>m y (iL _ h)) (aM.ay bl)⟩
 exact⟨z,h _ _ (.inl ⟨p,t,d,aa,aa,o,aS,aD fj (go d gF _ ⟨k.n,k.c,λv σ=>k.r v (aC σ p ⟨t,.d d⟩),λa lm σ=>k.x a lm (aC σ p ⟨t,.d d⟩)⟩ (λU h=>h) Ext.rfl)⟩)⟩
theorem z5(h:R F hd σ lm aq v)(t:jC σ v=ab ak)(g:gb F hd σ lm e2 w):gb F hd σ lm (.A aq e2) w:=λU U q=>h _ _ ⟨ak,t,g _ _ q⟩
theorem Fv(h:M F hd σ lm e t (.l l)):gb F hd σ lm (.p .e e (.L [])) (.b l.isEmpty):=λU U q=>h _ _ λU U x o=>⟨eL _,λU na=>⟨1,ai,_,IQ (fO na o) bc,q _ (x.ay (Ext.rfl.new na))⟩⟩
theorem bd3:lT (fx σ (m+2)) (f.map c') (f.map c')=ab ak:=by
 induction f with
 |nil=>rfl
 |cons x f aI=>show(fx σ (m+2) (c' x) (c' x)).bind _=_;rw[Rd,cD rfl];show(lT _ _ _).map _=_;rw[aI];rfl
end
structure rZ(c:cO)(A:i4)(B:eG)(ba:H->Prop)(cur:V)(at_:ag)(g:eY)(bu:af ae)(a:ae)(ss:lC)(σ:H):Prop where
 C:j9 c A σ
 w:eZ c B ba cur at_ g σ
 S:pZ bu a σ ss
def KX(c:cO)(ss:lC)(x:Cl)(i:ae):Prop:=c.bad x≠0/\x.t0<=i/\(i:ag)<x.t1/\ss i≠[]
structure KQ(c:cO)(gv:eM)(g:eY)(ss:lC)(fs gf:af (ag×ag))(hit met:aB):Prop where
 sub:fs⊆gf
 no:hit=av->gf=fs
 yes:hit=ak->∃f,oK c gv f
abbrev KR(c:cO)(g:eY)(ss:lC)(gf:af (ag×ag))(hit met:aB)(x:Cl)(i:ae):Prop:=hit=ak/\(c.bad x,(i:ag))∈gf/\((c.bad x,(i:ag))∈g.told->met=ak)
section
variable{σ ah:H}{n a b t p:ae}{c:cO}{bp:aB}{gv:eM}{A:i4}{B:eG}{ba:H->Prop}{g:eY}{cur:V}{at_:ag}{Q:bQ}{X:bR}{ss:lC}{fs:af (ag×ag)}{bu:af ae}{lm:bf}{r:af St}{k:cT}{i:ae}
theorem rZ.ext(K:fW c bp gv B ba)(f:rZ c A B ba cur at_ g bu a ss σ)(x:Ext σ ah):rZ c A B ba cur at_ g bu a ss ah:=⟨f.C.fr (S:=du) x.fr aa,f.w.ext K x,f.S.fr (S:=du) x.fr aa rfl λU=>aa⟩
theorem rZ.at(f:rZ c A B ba cur at_ g bu a ss σ)(h:i<bu.length):∃b ls,bu[i]? =ab b/\σ b=ab ⟨100+i,.l ls⟩/\dk (mX σ) ls (ss i)/\ls.isEmpty=(ss i).isEmpty:=(f.S.2 i _ (f9 h)).elim λls w=>⟨_,ls,f9 h,w.1,w.2,by
 have l:=w.2.len
 rcases ls with _|⟨_,_⟩
 ·rw[pL.mp l.symm];rfl
 ·rcases e:ss i with _|⟨_,_⟩
  ·rw[e]at l;cases l
  ·rfl⟩
theorem Wn{a b l:ae}(h:b<=a+60)(g:a+60*(l+1)<=4000):b+60*l<=4000:=by lia
theorem Wo{a b l m:ae}(h:b+m<=a+60)(g:a+60*(l+1)<=4000):b<bN:=by
 have sg:(bN:ae)=1000000:=aa
 lia
theorem aP6{x:Cl}(D:jL c bp gv)(h:x∈c.cs):0<=x.t0/\0<=x.t1/\x.t1<=1000/\x.t0<=1000/\(x.t1 - x.t0).toNat<=60/\(∀j:ae,j∈qy x.t0.toNat (x.t1 - x.t0).toNat↔x.t0<=j/\(j:ag)<x.t1)/\∀j:ae,(j:ag)<x.t1->j<c.code.length:=by
 have r:=D.zY x h
 have t0:=ji r.1
 have t1:=ji (eE r.1 (hJ r.2.1))
 have h1:=eE r.2.2.1 (eE (hJ r.2.2.2.1) r.2.2.2.2.1)
 have lt:=r.2.1
 have nn:=D.n
 rw[←t0,←t1]at lt|-
 rw[←t1]at h1
 have lt:=fh.mp lt
 have h1:=jH.mp h1
 rw[J4]
 exact⟨mq _,mq _,jH.mpr (aX h1 (aX nn ai)),jH.mpr (aX (jk lt) (aX h1 (aX nn ai))),aX (wy _ _) (aX h1 nn),λj=>List.mem_range'_1.trans ⟨λh=>⟨jH.mpr h.1,fh.mpr (tr (jk lt)▸h.2)⟩,λh=>⟨jH.mp h.1,(tr (jk lt)).symm▸fh.mp h.2⟩⟩,λj h=>fT (fh.mp h) h1⟩
abbrev Vs:=aB×aB×ae×aw V×aw V×aw V×aw V
abbrev qT(A:i4)(B:eG)(a:ae)(b:Vs):bf:=[ab (.r A.d),ab (.r B.v),ab (.r a),ab (.r b.2.2.1),ab (.b b.1),ab (.b b.2.1),b.2.2.2.1,b.2.2.2.2.1,b.2.2.2.2.2.1,b.2.2.2.2.2.2]
theorem ai5(K:fW c bp gv B ba)(f:rZ c A B ba cur at_ g bu a ss σ)(L:LW c gv ss fs [])(hf:bu.length=c.code.length)(b3:σ b=ab ⟨22,.l (fs.map c')⟩)(ax:fs.length<=60)
  (q:∀hit met jS mc hE oh pd ah gf,Ext σ ah->ah jS=ab ⟨22,.l (gf.map c')⟩->KQ c gv g ss fs gf hit met->(∀x∈c.cs,∀i,KX c ss x i->KR c g ss gf hit met x i)->gf.length<=4000->aH aj n r (qT A B a (hit,met,jS,mc,hE,oh,pd)) ah k):
  aH aj n (.dw [6] .r [.B .l [.u (.l 0) (.s 16)]] [.a 7 (.u (.u (.l 0) (.s 68)) (.l 6)),.a 8 (.C (.l 0) 1 .r [.u (.u (.u (.l 0) (.s 16)) (.l 6)) (.i 1),.u (.u (.u (.l 0) (.s 16)) (.l 6)) (.i 2)] [.p .n (.u (.l 1) (.l 0)) (.L [])] [2]),
   .i (.A (.l 7) (.p .n (.l 8) (.L []))) [.a 4 (.b ak),.dw [9] .i [.l 8] [.a 5 (.O (.l 5) (.p .m (.t [.l 7,.l 9]) (.a (.l 1) 54))),.i (.p .M (.t [.l 7,.l 9]) (.l 3)) [.a 3 (.o .a (.l 3) (.L [.t [.l 7,.l 9]]))] []]] []]::r) (qT A B a (av,av,b,aj,aj,aj,aj)) σ k:=by
 have D:=K.js
 have dc:=D.dc
 refine iF (λx:Cl×ae=>[.i (x.2:ae)]) (qT A B a) (λl b aJ=>Ext σ aJ/\∃gf,aJ b.2.2.1=ab ⟨22,.l (gf.map c')⟩/\KQ c gv g ss fs gf b.1 b.2.1/\gf.length+60*l.length<=4000/\∀x∈c.cs.zipIdx,x∈l\/∀i,KX c ss x.1 i->KR c g ss gf b.1 b.2.1 x.1 i) (av,av,b,aj,aj,aj,aj) aa
  (.c (.bi aa (.d f.C.o aa rfl) (jz f.C.al)) .N) (by rw[cN];exact C8 (aX dc ai)) (λU=>aa) (λU U U U=>trivial) aa ⟨Ext.rfl,fs,b3,⟨λU h=>h,λU=>aa,nofun⟩,by rw[rO];lia,λx h=>.inl h⟩ (λb aJ i=> ?_) λx l b aJ m i K' bV=> ?_
 ·rcases i with⟨aM,gf,o,f1,ax,bJ⟩
  exact q _ _ _ _ _ _ _ aJ gf aM o f1 (λx aE=>(tN.mp aE).elim λk az=>(bJ (x,k) (tO.mpr az)).resolve_left (λh=>nomatch h)) (aX (en _ _) ax)
 rcases i with⟨aM,rd,o,f1,ax,bJ⟩
 rw[jI]at ax
 have bA:=f.ext K aM
 have aE:=oc m
 have mx:=List.mem_of_getElem? aE
 have ew:=aP6 D mx
 have cl:∀{lm}{j:ag}{v},lm.get 0=ab (.r A.d)->lm.get 6=ab (.i x.2)->k5 [.i x.1.s,.i x.1.t0,.i x.1.t1,.i x.1.h0,.i x.1.h1,.i x.1.x] j=ab v->ck aj n aJ lm (.u (.u (.u (.l 0) (.s 16)) (.l 6)) (.i j)) v:=λh w9 e=>.bC (R.cl bA.C.al (.bC (.L h) .s (sub_d bA.C.o aa)) (.L w9) aE) .i (fG e)
 refine c7 (.bC (.d bA.C.o aa rfl) (.p aa) (fF bA.C.dJ (kS aE))) (xE (M.comp (its:=qy x.1.t0.toNat (x.1.t1 - x.1.t0).toNat) 1 (λj=> !(ss j).isEmpty) (λj=>.i (j:ae)) (λj=>[.i (j:ae)]) ai aa (.c (cl aa rfl aa) (.c (cl aa rfl aa) .N)) (aW7 ew.1 ew.2.1 ew.2.2.1 ew.2.2.2.1) (λU U=>trivial) (λU=>aa) (by rw[RM];exact aX ew.2.2.2.2.1 ai) λj cp ah hn=> ?_) λe a3 bl c3=> ?_)
 ·have cp:=(ew.2.2.2.2.2.1 j).mp cp
  refine qw ((bA.ext K hn).at (i:=j) (hf.symm▸ew.2.2.2.2.2.2 j cp.2)) λcL ls qb b3 U em=> ?_
  exact⟨em▸ne_nil (.bC (.p aa) (.p aa) (fF (hn _ _ bA.S.1) (kS qb))) b3,λU=>.p aa⟩
 have held:∀i:ae,i∈(qy x.1.t0.toNat (x.1.t1 - x.1.t0).toNat).filter (λj=> !(ss j).isEmpty)↔x.1.t0<=i/\(i:ag)<x.1.t1/\ss i≠[]:=λi=>by
  rw[rP,ew.2.2.2.2.2.1]
  have e:(!(ss i).isEmpty)=ak↔ss i≠[]:=by cases ss i with
   |nil=>exact⟨λh=>(nomatch h),λh=>aV rfl h⟩
   |cons _ _=>exact⟨λU=>nofun,λU=>aa⟩
  rw[e]
  exact and_assoc
 have hlen:((qy x.1.t0.toNat (x.1.t1 - x.1.t0).toNat).filter λj=> !(ss j).isEmpty).length<=60:=aX (TJ _ _) (by rw[RM];exact ew.2.2.2.2.1)
 generalize(qy x.1.t0.toNat (x.1.t1 - x.1.t0).toNat).filter (λj=> !(ss j).isEmpty)=hs at*
 have f2:=bA.ext K bl
 by_cases bad:c.bad x.1=0
 ·refine mi (b:=av) (R.up (.wR (.p aa) (aU ab (de (D4 bad))))) (λU=>aU ab (de (D4 bad))) nofun λU bM bH=>bV (b.1,b.2.1,b.2.2.1,ab (.i x.2),ab (.i (c.bad x.1)),ab (.r e),b.2.2.2.2.2.2) bM ⟨(aM.ay bl).ay bH,rd,(bl.ay bH) _ _ o,f1,aX (gC (Nat.mul_le_mul_left 60 (mw _)) _) ax,λy aQ=>(bJ y aQ).elim (λu=>(fS.mp u).elim (λu=>.inr λi h=>aV (aD u bad) h.1) .inl) .inr⟩
 refine mi (b:= !(hs.map λj:ae=>V.i j).isEmpty) (z5 (.p aa) (aU ab (cD bad)) (ne_nil (.p aa) c3)) (λU=>aa) (λz bM bH=> ?_) λz bM bH=>bV (b.1,b.2.1,b.2.2.1,ab (.i x.2),ab (.i (c.bad x.1)),ab (.r e),b.2.2.2.2.2.2) bM ⟨(aM.ay bl).ay bH,rd,(bl.ay bH) _ _ o,f1,aX (gC (Nat.mul_le_mul_left 60 (mw _)) _) ax,λy aQ=>(bJ y aQ).elim (λu=>(fS.mp u).elim (λu=>.inr λi h=> ?_) .inl) .inr⟩
 ·have told:∀{ah},Ext bM ah->ah B.v=_/\ah B.told=_:=λx=>⟨x _ _ (bH _ _ f2.w.o),x _ _ (bH _ _ f2.w.h.told)⟩
  refine c7 .Z (iF (its:=hs) (λj=>[.i (j:ae)]) (λcL:aB×ae×aw V=>qT A B a (ak,cL.1,cL.2.1,ab (.i x.2),ab (.i (c.bad x.1)),ab (.r e),cL.2.2)) (λl' cL ah=>Ext bM ah/\∃o2,ah cL.2.1=ab ⟨22,.l (o2.map c')⟩/\rd⊆o2/\o2.length+l'.length<=rd.length+60/\(b.2.1=ak->cL.1=ak)/\∀j∈hs,j∈l'\/(c.bad x.1,(j:ag))∈o2/\((c.bad x.1,(j:ag))∈g.told->cL.1=ak)) (b.2.1,b.2.2.1,b.2.2.2.2.2.2) aa
   (.p aa) (kF (bH _ _ c3)) (λU=>aa) (λU U U i=>⟨_,i.1 _ _ (bH _ _ c3)⟩) aa ⟨Ext.rfl,rd,(bl.ay bH) _ _ o,λU h=>h,gC hlen _,id,λj h=>.inl h⟩ (λcL cC i=> ?_) λj l' cL cC vt i pW Nc=> ?_)
  ·rcases i with⟨x4,o2,cX,s2,d2,zz,lG⟩
   refine bV (ak,cL.1,cL.2.1,_,_,_,_) cC ⟨((aM.ay bl).ay bH).ay x4,o2,cX,⟨λU h=>s2 (f1.sub h),nofun,λU=> ?_⟩,Wn d2 ax,λy aQ=>(bJ y aQ).elim (λu=>(fS.mp u).elim (λu=>.inr λi h=> ?_) .inl) λu=>.inr λi h=>⟨aa,s2 (u i h).2.1,λw=>zz ((u i h).2.2 w)⟩⟩
   ·rcases eh:hs with _|⟨j,_⟩
    ·rw[eh]at z;cases z
    ·have cp:=(held j).mp (aD eh dI)
     rcases ao:ss j with _|⟨s,_⟩
     ·exact aV ao cp.2.2
     ·exact⟨_,x.1,mx,j,s.1,s.2,L.re j s (aD ao dI),cp.1,cp.2.1,bad,aa⟩
   ·subst u
    exact⟨aa,(lG i ((held i).mpr h.2)).resolve_left λw=>nomatch w⟩
  ·rcases i with⟨x4,o2,cX,s2,d2,zz,lG⟩
   have T:=told x4
   rw[jI]at d2
   have L9:∀{Ge:af (ag×ag)},o2⊆Ge->(c.bad x.1,(j:ag))∈Ge->∀i∈hs,i∈l'\/(c.bad x.1,(i:ag))∈Ge/\((c.bad x.1,(i:ag))∈g.told->(cL.1||decide ((c.bad x.1,(j:ag))∈g.told))=ak):=λs m i hi=>(lG i hi).elim (λu=>(fS.mp u).elim (λu=>.inr ⟨aD u m,λw=>by rw[cD (aR u w),AF]⟩) .inl) λu=>.inr ⟨s u.1,λw=>by rw[u.2 w];rfl⟩
   refine c7 (.lO (.p aa) (.q (.p aa) (.A (.p aa) (dS T.1 aa)) ((sE T.2).trans (IP (p:=(c.bad x.1,(j:ag))))))) (eR (.q (.p aa) (.p aa) (Ck (f:=(c.bad x.1,(j:ag))) cX)) (λw=>xE (M.put 22 ai (.p aa) cX (by rw[cN];exact Wo d2 ax) (.p aa)) λe0 σ5 fR jB=>Nc (cL.1||decide ((c.bad x.1,(j:ag))∈g.told),e0,ab (.i j)) σ5 ⟨x4.ay fR,o2++[(c.bad x.1,(j:ag))],jB.trans (by rw[gA];rfl),λU h=>mv _ (s2 h),by rw[cK];exact aD (yn o2.length 1 l'.length) d2,λh=>by rw[zz h];rfl,L9 (λU h=>mv _ h) (lW _ dI)⟩) λw=>Nc (cL.1||decide ((c.bad x.1,(j:ag))∈g.told),cL.2.1,ab (.i j)) cC ⟨x4,o2,cX,s2,rR d2,λh=>by rw[zz h];rfl,L9 (λU h=>h) (c4 (qo w))⟩)
 ·subst u
  have cp:=(held i).mpr h.2
  rcases eh:hs with _|⟨_,_⟩
  ·rw[eh]at cp;cases cp
  ·rw[eh]at z;cases z
end
section
variable{σ ah:H}{n a b t p:ae}{c:cO}{bp:aB}{gv:eM}{A:i4}{B:eG}{ba:H->Prop}{g:eY}{cur:V}{at_:ag}{Q:bQ}{X:bR}{ss:lC}{fs:af (ag×ag)}{bu:af ae}{lm:bf}{r:af St}{k:cT}{i:ae}{d:af (ag×V)}{y:ag×V}
theorem Wi(h:y∈d):∃v,cw d y.1=ab v:=by
 induction d with
 |nil=>cases h
 |cons w d aI=>
  rw[nZ]
  by_cases z:w.1=y.1
  ·rw[bk z];exact⟨_,aa⟩
  ·rw[bh z];exact aI ((fS.mp h).resolve_left λe=>z (aR e aa))
theorem aQ9{q u:ae}{aq e2:aW}{l l':af (ag×ag)}(h1:ck aj n σ lm aq (.r p))(h2:ck aj n σ lm e2 (.r q))(c5:σ p=ab ⟨t,.l (l.map c')⟩)(cX:σ q=ab ⟨u,.l (l'.map c')⟩)(d9:l.Nodup)(e4:l'.Nodup)(Ou:l'.length<=60)(e:∀x,x∈l↔x∈l')(am0:∀ah,Ext σ ah->ck aj n ah lm e2 (.r q)):
  gb (W n) aj σ lm (.p .n (.B .s [aq]) (.B .s [e2])) (.b av):=λQ X fm=>by
 have P:=(List.perm_ext_iff_of_nodup d9 e4).mpr e
 have zz:=P.length_eq
 refine⟨aa,h1 _ _ (.sortP c5 (by lia) d9 λa na=>⟨1,ai,aa,am0 _ (Ext.rfl.new na) _ _ (.sortP (fO na cX) (by lia) e4 λb nb=>⟨1,ai,av,?_,fm _ ((Ext.rfl.new na).ay (Ext.rfl.new nb))⟩)⟩)⟩
 show(fx _ 8 (.r a) (.r b)).map _=_
 show(((lst _ a).bind λl=>(lst _ b).bind λm=>if l.length=m.length then lT (fx _ 7) l m else ab av):aw aB).map _=_
 rw[o9 (fO nb bc),o9 bc,show sortP _=sortP _ from aX4 OZ P]
 show(if _ then _ else _:aw aB).map _=_
 rw[bk rfl,bd3];rfl
theorem Yq{F:cy}{hd:aw ae}{op:kO}{aq e2:aW}{v:V}(h:R F hd σ lm aq v)(h2:vE aZ F hd lm e2 σ (λw ah=>∃b,j3 ah op v w=ab b/\Q (.b b) ah) X):vE aZ F hd lm (.p op aq e2) σ Q X:=h _ _ h2
theorem ax9(K:fW c bp gv B ba)(f:rZ c A B ba cur at_ g bu a ss σ)(L:LW c gv ss fs [])(hf:bu.length=c.code.length)(b3:σ b=ab ⟨22,.l (fs.map c')⟩)(W':fb c gv g (·∈g.told) aj)(wn:g.ct=[])(cx:g.told.Nodup)(dd:g.told.length<=1000)(gi:∀p i,(p,i)∈gv->f' g p 0 i)(q:∀ah,Q (.b ak) ah):W (n+2) 105 [.r A.d,.r B.v,.r a,.r b] σ Q X:=by
 have D:=K.js
 have nm:=aA8 L
 have fin:=Oj D W' wn gi
 have Oe:=ae7 D L
 have re:∀{p:ae}{x},g.cc p=ab x->∃y l,ss p=y::l/\x.1.length=y.1.length/\x∈ss p:=λ{p x} h=>by
  have m:=(sL L).mp (W'.sY h)
  rcases e:ss p with _|⟨y,l⟩
  ·rw[e]at m;cases m
  ·exact⟨y,l,aa,L.ev p _ _ m (aD e dI),aR e m⟩
 refine bD aa rfl (c7 .Z (c7 .Z (ai5 K f L hf b3 Oe λhit met jS mc hE oh pd aJ rd aM di f1 bJ ax=> ?_)))
 have hd:∀{f},oK c gv f->hit=ak/\f∈rd/\(f∈g.told->met=ak):=λh=>by
  rcases h with⟨x,aE,q,s,j,r,a,b,bad,e⟩
  rw[e]
  exact bJ x aE q ⟨bad,a,b,λz=>by have m:=(sL L).mp r;rw[z]at m;cases m⟩
 have bA:=f.ext K aM
 refine fH bA.w.h.cc λao c3 U he=> ?_
 have cn:∀{p:ae}{v},cw ao p=ab v->∃b x l,v=.r b/\g.cc p=ab x/\aJ b=ab ⟨1,.i 7 [(31,.r l),(32,.i x.2),(33,.i 0)]⟩/\aJ l=ab ⟨1,.l (aL x.1)⟩:=λ{p v} h=>((he p).resolve_left λw=>nomatch h.symm.trans w.1).elim λb w=>w.elim λx w=>w.2.2.elim λl u=>⟨b,x,l,cR (h.symm.trans w.1),w.2.1,u.1,u.2⟩
 refine aS0 (λo:aw V=>qT A B a (hit,met,jS,mc,hE,oh,o)) pd aa (.c (.A (.p aa) (dS bA.w.o aa)) .N) c3 ai aa (λpd a3 bl=> ?_) λy aQ o a3 k' f2 cX K' bV=> ?_
 ·have bA:=bA.ext K bl
  have di:=bl _ _ di
  refine eR (.p aa) (λz=> ?_) λz=> ?_
  ·rcases f1.yes z with⟨f0,h0⟩
   have mt:met=ak:=(fin.2.1 nm ⟨f0,h0⟩).elim λf1 w=>(hd w.2).2.2 w.1
   have ot:(g.told.filter λf=> !decide (f∈rd))=[]:=List.filter_eq_nil_iff.mpr λt aS e=>hy ((we _).symm.trans (aU (!·) e)) ((W'.vl t aS).elim (λ⟨p,s,j,r,e⟩=>f1.sub (L.u7 p (s,j) ((sL L).mp r) t e)) λu=>u.elim (λh=>(hd h).2.1) λm=>aV m nm)
   have w:=Fv (M.comp (F:=W (n+1)) (hd:=aj) (lm:=qT A B a (hit,met,jS,mc,hE,oh,pd)) (nv:=1) (e:=.l 0) (c:=.p .M (.l 0) (.l 1)) (over:=[.a (.l 1) 54]) (free:=[3]) 1 (λf=> !decide (f∈rd)) c' (λf=>[c' f]) ai aa (.c (.A (.p aa) (dS bA.w.o aa)) .N) (kF bA.w.h.told) (λU x=>⟨_,x _ _ bA.w.h.told⟩) (λU=>aa) dd λf U ah x=>⟨R.up (.q (.p aa) (.p aa) (Ck (x _ _ di))),λU=>.p aa⟩)
   rw[ot]at w
   exact xI (z5 (.p aa) (aU ab mt) w) λU x=>q _
  ·have nh:¬∃f,oK c gv f:=λ⟨f,h⟩=>nomatch z.symm.trans (hd h).1
   have F:=fin.2.2 nm nh
   rw[f1.no z]at di
   have same:∀x,x∈g.told↔x∈fs:=λx=>(F.1 x).trans ⟨λ⟨p,s,j,r,e⟩=>L.u7 p (s,j) ((sL L).mp r) x e,L.y7 x⟩
   refine mi (aQ9 (.A (.p aa) (dS bA.w.o aa)) (.p aa) bA.w.h.told di cx L.cx Oe same λU U=>.p aa) (λU=>aa) nofun λU bM bH=> ?_
   have bA:=bA.ext K bH
   refine iF (its:=gB bu.length) (λj=>[.i (j:ae)]) (λo:aw V=>qT A B a (hit,met,jS,mc,hE,oh,o)) (λU U ah=>Ext bM ah) pd aa (.c (.bi aa (.p aa) (jz bA.S.1)) .N) (by rw[cN];exact tb (by rw[hf];exact aX D.n ai)) (λU=>aa) (λU U U U=>trivial) aa Ext.rfl (λU cC U=>bP .Z (q cC)) λj l o cC vt x4 K' bV=> ?_
   have bA:=bA.ext K x4
   have cp:=pN.mp vt
   refine qw (bA.at cp) λcL ls qb b3 t5 em=> ?_
   have sb:∀{σ5:H}{lm:bf},Ext cC σ5->lm.get 2=ab (.r a)->lm.get 9=ab (.i j)->ck aj (n+1) σ5 lm (.u (.l 2) (.l 9)) (.r cL):=λx h qe=>.bC (.L h) (.L qe) (fF (x _ _ bA.S.1) (kS qb))
   have c3:=x4 _ _ (bH _ _ (bl _ _ c3))
   refine mi (b:=ls.isEmpty) (eq_nil (sb Ext.rfl aa rfl) b3) (λU=>aa) (λz σ5 fR=> ?_) λz σ5 fR=> ?_
   ·have bA:=bA.ext K fR
    have na:(cw ao j).isSome=av:=by
     rcases e:cw ao j with _|v
     ·rfl
     ·exact(cn e).elim λU w=>w.elim λx w=>w.elim λU w=>(re w.2.1).elim λy u=>u.elim λl u=>by rw[em,u.1]at z;cases z
    exact dV (.q (.p aa) (.A (.p aa) (dS bA.w.o aa)) (qj (fR _ _ c3))) na (bV (ab (.i j)) σ5 (x4.ay fR))
   ·have bA:=bA.ext K fR
    rw[em]at z
    rcases ao:ss j with _|⟨s0,_⟩
    ·rw[ao]at z;cases z
    ·refine b5 (F.2 j s0.1 s0.2 (L.re j s0 (aD ao dI))) λx aE U=> ?_
     refine tp ((he j).resolve_left (λw=>nomatch aE.symm.trans w.2)) λbs hn aq e2 U=> ?_
     refine Am (cn aq) λbm5 bp1 dG uu bF gK gU=> ?_
     cases uu
     cases cR (aE.symm.trans bF)
     have mx:=(sL L).mp (W'.sY aE)
     have sM:=k6 D (W'.sY aE)
     refine fH sM.2.2.2 λI6 Bz An U=> ?_
     have all:∀y∈ss j,y.1=val c y.2 I6/\(y.2=1\/y.2=0):=λy aQ=>by
      have sN:=k6 D (L.re j y aQ)
      refine⟨?_,sN.2.1.imp id ye⟩
      refine fH sN.2.2.2 λjD dO I5 U=> ?_
      have h:=L.ev j x y mx aQ
      rw[Bz,dO]at h
      unfold val at h
      rw[cN,cN]at h
      rw[dO,An.uniq D I5 h]
     have zl:I6.length<=9:=by
      have h:=sM.2.2.1
      rw[Bz]at h
      unfold val at h
      rwa[cN]at h
     have E4:=x4.ay fR
     have gK:=E4 _ _ (bH _ _ (bl _ _ gK))
     have gU:=E4 _ _ (bH _ _ (bl _ _ gU))
     have fZ:∀{ah f v},Ext σ5 ah->fM [(31,V.r dG),(32,.i x.2),(33,.i 0)] f=ab v->ck aj (n+1) ah (qT A B a (hit,met,jS,mc,hE,oh,ab (.i j))) (.a (.u (.a (.l 1) 45) (.l 9)) f) v:=λx h=>.A (.bC (.A (.p aa) (dS (x _ _ bA.w.o) aa)) (.p aa) (sub_d ((fR.ay x) _ _ c3) (aU ab aq))) (dS (x _ _ gK) h)
     refine mi (b:=av) (xD (b:=av) (c:=av) (R.up (.q (.p aa) (.A (.p aa) (dS bA.w.o aa)) ((aU (oE (!·)) (qj (fR _ _ c3))).trans (by rw[aq];rfl)))) λU h7 fp Q X q=> ?_) (λU=>aa) nofun λU h7 fp=>bV (ab (.i j)) h7 (E4.ay fp)
     have I0:=fR.ay fp
     refine Yq (.T (.c (fZ fp aa) (.c (fZ fp aa) .N)) qm) (d0 (l:=[.r A.d,.r cL]) (.c (.p aa) (.c (sb I0 aa rfl) .N)) (ax7 (n:=n) (m:=ss j) (z:=I6) (i:=x.2) (bA.ext K fp).C (I0 _ _ b3) (t5.mono λU U U h=>h.fr (S:=du) I0.fr aa) all zl (aX (G' D L) ai) (aR Bz mx) (λy aQ=> ?_) λe0 iI lU OW=>⟨av,?_,q iI lU⟩))
     ·refine b5 (F.2 j y.1 y.2 (L.re j y aQ)) λlh ar9 le=> ?_
      exact aD (cR (aE.symm.trans ar9)) le
     ·rw[←Bz]at OW
      exact aU (oE (!·)) ((Rf (x:=x) (u:=x) OW ⟨dG,aa,lU _ _ (fp _ _ gU)⟩).trans (aU ab (cD rfl)))
 ·rcases Wi aQ with⟨v,ev⟩
  rcases(he y.1).resolve_left (λw=>nomatch ev.symm.trans w.1)with⟨bs,x,aq,e2,l,gK,gU⟩
  refine b5 (W'.re y.1 x e2) λj ej r=> ?_
  rw[ej]at aq e2
  refine tp (re e2) λxW Ob l6 rj mx=> ?_
  have cH:=bA.S.fr f2 aa rfl λU=>q5 (by lia)
  refine qw (rZ.at (f:=⟨bA.C,bA.w,bA.S⟩) (hf.symm▸(k6 D r).1)) λcL ls qb b3 t5 em=> ?_
  rw[l6]at t5 em
  rcases t5.get (j:=0) aa with⟨v0,uz,jn,oZ,o0⟩
  rw[oZ]at uz
  have b3:=f2 _ _ b3 (q5 (by lia))
  have z:ls.isEmpty=av:=em
  have sb:∀{σ5:H}{lm:bf},Ext a3 σ5->lm.get 2=ab (.r a)->lm.get 9=ab (.i j)->ck aj (n+1) σ5 lm (.u (.l 2) (.l 9)) (.r cL):=λx h qe=>.bC (.L h) (.L qe) (fF (x _ _ cH.1) (kS qb))
  rw[ej]
  refine mi (b:=av) (xD (b:=av) (c:=av) (aR z (eq_nil (sb Ext.rfl aa rfl) b3)) λU bM bH=>R.up ?_) (λU=>aa) nofun λU bM bH=>bV (ab (.i j)) bM bH
  have T:=R.og (F:=W (n+1)) (hd:=aj) (l4 (.A (f:=31) (.bC (.A (f:=45) (.L (lm:=qT A B a (hit,met,jS,mc,hE,oh,ab (.i j))) (n:=1) aa) (dS (bH _ _ (f2 _ _ bA.w.o aa)) aa)) (.L (n:=9) aa) (sub_d (bH _ _ cX) (aU ab aq))) (dS (bH _ _ (f2 _ _ gK aa)) aa)) (bH _ _ (f2 _ _ gU aa))) (l4 (.bC (.bC (sb bH aa rfl) .i (fF (bH _ _ b3) (f5 (k:=0) uz))) .i (fG (i:=0) aa)) (bH _ _ (f2 _ _ o0 aa)))
  rw[rj,cD rfl]at T
  exact T
end
section
variable{σ ah:H}{n:ae}{c:cO}{bp:aB}{gv:eM}{A:i4}{B:eG}{ba:H->Prop}{g:eY}{cur:V}{at_:ag}{X:bR}
variable{v0 v1 v2 lg v4 hZ v6 fQ gW gX v10 v11 iX iH iv iY v16 hX hY ov v20 hb hc hg hh hj fP hk v28 gM v30 v31 gn gp iw hl gq gr gs gu gw v41 gy gz:aw V}
theorem Qi{f m:ae}{ao:af aW}{l:af V}{lm:bf}{r:af St}{k:cT}{hd:aw ae}(h:nX hd m σ lm ao l)(c:dQ aZ PP hd m f l σ k.r λa ah=>k.x a lm ah):aH hd m (.r (.f f ao)::r) lm σ k:=h _ _ c
theorem aU6{ga:ae}{gl:af V}(K:fW c bp gv B ba)(w:eZ c B ba cur at_ g σ)(L:fb c gv g (λU=>dg) aj)(h0:g.told=[]/\g.cU=[])(gi:∀p i,(p,i)∈gv->f' g p 0 i)(C:j9 c A σ)(pg:σ ga=ab ⟨23,.l gl⟩)(oI:dk (j4 σ) gl (gv.map λx=>((x.1:Int),([]:af ag),x.2))):
  aH aj (n+12) (hR.body.drop 46) [v0,v1,v2,lg,v4,hZ,v6,fQ,gW,gX,v10,v11,iX,iH,iv,iY,v16,hX,hY,ab (.r A.d),v20,hb,hc,hg,hh,hj,fP,hk,v28,gM,v30,ab (.r B.v),gn,gp,ab (.r ga),hl,gq,gr,gs,gu,gw,v41,gy,gz] σ (fz (λv U=>v=.b ak) X):=by
 refine d0 (.p aa) (bd8 K w L h0 gi λaJ g1 Bq ni f1 dP oN wn cx dd M5=> ?_)
 have ez:=C.fr f1 aa
 have up:∀{a3},Fr rX aJ a3->eZ c B ba Bq ni g1 a3:=λf=>⟨K.Q7 f dP.C,f _ _ dP.o aa,dP.h.fr f aa⟩
 refine Ql aa (.p aa) (ay8 (n:=n+7) K.js ez (f1 _ _ pg aa) (oI.fr f1 aa) (λa3 ss fs bu a b f2 hf S b3 LW=>⟨_,aa,aa,?_⟩) λa3 a b f2 aD0=>⟨_,aa,aa,?_⟩)
 ·exact dV (.not (.p aa) aa) aa (Qi (.p aa) (ax9 (n:=n+10) K ⟨ez.fr f2 aa,up f2,S⟩ LW hf b3 oN wn cx dd M5 λU=>aa))
 ·have h:=(Oj K.js oN wn M5).1 aD0
  refine gV (.not (.p aa) aa) aa (xI (ne_nil (.A (.p aa) (dS (up f2).o aa)) (up f2).h.told) λU U=> ?_)
  show V.b (!(g1.told.map c').isEmpty)=.b ak
  rcases h with⟨f,hf⟩
  rcases e:g1.told with _|⟨_,_⟩
  ·rw[e]at hf;cases hf
  ·rfl
end
noncomputable section
def BI(f:ae):aB×aB×aB×ag:=(decide (f=2)||(decide (f=5)||decide (f=6)),decide (f=2)||decide (f=5),decide (f=3)||decide (f=4),c0 [1,0,0,32,32,32,1,33] f)
abbrev cj(f:ae):aB:=(BI f).1
abbrev dE(f:ae):aB:=(BI f).2.1
abbrev mI(f:ae):aB:=(BI f).2.2.1
abbrev eP(f:ae):ag:=(BI f).2.2.2
def kE(f:ae):ag:=aG (dE f) 27 26
def ip(p:ae):af ag:=(([[],[7],[1,12],[22]]:af (af ag))[p]?).getD []
def eH(f p:ae):af ag:=aG (aA (eP f%2) 0) [aG (cj f) 26 22] []++ip p
def jT(l:af ag):ag:=l.head?.elim (-1) λk=>aG (aA k 1) 7 k
def nj(f:ae):af (ag×V):=aG (decide (f=4)) [] [(22,.i 12)]
end
structure mB(A:jm)(B:eG)(f p:ae)(tg:aB)(c:cO)(σ:H):Prop where
 O:eB σ A (ey (cj f) tg (dE f)) (nj f) [(67,.i 3)] kT [(19,.i 1)]
 body:σ B.body=ab ⟨1,.i 4 [(14,.t []),(15,.i c.most),(4,.r B.ac),(16,.r B.al)]⟩
 code:σ B.ac=ab ⟨1,.l (c.code.map eo.v)⟩
 cls:σ B.al=ab ⟨1,.l (c.cs.map Cl.v)⟩
 ew:σ B.ew=ab ⟨1,.i 10 [(16,.r B.al)]⟩
 args:σ B.args=ab ⟨1,.l (aL (eH f p))⟩
structure qR(A:jm)(B:eG)(f p:ae)(tg:aB)(c:cO)(σ:H):Prop extends mB A B f p tg c σ where
 ks:σ B.ks=ab ⟨16,.d nt⟩
 ops:∃(t:ae)(l:af (ag×V)),σ B.ops=ab ⟨t,.d l⟩/\t=16/\(∀op∈([69,57]:af ag),cw l op=aj)/\∀op∈([0,38,65033,122,221,65050,220,65041]:af ag),∃r,cw l op=ab (.r r)/\σ r=ab ⟨1,.i (z4 op) []⟩
section
variable{σ ah:H}{n f p:ae}{A:jm}{B:eG}{tg:aB}{c:cO}{Q:bQ}{X:bR}{S:ae->aB}{cur:V}{at_:ag}{gv:eM}{rows:af eV}{cls:af Cl}{mo:ag}{T:fi}{k a b:ag}
theorem mB.fr(h:mB A B f p tg c σ)(x:Fr S σ ah)(dZ:S 1=av)(z:∀t,fI 11 t=ak->fI t 15=ak->S t=av):mB A B f p tg c ah:=⟨h.O.fr x dZ z,x _ _ h.body dZ,x _ _ h.code dZ,x _ _ h.cls dZ,x _ _ h.ew dZ,x _ _ h.args dZ⟩
theorem qR.fr(h:qR A B f p tg c σ)(x:Fr S σ ah)(dZ:S 1=av)(z:∀t,fI 11 t=ak->fI t 16=ak->S t=av):qR A B f p tg c ah:={h.tomB.fr x dZ λt a b=>z t a (gP.mpr (aX (gP.mp b) ai))with
 ks:=x _ _ h.ks (z _ aa rfl)
 ops:=h.ops.elim λt w=>w.elim λl w=>⟨t,l,x _ _ w.1 (aD w.2.1 (z 16 aa rfl)),w.2.1,w.2.2.1,λop m=>(w.2.2.2 op m).elim λr u=>⟨r,u.1,x _ _ u.2 dZ⟩⟩}
theorem bc6(K:KT σ A.tor1 T)(h:fv T k=ak):eA (W (n+3)) σ 48 [.r A.kt,.i k] (.b (aA (d4 T k) 5||aA (d4 T k) 9)):=λU U q=>bD aa rfl (c7 (.K (.p aa) (kind_sort_ K h)) (bP (.p aa) q))
theorem OB{bs cY cZ c9:af (ag×V)}(O:eB σ A T bs cY cZ c9)(cg:fv T a=ak)(bb:fv T b=ak)(ne:a≠b)(h:(aA (d4 T a) 5||aA (d4 T a) 9)=av)(h2:(!isRef T a|| !isRef T b)=ak):eA (W (n+4)) σ 50 [.r A.h,.i a,.i b] (.i (-1)):=λQ E q=>
 bD aa rfl (dV (.p aa) (de ne) (c7 (.v O.o aa rfl) (Qh (.wR (.K (.p aa) (bc6 (n:=n) O.K cg)) (aU ab h)) (aU ab h) (gV (.lO (.not (.K (.p aa) (is_ref_ O.K cg)) aa) (.not (.K (.p aa) (is_ref_ O.K bb)) aa)) h2 (bP (.p aa) q)))))
theorem aO2{h:V}:kk (W (n+3)) σ 34 [h,.i k,.i k] (.b ak):=λQ E q=>by
 refine bD aa rfl (Qi (.p aa) (bD aa rfl (y4 (t:=1) (.p aa) aa rfl (iz aa) ai λa na=> ?_)))
 have x0:Ext σ (aC σ a ⟨1,.i 6 []⟩):=Ext.rfl.new na
 have o0:aC σ a ⟨1,.i 6 []⟩ a=_:=bc
 show dQ aZ PP aj (n+1) 33 [.r a,.i 0] (aC σ a ⟨1,.i 6 []⟩) _ _
 generalize aC σ a ⟨1,.i 6 []⟩=σ0 at*
 refine bD (D:=Mx) aa rfl (Qc (.p aa) aa o0 ai (e3 aa) aa λaJ gK c5=>s_atN 1 ai (.L .N hC) aa c5 ai (e3 aa) aa λU a3 U gU cX U U=>s_atN 1 ai (N.D (d:=.t []) aa .N aa) aa cX ai (e3 aa) aa λU bM U nA o3 U U=>s_atN 1 ai (N.D (d:=.t []) aa .N aa) aa o3 ai (e3 aa) aa λU cC U jc U U U=>⟨aa,?_⟩)
 have x4:Ext σ cC:=(((gK.ay gU).ay nA).ay jc).ext x0 na
 exact gV (.K (.p aa) (v:=.b ak) λU U q=>bD aa rfl (gV (.p aa) (cD rfl) (bP (.p aa) q))) aa (bP (.p aa) (q _ x4))
theorem aC2{bs cY cZ c9:af (ag×V)}(O:eB σ A T bs cY cZ c9)(cg:fv T a=ak)(bb:fv T b=ak)(h1:d4 T b=11)(h2:tid T b=a)(h3:isRef T a=ak):kk (W (n+4)) σ 51 [.r A.h,.i 1,.i a,.i b] (.i b):=λQ E q=>by
 refine b5 (z0 O.K bb) λr mL c=> ?_
 rcases C0 (r:=r)with⟨l,kW⟩
 have kX:tid T b=r.2.1:=by unfold tid;rw[mL];rfl
 have c:=c (n+2)
 rw[kW,←kX,h2]at c
 have aQ6:∀{lm:bf},lm.get 0=ab (.r A.h)->lm.get 3=ab (.i b)->ck aj (n+3) σ lm (.u (.m (.a (.l 0) 18) 12 [.l 3]) (.i 1)) (.i a):=λh h3=>.bC (.mR (.A (.L h) (dS O.o aa)) O.K.h0 aa rfl (.c (.L h3) .N) c) .i (fG (f5 (k:=1) aa))
 refine bD aa rfl (mi (v:=.b ak) (b:=ak) (z5 (.p aa) aa (z5 (v:=.b ak) (.K (.c (.v O.o aa rfl) (.p aa)) λU U q=>bD aa rfl (bP (.g6 (.K (.p aa) (kind_sort_ O.K bb)) .c) (show _ from aD (cD h1:decide (d4 T b=11)=ak) q))) aa (z5 (v:=.b ak) (aR h3 (.K (.c (.v O.o aa rfl) (.p aa)) (is_ref_ O.K cg))) aa (sZ (Rs.up (.c (.p aa) (.c (.p aa) (.c (aQ6 aa rfl) .N)))) λU U=>aO2)))) (λU=>aa) (λU aJ aM=>bP (.p aa) (q _ aM)) nofun)
theorem Dl{bs cY cZ c9:af (ag×V)}(O:eB σ A T bs cY cZ c9)(h:fv T k=ak):eA (W (n+3)) σ 49 [.r A.h,.i k] (.i (aG (decide (1<=k)&&decide (k<=8)) 7 (aG (aA k 10) 9 k))):=λQ E q=>by
 have aT:∀{m:ae},eA (W (m+1)) σ 22 [.i k] (.i (aG (decide (1<=k)&&decide (k<=8)) 7 (aG (aA k 10) 9 k))):=λU U q=>bD aa rfl (mh (.p aa) q (λU q=>bP (.p aa) q) λU q=>mh (.p aa) q (λU q=>bP (.p aa) q) λU q=>bP (.p aa) q)
 exact bD aa rfl (eR (.g6 (.K (.c (.v O.o aa rfl) (.p aa)) (kind_sort_ O.K h)) .c) (λU=>bP (.K (.c (.mR (.p aa) O.o aa rfl (.p aa) λU U q=>bD aa rfl (bP (.u' (.v O.o aa rfl) O.un (.p aa) (.p aa) aa) q)) .N) aT) q) λU=>bP (.K (.p aa) aT) q)
theorem Ho{l:af ag}{i:ae}(h:i<l.length):l[i]? =ab (c0 l (i:ae)):=by
 unfold c0
 rw[show((i:ag).toNat)=i from aa,f9 h]at|-;rfl
theorem cat_zip(st:aB):Fi st=List.zipWith (λu s=>aG (aA u 0) (Kv s) (Kw u)) (ha st) kG:=by cases st<;>rfl
theorem W9{e:ag}(h0:0<=e)(h:e<=14)(st:aB):∃i:ae,hU[i]? =ab (c0 hU e)/\(Fi st)[i]? =ab (aG (aA (c0 (ha st) e) 0) (Kv (c0 kG e)) (Kw (c0 (ha st) e))):=by
 have aq:=ji h0
 generalize e.toNat=i at aq
 subst aq
 have hi:i<15:=by lia
 exact⟨i,Ho hi,by rw[cat_zip,List.getElem?_zipWith,Ho (l:=ha st) hi,Ho (l:=kG) hi]at|-⟩
theorem PK{r:dr}(K:KT σ A.tor1 T)(h:cw T.ef r=ab (.i k))(h0:decide (0<=k)=ak){aq e2:aW}{lm:bf}(g1:ck aj (n+1) σ lm aq (.r A.kt))(g2:ck aj (n+1) σ lm e2 r.v):ck aj (n+1) σ lm (.m aq 13 [e2]) (.i k):=.mR g1 K.h0 aa rfl (.c g2 .N) (PI K h h0)
variable(dt:B.kt=A.kt/\B.host=A.h/\B.owner=22)
theorem sq{P:ae->Prop}(hf:f<8)(h0:P 0)(h1:P 1)(h2:P 2)(h3:P 3)(cQ:P 4)(gT:P 5)(w9:P 6)(qd:P 7):P f:=by
 rcases f with _|_|_|_|_|_|_|_|f
 all_goals first|assumption|exact aV hf (by lia)
theorem L1(hf:f<8)(h:mI f=ak):cj f=av/\dE f=av/\(eH f p).head?=ab 22/\eP f=32:=sq (P:=λf=>mI f=ak->cj f=av/\dE f=av/\(eH f p).head?=ab 22/\eP f=32) hf nofun nofun nofun (λU=>⟨aa,aa,aa,aa⟩) (λU=>⟨aa,aa,aa,aa⟩) nofun nofun nofun h
theorem QP(tg:aB):fv (ey av tg av) 22=ak/\fv (ey av tg av) 26=ak/\(aA (d4 (ey av tg av) 22) 5||aA (d4 (ey av tg av) 22) 9)=av/\(aA (d4 (ey av tg av) 26) 5||aA (d4 (ey av tg av) 26) 9)=av/\isRef (ey av tg av) 22=ak/\isRef (ey av tg av) 26=av/\d4 (ey av tg av) 26=11/\tid (ey av tg av) 26=22:=by cases tg<;>exact⟨aa,aa,aa,aa,aa,aa,aa,aa⟩
theorem ba1(st tg bz:aB):cw (ey st tg bz).ef (11,22,aj)=ab (.i (aG bz 27 26)):=by cases st<;>cases tg<;>cases bz<;>rfl
theorem ba0(st tg bz:aB)(h:bz=ak->st=ak):([7,1,22]:af ag).all (fv (ey st tg bz))=ak/\(bz=ak->fv (ey st tg bz) 26=ak):=by cases st<;>cases tg<;>cases bz<;>exact⟨aa,λh=>by first|rfl|cases h⟩
theorem Wq(hf:f<8)(a7:p<4):eH f p=[]\/∃k r,eH f p=k::r/\(k=7\/k=1\/k=22\/(k=26/\dE f=ak)):=by
 refine sq (P:=λf=>eH f p=[]\/∃k r,eH f p=k::r/\(k=7\/k=1\/k=22\/(k=26/\dE f=ak))) hf ?_ ?_ ?_ ?_ ?_ ?_ ?_ ?_
 all_goals first|exact .inr ⟨_,_,aa,.inr (.inr (.inl aa))⟩|exact .inr ⟨_,_,aa,.inr (.inr (.inr ⟨aa,aa⟩))⟩|skip
 all_goals
  rcases p with _|_|_|_|p
  ·exact .inl aa
  ·exact .inr ⟨_,_,aa,.inl aa⟩
  ·exact .inr ⟨_,_,aa,.inr (.inl aa)⟩
  ·exact .inr ⟨_,_,aa,.inr (.inr (.inl aa))⟩
  ·exact aV a7 (by lia)
theorem aw5(dt:B.kt=A.kt/\B.host=A.h/\B.owner=22)(hf:f<8)(a7:p<4)(g:gD rows cls [])(D:jL (oX rows cls (cj f) mo (jT (eH f p)) (kE f)) (mI f) gv):fW (oX rows cls (cj f) mo (jT (eH f p)) (kE f)) (mI f) gv B (qR A B f p tg (oX rows cls (cj f) mo (jT (eH f p)) (kE f)))where
 js:=D
 up:=λx h=>h.fr x aa λt a b=>tI.mpr (.inr (mn.mpr λu=>aV (aX (gP.mp a) (gP.mp u)) ai))
 Q7:=λx h=>h.fr x aa λt a b=>mn.mpr λu=>aV (aX (gP.mp u) (gP.mp b)) ai
 body:=λh=>h.body
 code:=λh=>h.code
 cls:=λh=>h.cls
 ew:=λh=>h.ew
 ops:=λh=>h.ops.elim λt w=>w.elim λl w=>⟨t,l,w.1,w.2.2⟩
 OH:=λ{σ n i ky} h z bp=>by
  have e:=L1 (p:=p) hf bp
  have O:=h.O
  rw[e.1,e.2.1]at O
  have w:=QP tg
  have aq:∀kY,jT (eH f p)=kY->(eH f p).head?=ab 22->kY=22:=λkY a b=>by unfold jT at a;rw[b]at a;exact a.symm
  have g5:=aq _ aa e.2.2.1
  have mL:kE f=26:=by unfold kE;rw[e.2.1];rfl
  unfold oX ho
  rw[dt.2.1,g5,mL]
  rcases z with⟨a,b⟩|⟨a,b⟩<;>rw[a,b]
  ·exact OB (a:=22) (b:=26) O w.1 w.2.1 ai w.2.2.1 (by rw[w.2.2.2.2.1,w.2.2.2.2.2.1];rfl)
  ·exact OB (a:=26) (b:=22) O w.2.1 w.1 ai w.2.2.2.1 (by rw[w.2.2.2.2.1,w.2.2.2.2.2.1];rfl)
 kB:=λ{σ n} h bp=>by
  have e:=L1 (p:=p) hf bp
  have O:=h.O
  rw[e.1,e.2.1]at O
  have w:=QP tg
  have aq:∀kY,jT (eH f p)=kY->(eH f p).head?=ab 22->kY=22:=λkY a b=>by unfold jT at a;rw[b]at a;exact a.symm
  have g5:=aq _ aa e.2.2.1
  have mL:kE f=26:=by unfold kE;rw[e.2.1];rfl
  unfold oX
  rw[dt.2.1,g5,mL]
  exact aC2 O w.1 w.2.1 w.2.2.2.2.2.2.1 w.2.2.2.2.2.2.2 w.2.2.2.2.1
 arg:=λ{σ} h=>by
  refine⟨_,h.args,λlt=> ?_,λge=> ?_⟩
  all_goals have a:=Wq hf a7
  ·have lt:jT (eH f p)<0:=lt
   rcases a with a|⟨k,r,e,az⟩
   ·exact a
   ·rw[e]at lt
    rcases az with h|h|h|h
    all_goals first|subst h|(rcases h with⟨h,_⟩;subst h)
    all_goals cases lt
  ·have ge:0<=jT (eH f p):=ge
   rcases a with a|⟨k,r,e,az⟩
   ·rw[a]at ge;cases ge
   ·refine⟨k,r,e,λn=> ?_⟩
    rw[dt.2.1]
    have bs:dE f=ak->cj f=ak:=sq (P:=λf=>dE f=ak->cj f=ak) hf nofun nofun (λU=>aa) nofun nofun (λU=>aa) nofun nofun
    have T:=ba0 (cj f) tg (dE f) bs
    show eA _ _ _ _ (.i (jT (eH f p)))
    rw[e]
    rcases az with az|az|az|⟨az,bb⟩<;>subst az
    ·exact Dl (k:=7) h.O (iK.mp T.1 _ ai)
    ·exact Dl (k:=1) h.O (iK.mp T.1 _ ai)
    ·exact Dl (k:=22) h.O (iK.mp T.1 _ ai)
    ·exact Dl (k:=26) h.O (T.2 bb)
 P9:=λ{σ n} h U=>EF λU U q=>bD aa rfl (bP (aD dt.1 (PK (r:=(11,22,aj)) h.O.K (ba1 _ _ _) (by cases dE f<;>rfl) (aR dt.1 (.p aa)) (aR dt.2.2 (.T (.c .c (.c (.p aa) .N)) qm)))) q)
 cat:=λ{σ n Q E cur at_} h o y aQ s0 bT bE=>by
  refine b5 (eS.mp aQ) λx aE e=> ?_
  subst e
  have s:x.s=0:=s0
  have ce:=(g.jr x aE).e s
  refine b5 (W9 ce.1 ce.2 (cj f)) λi h1 h2=> ?_
  have L:=B7 ce.1 ce.2 (cj f)
  have uu:(oX rows cls (cj f) mo (jT (eH f p)) (kE f)).bad (bA x)=aG (aA (c0 (ha (cj f)) x.x) 0&&aA mo 0) 20 (c0 (ha (cj f)) x.x):=by
   show ic (cj f) mo (bA x)=_
   unfold ic
   rw[fx_0 s,L.1,show(bA x).s=0 from s];rfl
  have ra:(oX rows cls (cj f) mo (jT (eH f p)) (kE f)).jO (bA x)=[c0 kG x.x]:=by
   show jq (bA x)=_
   unfold jq
   rw[fx_0 s,L.2.1,show(bA x).s=0 from s];rfl
  rw[fx_0 s]
  rw[uu]at bT bE
  rw[ra]at bE
  refine Xa (n:=n) h.O o h.ks dt.1 dt.2.1 h1 h2 ?_
  rcases u:aA (c0 (ha (cj f)) x.x) 0 with _|_
  ·rw[u]at bT
   refine⟨λk nr=>(nomatch nr),λc uv=> ?_⟩
   have uv:c0 (ha (cj f)) x.x=c:=Kw.inj uv
   have Hd:∀(st:aB)(e:Fin 15),c0 (ha st) (e.1:ae)≠20:=ai
   have e4:=Hd (cj f) ⟨x.x.toNat,by have:=ce.1;have:=ce.2;lia⟩
   rw[show((x.x.toNat:ae):ag)=x.x from ji ce.1]at e4
   exact aR uv (bT e4 (hy u))
  ·rw[u]at bT bE
   have ID:=c4 u
   refine⟨λk nr=> ?_,λc uv=>(nomatch uv)⟩
   have nr:c0 kG x.x=k:=Kv.inj nr
   refine bE ?_ k (aR nr L.2.2) λU=>by rw[nr]
   cases aA mo 0
   ·exact .inl ID
   ·exact .inr aa
end
section
variable{σ ah σ0:H}{n f p t:ae}{A:jm}{B:eG}{LD:i4}{tg:aB}{c:cO}{X:bR}{Q:bQ}{cur:V}{at_:ag}{gv:eM}{rows:af eV}{cls:af Cl}{mo:ag}{g:eY}{zs:af ag}{bG:ag}{lm:bf}{e:aW}{F:cy}{k:cT}{r:af St}
variable{v0 v1 v2 lg v4 hZ v6 fQ gW gX v10 v11 iX iH iv iY v16 hX hY ov v20 hb hc hg hh hj fP hk v28 gM v30 v31 gn gp iw hl gq gr gs gu gw v41 gy gz:aw V}
theorem R.cut{l:af V}{k:ae}(h:R F .none σ lm e (.t l))(lt:k<l.length):R F .none σ lm (.S (.to k) e) (.t (l.take k)):=λU U q=>⟨aa,h _ _ (.tup aa lt q)⟩
theorem Mn{C:ae}(aE:g8 aZ C=ab av)(hi:mN aZ 8 C=ab aj)(q:∀a ah,Ext σ ah->ah a=ab ⟨1,.i C []⟩->Q (.r a) ah):vE aZ F aj lm (.w C []) σ Q X:=Yt aE hi 1 ai λa na=>q a _ (Ext.rfl.new na) bc
abbrev rf:eY:=⟨λU=>aj,[],[],[]⟩
theorem aU5{ga:ae}{gl:af V}{ba:H->Prop}{bp:aB}(K:fW c bp gv B ba)(w:eZ c B ba cur at_ rf σ)(C:j9 c LD σ)(pg:σ ga=ab ⟨23,.l gl⟩)(oI:dk (j4 σ) gl (gv.map λx=>((x.1:Int),([]:af ag),x.2))):
  aH aj (n+12) (hR.body.drop 45) [v0,v1,v2,lg,v4,hZ,v6,fQ,gW,gX,v10,v11,iX,iH,iv,iY,v16,hX,hY,ab (.r LD.d),v20,hb,hc,hg,hh,hj,fP,hk,v28,gM,v30,ab (.r B.v),gn,gp,ab (.r ga),hl,gq,gr,gs,gu,gw,v41,gy,gz] σ (fz (λv U=>v=.b ak) X):=by
 have its:∃its:af (ae×ko),gl=its.map (λx=>V.t [.i x.2.1,.r x.1,.i x.2.2.2])/\its.map (·.2)=gv.map λx=>((x.1:Int),([]:af ag),x.2):=by
  generalize gv.map _=ws at*
  clear pg
  induction ws generalizing gl with
  |nil=>
      rcases gl with _|⟨_,_⟩
      ·exact⟨[],aa,aa⟩
      ·exact oI.elim
  |cons x ws aI=>
           rcases gl with _|⟨v,gl⟩
           ·exact oI.elim
           ·exact(aI oI.2).elim λits u=>oI.1.elim λa z=>⟨(a,x)::its,by rw[u.1,z.1];rfl,aU (x::·) u.2⟩
 refine b5 its λits ra em=> ?_
 have O0:=ra▸pg
 have sz:∀{S:ae->aB}{ah},Fr S σ ah->S 1=av->S 23=av->j9 c LD ah/\ah ga=ab ⟨23,.l gl⟩/\dk (j4 ah) gl (gv.map λx=>((x.1:Int),([]:af ag),x.2)):=λf z qx=>⟨C.fr f z,f _ _ pg qx,oI.fr f z⟩
 refine iF (its:=its) (λx=>[.i x.2.1,.r x.1,.i x.2.2.2]) (λb:aw V×aw V×aw V=>[v0,v1,v2,lg,v4,hZ,v6,fQ,gW,gX,v10,v11,iX,iH,iv,iY,v16,hX,hY,ab (.r LD.d),v20,hb,hc,hg,hh,hj,fP,hk,v28,gM,v30,ab (.r B.v),gn,gp,ab (.r ga),hl,gq,gr,b.1,b.2.1,b.2.2,v41,gy,gz])
  (λl U ah=>∃g,Fr lB σ ah/\eZ c B ba cur at_ g ah/\fb c gv g (λU=>dg) aj/\(g.told=[]/\g.cU=[])/\(∀p y,g.cc p=ab y->y.1=[])/\∀x∈its,x∈l\/f' g x.2.1 0 x.2.2.2) (gs,gu,gw) aa
  (.p aa) (kF O0) (λU=>aa) (λU U U i=>i.elim λg i=>⟨_,i.1 _ _ O0 aa⟩) aa ⟨rf,Fr.rfl,w,⟨λU U h=>(nomatch h),h9 _,.nil,λU h=>h.elim,λU U h=>(nomatch h)⟩,⟨aa,aa⟩,λU U h=>(nomatch h),λx h=>.inl h⟩ (λb aJ i=> ?_) λx l b aJ mx i K' bV=> ?_
 ·refine Rw i λg f1 dP L h0 U jQ=> ?_
  have z:=sz f1 aa rfl
  exact aU6 K dP L h0 (λp i h=>by
   have m:((p:ag),([]:af ag),i)∈its.map (·.2):=aD em (eS.mpr ⟨(p,i),h,aa⟩)
   refine b5 (eS.mp m) λx aE ex=> ?_
   have c:=(jQ x aE).resolve_left λh=>nomatch h
   rw[ex]at c
   exact c) z.1 z.2.1 z.2.2
 ·refine Rw i λg f1 dP L h0 Ft jQ=> ?_
  have m:x.2∈gv.map λx=>((x.1:Int),([]:af ag),x.2):=aR em (eS.mpr ⟨x,mx,aa⟩)
  refine b5 (eS.mp m) λy aQ uD=> ?_
  rw[←uD]
  have X9:∀{g3:eY},yz g y.1 ([],y.2) g3->∀p z,g3.cc p=ab z->z.1=[]:=λjM p z cV=>by
   rcases jM with⟨_,_,_⟩|_
   ·exact Ft p z cV
   ·have cV:(if p=y.1 then ab ([],y.2)else g.cc p)=ab z:=cV
    by_cases u:p=y.1
    ·rw[bk u]at cV;exact aR (cR cV) aa
    ·rw[bh u]at cV;exact Ft p z cV
  exact By (.p aa) (.p aa) (w4 (n:=n+11) (hd:=aj) 1 ai (N.up 1 ai (.L .N hC)) (λU U=>.p aa) λa b a3 bl c5 cX=>ML (n:=n+5) (x:=([],y.2)) K (dP.ext K bl).C (dP.ext K bl).o (dP.ext K bl).h (L.wl K.js) (λU U h=>L.sY h) (λU=>.given aQ) ⟨b,c5,cX⟩ (λU g3 bM g' jM cz h3=>(Ol K.js L g' jM).elim λL3 u=>u.elim λmA u=>u.elim λbF lE=>bV (_,_,_) bM ⟨g3,(f1.ay bl.fr).ay cz,⟨K.up (fE cz aa rfl) (dP.ext K bl).C,cz _ _ (dP.ext K bl).o aa,h3⟩,L3,⟨mA.dd.trans h0.1,bF.trans h0.2⟩,X9 jM,λz cV=>(jQ z cV).elim (λu=>(fS.mp u).elim (λu=>.inr (aD u (aR uD lE))) .inl) λu=>.inr (mA.jQ u)⟩) λF=>F.elim (λu=>aV rfl u.1) λu=>u.1.elim λy u=>aV (aU yk (Ft _ y u.1)) u.2)
theorem Vz{j:ae}{cn:ae}{hd:aw ae}(o:σ cn=ab ⟨t,.l (aL zs)⟩)(cp:j+1<zs.length)(h1:lm.get 1=ab (.r cn))(am1:lm.get 37=ab (.i j)):ck hd n σ lm (.u (.l 1) (.o .a (.l 37) (.i 1))) (.i (c0 zs ((j+1:ae):ag))):=
 .bC (.L h1) (.B (.L am1) .i λU q=>.add q) (fF o (vw ⟨j+1,aa,cp⟩))
theorem aU4{ga cn:ae}{gl:af V}{ba:H->Prop}{bp:aB}{gv0:eM}(up:∀{σ ah},Fr (b' 23 23) σ ah->ba σ->ba ah)(K:∀gv:eM,(∀p i,(p,i)∈gv->p<rows.length/\(i=1\/i=0/\bp=ak))->gv.length<=10->fW c bp gv B ba)(w:eZ c B ba cur at_ rf σ)(C:j9 c LD σ)(pg:σ ga=ab ⟨23,.l gl⟩)(oI:dk (j4 σ) gl (gv0.map λx=>((x.1:Int),([]:af ag),x.2)))(d8:∀p i,(p,i)∈gv0->p<rows.length/\(i=1\/i=0/\bp=ak))(rj:gv0.length=1)
  (os:σ cn=ab ⟨1,.l (aL zs)⟩)(cV:4<=zs.length)(a6:c.code.length=rows.length)(au:0<rows.length)(ap1:bp=(decide (f=3)||decide (f=4))){fC:ae}{eb:af ag}(b3:σ fC=ab ⟨25,.l (aL eb)⟩):
  aH aj (n+12) (hR.body.drop 44) [v0,ab (.r cn),ab (.i bG),ab (.i f),v4,hZ,ab (.r LD.ac),fQ,gW,gX,v10,v11,iX,iH,iv,iY,v16,hX,hY,ab (.r LD.d),v20,hb,hc,hg,hh,hj,fP,hk,v28,gM,v30,ab (.r B.v),gn,gp,ab (.r ga),ab (.r fC),gq,gr,gs,gu,gw,v41,gy,gz] σ (fz (λv U=>v=.b ak) X):=by
 refine b5 (oe (bG/64) (y:=4) ai) λm em m4=> ?_
 have gZ:=K gv0 d8 (rj▸ai)
 refine iF (its:=gB m) (λj=>[.i (j:ae)]) (λb:aw V×aw V=>[v0,ab (.r cn),ab (.i bG),ab (.i f),v4,hZ,ab (.r LD.ac),fQ,gW,gX,v10,v11,iX,iH,iv,iY,v16,hX,hY,ab (.r LD.d),v20,hb,hc,hg,hh,hj,fP,hk,v28,gM,v30,ab (.r B.v),gn,gp,ab (.r ga),ab (.r fC),gq,b.1,b.2,gu,gw,v41,gy,gz])
  (λl U ah=>∃gv gl,Fr (b' 23 23) σ ah/\(∀j∈l,j<3)/\gv.length+l.length<=4/\ah ga=ab ⟨23,.l gl⟩/\dk (j4 ah) gl (gv.map λx:ae×ag=>((x.1:ag),([]:af ag),x.2))/\∀p i,(p,i)∈gv->p<rows.length/\(i=1\/i=0/\bp=ak)) (gr,gs) aa
  (.c (em▸.hV (.fd (.p aa) ai) ai) .N) (tb (by lia)) (λU=>aa) (λU U U U=>trivial) aa ⟨gv0,gl,Fr.rfl,λj h=>by have:=pN.mp h;lia,by rw[mu];lia,pg,oI,d8⟩ (λb aJ i=> ?_) λj l b aJ vt i K' bV=> ?_
 ·refine Ry i λgv gl f1 U ax zO yy g1=> ?_
  exact aU5 (K gv g1 (aX (en _ _) (aX ax ai))) ⟨up f1 w.C,f1 _ _ w.o aa,w.h.fr f1 aa⟩ (C.fr f1 aa) zO yy
 ·refine Ry i λgv gl f1 lt ax zO yy g1=> ?_
  have N2:=lt j dI
  rw[jI]at ax
  have ez:=C.fr f1 aa
  have aI7:=f1 _ _ os aa
  have Qt:∀{ah lm},Ext aJ ah->bf.get lm 1=ab (.r cn)->bf.get lm 37=ab (.i j)->ck aj (n+12) ah lm (.u (.l 1) (.o .a (.l 37) (.i 1))) (.i (c0 zs ((j+1:ae):ag))):=λx a b=>Vz (x _ _ aI7) (by lia) a b
  have NA:(0:ag)<(rows.length:ag):=fh.mpr au
  refine b5 (oe (c0 zs ((j+1:ae):ag)) NA) λq eq ql=> ?_
  refine c7 (v:=.i (q:ae)) (.B (Qt Ext.rfl aa rfl) (.bi aa (.p aa) (a6▸cN (as:=c.code) eo.v▸jz ez.ac)) λU u=>.mod NA (eq▸u)) (eR (.q (.p aa) (.p aa) (aU (oE (!·)) ((sE (f1 _ _ b3 aa)).trans (Aj eb)))) (λz=> ?_) λz=>bV (_,_) aJ ⟨gv,gl,f1,λj h=>lt j (iL _ h),by lia,zO,yy,g1⟩)
  refine b5 (oe (c0 zs ((j+1:ae):ag)/64) (y:=2) ai) λu Fx rz=> ?_
  have NM:∃i:ag,(i=1\/i=0/\bp=ak)/\∀{ah:H}{lm:bf},Ext aJ ah->lm.get 3=ab (.i f)->bf.get lm 1=ab (.r cn)->bf.get lm 37=ab (.i j)->ck aj (n+12) ah lm (.I (.p .m (.l 3) (.t [.i 3,.i 4])) (.o .m (.o .f (.u (.l 1) (.o .a (.l 37) (.i 1))) (.i 64)) (.i 2)) (.i 1)) (.i i):=by
   have e2:decide ((f:ag)∈([3,4]:af ag))=bp:=by rw[ap1,←JK];exact decide_eq_decide.mpr ⟨λh=>by have:=fS.mp h;rcases this with h|h;exact .inl (lx h);exact .inr (lx (dv.mp h)),λh=>h.elim (λh=>h▸ai) λh=>h▸ai⟩
   refine⟨aG bp u 1,?_,λ{ah lm} x a b d=>aR e2 (.n9 (.q (.L a) (.p aa) (sD [3,4])) aa (aR Fx (.hV (.fd (Qt x b d) ai) ai)) .i)⟩
   rcases bp with _|_
   ·exact .inl aa
   ·exact(by lia:u=1\/u=0).imp (λh=>aU tK h) λh=>⟨aU tK h,aa⟩
  refine b5 NM λi hi ri=> ?_
  refine C2 (.p aa) (z3 (g:=(q:ag)) (s:=[]) (j:=i) (.p aa) (N.up 1 ai (.L .N hC)) λU x=>ri x aa rfl aa) zO ai (by rw[yy.len,cN];exact d7 (aX (en _ _) ax) ai) λv a3 bl T=> ?_
  have f2:Fr (b' 23 23) a3 (aC a3 ga ⟨23,.l (gl++[v])⟩):=Fr.upd Fr.rfl (bl _ _ zO) aa
  refine bV (_,_) _ ⟨gv++[(q,i)],gl++[v],(f1.ay bl.fr).ay f2,λj h=>lt j (iL _ h),by rw[cK,AP];lia,bc,by rw[gA];exact(((yy.fr (S:=du) bl.fr aa).fr f2 aa).app (.one (T.fr f2 aa))),λp ky h=>(gO.mp h).elim (g1 p ky) λh=> ?_⟩
  have e:=dv.mp h
  cases e
  exact⟨fh.mp ql,hi⟩
end
abbrev gR(f p:ae)(rows:af eV)(cls:af Cl)(mo:ag):cO:=oX rows cls (cj f) mo (jT (eH f p)) (kE f)
structure ua(f p:ae)(rows:af eV)(cls:af Cl)(mo:ag)(zs:af ag):Prop where
 f8:f<8
 jc:p<4
 g:gD rows cls []
 a6:rows.length<=60
 au:0<rows.length
 aK:cls.length<=60
 hm:0<=mo/\mo<=9
 cV:4<=zs.length
structure yv(A:jm)(B:eG)(LD:i4)(f:ae):Prop where
 kt:B.kt=A.kt
 h:B.host=A.h
 f3:B.owner=22
 bu:B.flags=eP f
 ac:LD.ac=B.ac
 al:LD.al=B.al
section
variable{σ ah σ0:H}{n f p t cn:ae}{A:jm}{B:eG}{LD:i4}{tg:aB}{c:cO}{X:bR}{Q:bQ}{cur:V}{at_:ag}{gv:eM}{rows:af eV}{cls:af Cl}{mo:ag}{g:eY}{zs:af ag}{bG:ag}{lm:bf}{e:aW}{F:cy}{k:cT}{r:af St}
variable{v0 v1 v2 lg v4 hZ v6 fQ gW gX v10 v11 iX iH iv iY v16 hX hY ov v20 hb hc hg hh hj fP hk v28 gM v30 v31 gn gp iw hl gq gr gs gu gw v41 gy gz:aw V}
theorem qR.hi{a b:ae}(h:qR A B f p tg c σ)(x:Fr (b' a b) σ ah)(y:fI 17 a=ak):qR A B f p tg c ah:=
 have z:∀{t},fI t 16=ak->b' a b t=av:=λu=>tI.mpr (.inl (mn.mpr λv=>aV (aX (gP.mp y) (aX (gP.mp v) (gP.mp u))) ai))
 h.fr x (z aa) λU U u=>z u
theorem Fo(h:f<8)(tg:aB):0<=eP f/\fv (ey (cj f) tg (dE f)) 22=ak/\(!decide ((((eP f).toNat&&& 32:ae):ag)=0)&&(decide ((((eP f).toNat&&& 1:ae):ag)=0)&& !isVal (ey (cj f) tg (dE f)) 22))=mI f/\isVal (ey (cj f) tg (dE f)) 22=cj f:=by
 cases tg<;>exact sq (P:=λf=>0<=eP f/\fv (ey (cj f) _ (dE f)) 22=ak/\(!decide ((((eP f).toNat&&& 32:ae):ag)=0)&&(decide ((((eP f).toNat&&& 1:ae):ag)=0)&& !isVal (ey (cj f) _ (dE f)) 22))=mI f/\isVal (ey (cj f) _ (dE f)) 22=cj f) h ⟨ai,aa,aa,aa⟩ ⟨ai,aa,aa,aa⟩ ⟨ai,aa,aa,aa⟩ ⟨ai,aa,aa,aa⟩ ⟨ai,aa,aa,aa⟩ ⟨ai,aa,aa,aa⟩ ⟨ai,aa,aa,aa⟩ ⟨ai,aa,aa,aa⟩
theorem LB(h:f<8):∃i:ag,(cw (nj f) 22).getD (.i (-1))=.i i/\aG (mI f&&decide (0<=i)) 0 1=aG (decide (f=3)) (0:ag) 1/\(aG (decide (f=3)) (0:ag) 1=1\/aG (decide (f=3)) (0:ag) 1=0/\mI f=ak):=
 sq (P:=λf=>∃i:ag,(cw (nj f) 22).getD (.i (-1))=.i i/\aG (mI f&&decide (0<=i)) 0 1=aG (decide (f=3)) (0:ag) 1/\(aG (decide (f=3)) (0:ag) 1=1\/aG (decide (f=3)) (0:ag) 1=0/\mI f=ak)) h ⟨_,aa,aa,.inl aa⟩ ⟨_,aa,aa,.inl aa⟩ ⟨_,aa,aa,.inl aa⟩ ⟨_,aa,aa,.inr ⟨aa,aa⟩⟩ ⟨_,aa,aa,.inl aa⟩ ⟨_,aa,aa,.inl aa⟩ ⟨_,aa,aa,.inl aa⟩ ⟨_,aa,aa,.inl aa⟩
theorem MF(n4:f<8)(b:yv A B LD f)(K:mB A B f p tg c σ)(o:mE σ B cur at_):eA (W (n+4)) σ 85 [.r B.v] (.i (aG (decide (f=3)) 0 1)):=λQ E q=>by
 have w:=Fo n4 tg
 refine fH (LB n4) λi aq e2 U=> ?_
 have ctor:eA (W (n+3)) σ 78 [.r B.v] (.b (mI f)):=λU U q=>by
  rw[←w.2.2.1]at q
  exact bD aa rfl (bP (.hN (.og (.B (.v o aa (aU (λi=>ab (V.i i)) b.bu)) .c λU q=>.band w.1 ai q) .i) (.hN (.g6 (.B (.v o aa (aU (λi=>ab (V.i i)) b.bu)) .c λU q=>.band w.1 ai q) .i) (.not (.K (.c (.v o aa (aU (λa=>ab (V.r a)) b.kt)) (.c (.v o aa (aU (λi=>ab (V.i i)) b.f3)) .N)) (GR K.O.K w.2.1)) aa))) q)
 exact bD aa rfl (mh (.hN (.K (.p aa) ctor) (.q (.mR (.v o aa (aU (λa=>ab (V.r a)) b.h)) K.O.o aa rfl (.c (.v o aa (aU (λi=>ab (V.i i)) b.f3)) .N) λU U q=>bD aa rfl (bP (.u' (.v K.O.o aa rfl) K.O.fC (.p aa) (.p aa) aq) q)) .i aa)) (aD e2 q) (λU q=>bP (.p aa) q) λU q=>bP (.p aa) q)
theorem aR4{T:V->H->Prop}{hd:aw ae}{m:ae}(t:ae)(aS:t≠0)(h:E0 (dQ aZ PP hd n) hd σ lm e T)(q:∀a v ah,Ext σ ah->T v ah->ah a=aj->aH hd n r (lm.set m (ab (.r a))) (aC ah a ⟨t,.l [v]⟩) k):aH hd n (.a m (.L [e])::r) lm σ k:=h _ _ λv ah x T=>⟨ob,λa na=>⟨t,aS,q a v ah x T na⟩⟩
theorem aU3(x:ua f p rows cls mo zs)(b:yv A B LD f)(w:eZ (gR f p rows cls mo) B (qR A B f p tg (gR f p rows cls mo)) cur at_ rf σ)(C:j9 (gR f p rows cls mo) LD σ)(os:σ cn=ab ⟨1,.l (aL zs)⟩):
  aH aj (n+12) (hR.body.drop 41) [v0,ab (.r cn),ab (.i bG),ab (.i f),v4,hZ,ab (.r LD.ac),fQ,gW,gX,v10,v11,iX,iH,iv,iY,v16,hX,hY,ab (.r LD.d),v20,hb,hc,hg,hh,hj,fP,hk,v28,gM,v30,ab (.r B.v),gn,gp,iw,hl,gq,gr,gs,gu,gw,v41,gy,gz] σ (fz (λv U=>v=.b ak) X):=by
 have k1:∀gv:eM,(∀p i,(p,i)∈gv->p<rows.length/\(i=1\/i=0/\mI f=ak))->gv.length<=10->fW (gR f p rows cls mo) (mI f) gv B (qR A B f p tg (gR f p rows cls mo)):=λgv g1 gl=>aw5 ⟨b.kt,b.h,b.f3⟩ x.f8 x.jc x.g (Mb x.g x.a6 x.aK x.hm (by unfold kE;cases dE f<;>decide) g1 gl)
 have nr:(gR f p rows cls mo).code.length=rows.length:=cN _
 have first:=LB x.f8
 refine aR4 23 ai (z3 (s:=[]) .i (N.up 1 ai (.L .N hC)) λU bl=>.K (.p aa) (MF (n:=n+8) x.f8 b (w.C.fr bl.fr aa λU U U=>aa).tomB (bl _ _ w.o))) λga v a3 bl T na=>kg 25 ai (.L .N hC) λfC nb=> ?_
 have Rv:Ext a3 (aC a3 ga ⟨23,.l [v]⟩):=Ext.rfl.new na
 have I1:Ext (aC a3 ga ⟨23,.l [v]⟩) (aC (aC a3 ga ⟨23,.l [v]⟩) fC ⟨25,.l []⟩):=Ext.rfl.new nb
 have bH:=(bl.ay Rv).ay I1
 have pg:=I1 _ _ (bc (σ:=a3) (a:=ga) (o:=⟨23,.l [v]⟩))
 have b3:aC (aC a3 ga ⟨23,.l [v]⟩) fC ⟨25,.l []⟩ fC=_:=bc
 have T:=(T.fr (S:=du) Rv.fr aa).fr (S:=du) I1.fr aa
 show aH aj (n+12) (hR.body.drop 43) _ _ _
 generalize aC (aC a3 ga ⟨23,.l [v]⟩) fC ⟨25,.l []⟩=bM at*
 have wD:=C.fr (S:=du) bH.fr aa
 have kW:((gR f p rows cls mo).cs.map Cl.v).length=cls.length:=(cN _).trans (cN _)
 refine iF (its:=gB cls.length) (λj=>[.i (j:ae)]) (λb:aw V=>[v0,ab (.r cn),ab (.i bG),ab (.i f),v4,hZ,ab (.r LD.ac),fQ,gW,gX,v10,v11,iX,iH,iv,iY,v16,hX,hY,ab (.r LD.d),v20,hb,hc,hg,hh,hj,fP,hk,v28,gM,v30,ab (.r B.v),gn,gp,ab (.r ga),ab (.r fC),b,gr,gs,gu,gw,v41,gy,gz])
  (λl U ah=>Fr (b' 25 25) bM ah/\(∀j∈l,j<cls.length)/\∃eb:af ag,ah fC=ab ⟨25,.l (aL eb)⟩/\eb.length+2*l.length<=120) gq aa
  (.c (.bi aa (.c (.bC (.p aa) .s (sub_d wD.o aa)) .N) (kW▸jz wD.al)) .N) (tb (aX x.aK ai)) (λU=>aa) (λU U U U=>trivial) aa ⟨Fr.rfl,λj h=>pN.mp h,[],b3,by rw[mu];exact aX (eK (iA _)) (Nat.mul_le_mul_left 2 x.aK)⟩ (λb1 cC i=> ?_) λj l b1 cC vt i K' bV=> ?_
 ·rcases i with⟨f4,_,eb,zJ,_⟩
  exact aU4 (gv0:=[(0,aG (decide (f=3)) 0 1)]) (λh y=>y.hi h aa) k1 ⟨(w.C.fr (S:=du) bH.fr aa λU U U=>aa).hi f4 aa,f4 _ _ (bH _ _ w.o) aa,(w.h.fr (S:=du) bH.fr aa).fr f4 aa⟩ (wD.fr f4 aa) (f4 _ _ pg aa) ⟨T.fr f4 aa,trivial⟩ (λp i h=>by cases dv.mp h;exact first.elim λU w=>⟨x.au,w.2.2⟩) aa (f4 _ _ (bH _ _ os) aa) x.cV nr x.au aa zJ
 ·rcases i with⟨f4,lt,eb,zJ,ax⟩
  have cp:j<(cls.map bA).length:=(cN (as:=cls) bA).symm▸lt j dI
  have aQ:=f9 cp
  generalize(cls.map bA)[j]=y at aQ
  have mf:∀{ah:H}{lm:bf},Fr (b' 25 25) bM ah->lm.get 19=ab (.r LD.d)->bf.get lm 36=ab (.i j)->ck aj (n+12) ah lm (.u (.u (.l 19) (.s 16)) (.l 36)) y.v:=λf a b=>
   have C:=wD.fr f aa
   .bC (.bC (.L a) .s (sub_d C.o aa)) (.L b) (fF C.al (f5 (k:=j) (by rw[lV]at|-;exact aU (oE Cl.v) aQ)))
  rw[jI]at ax
  have fin:∀n1 ah,Fr (b' 25 25) bM ah->ah fC=ab ⟨25,.l (aL n1)⟩->n1.length<=eb.length+2->K' _ ah:=λn1 ah f o h=>bV (ab (.i j)) ah ⟨f,λj h=>lt j (iL _ h),n1,o,by lia⟩
  have two:∀n1 ah,Fr (b' 25 25) bM ah->ah fC=ab ⟨25,.l (aL n1)⟩->n1.length<=eb.length+1->aH aj (n+12) [.i (.p .e (.u (.u (.u (.l 19) (.s 16)) (.l 36)) (.i 0)) (.i 1)) [.e (.m (.l 35) 0 [.u (.u (.u (.l 19) (.s 16)) (.l 36)) (.i 5)])] []] _ ah (km K' (fz (λv U=>v=.b ak) X)):=λn1 ah f o h=>
   eR (.g6 (.bC (mf f aa rfl) .i (fG (f5 (k:=0) aa))) .i) (λU=>fw (.p aa) (.bC (mf f aa rfl) .i (fG (f5 (k:=5) aa))) o ai (aD gI (d7 (aX h (by lia:eb.length+1<=120)) ai)) (fin (n1++[y.x]) _ (f.upd o aa) (aR n' bc) (by rw[cK];exact pQ h))) λU=>fin n1 _ f o (AS h)
  exact eR (.q (.bC (mf f4 aa rfl) .i (fG (f5 (k:=0) aa))) .i aa) (λU=>fw (.p aa) (.bC (mf f4 aa rfl) .i (fG (f5 (k:=3) aa))) zJ ai (aD gI (d7 (by lia:eb.length<=120) ai)) (two (eb++[y.h0]) _ (f4.upd zJ aa) (aR n' bc) (by rw[cK];exact da _))) λU=>two eb _ f4 zJ (mw _)
end
section
variable{σ ah σ0:H}{n f p t cn:ae}{A:jm}{B:eG}{LD:i4}{tg:aB}{c:cO}{X:bR}{Q:bQ}{cur:V}{at_:ag}{rows:af eV}{cls:af Cl}{mo:ag}{zs:af ag}{bG:ag}
variable{v0 v1 v2 lg v4 hZ v6 fQ gW gX v10 v11 iX iH iv iY v16 hX hY ov v20 hb hc hg hh hj fP hk v28 gM v30 v31 gn gp iw hl gq gr gs gu gw v41 gy gz:aw V}
structure Vy(σ:H)(a:ae)(ops:af ag)(m:ae)(l:af (ag×V)):Prop where
 o:σ a=ab ⟨16,.d l⟩
 m:l.length<=m
 z:∀op∈([69,57]:af ag),cw l op=aj
 r:∀op∈ops,∃r,cw l op=ab (.r r)/\σ r=ab ⟨1,.i (z4 op) []⟩
theorem uB{lm:bf}{F:cy}{i:ag}{C:ae}{ao:af aW}{Q:af V->dn}(aE:g8 aZ C=ab av)(hi:mN aZ 8 C=ab aj)(q:∀a ah,Ext σ ah->ah a=ab ⟨1,.i C []⟩->h4 aZ F aj lm ao ah (λl=>Q (.i i::.r a::l)) X):h4 aZ F aj lm (.i i::.w C []::ao) σ Q X:=Mn (lm:=lm) aE hi q
theorem Yu{lm:bf}{F:cy}(q:∀d l ah,σ d=aj->Ext σ ah->Vy ah d [0,38,65033,122,221,65050,220] 7 l->Q (.r d) ah):vE aZ F aj lm (.D .i [.i 0,.w 11 [],.i 38,.w 12 [],.i 65033,.w 13 [],.i 122,.w 14 [],.i 221,.w 15 [],.i 65050,.w 14 [],.i 220,.w 14 []]) σ Q X:=by
 refine⟨aa,uB aa rfl λoj aJ aM c5=>uB aa rfl λa0 a3 bl cX=>uB aa rfl λbX bM bH o3=>uB aa rfl λg' cC x4 jX=>uB aa rfl λxt σ5 fR jB=>uB aa rfl λPN h7 fp mc=>uB aa rfl λvH iI lU hE=>⟨.d [(0,.r oj),(38,.r a0),(65033,.r bX),(122,.r g'),(221,.r xt),(65050,.r PN),(220,.r vH)],aa,λd cx=>⟨16,ai,?_⟩⟩⟩
 have vX:Ext iI (aC iI d ⟨16,.d [(0,.r oj),(38,.r a0),(65033,.r bX),(122,.r g'),(221,.r xt),(65050,.r PN),(220,.r vH)]⟩):=Ext.rfl.new cx
 have ke:=(((((((aM.ay bl).ay bH).ay x4).ay fR).ay fp).ay lU).free cx)
 have lU:=lU.ay vX
 have fp:=fp.ay lU
 have fR:=fR.ay fp
 have x4:=x4.ay fR
 have bH:=bH.ay x4
 have bl:=bl.ay bH
 exact q _ _ _ ke (aM.ay bl) ⟨bc,da 7,i3.mpr ⟨aa,AO.mpr aa⟩,i3.mpr ⟨⟨_,aa,bl _ _ c5⟩,i3.mpr ⟨⟨_,aa,bH _ _ cX⟩,i3.mpr ⟨⟨_,aa,x4 _ _ o3⟩,i3.mpr ⟨⟨_,aa,fR _ _ jX⟩,i3.mpr ⟨⟨_,aa,fp _ _ jB⟩,i3.mpr ⟨⟨_,aa,lU _ _ mc⟩,AO.mpr ⟨_,aa,vX _ _ hE⟩⟩⟩⟩⟩⟩⟩⟩
theorem aS9{aq:aW}{lm:bf}{d C:ae}{i:ag}{l:af (ag×V)}{r:af St}{k:cT}(aE:g8 aZ C=ab av)(hi:mN aZ 8 C=ab aj)(g:∀ah,Ext σ ah->ck aj n ah lm aq (.r d))(a:σ d=ab ⟨t,.d l⟩)(aS:t≠0)(ax:l.length<bN)(q:∀a ah,Ext σ ah->ah a=ab ⟨1,.i C []⟩->aH aj n r lm (aC ah d ⟨t,.d (dA l i (.r a))⟩) k):aH aj n (.S aq (.i i) (.w C [])::r) lm σ k:=
 ⟨aa,Mn (lm:=lm) aE hi λb ah x o=>g ah x _ _ (.dict (x _ _ a) (pq ax) aS (q b ah x o))⟩
theorem mB.hi{a b:ae}(h:mB A B f p tg c σ)(x:Fr (b' a b) σ ah)(y:fI 16 a=ak):mB A B f p tg c ah:=
 have z:∀{t},fI t 15=ak->b' a b t=av:=λu=>tI.mpr (.inl (mn.mpr λv=>aV (aX (gP.mp y) (aX (gP.mp v) (gP.mp u))) ai))
 h.fr x (z aa) λU U u=>z u
theorem mB.lo{a b:ae}(h:mB A B f p tg c σ)(x:Fr (b' a b) σ ah)(y:fI 2 a=ak)(w:fI b 10=ak):mB A B f p tg c ah:=
 h.fr x (tI.mpr (.inl (mn.mpr λv=>aV (aX (gP.mp y) (gP.mp v)) ai))) λU u U=>tI.mpr (.inr (mn.mpr λv=>aV (aX (gP.mp u) (aX (gP.mp v) (gP.mp w))) ai))
theorem aU2(x:ua f p rows cls mo zs)(b:yv A B LD f)(K:mB A B f p tg (gR f p rows cls mo) σ)(of:σ B.ks=ab ⟨16,.d nt⟩)(o:mE σ B cur at_)(w:lY (gR f p rows cls mo) B rf σ)(C:j9 (gR f p rows cls mo) LD σ)(os:σ cn=ab ⟨1,.l (aL zs)⟩):
  aH aj (n+12) (hR.body.drop 39) [v0,ab (.r cn),ab (.i bG),ab (.i f),v4,hZ,ab (.r LD.ac),fQ,gW,gX,v10,v11,iX,iH,iv,iY,v16,hX,hY,ab (.r LD.d),v20,hb,hc,hg,hh,hj,fP,hk,v28,gM,v30,ab (.r B.v),gn,gp,iw,hl,gq,gr,gs,gu,gw,v41,gy,gz] σ (fz (λv U=>v=.b ak) X):=by
 refine Yu λd l aJ ke aM r3=>R.ev (v:=.r B.v) (.p aa) (.i (aM _ _ o) ai (e3 aa) aa ?_)
 have f2:Fr (b' 2 2) aJ (aC aJ B.v ⟨2,.i 9 (ow {B with ops:=d} cur at_)⟩):=Fr.upd Fr.rfl (aM _ _ o) aa
 have cX:mE (aC aJ B.v ⟨2,.i 9 (ow {B with ops:=d} cur at_)⟩) {B with ops:=d} cur at_:=bc
 show aH aj (n+12) (hR.body.drop 40) _ (aC aJ B.v ⟨2,.i 9 (ow {B with ops:=d} cur at_)⟩) _
 generalize aC aJ B.v _=a3 at*
 refine aS9 aa rfl (λah hn=>.A (.p aa) (dS (hn _ _ cX) aa)) (f2 _ _ r3.o aa) ai (d7 r3.m ai) λCw bM bH hE=> ?_
 have f4:Fr (b' 16 16) bM (aC bM d ⟨16,.d (dA l 65041 (.r Cw))⟩):=Fr.upd Fr.rfl (bH _ _ (f2 _ _ r3.o aa)) aa
 have aH8:aC bM d ⟨16,.d (dA l 65041 (.r Cw))⟩ B.ks=_:=(iu (k4 of ke)).trans (bH _ _ (f2 _ _ (aM _ _ of) aa))
 have vC:aC bM d ⟨16,.d (dA l 65041 (.r Cw))⟩ d=_:=bc
 generalize aC bM d _=cC at*
 have h:=(((w.fr (S:=du) aM.fr aa).fr f2 aa).fr (S:=du) bH.fr aa).fr f4 aa
 exact aU3 (B:={B with ops:=d}) x ⟨b.kt,b.h,b.f3,b.bu,b.ac,b.al⟩ ⟨{(((K.fr (S:=du) aM.fr aa λU U U=>aa).lo f2 aa rfl).fr (S:=du) bH.fr aa λU U U=>aa).hi f4 aa with
  ks:=aH8
  ops:=⟨16,_,vC,aa,λop m=>q1.trans ((bh λe=>aV (e▸m) ai).trans (r3.z op m)),λop m=>(gO.mp (show op∈[0,38,65033,122,221,65050,220]++[65041]from m)).elim (λm=>(r3.r op m).elim λr u=>⟨r,q1.trans ((bh λe=>aV (e▸m) ai).trans u.1),f4 _ _ (bH _ _ (f2 _ _ u.2 aa)) aa⟩) λm=>⟨Cw,q1.trans (bk (dv.mp m)),dv.mp m▸f4 _ _ hE aa⟩⟩},f4 _ _ (bH _ _ cX) aa,⟨h.cc,h.h6,h.iZ,h.je,h.ent,h.told⟩⟩ ((((C.fr (S:=du) aM.fr aa).fr f2 aa).fr (S:=du) bH.fr aa).fr f4 aa) (f4 _ _ (bH _ _ (f2 _ _ (aM _ _ os) aa)) aa)
theorem aU1(x:ua f p rows cls mo zs)(b:yv A B LD f)(K:mB A B f p tg (gR f p rows cls mo) σ)(of:σ B.ks=ab ⟨16,.d []⟩)(o:mE σ B cur at_)(w:lY (gR f p rows cls mo) B rf σ)(C:j9 (gR f p rows cls mo) LD σ)(os:σ cn=ab ⟨1,.l (aL zs)⟩):
  aH aj (n+12) (hR.body.drop 38) [v0,ab (.r cn),ab (.i bG),ab (.i f),v4,hZ,ab (.r LD.ac),fQ,gW,gX,v10,v11,iX,iH,iv,iY,ab (.t (aL hU)),hX,hY,ab (.r LD.d),v20,hb,hc,hg,hh,hj,fP,hk,v28,gM,v30,ab (.r B.v),gn,gp,iw,hl,gq,gr,gs,gu,gw,v41,gy,gz] σ (fz (λv U=>v=.b ak) X):=by
 refine iF (its:=hU.take 11) (λk=>[.i k]) (λb:aw V=>[v0,ab (.r cn),ab (.i bG),ab (.i f),v4,hZ,ab (.r LD.ac),fQ,gW,gX,v10,v11,iX,iH,iv,iY,ab (.t (aL hU)),hX,hY,ab (.r LD.d),v20,hb,hc,hg,hh,hj,fP,hk,v28,gM,v30,ab (.r B.v),gn,b,iw,hl,gq,gr,gs,gu,gw,v41,gy,gz])
  (λl U ah=>Fr (b' 16 16) σ ah/\∃bu,ah B.ks=ab ⟨16,.d bu⟩/\l.foldl (λd k=>dA d k (.i 1)) bu=nt/\bu.length+l.length<=11) gp aa (.c (.cut (.p aa) (iz aa)) .N) (tc (its:=hU.take 11) (g:=.i)) (λU=>aa) (λU U U U=>trivial) aa ⟨Fr.rfl,[],of,aa,ai⟩ (λb1 aJ i=> ?_) λk l b1 aJ mk i K' bV=> ?_
 ·rcases i with⟨f1,bu,c5,e,_⟩
  cases e
  exact aU2 x b (K.hi f1 aa) c5 (f1 _ _ o aa) (w.fr f1 aa) (C.fr f1 aa) (f1 _ _ os aa)
 ·rcases i with⟨f1,bu,c5,e,ax⟩
  rw[jI]at ax
  exact qt aa .i (.A (.p aa) (dS (f1 _ _ o aa) aa)) (.p aa) c5 (pq (d7 (aX (en _ _) ax) ai)) ai (bV (ab (.i k)) _ ⟨f1.upd c5 aa,_,bc,e,by have:=wU (d:=bu) (k:=k) (v:=.i 1);lia⟩)
end
section
variable{σ ah σ0:H}{n f p t:ae}{A:jm}{B:eG}{tg:aB}{c:cO}{X:bR}{Q:bQ}{cur:V}{at_:ag}{rows:af eV}{cls:af Cl}{mo:ag}{zs:af ag}{bG:ag}{lm:bf}{r:af St}{k:cT}{bs cY cZ c9:af (ag×V)}
theorem aj1(h:f<8)(p:ae)(tg:aB):decide ((((eP f).toNat&&& 1:ae):ag)=0)=aA (eP f%2) 0/\(aA (eP f%2) 0=ak->cj f=ak->cw (ey (cj f) tg (dE f)).ef (5,22,aj)=ab (.i 26))/\(ip p).length<=2:=by
 have a7:(ip p).length<=2:=by rcases p with _|_|_|_|p<;>first|decide|exact eL 2
 cases tg<;>exact sq (P:=λf=>decide ((((eP f).toNat&&& 1:ae):ag)=0)=aA (eP f%2) 0/\(aA (eP f%2) 0=ak->cj f=ak->cw (ey (cj f) _ (dE f)).ef (5,22,aj)=ab (.i 26))/\(ip p).length<=2) h ⟨aa,nofun,a7⟩ ⟨aa,nofun,a7⟩ ⟨aa,λU U=>aa,a7⟩ ⟨aa,nofun,a7⟩ ⟨aa,nofun,a7⟩ ⟨aa,λU U=>aa,a7⟩ ⟨aa,nofun,a7⟩ ⟨aa,nofun,a7⟩
theorem Ls{w:V}(n4:f<8)(O:eB σ A (ey (cj f) tg (dE f)) bs cY cZ c9)(q:∀a ah,Ext σ ah->ah a=ab ⟨1,.l (aL (eH f p))⟩->Q (.r a) ah):W (n+4) 81 [.r A.h,.i 22,.t [w,.i (eP f),.i 6,.i 0,.i 0,.t (aL (ip p))]] σ Q X:=by
 have C:=Fo n4 tg
 have L:=aj1 n4 p tg
 have bit:∀{σ lm},bf.get lm 2=ab (V.t [w,.i (eP f),.i 6,.i 0,.i 0,.t (aL (ip p))])->ck aj (n+3) σ lm (.p .e (.o .b (.u (.l 2) (.i 1)) (.c (.i 1))) (.i 0)) (.b (aA (eP f%2) 0)):=λh=>aR L.1 (.g6 (.B (.bC (.L h) .i (fG (f5 (k:=1) aa))) .c λU q=>.band C.1 ai q) .i)
 refine bD aa rfl (kg 1 ai (.L .N hC) λa na=> ?_)
 have x0:Ext σ (aC σ a ⟨1,.l []⟩):=Ext.rfl.new na
 have go:∀{l:af ag}{aJ:H},Ext σ aJ->aJ a=ab ⟨1,.l (aL l)⟩->l.length<=1->l++ip p=eH f p->aH aj (n+3) [.dw [4] .i [.u (.l 2) (.i 5)] [.e (.m (.l 3) 0 [.l 4])],.r (.l 3)] [ab (.r A.h),ab (.i 22),ab (V.t [w,.i (eP f),.i 6,.i 0,.i 0,.t (aL (ip p))]),ab (.r a),aj] aJ (fz Q X):=λ{l aJ} x o ax e=>
  xG (its:=ip p) (N:=3) (λk=>[.i k]) (λb:aw V=>[ab (.r A.h),ab (.i 22),ab (V.t [w,.i (eP f),.i 6,.i 0,.i 0,.t (aL (ip p))]),ab (.r a),b]) aj (λk=>[.i k]) aa x (.c (.bC (.p aa) .i (fG (f5 (k:=5) aa))) .N) (tc (g:=.i)) (λU U=>trivial) (λU=>aa) aa o (λU=>da 1) (by rw[gI];exact nL ax L.2.2)
   (λb a3 bl cX=>bP (.p aa) (q a _ bl (cX.trans (by rw[←Ke,←e];exact aU (λl=>ab (Internal.O.mk 1 (.l l))) (gA (f:=V.i) ..).symm)))) λx b acc a3 m ax bl cX K bV=>fw (.p aa) (.p aa) cX ai (nO ax ai) (bV (ab (.i x)) _ (bl.new na) bc)
 refine eR (bit aa) (λz=>hW (.K (.c (.v (x0 _ _ O.o) aa rfl) (.p aa)) (GR (n:=n+1) (O.ext x0).K C.2.1)) aa (λy=> ?_) λy=> ?_) λz=>go (l:=[]) x0 bc (eL 1) (by unfold eH;rw[z];rfl)
 ·exact fw (.p aa) (.K (.c (.v (x0 _ _ O.o) aa rfl) (.p aa)) λU U q=>bD aa rfl (bP (PK (r:=(5,22,aj)) (O.ext x0).K (L.2.1 z (aR C.2.2.2 y)) aa (.p aa) (.p aa)) q)) bc ai ai (go (l:=[26]) (x0.new na) bc (da 1) (by unfold eH;rw[z,←C.2.2.2,y];rfl))
 ·exact fw (.p aa) (.p aa) bc ai ai (go (l:=[22]) (x0.new na) bc (da 1) (by unfold eH;rw[z,←C.2.2.2,y];rfl))
theorem Wt(n4:f<8)(O:eB σ A (ey (cj f) tg (dE f)) bs cY cZ c9):eA (W (n+2)) σ 18 [.r A.kt,.i 22] (.t (aL (dd tg))):=λQ E q=>by
 refine b5 (z0 O.K (Fo n4 tg).2.1) λr mL w=> ?_
 have e:r=O5 (cj f) tg:=cR (mL.symm.trans (by cases cj f<;>cases tg<;>cases dE f<;>rfl))
 subst e
 refine bD aa rfl (c7 (.mR (.p aa) O.K.h0 aa rfl (.p aa) (w n)) (gV (z:=ak) ?_ rfl (bP ?_ q)))
 all_goals cases cj f<;>exact .p aa
theorem Gb{fs:af (ae×V)}{f m:ae}{v:V}(h:fs.length<=m):(hS fs f v).length<=m+1:=by
 induction fs generalizing m with
 |nil=>exact pQ (eL m)
 |cons x r aI=>
  unfold hS
  split
  ·exact AS h
  ·rcases m with _|m
   ·cases h
   ·exact pQ (aI (Kl h))
abbrev qY(p m:ae)(fs:af (ae×V))(σ:H):Prop:=σ p=ab ⟨2,.i 9 fs⟩/\fs.length<=m
theorem mV{p f j m:ae}{fs:af (ae×V)}{e:aW}{v:V}(h:ck aj n σ lm e v)(g:lm.get j=ab (.r p))(o:qY p m fs σ)(ax:dy m 1000000=ak)(bu:(aZ 9).any (·.i8.contains f)=ak)(q:∀ah,Fr (b' 2 2) σ ah->qY p (m+1) (hS fs f v) ah->aH aj n r lm ah k):aH aj n (.A (.l j) f e::r) lm σ k:=om h (.L g) o.1 ai (d7 o.2 (e3 ax)) bu (q _ (Fr.rfl.upd o.1 aa) ⟨bc,Gb o.2⟩)
theorem qs{p f j t m:ae}{fs:af (ae×V)}{e:aW}{d:dN}(h:M (dQ aZ PP aj n) aj σ lm e t d)(aS:b' 2 2 t=av)(g:lm.get j=ab (.r p))(o:qY p m fs σ)(ax:dy m 1000000=ak)(bu:(aZ 9).any (·.i8.contains f)=ak)(q:∀a ah,Fr (b' 2 2) σ ah->ah a=ab ⟨t,d⟩->qY p (m+1) (hS fs f (.r a)) ah->aH aj n r lm ah k):aH aj n (.A (.l j) f e::r) lm σ k:=
 h _ _ λa aJ x T=>⟨_,g,.i (x _ _ o.1) ai (d7 o.2 (e3 ax)) bu (q a _ (x.fr.ay (Fr.rfl.upd (x _ _ o.1) aa)) (Fr.rfl.upd (x _ _ o.1) aa _ _ T aS) ⟨bc,Gb o.2⟩)⟩
theorem aR5{p f j m:ae}{fs:af (ae×V)}{e:aW}(h:∀(Q:bQ)(X:bR),(∀a ah,Ext σ ah->Q (.r a) ah)->vE aZ (dQ aZ PP aj n) aj lm e σ Q X)(g:lm.get j=ab (.r p))(o:qY p m fs σ)(ax:dy m 1000000=ak)(bu:(aZ 9).any (·.i8.contains f)=ak)(q:∀a ah,Fr (b' 2 2) σ ah->qY p (m+1) (hS fs f (.r a)) ah->aH aj n r lm ah k):aH aj n (.A (.l j) f e::r) lm σ k:=
 h _ _ λa aJ x=>⟨_,g,.i (x _ _ o.1) ai (d7 o.2 (e3 ax)) bu (q a _ (x.fr.ay (Fr.rfl.upd (x _ _ o.1) aa)) ⟨bc,Gb o.2⟩)⟩
theorem M.idict{lm:bf}(t:ae)(aS:t≠0):M (W n) aj σ lm (.D .i []) t (.d []):=N.up t aS (N.D (d:=.d []) aa .N aa)
theorem M.nil{lm:bf}(t:ae)(aS:t≠0):M (W n) aj σ lm (.L []) t (.l []):=N.up t aS (.L .N hC)
structure wN(B:eG)(σ:H):Prop where
 cc:σ B.cc=ab ⟨3,.d []⟩
 h6:σ B.h6=ab ⟨4,.l []⟩
 iZ:σ B.iZ=ab ⟨5,.d []⟩
 je:σ B.je=ab ⟨6,.d []⟩
 ent:σ B.ent=ab ⟨7,.d []⟩
 told:σ B.told=ab ⟨8,.l []⟩
 ks:σ B.ks=ab ⟨16,.d []⟩
theorem bc5{a kt h bd sa t:ae}{f3 xP bu x zG re:ag}{w:V}{fs:af (ae×V)}(ke:σ a=ab ⟨2,.i 9 []⟩)(Cr:σ h=ab ⟨t,.i 5 ((18,.r kt)::fs)⟩)(aS:b' 2 2 t=av)(q:∀(D:eG) cur ah,Fr (b' 2 2) σ ah->wN D ah->ah a=ab ⟨2,.i 9 (hS (ow {D with v:=a,kt:=kt,host:=h,body:=bd,args:=sa,owner:=f3,tid:=xP,flags:=bu,ngen:=zG,ret:=re,count:=0} cur 0) 53 .n)⟩->Q .n ah):W (n+2) 38 [.r a,.r h,.i f3,.t [.i xP,.i bu,.i x,.i zG,.i re,w],.r bd,.r sa] σ Q X:=by
 refine bD (D:=MB) aa rfl (mV (.p aa) aa ⟨ke,da 0⟩ aa rfl λaJ f1 c5=>mV (.A (.p aa) (dS (f1 _ _ Cr aS) aa)) aa c5 aa rfl λa3 f2 cX=>mV (.p aa) aa cX aa rfl λbM cz o3=>mV (.p aa) aa o3 aa rfl λcC f4 jX=>mV (.p aa) aa jX aa rfl λσ5 e7 jB=>mV (.p aa) aa jB aa rfl λh7 kr mc=> ?_)
 have xp:qY a 6 [(34,.r h),(18,.r kt),(35,.r bd),(36,.i 0),(37,.i f3),(38,.i xP)] h7:=mc
 refine mV (.p aa) aa xp aa rfl λiI uE hE=>mV (.p aa) aa hE aa rfl λbi3 f8 oh=>mV (.p aa) aa oh aa rfl λRK YU pd=>mV (.p aa) aa pd aa rfl λbp2 YF OV=>mV (.p aa) aa OV aa rfl λbp3 YG aF9=>aR5 (λU U q=>w4 (n:=n) (hd:=aj) 1 ai (M.nil 1 ai) (λU U=>.p aa) λa b ah x U U=>q a ah x) aa aF9 aa rfl λcW bi1 fL aG0=> ?_
 have aJ1:qY a 12 [(34,.r h),(18,.r kt),(35,.r bd),(36,.i 0),(37,.i f3),(38,.i xP),(39,.i bu),(40,.i zG),(41,.i re),(42,.r sa),(43,.i 0),(44,.r cW)] bi1:=aG0
 refine mV (.p aa) aa aJ1 aa rfl λbp4 YH aG1=>qs (M.idict 3 ai) aa rfl aG1 aa rfl λcc bp5 YI aD6 aG2=>qs (M.nil 4 ai) aa rfl aG2 aa rfl λh6 bp6 YJ aD7 aG3=>qs (M.idict 5 ai) aa rfl aG3 aa rfl λiZ bp7 YK aD8 aG4=>qs (M.idict 6 ai) aa rfl aG4 aa rfl λje bp8 YL Hc vx=>qs (M.idict 1 ai) aa rfl vx aa rfl λp' bi2 YM bo2 aG5=> ?_
 have aJ2:qY a 18 [(34,.r h),(18,.r kt),(35,.r bd),(36,.i 0),(37,.i f3),(38,.i xP),(39,.i bu),(40,.i zG),(41,.i re),(42,.r sa),(43,.i 0),(44,.r cW),(5,.i 0),(45,.r cc),(46,.r h6),(47,.r iZ),(48,.r je),(49,.r p')] bi2:=aG5
 refine qs (M.idict 7 ai) aa rfl aJ2 aa rfl λent bp9 YN aD9 aG6=>qs (M.idict 16 ai) aa rfl aG6 aa rfl λfin bq0 YO Hd aG7=>qs (M.idict 16 ai) aa rfl aG7 aa rfl λops bq1 YQ bo3 aG8=>mV (.p aa) aa aG8 aa rfl λbq2 YR aG9=>qs (M.nil 8 ai) aa rfl aG9 aa rfl λba7 bq3 YS aE0 aH0=> ?_
 have bh1:=YS
 have bh0:=YR.ay bh1
 have RH:=YQ.ay bh0
 have RG:=YO.ay RH
 have bg9:=YN.ay RG
 have RF:=YM.ay bg9
 have RE:=YL.ay RF
 have RD:=YK.ay RE
 have RC:=YJ.ay RD
 have bg8:=YI.ay RC
 have bg7:=YH.ay bg8
 have bg6:=fL.ay bg7
 have bg5:=YG.ay bg6
 have Dv:=YF.ay bg5
 have xX:=YU.ay Dv
 have kI:=f8.ay xX
 have f7:=uE.ay kI
 have lj:=kr.ay f7
 have m2:=e7.ay lj
 have j5:=f4.ay m2
 have ek:=cz.ay j5
 have f6:=f2.ay ek
 have xW:=f1.ay f6
 exact q ⟨a,kt,h,bd,0,0,0,sa,fin,ops,ba7,cc,h6,iZ,je,ent,p',f3,xP,bu,zG,re,0⟩ (.r cW) _ xW ⟨RC _ _ aD6 aa,RD _ _ aD7 aa,RE _ _ aD8 aa,RF _ _ Hc aa,RG _ _ aD9 aa,aE0,RH _ _ Hd aa⟩ aH0.1
end
section
variable{σ ah σ0:H}{n f p t:ae}{A:jm}{B:eG}{tg:aB}{c:cO}{X:bR}{Q:bQ}{cur:V}{at_:ag}{rows:af eV}{cls:af Cl}{mo:ag}{zs:af ag}{bG:ag}{lm:bf}{r:af St}{k:cT}{bs cY cZ c9:af (ag×V)}
theorem eB.v2{T:fi}(h:eB σ A T bs cY cZ c9)(x:Fr (b' 2 2) σ ah):eB ah A T bs cY cZ c9:=h.fr x aa λU u U=>tI.mpr (.inr (mn.mpr λv=>aV (aX (gP.mp u) (gP.mp v)) ai))
theorem aQ3(n:ae){e:aW}{v:V}(h:ck aj (n+1) σ lm e v)(q:∀a ah,Ext σ ah->ah a=ab ⟨1,.i 10 [(16,v)]⟩->Q (.r a) ah):vE aZ (dQ aZ PP aj (n+1)) aj lm (.w 10 [e]) σ Q X:=
 y4 (.c h .N) aa rfl (xk aa) 1 ai λa na=>bD aa rfl (om (.p aa) (.p aa) bc ai (e3 aa) aa ⟨aa,q a _ ((Ext.rfl.new na).new na) bc⟩)
structure A9(A:jm)(B:eG)(f p bd ac al:ae)(tg:aB)(bC:ae)(E:af ag)(cur:V)(σ:H):Prop extends wN B σ where
 b:B.kt=A.kt/\B.host=A.h/\B.body=bd/\B.ac=ac/\B.al=al/\B.owner=22/\B.flags=eP f/\B.count=(aL (dd tg)).length
 o:mE σ B cur 0
 args:σ B.args=ab ⟨1,.l (aL (eH f p))⟩
 ew:σ B.ew=ab ⟨1,.i 10 [(16,.r al)]⟩
 p':∃d,σ B.p'=ab ⟨1,.d d⟩/\kl d bC E
theorem wN.fr{S:ae->aB}(h:wN B σ)(f:Fr S σ ah)(z:([3,4,5,6,7,8,16].all λt=> !S t)=ak):wN B ah:=by
 have e:∀t∈[3,4,5,6,7,8,16],S t=av:=λt m=>(we _).symm.trans (aU (!·) (iK.mp z t m))
 exact⟨f _ _ h.cc (e _ ai),f _ _ h.h6 (e _ ai),f _ _ h.iZ (e _ ai),f _ _ h.je (e _ ai),f _ _ h.ent (e _ ai),f _ _ h.told (e _ ai),f _ _ h.ks (e _ ai)⟩
theorem aB7{bd ac al bC:ae}{most:ag}{code:af eo}{cs:af Cl}{w:ag}(n4:f<8)(D:g0 σ)(O:eB σ A (ey (cj f) tg (dE f)) bs cY cZ c9)(b3:σ bd=ab ⟨1,.i 4 [(14,.t []),(15,.i most),(4,.r ac),(16,.r al)]⟩)(az:σ ac=ab ⟨1,.l (code.map eo.v)⟩)(aK:σ al=ab ⟨1,.l (cs.map Cl.v)⟩)(I:∀i∈code,pU bC i)(au:∀x∈cs,∀g∈hx x,0<=g/\g<=(bC:ag))(dT:bC<=100)
  (q:∀(B:eG) cur ah,Fr (b' 2 2) σ ah->A9 A B f p bd ac al tg bC (y2 code cs) cur ah->Q (.r B.v) ah):W (n+6) 83 [.r A.h,.i 22,.t [.i w,.i (eP f),.i 6,.i 0,.i 0,.t (aL (ip p))],.r bd] σ Q X:=by
 refine bD (D:=MD) aa rfl ⟨_,aa,_,aa,_,aa,_,aa,d0 (.p aa) (Ls (n:=n+1) n4 O λsa aJ aM di=>.init aa rfl (xk aa) λv nv=>⟨2,ai,?_⟩)⟩
 have bl:=aM.new (o:=⟨2,.i 9 []⟩) (aM.free nv)
 have di:=fO (o:=⟨2,.i 9 []⟩) nv di
 refine bc5 (n:=n+3) bc (bl _ _ O.o) aa λKC cur a3 f2 V cX=>⟨aa,?_⟩
 have dk:Fr (b' 2 2) σ a3:=bl.fr.ay f2
 have nf:=O.v2 dk
 refine mV (.bi aa (.c (.K (.c (.A (.p aa) (dS nf.o aa)) (.p aa)) (Wt (n:=n+3) n4 nf)) .N) λU q=>.len aa q) aa ⟨cX,da 23⟩ aa rfl λbM cz o3=> ?_
 have jM:=dk.ay cz
 refine qs (t:=1) (d:=.i 10 [(16,.r al)]) (λU U q=>aQ3 (n+4) (.A (.p aa) (dS (jM _ _ b3 aa) aa)) q) aa rfl o3 aa rfl λew cC f4 kf jX=> ?_
 have qN:=jM.ay f4
 refine d0 (.p aa) (Mh (n:=n+2) (D.fr qN aa) (qN _ _ b3 aa) (qN _ _ az aa) (qN _ _ aK aa) I au dT λuD d σ5 fR c3 K=>⟨_,aa,.i (fR _ _ jX.1) ai (d7 jX.2 ai) aa ?_⟩)
 have kr:Fr (b' 2 2) σ5 (aC σ5 v ⟨2,.i 9 (ow {KC with v:=v,kt:=A.kt,host:=A.h,body:=bd,ac:=ac,al:=al,ew:=ew,p':=uD,args:=sa,owner:=22,tid:=w,flags:=eP f,ngen:=0,ret:=0,count:=(aL (dd tg)).length} cur 0)⟩):=Fr.rfl.upd (fR _ _ jX.1) aa
 have e7:=fR.fr.ay kr
 have Mt:=(cz.ay f4).ay e7
 exact bP (.p aa) (q {KC with v:=v,kt:=A.kt,host:=A.h,body:=bd,ac:=ac,al:=al,ew:=ew,p':=uD,args:=sa,owner:=22,tid:=w,flags:=eP f,ngen:=0,ret:=0,count:=(aL (dd tg)).length} cur _ (qN.ay e7) {V.fr Mt aa with b:=⟨aa,aa,aa,aa,aa,aa,aa,aa⟩,o:=bc,args:=Mt _ _ (f2 _ _ di aa) aa,ew:=e7 _ _ kf aa,p':=⟨d,kr _ _ c3 aa,K⟩})
end
section
variable{σ ah σ0:H}{n f p t cn:ae}{A:jm}{B:eG}{LD:i4}{tg:aB}{c:cO}{X:bR}{Q:bQ}{cur:V}{at_:ag}{rows:af eV}{cls:af Cl}{mo:ag}{zs:af ag}{bG:ag}{lm:bf}{r:eV}{k:cT}{bs cY cZ c9:af (ag×V)}{N:ae}
variable{v0 v1 v2 lg v4 hZ v6 fQ gW gX v10 v11 iX iH iv iY v16 hX hY ov v20 hb hc hg hh hj fP hk v28 gM v30 v31 gn gp iw hl gq gr gs gu gw v41 gy gz:aw V}
theorem at9{op:ag}(a:aA op 69=av)(b:(aA op 221||aA op 57)=av)(h:cw It op=ab (.i (aG (aA op 65033) 3 0))):pU N ⟨op,.i 0⟩:=by
 have e:fg ⟨op,.i 0⟩=[]:=by unfold fg;rw[a,b];rfl
 exact⟨λu=>aV u (hy a),λu=>u.elim (λu=>aV u (hy (JM.mp b).1)) λu=>aV u (hy (JM.mp b).2),by rw[a,b];exact h,aD e (h9 _),aD e (eL 2)⟩
theorem Oz{x:ag}(N:ae):0<=x%(N+1:ag)/\x%(N+1:ag)<=N:=have p:(0:ag)<N+1:=Te (mq N)
 ⟨wg _ (qG p),Tc (yj _ p)⟩
theorem at8(h:0<=r.1/\r.1<=10)(dT:0<N):pU N (ij N r):=by
 rcases r with⟨f,z,c⟩
 have b1:∀{op:ag},op=221\/op=57->pU N ⟨op,.i (z%(N+1:ag))⟩:=λh=>by
  have m:=Oz (x:=z) N
  rcases h with h|h<;>subst h
  all_goals exact⟨nofun,λU=>⟨_,aa,aa⟩,aa,AO.mpr m,iz aa⟩
 have m:=Oz (x:=z) N
 have m':0<=z/7%(N:ag)/\z/7%(N:ag)<=N:=⟨wg _ (qG (fh.mpr dT)),hJ (yj _ (fh.mpr dT))⟩
 have h:0<=f/\f<=10:=h
 have e:=ji h.1
 have az:f.toNat<=10:=Int.toNat_le.mpr h.2
 show pU N (ij N (f,z,c))
 rw[←e]
 clear e h
 generalize f.toNat=k at az
 rcases k with _|_|_|_|_|_|_|_|_|_|_|k
 all_goals first|exact at9 aa rfl aa|exact b1 (.inl aa)|exact b1 (.inr aa)|exact aV az (Kn.mpr (rQ 11 k))|skip
 exact⟨λU=>⟨[z%(N+1:ag),z/7%(N:ag)],aa,aa⟩,λh=>h.elim nofun nofun,aa,i3.mpr ⟨m,AO.mpr m'⟩,da 2⟩
theorem LJ{bd bC:ae}{E:af ag}(M:A9 A B f p bd LD.ac LD.al tg bC E cur σ):yv A B LD f:=⟨M.b.1,M.b.2.1,M.b.2.2.2.2.2.1,M.b.2.2.2.2.2.2.1,M.b.2.2.2.1.symm,M.b.2.2.2.2.1.symm⟩
theorem aw3{bd bC:ae}{E:af ag}(M:A9 A B f p bd LD.ac LD.al tg bC E cur σ)(O:eB σ A (ey (cj f) tg (dE f)) (nj f) [(67,.i 3)] kT [(19,.i 1)])(b3:σ bd=ab ⟨1,.i 4 [(14,.t []),(15,.i c.most),(4,.r LD.ac),(16,.r LD.al)]⟩)(C:j9 c LD σ):mB A B f p tg c σ:=by
 have b:=LJ M
 exact⟨O,by rw[M.b.2.2.1,←b.ac,←b.al];exact b3,aR b.ac C.ac,aR b.al C.al,aR b.al M.ew,M.args⟩
theorem ar6(M:wN B σ)(h:c.code.length<=60):lY c B rf σ:=
 have z:jd c rf.cc<=200:=aD (show jd c rf.cc=_ from Ir _) (aX (Km 2 h) ai)
 ⟨⟨[],M.cc,(iA _).symm▸z,λU=>.inl ⟨aa,aa⟩⟩,M.h6,⟨[],M.iZ,da 0,λU=>aa⟩,⟨[],M.je,(iA _).symm▸z,λU U h=>nomatch h⟩,M.ent,M.told⟩
theorem aU0{bd r9:ae}{w:ag}(x:ua f p rows cls mo zs)(T:g0 σ)(Z:A9 A B f p bd LD.ac LD.al tg rows.length (y2 (gR f p rows cls mo).code (gR f p rows cls mo).cs) cur σ)(O:eB σ A (ey (cj f) tg (dE f)) (nj f) [(67,.i 3)] kT [(19,.i 1)])(b3:σ bd=ab ⟨1,.i 4 [(14,.t []),(15,.i mo),(4,.r LD.ac),(16,.r LD.al)]⟩)(C:j9 (gR f p rows cls mo) LD σ)(os:σ cn=ab ⟨1,.l (aL zs)⟩)(vy:σ r9=ab ⟨1,.l (aL (eH f p))⟩)(I:∀i∈(gR f p rows cls mo).code,pU rows.length i)(au:∀x∈(gR f p rows cls mo).cs,∀g∈hx x,0<=g/\g<=(rows.length:ag)):
  aH aj (n+12) (hR.body.drop 34) [v0,ab (.r cn),ab (.i bG),ab (.i f),v4,hZ,ab (.r LD.ac),fQ,gW,gX,v10,ab (.t (aL (dd tg))),iX,ab (.i 22),iv,ab (.r A.h),ab (.t (aL hU)),hX,hY,ab (.r LD.d),v20,hb,hc,hg,hh,hj,fP,hk,ab (.r r9),ab (.r bd),ab (.t [.i w,.i (eP f),.i 6,.i 0,.i 0,.t (aL (ip p))]),ab (.r B.v),gn,gp,iw,hl,gq,gr,gs,gu,gw,v41,gy,gz] σ (fz (λv U=>v=.b ak) X):=by
 have b:=LJ Z
 have hs:(gR f p rows cls mo).cs.length<=60:=(cN bA).symm▸x.aK
 have a6:(gR f p rows cls mo).code.length=rows.length:=cN _
 refine mi (b:=av) (xD (C1 (l:=eH f p) (R.M (.A (.p aa) (dS Z.o aa)) Z.args) λah y=>R.M (.p aa) (y _ _ vy)) λU aJ aM=>xD (C1 (l:=eH f p) (λU U q=>d0 (.p aa) (Ls (n:=n+8) x.f8 (O.ext aM) q)) λah y=>R.M (.p aa) (y _ _ (aM _ _ vy))) λU a3 bl=>(R.og (.A (.p aa) (dS (bl _ _ (aM _ _ Z.o)) aa)) (.bi aa (.p aa) λU q=>.len aa q)).up) (λU=>by rw[Z.b.2.2.2.2.2.2.2,cD rfl];rfl) nofun λU bM bH=> ?_
 refine d0 (.p aa) (Mh (n:=n+9) (T.fr (S:=du) bH.fr aa) (bH _ _ b3) (bH _ _ C.ac) (bH _ _ C.al) I au (aX x.a6 ai) λe d cC x4 c3 K=> ?_)
 have m2:=bH.ay x4
 have rU:=C.fr (S:=du) m2.fr aa
 refine b5 Z.p' λee od K'=> ?_
 have bC:rows.length<63:=d7 x.a6 ai
 refine mi (b:=av) (xD (C1 (M.sorted 1 ai (.p aa) c3 K bC) λah y=>λU U q=>d0 (.c (.p aa) (.c (.bC (.p aa) .s (sub_d (y _ _ rU.o) aa)) .N)) (ax8 (y _ _ rU.ac) (y _ _ rU.al) I a6 x.a6 hs q)) λU σ5 fR=>C1 (M.sorted 1 ai (.A (.p aa) (dS (fR _ _ (m2 _ _ Z.o)) aa)) (fR _ _ (m2 _ _ od)) K' bC) λah y=>M.sorted 1 ai (.p aa) (y _ _ (fR _ _ c3)) K bC) (λU=>aa) nofun λU h7 fp=> ?_
 have f7:=m2.ay fp
 have b6:=(aw3 Z O b3 C).fr (S:=du) f7.fr aa λU U U=>aa
 exact dV (.og (.K (.p aa) (MF (n:=n+8) x.f8 b b6 (f7 _ _ Z.o))) (.n9 (.g6 (.p aa) .i) aa .i .i)) (aU (!·) (cD (aU (aG · (0:ag) 1) (decide_eq_decide.mpr ⟨λh=>aU tK h,λh=>lx h⟩)))) (aU1 x b b6 (f7 _ _ Z.ks) (f7 _ _ Z.o) ((ar6 Z.towN (aD a6 x.a6)).fr (S:=du) f7.fr aa) (C.fr (S:=du) f7.fr aa) (f7 _ _ os))
theorem Xi{x:Cl}(h:0<=x.t0/\x.t0<x.t1/\x.t1<=x.h0/\x.h0<x.h1/\x.h1<=N/\(x.s=1->x.t1<=x.x/\x.x<x.h0)):∀g∈hx x,0<=g/\g<=(N:ag):=by
 have p0:=hJ (oA h.2.2.2.1 h.2.2.2.2.1)
 have bT:=eE h.2.2.1 p0
 have d9:=eE h.1 (hJ h.2.1)
 have e4:=eE d9 h.2.2.1
 have w:∀g∈[x.t0,x.t1,x.h0,x.h1],0<=g/\g<=(N:ag):=i3.mpr ⟨⟨h.1,eE (hJ h.2.1) bT⟩,i3.mpr ⟨⟨d9,bT⟩,i3.mpr ⟨⟨e4,p0⟩,AO.mpr ⟨eE e4 (hJ h.2.2.2.1),h.2.2.2.2.1⟩⟩⟩⟩
 refineλg m=>(gO.mp m).elim (w g) λm=> ?_
 by_cases u:x.s=1
 ·rw[show aA x.s 1=ak from cD u]at m
  have:=h.2.2.2.2.2 u
  rw[dv.mp m]
  exact⟨eE d9 this.1,eE (hJ this.2) p0⟩
 ·rw[show aA x.s 1=av from de u]at m;cases m
theorem WI{aq e2 bF eO:aW}{Dh rz Ah Ai:V}(n:ae)(h:nX aj (n+1) σ lm [aq,e2,bF,eO] [Dh,rz,Ah,Ai])(q:∀a ah,Ext σ ah->ah a=ab ⟨1,.i 4 [(14,Dh),(15,rz),(4,Ah),(16,Ai)]⟩->Q (.r a) ah):vE aZ (dQ aZ PP aj (n+1)) aj lm (.w 4 [aq,e2,bF,eO]) σ Q X:=
 y4 h aa rfl (xk aa) 1 ai λa na=>bD aa rfl (om (.p aa) (.p aa) bc ai (e3 aa) aa (om (.p aa) (.p aa) bc ai (e3 aa) aa (om (.p aa) (.p aa) bc ai (e3 aa) aa (om (.p aa) (.p aa) bc ai (e3 aa) aa ⟨aa,q a _ (((((Ext.rfl.new na).new na).new na).new na).new na) bc⟩))))
theorem aT9{r9:ae}(x:ua f p rows cls mo zs)(T:g0 σ)(O:eB σ A (ey (cj f) tg (dE f)) (nj f) [(67,.i 3)] kT [(19,.i 1)])(C:j9 (gR f p rows cls mo) LD σ)(os:σ cn=ab ⟨1,.l (aL zs)⟩)(vy:σ r9=ab ⟨1,.l (aL (eH f p))⟩):
  aH aj (n+12) (hR.body.drop 31) [v0,ab (.r cn),ab (.i bG),ab (.i f),v4,hZ,ab (.r LD.ac),fQ,gW,gX,v10,ab (.t (aL (dd tg))),ab (.b (cj f)),ab (.i 22),ab (.i (eP f)),ab (.r A.h),ab (.t (aL hU)),hX,hY,ab (.r LD.d),v20,hb,hc,hg,hh,hj,fP,ab (.t (aL (ip p))),ab (.r r9),gM,v30,v31,gn,gp,iw,hl,gq,gr,gs,gu,gw,v41,gy,gz] σ (fz (λv U=>v=.b ak) X):=by
 have D:jL (gR f p rows cls mo) (mI f) []:=Mb x.g x.a6 x.aK x.hm (by unfold kE;cases dE f<;>decide) (λU U h=>nomatch h) (eL _)
 have I:∀i∈(gR f p rows cls mo).code,pU rows.length i:=λi h=>by
  refine b5 (eS.mp h) λr au e=> ?_
  have w:=x.g.lI r au
  exact aR e (at8 ⟨w.1,w.2.1⟩ x.au)
 have au:∀y∈(gR f p rows cls mo).cs,∀g∈hx y,0<=g/\g<=(rows.length:ag):=λy aQ=>Xi (by have:=D.zY y aQ;rw[show(gR f p rows cls mo).code.length=rows.length from cN _]at this;exact this)
 refine WI (n+11) (.c (.T .N (eL _)) (.c (.bC (.p aa) .s (sub_d C.o aa)) (.c (.p aa) (.c (.bC (.p aa) .s (sub_d C.o aa)) .N)))) λbd aJ aM b3=> ?_
 refine c7 (.T (.c (.n9 (.p aa) aa .i .i) (.p aa)) (iz aa)) (d0 (.p aa) (aB7 (n:=n+6) x.f8 (T.fr (S:=du) aM.fr aa) (O.ext aM) b3 (aM _ _ C.ac) (aM _ _ C.al) I au (aX x.a6 ai) λB cur a3 f2 Z=> ?_))
 have F:=aM.fr.ay f2
 exact aU0 x (T.fr F aa) Z (O.v2 F) (f2 _ _ b3 aa) (C.fr F aa) (F _ _ os aa) (F _ _ vy aa) I au
end
noncomputable section
def au0:dN->aB
 | .s _=>ak
 |_=>av
abbrev t6(σ ah:H):Prop:=∀b o,σ b=ab o->au0 o.d=av->ah b=ab o
structure t'(c:cO)(A:i4)(σ:H):Prop where
 al:σ A.al=ab ⟨1,.l (c.cs.map Cl.v)⟩
 ac:σ A.ac=ab ⟨1,.l (c.code.map eo.v)⟩
 dJ:σ A.dJ=ab ⟨1,.l (c.cs.map λx=>.i (c.bad x))⟩
 dz:∃eb:af ae,σ A.dz=ab ⟨1,.l (eb.map .r)⟩/\∀(j:ae) x,c.cs[j]? =ab x->∃b,eb[j]? =ab b/\σ b=ab ⟨1,.l (aL (c.jO x))⟩
end
section
variable{σ ah σ0:H}{n f p t cn m:ae}{A:jm}{B:eG}{LD:i4}{tg:aB}{c:cO}{X:bR}{Q:bQ}{rows:af eV}{cls:af Cl}{mo:ag}{zs:af ag}{bG:ag}{lm:bf}{r:af St}{k:cT}{bs cY cZ c9:af (ag×V)}{T:fi}{v:V}{bF:aW}
variable{v0 v1 v2 lg v4 hZ v6 fQ gW gX v10 v11 iX iH iv iY v16 hX hY ov v20 hb hc hg hh hj fP hk v28 gM v30 v31 gn gp iw hl gq gr gs gu gw v41 gy gz:aw V}
theorem t6.upd{d t:ae}{ao:af (ae×V)}{o:O}(h:σ d=ab ⟨t,.s ao⟩):t6 σ (aC σ d o):=λU U bb z=>(iu λe=>by rw[e,h]at bb;rw[←cR bb]at z;cases z).trans bb
theorem eB.fd(h:eB σ A T bs cY cZ c9)(f:t6 σ ah):eB ah A T bs cY cZ c9:=⟨{h.K with h0:=f _ _ h.K.h0 aa,h1:=f _ _ h.K.h1 aa,h2:=f _ _ h.K.h2 aa,h3:=f _ _ h.K.h3 aa,cQ:=f _ _ h.K.cQ aa,gT:=f _ _ h.K.gT aa},f _ _ h.o aa,f _ _ h.fC aa,f _ _ h.cY aa,f _ _ h.un aa,f _ _ h.cZ aa,f _ _ h.c9 aa⟩
theorem eB.put{iO:fi}(h:eB σ A T bs cY cZ c9)(f:Fr (b' 11 15) σ ah)(K:KT ah A.tor1 iO):eB ah A iO bs cY cZ c9:=⟨K,f _ _ h.o aa,f _ _ h.fC aa,f _ _ h.cY aa,f _ _ h.un aa,f _ _ h.cZ aa,f _ _ h.c9 aa⟩
theorem t'.of(h:t' c LD σ)(f:∀b l,σ b=ab ⟨1,.l l⟩->ah b=ab ⟨1,.l l⟩):t' c LD ah:=⟨f _ _ h.al,f _ _ h.ac,f _ _ h.dJ,h.dz.elim λeb y=>⟨eb,f _ _ y.1,λj x e=>(y.2 j x e).elim λb z=>⟨b,z.1,f _ _ z.2⟩⟩⟩
theorem aT0{i j d:ae}{ao:af (ae×V)}(h:gb (W n) aj σ lm bF v)(g:lm.get i=ab (.r d))(a:σ d=ab ⟨t,.s ao⟩)(aS:t≠0)(ax:ao.length<bN)(q:∀ah,Ext σ ah->aH aj n r lm (aC ah d ⟨t,.s (dA ao j v)⟩) k):aH aj n (.S (.l i) (.s j) bF::r) lm σ k:=⟨aa,h _ _ λah x=>⟨_,g,.dict (x _ _ a) (bk ax) aS (q ah x)⟩⟩
theorem P'{F:cy}{hd:aw ae}{aq e2 bF:aW}{b:aB}(h:gb F hd σ lm aq (.b b))(g:∀ah,Ext σ ah->R F hd ah lm (aG b e2 bF) v):gb F hd σ lm (.I aq e2 bF) v:=λU U q=>h _ _ λah x=>⟨b,aa,by cases b<;>exact g ah x _ _ (q _ x)⟩
theorem aM6{ao:af (ae×V)}{x:ae}(h:ao.length<bN):w1 (.s ao) (.s x) v=ab (.s (dA ao x v)):=bk h
theorem aQ7{a:ae}{l:af ag}(g:lm.get 28=ab (.r a))(o:σ a=ab ⟨1,.l (aL l)⟩):gb (W n) aj σ lm (.I (.p .e (.l 28) (.L [])) (.g 1) (.I (.p .e (.u (.l 28) (.i 0)) (.i 1)) (.i 7) (.u (.l 28) (.i 0)))) (.i (jT l)):=by
 rcases l with _|⟨k,l⟩
 ·exact P' (Fv (R.M (.L g) o)) λU U=>.neg
 ·exact P' (Fv (R.M (.L g) o)) λah x=>.n9 (.g6 (.bC (.L g) .i (fF (x _ _ o) (f5 (k:=0) aa))) .i) aa .i (.bC (.L g) .i (fF (x _ _ o) (f5 (k:=0) aa)))
theorem PJ{st bz:aB}{s:ag}{g:ae}(K:KT σ A.tor1 (cP st tg bz m))(D:g0 σ)(h:(k8 st tg bz)[m]? =ab (s,22,aj))(hs:PP g=ab ⟨2,2,[.r (.m (.l 0) 13 [.t [.c (.i s),.l 1]])]⟩)(q:∀ah,Fr (b' 11 15) σ ah->KT ah A.tor1 (cP st tg bz (m+1))->Q (.i (16+m:ae)) ah):W (n+7) g [.r A.kt,.i 22] σ Q X:=
 bD hs aa (jt (.p aa) K.h0 aa rfl (.p aa) (zT (n:=n) K D h q))
theorem aT8{r9:ae}(x:ua f p rows cls mo zs)(D:g0 σ)(O:eB σ A (cP (cj f) tg (dE f) m) (nj f) [(67,.i 3)] kT [(19,.i 1)])(hm:(k8 (cj f) tg (dE f))[m]? =ab (11,22,aj))(em:m+1=(k8 (cj f) tg (dE f)).length)(mL:kE f=(16+m:ae))(C:t' (gR f p rows cls mo) LD σ)(od:σ LD.d=ab ⟨1,.s [(4,.r LD.ac),(16,.r LD.al),(69,.r LD.dz),(68,.r LD.dJ),(71,.i mo)]⟩)(os:σ cn=ab ⟨1,.l (aL zs)⟩)(vy:σ r9=ab ⟨1,.l (aL (eH f p))⟩):
  aH aj (n+12) (hR.body.drop 29) [v0,ab (.r cn),ab (.i bG),ab (.i f),ab (.r A.kt),hZ,ab (.r LD.ac),fQ,gW,gX,v10,ab (.t (aL (dd tg))),ab (.b (cj f)),ab (.i 22),ab (.i (eP f)),ab (.r A.h),ab (.t (aL hU)),hX,hY,ab (.r LD.d),v20,hb,hc,hg,hh,hj,fP,ab (.t (aL (ip p))),ab (.r r9),gM,v30,v31,gn,gp,iw,hl,gq,gr,gs,gu,gw,v41,gy,gz] σ (fz (λv U=>v=.b ak) X):=by
 refine aT0 (aQ7 aa vy) aa od ai (e3 aa) λaJ aM=> ?_
 have zL:=aM _ _ od
 have g:t6 σ (aC aJ LD.d ⟨1,.s [(4,.r LD.ac),(16,.r LD.al),(69,.r LD.dz),(68,.r LD.dJ),(71,.i mo),(70,.i (jT (eH f p)))]⟩):=λb o h z=>t6.upd zL b o (aM _ _ h) z
 have sV:aC aJ LD.d ⟨1,.s [(4,.r LD.ac),(16,.r LD.al),(69,.r LD.dz),(68,.r LD.dJ),(71,.i mo),(70,.i (jT (eH f p)))]⟩ LD.d=_:=bc
 show aH aj (n+12) (hR.body.drop 30) _ (aC aJ LD.d ⟨1,.s [(4,.r LD.ac),(16,.r LD.al),(69,.r LD.dz),(68,.r LD.dJ),(71,.i mo),(70,.i (jT (eH f p)))]⟩) _
 have tY:g0 (aC aJ LD.d ⟨1,.s [(4,.r LD.ac),(16,.r LD.al),(69,.r LD.dz),(68,.r LD.dJ),(71,.i mo),(70,.i (jT (eH f p)))]⟩):=⟨g _ _ D.a aa,g _ _ D.b aa,g _ _ D.c aa⟩
 generalize aC aJ LD.d _=a3 at*
 have nf:=O.fd g
 refine⟨aa,d0 (.p aa) (PJ (n:=n+5) nf.K tY hm aa λbM cz pX=>⟨_,aa,.dict (cz _ _ sV aa) (aM6 (e3 aa)) ai ?_⟩)⟩
 have h:t6 bM (aC bM LD.d ⟨1,.s (B5 LD.ac LD.al LD.dz LD.dJ mo (jT (eH f p)) (16+m:ae))⟩):=t6.upd (cz _ _ sV aa)
 have EV:=(nf.put cz pX).fd h
 have rU:t' (gR f p rows cls mo) LD (aC bM LD.d ⟨1,.s (B5 LD.ac LD.al LD.dz LD.dJ mo (jT (eH f p)) (16+m:ae))⟩):=C.of λb l w=>h _ _ (cz _ _ (g _ _ w aa) aa) aa
 have e:cP (cj f) tg (dE f) (m+1)=ey (cj f) tg (dE f):=by unfold cP;rw[em,TV];rfl
 exact aT9 x ((⟨h _ _ (cz _ _ tY.a aa) aa,h _ _ (cz _ _ tY.b aa) aa,h _ _ (cz _ _ tY.c aa) aa⟩:g0 _)) (aR e EV) ⟨rU.al,rU.ac,aR mL bc,rU.dJ,rU.dz⟩ (h _ _ (cz _ _ (g _ _ os aa) aa) aa) (h _ _ (cz _ _ (g _ _ vy aa) aa) aa)
theorem Qb{P:H->Prop}{e:aW}{m i a:ae}{l:af V}(h:∀(Q:bQ)(X:bR),(∀aJ,P aJ->Q v aJ)->vE aZ (dQ aZ PP aj n) aj lm e σ Q X)(g:lm.get i=ab (.r a))(aO:∀aJ,P aJ->aJ a=ab ⟨1,.l l⟩)(ax:l.length+1<=bN)(q:∀b aJ a3,P aJ->Ext aJ a3->a3 b=ab ⟨1,.l (v::l)⟩->aH aj n r (lm.set m (ab (.r b))) a3 k):aH aj n (.a m (.o .a (.L [e]) (.l i))::r) lm σ k:=
 h _ _ λaJ z=>⟨ob,λc dc=>⟨1,ai,_,g,.cat bc (fO dc (aO _ z)) ⟨ax,λb nb=>⟨1,ai,q b aJ _ z ((Ext.rfl.new dc).ay (Ext.rfl.new nb)) bc⟩⟩⟩⟩
theorem LK(h:f<8):dE f=(aA (eP f%2) 0&&cj f):=sq (P:=λf=>dE f=(aA (eP f%2) 0&&cj f)) h aa rfl aa rfl aa rfl aa rfl
theorem aQ2(h:f<8)(tg:aB)(u:(aA (eP f%2) 0&&cj f)=ak):(k8 (cj f) tg (dE f))[10]? =ab (5,22,aj)/\(k8 (cj f) tg (dE f))[11]? =ab (11,22,aj)/\12=(k8 (cj f) tg (dE f)).length/\kE f=27/\eH f p=26::ip p:=by
 have b:=(LK h).trans u
 have s:=df u
 unfold kE eH
 rw[b,s.2,s.1]
 cases tg<;>exact⟨aa,aa,aa,aa,aa⟩
theorem P0(h:f<8)(tg:aB)(u:(aA (eP f%2) 0&&cj f)=av):(k8 (cj f) tg (dE f))[10]? =ab (11,22,aj)/\11=(k8 (cj f) tg (dE f)).length/\kE f=26/\eH f p=aG (aA (eP f%2) 0) [22] []++ip p:=by
 have b:=(LK h).trans u
 have e:eH f p=aG (aA (eP f%2) 0) [22] []++ip p:=by
  unfold eH
  rcases y:aA (eP f%2) 0 with _|_
  ·rfl
  ·rw[y]at u;rw[show cj f=av from u];rfl
 unfold kE
 rw[b]
 cases cj f<;>cases tg<;>exact⟨aa,aa,aa,e⟩
theorem aL9(h:p<4):([.t [],.t [.i 7],.t [.i 1,.i 12],.t [.i 22]]:af V)[p]? =ab (.t (aL (ip p)))/\(ip p).length<=2:=by
 rcases p with _|_|_|_|p
 all_goals first|exact⟨aa,iz aa⟩|exact aV h (by lia)
theorem aT7(x:∀p,p<4->ua f p rows cls mo zs)(D:g0 σ)(O:eB σ A (cP (cj f) tg (dE f) 10) (nj f) [(67,.i 3)] kT [(19,.i 1)])(C:t' (gR f 0 rows cls mo) LD σ)(od:σ LD.d=ab ⟨1,.s [(4,.r LD.ac),(16,.r LD.al),(69,.r LD.dz),(68,.r LD.dJ),(71,.i mo)]⟩)(os:σ cn=ab ⟨1,.l (aL zs)⟩):
  aH aj (n+12) (hR.body.drop 26) [v0,ab (.r cn),ab (.i bG),ab (.i f),ab (.r A.kt),hZ,ab (.r LD.ac),fQ,gW,gX,v10,ab (.t (aL (dd tg))),ab (.b (cj f)),ab (.i 22),ab (.i (eP f)),ab (.r A.h),ab (.t (aL hU)),hX,hY,ab (.r LD.d),v20,hb,hc,hg,hh,hj,fP,hk,v28,gM,v30,v31,gn,gp,iw,hl,gq,gr,gs,gu,gw,v41,gy,gz] σ (fz (λv U=>v=.b ak) X):=by
 refine b5 (oe (bG/16) (y:=4) ai) λp ep jc=> ?_
 have jc:=fh.mp jc
 have Du:=x p jc
 have C:t' (gR f p rows cls mo) LD σ:=⟨C.al,C.ac,C.dJ,C.dz⟩
 have P:=aL9 jc
 refine c7 (.bC (.p aa) (ep▸.hV (.fd (.p aa) ai) ai) (fG (f5 P.1))) (kg 1 ai (N.B aa (.p aa) (zB (l:=aL (ip p)) aa)) λa na=> ?_)
 have y:Ext σ (aC σ a ⟨1,.l (aL (ip p))⟩):=Ext.rfl.new na
 have di:aC σ a ⟨1,.l (aL (ip p))⟩ a=_:=bc
 show aH aj (n+12) (hR.body.drop 28) _ (aC σ a ⟨1,.l (aL (ip p))⟩) _
 generalize aC σ a _=aJ at*
 have ax:(aL (ip p)).length+1<=bN:=aD gI (aX (pQ P.2) ai)
 have go:∀{m a2:ae}{a3:H},Fr (b' 11 15) aJ a3->KT a3 A.tor1 (cP (cj f) tg (dE f) m)->(k8 (cj f) tg (dE f))[m]? =ab (11,22,aj)->m+1=(k8 (cj f) tg (dE f)).length->kE f=(16+m:ae)->a3 a2=ab ⟨1,.l (aL (eH f p))⟩->aH aj (n+12) (hR.body.drop 29) [v0,ab (.r cn),ab (.i bG),ab (.i f),ab (.r A.kt),hZ,ab (.r LD.ac),fQ,gW,gX,v10,ab (.t (aL (dd tg))),ab (.b (cj f)),ab (.i 22),ab (.i (eP f)),ab (.r A.h),ab (.t (aL hU)),hX,hY,ab (.r LD.d),v20,hb,hc,hg,hh,hj,fP,ab (.t (aL (ip p))),ab (.r a2),gM,v30,v31,gn,gp,iw,hl,gq,gr,gs,gu,gw,v41,gy,gz] a3 (fz (λv U=>v=.b ak) X):=λf2 pW h1 h2 h3 o=>
  aT8 Du (D.fr (y.fr.ay f2) aa) ((O.ext y).put f2 pW) h1 h2 h3 (C.of λb l h=>f2 _ _ (y _ _ h) aa) (f2 _ _ (y _ _ od) aa) (f2 _ _ (y _ _ os) aa) o
 refine eR (z:=aA (eP f%2) 0) (.g6 (.B (.p aa) .i λU q=>.mod ai q) .i) (λz=> ?_) λz=> ?_
 ·rcases u:cj f with _|_
  ·have R:=P0 (p:=p) Du.f8 tg (by rw[z,u];rfl)
   rw[u]at go
   refine Qb (P:=λah=>ah=aJ) (v:=.i 22) (λQ X q=>⟨_,aa,av,aa,_,aa,q aJ aa⟩) aa (λah w=>aD w di) ax λb a3 bM w bH o3=>go (aR w bH.fr) (aR u ((O.ext y).ext (aR w bH)).K) (aR u R.1) (aR u R.2.1) R.2.2.1 (aD R.2.2.2 (aD z o3))
  ·have R:=aQ2 (p:=p) Du.f8 tg (by rw[z,u];rfl)
   rw[u]at go
   refine Qb (P:=λah=>Fr (b' 11 15) aJ ah/\KT ah A.tor1 (cP (cj f) tg (dE f) 11)) (v:=.i 26) (λQ X q=>⟨_,aa,ak,aa,d0 (.p aa) (PJ (n:=n+5) (O.ext y).K (D.fr (S:=du) y.fr aa) R.1 aa λah ih K'=>q ah ⟨ih,K'⟩)⟩) aa (λah w=>w.1 _ _ di aa) ax λb a3 bM w bH o3=>go (w.1.ay bH.fr) (aR u (w.2.fr (S:=du) bH.fr aa λU U U=>aa)) (aR u R.2.1) (aR u R.2.2.1) R.2.2.2.1 (aD R.2.2.2.2 o3)
 ·have R:=P0 (p:=p) Du.f8 tg (by rw[z];rfl)
  exact go Fr.rfl (O.ext y).K R.1 R.2.1 R.2.2.1 (aD R.2.2.2 (aD z di))
end
def r6(LD:i4)(τ σ:H):Prop:=∀b o,τ b=ab o->σ b=ab o/\b≠LD.al/\b≠LD.dz/\b≠LD.dJ
theorem r6.set{LD:i4}{τ σ:H}{a:ae}{o:O}(h:r6 LD τ σ)(cg:a=LD.al\/a=LD.dz\/a=LD.dJ):r6 LD τ (aC σ a o):=λb p bb=>
 have w:=h b p bb
 ⟨(iu λe=>cg.elim (λu=>w.2.1 (e.trans u)) λu=>u.elim (λu=>w.2.2.1 (e.trans u)) λu=>w.2.2.2 (e.trans u)).trans w.1,w.2⟩
theorem r6.new{LD:i4}{τ σ:H}{b:ae}{o c5 cX o3:O}(h:r6 LD τ σ)(nb:σ b=aj)(h1:σ LD.al=ab c5)(h2:σ LD.dz=ab cX)(h3:σ LD.dJ=ab o3):r6 LD (aC τ b o) (aC σ b o)/\Ext τ (aC τ b o):=by
 refine⟨λc p aK=> ?_,λc p aK=>(iu λe=>nomatch (e▸(h c p aK).1).symm.trans nb).trans aK⟩
 by_cases e:c=b
 ·rw[e]at aK|-
  exact⟨(bc (σ:=σ)).trans ((bc (σ:=τ)).symm.trans aK),(k4 h1 nb).symm,(k4 h2 nb).symm,(k4 h3 nb).symm⟩
 ·have w:=h c p ((iu e).symm.trans aK)
  exact⟨(iu e).trans w.1,w.2⟩
structure wI(σ0:H)(LD:i4)(bad:Cl->ag)(mo:ag)(bJ:af Cl)(eb:af ae)(τ σ:H):Prop where
 x:Ext σ0 τ
 s:r6 LD τ σ
 e:LD.al≠LD.dz/\LD.al≠LD.dJ/\LD.dz≠LD.dJ
 od:τ LD.d=ab ⟨1,.s [(4,.r LD.ac),(16,.r LD.al),(69,.r LD.dz),(68,.r LD.dJ),(71,.i mo)]⟩
 al:σ LD.al=ab ⟨1,.l ((bJ.map bA).map Cl.v)⟩
 dJ:σ LD.dJ=ab ⟨1,.l ((bJ.map bA).map λx=>.i (bad x))⟩
 dz:σ LD.dz=ab ⟨1,.l (eb.map .r)⟩
 F:dk (λv x=>∃b,v=.r b/\τ b=ab ⟨1,.l (aL (jq x))⟩) (eb.map .r) (bJ.map bA)
def LS:af St:=match hR.body.drop 25 with
 | .dw _ _ _ b::_=>b
 |_=>[]
section
variable{σ ah σ0 τ:H}{n f p t cn m mH oR:ae}{A:jm}{B:eG}{LD:i4}{tg st:aB}{c:cO}{X:bR}{Q:bQ}{rows:af eV}{cls bJ:af Cl}{mo bG:ag}{zs:af ag}{lm:bf}{r:af St}{k:cT}{v:V}{eb:af ae}{x:Cl}
variable{v0 v1 v2 lg v4 hZ v6 fQ gW gX v10 v11 iX iH iv iY v16 hX hY ov v20 hb hc hg hh hj fP hk v28 gM v30 v31 gn gp iw hl gq gr gs gu gw v41 gy gz:aw V}
theorem R.NY{F:cy}{hd:aw ae}{aq e2 bF:aW}{b:aB}{x y:ag}(h:R F hd σ lm aq (.b b))(g:b=ak->R F hd σ lm e2 (.i x))(j:b=av->R F hd σ lm bF (.i y)):R F hd σ lm (.I aq e2 bF) (.i (aG b x y)):=by
 cases b
 ·exact .GS h aa (j aa)
 ·exact .GU h aa (g aa)
theorem N.ite{F:cy}{hd:aw ae}{aq e2 bF:aW}{b:aB}{d:dN}(h:R F hd σ lm aq v)(t:jC σ v=ab b)(g:N F hd σ lm (aG b e2 bF) d):N F hd σ lm (.I aq e2 bF) d:=λQ X q=>h _ _ ⟨b,t,by cases b<;>exact g Q X q⟩
theorem aR2{aq e2:aW}{l:af V}{d:dN}(g:∀ah,Ext σ ah->ck aj n ah lm aq (.r p))(h:ub aj n σ lm e2 d)(a:σ p=ab ⟨t,.l l⟩)(aS:t≠0)(ax:l.length<bN)(q:∀b,σ b=aj->aH aj n r lm (aC (aC σ b ⟨1,d⟩) p ⟨t,.l (l++[.r b])⟩) k):aH aj n (.e (.m aq 0 [e2])::r) lm σ k:=
 g _ Ext.rfl _ _ (.own a aa (h _ _ λb nb=>⟨1,ai,t,_,fO nb a,aa,.app aa aS ax (q b nb)⟩))
theorem Xh(h:m7 rows x)(st:aB)(mo:ag):ic st mo (bA x)=aG (aA (aG (aA x.s 0) (c0 (ha st) x.x) 0) 0&&(decide (x.s<2)&&aA mo 0)) 20 (aG (aA x.s 0) (c0 (ha st) x.x) 0)/\jq (bA x)=aG (decide (1<x.s)) [] (aG (!aA x.s 0) [12] [c0 kG x.x])/\(aA x.s 0=ak->0<=x.x/\x.x<15):=by
 unfold ic jq
 rcases u:aA x.s 0 with _|_
 ·rw[show aA (bA x).s 0=av from u];exact⟨aa,aa,nofun⟩
 ·have e:=h.e (c4 u)
  have L:=B7 e.1 e.2 st
  rw[show aA (bA x).s 0=ak from u,fx_0 (c4 u),L.1,L.2.1]
  exact⟨aa,aa,λU=>⟨e.1,m5 e.2 ai⟩⟩
theorem Hn{l:af ag}{e:ag}(ax:l.length=15)(h:0<=e/\e<15):k5 (aL l) e=ab (.i (c0 l e)):=vw ⟨e.toNat,(ji h.1).symm,ax▸by lia⟩
theorem Xj{K:bf->H->Prop}(g:m7 rows x)(h:wI σ0 LD (ic st mo) mo bJ eb τ σ)(vx:σ0 oR=ab ⟨1,.l (aL kG)⟩)(ax:bJ.length<1000)(q:∀fP eb τ ah,wI σ0 LD (ic st mo) mo (bJ++[x]) eb τ ah->K [v0,v1,v2,lg,v4,hZ,v6,fQ,gW,gX,v10,v11,iX,iH,iv,iY,ab (.t (aL hU)),ab (.r oR),ab (.t (aL (ha st))),ab (.r LD.d),ab (.i x.s),ab (.i x.t0),ab (.i x.t1),ab (.i x.h0),ab (.i x.h1),ab (.i x.x),fP,hk,v28,gM,v30,v31,gn,gp,iw,hl,gq,gr,gs,gu,gw,v41,gy,gz] ah):
  aH aj n LS [v0,v1,v2,lg,v4,hZ,v6,fQ,gW,gX,v10,v11,iX,iH,iv,iY,ab (.t (aL hU)),ab (.r oR),ab (.t (aL (ha st))),ab (.r LD.d),ab (.i x.s),ab (.i x.t0),ab (.i x.t1),ab (.i x.h0),ab (.i x.h1),ab (.i x.x),fP,hk,v28,gM,v30,v31,gn,gp,iw,hl,gq,gr,gs,gu,gw,v41,gy,gz] σ (km K k):=by
 have e:=Xh g st mo
 have od:=(h.s _ _ h.od).1
 have lu:(ha st).length=15:=by cases st<;>rfl
 refine c7 (.NY (.g6 (.p aa) .i) (λu=>.bC (.p aa) (.p aa) (fG (Hn lu (e.2.2 u)))) λU=>.i) ?_
 have rest:∀{w:ag},ic st mo (bA x)=w->aH aj n (LS.drop 2) [v0,v1,v2,lg,v4,hZ,v6,fQ,gW,gX,v10,v11,iX,iH,iv,iY,ab (.t (aL hU)),ab (.r oR),ab (.t (aL (ha st))),ab (.r LD.d),ab (.i x.s),ab (.i x.t0),ab (.i x.t1),ab (.i x.h0),ab (.i x.h1),ab (.i x.x),ab (.i w),hk,v28,gM,v30,v31,gn,gp,iw,hl,gq,gr,gs,gu,gw,v41,gy,gz] σ (km K k):=λ{w} uC=>by
  have len:(bJ.map bA).length=bJ.length:=cN _
  refine fw (.bC (.p aa) .s (sub_d od aa)) (.p aa) h.dJ ai (by rw[cN,len];exact nO ax ai) ?_
  have s1:=h.s.set (o:=⟨1,.l (((bJ.map bA).map λx=>.i (ic st mo x))++[.i w])⟩) (.inr (.inr aa))
  have Lj:=(iu (o:=⟨1,.l (((bJ.map bA).map λx=>.i (ic st mo x))++[.i w])⟩) h.e.2.2).trans h.dz
  have Lo:=(iu (o:=⟨1,.l (((bJ.map bA).map λx=>.i (ic st mo x))++[.i w])⟩) h.e.2.1).trans h.al
  have Lm:aC σ LD.dJ ⟨1,.l (((bJ.map bA).map λx=>.i (ic st mo x))++[.i w])⟩ LD.dJ=_:=bc
  generalize aC σ LD.dJ _=aJ at*
  refine aR2 (λU y=>.bC (.p aa) .s (sub_d (y _ _ (s1 _ _ h.od).1) aa)) (d:=.l (aL (jq (bA x)))) ?_ Lj ai (by rw[h.F.len,len];exact nO ax ai) λb nb=> ?_
  ·rw[e.2.1]
   refine .ite (b:=decide (1<x.s)) (.q (.p aa) .i aa) aa ?_
   cases decide (1<x.s)with
   |true=>exact .L .N hC
   |false=>
    refine .ite (b:= !aA x.s 0) (.p aa) ?_ ?_
    ·exact aU ab D3
    ·rcases u:aA x.s 0 with _|_
     ·exact .L (.p aa) ob
     ·exact .L (.c (.bC (.p aa) (.p aa) (fF (s1 _ _ (h.x _ _ vx)).1 (Hn aa (e.2.2 u)))) .N) ob
  have N:=s1.new (o:=⟨1,.l (aL (jq (bA x)))⟩) nb Lo Lj Lm
  have s2:=N.1.set (o:=⟨1,.l (eb.map .r++[.r b])⟩) (.inr (.inl aa))
  have Wj:=(iu (o:=⟨1,.l (eb.map .r++[.r b])⟩) h.e.1).trans (fO (o:=⟨1,.l (aL (jq (bA x)))⟩) nb Lo)
  have Ln:=(iu (o:=⟨1,.l (eb.map .r++[.r b])⟩) h.e.2.2.symm).trans (fO (o:=⟨1,.l (aL (jq (bA x)))⟩) nb Lm)
  have Wc:aC (aC aJ b ⟨1,.l (aL (jq (bA x)))⟩) LD.dz ⟨1,.l (eb.map .r++[.r b])⟩ LD.dz=_:=bc
  generalize aC (aC aJ b _) LD.dz _=a3 at*
  refine fw (.bC (.p aa) .s (sub_d (s2 _ _ (N.2 _ _ h.od)).1 aa)) (v:=(bA x).v) (.T (.c (.p aa) (.c (.p aa) (.c (.p aa) (.c (.p aa) (.c (.p aa) (.c (.NY (.g6 (.p aa) .i) (λu=>.bC (.p aa) (.p aa) (fG (Hn aa (e.2.2 u)))) λU=>.p aa) .N)))))) (iz aa)) Wj ai (by rw[cN,len];exact nO ax ai) ?_
  exact q _ (eb++[b]) _ _ ⟨λc o aK=>N.2 _ _ (h.x c o aK),s2.set (.inl aa),h.e,N.2 _ _ h.od,by rw[gA,gA];exact bc,by rw[gA,gA];rw[←uC]at Ln;exact(iu h.e.2.1.symm).trans Ln,by rw[gA];exact(iu h.e.1.symm).trans Wc,by rw[gA,gA];exact(h.F.mono λU U U w=>w.elim λb w=>⟨b,w.1,N.2 _ _ w.2⟩).app (.one ⟨b,aa,bc⟩)⟩
 exact eR (.hN (.g6 (.p aa) .i) (.hN (.q (.p aa) .i aa) (.g6 (.bC (.p aa) .s (sub_d od aa)) .i))) (λu=>c7 .i (rest (e.1.trans (by rw[u];rfl)))) λu=>rest (e.1.trans (by rw[u];rfl))
theorem aA4{bad:Cl->ag}{j:ae}(L:wI σ0 LD bad mo bJ eb τ σ)(h:(bJ.map bA)[j]? =ab x):∃b,eb[j]? =ab b/\σ b=ab ⟨1,.l (aL (jq x))⟩:=by
 rcases L.F.get h with⟨v,e,b,u,o⟩
 rw[lV]at e
 refine b5 (wA.mp e) λcL dO w=> ?_
 cases w.trans u
 exact⟨b,dO,(L.s _ _ o).1⟩
theorem aD3(q:Fin 5):0<=c0 [4,2,1,3,0] (q.1:ae)/\c0 [4,2,1,3,0] (q.1:ae)<=9:=by revert q;decide
theorem Yp{F:cy}{e5:aW}{ac:ae}{bad:Cl->ag}(h2:lm.get 6=ab (.r ac))(h:∀ah,R F aj ah lm e5 (.i mo))(q:∀d al dz dJ τ ah,wI σ ⟨d,ac,al,dz,dJ⟩ bad mo [] [] τ ah->Q (.r d) ah):vE aZ F aj lm (.D .s [.s 4,.l 6,.s 16,.L [],.s 69,.L [],.s 68,.L [],.s 71,e5]) σ Q X:=by
 refine⟨aa,_,h2,eL _,λal d9=>⟨1,ai,eL _,λdz e4=>⟨1,ai,eL _,λdJ k3=>⟨1,ai,h _ _ _ ⟨.s [(4,.r ac),(16,.r al),(69,.r dz),(68,.r dJ),(71,.i mo)],aa,λd kf=>⟨1,ai,?_⟩⟩⟩⟩⟩⟩
 have a1:aC σ al ⟨1,.l []⟩ al=_:=bc
 have a2:=fO (o:=⟨1,.l []⟩) e4 a1
 have fB:=fO (o:=⟨1,.l []⟩) k3 a2
 have b2:aC (aC σ al ⟨1,.l []⟩) dz ⟨1,.l []⟩ dz=_:=bc
 have kp:=fO (o:=⟨1,.l []⟩) k3 b2
 have lE:aC (aC (aC σ al ⟨1,.l []⟩) dz ⟨1,.l []⟩) dJ ⟨1,.l []⟩ dJ=_:=bc
 have aM:Ext σ (aC σ al ⟨1,.l []⟩):=Ext.rfl.new d9
 have bl:=aM.ay (Ext.rfl.new (o:=⟨1,.l []⟩) e4)
 have bH:=bl.ay (Ext.rfl.new (o:=⟨1,.l []⟩) k3)
 have s:r6 ⟨d,ac,al,dz,dJ⟩ σ (aC (aC (aC σ al ⟨1,.l []⟩) dz ⟨1,.l []⟩) dJ ⟨1,.l []⟩):=λb o bb=>⟨bH b o bb,k4 bb d9,k4 bb (aM.free e4),k4 bb (bl.free k3)⟩
 have N:=s.new (o:=⟨1,.s [(4,.r ac),(16,.r al),(69,.r dz),(68,.r dJ),(71,.i mo)]⟩) kf fB kp lE
 exact q d al dz dJ _ _ ⟨N.2,N.1,⟨k4 a1 e4,k4 a2 k3,k4 b2 k3⟩,bc,fO kf fB,fO kf lE,fO kf kp,trivial⟩
theorem aT6{ac gQ u5 uc:ae}{dP dY gY:V}(f8:f<8)(g:gD rows cls [])(a6:rows.length<=60)(au:0<rows.length)(aK:cls.length<=60)(cV:4<=zs.length)(D:g0 σ)(O:eB σ A (cP (cj f) tg (dE f) 10) (nj f) [(67,.i 3)] kT [(19,.i 1)])(os:σ cn=ab ⟨1,.l (aL zs)⟩)(vx:σ oR=ab ⟨1,.l (aL kG)⟩)(xo:σ mH=ab ⟨uc,.l (cls.map Cl.v)⟩)(di:σ ac=ab ⟨1,.l ((rows.map (ij rows.length)).map eo.v)⟩)(jB:σ gQ=ab ⟨u5,.l [dP,dY,gY,.r mH]⟩):
  aH aj (n+12) (hR.body.drop 24) [v0,ab (.r cn),ab (.i bG),ab (.i f),ab (.r A.kt),ab (.r gQ),ab (.r ac),fQ,gW,gX,v10,ab (.t (aL (dd tg))),ab (.b (cj f)),ab (.i 22),ab (.i (eP f)),ab (.r A.h),ab (.t (aL hU)),ab (.r oR),ab (.t (aL (ha (cj f)))),ov,v20,hb,hc,hg,hh,hj,fP,hk,v28,gM,v30,v31,gn,gp,iw,hl,gq,gr,gs,gu,gw,v41,gy,gz] σ (fz (λv U=>v=.b ak) X):=by
 refine b5 (oe (bG/256) (y:=5) ai) λq eq nB=> ?_
 have nB:=fh.mp nB
 have hm:=aD3 ⟨q,nB⟩
 refine Yp (bad:=ic (cj f) (c0 [4,2,1,3,0] (q:ae))) aa (λU=>.bC (.p aa) (eq▸.hV (.fd (.p aa) ai) ai) (fG (vw (l:=[4,2,1,3,0]) ⟨q,aa,nB⟩))) λd al dz dJ τ aJ L=> ?_
 have xs:∀{bJ eb τ ah},wI σ ⟨d,ac,al,dz,dJ⟩ (ic (cj f) (c0 [4,2,1,3,0] (q:ae))) (c0 [4,2,1,3,0] (q:ae)) bJ eb τ ah->Ext σ ah:=λL b o h=>(L.s _ _ (L.x _ _ h)).1
 refine iF (its:=cls) (gv:=Cl.v) (λx=>[.i x.s,.i x.t0,.i x.t1,.i x.h0,.i x.h1,.i x.x]) (λb:aw V×aw V×aw V×aw V×aw V×aw V×aw V=>[v0,ab (.r cn),ab (.i bG),ab (.i f),ab (.r A.kt),ab (.r gQ),ab (.r ac),fQ,gW,gX,v10,ab (.t (aL (dd tg))),ab (.b (cj f)),ab (.i 22),ab (.i (eP f)),ab (.r A.h),ab (.t (aL hU)),ab (.r oR),ab (.t (aL (ha (cj f)))),ab (.r d),b.1,b.2.1,b.2.2.1,b.2.2.2.1,b.2.2.2.2.1,b.2.2.2.2.2.1,b.2.2.2.2.2.2,hk,v28,gM,v30,v31,gn,gp,iw,hl,gq,gr,gs,gu,gw,v41,gy,gz])
  (λl U ah=>∃bJ eb τ,bJ++l=cls/\wI σ ⟨d,ac,al,dz,dJ⟩ (ic (cj f) (c0 [4,2,1,3,0] (q:ae))) (c0 [4,2,1,3,0] (q:ae)) bJ eb τ ah) (v20,hb,hc,hg,hh,hj,fP) aa (.c (.bC (.p aa) .i (fF (xs L _ _ jB) (f5 (k:=3) aa))) .N) (kF (xs L _ _ xo)) (λU=>aa) (λU U U i=>i.elim λbJ i=>i.elim λeb i=>i.elim λτ i=>⟨uc,xs i.2 _ _ xo⟩) aa ⟨[],[],τ,aa,L⟩ (λb a3 i=> ?_) λx l b a3 mx i K' bV=> ?_
 ·refine kj i λbJ eb bi5 e nV=> ?_
  have e:=(eX bJ).symm.trans e
  rw[e]at nV
  have y:=xs nV
  exact aT7 (LD:=⟨d,ac,al,dz,dJ⟩) (λp jc=>⟨f8,jc,g,a6,au,aK,hm,cV⟩) (D.fr (S:=du) y.fr aa) (O.ext y) ⟨nV.al,y _ _ di,nV.dJ,eb,nV.dz,λj x h=>aA4 nV h⟩ (nV.s _ _ nV.od).1 (y _ _ os)
 ·refine kj i λbJ eb bi5 e nV=> ?_
  exact Xj (LD:=⟨d,ac,al,dz,dJ⟩) (g.jr x mx) nV vx (by have:=aU yk e;rw[cK,jI]at this;lia) λfP n1 bi4 ah nU=>bV (_,_,_,_,_,_,fP) ah ⟨bJ++[x],n1,bi4,(fy ..).trans e,nU⟩
end
section
variable{σ ah σ0 τ:H}{n f p t cn m mH oR:ae}{A:jm}{eF:r1}{tg st:aB}{X:bR}{Q:bQ}{rows:af eV}{cls bJ:af Cl}{mo bG:ag}{zs:af ag}{lm:bf}{r:af St}{k:cT}{v:V}{T iO:fi}{bs cY cZ c9:af (ag×V)}{S:ae->aB}
variable{v0 v1 v2 lg v4 hZ v6 fQ gW gX v10 v11 iX iH iv iY v16 hX hY ov v20 hb hc hg hh hj fP hk v28 gM v30 v31 gn gp iw hl gq gr gs gu gw v41 gy gz:aw V}
theorem Fr.rq{h:ae}(F:Fr S σ0 σ)(ke:σ0 h=aj)(x:nW h σ ah):Fr S σ0 ah:=λb o bb s=>x b o (F b o bb s) (k4 bb ke)
theorem eB.rq(O:eB σ A T bs cY cZ c9)(x:nW A.h σ ah):KT ah A.tor1 T/\ah A.fC=ab ⟨1,.d bs⟩/\ah A.cY=ab ⟨1,.d cY⟩/\ah A.un=ab ⟨1,.d []⟩/\ah A.cZ=ab ⟨1,.d cZ⟩/\ah A.c9=ab ⟨1,.d c9⟩:=
 have q:∀{b o},σ b=ab o->(∀fs,o≠⟨1,.i 5 fs⟩)->ah b=ab o:=λh u=>x _ _ h λe=>u _ (cR ((e▸h).symm.trans O.o))
 ⟨{O.K with h0:=q O.K.h0 nofun,h1:=q O.K.h1 nofun,h2:=q O.K.h2 nofun,h3:=q O.K.h3 nofun,cQ:=q O.K.cQ nofun,gT:=q O.K.gT nofun},q O.fC nofun,q O.cY nofun,q O.un nofun,q O.cZ nofun,q O.c9 nofun⟩
theorem aq6{e:aW}(K:KT σ eF T)(h:ck aj (n+1) σ lm e (.r eF.kt))(q:∀(A:jm) ah,σ A.h=aj->Ext σ ah->eB ah {A with tor1:=eF} T [] [] [] []->Q (.r A.h) ah):vE aZ (dQ aZ PP aj (n+1)) aj lm (.w 5 [e]) σ Q X:=by
 refine y4 (t:=1) (.c h .N) aa rfl (xk aa) ai λa na=> ?_
 have x0:Ext σ (aC σ a ⟨1,.i 5 []⟩):=Ext.rfl.new na
 have o0:aC σ a ⟨1,.i 5 []⟩ a=_:=bc
 show dQ aZ PP aj (n+1) 29 [.r a,.r eF.kt] (aC σ a ⟨1,.i 5 []⟩) _ _
 generalize aC σ a ⟨1,.i 5 []⟩=σ0 at*
 refine bD (D:=Mw) aa rfl (Qc (.p aa) aa o0 ai (e3 aa) aa λaJ gK c5=>s_atN 1 ai (N.D (d:=.d []) aa .N aa) aa c5 ai (e3 aa) aa λa2 a3 U gU cX e4 e2=>s_atN 1 ai (N.D (d:=.d []) aa .N aa) aa cX ai (e3 aa) aa λfB bM U nA o3 k3 bF=>s_atN 1 ai (N.D (d:=.d []) aa .N aa) aa o3 ai (e3 aa) aa λjo cC U jc jX kf eO=>s_atN 1 ai (N.D (d:=.d []) aa .N aa) aa jX ai (e3 aa) aa λgQ σ5 U pk jB zD e5=> ?_)
 have jB:σ5 a=ab ⟨1,.i 5 [(18,.r eF.kt),(21,.r a2),(22,.r fB),(23,.r jo),(24,.r gQ)]⟩:=jB
 refine s_atN 1 ai (N.D (d:=.d []) aa .N aa) aa jB ai (e3 aa) aa λE6 h7 U xp mc He sg=>s_atN 1 ai (N.D (d:=.d []) aa .N aa) aa mc ai (e3 aa) aa λE7 iI U Cs hE Hg XZ=>s_atN 1 ai (N.D (d:=.d []) aa .N aa) aa hE ai (e3 aa) aa λV' bi3 U p8 oh n8 X0=>s_atN 1 ai (N.D (d:=.d []) aa .N aa) aa oh ai (e3 aa) aa λWa RK U O6 pd U U=>⟨aa,?_⟩
 have kI:=p8.ay O6
 have f7:=Cs.ay kI
 have m2:=(pk.ay xp).ay f7
 have ek:=(nA.ay jc).ay m2
 have y:=((gK.ay gU).ay ek).ext x0 na
 exact q {eF with h:=a,fC:=a2,b1:=fB,cY:=jo,b2:=gQ,un:=E6,cZ:=E7,c9:=V',kp:=Wa} RK na y ⟨K.fr (S:=du) y.fr aa λU U U=>aa,pd,ek _ _ e4 e2,m2 _ _ kf eO,f7 _ _ He sg,kI _ _ Hg XZ,O6 _ _ n8 X0⟩
theorem Ik{f:ae}{e:aW}{d:dN}(h:ub aj n σ lm e d)(g:lm.get 15=ab (.r A.h))(O:eB σ A T bs cY cZ c9)(bu:(aZ 5).any (·.i8.contains f)=ak)(q:∀a ah,nW A.h σ ah->ah A.h=ab ⟨1,.i 5 (hS [(18,.r A.kt),(21,.r A.fC),(22,.r A.b1),(23,.r A.cY),(24,.r A.b2),(25,.r A.un),(17,.r A.cZ),(19,.r A.c9),(26,.r A.kp)] f (.r a))⟩->ah a=ab ⟨1,d⟩->aH aj n r lm ah k):aH aj n (.A (.l 15) f e::r) lm σ k:=
 s_atN 1 ai h g O.o ai (e3 aa) bu λa ah U p o na U=>q a ah p o na
theorem aS1{f:ae}{e:aW}{P:ae->H->Prop}(h:∀(Q:bQ)(X:bR),(∀a aJ,P a aJ->Q (.r a) aJ)->vE aZ (dQ aZ PP aj n) aj lm e σ Q X)(g:lm.get 15=ab (.r A.h))(aO:∀a aJ,P a aJ->eB aJ A T bs cY cZ c9)(bu:(aZ 5).any (·.i8.contains f)=ak)(q:∀a aJ ah,P a aJ->nW A.h aJ ah->ah A.h=ab ⟨1,.i 5 (hS [(18,.r A.kt),(21,.r A.fC),(22,.r A.b1),(23,.r A.cY),(24,.r A.b2),(25,.r A.un),(17,.r A.cZ),(19,.r A.c9),(26,.r A.kp)] f (.r a))⟩->aH aj n r lm ah k):aH aj n (.A (.l 15) f e::r) lm σ k:=
 h _ _ λa aJ z=>⟨_,g,.i (aO a aJ z).o ai (e3 aa) bu (q a aJ _ z (λb o bb nb=>(iu nb).trans bb) bc)⟩
theorem Bn{b:ag}{l:af ag}{bz:aB}(K:KT σ eF (cP st tg bz m))(D:g0 σ)(h:(k8 st tg bz)[m]? =ab (2,b,ab l))(bb:(cw z' b).isSome=av)(q:∀ah,Fr (b' 11 15) σ ah->KT ah eF (cP st tg bz (m+1))->Q (.i (16+m:ae)) ah):W (n+7) 11 [.r eF.kt,.i b,.t (aL l)] σ Q X:=
 bD aa rfl (dV (.q (.p aa) .c (qj D.b)) bb (jt (.p aa) K.h0 aa rfl (.p aa) (zT (A:=⟨eF,0,0,0,0,0,0,0,0,0⟩) (n:=n) K D h q)))
theorem qa{F:cy}{hd:aw ae}{e:aW}{ao:af aW}{Q:af V->dn}(h:R F hd σ lm e v)(q:h4 aZ F hd lm ao σ (λl=>Q (v::l)) X):h4 aZ F hd lm (e::ao) σ Q X:=h _ _ q
theorem Yn{i':ae}{bz:aB}(cQ:lm.get 4=ab (.r eF.kt))(qd:lm.get 7=ab (.r i'))(qe:lm.get 9=ab (.i 20))(o4:lm.get 10=ab (.i 21))(hE:σ i'=ab ⟨1,.l (aL [16,17,18])⟩)(K:KT σ eF (cP st tg bz 7))(D:g0 σ)(q:∀d aJ ah,Fr (b' 11 15) σ aJ->KT aJ eF (cP st tg bz 8)->aJ d=aj->ah=aC aJ d ⟨1,.d kT⟩->Q (.r d) ah):vE aZ (W (n+7)) aj lm (.D .i [.u (.l 7) (.i 0),.t [.l 9],.u (.l 7) (.i 1),.t [.l 10],.u (.l 7) (.i 2),.t [.f 11 [.l 4,.i 2,.t []]]]) σ Q X:=by
 have s6:∀(j:ae)(x:ag),(aL [16,17,18])[j]? =ab (.i x)->ck aj (n+7) σ lm (.u (.l 7) (.i j)) (.i x):=λj x h=>.bC (.L qd) .i (fF hE (f5 h))
 exact⟨aa,qa (s6 0 16 aa) (qa (.T (.c (.L qe) .N) ob) (qa (s6 1 17 aa) (qa (.T (.c (.L o4) .N) ob) (qa (s6 2 18 aa) (d0 (.c (.L cQ) (.c .i (.c (.T .N hC) .N))) (Bn (l:=[]) K D aa rfl λaJ f K'=>⟨ob,.d kT,aa,λd cx=>⟨1,ai,q d aJ _ f K' cx aa⟩⟩))))))⟩
theorem Yx{i':ae}{bz:aB}(cQ:lm.get 4=ab (.r eF.kt))(qd:lm.get 7=ab (.r i'))(n4:lm.get 8=ab (.i 19))(qe:lm.get 9=ab (.i 20))(o4:lm.get 10=ab (.i 21))(al9:lm.get 13=ab (.i 22))(hE:σ i'=ab ⟨1,.l (aL [16,17,18])⟩)(K:KT σ eF (cP st tg bz 8))(D:g0 σ)(q:∀a aJ ah,Fr (b' 11 15) σ aJ->KT aJ eF (cP st tg bz 10)->aJ a=aj->ah=aC aJ a ⟨1,.l (aL kG)⟩->Q (.r a) ah):vE aZ (W (n+6)) aj lm (.L [.i 12,.l 9,.i 13,.m (.l 4) 13 [.t [.i 8,.l 8]],.m (.l 4) 13 [.t [.i 8,.u (.l 7) (.i 0)]],.l 10,.l 13,.i 0,.i 0,.i 0,.i 0,.i 0,.i 0,.i 12,.l 9]) σ Q X:=
 qa .i (qa (.L qe) (qa .i (jt (.L cQ) K.h0 aa rfl (.c (.T (.c .i (.c (.L n4) .N)) qm) .N) (zT (A:=⟨eF,0,0,0,0,0,0,0,0,0⟩) (r:=(8,19,aj)) K D aa λaJ f1 oM=>jt (.L cQ) oM.h0 aa rfl (.c (.T (.c .i (.c (.bC (.L qd) .i (fF (f1 _ _ hE aa) (f5 (k:=0) aa))) .N)) qm) .N) (zT (A:=⟨eF,0,0,0,0,0,0,0,0,0⟩) (r:=(8,16,aj)) oM (D.fr f1 aa) aa λa3 f2 pW=>
  Rs.mM (.c (.L o4) (.c (.L al9) (.c .i (.c .i (.c .i (.c .i (.c .i (.c .i (.c .i (.c (.L qe) .N)))))))))) ⟨iz aa,λa na=>⟨1,ai,q a a3 _ (f1.ay f2) pW na aa⟩⟩)))))
structure Fa(σ:H)(cn gQ ac i' mH u5 uc:ae)(rows:af eV)(cls:af Cl)(zs:af ag):Prop where
 s:σ cn=ab ⟨1,.l (aL zs)⟩
 c:σ mH=ab ⟨uc,.l (cls.map Cl.v)⟩
 a:σ ac=ab ⟨1,.l ((rows.map (ij rows.length)).map eo.v)⟩
 t:∃dP dY gY,σ gQ=ab ⟨u5,.l [dP,dY,gY,.r mH]⟩
 l:σ i'=ab ⟨1,.l (aL [16,17,18])⟩
theorem Fa.fr{cn gQ ac i' u5 uc:ae}(h:Fa σ cn gQ ac i' mH u5 uc rows cls zs)(f:Fr S σ ah)(z:S 1=av)(mm:S u5=av)(nE:S uc=av):Fa ah cn gQ ac i' mH u5 uc rows cls zs:=⟨f _ _ h.s z,f _ _ h.c nE,f _ _ h.a z,h.t.elim λa h=>h.elim λb h=>h.elim λc h=>⟨a,b,c,f _ _ h mm⟩,f _ _ h.l z⟩
theorem WE(h:f<8):decide (f=4)=decide ((f:ag)=4)/\(decide ((f:ag)=4)=av->nj f=[(22,.i 12)])/\(decide ((f:ag)=4)=ak->nj f=[]):=by
 have e:decide (f=4)=decide ((f:ag)=4):=decide_eq_decide.mpr ⟨λh=>aU tK h,λh=>lx h⟩
 unfold nj
 rw[e]
 exact⟨aa,λu=>by rw[u];rfl,λu=>by rw[u];rfl⟩
theorem Qn{ac gQ i' u5 uc:ae}(f8:f<8)(g:gD rows cls [])(a6:rows.length<=60)(au:0<rows.length)(aK:cls.length<=60)(cV:4<=zs.length)(mm:b' 11 15 u5=av)(nE:b' 11 15 uc=av)(D:g0 σ)(Z:Fa σ cn gQ ac i' mH u5 uc rows cls zs)(O:eB σ A (cP (cj f) tg (dE f) 8) (nj f) [(67,.i 3)] kT [(19,.i 1)]):
  aH aj (n+12) (hR.body.drop 21) [v0,ab (.r cn),ab (.i bG),ab (.i f),ab (.r A.kt),ab (.r gQ),ab (.r ac),ab (.r i'),ab (.i 19),ab (.i 20),ab (.i 21),ab (.t (aL (dd tg))),ab (.b (cj f)),ab (.i 22),ab (.i (eP f)),ab (.r A.h),v16,hX,hY,ov,v20,hb,hc,hg,hh,hj,fP,hk,v28,gM,v30,v31,gn,gp,iw,hl,gq,gr,gs,gu,gw,v41,gy,gz] σ (fz (λv U=>v=.b ak) X):=by
 have s6:∀{lm}(j:ae)(x:ag),bf.get lm 7=ab (.r i')->(aL [16,17,18])[j]? =ab (.i x)->ck aj (n+12) σ lm (.u (.l 7) (.i j)) (.i x):=λj x a h=>.bC (.L a) .i (fF Z.l (f5 h))
 refine c7 (v:=.t (aL hU)) (.T (.c .i (.c (.p aa) (.c .i (.c (.p aa) (.c (s6 0 16 aa rfl) (.c (.p aa) (.c (.p aa) (.c (s6 1 17 aa rfl) (.c (s6 2 18 aa rfl) (.p aa)))))))))) (iz aa)) (Yx aa rfl aa rfl aa rfl Z.l O.K D λoR a3 bM f2 pW Hc e=> ?_)
 have bH:Ext a3 bM:=aD e (Ext.rfl.new Hc)
 have vx:bM oR=ab ⟨1,.l (aL kG)⟩:=aD e bc
 have F:=f2.ay bH.fr
 refine c7 (v:=.t (aL (ha (cj f)))) ?_ ?_
 ·cases cj f<;>exact .T (.c .i (.c .i (.c .i (.c .i (.c .i (.c .i (.c (.n9 (.p aa) aa .i .i) (.p aa)))))))) (iz aa)
 ·refine Rz Z.t λdP dY gY fZ=> ?_
  exact aT6 f8 g a6 au aK cV (D.fr F aa) ((O.put f2 pW).ext bH) (F _ _ Z.s aa) vx (F _ _ Z.c nE) (F _ _ Z.a aa) (F _ _ fZ mm)
theorem aT5{ac gQ i' u5 uc:ae}(f8:f<8)(g:gD rows cls [])(a6:rows.length<=60)(au:0<rows.length)(aK:cls.length<=60)(cV:4<=zs.length)(mm:b' 11 15 u5=av)(nE:b' 11 15 uc=av)(D:g0 σ)(Z:Fa σ cn gQ ac i' mH u5 uc rows cls zs)(K:KT σ eF (cP (cj f) tg (dE f) 7)):
  aH aj (n+12) (hR.body.drop 16) [v0,ab (.r cn),ab (.i bG),ab (.i f),ab (.r eF.kt),ab (.r gQ),ab (.r ac),ab (.r i'),ab (.i 19),ab (.i 20),ab (.i 21),ab (.t (aL (dd tg))),ab (.b (cj f)),ab (.i 22),ab (.i (eP f)),iY,v16,hX,hY,ov,v20,hb,hc,hg,hh,hj,fP,hk,v28,gM,v30,v31,gn,gp,iw,hl,gq,gr,gs,gu,gw,v41,gy,gz] σ (fz (λv U=>v=.b ak) X):=by
 refine aq6 (n:=n+11) K (.p aa) λA aJ Cd aM r3=>Ik (A:={A with tor1:=eF}) (d:=.d [(67,.i 3)]) (N.D aa (.p aa) aa) aa r3 aa λcY a3 gU cX e4=> ?_
 have dk:=(aM.fr (S:=b' 11 15)).rq Cd gU
 have w:=r3.rq gU
 have nf:eB a3 {A with tor1:=eF,cY:=cY} (cP (cj f) tg (dE f) 7) [] [(67,.i 3)] [] []:=⟨w.1,cX,w.2.1,e4,w.2.2.2.1,w.2.2.2.2.1,w.2.2.2.2.2⟩
 refine aS1 (A:={A with tor1:=eF,cY:=cY}) (P:=λa ah=>∃aJ,Fr (b' 11 15) a3 aJ/\KT aJ eF (cP (cj f) tg (dE f) 8)/\aJ a=aj/\ah=aC aJ a ⟨1,.d kT⟩) (λU U q=>Yn (n:=n+5) aa rfl aa rfl (dk _ _ Z.l aa) nf.K (D.fr dk aa) λd aJ ah f K n e=>q d ah ⟨aJ,f,K,n,e⟩) aa (λa ah w=>w.elim λaJ w=>aD w.2.2.2 ((nf.put w.1 w.2.1).ext (Ext.rfl.new w.2.2.1))) aa λcZ cC σ5 w pk jB=> ?_
 refine Al w λbM cz pX kf eO=> ?_
 have x4:Ext bM cC:=aD eO (Ext.rfl.new kf)
 have EV:=(nf.put cz pX).ext x4
 have EO:=(dk.ay (cz.ay x4.fr)).rq Cd pk
 have w:=EV.rq pk
 have K1:eB σ5 {A with tor1:=eF,cY:=cY,cZ:=cZ} (cP (cj f) tg (dE f) 8) [] [(67,.i 3)] kT []:=⟨w.1,jB,w.2.1,w.2.2.1,w.2.2.2.1,pk _ _ (aD eO bc) (k4 (nf.put cz pX).o kf).symm,w.2.2.2.2.2⟩
 refine Ik (A:={A with tor1:=eF,cY:=cY,cZ:=cZ}) (d:=.d [(19,.i 1)]) (N.D aa (.p aa) aa) aa K1 aa λc9 h7 xp mc He=> ?_
 have oH:=EO.rq Cd xp
 have w:=K1.rq xp
 have EW:eB h7 {A with tor1:=eF,cY:=cY,cZ:=cZ,c9:=c9} (cP (cj f) tg (dE f) 8) [] [(67,.i 3)] kT [(19,.i 1)]:=⟨w.1,mc,w.2.1,w.2.2.1,w.2.2.2.1,w.2.2.2.2.1,He⟩
 have b:=WE f8
 refine eR (.og (.p aa) .i) (λu=> ?_) λu=> ?_
 ·refine Ik (A:={A with tor1:=eF,cY:=cY,cZ:=cZ,c9:=c9}) (d:=.d [(22,.i 12)]) (N.D aa (.p aa) aa) aa EW aa λfC iI Cs hE Hg=> ?_
  have KS:=oH.rq Cd Cs
  have w:=EW.rq Cs
  exact Qn (A:={A with tor1:=eF,cY:=cY,cZ:=cZ,c9:=c9,fC:=fC}) f8 g a6 au aK cV mm nE (D.fr KS aa) (Z.fr KS aa mm nE) ⟨w.1,hE,aD (b.2.1 (Cf u)) Hg,w.2.2.1,w.2.2.2.1,w.2.2.2.2.1,w.2.2.2.2.2⟩
 ·have e:=b.2.2 ((Bool.not_eq_false' ..).mp u)
  exact Qn (A:={A with tor1:=eF,cY:=cY,cZ:=cZ,c9:=c9}) (tg:=tg) f8 g a6 au aK cV mm nE (D.fr oH aa) (Z.fr oH aa mm nE) (by rw[e];exact EW)
end
section
variable{σ ah σ0 τ:H}{n f p t cn m mH oR:ae}{A:jm}{eF:r1}{tg st bz:aB}{X:bR}{Q:bQ}{rows:af eV}{cls bJ:af Cl}{mo bG:ag}{zs:af ag}{lm:bf}{r:af St}{k:cT}{v:V}{T iO:fi}{bs cY cZ c9:af (ag×V)}{S:ae->aB}
variable{v0 v1 v2 lg v4 hZ v6 fQ gW gX v10 v11 iX iH iv iY v16 hX hY ov v20 hb hc hg hh hj fP hk v28 gM v30 v31 gn gp iw hl gq gr gs gu gw v41 gy gz:aw V}
theorem y5{rr:dr}{e:aW}(cQ:lm.get 4=ab (.r eF.kt))(K:KT σ eF (cP st tg bz m))(D:g0 σ)(h:(k8 st tg bz)[m]? =ab rr)(he:ck aj (n+6) σ lm e rr.v)(q:∀ah,Fr (b' 11 15) σ ah->KT ah eF (cP st tg bz (m+1))->Q (.i (16+m:ae)) ah):vE aZ (W (n+6)) aj lm (.m (.l 4) 13 [e]) σ Q X:=
 jt (.L cQ) K.h0 aa rfl (.c he .N) (zT (A:=⟨eF,0,0,0,0,0,0,0,0,0⟩) K D h q)
theorem Yw(cQ:lm.get 4=ab (.r eF.kt))(K:KT σ eF (cP st tg bz 0))(D:g0 σ)(q:∀a aJ ah,Fr (b' 11 15) σ aJ->KT aJ eF (cP st tg bz 3)->aJ a=aj->ah=aC aJ a ⟨1,.l (aL [16,17,18])⟩->Q (.r a) ah):vE aZ (W (n+6)) aj lm (.L [.m (.l 4) 13 [.t [.i 6,.i 0]],.m (.l 4) 13 [.t [.i 6,.i 1]],.m (.l 4) 13 [.t [.i 6,.i 2]]]) σ Q X:=
 y5 (rr:=(6,0,aj)) cQ K D aa (.p aa) λaJ f1 oM=>y5 (rr:=(6,1,aj)) cQ oM (D.fr f1 aa) aa (.p aa) λa3 f2 pW=>y5 (rr:=(6,2,aj)) cQ pW ((D.fr f1 aa).fr f2 aa) aa (.p aa) λbM cz pX=>⟨G6,λa na=>⟨1,ai,q a bM _ ((f1.ay f2).ay cz) pX na aa⟩⟩
theorem Yv(cQ:lm.get 4=ab (.r eF.kt))(M9:lm.get 11=ab (.t (aL (dd tg))))(al8:lm.get 12=ab (.b st))(K:KT σ eF (cP st tg bz 6))(D:g0 σ)(q:∀ah,Fr (b' 11 15) σ ah->KT ah eF (cP st tg bz 7)->Q (.i 22) ah):vE aZ (W (n+7)) aj lm (.I (.l 12) (.m (.l 4) 13 [.t [.i 3,.i 65,.l 11]]) (.f 11 [.l 4,.i 64,.l 11])) σ Q X:=by
 refine⟨_,al8,st,aa,?_⟩
 rcases st with _|_
 ·exact d0 (.c (.L cQ) (.c .i (.c (.L M9) .N))) (Bn (n:=n) K D aa rfl q)
 ·exact y5 (n:=n+1) (rr:=(3,65,ab (dd tg))) cQ K D aa (.T (.c .i (.c .i (.c (.L M9) .N))) G6) q
theorem aX6(h:f<8):decide ((f:ag)∈([2,5,6]:af ag))=cj f:=sq (P:=λf=>decide ((f:ag)∈([2,5,6]:af ag))=cj f) h aa rfl aa rfl aa rfl aa rfl
theorem aN3{F:cy}{e:aW}{x:ag}{i':ae}(h:R F aj σ lm e (.i x))(qd:lm.get 7=ab (.r i'))(o:σ i'=ab ⟨1,.l (aL [16,17,18])⟩):R F aj σ lm (.I e (.B .t [.l 7]) (.t [])) (.t (aL (dd (decide (x≠0))))):=by
 rcases u:decide (x≠0)with _|_
 ·exact .GS h (aU ab u) (.T .N hC)
 ·exact .GU h (aU ab u) (.bi aa (.c (.L qd) .N) (OE o))
theorem aT4{ac gQ u5 uc:ae}(f8:f<8)(g:gD rows cls [])(a6:rows.length<=60)(au:0<rows.length)(aK:cls.length<=60)(cV:4<=zs.length)(mm:b' 11 15 u5=av)(nE:b' 11 15 uc=av)(D:g0 σ)(os:σ cn=ab ⟨1,.l (aL zs)⟩)(xo:σ mH=ab ⟨uc,.l (cls.map Cl.v)⟩)(di:σ ac=ab ⟨1,.l ((rows.map (ij rows.length)).map eo.v)⟩)(fZ:∃dP dY gY,σ gQ=ab ⟨u5,.l [dP,dY,gY,.r mH]⟩)(K:KT σ eF (d3 16)):
  aH aj (n+12) (hR.body.drop 8) [v0,ab (.r cn),ab (.i bG),ab (.i f),ab (.r eF.kt),ab (.r gQ),ab (.r ac),fQ,gW,gX,v10,v11,iX,iH,iv,iY,v16,hX,hY,ov,v20,hb,hc,hg,hh,hj,fP,hk,v28,gM,v30,v31,gn,gp,iw,hl,gq,gr,gs,gu,gw,v41,gy,gz] σ (fz (λv U=>v=.b ak) X):=by
 refine Yw (n:=n+6) (st:=cj f) (tg:=decide (bG/8%2≠0)) (bz:=dE f) aa K D λi' aJ a3 f1 oM d9 e2=> ?_
 have bl:Ext aJ a3:=aD e2 (Ext.rfl.new d9)
 have dk:=f1.ay bl.fr
 have Z:Fa a3 cn gQ ac i' mH u5 uc rows cls zs:=⟨dk _ _ os aa,dk _ _ xo nE,dk _ _ di aa,fZ.elim λa h=>h.elim λb h=>h.elim λc h=>⟨a,b,c,dk _ _ h mm⟩,aD e2 bc⟩
 have pW:=oM.fr (S:=du) bl.fr aa λU U U=>aa
 have tY:=D.fr dk aa
 clear e2
 refine y5 (n:=n+6) (rr:=(7,0,aj)) aa pW tY aa (.p aa) λbM cz pX=> ?_
 have KG:=tY.fr cz aa
 refine d0 (.p aa) (Bn (n:=n+5) (l:=[]) pX KG aa rfl λcC f4 Vm=> ?_)
 have KH:=KG.fr f4 aa
 refine d0 (.p aa) (Bn (n:=n+5) (l:=[]) Vm KH aa rfl λσ5 e7 Vn=> ?_)
 have KI:=KH.fr e7 aa
 have YT:=(cz.ay f4).ay e7
 have Lh:=Z.fr YT aa mm nE
 refine c7 (aN3 (.hV (.fd (.p aa) ai) ai) aa Lh.l) (c7 (v:=.b (cj f)) (aR (aX6 f8) (.q (.p aa) (.p aa) (sD [2,5,6]))) (Yv (n:=n+5) aa rfl aa Vn KI λh7 kr Vo=>c7 (.bC (.p aa) (.p aa) (fG (vw (l:=[1,0,0,32,32,32,1,33]) ⟨f,aa,f8⟩))) ?_))
 exact aT5 f8 g a6 au aK cV mm nE (KI.fr kr aa) (Lh.fr kr aa mm nE) Vo
end
section
variable{σ ah:H}{n p t:ae}{X:bR}{Q:bQ}{zs:af ag}{lm:bf}
def rb:af ag:=[148,7,69,5,737,2,3,5,64,77,0,94,6,3]
theorem Qe{hd:aw ae}{m:ae}{e:aW}{r:af St}{k:cT}(h:vE aZ (dQ aZ PP hd n) hd lm e σ (λv ah=>aH hd n r (lm.set m (ab v)) ah k) λa ah=>k.x a lm ah):aH hd n (.a m e::r) lm σ k:=h
theorem Yr{F:cy}{e:aW}{k:ag}{l:af V}(h:R F aj σ lm e (.r p))(o:σ p=ab ⟨t,.l l⟩)(q:∀a ah,Ext σ ah->ah a=ab ⟨1,.l (ru (.to k) l)⟩->Q (.r a) ah):vE aZ F aj lm (.B .L [.S (.to k) e]) σ Q X:=
 ⟨aa,M.slice 1 ai aa h o _ _ λa aJ aM c5=>zB (v:=.r a) (l:=ru (.to k) l) (o9 c5) _ λb nb=>⟨1,ai,q b _ (aM.ay (Ext.rfl.new nb)) bc⟩⟩
theorem Yy{aq e2:aW}{F:cy}{v1 v2:V}(h1:R F aj σ lm aq v1)(h2:R F aj σ lm e2 v2)(q:∀dF ca td ah,Ext σ ah->ah td=ab ⟨30,.l [v1,v2,.r dF,.r ca]⟩->ah dF=ab ⟨31,.l []⟩->ah ca=ab ⟨32,.l []⟩->Q (.r td) ah):vE aZ F aj lm (.L [aq,e2,.L [],.L []]) σ Q X:=
 qa h1 (qa h2 ⟨eL _,λdF aF4=>⟨31,ai,eL _,λca OL=>⟨32,ai,iz aa,λtd Hm=>⟨30,ai,q dF ca td _ (((Ext.rfl.new aF4).ay (Ext.rfl.new OL)).ay (Ext.rfl.new Hm)) bc (fO Hm (fO OL bc)) (fO Hm bc)⟩⟩⟩⟩)
theorem aj5{m:ae}(q:Q (.t (aL (rb.drop m))) σ):Dk σ Q (.t (aL rb)) (.i m):=.tup (mq _) (aR (aU V.t (List.map_drop (f:=V.i) (l:=rb) (i:=m))) q)
theorem ax5(T:g0 σ)(op:σ p=ab ⟨0,.l (aL zs)⟩)(cV:zs.length<=63):dQ aZ PP aj (n+13) 107 [.r p] σ (λv U=>v=.b ak) X:=by
 refine bD (D:=hR) aa rfl (Yr (.p aa) op λa1 aJ aM c5=> ?_)
 have c5:aJ a1=ab ⟨1,.l (aL (zs.take (wZ (aL zs).length 36)))⟩:=c5.trans (aU (λl=>ab (O.mk 1 (.l l))) TM.symm)
 have l1:(zs.take (wZ (aL zs).length 36)).length<=63:=aX (List.length_take_le ..) (aX (yp ..) (aD (gI (s:=zs)) cV))
 show aH aj (n+12) (hR.body.drop 1) _ aJ _
 generalize zs.take _=dZ at*
 have hd:(rb.drop dZ.length).length=14 - dZ.length:=Ej ..
 refine Ii (l':=aL (rb.drop dZ.length)) (.p aa) c5 (N.B aa (.c (.aV3 aa .c (l4 (.p aa) c5) λU q=>aj5 q) .N) (zB (v:=.t (aL (rb.drop dZ.length))) aa)) (by rw[cK,gI,gI,hd];exact aX (nL l1 (wy 14 _)) ai) λcn a3 bl U os=> ?_
 have os:a3 cn=ab ⟨1,.l (aL (dZ++rb.drop dZ.length))⟩:=os.trans (aU (λl=>ab (O.mk 1 (.l l))) gA.symm)
 have Oc:14<=(dZ++rb.drop dZ.length).length:=by rw[cK,hd];exact Nat.sub_le_iff_le_add'.mp (da _)
 have E2:=T.fr (S:=du) (aM.ay bl).fr aa
 show aH aj (n+12) (hR.body.drop 2) _ a3 _
 generalize dZ++rb.drop dZ.length=ll at*
 clear c5 l1 hd
 refine b5 (oe (c0 ll 0) (y:=8) ai) λf g5 f8=> ?_
 refine b5 (oe (c0 ll 0) (y:=3) ai) λc uv lE=> ?_
 have c2:c<=2:=oC (fh.mp lE)
 refine c7 (.bC (.p aa) .i (fF os (vw (k:=0) ⟨0,aa,fT ai Oc⟩))) (c7 (v:=.i (f:ae)) (aR g5 (.hV (.p aa) ai)) (Qe (r:=hR.body.drop 5) (aw9 (n:=n+11) aa λA bM bH pX=>Qe (r:=hR.body.drop 6) (Yy (.p aa) .i λdF ca td cC x4 fZ c5 cX=> ?_))))
 have Rt:=bH.ay x4
 have VX:=E2.fr (S:=du) Rt.fr aa
 refine d0 (l:=[.r td,.i ((2+c:ae):ag),.i 0]) (.c (.p aa) (.c (aR (show(2:ag)+c0 ll 0%3=(2+c:ae)from aU (2+·) uv) (.B .i (.hV (.p aa) ai) λU q=>.add q)) (.c .i .N))) (LF 3 (da _) (n:=n+4) (D:=⟨td,cn,dF,ca⟩) (rows:=[]) (cls:=[]) (2+c) _ _ ⟨fZ,Rt _ _ os,c5,cX,ai⟩ gD.nil (Nat.le_add_right_of_le ai) (gC c2 2) (eL _) (da _) λσ5 rl cI dc EJ U nl U bd=> ?_)
 have bd:=bd (eL _)
 have Hf:cI.length<=60:=aX (eK (iA _).symm) (aX bd (aX (gC (gC c2 2) 40) ai))
 have WZ:dc.length<=60:=aX (rR nl) Hf
 have ke:0<cI.length:=fT (oD _) nl
 have e7:=EJ.f
 have VY:=VX.fr e7 aa
 have g:gD cI dc []:=EJ.g
 have d:jK σ5 ⟨td,cn,dF,ca⟩ ll rl cI dc:=EJ.d
 refine d0 (.c (.bC (.p aa) .i (fF d.td (f5 (k:=2) aa))) .N) (ax6 (n:=n+11) d.dF (λr h=>⟨(g.lI r h).1,(g.lI r h).2.1⟩) ke Hf λac h7 fp aH3=> ?_)
 exact aT4 (fh.mp f8) g Hf ke WZ (aX ai Oc) (u5:=30) (uc:=32) aa rfl (VY.fr (S:=du) fp.fr aa) (fp _ _ d.cn) (fp _ _ d.ca) aH3 ⟨_,_,_,fp _ _ d.td⟩ (((pX.fr (S:=du) x4.fr aa λU U U=>aa).fr e7 aa λt U b=>tI.mpr (.inl (mn.mpr λv=>aV (aX (gP.mp v) (gP.mp b)) ai))).fr (S:=du) fp.fr aa λU U U=>aa)
end
theorem ay5:wH:=λp zs a7 cV=>
 have q:∀{a o},dU a=ab o->h0 p zs a=ab o:=λh=>(iu (k4 h a7)).trans h
 ax5 (n:=157) ⟨q (a:=66) aa,q (a:=67) aa,q (a:=257) aa⟩ bc cV
theorem bn9:EC.Holds:=joined ay5
end Mine.Internal
theorem PySem.Challenge.cw_tn0024_01_holds : PySem.Challenge.rw_tn0024_01.Holds :=
 Mine.Internal.bn9
