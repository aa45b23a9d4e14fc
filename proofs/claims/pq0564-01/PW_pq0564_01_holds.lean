import PyProof.Rows.All
import KE.KItem
import KE.KDictList
import KE.KDictSum
import KE.KSorted
import KE.KRevIter
import KE.KRevSl
import KE.KSuper
import KE.KTypeName
import Wide.FinOn
import OpenK.AllK
import Wide.All
import Lean
import PySem.Challenge.RW_pq0564_01
set_option linter.all false
set_option Elab.async false
set_option compiler.extract_closed false
set_option tactic.hygienic false
set_option maxHeartbeats 1000000
set_option backward.match.sparseCases false
set_option bootstrap.genMatcherCode false
set_option genSizeOf false
set_option genInjectivity false
namespace Mine
open Option.some renaming inj->aA,injEq->S2
open List renaming length_map->aB,range->aC,mem_singleton->aD,getElem?_eq_getElem->aF,mem_filter->aG,length_append->aH,mem_map->aM,mem_of_getElem?->aO,mem_cons_self->aS,mem_append_right->aT,length_range->aU,mem_range->aW,replicate->aY,mem_append->aZ,mem_cons_of_mem->bA,mem_append_left->bB,getElem?_map->bC,mem_cons->bD,append_assoc->bF,getElem?_append_left->bH,length_filter_le->bI,getD_eq_getElem?_getD->bJ,mem_map_of_mem->bN,getElem?_eq_none->bQ,getElem?_append_right->bR,length_set->bS,map_append->bV,all_eq_true->bW,take_add_one->bX,append_nil->bY,take_length->bZ,nodup_append->cA,getElem?_eq_some_iff->cD,range_succ->cG,map_map->cI,length_singleton->cP,map_cons->cS,filter_append->cY,nodup_cons->c6,not_mem_nil->c8,length_take->c9,find?_cons->du,getElem_of_mem->dw,lookup_cons->dA,length_cons->dF,foldl_cons->dG,idxOf_lt_length_iff->dT,map_congr_left->dU,contains_iff_mem->dZ,foldl_append->d6,mem_of_find?_eq_some->et,getElem?_range->ew,getElem?_set_ne->eJ,filter_cons->eK,length_reverse->eT,cons_append->e8,mem_of_mem_take->fj,mem_of_getLast?->fk,flatMap_append->fv,mem_flatMap->fF,take_append_drop->fO,length_replicate->fP,getLastD_eq_getLast?->fU,getLast?_eq_getElem?->fV,nodup_range->gu,nodup_nil->gv,mem_reverse->gw,map_reverse->gx,foldl_nil->gy,map_nil->gL,length_mapIdx->gM,filter_eq_nil_iff->gO,getElem?_concat_length->g9,length->iS,getElem?_replicate->iT,size_toArray->jj,reverse_cons->jk,idxOf_append->jl,getLast?_map->jm,any_cons->jR,getElem?_mapIdx->jY,eq_nil_of_length_eq_zero->jZ,map_eq_nil_iff->kj,map_replicate->kI,getElem_idxOf->kJ,getElem?_take->kK,forIn_nil->kL,flatMap_cons->lB,ext_getElem?->lC,all_cons->l8,prefix_refl->mO,mapIdx_cons->mP,length_drop->mR,toArray->ni,take_of_length_le->nj,length_pos_of_mem->nk,getElem?_set_self->nq,nil_append->ny,forIn_cons->nA,mem_iff_getElem?->og,take_zero->oB,set_append_left->oE,mem_iff_getElem->oF,reverse_append->pD,append_toArray->pE,getElem?_drop->qy,reverse_perm->rK,flatten_cons->rL,getElem_mem->sF,getElem_inj->sG,flatMap_nil->sH,lookup->s4,filter_nil->uT,take_left->vp,range_add->vr,map->vt,find?_map->vu,exists_mem_of_ne_nil->wv,sum_cons->xH,length_erase_of_mem->xI,getElem?_cons_succ->xO,flatMap_eq_nil_iff->xP,sum_replicate_nat->zw,map_set->zx,getElem_cons_succ->zy,drop_of_length_le->zz,drop_eq_nil_of_le->zA,getElem?_toArray->zO,drop_eq_nil_iff->Bm,length_flatten->CB,flatten_append->CC,filter_sublist->CD,zip_cons_cons->DZ,prefix_append->D0,getLast?_cons->D1,foldl->D2,take_sublist->Ek,find?_append->El,reverse_nil->Hi,map_fst_zip->Hj,getElem_map->Hk,map_const'->HL,length_nil->HM,idxOf_cons->HN,find?_some->HO,filter_map->HP,drop_drop->LH,drop_nil->MC,map_id->P3,drop->S4
open Nat renaming le_trans->aE,le_of_ble_eq_true->aJ,le_refl->aK,zero_le->aP,lt_of_lt_of_le->a9,le_of_eq->bT,le_of_lt->cO,ne_of_lt->cT,lt_irrefl->cX,lt_or_ge->cZ,lt_of_le_of_lt->dp,lt_succ_self->dt,lt_trans->dy,testBit_two_pow->ey,not_lt_zero->eC,ne_of_gt->eD,succ_le_succ->eN,add_sub_cancel_left->eO,sub_self->eS,le_add_left->eW,not_lt_of_le->e9,testBit_or->fo,mul_le_mul_left->fx,add_le_add_left->fy,add_comm->fA,add_assoc->fE,le_add_right->fG,add_le_add->fN,pow_le_pow_right->fX,le_succ->fY,zero_add->gR,lt_succ_of_le->hO,zero_lt_succ->ig,min_le_right->ii,exists_eq_add_of_le->je,testBit_eq_decide_div_mod_eq->jo,lt_of_succ_lt_succ->jp,ble->jq,two_pow_pos->ki,add_lt_add_left->kB,not_lt->kS,lt_of_le_of_ne->kT,or_lt_two_pow->l6,le_of_lt_succ->l7,le_of_not_lt->m0,testBit_lt_two_pow->nx,add_le_add_right->oX,pos_of_ne_zero->qH,add_sub_cancel->qI,succ_ne_self->s0,min_eq_left->u8,le_antisymm->u9,lt_one_iff->wu,succ_pos->zM,lt_asymm->zN,le_of_sub_eq_zero->Bl,pow_lt_pow_right->Cy,one_pos->Cz,eq_of_testBit_eq->CA,succ_eq_add_one->DW,lt_two_pow_self->DX,add_sub_cancel'->DY,sub_add_cancel->Eh,eq_zero_or_pos->Ei,add_right_comm->Ej,succ_le_of_lt->Hd,rec->Hf,le_succ_of_le->Hg,add_sub_of_le->Hh,succ_ne_zero->HI,lt_of_not_le->HJ,div_eq_of_lt->HK,testBit_and->LF,sub_zero->PZ,min_self->P0,sub_le->S3
open PySem renaming wpAny_bind->aI,wpAny_pure->bE,wpAny_holding->dD,mem_of_lookup->dE,cellsFrom->dK,mainGlobals->dR,FuncData->d0,wpAny_execs_cons->d7,wpAny_loadPart_at->ea,wpAny_mono->ek,starEach->eG,intKind->eM,NameKind->ft,wpAny_standAt->fQ,wpAny_isSubtype_exc->gJ,sizeLine->gP,sysModules->iu,builtinType_eq_fast->iM,importedModules->ji,wpAny_call->jn,wpAny_of_eq->jA,wpAny_truthy_bool->jP,getMethod_builtin->jQ,builtinLookup_eq_fast->j5,wpAny_call_entry->kc,builtinsNs->ke,wpAny_execs_nil->kQ,codeAny->ly,tupleKind->l3,slicePick->l4,wpAny_newObj_type->m8,wpAny_assign_Name->m9,sliceBounds->na,callEnv->nc,OsState->nh,wpAny_getItem_list_slice->nv,wpAny_callSpecial?_slot->oy,treeTable->oz,codeAny_func->oU,wpAny_specialOf->pB,typeLookup_type->pC,wpAny_loadName_local->qC,wpAny_field->qD,constantsAlone->qE,compEnvC->qF,GenState->qG,swapsWith->rD,getMethod->rE,getItem->rF,DictEntry->rG,list_getitem_lookup->sf,foldedForSure->sA,behindInMarks->sB,attributeBase->sC,ExceptHandler->sD,wpAny_Return_some->u0,foldedSetIterable->u1,call_meetsIn->u2,plainObj_wpAny_Assign_Attribute->vl,pushCells->wp,noteFrame->wq,keywordEach->xF,excClassObj->xG,valueAt->zs,callerA->zt,wpAny_setField->zI,isSubtype_type->zJ,wpAny_attempt->Cq,evalPart_some->Cr,evalPart_none->Ct,eval->Cu,setFlight->DL,markedBehindIn_of_false->DM,compareOp->DN,codeAny_mono->Ed,InCallC->Ef,wpAny_pyIter_revIter->Hv,wpAny_letTemporaryGo->Hw,wpAny_Slice->Hx,handleBy->Hy,codeAny_call_builtin->Hz,backToKw->HA,wpAny_loadName_free->Lz,wpAny_isTrue_BoolOp->LB,wpAny_Constant_bool->LC,wpAny_rule->Mp,wpAny_Expr->Mq,wpAny_Constant_int->Mr,typeIs_str->Mt,tupleKind_room_in1->Mu,truthy->Mv,methodCall->Mw,ks_wpAt_execs_cons->Mx,intKind_is->My,entryOfKey->Mz,wpAny_pyIter_enum->O5,wpAny_collect_seq->O6,wpAny_Assign_Name->O7,slot_dict_setitem->O8,wpAny_madeBy_exc->PN,wpAny_lookBehind->PO,wpAny_isInstance->PP,pastItsLine_dict->PQ,opaqueClassAbove->PR,checkBuiltinCall->PS,call->PT,wpAny_operating->RQ,pushCells_keeps->RR,letOwnedTupleGo->RS,codeAny_of_tree->RT,wpAny_bindName->SN,wpAny_If->SO,slicePick_upto->SP,slicePick_from->SQ,refuseLoop_ref->SR,recursionLimit->SU,methodCallForm->SV,firstArgMember->SW,callWith->SX,wpAny_UnaryOp->V0,signature?_of->V1,methodCallPos->V2,intBits_le_64->V3,call_list_seq->V4
open And renaming intro->aQ
open PySem.Str renaming ofString->aX,length->zL
open Or renaming inr->bG,inl->bL
open Option renaming map_eq_some_iff->cC,isSome_iff_exists->cW,toList_some->eB,isNone_iff_eq_none->eV,bind_eq_some_iff->gp,map_some->jX,bind_some->l5,getD_none->rJ,map->Bj,isSome_map->Cw,getD_some->DV
open PySem.Heap renaming get?_push_size->cJ,get?_none_of_le->c5,get?_push_of_some->dH,lt_size->d5,get?_update_self->fM,SameBut->ie,dictOf_iff->j6,size_push->kH,ExtBut->Bh,get?_update_ne->Cv,get?_push_at->Eg,FlyingW->Pc
open Bool renaming and_eq_true_iff->cL,false_ne_true->ec,and_eq_true->eh,false_eq_true->fK,true_and->g7,or_eq_true_iff->kl,false_and->kM,and_true->mc,or_eq_true->nB,decide_and->nC,decide_or->oG,and_false->oH,not_true->xJ,false_or->xK,or_true->zC,eq_iff_iff->HR,not_false->LM,or_false->MD,true_or->Pi
open Int renaming natCast_nonneg->dC,ofNat_lt->dP,ofNat_le->dQ,toNat_natCast->d8,not_lt->ed,lt_of_le_of_lt->ee,toNat_of_nonneg->eU,natCast_inj->eX,le_of_lt->gT,neg_neg->l9,add_sub_cancel->qJ,le_refl->uU,fdiv_eq_ediv_of_nonneg->ww,le_trans->zP,le_of_eq->zQ,natAbs_of_nonneg->CE,lt_of_lt_of_le->Em,natCast_pos->LJ,le_antisymm->LL,ofNat_sub->Pf,ofNat_inj->Pg,le_natAbs->Ph,ne_of_gt->P5,not_le->S5
open Ne renaming symm->dJ
open List.cons renaming inj->eL,injEq->Bn
open PySem.NameKind renaming free->fT,cell->kG
open PySem.W renaming SharedT->gK,boot_heap->kf,hideAll->ng,instObj->oV,looks_findIn->u3,keeps_K->zv,namesBound->zK,staticsOk->DO,hideAll_none->Ee,plainGet->HB,laidKept->HC,ks_superObj->HD,gensDone->HE,boot_drawn->MA,makesIn->Pa,boot_toks->PU,openGood->SY
open PySem.F renaming slot_dict_get->gQ,entry_dict_get->iP,slot_tuple_getitem->kg,plainAttrs_list->lA,excBase_Exception->uR,slot_str_getitem->u4,slot_list_index->vm,args_dict_get_3->vn,args_dict_get_2->vo
open PySem.Value renaming ref->gY,isInt_shape->DP,type->PV
open PySem.Heap.SameBut renaming update->g8
open PySem.Calls renaming Name_function_global->iv,loadGlobal_builtin->sZ,spliced_cons->u5,loadGlobal_global->u6,spliced_nil->HG
open PySem.Challenge renaming pw_pq0564_01->iQ,rw_pq0564_01->MB
open PySem.Around renaming frames_deeper->jO,in1_units->DU,deeper->HH
open PySem.Builtin renaming bitNot->kh,bitOr->Hb
open List.Nodup renaming idxOf_getElem->kC,sublist->V8
open PySem.Obj renaming data_mapFields->kR,data_mapDictKeys->oW,data_mapDict->sY,isFreed_of_fields->Bg,isFreed_of_dict->DS,cls->PW
open PySem.Heap.IsSliceOf renaming new->mM
open Prod renaming snd->mN,ext->Bi
open PySem.Builtin.Range renaming rangeSize->rH,small->PX,rangeFitsLong->PY
open PyProof.Rows renaming TupKeyObj->rI,IntsAre->Pe,sub_int->RU,size_push'->RV,rshift_int->RW,pow_int_small->RX,or_int->RY,mul_list->RZ,mul_int->R0,mod_int'->R1,lshift_int_small->R2,floordiv_int->R3,and_int->R4,add_str->R5,add_int->R6
open Classical renaming byContradiction->sI,not_forall->wx,not_imp->zB
open Prod.mk renaming injEq->u7
open False renaming elim->vb
open List.Pairwise renaming nil->vx,filter->P4
open PySem.W.Looks renaming of_pure->wt,ld->SZ
open PySem.Within renaming cons->zu,nil->O9
open Function renaming comp_def->zR
open PySem.P renaming len_tuple->Bf,neg_int->DQ
open ForInStep renaming yield->Bo
open PySem.Code renaming quiet_builtin->DT
open PySem.Builtin.SmallTypes renaming newRecord->Hc
open Nat.succ renaming inj->He
open PySem.UnaryOp renaming USub->HF,Not->LD
open PySem.Heap.UpToSlots renaming trans->Pb
open PySem.BoolOp renaming And->Pd
open Eq renaming symm->R7
open PySem.Builtin.Str renaming strSliceIndices->S1
open PySem.W.WTm renaming value->V5,holds->V6
open PySem.Value.type renaming inj->V7
open Option renaming some->V9,none->Wa
open Bool renaming true->Wb,false->Wc
section
open Lean
def yA:Syntax:=.atom .none ""
def yN (k:String) (a:List Syntax):Syntax:=.node .none ("Lean.Parser.T"++k).toName a.toArray
def yL (a:List Syntax):Syntax:=.node .none `null a.toArray
def yI (s:String):Syntax:=.ident .none s.toRawSubstring s.toName []
def yU:Syntax:=yN "erm.hole" [yA]
def yH:Syntax:=yN "erm.syntheticHole" [yA,.atom .none "_"]
def yP (f:Syntax) (a:List Syntax):Syntax:=yN "erm.app" [f,yL a]
def yR (t:Syntax):Syntax:=yN "actic.refine" [yA,t]
def yD (s:String):Syntax:=yN "erm.dotIdent" [yA,yI s]
def yLs:List Syntax->Syntax
 |[]=>yD "nil"
 |a::l=>yP (yD "cons") [a,yLs l]
def yM (f:Syntax->Syntax):List Syntax->List Syntax
 |[]=>[]
 |a::l=>f a::yM f l
def yF (a:List Syntax):Syntax:=yN "actic.first" [yA,yL (yM (λt=>yL [yA,t]) a)]
def yRw (s:Syntax):MacroM Syntax:=
 let r:=s[2][1][0]
 if s[2][1].getNumArgs==0||s[3].getNumArgs != 0 then Macro.throwUnsupported else
 let w:=yN "actic.rewriteSeq" [yA,s[1],s[2].setArg 1 (yL [r]),s[3]]
 let t:=if r[0].getNumArgs==0 then r[1] else yP (yI "Eq.symm") [r[1]]
 let u (t:Syntax):=yR (yP (yI "Eq.substr") [t,yH])
 pure (yL [yF (if(t.find? (·.isOfKind `Lean.Parser.Term.syntheticHole)).isSome then [w] else [u t,u (yP t [yU]),w]),
  s.setArg 2 (s[2].setArg 1 (yL (s[2][1].getArgs.toList.drop 2)))])
def yAl (e:Syntax) (i:List Syntax) (n:Nat):Nat->List Syntax
 |0=>[]
 |k+1=>yL (yR (yP (yI s!"e{k}a{n-k}") [e,yH])::i)::yAl e i n k
def yOb (s:Syntax):MacroM Syntax:=
 let p:=s[1][0][0][0]
 let e:=s[3][1][0]
 let a:=p[1].getSepArgs.toList
 let n:=a.length
 if p.isOfKind `Lean.Parser.Tactic.rcasesPat.tuple&&s[1][0][0].getNumArgs==1&&s[2].getNumArgs==0&&1<n&&n<9 then
  let i:=[yN "actic.rintro" [yA,yL (yM (λx=>yN "actic.rintroPat.one" [yN "actic.rcasesPat.paren" [yA,x,yA]]) a),yL []]]
  pure (yF (yAl e (if e.isIdent then yF [yN "actic.clear" [yA,yL [e]],yL []]::i else i) n (min n 6)))
 else Macro.throwUnsupported
def ySe:List String->List Syntax
 |[]=>[]
 |a::l=>yN "actic.simpLemma" [yL [],yL [],yI a]::yA::ySe l
def yW:Syntax:=yF [yN "actic.dsimp" [yA,yN "actic.optConfig" [yL []],yL [],yL [.atom .none "only"],yL [yA,yL (ySe ("Tc Sa Pv Pw QZ TE TF Tj Ol PB s_ret Ti s_asg s_unp Th Tg s_ite s_for Sc Tk T9 Ue e_int e_str e_nm e_gl e_fld e_sub T8 T6 T7 e_bin e_neg e_and VO VP e_cmp RA e_ite Su Sv Ub e_tup Sw Uc Ud e_new Ua e_blt T3 St b_not b_and b_or SF SG Ur Us bK_eq b_cmp Sy Sz Uv b_tr Uq SD bsK_t bsK_f TG Sq i_rev TJ So getM0 getMs setM0 setMs eRf eIf gR0 gRs gI0 gIs hR0 hRs hI0 hIs gR2 gR3 gR4 gR5 gR6 hR2 hR3 hR4 hR5 hR6 bT1 bT2 Qz Po N1 N2 Pt Sm Sn wbK_t wbK_f R9 S9 LO truthy_int Up cw_lt cw_gt cw_ge Uh Uf Ug Tv Tw isS L8 mpS mpN gD_s gD_n Qk Qj qA p9 E8 gl0 gl1 gl2 gl3 gl4 gl5 gl6 gl7 gl8 gl9".splitOn " ")),yA],yL []],yL []]
def yG:Nat->Syntax->Syntax
 |0,t=>t
 |k+1,t=>if t.isOfKind `«term_<|_» then yP t[0] [yG k t[2]] else yP t [yH]
def yEx (s:Syntax):MacroM Syntax:=pure (yL (yW::yM (λx=>yL [yR (yG 9 x),yW]) s[1].getSepArgs.toList))
def yGe (q x:Syntax):Syntax:=yN "actic.generalize" [yA,yL [yN "actic.generalizeArg" [yL [],q,yA,x]],yL []]
def yGs:List Syntax->Syntax->List Syntax
 |[],_=>[]
 |[x],q=>[yGe q x]
 |x::l,q=>yGe (yP (yI "Prod.fst") [q]) x::yGs l (yP (yI "Prod.snd") [q])
def yEp (s:Syntax):MacroM Syntax:=
 let x:=s[1][1]
 let h:=s[2][1]
 let n:=x.getNumArgs
 let rv (a:Syntax):=yL (yM (λy=>yN "actic.revert" [yA,yL [y]]) a.getArgs.toList.reverse)
 let v:=rv x
 let i:=yR (yP (yN "erm.explicit" [yA,yI s!"eE{n}"]) (aY (n+1) yU++[yH,yH]))
 let d (s:String):=yR (yD s)
 let c:=yN "actic.constructor" [yA]
 let f:=yN "actic.focus" [yA,yL [c,yN "actic.repeat'" [yA,yN "actic.tacticSeq" [yN "actic.tacticSeq1Indented" [yL [yF [yR (yI "default"),d "none",d "nil",d "cont",c,yN "actic.intro" [yA,yL []]]]]]]]]
 let g:=yL (yGs x.getArgs.toList (yP (yI s!"ep{n}") [yN "erm.ellipsis" [yA]]))
 if s[1][0].isOfKind `num then
  pure (yL (if h.getNumArgs==0 then [v,i,f,g] else [rv h,v,i,f,g,yN "actic.intro" [yA,h]]))
 else Macro.throwUnsupported
def yDc (s:Syntax):MacroM Syntax:=let t:=s.setHeadInfo .none;if s.getPos?.isSome&&t.getPos?.isNone then pure t else Macro.throwUnsupported
end
local macro_rules (kind:=Lean.Parser.Command.declaration)|s=>yDc s
section
set_option genInjectivity true
section
variable {A B C D F G H I J L:Type}
noncomputable def ep1 (a:Nonempty A) (P:A->Prop):A:=Classical.epsilon λx=>¬P x
theorem eE1 {P:A->Prop} (a) (k:P (ep1 a P)) (x):P x:=sI λh=>Classical.epsilon_spec (p:=λx=>¬P x) ⟨x,h⟩ k
noncomputable def ep2 (a:Nonempty (A×B)) (P:A->B->Prop):=ep1 a λp=>P p.1 p.2
theorem eE2 {P:A->B->Prop} (a) (k:P (ep2 a P).1 (ep2 a P).2) (b) (x):P b x:=eE1 (P:=λp:A×B=>P p.1 p.2) a k ⟨b,x⟩
noncomputable def ep3 (a:Nonempty (A×B×C)) (P:A->B->C->Prop):=ep1 a λp=>P p.1 p.2.1 p.2.2
theorem eE3 {P:A->B->C->Prop} (a) (k:P (ep3 a P).1 (ep3 a P).2.1 (ep3 a P).2.2) (b) (c) (x):P b c x:=eE1 (P:=λp:A×B×C=>P p.1 p.2.1 p.2.2) a k ⟨b,c,x⟩
noncomputable def ep4 (a:Nonempty (A×B×C×D)) (P:A->B->C->D->Prop):=ep1 a λp=>P p.1 p.2.1 p.2.2.1 p.2.2.2
theorem eE4 {P:A->B->C->D->Prop} (a) (k:P (ep4 a P).1 (ep4 a P).2.1 (ep4 a P).2.2.1 (ep4 a P).2.2.2) (b) (c) (d) (x):P b c d x:=eE1 (P:=λp:A×B×C×D=>P p.1 p.2.1 p.2.2.1 p.2.2.2) a k ⟨b,c,d,x⟩
noncomputable def ep5 (a:Nonempty (A×B×C×D×F)) (P:A->B->C->D->F->Prop):=ep1 a λp=>P p.1 p.2.1 p.2.2.1 p.2.2.2.1 p.2.2.2.2
theorem eE5 {P:A->B->C->D->F->Prop} (a) (k:P (ep5 a P).1 (ep5 a P).2.1 (ep5 a P).2.2.1 (ep5 a P).2.2.2.1 (ep5 a P).2.2.2.2) (b) (c) (d) (f) (x):P b c d f x:=eE1 (P:=λp:A×B×C×D×F=>P p.1 p.2.1 p.2.2.1 p.2.2.2.1 p.2.2.2.2) a k ⟨b,c,d,f,x⟩
noncomputable def ep6 (a:Nonempty (A×B×C×D×F×G)) (P:A->B->C->D->F->G->Prop):=ep1 a λp=>P p.1 p.2.1 p.2.2.1 p.2.2.2.1 p.2.2.2.2.1 p.2.2.2.2.2
theorem eE6 {P:A->B->C->D->F->G->Prop} (a) (k:P (ep6 a P).1 (ep6 a P).2.1 (ep6 a P).2.2.1 (ep6 a P).2.2.2.1 (ep6 a P).2.2.2.2.1 (ep6 a P).2.2.2.2.2) (b) (c) (d) (f) (g) (x):P b c d f g x:=eE1 (P:=λp:A×B×C×D×F×G=>P p.1 p.2.1 p.2.2.1 p.2.2.2.1 p.2.2.2.2.1 p.2.2.2.2.2) a k ⟨b,c,d,f,g,x⟩
noncomputable def ep7 (a:Nonempty (A×B×C×D×F×G×H)) (P:A->B->C->D->F->G->H->Prop):=ep1 a λp=>P p.1 p.2.1 p.2.2.1 p.2.2.2.1 p.2.2.2.2.1 p.2.2.2.2.2.1 p.2.2.2.2.2.2
theorem eE7 {P:A->B->C->D->F->G->H->Prop} (a) (k:P (ep7 a P).1 (ep7 a P).2.1 (ep7 a P).2.2.1 (ep7 a P).2.2.2.1 (ep7 a P).2.2.2.2.1 (ep7 a P).2.2.2.2.2.1 (ep7 a P).2.2.2.2.2.2) (b) (c) (d) (f) (g) (h) (x):P b c d f g h x:=eE1 (P:=λp:A×B×C×D×F×G×H=>P p.1 p.2.1 p.2.2.1 p.2.2.2.1 p.2.2.2.2.1 p.2.2.2.2.2.1 p.2.2.2.2.2.2) a k ⟨b,c,d,f,g,h,x⟩
noncomputable def ep8 (a:Nonempty (A×B×C×D×F×G×H×I)) (P:A->B->C->D->F->G->H->I->Prop):=ep1 a λp=>P p.1 p.2.1 p.2.2.1 p.2.2.2.1 p.2.2.2.2.1 p.2.2.2.2.2.1 p.2.2.2.2.2.2.1 p.2.2.2.2.2.2.2
theorem eE8 {P:A->B->C->D->F->G->H->I->Prop} (a) (k:P (ep8 a P).1 (ep8 a P).2.1 (ep8 a P).2.2.1 (ep8 a P).2.2.2.1 (ep8 a P).2.2.2.2.1 (ep8 a P).2.2.2.2.2.1 (ep8 a P).2.2.2.2.2.2.1 (ep8 a P).2.2.2.2.2.2.2) (b) (c) (d) (f) (g) (h) (i) (x):P b c d f g h i x:=eE1 (P:=λp:A×B×C×D×F×G×H×I=>P p.1 p.2.1 p.2.2.1 p.2.2.2.1 p.2.2.2.2.1 p.2.2.2.2.2.1 p.2.2.2.2.2.2.1 p.2.2.2.2.2.2.2) a k ⟨b,c,d,f,g,h,i,x⟩
noncomputable def ep9 (a:Nonempty (A×B×C×D×F×G×H×I×J)) (P:A->B->C->D->F->G->H->I->J->Prop):=ep1 a λp=>P p.1 p.2.1 p.2.2.1 p.2.2.2.1 p.2.2.2.2.1 p.2.2.2.2.2.1 p.2.2.2.2.2.2.1 p.2.2.2.2.2.2.2.1 p.2.2.2.2.2.2.2.2
theorem eE9 {P:A->B->C->D->F->G->H->I->J->Prop} (a) (k:P (ep9 a P).1 (ep9 a P).2.1 (ep9 a P).2.2.1 (ep9 a P).2.2.2.1 (ep9 a P).2.2.2.2.1 (ep9 a P).2.2.2.2.2.1 (ep9 a P).2.2.2.2.2.2.1 (ep9 a P).2.2.2.2.2.2.2.1 (ep9 a P).2.2.2.2.2.2.2.2) (b) (c) (d) (f) (g) (h) (i) (j) (x):P b c d f g h i j x:=eE1 (P:=λp:A×B×C×D×F×G×H×I×J=>P p.1 p.2.1 p.2.2.1 p.2.2.2.1 p.2.2.2.2.1 p.2.2.2.2.2.1 p.2.2.2.2.2.2.1 p.2.2.2.2.2.2.2.1 p.2.2.2.2.2.2.2.2) a k ⟨b,c,d,f,g,h,i,j,x⟩
noncomputable def ep10 (a:Nonempty (A×B×C×D×F×G×H×I×J×L)) (P:A->B->C->D->F->G->H->I->J->L->Prop):=ep1 a λp=>P p.1 p.2.1 p.2.2.1 p.2.2.2.1 p.2.2.2.2.1 p.2.2.2.2.2.1 p.2.2.2.2.2.2.1 p.2.2.2.2.2.2.2.1 p.2.2.2.2.2.2.2.2.1 p.2.2.2.2.2.2.2.2.2
theorem eE10 {P:A->B->C->D->F->G->H->I->J->L->Prop} (a) (k:P (ep10 a P).1 (ep10 a P).2.1 (ep10 a P).2.2.1 (ep10 a P).2.2.2.1 (ep10 a P).2.2.2.2.1 (ep10 a P).2.2.2.2.2.1 (ep10 a P).2.2.2.2.2.2.1 (ep10 a P).2.2.2.2.2.2.2.1 (ep10 a P).2.2.2.2.2.2.2.2.1 (ep10 a P).2.2.2.2.2.2.2.2.2) (b) (c) (d) (f) (g) (h) (i) (j) (l) (x):P b c d f g h i j l x:=eE1 (P:=λp:A×B×C×D×F×G×H×I×J×L=>P p.1 p.2.1 p.2.2.1 p.2.2.2.1 p.2.2.2.2.1 p.2.2.2.2.2.1 p.2.2.2.2.2.2.1 p.2.2.2.2.2.2.2.1 p.2.2.2.2.2.2.2.2.1 p.2.2.2.2.2.2.2.2.2) a k ⟨b,c,d,f,g,h,i,j,l,x⟩
end
inductive V where
 |none
 |bool (b:Bool)
 |int (i:Int)
 |str (s:List Nat)
 |tup (vs:List V)
 |ro (vs:List V)
 |ref (i:Nat)
inductive O where
 |list (xs:List V)
 |dict (es:List (V×V))
 |inst (c:Nat) (fs:List (Nat×V))
abbrev Hp:=List O
abbrev En:=List (Option V)
inductive Fl where
 |next
 |cont
 |ret (v:V)
inductive PM where
 |add|sub|mul|fdiv|mod|pow|shl|shr|bor|band
deriving DecidableEq
inductive Lv where
 |eq|ne|lt|gt|ge|isIn|iF|AC|mV
deriving DecidableEq
set_option genInjectivity false
set_option genCtorIdx false
mutual
inductive E where
 |none
 |bool (b:Bool)
 |int (i:Int)
 |str (s:List Nat)
 |nm (k:Nat)
 |gl (g:Nat)
 |fld (o:E) (a:Nat)
 |sub (o i:E)
 |xZ (o i:E)
 |wN (o i:E)
 |EO (o:E)
 |bin (op:PM) (a b:E)
 |neg (a:E)
 |and (a b:E)
 |cmp (op:Lv) (a b:E)
 |ite (c:B) (a b:E)
 |list (es:Es)
 |tup (es:Es)
 |kx
 |comp (elt:E) (t:T) (it:I) (ifs:Bs) (ic:List Nat)
 |call (f:Nat) (es:Es)
 |new (c:Nat) (es:Es)
 |cM (o:E) (f:Nat) (es:Es)
 |blt (b:Nat) (es:Es)
 |sup (f:Nat) (es:Es)
 |si
inductive Es where
 |nil
 |cons (e:E) (es:Es)
inductive B where
 |not (b:B)
 |and (a b:B)
 |or (a b:B)
 |cmp (op:Lv) (a b:E)
 |Gv (op op':Lv) (a b c:E)
 |tr (e:E)
inductive Bs where
 |nil
 |cons (b:B) (bs:Bs)
inductive T where
 |one (k:Nat)
 |two (k l:Nat)
inductive I where
 |plain (e:E)
 |range (e:E)
 |enum (e:E)
 |rev (e:E)
inductive S where
 |expr (e:E)
 |ret (e:E)
 |E1
 |asg (k:Nat) (e:E)
 |CL (k l:Nat) (e:E)
 |dB (o:E) (a:Nat) (e:E)
 |i6 (o i e:E)
 |ite (c:B) (a b:Ss)
 |eP (t:T) (it:I) (body:Ss)
 |kU (c:B) (body:Ss)
 |cont
 |si
inductive Ss where
 |nil
 |cons (s:S) (ss:Ss)
end
noncomputable instance:DecidableEq V:=λa b=>Classical.propDecidable (a=b)
theorem e0a2 {p0 p1:Prop} {g:Prop} (h:p0/\p1) (f:p0->p1->g):g:=by rcases h with⟨h0,h1⟩;exact f h0 h1
theorem e1a1 {α0:Sort _} {p0:α0->Prop} {g:Prop} (h:∃x0,p0 x0) (f:∀x0,p0 x0->g):g:=by rcases h with⟨x0,h0⟩;exact f x0 h0
theorem e0a3 {p0 p1 p2:Prop} {g:Prop} (h:p0/\p1/\p2) (f:p0->p1->p2->g):g:=by rcases h with⟨h0,h1,h2⟩;exact f h0 h1 h2
theorem e1a2 {α0:Sort _} {p0 p1:α0->Prop} {g:Prop} (h:∃x0,p0 x0/\p1 x0) (f:∀x0,p0 x0->p1 x0->g):g:=by rcases h with⟨x0,h0,h1⟩;exact f x0 h0 h1
theorem e2a1 {α0 α1:Sort _} {p0:α0->α1->Prop} {g:Prop} (h:∃x0 x1,p0 x0 x1) (f:∀x0 x1,p0 x0 x1->g):g:=by rcases h with⟨x0,x1,h0⟩;exact f x0 x1 h0
theorem e0a4 {p0 p1 p2 p3:Prop} {g:Prop} (h:p0/\p1/\p2/\p3) (f:p0->p1->p2->p3->g):g:=by rcases h with⟨h0,h1,h2,h3⟩;exact f h0 h1 h2 h3
theorem e1a3 {α0:Sort _} {p0 p1 p2:α0->Prop} {g:Prop} (h:∃x0,p0 x0/\p1 x0/\p2 x0) (f:∀x0,p0 x0->p1 x0->p2 x0->g):g:=by rcases h with⟨x0,h0,h1,h2⟩;exact f x0 h0 h1 h2
theorem e2a2 {α0 α1:Sort _} {p0 p1:α0->α1->Prop} {g:Prop} (h:∃x0 x1,p0 x0 x1/\p1 x0 x1) (f:∀x0 x1,p0 x0 x1->p1 x0 x1->g):g:=by rcases h with⟨x0,x1,h0,h1⟩;exact f x0 x1 h0 h1
theorem e3a1 {α0 α1 α2:Sort _} {p0:α0->α1->α2->Prop} {g:Prop} (h:∃x0 x1 x2,p0 x0 x1 x2) (f:∀x0 x1 x2,p0 x0 x1 x2->g):g:=by rcases h with⟨x0,x1,x2,h0⟩;exact f x0 x1 x2 h0
theorem e0a5 {p0 p1 p2 p3 p4:Prop} {g:Prop} (h:p0/\p1/\p2/\p3/\p4) (f:p0->p1->p2->p3->p4->g):g:=by rcases h with⟨h0,h1,h2,h3,h4⟩;exact f h0 h1 h2 h3 h4
theorem e1a4 {α0:Sort _} {p0 p1 p2 p3:α0->Prop} {g:Prop} (h:∃x0,p0 x0/\p1 x0/\p2 x0/\p3 x0) (f:∀x0,p0 x0->p1 x0->p2 x0->p3 x0->g):g:=by rcases h with⟨x0,h0,h1,h2,h3⟩;exact f x0 h0 h1 h2 h3
theorem e2a3 {α0 α1:Sort _} {p0 p1 p2:α0->α1->Prop} {g:Prop} (h:∃x0 x1,p0 x0 x1/\p1 x0 x1/\p2 x0 x1) (f:∀x0 x1,p0 x0 x1->p1 x0 x1->p2 x0 x1->g):g:=by rcases h with⟨x0,x1,h0,h1,h2⟩;exact f x0 x1 h0 h1 h2
theorem e3a2 {α0 α1 α2:Sort _} {p0 p1:α0->α1->α2->Prop} {g:Prop} (h:∃x0 x1 x2,p0 x0 x1 x2/\p1 x0 x1 x2) (f:∀x0 x1 x2,p0 x0 x1 x2->p1 x0 x1 x2->g):g:=by rcases h with⟨x0,x1,x2,h0,h1⟩;exact f x0 x1 x2 h0 h1
theorem e0a6 {p0 p1 p2 p3 p4 p5:Prop} {g:Prop} (h:p0/\p1/\p2/\p3/\p4/\p5) (f:p0->p1->p2->p3->p4->p5->g):g:=by rcases h with⟨h0,h1,h2,h3,h4,h5⟩;exact f h0 h1 h2 h3 h4 h5
theorem e1a5 {α0:Sort _} {p0 p1 p2 p3 p4:α0->Prop} {g:Prop} (h:∃x0,p0 x0/\p1 x0/\p2 x0/\p3 x0/\p4 x0) (f:∀x0,p0 x0->p1 x0->p2 x0->p3 x0->p4 x0->g):g:=by rcases h with⟨x0,h0,h1,h2,h3,h4⟩;exact f x0 h0 h1 h2 h3 h4
theorem e2a4 {α0 α1:Sort _} {p0 p1 p2 p3:α0->α1->Prop} {g:Prop} (h:∃x0 x1,p0 x0 x1/\p1 x0 x1/\p2 x0 x1/\p3 x0 x1) (f:∀x0 x1,p0 x0 x1->p1 x0 x1->p2 x0 x1->p3 x0 x1->g):g:=by rcases h with⟨x0,x1,h0,h1,h2,h3⟩;exact f x0 x1 h0 h1 h2 h3
theorem e3a3 {α0 α1 α2:Sort _} {p0 p1 p2:α0->α1->α2->Prop} {g:Prop} (h:∃x0 x1 x2,p0 x0 x1 x2/\p1 x0 x1 x2/\p2 x0 x1 x2) (f:∀x0 x1 x2,p0 x0 x1 x2->p1 x0 x1 x2->p2 x0 x1 x2->g):g:=by rcases h with⟨x0,x1,x2,h0,h1,h2⟩;exact f x0 x1 x2 h0 h1 h2
theorem e1a6 {α0:Sort _} {p0 p1 p2 p3 p4 p5:α0->Prop} {g:Prop} (h:∃x0,p0 x0/\p1 x0/\p2 x0/\p3 x0/\p4 x0/\p5 x0) (f:∀x0,p0 x0->p1 x0->p2 x0->p3 x0->p4 x0->p5 x0->g):g:=by rcases h with⟨x0,h0,h1,h2,h3,h4,h5⟩;exact f x0 h0 h1 h2 h3 h4 h5
theorem e2a5 {α0 α1:Sort _} {p0 p1 p2 p3 p4:α0->α1->Prop} {g:Prop} (h:∃x0 x1,p0 x0 x1/\p1 x0 x1/\p2 x0 x1/\p3 x0 x1/\p4 x0 x1) (f:∀x0 x1,p0 x0 x1->p1 x0 x1->p2 x0 x1->p3 x0 x1->p4 x0 x1->g):g:=by rcases h with⟨x0,x1,h0,h1,h2,h3,h4⟩;exact f x0 x1 h0 h1 h2 h3 h4
theorem e3a4 {α0 α1 α2:Sort _} {p0 p1 p2 p3:α0->α1->α2->Prop} {g:Prop} (h:∃x0 x1 x2,p0 x0 x1 x2/\p1 x0 x1 x2/\p2 x0 x1 x2/\p3 x0 x1 x2) (f:∀x0 x1 x2,p0 x0 x1 x2->p1 x0 x1 x2->p2 x0 x1 x2->p3 x0 x1 x2->g):g:=by rcases h with⟨x0,x1,x2,h0,h1,h2,h3⟩;exact f x0 x1 x2 h0 h1 h2 h3
theorem e1a7 {α0:Sort _} {p0 p1 p2 p3 p4 p5 p6:α0->Prop} {g:Prop} (h:∃x0,p0 x0/\p1 x0/\p2 x0/\p3 x0/\p4 x0/\p5 x0/\p6 x0) (f:∀x0,p0 x0->p1 x0->p2 x0->p3 x0->p4 x0->p5 x0->p6 x0->g):g:=by rcases h with⟨x0,h0,h1,h2,h3,h4,h5,h6⟩;exact f x0 h0 h1 h2 h3 h4 h5 h6
theorem e2a6 {α0 α1:Sort _} {p0 p1 p2 p3 p4 p5:α0->α1->Prop} {g:Prop} (h:∃x0 x1,p0 x0 x1/\p1 x0 x1/\p2 x0 x1/\p3 x0 x1/\p4 x0 x1/\p5 x0 x1) (f:∀x0 x1,p0 x0 x1->p1 x0 x1->p2 x0 x1->p3 x0 x1->p4 x0 x1->p5 x0 x1->g):g:=by rcases h with⟨x0,x1,h0,h1,h2,h3,h4,h5⟩;exact f x0 x1 h0 h1 h2 h3 h4 h5
theorem e3a5 {α0 α1 α2:Sort _} {p0 p1 p2 p3 p4:α0->α1->α2->Prop} {g:Prop} (h:∃x0 x1 x2,p0 x0 x1 x2/\p1 x0 x1 x2/\p2 x0 x1 x2/\p3 x0 x1 x2/\p4 x0 x1 x2) (f:∀x0 x1 x2,p0 x0 x1 x2->p1 x0 x1 x2->p2 x0 x1 x2->p3 x0 x1 x2->p4 x0 x1 x2->g):g:=by rcases h with⟨x0,x1,x2,h0,h1,h2,h3,h4⟩;exact f x0 x1 x2 h0 h1 h2 h3 h4
theorem e4a4 {α0 α1 α2 α3:Sort _} {p0 p1 p2 p3:α0->α1->α2->α3->Prop} {g:Prop} (h:∃x0 x1 x2 x3,p0 x0 x1 x2 x3/\p1 x0 x1 x2 x3/\p2 x0 x1 x2 x3/\p3 x0 x1 x2 x3) (f:∀x0 x1 x2 x3,p0 x0 x1 x2 x3->p1 x0 x1 x2 x3->p2 x0 x1 x2 x3->p3 x0 x1 x2 x3->g):g:=by rcases h with⟨x0,x1,x2,x3,h0,h1,h2,h3⟩;exact f x0 x1 x2 x3 h0 h1 h2 h3
theorem e5a3 {α0 α1 α2 α3 α4:Sort _} {p0 p1 p2:α0->α1->α2->α3->α4->Prop} {g:Prop} (h:∃x0 x1 x2 x3 x4,p0 x0 x1 x2 x3 x4/\p1 x0 x1 x2 x3 x4/\p2 x0 x1 x2 x3 x4) (f:∀x0 x1 x2 x3 x4,p0 x0 x1 x2 x3 x4->p1 x0 x1 x2 x3 x4->p2 x0 x1 x2 x3 x4->g):g:=by rcases h with⟨x0,x1,x2,x3,x4,h0,h1,h2⟩;exact f x0 x1 x2 x3 x4 h0 h1 h2
theorem kD {a b c:Nat} (h:a<=b) (k:b<=c):a<=c:=aE h k
theorem ff {a b c:Nat} (h:a<b) (k:b<=c):a<c:=a9 h k
theorem zD {a b c:Nat} (h:a<=b) (k:b<c):a<c:=dp h k
theorem uV {a b c:Nat} (h:a<b) (k:b<c):a<c:=dy h k
theorem tw {a b:Nat} (h:a<b):a<=b:=cO h
theorem te {a b:Nat} (h:a=b):a<=b:=bT h
theorem tf {a b:Nat} (h:a=b):b<=a:=bT h.symm
theorem tu {a b:Nat} (h:¬a<=b):b<a:=HJ h
theorem tv {a b:Nat} (h:¬a<b):b<=a:=m0 h
theorem tb {a b c:Nat} (h:a<=b) (k:jq b c=Wb:=by rfl):a<=c:=aE h (aJ k)
theorem tc {a b c:Nat} (h:a<b) (k:jq b c=Wb:=by rfl):a<=c:=aE (cO h) (aJ k)
theorem td {a b c:Nat} (h:a<=b) (k:jq (b+1) c=Wb:=by rfl):a<c:=dp h (aJ k)
theorem tg {a b c:Nat} (h:a<b) (k:jq b c=Wb:=by rfl):a<c:=a9 h (aJ k)
theorem ta {a b:Nat}:a<=a+b:=fG a b
theorem vc {a b:Nat}:a<=b+a:=eW a b
theorem tm {a b c:Nat}:a<=a+b+c:=aE ta ta
theorem tn {a b:Nat} (h:a<b):a≠b:=cT h
theorem j7 {a b:Nat} (h:a<b):b≠a:=eD h
theorem ts {a:Nat}:a<a+1:=dt a
theorem t1 {a b:Nat} (h:a<=b):a<b+1:=hO h
theorem t0 {a b c:Nat} (h:a<b):a<b+c:=a9 h ta
theorem ti {i n:Nat} (h:¬i<n) (k:i-n=0):i=n:=u9 (Bl k) (m0 h)
theorem tq {α:Type} {a b:List α}:a.length<=(a++b).length:=aH▸ta
theorem tr {α:Type} {a:List α} {x:α}:a.length<(a++[x]).length:=aH▸ts
theorem t2 {a b:Nat} (h:a<b+1):a<=b:=l7 h
theorem nn {α:Type} {x:α} {C:Prop} (h:Wa=V9 x):C:=nomatch h
theorem uX {G:Prop} (h:¬G->False):G:=sI h
theorem tA {a b c j:Nat} (h:a<=b+1) (k:b+(j+1)<c):a+j<c:=dp (aE (oX h j) (bT (Ej b 1 j))) k
theorem tB {a b c:Nat} (k:a+b<c):a<c:=dp ta k
theorem tC {v s l:Nat} (h:v+1=s) (k:0<min (s-l) s):l<=v:=l7 (a9 (Nat.lt_of_sub_pos (a9 k (Nat.min_le_left _ _))) (bT h.symm))
theorem tG {g:Int} {n:Nat} (h:0<=g) (k:g<n):g.toNat<n:=(Int.toNat_lt h).2 k
theorem tH {j:Nat} (h:0<j):j-1<j:=Nat.sub_lt h Cz
theorem tI {j t n:Nat} (h:0<j) (k:j+t=n):j-1+(t+1)=n:=by rw[←k,fA t 1,←fE,Eh h]
theorem tJ {j t n:Nat} (h:j+t=n) (k:t<n):0<j:=qH λe=>cT k (h.symm.trans (e▸gR t)).symm
theorem tK {i n k:Nat} (h:¬i<n) (l:i-n<1) (e:n=k):i=k:=(ti h (wu.1 l)).trans e
theorem tL {c:Nat} (h:c<2):c=0\/c=1:=(Nat.lt_or_eq_of_le (t2 h)).imp wu.1 id
theorem tM {i n:Nat} (h:¬i=n):i<n↔i<n+1:=⟨t0,λk=>kT (t2 k) h⟩
theorem tN {a b:Nat} (h:3<=a) (k:a<b):b≠1/\b≠2:=⟨j7 (uV (ff (aJ rfl:1<3) h) k),j7 (uV (ff (aJ rfl:2<3) h) k)⟩
theorem tO {c k:Nat} (h:c<=502+2*k):c+1<=501+2*(k+1):=by omega
theorem tP {c k:Nat} (h:c<=501+2*k):c+1<=502+2*k:=by omega
theorem tQ {a b:Nat}:a<a+(b+1):=Nat.lt_add_of_pos_right (zM b)
theorem tR {a b c:Nat} (h:jq (b+1) c=Wb:=by rfl):a+b<a+c:=kB (aJ h) a
end
section
structure FD where
 np:Nat
 oQ:List V
 size:Nat
 body:Ss
structure PD where
 xh:Nat->Option FD
 init:Nat->Option Nat
 cM:Nat->Nat->Option Nat
 glob:Nat->Option V
 fld:Nat->List Nat
noncomputable def getM (m:En) (k:Nat):Option V:=(m[k]?).join
noncomputable def setM (m:En) (k:Nat) (v:V):En:=m.set k (V9 v)
noncomputable def uY (f:V->V->Option Bool):List V->List V->Option Bool
 |[],[]=>V9 Wb
 |a::as,b::bs=>match f a b,uY f as bs with
  |some x,V9 y=>V9 (x&&y)
  |_,_=>Wa
 |_,_=>V9 Wc
noncomputable def g0 (H:Hp):Nat->V->V->Option Bool
 |0,_,_=>Wa
 |n+1,a,b=>match a with
  | .none=>match b with| .none=>V9 Wb|_=>Wa
  | .bool x=>match b with| .bool y=>V9 (x==y)|_=>Wa
  | .int x=>match b with| .int y=>V9 (decide (x=y))|_=>Wa
  | .str x=>match b with| .str y=>V9 (decide (x=y))|_=>Wa
  | .tup xs=>match b with| .tup ys=>uY (g0 H n) xs ys|_=>Wa
  | .ro _=>Wa
  | .ref i=>match b with
   | .ref j=>if i=j then Wa else match H[i]?,H[j]? with
    |some (.list xs),V9 (.list ys)=>uY (g0 H n) xs ys
    |_,_=>Wa
   |_=>Wa
noncomputable def g6 (f:V->Option Bool):List V->Option Bool
 |[]=>V9 Wc
 |a::as=>match f a,g6 f as with
  |some x,V9 y=>V9 (x||y)
  |_,_=>Wa
noncomputable def qa (f:V->Option Bool):List V->Option Nat
 |[]=>Wa
 |a::as=>match f a with
  |some Wb=>V9 0
  |some Wc=>(qa f as).map (·+1)
  |none=>Wa
noncomputable def keyOk:V->Bool
 | .int i=>decide (-1000000<=i/\i<=1000000)
 | .str _=>Wb
 | .tup vs=>vs.all λ| .int i=>decide (0<=i/\i<=1000000)|_=>Wc
 |_=>Wc
noncomputable def lJ:V->V->Bool
 | .int _,.int _=>Wb
 | .str _,.str _=>Wb
 | .tup _,.tup _=>Wb
 |_,_=>Wc
noncomputable def gD (es:List (V×V)) (k:V):Option V:=(es.find? λp=>decide (p.1=k)).map (·.2)
noncomputable def jW (es:List (V×V)) (k v:V):List (V×V):=match es with
 |[]=>[(k,v)]
 |p::r=>if p.1=k then(p.1,v)::r else p::jW r k v
noncomputable def nt (es:List (V×V)) (k:V):Bool:=keyOk k&&es.all λp=>keyOk p.1&&lJ p.1 k
noncomputable def pv (fs:List (Nat×V)) (a:Nat):Option V:=(fs.find? λp=>p.1==a).map (·.2)
noncomputable def cE (fs:List (Nat×V)) (a:Nat) (v:V):List (Nat×V):=match fs with
 |[]=>[(a,v)]
 |p::r=>if p.1=a then(a,v)::r else p::cE r a v
noncomputable abbrev iH:Nat:=60000
noncomputable def truthy (H:Hp) (v:V):Option Bool:=match v with
 | .none=>V9 Wc
 | .bool b=>V9 b
 | .int i=>V9 (decide (i≠0))
 | .ref i=>match H[i]? with
  |some (.list xs)=>V9 (decide (xs≠[]))
  |_=>Wa
 |_=>Wa
abbrev qA {α:Type} (o:Option α) (P:α->Prop):Prop:=match o with|some a=>P a|none=>False
abbrev p9 (v:V) (P:Int->Prop):Prop:=match v with| .int i=>P i|_=>False
abbrev E8 (v:V) (P:V->V->Prop):Prop:=match v with| .tup vs=>(match vs with|[a,b]=>P a b|_=>False)|_=>False
noncomputable def idx (i:Int) (n:Nat):Option Nat:=
 if 0<=i then(if i.toNat<n then V9 i.toNat else Wa) else if 0<=i+n then V9 (i+n).toNat else Wa
inductive xC:V->V->Hp->(V->Prop)->Prop
 |list {H:Hp} {i n:Nat} {xs:List V} {j:Int} {v:V} {Q:V->Prop} (h:H[i]? =V9 (.list xs)) (hi:idx j xs.length=V9 n) (hx:xs[n]? =V9 v) (K:Q v):xC (.ref i) (.int j) H Q
 |dict {H:Hp} {i:Nat} {es:List (V×V)} {k v:V} {Q:V->Prop} (h:H[i]? =V9 (.dict es)) (hd:nt es k=Wb) (hg:gD es k=V9 v) (K:Q v):xC (.ref i) k H Q
 |str {H:Hp} {n:Nat} {s:List Nat} {j:Int} {c:Nat} {Q:V->Prop} (hs:s.length<=iH) (hi:idx j s.length=V9 n) (hx:s[n]? =V9 c) (K:Q (.str [c])):xC (.str s) (.int j) H Q
def o7 (a b:V) (H:Hp) (Q:V->Prop):Prop:=match a with
 | .tup vs=>p9 b λj=>qA (idx j vs.length) λn=>qA vs[n]? Q
 |a=>xC a b H Q
inductive Cut where
 |oN|D3
noncomputable def y2 {α:Type} (c:Cut) (i:Nat) (xs:List α):List α:=match c with
 | .oN=>xs.drop i
 | .D3=>xs.take i
inductive rn:Cut->V->V->Hp->(V->Hp->Prop)->Prop
 |list {c:Cut} {H:Hp} {i:Nat} {xs:List V} {j:Nat} {Q:V->Hp->Prop} (h:H[i]? =V9 (.list xs)) (K:Q (.ref H.length) (H++[.list (y2 c j xs)])):rn c (.ref i) (.int j) H Q
 |ro {H:Hp} {vs:List V} {j:Nat} {Q:V->Hp->Prop} (K:Q (.ref H.length) (H++[.list (vs.take j)])):rn .D3 (.ro vs) (.int j) H Q
 |str {H:Hp} {ch:Nat} {s:List Nat} {Q:V->Hp->Prop} (K:Q (.str [ch]) H):rn .D3 (.str (ch::s)) (.int 1) H Q
inductive E0:V->Hp->(V->Hp->Prop)->Prop
 |list {H:Hp} {i:Nat} {xs:List V} {Q:V->Hp->Prop} (h:H[i]? =V9 (.list xs)) (K:Q (.ref H.length) (H++[.list xs.reverse])):E0 (.ref i) H Q
inductive iJ:PM->V->V->Hp->(V->Hp->Prop)->Prop
 |add {H:Hp} {i j:Int} {Q:V->Hp->Prop} (K:Q (.int (i+j)) H):iJ .add (.int i) (.int j) H Q
 |mul {H:Hp} {i j:Int} {Q:V->Hp->Prop} (h:i.natAbs<1000000000000\/j.natAbs<1000000000000) (K:Q (.int (i*j)) H):iJ .mul (.int i) (.int j) H Q
 |fdiv {H:Hp} {i j:Int} {Q:V->Hp->Prop} (h0:0<j) (h1:j<=1000000) (K:Q (.int (i / j)) H):iJ .fdiv (.int i) (.int j) H Q
 |mod {H:Hp} {i j:Int} {Q:V->Hp->Prop} (h0:0<j) (h1:j<=1000000) (K:Q (.int (i % j)) H):iJ .mod (.int i) (.int j) H Q
 |pow {H:Hp} {i:Int} {Q:V->Hp->Prop} (h0:0<=i) (h1:i<=1000000) (K:Q (.int (i ^ 5)) H):iJ .pow (.int i) (.int 5) H Q
 |shl {H:Hp} {j:Nat} {Q:V->Hp->Prop} (h1:j<=1000) (K:Q (.int (2 ^ j:Nat)) H):iJ .shl (.int 1) (.int j) H Q
 |shr {H:Hp} {i j:Nat} {Q:V->Hp->Prop} (h1:j<=1000) (K:Q (.int (i / 2 ^ j:Nat)) H):iJ .shr (.int i) (.int j) H Q
 |bor {H:Hp} {i j:Nat} {Q:V->Hp->Prop} (K:Q (.int (i|||j:Nat)) H):iJ .bor (.int i) (.int j) H Q
 |band {H:Hp} {i j:Nat} {Q:V->Hp->Prop} (K:Q (.int (i&&& j:Nat)) H):iJ .band (.int i) (.int j) H Q
 |RC {H:Hp} {s t:List Nat} {Q:V->Hp->Prop} (h:s.length<=iH) (h':t.length<=iH) (K:Q (.str (s++t)) H):iJ .add (.str s) (.str t) H Q
 |RD {H:Hp} {i j:Nat} {xs ys:List V} {Q:V->Hp->Prop} (h:H[i]? =V9 (.list xs)) (h':H[j]? =V9 (.list ys)) (hb:xs.length<=iH) (hb':ys.length<=iH) (K:Q (.ref H.length) (H++[.list (xs++ys)])):iJ .add (.ref i) (.ref j) H Q
 |NW {H:Hp} {i:Nat} {xs:List V} {k:Nat} {Q:V->Hp->Prop} (h:H[i]? =V9 (.list xs)) (hn:k<=iH) (hk:xs.length*k<=iH) (K:Q (.ref H.length) (H++[.list (aY k xs).flatten])):iJ .mul (.ref i) (.int k) H Q
def lU (op:PM) (a b:V) (H:Hp) (Q:V->Hp->Prop):Prop:=match op with
 | .sub=>p9 a λi=>p9 b λj=>Q (.int (i-j)) H
 |op=>iJ op a b H Q
inductive lZ:Lv->V->V->Hp->(Bool->Prop)->Prop
 |AC {H:Hp} {a:V} {Q:Bool->Prop} (K:Q (decide (a= .none))):lZ .AC a .none H Q
 |mV {H:Hp} {a:V} {Q:Bool->Prop} (K:Q (!decide (a= .none))):lZ .mV a .none H Q
 |Pz {H:Hp} {a:V} {vs:List V} {x:Bool} {Q:Bool->Prop} (he:g6 (g0 H 6 · a) vs=V9 x) (K:Q x):lZ .isIn a (.tup vs) H Q
 |QK {H:Hp} {a:V} {vs:List V} {x:Bool} {Q:Bool->Prop} (he:g6 (g0 H 6 · a) vs=V9 x) (K:Q (!x)):lZ .iF a (.tup vs) H Q
 |inL {H:Hp} {a:V} {i:Nat} {vs:List V} {x:Bool} {Q:Bool->Prop} (h:H[i]? =V9 (.list vs)) (he:g6 (g0 H 6 · a) vs=V9 x) (K:Q x):lZ .isIn a (.ref i) H Q
 |QL {H:Hp} {a:V} {i:Nat} {vs:List V} {x:Bool} {Q:Bool->Prop} (h:H[i]? =V9 (.list vs)) (he:g6 (g0 H 6 · a) vs=V9 x) (K:Q (!x)):lZ .iF a (.ref i) H Q
 |inD {H:Hp} {a:V} {i:Nat} {es:List (V×V)} {Q:Bool->Prop} (h:H[i]? =V9 (.dict es)) (hd:nt es a=Wb) (K:Q (gD es a).isSome):lZ .isIn a (.ref i) H Q
 |QM {H:Hp} {a:V} {i:Nat} {es:List (V×V)} {Q:Bool->Prop} (h:H[i]? =V9 (.dict es)) (hd:nt es a=Wb) (K:Q (!(gD es a).isSome)):lZ .iF a (.ref i) H Q
def iy (op:Lv) (a b:V) (H:Hp) (Q:Bool->Prop):Prop:=match op with
 | .lt=>p9 a λi=>p9 b λj=>Q (decide (i<j))
 | .gt=>p9 a λi=>p9 b λj=>Q (decide (i>j))
 | .ge=>p9 a λi=>p9 b λj=>Q (decide (i>=j))
 | .eq=>qA (g0 H 6 a b) Q
 | .ne=>qA (g0 H 6 a b) λx=>Q (!x)
 |op=>lZ op a b H Q
noncomputable def intsOf:List V->Option (List Int)
 |[]=>V9 []
 |v::r=>match v with| .int i=>(intsOf r).map (i::·)|_=>Wa
noncomputable def insI (i:Int):List Int->List Int
 |[]=>[i]
 |j::r=>if i<=j then i::j::r else j::insI i r
noncomputable def sortI:List Int->List Int
 |[]=>[]
 |i::r=>insI i (sortI r)
noncomputable def Ax:List Int->Option Int
 |[]=>Wa
 |i::r=>match Ax r with|none=>V9 i|some m=>V9 (if m<i then i else m)
inductive io:Nat->List V->Hp->(V->Hp->Prop)->Prop
 |QV {H:Hp} {i:Nat} {xs:List V} {Q:V->Hp->Prop} (h:H[i]? =V9 (.list xs)) (K:Q (.int xs.length) H):io 0 [.ref i] H Q
 |QU {H:Hp} {vs:List V} {Q:V->Hp->Prop} (K:Q (.int vs.length) H):io 0 [.tup vs] H Q
 |L5 {H:Hp} {i:Nat} {xs:List V} {Q:V->Hp->Prop} (h:H[i]? =V9 (.list xs)) (K:Q (.ref H.length) (H++[.list xs])):io 1 [.ref i] H Q
 |L4 {H:Hp} {vs:List V} {Q:V->Hp->Prop} (K:Q (.ref H.length) (H++[.list vs])):io 1 [.tup vs] H Q
 |Qe {H:Hp} {i:Nat} {xs:List V} {Q:V->Hp->Prop} (h:H[i]? =V9 (.list xs)) (K:Q (.tup xs) H):io 2 [.ref i] H Q
 |LR {H:Hp} {i:Nat} {xs:List V} {is:List Int} {Q:V->Hp->Prop} (h:H[i]? =V9 (.list xs)) (hi:intsOf xs=V9 is) (hb:is.length<64) (K:Q (.ref H.length) (H++[.list ((sortI is).map .int)])):io 3 [.ref i] H Q
 |LS {H:Hp} {i:Nat} {es:List (V×V)} {is:List Int} {Q:V->Hp->Prop} (h:H[i]? =V9 (.dict es)) (hi:intsOf (es.map (·.1))=V9 is) (hb:is.length<64) (K:Q (.ref H.length) (H++[.list ((sortI is).map .int)])):io 3 [.ref i] H Q
 |LQ {H:Hp} {vs:List V} {is:List Int} {Q:V->Hp->Prop} (hi:intsOf vs=V9 is) (hb:is.length<64) (K:Q (.ref H.length) (H++[.list ((sortI is).map .int)])):io 3 [.tup vs] H Q
 |str {H:Hp} {i:Nat} {Q:V->Hp->Prop} (h:i<10) (K:Q (.str [48+i]) H):io 4 [.int i] H Q
 |abs {H:Hp} {i:Int} {Q:V->Hp->Prop} (K:Q (.int i.natAbs) H):io 5 [.int i] H Q
 |int {H:Hp} {i:Int} {Q:V->Hp->Prop} (K:Q (.int i) H):io 6 [.int i] H Q
 |max {H:Hp} {i:Nat} {xs:List V} {is:List Int} {x:Int} {Q:V->Hp->Prop} (h:H[i]? =V9 (.list xs)) (hi:intsOf xs=V9 is) (hx:Ax is=V9 x) (K:Q (.int x) H):io 7 [.ref i] H Q
inductive hY:Nat->V->Nat->List V->Hp->(V->Hp->Prop)->Prop
 |append {H:Hp} {i:Nat} {xs:List V} {v:V} {Q:V->Hp->Prop} (h:H[i]? =V9 (.list xs)) (hb:xs.length<=iH) (K:Q .none (H.set i (.list (xs++[v])))):hY 0 (.ref i) 0 [v] H Q
 |extend {H:Hp} {i j:Nat} {xs ys:List V} {Q:V->Hp->Prop} (hij:i≠j) (h:H[i]? =V9 (.list xs)) (h':H[j]? =V9 (.list ys)) (hb:xs.length<=iH) (hb':ys.length<=iH) (K:Q .none (H.set i (.list (xs++ys)))):hY 0 (.ref i) 1 [.ref j] H Q
 |index {H:Hp} {i:Nat} {xs:List V} {v:V} {n:Nat} {b:Bool} {Q:V->Hp->Prop} (h:H[i]? =V9 (.list xs)) (h1:g6 (g0 H 6 · v) xs=V9 b) (h2:qa (g0 H 6 · v) xs=V9 n) (K:Q (.int n) H):hY 0 (.ref i) 2 [v] H Q
 |TO {H:Hp} {i:Nat} {es:List (V×V)} {k:V} {Q:V->Hp->Prop} (h:H[i]? =V9 (.dict es)) (hd:nt es k=Wb) (K:Q ((gD es k).getD .none) H):hY 1 (.ref i) 3 [k] H Q
 |Q9 {H:Hp} {i:Nat} {es:List (V×V)} {k d:V} {Q:V->Hp->Prop} (h:H[i]? =V9 (.dict es)) (hd:nt es k=Wb) (K:Q ((gD es k).getD d) H):hY 1 (.ref i) 3 [k,d] H Q
 |ab {H:Hp} {c:Nat} {Q:V->Hp->Prop} (hc:c<2) (K:Q (.int c) H):hY 2 (.str [97,98]) 2 [.str [97+c]] H Q
inductive rP:V->V->V->Hp->(Hp->Prop)->Prop
 |list {H:Hp} {i:Nat} {xs:List V} {v:V} {j:Nat} {Q:Hp->Prop} (h:H[i]? =V9 (.list xs)) (hj:j<xs.length) (K:Q (H.set i (.list (xs.set j v)))):rP (.ref i) (.int j) v H Q
 |dict {H:Hp} {i:Nat} {es:List (V×V)} {k v:V} {Q:Hp->Prop} (h:H[i]? =V9 (.dict es)) (hd:nt es k=Wb) (hb:es.length<=900) (K:Q (H.set i (.dict (jW es k v)))):rP (.ref i) k v H Q
noncomputable def jN (t:T) (v:V) (m:En):Option En:=match t with
 | .one k=>V9 (setM m k v)
 | .two k l=>match v with
  | .tup vs=>match vs with
   |[v,u]=>V9 (setM (setM m k v) l u)
   |_=>Wa
  |_=>Wa
inductive w9:Bool->Bool->V->Hp->(List V->(Hp->Prop)->Prop)->Prop
 |list {H:Hp} {i:Nat} {xs:List V} {Q:List V->(Hp->Prop)->Prop} (h:H[i]? =V9 (.list xs)) (K:Q xs (λH'=>H'[i]? =V9 (.list xs))):w9 Wc Wc (.ref i) H Q
 |dict {H:Hp} {i:Nat} {es:List (V×V)} {is:List Int} {Q:List V->(Hp->Prop)->Prop} (h:H[i]? =V9 (.dict es)) (hi:intsOf (es.map (·.1))=V9 is) (K:Q (es.map (·.1)) (λH'=>H'[i]? =V9 (.dict es))):w9 Wc Wc (.ref i) H Q
 |tup {H:Hp} {vs:List V} {Q:List V->(Hp->Prop)->Prop} (K:Q vs (λ_=>True)):w9 Wc Wc (.tup vs) H Q
 |rev {H:Hp} {i:Nat} {xs:List V} {Q:List V->(Hp->Prop)->Prop} (h:H[i]? =V9 (.list xs)) (K:Q xs.reverse (λH'=>H'[i]? =V9 (.list xs))):w9 Wb Wc (.ref i) H Q
 |Qy {H:Hp} {vs:List V} {Q:List V->(Hp->Prop)->Prop} (K:Q vs.reverse (λ_=>True)):w9 Wb Wc (.tup vs) H Q
 |enum {H:Hp} {i:Nat} {xs:List V} {Q:List V->(Hp->Prop)->Prop} (h:H[i]? =V9 (.list xs)) (K:Q (xs.mapIdx λn x=>.tup [.int n,x]) (λH'=>H'[i]? =V9 (.list xs))):w9 Wc Wb (.ref i) H Q
inductive wP:V->(List V->(Hp->Prop)->Prop)->Prop
 |mk {n:Nat} {Q:List V->(Hp->Prop)->Prop} (hb:n<=iH) (K:Q ((aC n).map λ(k:Nat)=>.int k) (λ_=>True)):wP (.int n) Q
abbrev d9:=Nat->List V->Hp->(V->Hp->Prop)->Prop
def forL (live:Hp->Prop) (t:T) (body:En->Hp->(Fl->En->Hp->Prop)->Prop):List V->En->Hp->(Fl->En->Hp->Prop)->Prop
 |[],m,H,Q=>live H/\Q .next m H
 |v::vs,m,H,Q=>live H/\qA (jN t v m) λm'=>body m' H λfl m'' H''=>match fl with
   | .ret r=>Q (.ret r) m'' H''
   |_=>forL live t body vs m'' H'' Q
def ux (live:Hp->Prop) (t:T) (m:En) (ifs:En->Hp->(Bool->Hp->Prop)->Prop) (elt:En->Hp->(V->Hp->Prop)->Prop):List V->List V->Hp->(List V->Hp->Prop)->Prop
 |[],acc,H,Q=>live H/\Q acc H
 |v::vs,acc,H,Q=>live H/\qA (jN t v m) λm'=>ifs m' H λb H'=>match b with
   |true=>elt m' H' λx H''=>ux live t m ifs elt vs (acc++[x]) H'' Q
   |false=>ux live t m ifs elt vs acc H' Q
def qL (c:En->Hp->(Bool->Hp->Prop)->Prop) (body:En->Hp->(Fl->En->Hp->Prop)->Prop):Nat->En->Hp->(Fl->En->Hp->Prop)->Prop
 |0,_,_,_=>False
 |n+1,m,H,Q=>c m H λb H'=>match b with
  |false=>Q .next m H'
  |true=>body m H' λfl m' H''=>match fl with
   | .ret r=>Q (.ret r) m' H''
   |_=>qL c body n m' H'' Q
noncomputable def iD (ic:List Nat) (m:En):En:=m.mapIdx λk v=>if ic.contains k then v else Wa
section
variable (D:PD) (Φ:d9)
inductive O1 (a:Nat) (Q:V->Hp->Prop):V->Hp->Prop
 |mk {H:Hp} {i c:Nat} {fs:List (Nat×V)} {v:V} (h:H[i]? =V9 (.inst c fs)) (hc:(D.fld c).contains a=Wb) (hg:pv fs a=V9 v) (K:Q v H):O1 a Q (.ref i) H
inductive Cj (a:Nat) (v:V) (Q:Hp->Prop):V->Hp->Prop
 |mk {H:Hp} {i c:Nat} {fs:List (Nat×V)} (h:H[i]? =V9 (.inst c fs)) (hc:(D.fld c).contains a=Wb) (hl:fs.length<=100) (K:Q (H.set i (.inst c (cE fs a v)))):Cj a v Q (.ref i) H
inductive DI (c:Nat) (Q:V->Hp->Prop):List V->Hp->Prop
 |init {H:Hp} {f:Nat} {vs:List V} (hf:D.init c=V9 f) (K:Φ f (.ref H.length::vs) (H++[.inst c []]) λv H'=>v= .none/\Q (.ref H.length) H'):DI c Q vs H
 |bare {H:Hp} (hf:D.init c=Wa) (hc:c=9) (K:Q (.ref H.length) (H++[.inst c []])):DI c Q [] H
inductive mY (f:Nat) (ev:Hp->(List V->Hp->Prop)->Prop) (Q:V->Hp->Prop):V->Hp->Prop
 |inst {H:Hp} {i c g:Nat} {fs:List (Nat×V)} (h:H[i]? =V9 (.inst c fs)) (hf:pv fs f=Wa) (hg:D.cM c f=V9 g) (K:ev H λvs H=>Φ g (.ref i::vs) H Q):mY f ev Q (.ref i) H
 |list {H:Hp} {i:Nat} {xs:List V} (h:H[i]? =V9 (.list xs)) (hf:f<3) (K:ev H λvs H=>hY 0 (.ref i) f vs H Q):mY f ev Q (.ref i) H
 |dict {H:Hp} {i:Nat} {es:List (V×V)} (h:H[i]? =V9 (.dict es)) (hf:f=3) (K:ev H λvs H=>hY 1 (.ref i) f vs H Q):mY f ev Q (.ref i) H
 |str {H:Hp} {s:List Nat} (hf:f=2) (K:ev H λvs H=>hY 2 (.str s) f vs H Q):mY f ev Q (.str s) H
inductive G2 (f:Nat) (ev:(List V->Hp->Prop)->Prop) (Q:V->Hp->Prop):Option V->Hp->Prop
 |mk {H:Hp} {i:Nat} {fs:List (Nat×V)} (h:H[i]? =V9 (.inst 7 fs)) (K:ev λvs H=>Φ f (.ref i::vs) H Q):G2 f ev Q (V9 (.ref i)) H
mutual
def ej:E->En->Hp->(V->Hp->Prop)->Prop
 | .none,_,H,Q=>Q .none H
 | .bool b,_,H,Q=>Q (.bool b) H
 | .int i,_,H,Q=>Q (.int i) H
 | .str s,_,H,Q=>Q (.str s) H
 | .nm k,m,H,Q=>qA (getM m k) λv=>Q v H
 | .gl g,_,H,Q=>qA (D.glob g) λv=>Q v H
 | .fld o a,m,H,Q=>ej o m H λv H=>O1 D a Q v H
 | .sub o i,m,H,Q=>ej o m H λa H=>ej i m H λb H=>o7 a b H λv=>Q v H
 | .xZ o i,m,H,Q=>ej o m H λa H=>ej i m H λb H=>rn .oN a b H Q
 | .wN o i,m,H,Q=>ej o m H λa H=>ej i m H λb H=>rn .D3 a b H Q
 | .EO o,m,H,Q=>ej o m H λa H=>E0 a H Q
 | .bin op a b,m,H,Q=>ej a m H λa H=>ej b m H λb H=>lU op a b H Q
 | .neg a,m,H,Q=>ej a m H λa H=>p9 a λi=>Q (.int (-i)) H
 | .and a b,m,H,Q=>ej a m H λa H=>match truthy H a with
  |some Wb=>ej b m H Q
  |some Wc=>Q a H
  |none=>False
 | .cmp op a b,m,H,Q=>ej a m H λa H=>ej b m H λb H=>iy op a b H λx=>Q (.bool x) H
 | .ite c a b,m,H,Q=>m5 c m H λx H=>match x with|true=>ej a m H Q|false=>ej b m H Q
 | .list es,m,H,Q=>jS es m H λvs H=>vs.length<=iH/\Q (.ref H.length) (H++[.list vs])
 | .tup es,m,H,Q=>jS es m H λvs H=>vs.length<=iH/\Q (.tup vs) H
 | .kx,_,H,Q=>Q (.ref H.length) (H++[.dict []])
 | .comp elt t it ifs ic,m,H,Q=>HT it m H λvs live H=>
   ux live t (iD ic m) (λm H Q=>jI ifs m H Q) (λm H Q=>ej elt m H Q) vs [] H λxs H=>Q (.ref H.length) (H++[.list xs])
 | .call f es,m,H,Q=>jS es m H λvs H=>Φ f vs H Q
 | .new c es,m,H,Q=>jS es m H λvs H=>DI D Φ c Q vs H
 | .cM o f es,m,H,Q=>ej o m H λo H=>mY D Φ f (λH R=>jS es m H R) Q o H
 | .blt b es,m,H,Q=>jS es m H λvs H=>io b vs H Q
 | .sup f es,m,H,Q=>G2 Φ f (λR=>jS es m H R) Q (getM m 0) H
 | .si,_,_,_=>False
def jS:Es->En->Hp->(List V->Hp->Prop)->Prop
 | .nil,_,H,Q=>Q [] H
 | .cons e es,m,H,Q=>ej e m H λv H=>jS es m H λvs H=>Q (v::vs) H
def m5:B->En->Hp->(Bool->Hp->Prop)->Prop
 | .not b,m,H,Q=>m5 b m H λx H=>Q (!x) H
 | .and a b,m,H,Q=>m5 a m H λx H=>match x with|true=>m5 b m H Q|false=>Q Wc H
 | .or a b,m,H,Q=>m5 a m H λx H=>match x with|false=>m5 b m H Q|true=>Q Wb H
 | .cmp op a b,m,H,Q=>ej a m H λa H=>ej b m H λb H=>iy op a b H λx=>Q x H
 | .Gv op op' a b c,m,H,Q=>ej a m H λa H=>ej b m H λb H=>iy op a b H λx=>match x with
  |true=>ej c m H λc H=>iy op' b c H λy=>Q y H
  |false=>Q Wc H
 | .tr e,m,H,Q=>ej e m H λv H=>qA (truthy H v) λb=>Q b H
def jI:Bs->En->Hp->(Bool->Hp->Prop)->Prop
 | .nil,_,H,Q=>Q Wb H
 | .cons b bs,m,H,Q=>m5 b m H λx H=>match x with|true=>jI bs m H Q|false=>Q Wc H
def HT:I->En->Hp->(List V->(Hp->Prop)->Hp->Prop)->Prop
 | .plain e,m,H,Q=>ej e m H λv H=>w9 Wc Wc v H λvs l=>Q vs l H
 | .rev e,m,H,Q=>ej e m H λv H=>w9 Wb Wc v H λvs l=>Q vs l H
 | .enum e,m,H,Q=>ej e m H λv H=>w9 Wc Wb v H λvs l=>Q vs l H
 | .range e,m,H,Q=>ej e m H λv H=>wP v λvs l=>Q vs l H
end
mutual
def wpS:S->En->Hp->(Fl->En->Hp->Prop)->Prop
 | .expr e,m,H,Q=>ej D Φ e m H λv H=>match v with| .ref _=>False| .tup _=>False| .ro _=>False|_=>Q .next m H
 | .ret e,m,H,Q=>ej D Φ e m H λv H=>Q (.ret v) m H
 | .E1,m,H,Q=>Q (.ret .none) m H
 | .asg k e,m,H,Q=>ej D Φ e m H λv H=>Q .next (setM m k v) H
 | .CL k l e,m,H,Q=>ej D Φ e m H λv H=>E8 v λa b=>Q .next (setM (setM m k a) l b) H
 | .dB o a e,m,H,Q=>ej D Φ e m H λv H=>ej D Φ o m H λo H=>Cj D a v (λH=>Q .next m H) o H
 | .i6 o i e,m,H,Q=>ej D Φ e m H λv H=>ej D Φ o m H λo H=>ej D Φ i m H λi H=>rP o i v H λH=>Q .next m H
 | .ite c a b,m,H,Q=>m5 D Φ c m H λx H=>match x with|true=>eQ a m H Q|false=>eQ b m H Q
 | .eP t it body,m,H,Q=>HT D Φ it m H λvs live H=>forL live t (λm H Q=>eQ body m H Q) vs m H Q
 | .kU c body,m,H,Q=>∃n,qL (λm H Q=>m5 D Φ c m H Q) (λm H Q=>eQ body m H Q) n m H Q
 | .cont,m,H,Q=>Q .cont m H
 | .si,_,_,_=>False
def eQ:Ss->En->Hp->(Fl->En->Hp->Prop)->Prop
 | .nil,m,H,Q=>Q .next m H
 | .cons s ss,m,H,Q=>wpS s m H λfl m H=>match fl with
  | .next=>eQ ss m H Q
  |fl=>Q fl m H
end
end
noncomputable def uG (fd:FD) (vs:List V):Option En:=
 if vs.length<=fd.np/\fd.np<=vs.length+fd.oQ.length then
  V9 ((vs++fd.oQ.drop (fd.oQ.length-(fd.np-vs.length))).map V9++aY (fd.size-fd.np) Wa)
 else Wa
noncomputable def Am:Fl->V
 | .ret v=>v
 |_=>.none
def wn (D:PD) (prim:d9):Nat->d9
 |0,_,_,_,_=>False
 |n+1,f,vs,H,Q=>match D.xh f with
  |some fd=>qA (uG fd vs) λm=>eQ D (wn D prim n) fd.body m H λfl _ H'=>Q (Am fl) H'
  |none=>prim f vs H Q
end
local macro_rules (kind:=Lean.Parser.Tactic.injection)|s=>yEp s
local macro_rules (kind:=Lean.Parser.Tactic.rwSeq)|s=>yRw s
local macro_rules (kind:=Lean.Parser.Tactic.obtain)|s=>yOb s
section
open PySem PySem.W PySem.Calls PyProof.Rows
section
noncomputable abbrev row:OpenLaw:=MB
theorem Qs:namesResolve row.row.prog=Wb:=by kernel_rfl
theorem Qr:(["vars","dir","locals"]:List Str).filter (readsOut row.row.prog row.row.prog.main.body)=[]:=by kernel_rfl
theorem Qq:looksOpen row.row.prog=Wb:=by
 unfold looksOpen
 rewrite [Qs,Qr]
 kernel_rfl
theorem Tf:row.wellSaid=Wb:=by
 unfold OpenLaw.wellSaid OpenRow.wellSaid OpenRow.partSaid
 rewrite [Qq]
 kernel_rfl
end
section
section
noncomputable def pK (c:String->Option Builtin) (p:Program) (w:World) (a:Nat) (b:Option Value):Nat->gK->Thread->Option gK
 |0,_,_=>Wa
 |n+1,s,t=>match through t with
  |true=>V9 s
  |false=>match stepOk a b t with
   |false=>Wa
   |true=>match stepT (denote c) p w s t with
    |some (s',d)=>pK c p w a b n s' d
    |none=>Wa
noncomputable def sJ (p:Program) (w:World) (a:Nat) (b:Option Value):Nat->gK->Thread->Option gK
 |0,_,_=>Wa
 |n+1,s,t=>match through t with
  |true=>V9 s
  |false=>match Fast.tw6613529449190102663 a b t with
   |false=>Wa
   |true=>match Fast.tw10156331382660048174 (Fast.tw11892475500146522536 Fast.tw14364793385576792824) p w s t with
    |some (s',c)=>sJ p w a b n s' c
    |none=>Wa
theorem Ad (p:Program) (w:World) (a:Nat) (b:Option Value):∀n s t,sJ p w a b n s t=pK oz p w a b n s t:=by
 intro n
 induction n with
 |zero=>intro _ _;exact rfl
 |succ n c=>
  intro s t;dsimp only[sJ,pK];rw[←Fast.te6613529449190102663,←Fast.te10156331382660048174,←Fast.te11892475500146522536,←Fast.te14364793385576792824]
  induction through t with
  |true=>rfl
  |false=>
   induction stepOk a b t with
   |false=>rfl
   |true=>
    induction stepT (denote oz) p w s t with
    |none=>rfl
    |some r=>exact c r.1 r.2
theorem wJ {g:String->Option Builtin} {p:Program} {w:World} {a:Nat} {b:Option Value}:∀(n:Nat) (s s':gK) (t:Thread),pK g p w a b n s t=V9 s'->topRun g p w a b n s.abs t=V9 s'.abs:=by
 intro n
 induction n with
 |zero=>intro _ _ _ h;cases h
 |succ n f=>
  intro s s' t h;unfold pK at h;dsimp only[topRun]
  induction j:through t with
  |true=>rw[j]at h;obtain rfl:=aA h;rfl
  |false=>
   rw[j]at h
   induction i:stepOk a b t with
   |false=>have h:=(i)▸h;cases h
   |true=>
    have h:=(i)▸h
    induction e:stepT (denote g) p w s t with
    |none=>have h:=(e)▸h;cases h
    |some r=>obtain⟨c,d⟩:=r;haveI h:=(e)▸h;rw[stepT_spec e];exact f c s' d h
noncomputable def T0 (P:Params):BT:=((kf P).objs.toList.foldl (λ(x:BT×Nat) o=>(x.1.ins x.2 o,x.2+1)) (BT.nil,0)).1
noncomputable def S0 (w:World) (a:nh):gK:=⟨T0 w.params,11,(kf w.params).life,#[],MA,PU,a⟩
theorem OW (w:World) (a:nh):(S0 w a).abs=⟨kf w.params,#[],MA,PU,a⟩:=by
 kernel_rfl
noncomputable def fZ (w:World) (a:nh):Option gK:=sJ iQ w 11 (V9 (.ref 6)) 7540 (S0 w a) (topStub iQ)
end
end
end
section
local macro_rules (kind:=«term#[_,]»)|s=>pure (yLs s[1].getSepArgs.toList)
section
noncomputable def b0:Ss:= #[.dB (.nm 0) 4 (.nm 1),.dB (.nm 0) 5 (.nm 2),.dB (.nm 0) 6 (.nm 3),.dB (.nm 0) 7 (.ite (.cmp .AC (.nm 4) .none) (.nm 2) (.nm 4))]
noncomputable def n0:List String:=["self","kind","text","at","worth"]
noncomputable def f0:FD:=⟨5,[.none],5,b0⟩
noncomputable def b1:Ss:= #[.asg 1 (.list .nil),.asg 2 (.int 0),.asg 3 (.nm 0),.kU (.cmp .gt (.nm 3) (.int 0)) #[.ite (.cmp .eq (.bin .band (.nm 3) (.int 1)) (.int 1)) #[.expr (.cM (.nm 1) 0 #[.nm 2])] .nil,.asg 3 (.bin .shr (.nm 3) (.int 1)),.asg 2 (.bin .add (.nm 2) (.int 1))],.ret (.nm 1)]
noncomputable def n1:List String:=["mask","found","at","left"]
noncomputable def f1:FD:=⟨1,[],4,b1⟩
noncomputable def b2:Ss:= #[.dB (.nm 0) 8 (.nm 1),.dB (.nm 0) 9 (.nm 2),.dB (.nm 0) 10 (.nm 3),.dB (.nm 0) 11 (.nm 4),.dB (.nm 0) 12 (.nm 5),.dB (.nm 0) 13 (.list .nil),.dB (.nm 0) 14 .kx,.eP (.one 6) (.range (.nm 2)) #[.i6 (.fld (.nm 0) 14) (.sub (.nm 1) (.nm 6)) (.nm 6)]]
noncomputable def n2:List String:=["self","names","terminal_count","lefts","lengths","befores","number"]
noncomputable def f2:FD:=⟨6,[],7,b2⟩
noncomputable def b3:Ss:= #[.ret (.cM (.fld (.nm 0) 14) 3 #[.nm 1,.gl 4])]
noncomputable def n3:List String:=["self","name"]
noncomputable def f3:FD:=⟨2,[],2,b3⟩
noncomputable def b4:Ss:= #[.ret (.sub (.fld (.nm 0) 10) (.nm 1))]
noncomputable def n4:List String:=["self","rule"]
noncomputable def f4:FD:=⟨2,[],2,b4⟩
noncomputable def b5:Ss:= #[.ret (.sub (.fld (.nm 0) 11) (.nm 1))]
noncomputable def n5:List String:=["self","rule"]
noncomputable def f5:FD:=⟨2,[],2,b5⟩
noncomputable def b6:Ss:= #[.ret (.sub (.fld (.nm 0) 12) (.nm 1))]
noncomputable def n6:List String:=["self","rule"]
noncomputable def f6:FD:=⟨2,[],2,b6⟩
noncomputable def b7:Ss:= #[.ret (.sub (.fld (.nm 0) 13) (.nm 1))]
noncomputable def n7:List String:=["self","state"]
noncomputable def f7:FD:=⟨2,[],2,b7⟩
noncomputable def b8:Ss:= #[.asg 3 (.cM (.nm 0) 15 #[.nm 1,.nm 2]),.ite (.cmp .eq (.nm 3) (.gl 1)) #[.ret (.int 0)] .nil,.ite (.cmp .eq (.nm 3) (.int 0)) #[.ret (.neg (.cM (.nm 0) 16 #[.nm 1]))] .nil,.ret (.nm 3)]
noncomputable def n8:List String:=["self","state","terminal","told"]
noncomputable def f8:FD:=⟨3,[],4,b8⟩
noncomputable def b9:Ss:= #[.asg 2 (.list .nil),.eP (.one 3) (.range (.fld (.nm 0) 9)) #[.ite (.and (.cmp .ne (.nm 3) (.gl 3)) (.cmp .ne (.nm 3) (.gl 4))) #[.asg 4 (.cM (.nm 0) 15 #[.nm 1,.nm 3]),.ite (.and (.cmp .ne (.nm 4) (.int 0)) (.cmp .ne (.nm 4) (.gl 1))) #[.expr (.cM (.nm 2) 0 #[.nm 3])] .nil] .nil],.ret (.nm 2)]
noncomputable def n9:List String:=["self","state","found","terminal","told"]
noncomputable def f9:FD:=⟨2,[],5,b9⟩
noncomputable def VI:Ss:= #[.ite (.cmp .eq (.cM (.nm 0) 16 #[.nm 1]) (.int 0)) #[.ret (.bool Wc)] .nil,.eP (.one 2) (.range (.fld (.nm 0) 9)) #[.ite (.cmp .ne (.cM (.nm 0) 15 #[.nm 1,.nm 2]) (.int 0)) #[.ret (.bool Wc)] .nil],.ret (.bool Wb)]
noncomputable def n10:List String:=["self","state","terminal"]
noncomputable def f10:FD:=⟨2,[],3,VI⟩
noncomputable def VH:Ss:= #[.asg 8 (.comp (.fld (.nm 11) 18) (.one 11) (.plain (.fld (.nm 1) 17)) .nil []),.asg 9 (.comp (.blt 0 #[.fld (.nm 11) 19]) (.one 11) (.plain (.fld (.nm 1) 17)) .nil []),.asg 10 (.comp (.fld (.nm 11) 20) (.one 11) (.plain (.fld (.nm 1) 17)) .nil []),.expr (.sup 2 #[.fld (.nm 1) 8,.fld (.nm 1) 9,.nm 8,.nm 9,.nm 10]),.dB (.nm 0) 21 (.nm 1),.dB (.nm 0) 22 (.nm 2),.dB (.nm 0) 23 (.nm 3),.dB (.nm 0) 13 (.nm 4),.dB (.nm 0) 24 (.nm 5),.dB (.nm 0) 25 (.nm 6),.dB (.nm 0) 26 (.nm 7)]
noncomputable def Hn:List String:=["self","grammar","rows","gotos","defaults","conflicts","settled","mode","lefts","lengths","befores","rule"]
noncomputable def Rg:FD:=⟨8,[],12,VH⟩
noncomputable def VG:Ss:= #[.ret (.sub (.sub (.fld (.nm 0) 22) (.nm 1)) (.nm 2))]
noncomputable def n12:List String:=["self","state","terminal"]
noncomputable def f12:FD:=⟨3,[],3,VG⟩
noncomputable def VF:Ss:= #[.ret (.cM (.sub (.fld (.nm 0) 23) (.nm 1)) 3 #[.nm 2,.neg (.int 1)])]
noncomputable def n13:List String:=["self","state","nonterminal"]
noncomputable def f13:FD:=⟨3,[],3,VF⟩
noncomputable def b14:Ss:= #[.asg 3 (.cM (.fld (.nm 0) 27) 3 #[.fld (.sub (.fld (.nm 0) 17) (.nm 1)) 28]),.asg 4 (.cM (.fld (.nm 0) 27) 3 #[.nm 2]),.ite (.or (.cmp .AC (.nm 3) .none) (.cmp .AC (.nm 4) .none)) #[.ret .none] .nil,.ite (.cmp .gt (.sub (.nm 3) (.int 0)) (.sub (.nm 4) (.int 0))) #[.ret (.str [114,101,100,117,99,101])] .nil,.ite (.cmp .lt (.sub (.nm 3) (.int 0)) (.sub (.nm 4) (.int 0))) #[.ret (.str [115,104,105,102,116])] .nil,.ite (.cmp .eq (.sub (.nm 4) (.int 1)) (.str [108,101,102,116])) #[.ret (.str [114,101,100,117,99,101])] .nil,.ite (.cmp .eq (.sub (.nm 4) (.int 1)) (.str [114,105,103,104,116])) #[.ret (.str [115,104,105,102,116])] .nil,.ite (.cmp .eq (.sub (.nm 4) (.int 1)) (.str [110,111,110,97,115,115,111,99])) #[.ret (.str [98,97,114])] .nil,.ret .none]
noncomputable def n14:List String:=["grammar","rule","terminal","own","other"]
noncomputable def f14:FD:=⟨3,[],5,b14⟩
noncomputable def VE:Ss:= #[.dB (.nm 0) 21 (.nm 1),.dB (.nm 0) 29 (.fld (.nm 2) 29),.dB (.nm 0) 30 .kx,.dB (.nm 0) 23 .kx,.eP (.one 4) (.plain (.fld (.nm 2) 31)) #[.ite (.cmp .eq (.nm 4) (.gl 2)) #[.i6 (.fld (.nm 0) 30) (.nm 4) (.gl 0)] #[.ite (.cmp .lt (.nm 4) (.fld (.nm 1) 9)) #[.i6 (.fld (.nm 0) 30) (.nm 4) (.sub (.fld (.nm 2) 31) (.nm 4))] #[.i6 (.fld (.nm 0) 23) (.nm 4) (.sub (.fld (.nm 2) 31) (.nm 4))]]],.dB (.nm 0) 32 (.list .nil),.eP (.one 5) (.plain (.fld (.nm 2) 33)) #[.expr (.cM (.fld (.nm 0) 32) 0 #[.list #[.nm 5,.cM (.nm 3) 3 #[.tup #[.fld (.nm 2) 29,.nm 5],.int 0]]])],.dB (.nm 0) 34 (.int 0),.dB (.nm 0) 25 (.list .nil)]
noncomputable def n15:List String:=["self","grammar","state","masks","symbol","rule"]
noncomputable def f15:FD:=⟨4,[],6,VE⟩
noncomputable def VD:Ss:= #[.eP (.one 1) (.plain (.fld (.nm 0) 32)) #[.eP (.one 2) (.plain (.call 1 #[.sub (.nm 1) (.int 1)])) #[.asg 3 .none,.ite (.cmp .isIn (.nm 2) (.fld (.nm 0) 30)) #[.asg 3 (.call 14 #[.fld (.nm 0) 21,.sub (.nm 1) (.int 0),.nm 2])] .nil,.ite (.cmp .mV (.nm 3) .none) #[.si] .nil]]]
noncomputable def n16:List String:=["self","look","terminal","way"]
noncomputable def f16:FD:=⟨1,[],4,VD⟩
noncomputable def VC:Ss:= #[.asg 1 (.bin .mul (.list #[.int 0]) (.fld (.fld (.nm 0) 21) 9)),.eP (.one 2) (.rev (.fld (.nm 0) 32)) #[.eP (.one 3) (.plain (.call 1 #[.sub (.nm 2) (.int 1)])) #[.i6 (.nm 1) (.nm 3) (.neg (.sub (.nm 2) (.int 0)))]],.eP (.one 3) (.plain (.fld (.nm 0) 30)) #[.i6 (.nm 1) (.nm 3) (.sub (.fld (.nm 0) 30) (.nm 3))],.eP (.one 3) (.plain (.call 1 #[.fld (.nm 0) 34])) #[.i6 (.nm 1) (.nm 3) (.gl 1)],.ret (.nm 1)]
noncomputable def n17:List String:=["self","row","look","terminal"]
noncomputable def f17:FD:=⟨1,[],4,VC⟩
noncomputable def VB:Ss:= #[.asg 2 (.list .nil),.eP (.one 3) (.range (.fld (.fld (.nm 0) 21) 9)) #[.asg 4 (.comp (.sub (.nm 7) (.int 0)) (.one 7) (.plain (.fld (.nm 0) 32)) #[.tr (.bin .band (.sub (.nm 7) (.int 1)) (.bin .shl (.int 1) (.nm 3)))] [3]),.ite (.and (.tr (.nm 4)) (.cmp .isIn (.nm 3) (.fld (.nm 0) 30))) #[.si] .nil,.eP (.one 5) (.plain (.xZ (.nm 4) (.int 1))) #[.asg 6 (.tup #[.sub (.nm 4) (.int 0),.nm 5]),.si]],.ret (.nm 2)]
noncomputable def n18:List String:=["self","row","found","terminal","rules","other","pair","look"]
noncomputable def f18:FD:=⟨2,[],8,VB⟩
noncomputable def VA:Ss:= #[.ite (.cmp .gt (.sub (.nm 0) (.gl 3)) (.int 0)) #[.ret (.int 0)] .nil,.asg 1 .kx,.eP (.one 2) (.plain (.nm 0)) #[.ite (.Gv .lt .lt (.gl 1) (.nm 2) (.int 0)) #[.i6 (.nm 1) (.neg (.nm 2)) (.bin .add (.cM (.nm 1) 3 #[.neg (.nm 2),.int 0]) (.int 1))] .nil],.asg 3 (.int 0),.eP (.one 4) (.plain (.blt 3 #[.nm 1])) #[.ite (.or (.cmp .eq (.nm 3) (.int 0)) (.cmp .gt (.sub (.nm 1) (.nm 4)) (.sub (.nm 1) (.nm 3)))) #[.asg 3 (.nm 4)] .nil],.ret (.nm 3)]
noncomputable def n19:List String:=["row","counts","number","best","rule"]
noncomputable def f19:FD:=⟨1,[],5,VA⟩
noncomputable def Vz:Ss:= #[.ret (.comp (.ite (.cmp .eq (.nm 2) (.neg (.nm 1))) (.int 0) (.nm 2)) (.one 2) (.plain (.nm 0)) .nil [1])]
noncomputable def QR:List String:=["row","rule","number"]
noncomputable def f20:FD:=⟨2,[],3,Vz⟩
noncomputable def Vy:Ss:= #[.asg 4 (.list .nil),.asg 5 (.list .nil),.asg 6 (.list .nil),.asg 7 (.list .nil),.asg 8 (.list .nil),.eP (.one 9) (.plain (.fld (.nm 0) 35)) #[.asg 10 (.new 8 #[.fld (.nm 0) 21,.nm 9,.nm 1]),.expr (.cM (.nm 10) 36 .nil),.asg 11 (.cM (.nm 10) 37 .nil),.expr (.cM (.nm 7) 1 #[.cM (.nm 10) 24 #[.nm 11]]),.expr (.cM (.nm 8) 1 #[.fld (.nm 10) 25]),.asg 12 (.int 0),.ite (.tr (.nm 2)) #[.asg 12 (.call 19 #[.nm 11])] .nil,.ite (.cmp .ne (.nm 12) (.int 0)) #[.asg 11 (.call 20 #[.nm 11,.nm 12])] .nil,.expr (.cM (.nm 4) 0 #[.nm 11]),.expr (.cM (.nm 5) 0 #[.fld (.nm 10) 23]),.expr (.cM (.nm 6) 0 #[.nm 12])],.ret (.new 7 #[.fld (.nm 0) 21,.nm 4,.nm 5,.nm 6,.nm 7,.nm 8,.nm 3])]
noncomputable def n21:List String:=["automaton","masks","with_defaults","mode","rows","gotos","defaults","conflicts","settled","state","maker","row","rule"]
noncomputable def f21:FD:=⟨4,[(.str [108,97,108,114])],13,Vy⟩
noncomputable def Vx:Ss:= #[.ret (.fld (.nm 1) 7)]
noncomputable def n22:List String:=["self","token"]
noncomputable def f22:FD:=⟨2,[],2,Vx⟩
noncomputable def Vw:Ss:= #[.ret (.ite (.cmp .gt (.blt 0 #[.nm 2]) (.int 0)) (.sub (.nm 2) (.int 0)) .none)]
noncomputable def n23:List String:=["self","rule","values","control"]
noncomputable def f23:FD:=⟨4,[],4,Vw⟩
noncomputable def Vv:Ss:= #[.dB (.nm 0) 38 (.nm 1),.dB (.nm 0) 39 (.nm 2),.dB (.nm 0) 40 (.nm 3),.dB (.nm 0) 2 (.nm 4)]
noncomputable def n24:List String:=["self","token","state","expected","index"]
noncomputable def f24:FD:=⟨5,[(.int (-1))],5,Vv⟩
noncomputable def Vu:Ss:= #[.dB (.nm 0) 41 (.nm 1),.dB (.nm 0) 42 (.ite (.cmp .AC (.nm 2) .none) (.new 9 .nil) (.nm 2)),.dB (.nm 0) 43 (.nm 3),.dB (.nm 0) 44 .kx,.expr (.cM (.nm 0) 45 .nil)]
noncomputable def n25:List String:=["self","tables","handler","most"]
noncomputable def f25:FD:=⟨4,[.none,(.int 5000)],4,Vu⟩
noncomputable def Vt:Ss:= #[.dB (.nm 0) 35 (.list #[.int 0]),.dB (.nm 0) 46 (.list .nil),.dB (.nm 0) 47 .none,.dB (.nm 0) 48 (.int 0),.dB (.nm 0) 49 (.str [109,111,114,101]),.dB (.nm 0) 50 .none,.dB (.nm 0) 51 (.list .nil),.dB (.nm 0) 31 (.list .nil)]
noncomputable def n26:List String:=["self"]
noncomputable def f26:FD:=⟨1,[],1,Vt⟩
noncomputable def Vs:Ss:= #[.asg 2 (.bool Wc),.kU (.cmp .eq (.fld (.nm 0) 49) (.str [109,111,114,101])) #[.ite (.tr (.cM (.nm 0) 52 .nil)) #[.ite (.tr (.nm 2)) #[.ret (.str [109,111,114,101])] .nil,.expr (.cM (.nm 0) 53 #[.nm 1]),.asg 2 (.bool Wb)] .nil,.expr (.cM (.nm 0) 54 .nil)],.ret (.fld (.nm 0) 49)]
noncomputable def n27:List String:=["self","token","is_taken"]
noncomputable def f27:FD:=⟨2,[],3,Vs⟩
noncomputable def Vr:Ss:= #[.ret (.and (.cmp .AC (.fld (.nm 0) 47) .none) (.cmp .eq (.cM (.nm 0) 55 #[.sub (.fld (.nm 0) 35) (.neg (.int 1))]) (.int 0)))]
noncomputable def n28:List String:=["self"]
noncomputable def f28:FD:=⟨1,[],1,Vr⟩
noncomputable def Vq:Ss:= #[.dB (.nm 0) 47 (.nm 1),.dB (.nm 0) 48 (.bin .add (.fld (.nm 0) 48) (.int 1))]
noncomputable def n29:List String:=["self","token"]
noncomputable def f29:FD:=⟨2,[],2,Vq⟩
noncomputable def Vp:Ss:= #[.ite (.cmp .iF (.nm 1) (.fld (.nm 0) 44)) #[.i6 (.fld (.nm 0) 44) (.nm 1) (.ite (.tr (.cM (.fld (.nm 0) 41) 56 #[.nm 1])) (.cM (.fld (.nm 0) 41) 16 #[.nm 1]) (.int 0))] .nil,.ret (.sub (.fld (.nm 0) 44) (.nm 1))]
noncomputable def n30:List String:=["self","state"]
noncomputable def f30:FD:=⟨2,[],2,Vp⟩
noncomputable def Vo:Ss:= #[.asg 2 (.cM (.fld (.nm 0) 41) 57 #[.fld (.nm 1) 4]),.ret (.ite (.cmp .eq (.nm 2) (.gl 5)) (.gl 6) (.nm 2))]
noncomputable def n31:List String:=["self","token","number"]
noncomputable def f31:FD:=⟨2,[],3,Vo⟩
noncomputable def Vn:Ss:= #[.ite (.cmp .ge (.blt 0 #[.fld (.nm 0) 31]) (.fld (.nm 0) 43)) #[.si] .nil,.expr (.cM (.fld (.nm 0) 31) 0 #[.nm 1])]
noncomputable def n32:List String:=["self","move"]
noncomputable def f32:FD:=⟨2,[],2,Vn⟩
noncomputable def Vm:Ss:= #[.dB (.nm 0) 49 (.nm 1),.dB (.nm 0) 50 (.nm 2)]
noncomputable def n33:List String:=["self","answer","value"]
noncomputable def f33:FD:=⟨3,[],3,Vm⟩
noncomputable def Vl:Ss:= #[.asg 1 (.sub (.fld (.nm 0) 35) (.neg (.int 1))),.asg 2 (.cM (.nm 0) 55 #[.nm 1]),.ite (.cmp .gt (.nm 2) (.int 0)) #[.expr (.cM (.nm 0) 58 #[.nm 2]),.E1] .nil,.asg 3 (.cM (.nm 0) 59 #[.fld (.nm 0) 47]),.asg 4 (.cM (.fld (.nm 0) 41) 60 #[.nm 1,.nm 3]),.ite (.cmp .eq (.nm 4) (.gl 0)) #[.expr (.cM (.nm 0) 61 #[.tup #[.str [97,99,99,101,112,116]]]),.expr (.cM (.nm 0) 62 #[.str [97,99,99,101,112,116,101,100],.sub (.fld (.nm 0) 46) (.neg (.int 1))])] #[.ite (.cmp .gt (.nm 4) (.int 0)) #[.expr (.cM (.nm 0) 63 #[.nm 4])] #[.ite (.and (.cmp .lt (.nm 4) (.int 0)) (.tr (.cM (.nm 0) 64 #[.nm 3]))) #[.expr (.cM (.nm 0) 58 #[.bin .sub (.int 0) (.nm 4)])] #[.expr (.cM (.nm 0) 65 #[.nm 3])]]]]
noncomputable def n34:List String:=["self","state","lone","terminal","action"]
noncomputable def f34:FD:=⟨1,[],5,Vl⟩
noncomputable def Vk:Ss:= #[.ret (.bool Wb)]
noncomputable def n35:List String:=["self","terminal"]
noncomputable def f35:FD:=⟨2,[],2,Vk⟩
noncomputable def Vj:Ss:= #[.expr (.cM (.nm 0) 61 #[.tup #[.str [115,104,105,102,116],.nm 1]]),.expr (.cM (.fld (.nm 0) 35) 0 #[.nm 1]),.expr (.cM (.fld (.nm 0) 46) 0 #[.cM (.fld (.nm 0) 42) 63 #[.fld (.nm 0) 47]]),.dB (.nm 0) 47 .none]
noncomputable def n36:List String:=["self","goal"]
noncomputable def f36:FD:=⟨2,[],2,Vj⟩
noncomputable def Vi:Ss:= #[.expr (.cM (.nm 0) 61 #[.tup #[.str [114,101,100,117,99,101],.nm 1]]),.asg 2 (.cM (.fld (.nm 0) 41) 66 #[.nm 1]),.asg 3 (.bin .sub (.bin .sub (.blt 0 #[.fld (.nm 0) 46]) (.nm 2)) (.cM (.fld (.nm 0) 41) 20 #[.nm 1])),.asg 4 (.cM (.nm 0) 67 #[.nm 1,.xZ (.fld (.nm 0) 46) (.nm 3)]),.asg 5 (.bin .sub (.blt 0 #[.fld (.nm 0) 46]) (.nm 2)),.dB (.nm 0) 46 (.wN (.fld (.nm 0) 46) (.nm 5)),.dB (.nm 0) 35 (.wN (.fld (.nm 0) 35) (.bin .add (.nm 5) (.int 1))),.expr (.cM (.nm 0) 68 #[.nm 1,.nm 4])]
noncomputable def n37:List String:=["self","rule","length","first","value","kept"]
noncomputable def f37:FD:=⟨2,[],6,Vi⟩
noncomputable def Vh:Ss:= #[.ret (.cM (.fld (.nm 0) 42) 58 #[.nm 1,.nm 2,.none])]
noncomputable def n38:List String:=["self","rule","values"]
noncomputable def f38:FD:=⟨3,[],3,Vh⟩
noncomputable def Vg:Ss:= #[.asg 3 (.cM (.fld (.nm 0) 41) 69 #[.sub (.fld (.nm 0) 35) (.neg (.int 1)),.cM (.fld (.nm 0) 41) 18 #[.nm 1]]),.ite (.cmp .lt (.nm 3) (.int 0)) #[.si] .nil,.expr (.cM (.fld (.nm 0) 35) 0 #[.nm 3]),.expr (.cM (.fld (.nm 0) 46) 0 #[.nm 2])]
noncomputable def n39:List String:=["self","rule","value","goal"]
noncomputable def f39:FD:=⟨3,[],4,Vg⟩
noncomputable def Vf:Ss:= #[.ret (.cM (.fld (.nm 0) 41) 40 #[.sub (.fld (.nm 0) 35) (.neg (.int 1))])]
noncomputable def n40:List String:=["self"]
noncomputable def f40:FD:=⟨1,[],1,Vf⟩
noncomputable def Ve:Ss:= #[.asg 1 (.comp (.sub (.fld (.fld (.nm 0) 41) 8) (.nm 2)) (.one 2) (.plain (.cM (.nm 0) 40 .nil)) .nil [0]),.expr (.cM (.fld (.nm 0) 51) 0 #[.new 10 #[.fld (.nm 0) 47,.sub (.fld (.nm 0) 35) (.neg (.int 1)),.nm 1,.bin .sub (.fld (.nm 0) 48) (.int 1)]])]
noncomputable def n41:List String:=["self","names","number"]
noncomputable def f41:FD:=⟨1,[],3,Ve⟩
noncomputable def Vd:Ss:= #[.expr (.cM (.nm 0) 70 .nil),.expr (.cM (.nm 0) 62 #[.str [97,98,111,114,116,101,100],.none])]
noncomputable def n42:List String:=["self","terminal"]
noncomputable def f42:FD:=⟨2,[],2,Vd⟩
noncomputable def Vc:Ss:= #[.dB (.nm 0) 29 (.nm 1),.dB (.nm 0) 18 (.nm 2),.dB (.nm 0) 19 (.nm 3),.dB (.nm 0) 28 (.nm 4),.dB (.nm 0) 60 (.nm 5),.dB (.nm 0) 71 (.nm 6),.dB (.nm 0) 20 (.nm 7)]
noncomputable def n43:List String:=["self","number","left","right","level_of","action","line","before"]
noncomputable def f43:FD:=⟨8,[(.int (-1)),.none,(.int 0),(.int 0)],8,Vc⟩
noncomputable def Vb:Ss:= #[.dB (.nm 0) 8 (.nm 1),.dB (.nm 0) 9 (.nm 2),.dB (.nm 0) 17 (.nm 3),.dB (.nm 0) 27 (.nm 4),.dB (.nm 0) 72 (.nm 5),.dB (.nm 0) 73 (.nm 6),.dB (.nm 0) 74 (.comp (.list .nil) (.one 8) (.plain (.fld (.nm 0) 8)) .nil []),.dB (.nm 0) 75 (.list .nil),.dB (.nm 0) 76 (.list .nil),.eP (.one 7) (.plain (.fld (.nm 0) 17)) #[.expr (.cM (.sub (.fld (.nm 0) 74) (.fld (.nm 7) 18)) 0 #[.fld (.nm 7) 29]),.expr (.cM (.fld (.nm 0) 75) 0 #[.blt 0 #[.fld (.nm 0) 76]]),.expr (.cM (.fld (.nm 0) 76) 1 #[.bin .mul (.list #[.fld (.nm 7) 29]) (.bin .add (.blt 0 #[.fld (.nm 7) 19]) (.int 1))])],.dB (.nm 0) 77 (.blt 0 #[.fld (.nm 0) 76])]
noncomputable def n44:List String:=["self","names","terminal_count","rules","levels","expect","start","rule","name"]
noncomputable def f44:FD:=⟨7,[],9,Vb⟩
noncomputable def Va:Ss:= #[.ret (.blt 0 #[.fld (.nm 0) 8])]
noncomputable def n45:List String:=["self"]
noncomputable def f45:FD:=⟨1,[],1,Va⟩
noncomputable def U9:Ss:= #[.ret (.cmp .lt (.nm 1) (.fld (.nm 0) 9))]
noncomputable def n46:List String:=["self","symbol"]
noncomputable def f46:FD:=⟨2,[],2,U9⟩
noncomputable def U8:Ss:= #[.ret (.blt 1 #[.sub (.fld (.nm 0) 74) (.nm 1)])]
noncomputable def n47:List String:=["self","symbol"]
noncomputable def f47:FD:=⟨2,[],2,U8⟩
noncomputable def U7:Ss:= #[.ret (.bin .add (.sub (.fld (.nm 0) 75) (.nm 1)) (.nm 2))]
noncomputable def n48:List String:=["self","rule","dot"]
noncomputable def f48:FD:=⟨3,[],3,U7⟩
noncomputable def U6:Ss:= #[.ret (.sub (.fld (.nm 0) 76) (.nm 1))]
noncomputable def n49:List String:=["self","item"]
noncomputable def f49:FD:=⟨2,[],2,U6⟩
noncomputable def U5:Ss:= #[.ret (.bin .sub (.nm 1) (.sub (.fld (.nm 0) 75) (.sub (.fld (.nm 0) 76) (.nm 1))))]
noncomputable def n50:List String:=["self","item"]
noncomputable def f50:FD:=⟨2,[],2,U5⟩
noncomputable def U4:Ss:= #[.asg 2 (.fld (.sub (.fld (.nm 0) 17) (.sub (.fld (.nm 0) 76) (.nm 1))) 19),.asg 3 (.bin .sub (.nm 1) (.sub (.fld (.nm 0) 75) (.sub (.fld (.nm 0) 76) (.nm 1)))),.ret (.ite (.cmp .lt (.nm 3) (.blt 0 #[.nm 2])) (.sub (.nm 2) (.nm 3)) (.neg (.int 1)))]
noncomputable def n51:List String:=["self","item","right","dot"]
noncomputable def f51:FD:=⟨2,[],4,U4⟩
noncomputable def U3:Ss:= #[.asg 2 (.neg (.int 1)),.eP (.one 3) (.plain (.nm 0)) #[.ite (.cmp .lt (.nm 3) (.nm 1)) #[.asg 2 (.nm 3)] .nil],.ret (.nm 2)]
noncomputable def n52:List String:=["right","terminal_count","found","symbol"]
noncomputable def f52:FD:=⟨2,[],4,U3⟩
noncomputable def SA:B:=(.cmp .iF (.nm 5) (.nm 2))
noncomputable def Tq:Ss:= #[.ite SA #[.si] .nil,.asg 6 (.blt 1 #[.gl 8]),.eP (.two 3 4) (.plain (.nm 0)) #[.eP (.one 7) (.plain (.nm 4)) #[.ite (.and (.cmp .iF (.nm 7) (.nm 2)) (.cmp .iF (.nm 7) (.nm 6))) #[.expr (.cM (.nm 6) 0 #[.nm 7])] .nil]],.asg 8 (.blt 0 #[.nm 6]),.asg 6 (.bin .add (.bin .add (.nm 6) (.list #[.str [36,97,99,99,101,112,116]])) (.nm 2)),.asg 9 (.list #[.new 12 #[.int 0,.nm 8,.tup #[.cM (.nm 6) 2 #[.nm 5],.gl 7],.gl 7]]),.eP (.two 3 4) (.plain (.nm 0)) #[.asg 10 (.blt 2 #[.comp (.cM (.nm 6) 2 #[.nm 7]) (.one 7) (.plain (.nm 4)) .nil [6]]),.expr (.cM (.nm 9) 0 #[.new 12 #[.blt 0 #[.nm 9],.cM (.nm 6) 2 #[.nm 3],.nm 10,.call 52 #[.nm 10,.nm 8]]])],.ret (.new 13 #[.nm 6,.nm 8,.nm 9,.kx,.none,.cM (.nm 6) 2 #[.nm 5]])]
noncomputable def QF:Ss:= #[.asg 2 (.list .nil),.eP (.two 3 4) (.plain (.nm 0)) #[.ite (.or (.cmp .eq (.nm 3) (.str [101,114,114,111,114])) (.cmp .isIn (.wN (.nm 3) (.int 1)) (.tup #[.str [],.str [36],.str [39]]))) #[.si] .nil,.ite (.cmp .iF (.nm 3) (.nm 2)) #[.expr (.cM (.nm 2) 0 #[.nm 3])] .nil],.asg 5 (.ite (.or (.cmp .mV (.nm 1) .none) (.cmp .eq (.nm 2) (.list .nil))) (.nm 1) (.sub (.nm 2) (.int 0)))]
noncomputable def U2:Ss:=(.cons (.asg 2 (.list .nil)) (.cons (.eP (.two 3 4) (.plain (.nm 0)) #[.ite (.or (.cmp .eq (.nm 3) (.str [101,114,114,111,114])) (.cmp .isIn (.wN (.nm 3) (.int 1)) (.tup #[.str [],.str [36],.str [39]]))) #[.si] .nil,.ite (.cmp .iF (.nm 3) (.nm 2)) #[.expr (.cM (.nm 2) 0 #[.nm 3])] .nil]) (.cons (.asg 5 (.ite (.or (.cmp .mV (.nm 1) .none) (.cmp .eq (.nm 2) (.list .nil))) (.nm 1) (.sub (.nm 2) (.int 0)))) Tq)))
noncomputable def n53:List String:=["pairs","start","lefts","left","parts","begin","names","name","count","rules","right"]
noncomputable def f53:FD:=⟨2,[.none],11,U2⟩
noncomputable def U1:Ss:= #[.asg 2 (.blt 1 #[.nm 1]),.asg 3 (.list .nil),.asg 4 (.comp (.list .nil) (.one 8) (.plain (.nm 2)) .nil []),.asg 5 (.list .nil),.eP (.one 6) (.plain (.fld (.nm 0) 17)) #[.asg 7 (.int 0),.eP (.one 8) (.plain (.fld (.nm 6) 19)) #[.ite (.not (.tr (.sub (.nm 2) (.nm 8)))) #[.asg 7 (.bin .add (.nm 7) (.int 1)),.expr (.cM (.sub (.nm 4) (.nm 8)) 0 #[.fld (.nm 6) 29])] .nil],.expr (.cM (.nm 3) 0 #[.nm 7])],.eP (.one 6) (.plain (.fld (.nm 0) 17)) #[.ite (.and (.cmp .eq (.sub (.nm 3) (.fld (.nm 6) 29)) (.int 0)) (.not (.tr (.sub (.nm 2) (.fld (.nm 6) 18))))) #[.i6 (.nm 2) (.fld (.nm 6) 18) (.bool Wb),.expr (.cM (.nm 5) 0 #[.fld (.nm 6) 18])] .nil],.asg 9 (.int 0),.kU (.cmp .lt (.nm 9) (.blt 0 #[.nm 5])) #[.eP (.one 10) (.plain (.sub (.nm 4) (.sub (.nm 5) (.nm 9)))) #[.i6 (.nm 3) (.nm 10) (.bin .sub (.sub (.nm 3) (.nm 10)) (.int 1)),.asg 11 (.fld (.sub (.fld (.nm 0) 17) (.nm 10)) 18),.ite (.and (.cmp .eq (.sub (.nm 3) (.nm 10)) (.int 0)) (.not (.tr (.sub (.nm 2) (.nm 11))))) #[.i6 (.nm 2) (.nm 11) (.bool Wb),.expr (.cM (.nm 5) 0 #[.nm 11])] .nil],.asg 9 (.bin .add (.nm 9) (.int 1))],.ret (.nm 2)]
noncomputable def n54:List String:=["grammar","known","found","lacking","users","queue","rule","missing","symbol","at","number","left"]
noncomputable def f54:FD:=⟨2,[],12,U1⟩
noncomputable def U0:Ss:= #[.ret (.call 54 #[.nm 0,.bin .mul (.list #[.bool Wc]) (.cM (.nm 0) 78 .nil)])]
noncomputable def n55:List String:=["grammar"]
noncomputable def f55:FD:=⟨1,[],1,U0⟩
noncomputable def UZ:Ss:= #[.asg 3 (.int 0),.eP (.one 4) (.plain (.nm 0)) #[.asg 3 (.bin .bor (.nm 3) (.sub (.nm 2) (.nm 4))),.ite (.not (.tr (.sub (.nm 1) (.nm 4)))) #[.ret (.tup #[.nm 3,.bool Wc])] .nil],.ret (.tup #[.nm 3,.bool Wb])]
noncomputable def n56:List String:=["symbols","nullables","firsts","mask","symbol"]
noncomputable def f56:FD:=⟨3,[],5,UZ⟩
noncomputable def UY:Ss:= #[.asg 1 (.call 55 #[.nm 0]),.asg 2 (.list .nil),.eP (.one 3) (.range (.cM (.nm 0) 78 .nil)) #[.expr (.cM (.nm 2) 0 #[.ite (.tr (.cM (.nm 0) 79 #[.nm 3])) (.bin .shl (.int 1) (.nm 3)) (.int 0)])],.asg 4 (.bool Wb),.kU (.tr (.nm 4)) #[.asg 4 (.bool Wc),.eP (.one 5) (.plain (.fld (.nm 0) 17)) #[.asg 6 (.bin .bor (.sub (.nm 2) (.fld (.nm 5) 18)) (.sub (.call 56 #[.fld (.nm 5) 19,.nm 1,.nm 2]) (.int 0))),.ite (.cmp .ne (.nm 6) (.sub (.nm 2) (.fld (.nm 5) 18))) #[.i6 (.nm 2) (.fld (.nm 5) 18) (.nm 6),.asg 4 (.bool Wb)] .nil]],.ret (.nm 2)]
noncomputable def n57:List String:=["grammar","nullables","firsts","symbol","is_grown","rule","mask"]
noncomputable def f57:FD:=⟨1,[],7,UY⟩
noncomputable def UX:Ss:= #[.asg 1 (.call 55 #[.nm 0]),.asg 2 (.call 57 #[.nm 0]),.asg 3 (.bin .mul (.list #[.int 0]) (.cM (.nm 0) 78 .nil)),.asg 4 (.bool Wb),.kU (.tr (.nm 4)) #[.asg 4 (.bool Wc),.eP (.one 5) (.plain (.fld (.nm 0) 17)) #[.asg 6 (.sub (.nm 3) (.fld (.nm 5) 18)),.eP (.one 7) (.rev (.fld (.nm 5) 19)) #[.ite (.tr (.cM (.nm 0) 79 #[.nm 7])) #[.asg 6 (.sub (.nm 2) (.nm 7)),.cont] .nil,.ite (.cmp .ne (.bin .bor (.sub (.nm 3) (.nm 7)) (.nm 6)) (.sub (.nm 3) (.nm 7))) #[.i6 (.nm 3) (.nm 7) (.bin .bor (.sub (.nm 3) (.nm 7)) (.nm 6)),.asg 4 (.bool Wb)] .nil,.asg 6 (.ite (.tr (.sub (.nm 1) (.nm 7))) (.bin .bor (.nm 6) (.sub (.nm 2) (.nm 7))) (.sub (.nm 2) (.nm 7)))]]],.ret (.nm 3)]
noncomputable def n58:List String:=["grammar","nullables","firsts","follows","is_grown","rule","behind","symbol"]
noncomputable def f58:FD:=⟨1,[],8,UX⟩
noncomputable def UW:Ss:= #[.asg 1 (.blt 1 #[.nm 0]),.eP (.one 2) (.range (.blt 0 #[.nm 1])) #[.eP (.one 3) (.range (.blt 0 #[.nm 1])) #[.ite (.cmp .eq (.bin .band (.bin .shr (.sub (.nm 1) (.nm 3)) (.nm 2)) (.int 1)) (.int 1)) #[.i6 (.nm 1) (.nm 3) (.bin .bor (.sub (.nm 1) (.nm 3)) (.sub (.nm 1) (.nm 2)))] .nil]],.ret (.nm 1)]
noncomputable def n59:List String:=["rows","found","middle","one"]
noncomputable def f59:FD:=⟨1,[],4,UW⟩
noncomputable def UV:Ss:= #[.asg 1 (.call 58 #[.fld (.nm 0) 21]),.asg 2 .kx,.eP (.one 3) (.plain (.fld (.nm 0) 35)) #[.eP (.one 4) (.plain (.fld (.nm 3) 33)) #[.i6 (.nm 2) (.tup #[.fld (.nm 3) 29,.nm 4]) (.sub (.nm 1) (.fld (.sub (.fld (.fld (.nm 0) 21) 17) (.nm 4)) 18))]],.ret (.nm 2)]
noncomputable def n60:List String:=["automaton","follows","masks","state","rule"]
noncomputable def f60:FD:=⟨1,[],5,UV⟩
noncomputable def UU:Ss:= #[.dB (.nm 0) 29 (.nm 1),.dB (.nm 0) 80 (.nm 2),.dB (.nm 0) 81 (.nm 3),.dB (.nm 0) 82 (.list .nil),.dB (.nm 0) 31 .kx,.dB (.nm 0) 33 (.list .nil)]
noncomputable def n61:List String:=["self","number","kernel","symbol"]
noncomputable def f61:FD:=⟨4,[],4,UU⟩
noncomputable def UT:Ss:= #[.dB (.nm 0) 21 (.nm 1),.asg 2 (.bin .mul (.list #[.int 0]) (.cM (.nm 1) 78 .nil)),.eP (.one 3) (.plain (.fld (.nm 1) 17)) #[.ite (.cmp .gt (.blt 0 #[.fld (.nm 3) 19]) (.int 0)) #[.i6 (.nm 2) (.fld (.nm 3) 18) (.bin .bor (.sub (.nm 2) (.fld (.nm 3) 18)) (.bin .shl (.int 1) (.sub (.fld (.nm 3) 19) (.int 0))))] .nil],.dB (.nm 0) 83 (.call 59 #[.nm 2])]
noncomputable def n62:List String:=["self","grammar","rows","rule"]
noncomputable def f62:FD:=⟨2,[],4,UT⟩
noncomputable def US:Ss:= #[.asg 2 (.int 0),.eP (.one 3) (.plain (.nm 1)) #[.asg 4 (.cM (.fld (.nm 0) 21) 84 #[.nm 3]),.ite (.cmp .ge (.nm 4) (.int 0)) #[.asg 2 (.bin .bor (.bin .bor (.nm 2) (.bin .shl (.int 1) (.nm 4))) (.sub (.fld (.nm 0) 83) (.nm 4)))] .nil],.ret (.nm 2)]
noncomputable def n63:List String:=["self","kernel","mask","item","symbol"]
noncomputable def f63:FD:=⟨2,[],5,US⟩
noncomputable def UR:Ss:= #[.asg 2 (.list .nil),.eP (.one 3) (.plain (.call 1 #[.cM (.nm 0) 85 #[.nm 1]])) #[.eP (.one 4) (.plain (.cM (.fld (.nm 0) 21) 86 #[.nm 3])) #[.asg 5 (.cM (.fld (.nm 0) 21) 87 #[.nm 4,.int 0]),.ite (.cmp .iF (.nm 5) (.nm 1)) #[.expr (.cM (.nm 2) 0 #[.nm 5])] .nil]],.ret (.blt 3 #[.nm 2])]
noncomputable def n64:List String:=["self","kernel","found","symbol","number","item"]
noncomputable def f64:FD:=⟨2,[],6,UR⟩
noncomputable def UQ:Ss:= #[.ret (.bin .add (.blt 3 #[.nm 1]) (.cM (.nm 0) 88 #[.nm 1]))]
noncomputable def n65:List String:=["self","kernel"]
noncomputable def f65:FD:=⟨2,[],2,UQ⟩
noncomputable def UP:Ss:= #[.ret (.cM (.nm 0) 87 #[.cM (.nm 0) 89 #[.nm 1],.bin .add (.cM (.nm 0) 90 #[.nm 1]) (.int 1)])]
noncomputable def n66:List String:=["grammar","item"]
noncomputable def f66:FD:=⟨2,[],2,UP⟩
noncomputable def UO:Ss:= #[.asg 2 .kx,.eP (.one 3) (.plain (.nm 1)) #[.asg 4 (.cM (.nm 0) 84 #[.nm 3]),.ite (.cmp .ge (.nm 4) (.int 0)) #[.ite (.cmp .iF (.nm 4) (.nm 2)) #[.i6 (.nm 2) (.nm 4) (.list .nil)] .nil,.expr (.cM (.sub (.nm 2) (.nm 4)) 0 #[.call 66 #[.nm 0,.nm 3]])] .nil],.asg 5 .kx,.eP (.one 4) (.plain (.blt 3 #[.nm 2])) #[.i6 (.nm 5) (.nm 4) (.blt 2 #[.blt 3 #[.sub (.nm 2) (.nm 4)]])],.ret (.nm 5)]
noncomputable def n67:List String:=["grammar","items","found","item","symbol","ordered"]
noncomputable def f67:FD:=⟨2,[],6,UO⟩
noncomputable def UN:Ss:= #[.asg 2 (.list .nil),.eP (.one 3) (.plain (.nm 1)) #[.ite (.and (.cmp .lt (.cM (.nm 0) 84 #[.nm 3]) (.int 0)) (.cmp .ne (.cM (.nm 0) 89 #[.nm 3]) (.int 0))) #[.expr (.cM (.nm 2) 0 #[.cM (.nm 0) 89 #[.nm 3]])] .nil],.ret (.blt 3 #[.nm 2])]
noncomputable def n68:List String:=["grammar","items","found","item"]
noncomputable def f68:FD:=⟨2,[],4,UN⟩
noncomputable def UM:Ss:= #[.dB (.nm 0) 21 (.nm 1),.dB (.nm 0) 35 (.nm 2)]
noncomputable def n69:List String:=["self","grammar","states"]
noncomputable def f69:FD:=⟨3,[],3,UM⟩
noncomputable def UL:Ss:= #[.dB (.nm 0) 21 (.nm 1),.dB (.nm 0) 91 (.new 15 #[.nm 1]),.dB (.nm 0) 35 (.list .nil),.dB (.nm 0) 14 .kx]
noncomputable def n70:List String:=["self","grammar"]
noncomputable def f70:FD:=⟨2,[],2,UL⟩
noncomputable def UK:Ss:= #[.ite (.cmp .iF (.nm 1) (.fld (.nm 0) 14)) #[.i6 (.fld (.nm 0) 14) (.nm 1) (.blt 0 #[.fld (.nm 0) 35]),.expr (.cM (.fld (.nm 0) 35) 0 #[.new 14 #[.blt 0 #[.fld (.nm 0) 35],.nm 1,.nm 2]])] .nil,.ret (.sub (.fld (.nm 0) 14) (.nm 1))]
noncomputable def n71:List String:=["self","kernel","symbol"]
noncomputable def f71:FD:=⟨3,[],3,UK⟩
noncomputable def UJ:Ss:= #[.dB (.nm 1) 82 (.cM (.fld (.nm 0) 91) 92 #[.fld (.nm 1) 80]),.dB (.nm 1) 33 (.call 68 #[.fld (.nm 0) 21,.fld (.nm 1) 82]),.asg 2 (.call 67 #[.fld (.nm 0) 21,.fld (.nm 1) 82]),.eP (.one 3) (.plain (.nm 2)) #[.i6 (.fld (.nm 1) 31) (.nm 3) (.cM (.nm 0) 93 #[.sub (.nm 2) (.nm 3),.nm 3])]]
noncomputable def n72:List String:=["self","state","behind","symbol"]
noncomputable def f72:FD:=⟨2,[],4,UJ⟩
noncomputable def UI:Ss:= #[.expr (.cM (.nm 0) 93 #[.tup #[.cM (.fld (.nm 0) 21) 87 #[.int 0,.int 0]],.gl 9]),.asg 1 (.int 0),.kU (.cmp .lt (.nm 1) (.blt 0 #[.fld (.nm 0) 35])) #[.expr (.cM (.nm 0) 94 #[.sub (.fld (.nm 0) 35) (.nm 1)]),.asg 1 (.bin .add (.nm 1) (.int 1))],.ret (.new 16 #[.fld (.nm 0) 21,.fld (.nm 0) 35])]
noncomputable def n73:List String:=["self","at"]
noncomputable def f73:FD:=⟨1,[],2,UI⟩
noncomputable def UH:Ss:= #[.ret (.cM (.new 17 #[.nm 0]) 95 .nil)]
noncomputable def n74:List String:=["grammar"]
noncomputable def f74:FD:=⟨1,[],1,UH⟩
noncomputable def UG:Ss:= #[.asg 1 (.int 1),.eP (.one 2) (.plain (.wN (.nm 0) (.int 63))) #[.asg 1 (.bin .add (.bin .add (.bin .mul (.nm 1) (.int 1000003)) (.bin .mul (.int 2) (.blt 5 #[.blt 6 #[.nm 2]]))) (.ite (.cmp .lt (.nm 2) (.int 0)) (.int 1) (.int 0)))],.ret (.list #[.nm 1,.int 0])]
noncomputable def n75:List String:=["script","number","cell"]
noncomputable def f75:FD:=⟨1,[],3,UG⟩
noncomputable def UF:Ss:= #[.ite (.cmp .lt (.sub (.nm 0) (.int 0)) (.nm 1)) #[.i6 (.nm 0) (.int 1) (.bin .add (.sub (.nm 0) (.int 1)) (.int 1)),.i6 (.nm 0) (.int 0) (.bin .add (.bin .add (.sub (.nm 0) (.int 0)) (.int 104729)) (.bin .mul (.int 7919) (.bin .pow (.sub (.nm 0) (.int 1)) (.int 5))))] .nil,.asg 2 (.bin .mod (.sub (.nm 0) (.int 0)) (.nm 1)),.i6 (.nm 0) (.int 0) (.bin .fdiv (.sub (.nm 0) (.int 0)) (.nm 1)),.ret (.nm 2)]
noncomputable def n76:List String:=["pen","many","digit"]
noncomputable def f76:FD:=⟨2,[],3,UF⟩
noncomputable def UE:Ss:= #[.CL 2 3 (.tup #[.list #[.int 0],.comp (.nm 5) (.one 5) (.range (.blt 0 #[.nm 0])) #[.tr (.sub (.nm 1) (.nm 5))] [1]]),.eP (.one 4) (.range (.blt 0 #[.nm 0])) #[.eP (.one 5) (.range (.blt 0 #[.nm 0])) #[.ite (.cmp .isIn (.nm 5) (.nm 2)) #[.asg 2 (.bin .add (.nm 2) (.comp (.nm 8) (.one 8) (.plain (.sub (.nm 0) (.nm 5))) #[.and (.cmp .ge (.nm 8) (.int 0)) (.cmp .iF (.nm 8) (.nm 2))] [2]))] .nil,.ite (.and (.cmp .iF (.nm 5) (.nm 3)) (.cmp .ne (.comp (.nm 8) (.one 8) (.plain (.sub (.nm 0) (.nm 5))) #[.cmp .isIn (.nm 8) (.nm 3)] [3]) (.list .nil))) #[.expr (.cM (.nm 3) 0 #[.nm 5])] .nil]],.asg 6 (.comp (.nm 5) (.one 5) (.plain (.nm 2)) #[.cmp .isIn (.nm 5) (.nm 3)] [3]),.asg 7 (.comp (.comp (.ite (.and (.cmp .isIn (.nm 5) (.nm 6)) (.cmp .isIn (.nm 8) (.nm 6))) (.nm 8) (.neg (.int 1))) (.one 8) (.plain (.sub (.nm 0) (.nm 5))) .nil [5,6]) (.one 5) (.range (.blt 0 #[.nm 0])) .nil [0,6]),.ret (.tup #[.nm 7,.comp (.and (.sub (.nm 1) (.nm 5)) (.cmp .isIn (.nm 5) (.nm 6))) (.one 5) (.range (.blt 0 #[.nm 0])) .nil [1,6]])]
noncomputable def n77:List String:=["rows","marks","met","living","turn","state","kept","lean","goal"]
noncomputable def f77:FD:=⟨2,[],9,UE⟩
noncomputable def UD:Ss:= #[.asg 2 (.list .nil),.eP (.one 3) (.range (.blt 0 #[.nm 0])) #[.eP (.two 4 5) (.enum (.sub (.nm 0) (.nm 3))) #[.ite (.cmp .ge (.nm 5) (.int 0)) #[.expr (.cM (.nm 2) 0 #[.tup #[.bin .add (.str [81]) (.blt 4 #[.nm 3]),.tup #[.sub (.str [97,98]) (.nm 4),.bin .add (.str [81]) (.blt 4 #[.nm 5])]]])] .nil],.ite (.tr (.sub (.nm 1) (.nm 3))) #[.expr (.cM (.nm 2) 0 #[.tup #[.bin .add (.str [81]) (.blt 4 #[.nm 3]),.tup .nil]])] .nil],.ret (.nm 2)]
noncomputable def n78:List String:=["rows","marks","pairs","state","number","goal"]
noncomputable def f78:FD:=⟨2,[],6,UD⟩
noncomputable def UC:Ss:= #[.asg 2 (.bin .add (.comp (.tup #[.str [90],.tup #[.bin .add (.str [81]) (.blt 4 #[.nm 3])]]) (.one 3) (.range (.blt 0 #[.nm 0])) #[.tr (.sub (.nm 1) (.nm 3))] [1]) (.list #[.tup #[.str [81,48],.tup .nil]])),.eP (.one 3) (.range (.blt 0 #[.nm 0])) #[.eP (.two 4 5) (.enum (.sub (.nm 0) (.nm 3))) #[.ite (.cmp .ge (.nm 5) (.int 0)) #[.expr (.cM (.nm 2) 0 #[.tup #[.bin .add (.str [81]) (.blt 4 #[.nm 5]),.tup #[.bin .add (.str [81]) (.blt 4 #[.nm 3]),.sub (.str [97,98]) (.nm 4)]]])] .nil]],.ret (.nm 2)]
noncomputable def n79:List String:=["rows","marks","pairs","state","number","goal"]
noncomputable def f79:FD:=⟨2,[],6,UC⟩
noncomputable def UB:Ss:= #[.CL 2 3 (.tup #[.list .nil,.int 0]),.eP (.one 4) (.range (.call 76 #[.nm 0,.int 7])) #[.asg 5 (.comp (.nm 6) (.one 6) (.range (.int 2)) #[.and (.cmp .ge (.nm 3) (.int 0)) (.cmp .ge (.sub (.sub (.nm 1) (.nm 3)) (.nm 6)) (.int 0))] [1,3]),.ite (.or (.cmp .eq (.call 76 #[.nm 0,.int 6]) (.int 0)) (.cmp .eq (.nm 5) (.list .nil))) #[.asg 5 (.list #[.int 0,.int 1])] .nil,.asg 6 (.sub (.nm 5) (.call 76 #[.nm 0,.blt 0 #[.nm 5]])),.expr (.cM (.nm 2) 0 #[.sub (.str [97,98]) (.nm 6)]),.asg 3 (.ite (.cmp .ge (.nm 3) (.int 0)) (.sub (.sub (.nm 1) (.nm 3)) (.nm 6)) (.neg (.int 1)))],.ret (.nm 2)]
noncomputable def n80:List String:=["pen","rows","word","state","turn","some","number"]
noncomputable def f80:FD:=⟨2,[],7,UB⟩
noncomputable def UA:Ss:= #[.asg 2 (.list #[.int 0]),.eP (.one 3) (.plain (.nm 1)) #[.asg 4 (.sub (.sub (.nm 0) (.sub (.nm 2) (.neg (.int 1)))) (.cM (.str [97,98]) 2 #[.nm 3])),.ite (.cmp .lt (.nm 4) (.int 0)) #[.ret (.nm 2)] .nil,.expr (.cM (.nm 2) 0 #[.nm 4])],.ret (.nm 2)]
noncomputable def n81:List String:=["rows","word","path","sign","goal"]
noncomputable def f81:FD:=⟨2,[],5,UA⟩
noncomputable def Uz:Ss:= #[.asg 3 (.comp (.bin .add (.str [81]) (.blt 4 #[.nm 5])) (.one 5) (.plain (.nm 1)) .nil []),.asg 4 (.bin .add (.comp (.tup #[.sub (.nm 3) (.nm 6),.tup #[.nm 7,.sub (.nm 3) (.bin .add (.nm 6) (.int 1))]]) (.two 6 7) (.enum (.nm 2)) .nil [3]) (.list #[.tup #[.sub (.nm 3) (.neg (.int 1)),.tup .nil]])),.ret (.comp (.bin .add (.int 1) (.cM (.nm 0) 2 #[.nm 8])) (.one 8) (.plain (.EO (.nm 4))) .nil [0])]
noncomputable def n82:List String:=["rights","path","word","names","roads","state","at","sign","road"]
noncomputable def f82:FD:=⟨3,[],9,Uz⟩
noncomputable def Uy:Ss:= #[.asg 3 (.ite (.cmp .lt (.nm 2) (.blt 0 #[.nm 1])) (.sub (.nm 1) (.nm 2)) (.str [36,101,110,100])),.asg 4 (.cM (.nm 0) 96 #[.new 4 #[.nm 3,.nm 3,.none]]),.ret (.tup #[.nm 4,.comp (.fld (.nm 5) 2) (.one 5) (.plain (.fld (.nm 0) 51)) .nil []])]
noncomputable def n83:List String:=["parser","word","at","sign","answer","fault"]
noncomputable def f83:FD:=⟨3,[],6,Uy⟩
noncomputable def Ux:Ss:= #[.asg 4 (.new 11 #[.nm 0]),.eP (.one 5) (.range (.nm 2)) #[.ite (.or (.cmp .ne (.call 83 #[.nm 4,.nm 1,.nm 5]) (.tup #[.str [109,111,114,101],.list .nil])) (.cmp .ne (.blt 0 #[.fld (.nm 4) 35]) (.bin .add (.nm 5) (.int 2)))) #[.ret (.bool Wc)] .nil],.ite (.cmp .AC (.nm 3) .none) #[.ret (.and (.cmp .eq (.call 83 #[.nm 4,.nm 1,.nm 2]) (.tup #[.str [97,98,111,114,116,101,100],.list #[.nm 2]])) (.cmp .eq (.blt 0 #[.fld (.nm 4) 35]) (.bin .add (.nm 2) (.int 1))))] .nil,.ite (.cmp .ne (.call 83 #[.nm 4,.nm 1,.nm 2]) (.tup #[.str [97,99,99,101,112,116,101,100],.list .nil])) #[.ret (.bool Wc)] .nil,.ret (.cmp .eq (.xZ (.fld (.nm 4) 31) (.nm 2)) (.bin .add (.comp (.tup #[.str [114,101,100,117,99,101],.nm 6]) (.one 6) (.plain (.nm 3)) .nil []) (.list #[.tup #[.str [97,99,99,101,112,116]]])))]
noncomputable def n84:List String:=["tables","word","going","due","parser","at","rule"]
noncomputable def f84:FD:=⟨4,[],7,Ux⟩
noncomputable def Uw:Ss:= #[.CL 5 6 (.tup #[.new 11 #[.nm 0],.bin .sub (.blt 0 #[.nm 2]) (.int 1)]),.eP (.one 7) (.range (.nm 6)) #[.asg 8 (.cmp .ge (.blt 7 #[.sub (.nm 1) (.sub (.nm 2) (.bin .add (.nm 7) (.int 1)))]) (.int 0)),.asg 9 (.cM (.fld (.nm 0) 8) 2 #[.ite (.tr (.nm 8)) (.bin .add (.str [81]) (.blt 4 #[.sub (.nm 2) (.bin .add (.nm 7) (.int 1))])) (.str [90])]),.ite (.or (.cmp .ne (.call 83 #[.nm 5,.nm 3,.nm 7]) (.tup #[.str [109,111,114,101],.list .nil])) (.cmp .ne (.fld (.nm 5) 35) (.list #[.int 0,.cM (.nm 0) 69 #[.int 0,.nm 9]]))) #[.ret (.bool Wc)] .nil],.ite (.not (.tr (.nm 4))) #[.ret (.cmp .eq (.call 83 #[.nm 5,.nm 3,.nm 6]) (.tup #[.str [97,98,111,114,116,101,100],.list #[.nm 6]]))] .nil,.ite (.cmp .ne (.call 83 #[.nm 5,.nm 3,.nm 6]) (.tup #[.str [97,99,99,101,112,116,101,100],.list .nil])) #[.ret (.bool Wc)] .nil,.ret (.cmp .eq (.comp (.sub (.nm 10) (.int 0)) (.one 10) (.plain (.fld (.nm 5) 31)) .nil []) (.bin .add (.bin .add (.list #[.str [114,101,100,117,99,101]]) (.bin .mul (.list #[.str [115,104,105,102,116],.str [114,101,100,117,99,101]]) (.nm 6))) (.list #[.str [114,101,100,117,99,101],.str [97,99,99,101,112,116]])))]
noncomputable def n85:List String:=["tables","rows","path","word","is_whole","parser","going","at","is_open","symbol","move"]
noncomputable def f85:FD:=⟨5,[],11,Uw⟩
noncomputable def OQ:Ss:= #[.CL 11 12 (.tup #[.call 74 #[.call 53 #[.nm 6,.str [81,48]]],.call 74 #[.call 53 #[.nm 7,.str [90]]]]),.CL 13 14 (.tup #[.call 21 #[.nm 11,.call 60 #[.nm 11],.bool Wc],.call 21 #[.nm 12,.call 60 #[.nm 12],.bool Wb]]),.ite (.or (.cmp .ne (.fld (.nm 13) 24) (.list .nil)) (.cmp .ne (.fld (.nm 14) 24) (.list .nil))) #[.ret (.bool Wc)] .nil,.asg 15 (.ite (.tr (.nm 10)) (.call 82 #[.nm 6,.nm 9,.nm 8]) .none),.ret (.and (.call 84 #[.nm 13,.nm 8,.bin .sub (.blt 0 #[.nm 9]) (.int 1),.nm 15]) (.call 85 #[.nm 14,.nm 4,.nm 9,.nm 8,.nm 10]))]
noncomputable def GW:Ss:=(.cons (.asg 8 (.call 80 #[.nm 1,.nm 4])) (.cons (.asg 9 (.call 81 #[.nm 4,.nm 8])) (.cons (.asg 10 (.and (.cmp .gt (.blt 0 #[.nm 9]) (.blt 0 #[.nm 8])) (.sub (.nm 5) (.sub (.nm 9) (.neg (.int 1)))))) OQ)))
noncomputable def Un:B:=(.cmp .eq (.nm 6) (.list .nil))
noncomputable def t86:Ss:= #[.ret (.and (.call 87 #[.nm 6,.str [81,48]]) (.call 87 #[.nm 7,.str [90]]))]
noncomputable def Tp:Ss:=(.cons (.ite Un t86 .nil) GW)
noncomputable def NM:Ss:= #[.asg 1 (.call 75 #[.nm 0]),.asg 2 (.bin .add (.int 1) (.call 76 #[.nm 1,.int 4])),.asg 3 (.comp (.comp (.bin .sub (.call 76 #[.nm 1,.bin .add (.nm 2) (.int 1)]) (.int 1)) (.one 17) (.range (.int 2)) .nil [1,2]) (.one 16) (.range (.nm 2)) .nil [1,2]),.CL 4 5 (.call 77 #[.nm 3,.comp (.cmp .eq (.call 76 #[.nm 1,.int 2]) (.int 1)) (.one 16) (.range (.nm 2)) .nil [1]]),.CL 6 7 (.tup #[.call 78 #[.nm 4,.nm 5],.call 79 #[.nm 4,.nm 5]])]
noncomputable def b86:Ss:=(.cons (.asg 1 (.call 75 #[.nm 0])) (.cons (.asg 2 (.bin .add (.int 1) (.call 76 #[.nm 1,.int 4]))) (.cons (.asg 3 (.comp (.comp (.bin .sub (.call 76 #[.nm 1,.bin .add (.nm 2) (.int 1)]) (.int 1)) (.one 17) (.range (.int 2)) .nil [1,2]) (.one 16) (.range (.nm 2)) .nil [1,2])) (.cons (.CL 4 5 (.call 77 #[.nm 3,.comp (.cmp .eq (.call 76 #[.nm 1,.int 2]) (.int 1)) (.one 16) (.range (.nm 2)) .nil [1]])) (.cons (.CL 6 7 (.tup #[.call 78 #[.nm 4,.nm 5],.call 79 #[.nm 4,.nm 5]])) Tp)))))
noncomputable def n86:List String:=["script","pen","count","drawn","rows","marks","rights","lefts","word","path","is_whole","right","left","tables","others","due","state","number"]
noncomputable def f86:FD:=⟨1,[],18,b86⟩
noncomputable def attrs:List String:=["append","extend","index","get","kind","text","at","worth","names","terminal_count","lefts","lengths","befores","defaults","numbers","explicit","default","rules","left","right","before","grammar","rows","gotos","conflicts","settled","mode","levels","level_of","number","shifts","moves","looks","reductions","barred","states","settle_levels","row","token","state","expected","tables","handler","most","lone","begin","values","looked","count","answer","value","faults","needs","look","step","lone_rule","is_consistent","terminal","reduce","terminal_of","action","note","finish","shift","is_established","fail","length","act","go_on","goto","tell_fault","line","expect","start","by_left","offsets","owners","item_count","symbol_count","is_terminal","kernel","symbol","items","firsts","after","wanted","rules_of","item","added","rule_of","dot_of","closer","close","number_of","expand","built","offer"]
noncomputable def Q5:List String:=["ACCEPT","BARRED","END_tables","ERROR_tables","UNDEFINED_tables","ERROR_driver","UNDEFINED_driver","END_grammar","OWN_TERMINALS","NONE"]
noncomputable def Uj:List String:=["ToolError","GrammarError","TableError","ParseError","Token","Tables","Conflict","ParseTables","RowMaker","Handler","Fault","Core","Rule","Grammar","LrState","Closer","Automaton","Builder"]
noncomputable def Oi:List String:=["Token.__init__","bits","Tables.__init__","Tables.terminal","Tables.left","Tables.length","Tables.before","Tables.default","Tables.action","Tables.expected","Tables.is_consistent","ParseTables.__init__","ParseTables.explicit","ParseTables.goto","settle","RowMaker.__init__","RowMaker.settle_levels","RowMaker.row","RowMaker.conflicts","default_of","without","fill","Handler.shift","Handler.reduce","Fault.__init__","Core.__init__","Core.begin","Core.offer","Core.needs","Core.look","Core.lone_rule","Core.terminal_of","Core.note","Core.finish","Core.step","Core.is_established","Core.shift","Core.reduce","Core.act","Core.go_on","Core.expected","Core.tell_fault","Core.fail","Rule.__init__","Grammar.__init__","Grammar.symbol_count","Grammar.is_terminal","Grammar.rules_of","Grammar.item","Grammar.rule_of","Grammar.dot_of","Grammar.after","last_terminal","plain_grammar","spread","nullable","first_of","first_masks","follow_masks","transitive","slr_masks","LrState.__init__","Closer.__init__","Closer.wanted","Closer.added","Closer.close","advanced","kernels_behind","complete_rules","Automaton.__init__","Builder.__init__","Builder.number_of","Builder.expand","Builder.built","build","_law_pen","_law_draw","_law_lean","_law_rights","_law_lefts","_law_word","_law_path","_law_backwards","_law_offered","_law_right_one","_law_left_one","law","_law_is_refused"]
noncomputable def Q8:List Nat:=[1,14,19,20,21,52,53,54,55,56,57,58,59,60,66,67,68,74,75,76,77,78,79,80,81,82,83,84,85,86,87]
noncomputable def A3:List String:=["len","list","tuple","sorted","str","abs","int","max"]
noncomputable def fnL:List FD:=[f0,f1,f2,f3,f4,f5,f6,f7,f8,f9,f10,Rg,f12,f13,f14,f15,f16,f17,f18,f19,f20,f21,f22,f23,f24,f25,f26,f27,f28,f29,f30,f31,f32,f33,f34,f35,f36,f37,f38,f39,f40,f41,f42,f43,f44,f45,f46,f47,f48,f49,f50,f51,f52,f53,f54,f55,f56,f57,f58,f59,f60,f61,f62,f63,f64,f65,f66,f67,f68,f69,f70,f71,f72,f73,f74,f75,f76,f77,f78,f79,f80,f81,f82,f83,f84,f85,f86]
noncomputable def xh (f:Nat):Option FD:=fnL[f]?
noncomputable def TH:List (Option Nat):=[Wa,Wa,Wa,Wa,V9 0,V9 2,Wa,V9 11,V9 15,Wa,V9 24,V9 25,V9 43,V9 44,V9 61,V9 62,V9 69,V9 70]
noncomputable def F0 (c:Nat):Option Nat:=TH.getD c Wa
noncomputable def L2:List (Nat×Nat×Nat):=[(5,57,3),(5,18,4),(5,66,5),(5,20,6),(5,16,7),(5,60,8),(5,40,9),(5,56,10),(7,57,3),(7,18,4),(7,66,5),(7,20,6),(7,16,7),(7,60,8),(7,40,9),(7,56,10),(7,15,12),(7,69,13),(8,36,16),(8,37,17),(8,24,18),(9,63,22),(9,58,23),(11,45,26),(11,96,27),(11,52,28),(11,53,29),(11,55,30),(11,59,31),(11,61,32),(11,62,33),(11,54,34),(11,64,35),(11,63,36),(11,58,37),(11,67,38),(11,68,39),(11,40,40),(11,70,41),(11,65,42),(13,78,45),(13,79,46),(13,86,47),(13,87,48),(13,89,49),(13,90,50),(13,84,51),(15,85,63),(15,88,64),(15,92,65),(17,93,71),(17,94,72),(17,95,73)]
noncomputable def meths (c a:Nat):Option Nat:=(L2.find? λx=>x.1==c&&x.2.1==a).map (·.2.2)
noncomputable def TQ:List (List Nat):=[[],[],[],[],[4,5,6,7],[],[],[8,9,10,11,12,13,14,21,22,23,24,25,26],[21,23,25,29,30,32,34],[],[2,38,39,40],[31,35,41,42,43,44,46,47,48,49,50,51],[18,19,20,28,29,60,71],[8,9,17,27,72,73,74,75,76,77],[29,31,33,80,81,82],[21,83],[21,35],[14,21,35,91]]
noncomputable def pu (c:Nat):List Nat:=TQ.getD c []
noncomputable def Q6:List V:=[.int 1048576,.int (-1048576),.int 0,.int 1,.int 2,.int 1,.int 2,.int 0,.tup [.str [36,101,110,100],.str [101,114,114,111,114],.str [36,117,110,100,101,102,105,110,101,100]],.int (-1)]
noncomputable def BX (g:Nat):Option V:=Q6[g]?
noncomputable def pd:PD:=⟨xh,F0,meths,BX,pu⟩
def Ref (Φ:d9) (a b:V) (H:Hp) (Q:Hp->Prop):Prop:=eQ pd Φ QF [V9 a,V9 b,Wa,Wa,Wa,Wa,Wa,Wa,Wa,Wa,Wa] H λfl m H=>fl= .next/\m5 pd Φ SA m H λb H=>b=Wb/\Q H
def uP (Φ Φ':d9) (m:En) (H:Hp):Prop:=m5 pd Φ Un m H λb H=>match b with
 |true=>∃a b,getM m 6=V9 a/\getM m 7=V9 b/\Ref Φ' a (.str [81,48]) H λH=>Ref Φ' b (.str [90]) H λ_=>True
 |false=>eQ pd Φ GW m H λfl _ _=>Am fl= .bool Wb
def hH:d9:=λ_ _ _ _=>False
end
section
open PySem PySem.W PySem.Calls PyProof.Rows
section
structure RH where
 attr:List Str
 glob:List Str
 fn:List Str
 cls:List Str
 blt:List Str
 gfn:List Nat
noncomputable def mq (l:List String):List Str:=l.map aX
noncomputable def tabs:RH:=⟨mq attrs,mq Q5,mq Oi,mq Uj,mq A3,Q8⟩
noncomputable def mW (a:Nat):Str:=(tabs.attr)[a]?.getD (aX "")
noncomputable def TV:List Nat:=[100,128,142,149,156,163,170,191,205,212,219,268,282,289,301,315,322,336,341,355,360,368,382,389,418,454,461,489,496,503,510,517,524,538,545,552,559,566,573,580,587,592,599,622,641,648,655,676,683,690,697,704,718,724,729,736,743,750,757,764,771,785,820,827,834,841,855,862,869,883,939,946,953,960,974,981,988,993,1000,1005,1017,1024,1029,1034,1039,1044,1049,1012]
noncomputable def caL:List Nat:=[46,59,71,83,117,222,250,292,344,399,435,602,625,707,802,844,921,963]
noncomputable def dY (f:Nat):Addr:=TV.getD f 0
noncomputable def fJ (c:Nat):Addr:=caL.getD c 0
noncomputable def NP:PM->Operator
 | .add=>.Add| .sub=>.Sub| .mul=>.Mult| .fdiv=>.FloorDiv| .mod=>.Mod| .pow=>.Pow| .shl=>.LShift| .shr=>.RShift| .bor=>.BitOr| .band=>.BitAnd
noncomputable def oR:Lv->CmpOp
 | .eq=>.Eq| .ne=>.NotEq| .lt=>.Lt| .gt=>.Gt| .ge=>.GtE| .isIn=>.In| .iF=>.NotIn| .AC=>.Is| .mV=>.IsNot
noncomputable def GP (b:Nat):Value:=([.builtin "len",.type "list",.type "tuple",.builtin "sorted",.type "str",.builtin "abs",.type "int",.builtin "max"]:List Value).getD b .none
noncomputable abbrev wg:Str:=aX "__class__"
end
section
section
structure Pl where
 a:Expr
 b:Expr
 c:Expr
 l:List Expr
 s:Str
 k:Const
 n:Nat
 p:Pos
 o1:Option Expr
 o2:Option Expr
 o3:Option Expr
 op:Operator
 un:UnaryOp
 bo:BoolOp
 cm:List CmpOp
 os:List (Option Expr)
 cs:List Comprehension
 sc:Scope
 ks:List Keyword
noncomputable def zE (x:Expr):Pl:=⟨x,x,x,[],(aX ""),.none,0,⟨0,0,0,0⟩,Wa,Wa,Wa,.Add,.Not,.And,[],[],[],⟨.function,[],Wc,Wc,[]⟩,[]⟩
noncomputable def pl (x:Expr):Pl:=match x with
 | .Constant k n p=>{zE x with k:=k,n:=n,p:=p}
 | .Name s p=>{zE x with s:=s,p:=p}
 | .Attribute a s p=>{zE x with a:=a,s:=s,p:=p}
 | .Subscript a b p=>{zE x with a:=a,b:=b,p:=p}
 | .Slice o1 o2 o3 p=>{zE x with o1:=o1,o2:=o2,o3:=o3,p:=p}
 | .BinOp a op b p=>{zE x with a:=a,op:=op,b:=b,p:=p}
 | .UnaryOp un a p=>{zE x with un:=un,a:=a,p:=p}
 | .BoolOp bo l p=>{zE x with bo:=bo,l:=l,p:=p}
 | .Compare a cm l p=>{zE x with a:=a,cm:=cm,l:=l,p:=p}
 | .IfExp a b c p=>{zE x with a:=a,b:=b,c:=c,p:=p}
 | .List l p=>{zE x with l:=l,p:=p}
 | .Tuple l n p=>{zE x with l:=l,n:=n,p:=p}
 | .Dict os l p=>{zE x with os:=os,l:=l,p:=p}
 | .ListComp a cs sc p=>{zE x with a:=a,cs:=cs,sc:=sc,p:=p}
 | .Call a l ks p=>{zE x with a:=a,l:=l,ks:=ks,p:=p}
 |_=>zE x
noncomputable def rb (x:Expr) (q:Pl):List Expr:=[.BoolOp q.bo q.l q.p,x,.BinOp q.a q.op q.b q.p,.UnaryOp q.un q.a q.p,x,.IfExp q.a q.b q.c q.p,.Dict q.os q.l q.p,x,.ListComp q.a q.cs q.sc q.p,x,x,x,x,x,x,.Compare q.a q.cm q.l q.p,.Call q.a q.l q.ks q.p,x,x,.Constant q.k q.n q.p,.Attribute q.a q.s q.p,.Subscript q.a q.b q.p,x,.Name q.s q.p,.List q.l q.p,.Tuple q.l q.n q.p,.Slice q.o1 q.o2 q.o3 q.p]
theorem J8 (x:Expr):(rb x (pl x))[x.ctorIdx]? =V9 x:=by cases x<;>rfl
noncomputable def vw (i:Nat) (x:Expr) (f:Pl->Bool):Bool:=decide (x.ctorIdx=i)&&f (pl x)
section
variable {C:Expr->Prop} {x:Expr}
theorem oY {i f} (h:vw i x f=Wb) (k:∀y q,f q=Wb->∀e,(rb y q)[i]? =V9 e->C e):C x:=by haveI h:=cL.1 h;exact k x (pl x) h.2 x (of_decide_eq_true h.1▸J8 x)
@[irreducible] noncomputable def qR (x:Expr) (f:Const->Bool):Bool:=vw 19 x λq=>f q.k
@[irreducible] noncomputable def iz (x:Expr) (f:Str->Bool):Bool:=vw 23 x λq=>f q.s
@[irreducible] noncomputable def rM (x:Expr) (f:Expr->Str->Pos->Bool):Bool:=vw 20 x λq=>f q.a q.s q.p
@[irreducible] noncomputable def z2 (x:Expr) (f:Expr->Expr->Bool):Bool:=vw 21 x λq=>f q.a q.b
@[irreducible] noncomputable def Ex (x:Expr) (f:Option Expr->Option Expr->Option Expr->Bool):Bool:=vw 26 x λq=>f q.o1 q.o2 q.o3
@[irreducible] noncomputable def MU (x:Expr) (f:Expr->Operator->Expr->Bool):Bool:=vw 2 x λq=>f q.a q.op q.b
@[irreducible] noncomputable def Qb (x:Expr) (f:UnaryOp->Expr->Bool):Bool:=vw 3 x λq=>f q.un q.a
@[irreducible] noncomputable def Qd (x:Expr) (f:BoolOp->List Expr->Bool):Bool:=vw 0 x λq=>f q.bo q.l
@[irreducible] noncomputable def EB (x:Expr) (f:Expr->List CmpOp->List Expr->Bool):Bool:=vw 15 x λq=>f q.a q.cm q.l
@[irreducible] noncomputable def S8 (x:Expr) (f:Expr->Expr->Expr->Bool):Bool:=vw 5 x λq=>f q.a q.b q.c
@[irreducible] noncomputable def Ez (x:Expr) (f:List Expr->Bool):Bool:=vw 24 x λq=>f q.l
@[irreducible] noncomputable def CH (x:Expr) (f:List Expr->Bool):Bool:=vw 25 x λq=>f q.l
@[irreducible] noncomputable def EA (x:Expr) (f:List (Option Expr)->List Expr->Bool):Bool:=vw 6 x λq=>f q.os q.l
@[irreducible] noncomputable def S7 (x:Expr) (f:Expr->List Comprehension->Scope->Bool):Bool:=vw 8 x λq=>f q.a q.cs q.sc
@[irreducible] noncomputable def kO (x:Expr) (f:Expr->List Expr->List Keyword->Pos->Bool):Bool:=vw 16 x λq=>f q.a q.l q.ks q.p
@[elab_as_elim] theorem o5 {f} (h:qR x f=Wb) (k:∀k n p,f k=Wb->C (.Constant k n p)):C x:=by unfold qR at h;exact oY h λy q h e he=>aA he▸k q.k q.n q.p h
@[elab_as_elim] theorem fm {f} (h:iz x f=Wb) (k:∀s p,f s=Wb->C (.Name s p)):C x:=by unfold iz at h;exact oY h λy q h e he=>aA he▸k q.s q.p h
@[elab_as_elim] theorem oh {f} (h:rM x f=Wb) (k:∀a s p,f a s p=Wb->C (.Attribute a s p)):C x:=by unfold rM at h;exact oY h λy q h e he=>aA he▸k q.a q.s q.p h
@[elab_as_elim] theorem tj {f} (h:z2 x f=Wb) (k:∀a b p,f a b=Wb->C (.Subscript a b p)):C x:=by unfold z2 at h;exact oY h λy q h e he=>aA he▸k q.a q.b q.p h
@[elab_as_elim] theorem z3 {f} (h:Ex x f=Wb) (k:∀o1 o2 o3 p,f o1 o2 o3=Wb->C (.Slice o1 o2 o3 p)):C x:=by unfold Ex at h;exact oY h λy q h e he=>aA he▸k q.o1 q.o2 q.o3 q.p h
@[elab_as_elim] theorem MT {f} (h:MU x f=Wb) (k:∀a op b p,f a op b=Wb->C (.BinOp a op b p)):C x:=by unfold MU at h;exact oY h λy q h e he=>aA he▸k q.a q.op q.b q.p h
@[elab_as_elim] theorem Ev {f} (h:Qb x f=Wb) (k:∀un a p,f un a=Wb->C (.UnaryOp un a p)):C x:=by unfold Qb at h;exact oY h λy q h e he=>aA he▸k q.un q.a q.p h
@[elab_as_elim] theorem Bt {f} (h:Qd x f=Wb) (k:∀bo l p,f bo l=Wb->C (.BoolOp bo l p)):C x:=by unfold Qd at h;exact oY h λy q h e he=>aA he▸k q.bo q.l q.p h
@[elab_as_elim] theorem Aa {f} (h:EB x f=Wb) (k:∀a cm l p,f a cm l=Wb->C (.Compare a cm l p)):C x:=by unfold EB at h;exact oY h λy q h e he=>aA he▸k q.a q.cm q.l q.p h
@[elab_as_elim] theorem Qc {f} (h:S8 x f=Wb) (k:∀a b c p,f a b c=Wb->C (.IfExp a b c p)):C x:=by unfold S8 at h;exact oY h λy q h e he=>aA he▸k q.a q.b q.c q.p h
@[elab_as_elim] theorem Ib {f} (h:Ez x f=Wb) (k:∀l p,f l=Wb->C (.List l p)):C x:=by unfold Ez at h;exact oY h λy q h e he=>aA he▸k q.l q.p h
@[elab_as_elim] theorem wC {f} (h:CH x f=Wb) (k:∀l n p,f l=Wb->C (.Tuple l n p)):C x:=by unfold CH at h;exact oY h λy q h e he=>aA he▸k q.l q.n q.p h
@[elab_as_elim] theorem Ic {f} (h:EA x f=Wb) (k:∀os l p,f os l=Wb->C (.Dict os l p)):C x:=by unfold EA at h;exact oY h λy q h e he=>aA he▸k q.os q.l q.p h
@[elab_as_elim] theorem LN {f} (h:S7 x f=Wb) (k:∀a cs sc p,f a cs sc=Wb->C (.ListComp a cs sc p)):C x:=by unfold S7 at h;exact oY h λy q h e he=>aA he▸k q.a q.cs q.sc q.p h
@[elab_as_elim] theorem ip {f} (h:kO x f=Wb) (k:∀a l ks p,f a l ks p=Wb->C (.Call a l ks p)):C x:=by unfold kO at h;exact oY h λy q h e he=>aA he▸k q.a q.l q.ks q.p h
end
structure Ps where
 a:Expr
 b:Expr
 l:List Expr
 o:Option Expr
 s:List Stmt
 t:List Stmt
 p:Pos
noncomputable def LX:Ps:=⟨(.List [] ⟨0,0,0,0⟩),(.List [] ⟨0,0,0,0⟩),[],Wa,[],[],⟨0,0,0,0⟩⟩
noncomputable def ps (x:Stmt):Ps:=match x with
 | .Return o p=>{LX with o:=o,p:=p}
 | .Assign l a p=>{LX with l:=l,a:=a,p:=p}
 | .For a b s t p=>{LX with a:=a,b:=b,s:=s,t:=t,p:=p}
 | .While a s t p=>{LX with a:=a,s:=s,t:=t,p:=p}
 | .If a s t p=>{LX with a:=a,s:=s,t:=t,p:=p}
 | .Expr a p=>{LX with a:=a,p:=p}
 | .Continue p=>{LX with p:=p}
 |_=>LX
noncomputable def rs (x:Stmt) (q:Ps):List Stmt:=[x,x,x,.Return q.o q.p,x,.Assign q.l q.a q.p,x,x,x,.For q.a q.b q.s q.t q.p,x,.While q.a q.s q.t q.p,.If q.a q.s q.t q.p,x,x,x,x,x,x,x,x,x,x,x,.Expr q.a q.p,x,x,.Continue q.p]
theorem J4 (x:Stmt):(rs x (ps x))[x.ctorIdx]? =V9 x:=by cases x<;>rfl
noncomputable def ws (i:Nat) (x:Stmt) (f:Ps->Bool):Bool:=decide (x.ctorIdx=i)&&f (ps x)
section
variable {C:Stmt->Prop} {x:Stmt}
theorem zU {i f} (h:ws i x f=Wb) (k:∀y q,f q=Wb->∀e,(rs y q)[i]? =V9 e->C e):C x:=by haveI h:=cL.1 h;exact k x (ps x) h.2 x (of_decide_eq_true h.1▸J4 x)
@[irreducible] noncomputable def zW (x:Stmt) (f:Option Expr->Bool):Bool:=ws 3 x λq=>f q.o
@[irreducible] noncomputable def zZ (x:Stmt) (f:List Expr->Expr->Bool):Bool:=ws 5 x λq=>f q.l q.a
@[irreducible] noncomputable def MK (x:Stmt) (f:Expr->Expr->List Stmt->List Stmt->Bool):Bool:=ws 9 x λq=>f q.a q.b q.s q.t
@[irreducible] noncomputable def S6 (x:Stmt) (f:Expr->List Stmt->List Stmt->Bool):Bool:=ws 11 x λq=>f q.a q.s q.t
@[irreducible] noncomputable def zY (x:Stmt) (f:Expr->List Stmt->List Stmt->Bool):Bool:=ws 12 x λq=>f q.a q.s q.t
@[irreducible] noncomputable def ML (x:Stmt) (f:Expr->Bool):Bool:=ws 24 x λq=>f q.a
@[irreducible] noncomputable def Ep (x:Stmt):Bool:=ws 27 x λ_=>Wb
@[elab_as_elim] theorem wz {f} (h:zW x f=Wb) (k:∀o p,f o=Wb->C (.Return o p)):C x:=by unfold zW at h;exact zU h λy q h e he=>aA he▸k q.o q.p h
@[elab_as_elim] theorem qN {f} (h:zZ x f=Wb) (k:∀l a p,f l a=Wb->C (.Assign l a p)):C x:=by unfold zZ at h;exact zU h λy q h e he=>aA he▸k q.l q.a q.p h
@[elab_as_elim] theorem MJ {f} (h:MK x f=Wb) (k:∀a b s t p,f a b s t=Wb->C (.For a b s t p)):C x:=by unfold MK at h;exact zU h λy q h e he=>aA he▸k q.a q.b q.s q.t q.p h
@[elab_as_elim] theorem Qa {f} (h:S6 x f=Wb) (k:∀a s t p,f a s t=Wb->C (.While a s t p)):C x:=by unfold S6 at h;exact zU h λy q h e he=>aA he▸k q.a q.s q.t q.p h
@[elab_as_elim] theorem zX {f} (h:zY x f=Wb) (k:∀a s t p,f a s t=Wb->C (.If a s t p)):C x:=by unfold zY at h;exact zU h λy q h e he=>aA he▸k q.a q.s q.t q.p h
@[elab_as_elim] theorem Bq {f} (h:ML x f=Wb) (k:∀a p,f a=Wb->C (.Expr a p)):C x:=by unfold ML at h;exact zU h λy q h e he=>aA he▸k q.a q.p h
@[elab_as_elim] theorem HW (h:Ep x=Wb) (k:∀p,C (.Continue p)):C x:=by unfold Ep at h;exact zU h λy q h e he=>aA he▸k q.p
end
theorem MS {k n p f} (h:f k=Wb):qR (.Constant k n p) f=Wb:=by delta qR vw;exact cL.2 ⟨decide_eq_true rfl,h⟩
section
variable {α:Type} {C:List α->Prop} {D:Option α->Prop} {l:List α} {o:Option α}
noncomputable def v0 (l:List α):Bool:=match l with|[]=>Wb|_::_=>Wc
noncomputable def v1 (l:List α) (f:α->List α->Bool):Bool:=match l with|[]=>Wc|a::r=>f a r
noncomputable def vS (o:Option α) (f:α->Bool):Bool:=match o with|some a=>f a|none=>Wc
noncomputable def vN (o:Option α):Bool:=match o with|some _=>Wc|none=>Wb
@[elab_as_elim] theorem fC (h:v0 l=Wb) (k:C []):C l:=by induction l with|nil=>exact k|cons=>cases h
@[elab_as_elim] theorem fg {f} (h:v1 l f=Wb) (k:∀a r,f a r=Wb->C (a::r)):C l:=by induction l with|cons=>exact k _ _ h|nil=>cases h
@[elab_as_elim] theorem wD {f} (h:vS o f=Wb) (k:∀a,f a=Wb->D (V9 a)):D o:=by induction o with|some=>exact k _ h|none=>cases h
@[elab_as_elim] theorem wE (h:vN o=Wb) (k:D Wa):D o:=by induction o with|none=>exact k|some=>cases h
theorem aL {a b:Bool} {P:Prop} (h:(a&&b)=Wb) (k:a=Wb->b=Wb->P):P:=k (cL.1 h).1 (cL.1 h).2
@[elab_as_elim] theorem nV {β:Sort _} {a b:β} [Decidable (a=b)] {D:β->Prop} (h:decide (a=b)=Wb) (k:D a):D b:=of_decide_eq_true h▸k
end
noncomputable def cBool (c:Const):Option Bool:=match c with| .bool b=>V9 b|_=>Wa
noncomputable def cInt (c:Const):Option Int:=match c with| .int b=>V9 b|_=>Wa
noncomputable def cStr (c:Const):Option Str:=match c with| .str b=>V9 b|_=>Wa
@[elab_as_elim] theorem Le {C:Const->Prop} {c:Const} (h:decide (c.ctorIdx=0)=Wb) (k:C .none):C c:=by have h:=of_decide_eq_true h;cases c<;>first|exact k|exact absurd h (HI _)
@[elab_as_elim] theorem B5 {C:Const->Prop} {c:Const} {b} (h:decide (cBool c=V9 b)=Wb) (k:C (.bool b)):C c:=by have h:=of_decide_eq_true h;cases c<;>first|exact nn h|exact aA h▸k
@[elab_as_elim] theorem GO {C:Const->Prop} {c:Const} {b} (h:decide (cInt c=V9 b)=Wb) (k:C (.int b)):C c:=by have h:=of_decide_eq_true h;cases c<;>first|exact nn h|exact aA h▸k
@[elab_as_elim] theorem GN {C:Const->Prop} {c:Const} {b} (h:decide (cStr c=V9 b)=Wb) (k:C (.str b)):C c:=by have h:=of_decide_eq_true h;cases c<;>first|exact nn h|exact aA h▸k
noncomputable def L8 (a b:Str):Bool:=a==b
theorem il {b:Bool} (h:(!b)=Wb):b=Wc:=by cases b<;>first|rfl|cases h
noncomputable def ph (l:List Str) (k:Nat) (x:Str):Bool:=decide (l[k]? =V9 x)
noncomputable def EH (t:T):List Nat:=match t with| .one k=>[k]| .two k l=>[k,l]
noncomputable def Gu (ns:List Str) (a:List Nat) (t:T) (o sc:Scope):Bool:=
 decide (sc.kind= .function)&&(a.all (λk=>vS ns[k]? λx=>decide (sc.names.lookup x=V9 .free))&&((EH t).all (λk=>vS ns[k]? λx=>decide (sc.names.lookup x=V9 .local)||decide (sc.names.lookup x=V9 .cell))&&
 (sc.names.all (λy=>decide (sc.names.lookup y.1=V9 y.2)&&(!L8 y.1 (aX "__classdict__")&&(!L8 y.1 (aX "__class__")&&(!decide (y.2= .free)||((decide (o.names.lookup y.1=V9 .cell)||decide (o.names.lookup y.1=V9 .free))&&
  (aC ns.length).all λk=> !ph ns k y.1||a.contains k)))))&&(decide (sc.names.map (·.1)).Nodup&&decide ((a++EH t).map λk=>ns[k]?).Nodup))))
noncomputable def Kg (x:Expr):Bool:= !(decide (x.ctorIdx=0)||(decide (x.ctorIdx=5)||(decide (x.ctorIdx=15)||(decide (x.ctorIdx=3)&&decide (LD=(pl x).un)))))
noncomputable def Q3 (t:T):Bool:=match t with| .two _ _=>Wb| .one _=>Wc
noncomputable def sS (x:Expr):Bool:= !(decide (x.ctorIdx=16)&&(decide ((pl x).a.ctorIdx=23)&&(v0 (pl x).l&&v0 (pl x).ks)))
noncomputable def m7 (sc:Scope) (x:Str):Bool:=decide (sc.names.lookup x=V9 .globalImplicit)&& !L8 x (aX "__debug__")
noncomputable def noStar (x:Expr):Bool:= !decide (x.ctorIdx=22)
noncomputable def BM (x:Expr):Bool:= !decide (x.ctorIdx=26)
noncomputable def NS (x:Expr):Bool:= !(decide (x.ctorIdx=24)||decide (x.ctorIdx=25)||decide (x.ctorIdx=7))
noncomputable def Sl (n:Str) (sc:Scope) (x:Expr) (f:Expr->Bool):Bool:=kO x λp b ks _=>iz p λy=>v0 ks&&(decide (n=y)&&(m7 sc y&&v1 b λa r=>v0 r&&(noStar a&&f a)))
noncomputable def Se (t:T) (i:I):Bool:=match i with| .enum _=>Q3 t|_=>Wb
section
variable (N:RH) (ns:List Str)
noncomputable def mT (t:T) (x:Expr):Bool:=match t with
 | .one k=>iz x (ph ns k)
 | .two k l=>CH x λc=>v1 c λa r=>v1 r λb r=>v0 r&&iz a λx=>iz b λy=>ph ns k x&&(ph ns l y&& !L8 x y)
mutual
noncomputable def mE (e:E) (sc:Scope) (x:Expr):Bool:=match e with
 | .none=>qR x λc=>decide (c.ctorIdx=0)
 | .bool b=>qR x λc=>decide (cBool c=V9 b)
 | .int i=>qR x λc=>decide (cInt c=V9 i)
 | .str s=>qR x λc=>decide (cStr c=V9 ⟨s.toArray⟩)
 | .nm k=>iz x λy=>ph ns k y&& !L8 y (aX "__debug__")
 | .gl g=>iz x λy=>ph N.glob g y&&m7 sc y
 | .fld o a=>rM x λp y _=>mE o sc p&&(ph N.attr a y&&sS p)
 | .sub o i=>z2 x λp j=>mE o sc p&&(mE i sc j&&BM j)
 | .xZ o i=>z2 x λp j=>Ex j λa b c=>vS a λa=>vN b&&(vN c&&(mE o sc p&&mE i sc a))
 | .wN o i=>z2 x λp j=>Ex j λa b c=>vS b λb=>vN a&&(vN c&&(mE o sc p&&mE i sc b))
 | .EO o=>z2 x λp j=>Ex j λa b c=>vS c λc=>vN a&&(vN b&&(Qb c λu c=>decide (HF=u)&&qR c (λc=>decide (cInt c=V9 1))&&mE o sc p))
 | .bin d a b=>MU x λp q r=>decide (NP d=q)&&(mE a sc p&&mE b sc r)
 | .neg a=>Qb x λu p=>decide (HF=u)&&mE a sc p
 | .and a b=>Qd x λu l=>decide (Pd=u)&&v1 l λp r=>v1 r λq r=>v0 r&&(mE a sc p&&mE b sc q)
 | .cmp d a b=>EB x λp q r=>v1 q λq f=>v1 r λr rs=>v0 f&&(v0 rs&&(decide (oR d=q)&&(!sB q r&&(mE a sc p&&mE b sc r))))
 | .ite c a b=>S8 x λt p q=>mB c sc t&&(mE a sc p&&mE b sc q)
 | .list a=>Ez x (rS a sc)
 | .tup a=>CH x (rS a sc)
 | .kx=>EA x λa b=>v0 a&&v0 b
 | .comp c t it d b=>S7 x λh f a=>v1 f λg r=>v0 r&&(mE c a h&&(mT ns t g.target&&(mI it sc g.iter&&(QS d a g.ifs&&(decide (0=g.is_async)&&(Se t it&&Gu ns b t sc a))))))
 | .call f a=>kO x λp d ks _=>iz p λy=>v0 ks&&(ph N.fn f y&&(N.gfn.contains f&&(m7 sc y&&rS a sc d)))
 | .new c a=>kO x λp d ks _=>iz p λy=>v0 ks&&(ph N.cls c y&&(m7 sc y&&rS a sc d))
 | .blt b a=>kO x λp d ks _=>iz p λy=>v0 ks&&(ph N.blt b y&&(m7 sc y&&rS a sc d))
 | .cM o f a=>kO x λp d ks pos=>rM p λp y b=>v0 ks&&(ph N.attr f y&&(mE o sc p&&(rS a sc d&&(sS p&&(decide (d.length<29)&&(b.endLine==pos.line))))))
 | .si=>Wb
 | .sup _ _=>Wc
noncomputable def rS (a:Es) (sc:Scope) (l:List Expr):Bool:=match a with
 | .nil=>v0 l
 | .cons e a=>v1 l λp r=>mE e sc p&&(rS a sc r&&noStar p)
noncomputable def mB (b:B) (sc:Scope) (x:Expr):Bool:=match b with
 | .not b=>Qb x λu p=>decide (LD=u)&&mB b sc p
 | .and a b=>Qd x λu l=>decide (Pd=u)&&v1 l λp r=>v1 r λq r=>v0 r&&(mB a sc p&&mB b sc q)
 | .or a b=>Qd x λu l=>decide (BoolOp.Or=u)&&v1 l λp r=>v1 r λq r=>v0 r&&(mB a sc p&&mB b sc q)
 | .cmp d a b=>EB x λp q r=>v1 q λq f=>v1 r λr rs=>v0 f&&(v0 rs&&(decide (oR d=q)&&(!sB q r&&(mE a sc p&&mE b sc r))))
 | .Gv d e a b c=>EB x λp q r=>v1 q λq f=>v1 r λr rs=>v1 f λq' f=>v1 rs λr' rs=>v0 f&&(v0 rs&&(decide (oR d=q)&&(decide (oR e=q')&&(!sB q r&&(!sB q' r'&&(mE a sc p&&(mE b sc r&&mE c sc r')))))))
 | .tr e=>Kg x&&mE e sc x
noncomputable def QS (bs:Bs) (sc:Scope) (l:List Expr):Bool:=match bs with
 | .nil=>v0 l
 | .cons b bs=>v1 l λp r=>mB b sc p&&QS bs sc r
noncomputable def mI (i:I) (sc:Scope) (x:Expr):Bool:=match i with
 | .plain e=>NS x&&mE e sc x
 | .range e=>Sl (aX "range") sc x (mE e sc)
 | .enum e=>Sl (aX "enumerate") sc x (mE e sc)
 | .rev e=>Sl (aX "reversed") sc x (mE e sc)
end
noncomputable def FV (e:E):Bool:=match e with| .comp .. =>Wb|_=>Wc
noncomputable def Fs (p:Expr):Bool:= !(decide (p.ctorIdx=8)||(decide (p.ctorIdx=9)||decide (p.ctorIdx=10)))
noncomputable def Bv (x:Expr):Bool:= !CH x λvs=> !(vs.all (sA 8)|| !vs.all (qE 8))
variable (sc:Scope) (vs:List Nat)
noncomputable def Pz (t:T):Bool:=match t with| .one k=>vs.contains k| .two k l=>vs.contains k&&vs.contains l
mutual
noncomputable def mS (s:S) (x:Stmt):Bool:=match s with
 | .expr e=>ML x λp=>Fs p&&mE N ns e sc p
 | .ret e=>zW x λo=>vS o λp=>mE N ns e sc p
 | .E1=>zW x λo=>vN o
 | .asg k e=>zZ x λl p=>v1 l λa r=>v0 r&&iz a λy=>ph ns k y&&(vs.contains k&&((FV e||Fs p)&&mE N ns e sc p))
 | .CL k l e=>zZ x λb p=>v1 b λa r=>v0 r&&(mT ns (.two k l) a&&(vs.contains k&&(vs.contains l&&(Bv p&&mE N ns e sc p))))
 | .dB o a e=>zZ x λb p=>v1 b λt r=>v0 r&&rM t λq y _=>ph N.attr a y&&(mE N ns o sc q&&mE N ns e sc p)
 | .i6 o i e=>zZ x λb p=>v1 b λt r=>v0 r&&z2 t λq j=>BM j&&(mE N ns o sc q&&(mE N ns i sc j&&mE N ns e sc p))
 | .ite c a b=>zY x λt p q=>mB N ns c sc t&&(zF a p&&zF b q)
 | .eP t it a=>MK x λd c b e=>v0 e&&(mT ns t d&&(Pz vs t&&(mI N ns it sc c&&(Se t it&&zF a b))))
 | .kU c a=>S6 x λt b e=>v0 e&&(mB N ns c sc t&&zF a b)
 | .cont=>Ep x
 | .si=>Wb
noncomputable def zF (a:Ss) (l:List Stmt):Bool:=match a with
 | .nil=>v0 l
 | .cons s a=>v1 l λp r=>mS s p&&zF a r
end
end
end
end
section
section
noncomputable def nsL:List (List String):=[n0,n1,n2,n3,n4,n5,n6,n7,n8,n9,n10,Hn,n12,n13,n14,n15,n16,n17,n18,n19,QR,n21,n22,n23,n24,n25,n26,n27,n28,n29,n30,n31,n32,n33,n34,n35,n36,n37,n38,n39,n40,n41,n42,n43,n44,n45,n46,n47,n48,n49,n50,n51,n52,n53,n54,n55,n56,n57,n58,n59,n60,n61,n62,n63,n64,n65,n66,n67,n68,n69,n70,n71,n72,n73,n74,n75,n76,n77,n78,n79,n80,n81,n82,n83,n84,n85,n86]
noncomputable def szL:List Nat:=[5,4,7,2,2,2,2,2,4,5,3,11,3,3,5,6,4,4,7,5,2,13,2,4,5,4,1,3,1,2,2,3,2,3,5,2,2,6,3,4,1,2,2,8,8,1,2,2,3,2,2,4,4,11,12,1,5,7,8,4,5,4,4,5,6,2,2,6,4,3,2,3,4,2,1,3,3,8,6,6,7,5,5,5,6,10,16]
noncomputable def w5:List Nat:=[3,0,2,1]++(caL++([45,58,70,82,116,221,249,291,343,398,434,601,624,706,801,843,920,962]++([93,361,411,447,615,719,258,36,35,29]++(TV++TV.map (·-1)))))
noncomputable def Be (t:BT):Frag:=w5.filterMap λa=>(t.get a).bind λo=>(alive o).map λo=>(a,o)
noncomputable def dFn (d:Data):Option d0:=match d with| .func f=>V9 f|_=>Wa
noncomputable def Ox (d:Data):Option (Array Value×Nat):=match d with| .seq a n=>V9 (a,n)|_=>Wa
noncomputable def Rl (d:Data):Option (Array Value):=match d with| .fields a=>V9 a|_=>Wa
noncomputable def Oz (d:Data):Option ClassData:=match d with| .cls a=>V9 a|_=>Wa
noncomputable def Rm (d:Data):Option Value:=match d with| .cell a=>a|_=>Wa
noncomputable def HZ (v:Value):Option Addr:=match v with| .ref a=>V9 a|_=>Wa
noncomputable def vInt (v:Value):Option Int:=match v with| .int a _=>V9 a|_=>Wa
noncomputable def vStr (v:Value):Option Str:=match v with| .str a _=>V9 a|_=>Wa
noncomputable def vBool (v:Value):Option Bool:=match v with| .bool a=>V9 a|_=>Wa
noncomputable def Ia (v:Value):Bool:=match v with| .none=>Wb|_=>Wc
section
variable (K:Frag)
noncomputable def ui (a:Addr) (f:d0->Bool):Bool:=vS (K.lookup a) λo=>vS (dFn o.data) f
noncomputable def R8 (v:V) (x:Value):Bool:=match v with
 | .none=>Ia x
 | .bool a=>decide (vBool x=V9 a)
 | .int i=>decide (vInt x=V9 i)
 | .str s=>decide (vStr x=V9 ⟨s.toArray⟩)
 |_=>Wc
noncomputable def CG (vs:List V) (xs:List Value):Bool:=match vs with
 |[]=>v0 xs
 |v::vs=>v1 xs λx xs=>R8 v x&&CG vs xs
noncomputable def isNs (x:Str) (v:Value):Bool:=nsIn K dR x==V9 Wa&&nsIn K ke x==V9 (V9 v)
noncomputable def uq (x:Str) (v:Value):Bool:=nsIn K dR x==V9 (V9 v)&&keepIn K v
noncomputable def lc:Addr:=607
noncomputable def Kc:List V:=[.str [36,101,110,100],.str [101,114,114,111,114],.str [36,117,110,100,101,102,105,110,101,100]]
noncomputable def Im (v:V) (s:List Nat):Bool:=match v with| .str t=>decide (t=s)|_=>Wc
noncomputable def QG (vs:List V):Bool:=v1 vs λa vs=>Im a [36,101,110,100]&&v1 vs λb vs=>Im b [101,114,114,111,114]&&v1 vs λc vs=>Im c [36,117,110,100,101,102,105,110,101,100]&&v0 vs
noncomputable def TM (x:Str) (v:V):Bool:=match v with
 | .tup vs=>nsIn K dR x==V9 (V9 (.ref lc))&&QG vs
 |v=>vS (nsIn K dR x) λr=>vS r λcv=>R8 v cv
noncomputable def gdB:Bool:=(aC 8).all (λb=>vS tabs.blt[b]? λx=>isNs K x (GP b))&&(isNs K (aX "range") (.type "range")&&(isNs K (aX "enumerate") (.type "enumerate")&&(isNs K (aX "reversed") (.type "reversed")&&
 (Q8.all (λf=>vS tabs.fn[f]? λx=>uq K x (.ref (dY f)))&&((aC 18).all (λc=>vS tabs.cls[c]? λx=>uq K x (.ref (fJ c)))&&((aC 10).all (λg=>vS tabs.glob[g]? λx=>vS (BX g) (TM K x))&&(K.lookup iu).isSome))))))
noncomputable def Rd (c a:Nat):Bool:=HB K (fJ c) (mW a)&&(hasDictIn K (fJ c)&&(findIn K (.ref (fJ c)) (mW a)==V9 Wa&&(findIn K (.ref (fJ c)) "__setattr__"==V9 (V9 (.builtin "object.__setattr__"))&&(plainOver K (fJ c)&&takerIn K (fJ c) (mW a)==V9 Wa))))
noncomputable def TA (c a g:Nat):Bool:=HB K (fJ c) (mW a)&&(findIn K (.ref (fJ c)) (mW a)==V9 (V9 (.ref (dY g)))&&(isFn K (.ref (dY g))&&keepIn K (.ref (dY g))))
noncomputable def TB (c f:Nat):Bool:=Pa K (fJ c)&&(findIn K (.ref (fJ c)) "__init__"==V9 (V9 (.ref (dY f)))&&isFn K (.ref (dY f)))
noncomputable def gcB:Bool:=(aC 18).all (λc=>(pu c).all λa=>decide (a<97)&&Rd K c a)&&(L2.all (λx=>TA K x.1 x.2.1 x.2.2)&&((aC 18).all (λc=>match F0 c with|some f=>TB K c f|none=>Wb)&&(Pa K (fJ 9)&&findIn K (.ref (fJ 9)) "__init__"==V9 (V9 (.builtin "object.__init__")))))
noncomputable def Rj (dv:Value) (oQ:List V):Bool:=(Ia dv&&v0 oQ)||vS (HZ dv) λT=>vS (K.lookup T) λo=>vS (Ox o.data) λx=>CG oQ x.1.toList
noncomputable def TU (fdd:d0) (fd:FD) (ns:List Str) (sz:Nat):Bool:=
 codeIn K fdd.code fdd.qualname&&(decide (fdd.scope.kind= .function)&&(!fdd.scope.isCoroutine&&(!fdd.scope.isGenerator&&(decide (fdd.globals=dR)&&(decide (fdd.builtins=ke)&&(v0 fdd.params.posonlyargs&&(vN fdd.params.vararg&&(v0 fdd.params.kwonlyargs&&(vN fdd.params.kwarg&&
 (decide (fdd.params.args.map (·.arg)=ns.take fd.np)&&(decide (fd.np<=sz)&&(decide (sz<=ns.length)&&(decide (ns.take sz).Nodup&&ns.all λx=> !L8 x wg)))))))))))))
noncomputable def zc (fdd:d0) (f:List Stmt->Bool):Bool:=match fdd.body with| .stmts b=>f b|_=>Wc
noncomputable def Sr (fd:FD) (ns:List Str) (sz:Nat) (mt:d0->List Stmt->Bool) (fdd:d0):Bool:=TU K fdd fd ns sz&&(zc fdd (mt fdd)&&(v0 fdd.closure&&(decide (fdd.scope.names.map (·.1)).Nodup&&((ns.take sz).all (λx=>decide (fdd.scope.names.lookup x=V9 .local)||decide (fdd.scope.names.lookup x=V9 .cell))&&
 (fdd.scope.names.all (λy=> !decide (y.2= .free))&&(Rj K fdd.defaults fd.oQ&&decide (fd.oQ.length<=fd.np)))))))
noncomputable def mtB (fd:FD) (ns:List Str) (sz:Nat) (fdd:d0) (body:List Stmt):Bool:=zF tabs ns fdd.scope (aC sz) fd.body body
noncomputable def Bc:Bool:=(aC 87).all λf=>f==11||vS (xh f) λfd=>vS nsL[f]? λns=>vS szL[f]? λsz=>ui K (dY f) (Sr K fd (mq ns) sz (mtB fd (mq ns) sz))
noncomputable abbrev Ap:Program:=iQ
noncomputable def suB (fdd:d0) (ns:List Str) (g:Nat) (cc cda:Addr):Bool:=
 vS (K.lookup cda) (λo=>vS (Rl o.data) λvs=>vS (vs[2]? :Option Value) λx=>vS (vStr x) λfile=>(Ap.main.file:Str)==file)&&(vS (K.lookup cc) (λo=>vS (Rm o.data) λv=>vS (HZ v) λD=>vS (K.lookup D) (λo=>vS (Oz o.data) λ_=>Wb)&&(mroIn K (fJ 7) (.ref D)==V9 Wb&&ks_superIn K (fJ 7) D (aX "__init__")==V9 (V9 (.ref (dY g)))))&&
 (isNs K (aX "super") (.type "super")&&(!(Ap.main.scope.names.lookup (aX "super")).isSome&&(vS (fdd.params.posonlyargs++fdd.params.args).head? (λa=>ph ns 0 a.arg)&&(typeIn K (.ref (dY g))==V9 (.type "function")&&(fnIn K (dY g)&&(nsIn K cStatics (aX "thirdparty.any")==V9 Wa&&
 (decide (fdd.scope.names.lookup (aX "super")=V9 .globalImplicit)&&decide (fdd.scope.names.lookup wg=V9 .free)))))))))
noncomputable def Bx (x:Stmt) (f:List Expr->Bool):Bool:=ML x λe=>kO e λa args ks q3=>v0 ks&&rM a λs nm q2=>decide (aX "__init__"=nm)&&kO s λn as ks _=>v0 as&&(v0 ks&&iz n λs1=>decide (aX "super"=s1)&&(decide (args.length<29)&&((q2.endLine==q3.line)&&f args)))
noncomputable def ptB (fdd:d0):Bool:=TU K fdd Rg (mq Hn) 11&&(((mq Hn).take 11).all (λx=>decide (fdd.scope.names.lookup x=V9 .local))&&(fdd.scope.names.all (λy=> !decide (y.2= .cell))&&(fdd.scope.names.all (λy=> !decide (y.2= .free)||decide (y.1=wg))&&(Ia fdd.defaults&&
 (v1 fdd.closure (λp r=>v0 r&&(decide (wg=p.1)&&vS (HZ fdd.code) λcda=>suB K fdd (mq Hn) 2 p.2 cda))&&zc fdd λb=>v1 b λt1 b=>v1 b λt2 b=>v1 b λt3 b=>v1 b λt4 b=>(match Rg.body with
  | .cons a1 (.cons a2 (.cons a3 (.cons (.expr (.sup 2 es)) r)))=>mS tabs (mq Hn) fdd.scope (aC 11) a1 t1&&(mS tabs (mq Hn) fdd.scope (aC 11) a2 t2&&(mS tabs (mq Hn) fdd.scope (aC 11) a3 t3&&(Bx t4 (rS tabs (mq Hn) es fdd.scope)&&zF tabs (mq Hn) fdd.scope (aC 11) r b)))
  |_=>Wc))))))
noncomputable abbrev PE:Str:=aX "Exception"
noncomputable def qB:Addr:=59
noncomputable def PC:Addr:=46
noncomputable def D8:Addr:=36
noncomputable def Pr:List Str:=mq ["pairs","start"]
noncomputable def D5:List Str:=mq ["self","what","at"]
noncomputable def f87:FD:=⟨2,[],2,.cons .si (.cons .si .nil)⟩
noncomputable def TW:FD:=⟨3,[.none],3,.cons .si (.cons .si (.cons .si .nil))⟩
noncomputable def TZ:Bool:=vS (K.lookup qB) (λo=>o.cls== .type "type"&&vS (Oz o.data) λcd=>cd.mro==[.ref qB,.ref PC,.type "Exception",.type "BaseException",.type "object"]&&(cd.hasDict&&(!cd.hasDel&&v1 o.slots.toList λk0 r=>v1 r λk1 r=>v1 r λk2 r=>v1 r λk3 r=>v1 r λk4 r=>v1 r λk5 r=>v0 r&&k4==V9 (.builtin "Exception.__new__"))))&&
 (findIn K (.ref qB) "__init__"==V9 (V9 (.ref D8))&&(typeIn K (.ref D8)==V9 (.type "function")&&(findIn K (.ref qB) "__setattr__"==V9 (V9 (.builtin "object.__setattr__"))&&isNs K PE (.type "Exception"))))
noncomputable def OT (fdd:d0) (x:Stmt) (k:Nat):Bool:=zZ x λts p=>v1 ts λt r=>v0 r&&rM t λq y _=>findIn K (.ref qB) y==V9 Wa&&(mE tabs D5 (.nm 0) fdd.scope q&&mE tabs D5 (.nm k) fdd.scope p)
noncomputable def KG (fdd:d0) (body:List Stmt):Bool:=v1 body λs1 b=>v1 b λs2 b=>v1 b λs3 b=>v0 b&&((ML s1 λe=>kO e λp args ks p5=>rM p λq nm p2=>v0 ks&&(decide (aX "__init__"=nm)&&(iz q (λg=>decide (PE=g))&&(rS tabs D5 (.cons (.nm 0) (.cons (.nm 1) .nil)) fdd.scope args&&(decide (args.length<29)&&(p2.endLine==p5.line))))))&&
 (OT K fdd s2 1&&(OT K fdd s3 2&&(decide (fdd.scope.names.lookup PE=V9 .globalImplicit)&&D5.all λx=>decide (fdd.scope.names.lookup x=V9 .local)))))
noncomputable def M1 (x:Stmt):Option (List Stmt×List sD×List Stmt×List Stmt):=match x with| .Try a b c d _=>V9 (a,b,c,d)|_=>Wa
noncomputable def QA (x:Stmt):Option (Option Expr×Option Expr):=match x with| .Raise a b _=>V9 (a,b)|_=>Wa
noncomputable def rh (x:sD):Option Expr×Option Str×List Stmt:=match x with| .ExceptHandler a b c _=>(a,b,c)
noncomputable def NH (fdd:d0) (body:List Stmt):Bool:=v1 body λt b=>v1 b (λ_ r=>v0 r)&&vS (M1 t) λq=>v1 q.1 (λx r=>v0 r&&ML x λe=>kO e λp ps ks _=>iz p λy=>v0 ks&&(m7 fdd.scope y&&(uq K y (.ref (dY 53))&&rS tabs Pr (.cons (.nm 0) (.cons (.nm 1) .nil)) fdd.scope ps)))&&
 (v1 q.2.1 (λh _=>vS (rh h).1 (λg=>iz g λgN=>m7 fdd.scope gN&&uq K gN (.ref qB))&&(vN (rh h).2.1&&v1 (rh h).2.2 λx r=>v0 r&&zW x λo=>vS o λe=>qR e λc=>decide (cBool c=V9 Wb)))&&v0 q.2.2.2)
noncomputable def NK (fdd:d0) (body:List Stmt):Bool:=v1 body λ_ b=>v1 b λ_ b=>v1 b λ_ b=>v1 b λx _=>zY x λ_ b _=>v1 b λx r=>v0 r&&vS (QA x) λr=>vN r.2&&vS r.1 λe=>kO e λn as ks _=>v0 ks&&iz n λgN=>m7 fdd.scope gN&&(uq K gN (.ref qB)&&v1 as λa r=>v0 r&&qR a λc=>(cStr c).isSome)
noncomputable def Rf:Bool:=ui K (dY 87) (Sr K f87 Pr 2 (NH K))&&(ui K D8 (Sr K TW D5 3 (KG K))&&(ui K (dY 53) (λfdd=>zc fdd (NK K fdd))&&TZ K))
noncomputable def okA:Bool:=gdB K&&(gcB K&&(ui K (dY 11) (ptB K)&&Rf K))
noncomputable def Sf:Bool:=Bc K&&okA K
end
noncomputable def Fb (o:Option Obj):Bool:=vS o λo=>o.cls== .type "tuple"&&(o.dict==Wa&&(o.slots.isEmpty&&vS (Ox o.data) λx=>CG Kc x.1.toList))
noncomputable def okB (t:gK):Bool:=(Fb ((t.tree.get lc).bind alive)&&(decide (lc<t.n)&&(w5.all (λa=>decide (a<t.n))&&(!w5.contains lc&&(Be t.tree).all (λp=>p.2.cls != .type "list")))))
noncomputable def C0 (t:gK):Bool:=Sf (Be t.tree)&&okB t
noncomputable def ue:List Str:=mq ["_wall","ToolError","GrammarError","TableError","ParseError","Token","bits","ACCEPT","BARRED","END_tables","ERROR_tables","UNDEFINED_tables","Tables","Conflict","ParseTables","settle","RowMaker","default_of","without","fill","ERROR_driver","UNDEFINED_driver","Handler","Fault","Core","END_grammar","OWN_TERMINALS","Rule","Grammar","last_terminal","plain_grammar","spread","nullable","first_of","first_masks","follow_masks","transitive","slr_masks","NONE","LrState","Closer","advanced","kernels_behind","complete_rules","Automaton","Builder","build","_law_pen","_law_draw","_law_lean","_law_rights","_law_lefts","_law_is_refused","_law_word","_law_path","_law_backwards","_law_offered","_law_right_one","_law_left_one"]
noncomputable def vq:Program:=view Ap [67]
noncomputable def LV (w:World) (s:gK):=((DO (ji Ap.main.body) (kf w.params) s.abs.heap&&zK Ap s.abs.heap&&HE s.abs&&HC (kf w.params) s.abs.heap),openSeen vq ue (ji Ap.main.body) (λ_=>Wb) Wb s.abs)
theorem Um:∀w os,(fZ w os).map (λt=>Bc (Be t.tree))=V9 Wb:=by
 intro w os
 kernel_rfl
theorem Ul:∀w os,(fZ w os).map (λs=>(LV w s,okA (Be s.tree)&&okB s))=V9 ((Wb,SY vq ue),Wb):=by
 intro w os
 kernel_rfl
theorem Uk {α:Type} {β:Type _} {x:β} {f:α->β} {a b c:α->Bool} (hc:∀s,a s=Wb->b s=Wb->c s=Wb) {o:Option α} (h:o.map a=V9 Wb) (k:o.map (λs=>(f s,b s))=V9 (x,Wb)):o.map (λs=>(f s,c s))=V9 (x,Wb):=by
 induction o with
 |none=>exact nn h
 |some s=>exact congrArg V9 (Bi (congrArg (λz=>(z.getD (f s,b s)).1) k) (hc s (congrArg (λz=>z.getD Wb) h) (congrArg (λz=>(z.getD (f s,Wb)).2) k)))
theorem chk:∀w os,(fZ w os).map (λs=>(LV w s,C0 s))=V9 ((Wb,SY vq ue),Wb):=λw os=>Uk (λs h k=>by unfold C0 Sf;rw[h];exact k) (Um w os) (Ul w os)
end
end
section
theorem yw:(defOf vq (aX "law")).isSome=Wb:=by kernel_rfl
noncomputable def y1:DefRec×List (Str×Expr):=(defOf vq (aX "law")).get yw
theorem Kv:defOf vq row.row.name=V9 (y1.1,y1.2):=(Option.some_get yw).symm
theorem Ku:row.row.prog.theDef row.row.name=V9 (y1.1.params,y1.1.body,y1.1.scope):=by kernel_rfl
theorem N6:kwWritten? y1.1.params.kwonlyargs y1.1.params.kw_defaults=V9 y1.2:=by kernel_rfl
theorem N5:(chainsOk vq&&opensWell row.row.prog&&(frees row.row.toRowW&&row.row.within.isEmpty))=Wb:=by kernel_rfl
theorem FG:row.row.prog.bare:=⟨rfl,rfl,rfl,rfl,rfl,by decide+kernel⟩
theorem wY:row.row.toRowW.promised:=⟨[.list [.int 3,.int 1]],by decide+kernel,by decide+kernel⟩
end
end
namespace Q
section
section
variable {D:PD} {Φ:d9}
def pX (D:PD) (Φ:d9) (a:Ss) (Q:Fl->En->Hp->Prop):Fl->En->Hp->Prop:=λfl m H=>match fl with
 | .next=>eQ D Φ a m H Q
 |fl=>Q fl m H
def AB (D:PD) (Φ:d9) (a b:Ss) (m:En) (Q:Fl->En->Hp->Prop):Bool->Hp->Prop:=λx H=>match x with
 |true=>eQ D Φ a m H Q
 |false=>eQ D Φ b m H Q
def yO (D:PD) (Φ:d9) (t:T) (body:Ss) (m:En) (Q:Fl->En->Hp->Prop):List V->(Hp->Prop)->Hp->Prop:=
 λvs a H=>forL a t (λm H Q=>eQ D Φ body m H Q) vs m H Q
def whK (D:PD) (Φ:d9) (c:B) (body:Ss) (m:En) (H:Hp) (Q:Fl->En->Hp->Prop):Prop:=
 ∃n,qL (λm H Q=>m5 D Φ c m H Q) (λm H Q=>eQ D Φ body m H Q) n m H Q
def uz (D:PD) (Φ:d9) (c:E) (t:T) (d:Bs) (b:List Nat) (m:En) (Q:V->Hp->Prop):List V->(Hp->Prop)->Hp->Prop:=
 λvs a H=>ux a t (iD b m) (λm H Q=>jI D Φ d m H Q) (λm H Q=>ej D Φ c m H Q) vs [] H λxs H=>Q (.ref H.length) (H++[.list xs])
abbrev Oj (D:PD) (a:Nat) (Q:V->Hp->Prop):V->Hp->Prop:=λv H=>O1 D a Q v H
abbrev rQ (D:PD) (a:Nat) (v:V) (m:En) (Q:Fl->En->Hp->Prop):V->Hp->Prop:=λo H=>Cj D a v (λH=>Q .next m H) o H
def Ge (m:En) (Q:Fl->En->Hp->Prop):V->Hp->Prop:=λv H=>match v with| .ref _=>False| .tup _=>False| .ro _=>False|_=>Q .next m H
abbrev sj (D:PD) (Φ:d9) (c:Nat) (Q:V->Hp->Prop):List V->Hp->Prop:=λvs H=>DI D Φ c Q vs H
abbrev ud (D:PD) (Φ:d9) (f:Nat) (es:Es) (m:En) (Q:V->Hp->Prop):V->Hp->Prop:=λo H=>mY D Φ f (λH R=>jS D Φ es m H R) Q o H
def Me (Q:V->Hp->Prop) (H:Hp):Bool->Prop:=λx=>Q (.bool x) H
def Qf (Q:Bool->Hp->Prop):V->Hp->Prop:=λv H=>qA (truthy H v) λb=>Q b H
variable {m:En} {H:Hp}
theorem Tc {Q}:eQ D Φ .nil m H Q=Q .next m H:=rfl
theorem Sa {s a Q}:eQ D Φ (.cons s a) m H Q=wpS D Φ s m H (pX D Φ a Q):=rfl
theorem Pv {a Q}:pX D Φ a Q .next m H=eQ D Φ a m H Q:=rfl
theorem Pw {a Q}:pX D Φ a Q .cont m H=Q .cont m H:=rfl
theorem QZ {a Q v}:pX D Φ a Q (.ret v) m H=Q (.ret v) m H:=rfl
theorem TE {a b Q}:AB D Φ a b m Q Wb H=eQ D Φ a m H Q:=rfl
theorem TF {a b Q}:AB D Φ a b m Q Wc H=eQ D Φ b m H Q:=rfl
theorem Tj {e Q}:wpS D Φ (.expr e) m H Q=ej D Φ e m H (Ge m Q):=rfl
theorem PB {Q i}:Ge m Q (.int i) H=Q .next m H:=rfl
theorem Ol {Q}:Ge m Q .none H=Q .next m H:=rfl
theorem s_ret {e Q}:wpS D Φ (.ret e) m H Q=ej D Φ e m H λv H=>Q (.ret v) m H:=rfl
theorem Ti {Q}:wpS D Φ .E1 m H Q=Q (.ret .none) m H:=rfl
theorem s_asg {k e Q}:wpS D Φ (.asg k e) m H Q=ej D Φ e m H λv H=>Q .next (setM m k v) H:=rfl
theorem s_unp {k l e Q}:wpS D Φ (.CL k l e) m H Q=ej D Φ e m H λv H=>E8 v λa b=>Q .next (setM (setM m k a) l b) H:=rfl
theorem Th {o a e Q}:wpS D Φ (.dB o a e) m H Q=ej D Φ e m H λv H=>ej D Φ o m H (rQ D a v m Q):=rfl
theorem Tg {o i e Q}:wpS D Φ (.i6 o i e) m H Q=ej D Φ e m H λv H=>ej D Φ o m H λo H=>ej D Φ i m H λi H=>rP o i v H λH=>Q .next m H:=rfl
theorem s_ite {c a b Q}:wpS D Φ (.ite c a b) m H Q=m5 D Φ c m H (AB D Φ a b m Q):=rfl
theorem s_for {t it body Q}:wpS D Φ (.eP t it body) m H Q=HT D Φ it m H (yO D Φ t body m Q):=rfl
theorem Sc {c body Q}:wpS D Φ (.kU c body) m H Q=whK D Φ c body m H Q:=rfl
theorem Tk {Q}:wpS D Φ .cont m H Q=Q .cont m H:=rfl
theorem T9 {Q}:ej D Φ .none m H Q=Q .none H:=rfl
theorem Ue {b Q}:ej D Φ (.bool b) m H Q=Q (.bool b) H:=rfl
theorem e_int {b Q}:ej D Φ (.int b) m H Q=Q (.int b) H:=rfl
theorem e_str {b Q}:ej D Φ (.str b) m H Q=Q (.str b) H:=rfl
theorem e_nm {k Q}:ej D Φ (.nm k) m H Q=qA (getM m k) λv=>Q v H:=rfl
theorem e_gl {k Q}:ej D Φ (.gl k) m H Q=qA (D.glob k) λv=>Q v H:=rfl
theorem e_fld {o a Q}:ej D Φ (.fld o a) m H Q=ej D Φ o m H (Oj D a Q):=rfl
theorem e_sub {o i Q}:ej D Φ (.sub o i) m H Q=ej D Φ o m H λa H=>ej D Φ i m H λb H=>o7 a b H λv=>Q v H:=rfl
theorem T8 {o i Q}:ej D Φ (.xZ o i) m H Q=ej D Φ o m H λa H=>ej D Φ i m H λb H=>rn .oN a b H Q:=rfl
theorem T6 {o i Q}:ej D Φ (.wN o i) m H Q=ej D Φ o m H λa H=>ej D Φ i m H λb H=>rn .D3 a b H Q:=rfl
theorem T7 {o Q}:ej D Φ (.EO o) m H Q=ej D Φ o m H λa H=>E0 a H Q:=rfl
theorem e_bin {c a b Q}:ej D Φ (.bin c a b) m H Q=ej D Φ a m H λa H=>ej D Φ b m H λb H=>lU c a b H Q:=rfl
theorem e_neg {a Q}:ej D Φ (.neg a) m H Q=ej D Φ a m H λa H=>p9 a λi=>Q (.int (-i)) H:=rfl
def GZ (D:PD) (Φ:d9) (b:E) (m:En) (Q:V->Hp->Prop) (a:V) (H:Hp):Option Bool->Prop
  |some Wb=>ej D Φ b m H Q
  |some Wc=>Q a H
  |none=>False
theorem e_and {a b Q}:ej D Φ (.and a b) m H Q=ej D Φ a m H λa H=>GZ D Φ b m Q a H (truthy H a):=rfl
theorem VO {b Q a}:GZ D Φ b m Q a H (V9 Wb)=ej D Φ b m H Q:=rfl
theorem VP {b Q a}:GZ D Φ b m Q a H (V9 Wc)=Q a H:=rfl
theorem e_cmp {c a b Q}:ej D Φ (.cmp c a b) m H Q=ej D Φ a m H λa H=>ej D Φ b m H λb H=>iy c a b H (Me Q H):=rfl
theorem RA {Q x}:Me Q H x=Q (.bool x) H:=rfl
def yY (D:PD) (Φ:d9) (a b:E) (m:En) (Q:V->Hp->Prop):Bool->Hp->Prop:=λx H=>match x with|true=>ej D Φ a m H Q|false=>ej D Φ b m H Q
theorem e_ite {c a b Q}:ej D Φ (.ite c a b) m H Q=m5 D Φ c m H (yY D Φ a b m Q):=rfl
theorem Su {a b Q}:yY D Φ a b m Q Wb H=ej D Φ a m H Q:=rfl
theorem Sv {a b Q}:yY D Φ a b m Q Wc H=ej D Φ b m H Q:=rfl
theorem Ub {a Q}:ej D Φ (.list a) m H Q=jS D Φ a m H λvs H=>vs.length<=iH/\Q (.ref H.length) (H++[.list vs]):=rfl
theorem e_tup {a Q}:ej D Φ (.tup a) m H Q=jS D Φ a m H λvs H=>vs.length<=iH/\Q (.tup vs) H:=rfl
theorem Sw {Q}:ej D Φ .kx m H Q=Q (.ref H.length) (H++[.dict []]):=rfl
theorem Uc {b t it c a Q}:ej D Φ (.comp b t it c a) m H Q=HT D Φ it m H (uz D Φ b t c a m Q):=rfl
theorem Ud {f a Q}:ej D Φ (.call f a) m H Q=jS D Φ a m H λvs H=>Φ f vs H Q:=rfl
theorem e_new {c a Q}:ej D Φ (.new c a) m H Q=jS D Φ a m H (sj D Φ c Q):=rfl
theorem Ua {o f a Q}:ej D Φ (.cM o f a) m H Q=ej D Φ o m H (ud D Φ f a m Q):=rfl
theorem e_blt {b a Q}:ej D Φ (.blt b a) m H Q=jS D Φ a m H λvs H=>io b vs H Q:=rfl
theorem T3 {Q}:jS D Φ .nil m H Q=Q [] H:=rfl
theorem St {e a Q}:jS D Φ (.cons e a) m H Q=ej D Φ e m H λv H=>jS D Φ a m H λvs H=>Q (v::vs) H:=rfl
theorem b_not {b Q}:m5 D Φ (.not b) m H Q=m5 D Φ b m H λx H=>Q (!x) H:=rfl
def uH (D:PD) (Φ:d9) (b:B) (m:En) (Q:Bool->Hp->Prop):Bool->Hp->Prop:=λx H=>match x with|true=>m5 D Φ b m H Q|false=>Q Wc H
def Dy (D:PD) (Φ:d9) (b:B) (m:En) (Q:Bool->Hp->Prop):Bool->Hp->Prop:=λx H=>match x with|false=>m5 D Φ b m H Q|true=>Q Wb H
theorem b_and {a b Q}:m5 D Φ (.and a b) m H Q=m5 D Φ a m H (uH D Φ b m Q):=rfl
theorem b_or {a b Q}:m5 D Φ (.or a b) m H Q=m5 D Φ a m H (Dy D Φ b m Q):=rfl
theorem SF {b Q}:uH D Φ b m Q Wb H=m5 D Φ b m H Q:=rfl
theorem SG {b Q}:uH D Φ b m Q Wc H=Q Wc H:=rfl
theorem Ur {b Q}:Dy D Φ b m Q Wb H=Q Wb H:=rfl
theorem Us {b Q}:Dy D Φ b m Q Wc H=m5 D Φ b m H Q:=rfl
def bK (Q:Bool->Hp->Prop) (H:Hp):Bool->Prop:=λx=>Q x H
theorem bK_eq {Q x}:bK Q H x=Q x H:=rfl
theorem b_cmp {c a b Q}:m5 D Φ (.cmp c a b) m H Q=ej D Φ a m H λa H=>ej D Φ b m H λb H=>iy c a b H (bK Q H):=rfl
def B3 (D:PD) (Φ:d9) (a:Lv) (b:V) (c:E) (m:En) (Q:Bool->Hp->Prop) (H:Hp):Bool->Prop:=λx=>match x with
  |true=>ej D Φ c m H λc H=>iy a b c H (bK Q H)
  |false=>Q Wc H
theorem Sy {a b c Q}:B3 D Φ a b c m Q H Wb=ej D Φ c m H λc H=>iy a b c H (bK Q H):=rfl
theorem Sz {a b c Q}:B3 D Φ a b c m Q H Wc=Q Wc H:=rfl
theorem Uv {e d a b c Q}:m5 D Φ (.Gv e d a b c) m H Q=ej D Φ a m H λa H=>ej D Φ b m H λb H=>iy e a b H (B3 D Φ d b c m Q H):=rfl
theorem b_tr {e Q}:m5 D Φ (.tr e) m H Q=ej D Φ e m H (Qf Q):=rfl
theorem Uq {Q}:jI D Φ .nil m H Q=Q Wb H:=rfl
def OP (D:PD) (Φ:d9) (bs:Bs) (m:En) (Q:Bool->Hp->Prop):Bool->Hp->Prop:=λx H=>match x with|true=>jI D Φ bs m H Q|false=>Q Wc H
theorem SD {b bs Q}:jI D Φ (.cons b bs) m H Q=m5 D Φ b m H (OP D Φ bs m Q):=rfl
theorem bsK_t {b Q}:OP D Φ b m Q Wb H=jI D Φ b m H Q:=rfl
theorem bsK_f {b Q}:OP D Φ b m Q Wc H=Q Wc H:=rfl
def Py (Q:List V->(Hp->Prop)->Hp->Prop) (H:Hp):List V->(Hp->Prop)->Prop:=λvs l=>Q vs l H
theorem TG {Q vs l}:Py Q H vs l=Q vs l H:=rfl
theorem Sq {e Q}:HT D Φ (.plain e) m H Q=ej D Φ e m H λv H=>w9 Wc Wc v H (Py Q H):=rfl
theorem i_rev {e Q}:HT D Φ (.rev e) m H Q=ej D Φ e m H λv H=>w9 Wb Wc v H (Py Q H):=rfl
theorem TJ {e Q}:HT D Φ (.enum e) m H Q=ej D Φ e m H λv H=>w9 Wc Wb v H (Py Q H):=rfl
theorem So {e Q}:HT D Φ (.range e) m H Q=ej D Φ e m H λv H=>wP v (Py Q H):=rfl
theorem R9 {Q b}:Qf Q (.bool b) H=Q b H:=rfl
theorem S9 {Q i}:Qf Q (.int i) H=Q (decide (i≠0)) H:=rfl
theorem LO {b}:truthy H (.bool b)=V9 b:=rfl
theorem truthy_int {i}:truthy H (.int i)=V9 (decide (i≠0)):=rfl
theorem li {a b Q p} [Decidable p] (h:p) (K:eQ D Φ a m H Q):AB D Φ a b m Q (decide p) H:=by rw[decide_eq_true h];exact K
theorem jg {a b Q p} [Decidable p] (h:¬p) (K:eQ D Φ b m H Q):AB D Φ a b m Q (decide p) H:=by rw[decide_eq_false h];exact K
theorem kv {a b Q p} [Decidable p] (h:p) (K:eQ D Φ b m H Q):AB D Φ a b m Q (!decide p) H:=by rw[decide_eq_true h];exact K
theorem nT {a b Q p} [Decidable p] (h:¬p) (K:eQ D Φ a m H Q):AB D Φ a b m Q (!decide p) H:=by rw[decide_eq_false h];exact K
theorem xn {a b Q p} [Decidable p] (h:p) (K:ej D Φ a m H Q):yY D Φ a b m Q (decide p) H:=by rw[decide_eq_true h];exact K
theorem xo {a b Q p} [Decidable p] (h:¬p) (K:ej D Φ b m H Q):yY D Φ a b m Q (decide p) H:=by rw[decide_eq_false h];exact K
theorem zj {b Q p} [Decidable p] (h:p) (K:m5 D Φ b m H Q):uH D Φ b m Q (decide p) H:=by rw[decide_eq_true h];exact K
theorem zk {b Q p} [Decidable p] (h:¬p) (K:Q Wc H):uH D Φ b m Q (decide p) H:=by rw[decide_eq_false h];exact K
theorem Cg {b Q p} [Decidable p] (h:p) (K:Q Wc H):uH D Φ b m Q (!decide p) H:=by rw[decide_eq_true h];exact K
theorem Ch {b Q p} [Decidable p] (h:¬p) (K:m5 D Φ b m H Q):uH D Φ b m Q (!decide p) H:=by rw[decide_eq_false h];exact K
theorem QH {b Q p} [Decidable p] (h:p) (K:Q Wb H):Dy D Φ b m Q (decide p) H:=by rw[decide_eq_true h];exact K
theorem Ke {b Q p} [Decidable p] (h:¬p) (K:m5 D Φ b m H Q):Dy D Φ b m Q (decide p) H:=by rw[decide_eq_false h];exact K
theorem Fh {b Q p} [Decidable p] (h:p) (K:m5 D Φ b m H Q):Dy D Φ b m Q (!decide p) H:=by rw[decide_eq_true h];exact K
theorem Lh {b Q p} [Decidable p] (h:p) (K:jI D Φ b m H Q):OP D Φ b m Q (decide p) H:=by rw[decide_eq_true h];exact K
theorem Li {b Q p} [Decidable p] (h:¬p) (K:Q Wc H):OP D Φ b m Q (decide p) H:=by rw[decide_eq_false h];exact K
theorem Rh {b Q a p} [Decidable p] (h:p) (K:ej D Φ b m H Q):GZ D Φ b m Q a H (V9 (decide p)):=by rw[decide_eq_true h];exact K
theorem T5 {b Q a p} [Decidable p] (h:¬p) (K:Q a H):GZ D Φ b m Q a H (V9 (decide p)):=by rw[decide_eq_false h];exact K
theorem Rx {a b c Q p} [Decidable p] (h:p) (K:ej D Φ c m H λc H=>iy a b c H (bK Q H)):B3 D Φ a b c m Q H (decide p):=by rw[decide_eq_true h];exact K
theorem qe {t body Q a}:yO D Φ t body m Q [] a H=(a H/\Q .next m H):=rfl
theorem Dj {t body Q v vs a}:yO D Φ t body m Q (v::vs) a H=(a H/\qA (jN t v m) λm'=>eQ D Φ body m' H λfl c b=>match fl with| .ret r=>Q (.ret r) c b|_=>yO D Φ t body c Q vs a b):=rfl
end
abbrev Ext (H H':Hp):Prop:=∀i:Nat,(H[i]?).isSome=Wb->H'[i]? =H[i]?
theorem Ext.yc {H:Hp}:Ext H H:=λ_ _=>rfl
theorem Ext.trans {A B C:Hp} (h:Ext A B) (k:Ext B C):Ext A C:=λi hi=>by rw[k i (by rw[h i hi];exact hi),h i hi]
theorem Ext.get {A B:Hp} (h:Ext A B) {i:Nat} {o:O} (k:A[i]? =V9 o):B[i]? =V9 o:=by rw[h i (by rw[k];rfl),k]
theorem Ext.len {A B:Hp} (h:Ext A B):A.length<=B.length:=by
 injection 0 A B with h;rcases cZ B.length A.length with q|q
 ·haveI a:=h (A.length-1) (by rw[aF (by omega)];rfl);rw[aF (by omega:A.length-1<A.length),bQ (by omega)]at a;exact nn a
 ·exact q
theorem Ext.app {A B:Hp} (h:Ext A B) {l:Hp}:Ext A (B++l):=h.trans λi hi=>by
 rw[bH (by
  rcases cZ i B.length with q|q
  ·exact q
  ·have hi:=(bQ q)▸hi;cases hi)]
theorem Ext.put {A B:Hp} (h:Ext A B) {r:Nat} (a:A.length<=r) {o:O}:Ext A (B.set r o):=λi hi=>by
 haveI:i<A.length:=by
  rcases cZ i A.length with q|q
  ·exact q
  ·have hi:=(bQ q)▸hi;cases hi
 rw[eJ (j7 (ff this a)),h i hi]
theorem ez {H:Hp} {i:Nat} {o:O} (h:H[i]? =V9 o):i<H.length:=by
 rcases cZ i H.length with q|q
 ·exact q
 ·rw[bQ q]at h;exact nn h
theorem aN (H l:Hp):Ext H (H++l):=Ext.yc.app
theorem Ce {H l:Hp} {i:Nat} (h:(H[i]?).isSome=Wb):(H++l)[i]? =H[i]? :=aN H l i h
theorem aR {H l:Hp}:(H++l)[H.length]? =l[0]? :=by rw[bR (aK _),eS]
theorem fD {H l:Hp} {k:Nat}:(H++l)[H.length+k]? =l[k]? :=by rw[bR (fG _ _),eO]
theorem IE {H l:Hp} {o:O}:(H++l).set H.length o=H++l.set 0 o:=by simp
theorem cH {H:Hp} {i:Nat} {o:O} (h:(H[i]?).isSome=Wb):(H.set i o)[i]? =V9 o:=by
 rw[nq];rcases cZ i H.length with q|q
 ·exact q
 ·have h:=(bQ q)▸h;cases h
theorem a8 {H:Hp} {i j:Nat} {o:O} (h:i≠j):(H.set i o)[j]? =H[j]? :=eJ h
theorem bT1 {k:Nat} {v:V} {m:En}:jN (.one k) v m=V9 (setM m k v):=rfl
theorem bT2 {k l:Nat} {a b:V} {m:En}:jN (.two k l) (.tup [a,b]) m=V9 (setM (setM m k a) l b):=rfl
noncomputable def kP (a:Nat) (l:En):En:=V9 (.ref a)::l
noncomputable def eI (i:Int) (l:En):En:=V9 (.int i)::l
noncomputable def xM (a b:Nat) (l:En):En:=kP a (kP b l)
noncomputable def uZ (a b c:Nat) (l:En):En:=kP a (xM b c l)
noncomputable def D9 (a b c d:Nat) (l:En):En:=kP a (uZ b c d l)
noncomputable def PF (a b c d e:Nat) (l:En):En:=kP a (D9 b c d e l)
noncomputable def Sx (a b c d e f:Nat) (l:En):En:=kP a (PF b c d e f l)
theorem eRf {a:Nat} {l:En}:(V9 (V.ref a)::l:En)=kP a l:=rfl
theorem eIf {a:Int} {l:En}:(V9 (V.int a)::l:En)=eI a l:=rfl
theorem gR0 {a:Nat} {l:En}:getM (kP a l) 0=V9 (.ref a):=rfl
theorem gRs {a:Nat} {l:En} {k:Nat}:getM (kP a l) (k+1)=getM l k:=rfl
theorem gI0 {a:Int} {l:En}:getM (eI a l) 0=V9 (.int a):=rfl
theorem gIs {a:Int} {l:En} {k:Nat}:getM (eI a l) (k+1)=getM l k:=rfl
theorem hR0 {a:Nat} {l:En} {v:V}:setM (kP a l) 0 v=V9 v::l:=rfl
theorem hRs {a:Nat} {l:En} {k:Nat} {v:V}:setM (kP a l) (k+1) v=kP a (setM l k v):=rfl
theorem hI0 {a:Int} {l:En} {v:V}:setM (eI a l) 0 v=V9 v::l:=rfl
theorem hIs {a:Int} {l:En} {k:Nat} {v:V}:setM (eI a l) (k+1) v=eI a (setM l k v):=rfl
theorem gR2 {a b k:Nat} {l:En}:getM (xM a b l) k=getM (kP a (kP b l)) k:=rfl
theorem gR3 {a b c k:Nat} {l:En}:getM (uZ a b c l) k=getM (kP a (xM b c l)) k:=rfl
theorem gR4 {a b c d k:Nat} {l:En}:getM (D9 a b c d l) k=getM (kP a (uZ b c d l)) k:=rfl
theorem gR5 {a b c d e k:Nat} {l:En}:getM (PF a b c d e l) k=getM (kP a (D9 b c d e l)) k:=rfl
theorem gR6 {a b c d e f k:Nat} {l:En}:getM (Sx a b c d e f l) k=getM (kP a (PF b c d e f l)) k:=rfl
theorem hR2 {a b k:Nat} {l:En} {v:V}:setM (xM a b l) (k+2) v=xM a b (setM l k v):=rfl
theorem hR3 {a b c k:Nat} {l:En} {v:V}:setM (uZ a b c l) (k+3) v=uZ a b c (setM l k v):=rfl
theorem hR4 {a b c d k:Nat} {l:En} {v:V}:setM (D9 a b c d l) (k+4) v=D9 a b c d (setM l k v):=rfl
theorem hR5 {a b c d e k:Nat} {l:En} {v:V}:setM (PF a b c d e l) (k+5) v=PF a b c d e (setM l k v):=rfl
theorem hR6 {a b c d e f k:Nat} {l:En} {v:V}:setM (Sx a b c d e f l) (k+6) v=Sx a b c d e f (setM l k v):=rfl
theorem getM0 {x:Option V} {l:En}:getM (x::l) 0=x:=rfl
theorem getMs {x:Option V} {l:En} {k:Nat}:getM (x::l) (k+1)=getM l k:=rfl
theorem setM0 {x:Option V} {l:En} {v:V}:setM (x::l) 0 v=V9 v::l:=rfl
theorem setMs {x:Option V} {l:En} {k:Nat} {v:V}:setM (x::l) (k+1) v=x::setM l k v:=rfl
theorem F7 {D:PD} {Φ:d9} {t:T} {body:Ss} {m:En} {Q:Fl->En->Hp->Prop} {vs:List V} {b:Hp->Prop} {H:Hp}
  (a:Nat->En->Hp->Prop) (n:a 0 m H) (l:∀k m H,a k m H->b H)
  (step:∀k v,vs[k]? =V9 v->∀m H,a k m H->∀K:En->Hp->Prop,(∀m' e,a (k+1) m' e->K m' e)->
   qA (jN t v m) λm'=>eQ D Φ body m' H (λfl d c=>match fl with| .ret r=>Q (.ret r) d c|_=>K d c))
  (c:∀m H,a vs.length m H->Q .next m H):yO D Φ t body m Q vs b H:=by
 haveI d:∀(ws:List V) (k:Nat),vs.drop k=ws->k<=vs.length->∀m H,a k m H->forL b t (λm H Q=>eQ D Φ body m H Q) ws m H Q:=by
  intro ws
  induction ws with
  |nil=>
   intro k f h m H d;have:k=vs.length:=by haveI:=congrArg iS f;simp at this;omega
   subst this;exact⟨l _ _ _ d,c _ _ d⟩
  |cons w ws o=>
   intro k f h m H d;have j:vs[k]? =V9 w:=by haveI:=congrArg (·[0]?) f;simpa using this
   haveI hd:vs.drop (k+1)=ws:=by haveI:=congrArg (S4 1) f;simpa[fA]using this
   haveI i:k<vs.length:=by
    rcases cZ k vs.length with q|q
    ·exact q
    ·rw[bQ q]at j;exact nn j
   exact⟨l _ _ _ d,step k w j m H d _ (λm' e g=>o (k+1) hd i m' e g)⟩
 exact d vs 0 (by rfl) (aP _) m H n
def jL (Q:Fl->En->Hp->Prop) (K:En->Hp->Prop):Fl->En->Hp->Prop:=λfl m H=>match fl with| .ret r=>Q (.ret r) m H|_=>K m H
theorem N1 {Q K} {m:En} {H:Hp}:jL Q K .next m H=K m H:=rfl
theorem N2 {Q K} {m:En} {H:Hp}:jL Q K .cont m H=K m H:=rfl
theorem Pt {Q K v} {m:En} {H:Hp}:jL Q K (.ret v) m H=Q (.ret v) m H:=rfl
theorem cQ {D:PD} {Φ:d9} {σ:Type} {t:T} {body:Ss} {Q:Fl->En->Hp->Prop} {vs:List V} {a:Hp->Prop} {H:Hp} {m:En}
  (env:σ->En) (I:Nat->σ->Hp->Prop) (d:σ) (i:m=env d) (f:I 0 d H) (g:∀k s H,I k s H->a H)
  (step:∀k v,vs[k]? =V9 v->∀s H,I k s H->∀K:En->Hp->Prop,(∀s' c,I (k+1) s' c->K (env s') c)->
   qA (jN t v (env s)) λm'=>eQ D Φ body m' H (jL Q K))
  (b:∀s H,I vs.length s H->Q .next (env s) H):yO D Φ t body m Q vs a H:=by
 refine F7 (λk e H=>∃s,e=env s/\I k s H) ⟨d,i,f⟩ ?_ ?_ ?_
 ·rintro k e H ⟨s, -,h⟩;exact g k s H h
 ·rintro k v j e H ⟨s,rfl,h⟩ K e;exact step k v j s H h K (λs' c h'=>e _ _ ⟨s',rfl,h'⟩)
 ·rintro e H ⟨s,rfl,h⟩;exact b s H h
def yB (D:PD) (Φ:d9) (c:E) (m:En) (a:List V) (K:List V->Hp->Prop):Bool->Hp->Prop:=λb H=>match b with
 |true=>ej D Φ c m H λx H=>K (a++[x]) H
 |false=>K a H
theorem Sm {D:PD} {Φ:d9} {b:E} {m:En} {a:List V} {K:List V->Hp->Prop} {H:Hp}:yB D Φ b m a K Wb H=ej D Φ b m H λx H=>K (a++[x]) H:=rfl
theorem Sn {D:PD} {Φ:d9} {b:E} {m:En} {a:List V} {K:List V->Hp->Prop} {H:Hp}:yB D Φ b m a K Wc H=K a H:=rfl
theorem v9 {D:PD} {Φ:d9} {g:E} {t:T} {h:Bs} {f:List Nat} {m:En} {Q:V->Hp->Prop} {vs:List V} {d:Hp->Prop} {H:Hp}
  (c:Nat->List V->Hp->Prop) (r:c 0 [] H) (p:∀k a H,c k a H->d H)
  (step:∀k v,vs[k]? =V9 v->∀e H,c k e H->∀K:List V->Hp->Prop,(∀b a,c (k+1) b a->K b a)->
   qA (jN t v (iD f m)) λm'=>jI D Φ h m' H (λb a=>match b with
    |true=>ej D Φ g m' a λx i=>K (e++[x]) i
    |false=>K e a))
  (b:∀xs H,c vs.length xs H->Q (.ref H.length) (H++[.list xs])):uz D Φ g t h f m Q vs d H:=by
 haveI a:∀(ws:List V) (k:Nat),vs.drop k=ws->k<=vs.length->∀a H,c k a H->ux d t (iD f m) (λm H Q=>jI D Φ h m H Q) (λm H Q=>ej D Φ g m H Q) ws a H λxs H=>Q (.ref H.length) (H++[.list xs]):=by
  intro ws
  induction ws with
  |nil=>
   intro k i l m H e;have:k=vs.length:=by haveI:=congrArg iS i;simp at this;omega
   subst this;exact⟨p _ _ _ e,b _ _ e⟩
  |cons w ws s=>
   intro k i l m H e;have o:vs[k]? =V9 w:=by haveI:=congrArg (·[0]?) i;simpa using this
   haveI hd:vs.drop (k+1)=ws:=by haveI:=congrArg (S4 1) i;simpa[fA]using this
   haveI n:k<vs.length:=by
    rcases cZ k vs.length with q|q
    ·exact q
    ·rw[bQ q]at o;exact nn o
   exact⟨p _ _ _ e,step k w o m H e _ (λm' a j=>s (k+1) hd n m' a j)⟩
 exact a vs 0 (by rfl) (aP _) [] H r
theorem jb {D:PD} {Φ:d9} {d:E} {t:T} {e:Bs} {c:List Nat} {m:En} {Q:V->Hp->Prop} {vs:List V} {b:Hp->Prop} {H:Hp}
  (I:Nat->List V->Hp->Prop) (h:I 0 [] H) (i:∀k a H,I k a H->b H)
  (step:∀k v,vs[k]? =V9 v->∀a H,I k a H->∀K:List V->Hp->Prop,(∀g f,I (k+1) g f->K g f)->
   qA (jN t v (iD c m)) λm'=>jI D Φ e m' H (yB D Φ d m' a K))
  (a:∀xs H,I vs.length xs H->Q (.ref H.length) (H++[.list xs])):uz D Φ d t e c m Q vs b H:=
 v9 I h i step a
theorem hX {D:PD} {Φ:d9} {e:E} {t:T} {c:List Nat} {m:En} {Q:V->Hp->Prop} {vs:List V} {b:Hp->Prop} {H:Hp}
  (f:V->V) (j:b H)
  (step:∀v,v∈vs->∀K:V->Hp->Prop,K (f v) H->qA (jN t v (iD c m)) λm'=>ej D Φ e m' H K)
  (d:Q (.ref H.length) (H++[.list (vs.map f)])):uz D Φ e t .nil c m Q vs b H:=by
 refine v9 (λk a g=>g=H/\a=(vs.take k).map f) ⟨rfl,by rfl⟩ (by rintro _ _ _ ⟨rfl, -⟩;exact j) ?_ ?_
 ·rintro k v h i g ⟨rfl,rfl⟩ K a;exact step v (aO h) (λx H=>K ((vs.take k).map f++[x]) H) (a _ _ ⟨rfl,by rw[bX,h];simp⟩)
 ·rintro xs g ⟨rfl,rfl⟩;rw[bZ];exact d
def P9 (D:PD) (Φ:d9) (body:Ss) (m:En) (Q:Fl->En->Hp->Prop) (K:En->Hp->Prop):Bool->Hp->Prop:=λb H=>match b with
 |false=>Q .next m H
 |true=>eQ D Φ body m H (jL Q K)
section
variable {D:PD} {Φ:d9} {body:Ss} {m:En} {Q:Fl->En->Hp->Prop} {K:En->Hp->Prop} {H:Hp}
theorem HU {p:Prop} [Decidable p] (h:p) (a:eQ D Φ body m H (jL Q K)):P9 D Φ body m Q K (decide p) H:=by rw[decide_eq_true h];exact a
theorem HV {p:Prop} [Decidable p] (h:¬p) (a:Q .next m H):P9 D Φ body m Q K (decide p) H:=by rw[decide_eq_false h];exact a
theorem wbK_t:P9 D Φ body m Q K Wb H=eQ D Φ body m H (jL Q K):=rfl
theorem wbK_f:P9 D Φ body m Q K Wc H=Q .next m H:=rfl
end
theorem qM {D:PD} {Φ:d9} {σ:Type} {c:B} {body:Ss} {m:En} {H:Hp} {Q:Fl->En->Hp->Prop}
  (env:σ->En) (I:Nat->σ->Hp->Prop) (b:Nat) (e:σ) (l:m=env e) (g:I b e H)
  (step:∀k s H,I k s H->∀K:En->Hp->Prop,(∀j s' a,j<k->I j s' a->K (env s') a)->m5 D Φ c (env s) H (P9 D Φ body (env s) Q K)):whK D Φ c body m H Q:=by
 refine⟨b+1,?_⟩;haveI a:∀(n k:Nat),k<n->∀s H,I k s H->qL (λm H Q=>m5 D Φ c m H Q) (λm H Q=>eQ D Φ body m H Q) n (env s) H Q:=by
  intro n
  induction n with
  |zero=>intro k f;omega
  |succ n o=>intro k f s H h;exact step k s H h (λm' a=>qL (λm H Q=>m5 D Φ c m H Q) (λm H Q=>eQ D Φ body m H Q) n m' a Q) (λj s' a i d=>o j (ff i (t2 f)) s' a d)
 rw[l];exact a (b+1) b (ts) e H g
end
section
def F:Nat->d9:=wn pd hH
def pf (Q:V->Hp->Prop):Fl->En->Hp->Prop:=λfl _ a=>Q (Am fl) a
theorem Qz {Q:V->Hp->Prop} {v:V} {m:En} {H:Hp}:pf Q (.ret v) m H=Q v H:=rfl
theorem Po {Q:V->Hp->Prop} {m:En} {H:Hp}:pf Q .next m H=Q .none H:=rfl
abbrev Run (f:Nat) (b:Ss) (m:En) (as:List V):Prop:=∀{n H Q},eQ pd (F n) b m H (pf Q)->F (n+1) f as H Q
section
variable {a0 a1 a2 a3 a4 a5 a6 a7:V}
theorem NF:Run 0 b0 [a0,a1,a2,a3,V.none] [a0,a1,a2,a3]:=id
theorem NE:Run 1 b1 [a0,Wa,Wa,Wa] [a0]:=id
theorem ND:Run 2 b2 [a0,a1,a2,a3,a4,a5,Wa] [a0,a1,a2,a3,a4,a5]:=id
theorem NC:Run 3 b3 [a0,a1] [a0,a1]:=id
theorem NB:Run 4 b4 [a0,a1] [a0,a1]:=id
theorem NA:Run 5 b5 [a0,a1] [a0,a1]:=id
theorem Nz:Run 6 b6 [a0,a1] [a0,a1]:=id
theorem Ny:Run 7 b7 [a0,a1] [a0,a1]:=id
theorem Nx:Run 8 b8 [a0,a1,a2,Wa] [a0,a1,a2]:=id
theorem Nw:Run 9 b9 [a0,a1,Wa,Wa,Wa] [a0,a1]:=id
theorem J3:Run 10 VI [a0,a1,Wa] [a0,a1]:=id
theorem J2:Run 11 VH [a0,a1,a2,a3,a4,a5,a6,a7,Wa,Wa,Wa,Wa] [a0,a1,a2,a3,a4,a5,a6,a7]:=id
theorem J1:Run 12 VG [a0,a1,a2] [a0,a1,a2]:=id
theorem J0:Run 13 VF [a0,a1,a2] [a0,a1,a2]:=id
theorem JZ:Run 15 VE [a0,a1,a2,a3,Wa,Wa] [a0,a1,a2,a3]:=id
theorem JY:Run 16 VD [a0,Wa,Wa,Wa] [a0]:=id
theorem JX:Run 17 VC [a0,Wa,Wa,Wa] [a0]:=id
theorem JW:Run 18 VB [a0,a1,Wa,Wa,Wa,Wa,Wa,Wa] [a0,a1]:=id
theorem JV:Run 19 VA [a0,Wa,Wa,Wa,Wa] [a0]:=id
theorem JU:Run 20 Vz [a0,a1,Wa] [a0,a1]:=id
theorem JT:Run 21 Vy [a0,a1,a2,(.str [108,97,108,114]:V),Wa,Wa,Wa,Wa,Wa,Wa,Wa,Wa,Wa] [a0,a1,a2]:=id
theorem JS:Run 22 Vx [a0,a1] [a0,a1]:=id
theorem JR:Run 23 Vw [a0,a1,a2,a3] [a0,a1,a2,a3]:=id
theorem JQ:Run 24 Vv [a0,a1,a2,a3,a4] [a0,a1,a2,a3,a4]:=id
theorem JP:Run 25 Vu [a0,a1,V.none,(.int 5000:V)] [a0,a1]:=id
theorem JO:Run 26 Vt [a0] [a0]:=id
theorem JN:Run 27 Vs [a0,a1,Wa] [a0,a1]:=id
theorem JM:Run 28 Vr [a0] [a0]:=id
theorem JL:Run 29 Vq [a0,a1] [a0,a1]:=id
theorem JK:Run 30 Vp [a0,a1] [a0,a1]:=id
theorem JJ:Run 31 Vo [a0,a1,Wa] [a0,a1]:=id
theorem JI:Run 32 Vn [a0,a1] [a0,a1]:=id
theorem JH:Run 33 Vm [a0,a1,a2] [a0,a1,a2]:=id
theorem JG:Run 34 Vl [a0,Wa,Wa,Wa,Wa] [a0]:=id
theorem JF:Run 35 Vk [a0,a1] [a0,a1]:=id
theorem JE:Run 36 Vj [a0,a1] [a0,a1]:=id
theorem JD:Run 37 Vi [a0,a1,Wa,Wa,Wa,Wa] [a0,a1]:=id
theorem JC:Run 38 Vh [a0,a1,a2] [a0,a1,a2]:=id
theorem JB:Run 39 Vg [a0,a1,a2,Wa] [a0,a1,a2]:=id
theorem JA:Run 40 Vf [a0] [a0]:=id
theorem Jz:Run 41 Ve [a0,Wa,Wa] [a0]:=id
theorem Jy:Run 42 Vd [a0,a1] [a0,a1]:=id
theorem Jx:Run 43 Vc [a0,a1,a2,a3,a4,V.none,(.int 0:V),(.int 0:V)] [a0,a1,a2,a3,a4]:=id
theorem Jw:Run 44 Vb [a0,a1,a2,a3,a4,a5,a6,Wa,Wa] [a0,a1,a2,a3,a4,a5,a6]:=id
theorem Jv:Run 45 Va [a0] [a0]:=id
theorem Ju:Run 46 U9 [a0,a1] [a0,a1]:=id
theorem Jt:Run 47 U8 [a0,a1] [a0,a1]:=id
theorem Js:Run 48 U7 [a0,a1,a2] [a0,a1,a2]:=id
theorem Jr:Run 49 U6 [a0,a1] [a0,a1]:=id
theorem Jq:Run 50 U5 [a0,a1] [a0,a1]:=id
theorem Jp:Run 51 U4 [a0,a1,Wa,Wa] [a0,a1]:=id
theorem Jo:Run 52 U3 [a0,a1,Wa,Wa] [a0,a1]:=id
theorem Jn:Run 53 U2 [a0,a1,Wa,Wa,Wa,Wa,Wa,Wa,Wa,Wa,Wa] [a0,a1]:=id
theorem Jm:Run 54 U1 [a0,a1,Wa,Wa,Wa,Wa,Wa,Wa,Wa,Wa,Wa,Wa] [a0,a1]:=id
theorem Jl:Run 55 U0 [a0] [a0]:=id
theorem Jk:Run 56 UZ [a0,a1,a2,Wa,Wa] [a0,a1,a2]:=id
theorem Jj:Run 57 UY [a0,Wa,Wa,Wa,Wa,Wa,Wa] [a0]:=id
theorem Ji:Run 58 UX [a0,Wa,Wa,Wa,Wa,Wa,Wa,Wa] [a0]:=id
theorem Jh:Run 59 UW [a0,Wa,Wa,Wa] [a0]:=id
theorem Jg:Run 60 UV [a0,Wa,Wa,Wa,Wa] [a0]:=id
theorem Jf:Run 61 UU [a0,a1,a2,a3] [a0,a1,a2,a3]:=id
theorem Je:Run 62 UT [a0,a1,Wa,Wa] [a0,a1]:=id
theorem Jd:Run 63 US [a0,a1,Wa,Wa,Wa] [a0,a1]:=id
theorem Jc:Run 64 UR [a0,a1,Wa,Wa,Wa,Wa] [a0,a1]:=id
theorem Jb:Run 65 UQ [a0,a1] [a0,a1]:=id
theorem Ja:Run 66 UP [a0,a1] [a0,a1]:=id
theorem I9:Run 67 UO [a0,a1,Wa,Wa,Wa,Wa] [a0,a1]:=id
theorem I8:Run 68 UN [a0,a1,Wa,Wa] [a0,a1]:=id
theorem I7:Run 69 UM [a0,a1,a2] [a0,a1,a2]:=id
theorem I6:Run 70 UL [a0,a1] [a0,a1]:=id
theorem I5:Run 71 UK [a0,a1,a2] [a0,a1,a2]:=id
theorem I4:Run 72 UJ [a0,a1,Wa,Wa] [a0,a1]:=id
theorem I3:Run 73 UI [a0,Wa] [a0]:=id
theorem I2:Run 74 UH [a0] [a0]:=id
theorem I1:Run 75 UG [a0,Wa,Wa] [a0]:=id
theorem I0:Run 76 UF [a0,a1,Wa] [a0,a1]:=id
theorem IZ:Run 77 UE [a0,a1,Wa,Wa,Wa,Wa,Wa,Wa,Wa] [a0,a1]:=id
theorem IY:Run 78 UD [a0,a1,Wa,Wa,Wa,Wa] [a0,a1]:=id
theorem IX:Run 79 UC [a0,a1,Wa,Wa,Wa,Wa] [a0,a1]:=id
theorem IW:Run 80 UB [a0,a1,Wa,Wa,Wa,Wa,Wa] [a0,a1]:=id
theorem IV:Run 81 UA [a0,a1,Wa,Wa,Wa] [a0,a1]:=id
theorem IU:Run 82 Uz [a0,a1,a2,Wa,Wa,Wa,Wa,Wa,Wa] [a0,a1,a2]:=id
theorem IT:Run 83 Uy [a0,a1,a2,Wa,Wa,Wa] [a0,a1,a2]:=id
theorem IS:Run 84 Ux [a0,a1,a2,a3,Wa,Wa,Wa] [a0,a1,a2,a3]:=id
theorem IR:Run 85 Uw [a0,a1,a2,a3,a4,Wa,Wa,Wa,Wa,Wa,Wa] [a0,a1,a2,a3,a4]:=id
end
end
section
section
variable {H:Hp}
theorem Up {i j Q}:lU .sub (.int i) (.int j) H Q=Q (.int (i-j)) H:=rfl
theorem lf {i j:Nat} {Q:V->Hp->Prop} (K:Q (.int (i|||j:Nat)) H):lU .bor (.int i) (.int j) H Q:=iJ.bor K
theorem Kf {i j:Nat} {Q:V->Hp->Prop} (K:Q (.int (i&&& j:Nat)) H):lU .band (.int i) (.int j) H Q:=iJ.band K
theorem yh {i:Nat} {Q:V->Hp->Prop} (K:Q (.int (i % 2:Nat)) H):lU .band (.int i) (.int 1) H Q:=iJ.band (j:=1) ((Nat.and_one_is_mod i).symm▸K)
theorem wR {j:Nat} (a:j<=1000) {Q:V->Hp->Prop} (K:Q (.int (2 ^ j:Nat)) H):lU .shl (.int 1) (.int j) H Q:=iJ.shl a K
theorem As {i j:Nat} (a:j<=1000) {Q:V->Hp->Prop} (K:Q (.int (i / 2 ^ j:Nat)) H):lU .shr (.int i) (.int j) H Q:=iJ.shr a K
theorem gZ {i:Nat} {Q:V->Hp->Prop} (K:Q (.int (i+1:Nat)) H):lU .add (.int i) (.int 1) H Q:=iJ.add K
theorem Au {i j:Nat} {Q:V->Hp->Prop} (K:Q (.int (i+j:Nat)) H):lU .add (.int i) (.int j) H Q:=iJ.add K
theorem nD {i j:Int} {Q:V->Hp->Prop} (K:Q (.int (i+j)) H):lU .add (.int i) (.int j) H Q:=iJ.add K
theorem zT {i j:Int} {Q:V->Hp->Prop} (h:i.natAbs<1000000000000\/j.natAbs<1000000000000) (K:Q (.int (i*j)) H):lU .mul (.int i) (.int j) H Q:=iJ.mul h K
theorem MF {i j:Int} {Q:V->Hp->Prop} (h:0<j) (h':j<=1000000) (K:Q (.int (i % j)) H):lU .mod (.int i) (.int j) H Q:=iJ.mod h h' K
theorem HS {i j:Int} {Q:V->Hp->Prop} (h:0<j) (h':j<=1000000) (K:Q (.int (i / j)) H):lU .fdiv (.int i) (.int j) H Q:=iJ.fdiv h h' K
theorem ME {i:Int} {Q:V->Hp->Prop} (h:0<=i) (h':i<=1000000) (K:Q (.int (i ^ 5)) H):lU .pow (.int i) (.int 5) H Q:=iJ.pow h h' K
theorem Lg {s t Q} (h:s.length<=iH) (h':t.length<=iH) (K:Q (.str (s++t)) H):lU .add (.str s) (.str t) H Q:=iJ.RC h h' K
theorem cw_lt {i j Q}:iy .lt (.int i) (.int j) H Q=Q (decide (i<j)):=rfl
theorem cw_gt {i j Q}:iy .gt (.int i) (.int j) H Q=Q (decide (i>j)):=rfl
theorem cw_ge {i j Q}:iy .ge (.int i) (.int j) H Q=Q (decide (i>=j)):=rfl
theorem Uh {i j Q}:iy .eq (.int i) (.int j) H Q=Q (decide (i=j)):=rfl
theorem Uf {i j Q}:iy .ne (.int i) (.int j) H Q=Q (!decide (i=j)):=rfl
theorem Ug {i j Q}:iy .eq (.str i) (.str j) H Q=Q (decide (i=j)):=rfl
theorem xl {i j k}:g0 H (k+1) (.int i) (.int j)=V9 (decide (i=j)):=rfl
theorem qk {i j k}:g0 H (k+1) (.str i) (.str j)=V9 (decide (i=j)):=rfl
theorem KR {i j k}:g0 H (k+1) (.tup i) (.tup j)=uY (g0 H k) i j:=rfl
theorem qo {i j k}:g0 H (k+1) (.ref i) (.ref j)=if i=j then Wa else match H[i]?,H[j]? with
  |some (.list xs),V9 (.list a)=>uY (g0 H k) xs a
  |_,_=>Wa:=rfl
theorem deqn (i j:Nat):decide ((i:Int)=j)=decide (i=j):=decide_eq_decide.2 eX
theorem in_dict {i k a Q} (h:H[i]? =V9 (.dict a)) (hd:nt a k=Wb) (K:Q (gD a k).isSome):iy .isIn k (.ref i) H Q:=lZ.inD h hd K
theorem uc {i k a Q} (h:H[i]? =V9 (.dict a)) (hd:nt a k=Wb) (K:Q (!(gD a k).isSome)):iy .iF k (.ref i) H Q:=lZ.QM h hd K
theorem in_list {i a b vs Q} (h:H[i]? =V9 (.list vs)) (c:g6 (g0 H 6 · a) vs=V9 b) (K:Q b):iy .isIn a (.ref i) H Q:=lZ.inL h c K
theorem i9 {i a b vs Q} (h:H[i]? =V9 (.list vs)) (c:g6 (g0 H 6 · a) vs=V9 b) (K:Q (!b)):iy .iF a (.ref i) H Q:=lZ.QL h c K
theorem AG {a b vs Q} (c:g6 (g0 H 6 · a) vs=V9 b) (K:Q b):iy .isIn a (.tup vs) H Q:=lZ.Pz c K
theorem Ki {a b vs Q} (c:g6 (g0 H 6 · a) vs=V9 b) (K:Q (!b)):iy .iF a (.tup vs) H Q:=lZ.QK c K
theorem rk {a c b} {Q:Bool->Prop} (d:g0 H 6 a c=V9 b) (K:Q b):iy .eq a c H Q:=show qA _ Q from d▸K
theorem nK {a c b} {Q:Bool->Prop} (d:g0 H 6 a c=V9 b) (K:Q (!b)):iy .ne a c H Q:=show qA _ _ from d▸K
theorem is_none {Q} (K:Q Wb):iy .AC .none .none H Q:=lZ.AC ((decide_eq_true (rfl:V.none= .none)).symm▸K)
theorem KE {a Q} (h:a≠.none) (K:Q Wc):iy .AC a .none H Q:=lZ.AC ((decide_eq_false h).symm▸K)
theorem FT {Q:Bool->Prop} (K:Q Wc):iy .mV .none .none H Q:=lZ.mV (show Q (!decide (V.none= .none)) from(decide_eq_true (rfl:V.none= .none)).symm▸K)
theorem FS {a} {Q:Bool->Prop} (h:a≠.none) (K:Q Wb):iy .mV a .none H Q:=lZ.mV (show Q (!decide (a= .none)) from(decide_eq_false h).symm▸K)
section
variable {D:PD} {Φ:d9} {e e':E} {m:En} {i:Nat} {Q:V->Hp->Prop}
theorem cF {xs} (h:H[i]? =V9 (.list xs)) (K:ej D Φ e m H λv a=>hY 0 (.ref i) 0 [v] a Q):ud D Φ 0 #[e] m Q (.ref i) H:=mY.list h (by decide) K
theorem cR {xs v} (h:H[i]? =V9 (.list xs)) (a:xs.length<=iH) (K:Q .none (H.set i (.list (xs++[v])))):hY 0 (.ref i) 0 [v] H Q:=.append h a K
theorem nN {xs} (h:H[i]? =V9 (.list xs)) (K:ej D Φ e m H λv a=>hY 0 (.ref i) 1 [v] a Q):ud D Φ 1 #[e] m Q (.ref i) H:=mY.list h (by decide) K
theorem rj {j xs c} (b:i≠j) (h:H[i]? =V9 (.list xs)) (h':H[j]? =V9 (.list c)) (d:xs.length<=iH) (a:c.length<=iH)
  (K:Q .none (H.set i (.list (xs++c)))):hY 0 (.ref i) 1 [.ref j] H Q:=.extend b h h' d a K
theorem jw {xs} (h:H[i]? =V9 (.list xs)) (K:ej D Φ e m H λv a=>hY 0 (.ref i) 2 [v] a Q):ud D Φ 2 #[e] m Q (.ref i) H:=mY.list h (by decide) K
theorem yE {xs v} {n:Nat} {b} (h:H[i]? =V9 (.list xs)) (a:g6 (g0 H 6 · v) xs=V9 b) (c:qa (g0 H 6 · v) xs=V9 n)
  (K:Q (.int n) H):hY 0 (.ref i) 2 [v] H Q:=.index h a c K
theorem on {b} (h:H[i]? =V9 (.dict b)) (K:ej D Φ e m H λv a=>ej D Φ e' m a λu a=>hY 1 (.ref i) 3 [v,u] a Q):
  ud D Φ 3 #[e,e'] m Q (.ref i) H:=mY.dict h rfl K
theorem sX {a k d} (h:H[i]? =V9 (.dict a)) (hd:nt a k=Wb) (K:Q ((gD a k).getD d) H):hY 1 (.ref i) 3 [k,d] H Q:=.Q9 h hd K
theorem C9 {a:Es} {f c g:Nat} {b:List (Nat×V)} (h:H[i]? =V9 (.inst c b)) (d:pv b f=Wa) (e:D.cM c f=V9 g)
  (K:jS D Φ a m H λvs H=>Φ g (.ref i::vs) H Q):ud D Φ f a m Q (.ref i) H:=mY.inst h d e K
end
theorem xe {j n:Nat} (h:j<n):idx j n=V9 j:=(if_pos (dC j)).trans (if_pos (show(j:Int).toNat<n from h))
theorem cB {a:Type} {xs:List a} {j:Nat} {v:a} (b:xs[j]? =V9 v):j<xs.length:=(cD.1 b).1
theorem bO {i xs v} {j:Nat} (h:H[i]? =V9 (.list xs)) (a:xs[j]? =V9 v) {Q} (K:Q v):o7 (.ref i) (.int j) H Q:=xC.list h (xe (cB a)) a K
theorem Ik {vs:List V} {v} {j:Nat} (a:vs[j]? =V9 v) {Q:V->Prop} (K:Q v):o7 (.tup vs) (.int j) H Q:=show qA (idx j vs.length) _ from(xe (cB a)).symm▸(show qA vs[j]? Q from a.symm▸K)
theorem wK {s:List Nat} {c} {j:Nat} (b:s.length<=iH) (a:s[j]? =V9 c) {Q} (K:Q (.str [c])):o7 (.str s) (.int j) H Q:=xC.str b (xe (cB a)) a K
theorem Qk {a l} {Q:V->Prop}:o7 (.tup (a::l)) (.int 0) H Q=Q a:=rfl
theorem Qj {a b l} {Q:V->Prop}:o7 (.tup (a::b::l)) (.int 1) H Q=Q b:=rfl
theorem jr {i a l} {Q} (h:H[i]? =V9 (.list (a::l))) (K:Q a):o7 (.ref i) (.int 0) H Q:=bO (j:=0) (v:=a) h rfl K
theorem lG {i a b l} {Q} (h:H[i]? =V9 (.list (a::b::l))) (K:Q b):o7 (.ref i) (.int 1) H Q:=bO (j:=1) (v:=b) h rfl K
theorem iY {i xs v} (h:H[i]? =V9 (.list xs)) (a:xs.getLast?=V9 v) {Q} (K:Q v):o7 (.ref i) (.int (-1)) H Q:=by have a:=(fV)▸a;haveI:=cB a;exact xC.list h ((if_neg (by decide)).trans ((if_pos (by omega)).trans (congrArg V9 (by omega)))) a K
theorem gH {i a k v} (h:H[i]? =V9 (.dict a)) (hd:nt a k=Wb) (b:gD a k=V9 v) {Q} (K:Q v):o7 (.ref i) k H Q:=xC.dict h hd b K
theorem len_list {i xs Q} (h:H[i]? =V9 (.list xs)) (K:Q (.int xs.length) H):io 0 [.ref i] H Q:=.QV h K
theorem sV {vs Q} (K:Q (.int vs.length) H):io 0 [.tup vs] H Q:=.QU K
theorem list_list {i xs Q} (h:H[i]? =V9 (.list xs)) (K:Q (.ref H.length) (H++[.list xs])):io 1 [.ref i] H Q:=.L5 h K
theorem Fz {vs Q} (K:Q (.ref H.length) (H++[.list vs])):io 1 [.tup vs] H Q:=.L4 K
theorem tuple_list {i xs Q} (h:H[i]? =V9 (.list xs)) (K:Q (.tup xs) H):io 2 [.ref i] H Q:=.Qe h K
theorem xY {i xs is Q} (h:H[i]? =V9 (.list xs)) (hi:intsOf xs=V9 is) (a:is.length<64) (K:Q (.ref H.length) (H++[.list ((sortI is).map .int)])):io 3 [.ref i] H Q:=.LR h hi a K
theorem nH {i a is Q} (h:H[i]? =V9 (.dict a)) (hi:intsOf (a.map (·.1))=V9 is) (b:is.length<64) (K:Q (.ref H.length) (H++[.list ((sortI is).map .int)])):io 3 [.ref i] H Q:=.LS h hi b K
theorem Ai {vs is Q} (hi:intsOf vs=V9 is) (a:is.length<64) (K:Q (.ref H.length) (H++[.list ((sortI is).map .int)])):io 3 [.tup vs] H Q:=.LQ hi a K
theorem nG {i:Nat} {Q} (h:i<10) (K:Q (.str [48+i]) H):io 4 [.int i] H Q:=.str h K
theorem OU {i Q} (K:Q (.int i.natAbs) H):io 5 [.int i] H Q:=.abs K
theorem Oa {i Q} (K:Q (.int i) H):io 6 [.int i] H Q:=.int K
theorem cU {i xs Q} (h:H[i]? =V9 (.list xs)) (K:Q xs (λa=>a[i]? =V9 (.list xs))):w9 Wc Wc (.ref i) H Q:=.list h K
theorem N9 {i xs Q} (h:H[i]? =V9 (.list xs)) (K:Q xs.reverse (λa=>a[i]? =V9 (.list xs))):w9 Wb Wc (.ref i) H Q:=.rev h K
theorem w7 {i xs Q} (h:H[i]? =V9 (.list xs)) (K:Q (xs.mapIdx λn x=>.tup [.int n,x]) (λa=>a[i]? =V9 (.list xs))):w9 Wc Wb (.ref i) H Q:=.enum h K
theorem w8 {i a is Q} (h:H[i]? =V9 (.dict a)) (hi:intsOf (a.map (·.1))=V9 is) (K:Q (a.map (·.1)) (λb=>b[i]? =V9 (.dict a))):w9 Wc Wc (.ref i) H Q:=.dict h hi K
theorem rf {vs Q} (K:Q vs (λ_=>True)):w9 Wc Wc (.tup vs) H Q:=.tup K
theorem KC {vs Q} (K:Q vs.reverse (λ_=>True)):w9 Wb Wc (.tup vs) H Q:=.Qy K
theorem eg {n:Nat} {Q} (h:n<=iH) (K:Q ((aC n).map λ(k:Nat)=>.int k) (λ_=>True)):wP (.int n) Q:=.mk h K
theorem fR {i xs v} {j:Nat} {Q} (h:H[i]? =V9 (.list xs)) (a:j<xs.length) (K:Q (H.set i (.list (xs.set j v)))):rP (.ref i) (.int j) v H Q:=.list h a K
theorem gh {i a k v Q} (h:H[i]? =V9 (.dict a)) (hd:nt a k=Wb) (b:a.length<=900) (K:Q (H.set i (.dict (jW a k v)))):rP (.ref i) k v H Q:=.dict h hd b K
theorem qX {i xs} {j:Nat} {Q:V->Hp->Prop} (h:H[i]? =V9 (.list xs)) (K:Q (.ref H.length) (H++[.list (xs.drop j)])):rn .oN (.ref i) (.int j) H Q:=.list h K
theorem vG {i xs} {j:Nat} {Q:V->Hp->Prop} (h:H[i]? =V9 (.list xs)) (K:Q (.ref H.length) (H++[.list (xs.take j)])):rn .D3 (.ref i) (.int j) H Q:=.list h K
theorem E2 {b:Type} {x:b}:∀{k:Nat},(aY k [x]).flatten=aY k x:=by
 intro k
 induction k with
 |zero=>exact rfl
 |succ _ a=>exact congrArg (x::·) a
theorem yq {i:Nat} {v:V} {k:Nat} {Q:V->Hp->Prop} (h:H[i]? =V9 (.list [v])) (a:k<=60000) (K:Q (.ref H.length) (H++[.list (aY k v)])):
  lU .mul (.ref i) (.int k) H Q:=iJ.NW h a ((Nat.one_mul k).symm▸a) (E2.symm▸K)
theorem wZ {i j xs b} {Q:V->Hp->Prop} (h:H[i]? =V9 (.list xs)) (h':H[j]? =V9 (.list b)) (c:xs.length<=iH) (a:b.length<=iH) (K:Q (.ref H.length) (H++[.list (xs++b)])):
  lU .add (.ref i) (.ref j) H Q:=iJ.RD h h' c a K
theorem gl0:pd.glob 0=V9 (.int 1048576):=rfl
theorem gl1:pd.glob 1=V9 (.int (-1048576)):=rfl
theorem gl2:pd.glob 2=V9 (.int 0):=rfl
theorem gl3:pd.glob 3=V9 (.int 1):=rfl
theorem gl4:pd.glob 4=V9 (.int 2):=rfl
theorem gl5:pd.glob 5=V9 (.int 1):=rfl
theorem gl6:pd.glob 6=V9 (.int 2):=rfl
theorem gl7:pd.glob 7=V9 (.int 0):=rfl
theorem gl8:pd.glob 8=V9 (.tup [.str [36,101,110,100],.str [101,114,114,111,114],.str [36,117,110,100,101,102,105,110,101,100]]):=rfl
theorem gl9:pd.glob 9=V9 (.int (-1)):=rfl
theorem mpS {a b:Type} {f:a->b} {x:a}:Bj f (V9 x)=V9 (f x):=rfl
theorem mpN {a b:Type} {f:a->b}:Bj f Wa=Wa:=rfl
theorem isS {a:Type} {x:a}:(V9 x).isSome=Wb:=rfl
theorem L8 {a:Type}:(Wa:Option a).isSome=Wc:=rfl
theorem gD_s {a:Type} {x d:a}:(V9 x).getD d=x:=rfl
theorem gD_n {a:Type} {d:a}:(Wa:Option a).getD d=d:=rfl
theorem Tv:(!Wb)=Wc:=rfl
theorem Tw:(!Wc)=Wb:=rfl
inductive iK (H:Hp) (i a:Nat) (v:V):Prop
 |mk (c:Nat) (fs:List (Nat×V)) (h:H[i]? =V9 (.inst c fs)) (hc:(pd.fld c).contains a=Wb) (hg:pv fs a=V9 v)
theorem iK.app {i a v} {Q:V->Hp->Prop} (h:iK H i a v) (K:Q v H):Oj pd a Q (.ref i) H:=by induction h with|mk c e h b d=>exact .mk h b d K
theorem iK.ext {b:Hp} {i a v} (h:iK H i a v) (e:Ext H b):iK b i a v:=by induction h with|mk c d h f g=>exact⟨c,d,e.get h,f,g⟩
inductive zH (H:Hp) (i c:Nat) (ms:List Nat):Prop
 |mk (fs:List (Nat×V)) (h:H[i]? =V9 (.inst c fs)) (hf:∀f∈ms,pv fs f=Wa)
theorem zH.ext {a:Hp} {i c b} (h:zH H i c b) (e:Ext H a):zH a i c b:=by induction h with|mk d h f=>exact⟨d,e.get h,f⟩
theorem zH.call {Φ:d9} {a:Es} {m:En} {i f c g:Nat} {b:List Nat} {Q:V->Hp->Prop} (h:zH H i c b) (e:b.contains f=Wb) (j:pd.cM c f=V9 g)
  (K:jS pd Φ a m H λvs H=>Φ g (.ref i::vs) H Q):ud pd Φ f a m Q (.ref i) H:=by
 induction h with|mk k h d=>exact C9 h (d f (dZ.1 e)) j K
theorem fp {a:Type} {l:List a} {i:Nat} (h:i<l.length):∃x,l[i]? =V9 x:=⟨_,aF h⟩
theorem hV {a:Type} {l:List a} {i:Nat} {x d:a} (h:l[i]? =V9 x):l.getD i d=x:=by rw[bJ,h];rfl
theorem dX {b:Type} {l:List b} {i:Nat} {d:b} (h:i<l.length):l[i]? =V9 (l.getD i d):=by obtain⟨x,a⟩:=fp h;rw[hV a,a]
theorem mH {a:Type} {l:List a} {i:Nat} {x:a} (h:l[i]? =V9 x) (h':i<l.length):l[i]=x:=by rw[aF h']at h;exact aA h
theorem dq {a:Type} {l:List a} {k:Nat} {v:a} (h:l[k]? =V9 v):k<l.length/\v∈l:=⟨cB h,aO h⟩
theorem gW {k N:Nat} {v:V} (h:((aC N).map λ(k:Nat)=>V.int k)[k]? =V9 v):k<N/\v= .int k:=by haveI a:=cB h;rw[aB,aU]at a;rw[bC,ew a]at h;exact⟨a,(aA h).symm⟩
noncomputable def vI (l:List Nat):List V:=l.map λ(s:Nat)=>V.int s
theorem wF {l:List Nat} {i x:Nat}:(vI l).set i (.int x)=vI (l.set i x):=by delta vI;rw[zx]
theorem kX {l:List Nat} {i x:Nat} (h:l[i]? =V9 x):(vI l)[i]? =V9 (.int x):=by rw[bC,h];rfl
theorem jB {l:List Nat} {i:Nat} (h:i<l.length):(vI l)[i]? =V9 (.int (l.getD i 0:Nat)):=kX (dX h)
theorem dL {l:List Nat}:(vI l).length=l.length:=by rw[aB]
theorem fB {l:List Nat} {k:Nat} (h:l.length<=k) (a:k<=60000):(vI l).length<=iH:=by rw[dL];exact aE h a
theorem iX {l:List Nat} {x:Nat}:vI l++[.int x]=vI (l++[x]):=by simp[vI]
theorem gU {l:List Nat} {k:Nat} {v:V} (h:(vI l)[k]? =V9 v):∃x,l[k]? =V9 x/\v= .int x:=by
 injection 0 l k v with h;unfold vI at h;rw[bC]at h
 induction q:l[k]? with
 |none=>rw[q]at h;exact nn h
 |some x=>rw[q]at h;rw[←aA h];exact⟨x,rfl,rfl⟩
noncomputable def vB (l:List Bool):List V:=l.map V.bool
theorem jC {l:List Bool} {i:Nat} (h:i<l.length):(vB l)[i]? =V9 (.bool (l.getD i Wc)):=by rw[bC,dX (d:=Wc) h];rfl
theorem Ab {l:List Bool}:(vB l).length=l.length:=by rw[aB]
theorem MW {l:List Bool} {i:Nat} {x:Bool}:(vB l).set i (.bool x)=vB (l.set i x):=by delta vB;rw[zx]
noncomputable def vZ (l:List Int):List V:=l.map V.int
theorem mh {l:List Int} {i:Nat} (h:i<l.length):(vZ l)[i]? =V9 (.int (l.getD i 0)):=by rw[bC,dX (d:=0) h];rfl
theorem kW {l:List Int}:(vZ l).length=l.length:=by rw[aB]
theorem z0 {l:List Int} {i:Nat} {x:Int}:(vZ l).set i (.int x)=vZ (l.set i x):=by delta vZ;rw[zx]
theorem MM {l:List Int} {x:Int}:vZ l++[.int x]=vZ (l++[x]):=by simp[vZ]
noncomputable def vR (l:List Nat):List V:=l.map V.ref
theorem iV {l:List Nat} {i x:Nat} (h:l[i]? =V9 x):(vR l)[i]? =V9 (.ref x):=by rw[bC,h];rfl
theorem eA {l:List Nat}:(vR l).length=l.length:=by rw[aB]
theorem mi {l:List Nat} {x:Nat}:vR l++[.ref x]=vR (l++[x]):=by simp[vR]
theorem c7 {a:Nat} (h:a<=60000):a<=iH:=h
end
end
section
local macro_rules (kind:=PyProof.Rows.tacticWalk_at_)|s=>if s[1].isStrLit?==some "w" then pure yW else Lean.Macro.throwUnsupported
local macro_rules (kind:=Lean.Parser.Tactic.«tacticExists_,,»)|s=>yEx s
section
noncomputable def jM (m:Nat):List Nat:=(aC m).filter λi=>m.testBit i
theorem zd {m k:Nat} (e:k<=m) (h:m<2 ^ k):(aC k).filter (λi=>m.testBit i)=jM m:=by
 delta jM;obtain⟨d,rfl⟩:=je e;rw[vr,cY];haveI:((aC d).map (k+·)).filter (λi=>(k+d).testBit i)=[]:=by rw[gO];intro a c;obtain⟨x,f,b⟩:=aM.1 c;rw[←b];rw[nx (a9 h (fX (vc) (ta)))];simp
 rw[this,bY]
noncomputable def oT (m k:Nat):List Nat:=(aC k).filter λi=>m.testBit i
theorem wh {m k:Nat} (h:k<=64):(oT m k).length<=64:=
 aE (bI _ _) (by simp;exact h)
theorem Lk {m k:Nat} (h:m / 2 ^ k % 2=1):oT m (k+1)=oT m k++[k]:=by
 delta oT;rw[cG,cY];haveI:m.testBit k=Wb:=by rw[jo,decide_eq_true h]
 simp[this]
theorem Ll {m k:Nat} (h:m / 2 ^ k % 2≠1):oT m (k+1)=oT m k:=by
 delta oT;rw[cG,cY];haveI:m.testBit k=Wc:=by rw[jo,decide_eq_false h]
 simp[this]
theorem uv (m k:Nat):m / 2 ^ (k+1)=m / 2 ^ k / 2 ^ 1:=by rw[Nat.pow_succ,←Nat.div_div_eq_div_mul]
theorem Dn {m k:Nat} (h:¬0<m / 2 ^ k):m<2 ^ k:=by
 rcases cZ m (2 ^ k)with q|q
 ·exact q
 ·exact absurd (Nat.div_pos q (ki k)) h
theorem KV {m k:Nat} (h:0<m / 2 ^ k) (a:m<2 ^ 64):k<m/\k<64:=by
 constructor
 ·rcases cZ k m with q|q
  ·exact q
  ·rw[HK (a9 DX (fX (by lia) q))]at h;lia
 ·rcases cZ k 64 with q|q
  ·exact q
  ·rw[HK (a9 a (fX (by lia) q))]at h;lia
structure Ha (H0:Hp) (m j k:Nat) (H:Hp):Prop where
 ext:Ext H0 H
 L:H[H0.length]? =V9 (.list (vI (oT m k)))
 le:k<=m/\k<=64
 j:j=m / 2 ^ k
theorem Ha.next {a m j k H} (h:Ha a m j k H) (d:m<2 ^ 64) (e:0<j):m / 2 ^ (k+1)<j/\
  (j % 2=1->Ha a m (m / 2 ^ (k+1)) (k+1) (H.set a.length (.list (vI (oT m k)++[.int k]))))/\(¬j % 2=1->Ha a m (m / 2 ^ (k+1)) (k+1) H):=by
 obtain⟨b,c,f,rfl⟩:=h;have g:=KV e d;refine⟨by rw[uv];lia,λq=>⟨b.put (aK _),?_,by lia,rfl⟩,λq=>⟨b,?_,by lia,rfl⟩⟩
 ·rw[cH (by rw[c];rfl),Lk q,iX]
 ·rw[c,Ll q]
section
variable {n:Nat} {H:Hp} {Q:V->Hp->Prop}
theorem xy {m:Nat} (h:m<2 ^ 64) (K:∀r c,Ext H c->H.length<=r->c[r]? =V9 (.list (vI (jM m)))->Q (.ref r) c):
  F (n+1) 1 [.int m] H Q:=by
 refine NE ?_;delta b1;exists aQ (aP _);refine qM (σ:=Nat) (λk=>eI m (kP H.length (eI k (eI (m / 2 ^ k:Nat) [])))) (Ha H m) m 0 (by rw[Nat.pow_zero,Nat.div_one];rfl) ⟨aN _ _,aR,by lia,by simp⟩ ?_;intro j k c a l b;by_cases e:0<j
 ·have⟨hd,i,g⟩:=a.next h e;exists HU (by haveI:=a.j;lia),yh;haveI f:=a.j;by_cases d:m / 2 ^ k % 2=1
  ·exists li (by lia),cF a.L<|cR a.L (fB (wh a.le.2) (by decide)),As (by decide),gZ
   rw[←uv];exact b _ (k+1) _ hd (i (by rw[f];exact d))
  ·exists jg (by lia),As (by decide),gZ;rw[←uv];exact b _ (k+1) _ hd (g (by rw[f];exact d))
 ·refine HV (by haveI:=a.j;lia) ?_;haveI:=a.L;haveI this:=(show oT m k=jM m from zd a.le.1 (Dn (by haveI:=a.j;exact e9 (kD (tf this) (tv e)))))▸this;exact K _ _ a.ext (aK _) this
end
end
section
structure Ru where
 left:Nat
 right:List Nat
 lv:Int
structure Gr where
 names:List (List Nat)
 tc:Nat
 rules:List Ru
 start:Nat
namespace Gr
noncomputable def lj (G:Gr) (s:Nat):List Nat:=(aC G.rules.length).filter λk=>(G.rules[k]?.map Ru.left)==V9 s
noncomputable def off (G:Gr) (r:Nat):Nat:=((G.rules.take r).map λx=>x.right.length+1).sum
noncomputable def owners (G:Gr):List Nat:=(G.rules.mapIdx λk x=>aY (x.right.length+1) k).flatten
structure Wf (G:Gr):Prop where
 n:G.names.length<=20
 r:G.rules.length<=20
 M3:G.tc<G.names.length
 lt:∀x∈G.rules,G.tc<=x.left/\x.left<G.names.length/\x.right.length<=2/\∀s∈x.right,s<G.names.length
end Gr
structure G8 (H:Hp) (i k:Nat) (r:Ru):Prop where
 num:iK H i 29 (.int k)
 left:iK H i 18 (.int r.left)
 right:iK H i 19 (.tup (vI r.right))
 lv:iK H i 28 (.int r.lv)
 Uu:iK H i 20 (.int 0)
theorem G8.ext {H a i k r} (h:G8 H i k r) (e:Ext H a):G8 a i k r:=⟨h.num.ext e,h.left.ext e,h.right.ext e,h.lv.ext e,h.Uu.ext e⟩
structure GR where
 iN:Nat
 iR:Nat
 iL:Nat
 iB:Nat
 iO:Nat
 iW:Nat
 rr:List Nat
 bb:List Nat
noncomputable abbrev gms:List Nat:=[78,79,86,87,89,90,84]
structure kF (H:Hp) (g:Nat) (R:GR) (G:Gr):Prop where
 hU:zH H g 13 gms
 names:iK H g 8 (.ref R.iN)
 nl:H[R.iN]? =V9 (.list (G.names.map .str))
 tc:iK H g 9 (.int G.tc)
 rules:iK H g 17 (.ref R.iR)
 rl:H[R.iR]? =V9 (.list (vR R.rr))
 pP:R.rr.length=G.rules.length
 rr:∀(k:Nat) r,G.rules[k]? =V9 r->∃i,R.rr[k]? =V9 i/\G8 H i k r
 lev:iK H g 27 (.ref R.iL)
 ll:H[R.iL]? =V9 (.dict [])
 Uo:iK H g 74 (.ref R.iB)
 bl:H[R.iB]? =V9 (.list (vR R.bb))
 bb:∀s:Nat,s<G.names.length->∃i:Nat,R.bb[s]? =V9 i/\H[i]? =V9 (.list (vI (G.lj s)))
 Fj:iK H g 75 (.ref R.iO)
 ol:H[R.iO]? =V9 (.list (vI ((aC G.rules.length).map G.off)))
 own:iK H g 76 (.ref R.iW)
 wl:H[R.iW]? =V9 (.list (vI G.owners))
theorem kF.ext {H c g R G} (h:kF H g R G) (e:Ext H c):kF c g R G where
 hU:=h.hU.ext e
 names:=h.names.ext e
 nl:=e.get h.nl
 tc:=h.tc.ext e
 rules:=h.rules.ext e
 rl:=e.get h.rl
 pP:=h.pP
 rr k r d:=by obtain⟨i,a,b⟩:=h.rr k r d;exact⟨i,a,b.ext e⟩
 lev:=h.lev.ext e
 ll:=e.get h.ll
 Uo:=h.Uo.ext e
 bl:=e.get h.bl
 bb s d:=by obtain⟨i,a,b⟩:=h.bb s d;exact⟨i,a,e.get b⟩
 Fj:=h.Fj.ext e
 ol:=e.get h.ol
 own:=h.own.ext e
 wl:=e.get h.wl
section
variable {n:Nat} {H:Hp} {Q:V->Hp->Prop} {g:Nat} {R:GR} {G:Gr}
theorem kF.nb (b:kF H g R G) (a:G.Wf):(G.names.map V.str).length<=iH:=by rw[aB];exact aE a.n (by decide)
theorem jd (a:kF H g R G) (b:G.Wf) (K:Q (.int G.names.length) H):F (n+1) 45 [.ref g] H Q:=by refine Jv ?_;delta Va;exists a.names.app,len_list a.nl;rw[aB];exact K
theorem oS {s:Nat} (a:kF H g R G) (K:Q (.bool (decide ((s:Int)<(G.tc:Int)))) H):F (n+1) 46 [.ref g,.int s] H Q:=by refine Ju ?_;delta U9;walk_at "w";refine a.tc.app ?_;exact K
theorem uF (s:Nat):(G.lj s).length<=G.rules.length:=by exact aE (bI _ _) (by simp)
theorem AV {s:Nat} (a:kF H g R G) (e:G.Wf) (d:s<G.names.length)
  (K:Q (.ref H.length) (H++[.list (vI (G.lj s))])):F (n+1) 47 [.ref g,.int s] H Q:=by
 refine Jt ?_;delta U8;obtain⟨i,b,c⟩:=a.bb s d;exists a.Uo.app,bO a.bl (iV b),list_list c;exact K
theorem F6 {r:Nat} (a:r<G.rules.length):(vI ((aC G.rules.length).map G.off))[r]? =V9 (.int (G.off r:Nat)):=by simp[vI,a]
theorem AY {r:Nat} {d:Nat} (a:kF H g R G) (c:G.Wf) (b:r<G.rules.length) (K:Q (.int (G.off r+d:Nat)) H):
  F (n+1) 48 [.ref g,.int r,.int d] H Q:=by
 refine Js ?_;delta U7;exists a.Fj.app,bO a.ol (F6 b);exact Au K
theorem Dv {x r:Nat} (a:kF H g R G) (b:G.owners[x]? =V9 r) (c:x<=60000) (K:Q (.int r) H):
  F (n+1) 49 [.ref g,.int x] H Q:=by
 refine Jr ?_;delta U6;exists a.own.app,bO a.wl (kX b);exact K
end
end
section
namespace Gr
theorem BE:∀(l:List Ru) (j r d:Nat) (a:Ru),l[r]? =V9 a->d<=a.right.length->
  ((l.mapIdx λk x=>aY (x.right.length+1) (k+j)).flatten)[((l.take r).map λx=>x.right.length+1).sum+d]? =V9 (r+j)
 |[],j,r,d,a,h,hd=>by simp at h
 |y::l,j,0,d,a,h,hd=>by simp only[List.getElem?_cons_zero,S2]at h;subst h;simp only[mP,rL,oB,gL,List.sum_nil,gR];rw[bH (by simp;lia)];simp[iT];lia
 |y::l,j,r+1,d,a,h,hd=>by
  simp only[xO]at h;haveI e:=BE l (j+1) r d a h hd;simp only[mP,rL,List.take_succ_cons,cS,xH];rw[bR (by simp;exact tm)];rw[fP];haveI b:y.right.length+1+((l.take r).map λx=>x.right.length+1).sum+d-(y.right.length+1)=((l.take r).map λx=>x.right.length+1).sum+d:=by rw[fE (y.right.length+1),eO]
  rw[b];haveI c:(λ(i:Nat) (x:Ru)=>aY (x.right.length+1) (i+1+j))=λi x=>aY (x.right.length+1) (i+(j+1)):=by funext i x;congr 1;lia
  rw[c,e];congr 1;lia
theorem own {G:Gr} {r d:Nat} {a:Ru} (h:G.rules[r]? =V9 a) (hd:d<=a.right.length):G.owners[G.off r+d]? =V9 r:=
 BE G.rules 0 r d a h hd
theorem M5:∀(l:List Ru),(∀x∈l,x.right.length<=2)->(l.map λx=>x.right.length+1).sum<=3*l.length:=by
 intro l
 induction l with
 |nil=>intro _;exact vc
 |cons x l a=>intro h;haveI:=a (λy b=>h y (bA _ b));haveI:=h x (aS ..);simp only[cS,xH,dF];lia
theorem NQ {G:Gr} (a:G.Wf) (r:Nat):G.off r<=60:=by
 haveI b:=M5 (G.rules.take r) (λx b=>(a.lt x (fj b)).2.2.1);haveI c:(G.rules.take r).length<=20:=by rw[c9];haveI:=a.r;exact aE (ii _ _) ‹_›
 delta off;lia
noncomputable def SH (a:Ru) (d:Nat):Int:=match a.right[d]? with
 |some s=>s
 |none=> -1
theorem P8 {G:Gr} (c:G.Wf) {r:Nat} {a:Ru} (h:G.rules[r]? =V9 a):r<20/\r<G.rules.length/\G.tc<=a.left/\a.left<G.names.length/\a.right.length<=2/\∀s∈a.right,s<G.names.length:=by
 haveI b:r<G.rules.length:=by
  rcases cZ r G.rules.length with q|q
  ·exact q
  ·rw[bQ q]at h;exact nn h
 exact⟨by haveI:=c.r;exact ff b this,b,c.lt a (aO h)⟩
end Gr
section
variable {n:Nat} {H:Hp} {Q:V->Hp->Prop} {g:Nat} {R:GR} {G:Gr}
structure fh (G:Gr) (r:Nat) (ru:Ru):Prop where
 at_:G.rules[r]? =V9 ru
 QR:r<20
 n:r<G.rules.length
 tc:G.tc<=ru.left
 left:ru.left<G.names.length
 len:ru.right.length<=2
 sy:∀s∈ru.right,s<G.names.length
 o60:G.off r<=60
theorem Gr.Wf.at_ (a:G.Wf) {r:Nat} {b:Ru} (h:G.rules[r]? =V9 b):fh G r b:=by obtain⟨c,d,e,f,g,i⟩:=Gr.P8 a h;exact⟨h,c,d,e,f,g,i,Gr.NQ a r⟩
theorem fh.own {r d:Nat} {a:Ru} (h:fh G r a) (hd:d<=a.right.length):(vI G.owners)[G.off r+d]? =V9 (.int r):=kX (Gr.own h.at_ hd)
theorem fh.le {r d:Nat} {a:Ru} (h:fh G r a) (hd:d<=a.right.length):G.off r+d<=60000:=by haveI:=h.o60;haveI:=h.len;lia
theorem fh.mem {r:Nat} {a:Ru} (h:fh G r a):a∈G.rules:=aO h.at_
theorem Si {r:Nat} (h:r<20):r<=60000:=tc h
theorem kF.ru (d:kF H g R G) {r:Nat} {a:Ru} (h:fh G r a):G8 H (R.rr.getD r 0) r a:=by obtain⟨i,b,c⟩:=d.rr r a h.at_;rw[hV b];exact c
theorem kF.rg (c:kF H g R G) {r:Nat} {b:Ru} (h:fh G r b):(vR R.rr)[r]? =V9 (.ref (R.rr.getD r 0)):=by obtain⟨i,a,d⟩:=c.rr r b h.at_;rw[hV a];exact iV a
theorem By {a d:Nat}:((a+d:Nat):Int)-(a:Nat)=d:=by rw[Int.natCast_add,Int.add_comm,qJ]
theorem GH {r d:Nat} {c:Ru} (a:kF H g R G) (b:fh G r c) (hd:d<=c.right.length) (K:Q (.int d) H):
  F (n+1) 50 [.ref g,.int (G.off r+d:Nat)] H Q:=by
 refine Jq ?_;delta U5;exists a.Fj.app,a.own.app,bO a.wl (b.own hd),bO a.ol (F6 b.n);rw[By];exact K
theorem fh.rb {r:Nat} {a:Ru} (b:fh G r a):(vI a.right).length<=iH:=fB b.len (by decide)
theorem Lc {r d:Nat} {c:Ru} (a:kF H g R G) (b:fh G r c) (hd:d<=c.right.length) (K:Q (.int (Gr.SH c d)) H):
  F (n+1) 51 [.ref g,.int (G.off r+d:Nat)] H Q:=by
 injection 0 n H Q g R G r d c with a b hd K;refine Jp ?_;delta U4;exists a.rules.app,a.own.app,bO a.wl (b.own hd),bO a.rl (a.rg b),(a.ru b).right.app<|a.Fj.app,a.own.app,bO a.wl (b.own hd),bO a.ol (F6 b.n)
 rw[By];refine sV ?_;rw[dL];unfold Gr.SH at K;by_cases q:d<c.right.length
 ·exists xn (dP.2 q),Ik (kX (aF q));rw[aF q]at K;exact K
 ·refine xo (ed.2 (dQ.2 (tv ‹_›))) ?_;rw[bQ (tv q)]at K;exact K
theorem uB {r d:Nat} {b:Ru} (c:kF H g R G) (a:fh G r b) (hd:d<=b.right.length) (K:Q (.int r) H):
  F (n+1) 49 [.ref g,.int (G.off r+d:Nat)] H Q:=
 Dv c (Gr.own a.at_ hd) (a.le hd) K
theorem A1 {r d:Nat} {c:Ru} (a:kF H g R G) (e:G.Wf) (b:fh G r c) (hd:d<c.right.length) (K:Q (.int (G.off r+(d+1):Nat)) H):
  F (n+2) 66 [.ref g,.int (G.off r+d:Nat)] H Q:=by
 refine Ja ?_;unfold UP;exists a.hU.call (f:=87) rfl rfl,a.hU.call (f:=89) rfl rfl,uB a b (cO hd),a.hU.call (f:=90) rfl rfl,GH a b (cO hd),gZ,AY a e (d:=d+1) b.n;exact K
theorem vK {k:Nat} {v:V} (a:kF H g R G) (d:G.Wf) (h:(vR R.rr)[k]? =V9 v):∃b,v= .ref (R.rr.getD k 0)/\fh G k b:=by haveI b:=cB h;rw[eA,a.pP]at b;haveI c:=d.at_ (aF b);refine⟨_,?_,c⟩;rw[a.rg c]at h;exact(aA h).symm
end
end
section
structure Sp (H0 H:Hp) (N nr c nl:Nat) (bs:List Bool) (qs:List Nat):Prop where
 ext:Ext H0 H
 bl:bs.length=N
 bg:H[H0.length]? =V9 (.list (vB bs))
 ls:∃ls:List Int,ls.length=nl/\H[H0.length+1]? =V9 (.list (vZ ls))
 ug:H[H0.length+2+N]? =V9 (.list (vR ((aC N).map λ(i:Nat)=>H0.length+2+i)))
 us:∀i:Nat,i<N->∃us:List Nat,(∀x∈us,x<nr)/\us.length<=c/\H[H0.length+2+i]? =V9 (.list (vI us))
 qg:H[H0.length+2+N+1]? =V9 (.list (vI qs))
 ql:∀x∈qs,x<N
 qn:qs.length+bs.count Wc<=N
theorem Sp.mono {a H N nr c d bs e} {b} (h:Sp a H N nr c d bs e) (k:c<=b):Sp a H N nr b d bs e:=
 {h with us:=λi hi=>by obtain⟨u,f,g,j⟩:=h.us i hi;exact⟨u,f,aE g k,j⟩}
theorem ne1 {a i:Nat}:a+2+i≠a:=by lia
theorem ne2 {a i:Nat}:a+2+i≠a+1:=by lia
theorem ne3 {a i N:Nat} (h:i<N):a+2+i≠a+2+N:=by lia
theorem ne4 {a i N:Nat} (h:i<N):a+2+i≠a+2+N+1:=by lia
theorem ne5 {a:Nat}:a≠a+1:=tn ts
theorem Sp.user {b H N nr c k bs l} (h:Sp b H N nr c k bs l) {i x:Nat} (hi:i<N) (o:x<nr):
  ∃a:List V,a.length<=c/\H[b.length+2+i]? =V9 (.list a)/\Sp b (H.set (b.length+2+i) (.list (a++[.int x]))) N nr (c+1) k bs l:=by
 obtain⟨u,m,f,g⟩:=h.us i hi;refine⟨vI u,by rw[dL];exact f,g,⟨h.ext.put (tm),h.bl,(a8 ne1).trans h.bg,?_,(a8 (ne3 hi)).trans h.ug,?_,(a8 (ne4 hi)).trans h.qg,h.ql,h.qn⟩⟩
 ·rw[a8 ne2];exact h.ls
 ·intro j n;by_cases q:j=i
  ·rw[q];refine⟨u++[x],?_,by simp;exact f,?_⟩
   ·intro y a;rcases aZ.1 a with a|a
    ·exact m y a
    ·simp at a;exact zD (te a) o
   ·rw[cH (by rw[g];rfl),iX]
  ·obtain⟨p,a,d,e⟩:=h.us j n;exact⟨p,a,Hg d,by rw[a8 (by lia)];exact e⟩
theorem Sp.QX {a H N nr c l nl' bs f} (h:Sp a H N nr c l bs f) {ls:List Int} (k:ls.length=nl'):
  Sp a (H.set (a.length+1) (.list (vZ ls))) N nr c nl' bs f:=by
 obtain⟨o,n,g⟩:=h.ls;refine⟨h.ext.put (ta),h.bl,(a8 ne5.symm).trans h.bg,⟨ls,k,by rw[cH (by rw[g];rfl)]⟩,(a8 ne2.symm).trans h.ug,?_,(a8 (by lia)).trans h.qg,h.ql,h.qn⟩;intro j i;obtain⟨m,b,d,e⟩:=h.us j i;exact⟨m,b,d,(a8 ne2.symm).trans e⟩
theorem count_set {bs:List Bool} {j:Nat} (h:bs[j]? =V9 Wc):(bs.set j Wb).count Wc+1=bs.count Wc:=by
 induction bs generalizing j with
 |nil=>exact nn h
 |cons b bs a=>
  induction j with
  |zero=>simp at h;rw[h];simp
  |succ j=>simp at h;haveI:=a h;cases b<;>simp<;>assumption
theorem Sp.find {a H N nr c m bs f} (h:Sp a H N nr c m bs f) {j:Nat} (g:bs.getD j Wc=Wc) (l:j<N):
  (H.set a.length (.list ((vB bs).set j (.bool Wb))))[a.length+2+N+1]? =V9 (.list (vI f))/\
  Sp a ((H.set a.length (.list ((vB bs).set j (.bool Wb)))).set (a.length+2+N+1) (.list (vI f++[.int j]))) N nr c m (bs.set j Wb) (f++[j]):=by
 haveI n:=h.qg;haveI e:(H.set a.length (.list ((vB bs).set j (.bool Wb))))[a.length+2+N+1]? =V9 (.list (vI f)):=(a8 (tn (t1 tm))).trans n;refine⟨e,(h.ext.put (aK _)).put (by lia),by rw[bS];exact h.bl,?_,?_,?_,?_,?_,?_,?_⟩
 ·rw[a8 (j7 (t1 tm)),cH (by rw[h.bg];rfl),MW]
 ·rw[a8 (by lia),a8 ne5];exact h.ls
 ·rw[a8 (j7 ts),a8 ne1.symm];exact h.ug
 ·intro j g;obtain⟨o,b,i,k⟩:=h.us j g;exact⟨o,b,i,by rw[a8 (ne4 g).symm,a8 ne1.symm];exact k⟩
 ·rw[cH (by rw[e];rfl),iX]
 ·intro y b;rcases aZ.1 b with b|b
  ·exact h.ql y b
  ·simp at b;exact zD (te b) l
 ·haveI:=count_set (bs:=bs) (j:=j) (by rw[dX (d:=Wc) (by rw[h.bl];exact l),g]);haveI:=h.qn;simp;lia
theorem Sp.u {a H N nr c b bs d} (h:Sp a H N nr c b bs d) {i:Nat} (hi:i<N):(vR ((aC N).map λ(i:Nat)=>a.length+2+i))[i]? =V9 (.ref (a.length+2+i)):=
 iV (by rw[bC,ew hi];rfl)
theorem Sp.qb {b H N nr c e bs a} (h:Sp b H N nr c e bs a) (d:N<=20):(vI a).length<=iH:=fB (k:=20) (by haveI:=h.qn;exact kD (kD ta this) d) (by decide)
theorem Sp.b {a H N nr c b bs d} (h:Sp a H N nr c b bs d) {i:Nat} (hi:i<N):(vB bs)[i]? =V9 (.bool (bs.getD i Wc)):=jC (by rw[h.bl];exact hi)
theorem Sp.bn {a H N nr c b bs d} (h:Sp a H N nr c b bs d) {i:Nat} (hi:i<N):i<(vB bs).length:=by rw[Ab,h.bl];exact hi
structure CI (H0:Hp) (b:List V) (k:Nat) (acc:List V) (H:Hp):Prop where
 ext:Ext (H0++[.list b]++[.list []]) H
 len:H.length=H0.length+2+k
 acc:acc=vR ((aC k).map λ(i:Nat)=>H0.length+2+i)
 em:∀i:Nat,i<k->H[H0.length+2+i]? =V9 (.list [])
theorem CI.next {c b k a H} (h:CI c b k a H):CI c b (k+1) (a++[.ref H.length]) (H++[.list []]):=by
 injection 0 c b k a H with h;obtain⟨e,d,f,g⟩:=h;refine⟨e.app,by simp;lia,?_,λi hi=> ?_⟩
 ·rw[f,cG,bV,d,mi];rfl
 ·by_cases q:i=k
  ·rw[q];rw[←d,aR];rfl
  ·haveI:=g i (by lia);rw[Ce (by rw[this];rfl)];exact this
theorem CI.sp {b:Hp} {bs N a H nr} (f:bs.length=N) (h:CI b (vB bs) N a H):a=vR ((aC N).map λ(i:Nat)=>b.length+2+i)/\H.length=b.length+2+N/\
  (H++[O.list a]).length=b.length+2+N+1/\Sp b (H++[O.list a]++[O.list []]) N nr 0 0 bs []:=by
 obtain⟨c,g,rfl,hi⟩:=h;haveI e:(H++[O.list (vR ((aC N).map λ(i:Nat)=>b.length+2+i))]).length=b.length+2+N+1:=by simp;assumption
 haveI a:Ext b H:=Ext.trans (by rw[bF];exact aN _ _) c;refine⟨rfl,g,e,a.app.app,f,(c.app.app).get (by simp),⟨[],rfl,(c.app.app).get (by simp[vZ])⟩,?_,?_,by rw[←e,aR];rfl,by simp,?_⟩
 ·rw[←g,Ce (by rw[aR];rfl),aR];rfl
 ·intro i d;exact⟨[],by simp,aK _,((aN H _).app).get (hi i d)⟩
 ·simpa[←f]using List.count_le_length
noncomputable def e54 (a:Hp) (g d N:Nat) (e f h i b c:Option V):En:=
 Sx g d a.length (a.length+1) (a.length+2+N) (a.length+2+N+1) [e,f,h,i,b,c]
section
variable {n:Nat} {H:Hp} {Q:V->Hp->Prop} {g:Nat} {R:GR} {G:Gr}
theorem Gy {L:Nat} {bs:List Bool} (o:kF H g R G) (W:G.Wf) (hb:bs.length=G.names.length) (hk:H[L]? =V9 (.list (vB bs)))
  (K:∀r f a,Ext H f->H.length<=r->a.length=G.names.length->f[r]? =V9 (.list (vB a))->Q (.ref r) f):
  F (n+1) 54 [.ref g,.ref L] H Q:=by
 injection 0 n H Q g R G L bs with o W hb hk K;refine Jm ?_;unfold U1;have hN:=W.n;have ag:(vB bs).length<=iH:=by rw[Ab,hb];exact aE hN (by decide)
 have e1:((H++[O.list (vB bs)])++[O.list []])[H.length]? =V9 (.list (vB bs)):=by simp
 exists list_list hk,aQ (aP _),cU e1;refine jb (CI H (vB bs)) ⟨Ext.yc,by simp,rfl,by lia⟩ (λk M f h=>h.ext.get e1) ?_ ?_
 ·intro k v A M f h X c;exists aQ (aP _);exact c _ _ h.next
 ·intro M H1 h;rw[Ab,hb]at h;obtain⟨ae,l,m,b⟩:=h.sp (nr:=G.rules.length) hb;exists aQ (aP _);rw[m,l,aH];generalize H1++[O.list M]++[O.list []]=H2 at b;exists(o.rules.ext b.ext).app,cU ((o.ext b.ext).rl);refine cQ (σ:=Option V×Option V×Option V) (λs=>e54 H g L G.names.length s.1 s.2.1 s.2.2 Wa Wa Wa)
   (λk s f=>Sp H f G.names.length G.rules.length (2*k) k bs []) (Wa,Wa,Wa) rfl b (λk s f h=>(o.ext h.ext).rl) ?_ ?_
  ·intro k v A s f b X c;injection 0 k v s f X with A b c;obtain⟨U,N,i⟩:=vK o W A;rw[N];unfold e54;exists((o.ru i).ext b.ext).right.app,rf;refine cQ (σ:=Int×Option V) (λt=>e54 H g L G.names.length (V9 (.ref (R.rr.getD k 0))) (V9 (.int t.1)) t.2 Wa Wa Wa)
    (λj t f=>Sp H f G.names.length G.rules.length (2*k+j) k bs []) (0,s.2.2) rfl b (λ_ _ _ _=>trivial) ?_ ?_
   ·intro j v A t H3 a q e;obtain⟨s,p,N⟩:=gU A;rw[N];have d:=i.sy s (dq p).2;unfold e54;walk_at "w";refine bO a.bg (a.b d) ?_
    induction bs.getD s Wc with
    |true=>exact e (t.1,V9 (.int s)) _ (a.mono (fY _))
    |false=>
     obtain⟨us,E,S,r⟩:=a.user d i.n;haveI hj:=cB p;haveI:=i.len;haveI:=i.QR;exists nD,bO a.ug (a.u d),cF S<|((o.ru i).ext a.ext).num.app,cR S (aE E (c7 (by lia)))
     exact e (t.1+1,V9 (.int s)) _ r
   ·intro t H3 a;obtain⟨ls,l,m⟩:=a.ls;have:=i.QR;have:=i.len;exists cF m<|cR m (by rw[kW];exact c7 (tc (zD (te l) i.QR)))
    rw[MM];exact c (V9 (.ref (R.rr.getD k 0)),V9 (.int t.1),t.2) _ ((a.QX (by simp[l])).mono (by rw[dL];lia))
  ·intro s H3 a;injection 0 s H3 with a;rw[eA,o.pP]at a;exists(o.rules.ext a.ext).app,cU ((o.ext a.ext).rl);refine cQ (σ:=Option V) (λt=>e54 H g L G.names.length t s.2.1 s.2.2 Wa Wa Wa)
    (λk s f=>∃bs p,Sp H f G.names.length G.rules.length (2*G.rules.length) G.rules.length bs p) s.1 rfl ⟨bs,[],a⟩ (λk s f h=>by obtain⟨_,_,h⟩:=h;exact(o.ext h.ext).rl) ?_ ?_
   ·intro k v A t f b X c;injection 0 k v t f X with A b c;obtain⟨U,N,i⟩:=vK o W A;rw[N];obtain⟨bs,p,b⟩:=b;obtain⟨ls,l,m⟩:=b.ls;have e:=(o.ru i).ext b.ext;exists e.num.app,bO m (mh (by rw[l];exact i.n));by_cases q:ls.getD k 0=0
    ·exists zj q,e.left.app,bO b.bg (b.b i.left)
     induction P:bs.getD U.left Wc with
     |true=>exact c (V9 (.ref (R.rr.getD k 0))) _ ⟨bs,p,b⟩
     |false=>
      have⟨z,d⟩:=b.find P i.left;exists e.left.app,fR b.bg (b.bn i.left),cF z<|((o.ru i).ext (b.ext.put (aK _))).left.app,cR z (b.qb hN)
      exact c (V9 (.ref (R.rr.getD k 0))) _ ⟨_,_,d⟩
    ·refine zk q ?_;exact c (V9 (.ref (R.rr.getD k 0))) _ ⟨bs,p,b⟩
   ·intro t H4 r;obtain⟨bs,p,r⟩:=r;walk_at "w";refine qM (σ:=Nat×Option V×Option V) (λw=>e54 H g L G.names.length t s.2.1 s.2.2 (V9 (.int w.1)) w.2.1 w.2.2)
     (λj w f=>∃bs p,Sp H f G.names.length G.rules.length (2*G.rules.length) G.rules.length bs p/\w.1<=p.length/\j+w.1=G.names.length) G.names.length (0,Wa,Wa) rfl ⟨_,_,r,aP _,rfl⟩ ?_
    intro j w H5 h KW aa;obtain⟨bs,p,d,ht,hj⟩:=h;exists len_list d.qg;rw[dL];by_cases q:w.1<p.length
    ·have C:p[w.1]<G.names.length:=d.ql _ (sF q);obtain⟨us,E,S,T⟩:=d.us _ C;haveI af:=W.r;haveI ah:=d.qn;exists HU (dP.2 q),bO d.qg (kX (aF q)),bO d.ug (d.u C),cU T;generalize p[w.1]=y at C T;refine cQ (σ:=Option V×Option V) (λu=>e54 H g L G.names.length t s.2.1 s.2.2 (V9 (.int w.1)) u.1 u.2)
      (λk u f=>∃bs J,Sp H f G.names.length G.rules.length (2*G.rules.length) G.rules.length bs J/\p.length<=J.length/\f[H.length+2+y]? =V9 (.list (vI us))) (w.2.1,w.2.2) rfl ⟨_,_,d,aK _,T⟩
      (λk u f h=>by obtain⟨_,_,_,_,h⟩:=h;exact h) ?_ ?_
     ·intro k v A u f h X c;obtain⟨bs,J,b,D,ac⟩:=h;obtain⟨x,hx,N⟩:=gU A;rw[N];have i:=W.at_ (aF (E x (dq hx).2));generalize G.rules[x]'(E x (dq hx).2)=U at i;obtain⟨ls,l,m⟩:=b.ls;haveI e:=b.QX (ls:=ls.set x (ls.getD x 0-1)) (nl':=G.rules.length) (by rw[bS];exact l);have e:=(R7 (z0))▸e;delta e54;exists bO m (mh (by rw[l];exact i.n))<|fR m (by rw[kW,l];exact i.n)
      have I:(f.set (H.length+1) (.list ((vZ ls).set x (.int (ls.getD x 0-1)))))[H.length+2+y]? =V9 (.list (vI us)):=(a8 ne2.symm).trans ac;generalize f.set (H.length+1) (.list ((vZ ls).set x (.int (ls.getD x 0-1))))=H6 at e I;obtain⟨ad,Y,Z⟩:=e.ls;haveI B:=o.ext e.ext;refine B.rules.app (bO B.rl (B.rg i) ((B.ru i).left.app (bO Z (mh (by rw[Y];exact i.n)) ?_)));by_cases q:ad.getD x 0=0
      ·exists zj q,bO e.bg (e.b i.left)
       induction P:bs.getD U.left Wc with
       |true=>exact c (V9 (.int x),V9 (.int U.left)) _ ⟨_,_,e,D,I⟩
       |false=>
        have⟨z,ab⟩:=e.find P i.left;exists fR e.bg (e.bn i.left),cF z<|cR z (e.qb hN)
        exact c (V9 (.int x),V9 (.int U.left)) _ ⟨_,_,ab,by rw[aH];exact kD D ta,by rw[a8 (ne4 C).symm,a8 ne1.symm];exact I⟩
      ·exact zk q (c (V9 (.int x),V9 (.int U.left)) _ ⟨_,_,e,D,I⟩)
     ·intro u H6 h;obtain⟨bs,J,b,D, -⟩:=h;exists gZ;exact aa (j-1) (w.1+1,u.1,u.2) _ (by lia) ⟨_,_,b,by lia,by lia⟩
    ·exact HV (ed.2 (dQ.2 (tv ‹_›))) (K _ _ _ d.ext (aK _) d.bl d.bg)
end
end
section
theorem dN {a b:V}:[a,b].length<=iH:=c7 (by decide:2<=60000)
noncomputable def gap (M:Nat) (l:List Nat):Nat:=(l.map λx=>2 ^ M-x).sum
theorem xg {M:Nat}:∀{l:List Nat} {i x:Nat},i<l.length->l.getD i 0<x->x<2 ^ M->gap M (l.set i x)<gap M l
 |[],i,x,hi,_,_=>by simp at hi
 |y::l,0,x,hi,a,b=>by exact Nat.add_lt_add_right (Nat.sub_lt_sub_left (dy a b) a) _
 |y::l,i+1,x,hi,a,b=>by haveI:=xg (M:=M) (l:=l) (i:=i) (x:=x) (by simpa using hi) (a) b;exact kB this _
theorem LZ {a b:Nat} (h:a|||b≠a):a<a|||b:=by
 haveI:a<=a|||b:=Nat.left_le_or
 lia
structure Ms (G:Gr) (fs:List Nat):Prop where
 len:fs.length=G.names.length
 lt:∀x∈fs,x<2 ^ G.tc
section
variable {n:Nat} {H:Hp} {Q:V->Hp->Prop} {g:Nat} {R:GR} {G:Gr}
theorem Ms.set {a:List Nat} (h:Ms G a) {i x:Nat} (b:x<2 ^ G.tc):Ms G (a.set i x):=by
 refine⟨by rw[bS];exact h.len,λy c=> ?_⟩;rcases List.mem_or_eq_of_mem_set c with q|q
 ·exact h.lt y q
 ·rw[q];exact b
theorem Ms.getD {fl:List Nat} (h:Ms G fl) (i:Nat):fl.getD i 0<2 ^ G.tc:=by
 rcases cZ i fl.length with q|q
 ·exact h.lt _ (dq (dX q)).2
 ·rw[bJ,bQ q];exact ki _
theorem Ms.get {fl:List Nat} (h:Ms G fl) {i:Nat} (hi:i<G.names.length):(vI fl)[i]? =V9 (.int (fl.getD i 0:Nat)):=jB (by rw[h.len];exact hi)
theorem Ms.ln {fl:List Nat} (h:Ms G fl) {i:Nat} (hi:i<G.names.length):i<(vI fl).length:=by rw[dL,h.len];exact hi
theorem uC (h:kF H g R G) (e:G.Wf)
  (K:∀r b c,Ext H b->H.length<=r->c.length=G.names.length->b[r]? =V9 (.list (vB c))->Q (.ref r) b):
  F (n+2) 55 [.ref g] H Q:=by
 refine Jl ?_;delta U0;haveI a:=h.ext (aN H [.list [.bool Wc]]);exists aQ (eW 1 _),a.hU.call (f:=78) rfl rfl<|jd a e,yq (v:=.bool Wc) (aR) (aE e.n (by decide))
 haveI d:Ext H (H++[O.list [V.bool Wc]]++[.list (aY G.names.length (.bool Wc))]):=(aN _ _).app;exact Gy (bs:=aY G.names.length Wc) (h.ext d) e (fP) (by rw[aR];simp[vB]) λr b c i j k l=>(K _ _ _ (d.trans i) (aE d.len j) k l)
theorem AZ {f:List Nat} {nu fi:Nat} {bs:List Bool} {e:List Nat} {M:Nat} (o:f.length<=2) (r:∀s∈f,s<bs.length) (m:e.length=bs.length) (p:bs.length<=20)
  (u:H[nu]? =V9 (.list (vB bs))) (j:H[fi]? =V9 (.list (vI e))) (q:∀x∈e,x<2 ^ M)
  (K:∀(x:Nat) b,x<2 ^ M->Q (.tup [.int x,.bool b]) H):
  F (n+1) 56 [.tup (vI f),.ref nu,.ref fi] H Q:=by
 refine Jk ?_;delta UZ;exists rf;refine cQ (σ:=Nat×Option V) (λt=>V9 (.tup (vI f))::xM nu fi (eI t.1 [t.2])) (λk t g=>g=H/\t.1<2 ^ M) (0,Wa) rfl ⟨rfl,ki _⟩ (λ_ _ _ _=>trivial) ?_ ?_
 ·intro k v w t g h x i;haveI b:=h.1;haveI l:=h.2;rw[b];obtain⟨s,o,b⟩:=gU w;rw[b];have a:=r s (dq o).2;haveI c:t.1|||e.getD s 0<2 ^ M:=l6 l (q _ (dq (dX (d:=0) (by rw[m];exact a))).2)
  walk_at "w";refine bO j (jB (by rw[m];exact a)) (lf (bO u (jC a) ?_))
  induction bs.getD s Wc with
  |true=>exact i (_,V9 (.int s)) _ ⟨rfl,c⟩
  |false=>exists aQ dN;exact K _ _ c
 ·intro t g h;haveI b:=h.1;haveI l:=h.2;rw[b];exists aQ dN;exact K _ _ l
structure Fi (H0:Hp) (G:Gr) (k:Nat) (fs:List Nat) (H:Hp):Prop where
 ext:Ext H0 H
 len:fs.length=k
 lt:∀x∈fs,x<2 ^ G.tc
 te:∀s:Nat,s<G.tc->s<k->fs[s]? =V9 (2 ^ s)
 L:H[H0.length]? =V9 (.list (vI fs))
theorem Fi.next {b k c H} (h:Fi b G k c H) {x:Nat} (g:x<2 ^ G.tc) (e:k<G.tc->x=2 ^ k):Fi b G (k+1) (c++[x]) (H.set b.length (.list (vI c++[.int x]))):=by
 refine⟨h.ext.put (aK _),by simp[h.len],?_,?_,?_⟩
 ·intro y a;rcases aZ.1 a with a|a
  ·exact h.lt y a
  ·simp at a;rw[a];exact g
 ·intro s d f;haveI a:=h.len;by_cases q':s<k
  ·rw[bH (ff q' (tf a))];exact h.te s d q'
  ·haveI:s=k:=by lia
   subst this;rw[bR (by lia)];simp[a,e d]
 ·rw[cH (by rw[h.L];rfl),iX]
theorem Fi.ms {b a H} (h:Fi b G G.names.length a H):Ms G a:=⟨h.len,h.lt⟩
theorem Fi.put {a b H} (h:Fi a G G.names.length b H) {i x:Nat} (hi:G.tc<=i) (d:x<2 ^ G.tc):Fi a G G.names.length (b.set i x) (H.set a.length (.list ((vI b).set i (.int x)))):=by
 refine⟨h.ext.put (aK _),by rw[bS];exact h.len,(h.ms.set d).lt,λs c h'=> ?_,?_⟩
 ·rw[eJ (j7 (ff c hi))];exact h.te s c h'
 ·rw[cH (by rw[h.L];rfl),wF]
noncomputable def PH (b:Bool):Nat:=match b with|true=>1|false=>0
theorem grow {a b c:Nat} {d:Bool} (e:a<b) (f:2*b+PH d<2*c+1):2*a+PH Wb<2*c+1:=by show 2*a+1<_;lia
noncomputable def e57 (g nu a:Nat) (c:Option V) (b:Bool) (d e:Option V):En:=uZ g nu a [c,V9 (.bool b),d,e]
theorem vj (i:kF H g R G) (x:G.Wf)
  (K:∀r c a,Ext H c->H.length<=r->Ms G a->(∀s:Nat,s<G.tc->a[s]? =V9 (2 ^ s))->c[r]? =V9 (.list (vI a))->Q (.ref r) c):
  F (n+3) 57 [.ref g] H Q:=by
 injection 0 n H Q g R G with i x K;refine Jj ?_;delta UY;haveI C:=x.n;haveI J:=x.M3;walk_at "w";refine uC i x λnu p bs b T u I=> ?_;haveI B:Ext H (p++[.list []]):=b.app;refine aQ (aP _) ((i.ext B).hU.call (f:=78) rfl rfl (jd (i.ext B) x (eg (c7 (tb C)) ?_)));refine cQ (σ:=Option V×List Nat) (λt=>uZ g nu p.length [t.1,Wa,Wa,Wa]) (λk t c=>Fi p G k t.2 c) (Wa,[]) rfl
  ⟨aN _ _,rfl,by simp,by lia,by exact aR⟩ (λ_ _ _ _=>trivial) ?_ ?_
 ·intro k v L t c h P d;obtain⟨a,E⟩:=gW L;rw[E];haveI e:=i.ext (b.trans h.ext);haveI j:=fB (l:=t.2) (k:=20) (by rw[h.len];exact tw (ff a C)) (by decide);exists cF h.L,e.hU.call (f:=79) rfl rfl,oS e;by_cases q:k<G.tc
  ·refine xn (dP.2 q) (wR (tc (ff a C)) (cR h.L j ?_));exact d (_,_) _ (h.next (Cy (by decide) q) (λ_=>rfl))
  ·refine xo (ed.2 (dQ.2 (tv ‹_›))) (cR h.L j ?_);exact d (_,t.2++[0]) _ (h.next (ki _) (λh=>absurd h q))
 ·intro t W N;rw[aB,aU]at N;walk_at "w";refine qM (σ:=Bool×Option V×Option V×List Nat) (λs=>e57 g nu p.length t.1 s.1 s.2.1 s.2.2.1) (λj s c=>Fi p G G.names.length s.2.2.2 c/\j=2*gap G.tc s.2.2.2+PH s.1)
   _ (Wb,Wa,Wa,t.2) rfl ⟨N,rfl⟩ ?_
  intro j s O h X r;obtain⟨z,rfl⟩:=h;have A:Ext H O:=b.trans z.ext;haveI e:=i.ext A;delta e57
  induction S:s.1 with
  |false=>exact K _ _ _ A b.len z.ms (λs a=>z.te s a (uV a J)) z.L
  |true=>
   haveI r:=(S)▸r;exists e.rules.app,cU e.rl;refine cQ (σ:=Bool×Option V×Option V×List Nat) (λs=>e57 g nu p.length t.1 s.1 s.2.1 s.2.2.1)
    (λk s' c=>Fi p G G.names.length s'.2.2.2 c/\2*gap G.tc s'.2.2.2+PH s'.1<2*gap G.tc s.2.2.2+1) (Wc,s.2.1,s.2.2.1,s.2.2.2) rfl ⟨z,dt _⟩ (λk s c h=>(i.ext (b.trans h.1.ext)).rl) ?_ ?_
   ·intro k v L s' c h P d;obtain⟨w,E,o⟩:=vK i x L;rw[E];rcases h with⟨a,j⟩;have D:=(i.ru o).ext (b.trans a.ext);delta e57;exists D.left.app,bO a.L (a.ms.get o.left),D.right.app;refine AZ (M:=G.tc) o.len (by rw[u];exact o.sy) (by rw[u,a.ms.len]) (by rw[u];exact C) (a.ext.get I) a.L a.lt λy Y U=>(lf (D.left.app (bO a.L (a.ms.get o.left) ?_)));by_cases q:s'.2.2.2.getD w.left 0|||y=s'.2.2.2.getD w.left 0
    ·exact kv (by rw[q]) (d (s'.1,V9 (.ref (R.rr.getD k 0)),V9 (.int (s'.2.2.2.getD w.left 0|||y:Nat)),s'.2.2.2) _ ⟨a,j⟩)
    ·haveI m:=l6 (a.ms.getD w.left) U;exists nT (λh=>q (Pg.1 h)),D.left.app,fR a.L (a.ms.ln o.left);exact d (Wb,V9 (.ref (R.rr.getD k 0)),V9 (.int (s'.2.2.2.getD w.left 0|||y:Nat)),s'.2.2.2.set w.left (s'.2.2.2.getD w.left 0|||y)) _
      ⟨a.put o.tc m,grow (xg (by rw[a.len];exact o.left) (LZ q) m) j⟩
   ·intro s' a h;exact r _ _ _ h.2 ⟨h.1,rfl⟩
end
end
section
def Sb (a b:Nat):Prop:=∀i,a.testBit i=Wb->b.testBit i=Wb
theorem CZ {a b:Nat}:a|||b=a↔Sb b a:=by
 constructor
 ·intro h i hi;rw[←h,fo,hi,zC]
 ·intro h;apply CA;intro i;rw[fo]
  induction q:b.testBit i with
  |false=>simp
  |true=>rw[h i q];rfl
theorem Sb.or {a b c:Nat} (h:Sb a c) (k:Sb b c):Sb (a|||b) c:=λi hi=>by
 rw[fo]at hi;rcases kl.1 hi with q|q
 ·exact h i q
 ·exact k i q
theorem Sb.trans {a b c:Nat} (h:Sb a b) (k:Sb b c):Sb a c:=λi hi=>k i (h i hi)
namespace Gr
noncomputable def ob (tc:Nat) (a:Ru):Option (Nat×(Nat ⊕ Nat)):=match a.right with
 |[x]=>V9 (x,.inl a.left)
 |[y,x]=>if x<tc then V9 (y,.inr x) else V9 (x,.inl a.left)
 |_=>Wa
noncomputable def rA (G:Gr):Prop:=∀a∈G.rules,a.right=[]\/(∃x,a.right=[x]/\G.tc<=x)\/(∃y x,a.right=[y,x]/\x<G.tc/\G.tc<=y)\/(∃y x,a.right=[y,x]/\G.tc<=x/\y<G.tc)
noncomputable def val (fl:List Nat):Nat ⊕ Nat->Nat
 | .inl l=>fl.getD l 0
 | .inr t=>2 ^ t
noncomputable def Mo (tc:Nat) (fl:List Nat) (a:Ru):Prop:=∀X s,ob tc a=V9 (X,s)->Sb (val fl s) (fl.getD X 0)
noncomputable def qu (G:Gr) (U:Nat->Nat):Prop:=∀a∈G.rules,∀X s,ob G.tc a=V9 (X,s)->Sb (match s with| .inl l=>U l| .inr t=>2 ^ t) (U X)
end Gr
noncomputable def nU (tc:Nat) (fi:List Nat) (nu:List Bool) (s:Nat×List Nat×Bool) (x:Nat):Nat×List Nat×Bool:=
 if x<tc then(fi.getD x 0,s.2.1,s.2.2)
 else(if nu.getD x Wc then s.1|||fi.getD x 0 else fi.getD x 0,
  if s.2.1.getD x 0|||s.1=s.2.1.getD x 0 then s.2.1 else s.2.1.set x (s.2.1.getD x 0|||s.1),
  s.2.2|| !decide (s.2.1.getD x 0|||s.1=s.2.1.getD x 0))
section
variable {n:Nat} {H:Hp} {Q:V->Hp->Prop} {g:Nat} {R:GR} {G:Gr}
theorem Qw {fi fl:List Nat} {nu:List Bool} {c:Ru} {b:Bool} (d:∀s:Nat,s<G.tc->fi[s]? =V9 (2 ^ s)) (a:c.right=[]\/(∃x,c.right=[x]/\G.tc<=x)\/(∃y x,c.right=[y,x]/\x<G.tc/\G.tc<=y)\/(∃y x,c.right=[y,x]/\G.tc<=x/\y<G.tc)):
  (c.right.reverse.foldl (nU G.tc fi nu) (fl.getD c.left 0,fl,b)).2=match Gr.ob G.tc c with
   |none=>(fl,b)
   |some (X,s)=>(if fl.getD X 0|||Gr.val fl s=fl.getD X 0 then fl else fl.set X (fl.getD X 0|||Gr.val fl s),b|| !decide (fl.getD X 0|||Gr.val fl s=fl.getD X 0)):=by
 injection 0 G fi fl nu c b with d a;rcases a with h|⟨x,h,a⟩|⟨y,x,h,a,e⟩|⟨y,x,h,a,e⟩
 ·simp[h,Gr.ob]
 ·simp[h,Gr.ob,nU,kS.2 a,Gr.val]
 ·simp only[h,Gr.ob,jk,Hi,ny,e8,dG,gy,if_pos a,Gr.val];rw[nU,nU,if_neg (kS.2 e),if_pos a,hV (d x a)];rfl
 ·simp only[h,Gr.ob,jk,Hi,ny,e8,dG,gy,if_neg (kS.2 a),Gr.val];rw[nU,if_pos e,nU,if_neg (kS.2 a)];rfl
structure Fo (H0:Hp) (r:Nat) (G:Gr) (fl:List Nat) (H:Hp):Prop where
 ext:Ext H0 H
 ms:Ms G fl
 L:H[r]? =V9 (.list (vI fl))
theorem Fo.put {a r fl H} (h:Fo a r G fl H) (b:a.length<=r) {i x:Nat} (c:x<2 ^ G.tc):Fo a r G (fl.set i x) (H.set r (.list ((vI fl).set i (.int x)))):=
 ⟨h.ext.put b,h.ms.set c,by rw[cH (by rw[h.L];rfl),wF]⟩
structure Tu (G:Gr) (fl:List Nat) (k:Nat) (fl':List Nat) (b:Bool):Prop where
 gap:2*gap G.tc fl'+PH b<2*gap G.tc fl+1
 no:b=Wc->fl'=fl/\∀i ru,i<k->G.rules[i]? =V9 ru->Gr.Mo G.tc fl ru
 up:∀U,G.qu U->∀i,Sb (fl'.getD i 0) (U i)
theorem QJ {r:Nat} {a:Ru} (b:fh G r a) {X s} (h:Gr.ob G.tc a=V9 (X,s)):X<G.names.length:=by
 injection 0 G r a X s with b h;apply b.sy;unfold Gr.ob at h;split at h
 ·next e=>cases h;simp[e]
 ·next e=>split at h<;>cases h<;>simp[e]
 ·exact nn h
theorem Tu.next {fl a:List Nat} {k:Nat} {b:Bool} {f:Ru} {z:Nat×List Nat×Bool} (h:Tu G fl k a b) (m:fh G k f) (o:Ms G a) (hz:Ms G z.2.1)
  (c:z.2=match Gr.ob G.tc f with
   |none=>(a,b)
   |some (X,s)=>(if a.getD X 0|||Gr.val a s=a.getD X 0 then a else a.set X (a.getD X 0|||Gr.val a s),b|| !decide (a.getD X 0|||Gr.val a s=a.getD X 0))):
  Tu G fl (k+1) z.2.1 z.2.2:=by
 injection 0 G fl a k b f z with h m o hz c;have d:(Gr.Mo G.tc a f)->Tu G fl (k+1) a b:=λj=>⟨h.gap,λe=>⟨(h.no e).1,λi g hi d=>by
  by_cases q:i=k
  ·subst q;rw[m.at_]at d;rw[←aA d];rw[←(h.no e).1];exact j
  ·exact(h.no e).2 i g (by omega+splitNatSub) d⟩,h.up⟩
 induction e:Gr.ob G.tc f with
 |none=>rw[e]at c;rw[c];exact d (λX s h'=>by rw[e]at h';exact nn h')
 |some p=>
  obtain⟨X,s⟩:=p;injection 0 X s with e;haveI j:=QJ m e;rw[←o.len]at j;rw[e]at c;by_cases q:a.getD X 0|||Gr.val a s=a.getD X 0
  ·simp only[q,if_true,decide_true,xJ,MD]at c;rw[c];exact d (λg s' h'=>by rw[e]at h';cases h';exact CZ.mp q)
  ·simp only[q,if_false,decide_false,LM,zC]at c;rw[c]at hz⊢;have n:a.getD X 0|||Gr.val a s<2 ^ G.tc:=by
    have:=hz.getD X;simpa[bJ,j]using this
   refine⟨grow (xg j (LZ q) n) h.gap,λh=>(by cases h),λU g i=> ?_⟩;by_cases q':i=X
   ·subst q';haveI:(a.set i (a.getD i 0|||Gr.val a s)).getD i 0=a.getD i 0|||Gr.val a s:=by simp[bJ,j]
    rw[this];refine(h.up U g i).or (Sb.trans ?_ (g f m.mem i s e))
    induction s with
    |inl l=>exact h.up U g l
    |inr t=>exact λ_ h=>h
   ·haveI:(a.set X (a.getD X 0|||Gr.val a s)).getD i 0=a.getD i 0:=by rw[bJ,eJ (dJ q'),←bJ]
    rw[this];exact h.up U g i
noncomputable def e58 (g nu fi a:Nat) (b:Bool) (c d e:Option V):En:=D9 g nu fi a [V9 (.bool b),c,d,e]
theorem KH {fi fl:List Nat} {nu:List Bool} {b:Bool} {c x:Nat} (a:Ms G fi) (e:Ms G fl) (d:c<2 ^ G.tc):(nU G.tc fi nu (c,fl,b) x).1<2 ^ G.tc:=by
 delta nU;split
 ·exact a.getD x
 ·dsimp only;split
  ·exact l6 d (a.getD x)
  ·exact a.getD x
structure In8 (H0:Hp) (r:Nat) (G:Gr) (s:Nat×List Nat×Bool) (H:Hp):Prop extends Fo H0 r G s.2.1 H where
 b:s.1<2 ^ G.tc
theorem uD (p:kF H g R G) (J:G.Wf) (Z:G.rA)
  (K:∀r m fl,Ext H m->H.length<=r->Ms G fl->m[r]? =V9 (.list (vI fl))->(∀t∈G.rules,Gr.Mo G.tc fl t)->
   (∀U,G.qu U->∀i,Sb (fl.getD i 0) (U i))->Q (.ref r) m):
  F (n+4) 58 [.ref g] H Q:=by
 injection 0 n H Q g R G with p J Z K;refine Ji ?_;unfold UX;have hN:=J.n;walk_at "w";refine uC p J λnu H1 bs M af T S=> ?_;walk_at "w";refine vj (p.ext M) J λfi l w C ae o ad r=> ?_;have e:=M.trans C;have N:Ext H (l++[.list [.int 0]]):=e.app;exists aQ (eW 1 _),(p.ext N).hU.call (f:=78) rfl rfl,jd (p.ext N) J,yq (v:=.int 0) (aR) (aE hN (by decide));have e0:(l++[O.list [V.int 0]]).length=l.length+1:=aH;have h4:Fo l (l.length+1) G (aY G.names.length 0) (l++[.list [.int 0]]++[.list (aY G.names.length (.int 0))]):=
  ⟨(aN _ _).app,⟨by exact fP,λx hx=>by rw[List.eq_of_mem_replicate hx];exact ki _⟩,by rw[←e0,aR];simp[vI]⟩
 rw[e0];generalize (l++[O.list [V.int 0]]++[.list (aY G.names.length (.int 0))])=H4 at h4⊢;refine qM (σ:=Bool×List Nat×Option V×Option V×Option V) (λs=>e58 g nu fi (l.length+1) s.1 s.2.2.1 s.2.2.2.1 s.2.2.2.2)
  (λj s m=>Fo l (l.length+1) G s.2.1 m/\j=2*gap G.tc s.2.1+PH s.1/\(s.1=Wc->∀t∈G.rules,Gr.Mo G.tc s.2.1 t)/\(∀U,G.qu U->∀i,Sb (s.2.1.getD i 0) (U i)))
   _ (Wb,_,Wa,Wa,Wa) rfl ⟨h4,rfl,nofun,λU _ i=>by
    have:(aY G.names.length 0).getD i 0=0:=by simp[bJ,iT];split<;>rfl
    rw[this];intro j a;simp at a⟩ ?_
 intro j s H5 h KW D;obtain⟨h5,rfl,U,aa⟩:=h;unfold e58;walk_at "w";have B:=e.trans h5.ext
 induction P:s.1 with
 |false=>walk_at "w";exact K _ _ _ B (Hg e.len) h5.ms h5.L (U P) aa
 |true=>
  haveI D:=(P)▸D;exists(p.ext B).rules.app,cU (p.ext B).rl;refine cQ (σ:=Bool×List Nat×Option V×Option V×Option V) (λs=>e58 g nu fi (l.length+1) s.1 s.2.2.1 s.2.2.2.1 s.2.2.2.2)
   (λk s' m=>Fo l (l.length+1) G s'.2.1 m/\Tu G s.2.1 k s'.2.1 s'.1) (Wc,s.2) rfl ⟨h5,dt _,λ_=>⟨rfl,by lia⟩,aa⟩ (λk s m h=>(p.ext (e.trans h.1.ext)).rl) ?_ ?_
  ·intro k v hv s' m h KK ac;obtain⟨t,e_,X⟩:=vK p J hv;rw[e_];obtain⟨y,I⟩:=h;have hR:=(p.ru X).ext (e.trans y.ext);unfold e58;exists hR.left.app,bO y.L (y.ms.get X.left),hR.right.app,KC;have Y:(vI t.right).reverse=vI t.right.reverse:=by unfold vI;rw[gx]
   rw[Y];refine cQ (σ:=Nat×List Nat×Bool×Option V) (λu=>e58 g nu fi (l.length+1) u.2.2.1 (V9 (.ref (R.rr.getD k 0))) (V9 (.int u.1)) u.2.2.2)
    (λj u m=>In8 l (l.length+1) G (u.1,u.2.1,u.2.2.1) m/\(u.1,u.2.1,u.2.2.1)=(t.right.reverse.take j).foldl (nU G.tc w bs) (s'.2.1.getD t.left 0,s'.2.1,s'.1)) (s'.2.1.getD t.left 0,s'.2.1,s'.1,s'.2.2.2.2) rfl
    ⟨⟨y,y.ms.getD _⟩,by rfl⟩ (λ_ _ _ _=>trivial) ?_ ?_
   ·intro j v hv u H6 h KJ q;obtain⟨x,hx,e_⟩:=gU hv;rw[e_];obtain⟨a,c⟩:=h;obtain⟨A,u,E,x7⟩:=u;dsimp only at a c;have d:=X.sy x (gw.1 (dq hx).2);have i:∀m,Fo l (l.length+1) G (nU G.tc w bs (A,u,E) x).2.1 m->KJ (e58 g nu fi (l.length+1) (nU G.tc w bs (A,u,E) x).2.2 (V9 (.ref (R.rr.getD k 0))) (V9 (.int (nU G.tc w bs (A,u,E) x).1)) (V9 (.int x))) m:=
     λm h=>q ((nU G.tc w bs (A,u,E) x).1,(nU G.tc w bs (A,u,E) x).2.1,(nU G.tc w bs (A,u,E) x).2.2,V9 (.int x)) m
      ⟨⟨h,KH o a.ms a.b⟩,by rw[bX,hx];simp only[eB,d6,dG,gy,←c]⟩
    clear q;have ab:=e.trans a.ext;have W:=p.ext ab;unfold e58 at i⊢;exists W.hU.call (f:=79) rfl rfl,oS W;by_cases q:x<G.tc
    ·simp only[nU,if_pos q]at i;exists li (dP.2 q),bO (a.ext.get r) (o.get d);exact i _ a.toFo
    ·simp only[nU,if_neg q]at i;exists jg (ed.2 (dQ.2 (tv ‹_›))),bO a.L (a.ms.get d),lf,bO a.L (a.ms.get d);by_cases q2:u.getD x 0|||A=u.getD x 0
     ·simp only[q2,if_true,decide_true,xJ,MD]at i;exists kv (by rw[q2]),bO ((C.trans a.ext).get S) (jC (by rw[T];exact d))
      cases h:bs.getD x Wc with
      |true=>simp only[h,if_true]at i;exists bO (a.ext.get r) (o.get d),lf;exact i _ a.toFo
      |false=>simp only[h,fK,if_false]at i;exact bO (a.ext.get r) (o.get d) (i _ a.toFo)
     ·simp only[q2,if_false,decide_false,LM,zC]at i;have L:=a.toFo.put (ta) (i:=x) (l6 (a.ms.getD x) a.b);exists nT (λh=>q2 (Pg.1 h)),bO a.L (a.ms.get d),lf,fR a.L (a.ms.ln d)<|bO ((C.trans L.ext).get S) (jC (by rw[T];exact d))
      induction h:bs.getD x Wc with
      |true=>simp only[h,if_true]at i;exists bO (L.ext.get r) (o.get d),lf;exact i _ L
      |false=>simp only[h,fK,if_false]at i;exact bO (L.ext.get r) (o.get d) (i _ L)
   ·intro u H6 h;haveI a:=h.1;haveI c:=h.2;rw[dL,bZ]at c;haveI d:=Qw (G:=G) (fi:=w) (fl:=s'.2.1) (nu:=bs) (b:=s'.1) ad (Z t X.mem);haveI d:=(R7 (c))▸d;exact ac (u.2.2.1,u.2.1,_,_,u.2.2.2) _ ⟨a.toFo,I.next (z:=(u.1,u.2.1,u.2.2.1)) X y.ms a.ms d⟩
  ·intro s' H6 h;haveI y:=h.1;haveI I:=h.2;refine D _ s' _ I.gap ⟨y,rfl,λP t a=> ?_,I.up⟩;obtain⟨i,hi,rfl⟩:=dw a;rw[(I.no P).1];exact(I.no P).2 i _ (by rw[eA,p.pP];exact hi) (aF hi)
end
end
section
structure Tr (rows:List Nat) (k:Nat) (fd:List Nat):Prop where
 len:fd.length=rows.length
 sub:∀i,Sb (rows.getD i 0) (fd.getD i 0)
 tr:∀i m j,m<k->(fd.getD i 0).testBit m=Wb->(fd.getD m 0).testBit j=Wb->(fd.getD i 0).testBit j=Wb
 up:∀P:Nat->Nat->Prop,(∀i m j,P i m->P m j->P i j)->(∀i j,(rows.getD i 0).testBit j=Wb->P i j)->∀i j,(fd.getD i 0).testBit j=Wb->P i j
structure xN (fd:List Nat) (k one:Nat) (f2:List Nat):Prop where
 len:f2.length=fd.length
 at_:∀i,f2.getD i 0=if i<one/\(fd.getD i 0).testBit k=Wb then fd.getD i 0|||fd.getD k 0 else fd.getD i 0
theorem xN.mid {fd b:List Nat} {k a:Nat} (h:xN fd k a b):b.getD k 0=fd.getD k 0:=by
 rw[h.at_];split
 ·exact Nat.or_self _
 ·rfl
theorem xN.one {fd b:List Nat} {k a:Nat} (h:xN fd k a b):b.getD a 0=fd.getD a 0:=by rw[h.at_,if_neg (λh=>cX _ h.1)]
theorem yK {l:List Nat} {i j x:Nat} (hi:i<l.length):(l.set i x).getD j 0=if j=i then x else l.getD j 0:=by
 by_cases q:j=i
 ·rw[q];simp[bJ,hi]
 ·rw[if_neg q,bJ,eJ (dJ q),←bJ]
theorem xN.keep {fd b:List Nat} {k a:Nat} (h:xN fd k a b) (c:¬(fd.getD a 0).testBit k=Wb):xN fd k (a+1) b:=by
 refine⟨h.len,λi=> ?_⟩;rw[h.at_];by_cases q:i=a
 ·rw[q];rw[if_neg (λh=>c h.2),if_neg (λh=>c h.2)]
 ·haveI:(i<a↔i<a+1):=tM q;simp only[this]
theorem xN.put {fd b:List Nat} {k a:Nat} (h:xN fd k a b) (c:(fd.getD a 0).testBit k=Wb) (d:a<fd.length):
  xN fd k (a+1) (b.set a (b.getD a 0|||b.getD k 0)):=by
 refine⟨by rw[bS];exact h.len,λi=> ?_⟩;rw[yK (by rw[h.len];exact d),h.one,h.mid];by_cases q:i=a
 ·rw[q];rw[if_pos rfl,if_pos ⟨by exact ts,c⟩]
 ·haveI:(i<a↔i<a+1):=tM q;rw[if_neg q,h.at_];simp only[this]
theorem Tr.next {rows fd g:List Nat} {k:Nat} (h:Tr rows k fd) (hi:xN fd k fd.length g):Tr rows (k+1) g:=by
 injection 0 rows fd g k with h hi;haveI hz:∀i,¬i<fd.length->fd.getD i 0=0:=λi hi=>by rw[bJ,bQ (tv hi)];rfl
 have l:∀i,g.getD i 0=if(fd.getD i 0).testBit k=Wb then fd.getD i 0|||fd.getD k 0 else fd.getD i 0:=λi=>by
  rw[hi.at_];by_cases q:i<fd.length
  ·simp only[q,true_and]
  ·simp[q,hz i q]
 have a:∀i j,(g.getD i 0).testBit j=Wb↔(fd.getD i 0).testBit j=Wb\/((fd.getD i 0).testBit k=Wb/\(fd.getD k 0).testBit j=Wb):=λi j=>by
  rw[l];split
  ·next q=>rw[fo,nB];simp only[q,true_and]
  ·next q=>simp only[q,fK,false_and,or_false]
 refine⟨hi.len.trans h.len,λi j d=>(a i j).2 (bL (h.sub i j d)),?_,?_⟩
 ·intro i m j n b c;injection 0 i m j with n b c;rw[a]at b c⊢;by_cases q:m=k
  ·subst q;haveI e:(fd.getD i 0).testBit m=Wb:=b.elim id (·.1);haveI d:(fd.getD m 0).testBit j=Wb:=c.elim id (·.2);exact bG ⟨e,d⟩
  ·haveI f:m<k:=by lia
   rcases b with b|⟨b,e⟩<;>rcases c with c|⟨c,d⟩
   ·exact bL (h.tr i m j f b c)
   ·exact bG ⟨h.tr i m k f b c,d⟩
   ·exact bG ⟨b,h.tr k m j f e c⟩
   ·exact bG ⟨b,d⟩
 ·intro P b c i j d;rcases(a i j).1 d with q|⟨q,q'⟩
  ·exact h.up P b c i j q
  ·exact b i k j (h.up P b c i k q) (h.up P b c k j q')
section
variable {n:Nat} {H:Hp} {Q:V->Hp->Prop}
structure TL (H0:Hp) (fd:List Nat) (H:Hp):Prop where
 ext:Ext H0 H
 L:H[H0.length]? =V9 (.list (vI fd))
theorem GT {x k:Nat}:x.testBit k=Wb↔((x / 2 ^ k % 2:Nat):Int)=1:=by rw[jo,decide_eq_true_iff];exact(eX (n:=1)).symm
theorem xw {rows:List Nat} {r:Nat} (l:rows.length<=20) (w:H[r]? =V9 (.list (vI rows)))
  (K:∀r' a fd,Ext H a->H.length<=r'->a[r']? =V9 (.list (vI fd))->Tr rows rows.length fd->Q (.ref r') a):
  F (n+1) 59 [.ref r] H Q:=by
 injection 0 n H Q rows r with l w K;refine Jh ?_;delta UW;haveI t:TL H rows (H++[.list (vI rows)]):=⟨aN _ _,aR⟩;exists list_list w<|len_list t.L
 rw[dL];refine eg (c7 (tb l)) ?_;refine cQ (σ:=List Nat×Option V×Option V) (λs=>xM r H.length [s.2.1,s.2.2]) (λk s a=>TL H s.1 a/\Tr rows k s.1) (rows,Wa,Wa) rfl
  ⟨t,rfl,λ_ _ h=>h,by lia,λ_ _ a=>a⟩ (λ_ _ _ _=>trivial) ?_ ?_
 ·intro k v p s y h C o;obtain⟨e,m⟩:=gW p;rw[m];haveI b:=h.1;haveI g:=h.2;haveI f:=g.len;exists len_list b.L;rw[dL];refine eg (c7 (tb (kD (te f) l))) ?_;refine cQ (σ:=List Nat×Option V) (λu=>xM r H.length (eI k [u.2])) (λj u a=>TL H u.1 a/\xN s.1 k j u.1) (s.1,s.2.2) rfl
   ⟨b,rfl,λi=>by rw[if_neg (λh=>eC _ h.1)]⟩ (λ_ _ _ _=>trivial) ?_ ?_
  ·intro j v p u z h B c;haveI x:=gW p;haveI d:=x.1;haveI m:=x.2;rw[m];haveI a:=h.1;haveI hi:=h.2;haveI i:j<u.1.length:=by rw[hi.len];exact d
   haveI A:k<u.1.length:=by rw[hi.len];exact ff e (tf f)
   exists bO a.L (jB i),As (tc (ff e l)),yh;by_cases q:(u.1.getD j 0).testBit k=Wb
   ·exists li (GT.mp q),bO a.L (jB i),bO a.L (jB A),lf,fR a.L (by rw[dL];exact i);exact c (_,V9 (.int j)) _ ⟨⟨a.ext.put (aK _),by rw[cH (by rw[a.L];rfl),wF]⟩,hi.put (by rw[←hi.one];exact q) d⟩
   ·refine jg (λh=>q (GT.mpr h)) ?_;exact c (u.1,V9 (.int j)) _ ⟨a,hi.keep (by rw[←hi.one];exact q)⟩
  ·intro u z h;haveI a:=h.1;haveI hi:=h.2;rw[aB,aU]at hi;exact o (u.1,V9 (.int k),u.2) _ ⟨a,g.next hi⟩
 ·intro s y h;haveI b:=h.1;haveI g:=h.2;rw[aB,aU]at g;exact K _ _ _ b.ext (aK _) b.L g
end
end
section
theorem gC {H:Hp} {i c a:Nat} {b:List (Nat×V)} {v:V} {m:En} {Q:Fl->En->Hp->Prop} (h:H[i]? =V9 (.inst c b)) (d:(pd.fld c).contains a=Wb) (e:b.length<=100)
  (K:Q .next m (H.set i (.inst c (cE b a v)))):rQ pd a v m Q (.ref i) H:=Cj.mk h d e K
theorem gj {Φ:d9} {H:Hp} {c f:Nat} {vs:List V} {Q:V->Hp->Prop} (b:pd.init c=V9 f)
  (K:Φ f (.ref H.length::vs) (H++[.inst c []]) (λv a=>v= .none/\Q (.ref H.length) a)):sj pd Φ c Q vs H:=DI.init b K
theorem mF {H:Hp} {i c:Nat} {a:List (Nat×V)} {b:List Nat} (h:H[i]? =V9 (.inst c a)) (e:(b.all λf=>(pv a f).isNone)=Wb):zH H i c b:=
 ⟨a,h,λf d=>eV.1 (bW.1 e f d)⟩
structure Ob (H0:Hp) (cl:Nat) (fs:List (Nat×V)) (H:Hp):Prop where
 ext:Ext H0 H
 at_:H[H0.length]? =V9 (.inst cl fs)
theorem Ob.new {a:Hp} {cl:Nat}:Ob a cl [] (a++[.inst cl []]):=⟨aN _ _,aR⟩
theorem Ob.put {a H:Hp} {cl:Nat} {b fs':List (Nat×V)} (h:Ob a cl b H):Ob a cl fs' (H.set a.length (.inst cl fs')):=
 ⟨h.ext.put (aK _),cH (by rw[h.at_];rfl)⟩
theorem Ob.grow {b H a:Hp} {cl:Nat} {c:List (Nat×V)} (h:Ob b cl c H) (e:Ext H a):Ob b cl c a:=⟨h.ext.trans e,e.get h.at_⟩
theorem Ob.set {b H:Hp} {cl:Nat} {d:List (Nat×V)} {a:Nat} {v:V} {m:En} {Q:Fl->En->Hp->Prop} (h:Ob b cl d H) (e:(pd.fld cl).contains a=Wb) (f:d.length<=100)
  (K:∀c,Ob b cl (cE d a v) c->(∀i,i≠b.length->c[i]? =H[i]?)->Q .next m c):rQ pd a v m Q (.ref b.length) H:=
 gC h.at_ e f (K _ h.put λi hi=>a8 (dJ hi))
theorem Ob.fld {c H:Hp} {cl a:Nat} {b:List (Nat×V)} {v:V} (h:Ob c cl b H) (d:(pd.fld cl).contains a=Wb) (e:pv b a=V9 v):iK H c.length a v:=⟨cl,b,h.at_,d,e⟩
def VV (G:Gr) (s j:Nat):Prop:=∃a∈G.rules,a.left=s/\a.right.head?=V9 j
structure Cl (G:Gr) (fd:List Nat):Prop where
 len:fd.length=G.names.length
 fst:∀s j,VV G s j->(fd.getD s 0).testBit j=Wb
 tr:∀i m j,m<G.names.length->(fd.getD i 0).testBit m=Wb->(fd.getD m 0).testBit j=Wb->(fd.getD i 0).testBit j=Wb
 up:∀P:Nat->Nat->Prop,(∀i m j,P i m->P m j->P i j)->(∀i j,VV G i j->P i j)->∀i j,(fd.getD i 0).testBit j=Wb->P i j
structure Hu (H:Hp) (c g:Nat) (fd:List Nat):Prop where
 hU:zH H c 15 [85,88,92]
 gr:iK H c 21 (.ref g)
 fi:∃f,iK H c 83 (.ref f)/\H[f]? =V9 (.list (vI fd))
theorem Hu.ext {H a:Hp} {c g fd} (h:Hu H c g fd) (e:Ext H a):Hu a c g fd:=by obtain⟨f,b,d⟩:=h.fi;exact⟨h.hU.ext e,h.gr.ext e,f,b.ext e,e.get d⟩
structure Rw (G:Gr) (k:Nat) (rows:List Nat):Prop where
 len:rows.length=G.names.length
 at_:∀s j,(rows.getD s 0).testBit j=Wb↔∃i ru,i<k/\G.rules[i]? =V9 ru/\ru.left=s/\ru.right.head?=V9 j
theorem Rw.keep {G:Gr} {k:Nat} {rows:List Nat} {d:Ru} (h:Rw G k rows) (g:G.rules[k]? =V9 d) (f:d.right.head?=Wa):Rw G (k+1) rows:=by
 refine⟨h.len,λs j=>(h.at_ s j).trans ⟨λ⟨i,r,c,a⟩=>⟨i,r,by exact t1 (tw c),a⟩,λ⟨i,r,c,a,e,b⟩=>⟨i,r,?_,a,e,b⟩⟩⟩;by_cases q:i=k
 ·subst q;rw[g]at a;obtain rfl:=aA a;rw[f]at b;exact nn b
 ·lia
theorem Rw.put {G:Gr} {k:Nat} {rows:List Nat} {c:Ru} {x:Nat} (h:Rw G k rows) (f:fh G k c) (g:c.right.head?=V9 x):
  Rw G (k+1) (rows.set c.left (rows.getD c.left 0|||2 ^ x)):=by
 injection 0 G k rows c x with h f g;refine⟨by rw[bS];exact h.len,λs j=> ?_⟩;rw[yK (by rw[h.len];exact f.left)];constructor
 ·intro a;by_cases q:s=c.left
  ·rw[if_pos q,fo,nB]at a;rcases a with a|a
   ·obtain⟨i,r,l,b,e,d⟩:=(h.at_ _ _).1 a;exact⟨i,r,by lia,b,e.trans q.symm,d⟩
   ·rw[ey]at a;exact⟨k,c,by exact ts,f.at_,q.symm,by rw[g,of_decide_eq_true a]⟩
  ·rw[if_neg q]at a;obtain⟨i,r,l,b⟩:=(h.at_ _ _).1 a;exact⟨i,r,by lia,b⟩
 ·intro a;obtain⟨i,r,l,b,e,d⟩:=a;by_cases q':i=k
  ·subst q';rw[f.at_]at b;obtain rfl:=aA b;rw[g]at d;rw[←aA d];rw[if_pos e.symm,fo,ey];simp
  ·haveI:=(h.at_ s j).2 ⟨i,r,by lia,b,e,d⟩;split
   ·next q=>rw[fo,←q,this];rfl
   ·exact this
theorem Rw.cl {G:Gr} {rows fd:List Nat} (h:Rw G G.rules.length rows) (a:Tr rows rows.length fd):Cl G fd:=by
 injection 0 G rows fd with h a;have b:∀s j,VV G s j↔(rows.getD s 0).testBit j=Wb:=λs j=>by
  rw[h.at_];constructor
  ·intro b;obtain⟨e,d,b,c⟩:=b;obtain⟨i,hi,rfl⟩:=dw d;exact⟨i,_,hi,aF hi,b,c⟩
  ·intro b;obtain⟨i,e,_,b,c,d⟩:=b;exact⟨e,aO b,c,d⟩
 exact⟨a.len.trans h.len,λs j c=>a.sub s j ((b s j).1 c),λi m j d=>a.tr i m j (by rw[h.len];exact d),λP d c=>a.up P d (λi j e=>c i j ((b i j).2 e))⟩
section
variable {n:Nat} {H:Hp} {Q:V->Hp->Prop} {g:Nat} {R:GR} {G:Gr}
theorem Aw (t:kF H g R G) (m:G.Wf) (K:∀c a fd,Ext H a->H.length<=c->Hu a c g fd->Cl G fd->Q (.ref c) a):
  sj pd (F (n+2)) 15 Q [.ref g] H:=by
 injection 0 n H Q g R G with t m K;refine gj rfl (Je ?_);delta UT;walk_at "w";refine Ob.new.set rfl (aJ rfl) λq o _=> ?_;have c:=t.ext (o.ext.app (l:=[.list [.int 0]]));exists aQ (eW 1 _),c.hU.call (f:=78) rfl rfl<|jd c m,yq (v:=.int 0) (aR) (aE m.n (by decide))
 haveI y:TL (q++[O.list [V.int 0]]) (aY G.names.length 0) (q++[O.list [V.int 0]]++[.list (aY G.names.length (.int 0))]):=
  ⟨aN _ _,by rw[aR];simp[vI]⟩
 have e:=o.grow (aN q [.list [.int 0]]);generalize q++[O.list [V.int 0]]=A at y e c;haveI p:=c.ext y.ext;refine p.rules.app (cU p.rl ?_);refine cQ (σ:=List Nat×Option V) (λs=>uZ H.length g A.length [s.2]) (λk s a=>TL A s.1 a/\Rw G k s.1) (_,Wa) rfl
  ⟨y,by exact fP,λs j=>⟨λh=>(by simp[bJ,iT]at h;split at h<;>simp at h),λ⟨i,w,h,_⟩=>absurd h (eC _)⟩⟩
  (λk s a h=>(c.ext h.1.ext).rl) ?_ ?_
 ·intro k v D s B h E j;haveI d:=h.1;haveI a:=h.2;obtain⟨w,C,i⟩:=vK t m D;rw[C];have r:=(c.ru i).ext d.ext;exists r.right.app,sV;rw[dL]
  induction u:w.right with
  |nil=>refine jg (by decide) ?_;exact j (s.1,_) _ ⟨d,a.keep i.at_ (by rw[u];rfl)⟩
  |cons x xs=>haveI b:=r.right;rw[u]at b;exists li (by simp),r.left.app,bO d.L (jB (by rw[a.len];exact i.left)),b.app;delta vI;rw[cS];haveI z:=i.sy x (by rw[u];exact aS ..);refine wR (by haveI:=m.n;exact tc (ff z this)) (lf (r.left.app (fR d.L (by rw[dL,a.len];exact i.left) ?_)));exact j (s.1.set w.left (s.1.getD w.left 0|||2 ^ x),V9 (.ref (R.rr.getD k 0))) _ ⟨⟨d.ext.put (aK _),by rw[cH (by rw[d.L];rfl),wF]⟩,a.put i (by rw[u];rfl)⟩
 ·intro s B h;haveI d:=h.1;haveI a:=h.2;rw[eA,t.pP]at a;walk_at "w";refine xw (rows:=s.1) (by rw[a.len];exact m.n) d.L λr' w fd k j u v=> ?_;refine((e.grow d.ext).grow k).set rfl (aJ rfl) λx b i=>(⟨rfl,K _ _ fd b.ext (aK _) ⟨mF b.at_ rfl,b.fld rfl rfl,r',b.fld rfl rfl,(i _ ?_).trans u⟩ (a.cl v)⟩);haveI:=(e.grow d.ext);haveI r:=ez this.at_;exact j7 (ff r j)
end
end
section
noncomputable def sl (i:Nat):List Nat->List Nat
 |[]=>[i]
 |j::r=>if i<=j then i::j::r else j::sl i r
noncomputable def kE:List Nat->List Nat
 |[]=>[]
 |i::r=>sl i (kE r)
theorem FZ (i:Nat):∀l:List Nat,insI i (l.map λ(x:Nat)=>(x:Int))=(sl i l).map λ(x:Nat)=>(x:Int):=by
 intro l
 induction l with
 |nil=>exact rfl
 |cons j r a=>
  skip
  simp only[cS,insI,sl];by_cases h:i<=j
  ·rw[if_pos (by lia),if_pos h];rfl
  ·rw[if_neg (by lia),if_neg h,a];rfl
theorem CT:∀l:List Nat,sortI (l.map λ(x:Nat)=>(x:Int))=(kE l).map λ(x:Nat)=>(x:Int):=by
 intro l
 induction l with
 |nil=>exact rfl
 |cons i r a=>rw[cS,sortI,a,FZ];rfl
theorem jx:∀l:List Nat,intsOf (vI l)=V9 (l.map λ(x:Nat)=>(x:Int)):=by
 intro l
 induction l with
 |nil=>exact rfl
 |cons i r a=>
  skip
  show(intsOf (vI r)).map _=_;rw[a];rfl
theorem Ah (l:List Nat):(sortI (l.map λ(x:Nat)=>(x:Int))).map V.int=vI (kE l):=by rw[CT,cI];rfl
theorem yo {i x:Nat}:∀{l:List Nat},x∈sl i l↔x=i\/x∈l:=by
 intro l
 induction l with
 |nil=>simp[sl]
 |cons j r a=>
  skip
  dsimp only[sl];split
  ·simp
  ·rw[bD,a,bD];constructor
   ·rintro(h|h|h)<;>simp[h]
   ·rintro(h|h|h)<;>simp[h]
theorem iq {x:Nat}:∀{l:List Nat},x∈kE l↔x∈l:=by
 intro l
 induction l with
 |nil=>exact Iff.rfl
 |cons i r a=>rw[kE,yo,a,bD]
theorem FY {i:Nat}:∀{l:List Nat},(sl i l).length=l.length+1:=by
 intro l
 induction l with
 |nil=>exact rfl
 |cons j r a=>
  skip
  dsimp only[sl];split
  ·rfl
  ·rw[dF,a];rfl
theorem j1:∀{l:List Nat},(kE l).length=l.length:=by
 intro l
 induction l with
 |nil=>exact rfl
 |cons i r a=>rw[kE,FY,a];rfl
theorem lV {H:Hp} {x:Nat}:∀{l:List Nat},g6 (λy=>g0 H 6 y (.int x)) (vI l)=V9 (decide (x∈l)):=by
 intro l
 induction l with
 |nil=>exact rfl
 |cons j r c=>
  skip
  show(match g0 H 6 (.int j) (.int x),g6 (λy=>g0 H 6 y (.int x)) (vI r)with|some a,V9 b=>V9 (a||b)|_,_=>Wa)=_;rw[c,xl];simp only[bD,oG];congr 2;exact decide_eq_decide.2 ⟨λh=>by lia,λh=>by lia⟩
section
variable {H:Hp} {Q:V->Hp->Prop}
theorem Ix {l:List Nat} (a:l.length<64) (K:Q (.ref H.length) (H++[.list (vI (kE l))])):io 3 [.tup (vI l)] H Q:=by refine Ai (jx l) (by simpa using a) ?_;rw[Ah];exact K
theorem tF {i:Nat} {l:List Nat} (h:H[i]? =V9 (.list (vI l))) (a:l.length<64) (K:Q (.ref H.length) (H++[.list (vI (kE l))])):io 3 [.ref i] H Q:=by refine xY h (jx l) (by simpa using a) ?_;rw[Ah];exact K
end
namespace Gr
noncomputable def bU (G:Gr) (x:Nat):Option Nat:=(G.owners[x]?).bind λr=>(G.rules[r]?).bind λa=>a.right[x-G.off r]?
noncomputable def nZ (G:Gr) (x:Nat):Int:=match G.bU x with
 |some s=>s
 |none=> -1
noncomputable def gI (G:Gr) (x:Nat):Nat:=G.owners.getD x 0
noncomputable def dM (G:Gr) (x:Nat):Prop:=∃r d a,fh G r a/\d<=a.right.length/\x=G.off r+d
noncomputable def ga (G:Gr) (fd:List Nat) (ks:List Nat):Nat:=ks.foldl (λm x=>match G.bU x with|some s=>m|||2 ^ s|||fd.getD s 0|none=>m) 0
noncomputable def Ci (G:Gr) (ks:List Nat) (s:Nat):List Nat:=((G.lj s).map G.off).filter λx=> !decide (x∈ks)
noncomputable def kA (G:Gr) (fd:List Nat) (ks:List Nat):List Nat:=(jM (G.ga fd ks)).flatMap (G.Ci ks)
noncomputable def dO (G:Gr) (fd:List Nat) (ks:List Nat):List Nat:=kE ks++kE (G.kA fd ks)
end Gr
section
variable {G:Gr}
theorem fh.item {r d:Nat} {a:Ru} (h:fh G r a) (hd:d<=a.right.length):G.dM (G.off r+d):=⟨r,d,a,h,hd,rfl⟩
theorem fh.after {r d:Nat} {a:Ru} (h:fh G r a) (hd:d<=a.right.length):G.bU (G.off r+d)=a.right[d]? :=by delta Gr.bU;rw[Gr.own h.at_ hd,l5,h.at_,l5,eO]
theorem fh.rule {r d:Nat} {a:Ru} (h:fh G r a) (hd:d<=a.right.length):G.gI (G.off r+d)=r:=hV (Gr.own h.at_ hd)
theorem zV {fd:List Nat} {j:Nat}:∀{ks:List Nat} {m:Nat},(ks.foldl (λm x=>match G.bU x with|some s=>m|||2 ^ s|||fd.getD s 0|none=>m) m).testBit j=Wb↔
  m.testBit j=Wb\/∃x∈ks,∃s,G.bU x=V9 s/\(j=s\/(fd.getD s 0).testBit j=Wb):=by
 intro ks
 induction ks with
 |nil=>intro m;simp
 |cons x ks c=>
  intro m;rw[dG,c];constructor
  ·rintro(h|⟨y,a,h⟩)
   ·cases q:G.bU x with
    |none=>haveI h:=(q)▸h;exact bL h
    |some s=>
     rw[q]at h;simp only[fo,nB,ey,decide_eq_true_eq]at h;rcases h with(h|h)|h
     ·exact bL h
     ·exact bG ⟨x,aS ..,s,q,bL h.symm⟩
     ·exact bG ⟨x,aS ..,s,q,bG h⟩
   ·exact bG ⟨y,bA _ a,h⟩
  ·rintro(h|⟨y,a,s,d,b⟩)
   ·left
    cases q:G.bU x with
    |none=>exact h
    |some s=>simp only[fo,h,Pi]
   ·rcases bD.1 a with rfl|a
    ·left;rw[d];simp only[fo,nB,ey,decide_eq_true_eq];rcases b with rfl|b
     ·exact bL (bG rfl)
     ·exact bG b
    ·exact bG ⟨y,a,s,d,b⟩
theorem mf {fd ks:List Nat} {j:Nat}:(G.ga fd ks).testBit j=Wb↔∃x∈ks,∃s,G.bU x=V9 s/\(j=s\/(fd.getD s 0).testBit j=Wb):=by delta Gr.ga;rw[zV];simp
theorem Cl.lt {fd:List Nat} (h:Cl G fd) (f:G.Wf) {s j:Nat} (d:(fd.getD s 0).testBit j=Wb):j<G.names.length:=by
 refine h.up (λ_ j=>j<G.names.length) (λ_ _ _ _ h=>h) ?_ s j d;rintro i j ⟨c,e, -,b⟩;refine(f.lt c e).2.2.2 j ?_
 induction q:c.right with
 |nil=>rw[q]at b;exact nn b
 |cons a l=>rw[q]at b;rw[aA b];exact aS ..
theorem lX (a:G.Wf) {x s:Nat} (h:G.bU x=V9 s):s<G.names.length:=by
 injection 0 G x s with a h;unfold Gr.bU at h
 induction q:G.owners[x]? with
 |none=>rw[q]at h;exact nn h
 |some r=>
  rw[q,l5]at h
  induction q':G.rules[r]? with
  |none=>rw[q']at h;exact nn h
  |some b=>rw[q',l5]at h;exact(a.at_ q').sy s (aO h)
theorem vz {fd ks:List Nat} (d:Cl G fd) (b:G.Wf) {j:Nat} (h:(G.ga fd ks).testBit j=Wb):j<G.names.length:=by
 obtain⟨x, -,s,c,a⟩:=mf.mp h;rcases a with rfl|a
 ·exact lX b c
 ·exact d.lt b a
theorem vA {fd ks:List Nat} (b:Cl G fd) (a:G.Wf):G.ga fd ks<2 ^ 64:=by
 apply Nat.lt_pow_two_of_testBit;intro i hi
 induction q:(G.ga fd ks).testBit i with
 |false=>rfl
 |true=>haveI:=vz b a q;haveI:=a.n;lia
theorem j9 {m i:Nat}:i∈jM m↔m.testBit i=Wb:=by delta jM;rw[aG,aW];refine⟨λh=>h.2,λh=>⟨?_,h⟩⟩;haveI a:2 ^ i<=m:=Nat.ge_two_pow_of_testBit h;haveI b:i<2 ^ i:=DX;exact ff b a
theorem DC {m:Nat} (h:m<2 ^ 64):(jM m).length<=64:=by
 rcases cZ 64 m with q|q
 ·rw[←zd (k:=64) (tw q) h];exact wh (aK _)
 ·exact aE (bI _ _) (by simpa using q)
theorem ko {s k:Nat}:k∈G.lj s↔∃c,G.rules[k]? =V9 c/\c.left=s:=by
 delta Gr.lj;rw[aG,aW];constructor
 ·rintro⟨a,b⟩;refine⟨_,aF a,?_⟩;rw[aF a]at b;simpa using b
 ·intro a;obtain⟨c,a,b⟩:=a;exact⟨cB a,by rw[a];simpa using b⟩
end
section
variable {n:Nat} {H:Hp} {Q:V->Hp->Prop} {g c:Nat} {R:GR} {G:Gr} {fd:List Nat}
theorem uE {x:Nat} (b:kF H g R G) (a:G.dM x) (K:Q (.int (G.nZ x)) H):F (n+1) 51 [.ref g,.int x] H Q:=by
 obtain⟨r,d,c,a,hd,rfl⟩:=a;refine Lc b a hd ?_;haveI:Gr.SH c d=G.nZ (G.off r+d):=by delta Gr.SH Gr.nZ;rw[a.after hd];try rfl
 rw[this];exact K
theorem Gw {ks:List Nat} (i:Hu H c g fd) (o:kF H g R G) (d:Cl G fd) (r:G.Wf) (u:∀x∈ks,G.dM x) (z:ks.length<64) (K:Q (.int (G.ga fd ks:Nat)) H):
  F (n+2) 63 [.ref c,.tup (vI ks)] H Q:=by
 injection 0 n H Q g c R G fd ks with i o d r u z K;refine Jd ?_;delta US;exists rf;refine cQ (σ:=Nat×Option V×Option V) (λs=>kP c (V9 (.tup (vI ks))::eI s.1 [s.2.1,s.2.2])) (λk s e=>e=H/\s.1=G.ga fd (ks.take k)) (0,Wa,Wa) rfl ⟨rfl,rfl⟩ (λ_ _ _ _=>trivial) ?_ ?_
 ·intro k v p s e h w b;injection 0 k v s e w with p h b;obtain⟨j,h⟩:=h;rw[j];obtain⟨x,t,rfl⟩:=gU p;injection 0 x with t p;have a:G.ga fd (ks.take (k+1))=match G.bU x with|some y=>s.1|||2 ^ y|||fd.getD y 0|none=>s.1:=by
   rw[h];delta Gr.ga;rw[bX,t];simp only[eB,d6,dG,gy]
  exists i.gr.app,o.hU.call (f:=84) rfl rfl,uE o (u x (dq t).2);delta Gr.nZ
  induction q:G.bU x with
  |none=>rw[q]at a;exact jg (by decide) (b (s.1,V9 (.int x),V9 (.int (-1))) _ ⟨rfl,a.symm⟩)
  |some y=>rw[q]at a;haveI l:=i.fi.choose_spec.1;haveI m:=i.fi.choose_spec.2;haveI v:=lX r q;exists li (dC _),wR (by haveI:=r.n;exact tc (ff v this)),lf,l.app,bO m (jB (by rw[d.len];exact v)),lf;exact b (_,V9 (.int x),V9 (.int y)) _ ⟨rfl,a.symm⟩
 ·intro s e h;obtain⟨j,h⟩:=h;rw[j];rw[dL,bZ]at h;rw[h];exact K
structure RP (H0:Hp) (r:Nat) (bs:List Nat) (l:List Nat) (H:Hp):Prop where
 ext:Ext H0 H
 B:H[r]? =V9 (.list (vI bs))
 L:H[H0.length]? =V9 (.list (vI l))
theorem RP.put {a H:Hp} {r:Nat} {bs l:List Nat} {x:Nat} (h:RP a r bs l H) (b:a.length<r):RP a r bs (l++[x]) (H.set a.length (.list (vI l++[.int x]))):=
 ⟨h.ext.put (aK _),(a8 (cT b)).trans h.B,by rw[cH (by rw[h.L];rfl),iX]⟩
theorem Ld {ks:List Nat} (M:Hu H c g fd) (N:kF H g R G) (m:Cl G fd) (o:G.Wf) (hk:∀x∈ks,G.dM x) (hl:ks.length<64) (ha:(G.kA fd ks).length<64)
  (K:∀r i,Ext H i->H.length<=r->i[r]? =V9 (.list (vI (kE (G.kA fd ks))))->Q (.ref r) i):
  F (n+3) 64 [.ref c,.tup (vI ks)] H Q:=by
 injection 0 n H Q g c R G fd ks with M N m o hk hl ha K;refine Jc ?_;delta UR;haveI z:Ext H (H++[.list []]):=aN _ _;haveI D:=M.ext z;exists aQ (aP _),D.hU.call (f:=85) rfl rfl,Gw D (N.ext z) m o hk hl;refine xy (vA m o) λr H1 B O Z=> ?_;refine cU Z ?_;haveI S:H.length<r:=by rw[aH]at O;exact O
 refine cQ (σ:=Option V×Option V×Option V) (λs=>kP c (V9 (.tup (vI ks))::kP H.length [s.1,s.2.1,s.2.2]))
  (λk s i=>∃l,RP H r (jM (G.ga fd ks)) l i/\l=((jM (G.ga fd ks)).take k).flatMap (G.Ci ks)/\l.length<=20*k) (Wa,Wa,Wa) rfl
  ⟨[],⟨z.trans B,Z,B.get aR⟩,rfl,aK _⟩ (λk s i h=>by obtain⟨l,h, -⟩:=h;exact h.B) ?_ ?_
 ·intro k v U s i h KK P;obtain⟨l,e,p,J⟩:=h;obtain⟨x,W,rfl⟩:=gU U;have X:=vz m o (j9.mp (dq W).2);haveI E:=N.ext e.ext;haveI aa:k<64:=a9 (cB W) (DC (vA m o));exists(M.ext e.ext).gr.app,E.hU.call (f:=86) rfl rfl,AV E o X,cU aR;refine cQ (σ:=Option V×Option V) (λu=>kP c (V9 (.tup (vI ks))::kP H.length (eI x [u.1,u.2])))
   (λj u L=>∃l',RP H r (jM (G.ga fd ks)) l' L/\L[i.length]? =V9 (.list (vI (G.lj x)))/\l'=l++(((G.lj x).take j).map G.off).filter (λx=> !decide (x∈ks))/\l'.length<=20*k+j) (s.2.1,s.2.2) rfl
   ⟨l,⟨e.ext.app,(aN _ _).get e.B,(aN _ _).get e.L⟩,aR,by exact(bY _).symm,J⟩ (λk s i h=>by obtain⟨l, -,h, -⟩:=h;exact h) ?_ ?_
  ·intro j v U u L h KJ C;obtain⟨l',t,A,b,w⟩:=h;obtain⟨y,Y,e_⟩:=gU U;rw[e_];haveI q_:=ko.mp (dq Y).2;haveI T:=q_.choose_spec.1;haveI O:=o.at_ T;haveI I:=N.ext t.ext;haveI hj:j<20:=a9 (cB Y) (aE (uF x) o.r);have a:∀l2,l2=l'++(if G.off y∈ks then [] else [G.off y])->l2=l++(((G.lj x).take (j+1)).map G.off).filter (λx=> !decide (x∈ks)):=λl2 h=>by
    rw[h,b,bX,Y];simp only[eB,bV,cS,gL,cY,bF];congr 2;by_cases q:G.off y∈ks<;>simp[q]
   exists(M.ext t.ext).gr.app,I.hU.call (f:=87) rfl rfl,AY (d:=0) I o O.n<|Ki lV
   by_cases q:G.off y∈ks
   ·rw[if_pos q]at a;exact kv q (C (V9 (.int y),V9 (.int (G.off y:Nat))) _ ⟨l',t,A,a _ (by simp),by lia⟩)
   ·rw[if_neg q]at a;exists nT q,cF t.L<|cR t.L (fB (k:=2000) (by lia) (by decide))
    haveI h:H.length<i.length:=by haveI:=ez e.L;exact this
    exact C (V9 (.int y),V9 (.int (G.off y:Nat))) _ ⟨l'++[G.off y],t.put S,(a8 (tn h)).trans A,a _ rfl,by rw[aH,cP];exact eN ‹_›⟩
  ·intro u L h;obtain⟨l',t,A,b,w⟩:=h;rw[dL,bZ]at b;rw[dL]at w;haveI a:=uF (G:=G) x;haveI:=o.r;exact P (V9 (.int x),u.1,u.2) _ ⟨l',t,by rw[b,p,bX,W];simp[Gr.Ci],by lia⟩
 ·intro s i h;obtain⟨l,e,p,J⟩:=h;rw[dL,bZ]at p;have a:l=G.kA fd ks:=p;have e:=(a)▸e;exists tF e.L ha;exact K _ _ e.ext.app e.ext.len aR
theorem K9 {ks:List Nat} (l:Hu H c g fd) (m:kF H g R G) (e:Cl G fd) (p:G.Wf) (o:∀x∈ks,G.dM x) (h:ks.length<64) (i:(G.kA fd ks).length<64)
  (K:∀r a,Ext H a->H.length<=r->a[r]? =V9 (.list (vI (G.dO fd ks)))->Q (.ref r) a):
  F (n+4) 65 [.ref c,.tup (vI ks)] H Q:=by
 refine Jb ?_;delta UQ;haveI a:Ext H (H++[.list (vI (kE ks))]):=aN _ _;haveI b:=l.ext a;exists Ix h,b.hU.call (f:=88) rfl rfl;refine Ld b (m.ext a) e p o h i λr q d s j=> ?_;exists wZ (d.get aR) j (fB (k:=64) (by rw[j1];exact tw h) (by decide)) (fB (k:=64) (by rw[j1];exact tw i) (by decide));refine K _ _ (a.trans d).app (a.trans d).len ?_;rw[aR];simp[Gr.dO,vI]
end
end
section
theorem j8:∀{N:Nat} {l:List Nat},l.Nodup->(∀x∈l,x<N)->l.length<=N
 |0,l,_,h=>by
  induction l with
  |nil=>exact vc
  |cons a l=>exact absurd (h a (aS ..)) (eC _)
 |N+1,l,b,h=>by
  by_cases q:N∈l
  ·haveI a:=j8 (N:=N) (b.erase N) (λx a=>by
    haveI:=(b.mem_erase_iff).1 a;haveI:=h x this.2;lia)
   haveI a:=(xI q)▸a;lia
  ·haveI:=j8 (N:=N) b (λx a=>by
    haveI:=h x a;haveI:x≠N:=λe=>q (e▸a);lia)
   exact kD this ta
theorem AE {i:Nat}:∀{l:List Nat},l.Nodup->i∉l->(sl i l).Nodup:=by
 intro l
 induction l with
 |nil=>intro _ _;simp[sl]
 |cons j r a=>
  intro h hi;haveI h:=c6.1 h;dsimp only[sl];split
  ·rw[c6,c6];exact⟨hi,h⟩
  ·rw[c6,yo];refine⟨λe=> ?_,a h.2 (λe=>hi (bA _ e))⟩;rcases e with rfl|e
   ·exact hi (aS ..)
   ·exact h.1 e
theorem lH:∀{l:List Nat},l.Nodup->(kE l).Nodup:=by
 intro l
 induction l with
 |nil=>intro _;exact gv
 |cons i r a=>intro h;haveI h:=c6.1 h;exact AE (a h.2) (λe=>h.1 (iq.mp e))
theorem qr {k v:V}:∀{a:List (V×V)},(∀p∈a,p.1≠k)->jW a k v=a++[(k,v)]:=by
 intro a
 induction a with
 |nil=>intro _;exact rfl
 |cons p r b=>intro h;rw[jW,if_neg (h p (aS ..)),b (λq a=>h q (bA _ a))];rfl
noncomputable def dI (f:Nat->V) (a:List Nat):List (V×V):=a.map λ(s:Nat)=>(.int s,f s)
theorem Gq {f:Nat->V} {a:List Nat} {s:Nat} (h:s∉a) {v:V} (d:v=f s):jW (dI f a) (.int s) v=dI f (a++[s]):=by
 rw[qr,d]
 ·simp[dI]
 ·intro p c;obtain⟨x,g,rfl⟩:=aM.1 c;intro e;haveI b:((x:Nat):Int)=s:=V.int.inj e;exact h (by rw[←eX.1 b];exact g)
theorem Gp {f:Nat->V} {x:Nat}:∀{a:List Nat},gD (dI f a) (.int x)=if x∈a then V9 (f x) else Wa:=by
 intro a
 induction a with
 |nil=>exact rfl
 |cons s a b=>
  skip
  delta gD dI;rw[cS,du];by_cases q:s=x
  ·rw[q];simp
  ·haveI d:(decide ((V.int (s:Int))=V.int (x:Int)))=Wc:=decide_eq_false (λe=>q (eX.1 (V.int.inj e)));haveI c:=b;unfold gD dI at c;haveI e:(x=s)=False:=eq_false (dJ q);simp only[d,c,bD,e,false_or]
theorem Gn {f:Nat->V} {a:List Nat} {x:Nat} (h:∀s∈a,s<=1000000) (e:x<=1000000):nt (dI f a) (.int x)=Wb:=by delta nt;rw[eh];refine⟨decide_eq_true ⟨by lia,by lia⟩,bW.2 λp c=> ?_⟩;obtain⟨s,d,b⟩:=aM.1 c;rw[←b];haveI:=h s d;exact cL.2 ⟨decide_eq_true ⟨by lia,by lia⟩,rfl⟩
theorem xq {f:Nat->V} {a:List Nat}:(dI f a).map (·.1)=vI a:=by simp[dI,vI]
theorem Go {f:Nat->V} {a:List Nat}:(dI f a).length=a.length:=aB _
namespace Gr
noncomputable def iI (G:Gr) (xs:List Nat) (s:Nat):List Nat:=(xs.filter λx=>G.bU x==V9 s).map (·+1)
noncomputable def jv (G:Gr) (xs:List Nat):List Nat:=(xs.filter λx=>(G.bU x).isNone&&G.gI x != 0).map G.gI
end Gr
section
variable {n:Nat} {H:Hp} {Q:V->Hp->Prop} {g c:Nat} {R:GR} {G:Gr} {fd:List Nat}
theorem B4 {x:Nat} (b:kF H g R G) (a:G.dM x) (K:Q (.int (G.gI x:Nat)) H):F (n+1) 49 [.ref g,.int x] H Q:=by obtain⟨r,d,c,a,hd,rfl⟩:=a;rw[a.rule hd]at K;exact uB b a hd K
theorem GL {x s:Nat} (c:kF H g R G) (e:G.Wf) (b:G.dM x) (a:G.bU x=V9 s) (K:Q (.int (x+1:Nat)) H):F (n+2) 66 [.ref g,.int x] H Q:=by obtain⟨r,d,f,b,hd,rfl⟩:=b;rw[b.after hd]at a;exact A1 c e b (cB a) K
theorem uM {x:Nat} (h:G.bU x=Wa):G.nZ x= -1:=by delta Gr.nZ;rw[h]
theorem uL {x s:Nat} (h:G.bU x=V9 s):G.nZ x=s:=by delta Gr.nZ;rw[h]
theorem A0 {xs:List Nat} {r:Nat} (p:kF H g R G) (w:∀x∈xs,G.dM x) (t:xs.length<64) (m:H[r]? =V9 (.list (vI xs)))
  (K:∀r' c,Ext H c->H.length<=r'->c[r']? =V9 (.list (vI (kE (G.jv xs))))->Q (.ref r') c):
  F (n+2) 68 [.ref g,.ref r] H Q:=by
 refine I8 ?_;unfold UN;have l:=aN H [.list []];exists aQ (aP _),cU (l.get m);refine cQ (σ:=Option V) (λs=>uZ g r H.length [s]) (λk s c=>TL H (G.jv (xs.take k)) c) Wa rfl ⟨l,aR⟩ (λk s c h=>h.ext.get m) ?_ ?_
 ·intro k v u s c h z d;obtain⟨x,i,o⟩:=gU u;rw[o];have e:=w x (dq i).2;have b:=p.ext h.ext;haveI a:G.jv (xs.take (k+1))=G.jv (xs.take k)++(if(G.bU x).isNone&&G.gI x != 0 then [G.gI x] else []):=by
   delta Gr.jv;rw[bX,i];simp only[eB,cY,bV,eK,uT];split<;>rfl
  exists b.hU.call (f:=84) rfl rfl,uE b e
  induction q:G.bU x with
  |some y=>rw[uL q];rw[q]at a;simp only[Option.isNone_some,kM,fK,if_false,bY]at a;exact zk (by lia) (d (V9 (.int x)) _ (by rw[a];exact h))
  |none=>
   rw[uM q];exists zj (by decide),b.hU.call (f:=89) rfl rfl,B4 b e;by_cases q':G.gI x=0
   ·simp only[q,q',bne_self_eq_false,oH,fK,if_false,bY]at a;exact kv (by lia) (d (V9 (.int x)) _ (by rw[a];exact h))
   ·simp only[q,Option.isNone_none,g7,bne_iff_ne,ne_eq,q',not_false_eq_true,if_true]at a;haveI j:(G.jv (xs.take k)).length<=64:=by
     rw[aB];refine aE (bI _ _) ?_;rw[c9];exact aE (ii _ _) (tc ‹_›)
    exists nT (by lia),cF h.L<|b.hU.call (f:=89) rfl rfl,B4 b e,cR h.L (fB j (by decide))
    exact d (V9 (.int x)) _ ⟨h.ext.put (aK _),by rw[cH (by rw[h.L];rfl),iX,a]⟩
 ·intro s c h;rw[dL,bZ]at h;haveI j:(G.jv xs).length<64:=by
   rw[aB];exact dp (bI _ _) t
  exists tF h.L j;exact K _ _ h.ext.app h.ext.len aR
structure KB (H0:Hp) (G:Gr) (ss:List Nat) (ρ:Nat->Nat) (done:List Nat) (H:Hp):Prop where
 ext:Ext H0 H
 D:H[H0.length]? =V9 (.dict (dI (λs=>.ref (ρ s)) ss))
 nd:ss.Nodup
 lo:∀s∈ss,H0.length<ρ s/\H[ρ s]? =V9 (.list (vI (G.iI done s)))
 inj:∀s∈ss,∀t∈ss,ρ s=ρ t->s=t
 lt:∀s∈ss,s<G.names.length
def KM (G:Gr) (b a:List Nat):Prop:=∀s,s∈b↔∃x∈a,G.bU x=V9 s
theorem yz {a:List Nat} {x s:Nat}:G.iI (a++[x]) s=G.iI a s++(if G.bU x=V9 s then [x+1] else []):=by delta Gr.iI;simp only[cY,bV,eK,uT,beq_iff_eq];split<;>rfl
theorem FK {a:List Nat} {s:Nat} (h:∀x∈a,G.bU x≠V9 s):G.iI a s=[]:=by delta Gr.iI;rw[gO.2 (λx b=>by simpa using h x b)];rfl
theorem KB.skip {b H c d a} {x:Nat} (h:KB b G c d a H) (f:G.bU x=Wa):KB b G c d (a++[x]) H:=
 {h with lo:=λs e=>by rw[yz,f,if_neg nn,bY];exact h.lo s e}
theorem KM.skip {c a:List Nat} {x:Nat} (h:KM G c a) (d:G.bU x=Wa):KM G c (a++[x]):=λs=>(h s).trans
 ⟨λ⟨y,b,q⟩=>⟨y,bB _ b,q⟩,λ⟨y,b,q⟩=>by
  rcases aZ.1 b with b|b
  ·exact⟨y,b,q⟩
  ·rw[aD.1 b,d]at q;exact nn q⟩
theorem KM.old {c a:List Nat} {x s:Nat} (h:KM G c a) (f:G.bU x=V9 s) (d:s∈c):KM G c (a++[x]):=λt=>by
 constructor
 ·intro e;obtain⟨y,b,q⟩:=(h t).1 e;exact⟨y,bB _ b,q⟩
 ·intro b;obtain⟨y,b,q⟩:=b;rcases aZ.1 b with b|b
  ·exact(h t).2 ⟨y,b,q⟩
  ·rw[aD.1 b,f]at q;rw[←aA q];exact d
theorem KM.new {e a:List Nat} {x s:Nat} (h:KM G e a) (d:G.bU x=V9 s):KM G (e++[s]) (a++[x]):=λt=>by
 constructor
 ·intro c;rcases aZ.1 c with c|c
  ·obtain⟨y,b,q⟩:=(h t).1 c;exact⟨y,bB _ b,q⟩
  ·rw[aD.1 c];exact⟨x,by exact aT _ (.head _),d⟩
 ·intro b;obtain⟨y,b,q⟩:=b;rcases aZ.1 b with b|b
  ·exact bB _ ((h t).2 ⟨y,b,q⟩)
  ·rw[aD.1 b,d]at q;rw[aA q];exact aT _ (.head _)
theorem KB.new {k H j f c} {s:Nat} (h:KB k G j f c H) (m:s∉j) (q:G.iI c s=[]) (p:s<G.names.length):
  (H++[O.list []])[k.length]? =V9 (.dict (dI (λs=>.ref (f s)) j))/\
  KB k G (j++[s]) (λt=>if t=s then H.length else f t) c ((H++[O.list []]).set k.length (.dict (jW (dI (λs=>.ref (f s)) j) (.int s) (.ref H.length)))):=by
 injection 0 G k H j f c s with h m q p;haveI n:=ez h.D;haveI o:(H++[O.list []])[k.length]? =V9 (.dict (dI (λs=>.ref (f s)) j)):=(aN H _).get h.D;haveI d:∀t∈j,(if t=s then H.length else f t)=f t:=λt a=>if_neg (λ(e:t=s)=>m (e▸a));haveI hd:dI (λt=>V.ref (if t=s then H.length else f t)) j=dI (λs=>.ref (f s)) j:=by exact dU λt a=>by show(V.int t,V.ref (if t=s then H.length else f t))=_;rw[d t a]
 refine⟨o,h.ext.app.put (aK _),?_,?_,?_,?_,?_⟩
 ·rw[cH (by rw[o];rfl),←hd,Gq m (by rw[if_pos rfl])]
 ·rw[cA];exact⟨h.nd,by simp,λa g b i=>by rw[aD.1 i];exact λe=>m (e▸g)⟩
 ·intro t a;rcases aZ.1 a with a|a
  ·rw[d t a];haveI e:=h.lo t a;haveI b:=e.1;haveI g:=e.2;exact⟨b,(a8 (tn b)).trans ((aN H _).get g)⟩
  ·rw[aD.1 a,if_pos rfl,q];exact⟨n,(a8 (tn n)).trans aR⟩
 ·haveI l:∀t∈j,f t<H.length:=λt a=>ez (h.lo t a).2;intro a g b i e;rcases aZ.1 g with g|g<;>rcases aZ.1 i with i|i
  ·rw[d a g,d b i]at e;exact h.inj a g b i e
  ·rw[aD.1 i,d a g,if_pos rfl]at e;haveI:=l a g;lia
  ·rw[aD.1 g,d b i,if_pos rfl]at e;haveI:=l b i;lia
  ·rw[aD.1 g,aD.1 i]
 ·intro t a;rcases aZ.1 a with a|a
  ·exact h.lt t a
  ·rw[aD.1 a];exact p
theorem KB.put {f H c d a} {x s:Nat} (h:KB f G c d a H) (i:s∈c) (l:G.bU x=V9 s):
  KB f G c d (a++[x]) (H.set (d s) (.list (vI (G.iI a s)++[.int (x+1:Nat)]))):=by
 haveI j:=h.lo s i;haveI g:=j.1;haveI k:=j.2;refine⟨h.ext.put (cO g),(a8 (eD g)).trans h.D,h.nd,λt b=>⟨(h.lo t b).1,?_⟩,h.inj,h.lt⟩;rw[yz,l];by_cases q:s=t
 ·rw[←q];rw[cH (by rw[k];rfl),if_pos rfl,iX]
 ·rw[a8 (λe=>q (h.inj s i t b e)),if_neg (λe=>q (aA e)),bY];exact(h.lo t b).2
theorem KB.ok {d H c i a} (h:KB d G c i a H) (b:G.Wf) {s:Nat} (e:s<G.names.length) {f:Nat->V}:nt (dI f c) (.int s)=Wb:=
 Gn (λt g=>aE (cO (h.lt t g)) (aE b.n (by decide))) (aE (cO e) (aE b.n (by decide)))
theorem KB.len {c H b e a} (h:KB c G b e a H) (d:G.Wf):b.length<=20:=aE (j8 h.nd h.lt) d.n
theorem KB.get {d H b c a} (h:KB d G b c a H) {s:Nat}:gD (dI (λs=>.ref (c s)) b) (.int s)=if s∈b then V9 (.ref (c s)) else Wa:=Gp
structure Od (H0:Hp) (q:Nat) (ks:List Nat) (f:Nat->V) (ss:List Nat) (H:Hp):Prop where
 ext:Ext H0 H
 D:H[H0.length]? =V9 (.dict (dI f ss))
 B:H[q]? =V9 (.list (vI ks))
def SM (G:Gr) (xs a:List Nat):Prop:=a.Nodup/\KM G a xs
theorem SM.lt {xs a:List Nat} (h:SM G xs a) (c:G.Wf):(∀s∈a,s<G.names.length)/\a.length<=20:=by
 haveI b:∀s∈a,s<G.names.length:=λs b=>by obtain⟨x, -,d⟩:=(h.2 s).1 b;exact lX c d
 exact⟨b,aE (j8 h.1 b) c.n⟩
noncomputable def zh (G:Gr) (xs:List Nat) (s:Nat):V:=.tup (vI (kE (G.iI xs s)))
theorem GJ {xs:List Nat} {r:Nat} (E:kF H g R G) (j:G.Wf) (C:∀x∈xs,G.dM x) (P:xs.length<64) (J:H[r]? =V9 (.list (vI xs)))
  (K:∀r' c b,Ext H c->H.length<=r'->SM G xs b->c[r']? =V9 (.dict (dI (zh G xs) b))->Q (.ref r') c):
  F (n+3) 67 [.ref g,.ref r] H Q:=by
 injection 0 n H Q g R G xs r with E j C P J K;refine I9 ?_;unfold UO;have N:=aN H [.dict []];exists cU (N.get J);refine cQ (σ:=List Nat×(Nat->Nat)×Option V×Option V) (λs=>uZ g r H.length [s.2.2.1,s.2.2.2,Wa])
  (λk s c=>KB H G s.1 s.2.1 (xs.take k) c/\KM G s.1 (xs.take k)) ([],id,Wa,Wa) rfl ⟨⟨N,aR,gv,nofun,nofun,nofun⟩,λs=>⟨nofun,λ⟨x,C,_⟩=>nomatch C⟩⟩ (λk s c h=>h.1.ext.get J) ?_ ?_
 ·intro k v L s c h U i;obtain⟨x,A,D⟩:=gU L;rw[D];obtain⟨b,B,S,T⟩:=s;obtain⟨a,m⟩:=h;dsimp only at a m;have u:=C x (dq A).2;have h:=E.ext a.ext;have o:xs.take (k+1)=xs.take k++[x]:=by rw[bX,A];rfl
  have i:=(o)▸i;exists h.hU.call (f:=84) rfl rfl,uE h u
  induction q:G.bU x with
  |none=>rw[uM q];exact jg (by decide) (i (b,B,V9 (.int x),V9 (.int (-1))) _ ⟨a.skip q,m.skip q⟩)
  |some y=>
   haveI p:=lX j q;haveI w:(vI (G.iI (xs.take k) y)).length<=iH:=by refine fB (k:=64) ?_ (by decide);rw[aB];refine aE (bI _ _) ?_;rw[c9];exact aE (ii _ _) (tc ‹_›)
   rw[uL q];exists li (dC _),uc a.D (a.ok j p);rw[a.get];by_cases q':y∈b
   ·rw[if_pos q'];exists gH a.D (a.ok j p) (a.get.trans (if_pos q')),cF (a.lo y q').2,GL h j u q,cR (a.lo y q').2 w;exact i (b,B,V9 (.int x),V9 (.int y)) _ ⟨a.put q' q,m.old q q'⟩
   ·haveI M:G.iI (xs.take k) y=[]:=FK (λz hz e=>q' ((m y).2 ⟨z,hz,e⟩));haveI z:=a.new q' M p;haveI I:=z.1;haveI d:=z.2;haveI e:y∈b++[y]:=aT _ (.head _);rw[if_neg q'];exists aQ (aP _),gh I (a.ok j p) (by rw[Go];haveI:=a.len j;exact tb this);generalize ((c++[O.list []]).set H.length (.dict (jW (dI (λs=>V.ref (B s)) b) (.int y) (.ref c.length))))=t at d;haveI s:=E.ext d.ext;exists gH d.D (d.ok j p) (d.get.trans (if_pos e)),cF (d.lo y e).2,GL s j u q,cR (d.lo y e).2 w;exact i (b++[y],_,V9 (.int x),V9 (.int y)) _ ⟨d.put e q,m.new q⟩
 ·intro s c h;obtain⟨b,B,S,T⟩:=s;haveI a:=h.1;haveI m:=h.2;rw[dL,bZ]at a m;dsimp only at a m;haveI u:=a.len j;haveI hi:intsOf ((dI (λs=>V.ref (B s)) b).map (·.1))=V9 (b.map λ(x:Nat)=>(x:Int)):=by rw[xq,jx]
  haveI q:=aN c [.dict []];exists nH (q.get a.D) hi (by rw[aB];exact td u);rw[Ah];have w:=lH a.nd;haveI A:∀s∈kE b,s<G.names.length:=λs I=>a.lt s (iq.mp I);haveI M:(c++[O.dict []]).length=c.length+1:=aH;refine cU aR ?_;rw[M];refine cQ (σ:=Option V) (λs=>uZ g r H.length (S::s::kP c.length []))
   (λk s t=>Od c (c.length+1) (kE b) (zh G xs) ((kE b).take k) t) T rfl ⟨q.trans (aN _ _),(aN _ _).get aR,by rw[←M,aR];rfl⟩ (λk s c h=>h.B) ?_ ?_
  ·intro k v L s t h U i;obtain⟨y,p,D⟩:=gU L;rw[D];haveI d:y∈b:=iq.mp (dq p).2;haveI z:=(a.lo y d).2;haveI x:(G.iI xs y).length<64:=by
    rw[aB];exact dp (bI _ _) P
   haveI o:(kE b).take (k+1)=(kE b).take k++[y]:=by rw[bX,p];rfl
   haveI e:y∉(kE b).take k:=by haveI:=w;rw[←fO (k+1) (kE b),o,cA,cA]at this;exact λe=>this.1.2.2 y e y (.head _) rfl
   haveI I:nt (dI (zh G xs) ((kE b).take k)) (.int y)=Wb:=Gn (λs I=>by haveI:=A s (fj I);haveI:=j.n;lia) (by haveI:=a.lt y d;haveI:=j.n;lia);exists gH (h.ext.get a.D) (a.ok j (a.lt y d)) (a.get.trans (if_pos d)),tF (h.ext.get z) x,tuple_list aR<|gh ((aN t _).get h.D) I (by rw[Go,c9];haveI:=j1 (l:=b);lia)
   refine i (V9 (.int y)) _ ⟨h.ext.app.put (aK _),?_,(a8 (tn ts)).trans ((aN t _).get h.B)⟩;rw[cH (by rw[(aN t _).get h.D];rfl),Gq (f:=zh G xs) (v:=.tup (vI (kE (G.iI xs y)))) e rfl,o]
  ·intro s t h;rw[dL,bZ]at h;exact K _ _ (kE b) (a.ext.trans h.ext) a.ext.len ⟨w,λs=>iq.trans (m s)⟩ h.D
end
end
section
theorem wG:∀{a b:List Nat},vI a=vI b->a=b
 |[],[],_=>rfl
 |[],_::_,h=>by cases h
 |_::_,[],h=>by cases h
 |x::a,y::b,h=>by haveI c:=eL h;rw[eX.1 (V.int.inj c.1),wG (a:=a) (b:=b) c.2]
noncomputable def jU (j:Nat):List (List Nat)->List (V×V)
 |[]=>[]
 |ks::r=>(.tup (vI ks),.int j)::jU (j+1) r
theorem C2 {ks:List Nat}:∀{aV:List (List Nat)} {j:Nat},ks∉aV->gD (jU j aV) (.tup (vI ks))=Wa:=by
 intro aV
 induction aV with
 |nil=>intro _ _;exact rfl
 |cons a r b=>intro j h;haveI d:decide (V.tup (vI a)=V.tup (vI ks))=Wc:=decide_eq_false (λe=>h (by rw[wG (V.tup.inj e)];exact aS ..));haveI c:=b (j:=j+1) (λe=>h (bA _ e));unfold gD at c⊢;rw[jU,du];rw[d];exact c
theorem q6 {ks:List Nat}:∀{aV:List (List Nat)} {j k:Nat},aV[k]? =V9 ks->aV.Nodup->gD (jU j aV) (.tup (vI ks))=V9 (.int (j+k:Nat))
 |[],_,_,h,_=>by simp at h
 |a::r,j,0,h,_=>by simp at h;rw[h];delta gD;rw[jU,du];simp
 |a::r,j,k+1,h,b=>by simp at h;haveI b:=c6.1 b;haveI d:decide (V.tup (vI a)=V.tup (vI ks))=Wc:=decide_eq_false (λe=>b.1 (by rw[wG (V.tup.inj e)];exact aO h));haveI c:=q6 (aV:=r) (j:=j+1) (k:=k) h b.2;unfold gD at c⊢;rw[jU,du];rw[d];rw[c];congr 3;lia
theorem Fq {ks:List Nat}:∀{aV:List (List Nat)} {j:Nat},ks∉aV->jW (jU j aV) (.tup (vI ks)) (.int (j+aV.length:Nat))=jU j (aV++[ks]):=by
 intro aV
 induction aV with
 |nil=>intro _ _;exact rfl
 |cons a r b=>
  intro j h;haveI c:V.tup (vI a)≠V.tup (vI ks):=λe=>h (by rw[wG (V.tup.inj e)];exact aS ..);rw[jU,jW,if_neg c,e8,jU,←b (j:=j+1) (λe=>h (bA _ e))];haveI:j+(a::r).length=j+1+r.length:=by simp;lia
  rw[this]
theorem Fp:∀{aV:List (List Nat)} {j:Nat},(jU j aV).length=aV.length:=by
 intro aV
 induction aV with
 |nil=>intro _;exact rfl
 |cons a r b=>intro j;rw[jU,dF,b];rfl
theorem N7 {ks:List Nat} (h:∀x∈ks,x<=1000000):keyOk (.tup (vI ks))=Wb:=by refine bW.2 λv a=> ?_;obtain⟨x,b,rfl⟩:=aM.1 a;haveI:=h x b;exact decide_eq_true ⟨by lia,by lia⟩
theorem BK {ks:List Nat} (h:∀x∈ks,x<=1000000):∀{aV:List (List Nat)} {j:Nat},(∀a∈aV,∀x∈a,x<=1000000)->nt (jU j aV) (.tup (vI ks))=Wb:=by
 intro aV j d;delta nt;rw[N7 h,g7];haveI:∀(aV:List (List Nat)) (j:Nat),(∀a∈aV,∀x∈a,x<=1000000)->((jU j aV).all λp=>keyOk p.1&&lJ p.1 (.tup (vI ks)))=Wb:=by
  intro aV
  induction aV with
  |nil=>intros;rfl
  |cons a r e=>intro j h;rw[jU,l8,e _ (λb c=>h b (bA _ c)),mc,N7 (h a (aS ..))];rfl
 exact this aV j d
noncomputable def vD (a:List (Nat×Nat)):List (V×V):=a.map λp=>(.int p.1,.int p.2)
structure zG (q:Nat) (H:Hp) (o k:Nat) (ks:List Nat) (mv:List (Nat×Nat)) (rd:List Nat):Prop where
 obj:∃sy it ρ,H[o]? =V9 (.inst 14 [(29,.int k),(80,.tup (vI ks)),(81,sy),(82,it),(31,.ref (o+2)),(33,.ref ρ)])/\q<ρ/\H[ρ]? =V9 (.list (vI rd))
 mv:H[o+2]? =V9 (.dict (vD mv))
 len:o+4<=H.length
theorem zG.ext {q H a o k ks mv rd} (h:zG q H o k ks mv rd) (e:Ext H a):zG q a o k ks mv rd:=by injection 0 q H a o k ks mv rd with h e;obtain⟨⟨sy,it,i,b,c,d⟩,f,g⟩:=h;exact⟨⟨sy,it,i,e.get b,c,e.get d⟩,e.get f,aE g e.len⟩
theorem zG.num {q H o k ks mv rd} (h:zG q H o k ks mv rd):iK H o 29 (.int k):=by obtain⟨sy,it,b,a, -⟩:=h.obj;exact⟨_,_,a,rfl,rfl⟩
theorem zG.jF {q H o k ks mv rd} (h:zG q H o k ks mv rd):iK H o 80 (.tup (vI ks)):=by obtain⟨sy,it,b,a, -⟩:=h.obj;exact⟨_,_,a,rfl,rfl⟩
theorem zG.Sk {q H o k ks mv rd} (h:zG q H o k ks mv rd):iK H o 31 (.ref (o+2)):=by obtain⟨sy,it,b,a, -⟩:=h.obj;exact⟨_,_,a,rfl,rfl⟩
theorem zG.rdF {q H o k ks mv rd} (h:zG q H o k ks mv rd):∃a,iK H o 33 (.ref a)/\H[a]? =V9 (.list (vI rd)):=by obtain⟨sy,it,a,b,d,c⟩:=h.obj;exact⟨a,⟨_,_,b,rfl,rfl⟩,c⟩
theorem er {H:Hp} {i j:Nat} {a b:O} (d:H[i]? =V9 a) (c:H[j]? =V9 b) (h:a≠b):i≠j:=λe=>by subst e;rw[d]at c;exact h (aA c)
structure BI (HQ:Hp) (os:List Nat) (aV:List (List Nat)) (mv:Nat->List (Nat×Nat)) (rd:Nat->List Nat) (H:Hp):Prop where
 ext:Ext HQ H
 q:H[HQ.length]? =V9 (.list (vR os))
 d:H[HQ.length+1]? =V9 (.dict (jU 0 aV))
 len:os.length=aV.length
 st:∀(k o:Nat) ks,os[k]? =V9 o->aV[k]? =V9 ks->zG HQ.length H o k ks (mv k) (rd k)
 ord:∀j k o o':Nat,os[j]? =V9 o->os[k]? =V9 o'->j<k->o+4<=o'
 lo:∀o∈os,HQ.length+2<=o
 nd:aV.Nodup
 new:∀k,aV.length<=k->mv k=[]/\rd k=[]
noncomputable def upd {a:Type} (f:Nat->a) (k:Nat) (x:a):Nat->a:=λj=>if j=k then x else f j
theorem qS {a:Type} {f:Nat->a} {k:Nat} {x:a}:upd f k x k=x:=if_pos rfl
theorem mj {a:Type} {f:Nat->a} {k j:Nat} {x:a} (h:j≠k):upd f k x j=f j:=if_neg h
section
variable {HQ H:Hp} {os:List Nat} {aV:List (List Nat)} {mv:Nat->List (Nat×Nat)} {rd:Nat->List Nat}
theorem BI.grow {a:Hp} (h:BI HQ os aV mv rd H) (e:Ext H a):BI HQ os aV mv rd a:=
 {h with ext:=h.ext.trans e,q:=e.get h.q,d:=e.get h.d,st:=λk o ks b c=>(h.st k o ks b c).ext e}
theorem BI.apart (h:BI HQ os aV mv rd H) {j k o a:Nat} (b:os[j]? =V9 o) (c:os[k]? =V9 a) (d:j≠k):o+4<=a\/a+4<=o:=by
 rcases cZ j k with q|q
 ·exact bL (h.ord j k o a b c q)
 ·exact bG (h.ord k j a o c b (by lia))
theorem BI.obj (h:BI HQ os aV mv rd H) {k o:Nat} {ks:List Nat} (p:os[k]? =V9 o) (m:aV[k]? =V9 ks) {sy it:V} {g:Nat} {r:List Nat} (y:HQ.length<g) (w:H[g]? =V9 (.list (vI r))):
  BI HQ os aV mv (upd rd k r) (H.set o (.inst 14 [(29,.int k),(80,.tup (vI ks)),(81,sy),(82,it),(31,.ref (o+2)),(33,.ref g)])):=by
 obtain⟨⟨E,C,F,f,G,I⟩,z,l⟩:=h.st k o ks p m;haveI n:=h.lo o (aO p);refine {h with ext:=h.ext.put (kD ta n),q:=(a8 (j7 (ff tQ ‹_›))).trans h.q,d:=(a8 (j7 (ff ts ‹_›))).trans h.d,st:=λj D t b a=> ?_,new:=λj b=> ?_ }
 ·by_cases e:j=k
  ·cases e;rw[p]at b;rw[←aA b];rw[m]at a;rw[←aA a];rw[qS];exact⟨⟨sy,it,g,cH (by rw[f];rfl),y,(a8 (er f w (by simp))).trans w⟩,(a8 (tn tQ)).trans z,by rw[bS];exact l⟩
  ·rw[mj e];obtain⟨⟨u,s,v,A,B,x⟩,c,i⟩:=h.st j D t b a;exact⟨⟨u,s,v,(a8 (by lia)).trans A,B,(a8 (er f x (by simp))).trans x⟩,(a8 (er f c (by simp))).trans c,by rw[bS];exact i⟩
 ·haveI:=cB m;rw[mj (j7 (ff this b))];exact h.new j b
theorem BI.move (h:BI HQ os aV mv rd H) {k o:Nat} {ks:List Nat} (g:os[k]? =V9 o) (f:aV[k]? =V9 ks) {m:List (Nat×Nat)}:
  BI HQ os aV (upd mv k m) rd (H.set (o+2) (.dict (vD m))):=by
 injection 0 HQ H os aV mv rd k o ks m with h g f;obtain⟨⟨u,r,w,B,C,y⟩,c,n⟩:=h.st k o ks g f;haveI p:=h.lo o (aO g);refine {h with ext:=h.ext.put (kD (kD ta p) ta),q:=(a8 (by lia)).trans h.q,d:=(a8 (by lia)).trans h.d,st:=λj E t b a=> ?_,new:=λj b=> ?_ }
 ·by_cases e:j=k
  ·cases e;rw[g]at b;obtain rfl:=aA b;rw[f]at a;rw[←aA a];rw[qS];exact⟨⟨u,r,w,(a8 (j7 tQ)).trans B,C,(a8 (er c y (by simp))).trans y⟩,cH (by rw[c];rfl),by rw[bS];exact n⟩
  ·rw[mj e];obtain⟨⟨v,s,x,z,D,A⟩,i,l⟩:=h.st j E t b a;exact⟨⟨v,s,x,(a8 (er c z (by simp))).trans z,D,(a8 (er c A (by simp))).trans A⟩,(a8 (by lia)).trans i,by rw[bS];exact l⟩
 ·haveI:=cB f;rw[mj (j7 (ff this b))];exact h.new j b
theorem BI.add {g:Hp} (h:BI HQ os aV mv rd H) {o:Nat} {ks:List Nat} (s:ks∉aV) (e:∀i,i≠HQ.length->i≠HQ.length+1->(H[i]?).isSome=Wb->g[i]? =H[i]?)
  (u:g[HQ.length]? =V9 (.list (vR (os++[o])))) (r:H.length<=g.length) (hd:g[HQ.length+1]? =V9 (.dict (jU 0 (aV++[ks])))) (t:H.length<=o) (v:zG HQ.length g o aV.length ks [] []):
  BI HQ (os++[o]) (aV++[ks]) mv rd g:=by
 injection 0 HQ H os aV mv rd g o ks with h s e u r hd t v;haveI f:∀{i:Nat} {x:O},i≠HQ.length->i≠HQ.length+1->H[i]? =V9 x->g[i]? =V9 x:=λc d m=>(e _ c d (by rw[m];rfl)).trans m;haveI z:=ez h.d;refine⟨λi hi=> ?_,u,hd,by simp[h.len],λk n b c d=> ?_,λj k a b c d m=> ?_,λa c=> ?_,?_,λk a=>h.new k (by simp at a;exact tw a)⟩
 ·haveI:=h.ext i hi;haveI a:i<HQ.length:=by
   rcases cZ i HQ.length with q|q
   ·exact q
   ·have hi:=(bQ q)▸hi;cases hi
  rw[e i (tn a) (tn (t1 (tw a))) (by rw[this];exact hi),this]
 ·by_cases q:k<aV.length
  ·have c:=(bH (by rw[h.len];exact q))▸c;rw[bH q]at d;obtain⟨⟨sy,it,p,m,i,j⟩,w,x⟩:=h.st k n b c d;haveI y:=h.lo n (aO c);haveI a:p≠HQ.length+1:=er j h.d (by simp);exact⟨⟨sy,it,p,f (j7 (ff tQ ‹_›)) (j7 (ff ts ‹_›)) m,i,f (j7 i) a j⟩,f (by lia) (by lia) w,by exact kD x r⟩
  ·haveI a:k=aV.length:=by haveI:=cB d;simp at this;lia
   subst a;rw[bR (by rw[h.len];exact aK _),h.len,eS]at c;rw[bR (aK _),eS]at d;rw[←aA c];rw[←aA d];rw[(h.new _ (aK _)).1,(h.new _ (aK _)).2];exact v
 ·haveI n:∀{i a:Nat},os[i]? =V9 a->a+4<=H.length:=λ{i a} hi=>by
   obtain⟨p,n⟩:=fp (l:=aV) (i:=i) (by rw[←h.len];exact cB hi);exact(h.st i a p hi n).len
  haveI i:=cB d;rw[aH,cP]at i;haveI p:j<os.length:=ff m (t2 i);have c:=(bH p)▸c;by_cases q:k<os.length
  ·rw[bH q]at d;exact h.ord j k a b c d m
  ·haveI:k=os.length:=by lia
   subst this;rw[bR (aK _),eS]at d;rw[←aA d];haveI:=n c;exact kD this t
 ·rcases aZ.1 c with c|c
  ·exact h.lo a c
  ·rw[aD.1 c];lia
 ·rw[cA];exact⟨h.nd,by simp,λa c b n=>by rw[aD.1 n];exact λe=>s (e▸c)⟩
structure Good (G:Gr) (fd:List Nat) (ks:List Nat):Prop where
 it:∀x∈ks,G.dM x
 len:ks.length+(G.kA fd ks).length<64
theorem Gr.Wf.Q2 {G:Gr} (b:G.Wf) {r:Nat} {a:Ru} (h:G.rules[r]? =V9 a):G.dM (G.off r):=⟨r,0,a,b.at_ h,aP _,rfl⟩
theorem wo {G:Gr} {x:Nat} (h:G.dM x):x<=1000000:=by obtain⟨r,d,b,a,hd,rfl⟩:=h;haveI:=a.le hd;exact tb this
theorem Good.items {G:Gr} {fd ks:List Nat} (h:Good G fd ks) (d:G.Wf):(∀x∈G.dO fd ks,G.dM x)/\(G.dO fd ks).length<64:=by
 refine⟨λx a=> ?_,by rw[aH,j1,j1];exact h.len⟩;rcases aZ.1 a with a|a
 ·exact h.it x (iq.mp a)
 ·obtain⟨s, -,a⟩:=fF.1 (iq.mp a);haveI f:=aG.1 a;haveI a:=f.1;obtain⟨y,e,c⟩:=aM.1 a;rw[←c];obtain⟨g,b, -⟩:=ko.mp e;exact d.Q2 b
variable {n:Nat} {Q:V->Hp->Prop} {g c b:Nat} {R:GR} {G:Gr} {fd:List Nat}
theorem cN {H:Hp} {l:Hp} {c a:Nat} {b:List (Nat×V)} {v:V} {m:En} {Q:Fl->En->Hp->Prop} (d:(pd.fld c).contains a=Wb) (e:b.length<=100)
  (K:Q .next m (H++ .inst c (cE b a v)::l)):rQ pd a v m Q (.ref H.length) (H++ .inst c b::l):=by
 refine gC (aR) d e ?_;rw[IE];exact K
theorem C6 {k:Nat} {ks:List Nat} {sy:V} (K:∀a,Ext H a->(∀q,q<H.length->zG q a H.length k ks [] [])->Q (.ref H.length) a):
  sj pd (F (n+1)) 14 Q [.int k,.tup (vI ks),sy] H:=by
 injection 0 H n Q k ks sy with K;refine gj rfl (Jf ?_);delta UU;exists cN rfl (aJ rfl),cN rfl (aJ rfl),cN rfl (aJ rfl),aQ (aP _);rw[bF];exists cN rfl (aJ rfl);rw[bF];exists cN rfl (aJ rfl),aQ (aP _);rw[bF];refine cN rfl (aJ rfl) (⟨rfl,K _ (aN _ _) λq a=>⟨⟨sy,.ref (H.length+1),H.length+3,?_,by exact ff a ta,?_⟩,?_,by simp⟩⟩)
 ·rw[aR];simp only[aH];rfl
 ·rw[fD];rfl
 ·rw[fD];rfl
structure BS (HQ:Hp) (b c g:Nat) (R:GR) (G:Gr) (fd:List Nat):Prop where
 hb:HQ[b]? =V9 (.inst 17 [(21,.ref g),(91,.ref c),(35,.ref HQ.length),(14,.ref (HQ.length+1))])
 hc:Hu HQ c g fd
 hg:kF HQ g R G
 hw:G.Wf
 cl:Cl G fd
end
end
section
theorem gi {f:Type} [BEq f] [LawfulBEq f]:∀{L l:List f},l.Nodup->(∀x∈l,x∈L)->l.length<=L.length:=by
 intro L l;revert L
 induction l with
 |nil=>intro L _ _;exact aP _
 |cons a l d=>
  intro L b h;haveI b:=c6.1 b;haveI g:=h a (aS ..);haveI:=d (L:=L.erase a) b.2 (λx i=>by haveI c:=h x (bA _ i);exact(List.mem_erase_of_ne (λ(e:x=a)=>b.1 (e▸i))).2 c)
  rw[xI g]at this;haveI:=nk g;rw[dF];lia
theorem z9 {y t:Nat} {a:List (Nat×Nat)} (h:y∉a.map (·.1)):jW (vD a) (.int y) (.int t)=vD (a++[(y,t)]):=by
 rw[qr]
 ·simp[vD]
 ·intro p c e;obtain⟨x,d,rfl⟩:=aM.1 c;haveI b:((x.1:Nat):Int)=y:=V.int.inj e;exact h (aM.2 ⟨x,d,eX.1 b⟩)
theorem vC {y:Nat} {a:List (Nat×Nat)} (h:∀p∈a,p.1<=1000000) (e:y<=1000000):nt (vD a) (.int y)=Wb:=by delta nt;rw[eh];refine⟨decide_eq_true ⟨by lia,by lia⟩,bW.2 λp c=> ?_⟩;obtain⟨s,d,b⟩:=aM.1 c;rw[←b];haveI:=h s d;exact cL.2 ⟨decide_eq_true ⟨by lia,by lia⟩,rfl⟩
theorem z8 {a:List (Nat×Nat)}:(vD a).length=a.length:=aB _
theorem xQ {a:Type} {f:Nat->a} {k:Nat}:upd f k (f k)=f:=by
 funext j;delta upd;split
 ·next h=>rw[h]
 ·rfl
theorem Ig {a:Type} {f:Nat->a} {k:Nat} {x y:a}:upd (upd f k x) k y=upd f k y:=by funext j;delta upd;split<;>rfl
def G7 (HQ H a:Hp):Prop:=∀i,i≠HQ.length->i≠HQ.length+1->(H[i]?).isSome=Wb->a[i]? =H[i]?
theorem G7.get {HQ H a:Hp} (h:G7 HQ H a) {i:Nat} {o:O} (c:i≠HQ.length) (d:i≠HQ.length+1) (b:H[i]? =V9 o):a[i]? =V9 o:=(h i c d (by rw[b];rfl)).trans b
def Move (G:Gr) (fd:List Nat) (aV:List (List Nat)) (ks:List Nat) (a:List (Nat×Nat)):Prop:=
 SM G (G.dO fd ks) (a.map (·.1))/\∀p∈a,aV[p.2]? =V9 (kE (G.iI (G.dO fd ks) p.1))
structure vk (G:Gr) (fd:List Nat) (KS:List (List Nat)):Prop where
 good:∀ks∈KS,Good G fd ks
 step:∀ks∈KS,∀s,(∃x∈G.dO fd ks,G.bU x=V9 s)->kE (G.iI (G.dO fd ks) s)∈KS
 start:[G.off 0]∈KS
 len:KS.length<=60
section
variable {n:Nat} {HQ H:Hp} {Q:V->Hp->Prop} {g c b:Nat} {R:GR} {G:Gr} {fd:List Nat} {os:List Nat} {aV KS:List (List Nat)} {mv:Nat->List (Nat×Nat)} {rd:Nat->List Nat}
theorem BS.f (S:BS HQ b c g R G fd) (e:Ext HQ H):iK H b 21 (.ref g)/\iK H b 91 (.ref c)/\iK H b 35 (.ref HQ.length)/\iK H b 14 (.ref (HQ.length+1))/\zH H b 17 [93,94,95]:=by haveI h:=e.get S.hb;exact⟨⟨_,_,h,rfl,rfl⟩,⟨_,_,h,rfl,rfl⟩,⟨_,_,h,rfl,rfl⟩,⟨_,_,h,rfl,rfl⟩,mF h rfl⟩
theorem vk.le (b:vk G fd KS) (d:∀ks∈aV,ks∈KS):∀a∈aV,∀x∈a,x<=1000000:=λa c x e=>wo ((b.good a (d a c)).it x e)
theorem BI.iH (h:BI HQ os aV mv rd H) (b:vk G fd KS) (c:∀ks∈aV,ks∈KS):aV.length<=60/\(vR os).length<=iH:=by haveI a:=aE (gi h.nd c) b.len;exact⟨a,by rw[eA,h.len];exact c7 (tb a)⟩
theorem y7 {ks:List Nat} {sy:V} (S:BS HQ b c g R G fd) (d:BI HQ os aV mv rd H) (u:vk G fd KS) (v:∀ks∈aV,ks∈KS) (k:ks∈KS)
  (K:∀e a t f,BI HQ e a mv rd f->aV<+:a->os<+:e->a[t]? =V9 ks->(∀ks∈a,ks∈KS)->G7 HQ H f->(∀x∈a,x∈aV\/x=ks)->Q (.int (t:Nat)) f):
  F (n+2) 71 [.ref b,.tup (vI ks),sy] H Q:=by
 injection 0 n HQ H Q g c b R G with fd os aV KS mv rd ks sy S d u v k K;injection 0 fd os aV KS mv rd ks sy with S d u v k K;refine I5 ?_;delta UK;obtain⟨P,T,w,m, -⟩:=S.f d.ext;have l:∀x∈ks,x<=1000000:=λx I=>wo ((u.good ks k).it x I);have r:=λj=>BK l (j:=j) (u.le v);obtain⟨M,N⟩:=d.iH u v;exists m.app,uc d.d (r 0);by_cases q:ks∈aV
 ·obtain⟨t,e,rfl⟩:=dw q;haveI a:=q6 (j:=0) (aF e) d.nd;rw[a];exists m.app,gH d.d (r 0) a;rw[gR];exact K os aV t H d (mO _) (mO _) (aF e) v (λ_ _ _ _=>rfl) (λx I=>bL I)
 ·rw[C2 q];exists w.app,len_list d.q,m.app,gh d.d (r 0) (by rw[Fp];exact tb M);rw[eA,d.len];haveI j:=Fq (aV:=aV) (j:=0) q;rw[gR]at j;rw[j];haveI y:Ext HQ (H.set (HQ.length+1) (.dict (jU 0 (aV++[ks])))):=d.ext.put (ta);haveI J:=S.f y;haveI w:=J.2.2.1;haveI m:=J.2.2.2.1;haveI h:(H.set (HQ.length+1) (.dict (jU 0 (aV++[ks]))))[HQ.length]? =V9 (.list (vR os)):=(a8 (j7 ts)).trans d.q;haveI A:(H.set (HQ.length+1) (.dict (jU 0 (aV++[ks]))))[HQ.length+1]? =V9 (.dict (jU 0 (aV++[ks]))):=cH (by rw[d.d];rfl);haveI e:(H.set (HQ.length+1) (.dict (jU 0 (aV++[ks])))).length=H.length:=bS ..;haveI f:G7 HQ H (H.set (HQ.length+1) (.dict (jU 0 (aV++[ks])))):=λi _ s _=>a8 (dJ s);generalize H.set (HQ.length+1) (.dict (jU 0 (aV++[ks])))=t at y h A e f P T w m;exists w.app,cF h,w.app,len_list h;rw[eA,d.len];refine C6 λL s U=> ?_;haveI E:=s.get h;refine cR E N ?_;rw[mi];haveI D:G7 HQ H (L.set HQ.length (.list (vR (os++[t.length])))):=λi a x p=>by
   rw[a8 (dJ a),s i (by rw[f i a x p];exact p),f i a x p]
  haveI p:=ez h;haveI O:(L.set HQ.length (.list (vR (os++[t.length]))))[HQ.length]? =V9 (.list (vR (os++[t.length]))):=cH (by rw[E];rfl);haveI B:(L.set HQ.length (.list (vR (os++[t.length]))))[HQ.length+1]? =V9 (.dict (jU 0 (aV++[ks]))):=(a8 (tn ts)).trans (s.get A);haveI i:=d.add (o:=t.length) q D O (by rw[bS];haveI:=s.len;exact kD (tf e) this) B (tf e) (by obtain⟨⟨sy,it,I,i,a,x⟩,z,C⟩:=U HQ.length p;exact⟨⟨sy,it,I,(a8 (tn p)).trans i,a,(a8 (tn a)).trans x⟩,(a8 (tn (ff p ta))).trans z,by rw[bS];exact C⟩)
  haveI J:=S.f i.ext;haveI m:=J.2.2.2.1;haveI C:∀a∈aV++[ks],a∈KS:=λa x=>by
   rcases aZ.1 x with x|x
   ·exact v a x
   ·rw[aD.1 x];exact k
  haveI z:(aV++[ks])[aV.length]? =V9 ks:=by rw[bR (aK _),eS];rfl
  haveI a:=q6 (j:=0) z i.nd;exists m.app,gH B (BK l (u.le C)) a;rw[gR];exact K _ _ _ _ i (D0 _ _) (D0 _ _) z C D (λx I=>by simpa using I)
theorem BI.dB (c:BI HQ os aV mv rd H) {k o:Nat} {ks:List Nat} (e:os[k]? =V9 o) (d:aV[k]? =V9 ks) {v:V} {m:En} {Q:Fl->En->Hp->Prop}
  (K:∀a,BI HQ os aV mv rd a->iK a o 82 v->(∀i,i≠o->a[i]? =H[i]?)->Q .next m a):rQ pd 82 v m Q (.ref o) H:=by
 obtain⟨⟨a,h,j,b,f,g⟩,l,n⟩:=c.st k o ks e d;refine gC b rfl (aJ rfl) ?_;haveI:=c.obj e d (sy:=a) (it:=v) f g;haveI this:=(xQ)▸this;exact K _ this ⟨_,_,cH (by rw[b];rfl),rfl,rfl⟩ (λi hi=>a8 (dJ hi))
theorem BI.Td (f:BI HQ os aV mv rd H) {k o:Nat} {ks:List Nat} (h:os[k]? =V9 o) (g:aV[k]? =V9 ks) {v:V} {d:Nat} {r:List Nat} {m:En} {Q:Fl->En->Hp->Prop}
  (l:HQ.length<d) (n:H[d]? =V9 (.list (vI r))) (e:iK H o 82 v)
  (K:∀a,BI HQ os aV mv (upd rd k r) a->iK a o 82 v->(∀i,i≠o->a[i]? =H[i]?)->Q .next m a):rQ pd 33 (.ref d) m Q (.ref o) H:=by
 refine uX λp=> ?_;obtain⟨⟨c,b,q,a,t,u⟩,w,x⟩:=f.st k o ks h g;obtain⟨i,fs',e,s,j⟩:=e;refine p ?_;rw[a]at e;cases e;haveI e:b=v:=aA j;haveI a:=(e)▸a;exact gC a rfl (aJ rfl) (K _ (f.obj h g (sy:=c) (it:=v) l n) ⟨_,_,cH (by rw[a];rfl),rfl,rfl⟩ (λi hi=>a8 (dJ hi)))
def Done (G:Gr) (fd:List Nat) (aV:List (List Nat)) (k:Nat) (mv:Nat->List (Nat×Nat)) (rd:Nat->List Nat):Prop:=
 ∃ks,aV[k]? =V9 ks/\Move G fd aV ks (mv k)/\rd k=kE (G.jv (G.dO fd ks))
theorem j2 {d:Type} {a b:List d} (h:a<+:b) {i:Nat} {x:d} (c:a[i]? =V9 x):b[i]? =V9 x:=by obtain⟨l,rfl⟩:=h;rw[bH (cB c)];exact c
theorem Done.pre {a:List (List Nat)} {k:Nat} (h:Done G fd aV k mv rd) (c:aV<+:a):Done G fd a k mv rd:=by obtain⟨ks,d,⟨e,f⟩,g⟩:=h;exact⟨ks,j2 c d,⟨e,λp b=>j2 c (f p b)⟩,g⟩
theorem GG {k o:Nat} {ks:List Nat} (S:BS HQ b c g R G fd) (A:BI HQ os aV mv rd H) (hK:vk G fd KS) (hk:∀ks∈aV,ks∈KS) (J:os[k]? =V9 o) (i:aV[k]? =V9 ks) (hm:mv k=[])
  (K:∀l a u e,BI HQ l a (upd mv k u) (upd rd k (kE (G.jv (G.dO fd ks)))) e->aV<+:a->os<+:l->(∀ks∈a,ks∈KS)->Move G fd a ks u->Q .none e):
  F (n+5) 72 [.ref b,.ref o] H Q:=by
 injection 0 n HQ H Q g c b R G with fd os aV KS mv rd k o ks S A hK hk J i hm K;injection 0 fd os aV KS mv rd k o ks with S A hK hk J i hm K;refine I4 ?_;unfold UJ;obtain⟨Y,f2,f3,f4,f5⟩:=S.f A.ext;have ag:=hk ks (aO i);have d:=hK.good ks ag;obtain⟨af,ae⟩:=d.items S.hw;have hc:=S.hc.ext A.ext;exists f2.app,hc.hU.call (f:=92) rfl rfl,(A.st k o ks J i).jF.app;refine K9 hc (S.hg.ext A.ext) S.cl S.hw d.it (by have:=d.len;exact tB ‹_›) (by have:=d.len;exact zD vc this) λr H1 h1 hr hL=> ?_;walk_at "w";refine(A.grow h1).dB J i λH2 B ad ax=> ?_;have bi:=ez A.d;have bj:=(A.st k o ks J i).len;have ac:H2[r]? =V9 (.list (vI (G.dO fd ks))):=(ax r (by lia)).trans hL;have Y:=(S.f B.ext).1;have av:=S.hg.ext B.ext;exists Y.app,ad.app;refine A0 av af ae ac λr2 H3 h3 bd aq=> ?_;walk_at "w";have ao:=ez B.d;refine(B.grow h3).Td J i (ff (uV ts ao) bd) aq (ad.ext h3) λH4 w au ay=> ?_;have ar:H4[r]? =V9 (.list (vI (G.dO fd ks))):=(ay r (by lia)).trans (h3.get ac);have Y:=(S.f w.ext).1;have aw:=S.hg.ext w.ext;exists Y.app,au.app;refine GJ aw S.hw af ae ar λr3 H5 z h5 al q hD=> ?_;have an:=w.grow h5;obtain⟨U,bg⟩:=q.lt S.hw;have E:=S.hw.n;have hi:intsOf ((dI (zh G (G.dO fd ks)) z).map (·.1))=V9 (z.map λ(x:Nat)=>(x:Int)):=by rw[xq,jx]
 exists w8 hD hi;rw[xq];have ab:=ez w.d;have bh:=(w.st k o ks J i).len;have ba:upd mv k []=mv:=by rw[←hm,xQ]
 refine cQ (σ:=Option V) (λs=>uZ b o r3 [s])
  (λj s e=>∃l a u,BI HQ l a (upd mv k u) (upd rd k (kE (G.jv (G.dO fd ks)))) e/\aV<+:a/\os<+:l/\(∀ks∈a,ks∈KS)/\u.map (·.1)=z.take j/\
   (∀p∈u,a[p.2]? =V9 (kE (G.iI (G.dO fd ks) p.1)))/\e[r3]? =V9 (.dict (dI (zh G (G.dO fd ks)) z))) Wa rfl
  ⟨os,aV,[],by rw[ba];exact an,mO _,mO _,hk,rfl,nofun,hD⟩ (λj s e h=>by obtain⟨_,_,_,_,_,_,_,_,_,h⟩:=h;exact h) ?_ ?_
 ·intro j v hv s H6 h KK ap;obtain⟨l,a,u,x,C,D,N,h,P,M⟩:=h;obtain⟨y,hy,e_⟩:=gU hv;rw[e_];have W:=(dq hy).2;have bk:=U y W;have am:z.take (j+1)=z.take j++[y]:=by rw[bX,hy];rfl
  have bc:y∉z.take j:=by have:=q.1;rw[←fO (j+1) z,am,cA,cA]at this;exact λe=>this.1.2.2 y e y (.head _) rfl
  have as:nt (dI (zh G (G.dO fd ks)) z) (.int y)=Wb:=Gn (λs e=>by have:=U s e;exact tc (ff this E)) (by lia);have be:gD (dI (zh G (G.dO fd ks)) z) (.int y)=V9 (.tup (vI (kE (G.iI (G.dO fd ks) y)))):=by rw[Gp,if_pos W];rfl
  obtain⟨Y,f2,f3,f4,f5⟩:=S.f x.ext;exists f5.call (f:=93) rfl rfl,gH M as be;refine y7 S x hK N (hK.step ks ag y ((q.2 y).1 W)) λbf X t H7 Z T ak ht az O _=> ?_;haveI aj:=j2 ak (j2 D J);haveI I:=j2 T (j2 C i);haveI L:=Z.st k o ks aj I;haveI ai:=L.mv;rw[qS]at ai;haveI ah:∀p∈u,p.1∈z:=λp e=>fj (h▸bN e);haveI bb:u.length<=20:=by haveI:=congrArg iS h;rw[aB,c9]at this;lia
  exists L.Sk.app,gh ai (vC (λp e=>by haveI:=U _ (ah p e);exact tc (ff this E)) (by lia)) (by rw[z8];exact tb bb);rw[z9 (by rw[h];exact bc)];haveI aa:=Z.move aj I (m:=u++[(y,t)]);rw[Ig]at aa;refine ap (V9 (.int y)) _ ⟨bf,X,u++[(y,t)],aa,C.trans T,D.trans ak,az,by rw[bV,h,am];rfl,λp e=> ?_,?_⟩
  ·rcases aZ.1 e with e|e
   ·exact j2 T (P p e)
   ·rw[aD.1 e];exact ht
  ·exact(a8 (by lia)).trans (O.get (j7 (ff (uV ts ab) al)) (j7 (ff ab al)) M)
 ·intro s H6 h;obtain⟨l,a,u,x,C,D,N,h,P,M⟩:=h;rw[dL,bZ]at h;exact K _ _ u _ x C D N ⟨by rw[h];exact q,P⟩
end
end
section
structure zp (H:Hp) (a g:Nat) (os:List Nat) (aV:List (List Nat)) (mv:Nat->List (Nat×Nat)) (rd:Nat->List Nat):Prop where
 gr:iK H a 21 (.ref g)
 st:∃q,iK H a 35 (.ref q)/\H[q]? =V9 (.list (vR os))/\∀(k o:Nat) ks,os[k]? =V9 o->aV[k]? =V9 ks->zG q H o k ks (mv k) (rd k)
 len:os.length=aV.length
theorem zp.ext {H c a g os aV mv rd} (h:zp H a g os aV mv rd) (e:Ext H c):zp c a g os aV mv rd:=by obtain⟨d,⟨q,f,h,i⟩,j⟩:=h;exact⟨d.ext e,⟨q,f.ext e,e.get h,λk o ks a b=>(i k o ks a b).ext e⟩,j⟩
theorem one_le {a:V}:[a].length<=iH:=c7 (by decide:1<=60000)
section
variable {n:Nat} {HQ H:Hp} {Q:V->Hp->Prop} {g c b:Nat} {R:GR} {G:Gr} {fd:List Nat} {os:List Nat} {aV KS:List (List Nat)} {mv:Nat->List (Nat×Nat)} {rd:Nat->List Nat}
theorem yn (E:kF H g R G) (I:G.Wf)
  (K:∀b c HQ a fd,Ext H HQ->BS HQ b c g R G fd->BI HQ [] [] (λ_=>[]) (λ_=>[]) a->Q (.ref b) a):sj pd (F (n+3)) 17 Q [.ref g] H:=by
 refine gj rfl (I6 ?_);delta UL;walk_at "w";refine Ob.new.set rfl (aJ rfl) λM m _=> ?_;walk_at "w";refine Aw (E.ext m.ext) I λc N fd p P J D=> ?_;haveI q:=m.grow p;haveI L:=ez m.at_;refine q.set rfl (aJ rfl) λj d k=> ?_;exists aQ (aP _);haveI b:Hu j c g fd:=by
  obtain⟨⟨C,r,s⟩,⟨w,l,t,u,v⟩,f,⟨x,h,z,A,B⟩,b⟩:=J;haveI a:c≠H.length:=by haveI:=p.len;lia
  haveI e:f≠H.length:=λe=>by haveI b:=(e)▸b;have b:=(q.at_)▸b;cases b
  exact⟨⟨C,(k _ a).trans r,s⟩,⟨w,l,(k _ a).trans t,u,v⟩,f,⟨x,h,(k _ a).trans z,A,B⟩,(k _ e).trans b⟩
 haveI o:=ez d.at_;refine gC ((aN j _).get d.at_) rfl (aJ rfl) ?_;walk_at "w";refine gC (i:=H.length) ((aN _ _).get (cH (by rw[(aN j _).get d.at_];rfl))) rfl (aJ rfl) ?_;rw[oE _ _ o,oE _ _ (by rw[aH,bS];exact ff o ta),oE _ _ (by rw[bS];exact o),List.set_set,aH,bS];refine⟨rfl,?_⟩;haveI i:∀{i:Nat} {x:O},i≠H.length->j[i]? =V9 x->∀{y:O},(j.set H.length y)[i]? =V9 x:=λa p _=>(a8 (dJ a)).trans p;haveI e:∀y,Hu (j.set H.length y) c g fd:=λy=>by
  obtain⟨⟨C,r,s⟩,⟨w,l,t,u,v⟩,f,⟨x,h,z,A,B⟩,b⟩:=b;haveI a:c≠H.length:=by haveI:=p.len;lia
  haveI e:f≠H.length:=λe=>by haveI b:=(e)▸b;have b:=(d.at_)▸b;cases b
  exact⟨⟨C,i a r,s⟩,⟨w,l,i a t,u,v⟩,f,⟨x,h,i a z,A,B⟩,i e b⟩
 haveI a:∀y,Ext H (j.set H.length y):=λy=>d.ext.put (aK _);refine K H.length c (j.set H.length (.inst 17 [(21,.ref g),(91,.ref c),(35,.ref j.length),(14,.ref (j.length+1))])) _ fd (a _) ⟨?_,e _,E.ext (a _),I,D⟩ ⟨?_,?_,?_,rfl,nofun,nofun,(λ_ h=>(c8 h).elim),gv,λ_ _=>⟨rfl,rfl⟩⟩
 ·rw[bS];exact cH (by rw[d.at_];rfl)
 ·rw[bF];exact aN _ _
 ·rw[bF];exact aR
 ·rw[bF];exact fD
theorem La (S:BS HQ b c g R G fd) (y:BI HQ [] [] (λ_=>[]) (λ_=>[]) H) (v:vk G fd KS) (M:0<G.rules.length)
  (K:∀a e os aV mv rd,Ext HQ e->zp e a g os aV mv rd->aV[0]? =V9 [G.off 0]->aV.Nodup->(∀ks∈aV,ks∈KS)->(∀k,k<aV.length->Done G fd aV k mv rd)->(∀k,aV.length<=k->mv k=[]/\rd k=[])->Q (.ref a) e):
  F (n+6) 73 [.ref b] H Q:=by
 injection 0 n HQ H Q g c b R G with fd KS S y v M K;injection 0 fd KS with S y v M K;refine I3 ?_;unfold UI;obtain⟨J,f2,I,f4,L⟩:=S.f y.ext;have A:=S.hg.ext y.ext;exists L.call (f:=93) rfl rfl,J.app,A.hU.call (f:=87) rfl rfl,AY (r:=0) (d:=0) A S.hw M,aQ one_le;rw[Nat.add_zero];refine y7 (ks:=[G.off 0]) S y v (λ_ h=>(c8 h).elim) v.start λos aV t H1 T _ _ ht V ac z=> ?_;walk_at "w";haveI N:aV[0]? =V9 [G.off 0]:=by
  obtain⟨x,a⟩:=fp (l:=aV) (i:=0) (by haveI:=cB ht;lia);rw[a];rcases z x (aO a)with q|q
  ·exact absurd q c8
  ·rw[q]
 refine qM (σ:=Nat) (λt=>kP b (eI t []))
  (λj t e=>∃os aV mv rd,BI HQ os aV mv rd e/\(∀k,k<t->Done G fd aV k mv rd)/\(∀k,t<=k->mv k=[]/\rd k=[])/\(∀ks∈aV,ks∈KS)/\aV[0]? =V9 [G.off 0]/\t<=aV.length/\j+t=60) 60 0 rfl
  ⟨os,aV,_,_,T,by lia,λ_ _=>⟨rfl,rfl⟩,V,N,aP _,rfl⟩ ?_
 intro j t H2 h KW x;injection 0 j t H2 KW with h x;obtain⟨os,aV,mv,rd,a,h,m,s,w,Y,hj⟩:=h;obtain⟨X,ad⟩:=a.iH v s;obtain⟨J,f2,I,f4,L⟩:=S.f a.ext;exists I.app,len_list a.q;rw[eA,a.len];by_cases q:t<aV.length
 ·obtain⟨ks,C⟩:=fp q;obtain⟨o,ho⟩:=fp (l:=os) (i:=t) (by rw[a.len];exact q);exists HU (dP.2 q),L.call (f:=94) rfl rfl,I.app,bO a.q (iV ho);refine GG S a v s ho C (m t (aK _)).1 λab u ms H3 U p ae W Z=> ?_;exists gZ;haveI E:=p.length_le;have B:=tJ hj (ff q X);refine x (j-1) (t+1) _ (tH B) ⟨ab,u,_,_,U,λk D=> ?_,λk D=> ?_,W,j2 p w,aE q E,tI B hj⟩
  ·by_cases e:k=t
   ·rw[e];exact⟨ks,j2 p C,by rw[qS];exact Z,qS⟩
   ·obtain⟨aa,O,P,h3⟩:=(h k (by lia)).pre p;exact⟨aa,O,by rw[mj e];exact P,by rw[mj e];exact h3⟩
  ·rw[mj (by lia),mj (by lia)];exact m k (tw D)
 ·exists HV (ed.2 (dQ.2 (tv ‹_›))),J.app,I.app;refine gj rfl (I7 ?_);delta UM;exists cN rfl (aJ rfl),cN rfl (aJ rfl);haveI e:=aN H2 [.inst 16 (cE (cE [] 21 (.ref g)) 35 (.ref HQ.length))];exact⟨rfl,K _ _ os aV mv rd (a.ext.trans e) ⟨⟨_,_,aR,rfl,rfl⟩,⟨HQ.length,⟨_,_,aR,rfl,rfl⟩,e.get a.q,λk o ks O P=>(a.st k o ks O P).ext e⟩,a.len⟩ w a.nd s (λk o=>h k (ff o (tv q))) (λk o=>m k (kD Y o))⟩
theorem Lb {KS:List Nat->List (List Nat)} (t:kF H g R G) (u:G.Wf) (s:∀fd,Cl G fd->vk G fd (KS fd)) (j:0<G.rules.length)
  (K:∀a d os aV mv rd fd,Ext H d->Cl G fd->zp d a g os aV mv rd->aV[0]? =V9 [G.off 0]->aV.Nodup->(∀ks∈aV,ks∈KS fd)->(∀k,k<aV.length->Done G fd aV k mv rd)->(∀k,aV.length<=k->mv k=[]/\rd k=[])->Q (.ref a) d):
  F (n+7) 74 [.ref g] H Q:=by
 refine I2 ?_;delta UH;walk_at "w";refine yn (n:=n+3) t u λb c HQ w fd r S h=> ?_;haveI v:=S.f h.ext;haveI i:=v.2.2.2.2;refine i.call (f:=95) rfl rfl ?_;exact La S h (s fd S.cl) j λa d os aV mv rd e q k l m o p=>(K a d os aV mv rd fd (r.trans e) S.cl q k l m o p)
end
end
section
noncomputable def wB (a:List (Nat×Int)):List (V×V):=a.map λp=>(.int p.1,.int p.2)
noncomputable def pF (a:List (Nat×Int)) (y:Nat):Option Int:=(a.find? λp=>p.1==y).map (·.2)
theorem oZ {a:List (Nat×Nat)}:vD a=wB (a.map λp=>(p.1,(p.2:Int))):=by simp[vD,wB]
theorem kN {y:Nat}:∀{a:List (Nat×Int)},gD (wB a) (.int y)=(pF a y).map V.int:=by
 intro a
 induction a with
 |nil=>exact rfl
 |cons p a b=>
  skip
  haveI f:=b;unfold gD wB pF at*;rw[cS,du,du];by_cases q:p.1=y
  ·rw[q];simp
  ·haveI c:(decide (V.int (p.1:Int)=V.int (y:Int)))=Wc:=decide_eq_false (λe=>q (eX.1 (V.int.inj e)));haveI d:(p.1==y)=Wc:=by simpa using q
   rw[c,d];exact f
theorem HY {y:Nat} {v:Int} {a:List (Nat×Int)} (h:y∉a.map (·.1)):jW (wB a) (.int y) (.int v)=wB (a++[(y,v)]):=by
 rw[qr]
 ·simp[wB]
 ·intro p c e;obtain⟨x,d,rfl⟩:=aM.1 c;haveI b:((x.1:Nat):Int)=y:=V.int.inj e;exact h (aM.2 ⟨x,d,eX.1 b⟩)
theorem Eu {y:Nat} {a:List (Nat×Int)} (h:∀p∈a,p.1<=1000000) (e:y<=1000000):nt (wB a) (.int y)=Wb:=by delta nt;rw[eh];refine⟨decide_eq_true ⟨by lia,by lia⟩,bW.2 λp c=> ?_⟩;obtain⟨s,d,b⟩:=aM.1 c;rw[←b];haveI:=h s d;exact cL.2 ⟨decide_eq_true ⟨by lia,by lia⟩,rfl⟩
theorem HX {a:List (Nat×Int)}:(wB a).length=a.length:=aB _
theorem pI {a:List (Nat×Int)}:(wB a).map (·.1)=vI (a.map (·.1)):=by simp[wB,vI]
theorem sU {b:List (Nat×Int)} {p:Nat×Int} (c:(b.map (·.1)).Nodup) (h:p∈b):pF b p.1=V9 p.2:=by
 induction b with
 |nil=>cases h
 |cons a b d=>
  rw[cS,c6]at c;delta pF;rw[du];rcases bD.1 h with rfl|h
  ·simp
  ·haveI:(a.1==p.1)=Wc:=by
    haveI:a.1≠p.1:=λe=>c.1 (e▸bN h);simpa using this
   rw[this];exact d c.2 h
theorem lN {a:List (Nat×Int)} {y:Nat} (h:y∉a.map (·.1)):pF a y=Wa:=by
 delta pF;rw[List.find?_eq_none.2 (λp b=>by haveI:p.1≠y:=λe=>h (e▸bN b);simpa using this)];rfl
noncomputable def D6 (v:Nat->Nat) (p:Nat×Nat):V×V:=(.tup [.int p.1,.int p.2],.int (v p.2))
theorem FH {p q:Nat×Nat} (h:V.tup [.int p.1,.int p.2]=V.tup [.int q.1,.int q.2]):p=q:=by haveI a:=eL (V.tup.inj h);haveI b:=eL a.2;exact Bi (eX.1 (V.int.inj a.1)) (eX.1 (V.int.inj b.1))
theorem Kw {v:Nat->Nat} {p:Nat×Nat}:∀{L:List (Nat×Nat)},gD (L.map (D6 v)) (.tup [.int p.1,.int p.2])=if p∈L then V9 (.int (v p.2)) else Wa:=by
 intro L
 induction L with
 |nil=>exact rfl
 |cons a L b=>
  skip
  haveI f:=b;unfold gD at*;rw[cS,du];by_cases q:a=p
  ·rw[q];simp[D6]
  ·haveI c:decide ((D6 v a).1=V.tup [.int p.1,.int p.2])=Wc:=decide_eq_false (λe=>q (FH e));haveI d:(p=a)=False:=eq_false (dJ q);simp only[c,f,bD,d,false_or]
theorem Kx {v:Nat->Nat} {p:Nat×Nat} {L:List (Nat×Nat)} (h:p∉L):jW (L.map (D6 v)) (.tup [.int p.1,.int p.2]) (.int (v p.2))=(L++[p]).map (D6 v):=by
 rw[qr]
 ·simp[D6]
 ·intro x c e;obtain⟨a,b,rfl⟩:=aM.1 c;exact h (FH e▸b)
theorem FJ {v:Nat->Nat} {p:Nat×Nat} {L:List (Nat×Nat)} (h:∀a∈L,a.1<=1000000/\a.2<=1000000) (f:p.1<=1000000/\p.2<=1000000):nt (L.map (D6 v)) (.tup [.int p.1,.int p.2])=Wb:=by
 haveI d:∀a:Nat×Nat,a.1<=1000000/\a.2<=1000000->keyOk (.tup [.int a.1,.int a.2])=Wb:=λa c=>by
  haveI:=N7 (ks:=[a.1,a.2]) (λx b=>by
   rcases bD.1 b with rfl|b
   ·exact c.1
   ·rw[aD.1 b];exact c.2)
  exact this
 delta nt;rw[d p f,g7];refine bW.2 λx b=> ?_;obtain⟨a,c,e⟩:=aM.1 b;rw[←e];exact cL.2 ⟨d a (h a c),rfl⟩
noncomputable def ja (rd:Nat->List Nat) (k:Nat):List (Nat×Nat):=(aC k).flatMap λj=>(rd j).map λr=>(j,r)
theorem nM {rd:Nat->List Nat} {k:Nat} {p:Nat×Nat}:p∈ja rd k↔p.1<k/\p.2∈rd p.1:=by
 delta ja;rw[fF];constructor
 ·intro a;obtain⟨j,b,c⟩:=a;obtain⟨r,d,a⟩:=aM.1 c;rw[←a];exact⟨aW.1 b,d⟩
 ·rintro⟨a,b⟩;exact⟨p.1,aW.2 a,aM.2 ⟨p.2,b,rfl⟩⟩
theorem Fu {rd:Nat->List Nat} (h:∀k,(rd k).length<=1):∀k,(ja rd k).length<=k:=by
 intro k
 induction k with
 |zero=>exact aK _
 |succ k a=>
  skip
  haveI b:=h k;unfold ja at*;rw[cG,fv,aH];rw[lB,sH,bY,aB];exact fN ‹_› ‹_›
noncomputable def Gr.eR (G:Gr) (r:Nat):Nat:=match G.rules[r]? with|some a=>a.left|none=>0
structure Ly (G:Gr) (aV:List (List Nat)) (rd:Nat->List Nat):Prop where
 len:aV.length<=60
 one:∀k,(rd k).length<=1
 ok:∀k,∀r∈rd k,r<G.rules.length
section
variable {n:Nat} {H:Hp} {Q:V->Hp->Prop} {g a:Nat} {R:GR} {G:Gr} {os:List Nat} {aV:List (List Nat)} {mv:Nat->List (Nat×Nat)} {rd:Nat->List Nat}
structure Mk (H0:Hp) (L:List (Nat×Nat)) (v:Nat->Nat) (H:Hp):Prop where
 ext:Ext H0 H
 D:H[H0.length]? =V9 (.dict (L.map (D6 v)))
theorem y3 (hg:kF H g R G) (W:G.Wf) (P:G.rA) (b:zp H a g os aV mv rd) (d:Ly G aV rd)
  (K:∀m e fl,Ext H e->Ms G fl->(∀ru∈G.rules,Gr.Mo G.tc fl ru)->(∀U,G.qu U->∀i,Sb (fl.getD i 0) (U i))->
   e[m]? =V9 (.dict ((ja rd aV.length).map (D6 λr=>fl.getD (G.eR r) 0)))->Q (.ref m) e):
  F (n+5) 60 [.ref a] H Q:=by
 injection 0 n H Q g a R G os aV with mv rd hg W P b d K;refine Jg ?_;delta UV;haveI t:=W.r;obtain⟨C,⟨q,U,D,X⟩,y⟩:=b;exists C.app;refine uD hg W P λf w fl c hf M hL J ae=> ?_;haveI E:Ext H (w++[.dict []]):=c.app;haveI A:=d.len;refine(U.ext E).app (cU (E.get D) ?_);haveI ab:Mk w (ja rd 0) (λr=>fl.getD (G.eR r) 0) (w++[.dict []]):=⟨aN _ _,aR⟩;refine cQ (σ:=Option V×Option V) (λs=>uZ a f w.length [s.1,s.2]) (λk s e=>Mk w (ja rd k) (λr=>fl.getD (G.eR r) 0) e) (Wa,Wa) rfl ab
  (λk s e h=>(c.trans h.ext).get D) ?_ ?_
 ·intro k v T s H3 h KK Z;haveI b:=cB T;haveI b:=(eA)▸b;have b:=(y)▸b;obtain⟨o,ho⟩:=fp (l:=os) (i:=k) (by rw[y];exact b);obtain⟨ks,aa⟩:=fp b;rw[iV ho]at T;rw[←aA T];haveI S:=X k o ks ho aa;obtain⟨ρ,ad,N⟩:=S.rdF;haveI I:=c.trans h.ext;exists(ad.ext I).app,cU (I.get N);haveI B:ja rd (k+1)=ja rd k++(rd k).map λr=>(k,r):=by delta ja;rw[cG,fv];simp
  refine cQ (σ:=Option V) (λu=>D9 a f w.length o [u]) (λj u e=>Mk w (ja rd k++((rd k).take j).map λr=>(k,r)) (λr=>fl.getD (G.eR r) 0) e) s.2 rfl
   (by simpa using h) (λj u e h=>(c.trans h.ext).get N) ?_ ?_
  ·intro j v T u H4 h KJ Y;obtain⟨r,hr,e_⟩:=gU T;rw[e_];haveI e:j=0:=by haveI:=cB hr;haveI:=d.one k;lia
   subst e;haveI i:=d.ok k r (dq hr).2;haveI m:=W.at_ (aF i);haveI e:G.eR r=(G.rules[r]'i).left:=by delta Gr.eR;rw[aF i]
   generalize G.rules[r]'i=ru at m e;haveI z:=c.trans h.ext;haveI j:=hg.ext z;have L:∀p∈ja rd k++((rd k).take 0).map (λr=>(k,r)),p.1<=1000000/\p.2<=1000000:=λp x=>by rw[oB,gL,bY]at x;obtain⟨L,h2⟩:=nM.mp x;haveI:=d.ok _ _ h2;exact⟨by exact tc (ff (uV L b) A),by exact tc (ff this t)⟩
   haveI ac:(k,r)∉ja rd k++((rd k).take 0).map (λr=>(k,r)):=λx=>by rw[oB,gL,bY]at x;exact absurd (nM.mp x).1 (cX _)
   exists(C.ext z).app,j.rules.app,bO j.rl (j.rg m),(j.ru m).left.app,bO (h.ext.get hL) (M.get m.left)<|((S.ext z).num).app,aQ dN,gh (k:=.tup [.int k,.int r]) h.D (FJ (p:=(k,r)) L ⟨by exact tc (ff b A),by exact tc (ff i t)⟩) (by haveI:=Fu d.one k;rw[aB,oB,gL,bY];exact tc (ff (zD this b) A))
   haveI p:=Kx (v:=λr=>fl.getD (G.eR r) 0) ac;rw[e]at p;refine Y (V9 (.int r)) _ ⟨h.ext.put (aK _),?_⟩;rw[cH (by rw[h.D];rfl)];refine congrArg (λx=>V9 (O.dict x)) (p.trans ?_);rw[bX,hr];simp
  ·intro u H4 h;rw[dL,bZ,←B]at h;exact Z (V9 (.ref o),u) _ h
 ·intro s H3 h;rw[eA,y]at h;exact K _ _ fl (c.trans h.ext) M J ae h.D
end
end
section
noncomputable def nI (tc:Nat) (ms:List (Nat×Nat)):List (Nat×Int):=(ms.filter λp=>p.1<tc).map λp=>(p.1,if p.1=0 then 1048576 else(p.2:Int))
noncomputable def qc (tc:Nat) (ms:List (Nat×Nat)):List (Nat×Nat):=ms.filter λp=> !decide (p.1<tc)
theorem ij {tc:Nat} {ms:List (Nat×Nat)}:(nI tc ms).map (·.1)=(ms.map (·.1)).filter λs=>s<tc:=by rw[cI,HP];rfl
theorem ut {tc:Nat} {ms:List (Nat×Nat)}:(qc tc ms).map (·.1)=(ms.map (·.1)).filter λs=> !decide (s<tc):=by rw[HP];rfl
theorem o0 {ms:List (Nat×Nat)} {p:Nat×Nat} (a:(ms.map (·.1)).Nodup) (h:p∈ms):gD (vD ms) (.int p.1)=V9 (.int p.2):=by rw[oZ,kN,sU (p:=(p.1,(p.2:Int))) (by rw[cI];exact a) (aM.2 ⟨p,h,rfl⟩)];rfl
structure OZ (H:Hp) (m g:Nat) (sh:List (Nat×Int)) (gt:List (Nat×Nat)) (lk:List (Nat×Nat)):Prop where
 hU:zH H m 8 [36,37,24]
 gr:iK H m 21 (.ref g)
 sh:∃q,iK H m 30 (.ref q)/\H[q]? =V9 (.dict (wB sh))
 gt:∃q,iK H m 23 (.ref q)/\H[q]? =V9 (.dict (vD gt))
 lk:∃q ls,iK H m 32 (.ref q)/\H[q]? =V9 (.list (vR ls))/\ls.length=lk.length/\∀(i l:Nat) p,ls[i]? =V9 l->lk[i]? =V9 p->H[l]? =V9 (.list [.int p.1,.int p.2])
 ba:iK H m 34 (.int 0)
 se:∃q,iK H m 25 (.ref q)/\H[q]? =V9 (.list [])/\m<q
theorem OZ.ext {H d m g r f o} (h:OZ H m g r f o) (e:Ext H d):OZ d m g r f o:=by injection 0 H d m g r f o with h e;obtain⟨s,t,⟨B,u,k⟩,⟨C,v,n⟩,⟨D,ls,w,x,y,z⟩,A,⟨q,h,c,j⟩⟩:=h;exact⟨s.ext e,t.ext e,⟨B,u.ext e,e.get k⟩,⟨C,v.ext e,e.get n⟩,⟨D,ls,w.ext e,e.get x,y,λi l p a b=>e.get (z i l p a b)⟩,A.ext e,⟨q,h.ext e,e.get c,j⟩⟩
structure MI (H0:Hp) (fs:List (Nat×V)) (sh:List (Nat×Int)) (gt:List (Nat×Nat)) (H:Hp):Prop extends Ob H0 8 fs H where
 s:H[H0.length+1]? =V9 (.dict (wB sh))
 t:H[H0.length+2]? =V9 (.dict (vD gt))
theorem MI.grow {b H a:Hp} {c f d} (h:MI b c f d H) (e:Ext H a):MI b c f d a:=⟨h.toOb.grow e,e.get h.s,e.get h.t⟩
theorem MI.fs {a H:Hp} {d fs' c b} (h:MI a d c b H):MI a fs' c b (H.set a.length (.inst 8 fs')):=⟨h.toOb.put,(a8 (tn ts)).trans h.s,(a8 (tn tQ)).trans h.t⟩
structure DJ (G:Gr) (ms:List (Nat×Nat)):Prop where
 nd:(ms.map (·.1)).Nodup
 lt:∀p∈ms,p.1<G.names.length
theorem DJ.len {G:Gr} {ms:List (Nat×Nat)} (h:DJ G ms) (b:G.Wf):ms.length<=20:=by
 haveI:=j8 h.nd (N:=G.names.length) (λx c=>by obtain⟨p,a,rfl⟩:=aM.1 c;exact h.lt p a)
 rw[aB]at this;exact aE this b.n
section
variable {n:Nat} {H:Hp} {Q:V->Hp->Prop} {g q o k mr:Nat} {R:GR} {G:Gr} {ks:List Nat} {ms:List (Nat×Nat)} {r:List Nat} {L:List (Nat×Nat)} {v:Nat->Nat}
noncomputable def ui (L:List (Nat×Nat)) (v:Nat->Nat) (k:Nat) (r:List Nat):List (Nat×Nat):=r.map λx=>(x,if(k,x)∈L then v x else 0)
theorem C7 (hg:kF H g R G) (U:G.Wf) (S:0<G.tc) (b:zG q H o k ks ms r) (c:DJ G ms) (Y:H[mr]? =V9 (.dict (L.map (D6 v)))) (hr:r.length<=1) (hL:∀a∈L,a.1<=1000000/\a.2<=1000000)
  (hk:k<=1000000) (N:∀x∈r,x<=1000000)
  (K:∀m a,Ext H a->H.length<=m->OZ a m g (nI G.tc ms) (qc G.tc ms) (ui L v k r)->Q (.ref m) a):sj pd (F (n+1)) 8 Q [.ref g,.ref o,.ref mr] H:=by
 injection 0 n H Q g q o k mr R with G ks ms r L v hg U S b c Y hr hL hk N K;injection 0 G ks ms r L v with hg U S b c Y hr hL hk N K;refine gj rfl ?_;refine JZ ?_;unfold VE;have hN:=U.n;have ab:=c.len U;have m:∀{l:List (Nat×V)},jq l.length 100=Wb->l.length<=100:=aJ;exists cN rfl (m rfl),(b.num.ext (aN _ _)).app,cN rfl (m rfl);rw[bF];exists cN rfl (m rfl);rw[bF];exists cN rfl (m rfl);have e1:∀x:O,(H++[x]).length=H.length+1:=λx=>by simp
 have e2:∀x:O,(H++x::[].append [O.dict []]).length=H.length+2:=λx=>by simp
 rw[e1,e2];have Z:MI H (cE (cE (cE (cE [] 21 (.ref g)) 29 (.int k)) 30 (.ref (H.length+1))) 23 (.ref (H.length+2))) (nI G.tc ([]:List (Nat×Nat))) (qc G.tc [])
   (H++O.inst 8 (cE (cE (cE (cE [] 21 (.ref g)) 29 (.int k)) 30 (.ref (H.length+1))) 23 (.ref (H.length+2)))::([].append [O.dict []]).append [O.dict []]):=
  ⟨⟨aN _ _,aR⟩,fD,fD⟩
 generalize (H++O.inst 8 (cE (cE (cE (cE [] 21 (.ref g)) 29 (.int k)) 30 (.ref (H.length+1))) 23 (.ref (H.length+2)))::([].append [O.dict []]).append [O.dict []])=H1 at Z;have hi:intsOf ((vD ms).map (·.1))=V9 ((ms.map (·.1)).map λ(x:Nat)=>(x:Int)):=by rw[oZ,pI,cI,jx];rfl
 have M:(vD ms).map (·.1)=vI (ms.map (·.1)):=by rw[oZ,pI,cI];rfl
 exists(b.Sk.ext Z.ext).app,w8 (Z.ext.get b.mv) hi;rw[M];refine cQ (σ:=Option V) (λs=>D9 H.length g o mr [s,Wa])
  (λj s a=>MI H (cE (cE (cE (cE [] 21 (.ref g)) 29 (.int k)) 30 (.ref (H.length+1))) 23 (.ref (H.length+2))) (nI G.tc (ms.take j)) (qc G.tc (ms.take j)) a) Wa rfl Z (λj s a h=>h.ext.get b.mv) ?_ ?_
 ·intro j w t s f h KK d;injection 0 j w s f KK with t h d;obtain⟨y,P,rfl⟩:=gU t;rw[bC]at P;obtain⟨p,J,rfl⟩:=cC.1 P;injection 0 p with J P t;have i:=(dq J).2;have aa:=c.lt p i;have z:ms.take (j+1)=ms.take j++[p]:=by rw[bX,J];rfl
  have l:p.1∉(ms.take j).map (·.1):=by have:=c.nd;rw[←fO (j+1) ms,z,bV,bV,cA,cA]at this;exact λe=>this.1.2.2 p.1 e p.1 (by simp) rfl
  have I:p.1∉(nI G.tc (ms.take j)).map (·.1):=by rw[ij];exact λe=>l (aG.1 e).1
  have E:p.1∉(qc G.tc (ms.take j)).map (·.1):=by rw[ut];exact λe=>l (aG.1 e).1
  have u:nt (wB (nI G.tc (ms.take j))) (.int p.1)=Wb:=Eu (λx y=>by have w:x.1∈(nI G.tc (ms.take j)).map (·.1):=bN y;rw[ij]at w;have:=of_decide_eq_true (aG.1 w).2;have:=U.M3;lia) (by lia)
  have B:nt (vD (qc G.tc (ms.take j))) (.int p.1)=Wb:=vC (λx y=>by have w:=c.lt x (fj (aG.1 y).1);lia) (by lia)
  have A:(wB (nI G.tc (ms.take j))).length<=900:=by rw[HX];unfold nI;rw[aB];refine aE (bI _ _) ?_;rw[c9];lia
  have D:(vD (qc G.tc (ms.take j))).length<=900:=by rw[z8];unfold qc;refine aE (bI _ _) ?_;rw[c9];lia
  have a:∀x:Int,(p.1<G.tc->x=if p.1=0 then 1048576 else(p.2:Int))->p.1<G.tc->jW (wB (nI G.tc (ms.take j))) (.int p.1) (.int x)=wB (nI G.tc (ms.take (j+1)))/\qc G.tc (ms.take (j+1))=qc G.tc (ms.take j):=λx y e=>by
   rw[HY I,z,y e];constructor
   ·congr 1;unfold nI;rw[cY,bV];simp[e]
   ·unfold qc;rw[cY];simp[e]
  have e:¬p.1<G.tc->jW (vD (qc G.tc (ms.take j))) (.int p.1) (.int p.2)=vD (qc G.tc (ms.take (j+1)))/\nI G.tc (ms.take (j+1))=nI G.tc (ms.take j):=λe=>by
   rw[z9 E,z];constructor
   ·congr 1;unfold qc;rw[cY];simp[e]
   ·unfold nI;rw[cY];simp[e]
  have W:=gH (Q:=λv=>True) (h.ext.get b.mv) (vC (λx y=>by have:=c.lt x y;lia) (by lia:p.1<=1000000)) (o0 c.nd i) trivial;have y:nt (vD ms) (.int p.1)=Wb:=vC (λx y=>by have:=c.lt x y;lia) (by lia);walk_at "w";by_cases X:p.1=0
  ·obtain⟨w,x⟩:=a 1048576 (λ_=>by rw[if_pos X]) (by lia);exists li (by lia),(h.toOb.fld (a:=30) rfl rfl).app,gh h.s u A;rw[w];refine d (V9 (.int p.1)) _ ⟨⟨h.ext.put (by lia),(a8 (by lia)).trans h.at_⟩,cH (by rw[h.s];rfl),?_⟩;rw[x];exact(a8 (by lia)).trans h.t
  ·have C:=hg.ext h.ext;exists jg (by lia),C.tc.app;by_cases T:p.1<G.tc
   ·obtain⟨w,x⟩:=a p.2 (λ_=>by rw[if_neg X]) T;exists li (dP.2 T),(b.Sk.ext h.ext).app,gH (h.ext.get b.mv) y (o0 c.nd i),(h.toOb.fld (a:=30) rfl rfl).app,gh h.s u A;rw[w];refine d (V9 (.int p.1)) _ ⟨⟨h.ext.put (by lia),(a8 (by lia)).trans h.at_⟩,cH (by rw[h.s];rfl),?_⟩;rw[x];exact(a8 (by lia)).trans h.t
   ·obtain⟨w,x⟩:=e T;exists jg (ed.2 (dQ.2 (tv ‹_›))),(b.Sk.ext h.ext).app,gH (h.ext.get b.mv) y (o0 c.nd i),(h.toOb.fld (a:=23) rfl rfl).app,gh h.t B D;rw[w];refine d (V9 (.int p.1)) _ ⟨⟨h.ext.put (ta),(a8 (by lia)).trans h.at_⟩,?_,cH (by rw[h.t];rfl)⟩;rw[x];exact(a8 (by lia)).trans h.s
 ·intro s f h;injection 0 s f with h;rw[dL,aB,bZ]at h;exists aQ (aP _);have h3:=h.grow (aN f [.list []]);refine gC h3.at_ rfl (m rfl) ?_;walk_at "w";have X:=h3.fs (fs':=cE (cE (cE (cE (cE [] 21 (.ref g)) 29 (.int k)) 30 (.ref (H.length+1))) 23 (.ref (H.length+2))) 32 (.ref f.length));have C:=ez h.t;have E:((f++[O.list []]).set H.length (.inst 8 (cE (cE (cE (cE (cE [] 21 (.ref g)) 29 (.int k)) 30 (.ref (H.length+1))) 23 (.ref (H.length+2))) 32 (.ref f.length))))[f.length]? =V9 (.list []):=
   (a8 (tn (zD ta C))).trans aR
  generalize ((f++[O.list []]).set H.length (.inst 8 (cE (cE (cE (cE (cE [] 21 (.ref g)) 29 (.int k)) 30 (.ref (H.length+1))) 23 (.ref (H.length+2))) 32 (.ref f.length))))=H3 at X E;obtain⟨ρ,W,J⟩:=b.rdF;exists(W.ext X.ext).app,cU (X.ext.get J);refine cQ (σ:=Option V) (λu=>D9 H.length g o mr [s,u])
   (λj u a=>MI H (cE (cE (cE (cE (cE [] 21 (.ref g)) 29 (.int k)) 30 (.ref (H.length+1))) 23 (.ref (H.length+2))) 32 (.ref f.length)) (nI G.tc ms) (qc G.tc ms) a/\
    ∃ls,a[f.length]? =V9 (.list (vR ls))/\ls.length=j/\∀(i l:Nat) p,ls[i]? =V9 l->(ui L v k r)[i]? =V9 p->a[l]? =V9 (.list [.int p.1,.int p.2])) Wa rfl
   ⟨X,[],E,rfl,λi l p h=>(by simp at h)⟩ (λj s a h=>h.1.ext.get J) ?_ ?_
  ·intro j w t u A h KJ P;injection 0 j w u A KJ with t h P;obtain⟨x,y,rfl⟩:=gU t;injection 0 x with y t;obtain⟨B,ls,d,e,I⟩:=h;have a:j=0:=by have:=cB y;lia
   subst a;obtain rfl:ls=[]:=jZ e;have j:=Kw (v:=v) (p:=(k,x)) (L:=L);exists(B.toOb.fld (a:=32) rfl rfl).app,cF d,on (B.ext.get Y),(b.num.ext B.ext).app,aQ dN,sX (k:=.tup [.int k,.int x]) (B.ext.get Y) (FJ (p:=(k,x)) hL ⟨hk,N x (dq y).2⟩);have T:(gD (L.map (D6 v)) (.tup [.int k,.int x])).getD (.int 0)= .int ((if(k,x)∈L then v x else 0:Nat):Int):=by rw[j];split<;>rfl
   rw[T];exists aQ dN,cR ((aN A _).get d) (aP _);have aa:=ez d;have D:=B.grow (aN A [.list [.int x,.int (if(k,x)∈L then v x else 0:Nat)]]);refine P (V9 (.int x)) _ ⟨⟨⟨D.ext.put (tw (zD ta C)),(a8 (j7 (zD ta C))).trans D.at_⟩,(a8 (by lia)).trans D.s,(a8 (j7 C)).trans D.t⟩,[A.length],?_,rfl,λi l p w z=> ?_⟩
   ·rw[cH (by rw[(aN A _).get d];rfl)];rfl
   ·induction i with
    |succ i=>simp at w
    |zero=>simp at w;subst w;unfold ui at z;rw[bC,y]at z;rw[←aA z];exact(a8 (tn aa)).trans aR
  ·intro u A h;injection 0 u A with h;obtain⟨B,ls,d,e,I⟩:=h;rw[dL]at e;walk_at "w";refine gC B.at_ rfl (m rfl) ?_;haveI D:=B.fs (fs':=cE (cE (cE (cE (cE (cE [] 21 (.ref g)) 29 (.int k)) 30 (.ref (H.length+1))) 23 (.ref (H.length+2))) 32 (.ref f.length)) 34 (.int 0));exists aQ (aP _);refine gC (i:=H.length) ((aN _ _).get D.at_) rfl (m rfl) ?_;have a:∀{i:Nat} {xs:List V},A[i]? =V9 (.list xs)->∀(y z:List (Nat×V)),((A.set H.length (.inst 8 y)++[O.list []]).set H.length (.inst 8 z))[i]? =V9 (.list xs):=λ{i xs} h y z=>by
    haveI a:H.length≠i:=er B.at_ h (by simp);exact(a8 a).trans ((aN _ _).get ((a8 a).trans h))
   haveI j:=(D.grow (aN _ [.list []])).fs (fs':=cE (cE (cE (cE (cE (cE (cE [] 21 (.ref g)) 29 (.int k)) 30 (.ref (H.length+1))) 23 (.ref (H.length+2))) 32 (.ref f.length)) 34 (.int 0)) 25 (.ref (A.set H.length (.inst 8 (cE (cE (cE (cE (cE (cE [] 21 (.ref g)) 29 (.int k)) 30 (.ref (H.length+1))) 23 (.ref (H.length+2))) 32 (.ref f.length)) 34 (.int 0)))).length));haveI t:=ez D.at_;refine⟨rfl,K _ _ j.ext (aK _) ⟨mF j.at_ rfl,j.toOb.fld rfl rfl,⟨_,j.toOb.fld rfl rfl,j.s⟩,⟨_,j.toOb.fld rfl rfl,j.t⟩,⟨_,ls,j.toOb.fld rfl rfl,a d _ _,by rw[e];rw[aB],λi l p w z=>a (I i l p w z) _ _⟩,
    j.toOb.fld rfl rfl,⟨_,j.toOb.fld rfl rfl,(a8 (cT t)).trans aR,t⟩⟩⟩
end
end
section
structure Eb (tc:Nat) (sh:List (Nat×Int)) (lk:List (Nat×Nat)):Prop where
 Pk:tc<=20
 sk:∀p∈sh,p.1<tc
 nd:(sh.map (·.1)).Nodup
 l1:lk.length<=1
 ml:∀p∈lk,p.2<2 ^ tc
 Ov:∀p∈lk,∀b,p.2.testBit b=Wb->b∉sh.map (·.1)
noncomputable def wV (lk:List (Nat×Nat)) (t:Nat):Int:=match lk with
 |p::_=>if p.2.testBit t then-(p.1:Int) else 0
 |[]=>0
noncomputable def J5 (tc:Nat) (sh:List (Nat×Int)) (lk:List (Nat×Nat)):List Int:=(aC tc).map λt=>(pF sh t).getD (wV lk t)
theorem Eb.m64 {tc sh lk} (h:Eb tc sh lk) {p:Nat×Nat} (a:p∈lk):p.2<2 ^ 64:=a9 (h.ml p a) (fX (by decide) (by haveI:=h.Pk;exact tb this))
theorem Eb.bt {tc sh lk} (h:Eb tc sh lk) {p:Nat×Nat} (c:p∈lk) {b:Nat} (a:p.2.testBit b=Wb):b<tc:=by
 rcases cZ b tc with q|q
 ·exact q
 ·have a:=(nx (a9 (h.ml p c) (fX (by decide) q)))▸a;cases a
theorem Eb.ok {tc sh lk} (h:Eb tc sh lk) {y:Nat} (b:y<=1000000):nt (wB sh) (.int y)=Wb:=Eu (λp a=>by haveI:=h.sk p a;haveI:=h.Pk;lia) b
theorem BC {N t:Nat} {f:Nat->Int} {x:Int} (a:t<N):((aC N).map f).set t x=(aC N).map (upd f t x):=by
 apply lC;intro i;rw[List.getElem?_set];by_cases q:t=i
 ·subst q;simp[a,qS]
 ·rw[if_neg q];simp only[bC];by_cases q':i<N
  ·simp[q',mj (dJ q)]
  ·simp[q']
theorem Kr {l:List (Nat×Int)} {p:Nat×Int} {t:Nat} (h:p.1∉l.map (·.1)):pF (l++[p]) t=if t=p.1 then V9 p.2 else pF l t:=by
 by_cases q:t=p.1
 ·rw[q];haveI:=lN h;unfold pF at this⊢;rw[if_pos rfl,El];haveI this:=Option.map_eq_none_iff.1 this;rw[this];simp
 ·delta pF;haveI a:(p.1==t)=Wc:=by simpa using dJ q
  rw[if_neg q,El];simp[a]
section
variable {n:Nat} {H:Hp} {Q:V->Hp->Prop} {g m:Nat} {R:GR} {G:Gr} {sh:List (Nat×Int)} {gt:List (Nat×Nat)} {lk:List (Nat×Nat)}
theorem Gz (E:OZ H m g sh gt lk) (e:Eb G.tc sh lk) (K:∀a,Ext H a->Q .none a):F (n+2) 16 [.ref m] H Q:=by
 refine JY ?_;delta VD;obtain⟨Z,ls,O,C,P,R⟩:=E.lk;obtain⟨qs,T,U⟩:=E.sh;exists O.app,cU C;refine cQ (σ:=Option V×Option V×Option V) (λs=>kP m [s.1,s.2.1,s.2.2]) (λk s a=>Ext H a) (Wa,Wa,Wa) rfl Ext.yc (λk s a h=>h.get C) ?_ ?_
 ·intro k v t s J w X A;haveI x:=cB t;have x:=(eA)▸x;obtain⟨l,o⟩:=fp x;obtain⟨p,I⟩:=fp (l:=lk) (i:=k) (ff x (te P));rw[iV o]at t;rw[←aA t];have d:=(dq I).2;haveI B:=R k l p o I;exists lG (w.get B);refine xy (e.m64 d) λr L y Y D=> ?_;have c:=w.trans y;refine cU D (cQ (σ:=Option V×Option V) (λu=>xM m l [u.1,u.2]) (λj u a=>a=L) (s.2.1,s.2.2) rfl rfl (λj u a h=>by rw[h];exact D) ?_ ?_)
  ·intro j v t u M h W z;rw[h];obtain⟨b,S,N⟩:=gU t;rw[N];have f:=j9.mp (dq S).2;haveI a:=e.bt d f;haveI q:=e.Pk;exists(T.ext c).app,in_dict (c.get U) (e.ok (tc (ff a q)));rw[kN,lN (e.Ov p d b f)];exists FT;exact z (V9 (.int b),V9 .none) _ rfl
  ·intro u M h;rw[h];exact A (V9 (.ref l),u.1,u.2) _ c
 ·intro s J w;exact K _ w
theorem Rr (T:kF H g R G) (hw:G.Wf) (E:OZ H m g sh gt lk) (w:Eb G.tc sh lk) (K:∀r b,Ext H b->H.length<=r->b[r]? =V9 (.list (vZ (J5 G.tc sh lk)))->Q (.ref r) b):
  F (n+2) 17 [.ref m] H Q:=by
 injection 0 n H Q g m R G sh gt with lk T hw E w K;injection 0 lk with T hw E w K;refine JX ?_;delta VC;have C:=aN H [.list [.int 0]];haveI hl:=w.l1;haveI B:=w.Pk;exists aQ one_le,(E.gr.ext C).app,(T.ext C).tc.app,yq (v:=.int 0) (aR) (tb B);have e1:(H++[O.list [V.int 0]]).length=H.length+1:=aH;haveI z:Ext H (H++[.list [.int 0]]++[.list (aY G.tc (.int 0))]):=C.app;haveI L:(H++[O.list [V.int 0]]++[.list (aY G.tc (.int 0))])[H.length+1]? =V9 (.list (vZ ((aC G.tc).map λ_=>0))):=by rw[←e1,aR];simp[vZ,HL]
 rw[e1];generalize (H++[O.list [V.int 0]]++[.list (aY G.tc (.int 0))])=H2 at z L⊢;refine uX λk_=> ?_;obtain⟨ql,ls,h1,N,J,h4⟩:=E.lk;injection 0 ql ls with h1 N J h4;obtain⟨qs,s1,W⟩:=E.sh;haveI o:H.length<=H.length+1:=fY _;refine k_ ?_;refine(h1.ext z).app (N9 (z.get N) ?_);refine cQ (σ:=Option V×Option V) (λs=>xM m (H.length+1) [s.1,s.2]) (λk s b=>Ext H b/\b[H.length+1]? =V9 (.list (vZ ((aC G.tc).map λt=>if k=0 then 0 else wV lk t)))) (Wa,Wa) rfl
  ⟨z,L⟩ (λk s b h=>h.1.get N) ?_ ?_
 ·intro k v D s X h KK x;injection 0 k v s X KK with D h x;obtain⟨f,i⟩:=h;haveI hk:=cB D;rw[eT,eA,J]at hk;haveI a:k=0:=by lia
  subst a;obtain⟨p,rfl⟩:∃p,lk=[p]:=by
   cases lk with
   |nil=>simp at hk
   |cons p r=>induction r with
    |nil=>exact⟨p,rfl⟩
    |cons _ _=>simp at hl
  obtain⟨l,rfl⟩:∃l,ls=[l]:=by
   cases ls with
   |nil=>simp at J
   |cons p r=>induction r with
    |nil=>exact⟨p,rfl⟩
    |cons _ _=>simp at J
  rw[←aA D];haveI k:p∈[p]:=aD.2 rfl;haveI M:=h4 0 l p rfl rfl;exists lG (f.get M);refine xy (w.m64 k) λr Y a hr d=> ?_;haveI U:=ez i;refine cU d ?_;refine cQ (σ:=Option V) (λu=>uZ m (H.length+1) l [u]) (λj u b=>Ext H b/\b[r]? =V9 (.list (vI (jM p.2)))/\b[H.length+1]? =V9 (.list (vZ ((aC G.tc).map λt=>if t∈(jM p.2).take j then-(p.1:Int) else 0)))) s.2 rfl
   ⟨f.trans a,d,by exact a.get i⟩ (λj u b h=>h.2.1) ?_ ?_
  ·intro j v D u Z h KJ S;haveI e:=h.1;haveI P:=h.2.1;haveI c:=h.2.2;obtain⟨b,hb,I⟩:=gU D;rw[I];have y:=w.bt k (j9.mp (dq hb).2);exists jr (e.get M)<|fR c (by rw[kW,aB,aU];exact y)
   rw[z0,BC y];refine S (V9 (.int b)) _ ⟨e.put o,(a8 (tn (ff U hr))).trans P,?_⟩;rw[cH (by rw[c];rfl)];congr 3;apply dU;intro t _;haveI A:(jM p.2).take (j+1)=(jM p.2).take j++[b]:=by rw[bX,hb];rfl
   rw[A];delta upd;by_cases q:t=b
   ·simp[q]
   ·simp[q]
  ·intro u Z h;haveI e:=h.1;haveI c:=h.2.2;rw[dL,bZ]at c;refine x (V9 (.ref l),u) _ ⟨e,?_⟩;rw[c];congr 3;apply dU;intro t _;rw[show(if 0+1=0 then(0:Int) else wV [p] t)=wV [p] t from if_neg (j7 ts)];delta wV;simp only[j9]
 ·intro s X h;haveI f:=h.1;haveI i:=h.2;haveI l:∀t,(if(vR ls).reverse.length=0 then 0 else wV lk t)=wV lk t:=λt=>by
   rw[eT,eA,J];split
   ·next q=>rw[jZ q];rfl
   ·rfl
  simp only[l]at i;haveI hi:intsOf ((wB sh).map (·.1))=V9 ((sh.map (·.1)).map λ(x:Nat)=>(x:Int)):=by rw[pI,jx]
  exists(s1.ext f).app,w8 (f.get W) hi;rw[pI];refine cQ (σ:=Option V) (λu=>xM m (H.length+1) [s.1,u]) (λj u b=>Ext H b/\b[H.length+1]? =V9 (.list (vZ (J5 G.tc (sh.take j) lk)))) s.2 rfl
   ⟨f,i⟩ (λj u b h=>h.1.get W) ?_ ?_
  ·intro j v D u Y h KK x;haveI a:=h.1;haveI d:=h.2;obtain⟨y,q,I⟩:=gU D;rw[I];haveI q:=(bC)▸q;obtain⟨p,r,I⟩:=cC.1 q;rw[←I];haveI k:=(dq r).2;haveI b:=w.sk p k;haveI A:sh.take (j+1)=sh.take j++[p]:=by rw[bX,r];rfl
   have c:p.1∉(sh.take j).map (·.1):=by haveI:=w.nd;rw[←fO (j+1) sh,A,bV,bV,cA,cA]at this;exact λe=>this.1.2.2 p.1 e p.1 (.head _) rfl
   exists(s1.ext a).app,gH (a.get W) (w.ok (tc (ff b B))) (by rw[kN,sU w.nd k];rfl),fR d (by rw[kW];rw[aB,aU];exact b);refine x (V9 (.int p.1)) _ ⟨a.put o,?_⟩;rw[cH (by rw[d];rfl),z0];rw[BC b,A];congr 3;apply dU;intro t _;rw[Kr c];delta upd;split<;>rfl
  ·intro u Y h;haveI a:=h.1;haveI d:=h.2;rw[dL,aB,bZ]at d;exists(E.ba.ext a).app;refine xy (m:=0) (by decide) λr Z e hr c=> ?_;exists cU c;haveI:vI (jM 0)=[]:=rfl;rw[this]at c⊢;rw[qe];refine⟨c,?_⟩;exact K _ _ (a.trans e) o (e.get d)
theorem Cf {x t:Nat}:(x&&& 2 ^ t)≠0↔x.testBit t=Wb:=by
 constructor
 ·intro h
  induction q:x.testBit t with
  |true=>rfl
  |false=>
   refine absurd (CA λi=> ?_) h;rw[LF,ey,Nat.zero_testBit];by_cases e:t=i
   ·subst e;simp[q]
   ·simp[e]
 ·intro h e;haveI:=congrArg (Nat.testBit · t) e;simp[LF,ey,h]at this
theorem Ii {i:Nat} {xs:List V} {Q:Bool->Hp->Prop} (h:H[i]? =V9 (.list xs)) (K:Q (decide (xs≠[])) H):Qf Q (.ref i) H:=by delta Qf;rw[truthy,h];exact K
theorem y9 {x:Nat} (M:kF H g R G) (y:OZ H m g sh gt lk) (t:Eb G.tc sh lk) (K:∀r d,Ext H d->H.length<=r->d[r]? =V9 (.list [])->Q (.ref r) d):
  F (n+1) 18 [.ref m,.ref x] H Q:=by
 injection 0 n H Q g m R G sh gt with lk x M y t K;refine JW ?_;delta VB;haveI o:=aN H [.list []];haveI W:=t.l1;have c:=t.Pk;obtain⟨Z,ls,T,I,J,U⟩:=y.lk;obtain⟨qs,X,Y⟩:=y.sh;exists aQ (aP _),(y.gr.ext o).app,(M.ext o).tc.app,eg (c7 (tb c));refine cQ (σ:=Option V×Option V×Option V×Option V) (λs=>uZ m x H.length [s.1,s.2.1,s.2.2.1,s.2.2.2,Wa]) (λk s d=>Ext H d/\d[H.length]? =V9 (.list [])) (Wa,Wa,Wa,Wa) rfl
  ⟨o,aR⟩ (λ_ _ _ _=>trivial) ?_ ?_
 ·intro k v w s e h E A;obtain⟨u,S⟩:=gW w;rw[S];rcases h with⟨b,B⟩;exists(T.ext b).app,cU (b.get I);refine jb (λj f d=>d=e/\f=vI (((lk.take j).filter λp=>p.2.testBit k).map (·.1))) ⟨rfl,rfl⟩ (λj a d h=>by rw[h.1];exact b.get I) ?_ ?_
  ·intro j v w f z h C d;obtain⟨rfl,rfl⟩:=h;have h:=cB w;rw[eA]at h;obtain⟨l,a⟩:=fp h;rcases fp (l:=lk) (i:=j) (ff h (te J))with⟨p,r⟩;rw[iV a]at w;rw[←aA w];haveI e:=b.get (U j l p a r);haveI f:lk.take (j+1)=lk.take j++[p]:=by rw[bX,r];rfl
   exists lG e,wR (tc (ff u c)),Kf;by_cases q:p.2.testBit k=Wb
   ·exists Lh (by haveI:=Cf.mpr q;lia),jr e;refine d _ _ ⟨rfl,?_⟩;rw[f,cY,bV];simp[q,vI]
   ·refine Li (by haveI:=mt Cf.mp q;lia) (d _ _ ⟨rfl,?_⟩);rw[f,cY];simp[q]
  ·intro f N h;rcases h with⟨P,rfl⟩;rw[P,eA,J,bZ];have C:(lk.filter λp=>p.2.testBit k).length<=1:=aE (bI _ _) W;have a:=b.app (l:=[.list (vI ((lk.filter λp=>p.2.testBit k).map (·.1)))]);have j:=(aN e [.list (vI ((lk.filter λp=>p.2.testBit k).map (·.1)))]).get B;have d:(e++[O.list (vI ((lk.filter λp=>p.2.testBit k).map (·.1)))])[e.length]? =V9 (.list (vI ((lk.filter λp=>p.2.testBit k).map (·.1)))):=aR;generalize (e++[O.list (vI ((lk.filter λp=>p.2.testBit k).map (·.1)))])=z at a j d;haveI l:(vI ((lk.filter λp=>p.2.testBit k).map (·.1))).length<=1:=by rw[dL,aB];exact C
   haveI rest:E [V9 (.ref m),V9 (.ref x),V9 (.ref H.length),V9 (.int k),V9 (.ref e.length),s.2.2.1,s.2.2.2,Wa] (z++[.list []]):=
    A (V9 (.int k),V9 (.ref e.length),s.2.2.1,s.2.2.2) _ ⟨a.app,(aN _ _).get j⟩
   have f:(vI ((lk.filter λp=>p.2.testBit k).map (·.1))).drop 1=[]:=zA l;haveI h:eQ pd (F n) #[.eP (.one 5) (.plain (.xZ (.nm 4) (.int 1))) #[.asg 6 (.tup #[.sub (.nm 4) (.int 0),.nm 5]),.si]]
     [V9 (.ref m),V9 (.ref x),V9 (.ref H.length),V9 (.int k),V9 (.ref e.length),s.2.2.1,s.2.2.2,Wa] z (jL (pX pd (F n) #[.ret (.nm 2)] (pf Q)) E):=by
    exists qX (j:=1) d;rw[f];exists cU aR;rw[qe];exact⟨aR,rest⟩
   exists Ii d;by_cases q:(vI ((lk.filter λp=>p.2.testBit k).map (·.1)))=[]
   ·exact zk (by rw[q];decide) h
   ·haveI p:k∉sh.map (·.1):=by
     induction L:(lk.filter λp=>p.2.testBit k)with
     |nil=>rw[L]at q;exact absurd rfl q
     |cons p r=>
      haveI D:p∈lk.filter λp=>p.2.testBit k:=by rw[L];exact aS ..
      haveI:=aG.1 D;exact t.Ov p this.1 k this.2
    exists zj q<|(X.ext a).app,in_dict (a.get Y) (t.ok (tc (ff u c)))
    rw[kN,lN p];exact h
 ·intro s e h;exact K _ _ h.1 (aK _) h.2
end
end
section
noncomputable def Dk (r c:Nat):List (V×V):=if c=0 then [] else [(.int r,.int c)]
theorem KO {r c:Nat}:jW (Dk r c) (.int r) (.int (c+1:Nat))=Dk r (c+1):=by
 delta Dk;by_cases h:c=0
 ·rw[h];rfl
 ·rw[if_neg h,if_neg (HI c)];simp[jW]
theorem KP {r c:Nat}:(gD (Dk r c) (.int r)).getD (.int 0)= .int (c:Nat):=by
 delta Dk;by_cases h:c=0
 ·rw[h];rfl
 ·rw[if_neg h];simp[gD]
theorem Gi {r c:Nat} (h:r<=1000):nt (Dk r c) (.int r)=Wb:=by
 have a:keyOk (.int (r:Int))=Wb:=decide_eq_true ⟨by lia,by lia⟩;delta nt Dk;rw[a,g7];split
 ·rfl
 ·rw[l8,a];rfl
structure Mj (xs:List Int) (rr:Nat):Prop where
 len:xs.length<=20
 two:1<xs.length
 one:xs.getD 1 0<=0
 pos:0<rr/\rr<=1000
 at_:∀x∈xs,0<=x\/x= -(rr:Int)
noncomputable def oQ (xs:List Int) (rr:Nat):Nat:=if-(rr:Int)∈xs then rr else 0
section
variable {n:Nat} {H:Hp} {Q:V->Hp->Prop} {r rr:Nat} {xs:List Int}
structure CI2 (H0:Hp) (rr c:Nat) (H:Hp):Prop where
 ext:Ext H0 H
 D:H[H0.length]? =V9 (.dict (Dk rr c))
theorem Dx (o:H[r]? =V9 (.list (vZ xs))) (c:Mj xs rr) (K:∀a,Ext H a->Q (.int (oQ xs rr)) a):F (n+1) 19 [.ref r] H Q:=by
 injection 0 n H Q r rr xs with o c K;refine JV ?_;delta VA;haveI w:=c.len;haveI g:=c.pos;exists bO (j:=1) o (mh c.two)<|jg (by haveI:=c.one;lia)
 haveI f:=aN H [.dict []];refine cU (f.get o) ?_;refine cQ (σ:=Option V) (λs=>xM r H.length [s,Wa,Wa]) (λk s a=>CI2 H rr ((xs.take k).count (-(rr:Int))) a) Wa rfl ⟨f,aR⟩ (λk s a h=>h.ext.get o) ?_ ?_
 ·intro k v p s l h t a;injection 0 k v s l t with p h a;have m:=cB p;rw[kW]at m;rw[mh m]at p;rw[←aA p];haveI i:xs.take (k+1)=xs.take k++[xs.getD k 0]:=by rw[bX,dX (d:=0) m];rfl
  haveI u:=c.at_ (xs.getD k 0) (aO (dX (d:=0) m));generalize xs.getD k 0=x at*;haveI b:x≠ -(rr:Int)->CI2 H rr ((xs.take (k+1)).count (-(rr:Int))) l:=λb=>by
   rw[i,List.count_append,List.count_singleton];haveI:(x== -(rr:Int))=Wc:=by simpa using b
   rw[this];exact h
  by_cases q:x= -(rr:Int)
  ·subst q;haveI e:(xs.take (k+1)).count (-(rr:Int))=(xs.take k).count (-(rr:Int))+1:=by rw[i];simp
   exists Rx (by lia)<|li (by lia)
   try rw[l9]
   exists on h.D
   try rw[l9]
   exists sX h.D (Gi g.2);rw[KP];exists gZ
   try rw[l9]
   exists gh h.D (Gi g.2) (by delta Dk;split<;>exact vc);rw[KO];refine a (V9 (.int (-(rr:Int)))) _ ⟨h.ext.put (aK _),?_⟩;rw[cH (by rw[h.D];rfl),e]
  ·haveI e:0<=x:=u.resolve_right q;exists Rx (by lia)<|jg (by lia)
   exact a (V9 (.int x)) _ (b q)
 ·intro s l h;injection 0 s l with h;rw[kW,bZ]at h;haveI b:xs.count (-(rr:Int))=0↔ -(rr:Int)∉xs:=List.count_eq_zero;by_cases q: -(rr:Int)∈xs
  ·have i:Dk rr (xs.count (-(rr:Int)))=[(.int rr,.int (xs.count (-(rr:Int)):Nat))]:=by
    delta Dk;rw[if_neg (λe=>b.mp e q)]
   have a:=h.D;rw[i]at a;exists nH (is:=[(rr:Int)]) a rfl (vc),cU aR;have e:(sortI [(rr:Int)]).map V.int=[.int rr]:=rfl;rw[e,Dj];refine⟨by rw[aR];rfl,?_⟩;exists QH (by decide);rw[qe];refine⟨by rw[aR];rfl,?_⟩;have:oQ xs rr=rr:=if_pos q;rw[this]at K;exact K _ h.ext.app
  ·have i:Dk rr (xs.count (-(rr:Int)))=[]:=by delta Dk;rw[if_pos (b.mpr q)]
   have a:=h.D;rw[i]at a;exists nH (is:=[]) a rfl (vc),cU aR;have e:(sortI []).map V.int=[]:=rfl;rw[e,qe];refine⟨aR,?_⟩;have:oQ xs rr=0:=if_neg q;rw[this]at K;exact K _ h.ext.app
theorem Dt {d:Nat} (b:H[r]? =V9 (.list (vZ xs))) (f:xs.length<=20) (K:Q (.ref H.length) (H++[.list (vZ (xs.map λx=>if x= -(d:Int) then 0 else x))])):
  F (n+1) 20 [.ref r,.int d] H Q:=by
 refine JU ?_;delta Vz;exists cU b;refine hX (λv=>match v with| .int x=>.int (if x= -(d:Int) then 0 else x)|v=>v) b ?_ ?_
 ·intro v c e a;obtain⟨x,g,rfl⟩:=aM.1 c;show ej pd _ _ [Wa,V9 (.int d),V9 (.int x)] _ _;by_cases q:x= -(d:Int)
  ·exists xn q;simpa[q]using a
  ·exists xo q;simpa[q]using a
 ·walk_at "w";haveI:(vZ xs).map (λv=>match v with| .int x=>V.int (if x= -(d:Int) then 0 else x)|v=>v)=vZ (xs.map λx=>if x= -(d:Int) then 0 else x):=by
   delta vZ;rw[cI,cI];rfl
  rw[this];exact K
end
end
section
noncomputable def m6 (j:Nat):List (List Nat)->List (V×V)
 |[]=>[]
 |s::r=>(.str s,.int j)::m6 (j+1) r
theorem C1 {s:List Nat}:∀{l:List (List Nat)} {j:Nat},s∉l->gD (m6 j l) (.str s)=Wa:=by
 intro l
 induction l with
 |nil=>intro _ _;exact rfl
 |cons a r b=>intro j h;haveI d:decide (V.str a=V.str s)=Wc:=decide_eq_false (λe=>h (by rw[V.str.inj e];exact aS ..));haveI c:=b (j:=j+1) (λe=>h (bA _ e));unfold gD at c⊢;rw[m6,du];rw[d];exact c
theorem vQ {s:List Nat}:∀{l:List (List Nat)} {j k:Nat},l[k]? =V9 s->l.Nodup->gD (m6 j l) (.str s)=V9 (.int (j+k:Nat))
 |[],_,_,h,_=>by simp at h
 |a::r,j,0,h,_=>by simp at h;rw[h];delta gD;rw[m6,du];simp
 |a::r,j,k+1,h,b=>by simp at h;haveI b:=c6.1 b;haveI d:decide (V.str a=V.str s)=Wc:=decide_eq_false (λe=>b.1 (by rw[V.str.inj e];exact aO h));haveI c:=vQ (l:=r) (j:=j+1) (k:=k) h b.2;unfold gD at c⊢;rw[m6,du];rw[d];rw[c];congr 3;lia
theorem Fn {s:List Nat}:∀{l:List (List Nat)} {j:Nat},s∉l->jW (m6 j l) (.str s) (.int (j+l.length:Nat))=m6 j (l++[s]):=by
 intro l
 induction l with
 |nil=>intro _ _;exact rfl
 |cons a r b=>
  intro j h;haveI c:V.str a≠V.str s:=λe=>h (by rw[V.str.inj e];exact aS ..);rw[m6,jW,if_neg c,e8,m6,←b (j:=j+1) (λe=>h (bA _ e))];haveI:j+(a::r).length=j+1+r.length:=by simp;lia
  rw[this]
theorem Fm:∀{l:List (List Nat)} {j:Nat},(m6 j l).length=l.length:=by
 intro l
 induction l with
 |nil=>intro _;exact rfl
 |cons a r b=>intro j;rw[m6,dF,b];rfl
theorem BJ {s:List Nat}:∀{l:List (List Nat)} {j:Nat},nt (m6 j l) (.str s)=Wb:=by
 intro l j;delta nt;haveI:∀(l:List (List Nat)) (j:Nat),((m6 j l).all λp=>keyOk p.1&&lJ p.1 (.str s))=Wb:=by
  intro l
  induction l with
  |nil=>intros;rfl
  |cons a r b=>intro j;rw[m6,l8,b];rfl
 rw[this];rfl
noncomputable def hZ (G:Gr):List Nat:=G.rules.map Ru.left
noncomputable def lh (G:Gr):List Nat:=G.rules.map λx=>x.right.length
noncomputable abbrev tms:List Nat:=[57,18,66,20,16,60,40,56,15,69]
structure DK (H:Hp) (t:Nat) (G:Gr) (rrs grs:List Nat) (fr:Nat->List Int) (gf:Nat->List (Nat×Nat)) (df:Nat->Nat):Prop where
 hU:zH H t 7 tms
 names:∃q,iK H t 8 (.ref q)/\H[q]? =V9 (.list (G.names.map .str))
 tc:iK H t 9 (.int G.tc)
 hZ:∃q,iK H t 10 (.ref q)/\H[q]? =V9 (.list (vI (hZ G)))
 lh:∃q,iK H t 11 (.ref q)/\H[q]? =V9 (.list (vI (lh G)))
 Ut:∃q,iK H t 12 (.ref q)/\H[q]? =V9 (.list (vI (G.rules.map λ_=>0)))
 defs:∃q,iK H t 13 (.ref q)/\H[q]? =V9 (.list (vI ((aC rrs.length).map df)))
 nums:∃q,iK H t 14 (.ref q)/\H[q]? =V9 (.dict (m6 0 (G.names.take G.tc)))
 rows:∃q,iK H t 22 (.ref q)/\H[q]? =V9 (.list (vR rrs))
 TN:∃q,iK H t 23 (.ref q)/\H[q]? =V9 (.list (vR grs))
 Ui:∃q,iK H t 24 (.ref q)/\H[q]? =V9 (.list [])
 len:grs.length=rrs.length
 rr:∀i r:Nat,rrs[i]? =V9 r->H[r]? =V9 (.list (vZ (fr i)))
 gg:∀i r:Nat,grs[i]? =V9 r->H[r]? =V9 (.dict (vD (gf i)))
theorem M4 {Φ:d9} {H:Hp} {f i:Nat} {a:Es} {m:En} {b:List (Nat×V)} {Q:V->Hp->Prop} (c:getM m 0=V9 (.ref i)) (h:H[i]? =V9 (.inst 7 b))
  (K:jS pd Φ a m H λvs H=>Φ f (.ref i::vs) H Q):ej pd Φ (.sup f a) m H Q:=show G2 Φ f _ Q _ H from c.symm▸G2.mk h K
section
variable {n:Nat} {H:Hp} {Q:V->Hp->Prop} {g:Nat} {R:GR} {G:Gr}
theorem pw {d:E} {m:En} {f:Nat->V} {j:Nat} (i:kF H g R G) (p:G.Wf)
  (step:∀k a,fh G k a->∀K:V->Hp->Prop,K (f k) H->qA (jN (.one 11) (.ref (R.rr.getD k 0)) (iD [] m)) λm'=>ej pd (F j) d m' H K)
  (c:Q (.ref H.length) (H++[.list ((aC G.rules.length).map f)])):
  uz pd (F j) d (.one 11) .nil [] m Q (vR R.rr) (λb=>b[R.iR]? =V9 (.list (vR R.rr))) H:=by
 refine jb (λk a b=>b=H/\a=(aC k).map f) ⟨rfl,rfl⟩ (λk a b h=>by rw[h.1];exact i.rl) ?_ ?_
 ·intro k v o a b h l e;rcases h with⟨rfl,rfl⟩;obtain⟨a,h,n⟩:=vK i p o;rw[h];exact step k a n (λx H=>l ((aC k).map f++[x]) H) (e _ _ ⟨rfl,by rw[cG,bV];rfl⟩)
 ·intro a b h;rcases h with⟨rfl,rfl⟩;rw[eA,i.pP];exact c
theorem getD_map {a b:Type} {l:List a} {f:a->b} {k:Nat} {x:a} {d:b} (h:l[k]? =V9 x):(l.map f).getD k d=f x:=hV (by rw[bC,h];rfl)
theorem yb {l:List Nat}:vI l=(aC l.length).map λk=>V.int (l.getD k 0:Nat):=by
 injection 0 l;apply lC;intro i;by_cases q:i<l.length
 ·rw[jB q];simp[q]
 ·rw[bQ (by rw[dL];lia),bQ (by simp;lia)]
end
end
section
structure qw (H H':Hp):Prop where
 l:∀(i:Nat) xs,H[i]? =V9 (O.list xs)->H'[i]? =V9 (O.list xs)
 d:∀(i:Nat) es,H[i]? =V9 (O.dict es)->H'[i]? =V9 (O.dict es)
 len:H.length<=H'.length
theorem qw.trans {A B C:Hp} (h:qw A B) (k:qw B C):qw A C:=⟨λi xs e=>k.l i xs (h.l i xs e),λi xs e=>k.d i xs (h.d i xs e),aE h.len k.len⟩
theorem Ext.L7 {A B:Hp} (h:Ext A B):qw A B:=⟨λ_ _ e=>h.get e,λ_ _ e=>h.get e,h.len⟩
theorem Ob.js {H0 H:Hp} {cl:Nat} {c:List (Nat×V)} {a:Nat} {v:V} {m:En} {Q:Fl->En->Hp->Prop} (h:Ob H0 cl c H) (d:(pd.fld cl).contains a=Wb) (f:c.length<=100)
  (K:∀b,Ob H0 cl (cE c a v) b->qw H b->Q .next m b):rQ pd a v m Q (.ref H0.length) H:=
 gC h.at_ d f (K _ h.put ⟨λi xs e=>(a8 (er h.at_ e (by simp))).trans e,λi xs e=>(a8 (er h.at_ e (by simp))).trans e,by rw[bS];exact aK _⟩)
section
variable {n:Nat} {H0 H:Hp} {Q:V->Hp->Prop} {g:Nat} {R:GR} {G:Gr}
theorem vi {a b c:Nat} (N:Ob H0 7 [] H) (M:H0[R.iN]? =V9 (.list (G.names.map .str))) (I:G.Wf) (w:G.names.Nodup)
  (K:∀x y e,Ob H0 7 [(8,.ref R.iN),(9,.int G.tc),(10,.ref a),(11,.ref b),(12,.ref c),(13,.ref x),(14,.ref y)] e->qw H e->e[y]? =V9 (.dict (m6 0 (G.names.take G.tc)))->Q .none e):
  F (n+1) 2 [.ref H0.length,.ref R.iN,.int G.tc,.ref a,.ref b,.ref c] H Q:=by
 injection 0 n H0 H Q R G a b c with N M I w K;refine ND ?_;delta b2;haveI d:∀{l:List (Nat×V)},jq l.length 100=Wb->l.length<=100:=aJ;walk_at "w";refine N.js rfl (d rfl) λH1 S k1=> ?_;walk_at "w";refine S.js rfl (d rfl) λH2 T k2=> ?_;walk_at "w";refine T.js rfl (d rfl) λH3 U k3=> ?_;walk_at "w";refine U.js rfl (d rfl) λH4 W k4=> ?_;walk_at "w";refine W.js rfl (d rfl) λA X k5=> ?_;exists aQ (aP _);refine(X.grow (aN A _)).js rfl (d rfl) λl L k6=> ?_;walk_at "w";refine(L.grow (aN l _)).js rfl (d rfl) λr Y P=> ?_;have t:qw H l:=k1.trans (k2.trans (k3.trans (k4.trans (k5.trans ((aN A _).L7.trans k6)))));have C:qw H r:=t.trans ((aN l _).L7.trans P);haveI Z:r[l.length]? =V9 (.dict []):=P.d _ _ aR;have y:=I.M3;have hn:=I.n;exists eg (c7 (tc (ff y hn)));refine cQ (σ:=Option V) (λs=>xM H0.length R.iN (eI G.tc (uZ a b c [s])))
  (λk s e=>Ob H0 7 [(8,.ref R.iN),(9,.int G.tc),(10,.ref a),(11,.ref b),(12,.ref c),(13,.ref A.length),(14,.ref l.length)] e/\(∀(i:Nat) xs,r[i]? =V9 (O.list xs)->e[i]? =V9 (O.list xs))/\
   (∀(i:Nat) o,i≠l.length->r[i]? =V9 (O.dict o)->e[i]? =V9 (O.dict o))/\r.length<=e.length/\e[l.length]? =V9 (.dict (m6 0 (G.names.take k)))) Wa rfl ⟨Y,λ_ _ e=>e,λ_ _ _ e=>e,aK _,Z⟩ (λ_ _ _ _=>trivial) ?_ ?_
 ·intro k v hv s J h KK B;obtain⟨D,rfl⟩:=gW hv;obtain⟨p,h,q,g,f⟩:=h;obtain⟨nm,v⟩:=fp (l:=G.names) (i:=k) (uV D y);haveI z:G.names.take (k+1)=G.names.take k++[nm]:=by rw[bX,v];rfl
  have x:nm∉G.names.take k:=by have:=w;rw[←fO (k+1) G.names,z,cA,cA]at this;exact λe=>this.1.2.2 nm e nm (.head _) rfl
  have u:(G.names.take k).length=k:=by rw[c9];lia
  exists(p.fld (a:=14) rfl rfl).app<|bO (p.ext.get M) (show(G.names.map V.str)[k]? =V9 (.str nm) by rw[bC,v];rfl)<|gh f BJ (by rw[Fm];lia)
  haveI m:=Fn (j:=0) x;rw[u,gR]at m;rw[m,←z];haveI E:∀{i:Nat} {xs},J[i]? =V9 (O.list xs)->l.length≠i:=λe=>er f e (by simp);refine B (V9 (.int k)) _ ⟨⟨p.ext.put ?_,(a8 (er f p.at_ (by simp))).trans p.at_⟩,λi xs e=>(a8 (E (h i xs e))).trans (h i xs e),λi o hi e=>(a8 (dJ hi)).trans (q i o hi e),by rw[bS];exact g,cH (by rw[f];rfl)⟩;exact L.ext.len
 ·intro s J h;obtain⟨p,h,q,g,f⟩:=h;rw[aB,aU]at f;refine K _ _ _ p ⟨λi xs e=>h i xs (C.l i xs e),λi o e=>q i o (λhi=> ?_) (C.d i o e),aE C.len g⟩ f;haveI k:=ez e;haveI:=t.len;lia
end
end
section
section
variable {n:Nat} {H0 H:Hp} {Q:V->Hp->Prop} {g q1 q2 q3 q4 q5:Nat} {mode:V} {R:GR} {G:Gr} {rrs grs:List Nat} {fr:Nat->List Int} {gf:Nat->List (Nat×Nat)} {df:Nat->Nat}
theorem Av (o:kF H g R G) (z:G.Wf) (u:G.names.Nodup) (B:H[q1]? =V9 (.list (vR rrs))) (C:H[q2]? =V9 (.list (vR grs))) (N:H[q3]? =V9 (.list (vI ((aC rrs.length).map df)))) (P:H[q4]? =V9 (.list []))
  (W:grs.length=rrs.length) (w:∀i r:Nat,rrs[i]? =V9 r->H[r]? =V9 (.list (vZ (fr i)))) (s:∀i r:Nat,grs[i]? =V9 r->H[r]? =V9 (.dict (vD (gf i))))
  (K:∀t a,Ext H a->DK a t G rrs grs fr gf df->Q (.ref t) a):sj pd (F (n+2)) 7 Q [.ref g,.ref q1,.ref q2,.ref q3,.ref q4,.ref q5,mode] H:=by
 injection 0 n H Q g q1 q2 q3 q4 q5 with mode R G rrs grs fr gf df o z u B C N P W w s K;injection 0 mode R G rrs grs fr gf df with o z u B C N P W w s K;refine gj rfl ?_;refine J2 ?_;unfold VH;have c:∀{l:List (Nat×V)},jq l.length 100=Wb->l.length<=100:=aJ;have T:Ob H 7 [] (H++[.inst 7 []]):=Ob.new;generalize H++[O.inst 7 []]=I at T;have h:=o.ext T.ext;exists h.rules.app,cU h.rl;refine pw (f:=λk=>.int ((hZ G).getD k 0:Nat)) h z (λk d b e a=> ?_) ?_
 ·show ej pd _ _ [Wa,Wa,Wa,Wa,Wa,Wa,Wa,Wa,Wa,Wa,Wa,V9 (.ref (R.rr.getD k 0))] _ _;exists(h.ru b).left.app;rw[show(hZ G).getD k 0=d.left from getD_map b.at_]at a;exact a
 rw[show(aC G.rules.length).map (λk=>V.int ((hZ G).getD k 0:Nat))=vI (hZ G) by rw[yb];simp[hZ]];have p:=T.grow (aN I [.list (vI (hZ G))]);have m:(I++[O.list (vI (hZ G))])[I.length]? =V9 (.list (vI (hZ G))):=aR;generalize I++[O.list (vI (hZ G))]=A at p m;have j:=o.ext p.ext;exists j.rules.app,cU j.rl;refine pw (f:=λk=>.int ((lh G).getD k 0:Nat)) j z (λk d b e a=> ?_) ?_
 ·show ej pd _ _ [Wa,Wa,Wa,Wa,Wa,Wa,Wa,Wa,Wa,Wa,Wa,V9 (.ref (R.rr.getD k 0))] _ _;exists(j.ru b).right.app,sV;rw[dL];rw[show(lh G).getD k 0=d.right.length from getD_map b.at_]at a;exact a
 rw[show(aC G.rules.length).map (λk=>V.int ((lh G).getD k 0:Nat))=vI (lh G) by rw[yb];simp[lh]];have q:=p.grow (aN A [.list (vI (lh G))]);have D:(A++[O.list (vI (lh G))])[A.length]? =V9 (.list (vI (lh G))):=aR
 replace m:=(aN A [.list (vI (lh G))]).get m
 generalize A++[O.list (vI (lh G))]=t at q m D;have l:=o.ext q.ext;exists l.rules.app,cU l.rl;refine pw (f:=λk=>.int 0) l z (λk d b e a=> ?_) ?_
 ·show ej pd _ _ [Wa,Wa,Wa,Wa,Wa,Wa,Wa,Wa,Wa,Wa,Wa,V9 (.ref (R.rr.getD k 0))] _ _;exists(l.ru b).Uu.app;exact a
 rw[show(aC G.rules.length).map (λk=>V.int 0)=vI (G.rules.map λ_=>0) by simp[vI,HL]];have d:=q.grow (aN t [.list (vI (G.rules.map λ_=>0))]);have hC:(t++[O.list (vI (G.rules.map λ_=>0))])[t.length]? =V9 (.list (vI (G.rules.map λ_=>0))):=aR
 replace m:=(aN t [.list (vI (G.rules.map λ_=>0))]).get m
 replace D:=(aN t [.list (vI (G.rules.map λ_=>0))]).get D
 generalize t++[O.list (vI (G.rules.map λ_=>0))]=H4 at d m D hC;have E:=o.ext d.ext;refine M4 rfl d.at_ (E.names.app (E.tc.app ?_));refine vi d o.nl z u λx y H5 U k5 S=> ?_;walk_at "w";refine U.js rfl (c rfl) λH6 h6 k6=> ?_;walk_at "w";refine h6.js rfl (c rfl) λH7 h7 k7=> ?_;walk_at "w";refine h7.js rfl (c rfl) λH8 h8 k8=> ?_;walk_at "w";refine h8.js rfl (c rfl) λH9 h9 k9=> ?_;walk_at "w";refine h9.js rfl (c rfl) λaa L X=> ?_;walk_at "w";refine L.js rfl (c rfl) λab M Y=> ?_;walk_at "w";refine M.js rfl (c rfl) λJ b Z=> ?_;haveI k:=k6.trans (k7.trans (k8.trans (k9.trans (X.trans (Y.trans Z)))));haveI k':=k5.trans k;haveI a:∀{a:Nat} {v:V},(pd.fld 7).contains a=Wb->pv _ a=V9 v->iK J H.length a v:=λB C=>b.fld B C;refine⟨rfl,K _ _ b.ext ⟨mF b.at_ rfl,⟨_,a rfl rfl,b.ext.get o.nl⟩,a rfl rfl,⟨_,a rfl rfl,k'.l _ _ m⟩,⟨_,a rfl rfl,k'.l _ _ D⟩,⟨_,a rfl rfl,k'.l _ _ hC⟩,⟨_,a rfl rfl,b.ext.get N⟩,⟨_,a rfl rfl,k.d _ _ S⟩,
  ⟨_,a rfl rfl,b.ext.get B⟩,⟨_,a rfl rfl,b.ext.get C⟩,⟨_,a rfl rfl,b.ext.get P⟩,W,λi r e=>b.ext.get (w i r e),λi r e=>b.ext.get (s i r e)⟩⟩
end
end
section
noncomputable def qh (d:Nat) (xs:List Int):List Int:=if d=0 then xs else xs.map λx=>if x= -(d:Int) then 0 else x
noncomputable def lK (G:Gr) (L:List (Nat×Nat)) (v:Nat->Nat) (mv:Nat->List (Nat×Nat)) (rd:Nat->List Nat) (k:Nat):List Int:=J5 G.tc (nI G.tc (mv k)) (ui L v k (rd k))
noncomputable def AQ (wd:Bool) (xs:Nat->List Int) (rr:Nat->Nat) (k:Nat):Nat:=if wd then oQ (xs k) (rr k) else 0
structure FI (H0:Hp) (k:Nat) (rrs grs:List Nat) (fr:Nat->List Int) (gf:Nat->List (Nat×Nat)) (df:Nat->Nat) (H:Hp):Prop where
 ext:Ext H0 H
 q1:H[H0.length]? =V9 (.list (vR rrs))
 q2:H[H0.length+1]? =V9 (.list (vR grs))
 q3:H[H0.length+2]? =V9 (.list (vI ((aC k).map df)))
 q4:H[H0.length+3]? =V9 (.list [])
 q5:H[H0.length+4]? =V9 (.list [])
 l1:rrs.length=k
 l2:grs.length=k
 rr:∀i r:Nat,rrs[i]? =V9 r->H0.length+5<=r/\H[r]? =V9 (.list (vZ (fr i)))
 gg:∀i r:Nat,grs[i]? =V9 r->H[r]? =V9 (.dict (vD (gf i)))
theorem FI.grow {f H d:Hp} {k c b j l g} (h:FI f k c b j l g H) (e:Ext H d):FI f k c b j l g d:=
 ⟨h.ext.trans e,e.get h.q1,e.get h.q2,e.get h.q3,e.get h.q4,e.get h.q5,h.l1,h.l2,λi r a=>⟨(h.rr i r a).1,e.get (h.rr i r a).2⟩,λi r a=>e.get (h.gg i r a)⟩
theorem FI.same {c H:Hp} {k b a e f d} (h:FI c k b a e f d H) {i:Nat} {o:O} (hi:H[i]? =V9 o):H.set i o=H:=by
 apply lC;intro j;by_cases q:i=j
 ·subst q;rw[cH (by rw[hi];rfl),hi]
 ·rw[a8 q]
theorem FI.add {e H:Hp} {k g f n p j} (h:FI e k g f n p j H) {r l:Nat} (w:e.length+5<=r) (m:H[r]? =V9 (.list (vZ (n k)))) (t:H[l]? =V9 (.dict (vD (p k)))):
  (H.set e.length (.list (vR g++[.ref r])))[e.length+1]? =V9 (.list (vR f))/\
  ((H.set e.length (.list (vR g++[.ref r]))).set (e.length+1) (.list (vR f++[.ref l])))[e.length+2]? =V9 (.list (vI ((aC k).map j)))/\
  FI e (k+1) (g++[r]) (f++[l]) n p j (((H.set e.length (.list (vR g++[.ref r]))).set (e.length+1) (.list (vR f++[.ref l]))).set (e.length+2) (.list (vI ((aC k).map j)++[.int (j k)]))):=by
 injection 0 e H k g f n p j r l with h w m t;have u:(H.set e.length (.list (vR g++[.ref r])))[e.length+1]? =V9 (.list (vR f)):=(a8 (by lia)).trans h.q2;have v:((H.set e.length (.list (vR g++[.ref r]))).set (e.length+1) (.list (vR f++[.ref l])))[e.length+2]? =V9 (.list (vI ((aC k).map j))):=
  (a8 (by lia)).trans ((a8 (by lia)).trans h.q3)
 have out:∀{i:Nat} {o:O},i≠e.length->i≠e.length+1->i≠e.length+2->H[i]? =V9 o->
   (((H.set e.length (.list (vR g++[.ref r]))).set (e.length+1) (.list (vR f++[.ref l]))).set (e.length+2) (.list (vI ((aC k).map j)++[.int (j k)])))[i]? =V9 o:=
  λa b c d=>(a8 (dJ c)).trans ((a8 (dJ b)).trans ((a8 (dJ a)).trans d))
 have d:∀{i:Nat} {a},H[i]? =V9 (.dict a)->i≠e.length/\i≠e.length+1/\i≠e.length+2:=λd=>
  ⟨er d h.q1 nofun,er d h.q2 nofun,er d h.q3 nofun⟩
 refine⟨u,v,((h.ext.put (by lia)).put (ta)).put (ta),?_,?_,?_,out (j7 tQ) (j7 tR) (j7 tR) h.q4,out (j7 tQ) (j7 tR) (j7 tR) h.q5,by rw[aH,h.l1];rfl,by rw[aH,h.l2];rfl,λi x c=> ?_,λi x c=> ?_⟩
 ·rw[a8 (j7 tQ),a8 (j7 ts),cH (by rw[h.q1];rfl),mi]
 ·rw[a8 (j7 tR),cH (by rw[u];rfl),mi]
 ·rw[cH (by rw[v];rfl),iX,cG,bV];rfl
 ·by_cases q:i<g.length
  ·rw[bH q]at c;obtain⟨a,b⟩:=h.rr i x c;exact⟨a,out (by lia) (by lia) (by lia) b⟩
  ·rw[bR (tv q)]at c;have b:=cB c;have hi:i=k:=tK q b h.l1;subst hi;rw[h.l1,eS]at c;rw[←aA c];exact⟨w,out (by lia) (by lia) (by lia) m⟩
 ·by_cases q:i<f.length
  ·rw[bH q]at c;have b:=h.gg i x c;obtain⟨a,o,s⟩:=d b;exact out a o s b
  ·rw[bR (tv q)]at c;have b:=cB c;have hi:i=k:=tK q b h.l2;subst hi;rw[h.l2,eS]at c;rw[←aA c];obtain⟨a,o,s⟩:=d t;exact out a o s t
structure pG (G:Gr) (L:List (Nat×Nat)) (v:Nat->Nat) (mv:Nat->List (Nat×Nat)) (rd:Nat->List Nat) (rr:Nat->Nat) (k:Nat):Prop where
 mvok:DJ G (mv k)
 NX:Eb G.tc (nI G.tc (mv k)) (ui L v k (rd k))
 row:Mj (lK G L v mv rd k) (rr k)
 rx:∀x∈rd k,x<=1000000
section
variable {n:Nat} {H:Hp} {Q:V->Hp->Prop} {g a mr:Nat} {R:GR} {G:Gr} {os:List Nat} {aV:List (List Nat)} {mv:Nat->List (Nat×Nat)} {rd:Nat->List Nat} {L:List (Nat×Nat)} {v:Nat->Nat} {wd:Bool} {rr:Nat->Nat}
theorem i8 {tc:Nat} {b:List (Nat×Int)} {a:List (Nat×Nat)}:(J5 tc b a).length=tc:=by rw[aB,aU]
theorem OL (S:kF H g R G) (P:G.Wf) (J:G.names.Nodup) (N:0<G.tc) (c:zp H a g os aV mv rd) (p:aV.length<=60) (w:∀k,(rd k).length<=1) (hD:H[mr]? =V9 (.dict (L.map (D6 v))))
  (hL:∀a∈L,a.1<=1000000/\a.2<=1000000) (M:∀k,k<aV.length->pG G L v mv rd rr k)
  (K:∀t b h j,Ext H b->h.length=aV.length->DK b t G h j (λk=>qh (AQ wd (lK G L v mv rd) rr k) (lK G L v mv rd k)) (λk=>qc G.tc (mv k)) (AQ wd (lK G L v mv rd) rr)->Q (.ref t) b):
  F (n+3) 21 [.ref a,.ref mr,.bool wd] H Q:=by
 injection 0 n H Q g a mr R G os with aV mv rd L v wd rr S P J N c p w hD hL M K;injection 0 aV mv rd L v wd rr with S P J N c p w hD hL M K;refine JT ?_;unfold Vy;obtain⟨T,⟨q,ab,U,ac⟩,x⟩:=c;exists aQ (aP _),aQ (aP _),aQ (aP _),aQ (aP _),aQ (aP _);have hF:FI H 0 [] [] (λk=>qh (AQ wd (lK G L v mv rd) rr k) (lK G L v mv rd k)) (λk=>qc G.tc (mv k)) (AQ wd (lK G L v mv rd) rr) (H++[.list []]++[.list []]++[.list []]++[.list []]++[.list []]):=by
  have e:H++[O.list []]++[O.list []]++[O.list []]++[O.list []]++[O.list []]=H++[O.list [],O.list [],O.list [],O.list [],O.list []]:=by simp
  rw[e];exact⟨aN _ _,aR,fD,fD,fD,fD,rfl,rfl,λi r h=>(by simp at h),λi r h=>(by simp at h)⟩
 have e1:(H++[O.list []]).length=H.length+1:=by simp
 have e2:(H++[O.list []]++[O.list []]).length=H.length+2:=by simp
 have e3:(H++[O.list []]++[O.list []]++[O.list []]).length=H.length+3:=by simp
 have e4:(H++[O.list []]++[O.list []]++[O.list []]++[O.list []]).length=H.length+4:=by simp
 rw[e1,e2,e3,e4];generalize H++[O.list []]++[O.list []]++[O.list []]++[O.list []]++[O.list []]=H1 at hF;have au:(vR os).length<=iH:=by rw[eA,x];exact c7 (tb p)
 exists(ab.ext hF.ext).app,cU (hF.ext.get U);refine cQ (σ:=Option V×Option V×Option V×Option V) (λs=>xM a mr (V9 (.bool wd)::V9 (.str [108,97,108,114])::PF H.length (H.length+1) (H.length+2) (H.length+3) (H.length+4) [s.1,s.2.1,s.2.2.1,s.2.2.2]))
  (λk s b=>∃h j,FI H k h j (λk=>qh (AQ wd (lK G L v mv rd) rr k) (lK G L v mv rd k)) (λk=>qc G.tc (mv k)) (AQ wd (lK G L v mv rd) rr) b) (Wa,Wa,Wa,Wa) rfl ⟨_,_,hF⟩
  (λk s b h=>by obtain⟨_,_,h⟩:=h;exact h.ext.get U) ?_ ?_
 ·intro k vv hv s H2 h KK X;injection 0 k vv s H2 KK with hv h X;obtain⟨h,j,b⟩:=h;injection 0 h j with b;have Z:=cB hv;rw[eA,x]at Z;obtain⟨o,ho⟩:=fp (l:=os) (i:=k) (by rw[x];exact Z);injection 0 o with ho;obtain⟨ks,ah⟩:=fp Z;rw[iV ho]at hv;rw[←aA hv];obtain⟨aj,A,al,am⟩:=M k Z;have an:=(ac k o ks ho ah).ext b.ext;exists(T.ext b.ext).app;refine C7 (S.ext b.ext) P N an aj (b.ext.get hD) (w k) hL (tc (ff Z p)) am λm H3 u aa hM=> ?_;exists hM.hU.call (f:=36) rfl rfl;refine Gz hM A λH4 y=> ?_;have E:=hM.ext y;have h4:=b.grow (u.trans y);exists E.hU.call (f:=37) rfl rfl;refine Rr (S.ext h4.ext) P E A λr H5 W aw ag=> ?_;have h5:=h4.grow W;have I:=E.ext W;exists nN h5.q4,I.hU.call (f:=24) rfl rfl;refine y9 (S.ext h5.ext) I A λr' H6 D ak ad=> ?_;have B:=h5.grow D;have ai:=ez h5.q4;exists rj (tn (ff ai ak)) B.q4 ad (aP _) (aP _);rw[bY,B.same B.q4];have Y:=I.ext D;obtain⟨ax,ap,aq,ar⟩:=Y.se;have C:=ez b.q5;exists nN B.q5,ap.app,rj (tn (uV (ff C aa) ar)) B.q5 aq (aP _) (aP _);rw[bY,B.same B.q5];have z:=D.get ag;have av:=(b.ext.trans (u.trans y)).len;have as:=(u.trans y).len;have ao:(lK G L v mv rd k).length<=20:=by unfold lK;rw[i8];have:=P.M3;have:=P.n;exact A.Pk
  have t:∀(d r:Nat) (i:Hp),Ext H6 i->H.length+5<=r->d=AQ wd (lK G L v mv rd) rr k->i[r]? =V9 (.list (vZ (qh d (lK G L v mv rd k))))->
    eQ pd (F (n+2)) #[.expr (.cM (.nm 4) 0 #[.nm 11]),.expr (.cM (.nm 5) 0 #[.fld (.nm 10) 23]),.expr (.cM (.nm 6) 0 #[.nm 12])]
     [V9 (.ref a),V9 (.ref mr),V9 (.bool wd),V9 (.str [108,97,108,114]),V9 (.ref H.length),V9 (.ref (H.length+1)),V9 (.ref (H.length+2)),V9 (.ref (H.length+3)),V9 (.ref (H.length+4)),V9 (.ref o),V9 (.ref m),V9 (.ref r),V9 (.int d)] i
     (jL (pX pd (F (n+2)) #[.ret (.new 7 #[.fld (.nm 0) 21,.nm 4,.nm 5,.nm 6,.nm 7,.nm 8,.nm 3])] (pf Q)) KK):=by
   intro d r i e hr hd ae;have t:=B.grow e;have af:=Y.ext e;obtain⟨qg,c,g2⟩:=af.gt;subst hd;obtain⟨a1,a2,a3⟩:=t.add hr ae g2;have d:m≠H.length:=j7 (ff (zD ta C) aa);exists cF t.q1,cR t.q1 (by rw[eA,t.l1];exact c7 (by lia)),cF a1;refine iK.app (v:=.ref qg) ?_ ?_
   ·obtain⟨c,fs,b1,b2,b3⟩:=c;exact⟨c,fs,(a8 (dJ d)).trans b1,b2,b3⟩
   exists cR a1 (by rw[eA,t.l2];exact c7 (by lia)),cF a2,cR a2 (by rw[dL,aB,aU];exact c7 (by lia));exact X (V9 (.ref o),V9 (.ref m),V9 (.ref r),V9 (.int (AQ wd (lK G L v mv rd) rr k:Nat))) _ ⟨_,_,a3⟩
  have c:∀(d:Nat) (i:Hp),Ext H6 i->d=AQ wd (lK G L v mv rd) rr k->
    eQ pd (F (n+2)) #[.ite (.cmp .ne (.nm 12) (.int 0)) #[.asg 11 (.call 20 #[.nm 11,.nm 12])] .nil,.expr (.cM (.nm 4) 0 #[.nm 11]),.expr (.cM (.nm 5) 0 #[.fld (.nm 10) 23]),.expr (.cM (.nm 6) 0 #[.nm 12])]
     [V9 (.ref a),V9 (.ref mr),V9 (.bool wd),V9 (.str [108,97,108,114]),V9 (.ref H.length),V9 (.ref (H.length+1)),V9 (.ref (H.length+2)),V9 (.ref (H.length+3)),V9 (.ref (H.length+4)),V9 (.ref o),V9 (.ref m),V9 (.ref r),V9 (.int d)] i
     (jL (pX pd (F (n+2)) #[.ret (.new 7 #[.fld (.nm 0) 21,.nm 4,.nm 5,.nm 6,.nm 7,.nm 8,.nm 3])] (pf Q)) KK):=by
   intro d i e hd;walk_at "w";by_cases c:d=0
   ·exists kv (by lia);exact t d r i e (by lia) hd (by rw[qh,if_pos c];exact e.get z)
   ·exists nT (by lia),Dt (e.get z) ao;refine t d _ _ e.app ?_ hd (by rw[qh,if_neg c];exact aR);have:=e.len;have:=ez z;lia
  walk_at "w"
  induction wd with
  |false=>exact c 0 H6 Ext.yc rfl
  |true=>walk_at "w";exact Dx z al λi e=>(c _ i e rfl)
 ·intro s H2 h;obtain⟨h,j,b⟩:=h;haveI b:=(eA)▸b;haveI b:=(x)▸b;exists(T.ext b.ext).app;exact Av (n:=n) (S.ext b.ext) P J b.q1 b.q2 (by rw[b.l1];exact b.q3) b.q4 (by rw[b.l1,b.l2]) (λi r e=>(b.rr i r e).2) b.gg λt H3 u c=>(K t H3 h j (b.ext.trans u) b.l1 c)
end
end
section
structure jh where
 G:Gr
 ns:Nat
 fr:Nat->List Int
 gf:Nat->List (Nat×Nat)
 df:Nat->Nat
noncomputable def jh.ex (T:jh) (s t:Nat):Int:=(T.fr s).getD t 0
noncomputable def jh.cons (T:jh) (s:Nat):Bool:=T.df s != 0&&(aC T.G.tc).all λt=>T.ex s t==0
noncomputable def jh.eb (T:jh) (s:Nat):Nat:=if T.cons s then T.df s else 0
noncomputable def jh.act (T:jh) (s t:Nat):Int:=if T.ex s t=0 then-(T.df s:Int) else T.ex s t
noncomputable def jh.go (T:jh) (s x:Nat):Int:=match(T.gf s).find? (λp=>p.1==x)with|some p=>p.2|none=> -1
structure jh.Ok (T:jh):Prop where
 wf:T.G.Wf
 nd:T.G.names.Nodup
 t3:3<=T.G.tc
 ns:T.ns<=60
 fl:∀s,s<T.ns->(T.fr s).length=T.G.tc
 gl:∀s,s<T.ns->∀p∈T.gf s,p.1<T.G.names.length
 nb:∀s t,s<T.ns->T.ex s t≠ -1048576
structure IsT (H:Hp) (t:Nat) (T:jh):Prop where
 ex:∃rrs grs,DK H t T.G rrs grs T.fr T.gf T.df/\rrs.length=T.ns
theorem DK.ext {H d:Hp} {t:Nat} {G:Gr} {c b n o m} (h:DK H t G c b n o m) (e:Ext H d):DK d t G c b n o m:=by
 injection 0 H d t G c b n o m with h e;obtain⟨R,⟨u,B,K⟩,S,⟨v,C,L⟩,⟨w,D,M⟩,⟨x,E,N⟩,⟨y,F,O⟩,⟨z,I,P⟩,⟨A,J,Q⟩,⟨f,j,k⟩,⟨g,h,l⟩,p,q,s⟩:=h;exact⟨R.ext e,⟨u,B.ext e,e.get K⟩,S.ext e,⟨v,C.ext e,e.get L⟩,⟨w,D.ext e,e.get M⟩,⟨x,E.ext e,e.get N⟩,⟨y,F.ext e,e.get O⟩,⟨z,I.ext e,e.get P⟩,⟨A,J.ext e,e.get Q⟩,⟨f,j.ext e,e.get k⟩,⟨g,h.ext e,e.get l⟩,p,
  λi r a=>e.get (q i r a),λi r a=>e.get (s i r a)⟩
theorem IsT.ext {H c:Hp} {t T} (h:IsT H t T) (e:Ext H c):IsT c t T:=by obtain⟨b,a,d,f⟩:=h.ex;exact⟨b,a,d.ext e,f⟩
def Mh (G:Gr) (s:List Nat) (i:Nat):Prop:=(G.names[i]? =V9 s/\i<G.tc)\/(s∉G.names.take G.tc/\i=2)
def uO (G:Gr) (s:List Nat) (i:Nat):Prop:=∃j,Mh G s j/\i=if j=1 then 2 else j
section
variable {n:Nat} {H:Hp} {Q:V->Hp->Prop} {t:Nat} {T:jh}
theorem IsT.hU (a:IsT H t T):zH H t 7 tms:=by obtain⟨_,_,h, -⟩:=a.ex;exact h.hU
theorem ON {s:Nat} (d:IsT H t T) (i:T.Ok) (f:s<T.ns) (K:Q (.int (T.df s:Nat)) H):F (n+1) 7 [.ref t,.int s] H Q:=by refine Ny ?_;delta b7;obtain⟨g,c,h,e⟩:=d.ex;obtain⟨q,a,b⟩:=h.defs;exists a.app,bO b (kX (x:=T.df s) (by rw[bC,ew (by rw[e];exact f)];rfl));exact K
theorem pz {s x:Nat} (j:IsT H t T) (g:T.Ok) (c:s<T.ns) (m:x<T.G.tc) (K:Q (.int (T.ex s x)) H):F (n+1) 12 [.ref t,.int s,.int x] H Q:=by refine J1 ?_;delta VG;refine uX λo=> ?_;obtain⟨a,f,h,k⟩:=j.ex;obtain⟨q,d,e⟩:=h.rows;obtain⟨r,b⟩:=fp (l:=a) (i:=s) (by rw[k];exact c);refine o ?_;exists d.app,bO e (iV b),bO (h.rr s r b) (mh (by rw[g.fl s c];exact m));exact K
theorem GF {s x:Nat} (j:IsT H t T) (b:T.Ok) (e:s<T.ns) (u:x<=1000) (K:Q (.int (T.go s x)) H):F (n+1) 13 [.ref t,.int s,.int x] H Q:=by
 refine J0 ?_;delta VF;refine uX λv=> ?_;obtain⟨w,a,h,m⟩:=j.ex;obtain⟨q,f,g⟩:=h.TN;obtain⟨r,d⟩:=fp (l:=a) (i:=s) (by rw[h.len,m];exact e);haveI o:=b.wf.n;haveI c:=h.gg s r d;refine v ?_;exists f.app,bO g (iV d),on c<|sX c (vC (λp k=>by haveI:=b.gl s e p k;exact tc (ff this o)) (tb u))
 rw[oZ,kN];haveI:((pF ((T.gf s).map λp=>(p.1,(p.2:Int))) x).map V.int).getD (.int (-1))= .int (T.go s x):=by delta pF jh.go;rw[vu];haveI k:((λp:Nat×Int=>p.1==x) ∘ λp:Nat×Nat=>(p.1,(p.2:Int)))=λp=>p.1==x:=rfl;rw[k];cases(T.gf s).find? (λp=>p.1==x)<;>rfl
 rw[this];exact K
theorem xx {s:Nat} (a:IsT H t T) (b:T.Ok) (m:s<T.ns) (K:Q (.bool (T.cons s)) H):F (n+2) 10 [.ref t,.int s] H Q:=by
 injection 0 n H Q t T s with a b m K;refine J3 ?_;unfold VI;haveI o:=b.wf.M3;haveI w:=b.wf.n;unfold jh.cons at K;exists a.hU.call (f:=16) rfl rfl,ON a b m;by_cases q:T.df s=0
 ·exists li (by lia);rw[q]at K;exact K
 ·have q':(T.df s != 0)=Wb:=by simpa using q
  rw[q',g7]at K;obtain⟨y,r,h,A⟩:=a.ex;exists jg (by lia),h.tc.app,eg (c7 (tc (ff o w)));refine cQ (σ:=Option V) (λu=>kP t (eI s [u])) (λk u g=>g=H/\∀j,j<k->T.ex s j=0) Wa rfl ⟨rfl,λj h=>absurd h (eC j)⟩ (λ_ _ _ _=>trivial) ?_ ?_
  ·intro k v x u g d z l;obtain⟨c,i⟩:=gW x;rw[i];rcases d with⟨rfl,hz⟩;exists a.hU.call (f:=15) rfl rfl,pz a b m c;by_cases d:T.ex s k=0
   ·refine kv d ?_;refine l (V9 (.int k)) _ ⟨rfl,λj p=> ?_⟩;by_cases e:j=k
    ·rw[e];exact d
    ·exact hz j (by lia)
   ·refine nT d ?_;haveI:((aC T.G.tc).all λt=>T.ex s t==0)=Wc:=by
     rw[List.all_eq_false];exact⟨k,aW.2 c,by simpa using d⟩
    rw[this]at K;exact K
  ·intro u g d;obtain⟨i,hz⟩:=d;rw[i];rw[aB,aU]at hz;haveI:((aC T.G.tc).all λt=>T.ex s t==0)=Wb:=by
    rw[bW];intro j p;simpa using hz j (aW.1 p)
   rw[this]at K;exact K
theorem GM {s x:Nat} (a:IsT H t T) (b:T.Ok) (c:s<T.ns) (d:x<T.G.tc) (K:Q (.int (T.act s x)) H):F (n+2) 8 [.ref t,.int s,.int x] H Q:=by
 refine Nx ?_;unfold b8;unfold jh.act at K;exists a.hU.call (f:=15) rfl rfl,pz a b c d<|jg (b.nb s x c)
 by_cases q:T.ex s x=0
 ·rw[if_pos q]at K;exists li q,a.hU.call (f:=16) rfl rfl,ON a b c;exact K
 ·rw[if_neg q]at K;refine jg q ?_;exact K
theorem AU {s:List Nat} {i:Nat} (g:IsT H t T) (f:T.Ok) (hi:Mh T.G s i) (K:Q (.int i) H):F (n+1) 3 [.ref t,.str s] H Q:=by
 refine NC ?_;delta b3;obtain⟨j,d,h,l⟩:=g.ex;obtain⟨q,c,b⟩:=h.nums;exists c.app,on b<|sX b BJ
 rcases hi with⟨a,e⟩|⟨a,rfl⟩
 ·rw[vQ (k:=i) (by rw[kK];simp[e,a]) (V8 (Ek _ _) f.nd)];rw[gR];exact K
 ·rw[C1 a];exact K
theorem OI {r:Nat} (d:IsT H t T) (e:r<T.G.rules.length) (g:T.Ok) (K:Q (.int ((hZ T.G).getD r 0:Nat)) H):F (n+1) 4 [.ref t,.int r] H Q:=by refine NB ?_;delta b4;obtain⟨f,c,h,i⟩:=d.ex;obtain⟨q,a,b⟩:=h.hZ;exists a.app,bO b (jB (by rw[aB];exact e));exact K
theorem GE {r:Nat} (d:IsT H t T) (e:r<T.G.rules.length) (g:T.Ok) (K:Q (.int ((lh T.G).getD r 0:Nat)) H):F (n+1) 5 [.ref t,.int r] H Q:=by refine NA ?_;delta b5;obtain⟨f,c,h,i⟩:=d.ex;obtain⟨q,a,b⟩:=h.lh;exists a.app,bO b (jB (by rw[aB];exact e));exact K
theorem GK {r:Nat} (d:IsT H t T) (e:r<T.G.rules.length) (g:T.Ok) (K:Q (.int 0) H):F (n+1) 6 [.ref t,.int r] H Q:=by refine Nz ?_;delta b6;obtain⟨f,c,h,i⟩:=d.ex;obtain⟨q,a,b⟩:=h.Ut;exists a.app,bO (v:=.int 0) b (kX (x:=0) (by rw[bC,aF e];rfl));exact K
theorem OF {s:Nat} (w:IsT H t T) (p:T.Ok) (z:s<T.ns) (K:∀r c l,Ext H c->H.length<=r->c[r]? =V9 (.list (vI l))->l.length<=20->(∀x∈l,x<T.G.tc)->Q (.ref r) c):
  F (n+2) 9 [.ref t,.int s] H Q:=by
 injection 0 n H Q t T s with w p z K;refine Nw ?_;unfold b9;have i:=p.wf.M3;have y:=p.wf.n;have o:=aN H [.list []];obtain⟨G,E,h,I⟩:=(w.ext o).ex;exists aQ (aP _),h.tc.app,eg (c7 (tc (ff i y)));refine cQ (σ:=Option V×Option V) (λu=>kP t (eI s (kP H.length [u.1,u.2]))) (λk u c=>Ext H c/\∃l,c[H.length]? =V9 (.list (vI l))/\l.length<=k/\(∀x∈l,x<T.G.tc)) (Wa,Wa) rfl
  ⟨o,[],aR,aK _,nofun⟩ (λ_ _ _ _=>trivial) ?_ ?_
 ·intro k v B u c a A e;injection 0 k v u c A with B a e;obtain⟨g,D⟩:=gW B;rw[D];obtain⟨m,l,j,a,d⟩:=a;have q:=w.ext m;have b:∀b,A [V9 (.ref t),V9 (.int s),V9 (.ref H.length),V9 (.int k),b] c:=λb=>e (V9 (.int k),b) _ ⟨m,l,j,by exact kD a ta,d⟩;walk_at "w";by_cases J:k=1
  ·exists Cg (by lia);exact b _
  ·exists Ch (by lia);by_cases L:k=2
   ·exists kv (by lia);exact b _
   ·exists nT (by lia),q.hU.call (f:=15) rfl rfl,pz q p z g;by_cases C:T.ex s k=0
    ·refine Cg C ?_;exact b _
    ·exists Ch C<|nT (p.nb s k z),cF j<|cR j (fB (k:=20) (tw (ff (uV (zD a g) i) y)) (by decide))
     refine e (V9 (.int k),V9 (.int (T.ex s k))) _ ⟨m.put (aK _),l++[k],by rw[cH (by rw[j];rfl),iX],by rw[aH,cP];exact zD a ts,λx r=> ?_⟩;rcases aZ.1 r with r|r
     ·exact d x r
     ·rw[aD.1 r];exact g
 ·intro u c a;obtain⟨m,l,j,a,d⟩:=a;rw[aB,aU]at a;exact K _ _ l m (aK _) j (tw (ff (zD a i) y)) d
end
end
section
structure Pm where
 st:List Nat
 look:Option (List Nat)
 cnt:Nat
 nY:List Nat
 md:List Int
 mo:List V
structure CR where
 h:Nat
 lo:Nat
 qs:Nat
 qv:Nat
 qf:Nat
 qm:Nat
 lk:V
 val:V
 vals:List V
 D7:List Nat
 eb:List (Nat×Nat)
 Ae:List (Nat×List Nat)
noncomputable def OB (t:Nat) (r:CR) (s:Pm):List (Nat×V):=
 [(41,.ref t),(42,.ref r.h),(43,.int 5000),(44,.ref r.lo),(35,.ref r.qs),(46,.ref r.qv),(47,r.lk),(48,.int s.cnt),(49,.str s.nY),(50,r.val),(51,.ref r.qf),(31,.ref r.qm)]
def Mg (H:Hp) (tk:Nat) (k:List Nat):Prop:=H[tk]? =V9 (.inst 4 [(4,.str k),(5,.str k),(6,.none),(7,.str k)])
def PK (H:Hp) (f:Nat) (i:Int):Prop:=∃a b c,H[f]? =V9 (.inst 10 [(38,a),(39,b),(40,c),(2,.int i)])
def PI (H:Hp) (v:V):Option (List Nat)->Prop
 |none=>v= .none
 |some k=>∃tk,v= .ref tk/\Mg H tk k
structure CO (H0:Hp) (t:Nat) (T:jh) (p:Nat) (r:CR) (s:Pm) (H:Hp):Prop where
 ext:Ext H0 H
 p0:H0.length<=p
 obj:H[p]? =V9 (.inst 11 (OB t r s))
 hd:H[r.h]? =V9 (.inst 9 [])
 lo:H[r.lo]? =V9 (.dict (vD r.eb))
 Kq:∀x∈r.eb,x.1<T.ns/\x.2=T.eb x.1
 Ho:(r.eb.map (·.1)).Nodup
 st:H[r.qs]? =V9 (.list (vI s.st))
 va:H[r.qv]? =V9 (.list r.vals)
 fa:H[r.qf]? =V9 (.list (vR r.D7))
 fl:r.D7.length=s.md.length
 fi:∀(i f:Nat),r.D7[i]? =V9 f->∃x,s.md[i]? =V9 x/\PK H f x
 mo:H[r.qm]? =V9 (.list s.mo)
 lk:PI H r.lk s.look
 lb:H0.length<=r.lo/\H0.length<=r.qs/\H0.length<=r.qv/\H0.length<=r.qf/\H0.length<=r.qm
 ne:r.qs≠r.qv/\r.qs≠r.qf/\r.qs≠r.qm/\r.qv≠r.qf/\r.qv≠r.qm/\r.qf≠r.qm
 stN:∀x∈s.st,x<T.ns
 tk:∀x∈r.Ae,Mg H x.1 x.2
noncomputable abbrev cms:List Nat:=[45,96,52,53,55,59,61,62,54,64,63,58,67,68,40,70,65]
section
variable {n:Nat} {H0 H:Hp} {Q:V->Hp->Prop} {t p:Nat} {T:jh} {r:CR} {s:Pm}
theorem PI.map {a:Hp} {v:V} {l:Option (List Nat)} (h:PI H v l) (e:∀(i:Nat) b,H[i]? =V9 (O.inst 4 b)->a[i]? =V9 (O.inst 4 b)):PI a v l:=by
 induction l with
 |none=>exact h
 |some k=>obtain⟨tk,b,c⟩:=h;exact⟨tk,b,e _ _ c⟩
theorem PK.map {d:Hp} {f:Nat} {i:Int} (h:PK H f i) (e:∀(i:Nat) a,H[i]? =V9 (O.inst 10 a)->d[i]? =V9 (O.inst 10 a)):PK d f i:=by obtain⟨a,b,c,h⟩:=h;exact⟨a,b,c,e _ _ h⟩
theorem CO.grow {g:Hp} (h:CO H0 t T p r s H) (e:Ext H g):CO H0 t T p r s g:=
 {h with ext:=h.ext.trans e,obj:=e.get h.obj,hd:=e.get h.hd,lo:=e.get h.lo,st:=e.get h.st,va:=e.get h.va,fa:=e.get h.fa,mo:=e.get h.mo,fi:=λi f a=>by obtain⟨x,b,c⟩:=h.fi i f a;exact⟨x,b,c.map λ_ _ d=>e.get d⟩,lk:=h.lk.map λ_ _ d=>e.get d,tk:=λx a=>e.get (h.tk x a)}
theorem CO.hU (h:CO H0 t T p r s H):zH H p 11 cms:=mF h.obj rfl
theorem CO.f (h:CO H0 t T p r s H) {a:Nat} {v:V} (b:(pd.fld 11).contains a=Wb) (c:pv (OB t r s) a=V9 v):iK H p a v:=⟨_,_,h.obj,b,c⟩
theorem CO.tT (h:CO H0 t T p r s H) (a:IsT H0 t T):IsT H t T:=a.ext h.ext
theorem CO.put (h:CO H0 t T p r s H) {r':CR} {s':Pm} (A:r'.h=r.h) (o:r'.lo=r.lo) (e:r'.qf=r.qf) (g:r'.qm=r.qm) (l:r'.D7=r.D7) (m:r'.eb=r.eb) (q:s'.md=s.md) (B:s'.mo=s.mo) (u:r'.Ae=r.Ae)
  (st:H[r'.qs]? =V9 (.list (vI s'.st))) (E:H[r'.qv]? =V9 (.list r'.vals)) (D:PI H r'.lk s'.look) (v:H0.length<=r'.qs/\H0.length<=r'.qv)
  (j:r'.qs≠r'.qv/\r'.qs≠r.qf/\r'.qs≠r.qm/\r'.qv≠r.qf/\r'.qv≠r.qm) (n:∀x∈s'.st,x<T.ns):CO H0 t T p r' s' (H.set p (.inst 11 (OB t r' s'))):=by
 obtain⟨w,F,G,y,z⟩:=h.lb;haveI k:∀{i:Nat} {xs},H[i]? =V9 (.list xs)->(H.set p (.inst 11 (OB t r' s')))[i]? =V9 (.list xs):=λa=>(a8 (er h.obj a (by simp))).trans a;refine⟨h.ext.put h.p0,h.p0,cH (by rw[h.obj];rfl),?_,?_,by rw[m];exact h.Kq,by rw[m];exact h.Ho,k st,k E,by rw[e,l];exact k h.fa,by rw[l,q];exact h.fl,λi f a=> ?_,by rw[g,B];exact k h.mo,D.map λi C d=>(a8 (er h.obj d (by simp))).trans d,
  ⟨by rw[o];exact w,v.1,v.2,by rw[e];exact y,by rw[g];exact z⟩,⟨j.1,by rw[e];exact j.2.1,by rw[g];exact j.2.2.1,by rw[e];exact j.2.2.2.1,by rw[g];exact j.2.2.2.2,by rw[e,g];exact h.ne.2.2.2.2.2⟩,n,λx a=>(a8 (er h.obj (h.tk x (u▸a)) (by simp))).trans (h.tk x (u▸a))⟩
 ·rw[A];exact(a8 (er h.obj h.hd (by simp))).trans h.hd
 ·rw[o,m];exact(a8 (er h.obj h.lo (by simp))).trans h.lo
 ·haveI a:=(l)▸a;rw[q];obtain⟨x,b,c⟩:=h.fi i f a;exact⟨x,b,c.map λi C d=>(a8 (er h.obj d (by simp))).trans d⟩
theorem CO.dB (h:CO H0 t T p r s H) {r':CR} {s':Pm} {a:Nat} {v:V} {m:En} {Q:Fl->En->Hp->Prop} (b:(pd.fld 11).contains a=Wb) (c:cE (OB t r s) a v=OB t r' s')
  (K:Q .next m (H.set p (.inst 11 (OB t r' s')))):rQ pd a v m Q (.ref p) H:=by
 refine gC h.obj b (aJ rfl) ?_;rw[c];exact K
theorem CO.eb (h:CO H0 t T p r s H) {q:Nat} (k:q<T.ns) (j:q∉r.eb.map (·.1)):CO H0 t T p {r with eb:=r.eb++[(q,T.eb q)]} s (H.set r.lo (.dict (vD (r.eb++[(q,T.eb q)])))):=by
 haveI g:∀{i:Nat} {xs},H[i]? =V9 (.list xs)->(H.set r.lo (.dict (vD (r.eb++[(q,T.eb q)]))))[i]? =V9 (.list xs):=λa=>(a8 (er h.lo a (by simp))).trans a;have hi:∀{i:Nat} {c e},H[i]? =V9 (.inst c e)->(H.set r.lo (.dict (vD (r.eb++[(q,T.eb q)]))))[i]? =V9 (.inst c e):=λa=>(a8 (er h.lo a (by simp))).trans a;refine⟨h.ext.put h.lb.1,h.p0,hi h.obj,hi h.hd,cH (by rw[h.lo];rfl),λx a=> ?_,?_,g h.st,g h.va,g h.fa,h.fl,λi f a=> ?_,g h.mo,h.lk.map λi e d=>hi d,h.lb,h.ne,h.stN,λx a=>hi (h.tk x a)⟩
 ·rcases aZ.1 a with a|a
  ·exact h.Kq x a
  ·rw[aD.1 a];exact⟨k,rfl⟩
 ·rw[bV,cA];exact⟨h.Ho,by simp,λa d b c=>by simp at c;rw[c];exact λ(e:a=q)=>j (e▸d)⟩
 ·obtain⟨x,b,c⟩:=h.fi i f a;exact⟨x,b,c.map λi e d=>hi d⟩
theorem CO.pushS (h:CO H0 t T p r s H) {g:Nat} (n:g<T.ns):CO H0 t T p r {s with st:=s.st++[g]} (H.set r.qs (.list (vI s.st++[.int g]))):=by
 haveI j:=h.lb.2.1;haveI o:=h.lb.2.2.2.2;obtain⟨k,l,m,q,u,v⟩:=h.ne;have hi:∀{i:Nat} {c e},H[i]? =V9 (.inst c e)->(H.set r.qs (.list (vI s.st++[.int g])))[i]? =V9 (.inst c e):=λa=>(a8 (er h.st a (by simp))).trans a;refine⟨h.ext.put j,h.p0,hi h.obj,hi h.hd,(a8 (er h.st h.lo (by simp))).trans h.lo,h.Kq,h.Ho,by rw[cH (by rw[h.st];rfl),iX],(a8 k).trans h.va,(a8 l).trans h.fa,h.fl,λi f a=> ?_,(a8 m).trans h.mo,h.lk.map λi e d=>hi d,h.lb,h.ne,λx a=> ?_,λx a=>hi (h.tk x a)⟩
 ·obtain⟨x,b,c⟩:=h.fi i f a;exact⟨x,b,c.map λi e d=>hi d⟩
 ·rcases aZ.1 a with a|a
  ·exact h.stN x a
  ·rw[aD.1 a];exact n
theorem CO.LW (h:CO H0 t T p r s H) {v:V}:CO H0 t T p {r with vals:=r.vals++[v]} s (H.set r.qv (.list (r.vals++[v]))):=by haveI g:=h.lb.2.2.1;haveI m:=h.lb.2.2.2.2;obtain⟨j,n,o,k,l,q⟩:=h.ne;have hi:∀{i:Nat} {c e},H[i]? =V9 (.inst c e)->(H.set r.qv (.list (r.vals++[v])))[i]? =V9 (.inst c e):=λa=>(a8 (er h.va a (by simp))).trans a;refine⟨h.ext.put g,h.p0,hi h.obj,hi h.hd,(a8 (er h.va h.lo (by simp))).trans h.lo,h.Kq,h.Ho,(a8 (dJ j)).trans h.st,cH (by rw[h.va];rfl),(a8 k).trans h.fa,h.fl,λi f a=> ?_,(a8 l).trans h.mo,h.lk.map λi e d=>hi d,h.lb,h.ne,h.stN,λx a=>hi (h.tk x a)⟩;obtain⟨x,b,c⟩:=h.fi i f a;exact⟨x,b,c.map λi e d=>hi d⟩
theorem CO.QB (h:CO H0 t T p r s H) {v:V}:CO H0 t T p r {s with mo:=s.mo++[v]} (H.set r.qm (.list (s.mo++[v]))):=by obtain⟨m,n,o,q,g⟩:=h.lb;obtain⟨u,w,j,y,k,l⟩:=h.ne;have hi:∀{i:Nat} {c e},H[i]? =V9 (.inst c e)->(H.set r.qm (.list (s.mo++[v])))[i]? =V9 (.inst c e):=λa=>(a8 (er h.mo a (by simp))).trans a;refine⟨h.ext.put g,h.p0,hi h.obj,hi h.hd,(a8 (er h.mo h.lo (by simp))).trans h.lo,h.Kq,h.Ho,(a8 (dJ j)).trans h.st,(a8 (dJ k)).trans h.va,(a8 (dJ l)).trans h.fa,h.fl,λi f a=> ?_,cH (by rw[h.mo];rfl),h.lk.map λi e d=>hi d,h.lb,h.ne,h.stN,λx a=>hi (h.tk x a)⟩;obtain⟨x,b,c⟩:=h.fi i f a;exact⟨x,b,c.map λi e d=>hi d⟩
theorem CO.QC (h:CO H0 t T p r s H) {f:Nat} {x:Int} (j:PK H f x):CO H0 t T p {r with D7:=r.D7++[f]} {s with md:=s.md++[x]} (H.set r.qf (.list (vR r.D7++[.ref f]))):=by
 injection 0 H0 H t p T r s f x with h j;obtain⟨o,u,v,k,w⟩:=h.lb;haveI l:=h.ne.2.1;haveI m:=h.ne.2.2.2.1;haveI n:=h.ne.2.2.2.2.2;have hi:∀{i:Nat} {c e},H[i]? =V9 (.inst c e)->(H.set r.qf (.list (vR r.D7++[.ref f])))[i]? =V9 (.inst c e):=λa=>(a8 (er h.fa a (by simp))).trans a;refine⟨h.ext.put k,h.p0,hi h.obj,hi h.hd,(a8 (er h.fa h.lo (by simp))).trans h.lo,h.Kq,h.Ho,(a8 (dJ l)).trans h.st,(a8 (dJ m)).trans h.va,by rw[cH (by rw[h.fa];rfl),mi],by simp[h.fl],λi g a=> ?_,(a8 n).trans h.mo,h.lk.map λi e d=>hi d,h.lb,h.ne,h.stN,λx a=>hi (h.tk x a)⟩;by_cases q:i<r.D7.length
 ·rw[bH q]at a;obtain⟨y,b,c⟩:=h.fi i g a;exact⟨y,by rw[bH (by rw[←h.fl];exact q)];exact b,c.map λi e d=>hi d⟩
 ·rw[bR (tv q)]at a;haveI c:=cB a;haveI b:i=r.D7.length:=by simp at c;exact ti ‹_› ‹_›
  subst b;rw[eS]at a;rw[←aA a];exact⟨x,by rw[h.fl,bR (aK _),eS];rfl,j.map λi e d=>hi d⟩
end
end
section
section
variable {n:Nat} {H0 H:Hp} {Q:V->Hp->Prop} {t p:Nat} {T:jh} {r:CR} {s:Pm}
theorem FU {i:Nat} {Q:Bool->Prop} (K:Q Wc):iy .AC (.ref i) .none H Q:=KE (λe=>(by cases e)) K
theorem CO.lok (h:CO H0 t T p r s H) (a:T.Ok) {q:Nat} (b:q<T.ns):nt (vD r.eb) (.int q)=Wb:=
 vC (λx c=>by haveI:=(h.Kq x c).1;haveI:=a.ns;lia) (by haveI:=a.ns;exact tc (ff b this))
theorem CO.TC (h:CO H0 t T p r s H) (a:T.Ok):r.eb.length<=60:=by
 haveI:=j8 h.Ho (N:=T.ns) (λx b=>by obtain⟨y,c,rfl⟩:=aM.1 b;exact(h.Kq y c).1)
 rw[aB]at this;exact aE this a.ns
theorem GD {q:Nat} (h:CO H0 t T p r s H) (m:IsT H0 t T) (d:T.Ok) (g:q<T.ns) (K:∀l a,CO H0 t T p {r with eb:=l} s a->Q (.int (T.eb q:Nat)) a):
  F (n+3) 30 [.ref p,.int q] H Q:=by
 injection 0 n H0 H Q t p T r s with q h m d g K;injection 0 q with h m d g K;refine JK ?_;unfold Vp;haveI e:=h.lok d g;haveI u:=h.TC d;exists(h.f (a:=44) rfl rfl).app<|uc h.lo e
 rw[oZ,kN];by_cases k:q∈r.eb.map (·.1)
 ·obtain⟨x,c,rfl⟩:=aM.1 k;haveI b:=o0 h.Ho c;rw[(h.Kq x c).2]at b;haveI l:pF (r.eb.map λp=>(p.1,(p.2:Int))) x.1=V9 (x.2:Int):=sU (p:=(x.1,(x.2:Int))) (by rw[cI];exact h.Ho) (aM.2 ⟨x,c,rfl⟩);rw[l];exists(h.f (a:=44) rfl rfl).app<|gH h.lo e b
  exact K r.eb H h
 ·haveI l:pF (r.eb.map λp=>(p.1,(p.2:Int))) q=Wa:=lN (by rw[cI];exact k);rw[l];have c:=h.tT m;haveI j:=h.eb g k;haveI b:=o0 (p:=(q,T.eb q)) j.Ho (aT _ (.head _));haveI a:∀v:Nat,v=T.eb q->ej pd (F (n+2)) (.fld (.nm 0) 44) [V9 (.ref p),V9 (.int q)] H (λo H=>ej pd (F (n+2)) (.nm 1) [V9 (.ref p),V9 (.int q)] H λi H=>rP o i (.int v) H λH=>
    pX pd (F (n+2)) .nil (pX pd (F (n+2)) #[.ret (.sub (.fld (.nm 0) 44) (.nm 1))] (pf Q)) .next [V9 (.ref p),V9 (.int q)] H):=by
   rintro _ rfl;exists(h.f (a:=44) rfl rfl).app<|gh h.lo e (by rw[z8];exact tb u)
   rw[z9 k];exists(j.f (a:=44) rfl rfl).app<|gH j.lo (j.lok d g) b
   exact K _ _ j
  exists(h.f (a:=41) rfl rfl).app<|c.hU.call (f:=56) rfl rfl<|xx c d g
  induction i:T.cons q with
  |true=>
   exists(h.f (a:=41) rfl rfl).app<|c.hU.call (f:=16) rfl rfl,ON c d g
   exact a (T.df q) (by delta jh.eb;rw[i];rfl)
  |false=>exact a 0 (by delta jh.eb;rw[i];rfl)
theorem K7 {q:Nat} (h:CO H0 t T p r s H) (u:IsT H0 t T) (o:T.Ok) (m:s.st.getLast?=V9 q)
  (K:∀l d,CO H0 t T p {r with eb:=l} s d->Q (.bool (s.look.isNone&&decide (T.eb q=0))) d):F (n+4) 28 [.ref p] H Q:=by
 refine JM ?_;delta Vr;haveI j:q∈s.st:=fk m;haveI i:=h.stN q j;exists(h.f (a:=47) rfl rfl).app;haveI b:=h.lk
 induction g:s.look with
 |none=>
  rw[g]at b;haveI e:r.lk= .none:=b;rw[e];haveI c:(vI s.st).getLast?=V9 (.int q):=by rw[jm,m];rfl
  exists is_none,h.hU.call (f:=55) rfl rfl,(h.f (a:=35) rfl rfl).app<|iY h.st c
  refine GD h u o i λl d h'=> ?_;walk_at "w";haveI:=K l d h';rw[g]at this;by_cases k:T.eb q=0
  ·rw[k]at this⊢;exact this
  ·rw[decide_eq_false k]at this;rw[decide_eq_false (by lia)];exact this
 |some k=>rw[g]at b;obtain⟨tk,e,b⟩:=b;rw[e];refine FU ?_;haveI:=K r.eb H h;rw[g]at this;exact this
theorem OH {tk:Nat} {k:List Nat} (h:CO H0 t T p r s H) (c:Mg H tk k) (K:∀b,CO H0 t T p {r with lk:=.ref tk} {s with look:=V9 k,cnt:=s.cnt+1} b->Q .none b):
  F (n+1) 29 [.ref p,.ref tk] H Q:=by
 refine JL ?_;delta Vq;obtain⟨o,d,e,q,u⟩:=h.lb;obtain⟨f,g,i,j,l,v⟩:=h.ne;haveI b:=h.put (r':={r with lk:=.ref tk}) (s':={s with look:=V9 k}) rfl rfl rfl rfl rfl rfl rfl rfl rfl h.st h.va ⟨tk,rfl,c⟩ ⟨d,e⟩ ⟨f,g,i,j,l⟩ h.stN;exists h.dB (a:=47) (r':={r with lk:=.ref tk}) (s':={s with look:=V9 k}) rfl rfl,(b.f (a:=48) rfl rfl).app,gZ;haveI m:=b.put (r':={r with lk:=.ref tk}) (s':={s with look:=V9 k,cnt:=s.cnt+1}) rfl rfl rfl rfl rfl rfl rfl rfl rfl b.st b.va b.lk ⟨d,e⟩ ⟨f,g,i,j,l⟩ h.stN;refine b.dB (a:=48) (r':={r with lk:=.ref tk}) (s':={s with look:=V9 k,cnt:=s.cnt+1}) rfl rfl ?_;exact K _ m
theorem y8 {a:List Nat} {v:V} (h:CO H0 t T p r s H) (K:∀b,CO H0 t T p {r with val:=v} {s with nY:=a} b->Q .none b):F (n+1) 33 [.ref p,.str a,v] H Q:=by refine JH ?_;delta Vm;obtain⟨l,c,d,m,o⟩:=h.lb;obtain⟨e,f,g,i,j,q⟩:=h.ne;haveI b:=h.put (r':=r) (s':={s with nY:=a}) rfl rfl rfl rfl rfl rfl rfl rfl rfl h.st h.va h.lk ⟨c,d⟩ ⟨e,f,g,i,j⟩ h.stN;haveI k:=b.put (r':={r with val:=v}) (s':={s with nY:=a}) rfl rfl rfl rfl rfl rfl rfl rfl rfl b.st b.va b.lk ⟨c,d⟩ ⟨e,f,g,i,j⟩ h.stN;exists h.dB (a:=49) (r':=r) (s':={s with nY:=a}) rfl rfl,b.dB (a:=50) (r':={r with val:=v}) (s':={s with nY:=a}) rfl rfl;exact K _ k
theorem Du {k:List Nat} {i tk:Nat} (h:CO H0 t T p r s H) (g:IsT H0 t T) (e:T.Ok) (d:Mg H tk k) (hi:uO T.G k i) (K:Q (.int i) H):F (n+2) 31 [.ref p,.ref tk] H Q:=by
 refine JJ ?_;delta Vo;haveI b:=h.tT g;haveI c:iK H tk 4 (.str k):=⟨_,_,d,rfl,rfl⟩;obtain⟨j,l,rfl⟩:=hi;exists(h.f (a:=41) rfl rfl).app<|b.hU.call (f:=57) rfl rfl,c.app,AU b e l
 by_cases q:j=1
 ·refine xn (by lia) ?_;rw[if_pos q]at K;exact K
 ·refine xo (by lia) ?_;rw[if_neg q]at K;exact K
theorem AW {v:V} (h:CO H0 t T p r s H) (c:s.mo.length<4000) (K:∀b,CO H0 t T p r {s with mo:=s.mo++[v]} b->Q .none b):F (n+1) 32 [.ref p,v] H Q:=by
 refine JI ?_;delta Vn;haveI b:s.mo.length<=iH:=c7 (tc c);exists(h.f (a:=31) rfl rfl).app<|len_list h.mo,(h.f (a:=43) rfl rfl).app<|jg (by lia),(h.f (a:=31) rfl rfl).app<|cF h.mo<|cR h.mo b
 exact K _ h.QB
theorem K4 {g tk:Nat} {k:List Nat} (h:CO H0 t T p r s H) (u:g<T.ns) (l:r.lk= .ref tk) (m:Mg H tk k) (j:s.mo.length<4000/\s.st.length<4000/\r.vals.length<4000)
  (K:∀v b,CO H0 t T p {r with vals:=r.vals++[v],lk:=.none} {s with mo:=s.mo++[.tup [.str [115,104,105,102,116],.int g]],st:=s.st++[g],look:=Wa} b->Q .none b):
  F (n+2) 36 [.ref p,.int g] H Q:=by
 injection 0 n H0 H Q t p T r s with g tk k h u l m j K;injection 0 g tk k with h u l m j K;refine JE ?_;delta Vj;exists h.hU.call (f:=61) rfl rfl,aQ dN;refine AW h j.1 λv q=> ?_;exists(q.f (a:=35) rfl rfl).app<|cF q.st<|cR q.st (fB (cO j.2.1) (by decide))
 haveI c:=q.pushS u;generalize v.set r.qs (.list (vI s.st++[.int g]))=e at c;haveI b:∃b,r.lk= .ref b/\∃k',Mg e b k':=by
  haveI:=c.lk;have d:=h.lk
  induction o:s.look with
  |none=>rw[o]at d;have d:=(l)▸d;cases d
  |some k'=>haveI b:PI e r.lk s.look:=this;rw[o]at b;obtain⟨b,i,w⟩:=b;exact⟨b,i,k',w⟩
 obtain⟨b,i,k',o⟩:=b;have i:=(l)▸i;cases i;haveI D:iK e tk 7 (.str k'):=⟨_,_,o,rfl,rfl⟩;haveI d:iK e p 47 (.ref tk):=by rw[←l];exact c.f rfl rfl
 exists(c.f (a:=46) rfl rfl).app<|cF c.va,(c.f (a:=42) rfl rfl).app<|(mF c.hd rfl:zH e r.h 9 [63,58]).call (f:=63) rfl rfl,d.app
 refine JS ?_;delta Vx;exists D.app,cR c.va (c7 (tc j.2.2));haveI b:=c.LW (v:=.str k');haveI w:=b.lb.2.1;haveI x:=b.lb.2.2.1;haveI E:=b.lb.2.2.2.2;haveI y:=b.ne.1;haveI z:=b.ne.2.1;haveI A:=b.ne.2.2.1;haveI B:=b.ne.2.2.2.1;haveI C:=b.ne.2.2.2.2.1;haveI G:=b.ne.2.2.2.2.2;refine b.dB (a:=47) (r':={r with vals:=r.vals++[.str k'],lk:=.none}) (s':={s with mo:=s.mo++[.tup [.str [115,104,105,102,116],.int g]],st:=s.st++[g],look:=Wa}) rfl rfl ?_;exact K _ _ (b.put (r':={r with vals:=r.vals++[.str k'],lk:=.none}) (s':={s with mo:=s.mo++[.tup [.str [115,104,105,102,116],.int g]],st:=s.st++[g],look:=Wa}) rfl rfl rfl rfl rfl rfl rfl rfl rfl b.st b.va rfl ⟨w,x⟩ ⟨y,z,A,B,C⟩ b.stN)
end
end
section
section
variable {n:Nat} {H0 H:Hp} {Q:V->Hp->Prop} {t p:Nat} {T:jh} {r:CR} {s:Pm}
theorem Rv {x:Nat} {q:Nat} {vs:List V} (h:CO H0 t T p r s H) (b:H[q]? =V9 (.list vs)) (c:vs.length<=60000) (K:∀v,Q v H):F (n+2) 38 [.ref p,.int x,.ref q] H Q:=by
 refine JC ?_;delta Vh;walk_at "w";refine(h.f (a:=42) rfl rfl).app ((mF h.hd rfl:zH H r.h 9 [63,58]).call (f:=58) rfl rfl ?_);refine JR ?_;delta Vw;exists len_list b
 induction vs with
 |nil=>exact xo (by decide) (K _)
 |cons v l=>refine xn (by simp) (jr b ?_);exact K _
noncomputable def fH (x:Nat):V:=.tup [.str [114,101,100,117,99,101],.int x]
noncomputable def jV (g:Nat):V:=.tup [.str [115,104,105,102,116],.int g]
theorem GB {x k g q:Nat} (h:CO H0 t T p r s H) (N:IsT H0 t T) (u:T.Ok) (c:r.vals.length+1=s.st.length) (w:x<T.G.rules.length) (X:(lh T.G).getD x 0=k) (i:k<=r.vals.length)
  (P:(s.st.take (s.st.length-k)).getLast?=V9 q) (W:T.go q ((hZ T.G).getD x 0)=g) (z:g<T.ns) (D:s.mo.length<4000/\s.st.length<4000)
  (K:∀r' b,CO H0 t T p r' {s with mo:=s.mo++[fH x],st:=s.st.take (s.st.length-k)++[g]} b->r'.vals.length+1=(s.st.take (s.st.length-k)++[g]).length->r'.lk=r.lk->r'.Ae=r.Ae->Q .none b):
  F (n+4) 37 [.ref p,.int x] H Q:=by
 injection 0 n H0 H Q t p T r s with x k g q h N u c w X i P W z D K;injection 0 x k g q with h N u c w X i P W z D K;refine JD ?_;unfold Vi;exists h.hU.call (f:=61) rfl rfl,aQ dN;refine AW h D.1 λJ j=> ?_;have l:=j.tT N;have I:r.vals.length<=iH:=c7 (tc (uV (ff ts (te c)) D.2));exists(j.f (a:=41) rfl rfl).app,l.hU.call (f:=66) rfl rfl,GE l w u;rw[X];exists(j.f (a:=46) rfl rfl).app,len_list j.va,(j.f (a:=41) rfl rfl).app,l.hU.call (f:=20) rfl rfl,GK l w u;have e1:((r.vals.length:Nat):Int)-(k:Nat)-0=((r.vals.length-k:Nat):Int):=by rw[Int.sub_zero,Pf i]
 have e2:((r.vals.length:Nat):Int)-(k:Nat)=((r.vals.length-k:Nat):Int):=(Pf i).symm;rw[e1];exists j.hU.call (f:=67) rfl rfl,(j.f (a:=46) rfl rfl).app,qX j.va;have d:=j.grow (aN J [.list (r.vals.drop (r.vals.length-k))]);have E:(J++[O.list (r.vals.drop (r.vals.length-k))])[J.length]? =V9 (.list (r.vals.drop (r.vals.length-k))):=aR;generalize J++[O.list (r.vals.drop (r.vals.length-k))]=o at d E;refine Rv d E (by rw[mR];exact aE (S3 _ _) I) λv=> ?_;exists(d.f (a:=46) rfl rfl).app,len_list d.va;rw[e2];exists(d.f (a:=46) rfl rfl).app,vG d.va;obtain⟨a1,a2,a3,a4,a5⟩:=d.lb;obtain⟨b1,b2,b3,b4,b5,b6⟩:=d.ne;have S:=ez d.st;have U:=ez d.fa;have V:=ez d.mo;have R:=d.ext.len;have C:=d.grow (aN o [.list (r.vals.take (r.vals.length-k))]);have hn:(o++[O.list (r.vals.take (r.vals.length-k))])[o.length]? =V9 (.list (r.vals.take (r.vals.length-k))):=aR;have b:=C.put (r':={r with qv:=o.length,vals:=r.vals.take (r.vals.length-k)}) (s':={s with mo:=s.mo++[fH x]}) rfl rfl rfl rfl rfl rfl rfl rfl rfl C.st hn C.lk ⟨a2,R⟩ ⟨cT S,b2,b3,eD U,eD V⟩ C.stN;exists C.dB (a:=46) (r':={r with qv:=o.length,vals:=r.vals.take (r.vals.length-k)}) (s':={s with mo:=s.mo++[fH x]}) rfl rfl;generalize (o++[O.list (r.vals.take (r.vals.length-k))]).set p _=B at b;exists(b.f (a:=35) rfl rfl).app,gZ,vG b.st;haveI e3:r.vals.length-k+1=s.st.length-k:=(Nat.sub_add_comm i).symm.trans (congrArg (·-k) c);haveI e4:(vI s.st).take (s.st.length-k)=vI (s.st.take (s.st.length-k)):=by delta vI;rw[List.map_take]
 rw[e3];rw[e4];haveI a3:=b.lb.2.2.1;haveI a5:=b.lb.2.2.2.2;haveI b4:=b.ne.2.2.2.1;haveI b5:=b.ne.2.2.2.2.1;haveI b6:=b.ne.2.2.2.2.2;haveI S:=ez b.va;haveI U:=ez b.fa;haveI V:=ez b.mo;haveI R:=b.ext.len;haveI L:=b.grow (aN B [.list (vI (s.st.take (s.st.length-k)))]);haveI Y:(B++[O.list (vI (s.st.take (s.st.length-k)))])[B.length]? =V9 (.list (vI (s.st.take (s.st.length-k)))):=aR;haveI e:=L.put (r':={r with qv:=o.length,vals:=r.vals.take (r.vals.length-k),qs:=B.length}) (s':={s with mo:=s.mo++[fH x],st:=s.st.take (s.st.length-k)}) rfl rfl rfl rfl rfl rfl rfl rfl rfl Y L.va L.lk ⟨R,a3⟩
  ⟨eD S,eD U,eD V,b4,b5⟩ (λy e=>b.stN y (fj e))
 refine L.dB (a:=35) (r':={r with qv:=o.length,vals:=r.vals.take (r.vals.length-k),qs:=B.length}) (s':={s with mo:=s.mo++[fH x],st:=s.st.take (s.st.length-k)}) rfl rfl ?_;generalize (B++[O.list (vI (s.st.take (s.st.length-k)))]).set p _=H6 at e;refine e.hU.call (f:=68) rfl rfl (JB ?_);delta Vg;haveI m:=e.tT N;haveI aa:q∈s.st.take (s.st.length-k):=fk P;haveI Z:=e.stN q aa;haveI y:(vI (s.st.take (s.st.length-k))).getLast?=V9 (.int q):=by rw[jm,P];rfl
 haveI A:(hZ T.G).getD x 0<=1000:=by haveI A:=u.wf.at_ (aF w);rw[show(hZ T.G).getD x 0=(T.G.rules[x]'w).left from getD_map (aF w)];haveI:=u.wf.n;exact tc (ff A.left this)
 exists(e.f (a:=41) rfl rfl).app<|m.hU.call (f:=69) rfl rfl,(e.f (a:=35) rfl rfl).app<|iY e.st y,(e.f (a:=41) rfl rfl).app<|m.hU.call (f:=18) rfl rfl,OI m w u,GF m u Z A
 rw[W];haveI G:(vI (s.st.take (s.st.length-k))).length<=iH:=fB (k:=4000) (by rw[c9];exact aE (ii _ _) (tw D.2)) (by decide);exists jg (by lia),(e.f (a:=35) rfl rfl).app<|cF e.st<|cR e.st G
 haveI M:=e.pushS z;refine(M.f (a:=46) rfl rfl).app (cF M.va (cR M.va (c7 (by rw[c9];exact aE (ii _ _) I)) ?_));exact K _ _ (M.LW (v:=v)) (by simp;assumption) rfl rfl
theorem C8 {tk q:V} {b:V} {i:Int} (K:∀a,Ext H a->PK a H.length i->Q (.ref H.length) a):sj pd (F (n+1)) 10 Q [tk,q,b,.int i] H:=by refine gj rfl (JQ ?_);delta Vv;haveI a:∀{l:List (Nat×V)},jq l.length 100=Wb->l.length<=100:=aJ;exists cN rfl (a rfl),cN rfl (a rfl),cN rfl (a rfl),cN rfl (a rfl);exact⟨rfl,K _ (aN _ _) ⟨_,_,_,aR⟩⟩
theorem C5 {k:List Nat} (K:∀a,Ext H a->Mg a H.length k->Q (.ref H.length) a):sj pd (F (n+1)) 4 Q [.str k,.str k,.none] H:=by
 refine gj rfl (NF ?_);delta b0;haveI a:∀{l:List (Nat×V)},jq l.length 100=Wb->l.length<=100:=aJ;exists cN rfl (a rfl),cN rfl (a rfl),cN rfl (a rfl),is_none<|cN rfl (a rfl)
 exact⟨rfl,K _ (aN _ _) aR⟩
theorem OM {i:Nat} {q:Nat} (h:CO H0 t T p r s H) (C:IsT H0 t T) (k:T.Ok) (G:s.st.getLast?=V9 q) (M:r.D7.length<4000) (Y:s.cnt=i+1) {tm:V}
  (K:∀r' a,CO H0 t T p r' {s with nY:=[97,98,111,114,116,101,100],md:=s.md++[(i:Int)]} a->r'.vals=r.vals->r'.Ae=r.Ae->Q .none a):F (n+5) 42 [.ref p,tm] H Q:=by
 refine Jy ?_;delta Vd;walk_at "w";refine h.hU.call (f:=70) rfl rfl (Jz ?_);delta Ve;walk_at "w";refine h.hU.call (f:=40) rfl rfl (JA ?_);delta Vf;haveI c:=h.tT C;haveI w:=h.stN q (fk G);haveI b:(vI s.st).getLast?=V9 (.int q):=by rw[jm,G];rfl
 walk_at "w";refine(h.f (a:=41) rfl rfl).app (c.hU.call (f:=40) rfl rfl ((h.f (a:=35) rfl rfl).app (iY h.st b ?_)));refine OF c k w λre A l g N B D u=> ?_;have e:=h.grow g;haveI m:=e.tT C;obtain⟨S,J,y, -⟩:=m.ex;obtain⟨Z,P,R⟩:=y.names;haveI z:=k.wf.M3;haveI E:=k.wf.n;refine cU B (hX (λv=>match v with| .int x=>.str (T.G.names.getD x.toNat [])|v=>v) B ?_ ?_)
 ·intro v o L j;obtain⟨x,I,rfl⟩:=aM.1 o;have a:=u x I;exists(e.f (a:=41) rfl rfl).app<|P.app,bO R (show(T.G.names.map V.str)[x]? =V9 (.str (T.G.names.getD x [])) by rw[bC,dX (d:=[]) (uV a z)];rfl)
  exact j
 haveI a:=e.grow (aN A [.list ((vI l).map λv=>match v with| .int x=>.str (T.G.names.getD x.toNat [])|v=>v)]);generalize A++[O.list ((vI l).map λv=>match v with| .int x=>.str (T.G.names.getD x.toNat [])|v=>v)]=U at a;exists(a.f (a:=51) rfl rfl).app<|cF a.fa,(a.f (a:=47) rfl rfl).app<|(a.f (a:=35) rfl rfl).app<|iY a.st b<|(a.f (a:=48) rfl rfl).app
 haveI I:((s.cnt:Nat):Int)-1=(i:Int):=by lia
 rw[I];refine C8 λW j o=> ?_;haveI v:=a.grow j;exists cR v.fa (by rw[eA];exact c7 (tc M));haveI x:=v.QC o;exact x.hU.call (f:=62) rfl rfl (y8 x λX L=>(K _ _ L rfl rfl))
end
end
section
noncomputable abbrev eu:List Nat:=[109,111,114,101]
noncomputable abbrev tZ:List Nat:=[97,99,99,101,112,116,101,100]
noncomputable abbrev t5:List Nat:=[97,98,111,114,116,101,100]
noncomputable def mx:V:=.tup [.str [97,99,99,101,112,116]]
noncomputable def jv (T:jh) (s:Pm) (x:Nat):Option Pm:=
 match(s.st.take (s.st.length-(lh T.G).getD x 0)).getLast? with
 |none=>Wa
 |some q=>if T.go q ((hZ T.G).getD x 0)<0 then Wa else
   V9 {s with mo:=s.mo++[fH x],st:=s.st.take (s.st.length-(lh T.G).getD x 0)++[(T.go q ((hZ T.G).getD x 0)).toNat]}
noncomputable def iZ (T:jh) (tm:List Nat->Nat) (s:Pm):Option Pm:=
 match s.st.getLast? with
 |none=>Wa
 |some q=>if 0<T.eb q then jv T s (T.eb q) else
  match s.look with
  |none=>Wa
  |some k=>
   if T.act q (tm k)=1048576 then(if 1<s.st.length then V9 {s with mo:=s.mo++[mx],nY:=tZ} else Wa)
   else if 0<T.act q (tm k) then V9 {s with mo:=s.mo++[jV (T.act q (tm k)).toNat],st:=s.st++[(T.act q (tm k)).toNat],look:=Wa}
   else if T.act q (tm k)<0 then jv T s (-(T.act q (tm k))).toNat
   else V9 {s with nY:=t5,md:=s.md++[((s.cnt-1:Nat):Int)]}
noncomputable def fZ (T:jh) (tm:List Nat->Nat):Nat->Pm->Bool->List Nat->Option Pm
 |0,_,_,_=>Wa
 |f+1,s,a,k=>if s.nY≠eu then V9 s else
  match s.st.getLast? with
  |none=>Wa
  |some q=>if s.look=Wa/\T.eb q=0 then
    (if a then V9 s else(iZ T tm {s with look:=V9 k,cnt:=s.cnt+1}).bind λs'=>fZ T tm f s' Wb k)
   else(iZ T tm s).bind λs'=>fZ T tm f s' a k
structure jh.G5 (T:jh) (tm:List Nat->Nat):Prop extends T.Ok where
 go:∀q x,q<T.ns->0<=T.go q x->(T.go q x).toNat<T.ns
 lr:∀q,q<T.ns->T.eb q<T.G.rules.length
 sh:∀q k,q<T.ns->0<T.act q (tm k)->T.act q (tm k)≠1048576->(T.act q (tm k)).toNat<T.ns
 ar:∀q k,q<T.ns->T.act q (tm k)<0->(-(T.act q (tm k))).toNat<T.G.rules.length
 tm:∀k,uO T.G k (tm k)
theorem uO.lt {G:Gr} {k:List Nat} {i:Nat} (h:uO G k i) (b:3<=G.tc):i<G.tc:=by
 obtain⟨j,a,rfl⟩:=h;split
 ·assumption
 ·rcases a with⟨-,h⟩|⟨-,rfl⟩<;>assumption
section
variable {n:Nat} {H0 H:Hp} {Q:V->Hp->Prop} {t p:Nat} {T:jh} {r:CR} {s s':Pm} {tm:List Nat->Nat}
theorem GC {x:Nat} (h:CO H0 t T p r s H) (j:IsT H0 t T) (f:T.G5 tm) (a:r.vals.length+1=s.st.length) (m:x<T.G.rules.length) (b:jv T s x=V9 s') (k:s.mo.length<4000/\s.st.length<4000)
  (K:∀r' e,CO H0 t T p r' s' e->r'.vals.length+1=s'.st.length->r'.Ae=r.Ae->Q .none e):F (n+4) 37 [.ref p,.int x] H Q:=by
 injection 0 n H0 H Q t p T r s with s' tm x h j f a m b k K;injection 0 s' tm x with h j f a m b k K;unfold jv at b
 induction d:(s.st.take (s.st.length-(lh T.G).getD x 0)).getLast? with
 |none=>rw[d]at b;exact nn b
 |some q=>
  rw[d]at b;dsimp only at b;haveI l:=h.stN q (fj (fk d));by_cases i:T.go q ((hZ T.G).getD x 0)<0
  ·rw[if_pos i]at b;exact nn b
  ·rw[if_neg i]at b;obtain rfl:=aA b;haveI c:0<(s.st.take (s.st.length-(lh T.G).getD x 0)).length:=nk (fk d);rw[c9]at c;exact GB (g:=(T.go q ((hZ T.G).getD x 0)).toNat) h j f.toOk a m rfl (tC a c) d (eU (ed.1 i)).symm (f.go q _ l (ed.1 i)) k λr' e o u _ v=>K r' e o u v
theorem Gx (h:CO H0 t T p r s H) (x:IsT H0 t T) (j:T.G5 tm) (b:r.vals.length+1=s.st.length) (c:iZ T tm s=V9 s') (m:s.mo.length<4000/\s.st.length<4000/\s.md.length<4000) (N:s.look≠Wa->1<=s.cnt)
  (K:∀r' d,CO H0 t T p r' s' d->r'.vals.length+1=s'.st.length->r'.Ae=r.Ae->Q .none d):F (n+6) 34 [.ref p] H Q:=by
 injection 0 n H0 H Q t p T r s with s' tm h x j b c m N K;injection 0 s' tm with h x j b c m N K;refine JG ?_;unfold Vl;unfold iZ at c
 induction E:s.st.getLast? with
 |none=>rw[E]at c;exact nn c
 |some q=>
  rw[E]at c;dsimp only at c;have o:=h.stN q (fk E);have y:(vI s.st).getLast?=V9 (.int q):=by unfold vI;rw[jm,E];rfl
  exists(h.f (a:=35) rfl rfl).app,iY h.st y,h.hU.call (f:=55) rfl rfl;refine GD h x j.toOk o λl O d=> ?_;walk_at "w";by_cases M:0<T.eb q
  ·have c:=(if_pos M)▸c;exists li (LJ.2 M),d.hU.call (f:=58) rfl rfl;refine GC d x j b (j.lr q o) c ⟨m.1,m.2.1⟩ λr' w g u v=> ?_;walk_at "w";exact K r' w g u v
  ·rw[if_neg M]at c
   induction C:s.look with
   |none=>haveI c:=(C)▸c;exact nn c
   |some k=>
    rw[C]at c;dsimp only at c;have e:=d.lk;rw[show({r with eb:=l}:CR).lk=r.lk from rfl,C]at e;obtain⟨tk,e,I⟩:=e;have D:iK O p 47 (.ref tk):=by rw[←e];exact d.f rfl rfl
    have B:=d.tT x;have G:=j.tm k;exists jg (ed.2 (dQ.2 (tv ‹_›))),d.hU.call (f:=59) rfl rfl,D.app,Du d x j.toOk I G,(d.f (a:=41) rfl rfl).app,B.hU.call (f:=60) rfl rfl,GM B j.toOk o (G.lt j.t3);by_cases z:T.act q (tm k)=1048576
    ·rw[if_pos z]at c;by_cases J:1<s.st.length
     case neg=>rw[if_neg J]at c;exact nn c
     rw[if_pos J]at c;obtain rfl:=aA c;exists li z,d.hU.call (f:=61) rfl rfl,aQ one_le;refine AW d m.1 λw g=> ?_;obtain⟨v,A⟩:∃v,r.vals.getLast?=V9 v:=by
      induction A:r.vals.getLast? with
      |none=>haveI A:=List.getLast?_eq_none_iff.1 A;rw[A]at b;simp at b;lia
      |some v=>exact⟨v,rfl⟩
     exists g.hU.call (f:=62) rfl rfl,(g.f (a:=46) rfl rfl).app<|iY g.va A
     refine y8 g λL u=> ?_;dsimp only at u;haveI u:=(C)▸u;exact K _ L u b rfl
    ·rw[if_neg z]at c;by_cases A:0<T.act q (tm k)
     ·rw[if_pos A]at c;obtain rfl:=aA c;have L:T.act q (tm k)=(((T.act q (tm k)).toNat:Nat):Int):=(eU (gT (by assumption))).symm;exists jg z,li A,d.hU.call (f:=63) rfl rfl;rw[L];exact K4 d (j.sh q k o A z) e I ⟨m.1,m.2.1,by exact uV (ff ts (te b)) m.2.1⟩ λv w g=>(K _ w g (by simp;assumption) rfl)
     ·rw[if_neg A]at c;by_cases J:T.act q (tm k)<0
      ·rw[if_pos J]at c;exists jg z,jg A,zj J,d.hU.call (f:=64) rfl rfl;refine JF ?_;delta Vk;haveI L:0-T.act q (tm k)=(((-(T.act q (tm k))).toNat:Nat):Int):=by lia
       exists d.hU.call (f:=58) rfl rfl;rw[L];exact GC d x j b (j.ar q k o J) c ⟨m.1,m.2.1⟩ λr' w g u v=>(K r' w g u v)
      ·rw[if_neg J]at c;obtain rfl:=aA c;exists jg z,jg A,zk J,d.hU.call (f:=65) rfl rfl;refine OM (i:=s.cnt-1) d x j.toOk E (by rw[h.fl];exact m.2.2) (by lia) λr' w g u v=> ?_
       try dsimp only at g
       haveI g:=(C)▸g;exact K r' w g (by rw[u];exact b) v
theorem vE (a:iZ T tm s=V9 s'):s'.mo.length<=s.mo.length+1/\s'.st.length<=s.st.length+1/\s'.md.length<=s.md.length+1/\s'.cnt=s.cnt/\(s'.look≠Wa->s.look≠Wa):=by
 injection 0 T s s' tm with a;haveI b:∀{x:Nat} {s':Pm},jv T s x=V9 s'->s'.mo.length<=s.mo.length+1/\s'.st.length<=s.st.length+1/\s'.md.length<=s.md.length+1/\s'.cnt=s.cnt/\(s'.look≠Wa->s.look≠Wa):=by
  intro x s' h;injection 0 x s' with h;unfold jv at h;split at h
  ·exact nn h
  ·split at h
   ·exact nn h
   ·obtain rfl:=aA h;refine⟨by simp,?_,by simp,rfl,id⟩
    first|(simp;done)|(simp;lia)
 unfold iZ at a;split at a
 ·cases a
 ·split at a
  ·exact b a
  ·split at a
   ·cases a
   ·next k c=>
    split at a
    ·split at a
     ·obtain rfl:=aA a;exact⟨by simp,by exact ta,by simp,rfl,by rw[c];exact λ_=>nofun⟩
     ·exact nn a
    ·split at a
     ·obtain rfl:=aA a;exact⟨by simp,by simp,by simp,rfl,λh=>absurd rfl h⟩
     ·split at a
      ·exact b a
      ·obtain rfl:=aA a;exact⟨by exact ta,by exact ta,by simp,rfl,by rw[c];exact λ_=>nofun⟩
theorem K6 {f tk:Nat} {k:List Nat} (h:CO H0 t T p r s H) (B:IsT H0 t T) (A:T.G5 tm) (d:r.vals.length+1=s.st.length) (g:fZ T tm f s Wc k=V9 s') (i:(tk,k)∈r.Ae)
  (m:s.mo.length+f<4000/\s.st.length+f<4000/\s.md.length+f<4000) (o:s.look≠Wa->1<=s.cnt)
  (K:∀r' u,CO H0 t T p r' s' u->r'.vals.length+1=s'.st.length->Q (.str s'.nY) u):F (n+7) 27 [.ref p,.ref tk] H Q:=by
 injection 0 n H0 H Q t p T r s with s' tm f tk k h B A d g i m o K;injection 0 s' tm f tk k with h B A d g i m o K;refine JN ?_;delta Vs;walk_at "w";refine qM (σ:=Bool) (λb=>xM p tk [V9 (.bool b)])
  (λj b u=>∃r s,CO H0 t T p r s u/\r.vals.length+1=s.st.length/\fZ T tm j s b k=V9 s'/\(tk,k)∈r.Ae/\(s.mo.length+j<4000/\s.st.length+j<4000/\s.md.length+j<4000)/\(s.look≠Wa->1<=s.cnt)) f Wc rfl
  ⟨r,s,h,d,g,i,m,o⟩ ?_
 clear h d g i m o;intro j b u c O v;injection 0 j b u O with c v;obtain⟨r,s,h,d,g,i,m,o⟩:=c;injection 0 r s with h d g i m o
 cases j with
 |zero=>exact nn g
 |succ j=>
  unfold fZ at g;exists(h.f (a:=49) rfl rfl).app;by_cases C:s.nY=eu
  ·rw[if_neg (λe=>e C)]at g
   induction J:s.st.getLast? with
   |none=>rw[J]at g;exact nn g
   |some q=>
    rw[J]at g;dsimp only at g;exists HU C,h.hU.call (f:=52) rfl rfl;refine K7 (n:=n+2) h B A.toOk J λl P z=> ?_;by_cases D:s.look=Wa/\T.eb q=0
    ·rw[if_pos D]at g;haveI E:(s.look.isNone&&decide (T.eb q=0))=Wb:=by rw[D.1,decide_eq_true D.2];rfl
     rw[E]
     cases b with
     |true=>obtain rfl:=aA g;haveI:=K _ _ z d;rw[C]at this;exact this
     |false=>rw[if_neg (by decide)]at g;obtain⟨M,e,x⟩:=gp.1 g;haveI c:=vE e;dsimp only at c;walk_at "w";refine z.hU.call (f:=53) rfl rfl (OH z (z.tk _ i) λI b=> ?_);exists b.hU.call (f:=54) rfl rfl;exact Gx b B A d e ⟨tB m.1,tB m.2.1,tB m.2.2⟩ (λ_=>eW 1 _) λL N G w y=>(v j Wb _ (dt j) ⟨L,M,G,w,x,by rw[y];exact i,⟨tA c.1 m.1,tA c.2.1 m.2.1,tA c.2.2.1 m.2.2⟩,λ_=>by rw[c.2.2.2.1];exact eW 1 _⟩)
    ·rw[if_neg D]at g;have E:(s.look.isNone&&decide (T.eb q=0))=Wc:=by
      induction I:s.look with
      |none=>rw[decide_eq_false (λe=>D ⟨I,e⟩)];rfl
      |some _=>rfl
     rw[E];rcases gp.1 g with⟨M,e,x⟩;haveI c:=vE e;exists z.hU.call (f:=54) rfl rfl;exact Gx z B A d e ⟨tB m.1,tB m.2.1,tB m.2.2⟩ o λL N G w y=>(v j b _ (dt j) ⟨L,M,G,w,x,by rw[y];exact i,⟨tA c.1 m.1,tA c.2.1 m.2.1,tA c.2.2.1 m.2.2⟩,λI=>by rw[c.2.2.2.1];exact o (c.2.2.2.2 I)⟩)
  ·rw[if_pos C]at g;obtain rfl:=aA g;exists HV C,(h.f (a:=49) rfl rfl).app;exact K r u h d
theorem ym (d:IsT H t T) (c:0<T.ns) (K:∀p a r,Ext H a->CO H t T p r ⟨[0],Wa,0,eu,[],[]⟩ a->r.vals=[]->r.Ae=[]->Q (.ref p) a):sj pd (F (n+2)) 11 Q [.ref t] H:=by
 refine gj rfl (JP ?_);delta Vu;haveI a:∀{l:List (Nat×V)},jq l.length 100=Wb->l.length<=100:=aJ;exists cN rfl (a rfl),is_none;refine DI.bare rfl rfl ?_;rw[bF];exists cN rfl (a rfl),cN rfl (a rfl);rw[bF];exists cN rfl (a rfl);refine(mF (aR (l:=_::_)) rfl:zH _ H.length 11 cms).call (f:=45) rfl rfl (JO ?_);delta Vt;exists aQ one_le;rw[bF];exists cN rfl (a rfl),aQ (aP _);rw[bF];exists cN rfl (a rfl),cN rfl (a rfl),cN rfl (a rfl),cN rfl (a rfl),cN rfl (a rfl),aQ (aP _);rw[bF];exists cN rfl (a rfl),aQ (aP _);rw[bF];refine cN rfl (a rfl) (⟨rfl,K H.length _ ⟨H.length+1,H.length+2,H.length+3,H.length+4,H.length+5,H.length+6,.none,.none,[],[],[],[]⟩ (aN _ _) ⟨aN _ _,aK _,?_,fD,fD,(λ_ h=>(c8 h).elim),gv,fD,fD,fD,rfl,λi f h=>(by simp at h),fD,rfl,by simp,by simp,?_,(λ_ h=>(c8 h).elim)⟩ rfl rfl⟩)
 ·rw[aR];simp only[aH];rfl
 ·intro x b;simp at b;rw[b];exact c
end
end
section
section
variable {n:Nat} {H:Hp} {Q:V->Hp->Prop} {G:Gr}
theorem yk {k l:Nat} {rs:List Nat} {lv:Int} (K:∀a,Ext H a->G8 a H.length k ⟨l,rs,lv⟩->Q (.ref H.length) a):sj pd (F (n+1)) 12 Q [.int k,.int l,.tup (vI rs),.int lv] H:=by refine gj rfl (Jx ?_);delta Vc;haveI a:∀{l:List (Nat×V)},jq l.length 100=Wb->l.length<=100:=aJ;exists cN rfl (a rfl),cN rfl (a rfl),cN rfl (a rfl),cN rfl (a rfl),cN rfl (a rfl),cN rfl (a rfl),cN rfl (a rfl);exact⟨rfl,K _ (aN _ _) ⟨⟨_,_,aR,rfl,rfl⟩,⟨_,_,aR,rfl,rfl⟩,⟨_,_,aR,rfl,rfl⟩,⟨_,_,aR,rfl,rfl⟩,⟨_,_,aR,rfl,rfl⟩⟩⟩
noncomputable def yx (tc:Nat) (rs:List Nat):Int:=rs.foldl (λf s=>if s<tc then(s:Int) else f) (-1)
theorem OK {rs:List Nat} {tc:Nat} (j:rs.length<=2) (K:Q (.int (yx tc rs)) H):F (n+1) 52 [.tup (vI rs),.int tc] H Q:=by
 refine Jo ?_;delta U3;exists rf;refine cQ (σ:=Int×Option V) (λs=>V9 (.tup (vI rs))::eI tc (eI s.1 [s.2])) (λk s e=>e=H/\s.1=yx tc (rs.take k)) (-1,Wa) rfl ⟨rfl,rfl⟩ (λ_ _ _ _=>trivial) ?_ ?_
 ·intro k v f s e h i c;haveI b:=h.1;haveI d:=h.2;rw[b];obtain⟨x,g,b⟩:=gU f;rw[b];haveI a:yx tc (rs.take (k+1))=if x<tc then(x:Int) else s.1:=by
   rw[d];delta yx;rw[bX,g];simp only[eB,d6,dG,gy]
  by_cases q:x<tc
  ·rw[if_pos q]at a;exists li (dP.2 q);exact c (x,V9 (.int x)) _ ⟨rfl,a.symm⟩
  ·rw[if_neg q]at a;exists jg (ed.2 (dQ.2 (tv ‹_›)));exact c (s.1,V9 (.int x)) _ ⟨rfl,a.symm⟩
 ·intro s e h;haveI b:=h.1;haveI d:=h.2;rw[b];rw[dL,bZ]at d;rw[d];exact K
noncomputable def B6 (G:Gr) (k s:Nat):List Nat:=(aC k).filter λj=>(G.rules[j]?.map Ru.left)==V9 s
noncomputable def BG (G:Gr) (k:Nat):List Nat:=((G.rules.take k).mapIdx λj x=>aY (x.right.length+1) j).flatten
theorem BF (k:Nat):(BG G k).length=G.off k:=by
 haveI:∀(l:List Ru) (f:Nat->Nat),((l.mapIdx λj x=>aY (x.right.length+1) (f j)).flatten).length=(l.map λx=>x.right.length+1).sum:=by
  intro l
  induction l with
  |nil=>intro;rfl
  |cons x l a=>intro f;rw[mP,rL,aH,fP,cS,xH,a (λj=>f (j+1))]
 exact this _ id
theorem Fd {k:Nat} {a:Ru} (h:G.rules[k]? =V9 a):BG G (k+1)=BG G k++aY (a.right.length+1) k:=by
 delta BG;haveI b:(G.rules.take k).length=k:=by rw[c9];haveI:=cB h;lia
 rw[bX,h];simp only[eB];rw[List.mapIdx_append,CC];simp[b]
structure GI (H0:Hp) (fs:List (Nat×V)) (G:Gr) (B k:Nat) (H:Hp):Prop extends Ob H0 13 fs H where
 bb:∀s,s<G.names.length->H[B+s]? =V9 (.list (vI (B6 G k s)))
 bl:H[B+G.names.length]? =V9 (.list (vR ((aC G.names.length).map λi=>B+i)))
 of:H[B+G.names.length+1]? =V9 (.list (vI ((aC k).map G.off)))
 ow:H[B+G.names.length+2]? =V9 (.list (vI (BG G k)))
theorem GI.grow {b H a:Hp} {c B k} (h:GI b c G B k H) (e:Ext H a):GI b c G B k a:=⟨h.toOb.grow e,λs d=>e.get (h.bb s d),e.get h.bl,e.get h.of,e.get h.ow⟩
theorem GI.next {d H c:Hp} {m B k} {e:Ru} (h:GI d m G B k H) (b:d.length<B) (l:fh G k e) (n:c[B+e.left]? =V9 (.list (vI (B6 G k e.left++[k])))) (p:c[B+G.names.length+1]? =V9 (.list (vI ((aC (k+1)).map G.off))))
  (r:c[B+G.names.length+2]? =V9 (.list (vI (BG G (k+1))))) (f:∀i o,i≠B+e.left->i≠B+G.names.length+1->i≠B+G.names.length+2->H[i]? =V9 o->c[i]? =V9 o):GI d m G B (k+1) c:=by
 haveI t:=l.left;refine⟨⟨λi hi=> ?_,f _ _ (tn (ff b ta)) (tn (t1 (tw (ff b ta)))) (tn (ff b tm)) h.at_⟩,λs a=> ?_,f _ _ (by lia) (tn ts) (tn tQ) h.bl,p,r⟩
 ·haveI a:i<d.length:=by
   rcases cZ i d.length with q|q
   ·exact q
   ·have hi:=(bQ q)▸hi;cases hi
  have g:=h.ext i hi
  induction j:H[i]? with
  |none=>rw[j]at g;have hi:=(R7 (g))▸hi;cases hi
  |some o=>rw[f i o (tn (ff (uV a b) ta)) (tn (t1 (tw (ff (uV a b) ta)))) (tn (ff (uV a b) tm)) j,←g,j]
 ·delta B6;rw[cG,cY];by_cases q:s=e.left
  ·rw[q];rw[n];congr 3;congr 1;simp[l.at_]
  ·rw[f _ _ (by lia) (by lia) (by lia) (h.bb s a)];delta B6;simp[l.at_,dJ q]
theorem yl {f j iL:Nat} {rr:List Nat} (hw:G.Wf) (hN:H[f]? =V9 (.list (G.names.map .str))) (hR:H[j]? =V9 (.list (vR rr))) (T:rr.length=G.rules.length) (hI:∀(k:Nat) a,G.rules[k]? =V9 a->∃i,rr[k]? =V9 i/\G8 H i k a)
  (hL:H[iL]? =V9 (.dict [])) {m:V} (K:∀g c R,Ext H c->kF c g R G->Q (.ref g) c):sj pd (F (n+1)) 13 Q [.ref f,.int G.tc,.ref j,.ref iL,m,.int G.start] H:=by
 injection 0 n H Q G f j iL rr m with hw hN hR T hI hL K;refine gj rfl ?_;refine Jw ?_;unfold Vb;have d:∀{l:List (Nat×V)},jq l.length 100=Wb->l.length<=100:=aJ;exists cN rfl (d rfl),cN rfl (d rfl),cN rfl (d rfl),cN rfl (d rfl),cN rfl (d rfl),cN rfl (d rfl);have L:Ob H 13 (cE (cE (cE (cE (cE (cE [] 8 (.ref f)) 9 (.int G.tc)) 17 (.ref j)) 27 (.ref iL)) 72 m) 73 (.int G.start)) (H++[.inst 13 (cE (cE (cE (cE (cE (cE [] 8 (.ref f)) 9 (.int G.tc)) 17 (.ref j)) 27 (.ref iL)) 72 m) 73 (.int G.start))]):=⟨aN _ _,aR⟩;have t:(H++[O.inst 13 (cE (cE (cE (cE (cE (cE [] 8 (.ref f)) 9 (.int G.tc)) 17 (.ref j)) 27 (.ref iL)) 72 m) 73 (.int G.start))]).length=H.length+1:=by simp
 generalize H++[O.inst 13 (cE (cE (cE (cE (cE (cE [] 8 (.ref f)) 9 (.int G.tc)) 17 (.ref j)) 27 (.ref iL)) 72 m) 73 (.int G.start))]=b at L t;have ag:=hw.n;have ah:=hw.r;have ai:(G.names.map V.str).length<=iH:=by rw[aB];exact c7 (by lia)
 exists(L.fld (a:=8) rfl rfl).app,cU (L.ext.get hN);refine jb (λk u c=>Ext b c/\c.length=b.length+k/\u=vR ((aC k).map λi=>b.length+i)/\∀i,i<k->c[b.length+i]? =V9 (.list [])) ⟨Ext.yc,rfl,rfl,by lia⟩ (λk a c h=>h.1.get (L.ext.get hN)) ?_ ?_
 ·intro k v X u c h KK r;obtain⟨hE,l,e_,hi⟩:=h;rw[e_];exists aQ (aP _);refine r _ _ ⟨hE.app,by simp;lia,?_,λi a=> ?_⟩
  ·rw[cG,bV,l,mi];rfl
  ·by_cases q:i=k
   ·rw[q];rw[←l,aR];rfl
   ·exact(aN _ _).get (hi i (by lia))
 ·intro u A h;injection 0 u A with h;obtain⟨hE,l,e_,hi⟩:=h;rw[e_];rw[aB]at l hi⊢;have hB:b.length=H.length+1:=t;have z:=(L.grow hE).grow (aN A [.list (vR ((aC G.names.length).map λi=>b.length+i))]);have w:(A++[O.list (vR ((aC G.names.length).map λi=>b.length+i))])[b.length+G.names.length]? =V9 (.list (vR ((aC G.names.length).map λi=>b.length+i))):=by rw[←l];exact aR
  have q:∀s,s<G.names.length->(A++[O.list (vR ((aC G.names.length).map λi=>b.length+i))])[b.length+s]? =V9 (.list []):=λs e=>(aN _ _).get (hi s e);have p:(A++[O.list (vR ((aC G.names.length).map λi=>b.length+i))]).length=b.length+G.names.length+1:=by simp;lia
  rw[l];generalize (A++[O.list (vR ((aC G.names.length).map λi=>b.length+i))])=E at z w q p;refine gC z.at_ rfl (d rfl) ?_;exists aQ (aP _);have aa:=(z.put (fs':=cE (cE (cE (cE (cE (cE (cE [] 8 (.ref f)) 9 (.int G.tc)) 17 (.ref j)) 27 (.ref iL)) 72 m) 73 (.int G.start)) 74 (.ref (b.length+G.names.length))));rw[bS,p];have M:=aa.grow (aN _ [.list []]);refine gC M.at_ rfl (d rfl) ?_;exists aQ (aP _);have ab:=(M.put (fs':=cE (cE (cE (cE (cE (cE (cE (cE [] 8 (.ref f)) 9 (.int G.tc)) 17 (.ref j)) 27 (.ref iL)) 72 m) 73 (.int G.start)) 74 (.ref (b.length+G.names.length))) 75 (.ref (b.length+G.names.length+1))));have N:=ab.grow (aN _ [.list []]);rw[bS,aH,bS,p];refine gC N.at_ rfl (d rfl) ?_;have ac:=(N.put (fs':=cE (cE (cE (cE (cE (cE (cE (cE (cE [] 8 (.ref f)) 9 (.int G.tc)) 17 (.ref j)) 27 (.ref iL)) 72 m) 73 (.int G.start)) 74 (.ref (b.length+G.names.length))) 75 (.ref (b.length+G.names.length+1))) 76 (.ref (b.length+G.names.length+1+[O.list []].length))));have x:∀{X Y Z:O} {i:Nat} {xs},i≠H.length->E[i]? =V9 (.list xs)->((((E.set H.length X)++[O.list []]).set H.length Y++[O.list []]).set H.length Z)[i]? =V9 (.list xs):=λy C=>
   (a8 (dJ y)).trans ((aN _ _).get ((a8 (dJ y)).trans ((aN _ _).get ((a8 (dJ y)).trans C))))
  have hG:GI H _ G b.length 0 _:=⟨ac,λs e=>x (by lia) (q s e),x (by lia) w,by
    refine(a8 (by lia)).trans ((aN _ _).get ((a8 (by lia)).trans ?_));have e:b.length+G.names.length+1=(E.set H.length (O.inst 13 (cE (cE (cE (cE (cE (cE (cE [] 8 (.ref f)) 9 (.int G.tc)) 17 (.ref j)) 27 (.ref iL)) 72 m) 73 (.int G.start)) 74 (.ref (b.length+G.names.length))))).length:=by rw[bS,p]
    rw[e];exact aR,by
    refine(a8 (by lia)).trans ?_;have e:b.length+G.names.length+2=(((E.set H.length (O.inst 13 (cE (cE (cE (cE (cE (cE (cE [] 8 (.ref f)) 9 (.int G.tc)) 17 (.ref j)) 27 (.ref iL)) 72 m) 73 (.int G.start)) 74 (.ref (b.length+G.names.length)))))++[O.list []]).set H.length (O.inst 13 (cE (cE (cE (cE (cE (cE (cE (cE [] 8 (.ref f)) 9 (.int G.tc)) 17 (.ref j)) 27 (.ref iL)) 72 m) 73 (.int G.start)) 74 (.ref (b.length+G.names.length))) 75 (.ref (b.length+G.names.length+1))))).length:=by rw[bS,aH,bS,p];rfl
    rw[e];exact aR⟩
  walk_at "w";generalize ((((E.set H.length _)++[O.list []]).set H.length _++[O.list []]).set H.length _)=H4 at hG;have aj:(vR rr).length<=iH:=by rw[eA,T];exact c7 (by lia)
  exists(hG.toOb.fld (a:=17) rfl rfl).app,cU (hG.ext.get hR);refine cQ (σ:=Option V) (λs=>xM H.length f (eI G.tc (xM j iL (V9 m::eI G.start [s,Wa])))) (λk s c=>GI H _ G b.length k c/\k<=G.rules.length) Wa rfl ⟨hG,aP _⟩ (λk s c h=>h.1.ext.get hR) ?_ ?_
  ·intro k v X s g h KK r;injection 0 k v s g KK with X h r;obtain⟨c, -⟩:=h;have D:=cB X;rw[eA,T]at D;have h:=hw.at_ (aF D);generalize G.rules[k]'D=a at h;obtain⟨ri,af,J⟩:=hI k a h.at_;rw[iV af]at X;rw[←aA X];have P:=J.ext c.ext;have e:=h.left;have ad:(vR ((aC G.names.length).map λi=>b.length+i))[a.left]? =V9 (.ref (b.length+a.left)):=iV (by rw[bC,ew e];rfl);have S:(vI (B6 G k a.left)).length<=iH:=fB (k:=20) (by unfold B6;refine aE (bI _ _) ?_;rw[aU];lia) (by decide);have U:=h.o60;exists(c.toOb.fld (a:=74) rfl rfl).app,P.left.app,bO c.bl ad,cF (c.bb _ e),P.num.app,cR (c.bb _ e) S;have Y:(g.set (b.length+a.left) (.list (vI (B6 G k a.left)++[.int k])))[b.length+G.names.length+1]? =V9 (.list (vI ((aC k).map G.off))):=(a8 (by lia)).trans c.of;have g2:(g.set (b.length+a.left) (.list (vI (B6 G k a.left)++[.int k])))[b.length+G.names.length+2]? =V9 (.list (vI (BG G k))):=(a8 (by lia)).trans c.ow;have g3:(g.set (b.length+a.left) (.list (vI (B6 G k a.left)++[.int k])))[b.length+a.left]? =V9 (.list (vI (B6 G k a.left++[k]))):=by rw[cH (by rw[c.bb _ e];rfl),iX]
   have g4:∀i o,i≠b.length+a.left->g[i]? =V9 o->(g.set (b.length+a.left) (.list (vI (B6 G k a.left)++[.int k])))[i]? =V9 o:=λi o y C=>(a8 (dJ y)).trans C;have g5:Ext H (g.set (b.length+a.left) (.list (vI (B6 G k a.left)++[.int k]))):=c.ext.put (by lia);have Z:Ob H 13 _ (g.set (b.length+a.left) (.list (vI (B6 G k a.left)++[.int k]))):=⟨g5,(a8 (by lia)).trans c.at_⟩;generalize g.set (b.length+a.left) (.list (vI (B6 G k a.left)++[.int k]))=B at Y g2 g3 g4 g5 Z;exists(Z.fld (a:=75) rfl rfl).app,cF Y,(Z.fld (a:=76) rfl rfl).app,len_list g2;rw[dL,BF];exists cR Y (by rw[dL,aB,aU];exact c7 (by lia));rw[iX];have I:(B.set (b.length+G.names.length+1) (.list (vI ((aC k).map G.off++[G.off k]))))[b.length+G.names.length+2]? =V9 (.list (vI (BG G k))):=(a8 (by lia)).trans g2;have f2:(B.set (b.length+G.names.length+1) (.list (vI ((aC k).map G.off++[G.off k]))))[b.length+G.names.length+1]? =V9 (.list (vI ((aC (k+1)).map G.off))):=by rw[cH (by rw[Y];rfl),cG,bV];rfl
   have f3:∀i o,i≠b.length+G.names.length+1->B[i]? =V9 o->(B.set (b.length+G.names.length+1) (.list (vI ((aC k).map G.off++[G.off k]))))[i]? =V9 o:=λi o y C=>(a8 (dJ y)).trans C;have f4:Ob H 13 _ (B.set (b.length+G.names.length+1) (.list (vI ((aC k).map G.off++[G.off k])))):=⟨g5.put (by lia),(a8 (by lia)).trans Z.at_⟩;generalize B.set (b.length+G.names.length+1) (.list (vI ((aC k).map G.off++[G.off k])))=y at I f2 f3 f4;have R:=J.ext f4.ext;have ak:=ez I;exists(f4.fld (a:=76) rfl rfl).app,nN I,R.num.app,aQ one_le,(R.ext (aN _ _)).right.app,sV,gZ;rw[dL];exists yq (v:=.int k) aR (by have:=h.len;lia);have W:aY (a.right.length+1) (V.int k)=vI (aY (a.right.length+1) k):=by unfold vI;rw[kI]
   rw[W];have C:=(aN y [.list [.int k]]).app (l:=[.list (vI (aY (a.right.length+1) k))]);have d2:(y++[O.list [V.int k]]++[O.list (vI (aY (a.right.length+1) k))])[(y++[O.list [V.int k]]).length]? =V9 (.list (vI (aY (a.right.length+1) k))):=aR;have d3:y.length<=(y++[O.list [V.int k]]).length:=by simp
   generalize (y++[O.list [V.int k]]++[O.list (vI (aY (a.right.length+1) k))])=H8 at C d2;generalize (y++[O.list [V.int k]]).length=qx at d2 d3;exists rj (by lia) (C.get I) d2 (fB (k:=60) (by rw[BF];exact U) (by decide)) (fB (k:=3) (by rw[fP];have:=h.len;exact td this) (by decide));have ae:vI (BG G k)++vI (aY (a.right.length+1) k)=vI (BG G (k+1)):=by rw[Fd h.at_];simp[vI]
   rw[ae];refine r (V9 (.ref ri)) _ ⟨c.next (ff ts (tf t)) h ?_ ?_ ?_ ?_,D⟩
   ·exact(a8 (by lia)).trans (C.get (f3 _ _ (by lia) g3))
   ·exact(a8 (by lia)).trans (C.get f2)
   ·rw[cH (by rw[C.get I];rfl)]
   ·intro i o e1 e2 e3 e4;exact(a8 (dJ e3)).trans (C.get (f3 _ _ e2 (g4 _ _ e1 e4)))
  ·intro s g h;injection 0 s g with h;haveI c:=h.1;rw[eA,T]at c;exists(c.toOb.fld (a:=76) rfl rfl).app<|len_list c.ow
   refine gC c.at_ rfl (d rfl) ?_;haveI o:∀{i:Nat} {xs} {X:List (Nat×V)},g[i]? =V9 (.list xs)->(g.set H.length (.inst 13 X))[i]? =V9 (.list xs):=λe=>(a8 (er c.at_ e (by simp))).trans e;haveI a:=c.toOb.put (fs':=cE (cE (cE (cE (cE (cE (cE (cE (cE (cE [] 8 (.ref f)) 9 (.int G.tc)) 17 (.ref j)) 27 (.ref iL)) 72 m) 73 (.int G.start)) 74 (.ref (b.length+G.names.length))) 75 (.ref (b.length+G.names.length+1))) 76 (.ref (b.length+G.names.length+1+[O.list []].length))) 77 (.int (vI (BG G G.rules.length)).length));refine⟨rfl,K H.length _ ⟨f,j,iL,b.length+G.names.length,b.length+G.names.length+1,b.length+G.names.length+2,rr,(aC G.names.length).map λi=>b.length+i⟩ a.ext ⟨mF a.at_ rfl,a.fld rfl rfl,a.ext.get hN,a.fld rfl rfl,a.fld rfl rfl,a.ext.get hR,T,λk r D=> ?_,a.fld rfl rfl,a.ext.get hL,a.fld rfl rfl,o c.bl,λs e=>⟨_,by rw[bC,ew e];rfl,o (c.bb s e)⟩,a.fld rfl rfl,o c.of,a.fld rfl rfl,?_⟩⟩
   ·obtain⟨i,e,v⟩:=hI k r D;exact⟨i,e,v.ext a.ext⟩
   ·haveI:=o (X:=cE (cE (cE (cE (cE (cE (cE (cE (cE (cE [] 8 (.ref f)) 9 (.int G.tc)) 17 (.ref j)) 27 (.ref iL)) 72 m) 73 (.int G.start)) 74 (.ref (b.length+G.names.length))) 75 (.ref (b.length+G.names.length+1))) 76 (.ref (b.length+G.names.length+1+[O.list []].length))) 77 (.int (vI (BG G G.rules.length)).length)) c.ow;haveI e:BG G G.rules.length=G.owners:=by delta BG Gr.owners;rw[bZ]
    rw[e]at this⊢;exact this
end
end
section
noncomputable def vS (l:List (List Nat)):List V:=l.map V.str
theorem iU {l:List (List Nat)}:(vS l).length=l.length:=by rw[aB]
theorem z4 {l:List (List Nat)} {x:List Nat}:vS l++[.str x]=vS (l++[x]):=by simp[vS]
theorem MP {l:List (List Nat)} {k:Nat} {v:V} (h:(vS l)[k]? =V9 v):∃x,l[k]? =V9 x/\v= .str x:=by
 injection 0 l k v with h;unfold vS at h;rw[bC]at h
 induction q:l[k]? with
 |none=>rw[q]at h;exact nn h
 |some x=>rw[q]at h;rw[←aA h];exact⟨x,rfl,rfl⟩
theorem lW {H:Hp} {x:List Nat}:∀{l:List (List Nat)},g6 (λy=>g0 H 6 y (.str x)) (vS l)=V9 (decide (x∈l)):=by
 intro l
 induction l with
 |nil=>exact rfl
 |cons j r c=>
  skip
  show(match g0 H 6 (.str j) (.str x),g6 (λy=>g0 H 6 y (.str x)) (vS r)with|some a,V9 b=>V9 (a||b)|_,_=>Wa)=_;rw[c,qk];simp only[bD,oG];congr 2;exact decide_eq_decide.2 eq_comm
theorem Dg {H:Hp} {x:List Nat}:∀{l:List (List Nat)},x∈l->qa (λy=>g0 H 6 y (.str x)) (vS l)=V9 (l.idxOf x):=by
 intro l
 induction l with
 |nil=>intro h;cases h
 |cons j r a=>
  intro h;show(match g0 H 6 (.str j) (.str x)with|some Wb=>V9 0|some Wc=>(qa (λy=>g0 H 6 y (.str x)) (vS r)).map (·+1)|none=>Wa)=_;rw[qk,HN];by_cases q:j=x
  ·rw[q];simp
  ·haveI b:x∈r:=(bD.1 h).resolve_left (dJ q);rw[decide_eq_false q,a b];have:(j==x)=Wc:=by simpa using q
   simp[this]
abbrev mJ:=List (List Nat×List (List Nat))
noncomputable def vP (prs:mJ):List V:=prs.map λp=>.tup [.str p.1,.tup (vS p.2)]
theorem z6 {l:mJ} {k:Nat} {v:V} (h:(vP l)[k]? =V9 v):∃x,l[k]? =V9 x/\v= .tup [.str x.1,.tup (vS x.2)]:=by
 injection 0 l k v with h;unfold vP at h;rw[bC]at h
 induction q:l[k]? with
 |none=>rw[q]at h;exact nn h
 |some x=>rw[q]at h;rw[←aA h];exact⟨x,rfl,rfl⟩
noncomputable def oA:List (List Nat):=[[36,101,110,100],[101,114,114,111,114],[36,117,110,100,101,102,105,110,101,100]]
noncomputable def oa:List Nat:=[36,97,99,99,101,112,116]
noncomputable def j4 (l:List (List Nat)) (s:List Nat):List (List Nat):=if s∈l then l else l++[s]
noncomputable def dS (prs:mJ):List (List Nat):=prs.foldl (λa p=>j4 a p.1) []
noncomputable def eZ (L a:List (List Nat)) (nm:List Nat):List (List Nat):=if nm∈L then a else j4 a nm
noncomputable def gG (L:List (List Nat)) (prs:mJ):List (List Nat):=prs.foldl (λa p=>p.2.foldl (eZ L) a) oA
noncomputable def iw (prs:mJ):List (List Nat):=gG (dS prs) prs++[oa]++dS prs
noncomputable def ix (prs:mJ) (s:List Nat):Nat:=(iw prs).idxOf s
noncomputable def rN (prs:mJ):Nat:=(gG (dS prs) prs).length
noncomputable def CW (prs:mJ) (p:List Nat×List (List Nat)):Ru:=⟨ix prs p.1,p.2.map (ix prs),yx (rN prs) (p.2.map (ix prs))⟩
noncomputable def eY (prs:mJ) (st:List Nat):Gr:=⟨iw prs,rN prs,⟨rN prs,[ix prs st,0],0⟩::prs.map (CW prs),ix prs st⟩
structure RM (prs:mJ) (st:List Nat):Prop where
 len:prs.length<=19
 q:∀p∈prs,(∃c,p.1=81::c)\/(∃c,p.1=90::c)
 two:∀p∈prs,p.2.length<=2
 inn:∀p∈prs,∀nm∈p.2,nm∈iw prs
 TD:∀p∈prs,p.1∈iw prs
 beg:st∈dS prs
 wf:(eY prs st).Wf
theorem ty {a b c:V}:[a,b,c].length<=iH:=c7 (by decide:3<=60000)
theorem xb {H:Hp} {s:List Nat} {Q:Bool->Prop} (K:Q Wb):iy .mV (.str s) .none H Q:=FS (λe=>(by cases e)) K
theorem tV {H:Hp} {a:Nat} {l:List Nat} {Q:V->Hp->Prop} (K:Q (.str [a]) H):rn .D3 (.str (a::l)) (.int 1) H Q:=rn.str K
theorem G1 {l:List (List Nat)} {s:List Nat}:(j4 l s).length<=l.length+1:=by delta j4;split<;>simp
theorem xU {L l:List (List Nat)} {s:List Nat}:(eZ L l s).length<=l.length+1:=by
 delta eZ;split
 ·exact ta
 ·exact G1
section
variable {n:Nat} {H:Hp} {Q:V->Hp->Prop} {prs:mJ} {st:List Nat} {pr:Nat}
theorem ka {i:Nat} {l:List (List Nat)} {x:List Nat} (h:H[i]? =V9 (.list (vS l))) (b:l.length<=60000) (a:x∈l) (K:Q (.int (l.idxOf x:Nat)) H):hY 0 (.ref i) 2 [.str x] H Q:=
 yE h lW (Dg a) K
theorem RM.ns (a:RM prs st):(iw prs).length<=20:=a.wf.n
theorem iK.js {H:Hp} {i j a:Nat} {v:V} {xs:List V} {o:O} (h:iK H i a v) (g:H[j]? =V9 (.list xs)):iK (H.set j o) i a v:=by obtain⟨c,d,b,e,f⟩:=h;exact⟨c,d,(a8 (er g b (by simp))).trans b,e,f⟩
theorem G8.js {H:Hp} {i j k:Nat} {b:Ru} {xs:List V} {o:O} (h:G8 H i k b) (a:H[j]? =V9 (.list xs)):G8 (H.set j o) i k b:=
 ⟨h.num.js a,h.left.js a,h.right.js a,h.lv.js a,h.Uu.js a⟩
structure RI (H0:Hp) (G:Gr) (k:Nat) (rrs:List Nat) (H:Hp):Prop where
 ext:Ext H0 H
 L:H[H0.length]? =V9 (.list (vR rrs))
 len:rrs.length=k
 rr:∀(j i:Nat) ru,rrs[j]? =V9 i->G.rules[j]? =V9 ru->G8 H i j ru
structure TS (H0:Hp) (a:List (List Nat)) (H:Hp):Prop where
 ext:Ext H0 H
 L:H[H0.length]? =V9 (.list (vS a))
theorem K5 (P:H[pr]? =V9 (.list (vP prs))) (B:RM prs st) (K:∀g b R,Ext H b->kF b g R (eY prs st)->Q (.ref g) b):
  F (n+2) 53 [.ref pr,.str st] H Q:=by
 injection 0 n H Q prs st pr with P B K;refine Jn ?_;unfold U2 Tq SA;have ad:=B.len;have ao:(vP prs).length<=iH:=by unfold vP;rw[aB];exact c7 (by lia)
 have Z:=aN H [.list []];exists aQ (aP _),cU (Z.get P);refine cQ (σ:=Option V×Option V) (λs=>kP pr (V9 (.str st)::kP H.length [s.1,s.2,Wa,Wa,Wa,Wa,Wa,Wa]))
  (λk s b=>Ext H b/\b[H.length]? =V9 (.list (vS ((prs.take k).foldl (λa p=>j4 a p.1) [])))/\((prs.take k).foldl (λa p=>j4 a p.1) []).length<=k) (Wa,Wa) rfl ⟨Z,aR,aK _⟩ (λk s b h=>h.1.get P) ?_ ?_
 ·intro k v r s m h Y f;injection 0 k v s m Y with r h f;obtain⟨t,b,d⟩:=h;obtain⟨⟨nm,e⟩,y,rfl⟩:=z6 r;injection 0 nm e with y r;have T:=cB y;have g:(prs.take (k+1)).foldl (λa p=>j4 a p.1) []=j4 ((prs.take k).foldl (λa p=>j4 a p.1) []) nm:=by
   rw[bX,y];simp only[eB,d6,dG,gy]
  rw[g]at f;generalize (prs.take k).foldl (λa p=>j4 a p.1) []=a at b d f;have i:∀X,eQ pd (F (n+1)) #[.ite (.cmp .iF (.nm 3) (.nm 2)) #[.expr (.cM (.nm 2) 0 #[.nm 3])] .nil] [V9 (.ref pr),V9 (.str st),V9 (.ref H.length),V9 (.str nm),V9 (.tup (vS e)),Wa,Wa,Wa,Wa,Wa,Wa] m (jL X Y):=by
   intro X;exists i9 b lW;by_cases q:nm∈a
   ·exists kv q;refine f (V9 (.str nm),V9 (.tup (vS e))) _ ⟨t,?_,?_⟩
    ·rw[j4,if_pos q];exact b
    ·rw[j4,if_pos q];lia
   ·exists nT q,cF b,cR b (by rw[iU];exact c7 (by lia));refine f (V9 (.str nm),V9 (.tup (vS e))) _ ⟨t.put (aK _),?_,?_⟩
    ·rw[j4,if_neg q,cH (by rw[b];rfl),z4]
    ·rw[j4,if_neg q,aH,cP];lia
  walk_at "w";rcases B.q _ (dq y).2 with⟨c,j⟩|⟨c,j⟩
  ·have h:nm=81::c:=j;subst h;exists Ke (by simp),tV,aQ ty,AG (b:=Wc) rfl;exact i _
  ·have h:nm=90::c:=j;subst h;exists Ke (by simp),tV,aQ ty,AG (b:=Wc) rfl;exact i _
 ·intro s m h;injection 0 s m with h;obtain⟨t,b,d⟩:=h;have S:(vP prs).length=prs.length:=by unfold vP;rw[aB]
  rw[S,bZ]at b d;have A:m[H.length]? =V9 (.list (vS (dS prs))):=b;have ak:(dS prs).length<=prs.length:=d;clear b d;have aj:(dS prs).length<=60000:=by lia
  exists xb,i9 A lW,kv B.beg,Fz;have h3:TS m oA (m++[.list (vS oA)]):=⟨aN _ _,aR⟩;show w9 Wc Wc (.ref pr) (m++[.list (vS oA)]) (Py (yO _ _ _ _ _ _) (m++[.list (vS oA)]));generalize m++[O.list (vS oA)]=H3 at h3;exists cU (h3.ext.get (t.get P));refine cQ (σ:=Option V×Option V×Option V) (λs=>kP pr (V9 (.str st)::kP H.length (s.1::s.2.1::V9 (.str st)::kP m.length [s.2.2,Wa,Wa,Wa])))
   (λk s b=>TS m (gG (dS prs) (prs.take k)) b/\(gG (dS prs) (prs.take k)).length<=3+2*k) (s.1,s.2,Wa) rfl ⟨h3,aK _⟩ (λk s b h=>h.1.ext.get (t.get P)) ?_ ?_
  ·intro k v r s C h Y f;injection 0 k v s C Y with r h f;obtain⟨N,d⟩:=h;obtain⟨⟨nm,e⟩,y,rfl⟩:=z6 r;injection 0 nm e with y r;have T:=cB y;have I:e.length<=2:=B.two _ (dq y).2;have g:gG (dS prs) (prs.take (k+1))=e.foldl (eZ (dS prs)) (gG (dS prs) (prs.take k)):=by
    unfold gG;rw[bX,y];simp only[eB,d6,dG,gy]
   rw[g]at f;generalize gG (dS prs) (prs.take k)=a at N d f;exists rf;refine cQ (σ:=Option V) (λu=>kP pr (V9 (.str st)::kP H.length (V9 (.str nm)::V9 (.tup (vS e))::V9 (.str st)::kP m.length [u,Wa,Wa,Wa])))
    (λj u b=>TS m ((e.take j).foldl (eZ (dS prs)) a) b/\((e.take j).foldl (eZ (dS prs)) a).length<=3+2*k+j) s.2.2 rfl ⟨N,d⟩ (λ_ _ _ _=>trivial) ?_ ?_
   ·intro j v r u w h E b;injection 0 j v u w E with r h b;obtain⟨h,c⟩:=h;obtain⟨x,i,rfl⟩:=MP r;injection 0 x with i r;have hj:=cB i;have o:(e.take (j+1)).foldl (eZ (dS prs)) a=eZ (dS prs) ((e.take j).foldl (eZ (dS prs)) a) x:=by
     rw[bX,i];simp only[eB,d6,dG,gy]
    rw[o]at b;generalize (e.take j).foldl (eZ (dS prs)) a=z at h c b;have v:=xU (L:=dS prs) (l:=z) (s:=x);exists i9 (h.ext.get A) lW;by_cases q:x∈dS prs
    ·exists Cg q;refine b (V9 (.str x)) _ ⟨?_,by lia⟩;rw[eZ,if_pos q];exact h
    ·exists Ch q,i9 h.L lW;by_cases p:x∈z
     ·exists kv p;refine b (V9 (.str x)) _ ⟨?_,by lia⟩;rw[eZ,if_neg q,j4,if_pos p];exact h
     ·exists nT p,cF h.L,cR h.L (by rw[iU];exact c7 (by lia));refine b (V9 (.str x)) _ ⟨?_,by lia⟩;rw[eZ,if_neg q,j4,if_neg p];exact⟨h.ext.put (aK _),by rw[cH (by rw[h.L];rfl),z4]⟩
   ·intro u w h;obtain⟨h,c⟩:=h;rw[iU,bZ]at h c;exact f (V9 (.str nm),V9 (.tup (vS e)),u) _ ⟨h,by lia⟩
  ·intro s C h;injection 0 s C with h;obtain⟨N,d⟩:=h;rw[S,bZ]at N d;have ae:=B.ns;have an:(gG (dS prs) prs).length<=60000:=by lia
   exists len_list N.L,aQ one_le;rw[iU];exists wZ ((aN C _).get N.L) aR (by rw[iU];exact an) one_le;have e1:vS (gG (dS prs) prs)++[V.str [36,97,99,99,101,112,116]]=vS (gG (dS prs) prs++[oa]):=z4;rw[e1];have X:Ext m (C++[.list [.str [36,97,99,99,101,112,116]]]++[.list (vS (gG (dS prs) prs++[oa]))]):=N.ext.app.app;exists wZ aR (X.get A) (by rw[iU,aH,cP];exact c7 (by lia)) (by rw[iU];exact aj);have e2:vS (gG (dS prs) prs++[oa])++vS (dS prs)=vS (iw prs):=by simp[vS,iw]
   rw[e2];have aa:Ext m (C++[.list [.str [36,97,99,99,101,112,116]]]++[.list (vS (gG (dS prs) prs++[oa]))]++[.list (vS (iw prs))]):=X.app;have o:(C++[O.list [V.str [36,97,99,99,101,112,116]]]++[.list (vS (gG (dS prs) prs++[oa]))]++[.list (vS (iw prs))])[(C++[O.list [V.str [36,97,99,99,101,112,116]]]++[O.list (vS (gG (dS prs) prs++[oa]))]).length]? =V9 (.list (vS (iw prs))):=aR;generalize (C++[O.list [V.str [36,97,99,99,101,112,116]]]++[O.list (vS (gG (dS prs) prs++[oa]))]).length=iN at o;generalize (C++[O.list [V.str [36,97,99,99,101,112,116]]]++[O.list (vS (gG (dS prs) prs++[oa]))]++[O.list (vS (iw prs))])=H6 at aa o;have ac:st∈iw prs:=by unfold iw;exact aT _ B.beg
   exists jw o,ka o (by lia) ac,aQ dN;have e3:[V.int ((iw prs).idxOf st:Nat),V.int 0]=vI [ix prs st,0]:=rfl;rw[e3];refine yk (k:=0) (l:=rN prs) (rs:=[ix prs st,0]) (lv:=0) λM D ag=> ?_;exists aQ one_le;have h8:RI M (eY prs st) 1 [H6.length] (M++[.list [.ref H6.length]]):=⟨aN _ _,aR,rfl,λj i J a b=>by
    induction j with
    |zero=>rw[←aA a];rw[←aA b];exact ag.ext (aN _ _)
    |succ j=>exact nn a⟩
   generalize M++[O.list [V.ref H6.length]]=H8 at h8;have z:=t.trans (aa.trans D);exists cU (h8.ext.get (z.get P));refine cQ (σ:=Option V×Option V×Option V) (λu=>kP pr (V9 (.str st)::kP H.length (u.1::u.2.1::V9 (.str st)::kP iN (s.2.2::eI (rN prs) (kP M.length [u.2.2])))))
    (λk u b=>∃h,RI M (eY prs st) (k+1) h b) (s.1,s.2.1,Wa) rfl ⟨_,h8⟩ (λk s b h=>by obtain⟨_,h⟩:=h;exact h.ext.get (z.get P)) ?_ ?_
   ·intro k v r u W h Y f;obtain⟨h,p⟩:=h;obtain⟨⟨nm,e⟩,y,e_⟩:=z6 r;rw[e_];have T:=cB y;have R:=(dq y).2;have I:e.length<=2:=B.two _ R;have w:=p.ext.get (D.get o);have ah:∀x∈e,x∈iw prs:=B.inn _ R;have al:nm∈iw prs:=B.TD _ R;exists rf;refine hX (λv=>match v with| .str x=>.int (ix prs x:Nat)|v=>v) trivial ?_ ?_
    ·intro v r E b;obtain⟨x,i,rfl⟩:=aM.1 r;exists jw w,ka w (by lia) (ah x i);exact b
    have e4:(vS e).map (λv=>match v with| .str x=>V.int (ix prs x:Nat)|v=>v)=vI (e.map (ix prs)):=by unfold vS vI;rw[cI,cI];rfl
    rw[e4];have ai:(e.map (ix prs)).length<=2:=by rw[aB];exact I
    exists tuple_list aR;have c:RI M (eY prs st) (k+1) h (W++[.list (vI (e.map (ix prs)))]):=⟨p.ext.app,(aN _ _).get p.L,p.len,λj i J a b=>(p.rr j i J a b).ext (aN _ _)⟩;generalize W++[O.list (vI (e.map (ix prs)))]=U at c;have E:=c.ext.get (D.get o);haveI am:(vR h).length<=iH:=by rw[eA,c.len];exact c7 (tg (ff T ad))
    exists cF c.L,len_list c.L,jw E<|ka E (tb ae) al,OK (tc:=rN prs) ai
    rw[eA,c.len];refine yk (k:=k+1) (l:=ix prs nm) λaf x ab=> ?_;have g:RI M (eY prs st) (k+1) h af:=⟨c.ext.trans x,x.get c.L,c.len,λj i J a b=>(c.rr j i J a b).ext x⟩;exists cR g.L am;rw[mi];refine f (V9 (.str nm),V9 (.tup (vS e)),V9 (.tup (vI (e.map (ix prs))))) _ ⟨_,g.ext.put (aK _),cH (by rw[g.L];rfl),by rw[aH,g.len];rfl,λj i J a b=> ?_⟩;by_cases q:j<h.length
    ·rw[bH q]at a;exact(g.rr j i J a b).js g.L
    ·rw[bR (tv q)]at a;haveI hl:=cB a;haveI hj:j=k+1:=tK q hl g.len;subst hj;rw[g.len,eS]at a;rw[←aA a];have j:(eY prs st).rules[k+1]? =V9 (CW prs (nm,e)):=by
      rw[bC,y];rfl
     rw[j]at b;rw[←aA b];exact ab.js g.L
   ·intro u W h;obtain⟨h,p⟩:=h;have p:=(S)▸p;have w:=p.ext.get (D.get o);have a:=aN W [.dict []];exists jw (a.get w)<|ka (a.get w) (by lia) ac
    haveI c:(eY prs st).rules.length=prs.length+1:=by show(prs.map (CW prs)).length+1=_;rw[aB]
    refine yl (G:=eY prs st) (iL:=W.length) B.wf (a.get w) (a.get p.L) (by rw[p.len,c]) (λk J T=> ?_) aR λg U R b e=> ?_
    ·haveI b:=cB T;rw[c,←p.len]at b;obtain⟨i,hi⟩:=fp b;exact⟨i,hi,(p.rr k i J hi T).ext a⟩
    ·walk_at "w";exact K g U R (z.trans (p.ext.trans (a.trans b))) e
end
end
section
def rB (H:Hp) (p c:Nat):Prop:=∃a b:Nat,b<=c/\H[p]? =V9 (.list [.int a,.int b])
def fL (p:Nat) (H a:Hp):Prop:=∀i,i≠p->(H[i]?).isSome=Wb->a[i]? =H[i]?
theorem fL.get {p:Nat} {H a:Hp} (h:fL p H a) {i:Nat} {o:O} (c:i≠p) (b:H[i]? =V9 o):a[i]? =V9 o:=(h i c (by rw[b];rfl)).trans b
theorem fL.trans {p:Nat} {A B C:Hp} (h:fL p A B) (k:fL p B C):fL p A C:=λi hi b=>by haveI a:=h i hi b;rw[k i hi (by rw[a];exact b),a]
theorem fL.ext {p:Nat} {A B C:Hp} (h:fL p A B) (e:Ext B C):fL p A C:=λi hi b=>by haveI a:=h i hi b;rw[e i (by rw[a];exact b),a]
theorem fL.id {p:Nat} {A:Hp}:fL p A A:=λ_ _ _=>rfl
theorem rB.ext {H d:Hp} {p c:Nat} (h:rB H p c) (e:Ext H d):rB d p c:=by obtain⟨a,b,f,g⟩:=h;exact⟨a,b,f,e.get g⟩
section
variable {n:Nat} {H:Hp} {Q:V->Hp->Prop} {p c:Nat}
theorem Rs {xs:List Int} (e:xs.length<=63) (K:∀q a,Ext H a->H.length<=q->rB a q 0->Q (.ref q) a):F (n+1) 75 [.ro (xs.map .int)] H Q:=by
 injection 0 n H Q xs with e K;refine I1 ?_;delta UG;walk_at "w";refine rn.ro (j:=63) ?_;haveI g:(xs.map V.int).take 63=vZ xs:=by rw[nj (by rw[aB];exact e)];rfl
 rw[g];refine cU aR ?_;refine cQ (σ:=Int×Option V) (λs=>V9 (.ro (xs.map .int))::eI s.1 [s.2]) (λk s a=>a=H++[.list (vZ xs)]/\0<=s.1) (1,Wa) rfl ⟨rfl,by decide⟩ (λk s a h=>by rw[h.1];exact aR) ?_ ?_
 ·intro k v c s a h f b;injection 0 k v s a f with c h b;obtain⟨rfl,a⟩:=h;haveI d:=cB c;rw[kW]at d;rw[mh d]at c;rw[←aA c];exists zT (bG (by decide)),Oa,OU,zT (bL (by decide)),nD;by_cases q:xs.getD k 0<0
  ·refine xn q (nD ?_);exact b (_,V9 (.int (xs.getD k 0))) _ ⟨rfl,by lia⟩
  ·refine xo q (nD ?_);exact b (_,V9 (.int (xs.getD k 0))) _ ⟨rfl,by lia⟩
 ·intro s a h;obtain⟨rfl,a⟩:=h;exists aQ dN;refine K _ _ (aN _ _).app (aN _ _).len ⟨s.1.toNat,0,aK _,?_⟩;rw[aR,eU a];rfl
theorem rt {many:Nat} (o:0<many) (t:many<=1000) (b:rB H p c) (s:c<1000) (K:∀(d:Nat) a,d<many->a.length=H.length->fL p H a->rB a p (c+1)->Q (.int d) a):
  F (n+1) 76 [.ref p,.int many] H Q:=by
 injection 0 n H Q p c many with o t b s K;refine I0 ?_;unfold UF;obtain⟨a,b,m,h⟩:=b;injection 0 a b with m h;have k:∀(a b:Nat) g,b<=c+1->g.length=H.length->fL p H g->g[p]? =V9 (.list [.int a,.int b])->∀x,eQ pd (F n) #[.asg 2 (.bin .mod (.sub (.nm 0) (.int 0)) (.nm 1)),.i6 (.nm 0) (.int 0) (.bin .fdiv (.sub (.nm 0) (.int 0)) (.nm 1)),.ret (.nm 2)] [V9 (.ref p),V9 (.int many),x] g (pf Q):=by
  intro a b g k f e d x;exists jr d,MF (by lia) (by lia),jr d,HS (by lia) (by lia),fR (j:=0) d (ig 1);haveI q:((a:Nat):Int) % (many:Nat)=((a % many:Nat):Int):=by rfl
  haveI r:((a:Nat):Int) / (many:Nat)=((a / many:Nat):Int):=by rfl
  rw[q,r];refine K (a % many) _ (Nat.mod_lt _ o) (by rw[bS,f]) (λi hi l=>by rw[a8 (dJ hi)];exact e i hi l) ⟨a / many,b,k,?_⟩;rw[cH (by rw[d];rfl)];rfl
 exists jr h;by_cases q:a<many
 ·exists li (dP.2 q),lG h,gZ,fR (j:=1) h (dt 1);haveI d:(H.set p (.list ([V.int a,V.int b].set 1 (.int (b+1:Nat)))))[p]? =V9 (.list [.int a,.int (b+1:Nat)]):=by rw[cH (by rw[h];rfl)];rfl
  haveI f:(H.set p (.list ([V.int a,V.int b].set 1 (.int (b+1:Nat))))).length=H.length:=bS ..;haveI e:fL p H (H.set p (.list ([V.int a,V.int b].set 1 (.int (b+1:Nat))))):=λi hi l=>a8 (dJ hi);generalize H.set p (.list ([V.int a,V.int b].set 1 (.int (b+1:Nat))))=g at d f e;exists jr d,nD,lG d,ME (by lia) (by lia),zT (bL (by decide)),nD,fR (j:=0) d (ig 1);haveI r:((a:Nat):Int)+104729+7919*((b+1:Nat):Int) ^ 5=((a+104729+7919*(b+1) ^ 5:Nat):Int):=by rfl
  rw[r];exact k _ (b+1) _ (zD m ts) (by rw[bS,f]) (λi hi l=>by rw[a8 (dJ hi)];exact e i hi l) (by rw[cH (by rw[d];rfl)];rfl) Wa
 ·refine jg (ed.2 (dQ.2 (tv ‹_›))) ?_;exact k a b H (kD m ta) rfl fL.id h Wa
end
end
section
structure gE (H:Hp) (d:Nat) (rows:List (List Int)):Prop where
 ex:∃ls,H[d]? =V9 (.list (vR ls))/\ls.length=rows.length/\∀(i l:Nat) row,ls[i]? =V9 l->rows[i]? =V9 row->H[l]? =V9 (.list (vZ row))
theorem gE.ext {H c:Hp} {d rows} (h:gE H d rows) (e:Ext H c):gE c d rows:=by obtain⟨ls,f,g,j⟩:=h.ex;exact⟨ls,e.get f,g,λi l r a b=>e.get (j i l r a b)⟩
theorem gE.at_ {H:Hp} {d rows} {i:Nat} (h:gE H d rows) (hi:i<rows.length):∃q l,H[d]? =V9 (.list q)/\q.length=rows.length/\q[i]? =V9 (.ref l)/\H[l]? =V9 (.list (vZ (rows.getD i []))):=by obtain⟨ls,c,a,e⟩:=h.ex;obtain⟨l,b⟩:=fp (l:=ls) (i:=i) (ff hi (tf a));exact⟨vR ls,l,c,by rw[eA,a],iV b,e i l _ b (dX (d:=[]) hi)⟩
theorem ry {H:Hp} {g:Int}:∀{l:List Nat},g6 (λy=>g0 H 6 y (.int g)) (vI l)=V9 (decide (0<=g/\g.toNat∈l)):=by
 intro l
 induction l with
 |nil=>simp[vI,g6]
 |cons j r c=>
  skip
  show(match g0 H 6 (.int j) (.int g),g6 (λy=>g0 H 6 y (.int g)) (vI r)with|some a,V9 b=>V9 (a||b)|_,_=>Wa)=_;rw[c,xl];simp only[←oG];congr 1;refine decide_eq_decide.2 ⟨λh=> ?_,λh=> ?_⟩
  ·rcases h with h|h
   ·exact⟨by lia,by rw[←h];exact .head _⟩
   ·exact⟨h.1,bA _ h.2⟩
  ·rcases bD.1 h.2 with e|e
   ·left;lia
   ·exact bG ⟨h.1,e⟩
noncomputable def wS (rows:List (List Int)) (met:List Nat) (i:Nat):List Nat:=((rows.getD i []).filter λg=>decide (0<=g/\g.toNat∉met)).map Int.toNat
noncomputable def yJ (rows:List (List Int)) (a:List Nat) (i:Nat):List Int:=(rows.getD i []).filter λg=>decide (0<=g/\g.toNat∈a)
noncomputable def iC (rows:List (List Int)) (s:List Nat×List Nat) (i:Nat):List Nat×List Nat:=
 (if i∈s.1 then s.1++wS rows s.1 i else s.1,if i∉s.2/\yJ rows s.2 i≠[] then s.2++[i] else s.2)
noncomputable def jJ (rows:List (List Int)) (s:List Nat×List Nat):List Nat×List Nat:=(aC rows.length).foldl (iC rows) s
noncomputable def q8 (rows:List (List Int)) (a:List Bool):List Nat:=(aC rows.length).filter λi=>a.getD i Wc
noncomputable def ib (rows:List (List Int)) (a:List Bool):List Nat×List Nat:=(aC rows.length).foldl (λs _=>jJ rows s) ([0],q8 rows a)
noncomputable def kept (rows:List (List Int)) (a:List Bool):List Nat:=(ib rows a).1.filter λi=>decide (i∈(ib rows a).2)
noncomputable def ia (rows:List (List Int)) (a:List Bool):List (List Int):=(aC rows.length).map λi=>(rows.getD i []).map λg=>if i∈kept rows a/\0<=g/\g.toNat∈kept rows a then g else-1
noncomputable def lP (rows:List (List Int)) (a:List Bool):List Bool:=(aC rows.length).map λi=>a.getD i Wc&&decide (i∈kept rows a)
structure LI (H0:Hp) (lr mr:Nat) (s:List Nat×List Nat) (H:Hp):Prop where
 ext:Ext H0 H
 M:H[mr]? =V9 (.list (vI s.1))
 L:H[lr]? =V9 (.list (vI s.2))
 ne:mr≠lr
 lo:H0.length<=lr
theorem LI.grow {b H a:Hp} {c d s} (h:LI b c d s H) (e:Ext H a):LI b c d s a:=⟨h.ext.trans e,e.get h.M,e.get h.L,h.ne,h.lo⟩
theorem LI.push {d H:Hp} {c e i:Nat} {a b:List Nat} (h:LI d c e (a,b) H):LI d c e (a,b++[i]) (H.set c (.list (vI b++[.int i]))):=
 ⟨h.ext.put h.lo,(a8 (dJ h.ne)).trans h.M,by rw[cH (by rw[h.L];rfl),iX],h.ne,h.lo⟩
theorem KU {f:V->V->Option Bool} {xs:List V}:uY f xs []=V9 (decide (xs=[])):=by
 induction xs with
 |nil=>exact congrArg V9 (decide_eq_true rfl).symm
 |cons=>exact congrArg V9 (decide_eq_false ((by cases ·))).symm
theorem eq_nil {H:Hp} {i j:Nat} {xs:List V} (b:H[i]? =V9 (.list xs)) (c:H[j]? =V9 (.list [])) (a:i≠j):g0 H 6 (.ref i) (.ref j)=V9 (decide (xs=[])):=by rw[qo,if_neg a,b,c];exact KU
section
variable {D:PD} {Φ:d9}
theorem Ry {b:Bs} {m:En} {H:Hp} {Q:Bool->Hp->Prop} {p:Prop} [Decidable p] (h:p) (K:Q Wc H):OP D Φ b m Q (!decide p) H:=by rw[decide_eq_true h];exact K
theorem Rz {b:Bs} {m:En} {H:Hp} {Q:Bool->Hp->Prop} {p:Prop} [Decidable p] (h:¬p) (K:jI D Φ b m H Q):OP D Φ b m Q (!decide p) H:=by rw[decide_eq_false h];exact K
theorem jz {o:Type} {i:E} {t:T} {l:Bs} {d:List Nat} {m:En} {Q:V->Hp->Prop} {xs:List o} {c:Hp->Prop} {H:Hp} (w:o->V) (f:o->V) (p:o->Bool) (u:xs.length<=iH) (s:c H)
  (step:∀x,x∈xs->∀b (K:List V->Hp->Prop),(p x=Wb->K (b++[f x]) H)->(p x=Wc->K b H)->qA (jN t (w x) (iD d m)) λm'=>jI D Φ l m' H (yB D Φ i m' b K))
  (g:Q (.ref H.length) (H++[.list ((xs.filter p).map f)])):uz D Φ i t l d m Q (xs.map w) c H:=by
 refine jb (λk b n=>n=H/\b=((xs.take k).filter p).map f) ⟨rfl,rfl⟩ (λk a n h=>by rw[h.1];exact s) ?_ ?_
 ·intro k v j b n h K r;obtain⟨e,rfl⟩:=h;rw[e];rw[bC]at j
  induction q:xs[k]? with
  |none=>rw[q]at j;exact nn j
  |some x=>
   rw[q]at j;rw[←aA j];haveI a:xs.take (k+1)=xs.take k++[x]:=by rw[bX,q];rfl
   refine step x (aO q) _ K (λb=>r _ _ ⟨rfl,?_⟩) (λb=>r _ _ ⟨rfl,?_⟩)
   ·rw[a,cY,bV];simp[b]
   ·rw[a,cY,bV];simp[b]
 ·intro b n h;obtain⟨e,rfl⟩:=h;rw[e,aB,bZ];exact g
end
end
section
structure ALen (rows:List (List Int)) (marks:List Bool):Prop where
 n:rows.length<=4
 m:marks.length=rows.length
 two:∀r∈rows,r.length=2
theorem Ft {rows:List (List Int)} {marks:List Bool} (h:ALen rows marks) {met:List Nat} {i:Nat} (hi:i<rows.length):(wS rows met i).length<=2:=by rw[aB];exact aE (bI _ _) (bT (h.two _ (aO (dX (d:=[]) hi))))
section
variable {n:Nat} {H:Hp} {Q:V->Hp->Prop} {dr mk:Nat} {rows:List (List Int)} {marks:List Bool}
theorem jK (c:gE H dr rows) {K:Q (.int rows.length) H} (e:rows.length<=60000):io 0 [.ref dr] H Q:=by obtain⟨ls,a,b,d⟩:=c.ex;refine len_list a ?_;rw[eA,b];exact K
theorem km {i:Nat} {Q:V->Prop} (d:gE H dr rows) (hi:i<rows.length) (f:rows.length<=60000) (K:∀l,H[l]? =V9 (.list (vZ (rows.getD i [])))->Q (.ref l)):o7 (.ref dr) (.int i) H Q:=by obtain⟨q,l,a,e,b,c⟩:=d.at_ hi;exact bO a b (K l c)
theorem OJ (D:gE H dr rows) (hM:H[mk]? =V9 (.list (vB marks))) (Y:ALen rows marks) (K:∀b c a,Ext H a->gE a b (ia rows marks)->(∀v,(∀i,H.length<=i->(a[i]?).isSome=Wb->v[i]? =a[i]?)->gE v b (ia rows marks))->a[c]? =V9 (.list (vB (lP rows marks)))->Q (.tup [.ref b,.ref c]) a):
  F (n+1) 77 [.ref dr,.ref mk] H Q:=by
 injection 0 n H Q dr mk rows marks with D hM Y K;refine IZ ?_;unfold UE;have h4:=Y.n;have p:rows.length<=60000:=tb h4;have hm:=Y.m;have P:∀i,i<rows.length->(rows.getD i []).length=2:=λi hi=>Y.two _ (aO (dX (d:=[]) hi));have L:=aN H [.list [.int 0]];exists aQ one_le;refine jK (D.ext L) p (K:= ?_);exists eg (c7 p);refine jz (λk:Nat=>V.int k) (λk:Nat=>V.int k) (λk=>marks.getD k Wc) (by rw[aU];exact c7 p) trivial ?_ ?_
 ·intro k A e W x I;have a:=aW.1 A;show jI pd _ _ [Wa,V9 (.ref mk),Wa,Wa,Wa,V9 (.int k),Wa,Wa,Wa] _ _;exists bO (L.get hM) (jC (ff a (tf hm)))
  cases g:marks.getD k Wc with
  |true=>exact x g
  |false=>exact I g
 have t:(H++[O.list [V.int 0]]).length=H.length+1:=by simp
 have M:LI H (H.length+1) H.length ([0],q8 rows marks) (H++[.list [.int 0]]++[.list (vI (q8 rows marks))]):=
  ⟨L.app,(aN _ _).get aR,by rw[←t];exact aR,by lia,by lia⟩
 exists aQ dN;rw[t];show io 0 [.ref dr] (H++[O.list [V.int 0]]++[O.list (vI (q8 rows marks))]) _;generalize H++[O.list [V.int 0]]++[O.list (vI (q8 rows marks))]=H2 at M;walk_at "w";refine jK (D.ext M.ext) p (K:= ?_);exists eg (c7 p);have N:(q8 rows marks).length<=4:=aE (bI _ _) (by rw[aU];exact h4);refine cQ (σ:=Nat×(List Nat×List Nat)×Option V×Option V) (λs=>D9 dr mk s.1 (H.length+1) [s.2.2.1,s.2.2.2,Wa,Wa,Wa])
  (λk s a=>LI H (H.length+1) s.1 s.2.1 a/\s.2.1=(aC k).foldl (λs _=>jJ rows s) ([0],q8 rows marks)/\s.2.1.1.length<=1+8*k/\s.2.1.2.length<=4+4*k) (H.length,([0],q8 rows marks),Wa,Wa) rfl ⟨M,rfl,aK _,N⟩ (λ_ _ _ _=>trivial) ?_ ?_
 ·intro k v B s y h W x;injection 0 k v s y W with B h x;obtain⟨A,rfl⟩:=gW B;obtain⟨z,hs,t,c⟩:=h;walk_at "w";refine jK (D.ext z.ext) p (K:= ?_);exists eg (c7 p);refine cQ (σ:=Nat×(List Nat×List Nat)×Option V) (λu=>D9 dr mk u.1 (H.length+1) (eI k [u.2.2,Wa,Wa,Wa]))
   (λj u a=>LI H (H.length+1) u.1 u.2.1 a/\u.2.1=(aC j).foldl (iC rows) s.2.1/\u.2.1.1.length<=1+8*k+2*j/\u.2.1.2.length<=4+4*k+j) (s.1,s.2.1,s.2.2.2) rfl ⟨z,rfl,t,c⟩ (λ_ _ _ _=>trivial) ?_ ?_
  ·intro j v B u C h KJ w;injection 0 j v u C KJ with B h w;obtain⟨Z,rfl⟩:=gW B;obtain⟨r,U,v,E⟩:=h;obtain⟨mr,⟨met,a⟩,x5⟩:=u;injection 0 mr x5 met a with r U v E;dsimp only at r U v E;have R:(aC (j+1)).foldl (iC rows) s.2.1=iC rows (met,a) j:=by rw[cG,d6,←U];rfl
   rw[R]at w;have ab:=Ft Y (met:=met) Z;have u:(vI met).length<=iH:=fB (k:=100) (by lia) (by decide);have aa:(vI a).length<=iH:=fB (k:=100) (by lia) (by decide);have b:∀f b o,LI H (H.length+1) f (b,a) o->b=(if j∈met then met++wS rows met j else met)->b.length<=1+8*k+2*(j+1)->
     eQ pd (F n) #[.ite (.and (.cmp .iF (.nm 5) (.nm 3)) (.cmp .ne (.comp (.nm 8) (.one 8) (.plain (.sub (.nm 0) (.nm 5))) #[.cmp .isIn (.nm 8) (.nm 3)] [3]) (.list .nil))) #[.expr (.cM (.nm 3) 0 #[.nm 5])] .nil]
      [V9 (.ref dr),V9 (.ref mk),V9 (.ref f),V9 (.ref (H.length+1)),V9 (.int k),V9 (.int j),Wa,Wa,Wa] o (jL (pX pd (F n) .nil (jL (pX pd (F n) #[.asg 6 (.comp (.nm 5) (.one 5) (.plain (.nm 2)) #[.cmp .isIn (.nm 5) (.nm 3)] [3]),.asg 7 (.comp (.comp (.ite (.and (.cmp .isIn (.nm 5) (.nm 6)) (.cmp .isIn (.nm 8) (.nm 6))) (.nm 8) (.neg (.int 1))) (.one 8) (.plain (.sub (.nm 0) (.nm 5))) .nil [5,6]) (.one 5) (.range (.blt 0 #[.nm 0])) .nil [0,6]),.ret (.tup #[.nm 7,.comp (.and (.sub (.nm 1) (.nm 5)) (.cmp .isIn (.nm 5) (.nm 6))) (.one 5) (.range (.blt 0 #[.nm 0])) .nil [1,6]])] (pf Q)) W)) KJ):=by
    intro f b o T m h;injection 0 f b o with T m h;exists i9 T.L lV;by_cases q:j∈a
    ·exists Cg q;refine w (f,(b,a),V9 (.int j)) _ ⟨T,?_,h,by show a.length<=_;lia⟩;simp only[iC,m,q,not_true,false_and,if_false]
    ·exists Ch q;refine km (D.ext T.ext) Z p λl J=> ?_;have G:(rows.getD j []).length<=iH:=by rw[P j Z];decide
     exists cU J;refine jz V.int V.int (λg=>decide (0<=g/\g.toNat∈a)) G J ?_ ?_
     ·intro g hg e K2 X S;show jI pd _ _ [Wa,Wa,Wa,V9 (.ref (H.length+1)),Wa,Wa,Wa,Wa,V9 (.int g)] _ _;exists in_list T.L ry;by_cases i:0<=g/\g.toNat∈a
      ·exists Lh i;exact X (decide_eq_true i)
      ·exists Li i;exact S (decide_eq_false i)
     ·exists aQ (aP _);have g:(vZ (yJ rows a j)=[])↔yJ rows a j=[]:=by unfold vZ;exact kj
      refine nK (eq_nil (xs:=vZ (yJ rows a j)) ((aN _ _).get aR) aR (by simp)) ?_;have i:=(T.grow (aN o [.list (vZ (yJ rows a j))])).grow (aN _ [.list []]);walk_at "w";by_cases I:yJ rows a j=[]
      ·exists kv (g.mpr I);refine w (f,(b,a),V9 (.int j)) _ ⟨i,?_,h,by show a.length<=_;lia⟩;simp only[iC,m,I,ne_eq,not_true,and_false,if_false]
      ·exists nT (λe=>I (g.mp e)),cF i.L,cR i.L aa;refine w (f,(b,a++[j]),V9 (.int j)) _ ⟨i.push,?_,h,by show(a++[j]).length<=_;rw[aH,cP];lia⟩;simp only[iC,m,q,I,ne_eq,not_false_eq_true,and_self,if_true]
   exists in_list r.M lV;by_cases q:j∈met
   ·exists li q;refine km (D.ext r.ext) Z p λl J=> ?_;have G:(rows.getD j []).length<=iH:=by rw[P j Z];decide
    exists cU J;refine jz V.int V.int (λg=>decide (0<=g/\g.toNat∉met)) G J ?_ ?_
    ·intro g hg e K2 X S;show jI pd _ _ [Wa,Wa,V9 (.ref mr),Wa,Wa,Wa,Wa,Wa,V9 (.int g)] _ _;walk_at "w";by_cases i:g>=0
     ·exists zj i,i9 r.M ry;by_cases I:g.toNat∈met
      ·exists Ry ⟨i,I⟩;exact S (decide_eq_false (λh=>h.2 I))
      ·exists Rz (λh=>I h.2);exact X (decide_eq_true ⟨i,I⟩)
     ·exists zk i;exact S (decide_eq_false (λh=>i h.1))
    ·have e:((rows.getD j []).filter λg=>decide (0<=g/\g.toNat∉met)).map V.int=vI (wS rows met j):=by
      unfold wS vI;rw[cI];apply dU;intro g hg;have:=of_decide_eq_true (aG.1 hg).2;show V.int g=V.int ((g.toNat:Nat):Int);rw[eU this.1]
     rw[e];exists wZ ((aN _ _).get r.M) aR u (fB ab (by decide));have f:vI met++vI (wS rows met j)=vI (met++wS rows met j):=by simp[vI]
     rw[f];refine b _ _ _ ⟨r.ext.app.app,aR,(aN _ _).get ((aN _ _).get r.L),?_,r.lo⟩ (if_pos q).symm ?_
     ·have:=ez r.L;simp;lia
     ·rw[aH];lia
   ·exists jg q;exact b mr met C r (if_neg q).symm (by lia)
  ·intro u C h;obtain⟨r,U,v,E⟩:=h;rw[aB,aU]at U v E;refine x (u.1,u.2.1,V9 (.int k),u.2.2) _ ⟨r,?_,by show u.2.1.1.length<=_;lia,by show u.2.1.2.length<=_;lia⟩;show u.2.1=_;rw[cG,d6,←hs,U];rfl
 ·intro s y h;injection 0 s y with h;obtain⟨z,hs,t,c⟩:=h;rw[aB,aU]at hs t c;have R:s.2.1=ib rows marks:=hs;have u:(vI s.2.1.1).length<=iH:=fB (k:=100) (by lia) (by decide);have aa:(vI s.2.1.2).length<=iH:=fB (k:=100) (by lia) (by decide);exists cU z.M;refine jz (λk:Nat=>V.int k) (λk:Nat=>V.int k) (λi=>decide (i∈s.2.1.2)) (by rw[dL]at u;exact u) z.M ?_ ?_
  ·intro i hi e K2 X S;show jI pd _ _ [Wa,Wa,Wa,V9 (.ref (H.length+1)),Wa,V9 (.int i),Wa,Wa,Wa] _ _;exists in_list z.L lV;by_cases q:i∈s.2.1.2
   ·exists Lh q;exact X (decide_eq_true q)
   ·exists Li q;exact S (decide_eq_false q)
  have E:s.2.1.1.filter (λi=>decide (i∈s.2.1.2))=kept rows marks:=by unfold kept;rw[←R]
  rw[E];have T:(vI (kept rows marks)).length<=iH:=by rw[←E,dL];rw[dL]at u;exact aE (bI _ _) u
  have j:Ext H (y++[.list (vI (kept rows marks))]):=z.ext.app;have r:(y++[O.list (vI (kept rows marks))])[y.length]? =V9 (.list (vI (kept rows marks))):=aR;show io 0 [.ref dr] (y++[O.list (vI (kept rows marks))]) _;generalize y++[O.list (vI (kept rows marks))]=C at j r;walk_at "w";refine jK (D.ext j) p (K:= ?_);exists eg (c7 p);refine jb (λk e a=>Ext C a/\∃ls,e=vR ls/\ls.length=k/\∀(i l:Nat),ls[i]? =V9 l->C.length<=l/\a[l]? =V9 (.list (vZ ((rows.getD i []).map λg=>if i∈kept rows marks/\0<=g/\g.toNat∈kept rows marks then g else-1)))) ⟨Ext.yc,[],rfl,rfl,λi l h=>(by simp at h)⟩ (λ_ _ _ _=>trivial) ?_ ?_
  ·intro k v B e o h W x;injection 0 k v e o W with B h x;obtain⟨A,rfl⟩:=gW B;obtain⟨f,ls,rfl,m,e⟩:=h;show jI pd _ _ [V9 (.ref dr),Wa,Wa,Wa,Wa,V9 (.int k),V9 (.ref y.length),Wa,Wa] _ _;walk_at "w";refine km (D.ext (j.trans f)) A p λl J=> ?_;have G:(vZ (rows.getD k [])).length<=iH:=by rw[kW,P k A];decide
   exists cU J;refine hX (λv=>match v with| .int g=>.int (if k∈kept rows marks/\0<=g/\g.toNat∈kept rows marks then g else-1)|v=>v) J ?_ ?_
   ·intro v q K2 b;obtain⟨g,hg,rfl⟩:=aM.1 q;show ej pd _ _ [Wa,Wa,Wa,Wa,Wa,V9 (.int k),V9 (.ref y.length),Wa,V9 (.int g)] _ _;exists in_list (f.get r) lV;by_cases a:k∈kept rows marks
    ·exists zj a,in_list (f.get r) ry;by_cases i:0<=g/\g.toNat∈kept rows marks
     ·exists xn i;dsimp only at b;rw[if_pos ⟨a,i⟩]at b;exact b
     ·exists xo i;dsimp only at b;rw[if_neg (λh=>i h.2)]at b;exact b
    ·exists zk a;dsimp only at b;rw[if_neg (λh=>a h.1)]at b;exact b
   ·have b:(vZ (rows.getD k [])).map (λv=>match v with| .int g=>V.int (if k∈kept rows marks/\0<=g/\g.toNat∈kept rows marks then g else-1)|v=>v)=vZ ((rows.getD k []).map λg=>if k∈kept rows marks/\0<=g/\g.toNat∈kept rows marks then g else-1):=by
     unfold vZ;rw[cI,cI];rfl
    rw[b,mi];refine x _ _ ⟨f.app,ls++[o.length],rfl,by simp[m],λi l2 c=> ?_⟩;by_cases q:i<ls.length
    ·rw[bH q]at c;exact⟨(e i l2 c).1,(aN _ _).get (e i l2 c).2⟩
    ·rw[bR (tv q)]at c;have a:=cB c;have hi:i=k:=tK q a m;subst hi;rw[m,eS]at c;rw[←aA c];exact⟨f.len,aR⟩
  ·intro e o h;injection 0 e o with h;obtain⟨f,ls,rfl,m,e⟩:=h;injection 0 ls with f m e;rw[aB,aU]at m;have q:Ext C (o++[.list (vR ls)]):=f.app;have w:(o++[O.list (vR ls)])[o.length]? =V9 (.list (vR ls)):=aR;have h:∀(i l:Nat),ls[i]? =V9 l->C.length<=l/\(o++[O.list (vR ls)])[l]? =V9 (.list (vZ ((rows.getD i []).map λg=>if i∈kept rows marks/\0<=g/\g.toNat∈kept rows marks then g else-1))):=λi l h=>⟨(e i l h).1,(aN _ _).get (e i l h).2⟩;generalize o++[O.list (vR ls)]=G at q w h;walk_at "w";refine jK (D.ext (j.trans q)) p (K:= ?_);exists eg (c7 p);have J:=(j.trans q).get hM;refine hX (λv=>match v with| .int i=>.bool (marks.getD i.toNat Wc&&decide (i.toNat∈kept rows marks))|v=>v) trivial ?_ ?_
   ·intro v B K2 b;obtain⟨k,A,rfl⟩:=aM.1 B;have a:=aW.1 A;dsimp only at b;rw[d8]at b;exists bO J (jC (ff a (tf hm)))
    induction g:marks.getD k Wc with
    |false=>rw[g]at b;walk_at "w";exact b
    |true=>rw[g,g7]at b;exists in_list (q.get r) lV;exact b
   ·exists aQ dN;haveI S:((aC rows.length).map λ(k:Nat)=>V.int k).map (λv=>match v with| .int i=>V.bool (marks.getD i.toNat Wc&&decide (i.toNat∈kept rows marks))|v=>v)=vB (lP rows marks):=by
     delta vB lP;rw[cI,cI];apply dU;intro i _;show V.bool (marks.getD ((i:Int)).toNat Wc&&decide (((i:Int)).toNat∈kept rows marks))=_;rw[d8];rfl
    rw[S];have B:ls.length=(ia rows marks).length:=by rw[m];rw[aB,aU]
    have k:∀(i l:Nat) g,ls[i]? =V9 l->(ia rows marks)[i]? =V9 g->C.length<=l/\G[l]? =V9 (.list (vZ g)):=λi l g a b=>by
     unfold ia at b;rw[bC]at b;have hi:i<rows.length:=by haveI:=cB a;exact ff this (te m)
     rw[ew hi]at b;rw[←aA b];exact h i l a
    refine K _ _ _ ((j.trans q).app) ⟨ls,(aN _ _).get w,B,λi l g a b=>(aN _ _).get (k i l g a b).2⟩ (λv A=>⟨ls,?_,B,λi l g a b=> ?_⟩) aR
    ·haveI x:=(aN G [.list (vB (lP rows marks))]).get w;rw[A _ (aE j.len f.len) (by rw[x];rfl),x]
    ·obtain⟨x,I⟩:=k i l g a b;haveI z:=(aN G [.list (vB (lP rows marks))]).get I;rw[A _ (aE j.len x) (by rw[z];rfl),z]
end
end
section
noncomputable def sQ (i:Nat):List Nat:=[81,48+i]
noncomputable def sL (c:Nat):List Nat:=[97+c]
noncomputable def gz (rows:List (List Int)) (i c:Nat):Int:=(rows.getD i []).getD c (-1)
noncomputable def mU (rows:List (List Int)) (i:Nat):mJ:=((aC 2).filter λc=>decide (0<=gz rows i c)).map λc=>(sQ i,[sL c,sQ (gz rows i c).toNat])
noncomputable def lE (rows:List (List Int)) (i:Nat):mJ:=((aC 2).filter λc=>decide (0<=gz rows i c)).map λc=>(sQ (gz rows i c).toNat,[sQ i,sL c])
noncomputable def bP (rows:List (List Int)) (marks:List Bool):mJ:=(aC rows.length).flatMap λi=>mU rows i++(if marks.getD i Wc then [(sQ i,[])] else [])
noncomputable def cV (rows:List (List Int)) (marks:List Bool):mJ:=((aC rows.length).filter λi=>marks.getD i Wc).map (λi=>([90],[sQ i]))++[(sQ 0,[])]++(aC rows.length).flatMap λi=>lE rows i
structure sd (rows:List (List Int)) (marks:List Bool):Prop extends ALen rows marks where
 lt:∀r∈rows,∀g∈r, -1<=g/\g<rows.length
theorem sd.wy {rows:List (List Int)} {marks:List Bool} (h:sd rows marks) {i c:Nat} (hi:i<rows.length) (f:c<2):(vZ (rows.getD i []))[c]? =V9 (.int (gz rows i c))/\ -1<=gz rows i c/\gz rows i c<rows.length:=by haveI b:rows.getD i []∈rows:=aO (dX (d:=[]) hi);haveI e:=h.two _ b;haveI a:(rows.getD i [])[c]? =V9 (gz rows i c):=dX (d:= -1) (ff f (tf e));refine⟨by rw[bC,a];rfl,h.lt _ b _ (aO a)⟩
section
variable {n:Nat} {H:Hp} {Q:V->Hp->Prop} {dr mk:Nat} {rows:List (List Int)} {marks:List Bool}
theorem x6 {s t:List Nat} {Q:V->Hp->Prop} (a:s.length<=100) (b:t.length<=100) (K:Q (.str (s++t)) H):lU .add (.str s) (.str t) H Q:=Lg (aE a (by decide)) (aE b (by decide)) K
theorem qQ {l:mJ} {p:List Nat×List (List Nat)}:vP l++[.tup [.str p.1,.tup (vS p.2)]]=vP (l++[p]):=by simp[vP]
theorem qP {l:mJ}:(vP l).length=l.length:=aB _
structure PL (H0:Hp) (q:Nat) (l:mJ) (H:Hp):Prop where
 ext:Ext H0 H
 L:H[q]? =V9 (.list (vP l))
theorem v3 {a:Type} {p:Nat->Bool} {f:Nat->a} {k:Nat}:((aC (k+1)).filter p).map f=((aC k).filter p).map f++(if p k then [f k] else []):=by rw[cG,cY,bV];rw[eK,uT];split<;>rfl
theorem vy {e:Ss} {env:Option V->Option V->En} {m:En} {q i l:Nat} {base:mJ} {f:Nat->List Nat×List (List Nat)} {r:Fl->En->Hp->Prop} {y4 y5:Option V} {A:Nat} {j:Hp} (y:sd rows marks) (hi:i<rows.length) (G:base.length<=1000)
  (D:m=env y4 y5) (C:H[l]? =V9 (.list (vZ (rows.getD i [])))) (u:q≠l) (E:j.length<=q) (B:PL j q base H)
  (g:∀(a b:V) (h k:Option V),jN (.two 4 5) (.tup [a,b]) (env h k)=V9 (env (V9 a) (V9 b)))
  (step:∀(c:Nat) b a,c<2->a.length<=1010->PL j q a b->∀K:En->Hp->Prop,(0<=gz rows i c->K (env (V9 (.int c)) (V9 (.int (gz rows i c)))) (b.set q (.list (vP (a++[f c])))))->(¬0<=gz rows i c->K (env (V9 (.int c)) (V9 (.int (gz rows i c)))) b)->
   eQ pd (F A) e (env (V9 (.int c)) (V9 (.int (gz rows i c)))) b (jL r K))
  (o:∀h k b,PL j q (base++((aC 2).filter λc=>decide (0<=gz rows i c)).map f) b->r .next (env h k) b):
  yO pd (F A) (.two 4 5) e m r ((vZ (rows.getD i [])).mapIdx λn x=>.tup [.int n,x]) (λa=>a[l]? =V9 (.list (vZ (rows.getD i [])))) H:=by
 haveI x:(rows.getD i []).length=2:=y.two _ (aO (dX (d:=[]) hi));refine cQ (σ:=Option V×Option V) (λs=>env s.1 s.2) (λk s a=>PL j q (base++((aC k).filter λc=>decide (0<=gz rows i c)).map f) a/\a[l]? =V9 (.list (vZ (rows.getD i [])))/\k<=2) (y4,y5) D ⟨by simpa using B,C,aP _⟩ (λk s a h=>h.2.1) ?_ ?_
 ·intro k v w s b h K z;haveI a:=h.1;haveI n:=h.2.1;have p:k<2:=by haveI:=cB w;rw[gM,kW,x]at this;exact this
  rw[jY,(y.wy hi p).1]at w;rw[←aA w];rw[g];haveI c:(base++((aC k).filter λc=>decide (0<=gz rows i c)).map f).length<=1010:=by rw[aH,aB];haveI:=bI (λc=>decide (0<=gz rows i c)) (aC k);rw[aU]at this;lia
  refine step k b _ p c a K (λt=>z (V9 (.int k),V9 (.int (gz rows i k))) _ ⟨⟨a.ext.put E,?_⟩,(a8 u).trans n,p⟩) (λt=>z (V9 (.int k),V9 (.int (gz rows i k))) _ ⟨?_,n,p⟩)
  ·rw[cH (by rw[a.L];rfl),v3,if_pos (decide_eq_true t),bF]
  ·rw[v3,if_neg (by simpa using t),bY];exact a
 ·intro s b h;haveI a:=h.1;rw[gM,kW,x]at a;exact o _ _ _ a
theorem vL {a:Hp} {i:Nat} {Q:V->Prop} (f:gE a dr rows) (e:Ext a H) (hi:i<rows.length) (h:rows.length<=60000) (K:∀l,l<a.length->H[l]? =V9 (.list (vZ (rows.getD i [])))->Q (.ref l)):o7 (.ref dr) (.int i) H Q:=by obtain⟨q,l,c,g,d,b⟩:=f.at_ hi;exact bO (e.get c) d (K l (ez b) (e.get b))
theorem GA (t:gE H dr rows) (C:H[mk]? =V9 (.list (vB marks))) (g:sd rows marks) (K:∀r a,Ext H a->H.length<=r->a[r]? =V9 (.list (vP (bP rows marks)))->Q (.ref r) a):
  F (n+1) 78 [.ref dr,.ref mk] H Q:=by
 injection 0 n H Q dr mk rows marks with t C g K;refine IY ?_;delta UD;have O:=g.n;haveI y:rows.length<=60000:=tb O;haveI x:=g.m;haveI j:=aN H [.list []];exists aQ (aP _);refine jK (t.ext j) y (K:= ?_);refine eg (c7 y) ?_;refine cQ (σ:=Option V×Option V×Option V) (λs=>uZ dr mk H.length [s.1,s.2.1,s.2.2]) (λk s a=>∃base,PL H H.length base a/\base=(aC k).flatMap (λi=>mU rows i++(if marks.getD i Wc then [(sQ i,[])] else []))/\base.length<=3*k)
  (Wa,Wa,Wa) rfl ⟨[],⟨j,aR⟩,rfl,aK _⟩ (λ_ _ _ _=>trivial) ?_ ?_
 ·intro k v G s A h M b;injection 0 k v s A M with G h b;obtain⟨o,N⟩:=gW G;rw[N];obtain⟨base,e,m,r⟩:=h;haveI u:(aC (k+1)).flatMap (λi=>mU rows i++(if marks.getD i Wc then [(sQ i,[])] else []))=base++(mU rows k++(if marks.getD k Wc then [(sQ k,[])] else [])):=by
   rw[cG,fv,←m];simp
  haveI b:=(u)▸b;walk_at "w";refine vL t e.ext o y λl w E=> ?_;refine w7 E ?_;haveI z:H.length≠l:=eD w;haveI P:(mU rows k).length<=2:=by rw[aB];exact aE (bI _ _) (vc)
  refine vy (env:=λh i=>uZ dr mk H.length (eI k [h,i])) (y4:=s.2.1) (y5:=s.2.2) (base:=base) (f:=λc=>(sQ k,[sL c,sQ (gz rows k c).toNat])) g o (by lia) rfl E z (aK _) e (λ_ _ _ _=>rfl) ?_ ?_
  ·intro c p a D i d L I J;injection 0 c p a L with D i d I J;haveI R:=(g.wy o D).2;by_cases q:gz rows k c>=0
   ·haveI B:gz rows k c=(((gz rows k c).toNat:Nat):Int):=(eU ‹_›).symm;exists li q,cF d.L,nG (by lia),x6 (aJ rfl) (aJ rfl);haveI h:([97,98]:List Nat)[c]? =V9 (97+c):=by
     rcases(tL (by assumption):c=0\/c=1)with rfl|rfl<;>rfl
    exists wK (aJ rfl) h;rw[B];exists nG (by lia),x6 (aJ rfl) (aJ rfl),aQ dN,aQ dN,cR d.L (by rw[qP];exact c7 (tb i));haveI:=I q;rw[←qQ]at this;rw[←B];exact this
   ·exists jg q;exact J q
  ·intro h i p d;haveI a:PL H H.length (base++mU rows k) p:=d;exists bO (d.ext.get C) (jC (ff o (tf x)))
   induction c:marks.getD k Wc with
   |false=>refine b (V9 (.int k),h,i) _ ⟨_,by rw[c,if_neg nofun,bY];exact a,rfl,?_⟩;rw[c,if_neg nofun,bY,aH];lia
   |true=>
    exists cF a.L,nG (by lia),x6 (aJ rfl) (aJ rfl),aQ (aP _),aQ dN,cR a.L (by rw[qP,aH];exact c7 (by lia));refine b (V9 (.int k),h,i) _ ⟨_,⟨a.ext.put (aK _),?_⟩,rfl,?_⟩
    ·rw[cH (by rw[a.L];rfl),c,if_pos rfl,←bF,←qQ];rfl
    ·rw[c,if_pos rfl,aH,aH,cP];lia
 ·intro s A h;obtain⟨base,e,m,r⟩:=h;rw[aB,aU]at m;haveI:=e.L;rw[m]at this;exact K _ _ e.ext (aK _) this
theorem K8 (x:gE H dr rows) (L:H[mk]? =V9 (.list (vB marks))) (o:sd rows marks) (K:∀r b,Ext H b->H.length<=r->b[r]? =V9 (.list (vP (cV rows marks)))->Q (.ref r) b):
  F (n+1) 79 [.ref dr,.ref mk] H Q:=by
 injection 0 n H Q dr mk rows marks with x L o K;refine IX ?_;delta UC;have J:=o.n;have m:rows.length<=60000:=tb J;haveI E:=o.m;walk_at "w";refine jK x m (K:= ?_);refine eg (c7 m) (jz (λk:Nat=>V.int k) (λi=>.tup [.str [90],.tup (vS [sQ i])]) (λi=>marks.getD i Wc) (by rw[aU];exact c7 m) trivial ?_ ?_)
 ·intro k t b I c g;have a:=aW.1 t;exists bO L (jC (ff a (tf E)))
  induction j:marks.getD k Wc with
  |true=>exists nG (by lia),x6 (aJ rfl) (aJ rfl),aQ one_le,aQ dN;exact c j
  |false=>exact g j
 haveI w:((aC rows.length).filter λi=>marks.getD i Wc).map (λi=>V.tup [.str [90],.tup (vS [sQ i])])=vP (((aC rows.length).filter λi=>marks.getD i Wc).map λi=>([90],[sQ i])):=by delta vP;rw[cI];rfl
 rw[w];haveI u:(((aC rows.length).filter λi=>marks.getD i Wc).map λi=>(([90]:List Nat),[sQ i])).length<=4:=by rw[aB];exact aE (bI _ _) (by rw[aU];exact J)
 generalize hz:((aC rows.length).filter λi=>marks.getD i Wc).map (λi=>(([90]:List Nat),[sQ i]))=a at u;refine aQ (aP _) (aQ dN (aQ one_le (wZ ((aN _ _).get aR) aR (by rw[qP];exact c7 (tb ‹_›)) one_le ?_)));haveI U:vP a++[V.tup [V.str [81,48],V.tup []]]=vP (a++[(sQ 0,[])]):=qQ (p:=(sQ 0,[]));rw[U];haveI d:PL H (H++[O.list (vP a)]++[O.list [V.tup [V.str [81,48],V.tup []]]]).length (a++[(sQ 0,[])]) (H++[O.list (vP a)]++[O.list [V.tup [V.str [81,48],V.tup []]]]++[O.list (vP (a++[(sQ 0,[])]))]):=⟨((aN H [.list (vP a)]).app (l:=[.list [.tup [.str [81,48],.tup []]]])).app,aR⟩;haveI y:H.length<=(H++[O.list (vP a)]++[O.list [V.tup [V.str [81,48],V.tup []]]]).length:=by simp
 generalize (H++[O.list (vP a)]++[O.list [V.tup [V.str [81,48],V.tup []]]]).length=z at d y;generalize H++[O.list (vP a)]++[O.list [V.tup [V.str [81,48],V.tup []]]]++[O.list (vP (a++[(sQ 0,[])]))]=Y at d;refine jK (x.ext d.ext) m (K:= ?_);refine eg (c7 m) ?_;refine cQ (σ:=Option V×Option V×Option V) (λs=>uZ dr mk z [s.1,s.2.1,s.2.2]) (λk s b=>∃base,PL H z base b/\base=a++[(sQ 0,[])]++(aC k).flatMap (λi=>lE rows i)/\base.length<=5+2*k)
  (Wa,Wa,Wa) rfl ⟨_,d,by exact(bY _).symm,by simp;exact u⟩ (λ_ _ _ _=>trivial) ?_ ?_
 ·intro k v P s G h I b;injection 0 k v s G I with P h b;obtain⟨t,W⟩:=gW P;rw[W];obtain⟨base,g,j,B⟩:=h;haveI C:a++[(sQ 0,[])]++(aC (k+1)).flatMap (λi=>lE rows i)=base++lE rows k:=by
   rw[cG,fv,←bF,←j];simp
  haveI b:=(C)▸b;walk_at "w";refine vL x g.ext t m λl D N=>(w7 N ?_);haveI X:(lE rows k).length<=2:=by rw[aB];exact aE (bI _ _) (vc)
  refine vy (env:=λe h=>uZ dr mk z (eI k [e,h])) (y4:=s.2.1) (y5:=s.2.2) (base:=base) (f:=λc=>(sQ (gz rows k c).toNat,[sQ k,sL c])) o t (by lia) rfl N (j7 (ff D y)) y g (λ_ _ _ _=>rfl) ?_ ?_
  ·intro c A e M r i T R S;injection 0 c A e T with M r i R S;haveI Z:=(o.wy t M).2;by_cases q:gz rows k c>=0
   ·haveI w:gz rows k c=(((gz rows k c).toNat:Nat):Int):=(eU ‹_›).symm;haveI h:([97,98]:List Nat)[c]? =V9 (97+c):=by
     rcases(tL (by assumption):c=0\/c=1)with rfl|rfl<;>rfl
    exists li q,cF i.L;rw[w];exists nG (by lia),x6 (aJ rfl) (aJ rfl),nG (by lia),x6 (aJ rfl) (aJ rfl),wK (aJ rfl) h,aQ dN,aQ dN,cR i.L (by rw[qP];exact c7 (tb r));haveI:=R q;rw[←qQ]at this;rw[←w];exact this
   ·exists jg q;exact S q
  ·intro e h A i;haveI c:PL H z (base++lE rows k) A:=i;exact b (V9 (.int k),e,h) _ ⟨_,c,rfl,by rw[aH];lia⟩
 ·intro s G h;obtain⟨base,g,j,B⟩:=h;rw[aB,aU,←hz]at j;haveI:=g.L;haveI this:=(j)▸this;exact K _ _ g.ext y this
end
end
section
noncomputable def vW (w:List Nat):List V:=vS (w.map sL)
theorem z1 {w:List Nat} {k c:Nat} (h:w[k]? =V9 c):(vW w)[k]? =V9 (.str (sL c)):=by delta vW vS;rw[cI,bC,h];rfl
theorem MN {w:List Nat} {k:Nat} {v:V} (h:(vW w)[k]? =V9 v):∃c,w[k]? =V9 c/\v= .str (sL c):=by haveI a:=cB h;unfold vW at a;rw[iU,aB]at a;obtain⟨c,b⟩:=fp a;rw[z1 b]at h;exact⟨c,b,(aA h).symm⟩
theorem qO {w:List Nat}:(vW w).length=w.length:=by rw[iU,aB]
theorem MO {w:List Nat} {c:Nat}:vW w++[.str (sL c)]=vW (w++[c]):=by simp[vW,vS]
noncomputable def dW (rows:List (List Int)) (i:Nat):List Nat->List Nat
 |[]=>[]
 |c::w=>if gz rows i c<0 then [] else(gz rows i c).toNat::dW rows (gz rows i c).toNat w
noncomputable def gA (rows:List (List Int)) (w:List Nat):List Nat:=0::dW rows 0 w
theorem M6 {c:Nat} (b:c<2) {H:Hp} {Q:V->Prop} (K:Q (.str (sL c))):o7 (.str [97,98]) (.int c) H Q:=by
 haveI a:([97,98]:List Nat)[c]? =V9 (97+c):=by rcases(tL (by assumption):c=0\/c=1)with rfl|rfl<;>rfl
 exact wK (aJ rfl) a K
section
variable {n:Nat} {H:Hp} {Q:V->Hp->Prop} {dr p c0:Nat} {rows:List (List Int)} {marks:List Bool}
theorem NY {c:Nat} (a:c<2) {Q:V->Hp->Prop} (K:Q (.int c) H):hY 2 (.str [97,98]) 2 [.str (sL c)] H Q:=hY.ab a K
theorem OG {w:List Nat} {m:Nat} (y:gE H dr rows) (o:sd rows marks) (E:1<=rows.length) (x:H[m]? =V9 (.list (vW w))) (A:w.length<=100) (z:∀c∈w,c<2)
  (K:∀r a,Ext H a->a[r]? =V9 (.list (vI (gA rows w)))->Q (.ref r) a):F (n+1) 81 [.ref dr,.ref m] H Q:=by
 injection 0 n H Q dr rows marks w m with y o E x A z K;refine IV ?_;delta UA;haveI I:rows.length<=60000:=by haveI:=o.n;exact tb this
 haveI j:=aN H [.list [.int 0]];exists aQ one_le,cU (j.get x);refine cQ (σ:=Option V×Option V) (λs=>uZ dr m H.length [s.1,s.2])
  (λk s a=>Ext H a/\∃P i,a[H.length]? =V9 (.list (vI (P++[i])))/\P.length=k/\i<rows.length/\gA rows w=P++[i]++dW rows i (w.drop k)) (Wa,Wa) rfl
  ⟨j,[],0,aR,rfl,by assumption,by rfl⟩ (λk s a h=>h.1.get x) ?_ ?_
 ·intro k v J s B h L p;obtain⟨a,P,i,d,r,hi,g⟩:=h;obtain⟨c,e,D⟩:=MN J;rw[D];have t:=cB e;haveI h:=z c (dq e).2;haveI b:w.drop k=c::w.drop (k+1):=by
   rw[List.drop_eq_getElem_cons t];congr 1;exact mH e t
  haveI f:(vI (P++[i])).getLast?=V9 (.int i):=by simp[vI]
  haveI G:=(o.wy hi h);exists iY d f;refine km (y.ext a) hi I λl u=> ?_;exists mY.str rfl<|NY h,bO u G.1
  by_cases q:gz rows i c<0
  ·refine li q (K _ _ a ?_);rw[g,b,dW,if_pos q,bY];exact d
  ·haveI C:gz rows i c=(((gz rows i c).toNat:Nat):Int):=by lia
   exists jg q,cF d;rw[C];refine cR d (fB (k:=200) (by simp;exact tc (ff (zD (te r) t) A)) (by decide)) (p (V9 (.str (sL c)),V9 (.int ((gz rows i c).toNat:Nat))) _ ⟨a.put (aK _),P++[i],(gz rows i c).toNat,?_,by simp[r],by lia,?_⟩)
   ·rw[cH (by rw[d];rfl),iX]
   ·rw[g,b,dW,if_neg q];simp
 ·intro s B h;obtain⟨a,P,i,d,r,hi,g⟩:=h;rw[qO,List.drop_length]at g;rw[show dW rows i []=[] from rfl,bY]at g;refine K _ _ a ?_;rw[g];exact d
theorem OE (hR:gE H dr rows) (S:sd rows marks) (h1:1<=rows.length) (hp:rB H p c0) (E:c0<=500) (g:p<H.length) (ag:∀ls,H[p]? =V9 (.list ls)->True)
  (hk:∀a,fL p H a->gE a dr rows)
  (K:∀r a w,fL p H a->w.length<=6->(∀c∈w,c<2)->a[r]? =V9 (.list (vW w))->Q (.ref r) a):F (n+2) 80 [.ref p,.ref dr] H Q:=by
 injection 0 n H Q dr p c0 rows marks with hR S h1 hp E g ag hk K;refine IW ?_;unfold UB;have hn:rows.length<=60000:=tb S.n;have h4:=S.n;have C:=aN H [.list []];exists aQ (aP _),aQ dN;refine rt (many:=7) (by decide) (by decide) (hp.ext C) (td E) λd H1 hd aj U ae=> ?_;exists eg (tc hd);have aa:H1[H.length]? =V9 (.list (vW [])):=U.get (j7 g) aR;have W:fL p H H1:=λi hi a=>by rw[U i hi (by rw[C i a];exact a),C i a]
 refine cQ (σ:=Int×Option V×Option V×Option V) (λs=>uZ p dr H.length (eI s.1 [s.2.1,s.2.2.1,s.2.2.2]))
  (λk s a=>fL p H a/\∃w c,rB a p c/\c<=501+2*k/\a[H.length]? =V9 (.list (vW w))/\w.length=k/\(∀c∈w,c<2)/\ -1<=s.1/\s.1<rows.length) (0,Wa,Wa,Wa) rfl
  ⟨W,[],_,ae,eN E,aa,rfl,nofun,by decide,by exact dP.2 h1⟩ (λ_ _ _ _=>trivial) ?_ ?_
 ·intro k v hv s N h KK T;obtain⟨ac,rfl⟩:=gW hv;have J:k<7:=uV ac hd;obtain⟨y,w,c,X,m,hL,r,L,ai,o⟩:=h;have ab:=hk N y;exists eg (n:=2) (c7 (by decide));refine jz (λk:Nat=>V.int k) (λk:Nat=>V.int k) (λc=>decide (0<=s.1/\0<=gz rows s.1.toNat c)) (aJ rfl) trivial ?_ ?_
  ·intro c m j t f e;have b:=aW.1 m;show jI pd _ _ [Wa,V9 (.ref dr),Wa,V9 (.int s.1),Wa,Wa,V9 (.int c)] _ _;walk_at "w";by_cases q:s.1>=0
   ·have i:s.1=((s.1.toNat:Nat):Int):=(eU q).symm;exists zj q;rw[i];refine km ab (tG q o) hn λl hl=> ?_;exists bO hl (S.wy (tG q o) b).1;by_cases a:gz rows s.1.toNat c>=0
    ·exists Lh a;exact f (decide_eq_true ⟨q,a⟩)
    ·exists Li a;exact e (decide_eq_false (λh=>a h.2))
   ·exists zk q;exact e (decide_eq_false (λh=>q h.1))
  ·have f:∀x∈(aC 2).filter (λc=>decide (0<=s.1/\0<=gz rows s.1.toNat c)),x<2:=λx hx=>aW.1 (aG.1 hx).1;have B:((aC 2).filter (λc=>decide (0<=s.1/\0<=gz rows s.1.toNat c))).length<=2:=aE (bI _ _) (by simp);have e0:((aC 2).filter (λc=>decide (0<=s.1/\0<=gz rows s.1.toNat c))).map (λk:Nat=>V.int k)=vI ((aC 2).filter (λc=>decide (0<=s.1/\0<=gz rows s.1.toNat c))):=rfl;rw[e0];generalize (aC 2).filter (λc=>decide (0<=s.1/\0<=gz rows s.1.toNat c))=h at f B;have b:∀h (q:Nat) (P:Nat) t,h≠[]->h.length<=2->(∀x∈h,x<2)->fL p H t->rB t p P->P<=502+2*k->t[H.length]? =V9 (.list (vW w))->t[q]? =V9 (.list (vI h))->q≠p->∀R,
     eQ pd (F (n+1)) #[.asg 6 (.sub (.nm 5) (.call 76 #[.nm 0,.blt 0 #[.nm 5]])),.expr (.cM (.nm 2) 0 #[.sub (.str [97,98]) (.nm 6)]),.asg 3 (.ite (.cmp .ge (.nm 3) (.int 0)) (.sub (.sub (.nm 1) (.nm 3)) (.nm 6)) (.neg (.int 1)))]
      [V9 (.ref p),V9 (.ref dr),V9 (.ref H.length),V9 (.int s.1),V9 (.int k),V9 (.ref q),R] t (jL (pX pd (F (n+1)) #[.ret (.nm 2)] (pf Q)) KK):=by
    intro h q P t ad B f j z G v A ah R;have Y:0<h.length:=by
     induction h with
     |nil=>exact absurd rfl ad
     |cons _ _=>simp
    exists len_list A;rw[dL];refine rt (many:=h.length) Y (tb B) z (dp (kD G (fy (fx 2 (tw J)) 502)) (by decide)) λd u hd ak I af=> ?_;obtain⟨x,hx⟩:=fp hd;have M:=f x (dq hx).2;have D:=I.get (j7 g) v;exists bO (I.get ah A) (kX hx),cF D,M6 M,cR D (by rw[qO];exact tc (zD (te r) J));rw[MO];have e:fL p H (u.set H.length (.list (vW (w++[x])))):=λi hi a=>by
     have b:i<H.length:=by
      rcases cZ i H.length with q|q
      ·exact q
      ·have a:=(bQ q)▸a;cases a
     rw[a8 (j7 b)];exact(j.trans I) i hi a
    have b:rB (u.set H.length (.list (vW (w++[x])))) p (P+1):=by obtain⟨a,b,i,l⟩:=af;exact⟨a,b,i,(a8 (j7 g)).trans l⟩
    haveI a:(u.set H.length (.list (vW (w++[x]))))[H.length]? =V9 (.list (vW (w++[x]))):=cH (by rw[D];rfl);generalize u.set H.length (.list (vW (w++[x])))=H5 at e b a;have Z:∀c∈w++[x],c<2:=λc m=>by
     rcases aZ.1 m with m|m
     ·exact L c m
     ·rw[aD.1 m];exact M
    by_cases q5:s.1>=0
    ·haveI i:s.1=((s.1.toNat:Nat):Int):=(eU q5).symm;haveI hg:=S.wy (i:=s.1.toNat) (c:=x) (tG q5 o) M;exists xn q5;rw[i];refine km (hk H5 e) (tG q5 o) hn λl hl=> ?_;refine bO hl hg.1 ?_;exact T (gz rows s.1.toNat x,V9 (.int k),V9 (.ref q),V9 (.int x)) _ ⟨e,w++[x],P+1,b,tO G,a,by simp[r],Z,hg.2.1,hg.2.2⟩
    ·refine xo q5 ?_;exact T (-1,V9 (.int k),V9 (.ref q),V9 (.int x)) _ ⟨e,w++[x],P+1,b,tO G,a,by simp[r],Z,uU _,Em (show(-1:Int)<0 by decide) (dC _)⟩
   haveI i:=aN N [.list (vI h)];haveI q:=ez hL;haveI A:(N++[O.list (vI h)])[N.length]? =V9 (.list (vI h)):=aR;refine rt (many:=6) (by decide) (by decide) (X.ext i) (dp (kD m (fy (fx 2 (tw J)) 501)) (by decide)) λd t hd x l z=> ?_;haveI j:fL p H t:=(y.ext i).trans l;haveI v:=l.get (j7 g) (i.get hL);haveI D:=l.get (j7 (uV g q)) A;haveI G:=aH (as:=N) (bs:=[O.list (vI h)]);rw[cP]at G;have a:∀(R:Option V) u,Ext t u->eQ pd (F (n+1)) #[.asg 6 (.sub (.nm 5) (.call 76 #[.nm 0,.blt 0 #[.nm 5]])),.expr (.cM (.nm 2) 0 #[.sub (.str [97,98]) (.nm 6)]),.asg 3 (.ite (.cmp .ge (.nm 3) (.int 0)) (.sub (.sub (.nm 1) (.nm 3)) (.nm 6)) (.neg (.int 1)))]
      [V9 (.ref p),V9 (.ref dr),V9 (.ref H.length),V9 (.int s.1),V9 (.int k),V9 (.ref u.length),R] (u++[.list [.int 0,.int 1]]) (jL (pX pd (F (n+1)) #[.ret (.nm 2)] (pf Q)) KK):=by
    intro R u a;refine b [0,1] u.length _ _ (by decide) (by decide) (by decide) ((j.ext a).ext (aN _ _)) ((z.ext a).ext (aN _ _)) (tP m) ((aN _ _).get (a.get v)) aR ?_ R;exact j7 (ff (uV g q) (kD tq (kD (tf x) a.len)))
   by_cases I:d=0
   ·refine QH (by lia) (aQ dN ?_);exact a s.2.2.2 t Ext.yc
   ·exists Ke (by lia),aQ (aP _);refine rk (eq_nil (xs:=vI h) ((aN _ _).get D) aR (tn (ff tr (tf x)))) ?_;by_cases u:h=[]
    ·refine li (by rw[u];rfl) (aQ dN ?_);exact a s.2.2.2 _ (aN _ _)
    ·exact jg (λe=>u (kj.1 e)) (b h _ _ _ u B f (j.ext (aN _ _)) (z.ext (aN _ _)) (tP m) ((aN _ _).get v) ((aN _ _).get D) (j7 (uV g q)) s.2.2.2)
 ·intro s N h;obtain⟨y,w,c,X,m,hL,r,L,ai,o⟩:=h;rw[aB,aU]at r;exact K _ _ w y (by lia) L hL
end
end
section
theorem AP {H:Hp} {k:Nat}:∀{a b:List (List Nat)},uY (g0 H (k+1)) (vS a) (vS b)=V9 (decide (a=b))
 |[],[]=>rfl
 |[],_::_=>rfl
 |_::_,[]=>rfl
 |x::a,y::b=>by show(match g0 H (k+1) (.str x) (.str y),uY (g0 H (k+1)) (vS a) (vS b)with|some x,V9 y=>V9 (x&&y)|_,_=>Wa)=_;rw[AP,qk];simp only[Bn,nC]
noncomputable abbrev pV (p:List Nat×List (List Nat)):V:=.tup [.str p.1,.tup (vS p.2)]
theorem yQ {H:Hp} {a b:List Nat×List (List Nat)}:g0 H 6 (pV a) (pV b)=V9 (decide (a=b)):=by show(match g0 H (4+1) (.str a.1) (.str b.1),(match g0 H (4+1) (.tup (vS a.2)) (.tup (vS b.2)),uY (g0 H 5) [] []with|some x,V9 y=>V9 (x&&y)|_,_=>Wa)with|some x,V9 y=>V9 (x&&y)|_,_=>Wa)=_;rw[qk,KR,AP];show V9 (decide (a.1=b.1)&&(decide (a.2=b.2)&&Wb))=_;rw[mc,←nC];congr 1;exact decide_eq_decide.2 Prod.ext_iff.symm
theorem Ba {H:Hp} {x:List Nat×List (List Nat)}:∀{l:mJ},g6 (λy=>g0 H 6 y (pV x)) (vP l)=V9 (decide (x∈l)):=by
 intro l
 induction l with
 |nil=>exact rfl
 |cons j r c=>
  skip
  show(match g0 H 6 (pV j) (pV x),g6 (λy=>g0 H 6 y (pV x)) (vP r)with|some a,V9 b=>V9 (a||b)|_,_=>Wa)=_;rw[c,yQ];simp only[bD,oG];congr 2;exact decide_eq_decide.2 eq_comm
theorem AK {H:Hp} {x:List Nat×List (List Nat)}:∀{l:mJ},x∈l->qa (λy=>g0 H 6 y (pV x)) (vP l)=V9 (l.idxOf x):=by
 intro l
 induction l with
 |nil=>intro h;cases h
 |cons j r a=>
  intro h;show(match g0 H 6 (pV j) (pV x)with|some Wb=>V9 0|some Wc=>(qa (λy=>g0 H 6 y (pV x)) (vP r)).map (·+1)|none=>Wa)=_;rw[yQ,HN];by_cases q:j=x
  ·rw[q];simp
  ·haveI b:x∈r:=(bD.1 h).resolve_left (dJ q);rw[decide_eq_false q,a b];have:(j==x)=Wc:=by simpa using q
   simp[this]
noncomputable def kZ (a w:List Nat) (i:Nat):List Nat×List (List Nat):=(sQ (a.getD i 0),[sL (w.getD i 0),sQ (a.getD (i+1) 0)])
noncomputable def gV (a w:List Nat):mJ:=(aC w.length).map (kZ a w)++[(sQ (a.getD w.length 0),[])]
noncomputable def y0 (R:mJ) (a w:List Nat):List Nat:=(gV a w).reverse.map λb=>1+R.idxOf b
section
variable {n:Nat} {H:Hp} {Q:V->Hp->Prop} {rr pr wr:Nat}
theorem EZ {i:Nat} {xs:List V} {Q:V->Hp->Prop} (h:H[i]? =V9 (.list xs)) (K:Q (.ref H.length) (H++[.list xs.reverse])):E0 (.ref i) H Q:=.list h K
theorem za {R:mJ} {c w:List Nat} (M:H[rr]? =V9 (.list (vP R))) (D:H[pr]? =V9 (.list (vI c))) (J:H[wr]? =V9 (.list (vW w))) (A:c.length=w.length+1) (B:w.length<=6) (t:∀x∈c,x<10) (C:R.length<=1000)
  (y:∀b∈gV c w,b∈R) (K:∀r i,Ext H i->i[r]? =V9 (.list (vI (y0 R c w)))->Q (.ref r) i):F (n+1) 82 [.ref rr,.ref pr,.ref wr] H Q:=by
 injection 0 n H Q rr pr wr R c w with M D J A B t C y K;refine IU ?_;unfold Uz;have T:(vI c).length<=iH:=fB (k:=7) (by lia) (by decide);exists cU D;refine hX (λv=>match v with| .int x=>.str (sQ x.toNat)|v=>v) D ?_ ?_
 ·intro v l L k;obtain⟨x,b,rfl⟩:=aM.1 l;exists nG (t x b),x6 (aJ rfl) (aJ rfl);exact k
 have P:(vI c).map (λv=>match v with| .int x=>V.str (sQ x.toNat)|v=>v)=vS (c.map sQ):=by unfold vI vS;rw[cI,cI];rfl
 rw[P];have j:=aN H [.list (vS (c.map sQ))];have z:(H++[O.list (vS (c.map sQ))])[H.length]? =V9 (.list (vS (c.map sQ))):=aR;generalize H++[O.list (vS (c.map sQ))]=m at j z;have f:∀i,i<c.length->(vS (c.map sQ))[i]? =V9 (.str (sQ (c.getD i 0))):=λi hi=>by unfold vS;rw[cI,bC,dX (d:=0) hi];rfl
 exists w7 (j.get J);refine jb (λk b i=>i=m/\b=vP ((aC k).map (kZ c w))/\k<=w.length) ⟨rfl,rfl,aP _⟩ (λk a i h=>by rw[h.1];exact j.get J) ?_ ?_
 ·intro k v l b i h o g;injection 0 k v b i o with l h g;obtain⟨e,rfl, -⟩:=h;rw[e];have a:k<w.length:=by have:=cB l;rw[gM,qO]at this;exact this
  rw[jY,z1 (dX (d:=0) a)]at l;rw[←aA l];exists bO z (f k (ff (uV a ts) (tf A))),gZ,bO z (f (k+1) (by lia)),aQ dN,aQ dN;refine g _ _ ⟨rfl,?_,a⟩;rw[cG,bV];exact qQ (p:=kZ c w k)
 ·intro b i h;obtain⟨e,rfl, -⟩:=h;rw[e,gM,qO];have r:=aN m [.list (vP ((aC w.length).map (kZ c w)))];have o:(vS (c.map sQ)).getLast?=V9 (.str (sQ (c.getD w.length 0))):=by
   rw[fV,iU,aB,A,qI];exact f w.length (ff ts (tf A))
  exists iY (r.get z) o,aQ (aP _),aQ dN,aQ one_le,wZ ((aN _ _).get aR) aR (by rw[qP,aB,aU];exact c7 (tb B)) one_le;have S:vP ((aC w.length).map (kZ c w))++[V.tup [.str (sQ (c.getD w.length 0)),.tup []]]=vP (gV c w):=qQ (p:=(sQ (c.getD w.length 0),[]));rw[S];have G:(gV c w).length<=7:=by unfold gV;rw[aH,aB,aU,cP];exact td B
  have h:Ext H (m++[.list (vP ((aC w.length).map (kZ c w)))]++[.list [.tup [.str (sQ (c.getD w.length 0)),.tup []]]]++[.list (vP (gV c w))]):=(j.trans r).app.app;have g:(m++[O.list (vP ((aC w.length).map (kZ c w)))]++[.list [.tup [.str (sQ (c.getD w.length 0)),.tup []]]]++[.list (vP (gV c w))])[(m++[O.list (vP ((aC w.length).map (kZ c w)))]++[O.list [.tup [.str (sQ (c.getD w.length 0)),.tup []]]]).length]? =V9 (.list (vP (gV c w))):=aR;generalize (m++[O.list (vP ((aC w.length).map (kZ c w)))]++[O.list [.tup [.str (sQ (c.getD w.length 0)),.tup []]]]).length=q at g;generalize (m++[O.list (vP ((aC w.length).map (kZ c w)))]++[O.list [.tup [.str (sQ (c.getD w.length 0)),.tup []]]]++[O.list (vP (gV c w))])=N at h g;have I:(vP (gV c w)).reverse=vP (gV c w).reverse:=by unfold vP;rw[gx]
  have U:(vP (gV c w).reverse).length<=iH:=by rw[qP,eT];exact c7 (tb G)
  exists EZ g;rw[I];have u:=(aN N [.list (vP (gV c w).reverse)]).get (h.get M);exists cU aR;refine hX (λv=>match v with| .tup [.str a,.tup b]=>.int (1+R.idxOf (a,(b.map λ| .str s=>s|_=>[])):Nat)|v=>v) aR ?_ ?_
  ·intro v l L k;obtain⟨b,E,rfl⟩:=aM.1 l;have v:=y b (gw.1 E);haveI x:(b.1,((vS b.2).map λ| .str s=>s|_=>[]))=b:=by
    rw[cI];haveI:((λx:V=>match x with| .str s=>s|_=>[]) ∘ V.str)=id:=rfl;rw[this,P3]
   haveI a:L (.int (1+R.idxOf (b.1,((vS b.2).map λ| .str s=>s|_=>[])):Nat)) _:=k;rw[x]at a;refine jw u (yE u Ba (AK v) (Au (i:=1) ?_));exact a
  ·walk_at "w";haveI a:(vP (gV c w).reverse).map (λv=>match v with| .tup [.str a,.tup b]=>V.int (1+R.idxOf (a,(b.map λ| .str s=>s|_=>[])):Nat)|v=>v)=vI (y0 R c w):=by
    delta vP vI y0;rw[cI,cI];apply dU;intro b _;show V.int (1+R.idxOf (b.1,((vS b.2).map λ| .str s=>s|_=>[])):Nat)=V.int (1+R.idxOf b:Nat);haveI x:(b.1,((vS b.2).map λ| .str s=>s|_=>[]))=b:=by rw[cI];haveI:((λx:V=>match x with| .str s=>s|_=>[]) ∘ V.str)=id:=rfl;rw[this,P3]
    rw[x]
   rw[a];exact K _ _ h.app.app aR
end
end
section
noncomputable abbrev ik:List Nat:=[36,101,110,100]
noncomputable def kindAt (w:List Nat) (i:Nat):List Nat:=if i<w.length then sL (w.getD i 0) else ik
noncomputable def QE:Pm:=⟨[0],Wa,0,eu,[],[]⟩
theorem AO {H:Hp} {k:Nat}:∀{a b:List Int},uY (g0 H (k+1)) (vZ a) (vZ b)=V9 (decide (a=b))
 |[],[]=>rfl
 |[],_::_=>rfl
 |_::_,[]=>rfl
 |x::a,y::b=>by show(match g0 H (k+1) (.int x) (.int y),uY (g0 H (k+1)) (vZ a) (vZ b)with|some x,V9 y=>V9 (x&&y)|_,_=>Wa)=_;rw[AO,xl];simp only[Bn,nC]
theorem rm {H:Hp} {a b:List Nat} {q c:Nat} {l l2:List Int} (e:H[q]? =V9 (.list (vZ l))) (f:H[c]? =V9 (.list (vZ l2))) (d:q≠c):
  g0 H 6 (.tup [.str a,.ref q]) (.tup [.str b,.ref c])=V9 (decide (a=b/\l=l2)):=by
 show(match g0 H (4+1) (.str a) (.str b),(match g0 H (4+1) (.ref q) (.ref c),uY (g0 H 5) [] []with|some x,V9 y=>V9 (x&&y)|_,_=>Wa)with|some x,V9 y=>V9 (x&&y)|_,_=>Wa)=_;rw[qk,qo,if_neg d,e,f];show(match V9 (decide (a=b)),(match uY (g0 H (3+1)) (vZ l) (vZ l2),V9 Wb with|some x,V9 y=>V9 (x&&y)|_,_=>Wa)with|some x,V9 y=>V9 (x&&y)|_,_=>Wa)=_;rw[AO];show V9 (decide (a=b)&&(decide (l=l2)&&Wb))=_;rw[mc,nC]
section
variable {n:Nat} {H0 H:Hp} {Q:V->Hp->Prop} {t p wr:Nat} {T:jh} {r:CR} {s s':Pm} {tm:List Nat->Nat} {w:List Nat}
theorem CO.MG (h:CO H0 t T p r s H) {tk:Nat} {k:List Nat} (a:Mg H tk k):CO H0 t T p {r with Ae:=[(tk,k)]} s H:=
 {h with tk:=λx b=>by simp at b;rw[b];exact a}
theorem Dw {f i:Nat} (h:CO H0 t T p r s H) (L:IsT H0 t T) (J:T.G5 tm) (l:r.vals.length+1=s.st.length) (O:fZ T tm f s Wc (kindAt w i)=V9 s')
  (M:s.mo.length+f<4000/\s.st.length+f<4000/\s.md.length+f<4000) (N:s.look=Wa) (X:s'.md.length<=4000) (P:H0[wr]? =V9 (.list (vW w))) (R:w.length<=6)
  (K:∀r' g q,CO H0 t T p r' s' g->r'.vals.length+1=s'.st.length->g[q]? =V9 (.list (vZ s'.md))->Q (.tup [.str s'.nY,.ref q]) g):F (n+8) 83 [.ref p,.ref wr,.int i] H Q:=by
 refine IT ?_;delta Uy;have o:=h.ext.get P;have rest:∀k,k=kindAt w i->eQ pd (F (n+7)) #[.asg 4 (.cM (.nm 0) 96 #[.new 4 #[.nm 3,.nm 3,.none]]),.ret (.tup #[.nm 4,.comp (.fld (.nm 5) 2) (.one 5) (.plain (.fld (.nm 0) 51)) .nil []])]
   [V9 (.ref p),V9 (.ref wr),V9 (.int i),V9 (.str k),Wa,Wa] H (pf Q):=by
  rintro _ rfl;exists h.hU.call (f:=96) rfl rfl;refine C5 λV q A=> ?_;haveI G:=(h.grow q).MG A;refine K6 G L J l O (aD.2 rfl) M (λe=>absurd N e) λU C j y=>((j.f (a:=51) rfl rfl).app (cU j.fa ?_));refine jb (λk b g=>g=C/\b=vZ (s'.md.take k)) ⟨rfl,rfl⟩ (λk a g e=>by rw[e.1];exact j.fa) ?_ ?_
  ·intro k v B b g e W u;obtain⟨e,rfl⟩:=e;rw[e];have E:=cB B;rw[eA]at E;obtain⟨D,m⟩:=fp E;rw[iV m]at B;rw[←aA B];obtain⟨x,S,a,b,c,z⟩:=j.fi k D m;haveI I:iK C D 2 (.int x):=⟨_,_,z,rfl,rfl⟩;refine I.app (u _ _ ⟨rfl,?_⟩);rw[bX,S];simp[vZ]
  ·intro b g e;obtain⟨e,rfl⟩:=e;rw[e,eA,j.fl,bZ];exists aQ dN;exact K U _ _ (j.grow (aN _ _)) y aR
 exists len_list o;rw[qO];by_cases q:i<w.length
 ·refine xn (dP.2 q) (bO o (z1 (dX (d:=0) q)) ?_);exact rest _ (by delta kindAt;rw[if_pos q])
 ·exact xo (ed.2 (dQ.2 (tv ‹_›))) (rest _ (by delta kindAt;rw[if_neg q]))
theorem Oq {H:Hp} {k:Nat} (l:List Nat):uY (g0 H (k+2)) (l.map fH++[mx]) (l.map fH++[mx])=V9 Wb:=by
 induction l with
 |nil=>rfl
 |cons x l a=>show(match V9 (decide (_=_)&&(decide (_=_)&&Wb)),uY (g0 H (k+2)) (l.map fH++[mx]) (l.map fH++[mx])with|some x,V9 y=>V9 (x&&y)|_,_=>Wa)=_;rw[a,decide_eq_true rfl,decide_eq_true rfl];rfl
structure sb (T:jh) (tm:List Nat->Nat) (w:List Nat) (going f:Nat) (ss:Nat->Pm):Prop where
 fle:f<=100
 z:ss 0=QE
 b:∀k,k<=going->(ss k).mo.length<=100/\(ss k).st.length<=100/\(ss k).md=[]/\(ss k).look=Wa/\(ss k).nY=eu
 run:∀k,k<going->fZ T tm f (ss k) Wc (kindAt w k)=V9 (ss (k+1))
theorem sb.step {a f i:Nat} {c:Nat->Pm} (g:sb T tm w a f c) (hi:i<=a) (h:CO H0 t T p r (c i) H) (l:IsT H0 t T) (k:T.G5 tm) (b:r.vals.length+1=(c i).st.length) (o:fZ T tm f (c i) Wc (kindAt w i)=V9 s')
  (m:s'.md.length<=4000) (s:H0[wr]? =V9 (.list (vW w))) (e:w.length<=6)
  (K:∀r' d q,CO H0 t T p r' s' d->r'.vals.length+1=s'.st.length->d[q]? =V9 (.list (vZ s'.md))->Q (.tup [.str s'.nY,.ref q]) d):F (n+8) 83 [.ref p,.ref wr,.int i] H Q:=by
 haveI:=g.fle;obtain⟨q,u,d,j,v⟩:=g.b i hi;exact Dw h l k b o ⟨by lia,by lia,by rw[d];show 0+f<4000;lia⟩ j m s e K
def Mn (H:Hp) (b:V) (c:Option (List Nat)) (a:Nat) (s':Pm):Prop:=match c with
 |none=>b= .none/\s'.nY=t5/\s'.md=[(a:Int)]/\s'.st.length=a+1
 |some l=>∃q,b= .ref q/\H[q]? =V9 (.list (vI l))/\l.length<=100/\s'.nY=tZ/\s'.md=[]/\s'.mo.length<=200/\s'.mo.drop a=l.map fH++[mx]
theorem y6 {b f:Nat} {y:Nat->Pm} {i:V} {s:Option (List Nat)} (D:IsT H t T) (L:T.G5 tm) (Y:0<T.ns) (M:H[wr]? =V9 (.list (vW w))) (j:w.length<=6) (Z:b<=6)
  (m:sb T tm w b f y) (E:∀k,k<b->(y (k+1)).st.length=k+2) (R:fZ T tm f (y b) Wc (kindAt w b)=V9 s')
  (a:Mn H i s b s')
  (K:∀c,Ext H c->Q (.bool Wb) c):F (n+9) 84 [.ref t,.ref wr,.int b,i] H Q:=by
 injection 0 n H Q t wr T s' tm w with b f y i s D L Y M j Z m E R a K;refine IS ?_;unfold Ux;walk_at "w";refine ym D Y λp H1 r1 aa h1 U ab=> ?_;exists eg (c7 (tb Z));refine cQ (σ:=Option V) (λu=>xM t wr (eI b (V9 i::kP p [u,Wa]))) (λk u c=>∃r,CO H t T p r (y k) c/\r.vals.length+1=(y k).st.length) Wa rfl ⟨r1,by rw[m.z];exact h1,by rw[m.z,U];rfl⟩ (λ_ _ _ _=>trivial) ?_ ?_
 ·intro k v S u H2 h G x;obtain⟨l,A⟩:=gW S;rw[A];obtain⟨r2,B,e⟩:=h;obtain⟨I,J,h,N,z⟩:=m.b (k+1) l;walk_at "w";refine m.step (cO l) B D L e (m.run k l) (by rw[h];exact aP _) M j λW r q C o c=> ?_;haveI g:=ez c;exists aQ (aP _),aQ dN;refine nK (rm (l2:=[]) ((aN _ _).get c) aR (cT g)) ?_;haveI d:=C.grow (aN r [.list []]);exists Fh ⟨z,h⟩,(d.f (a:=35) rfl rfl).app<|len_list d.st,nD
  rw[dL,E k l];exists kv (by rfl);exact x (V9 (.int k)) _ ⟨W,d,o⟩
 ·intro u H2 h;obtain⟨r2,B,e⟩:=h;rw[aB,aU]at B e
  induction s with
  |none=>
   obtain⟨A,N,z,X⟩:=a;rw[A];exists is_none;refine m.step (aK _) B D L e R (by rw[z];exact(by decide:1<=4000)) M j λW r q C o c=> ?_;haveI g:=ez c;exists aQ one_le,aQ dN;refine rk (rm (l2:=[(b:Int)]) ((aN _ _).get c) aR (cT g)) ?_;haveI d:=C.grow (aN r [.list [.int b]]);exists Rh ⟨N,z⟩,(d.f (a:=35) rfl rfl).app<|len_list d.st,nD
   rw[dL,X];haveI I:decide (((b+1:Nat):Int)=(b:Int)+1)=Wb:=decide_eq_true (by rfl);rw[I];exact K _ d.ext
  |some l=>
   obtain⟨qd,A,I,e2,N,z,X,d4⟩:=a;rw[A];exists FU;refine m.step (aK _) B D L e R (by rw[z];exact aP _) M j λW r q C o c=> ?_;haveI g:=ez c;exists aQ (aP _),aQ dN;refine nK (rm (l2:=[]) ((aN _ _).get c) aR (cT g)) ?_;haveI d:=C.grow (aN r [.list []]);generalize r++[O.list []]=s at d;exists kv ⟨N,z⟩,(d.f (a:=31) rfl rfl).app<|qX d.mo
   rw[d4];haveI J:=d.grow (aN s [.list (l.map fH++[mx])]);haveI k:(s++[O.list (l.map fH++[mx])])[s.length]? =V9 (.list (l.map fH++[mx])):=aR;haveI h:=ez k;generalize s++[O.list (l.map fH++[mx])]=G at J k h;refine cU (J.ext.get I) (hX (λv=>match v with| .int x=>fH x.toNat|v=>v) (J.ext.get I) ?_ ?_)
   ·intro v S K2 P;obtain⟨x,hx,rfl⟩:=aM.1 S;exact aQ dN P
   ·haveI x:(vI l).map (λv=>match v with| .int x=>fH x.toNat|v=>v)=l.map fH:=by rw[cI];rfl
    rw[x];refine aQ one_le (aQ one_le (wZ ((aN _ _).get aR) aR (by rw[aB];exact c7 (tb e2)) one_le ?_));haveI v:s.length≠(G++[O.list (l.map fH)]++[O.list [V.tup [V.str [97,99,99,101,112,116]]]]).length:=by simp;exact tn (ff h ta)
    haveI a:g0 (G++[O.list (l.map fH)]++[O.list [V.tup [V.str [97,99,99,101,112,116]]]]++[O.list (l.map fH++[V.tup [V.str [97,99,99,101,112,116]]])]) 6 (.ref s.length) (.ref (G++[O.list (l.map fH)]++[O.list [V.tup [V.str [97,99,99,101,112,116]]]]).length)=V9 Wb:=by rw[show(6:Nat)=5+1 from rfl,qo,if_neg v,(((aN G [.list (l.map fH)]).app (l:=[.list [.tup [.str [97,99,99,101,112,116]]]])).app).get k,aR];exact Oq (k:=3) l
    exact rk a (K _ (J.ext.app.app.app))
end
end
section
noncomputable abbrev x8:List Nat:=[114,101,100,117,99,101]
noncomputable abbrev Qt:List Nat:=[115,104,105,102,116]
noncomputable abbrev sAt:List Nat:=[97,99,99,101,112,116]
noncomputable def so (a:Nat):List (List Nat):=[x8]++(aY a [Qt,x8]).flatten++[x8,sAt]
noncomputable def t9 (rows:List (List Int)) (i:Nat):Bool:=decide (0<=gz rows i 0\/0<=gz rows i 1)
noncomputable def tz (G:Gr) (rows:List (List Int)) (i:Nat):Nat:=G.names.idxOf (if t9 rows i then sQ i else [90])
noncomputable def F2:V->V
 | .tup (a::_)=>a
 |v=>v
theorem Df:∀l:List Int,intsOf (vZ l)=V9 l:=by
 intro l
 induction l with
 |nil=>exact rfl
 |cons i r a=>
  skip
  show(intsOf (vZ r)).map _=_;rw[a];rfl
def xB (b:Bool) (c:Nat) (s':Pm):Prop:=match b with
 |false=>s'.nY=t5/\s'.md=[(c:Int)]
 |true=>s'.nY=tZ/\s'.md=[]/\s'.mo.length<=200/\(∀v∈s'.mo,∃a l,v= .tup (a::l))/\s'.mo.map F2=vS (so c)
section
variable {n:Nat} {H0 H:Hp} {Q:V->Hp->Prop} {t p wr dr pr:Nat} {T:jh} {r:CR} {s s':Pm} {tm:List Nat->Nat} {w pt:List Nat} {rows:List (List Int)} {marks:List Bool}
theorem Kn (g:sd rows marks) {i l:Nat} {Q:V->Hp->Prop} (hi:i<rows.length) (f:H[l]? =V9 (.list (vZ (rows.getD i [])))) (K:∀m,(decide (m>=(0:Int)))=t9 rows i->Q (.int m) H):io 7 [.ref l] H Q:=by
 haveI e:=g.two _ (aO (dX (d:=[]) hi));haveI a:rows.getD i []=[gz rows i 0,gz rows i 1]:=by
  delta gz;generalize rows.getD i []=c at e
  match c,e with
  |[a,b],_=>rfl
 rw[a]at f;refine .max f (Df _) rfl (K _ ?_);refine decide_eq_decide.2 ?_;split<;>lia
theorem AX {c f:Nat} {L:Nat->Pm} {e:Bool} (E:IsT H t T) (D:T.G5 tm) (h0:0<T.ns) (hR:gE H dr rows) (Z:sd rows marks) (hp:H[pr]? =V9 (.list (vI pt))) (U:pt.length=c+1) (W:∀x∈pt,x<rows.length)
  (hw:H[wr]? =V9 (.list (vW w))) (y:w.length<=6) (hg:c<=6) (B:sb T tm w c f L) (P:∀x∈pt,(if t9 rows x then sQ x else [90])∈T.G.names)
  (X:∀k,k<c->∃g:Nat,T.go 0 (tz T.G rows (pt.getD (k+1) 0))=g/\(L (k+1)).st=[0,g]) (hs:fZ T tm f (L c) Wc (kindAt w c)=V9 s') (I:xB e c s')
  (K:∀a,Ext H a->Q (.bool Wb) a):F (n+9) 85 [.ref t,.ref dr,.ref pr,.ref wr,.bool e] H Q:=by
 injection 0 n H Q t wr dr pr T s' with tm w pt rows marks c f L e E D h0 hR Z hp U W hw y hg B P X hs I K;refine IR ?_;unfold Uw;have hn:rows.length<=60000:=by have:=Z.n;exact tb this
 have ae:=Z.n;walk_at "w";refine ym E h0 λp H1 r1 aa h1 ah aj=> ?_;exists len_list (aa.get hp),aQ dN;rw[dL,U];have e0:((c+1:Nat):Int)-1=(c:Int):=qJ (c:Int) 1;rw[e0];exists eg (c7 (by lia));refine cQ (σ:=Option V×Option V×Option V) (λu=>D9 t dr pr wr (V9 (.bool e)::kP p (eI c [u.1,u.2.1,u.2.2,Wa]))) (λk u a=>∃r,CO H t T p r (L k) a/\r.vals.length+1=(L k).st.length) (Wa,Wa,Wa) rfl
  ⟨r1,by rw[B.z];exact h1,by rw[B.z,ah];rfl⟩ (λ_ _ _ _=>trivial) ?_ ?_
 ·intro k v hv u H2 h KK ab;obtain⟨hk,e_⟩:=gW hv;rw[e_];obtain⟨r2,A,o⟩:=h;obtain⟨b1,b2,b3,b4,b5⟩:=B.b (k+1) hk;have hx:=dX (l:=pt) (i:=k+1) (d:=0) (by lia);have J:=aO hx;have z:=W _ J;have j:=P _ J;obtain⟨g,N,Y⟩:=X k hk;generalize pt.getD (k+1) 0=x at hx J z j N;have S:=A.ext.get hp;exists gZ,bO S (kX hx);refine km (hR.ext A.ext) z hn λl hl=> ?_;walk_at "w";refine Kn Z z hl λm hm=> ?_;walk_at "w";rw[hm];have ac:=A.tT E;obtain⟨ak,ai,ag, -⟩:=ac.ex;obtain⟨qn,n1,n2⟩:=ag.names;have R:T.G.names.length<=60000:=by have:=D.wf.n;exact tb this
  have rest:∀sy,sy=tz T.G rows x->eQ pd (F (n+8)) #[.ite (.or (.cmp .ne (.call 83 #[.nm 5,.nm 3,.nm 7]) (.tup #[.str [109,111,114,101],.list .nil])) (.cmp .ne (.fld (.nm 5) 35) (.list #[.int 0,.cM (.nm 0) 69 #[.int 0,.nm 9]]))) #[.ret (.bool Wc)] .nil]
    [V9 (.ref t),V9 (.ref dr),V9 (.ref pr),V9 (.ref wr),V9 (.bool e),V9 (.ref p),V9 (.int c),V9 (.int k),V9 (.bool (t9 rows x)),V9 (.int (sy:Nat)),Wa] H2 (jL (pX pd (F (n+8)) #[.ite (.not (.tr (.nm 4))) #[.ret (.cmp .eq (.call 83 #[.nm 5,.nm 3,.nm 6]) (.tup #[.str [97,98,111,114,116,101,100],.list #[.nm 6]]))] .nil,.ite (.cmp .ne (.call 83 #[.nm 5,.nm 3,.nm 6]) (.tup #[.str [97,99,99,101,112,116,101,100],.list .nil])) #[.ret (.bool Wc)] .nil,.ret (.cmp .eq (.comp (.sub (.nm 10) (.int 0)) (.one 10) (.plain (.fld (.nm 5) 31)) .nil []) (.bin .add (.bin .add (.list #[.str [114,101,100,117,99,101]]) (.bin .mul (.list #[.str [115,104,105,102,116],.str [114,101,100,117,99,101]]) (.nm 6))) (.list #[.str [114,101,100,117,99,101],.str [97,99,99,101,112,116]])))] (pf Q)) KK):=by
   rintro _ rfl;walk_at "w";refine B.step (cO hk) A E D o (B.run k hk) (by rw[b3];exact aP _) hw y λr3 C q M G h=> ?_;have r:=ez h;exists aQ (aP _),aQ dN;refine nK (rm (l2:=[]) ((aN _ _).get h) aR (cT r)) ?_;have s:=M.grow (aN C [.list []]);have a:=s.tT E;have af:tz T.G rows x<=1000:=by have:=dT.2 j;have:=D.wf.n;unfold tz;lia
   exists Fh ⟨b5,b3⟩,(s.f (a:=35) rfl rfl).app,a.hU.call (f:=69) rfl rfl,GF (s:=0) a D.toOk h0 af;rw[N];exists aQ dN;have h5:=s.grow (aN (C++[.list []]) [.list [.int 0,.int g]]);have ad:=ez s.st;refine nK (b:=Wb) ?_ ?_
   ·show g0 _ (5+1) _ _=_;rw[qo,if_neg (cT ad),h5.st,aR,Y];exact(AO (k:=4) (a:=[0,(g:Int)]) (b:=[0,(g:Int)])).trans (by simp)
   ·walk_at "w";exact ab (V9 (.int k),V9 (.bool (t9 rows x)),V9 (.int (tz T.G rows x:Nat))) _ ⟨r3,h5,G⟩
  exists n1.app,jw n2
  induction a:t9 rows x with
  |true=>rw[a]at j rest;rw[if_pos rfl]at j;exists gZ,bO S (kX hx),nG (tg (ff z ae)),x6 (aJ rfl) (aJ rfl),ka n2 R j;exact rest _ (by unfold tz;rw[a];rfl)
  |false=>rw[a]at j rest;rw[if_neg nofun]at j;exists ka n2 R j;exact rest _ (by unfold tz;rw[a];rfl)
 ·intro u H2 h;obtain⟨r2,A,o⟩:=h;rw[aB,aU]at A o;walk_at "w"
  induction e with
  |false=>obtain⟨m,j⟩:=I;walk_at "w";refine B.step (aK _) A E D o hs (by rw[j];exact(by decide:1<=4000)) hw y λr3 C q M G h=> ?_;have r:=ez h;exists aQ one_le,aQ dN;refine rk (rm (l2:=[(c:Int)]) ((aN _ _).get h) aR (cT r)) ?_;walk_at "w";rw[decide_eq_true ⟨m,j⟩];exact K _ (M.grow (aN C [.list [.int c]])).ext
  |true=>
   obtain⟨m,j,S,I,J⟩:=I;walk_at "w";refine B.step (aK _) A E D o hs (by rw[j];exact aP _) hw y λr3 C q M G h=> ?_;have r:=ez h;exists aQ (aP _),aQ dN;refine nK (rm (l2:=[]) ((aN _ _).get h) aR (cT r)) ?_;have s:=M.grow (aN C [.list []]);generalize C++[O.list []]=g at s;exists kv ⟨m,j⟩,(s.f (a:=31) rfl rfl).app,cU s.mo;refine hX F2 s.mo ?_ ?_
   ·intro v hv k e;obtain⟨a,l,rfl⟩:=I v hv;walk_at "w";exact e
   ·rw[J];exists aQ one_le,aQ dN;refine iJ.NW aR (show c<=60000 by lia) (show 2*c<=60000 by lia) ?_;have N:((aY c [V.str [115,104,105,102,116],V.str [114,101,100,117,99,101]]).flatten)=vS ((aY c [Qt,x8]).flatten):=by
     unfold vS;rw[List.map_flatten,kI];rfl
    rw[N];have l:((aY c [Qt,x8]).flatten).length<=12:=by rw[CB,kI,zw];show c*2<=12;lia
    generalize x:(aY c [Qt,x8]).flatten=fl at l;haveI v:((g++[O.list (vS (so c))])++[O.list [V.str x8]]++[O.list [V.str [115,104,105,102,116],V.str [114,101,100,117,99,101]]]++[O.list (vS fl)])[(g++[O.list (vS (so c))]).length]? =V9 (.list (vS [x8])):=
     (((aN _ [.list [V.str [115,104,105,102,116],V.str [114,101,100,117,99,101]]]).app (l:=[.list (vS fl)]))).get aR
    haveI e:((g++[O.list (vS (so c))])++[O.list [V.str x8]]++[O.list [V.str [115,104,105,102,116],V.str [114,101,100,117,99,101]]]++[O.list (vS fl)])[g.length]? =V9 (.list (vS (so c))):=
     ((((aN _ [.list [V.str x8]]).app (l:=[.list [V.str [115,104,105,102,116],V.str [114,101,100,117,99,101]]])).app (l:=[.list (vS fl)]))).get aR
    haveI k:Ext H ((g++[O.list (vS (so c))])++[O.list [V.str x8]]++[O.list [V.str [115,104,105,102,116],V.str [114,101,100,117,99,101]]]++[O.list (vS fl)]):=s.ext.app.app.app.app;refine wZ v aR (by rw[iU];exact c7 (by decide)) (by rw[iU];exact c7 (tb l)) ?_;haveI a:=ez e;generalize ((g++[O.list (vS (so c))])++[O.list [V.str x8]]++[O.list [V.str [115,104,105,102,116],V.str [114,101,100,117,99,101]]]++[O.list (vS fl)])=z at e k a;exists aQ dN,wZ ((aN _ _).get aR) aR (by rw[aH,iU,iU];exact c7 (by simp;lia)) dN;haveI R:vS [x8]++vS fl++[V.str [114,101,100,117,99,101],V.str [97,99,99,101,112,116]]=vS (so c):=by delta so vS;rw[x];simp
    rw[R];refine rk (b:=Wb) ?_ ?_
    ·show g0 _ (5+1) _ _=_;rw[qo,if_neg (by rw[aH,aH];simp;exact tn (t1 (tw (uV a ts)))),(((aN z _).app).app).get e,aR];exact(AP (k:=4) (a:=so c) (b:=so c)).trans (by simp)
    ·walk_at "w";exact K _ k.app.app.app
end
end
section
noncomputable def bM (rows:List (List Int)) (w:List Nat):Nat:=(dW rows 0 w).length
noncomputable def fu (rows:List (List Int)) (a:List Bool) (w:List Nat):Bool:=decide (bM rows w=w.length)&&a.getD ((gA rows w).getLastD 0) Wc
def lY (rows:List (List Int)) (a:List Bool) (w:List Nat) (T:jh):Prop:=∃tm f b s',T.G5 tm/\0<T.ns/\sb T tm w (bM rows w) f b/\(∀k,k<bM rows w->(b (k+1)).st.length=k+2)/\
 fZ T tm f (b (bM rows w)) Wc (kindAt w (bM rows w))=V9 s'/\match fu rows a w with
  |false=>s'.nY=t5/\s'.md=[(bM rows w:Int)]/\s'.st.length=bM rows w+1
  |true=>s'.nY=tZ/\s'.md=[]/\s'.mo.length<=200/\s'.mo.drop (bM rows w)=(y0 (bP rows a) (gA rows w) w).map fH++[mx]
def oe (rows:List (List Int)) (a:List Bool) (w:List Nat) (T:jh):Prop:=∃tm f b s',T.G5 tm/\0<T.ns/\sb T tm w (bM rows w) f b/\(∀x∈gA rows w,(if t9 rows x then sQ x else [90])∈T.G.names)/\
 (∀k,k<bM rows w->∃g:Nat,T.go 0 (tz T.G rows ((gA rows w).getD (k+1) 0))=g/\(b (k+1)).st=[0,g])/\fZ T tm f (b (bM rows w)) Wc (kindAt w (bM rows w))=V9 s'/\xB (fu rows a w) (bM rows w) s'
structure zn (prs:mJ) (st:List Nat) (G:Gr) (wd:Bool) (KS:List Nat->List (List Nat)) (Good:jh->Prop) (fd:List Nat) (aV:List (List Nat)) (mv:Nat->List (Nat×Nat)) (rd:Nat->List Nat) (fl:List Nat):Prop where
 Hm:RM prs st
 simple:G.rA
 t3:3<=G.tc
 nd:G.names.Nodup
 uk:Cl G fd->vk G fd (KS fd)
 au:Cl G fd->aV.Nodup->(∀ks∈aV,ks∈KS fd)->(∀k,k<aV.length->Done G fd aV k mv rd)->(∀k,aV.length<=k->mv k=[]/\rd k=[])->Ly G aV rd
 tb:Cl G fd->aV[0]? =V9 [G.off 0]->aV.Nodup->(∀ks∈aV,ks∈KS fd)->(∀k,k<aV.length->Done G fd aV k mv rd)->
  Ms G fl->(∀ru∈G.rules,Gr.Mo G.tc fl ru)->(∀U,G.qu U->∀i,Sb (fl.getD i 0) (U i))->
  ∃rr,(∀k,k<aV.length->pG G (ja rd aV.length) (λr=>fl.getD (G.eR r) 0) mv rd rr k)/\
   Good ⟨G,aV.length,λk=>qh (AQ wd (lK G (ja rd aV.length) (λr=>fl.getD (G.eR r) 0) mv rd) rr k) (lK G (ja rd aV.length) (λr=>fl.getD (G.eR r) 0) mv rd k),λk=>qc G.tc (mv k),AQ wd (lK G (ja rd aV.length) (λr=>fl.getD (G.eR r) 0) mv rd) rr⟩
abbrev Lr (prs:mJ) (st:List Nat) (wd:Bool) (KS:List Nat->List (List Nat)) (Good:jh->Prop):Prop:=∀fd aV mv rd fl,zn prs st (eY prs st) wd KS Good fd aV mv rd fl
section
variable {n:Nat} {H:Hp} {Q:V->Hp->Prop} {pr:Nat} {prs:mJ} {st:List Nat} {wd:Bool} {KS:List Nat->List (List Nat)} {Good:jh->Prop}
structure Bu (prs:mJ) (st:List Nat) (KS:List Nat->List (List Nat)) (a:Nat) (H:Hp):Prop where
 ex:∃g R os aV mv rd fd,kF H g R (eY prs st)/\Cl (eY prs st) fd/\zp H a g os aV mv rd/\aV[0]? =V9 [(eY prs st).off 0]/\aV.Nodup/\(∀ks∈aV,ks∈KS fd)/\(∀k,k<aV.length->Done (eY prs st) fd aV k mv rd)/\(∀k,aV.length<=k->mv k=[]/\rd k=[])
theorem Bu.ext {a:Nat} {b:Hp} (h:Bu prs st KS a H) (e:Ext H b):Bu prs st KS a b:=by injection 0 H prs st KS a b with h e;obtain⟨g,R,k,aV,j,l,fd,c,d,f,i⟩:=h.ex;exact⟨g,R,k,aV,j,l,fd,c.ext e,d,f.ext e,i⟩
theorem t8 (P:Lr prs st wd KS Good) (m:H[pr]? =V9 (.list (vP prs))) (K:∀a b,Ext H b->Bu prs st KS a b->Q (.ref a) b):
  F (n+7) 53 [.ref pr,.str st] H (λv H=>F (n+7) 74 [v] H Q):=by
 haveI q:=P [] [] (λ_=>[]) (λ_=>[]) [];refine K5 (n:=n+5) m q.Hm λg s R d h=> ?_;exact Lb (n:=n) h q.Hm.wf (λfd=>(P fd [] (λ_=>[]) (λ_=>[]) []).uk) (ig _) λa i p aV o r fd b e k j f l hd c=>(K a i (d.trans b) ⟨g,R,p,aV,o,r,fd,h.ext b,e,k,j,f,l,hd,c⟩)
theorem vM {a:Nat} (P:Lr prs st wd KS Good) (w:Bu prs st KS a H) (K:∀t b T,Ext H b->Good T->IsT b t T->Q (.ref t) b):
  F (n+5) 60 [.ref a] H (λv H=>F (n+5) 21 [.ref a,v,.bool wd] H Q):=by
 injection 0 n H Q prs st wd KS Good a with P w K;obtain⟨g,R,I,aV,z,A,fd,v,e,u,C,i,x,hd,j⟩:=w.ex;have q:=P fd aV z A [];have b:=q.au e i x hd j;refine y3 (n:=n) v q.Hm.wf q.simple u b λm G fl c o f r D=> ?_;obtain⟨rr,p,d⟩:=(P fd aV z A fl).tb e C i x hd o f r;haveI y:=q.Hm.wf.r;refine OL (n:=n+2) (rr:=rr) (v.ext c) q.Hm.wf q.nd (a9 (by decide) q.t3) (u.ext c) b.len b.one D (λa l=> ?_) p λt B s k l h E=> ?_
 ·obtain⟨h,k⟩:=nM.mp l;haveI:=b.ok _ _ k;haveI:=b.len;exact⟨by exact tc (ff h this),by lia⟩
 ·exact K t B _ (c.trans l) d ⟨s,k,E,h⟩
end
end
section
theorem yv {rows:List (List Int)} {a:List Bool} (h:sd rows a):sd (ia rows a) (lP rows a):=by
 injection 0 rows a with h;haveI c:(ia rows a).length=rows.length:=by rw[aB,aU]
 refine⟨⟨by rw[c];exact h.n,by rw[c,aB,aU],λr e=> ?_⟩,λr e g k=> ?_⟩
 ·obtain⟨i,hi,rfl⟩:=aM.1 e;rw[aB];exact h.two _ (aO (dX (d:=[]) (aW.1 hi)))
 ·obtain⟨i,hi,rfl⟩:=aM.1 e;obtain⟨j,b,f⟩:=aM.1 k;rw[←f];haveI:=h.lt _ (aO (dX (d:=[]) (aW.1 hi))) j b;rw[c];split
  ·exact this
  ·exact⟨by decide,by lia⟩
theorem ye {rows:List (List Int)} {b:List Bool} (h:sd rows b):∀{w:List Nat} {i:Nat},i<rows.length->(∀c∈w,c<2)->∀x∈dW rows i w,x<rows.length:=by
 intro w
 induction w with
 |nil=>intro _ _ _ x a;cases a
 |cons c w e=>
  intro i hi f x a;unfold dW at a;haveI g:=h.wy hi (f c (aS ..));split at a
  ·cases a
  ·rcases bD.1 a with rfl|a
   ·exact tG (ed.1 (by assumption)) g.2.2
   ·exact e (tG (ed.1 (by assumption)) g.2.2) (λj d=>f j (bA _ d)) x a
theorem hT {rows:List (List Int)}:∀{w:List Nat} {i:Nat},(dW rows i w).length<=w.length:=by
 intro w
 induction w with
 |nil=>intro _;exact aK _
 |cons c w a=>
  intro i;dsimp only[dW];split
  ·exact aP _
  ·rw[dF,dF];exact eN a
structure Co (rows:List (List Int)) (marks:List Bool):Prop where
 empty:bP rows marks=[]->cV rows marks=[(sQ 0,[])]
 full:bP rows marks≠[]->∀w:List Nat,w.length<=6->(∀c∈w,c<2)->(∃K1,Lr (bP rows marks) (sQ 0) Wc K1 (lY rows marks w))/\(∃K2,Lr (cV rows marks) [90] Wb K2 (oe rows marks w))/\
  (fu rows marks w=Wb->∀rd∈gV (gA rows w) w,rd∈bP rows marks)
theorem kn {rows:List (List Int)} {a:List Bool} (h:sd rows a):(bP rows a).length<=12/\(cV rows a).length<=13:=by
 have g:=h.n;have c:∀i,(mU rows i).length<=2/\(lE rows i).length<=2:=λi=>by rw[aB,aB];haveI:=bI (λc=>decide (0<=gz rows i c)) (aC 2);rw[aU]at this;exact⟨this,this⟩
 haveI b:∀(f:Nat->mJ) (b n:Nat),(∀i,(f i).length<=b)->((aC n).flatMap f).length<=b*n:=λf b n d=>by
  induction n with
  |zero=>exact aK _
  |succ n e=>rw[cG,fv,aH];haveI:=d n;rw[lB,sH,bY];rw[Nat.mul_succ];exact fN ‹_› ‹_›
 constructor
 ·refine aE (b _ 3 _ λi=> ?_) (by lia);rw[aH];haveI:=(c i).1;split
  ·rw[cP];exact td this
  ·rw[HM];exact tb ‹_›
 ·delta cV;rw[aH,aH,aB,cP];haveI d:=bI (λi=>a.getD i Wc) (aC rows.length);rw[aU]at d;haveI e:=b (λi=>lE rows i) 2 rows.length (λi=>(c i).2);lia
section
variable {n:Nat} {H:Hp} {Q:V->Hp->Prop}
structure DrI (H0:Hp) (p c m:Nat) (ls:List Nat) (rows:List (List Int)) (H:Hp):Prop where
 kp:fL p H0 H
 len:H0.length<=H.length
 pn:rB H p c
 ll:ls.length=rows.length
 ok:∀(i l:Nat) row,ls[i]? =V9 l->rows[i]? =V9 row->l≠p/\H[l]? =V9 (.list (vZ row))/\row.length=2/\∀g∈row, -1<=g/\g<m
end
end
section
noncomputable def rs (a:List Nat):Nat->En->En
 |_,[]=>[]
 |k,x::l=>(if a.contains k then x else Wa)::rs a (k+1) l
theorem uy {D:PD} {Φ:d9} {e:E} {t:T} {f:Bs} {c:List Nat} {m:En} {Q:V->Hp->Prop} {vs:List V} {b:Hp->Prop} {H:Hp}
  (I:Nat->List V->Hp->Prop) (i:I 0 [] H) (j:∀k a H,I k a H->b H)
  (step:∀k v,vs[k]? =V9 v->∀a H,I k a H->∀K:List V->Hp->Prop,(∀g d,I (k+1) g d->K g d)->
   ∃m',jN t v (iD c m)=V9 m'/\jI D Φ f m' H (yB D Φ e m' a K))
  (d:∀xs H,I vs.length xs H->Q (.ref H.length) (H++[.list xs])):uz D Φ e t f c m Q vs b H:=
 jb I i j (λk v l a H h K g=>Exists.elim (step k v l a H h K g) λ_ q=>q.1▸q.2) d
theorem t6 {a:List Nat} {m:En}:iD a m=rs a 0 m:=by
 injection 0 a m;haveI:∀(m:En) (k:Nat),m.mapIdx (λi v=>if a.contains (i+k) then v else Wa)=rs a k m:=by
  intro m
  induction m with
  |nil=>intro;rfl
  |cons x l b=>intro k;rw[mP,rs,←b (k+1),gR];congr 1;apply lC;intro i;simp[fE,fA 1 k]
 exact this m 0
section
variable {n:Nat} {H:Hp} {Q:V->Hp->Prop}
theorem v6 {t:Nat} {T:jh} (d:IsT H t T) {Q:V->Hp->Prop} (K:∀q,H[q]? =V9 (.list [])->Q (.ref q) H):Oj pd 24 Q (.ref t) H:=by obtain⟨e,c,h, -⟩:=d.ex;obtain⟨q,a,b⟩:=h.Ui;exact a.app (K q b)
theorem Tm {i:Nat} {Q:Hp->Prop} (h:H[i]? =V9 (.list [])) (K:∀a,Ext H a->Q a):Ref (F n) (.ref i) (.str [81,48]) H Q:=by delta Ref QF;haveI a:=aN H [.list []];exists aQ (aP _),cU (a.get h);refine⟨a.get h,?_⟩;exists xb;refine⟨rfl,?_⟩;exact i9 (vs:=[]) (b:=Wc) aR rfl (⟨rfl,K _ a⟩)
theorem Tl {i:Nat} {Q:Hp->Prop} (h:H[i]? =V9 (.list [.tup [.str [81,48],.tup []]])) (K:∀a,Ext H a->Q a):Ref (F n) (.ref i) (.str [90]) H Q:=by injection 0 n H i Q with h K;delta Ref QF;haveI a:=aN H [.list []];exists aQ (aP _),cU (a.get h);refine⟨a.get h,?_⟩;walk_at "w";refine Ke (by decide) ?_;walk_at "w";refine tV ?_;exists aQ ty;refine AG (b:=Wc) rfl ?_;walk_at "w";refine i9 (vs:=[]) (b:=Wc) aR rfl ?_;walk_at "w";refine cF aR (cR aR (c7 (aP _)) ?_);haveI c:Ext H ((H++[O.list []]).set H.length (.list ([]++[V.str [81,48]]))):=a.put (aK _);haveI d:((H++[O.list []]).set H.length (.list ([]++[V.str [81,48]])))[H.length]? =V9 (.list [.str [81,48]]):=cH (by rw[aR];rfl);generalize (H++[O.list []]).set H.length (.list ([]++[V.str [81,48]]))=e at c d;refine⟨c.get h,?_⟩;exists xb;refine⟨rfl,?_⟩;exact i9 (b:=Wc) d rfl (⟨rfl,K _ c⟩)
abbrev QT:V->Hp->Prop:=λv _=>v= .bool Wb
set_option maxHeartbeats 4000000 in
theorem Rt {is:List Int} (hl:is.length<=63) (Y:∀rows a,sd rows a->1<=rows.length->Co (ia rows a) (lP rows a)):
  eQ pd (F (n+9)) NM [V9 (.ro (is.map .int)),Wa,Wa,Wa,Wa,Wa,Wa,Wa,Wa,Wa,Wa,Wa,Wa,Wa,Wa,Wa,Wa,Wa] H λfl m H=>fl= .next/\uP (F (n+9)) (F (n+7)) m H:=by
 injection 0 n H is with hl Y;unfold NM;walk_at "w";refine Rs hl λp H1 df cz bx=> ?_;walk_at "w";refine rt (many:=4) (by decide) (by decide) bx (by decide) λA H2 ck bt dg as=> ?_;have o:1+A<=4:=aE (bT (fA 1 A)) ck;exists Au (i:=1),eg (n:=1+A) (tb o);have ba:p<H2.length:=by obtain⟨a,b, -,e⟩:=as;exact ez e
 refine uy (λk b a=>∃ls rows,b=vR ls/\ls.length=k/\DrI H2 p (1+2*k) (1+A) ls rows a) ⟨[],[],rfl,rfl,fL.id,aK _,as,rfl,λi l r a=>(by simp at a)⟩ (λ_ _ _ _=>trivial) ?_ ?_
 ·intro k v z b u h C w;obtain⟨x,rfl⟩:=gW z;obtain⟨ls,rows,rfl,ah,m⟩:=h;refine⟨_,rfl,?_⟩
  rewrite [t6]
  show jI pd _ _ [Wa,V9 (.ref p),V9 (.int (1+A:Nat)),Wa,Wa,Wa,Wa,Wa,Wa,Wa,Wa,Wa,Wa,Wa,Wa,Wa,V9 (.int k),Wa] _ _;exists eg (n:=2) (c7 (by decide));refine uy (λj b a=>∃c:List Int,b=vZ c/\c.length=j/\fL p u a/\u.length<=a.length/\rB a p (1+2*k+j)/\∀g∈c, -1<=g/\g<(1+A:Nat)) ⟨[],rfl,rfl,fL.id,aK _,m.pn,nofun⟩ (λ_ _ _ _=>trivial) ?_ ?_
  ·intro j v z b H4 h r i;obtain⟨q,rfl⟩:=gW z;obtain⟨c,rfl,y,s,f,t,e⟩:=h;refine⟨_,rfl,?_⟩
   rewrite [t6]
   show jI pd _ _ [Wa,V9 (.ref p),V9 (.int (1+A:Nat)),Wa,Wa,Wa,Wa,Wa,Wa,Wa,Wa,Wa,Wa,Wa,Wa,Wa,Wa,V9 (.int j)] _ _;exists gZ;refine rt (many:=1+A+1) (zM _) (tb (eN o)) t (dp (fN (fy (fx 2 (kD (tw x) o)) 1) (tw q)) (by decide)) λd H5 hd l h b=> ?_;walk_at "w";refine i _ _ ⟨c++[(d:Int)-1],by simp[vZ],by simp[y],s.trans h,kD f (tf l),b,λg a=> ?_⟩;rcases aZ.1 a with a|a
   ·exact e g a
   ·rw[aD.1 a];exact⟨Int.sub_le_sub_right (dC d) 1,Int.sub_right_lt_of_lt_add (dP.2 hd)⟩
  ·intro b H4 h;obtain⟨c,rfl,y,s,f,t,e⟩:=h;rw[aB,aU]at y t;have d:=aN H4 [.list (vZ c)];walk_at "w";rw[mi];refine w _ _ ⟨ls++[H4.length],rows++[c],rfl,by simp[ah],(m.kp.trans s).ext d,kD m.len (kD f tq),t.ext d,by simp[m.ll],λi l r a b=> ?_⟩;by_cases q:i<ls.length
   ·rw[bH q]at a;rw[bH (by rw[←m.ll];exact q)]at b;obtain⟨c1,c2,g,h⟩:=m.ok i l r a b;exact⟨c1,d.get (s.get c1 c2),g,h⟩
   ·rw[bR (tv q)]at a;have g:=cB a;have hi:i=ls.length:=ti q (wu.1 g);subst hi;rw[bR (by rw[m.ll];exact aK _),m.ll,eS]at b;rw[eS]at a;cases a;cases b;exact⟨j7 (ff ba (kD m.len f)),aR,y,e⟩
 ·intro b u h;obtain⟨ls,rows,rfl,ah,m⟩:=h;rw[aB,aU]at ah m;have Z:rows.length=1+A:=by rw[←m.ll,ah]
  have ay:u.length<=(u++[O.list (vR ls)]).length:=tq;have bj:(u++[O.list (vR ls)])[u.length]? =V9 (.list (vR ls)):=aR;have cl:fL p H2 (u++[O.list (vR ls)]):=m.kp.ext (aN _ _);have au:=m.pn.ext (aN u [.list (vR ls)]);have G:∀(i l:Nat) c,ls[i]? =V9 l->rows[i]? =V9 c->l≠p/\(u++[O.list (vR ls)])[l]? =V9 (.list (vZ c))/\c.length=2/\∀g∈c, -1<=g/\g<(1+A:Nat):=λi l c a b=>by obtain⟨c1,c2,g,h⟩:=m.ok i l c a b;exact⟨c1,(aN _ _).get c2,g,h⟩
  have U:H2.length<=u.length:=m.len;have bu:u.length<(u++[O.list (vR ls)]).length:=tr;generalize u++[O.list (vR ls)]=H4 at bj cl au G bu ay;exists eg (n:=1+A) (tb o);refine uy (λk b a=>∃B:List Bool,b=vB B/\B.length=k/\fL p H4 a/\H4.length<=a.length/\rB a p (1+2*(1+A)+k)) ⟨[],rfl,rfl,fL.id,aK _,au⟩ (λ_ _ _ _=>trivial) ?_ ?_
  ·intro k v z b H5 h C w;obtain⟨x,rfl⟩:=gW z;obtain⟨B,rfl,ai,s,f,t⟩:=h;refine⟨_,rfl,?_⟩
   rewrite [t6]
   show jI pd _ _ [Wa,V9 (.ref p),Wa,Wa,Wa,Wa,Wa,Wa,Wa,Wa,Wa,Wa,Wa,Wa,Wa,Wa,V9 (.int k),Wa] _ _;walk_at "w";refine rt (many:=2) (by decide) (by decide) t (dp (fN (fy (fx 2 o) 1) (kD (tw x) o)) (by decide)) λd H6 hd b a I=> ?_;walk_at "w";exact w _ _ ⟨B++[decide ((d:Int)=1)],by simp[vB],by simp[ai],s.trans a,kD f (tf b),I⟩
  ·intro b H5 h;obtain⟨B,rfl,ai,s,f,t⟩:=h;rw[aB,aU]at ai t;have aa:=aN H5 [.list (vB B)];have bo:gE (H5++[.list (vB B)]) u.length rows:=⟨ls,aa.get (s.get (j7 (ff ba U)) bj),m.ll,λi l c a b=>by
    obtain⟨c1,c2, -, -⟩:=G i l c a b;exact aa.get (s.get c1 c2)⟩
   have bn:(H5++[O.list (vB B)])[H5.length]? =V9 (.list (vB B)):=aR;have hA:sd rows B:=⟨⟨kD (te Z) o,ai.trans Z.symm,λr b=>by
     obtain⟨i,hi,rfl⟩:=dw b;obtain⟨l,hl⟩:=fp (l:=ls) (i:=i) (by rw[m.ll];exact hi);exact(G i l _ hl (aF hi)).2.2.1⟩,λr b g a=>by
     obtain⟨i,hi,rfl⟩:=dw b;obtain⟨l,hl⟩:=fp (l:=ls) (i:=i) (by rw[m.ll];exact hi);rw[Z];exact(G i l _ hl (aF hi)).2.2.2 g a⟩
   have I:=t.ext aa;have v:p<(H5++[O.list (vB B)]).length:=ff ba (kD U (kD (tw bu) (kD f tq)));generalize H5++[O.list (vB B)]=H6 at bo bn I v aa;walk_at "w";refine OJ bo bn hA.toALen λr1 r2 H7 bk af E ae=> ?_;have ac:=Y rows B hA (kD ta (tf Z));have d:=yv hA;have J:1<=(ia rows B).length:=by unfold ia;rw[aB,aU];exact kD ta (tf Z)
   obtain⟨y,bv⟩:=kn d;have bz:=I.ext bk;generalize ia rows B=R at af E ac d J y bv;generalize lP rows B=M at ae ac d y bv;walk_at "w";refine GA af ae d λr6 H8 ab cr cj=> ?_;walk_at "w";refine K8 (af.ext ab) (ab.get ae) d λr7 H9 bl cs ad=> ?_;exists aQ dN;refine⟨rfl,?_⟩;unfold uP Un;exists aQ (aP _);have k:=bl.get cj;have bw:=ez k;refine rk (eq_nil (xs:=vP (bP R M)) ((aN _ _).get k) aR (tn bw)) ?_;have ar:vP (bP R M)=[]↔bP R M=[]:=by unfold vP;exact kj
   by_cases l:bP R M=[]
   ·have b:=ac.empty l;rw[decide_eq_true (ar.mpr l)];exact⟨_,_,rfl,rfl,Tm (by rw[l]at k;exact(aN _ _).get k) λa hE=>Tl (hE.get (by rw[b]at ad;exact(aN _ _).get ad)) λ_ _=>trivial⟩
   ·rw[decide_eq_false λe=>l (ar.mp e)];show eQ pd _ GW _ _ (pf QT);unfold GW;walk_at "w";have g:Ext H7 (H9++[.list []]):=(ab.trans bl).app;have Q:=(aN H9 [.list []]).get k;have N:=(aN H9 [.list []]).get ad;have cy:=ez ad;have C:=bk.len;have az:=ab.len;generalize H9++[O.list []]=cg at g Q N;have P:=g.get ae;have X:=bz.ext g;have aq:∀a,fL p cg a->gE a r1 R:=λa x=>E a λi hi c=>by
     have b:=g i c;rw[x i (j7 (ff v hi)) (by rw[b];exact c),b]
    refine OE (c0:=1+2*(1+A)+(1+A)) (af.ext g) d J X (aE (fN (fy (fx 2 o) 1) o) (by decide)) (ff v (kD C g.len)) (λ_ _=>trivial) aq λrw bg w i j bd hW=> ?_;have ap:=aq bg i;have S:=i.get (j7 (ff v (kD C cr))) Q;have ax:=i.get (j7 (ff v (kD C (kD az cs)))) N;have bm:bg[r2]? =V9 (.list (vB M)):=by refine i.get (λe=> ?_) P;obtain⟨a,b, -,q⟩:=X;rw[e,q]at P;have h:0<M.length:=ff J (tf d.m);have:(vB M)[0]? =V9 (.bool (M.getD 0 Wc)):=jC h;rw[←O.list.inj (aA P)]at this;cases this
    walk_at "w";refine OG ap d J hW (tb j) bd λrp bh e hP=> ?_;obtain⟨⟨K1,P1⟩,⟨K2,P2⟩,aj⟩:=ac.full l w j bd;have ag:bM R w<=w.length:=hT;have r:(gA R w).length=bM R w+1:=rfl;have W:∀x∈gA R w,x<R.length:=λx b=>by
     rcases bD.1 b with rfl|b
     ·exact J
     ·exact ye d J bd x b
    have D:=e.get hW;have dh:(vI (gA R w)).length<=iH:=fB (k:=10) (tb (kD (te r) (eN (kD ag j)))) (by decide);have a:∀b:Bool,b=fu R M w->∀cb cc cd ce cf be bf,eQ pd (F (n+9)) OQ
      [V9 (.ro (is.map .int)),V9 (.ref p),V9 (.int (1+A:Nat)),V9 (.ref u.length),V9 (.ref r1),V9 (.ref r2),V9 (.ref r6),V9 (.ref r7),V9 (.ref rw),V9 (.ref rp),V9 (.bool b),cb,cc,cd,ce,cf,be,bf] bh (pf QT):=by
     intro b hb cb cc cd ce cf be bf;unfold OQ;walk_at "w";refine t8 (n:=n+2) P1 (e.get S) λa1 da al ch=> ?_;walk_at "w";refine t8 (n:=n+2) P2 (al.get (e.get ax)) λa2 db am ci=> ?_;exists aQ dN;refine vM (n:=n+4) P1 (ch.ext am) λt1 dc T1 an h q=> ?_;walk_at "w";refine vM (n:=n+4) P2 (ci.ext an) λt2 av T2 ao x T=> ?_;exists aQ dN;have q:=q.ext ao;refine v6 q λc1 bp=> ?_;have cm:=ez bp;exists aQ (aP _);refine nK (eq_nil (xs:=[]) ((aN _ _).get bp) aR (tn cm)) ?_;exists Fh rfl;have K:=aN av [.list []];refine v6 (T.ext K) λc2 bq=> ?_;have bt:=ez bq;exists aQ (aP _);refine nK (eq_nil (xs:=[]) ((aN _ _).get bq) aR (tn bt)) ?_;exists kv rfl;have a:Ext bh (av++[.list []]++[.list []]):=(al.trans (am.trans (an.trans ao))).app.app;have q:=q.ext (K.app (l:=[.list []]));have T:=T.ext (K.app (l:=[.list []]));generalize av++[O.list []]++[O.list []]=bi at a q T;obtain⟨dk,f1,di,s1,cn,cv,cp,ct,bb,z⟩:=h;obtain⟨dm,f2,dj,s2,co,cw,cq,bs,cu,bc,ca⟩:=x;have e0:((bM R w+1:Nat):Int)-1=(bM R w:Int):=qJ (bM R w:Int) 1;have ak:∀(ak:V) (dl:Option (List Nat)) x,Ext bi x->Mn x ak dl (bM R w) s1->ej pd (F (n+9)) (.and (.call 84 #[.nm 13,.nm 8,.bin .sub (.blt 0 #[.nm 9]) (.int 1),.nm 15]) (.call 85 #[.nm 14,.nm 4,.nm 9,.nm 8,.nm 10]))
       [V9 (.ro (is.map .int)),V9 (.ref p),V9 (.int (1+A:Nat)),V9 (.ref u.length),V9 (.ref r1),V9 (.ref r2),V9 (.ref r6),V9 (.ref r7),V9 (.ref rw),V9 (.ref rp),V9 (.bool b),V9 (.ref a1),V9 (.ref a2),V9 (.ref t1),V9 (.ref t2),V9 ak,be,bf] x QT:=by
      intro ak dl x hE br;have aw:=a.trans hE;exists len_list (aw.get hP);rw[dL,r,e0];refine y6 (n:=n) (q.ext hE) cn cv (aw.get D) j (kD ag j) cp ct bb br λdd h=> ?_;walk_at "w";have L:=aw.trans h;refine AX (n:=n) ((T.ext hE).ext h) co cw ((ap.ext e).ext L) d (L.get hP) r W (L.get D) j (kD ag j) cq bs cu bc (by rw[hb];exact ca) λde cx=> ?_;exact rfl
     walk_at "w"
     induction L:fu R M w with
     |false=>rw[L]at z hb;subst hb;walk_at "w";exact ak .none Wa bi Ext.yc ⟨rfl,z⟩
     |true=>rw[L]at z hb;subst hb;have br:bM R w=w.length:=of_decide_eq_true (cL.1 L).1;have aw:=d.n;walk_at "w";refine za (a.get (e.get S)) (a.get hP) (a.get D) (by rw[r,br]) j (λx b=>by haveI:=W x b;exact tg (ff this aw)) (tb y) (aj L) λb x h ay=> ?_;haveI w1:=z.1;haveI w2:=z.2.1;haveI w3:=z.2.2.1;haveI w4:=z.2.2.2;refine ak (.ref b) (V9 (y0 (bP R M) (gA R w) w)) x h ⟨b,rfl,ay,?_,w1,w2,w3,w4⟩;rw[aB,eT,aH,aB,aU,cP];exact td j
    refine len_list hP (len_list D ?_);rw[dL,qO,r];have b:(vI (gA R w)).getLast?=V9 (.int ((gA R w).getLastD 0:Nat)):=by
     rw[jm];haveI:(gA R w).getLast?=V9 ((gA R w).getLastD 0):=by rw[fU,D1];rfl
     rw[this];rfl
    haveI h:(gA R w).getLastD 0<R.length:=by
     refine W _ ?_;rw[fU,D1]
     induction h:(dW R 0 w).getLast? with
     |none=>exact .head _
     |some z=>simp only[DV];exact bA _ (fk h)
    haveI x:=d.m;by_cases q:bM R w=w.length
    ·exists Rh (dP.2 (hO (tf q))),iY hP b,bO (e.get bm) (jC (by rw[x];exact h));exact a _ (by delta fu;rw[decide_eq_true q,g7]) Wa Wa Wa Wa Wa Wa Wa
    ·haveI hz:=ed.2 (dQ.2 (kT ag q));exists T5 hz;rw[decide_eq_false hz];exact a _ (by delta fu;rw[decide_eq_false q,kM]) Wa Wa Wa Wa Wa Wa Wa
end
end
section
inductive wm (rows:List (List Int)) (a:Nat):Nat->Prop
 |refl:wm rows a a
 |step {j c:Nat}:wm rows a j->j<rows.length->c<2->0<=gz rows j c->wm rows a (gz rows j c).toNat
def mK (rows:List (List Int)) (marks:List Bool) (i:Nat):Prop:=(∃c,c<2/\0<=gz rows i c)\/marks.getD i Wc=Wb
structure gm (R:List (List Int)) (M:List Bool):Prop where
 A8:sd R M
 go:∀i c,i<R.length->c<2->0<=gz R i c->mK R M (gz R i c).toNat
 Tn:∀i,i<R.length->mK R M i->wm R 0 i
 liv:∀i,i<R.length->mK R M i->∃k,k<R.length/\wm R i k/\M.getD k Wc=Wb
section
variable {rows:List (List Int)} {marks:List Bool}
theorem yj (k:sd rows marks) {m:List Nat} {i x:Nat} (hi:i<rows.length):x∈wS rows m i↔∃c,c<2/\0<=gz rows i c/\(gz rows i c).toNat=x/\x∉m:=by
 injection 0 rows marks m i x with k hi;haveI f:=k.two _ (aO (dX (d:=[]) hi));delta wS;rw[aM];constructor
 ·intro a;obtain⟨g,l,rfl⟩:=a;injection 0 g with l;haveI a:=aG.1 l;haveI n:=a.1;haveI h:=a.2;obtain⟨c,b,e⟩:=dw n;haveI j:gz rows i c=g:=hV (by rw[aF b,e]);exact⟨c,by exact ff b (te f),by rw[j];exact(of_decide_eq_true h).1,by rw[j],(of_decide_eq_true h).2⟩
 ·intro a;obtain⟨c,b,a,rfl,e⟩:=a;exact⟨gz rows i c,aG.2 ⟨aO (dX (d:= -1) (ff b (tf f))),decide_eq_true ⟨a,e⟩⟩,rfl⟩
theorem BU (j:sd rows marks) {l:List Nat} {i:Nat} (hi:i<rows.length):yJ rows l i≠[]↔∃c,c<2/\0<=gz rows i c/\(gz rows i c).toNat∈l:=by
 injection 0 rows marks l i with j hi;haveI f:=j.two _ (aO (dX (d:=[]) hi));delta yJ;constructor
 ·intro h;refine uX λo=> ?_;obtain⟨g,n⟩:=wv _ h;obtain⟨e,k⟩:=aG.1 n;obtain⟨c,a,b⟩:=dw e;haveI m:gz rows i c=g:=hV (by rw[aF a,b]);exact o (⟨c,by exact ff a (te f),by rw[m];exact of_decide_eq_true k⟩)
 ·rintro⟨c,a,b,h⟩ e;haveI:gz rows i c∈(rows.getD i []).filter λg=>decide (0<=g/\g.toNat∈l):=
   aG.2 ⟨aO (dX (d:= -1) (ff a (tf f))),decide_eq_true ⟨b,h⟩⟩
  have this:=(e)▸this;cases this
abbrev Ln (s t:List Nat×List Nat):Prop:=(∀x∈s.1,x∈t.1)/\(∀x∈s.2,x∈t.2)
theorem qW (s:List Nat×List Nat) (i:Nat):Ln s (iC rows s i):=by
 delta iC;constructor
 ·intro x a;dsimp only;split
  ·exact bB _ a
  ·exact a
 ·intro x a;dsimp only;split
  ·exact bB _ a
  ·exact a
theorem ou:∀(l:List Nat) (s:List Nat×List Nat),Ln s (l.foldl (iC rows) s):=by
 intro l
 induction l with
 |nil=>intro s;exact⟨λ_ h=>h,λ_ h=>h⟩
 |cons i l b=>intro s;haveI c:=qW (rows:=rows) s i;haveI d:=b (iC rows s i);exact⟨λx a=>d.1 x (c.1 x a),λx a=>d.2 x (c.2 x a)⟩
theorem Bw {s:List Nat×List Nat} {i:Nat} (hi:i<rows.length):∃sc,Ln s sc/\Ln (iC rows sc i) (jJ rows s):=by
 refine⟨(aC i).foldl (iC rows) s,ou _ _,?_⟩;haveI e:aC rows.length=aC i++(i::(aC (rows.length-i-1)).map (i+1+·)):=by
  haveI:rows.length=i+(1+(rows.length-i-1)):=by rw[Nat.sub_sub,←fE,Hh hi]
  conv=>lhs;rw[this,vr,vr]
  simp[zR,fE]
 delta jJ;rw[e,d6,dG];exact ou _ _
def VY (rows:List (List Int)) (m:List Nat):Prop:=∀i c,i<rows.length->i∈m->c<2->0<=gz rows i c->(gz rows i c).toNat∈m
def VZ (rows:List (List Int)) (l:List Nat):Prop:=∀i c,i<rows.length->c<2->0<=gz rows i c->(gz rows i c).toNat∈l->i∈l
theorem EE (f:sd rows marks) {s:List Nat×List Nat} (h:∀x∈(jJ rows s).1,x∈s.1):VY rows s.1:=λi c hi a g d=>by
 obtain⟨sc,e,b⟩:=Bw (s:=s) hi;by_cases q:(gz rows i c).toNat∈sc.1
 ·exact h _ (b.1 _ ((qW sc i).1 _ q))
 ·refine h _ (b.1 _ ?_);dsimp only[iC];rw[if_pos (e.1 i a)];exact aT _ ((yj f hi).2 ⟨c,g,d,rfl,q⟩)
theorem EF (e:sd rows marks) {s:List Nat×List Nat} (h:∀x∈(jJ rows s).2,x∈s.2):VZ rows s.2:=λi c hi f b g=>by
 obtain⟨sc,d,a⟩:=Bw (s:=s) hi;by_cases q:i∈sc.2
 ·exact h _ (a.2 _ ((qW sc i).2 _ q))
 ·refine h _ (a.2 _ ?_);delta iC;dsimp only;rw[if_pos ⟨q,(BU e hi).2 ⟨c,f,b,d.2 _ g⟩⟩];exact aT _ (aD.2 rfl)
theorem fold_all (f:sd rows marks) {P L:Nat->Prop} (k:∀i c,i<rows.length->P i->c<2->0<=gz rows i c->P (gz rows i c).toNat) (h:∀i c,i<rows.length->c<2->0<=gz rows i c->L (gz rows i c).toNat->L i):
  ∀(l:List Nat) (s:List Nat×List Nat),(∀i∈l,i<rows.length)->(∀x∈s.1,P x)->(∀x∈s.2,L x)->(∀x∈(l.foldl (iC rows) s).1,P x)/\(∀x∈(l.foldl (iC rows) s).2,L x)
 |[],s,_,b,d=>⟨b,d⟩
 |i::l,s,m,b,d=>by
  have hi:=m i (aS ..);refine fold_all f k h l (iC rows s i) (λj a=>m j (bA _ a)) ?_ ?_
  ·intro x a;unfold iC at a;dsimp only at a;split at a
   ·next q=>
    rcases aZ.1 a with a|a
    ·exact b x a
    ·obtain⟨c,g,e,j, -⟩:=(yj f hi).1 a;rw[←j];exact k i c hi (b i q) g e
   ·exact b x a
  ·intro x a;unfold iC at a;dsimp only at a;split at a
   ·next q=>
    rcases aZ.1 a with a|a
    ·exact d x a
    ·rw[aD.1 a];obtain⟨c,g,e,j⟩:=(BU f hi).1 q.2;exact h i c hi g e (d _ j)
   ·exact d x a
theorem Da {p q:Nat->Bool} {x:Nat}:∀{l:List Nat},(∀y∈l,q y=Wb->p y=Wb)->x∈l->p x=Wb->q x=Wc->(l.filter q).length<(l.filter p).length:=by
 injection 0 p q x;intro l
 induction l with
 |nil=>intro _ c _ _;cases c
 |cons a l f=>
  intro h c g i;haveI b:(l.filter q).length<=(l.filter p).length:=by
   haveI:∀(l:List Nat),(∀y∈l,q y=Wb->p y=Wb)->(l.filter q).length<=(l.filter p).length:=by
    intro l
    induction l with
    |nil=>intro _;exact aK _
    |cons b l e=>
     intro h;haveI:=e (λy d=>h y (bA _ d));haveI j:=h b (aS ..);rw[eK,eK]
     induction d:q b with
     |true=>rw[j d];simp;exact this
     |false=>cases p b<;>simp<;>omega+splitNatSub
   exact this l (λy d=>h y (bA _ d))
  rw[eK,eK];rcases bD.1 c with rfl|c
  ·rw[g,i];simp;exact t1 b
  ·have e:=f (λy d=>h y (bA _ d)) c g i;haveI j:=h a (aS ..)
   induction d:q a with
   |true=>rw[j d];simp;exact e
   |false=>cases p a<;>simp<;>omega+splitNatSub
noncomputable def miss (n:Nat) (m:List Nat):Nat:=((aC n).filter λi=> !decide (i∈m)).length
theorem wT {n:Nat} {m m':List Nat} {x:Nat} (h:∀y∈m,y∈m') (d:x<n) (b:x∈m') (c:x∉m):miss n m'<miss n m:=
 Da (x:=x) (λy _ a=>by rw[Bool.not_eq_true',decide_eq_false_iff_not]at a⊢;exact λe=>a (h y e)) (aW.2 d) (by simp[c]) (by simp[b])
theorem closed (e:sd rows marks) (p:1<=rows.length):VY rows (ib rows marks).1/\VZ rows (ib rows marks).2:=by
 injection 0 rows marks with e p;haveI b:∀t,let s:=(aC t).foldl (λs _=>jJ rows s) ([0],q8 rows marks)
   (0∈s.1)/\(∀x∈s.1,x<rows.length)/\(∀x∈s.2,x<rows.length)/\(VY rows s.1\/miss rows.length s.1+t+1<=rows.length)/\(VZ rows s.2\/miss rows.length s.2+t<=rows.length):=by
  intro t
  induction t with
  |zero=>
   refine⟨by simp,by simp;lia,λx c=>aW.1 (aG.1 c).1,bG ?_,bG ?_⟩
   ·haveI:=wT (n:=rows.length) (m:=[]) (m':=[0]) (x:=0) (λ_ h=>(c8 h).elim) (by lia) (by simp) (by simp);haveI a:miss rows.length []<=rows.length:=aE (bI _ _) (by simp);show miss rows.length [0]+0+1<=_;lia
   ·exact aE (bI _ _) (by simp)
  |succ t k=>
   rw[cG,d6];generalize (aC t).foldl (λs _=>jJ rows s) ([0],q8 rows marks)=s at k⊢;haveI r:=k.1;haveI u:=k.2.1;haveI v:=k.2.2.1;haveI g:=k.2.2.2.1;haveI j:=k.2.2.2.2;haveI f:=ou (rows:=rows) (aC rows.length) s;haveI o:∀i∈aC rows.length,i<rows.length:=λi hi=>aW.1 hi;have l:=fold_all e (P:=λx=>x<rows.length) (L:=λx=>x<rows.length) (λi c hi _ b a=>tG a (e.wy hi b).2.2) (λi c hi _ _ _=>hi) (aC rows.length) s o u v;refine⟨f.1 _ r,l.1,l.2,?_,?_⟩
   ·rcases g with g|g
    ·left;have h:=fold_all e (P:=λx=>x∈s.1) (L:=λ_=>True) (λi c hi d b a=>g i c hi d b a) (λ_ _ _ _ _ _=>trivial) (aC rows.length) s o (λ_ h=>h) (λ_ _=>trivial);exact λi c hi d b a=>f.1 _ (g i c hi (h.1 i d) b a)
    ·by_cases q:∀x∈(jJ rows s).1,x∈s.1
     ·left;haveI:=EE e q;exact λi c hi d b a=>f.1 _ (this i c hi (q i d) b a)
     ·right;obtain⟨x,c⟩:=wx.1 q;obtain⟨a,b⟩:=zB.1 c;haveI:=wT f.1 (l.1 x a) a b;show miss _ (jJ rows s).1+(t+1)+1<=_;delta jJ;lia
   ·rcases j with j|j
    ·left;have h:=fold_all e (P:=λ_=>True) (L:=λx=>x∈s.2) (λ_ _ _ _ _ _=>trivial) (λi c hi b a d=>j i c hi b a d) (aC rows.length) s o (λ_ _=>trivial) (λ_ h=>h);exact λi c hi b a d=>f.2 _ (j i c hi b a (h.2 _ d))
    ·by_cases q:∀x∈(jJ rows s).2,x∈s.2
     ·left;haveI:=EF e q;exact λi c hi b a d=>f.2 _ (this i c hi b a (q _ d))
     ·right;obtain⟨x,c⟩:=wx.1 q;obtain⟨a,b⟩:=zB.1 c;haveI:=wT f.2 (l.2 x a) a b;show miss _ (jJ rows s).2+(t+1)<=_;delta jJ;lia
 haveI:=b rows.length;haveI g:=this.2.2.2.1;haveI j:=this.2.2.2.2;constructor
 ·rcases g with h|h
  ·exact h
  ·lia
 ·rcases j with h|h
  ·exact h
  ·haveI a:miss rows.length (ib rows marks).2=0:=by
    show miss _ ((aC rows.length).foldl (λs _=>jJ rows s) ([0],q8 rows marks)).2=0;lia
   intro i c hi _ _ _;haveI:=jZ a;haveI d:=gO.1 this i (aW.2 hi);simpa using d
end
end
section
section
variable {rows:List (List Int)} {marks:List Bool}
theorem wm.head {i c k:Nat} (hi:i<rows.length) (f:c<2) (a:0<=gz rows i c) (h:wm rows (gz rows i c).toNat k):wm rows i k:=by
 induction h with
 |refl=>exact .step .refl hi f a
 |step _ b d e g=>exact .step g b d e
theorem Km (f:sd rows marks) (g:1<=rows.length):(∀x∈(ib rows marks).1,x<rows.length/\wm rows 0 x)/\(∀x∈(ib rows marks).2,∃k,k<rows.length/\wm rows x k/\marks.getD k Wc=Wb)/\
  0∈(ib rows marks).1/\(∀i,i<rows.length->marks.getD i Wc=Wb->i∈(ib rows marks).2):=by
 injection 0 rows marks with f g;haveI a:∀t,let s:=(aC t).foldl (λs _=>jJ rows s) ([0],q8 rows marks)
   (∀x∈s.1,x<rows.length/\wm rows 0 x)/\(∀x∈s.2,∃k,k<rows.length/\wm rows x k/\marks.getD k Wc=Wb)/\0∈s.1/\(∀i,i<rows.length->marks.getD i Wc=Wb->i∈s.2):=by
  intro t
  induction t with
  |zero=>
   refine⟨λx a=> ?_,λx a=> ?_,by exact .head _,λi hi e=>aG.2 ⟨aW.2 hi,e⟩⟩
   ·haveI b:x=0:=by simpa using a
    rw[b];exact⟨by assumption,.refl⟩
   ·haveI:=aG.1 a;exact⟨x,aW.1 this.1,.refl,this.2⟩
  |succ t a=>
   rw[cG,d6];generalize (aC t).foldl (λs _=>jJ rows s) ([0],q8 rows marks)=s at a⊢;haveI l:=a.1;haveI m:=a.2.1;haveI n:=a.2.2.1;haveI o:=a.2.2.2;haveI e:=ou (rows:=rows) (aC rows.length) s;haveI j:∀i∈aC rows.length,i<rows.length:=λi hi=>aW.1 hi;haveI c:=fold_all f (P:=λx=>x<rows.length/\wm rows 0 x) (L:=λx=>∃k,k<rows.length/\wm rows x k/\marks.getD k Wc=Wb)
    (λi c hi h d b=>⟨tG b (f.wy hi d).2.2,.step h.2 hi d b⟩) (λi c hi d b h=>by obtain⟨k,h,p,q⟩:=h;exact⟨k,h,p.head hi d b,q⟩) (aC rows.length) s j l m
   exact⟨c.1,c.2,e.1 _ n,λi hi b=>e.2 _ (o i hi b)⟩
 exact a rows.length
theorem lO:(ia rows marks).length=rows.length:=by rw[aB,aU]
theorem uj (f:sd rows marks) {i c:Nat} (hi:i<rows.length) (h:c<2):gz (ia rows marks) i c=if i∈kept rows marks/\0<=gz rows i c/\(gz rows i c).toNat∈kept rows marks then gz rows i c else-1:=by
 haveI b:=f.two _ (aO (dX (d:=[]) hi));haveI a:(ia rows marks).getD i []=(rows.getD i []).map λg=>if i∈kept rows marks/\0<=g/\g.toNat∈kept rows marks then g else-1:=by apply hV;rw[bC,ew hi];rfl
 haveI e:(rows.getD i [])[c]? =V9 (gz rows i c):=dX (d:= -1) (ff h (tf b));show((ia rows marks).getD i []).getD c (-1)=_;rw[a];exact hV (by rw[bC,e];rfl)
theorem vT {i:Nat} (hi:i<rows.length):(lP rows marks).getD i Wc=(marks.getD i Wc&&decide (i∈kept rows marks)):=by apply hV;rw[bC,ew hi];rfl
theorem Kt (f:sd rows marks) (r:1<=rows.length):gm (ia rows marks) (lP rows marks):=by
 injection 0 rows marks with f r;obtain⟨y,z,A,B⟩:=Km f r;obtain⟨s,t⟩:=closed f r;haveI b:∀i,i∈kept rows marks↔i∈(ib rows marks).1/\i∈(ib rows marks).2:=λi=>by delta kept;rw[aG,decide_eq_true_iff]
 have p:∀a k,wm rows a k->a∈(ib rows marks).1->k<rows.length->(k∈(ib rows marks).1)/\(k∈(ib rows marks).2->wm (ia rows marks) a k/\a∈(ib rows marks).2):=by
  intro a k h u
  induction h with
  |refl=>intro _;exact⟨u,λh=>⟨.refl,h⟩⟩
  | @step j c q g e d o=>intro C;obtain⟨p,v⟩:=o g;have l:=s j c g p e d;refine⟨l,λh=> ?_⟩;haveI i:=t j c g e d h;haveI n:=v i;haveI w:=n.1;haveI x:=n.2;refine⟨?_,x⟩;haveI m:=uj f g e;rw[if_pos ⟨(b j).2 ⟨p,i⟩,d,(b _).2 ⟨l,h⟩⟩]at m;haveI:=wm.step (c:=c) w (by rw[lO];exact g) e (by rw[m];exact d);rw[m]at this;exact this
 have a:∀i,i∈kept rows marks->∃k,k<rows.length/\wm (ia rows marks) i k/\(lP rows marks).getD k Wc=Wb:=λi hi=>by obtain⟨l,h⟩:=(b i).1 hi;obtain⟨k,d,m,e⟩:=z i h;haveI a:=B k d e;haveI n:=p i k m l d;haveI c:=n.1;haveI g:=n.2;refine⟨k,d,(g a).1,?_⟩;rw[vT d,e,decide_eq_true ((b k).2 ⟨c,a⟩)];rfl
 haveI n:∀i,i∈kept rows marks->wm (ia rows marks) 0 i:=λi hi=>by obtain⟨l,h⟩:=(b i).1 hi;obtain⟨c,q⟩:=y i l;exact((p 0 i q A c).2 h).1
 haveI l:∀i,i<rows.length->mK (ia rows marks) (lP rows marks) i->i∈kept rows marks:=λi hi c=>by
  rcases c with⟨c,e,d⟩|c
  ·rw[uj f hi e]at d;split at d
   ·next q=>exact q.1
   ·lia
  ·rw[vT hi]at c;exact of_decide_eq_true (cL.1 c).2
 haveI g:∀i,i∈kept rows marks->mK (ia rows marks) (lP rows marks) i:=λi hi=>by
  obtain⟨k,d,m,e⟩:=a i hi;haveI c:i=k\/∃c,c<2/\0<=gz (ia rows marks) i c:=by
   clear e d
   induction m with
   |refl=>exact bL rfl
   | @step j c q g e d o=>
    rcases o with rfl|o
    ·exact bG ⟨c,e,d⟩
    ·exact bG o
  rcases c with rfl|h
  ·exact bG e
  ·exact bL h
 refine⟨yv f,λi c hi e d=> ?_,λi hi c=> ?_,λi hi c=> ?_⟩
 ·rw[lO]at hi;haveI m:=uj f hi e;rw[m]at d⊢;split at d
  ·next q=>rw[if_pos q];exact g _ q.2.2
  ·lia
 ·rw[lO]at hi;exact n i (l i hi c)
 ·rw[lO]at hi;obtain⟨k,d,m,e⟩:=a i (l i hi c);exact⟨k,by rw[lO];exact d,m,e⟩
theorem yu {R:List (List Int)} {M:List Bool} (h:bP R M=[]):cV R M=[(sQ 0,[])]:=by
 have a:∀i,i<R.length->mU R i=[]/\M.getD i Wc=Wc:=λi hi=>by
  haveI:=xP.1 h i (aW.2 hi);obtain⟨a,b⟩:=List.append_eq_nil_iff.1 this;refine⟨a,?_⟩
  induction q:M.getD i Wc with
  |false=>rfl
  |true=>rw[q]at b;simp at b
 have d:∀i,i<R.length->lE R i=[]:=λi hi=>by haveI:=(a i hi).1;unfold mU at this;delta lE;rw[kj]at this⊢;exact this
 delta cV;haveI b:(aC R.length).filter (λi=>M.getD i Wc)=[]:=gO.2 λi hi=>by rw[(a i (aW.1 hi)).2];nofun
 haveI c:(aC R.length).flatMap (λi=>lE R i)=[]:=xP.2 λi hi=>d i (aW.1 hi);rw[b,c];rfl
end
end
section
structure PG (prs:mJ) (st:List Nat):Prop where
 len:prs.length<=13
 left:∀p∈prs,(∃i,p.1=sQ i)\/p.1=[90]
 two:∀p∈prs,p.2.length<=2
 part:∀p∈prs,∀nm∈p.2,(∃c,c<2/\nm=sL c)\/nm∈dS prs
 st:st∈dS prs
 ll:(dS prs).length<=5
theorem zm {l:List (List Nat)} {s x:List Nat}:x∈j4 l s↔x∈l\/x=s:=by
 delta j4;split
 ·next h=>exact⟨bL,λh'=>h'.elim id (λe=>e▸h)⟩
 ·simp
theorem uN {l:List (List Nat)} {s:List Nat} (h:l.Nodup):(j4 l s).Nodup:=by
 delta j4;split
 ·exact h
 ·next f=>rw[cA];exact⟨h,by simp,λa c b d=>by rw[aD.1 d];exact λe=>f (e▸c)⟩
theorem Db {x:List Nat}:∀{prs:mJ} {a:List (List Nat)},x∈prs.foldl (λa p=>j4 a p.1) a↔x∈a\/∃p∈prs,p.1=x:=by
 intro prs
 induction prs with
 |nil=>intro a;simp
 |cons p prs c=>
  intro a;rw[dG,c,zm];constructor
  ·rintro((h|rfl)|⟨q,b,rfl⟩)
   ·exact bL h
   ·exact bG ⟨p,aS ..,rfl⟩
   ·exact bG ⟨q,bA _ b,rfl⟩
  ·rintro(h|⟨q,b,rfl⟩)
   ·exact bL (bL h)
   ·rcases bD.1 b with rfl|b
    ·exact bL (bG rfl)
    ·exact bG ⟨q,b,rfl⟩
theorem nP {prs:mJ} {x:List Nat}:x∈dS prs↔∃p∈prs,p.1=x:=by delta dS;rw[Db];simp
theorem yr:∀{prs:mJ} {a:List (List Nat)},a.Nodup->(prs.foldl (λa p=>j4 a p.1) a).Nodup:=by
 intro prs
 induction prs with
 |nil=>intro a h;exact h
 |cons p prs b=>intro a h;rw[dG];exact b (uN h)
theorem pk {prs:mJ}:(dS prs).Nodup:=yr gv
structure TR (a:List (List Nat)):Prop where
 own:∃t,a=oA++t/\∀x∈t,∃c,c<2/\x=sL c
 nd:a.Nodup
theorem TR.add {a:List (List Nat)} {c:Nat} (h:TR a) (f:c<2):TR (j4 a (sL c)):=by
 obtain⟨⟨t,d,e⟩,g⟩:=h;refine⟨?_,uN g⟩;delta j4;split
 ·exact⟨t,d,e⟩
 ·refine⟨t++[sL c],by rw[d,bF],λx b=> ?_⟩;rcases aZ.1 b with b|b
  ·exact e x b
  ·exact⟨c,f,aD.1 b⟩
theorem xT {L a:List (List Nat)} {nm x:List Nat}:x∈eZ L a nm↔x∈a\/(x=nm/\nm∉L):=by
 delta eZ;split
 ·next h=>exact⟨bL,λh'=>h'.elim id (λe=>absurd h e.2)⟩
 ·next h=>rw[zm];simp[h]
theorem CQ {L:List (List Nat)}:∀{b a:List (List Nat)},TR a->(∀nm∈b,(∃c,c<2/\nm=sL c)\/nm∈L)->TR (b.foldl (eZ L) a)/\∀x,x∈b.foldl (eZ L) a↔x∈a\/(x∈b/\x∉L):=by
 injection 0 L;intro b
 induction b with
 |nil=>intro a h _;exact⟨h,λx=>by simp⟩
 |cons nm b d=>
  intro a h e;have c:TR (eZ L a nm):=by
   delta eZ;split
   ·exact h
   ·next g=>
    rcases e nm (aS ..)with⟨c,f,rfl⟩|h'
    ·exact h.add f
    ·exact absurd h' g
  obtain⟨f,g⟩:=d c (λx f=>e x (bA _ f));refine⟨f,λx=> ?_⟩;rw[dG,g,xT,bD];constructor
  ·rintro((h|⟨rfl,h⟩)|h)
   ·exact bL h
   ·exact bG ⟨bL rfl,h⟩
   ·exact bG ⟨bG h.1,h.2⟩
  ·rintro(h|⟨rfl|h,h'⟩)
   ·exact bL (bL h)
   ·exact bL (bG ⟨rfl,h'⟩)
   ·exact bG ⟨h,h'⟩
theorem tx {L:List (List Nat)}:∀{prs:mJ} {a:List (List Nat)},TR a->(∀p∈prs,∀nm∈p.2,(∃c,c<2/\nm=sL c)\/nm∈L)->
  TR (prs.foldl (λa p=>p.2.foldl (eZ L) a) a)/\∀x,x∈prs.foldl (λa p=>p.2.foldl (eZ L) a) a↔x∈a\/(∃p∈prs,x∈p.2/\x∉L)
 |[],a,h,_=>⟨h,λx=>by simp⟩
 |p::prs,a,h,c=>by
  obtain⟨d,e⟩:=CQ h (c p (aS ..));obtain⟨f,g⟩:=tx d (λq b=>c q (bA _ b));refine⟨f,λx=> ?_⟩;rw[dG,g,e];constructor
  ·rintro((h|h)|⟨q,b,h⟩)
   ·exact bL h
   ·exact bG ⟨p,aS ..,h⟩
   ·exact bG ⟨q,bA _ b,h⟩
  ·rintro(h|⟨q,b,h⟩)
   ·exact bL (bL h)
   ·rcases bD.1 b with rfl|b
    ·exact bL (bG h)
    ·exact bG ⟨q,b,h⟩
theorem Kd:TR oA:=⟨⟨[],by rfl,(λ_ h=>(c8 h).elim)⟩,by decide⟩
section
variable {prs:mJ} {st:List Nat}
theorem PG.Hl (h:PG prs st):TR (gG (dS prs) prs)/\∀x,x∈gG (dS prs) prs↔x∈oA\/(∃p∈prs,x∈p.2/\x∉dS prs):=tx Kd h.part
theorem Qu {c i:Nat}:sL c≠sQ i:=by delta sL sQ;simp
theorem PG.lx (h:PG prs st) {x:List Nat} (b:x∈dS prs):(∃i,x=sQ i)\/x=[90]:=by obtain⟨p,a,rfl⟩:=nP.mp b;exact h.left p a
theorem x9 {c:Nat} (a:c<2):sL c=[97]\/sL c=[98]:=by
 rcases(tL ‹_› :c=0\/c=1)with rfl|rfl
 ·exact bL rfl
 ·exact bG rfl
theorem PG.sLx (h:PG prs st) {c:Nat} (a:c<2):sL c∉dS prs:=λb=>by
 rcases h.lx b with⟨i,e⟩|e
 ·exact Qu e
 ·rcases x9 a with q|q<;>have e:=(q)▸e<;>cases e
theorem PG.Ov (h:PG prs st) {x:List Nat} (f:x∈gG (dS prs) prs):x∉dS prs/\x≠oa:=by
 injection 0 prs st x with h f;rcases(h.Hl.2 x).1 f with b|⟨p,g,b,d⟩
 ·refine⟨λa=> ?_,λe=> ?_⟩
  ·rcases h.lx a with⟨i,rfl⟩|rfl
   ·simp[oA,sQ]at b
   ·exact nomatch b
  ·subst e;exact nomatch b
 ·refine⟨d,λe=> ?_⟩;rcases h.part p g x b with⟨c,a,rfl⟩|a
  ·simp[sL,oa]at e
  ·exact d a
theorem PG.acl (h:PG prs st):oa∉dS prs:=λa=>by
 rcases h.lx a with⟨i,e⟩|e
 ·simp[sQ,oa]at e
 ·simp[oa]at e
theorem PG.nd (h:PG prs st):(iw prs).Nodup:=by
 delta iw;rw[cA,cA];refine⟨⟨h.Hl.1.nd,by decide,λa c b d=> ?_⟩,pk,λa c b d=> ?_⟩
 ·rw[aD.1 d];exact(h.Ov c).2
 ·rcases aZ.1 c with c|c
  ·exact λe=>(h.Ov c).1 (e▸d)
  ·rw[aD.1 c];exact λe=>h.acl (e▸d)
theorem PG.tc (h:PG prs st):3<=rN prs/\rN prs<=5:=by
 obtain⟨⟨t,e,g⟩,d⟩:=h.Hl.1;haveI j:rN prs=3+t.length:=by delta rN;rw[e,aH];rfl
 haveI a:t.Nodup:=by rw[e,cA]at d;exact d.2.1
 haveI:=gi (L:=[sL 0,sL 1]) a (λx b=>by obtain⟨c,i,f⟩:=g x b;rw[f];rcases(tL ‹_› :c=0\/c=1)with rfl|rfl<;>simp)
 simp at this;lia
theorem PG.Ty (h:PG prs st):(iw prs).length=rN prs+1+(dS prs).length:=by delta iw rN;rw[aH,aH,cP]
theorem w6 {x:List Nat} (b:x∈iw prs):(iw prs)[ix prs x]? =V9 x:=by haveI a:=dT.2 b;rw[aF a,kJ]
theorem q9 {x y:List Nat} (b:x∈iw prs) (c:y∈iw prs) (h:ix prs x=ix prs y):x=y:=by haveI a:=w6 b;rw[h,w6 c]at a;exact(aA a).symm
theorem vV {x:List Nat} (a:x∈iw prs):ix prs x<(iw prs).length:=dT.2 a
theorem um {x:List Nat} (a:x∈gG (dS prs) prs):ix prs x<rN prs:=by delta ix iw rN;rw[bF,jl,if_pos a];exact dT.2 a
theorem PG.nS (h:PG prs st) {x:List Nat} (a:x∈dS prs):rN prs<ix prs x:=by
 haveI d:x∈iw prs:=aT _ a;haveI c:=w6 d;rcases cZ (rN prs) (ix prs x)with q|q
 ·exact q
 ·exfalso;unfold iw at c;rw[bH (by rw[aH,cP];exact hO q)]at c;rcases aZ.1 (aO c)with b|b
  ·exact(h.Ov b).1 a
  ·rw[aD.1 b]at a;exact h.acl a
theorem PG.Q4 (h:PG prs st) {p} (d:p∈prs) {nm:List Nat} (b:nm∈p.2):nm∈iw prs/\((∃c,c<2/\nm=sL c)->nm∈gG (dS prs) prs):=by
 have a:(∃c,c<2/\nm=sL c)->nm∈gG (dS prs) prs:=λ⟨c,a,e⟩=>(h.Hl.2 nm).2 (bG ⟨p,d,b,by rw[e];exact h.sLx a⟩);refine⟨?_,a⟩;rcases h.part p d nm b with q|q
 ·exact bB _ (bB _ (a q))
 ·exact aT _ q
theorem PG.Hm (h:PG prs st):RM prs st:=by
 injection 0 prs st with h;haveI j:=h.tc;haveI k:=h.Ty;haveI g:=h.ll;refine⟨by haveI:=h.len;exact tb this,λp a=> ?_,h.two,λp a nm d=>(h.Q4 a d).1,λp a=>aT _ (nP.mpr ⟨p,a,rfl⟩),h.st,⟨?_,?_,?_,?_⟩⟩
 ·rcases h.left p a with⟨i,e⟩|e
  ·exact bL ⟨_,e⟩
  ·exact bG ⟨_,e⟩
 ·show(iw prs).length<=20;lia
 ·show(prs.map (CW prs)).length+1<=20;rw[aB];haveI:=h.len;exact td this
 ·show rN prs<(iw prs).length;lia
 ·intro x e;rcases bD.1 e with rfl|e
  ·refine⟨aK _,?_,aK 2,λs c=> ?_⟩
   ·show rN prs<(iw prs).length;lia
   ·rcases bD.1 c with rfl|c
    ·exact vV (aT _ h.st)
    ·rw[aD.1 c];show 0<(iw prs).length;lia
  ·obtain⟨p,a,rfl⟩:=aM.1 e;haveI b:p.1∈dS prs:=nP.mpr ⟨p,a,rfl⟩;refine⟨cO (h.nS b),vV (aT _ b),?_,λs c=> ?_⟩
   ·rw[aB];exact h.two p a
   ·obtain⟨nm,d,f⟩:=aM.1 c;rw[←f];exact vV (h.Q4 a d).1
end
end
section
theorem ef {a:Type} {p:a->Bool} {l:List a} (h:l.Nodup):(l.filter p).Nodup:=P4 p h
section
variable {G:Gr} {fd ks:List Nat}
theorem ub {r:Nat} {a:Ru} (h:G.rules[r]? =V9 a):G.off (r+1)=G.off r+a.right.length+1:=by delta Gr.off;rw[bX,h];simp[fE]
theorem yg {r r':Nat} (h:r<=r'):G.off r<=G.off r':=by
 haveI:∀d,G.off r<=G.off (r+d):=by
  intro d
  induction d with
  |zero=>exact aK _
  |succ d a=>
   refine aE a ?_
   induction q:G.rules[r+d]? with
   |some b=>rw[←fE,ub q];exact tm
   |none=>delta Gr.off;rw[←fE,bX,q];simp
 haveI:=this (r'-r)
 rwa [DY h]at this
theorem FQ {r r' d f:Nat} {g c:Ru} (h:fh G r g) (h':fh G r' c) (hd:d<=g.right.length) (i:f<=c.right.length) (e:G.off r+d=G.off r'+f):r=r'/\d=f:=by
 haveI a:r=r':=by
  rcases Nat.lt_trichotomy r r' with q|q|q
  ·haveI a:=ub h.at_;haveI b:=yg (G:=G) (Hd q);rw[DW]at b;lia
  ·exact q
  ·haveI a:=ub h'.at_;haveI b:=yg (G:=G) (Hd q);rw[DW]at b;lia
 subst a;exact⟨rfl,by lia⟩
theorem BH {r r':Nat} {b a:Ru} (h:fh G r b) (h':fh G r' a) (e:G.off r=G.off r'):r=r':=(FQ h h' (aP _) (aP _) (by assumption)).1
theorem rz (d:G.Wf) {y:Nat}:y∈G.kA fd ks↔∃r a,fh G r a/\(G.ga fd ks).testBit a.left=Wb/\y=G.off r/\y∉ks:=by
 injection 0 G fd ks y with d;dsimp only[Gr.kA,Gr.Ci];rw[fF];constructor
 ·intro a;obtain⟨s,g,h⟩:=a;obtain⟨e,f⟩:=aG.1 h;obtain⟨r,b,rfl⟩:=aM.1 e;obtain⟨a,c,rfl⟩:=ko.mp b;exact⟨r,a,d.at_ c,j9.mp g,rfl,by simpa using f⟩
 ·intro a;obtain⟨r,a,b,c,rfl,e⟩:=a;exact⟨a.left,j9.mpr c,aG.2 ⟨aM.2 ⟨r,ko.mpr ⟨a,b.at_,rfl⟩,rfl⟩,by simpa using e⟩⟩
theorem lM {i k:Type} {f:i->k}:∀{l:List i},l.Nodup->(∀a∈l,∀b∈l,f a=f b->a=b)->(l.map f).Nodup:=by
 intro l
 induction l with
 |nil=>intro _ _;exact gv
 |cons a l d=>intro c h;haveI c:=c6.1 c;rw[cS,c6];refine⟨λj=> ?_,d c.2 (λx b y e=>h x (bA _ b) y (bA _ e))⟩;obtain⟨b,g,e⟩:=aM.1 j;haveI:=h b (bA _ g) a (aS ..) e;exact c.1 (this▸g)
theorem lg {k o:Type} {f:k->List o}:∀{l:List k},l.Nodup->(∀a∈l,(f a).Nodup)->(∀a∈l,∀b∈l,∀x,x∈f a->x∈f b->a=b)->(l.flatMap f).Nodup:=by
 intro l
 induction l with
 |nil=>intro _ _ _;exact gv
 |cons a l h=>intro g i j;haveI g:=c6.1 g;rw[lB,cA];refine⟨i a (aS ..),h g.2 (λb d=>i b (bA _ d)) (λb d c e=>j b (bA _ d) c (bA _ e)),λx m y n e=> ?_⟩;subst e;obtain⟨b,d,c⟩:=fF.1 n;haveI:=j a (aS ..) b (bA _ d) x m c;exact g.1 (this▸d)
theorem ze {m:Nat}:(jM m).Nodup:=ef gu
theorem r9 (l:G.Wf):(G.kA fd ks).Nodup:=by
 injection 0 G fd ks with l;have d:∀{s r:Nat},r∈G.lj s->∃g,fh G r g/\g.left=s:=λh=>by obtain⟨g,f,a⟩:=ko.mp h;exact⟨g,l.at_ f,a⟩
 refine lg ze (λs _=>ef (lM (ef gu) λa h b i e=> ?_)) (λs _ s' _ x n i=> ?_)
 ·obtain⟨g,f, -⟩:=d (s:=s) h;obtain⟨j,c, -⟩:=d (s:=s) i;exact BH f c e
 ·obtain⟨r,m,rfl⟩:=aM.1 (aG.1 n).1;obtain⟨r',h,e⟩:=aM.1 (aG.1 i).1;obtain⟨g,f,a⟩:=d m;obtain⟨j,c,b⟩:=d h;haveI:=BH c f e;subst this;haveI k:=f.at_;rw[c.at_]at k;obtain rfl:=aA k;rw[←a,←b]
theorem wj (a:G.Wf):(G.kA fd ks).length<=G.rules.length:=by
 haveI:=gi (L:=(aC G.rules.length).map G.off) (r9 (fd:=fd) (ks:=ks) a) (λy d=>by obtain⟨r,e,c, -,b, -⟩:=(rz a).1 d;rw[b];exact aM.2 ⟨r,aW.2 c.n,rfl⟩)
 rw[aB,aU]at this;exact this
theorem ov (e:G.Wf) {y:Nat}:y∈G.dO fd ks↔y∈ks\/∃r a,fh G r a/\(G.ga fd ks).testBit a.left=Wb/\y=G.off r:=by
 injection 0 G fd ks y with e;delta Gr.dO;rw[aZ,iq,iq,rz e];constructor
 ·rintro(h|⟨r,a,b,c,d,f⟩)
  ·exact bL h
  ·exact bG ⟨r,a,b,c,d⟩
 ·rintro(h|⟨r,a,b,c,d⟩)
  ·exact bL h
  ·by_cases q:y∈ks
   ·exact bL q
   ·exact bG ⟨r,a,b,c,d,q⟩
theorem gB (c:G.Wf) (g:ks.Nodup):(G.dO fd ks).Nodup:=by delta Gr.dO;rw[cA];refine⟨lH g,lH (r9 c),λa d b f e=> ?_⟩;subst e;obtain⟨r,b, -, -, -,h⟩:=(rz c).1 (iq.mp f);exact h (iq.mp d)
theorem BV (a:G.Wf) (b:∀x∈ks,G.dM x) (c:ks.length<=40):Good G fd ks:=⟨b,by haveI:=wj (fd:=fd) (ks:=ks) a;haveI:=a.r;lia⟩
theorem ul {xs:List Nat} {s y:Nat}:y∈G.iI xs s↔∃x∈xs,G.bU x=V9 s/\y=x+1:=by
 delta Gr.iI;rw[aM];constructor
 ·intro a;obtain⟨x,c,rfl⟩:=a;rcases aG.1 c with⟨a,b⟩;exact⟨x,a,by simpa using b,rfl⟩
 ·intro a;obtain⟨x,a,b,rfl⟩:=a;exact⟨x,aG.2 ⟨a,by simpa using b⟩,rfl⟩
theorem pp {xs:List Nat} {s:Nat} (h:xs.Nodup):(G.iI xs s).Nodup:=lM (ef h) λa _ b _ e=>He e
theorem yy {xs:List Nat} {s x:Nat} (g:xs.Nodup) (i:x∈xs) (f:G.bU x=V9 s) (h:∀y∈xs,G.bU y=V9 s->y=x):kE (G.iI xs s)=[x+1]:=by
 haveI d:=pp (G:=G) (s:=s) g;have c:∀y∈G.iI xs s,y=x+1:=λy c=>by obtain⟨z,hz,a,b⟩:=ul.mp c;rw[b];rw[h z hz a]
 haveI e:x+1∈G.iI xs s:=ul.mpr ⟨x,i,f,rfl⟩;generalize G.iI xs s=l at d c e
 match l,d,c,e with
 |[a],_,c,_=>rw[c a (aS ..)];rfl
 |a::b::l,d,c,_=>haveI:=c b (bA _ (aS ..));haveI d:=c6.1 d;exact absurd (by rw[c a (aS ..),←this];exact aS ..) d.1
theorem dM.next {x s:Nat} (h:G.dM x) (a:G.bU x=V9 s):G.dM (x+1):=by obtain⟨r,d,c,b,hd,rfl⟩:=h;rw[b.after hd]at a;exact⟨r,d+1,c,b,cB a,rfl⟩
theorem sO {xs:List Nat} {r:Nat}:r∈kE (G.jv xs)↔∃x∈xs,G.bU x=Wa/\G.gI x≠0/\r=G.gI x:=by
 injection 0 G xs r;rw[iq];delta Gr.jv;rw[aM];constructor
 ·intro a;obtain⟨x,d,rfl⟩:=a;haveI a:=aG.1 d;haveI c:=a.1;haveI b:=a.2;rw[eh,eV,bne_iff_ne]at b;exact⟨x,c,b.1,b.2,rfl⟩
 ·intro a;obtain⟨x,c,b,a,rfl⟩:=a;exact⟨x,aG.2 ⟨c,by rw[eh,eV,bne_iff_ne];exact⟨b,a⟩⟩,rfl⟩
noncomputable def rc (G:Gr):List Nat:=(aC G.rules.length).flatMap λr=>(aC ((G.rules[r]?.map λx=>x.right.length).getD 0+1)).map (G.off r+·)
theorem mu (c:G.Wf) {x:Nat}:x∈rc G↔G.dM x:=by
 injection 0 G x with c;delta rc;rw[fF];constructor
 ·intro a;obtain⟨r,b,f⟩:=a;obtain⟨d,hd,e⟩:=aM.1 f;rw[←e];haveI a:=c.at_ (aF (aW.1 b));haveI:=aW.1 hd;rw[a.at_]at this;exact⟨r,d,_,a,l7 this,rfl⟩
 ·intro a;obtain⟨r,d,a,b,hd,rfl⟩:=a;exact⟨r,aW.2 b.n,aM.2 ⟨d,by rw[b.at_];exact aW.2 (hO hd),rfl⟩⟩
end
end
section
theorem tX {i j:Nat} (h:sQ i=sQ j):i=j:=by unfold sQ at h;simp at h;assumption
theorem tY {i j:Nat} (h:sL i=sL j):i=j:=by unfold sL at h;simp at h;assumption
theorem yd {prs:mJ} {st:List Nat} {r:Nat} {a:Ru} (h:(eY prs st).rules[r]? =V9 a):(r=0/\a=⟨rN prs,[ix prs st,0],0⟩)\/∃k p,r=k+1/\prs[k]? =V9 p/\a=CW prs p:=by
 injection 0 prs st r a with h
 induction r with
 |zero=>exact bL ⟨rfl,(aA h).symm⟩
 |succ k=>haveI h':(prs.map (CW prs))[k]? =V9 a:=h;rw[bC]at h';obtain⟨p,c,b⟩:=cC.1 h';rw[←b];exact bG ⟨k,p,rfl,c,rfl⟩
theorem plain_at {prs:mJ} {st:List Nat} {k:Nat} {p} (h:prs[k]? =V9 p):(eY prs st).rules[k+1]? =V9 (CW prs p):=by rw[bC,h];rfl
noncomputable def Ml (G:Gr):List (List Nat):=(rc G).map λx=>[x]
noncomputable def Mm (R:List (List Int)) (M:List Bool) (G:Gr) (fd:List Nat):List (List Nat):=
 [G.off 0]::((dS (cV R M)).map λnm=>kE (G.iI (G.dO fd [G.off 0]) (ix (cV R M) nm)))++((rc G).filter λx=>(G.bU x).isNone).map λx=>[x]
def BW (R:List (List Int)) (M:List Bool) (w fd:List Nat) (aV:List (List Nat)) (b:Nat->List (Nat×Nat)) (a:Nat->List Nat) (fl:List Nat):Prop:=
 gm R M->bP R M≠[]->w.length<=6->(∀c∈w,c<2)->zn (bP R M) (sQ 0) (eY (bP R M) (sQ 0)) Wc (λ_=>Ml (eY (bP R M) (sQ 0))) (lY R M w) fd aV b a fl/\zn (cV R M) [90] (eY (cV R M) [90]) Wb (Mm R M (eY (cV R M) [90])) (oe R M w) fd aV b a fl/\(fu R M w=Wb->∀a∈gV (gA R w) w,a∈bP R M)
@[irreducible] noncomputable def cK:=ep8 ⟨([],[],[],[],[],λ_=>[],λ_=>[],[])⟩ BW
@[irreducible] noncomputable def R:List (List Int):=cK.1
@[irreducible] noncomputable def M:List Bool:=cK.2.1
@[irreducible] noncomputable def w:List Nat:=cK.2.2.1
@[irreducible] noncomputable def fd:List Nat:=cK.2.2.2.1
@[irreducible] noncomputable def aV:List (List Nat):=cK.2.2.2.2.1
@[irreducible] noncomputable def mv:Nat->List (Nat×Nat):=cK.2.2.2.2.2.1
@[irreducible] noncomputable def rd:Nat->List Nat:=cK.2.2.2.2.2.2.1
@[irreducible] noncomputable def fl:List Nat:=cK.2.2.2.2.2.2.2
@[irreducible] noncomputable def G:Gr:=eY (bP R M) (sQ 0)
@[irreducible] noncomputable def J:Gr:=eY (cV R M) [90]
theorem O0:G=eY (bP R M) (sQ 0):=by delta G;rfl
theorem OY:J=eY (cV R M) [90]:=by delta J;rfl
section
theorem pH {i:Nat} {p}:p∈mU R i↔∃c,c<2/\0<=gz R i c/\p=(sQ i,[sL c,sQ (gz R i c).toNat]):=by
 injection 0 i p;delta mU;rw[aM];constructor
 ·intro a;rcases a with⟨c,e,rfl⟩;haveI a:=aG.1 e;haveI b:=a.1;haveI d:=a.2;exact⟨c,aW.1 b,of_decide_eq_true d,rfl⟩
 ·intro a;obtain⟨c,b,d,rfl⟩:=a;exact⟨c,aG.2 ⟨aW.2 b,decide_eq_true d⟩,rfl⟩
noncomputable abbrev sP (i c:Nat):List Nat×List (List Nat):=(sQ i,[sL c,sQ (gz R i c).toNat])
noncomputable abbrev BD (i:Nat):List Nat×List (List Nat):=(sQ i,[])
theorem eo {p}:p∈bP R M↔∃i,i<R.length/\((∃c,c<2/\0<=gz R i c/\p=sP i c)\/(M.getD i Wc=Wb/\p=BD i)):=by
 injection 0 p;delta bP;rw[fF];constructor
 ·intro a;obtain⟨i,hi,a⟩:=a;refine⟨i,aW.1 hi,?_⟩;rcases aZ.1 a with a|a
  ·exact bL (pH.mp a)
  ·right;split at a
   ·next h=>exact⟨h,aD.1 a⟩
   ·cases a
 ·intro a;obtain⟨i,hi,a⟩:=a;refine⟨i,aW.2 hi,aZ.2 ?_⟩;rcases a with a|⟨b,rfl⟩
  ·exact bL (pH.mpr a)
  ·exact bG (by rw[if_pos b];exact aD.2 rfl)
theorem wO:(bP R M).Nodup:=by
 refine lg gu (λi _=> ?_) (λi _ j _ p b d=> ?_)
 ·rw[cA];refine⟨lM (ef gu) (λc _ a _ e=> ?_),?_,λa f b d e=> ?_⟩
  ·haveI:=congrArg mN e;exact tY (eL this).1
  ·split<;>simp
  ·obtain⟨c, -, -,rfl⟩:=pH.mp f;split at d
   ·rw[aD.1 d]at e;have:=congrArg mN e;cases this
   ·cases d
 ·haveI a:∀k,p∈mU R k++(if M.getD k Wc then [BD k] else [])->p.1=sQ k:=λk h=>by
   rcases aZ.1 h with h|h
   ·obtain⟨c, -, -,rfl⟩:=pH.mp h;rfl
   ·split at h
    ·rw[aD.1 h]
    ·cases h
  exact tX ((a i b).symm.trans (a j d))
theorem kq (h:gm R M) {x:List Nat}:x∈dS (bP R M)↔∃i,i<R.length/\mK R M i/\x=sQ i:=by
 injection 0 x with h;rw[nP];constructor
 ·intro a;obtain⟨p,d,rfl⟩:=a;obtain⟨i,hi,h|h⟩:=eo.mp d
  ·obtain⟨c,b,a,rfl⟩:=h;exact⟨i,hi,bL ⟨c,b,a⟩,rfl⟩
  ·obtain⟨a,rfl⟩:=h;exact⟨i,hi,bG a,rfl⟩
 ·intro a;obtain⟨i,hi,d,rfl⟩:=a;rcases d with⟨c,b,a⟩|a
  ·exact⟨sP i c,eo.mpr ⟨i,hi,bL ⟨c,b,a,rfl⟩⟩,rfl⟩
  ·exact⟨BD i,eo.mpr ⟨i,hi,bG ⟨a,rfl⟩⟩,rfl⟩
theorem gm.xV (h:gm R M) {i c:Nat} (hi:i<R.length) (b:c<2) (a:0<=gz R i c):(gz R i c).toNat<R.length/\mK R M (gz R i c).toNat:=⟨tG a (h.A8.wy hi b).2.2,h.go i c hi b a⟩
theorem gm.zero (h:gm R M) (d:bP R M≠[]):0<R.length/\mK R M 0:=by
 obtain⟨p,e⟩:=wv _ d;obtain⟨i,hi,b⟩:=eo.mp e;have a:mK R M i:=by
  rcases b with⟨c,b,a, -⟩|⟨a, -⟩
  ·exact bL ⟨c,b,a⟩
  ·exact bG a
 refine⟨by lia,?_⟩;haveI f:=h.Tn i hi a;haveI:0=i\/∃c,c<2/\0<=gz R 0 c:=by
  clear b e a hi
  induction f with
  |refl=>exact bL rfl
  | @step j c _ g b a e=>
   rcases e with rfl|e
   ·exact bG ⟨c,b,a⟩
   ·exact bG e
 rcases this with rfl|h'
 ·exact a
 ·exact bL h'
theorem E7 (h:gm R M) (f:bP R M≠[]):PG (bP R M) (sQ 0):=by
 haveI hz:=h.zero f;refine⟨by haveI:=(kn h.A8).1;exact tb this,λp a=> ?_,λp a=> ?_,λp a nm d=> ?_,(kq h).2 ⟨0,hz.1,hz.2,rfl⟩,?_⟩
 ·obtain⟨i,hi,⟨c,b,e,rfl⟩|⟨b,rfl⟩⟩:=eo.mp a<;>exact bL ⟨i,rfl⟩
 ·obtain⟨i,hi,⟨c,b,e,rfl⟩|⟨b,rfl⟩⟩:=eo.mp a
  ·exact aK 2
  ·exact aP _
 ·obtain⟨i,hi,⟨c,b,e,rfl⟩|⟨b,rfl⟩⟩:=eo.mp a
  ·rcases bD.1 d with rfl|d
   ·exact bL ⟨c,b,rfl⟩
   ·rw[aD.1 d];haveI g:=h.xV hi b e;exact bG ((kq h).2 ⟨_,g.1,g.2,rfl⟩)
  ·cases d
 ·haveI:=gi (L:=(aC R.length).map sQ) (pk (prs:=bP R M)) (λx b=>by
   obtain⟨i,hi, -,a⟩:=(kq h).1 b;rw[a];exact aM.2 ⟨i,aW.2 hi,rfl⟩)
  rw[aB,aU]at this;haveI:=h.A8.n;lia
end
structure RG:Prop where
 h:gm R M
 g:G=eY (bP R M) (sQ 0)
 pg:PG (bP R M) (sQ 0)
section
noncomputable def ρ (p:List Nat×List (List Nat)):Nat:=1+(bP R M).idxOf p
noncomputable def nQ (i:Nat):Nat:=ix (bP R M) (sQ i)
noncomputable def nL (c:Nat):Nat:=ix (bP R M) (sL c)
theorem RG.wf (a:RG):G.Wf:=by rw[a.g];exact a.pg.Hm.wf
theorem RG.tc (a:RG):G.tc=rN (bP R M):=by rw[a.g];rfl
theorem RG.qV (a:RG):3<=G.tc/\G.tc<=5:=by rw[a.tc];exact a.pg.tc
theorem RG.rule (a:RG) {p} (c:p∈bP R M):fh G (ρ p) (CW (bP R M) p):=by haveI b:=dT.2 c;refine a.wf.at_ ?_;rw[a.g];delta ρ;rw[fA];exact plain_at (by rw[aF b,kJ])
theorem RG.zero (a:RG):fh G 0 ⟨G.tc,[nQ 0,0],0⟩:=by refine a.wf.at_ ?_;rw[a.tc,a.g];rfl
theorem RG.all (e:RG) {r:Nat} {b:Ru} (h:fh G r b):(r=0/\b=⟨G.tc,[nQ 0,0],0⟩)\/∃p,p∈bP R M/\r=ρ p/\b=CW (bP R M) p:=by
 injection 0 r b with e h;haveI c:=h.at_;haveI c:=(e.g)▸c;rcases yd c with⟨d,a⟩|⟨k,p,d,a,g⟩
 ·left;rw[e.tc];exact⟨d,a⟩
 ·right;refine⟨p,aO a,?_,g⟩;haveI f:=cB a;rw[d];delta ρ;haveI:=kC (wO) k f;rw[mH a f]at this;rw[this,fA]
theorem RG.q (a:RG) {i:Nat} (hi:i<R.length) (c:mK R M i):G.tc<nQ i/\nQ i<G.names.length:=by haveI b:=(kq a.h).2 ⟨i,hi,c,rfl⟩;rw[a.tc,a.g];exact⟨a.pg.nS b,vV (aT _ b)⟩
theorem RG.t7 (a:RG) {i j:Nat} (hi:i<R.length) (c:mK R M i) (b:j<R.length) (d:mK R M j) (e:nQ i=nQ j):i=j:=
 tX (q9 (aT _ ((kq a.h).2 ⟨i,hi,c,rfl⟩)) (aT _ ((kq a.h).2 ⟨j,b,d,rfl⟩)) e)
theorem RG.sgn (a:RG) {i c:Nat} (hi:i<R.length) (b:c<2) (f:0<=gz R i c):sL c∈gG (dS (bP R M)) (bP R M)/\3<=nL c/\nL c<G.tc:=by
 haveI h:sP i c∈bP R M:=eo.mpr ⟨i,hi,bL ⟨c,b,f,rfl⟩⟩;haveI e:=(a.pg.Q4 h (nm:=sL c) (aS ..)).2 ⟨c,b,rfl⟩;refine⟨e,?_,by rw[a.tc];exact um e⟩;obtain⟨⟨t,j, -⟩, -⟩:=a.pg.Hl.1;haveI g:iw (bP R M)=oA++(t++[oa]++dS (bP R M)):=by delta iw;rw[j];rfl
 haveI d:sL c∉oA:=by rcases x9 b with q|q<;>rw[q]<;>decide
 delta nL ix;rw[g,jl,if_neg d];exact vc
theorem RG.sM (a:RG) {i c j d:Nat} (hi:i<R.length) (g:c<2) (b:0<=gz R i c) (h:j<R.length) (hd:d<2) (f:0<=gz R j d) (e:nL c=nL d):c=d:=
 tY (q9 (bB _ (bB _ (a.sgn hi g b).1)) (bB _ (bB _ (a.sgn h hd f).1)) e)
end
end
section
section
theorem Gr.vH {prs:mJ} {st:List Nat} (h:PG prs st) (i:∀p∈prs,p.2=[]\/(∃x,p.2=[x]/\x∈dS prs)\/(∃y c,p.2=[y,sL c]/\c<2/\y∈dS prs)\/(∃c y,p.2=[sL c,y]/\c<2/\y∈dS prs)):(eY prs st).rA:=by
 injection 0 prs st with h i;haveI j:=h.tc.1;intro a b;rcases bD.1 b with rfl|b
 ·right;right;left;exact⟨ix prs st,0,rfl,a9 (by decide) j,cO (h.nS h.st)⟩
 ·obtain⟨p,g,rfl⟩:=aM.1 b;show(p.2.map (ix prs))=[]\/_;haveI d:∀c,c<2->sL c∈p.2->ix prs (sL c)<rN prs:=λc a d=>um ((h.Q4 g d).2 ⟨c,a,rfl⟩);rcases i p g with e|⟨x,e,a⟩|⟨y,c,e,a,f⟩|⟨c,y,e,a,f⟩
  ·left;rw[e];rfl
  ·right;left;exact⟨ix prs x,by show p.2.map (ix prs)=_;rw[e];rfl,cO (h.nS a)⟩
  ·right;right;left;exact⟨ix prs y,ix prs (sL c),by show p.2.map (ix prs)=_;rw[e];rfl,d c a (by rw[e];simp),cO (h.nS f)⟩
  ·right;right;right;exact⟨ix prs (sL c),ix prs y,by show p.2.map (ix prs)=_;rw[e];rfl,cO (h.nS f),d c a (by rw[e];exact .head _)⟩
theorem RG.simple (a:RG):G.rA:=by
 rw[a.g];refine Gr.vH a.pg λp f=> ?_;obtain⟨i,hi,⟨c,b,e,rfl⟩|⟨b,rfl⟩⟩:=eo.mp f
 ·haveI d:=a.h.xV hi b e;exact bG (bG (bG ⟨c,_,rfl,b,(kq a.h).2 ⟨_,d.1,d.2,rfl⟩⟩))
 ·exact bL rfl
inductive RK:Nat->Ru->Prop
 |zero:RK 0 ⟨G.tc,[nQ 0,0],0⟩
 |way {i c:Nat} {lv:Int}:i<R.length->c<2->0<=gz R i c->RK (ρ (sP i c)) ⟨nQ i,[nL c,nQ (gz R i c).toNat],lv⟩
 |sq {i:Nat} {lv:Int}:i<R.length->M.getD i Wc=Wb->RK (ρ (BD i)) ⟨nQ i,[],lv⟩
theorem RG.kind (b:RG) {r:Nat} {a:Ru} (h:fh G r a):RK r a:=by
 injection 0 r a with b h;rcases b.all h with⟨rfl,rfl⟩|⟨p,e,rfl,rfl⟩
 ·exact .zero
 ·obtain⟨i,hi,⟨c,d,a,rfl⟩|⟨a,rfl⟩⟩:=eo.mp e
  ·exact .way hi d a
  ·exact .sq hi a
theorem RG.way (b:RG) {i c:Nat} (hi:i<R.length) (d:c<2) (a:0<=gz R i c):∃lv,fh G (ρ (sP i c)) ⟨nQ i,[nL c,nQ (gz R i c).toNat],lv⟩:=
 ⟨_,b.rule (eo.mpr ⟨i,hi,bL ⟨c,d,a,rfl⟩⟩)⟩
theorem RG.sq (a:RG) {i:Nat} (hi:i<R.length) (b:M.getD i Wc=Wb):∃lv,fh G (ρ (BD i)) ⟨nQ i,[],lv⟩:=
 ⟨_,a.rule (eo.mpr ⟨i,hi,bG ⟨b,rfl⟩⟩)⟩
theorem RG.fst (a:RG) (b:Cl G fd) {s j:Nat} (h:(fd.getD s 0).testBit j=Wb):G.tc<=s/\(s=G.tc\/j<G.tc):=by
 injection 0 s j with a b h;refine b.up (λs j=>G.tc<=s/\(s=G.tc\/j<G.tc)) (λi m j d g=> ?_) (λi j c=> ?_) s j h
 ·exact⟨d.1,by rcases d.2 with q|q<;>lia⟩
 ·obtain⟨o,m,rfl,l⟩:=c;obtain⟨r,n,e⟩:=dw m;haveI c:=a.wf.at_ (aF n);rw[e]at c
  induction a.kind c with
  |zero=>exact⟨aK _,bL rfl⟩
  |way hi k f=>haveI d:=a.q hi (bL ⟨_,k,f⟩);haveI g:=(a.sgn hi k f).2.2;rw[←aA l];exact⟨cO d.1,bG g⟩
  |sq hi d=>exact nn l
inductive AF (x:Nat):Prop
 |cur {i:Nat}:i<R.length->mK R M i->G.bU x=V9 (nQ i)->AF x
 |Qg {t:Nat}:t<G.tc->t≠1->t≠2->G.bU x=V9 t->AF x
 |none:G.bU x=Wa->AF x
theorem RG.af (b:RG) (c:bP R M≠[]) {x:Nat} (a:G.dM x):AF x:=by
 injection 0 x with b c a;obtain⟨r,d,k,g,hd,rfl⟩:=a;haveI a:=g.after hd;haveI hz:=b.h.zero c;haveI j:=b.qV
 induction b.kind g with
 |zero=>
  match d,hd with
  |0,_=>exact .cur hz.1 hz.2 a
  |1,_=>exact .Qg (t:=0) (by lia) (by decide) (by decide) a
  |2,_=>exact .none a
 |way hi f e=>
  haveI h:=b.h.xV hi f e;haveI i:=b.sgn hi f e
  match d,hd with
  |0,_=>exact .Qg (t:=nL _) i.2.2 (by lia) (by lia) a
  |1,_=>exact .cur h.1 h.2 a
  |2,_=>exact .none a
 |sq hi e=>
  match d,hd with
  |0,_=>exact .none a
theorem RG.G0 (d:RG) (c:bP R M≠[]) {x s:Nat} (f:G.dM x) (a:G.bU x=V9 s):s≠G.tc:=by
 induction d.af c f with
 |cur hi e b=>rw[b]at a;rw[←aA a];haveI:=(d.q hi e).1;exact j7 this
 |Qg e _ _ b=>rw[b]at a;rw[←aA a];exact tn e
 |none b=>rw[b]at a;exact nn a
theorem RG.close (d:RG) (a:bP R M≠[]) (f:Cl G fd) {x y:Nat} (k:G.dM x):y∈G.dO fd [x]↔y=x\/∃r c,fh G r c/\r≠0/\G.bU x=V9 c.left/\y=G.off r:=by
 injection 0 x y with d a f k;rw[ov d.wf,aD];haveI l:∀j,(G.ga fd [x]).testBit j=Wb↔∃s,G.bU x=V9 s/\(j=s\/(fd.getD s 0).testBit j=Wb):=λj=>by
  rw[mf];constructor
  ·intro b;obtain⟨z,hz,h⟩:=b;haveI h:=(aD.1 hz)▸h;exact h
  ·rintro h;exact⟨x,aD.2 rfl,h⟩
 constructor
 ·rintro(h|⟨r,c,g,m,rfl⟩)
  ·exact bL h
  ·right;obtain⟨s,i,n⟩:=(l _).1 m;haveI o:=g.tc;have j:s=c.left:=by
    rcases n with e|e
    ·exact e.symm
    ·haveI h:=d.fst f e;haveI b:=d.G0 a k i;rcases h.2 with q|q
     ·exact absurd q b
     ·lia
   refine⟨r,c,g,?_,by rw[i,j],rfl⟩;rintro rfl;haveI b:=d.G0 a k i;rcases d.all g with⟨-,rfl⟩|⟨p, -,e, -⟩
   ·exact b j
   ·unfold ρ at e;lia
 ·rintro(h|⟨r,c,g, -,i,rfl⟩)
  ·exact bL h
  ·exact bG ⟨r,c,g,(l _).2 ⟨_,i,bL rfl⟩,rfl⟩
end
end
section
section
inductive CK (x:Nat):Nat->Prop
 |self:CK x x
 |way {i c:Nat}:i<R.length->c<2->0<=gz R i c->G.bU x=V9 (nQ i)->CK x (G.off (ρ (sP i c)))
 |sq {i:Nat}:i<R.length->M.getD i Wc=Wb->G.bU x=V9 (nQ i)->CK x (G.off (ρ (BD i)))
theorem RG.ck (b:RG) (e:bP R M≠[]) (d:Cl G fd) {x y:Nat} (k:G.dM x):y∈G.dO fd [x]↔CK x y:=by
 injection 0 x y with b e d k;rw[b.close e d k];constructor
 ·rintro(rfl|⟨r,l,f,g,a,rfl⟩)
  ·exact .self
  ·induction b.kind f with
   |zero=>exact absurd rfl g
   |way hi j h=>exact .way hi j h a
   |sq hi c=>exact .sq hi c a
 ·intro h
  induction h with
  |self=>exact bL rfl
  | @way i c hi j g a=>haveI h:=b.way hi j g;haveI f:=h.choose_spec;exact bG ⟨_,_,f,by delta ρ;lia,a,rfl⟩
  | @sq i hi c a=>obtain⟨lv,f⟩:=b.sq hi c;exact bG ⟨_,_,f,by delta ρ;lia,a,rfl⟩
theorem RG.aw (e:RG) {i c:Nat} (hi:i<R.length) (f:c<2) (b:0<=gz R i c):G.bU (G.off (ρ (sP i c)))=V9 (nL c)/\G.dM (G.off (ρ (sP i c)))/\
  G.bU (G.off (ρ (sP i c))+1)=V9 (nQ (gz R i c).toNat)/\G.dM (G.off (ρ (sP i c))+1)/\G.bU (G.off (ρ (sP i c))+2)=Wa/\G.dM (G.off (ρ (sP i c))+2)/\G.gI (G.off (ρ (sP i c))+2)=ρ (sP i c):=by
 haveI g:=e.way hi f b;haveI a:=g.choose_spec;exact⟨a.after (d:=0) (aP _),a.item (d:=0) (aP _),a.after (d:=1) (by show 1<=2;decide),a.item (d:=1) (by show 1<=2;decide),a.after (d:=2) (aK 2),a.item (d:=2) (aK 2),a.rule (d:=2) (aK 2)⟩
theorem RG.ae (b:RG) {i:Nat} (hi:i<R.length) (c:M.getD i Wc=Wb):G.bU (G.off (ρ (BD i)))=Wa/\G.dM (G.off (ρ (BD i)))/\G.gI (G.off (ρ (BD i)))=ρ (BD i):=by obtain⟨lv,a⟩:=b.sq hi c;exact⟨a.after (d:=0) (aP _),a.item (d:=0) (aP _),a.rule (d:=0) (aP _)⟩
theorem RG.uniq (a:RG) {x y z s:Nat} (k:CK x y) (hz:CK x z) (h:G.bU y=V9 s) (d:G.bU z=V9 s):y=z:=by
 injection 0 x y z s with a k hz h d;haveI n:∀{i c:Nat},i<R.length->c<2->0<=gz R i c->G.bU x=V9 (nQ i)->G.bU x=V9 s->G.bU (G.off (ρ (sP i c)))=V9 s->False:=λhi g f j c b=>by haveI b:=((a.aw hi g f).1)▸b;rw[j]at c;rw[c];injection b with b;haveI:=(a.q hi (bL ⟨_,g,f⟩)).1;haveI:=(a.sgn hi g f).2.2;lia
 induction k with
 |self=>
  induction hz with
  |self=>rfl
  |way hi g f j=>exact(n hi g f j h d).elim
  |sq hi e j=>rw[(a.ae hi e).1]at d;exact nn d
 |way hi g f j=>
  induction hz with
  |self=>exact(n hi g f j d h).elim
  |way b m k l=>rw[j]at l;haveI e:=a.t7 hi (bL ⟨_,g,f⟩) b (bL ⟨_,m,k⟩) (aA l);rw[e];have h:=((a.aw hi g f).1)▸h;haveI d:=((a.aw b m k).1)▸d;haveI o:=a.sM hi g f b m k (aA (h.trans d.symm));rw[o]
  |sq b e l=>rw[(a.ae b e).1]at d;exact nn d
 |sq hi e j=>rw[(a.ae hi e).1]at h;exact nn h
theorem RG.xR (f:RG) {x y z:Nat} (g:CK x y) (hz:CK x z) (a:G.bU y=Wa) (b:G.bU z=Wa):y=z:=by
 injection 0 x y z with f g hz a b
 induction g with
 |self=>
  induction hz with
  |self=>rfl
  |way hi e d c=>rw[c]at a;cases a
  |sq hi i c=>rw[c]at a;cases a
 |way hi e d c=>have a:=((f.aw hi e d).1)▸a;cases a
 |sq hi i c=>
  induction hz with
  |self=>have b:=(c)▸b;cases b
  |way e h g d=>have b:=((f.aw e h g).1)▸b;cases b
  |sq e g d=>rw[c]at d;rw[f.t7 hi (bG i) e (bG g) (aA d)]
theorem len_one {d:Type}:∀{l:List d},l.Nodup->(∀a∈l,∀b∈l,a=b)->l.length<=1
 |[],_,_=>aP _
 |[_],_,_=>aK _
 |a::b::l,c,h=>by haveI c:=c6.1 c;haveI:=h a (aS ..) b (bA _ (aS ..));exact absurd (this▸aS ..) c.1
theorem uo {G:Gr} (c:G.Wf):(rc G).length<=3*G.rules.length:=by
 haveI:∀n,n<=G.rules.length->((aC n).flatMap λr=>(aC ((G.rules[r]?.map λx=>x.right.length).getD 0+1)).map (G.off r+·)).length<=3*n:=by
  intro n
  induction n with
  |zero=>intro _;exact aK _
  |succ n d=>intro a;haveI:=d (tw a);haveI b:=c.at_ (aF (show n<G.rules.length by exact a));rw[cG,fv,aH];simp only[lB,sH,bY,aB,aU,b.at_,jX,DV];haveI:=b.len;lia
 exact this _ (aK _)
theorem RG.pP (a:RG):G.rules.length<=13:=by rw[a.g];show((bP R M).map (CW (bP R M))).length+1<=13;rw[aB];haveI:=(kn a.h.A8).1;exact td this
theorem mw {G:Gr} (b:G.Wf) {ks:List Nat}:ks∈Ml G↔∃x,ks=[x]/\G.dM x:=by
 delta Ml;rw[aM];constructor
 ·intro a;obtain⟨x,a,rfl⟩:=a;exact⟨x,rfl,(mu b).1 a⟩
 ·intro a;obtain⟨x,rfl,a⟩:=a;exact⟨x,(mu b).2 a,rfl⟩
theorem RG.jF (c:RG) (b:bP R M≠[]) (a:Cl G fd) {x y s:Nat} (f:G.dM x) (g:CK x y) (e:G.bU y=V9 s):kE (G.iI (G.dO fd [x]) s)=[y+1]:=
 yy (gB c.wf (by simp)) ((c.ck b a f).2 g) e λz hz d=>c.uniq ((c.ck b a f).1 hz) g d e
theorem RG.Rq (a:RG) {x y:Nat} (e:G.dM x) (f:CK x y):G.dM y:=by
 induction f with
 |self=>exact e
 |way hi d b c=>exact(a.aw hi d b).2.1
 |sq hi b c=>exact(a.ae hi b).2.1
theorem RG.uk (a:RG) (e:bP R M≠[]) (c:Cl G fd):vk G fd (Ml G):=by
 refine⟨λks g=> ?_,λks g s b=> ?_,(mw a.wf).2 ⟨_,rfl,a.zero.item (d:=0) (aP _)⟩,?_⟩
 ·obtain⟨x,b,f⟩:=(mw a.wf).1 g;rw[b];exact BV a.wf (λy h=>by rw[aD.1 h];exact f) (vc)
 ·obtain⟨x,rfl,f⟩:=(mw a.wf).1 g;obtain⟨y,h,i⟩:=b;haveI b:=(a.ck e c f).1 h;rw[a.jF e c f b i];exact(mw a.wf).2 ⟨_,rfl,dM.next (a.Rq f b) i⟩
 ·delta Ml;rw[aB];haveI:=uo a.wf;haveI:=a.pP;lia
theorem pR {G:Gr} {xs:List Nat} (j:xs.Nodup) (k:∀y∈xs,∀z∈xs,G.bU y=Wa->G.bU z=Wa->y=z):(kE (G.jv xs)).length<=1:=by rw[j1];rw[aB];refine len_one (ef j) λa h b i=> ?_;haveI c:=aG.1 h;haveI f:=c.1;haveI d:=c.2;haveI c:=aG.1 i;haveI g:=c.1;haveI e:=c.2;rw[eh,eV]at d e;exact k a f b g d.1 e.1
theorem pO {G:Gr} {x:Nat} (a:G.dM x):G.gI x<G.rules.length:=by obtain⟨r,d,b,a,hd,rfl⟩:=a;rw[a.rule hd];exact a.n
theorem RG.au (c:RG) (b:bP R M≠[]) (a:Cl G fd) (h:aV.Nodup) (j:∀ks∈aV,ks∈Ml G) (hd:∀k,k<aV.length->Done G fd aV k mv rd) (l:∀k,aV.length<=k->mv k=[]/\rd k=[]):Ly G aV rd:=by
 have g:∀k,k<aV.length->∃x,G.dM x/\rd k=kE (G.jv (G.dO fd [x])):=λk e=>by obtain⟨ks,f, -,g⟩:=hd k e;obtain⟨x,rfl,d⟩:=(mw c.wf).1 (j _ (aO f));exact⟨x,d,g⟩
 refine⟨aE (gi h j) (c.uk b a).len,λk=> ?_,λk r f=> ?_⟩
 ·rcases cZ k aV.length with q|q
  ·obtain⟨x,d,e⟩:=g k q;rw[e];exact pR (gB c.wf (by simp)) λy i z hz f m=>c.xR ((c.ck b a d).1 i) ((c.ck b a d).1 hz) f m
  ·rw[(l k q).2];exact aP _
 ·rcases cZ k aV.length with q|q
  ·obtain⟨x,d,e⟩:=g k q;rw[e]at f;obtain⟨y,i, -, -,m⟩:=sO.mp f;rw[m];exact pO (c.Rq d ((c.ck b a d).1 i))
  ·have f:=((l k q).2)▸f;cases f
end
end
section
structure BR:Prop where
 g:RG
 ne:bP R M≠[]
 cl:Cl G fd
 k0:aV[0]? =V9 [G.off 0]
 nd:aV.Nodup
 ks:∀ks∈aV,ks∈Ml G
 dn:∀k,k<aV.length->Done G fd aV k mv rd
 ms:Ms G fl
 Ea:∀ru∈G.rules,Gr.Mo G.tc fl ru
 up:∀U,G.qu U->∀i,Sb (fl.getD i 0) (U i)
section
theorem RG.N3 (a:RG) {p} (b:p∈bP R M):G.eR (ρ p)=ix (bP R M) p.1:=by delta Gr.eR;rw[(a.rule b).at_];rfl
theorem BR.fup (B:BR) {i j:Nat} (h:(fl.getD i 0).testBit j=Wb):j=0:=by
 injection 0 i j with B h;have m:=B.g.qV;haveI a:G.qu λ_=>1:=λn c X s b=>by
  obtain⟨r,l,e⟩:=dw c;haveI a:=B.g.wf.at_ (aF l);rw[e]at a
  induction B.g.kind a with
  |zero=>unfold Gr.ob at b;simp only[show(0:Nat)<G.tc from by lia,if_true]at b;cases b;exact λ_ h=>h
  |way hi g f=>haveI d:=B.g.h.xV hi g f;have k:=B.g.q d.1 d.2;unfold Gr.ob at b;simp only[kS.2 (cO k.1),if_false]at b;cases b;exact λ_ h=>h
  |sq hi d=>exact nn b
 haveI:=B.up _ a i j h;rw[show(1:Nat)=2 ^ 0 from rfl,ey]at this;exact(of_decide_eq_true this).symm
theorem BR.flo (B:BR) {i:Nat} (hi:i<R.length) (a:mK R M i):(fl.getD (nQ i) 0).testBit 0=Wb:=by
 haveI m:=B.g.qV;haveI e:=B.g.h.Tn i hi a;clear a hi;haveI g:(fl.getD (nQ 0) 0).testBit 0=Wb:=by haveI:=B.Ea _ B.g.zero.mem (nQ 0) (.inr 0) (by dsimp only[Gr.ob];simp only[show(0:Nat)<G.tc from by lia,if_true]);exact this 0 (show(2 ^ 0:Nat).testBit 0=Wb from by decide)
 induction e with
 |refl=>exact g
 | @step j c e d a b l=>obtain⟨lv,k⟩:=B.g.way d a b;haveI f:=B.g.h.xV d a b;haveI h:=B.g.q f.1 f.2;haveI:=B.Ea _ k.mem (nQ (gz R j c).toNat) (.inl (nQ j)) (by dsimp only[Gr.ob];simp only[kS.2 (cO h.1),if_false]);exact this 0 l
theorem BR.at_ (B:BR) {k x:Nat} (d:aV[k]? =V9 [x]):G.dM x/\((mv k).map (·.1)).Nodup/\(∀s,s∈(mv k).map (·.1)↔∃y,CK x y/\G.bU y=V9 s)/\
  (∀p∈mv k,∀y,CK x y->G.bU y=V9 p.1->aV[p.2]? =V9 [y+1])/\(∀r,r∈rd k↔∃y,CK x y/\G.bU y=Wa/\G.gI y≠0/\r=G.gI y):=by
 injection 0 k x with B d;obtain⟨ks,g,⟨i,j⟩,l⟩:=B.dn k (cB d);rw[d]at g;refine uX λm=> ?_;obtain rfl:=aA g;obtain⟨a,e,f⟩:=(mw B.g.wf).1 (B.ks _ (aO d));cases e;haveI a:=λy=>B.g.ck B.ne B.cl (y:=y) f;refine m (⟨f,i.1,λs=> ?_,λp e y b c=> ?_,λr=> ?_⟩)
 ·rw[i.2 s];constructor
  ·rintro⟨y,b,c⟩;exact⟨y,(a y).1 b,c⟩
  ·rintro⟨y,b,c⟩;exact⟨y,(a y).2 b,c⟩
 ·rw[j p e,B.g.jF B.ne B.cl f b c]
 ·rw[l,sO];constructor
  ·rintro⟨y,b,h⟩;exact⟨y,(a y).1 b,h⟩
  ·rintro⟨y,b,h⟩;exact⟨y,(a y).2 b,h⟩
theorem BR.jF (B:BR) {k:Nat} (a:k<aV.length):∃x,aV[k]? =V9 [x]:=by obtain⟨ks,h⟩:=fp a;obtain⟨x,rfl, -⟩:=(mw B.g.wf).1 (B.ks _ (aO h));exact⟨x,h⟩
theorem BR.look (B:BR) {k:Nat} (a:k<aV.length):ui (ja rd aV.length) (λr=>fl.getD (G.eR r) 0) k (rd k)=(rd k).map λr=>(r,fl.getD (G.eR r) 0):=by refine dU λr b=> ?_;rw[if_pos (nM.mpr ⟨a,b⟩)]
theorem BR.keys (B:BR) {k x s:Nat} (e:aV[k]? =V9 [x]) (f:s∈(mv k).map (·.1)):s<G.names.length/\s≠1:=by
 obtain⟨g, -,d, -, -⟩:=B.at_ e;obtain⟨y,h,b⟩:=(d s).1 f;refine⟨lX B.g.wf b,?_⟩;haveI i:=B.g.qV
 induction B.g.af B.ne (B.g.Rq g h)with
 |cur hi c a=>rw[b]at a;rw[aA a];haveI:=(B.g.q hi c).1;lia
 |Qg _ c _ a=>rw[b]at a;rw[aA a];exact c
 |none a=>have a:=(b)▸a;cases a
theorem BR.L0 (B:BR) {k x r:Nat} (i:aV[k]? =V9 [x]) (j:r∈rd k):0∉(mv k).map (·.1):=λf=>by
 obtain⟨m, -,g, -,h⟩:=B.at_ i;obtain⟨y,l,a⟩:=(g 0).1 f;obtain⟨z,hz,c, -, -⟩:=(h r).1 j
 induction l with
 |self=>
  induction hz with
  |self=>have c:=(a)▸c;cases c
  |way hi d e b=>rw[a]at b;injection b with b;haveI:=(B.g.q hi (bL ⟨_,d,e⟩)).1;lia
  |sq hi d b=>rw[a]at b;injection b with b;haveI:=(B.g.q hi (bG d)).1;lia
 |way hi d e b=>rw[(B.g.aw hi d e).1]at a;injection a with a;haveI:=(B.g.sgn hi d e).2.1;lia
 |sq hi d b=>rw[(B.g.ae hi d).1]at a;exact nn a
theorem BR.rd1 (B:BR) {k x:Nat} (a:aV[k]? =V9 [x]):(rd k).length<=1:=by obtain⟨ks,b, -,f⟩:=B.dn k (cB a);rw[a]at b;obtain rfl:=aA b;haveI h:=B.at_ a;haveI c:=h.1;rw[f];exact pR (gB B.g.wf (by simp)) λy g z hz d e=>B.g.xR ((B.g.ck B.ne B.cl c).1 g) ((B.g.ck B.ne B.cl c).1 hz) d e
noncomputable def xL (k:Nat):Nat:=(rd k).headD 1
theorem BR.NX (B:BR) {k x:Nat} (c:aV[k]? =V9 [x]):DJ G (mv k)/\Eb G.tc (nI G.tc (mv k)) (ui (ja rd aV.length) (λr=>fl.getD (G.eR r) 0) k (rd k)):=by
 injection 0 k x with B c;haveI i:=B.at_ c;haveI f:=i.2.1;haveI l:=i.2.2.2.2;haveI e:=B.g.qV;refine⟨⟨f,λp a=>(B.keys c (bN a)).1⟩,⟨by exact tb e.2,λp a=> ?_,?_,?_,λp a=> ?_,λp a b j g=> ?_⟩⟩
 ·haveI:p.1∈(nI G.tc (mv k)).map (·.1):=bN a;rw[ij]at this;exact of_decide_eq_true (aG.1 this).2
 ·rw[ij];exact ef f
 ·rw[aB];exact B.rd1 c
 ·rw[B.look (cB c)]at a;obtain⟨r,h,rfl⟩:=aM.1 a;exact B.ms.getD _
 ·rw[B.look (cB c)]at a;obtain⟨r,h,rfl⟩:=aM.1 a;haveI d:=B.fup j;subst d;rw[ij]at g;exact B.L0 c h (aG.1 g).1
end
end
section
section
noncomputable def i7 (G:Gr):Nat->List Int:=lK G (ja rd aV.length) (λr=>fl.getD (G.eR r) 0) mv rd
noncomputable def BO (G:Gr) (k:Nat):List (Nat×Nat):=ui (ja rd aV.length) (λr=>fl.getD (G.eR r) 0) k (rd k)
theorem jT {G:Gr} {k t:Nat} (a:t<G.tc):(i7 G k).getD t 0=(pF (nI G.tc (mv k)) t).getD (wV (BO G k) t):=by apply hV;rw[bC,ew a];rfl
theorem sN {G:Gr} {k t:Nat} (a:¬t<G.tc):(i7 G k).getD t 0=0:=by rw[bJ,bQ (by rw[i8];exact tv a)];rfl
theorem Ay {a:List (Nat×Nat)} {tc:Nat} {p:Nat×Nat} (b:(a.map (·.1)).Nodup) (c:p∈a) (d:p.1<tc):pF (nI tc a) p.1=V9 (if p.1=0 then 1048576 else(p.2:Int)):=
 sU (p:=(p.1,if p.1=0 then 1048576 else(p.2:Int))) (by rw[ij];exact ef b) (aM.2 ⟨p,aG.2 ⟨c,decide_eq_true d⟩,rfl⟩)
theorem oo {a:List (Nat×Nat)} {tc t:Nat} (b:t∉a.map (·.1)):pF (nI tc a) t=Wa:=
 lN (by rw[ij];exact λh=>b (aG.1 h).1)
theorem iG (a:List (Nat×Nat)) (t:Nat):wV a t=0\/∃p l,a=p::l/\p.2.testBit t=Wb/\wV a t= -(p.1:Int):=by
 induction a with
 |nil=>exact bL rfl
 |cons p l=>
  induction q:p.2.testBit t with
  |true=>exact bG ⟨p,l,rfl,q,by delta wV;dsimp only;rw[q,if_pos rfl]⟩
  |false=>exact bL (by delta wV;dsimp only;rw[q,if_neg (by decide)])
theorem BR.ya (B:BR) {k x r:Nat} (d:aV[k]? =V9 [x]) (e:r∈rd k):0<r/\r<G.rules.length:=by obtain⟨f, -, -, -,c⟩:=B.at_ d;obtain⟨y,g, -,b,a⟩:=(c r).1 e;rw[a];exact⟨qH b,pO (B.g.Rq f g)⟩
theorem BR.TP (B:BR) {k:Nat} (i:k<aV.length):pG G (ja rd aV.length) (λr=>fl.getD (G.eR r) 0) mv rd (xL) k:=by
 injection 0 k with B i;obtain⟨x,d⟩:=B.jF i;haveI j:=B.NX d;haveI m:=j.1;haveI n:=j.2;haveI g:=B.g.qV;have f:=B.g.pP;haveI a:1∉(mv k).map (·.1):=λh=>(B.keys d h).2 rfl;refine⟨m,n,⟨?_,?_,?_,?_,?_⟩,λr c=>by haveI:=(B.ya d c).2;exact tc (ff this f)⟩
 ·rw[i8];exact tb g.2
 ·rw[i8];lia
 ·show(i7 G k).getD 1 0<=0;rw[jT (by lia),oo a];show wV _ _<=0;rcases iG (BO G k) 1 with e|⟨p,l, -, -,e⟩<;>rw[e]<;>lia
 ·delta xL
  induction c:rd k with
  |nil=>exact⟨Cz,by decide⟩
  |cons r l=>haveI:=B.ya d (r:=r) (by rw[c];exact aS ..);show 0<r/\r<=1000;lia
 ·intro z hz;obtain⟨t,s,rfl⟩:=aM.1 hz;injection 0 t with s hz
  induction o:pF (nI G.tc (mv k)) t with
  |some v=>left;show 0<=v;obtain⟨p,c,rfl⟩:=cC.1 o;haveI:=et c;obtain⟨q, -,b⟩:=aM.1 this;rw[←b];show 0<=(if q.1=0 then(1048576:Int) else q.2);split<;>lia
  |none=>
   rcases iG (ui (ja rd aV.length) (λr=>fl.getD (G.eR r) 0) k (rd k)) t with e|⟨p,l,b, -,e⟩
   ·left;rw[e];exact uU _
   ·right;rw[e];delta xL
    cases c:rd k with
    |nil=>have b:=(c)▸b;cases b
    |cons r l'=>have b:=(c)▸b;cases b;rfl
noncomputable def mX:jh:=
 ⟨G,aV.length,λk=>qh (AQ Wc (i7 G) (xL) k) (i7 G k),λk=>qc G.tc (mv k),AQ Wc (i7 G) (xL)⟩
theorem Mi {k t:Nat}:mX.ex k t=(i7 G k).getD t 0:=rfl
theorem jH {k:Nat}:mX.eb k=0:=by delta jh.eb;split<;>rfl
theorem pA {k t:Nat}:mX.act k t=(i7 G k).getD t 0:=by
 delta jh.act;rw[Mi];split
 ·next h=>rw[h];rfl
 ·rfl
theorem BR.Kl (B:BR) {k x y s:Nat} (f:aV[k]? =V9 [x]) (c:CK x y) (a:G.bU y=V9 s):∃t,(s,t)∈mv k/\aV[t]? =V9 [y+1]:=by obtain⟨h,g,d,e, -⟩:=B.at_ f;obtain⟨p,b,rfl⟩:=aM.1 ((d s).2 ⟨y,c,a⟩);exact⟨p.2,b,e p b y c a⟩
theorem BR.sr1 (B:BR) {k x i c:Nat} (h:aV[k]? =V9 [x]) (m:G.bU x=V9 (nQ i)) (hi:i<R.length) (f:c<2) (d:0<=gz R i c):
  ∃t:Nat,mX.act k (nL c)=t/\aV[t]? =V9 [G.off (ρ (sP i c))+1]/\0<t/\t<60:=by
 haveI j:=B.g.sgn hi f d;obtain⟨t,l,a⟩:=B.Kl h (.way hi f d m) (B.g.aw hi f d).1;haveI g:=(B.at_ h).2.1;haveI b:=aE (gi B.nd B.ks) (B.g.uk B.ne B.cl).len;refine⟨t,?_,a,?_,by haveI:=cB a;exact ff this b⟩
 ·rw[pA,jT j.2.2,Ay (p:=(nL c,t)) g l j.2.2];show(if nL c=0 then(1048576:Int) else t)=t;rw[if_neg (by lia)]
 ·rcases Ei t with e|e
  ·subst e;have a:=(B.k0)▸a;cases a
  ·exact e
theorem BR.sr2 (B:BR) {k x t:Nat} (c:aV[k]? =V9 [x]) (f:t≠0) (d:t∉(mv k).map (·.1)):mX.act k t=0:=by
 rw[pA];by_cases q:t<G.tc
 ·rw[jT q,oo d];show wV _ _=0;rcases iG (BO G k) t with e|⟨p,l,a,b, -⟩
  ·exact e
  ·unfold BO at a;rw[B.look (cB c)]at a;haveI e:p∈(rd k).map λr=>(r,fl.getD (G.eR r) 0):=by rw[a];exact aS ..
   obtain⟨r, -,rfl⟩:=aM.1 e;exact absurd (B.fup b) f
 ·exact sN q
theorem BR.sr3 (B:BR) {k x y i:Nat} (a:aV[k]? =V9 [x]) (m:CK x y) (g:G.bU y=Wa) (e:G.gI y≠0) (d:G.eR (G.gI y)=nQ i) (hi:i<R.length) (h:mK R M i):mX.act k 0= -(G.gI y:Int):=by
 obtain⟨p,c,n,o,f⟩:=B.at_ a;haveI l:=B.g.qV;haveI b:G.gI y∈rd k:=(f _).2 ⟨y,m,g,e,rfl⟩;rw[pA,jT (by lia),oo (B.L0 a b)];delta BO;rw[B.look (cB a)];haveI c:=B.rd1 a
 match j:rd k,b,c with
 |[r],b,_=>rw[aD.1 b]at d⊢;show(if(fl.getD (G.eR r) 0).testBit 0 then-(r:Int) else 0)=_;rw[d,B.flo hi h];rfl
theorem BR.sr5 (B:BR) {k:Nat} (a:aV[k]? =V9 [G.off 0+1]):mX.act k 0=1048576:=by haveI f:=B.g.qV;haveI b:=B.at_ a;haveI c:=b.2.1;haveI g:=b.2.2.2.2;obtain⟨t,e, -⟩:=B.Kl a .self (B.g.zero.after (d:=1) (by decide));rw[pA,jT (by lia)];haveI:=Ay (p:=(0,t)) c e (show 0<G.tc by lia);rw[this];rfl
theorem BR.sr6 (B:BR) {k x i:Nat} (b:aV[k]? =V9 [x]) (hi:i<R.length) (h:mK R M i) (f:G.bU x=V9 (nQ i)):∃t:Nat,mX.go k (nQ i)=t/\aV[t]? =V9 [x+1]:=by
 injection 0 k x i with B b hi h f;obtain⟨t,d,e⟩:=B.Kl b .self f;injection 0 t with d e;haveI c:=(B.at_ b).2.1;haveI m:=B.g.q hi h;refine⟨t,?_,e⟩;have l:(nQ i,t)∈qc G.tc (mv k):=aG.2 ⟨d,by simp;exact tw m.1⟩;have a:gD (vD (qc G.tc (mv k))) (.int (nQ i))=V9 (.int t):=o0 (p:=(nQ i,t)) (by rw[ut];exact ef c) l;rw[oZ,kN]at a;delta jh.go mX;unfold pF at a;rw[vu]at a;haveI j:((λp:Nat×Int=>p.1==nQ i) ∘ λp:Nat×Nat=>(p.1,(p.2:Int)))=λp=>p.1==nQ i:=rfl;have a:=(j)▸a
 induction g:(qc G.tc (mv k)).find? (λp=>p.1==nQ i)with
 |none=>rw[g]at a;exact nn a
 |some p=>rw[g]at a;have:V9 (V.int (p.2:Int))=V9 (.int t):=a;cases this;rfl
end
end
section
noncomputable def iA (G:Gr) (k:List Nat):Nat:=
 let j:=if k∈G.names.take G.tc then G.names.idxOf k else 2
 if j=1 then 2 else j
theorem EG {G:Gr} (k:List Nat):uO G k (iA G k):=by
 delta iA;by_cases h:k∈G.names.take G.tc
 ·refine⟨G.names.idxOf k,bL ?_,by rw[if_pos h]⟩;haveI b:=dT.2 (fj h);refine⟨by rw[aF b,kJ],?_⟩;haveI c:=dT.2 h;haveI d:(G.names.take G.tc).idxOf k=G.names.idxOf k:=by
   haveI:=jl (l₁:=G.names.take G.tc) (l₂:=G.names.drop G.tc) (a:=k);rw[fO,if_pos h]at this;exact this.symm
  rw[c9]at c;lia
 ·exact⟨2,bG ⟨h,rfl⟩,by rw[if_neg h]⟩
section
theorem RG.take (a:RG):G.names.take G.tc=gG (dS (bP R M)) (bP R M):=by rw[a.tc,a.g];show(iw (bP R M)).take (rN (bP R M))=_;delta iw rN;rw[bF,vp]
theorem RG.Pj (a:RG) {c:Nat} (d:c<2) (h:sL c∈gG (dS (bP R M)) (bP R M)):iA G (sL c)=nL c:=by
 haveI b:3<=nL c:=by
  obtain⟨⟨t,f, -⟩, -⟩:=a.pg.Hl.1;haveI e:iw (bP R M)=oA++(t++[oa]++dS (bP R M)):=by delta iw;rw[f];rfl
  haveI b:sL c∉oA:=by rcases x9 d with q|q<;>rw[q]<;>decide
  delta nL ix;rw[e,jl,if_neg b];exact vc
 delta iA;rw[a.take,if_pos h];haveI e:G.names.idxOf (sL c)=nL c:=by rw[a.g];rfl
 rw[e];rw[if_neg (by lia)]
theorem RG.Ta (a:RG) {c:Nat} (h:sL c∉gG (dS (bP R M)) (bP R M)):iA G (sL c)=2:=by delta iA;rw[a.take,if_neg h];rfl
theorem RG.Ij (a:RG):iA G ik=0:=by
 obtain⟨⟨t,b, -⟩, -⟩:=a.pg.Hl.1;haveI c:ik∈gG (dS (bP R M)) (bP R M):=by rw[b];exact bB _ (by decide)
 delta iA;rw[a.take,if_pos c];haveI e:G.names.idxOf ik=0:=by rw[a.g];show(iw (bP R M)).idxOf ik=0;delta iw;rw[b];rfl
 rw[e];rfl
theorem BR.wk (B:BR) {k t:Nat}:mX.act k t=0\/(∃g:Nat,(mX.act k t=g/\(k<aV.length->g<aV.length))\/mX.act k t=1048576)\/∃r:Nat,mX.act k t= -(r:Int)/\(k<aV.length->r<G.rules.length):=by
 injection 0 k t with B;rw[pA];by_cases q:t<G.tc
 ·rw[jT q]
  induction m:pF (nI G.tc (mv k)) t with
  |some v=>
   right;left;obtain⟨p,f,rfl⟩:=cC.1 m;haveI:=et f;obtain⟨z,hz,d⟩:=aM.1 this;rw[←d];refine⟨z.2,?_⟩;show((if z.1=0 then(1048576:Int) else z.2)=_/\_)\/(if z.1=0 then(1048576:Int) else z.2)=_;by_cases c:z.1=0
   ·right;rw[if_pos c]
   ·left;rw[if_neg c];refine⟨rfl,λb=> ?_⟩;obtain⟨x,g⟩:=B.jF b;obtain⟨j,n,e,h, -⟩:=B.at_ g;have a:=(aG.1 hz).1;obtain⟨y,l,i⟩:=(e z.1).1 (bN a);exact cB (h z a y l i)
  |none=>
   rcases iG (BO G k) t with e|⟨p,l,c, -,e⟩
   ·exact bL e
   ·right;right;refine⟨p.1,e,λb=> ?_⟩;obtain⟨x,g⟩:=B.jF b;unfold BO at c;rw[B.look b]at c;haveI f:p∈(rd k).map λr=>(r,fl.getD (G.eR r) 0):=by rw[c];exact aS ..
    obtain⟨r,a,d⟩:=aM.1 f;rw[←d];exact(B.ya g a).2
 ·exact bL (sN q)
theorem BR.Ts (B:BR):mX.G5 (iA G):=by
 haveI c:=aE (gi B.nd B.ks) (B.g.uk B.ne B.cl).len;haveI d:=B.g.qV;haveI l:=B.g.pP;refine⟨⟨B.g.wf,by show G.names.Nodup;rw[B.g.g];exact B.g.pg.nd,d.1,c,λs a=> ?_,λs a p b=> ?_,λs t a=> ?_⟩,λq x b a=> ?_,λq b=> ?_,λq k b a f=> ?_,λq k b a=> ?_,λk=>EG k⟩
 ·show(i7 G s).length=G.tc;exact i8
 ·obtain⟨x,e⟩:=B.jF a;exact(B.NX e).1.lt p (aG.1 b).1
 ·rw[Mi,←pA];rcases B.wk (k:=s) (t:=t)with e|⟨g,⟨e, -⟩|e⟩|⟨r,e,h⟩
  ·rw[e];decide
  ·rw[e];lia
  ·rw[e];decide
  ·rw[e];haveI:=h a;lia
 ·show(mX.go q x).toNat<aV.length;unfold jh.go mX at a⊢
  induction e:(qc G.tc (mv q)).find? (λp=>p.1==x)with
  |none=>rw[e]at a;exact absurd a (by decide)
  |some p=>obtain⟨y,m⟩:=B.jF b;obtain⟨k,f,h,i, -⟩:=B.at_ m;have g:=(aG.1 (et e)).1;obtain⟨z,hz,j⟩:=(h p.1).1 (bN g);haveI:=cB (i p g z hz j);rw[d8];exact this
 ·rw[jH];show 0<G.rules.length;rw[B.g.g];exact ig _
 ·rcases B.wk (k:=q) (t:=iA G k)with e|⟨g,⟨e,h⟩|e⟩|⟨r,e,h⟩
  ·rw[e]at a;exact absurd a (by decide)
  ·rw[e,d8];exact h b
  ·exact absurd e f
  ·rw[e]at a;lia
 ·rcases B.wk (k:=q) (t:=iA G k)with e|⟨g,⟨e,h⟩|e⟩|⟨r,e,h⟩
  ·rw[e]at a;exact absurd a (by decide)
  ·rw[e]at a;lia
  ·rw[e]at a;exact absurd a (by decide)
  ·rw[e,l9,d8];exact h b
end
end
section
section
variable {T:jh} {tm:List Nat->Nat} {s s':Pm} {q t x f:Nat} {k:List Nat} {b:Bool}
theorem rO (d:s.st.getLast?=V9 q) (c:T.eb q=0) (b:s.look=V9 k) (a:T.act q (tm k)=(t:Int)) (e:0<t) (f:t<1048576):iZ T tm s=V9 {s with mo:=s.mo++[jV t],st:=s.st++[t],look:=Wa}:=by delta iZ;rw[d];dsimp only;rw[if_neg (e9 (te c)),b];dsimp only;rw[a,if_neg (by lia),if_pos (dP.2 ‹_›),d8]
theorem oi (d:s.st.getLast?=V9 q) (c:T.eb q=0) (b:s.look=V9 k) (a:T.act q (tm k)= -(x:Int)) (e:0<x):iZ T tm s=jv T s x:=by delta iZ;rw[d];dsimp only;rw[if_neg (e9 (te c)),b];dsimp only;rw[a,if_neg (by lia),if_neg (by lia),if_pos (by lia),l9,d8]
theorem vF (e:s.st.getLast?=V9 q) (d:T.eb q=0) (c:s.look=V9 k) (b:T.act q (tm k)=1048576) (a:1<s.st.length):iZ T tm s=V9 {s with mo:=s.mo++[mx],nY:=tZ}:=by delta iZ;rw[e];dsimp only;rw[if_neg (e9 (te d)),c];dsimp only;rw[b,if_pos rfl,if_pos a]
theorem pa (d:s.st.getLast?=V9 q) (c:T.eb q=0) (b:s.look=V9 k) (a:T.act q (tm k)=0):iZ T tm s=V9 {s with nY:=t5,md:=s.md++[((s.cnt-1:Nat):Int)]}:=by delta iZ;rw[d];dsimp only;rw[if_neg (e9 (te c)),b];dsimp only;rw[a,if_neg (by decide),if_neg (by decide),if_neg (by decide)]
theorem o9 (b:s.st.getLast?=V9 q) (a:0<T.eb q):iZ T tm s=jv T s (T.eb q):=by delta iZ;rw[b];dsimp only;rw[if_pos a]
theorem pQ {q' g n:Nat} (b:(lh T.G).getD x 0=n) (c:(s.st.take (s.st.length-n)).getLast?=V9 q') (a:T.go q' ((hZ T.G).getD x 0)=(g:Int)):
  jv T s x=V9 {s with mo:=s.mo++[fH x],st:=s.st.take (s.st.length-n)++[g]}:=by
 delta jv;rw[b,c];dsimp only;rw[a,if_neg (by lia),d8]
theorem ju (h:s.nY≠eu):fZ T tm (f+1) s b k=V9 s:=by dsimp only[fZ];rw[if_pos h]
theorem qY (h:s.nY=eu) (c:s.st.getLast?=V9 q) (b:s.look=Wa) (a:T.eb q=0):fZ T tm (f+1) s Wb k=V9 s:=by dsimp only[fZ];rw[if_neg (λe=>e h),c];dsimp only;rw[if_pos ⟨b,a⟩,if_pos rfl]
theorem hS (h:s.nY=eu) (c:s.st.getLast?=V9 q) (b:s.look=Wa) (a:T.eb q=0) (d:iZ T tm {s with look:=V9 k,cnt:=s.cnt+1}=V9 s'):fZ T tm (f+1) s Wc k=fZ T tm f s' Wb k:=by rw[fZ,if_neg (λe=>e h),c];dsimp only;rw[if_pos ⟨b,a⟩,if_neg (by decide),d];rfl
theorem jt (h:s.nY=eu) (c:s.st.getLast?=V9 q) (a:¬(s.look=Wa/\T.eb q=0)) (d:iZ T tm s=V9 s'):fZ T tm (f+1) s b k=fZ T tm f s' b k:=by rw[fZ,if_neg (λe=>e h),c];dsimp only;rw[if_neg a,d];rfl
end
section
theorem iE (j:sd R M):∀{w:List Nat} {i:Nat},i<R.length->(∀c∈w,c<2)->(∀k,k<(dW R i w).length->w.getD k 0<2/\(i::dW R i w).getD k 0<R.length/\0<=gz R ((i::dW R i w).getD k 0) (w.getD k 0)/\
   (i::dW R i w).getD (k+1) 0=(gz R ((i::dW R i w).getD k 0) (w.getD k 0)).toNat)/\
  ((dW R i w).length<w.length->w.getD (dW R i w).length 0<2/\gz R ((i::dW R i w).getD (dW R i w).length 0) (w.getD (dW R i w).length 0)<0):=by
 intro w
 induction w with
 |nil=>intro i hi _;exact⟨λk b=>absurd b (eC _),λh=>absurd h (eC _)⟩
 |cons c w d=>
  intro i hi e;have a:=e c (aS ..);haveI l:=(j.wy hi a).2;dsimp only[dW];by_cases q:gz R i c<0
  ·rw[if_pos q];exact⟨λk b=>absurd b (eC _),λ_=>⟨a,q⟩⟩
  ·rw[if_neg q];obtain⟨f,g⟩:=d (i:=(gz R i c).toNat) (tG (ed.1 q) l.2) (λb h'=>e b (bA _ h'));refine⟨λk b=> ?_,λh=> ?_⟩
   ·induction k with
    |zero=>exact⟨a,hi,ed.1 q,rfl⟩
    |succ k=>exact f k (jp b)
   ·exact g (jp h)
end
section
noncomputable def ir (k:Nat):Nat:=(gA R w).getD k 0
noncomputable def Px:Nat->Nat
 |0=>G.off 0
 |j+1=>G.off (ρ (sP (ir j) (w.getD j 0)))+1
noncomputable def sx (j:Nat):Nat:=aV.idxOf [Px j]
theorem xd {l:List (List Nat)} {t:Nat} {x:List Nat} (b:l.Nodup) (h:l[t]? =V9 x):l.idxOf x=t:=by haveI a:=cB h;haveI:=kC b t a;rw[mH h a]at this;exact this
theorem BR.Tb (B:BR) (k:∀c∈w,c<2):∀j,j<=bM R w->aV[sx j]? =V9 [Px j]/\ir j<R.length/\mK R M (ir j)/\G.bU (Px j)=V9 (nQ (ir j)):=by
 haveI hz:=B.g.h.zero B.ne;haveI b:=iE B.g.h.A8 hz.1 k;haveI l:=b.1;intro j
 induction j with
 |zero=>intro _;refine⟨?_,hz.1,hz.2,B.g.zero.after (d:=0) (aP _)⟩;dsimp only[sx,Px];rw[xd B.nd B.k0];exact B.k0
 |succ j o=>intro h;haveI b:=o (tw h);haveI m:=b.1;haveI f:=b.2.1;haveI n:=b.2.2.2;haveI b:=l j h;haveI p1:=b.1;haveI p3:=b.2.2.1;haveI p:=b.2.2.2;haveI c:0<=gz R (ir j) (w.getD j 0):=p3;haveI b:=B.sr1 m n f p1 c;haveI g:=b.choose_spec.2.1;haveI a:ir (j+1)=(gz R (ir j) (w.getD j 0)).toNat:=p;haveI i:=B.g.h.xV f p1 c;refine⟨?_,by rw[a];exact i.1,by rw[a];exact i.2,by rw[a];exact(B.g.aw f p1 c).2.2.1⟩;delta sx;haveI e:Px (j+1)=G.off (ρ (sP (ir j) (w.getD j 0)))+1:=rfl;rw[e,xd B.nd g];exact g
theorem BR.shf (B:BR) (d:∀c∈w,c<2) {j:Nat} (b:j<bM R w):mX.act (sx j) (iA G (kindAt w j))=(sx (j+1):Int)/\0<sx (j+1)/\sx (j+1)<60:=by
 refine uX λo=> ?_;haveI hz:=B.g.h.zero B.ne;haveI p:=iE B.g.h.A8 hz.1 d;haveI l:=p.1;obtain⟨m,f,q,n⟩:=B.Tb d j (tw b);obtain⟨p1,p2,p3,r⟩:=l j b;haveI a:0<=gz R (ir j) (w.getD j 0):=p3;obtain⟨t,g,h,i,k⟩:=B.sr1 m n f p1 a;haveI c:kindAt w j=sL (w.getD j 0):=by delta kindAt;haveI:j<w.length:=a9 b hT;rw[if_pos this]
 haveI e:sx (j+1)=t:=xd B.nd h;refine o ?_;rw[e,c,B.g.Pj p1 (B.g.sgn f p1 a).1];exact⟨g,i,k⟩
noncomputable def uW (k:Nat):List Nat:=(aC (k+1)).map (sx)
noncomputable def tE (k:Nat):Pm:=
 ⟨uW k,Wa,k,eu,[],(aC k).map λj=>jV (sx (j+1))⟩
theorem i0 {k:Nat}:(uW k).getLast?=V9 (sx k):=by delta uW;rw[cG,bV];simp
theorem xX {k:Nat}:uW (k+1)=uW k++[sx (k+1)]:=by delta uW;rw[cG,bV];rfl
theorem oj {k:Nat}:(uW k).length=k+1:=by delta uW;simp
theorem BR.run (B:BR) (l:∀c∈w,c<2) (b:w.length<=6):sb mX (iA G) w (bM R w) 20 (tE):=by
 haveI a:bM R w<=w.length:=hT;refine⟨by decide,?_,λk c=>⟨?_,?_,rfl,rfl,rfl⟩,λk c=> ?_⟩
 ·haveI e:sx 0=0:=xd B.nd B.k0;delta tE uW QE;simp[e]
 ·show((aC k).map _).length<=100;rw[aB,aU];exact tb (kD (kD c a) b)
 ·show(uW k).length<=100;rw[oj];exact td (kD (kD c a) b)
 ·haveI f:=B.shf l c;haveI h:=f.1;haveI i:=f.2.1;haveI j:=f.2.2;haveI d:=rO (T:=mX) (tm:=iA G) (s:={tE k with look:=V9 (kindAt w k),cnt:=k+1}) (k:=kindAt w k) i0 jH rfl h i (tg j);rw[hS (s:=tE k) rfl i0 rfl jH d];haveI e:({tE k with look:=Wa,cnt:=k+1,mo:=(tE k).mo++[jV (sx (k+1))],st:=(tE k).st++[sx (k+1)]}:Pm)=tE (k+1):=by
   dsimp only[tE];rw[xX,cG,bV];rfl
  haveI g:({st:=(tE k).st++[sx (k+1)],look:=Wa,cnt:=k+1,nY:=(tE k).nY,md:=(tE k).md,mo:=(tE k).mo++[jV (sx (k+1))]}:Pm)=tE (k+1):=e;rw[g];exact qY rfl i0 rfl jH
end
end
section
section
theorem BR.Kh (B:BR) {k x i c:Nat} (m:aV[k]? =V9 [x]) (p:G.bU x=V9 (nQ i)) (hi:i<R.length) (r:mK R M i) (j:c<2) (w:gz R i c<0):mX.act k (iA G (sL c))=0:=by
 obtain⟨v,z,o, -, -⟩:=B.at_ m;haveI u:=B.g.qV;by_cases h:sL c∈gG (dS (bP R M)) (bP R M)
 ·rw[B.g.Pj j h];haveI s:nL c<G.tc:=by rw[B.g.tc];exact um h
  haveI q:nL c≠0:=by
   haveI:=B.g.Pj j h;intro e;rw[e]at this;unfold iA at this;rw[B.g.take,if_pos h]at this;haveI b:G.names.idxOf (sL c)=nL c:=by rw[B.g.g];rfl
   rw[b,e]at this;haveI a:=w6 (prs:=bP R M) (x:=sL c) (bB _ (bB _ h));haveI d:ix (bP R M) (sL c)=0:=e;rw[d]at a;obtain⟨⟨t,f, -⟩, -⟩:=B.g.pg.Hl.1;unfold iw at a;haveI a:=(f)▸a;haveI:ik=sL c:=aA a;rcases x9 j with q|q<;>have this:=(q)▸this<;>cases this
  refine B.sr2 m q λg=> ?_;obtain⟨y,n,b⟩:=(o _).1 g
  induction n with
  |self=>rw[p]at b;haveI:=(B.g.q hi r).1;lia
  |way d f l a=>rw[p]at a;haveI e:=B.g.t7 hi r d (bL ⟨_,f,l⟩) (aA a);subst e;rw[(B.g.aw hi f l).1]at b;haveI e:=tY (q9 (bB _ (bB _ (B.g.sgn hi f l).1)) (bB _ (bB _ h)) (aA b));rw[e];lia
  |sq d e a=>rw[(B.g.ae d e).1]at b;exact nn b
 ·rw[B.g.Ta h];refine B.sr2 m (by decide) λg=> ?_;obtain⟨y,n,b⟩:=(o _).1 g
  induction B.g.af B.ne (B.g.Rq v n)with
  |cur d e a=>rw[b]at a;haveI:=(B.g.q d e).1;lia
  |Qg _ _ d a=>rw[b]at a;exact d (aA a).symm
  |none a=>have a:=(b)▸a;cases a
theorem BR.NR (B:BR) {k x i:Nat} (j:aV[k]? =V9 [x]) (f:G.bU x=V9 (nQ i)) (hi:i<R.length) (m:mK R M i) (p:M.getD i Wc=Wc):mX.act k 0=0:=by
 obtain⟨u,t,n, -,o⟩:=B.at_ j;haveI s:=B.g.qV;haveI g:0∉(mv k).map (·.1):=λg=>by
  obtain⟨y,h,a⟩:=(n _).1 g
  induction h with
  |self=>rw[f]at a;haveI:=(B.g.q hi m).1;lia
  |way b c e d=>haveI a:=((B.g.aw b c e).1)▸a;haveI:=(B.g.sgn b c e).2.1;lia
  |sq b c d=>rw[(B.g.ae b c).1]at a;exact nn a
 haveI a:rd k=[]:=by
  rcases q:rd k with _|⟨r,l⟩
  ·rfl
  ·exfalso;obtain⟨y,h,a, -, -⟩:=(o r).1 (by rw[q];exact aS ..)
   induction h with
   |self=>have a:=(f)▸a;cases a
   |way b c e d=>have a:=((B.g.aw b c e).1)▸a;cases a
   |sq b c d=>rw[f]at d;haveI e:=B.g.t7 hi m b (bG c) (aA d);subst e;have c:=(p)▸c;cases c
 rw[pA,jT (by lia),oo g];delta BO;rw[B.look (cB j),a];rfl
theorem pU {G:Gr} {r:Nat} {a:Ru} (h:fh G r a):(lh G).getD r 0=a.right.length/\(hZ G).getD r 0=a.left:=⟨getD_map h.at_,getD_map h.at_⟩
theorem BR.chain (B:BR) (I:∀c∈w,c<2):∀(j f:Nat) (mo:List V) (t cnt:Nat),j<=bM R w->aV[t]? =V9 [Px j+1]->
  ∃e,fZ mX (iA G) (f+j+2) ⟨uW j++[t],V9 ik,cnt,eu,[],mo⟩ Wb ik=
   V9 ⟨e,V9 ik,cnt,tZ,[],mo++((aC j).reverse.map λi=>fH (ρ (sP (ir i) (w.getD i 0))))++[mx]⟩:=by
 intro j
 induction j with
 |zero=>
  intro f mo t cnt _ F;haveI m:aV[t]? =V9 [G.off 0+1]:=F;haveI a:(uW 0++[t]).getLast?=V9 t:=by rfl
  haveI b:=B.sr5 m;haveI c:mX.act t (iA G ik)=1048576:=by rw[B.g.Ij];exact b
  haveI i:=vF (T:=mX) (tm:=iA G) (s:=⟨uW 0++[t],V9 ik,cnt,eu,[],mo⟩) (k:=ik) a jH rfl c (by rw[aH,oj,cP];exact vc);refine⟨uW 0++[t],?_⟩;rw[jt (f:=f+0+1) rfl a (λh=>by cases h.1) i,ju (f:=f+0) (by show tZ≠eu;decide)];simp
 |succ j O=>
  intro f mo t cnt D F;obtain⟨M,A,J,N⟩:=B.Tb I j (tw D);haveI hz:=B.g.h.zero B.ne;haveI d:=iE B.g.h.A8 hz.1 I;haveI L:=d.1;haveI d:=L j D;haveI p1:=d.1;haveI p3:=d.2.2.1;haveI P:=d.2.2.2;haveI o:0<=gz R (ir j) (w.getD j 0):=p3;haveI p:=B.g.aw A p1 o;haveI m:aV[t]? =V9 [G.off (ρ (sP (ir j) (w.getD j 0)))+2]:=F;haveI b:=p.2.2.2.2.2.2;haveI u:=B.g.N3 (eo.mpr ⟨ir j,A,bL ⟨w.getD j 0,p1,o,rfl⟩⟩);haveI c:=B.sr3 m .self p.2.2.2.2.1 (by rw[b];delta ρ;lia) (by rw[b];exact u) A J;rw[b]at c;haveI l:mX.act t (iA G ik)= -((ρ (sP (ir j) (w.getD j 0)):Nat):Int):=by rw[B.g.Ij];exact c
  haveI d:=B.g.way A p1 o;haveI E:=d.choose_spec;haveI d:=pU E;haveI r:=d.1;haveI q:=d.2;obtain⟨K,C,H⟩:=B.sr6 M A J N;haveI a:(uW (j+1)++[t]).getLast?=V9 t:=by simp
  haveI i:=oi (T:=mX) (tm:=iA G) (s:=⟨uW (j+1)++[t],V9 ik,cnt,eu,[],mo⟩) (k:=ik) a jH rfl l (ta);haveI z:(uW (j+1)++[t]).take ((uW (j+1)++[t]).length-2)=uW j:=by
   haveI e:(uW (j+1)++[t]).length-2=(uW j).length:=by rw[aH,oj,oj];rfl
   rw[e,xX,bF,vp]
  haveI v:=pQ (T:=mX) (s:=⟨uW (j+1)++[t],V9 ik,cnt,eu,[],mo⟩) (x:=ρ (sP (ir j) (w.getD j 0))) (n:=2) (q':=sx j) (g:=K) r (by rw[z];exact i0) (by rw[q];exact C)
  rw[v,z]at i;rcases O f (mo++[fH (ρ (sP (ir j) (w.getD j 0)))]) K cnt (tw D) H with⟨e,y⟩;refine⟨e,?_⟩;rw[show f+(j+1)+2=(f+j+2)+1 from by rfl,jt rfl a (λh=>by cases h.1) i];rw[y,cG,pD];simp
theorem Ou (a:bM R w=w.length):y0 (bP R M) (gA R w) w=ρ (BD (ir w.length))::(aC w.length).reverse.map λi=>ρ (sQ (ir i),[sL (w.getD i 0),sQ (ir (i+1))]):=by delta y0 gV;rw[pD,bV,gx,gx,gx,cI];rfl
theorem BR.good (B:BR) (y:∀c∈w,c<2) (v:w.length<=6):lY R M w mX:=by
 haveI hz:=B.g.h.zero B.ne;haveI E:bM R w<=w.length:=hT;obtain⟨O,J⟩:=iE B.g.h.A8 hz.1 y;obtain⟨z,o,A,C⟩:=B.Tb y (bM R w) (aK _);haveI I:0<aV.length:=by haveI:=cB B.k0;exact this
 haveI c:(gA R w).getLastD 0=ir (bM R w):=by delta ir;rw[fU,fV,bJ];rfl
 haveI e:mX.act (sx (bM R w)) (iA G (kindAt w (bM R w)))=0->∃s',fZ mX (iA G) 20 (tE (bM R w)) Wc (kindAt w (bM R w))=V9 s'/\
   s'.nY=t5/\s'.md=[(bM R w:Int)]/\s'.st.length=bM R w+1:=λa=>by
  haveI l:=pa (T:=mX) (tm:=iA G) (s:={tE (bM R w)with look:=V9 (kindAt w (bM R w)),cnt:=bM R w+1}) (k:=kindAt w (bM R w)) i0 jH rfl a;refine⟨_,by rw[hS (s:=tE (bM R w)) rfl i0 rfl jH l];exact ju (by decide),rfl,?_,oj⟩;rw[qI];rfl
 have rest:∀s',fZ mX (iA G) 20 (tE (bM R w)) Wc (kindAt w (bM R w))=V9 s'->(match fu R M w with
  |false=>s'.nY=t5/\s'.md=[(bM R w:Int)]/\s'.st.length=bM R w+1
  |true=>s'.nY=tZ/\s'.md=[]/\s'.mo.length<=200/\s'.mo.drop (bM R w)=(y0 (bP R M) (gA R w) w).map fH++[mx])->lY R M w mX:=λs' f h=>
  ⟨iA G,20,tE,s',B.Ts,I,B.run y v,λk a=>oj,f,h⟩
 by_cases d:bM R w=w.length
 ·have k:kindAt w (bM R w)=ik:=by delta kindAt;rw[if_neg (e9 (tf d))]
  induction p:M.getD (ir (bM R w)) Wc with
  |false=>
   haveI a:=B.NR z C o A p;have b:mX.act (sx (bM R w)) (iA G (kindAt w (bM R w)))=0:=by rw[k,B.g.Ij];exact a
   obtain⟨s',f,h⟩:=e b;refine rest s' f ?_;haveI:fu R M w=Wc:=by delta fu;rw[c,p,oH]
   rw[this];exact h
  |true=>
   haveI m:fu R M w=Wb:=by delta fu;rw[c,p,decide_eq_true d];rfl
   haveI h:=B.g.ae o p;haveI t:=B.g.N3 (eo.mpr ⟨ir (bM R w),o,bG ⟨p,rfl⟩⟩);haveI a:=B.sr3 z (.sq o p C) h.1 (by rw[h.2.2];delta ρ;lia) (by rw[h.2.2];exact t) o A;rw[h.2.2]at a;haveI b:mX.act (sx (bM R w)) (iA G ik)= -((ρ (BD (ir (bM R w))):Nat):Int):=by rw[B.g.Ij];exact a
   obtain⟨lv,K⟩:=B.g.sq o p;haveI D:=pU K;haveI r:=D.1;haveI q:=D.2;obtain⟨N,F,L⟩:=B.sr6 z o A C;haveI l:=oi (T:=mX) (tm:=iA G) (s:={tE (bM R w)with look:=V9 ik,cnt:=bM R w+1}) (k:=ik) i0 jH rfl b (ta);haveI u:=pQ (T:=mX) (s:={tE (bM R w)with look:=V9 ik,cnt:=bM R w+1}) (x:=ρ (BD (ir (bM R w)))) (n:=0) (q':=sx (bM R w)) (g:=N) r
    (by rw[PZ,bZ];exact i0) (by
    rw[q];exact F)
   rw[u,PZ,bZ]at l;obtain⟨Q,f⟩:=B.chain y (bM R w) (17-bM R w) ((tE (bM R w)).mo++[fH (ρ (BD (ir (bM R w))))]) N (bM R w+1) (aK _) L;haveI f:=(show 17-bM R w+bM R w+2=19 from by rw[Eh (tb (kD E v))])▸f;rw[k]at rest;refine rest _ (by rw[hS (s:=tE (bM R w)) rfl i0 rfl jH l];exact f) ?_;rw[m];refine⟨rfl,rfl,?_,?_⟩
   ·show(((aC (bM R w)).map _++[_])++(vt _ (aC (bM R w)).reverse)++[mx]).length<=200;simp;lia
   ·show(((aC (bM R w)).map (λj=>jV (sx (j+1)))++[_])++(vt _ (aC (bM R w)).reverse)++[mx]).drop (bM R w)=_;haveI j:((aC (bM R w)).map λj=>jV (sx (j+1))).length=bM R w:=by simp
    rw[bF,bF,List.drop_append_of_le_length (by rw[j];exact aK _),zA (by rw[j];exact aK _),ny,Ou d,cS,cI,d];show fH _::(vt _ _++[mx])=fH _::(vt _ _++[mx]);congr 2;apply dU;intro i hi;haveI H:i<bM R w:=by rw[d];exact aW.1 (gw.1 hi)
    haveI D:=O i H;haveI P:=D.2.2.2;show fH (ρ (sP (ir i) (w.getD i 0)))=fH (ρ (sQ (ir i),[sL (w.getD i 0),sQ (ir (i+1))]));haveI:ir (i+1)=(gz R (ir i) (w.getD i 0)).toNat:=P;rw[this]
 ·have i:bM R w<w.length:=kT ‹_› ‹_›;obtain⟨p1,p2⟩:=J i;haveI k:kindAt w (bM R w)=sL (w.getD (bM R w) 0):=by delta kindAt;rw[if_pos i]
  haveI a:=B.Kh z C o A p1 p2;haveI b:mX.act (sx (bM R w)) (iA G (kindAt w (bM R w)))=0:=by rw[k];exact a
  obtain⟨s',f,h⟩:=e b;refine rest s' f ?_;haveI:fu R M w=Wc:=by delta fu;rw[decide_eq_false d,kM]
  rw[this];exact h
end
end
section
section
theorem EY (h:gm R M) (b:bP R M≠[]) (n:∀c∈w,c<2) (j:w.length<=6):zn (bP R M) (sQ 0) G Wc (λ_=>Ml G) (lY R M w) fd aV mv rd fl:=by haveI l:=E7 h b;have d:RG:=⟨h,O0,l⟩;refine⟨l.Hm,d.simple,d.qV.1,by rw[O0];exact l.nd,λa=>d.uk b a,λa c f hd e=>d.au b a c f hd e,λa m c f hd g e i=> ?_⟩;have B:BR:=⟨d,b,a,m,c,f,hd,g,e,i⟩;exact⟨xL,λk f=>B.TP f,B.good n j⟩
theorem EX (h:gm R M) (k:bP R M≠[]) (r:∀c∈w,c<2) (c:fu R M w=Wb):∀p∈gV (gA R w) w,p∈bP R M:=by
 haveI hz:=h.zero k;haveI a:=iE h.A8 hz.1 r;haveI o:=a.1;unfold fu at c;rw[eh]at c;haveI d:bM R w=w.length:=of_decide_eq_true c.1;haveI f:∀j,j<=bM R w->ir j<R.length:=λj g=>by
  induction j with
  |zero=>exact hz.1
  |succ j=>haveI a:=o j g;haveI p1:=a.1;haveI p2:=a.2.1;haveI p3:=a.2.2.1;haveI n:=a.2.2.2;haveI:=(h.xV p2 p1 p3).1;show(0::dW R 0 w).getD (j+1) 0<_;rw[n];exact this
 haveI b:(gA R w).getLastD 0=ir (bM R w):=by delta ir;rw[fU,fV,bJ];rfl
 intro p m;rcases aZ.1 m with l|l
 ·obtain⟨j,g,q⟩:=aM.1 l;rw[←q];haveI i:j<bM R w:=by rw[d];exact aW.1 g
  haveI a:=o j i;haveI p1:=a.1;haveI p2:=a.2.1;haveI p3:=a.2.2.1;haveI n:=a.2.2.2;refine eo.mpr ⟨ir j,p2,bL ⟨w.getD j 0,p1,p3,?_⟩⟩;haveI e:ir (j+1)=(gz R (ir j) (w.getD j 0)).toNat:=n;show(sQ (ir j),[sL (w.getD j 0),sQ (ir (j+1))])=_;rw[e]
 ·rw[aD.1 l];rw[b,d]at c;exact eo.mpr ⟨ir w.length,by rw[←d];exact f _ (aK _),bG ⟨c.2,rfl⟩⟩
end
end
section
section
noncomputable abbrev rU (i:Nat):List Nat×List (List Nat):=([90],[sQ i])
noncomputable abbrev Az:List Nat×List (List Nat):=(sQ 0,[])
noncomputable abbrev qz (i c:Nat):List Nat×List (List Nat):=(sQ (gz R i c).toNat,[sQ i,sL c])
theorem lD {i:Nat} {p}:p∈lE R i↔∃c,c<2/\0<=gz R i c/\p=qz i c:=by
 injection 0 i p;delta lE;rw[aM];constructor
 ·intro a;obtain⟨c,e,rfl⟩:=a;haveI a:=aG.1 e;haveI b:=a.1;haveI d:=a.2;exact⟨c,aW.1 b,of_decide_eq_true d,rfl⟩
 ·intro a;obtain⟨c,b,d,rfl⟩:=a;exact⟨c,aG.2 ⟨aW.2 b,decide_eq_true d⟩,rfl⟩
theorem eF {p}:p∈cV R M↔(∃i,i<R.length/\M.getD i Wc=Wb/\p=rU i)\/p=Az\/∃i c,i<R.length/\c<2/\0<=gz R i c/\p=qz i c:=by
 injection 0 p;delta cV;rw[aZ,aZ,aM,aD,fF];constructor
 ·rintro((⟨i,hi,rfl⟩|rfl)|⟨i,hi,e⟩)
  ·haveI a:=aG.1 hi;haveI b:=a.1;haveI c:=a.2;exact bL ⟨i,aW.1 b,c,rfl⟩
  ·exact bG (bL rfl)
  ·obtain⟨c,b,a,d⟩:=lD.mp e;rw[d];exact bG (bG ⟨i,c,aW.1 hi,b,a,rfl⟩)
 ·rintro(⟨i,hi,a,rfl⟩|rfl|⟨i,c,hi,b,a,rfl⟩)
  ·exact bL (bL ⟨i,aG.2 ⟨aW.2 hi,a⟩,rfl⟩)
  ·exact bL (bG rfl)
  ·exact bG ⟨i,aW.2 hi,lD.mpr ⟨c,b,a,rfl⟩⟩
theorem yt:(cV R M).Nodup:=by
 delta cV;rw[cA,cA];refine⟨⟨lM (ef gu) (λa _ b _ e=> ?_),by decide,λa d b f e=> ?_⟩,lg gu (λi _=>lM (ef gu) λc _ a _ e=> ?_) (λi _ j _ p b f=> ?_),λa d b f e=> ?_⟩
 ·exact tX (eL (congrArg mN e)).1
 ·obtain⟨i, -,rfl⟩:=aM.1 d;have e:=(aD.1 f)▸e;cases congrArg mN e
 ·exact tY (eL (eL (congrArg mN e)).2).1
 ·obtain⟨c, -, -,rfl⟩:=lD.mp b;obtain⟨d, -, -,e⟩:=lD.mp f;exact tX (eL (congrArg mN e)).1
 ·obtain⟨i, -,f⟩:=fF.1 f;obtain⟨c, -, -,rfl⟩:=lD.mp f;subst e;rcases aZ.1 d with d|d
  ·obtain⟨j, -,e⟩:=aM.1 d;haveI:=congrArg iS (congrArg mN e);simp at this
  ·cases congrArg mN (aD.1 d)
theorem gm.mark (h:gm R M) (a:bP R M≠[]):∃i,i<R.length/\M.getD i Wc=Wb:=by haveI hz:=h.zero a;obtain⟨k,b, -,c⟩:=h.liv 0 hz.1 hz.2;exact⟨k,b,c⟩
theorem gm.oN (h:gm R M) {i:Nat} (hi:i<R.length) (e:mK R M i):i=0\/∃j c,j<R.length/\c<2/\0<=gz R j c/\i=(gz R j c).toNat:=by
 haveI:=h.Tn i hi e
 induction this with
 |refl=>exact bL rfl
 | @step j c f d b a=>exact bG ⟨j,c,d,b,a,rfl⟩
theorem gb (h:gm R M) (a:bP R M≠[]) {x:List Nat}:x∈dS (cV R M)↔x=[90]\/∃i,i<R.length/\mK R M i/\x=sQ i:=by
 injection 0 x with h a;haveI hz:=h.zero a;rw[nP];constructor
 ·intro b;obtain⟨p,b,rfl⟩:=b;injection 0 p with b;rcases eF.mp b with⟨i,hi,c,rfl⟩|rfl|⟨i,c,hi,e,d,rfl⟩
  ·exact bL rfl
  ·exact bG ⟨0,hz.1,hz.2,rfl⟩
  ·haveI f:=h.xV hi e d;exact bG ⟨_,f.1,f.2,rfl⟩
 ·rintro(rfl|⟨i,hi,b,rfl⟩)
  ·obtain⟨i,hi,c⟩:=h.mark a;exact⟨rU i,eF.mpr (bL ⟨i,hi,c,rfl⟩),rfl⟩
  ·rcases h.oN hi b with rfl|⟨j,c,f,e,d,rfl⟩
   ·exact⟨Az,eF.mpr (bG (bL rfl)),rfl⟩
   ·exact⟨qz j c,eF.mpr (bG (bG ⟨j,c,f,e,d,rfl⟩)),rfl⟩
theorem Kb (h:gm R M) (a:bP R M≠[]):PG (cV R M) [90]:=by
 refine⟨(kn h.A8).2,λp d=> ?_,λp d=> ?_,λp d nm b=> ?_,(gb h a).2 (bL rfl),?_⟩
 ·rcases eF.mp d with⟨i,hi,c,rfl⟩|rfl|⟨i,c,hi,e,f,rfl⟩
  ·exact bG rfl
  ·exact bL ⟨0,rfl⟩
  ·exact bL ⟨_,rfl⟩
 ·rcases eF.mp d with⟨i,hi,c,rfl⟩|rfl|⟨i,c,hi,e,f,rfl⟩
  ·show 1<=2;decide
  ·exact aP _
  ·exact aK 2
 ·rcases eF.mp d with⟨i,hi,c,rfl⟩|rfl|⟨i,c,hi,e,f,rfl⟩
  ·rw[aD.1 b];exact bG ((gb h a).2 (bG ⟨i,hi,bG c,rfl⟩))
  ·cases b
  ·rcases bD.1 b with rfl|b
   ·exact bG ((gb h a).2 (bG ⟨i,hi,bL ⟨c,e,f⟩,rfl⟩))
   ·exact bL ⟨c,e,aD.1 b⟩
 ·haveI:=gi (L:=[90]::(aC R.length).map sQ) (pk (prs:=cV R M)) (λx b=>by
   rcases(gb h a).1 b with rfl|⟨i,hi, -,rfl⟩
   ·exact aS ..
   ·exact bA _ (aM.2 ⟨i,aW.2 hi,rfl⟩))
  rw[dF,aB,aU]at this;haveI:=h.A8.n;lia
end
structure LG:Prop where
 h:gm R M
 ne:bP R M≠[]
 g:J=eY (cV R M) [90]
 pg:PG (cV R M) [90]
section
noncomputable def σ (p:List Nat×List (List Nat)):Nat:=1+(cV R M).idxOf p
noncomputable def mZ:Nat:=ix (cV R M) [90]
noncomputable def mQ (i:Nat):Nat:=ix (cV R M) (sQ i)
noncomputable def mL (c:Nat):Nat:=ix (cV R M) (sL c)
theorem LG.wf (a:LG):J.Wf:=by rw[a.g];exact a.pg.Hm.wf
theorem LG.tc (a:LG):J.tc=rN (cV R M):=by rw[a.g];rfl
theorem LG.qV (a:LG):3<=J.tc/\J.tc<=5:=by rw[a.tc];exact a.pg.tc
theorem LG.rule (a:LG) {p} (c:p∈cV R M):fh J (σ p) (CW (cV R M) p):=by haveI b:=dT.2 c;refine a.wf.at_ ?_;rw[a.g];delta σ;rw[fA];exact plain_at (by rw[aF b,kJ])
theorem LG.zero (a:LG):fh J 0 ⟨J.tc,[mZ,0],0⟩:=by refine a.wf.at_ ?_;rw[a.tc,a.g];rfl
theorem LG.all (e:LG) {r:Nat} {b:Ru} (h:fh J r b):(r=0/\b=⟨J.tc,[mZ,0],0⟩)\/∃p,p∈cV R M/\r=σ p/\b=CW (cV R M) p:=by
 injection 0 r b with e h;haveI c:=h.at_;haveI c:=(e.g)▸c;rcases yd c with⟨d,a⟩|⟨k,p,d,a,g⟩
 ·left;rw[e.tc];exact⟨d,a⟩
 ·right;refine⟨p,aO a,?_,g⟩;haveI f:=cB a;rw[d];delta σ;haveI:=kC (yt) k f;rw[mH a f]at this;rw[this,fA]
theorem LG.mZ (a:LG):J.tc<mZ/\mZ<J.names.length:=by haveI b:=(gb a.h a.ne).2 (bL rfl);rw[a.tc,a.g];exact⟨a.pg.nS b,vV (aT _ b)⟩
theorem LG.q (a:LG) {i:Nat} (hi:i<R.length) (c:mK R M i):J.tc<mQ i/\mQ i<J.names.length/\mQ i≠Mine.Q.mZ:=by have b:=(gb a.h a.ne).2 (bG ⟨i,hi,c,rfl⟩);haveI hz:=(gb a.h a.ne).2 (bL rfl);rw[a.tc,a.g];refine⟨a.pg.nS b,vV (aT _ b),λe=> ?_⟩;haveI:=q9 (aT _ b) (aT _ hz) e;unfold sQ at this;simp at this
theorem LG.t7 (a:LG) {i j:Nat} (hi:i<R.length) (c:mK R M i) (b:j<R.length) (d:mK R M j) (e:mQ i=mQ j):i=j:=
 tX (q9 (aT _ ((gb a.h a.ne).2 (bG ⟨i,hi,c,rfl⟩))) (aT _ ((gb a.h a.ne).2 (bG ⟨j,b,d,rfl⟩))) e)
theorem LG.PA (b:LG) {c:Nat} (d:c<2):3<=mL c:=by
 obtain⟨⟨t,f, -⟩, -⟩:=b.pg.Hl.1;haveI e:iw (cV R M)=oA++(t++[oa]++dS (cV R M)):=by delta iw;rw[f];rfl
 haveI a:sL c∉oA:=by rcases x9 d with q|q<;>rw[q]<;>decide
 delta mL ix;rw[e,jl,if_neg a];exact vc
theorem LG.sgn (a:LG) {i c:Nat} (hi:i<R.length) (b:c<2) (e:0<=gz R i c):sL c∈gG (dS (cV R M)) (cV R M)/\3<=mL c/\mL c<J.tc:=by haveI f:qz i c∈cV R M:=eF.mpr (bG (bG ⟨i,c,hi,b,e,rfl⟩));haveI d:=(a.pg.Q4 f (nm:=sL c) (by simp)).2 ⟨c,b,rfl⟩;exact⟨d,a.PA b,by rw[a.tc];exact um d⟩
theorem LG.sM (b:LG) {c d:Nat} (a:sL c∈gG (dS (cV R M)) (cV R M)) (hd:sL d∈gG (dS (cV R M)) (cV R M)) (e:mL c=mL d):c=d:=
 tY (q9 (bB _ (bB _ a)) (bB _ (bB _ hd)) e)
theorem LG.simple (a:LG):J.rA:=by
 rw[a.g];refine Gr.vH a.pg λp e=> ?_;rcases eF.mp e with⟨i,hi,b,rfl⟩|rfl|⟨i,c,hi,b,d,rfl⟩
 ·exact bG (bL ⟨_,rfl,(gb a.h a.ne).2 (bG ⟨i,hi,bG b,rfl⟩)⟩)
 ·exact bL rfl
 ·exact bG (bG (bL ⟨_,c,rfl,b,(gb a.h a.ne).2 (bG ⟨i,hi,bL ⟨c,b,d⟩,rfl⟩)⟩))
inductive LK:Nat->Ru->Prop
 |zero:LK 0 ⟨J.tc,[mZ,0],0⟩
 |mark {i:Nat} {lv:Int}:i<R.length->M.getD i Wc=Wb->LK (σ (rU i)) ⟨mZ,[mQ i],lv⟩
 |root {lv:Int}:LK (σ Az) ⟨mQ 0,[],lv⟩
 |way {i c:Nat} {lv:Int}:i<R.length->c<2->0<=gz R i c->LK (σ (qz i c)) ⟨mQ (gz R i c).toNat,[mQ i,mL c],lv⟩
theorem LG.kind (b:LG) {r:Nat} {a:Ru} (h:fh J r a):LK r a:=by
 injection 0 r a with b h;rcases b.all h with⟨rfl,rfl⟩|⟨p,e,rfl,rfl⟩
 ·exact .zero
 ·rcases eF.mp e with⟨i,hi,a,rfl⟩|rfl|⟨i,c,hi,d,a,rfl⟩
  ·exact .mark hi a
  ·exact .root
  ·exact .way hi d a
theorem LG.mark (a:LG) {i:Nat} (hi:i<R.length) (b:M.getD i Wc=Wb):∃lv,fh J (σ (rU i)) ⟨Mine.Q.mZ,[mQ i],lv⟩:=⟨_,a.rule (eF.mpr (bL ⟨i,hi,b,rfl⟩))⟩
theorem LG.root (a:LG):∃lv,fh J (σ Az) ⟨mQ 0,[],lv⟩:=⟨_,a.rule (eF.mpr (bG (bL rfl)))⟩
theorem LG.way (b:LG) {i c:Nat} (hi:i<R.length) (d:c<2) (a:0<=gz R i c):∃lv,fh J (σ (qz i c)) ⟨mQ (gz R i c).toNat,[mQ i,mL c],lv⟩:=⟨_,b.rule (eF.mpr (bG (bG ⟨i,c,hi,d,a,rfl⟩)))⟩
theorem LG.pP (a:LG):J.rules.length<=14:=by rw[a.g];show((cV R M).map (CW (cV R M))).length+1<=14;rw[aB];haveI:=(kn a.h.A8).2;exact td this
theorem LG.fst (b:LG) (c:Cl J fd) {s j:Nat} (g:(fd.getD s 0).testBit j=Wb):J.tc<=s/\j≠J.tc:=by
 injection 0 s j with b c g;refine c.up (λs j=>J.tc<=s/\j≠J.tc) (λi m j a d=>⟨a.1,d.2⟩) (λi j a=> ?_) s j g;obtain⟨m,k,rfl,d⟩:=a;obtain⟨r,l,e⟩:=dw k;haveI a:=b.wf.at_ (aF l);rw[e]at a;refine⟨a.tc,?_⟩;haveI hz:=b.mZ
 induction b.kind a with
 |zero=>rw[←aA d];exact j7 hz.1
 |mark hi f=>rw[←aA d];haveI:=(b.q hi (bG f)).1;lia
 |root=>exact nn d
 |way hi h f=>rw[←aA d];haveI:=(b.q hi (bL ⟨_,h,f⟩)).1;lia
theorem LG.Rc (b:LG) (a:Cl J fd) {i:Nat} (hi:i<R.length) (o:mK R M i):(fd.getD (Mine.Q.mZ) 0).testBit (mQ i)=Wb:=by
 injection 0 i with b a hi o;obtain⟨k,m,e,n⟩:=b.h.liv i hi o;have c:∀j,wm R i j->j=i\/((j<R.length/\mK R M j)/\(fd.getD (mQ j) 0).testBit (mQ i)=Wb):=λj e=>by
  induction e with
  |refl=>exact bL rfl
  | @step j c e h g f l=>
   right;haveI p:=b.h.xV h g f;refine⟨p,?_⟩;haveI r:=b.way h g f;haveI q:=r.choose_spec;have d:=a.fst (mQ (gz R j c).toNat) (mQ j) ⟨_,q.mem,rfl,rfl⟩;rcases l with rfl|⟨-,l⟩
   ·exact d
   ·exact a.tr _ _ _ (b.q h (bL ⟨c,g,f⟩)).2.1 d l
 obtain⟨lv,f⟩:=b.mark m n;have d:=a.fst (Mine.Q.mZ) (mQ k) ⟨_,f.mem,rfl,rfl⟩;rcases c k e with rfl|⟨-,g⟩
 ·exact d
 ·exact a.tr _ _ _ (b.q m (bG n)).2.1 d g
end
end
section
inductive KD where
 |a
 |b
 |s (i:Nat)
 |f (x:Nat)
section
noncomputable def KD.jF:KD->List Nat
 | .a=>[J.off 0]
 | .b=>[J.off 0+1]
 | .s i=>kE (J.iI (J.dO fd [J.off 0]) (mQ i))
 | .f x=>[x]
def KD.ok:KD->Prop
 | .s i=>i<R.length/\mK R M i
 | .f x=>J.dM x/\J.bU x=Wa
 |_=>True
inductive IL:KD->Nat->Prop
 |a {r:Nat} {ru:Ru}:fh J r ru->IL .a (J.off r)
 |b:IL .b (J.off 0+1)
 |sm {i:Nat}:i<R.length->M.getD i Wc=Wb->IL (.s i) (J.off (σ (rU i))+1)
 |sw {i c:Nat}:i<R.length->c<2->0<=gz R i c->IL (.s i) (J.off (σ (qz i c))+1)
 |f {x:Nat}:IL (.f x) x
theorem LG.a0 (b:LG):J.bU (J.off 0)=V9 (Mine.Q.mZ)/\J.dM (J.off 0)/\J.bU (J.off 0+1)=V9 0/\J.dM (J.off 0+1)/\J.bU (J.off 0+2)=Wa/\J.dM (J.off 0+2)/\J.gI (J.off 0+2)=0:=by haveI a:=b.zero;exact⟨a.after (d:=0) (aP _),a.item (d:=0) (aP _),a.after (d:=1) (by show 1<=2;decide),a.item (d:=1) (by show 1<=2;decide),a.after (d:=2) (aK 2),a.item (d:=2) (aK 2),a.rule (d:=2) (aK 2)⟩
theorem LG.am (b:LG) {i:Nat} (hi:i<R.length) (c:M.getD i Wc=Wb):J.bU (J.off (σ (rU i)))=V9 (mQ i)/\J.bU (J.off (σ (rU i))+1)=Wa/\J.dM (J.off (σ (rU i))+1)/\J.gI (J.off (σ (rU i))+1)=σ (rU i):=by obtain⟨lv,a⟩:=b.mark hi c;exact⟨a.after (d:=0) (aP _),a.after (d:=1) (aK 1),a.item (d:=1) (aK 1),a.rule (d:=1) (aK 1)⟩
theorem LG.ar (b:LG):J.bU (J.off (σ Az))=Wa/\J.gI (J.off (σ Az))=σ Az:=by obtain⟨lv,a⟩:=b.root;exact⟨a.after (d:=0) (aP _),a.rule (d:=0) (aP _)⟩
theorem LG.aw (e:LG) {i c:Nat} (hi:i<R.length) (f:c<2) (b:0<=gz R i c):J.bU (J.off (σ (qz i c)))=V9 (mQ i)/\J.bU (J.off (σ (qz i c))+1)=V9 (mL c)/\J.dM (J.off (σ (qz i c))+1)/\
  J.bU (J.off (σ (qz i c))+2)=Wa/\J.dM (J.off (σ (qz i c))+2)/\J.gI (J.off (σ (qz i c))+2)=σ (qz i c):=by
 haveI g:=e.way hi f b;haveI a:=g.choose_spec;exact⟨a.after (d:=0) (aP _),a.after (d:=1) (by show 1<=2;decide),a.item (d:=1) (by show 1<=2;decide),a.after (d:=2) (aK 2),a.item (d:=2) (aK 2),a.rule (d:=2) (aK 2)⟩
theorem LG.xt (a:LG) (b:Cl J fd) {y:Nat}:y∈J.dO fd [J.off 0]↔IL .a y:=by
 injection 0 y with a b;rw[ov a.wf,aD];constructor
 ·rintro(rfl|⟨r,d,c, -,rfl⟩)
  ·exact .a a.zero
  ·exact .a c
 ·rintro @⟨r,d,c⟩;injection 0 r d with c;by_cases q:r=0
  ·exact bL (by rw[q])
  refine bG ⟨r,d,c,mf.mpr ⟨_,aD.2 rfl,_,a.a0.1,?_⟩,rfl⟩;haveI hz:=a.h.zero a.ne
  induction a.kind c with
  |zero=>exact absurd rfl q
  |mark hi e=>exact bL rfl
  |root=>exact bG (a.Rc b hz.1 hz.2)
  |way hi g f=>haveI e:=a.h.xV hi g f;exact bG (a.Rc b e.1 e.2)
theorem LG.Hq (a:LG) (c:Cl J fd) {i y:Nat} (hi:i<R.length) (j:mK R M i):y∈KD.jF (.s i)↔IL (.s i) y:=by
 injection 0 i y with a c hi j;show y∈kE _↔_;rw[iq,ul];constructor
 ·intro d;obtain⟨x,k,d,rfl⟩:=d;obtain⟨h⟩:=(a.xt c).1 k
  induction a.kind h with
  |zero=>rw[a.a0.1]at d;exact absurd (aA d).symm (a.q hi j).2.2
  |mark b f=>rw[(a.am b f).1]at d;haveI e:=a.t7 b (bG f) hi j (aA d);rw[←e];exact .sm b f
  |root=>rw[a.ar.1]at d;exact nn d
  |way b g f=>rw[(a.aw b g f).1]at d;haveI e:=a.t7 b (bL ⟨_,g,f⟩) hi j (aA d);rw[←e];exact .sw b g f
 ·intro h
  cases h with
  |sm b f=>obtain⟨lv,h⟩:=a.mark b f;exact⟨_,(a.xt c).2 (.a h),(a.am b f).1,rfl⟩
  |sw b g f=>haveI d:=a.way b g f;haveI h:=d.choose_spec;exact⟨_,(a.xt c).2 (.a h),(a.aw b g f).1,rfl⟩
theorem LG.bare (b:LG) (a:Cl J fd) {ks:List Nat} {y:Nat} (d:∀x∈ks,∀s,J.bU x=V9 s->s<J.tc):y∈J.dO fd ks↔y∈ks:=by
 rw[ov b.wf];constructor
 ·rintro(h|⟨r,k,e,c,rfl⟩)
  ·exact h
  ·exfalso;obtain⟨x,g,s,f,h⟩:=mf.mp c;haveI i:=d x g s f;haveI j:=e.tc;rcases h with h|h
   ·lia
   ·haveI:=(b.fst a h).1;lia
 ·exact bL
theorem LG.cls (d:LG) (c:Cl J fd) {kd:KD} (g:kd.ok) {y:Nat}:y∈J.dO fd (kd.jF)↔IL kd y:=by
 injection 0 kd y with d c g;haveI m:=d.qV
 induction kd with
 |a=>exact d.xt c
 |b=>show y∈J.dO fd [J.off 0+1]↔_;rw[d.bare c (λx j s e=>by rw[aD.1 j,d.a0.2.2.1]at e;rw[←aA e];lia),aD];exact⟨λe=>e▸.b,λh=>by cases h;rfl⟩
 |s i=>
  rw[d.bare c (λx j s e=>by
   cases(d.Hq c g.1 g.2).1 j with
   |sm h k=>rw[(d.am h k).2.1]at e;exact nn e
   |sw h l k=>rw[(d.aw h l k).2.1]at e;rw[←aA e];exact(d.sgn h l k).2.2)]
  exact d.Hq c g.1 g.2
 |f x=>show y∈J.dO fd [x]↔_;rw[d.bare c (λz hz s e=>by rw[aD.1 hz,g.2]at e;exact nn e),aD];exact⟨λe=>e▸.f,λh=>by cases h;rfl⟩
theorem LG.TI (c:LG) {kd:KD} (e:kd.ok) {y:Nat} (h:IL kd y):J.dM y:=by
 injection 0 kd y with c e h
 induction h with
 |a g=>exact g.item (d:=0) (aP _)
 |b=>exact c.a0.2.2.2.1
 |sm hi g=>exact(c.am hi g).2.2.1
 |sw hi i g=>exact(c.aw hi i g).2.2.1
 |f=>exact e.1
inductive MV:KD->Nat->Nat->KD->Prop
 |az:MV .a (J.off 0) (mZ) .b
 |am {i:Nat}:i<R.length->M.getD i Wc=Wb->MV .a (J.off (σ (rU i))) (mQ i) (.s i)
 |aw {i c:Nat}:i<R.length->c<2->0<=gz R i c->MV .a (J.off (σ (qz i c))) (mQ i) (.s i)
 |b:MV .b (J.off 0+1) 0 (.f (J.off 0+2))
 |s {i c:Nat}:i<R.length->c<2->0<=gz R i c->MV (.s i) (J.off (σ (qz i c))+1) (mL c) (.f (J.off (σ (qz i c))+2))
theorem LG.Sj (d:LG) {kd:KD} (i:kd.ok) {y s:Nat} (h:IL kd y) (c:J.bU y=V9 s):∃kd',MV kd y s kd'/\kd'.ok:=by
 injection 0 kd y s with d i h c
 induction h with
 |a j=>
  induction d.kind j with
  |zero=>rw[d.a0.1]at c;rw[←aA c];exact⟨_,.az,trivial⟩
  |mark hi e=>rw[(d.am hi e).1]at c;rw[←aA c];exact⟨_,.am hi e,hi,bG e⟩
  |root=>rw[d.ar.1]at c;exact nn c
  |way hi g e=>rw[(d.aw hi g e).1]at c;rw[←aA c];exact⟨_,.aw hi g e,hi,bL ⟨_,g,e⟩⟩
 |b=>rw[d.a0.2.2.1]at c;rw[←aA c];exact⟨_,.b,d.a0.2.2.2.2.2.1,d.a0.2.2.2.2.1⟩
 |sm hi e=>rw[(d.am hi e).2.1]at c;exact nn c
 |sw hi g e=>rw[(d.aw hi g e).2.1]at c;rw[←aA c];exact⟨_,.s hi g e,(d.aw hi g e).2.2.2.2.1,(d.aw hi g e).2.2.2.1⟩
 |f=>rw[i.2]at c;exact nn c
theorem LG.Tz (c:LG) (f:Cl J fd) {kd kd':KD} (l:kd.ok) {y s:Nat} (h:IL kd y) (m:J.bU y=V9 s) (e:MV kd y s kd'):kE (J.iI (J.dO fd (kd.jF)) s)=kd'.jF:=by
 injection 0 kd kd' y s with c f l h m e;haveI g:(kd.jF).Nodup->(∀z,IL kd z->J.bU z=V9 s->z=y)->kE (J.iI (J.dO fd (kd.jF)) s)=[y+1]:=λd g=>
  yy (gB c.wf d) ((c.cls f l).2 h) m λz hz a=>g z ((c.cls f l).1 hz) a
 induction e with
 |az=>
  refine g (by decide) λz hz a=> ?_;obtain⟨d⟩:=hz
  induction c.kind d with
  |zero=>rfl
  |mark hi e=>rw[(c.am hi e).1]at a;exact absurd (aA a) (c.q hi (bG e)).2.2
  |root=>rw[c.ar.1]at a;exact nn a
  |way hi j i=>rw[(c.aw hi j i).1]at a;exact absurd (aA a) (c.q hi (bL ⟨_,j,i⟩)).2.2
 |am hi e=>rfl
 |aw hi j i=>rfl
 |b=>exact g (by decide) λz hz a=>by cases hz;rfl
 |s hi j i=>
  refine g (lH (pp (gB c.wf (by decide)))) λz hz a=> ?_
  cases hz with
  |sm d e=>rw[(c.am d e).2.1]at a;exact nn a
  |sw d k e=>rw[(c.aw d k e).2.1]at a;rw[c.sM (c.sgn d k e).1 (c.sgn hi j i).1 (aA a)]
theorem LG.Q1 (a:LG) (b:Cl J fd):kE (J.iI (J.dO fd [J.off 0]) (Mine.Q.mZ))=[J.off 0+1]:=a.Tz b (kd:=.a) (kd':=.b) trivial (.a a.zero) a.a0.1 .az
theorem LG.Pu (c:LG) (d:Cl J fd) {ks:List Nat}:ks∈Mm R M J fd↔∃kd:KD,kd.ok/\ks=kd.jF:=by
 injection 0 ks with c d;delta Mm;rw[e8,bD,aZ,aM,aM];constructor
 ·rintro(rfl|⟨nm,a,rfl⟩|⟨x,h,rfl⟩)
  ·exact⟨.a,trivial,rfl⟩
  ·rcases(gb c.h c.ne).1 a with rfl|⟨i,hi,e,rfl⟩
   ·exact⟨.b,trivial,c.Q1 d⟩
   ·exact⟨.s i,⟨hi,e⟩,rfl⟩
  ·haveI a:=aG.1 h;haveI e:=a.1;haveI g:=a.2;exact⟨.f x,⟨(mu c.wf).1 e,eV.1 g⟩,rfl⟩
 ·intro a;obtain⟨kd,e,rfl⟩:=a
  induction kd with
  |a=>exact bL rfl
  |b=>exact bG (bL ⟨[90],(gb c.h c.ne).2 (bL rfl),c.Q1 d⟩)
  |s i=>exact bG (bL ⟨sQ i,(gb c.h c.ne).2 (bG ⟨i,e.1,e.2,rfl⟩),rfl⟩)
  |f x=>exact bG (bG ⟨x,aG.2 ⟨(mu c.wf).2 e.1,eV.2 e.2⟩,rfl⟩)
theorem LG.Q0 (c:LG) {kd:KD}:(kd.jF).Nodup:=by
 induction kd with
 |s i=>exact lH (pp (gB c.wf (by simp)))
 |a=>simp[KD.jF]
 |b=>decide
 |f x=>simp[KD.jF]
theorem LG.uk (c:LG) (d:Cl J fd):vk J fd (Mm R M J fd):=by
 haveI l:=c.pP;refine⟨λks h=> ?_,λks h s g=> ?_,(c.Pu d).2 ⟨.a,trivial,rfl⟩,?_⟩
 ·obtain⟨kd,e,rfl⟩:=(c.Pu d).1 h;refine BV c.wf (λy j=>c.TI e ((c.cls d e).1 ((ov c.wf).2 (bL j)))) ?_
  induction kd with
  |s i=>
   rw[j1];rw[aB];haveI a:=bI (λx=>J.bU x==V9 (mQ i)) (J.dO fd [J.off 0]);haveI g:(J.dO fd [J.off 0]).length=1+(J.kA fd [J.off 0]).length:=by rw[aH,j1,j1];rfl
   haveI j:=wj (fd:=fd) (ks:=[J.off 0]) c.wf;lia
  |a=>show 1<=40;decide
  |b=>show 1<=40;decide
  |f x=>show 1<=40;decide
 ·obtain⟨kd,e,rfl⟩:=(c.Pu d).1 h;obtain⟨y,j,k⟩:=g;have a:=(c.cls d e).1 j;obtain⟨kd',i,g⟩:=c.Sj e a k;rw[c.Tz d e a k i];exact(c.Pu d).2 ⟨kd',g,rfl⟩
 ·delta Mm;rw[e8,dF,aH,aB,aB];haveI a:=bI (λx=>(J.bU x).isNone) (rc J);haveI g:=uo c.wf;haveI j:=c.pg.ll;lia
theorem LG.xR (c:LG) {kd:KD} {y z:Nat} (k:IL kd y) (hz:IL kd z) (d:J.bU y=Wa) (e:J.bU z=Wa):y=z:=by
 injection 0 kd y z with c k hz d e;haveI h:∀{r g},fh J r g->J.bU (J.off r)=Wa->r=σ Az:=λi h=>by
  induction c.kind i with
  |zero=>have h:=(c.a0.1)▸h;cases h
  |mark hi j=>have h:=((c.am hi j).1)▸h;cases h
  |root=>rfl
  |way hi g a=>have h:=((c.aw hi g a).1)▸h;cases h
 induction k with
 |a i=>cases hz with|a a=>rw[h i d,h a e]
 |b=>cases hz;rfl
 |sm hi j=>
  cases hz with
  |sm=>rfl
  |sw hi g a=>have e:=((c.aw hi g a).2.1)▸e;cases e
 |sw hi g a=>have d:=((c.aw hi g a).2.1)▸d;cases d
 |f=>cases hz;rfl
theorem LG.au (c:LG) (b:Cl J fd) (g:aV.Nodup) (i:∀ks∈aV,ks∈Mm R M J fd) (hd:∀k,k<aV.length->Done J fd aV k mv rd) (j:∀k,aV.length<=k->mv k=[]/\rd k=[]):Ly J aV rd:=by
 have f:∀k,k<aV.length->∃kd:KD,kd.ok/\rd k=kE (J.jv (J.dO fd (kd.jF))):=λk d=>by obtain⟨ks,e, -,f⟩:=hd k d;obtain⟨kd,a,rfl⟩:=(c.Pu b).1 (i _ (aO e));exact⟨kd,a,f⟩
 refine⟨aE (gi g i) (c.uk b).len,λk=> ?_,λk r d=> ?_⟩
 ·rcases cZ k aV.length with q|q
  ·obtain⟨kd,a,e⟩:=f k q;rw[e];exact pR (gB c.wf c.Q0) λy h z hz d l=>c.xR ((c.cls b a).1 h) ((c.cls b a).1 hz) d l
  ·rw[(j k q).2];exact aP _
 ·rcases cZ k aV.length with q|q
  ·obtain⟨kd,a,e⟩:=f k q;rw[e]at d;obtain⟨y,h, -, -,l⟩:=sO.mp d;rw[l];exact pO (c.TI a ((c.cls b a).1 h))
  ·have d:=((j k q).2)▸d;cases d
end
end
section
structure BL:Prop where
 g:LG
 cl:Cl J fd
 k0:aV[0]? =V9 [J.off 0]
 nd:aV.Nodup
 ks:∀ks∈aV,ks∈Mm R M J fd
 dn:∀k,k<aV.length->Done J fd aV k mv rd
 ms:Ms J fl
 Ea:∀ru∈J.rules,Gr.Mo J.tc fl ru
 up:∀U,J.qu U->∀i,Sb (fl.getD i 0) (U i)
section
theorem LG.N3 (a:LG) {p} (b:p∈cV R M):J.eR (σ p)=ix (cV R M) p.1:=by delta Gr.eR;rw[(a.rule b).at_];rfl
theorem BL.fz (B:BL) {j:Nat} (h:(fl.getD (mZ) 0).testBit j=Wb):j=0:=by
 injection 0 j with B h;have l:=B.g.qV;haveI a:J.qu λX=>if X=mZ then 1 else 2 ^ 64-1:=λn d X s b=>by
  obtain⟨r,m,e⟩:=dw d;haveI c:=B.g.wf.at_ (aF m);rw[e]at c;haveI a:∀(a:Nat),a<2 ^ 64->Sb a (2 ^ 64-1):=λa f i hi=>by
   rw[Nat.testBit_two_pow_sub_one];rcases cZ i 64 with q|q
   ·exact decide_eq_true q
   ·have hi:=(nx (a9 f (fX (by decide) q)))▸hi;cases hi
  induction B.g.kind c with
  |zero=>unfold Gr.ob at b;simp only[show(0:Nat)<J.tc from by lia,if_true]at b;cases b;dsimp only;rw[if_pos rfl];exact λ_ h=>h
  |mark hi f=>cases b;dsimp only;rw[if_pos rfl,if_neg (B.g.q hi (bG f)).2.2];exact a 1 (by decide)
  |root=>exact nn b
  |way hi g f=>have k:=(B.g.sgn hi g f).2.2;unfold Gr.ob at b;simp only[k,if_true]at b;cases b;dsimp only;rw[if_neg (B.g.q hi (bL ⟨_,g,f⟩)).2.2];exact a _ (Cy (by decide) (tg (ff k l.2)))
 haveI:=B.up _ a (mZ) j h;rw[if_pos rfl,show(1:Nat)=2 ^ 0 from rfl,ey]at this;exact(of_decide_eq_true this).symm
theorem BL.fz0 (B:BL):(fl.getD (mZ) 0).testBit 0=Wb:=by haveI a:=B.g.qV;haveI:=B.Ea _ B.g.zero.mem (mZ) (.inr 0) (by dsimp only[Gr.ob];simp only[show(0:Nat)<J.tc from by lia,if_true]);exact this 0 (show(2 ^ 0:Nat).testBit 0=Wb from by decide)
theorem BL.fq (B:BL) {i:Nat} (hi:i<R.length) (a:mK R M i):∃t,t<J.tc/\(fl.getD (mQ i) 0).testBit t=Wb:=by
 haveI g:=B.g.qV;rcases a with⟨c,d,b⟩|b
 ·haveI f:=B.g.way hi d b;haveI a:=f.choose_spec;haveI e:=(B.g.sgn hi d b).2.2;refine⟨mL c,e,?_⟩;haveI:=B.Ea _ a.mem (mQ i) (.inr (mL c)) (by dsimp only[Gr.ob];simp only[e,if_true]);refine this _ ?_;rw[ey];exact decide_eq_true rfl
 ·obtain⟨lv,a⟩:=B.g.mark hi b;haveI:=B.Ea _ a.mem (mQ i) (.inl (mZ)) rfl;exact⟨0,by lia,this 0 B.fz0⟩
theorem BL.at_ (B:BL) {k:Nat} {kd:KD} (c:kd.ok) (e:aV[k]? =V9 (kd.jF)):((mv k).map (·.1)).Nodup/\(∀s,s∈(mv k).map (·.1)↔∃y,IL kd y/\J.bU y=V9 s)/\
  (∀p∈mv k,∀y kd',IL kd y->J.bU y=V9 p.1->MV kd y p.1 kd'->aV[p.2]? =V9 (kd'.jF))/\(∀r,r∈rd k↔∃y,IL kd y/\J.bU y=Wa/\J.gI y≠0/\r=J.gI y)/\(rd k).length<=1:=by
 injection 0 k kd with B c e;obtain⟨ks,f,⟨g,j⟩,i⟩:=B.dn k (cB e);rw[e]at f;obtain rfl:=aA f;haveI a:=λy=>B.g.cls B.cl (y:=y) c;refine⟨g.1,λs=> ?_,λp l y kd' b d h=> ?_,λr=> ?_,?_⟩
 ·rw[g.2 s];constructor
  ·rintro⟨y,b,d⟩;exact⟨y,(a y).1 b,d⟩
  ·rintro⟨y,b,d⟩;exact⟨y,(a y).2 b,d⟩
 ·rw[j p l,B.g.Tz B.cl c b d h]
 ·rw[i,sO];constructor
  ·rintro⟨y,b,h⟩;exact⟨y,(a y).1 b,h⟩
  ·rintro⟨y,b,h⟩;exact⟨y,(a y).2 b,h⟩
 ·rw[i];exact pR (gB B.g.wf B.g.Q0) λy b z hz d h=>B.g.xR ((a y).1 b) ((a z).1 hz) d h
theorem BL.jF (B:BL) {k:Nat} (b:k<aV.length):∃kd:KD,kd.ok/\aV[k]? =V9 (kd.jF):=by obtain⟨ks,h⟩:=fp b;obtain⟨kd,a,rfl⟩:=(B.g.Pu B.cl).1 (B.ks _ (aO h));exact⟨kd,a,h⟩
theorem BL.look (_B:BL) {k:Nat} (a:k<aV.length):ui (ja rd aV.length) (λr=>fl.getD (J.eR r) 0) k (rd k)=(rd k).map λr=>(r,fl.getD (J.eR r) 0):=by refine dU λr b=> ?_;rw[if_pos (nM.mpr ⟨a,b⟩)]
theorem BL.Kl (B:BL) {k y s:Nat} {kd kd':KD} (a:kd.ok) (g:aV[k]? =V9 (kd.jF)) (d:IL kd y) (b:J.bU y=V9 s) (h:MV kd y s kd'):∃t,(s,t)∈mv k/\aV[t]? =V9 (kd'.jF):=by obtain⟨i,e,f, -, -⟩:=B.at_ a g;obtain⟨p,c,rfl⟩:=aM.1 ((e s).2 ⟨y,d,b⟩);exact⟨p.2,c,f p c y kd' d b h⟩
theorem MV.tc (a:LG) {kd kd':KD} {y s:Nat} (h:MV kd y s kd'):s≠1/\s≠2/\(s<J.tc->(kd= .b/\s=0)\/∃i c,i<R.length/\c<2/\0<=gz R i c/\kd= .s i/\s=mL c):=by
 injection 0 kd kd' y s with a h;haveI d:=a.qV
 induction h with
 |az=>exact⟨(tN d.1 a.mZ.1).1,(tN d.1 a.mZ.1).2,λh=>absurd h (zN a.mZ.1)⟩
 |am hi c=>have:=(a.q hi (bG c)).1;exact⟨(tN d.1 this).1,(tN d.1 this).2,λh=>absurd h (zN this)⟩
 |aw hi e f=>have:=(a.q hi (bL ⟨_,e,f⟩)).1;exact⟨(tN d.1 this).1,(tN d.1 this).2,λh=>absurd h (zN this)⟩
 |b=>exact⟨by decide,by decide,λ_=>bL ⟨rfl,rfl⟩⟩
 |s hi e f=>haveI:=a.PA e;exact⟨by lia,by exact j7 (ff ts ‹_›),λ_=>bG ⟨_,_,hi,e,f,rfl,rfl⟩⟩
theorem BL.keys (B:BL) {k s:Nat} {kd:KD} (a:kd.ok) (e:aV[k]? =V9 (kd.jF)) (g:s∈(mv k).map (·.1)):s<J.names.length/\s≠1/\s≠2/\(s<J.tc->(kd= .b/\s=0)\/∃i c,i<R.length/\c<2/\0<=gz R i c/\kd= .s i/\s=mL c):=by haveI b:=B.at_ a e;haveI d:=b.2.1;obtain⟨y,h,c⟩:=(d s).1 g;haveI b:=B.g.Sj a h c;haveI f:=b.choose_spec.1;exact⟨lX B.g.wf c,MV.tc B.g f⟩
theorem BL.Sd (B:BL) {k r:Nat} {kd:KD} (e:kd.ok) (m:aV[k]? =V9 (kd.jF)) (n:r∈rd k):(kd= .a/\r=σ Az)\/(∃i,i<R.length/\M.getD i Wc=Wb/\kd= .s i/\r=σ (rU i))\/∃x,kd= .f x/\r=J.gI x/\r≠0:=by
 obtain⟨-, -, -,l, -⟩:=B.at_ e m;obtain⟨y,o,a,j,h⟩:=(l r).1 n;rw[h]
 induction o with
 |a g=>
  induction B.g.kind g with
  |zero=>have a:=(B.g.a0.1)▸a;cases a
  |mark hi c=>have a:=((B.g.am hi c).1)▸a;cases a
  |root=>exact bL ⟨rfl,B.g.ar.2⟩
  |way hi c d=>have a:=((B.g.aw hi c d).1)▸a;cases a
 |b=>have a:=(B.g.a0.2.2.1)▸a;cases a
 |sm hi c=>exact bG (bL ⟨_,hi,c,rfl,(B.g.am hi c).2.2.2⟩)
 |sw hi c d=>have a:=((B.g.aw hi c d).2.1)▸a;cases a
 |f=>exact bG (bG ⟨_,rfl,rfl,j⟩)
theorem BL.ya (B:BL) {k r:Nat} {kd:KD} (a:kd.ok) (e:aV[k]? =V9 (kd.jF)) (f:r∈rd k):0<r/\r<J.rules.length:=by haveI h:=B.at_ a e;haveI d:=h.2.2.2.1;obtain⟨y,g, -,c,b⟩:=(d r).1 f;rw[b];exact⟨qH c,pO (B.g.TI a g)⟩
theorem BL.NX (B:BL) {k:Nat} {kd:KD} (a:kd.ok) (f:aV[k]? =V9 (kd.jF)):DJ J (mv k)/\Eb J.tc (nI J.tc (mv k)) (ui (ja rd aV.length) (λr=>fl.getD (J.eR r) 0) k (rd k)):=by
 injection 0 k kd with B a f;obtain⟨n,u,v,w,s⟩:=B.at_ a f;haveI m:=B.g.qV;refine⟨⟨n,λp d=>(B.keys a f (bN d)).1⟩,⟨by exact tb m.2,λp d=> ?_,?_,?_,λp d=> ?_,λp d b o q=> ?_⟩⟩
 ·haveI:p.1∈(nI J.tc (mv k)).map (·.1):=bN d;rw[ij]at this;exact of_decide_eq_true (aG.1 this).2
 ·rw[ij];exact ef n
 ·rw[aB];exact s
 ·rw[B.look (cB f)]at d;obtain⟨r,l,rfl⟩:=aM.1 d;exact B.ms.getD _
 ·rw[B.look (cB f)]at d;obtain⟨r,l,rfl⟩:=aM.1 d;rw[ij]at q;obtain⟨h,g⟩:=aG.1 q;have g:=of_decide_eq_true g;rcases(B.keys a f h).2.2.2 g with⟨rfl, -⟩|⟨i,c,hi,p,t,rfl,rfl⟩
  ·rcases B.Sd a f l with⟨e, -⟩|⟨i, -, -,e, -⟩|⟨x,e, -⟩<;>cases e
  ·rcases B.Sd a f l with⟨e, -⟩|⟨j,x,b,e,rfl⟩|⟨x,e, -⟩
   ·cases e
   ·cases e;rw[B.g.N3 (eF.mpr (bL ⟨i,hi,b,rfl⟩))]at o;haveI:=B.fz o;haveI:=B.g.PA p;lia
   ·cases e
theorem BL.TP (B:BL) {k:Nat} (f:k<aV.length):pG J (ja rd aV.length) (λr=>fl.getD (J.eR r) 0) mv rd (xL) k:=by
 injection 0 k with B f;obtain⟨kd,a,g⟩:=B.jF f;haveI m:=B.NX a g;haveI n:=m.1;haveI o:=m.2;haveI j:=B.g.qV;have i:=B.g.pP;haveI b:1∉(mv k).map (·.1):=λh=>(B.keys a g h).2.1 rfl;refine⟨n,o,⟨?_,?_,?_,?_,?_⟩,λr d=>by haveI:=(B.ya a g d).2;exact tc (ff this i)⟩
 ·rw[i8];exact tb j.2
 ·rw[i8];lia
 ·show(i7 J k).getD 1 0<=0;rw[jT (by lia),oo b];show wV _ _<=0;rcases iG (BO J k) 1 with e|⟨p,l, -, -,e⟩<;>rw[e]<;>lia
 ·delta xL
  induction d:rd k with
  |nil=>exact⟨Cz,by decide⟩
  |cons r l=>haveI:=B.ya a g (r:=r) (by rw[d];exact aS ..);show 0<r/\r<=1000;lia
 ·intro z hz;obtain⟨t,u,rfl⟩:=aM.1 hz;injection 0 t with u hz
  induction s:pF (nI J.tc (mv k)) t with
  |some v=>left;show 0<=v;obtain⟨p,d,rfl⟩:=cC.1 s;haveI:=et d;obtain⟨q, -,c⟩:=aM.1 this;rw[←c];show 0<=(if q.1=0 then(1048576:Int) else q.2);split<;>lia
  |none=>
   rcases iG (ui (ja rd aV.length) (λr=>fl.getD (J.eR r) 0) k (rd k)) t with e|⟨p,l,c, -,e⟩
   ·left;rw[e];exact uU _
   ·right;rw[e];delta xL
    cases d:rd k with
    |nil=>have c:=(d)▸c;cases c
    |cons r l'=>have c:=(d)▸c;cases c;rfl
end
end
section
section
noncomputable def gF:jh:=
 ⟨J,aV.length,λk=>qh (AQ Wb (i7 J) (xL) k) (i7 J k),λk=>qc J.tc (mv k),AQ Wb (i7 J) (xL)⟩
theorem Ga {d:Nat} {xs:List Int} {t:Nat}:(qh d xs).getD t 0=if d≠0/\xs.getD t 0= -(d:Int) then 0 else xs.getD t 0:=by
 injection 0 d xs t;delta qh;by_cases h:d=0
 ·rw[if_pos h,if_neg (λe=>e.1 h)]
 ·rw[if_neg h,bJ,bC,bJ]
  induction xs[t]? with
  |none=>simp
  |some x=>simp[h]
theorem OV {k:Nat} (h:rd k=[]):gF.df k=0\/gF.df k=1/\ -(1:Int)∈i7 J k:=by
 show oQ (i7 J k) (xL k)=0\/oQ (i7 J k) (xL k)=1/\_;delta xL oQ;rw[h];by_cases q: -((([]:List Nat).headD 1:Nat):Int)∈i7 J k
 ·rw[if_pos q];exact bG ⟨rfl,q⟩
 ·rw[if_neg q];exact bL rfl
theorem EW {k:Nat} {x:Int}:x∈i7 J k↔∃t,t<J.tc/\(i7 J k).getD t 0=x:=by
 haveI b:(i7 J k).length=J.tc:=i8;constructor
 ·intro h;obtain⟨t,a,e⟩:=dw h;exact⟨t,by exact ff a (te b),hV (by rw[aF a,e])⟩
 ·intro a;obtain⟨t,a,rfl⟩:=a;exact aO (dX (d:=0) (ff a (tf b)))
theorem shv {b:List (Nat×Nat)} {tc t:Nat} {v:Int} (h:pF (nI tc b) t=V9 v):∃p∈b,p.1=t/\p.1<tc/\v=if p.1=0 then 1048576 else(p.2:Int):=by obtain⟨p,a,d⟩:=cC.1 h;rw[←d];have e:=et a;haveI f:=HO a;obtain⟨q,j,rfl⟩:=aM.1 e;haveI c:=aG.1 j;haveI g:=c.1;haveI i:=c.2;exact⟨q,g,by simpa using f,of_decide_eq_true i,rfl⟩
theorem Nf {b:List (Nat×Nat)} {tc t:Nat} {v:Int} (h:pF (nI tc b) t=V9 v):0<=v:=by obtain⟨p, -, -, -,a⟩:=shv h;rw[a];split<;>lia
theorem BL.neg (B:BL) {k t:Nat} (b:k<aV.length) (h:(i7 J k).getD t 0<0):∃r,rd k=[r]/\(i7 J k).getD t 0= -(r:Int)/\t<J.tc/\(fl.getD (J.eR r) 0).testBit t=Wb:=by
 injection 0 k t with B b h;obtain⟨kd,d,j⟩:=B.jF b;by_cases q:t<J.tc
 ·rw[jT q]at h⊢
  induction c:pF (nI J.tc (mv k)) t with
  |some v=>rw[c]at h;haveI:=Nf c;exact absurd h (by show ¬v<0;lia)
  |none=>
   rw[c]at h;rcases iG (BO J k) t with e|⟨p,l,a,g,e⟩
   ·haveI h':wV (BO J k) t<0:=h;rw[e]at h';lia
   ·unfold BO at a;have a:=(B.look b)▸a;haveI i:=(B.at_ d j).2.2.2.2
    match f:rd k,i with
    |[],_=>have a:=(f)▸a;cases a
    |[r],_=>rw[f]at a;cases a;exact⟨r,rfl,e,q,g⟩
 ·rw[sN q]at h;lia
theorem BL.df (B:BL) {k:Nat} (b:k<aV.length):(rd k=[]->gF.df k=0)/\∀r,r∈rd k->(gF.df k=0\/gF.df k=r)/\((∃t,t<J.tc/\(fl.getD (J.eR r) 0).testBit t=Wb)->gF.df k=r):=by
 obtain⟨kd,d,i⟩:=B.jF b;refine⟨λh=> ?_,λr f=> ?_⟩
 ·rcases OV h with e|⟨-,e⟩
  ·exact e
  ·obtain⟨t,g,e⟩:=EW.mp e;obtain⟨r,c, -⟩:=B.neg b (t:=t) (by rw[e];decide);have c:=(h)▸c;cases c
 ·haveI c:=(B.at_ d i).2.2.2.2;have e:rd k=[r]:=by
   generalize rd k=l at f c
   match l,f,c with
   |[a],f,_=>rw[aD.1 f]
  haveI j:xL k=r:=by delta xL;rw[e];rfl
  haveI hd:gF.df k=if-(r:Int)∈i7 J k then r else 0:=by show oQ (i7 J k) (xL k)=_;rw[j];rfl
  rw[hd];refine⟨by split<;>simp,λ⟨t,g,h⟩=> ?_⟩;rw[if_pos (EW.mpr ⟨t,g,?_⟩)];haveI l:=(B.NX d i).2;haveI a:ui (ja rd aV.length) (λr=>fl.getD (J.eR r) 0) k (rd k)=[(r,fl.getD (J.eR r) 0)]:=by rw[B.look b,e];rfl
  haveI m:=l.Ov (r,fl.getD (J.eR r) 0) (by rw[a];exact aD.2 rfl) t h;rw[jT g,lN m];show wV (ui (ja rd aV.length) (λr=>fl.getD (J.eR r) 0) k (rd k)) t=_;rw[a];show(if(fl.getD (J.eR r) 0).testBit t then-(r:Int) else 0)=_;rw[h];rfl
theorem BL.ex (B:BL) {k t:Nat} (a:k<aV.length):gF.ex k t=if t<J.tc then(pF (nI J.tc (mv k)) t).getD 0 else 0:=by
 injection 0 k t with B a;show(qh (gF.df k) (i7 J k)).getD t 0=_;rw[Ga];by_cases q:t<J.tc
 ·rw[if_pos q]
  induction c:pF (nI J.tc (mv k)) t with
  |some v=>haveI b:=Nf c;rw[jT q,c];show(if _/\v=_ then 0 else v)=v;rw[if_neg (λ⟨d,e⟩=>by lia)]
  |none=>
   show _=(0:Int);by_cases b:(i7 J k).getD t 0<0
   ·obtain⟨r,d,e,f,g⟩:=B.neg a b;haveI hd:=((B.df a).2 r (by rw[d];exact aD.2 rfl)).2 ⟨t,f,g⟩;rw[if_pos ⟨by rw[hd];lia,by rw[hd];exact e⟩]
   ·haveI hz:(i7 J k).getD t 0=0:=by
     rw[jT q,c]at b⊢;show wV _ _=0;haveI d:¬wV (BO J k) t<0:=b;rcases iG (BO J k) t with e|⟨p,l, -, -,e⟩
     ·exact e
     ·lia
    rw[hz];split<;>rfl
 ·rw[if_neg q,sN q];split<;>rfl
theorem BL.TY (B:BL) {k t s:Nat} (a:k<aV.length) (e:(s,t)∈mv k) (c:s<J.tc):gF.ex k s=if s=0 then 1048576 else(t:Int):=by obtain⟨kd,b,d⟩:=B.jF a;rw[B.ex a,if_pos c,Ay (p:=(s,t)) (B.at_ b d).1 e c];rfl
theorem BL.TX (B:BL) {k s:Nat} (a:k<aV.length) (b:s∉(mv k).map (·.1)):gF.ex k s=0:=by
 rw[B.ex a];split
 ·rw[oo b];rfl
 ·rfl
theorem BL.eb (B:BL) {k:Nat} (a:k<aV.length) (d:∀s∈(mv k).map (·.1),¬s<J.tc) (c:gF.df k≠0):gF.eb k=gF.df k:=by delta jh.eb;rw[if_pos];delta jh.cons;rw[eh];refine⟨by simp[c],bW.2 λt e=> ?_⟩;haveI b:t<J.tc:=aW.1 e;rw[beq_iff_eq];exact B.TX a λh=>d t h b
theorem BL.L3 (_B:BL) {k:Nat} (h:gF.df k=0\/∃s,s<J.tc/\gF.ex k s≠0):gF.eb k=0:=by
 delta jh.eb;rcases h with h|⟨s,a,b⟩
 ·split
  ·exact h
  ·rfl
 ·rw[if_neg];delta jh.cons;rw[eh,bW];rintro⟨-,h⟩;haveI:=h s (aW.2 a);haveI this:=beq_iff_eq.1 this;exact b this
theorem BL.go (B:BL) {k s t:Nat} (b:k<aV.length) (g:(s,t)∈mv k) (h:¬s<J.tc):gF.go k s=t:=by
 injection 0 k s t with B b g h;obtain⟨kd,e,j⟩:=B.jF b;haveI d:=(B.at_ e j).1;have c:(s,t)∈qc J.tc (mv k):=aG.2 ⟨g,by simp;exact tv h⟩;have a:gD (vD (qc J.tc (mv k))) (.int s)=V9 (.int t):=o0 (p:=(s,t)) (by rw[ut];exact ef d) c;rw[oZ,kN]at a;delta jh.go gF;unfold pF at a;rw[vu]at a;haveI i:((λp:Nat×Int=>p.1==s) ∘ λp:Nat×Nat=>(p.1,(p.2:Int)))=λp=>p.1==s:=rfl;have a:=(i)▸a
 induction f:(qc J.tc (mv k)).find? (λp=>p.1==s)with
 |none=>rw[f]at a;exact nn a
 |some p=>rw[f]at a;have:V9 (V.int (p.2:Int))=V9 (.int t):=a;cases this;rfl
theorem BL.nz (B:BL) {t x:Nat} (b:aV[t]? =V9 [x]) (c:0<x):0<t/\t<60:=by
 haveI a:=aE (gi B.nd B.ks) (B.g.uk B.cl).len;refine⟨?_,by haveI:=cB b;exact ff this a⟩;rcases Ei t with e|e
 ·subst e;rw[B.k0]at b;haveI:J.off 0=0:=rfl;rw[this]at b;haveI e:[0]=[x]:=aA b;haveI:=(eL e).1;exact ff c (tf this)
 ·exact e
theorem BL.wk (B:BL) {k t:Nat} (a:k<aV.length):gF.act k t=0\/(∃g:Nat,(gF.act k t=g/\g<aV.length)\/gF.act k t=1048576)\/∃r:Nat,gF.act k t= -(r:Int)/\r<J.rules.length:=by
 injection 0 k t with B a;obtain⟨kd,d,f⟩:=B.jF a;delta jh.act;by_cases c:gF.ex k t=0
 ·rw[if_pos c];right;right;refine⟨_,rfl,?_⟩;have b:0<J.rules.length:=by rw[B.g.g];exact ig _
  induction h:rd k with
  |nil=>rw[(B.df a).1 h];exact b
  |cons r l=>
   haveI g:r∈rd k:=by rw[h];exact aS ..
   rcases((B.df a).2 r g).1 with e|e
   ·rw[e];exact b
   ·rw[e];exact(B.ya d f g).2
 ·rw[if_neg c];right;left;rw[B.ex a]at c⊢;split at c
  ·next q=>
   rw[if_pos q]
   induction g:pF (nI J.tc (mv k)) t with
   |none=>rw[g]at c;exact absurd rfl c
   |some v=>
    obtain⟨p,h,rfl,n,rfl⟩:=shv g;refine⟨p.2,?_⟩;show((if p.1=0 then(1048576:Int) else p.2)=_/\_)\/(if p.1=0 then(1048576:Int) else p.2)=_;by_cases j:p.1=0
    ·right;rw[if_pos j]
    ·left;rw[if_neg j];refine⟨rfl,?_⟩;obtain⟨-,l,m, -, -⟩:=B.at_ d f;obtain⟨y,i,e⟩:=(l p.1).1 (bN h);obtain⟨kd',b, -⟩:=B.g.Sj d i e;exact cB (m p h y kd' i e b)
  ·exact absurd rfl c
theorem BL.Ts (B:BL):gF.G5 (iA J):=by
 haveI i:=aE (gi B.nd B.ks) (B.g.uk B.cl).len;haveI j:=B.g.qV;have c:0<J.rules.length:=by rw[B.g.g];exact ig _
 refine⟨⟨B.g.wf,by show J.names.Nodup;rw[B.g.g];exact B.g.pg.nd,j.1,i,λs a=> ?_,λs a p d=> ?_,λs t a=> ?_⟩,λq x d a=> ?_,λq d=> ?_,λq k d a l=> ?_,λq k d a=> ?_,λk=>EG k⟩
 ·show(qh _ (i7 J s)).length=J.tc;haveI:(i7 J s).length=J.tc:=i8;delta qh;split
  ·exact this
  ·rw[aB];exact this
 ·obtain⟨kd,b,f⟩:=B.jF a;exact(B.NX b f).1.lt p (aG.1 d).1
 ·rw[B.ex a];split
  ·induction b:pF (nI J.tc (mv s)) t with
   |none=>decide
   |some v=>haveI:=Nf b;show v≠_;lia
  ·decide
 ·show(gF.go q x).toNat<aV.length;unfold jh.go gF at a⊢
  induction k:(qc J.tc (mv q)).find? (λp=>p.1==x)with
  |none=>rw[k]at a;exact absurd a (by decide)
  |some p=>obtain⟨kd,b,f⟩:=B.jF d;obtain⟨l,m,n, -, -⟩:=B.at_ b f;have g:=(aG.1 (et k)).1;obtain⟨z,hz,h⟩:=(m p.1).1 (bN g);obtain⟨kd',e, -⟩:=B.g.Sj b hz h;haveI:=cB (n p g z kd' hz h e);rw[d8];exact this
 ·show gF.eb q<J.rules.length;obtain⟨kd,b,f⟩:=B.jF d;delta jh.eb;split
  ·induction a:rd q with
   |nil=>rw[(B.df d).1 a];exact c
   |cons r l=>
    haveI g:r∈rd q:=by rw[a];exact aS ..
    rcases((B.df d).2 r g).1 with e|e
    ·rw[e];exact c
    ·rw[e];exact(B.ya b f g).2
  ·exact c
 ·rcases B.wk (k:=q) (t:=iA J k) d with e|⟨g,⟨e,h⟩|e⟩|⟨r,e,h⟩
  ·rw[e]at a;exact absurd a (by decide)
  ·rw[e,d8];exact h
  ·exact absurd e l
  ·rw[e]at a;lia
 ·rcases B.wk (k:=q) (t:=iA J k) d with e|⟨g,⟨e,h⟩|e⟩|⟨r,e,h⟩
  ·rw[e]at a;exact absurd a (by decide)
  ·rw[e]at a;lia
  ·rw[e]at a;exact absurd a (by decide)
  ·rw[e,l9,d8];exact h
end
end
section
section
theorem LG.take (a:LG):J.names.take J.tc=gG (dS (cV R M)) (cV R M):=by rw[a.tc,a.g];show(iw (cV R M)).take (rN (cV R M))=_;delta iw rN;rw[bF,vp]
theorem LG.Pj (a:LG) {c:Nat} (b:c<2) (h:sL c∈gG (dS (cV R M)) (cV R M)):iA J (sL c)=mL c:=by
 haveI d:=a.PA b;delta iA;rw[a.take,if_pos h];haveI e:J.names.idxOf (sL c)=mL c:=by rw[a.g];rfl
 rw[e];rw[if_neg (by lia)]
theorem LG.Ta (a:LG) {c:Nat} (h:sL c∉gG (dS (cV R M)) (cV R M)):iA J (sL c)=2:=by delta iA;rw[a.take,if_neg h];rfl
theorem LG.Ij (a:LG):iA J ik=0:=by
 obtain⟨⟨t,b, -⟩, -⟩:=a.pg.Hl.1;haveI c:ik∈gG (dS (cV R M)) (cV R M):=by rw[b];exact bB _ (by decide)
 delta iA;rw[a.take,if_pos c];haveI e:J.names.idxOf ik=0:=by rw[a.g];show(iw (cV R M)).idxOf ik=0;delta iw;rw[b];rfl
 rw[e];rfl
theorem sR {i:Nat}:t9 R i=Wb↔∃c,c<2/\0<=gz R i c:=by
 injection 0 i;delta t9;rw[decide_eq_true_iff];constructor
 ·rintro(h|h)
  ·exact⟨0,by decide,h⟩
  ·exact⟨1,by decide,h⟩
 ·intro a;obtain⟨c,a,h⟩:=a;rcases(tL ‹_› :c=0\/c=1)with rfl|rfl
  ·exact bL h
  ·exact bG h
noncomputable def gS (i:Nat):Nat:=(gF.go 0 (mQ i)).toNat
noncomputable def zS:Nat:=(gF.go 0 (mZ)).toNat
theorem BL.QY (B:BL):0<aV.length:=cB B.k0
theorem BL.L9 (B:BL) {i:Nat} (hi:i<R.length) (b:mK R M i):gF.go 0 (mQ i)=(gS i:Int)/\aV[gS i]? =V9 (KD.jF (.s i)):=by
 injection 0 i with B hi b;haveI g:=B.g.q hi b;haveI:∃y,IL .a y/\J.bU y=V9 (mQ i)/\MV .a y (mQ i) (.s i):=by
  rcases b with⟨c,b,a⟩|a
  ·haveI e:=B.g.way hi b a;haveI d:=e.choose_spec;exact⟨_,.a d,(B.g.aw hi b a).1,.aw hi b a⟩
  ·haveI e:=B.g.mark hi a;haveI d:=e.choose_spec;exact⟨_,.a d,(B.g.am hi a).1,.am hi a⟩
 obtain⟨y,j,d,a⟩:=this;obtain⟨t,h,f⟩:=B.Kl (kd:=.a) trivial B.k0 j d a;haveI c:=B.go B.QY h (e9 (tw g.1));haveI e:gS i=t:=by delta gS;rw[c];rfl
 rw[e];exact⟨c,f⟩
theorem BL.P6 (B:BL):gF.go 0 (mZ)=(zS:Int)/\aV[zS]? =V9 (KD.jF .b):=by
 haveI hz:=B.g.mZ;obtain⟨t,c,b⟩:=B.Kl (kd:=.a) trivial B.k0 (.a B.g.zero) B.g.a0.1 .az;haveI a:=B.go B.QY c (e9 (tw hz.1));haveI e:zS=t:=by delta zS;rw[a];rfl
 rw[e];exact⟨a,b⟩
theorem BL.l0 (B:BL):gF.eb 0=σ Az:=by haveI hz:=B.g.h.zero B.g.ne;obtain⟨lv,b⟩:=B.g.root;haveI a:σ Az∈rd 0:=((B.at_ (kd:=.a) trivial B.k0).2.2.2.1 _).2 ⟨_,.a b,B.g.ar.1,by rw[B.g.ar.2];delta σ;lia,B.g.ar.2.symm⟩;haveI hd:gF.df 0=σ Az:=((B.df B.QY).2 _ a).2 (by rw[B.g.N3 (eF.mpr (bG (bL rfl)))];exact B.fq hz.1 hz.2);rw[B.eb B.QY (λs d f=> ?_) (by rw[hd];delta σ;lia),hd];rcases(B.keys (kd:=.a) trivial B.k0 d).2.2.2 f with⟨e, -⟩|⟨i,c, -, -, -,e, -⟩<;>cases e
theorem BL.dz (B:BL) {z:Nat} (a:aV[z]? =V9 (KD.jF .b)):gF.df z=0:=by
 refine(B.df (cB a)).1 ?_
 induction b:rd z with
 |nil=>rfl
 |cons r l=>exfalso;rcases B.Sd (kd:=.b) trivial a (r:=r) (by rw[b];exact aS ..)with⟨e, -⟩|⟨i, -, -,e, -⟩|⟨x,e, -⟩<;>cases e
theorem BL.lz (B:BL) {z:Nat} (a:aV[z]? =V9 (KD.jF .b)):gF.eb z=0:=B.L3 (bL (B.dz a))
theorem BL.az (B:BL) {z:Nat} (a:aV[z]? =V9 (KD.jF .b)):gF.act z 0=1048576:=by haveI c:=B.g.qV;obtain⟨t,b, -⟩:=B.Kl (kd:=.b) trivial a .b B.g.a0.2.2.1 .b;delta jh.act;rw[B.TY (cB a) b (by lia)];rfl
theorem BL.azn (B:BL) {z t:Nat} (a:aV[z]? =V9 (KD.jF .b)) (b:t≠0) (f:t<J.tc):gF.act z t=0:=by
 haveI c:t∉(mv z).map (·.1):=λd=>by
  rcases(B.keys (kd:=.b) trivial a d).2.2.2 f with⟨-,e⟩|⟨i,c, -, -, -,e, -⟩
  ·exact b e
  ·cases e
 delta jh.act;rw[B.TX (cB a) c,B.dz a];rfl
theorem BL.aw (B:BL) {g i c:Nat} (hi:i<R.length) (f:aV[g]? =V9 (KD.jF (.s i))) (b:c<2) (a:0<=gz R i c):
  ∃u:Nat,gF.act g (mL c)=u/\aV[u]? =V9 (KD.jF (.f (J.off (σ (qz i c))+2)))/\0<u/\u<60:=by
 haveI h:=B.g.sgn hi b a;obtain⟨u,j,d⟩:=B.Kl (kd:=.s i) ⟨hi,bL ⟨_,b,a⟩⟩ f (.sw hi b a) (B.g.aw hi b a).2.1 (.s hi b a);haveI hz:=B.nz d (vc);haveI e:=B.TY (cB f) j h.2.2;rw[if_neg (by lia)]at e;refine⟨u,?_,d,hz⟩;delta jh.act;rw[e,if_neg (by lia)]
theorem BL.lw (B:BL) {g i:Nat} (hi:i<R.length) (f:aV[g]? =V9 (KD.jF (.s i))) (j:t9 R i=Wb):gF.eb g=0:=by obtain⟨c,b,a⟩:=sR.mp j;haveI h:=B.g.sgn hi b a;obtain⟨u,k,d⟩:=B.Kl (kd:=.s i) ⟨hi,bL ⟨_,b,a⟩⟩ f (.sw hi b a) (B.g.aw hi b a).2.1 (.s hi b a);haveI hz:=B.nz d (vc);haveI e:=B.TY (cB f) k h.2.2;rw[if_neg (by lia)]at e;exact B.L3 (bG ⟨_,h.2.2,by rw[e];lia⟩)
theorem BL.ds (B:BL) {g i:Nat} (hi:i<R.length) (d:mK R M i) (b:aV[g]? =V9 (KD.jF (.s i))):gF.df g=if M.getD i Wc=Wb then σ (rU i) else 0:=by
 injection 0 g i with B hi d b;by_cases a:M.getD i Wc=Wb
 ·rw[if_pos a];haveI c:=B.g.am hi a;haveI f:σ (rU i)∈rd g:=((B.at_ (kd:=.s i) ⟨hi,d⟩ b).2.2.2.1 _).2 ⟨_,.sm hi a,c.2.1,by rw[c.2.2.2];delta σ;lia,c.2.2.2.symm⟩;haveI e:=B.g.qV;exact((B.df (cB b)).2 _ f).2 ⟨0,by lia,by rw[B.g.N3 (eF.mpr (bL ⟨i,hi,a,rfl⟩))];exact B.fz0⟩
 ·rw[if_neg a];refine(B.df (cB b)).1 ?_
  induction f:rd g with
  |nil=>rfl
  |cons r l=>
   exfalso;rcases B.Sd (kd:=.s i) ⟨hi,d⟩ b (r:=r) (by rw[f];exact aS ..)with⟨e, -⟩|⟨j, -,c,e, -⟩|⟨x,e, -⟩
   ·cases e
   ·cases e;exact a c
   ·cases e
theorem BL.ln (B:BL) {g i:Nat} (hi:i<R.length) (a:aV[g]? =V9 (KD.jF (.s i))) (d:t9 R i=Wc) (b:M.getD i Wc=Wb):gF.eb g=σ (rU i):=by
 injection 0 g i with B hi a d b;haveI hd:=B.ds hi (bG b) a;rw[if_pos b]at hd;rw[B.eb (cB a) (λs k l=> ?_) (by rw[hd];delta σ;lia),hd];rcases(B.keys (kd:=.s i) ⟨hi,bG b⟩ a k).2.2.2 l with⟨e, -⟩|⟨j,c, -,h,f,e, -⟩
 ·cases e
 ·cases e;rw[sR.mpr ⟨c,h,f⟩]at d;cases d
theorem BL.lu (B:BL) {u i c:Nat} (hi:i<R.length) (d:c<2) (a:0<=gz R i c) (f:aV[u]? =V9 (KD.jF (.f (J.off (σ (qz i c))+2)))):gF.eb u=σ (qz i c):=by
 injection 0 u i c with B hi d a f;haveI b:=B.g.aw hi d a;haveI g:KD.ok (.f (J.off (σ (qz i c))+2)):=⟨b.2.2.2.2.1,b.2.2.2.1⟩;haveI h:=B.g.h.xV hi d a;haveI k:σ (qz i c)∈rd u:=((B.at_ g f).2.2.2.1 _).2 ⟨_,.f,b.2.2.2.1,by rw[b.2.2.2.2.2];delta σ;lia,b.2.2.2.2.2.symm⟩;haveI hd:gF.df u=σ (qz i c):=((B.df (cB f)).2 _ k).2 (by rw[B.g.N3 (eF.mpr (bG (bG ⟨i,c,hi,d,a,rfl⟩)))];exact B.fq h.1 h.2)
 rw[B.eb (cB f) (λs l h=> ?_) (by rw[hd];delta σ;lia),hd];rcases(B.keys g f l).2.2.2 h with⟨e, -⟩|⟨j,c, -,d,a,e, -⟩<;>cases e
theorem BL.an (B:BL) {g i t:Nat} (hi:i<R.length) (d:mK R M i) (a:aV[g]? =V9 (KD.jF (.s i))) (m:t<J.tc) (k:∀c,c<2->0<=gz R i c->t≠mL c):gF.act g t=if M.getD i Wc=Wb then-(σ (rU i):Int) else 0:=by
 haveI b:t∉(mv g).map (·.1):=λl=>by
  rcases(B.keys (kd:=.s i) ⟨hi,d⟩ a l).2.2.2 m with⟨e, -⟩|⟨j,c, -,h,f,e,b⟩
  ·cases e
  ·cases e;exact k c h f b
 delta jh.act;rw[B.TX (cB a) b,B.ds hi d a,if_pos rfl];split<;>rfl
theorem LG.Tt (a:LG) {i c:Nat} (hi:i<R.length) (f:c<2) (h:gz R i c<0):iA J (sL c)<J.tc/\iA J (sL c)≠0/\∀d,d<2->0<=gz R i d->iA J (sL c)≠mL d:=by
 haveI j:=a.qV;by_cases b:sL c∈gG (dS (cV R M)) (cV R M)
 ·rw[a.Pj f b];haveI:=a.PA f;refine⟨by rw[a.tc];exact um b,by lia,λd hd g e=> ?_⟩;haveI:=a.sM b (a.sgn hi hd g).1 e;subst this;lia
 ·rw[a.Ta b];refine⟨by lia,by decide,λd hd _ e=> ?_⟩;haveI:=a.PA hd;lia
end
end
section
section
noncomputable def sE (i:Nat) (mo:List V) (cnt:Nat):Pm:=
 if t9 R i=Wb then⟨[0,gS i],Wa,cnt,eu,[],mo⟩ else⟨[0,zS],Wa,cnt,eu,[],mo++[fH (σ (rU i))]⟩
theorem CV {i cnt:Nat} {mo:List V} (h:t9 R i=Wb):sE i mo cnt=⟨[0,gS i],Wa,cnt,eu,[],mo⟩:=by delta sE;rw[if_pos h]
theorem EV {i cnt:Nat} {mo:List V} (h:t9 R i=Wc):sE i mo cnt=⟨[0,zS],Wa,cnt,eu,[],mo++[fH (σ (rU i))]⟩:=by delta sE;rw[h];rfl
theorem E6 {i:Nat} (a:mK R M i) (h:t9 R i=Wc):M.getD i Wc=Wb:=by
 rcases a with a|a
 ·have h:=(sR.mpr a)▸h;cases h
 ·exact a
theorem BL.NI (B:BL) {i:Nat} (hi:i<R.length) (e:M.getD i Wc=Wb) {g cnt:Nat} {a:Option (List Nat)} {mo:List V}:
  jv gF ⟨[0,g],a,cnt,eu,[],mo⟩ (σ (rU i))=V9 ⟨[0,zS],a,cnt,eu,[],mo++[fH (σ (rU i))]⟩:=by
 obtain⟨lv,f⟩:=B.g.mark hi e;haveI b:=pU f;haveI c:=b.1;haveI d:=b.2;exact pQ (T:=gF) (s:=⟨[0,g],a,cnt,eu,[],mo⟩) (n:=1) (q':=0) c rfl (by rw[d];exact B.P6.1)
theorem BL.Qm (B:BL) {i cnt f:Nat} {mo:List V} {b:Bool} {k:List Nat} {tm:List Nat->Nat} (hi:i<R.length) (j:mK R M i):
  ∃a,f<=a/\fZ gF tm (f+1) ⟨[0,gS i],Wa,cnt,eu,[],mo⟩ b k=fZ gF tm a (sE i mo cnt) b k:=by
 induction d:t9 R i with
 |true=>exact⟨f+1,fY f,by rw[CV d]⟩
 |false=>haveI g:=E6 j d;haveI l:=(B.L9 hi j).2;haveI e:=B.ln hi l d g;haveI a:0<σ (rU i):=ta;refine⟨f,aK f,?_⟩;haveI c:=o9 (T:=gF) (tm:=tm) (s:=⟨[0,gS i],Wa,cnt,eu,[],mo⟩) (q:=gS i) rfl (by rw[e];exact a);rw[e,B.NI hi g]at c;rw[jt (q:=gS i) rfl rfl (λh=>by rw[e]at h;lia) c,EV d]
theorem BL.rest (B:BL) {i cnt f:Nat} {mo:List V} {k:List Nat} {tm:List Nat->Nat} (hi:i<R.length) (b:mK R M i):
  fZ gF tm (f+1) (sE i mo cnt) Wb k=V9 (sE i mo cnt):=by
 induction a:t9 R i with
 |true=>rw[CV a];exact qY rfl rfl rfl (B.lw hi (B.L9 hi b).2 a)
 |false=>rw[EV a];exact qY rfl rfl rfl (B.lz B.P6.2)
noncomputable def uS (i c:Nat):Nat:=(gF.act (gS i) (mL c)).toNat
theorem BL.adv (B:BL) {i c cnt f:Nat} {mo:List V} (hi:i<R.length) (a:c<2) (d:0<=gz R i c):
  fZ gF (iA J) (f+5) (sE i mo cnt) Wc (sL c)=V9 (sE (gz R i c).toNat (mo++[jV (uS i c),fH (σ (qz i c))]) (cnt+1)):=by
 injection 0 i c cnt f mo with B hi a d;haveI v:t9 R i=Wb:=sR.mpr ⟨c,a,d⟩;haveI D:mK R M i:=bL ⟨c,a,d⟩;have r:=(B.L9 hi D).2;haveI F:=B.g.sgn hi a d;have l:=B.g.h.xV hi a d;obtain⟨u,x,m,hz⟩:=B.aw hi r a d;injection 0 u with x m hz;haveI o:=B.lu hi a d m;haveI p:0<σ (qz i c):=ta;haveI z:uS i c=u:=by delta uS;rw[x];rfl
 rw[CV v];haveI w:=rO (T:=gF) (tm:=iA J) (s:=⟨[0,gS i],V9 (sL c),cnt+1,eu,[],mo⟩) (k:=sL c) (t:=u) rfl (B.lw hi r v) rfl (by rw[B.g.Pj a F.1];exact x) hz.1 (tg hz.2);rw[hS (f:=f+4) (s:=⟨[0,gS i],Wa,cnt,eu,[],mo⟩) rfl rfl rfl (B.lw hi r v) w];haveI j:=o9 (T:=gF) (tm:=iA J) (s:=⟨[0,gS i,u],Wa,cnt+1,eu,[],mo++[jV u]⟩) (q:=u) rfl (by rw[o];exact p);obtain⟨lv,E⟩:=B.g.way hi a d;haveI y:=pU E;haveI A:=y.1;haveI C:=y.2;rw[o,pQ (T:=gF) (n:=2) (q':=0) (g:=gS (gz R i c).toNat) A rfl (by rw[C];exact(B.L9 l.1 l.2).1)]at j;rw[jt (f:=f+3) (q:=u) rfl rfl (λh=>by lia) j];obtain⟨h,G,e⟩:=B.Qm (i:=(gz R i c).toNat) (cnt:=cnt+1) (f:=f+2) (mo:=mo++[jV u]++[fH (σ (qz i c))]) (b:=Wb) (k:=sL c) (tm:=iA J) l.1 l.2;refine e.trans ?_;rw[show h=h-1+1 from by lia,B.rest l.1 l.2,z,bF];rfl
theorem BL.TT (B:BL) {i cnt f:Nat} {mo:List V} (hi:i<R.length) (g:M.getD i Wc=Wb):
  ∃s',fZ gF (iA J) (f+5) (sE i mo cnt) Wc ik=V9 s'/\s'.nY=tZ/\s'.md=[]/\s'.mo=mo++[fH (σ (rU i)),mx]:=by
 haveI l:mK R M i:=bG g;haveI e:=(B.L9 hi l).2;haveI hz:=B.P6.2;haveI m:=B.g.qV;haveI b:0<σ (rU i):=ta;haveI a:=vF (T:=gF) (tm:=iA J) (s:=⟨[0,zS],V9 ik,cnt+1,eu,[],mo++[fH (σ (rU i))]⟩) (k:=ik) rfl (B.lz hz) rfl (by rw[B.g.Ij];exact B.az hz) (by show 1<2;decide)
 induction d:t9 R i with
 |true=>rw[CV d];haveI j:=B.an (t:=0) hi l e (by lia) (λc j h=>by haveI:=(B.g.sgn hi j h).2.1;lia);rw[if_pos g]at j;haveI c:=oi (T:=gF) (tm:=iA J) (s:=⟨[0,gS i],V9 ik,cnt+1,eu,[],mo⟩) (k:=ik) rfl (B.lw hi e d) rfl (by rw[B.g.Ij];exact j) b;rw[B.NI hi g]at c;rw[hS (f:=f+4) (s:=⟨[0,gS i],Wa,cnt,eu,[],mo⟩) rfl rfl rfl (B.lw hi e d) c,jt (f:=f+3) (q:=zS) rfl rfl (λh=>by cases h.1) a];exact⟨_,ju (f:=f+2) (by show tZ≠eu;decide),rfl,rfl,by show(mo++[_])++[_]=_;rw[bF];rfl⟩
 |false=>rw[EV d,hS (f:=f+4) (s:=⟨[0,zS],Wa,cnt,eu,[],mo++[fH (σ (rU i))]⟩) rfl rfl rfl (B.lz hz) a];exact⟨_,ju (f:=f+3) (by show tZ≠eu;decide),rfl,rfl,by show(mo++[_])++[_]=_;rw[bF];rfl⟩
theorem BL.Re (B:BL) {i cnt f:Nat} {mo:List V} {k:List Nat} (hi:i<R.length) (g:mK R M i) (j:iA J k<J.tc) (n:∀c,c<2->0<=gz R i c->iA J k≠mL c) (m:M.getD i Wc=Wb->iA J k≠0):
  ∃s',fZ gF (iA J) (f+5) (sE i mo cnt) Wc k=V9 s'/\s'.nY=t5/\s'.md=[(cnt:Int)]:=by
 injection 0 i cnt f mo k with B hi g j n m;haveI d:=(B.L9 hi g).2;have hz:=B.P6.2;haveI l:M.getD i Wc=Wb->∀a,iZ gF (iA J) ⟨[0,zS],V9 k,cnt+1,eu,[],a⟩=_:=λb a=>pa (T:=gF) (tm:=iA J) (s:=⟨[0,zS],V9 k,cnt+1,eu,[],a⟩) (k:=k) rfl (B.lz hz) rfl (B.azn hz (m b) j)
 induction c:t9 R i with
 |true=>
  rw[CV c];haveI e:=B.an hi g d j n
  induction b:M.getD i Wc with
  |true=>rw[b,if_pos rfl]at e;haveI a:=oi (T:=gF) (tm:=iA J) (s:=⟨[0,gS i],V9 k,cnt+1,eu,[],mo⟩) (k:=k) rfl (B.lw hi d c) rfl e (ta);rw[B.NI hi b]at a;rw[hS (f:=f+4) (s:=⟨[0,gS i],Wa,cnt,eu,[],mo⟩) rfl rfl rfl (B.lw hi d c) a,jt (f:=f+3) (q:=zS) rfl rfl (λh=>by cases h.1) (l b _)];exact⟨_,ju (f:=f+2) (by show t5≠eu;decide),rfl,rfl⟩
  |false=>rw[b,if_neg (by decide)]at e;haveI a:=pa (T:=gF) (tm:=iA J) (s:=⟨[0,gS i],V9 k,cnt+1,eu,[],mo⟩) (k:=k) rfl (B.lw hi d c) rfl e;rw[hS (f:=f+4) (s:=⟨[0,gS i],Wa,cnt,eu,[],mo⟩) rfl rfl rfl (B.lw hi d c) a];exact⟨_,ju (f:=f+3) (by show t5≠eu;decide),rfl,rfl⟩
 |false=>haveI b:=E6 g c;rw[EV c,hS (f:=f+4) (s:=⟨[0,zS],Wa,cnt,eu,[],mo++[fH (σ (rU i))]⟩) rfl rfl rfl (B.lz hz) (l b _)];exact⟨_,ju (f:=f+3) (by show t5≠eu;decide),rfl,rfl⟩
theorem BL.lead (B:BL) {f:Nat} {k:List Nat} {tm:List Nat->Nat}:∃a,f<=a/\fZ gF tm (f+2) QE Wc k=fZ gF tm a (sE 0 [fH (σ Az)] 0) Wc k:=by haveI hz:=B.g.h.zero B.g.ne;obtain⟨lv,j⟩:=B.g.root;haveI d:=pU j;haveI e:=d.1;haveI i:=d.2;haveI c:=B.l0;haveI a:0<σ Az:=ta;haveI b:=o9 (T:=gF) (tm:=tm) (s:=QE) (q:=0) rfl (by rw[c];exact a);rw[c,pQ (T:=gF) (n:=0) (q':=0) (g:=gS 0) e rfl (by rw[i];exact(B.L9 hz.1 hz.2).1)]at b;rw[jt (f:=f+1) (q:=0) rfl rfl (λh=>by rw[c]at h;lia) b];exact B.Qm hz.1 hz.2
end
end
section
section
noncomputable def mB (k:Nat):List V:=
 [fH (σ Az)]++(aC k).flatMap λj=>[jV (uS (ir j) (w.getD j 0)),fH (σ (qz (ir j) (w.getD j 0)))]
theorem sT {k:Nat}:mB (k+1)=mB k++[jV (uS (ir k) (w.getD k 0)),fH (σ (qz (ir k) (w.getD k 0)))]:=by delta mB;rw[cG,fv,←bF];rfl
theorem Fw:∀{k:Nat},(mB k).length=1+2*k:=by
 intro k
 induction k with
 |zero=>exact rfl
 |succ k a=>rw[sT,aH,a];rfl
theorem Ko:∀{k:Nat},(mB k).map F2=vS ([x8]++(aY k [Qt,x8]).flatten):=by
 intro k
 induction k with
 |zero=>exact rfl
 |succ k a=>
  skip
  rw[sT,bV,a,List.replicate_succ',CC,←bF];delta vS;rw[bV (l₁:=[x8]++_)];rfl
theorem N0:∀{k:Nat},∀v∈mB k,∃a l,v= .tup (a::l):=by
 intro k
 induction k with
 |zero=>intro v a;rw[aD.1 a];exact⟨_,_,rfl⟩
 |succ k b=>
  intro v a;rw[sT]at a;rcases aZ.1 a with h|h
  ·exact b v h
  ·rcases bD.1 h with rfl|h
   ·exact⟨_,_,rfl⟩
   ·rw[aD.1 h];exact⟨_,_,rfl⟩
noncomputable def Ql:Nat->Pm
 |0=>QE
 |k+1=>sE (ir (k+1)) (mB (k+1)) (k+1)
theorem Qv {i cnt:Nat} {mo:List V}:(sE i mo cnt).mo.length<=mo.length+1/\(sE i mo cnt).st.length=2/\(sE i mo cnt).md=[]/\(sE i mo cnt).look=Wa/\(sE i mo cnt).nY=eu:=by
 delta sE;split
 ·exact⟨fY _,rfl,rfl,rfl,rfl⟩
 ·exact⟨by rw[aH];exact aK _,rfl,rfl,rfl,rfl⟩
theorem BL.ati (B:BL) (b:∀c∈w,c<2):∀j,j<=bM R w->ir j<R.length/\mK R M (ir j):=by
 haveI hz:=B.g.h.zero B.g.ne;haveI a:=iE B.g.h.A8 hz.1 b;haveI d:=a.1;intro j
 induction j with
 |zero=>exact λ_=>hz
 |succ j=>intro c;haveI a:=d j c;haveI p1:=a.1;haveI p2:=a.2.1;haveI p3:=a.2.2.1;haveI f:=a.2.2.2;haveI e:ir (j+1)=(gz R (ir j) (w.getD j 0)).toNat:=f;rw[e];exact B.g.h.xV p2 p1 p3
theorem BL.cur (B:BL) {j:Nat} {k:List Nat} {tm:List Nat->Nat}:
  ∃a,18<=a/\fZ gF tm 20 (Ql j) Wc k=fZ gF tm a (sE (ir j) (mB j) j) Wc k:=by
 induction j with
 |zero=>exact B.lead (f:=18)
 |succ j=>exact⟨20,by decide,rfl⟩
theorem BQ {j:Nat} (h:j<w.length):kindAt w j=sL (w.getD j 0):=by delta kindAt;rw[if_pos h]
theorem BL.run (B:BL) (g:∀c∈w,c<2) (l:w.length<=6):sb gF (iA J) w (bM R w) 20 (Ql):=by
 haveI hz:=B.g.h.zero B.g.ne;haveI b:bM R w<=w.length:=hT;haveI a:=iE B.g.h.A8 hz.1 g;haveI h:=a.1;refine⟨by decide,rfl,λk c=> ?_,λk c=> ?_⟩
 ·induction k with
  |zero=>exact⟨aP _,by decide,rfl,rfl,rfl⟩
  |succ k=>haveI a:=Qv (i:=ir (k+1)) (cnt:=k+1) (mo:=mB (k+1));haveI d:=a.1;haveI e:=a.2.1;haveI f:=a.2.2;rw[Fw]at d;exact⟨by show(sE ..).mo.length<=100;lia,by exact tb (te e),f⟩
 ·haveI a:=h k c;haveI p1:=a.1;haveI p2:=a.2.1;haveI p3:=a.2.2.1;haveI f:=a.2.2.2;obtain⟨d,m,e⟩:=B.cur (j:=k) (k:=kindAt w k) (tm:=iA J);rw[e,BQ (ff c b),show d=d-5+5 from by lia,B.adv (i:=ir k) p2 p1 p3,←sT,←show ir (k+1)=(gz R (ir k) (w.getD k 0)).toNat from f];rfl
theorem BL.good (B:BL) (m:∀c∈w,c<2) (u:w.length<=6):oe R M w gF:=by
 haveI hz:=B.g.h.zero B.g.ne;haveI z:=B.g.qV;haveI y:bM R w<=w.length:=hT;haveI l:=iE B.g.h.A8 hz.1 m;haveI s:=l.2;have i:=B.ati m;have b:(gA R w).getLastD 0=ir (bM R w):=by delta ir;rw[fU,fV,bJ];rfl
 obtain⟨hi,o⟩:=i _ (aK _);haveI r:∀x∈gA R w,(if t9 R x then sQ x else [90])∈gF.G.names:=λx k=>by
  obtain⟨j,h,e⟩:=dw k;haveI a:j<=bM R w:=l7 h;haveI g:ir j=x:=by delta ir;rw[bJ,aF h,e];rfl
  obtain⟨c,d⟩:=i j a;rw[g]at c d;show _∈J.names;rw[B.g.g];split
  ·exact aT _ ((gb B.g.h B.g.ne).2 (bG ⟨x,c,d,rfl⟩))
  ·exact aT _ ((gb B.g.h B.g.ne).2 (bL rfl))
 haveI t:∀k,k<bM R w->∃g:Nat,gF.go 0 (tz gF.G R ((gA R w).getD (k+1) 0))=g/\(Ql (k+1)).st=[0,g]:=λk e=>by
  haveI l:=i (k+1) e;haveI c:=l.1;haveI d:=l.2;show ∃g:Nat,gF.go 0 (tz J R (ir (k+1)))=g/\(sE _ _ _).st=_;haveI g:tz J R (ir (k+1))=ix (cV R M) (if t9 R (ir (k+1)) then sQ (ir (k+1)) else [90]):=by rw[B.g.g];rfl
  rw[g]
  induction a:t9 R (ir (k+1))with
  |true=>rw[CV a,if_pos rfl];exact⟨_,(B.L9 c d).1,rfl⟩
  |false=>rw[EV a,if_neg (by decide)];exact⟨_,B.P6.1,rfl⟩
 haveI rest:∀s',fZ gF (iA J) 20 (Ql (bM R w)) Wc (kindAt w (bM R w))=V9 s'->xB (fu R M w) (bM R w) s'->oe R M w gF:=λs' c d=>
  ⟨iA J,20,Ql,s',B.Ts,B.QY,B.run m u,r,t,c,d⟩
 obtain⟨j,A,e⟩:=B.cur (j:=bM R w) (k:=kindAt w (bM R w)) (tm:=iA J);rw[show j=j-5+5 from by lia]at e;by_cases g:bM R w=w.length
 ·have n:kindAt w (bM R w)=ik:=by delta kindAt;rw[if_neg (e9 (tf g))]
  cases p:M.getD (ir (bM R w)) Wc with
  |true=>
   haveI a:fu R M w=Wb:=by delta fu;rw[b,p,decide_eq_true g];rfl
   obtain⟨s',c,d,k,q⟩:=B.TT (cnt:=bM R w) (f:=j-5) (mo:=mB (bM R w)) hi p;refine rest s' (by rw[e,n];exact c) ?_;rw[a];refine⟨d,k,?_,λv x=> ?_,?_⟩
   ·rw[q,aH,Fw];show 1+2*bM R w+2<=200;lia
   ·rw[q]at x;rcases aZ.1 x with h|h
    ·exact N0 v h
    ·rcases bD.1 h with rfl|h
     ·exact⟨_,_,rfl⟩
     ·rw[aD.1 h];exact⟨_,_,rfl⟩
   ·rw[q,bV,Ko];delta so vS;rw[bV (l₁:=[x8]++_)];rfl
  |false=>
   have a:fu R M w=Wc:=by delta fu;rw[b,p,oH]
   obtain⟨s',c,d,k⟩:=B.Re (cnt:=bM R w) (f:=j-5) (mo:=mB (bM R w)) (k:=ik) hi o (by rw[B.g.Ij];lia) (λc m d=>by rw[B.g.Ij];haveI:=(B.g.sgn hi m d).2.1;lia) (λh=>by rw[p]at h;cases h);refine rest s' (by rw[e,n];exact c) ?_;rw[a];exact⟨d,k⟩
 ·have h:bM R w<w.length:=kT ‹_› ‹_›;haveI l:=s h;haveI p1:=l.1;haveI p2:=l.2;obtain⟨n,p,q⟩:=B.g.Tt hi p1 p2;haveI a:fu R M w=Wc:=by delta fu;rw[decide_eq_false g,kM]
  obtain⟨s',c,d,k⟩:=B.Re (cnt:=bM R w) (f:=j-5) (mo:=mB (bM R w)) (k:=sL (w.getD (bM R w) 0)) hi o n q (λ_=>p);refine rest s' (by rw[e,BQ h];exact c) ?_;rw[a];exact⟨d,k⟩
theorem Ks (h:gm R M) (f:bP R M≠[]) (n:∀c∈w,c<2) (j:w.length<=6):zn (cV R M) [90] J Wb (Mm R M J) (oe R M w) fd aV mv rd fl:=by haveI l:=Kb h f;have c:LG:=⟨h,f,OY,l⟩;refine⟨l.Hm,c.simple,c.qV.1,by rw[OY];exact l.nd,λa=>c.uk a,λa b e hd d=>c.au a b e hd d,λa m b e hd g d i=> ?_⟩;have B:BL:=⟨c,a,m,b,e,hd,g,d,i⟩;exact⟨xL,λk e=>B.TP e,B.good n j⟩
theorem VJ:BW R M w fd aV mv rd fl:=by exact λh a b c=>⟨O0▸EY h a c b,OY▸Ks h a c b,λd=>EX h a c d⟩
theorem OS (R M w fd aV a b fl):BW R M w fd aV a b fl:=
 eE8 (P:=BW) _ (by with_unfolding_all exact VJ) R M w fd aV a b fl
theorem FE {R:List (List Int)} {M:List Bool} (h:gm R M):Co R M:=by refine⟨λa=>yu a,λc w d e=> ?_⟩;haveI q:=λfd aV a b fl=>OS R M w fd aV a b fl h c d e;exact⟨⟨_,λfd aV a b fl=>(q fd aV a b fl).1⟩,⟨_,λfd aV a b fl=>(q fd aV a b fl).2.1⟩,(q [] [] (λ_=>[]) (λ_=>[]) []).2.2⟩
end
theorem Pp {is:List Int} (c:is.length<=63):eQ pd (wn pd hH 19) NM [V9 (.ro (is.map .int)),Wa,Wa,Wa,Wa,Wa,Wa,Wa,Wa,Wa,Wa,Wa,Wa,Wa,Wa,Wa,Wa,Wa] [] λfl m H=>fl= .next/\uP (wn pd hH 19) (wn pd hH 17) m H:=
 Rt (n:=10) c λ_ _ b a=>FE (Kt b a)
end
end
end Q
end
section
open PySem PySem.W PySem.Calls PyProof.Rows
section
set_option genInjectivity true
noncomputable abbrev ic:Nat:=1000000
inductive Ro where
 |obj (i:Nat)|tup|cell|fw (j:Nat)
structure Sg where
 ρ:List Addr
 tu:List (Addr×Obj)
 ro:Addr->Ro
 l:List (Addr×Obj)
 mm:Str->Option Value
structure Sg.le (σ σ':Sg):Prop where
 ρ:∀{i:Nat} {a:Addr},σ.ρ[i]? =V9 a->σ'.ρ[i]? =V9 a
 tu:∀{p},p∈σ.tu->p∈σ'.tu
theorem Sg.le.rfl {σ:Sg}:σ.le σ:=⟨id,id⟩
theorem Sg.le.trans {a b c:Sg} (h:a.le b) (k:b.le c):a.le c:=⟨λe=>k.ρ (h.ρ e),λe=>k.tu (h.tu e)⟩
noncomputable abbrev qT (ws:List Value) (n:Nat):Obj:={cls:=.type "tuple",data:=.seq ws.toArray n}
noncomputable abbrev gk (ws:List Value) (n:Nat):Obj:={cls:=.type "list",data:=.seq ws.toArray n}
inductive eH {α β:Type} (R:α->β->Prop):List α->List β->Prop
 |nil:eH R [] []
 |cons {a b as bs} (h:R a b) (t:eH R as bs):eH R (a::as) (b::bs)
inductive VR (σ:Sg):V->Value->Prop
 |none:VR σ .none .none
 |bool (b:Bool):VR σ (.bool b) (.bool b)
 |int (i:Int) (t:Tok):VR σ (.int i) (.int i t)
 |str (s:List Nat) (t:Tok):VR σ (.str s) (.str ⟨s.toArray⟩ t)
 |tup {vs:List V} {ws:List Value} {a:Addr} {n:Nat} (ho:(a,qT ws n)∈σ.tu) (hl:vs.length<=ic) (h:eH (VR σ) vs ws):VR σ (.tup vs) (.ref a)
 |ro {vs:List V} {ws:List Value} {a:Addr} {n:Nat} (ho:(a,gk ws n)∈σ.tu) (hl:vs.length<=ic) (h:eH (VR σ) vs ws):VR σ (.ro vs) (.ref a)
 |ref {i:Nat} {a:Addr} (h:σ.ρ[i]? =V9 a):VR σ (.ref i) (.ref a)
abbrev kb (σ:Sg):=eH (VR σ)
theorem VR.le {σ σ':Sg} (c:σ.le σ') {v x} (h:VR σ v x):VR σ' v x:=
 VR.rec (motive_1:=λv x _=>VR σ' v x) (motive_2:=λvs xs _=>eH (VR σ') vs xs) .none .bool .int .str (λb a _ d=>.tup (c.tu b) a d) (λb a _ d=>.ro (c.tu b) a d) (λh=>.ref (c.ρ h)) .nil (λ_ _ h t=>.cons h t) h
inductive RF (σ:Sg) (vs:List V):Value->Prop
 |mk {ws:List Value} {a:Addr} {n:Nat} (ho:(a,qT ws n)∈σ.tu) (hl:vs.length<=ic) (h:kb σ vs ws):RF σ vs (.ref a)
inductive RoV (σ:Sg) (vs:List V):Value->Prop
 |mk {ws:List Value} {a:Addr} {n:Nat} (ho:(a,gk ws n)∈σ.tu) (hl:vs.length<=ic) (h:kb σ vs ws):RoV σ vs (.ref a)
def VRi (σ:Sg) (v:V) (x:Value):Prop:=match v with
 | .none=>x= .none
 | .bool b=>x= .bool b
 | .int i=>∃t,x= .int i t
 | .str s=>∃t,x= .str ⟨s.toArray⟩ t
 | .tup vs=>RF σ vs x
 | .ro vs=>RoV σ vs x
 | .ref i=>∃a,x= .ref a/\σ.ρ[i]? =V9 a
theorem VR.inv {σ v x} (h:VR σ v x):VRi σ v x:=
 VR.casesOn (motive_1:=λv x _=>VRi σ v x) h rfl (λ_=>rfl) (λ_ t=>⟨t,rfl⟩) (λ_ t=>⟨t,rfl⟩) .mk .mk (λh=>⟨_,rfl,h⟩)
namespace eH
variable {α β:Type} {R R':α->β->Prop}
noncomputable def Inv (R:α->β->Prop) (as:List α) (bs:List β):Prop:=match as with
 |[]=>bs=[]
 |a::as=>∃b c,bs=b::c/\R a b/\eH R as c
theorem inv {as:List α} {bs:List β} (h:eH R as bs):Inv R as bs:=eH.casesOn (motive:=λas bs _=>Inv R as bs) h rfl λh t=>⟨_,_,rfl,h,t⟩
theorem imp (f:∀a b,R a b->R' a b) {as bs} (h:eH R as bs):eH R' as bs:=eH.rec (motive:=λas bs _=>eH R' as bs) .nil (λh _ t=>.cons (f _ _ h) t) h
theorem length {as bs} (h:eH R as bs):as.length=bs.length:=by induction h with|nil=>exact rfl|cons _ _ t=>exact congrArg (·+1) t
theorem append {as bs a b} (h:eH R as bs) (h':eH R a b):eH R (as++a) (bs++b):=eH.rec (motive:=λas bs _=>eH R (as++a) (bs++b)) h' (λh _ t=>.cons h t) h
theorem get {as bs} (h:eH R as bs):∀{i:Nat} {v},as[i]? =V9 v->∃x,bs[i]? =V9 x/\R v x:=by
 induction h with
 |nil=>exact λe=>(nn e)
 |cons h _ a=>
  intro i v e
  induction i with
  |zero=>exact⟨_,rfl,aA e▸h⟩
  |succ i=>exact a (i:=i) e
theorem symm {as bs} (h:eH R as bs):eH (λb a=>R a b) bs as:=eH.rec (motive:=λas bs _=>eH (λb a=>R a b) bs as) .nil (λh _ t=>.cons h t) h
theorem drop (n:Nat):∀{as bs},eH R as bs->eH R (as.drop n) (bs.drop n):=
 Hf (motive:=λn=>∀{as bs},eH R as bs->eH R (as.drop n) (bs.drop n)) id (λn a as bs h=>eH.casesOn (motive:=λas bs _=>eH R (as.drop (n+1)) (bs.drop (n+1))) h .nil λ_ t=>a t) n
theorem take (n:Nat):∀{as bs},eH R as bs->eH R (as.take n) (bs.take n):=
 Hf (motive:=λn=>∀{as bs},eH R as bs->eH R (as.take n) (bs.take n)) (λ_=>.nil) (λn a as bs h=>eH.casesOn (motive:=λas bs _=>eH R (as.take (n+1)) (bs.take (n+1))) h .nil λh t=>.cons h (a t)) n
theorem set {v x} (a:R v x) (n:Nat):∀{as bs},eH R as bs->eH R (as.set n v) (bs.set n x):=
 Hf (motive:=λn=>∀{as bs},eH R as bs->eH R (as.set n v) (bs.set n x)) (λh=>eH.casesOn (motive:=λas bs _=>eH R (as.set 0 v) (bs.set 0 x)) h .nil λ_ t=>.cons a t)
  (λn b as bs h=>eH.casesOn (motive:=λas bs _=>eH R (as.set (n+1) v) (bs.set (n+1) x)) h .nil λh t=>.cons h (b t)) n
theorem reverse {as bs} (h:eH R as bs):eH R as.reverse bs.reverse:=
 eH.rec (motive:=λas bs _=>eH R as.reverse bs.reverse) .nil (λ{a b _ _} h _ t=>jk (a:=a)▸jk (a:=b)▸t.append (.cons h .nil)) h
theorem flatten {as bs} (h:eH R as bs) (n:Nat):eH R (aY n as).flatten (aY n bs).flatten:=
 Hf (motive:=λn=>eH R (aY n as).flatten (aY n bs).flatten) .nil (λ_ a=>h.append a) n
theorem one {v xs} (h:eH R [v] xs):∃y,xs=[y]/\R v y:=by obtain⟨y,a,e,h,t⟩:=h.inv;exact⟨y,e.trans (congrArg _ t.inv),h⟩
theorem two {v u xs} (h:eH R [v,u] xs):∃y z,xs=[y,z]/\R v y/\R u z:=by obtain⟨y,b,e,h,t⟩:=h.inv;obtain⟨z,a,k⟩:=t.one;exact⟨y,z,e.trans (congrArg _ a),h,k⟩
end eH
theorem eH.le {σ σ':Sg} (a:σ.le σ') {vs xs} (h:kb σ vs xs):kb σ' vs xs:=h.imp λ_ _ h=>h.le a
abbrev FR (σ:Sg):=eH λ(p:Nat×V) (e:rG)=>(∃t,e.key= .str (mW p.1) t)/\VR σ p.2 e.val
abbrev ER {K:Type} (emb:K->V) (σ:Sg):=eH λ(p:V×V) (q:K×Value)=>p.1=emb q.1/\VR σ p.2 q.2
noncomputable def Dm (s:Str):V:=.str s.cps.toList
noncomputable def Gl (l:List Int):V:=.tup (l.map .int)
structure Wd where
 prog:Program
 w:World
 K:Frag
 h₀:Heap
 mg:Str->Option Value
 mb:Str->Option Value
 pJ:List (Addr×Obj)
 os:nh
 gs:Array qG
def G9 (b:Obj) (n:Nat):Prop:=∃a,b.data= .dict a n
inductive DR (W:Wd) (σ:Sg):List (V×V)->Obj->Prop
 |nil {ob:Obj} (h:ob.ExactDict) (hd:ob.data= .dict #[] 0):DR W σ [] ob
 |int {p es ob kvs} (h:ob.IsDictOf (eM W.prog W.w) kvs) (e:ER .int σ (p::es) kvs) (ep:G9 ob kvs.length):DR W σ (p::es) ob
 |str {p es ob kvs} (h:ob.IsDictOf (strKind W.prog W.w) kvs) (e:ER Dm σ (p::es) kvs):DR W σ (p::es) ob
 |tup {p es ob xs des ep} (h:ob.ExactDict) (hd:ob.data= .dict des ep) (hl:des.toList=xs.map (Mz (l3 (eM W.prog W.w))))
  (hk:∀x∈xs,∃ok,(x.2.1,ok)∈σ.tu/\rI (eM W.prog W.w) x.1 ok) (nd:(xs.map (·.1)).Nodup) (e:ER Gl σ (p::es) (kvsOf xs)):DR W σ (p::es) ob
theorem ER.le {K:Type} {a:K->V} {σ σ':Sg} (d:σ.le σ') {c b} (h:ER a σ c b):ER a σ' c b:=h.imp λ_ _ h=>⟨h.1,h.2.le d⟩
theorem DR.le {W:Wd} {σ σ':Sg} (g:σ.le σ') {i j} (h:DR W σ i j):DR W σ' i j:=by
 induction h with
 |nil a b=>exact .nil a b
 |int a b c=>exact .int a (ER.le g b) c
 |str a b=>exact .str a (ER.le g b)
 |tup a b c d e f=>exact .tup a b c (λx k=>(d x k).imp λ_ h=>⟨g.tu h.1,h.2⟩) e (ER.le g f)
abbrev lq:=List (Addr×Obj)
inductive OR (W:Wd) (σ:Sg) (a:Addr):lq->O->Prop
 |list {vs ws n} (hl:vs.length<=ic) (h:kb σ vs ws):OR W σ a [(a,gk ws n)] (.list vs)
 |dict {es ob} (hl:es.length<=1000) (h:DR W σ es ob):OR W σ a [(a,ob)] (.dict es)
 |inst {c fs dx des n} (h:FR σ fs des) (hf:∀p∈fs,(pu c).contains p.1=Wb):OR W σ a [(a,oV (fJ c) dx),(dx,dictOf des n)] (.inst c fs)
theorem OR.le {W:Wd} {σ σ':Sg} (d:σ.le σ') {b:lq} {a:Addr} {o:O} (h:OR W σ a b o):OR W σ' a b o:=by
 induction h with
 |list c h=>exact .list c (h.le d)
 |dict c h=>exact .dict c (h.le d)
 |inst h f=>exact .inst (h.imp λ_ _ h=>⟨h.1,h.2.le d⟩) f
structure Fx where
 env:Env
 ns:List Str
 nE:List Nat
 sc:Scope
 fw:List lq
structure Mem (σ:Sg) (r:Ro) (p:Addr×Obj):Prop where
 l:p∈σ.l
 r:σ.ro p.1=r
inductive At (env:Env) (σ:Sg) (x:Str) (cv:Value):Prop
 |loc (hk:env.kindOf x=V9 .local) (hm:σ.mm x=V9 cv)
 |lS {c:Addr} {o:Obj} (hk:env.kindOf x=V9 .cell\/env.kindOf x=V9 .free) (hc:env.cells.lookup x=V9 c) (m:Mem σ .cell (c,o)) (hd:o.data= .cell (V9 cv))
inductive zq (F:Fx) (σ:Sg) (k:Nat) (v:V):Prop
 |mk {x:Str} {cv:Value} (hv:k∈F.nE) (hx:F.ns[k]? =V9 x) (r:VR σ v cv) (h:At F.env σ x cv)
inductive zr (σ:Sg) (c:Addr):Prop
 |mk {o:Obj} {v:Option Value} (m:Mem σ .cell (c,o)) (hd:o.data= .cell v)
inductive G6 (W:Wd) (σ:Sg) (i:Nat) (o:O):Prop
 |mk {a:Addr} {b:lq} (ρ:σ.ρ[i]? =V9 a) (h:OR W σ a b o) (m:∀p∈b,Mem σ (.obj i) p)
def od (σ:Sg):List lq->Prop
 |[]=>True
 |b::r=>(∀p∈b,Mem σ (.fw r.length) p)/\od σ r
structure Cx where
 heap:Heap
 os:nh
 gens:Array qG
noncomputable abbrev cx (s:Shared):Cx:=⟨s.heap,s.os,s.gens⟩
structure Rel (W:Wd) (F:Fx) (σ:Sg) (m:En) (H:Hp) (x:Cx):Prop where
 fr:Fr W.h₀ F.env.locals x.heap σ.mm
 nw:News W.h₀ F.env.locals x.heap σ.l
 len:σ.ρ.length=H.length
 ob:∀{i:Nat} {o},H[i]? =V9 o->G6 W σ i o
 tu:∀{p},p∈σ.tu->Mem σ .tup p
 en:∀{k v},getM m k=V9 v->zq F σ k v
 lS:∀{x c},x≠wg->F.env.cells.lookup x=V9 c->zr σ c
 fw:od σ F.fw
 GV:∀{p},p∈W.pJ->p∈σ.tu
 os:x.os=W.os
 gs:x.gens=W.gs
def Kp (X:Ro->Prop) (σ σ':Sg):Prop:=∀p∈σ.l,¬X (σ.ro p.1)->p∈σ'.l/\σ'.ro p.1=σ.ro p.1
section
variable {W:Wd} {F:Fx} {σ σ':Sg} {m:En} {H:Hp} {x:Cx} {X:Ro->Prop}
theorem Mem.kp {r p} (M:Mem σ r p) (k:Kp X σ σ') (h:¬X r):Mem σ' r p:=
 haveI q:=k p M.l (M.r.symm▸h)
 ⟨q.1,q.2.trans M.r⟩
theorem G6.kp {i o} (h:G6 W σ i o) (k:Kp X σ σ') (c:¬X (.obj i)) (a:σ.le σ'):G6 W σ' i o:=by induction h with|mk d h m=>exact⟨a.ρ d,h.le a,λp b=>(m p b).kp k c⟩
theorem zq.kp {i v} (h:zq F σ i v) (k:Kp X σ σ') (f:¬X .cell) (g:σ.le σ') (d:σ'.mm=σ.mm):zq F σ' i v:=by
 induction h with|mk e b r h=>
 refine⟨e,b,r.le g,?_⟩
 induction h with
 |loc a h=>exact .loc a (d▸h)
 |lS a c m hd=>exact .lS a c (m.kp k f) hd
theorem zr.kp {c} (h:zr σ c) (k:Kp X σ σ') (a:¬X .cell):zr σ' c:=by induction h with|mk m hd=>exact⟨m.kp k a,hd⟩
theorem od.kp (k:Kp X σ σ'):∀{l:List lq},(∀j,j<l.length->¬X (.fw j))->od σ l->od σ' l
 |[],_,_=>trivial
 |b::r,a,h=>⟨λp c=>(h.1 p c).kp k (a _ (dt _)),h.2.kp k λj c=>a j (Nat.lt_succ_of_lt c)⟩
theorem Rel.chg {b:Hp} {h':Heap} (S:Rel W F σ m H x) (k:Kp X σ σ') (c:σ.le σ') (h:Fr W.h₀ F.env.locals h' σ'.mm) (l:News W.h₀ F.env.locals h' σ'.l) (len:σ'.ρ.length=b.length)
  (ob:∀{i:Nat} {o},b[i]? =V9 o->G6 W σ' i o\/H[i]? =V9 o/\¬X (.obj i)) (tu:∀{p},p∈σ'.tu->p∈σ.tu\/Mem σ' .tup p) (i:σ'.mm=σ.mm) (p:¬X .tup) (g:¬X .cell) (o:∀j,¬X (.fw j)):
  Rel W F σ' m b ⟨h',x.os,x.gens⟩ where
 fr:=h
 nw:=l
 len:=len
 ob e:=(ob e).elim id λq=>(S.ob q.1).kp k q.2 c
 tu e:=(tu e).elim (λq=>(S.tu q).kp k p) id
 en e:=(S.en e).kp k g c i
 lS n e:=(S.lS n e).kp k g
 fw:=S.fw.kp k λj _=>o j
 GV e:=c.tu (S.GV e)
 os:=S.os
 gs:=S.gs
theorem Rel.grow {h':Heap} (S:Rel W F σ m H x) (k:∀b o,x.heap.get? b=V9 o->h'.get? b=V9 o):Rel W F σ m H ⟨h',x.os,x.gens⟩:=
 {S with fr:=S.fr.keptAll k,nw:=λp a=>⟨k _ _ (S.nw p a).1,(S.nw p a).2⟩}
theorem Rel.fresh (S:Rel W F σ m H x) {a:Addr} (e:x.heap.get? a=Wa):a≠F.env.locals/\W.h₀.get? a=Wa/\∀p∈σ.l,p.1≠a:=by
 refine⟨λq=> ?_,?_,λp b q=>nomatch (q▸(S.nw p b).1).symm.trans e⟩
 ·obtain⟨oL,c,ep,b,r⟩:=S.fr.ns;exact nomatch (q▸b).symm.trans e
 ·induction q:W.h₀.get? a with
  |none=>rfl
  |some o=>exact nomatch (S.fr.keep _ _ q).symm.trans e
end
end
section
structure To (W:Wd) (F:Fx) (m:En) (σ σ':Sg) (H':Hp) (x':Cx):Prop where
 le:σ.le σ'
 rel:Rel W F σ' m H' x'
section
variable {W:Wd} {F:Fx} {σ σ':Sg} {m:En} {H:Hp} {x:Cx}
theorem To.trans {e m' a f b g c} (t:To W e m σ σ' f g) (d:To W F m' σ' a b c):To W F m' σ a b c:=⟨t.le.trans d.le,d.rel⟩
theorem Rel.to (S:Rel W F σ m H x):To W F m σ σ H x:=⟨.rfl,S⟩
theorem Rel.ne (S:Rel W F σ m H x) {p} (a:p∈σ.l):p.1≠x.heap.objs.size:=λq=>cX _ (q▸d5 (S.nw p a).1)
noncomputable def Sg.push (σ:Sg) (i:Nat) (a:Addr) (b:lq):Sg:=⟨σ.ρ++[a],σ.tu,λy=>if y∈b.map (·.1) then .obj i else σ.ro y,b++σ.l,σ.mm⟩
noncomputable def Sg.E4 (σ:Sg) (p:Addr×Obj):Sg:=⟨σ.ρ,p::σ.tu,λy=>if y=p.1 then .tup else σ.ro y,p::σ.l,σ.mm⟩
theorem Sg.wX {i a b}:σ.le (σ.push i a b):=⟨λe=>(bH (cD.1 e).1).trans e,id⟩
theorem Sg.nR {p}:σ.le (σ.E4 p):=⟨id,.tail _⟩
theorem F5 {a:Type} {l:List a} {k:a} {i:Nat} {o:a} (h:(l++[k])[i]? =V9 o):l[i]? =V9 o\/i=l.length/\o=k:=by
 rcases cZ i l.length with q|q
 ·exact .inl ((bH q).symm.trans h)
 ·have h:=(bR q)▸h
  induction e:i-l.length with
  |zero=>have h:=(e)▸h;exact .inr ⟨u9 (Bl e) q,(aA h).symm⟩
  |succ k=>rw[e]at h;exact nn h
theorem Rel.QQ {h':Heap} {b:lq} {a:Addr} {o:O} (S:Rel W F σ m H x) (d:Fr W.h₀ F.env.locals h' σ.mm) (f:News W.h₀ F.env.locals h' (b++σ.l)) (g:∀p∈σ.l,p.1∉b.map (·.1)) (h:OR W σ a b o):
  To W F m σ (σ.push H.length a b) (H++[o]) ⟨h',x.os,x.gens⟩ where
 le:=Sg.wX
 rel:=by
  refine S.chg (X:=λ_=>False) (λp c _=>⟨aT _ c,if_neg (g p c)⟩) Sg.wX d f ((aH (as:=σ.ρ)).trans ((congrArg (·+1) S.len).trans (aH (as:=H) (bs:=[o])).symm)) (λe=> ?_) .inl rfl id id (λ_=>id);rcases F5 e with q|⟨rfl,rfl⟩
  ·exact .inr ⟨q,id⟩
  ·exact .inl ⟨by rw[←S.len];exact g9,h.le Sg.wX,λp c=>⟨bB _ c,if_pos (bN c)⟩⟩
theorem Rel.new {h':Heap} {b:lq} {a:Addr} {o:O} (S:Rel W F σ m H x) (c:Fr W.h₀ F.env.locals h' σ.mm) (d:News W.h₀ F.env.locals h' (b++σ.l)) (f:∀p∈b,x.heap.get? p.1=Wa) (g:OR W σ a b o):
  To W F m σ (σ.push H.length a b) (H++[o]) ⟨h',x.os,x.gens⟩:=
 S.QQ c d (λp h q=>(aM.1 q).elim λp' e=>nn ((f p' e.1).symm.trans ((congrArg x.heap.get? e.2).trans (S.nw p h).1))) g
theorem Rel.QP {h':Heap} {b:lq} {a:Addr} {o:O} (S:Rel W F σ m H x) (k:∀b o,x.heap.get? b=V9 o->h'.get? b=V9 o) (c:∀p∈b,x.heap.get? p.1=Wa/\h'.get? p.1=V9 p.2) (e:OR W σ a b o):
  To W F m σ (σ.push H.length a b) (H++[o]) ⟨h',x.os,x.gens⟩:=
 S.new (S.fr.keptAll k) (λp d=>(aZ.1 d).elim (λq=>⟨(c p q).2,(S.fresh (c p q).1).1,(S.fresh (c p q).1).2.1⟩) λq=>⟨k _ _ (S.nw p q).1,(S.nw p q).2⟩) (λp d=>(c p d).1) e
theorem Rel.RE {a:Addr} {o:Obj} (S:Rel W F σ m H x) (c:x.heap.get? a=V9 o) (f:a≠F.env.locals/\W.h₀.get? a=Wa/\∀p∈σ.l,p.1≠a):To W F m σ (σ.E4 (a,o)) H x where
 le:=Sg.nR
 rel:=S.chg (X:=λ_=>False) (λp b _=>⟨.tail _ b,if_neg (f.2.2 p b)⟩) Sg.nR S.fr (λp b=>(bD.1 b).elim (λq=>q▸⟨c,f.1,f.2.1⟩) λq=>S.nw p q) S.len (λe=>.inr ⟨e,id⟩)
  (λe=>(bD.1 e).elim (λq=>.inr (q▸⟨.head _,if_pos rfl⟩)) .inl) rfl id id (λ_=>id)
theorem Rel.QN {h':Heap} {a:Addr} {o:Obj} (S:Rel W F σ m H x) (k:∀b o,x.heap.get? b=V9 o->h'.get? b=V9 o) (c:x.heap.get? a=Wa) (b:h'.get? a=V9 o):To W F m σ (σ.E4 (a,o)) H ⟨h',x.os,x.gens⟩:=(S.grow k).RE b (S.fresh c)
theorem Rel.upd {h':Heap} {l':List (Addr×Obj)} {i:Nat} {b:lq} {a:Addr} {o:O} (S:Rel W F σ m H x) (h:σ.ρ[i]? =V9 a) (f:Fr W.h₀ F.env.locals h' σ.mm) (g:News W.h₀ F.env.locals h' l')
  (k:∀p∈σ.l,σ.ro p.1≠.obj i->p∈l') (d:∀p∈b,p∈l'/\σ.ro p.1= .obj i) (l:OR W σ a b o):To W F m σ ⟨σ.ρ,σ.tu,σ.ro,l',σ.mm⟩ (H.set i o) ⟨h',x.os,x.gens⟩ where
 le:=⟨id,id⟩
 rel:=by
  refine S.chg (X:=λr=>r= .obj i) (λp c n=>⟨k p c n,rfl⟩) ⟨id,id⟩ f g (S.len.trans bS.symm) (λ{j n} e=> ?_) .inl rfl (by simp) (by simp) (by simp);by_cases q:i=j
  ·subst q;haveI:=(cD.1 e).1;rw[nq (bS▸this)]at e;rw[←aA e];exact .inl ⟨h,OR.le (σ:=σ) (σ':=⟨σ.ρ,σ.tu,σ.ro,l',σ.mm⟩) (Sg.le.mk id id) l,λp c=>⟨(d p c).1,(d p c).2⟩⟩
  ·have e:=(eJ q)▸e;exact .inr ⟨e,λe=>q (Ro.obj.inj e).symm⟩
theorem Rel.fr_but {d:Addr} {h':Heap} (S:Rel W F σ m H x) {o:Obj} (hd:(d,o)∈σ.l) (a:ie d x.heap h'):Fr W.h₀ F.env.locals h' σ.mm:=S.fr.change a (S.nw _ hd).2.1 (S.nw _ hd).2.2
noncomputable def nJ (σ:Sg) (a:Addr):List (Addr×Obj):=σ.l.filter λp=>p.1 != a
theorem om (a:Addr):∀p∈nJ σ a,p.1≠a:=λp b=>bne_iff_ne.1 (aG.1 b).2
theorem lL {a:Addr} {p} (c:p∈σ.l) (b:p.1≠a):p∈nJ σ a:=aG.2 ⟨c,bne_iff_ne.2 b⟩
theorem Rel.rest (S:Rel W F σ m H x) {p} (a:p∈σ.l):News W.h₀ F.env.locals x.heap (p::nJ σ p.1):=λq b=>(bD.1 b).elim (λe=>e▸S.nw p a) λe=>S.nw q (aG.1 e).1
structure LA (σ:Sg) (i:Nat) (vs:List V) (h:Heap) (a:Addr) (ws:List Value) (n:Nat):Prop where
 ρ:σ.ρ[i]? =V9 a
 g:h.get? a=V9 (gk ws n)
 m:Mem σ (.obj i) (a,gk ws n)
 hl:vs.length<=ic
 v:kb σ vs ws
structure DA (W:Wd) (σ:Sg) (i:Nat) (es:List (V×V)) (h:Heap) (a:Addr) (ob:Obj):Prop where
 ρ:σ.ρ[i]? =V9 a
 g:h.get? a=V9 ob
 m:Mem σ (.obj i) (a,ob)
 hl:es.length<=1000
 h0:W.h₀.get? a=Wa
 d:DR W σ es ob
structure IA (σ:Sg) (i c:Nat) (fs:List (Nat×V)) (h:Heap) (a dx:Addr) (des:List rG) (n:Nat):Prop where
 ρ:σ.ρ[i]? =V9 a
 I:InstAt h a (oV (fJ c) dx) (fJ c) (V9 (dictOf des n))
 m:Mem σ (.obj i) (a,oV (fJ c) dx)
 m':Mem σ (.obj i) (dx,dictOf des n)
 ne:a≠dx
 f:FR σ fs des
 hf:∀p∈fs,(pu c).contains p.1=Wb
def ObV (W:Wd) (σ:Sg) (i:Nat) (h:Heap) (a:Addr) (o:O):Prop:=match o with
 | .list vs=>∃ws n,LA σ i vs h a ws n
 | .dict b=>∃c,DA W σ i b h a c
 | .inst c e=>∃d b n,IA σ i c e h a d b n
theorem NU {h:Heap} {a b:Addr} {o c:Obj} (g:h.get? a=V9 o) (d:h.get? b=V9 c) (n:o≠c):a≠b:=λq=>n (aA (g.symm.trans (q▸d)))
theorem Rel.Fk {i:Nat} {o:O} (S:Rel W F σ m H x) (e:H[i]? =V9 o) {a:Addr} (c:σ.ρ[i]? =V9 a):ObV W σ i x.heap a o:=by
 induction S.ob e with|mk f h b=>
 cases aA (c.symm.trans f);haveI g:=λp d=>S.nw p (b p d).l
 induction h with
 |list d h=>exact⟨_,_,⟨c,(g _ (.head _)).1,b _ (.head _),d,h⟩⟩
 |dict d h=>exact⟨_,⟨c,(g _ (.head _)).1,b _ (.head _),d,(g _ (.head _)).2.2,h⟩⟩
 |inst h k=>haveI d:=(g _ (.head _)).1;haveI j:=(g _ (.tail _ (.head _))).1;exact⟨_,_,_,⟨c,⟨d,rfl,rfl,j⟩,b _ (.head _),b _ (.tail _ (.head _)),NU d j (λe=>(by cases congrArg PW e)),h,k⟩⟩
section
variable {C:Value->Prop} {y:Value} {i:Nat}
@[elab_as_elim] theorem VR.v5 (h:VR σ .none y) (k:C .none):C y:=h.inv.symm▸k
@[elab_as_elim] theorem VR.yZ {b} (h:VR σ (.bool b) y) (k:C (.bool b)):C y:=h.inv.symm▸k
@[elab_as_elim] theorem VR.gq {j} (h:VR σ (.int j) y) (k:∀t,C (.int j t)):C y:=h.inv.elim λt e=>e.symm▸k t
@[elab_as_elim] theorem VR.vf {z} (h:VR σ (.str z) y) (k:∀t,C (.str ⟨z.toArray⟩ t)):C y:=h.inv.elim λt e=>e.symm▸k t
@[elab_as_elim] theorem VR.Ot (h:VR σ (.ref i) y) (k:∀a,σ.ρ[i]? =V9 a->C (.ref a)):C y:=h.inv.elim λa e=>e.1.symm▸k a e.2
@[elab_as_elim] theorem VR.sr {vs} (h:VR σ (.tup vs) y) (k:∀a ws n,(a,qT ws n)∈σ.tu->vs.length<=ic->kb σ vs ws->C (.ref a)):C y:=by induction h.inv with|mk ho hl hv=>exact k _ _ _ ho hl hv
@[elab_as_elim] theorem VR.eRo {vs} (h:VR σ (.ro vs) y) (k:∀a ws n,(a,gk ws n)∈σ.tu->vs.length<=ic->kb σ vs ws->C (.ref a)):C y:=by induction h.inv with|mk ho hl hv=>exact k _ _ _ ho hl hv
@[elab_as_elim] theorem VR.eList {vs} (h:VR σ (.ref i) y) (S:Rel W F σ m H x) (e:H[i]? =V9 (.list vs)) (k:∀a ws n,LA σ i vs x.heap a ws n->C (.ref a)):C y:=
 h.Ot λa ρ=>(S.Fk e ρ).elim λws L=>L.elim λn L=>k a ws n L
@[elab_as_elim] theorem VR.qp {es} (h:VR σ (.ref i) y) (S:Rel W F σ m H x) (e:H[i]? =V9 (.dict es)) (k:∀a ob,DA W σ i es x.heap a ob->C (.ref a)):C y:=
 h.Ot λa ρ=>(S.Fk e ρ).elim λob L=>k a ob L
@[elab_as_elim] theorem VR.B1 {c fs} (h:VR σ (.ref i) y) (S:Rel W F σ m H x) (e:H[i]? =V9 (.inst c fs)) (k:∀a dx des n,IA σ i c fs x.heap a dx des n->C (.ref a)):C y:=
 h.Ot λa ρ=>(S.Fk e ρ).elim λdx L=>L.elim λdes L=>L.elim λn L=>k a dx des n L
end
theorem LA.ws {vs h a ws n} {i:Nat} (L:LA σ i vs h a ws n):ws.length<=ic:=L.v.length▸L.hl
theorem Rel.fW (S:Rel W F σ m H x) {p} (h:p∈σ.tu):x.heap.get? p.1=V9 p.2:=(S.nw p (S.tu h).l).1
theorem get_none (h:Heap):h.get? h.objs.size=Wa:=c5 (aK _)
theorem vY {h h':Heap} (k:∀b o,h.get? b=V9 o->h'.get? b=V9 o):h.get? h'.objs.size=Wa:=by
 induction q:h.get? h'.objs.size with
 |none=>rfl
 |some o=>exact absurd (d5 (k _ _ q)) (cX _)
theorem jE {i:Nat} {a b} (h:σ.ρ.length=i):VR (σ.push i a b) (.ref i) (.ref a):=.ref (h▸g9)
theorem Rel.NT {h':Heap} {D:Addr} {vs ws n} (S:Rel W F σ m H x) (k:∀b o,x.heap.get? b=V9 o->h'.get? b=V9 o) (a:x.heap.get? D=Wa) (b:h'.get? D=V9 (gk ws n)) (c:vs.length<=ic) (e:kb σ vs ws):
  To W F m σ (σ.push H.length D [(D,gk ws n)]) (H++[.list vs]) ⟨h',x.os,x.gens⟩:=S.QP k (λp d=>aD.1 d▸⟨a,b⟩) (.list c e)
theorem ku {h:Heap} {o:Obj}:∀b a,h.get? b=V9 a->(h.push o).get? b=V9 a:=λ_ _ e=>dH _ e
theorem Rel.Kj {vs ws} (S:Rel W F σ m H x) (n:Nat) (a:vs.length<=ic) (b:kb σ vs ws):
  To W F m σ (σ.push H.length x.heap.objs.size [(x.heap.objs.size,gk ws n)]) (H++[.list vs]) ⟨x.heap.push (gk ws n),x.os,x.gens⟩:=S.NT ku (get_none _) (cJ _ rfl) a b
theorem Rel.js {h':Heap} {i:Nat} {a:Addr} {ws vs j n d} {b:List Value} (S:Rel W F σ m H x) (L:LA σ i j x.heap a ws n) (e:Fr W.h₀ F.env.locals h' σ.mm) (f:News W.h₀ F.env.locals h' ((a,gk b d)::nJ σ a)) (g:vs.length<=ic) (h:kb σ vs b):
  To W F m σ ⟨σ.ρ,σ.tu,σ.ro,(a,gk b d)::nJ σ a,σ.mm⟩ (H.set i (.list vs)) ⟨h',x.os,x.gens⟩:=
 S.upd L.ρ e f (λp c n=>.tail _ (lL c λq=>n (q▸L.m.r))) (λp c=>aD.1 c▸⟨.head _,L.m.r⟩) (.list g h)
end
section
variable {W:Wd} {F:Fx} {σ:Sg} {m:En} {H:Hp} {x:Cx}
theorem Rel.role {i:Nat} {a:Addr} (S:Rel W F σ m H x) (h:σ.ρ[i]? =V9 a):σ.ro a= .obj i:=by
 haveI hi:=(cD.1 h).1;obtain⟨o,e⟩:∃o,H[i]? =V9 o:=⟨_,aF (S.len▸hi)⟩;haveI q:=S.Fk e h
 induction o with
 |list _=>exact q.elim λ_ q=>q.elim λ_ L=>L.m.r
 |dict _=>exact q.elim λ_ L=>L.m.r
 |inst _ _=>exact q.elim λ_ q=>q.elim λ_ q=>q.elim λ_ L=>L.m.r
theorem Rel.wI (S:Rel W F σ m H x) {a o b} (h:(a,o)∈σ.tu) (h':(a,b)∈σ.tu):o=b:=aA ((S.fW h).symm.trans (S.fW h'))
theorem BP {c:Value} {ws a:List Value} {n b} (e:({cls:=c,data:=.seq ws.toArray n}:Obj)={cls:=c,data:=.seq a.toArray b}):ws=a:=by injection e with _ _ e _;injection e with e;exact congrArg Array.toList e
theorem LP:¬PV "tuple"=PV "list":=λe=>absurd (V7 e) (by decide)
def VRj (σ:Sg) (x:Value) (v:V):Prop:=match x with
 | .none=>v= .none
 | .bool b=>v= .bool b
 | .int i _=>v= .int i
 | .str s _=>v= .str s.cps.toList
 | .ref a=>(∃vs ws n,v= .tup vs/\(a,qT ws n)∈σ.tu/\kb σ vs ws)\/(∃vs ws n,v= .ro vs/\(a,gk ws n)∈σ.tu/\kb σ vs ws)\/∃i,v= .ref i/\σ.ρ[i]? =V9 a
 |_=>False
theorem VR.N8 {σ v x} (h:VR σ v x):VRj σ x v:=
 VR.casesOn (motive_1:=λv x _=>VRj σ x v) h rfl (λ_=>rfl) (λ_ _=>rfl) (λ_ _=>rfl) (λa _ b=>.inl ⟨_,_,_,rfl,a,b⟩) (λa _ b=>.inr (.inl ⟨_,_,_,rfl,a,b⟩)) (λh=>.inr (.inr ⟨_,rfl,h⟩))
theorem VR.inj (S:Rel W F σ m H x) {v y} (h:VR σ v y):∀{u},VR σ u y->v=u:=
 VR.rec (motive_1:=λv y _=>∀{u},VR σ u y->v=u) (motive_2:=λvs xs _=>∀{a},kb σ a xs->vs=a) (λh=>h.N8.symm) (λ_ _ h=>h.N8.symm) (λ_ _ _ h=>h.N8.symm) (λ_ _ _ h=>h.N8.symm)
  (λb _ _ d _ c=>c.N8.elim (λq=>e3a3 q λ_ _ _ e a h'=>e▸congrArg V.tup (d (BP (S.wI b a)▸h'))) λk=>k.elim (λq=>e3a3 q λ_ _ _ _ a _=>absurd (congrArg PW (S.wI b a)) LP) λq=>e1a2 q λ_ _ e=>nomatch (S.role e).symm.trans (S.tu b).r)
  (λb _ _ d _ c=>c.N8.elim (λq=>e3a3 q λ_ _ _ _ a _=>absurd (congrArg PW (S.wI a b)) LP) λk=>k.elim (λq=>e3a3 q λ_ _ _ e a h'=>e▸congrArg V.ro (d (BP (S.wI b a)▸h'))) λq=>e1a2 q λ_ _ e=>nomatch (S.role e).symm.trans (S.tu b).r)
  (λe _ c=>c.N8.elim (λq=>e3a3 q λ_ _ _ _ a _=>nomatch (S.role e).symm.trans (S.tu a).r) λk=>k.elim (λq=>e3a3 q λ_ _ _ _ a _=>nomatch (S.role e).symm.trans (S.tu a).r) λq=>e1a2 q λ_ b a=>b▸congrArg V.ref (Ro.obj.inj ((S.role e).symm.trans (S.role a))))
  (λh=>(h.symm.inv).symm) (λ_ _ d a _ c=>e2a3 c.symm.inv λ_ _ e h' b=>e▸congr (congrArg List.cons (d h')) (a b.symm)) h
theorem Rel.inj {i j:Nat} {a:Addr} (S:Rel W F σ m H x) (h:σ.ρ[i]? =V9 a) (k:σ.ρ[j]? =V9 a):i=j:=Ro.obj.inj ((S.role h).symm.trans (S.role k))
end
end
section
open PySem.SeqAt
abbrev Ht:Value->Shared->Prop:=λ_ _=>False
abbrev WN {α:Type} (W:Wd) (A:Around) (p:Sem α) (K:α->Shared->Prop) (s:Shared):Prop:=wpAny (model W.prog W.w) A p K Ht s
def KT (W:Wd) (F:Fx) (m:En) (σ:Sg) (Q:V->Hp->Prop) (K:Value->Shared->Prop):Prop:=∀v a σ' b s',To W F m σ σ' a (cx s')->VR σ' v b->Q v a->K b s'
theorem KT.to {W F m σ σ' Q K b e} (k:KT W F m σ Q K) (t:To W F m σ σ' b e):KT W F m σ' Q K:=λv H a c s' d=>k v H a c s' (t.trans d)
structure OX (n:Nat) (A:Around):Prop where
 hh:A.handled=Wa
 hd:A.depth+8*n+8<=990
 hu:A.units+64*n+64<=9900
theorem OX.c {n A} (h:OX n A):A.units+20<cLine:=a9 (kB (a9 (by decide) (eW 64 (64*n))) _) (fE .. ▸h.hu)
theorem jG {b:Type} {o:Option b} {P:b->Prop} (h:qA o P):∃a,o=V9 a/\P a:=by induction o with|none=>exact h.elim|some a=>exact⟨a,rfl,h⟩
theorem lR {v:V} {P:Int->Prop} (h:p9 v P):∃i,v= .int i/\P i:=by cases v with|int i=>exact⟨i,rfl,h⟩|_=>exact h.elim
theorem vO {v:V} {P:V->V->Prop} (h:E8 v P):∃a b,v= .tup [a,b]/\P a b:=by
 cases v with
 |tup vs=>match vs,h with|[a,b],h=>exact⟨a,b,rfl,h⟩
 |_=>exact h.elim
section
variable {A:Around} {s:Shared} {W:Wd} {F:Fx} {σ:Sg} {m:En} {H:Hp} {Q:V->Hp->Prop} {K:Value->Shared->Prop}
theorem KT.int (k:KT W F m σ Q K) (S:Rel W F σ m H (cx s)) {i j:Int} (h:Q (.int i) H) (e:j=i) {t tk}:K (.int j t) {s with toks:=tk}:=k _ H σ _ {s with toks:=tk} S.to (by rw[e];exact .int i t) h
theorem DD {x y:Nat}:Hb x y=((x|||y:Nat):Int):=by
 haveI b:∀z:Int,kh (kh z)=z:=λz=>by simp only[kh];lia
 haveI a:∀z:Nat,¬0<=kh z:=λz=>by simp only[kh];lia
 delta Hb;rw[bitAnd_nn (a x) (a y),b,b,b];rfl
theorem Dd (xs:List Value) (k:Nat):∀a:List Value,D2 (λb c=>b++c) a.toArray (aY k xs.toArray)=(a++(aY k xs).flatten).toArray:=by
 induction k with
 |zero=>exact λa=>congrArg ni (bY a).symm
 |succ k d=>exact λa=>(congrArg (λz=>D2 (λb c=>b++c) z (aY k xs.toArray)) (pE a xs)).trans ((d (a++xs)).trans (congrArg ni (bF ..)))
theorem AA (xs:List Value) (k:Nat):D2 (λa b=>a++b) #[] (aY (if xs.toArray.isEmpty=Wb then 0 else k) xs.toArray)=((aY k xs).flatten).toArray:=by
 induction xs with
 |nil=>exact(congrArg ni (List.flatten_replicate_nil (n:=k))).symm
 |cons x r=>exact Dd (x::r) k []
theorem sz {n k:Nat} (h:n<=k) (a:k<=4000000):n<=gP:=aE h (aE a (by decide))
theorem OD {a b:Nat} (h:a<=iH) (h':b<=iH):a+b<=ic:=aE (fN h h') (by decide)
theorem F9 {a:Type} (xs:List a) (k:Nat):(aY k xs).flatten.length=xs.length*k:=by rw[CB,kI,zw,Nat.mul_comm]
theorem Il {s t:List Nat}:(⟨s.toArray⟩:Str)++(⟨t.toArray⟩:Str)=⟨(s++t).toArray⟩:=congrArg (λa=>(⟨a⟩:Str)) (pE s t)
theorem Sh {i:Int} (h:i.natAbs<1000000000000): -2 ^ 64<i/\i<2 ^ 64:=
 ⟨Em (show(-2 ^ 64:Int)< -((1000000000000:Nat):Int) by decide) (Int.neg_le_of_neg_le (gT (ee (Int.natAbs_neg i▸Ph) (dP.2 h)))),Int.lt_trans (ee Ph (dP.2 h)) (by decide)⟩
theorem nal {j:Int} (a:0<j) (h:j<=1000000):j.natAbs<1073741824:=
 dP.1 (ee (zQ (CE (gT a))) (ee h (by decide)))
theorem EN {j:PM} {a b:V} {x y:Value} (S:Rel W F σ m H (cx s)) (d:VR σ a x) (e:VR σ b y) (h:iJ j a b H Q) (k:KT W F m σ Q K):WN W A (binaryOp (NP j) x y) K s:=by
 induction h with
 |add q=>exact d.gq λ_=>e.gq λ_=>R6 (k.int S q rfl)
 |mul c q=>exact d.gq λ_=>e.gq λ_=>R0 (k.int S q rfl) (c.elim (λc=>IntMulOk.of_left (V3 (Sh c).1 (Sh c).2)) λc=>IntMulOk.of_right (V3 (Sh c).1 (Sh c).2))
 |fdiv f c q=>exact d.gq λ_=>e.gq λ_=>R3 (P5 f) (k.int S q (ww _ (gT f))) (.inl (PyProof.noPylong_small (nal f c)))
 |mod f c q=>exact d.gq λ_=>e.gq λ_=>R1 (P5 f) (k.int S q (Int.fmod_eq_emod_of_nonneg _ (gT f)))
 |pow f c q=>exact d.gq λ_=>e.gq λ_=>RX (by decide) (by decide) (by lia) (k.int S q rfl)
 |shl c q=>exact d.gq λ_=>e.gq λ_=>R2 (dC _) (by lia) (vc) (k.int S q ((Int.one_mul _).trans (Int.natCast_pow 2 _).symm))
 |shr c q=>exact d.gq λ_=>e.gq λ_=>RW (dC _) (k.int S q ((ww _ (gT (Int.pow_pos (by decide)))).trans (by rfl)))
 |bor q=>exact d.gq λ_=>e.gq λ_=>RY (k.int S q DD)
 |band q=>exact d.gq λ_=>e.gq λ_=>R4 (k.int S q (bitAnd_pp (dC _) (dC _)))
 |RC c f q=>exact d.vf λ_=>e.vf λ_=>R5 (λg tk=>k _ _ σ _ {s with toks:=tk} S.to (Il▸.str _ g) q) (sz (fN c f) (by decide))
 |RD i l c f q=>exact d.eList S i λa ws n L=>e.eList S l λb h o g=>PySem.P.add_list L.g g.g (pE ws h▸k _ _ _ _ {s with heap:=_} (S.Kj 0 (aH▸OD c f) (L.v.append g.v)) (jE S.len) q) (sz (fN (L.v.length▸c) (g.v.length▸f)) (by decide))
 |NW i f c q=>refine d.eList S i λa ws n L=>e.gq λ_=>RZ S.fr S.nw L.g (zP (by decide) (dC _)) (ee (dQ.2 f) (by decide)) (aE (L.v.length▸c) (by decide)) λh' h g=> ?_;rw[AA]at g;exact k _ _ _ _ {s with heap:=h'} (S.new (b:=[_]) h g (λp l=>aD.1 l▸get_none _) (.list (F9 _ _▸aE c (by decide)) (L.v.flatten _))) (jE S.len) q
theorem IC {c:PM} {a b:V} {x y:Value} (S:Rel W F σ m H (cx s)) (d:VR σ a x) (e:VR σ b y) (h:lU c a b H Q) (k:KT W F m σ Q K):WN W A (binaryOp (NP c) x y) K s:=by
 induction c with
 |sub=>obtain⟨i,rfl,h⟩:=lR h;obtain⟨j,rfl,h⟩:=lR h;exact d.gq λ_=>e.gq λ_=>RU (k.int S h rfl)
 |_=>exact EN S d e h k
end
end
section
open PySem.SeqAt
noncomputable def Ri (f:V->V->Option Bool) (as bs:List V) (j:Nat):Bool:=match as[j]?,bs[j]? with
 |some a,V9 b=>(f a b).getD Wc
 |_,_=>Wc
structure RO (f:V->V->Option Bool) (as bs:List V) (k:Bool):Prop where
 a:∀(j:Nat) {a b:V},as[j]? =V9 a->bs[j]? =V9 b->f a b=V9 (Ri f as bs j)
 e:k=((aC (min as.length bs.length)).all (Ri f as bs)&&as.length==bs.length)
theorem xm {f:V->V->Option Bool}:∀{as bs:List V} {k:Bool},uY f as bs=V9 k->RO f as bs k:=by
 injection 0 f;intro as
 induction as with
 |nil=>intro bs k h;cases bs<;>exact⟨λj=>nn,(aA h).symm⟩
 |cons a as i=>
  intro bs k h
  induction bs with
  |nil=>exact⟨λj _ _ _=>nn,(aA h).symm⟩
  |cons b bs=>
   dsimp only[uY]at h
   induction c:f a b with
   |none=>haveI h:=(c)▸h;exact nn h
   |some u=>
    induction d:uY f as bs with
    |none=>rw[c,d]at h;exact nn h
    |some w=>
     rw[c,d]at h;refine⟨λj=> ?_,?_⟩
     ·induction j with
      |zero=>intro j l e g;rw[←aA e];rw[←aA g];exact c.trans (congrArg V9 (congrArg (·.getD Wc) c).symm)
      |succ j=>exact λe g=>(i d).a j e g
     ·refine(aA h).symm.trans ?_;rw[(i d).e,dF,dF,Nat.succ_min_succ,List.range_succ_eq_map,l8,List.all_map,show Ri f (a::as) (b::bs) 0=u from congrArg (·.getD Wc) c,Bool.and_assoc];exact congrArg (λz=>u&&(_&&z)) (HR.2 (by simp))
inductive O2 (H:Hp) (f:V->V->Option Bool):V->V->Bool->Prop
 |none:O2 H f .none .none Wb
 |bool {a b}:O2 H f (.bool a) (.bool b) (a==b)
 |int {a b}:O2 H f (.int a) (.int b) (decide (a=b))
 |str {a b}:O2 H f (.str a) (.str b) (decide (a=b))
 |tup {xs ys k} (h:uY f xs ys=V9 k):O2 H f (.tup xs) (.tup ys) k
 |ref {i j xs ys k} (hij:i≠j) (e1:H[i]? =V9 (.list xs)) (e2:H[j]? =V9 (.list ys)) (h:uY f xs ys=V9 k):O2 H f (.ref i) (.ref j) k
theorem B0 {H:Hp} {n:Nat} {a b:V} {k:Bool} (h:g0 H (n+1) a b=V9 k):O2 H (g0 H n) a b k:=by
 injection 0 H n a b k with h
 cases a with
 |none=>cases b with|none=>exact aA (show V9 Wb=V9 k from h)▸.none|_=>exact nn h
 |bool x=>cases b with|bool y=>exact aA (show V9 (x==y)=V9 k from h)▸.bool|_=>exact nn h
 |int x=>cases b with|int y=>exact aA (show V9 (decide (x=y))=V9 k from h)▸.int|_=>exact nn h
 |str x=>cases b with|str y=>exact aA (show V9 (decide (x=y))=V9 k from h)▸.str|_=>exact nn h
 |tup x=>cases b with|tup y=>exact .tup (show uY (g0 H n) x y=V9 k from h)|_=>exact nn h
 |ro _=>exact nn h
 |ref i=>
  cases b with
  |ref j=>
   by_cases q:i=j
   ·exact nn ((if_pos q).symm.trans h)
   ·have h:=(if_neg q).symm.trans h
    induction a:H[i]? with
    |none=>haveI h:=(a)▸h;exact nn h
    |some o=>
     haveI h:=(a)▸h
     induction o with
     |list xs=>
      induction b:H[j]? with
      |none=>haveI h:=(b)▸h;exact nn h
      |some c=>
       haveI h:=(b)▸h
       induction c with
       |list d=>exact .ref q a b h
       |_=>exact nn h
     |_=>exact nn h
  |_=>exact nn h
theorem yS {f:V->V->Option Bool} (a:∀{a k},f a a=V9 k->k=Wb) {as:List V} {k:Bool} (h:uY f as as=V9 k):k=Wb:=by haveI q:=xm h;rw[q.e,P0,beq_self_eq_true,mc,bW];intro j b;haveI e:=aF (aW.1 b);exact a (q.a j e e)
theorem Gj {H:Hp}:∀(n:Nat) {a:V} {k:Bool},g0 H n a a=V9 k->k=Wb:=by
 injection 0 H;intro n
 induction n with
 |zero=>exact nn
 |succ n d=>
  intro a k h;have h:=B0 h;generalize e:a=b at h
  cases h with
  |none=>rfl
  |bool=>rw[e];exact beq_self_eq_true _
  |int=>rw[e];exact decide_eq_true rfl
  |str=>rw[e];exact decide_eq_true rfl
  |tup h=>rw[e];exact yS d h
  |ref c=>rw[e];exact absurd rfl c
end
section
open PySem.SeqAt
structure VX (A:Around) (s:Shared) (x y:Value) (k:Bool):Prop where
 e:EqAt A s x y k
 r:RcAt A s x y k
 n:RcNeAt A s x y (!k)
section
variable {s:Shared} {W:Wd} {F:Fx} {σ:Sg} {m:En} {H:Hp} {A:Around}
theorem xf {a:Type} {l:List a} {j:Nat} (h:j<l.toArray.size):l[j]? =V9 l.toArray[j]:=aF h
theorem items {f:V->V->Option Bool} {P:Value->Value->Bool->Prop} (i:∀{a b k x y},VR σ a x->VR σ b y->f a b=V9 k->P x y k) {vs a:List V} {ws b:List Value} {k:Bool} (m:kb σ vs ws) (l:kb σ a b) (h:RO f vs a k)
  (j:Nat) (e:j<ws.toArray.size) (g:j<b.toArray.size):P ws.toArray[j] b.toArray[j] (Ri f vs a j):=by
 obtain⟨v,c,n⟩:=m.symm.get (xf e);obtain⟨u,d,o⟩:=l.symm.get (xf g);exact i n o (h.a j c d)
theorem Gk (S:Rel W F σ m H (cx s)):∀(n:Nat) {A:Around} {a b:V} {k:Bool} {x y:Value},A.units+n<cLine->VR σ a x->VR σ b y->g0 H n a b=V9 k->VX A s x y k:=by
 intro n
 induction n with
 |zero=>exact nofun
 |succ n I=>
  intro A a b k x y G f g h;haveI E:(A.in1).units+n<cLine:=by rw[DU];lia
  have p:A.units<cLine:=zD ta G;have it:= @items σ (g0 H n) (EqAt A.in1 s) (λf g e=>(I E f g e).e)
  induction B0 h with
  |none=>exact f.v5 (g.v5 ⟨.same _,.none_none,.none_none⟩)
  |bool=>exact f.yZ (g.yZ ⟨.bool_bool _ _,.bool_bool _ _,.bool_bool _ _⟩)
  | @int a b=>exact f.gq λ_=>g.gq λ_=>Bool.beq_eq_decide_eq a b▸⟨.int_int _ _ _ _,.int_int _ _ _ _,.int_int _ _ _ _⟩
  | @str a b=>
   haveI:decide (a=b)=((⟨a.toArray⟩:Str)==(⟨b.toArray⟩:Str)):=by rw[HR];simp
   exact f.vf λ_=>g.vf λ_=>this▸⟨.str_str _ _ _ _,.str_str _ _ _ _,.str_str _ _ _ _⟩
  | @tup as bs k t=>
   refine VR.sr (C:=λx=>VR σ (.tup as) x->VX A s x y k) f (λa ws c v _ j f=> ?_) f;refine VR.sr (C:=λy=>VR σ (.tup bs) y->VX A s (.ref a) y k) g (λb u w i _ e g=> ?_) g;have l:s.heap.IsTuple a ws.toArray:=⟨_,S.fW v,rfl,_,rfl⟩;have o:s.heap.IsTuple b u.toArray:=⟨_,S.fW i,rfl,_,rfl⟩;haveI q:=xm t;haveI d:=q.e;have d:=(j.length)▸d;have d:=(e.length)▸d;have r:RcAt A s (.ref a) (.ref b) k:=d▸RcAt.tuples l o p (it j e q);refine⟨?_,r,d▸RcNeAt.tuples l o p (it j e q)⟩;by_cases z:a=b
   ·subst z;cases VR.inj S f g;rw[yS (λh=>Gj n h) t];exact .same _
   ·exact .of_refs z r
  | @ref i j xs J k v B D t=>
   refine f.eList S B λa ws c L=>g.eList S D λb u w r=> ?_;haveI l:s.heap.IsList a ws.toArray:=⟨_,L.g,rfl,_,rfl⟩;haveI o:s.heap.IsList b u.toArray:=⟨_,r.g,rfl,_,rfl⟩;haveI q:=xm t;haveI d:=q.e;rw[L.v.length,r.v.length]at d;haveI e:RcAt A s (.ref a) (.ref b) k/\RcNeAt A s (.ref a) (.ref b) (!k):=by
    by_cases e:ws.length=u.length
    ·haveI d:k=(aC ws.length).all (Ri (g0 H n) xs J):=by rw[d,e,P0,beq_self_eq_true,mc]
     exact⟨d▸RcAt.lists l o e p (it L.v r.v q),d▸RcNeAt.lists l o e p (it L.v r.v q)⟩
    ·rw[beq_eq_false_iff_ne.2 e,oH]at d;exact d▸⟨.lists_lengths l o (bne_iff_ne.2 e) p,.lists_lengths l o (bne_iff_ne.2 e) p⟩
   exact⟨.of_refs (λz=>v (S.inj L.ρ (z▸r.ρ))) e.1,e.1,e.2⟩
theorem A9 {f:V->Option Bool}:∀{vs:List V} {k:Bool},g6 f vs=V9 k->(∀v∈vs,∃b,f v=V9 b)/\k=vs.any λv=>(f v).getD Wc:=by
 injection 0 f;intro vs
 induction vs with
 |nil=>exact λh=>⟨(λ_ h=>(c8 h).elim),(aA h).symm⟩
 |cons v vs c=>
  intro k h;dsimp only[g6]at h
  induction a:f v with
  |none=>haveI h:=(a)▸h;exact nn h
  |some u=>
   induction b:g6 f vs with
   |none=>rw[a,b]at h;exact nn h
   |some w=>rw[a,b]at h;refine⟨λx d=>(bD.1 d).elim (λq=>⟨u,q▸a⟩) ((c b).1 x),(aA h).symm.trans ?_⟩;rw[jR,a,(c b).2];rfl
open Classical in
noncomputable def back (σ:Sg) (f:V->Option Bool) (y:Value):Bool:=if h:∃v,VR σ v y then(f h.choose).getD Wc else Wc
theorem back_eq (S:Rel W F σ m H (cx s)) (f:V->Option Bool) {v:V} {y:Value} (h:VR σ v y):back σ f y=(f v).getD Wc:=
 haveI q:∃v,VR σ v y:=⟨v,h⟩
 (dif_pos q).trans (by rw[VR.inj S h q.choose_spec])
theorem GY (S:Rel W F σ m H (cx s)) (f:V->Option Bool) {vs:List V} {ws:List Value} (h:kb σ vs ws):ws.any (back σ f)=vs.any λv=>(f v).getD Wc:=by
 induction h with
 |nil=>rfl
 |cons h t a=>rw[jR,jR,back_eq S f h,a]
theorem nX (S:Rel W F σ m H (cx s)) {a:V} {x:Value} (g:VR σ a x) {vs:List V} {ws:List Value} (d:kb σ vs ws) {k:Bool} (h:g6 (g0 H 6 · a) vs=V9 k) (l:A.units+20<cLine):
  (∀y,y∈ws.toArray->EqAt A.in1 s y x (back σ (g0 H 6 · a) y))/\ws.toArray.any (back σ (g0 H 6 · a))=k:=by
 haveI q:=A9 h;refine⟨λy i=> ?_,by rw[q.2,List.any_toArray];exact GY S _ d⟩;obtain⟨j,e⟩:=og.1 (List.mem_toArray.1 i);obtain⟨v,f,r⟩:=d.symm.get e;obtain⟨b,c⟩:=q.1 v (aO f);rw[back_eq S _ r,c];exact(Gk S 6 (by rw[DU];lia) r g c).e
end
end
section
open PySem.SeqAt
inductive G4 (σ:Sg):Option V->Option Value->Prop
 |none:G4 σ Wa Wa
 |some {v x} (h:VR σ v x):G4 σ (V9 v) (V9 x)
section
variable {K:Type} [DecidableEq K] {emb:K->V} {σ:Sg}
theorem Do (p:V×V) (a:List (V×V)) (k:V):gD (p::a) k=if p.1=k then V9 p.2 else gD a k:=by dsimp only[gD,du];by_cases h:p.1=k<;>simp[h]
theorem wA (p:K×Value) (a:List (K×Value)) (k:K):zs (p::a) k=if p.1=k then V9 p.2 else zs a k:=by dsimp only[zs,du];by_cases h:p.1=k<;>simp[h]
theorem ER.get (b:∀a b,emb a=emb b->a=b) {c:List (V×V)} {a:List (K×Value)} (k:K) (h:ER emb σ c a):G4 σ (gD c (emb k)) (zs a k):=by
 induction h with
 |nil=>exact .none
 | @cons p q c a h t d=>
  rw[Do,wA,h.1];by_cases e:q.1=k
  ·rw[if_pos e,if_pos (congrArg emb e)];exact .some h.2
  ·rw[if_neg e,if_neg λz=>e (b _ _ z)];exact d
noncomputable def put (a:List (K×Value)) (k:K) (x:Value):List (K×Value):=match a with
 |[]=>[(k,x)]
 |p::r=>if p.1=k then(p.1,x)::r else p::put r k x
theorem o8 (k:K) (x:Value) {a:List (K×Value)}:(a.map (·.1)).Nodup->stored a k x=put a k x:=by
 induction a with
 |nil=>exact λ_=>rfl
 |cons p r b=>
  intro a;rw[cS,c6]at a;haveI b:=b a.2;dsimp only[put];by_cases e:p.1=k
  ·haveI c:k∉r.map (·.1):=e▸a.1;simp only[stored,jR,e,decide_true,Pi,if_true,cS,map_store_of_not_mem r k x c]
  ·simp only[stored,jR,e,decide_false,xK,if_false,cS,e8]at b⊢;rw[←b];split<;>rfl
theorem ER.put (b:∀a b,emb a=emb b->a=b) {c:List (V×V)} {a:List (K×Value)} (k:K) {v:V} {x:Value} (h:ER emb σ c a) (d:VR σ v x):ER emb σ (jW c (emb k) v) (put a k x):=by
 induction h with
 |nil=>exact .cons ⟨rfl,d⟩ .nil
 | @cons p q c a h t f=>
  dsimp only[jW,Mine.put];by_cases e:q.1=k
  ·rw[if_pos e,if_pos (h.1.trans (congrArg emb e))];exact .cons ⟨h.1,d⟩ t
  ·rw[if_neg e,if_neg λz=>e (b _ _ (h.1.symm.trans z))];exact .cons h f
end
theorem KX (a:List (V×V)) (k v:V):∃p r,jW a k v=p::r/\(p::r).length<=a.length+1:=by
 induction a with
 |nil=>exact⟨_,_,rfl,aK _⟩
 |cons p r b=>
  obtain⟨q,z,e,h⟩:=b;dsimp only[jW];by_cases q:p.1=k
  ·rw[if_pos q];exact⟨_,_,rfl,fY _⟩
  ·rw[if_neg q,e];exact⟨_,_,rfl,eN h⟩
theorem yV (a b:Str) (h:Dm a=Dm b):a=b:=congrArg Str.mk (Array.toList_inj.1 (V.str.inj h))
theorem yX (a b:Int) (h:V.int a=V.int b):a=b:=V.int.inj h
theorem yT (a b:List Int) (h:Gl a=Gl b):a=b:=List.map_inj_right (λ_ _=>V.int.inj) |>.1 (V.tup.inj h)
section
variable {s:Shared} {W:Wd} {F:Fx} {σ:Sg} {m:En} {H:Hp} {A:Around}
inductive zo (W:Wd) (σ:Sg) (es:List (V×V)) (ob:Obj):V->Value->Prop
 |int {i t kvs} (h:ob.IsDictOf (eM W.prog W.w) kvs) (e:ER .int σ es kvs) (ep:G9 ob kvs.length):zo W σ es ob (.int i) (.int i t)
 |str {x:Str} {t kvs} (h:ob.IsDictOf (strKind W.prog W.w) kvs) (e:ER Dm σ es kvs):zo W σ es ob (Dm x) (.str x t)
 |tup {l a ok} {xs:List (List Int×Addr×Value)} {des ep} (h:ob.ExactDict) (hd:ob.data= .dict des ep) (hl:des.toList=xs.map (Mz (l3 (eM W.prog W.w))))
  (hk:∀x∈xs,∃ok,(x.2.1,ok)∈σ.tu/\rI (eM W.prog W.w) x.1 ok) (nd:(xs.map (·.1)).Nodup) (e:ER Gl σ es (kvsOf xs)) (ho:(a,ok)∈σ.tu) (t:rI (eM W.prog W.w) l ok):zo W σ es ob (Gl l) (.ref a)
theorem Ky {l:List V} {ws:List Value} (h:kb σ l ws):(l.all λ| .int i=>decide (0<=i/\i<=1000000)|_=>Wc)=Wb->∃is:List Int,l=is.map .int/\ItemsAre (eM W.prog W.w) is ws:=by
 induction h with
 |nil=>exact λ_=>⟨[],rfl,.nil⟩
 | @cons v x _ _ h t b=>
  intro e;rw[l8,eh]at e;obtain⟨is,a,hi⟩:=b e.2;rw[a]
  cases v with
  |int i=>haveI a:=h.inv.choose_spec;rw[a];exact⟨i::is,rfl,.cons (My _ _ _ _) hi⟩
  |_=>exact(absurd (e.1) ec)
theorem uw {K:Type} [DecidableEq K] {a:KeyKind W.prog W.w K} {b:Obj} (h:b.ExactDict) (hd:b.data= .dict #[] 0):b.IsDictOf a []:=⟨#[],0,h,hd,λe c=>absurd c (Array.not_mem_empty e),.nil,.nil⟩
theorem wc {K:Type} {emb:K->V} {p:V×V} {d c} {k:V} (e:ER emb σ (p::d) c) (h:∀{q},q∈p::d->lJ q.1 k=Wb) (n:∀a,lJ (emb a) k=Wc):False:=by obtain⟨b,_,_,q,_⟩:=e.inv;haveI:=h (.head _);rw[q.1,n]at this;cases this
theorem L6 {j:List (V×V)} {o:Obj} {k:V} {x:Value} (hd:DR W σ j o) (m:VR σ k x) (a:nt j k=Wb):zo W σ j o k x:=by
 injection 0 W σ j o k x with hd m a;rw[nt,eh,bW]at a;obtain⟨l,q⟩:=a;have g:∀{p},p∈j->lJ p.1 k=Wb:=λa=>(cL.1 (q _ a)).2
 cases k with
 |int i=>
  obtain⟨t,k⟩:=m.inv;rw[k]
  induction hd with
  |nil a b=>exact .int (uw a b) .nil ⟨_,b⟩
  |int a b c=>exact .int a b c
  |str a b=>exact(wc b g λ_=>rfl).elim
  |tup _ _ _ _ _ b=>exact(wc b g λ_=>rfl).elim
 |str y=>
  obtain⟨t,k⟩:=m.inv;rw[k];show zo W σ j o (Dm ⟨y.toArray⟩) _
  induction hd with
  |nil a b=>exact .str (uw a b) .nil
  |int a b c=>exact(wc b g λ_=>rfl).elim
  |str a b=>exact .str a b
  |tup _ _ _ _ _ b=>exact(wc b g λ_=>rfl).elim
 |tup vs=>
  induction m.inv with| @mk ws a n i s r=>
  obtain⟨is,k,hi⟩:=Ky (W:=W) r l;rw[k];have tk:rI (eM W.prog W.w) is (qT ws n):=⟨rfl,_,_,rfl,by exact hi⟩
  induction hd with
  |nil a b=>exact .tup (xs:=[]) a b rfl (λ_ h=>(c8 h).elim) .nil .nil i tk
  |int a b c=>exact(wc b g λ_=>rfl).elim
  |str a b=>exact(wc b g λ_=>rfl).elim
  |tup a b c d e f=>exact .tup a b c d e f i tk
 |_=>exact absurd l ec
theorem qU (S:Rel W F σ m H (cx s)) {l:List Int} {a:Addr} {b:Obj} (c:(a,b)∈σ.tu) (t:rI (eM W.prog W.w) l b):IsTupleKey (eM W.prog W.w) s.heap l a:=t.key (S.fW c)
theorem xS (S:Rel W F σ m H (cx s)) {d:Addr} {b:Obj} {xs:List (List Int×Addr×Value)} {a ep} (g:s.heap.get? d=V9 b) (h:b.ExactDict) (hd:b.data= .dict a ep) (f:a.toList=xs.map (Mz (l3 (eM W.prog W.w))))
  (e:∀x∈xs,∃c,(x.2.1,c)∈σ.tu/\rI (eM W.prog W.w) x.1 c) (j:(xs.map (·.1)).Nodup):s.heap.DictOfH (l3 (eM W.prog W.w)) d xs:=⟨b,a,ep,g,h,hd,f,λx i=>(e x i).elim λc q=>qU S q.1 q.2,j⟩
theorem kY (b:∃o,W.h₀.get? iu=V9 o) {a:Addr} (c:W.h₀.get? a=Wa):(a==iu)=Wc:=by
 induction q:(a==iu)with
 |false=>rfl
 |true=>obtain⟨o,b⟩:=b;rw[←beq_iff_eq.1 q,c]at b;exact nn b
theorem ua {v o} (h:G4 σ (V9 v) o):∃x,o=V9 x/\VR σ v x:=by cases h with|some h=>exact⟨_,rfl,h⟩
theorem G4.isSome {a b} (h:G4 σ a b):b.isSome=a.isSome:=by cases h<;>rfl
theorem G4.getD {a b v z} (h:G4 σ a b) (hz:VR σ v z):VR σ (a.getD v) (b.getD z):=by induction h with|none=>exact hz|some h=>exact h
theorem DG (xs:List (List Int×Addr×Value)) (k:List Int):(atKey xs k).map (·.2)=zs (kvsOf xs) k:=(valueAt_kvsOf xs k).symm
inductive Look (W:Wd) (σ:Sg) (s:Shared) (A:Around) (d:Addr) (o:Option V):Value->Prop
 |flat {K:Type} [DecidableEq K] {knd:KeyKind W.prog W.w K} {k:K} {key:Value} {kvs} (is:knd.is k key=Wb) (h:s.heap.DictOf knd d kvs) (r:G4 σ o (zs kvs k)):Look W σ s A d o key
 |tup {l a xs} (u:(l3 (eM W.prog W.w)).room A.in1) (is:IsTupleKey (eM W.prog W.w) s.heap l a) (h:s.heap.DictOfH (l3 (eM W.prog W.w)) d xs) (r:G4 σ o ((atKey xs l).map (·.2))):Look W σ s A d o (.ref a)
theorem pT (S:Rel W F σ m H (cx s)) (o:A.units+20<cLine) {i b a l k x} (D:DA W σ i b s.heap a l) (c:VR σ k x) (n:nt b k=Wb):Look W σ s A a (gD b k) x:=by
 induction L6 D.d c n with
 |int h e _=>exact .flat (My _ _ _ _) (j6.2 ⟨_,D.g,h⟩) (e.get yX _)
 |str h e=>exact .flat (strKind_is _ _ _ _) (j6.2 ⟨_,D.g,h⟩) (e.get yV _)
 |tup h hd d g j e f t=>exact .tup (Mu (by lia)) (qU S f t) (xS S D.g h hd d g j) (DG _ _▸e.get yT _)
end
end
section
open PySem.SeqAt
section
variable {s:Shared} {W:Wd} {F:Fx} {σ:Sg} {m:En} {H:Hp} {A:Around}
def Lw (s:Shared) (Q:Bool->Prop) (K:Value->Shared->Prop):Prop:=∀b tk,Q b->K (.bool b) {s with toks:=tk}
theorem EM {p:Lv} {a b:V} {x y:Value} {Q:Bool->Prop} {K:Value->Shared->Prop} (n:A.units+20<cLine) (i:∃o,W.h₀.get? iu=V9 o) (S:Rel W F σ m H (cx s)) (j:VR σ a x) (l:VR σ b y) (h:lZ p a b H Q) (k:Lw s Q K):
  WN W A (DN (oR p) x y) K s:=by
 haveI o:∀{a:V} {x:Value},VR σ a x->(x== .none)=decide (a= .none):=λh=>by cases h<;>first|exact(decide_eq_true rfl).symm|exact(decide_eq_false (λe=>(by cases e))).symm
 induction h with
 |AC q=>exact l.v5 (wpAny_is_plain (by cases j<;>rfl) (k _ _ ((o j).symm▸q)))
 |mV q=>exact l.v5 (wpAny_isNot_plain (by cases j<;>rfl) (k _ _ ((o j).symm▸q)))
 |Pz e q=>exact l.sr λb ws c d _ g=>have z:=nX S j g e n;in_tupleAt _ ⟨_,S.fW d,rfl,_,rfl⟩ z.1 (k _ _ (z.2.symm▸q))
 |QK e q=>exact l.sr λb ws c d _ g=>have z:=nX S j g e n;notIn_tupleAt _ ⟨_,S.fW d,rfl,_,rfl⟩ z.1 (k _ _ (z.2.symm▸q))
 |inL g e q=>exact l.eList S g λb ws c L=>have z:=nX S j L.v e n;in_listAt _ ⟨_,L.g,rfl,_,rfl⟩ z.1 (k _ _ (z.2.symm▸q))
 |QL g e q=>exact l.eList S g λb ws c L=>have z:=nX S j L.v e n;notIn_listAt _ ⟨_,L.g,rfl,_,rfl⟩ z.1 (k _ _ (z.2.symm▸q))
 |inD g c q=>
  refine l.qp S g λd e D=> ?_
  induction pT S n D j c with
  |flat is h r=>exact wpAny_in_of is (kY i D.h0) h.mapOf (k _ _ (r.isSome▸q))
  |tup u is h r=>exact wpAny_in_heap u is (kY i D.h0) h (k _ _ (by rw[←Cw (f:=(·.2)),r.isSome];exact q))
 |QM g c q=>
  refine l.qp S g λd e D=> ?_
  induction pT S n D j c with
  |flat is h r=>exact wpAny_notIn_of is (kY i D.h0) h.mapOf (k _ _ (r.isSome▸q))
  |tup u is h r=>exact wpAny_notIn_heap u is (kY i D.h0) h (k _ _ (by rw[←Cw (f:=(·.2)),r.isSome];exact q))
theorem sK {l:Lv} {a b:V} {x y:Value} {Q:Bool->Prop} {K:Value->Shared->Prop} (p:A.units+20<cLine) (g:∃o,W.h₀.get? iu=V9 o) (S:Rel W F σ m H (cx s)) (n:VR σ a x) (o:VR σ b y) (h:iy l a b H Q) (k:Lw s Q K):
  WN W A (DN (oR l) x y) K s:=by
 haveI c:∀{P:Int->Int->Prop} (_:p9 a λi=>p9 b λj=>P i j),(∀i j t d,P i j->WN W A (DN (oR l) (.int i t) (.int j d)) K s)->WN W A (DN (oR l) x y) K s:=λ{P} h f=>by obtain⟨i,rfl,c⟩:=lR h;obtain⟨j,rfl,a⟩:=lR c;exact n.gq λt=>o.gq λd=>f i j t d a
 haveI f:=λ{d} e=>Gk S 6 (A:=A) (k:=d) (by omega+splitNatSub) n o e
 induction l with
 |lt=>exact c h λi j t d q=>PySem.P.lt_int (k _ _ q)
 |gt=>exact c h λi j t d q=>PySem.P.gt_int (k _ _ q)
 |ge=>exact c h λi j t d q=>PySem.P.ge_int (k _ _ q)
 |eq=>obtain⟨d,e,q⟩:=jG h;exact(f e).r W.prog W.w _ _ (k _ s.toks q)
 |ne=>obtain⟨d,e,q⟩:=jG h;exact EqBoolInt.of_rcne (f e).n (k _ s.toks q)
 |_=>exact EM p g S n o h k
theorem xc {j:Int} {n k:Nat} (h:idx j n=V9 k):seqIndex? j n=V9 k/\ -(n:Int)<=j/\j<n/\(0<=j->j.toNat=k)/\(j<0->(j+n).toNat=k):=by
 injection 0 j n k with h;unfold idx at h;delta seqIndex?;by_cases c:0<=j
 ·rw[if_pos c]at h;split at h
  ·rw[←aA h];haveI a:¬j<0:=by lia
   haveI b:(decide (0<=j)&&decide (j<(n:Int)))=Wb:=by simp;lia
   simp only[if_neg a,b,if_true];exact⟨trivial,by lia,by lia,λ_=>trivial,by lia⟩
  ·exact nn h
 ·rw[if_neg c]at h;split at h
  ·rw[←aA h];have a:j<0:=by lia
   haveI b:(decide (0<=j+(n:Int))&&decide (j+(n:Int)<(n:Int)))=Wb:=by simp;lia
   simp only[if_pos a,b,if_true];exact⟨trivial,by lia,by lia,by lia,λ_=>trivial⟩
  ·exact nn h
def ox (s:Shared) (x:Value):Prop:=∃T id,typeLookup (.type T) "__getitem__"=pure (V9 (.builtin id))/\s.TypeIs x T
def VQ (σ:Sg) (s:Shared) (Q:V->Prop) (K:Value->Shared->Prop):Prop:=∀v a tk,VR σ v a->Q v->K a {s with toks:=tk}
theorem qq {b:List (V×V)} {a:Obj} (h:DR W σ b a):a.ExactDict:=by induction h with|nil h=>exact h|int h _ _=>exact h.elim λ_ h=>h.elim λ_ h=>h.1|str h _=>exact h.elim λ_ h=>h.elim λ_ h=>h.1|tup h=>exact h
theorem Iy {a b:V} {x y:Value} {Q:V->Prop} {K:Value->Shared->Prop} (E:A.units+20<cLine) (S:Rel W F σ m H (cx s)) (f:VR σ a x) (l:VR σ b y) (h:o7 a b H Q) (k:VQ σ s Q K):
  ox s x/\WN W A (rF x y) K s:=by
 have u:xC a b H Q->ox s x/\WN W A (rF x y) K s:=λh=>by
  induction h with
  | @list H i n xs j v Q g hi u q=>
   refine f.eList S g λd ws c L=>l.gq λt=>⟨⟨"list",_,sf,_,L.g,rfl⟩,?_⟩;obtain⟨z,e,r⟩:=L.v.get u;haveI p:s.heap.IsList d ws.toArray:=⟨_,L.g,rfl,_,rfl⟩;obtain⟨o,B,C,I,J⟩:=xc hi;haveI G:=L.v.length;haveI D:xs.length<=1000000:=L.hl;by_cases w:0<=j
   ·exact wpAny_getItem_list p w (by lia) (x:=z) (by rw[I w];simpa using e) (k _ _ _ r q)
   ·exact wpAny_getItem_list_neg p (by lia) (by simp;lia) (by lia) (x:=z) (by rw[jj,←G,J (by lia)];simpa using e) (k _ _ _ r q)
  |dict g t c q=>
   refine f.qp S g λd o D=>⟨⟨"dict",_,PySem.F.slot_dict_getitem.lookup,o,D.g,(qq D.d).1⟩,?_⟩;haveI z:=pT S E D l t;rw[c]at z
   induction z with
   |flat is h r=>exact(ua r).elim λu e=>wpAny_getItem_of is h.mapOf e.1 (k _ _ _ e.2 q)
   |tup u is h r=>obtain⟨w,e,n⟩:=ua r;obtain⟨p,j,rfl⟩:=cC.1 e;exact wpAny_getItem_heap u is h j (k _ _ _ n q)
  | @str H n z j c Q d hi u q=>obtain⟨o,B,C,_⟩:=xc hi;exact f.vf λt=>l.gq λe=>⟨⟨"str",_,u4.lookup,Mt s _ _⟩,PySem.P.getItem_str (c:=_) (by simp;lia) (by simp[zL,o,u]) (k _ _ _ (.str [_] _) q)⟩
 cases a with
 |tup vs=>obtain⟨j,rfl,h⟩:=lR h;obtain⟨n,g,h⟩:=jG h;obtain⟨v,i,q⟩:=jG h;obtain⟨o,B,C,_⟩:=xc g;refine f.sr λa ws c b p d=>l.gq λt=>⟨⟨"tuple",_,kg.lookup,_,S.fW b,rfl⟩,?_⟩;obtain⟨z,e,r⟩:=d.get i;exact getItem_tuple ⟨_,S.fW b,rfl,_,rfl⟩ (by lia) (by lia) (by rw[jj,←d.length];exact o) (by simpa using e) (k _ _ _ r q)
 |_=>exact u h
theorem Ka (ws:List Value) (j:Nat):l4 ws.toArray Wa (V9 (j:Int)) Wa=(ws.take j).toArray:=by
 injection 0 ws j;by_cases h:j<=ws.length
 ·exact SP ws.toArray j (h)
 ·haveI a:l4 ws.toArray Wa (V9 (j:Int)) Wa=l4 ws.toArray Wa (V9 (ws.length:Int)) Wa:=by
   delta l4;haveI:na Wa (V9 (j:Int)) Wa ws.toArray.size=na Wa (V9 (ws.length:Int)) Wa ws.toArray.size:=by
    dsimp only[na,rJ,jj,u7,true_and];haveI a:¬((j:Int)<0):=(by simp);haveI b:¬((ws.length:Int)<0):=by lia
    rw[if_neg a,if_neg b];haveI:min (j:Int) (ws.length:Int)=(ws.length:Int):=by lia
    simp[this]
   rw[this]
  rw[a];haveI:=SP ws.toArray ws.length (aK _);simp only at this;rw[this,nj (aK _),nj (tw (tu h))]
theorem pick_from (ws:List Value) (j:Nat):l4 ws.toArray (V9 (j:Int)) Wa Wa=(ws.drop j).toArray:=by
 injection 0 ws j;by_cases h:j<=ws.length
 ·exact SQ ws.toArray j (h)
 ·haveI a:l4 ws.toArray (V9 (j:Int)) Wa Wa=l4 ws.toArray (V9 (ws.length:Int)) Wa Wa:=by
   delta l4;haveI:na (V9 (j:Int)) Wa Wa ws.toArray.size=na (V9 (ws.length:Int)) Wa Wa ws.toArray.size:=by
    dsimp only[na,rJ,jj,u7,and_true];haveI a:¬((j:Int)<0):=(by simp);haveI b:¬((ws.length:Int)<0):=by lia
    rw[if_neg a,if_neg b];haveI:min (j:Int) (ws.length:Int)=(ws.length:Int):=by lia
    simp[this]
   rw[this]
  rw[a];haveI:=SQ ws.toArray ws.length (aK _);simp only at this;rw[this,zz (aK _),zz (tw (tu h))]
end
end
section
open PySem.SeqAt
section
variable {s:Shared} {W:Wd} {F:Fx} {σ:Sg} {m:En} {H:Hp} {A:Around} {Q:V->Hp->Prop} {K:Value->Shared->Prop}
noncomputable abbrev i5 (l u st:Value):Obj:={cls:=.type "slice",data:=.fields #[l,u,st]}
noncomputable def jD (c:Cut) (y:Value):Obj:=match c with| .oN=>i5 y .none .none| .D3=>i5 .none y .none
noncomputable abbrev pushS (s:Shared) (o:Obj):Shared:={s with heap:=s.heap.push o}
theorem KY {a:Type} (c:Cut) (j:Nat) (xs:List a):(y2 c j xs).length<=xs.length:=by
 induction c with
 |oN=>exact aE (bT mR) (S3 _ _)
 |D3=>exact aE (bT c9) (ii _ _)
theorem Rn {σ:Sg} (c:Cut) (j:Nat) {xs a} (h:kb σ xs a):kb σ (y2 c j xs) (y2 c j a):=by
 induction c with
 |oN=>exact h.drop j
 |D3=>exact h.take j
theorem slice_list {c:Cut} {a:Addr} {ws n j t} (S:Rel W F σ m H (cx s)) (g:s.heap.get? a=V9 (gk ws n)) (hz:ws.length<=ic)
  (k:K (.ref (s.heap.push (jD c (.int (j:Nat) t))).objs.size) (pushS (pushS s (jD c (.int (j:Nat) t))) (gk (y2 c j ws) 0))):
  ox (pushS s (jD c (.int j t))) (.ref a)/\WN W A (rF (.ref a) (.ref s.heap.objs.size)) K (pushS s (jD c (.int j t))):=by
 refine⟨⟨"list",_,sf,_,ku _ _ g,rfl⟩,?_⟩
 induction c with
 |oN=>exact nv (lo:=V9 (j:Int)) (hi:=Wa) (st:=Wa) ⟨_,ku _ _ g,rfl,_,rfl⟩ (mM _ _ _ _) (.int _ _) .none .none nofun (pick_from ws j▸k) (sz hz (by decide))
 |D3=>exact nv (lo:=Wa) (hi:=V9 (j:Int)) (st:=Wa) ⟨_,ku _ _ g,rfl,_,rfl⟩ (mM _ _ _ _) .none (.int _ _) .none nofun (Ka ws j▸k) (sz hz (by decide))
theorem Bz {c:Cut} {a b:V} {x y:Value} (S:Rel W F σ m H (cx s)) (i:VR σ a x) (o:VR σ b y) (h:rn c a b H Q) (k:KT W F m σ Q K):
  ox (pushS s (jD c y)) x/\WN W A (rF x (.ref s.heap.objs.size)) K (pushS s (jD c y)):=by
 haveI p:∀{c:Cut} {vs ws g t} {j:Nat},kb σ vs ws->vs.length<=ic->Q (.ref H.length) (H++[.list (y2 c j vs)])->g=H->
   K (.ref (s.heap.push (jD c (.int (j:Nat) t))).objs.size) (pushS (pushS s (jD c (.int (j:Nat) t))) (gk (y2 c j ws) 0)):=λ{c vs ws g t j} e d q _=>
  haveI f:Rel W F σ m H (cx (pushS s (jD c (.int (j:Nat) t)))):=S.grow ku
  k _ _ _ _ (pushS (pushS s (jD c (.int (j:Nat) t))) (gk (y2 c j ws) 0)) (f.Kj 0 (aE (KY c j vs) d) (Rn c j e)) (jE S.len) q
 induction h with
 |list g q=>exact i.eList S g λa ws n L=>o.gq λt=>slice_list S L.g L.ws (p L.v L.hl q rfl)
 |ro q=>exact i.eRo λa ws n f d e=>o.gq λt=>slice_list (c:=.D3) S (S.fW f) (e.length▸d) (p e d q rfl)
 | @str H g r Q q=>
  refine i.vf λt=>o.gq λe=>⟨⟨"str",_,u4.lookup,Mt _ _ _⟩,?_⟩;haveI f:Rel W F σ m H (cx (pushS s (i5 .none (.int 1 e) .none))):=S.grow ku;refine wpAny_getItem_str_slice (l:=Wa) (u:=V9 (1,e)) (st:=Wa) ⟨_,cJ _ rfl,rfl,rfl⟩ rfl ?_;have h:slicePicked (⟨(g::r).toArray⟩:Str) Wa (V9 (1,e)) Wa=[0]:=by
   dsimp only[slicePicked,zL,jj,dF,Option.map_none,jX,rJ];haveI:max (0:Int) (min 1 ((r.length:Int)+1))=1:=by rw[Int.min_eq_left (Int.le_add_of_nonneg_left (dC _))];rfl
   simp[S1,sliceRange,this]
  dsimp only[sliceMade];rw[h];have d:∀{t tk},K (.str ⟨[g].toArray⟩ t) {(pushS s (i5 .none (.int 1 e) .none))with toks:=tk}:=k (.str [g]) H σ _ {(pushS s (i5 .none (.int 1 e) .none))with toks:=_} f.to (.str _ _) q
  induction r with
  |nil=>exact d (tk:=s.toks)
  |cons b r=>exact⟨(by decide:(1:Nat)<=gP),d⟩
theorem Iz {a:V} {x:Value} {t:Tok} (S:Rel W F σ m H (cx s)) (c:VR σ a x) (h:E0 a H Q) (k:KT W F m σ Q K):
  ox (pushS s (i5 .none .none (.int (-1) t))) x/\WN W A (rF x (.ref s.heap.objs.size)) K (pushS s (i5 .none .none (.int (-1) t))):=by
 induction h with
 |list g q=>refine c.eList S g λa ws n L=>⟨⟨"list",_,sf,_,ku _ _ L.g,rfl⟩,?_⟩;haveI b:Rel W F σ m _ (cx (pushS s (i5 .none .none (.int (-1) t)))):=S.grow ku;refine nv (lo:=Wa) (hi:=Wa) (st:=V9 (-1)) ⟨_,ku _ _ L.g,rfl,_,rfl⟩ (mM _ _ _ _) .none .none (.int _ _) (by decide) ?_ (sz L.ws (by decide));rw[krv_pick];exact k _ _ _ _ (pushS (pushS s (i5 .none .none (.int (-1) t))) (gk ws.reverse 0)) (b.Kj 0 (aE (bT eT) L.hl) L.v.reverse) (jE S.len) q
inductive xN (H:Hp):V->Bool->Prop
 |none:xN H .none Wc
 |bool {b}:xN H (.bool b) b
 |int {i}:xN H (.int i) (decide (i≠0))
 |list {i xs} (h:H[i]? =V9 (.list xs)):xN H (.ref i) (decide (xs≠[]))
theorem M2 {a:V} {k:Bool} (h:truthy H a=V9 k):xN H a k:=by
 injection 0 H a k with h
 cases a with
 |none=>exact aA (show V9 Wc=V9 k from h)▸.none
 |bool b=>exact aA (show V9 b=V9 k from h)▸.bool
 |int i=>exact aA (show V9 (decide (i≠0))=V9 k from h)▸.int
 |ref i=>
  haveI h:(match H[i]? with|some (.list xs)=>V9 (decide (xs≠[]))|_=>Option.none)=V9 k:=h
  induction e:H[i]? with
  |none=>rw[e]at h;exact nn h
  |some o=>induction o with
   |list xs=>rw[e]at h;exact aA h▸.list e
   |_=>rw[e]at h;exact nn h
 |_=>exact nn (h)
theorem tU {a:V} {x:Value} {k:Bool} {K:Bool->Shared->Prop} (S:Rel W F σ m H (cx s)) (c:VR σ a x) (h:truthy H a=V9 k) (b:∀tk,K k {s with toks:=tk}):
  WN W A (Mv x) K s:=by
 induction M2 h with
 |none=>exact c.v5 (truthy_none (b s.toks))
 |bool=>exact c.yZ (jP (b s.toks))
 | @int i=>exact c.gq λt=>PySem.P.truthy_int ((by by_cases h:i=0<;>simp[h]:decide (i≠0)=(i != 0))▸b s.toks)
 | @list i xs e=>
  refine c.eList S e λa ws n L=>wpAny_truthy_list ⟨_,L.g,rfl,_,rfl⟩ (ee (dQ.2 L.ws) (by decide)) ?_;haveI:(!ws.toArray.isEmpty)=decide (xs≠[]):=by have:=L.v.length;cases xs<;>cases ws<;>first|rfl|cases this
  rw[this];exact b _
end
end
section
open PySem.SeqAt
section
variable {s:Shared} {W:Wd} {F:Fx} {σ:Sg} {m:En} {H:Hp} {A:Around}
theorem int_set {d:Addr} {u:Obj} {f:List (Int×Value)} {i:Int} {t:Tok} {z:Value} {Q:Unit->Shared->Prop} (g:s.heap.get? d=V9 u) (hd:u.IsDictOf (eM W.prog W.w) f) (a:G9 u f.length) (hz:f.length<=1000)
  (v:∀h' b,h'.get? d=V9 b->b.IsDictOf (eM W.prog W.w) (stored f i z)->G9 b (stored f i z).length->ie d s.heap h'->∀tk,Q () {s with heap:=h',toks:=tk}):
  wpAny (model W.prog W.w) A (setItem (.ref d) (.int i t) z) Q Ht s:=by
 injection 0 s W A d u f i t z Q with g hd a hz v;obtain⟨p,ep,x,c,m,k,n⟩:=hd;obtain⟨B,a⟩:=a;rw[c]at a;injection a with _ a;subst a;haveI r:s.TypeIs (.ref d) "dict":=⟨_,g,x.1⟩;haveI hkey:=My W.prog W.w i t;have o:p.size=f.length:=by rw[←k.length];rfl
 refine dD (aI (wpAny_sequenceKey r (by decide) (aI (oy (name:=aX "__setitem__") r O8
  (kc O8 r entry_dict_setitem ?_ (args_dict_setitem _ _ _))))))
 refine aI (wpAny_notOrdered_dict r ?_);show wpAny _ _ (dictSet d (.int i t) z>>= _) _ _ s;refine aI (dD (aI ((eM W.prog W.w).pyHash hkey ?_)));refine dD (aI (wpAny_dictFind_of (s:={s with toks:=s.toks+1}) hkey g c m ?_));haveI q:∀q:rG->Bool,p.toList.findIdx? q=p.findIdx? q:=λq=>by obtain⟨l⟩:=p;simp
 haveI l:(p.findIdx? λe=>(eM W.prog W.w).is i e.key)=f.findIdx? λa=>decide (a.1=i):=by rw[←k.findIdx i,q]
 induction w:p.findIdx? λe=>(eM W.prog W.w).is i e.key with
 |some j=>
  rw[w]at l;haveI h:stored f i z=f.map λa=>if a.1=i then(a.1,z) else a:=by rw[stored,if_pos (any_of_findIdx_some l.symm)]
  refine aI (Mp (aI (wpAny_updateDict (s:={s with toks:=s.toks+1}) g c (wpAny_point (bE ⟨.none,rfl,bE ?_⟩)))));refine v _ _ (fM _ g (DS (sY c _))) ⟨_,_,x.mapDict _,sY c _,m.modify _ _,?_,?_⟩ (by rw[h,aB];exact⟨_,sY c _⟩) (g8 ..) _
  ·rw[h];haveI:=k.modify n (by rw[q];exact w) z
   rwa [Array.toList_modify]
  ·rw[h,keys_map_store];exact n
 |none=>
  rw[w]at l;have j:i∉f.map (·.1):=not_mem_of_findIdx_none l.symm;have h:stored f i z=f++[(i,z)]:=by rw[stored,if_neg];intro h;obtain⟨a,b,e⟩:=List.any_eq_true.1 h;exact j (aM.2 ⟨a,b,of_decide_eq_true e⟩)
  refine aI (Mp (wpAny_updateDictKeys (hz:=by rw[o];simp only[gP];exact tb ‹_›) (s:={s with toks:=s.toks+1}) g c (bE ⟨.none,rfl,bE ?_⟩)));refine v _ _ (fM _ g (DS (oW c _))) ⟨_,_,x.mapDictKeys _,oW c _,m.push hkey _,?_,?_⟩ (by rw[h,aH];exact⟨_,oW c _⟩) (g8 ..) _
  ·rw[h];haveI:=k.append hkey ((eM W.prog W.w).hash i) z
   rwa [Array.toList_push]
  ·rw[h,bV,cA];exact⟨n,by simp,λa C b y e=>by simp at y;cases y;exact j (e▸C)⟩
theorem Dc (v:Value):∀{k:Nat} {l:List Value},k<l.length->ki_setL l k v=V9 (l.set k v):=by
 intro k
 induction k with
 |zero=>intro l h;induction l with|nil=>exact absurd h (eC _)|cons x r=>rfl
 |succ k a=>intro l h;induction l with
  |nil=>exact absurd h (eC _)
  |cons x r=>simp only[ki_setL,a (jp h)];rfl
theorem Rel.Te {x:Cx} {h':Heap} {i:Nat} {d:Addr} {j a:Obj} {b p r k v} (S:Rel W F σ m H x) (D:DA W σ i b x.heap d j) (f:ie d x.heap h') (g:h'.get? d=V9 a) (h:b.length<=900) (e:jW b k v=p::r/\(p::r).length<=b.length+1) (hd:DR W σ (p::r) a):
  To W F m σ ⟨σ.ρ,σ.tu,σ.ro,(d,a)::nJ σ d,σ.mm⟩ (H.set i (.dict (jW b k v))) ⟨h',x.os,x.gens⟩:=
 S.upd D.ρ (S.fr_but D.m.l f) (λq c=>(bD.1 c).elim (λe=>e▸⟨g,(S.nw _ D.m.l).2⟩) λc=>haveI z:=S.rest D.m.l q (.tail _ c);⟨(f.2 _ (om _ q c)).trans z.1,z.2⟩)
  (λp c n=>.tail _ (lL c λq=>n (q▸D.m.r))) (λp c=>aD.1 c▸⟨.head _,D.m.r⟩) (e.1▸.dict (aE e.2 (aE (eN h) (by decide))) hd)
theorem L1 {K:Type} [DecidableEq K] {b:KeyKind W.prog W.w K} {c:Obj} {a} (h:c.IsDictOf b a):(a.map (·.1)).Nodup:=h.elim λ_ h=>h.elim λ_ h=>h.2.2.2.2
theorem EK {a v b:V} {x y z:Value} {Q:Hp->Prop} {K:Unit->Shared->Prop} (X:A.units+20<cLine) (S:Rel W F σ m H (cx s)) (G:VR σ a x) (I:VR σ b y) (C:VR σ v z) (h:rP a b v H Q)
  (k:∀c σ' s',To W F m σ σ' c (cx s')->Q c->K () s'):WN W A (setItem x y z) K s:=by
 injection 0 s W F σ m H A a v b with x y z Q K X S G I C h k
 induction h with
 | @list H i xs v j Q g e q=>refine G.eList S g λa ws n L=>I.gq λt=> ?_;haveI E:xs.length<=1000000:=L.hl;exact ki_set S.fr (S.rest L.m.l) (dC _) (by lia) (Dc z (L.v.length▸e)) (.head (om _)) λh' c d=>k _ _ {s with heap:=h'} (S.js L c d (aE (bT bS) L.hl) (L.v.set C j)) q
 | @dict H i O b v Q g ok E q=>
  refine G.qp S g λd ob D=> ?_;obtain⟨p,r,e⟩:=KX O b v;have u:∀{h' tk c},ie d s.heap h'->h'.get? d=V9 c->DR W σ (p::r) c->K () {s with heap:=h',toks:=tk}:=λ{h' tk c} B w hd=>k _ _ {s with heap:=h',toks:=tk} (S.Te D B w E e hd) q;have n:∀{n:Nat},O.length=n->n<=gP:=λe=>sz (e▸E) (by decide)
  induction L6 D.d I ok with
  |int h j ep=>
   exact int_set D.g h ep (j.length▸aE E (by decide)) λh' c w f o B _=>by rw[o8 _ _ (L1 h)]at f o;exact u B w (.int f (e.1▸j.put yX _ C) o)
  |str h j=>refine wpAny_setItem_pairs (strKind_is _ _ _ _) (j6.2 ⟨_,D.g,h⟩) (λh' o B=> ?_) (n j.length);obtain⟨c,w,f⟩:=j6.1 o;rw[o8 _ _ (L1 h)]at f;exact u B w (.str f (e.1▸j.put yV _ C))
  | @tup l a J xs U ep h hd f R T j P t=>
   refine wpAny_setItem_heap (Mu (by lia)) (qU S P t) (xS S D.g h hd f R T) (λh' o B=> ?_) (n (j.length.trans (aB _)));obtain⟨c,N,o,w,k1,k2,k3,k4,k5⟩:=o;refine u B w (.tup k1 k2 k3 (λx Y=> ?_) k5 ?_)
   ·rcases mem_storedH Y with⟨y,Z,L,M⟩|⟨L,M⟩
    ·exact(R y Z).imp λ_ a=>⟨M▸a.1,L▸a.2⟩
    ·exact⟨J,M▸P,L▸t⟩
   ·rw[kvsOf_storedH,o8 _ _ (by simpa[kvsOf,zR]using T)];exact e.1▸j.put yT _ C
end
end
section
open PySem.SeqAt
section
variable {s:Shared} {W:Wd} {F:Fx} {σ:Sg} {m:En} {H:Hp} {A:Around} {Q:V->Hp->Prop} {K:Value->Shared->Prop}
@[elab_as_elim] theorem eH.e1 {v:V} {xs:List Value} {C:List Value->Prop} (h:kb σ [v] xs) (k:∀y,VR σ v y->C [y]):C xs:=h.one.elim λy q=>q.1.symm▸k y q.2
noncomputable def Fv (k f:Nat):String:=match k with
 |0=>(match f with|0=>"list.append"|1=>"list.extend"|_=>"list.index")
 |1=>"dict.get"
 |_=>"str.index"
theorem VM:mW 0=aX "append":=by decide+kernel
theorem VL:mW 1=aX "extend":=by decide+kernel
theorem RB:mW 2=aX "index":=by decide+kernel
theorem VK:mW 3=aX "get":=by decide+kernel
theorem CP:typeOf (.builtin "list.append")=pure (.type "method_descriptor"):=by rw[iM];kernel_rfl
theorem CN:typeOf (.builtin "list.extend")=pure (.type "method_descriptor"):=by rw[iM];kernel_rfl
theorem ED:typeOf (.builtin "list.index")=pure (.type "method_descriptor"):=by rw[iM];kernel_rfl
theorem MZ:typeOf (.builtin "dict.get")=pure (.type "method_descriptor"):=by rw[iM];kernel_rfl
theorem CM:typeOf (.builtin "str.index")=pure (.type "method_descriptor"):=by rw[iM];kernel_rfl
def Ls (s:Shared) (A:Around) (W:Wd) (x:Value) (f:Nat) (k:Nat):Prop:=∀{a:Sem Bool} {K:Value×List Value->Shared->Prop},K (.builtin (Fv k f),[x]) s->WN W A (rE x (mW f) a) K s
theorem sW {d:Addr} {o:Obj} (g:s.heap.get? d=V9 o) (h:o.dict=Wa):∀a,gY d= .ref a->∃o,s.heap.get? a=V9 o/\o.dict=Wa:=λa e=>⟨o,Value.ref.inj e▸g,h⟩
theorem Dh {f:Nat} {d:Addr} {n:Nat} {ws:List Value} (b:f<3) (g:s.heap.get? d=V9 (gk ws n)):Ls s A W (.ref d) f 0:=by
 intro c K h;haveI a:s.TypeIs (.ref d) "list":=⟨_,g,rfl⟩
 match f,b,h with
 |0,_,h=>rw[VM];exact jQ a lA PySem.F.slot_list_append CP (sW g rfl) h
 |1,_,h=>rw[VL];exact jQ a lA PySem.F.slot_list_extend CN (sW g rfl) h
 |2,_,h=>rw[RB];exact jQ a lA vm ED (sW g rfl) h
theorem Di {d:Addr} {b:Obj} (g:s.heap.get? d=V9 b) (a:b.ExactDict):Ls s A W (.ref d) 3 1:=by intro c K h;rw[VK];exact jQ ⟨_,g,a.1⟩ PySem.F.plainAttrs_dict gQ MZ (sW g a.2.1) h
set_option maxRecDepth 20000 in
theorem F4 {x:Str} {t:Tok}:Ls s A W (.str x t) 2 2:=by intro b K h;rw[RB];exact jQ (Mt s x t) PySem.F.plainAttrs_str PySem.F.slot_str_index CM (λa e=>(by cases e)) h
structure VU (f:V->Option Bool) (vs:List V) (n:Nat):Prop where
 h:∃v,vs[n]? =V9 v/\f v=V9 Wb
 b:∀j,j<n->∃v,vs[j]? =V9 v/\f v=V9 Wc
theorem AJ {f:V->Option Bool}:∀{vs:List V} {n:Nat},qa f vs=V9 n->VU f vs n:=by
 injection 0 f;intro vs
 induction vs with
 |nil=>exact nn
 |cons v vs c=>
  intro n h;dsimp only[qa]at h
  induction e:f v with
  |none=>haveI h:=(e)▸h;exact nn h
  |some b=>
   haveI h:=(e)▸h
   induction b with
   |true=>exact aA h▸⟨⟨v,rfl,e⟩,λj a=>absurd a (eC _)⟩
   |false=>
    obtain⟨r,b,d⟩:=cC.1 h;rw[←d];refine⟨(c b).h,λj a=> ?_⟩
    induction j with
    |zero=>exact⟨v,rfl,e⟩
    |succ j=>exact(c b).b j (jp a)
theorem Cc (S:Rel W F σ m H (cx s)) {vs ws f j b} (g:kb σ vs ws) (e:∃v,vs[j]? =V9 v/\f v=V9 b) (h:j<ws.toArray.size):back σ f ws.toArray[j]=b:=by obtain⟨v,a,c⟩:=e;obtain⟨y,d,r⟩:=g.get a;rw[aA ((xf h).symm.trans d),back_eq S f r,c];rfl
theorem EL {k f:Nat} {o:V} {x:Value} {vs:List V} {xs:List Value} (G:A.units+20<cLine) (l:∃o,W.h₀.get? iu=V9 o) (S:Rel W F σ m H (cx s)) (C:VR σ o x) (E:kb σ vs xs) (h:hY k o f vs H Q) (B:KT W F m σ Q K):
  WN W A (call (.builtin (Fv k f)) (x::xs)) K s:=by
 injection 0 s W F σ m H A Q K k with f o x vs xs G l S C E h B;haveI p:∀{H v a t},H=H->Rel W F σ m H (cx s)->KT W F m σ Q K->VR σ v a->Q v H->K a {s with toks:=t}:=λ{H v a t} _ S B r q=>B _ _ σ _ {s with toks:=t} S.to r q
 induction h with
 |append g r q=>
  exact C.eList S g λa ws n L=>E.e1 λy w=>append_in (own:=[]) (rest:=nJ _ a) S.fr (S.rest L.m.l) (λ_ h=>nomatch h) (om _)
   (λh' c e=>B _ _ _ _ {s with heap:=h'} (S.js L c e (aE (bT aH) (OD r (aJ rfl:[_].length<=iH))) (L.v.append (.cons w .nil))) .none q) (sz L.ws (by decide))
 |extend v g u r t q=>
  exact C.eList S g λa ws n L=>E.e1 λy w=>w.eList S u λb D z d=>extend_in (own:=[]) (rest:=nJ _ a) S.fr (S.rest L.m.l) (λ_ h=>nomatch h) (om _) d.g
   (λh' z c e=>B _ _ _ _ {s with heap:=h'} (S.js L c e (aE (bT aH) (OD r t)) (L.v.append d.v)) .none q) (sz (fN L.ws d.ws) (by decide))
 | @index H i u v j b Q g r t q=>
  refine C.eList S g λa ws n L=>E.e1 λy w=> ?_;haveI I:=AJ t;haveI c:j<ws.length:=by obtain⟨v,e,_⟩:=I.h;exact L.v.length▸(cD.1 e).1
  exact call_meets vm ⟨_,L.g,rfl⟩ PySem.F.entry_list_index (PySem.F.args_list_index_2 _ _)
   (list_indexAt a ws.toArray n Wa #[] _ (back σ (g0 H 6 · v)) j c (ee (dQ.2 (aE (cO c) L.ws)) (by decide)) (Cc S L.v I.h c) λk e d=>Cc S L.v (I.b k d) e)
   ⟨L.g,(nX S w L.v r G).1,p rfl S B (.int _ _) q⟩
 |TO g c q=>
  refine C.qp S g λd j D=>E.e1 λy w=> ?_;have b:s.TypeIs (.ref d) "dict":=⟨_,D.g,(qq D.d).1⟩
  induction pT S G D w c with
  |flat is h r=>exact u2 gQ b iP (vo _ _) (meets_dict_get (hkey:=is) (hd:=kY l D.h0)) ⟨_,h.mapOf,p rfl S B (r.getD .none) q⟩
  |tup u is h r=>exact u2 gQ b iP (vo _ _) (meetsH_dict_get (l3 (eM W.prog W.w)) d _ (kY l D.h0)) ⟨u,_,_,is,h,p rfl S B (r.getD .none) q⟩
 |Q9 g c q=>
  refine C.qp S g λd j D=> ?_;obtain⟨y,z,e,w,hz⟩:=E.two;rw[e];have b:s.TypeIs (.ref d) "dict":=⟨_,D.g,(qq D.d).1⟩
  induction pT S G D w c with
  |flat is h r=>exact u2 gQ b iP (vn _ _ _) (meets_dict_get_default (hkey:=is) (hd:=kY l D.h0) (dflt:=z)) ⟨_,h.mapOf,p rfl S B (r.getD hz) q⟩
  |tup u is h r=>exact u2 gQ b iP (vn _ _ _) (meetsH_dict_get_default (l3 (eM W.prog W.w)) d _ (kY l D.h0) z) ⟨u,_,_,is,h,p rfl S B (r.getD hz) q⟩
 | @ab H c Q a q=>
  refine C.vf λt=>E.e1 λy w=>w.vf λb=>PySem.SC.index (i:=c) (rest:=[]) ?_ (p rfl S B (.int _ _) q)
  match c,a with
  |0,_=>decide+kernel
  |1,_=>decide+kernel
end
end
section
open PySem.SeqAt
theorem insI_perm (i:Int) (l:List Int):(insI i l).Perm (i::l):=by
 induction l with
 |nil=>exact .refl _
 |cons j r a=>
  dsimp only[insI];by_cases h:i<=j
  ·rw[if_pos h]
  ·rw[if_neg h];exact(a.cons j).trans (.swap i j r)
theorem sortI_perm (l:List Int):(sortI l).Perm l:=by
 induction l with
 |nil=>exact .refl _
 |cons i r a=>exact(insI_perm i _).trans (a.cons i)
theorem yC (i:Int) {l:List Int} (h:l.Pairwise (·<=·)):(insI i l).Pairwise (·<=·):=by
 induction h with
 |nil=>exact .cons (λ_ h=>(c8 h).elim) .nil
 | @cons j r b h c=>
  dsimp only[insI];by_cases q:i<=j
  ·rw[if_pos q];exact .cons (λx a=>(bD.1 a).elim (λe=>e▸q) λa=>zP q (b x a)) (.cons b h)
  ·rw[if_neg q];exact .cons (λx a=>(bD.1 ((insI_perm i r).mem_iff.1 a)).elim (λe=>e▸gT (S5.1 q)) (b x)) c
theorem wL (l:List Int):(sortI l).Pairwise (·<=·):=by
 induction l with
 |nil=>exact .nil
 |cons i r a=>exact yC i a
section
variable {s:Shared} {W:Wd} {F:Fx} {σ:Sg} {m:En} {H:Hp} {A:Around} {Q:V->Hp->Prop} {K:Value->Shared->Prop}
theorem ints_cons {v:V} {l:List V} {is:List Int} (h:intsOf (v::l)=V9 is):∃i r,v= .int i/\intsOf l=V9 r/\is=i::r:=by
 cases v with
 |int i=>obtain⟨r,e,a⟩:=cC.1 (show(intsOf l).map (i::·)=V9 is from h);exact⟨i,r,rfl,e,a.symm⟩
 |_=>exact(nn h)
theorem intsAre_of {l:List V} {ws:List Value} (a:kb σ l ws):∀{is:List Int},intsOf l=V9 is->Pe ws is:=by
 induction a with
 |nil=>exact λh=>aA (show V9 []=V9 _ from h)▸.nil
 |cons h t b=>intro is e;obtain⟨i,r,rfl,a,rfl⟩:=ints_cons e;exact h.gq λt=>.cons _ _ (b a)
theorem Er {ws:List Value} {is:List Int} (h:Pe ws is):kb σ (is.map .int) ws:=by
 induction h with
 |nil=>exact .nil
 |cons _ _ _ a=>exact .cons (.int _ _) a
theorem KQ {b:List (V×V)} {a:List (Int×Value)} (h:ER .int σ b a):intsOf (b.map (·.1))=V9 (a.map (·.1)):=by
 induction h with
 |nil=>rfl
 |cons h t c=>rw[cS,cS,h.1];exact congrArg (Bj _) c
theorem B2 {f:List (V×V)} {g:Obj} {is:List Int} (hd:DR W σ f g) (h:intsOf (f.map (·.1))=V9 is):∃d,g.IsDictOf (eM W.prog W.w) d/\d.map (·.1)=is/\G9 g d.length:=by
 have j:∀{p:V×V} {f:List (V×V)} {P:Prop},intsOf ((p::f).map (·.1))=V9 is->(∀i,p.1≠.int i)->P:=λh n=>by obtain⟨i,_,e,_⟩:=ints_cons h;exact absurd e (n i)
 induction hd with
 |nil a b=>exact⟨[],uw a b,aA h,_,b⟩
 |int a b c=>exact⟨_,a,aA ((KQ b).symm.trans h),c⟩
 |str a b=>obtain⟨_,_,_,q,_⟩:=b.inv;exact j h λi e=>nomatch q.1.symm.trans e
 |tup _ _ _ _ _ b=>obtain⟨_,_,_,q,_⟩:=b.inv;exact j h λi e=>nomatch q.1.symm.trans e
def Ctn (s:Shared) (W:Wd) (A:Around) (x:Value) (ns:List Int):Prop:=∀(R:List Value->Shared->Prop),(∀(h':Heap) (tk:Nat) (vs:List Value),(∀b o,s.heap.get? b=V9 o->h'.get? b=V9 o)->Pe vs ns->R vs {s with heap:=h',toks:=tk})->WN W A.in1 (collect x) R s
theorem pc {x:Value} {ns:List Int} (S:Rel W F σ m H (cx s)) (u:Ctn s W A x ns) (c:ns.length<64) (q:Q (.ref H.length) (H++[.list ((sortI ns).map .int)])) (w:KT W F m σ Q K):WN W A (call (.builtin "sorted") [x]) K s:=by
 refine call_function_entry kind_sorted plain_sorted entry_sorted (args_sorted1 _) (aI (m:=checkCount "sorted" 1 1 _) (bE ?_));refine aI (u _ λh' tk vs j h=> ?_);haveI k:vs.length=ns.length:=IntsAre.length h;refine aI (wpAny_newList ?_ (sz (aE (bT k) (cO c)) (by decide)));haveI d:(h'.push (seqObj "list" vs.toArray 0)).get? h'.objs.size=V9 (seqObj "list" vs.toArray 0):=cJ _ rfl;refine aI (dD (kc slot_list_sort ⟨_,d,rfl⟩ entry_list_sort (list_sort_tree d h (k▸c) λout e l p r=>⟨_,rfl,?_⟩) (args_list_sort _)));refine uX λv=> ?_;cases List.Perm.eq_of_pairwise (λa b _ _=>LL) r (wL ns) (p.trans (sortI_perm ns).symm);haveI g:((sortI ns).map V.int).length<=ic:=aE (bT ((aB _).trans (sortI_perm ns).length_eq)) (aE (cO c) (by decide));obtain⟨e,i⟩:=sortedHeap_at (out:=out) d;haveI a:∀b o,s.heap.get? b=V9 o->(sortedHeap (h'.push (seqObj "list" vs.toArray 0)) h'.objs.size vs out).get? b=V9 o:=λb o t=>by haveI a:=j b o t;haveI f:=d5 a;refine(sortedHeap_old (cT f) ?_).trans (dH _ a);exact dy f (by rw[RV];exact dt _)
 refine v ?_;generalize sortedHeap (h'.push (seqObj "list" vs.toArray 0)) h'.objs.size vs out=b at i a;haveI t:=S.NT (h':=b) (ws:=out.toList) (n:=e) a (vY j) i g (Er l);exact bE ⟨_,rfl,w _ _ _ _ {s with heap:=b,toks:=tk} t (jE S.len) q⟩
theorem KF:∀{l:List Value} {ks:List Int},l.length=ks.length->(∀(j:Nat) v,l[j]? =V9 v->∃k,ks[j]? =V9 k/\∃t,v= .int k t)->Pe l ks:=by
 intro l
 induction l with
 |nil=>intro ks h _;induction ks with|nil=>exact .nil|cons _ _=>cases h
 |cons v l a=>
  intro ks h f
  cases ks with
  |nil=>cases h
  |cons k ks=>obtain⟨k',e,t,rfl⟩:=f 0 v rfl;exact aA e▸.cons _ _ (a (He h) λj v e=>f (j+1) v e)
theorem q7 {l:List Int}:∀{x:Int},Ax l=V9 x->x∈l/\∀a∈l,a<=x:=by
 induction l with
 |nil=>exact nn
 |cons i r d=>
  intro x h;unfold Ax at h
  cases e:Ax r with
  |none=>
   rw[e]at h;rw[aA h]
   induction r with
   |nil=>exact⟨.head _,λa b=>zQ (aD.1 b)⟩
   |cons a b=>unfold Ax at e;cases c:Ax b<;>have e:=(c)▸e<;>cases e
  |some m=>
   rw[e]at h;rw[←aA h];haveI q:=d e;by_cases c:m<i
   ·rw[if_pos c];exact⟨.head _,λa b=>(bD.1 b).elim (λe=>zQ e) λb=>zP (q.2 a b) (gT c)⟩
   ·rw[if_neg c];exact⟨.tail _ q.1,λa b=>(bD.1 b).elim (λe=>e▸ed.1 c) (q.2 a)⟩
theorem Qh {n:Nat} (h:n<=ic):(n:Int)<2 ^ 63:=ee (dQ.2 h) (by decide)
theorem dig {i:Nat} (h:i<10):(aX (toString (i:Int)):Str)=⟨[48+i].toArray⟩:=
 (by decide+kernel:∀i:_root_.Fin 10,(aX (toString (i.val:Int)):Str)=⟨[48+i.val].toArray⟩) ⟨i,h⟩
theorem Kk (i:Int):(i.natAbs:Int)=if i<0 then-i else i:=by
 by_cases h:i<0
 ·rw[if_pos h,Int.ofNat_natAbs_of_nonpos (gT h)]
 ·rw[if_neg h,CE (ed.1 h)]
theorem IB {b:Nat} {vs:List V} {xs:List Value} (B:A.handled=Wa) (w:∃o,W.h₀.get? iu=V9 o) (S:Rel W F σ m H (cx s)) (p:kb σ vs xs) (h:io b vs H Q) (f:KT W F m σ Q K):
  WN W A (call (GP b) xs) K s:=by
 injection 0 s W F σ m H A Q K b with vs xs B w S p h f;haveI r:∀{H v a t},H=H->Rel W F σ m H (cx s)->KT W F m σ Q K->VR σ v a->Q v H->K a {s with toks:=t}:=λ{H v a t} _ S f r q=>f _ _ σ _ {s with toks:=t} S.to r q;haveI E:∀{H vs ws c h'},Rel W F σ m H (cx s)->KT W F m σ Q K->vs.length<=ic->kb σ vs ws->Q (.ref H.length) (H++[.list vs])->(∀b a,s.heap.get? b=V9 a->h'.get? b=V9 a)->h'.get? s.heap.objs.size=V9 (gk ws c)->K (.ref s.heap.objs.size) {s with heap:=h'}:=
  λ{H vs ws c h'} S f d v q l o=>f _ _ _ _ {s with heap:=h'} (S.NT l (get_none _) o d v) (jE S.len) q
 induction h with
 |QV g q=>exact p.e1 λy c=>c.eList S g λa ws n L=>call_len_list ⟨_,L.g,rfl,_,rfl⟩ (Qh L.ws) (r rfl S f (L.v.length▸.int _ _) q)
 |QU q=>exact p.e1 λy c=>c.sr λa ws n e d v=>Bf (S.fW e) (S5.2 (Qh (aE (bT v.length.symm) d))) (r rfl S f (v.length▸.int _ _) q)
 |L5 g q=>exact p.e1 λy c=>c.eList S g λa ws n L=>V4 _ (.inl rfl) L.g rfl rfl (λh' h l o=>E S f L.hl L.v q l o) (sz L.ws (by decide))
 |L4 q=>exact p.e1 λy c=>c.sr λa ws n e d v=>V4 _ (.inr rfl) (S.fW e) rfl rfl (λh' h l o=>E S f d v q l o) (sz (aE (bT v.length.symm) d) (by decide))
 |Qe g q=>exact p.e1 λy c=>c.eList S g λa ws n L=>call_tuple_list ⟨_,L.g,rfl,_,rfl⟩ (λh' l=>
   f _ _ _ _ {s with heap:=h'.push (qT ws 0)} (S.QN (λb o e=>ku _ _ (l b o e)) (vY l) (cJ _ rfl)) (.tup (.head _) L.hl (L.v.le Sg.nR)) q) (sz L.ws (by decide))
 |LR g hi t q=>exact p.e1 λy c=>c.eList S g λa ws n L=>pc S (λR u=>O6 _ (.inl rfl) L.g rfl rfl (λh' l=>u h' s.toks _ l (intsAre_of L.v hi)) (sz L.ws (by decide))) t q f
 |LQ hi t q=>exact p.e1 λy c=>c.sr λa ws n e d v=>pc S (λR u=>O6 _ (.inr rfl) (S.fW e) rfl rfl (λh' l=>u h' s.toks _ l (intsAre_of v hi)) (sz (aE (bT v.length.symm) d) (by decide))) t q f
 |LS g hi t q=>refine p.e1 λy c=>c.qp S g λd J D=>pc S (λR u=> ?_) t q f;obtain⟨C,z,l,_⟩:=B2 D.d hi;obtain⟨ep,n⟩:=(j6.2 ⟨J,D.g,z⟩).dictAt;have h:C.length=_:=(aB _).symm.trans (congrArg iS l);refine kdu_collect (kdl_dict (kY w D.h0)) B n (sz (h▸cO t) (by decide)) λh' tk G o e=>u h' tk _ o (KF (by rw[Array.length_toList,e.1,h]) λj v I=> ?_);obtain⟨k,x,L,M⟩:=e.2 j v (by rw[←Array.getElem?_toList];exact I);exact⟨k,by rw[←l,bC,L];rfl,DP M⟩
 |str hi q=>exact p.e1 λy c=>c.gq λt=>PySem.P.str_of_int (dp (Nat.log2_le_self _) (dy hi (by decide))) (r rfl S f (dig hi▸.str _ _) q)
 | @abs H i Q q=>exact p.e1 λy c=>c.gq λt=>call_abs_int λu tk=>r rfl S f (Kk i▸.int _ _) q
 |int q=>exact p.e1 λy c=>c.gq λt=>call_int_int (r rfl S f (.int _ _) q)
 |max g hi e q=>
  exact p.e1 λy c=>c.eList S g λa ws n L=>max_list_N B S.fr S.nw ⟨_,L.g,rfl,_,rfl⟩ (intsAre_of L.v hi) (nk (q7 e).1) λh' M t tk h j k d=>
   f _ _ σ _ {s with heap:=h',toks:=tk} ⟨.rfl,{S with fr:=h,nw:=j}⟩ (LL ((q7 e).2 M k) (d _ (q7 e).1)▸.int _ _) q
end
end
section
open PySem.SeqAt
noncomputable def LU (a:List (Addr×Obj)):Sg:=⟨[],a,λ_=>.tup,[],λ_=>Wa⟩
structure Gd (W:Wd):Prop where
 oJ:W.K.In W.h₀
 oI:W.h₀.NoLimit
 uu:W.h₀.Ns dR W.mg
 DB:W.h₀.Ns ke W.mb
 sys:∃o,W.h₀.get? iu=V9 o
 blt:∀{b x},tabs.blt[b]? =V9 x->W.mg x=Wa/\W.mb x=V9 (GP b)
 rng:W.mg (aX "range")=Wa/\W.mb (aX "range")=V9 (.type "range")
 enu:W.mg (aX "enumerate")=Wa/\W.mb (aX "enumerate")=V9 (.type "enumerate")
 rev:W.mg (aX "reversed")=Wa/\W.mb (aX "reversed")=V9 (.type "reversed")
 fn:∀{f x},tabs.fn[f]? =V9 x->tabs.gfn.contains f=Wb->W.mg x=V9 (.ref (dY f))/\keepIn W.K (.ref (dY f))=Wb
 cls:∀{c x},tabs.cls[c]? =V9 x->W.mg x=V9 (.ref (fJ c))/\keepIn W.K (.ref (fJ c))=Wb
 Q7:∀{g x v},tabs.glob[g]? =V9 x->BX g=V9 v->∃cv,W.mg x=V9 cv/\VR (LU W.pJ) v cv
structure pG (F:Fx):Prop where
 kind:F.env.scope.kind= .function
 glob:F.env.globals=dR
 A3:F.env.builtins=ke
 inj:∀k∈F.nE,∀k'∈F.nE,∀x,F.ns[k]? =V9 x->F.ns[k']? =V9 x->k=k'
 knd:∀k∈F.nE,∀x,F.ns[k]? =V9 x->F.env.kindOf x=V9 .local\/((F.env.kindOf x=V9 .cell\/F.env.kindOf x=V9 .free)/\(F.env.cells.lookup x).isSome=Wb)
 KZ:∀x y c,F.env.cells.lookup x=V9 c->F.env.cells.lookup y=V9 c->x=y
 Pq:∀k∈F.nE,F.ns[k]? ≠V9 wg
 lS:∀x,(F.sc.names.lookup x=V9 .cell\/F.sc.names.lookup x=V9 .free)->(F.env.kindOf x=V9 .cell\/F.env.kindOf x=V9 .free)/\(F.env.cells.lookup x).isSome=Wb
 Pn:∀x,m7 F.sc x=Wb->m7 F.env.scope x=Wb
 ncd:∀x,F.env.kindOf x=V9 .free->(x==aX "__classdict__")=Wc
structure Cn (n:Nat) (F:Fx) (A:Around):Prop where
 f:pG F
 a:OX n A
section
variable {W:Wd} {n:Nat} {Φ:d9}
def KTs (W:Wd) (F:Fx) (m:En) (σ:Sg) (Q:List V->Hp->Prop) (K:List Value->Shared->Prop):Prop:=∀vs a σ' xs s',To W F m σ σ' a (cx s')->kb σ' vs xs->Q vs a->K xs s'
def KB (W:Wd) (F:Fx) (m:En) (σ:Sg) (Q:Bool->Hp->Prop) (K:Bool->Shared->Prop):Prop:=∀b a σ' s',To W F m σ σ' a (cx s')->Q b a->K b s'
theorem KB.to {W F m σ σ' Q K b d} (k:KB W F m σ Q K) (t:To W F m σ σ' b d):KB W F m σ' Q K:=λv H a s' c=>k v H a s' (t.trans c)
def SE (W:Wd) (n:Nat) (Φ:d9) (e:E):Prop:=∀{F a A σ m H s Q K},Cn n F A->mE tabs F.ns e F.sc a=Wb->Rel W F σ m H (cx s)->ej pd Φ e m H Q->KT W F m σ Q K->WN W A (eval a F.env) K s
def DH (W:Wd) (n:Nat) (Φ:d9) (a:Es):Prop:=∀{F b A σ m H s Q K pos},Cn n F A->rS tabs F.ns a F.sc b=Wb->Rel W F σ m H (cx s)->jS pd Φ a m H Q->KTs W F m σ Q K->WN W A (spliced (backTo pos (eG b F.env))) K s
def SB (W:Wd) (n:Nat) (Φ:d9) (b:B):Prop:=∀{F a A σ m H s Q K},Cn n F A->mB tabs F.ns b F.sc a=Wb->Rel W F σ m H (cx s)->m5 pd Φ b m H Q->KB W F m σ Q K->WN W A (isTrue a F.env (eval a F.env)) K s
theorem II:SE W n Φ .none:=λC a S h k=>o5 a λc _ _ h'=>Le h' (wpAny_Constant_none (k _ _ _ _ _ S.to .none h))
theorem IM {b}:SE W n Φ (.bool b):=λC a S h k=>o5 a λc _ _ h'=>B5 h' (LC (k _ _ _ _ _ S.to (.bool _) h))
theorem Nn {b}:SE W n Φ (.int b):=λ{F d A σ m H s Q K} C a S h k=>o5 a λc _ _ h'=>GO h' (Mr (k _ _ σ _ {s with toks:=_} S.to (.int _ _) h))
theorem ES {b}:SE W n Φ (.str b):=λ{F d A σ m H s Q K} C a S h k=>o5 a λc _ _ h'=>GN h' (Constant_str (k _ _ σ _ {s with toks:=_} S.to (.str _ _) h))
section
variable {F:Fx} {σ:Sg} {m:En} {H:Hp} {s:Shared} {A:Around} {K:Value->Shared->Prop}
theorem QW (c:pG F) (S:Rel W F σ m H (cx s)) {x:Str} {d:Value} (h:At F.env σ x d) (k:K d s):WN W A (loadName F.env x) K s:=by
 induction h with
 |loc b a=>exact qC c.kind b S.fr.ns a k
 |lS b e M hd=>haveI a:s.heap.IsCell _ (V9 d):=⟨_,(S.nw _ M.l).1,hd⟩;exact b.elim (λb=>wpAny_loadName_cell c.kind b e a k) λb=>Lz c.kind b e a k (c.ncd _ b)
theorem ot {sc:Scope} {x:Str} (h:m7 sc x=Wb):sc.names.lookup x=V9 .globalImplicit/\(x==aX "__debug__")=Wc:=aL h λa b=>⟨of_decide_eq_true a,il b⟩
theorem pW {E:Value->Shared->Prop} (G:Gd W) (a:pG F) (S:Rel W F σ m H (cx s)) {x:Str} {p:Pos} {b:Value} (d:m7 F.sc x=Wb) (c:W.mg x=V9 b) (k:K b s):wpAny (model W.prog W.w) A (eval (.Name x p) F.env) K E s:=
 haveI q:=ot (a.Pn _ d)
 iv a.kind q.1 (u6 (a.glob▸G.uu.keeps S.fr.keep) c k) q.2
theorem FC (G:Gd W) (a:pG F) (S:Rel W F σ m H (cx s)) {x:Str} {p:Pos} {b:Value} (c:m7 F.sc x=Wb) (h:W.mg x=Wa/\W.mb x=V9 b) (k:K b s):WN W A (eval (.Name x p) F.env) K s:=
 haveI q:=ot (a.Pn _ c)
 iv a.kind q.1 (sZ (a.glob▸G.uu.keeps S.fr.keep) h.1 (a.A3▸G.DB.keeps S.fr.keep) h.2 k) q.2
end
theorem tW {k}:SE W n Φ (.nm k):=λ{F j A σ m H s Q K} C e S h g=>fm e λy p h'=>aL h' λc d=>by
 obtain⟨v,b,q⟩:=jG h
 induction S.en b with|mk i f r a=>
 cases aA (f.symm.trans (of_decide_eq_true c));exact wpAny_Name (QW C.f S a (g _ _ _ _ _ S.to r q)) (il d)
theorem Qn (G:Gd W) {g}:SE W n Φ (.gl g):=λ{F k A σ m H s Q K} C d S h i=>fm d λy p h'=>aL h' λb c=>by obtain⟨v,a,q⟩:=jG h;obtain⟨j,f,r⟩:=G.Q7 (of_decide_eq_true b) a;exact pW G C.f S c f (i _ _ _ _ _ S.to (r.le ⟨λe=>(c8 (aO e)).elim,S.GV⟩) q)
theorem Nr {B a b} (c:SE W n Φ a) (d:SE W n Φ b):SE W n Φ (.bin B a b):=λC z S h k=>MT z λp o q _ h'=>aL h' λA h'=>aL h' λs w=>
 (of_decide_eq_true A)▸wpAny_BinOp (c C s S h λv i f x l t r h=>d C w t.rel h λu j g y m e r' h=>IC e.rel (r.le e.le) r' h ((k.to t).to e))
theorem KT.cmp {W F m σ Q K H s} (k:KT W F m σ Q K) (S:Rel W F σ m H (cx s)):Lw s (λb=>Q (.bool b) H) K:=λb tk q=>k _ _ _ _ {s with toks:=tk} S.to (.bool b) q
theorem Np (G:Gd W) {E a b} (d:SE W n Φ a) (e:SE W n Φ b):SE W n Φ (.cmp E a b):=λC D S h k=>Aa D λp F rs _ h'=>fg h' λo F h'=>fg h' λq rs h'=>aL h' λz h'=>fC z<|aL h' λz h'=>fC z<|
 aL h' λl h'=>aL h' λB h'=>aL h' λw A=>nV l<|
 wpAny_Compare1 (d C w S h λv i f x m t r h=>e C A t.rel h λu j g y s c r' h=>sK C.a.c G.sys c.rel (r.le c.le) r' h (((k.to t).to c).cmp c.rel)) ((of_decide_eq_true l)▸il B)
theorem Nl {a} (c:SE W n Φ a):SE W n Φ (.neg a):=λC g S h k=>Ev g λu p _ h'=>aL h' λj f=>nV j<|
 V0 (c C f S h λv e d x b t r h=>by obtain⟨i,rfl,q⟩:=lR h;exact r.gq λ_=>DQ (k _ _ _ _ {b with toks:=_} t (.int _ _) q))
end
end
section
open PySem.SeqAt
section
variable {W:Wd} {n:Nat} {Φ:d9}
theorem Nt {a b} (f:SE W n Φ a) (g:SE W n Φ b):SE W n Φ (.and a b):=λC o S h k=>Bt o λu l _ h'=>aL h' λw h'=>fg h' λp r h'=>fg h' λq r h'=>aL h' λz h'=>fC z<|aL h' λj m=>nV w<|
 wpAny_And2 (f C j S h λv d i x c t r h=>by
  induction e:truthy d v with
  |none=>haveI h:=(e)▸h;exact h.elim
  |some b=>
   haveI h:=(e)▸h;refine tU t.rel r e λtk=> ?_
   induction b with
   |true=>exact g (s:={c with toks:=tk}) C m t.rel h (k.to t)
   |false=>exact k _ _ _ _ {c with toks:=tk} t r h)
theorem Nm {c a b} (f:SB W n Φ c) (d:SE W n Φ a) (e:SE W n Φ b):SE W n Φ (.ite c a b):=λC r S h k=>Qc r λc p q _ h'=>aL h' λo h'=>aL h' λl m=>
 wpAny_IfExp (f C o S h λb i g j t h=>by
  induction b with
  |true=>exact d C l t.rel h (k.to t)
  |false=>exact e C m t.rel h (k.to t))
theorem pN:DH W n Φ .nil:=λC a S h k=>fC (C:=λb=>WN W _ (spliced (backTo _ (eG b _))) _ _) a (HG (k _ _ _ _ _ S.to .nil h))
theorem pL {p:Expr} {r:List Expr} {env:Env} (h:noStar p=Wb):eG (p::r) env=(Wc,eval p env)::eG r env:=by cases p<;>first|rfl|cases h
theorem lI {e i} (a:SE W n Φ e) (b:DH W n Φ i):DH W n Φ (.cons e i):=λ{F j A σ m H s Q K pos} C w S h k=>
 fg (C:=λj=>WN W A (spliced (backTo pos (eG j F.env))) K s) w λp r h'=>aL h' λu h'=>aL h' λz y=>by rw[pL y];exact u5 (a C u S h λv f c x l t r h=>b C z t.rel h λvs g d xs o q r' h=>k _ _ _ _ _ (t.trans q) (.cons (r.le q.le) r') h)
theorem BA {d} (f:DH W n Φ d):SE W n Φ (.list d):=λC e S h k=>Ib e λg pos h'=>wpAny_List (f C h' S h λvs c b xs a t r h=>
 ⟨sz (aE (bT r.length.symm) h.1) (by decide),k _ _ _ _ {a with heap:=a.heap.push (gk xs 0)} (t.trans (t.rel.Kj 0 (aE h.1 (by decide)) r)) (jE t.rel.len) h.2⟩)
theorem Ng {e} (g:DH W n Φ e):SE W n Φ (.tup e):=λC f S h k=>wC f λi c pos h'=>wpAny_Tuple (g C h' S h λvs d b xs a t r h=>
 ⟨sz (aE (bT r.length.symm) h.1) (by decide),k _ _ _ _ {a with heap:=a.heap.push (qT xs 0)} (t.trans (t.rel.QN ku (get_none _) (cJ _ rfl))) (.tup (.head _) (aE h.1 (by decide)) (r.le Sg.nR)) h.2⟩)
theorem ET:SE W n Φ .kx:=λ{F g A σ m H s Q K} C e S h k=>Ic e λa b pos h'=>aL h' λc d=>fC c<|fC d<|
 wpAny_Dict_empty (k _ _ _ _ {s with heap:=s.heap.push {cls:=.type "dict",data:=.dict #[]}} (S.QP (a:=s.heap.objs.size) ku (λp f=>aD.1 f▸⟨get_none _,cJ _ rfl⟩) (.dict (aP _) (.nil ⟨rfl,rfl,rfl⟩ rfl))) (jE S.len) h)
theorem Nu {b} (g:SB W n Φ b):SB W n Φ (.not b):=λC e S h k=>Ev e λu p _ h'=>aL h' λf h'=>nV f<|
 wpAny_isTrue_Not (g C h' S h λb c a d t h=>k _ _ _ _ t h)
theorem r8 {d:BoolOp} {x y:Expr} {env:Env} {A:Around} {s:Shared} {Q:Bool->Shared->Prop}
  (h:WN W A (isTrue x env (eval x env)) (λb a=>match d,b with
   | .And,Wc=>Q Wc a
   | .Or,Wb=>Q Wb a
   |_,_=>WN W A (isTrue y env (eval y env)) Q a) s):WN W A (allTrue d [x,y] env) Q s:=by
 have c:∀{s},WN W A (isTrue y env (eval y env)) Q s->WN W A (allTrue d [y] env) Q s:=λh=>by refine aI (ek h (λc b a=> ?_) λ_ _ h=>h);cases d<;>cases c<;>exact bE a
 refine aI (ek h (λb a h₁=> ?_) λ_ _ h=>h);cases d<;>cases b<;>first|exact bE h₁|exact c h₁
theorem Nv {a b} (c:SB W n Φ a) (d:SB W n Φ b):SB W n Φ (.and a b):=λC m S h k=>Bt m λu l _ h'=>aL h' λo h'=>fg h' λp r h'=>fg h' λq r h'=>aL h' λz h'=>fC z<|aL h' λi j=>nV o<|
 LB (r8 (c C i S h λb f e g t h=>by
  induction b with
  |true=>exact d C j t.rel h (k.to t)
  |false=>exact k _ _ _ _ t h))
theorem Qp {a b} (c:SB W n Φ a) (d:SB W n Φ b):SB W n Φ (.or a b):=λC m S h k=>Bt m λu l _ h'=>aL h' λo h'=>fg h' λp r h'=>fg h' λq r h'=>aL h' λz h'=>fC z<|aL h' λi j=>nV o<|
 LB (r8 (c C i S h λb f e g t h=>by
  induction b with
  |false=>exact d C j t.rel h (k.to t)
  |true=>exact k _ _ _ _ t h))
theorem KB.cmp {W F m σ Q K H s} {A:Around} (k:KB W F m σ Q K) (S:Rel W F σ m H (cx s)):Lw s (λb=>Q b H) λz s'=>WN W A (Mv z) K s':=λb tk q=>jP (k _ _ _ {s with toks:=tk} S.to q)
theorem Ak (G:Gd W) {E a b} (d:SE W n Φ a) (e:SE W n Φ b):SB W n Φ (.cmp E a b):=λC D S h k=>Aa D λp F rs _ h'=>fg h' λo F h'=>fg h' λq rs h'=>aL h' λz h'=>fC z<|aL h' λz h'=>fC z<|
 aL h' λl h'=>aL h' λB h'=>aL h' λw A=>nV l<|
 wpAny_isTrue_Compare1 (d C w S h λv i f x m t r h=>e C A t.rel h λu j g y s c r' h=>sK C.a.c G.sys c.rel (r.le c.le) r' h (((k.to t).to c).cmp c.rel)) ((of_decide_eq_true l)▸il B)
set_option tactic.hygienic true in
theorem Qo {e} (j:SE W n Φ e):SB W n Φ (.tr e):=λ{F l A σ m H s Q K} C g S h k=>aL g λi f=>
 wpAny_isTrue_value (j C f S h λv d c x a t r h=>by
  obtain⟨b,e,q⟩:=jG h;exact tU t.rel r e λtk=>k _ _ _ {a with toks:=tk} t q) (by
  clear h k f g;cases l<;>first|rfl|(cases i;done)|skip
  rename_i a x pos
  cases a<;>first|rfl|cases i)
theorem IP (G:Gd W) {T g a b c} (D:SE W n Φ a) (E:SE W n Φ b) (I:SE W n Φ c):SB W n Φ (.Gv T g a b c):=λ{F pe A σ m H s Q K} C hm S h k=>
 Aa hm λp U rs _ h'=>fg h' λo U h'=>fg h' λq rs h'=>fg h' λd U h'=>fg h' λq' rs h'=>aL h' λz h'=>fC z<|aL h' λz h'=>fC z<|
 aL h' λho h'=>aL h' λB h'=>aL h' λhb h'=>aL h' λl h'=>aL h' λX h'=>aL h' λY Z=>by
 rw[←of_decide_eq_true ho];cases of_decide_eq_true B;rw[arm_isTrue_Compare];haveI e:markedEach [oR T,oR g] [q,q'] (evalEach [q,q'] F.env)=[eval q F.env,eval q' F.env]:=by simp only[evalEach,markedEach,DM (il hb),DM (il l)]
 rw[e];refine aI (D C X S h λv O L x V t r h=> ?_);refine aI (dD (E C Y t.rel h λu P M y d j r' h=>aI (fQ (aI (dD (sK C.a.c G.sys j.rel (r.le j.le) r' h λb tk h=> ?_))))));refine aI (wpAny_release (aI (dD (jP ?_))))
 induction b with
 |false=>exact bE (k _ _ _ {d with toks:=tk} (t.trans j) h)
 |true=>
  exact aI (dD (I (s:={d with toks:=tk}) C Z j.rel h λw R N z i f J h=>aI (fQ (aI (RQ (sK C.a.c G.sys f.rel (r'.le f.le) J h λb tk h=>
   dD (jP (k _ _ _ {i with toks:=tk} ((t.trans j).trans f) h))))))))
end
end
section
open PySem.SeqAt
structure VW (W:Wd) (c a:Nat):Prop where
 get:HB W.K (fJ c) (mW a)=Wb
 dict:hasDictIn W.K (fJ c)=Wb
 find:findIn W.K (.ref (fJ c)) (mW a)=V9 Wa
 set:findIn W.K (.ref (fJ c)) "__setattr__"=V9 (V9 (.builtin "object.__setattr__"))
 over:plainOver W.K (fJ c)=Wb
 tak:takerIn W.K (fJ c) (mW a)=V9 Wa
structure VS (W:Wd) (c a g:Nat):Prop where
 get:HB W.K (fJ c) (mW a)=Wb
 find:findIn W.K (.ref (fJ c)) (mW a)=V9 (V9 (.ref (dY g)))
 fn:isFn W.K (.ref (dY g))=Wb
 keep:keepIn W.K (.ref (dY g))=Wb
structure VT (W:Wd) (c f:Nat):Prop where
 makes:Pa W.K (fJ c)=Wb
 find:findIn W.K (.ref (fJ c)) "__init__"=V9 (V9 (.ref (dY f)))
 fn:isFn W.K (.ref (dY f))=Wb
structure Gc (W:Wd):Prop where
 fld:∀{c a},(pu c).contains a=Wb->VW W c a
 mth:∀{c a g},meths c a=V9 g->VS W c a g
 mak:∀{c x f},tabs.cls[c]? =V9 x->F0 c=V9 f->VT W c f
 NZ:Pa W.K (fJ 9)=Wb/\findIn W.K (.ref (fJ 9)) "__init__"=V9 (V9 (.builtin "object.__init__"))
 VN:∀{c a b},(pu c).contains a=Wb->mW a=mW b->a=b
structure sv (n:Nat) (A:Around):Prop where
 hh:A.handled=Wa
 hd:A.depth+8*n<=986
 hu:A.units+64*n+32<=9900
theorem OX.k {n A} (h:OX n A):sv n A:=⟨h.hh,by haveI:=h.hd;lia,by haveI:=h.hu;lia⟩
section
variable {W:Wd} {n:Nat} {Φ:d9}
def xD (W:Wd) (n:Nat) (Φ:d9):Prop:=∀{F m A σ H s f vs xs Q K},pG F->sv n A->Rel W F σ m H (cx s)->kb σ vs xs->Φ f vs H Q->KT W F m σ Q K->
 ly (model W.prog W.w) A (.call (.ref (dY f)) ⟨xs,[]⟩) (λr s'=>∃a,r= .ok (.ret a)/\K a s') s
theorem xD.call (h:xD W n Φ) {F m A σ H s f vs xs Q K} (b:pG F) (a:sv n A) (S:Rel W F σ m H (cx s)) (d:kb σ vs xs) (c:Φ f vs H Q) (k:KT W F m σ Q K):WN W A (PT (.ref (dY f)) xs) K s:=
 jn (Ed (h b a S d c k) λr s' ⟨g,e,q⟩=>by rw[e];exact q)
theorem qi {d a:Expr} {pos:Pos} {env:Env} {A:Around} {s:Shared} {K:Value->Shared->Prop} (m:∀o i,∃l,subscripted a Wc o i=operate l (rF o i))
  (h:WN W A (eval d env) (λo f=>WN W A (eval a env) (λi c=>ox c o/\WN W A (rF o i) K c) f) s):WN W A (eval (.Subscript d a pos) env) K s:=by
 rw[eval_Subscript];refine aI (ek h (λo f h₁=>aI (dD (ek h₁ (λi c b=>aI (fQ ?_)) λ_ _ x=>x))) λ_ _ x=>x);obtain⟨⟨T,id,l,j⟩,b⟩:=b;haveI n:=m o i;haveI e:=n.choose_spec;refine aI ?_;rw[getitemInPython_of_ne j.not_modules];refine aI (pB j l ?_);refine bE (aI ?_);rw[e];exact(RQ (ek b (λr k g=>aI (Hw (bE g))) λ_ _ x=>x))
theorem Ni {a b} (d:SE W n Φ a) (e:SE W n Φ b):SE W n Φ (.sub a b):=λC z S h k=>tj z λp j _ h'=>aL h' λB h'=>aL h' λs D=>
 qi (λo i=>by clear h' z s;cases j<;>first|exact⟨_,rfl⟩|cases D) (d C B S h λv m i x A t r h=>e C s t.rel h λu o l y c g r' h=>
  Iy C.a.c g.rel (r.le g.le) r' h λw E tk f q=>k _ _ _ _ {c with toks:=tk} (t.trans g) f q)
theorem Aj {lo hi st p} (o i:Value):∃l,subscripted (.Slice lo hi st p) Wc o i=operate l (rF o i):=by cases st<;>exact⟨_,rfl⟩
theorem IH {a b} (c:SE W n Φ a) (d:SE W n Φ b):SE W n Φ (.xZ a b):=λ{F E A σ m H s Q K} C D S h k=>tj D λp j _ h'=>z3 h' λlo hi st _ h'=>wD h' λlo h'=>aL h' λz h'=>wE z<|aL h' λz h'=>wE z<|aL h' λw B=>
 qi Aj (c C w S h λv i f x o t r h=>by refine Hx ?_;rw[Cr];refine d C B t.rel h λu l g y q e r' h=> ?_;rw[Ct];exact bE (bE (Bz e.rel (r.le e.le) r' h ((k.to t).to e))))
theorem IF {a b} (c:SE W n Φ a) (d:SE W n Φ b):SE W n Φ (.wN a b):=λ{F E A σ m H s Q K} C D S h k=>tj D λp j _ h'=>z3 h' λlo hi st _ h'=>wD h' λhi h'=>aL h' λz h'=>wE z<|aL h' λz h'=>wE z<|aL h' λw B=>
 qi Aj (c C w S h λv i f x o t r h=>by refine Hx ?_;rw[Ct];refine bE ?_;rw[Cr];exact d C B t.rel h λu l g y q e r' h=>bE (Bz e.rel (r.le e.le) r' h ((k.to t).to e)))
theorem IG {a} (e:SE W n Φ a):SE W n Φ (.EO a):=λ{F q A σ m H s Q K} C l S h k=>tj l λp j _ h'=>z3 h' λlo hi st _ h'=>wD h' λst h'=>aL h' λz h'=>wE z<|aL h' λz h'=>wE z<|Ev h' λu c _ h'=>aL h' λh' i=>aL h' λo d=>nV o<|o5 d λc _ _ d=>GO d<|
 qi Aj (e C i S h λv g f x b t r h=>by refine Hx ?_;rw[Ct];refine bE (bE ?_);rw[Cr];exact V0 (Mr (DQ (Iz (s:={b with toks:=b.toks+1+1}) t.rel r h (k.to t)))))
set_option tactic.hygienic true in
theorem Cb {p:Expr} {b:Str} {env:Env} {a:Sem Value} (h:sS p=Wb):sC p b env a=a:=by
 cases p<;>try rfl
 rename_i f as ks pos
 cases f<;>try rfl
 cases as<;>cases ks<;>first|rfl|cases h
theorem AM (G:Gc W) {σ:Sg} {c a:Nat} {d:List (Nat×V)} {b:List rG} (h:FR σ d b):(∀p∈d,(pu c).contains p.1=Wb)->∃o,getL (mW a) b=V9 o/\G4 σ (pv d a) o:=by
 induction h with
 |nil=>exact λ_=>⟨Wa,rfl,.none⟩
 | @cons p e d b h t m=>
  intro i;obtain⟨⟨tk,h⟩,r⟩:=h;by_cases q:p.1=a
  ·have f:e.key.isStr (mW a)=Wb:=by rw[h,q];exact beq_self_eq_true _
   have g:pv (p::d) a=V9 p.2:=by simp only[pv,du,beq_iff_eq.2 q];rfl
   exact⟨V9 e.val,by simp only[getL,du,f],g▸.some r⟩
  ·have f:e.key.isStr (mW a)=Wc:=by rw[h];exact beq_eq_false_iff_ne.2 λq'=>q (G.VN (i p (.head _)) q')
   have j:e.refKey=Wc:=by delta DictEntry.refKey;rw[h]
   haveI g:pv (p::d) a=pv d a:=by simp only[pv,du,beq_eq_false_iff_ne.2 q]
   haveI k:getL (mW a) (e::b)=getL (mW a) b:=by simp only[getL,du,f,jR,j,xK]
   rw[g,k];exact m λp l=>i p (.tail _ l)
theorem VR.handed {σ:Sg} {v:V} {x:Value} (h:VR σ v x):handedIn x=Wb:=by cases h<;>rfl
theorem Bb {a:Nat} {x:Str} (h:ph tabs.attr a x=Wb):mW a=x:=congrArg (·.getD (aX "")) (of_decide_eq_true h)
theorem No (G:Gd W) (g:Gc W) {o a} (M:SE W n Φ o):SE W n Φ (.fld o a):=λ{F R A σ m H s Q K} C E S h k=>oh E λp y pos h'=>aL h' λI h'=>aL h' λJ w=>by
 rw[←Bb J];show WN _ _ (do
  let o ←sC p (mW a) F.env (eval p F.env)
  standAt pos.atName
  let r ←holding [o] (getAttr o (mW a) Wb)
  letTemporaryGo p o r
  pure r) _ _
 rw[Cb w];refine aI (M C I S h λv i f x b t r h=>aI (fQ (aI (dD ?_))))
 induction h with|mk e B D q=>
 refine r.B1 t.rel e λd O l P L=>(uX λN=> ?_);haveI z:=g.fld B;obtain⟨o,u,c⟩:=AM g L.f L.hf;have c:=(D)▸c;obtain⟨x,rfl,j⟩:=ua c;exact N (get_own t.rel.fr G.oJ L.I z.get z.dict z.find rfl u j.handed (aI (Hw (bE (k _ _ _ _ {b with toks:=_} t j q)))))
theorem zi {N ns sc} {pos:Pos} {env:Env} {b:List Expr}:∀{a:Es},rS N ns a sc b=Wb->(backTo pos (eG b env)).any (·.1)=Wc/\(backTo pos (eG b env)).all (λx=> !x.1)=Wb:=by
 induction b with
 |nil=>exact λ_=>⟨rfl,rfl⟩
 |cons p r c=>
  intro a h
  cases a with
  |nil=>cases h
  |cons e a=>refine aL (show(mE N ns e sc p&&(rS N ns a sc r&&noStar p))=Wb from h) λ_ h=>aL h λh b=> ?_;rw[pL b];exact c h
theorem xk {ns sc} {pos:Pos} {env:Env} {A:Around} {s:Shared} {f:Value} {b:Es} {a:List Expr} {K:Args->Shared->Prop} {E:Value->Shared->Prop} (c:rS tabs ns b sc a=Wb)
  (h:wpAny (model W.prog W.w) A (spliced (backTo pos (eG a env))) (λvs s'=>K ⟨vs,[]⟩ s') E s):wpAny (model W.prog W.w) A (evalArgs f Wb (backTo pos (eG a env)) []) K E s:=by
 cases b with
 |nil=>
  induction a with
  |cons=>cases c
  |nil=>exact λb p a=>evalArgs_nil3 (A:=A) (E:=E) (show K ⟨[],[]⟩ s from h b p a) b p a
 |cons e b=>
  induction a with
  |nil=>cases c
  |cons p r=>refine aL (show(mE tabs ns e sc p&&(rS tabs ns b sc r&&noStar p))=Wb from c) λ_ h'=>aL h' λ_ a=> ?_;rw[pL a]at h⊢;exact evalArgs_plain h
def PJ (W:Wd) (P:Heap->Prop) (f:Value):Prop:=∀h,P h->∃k,(k=Keeper.frame\/k=Keeper.machine\/k=Keeper.boundFrame)/\Looks (model W.prog W.w) h (keeperOf f) k
theorem fS {ns sc} {pos:Pos} {env:Env} {A:Around} {s:Shared} {f:Value} {a:List Value} {d:Es} {b:List Expr} {K:Value->Shared->Prop} {E:Value->Shared->Prop} {P:Heap->Prop} (c:rS tabs ns d sc b=Wb) (e:PJ W P f)
  (h:wpAny (model W.prog W.w) A (spliced (backTo pos (eG b env))) (λvs s'=>P s'.heap/\wpAny (model W.prog W.w) A (call f (a++vs)) K E s') E s):wpAny (model W.prog W.w) A (SX pos f a (backTo pos (eG b env)) []) K E s:=
 callWith_of (by rw[(zi c).1];rfl) e (xk c h)
theorem pY {f:Value} (b:∀a,f≠.ref a):PJ W (λ_=>True) f:=λh _=>⟨.machine,.inr (.inl rfl),wt (by cases f<;>first|rfl|exact absurd rfl (b _))⟩
theorem jy {x:Str} {p pos:Pos} {b:List Expr} {env:Env} {A:Around} {s:Shared} {K:Value->Shared->Prop} {E:Value->Shared->Prop}
  (h:wpAny (model W.prog W.w) A (eval (.Name x p) env) (λf a=>wpAny (model W.prog W.w) A (SX pos f [] (backTo pos (eG b env)) []) K E a) E s):wpAny (model W.prog W.w) A (eval (.Call (.Name x p) b [] pos) env) K E s:=
 show wpAny _ _ (eval (.Name x p) env>>= λf=>SX pos f [] (backTo pos (eG b env)) (HA pos (xF [] env))) _ _ _ from aI h
theorem kr (G:Gd W) {F σ m H x} (S:Rel W F σ m H x):W.K.In x.heap:=G.oJ.keeps S.fr.keep
theorem IK (G:Gd W) (P:xD W n Φ) {f g} (o:DH W n Φ g):SE W n Φ (.call f g):=λC l S h k=>ip l λp q ks pos h'=>fm h' λy _ h'=>aL h' λz h'=>fC z<|aL h' λm h'=>aL h' λj h'=>aL h' λb a=>
 haveI e:=G.fn (of_decide_eq_true m) j
 jy (pW G C.f S b e.1 (fS (P:=W.K.In) a (λh X=>zv e.2 h X) (o C a S h λvs d c xs i t r h=>⟨kr G t.rel,P.call C.f C.a.k t.rel r h (k.to t)⟩)))
theorem Lj (b:Nat) (a:Addr):GP b≠.ref a:=by
 match b with
 |0|1|2|3|4|5|6|7=>exact(λh=>by cases h)
 |_+8=>exact(λh=>by cases h)
theorem Nq (G:Gd W) {b f} (l:DH W n Φ f):SE W n Φ (.blt b f):=λC i S h k=>ip i λp m ks pos h'=>fm h' λy _ h'=>aL h' λz h'=>fC z<|aL h' λj h'=>aL h' λc a=>
 jy (FC G C.f S c (G.blt (of_decide_eq_true j)) (fS a (pY (Lj b)) (l C a S h λvs e d xs g t r h=>⟨trivial,IB C.a.hh G.sys t.rel r h (k.to t)⟩)))
end
end
section
open PySem.SeqAt
section
variable {W:Wd} {n:Nat} {Φ:d9}
theorem Rel.QO {F σ m H x c} {a d:Addr} {h':Heap} (S:Rel W F σ m H x) (i:Fr W.h₀ F.env.locals h' σ.mm) (j:News W.h₀ F.env.locals h' ((a,oV (fJ c) d)::(d,dictOf [] 0)::σ.l)) (f:∀p∈σ.l,p.1<d) (k:d<a):
  To W F m σ (σ.push H.length a [(a,oV (fJ c) d),(d,dictOf [] 0)]) (H++[.inst c []]) ⟨h',x.os,x.gens⟩:=
 S.QQ (b:=[_,_]) i j (λp g q=>(bD.1 q).elim (λ(e:p.1=a)=>cX a (dy (e▸f p g) k)) λq=>cX d ((aD.1 q:p.1=d)▸f p g)) (.inst .nil (λ_ h=>(c8 h).elim))
theorem Nk (G:Gd W) (B:Gc W) (P:xD W n Φ) {c O} (Z:DH W n Φ O):SE W n Φ (.new c O):=λ{F pe A σ m H s Q K} C Y S h k=>ip Y λp ps ks pos h'=>fm h' λy _ h'=>aL h' λz h'=>fC z<|aL h' λU h'=>aL h' λJ o=>
 have e:=G.cls (of_decide_eq_true U)
 jy (pW G C.f S J e.1 (fS (P:=W.K.In) o (λh X=>zv e.2 h X) (Z C o S h λvs j i xs a t r h=>⟨kr G t.rel,by
  cases h with
  |init R q=>
   haveI z:=B.mak (of_decide_eq_true U) R;refine call_cls t.rel.fr G.oJ t.rel.nw z.makes z.find z.fn λx l h' w D f g=> ?_;haveI L:=t.rel.QO w D f g;haveI T:=VR.le (σ':=i.push j.length x [(x,oV (fJ c) l),(l,dictOf [] 0)]) .rfl (jE (b:=[(x,oV (fJ c) l),(l,dictOf [] 0)]) t.rel.len);haveI I:=C.a;refine Ed (P (s:={a with heap:=h'}) (K:=λE s'=>E= .none/\K (.ref x) s') C.f ⟨I.hh,?_,?_⟩ L.rel (.cons T (r.le L.le)) q λv N M E V d u q=> ?_) λr s' ⟨E,e,d,q⟩=> ?_
   ·show A.depth+1+8*n<=986;haveI:=I.hd;lia
   ·show A.units+1+64*n+32<=9900;haveI:=I.hu;lia
   ·rcases q with⟨rfl,q⟩;exact⟨u.inv,k _ _ _ _ _ ((t.trans L).trans d) (T.le d.le) q⟩
   ·rw[e];rw[d];exact⟨rfl,q⟩
  |bare R d q=>cases d;rw[r.inv];exact call_cls0 t.rel.fr G.oJ t.rel.nw B.NZ.1 B.NZ.2 λx l h' w D f g=>k _ _ _ _ {a with heap:=h'} (t.trans (t.rel.QO w D f g)) (jE t.rel.len) q⟩)))
theorem BN {ns sc} {p:Expr} {x:Str} {f pos:Pos} {k:Es} {b:List Expr} {env:Env} {A:Around} {s:Shared} {j:Value} {K:Value->Shared->Prop} (i:rS tabs ns k sc b=Wb) (m:b.length<29) (n:(f.endLine==pos.line)=Wb)
  (h:∀a,WN W A (rE j x a) (λe c=>∃P:Heap->Prop,PJ W P e.1/\WN W A (spliced (backTo pos (eG b env))) (λvs s'=>P s'.heap/\WN W A (call e.1 (e.2++vs)) K s') c) s):
  WN W A (Mw p x f pos env j (b.length+([]:List Keyword).length) (backTo pos (eG b env)) (HA pos (xF [] env))) K s:=by
 haveI g:SV (b.length+([]:List Keyword).length) (backTo pos (eG b env)) (HA pos (xF [] env))=Wb:=by rw[SV,(zi i).2,g7];exact decide_eq_true (show b.length+0+0<30 from dy m (by decide))
 delta Mw;rw[g];refine aI (dD ?_);simp only[if_true];refine ek (h _) (λe c a=> ?_) λ_ _ h=>h;obtain⟨P,l,a⟩:=a;haveI d:V2 Wb p env f pos=pure pos:=by delta V2;rw[n];rfl
 rw[d];exact aI (bE (fS (P:=P) i l a))
theorem v4 {ns sc} {p:Expr} {x:Str} {d pos:Pos} {g:Es} {b:List Expr} {env:Env} {A:Around} {s:Shared} {K:Value->Shared->Prop} (i:sS p=Wb) (k:rS tabs ns g sc b=Wb) (j:b.length<29) (l:(d.endLine==pos.line)=Wb)
  (h:WN W A (eval p env) (λe a=>∀h,WN W A (rE e x h) (λf c=>∃P:Heap->Prop,PJ W P f.1/\WN W A (spliced (backTo pos (eG b env))) (λvs s'=>P s'.heap/\WN W A (call f.1 (f.2++vs)) K s') c) a) s):
  WN W A (eval (.Call (.Attribute p x d) b [] pos) env) K s:=by
 show WN _ _ (do
  let e ←sC p x env (eval p env)
  standAt d.atName
  Mw p x d pos env e (b.length+([]:List Keyword).length) (backTo pos (eG b env)) (HA pos (xF [] env))) _ _
 rw[Cb i];exact aI (ek h (λe a h₁=>aI (fQ (BN k j l h₁))) λ_ _ h=>h)
set_option maxRecDepth 20000 in
theorem IJ (G:Gd W) (M:Gc W) (P:xD W n Φ) {o f E} (I:SE W n Φ o) (N:DH W n Φ E):SE W n Φ (.cM o f E):=λ{F pe A σ m H s Q K} C Z S h k=>
 ip Z λp ps ks pos h'=>oh h' λp y ap h'=>aL h' λz h'=>fC z<|aL h' λhx h'=>aL h' λho h'=>aL h' λj h'=>aL h' λT h'=>aL h' λY hp=>by
 rw[←Bb hx];refine v4 T j (of_decide_eq_true Y) hp (I C ho S h λv B u x c t r h pl=> ?_);have own:∀{k':Nat} {v:V} {x:Value},Ls c A W x f k'->VR u v x->jS pd Φ E m B (λvs H=>hY k' v f vs H Q)->WN W A (rE x (mW f) pl) (λd b=>∃P:Heap->Prop,PJ W P d.1/\WN W A (spliced (backTo pos (eG ps F.env))) (λvs s'=>P s'.heap/\WN W A (call d.1 (d.2++vs)) K s') b) c:=
  λg r h=>g ⟨λ_=>True,pY (by simp),N C j t.rel h λvs D w xs b i r' h=>⟨trivial,EL C.a.c G.sys i.rel (r.le i.le) r' h ((k.to t).to i)⟩⟩
 induction h with
 |inst e l U q=>
  refine r.B1 t.rel e λd dx O nn L=> ?_;have z:=M.mth U;obtain⟨o,R,J⟩:=AM M (a:=f) L.f L.hf;have J:=(l)▸J;have:o=Wa:=by cases J;rfl
  cases this;exact method_inst t.rel.fr G.oJ L.I z.get z.find z.fn R ⟨W.K.In,λh X=>zv z.keep h X,N C j t.rel q λvs D w xs b i r' h=>
   ⟨kr G i.rel,P.call C.f C.a.k i.rel (.cons (VR.le i.le (.ref L.ρ)) r') h ((k.to t).to i)⟩⟩
 |list e l q=>exact r.eList t.rel e λd ws nn L=>own (Dh l L.g) (.ref L.ρ) q
 |dict e l q=>cases l;exact r.qp t.rel e λd b D=>own (Di D.g (qq D.d)) (.ref D.ρ) q
 |str l q=>cases l;exact r.vf λtk=>own F4 (.str _ tk) q
end
end
section
open PySem.SeqAt
theorem v2 {m:En} {k k':Nat} {v a:V} (h:getM (setM m k v) k'=V9 a):(k'=k/\a=v)\/(k'≠k/\getM m k'=V9 a):=by
 injection 0 m k k' v a with h;unfold getM setM at h;by_cases q:k=k'
 ·subst q;by_cases b:k<m.length
  ·rw[nq b]at h;exact .inl ⟨rfl,(aA h).symm⟩
  ·rw[bQ (l:=m.set k (V9 v)) (aE (bT bS) (kS.1 b))]at h;exact nn h
 ·rw[eJ q]at h;exact .inr ⟨λe=>q e.symm,h⟩
section
variable {W:Wd} {n:Nat} {Φ:d9} {F:Fx} {σ:Sg} {m:En} {H:Hp} {A:Around} {s:Shared} {x:Cx}
theorem Rel.st {m':En} {h':Heap} {l':List (Addr×Obj)} {a:Str->Option Value} (S:Rel W F σ m H x) (h:∀p∈σ.l,σ.ro p.1≠.cell->p∈l') (f:Fr W.h₀ F.env.locals h' a) (g:News W.h₀ F.env.locals h' l')
  (en:∀{k v},getM m' k=V9 v->zq F ⟨σ.ρ,σ.tu,σ.ro,l',a⟩ k v) (lS:∀{x c},x≠wg->F.env.cells.lookup x=V9 c->zr ⟨σ.ρ,σ.tu,σ.ro,l',a⟩ c):To W F m' σ ⟨σ.ρ,σ.tu,σ.ro,l',a⟩ H ⟨h',x.os,x.gens⟩:=
 have k:Kp (·= .cell) σ ⟨σ.ρ,σ.tu,σ.ro,l',a⟩:=λp c q=>⟨h p c q,rfl⟩
 {le:=⟨id,id⟩
  rel:={fr:=f,nw:=g,len:=S.len,ob:=λe=>(S.ob e).kp k (by simp) ⟨id,id⟩,tu:=λe=>(S.tu e).kp k (by simp),en:=en,lS:=lS,fw:=S.fw.kp k λ_ _=>(by simp),GV:=S.GV,os:=S.os,gs:=S.gs}}
theorem VR.re {v b l' a} (h:VR σ v b):VR ⟨σ.ρ,σ.tu,σ.ro,l',a⟩ v b:=VR.le (σ:=σ) (σ':=⟨σ.ρ,σ.tu,σ.ro,l',a⟩) ⟨id,id⟩ h
theorem store {k:Nat} {x:Str} {v:V} {B:Value} {K:Unit->Shared->Prop} (i:pG F) (S:Rel W F σ m H (cx s)) (t:k∈F.nE) (w:F.ns[k]? =V9 x)
  (u:F.env.kindOf x≠V9 .free) (G:VR σ v B) (I:∀h' tk σ',To W F (setM m k v) σ σ' H ⟨h',s.os,s.gens⟩->K () {s with heap:=h',toks:=tk}):WN W A (storeName F.env x B) K s:=by
 injection 0 W F σ m H A s k x v with B K i S t w u G I;injection 0 B K with i S t w u G I;have h:∀{k' a},k'∈F.nE->k'≠k->F.ns[k']? =V9 a->a≠x:=λa d l q=>d (i.inj _ a k t x (q▸l) w);rcases i.knd k t x w with q|⟨E,O⟩
 ·refine wpAny_storeName_local q S.fr.ns (λh' b f=>I h' _ ⟨σ.ρ,σ.tu,σ.ro,σ.l,λz=>if z=x then V9 B else σ.mm z⟩ (S.st (λp a _=>a) (S.fr.set b f) (S.nw.set f) (λe=> ?_) λn e=> ?_)) (by rw[i.kind];rfl)
  ·rcases v2 e with⟨rfl,rfl⟩|⟨d,e⟩
   ·exact⟨t,w,G.re,.loc q (if_pos rfl)⟩
   ·cases S.en e with|mk a g r l=>
    refine⟨a,g,r.re,?_⟩
    induction l with
    |loc n j=>exact .loc n ((if_neg (h a d g)).trans j)
    |lS n j M hd=>exact .lS n j ⟨M.l,M.r⟩ hd
  ·induction S.lS n e with|mk M hd=>exact⟨⟨M.l,M.r⟩,hd⟩
 ·haveI E:F.env.kindOf x=V9 .cell:=E.resolve_right u;obtain⟨c,b⟩:=cW.1 O;injection 0 c with b
  induction S.lS (λe=>i.Pq k t (e▸w)) b with| @mk o _ M hd=>
  refine wpAny_storeName_cell i.kind E b ⟨o,(S.nw _ M.l).1,hd⟩ (λh' a f=> ?_);obtain⟨J,L,C⟩:=a;have D:∀{p},Mem σ .cell p->p.1≠c->Mem ⟨σ.ρ,σ.tu,σ.ro,(c,J)::nJ σ c,σ.mm⟩ .cell p:=λM n=>⟨.tail _ (lL M.l n),M.r⟩;haveI N:Mem ⟨σ.ρ,σ.tu,σ.ro,(c,J)::nJ σ c,σ.mm⟩ .cell (c,J):=⟨.head _,M.r⟩;refine I h' s.toks _ (S.st (l':=(c,J)::nJ σ c) (λp a n=>.tail _ (lL a λq=>n (q▸M.r))) (S.fr_but M.l f) (λq a=> ?_) (λe=> ?_) λ{y d} n e=> ?_)
  ·exact(bD.1 a).elim (λe=>e▸⟨L,(S.nw _ M.l).2⟩) λa=>haveI z:=S.rest M.l q (.tail _ a);⟨(f.2 _ (om _ q a)).trans z.1,z.2⟩
  ·rcases v2 e with⟨rfl,rfl⟩|⟨d,e⟩
   ·exact⟨t,w,G.re,.lS (.inl E) b N C⟩
   ·cases S.en e with|mk a g r l=>
    refine⟨a,g,r.re,?_⟩
    induction l with
    |loc n j=>exact .loc n j
    |lS n j z p=>exact .lS n j (D z λl=>h a d g (i.KZ _ x c (l▸j) b)) p
  ·by_cases q:d=c
   ·rw[q];exact⟨N,C⟩
   ·induction S.lS n e with|mk z p=>exact⟨D z q,p⟩
inductive SK (σ:Sg):Fl->Flow->Prop
 |next:SK σ .next .next
 |cont:SK σ .cont .cont
 |ret {v cv} (h:VR σ v cv):SK σ (.ret v) (.ret cv)
def KS (W:Wd) (F:Fx) (σ:Sg) (Q:Fl->En->Hp->Prop) (K:Flow->Shared->Prop):Prop:=∀fl m' a σ' f s',To W F m' σ σ' a (cx s')->SK σ' fl f->Q fl m' a->K f s'
theorem KS.to {m' σ' Q K b d} (k:KS W F σ Q K) (t:To W F m' σ σ' b d):KS W F σ' Q K:=λfl m H a f s' c=>k fl m H a f s' (t.trans c)
structure Cs (n:Nat) (F:Fx) (A:Around):Prop extends Cn n F A where
 nf:∀{x},F.env.kindOf x=V9 .free->∀k∈F.nE,F.ns[k]? ≠V9 x
def SS (W:Wd) (n:Nat) (Φ:d9) (st:S):Prop:=∀{F a A σ m H s Q K},Cs n F A->mS tabs F.ns F.sc F.nE st a=Wb->Rel W F σ m H (cx s)->wpS pd Φ st m H Q->KS W F σ Q K->WN W A (exec a F.env) K s
def Ck (W:Wd) (n:Nat) (Φ:d9) (st:Ss):Prop:=∀{F a A σ m H s Q K},Cs n F A->zF tabs F.ns F.sc F.nE st a=Wb->Rel W F σ m H (cx s)->eQ pd Φ st m H Q->KS W F σ Q K->WN W A (execs a F.env) K s
theorem Io:Ck W n Φ .nil:=λC a S h k=>fC (C:=λb=>WN W _ (execs b _) _ _) a (kQ (k _ _ _ _ _ _ S.to .next h))
theorem EI {st r} (v:SS W n Φ st) (a:Ck W n Φ r):Ck W n Φ (.cons st r):=λ{F e A σ m H s Q K} C j S h k=>fg (C:=λe=>WN W A (execs e F.env) K s) j λp q h'=>aL h' λl o=>
 d7 (v C l S h λfl d c b f g t i h=>by
  induction i with
  |next=>exact a C o t.rel h (k.to t)
  |cont=>exact k _ _ _ _ _ _ t .cont h
  |ret u=>exact k _ _ _ _ _ _ t (.ret u) h)
theorem ur (a:pG F):interactive F.env=Wc:=by delta interactive;rw[a.kind];rfl
theorem M8 {e} (f:SE W n Φ e):SS W n Φ (.ret e):=λC d S h k=>wz d λo pos h'=>wD h' λp h'=>u0 (f C.toCn h' S h λv b a y c t r h=>k _ _ _ _ _ _ t (.ret r) h)
theorem Ir:SS W n Φ .E1:=λC a S h k=>wz a λo pos h'=>wE h' (wpAny_Return_none (k _ _ _ _ _ _ S.to (.ret .none) h))
theorem Iu:SS W n Φ .cont:=λC a S h k=>HW a λpos=>wpAny_Continue (k _ _ _ _ _ _ S.to .cont h)
theorem Na {c a b} (f:SB W n Φ c) (d:Ck W n Φ a) (e:Ck W n Φ b):SS W n Φ (.ite c a b):=λC s S h k=>zX s λp q r pos h'=>aL h' λo h'=>aL h' λl m=>
 SO (f C.toCn o S h λb i g j t h=>by
  induction b with
  |true=>exact d C l t.rel h (k.to t)
  |false=>exact e C m t.rel h (k.to t))
end
end
section
open PySem.SeqAt
section
variable {W:Wd} {n:Nat} {Φ:d9}
theorem xW {a:Expr} {t:Option Expr} {l:Nat} {env:Env} (h:Fs a=Wb):rD a t l env=pure Wc:=by cases a<;>first|rfl|cases h
theorem It {e} (j:SE W n Φ e):SS W n Φ (.expr e):=λC i S h k=>Bq i λp pos h'=>aL h' λf g=>
 Mq (j C.toCn g S h λv c b y d t r h=>by
  have a:=λq=>k _ _ _ _ _ _ t .next q
  cases v with
  |none=>exact r.v5 (a h)
  |bool _=>exact r.yZ (a h)
  |int _=>exact r.gq λ_=>a h
  |str _=>exact r.vf λ_=>a h
  |_=>exact h.elim) (ur C.f) (xW f)
theorem mem_of {vs:List Nat} {k:Nat} (h:vs.contains k=Wb):k∈vs:=dZ.1 h
theorem Nc {k e} (j:FV e=Wc) (q:SE W n Φ e):SS W n Φ (.asg k e):=λC o S h s=>qN o λl p pos h'=>fg h' λa r h'=>aL h' λz h'=>fC z<|fm h' λy _ h'=>aL h' λi h'=>aL h' λg h'=>aL h' λc m=>
 O7 (q C.toCn m S h λv f d y b t r h=>store C.f t.rel (mem_of g) (of_decide_eq_true i) (λe=>C.nf e _ (mem_of g) (of_decide_eq_true i)) r λh' tk σ' u=>s _ _ _ _ _ {b with heap:=h',toks:=tk} (t.trans u) .next h)
  (xW (by haveI c:=(j)▸c;exact c))
theorem tD {a q:Expr} {x:Str} {p:Pos} {l:Nat} {env:Env}:rD a (V9 (.Attribute q x p)) l env=pure Wc:=by cases a<;>rfl
theorem CS {a q j:Expr} {p:Pos} {l:Nat} {env:Env}:rD a (V9 (.Subscript q j p)) l env=pure Wc:=by cases a<;>rfl
theorem Ip {o i e} (m:SE W n Φ o) (k:SE W n Φ i) (P:SE W n Φ e):SS W n Φ (.i6 o i e):=λC N S h Q=>qN N λl p pos h'=>fg h' λa r h'=>aL h' λz h'=>fC z<|tj h' λq j _ h'=>aL h' λR h'=>aL h' λO h'=>aL h' λhi M=>
 wpAny_Assign_Subscript (P C.toCn M S h λv E s y I t r h=>m C.toCn O t.rel h λu F A z J c d h=>k C.toCn hi c.rel h λw G B x K b f h=>
  EK C.a.c b.rel (d.le b.le) f ((r.le c.le).le b.le) h λH D L g h=>Q _ _ _ _ _ _ (((t.trans c).trans b).trans g) .next h) CS
theorem gX {a:Type} {A:Around} {p:Sem a} {K:a->Shared->Prop} {E:Value->Shared->Prop} {s:Shared} (h:WN W A p K s):wpAny (model W.prog W.w) A p K E s:=ek h (λ_ _ h=>h) λ_ _ h=>(by cases h)
theorem EJ {c b} (q:SB W n Φ c) (o:Ck W n Φ b):SS W n Φ (.kU c b):=λ{F O A σ m H s Q K} C L S h x=>Qa L λp N r pos h'=>aL h' λz h'=>fC z<|aL h' λI G=>by
 obtain⟨k,h⟩:=h;refine wpAny_While (codeAny_whileLoop (λj s'=>∃m' a σ',qL (λm H Q=>m5 pd Φ c m H Q) (λm H Q=>eQ pd Φ b m H Q) j m' a Q/\To W F m' σ σ' a (cx s')) ?_ (n:=k) ⟨m,H,σ,h,S.to⟩);rintro j B ⟨y,v,t,h₁,a⟩
 induction j with
 |zero=>cases h₁
 |succ j=>
  refine gX (q C.toCn I a.rel h₁ λb w u D d h=> ?_)
  induction b with
  |false=>exact kQ (x _ _ _ _ _ _ (a.trans d) .next h)
  |true=>exact gX (o C G d.rel h λfl l i g f E e J h=>by
    induction J with
    |next=>exact⟨j,dt j,l,i,g,h,(a.trans d).trans e⟩
    |cont=>exact⟨j,dt j,l,i,g,h,(a.trans d).trans e⟩
    |ret M=>exact x _ _ _ _ _ _ ((a.trans d).trans e) (.ret M) h)
end
end
section
open PySem.SeqAt
section
variable {W:Wd} {n:Nat} {Φ:d9}
theorem Og (l:Gc W) {σ:Sg} {c a:Nat} {v:V} {x:Value} {i:Int} {tk:Tok} (k:VR σ v x) {f:List (Nat×V)} {b:List rG} (h:FR σ f b):(∀p∈f,(pu c).contains p.1=Wb)->FR σ (cE f a v) (putL (mW a) i (.str (mW a) tk) x b):=by
 induction h with
 |nil=>exact λ_=>.cons ⟨⟨_,rfl⟩,k⟩ .nil
 | @cons p e f b h t n=>
  intro j;obtain⟨⟨d,g⟩,r⟩:=h;dsimp only[cE,putL];by_cases q:p.1=a
  ·have h:e.key.isStr (mW a)=Wb:=by rw[g,q];exact beq_self_eq_true _
   rw[if_pos q,if_pos h];exact .cons ⟨⟨d,q▸g⟩,k⟩ t
  ·have h:¬e.key.isStr (mW a)=Wb:=by rw[g];exact λq'=>q (l.VN (j p (.head _)) (beq_iff_eq.1 q'))
   rw[if_neg q,if_neg h];exact .cons ⟨⟨d,g⟩,r⟩ (n λp m=>j p (.tail _ m))
theorem E3 (name:Str) (b:Int) (c v:Value) (a:List rG):(putL name b c v a).length<=a.length+1:=by
 induction a with
 |nil=>exact aK _
 |cons e r d=>
  dsimp only[putL];by_cases q:e.key.isStr name=Wb
  ·rw[if_pos q];exact fY _
  ·rw[if_neg q];exact eN d
theorem Gb {c a:Nat} {v:V} (f:(pu c).contains a=Wb) {b:List (Nat×V)}:(∀p∈b,(pu c).contains p.1=Wb)->∀p∈cE b a v,(pu c).contains p.1=Wb:=by
 induction b with
 |nil=>exact λ_ p b=>aD.1 b▸f
 |cons q r g=>
  intro d p b;unfold cE at b;by_cases e:q.1=a
  ·rw[if_pos e]at b;exact(bD.1 b).elim (λe=>e▸f) λb=>d p (.tail _ b)
  ·rw[if_neg e]at b;exact(bD.1 b).elim (λe=>e▸d _ (.head _)) (g (λp b=>d p (.tail _ b)) p)
theorem Iq (G:Gd W) (I:Gc W) {o a e} (J:SE W n Φ o) (ih:SE W n Φ e):SS W n Φ (.dB o a e):=λ{F ps A σ m H s Q K} C hm S h kt=>qN hm λl p pos h'=>fg h' λb r h'=>aL h' λz h'=>fC z<|oh h' λq x _ h'=>aL h' λhx h'=>aL h' λho Y=>by
 rw[←Bb hx];refine vl (ih C.toCn Y S h λv O M y T j D h=>J C.toCn ho j.rel h λu t N z g f E h=> ?_) tD
 induction h with| @mk t i c fs e R Z q=>
 refine E.B1 f.rel e λd P k nn L=> ?_;haveI z:=I.fld R;obtain⟨o,X,_⟩:=AM I (a:=a) L.f L.hf;haveI w:k.length<=100:=L.f.length▸Z;refine set_dict f.rel.fr G.oJ (f.rel.rest L.m'.l) L.I rfl z.set z.over z.tak z.dict (by rw[X];rfl) rfl (.head (om _)) (aE (E3 ..) (aE (eN w) (by decide))) λh' U V=>(kt _ _ _ _ _ {g with heap:=h',toks:=_} ((j.trans f).trans (f.rel.upd (b:=[(d,oV (fJ c) P),(P,dictOf (putL (mW a) (PyData.keyHash W.w.params (mW a)) (.str (mW a) (g.toks+1)) y k) (putN (mW a) k nn))]) L.ρ U V (λp B n=>.tail _ (lL B λq=>n (q▸L.m'.r))) (λp B=> ?_) (.inst (Og I (D.le f.le) L.f L.hf) (Gb R L.hf)))) .next q)
 cases B with
 |head=>exact⟨.tail _ (lL L.m.l L.ne),L.m.r⟩
 |tail _ B=>rw[aD.1 B];exact⟨.head _,L.m'.r⟩
end
end
section
open PySem.SeqAt
theorem my {c:Type}:∀{ns:List Str} {xs:List c} (_:ns.Nodup) (i:Nat) (h:i<ns.length),(ns.zip xs).lookup ns[i]=xs[i]?
 |[],_,_,_,h=>absurd h (eC _)
 |n::ns,[],_,i,h=>by rfl
 |n::ns,x::xs,a,0,h=>by simp[dA]
 |n::ns,x::xs,a,i+1,h=>by
  haveI a:=c6.1 a;have hi:i<ns.length:=by simpa using h
  have b:ns[i]≠n:=λe=>a.1 (e▸sF hi);haveI:(ns[i]==n)=Wc:=by simpa using b
  simp only[DZ,zy,dA,this,xO];exact my a.2 i hi
theorem oO {b:Type} (f:Str->Option b):∀{ns:List Str} {vs:List b},ns.length=vs.length->(∀i (h:i<ns.length) (h':i<vs.length),f ns[i]=V9 vs[i])->ns.filterMap (λn=>(f n).map (n,·))=ns.zip vs
 |[],[],_,_=>rfl
 |[],_::_,h,_=>by simp at h
 |_::_,[],h,_=>by simp at h
 |n::ns,v::vs,h,g=>by
  have a:=g 0 (vc) (vc);simp only[List.getElem_cons_zero]at a;simp only[List.filterMap_cons,a,jX,DZ];rw[oO f (by simpa using h) λi c d=>by haveI:=g (i+1) (by simpa using c) (by simpa using d);simp only[zy]at this;exact this]
noncomputable def Lm (a:List (Str×Value)) (x:Str×Value):List (Str×Value):=if(a.lookup x.1).isNone then a++[(x.1,x.2)] else a
theorem uh {d:Type} (l l':List (Str×d)) (n:Str):(l++l').lookup n=(l.lookup n).or (l'.lookup n):=by
 induction l with
 |nil=>rfl
 |cons p l c=>
  obtain⟨a,b⟩:=p;simp only[e8,dA];split
  ·rfl
  ·exact c
theorem rT (n:Str):∀(l:List (Str×Value)) (a:List (Str×Value)),(l.foldl Lm a).lookup n=(a.lookup n).or (l.lookup n)
 |[],a=>by simp
 |(m,v)::l,a=>by
  rw[dG,rT n l];delta Lm;simp only;by_cases e:n=m
  ·subst e
   induction h:a.lookup n with
   |none=>simp[h,uh,dA]
   |some x=>simp[h,dA]
  ·have:(n==m)=Wc:=by simpa using e
   induction h:a.lookup m with
   |none=>simp[uh,dA,this]
   |some x=>simp[dA,this]
theorem qK {d a:Type} {M:Model} {A:Around} {E:Value->Shared->Prop} {s:Shared} (g:a->d->a) (f:d->a->Sem (ForInStep a)) (e:∀x b,f x b=pure (.yield (g b x))) {Q:a->Shared->Prop}:∀(l:List d) (b:a),Q (l.foldl g b) s->wpAny M A (forIn l b f) Q E s:=by
 intro l
 induction l with
 |nil=>intro b h;rw[kL];exact bE h
 |cons x l c=>intro b h;rw[nA,e];exact aI (bE (c (g b x) h))
theorem wi {s:Shared} {fd:d0} {xs d:List Value} {ns:List Str} (z:fd.params.posonlyargs=[]) (B:fd.params.vararg=Wa) (w:fd.params.kwonlyargs=[]) (C:fd.params.kwarg=Wa)
  (y:fd.params.args.map (·.arg)=ns) (p:ns.Nodup)
  (hd:(fd.defaults= .none/\d=[])\/∃T o n,fd.defaults= .ref T/\s.heap.get? T=V9 o/\o.data= .seq d.toArray n)
  (q:xs.length<=ns.length) (v:ns.length<=xs.length+d.length) (r:d.length<=ns.length):
  BindsTo s fd ⟨xs,[]⟩ (ns.zip (xs++d.drop (d.length-(ns.length-xs.length)))):=by
 injection 0 s fd xs d ns with z B w C y p hd q v r;obtain⟨c,k⟩:=je q;obtain⟨e,l⟩:=Nat.exists_eq_add_of_le' (Nat.le_of_add_le_add_left (a:=xs.length) (k▸v));obtain⟨f,t⟩:=je (show e<=xs.length from Nat.le_of_add_le_add_right (b:=c) (by rw[←l,←k];exact r));haveI H:ns.length-d.length=f:=by rw[k,l,t,Nat.add_sub_add_right,eO]
 rw[show d.length-(ns.length-xs.length)=e by rw[k,l,eO,qI]];haveI D:f<=xs.length:=aE (eW f e) (bT t.symm);haveI hz:(xs++d.drop e).length=ns.length:=by rw[aH,mR,l,k,eO]
 intro M A E Q F;dsimp only[bindArgs];simp only[z,w,B,C,gL,ny,bY,y,kL];refine aI (bE ?_);haveI m:∀{R:Option (Array Value)->Shared->Prop},(∀o,(o.getD #[]).toList=d->R o s)->wpAny M A (seqItems? fd.defaults) R E s:=λ{R} h=>by
  rcases hd with⟨e,a⟩|⟨T,o,n,e,u,a⟩
  ·rw[e];exact aI (bE (bE (h Wa (by rw[a];rfl))))
  ·rw[e];refine aI (wpAny_load u ?_);rw[a];exact bE (h _ rfl)
 refine aI (m λo u=> ?_);rw[u];rw[if_neg (by simp;exact q)];rw[Nat.sub_eq_zero_of_le r,H,List.drop_zero];have g:List.filter (λn=>(s4 n (ns.zip xs)).isNone) (List.take f ns)=[]:=by rw[gO];intro a j;obtain⟨i,hi,g⟩:=oF.1 j;rw[←g];haveI b:i<f/\i<ns.length:=Nat.lt_min.1 (c9▸hi);rw[List.getElem_take,my p i b.2,aF (a9 b.1 D)];exact ec
 simp only[g,List.isEmpty_nil,xJ,fK,if_false];refine aI (qK Lm _ (λx b=> ?_) _ _ ?_)
 ·delta Lm;split<;>rfl
 refine aI (bE ?_);refine bE ?_;rw[oO (vs:=xs++d.drop e) _ hz.symm λi hi b=> ?_]
 ·exact F
 ·rw[rT,my p i hi];by_cases n:i<xs.length
  ·rw[aF n,List.getElem_append_left n];rfl
  ·obtain⟨j,rfl⟩:=je (m0 n);haveI G:j<c:=Nat.lt_of_add_lt_add_left (k▸hi);haveI x:f+(e+j)=xs.length+j:=by rw[t,fA e f,fE]
   haveI a:(ns.drop f)[e+j]? =V9 ns[xs.length+j]:=by rw[qy,x,aF hi]
   haveI i:=cD.1 a;haveI h:=i.1;haveI a:=i.2;haveI:=my (xs:=d) (p.sublist (List.drop_sublist f _)) (e+j) h;rw[a]at this;rw[bQ (fG _ _),Option.none_or,this];rw[List.getElem_append_right (fG _ _),aF (l▸kB G e)];simp only[List.getElem_drop,eO]
end
section
open PySem.SeqAt
theorem MX {vs k q} (h:Bv (.Tuple vs k q)=Wb):(vs.all (sA 8)|| !vs.all (qE 8))=Wb:=by
 unfold Bv CH vw at h
 induction e:(vs.all (sA 8)|| !vs.all (qE 8))with
 |true=>rfl
 |false=>exact absurd (il h) (by show ¬(Wb&& !(vs.all (sA 8)|| !vs.all (qE 8)))=Wc;rw[e];decide)
theorem Ac {c:Prop} [Decidable c] {a b:Sem (Option (List Str))} {P:Option (List Str)->Prop} (h:∃r,a=pure r/\P r) (k:∃r,b=pure r/\P r):∃r,ite c a b=pure r/\P r:=by
 by_cases q:c
 ·rw[if_pos q];exact h
 ·rw[if_neg q];exact k
theorem MY {f:Expr->Option Str} {u v:Expr} {x y:Str} (h:f u=Wa\/f u=V9 x) (k:f v=Wa\/f v=V9 y):[u,v].filterMap f=[x,y]\/([u,v].filterMap f).length≠2:=by rcases h with h|h<;>rcases k with k|k<;>simp[List.filterMap,h,k]
theorem EC {c:Prop} [Decidable c] {x:Str}:ite c (V9 x) Wa=Wa\/ite c (V9 x) Wa=V9 x:=by
 by_cases q:c
 ·exact .inr (if_pos q)
 ·exact .inl (if_neg q)
theorem Ih {ns:List Str} {x y:Str} {d a b:Bool} {E:Sem (Option (List Str))} (h:(a|| !b)=Wb) (k:ns=[x,y]\/ns.length≠2):
  ∃r,(if(ns.length != 2||d)=Wb then pure Wa else if a=Wb then pure Wa else if b=Wb then E else pure (V9 ns))=pure r/\(r=Wa\/r=V9 [x,y]):=by
 rcases k with k|k
 ·refine Ac ⟨Wa,rfl,.inl rfl⟩ ?_
  induction a with
  |true=>exact⟨Wa,rfl,.inl rfl⟩
  |false=>induction b with
   |true=>cases h
   |false=>exact⟨_,rfl,.inr (k▸rfl)⟩
 ·exact⟨Wa,if_pos (by rw[bne_iff_ne.2 k];rfl),.inl rfl⟩
theorem CJ {x y:Str} {p1 p2 p3:Pos} {c:Nat} {p:Expr} {env:Env} (h:Bv p=Wb):∃r,swappedStores [.Tuple [.Name x p1,.Name y p2] c p3] p env=pure r/\(r=Wa\/r=V9 [x,y]):=by
 injection 0 x y p1 p2 p3 c p env with h
 cases p with
 |Tuple vs k q=>exact Ac ⟨Wa,rfl,.inl rfl⟩ (Ac ⟨Wa,rfl,.inl rfl⟩ (Ih (MX h) (MY EC EC)))
 |_=>exact⟨Wa,rfl,.inl rfl⟩
theorem Mc {x y:Str} {p1 p2:Pos} {env:Env}:assignEach [.Name x p1,.Name y p2] env=[(Wc,assign (.Name x p1) env),(Wc,assign (.Name y p2) env)]:=rfl
theorem Fg {W:Wd} {A:Around} {K:Unit->Shared->Prop} {s:Shared} {t u:Value->Sem Unit} {a b:Value} (h:WN W A (holding [b] (t a)>>= λ_=>holding [] (u b)>>= λ_=>pure ()) K s):WN W A (assignInOrder [t,u] [a,b]) K s:=h
theorem tS {x y:Str} {p1 p2 p3:Pos} {c l:Nat} {p:Expr} {env:Env}:swapsWithSole [.Tuple [.Name x p1,.Name y p2] c p3] p l env=pure Wc:=by cases p<;>rfl
theorem CU {m:En} {k l:Nat} {a b:V} (h:k≠l):setM (setM m k a) l b=setM (setM m l b) k a:=by exact List.set_comm _ _ h
section
variable {W:Wd} {n:Nat} {Φ:d9}
theorem BZ {h h':Heap} (x:Bh h.objs.size h h'):∀b o,h.get? b=V9 o->h'.get? b=V9 o:=λb o e=>x b o (cT (d5 e)) e
theorem uK {F:Fx} {σ m H} {A:Around} {s:Shared} {k l:Nat} {x y:Str} {p1 p2 p3:Pos} {c:Nat} {a b:V} {p:Value} {K:Unit->Shared->Prop} (q:pG F) (u:A.handled=Wa) (S:Rel W F σ m H (cx s)) (v:k∈F.nE) (B:F.ns[k]? =V9 x) (r:F.env.kindOf x≠V9 .free)
  (w:l∈F.nE) (C:F.ns[l]? =V9 y) (t:F.env.kindOf y≠V9 .free) (i:VR σ (.tup [a,b]) p) (D:∀h' tk σ',To W F (setM (setM m k a) l b) σ σ' H ⟨h',s.os,s.gens⟩->K () {s with heap:=h',toks:=tk}):
  WN W A (assign (.Tuple [.Name x p1,.Name y p2] c p3) F.env p) K s:=
 i.sr λG ws I z _ i=>by
  obtain⟨J,L,rfl,E,rb⟩:=i.two;refine wpAny_assign_Tuple u ⟨_,S.fW z,rfl,_,rfl⟩ (congrArg iS Mc) (congrArg (List.findIdx? (·.1)) Mc) λh' h=> ?_;haveI e:Rel W F σ m H (cx {s with heap:=h'}):=S.grow (BZ h);refine Fg ?_;exact aI (dD (m9 (store (s:={s with heap:=h'}) q e v B r E λh₁ tk n d=>
   aI (dD (m9 (store (s:={s with heap:=h₁,toks:=tk}) q d.rel w C t (rb.le d.le) λf j o g=>bE (D f j _ (d.trans g))))))))
theorem M7 {k l e} (U:SE W n Φ e):SS W n Φ (.CL k l e):=λ{F ps A σ m H s Q K} C Y S h V=>qN Y λts p pos h'=>fg h' λa r h'=>aL h' λz h'=>fC z<|aL h' λX h'=>aL h' λD h'=>aL h' λJ h'=>aL h' λhu R=>
 wC X λes c p3 h'=>fg h' λb r h'=>fg h' λd r h'=>aL h' λz h'=>fC z<|fm h' λx p1 h'=>fm h' λy p2 h'=>aL h' λw h'=>aL h' λG O=>by
 have w:=of_decide_eq_true w;have G:=of_decide_eq_true G;have D:=mem_of D;have J:=mem_of J;have N:k≠l:=λe=>by subst e;cases aA (w.symm.trans G);exact(absurd ((il O).symm.trans (beq_self_eq_true _)) ec)
 obtain⟨r,T,f⟩:=CJ (x:=x) (y:=y) (p1:=p1) (p2:=p2) (p3:=p3) (c:=c) (env:=F.env) hu;have st:∀{k x v L σ m H s} {K:Unit->Shared->Prop},Rel W F σ m H (cx s)->k∈F.nE->F.ns[k]? =V9 x->VR σ v L->(∀h' tk σ',To W F (setM m k v) σ σ' H ⟨h',s.os,s.gens⟩->K () {s with heap:=h',toks:=tk})->WN W A (storeName F.env x L) K s:=λS D w r q=>store C.f S D w (λe=>C.nf e _ D w) r q;rcases f with rfl|rfl
 ·exact Assign_Tuple (U C.toCn R S h λv B u L f t r h=>by obtain⟨a,b,rfl,q⟩:=vO h;exact uK C.f C.a.hh t.rel D w (λe=>C.nf e _ D w) J G (λe=>C.nf e _ J G) r λi v E o=>V _ _ _ _ _ {f with heap:=i,toks:=v} (t.trans o) .next q) tS T
 ·refine Assign_Tuple_swapped (U C.toCn R S h λv B u L f t r h=> ?_) tS T;obtain⟨a,b,rfl,q⟩:=vO h;refine r.sr λad ws nn Z _ hv=> ?_;obtain⟨wa,wb,rfl,ra,rb⟩:=hv.two;have g:=t.rel.fW Z;refine wpAny_unpackItems_tuple (items:=[wa,wb].toArray) C.a.hh ⟨_,g,rfl,_,rfl⟩ λh' M=> ?_;haveI I:Rel W F u m B (cx {f with heap:=h'}):=t.rel.grow (BZ M);refine Fg ?_;rw[CU N]at q;exact aI (dD (SN (st (s:={f with heap:=h'}) I J G rb λh₁ tk P j=>
   aI (dD (SN (st (s:={f with heap:=h₁,toks:=tk}) j.rel D w (ra.le j.le) λi v E o=>
    bE (V _ _ _ _ _ {f with heap:=i,toks:=v} ((t.trans j).trans o) .next q)))))))
end
end
section
open PySem.SeqAt
section
noncomputable def FW (r:Ro):Bool:=decide (r.ctorIdx=2)
noncomputable def we (σ:Sg):lq:=σ.l.filter λp=>FW (σ.ro p.1)
noncomputable def zb (F:Fx) (σ:Sg) (oL:Obj):lq:=(F.env.locals,oL)::we σ
noncomputable def j3 (h:Heap) (a:List (Str×Addr)):lq:=a.map λp=>(p.2,(h.get? p.2).getD default)
noncomputable def o6 (F:Fx) (σ:Sg) (oL:Obj) (env:Env) (ns:List Str) (nE:List Nat):Fx:=⟨env,ns,nE,env.scope,zb F σ oL::F.fw⟩
noncomputable def wH (F:Fx) (σ:Sg) (oL:Obj) (a:lq) (b:Str->Option Value):Sg:=
 ⟨σ.ρ,σ.tu,λy=>if y∈(zb F σ oL).map (·.1) then .fw F.fw.length else if y∈a.map (·.1) then .cell else σ.ro y,a++(F.env.locals,oL)::σ.l,b⟩
theorem vX {r:Ro} (h:FW r=Wb):r= .cell:=by cases r<;>first|rfl|cases h
theorem map_fst {l:lq} {y:Addr} (h:y∈l.map (·.1)):∃o,(y,o)∈l:=(aM.1 h).elim λp q=>⟨p.2,q.2▸q.1⟩
section
variable {W:Wd} {F:Fx} {σ:Sg} {m:En} {H:Hp} {s s₁:Shared}
theorem enter (S:Rel W F σ m H (cx s)) {env:Env} {ns:List Str} {nE:List Nat} {i l:Str->Option Value} {m':En} {oL:Obj} (f:s.heap.get? F.env.locals=V9 oL)
  (X:Ef s env.locals i env.cells l s₁) (w:∀p∈env.cells,env.cells.lookup p.1=V9 p.2) (z:s₁.os=s.os) (u:s₁.gens=s.gens)
  (t:∀{k v},getM m' k=V9 v->k∈nE/\∃x a,ns[k]? =V9 x/\VR σ v a/\((env.kindOf x=V9 .local/\i x=V9 a)\/(env.kindOf x=V9 .cell/\l x=V9 a/\∃c,env.cells.lookup x=V9 c))):
  To W (o6 F σ oL env ns nE) m' σ (wH F σ oL (j3 s₁.heap env.cells) i) H (cx s₁):=by
 injection 0 W F σ m H s s₁ env ns nE with S i l m' oL f X w z u t;injection 0 i l m' oL with S f X w z u t;have j:∀{b o},s.heap.get? b=V9 o->b<env.locals:=λe=>a9 (d5 e) X.toInCall.fresh;have base:W.h₀.objs.size<=env.locals:=aE (aE S.fr.above (cO (d5 f))) X.toInCall.fresh;have d:∀p∈j3 s₁.heap env.cells,env.locals<p.1/\s₁.heap.get? p.1=V9 p.2:=λp a=>by obtain⟨q,c,rfl⟩:=aM.1 a;obtain⟨o,b,_⟩:=X.cell q.1 q.2 (w q c);exact⟨X.above q.1 q.2 c,by rw[b];rfl⟩
 haveI r:∀{y},y<env.locals->y∉(j3 s₁.heap env.cells).map (·.1):=λa g=>(map_fst g).elim λo q=>cX _ (dy a (d _ q).1);have h:∀p∈σ.l,p.1<env.locals:=λp a=>j (S.nw p a).1;haveI A:∀{y},env.locals<y->y∉(zb F σ oL).map (·.1):=λa g=>(map_fst g).elim λo q=>by
  cases q with
  |head=>exact cX _ (dy a (j f))
  |tail _ q=>exact cX _ (dy a (h _ (aG.1 q).1))
 have k:Kp (·= .cell) σ (wH F σ oL (j3 s₁.heap env.cells) i):=λp a n=>⟨aT _ (.tail _ a),by
  refine(if_neg λg=> ?_).trans (if_neg (r (h p a)));obtain⟨o,q⟩:=map_fst g;generalize e:p.1=y at q
  cases q with
  |head=>exact(S.nw p a).2.1 e
  |tail _ q=>exact n (e▸vX (aG.1 q).2)⟩
 have g:∀{x c},env.cells.lookup x=V9 c->∃o,s₁.heap.get? c=V9 o/\o.data= .cell (l x)/\Mem (wH F σ oL (j3 s₁.heap env.cells) i) .cell (c,o):=λ{x c} e=>by obtain⟨o,b,hd⟩:=X.cell x c e;haveI g:(c,o)∈j3 s₁.heap env.cells:=aM.2 ⟨(x,c),dE e,by rw[b];rfl⟩;exact⟨o,b,hd,bB _ g,(if_neg (A (d _ g).1)).trans (if_pos (bN g))⟩
 refine⟨⟨id,id⟩,⟨X.toInCall.ns,λb o e=>X.toInCall.keep b o (S.fr.keep b o e),base⟩,λp a=> ?_,S.len,λe=>(S.ob e).kp k (by simp) ⟨id,id⟩,λe=>(S.tu e).kp k (by simp),λe=> ?_,λ{x c} _ e=> ?_,⟨λp a=>⟨?_,if_pos (bN a)⟩,S.fw.kp k λ_ _=>(by simp)⟩,S.GV,z.trans S.os,u.trans S.gs⟩
 ·rcases aZ.1 a with a|a
  ·exact⟨(d p a).2,eD (d p a).1,c5 (aE base (cO (d p a).1))⟩
  ·cases a with
   |head=>exact⟨X.toInCall.keep _ _ f,cT (j f),c5 S.fr.above⟩
   |tail _ a=>exact⟨X.toInCall.keep _ _ (S.nw p a).1,cT (h p a),(S.nw p a).2.2⟩
 ·obtain⟨p,x,a,v,y,b⟩:=t e;refine⟨p,v,VR.le (σ:=σ) (σ':=wH F σ oL (j3 s₁.heap env.cells) i) ⟨id,id⟩ y,?_⟩;rcases b with q|⟨q,B,c,n⟩
  ·exact .loc q.1 q.2
  ·obtain⟨o,b,hd,M⟩:=g n;exact .lS (.inl q) n M (hd.trans (congrArg _ B))
 ·obtain⟨o,b,hd,M⟩:=g e;exact⟨M,hd⟩
 ·refine aT _ ?_
  cases a with
  |head=>exact .head _
  |tail _ a=>exact .tail _ (aG.1 a).1
noncomputable def r5 (F:Fx) (σ:Sg) (σ':Sg):Sg:=⟨σ'.ρ,σ'.tu,λy=>if y∈(we σ).map (·.1) then .cell else σ'.ro y,σ'.l.filter λp=>p.1 != F.env.locals,σ.mm⟩
theorem leave {σ':Sg} {m':En} {u:Hp} {l:Cx} {oL:Obj} {env:Env} {ns:List Str} {nE:List Nat} (S:Rel W F σ m H (cx s)) (f:s.heap.get? F.env.locals=V9 oL)
  (t:To W (o6 F σ oL env ns nE) m' σ σ' u l):To W F m σ (r5 F σ σ') u l:=by
 have a:=t.rel;have d:∀p∈zb F σ oL,Mem σ' (.fw F.fw.length) p:=a.fw.1;haveI v:l.heap.get? F.env.locals=V9 oL:=(a.nw _ (d _ (.head _)).l).1;haveI x:∀{p},p∈σ'.l->σ'.ro p.1≠.fw F.fw.length->p.1≠F.env.locals:=λc n e=>n (e▸(d _ (.head _)).r);haveI w:∀{y},σ'.ro y≠.fw F.fw.length->y∉(we σ).map (·.1):=λn b=>(map_fst b).elim λo q=>n (d _ (.tail _ q)).r;have k:Kp (·= .fw F.fw.length) σ' (r5 F σ σ'):=λp c n=>⟨aG.2 ⟨c,bne_iff_ne.2 (x c n)⟩,if_neg (w n)⟩;have b:∀{p},Mem σ .cell p->Mem (r5 F σ σ') .cell p:=λ{p} M=>by haveI b:p∈we σ:=aG.2 ⟨M.l,by rw[M.r];rfl⟩;exact⟨aG.2 ⟨(d _ (.tail _ b)).l,bne_iff_ne.2 (S.nw _ M.l).2.1⟩,if_pos (bN b)⟩
 have g:σ'.le (r5 F σ σ'):=⟨id,id⟩;refine⟨t.le.trans g,⟨?_,a.fr.keep,S.fr.above⟩,λp c=> ?_,a.len,λe=>(a.ob e).kp k (by simp) g,λe=>(a.tu e).kp k (by simp),λe=> ?_,λn e=> ?_,a.fw.2.kp k λj c=> ?_,a.GV,a.os,a.gs⟩
 ·obtain⟨o,c,ep,e,r⟩:=S.fr.ns;obtain rfl:=aA (f.symm.trans e);exact⟨oL,c,ep,v,r⟩
 ·haveI q:=aG.1 c;exact⟨(a.nw p q.1).1,bne_iff_ne.1 q.2,(a.nw p q.1).2.2⟩
 ·induction S.en e with|mk j n r c=>
  refine⟨j,n,r.le (t.le.trans g),?_⟩
  induction c with
  |loc h i=>exact .loc h i
  |lS h i M hd=>exact .lS h i (b M) hd
 ·induction S.lS n e with|mk M hd=>exact⟨b M,hd⟩
 ·exact λe=>cX _ (Ro.fw.inj e▸c)
end
end
end
section
open PySem.SeqAt
theorem im {b:Type}:∀{l:List (Str×b)} {n:Str} {c:b},(l.map (·.1)).Nodup->(n,c)∈l->l.lookup n=V9 c
 |(k,v)::r,n,c,a,h=>by
  rw[cS,c6]at a;rcases bD.1 h with e|h
  ·rw[←e];simp[dA]
  ·have:(n==k)=Wc:=by
    haveI:n≠k:=λe=>a.1 (aM.2 ⟨(n,c),h,e⟩);simpa using this
   rw[dA,this];exact im a.2 h
theorem hJ:∀(a:List (Str×ft)) (k:Nat) (b:List (Str×Addr)),(dK k a b).map (·.1)=((a.filter λp=>p.2== .cell).map (·.1)).reverse++b.map (·.1)
 |[],_,_=>rfl
 |(n,kd)::r,k,b=>by
  dsimp only[dK]
  induction h:kd==kG with
  |true=>simp[hJ r,h,eK]
  |false=>simp[hJ r,h,eK]
theorem rW {a:List (Str×ft)} (b:(a.map (·.1)).Nodup) (k:Nat):((dK k a []).map (·.1)).Nodup:=by rw[hJ];rw[gL,bY];rw[(rK _).nodup_iff];exact b.sublist (CD.map _)
theorem jc {a:List (Str×ft)} (f:(a.map (·.1)).Nodup) (k:Nat) {x:Str} (h:a.lookup x=V9 .cell):((dK k a []).lookup x).isSome=Wb:=by
 haveI d:x∈(dK k a []).map (·.1):=by rw[hJ];haveI:=dE h;rw[gL,bY,gw];exact aM.2 ⟨(x,.cell),aG.2 ⟨this,rfl⟩,rfl⟩
 obtain⟨⟨y,c⟩,e,b⟩:=aM.1 d;rw[←b];rw[im (rW f k) e];rfl
theorem rY {a:Str->Option ft} {x:Str}:∀(r:List (Str×Value)) (m:Str->Option Value),x∉r.map (·.1)->bindL a r m x=m x
 |[],_,_=>rfl
 |(n,v)::r,m,h=>by
  rw[cS,bD,not_or]at h;rw[rY r _ h.2];split
  ·simp[h.1]
  ·rfl
theorem rZ {a:Str->Option ft} {x:Str}:∀(r:List (Str×Value)) (m:Str->Option Value),x∉r.map (·.1)->bindC a r m x=m x
 |[],_,_=>rfl
 |(n,v)::r,m,h=>by
  rw[cS,bD,not_or]at h;rw[rZ r _ h.2];split
  ·rfl
  ·simp[h.1]
theorem zf {a:Str->Option ft} {x:Str} {v:Value} (c:a x=V9 .local):∀(r:List (Str×Value)) (m:Str->Option Value),(r.map (·.1)).Nodup->(x,v)∈r->bindL a r m x=V9 v
 |(n,u)::r,m,b,h=>by
  rw[cS,c6]at b;rcases bD.1 h with e|h
  ·cases e;rw[rY r _ b.1,if_pos c];simp
  ·exact zf c r _ b.2 h
theorem zg {a:Str->Option ft} {x:Str} {v:Value} (c:a x≠V9 .local):∀(r:List (Str×Value)) (m:Str->Option Value),(r.map (·.1)).Nodup->(x,v)∈r->bindC a r m x=V9 v
 |(n,u)::r,m,b,h=>by
  rw[cS,c6]at b;rcases bD.1 h with e|h
  ·cases e;rw[rZ r _ b.1,if_neg c];simp
  ·exact zg c r _ b.2 h
structure FnB (W:Wd) (fdd:d0) (fd:FD) (ns:List Str) (sz:Nat):Prop where
 cd:codeIn W.K fdd.code fdd.qualname=Wb
 kind:fdd.scope.kind= .function
 co:fdd.scope.isCoroutine=Wc
 gen:fdd.scope.isGenerator=Wc
 Q7:fdd.globals=dR
 bl:fdd.builtins=ke
 p1:fdd.params.posonlyargs=[]
 p2:fdd.params.vararg=Wa
 p3:fdd.params.kwonlyargs=[]
 p4:fdd.params.kwarg=Wa
 p5:fdd.params.args.map (·.arg)=ns.take fd.np
 np:fd.np<=sz
 szl:sz<=ns.length
 nns:(ns.take sz).Nodup
 Pq:∀k:Nat,ns[k]? ≠V9 wg
structure xE (W:Wd) (fdd:d0) (body:List Stmt) (fd:FD) (ns:List Str) (sz:Nat):Prop extends FnB W fdd fd ns sz where
 bo:fdd.body= .stmts body
 Ea:fdd.closure=[]
 nd:(fdd.scope.names.map (·.1)).Nodup
 mt:zF tabs ns fdd.scope (aC sz) fd.body body=Wb
 knd:∀{k:Nat} {x:Str},k<sz->ns[k]? =V9 x->fdd.scope.names.lookup x=V9 .local\/fdd.scope.names.lookup x=V9 .cell
 D4:∀x,fdd.scope.names.lookup x≠V9 .free
 oQ:(fdd.defaults= .none/\fd.oQ=[])\/∃T o ws k,fdd.defaults= .ref T/\W.K.lookup T=V9 o/\o.data= .seq (ni ws) k/\kb (LU []) fd.oQ ws
 dln:fd.oQ.length<=fd.np
section
variable {W:Wd} {n:Nat} {Φ:d9}
theorem nF {l:List Str} {k sz:Nat} {x:Str} (a:k<sz) (h:l[k]? =V9 x):(l.take sz)[k]? =V9 x:=by rw[kK,if_pos a,h]
theorem C4 {l:List Str} (d:l.Nodup) {i j:Nat} {x:Str} (hi:l[i]? =V9 x) (c:l[j]? =V9 x):i=j:=by obtain⟨e,a⟩:=cD.1 hi;obtain⟨f,b⟩:=cD.1 c;exact(sG d).1 (a.trans b.symm)
theorem Bp {a:Type} {ns:List Str} {vs:List a} {i:Nat} {x:Str} {v:a} (h:ns[i]? =V9 x) (h':vs[i]? =V9 v):(x,v)∈ns.zip vs:=aO (List.getElem?_zip_eq_some.2 ⟨h,h'⟩)
theorem Cd {vs:List V} {k r:Nat} {v:V} (e:getM (vs.map V9++aY r Wa) k=V9 v):vs[k]? =V9 v:=by
 injection 0 vs k r v with e;unfold getM at e;by_cases a:k<vs.length
 ·rw[bH (by simpa using a),bC,aF a]at e;rw[aF a];exact e
 ·rw[bR (by simpa using a),iT]at e;by_cases q:k-(vs.map V9).length<r
  ·rw[if_pos q]at e;exact nn e
  ·rw[if_neg q]at e;exact nn e
theorem FnB.hnp {a fd ns sz} (B:FnB W a fd ns sz):(ns.take fd.np).length=fd.np:=c9.trans (u8 (aE B.np B.szl))
theorem FnB.TK {a fd ns sz} (B:FnB W a fd ns sz):(ns.take fd.np).Nodup:=by
 haveI:=B.nns.sublist (Ek fd.np _)
 rwa [List.take_take,u8 B.np]at this
theorem FnB.at {a fd ns sz} (B:FnB W a fd ns sz) {k:Nat} (h:k<fd.np):∃x,ns[k]? =V9 x:=⟨_,aF (a9 (a9 h B.np) B.szl)⟩
theorem FnB.inj {a fd ns sz} (B:FnB W a fd ns sz):∀k∈aC sz,∀k'∈aC sz,∀x,ns[k]? =V9 x->ns[k']? =V9 x->k=k':=λk d k' b x e c=>C4 B.nns (nF (aW.1 d) e) (nF (aW.1 b) c)
theorem sv.deep {A:Around} {env:Env} (h:sv (n+1) A):OX n (A.deeper env):=⟨h.hh,by haveI:=h.hd;dsimp only[HH];lia,by haveI:=h.hu;simp only[Around.deeper_units];lia⟩
noncomputable abbrev envOf (fdd:d0) (a:Addr) (z:Nat):Env:=newEnv fdd.scope z fdd.globals (dK (z+1) fdd.scope.names []) (fdd.qualname++".<locals>.") (V9 a) fdd.code Wa fdd.builtins
def Bound (σ:Sg) (env:Env) (ns:List Str) (nE:List Nat) (d b:Str->Option Value) (m':En):Prop:=∀{k v},getM m' k=V9 v->k∈nE/\∃x a,ns[k]? =V9 x/\VR σ v a/\((env.kindOf x=V9 .local/\d x=V9 a)\/(env.kindOf x=V9 .cell/\b x=V9 a/\∃c,env.cells.lookup x=V9 c))
theorem lT {a:Addr} {o:Obj} {d:d0} {l:List Stmt} {fd:FD} {ns:List Str} {sz:Nat} {s:Shared} {A:Around} {σ:Sg} {vs:List V} {xs:List Value} {R:Result->Shared->Prop} (X:W.K.In s.heap) (n:s.heap.NoLimit)
  (M:W.K.lookup a=V9 o) (C:o.data= .func d) (b:xE W d l fd ns sz) (J:A.depth<SU) (I:kb σ vs xs) {m':En} (z:uG fd vs=V9 m')
  (K:∀g e c,Ef s s.heap.objs.size e (envOf d a s.heap.objs.size).cells c g->(∀p∈(envOf d a s.heap.objs.size).cells,(envOf d a s.heap.objs.size).cells.lookup p.1=V9 p.2)->Bound σ (envOf d a s.heap.objs.size) ns (aC sz) e c m'->
   (∀p,pG ⟨envOf d a s.heap.objs.size,ns,aC sz,d.scope,p⟩)->ly (model W.prog W.w) A (.func l (envOf d a s.heap.objs.size)) R g):
  ly (model W.prog W.w) A (.call (.ref a) ⟨xs,[]⟩) R s:=by
 injection 0 W a o d l fd ns sz s A with σ vs xs R X n M C b J I m' z K;injection 0 σ vs xs R m' with X n M C b J I z K;haveI B:=b.np;unfold uG at z;by_cases f:vs.length<=fd.np/\fd.np<=vs.length+fd.oQ.length
 case neg=>rw[if_neg f]at z;exact nn z
 rw[if_pos f]at z;obtain rfl:=aA z;haveI hd:∃ws,((d.defaults= .none/\ws=[])\/∃T o k,d.defaults= .ref T/\s.heap.get? T=V9 o/\o.data= .seq ws.toArray k)/\kb σ fd.oQ ws:=by
  rcases b.oQ with⟨c,g⟩|⟨T,o,ws,k,c,g,h,i⟩
  ·exact⟨[],.inl ⟨c,rfl⟩,g▸.nil⟩
  ·exact⟨ws,.inr ⟨T,o,k,c,X _ _ g,h⟩,eH.le (σ:=LU []) ⟨λe=>(c8 (aO e)).elim,λe=>(c8 e).elim⟩ i⟩
 obtain⟨ws,hd,F⟩:=hd;injection 0 ws with hd F;haveI G:=I.length;haveI E:=F.length;have j:=b.hnp;haveI t:=b.TK;haveI L:BindsTo s d ⟨xs,[]⟩ ((ns.take fd.np).zip (xs++ws.drop (ws.length-((ns.take fd.np).length-xs.length)))):=
  wi b.p1 b.p2 b.p3 b.p4 b.p5 t hd (by rw[j,←G];exact f.1) (by rw[j,←G,←E];exact f.2) (by rw[j,←E];exact b.dln)
 rw[j,←G,←E]at L;haveI D:=I.append (F.drop (fd.oQ.length-(fd.np-vs.length)));generalize xs++ws.drop (fd.oQ.length-(fd.np-vs.length))=q at L D;have H:q.length=fd.np:=by rw[←D.length,aH,mR,Nat.sub_sub_self (Nat.sub_le_of_le_add (fA _ _▸f.2)),DY f.1]
 haveI m:(((ns.take fd.np).zip q).map (·.1))=ns.take fd.np:=Hj (by rw[j,H];exact aK _);haveI u:(((ns.take fd.np).zip q).map (·.1)).Nodup:=by rw[m];exact t
 refine codeAny_call_function J (X _ _ M) C b.co b.gen b.bo (codeRec_of X b.cd) (L _ _ _ _ ?_);rw[b.Ea];refine wpAny_newFunctionEnv_cells b.kind (λx h=> ?_) λenv c g i=> ?_
 ·haveI g:x.1∈ns.take fd.np:=m▸bN h;obtain⟨i,hi⟩:=og.1 g;haveI e:i<fd.np:=j▸(cD.1 hi).1;rw[kK,if_pos e]at hi;exact(b.knd (a9 e B) hi).imp id λc=>⟨c,jc b.nd _ c⟩
 ·subst c;refine⟨n.keeps i.toInCall.keep,K g _ _ i (λp c=>im (rW b.nd _) c) (λ{k v} e=> ?_) λp=> ?_⟩
  ·obtain⟨N,y,r⟩:=D.get (Cd e);have h:k<fd.np:=H▸(cD.1 y).1;obtain⟨x,w⟩:=b.at h;haveI p:=Bp (nF h w) y;refine⟨aW.2 (a9 h B),_,N,w,r,?_⟩;rcases b.knd (a9 h B) w with c|c
   ·exact .inl ⟨c,zf c _ _ u p⟩
   ·exact .inr ⟨c,zg (λe=>(absurd (c.symm.trans (show d.scope.names.lookup _=V9 .local from e)) (by decide))) _ _ u p,cW.1 (jc b.nd _ c)⟩
  ·exact⟨b.kind,b.Q7,b.bl,b.inj,λk h x e=>(b.knd (aW.1 h) e).imp id λc=>⟨.inl c,jc b.nd _ c⟩,λx y c e h=>name_of_addr i.apart (dE e) (dE h),λk _=>b.Pq k,
    λx e=>e.elim (λe=>⟨.inl e,jc b.nd _ e⟩) λe=>absurd e (b.D4 x),λx h=>h,λx e=>absurd e (b.D4 x)⟩
theorem InCallC.sm {s a:Shared} {L d c b} (x:Ef s L d c b a):a.os=s.os/\a.gens=s.gens:=by obtain⟨_,_,e⟩:=x.toInCall.same;rw[e];exact⟨rfl,rfl⟩
theorem K3 (G:Gd W) {f:Nat} {o:Obj} {d:d0} {g:List Stmt} {fd:FD} {ns:List Str} {sz:Nat} (J:W.K.lookup (dY f)=V9 o) (l:o.data= .func d) (j:xE W d g fd ns sz) (D:Ck W n Φ fd.body)
  {F m A σ H s vs xs Q K} (P:pG F) (w:sv (n+1) A) (S:Rel W F σ m H (cx s)) (p:kb σ vs xs) {m':En} (I:uG fd vs=V9 m') (h:eQ pd Φ fd.body m' H λfl _ a=>Q (Am fl) a) (u:KT W F m σ Q K):
  ly (model W.prog W.w) A (.call (.ref (dY f)) ⟨xs,[]⟩) (λr s'=>∃v,r= .ok (.ret v)/\K v s') s:=by
 obtain⟨oL,N,ep,i,C⟩:=id S.fr.ns;refine lT (kr G S) (G.oI.keeps S.fr.keep) J l j (dp (aE (fG _ _) w.hd) (by decide)) p I λy R M c k B L=> ?_;have t:=enter (env:=envOf d (dY f) s.heap.objs.size) S i c k (InCallC.sm c).1 (InCallC.sm c).2 B;refine oU (gX (D (A:=A.deeper _) ⟨⟨L _,w.deep⟩,λe=>absurd e (j.D4 _)⟩ j.mt t.rel h λfl x r a O z e E q=> ?_));have b:=leave S i (t.trans e)
 induction E with
 |next=>exact⟨_,rfl,u _ _ _ _ _ b .none q⟩
 |cont=>exact⟨_,rfl,u _ _ _ _ _ b .none q⟩
 |ret p=>exact⟨_,rfl,u _ _ _ _ _ b (show VR (r5 F σ a) _ _ from VR.le (σ:=a) (σ':=r5 F σ a) ⟨id,id⟩ p) q⟩
end
end
section
open PySem.SeqAt
noncomputable abbrev plus (F:Fx) (b:lq):Fx:={F with fw:=b::F.fw}
noncomputable def Hr (σ:Sg) (b b':lq):Sg:=⟨σ.ρ,σ.tu,σ.ro,b'++σ.l.filter (λp=>decide (p.1∉b.map (·.1))),σ.mm⟩
noncomputable def GU (F:Fx) (σ:Sg) (b:lq):Sg:=⟨σ.ρ,σ.tu,λy=>if y∈b.map (·.1) then .fw F.fw.length else σ.ro y,b++σ.l,σ.mm⟩
theorem AT {σ:Sg} {b b':lq}:σ.le (Hr σ b b'):=⟨id,id⟩
section
variable {W:Wd} {F:Fx} {σ:Sg} {m:En} {H:Hp} {x:Cx} {b b':lq} {h':Heap}
theorem zq.mv {o k v} (h:zq F σ k v):zq {F with fw:=o} σ k v:=by induction h with|mk a b c d=>exact⟨a,b,c,d⟩
theorem Rel.wW (S:Rel W (plus F b) σ m H x):Rel W F σ m H x:={S with fw:=S.fw.2,en:=λe=>(S.en e).mv}
theorem To.wW {σ':Sg} (t:To W (plus F b) m σ σ' H x):To W F m σ σ' H x:=⟨t.le,t.rel.wW⟩
theorem od.at {pre:List lq} {r:List lq} (h:od σ (pre++b::r)):∀p∈b,Mem σ (.fw r.length) p:=by
 induction pre with
 |nil=>exact h.1
 |cons c pre a=>exact a h.2
theorem od.chg {pre r:List lq} {σ':Sg} (d:Kp (·= .fw r.length) σ σ') (f:∀p∈b',Mem σ' (.fw r.length) p) (h:od σ (pre++b::r)):od σ' (pre++b'::r):=by
 induction pre with
 |nil=>exact⟨f,h.2.kp d λj a e=>cX _ (Ro.fw.inj e▸a)⟩
 |cons c pre i=>haveI a:∀{b:lq},(pre++b::r).length=pre.length+r.length+1:=aH;refine⟨λp g=> ?_,i h.2⟩;haveI q:=h.1 p g;exact⟨(q.kp d λe=>cX r.length (a9 (hO (eW _ _)) (bT (a.symm.trans (Ro.fw.inj e))))).l,(q.kp d λe=>cX r.length (a9 (hO (eW _ _)) (bT (a.symm.trans (Ro.fw.inj e))))).r.trans (congrArg Ro.fw (a.trans a.symm))⟩
theorem Rel.LY {pre:List lq} (S:Rel W {F with fw:=pre++b::F.fw} σ m H x) (k:∀a o,a∉b.map (·.1)->x.heap.get? a=V9 o->h'.get? a=V9 o) (d:∀p∈b',p.1∈b.map (·.1)/\h'.get? p.1=V9 p.2):
  To W {F with fw:=pre++b'::F.fw} m σ (Hr σ b b') H ⟨h',x.os,x.gens⟩:=by
 have A:=od.at S.fw;have M:∀{y},y∈b.map (·.1)->∃o,(y,o)∈b:=λh=>map_fst h;have g:∀{y},y∈b.map (·.1)->y≠F.env.locals/\W.h₀.get? y=Wa:=λh=>(M h).elim λo q=>(S.nw _ (A _ q).l).2;have c:Kp (·= .fw F.fw.length) σ (Hr σ b b'):=λp a n=>⟨aT _ (aG.2 ⟨a,decide_eq_true λh=>(M h).elim λo q=>n (A _ q).r⟩),rfl⟩;haveI f:σ.le (Hr σ b b'):=⟨id,id⟩;refine⟨f,⟨?_,λa o e=>k a o (λh=>nomatch e.symm.trans (g h).2) (S.fr.keep a o e),S.fr.above⟩,λp a=> ?_,S.len,λe=>(S.ob e).kp c (by simp) f,λe=>(S.tu e).kp c (by simp),λe=>((S.en e).kp c nofun f rfl).mv,λn e=>(S.lS n e).kp c nofun,
  S.fw.chg c λp a=>⟨bB _ a,(M (d p a).1).elim λo q=>(A _ q).r⟩,S.GV,S.os,S.gs⟩
 ·obtain⟨oL,e,ep,a,r⟩:=S.fr.ns;exact⟨oL,e,ep,k _ _ (λh=>(g h).1 rfl) a,r⟩
 ·rcases aZ.1 a with a|a
  ·exact⟨(d p a).2,g (d p a).1⟩
  ·haveI q:=aG.1 a;exact⟨k _ _ (of_decide_eq_true q.2) (S.nw p q.1).1,(S.nw p q.1).2⟩
theorem Rel.Ff (S:Rel W (plus F b) σ m H x) (k:∀a o,a∉b.map (·.1)->x.heap.get? a=V9 o->h'.get? a=V9 o) (a:∀p∈b',p.1∈b.map (·.1)/\h'.get? p.1=V9 p.2):
  To W (plus F b') m σ (Hr σ b b') H ⟨h',x.os,x.gens⟩:=S.LY (F:=F) (pre:=[]) k a
theorem Rel.B9 (S:Rel W F σ m H x) (c:Fr W.h₀ F.env.locals h' σ.mm) (d:News W.h₀ F.env.locals h' (b++σ.l)) (f:∀p∈σ.l,p.1∉b.map (·.1)):To W (plus F b) m σ (GU F σ b) H ⟨h',x.os,x.gens⟩:=
 have R:Rel W F (GU F σ b) m H ⟨h',x.os,x.gens⟩:=S.chg (X:=λ_=>False) (λp a _=>⟨aT _ a,if_neg (f p a)⟩) ⟨id,id⟩ c d S.len (λe=>.inr ⟨e,id⟩) .inl rfl id id λ_=>id
 ⟨⟨id,id⟩,{R with fw:=⟨λp a=>⟨bB _ a,if_pos (bN a)⟩,R.fw⟩,en:=λe=>(R.en e).mv}⟩
theorem Rel.A5 (S:Rel W F σ m H x) (k:∀b o,x.heap.get? b=V9 o->h'.get? b=V9 o) (a:∀p∈b,x.heap.get? p.1=Wa/\h'.get? p.1=V9 p.2):To W (plus F b) m σ (GU F σ b) H ⟨h',x.os,x.gens⟩:=
 S.B9 (S.fr.keptAll k) (λp c=>(aZ.1 c).elim (λq=>⟨(a p q).2,(S.fresh (a p q).1).1,(S.fresh (a p q).1).2.1⟩) λq=>⟨k _ _ (S.nw p q).1,(S.nw p q).2⟩) λp c h=>(map_fst h).elim λo q=>(S.fresh (a _ q).1).2.2 p c rfl
end
structure Ec (W:Wd) (tg:Expr) (I:Addr) (live:Hp->Prop) (P:List V->lq->Sg->Prop):Prop where
 mono:∀{vs b σ σ'},Sg.le σ σ'->P vs b σ->P vs b σ'
 iter:∀{A F b σ m H s vs} {K:Value->Shared->Prop},P vs b σ->Rel W (plus F b) σ m H (cx s)->K (.ref I) s->WN W A (pyIter (.ref I)) K s
 nil:∀{A F b σ m H s} {K:Option Value->Shared->Prop},A.handled=Wa->P [] b σ->Rel W (plus F b) σ m H (cx s)->live H->(∀h' σ',To W F m σ σ' H ⟨h',s.os,s.gens⟩->K Wa {s with heap:=h'})->WN W A (pyNext (.ref I)) K s
 cons:∀{A F b σ m H s v r} {K:Value->Shared->Prop},P (v::r) b σ->Rel W (plus F b) σ m H (cx s)->live H->(∀x b' h' tk σ',To W (plus F b') m σ σ' H ⟨h',s.os,s.gens⟩->VR σ' v x->P r b' σ'->K x {s with heap:=h',toks:=tk})->
  WN W A (pyNext (.ref I)) (λo s'=>∃x,o=V9 x/\WN W A (RS tg (.ref I) x) (λ_=>K x) s') s
noncomputable def owners:List String:=["enumerate","zip","dict_itemiterator","dict_reverseitemiterator","odict_iterator","itertools.zip_longest","itertools.pairwise"]
set_option backward.match.sparseCases true in
theorem FA {W:Wd} {A:Around} {tg:Expr} {I:Addr} {o:Obj} {n:String} {x:Value} {s:Shared} {Q:Unit->Shared->Prop} (d:s.heap.get? I=V9 o) (b:o.cls= .type n) (c:owners.contains n=Wc) (h:Q () s):
  WN W A (RS tg (.ref I) x) Q s:=by
 have a:WN W A (do
   let (.ref r,.ref a):=(gY I,x)|return
   let o ←load r
   match o.cls,o.data with
   | .type n,.fields vs=>
    if owners.contains n&&vs[0]? ==V9 (rawInt a) then
     rule "for.unpacks-the-owned-tuple"
     updateField r 0 .none
   |_,_=>pure ()) Q s:=by
  induction x with
  |ref a=>
   refine aI (wpAny_load d ?_);rw[b]
   induction o.data with
   |fields vs=>dsimp only;rw[c,kM];exact bE h
   |_=>exact bE h
  |_=>exact bE h
 cases tg<;>first|exact a|exact bE h
inductive One (I:Addr) (cls:String) (dat:List V->Obj->Prop) (src:Sg->Prop):List V->lq->Sg->Prop
 |mk {r o σ} (hc:o.cls= .type cls) (hd:dat r o) (hs:src σ):One I cls dat src r [(I,o)] σ
section
variable {W:Wd} {tg:Expr} {I:Addr} {live:Hp->Prop} {cls:String} {dat:List V->Obj->Prop} {src:Sg->Prop}
theorem Ec.one (j:owners.contains cls=Wc) (mono:∀{σ σ'},Sg.le σ σ'->src σ->src σ')
  (it:∀{A s o r} {K:Value->Shared->Prop},s.heap.get? I=V9 o->o.cls= .type cls->dat r o->K (.ref I) s->WN W A (pyIter (.ref I)) K s)
  (u:∀{A F σ m H s o} {K:Option Value->Shared->Prop},A.handled=Wa->Rel W F σ m H (cx s)->live H->src σ->s.heap.get? I=V9 o->o.cls= .type cls->dat [] o->(∀h',Bh I s.heap h'->K Wa {s with heap:=h'})->WN W A (pyNext (.ref I)) K s)
  (i:∀{A F σ m H s o v r} {K:Option Value->Shared->Prop},Rel W F σ m H (cx s)->live H->src σ->s.heap.get? I=V9 o->o.cls= .type cls->dat (v::r) o->
   (∀x f h' tk,VR σ v x->h'.get? I=V9 f->f.cls= .type cls->dat r f->ie I s.heap h'->K (V9 x) {s with heap:=h',toks:=tk})->WN W A (pyNext (.ref I)) K s):
  Ec W tg I live (One I cls dat src) where
 mono e h:=by induction h with|mk a b c=>exact .mk a b (mono e c)
 iter h S k:=by induction h with|mk a b c=>exact it (S.nw _ (S.fw.1 _ (.head _)).l).1 a b k
 nil {A F b σ m H s K} f h S l k:=by
  cases h with| @mk o _ a b c=>
  refine u f S l c (S.nw _ (S.fw.1 _ (.head _)).l).1 a b λh' X=> ?_;haveI t:To W (plus F []) m σ (Hr σ [(I,o)] []) H ⟨h',s.os,s.gens⟩:=S.Ff (λy o n e=>X y o (λq=>n (q▸.head _)) e) λp e=>(c8 e).elim;exact k h' _ t.wW
 cons {A F b σ m H s v r K} h S l k:=by
  cases h with| @mk o _ a b c=>
  refine i S l c (S.nw _ (S.fw.1 _ (.head _)).l).1 a b λx f h' tk w h g hd X=>⟨x,rfl,FA h g j ?_⟩;haveI t:To W (plus F [(I,f)]) m σ (Hr σ [(I,o)] [(I,f)]) H ⟨h',s.os,s.gens⟩:=S.Ff (λy o n e=>(X.2 y (λq=>n (q▸.head _))).trans e) λp e=>aD.1 e▸⟨.head _,h⟩;exact k x [(I,f)] h' tk _ t (w.le AT) (.mk g hd (mono AT c))
end
inductive O4 (vs:List V) (d:Nat->Array Value):List V->Obj->Prop
 |mk {o:Obj} (i:Nat) (h:o.data= .fields (d i)):O4 vs d (vs.drop i) o
theorem A6 {vs d o} {P:Prop} (h:O4 vs d [] o) (k:∀i,o.data= .fields (d i)->vs.length<=i->P):P:=by
 generalize e:([]:List V)=r at h
 induction h with|mk i h=>exact k i h (Bm.1 e.symm)
theorem xz {vs d v r o} {P:Prop} (h:O4 vs d (v::r) o) (k:∀i,o.data= .fields (d i)->vs[i]? =V9 v->(∀a:Obj,a.data= .fields (d (i+1))->O4 vs d r a)->P):P:=by
 generalize e:v::r=l at h
 induction h with|mk i h=>
 refine k i h ?_ λa h'=> ?_
 ·haveI:(vs.drop i)[0]? =V9 v:=e▸rfl
  rwa [qy]at this
 ·haveI:vs.drop (i+1)=r:=by rw[←LH,←e];rfl
  exact this▸.mk (i+1) h'
section
variable {W:Wd} {tg:Expr} {I ax:Addr}
theorem A7 {a:Type} {xs:List a} {i:Nat} (h:xs.length<=i):xs.toArray[i]? =Wa:=(zO ..).trans (bQ h)
theorem uJ {a:Type} {xs:List a} {i:Nat} {x:a} (h:xs[i]? =V9 x):xs.toArray[i]? =V9 x:=(zO ..).trans h
theorem FM {k:Nat} {vs:List V}:Ec W tg I (λH=>H[k]? =V9 (.list vs)) (One I "list_iterator" (O4 vs λi=> #[.ref ax,.int i 0]) λσ=>σ.ρ[k]? =V9 ax):=
 .one rfl (λa=>a.ρ) (λg c d h=>by induction d with|mk i d=>exact wpAny_pyIter_listiter ⟨_,g,c,d⟩ h)
  (λa S l e g c d h=>A6 d λi d hi=>(S.Fk l e).elim λws L=>L.elim λn L=>wpAny_pyNext_list_end a ⟨_,g,c,d⟩ ⟨_,L.g,rfl,_,rfl⟩ (A7 (L.v.length▸hi)) h)
  (λS l e g c d h=>xz d λi d hi b=>(S.Fk l e).elim λws L=>L.elim λn L=>(L.v.get hi).elim λx q=>wpAny_pyNext_list_item ⟨_,g,c,d⟩ ⟨_,L.g,rfl,_,rfl⟩ (uJ q.1) λh' a X=>a.elim λf z=>h x f h' _ q.2 z.1 z.2.1 (b _ z.2.2) X)
theorem Kz {vs:List V} {ws:List Value} {n:Nat}:Ec W tg I (λ_=>True) (One I "tuple_iterator" (O4 vs λi=> #[.ref ax,.int i 0]) λσ=>(ax,qT ws n)∈σ.tu/\kb σ vs ws):=
 .one rfl (λa h=>⟨a.tu h.1,h.2.le a⟩) (λg c d h=>by induction d with|mk i d=>exact wpAny_pyIter_tupleiter ⟨_,g,c,d⟩ h)
  (λa S l e g c d h=>A6 d λi d hi=>wpAny_pyNext_tuple_end a ⟨_,g,c,d⟩ ⟨_,S.fW e.1,rfl,_,rfl⟩ (A7 (e.2.length▸hi)) h)
  (λS l e g c d h=>xz d λi d hi b=>(e.2.get hi).elim λx q=>wpAny_pyNext_tuple_item ⟨_,g,c,d⟩ ⟨_,S.fW e.1,rfl,_,rfl⟩ (uJ q.1) λh' a X=>a.elim λf z=>h x f h' _ q.2 z.1 z.2.1 (b _ z.2.2) X)
end
end
section
open PySem.SeqAt
set_option maxRecDepth 100000
theorem yf:Manifest.owners.lookup (String.ofList ['d','e','s','r','e','v','e','r'].reverse)=V9 Manifest.sig_reversed:=by kernel_rfl
theorem i4:Slot "reversed" "__next__" "reversed.__next__":=
 .of (owner:="reversed") (n:="__next__") (by rw[pC,j5];kernel_rfl) (by decide+kernel) (by decide+kernel) (by decide+kernel)
  (by first|exact .inl (by decide+kernel)|exact .inr (by decide+kernel)) (by rw[zJ];kernel_rfl)
theorem oP:entryFor table "reversed.__next__"=V9 Builtin.«reversed.__next__»:=entryFor_of_tree (by kernel_rfl)
theorem qt (a:Value):argsOk "reversed.__next__" ⟨[a],[]⟩:=by rw[V1 (id:="reversed.__next__") (n:=['_','_','t','x','e','n','_','_']) (o:=['d','e','s','r','e','v','e','r']) (by kernel_rfl) yf];kernel_rfl
theorem pM:Slot "reversed" "__iter__" "reversed.__iter__":=
 .of (owner:="reversed") (n:="__iter__") (by rw[pC,j5];kernel_rfl) (by decide+kernel) (by decide+kernel) (by decide+kernel)
  (by first|exact .inl (by decide+kernel)|exact .inr (by decide+kernel)) (by rw[zJ];kernel_rfl)
theorem xA (a:Value):argsOk "reversed.__iter__" ⟨[a],[]⟩:=by rw[V1 (id:="reversed.__iter__") (n:=['_','_','r','e','t','i','_','_']) (o:=['d','e','s','r','e','v','e','r']) (by kernel_rfl) yf];kernel_rfl
theorem ve:entryFor table "reversed.__iter__"=V9 Builtin.«dict_keyiterator.__iter__»:=
 entryFor_alias (id':="dict_keyiterator.__iter__") (by kernel_rfl) (by first|rfl|decide+kernel|(simp+decide [String.splitOnAux])) (by decide+kernel) (by kernel_rfl)
theorem wM:Slot "reversed" "__init__" "object.__init__":=
 .of (owner:="object") (n:="__init__") (by rw[pC,j5];kernel_rfl) (by decide+kernel) (by decide+kernel) (by decide+kernel)
  (by first|exact .inl (by decide+kernel)|exact .inr (by decide+kernel)) (by rw[zJ];kernel_rfl)
theorem rq:TypeCalled "reversed" "reversed.__new__" "object.__init__":=
 ⟨by decide+kernel,by decide+kernel,⟨_,_,F.mro_reversed⟩,F.made_reversed,by decide+kernel,F.sub_reversed_self,wM⟩
theorem tp:typeLookup (.type "tuple") "__reversed__"=pure Wa:=by rw[pC,j5];kernel_rfl
noncomputable abbrev vJ (l:Value) (i:Int):Obj:={cls:=.type "reversed",data:=.fields #[l,rawInt i]}
def rC (h:Heap) (a:Addr) (l:Value) (i:Int):Prop:=∃o,h.get? a=V9 o/\o.cls= .type "reversed"/\o.data= .fields #[l,rawInt i]
theorem rC.typeIs {s:Shared} {a:Addr} {l:Value} {i:Int} (x:rC s.heap a l i):s.TypeIs (.ref a) "reversed":=let ⟨o,c,b,_⟩:=x;⟨o,c,b⟩
section
variable {prog:Program} {w:World} {A:Around} {E:Value->Shared->Prop} {s:Shared}
theorem vg {l:Addr} {items:Array Value} {n:Nat} {Q₁:Value->Shared->Prop} (d:s.heap.get? l=V9 {cls:=.type "tuple",data:=.seq items n}) (c:(items.size:Int)<2 ^ 63)
  (h:∀tk,Q₁ (.ref s.heap.objs.size) {s with heap:=s.heap.push (vJ (.ref l) ((items.size:Int)-1)),toks:=tk}):
  ly (model prog w) A (.call (.builtin "reversed.__new__") ⟨[.type "reversed",.ref l],[]⟩) (wants Q₁ E) s:=by
 haveI b:s.TypeIs (.ref l) "tuple":=⟨_,d,rfl⟩;refine RT (aI (jA (F.newCall_reversed_1 _) (bE ⟨plainId_quiet F.plain_reversed_new _,codeAny_builtin F.entry_reversed_new ?_⟩)));rw[Around.under_plainId F.plain_reversed_new _];refine aI (jA (newClass_reversed _) ?_)
 try dsimp only
 refine aI (jA (a:=()) (by first|rfl|kernel_rfl) ?_);refine aI (jA (a:=()) (by first|rfl|kernel_rfl) ?_)
 try dsimp only
 refine aI (pB b tp ?_)
 try dsimp only
 refine aI (aI (PP b PySem.F.sub_tuple_dict ?_));rw[if_neg (by decide)];refine aI (pB b kg.lookup ?_);dsimp only;rw[if_pos (by decide)];refine bE ?_;rw[if_neg (by decide)];refine aI (Bf d (by lia) ?_);refine aI (jA (a:=V9 (items.size:Int)) rfl ?_);refine aI ?_;delta Hc;refine m8 (bE (h _))
theorem Ds {l:Addr} {items:Array Value} {n:Nat} {Q:Value->Shared->Prop} (d:s.heap.get? l=V9 {cls:=.type "tuple",data:=.seq items n}) (b:(items.size:Int)<2 ^ 63)
  (h:∀tk,Q (.ref s.heap.objs.size) {s with heap:=s.heap.push (vJ (.ref l) ((items.size:Int)-1)),toks:=tk}):wpAny (model prog w) A (call (.type "reversed") [.ref l]) Q E s:=by
 refine callType_codes (Q₁:=λc a=>c= .ref s.heap.objs.size/\∃tk,a={s with heap:=s.heap.push (vJ (.ref l) ((items.size:Int)-1)),toks:=tk}) rq (F.typeCall_reversed_1 _) F.entry_object_init (vg d b λtk=>⟨rfl,tk,rfl⟩) ?_;rintro c a ⟨rfl,tk,rfl⟩;have a:Shared.TypeIs {s with heap:=s.heap.push (vJ (.ref l) ((items.size:Int)-1)),toks:=tk} (.ref s.heap.objs.size) "reversed":=⟨_,cJ _ rfl,rfl⟩;refine⟨a,F.args_object_init_2 _ _,?_⟩;exact object_init_meets rq.init.lookup rq.made (by decide) prog w A.in1 _ _ ⟨a,rfl,h tk⟩
theorem qZ {it l:Addr} {i:Nat} {items:Array Value} {n:Nat} {x:Value} {Q:Option Value->Shared->Prop} (b:rC s.heap it (.ref l) (i:Int)) (e:s.heap.get? l=V9 {cls:=.type "tuple",data:=.seq items n}) (g:items[i]? =V9 x) (c:(items.size:Int)<2 ^ 63)
  (h:∀h' tk,rC h' it (.ref l) ((i:Int)-1)->ie it s.heap h'->Q (V9 x) {s with heap:=h',toks:=tk}):wpAny (model prog w) A (pyNext (.ref it)) Q E s:=by
 injection 0 prog w A E s it l i items n with x Q b e g c h;obtain⟨o,d,m,hd⟩:=id b;haveI j:s.TypeIs (.ref l) "tuple":=⟨_,e,rfl⟩;haveI f:i<items.size:=(Array.getElem?_eq_some_iff.1 g).1;refine aI (Cq (oy (name:=aX "__next__") b.typeIs i4
  (kc i4 b.typeIs oP ?_ (qt _))))
 refine aI (jA (a:=(gY it,[])) rfl ?_)
 try dsimp only
 refine aI (qD d hd (x:=.ref l) rfl ?_);refine aI (qD d hd (x:=rawInt (i:Int)) rfl ?_);show wpAny _ _ (if(i:Int)<0 then _ else _) _ _ s;rw[if_neg (by lia)];refine aI (pB j kg.lookup ?_)
 try dsimp only
 rw[if_neg (by decide)];refine aI (wpAny_mkInt ?_);refine aI (Cq ?_);refine PySem.P.getItem_tuple (s:={s with toks:=s.toks+1}) (k:=i) e (by lia) (by lia) ?_ g ?_
 ·exact seqIndex_of (dC _) (dP.2 f)
 refine aI (qD (a:=it) (o:=o) (x:=rawInt (i:Int)) d hd rfl ?_);refine aI (zI (a:=it) (o:=o) d hd (vc) (bE ⟨x,rfl,bE (h _ _ ?_ (g8 ..))⟩));exact⟨_,fM _ d (Bg (kR hd _)),(Obj.cls_mapFields ..).trans m,by rw[kR hd];rfl⟩
theorem sg {it:Addr} {l:Value} {Q:Option Value->Shared->Prop} (e:A.handled=Wa) (c:rC s.heap it l (-1))
  (f:∀h',Bh it s.heap h'->Q Wa {s with heap:=h'}):wpAny (model prog w) A (pyNext (.ref it)) Q E s:=by
 injection 0 prog w A E s it l Q with e c f;obtain⟨o,d,h,hd⟩:=id c;refine aI (Cq (oy (name:=aX "__next__") c.typeIs i4
  (kc i4 c.typeIs oP ?_ (qt _))))
 refine aI (jA (a:=(gY it,[])) rfl ?_)
 try dsimp only
 refine aI (qD d hd (x:=l) rfl ?_);refine aI (qD d hd (x:=rawInt (-1)) rfl ?_);show wpAny _ _ (if(-1:Int)<0 then _ else _) _ _ s;rw[if_pos (by decide)];refine aI (Mp ?_);refine aI (aI (zI d hd (vc) ?_));haveI g:=fM (Obj.mapFields (·.setIfInBounds 1 (rawInt (-1)))) d (Bg (kR hd _));refine zI g (kR hd _) (ta) (aI (aI ?_));refine aI (m8 ?_ (by size_fits));refine aI (m:=SW _ _) (jA (a:=Value.none) (by first|rfl|(rw[SW];rfl)) ?_);refine m8 ?_ (by size_fits);refine aI (wpAny_handled ?_)
 first|rw[show A.in1.handled=Wa from e]|rw[e]
 refine aI (bE (wpAny_throw ?_));refine aI (PP (T:="StopIteration") (b:=Wb) ⟨_,cJ _ rfl,rfl⟩ isSubtype_stop ?_);exact bE (f _ ((((g8 ..).trans (g8 ..)).extBut.push _).push _))
theorem rR {it:Addr} {l:Value} {i:Int} {Q:Value->Shared->Prop} (a:rC s.heap it l i) (h:Q (.ref it) s):wpAny (model prog w) A (pyIter (.ref it)) Q E s:=by refine wpAny_pyIter_slot a.typeIs pM (kc pM a.typeIs ve ?_ (xA _));exact bE ⟨_,rfl,"reversed",_,a.typeIs,i4.lookup,h⟩
end
end
section
open PySem.SeqAt
section
variable {W:Wd} {tg:Expr} {I ax:Addr} {σ:Sg}
noncomputable abbrev CX (i k:Nat):Obj:={cls:=.type "range_iterator",dict:=Wa,data:=.fields #[rawInt i,rawInt k,rawInt 1],slots:= #[]}
noncomputable def nums (i k:Nat):List V:=(List.range' i k).map λj=>.int (j:Nat)
inductive SJ:List V->Obj->Prop
 |mk (i k:Nat):SJ (nums i k) (CX i k)
theorem NG {o} {P:Prop} (h:SJ [] o) (k:∀i,o=CX i 0->P):P:=by
 generalize e:([]:List V)=r at h
 induction h with|mk i n=>
 induction n with
 |zero=>exact k i rfl
 |succ n=>cases e
theorem J6 {v r o} {P:Prop} (h:SJ (v::r) o) (k:∀i n,o=CX i (n+1)->v= .int i->r=nums (i+1) n->P):P:=by
 generalize e:v::r=l at h
 induction h with|mk i n=>
 induction n with
 |zero=>cases e
 |succ n=>exact k i n rfl (eL e).1 (eL e).2
theorem De:Ec W tg I (λ_=>True) (One I "range_iterator" SJ λ_=>True):=
 .one rfl (λ_=>id) (λg c d h=>by cases d;exact wpAny_pyIter_rangeiter g h)
  (λa S l e g c d h=>NG d λi q=>wpAny_pyNext_range_end a (q▸g) (uU 0) h)
  (λ{A F σ m H s o v r K} S l e g c d h=>J6 d λi n q b a=>by subst q b a;refine wpAny_pyNext_range_item (x:=i) (left:=(n+1:Nat)) (step:=1) g (LJ.2 (zM n)) λh' a X=> ?_;rw[(by lia:((n+1:Nat):Int)-1=n)]at a;exact h _ (CX (i+1) n) h' _ (.int _ _) a rfl (.mk (i+1) n) X)
theorem ints_map {l:List V}:∀{is:List Int},intsOf l=V9 is->l=is.map .int:=by
 induction l with
 |nil=>exact λh=>aA h▸rfl
 |cons v l a=>intro is h;obtain⟨i,r,rfl,e,rfl⟩:=ints_cons h;exact congrArg _ (a e)
theorem xp {i:Nat} {b:List (V×V)} {h:Heap} {j:Obj} {is:List Int} (D:DA W σ i b h ax j) (c:intsOf (b.map (·.1))=V9 is):∃a,h.DictAt (eM W.prog W.w) ax a b.length/\b.map (·.1)=a.map (.int ·.1)/\a.length=b.length:=by obtain⟨a,⟨d,ep,l,f,m⟩,o,k,n⟩:=B2 D.d c;haveI e:=ints_map c;rw[←o,cI]at e;haveI g:a.length=b.length:=(aB _).symm.trans ((congrArg iS e).symm.trans (aB _));cases f.symm.trans n;exact⟨a,g▸⟨j,d,D.g,l,f,m⟩,e,g⟩
theorem FP (m:∃o,W.h₀.get? iu=V9 o) {k:Nat} {a:List (V×V)} {is:List Int} (b:intsOf (a.map (·.1))=V9 is):
  Ec W tg I (λH=>H[k]? =V9 (.dict a)) (One I "dict_keyiterator" (O4 (a.map (·.1)) λi=> #[.ref ax,.int i 0,.int a.length 0,.int a.length 0]) λσ=>σ.ρ[k]? =V9 ax):=
 .one rfl (λc=>c.ρ) (λg c d h=>by induction d with|mk i d=>exact wpAny_pyIter_keyiter (d:=ax) (i:=i) (n:=a.length) (ep:=a.length) ⟨_,g,c,d⟩ h)
  (λf S l e g c d h=>A6 d λi d hi=>(S.Fk l e).elim λw D=>(xp D b).elim λj q=>wpAny_pyNext_dict_end f (by rw[q.2.2];exact⟨_,g,c,d⟩) q.1 (bQ (q.2.2▸(aB (as:=a) _)▸hi)) h)
  (λS l e g c d h=>xz d λi o hi p=>(S.Fk l e).elim λw D=>(xp D b).elim λj q=>by rw[q.2.1,bC]at hi;obtain⟨⟨z,x⟩,s,rfl⟩:=cC.1 hi;refine wpAny_pyNext_dict_item (by rw[q.2.2];exact⟨_,g,c,o⟩) q.1 s λu h' hkey f X=>f.elim λv y=> ?_;obtain⟨t,r⟩:=DP hkey;rw[r];exact h _ v h' _ (.int _ _) y.1 y.2.1 (p _ (q.2.2▸y.2.2)) X)
inductive Bk (vs:List V) (d:Int->Array Value):List V->Obj->Prop
 |mk {o:Obj} (j:Nat) (hj:j<=vs.length) (h:o.data= .fields (d ((j:Int)-1))):Bk vs d (vs.take j).reverse o
theorem GQ {vs d o} {P:Prop} (h:Bk vs d [] o) (k:o.data= .fields (d (-1))->P):P:=by
 generalize e:([]:List V)=r at h
 induction h with|mk j a h=>
 induction j with
 |zero=>exact k h
 |succ j=>haveI:=congrArg iS e;haveI this:=(eT)▸this;haveI this:=(c9)▸this;have this:=(u8 a)▸this;cases this
theorem B7 {vs d v r o} {P:Prop} (h:Bk vs d (v::r) o) (k:∀j:Nat,o.data= .fields (d j)->vs[j]? =V9 v->(∀b:Obj,b.data= .fields (d ((j:Int)-1))->Bk vs d r b)->P):P:=by
 generalize e:v::r=l at h
 induction h with|mk j a h=>
 induction j with
 |zero=>cases e
 |succ j=>rw[List.take_succ_eq_append_getElem a,pD]at e;obtain⟨c,f⟩:=eL e;exact k j ((by lia:((j+1:Nat):Int)-1=j)▸h) (c▸aF a) λb h'=>f▸.mk j (Nat.le_of_succ_le a) h'
theorem KA {k:Nat} {vs:List V}:Ec W tg I (λH=>H[k]? =V9 (.list vs)) (One I "list_reverseiterator" (Bk vs λi=> #[.ref ax,rawInt i]) λσ=>σ.ρ[k]? =V9 ax):=
 .one rfl (λa=>a.ρ) (λg c d h=>by induction d with|mk j _ d=>exact Hv ⟨_,g,c,d⟩ h)
  (λa S l e g c d h=>GQ d λd=>wpAny_pyNext_rev_end (l:=ax) a ⟨_,g,c,d⟩ h)
  (λS l e g c d h=>B7 d λj d hi b=>(S.Fk l e).elim λws L=>L.elim λn L=>(L.v.get hi).elim λx q=>wpAny_pyNext_rev_item ⟨_,g,c,d⟩ ⟨_,L.g,rfl,_,rfl⟩ (uJ q.1) λh' a X=>a.elim λf z=>h x f h' _ q.2 z.1 z.2.1 (b _ z.2.2) X)
theorem FL {vs:List V} {ws:List Value} {n:Nat} (f:vs.length<=ic):Ec W tg I (λ_=>True) (One I "reversed" (Bk vs λi=> #[.ref ax,rawInt i]) λσ=>(ax,qT ws n)∈σ.tu/\kb σ vs ws):=
 .one rfl (λa h=>⟨a.tu h.1,h.2.le a⟩) (λg c d h=>by induction d with|mk j _ d=>exact rR ⟨_,g,c,d⟩ h)
  (λa S l e g c d h=>GQ d λd=>sg a ⟨_,g,c,d⟩ h)
  (λS l e g c d h=>B7 d λj d hi b=>(e.2.get hi).elim λx q=>qZ ⟨_,g,c,d⟩ (S.fW e.1) (uJ q.1) (ee (dQ.2 (aE (bT e.2.length.symm) f)) (by decide)) λh' tk a X=>a.elim λi z=>h x i h' _ q.2 z.1 z.2.1 (b _ z.2.2) X)
end
end
section
open PySem.SeqAt
section
variable {W:Wd} {I e ax:Addr}
noncomputable abbrev T4 (I:Addr) (i:Int) (old:Value):Obj:={cls:=.type "enumerate",dict:=Wa,data:=.fields #[.none,.bool Wc,.ref I,rawInt i,.none,old],slots:= #[]}
noncomputable def Mb (vs:List V):List V:=vs.mapIdx λn x=>.tup [.int n,x]
inductive En2 (e I ax:Addr) (k:Nat) (vs:List V):List V->lq->Sg->Prop
 |mk (i:Nat) {old:Value} {o:Obj} {σ:Sg} (hc:o.cls= .type "list_iterator") (hd:o.data= .fields #[.ref ax,.int i 0]) (hs:σ.ρ[k]? =V9 ax):En2 e I ax k vs ((Mb vs).drop i) [(e,T4 I i old),(I,o)] σ
theorem drop_cons {vs r:List V} {i:Nat} {v:V} (e:v::r=vs.drop i):vs[i]? =V9 v/\vs.drop (i+1)=r:=by
 refine⟨?_,?_⟩
 ·haveI:(vs.drop i)[0]? =V9 v:=e▸rfl
  rwa [qy]at this
 ·rw[←LH,←e];rfl
theorem FN {J:List Expr} {c:Nat} {p:Pos} {k:Nat} {vs:List V} (B:e≠I):Ec W (.Tuple J c p) e (λH=>H[k]? =V9 (.list vs)) (En2 e I ax k vs) where
 mono d h:=by induction h with|mk i a b c=>exact .mk i a b (d.ρ c)
 iter h S k:=by induction h with|mk i a b c=>exact O5 (S.nw _ (S.fw.1 _ (.head _)).l).1 k
 nil {A F b σ m H s K} d h S l k':=by
  generalize q:([]:List V)=r at h
  cases h with| @mk i j o _ a b c=>
  have w:IsEnum s.heap e I i j:=(S.nw _ (S.fw.1 _ (.head _)).l).1;have hi:=(S.nw _ (S.fw.1 _ (.tail _ (.head _))).l).1;haveI g:vs.length<=i:=(gM (l:=vs))▸Bm.1 q.symm;refine(S.Fk l c).elim λws L=>L.elim λn L=>wpAny_pyNext_enum_end d w ⟨_,hi,a,b⟩ ⟨_,L.g,rfl,_,rfl⟩ (A7 (L.v.length▸g)) λh' X=> ?_;haveI t:To W (plus F []) m σ (Hr σ _ []) H ⟨h',s.os,s.gens⟩:=S.Ff (λy o n e=>X y o (λq=>n (q▸.tail _ (.head _))) e) λp f=>(c8 f).elim;exact k' h' _ t.wW
 cons {A F b σ m H s v r K} h S l k':=by
  generalize q:v::r=r' at h
  cases h with| @mk i j o _ a b c=>
  have w:IsEnum s.heap e I i j:=(S.nw _ (S.fw.1 _ (.head _)).l).1;have hi:=(S.nw _ (S.fw.1 _ (.tail _ (.head _))).l).1;obtain⟨G,X⟩:=drop_cons q;rw[Mb,jY]at G;obtain⟨u,T,rfl⟩:=cC.1 G;refine(S.Fk l c).elim λws L=>L.elim λn L=>(L.v.get T).elim λx z=>wpAny_pyNext_enum_item w ⟨_,hi,a,b⟩ ⟨_,L.g,rfl,_,rfl⟩ (uJ z.1) B λh' v f R Q P=>⟨_,rfl,?_⟩;refine wpAny_letOwnedTupleGo_enum (s:={s with heap:=h',toks:=s.toks+1}) v λg h d=> ?_;haveI d:ie e h' g:=d;obtain⟨U,E,C,D⟩:=f;haveI t:To W (plus F [(e,T4 I ((i:Int)+1) x),(I,U)]) m σ (Hr σ _ _) H ⟨g,s.os,s.gens⟩:=S.Ff (λy o n f=>(d.2 y λq=>n (q▸.head _)).trans (P y o (λq=>n (q▸.head _)) (λq=>n (q▸.tail _ (.head _))) f)) λp f=>by
   cases f with
   |head=>exact⟨.head _,h⟩
   |tail _ f=>rw[aD.1 f];exact⟨.tail _ (.head _),(d.2 I B.symm).trans E⟩
  haveI y:=S.fresh (get_none s.heap);haveI M:=y.1;haveI N:=y.2.1;haveI O:=y.2.2;haveI f:=t.rel.RE (a:=s.heap.objs.size) (o:=qT [.int i s.toks,x] 0) ((d.2 _ (eD (d5 w))).trans R) ⟨M,N,λp f=>(aZ.1 f).elim (λf=>by
   cases f with
   |head=>exact cT (d5 w)
   |tail _ f=>rw[aD.1 f];exact cT (d5 hi)) λf=>O p (aG.1 f).1⟩
  exact k' _ _ g (s.toks+1) _ (t.trans f) (.tup (.head _) (aJ rfl:[_,_].length<=ic) (.cons (.int _ _) (.cons ((z.2.le AT).le Sg.nR) .nil))) (X▸.mk (i+1) C D c)
end
section
variable {W:Wd} {n:Nat} {Φ:d9}
def SI (W:Wd) (n:Nat) (Φ:d9) (it:I):Prop:=∀{F d e t A σ m H s Q} {K:Value->Shared->Prop},Cn n F A->mI tabs F.ns it F.sc d=Wb->mT F.ns t e=Wb->Se t it=Wb->Rel W F σ m H (cx s)->HT pd Φ it m H Q->
 (∀I P a vs b c σ' s',Ec W e I a P->To W (plus F b) m σ σ' c (cx s')->P vs b σ'->vs.length<=ic->Q vs a c->K (.ref I) s')->WN W A (eval d F.env) (λb a=>WN W A (pyIter b) K a) s
theorem Rel.DE {F σ m H x} (S:Rel W F σ m H x) {o:Obj} (a:(x.heap.push o).get? x.heap.objs.size=V9 o):To W (plus F [(x.heap.objs.size,o)]) m σ (GU F σ [(x.heap.objs.size,o)]) H ⟨x.heap.push o,x.os,x.gens⟩:=
 S.A5 ku λp b=>aD.1 b▸⟨get_none _,a⟩
theorem Ca {F:Fx} {σ:Sg} {b:lq}:σ.le (GU F σ b):=⟨id,id⟩
theorem EQ (G:Gd W) {e} (o:SE W n Φ e):SI W n Φ (.plain e):=λC l w m S h k=>aL l λ_ j=>
 o C j S h λv d c x b t r h=>by
  cases h with
  |list g q=>exact r.eList t.rel g λa ws p L=>wpAny_pyIter_list ⟨_,L.g,rfl,_,rfl⟩ (k _ _ _ _ _ _ _ {b with heap:=b.heap.push {cls:=.type "list_iterator",data:=.fields #[.ref a,.int 0 0]}} FM (t.trans (t.rel.DE (cJ _ rfl))) (.mk rfl (.mk 0 rfl) L.ρ) L.hl q)
  | @dict _ i f is _ g hi q=>
   exact r.qp t.rel g λa v D=>by obtain⟨p,s,_,u⟩:=xp D hi;refine wpAny_pyIter_dict (kY G.sys D.h0) s ?_;rw[u];exact k _ _ _ _ _ _ _ {b with heap:=b.heap.push {cls:=.type "dict_keyiterator",data:=.fields #[.ref a,.int 0 0,.int f.length 0,.int f.length 0]}} (FP G.sys hi) (t.trans (t.rel.DE (cJ _ rfl))) (.mk rfl (.mk 0 rfl) D.ρ) (aE (bT (aB _)) (aE D.hl (by decide))) q
  |tup q=>exact r.sr λa ws p f g i=>wpAny_pyIter_tuple ⟨_,t.rel.fW f,rfl,_,rfl⟩ (k _ _ _ _ _ _ _ {b with heap:=b.heap.push {cls:=.type "tuple_iterator",data:=.fields #[.ref a,.int 0 0]}} Kz (t.trans (t.rel.DE (cJ _ rfl))) (.mk rfl (.mk 0 rfl) ⟨f,i.le Ca⟩) g q)
theorem xj (G:Gd W) {F A σ m H s nm e j c Q K} (C:Cn n F A) (o:W.mg nm=Wa/\W.mb nm=V9 c) (d:∀a,c≠.ref a) (D:SE W n Φ e) (w:Sl nm F.sc j (mE tabs F.ns e F.sc)=Wb) (S:Rel W F σ m H (cx s)) (h:ej pd Φ e m H Q)
  (k:∀v a σ' x s',To W F m σ σ' a (cx s')->VR σ' v x->Q v a->WN W A (call c [x]) K s'):WN W A (eval j F.env) K s:=
 ip w λp E ks pos h'=>fm h' λy _ h'=>aL h' λz h'=>fC z<|aL h' λB h'=>aL h' λf h'=>fg h' λa r h'=>aL h' λz h'=>fC z<|aL h' λx u=>
 haveI b:rS tabs F.ns (.cons e .nil) F.sc [a]=Wb:=cL.2 ⟨u,x⟩
 jy (FC G C.f S f ((of_decide_eq_true B:nm=y)▸o) (fS b (pY d) (lI D pN (Q:=λvs H=>match vs with|[v]=>Q v H|_=>False) C b S h λvs i g xs l t r h=>⟨trivial,by
  induction r with
  |nil=>exact h.elim
  |cons r q=>induction q with
   |nil=>exact k _ _ _ _ _ t r h
   |cons=>exact h.elim⟩)))
theorem EP (G:Gd W) {e} (u:SE W n Φ e):SI W n Φ (.range e):=λ{F y z t A σ m H s Q K} C l w p S h k=>
 xj G C G.rng (by simp) u l S h λv d c x a t r h=>by
  cases h with| @mk j Q i q=>
  refine r.gq λtk=>call_range_1 ?_;haveI f:rH 0 (j:Int) 1=(j:Int):=by delta rH;simp only[show(1:Int)>0 by decide,if_true];split<;>lia
  refine wpAny_pyIter_range (r:=a.heap.objs.size) (cJ _ rfl) ?_ ?_
  ·delta PX;rw[f];simp[PY];lia
  ·rw[f];haveI b:Rel W F c m d (cx {a with heap:=a.heap.push {cls:=.type "range",data:=.fields #[.int 0 a.toks,.int j tk,.int 1 (a.toks+1)]},toks:=a.toks+1+1}):=t.rel.grow ku;generalize a.heap.push {cls:=.type "range",data:=.fields #[.int 0 a.toks,.int j tk,.int 1 (a.toks+1)]}=g at b⊢;rw[List.range_eq_range']at q;exact k _ _ _ _ _ _ _ {a with heap:=g.push (CX 0 j),toks:=a.toks+1+1} De (t.trans (b.DE (o:=CX 0 j) (cJ _ rfl))) (.mk rfl (.mk 0 j) trivial) (aE (bT ((aB _).trans List.length_range')) (aE i (by decide))) q
theorem ID (G:Gd W) {e} (M:SE W n Φ e):SI W n Φ (.enum e):=λ{F N z t A σ m H s Q K} C B J o S h k=>by
 cases t with
 |one=>cases o
 |two R T=>
  refine wC (C:=λz=>(∀I P a vs b c σ' s',Ec W z I a P->To W (plus F b) m σ σ' c (cx s')->P vs b σ'->vs.length<=ic->Q vs a c->K (.ref I) s')->WN W A (eval N F.env) (λa d=>WN W A (pyIter a) K d) s) J (λO c p _ k=> ?_) k;refine xj G C G.enu (by simp) M B S h λv y w x d t r h=> ?_
  cases h with|enum g q=>
  refine r.eList t.rel g λa ws P L=>call_enumerate_1 L.g λh' f b E v=>O5 f ?_;obtain⟨I,l,i,j⟩:=b;haveI D:=get_none d.heap;refine k _ _ _ _ _ _ _ {d with heap:=h'} (FN (s0 _)) (t.trans (t.rel.A5 (b:=[(d.heap.objs.size+1,T4 d.heap.objs.size 0 .none),(d.heap.objs.size,I)]) v λp u=> ?_)) (.mk 0 i j L.ρ) (aE (bT gM) L.hl) q
  cases u with
  |head=>exact⟨c5 (fY _),f⟩
  |tail _ u=>rw[aD.1 u];exact⟨D,l⟩
theorem GS {vs d} {o:Obj} (h:o.data= .fields (d ((vs.length:Int)-1))):Bk vs d vs.reverse o:=by
 haveI:=Bk.mk vs.length (aK _) h
 rwa [bZ]at this
theorem Nd (G:Gd W) {e} (p:SE W n Φ e):SI W n Φ (.rev e):=λ{F y z t A σ m H s Q K} C l w o S h k=>
 xj G C G.rev (by simp) p l S h λv j f x b t r h=>by
  cases h with
  | @rev _ i xs _ g q=>
   exact r.eList t.rel g λa ws u L=>PySem.call_reversed_list ⟨_,L.g,rfl,_,rfl⟩ (Hv ⟨_,cJ _ rfl,rfl,rfl⟩
    (k _ _ _ _ _ _ _ {b with heap:=b.heap.push (revObj a ((ws.toArray.size:Int)-1))} KA (t.trans (t.rel.DE (cJ _ rfl))) (.mk rfl (GS (L.v.length▸rfl)) L.ρ) (aE (bT eT) L.hl) q))
  | @Qy _ xs _ q=>
   exact r.sr λa ws u g c d=>Ds (t.rel.fW g) (ee (dQ.2 (aE (bT d.length.symm) c)) (by decide)) λtk=>
    rR (s:={b with heap:=b.heap.push (vJ (.ref a) ((ws.toArray.size:Int)-1)),toks:=tk}) ⟨_,cJ _ rfl,rfl,rfl⟩
    (k _ _ _ _ _ _ _ {b with heap:=b.heap.push (vJ (.ref a) ((ws.toArray.size:Int)-1)),toks:=tk} (FL c) (t.trans (t.rel.DE (cJ _ rfl))) (.mk rfl (GS (d.length▸rfl)) ⟨g,d.le Ca⟩) (aE (bT eT) c) q)
end
end
section
open PySem.SeqAt
section
variable {W:Wd} {n:Nat} {Φ:d9}
theorem pG.plus {F:Fx} (a:pG F) (b:lq):pG (plus F b):=⟨a.kind,a.glob,a.A3,a.inj,a.knd,a.KZ,a.Pq,a.lS,a.Pn,a.ncd⟩
theorem Cs.plus {F:Fx} {A:Around} (C:Cs n F A) (b:lq):Cs n (plus F b) A:=⟨⟨C.f.plus b,C.a⟩,C.nf⟩
theorem B8 {t:T} {v:V} {m m':En} {P:Prop} (h:jN t v m=V9 m') (c:∀k,t= .one k->m'=setM m k v->P) (d:∀k l a b,t= .two k l->v= .tup [a,b]->m'=setM (setM m k a) l b->P):P:=by
 cases t with
 |one k=>obtain rfl:=aA h;exact c k rfl rfl
 |two k l=>
  cases v with
  |tup vs=>
   cases vs with
   |nil=>exact nn h
   |cons a vs=>cases vs with
    |nil=>exact nn h
    |cons b vs=>induction vs with
     |nil=>obtain rfl:=aA h;exact d k l a b rfl rfl rfl
     |cons=>exact nn h
  |_=>exact nn h
theorem rX {F σ m H m'} {A:Around} {s:Shared} {t:T} {f:Expr} {v:V} {x:Value} {K:Unit->Shared->Prop} (h:pG F) (w:A.handled=Wa) (g:∀k∈F.nE,∀x,F.ns[k]? =V9 x->k∈EH t->F.env.kindOf x≠V9 .free)
  (n:mT F.ns t f=Wb) (hi:Pz F.nE t=Wb) (S:Rel W F σ m H (cx s)) (o:VR σ v x) (u:jN t v m=V9 m') (q:∀h' tk σ',To W F m' σ σ' H ⟨h',s.os,s.gens⟩->K () {s with heap:=h',toks:=tk}):WN W A (assign f F.env x) K s:=
 B8 u (λk e a=>by subst e a;exact fm (C:=λf=>WN W A (assign f F.env x) K s) n λy p e=>m9 (store h S (mem_of hi) (of_decide_eq_true e) (g _ (mem_of hi) _ (of_decide_eq_true e) (.head _)) o q))
 λk l a b e c d=>by
  subst e c d;refine wC (C:=λf=>WN W A (assign f F.env x) K s) n λt c p3 h'=>fg h' λb r h'=>fg h' λd r h'=>aL h' λz h'=>fC z<|fm h' λy p1 h'=>fm h' λz p2 h'=>aL h' λe h'=>aL h' λhz p=>aL hi λi j=> ?_
  haveI e:=of_decide_eq_true e;haveI hz:=of_decide_eq_true hz;exact uK h w S (mem_of i) e (g _ (mem_of i) _ e (.head _)) (mem_of j) hz (g _ (mem_of j) _ hz (.tail _ (.head _))) o q
theorem BY {N ns it sc a env x} (h:mI N ns it sc a=Wb):u1 a env x=pure x:=by
 have b:∀{f},kO a f=Wb->u1 a env x=pure x:=λh=>ip (C:=λa=>u1 a env x=pure x) h λ_ _ _ _ _=>rfl
 cases it with
 |plain e=>exact aL h λc _=>by clear h;cases a<;>first|rfl|cases c
 |_=>exact b h
inductive FLI (W:Wd) (Φ:d9) (b:Ss) (t:T) (F:Fx) (live:Hp->Prop) (P:List V->lq->Sg->Prop) (Q:Fl->En->Hp->Prop) (σ:Sg) (k:Nat) (s:Shared):Prop
 |mk {vs:List V} {b₁:lq} {σ':Sg} {m:En} {H:Hp} (hk:vs.length=k) (t₁:To W (plus F b₁) m σ σ' H (cx s)) (hP:P vs b₁ σ') (h:forL live t (λm H Q=>eQ pd Φ b m H Q) vs m H Q):FLI W Φ b t F live P Q σ k s
theorem Nb {t it b} (u:SI W n Φ it) (p:Ck W n Φ b):SS W n Φ (.eP t it b):=by
 intro F ps A σ m H s Q K C N S h E;injection 0 W n Φ t it b F ps A σ with u p m H s Q K C N S h E;injection 0 m H s Q K with u p C N S h E;exact MJ N λpt pi pb e pos h'=>aL h' λz h'=>fC z<|aL h' λht h'=>aL h' λL h'=>aL h' λhi h'=>aL h' λO hb=>by
  refine wpAny_For (u C.toCn hi ht O S h λI P w vs Z H' σ' ae D a l _ c=> ?_) λ_=>BY hi;refine codeAny_forLoop_any (FLI W Φ b t F w P Q σ) ?_ vs.length (.mk rfl a l c);intro k g q
  induction q with| @mk vs aa T ab X e d l c=>
  rw[←e]
  induction vs with
  |nil=>rcases c with⟨M,c⟩;exact gX (D.nil C.a.hh l d.rel M λh' o a=>kQ (E _ _ _ _ _ {g with heap:=h'} (d.trans a) .next c))
  |cons v r=>
   haveI M:=c.1;haveI c:=c.2;obtain⟨ac,J,c⟩:=jG c;refine ek (D.cons l d.rel M λx B h' tk o a rx G=> ?_) (λo y f=>by obtain⟨x,f,q⟩:=f;rw[f];exact gX q) (λ_ _ h=>(by cases h));exact gX (rX (F:=plus F B) (s:={g with heap:=h',toks:=tk}) (C.f.plus B) C.a.hh (λk f x i _ e=>C.nf e k f i) ht L a.rel rx J λq tk U i=>gX (p (F:=plus F B) (s:={g with heap:=q,toks:=tk}) (C.plus B) hb i.rel c λfl ad Y V f y j hf c=>by
    have R:=((d.trans a).trans i).trans j;haveI l:=D.mono j.le (D.mono i.le G)
    induction hf with
    |next=>exact⟨r.length,dt _,.mk rfl R l c⟩
    |cont=>exact⟨r.length,dt _,.mk rfl R l c⟩
    |ret hv=>exact E _ _ _ _ _ _ R.wW (.ret hv) c))
end
end
section
open PySem.SeqAt
noncomputable def ky (env:Env) (a:List (Str×ft)):List (Str×Addr):=((a.filter λp=>p.2== .free).map λp=>(p.1,(env.cells.lookup p.1).getD 0)).reverse
theorem Dq (env:Env) (p:Str×ft) (r:List (Str×ft)):ky env (p::r)=if p.2== .free then ky env r++[(p.1,(env.cells.lookup p.1).getD 0)] else ky env r:=by
 delta ky;rw[eK];by_cases h:(p.2==fT)=Wb
 ·rw[if_pos h,if_pos h,cS,jk]
 ·rw[if_neg h,if_neg h]
theorem xr {env:Env} {f:Str×ft->List (Str×Addr)->Sem (ForInStep (List (Str×Addr)))}
  (g:∀p a,f p a=if p.2== .free then(do let c ←cellOf env p.1;pure (.yield ((p.1,c)::a))) else pure (.yield a)) (a:List (Str×ft)):
  ∀b:List (Str×Addr),(∀y∈a,y.2= .free->(env.cells.lookup y.1).isSome=Wb)->forIn a b f=pure (ky env a++b):=by
 induction a with
 |nil=>exact λ_ _=>kL
 |cons p r i=>
  intro b h;rw[nA,g,Dq];haveI e:=λb=>i b λy a=>h y (.tail _ a);by_cases a:(p.2==fT)=Wb
  ·obtain⟨c,d⟩:=cW.1 (h p (.head _) (beq_iff_eq.1 a));rw[if_pos a,if_pos a,d,bF];delta cellOf;rw[d];exact e _
  ·rw[if_neg a,if_neg a];exact e b
theorem AR {env:Env} {scope:Scope} (h:∀y∈scope.names,y.2= .free->(env.cells.lookup y.1).isSome=Wb):closureFor scope env=pure (ky env scope.names):=by dsimp only[closureFor];rw[xr (λ_ _=>rfl) scope.names [] h,bY];rfl
theorem yp {env:Env} {a:List (Str×ft)} {p:Str×Addr}:p∈ky env a↔(p.1,.free)∈a/\p.2=(env.cells.lookup p.1).getD 0:=by
 injection 0 env a p;delta ky;rw[gw,aM];constructor
 ·rintro⟨⟨n,k⟩,e,rfl⟩;haveI b:=aG.1 e;haveI c:=b.1;haveI d:=b.2;exact⟨beq_iff_eq.1 d▸c,rfl⟩
 ·intro h;exact⟨_,aG.2 ⟨h.1,rfl⟩,Bi rfl h.2.symm⟩
theorem AS {env:Env} {a:List (Str×ft)} (b:(a.map (·.1)).Nodup):((ky env a).map (·.1)).Nodup:=by rw[gx,(rK _).nodup_iff,cI];exact b.sublist (CD.map _)
theorem vh (a:List (Str×ft)):∀(k:Nat) (b:List (Str×Addr)),dK k a b=dK k a []++b:=by
 induction a with
 |nil=>exact λ_ _=>rfl
 |cons p r c=>
  intro k b;dsimp only[dK];by_cases h:(p.2==kG)=Wb
  ·rw[if_pos h,if_pos h,c (k+1) (_::b),c (k+1) [_],bF];rfl
  ·rw[if_neg h,if_neg h];exact c k b
theorem lookup_append {b:Type} {l l':List (Str×b)} {x:Str}:(l++l').lookup x=match l.lookup x with|some v=>V9 v|none=>l'.lookup x:=by
 induction l with
 |nil=>rfl
 |cons p r a=>
  rw[e8,dA,dA]
  induction x==p.1 with
  |true=>rfl
  |false=>exact a
theorem Fa {a:List (Str×ft)} {k:Nat} {x:Str} {c:Addr} (h:(x,c)∈dK k a []):(x,kG)∈a:=by injection 0 a k x c with h;haveI b:=bN (f:=(·.1)) h;rw[hJ,gL,bY,gw]at b;obtain⟨⟨y,kd⟩,i,rfl⟩:=aM.1 b;haveI d:=aG.1 i;haveI e:=d.1;haveI g:=d.2;exact beq_iff_eq.1 g▸e
section
variable {M:Model} {A:Around} {E:Value->Shared->Prop} {s:Shared}
theorem vd {scope:Scope} {b:Addr} {cl:List (Str×Addr)} {e:Str} {d:Value} {c:Env} {a:Addr} {Q:Env->Shared->Prop}
  (f:Q (newEnv scope s.heap.objs.size b (dK (s.heap.objs.size+1) scope.names []++cl) e Wa d (V9 c) a) {s with heap:=wp (s.heap.push {cls:=.type "dict",data:=.dict #[]}) scope.names}):
  wpAny M A (newFunctionEnv scope b cl [] e Wa d (V9 c) a) Q E s:=by
 refine aI (wpAny_alloc ?_);refine aI (wpAny_layCells _ (λ_ _ _=>rfl) scope.names cl _ _ ?_);rw[show({s with heap:=s.heap.push {cls:=.type (if(V9 c).isSome=Wb then "dict" else "frame"),data:=.dict #[]}}:Shared).heap.objs.size=s.heap.objs.size+1 from kH ..,vh];exact bE f
end
structure lm (ns:List Str) (ic:List Nat) (t:T) (o sc:Scope):Prop where
 kind:sc.kind= .function
 OC:∀k∈ic,∃x,ns[k]? =V9 x/\sc.names.lookup x=V9 .free
 xV:∀k∈EH t,∃x,ns[k]? =V9 x/\(sc.names.lookup x=V9 .local\/sc.names.lookup x=V9 .cell)
 iw:∀y∈sc.names,sc.names.lookup y.1=V9 y.2/\y.1≠aX "__classdict__"/\y.1≠wg/\(y.2= .free->(o.names.lookup y.1=V9 .cell\/o.names.lookup y.1=V9 .free)/\∀k,ns[k]? =V9 y.1->k∈ic)
 nd:(sc.names.map (·.1)).Nodup
 inj:((ic++EH t).map λk=>ns[k]?).Nodup
theorem wQ {a b:Bool} {P:Prop} (h:(a||b)=Wb) (k:a=Wb->P) (k':b=Wb->P):P:=(kl.1 h).elim k k'
theorem jf {b:Type} {o:Option b} {f:b->Bool} (h:vS o f=Wb):∃a,o=V9 a/\f a=Wb:=wD (D:=λo=>∃a,o=V9 a/\f a=Wb) h λa e=>⟨a,rfl,e⟩
theorem AD {a b:Str} (h:(!L8 a b)=Wb):a≠b:=λe=>(absurd ((il h).symm.trans (beq_iff_eq.2 e)) ec)
theorem v8 {ns ic t o sc} (h:Gu ns ic t o sc=Wb):lm ns ic t o sc:=
  by
 injection 0 ns ic t o sc with h;exact aL h λf h=>aL h λg h=>aL h λi h=>aL h λj h=>aL h λl m=>
  ⟨of_decide_eq_true f,λk d=>(jf (bW.1 g k d)).imp λx q=>⟨q.1,of_decide_eq_true q.2⟩,λk d=>(jf (bW.1 i k d)).imp λx q=>⟨q.1,wQ q.2 (λh=>.inl (of_decide_eq_true h)) λh=>.inr (of_decide_eq_true h)⟩,
   λy n=>aL (bW.1 j y n) λa h=>aL h λb h=>aL h λc h=>⟨of_decide_eq_true a,AD b,AD c,λe=>wQ h (λh=>absurd e (of_decide_eq_false (il h))) λh=>aL h λa b=>
    ⟨wQ a (λh=>.inl (of_decide_eq_true h)) λh=>.inr (of_decide_eq_true h),λk d=>wQ (bW.1 b k (aW.2 (cD.1 d).1)) (λh=>(absurd ((il h).symm.trans (decide_eq_true d)) ec)) mem_of⟩⟩,
   of_decide_eq_true l,of_decide_eq_true m⟩
theorem uf {env:Env} {x:Str} {a:List (Str×ft)}:
  (a.map λ(n,k)=>if(k==fT&&env.scope.kind== .function&&env.kindOf n==V9 .cell) then(n,kG) else(n,k)).lookup x=
   (a.lookup x).map λk=>if(k==fT&&env.scope.kind== .function&&env.kindOf x==V9 .cell) then .cell else k:=by
 injection 0 env x a
 induction a with
 |nil=>rfl
 |cons p r b=>
  haveI e:((if(p.2==fT&&env.scope.kind== .function&&env.kindOf p.1==V9 .cell)=Wb then(p.1,kG) else(p.1,p.2)):Str×ft)=(p.1,if(p.2==fT&&env.scope.kind== .function&&env.kindOf p.1==V9 .cell)=Wb then .cell else p.2):=by split<;>rfl
  refine(congrArg (s4 x) (congrArg (·::_) e)).trans ?_;rw[dA,dA]
  induction a:x==p.1 with
  |true=>rw[beq_iff_eq.1 a];rfl
  |false=>exact b
section
variable {scope:Scope} {cl:List (Str×Addr)} {C:Addr} {env:Env} {x:Str}
theorem mz:(qF scope cl C env).kindOf x=(scope.names.lookup x).map λk=>if(k==fT&&env.scope.kind== .function&&env.kindOf x==V9 .cell) then .cell else k:=uf
theorem mD {k:ft} (h:scope.names.lookup x=V9 k) (a:(k==fT)=Wc):(qF scope cl C env).kindOf x=V9 k:=by rw[mz,h,jX,a];rfl
theorem kind_free (h:scope.names.lookup x=V9 .free):(qF scope cl C env).kindOf x=V9 .cell\/(qF scope cl C env).kindOf x=V9 .free:=by
 rw[mz,h,jX];split
 ·exact .inl rfl
 ·exact .inr rfl
theorem vU (h:(qF scope cl C env).kindOf x=V9 .free):scope.names.lookup x=V9 .free:=by
 rw[mz]at h;obtain⟨k,e,q⟩:=cC.1 h;split at q
 ·cases q
 ·rw[e,q]
end
noncomputable abbrev nW (F:Fx) (sc:Scope) (C:Addr):List (Str×Addr):=dK (C+1) sc.names []++ky F.env sc.names
noncomputable abbrev kz (F:Fx) (sc:Scope) (C:Addr):Env:=qF sc (nW F sc C) C F.env
noncomputable abbrev Hs (F:Fx) (sc:Scope) (C:Addr) (ic:List Nat) (t:T) (b:lq):Fx:=⟨kz F sc C,F.ns,ic++EH t,sc,b::F.fw⟩
section
variable {F:Fx} {sc:Scope} {C:Addr} {ic:List Nat} {t:T} {x:Str} {c:Addr}
theorem E9 (b:lm F.ns ic t F.sc sc) (h:sc.names.lookup x=V9 .cell):∃c,(nW F sc C).lookup x=V9 c/\(x,c)∈dK (C+1) sc.names []:=by obtain⟨c,a⟩:=cW.1 (jc b.nd (C+1) h);exact⟨c,by rw[lookup_append,a],dE a⟩
theorem px (f:pG F) (e:lm F.ns ic t F.sc sc) (h:(x,c)∈ky F.env sc.names):(x,fT)∈sc.names/\F.env.cells.lookup x=V9 c:=by obtain⟨a,b⟩:=yp.mp h;obtain⟨d,hd⟩:=cW.1 (f.lS x ((e.iw _ a).2.2.2 rfl).1).2;rw[show F.env.cells.lookup (x,c).1=V9 d from hd]at b;exact⟨a,hd.trans (congrArg V9 (show c=d from b).symm)⟩
theorem uA (f:pG F) (b:lm F.ns ic t F.sc sc) (h:sc.names.lookup x=V9 .free):∃c,(nW F sc C).lookup x=V9 c/\F.env.cells.lookup x=V9 c/\(x,c)∈ky F.env sc.names:=by
 have a:(x,(F.env.cells.lookup x).getD 0)∈ky F.env sc.names:=yp.mpr ⟨dE h,rfl⟩;refine⟨_,?_,(px f b a).2,a⟩;rw[lookup_append]
 induction e:(dK (C+1) sc.names []).lookup x with
 |none=>exact im (AS b.nd) a
 |some d=>exact nomatch h.symm.trans (b.iw _ (Fa (dE e))).1
theorem pj (h:(nW F sc C).lookup x=V9 c):(x,c)∈dK (C+1) sc.names []\/(x,c)∈ky F.env sc.names:=aZ.1 (dE h)
structure G3 (F:Fx) (sc:Scope) (C:Addr) (h:Heap):Prop where
 empty:∀x c,(x,c)∈dK (C+1) sc.names []->h.IsCell c Wa/\C<c
 apart:(dK (C+1) sc.names []).Pairwise λx y=>x.2≠y.2
theorem C3 {c o:Type} {f:c->o} {l:List c} (n:(l.map f).Nodup) {a b:c} (h:a∈l) (k:b∈l) (e:f a=f b):a=b:=by obtain⟨i,hi,d⟩:=oF.1 h;obtain⟨j,m,g⟩:=oF.1 k;haveI:i=j:=(sG (h₀:=(aB f).symm▸hi) (h₁:=(aB f).symm▸m) n).1 (by rw[Hk,Hk,d,g,e]);subst this;exact d.symm.trans g
theorem OO (i:pG F) (d:lm F.ns ic t F.sc sc) {b:lq} {h:Heap} (g:G3 F sc C h) (j:∀x c,x≠wg->F.env.cells.lookup x=V9 c->c<C):pG (Hs F sc C ic t b):=by
 injection 0 F sc C ic t b h with i d g j;have own:∀{x},sc.names.lookup x=V9 .cell->(kz F sc C).kindOf x=V9 .cell/\((kz F sc C).cells.lookup x).isSome=Wb:=λh=>⟨mD h rfl,(E9 (C:=C) d h).elim λc q=>cW.2 ⟨c,q.1⟩⟩;have l:∀{x},sc.names.lookup x=V9 .free->((kz F sc C).kindOf x=V9 .cell\/(kz F sc C).kindOf x=V9 .free)/\((kz F sc C).cells.lookup x).isSome=Wb:=λh=>⟨kind_free h,(uA (C:=C) i d h).elim λc q=>cW.2 ⟨c,q.1⟩⟩;haveI m:∀k∈ic++EH t,∀x,F.ns[k]? =V9 x->sc.names.lookup x=V9 .free\/sc.names.lookup x=V9 .local\/sc.names.lookup x=V9 .cell:=λk a x e=>(aZ.1 a).elim
  (λa=>(d.OC k a).elim λy q=>.inl (aA (e.symm.trans q.1)▸q.2)) λa=>(d.xV k a).elim λy q=>.inr (aA (e.symm.trans q.1)▸q.2)
 haveI f:∀{x y c},(x,c)∈dK (C+1) sc.names []->(y,c)∈ky F.env sc.names->x=y:=λq q'=>
  absurd (dy (g.empty _ _ q).2 (j _ _ (d.iw _ (px i d q').1).2.2.1 (px i d q').2)) (cX _)
 refine⟨d.kind,i.glob,i.A3,λk a k' c x e n=>C3 d.inj a c (e.trans n.symm),λk a x e=> ?_,λx y c e n=> ?_,λk a e=> ?_,λx h=>h.elim (λh=>⟨.inl (own h).1,(own h).2⟩) l,λx h=> ?_,λx h=> ?_⟩
 ·rcases m k a x e with q|q|q
  ·exact .inr (l q)
  ·exact .inl (mD q rfl)
  ·exact .inr ⟨.inl (own q).1,(own q).2⟩
 ·rcases pj e with q|q<;>rcases pj n with q'|q'
  ·exact name_of_addr g.apart q q'
  ·exact f q q'
  ·exact(f q' q).symm
  ·exact i.KZ x y c (px i d q).2 (px i d q').2
 ·have:=λ{k} q=>(d.iw (wg,k) (dE q)).2.2.1 rfl;rcases m k a _ e with q|q|q<;>exact this q
 ·exact aL h λa b=>cL.2 ⟨decide_eq_true (mD (C:=C) (cl:=nW F sc C) (env:=F.env) (of_decide_eq_true a) rfl),b⟩
 ·exact beq_eq_false_iff_ne.2 (d.iw _ (dE (vU h))).2.1
theorem Lf (c:lm F.ns ic t F.sc sc) {k:Nat} (d:k∈EH t) {x:Str} (e:F.ns[k]? =V9 x):(kz F sc C).kindOf x≠V9 .free:=λq=>by obtain⟨y,b,a⟩:=c.xV k d;obtain rfl:=aA (e.symm.trans b);rw[vU q]at a;exact a.elim (by simp) (by simp)
end
end
section
open PySem.SeqAt
section
theorem pq {ic:List Nat} {m:En} {k:Nat} {v:V}:getM (iD ic m) k=V9 v↔k∈ic/\getM m k=V9 v:=by
 delta getM iD;rw[jY]
 induction m[k]? with
 |none=>exact⟨nn,nofun⟩
 |some o=>
  show(if ic.contains k=Wb then o else Wa)=V9 v↔_;by_cases a:ic.contains k=Wb
  ·rw[if_pos a];exact⟨λh=>⟨mem_of a,h⟩,λh=>h.2⟩
  ·rw[if_neg a];exact⟨nn,λh=>absurd (dZ.2 h.1) a⟩
section
variable {W:Wd} {F:Fx} {sc:Scope} {C D:Addr} {ic:List Nat} {t:T} {σ:Sg} {m:En} {H:Hp} {x:Cx} {b:lq} {h₁:Heap} {oL:Obj}
noncomputable def j0 (F:Fx) (σ:Sg) (sc:Scope) (oL:Obj):lq:=(F.env.locals,oL)::(we σ).filter λp=>decide (p.1∉(ky F.env sc.names).map (·.2))
noncomputable abbrev cFr (F:Fx) (σ:Sg) (sc:Scope) (C:Addr) (ic:List Nat) (t:T) (oL:Obj):Fx:=Hs F sc C ic t (j0 F σ sc oL)
noncomputable def Hq (F:Fx) (σ:Sg) (sc:Scope) (b rb:lq) (D:Addr) (accO oL:Obj) (own:lq):Sg:=
 ⟨σ.ρ,σ.tu,λy=>if y∈b.map (·.1) then .fw (F.fw.length+2) else if y=D then .fw (F.fw.length+1) else if y∈rb.map (·.1) then .fw F.fw.length else if y∈own.map (·.1) then .cell else σ.ro y,own++(D,accO)::(F.env.locals,oL)::σ.l,λ_=>Wa⟩
theorem Os (S:Rel W (plus F b) σ m H x) (G:pG F) (w:lm F.ns ic t F.sc sc) {accO:Obj} (v:x.heap.get? F.env.locals=V9 oL) (I:∀b o,x.heap.get? b=V9 o->h₁.get? b=V9 o) (N:∀{a o},x.heap.get? a=V9 o->a<D) (g:D<C)
  (s:h₁.get? D=V9 accO) (B:h₁.Ns C λ_=>Wa) (l:G3 F sc C h₁):To W (plus (plus (cFr F σ sc C ic t oL) [(D,accO)]) b) (iD ic m) σ (Hq F σ sc b (j0 F σ sc oL) D accO oL (j3 h₁ (dK (C+1) sc.names []))) H ⟨h₁,x.os,x.gens⟩:=by
 injection 0 W F sc C D ic t σ m H with x b h₁ oL S G w accO v I N g s B l;injection 0 x b h₁ oL accO with S G w v I N g s B l;have u:∀{p},p∈σ.l->p.1<D:=λd=>N (S.nw _ d).1;have A:=N v;have base:W.h₀.objs.size<=D:=aE S.fr.above (cO A);have i:∀{p},p∈j3 h₁ (dK (C+1) sc.names [])->C<p.1/\h₁.get? p.1=V9 p.2:=λd=>by refine uX λP=> ?_;obtain⟨⟨x,c⟩,e,rfl⟩:=aM.1 d;obtain⟨⟨o,h,_⟩,a⟩:=l.empty x c e;exact P (⟨a,by rw[h];rfl⟩)
 haveI J:∀{y},y<C->y∉(j3 h₁ (dK (C+1) sc.names [])).map (·.1):=λa p=>(map_fst p).elim λo q=>cX _ (dy a (i q).1);have E:∀{y},y∈b.map (·.1)->σ.ro y= .fw F.fw.length/\y<D/\y≠F.env.locals:=λh=>(map_fst h).elim λo q=>haveI M:=S.fw.1 _ q;⟨M.r,u M.l,(S.nw _ M.l).2.1⟩;have O:∀{y},y∈(j0 F σ sc oL).map (·.1)->y=F.env.locals\/σ.ro y= .cell/\y<D/\y≠F.env.locals/\y∉(ky F.env sc.names).map (·.2):=λh=>(map_fst h).elim λo q=>by
  cases q with
  |head=>exact .inl rfl
  |tail _ q=>haveI z:=aG.1 q;haveI a:=aG.1 z.1;exact .inr ⟨vX a.2,u a.1,(S.nw _ a.1).2.1,of_decide_eq_true z.2⟩
 haveI K:∀{y},y∈(j0 F σ sc oL).map (·.1)->y<D:=λh=>(O h).elim (λe=>e▸A) λq=>q.2.1;haveI Q:∀{y},y∈(j0 F σ sc oL).map (·.1)->y∉b.map (·.1):=λh h'=>(O h).elim (λe=>(E h').2.2 e) λq=>nomatch q.1.symm.trans (E h').1;have L:∀{y},y<D->y∉b.map (·.1)->y∉(j0 F σ sc oL).map (·.1)->(Hq F σ sc b (j0 F σ sc oL) D accO oL (j3 h₁ (dK (C+1) sc.names []))).ro y=σ.ro y:=λa c d=>
  (if_neg c).trans ((if_neg (cT a)).trans ((if_neg d).trans (if_neg (J (dy a g)))))
 have k:Kp (λr=>r= .cell\/r= .fw F.fw.length) σ (Hq F σ sc b (j0 F σ sc oL) D accO oL (j3 h₁ (dK (C+1) sc.names []))):=λp d n=>
  ⟨aT _ (.tail _ (.tail _ d)),L (u d) (λh=>n (.inr (E h).1)) λh=>(O h).elim (λe=>(S.nw p d).2.1 e) λq=>n (.inl q.1)⟩
 have n:∀{y c o},(y,c)∈ky F.env sc.names->Mem σ .cell (c,o)->Mem (Hq F σ sc b (j0 F σ sc oL) D accO oL (j3 h₁ (dK (C+1) sc.names []))) .cell (c,o):=λp M=>
  ⟨aT _ (.tail _ (.tail _ M.l)),(L (u M.l) (λh=>nomatch M.r.symm.trans (E h).1) λh=>(O h).elim (λe=>(S.nw _ M.l).2.1 e) λq=>q.2.2.2 (bN (f:=(·.2)) p)).trans M.r⟩
 haveI z:∀{p},p∈j3 h₁ (dK (C+1) sc.names [])->Mem (Hq F σ sc b (j0 F σ sc oL) D accO oL (j3 h₁ (dK (C+1) sc.names []))) .cell p:=λd=>
  haveI a:=dy g (i d).1
  ⟨bB _ d,(if_neg λh=>cX _ (dy a (E h).2.1)).trans ((if_neg (eD a)).trans ((if_neg λh=>cX _ (dy a (K h))).trans (if_pos (bN d))))⟩
 refine⟨⟨id,id⟩,⟨B,λa o e=>I a o (S.fr.keep a o e),aE base (cO g)⟩,λp d=> ?_,S.len,λe=>(S.ob e).kp k (by simp) ⟨id,id⟩,λe=>(S.tu e).kp k (by simp),λe=> ?_,λ{y c} _ e=> ?_,?_,S.GV,S.os,S.gs⟩
 ·rcases aZ.1 d with d|d
  ·exact⟨(i d).2,eD (i d).1,c5 (aE base (cO (dy g (i d).1)))⟩
  ·cases d with
   |head=>exact⟨s,cT g,c5 base⟩
   |tail _ d=>cases d with
    |head=>exact⟨I _ _ v,cT (dy A g),c5 S.fr.above⟩
    |tail _ d=>exact⟨I _ _ (S.nw p d).1,cT (dy (u d) g),(S.nw p d).2.2⟩
 ·obtain⟨a,e⟩:=pq.mp e
  induction S.en e with|mk V R r h=>
  refine uX λP=> ?_;obtain⟨y,T,j⟩:=w.OC _ a;obtain rfl:=aA (R.symm.trans T);obtain⟨c,y,l2,U⟩:=uA (C:=C) G w j;refine P (⟨bB _ a,R,VR.le (σ:=σ) (σ':=Hq F σ sc b (j0 F σ sc oL) D accO oL _) ⟨id,id⟩ r,?_⟩)
  induction h with
  |loc d _=>haveI q:=(G.lS _ ((w.iw _ (dE j)).2.2.2 rfl).1).1;rw[show F.env.kindOf _=V9 .local from d]at q;exact q.elim (by simp) (by simp)
  |lS d p M hd=>obtain rfl:=aA (l2.symm.trans p);exact .lS (kind_free j) y (n U M) hd
 ·rcases pj e with q|q
  ·obtain⟨⟨o,h,hd⟩,_⟩:=l.empty y c q;exact⟨z (p:=(c,o)) (aM.2 ⟨_,q,by rw[h];rfl⟩),hd⟩
  ·obtain⟨d,p⟩:=px G w q
   induction S.lS (w.iw _ d).2.2.1 p with|mk M hd=>exact⟨n q M,hd⟩
 ·refine⟨λp d=>⟨aT _ (.tail _ (.tail _ (S.fw.1 p d).l)),if_pos (bN d)⟩,λp d=> ?_,λp d=>⟨aT _ (.tail _ ?_),?_⟩,S.fw.2.kp k λj a=> ?_⟩
  ·rw[aD.1 d];exact⟨aT _ (.head _),(if_neg λh=>cX _ (E h).2.1).trans (if_pos rfl)⟩
  ·cases d with
   |head=>exact .head _
   |tail _ d=>exact .tail _ (aG.1 (aG.1 d).1).1
  ·haveI:=bN (f:=(·.1)) d;exact(if_neg (Q this)).trans ((if_neg (cT (K this))).trans (if_pos this))
  ·exact λe=>e.elim (by simp) λe=>cX _ (Ro.fw.inj e▸a)
noncomputable def Fe (F:Fx) (σ:Sg) (σ':Sg) (sc:Scope) (oL a:Obj) (i:Nat) (C D:Addr):Sg:=
 ⟨σ'.ρ++[D],σ'.tu,λy=>if y=C then .fw F.fw.length else if y=D then .obj i else if y∈(j0 F σ sc oL).map (·.1) then .cell else σ'.ro y,(C,a)::σ'.l.filter λp=>p.1 != F.env.locals,σ.mm⟩
theorem N4 {σ' f J l ws n xs} (S:Rel W F σ m H x) (I:pG F) (s:lm F.ns ic t F.sc sc) (z:x.heap.get? F.env.locals=V9 oL) (E:To W (plus (cFr F σ sc C ic t oL) [(D,gk ws n)]) (iD ic m) σ σ' f J) (O:xs.length<=Mine.ic) (g:kb σ' xs ws) (w:J.heap.get? C=V9 l):
  To W (plus F [(C,l)]) m σ (Fe F σ σ' sc oL l f.length C D) (f++[.list xs]) J:=by
 injection 0 W F sc C D ic t σ m H with x oL σ' f J l ws n xs S I s z E O g w;injection 0 x oL σ' f J l ws n xs with S I s z E O g w;have a:=E.rel;have A:Mem σ' (.fw (F.fw.length+1)) (D,gk ws n):=a.fw.1 _ (.head _);have P:∀p∈j0 F σ sc oL,Mem σ' (.fw F.fw.length) p:=a.fw.2.1;haveI rr:∀{y},y∈(j0 F σ sc oL).map (·.1)->σ'.ro y= .fw F.fw.length:=λh=>(map_fst h).elim λo q=>(P _ q).r;have K:∀{p},p∈σ'.l->p.1≠C:=λb=>(a.nw _ b).2.1;have u:=P _ (.head _);haveI V:=(a.nw _ u.l).1;haveI B:σ'.le (Fe F σ σ' sc oL l f.length C D):=⟨λe=>(bH (cD.1 e).1).trans e,id⟩;have U:∀{p},p∈σ'.l->σ'.ro p.1≠.fw F.fw.length->p.1≠F.env.locals:=λb n e=>n (e▸u.r);have k:Kp (λr=>r= .fw F.fw.length\/r= .fw (F.fw.length+1)) σ' (Fe F σ σ' sc oL l f.length C D):=λp b n=>
  ⟨.tail _ (aG.2 ⟨b,bne_iff_ne.2 (U b λe=>n (.inl e))⟩),(if_neg (K b)).trans ((if_neg λ(e:p.1=D)=>n (.inr ((congrArg σ'.ro e).trans A.r))).trans (if_neg λh=>n (.inl (rr h))))⟩
 haveI G:∀{p},p∈(we σ).filter (λp=>decide (p.1∉(ky F.env sc.names).map (·.2)))->Mem (Fe F σ σ' sc oL l f.length C D) .cell p:=λb=>by haveI M:=P _ (.tail _ b);exact⟨.tail _ (aG.2 ⟨M.l,bne_iff_ne.2 (S.nw _ (aG.1 (aG.1 b).1).1).2.1⟩),(if_neg (K M.l)).trans ((if_neg λe=>s0 _ (Ro.fw.inj (A.r.symm.trans ((congrArg σ'.ro e).symm.trans M.r)))).trans (if_pos (bN (.tail _ b))))⟩
 have rest:∀{p},Mem σ .cell p->p.1∉(ky F.env sc.names).map (·.2)->Mem (Fe F σ σ' sc oL l f.length C D) .cell p:=λM h=>G (aG.2 ⟨aG.2 ⟨M.l,by rw[M.r];rfl⟩,decide_eq_true h⟩);have d:∀{c},c∈(ky F.env sc.names).map (·.2)->∃y,sc.names.lookup y=V9 .free/\(nW F sc C).lookup y=V9 c/\F.env.cells.lookup y=V9 c:=λh=>by obtain⟨⟨y,c⟩,b,rfl⟩:=aM.1 h;injection 0 y c with b h;obtain⟨e,o⟩:=px I s b;refine uX λi=> ?_;obtain⟨d,j,l2,_⟩:=uA (C:=C) I s (s.iw _ e).1;obtain rfl:=aA (l2.symm.trans o);exact i (⟨y,(s.iw _ e).1,j,l2⟩)
 refine⟨E.le.trans B,⟨?_,a.fr.keep,S.fr.above⟩,λp b=> ?_,?_,λ{i o} e=> ?_,λe=>(a.tu e).kp k (λe=>e.elim (by simp) (by simp)),λ{i v} e=> ?_,λ{y c} n e=> ?_,⟨λp b=> ?_,a.fw.2.2.kp k λj b e=> ?_⟩,λe=>a.GV e,a.os,a.gs⟩
 ·obtain⟨o,b,ep,e,r⟩:=S.fr.ns;obtain rfl:=aA (z.symm.trans e);exact⟨oL,b,ep,V,r⟩
 ·cases b with
  |head=>exact⟨w,λe=>K u.l e.symm,c5 a.fr.above⟩
  |tail _ b=>haveI q:=aG.1 b;exact⟨(a.nw _ q.1).1,bne_iff_ne.1 q.2,(a.nw _ q.1).2.2⟩
 ·exact(aH (as:=σ'.ρ)).trans ((congrArg (·+1) a.len).trans (aH (as:=f) (bs:=[.list xs])).symm)
 ·rcases F5 e with q|⟨rfl,rfl⟩
  ·exact(a.ob q).kp k (λe=>e.elim (by simp) (by simp)) B
  ·refine⟨?_,.list O (g.le B),λp b=>aD.1 b▸⟨.tail _ (aG.2 ⟨A.l,bne_iff_ne.2 (U A.l λe=> ?_)⟩),(if_neg (K A.l)).trans (if_pos rfl)⟩⟩
   ·rw[←a.len];exact g9
   ·exact s0 _ (Ro.fw.inj (A.r.symm.trans e))
 ·induction S.en e with|mk Q g r b=>
  induction b with
  |loc L j=>exact⟨Q,g,r.le (E.le.trans B),.loc L j⟩
  | @lS c o L j M hd=>
   by_cases h:c∈(ky F.env sc.names).map (·.2)
   ·obtain⟨y,p,N,T⟩:=d h;cases I.KZ _ _ _ T j
    induction a.en (pq.mpr ⟨((s.iw _ (dE p)).2.2.2 rfl).2 _ g,e⟩)with|mk X R r' y=>
    obtain rfl:=aA (g.symm.trans R)
    induction y with
    |loc p1 _=>haveI q:=kind_free (cl:=nW F sc C) (C:=C) (env:=F.env) p;rw[show(qF sc (nW F sc C) C F.env).kindOf _=V9 .local from p1]at q;exact q.elim (by simp) (by simp)
    |lS p1 p2 q b=>obtain rfl:=aA (N.symm.trans p2);exact⟨Q,g,r'.le B,.lS L j (q.kp k (λe=>e.elim nofun nofun)) b⟩
   ·exact⟨Q,g,r.le (E.le.trans B),.lS L j (rest M h) hd⟩
 ·induction S.lS n e with|mk M hd=>
  by_cases h:c∈(ky F.env sc.names).map (·.2)
  ·obtain⟨i,p,N,T⟩:=d h
   induction a.lS (s.iw _ (dE p)).2.2.1 N with|mk q b=>exact⟨q.kp k (λe=>e.elim nofun nofun),b⟩
  ·exact⟨rest M h,hd⟩
 ·rw[aD.1 b];exact⟨.head _,if_pos rfl⟩
 ·exact e.elim (λe=>cX _ (Ro.fw.inj e▸b)) λe=>cX _ (dy (dt _) (Ro.fw.inj e▸b))
end
end
end
section
open PySem.SeqAt
section
theorem mG {m:En} {k k':Nat} {v:V} (h:k≠k'):getM (setM m k v) k'=getM m k':=by delta getM setM;rw[eJ h]
theorem A4 {t:T} {v:V} {m m':En} {k:Nat} (h:jN t v m=V9 m') (c:k∉EH t):getM m' k=getM m k:=
 B8 h (λj e a=>by subst e a;exact mG λq=>c (q▸.head _)) λj l a b e d f=>by subst e d f;exact(mG (k:=l) (k':=k) λq=>c (q▸.tail _ (.head _))).trans (mG (k:=j) (k':=k) λq=>c (q▸.head _))
theorem F1 {a:List Nat} {t:T}:Pz (a++EH t) t=Wb:=by
 cases t with
 |one k=>exact dZ.2 (aT _ (.head _))
 |two k l=>exact cL.2 ⟨dZ.2 (aT _ (.head _)),dZ.2 (aT _ (.tail _ (.head _)))⟩
section
variable {W:Wd} {n:Nat} {Φ:d9}
theorem To.weaken {F σ m m' σ' H x} (t:To W F m σ σ' H x) (a:∀{k v},getM m' k=V9 v->getM m k=V9 v):To W F m' σ σ' H x:=⟨t.le,{t.rel with en:=λe=>t.rel.en (a e)}⟩
theorem Ar {A:Around} {F b D ws c σ m H} {s:Shared} {x:Value} {K:Value->Shared->Prop} (S:Rel W (plus (plus F [(D,gk ws c)]) b) σ m H (cx s)) (d:ws.length<=gP)
  (k:∀h' σ',To W (plus (plus F [(D,gk (ws++[x]) (c+1))]) b) m σ σ' H ⟨h',s.os,s.gens⟩->K .none {s with heap:=h'}):WN W A (call (.builtin "list.append") [.ref D,x]) K s:=
 append_at (S.nw _ (S.fw.2.1 _ (.head _)).l).1 (λh' f a=>by rw[List.push_toArray]at a;haveI t:To W (plus (plus F [(D,gk (ws++[x]) (c+1))]) b) m σ _ H ⟨h',s.os,s.gens⟩:=S.LY (F:=F) (pre:=[b]) (b:=[(D,gk ws c)]) (λy o n e=>(f.2 y λq=>n (q▸.head _)).trans e) λp e=>aD.1 e▸⟨.head _,a⟩;exact k h' _ t) d
noncomputable def AI (d:List Expr) (env:Env) (b:Bool):Sem Bool:=forIn d b λc r=>if r=Wb then do let a ←isTrue c env (eval c env);pure (Bo a) else pure (Bo r)
def Lo (W:Wd) (n:Nat) (Φ:d9) (bs:Bs):Prop:=∀{F a A σ m H s Q K},Cn n F A->QS tabs F.ns bs F.sc a=Wb->Rel W F σ m H (cx s)->jI pd Φ bs m H Q->KB W F m σ Q K->WN W A (AI a F.env Wb) K s
theorem AH {env:Env} (a:List Expr):AI a env Wc=pure Wc:=by
 delta AI
 induction a with
 |nil=>exact kL
 |cons p a b=>rw[nA,if_neg ec];exact b
theorem IN:Lo W n Φ .nil:=λ{F a A σ m H s Q K} C b S h k=>fC (C:=λa=>WN W A (AI a F.env Wb) K s) b (by delta AI;rw[kL];exact bE (k _ _ _ _ S.to h))
theorem EU {b r} (l:SB W n Φ b) (c:Lo W n Φ r):Lo W n Φ (.cons b r):=λ{F f A σ m H s Q K} C g S h k=>fg (C:=λf=>WN W A (AI f F.env Wb) K s) g λp q h'=>aL h' λi j=>by
 delta AI;rw[nA,if_pos rfl];refine aI (aI (l C i S h λx e d a t h=>bE ?_))
 induction x with
 |true=>exact c C j t.rel h (k.to t)
 |false=>exact(congrArg (λM=>WN W A M K a) (AH q)).mpr (bE (k _ _ _ _ t h))
inductive CLI (W:Wd) (Φ:d9) (elt:E) (t:T) (ifs:Bs) (Fc:Fx) (D:Addr) (mm:En) (live:Hp->Prop) (P:List V->lq->Sg->Prop) (Qx:List V->Hp->Prop) (σ:Sg) (k:Nat) (s:Shared):Prop
 |mk {vs acc:List V} {b:lq} {σ₁:Sg} {H:Hp} {ws:List Value} {nn:Nat} (hk:vs.length=k) (t₁:To W (plus (plus Fc [(D,gk ws nn)]) b) mm σ σ₁ H (cx s)) (hv:kb σ₁ acc ws) (hP:P vs b σ₁) (hl:acc.length+vs.length<=Mine.ic)
  (h:ux live t mm (λm H Q=>jI pd Φ ifs m H Q) (λm H Q=>ej pd Φ elt m H Q) vs acc H Qx):CLI W Φ elt t ifs Fc D mm live P Qx σ k s
theorem Dp {z t G} (aa:Lo W n Φ G) (ab:SE W n Φ z) {F:Fx} {sc:Scope} {C D I:Addr} {a:List Nat} {K:lq} {A:Around} {pelt tg pi:Expr} {p:List Expr} {pos:Pos} {l:Hp->Prop} {m:En} {P}
  (hC:lm F.ns a t F.sc sc) (Y:pG (Hs F sc C a t K)) (hA:OX n A) (he:mE tabs F.ns z sc pelt=Wb) (ht:mT F.ns t tg=Wb) (hb:QS tabs F.ns G sc p=Wb)
  {Qx:List V->Hp->Prop} {R:Result->Shared->Prop} {σ:Sg}
  (hR:∀s' σ' xs ws O b,To W (plus (Hs F sc C a t K) [(D,gk ws O)]) (iD a m) σ σ' b (cx s')->kb σ' xs ws->xs.length<=Mine.ic->Qx xs b->R (.ok .next) s')
  {vs b i H} {s:Shared} (N:Ec W tg I l P) (L:To W (plus (plus (Hs F sc C a t K) [(D,gk [] 0)]) b) (iD a m) σ i H (cx s)) (U:P vs b i) (d:vs.length<=Mine.ic)
  (h:ux l t (iD a m) (λm H Q=>jI pd Φ G m H Q) (λm H Q=>ej pd Φ z m H Q) vs [] H Qx):
  ly (model W.prog W.w) A (.compLoop (.ListComp pelt [⟨tg,pi,p,0⟩] sc pos) 0 (.ref I) (.ref D) (kz F sc C)) R s:=by
 injection 0 W n Φ z t G F sc C D with aa ab I a K A pelt tg pi p pos l m P hC Y hA he ht hb Qx R σ hR vs b i H s N L U d h;haveI T:∀{k v},getM (iD a m) k=V9 v->k∉EH t:=λe f=>by obtain⟨x,g,j⟩:=hC.OC _ (pq.mp e).1;obtain⟨y,k,c⟩:=hC.xV _ f;obtain rfl:=aA (g.symm.trans k);rw[j]at c;exact c.elim (by decide) (by decide)
 refine codeAny_loop rfl (CLI W Φ z t G (Hs F sc C a t K) D (iD a m) l P Qx σ) ?_ vs.length (.mk rfl L .nil U (aE (bT (gR _)) d) h);intro k u q
 induction q with| @mk vs S b af Q ws O e w hv U d j=>
 rw[←e];show wpAny _ A ((compTurn (.ListComp pelt [⟨tg,pi,p,0⟩] sc pos) 0 (.ref I) (.ref D) (kz F sc C)).onRaise (λx=>do wq x (kz F sc C);theTreesLotGoes x)) _ _ u;refine wpAny_noted ?_;rw[compTurn_list];refine aI (fQ (aI ?_))
 induction vs with
 |nil=>rcases j with⟨hl,j⟩;exact gX (N.nil hA.hh U w.rel hl λh' J c=>bE (hR {u with heap:=h'} J S ws O Q (w.trans c) (hv.le c.le) d j))
 |cons v r=>
  refine uX λk_=> ?_;haveI hl:=j.1;haveI j:=j.2;obtain⟨ac,X,j⟩:=jG j;refine k_ (ek (N.cons U w.rel hl λx b' h' tk J c rx ad=> ?_) (λo f c=>by obtain⟨x,c,q⟩:=c;rw[c];exact aI (gX q)) (λ_ _ h=>(by cases h)));have B:∀{k v},getM (iD a m) k=V9 v->getM ac k=V9 v:=λe=>(A4 X (T e)).trans e;have M:Cn n (plus (plus (Hs F sc C a t K) [(D,gk ws O)]) b') A:=⟨(Y.plus _).plus _,hA⟩;have E:S.length+1+r.length<=Mine.ic:=aE (bT (Ej _ _ _)) d;refine aI (gX (rX (F:=plus (plus (Hs F sc C a t K) [(D,gk ws O)]) b') (s:={u with heap:=h',toks:=tk}) M.f hA.hh (λk _ x e f=>Lf hC f e) ht F1 c.rel rx X λZ tk ag f=>
   aI (gX (aa (F:=plus (plus (Hs F sc C a t K) [(D,gk ws O)]) b') (s:={u with heap:=Z,toks:=tk}) M hb f.rel j λo ak ah an g j=> ?_))))
  have tt:=(w.trans c).trans (f.trans g);haveI y:=N.mono g.le (N.mono f.le ad)
  induction o with
  |false=>exact bE ⟨rfl,r.length,dt _,.mk rfl (tt.weaken B) (hv.le (c.le.trans (f.le.trans g.le))) y (aE (oX (fY _) _) E) j⟩
  |true=>
   exact aI (aI (gX (ab (F:=plus (plus (Hs F sc C a t K) [(D,gk ws O)]) b') M he g.rel j λxa al ai xv ao o ae j=>aI (gX (Ar (tt.trans o).rel (sz (hv.length▸aE (fG _ _) d) (by decide)) λam aj q=>
    bE (bE ⟨rfl,r.length,dt _,.mk rfl (((tt.trans o).trans q).weaken B) ((hv.le ((c.le.trans (f.le.trans g.le)).trans (o.le.trans q.le))).append (.cons (ae.le q.le) .nil)) (N.mono q.le (N.mono o.le y)) (aE (bT (congrArg (·+r.length) aH)) E) j⟩))))))
end
end
end
section
open PySem.SeqAt
section
variable {W:Wd} {n:Nat} {Φ:d9}
theorem Oc {F σ sc b rb D accO oL own}:Sg.le σ (Hq F σ sc b rb D accO oL own):=⟨id,id⟩
theorem v7 {w t it E J} (ab:SI W n Φ it) (Z:Lo W n Φ E) (aa:SE W n Φ w) {F:Fx} {pelt tg O:Expr} {l:List Expr} {sc:Scope} {pos p0:Pos} {A:Around} {σ:Sg} {m:En} {H:Hp} {s:Shared} {Q:V->Hp->Prop}
  {use:Option (Value->Sem Unit)} {Q₂:Value->Shared->Prop} (G:Cn n F A) (he:mE tabs F.ns w sc pelt=Wb) (ht:mT F.ns t tg=Wb) (hi:mI tabs F.ns it F.sc O=Wb) (hb:QS tabs F.ns E sc l=Wb)
  (z:lm F.ns J t F.sc sc) (B:Se t it=Wb) (S:Rel W F σ m H (cx s)) (h:ej pd Φ (.comp w t it E J) m H Q)
  (C:∀D C x s' σ' L v,To W (plus F [(C,x)]) m σ σ' L (cx s')->(∃a,∀h:Heap,h.get? C=V9 x->h.Ns C a)->VR σ' v (.ref D)->Q v L->compPost (model W.prog W.w) A Ht use Q₂ (.ref D) C (.ok .next) s'):
  WN W A (comprehension (.ListComp pelt [⟨tg,O,l,0⟩] sc pos) sc F.env p0 (newList []) Wc (eval O F.env) use) Q₂ s:=by
 refine wpAny_comprehension_free rfl (λ_=>BY hi) (AR λy a e=>(G.f.lS y.1 ((z.iw y a).2.2.2 e).1).2) z.kind (λx Y e=>e▸(z.iw x Y).1) (ab G hi ht B S h λI P ae vs b L σ' a U f N D hq=> ?_);obtain⟨oL,es,ep,K,_⟩:=id f.rel.fr.ns;refine m8 (vd ?_);haveI q:∀b o,a.heap.get? b=V9 o->(a.heap.push (gk [] 0)).get? b=V9 o:=ku;haveI p:(a.heap.push (gk [] 0)).get? a.heap.objs.size=V9 (gk [] 0):=cJ _ rfl;haveI u:(a.heap.push (gk [] 0)).objs.size=a.heap.objs.size+1:=kH ..;generalize a.heap.push (gk [] 0)=d at q p u⊢;have y:a.heap.objs.size<d.objs.size:=u▸dt _;have ok:=cellsFrom_ok sc.names (d.push {cls:=.type "dict",data:=.dict #[]}) (d.objs.size+1) [] ⟨λ_ _ e=>((by cases e)),vx⟩ (bT (kH ..).symm);rw[kH]at ok;have j:∀b o,d.get? b=V9 o->(wp (d.push {cls:=.type "dict",data:=.dict #[]}) sc.names).get? b=V9 o:=λb o e=>RR _ _ b o (dH _ e);haveI k:(wp (d.push {cls:=.type "dict",data:=.dict #[]}) sc.names).Ns d.objs.size λ_=>Wa:=(Heap.Ns.new d (.type "dict")).keeps (RR _ _);have i:G3 F sc d.objs.size (wp (d.push {cls:=.type "dict",data:=.dict #[]}) sc.names):=⟨λx c e=>ok.empty x c e,ok.apart⟩;generalize wp (d.push {cls:=.type "dict",data:=.dict #[]}) sc.names=R at j k i⊢;have g:Rel W F σ' m L (cx a):=f.rel.wW;haveI B:=OO (b:=j0 F σ' sc oL) G.f z i λx c r e=>by induction g.lS r e with|mk M _=>exact dy (d5 (g.nw _ M.l).1) y
 haveI r:=Os (t:=t) f.rel G.f z K (λb o e=>j b o (q b o e)) d5 y (j _ _ p) k i;haveI N:=U.mono (Oc (F:=F) (sc:=sc) (b:=b) (rb:=j0 F σ' sc oL) (D:=a.heap.objs.size) (accO:=gk [] 0) (oL:=oL) (own:=j3 R (dK (d.objs.size+1) sc.names []))) N;haveI c:∀c:Shared,cx c=⟨R,a.os,a.gens⟩->ly (model W.prog W.w) A (.compLoop (.ListComp pelt [⟨tg,O,l,0⟩] sc pos) 0 (.ref I) (.ref a.heap.objs.size) (kz F sc d.objs.size)) (compPost (model W.prog W.w) A Ht use Q₂ (.ref a.heap.objs.size) d.objs.size) c:=by intro c hs;refine Dp Z aa z B G.a he ht hb (λs' ac xs ws nn ad o Y X hQ=> ?_) U (hs▸r) N D hq;obtain⟨x,T,M,c1,c2,c3,c4⟩:=id o.rel.fr.ns;haveI v:=N4 g G.f z K o X Y c1;exact C _ _ x s' _ _ _ (f.trans v) ⟨_,λh e=>⟨x,T,M,e,c2,c3,c4⟩⟩ (.ref (by rw[←o.rel.len];exact g9)) hQ
 exact codeAny_compStart_list (c _ rfl) (gX (U.iter (A:=A) (s:={a with heap:=R}) N r.rel (c _ rfl)))
theorem Rel.Md {F σ m H x C a h'} (S:Rel W (plus F [(C,a)]) σ m H x) (c:ie C x.heap h'):∃σ',To W F m σ σ' H ⟨h',x.os,x.gens⟩:=
 haveI t:To W (plus F []) m σ (Hr σ [(C,a)] []) H ⟨h',x.os,x.gens⟩:=S.Ff (λy o n e=>(c.2 y λq=>n (q▸.head _)).trans e) λp b=>(c8 b).elim
 ⟨_,t.wW⟩
theorem BB {b t it c d} (l:SI W n Φ it) (i:Lo W n Φ c) (j:SE W n Φ b):SE W n Φ (.comp b t it c d):=λ{F N A σ m H s Q K} C w S h k=>LN w λpelt L sc pos h'=>fg h' λg r h'=>aL h' λz h'=>fC z<|
 aL h' λu h'=>aL h' λB h'=>aL h' λhi h'=>aL h' λq h'=>aL h' λE h'=>aL h' λf p=>by
 obtain⟨P,O,o,y⟩:=g;cases(of_decide_eq_true E:0=y);rw[eval_ListComp];refine v7 (use:=Wa) l i j C u B hi q (v8 p) f S h λD C M s' σ' J v t ⟨G,e⟩ I x=>⟨G,e _ (t.rel.nw _ (t.rel.fw.1 _ (.head _)).l).1,λh' y=> ?_⟩;obtain⟨g,a⟩:=t.rel.Md y;exact k _ _ _ _ {s' with heap:=h'} (t.trans a) (I.le a.le) x
theorem Af {pelt:Expr} {gens:List Comprehension} {sc:Scope} {pos p':Pos} {x:Str} {l:Nat} {env:Env}:∃b,rD (.ListComp pelt gens sc pos) (V9 (.Name x p')) l env=pure b:=⟨_,rfl⟩
theorem Iv {k c t it d f} (o:SI W n Φ it) (i:Lo W n Φ d) (j:SE W n Φ c):SS W n Φ (.asg k (.comp c t it d f)):=by
 intro F ps A σ m H s Q K C T S h O;injection 0 W n Φ k c t it d f F with o i j ps A σ m H s Q K C T S h O;exact qN T λl p pos h'=>fg h' λa r h'=>aL h' λz h'=>fC z<|fm h' λy p' h'=>aL h' λE h'=>aL h' λw h'=>aL h' λh1 B=>by
  haveI h:ej pd Φ (.comp c t it d f) m H (λv H=>Q .next (setM m k v) H):=h;have E:=of_decide_eq_true E;haveI w:=mem_of w;have U:=λe=>C.nf e _ w E;haveI ih:SE W n Φ (.comp c t it d f):=BB o i j;haveI q:rD p (V9 (.Name y p')) pos.line F.env=pure Wc->WN W A (exec (.Assign [.Name y p'] p pos) F.env) K s:=λN=>O7 (ih C.toCn B S h λv g e z b t r h=>store C.f t.rel w E U r λh' tk σ' q=>O _ _ _ _ _ {b with heap:=h',toks:=tk} (t.trans q) .next h) N;refine LN (C:=λp=>(rD p (V9 (.Name y p')) pos.line F.env=pure Wc->WN W A (exec (.Assign [.Name y p'] p pos) F.env) K s)->WN W A (exec (.Assign [.Name y p'] p pos) F.env) K s) B (λpelt gs sc u h'=>fg h' λg r h'=>aL h' λz h'=>fC z<|
   aL h' λZ h'=>aL h' λht h'=>aL h' λhi h'=>aL h' λY h'=>aL h' λhy h'=>aL h' λL X q=> ?_) q
  obtain⟨tg,pi,G,b⟩:=g;cases(of_decide_eq_true hy:0=b);rcases Af (pelt:=pelt) (gens:=[⟨tg,pi,G,0⟩]) (sc:=sc) (pos:=u) (p':=p') (x:=y) (l:=pos.line) (env:=F.env)with⟨b,g⟩
  induction b with
  |false=>exact q g
  |true=>rw[exec_Assign_Name_used _ _ _ _ g];refine aI (fQ (aI ?_));refine aI (ek (v7 (use:=V9 (assign (.Name y p') F.env)) (Q₂:=λ_ s'=>K .next s') o i j C.toCn Z ht hi Y (v8 X) L S h λD V oC s' σ' H' v t ⟨mC,J⟩ rv M=> ?_) (λ_ s' M=>bE (bE M)) λ_ _ e=>e);refine m9 (store (F:=plus F [(V,oC)]) (C.f.plus _) t.rel w E U rv λh' tk P b=>⟨mC,J _ (b.rel.nw _ (b.rel.fw.1 _ (.head _)).l).1,λe N=> ?_⟩);obtain⟨R,I⟩:=b.rel.Md N;exact O _ _ _ _ _ {s' with heap:=e,toks:=tk} ((t.trans b).trans I) .next M
end
end
section
open PySem.SeqAt
section
variable {W:Wd} {n:Nat} {Φ:d9}
abbrev WA {α:Type} (W:Wd) (A:Around) (c:Code) (p:Sem α) (K:α->Shared->Prop) (s:Shared):Prop:=_root_.PySem.wpAt (model W.prog W.w) A c p K Ht s
theorem xi {ns sc} {p:Expr} {x:Str} {f pos:Pos} {i:Es} {d:List Expr} {env:Env} {A:Around} {c:Code} {s:Shared} {K:Value->Shared->Prop} (k:rS tabs ns i sc d=Wb) (j:d.length<29) (l:(f.endLine==pos.line)=Wb)
  (h:WA W A c (sC p x env (eval p env)) (λg a=>∀h,WN W A (rE g x h) (λe b=>∃P:Heap->Prop,PJ W P e.1/\WN W A (spliced (backTo pos (eG d env))) (λvs s'=>P s'.heap/\WN W A (call e.1 (e.2++vs)) K s') b) a) s):
  WA W A c (eval (.Call (.Attribute p x f) d [] pos) env) K s:=by
 refine _root_.PySem.wpAt_bind (_root_.PySem.wpAt_mono h (λg a h₁=>_root_.PySem.wpAt_of_wpAny (aI (fQ ?_))) λ_ _ h=>h);exact BN k j l h₁
theorem uI {c:Code} {F:Fx} {A:Around} {st:S} {r:Ss} {p:Stmt} {q:List Stmt} {σ m H s Q K} (o:SS W n Φ st) (C:Cs n F A) (j:mS tabs F.ns F.sc F.nE st p=Wb) (S:Rel W F σ m H (cx s)) (h:eQ pd Φ (.cons st r) m H Q) (g:KS W F σ Q K)
  (k:∀b a e d,To W F b σ e a (cx d)->eQ pd Φ r b a Q->WA W A c (execs q F.env) K d):WA W A c (execs (p::q) F.env) K s:=
 Mx (_root_.PySem.wpAt_of_wpAny (o C j S h λfl b a e f d t i h=>by
  induction i with
  |next=>exact k _ _ _ _ t h
  |cont=>exact g _ _ _ _ _ _ t .cont h
  |ret l=>exact g _ _ _ _ _ _ t (.ret l) h))
structure RJ (W:Wd) (fdd:d0) (ns:List Str) (g:Nat) (cc cda D:Addr):Prop where
 code:fdd.code= .ref cda
 cod:∃o vs file tf,W.K.lookup cda=V9 o/\o.data= .fields vs/\vs[2]? =V9 (.str file tf)/\((W.prog.main.file:Str)==file)=Wb
 cell:∃o,W.K.lookup cc=V9 o/\o.data= .cell (V9 (.ref D))
 Rp:∃o cd,W.K.lookup D=V9 o/\o.data= .cls cd
 sub:mroIn W.K (fJ 7) (.ref D)=V9 Wb
 sup:W.mg (aX "super")=Wa/\W.mb (aX "super")=V9 (.type "super")
 top:(W.prog.main.scope.names.lookup (aX "super")).isSome=Wc
 ar:∃a,(fdd.params.posonlyargs++fdd.params.args).head?=V9 a/\ns[0]? =V9 a.arg
 cM:ks_superIn W.K (fJ 7) D (aX "__init__")=V9 (V9 (.ref (dY g)))
 fty:typeIn W.K (.ref (dY g))=V9 (.type "function")
 fin:fnIn W.K (dY g)=Wb
 si:nsIn W.K cStatics (aX "thirdparty.any")=V9 Wa
 Pn:fdd.scope.names.lookup (aX "super")=V9 .globalImplicit
 frc:fdd.scope.names.lookup wg=V9 .free
theorem GX (G:Gd W) (P:xD W n Φ) {l:d0} {ns:List Str} {g:Nat} {cc T D:Addr} (d:RJ W l ns g cc T D) {o:Obj} {f:Nat} (ho:W.K.lookup (dY f)=V9 o) (ab:o.data= .func l)
  {F:Fx} {B:List Stmt} {A:Around} (C:Cs n F A) {σ m H} {s:Shared} (S:Rel W F σ m H (cx s)) {E:Es} {j:List Expr} {q0 q1 q2 q3 q4:Pos}
  (e1:F.env.func=V9 (dY f)) (e2:F.env.code=l.code) (e3:F.env.scope=l.scope) (e4:F.env.cells.lookup wg=V9 cc) (e5:F.ns=ns) (e6:F.sc=l.scope) (e7:∀{x},F.ns[0]? =V9 x->F.env.kindOf x=V9 .local)
  (Y:DH W n Φ E) (O:rS tabs ns E l.scope j=Wb) (ml:j.length<29) (mp:(q2.endLine==q3.line)=Wb) {Q:Fl->En->Hp->Prop} {K:Flow->Shared->Prop} (h:wpS pd Φ (.expr (.sup g E)) m H Q) (kt:KS W F σ Q K):
  WA W A (.func B F.env) (exec (.Expr (.Call (.Attribute (.Call (.Name (aX "super") q0) [] [] q1) (aX "__init__") q2) j [] q3) q4) F.env) K s:=by
 haveI X:=kr G S;have O:rS tabs F.ns E F.sc j=Wb:=e5▸e6▸O;haveI h:G2 Φ g (λR=>jS pd Φ E m H R) (λv H=>match v with| .ref _=>False| .tup _=>False| .ro _=>False|_=>Q .next m H) (getM m 0) H:=h;generalize hi:getM m 0=z at h
 cases h with| @mk _ i fs ei q=>
 induction S.en hi with|mk ah hx r u=>
 haveI t:=e7 hx;obtain⟨ar,V,z⟩:=d.ar;cases(e5▸hx).symm.trans z;refine r.B1 (C:=λy=>At F.env σ ar.arg y->_) S ei (λa dx U nn L u=> ?_) u;haveI aa:σ.mm ar.arg=V9 (.ref a):=by
  induction u with
  |loc _ q=>exact q
  |lS q=>rw[t]at q;exact q.elim (by simp) (by simp)
 obtain⟨oc,vs,ag,tf,c1,c2,c3,c4⟩:=d.cod;obtain⟨ac,k1,k2⟩:=d.cell;obtain⟨oD,al,d1,d2⟩:=d.Rp;haveI y:F.env.kindOf (aX "super")=V9 .globalImplicit:=show F.env.scope.names.lookup _=_ from e3▸d.Pn;haveI x:F.env.kindOf (aX "__class__")=V9 .free:=show F.env.scope.names.lookup _=_ from e3▸d.frc;refine ks_wpAt_Expr_any (xi O ml mp ?_) (ur C.f) rfl;refine ks_wpAt_super_base y x (by decide) e1 (X _ _ ho) ab V (e2.trans d.code) (X _ _ c1) c2 c3 c4 d.top (ks_loadName_global C.f.kind y (sZ (C.f.glob▸G.uu.keeps S.fr.keep) d.sup.1 (C.f.A3▸G.DB.keeps S.fr.keep) d.sup.2 ⟨rfl,?_⟩));refine Lz C.f.kind x e4 ⟨_,X _ _ k1,k2⟩ (qC C.f.kind t S.fr.ns aa ?_);obtain⟨Z,N,dd,tt,R⟩:=s;refine ks_wpAny_isType_cls (X _ _ d1) d2 ⟨rfl,ks_wpAny_call_super (X _ _ d1) d2 L.I.at_ L.I.cls (λc e=> ?_) (looks_mroIn X d.sub) λh₁ e k pl=> ?_⟩
 ·haveI:=L.I.no;unfold notCls at this;rw[e]at this;exact Bool.noConfusion this
 ·have c:To W (plus F [(Z.objs.size,HD D a (fJ 7))]) m σ _ H ⟨h₁,R,N⟩:=S.A5 k λp b=>aD.1 b▸⟨get_none _,e⟩;haveI I:PySem.W.InstAt h₁ a (oV (fJ 7) dx) (fJ 7) (V9 (dictOf U nn)):=⟨k _ _ (S.nw _ L.m.l).1,rfl,rfl,k _ _ (S.nw _ L.m'.l).1⟩;refine ks_method (s:=⟨h₁,N,dd,tt,R⟩) c.rel.fr G.oJ c.rel.nw (.head _) I d.si d.cM d.fty (by decide) λq' h' F' N' lt=> ?_;have p:To W (plus (plus F [(Z.objs.size,HD D a (fJ 7))]) [(q',methodObj (.ref (dY g)) (.ref a))]) m _ _ H ⟨h',R,N⟩:=c.rel.B9 F' N' λp b h=>(map_fst h).elim λo h=>by
   cases aD.1 h;exact cX _ (lt p b)
  refine⟨MethP W.K q' (dY g) (.ref a),λh X=>keeps_M d.fin h X,Y (F:=plus (plus F [(Z.objs.size,HD D a (fJ 7))]) [(q',methodObj (.ref (dY g)) (.ref a))]) (s:=⟨h',N,dd,tt+1,R⟩) ((C.plus _).plus _).toCn O p.rel q λvs af ad xs aj b J q=> ?_⟩;haveI hb:=(b.rel.nw _ (b.rel.fw.1 _ (.head _)).l).1;refine⟨⟨hb,kr G b.rel⟩,jn (ks_codeAny_call_bound hb (Ed (P (K:=λ_ s'=>K .next s') ((C.f.plus _).plus _) C.a.k b.rel (.cons (VR.ref (((c.trans p).trans b).le.ρ L.ρ)) J) q λv w ae cv ak M ai q=> ?_) λr s' ⟨cv,e,q⟩=>e▸q))⟩;refine kt .next m w _ _ _ (((c.trans p).trans b).trans M).wW.wW .next ?_;cases v<;>first|exact q|exact q.elim
end
end
section
open PySem.SeqAt
section
variable {W:Wd} {n:Nat} {Φ:d9}
structure RL (W:Wd) (fdd:d0) (t1 t2 t3:Stmt) (q0 q1 q2 q3 q4:Pos) (args:List Expr) (rest:List Stmt) (fd:FD) (a1 a2 a3:S) (g:Nat) (es:Es) (r:Ss) (ns:List Str) (sz:Nat) (cc cda D:Addr):Prop extends FnB W fdd fd ns sz where
 bo:fdd.body= .stmts (t1::t2::t3:: .Expr (.Call (.Attribute (.Call (.Name (aX "super") q0) [] [] q1) (aX "__init__") q2) args [] q3) q4::rest)
 fb:fd.body= .cons a1 (.cons a2 (.cons a3 (.cons (.expr (.sup g es)) r)))
 Ea:fdd.closure=[(wg,cc)]
 m1:mS tabs ns fdd.scope (aC sz) a1 t1=Wb
 m2:mS tabs ns fdd.scope (aC sz) a2 t2=Wb
 m3:mS tabs ns fdd.scope (aC sz) a3 t3=Wb
 me:rS tabs ns es fdd.scope args=Wb
 ml:args.length<29
 mp:(q2.endLine==q3.line)=Wb
 mr:zF tabs ns fdd.scope (aC sz) r rest=Wb
 np0:0<fd.np
 knd:∀{k x},k<sz->ns[k]? =V9 x->fdd.scope.names.lookup x=V9 .local
 Tx:∀x∈fdd.scope.names,x.2≠.cell
 D4:∀{x},fdd.scope.names.lookup x=V9 .free->x=wg
 oQ:fdd.defaults= .none/\fd.oQ=[]
 su:RJ W fdd ns g cc cda D
theorem Rel.cells {F σ m H x} {env:Env} (S:Rel W F σ m H x) (d:env.locals=F.env.locals) (i:∀x,env.kindOf x=F.env.kindOf x) (h:F.env.cells=[]) (g:∀{x c},x≠wg->env.cells.lookup x≠V9 c):Rel W {F with env:=env} σ m H x:=
 {S with
  fr:=d▸S.fr
  nw:=d▸S.nw
  en:=λe=>by
   induction S.en e with|mk j k r b=>
   induction b with
   |loc f a=>exact⟨j,k,r,.loc ((i _).trans f) a⟩
   |lS f a=>rw[h]at a;exact nn a
  lS:=λn e=>absurd e (g n)}
set_option backward.match.sparseCases true in
theorem K0 (G:Gd W) (P:xD W n Φ) {f:Nat} {o:Obj} {b:d0} {t1 t2 t3:Stmt} {q0 q1 q2 q3 q4:Pos} {J:List Expr} {rest:List Stmt} {fd:FD} {a1 a2 a3:S} {g:Nat} {es:Es} {r:Ss} {ns:List Str} {sz:Nat} {cc aa D:Addr}
  (ho:W.K.lookup (dY f)=V9 o) (O:o.data= .func b) (a:RL W b t1 t2 t3 q0 q1 q2 q3 q4 J rest fd a1 a2 a3 g es r ns sz cc aa D)
  (h1:SS W n Φ a1) (h2:SS W n Φ a2) (h3:SS W n Φ a3) (ab:DH W n Φ es) (hr:Ck W n Φ r)
  {F m A σ H s vs xs Q K} (hF:pG F) (hA:sv (n+1) A) (S:Rel W F σ m H (cx s)) (E:kb σ vs xs) {m':En} (w:uG fd vs=V9 m') (h:eQ pd Φ fd.body m' H λfl _ c=>Q (Am fl) c) (kt:KT W F m σ Q K):
  ly (model W.prog W.w) A (.call (.ref (dY f)) ⟨xs,[]⟩) (λr s'=>∃y,r= .ok (.ret y)/\K y s') s:=by
 haveI X:=kr G S;obtain⟨oL,ds,ep,N,ap⟩:=id S.fr.ns;haveI L:s.heap.NoLimit:=G.oI.keeps S.fr.keep;unfold uG at w;rw[a.oQ.2]at w;by_cases j:vs.length<=fd.np/\fd.np<=vs.length+([]:List V).length
 case neg=>rw[if_neg j]at w;exact nn w
 rw[if_pos j]at w;have R:xs.length=fd.np:=E.length.symm.trans (u9 j.1 j.2);haveI M:=a.hnp;have hz:(ns.take fd.np).length=xs.length:=M.trans R.symm;haveI hB:BindsTo s b ⟨xs,[]⟩ ((ns.take fd.np).zip (xs++([]:List Value).drop (([]:List Value).length-((ns.take fd.np).length-xs.length)))):=
  wi a.p1 a.p2 a.p3 a.p4 a.p5 a.TK (.inl ⟨a.oQ.1,rfl⟩) (bT hz.symm) (bT hz) (aP _)
 rw[MC,bY]at hB;haveI u:(((ns.take fd.np).zip xs).map (·.1))=ns.take fd.np:=Hj (bT hz);haveI B:∀x∈(ns.take fd.np),b.scope.names.lookup x=V9 .local:=λx k=>by obtain⟨i,hi⟩:=og.1 k;haveI c:i<fd.np:=M▸(cD.1 hi).1;rw[kK,if_pos c]at hi;exact a.knd (a9 c a.np) hi
 refine ks_codeAny_call_defAt (dp (aE (fG _ _) hA.hd) (by decide)) (X _ _ ho) O L (codeRec_of X a.cd) a.bo hB a.Tx (λx k=>B _ (u▸bN k)) (λh₁ ac hk=> ?_) a.co a.gen a.kind;have i:(nc b s.heap.objs.size (dY f)).cells=[(wg,cc)]:=a.Ea;haveI Z:Ef s ({nc b s.heap.objs.size (dY f)with cells:=[]}:Env).locals (λy=>((ns.take fd.np).zip xs).reverse.lookup y) ({nc b s.heap.objs.size (dY f)with cells:=[]}:Env).cells (λ_=>Wa) {s with heap:=h₁,toks:=s.toks+((ns.take fd.np).zip xs).length}:=
  ⟨⟨⟨_,_,rfl⟩,ac,hk,aK _⟩,(λ_ _ h=>(nn h)),vx,λ_ _ h=>(by cases h)⟩
 have t:=enter S (ns:=ns) (nE:=aC sz) (m':=m') N Z (λ_ h=>(by cases h)) rfl rfl λ{k v} e=>by haveI w:(vs++([]:List V).drop (([]:List V).length-(fd.np-vs.length))).map V9++aY (fd.size-fd.np) Wa=m':=aA w;rw[MC,bY]at w;refine uX λq=> ?_;subst w;obtain⟨y,l,r⟩:=E.get (Cd e);have c:k<fd.np:=R▸(cD.1 l).1;obtain⟨x,d⟩:=a.at c;haveI p:=a9 c a.np;refine q (⟨aW.2 p,x,y,d,r,.inl ⟨a.knd p d,im ?_ (gw.2 (Bp (nF c d) l))⟩⟩);rw[gx,(rK _).nodup_iff,u];exact a.TK
 haveI I:Rel W (o6 F σ oL (nc b s.heap.objs.size (dY f)) ns (aC sz)) _ m' H _:=t.rel.cells (env:=nc b s.heap.objs.size (dY f)) rfl (λ_=>rfl) rfl λ{x c} n e=>by rw[i,dA,beq_eq_false_iff_ne.2 n]at e;exact nn e
 haveI z:(nc b s.heap.objs.size (dY f)).cells.lookup wg=V9 cc:=by rw[i];rfl
 haveI U:∀{x c},(nc b s.heap.objs.size (dY f)).cells.lookup x=V9 c->x=wg:=λe=>by rw[i]at e;exact(Prod.mk.inj (aD.1 (dE e))).1
 have C:Cs n (o6 F σ oL (nc b s.heap.objs.size (dY f)) ns (aC sz)) (A.deeper (nc b s.heap.objs.size (dY f))):=
  ⟨⟨⟨a.kind,a.Q7,a.bl,a.inj,λk hk x e=>.inl (a.knd (aW.1 hk) e),λx y c e d=>(U e).trans (U d).symm,λk _=>a.Pq k,λx e=>e.elim (λe=>absurd rfl (a.Tx _ (dE e))) λe=>by cases a.D4 e;exact⟨.inr e,cW.2 ⟨_,z⟩⟩,λx h=>h,λx e=>by rw[a.D4 e];decide⟩,hA.deep⟩,λe k _=>a.D4 e▸a.Pq k⟩
 haveI h:=(a.fb)▸h;have q:KS W (o6 F σ oL (nc b s.heap.objs.size (dY f)) ns (aC sz)) _ (λfl _ c=>Q (Am fl) c) (λfc s'=>∃y,Except.ok (ε:=Value) (Flow.ret (match fc with| .ret v=>v|_=>.none))= .ok (.ret y)/\K y s'):=λfl T x e fc Y c hf q=>by
  have d:=leave S N (⟨t.le.trans c.le,c.rel⟩)
  induction hf with
  |next=>exact⟨_,rfl,kt _ _ _ _ _ d .none q⟩
  |cont=>exact⟨_,rfl,kt _ _ _ _ _ d .none q⟩
  |ret E=>exact⟨_,rfl,kt _ _ _ _ _ d (show VR (r5 F σ e) _ _ from VR.le (σ:=e) (σ':=r5 F σ e) ⟨id,id⟩ E) q⟩
 refine _root_.PySem.wpAt_mono (uI h1 C a.m1 I h q λaj ag ad am l h=> ?_) (λ_ _ h=>h) λ_ _ h=>(by cases h);refine uI h2 C a.m2 l.rel h (q.to l) λT x e Y c h=>(uI h3 C a.m3 c.rel h ((q.to l).to c) λak ah ae an d h=>(Mx (GX (ns:=ns) G P a.su ho O C d.rel rfl rfl rfl z rfl rfl (λk=>a.knd (a9 a.np0 a.np) k) ab a.me a.ml a.mp h λfl al ai af fc ao p hf h=> ?_)));have k:=((q.to l).to c).to d
 induction hf with
 |next=>exact _root_.PySem.wpAt_of_wpAny (hr C a.mr p.rel h (k.to p))
 |cont=>exact k _ _ _ _ _ _ p .cont h
 |ret E=>exact k _ _ _ _ _ _ p (.ret E) h
end
end
section
open PySem.SeqAt
section
variable {W:Wd} {n:Nat} {Φ:d9}
theorem Nh {f a}:SE W n Φ (.sup f a):=λC b S h k=>(absurd ((show Wc=Wb from b)) ec)
theorem Nj:SE W n Φ .si:=λC a S h k=>vb h
theorem M9:SS W n Φ .si:=λC a S h k=>vb h
def O3 (W:Wd) (n:Nat) (Φ:d9) (e:E):Prop:=match e with
 | .comp a _ it b _=>SI W n Φ it/\Lo W n Φ b/\SE W n Φ a
 | .sup _ a=>DH W n Φ a
 |_=>True
def Lx (W:Wd) (n:Nat) (Φ:d9) (s:S):Prop:=match s with
 | .expr e=>O3 W n Φ e
 |_=>True
theorem Iw {k e} (h:SE W n Φ e) (a:O3 W n Φ e):SS W n Φ (.asg k e):=by
 cases e with
 |comp c t it d b=>exact Iv a.1 a.2.1 a.2.2
 |_=>exact Nc rfl h
inductive Al (W:Wd) (n:Nat) (Φ:d9):Ss->Prop
 |nil:Al W n Φ .nil
 |cons {s r} (h:SS W n Φ s) (h':Lx W n Φ s) (hr:Ck W n Φ r) (t:Al W n Φ r):Al W n Φ (.cons s r)
theorem Al.e {s r} {C:Prop} (h:Al W n Φ (.cons s r)) (k:SS W n Φ s->Lx W n Φ s->Ck W n Φ r->Al W n Φ r->C):C:=
 Al.rec (motive:=λt _=>match t with| .nil=>True| .cons s r=>(SS W n Φ s->Lx W n Φ s->Ck W n Φ r->Al W n Φ r->C)->C) trivial (λh h' a t _ k=>k h h' a t) h k
theorem zl (G:Gd W) (f:Gc W) (P:xD W n Φ) (d:Ss):Ck W n Φ d/\Al W n Φ d:=
  by
 injection 0 W n Φ d with G f P;exact Ss.rec (motive_1:=λe=>SE W n Φ e/\O3 W n Φ e) (motive_2:=DH W n Φ) (motive_3:=SB W n Φ) (motive_4:=Lo W n Φ) (motive_5:=λ_=>True) (motive_6:=SI W n Φ) (motive_7:=λs=>SS W n Φ s/\Lx W n Φ s) (motive_8:=λd=>Ck W n Φ d/\Al W n Φ d)
   ⟨II,trivial⟩ (λ_=>⟨IM,trivial⟩) (λ_=>⟨Nn,trivial⟩) (λ_=>⟨ES,trivial⟩) (λ_=>⟨tW,trivial⟩) (λ_=>⟨Qn G,trivial⟩) (λ_ _ o=>⟨No G f o.1,trivial⟩) (λ_ _ o i=>⟨Ni o.1 i.1,trivial⟩) (λ_ _ o i=>⟨IH o.1 i.1,trivial⟩) (λ_ _ o i=>⟨IF o.1 i.1,trivial⟩) (λ_ o=>⟨IG o.1,trivial⟩)
   (λ_ _ _ a b=>⟨Nr a.1 b.1,trivial⟩) (λ_ a=>⟨Nl a.1,trivial⟩) (λ_ _ a b=>⟨Nt a.1 b.1,trivial⟩) (λ_ _ _ a b=>⟨Np G a.1 b.1,trivial⟩) (λ_ _ _ c a b=>⟨Nm c a.1 b.1,trivial⟩) (λ_ h=>⟨BA h,trivial⟩) (λ_ h=>⟨Ng h,trivial⟩) ⟨ET,trivial⟩ (λ_ _ _ _ _ a _ it b=>⟨BB it b a.1,it,b,a.1⟩)
   (λ_ _ h=>⟨IK G P h,trivial⟩) (λ_ _ h=>⟨Nk G f P h,trivial⟩) (λ_ _ _ o h=>⟨IJ G f P o.1 h,trivial⟩) (λ_ _ h=>⟨Nq G h,trivial⟩) (λ_ _ h=>⟨Nh,h⟩) ⟨Nj,trivial⟩
   pN (λ_ _ e a=>lI e.1 a)
   (λ_ b=>Nu b) (λ_ _ a b=>Nv a b) (λ_ _ a b=>Qp a b) (λ_ _ _ a b=>Ak G a.1 b.1) (λ_ _ _ _ _ a b c=>IP G a.1 b.1 c.1) (λ_ e=>Qo e.1)
   IN (λ_ _ b bs=>EU b bs)
   (λ_=>trivial) (λ_ _=>trivial)
   (λ_ e=>EQ G e.1) (λ_ e=>EP G e.1) (λ_ e=>ID G e.1) (λ_ e=>Nd G e.1)
   (λ_ e=>⟨It e.1,e.2⟩) (λ_ e=>⟨M8 e.1,trivial⟩) ⟨Ir,trivial⟩ (λ_ _ e=>⟨Iw e.1 e.2,trivial⟩) (λ_ _ _ e=>⟨M7 e.1,trivial⟩) (λ_ _ _ o e=>⟨Iq G f o.1 e.1,trivial⟩) (λ_ _ _ o i e=>⟨Ip o.1 i.1 e.1,trivial⟩) (λ_ _ _ c a b=>⟨Na c a.1 b.1,trivial⟩) (λ_ _ _ _ it b=>⟨Nb it b.1,trivial⟩) (λ_ _ c b=>⟨EJ c b.1,trivial⟩) ⟨Iu,trivial⟩ ⟨M9,trivial⟩
   ⟨Io,.nil⟩ (λ_ _ s d=>⟨EI s.1 d.1,.cons s.1 s.2 d.1 d.2⟩) d
end
inductive Lq (W:Wd):Prop
 |mk {o b p q s j k l m n a rest d e f g i r ns sz h c D} (t:W.K.lookup (dY 11)=V9 o) (u:o.data= .func b) (v:RL W b p q s j k l m n a rest Rg d e f g i r ns sz h c D):Lq W
structure Ok (W:Wd) (prim:d9):Prop where
 gd:Gd W
 gc:Gc W
 fns:∀{f fd},xh f=V9 fd->f≠11->∃o fdd body ns sz,W.K.lookup (dY f)=V9 o/\o.data= .func fdd/\xE W fdd body fd ns sz
 pt:Lq W
 prm:∀{n F m A σ H s f vs xs Q K},pG F->sv (n+1) A->Rel W F σ m H (cx s)->kb σ vs xs->xh f=Wa->prim f vs H Q->KT W F m σ Q K->ly (model W.prog W.w) A (.call (.ref (dY f)) ⟨xs,[]⟩) (λr s'=>∃cv,r= .ok (.ret cv)/\K cv s') s
theorem sound {W:Wd} {a:d9} (O:Ok W a) (n:Nat):xD W n (wn pd a n):=by
 induction n with
 |zero=>exact λ_ _ _ _ h=>vb h
 |succ n P=>
  intro F m A σ H s f vs xs Q K g e S j h k;haveI h:(match xh f with|some fd=>qA (uG fd vs) λm=>eQ pd (wn pd a n) fd.body m H λfl _ b=>Q (Am fl) b|none=>a f vs H Q):=h
  induction b:xh f with
  |none=>haveI h:=(b)▸h;exact O.prm g e S j b h k
  |some fd=>
   rw[b]at h;obtain⟨m',q,r⟩:=jG h;by_cases p:f=11
   ·subst p;obtain rfl:=aA b
    induction O.pt with|mk i c d=>
    haveI A:=(zl O.gd O.gc P Rg.body).2;rw[d.fb]at A;exact A.e λp _ _ A=>A.e λt _ _ A=>A.e λu _ _ A=>A.e λv y4 l _=>K0 O.gd P i c d p t u y4 l g e S j q r k
   ·obtain⟨o,t,l,ns,sz,i,c,d⟩:=O.fns b p;exact K3 O.gd i c d (zl O.gd O.gc P _).1 g e S j q r k
end
section
theorem FB {p q:Program} {loose:List Str} {Xt:Shared->Bool} {N M b:Nat} {f:Option Value} {m:World->nh->Option gK} {a:Params->Heap} {o:Array qG} {d:Drawn} {k:Nat} {l:gK->Bool}
  (g:∀w:World,(fencedOpening oz p w N).map (λs=>(s.heap,s.gens,s.drawn,s.toks))=V9 (a w.params,o,d,k))
  (n:∀P:Params,((a P).isNs dR&&o.size==0,(a P).objs.size,(a P).nsMap dR "__annotations__")=(Wb,b,f))
  (j:∀w c t,m w c=V9 t->topRun oz p w b f M ⟨a w.params,o,d,k,c⟩ (topStub p)=V9 t.abs) (A:M<=N)
  (u:∀w c,(m w c).map (λs=>(((DO (ji p.main.body) (a w.params) s.abs.heap&&zK p s.abs.heap&&HE s.abs&&HC (a w.params) s.abs.heap),
   openSeen q loose (ji p.main.body) Xt Wb s.abs),l s))=V9 ((Wb,SY q loose),Wb)):
  LeftO p q loose Xt (λs=>∃t:gK,t.abs=s/\l t=Wb) (λ_=>True) N:=λw=>by
 refine uX λz=> ?_;obtain⟨⟨h,i,s,k',c⟩,e,v⟩:=cC.1 (g w);obtain⟨rfl,rfl,rfl,rfl⟩:h=a w.params/\i=o/\s=d/\k'=k:=by simpa using v
 obtain⟨t,y,h⟩:=cC.1 (u w c);haveI d:=congrArg (λx=>x.1.1) h;haveI k:=congrArg (λx=>x.1.2) h;haveI o:=congrArg (λx=>x.2) h;haveI r:=topRun_mono (N-M) _ _ _ _ (j w c t y);refine z ?_;haveI r:=(Hh A)▸r;obtain⟨B,C,D⟩:_/\_/\_:=by simpa only[u7]using n w.params
 haveI x:topFrom oz p w N ⟨a w.params,i,s,k',c⟩=V9 t.abs:=by dsimp only[topFrom];rw[B,C,D,r];show(match DO (ji p.main.body) (a w.params) t.abs.heap&&zK p t.abs.heap&&HE t.abs&&HC (a w.params) t.abs.heap with|true=>_|false=>_)=_;haveI d:(DO (ji p.main.body) (a w.params) t.abs.heap&&zK p t.abs.heap&&HE t.abs&&HC (a w.params) t.abs.heap)=Wb:=d;rw[d]
 delta openEnds;rw[e];show(topFrom oz p w N _).map _=_;rw[x];exact congrArg V9 (Bi k (propext ⟨λ_=>trivial,λ_=>⟨t,rfl,o⟩⟩))
theorem Dz:∀P:Params,((kf P).isNs dR&&(#[]:Array qG).size==0,(kf P).objs.size,(kf P).nsMap dR "__annotations__")=(Wb,11,V9 (.ref 6)):=by intro P;kernel_rfl
theorem Aq:opening Ap=plainProg Ap.main.scope.names:=by kernel_rfl
theorem AN:∀s,fenceModules? Ap s=V9 s:=by intro s;kernel_rfl
theorem IQ (w:World) (a:nh) (t:gK) (h:fZ w a=V9 t):topRun oz Ap w 11 (V9 (.ref 6)) 7540 ⟨kf w.params,#[],MA,PU,a⟩ (topStub Ap)=V9 t.abs:=by unfold fZ at h;rw[Ad]at h;haveI:=wJ _ _ _ _ h;rw[OW]at this;exact this
theorem left:LeftO Ap vq ue (λ_=>Wb) (λs=>∃t:gK,t.abs=s/\C0 t=Wb) (λ_=>True) 8000:=
 FB (boot_open (N:=8000) Aq (by decide) AN) Dz IQ (by decide) chk
end
section
theorem nO {l:Frag} {a:Addr} {o:Obj} (h:l.lookup a=V9 o):(a,o)∈l:=by
 injection 0 l a o with h
 induction l with
 |nil=>exact nn h
 |cons p r b=>
  rw[dA]at h
  induction e:a==p.1 with
  |true=>rw[e]at h;rw[←aA h];rw[beq_iff_eq.1 e];exact .head _
  |false=>rw[e]at h;exact .tail _ (b h)
theorem po {t:BT} {a:Addr} {o:Obj} (h:(Be t).lookup a=V9 o):a∈w5/\(t.get a).bind alive=V9 o:=by refine uX λi=> ?_;obtain⟨b,g,e⟩:=List.mem_filterMap.1 (nO h);obtain⟨c,d,e⟩:=gp.1 e;obtain⟨j,f,e⟩:=cC.1 e;cases e;exact i (⟨g,gp.2 ⟨c,d,(show alive c=V9 _ from f)⟩⟩)
def YP (_w:World) (h:Heap):Prop:=∃(K:Frag) (o:Obj),Sf K=Wb/\K.In h/\h.get? lc=V9 o/\Fb (V9 o)=Wb/\K.lookup lc=Wa/\∀a o,K.lookup a=V9 o->o.cls≠.type "list"
theorem P7 (w:World) (s:Shared) (h:(∃t:gK,t.abs=s/\C0 t=Wb)=True):YP w s.heap:=by
 obtain⟨t,rfl,c⟩:∃t:gK,t.abs=s/\C0 t=Wb:=h▸trivial;have b:∀{a o},decide (a<t.n)=Wb->(t.tree.get a).bind alive=V9 o->t.abs.heap.get? a=V9 o:=λa e=>by obtain⟨b,q,e⟩:=gp.1 e;exact(abs_get (life:=t.life) (of_decide_eq_true a) q).trans e
 refine aL c λf h=>aL h λd h=>aL h λg h=>aL h λi h=>aL h λj k=> ?_;obtain⟨o,q,_⟩:=jf d;refine⟨Be t.tree,o,f,λa o e=>b (bW.1 i a (po e).1) (po e).2,b g q,q▸d,?_,λa o e=>bne_iff_ne.1 (bW.1 k (a,o) (nO e))⟩
 induction e:(Be t.tree).lookup lc with
 |none=>rfl
 |some o=>exact(absurd ((il j).symm.trans (dZ.2 (po e).1)) ec)
theorem Eo (w:World) (h h':Heap) (y:YP w h) (k:∀b o,h.get? b=V9 o->h'.get? b=V9 o):YP w h':=y.imp λK y=>y.imp λo y=>⟨y.1,λx b a=>k _ _ (y.2.1 x b a),k _ _ y.2.2.1,y.2.2.2⟩
section
theorem Rk {d f} (h:dFn d=V9 f):d= .func f:=by cases d<;>first|exact nn h|exact congrArg _ (aA h)
theorem Gm {d x} (h:Ox d=V9 x):d= .seq x.1 x.2:=by cases d<;>first|exact nn h|exact aA h▸rfl
theorem Oy {d f} (h:Rl d=V9 f):d= .fields f:=by cases d<;>first|exact nn h|exact congrArg _ (aA h)
theorem Gs {d f} (h:Oz d=V9 f):d= .cls f:=by cases d<;>first|exact nn h|exact congrArg _ (aA h)
theorem OA {d f} (h:Rm d=V9 f):d= .cell (V9 f):=by cases d<;>first|exact congrArg _ h|exact nn h
theorem z5 {d f} (h:HZ d=V9 f):d= .ref f:=by cases d<;>first|exact nn h|exact congrArg _ (aA h)
theorem MR {d f} (h:vInt d=V9 f):∃t,d= .int f t:=by cases d<;>first|exact nn h|exact aA h▸⟨_,rfl⟩
theorem Ew {d f} (h:vStr d=V9 f):∃t,d= .str f t:=by cases d<;>first|exact nn h|exact aA h▸⟨_,rfl⟩
theorem Ie {d f} (h:vBool d=V9 f):d= .bool f:=by cases d<;>first|exact nn h|exact congrArg _ (aA h)
theorem z7 {d} (h:Ia d=Wb):d= .none:=by cases d<;>first|rfl|cases h
theorem tl {a:Type} {l:List a} (h:v0 l=Wb):l=[]:=fC (C:=λl=>l=[]) h rfl
theorem MQ {a:Type} {l:Option a} (h:vN l=Wb):l=Wa:=wE (D:=λl=>l=Wa) h rfl
theorem lF {b:Type} {l:List b} {f} (h:v1 l f=Wb):∃a r,l=a::r/\f a r=Wb:=fg (C:=λl=>∃a r,l=a::r/\f a r=Wb) h λa r e=>⟨a,r,rfl,e⟩
variable {σ:Sg}
theorem Et {v:V} {x:Value} (h:R8 v x=Wb):VR σ v x:=by
 cases v with
 |none=>exact z7 h▸.none
 |bool a=>exact Ie (of_decide_eq_true h)▸.bool _
 |int i=>exact(MR (of_decide_eq_true h)).elim λt e=>e▸.int _ _
 |str s=>exact(Ew (of_decide_eq_true h)).elim λt e=>e▸.str _ _
 |_=>cases h
theorem Br {vs:List V}:∀{xs:List Value},CG vs xs=Wb->kb σ vs xs:=by
 induction vs with
 |nil=>exact λh=>tl h▸.nil
 |cons v vs d=>intro xs h;obtain⟨x,r,c,h⟩:=lF h;rw[c];exact aL h λa b=>.cons (Et a) (d b)
end
theorem all_range {n:Nat} {p:Nat->Bool} (h:(aC n).all p=Wb) {i:Nat} (hi:i<n):p i=Wb:=bW.1 h i (aW.2 hi)
theorem pS {a:Type} {l:List a} {i:Nat} {x:a} (h:l[i]? =V9 x):i<l.length:=(cD.1 h).1
theorem Ey {b:Type} {o:Option b} {a:b} {f} (h:vS o f=Wb) (e:o=V9 a):f a=Wb:=by subst e;exact h
section
variable {W:Wd}
theorem DF {a b:Nat} (d:a<97) (h:mW a=mW b):a=b:=by
 haveI g:(tabs.attr).Nodup:=by decide+kernel
 haveI e:aX ""∉tabs.attr:=by decide+kernel
 haveI f:tabs.attr.length=97:=by decide+kernel
 unfold mW at h;rw[aF (f▸d)]at h;by_cases c:b<tabs.attr.length
 ·rw[aF c]at h;exact(sG g).1 h
 ·rw[bQ (m0 c)]at h;exact absurd ((show _=aX "" from h)▸sF _) e
theorem KI {c a:Nat} (h:(pu c).contains a=Wb):c<18:=HJ λq=>by
 haveI e:pu c=[]:=by delta pu;rw[bJ,bQ q];rfl
 have h:=(e)▸h;cases h
theorem Rb (h:gcB W.K=Wb):Gc W:=aL h λk h=>aL h λl h=>aL h λm h=>aL h λn o=>
 have F:∀{c a},(pu c).contains a=Wb->a<97/\Rd W.K c a=Wb:=λg=>aL (bW.1 (all_range k (KI g)) _ (dZ.1 g)) λa b=>⟨of_decide_eq_true a,b⟩
 {fld:=λg=>aL (F g).2 λa h=>aL h λb h=>aL h λc h=>aL h λd h=>aL h λe f=>⟨a,b,beq_iff_eq.1 c,beq_iff_eq.1 d,e,beq_iff_eq.1 f⟩
  mth:=λ{c a g} p=>by obtain⟨x,e,j⟩:=cC.1 p;rw[←j];haveI:=HO e;refine aL this λf i=> ?_;rw[←beq_iff_eq.1 f];rw[←beq_iff_eq.1 i];exact aL (bW.1 l x (et e)) λa h=>aL h λb h=>aL h λc d=>⟨a,beq_iff_eq.1 b,c,d⟩
  mak:=λ{c x f} e hi=>by haveI:=all_range m (a9 (pS e) (by decide));haveI this:=(hi)▸this;exact aL this λa h=>aL h λb c=>⟨a,beq_iff_eq.1 b,c⟩
  NZ:=⟨n,beq_iff_eq.1 o⟩
  VN:=λg e=>DF (F g).1 e}
theorem Fy {K a f} (h:ui K a f=Wb):∃o b,K.lookup a=V9 o/\o.data= .func b/\f b=Wb:=by obtain⟨o,e,h⟩:=jf h;obtain⟨b,c,h⟩:=jf h;exact⟨o,b,e,Rk c,h⟩
theorem A2 {a f} (h:zc a f=Wb):∃b,a.body= .stmts b/\f b=Wb:=by
 unfold zc at h
 induction e:a.body with
 |stmts b=>haveI h:=(e)▸h;exact⟨b,rfl,h⟩
 |_=>have h:=(e)▸h;cases h
theorem Ow {K:Frag} {d:Value} {c:List V} (h:Rj K d c=Wb):(d= .none/\c=[])\/∃T o ws k,d= .ref T/\K.lookup T=V9 o/\o.data= .seq (ni ws) k/\kb (LU []) c ws:=
  by
 injection 0 K d c with h;exact wQ h (λh=>aL h λa b=>.inl ⟨z7 a,tl b⟩) λh=>by refine uX λf=> ?_;obtain⟨T,a,h⟩:=jf h;obtain⟨o,b,h⟩:=jf h;obtain⟨x,e,h⟩:=jf h;exact f (.inr ⟨T,o,x.1.toList,x.2,z5 a,b,Gm e,Br h⟩)
theorem Ma {a:d0} {fd:FD} {ns:List Str} {sz:Nat} (h:TU W.K a fd ns sz=Wb):FnB W a fd ns sz:=
  by
 injection 0 W a fd ns sz with h;exact aL h λj h=>aL h λl h=>aL h λm h=>aL h λn h=>aL h λo h=>aL h λp h=>aL h λq h=>aL h λr h=>aL h λs h=>aL h λb h=>aL h λc h=>aL h λd h=>aL h λf h=>aL h λg i=>
  ⟨j,of_decide_eq_true l,il m,il n,of_decide_eq_true o,of_decide_eq_true p,tl q,MQ r,tl s,MQ b,of_decide_eq_true c,of_decide_eq_true d,of_decide_eq_true f,of_decide_eq_true g,λk e=>AD (bW.1 i _ (aO e)) rfl⟩
theorem Mf {ns:List Str} {sz:Nat} {p:Str->Bool} (h:(ns.take sz).all p=Wb) {k:Nat} {x:Str} (a:k<sz) (b:ns[k]? =V9 x):p x=Wb:=bW.1 h x (aO (nF a b))
theorem F8 {a:Addr} {fd:FD} {ns:List Str} {sz:Nat} {mt:d0->List Stmt->Bool} (h:ui W.K a (Sr W.K fd ns sz mt)=Wb) (t:∀{c b},mt c b=Wb->zF tabs ns c.scope (aC sz) fd.body b=Wb):
  ∃o c b,W.K.lookup a=V9 o/\o.data= .func c/\xE W c b fd ns sz/\mt c b=Wb:=by
 obtain⟨o,c,f,g,h⟩:=Fy h;refine aL h λj h=>aL h λk h=>aL h λl h=>aL h λm h=>aL h λn h=>aL h λp h=>aL h λq r=> ?_;obtain⟨b,i,e⟩:=A2 k;exact⟨o,c,b,f,g,{Ma j with
  bo:=i
  Ea:=tl l
  nd:=of_decide_eq_true m
  mt:=t e
  knd:=λs d=>wQ (Mf n s d) (λh=>.inl (of_decide_eq_true h)) λh=>.inr (of_decide_eq_true h)
  D4:=λx d=>absurd rfl (of_decide_eq_false (il (bW.1 p _ (dE d))))
  oQ:=Ow q
  dln:=of_decide_eq_true r},e⟩
theorem Oh (h:Bc W.K=Wb) {f fd} (c:xh f=V9 fd) (d:f≠11):∃o b a ns sz,W.K.lookup (dY f)=V9 o/\o.data= .func b/\xE W b a fd ns sz:=by haveI:=all_range h (a9 (pS c) (by decide));rw[beq_eq_false_iff_ne.2 d,xK,c]at this;refine uX λe=> ?_;obtain⟨ns,_,this⟩:=jf (show vS nsL[f]? _=Wb from this);obtain⟨sz,_,this⟩:=jf this;obtain⟨o,b,a,g,i,j,_⟩:=F8 this id;exact e (⟨o,b,a,_,sz,g,i,j⟩)
theorem yi {K:Frag} {h:Heap} {a:Addr} {g:Str->Option Value} {n:Str} {r:Option Value} (X:K.In h) (G:h.Ns a g) (e:nsIn K a n=V9 r):g n=r:=by
 injection 0 K h a g n r with X G e;obtain⟨o,f,ep,k,hd,_,j⟩:=G;unfold nsIn at e
 induction q:K.lookup a with
 |none=>rw[q]at e;exact nn e
 |some b=>
  rw[q]at e;cases(X _ _ q).symm.trans k;obtain⟨c,d,_,l⟩:=o;cases hd;dsimp only at e;refine(j n).symm.trans ?_;show(f.find? (·.key.isStr n)).map (·.val)=r;rw[←Array.find?_toList]
  induction i:f.toList.find? (·.key.isStr n)with
  |some b=>rw[i]at e;exact aA e
  |none=>
   rw[i]at e;by_cases b:f.toList.any (·.refKey)=Wb
   ·exact nn ((if_pos b).symm.trans e)
   ·exact aA ((if_neg b).symm.trans e)
theorem oq (c:W.K.In W.h₀) (e:W.h₀.Ns dR W.mg) (d:W.h₀.Ns ke W.mb) {x:Str} {v:Value} (h:isNs W.K x v=Wb):W.mg x=Wa/\W.mb x=V9 v:=aL h λa b=>⟨yi c e (beq_iff_eq.1 a),yi c d (beq_iff_eq.1 b)⟩
theorem p7 (d:W.K.In W.h₀) (c:W.h₀.Ns dR W.mg) {x:Str} {v:Value} (h:uq W.K x v=Wb):W.mg x=V9 v/\keepIn W.K v=Wb:=aL h λa b=>⟨yi d c (beq_iff_eq.1 a),b⟩
theorem Ag {v:V} {s} (h:Im v s=Wb):v= .str s:=by
 cases v with
 |str t=>cases of_decide_eq_true (show decide (t=s)=Wb from h);rfl
 |_=>cases h
theorem NO {vs:List V} (h:QG vs=Wb):vs=Kc:=by obtain⟨a,vs,d,h⟩:=lF h;rw[d];refine aL h λe h=> ?_;obtain⟨b,vs,d,h⟩:=lF h;rw[d];refine aL h λf h=> ?_;obtain⟨c,vs,d,h⟩:=lF h;rw[d];refine aL h λg h=> ?_;rw[Ag e];rw[Ag f];rw[Ag g];rw[tl h];rfl
theorem Ra {ws:List Value} {n:Nat} (oJ:W.K.In W.h₀) (oI:W.h₀.NoLimit) (uu:W.h₀.Ns dR W.mg) (DB:W.h₀.Ns ke W.mb) (h:gdB W.K=Wb) (m:(lc,qT ws n)∈W.pJ) (p:CG Kc ws=Wb):Gd W:=
  by
 injection 0 W ws n with oJ oI uu DB h m p;exact aL h λq h=>aL h λs h=>aL h λt h=>aL h λu h=>aL h λw h=>aL h λy h=>aL h λz A=>
  {oJ:=oJ,oI:=oI,uu:=uu,DB:=DB
   sys:=(cW.1 A).imp λo a=>oJ _ _ a
   blt:=λ{b x} l=>oq oJ uu DB (Ey (o:=tabs.blt[b]?) (f:=λx=>isNs W.K x (GP b)) (all_range q (a9 (pS l) (by decide))) l)
   rng:=oq oJ uu DB s
   enu:=oq oJ uu DB t
   rev:=oq oJ uu DB u
   fn:=λ{f x} l a=>p7 oJ uu (Ey (o:=tabs.fn[f]?) (f:=λx=>uq W.K x (.ref (dY f))) (bW.1 w _ (dZ.1 a)) l)
   cls:=λ{c x} l=>p7 oJ uu (Ey (o:=tabs.cls[c]?) (f:=λx=>uq W.K x (.ref (fJ c))) (all_range y (a9 (pS l) (by decide))) l)
   Q7:=λ{g x v} l f=>by
    have h:=Ey (f:=TM W.K x) (Ey (o:=tabs.glob[g]?) (f:=λx=>vS (BX g) (TM W.K x)) (all_range z (a9 (pS l) (by decide))) l) f;have c:vS (nsIn W.K dR x) (λr=>vS r λb=>R8 v b)=Wb->∃b,W.mg x=V9 b/\VR (LU W.pJ) v b:=λh=>by obtain⟨r,e,h⟩:=jf h;obtain⟨b,rfl,h⟩:=jf h;exact⟨b,yi oJ uu e,Et h⟩
    cases v with
    |tup vs=>refine aL h λa b=> ?_;rw[NO b];exact⟨_,yi oJ uu (beq_iff_eq.1 a),.tup m (by decide) (Br p)⟩
    |_=>exact c h}
end
end
section
section
variable {W:Wd}
inductive Bd (f:List Expr->Bool):Stmt->Prop
 |mk {q0 q1 q2 q3 q4:Pos} {args:List Expr} (hl:args.length<29) (hq:(q2.endLine==q3.line)=Wb) (hf:f args=Wb):Bd f (.Expr (.Call (.Attribute (.Call (.Name (aX "super") q0) [] [] q1) (aX "__init__") q2) args [] q3) q4)
theorem Qi {x:Stmt} {f} (h:Bx x f=Wb):Bd f x:=
  by
 injection 0 x f with h;exact Bq (C:=Bd f) h λe c h=>by refine ip (C:=λe=>Bd f (.Expr e c)) h λa b ks d h=>aL h λz h=> ?_;rw[tl z];refine oh (C:=λa=>Bd f (.Expr (.Call a b [] d) c)) h λs nm g h=>aL h λk h=> ?_;rw[←of_decide_eq_true k];refine ip (C:=λs=>Bd f (.Expr (.Call (.Attribute s (aX "__init__") g) b [] d) c)) h λn as ks o h=>aL h λp h=>aL h λq h=> ?_;rw[tl p];rw[tl q];refine fm (C:=λn=>Bd f (.Expr (.Call (.Attribute (.Call n [] [] o) (aX "__init__") g) b [] d) c)) h λt r h=>aL h λm h=>aL h λj h=>aL h λl i=> ?_;rw[←of_decide_eq_true m];exact⟨of_decide_eq_true j,l,i⟩
theorem QD (l:W.K.In W.h₀) (i:W.h₀.Ns dR W.mg) (f:W.h₀.Ns ke W.mb) (v:W.prog=Ap) (h:ui W.K (dY 11) (ptB W.K)=Wb):
  Lq W:=by
 injection 0 W with l i f v h;obtain⟨o,p,F,G,h⟩:=Fy h;injection 0 o p with F G h;refine aL h λh1 h=>aL h λh2 h=>aL h λh3 h=>aL h λh4 h=>aL h λh5 h=>aL h λc h7=> ?_;obtain⟨b,m,q⟩:=A2 h7;obtain⟨⟨a,S⟩,d,H,c⟩:=lF c;injection 0 a S d with H c;refine aL c λz c=>aL c λu c=> ?_;cases tl z;cases(of_decide_eq_true u:wg=a);obtain⟨U,n,su⟩:=jf c;obtain⟨t1,a,rfl,d⟩:=lF q;injection 0 t1 a with m q d;obtain⟨t2,b,rfl,j⟩:=lF d;injection 0 t2 b with m q d j;obtain⟨t3,a,rfl,r⟩:=lF j;obtain⟨t4,b4,rfl,t⟩:=lF r;refine aL t λm1 h=>aL h λm2 h=>aL h λm3 h=>aL h λm4 mr=> ?_
 induction Qi m4 with|mk hl hq me=>
 refine aL su λa s=>aL s λb s=>aL s λs3 s=>aL s λs5 s=>aL s λs6 s=>aL s λs7 s=>aL s λs8 s=>aL s λs9 s=>aL s λy A=> ?_;obtain⟨oc,O,a⟩:=jf a;obtain⟨vs,P,a⟩:=jf a;obtain⟨e,Q,a⟩:=jf a;obtain⟨g,R,a⟩:=jf a;obtain⟨tf,rfl⟩:=Ew R;obtain⟨w,V,b⟩:=jf b;obtain⟨e,X,b⟩:=jf b;obtain⟨D,Y,b⟩:=jf b;cases z5 Y;refine aL b λe b=>aL b λB C=> ?_;obtain⟨oD,Z,e⟩:=jf e;obtain⟨T,f2,_⟩:=jf e;obtain⟨ar,g1,g2⟩:=jf s6;exact Lq.mk F G {Ma h1 (ns:=mq Hn) (sz:=11)with
  bo:=m,fb:=rfl,Ea:=H,m1:=m1,m2:=m2,m3:=m3,me:=me,ml:=hl,mp:=hq,mr:=mr,np0:=by decide
  knd:=λx k=>of_decide_eq_true (Mf h2 x k)
  Tx:=λx k=>of_decide_eq_false (il (bW.1 h3 x k))
  D4:=λk=>wQ (bW.1 h4 _ (dE k)) (λh=>absurd rfl (of_decide_eq_false (il h))) of_decide_eq_true
  oQ:=⟨z7 h5,rfl⟩
  su:={code:=z5 n,cod:=⟨oc,vs,g,tf,O,Oy P,Q,v▸a⟩,cell:=⟨w,V,OA X⟩,Rp:=⟨oD,T,Z,Gs f2⟩,sub:=beq_iff_eq.1 B,sup:=oq l i f s3,top:=v▸il s5,ar:=⟨ar,g1,of_decide_eq_true g2⟩,cM:=beq_iff_eq.1 C,fty:=beq_iff_eq.1 s7,fin:=s8,si:=beq_iff_eq.1 s9,Pn:=of_decide_eq_true y,frc:=of_decide_eq_true A}}
theorem NN {o:Obj} (h:Fb (V9 o)=Wb):∃ws n,o=qT ws n/\CG Kc ws=Wb:=by refine aL (show(o.cls== .type "tuple"&&_)=Wb from h) λa h=>aL h λb h=>aL h λc h=> ?_;obtain⟨x,e,h⟩:=jf h;obtain⟨g,i,d,f⟩:=o;cases beq_iff_eq.1 a;cases beq_iff_eq.1 b;cases Gm e;cases Array.isEmpty_iff.1 c;exact⟨x.1.toList,x.2,rfl,h⟩
theorem QI (G:Gd W) (a:W.prog=Ap) (h:Sf W.K=Wb):Ok W hH:=aL h λc h=>aL h λ_ h=>aL h λb h=>aL h λd _=>
 ⟨G,Rb b,Oh c,QD G.oJ G.uu G.DB a d,λ_ _ _ _ _ h=>h.elim⟩
end
end
section
open PySem.SeqAt
set_option maxRecDepth 100000
inductive SL (C T:Addr):Obj->Prop
 |mk (nm q:Str) (N:Addr) (bs:List Value) (sn:List Str) (sub:List Value) (ab:Bool) (col:Option Bool) (dd:Option Addr) (k0 k1 k2 k3 k5:Option Value):
  SL C T (xG nm q C N bs [.ref T,.type "Exception",.type "BaseException",.type "object"] Wb sn sub ab col dd k0 k1 k2 k3 k5 "Exception.__new__")
structure RN (W:Wd) (C T fI:Addr):Prop where
 obj:∃o,W.K.lookup C=V9 o/\SL C T o
 init:findIn W.K (.ref C) "__init__"=V9 (V9 (.ref fI))
 fn:typeIn W.K (.ref fI)=V9 (.type "function")
 sa:findIn W.K (.ref C) "__setattr__"=V9 (V9 (.builtin "object.__setattr__"))
 ns:W.mg PE=Wa/\W.mb PE=V9 (.type "Exception")
section
variable {prog:Program} {w:World} {A:Around} {E:Value->Shared->Prop} {h:Heap} {g:Array qG} {d:Drawn} {t:Nat} {os:nh}
variable {W:Wd} {C T fI:Addr}
set_option maxHeartbeats 4000000 in
theorem KN {R:Result->Shared->Prop} {nm q:Str} {N:Addr} {bs:List Value} {z:List Str} {m:List Value} {n:Bool} {e:Option Bool} {o:Option Addr} {s u v x y:Option Value} {rest:List Value}
  (a:h.get? C=V9 (xG nm q C N bs [.ref T,.type "Exception",.type "BaseException",.type "object"] Wb z m n e o s u v x y "Exception.__new__"))
  (r:R (.ok (.ret (.ref (h.objs.size+1)))) ⟨(h.push {cls:=.type "tuple",data:=.seq rest.toArray}).push
   {cls:=.ref C,data:=.fields #[.ref h.objs.size,.none,.none,.none,.bool Wc,.none]},g,d,t,os⟩) (k:rest.length<=gP):
  ly (model prog w) A (.call (.builtin "Exception.__new__") ⟨.ref C::rest,[]⟩) R ⟨h,g,d,t,os⟩:=by
 have F:=uR;have j:=F.ends;have l:=F.noStar;have b:(gY C::[.ref T,.type "Exception",.type "BaseException",.type "object"]).contains (.type "Exception")=Wb:=by simp
 have f:(gY C::[.ref T,.type "Exception",.type "BaseException",.type "object"]).contains (.type "AttributeError")=Wc:=by simp
 have i:(gY C::[.ref T,.type "Exception",.type "BaseException",.type "object"]).contains (.type "NameError")=Wc:=by assumption
 refine codeAny_call_builtin_code (DT _ F.quiet) ?_
 ·simp only[PS,F.newKind,F.newSplit,F.newRow]
  repeat (first|refine ea a ?_ |(refine gJ a ?_;rw[b])|refine wpAny_staticBase_exc a ?_ |refine PN a ?_ |rw[bne_self_eq_false,fK,if_false]|wp_step)
  refine codeAny_builtinAt F.entry ?_;refine _root_.PySem.wpAt_bind (_root_.PySem.wpAt_bind (_root_.PySem.wpAt_stack λp c=>_root_.PySem.wpAt_of_wpAny ?_));wp_walk;refine _root_.PySem.wpAt_of_wpAny ?_;rw[F.owner]
  repeat (first|with_reducible refine wpAny_madeHere_exc F.canon a ?_ |with_reducible refine ea a ?_ |(with_reducible refine gJ a ?_;first|rw[b]|rw[f]|rw[i])|wp_step)
  show R _ _;rw[kH];exact r
theorem Gg {rest:List Value} {Q:Value->Shared->Prop} (X:W.K.In h) (Y:RN W C T fI)
  (k:∀h' e,Heap.MadeExcOf h h' e (.ref C) rest->
   wpAny (model prog w) (A.under (.builtin "type.__call__" ⟨.ref C::rest,[]⟩)) (call (.ref fI) (.ref e::rest)) (λr s'=>r= .none/\Q (.ref e) s') E ⟨h',g,d,t,os⟩) (a:rest.length<=gP):
  wpAny (model prog w) A (call (.ref C) rest) Q E ⟨h,g,d,t,os⟩:=by
 injection 0 prog w A E h g d t os W with C T fI rest Q X Y k a;injection 0 C T fI rest Q with X Y k a;obtain⟨b,m,⟨nm,q,N,bs,I,p,s,l,u,B,D,F,G,H⟩⟩:=Y.obj;have e:=X _ _ m;have v:=tc_lookup;have y:=tc_bind (.ref C);have z:(⟨h,g,d,t,os⟩:Shared).TypeIs (.ref C) "type":=⟨_,e,rfl⟩;refine jn (RT ?_);show wpAny _ _ (callAny (.ref C) _) _ _ _
 repeat (any_goals (first|assumption|with_reducible refine ea e ?_ |wp_step))
 refine⟨rfl,?_⟩;refine codeAny_call_builtin_at (DT _ (by decide+kernel)) entry_typeCall (wpAny_check_type_call_sub e ?_)
 repeat (first|with_reducible refine ea e ?_ |with_reducible refine PN e ?_ |wp_step)
 refine KN e ?_ a;have j:∀b o,h.get? b=V9 o->((h.push {cls:=.type "tuple",data:=.seq rest.toArray}).push {cls:=.ref C,data:=.fields #[.ref h.objs.size,.none,.none,.none,.bool Wc,.none]}).get? b=V9 o:=λb o c=>dH _ (dH _ c);have c:=X.keeps j;have f:=j _ _ e;have b:((h.push {cls:=.type "tuple",data:=.seq rest.toArray}).push
   {cls:=.ref C,data:=.fields #[.ref h.objs.size,.none,.none,.none,.bool Wc,.none]}).get? (h.objs.size+1)=V9
   {cls:=.ref C,data:=.fields #[.ref h.objs.size,.none,.none,.none,.bool Wc,.none]}:=by heap_get
 haveI i:(gY C::[.ref T,.type "Exception",.type "BaseException",.type "object"]).contains (.ref C)=Wb:=by simp
 repeat (first|with_reducible refine ea b ?_ |wp_step)
 refine gJ f ?_;rw[i]
 repeat (first|with_reducible refine ea b ?_ |wp_step)
 refine(u3 c Y.init).here (dD (aI ?_));refine(bind_fn c _ Y.fn).here ?_;refine aI (ek (k _ (h.objs.size+1) ⟨j,c5 (fY _),h.objs.size,b,c5 (aK _),?_⟩) (λr s' n=> ?_) λ_ _ x=>x)
 ·exact dH _ (Eg rfl rfl)
 ·obtain⟨rfl,n⟩:=n;wp_walk;exact n
end
end
section
open PySem PySem.W PySem.Calls PyProof.Rows PySem.SeqAt Builtin Builtin.ObjectAttr
set_option maxRecDepth 100000
noncomputable abbrev Op (C:Addr) (dd:Option Addr) (t:Addr):Obj:={cls:=.ref C,dict:=dd,data:=.fields #[.ref t,.none,.none,.none,.bool Wc,.none]}
section
variable {prog:Program} {w:World} {A:Around} {E:Value->Shared->Prop} {h:Heap} {g:Array qG} {d:Drawn} {t:Nat} {os:nh}
variable {W:Wd} {C T fI e t0:Addr} {dd:Option Addr}
theorem Gf {rest:List Value} {R:Result->Shared->Prop} (X:W.K.In h) (Y:RN W C T fI) (f:h.get? e=V9 (Op C dd t0)) (c:rest.length<=gP)
  (k:∀h' a,(∀b o,b≠e->h.get? b=V9 o->h'.get? b=V9 o)->h'.get? e=V9 (Op C dd a)->R (.ok (.ret .none)) ⟨h',g,d,t,os⟩):
  ly (model prog w) A (.call (.builtin "Exception.__init__") ⟨.ref e::rest,[]⟩) R ⟨h,g,d,t,os⟩:=by
 injection 0 prog w A h g d t os W C with T fI e t0 dd rest R X Y f c k;injection 0 T fI e t0 dd rest R with X Y f c k;obtain⟨b,r,⟨nm,q,N,bs,E,s,u,m,p,v,y,z,B,D⟩⟩:=Y.obj;have l:=X _ _ r;have F:=uR;have j:(gY C::[.ref T,.type "Exception",.type "BaseException",.type "object"]).contains (.type "Exception")=Wb:=by simp
 haveI i:=F.noStar;refine Hz F.init.plain F.initEntry ?_
 ·simp only[PS,F.initKind,F.initSplit,F.initRow]
  repeat (first|with_reducible refine ea f ?_ |with_reducible refine ea l ?_ |(refine gJ l ?_;rw[j])|wp_step)
  refine wpAny_onRaise ?_;rw[show ∀(a b:String) (n:Nat),Bind.check ⟨.positional,"*","Exception",.self,[⟨"args",.varPos,Wc⟩]⟩ a b n (vt (λx=>x.fst) ({pos:=gY e::rest}:Args).kw)=pure () from
   λa b n=>check_star_args _ _ _ _ _ _]
  refine bE ?_;wp_walk;refine k _ h.objs.size (λb o a n=> ?_) ?_
  ·rw[Heap.get?_update_other _ _ (dJ a)];exact dH _ n
  ·rw[fM _ (dH _ f) rfl];rfl
theorem Gh {s:Shared} {g:Sem Bool} {Q:Value×List Value->Shared->Prop} (X:W.K.In s.heap) (f:∀u,Q (.builtin "Exception.__init__",[]) {s with toks:=u}):
  wpAny (model prog w) A (rE (.type "Exception") "__init__" g) Q E s:=by
 have a:Looks (model prog w) s.heap (typeOf (.type "Exception")) (.type "type"):=wt (kitMeta_of (by decide+kernel));have c:Looks (model prog w) s.heap (PR (.type "Exception")) Wa:=wt (by unfold PR;dsimp only;rw[show Manifest.isStub "Exception"=Wc from by decide+kernel];rfl);haveI b:findIn W.K (.type "type") "__getattribute__"=V9 (V9 (.builtin "type.__getattribute__")):=type_tga;haveI e:findCls W.K (.type "Exception") (.type "type") "__init__"=V9 (.val (.builtin "Exception.__init__")):=by kernel_rfl
 haveI d:Looks (model prog w) s.heap (specialOf (.type "Exception") "__getattribute__") (V9 (.builtin "type.__getattribute__")):=a.andThen (u3 X b);refine aI (d.here ?_);dsimp only;rw[if_pos (by decide+kernel)];refine aI (cls_open X c a b (looks_hook X (r:=Wa) (by rfl)) (by rfl) e ?_);refine bE ?_;refine handed_on rfl (bE (f _))
end
section
variable {prog:Program} {w:World} {A:Around} {E:Value->Shared->Prop} {h:Heap} {g:Array qG} {d:Drawn} {t:Nat} {os:nh}
variable {K:Frag} {C T fI x:Addr} {name:Str} {v:Value} {mA:Str->Option Value}
set_option tactic.hygienic true in
theorem On {tk:Tok} {Q:PySem.Fin->Shared->Prop} {nm q:Str} {N:Addr} {bs:List Value} {sn:List Str} {O:List Value} {S:Bool} {B:Option Bool} {dd:Option Addr} {Z k1 k2 k3 k5:Option Value} {ns:List Str} (X:K.In h)
  (V:h.get? C=V9 (xG nm q C N bs [.ref T,.type "Exception",.type "BaseException",.type "object"] Wb sn O S B dd Z k1 k2 k3 k5 "Exception.__new__"))
  (J:findIn K (.ref C) name=V9 Wa) (I:h.Inst x C mA)
  (R:∀h' c,h'.Inst x C (λy=>if y=name then V9 v else mA y)->
   (∀b o,b≠x->(∀a i,h.get? x=V9 a->a.dict=V9 i->b≠i)->h.get? b=V9 o->h'.get? b=V9 o)->
   (∀a,h.get? x=V9 a->∃b,h'.get? x=V9 b/\b.cls=a.cls/\b.data=a.data/\(∀i,b.dict=V9 i->a.dict=V9 i\/h.get? i=Wa))->Q (.done (.ret .none)) ⟨h',g,d,c,os⟩) (W:Within mA ns) (M:ns.length+1<=gP):
  wpAny (model prog w) A (Builtin.«object.__setattr__» ⟨[.ref x,.str name tk,v],[]⟩) Q E ⟨h,g,d,t,os⟩:=by
 obtain⟨o,j,z,m,hd⟩:=I;have r:=PySem.F.store_Exception.passes (.ref x);have P:Looks (model prog w) h (typeOf (.ref x)) (.ref C):=(SZ (part:=V9 headPart) j).andThen (by rw[z];exact .now);rw[osa_eq,refuse_eq];refine aI (aI (P.here (aI (wpAny_mroOf_exc V ?_))));rw[SR,SR,r];refine bE (aI (P.here (aI ((u3 X J).here ?_))));refine aI (bE ?_);unfold storeInOwnDict
 repeat (first|(with_reducible refine ea j ?_;rw[z])|wp_step)
 rcases hd with⟨G,I⟩|⟨i,f,n,u⟩
 ·rw[G,if_neg (by simp[typeHasDict])];split
  ·rename_i a
   exact nn a
  split
  ·rename_i c a
   exact absurd a (m c)
  ·have f:(h.push {cls:=.type "dict",data:=.dict #[]}).get? x=V9 o:=dH _ j;have n:x≠h.objs.size:=cT (d5 j);refine aI (wpAny_alloc' ?_);refine aI (wpAny_update' f ?_);refine bE ?_;have H:((h.push {cls:=.type "dict",data:=.dict #[]}).update x λo=>{cls:=o.cls,dict:=V9 h.objs.size,data:=o.data,slots:=o.slots}).get? h.objs.size
     =V9 {cls:=.type "dict",data:=.dict #[]}:=
    (Cv _ _ _ _ n.symm).trans (Eg rfl rfl)
   have L:((h.push {cls:=.type "dict",data:=.dict #[]}).update x λo=>{cls:=o.cls,dict:=V9 h.objs.size,data:=o.data,slots:=o.slots}).Ns h.objs.size (λ_=>Wa):=
    ⟨_,#[],_,H,rfl,λe a=>absurd a (by simp),λ_=>rfl⟩
   unfold storeInDict newKeyGuard;refine aI (bE (aI (wpAny_nsSet1 (Heap.Ns1.of_empty L) λh' c s=> ?_)));obtain⟨oD,F,D,p,l,k⟩:=c.count (zu name v O9);refine aI (PO p (by rw[l];exact PQ (aE k (by rw[dF,HM,sizeLine_eq];lia))) ?_);wp_walk;have u:h'.get? x=V9 {cls:=o.cls,dict:=V9 h.objs.size,data:=o.data,slots:=o.slots}:= ?_;refine R h' _ ⟨{cls:=o.cls,dict:=V9 h.objs.size,data:=o.data,slots:=o.slots},u,z,m,.inr ⟨h.objs.size,rfl,n.symm,?_⟩⟩ (λb y e _ a=> ?_)
    (λa h₀=>by rw[←aA (j.symm.trans h₀)];exact⟨_,u,rfl,rfl,λi e=>.inr (by rw[←aA e];exact c5 (aK _))⟩)
   ·obtain⟨o',i,ep,a,b,c,U,e⟩:=c;exact⟨o',i,ep,a,b,c,U,λy=>by rw[e y];by_cases Y:y=name<;>simp[Y,I]⟩
   ·exact(s.2 b (cT (d5 a))).trans ((Cv _ _ _ _ e).trans (dH _ a))
   ·refine(s.2 x n).trans (fM _ f ?_);have a:=(Heap.get?_some_iff.1 j).2;obtain⟨i,o,b,e⟩:=o;cases b<;>first|rfl|exact a
 ·rw[f];refine bE ?_;unfold storeInDict newKeyGuard;refine aI (bE (aI (wpAny_nsSet1 u λh' c s=> ?_)));obtain⟨oD,F,D,p,l,k⟩:=c.count (zu name v W);refine aI (PO p (by rw[l];exact PQ (aE k (by rw[dF];exact uV M ts))) ?_);wp_walk;refine R h' _ ⟨o,(s.2 x n.symm).trans j,z,m,.inr ⟨i,f,n,c⟩⟩ (λb y _ e a=> ?_)
   (λa h₀=>⟨a,(s.2 x n.symm).trans h₀,rfl,rfl,λ_ e=>.inl e⟩)
  exact(s.2 b (e o i j f)).trans a
theorem KL {Q:Unit->Shared->Prop} {ns:List Str} (X:K.In h) (z:findIn K (.ref C) "__setattr__"=V9 (V9 (.builtin "object.__setattr__")))
  {nm q:Str} {N:Addr} {bs:List Value} {M:List Str} {c:List Value} {p:Bool} {i:Option Bool} {dd:Option Addr} {F G H J L:Option Value}
  (n:h.get? C=V9 (xG nm q C N bs [.ref T,.type "Exception",.type "BaseException",.type "object"] Wb M c p i dd F G H J L "Exception.__new__"))
  (j:findIn K (.ref C) name=V9 Wa) (I:h.Inst x C mA)
  (y:∀h' e,h'.Inst x C (λy=>if y=name then V9 v else mA y)->
   (∀b o,b≠x->(∀a f,h.get? x=V9 a->a.dict=V9 f->b≠f)->h.get? b=V9 o->h'.get? b=V9 o)->
   (∀a,h.get? x=V9 a->∃b,h'.get? x=V9 b/\b.cls=a.cls/\b.data=a.data/\(∀f,b.dict=V9 f->a.dict=V9 f\/h.get? f=Wa))->Q () ⟨h',g,d,e,os⟩) (B:Within mA ns) (l:ns.length+1<=gP):
  wpAny (model prog w) A (setAttr (.ref x) name v) Q E ⟨h,g,d,t,os⟩:=by
 obtain⟨o,D,u,_⟩:=id I;haveI b:=PySem.F.store_object;haveI r:=b.slot.bind (.ref x);haveI m:Looks (model prog w) h (typeOf (.ref x)) (.ref C):=(SZ (part:=V9 headPart) D).andThen (by rw[u];exact .now);haveI f:(gY C::[.ref T,.type "Exception",.type "BaseException",.type "object"]).contains (.type "object")=Wb:=by rfl
 haveI c:Looks (model prog w) h (isInstance (.ref x) (.type "object")) Wb:=m.andThen (λA Q E s k q=>gJ (k _ _ n) (by rw[f];exact q));refine aI (wpAny_mkText ?_);refine aI (aI (aI (m.here ((u3 X z).here ?_))));refine dD (aI ?_);rw[r];refine bE (aI (jn ?_));refine Hz b.slot.plain b.entry (@check_slot (model prog w) _ _ ⟨h,g,d,t+1,os⟩ "object.__setattr__" "object" "__setattr__" (.ref x) [.str name t,v] [] _ b.kind b.split c (b.args (.ref x) (.str name t) v) ?_);refine On X n j I (λh' e k s a=> ?_) B l;exact bE (bE (y h' e k s a))
end
end
section
open PySem.SeqAt
set_option maxRecDepth 100000
section
variable {W:Wd}
theorem wU {ns sc} {c:Expr} {k:Nat} {x:Str} {env:Env} {s:Shared} {A:Around} {e:Str->Option Value} {d:Value} {Q:Value->Shared->Prop} {E:Value->Shared->Prop} (i:mE tabs ns (.nm k) sc c=Wb) (n:ns[k]? =V9 x) (f:env.scope.kind= .function)
  (g:env.kindOf x=V9 .local) (j:s.heap.Ns env.locals e) (m:e x=V9 d) (l:Q d s):wpAny (model W.prog W.w) A (eval c env) Q E s:=
 fm (C:=λc=>wpAny (model W.prog W.w) A (eval c env) Q E s) i λy p h=>aL h λa b=>by cases aA (n.symm.trans (of_decide_eq_true a));exact wpAny_Name (qC f g j m l) (il b)
theorem Cm {h h':Heap} {L e:Addr} {m:Str->Option Value} (a:h.Ns L m) (c:L≠e) (b:∀b o,b≠e->h.get? b=V9 o->h'.get? b=V9 o):h'.Ns L m:=by obtain⟨o,a,ep,d,r⟩:=a;exact⟨o,a,ep,b _ _ c d,r⟩
theorem Cp {K:Frag} {h h':Heap} {e:Addr} (X:K.In h) (c:K.lookup e=Wa) (d:∀b o,b≠e->h.get? b=V9 o->h'.get? b=V9 o):K.In h':=λa o b=>
 d a o (λq=>nomatch (q▸b).symm.trans c) (X a o b)
theorem NV {a:d0} (h:(D5.all λx=>decide (a.scope.names.lookup x=V9 .local))=Wb) {k:Nat} {x:Str} (e:D5[k]? =V9 x):a.scope.names.lookup x=V9 .local:=of_decide_eq_true (bW.1 h x (aO e))
theorem init_exc (G:Gd W) (Y:RN W qB PC D8) {e t0:Addr} {o:Obj} {i:d0} {C:List Stmt} {s:Shared} {A:Around} {n:List Nat} {tk:Tok} {Q:Value->Shared->Prop}
  (M:W.K.lookup D8=V9 o) (O:o.data= .func i) (FO:xE W i C TW D5 3) (l:KG W.K i C=Wb) (hA:A.depth<=989)
  (m:∀b o,W.h₀.get? b=V9 o->s.heap.get? b=V9 o) (he:s.heap.get? e=V9 (Op qB Wa t0)) (K:W.h₀.get? e=Wa)
  (hq:∀h' g t1 a,(∀b o,b≠e->s.heap.get? b=V9 o->h'.get? b=V9 o)->h'.get? e=V9 a->a.cls= .ref qB->a.data= .fields #[.ref t1,.none,.none,.none,.bool Wc,.none]->Q .none {s with heap:=h',toks:=g}):
  wpAny (model W.prog W.w) A (call (.ref D8) [.ref e,.str ⟨n.toArray⟩ tk]) Q Ht s:=by
 injection 0 W e t0 o i C s A n tk with G Y Q M O FO l hA m he K hq;injection 0 Q with G Y M O FO l hA m he K hq;have X:W.K.In s.heap:=G.oJ.keeps m;have F:W.K.lookup e=Wa:=by
  induction q:W.K.lookup e with
  |none=>rfl
  |some o=>exact nomatch K.symm.trans (G.oJ _ _ q)
 refine jn (lT (σ:=⟨[e],[],λ_=>.tup,[],λ_=>Wa⟩) (vs:=[.ref 0,.str n]) X (G.oI.keeps m) M O FO (dp hA (by decide)) (.cons (.ref rfl) (.cons (.str n tk) .nil)) (m':=[V9 (.ref 0),V9 (.str n),V9 .none]) rfl λa mL cm E bj en ok=>oU ?_);obtain⟨h₁,bb,rfl⟩:=E.toInCall.same;have a:=E.toInCall.keep;have j:=E.toInCall.ns;have J:s.heap.objs.size≠e:=eD (d5 he);have kd:(envOf i D8 s.heap.objs.size).scope.kind= .function:=FO.kind;have D:interactive (envOf i D8 s.heap.objs.size)=Wc:=by unfold interactive;rw[kd];rfl
 generalize ac:envOf i D8 s.heap.objs.size=env at en ok kd D⊢;have hL:env.locals=s.heap.objs.size:=ac▸rfl;have ad:∀x,env.kindOf x=i.scope.names.lookup x:=λx=>ac▸rfl;rw[←hL]at j J;have B:=X.keeps a;have L:=a _ _ he;have gn:=G.uu.keeps λb o h=>a b o (m b o h);have bn:=G.DB.keeps λb o h=>a b o (m b o h);refine fg l λs1 b l=>fg l λs2 b l=>fg l λs3 b l=>aL l λz l=>fC z<|aL l λi1 l=>aL l λi2 l=>aL l λi3 l=>aL l λav aw=> ?_
 have P:∀{k v},getM [V9 (V.ref 0),V9 (.str n),V9 .none] k=V9 v->∃x c,D5[k]? =V9 x/\env.kindOf x=V9 .local/\mL x=V9 c/\VR ⟨[e],[],λ_=>.tup,[],λ_=>Wa⟩ v c:=λhg=>by
  obtain⟨_,x,c,w,r,d⟩:=en hg;have f:=(ad x).trans (NV aw w);refine⟨x,c,w,f,?_,r⟩;rcases d with⟨_,S⟩|⟨d,_⟩
  ·exact S
  ·exact nomatch f.symm.trans d
 obtain⟨x0,c0,ae,l0,ak,r0⟩:=P (k:=0) rfl;obtain⟨x1,c1,af,l1,al,r1⟩:=P (k:=1) rfl;obtain⟨x2,c2,au,l2,az,r2⟩:=P (k:=2) rfl;obtain⟨_,rfl,as⟩:=r0.inv;obtain rfl:=aA as;obtain⟨t1,e_⟩:=r1.inv;rw[e_];rw[r2.inv];have ap:env.kindOf PE=V9 .globalImplicit:=(ad _).trans (of_decide_eq_true av);have st:∀{h tk} {x:Stmt} {k:Nat} {c:Value} {R:Flow->Shared->Prop} {v:Str->Option Value} {ns:List Str} {H:Str},OT W.K i x k=Wb->W.K.In h->h.Ns env.locals mL->D5[k]? =V9 H->env.kindOf H=V9 .local->mL H=V9 c->h.Inst e qB v->Within v ns->ns.length+1<=gP->
   (∀h' g name,h'.Inst e qB (λy=>if y=name then V9 c else v y)->Within (λy=>if y=name then V9 c else v y) (name::ns)->(∀b o,b≠e->(∀d r,h.get? e=V9 d->d.dict=V9 r->b≠r)->h.get? b=V9 o->h'.get? b=V9 o)->
    (∀d,h.get? e=V9 d->∃f,h'.get? e=V9 f/\f.cls=d.cls/\f.data=d.data/\(∀r,f.dict=V9 r->d.dict=V9 r\/h.get? r=Wa))->R .next ⟨h',s.gens,s.drawn,g,s.os⟩)->
   wpAny (model W.prog W.w) (A.deeper env) (exec x env) R Ht ⟨h,s.gens,s.drawn,tk,s.os⟩:=λ{h tk x k c R v ns H} S X hn w f hv I T hz hR=>by
  obtain⟨oC,hK,d⟩:=Y.obj
  induction d with|mk nm q N bs sn ag ab Z aa k0 k1 k2 k3 k5=>
  refine qN S λts p pos h'=>fg h' λt r h'=>aL h' λz h'=>fC z<|oh h' λq' y p8 h'=>aL h' λu h'=>aL h' λm1 m2=> ?_
  exact vl (wU m2 w kd f hn hv (wU m1 ae kd l0 hn ak (KL X Y.sa (X _ _ hK) (beq_iff_eq.1 u) I (λh' g U k d=>hR h' g y U (zu y c T) k d) T hz))) tD
 refine ek (?_ :wpAny _ _ _ (λf s'=>f=Flow.next/\Q .none s') Ht _) (λf s' u=>by obtain⟨rfl,u⟩:=u;exact u) (λ_ _ h=>nomatch h);refine d7 ?_;refine Bq i1 λex p6 h'=>ip h' λp bf ks p5 h'=>oh h' λq nm p2 h'=>aL h' λz h'=>fC z<|aL h' λhn h'=>nV hn<|aL h' λaq h'=>fm aq λg p1 hg=>nV hg<|aL h' λma h'=>aL h' λla lp=> ?_
 refine Mq (v4 (W:=W) (ns:=D5) (sc:=i.scope) rfl ma (of_decide_eq_true la) lp (iv kd ap (sZ ((ok []).glob▸gn) Y.ns.1 ((ok []).A3▸bn) Y.ns.2 λpl=> ?_) rfl)) D rfl;refine Gh B λu=>⟨λ_=>True,pY nofun,?_⟩;refine fg ma λa1 ar h'=>aL h' λax h'=>aL h' λh' mn=>fg h' λa2 bi h'=>aL h' λay h'=>aL h' λz ba=>fC z ?_;rw[pL mn];show wpAny _ _ (spliced ((Wc,Cu a1 env)::backTo p5 (eG [a2] env))) _ _ _;refine u5 (wU ax ae kd l0 j ak ?_);rw[pL ba];show wpAny _ _ (spliced ((Wc,Cu a2 env)::backTo p5 (eG [] env))) _ _ _;refine u5 (wU ay af kd l1 j al (HG ⟨trivial,?_⟩));refine jn (Gf B Y L (by simp[gP]) λx t2 k f=> ?_);have h:=Cm j J k;have t:=Cp B F k;have N:x.Inst e qB (λ_=>Wa):=⟨_,f,rfl,(λc e=>nomatch e),.inl ⟨rfl,λ_=>rfl⟩⟩;refine d7 (st i2 t h af l1 al N O9 (by simp[gP]) λag bc w R an ai U=> ?_);obtain⟨bg,v,S,y,I⟩:=U _ f;have c:∀b o,b≠e->x.get? b=V9 o->ag.get? b=V9 o:=λb o hb M=>ai b o hb (λd r h0 hd=>by obtain rfl:=aA (f.symm.trans h0);exact nn hd) M;refine d7 (st i3 (Cp t F c) (Cm h J c) au l2 az R an (by simp[gP]) λah bd w' be bh aj Z=> ?_);obtain⟨am,aa,T,H,ao⟩:=Z _ v;refine kQ ⟨rfl,hq ah _ t2 am (λb o hb M=> ?_) aa (T.trans S) (H.trans y)⟩;haveI h2:=k b o hb (a b o M);refine aj b o hb (λd r h0 hd=> ?_) (c b o hb h2);obtain rfl:=aA (v.symm.trans h0);rcases I r hd with q|q
 ·exact nn q
 ·rintro rfl;exact nomatch h2.symm.trans q
end
end
section
open PySem.SeqAt
set_option maxRecDepth 100000
section
variable {W:Wd}
theorem CY (Y:RN W qB PC D8) {A:Around} {env:Env} {s:Shared} {x:Sem Value} {Q:Flow->Shared->Prop} {E:Value->Shared->Prop} (n:A.handled=Wa)
  (h:wpAny (model W.prog W.w) A x (λv a=>∃e o t,v= .ref e/\W.K.In a.heap/\a.heap.get? e=V9 o/\o.cls= .ref qB/\o.data= .fields #[.ref t,.none,.none,.none,.bool Wc,.none]/\E (.ref e) a) E s):
  wpAny (model W.prog W.w) A (raiseStmt env (V9 x) Wa) Q E s:=by
 obtain⟨a,k,⟨nm,q,N,bs,I,r,u,f,i,w,y,z,B,D⟩⟩:=Y.obj;generalize qB=C at*;have b:(gY C::[.ref PC,.type "Exception",.type "BaseException",.type "object"]).contains (.type "BaseException")=Wb:=by rfl
 refine aI (ek h (λv a h₁=> ?_) λ_ _ x=>x);refine uX λp=> ?_;obtain⟨e,o,t,rfl,X,m,l,hd,j⟩:=h₁;haveI c:=X _ _ k;obtain⟨v,g,d,tk,H⟩:=a;obtain⟨F,G,a,o⟩:=o;cases l;cases hd;refine p ?_
 repeat (first|with_reducible refine ea m ?_ |with_reducible refine ea c ?_ |(with_reducible refine gJ c ?_;rw[b])|wp_step)
 exact wpAny_raiseNew_none n j
structure Lu (W:Wd):Prop where
 y:RN W qB PC D8
 i:∃o fdd body,W.K.lookup D8=V9 o/\o.data= .func fdd/\xE W fdd body TW D5 3/\KG W.K fdd body=Wb
theorem An (G:Gd W) (Y:Lu W) {p:Str} {U n c pos:Pos} {k:Nat} {z:Str} {A:Around} {env:Env} {s:Shared} {Q:Flow->Shared->Prop} {E:Value->Shared->Prop} (N:A.handled=Wa) (K:A.depth<=980)
  (O:env.scope.kind= .function) (j:m7 env.scope p=Wb) (d:env.globals=dR) (w:W.mg p=V9 (.ref qB)) (u:keepIn W.K (.ref qB)=Wb)
  (a:∀b o,W.h₀.get? b=V9 o->s.heap.get? b=V9 o)
  (L:∀h' f e g m,(∀b o,s.heap.get? b=V9 o->h'.get? b=V9 o)->s.heap.get? e=Wa->h'.get? e=V9 g->g.cls= .ref qB->g.data= .fields #[.ref m,.none,.none,.none,.bool Wc,.none]->E (.ref e) {s with heap:=h',toks:=f}):
  wpAny (model W.prog W.w) A (exec (.Raise (V9 (.Call (.Name p U) [.Constant (.str z) k n] [] c)) Wa pos) env) Q E s:=by
 obtain⟨o,I,y,R,x,F,H⟩:=Y.i;rw[arm_exec_Raise];refine aI (fQ (CY Y.y N ?_));refine aI (ek (?_ :wpAny _ _ _ _ Ht _) (λv e b=>aI (fQ (bE b))) λ_ _ h=>nomatch h);have J:=G.uu.keeps a;have T:rS tabs [] (.cons (.str z.cps.toList) .nil) env.scope [.Constant (.str z) k n]=Wb:=cL.2 ⟨MS (decide_eq_true rfl),rfl⟩;refine jy (iv O (ot j).1 (u6 (d▸J) w (fS (P:=W.K.In) T (λh X=>zv u h X) ?_)) (ot j).2);show wpAny _ _ (spliced ((Wc,Cu (.Constant (.str z) k n) env)::backTo c (eG [] env))) _ _ _;refine u5 (Constant_str (HG ⟨G.oJ.keeps a,?_⟩));refine Gg (G.oJ.keeps a) Y.y (λh' e M=> ?_) (by simp[gP]);obtain⟨t,S,V,X⟩:=M.there;have l:∀b o,W.h₀.get? b=V9 o->h'.get? b=V9 o:=λb o h=>M.keeps _ _ (a b o h);have i:W.h₀.get? e=Wa:=by
  induction q:W.h₀.get? e with
  |none=>rfl
  |some o=>exact nn (M.new.symm.trans (a _ _ q))
 refine init_exc G Y.y R x F H (aE (eN K) (by decide)) l S i λr f m g D v B C=>⟨rfl,?_⟩;exact⟨e,g,m,rfl,G.oJ.keeps (λb o h=>D b o (λq=>nn (i.symm.trans ((congrArg W.h₀.get? q).symm.trans h))) (l b o h)),v,B,C,L r f e g m (λb o h=>D b o (λq=>nn (M.new.symm.trans ((congrArg s.heap.get? q).symm.trans h))) (M.keeps b o h)) M.new v B C⟩
theorem Dr (G:Gd W) (Y:Lu W) {A:Around} {env:Env} {d:List Env} {s:Shared} {Q:Flow->Shared->Prop} {E:Value->Shared->Prop} {base:Heap} {e L:Addr} {y:Value} {p:Str} {K B M pos:Pos} {k:Nat} {rest:List sD}
  (u:A.frames=V9 (env::d)) (I:env.frame=V9 L) (t:Pc base (env::d) e (.ref qB) y s.heap) (r:∀b o,W.h₀.get? b=V9 o->base.get? b=V9 o)
  (J:env.scope.kind= .function) (l:m7 env.scope p=Wb) (g:env.globals=dR) (v:W.mg p=V9 (.ref qB))
  (H:∀h',base.StaysIn h'->s.heap.UpToSlots h'->Q (.ret (.bool Wb)) {s with heap:=h'}):
  wpAny (model W.prog W.w) A (wq (.ref e) env) (λ_ a=>wpAny (model W.prog W.w) A (DL (.ref e) Wa) (λ_ b=>
   wpAny (model W.prog W.w) A (Hy (.ref e) env (.ExceptHandler (V9 (.Name p K)) Wa [.Return (V9 (.Constant (.bool Wb) k B)) M] pos::rest)) Q E b) E a) E s:=by
 obtain⟨a,F,⟨nm,q,N,bs,Z,O,P,z,C,R,S,T,U,V⟩⟩:=Y.y.obj;refine wpAny_looks_onW u I t λx c i=>(wpAny_landsW c λm a j=> ?_);haveI b:∀b o,W.h₀.get? b=V9 o->m.get? b=V9 o:=λb o h=>a.1 _ _ (r _ _ h);haveI D:=G.uu.keeps b;obtain⟨X,o,w⟩:=a.there;refine wpAny_handleBy_cons (codeAny_handlers_test (iv J (ot l).1 (u6 (g▸D) v ?_) (ot l).2)) (by intro q;cases q);refine wpAny_excMatches_sub_self (G.oJ.keeps b _ _ F) o w (by rfl) ?_;refine codeAny_handlers_suite (lands_againW a λn f h=>(d7 (u0 (LC ?_))));exact H n f.1 (i.trans (j.trans h))
end
end
section
open PySem.SeqAt
noncomputable def app (a b:Ss):Ss:=match a with| .nil=>b| .cons s r=>.cons s (app r b)
noncomputable def len (a:Ss):Nat:=match a with| .nil=>0| .cons _ r=>len r+1
section
variable {W:Wd} {n:Nat} {Φ:d9}
theorem E5 {d:Ss} (A:Al W n Φ d) {r:Ss} {F:Fx} {g:Around} {K:Flow->Shared->Prop} {E:Value->Shared->Prop} {Q:En->Hp->Prop} (C:Cs n F g):∀{c σ m H s},zF tabs F.ns F.sc F.nE (app d r) c=Wb->Rel W F σ m H (cx s)->eQ pd Φ d m H (λfl m H=>fl= .next/\Q m H)->
  (∀a m' b σ' s',a=c.drop (len d)->To W F m' σ σ' b (cx s')->zF tabs F.ns F.sc F.nE r a=Wb->Q m' b->wpAny (model W.prog W.w) g (execs a F.env) K E s')->wpAny (model W.prog W.w) g (execs c F.env) K E s:=by
 induction A with
 |nil=>exact λj S h k=>k _ _ _ _ _ rfl S.to j h.2
 | @cons st d h _ _ _ y=>
  intro c σ m H s j S i k;refine fg (C:=λc=>(∀a m' b σ' s',a=c.drop (len d+1)->To W F m' σ σ' b (cx s')->zF tabs F.ns F.sc F.nE r a=Wb->Q m' b->wpAny (model W.prog W.w) g (execs a F.env) K E s')->wpAny (model W.prog W.w) g (execs c F.env) K E s) j (λp q h' k=>aL h' λw x=>d7 (gX (h C w S i λfl u o l f v t a i=>by
  induction a with
  |next=>exact y x t.rel i λa m' b σ' s' e z=>k a m' b σ' s' e (t.trans z)
  |cont=>cases i.1
  |ret b=>cases i.1))) k
end
noncomputable def lQ (h:Heap) (p:Addr->Bool):Heap:=ng h ((aC h.objs.size).filter λa=> !p a)
theorem pZ {h:Heap} {p:Addr->Bool} {b:Addr} {o:Obj} (e:(lQ h p).get? b=V9 o):h.get? b=V9 o/\p b=Wb:=by
 haveI a:=of_hideAll _ e;refine⟨a,?_⟩
 induction q:p b with
 |true=>rfl
 |false=>exact nomatch e.symm.trans (Ee _ (aG.2 ⟨aW.2 (d5 a),by rw[q];rfl⟩))
theorem rV {h:Heap} {p:Addr->Bool} {b:Addr} {o:Obj} (e:h.get? b=V9 o) (q:p b=Wb):(lQ h p).get? b=V9 o:=hideAll_get _ e λm=>(absurd ((il (aG.1 m).2).symm.trans q) ec)
theorem oK {h:Heap} {p:Addr->Bool} {b:Addr} (q:¬p b=Wb):(lQ h p).get? b=Wa:=by
 induction e:(lQ h p).get? b with
 |none=>rfl
 |some o=>exact absurd (pZ e).2 q
structure Lp (W:Wd):Prop where
 r:∃o fdd body,W.K.lookup (dY 87)=V9 o/\o.data= .func fdd/\xE W fdd body f87 Pr 2/\NH W.K fdd body=Wb
 p:∃o fdd body ns sz,W.K.lookup (dY 53)=V9 o/\o.data= .func fdd/\xE W fdd body f53 ns sz/\NK W.K fdd body=Wb
end
section
open PySem.SeqAt
set_option maxRecDepth 100000
theorem M0 {x r} (h:M1 x=V9 r):∃p,x= .Try r.1 r.2.1 r.2.2.1 r.2.2.2 p:=by injection 0 x r with h;cases x<;>first|exact nn h|exact aA h▸⟨_,rfl⟩
theorem NJ {x r} (h:QA x=V9 r):∃p,x= .Raise r.1 r.2 p:=by injection 0 x r with h;cases x<;>first|exact nn h|exact aA h▸⟨_,rfl⟩
theorem Of (x:sD):∃p,x= .ExceptHandler (rh x).1 (rh x).2.1 (rh x).2.2 p:=by cases x;exact⟨_,rfl⟩
section
variable {W:Wd} {n:Nat} {Φ:d9}
theorem Rel.slots {F σ m H x} {base h':Heap} (S:Rel W F σ m H x) (c:∀b o,x.heap.get? b=V9 o->b≠F.env.locals->(∃p∈σ.l,p.1=b)\/W.h₀.get? b≠Wa->base.get? b=V9 o) (st:base.StaysIn h') (u:x.heap.UpToSlots h'):Rel W F σ m H ⟨h',x.os,x.gens⟩:=
 {S with
  fr:=⟨u.ns S.fr.ns,λb o e=>st _ _ (c b o (S.fr.keep b o e) (λq=>nomatch (q▸e).symm.trans (c5 S.fr.above)) (.inr λq=>nomatch e.symm.trans q)),S.fr.above⟩
  nw:=λp a=>⟨st _ _ (c _ _ (S.nw p a).1 (S.nw p a).2.1 (.inl ⟨p,a,rfl⟩)),(S.nw p a).2⟩}
theorem AL {F σ m H x} (S:Rel W F σ m H x):∃o,x.heap.get? F.env.locals=V9 o/\∀vs,o.data≠.fields vs:=by obtain⟨o,a,ep,h,d,_⟩:=S.fr.ns;exact⟨o,h,λvs e=>(by cases d.symm.trans e)⟩
theorem MH {f t p q pos} (h:zY (.If t p q pos) f=Wb):f t p q=Wb:=by unfold zY ws at h;exact aL h λ_ b=>b
theorem sv.dec {A:Around} (h:sv (n+1) A):sv n A:=⟨h.hh,aE (fy (fx 8 (fY n)) _) h.hd,aE (oX (fy (fx 64 (fY n)) _) _) h.hu⟩
theorem sv.dep {A:Around} {env:Env} (h:sv (n+1) A):(A.deeper env).depth<=980:=by haveI:=h.hd;dsimp only[HH];lia
theorem sv.lt {A:Around} (h:sv n A):A.depth<SU:=dp (aE (fG _ _) h.hd) (by decide)
theorem Ao (O:Ok W hH) (Y:Lu W) {l c F A σ a b H s K E Q} (d:NK W.K l c=Wb) (C:Cs n F A) (sc:F.env.scope=l.scope) (t:A.depth<=980) (mt:zF tabs F.ns F.sc F.nE (app QF Tq) c=Wb) (S:Rel W F σ [V9 a,V9 b,Wa,Wa,Wa,Wa,Wa,Wa,Wa,Wa,Wa] H (cx s)) (h:Ref (wn pd hH n) a b H Q)
  (T:∀m' g σ' s' h' f e v i,To W F m' σ σ' g (cx s')->Q g->(∀b o,s'.heap.get? b=V9 o->h'.get? b=V9 o)->s'.heap.get? e=Wa->h'.get? e=V9 v->v.cls= .ref qB->v.data= .fields #[.ref i,.none,.none,.none,.bool Wc,.none]->E (.ref e) {s' with heap:=h',toks:=f}):
  wpAny (model W.prog W.w) A (execs c F.env) K E s:=by
 injection 0 W n l c F A σ a b H with O Y s K E Q d C sc t mt S h T;have G:=O.gd;refine E5 (zl G O.gc (sound O n) QF).2 C mt S h λi U N L w e j m hq=>(uX λk_=> ?_);obtain⟨b1,f,rfl,c⟩:=lF d;obtain⟨b2,g,rfl,f⟩:=lF c;obtain⟨b3,k,rfl,g⟩:=lF f;obtain⟨b4,r4,rfl,I⟩:=lF g;cases e;obtain⟨_,_,e,m⟩:=lF m;cases e;refine k_ (aL m λm _=>d7 ?_);clear d c f g mt;refine zX (C:=λx=>mS tabs F.ns F.sc F.nE (.ite SA (.cons .si .nil) .nil) x=Wb->wpAny (model W.prog W.w) A (exec x F.env) _ E w) I (λab bb aa pos d m=> ?_) m;refine aL (MH (show zY _ _=Wb from m)) λhc _=>SO (gX (Ak (Φ:=wn pd hH n) G tW tW C.toCn hc j.rel hq λc P M f k B=> ?_));obtain⟨rfl,B⟩:=B;refine fg d λy r i=>aL i λz i=>fC z<|d7 ?_
 obtain⟨⟨x,R⟩,e,i⟩:=jf i;rcases NJ e with⟨J,rfl⟩;refine aL i λz i=>wE (D:=λR=>wpAny (model W.prog W.w) A (exec (.Raise x R J) F.env) _ E f) z<|wD (D:=λx=>wpAny (model W.prog W.w) A (exec (.Raise x Wa J) F.env) _ E f) i λex i=>(ip i λp as ks q d=>aL d λz d=>fC z<|fm d λZ np d=>aL d λgl d=>aL d λy d=>fg d λar r d=>aL d λz d=>fC z<|o5 d λc kk V d=> ?_)
 haveI q_:=cW.1 d;haveI X:=q_.choose_spec;refine GN (C:=λc=>wpAny (model W.prog W.w) A (exec (.Raise (V9 (.Call (.Name Z np) [.Constant c kk V] [] q)) Wa J) F.env) _ E f) (decide_eq_true X) ?_;have g:=p7 G.oJ G.uu y;exact An G Y C.a.hh t C.f.kind (sc▸gl) C.f.glob g.1 g.2 k.rel.fr.keep λu o e v tt=>T _ _ _ f u o e v tt (j.trans k) B
inductive uQ (W:Wd) (l:List Env) (K:Shared->Prop):Value->Shared->Prop
 |mk {base:Heap} {e:Addr} {a0:Value} {s:Shared} (hf:Pc base l e (.ref qB) a0 s.heap) (hw:∀b o,W.h₀.get? b=V9 o->base.get? b=V9 o) (k:∀h',base.StaysIn h'->s.heap.UpToSlots h'->K {s with heap:=h'}):uQ W l K (.ref e) s
theorem F3 (G:Gd W) (Y:Lu W) {F:Fx} {A:Around} {s K E d e hd j sc} (C:Cs n F A) (l:F.env.scope=sc) (i:A.frames=V9 (F.env::d)) (h:F.env.frame=V9 F.env.locals)
  (g:(vS (rh hd).1 (λg=>iz g λa=>m7 sc a&&uq W.K a (.ref qB))&&(vN (rh hd).2.1&&v1 (rh hd).2.2 λx r=>v0 r&&zW x λo=>vS o λe=>qR e λc=>decide (cBool c=V9 Wb)))=Wb) (f:uQ W (F.env::d) (K (.ret (.bool Wb))) e s):
  wpAny (model W.prog W.w) A (wq e F.env) (λ_ a=>wpAny (model W.prog W.w) A (DL e Wa) (λ_ b=>wpAny (model W.prog W.w) A (Hy e F.env (hd::j)) K E b) E a) E s:=by
 obtain⟨r,a⟩:=Of hd;rw[a];generalize rh hd=q at g;obtain⟨q,k,m⟩:=q;refine aL g λp rb=>aL rb λrb c=> ?_;clear g a;refine wD (D:=λq=>wpAny (model W.prog W.w) A (wq e F.env) (λ_ a=>wpAny (model W.prog W.w) A (DL e Wa) (λ_ b=>wpAny (model W.prog W.w) A (Hy e F.env (.ExceptHandler q k m r::j)) K E b) E a) E s) p λt g=> ?_;obtain rfl:k=Wa:=MQ rb;refine fg (C:=λm=>wpAny (model W.prog W.w) A (wq e F.env) (λ_ a=>wpAny (model W.prog W.w) A (DL e Wa) (λ_ b=>wpAny (model W.prog W.w) A (Hy e F.env (.ExceptHandler (V9 t) Wa m r::j)) K E b) E a) E s) c λJ rr c=>aL c λz c=>fC z<|fm g λy H p=>aL p λb u=>wz c λo I c=>wD c λx c=>o5 c λw B a c=>B5 c ?_
 induction f with|mk f v k=>exact Dr G Y i h f v C.f.kind (l▸b) C.f.glob (p7 G.oJ G.uu u).1 k
theorem J7 (G:Gd W) (Y:Lu W) {F A σ a b H s K E d sc} {t:Stmt}
  (rb:(vS (M1 t) λq=>v1 q.1 (λx r=>v0 r&&ML x λe=>kO e λp I ks _=>iz p λy=>v0 ks&&(m7 sc y&&(uq W.K y (.ref (dY 53))&&rS tabs Pr (.cons (.nm 0) (.cons (.nm 1) .nil)) sc I)))&&(v1 q.2.1 (λh _=>vS (rh h).1 (λg=>iz g λc=>m7 sc c&&uq W.K c (.ref qB))&&(vN (rh h).2.1&&v1 (rh h).2.2 λx r=>v0 r&&zW x λo=>vS o λe=>qR e λc=>decide (cBool c=V9 Wb)))&&v0 q.2.2.2))=Wb)
  (C:Cs n F A) (m:F.env.scope=sc) (c:F.sc=sc) (ns:F.ns=Pr) (l:A.frames=V9 (F.env::d)) (k:F.env.frame=V9 F.env.locals) (S:Rel W F σ [V9 a,V9 b] H (cx s))
  (Q:∀xs s' σ',To W F [V9 a,V9 b] σ σ' H (cx s')->kb σ' [a,b] xs->wpAny (model W.prog W.w) A (call (.ref (dY 53)) xs) (λ_ _=>False) (uQ W (F.env::d) (K (.ret (.bool Wb)))) s'):
  wpAny (model W.prog W.w) A (exec t F.env) K E s:=by
 injection 0 W n F A σ a b H s K with G Y E d sc t rb C m c ns l k S Q;subst c;obtain⟨⟨u,B,c,j⟩,e,rb⟩:=jf rb;obtain⟨R,U⟩:=M0 e;rw[U];refine aL rb λf rb=>aL rb λi J=> ?_;clear rb e;refine fC (C:=λj=>wpAny (model W.prog W.w) A (exec (.Try u B c j R) F.env) K E s) J<|fg (C:=λB=>wpAny (model W.prog W.w) A (exec (.Try u B c [] R) F.env) K E s) i λhd Z i=>(wpAny_Try_except (ek (?_ :wpAny (model W.prog W.w) A (execs u F.env) (λ_ _=>False) (uQ W (F.env::d) (K (.ret (.bool Wb)))) s) (λ_ _ h=>h.elim) λe s' h=>F3 G Y C m l k i h))
 refine fg (C:=λu=>wpAny (model W.prog W.w) A (execs u F.env) (λ_ _=>False) (uQ W (F.env::d) (K (.ret (.bool Wb)))) s) f λx r f=>aL f λz f=>fC z<|d7 (Bq f λe pe h'=>ip h' λp I ks pos h'=>fm h' λy py h'=>aL h' λz h'=>fC z<|aL h' λv h'=>aL h' λw D=> ?_)
 haveI O:=p7 G.oJ G.uu w;haveI g:rS tabs F.ns (.cons (.nm 0) (.cons (.nm 1) .nil)) F.sc I=Wb:=ns.symm▸D;haveI V:jS pd (λ_ _ _ _=>False) (.cons (.nm 0) (.cons (.nm 1) .nil)) [V9 a,V9 b] H (λvs h=>vs=[a,b]/\h=H):=⟨rfl,rfl⟩;refine Mq (ek (?_ :wpAny (model W.prog W.w) A _ (λ_ _=>False) (uQ W (F.env::d) (K (.ret (.bool Wb)))) s) (λ_ _ h=>vb h) λ_ _ h=>h) (ur C.f) rfl;refine jy (pW G C.f S v O.1 (fS (P:=W.K.In) g (λh X=>zv O.2 h X) (gX (lI (Φ:=λ_ _ _ _=>False) tW (lI tW pN) C.toCn g S V λvs N M L T h o q=>⟨kr G h.rel,?_⟩))));obtain⟨rfl,rfl⟩:=q;exact Q _ _ _ h o
theorem out {b:Sg} {h:Heap} {c:Fx} {σ':Sg} {m' f k i} (d:Rel W c σ' m' f ⟨h,k,i⟩) (e:∀p∈b.l,p∈σ'.l) (g:c.env.frame=V9 c.env.locals):
  ∃L o,c.env.frame=V9 L/\(lQ h (λa=>decide (a∈b.l.map (·.1))||(W.h₀.get? a).isSome)).get? L=Wa/\h.get? L=V9 o/\∀vs,o.data≠.fields vs:=by
 obtain⟨o,j,hd⟩:=AL d;refine⟨_,o,g,oK λq=>wQ q (λq=> ?_) λq=> ?_,j,hd⟩
 ·obtain⟨l,a⟩:=map_fst (of_decide_eq_true q);exact(d.nw _ (e _ a)).2.1 rfl
 ·have q:=(c5 d.fr.above)▸q;cases q
theorem w0 {k:ScopeKind} (e:k= .function):k≠.module:=λq=>(absurd (e.symm.trans q) (by decide))
theorem leave_own {F c d:Fx} {f g l:Sg} {m M N H s} {A:Around} {h':Heap} {tk:Nat} {e:Addr} {P:Obj} {U:Addr} {K:Shared->Prop} (h:Rel W F f m H (cx s)) (w:Rel W c g M H (cx s)) (x:Rel W d l N H (cx s)) (j:∀p∈f.l,p∈g.l) (r:∀p∈g.l,p∈l.l)
  (G:F.env.scope.kind= .function) (I:c.env.scope.kind= .function) (J:d.env.scope.kind= .function) (y:F.env.frame=V9 F.env.locals) (B:c.env.frame=V9 c.env.locals) (v:d.env.frame=V9 d.env.locals) (Q:A.frames=V9 [d.env,c.env,F.env])
  (i:∀b o,s.heap.get? b=V9 o->h'.get? b=V9 o) (O:s.heap.get? e=Wa) (T:h'.get? e=V9 P) (S:P.cls= .ref qB) (hd:P.data= .fields #[.ref U,.none,.none,.none,.bool Wc,.none])
  (k:∀a,Rel W F f m H ⟨a,s.os,s.gens⟩->K {s with heap:=a,toks:=tk}) {E:Value->Shared->Prop}:
  wpAny (model W.prog W.w) A (leaving d.env (.ref e)) (λ_ s'=>uQ W [c.env,F.env] K (.ref e) s') E {s with heap:=h',toks:=tk}:=by
 haveI t:=h.grow i;have C:(lQ h' (λa=>decide (a∈f.l.map (·.1))||(W.h₀.get? a).isSome)).get? e=Wa:=oK λq=>wQ q (λq=>by
  obtain⟨P,a⟩:=map_fst (of_decide_eq_true q);exact nn (O.symm.trans (h.nw _ a).1)) λq=>by
  obtain⟨P,a⟩:=cW.1 q;exact nn (O.symm.trans (h.fr.keep _ _ a))
 refine wpAny_leaving_firstW Q ⟨w0 J,out (x.grow i) (λp D=>r p (j p D)) v,w0 I,out (w.grow i) j B,w0 G,out t (λp D=>D) y,trivial⟩ v T (λb o q=>(pZ q).1) C hd rfl rfl λR L=> ?_;haveI L:=(S)▸L;exact .mk ⟨L.1,C,L.2.1.2.2,L.2.2.1⟩ (λb o q=>rV (i _ _ (h.fr.keep _ _ q)) (kl.2 (.inr (cW.2 ⟨o,q⟩)))) λa st u=>
  k a (t.slots (λb o q n z=>rV q (kl.2 (z.elim (λ⟨p,D,e⟩=>.inl (decide_eq_true (e▸bN D))) λz=>.inr (Option.isSome_iff_ne_none.2 z)))) st (Pb L.2.2.2 u))
theorem xu (O:Ok W hH) (Y:Lu W) (R:Lp W) {F m A σ H s a b xs Q K} (ab:A.frames=V9 [F.env]) (ak:F.env.frame=V9 F.env.locals) (hF:pG F) (hA:sv (n+2) A) (S:Rel W F σ m H (cx s)) (hv:kb σ [a,b] xs)
  (h:Ref (wn pd hH n) a b H Q) (k:∀c σ' s',To W F m σ σ' c (cx s')->Q c->K (.bool Wb) s'):WN W A (call (.ref (dY 87)) xs) K s:=by
 refine uX λk_=> ?_;haveI G:=O.gd;obtain⟨as,i,Z,M,w,g,rb⟩:=R.r;obtain⟨au,j,aa,P,T,N,x,d,pb⟩:=R.p;obtain⟨oL,es,ep,ac,az⟩:=id S.fr.ns;have f:∀{e:Env},sv (n+1) (A.deeper e):=(sv.deep (n:=n+1) hA).k;refine k_ (jn (lT (kr G S) (G.oI.keeps S.fr.keep) M w g hA.lt hv (m':=[V9 a,V9 b]) rfl λav al ai q u J l=>oU (fg rb λt rest rb=>aL rb λ_ rb=>d7 ?_)));haveI C:=enter (env:=envOf i (dY 87) s.heap.objs.size) S ac q u (InCallC.sm q).1 (InCallC.sm q).2 J;refine J7 G Y rb ⟨⟨l (zb F σ oL::F.fw),(sv.deep (n:=n) hA.dec)⟩,λe=>absurd e (g.D4 _)⟩ rfl rfl rfl (jO ab) rfl C.rel λao B V c ag=> ?_;obtain⟨oM,ay,ax,ad,_⟩:=id c.rel.fr.ns;refine jn (lT (kr G c.rel) (G.oI.keeps c.rel.fr.keep) N x d f.lt ag (m':=[V9 a,V9 b,Wa,Wa,Wa,Wa,Wa,Wa,Wa,Wa,Wa]) rfl λaw am aj r v L o=>oU ?_);haveI D:=enter (env:=envOf j (dY 53) B.heap.objs.size) c.rel ad r v (InCallC.sm r).1 (InCallC.sm r).2 L;refine Ao (F:=o6 (o6 F σ oL (envOf i (dY 87) s.heap.objs.size) Pr (aC 2)) V oM (envOf j (dY 53) B.heap.objs.size) P (aC T)) O Y pb ⟨⟨o _,sv.deep (n:=n) f⟩,λe=>absurd e (d.D4 _)⟩ rfl f.dep d.mt D.rel h λar X ap ah aq U e o' tt I hQ af an he hc hd=> ?_;have z:=leave c.rel ad (D.trans I);have y:=leave S ac (C.trans (c.trans z));exact ek (leave_own y.rel z.rel I.rel (λp hp=>(aG.1 hp).1) (λp hp=>(aG.1 hp).1) hF.kind (l []).kind (o []).kind ak rfl rfl (jO (jO ab)) af an he hc hd (E:=λ_ _=>False) λae p=>k X _ {ah with heap:=ae,toks:=U} ⟨y.le,p⟩ hQ) (λ_ _ h=>h) λ_ _ h=>h.elim
end
end
section
open PySem.SeqAt
section
section
variable {W:Wd}
theorem Dl {s a:Shared} {g:List (Addr×Obj)} (i:∀p∈g,s.heap.get? p.1=V9 p.2/\W.h₀.get? p.1=Wa) (z:∀b o,W.h₀.get? b=V9 o->s.heap.get? b=V9 o) (n:W.h₀.objs.size<=s.heap.objs.size) (j:∀{p},p∈W.pJ->p∈g) (A:a.os=W.os) (v:a.gens=W.gs)
  {env:Env} {ns:List Str} {nE:List Nat} {k m:Str->Option Value} {m':En} (X:Ef s env.locals k env.cells m a) (w:∀p∈env.cells,env.cells.lookup p.1=V9 p.2) (u:Bound (LU g) env ns nE k m m'):
  ∃σ,Rel W ⟨env,ns,nE,env.scope,[]⟩ σ m' [] (cx a):=by
 have l:∀{b o},s.heap.get? b=V9 o->b<env.locals:=λe=>a9 (d5 e) X.toInCall.fresh;haveI base:W.h₀.objs.size<=env.locals:=aE n X.toInCall.fresh;have d:∀{p},p∈j3 a.heap env.cells->env.locals<p.1/\a.heap.get? p.1=V9 p.2:=λb=>by obtain⟨q,c,rfl⟩:=aM.1 b;obtain⟨o,f,_⟩:=X.cell q.1 q.2 (w q c);exact⟨X.above q.1 q.2 c,by rw[f];rfl⟩
 have f:∀{x c},env.cells.lookup x=V9 c->∃o,o.data= .cell (m x)/\Mem ⟨[],g,λy=>if y∈(j3 a.heap env.cells).map (·.1) then .cell else .tup,j3 a.heap env.cells++g,k⟩ .cell (c,o):=λ{x c} e=>by obtain⟨o,f,hd⟩:=X.cell x c e;haveI b:(c,o)∈j3 a.heap env.cells:=aM.2 ⟨(x,c),dE e,by rw[f];rfl⟩;exact⟨o,hd,bB _ b,if_pos (bN b)⟩
 refine⟨⟨[],g,λy=>if y∈(j3 a.heap env.cells).map (·.1) then .cell else .tup,j3 a.heap env.cells++g,k⟩,⟨X.toInCall.ns,λb o e=>X.toInCall.keep b o (z b o e),base⟩,λp b=> ?_,rfl,(λe=>nn (e)),λ{p} b=>⟨aT _ b,if_neg λh=> ?_⟩,λe=> ?_,λ_ e=> ?_,trivial,j,A,v⟩
 ·rcases aZ.1 b with b|b
  ·exact⟨(d b).2,eD (d b).1,c5 (aE base (cO (d b).1))⟩
  ·exact⟨X.toInCall.keep _ _ (i p b).1,cT (l (i p b).1),(i p b).2⟩
 ·exact(map_fst h).elim λo q=>cX _ (dy (l (i p b).1) (d q).1)
 ·obtain⟨p,x,B,r,t,b⟩:=u e;refine⟨p,r,VR.le (σ:=LU g) (σ':=⟨[],g,λy=>if y∈(j3 a.heap env.cells).map (·.1) then .cell else .tup,j3 a.heap env.cells++g,k⟩) ⟨id,id⟩ t,?_⟩;rcases b with q|⟨q,h,c,b⟩
  ·exact .loc q.1 q.2
  ·obtain⟨o,hd,M⟩:=f b;exact .lS (.inl q) b M (hd.trans (congrArg _ h))
 ·obtain⟨o,hd,M⟩:=f e;exact⟨M,hd⟩
theorem qj {n:Nat} (O:Ok W hH) (Y:Lu W) (R:Lp W) {F m A σ H s k z b K Q l} (f:A.frames=V9 [F.env]) (d:F.env.frame=V9 F.env.locals) (C:Cn n F A) (u:sv (n+2) A) (x:mE tabs F.ns (.call 87 (.cons (.nm k) (.cons (.str z) .nil))) F.sc l=Wb) (S:Rel W F σ m H (cx s)) (v:getM m k=V9 b)
  (h:Ref (wn pd hH n) b (.str z) H Q) (E:∀a σ' s',To W F m σ σ' a (cx s')->Q a->K (.bool Wb) s'):WN W A (eval l F.env) K s:=
 ip x λp J ks pos h'=>fm h' λy _ h'=>aL h' λI h'=>fC I<|aL h' λD h'=>aL h' λw h'=>aL h' λg c=>
 haveI e:=O.gd.fn (of_decide_eq_true D) w;have B:jS pd (wn pd hH n) (.cons (.nm k) (.cons (.str z) .nil)) m H (λvs a=>vs=[b,.str z]/\a=H):=by show qA (getM m k) _;rw[v];exact⟨rfl,rfl⟩
 jy (pW O.gd C.f S g e.1 (fS (P:=W.K.In) c (λh X=>zv e.2 h X) (lI (Φ:=wn pd hH n) tW (lI ES pN) C c S B λvs j i xs o t r q=>⟨kr O.gd t.rel,by obtain⟨rfl,rfl⟩:=q;exact xu O Y R f d C.f u t.rel r h λa σ' s' G q=>E a σ' s' (t.trans G) q⟩)))
theorem FF (O:Ok W hH) (Y:Lu W) (R:Lp W) {s:Shared} {v:V} {x:Value} (F:∀p∈W.pJ,s.heap.get? p.1=V9 p.2/\W.h₀.get? p.1=Wa) (M:∀b o,W.h₀.get? b=V9 o->s.heap.get? b=V9 o) (E:W.h₀.objs.size<=s.heap.objs.size) (os:s.os=W.os) (gs:s.gens=W.gs) (P:VR (LU W.pJ) v x)
  (h:eQ pd (wn pd hH 19) NM [V9 v,Wa,Wa,Wa,Wa,Wa,Wa,Wa,Wa,Wa,Wa,Wa,Wa,Wa,Wa,Wa,Wa,Wa] [] λfl m H=>fl= .next/\uP (wn pd hH 19) (wn pd hH 17) m H):
  wpAny (model W.prog W.w) zt (PT (.ref (dY 86)) [x]) (λr s'=>r= .bool Wb/\s'.os=W.os/\s'.gens=W.gs/\(∀p∈W.pJ,s'.heap.get? p.1=V9 p.2)/\∀b o,W.h₀.get? b=V9 o->s'.heap.get? b=V9 o) Ht s:=by
 injection 0 W s v x with O Y R F M E os gs P h;haveI G:=O.gd;obtain⟨o,c,m,ns,sz,N,D,K⟩:=O.fns (f:=86) rfl (by decide);injection 0 o c m ns sz with N D K;haveI L:sv (19+1) zt:=⟨rfl,by decide,by decide⟩;refine jn (lT (G.oJ.keeps M) (G.oI.keeps M) N D K L.lt (.cons P .nil) (m':=[V9 v,Wa,Wa,Wa,Wa,Wa,Wa,Wa,Wa,Wa,Wa,Wa,Wa,Wa,Wa,Wa,Wa,Wa]) rfl λH mL cm j Q en ok=>oU ?_);obtain⟨σ,S⟩:=Dl (env:=envOf c (dY 86) s.heap.objs.size) F M E id ((InCallC.sm j).1.trans os) ((InCallC.sm j).2.trans gs) j Q en;have C:Cs 19 ⟨envOf c (dY 86) s.heap.objs.size,ns,aC sz,c.scope,[]⟩ (zt.deeper (envOf c (dY 86) s.heap.objs.size)):=⟨⟨ok [],L.deep⟩,λe=>absurd e (K.D4 _)⟩;haveI fr:=jO (env:=envOf c (dY 86) s.heap.objs.size) (show zt.frames=V9 [] from rfl);haveI fe:(envOf c (dY 86) s.heap.objs.size).frame=V9 (envOf c (dY 86) s.heap.objs.size).locals:=rfl;haveI k:sv (17+2) (zt.deeper (envOf c (dY 86) s.heap.objs.size)):=(sv.deep (n:=19) L).k;haveI C':Cn 17 ⟨envOf c (dY 86) s.heap.objs.size,ns,aC sz,c.scope,[]⟩ (zt.deeper (envOf c (dY 86) s.heap.objs.size)):=⟨ok [],sv.deep (n:=17) L.dec.dec⟩;refine E5 (r:=Tp) (zl G O.gc (sound O 19) NM).2 C (show zF tabs ns c.scope (aC sz) (app NM Tp) m=Wb from K.mt) S h λae m' H' σ' s' _ t hm g=>gX ?_;haveI B:∀{d i e a},Rel W ⟨envOf c (dY 86) s.heap.objs.size,ns,aC sz,c.scope,[]⟩ d i e (cx a)->Value.bool Wb= .bool Wb/\a.os=W.os/\a.gens=W.gs/\(∀p∈W.pJ,a.heap.get? p.1=V9 p.2)/\∀b o,W.h₀.get? b=V9 o->a.heap.get? b=V9 o:=
  λS=>⟨rfl,S.os,S.gs,λp a=>S.fW (S.GV a),S.fr.keep⟩
 obtain⟨y,q,e_,T⟩:=lF hm;rw[e_];refine aL T λhi hr=>(zX hi λaf th el pos hi=>aL hi λhc hi=>aL hi λX he=>fC he<|d7 (SO (Ak (Φ:=wn pd hH 19) G tW (BA pN) C.toCn hc t.rel g λb ab Z H p g=> ?_)))
 induction b with
 |false=>exact kQ ((zl G O.gc (sound O 19) GW).1 C hr p.rel g λfl a A w d I i b g=>by
   induction b with
   |next=>cases g
   |cont=>cases g
   | @ret v _ P=>cases(show v= .bool Wb from g);exact P.yZ (B i.rel))
 |true=>
  obtain⟨a,b,ha,hb,g⟩:=g;refine fg X λy r X=>aL X λd U=>fC U<|d7 (wz d λo rp d=>wD d λe d=>u0 ?_)
  exact Bt d λu l bp d=>aL d λN d=>fg d λe1 r d=>fg d λe2 r d=>aL d λz d=>fC z<|aL d λh1 h2=>nV N<|wpAny_And2 (qj O Y R fr fe C' k h1 p.rel ha g λA w I i g=>jP (qj O Y R fr fe C' k h2 i.rel hb g λac aa ad J _=>B J.rel))
end
end
end
section
theorem FX {R:WRecords} {xs:List WData}:WShape.hasItems R xs .int=Wb->∃is:List Int,xs=is.map .int:=by
 injection 0 R xs
 induction xs with
 |nil=>exact λ_=>⟨[],rfl⟩
 |cons x xs d=>
  intro h;refine aL h λa b=> ?_;obtain⟨is,c⟩:=d b;rw[c]
  cases x with
  |int i=>exact⟨i::is,rfl⟩
  |_=>cases a
theorem NL {args:List WData} (h:row.row.toRowW.claim.pre args=Wb):∃is:List Int,args=[.list (is.map .int)]/\is.length<=63:=by
 haveI h':(WShape.hasAll [] args [.list .int]&&row.pre.holds [] {args:=args})=Wb:=h;refine aL h' λb c=> ?_
 induction args with
 |nil=>cases b
 |cons x xs=>
  refine aL b λd e=> ?_;haveI f:xs=[]:=by
   induction xs with
   |nil=>rfl
   |cons y a=>cases e
  rw[f];obtain⟨a,rfl,hi⟩:=hasW_list d;obtain⟨is,rfl⟩:=FX hi;refine⟨is,rfl,?_⟩;haveI a:(WTm.and (.not (.lt (.lit (.int 63)) (.len (.arg 0)))) (.lit (.bool Wb))).holds [] {args:=[.list (is.map .int)]}=Wb:=c;by_cases q:(63:Int)<is.length
  ·simp[V6,V5,less?,Num.less?,q]at a
  ·lia
theorem CF {P:Params} {h:Heap} {σ:Sg} {is:List Int}:∀{vs:List Value},WellAll P h vs (is.map .int)->kb σ (is.map .int) vs:=by
 induction is with
 |nil=>intro vs h;cases h;exact .nil
 |cons i is c=>
  intro vs h
  cases h with
  |cons a b=>cases a;exact .cons (.int _ _) (c b)
theorem J9 (a:List WData):row.row.toRowW.claim.post a (.bool Wb) a=Wb:=by show(WShape.has [] (.bool Wb) .bool&&(WTm.eq .res (.lit (.bool Wb))).holds [] {args:=a,res:=V9 (.bool Wb),after:=a})=Wb;exact cL.2 ⟨rfl,by simp[V6,V5,same]⟩
theorem Om {C T:Addr} {o:Obj} {e:ClassData} {f g h i j k:Option Value} (a:o.cls= .type "type") (l:o.data= .cls e) (b:e.mro=[.ref C,.ref T,.type "Exception",.type "BaseException",.type "object"]) (c:e.hasDict=Wb) (d:e.hasDel=Wc) (y:j=V9 (.builtin "Exception.__new__")) (m:o.slots= #[f,g,h,i,j,k]):SL C T o:=by injection 0 C T o e f g h i j k with a l b c d y m;obtain⟨q,n,o,p⟩:=o;cases a;cases l;cases m;rw[y];obtain⟨nm,bs,m,N,o,hd,p,e,l,a,q⟩:=e;cases b;cases c;cases d;exact⟨nm,o,N,bs,p,e,l,a,n,f,g,h,i,k⟩
theorem sl6 {l:List (Option Value)} {C:Prop} {p:Option Value->Bool} (g:v1 l (λ_ r=>v1 r λ_ r=>v1 r λ_ r=>v1 r λ_ r=>v1 r λk r=>v1 r λ_ r=>v0 r&&p k)=Wb) (k:∀b c d e a f,l=[b,c,d,e,a,f]->p a=Wb->C):C:=by refine fg (C:=λl=>(∀b c d e a f,l=[b,c,d,e,a,f]->p a=Wb->C)->C) g (λb r g k=> ?_) k;refine fg (C:=λl=>(∀c d e a f,b::l=[b,c,d,e,a,f]->p a=Wb->C)->C) g (λc r g k=> ?_) (k b);refine fg (C:=λl=>(∀d e a f,b::c::l=[b,c,d,e,a,f]->p a=Wb->C)->C) g (λd r g k=> ?_) (k c);refine fg (C:=λl=>(∀e a f,b::c::d::l=[b,c,d,e,a,f]->p a=Wb->C)->C) g (λe r g k=> ?_) (k d);refine fg (C:=λl=>(∀a f,b::c::d::e::l=[b,c,d,e,a,f]->p a=Wb->C)->C) g (λa r g k=> ?_) (k e);refine fg (C:=λl=>(∀f,b::c::d::e::a::l=[b,c,d,e,a,f]->p a=Wb->C)->C) g (λf r g k=>aL g λz y=> ?_) (k a);cases tl z;exact k f rfl y
theorem Oo {W:Wd} (O:Ok W hH) (h:Rf W.K=Wb):Lu W/\Lp W:=by
 injection 0 W with O h;exact aL h λA h=>aL h λB h=>aL h λC h=>aL h λe h=>aL h λD h=>aL h λE h=>aL h λF G=>by
  obtain⟨o,s,e⟩:=jf e;injection 0 o with s e;refine aL e λa e=> ?_;obtain⟨Z,w,e⟩:=jf e;refine aL e λb e=>aL e λc e=>aL e λd g=>(sl6 (p:=λu=>u==V9 (.builtin "Exception.__new__")) g λk0 k1 k2 k3 u k5 q y=> ?_);refine uX λI=> ?_;haveI H:SL qB PC o:=Om (beq_iff_eq.1 a) (Gs w) (beq_iff_eq.1 b) c (il d) (beq_iff_eq.1 y) (Array.ext' q);obtain⟨J,x,v,N,P,Q,R⟩:=F8 (mt:=NH W.K) A λ{k b} j=>by obtain⟨t,r,i,j⟩:=lF j;rw[i];refine aL j λj _=> ?_;obtain⟨L,r',i,l⟩:=lF j;rw[i];exact l
  obtain⟨K,t,r,M,S,T,y4⟩:=F8 (mt:=KG W.K) B λ{k b} j=>by obtain⟨t,r,i,l⟩:=lF j;rw[i];obtain⟨L,r',i,m⟩:=lF l;rw[i];obtain⟨M,K,i,n⟩:=lF m;rw[i];exact aL n λz _=>z
  obtain⟨L,z,l,m,n⟩:=Fy C;injection 0 L z with l m n;obtain⟨X,U,V⟩:=A2 n;obtain⟨o4,f4,Y,ns,sz,i,j,k⟩:=O.fns (f:=53) rfl (by decide);obtain rfl:=aA (l.symm.trans i);cases m.symm.trans j;cases U.symm.trans k.bo;exact I (⟨⟨⟨⟨o,s,H⟩,beq_iff_eq.1 D,beq_iff_eq.1 E,beq_iff_eq.1 F,oq O.gd.oJ O.gd.uu O.gd.DB G⟩,K,t,r,M,S,T,y4⟩,⟨J,x,v,N,P,Q,R⟩,_,_,_,ns,sz,i,j,k,V⟩)
theorem Oe (u:∀is:List Int,is.length<=63->eQ pd (wn pd hH 19) NM [V9 (.ro (is.map .int)),Wa,Wa,Wa,Wa,Wa,Wa,Wa,Wa,Wa,Wa,Wa,Wa,Wa,Wa,Wa,Wa,Wa] [] λfl m H=>fl= .next/\uP (wn pd hH 19) (wn pd hH 17) m H):row.Holds:=by
 refine holds_law Tf λy=>holds_open (q:=vq) (loose:=ue) (Xt:=λ_=>Wb) (XP:=λ_ _=>True) (Yf:=λs=>∃t:gK,t.abs=s/\C0 t=Wb) (Ya:=λ_=>True) (YP:=YP) (N:=8000)
  left P7 Eo (λ_ _=>trivial) (λ_ _ _ _ _=>trivial) Kv Ku N6 (λs _=>recFacts_of rfl) rfl y N5 FG wY ?_
 intro w U c R mb G Y W o pm cd V dV kV ho hd Z hD k j b e as z Q ab d aa;obtain⟨is,rfl,i⟩:=NL z;obtain⟨K,b,s,g,r,t,F,D⟩:=Y;obtain⟨B,S,rfl,A⟩:=NN t
 cases d with|cons a b=>
 cases b
 cases a with| @list l vs _ C M=>
 haveI I:K.lookup l=Wa:=by
  induction q:K.lookup l with
  |none=>rfl
  |some o=>obtain rfl:=aA (C.symm.trans (g _ _ q));exact absurd rfl (D _ _ q)
 have d:∀{b o},c.heap.get? b=V9 o->b≠l->b≠lc->(ng c.heap [l,lc]).get? b=V9 o:=λe b h=>hideAll_get _ e λm=>(bD.1 m).elim b λm=>h (aD.1 m);have m:∀{a:Addr} {m:Str->Option Value},c.heap.Ns a m->(ng c.heap [l,lc]).Ns a m:=λ{a m} ⟨o,p,ep,b,h,q,v⟩=>
  ⟨o,p,ep,d b (λe=>by cases e;obtain rfl:=aA (C.symm.trans b);cases h) (λe=>by subst e;obtain rfl:=aA (r.symm.trans b);cases h),h,q,v⟩
 haveI q:K.In (ng c.heap [l,lc]):=λa o e=>d (g a o e) (λq=>nomatch I.symm.trans ((congrArg (s4 · K) q).symm.trans e)) (λq=>nomatch F.symm.trans ((congrArg (s4 · K) q).symm.trans e));haveI J:(ng c.heap [l,lc]).NoLimit:=G.T.nolimit.imp λa h=>⟨m h.1,h.2⟩;haveI nl:(ng c.heap [l,lc]).get? l=Wa:=Ee _ (.head _);haveI no:(ng c.heap [l,lc]).get? lc=Wa:=Ee _ (.tail _ (.head _));haveI L:(ng c.heap [l,lc]).objs.size<=c.heap.objs.size:=bT (hideAll_size _ _);haveI Y:∀b o,(ng c.heap [l,lc]).get? b=V9 o->c.heap.get? b=V9 o:=λb o e=>of_hideAll _ e;generalize ng c.heap [l,lc]=h₀ at*;refine aL s λk3 h=>aL h λk1 h=>aL h λk2 h=>aL h λk4 k5=> ?_;haveI O:Gd ⟨Ap,w,K,h₀,R,mb,[(l,gk vs 0),(lc,qT B S)],c.os,c.gens⟩:=Ra (ws:=B) (n:=S) q J (m G.T.g) (m G.T.b) k1 (.tail _ (.head _)) A;haveI P:=QI O rfl s;haveI E:=Oo P k5;haveI H:W=dY 86:=by haveI b:R (aX "law")=V9 (.ref (dY 86)):=(O.fn (f:=86) (x:=aX "law") (by decide+kernel) (by decide)).1;have k:=(b)▸k;cases k;rfl
 rw[H];refine ek (FF (v:=.ro (is.map .int)) (x:=.ref l) P E.1 E.2 (λp a=> ?_) Y L rfl rfl (.ro (.head _) (aE (bT (aB _)) (aE i (by decide))) (CF M)) (u is i)) ?_ λ_ _ h=>h.elim
 ·cases a with
  |head=>exact⟨C,nl⟩
  |tail _ a=>rw[aD.1 a];exact⟨r,no⟩
 ·rintro v s' ⟨rfl,os,X,p,a⟩;haveI b:∀b o,c.heap.get? b=V9 o->s'.heap.get? b=V9 o:=λb o e=>by
   by_cases v:b=l
   ·cases v;rw[←C.symm.trans e];exact p _ (.head _)
   ·by_cases T:b=lc
    ·subst T;rw[←r.symm.trans e];exact p _ (.tail _ (.head _))
    ·exact a b o (d e v T)
  exact⟨.inl ⟨.bool Wb,.bool Wb,[],rfl,λ_=>rfl,.bool Wb,J9 _,λ_=>⟨gv,λ_ h=>by cases h⟩⟩,.of_keep b,os,.of_eq (X.trans j)⟩
end
end
end Mine
theorem PySem.Challenge.cw_pq0564_01_holds : PySem.Challenge.rw_pq0564_01.Holds :=
  Mine.Oe fun is hl => Mine.Q.Pp hl
