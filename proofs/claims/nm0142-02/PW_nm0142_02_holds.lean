import PyProof.Rows.All
import Wide.All
import OpenK.AllK
import Wide.FinOn
import KE.KRevSl
import PyProof.SumAny
import Lean
import PySem.Challenge.RW_nm0142_02
set_option linter.unusedVariables false
set_option tactic.hygienic false
set_option maxRecDepth 100000
set_option maxHeartbeats 4000000
set_option bootstrap.genMatcherCode false
set_option genSizeOf false
set_option compiler.extract_closed false
set_option genInjectivity false
set_option genCtorIdx false
set_option genSizeOfSpec false
set_option backward.match.sparseCases false
namespace Mine.Internal
open Option renaming none->AI,some->AA,casesOn->C4,map_eq_some_iff->ML,isNone_iff_eq_none->NW,map->IT,isSome_iff_exists->XI,isSome->TY,bind_some->fV,map_some->eS,bind->eZ
open _root_ renaming List->AB,rfl->A7,congrArg->A_,if_pos->AM,Option->AO,Int->AD,if_neg->AS,Nat->AE,absurd->Aj,Bool->AL,trivial->B9,of_decide_eq_true->DJ,beq_iff_eq->Bn,decide_eq_true->DD,decide_eq_false->Dk,False->BB,Nonempty->CK,Decidable->Dh,Unit->BF,beq_self_eq_true->I',DecidableEq->GD,Array->CI,True->Bg,decide_eq_true_eq->P_,decide_eq_decide->Qf,beq_eq_false_iff_ne->SX,funext->GJ,bne_iff_ne->OZ,of_decide_eq_false->W4,ForInStep->Ui,or_false->SJ,congrFun->TA
open Option.some renaming inj->AN,injEq->U7
open Nat renaming le_trans->AJ,le_add_right->BJ,le_refl->B2,le_add_left->Be,add_le_add_left->CD,lt_of_le_of_lt->CH,add_le_add_right->CU,lt_of_lt_of_le->CQ,succ_le_succ->Ce,le_of_eq->C8,add_assoc->CR,add_le_add->Cq,zero_le->CJ,reduceAdd->D6,casesOn->CV,ble_eq_true_of_le->G2,ble->Bm,add_right_comm->FZ,le_succ_of_le->FI,ne_of_lt->DZ,zero_add->Di,add_comm->EL,le_succ->E2,le_of_succ_le->GP,not_lt->E1,succ_pos->FA,blt->D1,lt_irrefl->GN,le_of_succ_le_succ->Lh,mul_le_mul_left->KQ,sub_le->FJ,sub_self->GI,le_of_lt_succ->JJ,add_sub_cancel_left->Ma,lt_add_of_pos_right->Mu,lt_succ_self->JG,le_of_ble_eq_true->O2,ne_of_gt->JL,le_of_not_lt->N6,le_max_right->MU,sub_add_cancel->Oj,lt_succ_of_le->Nk,le_sub_one_of_lt->QA,le_of_lt->KN,not_le->IZ,not_succ_le_self->UT,min_le_left->Pw,le_max_left->Q8,lt_or_ge->PL,sub_one_lt_of_lt->Xo,not_succ_le_zero->Z9,not_lt_zero->Sv,le_of_add_le_add_right->d7,lt_of_succ_lt->XF,sub_one_sub_lt_of_lt->kg,le_of_not_le->Yt,exists_eq_add_of_lt->gQ,lt_add_of_pos_left->dk,le_antisymm->X0,le_sub_of_add_le->m8,sub_succ_lt_self->ff,add_sub_cancel->eD,lt_of_lt_of_eq->ie,lt_of_le_of_ne->j7,succ_le_of_lt->gZ,lt_succ_of_lt->j4,sub_sub_self->jf,min_le_right->aB,sub_sub->VR,noConfusion->cD,succ->UM
open Bool renaming false->AH,true->AG,casesOn->BG,and_eq_true_iff->DN,noConfusion->Jo,not_eq_true'->NL,true_and->Ki,of_not_eq_false->RA,and_eq_true->V5,or_eq_true->SD,or_true->RF,eq_false_iff->ZC,decide_and->Yn,and_false->ZN,false_and->Vd,or_eq_true_iff->iP,and_true->ZG,not_eq_false'->gK,false_ne_true->bX,not_eq_false->kN,not_eq_true->df,false_or->aj
open List renaming length_append->Aq,mem_singleton->B3,casesOn->An,length_reverse->Bu,append_assoc->Bc,append_nil->Ba,getElem?_eq_getElem->Cm,getElem?_append_right->DO,getElem?_eq_some_iff->DP,length_map->CO,mem_append->Cj,map_append->Ci,getElem?_append_left->Er,mem_of_getElem?->E7,mem_cons->CZ,nodup_cons->DF,replicate->Ct,all_eq_true->Eo,drop_eq_getElem_cons->I8,getElem?_map->FX,getD_eq_getElem?_getD->IP,dropLast_concat->HM,nodup_nil->FC,mem_map->Ea,drop_eq_nil_of_le->J',length_drop->GS,mem_filterMap->I2,reverse_cons->I1,take_append_drop->Kz,length_replicate->KU,length_cons->IB,getElem?_eq_none_iff->ND,not_mem_nil->Ia,nodup_append->Kh,getElem?_eq_none->NM,length_singleton->Mt,mem_cons_of_mem->NR,length_eq_zero_iff->Oq,reverse_reverse->Mr,range->G_,take_of_length_le->PJ,length_dropLast->Ob,getLast?_concat->O6,length_nil->LI,filterMap_cons->Nn,getElem?_set_self->RY,isEmpty_iff->MI,length_take->Mo,cons_append->Md,concat_eq_append->QT,getLast?_eq_getElem?->So,getElem?_set_ne->Q_,length_range->Og,length_take_le'->Qk,map_cons->M4,reverse_append->Rl,getElem?_cons_zero->UC,getElem_mem->OS,contains_cons->Q5,forIn_cons->Ow,length_set->Nw,dropLast_concat_getLast->VO,eq_nil_or_concat->Uj,mem_append_right->TP,getElem_of_mem->TX,getElem?_take_of_lt->V_,eq_of_mem_replicate->Z_,zip_cons_cons->Te,getElem?_inj->Th,size_toArray->Sz,append_eq_nil_iff->WK,take_succ_eq_append_getElem->lA,dropLast_eq_take->ZK,getElem?_reverse->Vn,set_append_right->Xc,drop_nil->Pb,map_take->Rb,eq_nil_of_length_eq_zero->j1,nil_append->Sy,map_congr_left->XP,getElem?_drop->Vb,take_left->Rz,map_replicate->Zb,pairwise_iff_getElem->lK,mem_of_find?_eq_some->kf,any_eq_false->Vs,range'->Pm,length->RU,any_cons->SO,take_length->W7,lookup_cons->VP,mem_reverse->Yk,reverse_nil->Zl,drop_length->Vr,map_map->TS,of_mem_zip->Z',dropLast_sublist->gN,length_filter_le->k8,mem_append_left->hW,filterMap->X2,map_eq_cons_iff->cM,mem_of_mem_take->et,drop_eq_nil_iff->ja,mem_of_mem_drop->ak,replicate_succ'->dO,map_eq_nil_iff->iV,flatten_append->bN,getElem_range->gr,length_mapIdx->fS,any_map->Yc,getLast?_map->aV,map_dropLast->gc,any_eq_true->gk,map_fst_zip->i_,map_reverse->d5,append_inj'->bg,lookup->Z3,find?_cons->kJ,find?_some->jM,all_append->l8,drop_zero->lP,mem_range->eV,map_drop->dT
open PySem renaming wpAny_bind->Ah,Shared->Ae,wpAny_pure->B8,Value->AX,wpAny->Ab,Addr->AQ,model->BO,Around->Bq,mainGlobals->EC,Heap->BC,wpAny_mono->EY,Str->Am,Scope->Bt,wpAny_holding->GX,sizeLine->E0,wpAny_newObj_type->LQ,sizeLine_eq->HZ,builtinsNs->Gh,wpAny_truthy_bool->MD,wpAny_loadPart_at->NB,rawInt->E3,wpAny_field->Iq,starEach->G4,wpAny_standAt->Le,NameKind->IQ,eval->DC,wpAny_execs_nil->Qp,wpAny_callSpecial?_slot->Xr,Program->Hl,wpAny_loadPart->RE,callEnvC->Jb,plainObj_wpAny_Assign_Attribute->kT,sysModules->MY,compareOp->Lk,DictEntry->LK,wpAny_call->MG,backTo->Gf,assignEach->NO,wpAny_execs_cons->SU,intKind->J6,codeAny->Ie,callWith->KY,codeAny_call_builtin->Xd,letOwnedTupleGo->TL,arm_eval_Call_Name'->YG,wpAny_isSubtype_exc->ZH,cellsFrom->Mc,wpAny_setField->SK,wpAny_pyIter_tuple->Xf,wpAny_assign_Name->Xe,wpAny_assignInOrder_none->aC,wpAny_assignInOrder_more->kB,wpAny_comprehension_free->bx,wpAny_call_entry->Xp,wpAny_pyNext_tuple_item->hU,checkBuiltinCall->Va,valueAt->M1,getAttr->M3,aRefKeyMayBeTheName_at->c7,name_of_addr->U4,wpAny_pyNext_list_item->aU,wpAny_pyIter_tupleiter->kY,pyIter->Ja,codeAny_mono->Sm,notedBy->Lz,isInstance->QJ,bootBuiltins->Uc,World->HQ,wpAny_pyIter_listiter->jZ,Stmt->Fe,wpAny_seqItems->Xl,wpAny_loadName_local->aW,pyNext->LG,evalEach->OG,keywordEach->U1,assign->Ke,interactive->S4,FuncData->PO,wpAny_staticBase_exc->bD,recursionLimit->Y4,getItem->MQ,slicePick->RM,setAttr->N2,standAt->N4,getMethod->Pr,setFlight->QK,entry_listiter_next->bb,exec->Fh,assignInOrder->YY,evalPart_some->YJ,wpAny_UnaryOp->Zr,tupleKind_room_in1->di,slot_listiter_next->kE,args_listiter_next->lC,loadGlobal->TV,cameBackBy->Ux,codeAny_call_cells->iQ,refuseLoop->Se,slot_list_getitem->gC,wpAny_sequenceKey->bw,slot_list_setitem->hH,wpAny_mkText->Zz,wpAny_pyIter_list->gW,wpAny_pyIter_enum->lV,compEnvC->QD,wpAny_Assign_Name->kh,noFill_tuple_add->mD,seqIndex?->Ug,wpAny_askSetting->dM,wpAny_updatePart->iY,storeName->Uy,noteFrame->Ss,swapsWith->TQ,cLine->Ku,wpAny_Slice->W5,excClassObj->Yx,holding->RG,binaryOp->UQ,ReadsAll->T6,raiseNew->Uh,backToKw->Tg
open PySem.Heap renaming get?_push_of_some->E4,get?_update_other->F6,get?_push_size->Fz,lt_size->Ds,get?_update_self->JU,size_push->Jp,ExtBut->K9,SameBut->M7
open List.cons renaming inj->Cs
open Int renaming natCast_nonneg->EE,ofNat_le->DM,ofNat_lt->Du,le_trans->Fm,eq_ofNat_of_zero_le->Mk,lt_of_le_of_lt->M5,not_lt->Gn,negSucc->Lq,ofNat_inj->Nh,natCast_pos->Ph,ofNat_sub->QW,emod_two_eq->U5,toNat_of_nonneg->VS,toNat_lt->RN,sub_eq_add_neg->Vq,sub_add_cancel->ZI,toNat_natCast->Ya,le_of_lt->UZ,sub_nonneg_of_le->fY,toNat_sub->Ze,lt_of_lt_of_le->lN,not_le->Uz,add_sub_cancel->k7,emod_lt_of_pos->km,add_comm->XQ,lt_trans->Wn,ne_of_gt->VL,sub_zero->Vk,emod_nonneg->j_,sub_nonneg->lF
open PySem.Expr renaming casesOn->Cr
open PySem.PyData renaming keyHash->EI,depthAll->QH,strOk->PW,canLayAll0->Yb,eqv->UY,eqvAll->jr
open Array renaming getElem?_toList->Jz,length_toList->JF,getElem?_eq_some_iff->RZ,getElem?_eq_getElem->TG,getElem?_eq_none->Ul,toList_eraseIdxIfInBounds->iw,any_toList->TR,eq_empty_of_size_eq_zero->gD,toList_eq_nil_iff->gH,isEmpty_iff->iK,toList_push->aA,size_append->jL
open Or renaming elim->Cz
open Classical renaming not_not->J5,ofNonempty->Oi,choice->QM,byContradiction->ir,propDecidable->aO,epsilon_spec->gF,em->Wj
open Ne renaming symm->DK
open PySem.Value renaming casesOn->Gm,ref->Ec,none->J8,builtin->Rj,isInt->Pz,bool->To,int->WL
open Prod renaming snd->E5,fst->Ej
open PySem.W renaming findIn->D9,dictOf->DQ,Frag->Cy,looks_findIn->OM,putName_dict->QG,Looks->GG,looks_subIn->QU,hasDictIn->Oy,lookIn->Jf,keepIn->JK,subIn->HX,handedIn->Nf,looks_clsIn->Rx,nsIn->FR,emptyDict->Po,looks_nsIn->TZ,plainOver->UW,typeIn->MS,lookIn_dict->WZ,plainGet->Sl
open PySem.Builtin.Range renaming rangeSize->Ou,small->Vy
open And renaming intro->Fg
open PySem.Obj renaming putName->HN,mapFields->Np,isFreed_of_fields->VV,mapSeq->OL,data_mapFields->WJ,cls_mapFields->fM
open PySem.Str renaming ofString->J9
open PySem.NameKind renaming free->Jn,casesOn->ky,cell->eC
open ForInStep renaming yield->Ln
open PySem.Builtin.List renaming listTooLong->Sb,listFitsIndex->lz
open PySem.Builtin.Tuple renaming tupleExact->Tu
open PyProof.Rows renaming slot_tuple_getitem->Ri,subscriptTail->Oa,tail_any->NV,markedEach_of_false->ig,Subscript_->V3
open PySem.Calls renaming spliced_cons->RL,Name_function_global->U0,evalArgs_plain->UU,spliced_nil->YZ
open PySem.Data renaming casesOn->Mx
open Nat.succ renaming inj->MC
open PySem.Builtin.Slice renaming slicePlaces->VY
open PySem.BoolOp renaming casesOn->Qw
open PySem.W.Looks renaming of_pure->RJ,ld->Qz
open PySem.UnaryOp renaming casesOn->U9
open PySem.Heap.SameBut renaming update->YB
open PySem.EntryCells renaming newEntry->Y6
open PUnit renaming unit->O9
open PySem.Heap.IsSliceOf renaming new->ZX
open PyProof renaming noPylong_small->lh
open PySem.Heap.DictOf renaming new->WA
open PySem.Manifest renaming canonical->dy
open PySem.Stmt renaming casesOn->WO
open PySem.Operator renaming casesOn->gO
open PySem.FuncBody renaming casesOn->kq
open PySem.Bind renaming checkArgs->gn
open PySem.Const renaming casesOn->fv
open PySem.SeqAt renaming shaped->ik
open PySem.IsRange renaming new->ar
open _root_ renaming rfl->Y,List->O,Int->J,Nat->G
open Option renaming some->V,none->C
open Bool renaming true->I,false->T
open Nat renaming le_trans->L
section
section
set_option compiler.reuse false
open Lean Parser Tactic Term Command
def tcN(n:Name)(a:Array Syntax):Syntax:=mkNode n a
def tcM(n:String)(a:Array Syntax):Syntax:=tcN (.mkStr4 "Lean" "Parser" "Tactic" n) (#[mkAtom n]++a)
def tcA(f:Syntax)(a:Array Syntax):Syntax:=tcN ``app #[f,mkNullNode a]
def tcI(m n:String):Syntax:=mkIdent<|.mkStr2 m n
def tcH:Syntax:=tcN ``hole #[mkAtom "_"]
def tcD(l:List Syntax):Syntax:=(l.drop 1).foldr (λ_ t=>tcA (tcI "Tele" "and") #[tcH,t])<|tcA (tcI "Tele" "nil") #[tcH]
def tcC(n:Bool)(l:List Syntax)(k:Syntax):Syntax×List Syntax:=
 let a:=l.takeWhile (·.isIdent)
 let r:=l.drop (a.length+1)
 (a.foldr (λx t=>tcA (tcI "Tele" "cons") #[tcH,tcN ``Term.fun #[mkAtom "fun",tcN ``basicFun #[mkNullNode #[x],mkNullNode,mkAtom "=>",t]]])<|tcD<|if n then r else [],
  a.mapIdx (λi x=>tcM "generalize" #[mkNullNode #[tcN ``generalizeArg #[mkNullNode,tcA (tcI "Tele" "vr0") #[tcH,i.repeat (λk=>tcA (tcI "Nat" "succ") #[k]) k],mkAtom "=",x]],mkNullNode])++if a.length=l.length then []else[tcM (if r.isEmpty then "intros"else "intro") #[mkNullNode r.toArray]])
def tcB(f:String)(h:Array Syntax)(l:List Syntax)(r:List Syntax):MacroM Syntax:=
  let(t,g):=tcC (h.size != 0) l<|mkIdent `Nat.zero
  pure<|mkNullNode<|List.toArray<|tcM "refine" #[tcA (tcN ``explicit #[mkAtom "@",tcI "Tele" f])<|#[t]++h.push (tcN ``syntheticHole #[mkAtom "?",mkAtom "_"])]::r++g
def tcS(s:Syntax):Syntax:=s.rewriteBottomUp (·.setInfo .none)
def tcJ:Macro:=λs=>match s[1].getArgs.toList with
 |x::l=>if x.isIdent then tcB "hkA" #[] (x::l) [tcM "intro" #[mkNullNode #[tcH]]]else if s[1][1].isIdent then pure<|mkNullNode #[tcM "revert" #[mkNullNode<|List.toArray<|l.takeWhile (·.isIdent)],s.setArg 1<|mkNullNode l.toArray]else Macro.throwUnsupported
 |_=>Macro.throwUnsupported
def tcK:Macro:=λs=>tcB "hkX" #[tcH,s[1]] s[2][1].getArgs.toList<|let h:=mkNullNode #[mkIdent `h];[tcM "intro" #[h],tcM "revert" #[h]]
def tcL:Macro:=λs=>if s[3].isNone then pure<|mkNullNode<|s[2][1].getSepArgs.map λr=>tcM "refine" #[r[1]]else Macro.throwUnsupported
def tcO:Macro:=λs=>if s.getPos?.isNone then Macro.throwUnsupported else pure<|tcS s
def tcP:Macro:=λs=>let d:=s[2];let t:=d[1];if s[0].isOfKind ``Command.open then pure<|mkNullNode<|s[0][1][0].getArgs.map λx=>d.setArg 1<|t.setArg 1<|t[1].setArg 0<|tcI "main"<|"tw"++toString (x.getId.toString.toList.foldl (λn c=>n*62+(if c<'A'then c.toNat+4 else if c<'a'then c.toNat-65 else c.toNat-71)) 0)else Macro.throwUnsupported
def tcQ:Macro:=λs=>let d:=s[1];if d.getPos?.isNone then Macro.throwUnsupported else if d.isOfKind ``Command.theorem then pure<|s.setArg 1<|d.setArg 0<|mkAtom "theorem"else let s:=s.setArg 1<|tcS d;pure<|if d.isOfKind ``Command.structure||d.isOfKind ``Command.inductive||d.isOfKind ``Command.classInductive then s else s.setArg 0<|s[0].setArg 4<|mkNullNode #[tcN ``Command.noncomputable #[mkAtom "noncomputable"]]
end
local macro_rules (kind:=Lean.Parser.Tactic.intros)|s=>tcJ s
local macro_rules (kind:=Lean.Parser.Tactic.injection)|s=>tcK s
local macro_rules (kind:=Lean.Parser.Tactic.rwSeq)|s=>tcL s
local macro_rules (kind:=Lean.Parser.Command.mutual)|s=>tcO s
local macro_rules (kind:=Lean.Parser.Command.«in»)|s=>tcP s
local macro_rules (kind:=Lean.Parser.Command.declaration)|s=>tcQ s
section
theorem AY.{u0}{AZ:Sort u0}{b:AZ->Prop}{c:AZ->Prop}{G:Prop}(h:∃a:AZ,(b a)/\(c a))(k:∀a:AZ,(b a)->(c a)->G):G:=h.elim λe d=>k e (d).1 (d).2
theorem xA{a:Prop}{b:Prop}{G:Prop}(h:(a)/\(b))(k:(a)->(b)->G):G:=k (h).1 (h).2
theorem xE.{u0}{AZ:Sort u0}{b:AZ->Prop}{G:Prop}(h:∃a:AZ,b a)(k:∀a:AZ,(b a)->G):G:=h.elim λc d=>k c d
theorem DE{a:Prop}{b:Prop}{c:Prop}{G:Prop}(h:(a)/\((b)/\(c)))(k:(a)->(b)->(c)->G):G:=k (h).1 ((h).2).1 ((h).2).2
theorem G3.{u0,u1}{AZ:Sort u0}{Ad:Sort u1}{c:AZ->Ad->Prop}{d:AZ->Ad->Prop}{G:Prop}(h:∃a:AZ,∃b:Ad,(c a b)/\(d a b))(k:∀a:AZ,∀b:Ad,(c a b)->(d a b)->G):G:=h.elim λf g=>g.elim λi e=>k f i (e).1 (e).2
theorem By.{u0,u1}{AZ:Sort u0}{Ad:Sort u1}{d:AZ->Ad->Prop}{e:AZ->Ad->Prop}{f:AZ->Ad->Prop}{G:Prop}(h:∃a:AZ,∃b:Ad,(d a b)/\((e a b)/\(f a b)))(k:∀a:AZ,∀b:Ad,(d a b)->(e a b)->(f a b)->G):G:=h.elim λg i=>i.elim λj c=>k g j (c).1 ((c).2).1 ((c).2).2
theorem Cp.{u0}{AZ:Sort u0}{c:AZ->Prop}{d:AZ->Prop}{e:AZ->Prop}{G:Prop}(h:∃a:AZ,(c a)/\((d a)/\(e a)))(k:∀a:AZ,(c a)->(d a)->(e a)->G):G:=h.elim λf b=>k f (b).1 ((b).2).1 ((b).2).2
theorem Ht.{u0,u1,u2}{AZ:Sort u0}{Ad:Sort u1}{As:Sort u2}{d:AZ->Ad->As->Prop}{e:AZ->Ad->As->Prop}{G:Prop}(h:∃a:AZ,∃b:Ad,∃c:As,(d a b c)/\(e a b c))(k:∀a:AZ,∀b:Ad,∀c:As,(d a b c)->(e a b c)->G):G:=h.elim λg i=>i.elim λj l=>l.elim λm f=>k g j m (f).1 (f).2
theorem NQ.{u0,u1}{AZ:Sort u0}{Ad:Sort u1}{c:AZ->Ad->Prop}{G:Prop}(h:∃a:AZ,∃b:Ad,c a b)(k:∀a:AZ,∀b:Ad,(c a b)->G):G:=h.elim λd e=>e.elim λf g=>k d f g
theorem G9.{u0,u1,u2}{AZ:Sort u0}{Ad:Sort u1}{As:Sort u2}{e:AZ->Ad->As->Prop}{f:AZ->Ad->As->Prop}{g:AZ->Ad->As->Prop}{G:Prop}(h:∃a:AZ,∃b:Ad,∃c:As,(e a b c)/\((f a b c)/\(g a b c)))(k:∀a:AZ,∀b:Ad,∀c:As,(e a b c)->(f a b c)->(g a b c)->G):G:=h.elim λi j=>j.elim λl m=>m.elim λn d=>k i l n (d).1 ((d).2).1 ((d).2).2
theorem Dz.{u0,u1,u2}{AZ:Sort u0}{Ad:Sort u1}{As:Sort u2}{e:AZ->Ad->As->Prop}{f:AZ->Ad->As->Prop}{g:AZ->Ad->As->Prop}{i:AZ->Ad->As->Prop}{G:Prop}(h:∃a:AZ,∃b:Ad,∃c:As,(e a b c)/\((f a b c)/\((g a b c)/\(i a b c))))(k:∀a:AZ,∀b:Ad,∀c:As,(e a b c)->(f a b c)->(g a b c)->(i a b c)->G):G:=h.elim λj l=>l.elim λm n=>n.elim λo d=>k j m o (d).1 ((d).2).1 (((d).2).2).1 (((d).2).2).2
theorem Fb{a:Prop}{b:Prop}{c:Prop}{d:Prop}{G:Prop}(h:(a)/\((b)/\((c)/\(d))))(k:(a)->(b)->(c)->(d)->G):G:=k (h).1 ((h).2).1 (((h).2).2).1 (((h).2).2).2
theorem Em.{u0,u1}{AZ:Sort u0}{Ad:Sort u1}{d:AZ->Ad->Prop}{e:AZ->Ad->Prop}{f:AZ->Ad->Prop}{g:AZ->Ad->Prop}{G:Prop}(h:∃a:AZ,∃b:Ad,(d a b)/\((e a b)/\((f a b)/\(g a b))))(k:∀a:AZ,∀b:Ad,(d a b)->(e a b)->(f a b)->(g a b)->G):G:=h.elim λi j=>j.elim λl c=>k i l (c).1 ((c).2).1 (((c).2).2).1 (((c).2).2).2
theorem Ir.{u0,u1,u2,u3}{AZ:Sort u0}{Ad:Sort u1}{As:Sort u2}{BE:Sort u3}{e:AZ->Ad->As->BE->Prop}{G:Prop}(h:∃a:AZ,∃b:Ad,∃c:As,∃d:BE,e a b c d)(k:∀a:AZ,∀b:Ad,∀c:As,∀d:BE,(e a b c d)->G):G:=h.elim λf g=>g.elim λi j=>j.elim λl m=>m.elim λn o=>k f i l n o
theorem Oh.{u1}{b:Prop}{Ad:Sort u1}{c:Ad->Prop}{G:Prop}(h:(b)/\(∃a:Ad,c a))(k:(b)->∀a:Ad,(c a)->G):G:=(h).2.elim λd e=>k (h).1 d e
theorem KJ.{u0,u1,u2}{AZ:Sort u0}{Ad:Sort u1}{As:Sort u2}{e:AZ->Ad->As->Prop}{f:AZ->Ad->As->Prop}{g:AZ->Ad->As->Prop}{i:AZ->Ad->As->Prop}{j:AZ->Ad->As->Prop}{l:AZ->Ad->As->Prop}{G:Prop}(h:∃a:AZ,∃b:Ad,∃c:As,(e a b c)/\((f a b c)/\((g a b c)/\((i a b c)/\((j a b c)/\(l a b c))))))(k:∀a:AZ,∀b:Ad,∀c:As,(e a b c)->(f a b c)->(g a b c)->(i a b c)->(j a b c)->(l a b c)->G):G:=h.elim λm n=>n.elim λo p=>p.elim λq d=>k m o q (d).1 ((d).2).1 (((d).2).2).1 ((((d).2).2).2).1 (((((d).2).2).2).2).1 (((((d).2).2).2).2).2
theorem RK.{u0}{AZ:Sort u0}{c:AZ->Prop}{d:AZ->Prop}{e:AZ->Prop}{f:AZ->Prop}{G:Prop}(h:∃a:AZ,(c a)/\((d a)/\((e a)/\(f a))))(k:∀a:AZ,(c a)->(d a)->(e a)->(f a)->G):G:=h.elim λg b=>k g (b).1 ((b).2).1 (((b).2).2).1 (((b).2).2).2
theorem dz.{u0,u1,u2,u3}{AZ:Sort u0}{Ad:Sort u1}{As:Sort u2}{BE:Sort u3}{e:AZ->Ad->As->BE->Prop}{f:AZ->Ad->As->BE->Prop}{G:Prop}(h:∃a:AZ,∃b:Ad,∃c:As,∃d:BE,(e a b c d)/\(f a b c d))(k:∀a:AZ,∀b:Ad,∀c:As,∀d:BE,(e a b c d)->(f a b c d)->G):G:=h.elim λi j=>j.elim λl m=>m.elim λn o=>o.elim λp g=>k i l n p (g).1 (g).2
theorem Om.{u1,u2}{c:Prop}{Ad:Sort u1}{As:Sort u2}{d:Ad->As->Prop}{G:Prop}(h:(c)/\(∃a:Ad,∃b:As,d a b))(k:(c)->∀a:Ad,∀b:As,(d a b)->G):G:=(h).2.elim λe f=>f.elim λg i=>k (h).1 e g i
theorem SH.{u0,u1,u2}{AZ:Sort u0}{Ad:Sort u1}{As:Sort u2}{d:AZ->Ad->As->Prop}{G:Prop}(h:∃a:AZ,∃b:Ad,∃c:As,d a b c)(k:∀a:AZ,∀b:Ad,∀c:As,(d a b c)->G):G:=h.elim λe f=>f.elim λg i=>i.elim λj l=>k e g j l
theorem Vh.{u0,u1,u2,u3}{AZ:Sort u0}{Ad:Sort u1}{As:Sort u2}{BE:Sort u3}{f:AZ->Ad->As->BE->Prop}{g:AZ->Ad->As->BE->Prop}{i:AZ->Ad->As->BE->Prop}{j:AZ->Ad->As->BE->Prop}{G:Prop}(h:∃a:AZ,∃b:Ad,∃c:As,∃d:BE,(f a b c d)/\((g a b c d)/\((i a b c d)/\(j a b c d))))(k:∀a:AZ,∀b:Ad,∀c:As,∀d:BE,(f a b c d)->(g a b c d)->(i a b c d)->(j a b c d)->G):G:=h.elim λl m=>m.elim λn o=>o.elim λp q=>q.elim λr e=>k l n p r (e).1 ((e).2).1 (((e).2).2).1 (((e).2).2).2
theorem Lg.{u0,u1,u2,u3}{AZ:Sort u0}{Ad:Sort u1}{As:Sort u2}{BE:Sort u3}{f:AZ->Ad->As->BE->Prop}{g:AZ->Ad->As->BE->Prop}{i:AZ->Ad->As->BE->Prop}{j:AZ->Ad->As->BE->Prop}{l:AZ->Ad->As->BE->Prop}{G:Prop}(h:∃a:AZ,∃b:Ad,∃c:As,∃d:BE,(f a b c d)/\((g a b c d)/\((i a b c d)/\((j a b c d)/\(l a b c d)))))(k:∀a:AZ,∀b:Ad,∀c:As,∀d:BE,(f a b c d)->(g a b c d)->(i a b c d)->(j a b c d)->(l a b c d)->G):G:=h.elim λm n=>n.elim λo p=>p.elim λq r=>r.elim λs e=>k m o q s (e).1 ((e).2).1 (((e).2).2).1 ((((e).2).2).2).1 ((((e).2).2).2).2
theorem Zs.{u1}{b:Prop}{Ad:Sort u1}{c:Ad->Prop}{d:Ad->Prop}{G:Prop}(h:(b)/\(∃a:Ad,(c a)/\(d a)))(k:(b)->∀a:Ad,(c a)->(d a)->G):G:=(h).2.elim λf e=>k (h).1 f (e).1 (e).2
theorem dG{a:Prop}{b:Prop}{c:Prop}{d:Prop}{e:Prop}{G:Prop}(h:(a)/\((b)/\((c)/\((d)/\(e)))))(k:(a)->(b)->(c)->(d)->(e)->G):G:=k (h).1 ((h).2).1 (((h).2).2).1 ((((h).2).2).2).1 ((((h).2).2).2).2
theorem Y'.{u2}{b:Prop}{c:Prop}{As:Sort u2}{d:As->Prop}{G:Prop}(h:(b)/\((c)/\(∃a:As,d a)))(k:(b)->(c)->∀a:As,(d a)->G):G:=((h).2).2.elim λe f=>k (h).1 ((h).2).1 e f
theorem Q9.{u0}{AZ:Sort u0}{c:AZ->Prop}{d:AZ->Prop}{e:AZ->Prop}{f:AZ->Prop}{g:AZ->Prop}{G:Prop}(h:∃a:AZ,(c a)/\((d a)/\((e a)/\((f a)/\(g a)))))(k:∀a:AZ,(c a)->(d a)->(e a)->(f a)->(g a)->G):G:=h.elim λi b=>k i (b).1 ((b).2).1 (((b).2).2).1 ((((b).2).2).2).1 ((((b).2).2).2).2
theorem K8.{u3}{b:Prop}{c:Prop}{d:Prop}{BE:Sort u3}{e:BE->Prop}{f:BE->Prop}{G:Prop}(h:(b)/\((c)/\((d)/\(∃a:BE,(e a)/\(f a)))))(k:(b)->(c)->(d)->∀a:BE,(e a)->(f a)->G):G:=(((h).2).2).2.elim λi g=>k (h).1 ((h).2).1 (((h).2).2).1 i (g).1 (g).2
theorem HD.{u1,u2,u3,u4}{f:Prop}{Ad:Sort u1}{As:Sort u2}{BE:Sort u3}{Ep:Sort u4}{g:Ad->As->BE->Ep->Prop}{i:Ad->As->BE->Ep->Prop}{j:Ad->As->BE->Ep->Prop}{l:Ad->As->BE->Ep->Prop}{G:Prop}(h:(f)/\(∃a:Ad,∃b:As,∃c:BE,∃d:Ep,(g a b c d)/\((i a b c d)/\((j a b c d)/\(l a b c d)))))(k:(f)->∀a:Ad,∀b:As,∀c:BE,∀d:Ep,(g a b c d)->(i a b c d)->(j a b c d)->(l a b c d)->G):G:=(h).2.elim λm n=>n.elim λo p=>p.elim λq r=>r.elim λs e=>k (h).1 m o q s (e).1 ((e).2).1 (((e).2).2).1 (((e).2).2).2
theorem fw.{u0,u3}{AZ:Sort u0}{d:AZ->Prop}{e:AZ->Prop}{BE:Sort u3}{f:AZ->BE->Prop}{G:Prop}(h:∃a:AZ,(d a)/\((e a)/\(∃b:BE,f a b)))(k:∀a:AZ,(d a)->(e a)->∀b:BE,(f a b)->G):G:=h.elim λg c=>((c).2).2.elim λi j=>k g (c).1 ((c).2).1 i j
theorem gv.{u1}{c:Prop}{Ad:Sort u1}{d:Ad->Prop}{e:Ad->Prop}{f:Ad->Prop}{G:Prop}(h:(c)/\(∃a:Ad,(d a)/\((e a)/\(f a))))(k:(c)->∀a:Ad,(d a)->(e a)->(f a)->G):G:=(h).2.elim λg b=>k (h).1 g (b).1 ((b).2).1 ((b).2).2
theorem kP.{u3}{b:Prop}{c:Prop}{d:Prop}{BE:Sort u3}{e:BE->Prop}{G:Prop}(h:(b)/\((c)/\((d)/\(∃a:BE,e a))))(k:(b)->(c)->(d)->∀a:BE,(e a)->G):G:=(((h).2).2).2.elim λf g=>k (h).1 ((h).2).1 (((h).2).2).1 f g
theorem gR.{u0,u3}{AZ:Sort u0}{d:AZ->Prop}{e:AZ->Prop}{BE:Sort u3}{f:AZ->BE->Prop}{g:AZ->BE->Prop}{G:Prop}(h:∃a:AZ,(d a)/\((e a)/\(∃b:BE,(f a b)/\(g a b))))(k:∀a:AZ,(d a)->(e a)->∀b:BE,(f a b)->(g a b)->G):G:=h.elim λj c=>((c).2).2.elim λl i=>k j (c).1 ((c).2).1 l (i).1 (i).2
theorem tF.{u0,u1}{AZ:Sort u0}{Ad:Sort u1}{d:AZ->Ad->Prop}{e:AZ->Ad->Prop}{f:AZ->Ad->Prop}{g:AZ->Ad->Prop}{i:AZ->Ad->Prop}{G:Prop}(h:∃a:AZ,∃b:Ad,(d a b)/\((e a b)/\((f a b)/\((g a b)/\(i a b)))))(k:∀a:AZ,∀b:Ad,(d a b)->(e a b)->(f a b)->(g a b)->(i a b)->G):G:=h.elim λj l=>l.elim λm c=>k j m (c).1 ((c).2).1 (((c).2).2).1 ((((c).2).2).2).1 ((((c).2).2).2).2
end
section
@[elab_as_elim]theorem A9.{u}{c:Sort u}{motive:c->Prop}{a b:c}(h:a=b)(m:motive b):motive a:=h▸m
@[elab_as_elim]theorem Ag.{u}{c:Sort u}{motive:c->Prop}{a b:c}(h:a=b)(m:motive a):motive b:=h▸m
end
open Mine.Internal renaming A9->U
section
theorem Cu.{u}{c:Type u}{a b:c}{l:O c}{motive:a∈b::l->Prop}(t:a∈b::l)(head:a=b->motive t)(tail:a∈l->motive t):motive t:=(CZ.mp t).elim head tail
end
section
theorem Aa.{u0}{AZ:Sort u0}{b:AZ->Prop}{c:AZ->Prop}(a:AZ)(d:b a)(e:c a):∃a:AZ,(b a)/\(c a):=⟨a,d,e⟩
theorem BX{a:Prop}{b:Prop}{c:Prop}(d:a)(e:b)(f:c):(a)/\((b)/\(c)):=⟨d,e,f⟩
theorem Bp.{u0,u1}{AZ:Sort u0}{Ad:Sort u1}{c:AZ->Ad->Prop}(a:AZ)(b:Ad)(d:c a b):∃a:AZ,∃b:Ad,c a b:=⟨a,b,d⟩
theorem DI.{u0,u1}{AZ:Sort u0}{Ad:Sort u1}{c:AZ->Ad->Prop}{d:AZ->Ad->Prop}{e:AZ->Ad->Prop}(a:AZ)(b:Ad)(f:c a b)(g:d a b)(h:e a b):∃a:AZ,∃b:Ad,(c a b)/\((d a b)/\(e a b)):=⟨a,b,f,g,h⟩
theorem DB.{u0}{AZ:Sort u0}{b:AZ->Prop}{c:AZ->Prop}{d:AZ->Prop}(a:AZ)(e:b a)(f:c a)(g:d a):∃a:AZ,(b a)/\((c a)/\(d a)):=⟨a,e,f,g⟩
theorem Dx{a:Prop}{b:Prop}{c:Prop}{d:Prop}(e:a)(f:b)(g:c)(h:d):(a)/\((b)/\((c)/\(d))):=⟨e,f,g,h⟩
theorem Fq.{u0,u1}{AZ:Sort u0}{Ad:Sort u1}{c:AZ->Ad->Prop}{d:AZ->Ad->Prop}{e:AZ->Ad->Prop}{f:AZ->Ad->Prop}(a:AZ)(b:Ad)(g:c a b)(h:d a b)(i:e a b)(j:f a b):∃a:AZ,∃b:Ad,(c a b)/\((d a b)/\((e a b)/\(f a b))):=⟨a,b,g,h,i,j⟩
theorem HV.{u0,u1,u2}{AZ:Sort u0}{Ad:Sort u1}{As:Sort u2}{d:AZ->Ad->As->Prop}{e:AZ->Ad->As->Prop}{f:AZ->Ad->As->Prop}{g:AZ->Ad->As->Prop}(a:AZ)(b:Ad)(c:As)(h:d a b c)(i:e a b c)(j:f a b c)(k:g a b c):∃a:AZ,∃b:Ad,∃c:As,(d a b c)/\((e a b c)/\((f a b c)/\(g a b c))):=⟨a,b,c,h,i,j,k⟩
theorem Nd.{u0,u1,u2,u3}{AZ:Sort u0}{Ad:Sort u1}{As:Sort u2}{BE:Sort u3}{e:AZ->Ad->As->BE->Prop}(a:AZ)(b:Ad)(c:As)(d:BE)(f:e a b c d):∃a:AZ,∃b:Ad,∃c:As,∃d:BE,e a b c d:=⟨a,b,c,d,f⟩
theorem Kl.{u0,u1}{AZ:Sort u0}{Ad:Sort u1}{c:AZ->Ad->Prop}{d:AZ->Ad->Prop}(a:AZ)(b:Ad)(e:c a b)(f:d a b):∃a:AZ,∃b:Ad,(c a b)/\(d a b):=⟨a,b,e,f⟩
theorem K6.{u0}{AZ:Sort u0}{b:AZ->Prop}{c:AZ->Prop}{d:AZ->Prop}{e:AZ->Prop}(a:AZ)(f:b a)(g:c a)(h:d a)(i:e a):∃a:AZ,(b a)/\((c a)/\((d a)/\(e a))):=⟨a,f,g,h,i⟩
theorem Lp.{u0,u1,u2}{AZ:Sort u0}{Ad:Sort u1}{As:Sort u2}{d:AZ->Ad->As->Prop}{e:AZ->Ad->As->Prop}{f:AZ->Ad->As->Prop}{g:AZ->Ad->As->Prop}{h:AZ->Ad->As->Prop}{i:AZ->Ad->As->Prop}(a:AZ)(b:Ad)(c:As)(j:d a b c)(k:e a b c)(l:f a b c)(m:g a b c)(n:h a b c)(o:i a b c):∃a:AZ,∃b:Ad,∃c:As,(d a b c)/\((e a b c)/\((f a b c)/\((g a b c)/\((h a b c)/\(i a b c))))):=⟨a,b,c,j,k,l,m,n,o⟩
theorem LS.{u1}{b:Prop}{Ad:Sort u1}{c:Ad->Prop}{d:Ad->Prop}(e:b)(a:Ad)(f:c a)(g:d a):(b)/\(∃a:Ad,(c a)/\(d a)):=⟨e,a,f,g⟩
theorem N5.{u1,u2}{c:Prop}{Ad:Sort u1}{As:Sort u2}{d:Ad->As->Prop}(e:c)(a:Ad)(b:As)(f:d a b):(c)/\(∃a:Ad,∃b:As,d a b):=⟨e,a,b,f⟩
theorem Ms.{u3}{b:Prop}{c:Prop}{d:Prop}{BE:Sort u3}{e:BE->Prop}{f:BE->Prop}(g:b)(h:c)(i:d)(a:BE)(j:e a)(k:f a):(b)/\((c)/\((d)/\(∃a:BE,(e a)/\(f a)))):=⟨g,h,i,a,j,k⟩
theorem Mw.{u0,u1,u2}{AZ:Sort u0}{Ad:Sort u1}{As:Sort u2}{d:AZ->Ad->As->Prop}{e:AZ->Ad->As->Prop}(a:AZ)(b:Ad)(c:As)(f:d a b c)(g:e a b c):∃a:AZ,∃b:Ad,∃c:As,(d a b c)/\(e a b c):=⟨a,b,c,f,g⟩
theorem O'.{u0,u1,u2,u3}{AZ:Sort u0}{Ad:Sort u1}{As:Sort u2}{BE:Sort u3}{e:AZ->Ad->As->BE->Prop}{f:AZ->Ad->As->BE->Prop}{g:AZ->Ad->As->BE->Prop}{h:AZ->Ad->As->BE->Prop}{i:AZ->Ad->As->BE->Prop}(a:AZ)(b:Ad)(c:As)(d:BE)(j:e a b c d)(k:f a b c d)(l:g a b c d)(m:h a b c d)(n:i a b c d):∃a:AZ,∃b:Ad,∃c:As,∃d:BE,(e a b c d)/\((f a b c d)/\((g a b c d)/\((h a b c d)/\(i a b c d)))):=⟨a,b,c,d,j,k,l,m,n⟩
theorem bM.{u0,u1,u2}{AZ:Sort u0}{Ad:Sort u1}{As:Sort u2}{d:AZ->Ad->As->Prop}(a:AZ)(b:Ad)(c:As)(e:d a b c):∃a:AZ,∃b:Ad,∃c:As,d a b c:=⟨a,b,c,e⟩
theorem Tt.{u1}{b:Prop}{Ad:Sort u1}{c:Ad->Prop}{d:Ad->Prop}{e:Ad->Prop}(f:b)(a:Ad)(g:c a)(h:d a)(i:e a):(b)/\(∃a:Ad,(c a)/\((d a)/\(e a))):=⟨f,a,g,h,i⟩
theorem TB.{u1,u2,u3,u4}{e:Prop}{Ad:Sort u1}{As:Sort u2}{BE:Sort u3}{Ep:Sort u4}{f:Ad->As->BE->Ep->Prop}{g:Ad->As->BE->Ep->Prop}{h:Ad->As->BE->Ep->Prop}{i:Ad->As->BE->Ep->Prop}(j:e)(a:Ad)(b:As)(c:BE)(d:Ep)(k:f a b c d)(l:g a b c d)(m:h a b c d)(n:i a b c d):(e)/\(∃a:Ad,∃b:As,∃c:BE,∃d:Ep,(f a b c d)/\((g a b c d)/\((h a b c d)/\(i a b c d)))):=⟨j,a,b,c,d,k,l,m,n⟩
theorem Zi.{u0,u1,u2}{AZ:Sort u0}{Ad:Sort u1}{As:Sort u2}{d:AZ->Ad->As->Prop}{e:AZ->Ad->As->Prop}{f:AZ->Ad->As->Prop}(a:AZ)(b:Ad)(c:As)(g:d a b c)(h:e a b c)(i:f a b c):∃a:AZ,∃b:Ad,∃c:As,(d a b c)/\((e a b c)/\(f a b c)):=⟨a,b,c,g,h,i⟩
theorem X6.{u0}{AZ:Sort u0}{b:AZ->Prop}{c:AZ->Prop}{d:AZ->Prop}{e:AZ->Prop}{f:AZ->Prop}(a:AZ)(g:b a)(h:c a)(i:d a)(j:e a)(k:f a):∃a:AZ,(b a)/\((c a)/\((d a)/\((e a)/\(f a)))):=⟨a,g,h,i,j,k⟩
theorem WY.{u0,u1}{AZ:Sort u0}{Ad:Sort u1}{c:AZ->Ad->Prop}{d:AZ->Ad->Prop}{e:AZ->Ad->Prop}{f:AZ->Ad->Prop}{g:AZ->Ad->Prop}(a:AZ)(b:Ad)(h:c a b)(i:d a b)(j:e a b)(k:f a b)(l:g a b):∃a:AZ,∃b:Ad,(c a b)/\((d a b)/\((e a b)/\((f a b)/\(g a b)))):=⟨a,b,h,i,j,k,l⟩
theorem TF.{u0,u1,u2,u3,u4}{AZ:Sort u0}{Ad:Sort u1}{As:Sort u2}{BE:Sort u3}{Ep:Sort u4}{f:AZ->Ad->As->BE->Ep->Prop}{g:AZ->Ad->As->BE->Ep->Prop}{h:AZ->Ad->As->BE->Ep->Prop}{i:AZ->Ad->As->BE->Ep->Prop}{j:AZ->Ad->As->BE->Ep->Prop}(a:AZ)(b:Ad)(c:As)(d:BE)(e:Ep)(k:f a b c d e)(l:g a b c d e)(m:h a b c d e)(n:i a b c d e)(o:j a b c d e):∃a:AZ,∃b:Ad,∃c:As,∃d:BE,∃e:Ep,(f a b c d e)/\((g a b c d e)/\((h a b c d e)/\((i a b c d e)/\(j a b c d e)))):=⟨a,b,c,d,e,k,l,m,n,o⟩
theorem UL.{u1}{b:Prop}{Ad:Sort u1}{c:Ad->Prop}(d:b)(a:Ad)(e:c a):(b)/\(∃a:Ad,c a):=⟨d,a,e⟩
theorem eJ.{u0,u1,u2,u3}{AZ:Sort u0}{Ad:Sort u1}{As:Sort u2}{BE:Sort u3}{e:AZ->Ad->As->BE->Prop}{f:AZ->Ad->As->BE->Prop}{g:AZ->Ad->As->BE->Prop}{h:AZ->Ad->As->BE->Prop}(a:AZ)(b:Ad)(c:As)(d:BE)(i:e a b c d)(j:f a b c d)(k:g a b c d)(l:h a b c d):∃a:AZ,∃b:Ad,∃c:As,∃d:BE,(e a b c d)/\((f a b c d)/\((g a b c d)/\(h a b c d))):=⟨a,b,c,d,i,j,k,l⟩
end
section
theorem Ao{p G:Prop}(h:p->G)(k:¬p->G):G:=(Wj p).elim h k
theorem dc{p:Prop} [Dh p](h:decide p=I):p:=DJ h
end
section
theorem iM{n a b:G}(h:a+b<=n):n=n-(a+b)+a+b:=(CR ..).trans (Oj h)|>.symm
theorem UN{d D k:G}(h:D+k<=22):d+22=d+22-(D+k)+D+k:=iM<|L h<|Be 22 d
theorem toN(n k:G):((n:J)-1+(k:J)* -1).toNat=n-1-k:=by rw[Int.mul_neg_one,<-Vq,Int.sub_sub,VR]at⊢;rw[Ze n<|1+k]
theorem kO{L m:G}:Lq m+(L:J)=(L:J)-((m+1:G):J):=by rw[Int.negSucc_eq,XQ,<-Vq]at⊢;rfl
theorem xe{L m:G}:L-1-m=(Lq m+(L:J)).toNat:=by rw[kO,Ze,VR,EL]at⊢
theorem iZ{L m:G}:0<=Lq m+(L:J)↔m<L:=by rw[kO]at⊢;rw[lF.trans DM]
theorem t8{x y n:G}(a:1000<=x)(b:1000<=y)(c:x-980=n)(d:y-980=n):y=x:=(Oj<|L (by decide) b).symm.trans<|(A_ (·+980)<|d.trans c.symm).trans<|Oj<|L (by decide) a
theorem mZ{e a f b g d c:G}(q:g<=e)(r:d+e=c+a+1)(s:b<=f)(t:f+1<=g):c+a+1=c+a-b+b+1:=A_ UM (Oj<|Lh<|L (L (Ce s)<|L t<|L q<|Be _ d)<|C8 r).symm
theorem q7{a b c e d D:G}(h:d+a=D)(q:e<=a)(t:c+1<=e)(u:b<=c):D=D-(b+1)+b+1:=iM<|L (L (Ce u)<|L t<|L q<|Be a d)<|C8 h
theorem uV{a b c t k p:G}(h:t<=k)(q:a<=t)(r:a=p+(b+1)+(c+1)+1):p<k:=CQ (Nk<|L (BJ p _)<|BJ _<|c+1)<|L (C8 r.symm)<|L q h
theorem abU{a b c t k p:G}(h:t<=k)(q:a<=t)(r:a=p+(b+1)+(c+1)+1):b<k:=CQ (Nk<|L (L (E2 b)<|Be (b+1) p)<|BJ _<|c+1)<|L (C8 r.symm)<|L q h
theorem vr{a c t k p:G}(h:t<=k)(q:a<=t)(r:a=p+(c+1)+1):p<k:=CQ (Nk<|BJ p<|c+1)<|L (C8 r.symm)<|L q h
theorem b0{A r j:G}(a:A<=900)(w:r<=2):3*(A-j)+r<=3000:=L (Cq (KQ 3<|L (FJ _ _) a) w)<|by decide
theorem aaw{A m j a:G}(q:j<a)(z:a<=A)(h:m+j=A):A-a<m:=Nat.sub_lt_right_of_lt_add z<|CH (C8 h.symm)<|Nat.add_lt_add_left q m
theorem ue{m j n:G}(h:m+j=n)(a:j<n):m-1<m:=Nat.pred_lt λz=>DZ a<|by subst z;rw[(Di j).symm.trans h]
theorem dS{c:J}(h:69<=c):c∉([0,12,14,15,18]:O J):=λm=>Aj (show(69:J)<=18 from Fm h (by revert m c;intro c _ m;simp only [CZ,Ia,SJ]at m;rcases m with rfl|rfl|rfl|rfl|rfl<;>decide))<|by decide
theorem ZA{a b c d e n:G}(f:a+c+(d+20)<=n)(g:b+e<=c+d+19):a+(b+e)<=n:=L (L (CD (L g<|E2 _) a)<|C8 (CR a c<|d+20).symm) f
theorem vW{a t x n N:G}(h:a+4*(n+1)<=N)(g:t<=2)(f:x<=2):a+t+x+4*n<=N:=L (by rw[CR,CR,<-CR t,EL _<|4*n]at⊢;rw[CD (CD (Cq g f) _) a]) h
theorem dW{B S a F A T p m:G}(b:B+S+2*F+2<=m)(d:F=A+T+2)(c:a<=S)(e:p<=2):B+a+p+2*A+2<=m/\B+a+2<=m/\B+(p+a)+2*T+2<=m:=by subst d;have k:∀{A F:G},A+2<=F->B+a+p+2*A+2<=B+S+2*F+2:=λ{A F}h=>CU (CR (B+a) .. ▸Cq (CD c B) (EL p _▸L (CD (L e (by decide:2<=2*2))<|2*A) (Nat.mul_add 2 A 2▸KQ 2 h))) 2;rw[⟨L (k<|CU (BJ A T) 2) b,L (CU (L (CD c B)<|BJ _ _) 2) b,EL a p▸CR B a p▸L (k<|CU (Be T A) 2) b⟩]
theorem qY{o F A T m:G}(b:o+F+1<m)(c:F=A+T+2):o+1+A+1<m/\o+T+1<m/\o+1<m:=by subst c;have k:∀{a},a<=A+T+2->o+a+1<m:=λq=>CH (CU (CD q o) 1) b;rw[⟨CR o 1 A▸k (EL 1 A▸Cq (BJ A T) (by decide)),k<|L (Be T A)<|BJ _ 2,k<|CJ _⟩]
theorem bB{B S S' T m:G}(a:B+S+2*(T+1)+2<=m)(b:S'<=S+2):B+S'+2*T+2<=m:=L (CU (L (CU (CD b B)<|2*T)<|C8<|FZ (B+S) 2<|2*T) 2) a
theorem yy{n c k:G}(h:c<=3)(g:n+3<=k):n<=k-c:=m8<|L (CD h n) g
theorem X1{b r s t S T n:G}(a:b+S+T<=n)(c:r+s+(t+20)<=S+T):b+r+s+t+20<=n:=by
 have e:b+r+s+t=b+(r+s+t):=by rw[CR,CR,CR]at⊢
 rw[L (C8<|A_ (·+20) e)<|L (CD c b)<|L (C8 (CR ..).symm) a]
theorem vh {B T S s k v u w : G}  (a :  B + S + T + 20 ≤ 5000) (b :  s ≤ 3) (c :  k ≤ 10) (d :  u + w + v ≤ T + k) : B + (s + 1) + u + w + (S + 6) ≤ 5000 :=
 have e : B + (s + 1) + u + w + (S + 6) = B + S + (u + w) + (s + 1 + 6) := by ac_rfl
 L (C8  e) (L (Cq  (CD (L (BJ  _ v) (L d (CD   c T)))  (B + S)) (CU b 7))  a)
theorem nU {p r a S x q u w v n : G}  (b :  p ≤ 2) (c :  r ≤ 2) (d :  x ≤ S + r) (f :  a + S + q ≤ p + w) (g :  u + w + v ≤ n + 6) : u + (a + x) + q + v ≤ n + 10 :=
 have e : u + (a + (S + r)) + q + v = a + S + q + (u + r + v) := by ac_rfl
 have h :  p + w + (u + r + v) = u + w + v + (p + r) := by ac_rfl
 L (CU  (CU (CD (CD d a)  u) q) v) (L (C8  e) (L (CU  f _)  (L (C8  h)  (Cq (b := n + 6) (d := 4) g (Cq  b c)))))
theorem zC {s x S r y t T : G}  (a :  s ≤ 3) (b :  x ≤ S) (c :  r ≤ 2) (d :  y + t + 0 ≤ T + 10) : s + 1 + y + 1 + (x + r) + t ≤ S + T + 19 :=
 have e : s + 1 + y + 1 + (x + r) + t = x + (y + t) + (s + 1 + 1 + r) := by ac_rfl
 L (C8  e) (L (Cq  (Cq b d)   (Cq (CU a 2)  c))  (BJ _ 2))
end
section
inductive Tele:Type 1 where
 |nil(p:Prop)
 |and(p:Prop)(t:Tele)
 |cons(T:Type) [i:CK T](F:T->Tele)
abbrev Val:Type 1:=G->(T:Type)->CK T->T
noncomputable def Tele.vr0{T:Type}{i:CK T}(v:Val)(k:G):T:=v k T i
@[reducible]noncomputable def Tele.at(v:Val)(t:Tele):G->Prop:= @Tele.rec (λZ=>G->Prop) (λp Z=>Bg->p) (λp Z a k=>p->a k) (λZ i Z a k=>a (@Tele.vr0 _ i v k) k.succ) t
@[reducible]noncomputable def Tele.all(t:Tele):Prop:= @Tele.rec (λZ=>Prop) (λp=>p) (λp Z a=>p->a) (λZ Z Z a=>∀x,a x) t
@[reducible]noncomputable def Tele.ex(t:Tele):Prop:= @Tele.rec (λZ=>Prop) (λp=>p) (λp Z a=>p/\a) (λZ Z Z a=>∃x,a x) t
@[reducible]noncomputable def Tele.imp(v:Val)(a:Prop)(t:Tele):G->Prop:= @Tele.rec (λZ=>G->Prop) (λp Z=>p->a) (λp Z b k=>p->b k) (λZ i Z b k=>b (@Tele.vr0 _ i v k) k.succ) t
theorem Tele.same{v w:Val}(t:Tele):∀{k:G},(∀j,k<=j->v j=w j)->t.at v k->t.at w k:=by induction t using Tele.rec with|nil p=>rw[λZ h=>h]|and p t a=>rw[λe h q=>a e<|h q]|cons T F a=>rw[λ{k}e h=>a (@Tele.vr0 _ _ w k) (λj q=>e j<|GP q) (TA (TA (e k<|B2 k) T) _▸h:Tele.at v (F<|w k T _) k.succ)]
theorem Tele.of(t:Tele):∀{k:G},(∀v,t.at v k)->t.all:=by induction t using Tele.rec with|nil p=>rw[λh=>h (λZ Z i=>QM i) B9]|and p t a=>rw[λh q=>a λv=>h v q]| @cons T i F a=>intro k h x;rw[a x (k:=k.succ) λv=>?_];let w:Val:=λj b c=>if j=k then(@dite _ (T=b) (aO _) (λq=>q▸x) λZ=>QM c)else v j b c;have e: @Tele.vr0 T i w k=x:=(AM Y).trans (dif_pos Y);have h:Tele.at w (F<|@Tele.vr0 T i w k) k.succ:=h w;rw[Tele.same _ (λj q=>GJ λb=>GJ λc=>AS<|JL q)<|e▸h]
noncomputable def l_(P:Val->Prop):Val:= @Classical.epsilon Val ⟨λZ Z i=>QM i⟩ P
noncomputable def Tele.e(t:Tele):Val:=l_ λv=>¬t.at v 0
theorem Tele.hkA(t:Tele)(h:t.at t.e 0):t.all:=Tele.of t (k:=0) λv=>ir λn=> @gF _ (λv=>¬t.at v 0) ⟨v,n⟩ h
noncomputable def Tele.c(t:Tele):Val:=l_ λv=>∀G:Prop,t.imp v G 0->G
theorem Tele.vq{v w:Val}{a:Prop}(t:Tele):∀{k:G},(∀j,k<=j->v j=w j)->t.imp v a k->t.imp w a k:=by induction t using Tele.rec with|nil p=>rw[λZ h=>h]|and p t b=>rw[λe h q=>b e<|h q]|cons T F b=>rw[λ{k}e h=>b (@Tele.vr0 _ _ w k) (λj q=>e j<|GP q) (TA (TA (e k<|B2 k) T) _▸h:Tele.imp v a (F<|w k T _) k.succ)]
theorem Tele.Pe(t:Tele):∀{k:G},t.ex->∃v,∀a,t.imp v a k->a:=by induction t using Tele.rec with|nil p=>rw[λh=>⟨λZ Z i=>QM i,λa q=>q h⟩]|and p t b=>rw[λh=>(b h.2).elim λv q=>⟨v,λa z=>q a<|z h.1⟩]| @cons T i F b=>intro k h;obtain⟨x,h⟩:=h;obtain⟨v,q⟩:=b x (k:=k.succ) h;let w:Val:=λj c d=>if j=k then(@dite _ (T=c) (aO _) (λq=>q▸x) λZ=>QM d)else v j c d;have e: @Tele.vr0 T i w k=x:=(AM Y).trans (dif_pos Y);rw[⟨w,λa z=>q a ?_⟩];have z:Tele.imp w a (F<|@Tele.vr0 T i w k) k.succ:=z;rw[Tele.vq _ (λj q=>GJ λc=>GJ λd=>AS<|JL q)<|e▸z]
theorem Tele.hkX(t:Tele){G:Prop}(h:t.ex)(k:t.imp t.c G 0):G:= @gF _ (λv=>∀G:Prop,t.imp v G 0->G) (Tele.Pe t h) G k
end
section
inductive MV where
 |none
 |bool(b:AL)
 |int(i:J)
 |str(k:G)
 |tup(l:O MV)
 |ref(a:G)
instance:CK MV:=⟨.none⟩
def MV.ctorIdx(x:MV):G:= @MV.casesOn (λZ=>G) x 0 (λZ=>1) (λZ=>2) (λZ=>3) (λZ=>4) λZ=>5
set_option genInjectivity true in
inductive AK where
 |list(fz:AL)(vs:O MV)
 |dict(fz:AL)(es:O<|MV×MV)
 |inst(c:G)(d:G)
instance:CK AK:=⟨.list T []⟩
def AK.ctorIdx(x:AK):G:= @AK.casesOn (λZ=>G) x (λZ Z=>0) (λZ Z=>1) λZ Z=>2
abbrev MH:=O AK
structure C_ where
 why:MV
 fn:MV
 at_:MV
instance:CK C_:=⟨⟨.none,.none,.none⟩⟩
inductive R(α:Type)where
 |ok(a:α)(H:MH)
 |exc(x:C_)(H:MH)
 |bad
instance{a:Type}:CK<|R a:=⟨.bad⟩
def R.ctorIdx{a:Type}(x:R a):G:= @R.casesOn a (λZ=>G) x (λZ Z=>0) (λZ Z=>1) 2
def R.bind{b c:Type}:R b->(b->MH->R c)->R c| .ok a H,f=>f a H| .exc x H,_=> .exc x H| .bad,_=> .bad
def BW{b:Type}(H:MH):AO b->R b|V a=> .ok a H|C=> .bad
abbrev Loc:=G->AO MV
def upd(a:Loc)(x:G)(v:MV):Loc:=λy=>if y=x then V v else a y
inductive DW where|add|sub|mul|fdiv|fmod(u:BF)
instance:CK DW:=⟨.add⟩
def DW.ctorIdx(x:DW):G:= @DW.casesOn (λZ=>G) x 0 1 2 3 λZ=>4
theorem DW.back(x:DW):([.add,.sub,.mul,.fdiv,.fmod ()]:O DW)[x.ctorIdx]?=V x:= @DW.casesOn (λx=>([.add,.sub,.mul,.fdiv,.fmod ()]:O DW)[x.ctorIdx]?=V x) x Y Y Y Y λZ=>Y
theorem DW.same{a b:DW}(h:a.ctorIdx=b.ctorIdx):a=b:=AN<|(back a).symm.trans<|(A_ (λn=>([.add,.sub,.mul,.fdiv,.fmod ()]:O DW)[n]?) h).trans<|back b
instance abu:GD DW:=λZ Z=>decidable_of_iff _ ⟨DW.same,A_ DW.ctorIdx⟩
inductive EG where|eq|ne|lt|le|gt|ge|is|PV|isin|MT(u:BF)
instance:CK EG:=⟨.eq⟩
def EG.ctorIdx(x:EG):G:= @EG.casesOn (λZ=>G) x 0 1 2 3 4 5 6 7 8 λZ=>9
inductive Bi where|len|list|tuple|all|any|sum|max(u:BF)|int
instance:CK Bi:=⟨.len⟩
def Bi.ctorIdx(x:Bi):G:= @Bi.casesOn (λZ=>G) x 0 1 2 3 4 5 (λZ=>6) 7
inductive IK where|val|range|enum(u:BF)
instance:CK IK:=⟨.val⟩
def IK.ctorIdx(x:IK):G:= @IK.casesOn (λZ=>G) x 0 1 λZ=>2
inductive CE where
 |con(v:MV)
 |loc(x:G)
 |glob(g:G)
 |bin(op:DW)(a b:CE)
 |not(a:CE)
 |bool(abw:AL)(es:O CE)
 |cmp(a:CE)(ops:O EG)(bs:O CE)
 |ite(t a b:CE)
 |list(es:O CE)
 |tup(es:O CE)
 |dict(kvs:O CE)
 |attr(o:CE)(k:G)
 |sub(o i:CE)
 |VD(o a:CE)
 |ZL(o b:CE)
 |UI(o:CE)
 |EK(f:G)(args:O CE)
 |callC(c:G)(args:O CE)
 |E8(b:Bi)(a:CE)
 |BA(o:CE)(k:G)(args:O CE)
 |comp(elt:CE)(xs:O G)(uq:AL)(k:IK)(src:O CE)(HC:O CE)
instance:CK CE:=⟨.con .none⟩
def CE.ctorIdx(x:CE):G:= @CE.casesOn (λZ=>G) x (λZ=>0) (λZ=>1) (λZ=>2) (λZ Z Z=>3) (λZ=>4) (λZ Z=>5) (λZ Z Z=>6) (λZ Z Z=>7) (λZ=>8) (λZ=>9) (λZ=>10) (λZ Z=>11) (λZ Z=>12) (λZ Z=>13) (λZ Z=>14) (λZ=>15) (λZ Z=>16) (λZ Z=>17) (λZ Z=>18) (λZ Z Z=>19) λZ Z Z Z Z Z=>20
inductive CS where
 |expr(e:CE)
 |asg(x:G)(e:CE)
 |FP(xs:O G)(e:CE)
 |Fi(o:CE)(k:G)(e:CE)
 |Ka(o i e:CE)
 |ifs(t:CE)(b o:O CS)
 |JY(t:CE)(b:O CS)
 |Jj(xs:O G)(uq:AL)(k:IK)(src:O CE)(b:O CS)
 |cont
 |ret(e:CE)
 |raise(a b c:CE)
 |try(b:O CS)(x:G)(h:O CS)
instance:CK CS:=⟨.cont⟩
def CS.ctorIdx(x:CS):G:= @CS.casesOn (λZ=>G) x (λZ=>0) (λZ Z=>1) (λZ Z=>2) (λZ Z Z=>3) (λZ Z Z=>4) (λZ Z Z=>5) (λZ Z=>6) (λZ Z Z Z Z=>7) 8 (λZ=>9) (λZ Z Z=>10) λZ Z Z=>11
inductive CX where|next|cont|ret(v:MV)
instance:CK CX:=⟨.next⟩
def CX.ctorIdx(x:CX):G:= @CX.casesOn (λZ=>G) x 0 1 λZ=>2
inductive RS where
 |ok(f:CX)(ρ:Loc)(H:MH)
 |exc(x:C_)(ρ:Loc)(H:MH)
 |bad
instance:CK RS:=⟨.bad⟩
def RS.ctorIdx(x:RS):G:= @RS.casesOn (λZ=>G) x (λZ Z Z=>0) (λZ Z Z=>1) 2
def R.then{b:Type}(c:Loc):R b->(b->MH->RS)->RS| .ok a H,f=>f a H| .exc x H,_=> .exc x c H| .bad,_=> .bad
def RS.calm:RS->RS| .ok f _ H=> .ok f (λZ=>C) H| .exc _ _ _=> .bad| .bad=> .bad
def ko(a:Loc)(H:MH):O MV->RS|[x,y,z]=> .exc ⟨x,y,z⟩ a H|_=> .bad
def RS.seq:RS->(Loc->MH->RS)->RS| .ok .next a H,k=>k a H| .ok (.ret v) a H,_=> .ok (.ret v) a H| .ok .cont a H,_=> .ok .cont a H| .exc x a H,_=> .exc x a H| .bad,_=> .bad
def RS.go:RS->RS| .ok .cont a H=> .ok .next a H|r=>r
def Bj:G:=16777216
def prim:MV->AL| .none=>I| .int _=>I| .str _=>I|_=>T
def FT(v:MV):AL:= @MV.casesOn (λZ=>AL) v I (λZ=>T) (λZ=>T) (λZ=>T) (λZ=>T) λZ=>T
def MV.sel{a:Type}(d:a)(i:J->a)(s:G->a)(t:O MV->a)(v:MV):a:= @MV.casesOn (λZ=>a) v d (λZ=>d) i s t λZ=>d
def Pf(a b:MV):AL:= @MV.casesOn (λZ=>AL) a (FT b) (λZ=>T) (λi=>b.sel T (λj=>i==j) (λZ=>T) λZ=>T) (λi=>b.sel T (λZ=>T) (λj=>i==j) λZ=>T) (λZ=>T) λZ=>T
def Kn:O MV->O MV->AL|[],[]=>I|a::f,b::g=>Pf a b&&Kn f g|_,_=>T
inductive Vw where
 |p(v:MV)
 |t(l:O MV)
 |l(l:O MV)
def Vw.ctorIdx(x:Vw):G:= @Vw.casesOn (λZ=>G) x (λZ=>0) (λZ=>1) λZ=>2
def AK.Cc:AK->AO (O MV)| .list _ l=>V l|_=>C
def AK.KD:AK->AO (O MV)| .list T l=>V l|_=>C
def L9:MV->G| .str _=>0| .int _=>1|_=>2
def Df(n:G):O (MV×MV)->AL|[]=>I|e::_=>L9 e.1==n
def AK.dD(n:G):AK->AO (O<|MV×MV)| .dict _ l=>if Df n l=I then V l else C|_=>C
def AK.Px(n:G):AK->AO (O<|MV×MV)| .dict T l=>if Df n l=I then V l else C|_=>C
def AK.P9:AK->AO (G×G)| .inst c d=>V (c,d)|_=>C
def view(H:MH):MV->AO Vw| .none=>V (.p .none)| .int i=>V (.p<|.int i)| .str k=>V (.p<|.str k)| .tup l=>if l.all prim then V (.t l)else C| .ref i=>(H[i]?.bind AK.Cc).bind λl=>if l.all prim then V (.l l)else C| .bool _=>C
def views(H:MH):O MV->AO (O Vw)|[]=>V []|v::r=>(view H v).bind λa=>(views H r).map λb=>a::b
def IL:Vw->Vw->AL| .p a,.p b=>Pf a b| .t a,.t b=>Kn a b| .l a,.l b=>Kn a b|_,_=>T
def QI(H:MH)(a b:MV):AO AL:=(view H a).bind λx=>(view H b).map λy=>IL x y
def Dm:O MV->AO (O J)|[]=>V []| .int b::r=>(Dm r).map (b::·)|_=>C
def Ju:O MV->AO (O AL)|[]=>V []| .bool b::r=>(Ju r).map (b::·)|_=>C
def Dw(a b:MV):AL:=a.sel T (λi=>b.sel T (λj=>i==j) (λZ=>T) λZ=>T) (λi=>b.sel T (λZ=>T) (λj=>i==j) λZ=>T) λl=>b.sel T (λZ=>T) (λZ=>T) λm=>decide<|Dm l=Dm m
def isKey:MV->AL| .int _=>I| .tup l=>(Dm l).isSome|_=>T
def Cd(k:MV):O (MV×MV)->AO MV|[]=>C|(a,v)::r=>if Dw a k then V v else Cd k r
def EH(k v:MV):O (MV×MV)->O (MV×MV)|[]=>[(k,v)]|(a,u)::r=>if Dw a k then(a,v)::r else(a,u)::EH k v r
def Qa(H:MH):MV->MV->AO AL
|v,.tup l=>(view H v).bind λx=>(views H l).map λa=>a.any λy=>IL y x
|v,.ref i=>match H[i]? with|V (.list _ l)=>(view H v).bind λx=>(views H l).map λa=>a.any λy=>IL y x|V (.dict _ f)=>if isKey v=I/\Df (L9 v) f=I then V (Cd v f).isSome else C|_=>C
|_,_=>C
def Oc:MV->MV->AO (J×J)| .int a,.int b=>V (a,b)|_,_=>C
def Sh(a b:J):EG->AO AL| .lt=>V (decide<|a<b)| .le=>V (decide<|a<=b)| .gt=>V (decide<|a>b)| .ge=>V (decide<|a>=b)|_=>C
def Ei(H:MH):EG->MV->MV->AO AL| .eq,a,b=>QI H a b| .ne,a,b=>(QI H a b).map (!·)| .is,a,b=>if FT b=I then V (FT a)else C| .isin,a,b=>Qa H a b| .MT _,a,b=>(Qa H a b).map (!·)| .PV,a,b=>if FT b=I then V (!FT a)else C|f,a,b=>(Oc a b).bind λp=>Sh p.1 p.2 f
def M'(op:EG)(a b:MV)(H:MH):R AL:=BW H<|Ei H op a b
def alloc(o:AK)(H:MH):R MV:= .ok (.ref H.length)<|H++[o]
def newList(a:O MV)(H:MH):R MV:=if a.length<=Bj then alloc (.list T a) H else .bad
def Gw(a:O MV)(H:MH):R MV:=if a.length<=Bj then .ok (.tup a) H else .bad
def b9(H:MH):MV->MV->R MV| .int a,.int b=> .ok (.int<|a+b) H| .tup a,.tup b=>Gw (a++b) H| .ref i,.ref j=>(BW H<|H[i]?.bind AK.KD).bind λa H=>(BW H<|H[j]?.bind AK.KD).bind λb H=>newList (a++b) H|_,_=> .bad
def arith(a b:J)(H:MH):DW->R MV| .sub=> .ok (.int<|a-b) H| .mul=>if a.natAbs<1000000000000/\b.natAbs<1000000000000 then .ok (.int<|a*b) H else .bad| .fdiv=>if 0<b/\b<1000000000 then .ok (.int<|a/b) H else .bad| .fmod _=>if 0<b/\b<1000000000 then .ok (.int<|a%b) H else .bad| .add=> .bad
def bq(H:MH)(l:O MV)(n:J):R MV:=if l.length<=1/\0<=n/\n<=16777216 then newList (Ct n.toNat l).flatten H else .bad
def Mz(H:MH):DW->MV->MV->R MV| .add,a,b=>b9 H a b| .mul,.ref i,.int n=>(BW H<|H[i]?.bind AK.KD).bind λl H=>bq H l n|f,a,b=>(BW H<|Oc a b).bind λp H=>arith p.1 p.2 H f
def idx(k:J)(n:G):AO G:=if 0<=k then(if k<n then V k.toNat else C)else(if 0<=k+n then V (k+n).toNat else C)
def subAt(k:J):AK->AO MV| .list _ l=>(idx k l.length).bind λj=>l[j]?| .dict _ a=>if Df 1 a=I then Cd (.int k) a else C|_=>C
def EA(H:MH):MV->MV->R MV| .tup l,.int k=>BW H ((idx k l.length).bind λj=>l[j]?)| .ref i,.int k=>BW H (H[i]?.bind<|subAt k)| .ref i,.tup l=>BW H ((H[i]?.bind<|AK.dD 2).bind λa=>if(Dm l).isSome=I then Cd (.tup l) a else C)|_,_=> .bad
def setAt(k:J)(v:MV):AK->AO AK| .list T l=>(idx k l.length).map λj=> .list T<|l.set j v| .dict T a=>if a.length<1000/\Df 1 a=I then V (.dict T<|EH (.int k) v a)else C|_=>C
def ZZ(H:MH):MV->MV->MV->AO MH| .ref i,.int k,v=>(H[i]?.bind<|setAt k v).map λo=>H.set i o|_,_,_=>C
inductive LM where|append|pop|extend(u:BF)|reverse
instance:CK LM:=⟨.append⟩
def LM.ctorIdx(x:LM):G:= @LM.casesOn (λZ=>G) x 0 1 (λZ=>2) 3
structure Code where
 Fd:G->G->AO G
 lm:G->AO LM
 glob:G->AO MV
 init:G->AO G
 Et:G
 DX:G×G×G
instance:CK Code:=⟨⟨λZ Z=>C,λZ=>C,λZ=>C,λZ=>C,default,default⟩⟩
def Ml(P:Code)(H:MH):MV->G->R MV| .ref i,k=>BW H ((H[i]?.bind AK.P9).bind λc=>(H[c.2]?.bind<|AK.Px 0).bind λa=>if P.Fd c.1 k=C then Cd (.str k) a else C)|_,_=> .bad
def PN(P:Code)(H:MH):MV->G->MV->AO MH| .ref i,k,v=>(H[i]?.bind AK.P9).bind λc=>(H[c.2]?.bind<|AK.Px 0).bind λa=>if(P.Fd c.1 k=C/\c.1≠P.Et)/\a.length<900 then V (H.set c.2<|.dict T<|EH (.str k) v a)else C|_,_,_=>C
def LF(H:MH):MV->AO (O MV)| .tup l=>V l| .ref i=>H[i]?.bind AK.Cc|_=>C
def eQ:MV->MV->AO (G×J)| .ref i,.int k=>V (i,k)|_,_=>C
def ah(H:MH)(a b:MV)(f:O MV->J->AO (O MV)):R MV:=(BW H<|(eQ a b).bind λp=>(H[p.1]?.bind AK.Cc).bind λl=>f l p.2).bind newList
def Qd(H:MH):MV->MV->R MV| .tup l,.int k=>if 1<=k/\k<=l.length then Gw (l.drop k.toNat) H else .bad|a,b=>ah H a b λl k=>if 0<=k/\k<=l.length then V (l.drop k.toNat)else C
def ZU(H:MH):MV->R MV| .tup l=>Gw l.reverse H| .ref i=>(BW H<|H[i]?.bind AK.Cc).bind λl H=>newList l.reverse H|_=> .bad
def R6(H:MH)(a b:MV):R MV:=ah H a b λl k=>if 0<=k/\k<=16777216 then V (l.take k.toNat)else C
def O5(l:O J):G->J|0=>0|j+1=>O5 l j+l.getD j 0
def It(l:O J):G->G|0=>0|k+1=>if decide (l.getD (k+1) 0>l.getD (It l k) 0)=I then k+1 else It l k
def LH(H:MH):Bi->MV->R MV| .len,v=>BW H ((LF H v).map λl=> .int l.length)| .list,v=>(BW H<|LF H v).bind newList| .tuple,v=>(BW H<|LF H v).bind Gw| .all,.ref i=>(BW H<|(H[i]?.bind AK.Cc).bind Ju).bind λl H=> .ok (.bool<|l.all id) H| .any,.ref i=>(BW H<|(H[i]?.bind AK.Cc).bind Ju).bind λl H=> .ok (.bool<|l.any id) H| .sum,.ref i=>(BW H<|(H[i]?.bind AK.Cc).bind Dm).bind λl H=> .ok (.int<|O5 l l.length) H| .max _,.tup l=>BW H ((Dm l).bind λl=>if 0<l.length then V (.int<|l.getD (It l<|l.length-1) 0)else C)| .int,.bool b=> .ok (.int<|if b then 1 else 0) H|_,_=> .bad
def Rh(H:MH)(i:G)(l:O MV):LM->O MV->R MV| .append,[v]=>if l.length<Bj then .ok .none (H.set i<|.list T<|l++[v])else .bad| .extend _,[v]=>(BW H<|LF H v).bind λm H=>if l.length+m.length<=Bj then .ok .none (H.set i<|.list T<|l++m)else .bad| .pop,[]=>(BW H l.getLast?).bind λv H=> .ok v<|H.set i<|.list T l.dropLast| .pop,[.int k]=>if k=0 then(BW H l[0]?).bind λv H=> .ok v<|H.set i<|.list T<|l.drop 1 else .bad| .reverse,[]=> .ok .none (H.set i<|.list T l.reverse)|_,_=> .bad
abbrev CF:=G->O MV->MH->R MV
section
variable(P:Code)(C:CF)(N:AE)
inductive MK where
 |lm(m:LM)(i:G)
 |fn(f:G)
instance:CK MK:=⟨.fn 0⟩
def MK.ctorIdx(x:MK):G:= @MK.casesOn (λZ=>G) x (λZ Z=>0) λZ=>1
def kindAt(H:MH)(k n i:G):AK->AO MK| .list T _=>if n<=1 then(P.lm k).map λm=> .lm m i else AI| .inst c d=>(H[d]?.bind<|AK.Px 0).bind λa=>if c≠P.Et/\Cd (.str k) a=AI then(P.Fd c k).map .fn else AI|_=>AI
def MW(H:MH)(o:MV)(k n:G):AO MK:=match o with| .ref i=>H[i]?.bind (kindAt P H k n i)|_=>AI
def J_(m:MK)(o:MV)(a:O MV)(H:MH):R MV:=match m with| .lm m i=>(BW H<|H[i]?.bind AK.KD).bind λl H=>Rh H i l m a| .fn f=>C f (o::a) H
def KR(c:G)(a:O MV)(H:MH):R MV:=if c=P.Et then .bad else(BW H<|P.init c).bind λf Z=>(C f (.ref (H.length+1)::a)<|H++[.dict T [],.inst c H.length]).bind λv b=>if FT v=I then .ok (.ref<|H.length+1) b else .bad
def cut(a:Loc):Loc:=λy=>if y<1000 then a y else AI
def FH(a:Loc):O G->O MV->AO Loc|[],[]=>V a|x::f,v::g=>FH (upd a x v) f g|_,_=>AI
def DR(b:Loc)(a:O G)(c:AL)(v:MV):AO Loc:=match c,a,v with|T,[x],v=>V (upd b x v)|I,a,.tup l=>FH b a l|_,_,_=>AI
inductive Src where
 |seq(l:O MV)
 |lst(i:G)
 |DU(i:G)
instance:CK Src:=⟨.seq []⟩
def Src.ctorIdx(x:Src):G:= @Src.casesOn (λZ=>G) x (λZ=>0) (λZ=>1) λZ=>2
def Src.Wa:Src->AL| .DU _=>I|_=>T
def G1(a b:J):O MV:=(G_ (b-a).toNat).map λ(j:G)=>MV.int<|a+j
def JZ(a b:J):O MV:=(G_ (a-b).toNat).map λ(j:G)=>MV.int<|a-j
def EU(H:MH):IK->O MV->AO Src| .val,[.tup l]=>V (.seq l)| .val,[.ref i]=>(H[i]?.bind AK.Cc).map λZ=> .lst i| .range,[.int n]=>if-16777216<=n/\n<=16777216 then V (.seq<|G1 0 n)else AI| .range,[.int a,.int b]=>if 0<=a/\a<=16777216/\-16777216<=b/\b<=16777216 then V (.seq<|G1 a b)else AI| .range,[.int a,.int b,.int c]=>if-1<=a/\a<=16777216/\b= -1/\c= -1 then V (.seq<|JZ a b)else AI| .enum _,[.ref i]=>(H[i]?.bind AK.Cc).map λZ=> .DU i|_,_=>AI
def NI(f:MV->MH->R (AO MV)):O MV->MH->R (O MV)|[],H=> .ok [] H|v::a,H=>(f v H).bind λr FV=>(NI f a FV).bind λb Ip=> .ok (r.toList++b) Ip
def GZ(f:MV->MH->R (AO MV))(a:AL)(i:G):G->G->MH->R (O MV)|0,_,_=> .bad|n+1,j,H=>(BW H<|H[i]?.bind AK.Cc).bind λl H=>match l[j]? with|V v=>(f (if a then .tup [.int j,v]else v) H).bind λr FV=>(GZ f a i n (j+1) FV).bind λb Ip=> .ok (r.toList++b) Ip|AI=> .ok [] H
def U8(N:G)(f:MV->MH->R (AO MV))(a:AL):Src->MH->R (O MV)| .seq l,H=>NI f l H| .lst i,H=>GZ f T i N 0 H| .DU i,H=>if a=T then .bad else GZ f I i N 0 H
def R.ME{a:Type}:R a->R a| .exc _ _=> .bad|r=>r
def Cw:MV->MH->R AL| .bool b,H=> .ok b H|_,_=> .bad
def mkPairs:O MV->AO (O<|MV×MV)|[]=>V []|k::v::r=>(mkPairs r).map ((k,v)::·)|_=>AI
def ft(e:MV×MV):AL:=match e.1 with| .int _=>I|_=>T
def iF(e:MV×MV):AL:=match e.1 with| .tup l=>(Dm l).isSome|_=>T
def Nl(c:O MV):AO<|O<|MV×MV:=(mkPairs c).bind λa=>if a.length<=15/\(a.all ft||a.all iF)=I then V (a.foldl (λd b=>EH b.1 b.2 d) [])else AI
mutual noncomputable def mE:CE->Loc->MH->R MV| .con v,_,H=> .ok v H| .loc x,ρ,H=>BW H (ρ x)| .glob g,_,H=>BW H (P.glob g)| .bin l a b,ρ,H=>(mE a ρ H).bind λx H=>(mE b ρ H).bind λy H=>Mz H l x y| .not a,ρ,H=>(mE a ρ H).bind λx H=>(Cw x H).bind λb H=> .ok (.bool<|!b) H| .bool k es,ρ,H=>(ER k es ρ H).bind λb H=> .ok (.bool b) H| .cmp a j bs,ρ,H=>(mE a ρ H).bind λx H=>(HJ x j bs ρ H).bind λb H=> .ok (.bool b) H| .ite t a b,ρ,H=>(mE t ρ H).bind λx H=>(Cw x H).bind λc H=>if c then mE a ρ H else mE b ρ H| .list es,ρ,H=>(CN es ρ H).bind λvs H=>newList vs H| .tup es,ρ,H=>(CN es ρ H).bind λvs H=>Gw vs H| .dict kvs,ρ,H=>(CN kvs ρ H).bind λvs H=>(BW H<|Nl vs).bind λds H=>alloc (.dict T ds) H| .attr o k,ρ,H=>(mE o ρ H).bind λx H=>Ml P H x k| .sub o i,ρ,H=>(mE o ρ H).bind λx H=>(mE i ρ H).bind λy H=>EA H x y| .VD o a,ρ,H=>(mE o ρ H).bind λx H=>(mE a ρ H).bind λy H=>Qd H x y| .ZL o b,ρ,H=>(mE o ρ H).bind λx H=>(mE b ρ H).bind λy H=>R6 H x y| .EK f h,ρ,H=>(CN h ρ H).bind λvs H=>C f vs H| .callC c h,ρ,H=>(CN h ρ H).bind λvs H=>KR P C c vs H| .E8 b a,ρ,H=>(mE a ρ H).bind λv H=>LH H b v| .BA o k h,ρ,H=>(mE o ρ H).bind λx H=>(BW H<|MW P H x k h.length).bind λm H=>(CN h ρ H).bind λvs H=>J_ C m x vs H| .UI o,ρ,H=>(mE o ρ H).bind λx H=>ZU H x| .comp n xs p k src HC,ρ,H=>(CN src ρ H).bind λvs H=>(BW H<|EU H k vs).bind λd H=>(U8 N (λv H=>((BW H<|DR (cut ρ) xs p v).bind λC2 H=>(ER I HC C2 H).bind λc H=>if c then(mE n C2 H).bind λr H=> .ok (V r) H else .ok AI H).ME) p d H).bind newList noncomputable def CN:O CE->Loc->MH->R (O MV)|[],_,H=> .ok [] H|e::es,ρ,H=>(mE e ρ H).bind λv H=>(CN es ρ H).bind λvs H=> .ok (v::vs) H noncomputable def ER:AL->O CE->Loc->MH->R AL|k,[],_,H=> .ok k H|k,e::es,ρ,H=>(mE e ρ H).bind λv H=>(Cw v H).bind λb H=>if b=k then ER k es ρ H else .ok b H noncomputable def HJ:MV->O EG->O CE->Loc->MH->R AL|x,[l],[b],ρ,H=>(mE b ρ H).bind λy H=>M' l x y H|x,l::j,b::bs,ρ,H=>(mE b ρ H).bind λy H=>(M' l x y H).bind λc H=>if c then HJ y j bs ρ H else .ok T H|_,_,_,_,_=> .bad end
def Nq(t:Loc->MH->R AL)(b:Loc->MH->RS):G->Loc->MH->RS|0,_,_=> .bad|n+1,a,H=>(t a H).then a λc H=>if c then(b a H).go.seq (Nq t b n)else .ok .next a H
def Hv(c:O G)(d:AL)(b:Loc->MH->RS):O MV->Loc->MH->RS|[],a,H=> .ok .next a H|v::f,a,H=>(BW H<|DR a c d v).then a λa H=>(b a H).go.seq<|Hv c d b f
def F_(c:O G)(d:AL)(b:Loc->MH->RS)(e:AL)(i:G):G->G->Loc->MH->RS|0,_,_,_=> .bad|n+1,j,a,H=>(BW H<|H[i]?.bind AK.Cc).then a λl H=>match l[j]? with|V v=>(BW H<|DR a c d<|if e then .tup [.int j,v]else v).then a λa H=>(b a H).go.seq<|F_ c d b e i n<|j+1|AI=> .ok .next a H
def forR(d:O G)(c:AL)(b:Loc->MH->RS):Src->Loc->MH->RS| .seq l,a,H=>Hv d c b l a H| .lst i,a,H=>F_ d c b T i N 0 a H| .DU i,a,H=>if c=T then .bad else F_ d c b I i N 0 a H
end
section
variable(P:Code)(C:AL->CF)(N:AE)
mutual noncomputable def mS:CS->AL->Loc->MH->RS| .expr e,rz,ρ,H=>(mE P (C rz) N e ρ H).then ρ λZ H=> .ok .next ρ H| .asg x e,rz,ρ,H=>(mE P (C rz) N e ρ H).then ρ λv H=> .ok .next (upd ρ x v) H| .FP xs e,rz,ρ,H=>(mE P (C rz) N e ρ H).then ρ λv H=>(BW H<|DR ρ xs I v).then ρ λρ H=> .ok .next ρ H| .Fi o k e,rz,ρ,H=>(mE P (C rz) N e ρ H).then ρ λv H=>(mE P (C rz) N o ρ H).then ρ λx H=>(BW H<|PN P H x k v).then ρ λH Z=> .ok .next ρ H| .Ka o i e,rz,ρ,H=>(mE P (C rz) N e ρ H).then ρ λv H=>(mE P (C rz) N o ρ H).then ρ λx H=>(mE P (C rz) N i ρ H).then ρ λk H=>(BW H<|ZZ H x k v).then ρ λH Z=> .ok .next ρ H| .ifs t b o,rz,ρ,H=>(mE P (C rz) N t ρ H).then ρ λv H=>(Cw v H).then ρ λc H=>if c then CP b rz ρ H else CP o rz ρ H| .JY t b,rz,ρ,H=>Nq (λρ H=>(mE P (C rz) N t ρ H).bind Cw) (λρ H=>CP b rz ρ H) N ρ H| .Jj xs g k src b,rz,ρ,H=>(CN P (C rz) N src ρ H).then ρ λvs H=>(BW H<|EU H k vs).then ρ λd H=>forR N xs g (λρ H=>CP b rz ρ H) d ρ H| .cont,_,ρ,H=> .ok .cont ρ H| .ret e,rz,ρ,H=>(mE P (C rz) N e ρ H).then ρ λv H=> .ok (.ret v) ρ H| .raise a b c,rz,ρ,H=>if rz=T then .bad else(CN P (C rz) N [a,b,c] ρ H).then ρ λvs H=>ko ρ H vs| .try b x h,rz,ρ,H=>match CP b rz ρ H with| .exc e ρ H=>(CP h T (upd ρ x<|.ref<|H.length+1)<|H++[.dict T [(.str P.DX.1,e.why),(.str P.DX.2.1,e.fn),(.str P.DX.2.2,e.at_)],.inst P.Et H.length]).calm| .ok f ρ H=> .ok f ρ H| .bad=> .bad noncomputable def CP:O CS->AL->Loc->MH->RS|[],_,ρ,H=> .ok .next ρ H|s::j,rz,ρ,H=>(mS s rz ρ H).seq λρ H=>CP j rz ρ H end
end
structure Fn where
 params:O G
 body:O CS
instance:CK Fn:=⟨⟨[],[]⟩⟩
def RS.out:RS->R MV| .ok (.ret v) _ H=> .ok v H| .ok .next _ H=> .ok .none H| .ok .cont _ _=> .bad| .exc x _ H=> .exc x H| .bad=> .bad
def BR(P:Code)(F:G->AO Fn)(N:G):G->AL->CF|0=>λZ Z Z Z=> .bad|d+1=>λc f a H=>(BW H<|F f).bind λb H=>(BW H<|FH (λZ=>C) b.params a).bind λe H=>(CP P (BR P F N d) N b.body c e H).out
theorem B6(h:Bm a b=I):a<=b:=O2 h
theorem lQ(h:0<n):n-1-l<n:=CH (FJ _ _)<|Xo h
theorem hZ{n l:G}(h:l<n):(n:J)-1-l=((n-1-l:G):J):=by rw[U (QW<|QA h)<|U (QW<|gZ<|Nat.zero_lt_of_lt h) ?_];rfl
theorem nA(c:b<a)(f:n=a-b)(d:D=a-1):D-b<n:=by rw[U f<|U d<|Nat.sub_lt_sub_right (QA c)<|Xo c]
theorem aaZ(d:b<a)(c:D=a-1):b<=D:=c▸QA d
theorem abc(d:2000000<=N)(h:a<=K)(c:Bm (K+1) 2000000=I):a-b<N:=CH (FJ _ _)<|CH h<|CQ (B6 c) d
theorem aaC:(if a<b then b-a else 0)=((b-a).toNat:J):=by rw[Ao (λh:a<b=>?_) λh=>?_,U (AM h)<|(VS<|fY<|UZ h).symm];·rw[U (AS h)<|U (Int.toNat_eq_zero.mpr<|Int.sub_nonpos_of_le<|Gn.mp h) ?_];rfl
theorem g_{k:J}{n:G}{a b:Prop}(h:n<=16777216)(q:(0<=k/\a/\k<n)\/(k<0/\-(n:J)<=k/\b)): -2^63<=k/\k<2^63:=by rw[Cz q (λq=>?_) λq=>?_,⟨Fm ((dc Y)) q.1,lN q.2.2<|Fm (DM.mpr h)<|(dc Y)⟩,⟨Fm ((dc Y))<|Fm (Int.neg_le_neg<|DM.mpr h) q.2.1,Wn q.1<|(dc Y)⟩]
theorem v_{x:J}{n m:G}(h:0<x/\x<n)(b:n.ble m=I):x.natAbs<m:=Du.mp<|by rw[U (Int.natAbs_of_nonneg<|UZ h.1)<|lN h.2<|DM.mpr<|B6 b]
end
section
open PySem(Pos Str Scope NameKind Expr Stmt Const Operator UnaryOp BoolOp CmpOp Comprehension ExceptHandler Arguments Arg Program)
structure CT where
 «strs»:O Am
 Ng:O<|Am×G
 PF:O<|Am×G
 Py:O<|Am×G
 exc:Am
instance:CK CT:=⟨by constructor<;>exact default⟩
def TU(x:Am):O Am->G->AO G|[],_=>C|y::a,n=>if x==y then V n else TU x a (n+1)
def CT.str(T:CT)(x:Am):AO G:=TU x T.strs 0
abbrev VM:=O<|Am×G
def cH(T:CT):Const->AO MV| .none=>V .none| .bool b=>V (.bool b)| .int i=>V (.int i)| .str s=>(T.str s).map .str|_=>C
def isVar(sc:Bt)(x:Am):AL:= !(x==("__debug__":Am))&&match sc.names.lookup x with|V .local=>I|V .cell=>I|V .free=>I|_=>T
def F5(sc:Bt)(x:Am):AL:= !(x==("__debug__":Am))&&sc.names.lookup x==V .globalImplicit
def YK(T:CT)(sc:Bt)(a:VM)(x:Am):AO CE:=if isVar sc x then(a.lookup x).map .loc else if F5 sc x then(T.Py.lookup x).map .glob else C
def Sr:Operator->AO DW| .Add=>V .add| .Sub=>V .sub| .Mult=>V .mul| .FloorDiv=>V .fdiv| .Mod=>V (.fmod ())|_=>C
def sy:CE->CE->AO CE| .con (.int a),.con (.int b)=>if a=2/\b=31 then V (.con<|.int 2147483648)else C|_,_=>C
def UR(op:Operator)(a b:CE):AO CE:=match op with| .Pow=>sy a b|op=>(Sr op).map λo=> .bin o a b
def Hf:CmpOp->EG| .Eq=> .eq| .NotEq=> .ne| .Lt=> .lt| .LtE=> .le| .Gt=> .gt| .GtE=> .ge| .Is=> .is| .IsNot=> .PV| .In=> .isin| .NotIn=> .MT ()
def YU:O<|Am×Bi:=[("len",.len),("list",.list),("tuple",.tuple),("all",.all),("any",.any),("sum",.sum),("max",.max ()),("int",.int)]
def SA(x:Am):AO Bi:=YU.lookup x
def Av{c d:Type}(f:c->AO d):O c->AO (O d)|[]=>V []|a::r=>(f a).bind λb=>(Av f r).map λe=>b::e
def GK(sc:Bt)(a:VM):Expr->AO G| .Name x _=>if isVar sc x then a.lookup x else C|_=>C
def IJ(sc:Bt)(a:VM):Expr->AO (O G×AL)| .Name x p=>(GK sc a<|.Name x p).map λn=>([n],T)| .Tuple f _ _=>(Av (GK sc a) f).map λb=>(b,I)|_=>C
def Kw:Expr->O Am| .Name n _=>[n]|_=>[]
def Js:Expr->O Am| .Tuple a _ _=>a.flatMap Kw|e=>Kw e
def JH(a:VM):O (Am×IQ)->G->VM|[],_=>[]|(x,.local)::r,n=>(x,n)::JH a r (n+1)|(x,.free)::r,n=>(match a.lookup x with|V k=>if k<1000 then(x,k)::JH a r (n+1)else JH a r (n+1)|C=>JH a r (n+1))|_::r,n=>JH a r (n+1)
def e_:CE->AO CE| .con (.int i)=>V (.con<|.int<|-i)|_=>C
def PU:Expr->AL| .Call (.Name _ _) [] [] _=>T|_=>I
def YQ:Expr->AO (Am×Pos×O Expr×Pos)| .Call (.Name f p) a [] q=>V (f,p,a,q)|_=>C
def srcOf(sc:Bt)(e:Expr):IK×O Expr:=((YQ e).bind λx=>if F5 sc x.1&&x.1=="range"then V (.range,x.2.2.1)else if F5 sc x.1&&x.1=="enumerate"then V (.enum (),x.2.2.1)else C).getD (.val,[e])
def Lm{a:Type}:O (AO a)->O a->AO (O a)|[],[]=>V []|V k::f,v::g=>(Lm f g).map λr=>k::v::r|_,_=>C
def one?:O CE->AO CE|[c]=>V c|_=>C
def Zc(T:CT)(f:Am)(a:O CE):AO CE:=match T.Ng.lookup f with|V k=>V (.EK k a)|C=>match T.PF.lookup f with|V k=>V (.callC k a)|C=>(SA f).bind λb=>(one? a).map λc=> .E8 b c
def kr(sc:Bt)(a:VM)(Bw:Bt)(D3:VM)(EF:Expr):AL:=decide (Bw.kind= .function)&&((Js EF).all (λx=>Bw.names.lookup x==V .local)&&(Bw.names.all (λx=>x.2 != .cell&&(Bw.names.lookup x.1==V x.2&&(x.2 != .free||(sc.names.lookup x.1==V .cell||sc.names.lookup x.1==V .free))))&&(D3.all (λp=>(Bw.names.lookup p.1==V .local&&decide (1000<=p.2))||(Bw.names.lookup p.1==V .free&&(a.lookup p.1==V p.2&&decide (p.2<1000))))&&(decide ((Bw.names.map (·.1)).Nodup)&&decide (D3.Pairwise λx y=>x.2≠y.2)))))
def Yj:Expr->AL| .UnaryOp .USub (.Constant (.int i) _ _) _=>decide (i=1)|_=>T
def cE (d : CT) : G →  Bt → VM → Expr → AO CE
 | 0, _, _, _ => C
 | n + 1, sc, g,  e => match e with
   | .Constant c _ _ => (cH d c).map .con
   | .Name x _ => YK d sc g x
   | .BinOp l w r  _ => (cE d n sc g l).bind  fun a => (cE d n sc g r).bind  fun b => UR w a  b
   | .UnaryOp .USub x _ => (cE d n sc g x).bind  e_
   | .UnaryOp .Not x _ => (cE d n sc g x).map  .not
   | .BoolOp w p _   => if p.isEmpty  then C else  (Av (cE d n sc g)  p).map  fun j =>  .bool (match w with  | .And => I |  .Or => T)  j
   | .Compare a q D _    => if q.length   ≠ D.length  then C else  (cE d n sc g a).bind  fun x => (Av (cE d n sc g)  D).map  fun H =>  .cmp x (q.map   Hf) H
   | .IfExp t a b _ => (cE d n sc g t).bind  fun x => (cE d n sc g a).bind  fun y => (cE d n sc g b).map  fun z => .ite x y z
   | .List p _  => (Av (cE d n sc g)  p).map  .list
   | .Tuple p _  _ => (Av (cE d n sc g)  p).map  .tup
   | .Dict E N _   => if 15 < E.length  then C else  (Lm E N).bind   fun v =>   (Av (cE d n sc g)  v).map   .dict
   | .Attribute o m _ => if PU o = T then  C else  (cE d n sc g o).bind  fun x => (d.str m).map fun k => .attr x k
   | .Subscript o (.Slice (V a)  C C _)   _ => (cE d n sc g o).bind  fun x => (cE d n sc g a).map  fun y => .VD x y
   | .Subscript o (.Slice C (V b)   C _)  _ => (cE d n sc g o).bind  fun x => (cE d n sc g b).map  fun y => .ZL x y
   | .Subscript o (.Slice C C (V s)    _) _ => if Yj s = I then  (cE d n sc g o).map  .UI else C
   | .Subscript _ (.Slice _ _ _ _) _ => C
   | .Subscript o i _ => (cE d n sc g o).bind  fun x => (cE d n sc g i).map  fun y => .sub x y
   | .Call (.Name f _) h []    _ => if F5 sc f then (Av (cE d n sc g)  h).bind    fun j =>
       Zc d f j else  C
   | .Call (.Attribute o m u)    h []    A =>   if PU o = T ∨  25 < h.length    ∨ (u.endLine    == A.line)   = T then  C else  (cE d n sc g o).bind  fun x => (d.str m).bind fun k => (Av (cE d n sc g)  h).map    fun j =>  .BA x k j
   | .ListComp B [⟨EF,   iter, ifs, 0⟩] Bw _ =>
       let D3 := JH g Bw.names  1000
       if kr sc g Bw  D3 EF = T then  C else
       (IJ Bw D3 EF).bind fun F =>  (Av (cE d n sc g)  (srcOf sc iter).2).bind fun src => (Av (cE d n Bw D3) ifs).bind fun j =>  (cE d n Bw D3 B).map   fun c =>
         .comp c F.1  F.2  (srcOf sc iter).1 src j
   | _ => C
def We:Expr->AL| .Tuple a _ _=>a.all (PySem.constantsAlone 8)&& !a.all (PySem.foldedForSure 8)|_=>T
def cS(T:CT):G->Bt->VM->Fe->AO CS|0,_,_,_=>C|n+1,sc,f,s=>match s with| .Expr (.ListComp _ _ _ _) _=>C| .Expr e _=>(cE T n sc f e).map .expr| .Assign [.Name x p] e _=>(GK sc f<|.Name x p).bind λk=>(cE T n sc f e).map λc=> .asg k c| .Assign [.Tuple j _ _] e _=>if We e=I\/¬(Js<|.Tuple j 0 default).Nodup then C else(Av (GK sc f) j).bind λl=>(cE T n sc f e).map λc=> .FP l c| .Assign [.Attribute o m _] e _=>(cE T n sc f o).bind λx=>(T.str m).bind λk=>(cE T n sc f e).map λc=> .Fi x k c| .Assign [.Subscript o (.Slice _ _ _ _) _] _ _=>C| .Assign [.Subscript o i _] e _=>(cE T n sc f o).bind λx=>(cE T n sc f i).bind λy=>(cE T n sc f e).map λc=> .Ka x y c| .If t b o _=>(cE T n sc f t).bind λc=>(Av (cS T n sc f) b).bind λb=>(Av (cS T n sc f) o).map λo=> .ifs c b o| .While t b [] _=>(cE T n sc f t).bind λc=>(Av (cS T n sc f) b).map λb=> .JY c b| .For EF iter b [] _=>(IJ sc f EF).bind λd=>(Av (cE T n sc f) (srcOf sc iter).2).bind λsrc=>(Av (cS T n sc f) b).map λb=> .Jj d.1 d.2 (srcOf sc iter).1 src b| .Continue _=>V .cont| .Return C _=>V (.ret<|.con .none)| .Return (V e) _=>(cE T n sc f e).map .ret| .Raise (V<|.Call (.Name x _) [a,b,c] [] _) C _=>if F5 sc x&&x==T.exc then(cE T n sc f a).bind λa=>(cE T n sc f b).bind λb=>(cE T n sc f c).map λc=> .raise a b c else C| .Try (NJ::b) [.ExceptHandler (V<|.Name x _) (V y) (g::h) _] [] [] _=>if F5 sc x&&x==T.exc&&sc.names.lookup y==V .local then(GK sc f<|.Name y default).bind λk=>(Av (cS T n sc f)<|NJ::b).bind λb=>(Av (cS T n sc f)<|g::h).map λh=> .try b k h else C|_=>C
def numbered:O (Am×IQ)->G->VM|[],_=>[]|(x,.globalImplicit)::r,n=>numbered r n|(x,_)::r,n=>(x,n)::numbered r (n+1)
def Tv (T : CT) (c :      Arguments) (body : O Fe)  (sc : Bt) : AO Fn :=
 if (c.posonlyargs.isEmpty      && c.vararg.isNone      && c.kwonlyargs.isEmpty      && c.kwarg.isNone      && sc.names.all fun x => x.2 != .free) = I ∧  (c.args.map      (·.arg)).Nodup ∧ (sc.names.map (·.1)).Nodup ∧ (numbered sc.names 0).Pairwise (fun x y => x.2 ≠ y.2) then
   let d :=  numbered sc.names 0
   (Av (fun (a : Arg) => if isVar sc a.arg then d.lookup  a.arg else C)  c.args).bind      fun e =>  (Av (cS T 60 sc d)  body).map fun b => ⟨e,  b⟩
 else C
open PySem(Str Scope NameKind Expr Stmt Const Operator UnaryOp BoolOp CmpOp Comprehension ExceptHandler Arguments Arg Program)
def defsOf:O Fe->O (Arguments×O Fe×Bt)|[]=>[]| .FunctionDef _ a b _ _ _ sc _ _ _::r=>(a,b,sc)::defsOf r| .ClassDef _ _ _ b _ _ _ _ _ _ _::r=>(b.filterMap λ| .FunctionDef _ a b _ _ _ sc _ _ _=>V (a,b,sc)|_=>C)++defsOf r|_::r=>defsOf r
def codeOf(T:CT)(p:Hl):O<|AO Fn:=(defsOf p.main.body).map λx=>Tv T x.1 x.2.1 x.2.2
theorem nn{b:Type}{c:b}{G:Prop}(h:(C:AO b)=V c):G:=(by cases h)
theorem BQ{d b:Type}{o:AO d}{f:d->AO b}{c:b}{G:Prop}(h:o.bind f=V c)(k:∀a,o=V a->f a=V c->G):G:=by induction o using C4 with|none=>rw[nn h]|some a=>rw[k a Y h]
theorem Bo{d b:Type}{o:AO d}{f:d->b}{c:b}{G:Prop}(h:o.map f=V c)(k:∀a,o=V a->f a=c->G):G:=by induction o using C4 with|none=>rw[nn h]|some a=>rw[k a Y<|AN h]
theorem C0{d g:Type}{f:d->AO g}{a:d}{r:O d}{c:O g}{G:Prop}(h:Av f (a::r)=V c)(k:∀b i,f a=V b->Av f r=V i->c=b::i->G):G:=BQ h λb e h=>Bo h λi j h=>k b i e j h.symm
theorem Kp{d:Type}{p:Prop}{i:Dh p}{b:AO d}{c:d}{G:Prop}(h:(if p then C else b)=V c)(k:¬p->b=V c->G):G:=by
 by_cases q:p;·rw[AM q]at h;rw[nn h]
 ·rw[AS q]at h;rw[k q h]
theorem CB{d:Type}{p:Prop}{i:Dh p}{b:AO d}{c:d}{G:Prop}(h:(if p then b else C)=V c)(k:p->b=V c->G):G:=by
 by_cases q:p;·rw[AM q]at h;rw[k q h]
 ·rw[AS q]at h;rw[nn h]
theorem Ge{H:MH}{i:G}{l:O MV}{a:Prop}(h:H[i]?.bind AK.Cc=V l)(k:∀fz,H[i]?=V (.list fz l)->a):a:=BQ h λo e q=>by induction o using AK.casesOn with|list fz m=>(replace q:=AN q;clear h;subst q);rw[k fz e]|_=>rw[nn q]
theorem TN{H:MH}{i:G}{l:O MV}{a:Prop}(h:H[i]?.bind AK.KD=V l)(k:H[i]?=V (.list T l)->a):a:=BQ h λo e q=>by induction o using AK.casesOn with|list b m=>induction b using BG<;>cases q;rw[k e]|_=>rw[nn q]
theorem Wr{n:G}{H:MH}{i:G}{l:O (MV×MV)}{a:Prop}(h:H[i]?.bind (AK.Px n)=V l)(k:H[i]?=V (.dict T l)->Df n l=I->a):a:=BQ h λo e q=>by induction o using AK.casesOn with|dict c m=>(induction c using BG with|true=>rw[nn q]|false=>rw[CB q λb q=>by(replace q:=AN q;clear h;subst q);rw[k e b]])|_=>rw[nn q]
theorem wh{n:G}{H:MH}{i:G}{l:O (MV×MV)}{a:Prop}(h:H[i]?.bind (AK.dD n)=V l)(k:∀fz,H[i]?=V (.dict fz l)->Df n l=I->a):a:=BQ h λo e q=>by induction o using AK.casesOn with|dict fz m=>rw[CB q λb q=>by(replace q:=AN q;clear h;subst q);rw[k fz e b]]|_=>rw[nn q]
theorem bo{H:MH}{i:G}{c:G×G}{d:Prop}(h:H[i]?.bind AK.P9=V c)(k:H[i]?=V (.inst c.1 c.2)->d):d:=BQ h λo e q=>by induction o using AK.casesOn with|inst a b=>(replace q:=AN q;clear h;subst q);rw[k e]|_=>rw[nn q]
theorem jJ{a b p}{G:Prop}(h:Oc a b=V p)(k:a= .int p.1->b= .int p.2->G):G:=by induction a using MV.casesOn with|int a=>(induction b using MV.casesOn with|int b=>(replace h:=AN h;subst h);rw[k Y Y]|_=>rw[nn h])|_=>rw[nn h]
theorem jR{a b p}{G:Prop}(h:eQ a b=V p)(k:a= .ref p.1->b= .int p.2->G):G:=by induction a using MV.casesOn with|ref a=>(induction b using MV.casesOn with|int b=>(replace h:=AN h;subst h);rw[k Y Y]|_=>rw[nn h])|_=>rw[nn h]
theorem VA(h:FT a=I):a= .none:=by induction a using MV.casesOn with|none=>rfl|_=>rw[(by cases h)]
theorem nb{G:Prop}(h:T=I):G:=(by cases h)
theorem Ef{a b}{G:Prop}(h:(a&&b)=I)(k:a=I->b=I->G):G:=k (DN.mp h).1 (DN.mp h).2
theorem hide{G:Prop}(h:∀g:Prop,(G->g)->g):G:=h G id
section
theorem t9:mE P f N (.not a) g H=(mE P f N a g H).bind λx H=>(Cw x H).bind λb H=> .ok (.bool<|!b) H:=Y
theorem bH:mE P f N (.cmp a c h) g H=(mE P f N a g H).bind λx H=>(HJ P f N x c h g H).bind λb H=> .ok (.bool b) H:=Y
theorem k6:mE P f N (.ite t a b) g H=(mE P f N t g H).bind λx H=>(Cw x H).bind λc H=>if c then mE P f N a g H else mE P f N b g H:=Y
theorem nD:mE P a N (.dict f) g H=(CN P a N f g H).bind λb H=>(BW H<|Nl b).bind λc H=>alloc (.dict T c) H:=Y
theorem mF:CN P a N (e::g) f H=(mE P a N e f H).bind λv H=>(CN P a N g f H).bind λb H=> .ok (v::b) H:=Y
end
section
theorem wI:mS P a N (.asg x e) g f H=(mE P (a g) N e f H).then f λv H=> .ok .next (upd f x v) H:=Y
theorem mP:mS P a N (.ifs t b o) g f H=(mE P (a g) N t f H).then f λv H=>(Cw v H).then f λc H=>if c then CP P a N b g f H else CP P a N o g f H:=Y
theorem abi:mS P a N (.try b x h) i g H=match CP P a N b i g H with| .exc e g H=>(CP P a N h T (upd g x<|.ref<|H.length+1)<|H++[.dict T [(.str P.DX.1,e.why),(.str P.DX.2.1,e.fn),(.str P.DX.2.2,e.at_)],.inst P.Et H.length]).calm| .ok f g H=> .ok f g H| .bad=> .bad:=Y
end
end
section
open PySem PySem.W PySem.Calls PyProof.Rows
instance:CK HQ:=⟨⟨λZ Z=>0,{strHash:=λZ=>0,shareClass:=λZ=>0,mergeTok:=id,idOf:=λZ=>0,idOfShared:=λZ Z=>0,followText:=λZ=>T,idOfImm:=λZ=>0}⟩⟩
instance : CK Ae := ⟨{}⟩
instance : CK Bq := ⟨{}⟩
instance:CK Model:=⟨⟨λZ=> .pure default,default,Oi⟩⟩
instance : CK Drawn := ⟨{}⟩
structure Cx where
 prog:Hl
 w:HQ
 K:Cy
 base:BC
 os:OsState
 T:CT
 P:Code
 F:G->AO Fn
 fn:G->AO AQ
 cls:G->AO AQ
 KA:O AQ
 pin:O AQ
instance:CK Cx:=⟨⟨default,Oi,default,default,default,Oi,Oi,λZ=>C,λZ=>C,λZ=>C,[],[]⟩⟩
abbrev Cx.wp(X:Cx)(p:O AQ):Cx:={X with pin:=p}
abbrev Cx.M(X:Cx):Model:=BO X.prog X.w
section
variable(S:AB Am)(μ:AB AQ)(h:BC)
mutual noncomputable def RV:MV->AX->Prop| .none,v=>v= .none| .bool b,v=>v= .bool b| .int i,v=>∃t,v= .int i t| .str k,v=>∃x t,S[k]?=V x/\v= .str x t| .tup l,v=>∃a c n,v= .ref a/\IsT h a c n/\c.size<=E0/\Ax l c.toList| .ref i,v=>∃a,μ[i]?=V a/\v= .ref a noncomputable def Ax:O MV->O AX->Prop|[],vs=>vs=[]|m::f,vs=>∃v r,vs=v::r/\RV m v/\Ax f r end
end
variable{S:AB Am}{μ ν:AB AQ}{h h':BC}
theorem Ax.nil:Ax S μ h [] []:=Y
theorem LL(e:Ax S μ h [] a):a=[]:=e
theorem JI(e:Ax S μ h (m::l) a):∃v r,a=v::r/\RV S μ h m v/\Ax S μ h l r:=e
theorem Ax.cons(a:RV S μ h m v)(b:Ax S μ h l f):Ax S μ h (m::l)<|v::f:=(DI v f Y a b)
theorem Ax.fold{R:O MV->O AX->Prop}(d:R [] [])(f:∀m v l c,RV S μ h m v->Ax S μ h l c->R l c->R (m::l) (v::c)){l}:∀{c},Ax S μ h l c->R l c:=by induction l with|nil=>intro c e;obtain rfl:=LL e;rw[d]|cons m l g=>intro c e;rw[By (JI e) λv r BL a b=>U BL ?_,f m v l r a b<|g b]
theorem Ax.length{l:O MV}{a}(x:Ax S μ h l a):a.length=l.length:=Ax.fold (R:=λl a=>a.length=l.length) Y (λZ Z Z Z Z Z e=>A_ (·+1) e) x
theorem Ax.get{l b}{j:G}{m}(x:Ax S μ h l b):l[j]?=V m->∃v,b[j]?=V v/\RV S μ h m v:=Ax.fold (R:=λl b=>∀j,l[j]?=V m->∃v,b[j]?=V v/\RV S μ h m v) (λZ e=>nn e) (λZ v Z Z a Z c j e=>by induction j using CV with|zero=>obtain rfl:=AN e;rw[(Aa v Y a)]|succ j=>rw[c j e]) x j
theorem Ax.append{l e:O MV}{d b}(x:Ax S μ h l d)(y:Ax S μ h e b):Ax S μ h (l++e)<|d++b:=Ax.fold (R:=λl d=>Ax S μ h (l++e)<|d++b) y (λZ Z Z Z a Z c=>Ax.cons a c) x
theorem Ax.drop{l:O MV}{d}(k:G)(x:Ax S μ h l d):Ax S μ h (l.drop k)<|d.drop k:=Ax.fold (R:=λl d=>∀k,Ax S μ h (l.drop k)<|d.drop k) (λk=>by induction k using CV<;>exact Ax.nil) (λZ Z Z Z a b c k=>by induction k using CV with|zero=>rw[Ax.cons a b]|succ k=>rw[c k]) x k
theorem Ax.take{l:O MV}{c}(k:G)(x:Ax S μ h l c):Ax S μ h (l.take k)<|c.take k:=Ax.fold (R:=λl c=>∀k,Ax S μ h (l.take k)<|c.take k) (λk=>by induction k using CV<;>exact Ax.nil) (λZ Z Z Z a Z b k=>by induction k using CV with|zero=>rw[Ax.nil]|succ k=>rw[Ax.cons a<|b k]) x k
theorem Ax.reverse{l:O MV}{c}(x:Ax S μ h l c):Ax S μ h l.reverse c.reverse:=Ax.fold (R:=λl c=>Ax S μ h l.reverse c.reverse) Ax.nil (λZ Z Z Z a Z b=>by rw[U I1<|U I1<|Ax.append b<|Ax.cons a Ax.nil]) x
theorem Ax.set{l}{d}(j:G){m v}(x:Ax S μ h l d)(y:RV S μ h m v):Ax S μ h (l.set j m)<|d.set j v:=Ax.fold (R:=λl d=>∀j,Ax S μ h (l.set j m)<|d.set j v) (λZ=>Ax.nil) (λZ Z Z Z a b c j=>by induction j using CV with|zero=>rw[Ax.cons y b]|succ j=>rw[Ax.cons a<|c j]) x j
def F'(h h':BC):Prop:=∀a b n,IsT h a b n->IsT h' a b n
theorem F'.refl(h:BC):F' h h:=λZ Z Z x=>x
def Bh(μ Bd:O AQ):Prop:=∀(i:G)(a:AQ),μ[i]?=V a->Bd[i]?=V a
theorem Bh.refl(a:O AQ):Bh a a:=λZ Z e=>e
theorem Bh.app(c b:O AQ):Bh c<|c++b:=λi a e=>by rw[U (Er (DP.mp e).1) ?_,e]
mutual theorem RV.mono(Gp:Bh μ Bd)(c:F' h h'):∀{m v},RV S μ h m v->RV S Bd h' m v| .none,_,x=>x| .bool _,_,x=>x| .int _,_,x=>x| .str _,_,x=>x| .tup l,_,⟨a,f,n,e,i,z,r⟩=>⟨a,f,n,e,c _ _ _ i,z,Ax.mono Gp c r⟩| .ref i,_,⟨a,e,q⟩=>⟨a,Gp _ _ e,q⟩theorem Ax.mono(Gp:Bh μ Bd)(c:F' h h'):∀{l vs},Ax S μ h l vs->Ax S Bd h' l vs|[],_,x=>by obtain rfl:=LL x;rw[Ax.nil]|_::_,_,x=>by rw[By (JI x) λv r Bf a b=>U Bf ?_,Ax.cons (RV.mono Gp c a)<|Ax.mono Gp c b]end
def HH(S:O Am)(μ:O AQ)(h:BC):O (MV×MV)->O (Am×AX)->Prop|[],a=>a=[]|(k,v)::r,a=>∃j x u t,k= .str j/\S[j]?=V x/\a=(x,u)::t/\RV S μ h v u/\HH S μ h r t
def Hz(S:O Am)(μ:O AQ)(h:BC):O (MV×MV)->O (J×AX)->Prop|[],a=>a=[]|(k,v)::r,a=>∃j u t,k= .int j/\a=(j,u)::t/\RV S μ h v u/\Hz S μ h r t
def Io(S:O Am)(μ:O AQ)(h:BC):O (MV×MV)->O (O J×AQ×AX)->Prop|[],a=>a=[]|(k,v)::r,a=>∃l c b u t,k= .tup l/\Dm l=V c/\a=(c,b,u)::t/\RV S μ h v u/\Io S μ h r t
abbrev tupK(X:Cx):HeapKind X.prog X.w<|O J:=tupleKind<|J6 X.prog X.w
def uf(X:Cx)(μ:O AQ)(h:BC)(a:AQ)(c:O<|MV×MV):Prop:=∃b,h.DictOf (strKind X.prog X.w) a b/\HH X.T.strs μ h c b
def ip(X:Cx)(μ:O AQ)(h:BC)(a:AQ)(c:O<|MV×MV):Prop:=∃b,h.DictOf (J6 X.prog X.w) a b/\Hz X.T.strs μ h c b
def fy(X:Cx)(μ:O AQ)(h:BC)(a:AQ)(c:O<|MV×MV):Prop:=∃b,h.DictOfH (tupK X) a b/\Io X.T.strs μ h c b
def RO(X:Cx)(μ:O AQ)(h:BC)(a:AQ):AK->Prop| .list _ j=>∃b n,IsL h a b n/\Ax X.T.strs μ h j b.toList/\b.size<=E0| .dict _ f=>(f.length<=1000/\∃o,h.get? a=V o/\o.cls= .type "dict")/\(Df 0 f=I->uf X μ h a f)/\(Df 1 f=I->ip X μ h a f)/\(Df 2 f=I->fy X μ h a f)| .inst c d=>∃e g i,h.get? a=V e/\X.cls c=V g/\e.cls= .ref g/\notCls e=I/\e.dict=V i/\μ[d]?=V i
theorem HH.mono{b}(c:Bh μ b)(d:F' h h'):∀{e a},HH S μ h e a->HH S b h' e a|[],_,x=>x|(_,_)::_,_,x=>by rw[Lg x λj y u t o m k g f=>(O' j y u t o m k (g.mono c d)<|HH.mono c d f)]
theorem Hz.mono{b}(c:Bh μ b)(d:F' h h'):∀{e a},Hz S μ h e a->Hz S b h' e a|[],_,x=>x|(_,_)::_,_,x=>by rw[Dz x λj u t m k g f=>(HV j u t m k (g.mono c d)<|Hz.mono c d f)]
theorem Io.mono{c}(d:Bh μ c)(f:F' h h'):∀{a e},Io S μ h a e->Io S c h' a e|[],_,x=>x|(_,_)::_,_,x=>by obtain⟨l,g,b,u,t,p,o,m,k,j⟩:=x;rw[(TF l g b u t p o m (k.mono d f)<|Io.mono d f j)]
theorem Rq{e w K} [GD K]{b:KeyKind e w K}{a i}(x:h.DictOf b a i)(d:h'.get? a=h.get? a):h'.DictOf b a i:=by rw[Ht x λo f g c r=>(Mw o f g (d.trans c) r)]
def Fc(o:Obj):Prop:=o.cls= .type "tuple"/\∃a n,o.data= .seq a n
def GY(h h':BC):Prop:=∀b o,h.get? b=V o->Fc o->h'.get? b=V o
theorem GY.t(x:GY h h'):F' h h':=λZ Z Z e=>x _ _ e<|N5 Y _ _ Y
theorem GY.refl(h:BC):GY h h:=λZ Z e Z=>e
theorem xN(x:h.DictOfH (tupK X) a i)(j:GY h h')(v:h'.get? a=h.get? a):h'.DictOfH (tupK X) a i:=by rw[KJ x λo w z k g u r q p=>(Lp o w z (v.trans k) g u r (λy m=>Dz (q y m) λf b n B d c A=>(HV f b n (j _ _ B<|N5 d b n c) d c A)) p)]
theorem RO.mono{X j a}(b:Bh μ j)(k:GY h h')(g:h'.get? a=h.get? a):∀{o:AK},RO X μ h a o->RO X j h' a o| .list _ l,x=>by rw[By x λf n i r z=>(DI f n (g.trans i) (r.mono b k.t) z)]| .dict _ _,x=>(Dx ⟨x.1.1,x.1.2.imp λZ q=>⟨g.trans q.1,q.2⟩⟩ (λz=>(x.2.1 z).imp λZ q=>⟨Rq q.1 g,q.2.mono b k.t⟩) (λz=>(x.2.2.1 z).imp λZ q=>⟨Rq q.1 g,q.2.mono b k.t⟩) λz=>(x.2.2.2 z).imp λZ q=>⟨xN q.1 k g,q.2.mono b k.t⟩)| .inst c d,x=>by rw[KJ x λm C B A y w v u p=>(Lp m C B (g.trans A) y w v u<|b _ _ p)]
theorem ZE{i w K j} [GD K] [GD j]{c:KeyKind i w K}(b:KeyKind i w j){a}(x:h.DictOf c a []):h.DictOf b a []:=by
 rw[KJ x λo g r p k q u d Z=>?_];have e:g= #[]:=by cases f:g.toList with|nil=>rw[gH.mp f]|cons=>replace d:=f▸d;cases d
 clear u d;subst e;rw[(Lp o (#[]) r p k q (λZ m=>(Array.not_mem_empty _ m).elim) .nil FC)]
theorem je{X K} [GD K]{b:KeyKind X.prog X.w K}{a}(x:h.DictOf b a []):h.DictOfH (tupK X) a []:=by
 rw[KJ x λo f p j g k q c Z=>?_];have e:f= #[]:=by cases d:f.toList with|nil=>rw[gH.mp d]|cons=>replace c:=d▸c;cases c
 clear q c;subst e;rw[(Lp o (#[]) p j g k Y (λZ m=>(Ia m).elim) FC)]
theorem RO.nil{X fz a}(x:h.DictOf (strKind X.prog X.w) a []):RO X μ h a<|.dict fz []:=by rw[G9 (id x) λo Z Z c b Z=>(Dx (LS (CJ _) o c b.1) (λZ=>(Aa ([]) x Y)) (λZ=>(Aa ([]) (ZE _ x) Y)) λZ=>(Aa ([]) (je x) Y))]
theorem RO.IE(b:g.length<=1000)(x:h.DictOf (strKind X.prog X.w) a f)(r:HH X.T.strs μ h g f):RO X μ h a<|.dict fz g:=by induction g using An with|nil=>obtain rfl:=((r:f=[]));rw[.nil x]|cons p g=>rw[G9 (id x) λo Z Z c hx Z=>dz (id r) λj Z Z Z e Z=>?_];(have no:∀n,n≠0->Df n (p::g)=I->BB:=λn d z=>by have z:(L9 p.1==n)=I:=z;rw[e]at z;rw[d (Bn.mp z).symm]);rw[(Dx (LS b o c hx.1) (λZ=>(Aa f x r)) (λz=>(no 1 ((dc Y)) z).elim) λz=>(no 2 ((dc Y)) z).elim)]
theorem RO.Pe{X fz a}{c:O (MV×MV)}{b}(d:c.length<=1000)(x:h.DictOf (J6 X.prog X.w) a b)(r:Hz X.T.strs μ h c b):RO X μ h a<|.dict fz c:=by induction c using An with|nil=>obtain rfl:=((r:b=[]));rw[.nil<|ZE _ x]|cons p c=>rw[G9 (id x) λo Z Z f hx Z=>Ht (id r) λj Z Z e Z=>?_];(have no:∀n,n≠1->Df n (p::c)=I->BB:=λn g z=>by have z:(L9 p.1==n)=I:=z;rw[e]at z;rw[g (Bn.mp z).symm]);rw[(Dx (LS d o f hx.1) (λz=>(no 0 ((dc Y)) z).elim) (λZ=>(Aa b x r)) λz=>(no 2 ((dc Y)) z).elim)]
theorem RO.ofT(d:(p::i).length<=1000)(x:h.DictOfH (tupK X) a l)(r:Io X.T.strs μ h (p::i) l):RO X μ h a<|.dict fz<|p::i:=by
 rw[G9 (id x) λo Z Z g f Z=>Ir (id r) λj Z Z Z c=>AY c λZ e Z=>?_];have b:∀n,n≠2->Df n (p::i)=I->BB:=λn k z=>by have z:(L9 p.1==n)=I:=z;rw[e]at z;rw[k (Bn.mp z).symm]
 rw[(Dx (LS d o g f.1) (λz=>(b 0 ((dc Y)) z).elim) (λz=>(b 1 ((dc Y)) z).elim) λZ=>(Aa l x r))]
theorem RO.kind(x:RO X μ h a o):∃b,h.get? a=V b/\¬Fc b:=by induction o using AK.casesOn with|list g m=>rw[By x λf n i Z Z=>(Aa _ i<|by simp [Fc])]|dict g p=>rw[x.1.2.imp λo q=>⟨q.1,λz=>by rw[z.1]at q;rw[nomatch q.2]⟩]|inst c d=>rw[KJ x λb A y k w j v u r=>(Aa b k<|by simp [Fc,j])]
theorem RO.kb(x:RO X μ h a j)(k:j.P9=C)(e:h.get? a=V o):¬∃f,o.cls= .ref f:=by
 have b:∀{T},(∃o,h.get? a=V o/\o.cls= .type T)->¬∃f,o.cls= .ref f:=λ⟨m,l,c⟩⟨f,z⟩=>by obtain rfl:=AN<|e.symm.trans l;rw[nomatch c.symm.trans z]
 induction j using AK.casesOn with|list fz p=>rw[By x λg n i Z Z=>b<|Aa _ i Y]|dict fz q=>rw[b x.1.2]|inst c d=>cases k
abbrev CW(a:O Env):O AQ:=a.filterMap (·.frame)
def V'(a h:BC)(b:O Env):Prop:=∀env∈b,env.scope.kind≠.module/\∃L o c d,env.frame=V L/\a.get? L=C/\h.get? L=V o/\o.data= .dict c d
theorem V'.fun{i h}:∀{l},V' i h l->h.FunFrames i l|[],_=>B9|e::r,x=>by rw[HD (x e<|.head _) λa L o k p g f d c=>(BX a (Fq L o g f d λj q=>by rw[PySem.Data.noConfusion<|c▸q])<|V'.fun λb m=>x b<|.tail _ m)]
def AK.fz:AK->AL| .list f _=>f| .dict f _=>f| .inst _ _=>T
def Inst(o:Obj):Prop:=∃C,o.cls= .ref C
def OJ(h:BC)(x:AQ):Prop:=∃o a,h.get? x=V o/\(o.data= .fields a/\a[2]?=V .none)/\Inst o
theorem OJ.keep{x}(p:OJ h x)(k:∀o,h.get? x=V o->Inst o->h'.get? x=V o):OJ h' x:=by rw[By p λo b e d i=>(DI o b (k o e i) d i)]
inductive St(X:Cx)(envs:O Env)(μ:O AQ)(H:MH)(s:Ae):Prop
 |mk(len:μ.length=H.length)(nd:μ.Nodup)(obj:∀(i:G)(o:AK)(a:AQ),H[i]?=V o->μ[i]?=V a->RO X μ s.heap a o)(stays:X.base.StaysIn s.heap)(new:∀(i:G)(o:AK)(a:AQ),H[i]?=V o->μ[i]?=V a->(o.fz=I/\a∈X.KA)\/X.base.get? a=C)(frs:V' X.base s.heap envs)(fl:∀a∈CW envs,a∉μ)(gens:s.gens= #[])(os:s.os=X.os)(ace:∃ν,μ=X.KA++ν)(pin:∀x∈X.pin,x∈μ/\OJ s.heap x)
theorem St.pinned(y:St X a μ H s)(m:e∈μ)(o:OJ s.heap e):St (X.wp<|e::X.pin) a μ H s:=⟨y.1,y.2,y.3,y.4,y.5,y.6,y.7,y.8,y.9,y.10,λz q=>by induction q using Cu with|head b=>rw[U b ⟨m,o⟩]|tail q=>rw[y.11 z q]⟩
theorem St.YA(y:St (X.wp<|e::X.pin) a μ H s):St X a μ H s:=⟨y.1,y.2,y.3,y.4,y.5,y.6,y.7,y.8,y.9,y.10,λz q=>y.11 z<|.tail _ q⟩
def GV(μ ex a:O AQ)(h h':BC):Prop:=∀b o,h.get? b=V o->((b∈μ->Inst o)->b∉ex->b∉a->h'.get? b=V o)/\(b∈a->b∉ex->b∉μ->∃c,h'.get? b=V {o with slots:=c})/\∃d,h'.get? b=V d
theorem GV.refl(a ex c:O AQ)(h:BC):GV a ex c h h:=λb o e=>⟨λZ Z Z=>e,λZ Z Z=>⟨o.slots,e⟩,o,e⟩
theorem GV.trans{ex l c f d}(x:GV μ ex l c f)(g:∀a∈ν,c.get? a=C)(y:GV (μ++ν) ex l f d):GV μ ex l c d:=by
 intro b o e;rw[Y' (x b o e) λv u w r=>?_];have z:b∉μ->b∉μ++ν:=λn q=>by rw[Cz (Cj.mp q) (λq=>?_) λq=>?_,n q,nn<|(g _ q)▸e]
 rw[(BX (λm k j=>(y b o<|v m k j).1 (λq=>(Cj.mp q).elim m λq=>nn<|(g _ q).symm.trans e) k j) (λm k j=>xE (u m k j) λi B=>xE ((y _ _ B).2.1 m k<|z j) λp A=>⟨p,A⟩)<|(y b w r).2.2)]
theorem GV.mono{ex ex' g}(x:GV μ ex g h h')(i:∀a∈ex,a∈ex'):GV μ ex' g h h':=λb o e=>(BX (λf d c=>(x b o e).1 f (λq=>d<|i _ q) c) (λf d c=>(x b o e).2.1 f (λq=>d<|i _ q) c)<|(x b o e).2.2)
inductive Af(X:Cx)(envs:O Env)(ex:O AQ)(μ:O AQ)(s:Ae)(Bd:O AQ)(H':MH)(s':Ae):Prop
 |mk(st:St X envs Bd H' s')(ext:∃ν,Bd=μ++ν/\∀a∈ν,s.heap.get? a=C)(keep:GV μ ex (CW envs) s.heap s'.heap)
theorem Af.refl(x:St X a μ H s):Af X a ex μ s μ H s:=⟨x,(Aa ([]) ((Ba _).symm) λZ m=>nomatch m),GV.refl _ _ _ _⟩
theorem Af.trans{X i ex d c b p k f j g}(x:Af X i ex d f c p j)(y:Af X i ex c j b k g):Af X i ex d f b k g:=by(rw[AY x.2 λν v w=>?_];subst v);(rw[AY y.2 λr u z=>?_];subst u);rw[⟨y.1,(Aa (ν++r) (Bc ..) λa m=>?_),x.3.trans w y.3⟩];rcases Cj.mp m with m|m;rw[w a m];·cases q:f.heap.get? a with|none=>rfl|some o=>rw[xE ((x.3 a o q).2.2) λA e=>?_,nn<|(z a m)▸e]
theorem Af.mono{X d ex ex' b c s e}(x:Af X d ex μ s b c e)(f:∀a∈ex,a∈ex'):Af X d ex' μ s b c e:=⟨x.1,x.2,x.3.mono f⟩
theorem Af.Lc(x:Af X a ex μ s b d f):Bh μ b:=by rw[AY x.2 λν c Z=>U c ?_,Bh.app _ _]
theorem St.aas(x:St X a μ H s)(e:s.heap.get? b=V o)(c:Fc o):b∉μ:=λm=>by obtain⟨i,g,q⟩:=TX m;have f:i<H.length:=x.1▸g;rw[AY (RO.kind<|x.3 i H[i] b (Cm f)<|by rw[U (Cm g)<|U q Y]) λk d j=>?_];replace d:=e▸d;(replace d:=AN d;subst d);rw[j c]
theorem St.Tn(x:St X a μ H s)(e:s.heap.get? b=V o)(c:Fc o):b∉CW a:=λm=>by rw[AY (I2.mp m) λj q p=>HD (x.6 j q) λZ L u v w g Z f k=>?_];replace g:=p▸g;(replace g:=AN g;subst g);replace f:=e▸f;(replace f:=AN f;subst f);rw[Om c λZ r n d=>?_,PySem.Data.noConfusion<|d▸k]
def C6(h:BC)(ex:O AQ):Prop:=∀a∈ex,∀o,h.get? a=V o->¬Fc o
theorem C6.nil:C6 h []:=λZ m=>nomatch m
theorem GV.tu(x:St X a μ H s)(k:GV μ ex (CW a) s.heap h')(d:C6 s.heap ex):GY s.heap h':=λb o e c=>(k b o e).1 (λm=>Aj m<|x.aas e c) (λm=>d b m o e c)<|x.Tn e c
theorem Af.tu(x:St X a μ H s)(y:Af X a ex μ s b d f)(c:C6 s.heap ex):GY s.heap f.heap:=y.3.tu x c
theorem Af.rv(x:St X a μ H s)(y:Af X a ex μ s b d f)(c:C6 s.heap ex)(r:RV X.T.strs μ s.heap m v):RV X.T.strs b f.heap m v:=r.mono y.Lc (y.tu x c).t
end
section
open PySem PySem.W PySem.Calls PyProof.Rows
variable{X:Cx}{envs:AB Env}{μ:AB AQ}{H:MH}{s:Ae}
theorem St.at(x:St X envs μ H s){i:G}{o:AK}(e:H[i]?=V o):∃a,μ[i]?=V a/\RO X μ s.heap a o:=by have c:=(DP.mp e).1;have b:i<μ.length:=x.1▸c;rw[(Aa (μ[i]) (Cm b)<|x.3 i o _ e<|Cm b)]
theorem St.at'(x:St X envs μ H s){i:G}{a:AQ}{o:AK}(b:μ[i]?=V a)(e:H[i]?=V o):RO X μ s.heap a o:=by rw[AY (x.at e) λZ Ho r=>?_];obtain rfl:=AN<|b.symm.trans Ho;rw[r]
theorem St.mem(x:St X envs μ H s)(m:a∈μ):∃(i:G)(o:AK),H[i]?=V o/\μ[i]?=V a/\RO X μ s.heap a o:=by obtain⟨i,c,q⟩:=TX m;have b:i<H.length:=x.1▸c;rw[(DI i (H[i]) (Cm b) (by rw[U (Cm c)<|U q Y])<|x.3 i _ _ (Cm b)<|by rw[U (Cm c)<|U q Y])]
theorem St.jQ(x:St X envs μ H s)(m:a∈μ):∃o,s.heap.get? a=V o:=by rw[By (x.mem m) λi o Z Z r=>AY r.kind λb e Z=>⟨b,e⟩]
theorem St.mR(x:St X envs μ H s){i j:G}{a:AQ}(e:μ[i]?=V a)(f:μ[j]?=V a):i=j:=by rw[xE (DP.mp e) λd q=>?_,xE (DP.mp f) λc b=>?_];have P:=lK.mp x.2;rcases Nat.lt_trichotomy i j with h|h|h;rw[Aj (q.trans b.symm)<|P i j d c h,h,Aj (b.trans q.symm)<|P j i c d h]
theorem St.N9(x:St X envs μ H s):X.base.get? s.heap.objs.size=C:=by cases q:X.base.get? s.heap.objs.size with|none=>rfl|some o=>rw[Aj (Ds<|x.4 _ _ q)<|GN _]
theorem Af.quiet:∀{X c j H s}{ex}{h}{t}{d}(x:St X c j H s)(k:∀b o,s.heap.get? b=V o->b∉ex->(b∉CW c->h.get? b=V o)/\(b∈CW c->∃B,h.get? b=V {o with slots:=B}))(D:∀a∈ex,a∉j)(F:C6 s.heap ex)(M:∀a∈ex,X.base.get? a=C)(hx:∀a∈ex,∀o,s.heap.get? a=V o->∃u,h.get? a=V u)(N:∀a∈ex,a∈CW c->∃o w y,h.get? a=V o/\o.data= .dict w y),Af X c ex j s j H {s with heap:=h,toks:=t,drawn:=d}:=by
 intros X c j H s ex h t d _ x k D F M hx N;have K:GV j ex (CW c) s.heap h:=λb o e=>by rw[(BX (λZ E I=>(k b o e E).1 I) (λJ E Z=>(k b o e E).2 J)<|Ao (λq:b∈ex=>?_) λq=>?_),hx b q o e,Ao (λl:b∈CW c=>?_) λl=>?_,xE ((k b o e q).2 l) λB z=>⟨_,z⟩,⟨o,(k b o e q).1 l⟩]
 rw[⟨⟨x.1,x.2,λi o a e1 P=>?_,λb o e=>?_,x.5,λg v=>?_,x.7,x.8,x.9,x.10,λp m=>⟨(x.11 p m).1,(x.11 p m).2.keep λo e Z=>(k p o e λq=>D p q (x.11 p m).1).1 λq=>x.7 p q (x.11 p m).1⟩⟩,(Aa ([]) ((Ba _).symm) λZ m=>nomatch m),K⟩];·have r:=x.3 i o a e1 P;rw[AY r.kind λQ q Z=>?_];have R:a∈j:=E7 P;rw[r.mono (Bh.refl _) (K.tu x F:GY s.heap h)<|U q<|U ((K a Q q).1|>λf=>(k a Q q λm=>D a m R).1 λm=>x.7 a m R) Y]
 ·rw[Ao (λl:b∈CW c=>?_) λl=>?_];(·rw[AY (I2.mp l) λg v N_=>HD (x.6 g v) λZ L u w y n A S W=>?_];obtain rfl:=AN<|N_▸n;rw[nn<|A▸e]);rw[(k b o (x.4 b o e) (λm=>by rw[nn<|(M b m)▸e]:b∉ex)).1 l]
 ·rw[HD (x.6 g v) λG L u w y n A S W=>?_];have T:L∈CW c:=I2.mpr (Aa g v n);rw[(UL G L<|Ao (λq:L∈ex=>?_) λq=>?_),Ht (N L q T) λO rH aaX c1 c2=>(HV O rH aaX n A c1 c2),xE ((k L u S q).2 T) λB z=>(HV _ w y n A z W)]
theorem Af.I9(x:St X envs μ H s)(k:∀b o,s.heap.get? b=V o->h'.get? b=V o):Af X envs [] μ s μ H {s with heap:=h',toks:=t,drawn:=d}:=Af.quiet x (λb o e Z=>⟨λZ=>k b o e,λZ=>⟨o.slots,k b o e⟩⟩) (λZ m=>nomatch m) C6.nil (λZ m=>nomatch m) (λZ m=>nomatch m) λZ m=>nomatch m
theorem Af.tok(x:St X envs μ H s):Af X envs [] μ s μ H {s with toks:=t}:=Af.I9 x λZ Z e=>e
theorem Af.push(x:St X envs μ H s):Af X envs [] μ s μ H {s with heap:=s.heap.push o,toks:=t}:=Af.I9 x λZ Z e=>E4 _ e
theorem Af.new:∀{X d f H s}{h'}{t}{a}{mo}(x:St X d f H s)(k:∀b o,s.heap.get? b=V o->h'.get? b=V o)(n:s.heap.get? a=C)(u:X.base.get? a=C)(r:RO X (f++[a]) h' a mo),Af X d [] f s (f++[a]) (H++[mo]) {s with heap:=h',toks:=t}:=by
 intros X d f H s h' t a mo _ x k n u r;have A:=Af.I9 x (h':=h') (t:=t) (d:=s.drawn) k;rw[⟨⟨by simp [x.1],?_,λi v h e1 c=>?_,A.1.4,λi v h e1 c=>?_,A.1.6,λh m q=>?_,x.8,x.9,?_,λp m=>⟨hW _ (x.11 p m).1,(x.11 p m).2.keep λo e Z=>k p o e⟩⟩,(Aa _ Y λh m=>?_),A.3⟩,Kh.mpr<|BX x.2 (by simp) λh Ho b u=>by rw[U (B3.mp u) λq=>(λm=>by rw[xE (x.jQ m) λo e=>?_,nn<|n▸e]:a∉f)<|q▸Ho]];·rcases PL i f.length with g|g;rw[(A.1.3 i v h ((Er<|x.1▸g)▸e1)<|(Er g)▸c).mono (Bh.app _ _) (GY.refl _) Y];·replace c:=(DO g)▸c;(replace e1:=(DO<|x.1▸g)▸e1;replace e1:=x.1▸e1);cases q:i-f.length with|zero=>rw[q]at e1 c;simp only [UC,U7]at e1 c;subst e1 c;rw[r]|succ j=>replace c:=q▸c;simp at c
 ·rcases PL i f.length with g|g;rw[x.5 i v h ((Er<|x.1▸g)▸e1)<|(Er g)▸c];·replace c:=(DO g)▸c;cases q:i-f.length with|zero=>replace c:=q▸c;simp only [UC,U7]at c;subst c;rw[.inr u]|succ j=>replace c:=q▸c;simp at c
 ·rcases Cj.mp q with q|q;rw[x.7 h m q];·rw[AY (I2.mp m) λw y N_=>HD (x.6 w y) λZ L v D E z F l K=>?_];obtain rfl:=AN<|N_▸z;(replace l:=(B3.mp q)▸l;replace l:=n▸l);rw[nn l]
 rw[xE x.10 λB e=>⟨B++[a],by rw[U e<|U (Bc ..) Y]⟩,U (B3.mp m) n]
theorem Mi:∀(h:BC),h.get? h.objs.size=C:=by intros h;cases q:h.get? h.objs.size with|none=>rfl|some o=>rw[Aj (Ds q)<|GN _]
theorem Af.alloc(x:St X envs μ H s)(b:o.isFreed=T)(r:RO X (μ++[s.heap.objs.size]) (s.heap.push o) s.heap.objs.size mo):Af X envs [] μ s (μ++[s.heap.objs.size]) (H++[mo]) {s with heap:=s.heap.push o,toks:=t}:=Af.new x (λZ Z e=>E4 _ e) (Mi _) x.N9 r
theorem Af.upd:∀{X c f H s}{h}{t}{i}{a}{g Rr}(x:St X c f H s)(e1:H[i]?=V g)(d:f[i]?=V a)(B:g.fz=T)(SF:Rr.fz=T)(y:g.P9=C)(k:∀b o,s.heap.get? b=V o->b≠a->h.get? b=V o)(r:RO X f h a Rr),Af X c [] f s f (H.set i Rr) {s with heap:=h,toks:=t}:=by
 intros X c f H s h t i a g Rr _ x e1 d B SF y k r;have A:a∈f:=E7 d;rw[AY ((x.3 i g a e1 d).kind) λO D ta=>AY r.kind λaaY wK P=>?_];have K:GV f [] (CW c) s.heap h:=λb o e=>by rw[Ao (λq:b=a=>?_) λq=>?_];(·subst q;rw[⟨λn=>Aj (n A)<|by obtain rfl:=AN<|D▸e;rw[(x.3 i g b e1 d).kb y D],λZ Z n=>Aj A n,aaY,wK⟩]);rw[⟨λZ Z Z=>k b o e q,λZ Z Z=>⟨o.slots,k b o e q⟩,o,k b o e q⟩]
 have nb:X.base.get? a=C:=(x.5 i g a e1 d).resolve_left (by rw[U B λq=>nomatch q.1]);rw[⟨⟨by simp [x.1],x.2,λj l b w u=>?_,λb o e=>?_,λj l b w u=>?_,λv E=>?_,x.7,x.8,x.9,x.10,λp m=>⟨(x.11 p m).1,(x.11 p m).2.keep λo e Q=>k p o e λz=>by subst z;rw[(x.3 i g p e1 d).kb y e Q]⟩⟩,(Aa ([]) ((Ba _).symm) λZ m=>nomatch m),K⟩];·rw[Ao (λq:j=i=>?_) λq=>?_];(·subst q;obtain rfl:=AN<|d▸u;obtain rfl:=AN<|(RY (DP.mp e1).1)▸w;rw[r]);·have F:=x.3 j l b ((Q_<|DK q)▸w) u;rw[AY F.kind λR M Z=>F.mono (Bh.refl _) (K.tu x C6.nil:GY s.heap h)<|U M<|k b R M λz=>q<|x.mR (z▸u) d]
 rw[k b o (x.4 b o e) λz=>by(replace e:=z▸e;replace e:=nb▸e);rw[nn e]];·rw[Ao (λq:j=i=>?_) λq=>?_];(·subst q;obtain rfl:=AN<|d▸u;rw[.inr nb]);rw[x.5 j l b ((Q_<|DK q)▸w) u]
 rw[HD (x.6 v E) λS L l W I N Y J G=>(TB S L l W I N Y (k L l J λz=>x.7 L (I2.mpr<|Aa v E N)<|z▸A) G)]
end
section
open PySem PySem.W PySem.Calls PyProof.Rows
def Fo(X:Cx)(A:Bq):Prop:=A.handled=C\/∃x∈X.pin,A.handled=V (.ref x)
inductive Ar(X:Cx)(A:Bq)(d:G)(envs:O Env)(rz:AL):Prop
 |mk(frames:A.frames=V envs)(depth:A.depth+4*d<=900)(units:A.units+64+32*d<=9000)(hand:rz=I->A.handled=C)(hd:Fo X A)
def CM(a:Env):O AQ:=a.locals::a.cells.map (·.2)
inductive C3(env:Env)(sc:Bt)(vm:VM)(envs:O Env):Prop
 |mk(kind:env.scope.kind= .function)(acq:∀n,sc.names.lookup n=V .local->env.kindOf n=V .local)(aco:∀n,(sc.names.lookup n=V .cell\/sc.names.lookup n=V .free)->env.kindOf n=V .cell/\∃c,env.cells.lookup n=V c)(Py:∀n,F5 sc n=I->env.kindOf n=V .globalImplicit)(globals:env.globals=EC)(builtins:env.builtins=Gh)(apart:env.cells.Pairwise λx y=>x.2≠y.2)(inj:∀n n' x,vm.lookup n=V x->vm.lookup n'=V x->n=n')(head:∃Yh out,envs=Yh::out/\env.frame=Yh.frame)
inductive B4(X:Cx)(env:Env)(vm:VM)(μ:O AQ)(ρ:Loc)(h:BC):Prop
 |mk(nm:∀a∈CM env,a∉μ)(nb:∀a∈CM env,X.base.get? a=C)(loc:∃m,h.Ns env.locals m/\∀n x mv,vm.lookup n=V x->ρ x=V mv->env.kindOf n=V .local->∃v,m n=V v/\RV X.T.strs μ h mv v)(cell:∀n c,(n,c)∈env.cells->∃v,h.IsCell c v/\(env.cells.lookup n=V c->∀x mv,vm.lookup n=V x->ρ x=V mv->env.kindOf n=V .cell->∃u,v=V u/\RV X.T.strs μ h mv u))
theorem Pa{h i:BC}{L:AQ}{m:Am->AO AX}(n:h.Ns L m)(k:∀o,h.get? L=V o->∃d,i.get? L=V {o with slots:=d}):i.Ns L m:=by rw[G9 n λo f g a b c=>xE (k o a) λd e=>(Zi _ f g e b c)]
variable{X:Cx}{envs:AB Env}{μ:AB AQ}{H:MH}{s:Ae}{env:Env}{vm:VM}{ρ:Loc}
theorem ET{b:Type}{l:O (Am×b)}{n:Am}{c:b}(h:l.lookup n=V c):(n,c)∈l:=mem_of_lookup h
theorem B4.UB:∀{X envs μ H s env vm ρ}{ex f}{S}{s':Ae}(x:St X envs μ H s)(L:B4 X env vm μ ρ s.heap)(A:Af X envs ex μ s f S s')(z:∀a∈CM env,a∉ex)(j:C6 s.heap ex),B4 X env vm f ρ s'.heap:=by
 intros X envs μ H s env vm ρ ex f S s' _ x L A z j;have T:=A.tu x j;have M:=A.Lc;have g:∀a∈CM env,∃o,s.heap.get? a=AA o:=λa m=>by(rw[Cz (CZ.mp m) (λI=>?_) λm=>?_];subst I);rw[AY L.3 λm' G _=>Ht G λo t ep e _=>?_,⟨o,e⟩];·(rw[AY (Ea.mp m) λF W E=>?_];obtain⟨n,c⟩:=F;subst E);rw[AY (L.4 n c W) λv D _=>AY D λo e _=>?_,⟨o,e⟩]
 (rw[AY A.2 λν C l=>?_];subst C);rw[⟨λa m q=>?_,L.2,?_,λn c K=>?_⟩,Cz (Cj.mp q) (λq=>?_) λq=>?_,L.1 a m q,xE (g a m) λo e=>?_,nn<|(l a q)▸e];·rw[AY L.3 λm V r=>(Aa m (Pa V λo e=>?_) λn x J P O N=>?_)];(·have R:=L.1 env.locals (.head _);rw[Ao (λq:env.locals∈CW envs=>?_) λq=>?_,(A.3 _ o e).2.1 q (z _<|.head _) R,⟨o.slots,(A.3 _ o e).1 (λm=>Aj m R) (z _<|.head _) q⟩]);rw[AY (r n x J P O N) λv a b=>(Aa v a<|b.mono M T.t)]
 ·rw[AY (L.4 n c K) λv B r=>AY B λo e d=>?_];(have U:c∉CW envs:=λm=>by rw[AY (I2.mp m) λk Z h=>HD (x.6 k Z) λ_ L' o' t ep w _ p Q=>?_];replace w:=h▸w;(replace w:=AN w;subst w);replace p:=e▸p;(replace p:=AN p;subst p);rw[PySem.Data.noConfusion<|d▸Q]);rw[(Aa v (Aa o ((A.3 _ o e).1 (λm=>Aj m<|L.1 c<|NR _<|Ea.mpr<|Aa _ K Y) (z _<|NR _<|Ea.mpr<|Aa _ K Y) U) d) λi y J P O N=>AY (r i y J P O N) λu a b=>(Aa u a<|b.mono M T.t))]
theorem B4.Bb(x:St X envs μ H s)(L:B4 X env vm μ ρ s.heap)(A:Af X envs [] μ s b c a):B4 X env vm b ρ a.heap:=L.UB x A (λZ Z m=>(by cases m)) C6.nil
inductive Rg(h:BC)(e:AQ)(vs:CI AX)(T:AQ)(oT:Obj)(ts:CI AX)(v:AX):Prop
 |mk(at_:vs[1]?=V (.ref T))(ne:T≠e)(obj:h.get? T=V oT)(data:oT.data= .fields ts)(fl:ts[3]?=V v)
def VN(envs:O Env)(v:AX):Prop:=v= .none\/∃F,(envs.head?.bind (·.frame))=V F/\v=E3 F
inductive du(X:Cx)(envs:O Env)(h₀:BC)(μ:O AQ)(h:BC)(e:AQ)(vs:CI AX):Prop
 |none(q:vs[1]?=V .none)
 |some{T:AQ}{oT:Obj}{ts:CI AX}{v:AX}(b:Rg h e vs T oT ts v)(new:h₀.get? T= .none)(nm:T∉μ)(nb:X.base.get? T= .none)(hv:VN envs v)
inductive K7(X:Cx)(envs:O Env)(h₀:BC)(μ:O AQ)(h:BC)(x:C_)(e:AQ)(oe:Obj)(vs:CI AX)(dx:AQ)(kvs:O<|Am×AX):Prop
 |mk(obj:h.get? e=V oe)(cls:∃ca,oe.cls= .ref ca/\X.cls X.P.Et=V ca)(data:oe.data= .fields vs)(dict:oe.dict=V dx)(size:1<vs.size)(ctx:vs[2]?=V .none)(tb:du X envs h₀ μ h e vs)(abp:h₀.get? dx=C)(dm:dx∉μ)(db:X.base.get? dx=C)(acf:h.DictOf (strKind X.prog X.w) dx kvs)(dr:HH X.T.strs μ h [(.str X.P.DX.1,x.why),(.str X.P.DX.2.1,x.fn),(.str X.P.DX.2.2,x.at_)] kvs)
inductive FW(X:Cx)(envs:O Env)(h₀:BC)(μ:O AQ)(h:BC)(x:C_)(e:AQ):Prop
 |mk(new:h₀.get? e=C)(nm:e∉μ)(nb:X.base.get? e=C)(obj:∃oe vs dx kvs,K7 X envs h₀ μ h x e oe vs dx kvs)
def AU{c d:Type}(X:Cx)(envs:O Env)(ex μ:O AQ)(s:Ae)(b:O AQ->BC->c->d->Prop)(r:R c)(Q:d->Ae->Prop)(E:AX->Ae->Prop):Prop:=match r with| .bad=>BB| .ok v f=>∀u Bd a,Af X envs ex μ s Bd f a->b Bd a.heap v u->Q u a| .exc x f=>∀e Bd a,Af X envs ex μ s Bd f a->FW X envs s.heap Bd a.heap x e->E (.ref e) a
abbrev C5(X:Cx):O AQ->BC->MV->AX->Prop:=λμ h m v=>RV X.T.strs μ h m v
abbrev QF(X:Cx):O AQ->BC->O MV->O AX->Prop:=λμ h m v=>Ax X.T.strs μ h m v
abbrev Ey:O AQ->BC->AL->AL->Prop:=λZ Z a b=>a=b
theorem FW.Z0:∀{X i l}{j d h}{x}{e}(f:FW X i d l h x e)(k:∀b,d.get? b=C->j.get? b=C),FW X i j l h x e:=by intros X i l j d h x e _ f k;obtain⟨a,b,c,r,p,w,o,g⟩:=f;rw[⟨k _ a,b,c,r,p,w,o,g.1,g.2,g.3,g.4,g.5,g.6,by cases g.7 with|none q=>rw[.none q]|some b n m u v=>rw[.some b (k _ n) m u v],k _ g.8,g.9,g.10,g.11,g.12⟩]
theorem Af.HF(A:Af X envs ex μ s c d a)(e:a.heap.get? b=C):s.heap.get? b=C:=by cases q:s.heap.get? b with|none=>rfl|some o=>obtain⟨f,z⟩:=(A.3 b o q).2.2;rw[nn<|e▸z]
theorem AU.step(A:Af X envs ex μ s c g d)(P:AU X envs ex μ s a r Q E):AU X envs ex c d a r Q E:=by induction r using R.casesOn with|bad=>rw[P.elim]|ok v p=>rw[λu f j k R=>P u f j (A.trans k) R]|exc x p=>rw[λe f j k R=>P e f j (A.trans k)<|R.Z0 λb q=>A.HF q]
theorem AU.bind{r:R o}(P:AU X envs ex μ s j (r.bind f) y E)(k:∀a b c g d,r= .ok a g->Af X envs ex μ s c g d->rel c d.heap a b->AU X envs ex c d j (f a g) y E->Q b d):AU X envs ex μ s rel r Q E:=by induction r using R.casesOn with|bad=>rw[P.elim]|ok v p=>rw[λu m z A R=>k v u m p z Y A R<|AU.step (r:=f v p) A P]|exc x p=>rw[P]
theorem AU.ok(P:AU X envs ex μ s rel (.ok v f) Q E)(A:Af X envs ex μ s b f a)(R:rel b a.heap v u):Q u a:=P u b a A R
theorem AU.opt{c b e:Type}{ex:O AQ}{d:O AQ->BC->c->b->Prop}{Q:b->Ae->Prop}{E:AX->Ae->Prop}{o:AO e}{f:e->MH->R c}{G:Prop}(P:AU X envs ex μ s d ((BW H o).bind f) Q E)(k:∀a,o=V a->AU X envs ex μ s d (f a H) Q E->G):G:=by induction o using C4 with|none=>rw[P.elim]|some a=>rw[k a Y P]
theorem AU.Ha{c b:Type}{ex:O AQ}{d:O AQ->BC->c->b->Prop}{Q:b->Ae->Prop}{E:AX->Ae->Prop}{o:AO c}{G:Prop}(P:AU X envs ex μ s d (BW H o) Q E)(k:∀a,o=V a->AU X envs ex μ s d (.ok a H) Q E->G):G:=by induction o using C4 with|none=>rw[P.elim]|some a=>rw[k a Y P]
theorem AU.ite{c b:Type}{ex:O AQ}{a:O AQ->BC->c->b->Prop}{Q:b->Ae->Prop}{E:AX->Ae->Prop}{p:Prop}{i:Dh p}{r:R c}{G:Prop}(P:AU X envs ex μ s a (if p then r else .bad) Q E)(k:p->AU X envs ex μ s a r Q E->G):G:=by
 by_cases q:p;·rw[AM q]at P;rw[k q P]
 ·rw[AS q]at P;rw[P.elim]
theorem AU.W_{c b:Type}{ex:O AQ}{a:O AQ->BC->c->b->Prop}{Q:b->Ae->Prop}{E:AX->Ae->Prop}{p:Prop}{i:Dh p}{r:R c}{G:Prop}(P:AU X envs ex μ s a (if p then .bad else r) Q E)(k:¬p->AU X envs ex μ s a r Q E->G):G:=by
 rw[Ao (λq:p=>?_) λq=>?_];·rw[AM q]at P;rw[P.elim]
 ·rw[AS q]at P;rw[k q P]
theorem AU.assoc{r:R i}(P:AU X envs ex μ s h ((r.bind f).bind g) Q E):AU X envs ex μ s h (r.bind λa H=>(f a H).bind g) Q E:=by induction r using R.casesOn<;>exact P
end
section
open PySem PySem.W PySem.Calls PyProof.Rows
variable{X:Cx}{envs:AB Env}{μ:AB AQ}{H:MH}{s:Ae}{A:Bq}{Q:AX->Ae->Prop}{E:AX->Ae->Prop}{d:AE}{rz:AL}
theorem MJ:Bj=E0:=by decide+kernel
theorem Jx(x:RV S μ h (.int i) v):∃t,v= .int i t:=x
theorem Gd:RV S μ h (.int i)<|.int i t:=⟨t,Y⟩
theorem sX(x:RV S μ h (.bool b) v):v= .bool b:=x
theorem ZR:RV S μ h (.bool b)<|.bool b:=Y
theorem SR(x:RV S μ h .none v):v= .none:=x
theorem ON:RV S μ h .none .none:=Y
theorem Ih(x:RV S μ h (.tup l) v):∃a b n,v= .ref a/\IsT h a b n/\b.size<=E0/\Ax S μ h l b.toList:=x
theorem OP(i:IsT h a b n)(z:b.size<=E0)(r:Ax S μ h l b.toList):RV S μ h (.tup l)<|.ref a:=(HV a b n Y i z r)
theorem J1(x:RV S μ h (.ref i) v):∃a,μ[i]?=V a/\v= .ref a:=x
theorem Kq(e:μ[i]?=V a):RV S μ h (.ref i)<|.ref a:=(Aa a e Y)
theorem rA(x:RV S μ h (.str k) v):∃y t,S[k]?=V y/\v= .str y t:=x
theorem St.list(x:St X envs μ H s){i:G}{fz l}(e:H[i]?=V (.list fz l)):∃a b n,μ[i]?=V a/\IsL s.heap a b n/\Ax X.T.strs μ s.heap l b.toList/\b.size<=E0:=by rw[AY (x.at e) λa f c=>NQ c λb n r=>(Mw a b n f r)]
theorem St.GR(x:St X envs μ H s){i:G}{a fz l}(c:μ[i]?=V a)(e:H[i]?=V (.list fz l)):∃b n,IsL s.heap a b n/\Ax X.T.strs μ s.heap l b.toList/\b.size<=E0:=x.at' c e
theorem GH(x:IsL h a b n):h.IsList a b:=⟨_,x,Y,n,Y⟩
theorem HK(x:IsT h a b n):IsTup h a b:=⟨_,x,Y,n,Y⟩
theorem TO(x:St X envs μ H s)(P:AU X envs [] μ s (C5 X) (newList a H) Q E)(r:Ax X.T.strs μ s.heap a b):b.length<=E0/\Q (.ref s.heap.objs.size) {s with heap:=s.heap.push {cls:= .type "list",data:= .seq b.toArray},toks:=t}:=by
 rw[P.ite λf P=>?_];have c:b.length<=E0:=by rw[U r.length<|Ag MJ f]
 rw[⟨c,P _ _ _ (Af.alloc x (o:={cls:= .type "list",data:= .seq b.toArray}) (mo:= .list T a) (t:=t) Y<|DI _ 0 (Fz _ Y) (r.mono (Bh.app _ _) λZ Z Z e=>E4 _ e) c)<|Kq ?_⟩,Ag x.1<|U (DO<|B2 _)<|U (GI ..) ?_];rfl
theorem Tp(x:St X envs μ H s)(P:AU X envs [] μ s (C5 X) (Gw a H) Q E)(r:Ax X.T.strs μ s.heap a b):b.length<=E0/\Q (.ref s.heap.objs.size) {s with heap:=s.heap.push {cls:= .type "tuple",data:= .seq b.toArray},toks:=t}:=by
 rw[P.ite λf P=>?_];have c:b.length<=E0:=by rw[U r.length<|Ag MJ f]
 rw[⟨c,P _ _ _ (Af.push x (o:={cls:= .type "tuple",data:= .seq b.toArray}) (t:=t))<|OP (n:=0) (Fz _ Y) c<|r.mono (Bh.refl _) λZ Z Z e=>E4 _ e⟩]
theorem aaM(h:a.natAbs<1000000000000):Builtin.Int.intBits a<=64:=by have b:=Du.mpr h;rw[PySem.intBits_le_64 (Int.neg_lt_of_neg_lt<|M5 (Int.natAbs_neg a▸Int.le_natAbs)<|Wn b<|(dc Y))<|M5 Int.le_natAbs<|Wn b<|(dc Y)]
theorem aai:∀{X a h H s A Q E k l u v}(x:St X a h H s)(q:RV X.T.strs h s.heap (.tup k) u)(rv:RV X.T.strs h s.heap (.tup l) v)(P:AU X a [] h s (C5 X) (Gw (k++l) H) Q E),Ab X.M A (UQ .Add u v) Q E s:=by
 intros X a h H s A Q E k l u v _ x q rv P;rw[Dz (Ih q) λt i n BL c B m=>U BL ?_,Dz (Ih rv) λb j r Bf f D o=>U Bf ?_,P.ite λF w=>?_];have y:i.size=k.length:=m.length;have z:j.size=l.length:=o.length;rw[Ao (λg:i= #[]=>?_) λg=>?_];·subst g;obtain rfl:=Oq.mp y.symm;rw[concat_meets (Aa _ c Y) (Aa _ f Y) mD seq_tuple_add PySem.F.slot_tuple_add PySem.F.entry_tuple_add (PySem.F.args_tuple_add_2 _ _) (tuple_addW0 t b #[] j n r C C #[] #[] Y)<|BX c f<|w _ _ _ (Af.refl x)<|OP f D o]
 ·have g:=λe=>g<|iK.mp e;rw[Ao (λp:j= #[]=>?_) λp=>?_];(·subst p;obtain rfl:=Oq.mp z.symm;rw[concat_meets (Aa _ c Y) (Aa _ f Y) mD seq_tuple_add PySem.F.slot_tuple_add PySem.F.entry_tuple_add (PySem.F.args_tuple_add_2 _ _) (tuple_addW1 t b i #[] n r C C #[] #[] g Y)<|BX c f<|((Ba ..)▸w) _ _ _ (Af.refl x)<|OP c B m]);·have:=(Tp x (t:=s.toks) P<|m.append o).2;rw[PySem.P.add_tuple c f g (λe=>p<|iK.mp e) (((by simp:(i.toList++j.toList).toArray=i++j))▸this)<|U y<|U z<|Ag Aq<|Ag MJ F]
def cW:DW->Operator| .add=> .Add| .sub=> .Sub| .mul=> .Mult| .fdiv=> .FloorDiv| .fmod _=> .Mod
theorem uC:∀{X c f H s A Q E}{a b:MV}{u v}(x:St X c f H s)(e:RV X.T.strs f s.heap a u)(rv:RV X.T.strs f s.heap b v)(P:AU X c [] f s (C5 X) (b9 H a b) Q E),Ab X.M A (UQ .Add u v) Q E s:=by
 intros X c f H s A Q E a b u v _ x e rv P;induction a using MV.casesOn<;>induction b using MV.casesOn<;>first|rw[P.elim]|skip
 ·(rw[xE e λt E9=>?_];clear e;subst E9);(rw[xE rv λw Fy=>?_];clear rv;subst Fy);rw[PySem.P.add_int<|P _ _ _ (Af.tok x) Gd]
 rw[aai x e rv P];·rw[AU.opt P λy e1 P=>AU.opt P λz g P=>TN e1 λe1=>TN g λg=>Dz (x.list e1) λa h n j k l Z=>Dz (x.list g) λb i B m o rb Z=>?_];(rw[AY e λZ q Ga=>?_];clear e;subst Ga);obtain rfl:=AN<|j.symm.trans q;(rw[AY rv λZ q MP=>?_];clear rv;subst MP);obtain rfl:=AN<|m.symm.trans q;rw[xA (TO x (t:=s.toks) P<|l.append rb) λp r=>?_,PySem.P.add_list k o ((show(h.toList++i.toList).toArray=h++i by simp)▸r)<|Aq▸p]
theorem Ax.flat(r:Ax S μ h l a)(n:G):Ax S μ h (Ct n l).flatten (Ct n a).flatten:=by induction n with|zero=>rw[Ax.nil]|succ n b=>rw[r.append b]
theorem pa(x:St X envs μ H s){i:G}{l k u v}(m:H[i]?.bind AK.KD=V l)(o:RV X.T.strs μ s.heap (.ref i) u)(rv:RV X.T.strs μ s.heap (.int k) v)(P:AU X envs [] μ s (C5 X) (bq H l k) Q E):Ab X.M A (UQ .Mult u v) Q E s:=TN m λe=>AU.ite P λf P=>by rw[Dz (x.list e) λa b n p c g Z=>?_,AY (J1 o) λZ q Kr=>U Kr ?_];obtain rfl:=AN<|p.symm.trans q;(rw[xE rv λt Pq=>?_];clear rv;rw[U Pq ?_]);have h:k<2^63:=M5 f.2.2 ((dc Y));have j: -(2^63:J)<=k:=Fm ((dc Y)) f.2.1;have w:b.size*k.toNat<=16777216:=L (Nat.mul_le_mul_right _ ((show b.size=l.length from g.length)▸f.1:b.size<=1)) (by rw[U (Nat.one_mul ..)<|Int.toNat_le.mpr f.2.2]);have q:=(TO x (t:=s.toks) P<|g.flat k.toNat).2;rw[<-listMul_foldl_if]at q;rw[wpAny_binaryOp_repeat_ref (T:="list") (U:="int") ((dc Y)) ⟨_,c,Y⟩ (λr=>typeIs_int r k t) noFill_list_mul F.fills_int_mul F.slot_int_rmul repeat_list F.slot_int_index.lookup<|call_meets F.slot_int_rmul (typeIs_int s k t) F.entry_int_rmul (F.args_int_rmul_2 _ _) (int___rmul___int_list k t a b n) ⟨c,Y,⟨_,c,Y⟩,call_meets F.slot_list_mul ⟨_,c,Y⟩ F.entry_list_mul (F.args_list_mul_2 _ _) (AutoListH.list___mul___list_int_3 a b n k t (by simp only [lz,df,gK,V5,P_];first|rw[⟨j,h⟩]|(simp;rw[⟨j,h⟩])) (by lia)<|by simp [Sb,E0];lia) ⟨c,q⟩⟩]
theorem qL(f:c≠.add)(g:∀i,a≠.ref i):Mz H c a b=(BW H<|Oc a b).bind λp H=>arith p.1 p.2 H c:=by induction c using DW.casesOn with|add=>rw[Aj Y f]|mul=>(induction a using MV.casesOn with|ref i=>rw[Aj Y<|g i]|_=>rfl)|_=>rfl
theorem q6:∀{X h n H s A Q E f a b u v}(x:St X h n H s)(j:RV X.T.strs n s.heap a u)(g:RV X.T.strs n s.heap b v)(P:AU X h [] n s (C5 X) (Mz H f a b) Q E),Ab X.M A (UQ (cW f) u v) Q E s:=by
 intros X h n H s A Q E f a b u v _ x j g P;rw[Ao (λq:f= .add=>?_) λq=>?_];·subst q;rw[uC x j g P]
 ·rw[Ao (λr:∃i,a= .ref i=>?_) λr=>?_];(·(injection r with i _ w;clear r;subst w);induction f using DW.casesOn with|add=>rw[Aj Y q]|mul=>(induction b using MV.casesOn with|int k=>rw[AU.opt P λl B P=>pa x B j g P]|_=>rw[P.elim])|_=>induction b using MV.casesOn<;>exact P.elim);replace P:=(qL q λi e=>r ⟨i,e⟩)▸P;rw[AU.opt P λp e P=>jJ e λz y=>?_];intros _ p _ e P z y;clear r e;subst z y;(rw[xE j λt o=>?_];clear j;rw[U o ?_]);(rw[xE g λC m=>?_];clear g;rw[U m ?_]);clear q;induction f using DW.casesOn with|add=>rw[P.elim]|sub=>rw[PySem.P.sub_int<|P _ _ _ (Af.tok x) Gd]|mul=>rw[AU.ite P λc P=>PySem.P.mul_int (P _ _ _ (Af.tok x) Gd)<|IntMulOk.of_left<|aaM c.1]|fdiv=>rw[AU.ite P λc P=>floordiv_int (VL c.1) (U (Int.fdiv_eq_ediv_of_nonneg _<|UZ c.1)<|P _ _ _ (Af.tok x) Gd)<|.inl<|lh<|v_ (n:=1000000000) c Y]|fmod=>rw[AU.ite P λc P=>mod_int' (VL c.1)<|U (Int.fmod_eq_emod_of_nonneg _<|UZ c.1)<|P _ _ _ (Af.tok x) Gd]
def FD(S:O Am):MV->PyData| .int i=> .int i| .str k=> .str (S.getD k<|J9 "")|_=> .none
def GF(S:O Am):Vw->PyData| .p v=>FD S v| .t l=> .tuple (l.map<|FD S)| .l l=> .list (l.map<|FD S)
def I4(S:O Am):MV->Prop| .str k=>k<S.length|_=>Bg
def Jd(S:O Am):Vw->Prop| .p v=>prim v=I/\I4 S v| .t l=>∀v∈l,prim v=I/\I4 S v| .l l=>∀v∈l,prim v=I/\I4 S v
section
theorem WT(p:prim m=I)(r:RV S μ h m v):Reads h v (FD S m) []/\I4 S m:=by induction m using MV.casesOn with|none=>obtain rfl:=SR r;rw[⟨.none,B9⟩]|int i=>rw[xE (Jx r) λt V9=>U V9 ?_,⟨.int _ _,B9⟩]|str k=>rw[G3 (rA r) λy t e Xw=>U Xw ?_,⟨(by rw[U (IP)<|U e ?_];rfl:S.getD k (J9 "")=y)▸Reads.str (S.getD k<|J9 "") t,(DP.mp e).1⟩]|_=>rw[nb p]
theorem cm(p:l.all prim=I)(r:Ax S μ h l i):T6 h i (l.map<|FD S) []/\∀v∈l,prim v=I/\I4 S v:=Ax.fold (R:=λl i=>l.all prim=I->T6 h i (l.map<|FD S) []/\∀v∈l,prim v=I/\I4 S v) (λZ=>⟨.nil,λZ m=>(by cases m)⟩) (λm v l i a Z j p=>Ef p λc g=>⟨.cons (WT c a).1 (j g).1,λw f=>by induction f using Cu with|head b=>rw[U b ⟨c,(WT c a).2⟩]|tail f=>rw[(j g).2 w f]⟩) r p
theorem QC(x:St X envs μ H s){a:MV}{w u}(e:view H a=V w)(r:RV X.T.strs μ s.heap a u):(∃f,Reads s.heap u (GF X.T.strs w) f)/\Jd X.T.strs w:=by
 have h:prim a=I->w= .p a->(∃f,Reads s.heap u (GF X.T.strs w) f)/\Jd X.T.strs w:=λp q=>by rw[U q ?_];have:=WT p r;rw[(BX ⟨_,this.1⟩ p this.2)]
 induction a using MV.casesOn with|bool b=>rw[nn e]|tup l=>rw[CB e λp e=>?_];obtain rfl:=AN e;rw[Dz (Ih r) λb c n ZT i Z q=>U ZT ?_];have:=cm p q;rw[⟨⟨_,.tuple i Y Y this.1⟩,this.2⟩]|ref i=>rw[BQ e λl g e=>Ge g λfz g=>CB e λp e=>?_];obtain rfl:=AN e;rw[Dz (x.list g) λb c n j k q Z=>?_,AY (J1 r) λZ z cJ=>U cJ ?_];clear cJ;obtain rfl:=AN<|j.symm.trans z;have:=cm p q;rw[⟨⟨_,.list k Y Y this.1⟩,this.2⟩]|_=>rw[h Y (AN e).symm]
theorem iB(c:∀y∈S,PW y=I)(o:I4 S m):(FD S m).canLay0=I/\(FD S m).depth=0:=by induction m using MV.casesOn with|str k=>have b:k<S.length:=o;rw[⟨((U (IP)<|U (Cm b) ?_):PW (S.getD k<|J9 "")=I),Y⟩,c _<|OS b]|_=>rw[⟨Y,Y⟩]
theorem W0(c:∀y∈S,PW y=I):∀{l:O MV},(∀v∈l,prim v=I/\I4 S v)->Yb (l.map<|FD S)=I/\QH (l.map<|FD S)=0|[],_=>⟨Y,Y⟩|m::g,h=>by have a:=iB c (h m<|.head _).2;have b:=W0 c λv f=>h v<|.tail _ f;rw[⟨DN.mpr ⟨a.1,b.1⟩,(by rw[U a.2<|U b.2 ?_];rfl:max _ _=0)⟩]
theorem Ry(b:∀y∈S,PW y=I){w:Vw}(o:Jd S w):(GF S w).canLay0=I/\(GF S w).depth<=1:=by induction w using Vw.casesOn with|p v=>have:=iB b o.2;rw[⟨this.1,by rw[(?_:(FD S v).depth<=1)];lia⟩]|t l=>have:=W0 b o;rw[⟨this.1,(by rw[U this.2<|B2 _]:QH _+1<=1)⟩]|l l=>have:=W0 b o;rw[⟨this.1,(by rw[U this.2<|B2 _]:QH _+1<=1)⟩]
set_option tactic.hygienic true in theorem hJ:∀{S a b}(o:S.Nodup)(f:prim a=I/\I4 S a)(c:prim b=I/\I4 S b),UY (FD S a) (FD S b)=Pf a b:=by
 intros S a b _ o f c;induction a using MV.casesOn<;>induction b using MV.casesOn<;>first|rw[nb f.1]|rw[nb c.1]|rfl|skip
 rename_i j k;have m:j<S.length:=f.2;have g:k<S.length:=c.2;rw[((U (IP)<|U (IP)<|U (Cm m)<|U (Cm g) ?_):(S.getD j (J9 "")==S.getD k (J9 ""))=(j==k)),((Ao (λq:j=k=>?_) λq=>?_):(S[j]==S[k])=(j==k))];·clear c;subst q;rw[U (I' ..)<|U (I' ..) Y]
 ·(have:S[j]≠S[k]:=λz=>by have P:=lK.mp o;rw[Cz (Nat.lt_or_gt_of_ne q) (λh=>?_) λh=>?_,P j k m g h z,P k j g m h z.symm]);rw[U (SX.mpr this)<|U (SX.mpr q) Y]
theorem Vg(f:S.Nodup):∀{g h},(∀v∈g,prim v=I/\I4 S v)->(∀v∈h,prim v=I/\I4 S v)->jr (g.map<|FD S) (h.map<|FD S)=Kn g h|[],[],_,_=>Y|[],_::_,_,_=>Y|_::_,[],_,_=>Y|a::g,b::h,i,j=>by rw[((U (hJ f (i a<|.head _)<|j b<|.head _)<|U (Vg f (λv c=>i v<|.tail _ c) λv c=>j v<|.tail _ c) Y):(UY (FD S a) (FD S b)&&jr (g.map<|FD S) (h.map<|FD S))=(Pf a b&&Kn g h))]
theorem jB (g : S.Nodup) (f : Jd S a) (c : Jd S b) : UY (GF S a) (GF S b) = IL a b := by
 induction a using Vw.casesOn with
 | p a => induction b using Vw.casesOn with
   | p b => rw [hJ g f c]
   | t b => induction a using MV.casesOn <;> first | revert S b; intros S b; intro g c f; revert S b; intros S b; intro g c f; rw [nb f.1] | revert S b; intros S b; intro g c f; rfl
   | l b => induction a using MV.casesOn <;> first | revert S b; intros S b; intro g c f; revert S b; intros S b; intro g c f; rw [nb f.1] | rfl
 | t a => induction b using Vw.casesOn with
   | p b => induction b using MV.casesOn <;> first | revert S a; intros S a; intro g f c; revert S a; intros S a; intro g f c; rw [nb c.1] | rfl
   | t b => rw [Vg g f c]
   | l b => rfl
 | l a => induction b using Vw.casesOn with
   | p b => induction b using MV.casesOn <;> first | revert S a; intros S a; intro g f c; revert S a; intros S a; intro g f c; rw [nb c.1] | rfl
   | t b => rfl
   | l b => rw [Vg g f c]
end
inductive Si(S:O Am):Prop
 |mk(nodup:S.Nodup)(ok:∀y∈S,PW y=I)
theorem cL(b:Si S)(o:Jd S w):ik (GF S w)=I:=by have:=Ry b.2 o;unfold ik;rw[U this.1<|U (Ki ..)<|U P_ ?_];lia
theorem aH:∀{X c h H s l f b}(i:Si X.T.strs)(x:St X c h H s)(e:views H l=V b)(r:Ax X.T.strs h s.heap l f),(∃g,T6 s.heap f (b.map<|GF X.T.strs) g)/\(∀w∈b,Jd X.T.strs w)/\Yb (b.map<|GF X.T.strs)=I/\QH (b.map<|GF X.T.strs)<=1:=by intros X c h H s l f b _ i x e r;rw[Ax.fold (R:=λl f=>∀b,views H l=V b->(∃g,T6 s.heap f (b.map<|GF X.T.strs) g)/\(∀w∈b,Jd X.T.strs w)/\Yb (b.map<|GF X.T.strs)=I/\QH (b.map<|GF X.T.strs)<=1) (λb e=>by obtain rfl:=AN e;rw[(Dx ⟨_,.nil⟩ ((λZ m=>nomatch m)) Y<|CJ _)]) (λm v l f a Z k b e=>by rw[BQ e λw e1 e=>Bo e λn o e=>?_];subst e;(rw[xA (QC x e1 a) λrD j=>?_];obtain⟨g,p⟩:=rD);(rw[Fb (k _ o) λabm q t u=>?_];obtain⟨z,y⟩:=abm);have l:=Ry i.2 j;rw[(Dx ⟨_,.cons p y⟩ (λB m=>?_) (DN.mpr ⟨l.1,t⟩)<|Nat.max_le.mpr ⟨l.2,u⟩)];induction m using Cu with|head D2=>rw[U D2 j]|tail m=>rw[q _ m]) r b e]
theorem X4(b:Si S)(o:Jd S w):∀{a:O Vw},(∀y∈a,Jd S y)->((a.map<|GF S).any λy=>UY y<|GF S w)=a.any λy=>IL y w|[],_=>Y|y::a,h=>by rw[U M4<|U SO<|U SO<|U (jB b.1 (h y<|.head _) o)<|U (X4 b o λz m=>h z<|.tail _ m) Y]
end
section
open PySem PySem.W PySem.Calls PyProof.Rows
variable{X:Cx}{envs:AB Env}{μ:AB AQ}{H:MH}{s:Ae}{A:Bq}{Q:AX->Ae->Prop}{E:AX->Ae->Prop}{d:AE}{rz:AL}
def W6:EG->CmpOp| .eq=> .Eq| .ne=> .NotEq| .lt=> .Lt| .le=> .LtE| .gt=> .Gt| .ge=> .GtE| .is=> .Is| .PV=> .IsNot| .isin=> .In| .MT _=> .NotIn
theorem mG{K} [GD K](a:K)(u:AX)(r:O<|K×AX)(k:K):M1 ((a,u)::r) k=if a=k then V u else M1 r k:=by
 unfold M1;rw[U (kJ) ?_,Ao (λh:a=k=>?_) λh=>?_];·rw[U (DD h)<|U (AM h) ?_];rfl
 rw[U (Dk h)<|U (AS h) Y]
theorem lG{S:O Am}(f:S.Nodup){j k:G}{y x:Am}(b:S[j]?=V y)(e:S[k]?=V x)(q:¬j=k):y≠x:=λz=>by subst z;rw[xE (DP.mp b) λc g=>?_,q<|(Th c f).mp<|b.trans e.symm]
def G7(S:O Am)(μ:O AQ)(h:BC):AO MV->AO AX->Prop|V v,V u=>RV S μ h v u|C,C=>Bg|_,_=>BB
theorem G7.WN(x:G7 S μ h (V v) q):∃u,q=V u/\RV S μ h v u:=by induction q using C4 with|none=>rw[x.elim]|some u=>rw[(Aa u Y x)]
theorem G7.is(x:G7 S μ h p q):p.isSome=q.isSome:=by induction p using C4<;>induction q using C4<;>first|rfl|rw[x.elim]
theorem G7.vA(x:G7 S μ h C q):q=C:=by induction q using C4 with|none=>rfl|some u=>rw[x.elim]
theorem dh:∀{c}{S:O Am}{h:BC}{k:G}{x:Am}{b:O (MV×MV)}(f:S.Nodup)(e:S[k]?=V x),∀{a:O (Am×AX)},HH S c h b a->G7 S c h (Cd (.str k) b) (M1 a x):=by intros c S h k x b _ f e;induction b with|nil=>intro a r;obtain rfl:=((r:a=[]));rw[B9]|cons p b i=>intro a r;(rw[Lg r λj y u t e1 g BL rv l=>?_];clear r;subst BL);rw[U (mG ..)<|((U e1<|Ao (λq:j=k=>?_) λq=>?_):G7 S c h (if Dw p.1 (.str k)=I then V p.2 else Cd (.str k) b) _)];(·subst q;obtain rfl:=AN<|e.symm.trans g;rw[U (AM Y)<|U (AM<|(I' j:Dw (.str j) (.str j)=I)) rv]);rw[U (AS<|lG f g e q)<|U (AS<|(λz=>q<|Bn.mp z:¬Dw (.str j) (.str k)=I))<|i l]
theorem jk:∀{c S h k b},∀{a},Hz S c h b a->G7 S c h (Cd (.int k) b) (M1 a k):=by intros c S h k b;induction b with|nil=>intro a r;obtain rfl:=((r:a=[]));rw[B9]|cons p b e=>intro a r;(rw[Dz r λj u t e1 Bf rv f=>?_];clear r;rw[U Bf ?_]);rw[U (mG ..)<|((U e1<|Ao (λq:j=k=>?_) λq=>?_):G7 S c h (if Dw p.1 (.int k)=I then V p.2 else Cd (.int k) b) _),U (AM q)<|U (AM<|(Bn.mpr q:Dw (.int j) (.int k)=I)) rv,U (AS q)<|U (AS<|(λz=>q<|Bn.mp z:¬Dw (.int j) (.int k)=I))<|e f]
theorem dC{K:Type} [GD K]{a p r}{k:K}:atKey ((a,p)::r) k=if a=k then V p else atKey r k:=by
 unfold atKey;rw[U (kJ) ?_,Ao (λh:a=k=>?_) λh=>?_];·rw[U (DD h)<|U (AM h) ?_];rfl
 rw[U (Dk h)<|U (AS h) Y]
theorem gX(h:Dm l=V f)(c:Dm a=V b):Dw (.tup l) (.tup a)=decide (f=b):=by rw[((U h<|U c<|Qf.mpr ⟨AN,A_ V⟩):decide (Dm l=Dm a)=_)]
theorem iX:∀{f}{S:O Am}{h l g}{a:O (MV×MV)}(e:Dm l=V g),∀{c},Io S f h a c->G7 S f h (Cd (.tup l) a) ((atKey c g).map E5):=by intros f S h l g a _ e;induction a with|nil=>intros c _ r;obtain rfl:=((r:c=[]));rw[B9]|cons p a i=>intros _ p a _ i;intro c r;intros _ c _ r;obtain⟨m,G8,b,u,t,e1,j,rfl,rv,k⟩:=r;rw[U dC<|((U e1<|U (gX j e)<|Ao (λq:G8=g=>?_) λq=>?_):G7 S f h (if Dw p.1 (.tup l)=I then V p.2 else Cd (.tup l) a) _),U (AM q)<|U (AM<|DD q) rv,U (AS q)<|U (AS λz=>q<|DJ z)<|i k]
theorem ym:∀{f a w S h l},∀{b c},Ax S f h l b->Dm l=V c->ItemsAre (J6 a w) c b:=by intros f a w S h l;induction l with|nil=>intro b c r e;(replace e:=AN e;subst e);obtain rfl:=LL r;rw[.nil]|cons m l g=>intro b c r e;rw[By (JI r) λv n Fy rv j=>U Fy ?_];clear r;induction m using MV.casesOn with|int i=>rw[Bo e λG8 e1 k=>?_];subst k;(rw[xE rv λt Ga=>?_];clear rv;clear Fy;subst Ga);rw[.cons (by simp [PySem.intKind,Pz])<|g j e1]|_=>rw[nn e]
theorem Ww:∀{X i h l g v}(e:Dm l=V g)(r:RV X.T.strs i h (.tup l) v),∃a,v= .ref a/\(tupK X).is h g a:=by intros X i h l g v _ e r;(injection(Ih r)with t b n _ c f _ q;rw[U c ?_]);rw[⟨t,Y,_,b,n,f,Y,Y,ym q e⟩]
theorem WW{e:Hl}{w:HQ}{K:Type} [GD K]{b:KeyKind e w K}{h:BC}{a:AQ}{i:O (K×AX)}(x:h.DictOf b a i):h.MapOf b a<|M1 i:=by rw[KJ x λo p q g c m j f Z=>⟨o,p,q,g,c,m,j,λk=>?_⟩];unfold findBy;rw[Ag (Array.find?_toList) ?_,f.find k]
inductive Dy(X:Cx):Prop
 |mk(K:X.K.In X.base)(acr:X.base.NoLimit)(sOk:Si X.T.strs)(mods:∃o,X.base.get? MY=V o)(m0:∀a∈X.KA,a≠MY)
theorem Dy.wp(h:Dy X):Dy<|X.wp p:=⟨h.1,h.2,h.3,h.4,h.5⟩
theorem xS(b:Dy X)(x:St X envs μ H s){i:G}{a e}(g:H[i]?=V e)(c:μ[i]?=V a):(a==MY)=T:=by rw[SX.mpr λq=>Cz (x.5 i e a g c) (λf=>?_) λf=>?_,b.5 a f.2 q];·rw[xE b.4 λo z=>?_];(replace f:=q▸f;replace f:=z▸f);cases f
theorem uc(h:Ab M A (Lk .In u c) (λv j=>∃b,v= .bool b/\Q (.bool<|!b) j) E s):Ab M A (Lk .NotIn u c) Q E s:=λf p g=>by have h:=h f p g;change Sem.wp M f (contains c u>>=λb=>pure<|To b) _ _ _ _ at h;rw[(?_:Sem.wp M f (contains c u>>=λb=>pure<|To<|!b) _ _ _ _)];rw[Sem.wp_bind']at h⊢;rw[Sem.wp_mono M f _ (λb p s h=>?_) (λZ Z Z h=>h) _ _ h,AY h λk e q=>?_,U (PySem.Value.bool.inj e) ?_,q]
theorem bE:∀{X c h H s A Q E}{a b:MV}{u v:AX}{r:AL}(f:Dy X)(z:A.units+66<Ku)(x:St X c h H s)(j:RV X.T.strs h s.heap a u)(rv:RV X.T.strs h s.heap b v)(e:Qa H a b=V r)(P:∀O,Af X c [] h s h H O->Q (.bool r) O),Ab X.M A (Lk .In u v) Q E s:=by intros X c h H s A Q E a b u v r _ f z x j rv e P;induction b using MV.casesOn with|tup l=>intros _ l _ rv e;(have e:((view H a).bind λx=>(views H l).map λK=>K.any λy=>IL y x)=V r:=by induction a using MV.casesOn<;>exact e);rw[BQ e λw e1 e=>Bo e λws M e=>?_];subst e;(rw[xA (QC x e1 j) λKr p=>?_];obtain⟨as,N⟩:=Kr);(injection(Ih rv)with t g n _ Pq i _ q;subst Pq);(rw[Fb (aH f.3 x M q) λu9 R S W=>?_];obtain⟨bs,T⟩:=u9);rw[SeqAt.in_tuple_reads (.tuple i Y Y T) N S (Ry f.3.2 p).1 (CH (CD (L (Pw _ _) W) _)<|CH (CD (((dc Y):2<=66)) A.units) z)<|U (X4 f.3 p R)<|P _<|Af.refl x]|ref i=>intros _ i _ rv e;(injection(J1 rv)with b _ J aac;rw[U aac ?_]);(have e:(match H[i]? with|V (.list _ l)=>(view H a).bind λx=>(views H l).map λK=>K.any λy=>IL y x|V (.dict _ B)=>if isKey a=I/\Df (L9 a) B=I then V (Cd a B).isSome else C|_=>C)=V r:=by induction a using MV.casesOn<;>exact e);(cases m:H[i]? with|none=>rw[m]at e;rw[nn e]|some o=>rw[m]at e;induction o using AK.casesOn with|list fz l=>rw[BQ e λw e1 e=>Bo e λws M e=>?_];subst e;(rw[xA (QC x e1 j) λsF p=>?_];obtain⟨as,N⟩:=sF);rw[By (x.GR J m) λg n il q Z=>?_];(rw[Fb (aH f.3 x M q) λV9 R S W=>?_];obtain⟨bs,T⟩:=V9);rw[SeqAt.in_list_reads (.list il Y Y T) N S (Ry f.3.2 p).1 (CH (CD (L (Pw _ _) W) _)<|CH (CD (((dc Y):2<=66)) A.units) z)<|U (X4 f.3 p R)<|P _<|Af.refl x]|dict fz B=>intros _ fz B _ e m;rw[CB e λF e=>?_];obtain rfl:=AN e;have lo:=xS f x m J;rw[AY (x.at m) λb' wi ro=>?_];obtain rfl:=AN<|J.symm.trans wi;(induction a using MV.casesOn with|int k=>rw[AY (ro.2.2.1 F.2) λkvs D r=>?_,xE (Jx j) λt Xw=>U Xw ?_];rw[(jk (k:=k) r).is]at P;rw[wpAny_in_of (by simp [PySem.intKind,Pz]:(J6 X.prog X.w).is k (.int k t)=I) lo (WW D)<|P _<|Af.tok x]|tup l=>rw[AY (ro.2.2.2 F.2) λxs D r=>xE (XI.mp F.1) λks ek=>?_,AY (Ww ek j) λt ZT G=>U ZT ?_];rw[(iX ek r).is,Option.isSome_map]at P;rw[wpAny_in_heap (di<|CH (CD ((dc Y)) _) z) G lo D<|P _<|Af.tok x]|_=>rw[nb F.1])|inst=>rw[nn e])|_=>clear j;induction a using MV.casesOn<;>exact nn e
theorem vg{H a b r}{G:Prop}(e:QI H a b=V r)(k:∀w y,view H a=V w->view H b=V y->IL w y=r->G):G:=BQ e λw f e=>Bo e λy c e=>k w y f c e
theorem cQ:∀{X h i H s A Q E a b u v r}(c:Dy X)(f:A.units+66<Ku)(x:St X h i H s)(j:RV X.T.strs i s.heap a u)(g:RV X.T.strs i s.heap b v)(e:QI H a b=V r),(Q (.bool r) s->Ab X.M A (Lk .Eq u v) Q E s)/\(Q (.bool<|!r) s->Ab X.M A (Lk .NotEq u v) Q E s):=by intros X h i H s A Q E a b u v r _ c f x j g e;rw[vg e λw y D C e=>by rw[Ag e ?_];obtain⟨⟨G,m⟩,p⟩:=QC x D j;obtain⟨⟨F,k⟩,o⟩:=QC x C g;have B:=cL c.3 p;have z:=cL c.3 o;have q:=jB c.3.1 p o;rw[⟨λP=>eq_dataH m k B z (CH (CD ((dc Y)) _) f)<|q.symm▸P,λP=>ne_dataH m k B z (CH (CD ((dc Y)) _) f)<|q.symm▸P⟩]]
theorem ij(c:RV X.T.strs μ s.heap a u):(u== .none)=FT a:=by induction a using MV.casesOn with|none=>rw[U c ?_];rfl|bool b=>rw[U c ?_];rfl|int i=>(rw[xE c λt m=>?_];clear c;rw[U m ?_]);rfl|str k=>(rw[G3 c λy t Z j=>?_];clear c;rw[U j ?_]);rfl|tup l=>(rw[Ht c λt Z Z g Z=>?_];clear c;rw[U g ?_]);rfl|ref i=>(rw[AY c λt Z f=>?_];clear c;rw[U f ?_]);rfl
theorem qF(f:Dy X)(g:A.units+66<Ku)(x:St X envs μ H s){op a b u v r}(c:RV X.T.strs μ s.heap a u)(rv:RV X.T.strs μ s.heap b v)(e:Ei H op a b=V r)(P:∀h,Af X envs [] μ s μ H h->Q (.bool r) h):Ab X.M A (Lk (W6 op) u v) Q E s:=by
 revert f g x;intros _ X envs μ H s A Q E op a b u v r _ c rv e P f g x;have o:((Oc a b).bind λp=>Sh p.1 p.2 op)=V r->Ab X.M A (Lk (W6 op) u v) Q E s:=λe=>BQ e λp i e=>jJ i λe1 n=>by intros _ p _ i e e1 n;clear i;subst e1 n;obtain⟨t,rfl⟩:=Jx c;obtain⟨w,rfl⟩:=Jx rv;have P:=P _ (Af.refl x);induction op using EG.casesOn with|lt=>(replace e:=AN e;subst e);rw[PySem.P.lt_int P]|le=>(replace e:=AN e;subst e);rw[PySem.P.le_int P]|gt=>(replace e:=AN e;subst e);rw[PySem.P.gt_int P]|ge=>(replace e:=AN e;subst e);rw[PySem.P.ge_int P]|_=>rw[nn e]
 induction op using EG.casesOn with|eq=>rw[(cQ f g x c rv e).1<|P _<|Af.refl x]|ne=>rw[Bo e λk j l=>(cQ f g x c rv j).2<|l▸P _ (Af.refl x)]|is=>rw[CB e λm e=>?_];obtain rfl:=VA m;rw[U (SR rv)<|is_none<|U (ij c)<|U (AN e)<|P _<|Af.refl x]|isin=>rw[bE f g x c rv e P]|MT=>rw[Bo e λb j l=>uc<|bE f g x c rv j λh q=>(Aa _ Y<|l▸P h q)]|PV=>rw[CB e λm e=>?_];obtain rfl:=VA m;rw[U (SR rv)<|isNot_none<|U (ij c)<|U (AN e)<|P _<|Af.refl x]|_=>rw[o e]
end
section
open PySem PySem.W PySem.Calls PyProof.Rows
variable{X:Cx}{envs:AB Env}{μ:AB AQ}{H:MH}{s:Ae}{A:Bq}{Q:AX->Ae->Prop}{E:AX->Ae->Prop}{d:AE}{rz:AL}
theorem PE:∀(b:Expr)(o i:AX),∃c,subscripted b T o i=operate c (MQ o i):=by intros b o i;induction b using Cr with|Slice l u f p=>(induction f using C4 with|none=>rw[⟨[i,o],Y⟩]|some e=>rw[⟨[o,i],Y⟩])|_=>rw[⟨[o,i],Y⟩]
theorem XD:∀{k n j}(e:idx k n=V j),Ug k n=V j/\j<n/\((0<=k/\k.toNat=j/\k<n)\/(k<0/\-(n:J)<=k/\(k+n).toNat=j)):=by
 intros k n j _ e;unfold idx at e;unfold Ug;rw[Ao (λh:0<=k=>?_) λh=>?_];·replace e:=(AM h)▸e;rw[CB e λb e=>?_,Ag (AN e) ?_,U (AS<|Gn.mpr h)<|(BX (AM<|DN.mpr ⟨DD h,DD b⟩) ((RN h).mpr b)<|.inl<|BX h Y b)]
 ·replace e:=(AS h)▸e;rw[CB e λb e=>?_,Ag (AN e) ?_,U (AM<|Uz.mp h) ?_];(have c:k+(n:J)<n:=by lia);rw[(BX (AM<|DN.mpr ⟨DD b,DD c⟩) ((RN b).mpr c)<|.inr<|BX (Uz.mp h) (by lia) Y)]
abbrev Item(X:Cx)(A:Bq)(a b:Expr)(u v:AX)(Q:AX->Ae->Prop)(E:AX->Ae->Prop)(s:Ae):Prop:=Ab X.M A (MQ u v) Q E s/\Ab X.M A (Oa a b u v) Q E s
theorem item_at{k l w}{b:CI AX}(h:BC)(e:((idx k l.length).bind λj=>l[j]?)=V w)(r:Ax X.T.strs μ h l b.toList):∃j y,idx k b.size=V j/\b[j]?=V y/\RV X.T.strs μ h w y:=BQ e λj o m=>by rw[AY (r.get m) λy g c=>?_];have f:b.size=l.length:=r.length;rw[(DI j y (f▸o) (Jz▸g) c)]
theorem item_tup(x:St X envs μ H s){l k u v}{c b:Expr}(B:RV X.T.strs μ s.heap (.tup l) u)(q:RV X.T.strs μ s.heap (.int k) v)(P:AU X envs [] μ s (C5 X) (EA H (.tup l)<|.int k) Q E):Item X A c b u v Q E s:=by(rw[Dz B λt o n m D z r=>?_];clear B;rw[U m ?_]);(rw[xE q λp f=>?_];clear q;rw[U f ?_]);rw[AU.Ha P λw e P=>By (item_at s.heap e r) λj y L K F=>DE (XD L) λG M C=>?_];rw[HZ]at z;have g:Ab X.M A (MQ (.ref t)<|.int k p) Q E s:=PySem.P.getItem_tuple D (g_ z C).1 (g_ z C).2 G K (P _ _ _ (Af.refl x) F);rw[xE (PE b (.ref t)<|.int k p) λI J=>⟨g,NV (HK D).typeIs Ri.lookup g J⟩]
theorem item_list(x:St X envs μ H s){i fz l}{k}{w u t}{c b}(D:RV X.T.strs μ s.heap (.ref i) u)(J:H[i]?=V (.list fz l))(e:((idx k l.length).bind λj=>l[j]?)=V w)(P:AU X envs [] μ s (C5 X) (.ok w H) Q E):Item X A c b u (.int k t) Q E s:=by
 rw[AY (J1 D) λa K f=>U f ?_,By (x.GR K J) λp n q r z=>By (item_at s.heap e r) λj y L B C=>DE (XD L) λN M F=>?_];have P:=P _ _ _ (Af.refl x) C;replace z:=HZ▸z;have g:Ab X.M A (MQ (.ref a)<|.int k t) Q E s:=by rcases F with⟨o,m,v⟩|⟨o,m,v⟩;rw[wpAny_getItem_list (GH q) o (by lia) (m.symm▸B) P,wpAny_getItem_list_neg (GH q) o m (by lia) (v.symm▸B) P]
 rw[xE (PE b (.ref a)<|.int k t) λG I=>⟨g,NV (GH q).typeIs gC.lookup g I⟩]
theorem item_dict(k:s.TypeIs (.ref a) "dict")(g:Ab X.M A (MQ (.ref a) v) Q E s):Item X A c b (.ref a) v Q E s:=by rw[xE (PE b (.ref a) v) λf j=>⟨g,NV k slot_dict_getitem.lookup g j⟩]
theorem pA:∀{X n t H s A Q E i k u v b c}(x:St X n t H s)(f:RV X.T.strs t s.heap (.ref i) u)(j:RV X.T.strs t s.heap (.int k) v)(P:AU X n [] t s (C5 X) (EA H (.ref i)<|.int k) Q E),Item X A b c u v Q E s:=by intros X n t H s A Q E i k u v b c _ x f j P;(rw[xE j λz p=>?_];clear j;rw[U p ?_]);rw[AU.Ha P λw e P=>BQ e λo y e=>?_];induction o using AK.casesOn with|list G l=>rw[item_list x f y e P]|dict G J=>rw[CB e λC e=>?_];(rw[AY f λa F m=>?_];clear f;rw[U m ?_]);rw[AY ((x.at' F y).2.2.1 C) λB D r=>AY ((e▸jk r:G7 _ _ _ (V w) _).WN) λh q g=>?_,item_dict (WW D).typeIs<|wpAny_getItem_of (by simp [PySem.intKind,Pz]:(J6 X.prog X.w).is k (.int k z)=I) (WW D) q<|P _ _ _ (Af.tok x) g]|inst=>rw[nn e]
theorem vy:∀{X h n H s A Q E i l u v b c}(B:A.units+66<Ku)(x:St X h n H s)(z:RV X.T.strs n s.heap (.ref i) u)(y:RV X.T.strs n s.heap (.tup l) v)(P:AU X h [] n s (C5 X) (EA H (.ref i)<|.tup l) Q E),Item X A b c u v Q E s:=by intros X h n H s A Q E i l u v b c _ B x z y P;rw[AU.Ha P λw e P=>BQ e λO o e=>wh o λN o I=>CB e λF e=>?_,AY (J1 z) λa J k=>U k ?_,AY ((x.at' J o).2.2.2 I) λK D r=>xE (XI.mp F) λM C=>?_,AY (Ww C y) λt j m=>U j ?_,AY ((e▸iX C r:G7 _ _ _ (V w) _).WN) λL q g=>?_];(rw[AY (ML.mp q) λp G f=>?_];clear q;subst f);rw[item_dict (D.typeIs (s:=s))<|wpAny_getItem_heap (di<|CH (CD ((dc Y)) _) B) m D G<|P _ _ _ (Af.tok x) g]
theorem y9(m:A.units+66<Ku)(x:St X envs μ H s)(j:RV X.T.strs μ s.heap a u)(g:RV X.T.strs μ s.heap b v)(P:AU X envs [] μ s (C5 X) (EA H a b) Q E):Item X A c f u v Q E s:=by induction a using MV.casesOn with|tup l=>(induction b using MV.casesOn with|int k=>rw[item_tup x j g P]|_=>rw[P.elim])|ref i=>(induction b using MV.casesOn with|int k=>rw[pA x j g P]|tup l=>rw[vy m x j g P]|_=>rw[P.elim])|_=>clear g;induction b using MV.casesOn<;>exact P.elim
theorem zR(c:CI AX)(a:0<=k):RM c C (V k) C=(c.toList.take k.toNat).toArray:=by rw[xE (Mk a) λb f=>U f ?_,Ao (λh:b<=c.size=>?_) λh=>?_,slicePick_upto c b h];·(have e:RM c C (V (b:J)) C=RM c C (V ((c.size:G):J)) C:=by unfold RM sliceBounds;simp [(Gn.mpr<|EE b:¬((b:J)<0)),(Gn.mpr<|EE _:¬((c.size:J)<0)),(Int.min_eq_right<|DM.mpr<|Yt h:min (b:J) (c.size:J)=c.size),(Int.min_self _:min (c.size:J) (c.size:J)=c.size)]);rw[U e<|U (slicePick_upto c c.size<|B2 _)<|U (by rw[Ag JF<|U W7 Y]:c.toList.take c.size=c.toList)<|U (PJ<|by rw[JF,Ya]at⊢;rw[Yt h]) Y]
theorem Y1(x:St X envs μ H s){i u p o h st b j q lo y l m}(v:RV X.T.strs μ s.heap (.ref i) u)(k:H[i]?.bind AK.Cc=V l)(M:s.heap.IsSliceOf j p o h)(D:IsPart p lo)(C:IsPart o y)(N:IsPart h st)(R:st≠V 0)(I:∀t:CI AX,Ax X.T.strs μ s.heap l t.toList->∃g,RM t lo y st=List.toArray g/\Ax X.T.strs μ s.heap m g)(P:AU X envs [] μ s (C5 X) (newList m H) Q E):Ab X.M A (Oa b q u<|.ref j) Q E s:=Ge k λK k=>by(rw[AY v λa J f=>?_];clear v;subst f);rw[By (x.GR J k) λc n w r z=>AY (I c r) λg e B=>?_,xE (PE q (.ref a)<|.ref j) λF G=>NV (GH w).typeIs gC.lookup (wpAny_getItem_list_slice (GH w) M D C N R (e▸((TO x (t:=s.toks) P B).2)) z) G]
theorem wd(x:St X envs μ H s)(y:RV X.T.strs μ s.heap (.tup l) u)(q:RV X.T.strs μ s.heap (.int k) v)(a:s.heap.IsSliceOf m v .none .none)(o:1<=k/\k<=l.length)(P:AU X envs [] μ s (C5 X) (Gw (l.drop k.toNat) H) Q E):Ab X.M A (Oa b p u<|.ref m) Q E s:=by(rw[Dz (Ih y) λt c n g w z r=>?_];clear y;subst g);(rw[xE q λI f=>?_];clear q;subst f);rw[xE (Mk<|Fm ((dc Y)) o.1) λj F=>?_];subst F;have D:c.size=l.length:=r.length;rw[xA (Tp x (t:=s.toks) P<|r.drop j) λZ G=>xE (PE p (.ref t)<|.ref m) λB C=>NV (HK w).typeIs Ri.lookup (getItem_tuple_from (HK w) a (DM.mp o.1) (D▸DM.mp o.2) G z) C]
theorem sY:∀{X c g H s A Q E a b u v f n t}(x:St X c g H s)(o:RV X.T.strs g s.heap a u)(rv:RV X.T.strs g s.heap b v)(h:s.heap.IsSliceOf n v .none .none)(P:AU X c [] g s (C5 X) (Qd H a b) Q E),Ab X.M A (Oa f t u<|.ref n) Q E s:=by intros X c g H s A Q E a b u v f n t _ x o rv h P;induction a using MV.casesOn with|tup l=>(induction b using MV.casesOn with|int k=>rw[AU.ite P λm P=>wd x o rv h m P]|_=>rw[P.elim])|ref i=>rw[AU.opt P λZ e P=>BQ e λp e1 e=>BQ e λl y e=>CB e λm q=>jR e1 λe1 z=>by cases e1;clear e1;subst z;(replace q:=AN q;subst q);obtain⟨D,rfl⟩:=rv;obtain⟨j,B⟩:=Mk m.1;rw[B]at h P m;rw[Y1 x o y h (.int _ _) .none .none (λe=>(by cases e)) (λw r=>(Aa _ (slicePick_from w j ?_)<|r.drop j)) P];have:w.size=l.length:=r.length;lia]|_=>clear rv;induction b using MV.casesOn<;>exact P.elim
theorem px:∀{X c g H s A Q E a b u v f h j}(x:St X c g H s)(k:RV X.T.strs g s.heap a u)(rv:RV X.T.strs g s.heap b v)(m:s.heap.IsSliceOf h .none v .none)(P:AU X c [] g s (C5 X) (R6 H a b) Q E),Ab X.M A (Oa f j u<|.ref h) Q E s:=by intros X c g H s A Q E a b u v f h j _ x k rv m P;rw[AU.opt P λZ e P=>BQ e λp e1 e=>BQ e λl n e=>CB e λo i=>jR e1 λe1 q=>by subst e1 q;(replace i:=AN i;subst i);obtain⟨w,rfl⟩:=rv;rw[Y1 x k n m .none (.int _ _) .none (λe=>nomatch e) (λt r=>(Aa _ (zR t o.1)<|r.take _)) P]]
theorem sQ(n:G):VY ((n:J)-1) (-1) (-1)=n:=by unfold VY;rw[U (AS<|(dc Y))<|U (((dc Y):(- -1:J)=1))<|U (Int.ediv_one ..) ?_];split<;>lia
theorem qC(a:CI AX):((G_ a.size).filterMap λ(k:G)=>a[(((a.size:G):J)-1+(k:J)* -1).toNat]?).toArray=a.toList.reverse.toArray:=by rw[Ag (krv_all a)<|Ag List.filterMap_reverse<|Ag (krv_range ..)<|U List.filterMap_map<|A_ (λf=>(X2 f<|G_ a.size).toArray)<|GJ λk=>A_ (λn=>a[n]?)<|(?_:_=a.size-1-k),toN _ _]
theorem oW:∀{s A Q E a w t g b n u}(k:IsT s.heap t b n)(i:s.heap.IsSliceOf g .none .none<|.int (-1) u)(e:b.size<=E0)(h:Q (.ref s.heap.objs.size) {s with heap:=s.heap.push {cls:= .type "tuple",data:= .seq b.toList.reverse.toArray}}),Ab (BO a w) A (MQ (.ref t)<|.ref g) Q E s:=by
 intros s A Q E a w t g b n u _ k i e h;have j:sizeOk<|.seq b.toList.reverse.toArray:=by rw[((U Sz<|U Bu<|U JF e):b.toList.reverse.toArray.size<=E0)]
 injection(id i)with r _ c p f;have q:s.TypeIs (.ref t) "tuple":=(Aa _ k Y);unfold MQ;try with_reducible rw[GX ?_]
 first|rw[Ah<|B8 ?_]|skip
 rw[Ah<|bw q ((dc Y))<|Ah<|Xr (name:=J9 "__getitem__") q Ri<|Xp Ri q entry_tuple_getitem ?_<|args_tuple_getitem _ _,((Ah<|wpAny_tupleItemsOf k Y ?_):Ab _ _ (Builtin.Tuple.tupleItemsOf (.ref t)>>=_) _ _ s),Ah<|wpAny_typeOf (T:="slice") (Aa r c p)<|U (AM<|(dc Y)) ?_];have v:∀{Q E},Q ((b.size:J)-1,-1,b.size) s->Ab (BO a w) A.in1 (Builtin.Slice.sliceApplied (.ref g)<|pure (b.size:J)) Q E s:=λh=>by skip;rw[Ah<|Ah<|Iq c f (x:= .none) Y<|Ah<|Iq c f (x:= .none) Y<|Ah<|Iq c f (x:= .int (-1) u) Y<|B8<|Ah<|slicePart_int<|((U (AS<|(dc Y))<|Ah<|slicePart_none<|Ah<|slicePart_none<|Ah<|B8<|((U (sQ ..)<|B8 h):Ab _ _ (pure (((b.size:G):J)-1,(-1:J),VY (((b.size:G):J)-1) (-1)<|-1)) _ _ s)):Ab _ _ (if((-1:J)==0)=I then _ else _) _ _ s)]
 rw[Ah<|v ?_];have o:¬(((((b.size:G):J)-1==0)&&((-1:J)==1)&&(b.size==b.size))=I):=by rw[U ((Y:((-1:J)==1)=T))<|U (ZN ..)<|U (Vd ..) bX]
 rw[(?_:Ab _ _ (if((((b.size:G):J)-1==0)&&((-1:J)==1)&&(b.size==b.size))=I then _ else _) _ _ s),U (AS o)<|U (qC b) ?_];first|rw[Ah (m:=Tu _)<|LQ (B8<|Aa _ Y<|B8 h) j]|rw[Ah<|Ah (m:=Tu _)<|LQ (B8<|B8 ⟨_,Y,B8 h⟩) j]|rw[Ah<|Ah (m:=Tu _)<|LQ (B8 ⟨_,Y,B8 h⟩) j]|rw[Ah (m:=Tu _)<|LQ (Ah<|B8<|B8 ⟨_,Y,B8 h⟩) j]
theorem xH(x:St X envs μ H s){a u t b f j}(k:RV X.T.strs μ s.heap a u)(h:s.heap.IsSliceOf f .none .none<|.int (-1) t)(P:AU X envs [] μ s (C5 X) (ZU H a) Q E):Ab X.M A (Oa b j u<|.ref f) Q E s:=by induction a using MV.casesOn with|tup l=>rw[Dz (Ih k) λt g n c m z r=>U c ?_,xE (PE j (.ref t)<|.ref f) λp q=>NV (HK m).typeIs Ri.lookup (oW m h z (Tp x (t:=s.toks) P r.reverse).2) q]|ref i=>rw[AU.opt P λl v P=>Y1 x k v h .none .none (.int _ _) (λe=>nomatch e) (λo r=>(Aa _ (krv_pick o) r.reverse)) P]|_=>rw[P.elim]
end
section
open PySem PySem.W PySem.Calls PyProof.Rows
variable{X:Cx}{envs:AB Env}{μ:AB AQ}{H:MH}{s:Ae}{A:Bq}{E:AX->Ae->Prop}{d:AE}{rz:AL}
section
theorem tj:∀{s A E b w}{l}{a}{n}{k}{j}{t}{v}{Q}(g:IsL s.heap l a n)(m:idx k a.size=V j)(p:a.size<=E0)(q:Q () {s with heap:=s.heap.update l (OL (·.setIfInBounds j v))}),Ab (BO b w) A (setItem (.ref l) (.int k t) v) Q E s:=by
 intros s A E b w l a n k j t v Q _ g m p q;have Q3:=GH g;obtain⟨u,x,y⟩:=XD m;have z:j<a.size:=x;replace p:=HZ▸p;have e:lz k=I:=by rcases y with⟨c,_,o⟩|⟨c,h,_⟩;rw[fitsIndex_of c<|by lia,fitsIndex_neg c<|by lia]
 unfold setItem;try with_reducible rw[GX ?_]
 first|rw[Ah<|B8 ?_]|skip
 rw[Ah<|bw Q3.typeIs ((dc Y)) ?_,Ah<|Xr (name:=J9 "__setitem__") Q3.typeIs hH<|Xp hH Q3.typeIs entry_list_setitem ?_<|args_list_setitem _ _ _,((Ah<|wpAny_listSubscript_int e ?_):Ab _ _ (Builtin.List.listSubscript? (.int k t)>>=_) _ _ s)];have fin:Ab (BO b w) A.in1 (setSeqItemAt l j v>>=λZ=>ret .none) (λf D=>∃r,f= .done (.ret r)/\Ab (BO b w) A (pure ()) Q E D) E s:=Ah (wpAny_setSeqItemAt g Y<|B8<|Aa .none Y<|B8 q);rcases y with⟨c,h,o⟩|⟨c,h,o⟩;·obtain⟨i,rfl⟩:=Mk c;intros _ i _ m u e c h o;clear q x;subst h;rw[((Ah<|Ah<|wpAny_seqItemAt g Y<|B8<|U ((TG z:a[i]?=V a[i])) ?_):Ab _ _ ((seqItemAt l i>>=λr=>pure (r.map (i,·)))>>=_) _ _ s),fin]
 ·(obtain⟨i,rfl⟩:∃i:G,k=Lq i:=by cases k with|ofNat n=>rw[Aj c<|Gn.mpr<|EE n]|negSucc n=>rw[⟨n,Y⟩]);intros _ i _ m u e c h o;rw[((Ah<|Ah<|(?_:Ab _ _ (seqItems? (.ref l)>>=_) _ _ s)):Ab _ _ ((Builtin.List.listItems (.ref l)>>=λB=>pure ((Ug (Lq i) B.size).bind λi=>B[i]?.map (i,·)))>>=_) _ _ s),Ah<|Xl g Y<|B8<|B8<|U u<|U (fV ..)<|U (TG z) ?_,fin]
end
def Gj{K:Type} [GD K](k:K)(v:AX):O (K×AX)->O (K×AX)|[]=>[(k,v)]|(a,u)::r=>if a=k then(a,v)::r else(a,u)::Gj k v r
theorem cY{K} [GD K](k:K)(v:AX){e}:(e.map (·.1)).Nodup->stored e k v=Gj k v e:=by induction e with|nil=>intro _;rfl|cons p r b=>obtain⟨a,u⟩:=p;intro c;rw[M4,DF]at c;have b:=b c.2;unfold stored at b⊢;rw[((Ao (λh:a=k=>?_) λh=>?_):_=if a=k then(a,v)::r else(a,u)::Gj k v r)];(·rw[Ag h ?_];simp [(map_store_of_not_mem r a v c.1)]);·rw[U (AS h)<|U SO<|U (Dk h)<|U (aj ..)<|Ag b<|Ao (λq:(r.any λx=>decide<|x.1=k)=I=>?_) λq=>?_,U (AM q)<|U (AM q)<|U M4<|U (AS h) Y];·rw[U (AS q)<|U (AS q) ?_];rfl
theorem Qb:EH k v (p::r)=if Dw p.1 k=I then(p.1,v)::r else p::EH k v r:=Y
theorem OX{K} [GD K]{k}{v}{p:K×AX}{r}:Gj k v (p::r)=if p.1=k then(p.1,v)::r else p::Gj k v r:=Y
theorem abC:∀{f}{S:O Am}{h}{k}{x}{v}{u}{c}(i:S.Nodup)(e:S[k]?=V x)(rv:RV S f h v u),∀{b},HH S f h c b->HH S f h (EH (.str k) v c) (Gj x u b):=by intros f S h k x v u c _ i e rv;induction c with|nil=>intro b r;obtain rfl:=((r:b=[]));rw[(O' k x u ([]) Y e Y rv Y)]|cons p c n=>intro b r;obtain⟨a,o⟩:=p;(rw[Lg r λj y l t Bf g E9 QV m=>?_];clear r;subst Bf;subst E9);rw[U Qb<|U OX<|Ao (λq:j=k=>?_) λq=>?_];(·subst q;obtain rfl:=AN<|e.symm.trans g;rw[U (AM Y)<|U (AM<|(I' j:Dw (.str j) (.str j)=I))<|(O' j x u t Y e Y rv m)]);rw[U (AS<|(lG i g e q:¬(y,l).1=x))<|U (AS<|(λz=>q<|Bn.mp z:¬Dw (.str j) (.str k)=I))<|(O' j y l _ Y g Y QV<|n m)]
theorem jl:∀{e}{S:O Am}{h:BC}{k:J}{v:MV}{u:AX}{c:O (MV×MV)}(rv:RV S e h v u),∀{b:O (J×AX)},Hz S e h c b->Hz S e h (EH (.int k) v c) (Gj k u b):=by intros e S h k v u c _ rv;induction c with|nil=>intro b r;obtain rfl:=((r:b=[]));rw[(HV k u ([]) Y Y rv Y)]|cons p c i=>intro b r;obtain⟨a,l⟩:=p;(rw[Dz r λj f t Fy Ga QV g=>?_];clear r;rw[U Fy<|U Ga ?_]);rw[U Qb<|U OX<|Ao (λq:j=k=>?_) λq=>?_];(·subst q;rw[U (AM Y)<|U (AM<|(I' j:Dw (.int j) (.int j)=I))<|(HV j u t Y Y rv g)]);rw[U (AS<|(q:¬(j,f).1=k))<|U (AS<|(λz=>q<|Bn.mp z:¬Dw (.int j) (.int k)=I))<|(HV j f _ Y Y QV<|i g)]
theorem kF:∀{a},Hz S μ h f a->a.length=f.length:=by induction f with|nil=>intro a r;obtain rfl:=((r:a=[]));rfl|cons p f b=>intro a r;(rw[Dz r λZ Z t Z MP Z c=>?_];clear r;rw[U MP ?_]);rw[A_ (·+1)<|b c]
theorem aaR:∀{a},HH S μ h f a->a.length=f.length:=by induction f with|nil=>intro a r;obtain rfl:=((r:a=[]));rfl|cons p f b=>intro a r;(rw[Lg r λZ Z Z t Z Z Kr Z c=>?_];clear r;rw[U Kr ?_]);rw[A_ (·+1)<|b c]
theorem T8(k v:MV)(a:O<|MV×MV):(EH k v a).length<=a.length+1:=by induction a with|nil=>rw[B2 _]|cons p r b=>rw[U Qb<|Ao (λq:Dw p.1 k=I=>?_) λq=>?_,U (AM q)<|E2 _,U (AS q)<|Ce b]
theorem i3(x:IsL h l b n)(f:CI AX->CI AX):∃c,IsL (h.update l<|OL f) l (f b) c:=⟨_,x.update f⟩
theorem Fj(b:o.cls= .type a)(f:a≠"tuple"):¬Fc o:=λc=>f<|by have:=c.1;rw[Value.type.inj<|b▸this]
theorem Lb(e:h.get? a=V f)(aap:¬Fc f)(k:∀b,b≠a->g.get? b=h.get? b):F' h g:=λb Vj m c=>(k b λq=>by clear k;subst q;obtain rfl:=AN<|e.symm.trans c;rw[aap<|N5 Y _ _ Y]).trans c
theorem tP:∀{X envs μ H s A E}{a b c:MV}{u v y:AX}{N:MH}{Q:BF->Ae->Prop}(x:St X envs μ H s)(F:RV X.T.strs μ s.heap a u)(C:RV X.T.strs μ s.heap b v)(B:RV X.T.strs μ s.heap c y)(e:ZZ H a b c=V N)(P:∀s',Af X envs [] μ s μ N s'->Q () s'),Ab X.M A (setItem u v y) Q E s:=by intros X envs μ H s A E a b c u v y N Q _ x F C B e P;induction a using MV.casesOn with|ref i=>intros _ i _ F e;(injection(J1 F)with a _ q I;rw[A9 I ?_]);(induction b using MV.casesOn with|int k=>intros _ k _ C e;(injection(Jx C)with T _ G;rw[A9 G ?_]);rw[Bo e λo2 e e9=>BQ e λo p e=>?_];subst e9;(induction o using AK.casesOn with|list M l=>(induction M using BG with|true=>rw[nn e]|false=>rw[Bo e λj hj e=>?_];subst e;rw[By (x.GR q p) λf n J r z=>?_];have w:f.size=l.length:=r.length;have g:∀b,b≠a->(s.heap.update a<|OL (·.setIfInBounds j y)).get? b=s.heap.get? b:=λb m=>F6 _ _<|DK m;rw[tj J (w▸hj) z<|P _<|Af.upd x p q Y Y Y (t:=s.toks) (λb o e m=>(g b m).trans e)<|xE (i3 J (·.setIfInBounds j y)) λU h=>(DI _ U h (A9 Array.toList_setIfInBounds<|(r.set _ B).mono (Bh.refl _)<|Lb J (Fj Y<|(dc Y)) g)<|Array.size_setIfInBounds.symm▸z)])|dict M es=>(induction M using BG with|true=>rw[nn e]|false=>rw[CB e λS e=>?_];(replace e:=AN e;subst e);have O:=x.at' q p;rw[AY O.kind λox K t=>AY (O.2.2.1 S.2) λW D r=>KJ (id D) λ_ ds _ _ _ _ _ hp Z=>?_,wpAny_setItem_pairs ((by simp [PySem.intKind,Pz]:(PySem.intKind X.prog X.w).is k (.int k T)=AG)) D (λh' D' R=>P _<|Af.upd x p q Y Y Y (λb o e m=>(R.2 b m).trans e)<|.Pe (L (T8 _ _ _) S.1) D' ?_)<|by rw[A9 (kF r)<|A9 HZ ?_];lia,A9 (cY _ _ Z)<|(jl B r).mono (Bh.refl _)<|Lb K t R.2])|inst=>rw[nn e])|_=>rw[nn e])|_=>clear C;induction b using MV.casesOn<;>exact nn e
end
section
open PySem PySem.W PySem.Calls PyProof.Rows
variable{X:Cx}{envs:AB Env}{μ:AB AQ}{H:MH}{s:Ae}{A:Bq}{E:AX->Ae->Prop}{d:AE}{rz:AL}
inductive Oo(X:Cx):Prop
 |mk(base:∀c ca,X.cls c=V ca->c≠X.P.Et->∀nm,Sl X.K ca nm=I)(acs:∀c ca,X.cls c=V ca->Oy X.K ca=I)(get:∀c ca nm,X.cls c=V ca->D9 X.K (.ref ca) nm=V C->∀{A:Bq}{s:Ae}{Q E:AX->Ae->Prop}{a:AQ}{ox:Obj}{ds:O LK}{n:G}{v:AX}{expr:AL},X.K.In s.heap->InstAt s.heap a ox ca (V<|DQ ds n)->Jf nm (DQ ds n)=V (V v)->Nf v=I->Q v {s with toks:=s.toks+1}->Ab X.M A (M3 (.ref a) nm expr) Q E s)(names:∀c ca k nm,X.cls c=V ca->X.T.strs[k]?=V nm->(X.P.Fd c k=C->D9 X.K (.ref ca) nm=V C)/\∀f,X.P.Fd c k=V f->∃fa,X.fn f=V fa/\D9 X.K (.ref ca) nm=V (V<|.ref fa)/\isFn X.K (.ref fa)=I)(sets:∀c ca,X.cls c=V ca->c≠X.P.Et->UW X.K ca=I/\D9 X.K (.ref ca) "__setattr__"=V (V<|.builtin "object.__setattr__")/\makesIn X.K ca=I)(acd:∀c ca f,X.cls c=V ca->c≠X.P.Et->X.P.init c=V f->∃fa,X.fn f=V fa/\D9 X.K (.ref ca) "__init__"=V (V<|.ref fa)/\MS X.K (.ref fa)=V (.type "function"))
section
theorem b5{h:BC}{a e}(x:h.DictOf (PySem.strKind i w) a e):∃g n,h.get? a=V (DQ g n)/\KeysOf (PySem.strKind i w) g.toArray/\Pairs (PySem.strKind i w) g e/\(e.map (·.1)).Nodup:=by intros _ i w h a e _ x;(injection x with f r u _ j b k q o p;obtain⟨c,C,B,m⟩:=f;intros _ c C B m _ j b k;(rw[DE b λz y v=>?_];clear b));cases z;cases y;cases v;cases k;rw[(Fq r.toList u j q o p)]
theorem Yo{h:BC}{a i j n}(e:h.get? a=V (DQ j n))(f:KeysOf (PySem.strKind g w) j.toArray)(b:Pairs (PySem.strKind g w) j i)(c:(i.map (·.1)).Nodup):h.DictOf (PySem.strKind g w) a i:=(Lp _ j.toArray n e (BX Y Y Y) Y f b c)
theorem T9{h i n}(g:KeysOf (PySem.strKind a w) i.toArray)(c:Pairs (PySem.strKind a w) i h)(nm:Am):Jf nm (DQ i n)=V (M1 h nm):=by revert g c;intros _ a w h i n nm _ g c;rw[U (WZ ..) ?_];have b:=c.find nm;have e:(λe:LK=>e.key.isStr nm)=λe=>(PySem.strKind a w).is nm e.key:=GJ λe=>isStr_of nm e.key;unfold getL;rw[U e ?_];cases q:i.find? λe=>(PySem.strKind a w).is nm e.key with|some j=>rw[q]at b;rw[A_ V b]|none=>rw[q]at b;(have:i.any (·.refKey)=T:=Vs.mpr λj o=>by rw[AY (g j<|by simpa using o) λk f Z=>xE (Value.isStrOf_shape f) λt m=>?_];simp [DictEntry.refKey,m]);rw[Ag b<|U this ?_];rfl
theorem Yr:putL nm b k v (e::r)=if e.key.isStr nm=I then⟨e.hash,e.key,v⟩::r else e::putL nm b k v r:=Y
theorem ZV:∀{a w nm b t v i h}(p:Pairs (PySem.strKind a w) i h),Pairs (PySem.strKind a w) (putL nm b (.str nm t) v i)<|Gj nm v h:=by intros a w nm b t v i h _ p;induction p with|nil=>rw[.cons (I' nm) Y .nil]| @cons e g i h f k r j=>(have c:(e.key.isStr nm=I)↔g.1=nm:=by(rw[U (isStr_of ..)<|U (show Value.isStrOf nm e.key=(PySem.strKind a w).is nm e.key from Y)<|U (KeyKind.is_eq_decide f nm) ?_];rewrite [decide_eq_true_iff]);rw[eq_comm]);rw[U Yr<|U OX ?_];by_cases q:g.1=nm;rw[U (AM<|c.mpr q)<|U (AM q)<|.cons f Y r,U (AS λz=>q<|c.mp z)<|U (AS q)<|.cons f k j]
theorem Xb:∀{b w nm t v ds}(h:∀e∈ds,∃k,(PySem.strKind b w).is k e.key=I/\e.hash=(PySem.strKind b w).hash k),∀e∈putL nm (EI w.params nm) (.str nm t) v ds,∃k,(PySem.strKind b w).is k e.key=I/\e.hash=(PySem.strKind b w).hash k:=by intros b w nm t v ds _ h;induction ds with|nil=>intros e _ m;obtain rfl:=B3.mp m;rw[(Aa nm (I' nm) Y)]|cons a ds c=>intros _ a ds _ c h;intro e m;replace m:=Yr▸m;rw[Ao (λq:a.key.isStr nm=I=>?_) λq=>?_];(·replace m:=(AM q)▸m;induction m using Cu with|head D2=>rw[U D2<|h a<|.head _]|tail m=>rw[h e<|.tail _ m]);·replace m:=(AS q)▸m;induction m using Cu with|head D2=>rw[U D2<|h _<|.head _]|tail m=>rw[c (λe m=>h e<|.tail _ m) e m]
theorem sM{K} [GD K]{k x:K}{v a}(m:x∈(Gj k v a).map (·.1)):x=k\/x∈a.map (·.1):=by induction a with|nil=>rw[.inl<|B3.mp m]|cons p r c=>rw[OX]at m;by_cases q:p.1=k;(·replace m:=(AM q)▸m;rw[.inr m]);·replace m:=(AS q)▸m;induction m using Cu with|head b=>rw[U b<|.inr<|.head _]|tail m=>rw[(c m).imp id λq=> .tail _ q]
theorem Zy{K} [GD K]{k:K}{v kvs}(b:(kvs.map (·.1)).Nodup):((Gj k v kvs).map (·.1)).Nodup:=by induction kvs with|nil=>rw[DF.mpr ⟨(λm=>(by cases m)),FC⟩]|cons p r c=>have b:=DF.mp b;rw[U OX<|Ao (λq:p.1=k=>?_) λq=>?_,U (AM q)<|DF.mpr b,U (AS q)<|DF.mpr ⟨λm=>(sM m).elim q b.1,c b.2⟩]
theorem jP(nm:Am)(b:J)(k v:AX)(a:O LK):(putL nm b k v a).length<=a.length+1:=by induction a with|nil=>rw[B2 _]|cons e r c=>rw[U Yr<|Ao (λq:e.key.isStr nm=I=>?_) λq=>?_,U (AM q)<|E2 _,U (AS q)<|Ce c]
theorem ya:∀{s A W w K x a f k t n l v Z R}(p:K.In s.heap)(i:InstAt s.heap x k a<|V<|DQ t n)(m:k.dict=V f)(u:UW K a=I)(r:takerIn K a l=V C)(y:Oy K a=I)(g:(Jf l<|DQ t n).isSome=I)(J:t.length<=900)(h:R (.ok<|.ret .none) {s with heap:=s.heap.update f (HN l (EI w.params l) (.str l s.toks) v),toks:=s.toks+1}),Ie (BO W w) A (.call (.builtin "object.__setattr__") ⟨[.ref x,.str l Z,v],[]⟩) R s:=by
 intros s A W w K x a f k t n l v Z R _ p i m u r y g J h;rw[osa_open p i u r λb=>AY (any_some y) λS M o=>?_];have D:s.heap.get? f=V (DQ t n):=by have:=i.dict;rw[m]at this;rw[this]
 have e:=QG l (EI w.params l) (.str l s.toks) v t n;have O:(s.heap.update f<|HN l (EI w.params l) (.str l s.toks) v).get? f=V (DQ (putL l (EI w.params l) (.str l s.toks) v t)<|putN l t n):=e▸JU _ D (by rw[U e ?_];rfl);obtain⟨L,j,Q,-⟩:=i;clear Q;obtain⟨P,F,G,B⟩:=k;dsimp only at j m;subst j m;rw[Ah<|B8<|Ah<|Ah<|RE L<|Ah<|(Rx p M).here<|U o<|B8 (a:=V f)<|Ah<|B8<|Ah ?_];unfold nsSet;rw[Ah<|Ah<|dM<|B8<|Ah<|Zz<|Ah<|RE D ?_];dsimp only;have c:(!t.toArray.any (·.key.isStr l)&&t.toArray.any (·.refKey))=T:=by rw[Ag TR<|Ag TR ?_];cases q:List.find? (λx=>x.key.isStr l) t with|some N=>rw[U (gk.mpr<|Aa N (kf q)<|jM q) ?_];rfl|none=>cases z:t.any (·.refKey)with|false=>simp [z]|true=>rw[WZ]at g;unfold getL at g;rw[q]at g;simp [z]at g
 rw[U (c7 ..)<|U c<|iY D ?_,Ah<|wpAny_lookBehind O (pastItsLine_dict<|by have:=jP l (EI w.params l) (.str l s.toks) v t;rw[U Sz<|U HZ ?_];lia) ?_,B8 h]
theorem w7{w:HQ}{K x a c b l n i v Q}(f:K.In s.heap)(e:InstAt s.heap x b a<|V<|DQ l n)(p:b.dict=V c)(r:D9 K (.ref a) "__setattr__"=V (V<|.builtin "object.__setattr__"))(k:UW K a=I)(j:takerIn K a i=V C)(o:Oy K a=I)(m:(Jf i<|DQ l n).isSome=I)(g:l.length<=900)(h:Q () {s with heap:=s.heap.update c (HN i (EI w.params i) (.str i<|s.toks+1) v),toks:=s.toks+2}):Ab (BO q w) A (N2 (.ref x) i v) Q E s:=set_plain f e r<|ya (s:={s with toks:=s.toks+1}) f e p k j o m g h
end
theorem St.inst:∀{X h l H s}{i:G}{c j}(x:St X h l H s)(e:H[i]?=V (.inst c j)),∃a b g f,l[i]?=V a/\s.heap.get? a=V b/\X.cls c=V g/\b.cls= .ref g/\notCls b=I/\b.dict=V f/\l[j]?=V f:=by intros X h l H s i c j _ x e;obtain⟨a,k,b,g,f,r⟩:=x.at e;rw[⟨a,b,g,f,k,r⟩]
inductive nX(X:Cx)(μ:O AQ)(s:Ae)(i c dI:G)(es:O<|MV×MV):Prop
 |mk(a:AQ)(ox:Obj)(ca da:AQ)(kvs:O<|Am×AX)(ds:O LK)(n:G)(ha:μ[i]?=V a)(hc:X.cls c=V ca)(I:InstAt s.heap a ox ca<|V<|DQ ds n)(hd:ox.dict=V da)(hm:μ[dI]?=V da)
   (ho:s.heap.get? da=V (DQ ds n))(hK:KeysOf (PySem.strKind X.prog X.w) ds.toArray)(hP:Pairs (PySem.strKind X.prog X.w) ds kvs)(hN:(kvs.map (·.1)).Nodup)(r:HH X.T.strs μ s.heap es kvs)
theorem St.X7(x:St X envs μ H s){i c b}{e}(h:H[i]?=V (.inst c b))(j:H[b]?=V (.dict T e))(k:Df 0 e=I):nX X μ s i c b e:=by revert x;intros _ X envs μ H s i c b e _ h j k x;injection(x.inst h)with a o p q _ f;rw[Fb f λt e1 u f=>Fb f λv e4 e5 w=>AY (x.at j) λZ l y=>AY (y.2.1 k) λg D r=>?_];obtain rfl:=AN<|w.symm.trans l;rw[Em (b5 D) λz n m B F K=> .mk a o p q g z n t u ⟨e1,v,e4,by rw[U e5 m]⟩ e5 l m B F K r]
theorem oR{X:Cx}{h nm}(k:Sl X.K h nm=I)(j:Oy X.K h=I)(z:D9 X.K (.ref h) nm=V C){A}{s:Ae}{Q E a c}{i}{n v b}(m:X.K.In s.heap)(e:InstAt s.heap a c h<|V<|DQ i n)(f:Jf nm (DQ i n)=V (V v))(g:Nf v=I)(q:Q v {s with toks:=s.toks+1}):Ab X.M A (M3 (.ref a) nm b) Q E s:=get_value m e (plainGet_of k).1 (findObj_own j z Y f) g q
theorem nK(g:RV X.T.strs μ s.heap m v):Nf v=I:=by induction m using MV.casesOn with|none=>rw[U g ?_];rfl|bool b=>rw[U g ?_];rfl|int i=>(rw[xE g λt o=>?_];clear g;rw[U o ?_]);rfl|str k=>(rw[G3 g λy t Z j=>?_];clear g;rw[U j ?_]);rfl|tup l=>(rw[Ht g λt Z Z f Z=>?_];clear g;rw[U f ?_]);rfl|ref i=>(rw[AY g λt Z c=>?_];clear g;rw[U c ?_]);rfl
theorem qh:∀{X b f H s A E a k nm u expr Q}(h:Dy X)(j:Oo X)(x:St X b f H s)(l:X.T.strs[k]?=V nm)(m:RV X.T.strs f s.heap a u)(P:AU X b [] f s (C5 X) (Ml X.P H a k) Q E),Ab X.M A (M3 u nm expr) Q E s:=by intros X b f H s A E a k nm u expr Q _ h j x l m P;induction a using MV.casesOn with|ref i=>rw[AU.Ha P λv e P=>BQ e λc o e=>BQ e λM p e=>CB e λy ev=>?_];obtain⟨a,N,t,R,z,S,n,B,w,I,W,-,T,D,F,L,r⟩:=bo o λo=>Wr p λp K=>x.X7 o p K;(rw[AY m λZ Ho Kr=>?_];clear m;subst Kr);obtain rfl:=AN<|B.symm.trans Ho;rw[AY ((ev▸dh h.3.1 l r:G7 _ _ _ (V v) _).WN) λU q g=>?_,j.3 c.1 t nm w ((j.4 c.1 t _ nm w l).1 y) (h.1.keeps x.4) I (q▸T9 D F nm) (nK g)<|P _ _ _ (Af.tok x) g]|_=>rw[P.elim]
theorem abo:∀{X f g H s A E a c}{k:G}{nm u y t}{Q:BF->Ae->Prop}(v:Dy X)(h:Oo X)(x:St X f g H s)(w:X.T.strs[k]?=V nm)(z:RV X.T.strs g s.heap a u)(S:RV X.T.strs g s.heap c y)(e:PN X.P H a k c=V t)(P:∀W,Af X f [] g s g t W->Q () W),Ab X.M A (N2 u nm y) Q E s:=by intros X f g H s A E a c k nm u y t Q _ v h x w z S e P;induction a using MV.casesOn with|ref i=>rw[BQ e λB D e=>BQ e λes j e=>bo D λD=>Wr j λj O=>CB e λl e=>?_];obtain rfl:=AN e;obtain⟨a,ox,F,p,kvs,q,n,ha,K,I,hd,hm,T,J,M,hN,r⟩:=x.X7 D j O;(rw[AY z λZ Ho Pq=>?_];clear z;subst Pq);obtain rfl:=AN<|ha.symm.trans Ho;rw[DE (h.5 B.1 F K l.1.2) λp1 p2 p3=>?_];have C:=QG nm (EI X.w.params nm) (.str nm<|s.toks+1) y q n;have ku:∀b,b≠p->(s.heap.update p<|HN nm (EI X.w.params nm) (.str nm<|s.toks+1) y).get? b=s.heap.get? b:=λb N=>F6 _ _<|DK N;rw[w7 (v.1.keeps x.4) I hd p2 p1 (by unfold takerIn;rw[U ((h.4 B.1 F _ nm K w).1 l.1.1) ?_];rfl) (h.2 B.1 F K) (by rw[T9 J M]at⊢;rfl) (by rw[U M.length<|U (aaR r)<|KN l.2]:q.length<=900)<|P _<|Af.upd x j hm Y Y Y (t:=s.toks+2) (λb o e N=>(ku b N).trans e)<|.IE (L (T8 _ _ _)<|L l.2<|(dc Y)) (Yo (C▸JU _ T (by rw[U C ?_];rfl):(s.heap.update p<|HN nm (EI X.w.params nm) (.str nm<|s.toks+1) y).get? p=V (DQ (putL nm (EI X.w.params nm) (.str nm<|s.toks+1) y q)<|putN nm q n)) (λR m=>Xb (λR m=>J R<|by simpa using m) R<|by simpa using m) (ZV M)<|Zy hN)<|(abC v.3.1 w S r).mono (Bh.refl _)<|Lb T (Fj Y<|(dc Y)) ku]|_=>rw[nn e]
end
section
open PySem PySem.W PySem.Calls PyProof.Rows
variable{X:Cx}{envs:AB Env}{μ:AB AQ}{H:MH}{s:Ae}{A:Bq}{E:AX->Ae->Prop}{d:AE}{rz:AL}{Q:AX->Ae->Prop}
def TH:Bi->AX| .len=> .builtin "len"| .list=> .type "list"| .tuple=> .type "tuple"| .all=> .builtin "all"| .any=> .builtin "any"| .sum=> .builtin "sum"| .max _=> .builtin "max"| .int=> .type "int"
inductive t7(X:Cx)(μ:O AQ)(s:Ae)(H:MH)(a:MV)(l:O MV)(u:AX):Prop
 |tup(t:AQ)(items:CI AX)(n:G)(e:u= .ref t)(ht:IsT s.heap t items n)(ha:a= .tup l)(z:items.size<=E0)(r:Ax X.T.strs μ s.heap l items.toList)
 |lst(t:AQ)(items:CI AX)(n i:G)(fz:AL)(e:u= .ref t)(ht:IsL s.heap t items n)(ha:a= .ref i)(hi:μ[i]?=V t)(hl:H[i]?=V (.list fz l))(z:items.size<=E0)(r:Ax X.T.strs μ s.heap l items.toList)
theorem SN:∀{X h q H s}{a:MV}{l:O MV}{u:AX}(x:St X h q H s)(e:LF H a=V l)(c:RV X.T.strs q s.heap a u),t7 X q s H a l u:=by intros X h q H s a l u _ x e c;induction a using MV.casesOn with|tup m=>(replace e:=AN e;subst e);rw[Dz c λt b n e j z r=> .tup t b n e j Y z r]|ref i=>rw[AY c λa g p=>Ge e λo f=>By (x.GR g f) λb n k r z=> .lst a b n i o p k Y g f z r]|_=>rw[nn e]
theorem kC(x:St X envs μ H s)(f:s.heap.get? t=V {cls:= .type a,dict:=C,data:= .seq b n,slots:= #[]})(g:a="list"\/a="tuple")(z:b.size<=E0)(r:Ax X.T.strs μ s.heap l b.toList)(P:AU X envs [] μ s (C5 X) (newList l H) Q E):Ab X.M A (call (.type "list") [.ref t]) Q E s:=by rw[call_list_seq (hsz:=z) t g f Y Y λh k c j=>AU.ite P λZ P=>P _ _ _ (Af.new x (h':=h) (t:=s.toks) (a:=s.heap.objs.size) (mo:= .list T l) c (Mi _) x.N9<|DI b k j (r.mono (Bh.app _ _) λZ Z Z e=>c _ _ e) z)<|Kq<|Ag x.1<|U (DO<|B2 _)<|U (GI ..) ?_];rfl
theorem gV(z:n<=E0):(n:J)<2^63:=by rw[HZ]at z;lia
theorem wc:∀{X h k H s A E Q}{a}{u}(x:St X h k H s)(f:RV X.T.strs k s.heap a u)(P:AU X h [] k s (C5 X) (LH H .len a) Q E),Ab X.M A (call (.builtin "len") [u]) Q E s:=by intros X h k H s A E Q a u _ x f P;rw[AU.Ha P λZ e P=>Bo e λl g e=>by subst e;cases SN x g f with|tup t b n e c _ z r=>subst e;rw[PyProof.Rows.len_tuple (HK c) (gV z)<|(((r.length.symm:l.length=b.size))▸P) _ _ _ (Af.tok x) Gd]|lst t b n i j e c _ _ _ z r=>subst e;rw[PyProof.Rows.len_list (GH c) (gV z)<|(((r.length.symm:l.length=b.size))▸P) _ _ _ (Af.tok x) Gd]]
theorem qW(x:St X envs μ H s)(f:RV X.T.strs μ s.heap a u)(P:AU X envs [] μ s (C5 X) (LH H .list a) Q E):Ab X.M A (call (.type "list") [u]) Q E s:=AU.opt P λl g P=>by cases SN x g f with|tup t b n e c _ z r=>rw[U e<|kC x c (.inr Y) z r P]|lst t b n i j e c _ _ _ z r=>rw[U e<|kC x c (.inl Y) z r P]
theorem y4:∀{X h v H s A E Q}{a}{u}(x:St X h v H s)(g:RV X.T.strs v s.heap a u)(P:AU X h [] v s (C5 X) (LH H .tuple a) Q E),Ab X.M A (call (.type "tuple") [u]) Q E s:=by intros X h v H s A E Q a u _ x g P;rw[AU.opt P λl p P=>AU.ite P λZ P=>by cases SN x p g with|tup t c n e f _ z r=>rw[U e<|call_tuple_tup (HK f)<|P _ _ _ (Af.refl x)<|OP f z r]|lst t c n i q e f _ _ _ z r=>rw[U e ?_,PySem.call_tuple_list (GH f) (λw j=>P _ _ _ (Af.I9 x (h':=w.push {cls:= .type "tuple",data:= .seq c}) (t:=s.toks) (d:=s.drawn) λb o e=>E4 _<|j b o e)<|OP (n:=0) (Fz _ Y) z<|r.mono (Bh.refl _) λb k m e=>E4 _<|j _ _ e) z]]
def O_(m:LM):String:= @LM.casesOn (λZ=>String) m "list.append" "list.pop" (λZ=>"list.extend") "list.reverse"
theorem yC(h:n<=E0):Sb n=T:=by unfold Sb;rw[U (Dk<|E1.mpr h) Y]
theorem Af.lst(x:St X envs μ H s)(e:H[i]?=V (.list T l))(q:μ[i]?=V a)(k:IsL s.heap a c n)(f:CI AX->CI AX)(r:Ax X.T.strs μ s.heap l' (f c).toList)(z:(f c).size<=E0):Af X envs [] μ s μ (H.set i<|.list T l') {s with heap:=s.heap.update a (OL f),toks:=t}:=by rw[xE (i3 k f) λm p=>?_];have g:∀b,b≠a->(s.heap.update a<|OL f).get? b=s.heap.get? b:=λb j=>F6 _ _<|DK j;rw[Af.upd x e q Y Y Y (λb o e j=>(g b j).trans e)<|DI _ m p (r.mono (Bh.refl _)<|Lb k (Fj Y<|(dc Y)) g) z]
theorem aan{l:O MV}(e:l.getLast?=V v):l[l.length-1]?=V v:=by rw[Ag e<|U (So) Y]
theorem aG(c:IsL h a b n)(f:Obj->Obj):F' h<|h.update a f:=Lb c (Fj Y<|by decide) λZ g=>F6 _ _<|DK g
theorem qR:∀{X h t H s A E Q}{i:G}{a:AQ}{l:O MV}{m:LM}{q:Pos}(x:St X h t H s)(e:H[i]?=V (.list T l))(f:t[i]?=V a)(P:AU X h [] t s (C5 X) (Rh H i l m []) Q E),Ab X.M A (KY q (.builtin<|O_ m) [.ref a] [] []) Q E s:=by intros X h t H s A E Q i a l m q _ x e f P;injection(x.GR f e)with b n _ c r z;induction m using LM.casesOn with|pop=>rw[AU.opt P λv p P=>AY (r.get<|aan p) λy j o=>?_];rw[<-(r.length:b.size=l.length),Jz]at j;(have k:(b.eraseIdxIfInBounds<|b.size-1).toList=b.toList.dropLast:=by rw[U iw<|Ag JF<|U List.eraseIdx_length_sub_one Y]);rw[PySem.P.pop_list c j (P _ _ _ (Af.lst x e f c (λg=>g.eraseIdxIfInBounds<|b.size-1) (t:=s.toks) ?_ ?_)<|o.mono (Bh.refl _)<|aG c _) z,U k<|U ZK<|U ZK<|U r.length<|r.take _,L (Ag JF<|U k<|U Ob<|U JF<|FJ _ _) z]|reverse=>rw[PySem.P.reverse_list c (P _ _ _ (Af.lst x e f c (λg=>g.reverse) (t:=s.toks) (U Array.toList_reverse r.reverse)<|Array.size_reverse.symm▸z) ON) z]|_=>rw[P.elim]
theorem pv:∀{X envs s A E Q}{i}{a}{m}{pos}{t}(h:Ab X.M A t (λv g=>∃j p l b,St X envs j p g/\p[i]?=AA (.list AH l)/\j[i]?=AA a/\RV X.T.strs j g.heap b v/\AU X envs [] j g (C5 X) (Rh p i l m [b]) Q E) E s),Ab X.M A (KY pos (.builtin<|O_ m) [.ref a] [(AH,t)] []) Q E s:=by intros X envs s A E Q i a m pos t _ h;induction m using LM.casesOn with|append=>rw[PySem.P.append_list<|EY h (λv g o=>?_) λ_ _ e=>e];(rw[Lg o λj p l b x e D J P=>?_];clear o);rw[By (x.GR D e) λc n B r z=>AU.ite P λI P=>(DI c n z B<|P _ _ _ (Af.lst x e D B (λG=>G.push v) (t:=g.toks) ?_ ?_) ON),A9 aA<|r.append<|Ax.cons J Ax.nil,A9 (Array.size_push ..)<|A9 (show c.size=l.length from r.length)<|Ag MJ I]|pop=>rw[PySem.P.pop_at_list<|EY h (λv g o=>?_) λ_ _ e=>e];intros _ v g _ o;(rw[Lg o λj p l b x e D J P=>?_];clear o);rw[By (x.GR D e) λc n B r z=>?_];(induction b using MV.casesOn with|int k=>rw[AU.ite P λZ P=>AU.opt P λy W P2=>?_];subst Z;(rw[xE (Jx J) λU N=>?_];subst N);rw[AY (r.get W) λu L V=>?_];(have K:(c.eraseIdxIfInBounds 0).toList=c.toList.drop 1:=by rw[A9 iw<|A9 List.eraseIdx_zero<|A9 List.drop_one A7]);have L:c[0]?=AA u:=Jz▸L;rw[⟨c,n,0,U,0,u,z,A7,B,(dc A7),?_,L,P2 _ _ _ (Af.lst x e D B (λG=>G.eraseIdxIfInBounds 0) (t:=g.toks) ?_ ?_)<|V.mono (Bh.refl _)<|aG B _⟩];(·simp [Ug,((RZ.mp L).1:0<c.size)]);rw[A9 K<|r.drop 1,Ag JF<|A9 K<|A9 GS<|A9 JF<|AJ (FJ _ _) z]|_=>rw[P.elim])|extend=>rw[seqMethod1_meets F.slot_list_extend F.entry_list_extend<|EY h (λv g o=>?_) λ_ _ e=>e];(rw[Lg o λj p l b x e D J P=>?_];clear o);rw[By (x.GR D e) λc n B r z=>AU.opt P λR Y P=>AU.ite P λI P=>?_];(have w:∀(f:CI AX),Ax X.T.strs j g.heap R f.toList->(c.size+f.size<=E0+1)/\¬(!c.isEmpty&&Sb (c.size+f.size))=AG/\Q .none {g with heap:=g.heap.update a (OL λG=>G++f),toks:=g.toks}:=λf C=>by(have I:c.size+f.size<=E0:=by rw[A9 (show c.size=l.length from r.length)<|A9 (show f.size=R.length from C.length)<|Ag MJ I]);rw[(BX (FI I) (λq=>Ef q λ_ q=>(by rw[yC I]at q;rw[nb q]))<|P _ _ _ (Af.lst x e D B (λG=>G++f) (t:=g.toks) (l':=l++R) ?_ ?_) ON),A9 Array.toList_append<|r.append C,A9 jL I]);rw[(BX (Aa _ B A7) ((show "list.extend"=O_ (.extend _)from A7)▸F.args_list_extend_2 _ _)<|?_)];(cases SN x Y J with|tup M f O K S _ T C=>rw[A9 K ⟨_,AutoSeq1.list_extend_list_tuple_0 a c n M f O (w _ C).2.1 z (w _ C).1,B,S,(w _ C).2.2⟩]|lst M f O i fz K S _ _ _ T C=>rw[A9 K ⟨_,AutoSeq1.list_extend_list_list_0 a c n M f O (w _ C).2.1 z (w _ C).1,B,S,(w _ C).2.2⟩])|_=>rw[callWith_builtin (by rfl)<|UU<|RL<|EY h (λv g o=>?_) λ_ _ e=>e];(rw[Lg o λj p l b x e D J P=>?_];clear o);rw[P.elim]
end
section
open PySem PySem.W PySem.Calls PyProof.Rows
variable{X:Cx}{envs:AB Env}{μ:AB AQ}{H:MH}{s:Ae}{A:Bq}{E:AX->Ae->Prop}{d:AE}{rz:AL}{sc:Bt}{vm:VM}{env:Env}{ρ:Loc}
theorem bL:∀{e b g a}{n}(f:C3 a b g e)(h:isVar b n=I),a.kindOf n=V .local\/(a.kindOf n=V .cell/\∃c,a.cells.lookup n=V c):=by intros e b g a n _ f h;have h:=(DN.mp h).2;cases q:b.names.lookup n with|none=>replace h:=q▸h;rw[nb h]|some k=>replace h:=q▸h;induction k using ky with|«local»=>rw[.inl<|f.2 n q]|cell=>rw[.inr<|f.3 n<|.inl q]|free=>rw[.inr<|f.3 n<|.inr q]|_=>rw[nb h]
theorem abS:∀{X h t s A E b l a x}{n}{k}{i}{Q}(w:C3 a b l h)(L:B4 X a l t x s.heap)(z:isVar b n=I)(p:l.lookup n=V k)(j:x k=V i)(P:∀v,RV X.T.strs t s.heap i v->Q v s),Ab X.M A (loadName a n) Q E s:=by intros X h t s A E b l a x n k i Q _ w L z p j P;have B:a.scope.kind= .function:=w.1;rcases bL w z with q|⟨q,c,y⟩;rw[AY L.3 λm o r=>AY (r n k i p j q) λv e f=>aW B q o e<|P v f];·rw[AY (L.4 n c<|ET y) λv C r=>?_];(rw[AY (r y k i p j q) λu g f=>?_];clear r;subst g);rw[wpAny_loadName_cell B q y C<|P u f]
theorem Yp(L:B4 X env vm μ ρ s.heap)(k:(n,c)∈env.cells):c≠env.locals:=λq=>by rw[AY L.3 λm g Z=>G9 g λo r u e d Z=>?_,AY (L.4 n c k) λv f Z=>AY f λp b j=>?_];(replace b:=q▸b;replace b:=e▸b);(replace b:=AN b;subst b);rw[PySem.Data.noConfusion<|d▸j]
theorem tY(x:St X envs μ H s)(L:B4 X env vm μ ρ s.heap)(u:(n,c)∈env.cells):c∉CW envs:=λm=>by rw[AY (I2.mp m) λb q p=>HD (x.6 b q) λZ B w y z g Z f k=>?_];replace g:=p▸g;(replace g:=AN g;subst g);rw[AY (L.4 n c u) λv j r=>AY j λo e d=>?_];replace f:=e▸f;(replace f:=AN f;subst f);rw[PySem.Data.noConfusion<|d▸k]
theorem P7(L:B4 X env vm μ ρ s.heap)(m:a∈CM env):∃o,s.heap.get? a=V o/\¬Fc o:=by(rw[Cz (CZ.mp m) (λk=>?_) λm=>?_];subst k);rw[AY L.3 λu j Z=>G9 j λo w y e d Z=>?_,(Aa o e λc=>by rw[Om c λZ p n q=>?_,PySem.Data.noConfusion<|d▸q])];·(rw[AY (Ea.mp m) λg r f=>?_];obtain⟨n,c⟩:=g;rw[Ag f ?_]);rw[AY (L.4 n c r) λv b Z=>AY b λo e d=>?_,(Aa o e λc=>by rw[Om c λZ p n q=>?_,PySem.Data.noConfusion<|d▸q])]
theorem LU(L:B4 X env vm μ ρ s.heap):C6 s.heap<|CM env:=λa m o e=>by rw[AY (P7 L m) λc b t=>?_];replace b:=e▸b;rw[U (AN b) ?_,t]
theorem Af.Xg(x:St X envs μ H s)(L:B4 X env vm μ ρ s.heap)(j:a∈CM env)(i:M7 a s.heap h)(B:∃o,h.get? a=V o)(w:a∈CW envs->∃o p r,h.get? a=V o/\o.data= .dict p r):Af X envs [a] μ s μ H {s with heap:=h,toks:=t}:=by
 rw[Af.quiet x (ex:=[a]) (λb o e v=>?_) (λb m=>L.1 b<|B3.mp m▸j) (λb m=>LU L b<|B3.mp m▸j) (λb m=>L.2 b<|B3.mp m▸j) (λb m o e=>?_) λb m q=>?_];·have:b≠a:=λq=>v<|q▸B3.mpr Y;have k:h.get? b=V o:=(i.2 b this).trans e;rw[⟨λZ=>k,λZ=>⟨o.slots,k⟩⟩]
 rw[Ao (λq:b=a=>?_) λq=>?_,U q B,⟨o,(i.2 b q).trans e⟩];·rw[Ao (λz:b=a=>?_) λz=>?_];(·clear j B m;subst z;rw[w q]);·rw[AY (I2.mp q) λc y g=>HD (x.6 c y) λZ F u p r f Z D C=>?_];replace f:=g▸f;(replace f:=AN f;subst f);rw[(Mw u p r ((i.2 b z).trans D) C)]
theorem B4.i0(q:a=k)(h:upd ρ k f a=V b):f=b:=by subst q;rw[AN<|(AM Y).symm.trans h]
theorem B4.T4(q:a≠k)(h:upd ρ k f a=V b):ρ a=V b:=(AS q).symm.trans h
theorem oV:∀{X g j H s A E sc p f B}{n}{k}{D}{v}{Q}(F:C3 f sc p g)(x:St X g j H s)(L:B4 X f p j B s.heap)(q:f.kindOf n=V .local)(w:p.lookup n=V k)(rv:RV X.T.strs j s.heap D v)(P:∀K,Af X g [f.locals] j s j H K->B4 X f p j (upd B k D) K.heap->Q () K),Ab X.M A (Uy f n v) Q E s:=by
 intros X g j H s A E sc p f B n k D v Q _ F x L q w rv P;have M:=Bh.refl j;have ne:∀h i,p.lookup h=V i->h≠n->i≠k:=λh i l t q=>t<|F.8 h n k (q▸l) w;injection L.3 with m _ Wq r;rw[wpAny_storeName_local q Wq (λS OD C7=>?_)<|by rw[U F.1 ?_];rfl];intros _ S _ OD C7;have N:=Af.Xg x L (t:=s.toks+1) (.head _) C7 (by rw[Ht OD λo Z Z e Z=>⟨o,e⟩]) (λZ=>by rw[G9 OD λo W I e d Z=>(Mw o W I e d)]);have T:=(N.tu x λb m=>LU L b<|by rw[U (B3.mp m)<|.head _]).t;rw[P _ N ⟨L.1,L.2,(Aa _ OD λh i Li l t y=>?_),λh c R=>?_⟩];·rw[Ao (λz:h=n=>?_) λz=>?_];(·clear OD;subst z;obtain rfl:=B4.i0 (AN<|l.symm.trans w) t;rw[(Aa v (AM Y)<|rv.mono M T)]);rw[AY (r h i Li l (B4.T4 (ne h i l z) t) y) λu a b=>(Aa u ((AS z).trans a)<|b.mono M T)]
 rw[AY (L.4 h c R) λu J C=>(Aa u (J.sameBut C7<|Yp L R) λG i Li l t y=>?_),AY (C G i Li l (B4.T4 (ne h i l (λz=>by clear w OD;subst z;cases q.symm.trans y:h≠n)) t) y) λO a b=>(Aa O a<|b.mono M T)]
theorem rY:∀{X g l H s A E sc t f K}{n}{k}{N}{v}{c}{Q}(y:C3 f sc t g)(x:St X g l H s)(L:B4 X f t l K s.heap)(q:f.kindOf n=V .cell)(B:f.cells.lookup n=V c)(D:t.lookup n=V k)(rv:RV X.T.strs l s.heap N v)(P:∀R,Af X g [c] l s l H R->B4 X f t l (upd K k N) R.heap->Q () R),Ab X.M A (Uy f n v) Q E s:=by
 intros X g l H s A E sc t f K n k N v c Q _ y x L q B D rv P;have M:=Bh.refl l;have ne:∀h i,t.lookup h=V i->h≠n->i≠k:=λh i j p q=>p<|y.8 h n k (q▸j) D;have w:(n,c)∈f.cells:=ET B;have S:c∈CM f:=NR _ (Ea.mpr<|Aa _ w Y);injection(L.4 n c w)with acg _ C r;rw[wpAny_storeName_cell y.1 q B C λO Z1 C7=>?_];intros _ O _ Z1 C7;have W:=Af.Xg x L (t:=s.toks) S C7 (by injection Z1 with o _ e _;rw[⟨o,e⟩]) (λm=>Aj m<|tY x L w);have T:=(W.tu x λb m=>LU L b<|by rw[U (B3.mp m) S]).t;rw[P _ W ⟨L.1,L.2,?_,λh I OW=>?_⟩];·injection L.3 with m _ Wq r;rw[(Aa m (Wq.sameBut C7<|DK<|Yp L w) λh i Li j p F=>?_),AY (r h i Li j (B4.T4 (ne h i j (λz=>by subst z;cases q.symm.trans F:h≠n)) p) F) λJ a b=>(Aa J a<|b.mono M T)]
 intros _ h I _ OW;·rw[Ao (λz:I=c=>?_) λz=>?_];(·clear P S C r W;subst z;obtain rfl:=U4 y.7 OW w;rw[(Aa (V v) Z1 λZ i Li j p Z=>?_)];obtain rfl:=B4.i0 (AN<|j.symm.trans D) p;rw[(Aa v Y<|rv.mono M T)]);rw[AY (L.4 h I OW) λu hu r'=>(Aa u (hu.sameBut C7 z) λG i Li j p F=>?_),AY (r' G i Li j (B4.T4 (ne h i j (λz'=>z<|by clear q D w r;subst z';rw[AN<|G.symm.trans B]:h≠n)) p) F) λJ a b=>(Aa J a<|b.mono M T)]
theorem Ny(b:C3 env sc vm envs)(x:St X envs μ H s)(L:B4 X env vm μ ρ s.heap)(p:isVar sc n=I)(m:vm.lookup n=V k)(j:RV X.T.strs μ s.heap mv v)(P:∀e a,a∈CM env->(env.kindOf n=V .local->a=env.locals)->Af X envs [a] μ s μ H e->B4 X env vm μ (upd ρ k mv) e.heap->Q () e):Ab X.M A (Uy env n v) Q E s:=by rcases bL b p with q|⟨q,c,o⟩;rw[oV b x L q m j λe g f=>P e _ (.head _) (λZ=>Y) g f,rY b x L q o m j λe g f=>P e _ (NR _<|Ea.mpr<|Aa _ (ET o) Y) (λz=>nomatch q.symm.trans z) g f]
end
section
open PySem PySem.W PySem.Calls PyProof.Rows
def Hd(A:Bq)(h:BC):Prop:=A.handled=C\/∃x o b,A.handled=V (.ref x)/\h.get? x=V o/\(o.data= .fields b/\b[2]?=V .none)/\∃a,o.cls= .ref a
theorem abb:entryFor table "proto.unchain"=V Builtin.«proto.unchain»:=entryFor_of_fast<|by kernel_rfl
section
theorem abP(h:x≠e):(Ec x !=Ec e)=I:=by simp [h]
theorem oq:∀{a w A E s}{e x}{o}{g}{Q}(b:s.heap.get? x=V o)(c:o.data= .fields g)(f:g[2]?=V .none)(d:Q .none s),Ab (BO a w) A (runValue<|.builtin "proto.unchain" ⟨[.ref e,.ref x,.ref x,.bool T],[]⟩) Q E s:=by intros a w A E s e x o g Q _ b c f d;rw[wpAny_runValue<|codeAny_builtin abb<|(?_:Ab _ _ (field (.ref x) 2>>=_) _ _ s),Ah<|Iq b c (x:= .none) f<|B8 d]
theorem tB{A:Bq}{b:Obj}{f:CI AX}(g:Hd A s.heap)(d:s.heap.get? e=V b)(j:b.data= .fields f)(q:2<f.size)(u:∀x,A.handled=V (.ref x)->x≠e)(k:∀a,K9 e s.heap a->(∃o,a.get? e=V o/\o.cls=b.cls)->E (.ref e) {s with heap:=a}):Ab (BO h w) A (Uh<|.ref e) Q E s:=by unfold Uh;rw[Ah<|wpAny_handled ?_];rcases g with c|⟨x,o,y,c,r,⟨g,v⟩,_⟩;rw[U c<|Ah<|B8<|wpAny_throw<|k s.heap (Heap.ExtBut.refl e _)<|Aa b d Y];·rw[U c<|((U (AM<|abP<|u x c)<|Ah<|GX<|oq r g v ?_):Ab _ _ (if(Ec x !=Ec e)=I then _ else _) _ _ _)];unfold updateField;rw[Ah<|Ah<|wpAny_load d<|U j<|((U (AM q)<|wpAny_update d<|wpAny_throw<|k _ (YB ..).extBut<|Aa _ (JU _ d<|VV<|WJ j _)<|fM ..):Ab _ _ (if 2<f.size then _ else _) _ _ _)]
theorem Hd.keep:∀{A}{h e:BC}(d:Hd A h)(k:∀b o,h.get? b=V o->(∃a,o.cls= .ref a)->e.get? b=V o),Hd A e:=by intros A h e _ d k;rcases d with c|⟨x,o,g,c,j,q,f⟩;rw[.inl c,.inr<|HV x o g c (k x o j f) q f]
theorem d_{a:Hl}{w:HQ}{A:Bq}{E:AX->Ae->Prop}{h:Type}{Q:h->Ae->Prop}(g:Hd A s.heap)(i:∀c e,(∀b o,s.heap.get? b=V o->c.get? b=V o)->(∃o,c.get? e=V o/\o.cls= .type "StopIteration")->E (.ref e) {s with heap:=c}):Ab (BO a w) A (newExc (.type "StopIteration") []>>=λe=>Uh e) Q E s:=by
 rw[Ah ?_];simp only [newExc,newTuple];rw[Ah<|LQ ?_<|by size_fits,Ah (m:=firstArgMember _ _)<|wpAny_of_eq (a:=J8) (by first|rfl|(simp only [firstArgMember];rfl)) ?_,LQ ?_<|by size_fits];have k:∀{j l:Obj}(b:AQ)(o:Obj),s.heap.get? b=V o->((s.heap.push j).push l).get? b=V o:=λb o e=>E4 _<|E4 _ e;rw[tB (g.keep λb o e Z=>k b o e) (Fz _ Y) Y (by rw[U jL ?_,CQ (show 2<6 from B6 Y)<|BJ _ _]) (λx hx z=>?_) λc m f=>i c _ (λb o e=>?_) f];·rcases g with d|⟨y,o,n,d,f,_⟩;rw[nn<|d▸hx];·replace hx:=d▸hx;clear d;cases hx;subst z;rw[Aj (Ds f)<|E1.mpr<|by rw[U (Jp ..) ?_,E2 _]]
 rw[m b o (λz=>by subst z;rw[Aj (Ds e)<|E1.mpr<|by rw[U (Jp ..) ?_,E2 _]])<|k b o e]
def Stop(h:BC)(e:AQ):Prop:=∃o,h.get? e=V o/\o.cls= .type "StopIteration"
def Ends(a:Hl)(w:HQ)(A:Bq)(c:Sem Fin)(d:AQ)(s:Ae):Prop:=∀{Q:Fin->Ae->Prop}{E:AX->Ae->Prop},(∀b e,K9 d s.heap b->Stop b e->E (.ref e) {s with heap:=b})->Ab (BO a w) A c Q E s
theorem Ends.call{T d:String}{b:Builtin}{c j:AQ}(g:s.TypeIs (.ref c) T)(f:Slot T (J9 "__next__") d)(i:entryFor table d=V b)(o:argsOk d ⟨[.ref c],[]⟩)(k:Ends a w A.in1 (b ⟨[.ref c],[]⟩) j s){Q:AO AX->Ae->Prop}(m:∀h e,K9 j s.heap h->Stop h e->E (.ref e) {s with heap:=h}):Ab (BO a w) A (callSpecial? (.ref c)<|J9 "__next__") Q E s:=Xr g f<|Xp f g i (k m) o
theorem Ends.next{T d:String}{b:Builtin}{c f:AQ}(r:s.TypeIs (.ref c) T)(g:Slot T (J9 "__next__") d)(i:entryFor table d=V b)(v:argsOk d ⟨[.ref c],[]⟩)(q:Ends a w A.in1 (b ⟨[.ref c],[]⟩) f s){Q:AO AX->Ae->Prop}(u:∀h,K9 f s.heap h->Q C {s with heap:=h}):Ab (BO a w) A (LG<|.ref c) Q E s:=Ah<|wpAny_attempt<|Ends.call r g i v q λh e k m=>by rw[AY m λo j p=>Ah<|wpAny_isInstance (T:="StopIteration") (b:=I) (Aa o j p) isSubtype_stop<|B8<|u h k]
theorem Ends.kW{s:Ae}{o:Obj}{d:CI AX}(j:Hd A s.heap)(f:s.heap.get? g=V o)(l:o.cls= .type a)(m:o.data= .fields d)(n:0<d.size):Ends h w A (do rule p;setField (.ref g) 0 .none;let e<-newExc (.type "StopIteration") [];Uh e) g s:=λi=>by rw[Ah<|wpAny_rule<|Ah<|SK f m n<|d_ (j.keep λb t e c=>((YB ..).2 b λz=>?_).trans e) λq e k r=>i q e (λb o ne e=>k b o<|((YB ..).2 b ne).trans e) r];clear i;subst z;obtain rfl:=AN<|f.symm.trans e;rw[xE c λC c=>nomatch l.symm.trans c]
theorem fld(f:s.heap.get? a=V o)(d:o.data= .fields j)(c:j[i]?=V x)(h:Ab (BO g w) A (k x) Q E s):Ab (BO g w) A (field (.ref a) i>>=k) Q E s:=Ah<|Iq f d c h
theorem jC(q:Hd A s.heap)(j:s.heap.IsListIter c l i)(p:s.heap.IsList l b)(m:b[i]?=C):Ends a w A (Builtin.«list_iterator.__next__» ⟨[.ref c],[]⟩) c s:=λu=>by rw[Cp j λo g r d=>fw p λv f Z Z k=>fld g d (x:= .ref l) Y<|fld g d (x:= .int i 0) Y<|Ah<|Xl f k ?_];simp only [Ya,m];rw[Ends.kW q g r d (by simp) u]
theorem mj(q:Hd A s.heap)(j:s.heap.IsTupleIter c l i)(p:s.heap.IsTuple l b)(m:b[i]?=C):Ends a w A (Builtin.«tuple_iterator.__next__» ⟨[.ref c],[]⟩) c s:=λu=>by rw[Cp j λo g r d=>fw p λv f Z Z k=>fld g d (x:= .ref l) Y<|fld g d (x:= .int i 0) Y<|Ah<|Xl f k ?_];simp only [Ya,m];rw[Ends.kW q g r d (by simp) u]
theorem jW(j:Hd A s.heap)(c:s.heap.IsListIter d l i)(g:s.heap.IsList l b)(f:b[i]?=C)(k:∀a,K9 d s.heap a->Q C {s with heap:=a}):Ab (BO h w) A (LG<|.ref d) Q E s:=Ends.next c.typeIs kE bb (lC _) (jC (A:=A.in1) j c g f) k
theorem VE(j:Hd A s.heap)(c:s.heap.IsTupleIter d l i)(g:s.heap.IsTuple l b)(f:b[i]?=C)(k:∀a,K9 d s.heap a->Q C {s with heap:=a}):Ab (BO h w) A (LG<|.ref d) Q E s:=Ends.next c.typeIs F.slot_tuple_iterator_next F.entry_tuple_iterator_next (F.args_tuple_iterator_next_1 _) (mj (A:=A.in1) j c g f) k
theorem wV:∀{a w A E s}{j:AQ}{x c d:J}{Q:AO AX->Ae->Prop}(m:Hd A s.heap)(g:IsRangeIter s.heap j x c d)(f:c<=0)(p:∀h,K9 j s.heap h->Q C {s with heap:=h}),Ab (BO a w) A (LG<|.ref j) Q E s:=by intros a w A E s j x c d Q _ m g f p;rw[Ends.next (Aa _ g Y) F.slot_range_iterator_next F.entry_range_iterator_next (F.args_range_iterator_next_1 _) (λr=>fld g Y (x:=E3 x) Y<|fld g Y (x:=E3 c) Y<|fld g Y (x:=E3 d) Y<|(wpAny_ite<|U (AM f)<|Ah<|wpAny_rule<|Ah<|d_ (A:=A.in1) m λh e k q=>r h e (λb o Z e=>k b o e) q)) p]
theorem uW:∀{a w A E s}{e f l:AQ}{i:G}{b:CI AX}{d:AX}{Q:AO AX->Ae->Prop}(m:Hd A s.heap)(g:IsEnum s.heap e f i d)(c:s.heap.IsListIter f l i)(k:s.heap.IsList l b)(j:b[i]?=C)(o:∀h,K9 f s.heap h->Q C {s with heap:=h}),Ab (BO a w) A (LG<|.ref e) Q E s:=by intros a w A E s e f l i b d Q _ m g c k j o;rw[Ends.next (Aa _ g Y) F.slot_enumerate_next F.entry_enumerate_next (F.args_enumerate_next_1 _) (λp=>fld g Y (x:= .ref f) Y<|Ah<|Ah<|Ends.call c.typeIs kE bb (lC _) (jC (A:=A.in1.in1) m c k j) p) o]
end
end
section
open PySem PySem.W PySem.Calls PyProof.Rows
variable{X:Cx}{envs:AB Env}{μ:AB AQ}{H:MH}{s:Ae}{A:Bq}{E E':AX->Ae->Prop}{d:AE}{rz:AL}{sc:Bt}{vm:VM}{env:Env}{ρ:Loc}
inductive F0(X:Cx)(μ:O AQ)(h:BC)(I:AQ):O AQ->Src->G->Prop
 |tup{l:O MV}{t:AQ}{items:CI AX}{n j:G}(i:IsT h t items n)(r:Ax X.T.strs μ h l items.toList)(q:h.IsTupleIter I t j):F0 X μ h I [I] (.seq l) j
 |Hb{l:O MV}{a st:J}{n j:G}(hl:∀i:G,l[i]?=if i<n then V (.int<|a+st*i)else C)(q:IsRangeIter h I (a+st*j) ((n:J)-j) st):F0 X μ h I [I] (.seq l) j
 |lst{i:G}{ax:AQ}{j:G}(e:μ[i]?=V ax)(q:h.IsListIter I ax j):F0 X μ h I [I] (.lst i) j
 |DU{i:G}{ax it:AQ}{old:AX}{j:G}(e:μ[i]?=V ax)(q:IsEnum h I it j old)(p:h.IsListIter it ax j)(ne:I≠it):F0 X μ h I [I,it] (.DU i) j
def Loose(X:Cx)(envs:O Env)(μ:O AQ)(h:BC)(ex:O AQ):Prop:=∀a∈ex,a∉μ/\a∉CW envs/\X.base.get? a=C/\∃o,h.get? a=V o/\¬Fc o
theorem Loose.Bb:∀{X e n s ex i b u l}(L:Loose X e n s.heap ex)(A:Af X e i n s b u l)(p:∀a∈ex,a∉i),Loose X e b l.heap ex/\∀a∈ex,l.heap.get? a=s.heap.get? a:=by
 intros X e n s ex i b u l _ L A p;have k:∀a∈ex,l.heap.get? a=s.heap.get? a:=λa m=>by rw[K8 (L a m) λj g r o c Z=>U c<|(A.3 a o c).1 (λm=>Aj m j) (p a m) g]
 rw[⟨λa m=>K8 (L a m) λj g r o c v=>(Ms (λq=>?_) g r o ((k a m).trans c) v),k⟩];(rw[AY A.2 λw f h=>?_];clear A;subst f);rw[Cz (Cj.mp q) (λq=>?_) λq=>?_,j q];·replace c:=(h a q)▸c;rw[nn c]
theorem F0.Bb:∀{X h n H s I ex l g j b w t}(x:St X h n H s)(m:F0 X n s.heap I ex g j)(L:Loose X h n s.heap ex)(A:Af X h l n s b w t)(v:∀a∈ex,a∉l)(u:C6 s.heap l),F0 X b t.heap I ex g j:=by intros X h n H s I ex l g j b w t _ x m L A v u;have k:=(L.Bb A v).2;have M:=A.Lc;have T:=A.tu x u;clear x L A v u;induction m using F0.casesOn with|tup i r q=>rw[AY q λo f c=> .tup (T.t _ _ _ i) (r.mono M T.t)<|Aa o ((k I<|.head _).trans f) c]|Hb z q=>rw[.Hb z<|(k I<|.head _).trans q]|lst e q=>rw[AY q λo f c=> .lst (M _ _ e)<|Aa o ((k I<|.head _).trans f) c]|DU e q p y=>rw[AY p λo f c=> .DU (M _ _ e) ((k I<|.head _).trans q) (Aa o ((k _<|.tail _<|.head _).trans f) c) y]
def N3(H:MH):Src->G->AO (AO MV)| .seq l,j=>V l[j]?| .lst i,j=>(H[i]?.bind AK.Cc).map λl=>l[j]?| .DU i,j=>(H[i]?.bind AK.Cc).map λl=>l[j]?.map λv=> .tup [.int j,v]
theorem ba{f:G->MV}{n j}:((G_ n).map f)[j]?=if j<n then V (f j)else C:=by
 rw[U (FX) ?_,Ao (λh:j<n=>?_) λh=>?_];·rw[U (List.getElem?_range h)<|U (AM h) ?_];rfl
 ·rw[U (NM<|Og▸N6 h)<|U (AS h) ?_];rfl
def Ov(b:AL)(a:Expr):Prop:=match b,a with|T,.Name _ _=>Bg|I,.Tuple _ _ _=>Bg|_,_=>BB
theorem Z5(j:Ov f b)(k:s.heap.get? h=V o)(g:o.cls= .type i)(m:(["enumerate","zip","dict_itemiterator","dict_reverseitemiterator","odict_iterator","itertools.zip_longest","itertools.pairwise"].contains i)=T)(q:Q () s):Ab X.M A (TL b (.ref h) v) Q E s:=by
 induction f using BG<;>induction b using Cr<;>first|rw[j.elim]|rw[B8 q]|skip
 unfold TL;induction v using Gm with|ref a=>rw[Ah<|wpAny_load k ?_];clear k;obtain⟨c,w,p,u⟩:=o;dsimp only at g⊢;rw[U g ?_];(induction p using Mx with|fields r=>dsimp only;rw[U m<|U (Vd ..)<|U (AS<|(dc Y))<|B8 q]|_=>rw[B8 q])|_=>rw[B8 q]
theorem Af.Rp(x:St X envs μ H s)(L:Loose X envs μ s.heap ex)(k:∀b o,s.heap.get? b=V o->b∉ex->h.get? b=V o)(g:∀a∈ex,∃o,h.get? a=V o):Af X envs ex μ s μ H {s with heap:=h,toks:=t}:=Af.quiet x (λb o e f=>⟨λZ=>k b o e f,λZ=>⟨o.slots,k b o e f⟩⟩) (λa m=>(L a m).1) (λa m o e=>by rw[K8 (L a m) λZ Z Z j c t=>?_];replace c:=e▸c;(replace c:=AN c;subst c);rw[t]) (λa m=>(L a m).2.2.1) (λa m Z Z=>g a m) λa m q=>Aj q (L a m).2.1
theorem Loose.Gx(L:Loose X envs μ s.heap ex):C6 s.heap ex:=λa m o e=>by rw[K8 (L a m) λZ Z Z c b t=>?_];replace b:=e▸b;rw[U (AN b) ?_,t]
abbrev Turn(X:Cx)(A:Bq)(a:Expr)(I:AQ)(F:Ae->Prop)(Q E E':AX->Ae->Prop)(s:Ae):Prop:=Ab X.M A (LG<|.ref I) (λr Bs=>match r with|C=>F Bs|V u=>Ab X.M A (TL a (.ref I) u) (λZ mh=>Q u mh) E' Bs) E s
theorem aal(m:Ov k b)(i:IsT s.heap t c n)(q:s.heap.IsTupleIter a t j)(v:c[j]?=V u)(P:∀e,e.IsTupleIter a t (j+1)->(∃o,e.get? a=V o)->M7 a s.heap e->Q u {s with heap:=e}):Turn X A b a F Q E E' s:=hU q (HK i) v λe f p=>by rw[Cp (id f) λo g r Z=>Z5 m (s:={s with heap:=e}) g r (by decide)<|P e f ⟨o,g⟩ p]
theorem aaJ(m:Ov k b)(i:IsL s.heap t c n)(q:s.heap.IsListIter a t j)(v:c[j]?=V u)(P:∀e,e.IsListIter a t (j+1)->(∃o,e.get? a=V o)->M7 a s.heap e->Q u {s with heap:=e}):Turn X A b a F Q E E' s:=aU q (GH i) v λe f p=>by rw[Cp (id f) λo g r Z=>Z5 m (s:={s with heap:=e}) g r ((dc Y))<|P e f ⟨o,g⟩ p]
theorem uA{f:Expr}(N:Ov I f){a v t D g}{n j:G}{u}(i:IsL s.heap t g n)(q:IsEnum s.heap a v j D)(p:s.heap.IsListIter v t j)(K:a≠v)(O:g[j]?=V u){F Q}(P:∀x B,IsEnum x a v ((j+1:G):J) B->x.IsListIter v t (j+1)->IsT x s.heap.objs.size #[.int j s.toks,u] 0->(∀b o,b≠a->b≠v->s.heap.get? b=V o->x.get? b=V o)->Q (.ref s.heap.objs.size) {s with heap:=x,toks:=s.toks+1}):Turn X A f a F Q E E' s:=by
 induction f using Cr<;>first|rw[N.elim]|skip
 rw[wpAny_pyNext_enum_item q p (GH i) O K λC h k w l y=>wpAny_letOwnedTupleGo_enum h λm z c=>?_];replace c:M7 a C m:=c;rw[P m _ z (by rw[AY k λo e r=>(Aa o ((c.2 v<|DK K).trans e) r)]) ((c.2 _<|JL<|Ds q).trans w) λb o L M e=>c.extBut b o L<|y b o L M e]
theorem fm{uq}{f}(M:Ov uq f)(x:St X envs μ H s){c ex}{R}{j v}(N:F0 X μ s.heap c ex R j)(L:Loose X envs μ s.heap ex)(O:R.Wa=I->uq=I)(h:N3 H R j=V (V v)){F}{Q}(P:∀u s',Af X envs ex μ s μ H s'->F0 X μ s'.heap c ex R (j+1)->RV X.T.strs μ s'.heap v u->Q u s'):Turn X A f c F Q E E' s:=by
 revert M x N L O h;intros _ X envs μ H s A E E' uq f c ex R j v F Q _ P M x N L O h;have one:∀{y t},ex=[c]->(∃o,y.get? c=V o)->M7 c s.heap y->Af X envs ex μ s μ H {s with heap:=y,toks:=t}:=λe S D=>by subst e;rw[Af.Rp x L (λb o e nb=>(D.2 b λq=>nb<|q▸.head _).trans e) λa m=>by rw[U (B3.mp m) S]]
 induction N using F0.casesOn with|tup i r q=>rw[AY (r.get<|AN h) λu W C=>?_,aal M i q (Jz▸W) λy g S D=>by have B:=one (t:=s.toks) Y S D;have T:=(B.tu x L.Gx).t;rw[P _ _ B (.tup (T _ _ _ i) (r.mono (Bh.refl μ) T) g)<|C.mono (Bh.refl μ) T]]| @Hb l a st n j w q=>rw[CB ((w j).symm.trans<|AN h) λhj e=>?_];obtain rfl:=AN e;rw[wpAny_pyNext_range_item q (by lia) λy g D=>Z5 M (s:={s with heap:=y,toks:=s.toks+1}) g Y ((dc Y))<|P _ _ (one Y ⟨_,g⟩ D) (.Hb w<|U (by rw[U (Int.natCast_add ..)<|U (Int.mul_add ..)<|U (Int.add_assoc ..)<|U Int.natCast_one<|U (Int.mul_one ..) Y]:a+st*((j+1:G):J)=a+st*j+st)<|U (by lia:(n:J)-((j+1:G):J)=(n:J)-j-1) g) Gd]|lst e q=>rw[Bo h λl w h=>Ge w λfz w=>Dz (x.list w) λZ K n ha il r z=>?_];obtain rfl:=AN<|ha.symm.trans e;rw[AY (r.get h) λu W C=>?_,aaJ M il q (Jz▸W) λy g S D=>by have B:=one (t:=s.toks) Y S D;rw[P _ _ B (.lst e g)<|C.mono (Bh.refl μ) (B.tu x L.Gx).t]]| @DU i ax N old j e q p ne=>intros _ i ax N old j _ e q p ne P L O h one;obtain rfl:=O Y;rw[Bo h λl w h=>Ge w λfz w=>Bo h λv' hw e'=>?_];subst e';rw[Dz (x.list w) λZ K n ha il r z=>?_];obtain rfl:=AN<|ha.symm.trans e;rw[AY (r.get hw) λu W C=>?_,uA M il q p ne (Jz▸W) λy acm he hp zw k=>by have B:Af X envs [c,N] μ s μ H {s with heap:=y,toks:=s.toks+1}:=Af.Rp x L (λb o e nb=>k b o (λq=>nb<|q▸.head _) (λq=>nb<|q▸.tail _ (.head _)) e) (λa m=>by induction m using Cu with|head D2=>clear q one k;subst D2;rw[⟨_,he⟩]|tail m=>rw[U (B3.mp m)<|AY hp λo e Z=>⟨o,e⟩]);rw[P _ _ B (.DU e he hp ne)<|OP zw (by rw[U HZ<|B6 Y])<|Ax.cons Gd<|Ax.cons (C.mono (Bh.refl μ) (B.tu x L.Gx).t) Ax.nil]]
theorem XM{h:BC}{l:O MV}{b:CI AX}{j:G}(r:Ax X.T.strs μ h l b.toList)(e:l[j]?=C):b[j]?=C:=Ul<|(show b.size=l.length from r.length)▸ND.mp e
theorem Ar.at:∀{X a h H s A}(f:Fo X A)(x:St X a h H s),Hd A s.heap:=by intros X a h H s A _ f x;rcases f with b|⟨e,m,b⟩;rw[.inl b,By ((x.11 e m).2) λo g q d c=> .inr<|HV e o g b q d c]
theorem gT:∀{X t B H s A E}{I:AQ}{ex:O AQ}{D:Src}{j:G}{F:Ae->Prop}{f:AX->Ae->Prop}(K:Fo X A)(x:St X t B H s)(N:F0 X B s.heap I ex D j)(k:N3 H D j=V C)(P:∀g,(∀b o,s.heap.get? b=V o->b∉ex->g.get? b=V o)->F {s with heap:=g}),Ab X.M A (LG<|.ref I) (λr Bs=>match r with|C=>F Bs|V u=>f u Bs) E s:=by intros X t B H s A E I ex D j F f _ K x N k P;have y:=Ar.at K x;have one:∀{b:AQ}{g:BC},b∈ex->K9 b s.heap g->F {s with heap:=g}:=λ{c g}Q R=>P g λb o e nb=>R b o (λq=>nb<|q▸Q) e;clear K P;induction N using F0.casesOn with|tup i r q=>rw[VE y q (HK i) (XM r<|AN k) λg v=>one (.head _) v]| @Hb l a st n j m q=>have S:¬j<n:=λh=>nn<|((AM h).symm.trans<|(m j).symm.trans<|AN k).symm;rw[wV y q (by lia) λg v=>one (.head _) v]|lst e q=>rw[Bo k λl m k=>Ge m λfz m=>Dz (x.list m) λZ w n M il r z=>?_];obtain rfl:=AN<|M.symm.trans e;rw[jW y q (GH il) (XM r k) λg v=>one (.head _) v]|DU e q p ne=>rw[Bo k λl m k=>Ge m λfz m=>Dz (x.list m) λZ w n M il r z=>?_];obtain rfl:=AN<|M.symm.trans e;rw[uW y q p (GH il) (XM r<|Option.map_eq_none_iff.mp k) λg v=>one (.tail _<|.head _) v]
theorem Af.drop:∀{X f n s ex h Bd u j h'}(g:Af X f ex n s Bd u j)(L:Loose X f Bd j.heap h)(B:∀a∈h,s.heap.get? a=C)(k:∀b o,j.heap.get? b=V o->b∉h->h'.get? b=V o),Af X f ex n s Bd u {j with heap:=h'}:=by
 intros X f n s ex h Bd u j h' _ g L B k;have x:=g.1;rw[⟨⟨x.1,x.2,λi o a e1 D=>?_,λb o e=>?_,x.5,λenv F=>?_,x.7,x.8,x.9,x.10,λp m=>⟨(x.11 p m).1,(x.11 p m).2.keep λo e Z=>k p o e λq=>(L p q).1 (x.11 p m).1⟩⟩,g.2,λb o e=>?_⟩];·have r:=x.3 i o a e1 D;rw[AY r.kind λM q Z=>r.mono (Bh.refl _) (λb o e c=>k b o e λq=>by rw[K8 (L b q) λZ Z Z l N t=>?_];obtain rfl:=AN<|e▸N;rw[t c]:GY j.heap h')<|by rw[U q<|(λa m o e=>k a o e λq=>(L a q).1 m:∀a∈Bd,∀o,j.heap.get? a=V o->h'.get? a=V o) a (E7 D) M q]]
 rw[k b o (x.4 b o e) λq=>by rw[nn<|((L b q).2.2.1)▸e],HD (x.6 env F) λP v l Q R K S W T=>(TB P v l Q R K S (k v l W λq=>(L v q).2.1<|I2.mpr<|Aa env F K) T)];·(have nb:b∉h:=λq=>by rw[nn<|(B b q)▸e]);rw[Y' (g.3 b o e) λI Y l J=>⟨λw y z=>k b o (I w y z) nb,λw y z=>xE (Y w y z) λG q=>⟨G,k b _ q nb⟩,l,k b l J nb⟩]
theorem Af.fresh{ex ex' f p h}(c:Af X envs ex μ s f p h)(r:∀a∈ex,a∈ex'\/s.heap.get? a=C):Af X envs ex' μ s f p h:=⟨c.1,c.2,λb o e=>by
 have m:b∉ex'->b∉ex:=λn q=>(r b q).elim n λz=>by rw[nn<|z▸e]
 rw[(BX (λk j g=>(c.3 b o e).1 k (m j) g) (λk j g=>(c.3 b o e).2.1 k (m j) g)<|(c.3 b o e).2.2)]⟩
theorem Af.adopt:∀{X n K s ex c F t D mo}(g:Af X n ex K s c F t)(J:s.heap.get? D=C)(G:D∉c)(I:D∉CW n)(w:X.base.get? D=C)(r:RO X (c++[D]) t.heap D mo),Af X n ex K s (c++[D]) (F++[mo]) t:=by
 intros X n K s ex c F t D mo _ g J G I w r;have x:=g.1;rw[⟨⟨by simp [x.1],?_,λi B v u f=>?_,x.4,λi B v u f=>?_,x.6,λv m q=>?_,x.8,x.9,?_,λp m=>⟨hW _ (x.11 p m).1,(x.11 p m).2⟩⟩,?_,λb o e=>?_⟩,Kh.mpr<|BX x.2 (by simp) λv l b w=>by rw[U (B3.mp w) λq=>G<|q▸l]];·rw[Cz (PL i c.length) (λk=>?_) λk=>?_];(·rw[Er k]at f;rw[Er<|x.1▸k]at u;rw[(x.3 i B v u f).mono (Bh.app _ _) (GY.refl _) Y]);·rw[DO k]at f;rw[DO<|x.1▸k,<-x.1]at u;cases q:i-c.length with|zero=>rw[q]at u f;simp only [UC,U7]at u f;subst u f;rw[r]|succ j=>rw[q]at f;simp at f
 ·rw[Cz (PL i c.length) (λk=>?_) λk=>?_];(·rw[Er k]at f;rw[Er<|x.1▸k]at u;rw[x.5 i B v u f]);·rw[DO k]at f;cases q:i-c.length with|zero=>rw[q]at f;simp only [UC,U7]at f;subst f;rw[.inr w]|succ j=>rw[q]at f;simp at f
 ·rw[Cz (Cj.mp q) (λq=>?_) λq=>?_,x.7 v m q];·rw[B3.mp q]at m;rw[I m]
 rw[xE x.10 λy e=>⟨y++[D],by rw[U e<|U (Bc ..) Y]⟩,AY g.2 λy z h=>U z ?_,(Aa (y++[D]) (Bc ..) λa m=>Cz (Cj.mp m) (λm=>?_) λm=>?_),h a m,U (B3.mp m) J,g.3 b o e]
end
section
open PySem PySem.W PySem.Calls PyProof.Rows
def hx(A:Bq):O AQ:=match A.handled with|V (.ref x)=>[x]|_=>[]
theorem gE(h:A.handled=V (.ref x)):hx A=[x]:=by unfold hx;rw[U h Y]
theorem Hd.kept(d:Hd A h)(k:∀b∈hx A,∀o,h.get? b=V o->a.get? b=V o):Hd A a:=by rcases d with c|⟨x,o,f,c,g,q,j⟩;rw[.inl c,.inr<|HV x o f c (k x (by rw[U (gE c)<|.head _]) o g) q j]
theorem Hd.lt(d:Hd A h):∀b∈hx A,b<h.objs.size:=λb m=>by
 rcases d with c|⟨x,o,g,c,f,q,j⟩;·unfold hx at m;rw[c]at m;rw[nomatch m]
 ·rw[gE c,B3]at m;rw[m▸Ds f]
section
theorem yA(I c:AQ)(Dq:c≠I)(hI:I∉hx A)(a:CI AX):Walks k w A I (I::c::hx A) [I] a.size (λi v=>a[i]?=V v) λi h=>h.IsListIter I c i/\h.IsList c a/\Hd A h where
 sub:=λb d=>B3.mp d▸.head _
 frame:=λZ Z Z st g=>(BX (st.1.at λo e=>g I (.head _) o e) (st.2.1.at λo e=>g c (.tail _<|.head _) o e)<|st.2.2.kept λb m=>g b<|.tail _<|.tail _ m)
 item:=λi s Q E l st f=>by have hx:a[i]?=V a[i]:=TG l;rw[aU st.1 st.2.1 hx λj a9 C7=>f _ j s.toks hx (BX a9 (st.2.1.extBut C7.extBut Dq)<|st.2.2.kept λb m o e=>C7.extBut b o (λq=>hI<|q▸m) e) λb o d e=>C7.extBut b o (λh=>d<|h▸.head _) e]
 done:=λs Q E st f=>jW st.2.2 st.1 st.2.1 (Ul<|B2 _) λj Lu=>f j s.toks λb o d e=>Lu b o (λh=>d<|h▸.head _) e
 self:=λZ Z Z Z st f=>jZ st.1 f
theorem we(I c:AQ)(Dq:c≠I)(hI:I∉hx A)(a:CI AX):Walks k w A I (I::c::hx A) [I] a.size (λi v=>a[i]?=V v) λi h=>h.IsTupleIter I c i/\h.IsTuple c a/\Hd A h where
 sub:=λb d=>B3.mp d▸.head _
 frame:=λZ Z Z st g=>(BX (st.1.at λo e=>g I (.head _) o e) (st.2.1.at λo e=>g c (.tail _<|.head _) o e)<|st.2.2.kept λb m=>g b<|.tail _<|.tail _ m)
 item:=λi s Q E l st f=>by have hx:a[i]?=V a[i]:=TG l;rw[hU st.1 st.2.1 hx λj a9 C7=>f _ j s.toks hx (BX a9 (st.2.1.extBut C7.extBut Dq)<|st.2.2.kept λb m o e=>C7.extBut b o (λq=>hI<|q▸m) e) λb o d e=>C7.extBut b o (λh=>d<|h▸.head _) e]
 done:=λs Q E st f=>VE st.2.2 st.1 st.2.1 (Ul<|B2 _) λj Lu=>f j s.toks λb o d e=>Lu b o (λh=>d<|h▸.head _) e
 self:=λZ Z Z Z st f=>kY st.1 f
end
variable{X:Cx}{envs:AB Env}{μ:AB AQ}{H:MH}{s:Ae}{A:Bq}{E:AX->Ae->Prop}{Q:AX->Ae->Prop}
theorem lH{S}{h:BC}{l}:∀{bs a}{i:G}{v},Ju l=V bs->Ax S μ h l a->a[i]?=V v->v= .bool (bs.getD i T):=by induction l with|nil=>intro bs a i v _ r q;obtain rfl:=LL r;rw[nn q]|cons m l d=>intro bs a i v e r q;(rw[By (JI r) λu k BL f g=>?_];clear r;subst BL);induction m using MV.casesOn with|bool b=>rw[Bo e λc e1 j=>?_];subst j;(induction i using CV with|zero=>(replace q:=AN q;subst q);rw[f]|succ i=>rw[d (bs:=c) e1 g q])|_=>rw[nn e]
theorem g8{S}{h:BC}{l}:∀{ns a}{i:G}{v},Dm l=V ns->Ax S μ h l a->a[i]?=V v->∃t,v= .int (ns.getD i 0) t:=by induction l with|nil=>intro ns a i v _ r q;obtain rfl:=LL r;rw[nn q]|cons m l c=>intro ns a i v e r q;(rw[By (JI r) λu j Bf d f=>?_];clear r;subst Bf);induction m using MV.casesOn with|int b=>rw[Bo e λJ4 e1 g=>?_];subst g;(induction i using CV with|zero=>(replace q:=AN q;subst q);rw[d]|succ i=>rw[c (ns:=J4) e1 f q])|_=>rw[nn e]
theorem l5:∀{a},Ju l=V a->a.length=l.length:=by induction l with|nil=>intro a e;obtain rfl:=AN e;rfl|cons m l c=>intro a e;induction m using MV.casesOn with|bool b=>rw[Bo e λd e1 f=>by rw[Ag f<|A_ (·+1)<|c e1]]|_=>rw[nn e]
theorem jw:∀{a},Dm l=V a->a.length=l.length:=by induction l with|nil=>intro a e;obtain rfl:=AN e;rfl|cons m l c=>intro a e;induction m using MV.casesOn with|int b=>rw[Bo e λd e1 f=>by rw[Ag f<|A_ (·+1)<|c e1]]|_=>rw[nn e]
theorem fR(a:O AL):(G_ a.length).map (λi=>a.getD i T)=a:=by rw[List.ext_getElem (by rw[U (CO ..)<|U Og Y]) λi c b=>U (List.getElem_map ..)<|U (gr ..)<|U (IP)<|U (Cm b) ?_];rfl
theorem range_all(a:O AL):(G_ a.length).all (λi=>a.getD i T)=a.all id:=by
 conv=>rhs;rw[<-fR a,List.all_map]
 rfl
theorem range_any(a:O AL):(G_ a.length).any (λi=>a.getD i T)=a.any id:=by
 conv=>rhs;rw[<-fR a,Yc]
 rfl
theorem l9(h:∀i v,P i v->v= .bool (f i)):TruthOf a w A P f:=λi v s Q E b c=>by obtain rfl:=h i v b;rw[MD c]
theorem n6(l:O J)(n:G):preSum (λi=>l.getD i 0) n=O5 l n:=by induction n with|zero=>rfl|succ n b=>rw[A_ (·+l.getD n 0) b]
theorem aaV(l:O J)(n:G):argBest (λi j=>decide<|l.getD i 0>l.getD j 0) n=It l n:=by induction n with|zero=>rfl|succ n b=>show(if decide (l.getD (n+1) 0>l.getD (argBest _ n) 0)=I then n+1 else argBest _ n)=_;rw[U b ?_];rfl
theorem VW(x:St X envs μ H s)(j:Fo X A)(f:IsL s.heap l a n)(h:∀I c,Walks X.prog X.w A I (I::l::hx A) [I] a.size (λi v=>a[i]?=V v) (λi h=>h.IsListIter I l i/\h.IsList l a/\Hd A h)->(c.IsListIter I l 0/\c.IsList l a/\Hd A c)->(∀b∈I::l::hx A,b<c.objs.size)->(∀Ko,(∀b o,b∉[I]->c.get? b=V o->Ko.get? b=V o)->∀t,Af X envs [] μ s μ H {s with heap:=Ko,toks:=t})->Q (.ref I) {s with heap:=c}):Ab X.M A (Ja<|.ref l) Q E s:=by
 have d:=Ar.at j x;have k:∀b o,s.heap.get? b=V o->(s.heap.push {cls:= .type "list_iterator",data:= .fields #[.ref l,.int 0 0]}).get? b=V o:=λb o e=>E4 _ e;have lt:∀{b},b<s.heap.objs.size->b<(s.heap.push {cls:= .type "list_iterator",data:= .fields #[.ref l,.int 0 0]}).objs.size:=λq=>by rw[U (Jp ..)<|j4 q]
 have g:=Ds f;rw[gW (GH f)<|h _ _ (yA _ l (DZ g) (λm=>GN _<|d.lt _ m) a) (BX (DB _ (Fz _ Y) Y Y) ((GH f).push _)<|d.keep λb o e Z=>k b o e) (λb m=>?_) λKo p t=>?_];·induction m using Cu with|head D2=>rw[U D2<|U (Jp ..)<|JG _]|tail m=>induction m using Cu with|head D2=>rw[U D2<|lt g]|tail m=>rw[lt<|d.lt _ m]
 rw[Af.I9 x λb o e=>p b o (λm=>DZ (Ds e)<|B3.mp m)<|k b o e]
theorem vk(x:St X envs μ H s)(j:Fo X A)(f:IsT s.heap l a n)(h:∀I c,Walks X.prog X.w A I (I::l::hx A) [I] a.size (λi v=>a[i]?=V v) (λi h=>h.IsTupleIter I l i/\h.IsTuple l a/\Hd A h)->(c.IsTupleIter I l 0/\c.IsTuple l a/\Hd A c)->(∀b∈I::l::hx A,b<c.objs.size)->(∀Ko,(∀b o,b∉[I]->c.get? b=V o->Ko.get? b=V o)->∀t,Af X envs [] μ s μ H {s with heap:=Ko,toks:=t})->Q (.ref I) {s with heap:=c}):Ab X.M A (Ja<|.ref l) Q E s:=by
 have d:=Ar.at j x;have k:∀b o,s.heap.get? b=V o->(s.heap.push {cls:= .type "tuple_iterator",data:= .fields #[.ref l,.int 0 0]}).get? b=V o:=λb o e=>E4 _ e;have lt:∀{b},b<s.heap.objs.size->b<(s.heap.push {cls:= .type "tuple_iterator",data:= .fields #[.ref l,.int 0 0]}).objs.size:=λq=>by rw[U (Jp ..)<|j4 q]
 have g:=Ds f;rw[Xf (HK f)<|h _ _ (we _ l (DZ g) (λm=>GN _<|d.lt _ m) a) (BX (DB _ (Fz _ Y) Y Y) ((HK f).push _)<|d.keep λb o e Z=>k b o e) (λb m=>?_) λKo p t=>?_];·induction m using Cu with|head D2=>rw[U D2<|U (Jp ..)<|JG _]|tail m=>induction m using Cu with|head D2=>rw[U D2<|lt g]|tail m=>rw[lt<|d.lt _ m]
 rw[Af.I9 x λb o e=>p b o (λm=>DZ (Ds e)<|B3.mp m)<|k b o e]
theorem Fo.in1(h:Fo X A):Fo X A.in1:=h
theorem vT(x:St X envs μ H s)(z:Fo X A){i}{l}{h u}(o:RV X.T.strs μ s.heap (.ref i) u)(d:H[i]?.bind AK.Cc=V l)(g:Ju l=V h)(P:AU X envs [] μ s (C5 X) (.ok (MV.bool<|h.all id) H) Q E):Ab X.M A (call (.builtin "all") [u]) Q E s:=Ge d λC d=>by rw[AY (J1 o) λa y c=>U c ?_,By (x.GR y d) λb n q r Z=>call_all_walk<|VW x z.in1 q λI B W m Z k=>⟨_,_,_,_,_,_,λi=>h.getD i T,Y,W,m,l9 λi v e=>lH g r<|Jz▸e,λf j p=>?_⟩,U (show b.size=h.length from r.length.trans (l5 g).symm)<|U (range_all ..)<|P _ _ _ (k f p j) Y]
theorem abD(x:St X envs μ H s)(z:Fo X A){i}{l}{h u}(o:RV X.T.strs μ s.heap (.ref i) u)(d:H[i]?.bind AK.Cc=V l)(g:Ju l=V h)(P:AU X envs [] μ s (C5 X) (.ok (MV.bool<|h.any id) H) Q E):Ab X.M A (call (.builtin "any") [u]) Q E s:=Ge d λC d=>by rw[AY (J1 o) λa y c=>U c ?_,By (x.GR y d) λb n q r Z=>call_any_walk<|VW x z.in1 q λI B W m Z k=>⟨_,_,_,_,_,_,λi=>h.getD i T,Y,W,m,l9 λi v e=>lH g r<|Jz▸e,λf j p=>?_⟩,U (show b.size=h.length from r.length.trans (l5 g).symm)<|U (range_any ..)<|P _ _ _ (k f p j) Y]
theorem sE(x:St X envs μ H s)(o:Fo X A){i}{l}{c u}(p:RV X.T.strs μ s.heap (.ref i) u)(f:H[i]?.bind AK.Cc=V l)(h:Dm l=V c)(P:AU X envs [] μ s (C5 X) (.ok (MV.int<|O5 c c.length) H) Q E):Ab X.M A (call (.builtin "sum") [u]) Q E s:=Ge f λfz f=>by rw[AY (J1 p) λa q Ga=>U Ga ?_,By (x.GR q f) λb n il r Z=>call_sum_walkAnyS<|VW x o.in1 il λI D W st lt k=>⟨_,_,_,_,_,_,_,λi=>c.getD i 0,Y,W.toS,st,lt,λi v e=>g8 h r<|Jz▸e,λt F m=>?_⟩,U (n6 ..)<|U (show b.size=c.length from r.length.trans (jw h).symm) ?_];obtain⟨Ko,g,d,w,os⟩:=t;obtain⟨y,j,z,B,_⟩:=m;obtain rfl:=(show g=_ from j);clear j;obtain rfl:=(show d=_ from z);obtain rfl:=(show os=_ from B);rw[P _ _ _ (k Ko y w) Gd]
theorem su(x:St X envs μ H s)(C:Fo X A){l}{a}{u}(q:RV X.T.strs μ s.heap (.tup l) u)(m:Dm l=V a)(h:0<a.length)(P:AU X envs [] μ s (C5 X) (.ok (MV.int<|a.getD (It a<|a.length-1) 0) H) Q E):Ab X.M A (call (.builtin "max") [u]) Q E s:=by rw[Dz (Ih q) λt b n f B Z r=>U f ?_];have c:∀i v,b[i]?=V v->∃t,v=WL (a.getD i 0) t:=λi v e=>g8 m r<|Jz▸e;have j:b.size=a.length:=r.length.trans (jw m).symm;rw[call_max_walk<|vk x C.in1 B λI F W p y k=>⟨_,_,_,_,_,_,_,Y,W,p,y,j▸h,CmpOf.ints_gt _ c,λv g o e z=>?_⟩,xE (c _ v e) λD d=>U d ?_,U (aaV ..)<|U j<|P _ _ _ (k g z o) Gd]
theorem yZ(x:St X envs μ H s)(g:Fo X A)(c:RV X.T.strs μ s.heap a u)(P:AU X envs [] μ s (C5 X) (LH H b a) Q E):Ab X.M A (call (TH b) [u]) Q E s:=by induction b using Bi.casesOn with|len=>rw[wc x c P]|list=>rw[qW x c P]|tuple=>rw[y4 x c P]|all=>(induction a using MV.casesOn with|ref i=>rw[AU.opt P λZ e P=>BQ e λl f d=>vT x g c f d P]|_=>rw[P.elim])|any=>(induction a using MV.casesOn with|ref i=>rw[AU.opt P λZ e P=>BQ e λl f d=>abD x g c f d P]|_=>rw[P.elim])|sum=>(induction a using MV.casesOn with|ref i=>rw[AU.opt P λZ e P=>BQ e λl f d=>sE x g c f d P]|_=>rw[P.elim])|max=>(induction a using MV.casesOn with|tup l=>rw[AU.Ha P λZ e P=>BQ e λk d e=>CB e λj e=>by(replace e:=AN e;subst e);rw[su x g c d j P]]|_=>rw[P.elim])|int=>induction a using MV.casesOn with|bool b=>subst c;rw[call_int_bool<|P _ _ _ (Af.tok x) Gd]|_=>rw[P.elim]
end
section
open PySem PySem.W PySem.Calls PyProof.Rows
def VK:LM->Am| .append=>"append"| .pop=>"pop"| .extend _=>"extend"| .reverse=>"reverse"
inductive Mh(X:Cx):Prop
 |mk(Py:∀n g mv,X.T.Py.lookup n=V g->X.P.glob g=V mv->∃v,FR X.K EC n=V (V v)/\RV X.T.strs X.KA X.base mv v)(Ng:∀n k,X.T.Ng.lookup n=V k->∃fa,FR X.K EC n=V (V<|.ref fa)/\X.fn k=V fa/\JK X.K (.ref fa)=I)(PF:∀n k,X.T.PF.lookup n=V k->∃ca,FR X.K EC n=V (V<|.ref ca)/\X.cls k=V ca/\JK X.K (.ref ca)=I)(bis:∀n b,SA n=V b->FR X.K EC n=V C/\∃m,X.base.Ns Gh m/\m n=V (TH b))(range:FR X.K EC "range"=V C/\∃m,X.base.Ns Gh m/\m "range"=V (.type "range"))(enum:FR X.K EC "enumerate"=V C/\∃m,X.base.Ns Gh m/\m "enumerate"=V (.type "enumerate"))(meths:∀f fa,X.fn f=V fa->JK X.K (.ref fa)=I)(lms:∀k m,X.P.lm k=V m->X.T.strs[k]?=V (VK m))
inductive gS(X:Cx)(A:Bq)(d:G)(envs:O Env)(rz:AL):Prop
 |mk(frames:A.frames=V envs)(depth:A.depth+4*d<=903)(units:A.units+40+32*d<=9000)(hand:rz=I->A.handled=C)(hd:Fo X A)
theorem Ar.c{X A d a b}(x:Ar X A d a b):gS X A d a b:=⟨x.1,L x.2<|B6 Y,L (CU (CD (B6 Y) _) _) x.3,x.4,x.5⟩
theorem Ar.Qh(x:Ar X A d a f):A.units+66<Ku:=CH (CU (L (L (BJ _ _)<|BJ _ _) x.3) 66)<|(B6 Y:_<9900)
theorem Ar.dep(h:a+x<=900)(c:b<=2):a+b+x<=903:=FZ a b x▸L (Cq h c) (B6 Y)
theorem Ar.zX(h:a+64+x<=9000)(c:b<=8):a+b+40+x<=9000:=L (CU (CR a b 40▸CD (L (CU c 40)<|B6 Y) a) x) h
def Wv(Q E:AX->Ae->Prop)(r:Result)(a:Ae):Prop:=match r with| .ok (.ret v)=>Q v a| .ok _=>BB| .error e=>E e a
def IY(X:Cx)(C:CF)(d:G)(h:AL):Prop:=∀(A:Bq)(a:O Env)(f:G)(g:AQ)(b:O MV)(c:O AX)(e:O AQ)(H:MH)(s:Ae)(Q E:AX->Ae->Prop),X.fn f=V g->gS X A d a h->St X a e H s->Ax X.T.strs e s.heap b c->AU X a [] e s (C5 X) (C f b H) Q E->Ie X.M A (.call (.ref g) ⟨c,[]⟩) (Wv Q E) s
theorem jK{X:Cx}(h:Ie X.M A (.call f ⟨a,[]⟩) (Wv Q E) s):Ab X.M A (call f a) Q E s:=MG<|Sm h λr b z=>by rcases r with e|(v|_|_|_)<;>exact z
def E6(X:Cx)(C:CF)(N:G)(i:AL)(d n:G):Prop:=∀(sc:Bt)(f:VM)(e:Expr)(c:CE),cE X.T n sc f e=V c->∀(A:Bq)(a:O Env)(b:Env)(g:O AQ)(H:MH)(s:Ae)(h:Loc)(Q E:AX->Ae->Prop),Ar X A d a i->C3 b sc f a->St X a g H s->B4 X b f g h s.heap->AU X a [] g s (C5 X) (mE X.P C N c h H) Q E->Ab X.M A (DC e b) Q E s
def Jv(X:Cx)(C:CF)(N:G)(i:AL)(d n:G):Prop:=∀(sc:Bt)(f:VM)(e:Expr)(c:CE),cE X.T n sc f e=V c->∀(A:Bq)(a:O Env)(b:Env)(g:O AQ)(H:MH)(s:Ae)(h:Loc)(Q:AL->Ae->Prop)(E:AX->Ae->Prop),Ar X A d a i->C3 b sc f a->St X a g H s->B4 X b f g h s.heap->AU X a [] g s Ey ((mE X.P C N c h H).bind Cw) Q E->Ab X.M A (isTrue e b<|DC e b) Q E s
variable{X:Cx}{C:CF}{N:AE}{rz:AL}{d n:AE}{sc:Bt}{vm:VM}{A:Bq}{envs:AB Env}{env:Env}{μ:AB AQ}{H:MH}{s:Ae}{ρ:Loc}{Q E:AX->Ae->Prop}
theorem fG(h:(!b&&c)=I):b=T:=by induction b using BG with|true=>rw[nb h]|false=>rfl
theorem yE(h:isVar sc x=I):(x==("__debug__":Am))=T:=fG h
theorem fA(h:F5 sc x=I):(x==("__debug__":Am))=T:=fG h
theorem PZ(f:Dy X)(x:St X envs μ H s)(b:C3 env sc vm envs)(c:F5 sc nm=I)(e:FR X.K EC nm=V (V v))(P:Q v s):Ab X.M A (DC (.Name nm p) env) Q E s:=by rw[U0 b.1 (b.4 nm c) ?_<|fA c];unfold TV;rw[U b.5<|Ah<|(TZ (f.1.keeps x.4) e).here<|B8 P]
theorem WE(j:Dy X)(x:St X envs μ H s)(b:C3 env sc vm envs)(c:F5 sc nm=I)(e:FR X.K EC nm=V AI/\∃m,X.base.Ns Gh m/\m nm=V v)(P:Q v s):Ab X.M A (DC (.Name nm p) env) Q E s:=by rw[U0 b.1 (b.4 nm c) ?_<|fA c];unfold TV;rw[U b.5<|U b.6<|Ah<|(TZ (j.1.keeps x.4) e.1).here<|Zs e λZ m g f=>Ah<|wpAny_nsGet (g.keeps x.4)<|U f<|B8 P]
theorem qy(x:St X envs μ H s):F' X.base s.heap:=λa b n i=>x.4 _ _ i
theorem uo(x:St X envs μ H s):Bh X.KA μ:=by rw[xE x.10 λc b=>U b ?_,Bh.app _ _]
theorem xD:∀{X C N f l A a i t H s z Q E nm p c}(o:Dy X)(q:Mh X)(x:St X a t H s)(m:C3 i f l a)(L:B4 X i l t z s.heap)(h:YK X.T f l nm=V c)(P:AU X a [] t s (C5 X) (mE X.P C N c z H) Q E),Ab X.M A (DC (.Name nm p) i) Q E s:=by
 intros X C N f l A a i t H s z Q E nm p c _ o q x m L h P;unfold YK at h;rw[Ao (λb:isVar f nm=I=>?_) λb=>?_];·replace h:=(AM b)▸h;rw[Bo h λk j e=>?_];subst e;rw[AU.Ha P λw g P=>wpAny_Name (abS m L b j g λv u=>P _ _ _ (Af.refl x) u)<|yE b]
 ·replace h:=(AS b)▸h;rw[CB h λy h=>Bo h λk j e=>?_];subst e;rw[AU.Ha P λw g P=>AY (q.1 _ _ _ j g) λv e r=>PZ o x m y e<|P _ _ _ (Af.refl x)<|r.mono (uo x)<|qy x]
theorem NZ(h:cE a n sc vm e=V c)(b:O Expr):G4 (e::b) env=(T,DC e env)::G4 b env:=by induction e using Cr<;>first|rfl|(induction n using CV<;>exact nn h)
theorem u6(h:cE a n sc vm e=V c)(b:CmpOp):behindInMarks b e=T:=by induction e using Cr<;>first|rfl|(induction n using CV<;>exact nn h)
theorem Us:∀{X C N U d n j W A i l Y E pos t}(w:E6 X C N U d n)(r:Ar X A d i U)(q:C3 l j W i),∀{T S H s Q},Av (cE X.T n j W) t=V T->St X i S H s->B4 X l W S Y s.heap->AU X i [] S s (QF X) (CN X.P C N T Y H) Q E->Ab X.M A (spliced<|Gf pos<|G4 t l) Q E s:=by intros X C N U d n j W A i l Y E pos t _ w r q;induction t with|nil=>intro T S H s Q h x L P;(replace h:=AN h;subst h);rw[YZ<|P _ _ _ (Af.refl x) Ax.nil]|cons e t B=>intro T S H s Q h x L P;rw[C0 h λb K v D F=>?_];clear h;subst F;rw[NZ v]at⊢;rw[RL<|w _ _ _ _ v _ _ _ _ _ _ _ _ _ r q x L<|AU.bind P λa u g z p Z m R I=>B D m.1 (L.Bb x m)<|AU.bind I λM J f y o Z c G k=>k.ok (Af.refl c.1)<|Ax.cons (c.rv m.1 C6.nil R) G]
theorem W':∀{n c m env pos a i},∀{l},Av (cE a n c m) i=V l->((Gf pos<|G4 i env).any λx=>x.1)=T:=by intros n c m env pos a i;induction i with|nil=>intro l h;rfl|cons e i f=>intro l h;rw[C0 h λb k j g Z=>?_];rw[NZ j]at⊢;rw[(aj _).trans<|f g]
theorem V6:∀{X C N p d n sc j A a c k H s l Q E g i m f first}(o:Dy X)(t:E6 X C N p d n)(w:Ar X A d a p)(y:C3 c sc j a)(h:Av (cE X.T n sc j) i=V m)(q:JK X.K f=I)(x:St X a k H s)(L:B4 X c j k l s.heap)(P:AU X a [] k s (QF X) (CN X.P C N m l H) (λz Bs=>(∃Iw FV,St X a Iw FV Bs)->Ab X.M A (call f<|first++z) Q E Bs) E),Ab X.M A (KY g f first (Gf g<|G4 i c) []) Q E s:=by intros X C N p d n sc j A a c k H s l Q E g i m f first _ o t w y h q x L P;induction i using An with|nil=>obtain rfl:=AN h;rw[callWith_K0 (o.1.keeps x.4) q<|P _ _ _ (Af.refl x) Ax.nil<|Bp _ _ x]|cons e i=>rw[C0 h λb M B D Z=>callWith_K (o.1.keeps x.4) q (Us t w y h x L ?_) (NZ B i)<|W' D];revert P;cases CN X.P C N m l H with|bad=>rw[λP=>P]|ok v F=>rw[λP u Bd K r R=>⟨o.1.keeps r.1.4,P u Bd K r R<|Bp _ _ r.1⟩]|exc S F=>rw[λP=>P]
theorem fe(b:∀a,v≠.ref a):GG M h (keeperOf v) .machine:=by rw[RJ ?_];induction v using Gm<;>first|rfl|rw[Aj Y<|b _]
theorem pG(o:E6 X C N rz d n)(m:Ar X A d envs rz)(k:C3 env sc vm envs)(j:∀a,f≠.ref a)(h:cE X.T n sc vm e=V c)(x:St X envs μ H s)(L:B4 X env vm μ ρ s.heap)(P:AU X envs [] μ s (C5 X) (mE X.P C N c ρ H) (λv b=>Ab X.M A (call f [v]) Q E b) E):Ab X.M A (KY i f [] (Gf i<|G4 [e] env) []) Q E s:=by rw[NZ h]at⊢;rw[callWith_of (P:=λZ=>Bg) Y (λh Z=>(Aa .machine (.inr<|.inl Y)<|fe j))<|UU<|RL<|EY (o _ _ _ _ h _ _ _ _ _ _ _ _ _ m k x L P) (λv b g=>YZ ⟨B9,g⟩) λZ Z q=>q]
theorem ug(b:CmpOp):W6 (Hf b)=b:=by induction b using CmpOp.casesOn<;>rfl
theorem cq:∀{n f q a c},∀{i l},Av (cE a n f q) i=V l->lastMarks c i=T:=by intros n f q a c;induction c with|nil=>intro i l _;induction i using An<;>rfl|cons j c k=>intro i l h;induction i using An with|nil=>induction c using An<;>rfl|cons e i=>rw[C0 h λb p o m Z=>?_];induction c using An with|nil=>clear h;(induction i using An with|nil=>rw[u6 o j]|cons=>rfl)|cons g c=>rw[k m]
abbrev L_:O AQ->BC->AL->AX->Prop:=λZ Z b v=>v= .bool b
theorem Su(m:Dy X)(k:A.units+66<Ku)(x:St X envs μ H s)(j:RV X.T.strs μ s.heap a u)(g:RV X.T.strs μ s.heap b v)(P:AU X envs [] μ s Ey (M' (Hf f) a b H) (λr c=>Q (.bool r) c) E):Ab X.M A (Lk f u v) Q E s:=AU.Ha P λr e P=>ug f▸qF m k x j g e λc o=>P r μ c o Y
theorem AU.zJ(P:AU X envs [] μ s L_ r Q E):AU X envs [] μ s Ey r (λb c=>Q (.bool b) c) E:=by induction r using R.casesOn with|bad=>rw[P]|ok b g=>rw[λu f c A R=>by subst R;rw[P _ _ _ A Y]]|exc=>rw[P]
theorem s6(D:Dy X)(F:E6 X C N rz d n)(o:Ar X A d envs rz)(B:C3 env sc vm envs)(es:AB Expr):∀{cs f μ H s a u Q},Av (cE X.T n sc vm) es=AA cs->f.length=es.length->St X envs μ H s->B4 X env vm μ ρ s.heap->RV X.T.strs μ s.heap a u->AU X envs [] μ s L_ (HJ X.P C N a (f.map Hf) cs ρ H) Q E->Ab X.M A (compareChain pos u f<|OG es env) Q E s:=by revert D F o B;intros _ X C N rz d n sc vm A envs env ρ E pos es _ D F o B;induction es with|nil=>intro cs f μ H s a u Q h j x L I P;(replace h:=AN h;subst h);(induction f using An with|nil=>rw[P.elim]|cons=>rw[nomatch j])|cons e es Y=>intro cs f μ H s a u Q h j x L I P;rw[C0 h λb bs V q K=>?_];clear h;subst K;induction f using An with|nil=>rw[nomatch j]|cons U f=>have j:=MC j;induction es using An with|nil=>(replace q:=AN q;subst q);(induction f using An with|cons=>rw[nomatch j]|nil=>rw[chain_last<|F _ _ _ _ V _ _ _ _ _ _ _ _ _ o B x L<|AU.bind (P:AU X envs [] μ s L_ ((mE X.P C N b ρ H).bind λy H=>M' (Hf U) a y H) Q E) λb v m z p _ k R S=>Su D o.Qh k.1 (k.rv x C6.nil I) R S.zJ])|cons e' es=>induction f using An with|nil=>rw[nomatch j]|cons J f=>rw[C0 q λZ M t l K=>?_];subst K;rw[chain_link<|F _ _ _ _ V _ _ _ _ _ _ _ _ _ o B x L<|AU.bind (P:AU X envs [] μ s L_ ((mE X.P C N b ρ H).bind λy H=>(M' (Hf U) a y H).bind λc H=>if c then HJ X.P C N y ((J::f).map Hf) (Z::M) ρ H else .ok AH H) Q E) λb v m z p _ k R S=>Su D o.Qh k.1 (k.rv x C6.nil I) R<|AU.bind S λr i G W T _ g O w=>?_];subst O;rw[MD ?_];induction r using BG with|true=>rw[Y q j g.1 ((L.Bb x k).Bb k.1 g) (g.rv k.1 C6.nil R) w]|false=>rw[AU.ok w (Af.refl g.1) A7]
end
section
open PySem PySem.W PySem.Calls PyProof.Rows
variable{X:Cx}{C:CF}{N:AE}{rz:AL}{d n:AE}{sc:Bt}{vm:VM}{A:Bq}{envs:AB Env}{env:Env}{μ:AB AQ}{H:MH}{s:Ae}{ρ:Loc}{Q E:AX->Ae->Prop}
theorem AU.lD{r}{Q}(P:AU X envs [] μ s Ey ((r.bind λb H=> .ok (.bool b) H).bind Cw) Q E):AU X envs [] μ s Ey r Q E:=by induction r using R.casesOn with|bad=>rw[P]|ok v c=>rw[P]|exc x c=>rw[P]
theorem AU.i8(P:AU X envs [] μ s (C5 X) (r.bind λb H=> .ok (.bool b) H) Q E):AU X envs [] μ s L_ r Q E:=by induction r using R.casesOn with|bad=>rw[P]|ok v g=>rw[λu c f A R=>P u c f A<|by rw[U R ZR]]|exc x g=>rw[P]
theorem iu{f c:Type}{a:O AQ->BC->f->c->Prop}{r:R f}{Q g:c->Ae->Prop}(P:AU X envs [] μ s a r Q E)(k:∀u e,Q u e->g u e):AU X envs [] μ s a r g E:=by induction r using R.casesOn with|bad=>rw[P]|ok v j=>rw[λu b e A R=>k _ _<|P u b e A R]|exc x j=>rw[P]
theorem AU.Cw{a:MV}{u:AX}{g:Type}{c:Type}{e:O AQ->BC->g->c->Prop}{f:AL->MH->R g}{Q:c->Ae->Prop}{G:Prop}(r:RV X.T.strs μ s.heap a u)(P:AU X envs [] μ s e ((Cw a H).bind f) Q E)(k:∀b,u= .bool b->AU X envs [] μ s e (f b H) Q E->G):G:=by induction a using MV.casesOn with|bool b=>rw[k b r P]|_=>rw[P.elim]
theorem nr{a}{u}{c}{f}{e}{Q}(x:St X envs c f e)(r:RV X.T.strs c e.heap a u)(P:AU X envs [] c e Ey (Cw a f) Q E):∃b,u= .bool b/\a= .bool b/\Q b e:=by induction a using MV.casesOn with|bool b=>rw[(DB b r Y<|AU.ok P (Af.refl x) Y)]|_=>rw[P.elim]
def Gy:BoolOp->AL| .And=>I| .Or=>T
set_option backward.match.sparseCases true in
theorem oE (w : E6 X C N rz d n) (q : Ar X A d envs rz) (p : C3 env sc vm envs) {l}   {f} (S :  O Expr)  : ∀ {Z}  {W} {H} {s} {Q}, Av (cE X.T n sc vm) S =  V Z →   S ≠  [] →
   St X envs W H s → B4 X env vm W ρ s.heap → AU X envs [] W s L_ (ER X.P C N (Gy f) Z ρ  H) Q E → Ab X.M A (boolOp l f   (OG S env))  Q E s := by
 revert w q p
 intros _ X C N rz d n sc vm A envs env ρ E l f   S _  w q p
 induction S with
 | nil => intro _ _ _ _ _ _ h; rw [Aj Y h]
 | cons e S i =>
   intro Z W H  s Q h _ x L P
   rw [C0 h fun b M D r J => ?_]
   clear h; subst J
   have P : AU X envs [] W s L_ ((mE X.P C N b ρ H).bind fun v H => (Cw v H).bind fun t H => if t = Gy f then ER X.P C N (Gy f) M ρ H else .ok t H) Q E := P
   induction S using  An with
   | nil =>
     (replace r := AN r; subst r)
     rw [w _ _ _ _ D _ _ _ _ _ _ _ _ _ q p x L (AU.bind P fun a u k o g K m R y => AU.Cw R y fun t e c => ?_)]
     subst e
     rw [Ao (fun j : t = Gy f => ?_) fun j => ?_]
     · replace c := (AM j) ▸ c; subst j; rw [AU.ok c (Af.refl m.1) Y]
     rw [AU.ok ((AS j) ▸ c) (Af.refl m.1) Y]
   | cons G S =>
     rw [
            (?_ : Ab X.M A (do
       let v ← DC e env
       N4 l
       let t ← RG [v] (truthy v)
       match f, t with
       | .And, T |  .Or, I =>  pure v
       | _, _ => boolOp l f   (OG (G :: S)  env)) Q E s), Ah (w _ _ _ _ D _ _ _ _ _ _ _ _ _ q p x L (AU.bind P fun a u k o g K m R y => AU.Cw R y fun t e c => U e  (Ah (Le (Ah (GX (MD ?_)))))))]
     have B : t = Gy f → Ab X.M A (boolOp l f   (OG (G :: S)  env)) Q E g := fun j => by replace c := (AM j) ▸ c; rw [i r (fun z => (by clear i r; cases z)) m.1 (L.Bb x m) c]
     have F : ¬ t = Gy f → Ab X.M A (pure (To t)) Q E g := fun j => by rw [B8 (AU.ok ((AS j) ▸ c) (Af.refl m.1) Y)]
     clear i y c; induction f using Qw <;> induction t using BG
     rw [F (fun z => (by cases z)), B Y, B Y, F (fun z => (by cases z))]
theorem zW(w:Jv X C N rz d n)(r:Ar X A d envs rz)(p:C3 env sc vm envs)(i:O Expr):∀{l}{a}{H}{s}{Q},Av (cE X.T n sc vm) i=V l->St X envs a H s->B4 X env vm a ρ s.heap->AU X envs [] a s Ey (ER X.P C N (Gy f) l ρ H) Q E->Ab X.M A (allTrue f i env) Q E s:=by revert w r p;intros _ X C N rz d n sc vm A envs env ρ E f i _ w r p;induction i with|nil=>intro l a H s Q h x L P;(replace h:=AN h;subst h);have q:Q (Gy f) s:=AU.ok P (Af.refl x) Y;induction f using Qw;rw[wpAny_allTrue_And_nil q,wpAny_allTrue_Or_nil q]|cons e i D=>intro l a H s Q h x L P;rw[C0 h λb z G F I=>?_];clear h;subst I;(have J:AU X envs [] a s Ey (((mE X.P C N b ρ H).bind Cw).bind λt H=>if t=Gy f then ER X.P C N (Gy f) z ρ H else .ok t H) Q E:=by have P:AU X envs [] a s Ey ((mE X.P C N b ρ H).bind λv H=>(Cw v H).bind λt H=>if t=Gy f then ER X.P C N (Gy f) z ρ H else .ok t H) Q E:=P;revert P;cases mE X.P C N b ρ H<;>exactλP=>P);have g:=w _ _ _ _ G _ _ _ _ _ _ _ _ _ r p x L (AU.bind J (Q:=λt c=>if t=Gy f then Ab X.M A (allTrue f i env) Q E c else Q t c) (rel:=Ey) λt u m B c Z y R k=>by subst R;rw[Ao (λo:t=Gy f=>?_) λo=>?_];(·rw[AM o]at k⊢;rw[D F y.1 (L.Bb x y) k]);·rw[AS o]at k⊢;rw[AU.ok k (Af.refl y.1) Y]);clear D P J;induction f using Qw;(·rw[wpAny_allTrue_And_cons<|EY g (λt c j=>?_) λZ Z q=>q];induction t using BG<;>exact j);·rw[wpAny_allTrue_Or_cons<|EY g (λt c j=>?_) λZ Z q=>q];induction t using BG<;>exact j
theorem ag(a:AQ)(l:O AX):(PySem.Code.builtin "type.__call__" ⟨.ref a::l,[]⟩).weight<=2:=by
 have:(PySem.Code.builtin "type.__call__" ⟨.ref a::l,[]⟩).weight=1:=by kernel_rfl
 rw[U this ?_];decide
theorem rU(a:Args):(PySem.Code.builtin "type.__call__" a).cUnits<=8:=by have:(PySem.Code.builtin "type.__call__" a).cUnits=(PySem.Code.builtin "type.__call__" ⟨[],[]⟩).cUnits:=Y;rw[U this ?_];decide+kernel
theorem rL:∀{X a h H s}{c}{e}{tk}(x:St X a h H s)(b:X.cls c=V e),Af X a [] h s ((h++[s.heap.objs.size])++[s.heap.objs.size+1]) (H++[.dict T [],.inst c H.length]) {s with heap:=(s.heap.push Po).push (instObj e s.heap.objs.size),toks:=tk}/\((h++[s.heap.objs.size])++[s.heap.objs.size+1])[H.length+1]?=V (s.heap.objs.size+1):=by intros X a h H s c e tk _ x b;have g:=Af.alloc x (o:=Po) (t:=tk) (mo:= .dict T []) Y (.nil<|WA _);have j:=Af.alloc g.1 (o:=instObj e s.heap.objs.size) (t:=tk) (mo:= .inst c H.length) Y (Lp (instObj e s.heap.objs.size) e s.heap.objs.size (Fz _ Y) b Y Y Y<|by rw[U (Er<|by simp [x.1])<|U (DO<|by rw[x.1]at⊢;rw[B2 _])<|U x.1<|U (GI ..) ?_];rfl);have f:=g.trans j;rw[Bc H,show({s with heap:=s.heap.push Po,toks:=tk}:Ae).heap.objs.size=s.heap.objs.size+1 from Jp ..]at f;rw[⟨f,by rw[U (DO<|by simp [x.1]) ?_];simp [x.1]⟩]
theorem pM:∀{X C q d A h l H s Q E}{c}{j}{i}{g}(y:Dy X)(t:Oo X)(B:IY X C d q)(k:Ar X A d h q)(x:St X h l H s)(p:X.cls c=V j)(rv:Ax X.T.strs l s.heap i g)(P:AU X h [] l s (C5 X) (KR X.P C c i H) Q E),Ab X.M A (call (.ref j) g) Q E s:=by intros X C q d A h l H s Q E c j i g _ y t B k x p rv P;rw[AU.W_ P λDq P=>AU.opt P λf M P=>Cp (t.6 c j f p Dq M) λS W T L=>?_];have u:=y.1.keeps x.4;rw[MG<|make_core (makes_of u (t.5 c j p Dq).2.2) (OM u T) (λm=>bind_fn u m L) (.inl Y)<|xA (rL x (tk:=s.toks) p) λo e=>?_];have D:RV X.T.strs ((l++[s.heap.objs.size])++[s.heap.objs.size+1]) ((s.heap.push Po).push<|instObj j s.heap.objs.size) (.ref<|H.length+1)<|.ref<|s.heap.objs.size+1:=Kq e;have U:(s.heap.push Po).objs.size=s.heap.objs.size+1:=Jp ..;rw[Sm (B (A.under<|.builtin "type.__call__" ⟨.ref j::g,[]⟩) h f S (.ref (H.length+1)::i) (.ref (s.heap.objs.size+1)::g) _ _ _ (λv F=>v= .none/\Q (.ref<|s.heap.objs.size+1) F) E W ⟨k.1,Ar.dep k.2<|ag j g,Ar.zX k.3<|rU ⟨.ref j::g,[]⟩,k.4,k.5⟩ o.1 (Ax.cons D<|rv.mono o.Lc (o.tu x C6.nil).t)<|AU.bind (AU.step o P) λa b Iw FV Bs Z K R w=>AU.ite w λI w=>by obtain rfl:=VA I;rw[⟨SR R,AU.ok w (Af.refl K.1)<|K.rv o.1 C6.nil D⟩]) λr F z=>?_];rcases r with e|(v|_|_|_)<;>first|rw[z]|rw[z.elim]
end
section
open PySem PySem.W PySem.Calls PyProof.Rows
variable{X:Cx}{C:CF}{N:AE}{rz:AL}{d n:AE}{sc:Bt}{vm:VM}{A:Bq}{envs:AB Env}{env:Env}{μ:AB AQ}{H:MH}{s:Ae}{ρ:Loc}{Q E:AX->Ae->Prop}
set_option tactic.hygienic true in theorem eW(h:PU o=I):attributeBase o nm env w=w:=by
 induction o using Cr<;>try rfl
 rename_i f b c g;induction f using Cr<;>try rfl
 induction b using An<;>try rfl
 induction c using An<;>try rfl
 rw[Jo h]
theorem dQ:∀{a}{o}{nm}{c e}{b}(m:PU o=I)(k:b.length<=25)(j:(c.endLine==e.line)=I)(p:((Gf e<|G4 b a).all λx=> !x.1)=I),DC (.Call (.Attribute o nm c) b [] e) a=(do
     let g<-DC o a
     N4 c.atName
     let(f,first)<-RG [g] (Pr g nm<|do return(<-importBound o a).getD I)
     KY e f first (Gf e<|G4 b a) []):=by
 intros a o nm c e b _ m k j p;rw[U (arm_eval_Call ..)<|U (eW m) ?_];have r:methodCallForm (b.length+([]:O Keyword).length) (Gf e<|G4 b a) (Tg e<|U1 [] a)=I:=by unfold methodCallForm;have:decide (b.length+([]:O Keyword).length+(if(Tg e<|U1 [] a).isEmpty=I then 0 else 1)<30)=I:=DD (by rw[U (Y:(if(Tg e<|U1 [] a).isEmpty=I then 0 else 1)=0)<|CH k<|B6 Y]);rw[U p<|U this ?_];rfl
 have q:∀g,methodCall o nm c e a g (b.length+([]:O Keyword).length) (Gf e<|G4 b a) (Tg e<|U1 [] a)=(do
     let(f,first)<-RG [g] (Pr g nm<|do return(<-importBound o a).getD I)
     KY e f first (Gf e<|G4 b a) []):=λg=>by unfold methodCall;rw[U r ?_];unfold calleeOf methodCallPos;rw[U j ?_];rfl
 rw[A_ (λf=>DC o a>>=f)<|GJ λg=>A_ (λz=>N4 c.atName>>=λZ=>z)<|q g]
theorem wF(h:Av (cE a n sc vm) g=V i):((Gf f<|G4 g env).all λx=> !x.1)=I:=by have:=Vs.mp (W' (env:=env) (pos:=f) h);rw[Eo.mpr λx b=>(A_ Bool.not<|ZC.mpr<|this x b:_)]
theorem mV:∀m:LM,Slot "list" (VK m) (O_ m)/\typeOf (.builtin<|O_ m)=pure (.type "method_descriptor")| .append=>⟨PySem.F.slot_list_append,PySem.F.type_list_append⟩| .pop=>⟨PySem.F.slot_list_pop,PySem.F.type_list_pop⟩| .extend _=>⟨PySem.F.slot_list_extend,PySem.F.type_list_extend⟩| .reverse=>⟨PySem.F.slot_list_reverse,PySem.F.type_list_reverse⟩
theorem n7:∀{X C N rz d n w vm A envs env μ H s ρ Q E}{pos}{c}{cs}{i}{l}{m}{D}(O:E6 X C N rz d n)(M:Ar X A d envs rz)(K:C3 env w vm envs)(J:cs.length<=1)(f:Av (cE X.T n w vm) c=AA cs)(x:St X envs μ H s)(h:B4 X env vm μ ρ s.heap)(y:μ[i]?=AA D)(k:H[i]?=AA (.list T l))(P:AU X envs [] μ s (C5 X) ((CN X.P C N cs ρ H).bind λR H=>(BW H<|H[i]?.bind AK.KD).bind λl H=>Rh H i l m R) Q E),Ab X.M A (KY pos (.builtin<|O_ m) [.ref D] (Gf pos<|G4 c env) []) Q E s:=by intros X C N rz d n w vm A envs env μ H s ρ Q E pos c cs i l m D _ O M K J f x h y k P;induction c using An with|nil=>(replace f:=AN f;subst f);rw[AU.opt P λI e P=>qR x k y ?_];replace e:=k▸e;rw[A9 (AN e) ?_,P]|cons e B=>intros _ e B _ f;rw[C0 f λb t z o u=>?_];intros _ b t _ z o u;clear f;subst u;induction B using An with|cons Y B=>rw[C0 o λZ S _ _ u=>Aj J<|by rw[A9 u<|UT 1∘λq=>L (Be 2 _) q]]|nil=>(replace o:=AN o;clear J;subst o);rw[NZ z]at⊢;(have V:AU X envs [] μ s (C5 X) ((mE X.P C N b ρ H).bind λv H=>(BW H<|H[i]?.bind AK.KD).bind λl H=>Rh H i l m [v]) Q E:=by revert P;rw[A9 mF ?_];cases mE X.P C N b ρ H<;>exactλP=>P);rw[pv (envs:=envs) (i:=i)<|O _ _ _ _ z _ _ _ _ _ _ _ _ _ M K x h<|AU.bind V λa v g p G W r U F=>AU.opt F λI j F=>TN j λj=>(O' g p I a r.1 j (r.Lc _ _ y) U F)]
theorem yG:∀{X C N F d n sc B A j t K H s G Q E}{o}{nm}{q w}{p}{O}{cs}{k}(M:Dy X)(hC:Oo X)(hG:Mh X)(hO:IY X C d F)(S:E6 X C N F d n)(D:Ar X A d j F)(W:C3 t sc B j)(hb:PU o=I)(hl:p.length<=25)(hp:(q.endLine==w.line)=I)(y:cE X.T n sc B o=V O)(T:X.T.strs[k]?=V nm)(v:Av (cE X.T n sc B) p=V cs)(x:St X j K H s)(L:B4 X t B K G s.heap)(P:AU X j [] K s (C5 X) (mE X.P C N (.BA O k cs) G H) Q E),Ab X.M A (DC (.Call (.Attribute o nm q) p [] w) t) Q E s:=by intros X C N F d n sc B A j t K H s G Q E o nm q w p O cs k _ M hC hG hO S D W hb hl hp y T v x L P;rw[MethodCall_ (S _ _ _ _ y _ _ _ _ _ _ _ _ _ D W x L<|AU.bind P λa u Iw FV Bs e0 A' R P'=>AU.opt P' λmk H7 P2=>?_)<|dQ hb hl hp<|wF v];have J2:=A'.1;have lZ:=L.Bb x A';clear P';induction a using MV.casesOn with|ref i=>rw[AY (J1 R) λad J BL=>U BL ?_,BQ H7 λo y H7=>?_];(induction o using AK.casesOn with|list fz l=>(induction fz using BG with|true=>rw[nn H7]|false=>rw[CB H7 λhle H7=>Bo H7 λm hm em=>?_];subst em;rw[xA (mV m) λsl ty=>?_];obtain rfl:=AN<|T.symm.trans<|hG.8 _ _ hm;rw[By (J2.GR J y) λitems nn il r z=>getMethod_builtin (Aa _ il Y) PySem.F.plainAttrs_list sl ty (λa e=>by obtain rfl:=PySem.Value.ref.inj e;rw[(Aa _ il Y)])<|n7 S D W hle v J2 lZ J y P2])|inst c dI=>rw[BQ H7 λes YM H7=>CB H7 λOW H7=>Bo H7 λf hf em=>?_];subst em;obtain⟨_,ox,ca,da,kvs,ds,nn,Ho,hc,h,hd,hm,ho',hK,hP,hN,r⟩:=Wr YM λYM h0=>J2.X7 y YM h0;obtain rfl:=AN<|J.symm.trans Ho;rw[Cp ((hC.4 c ca _ nm hc T).2 f hf) λfa OA zi aax=>?_];have b:=plainGet_of (hC.1 c ca hc OW.1 nm);have g:G7 X.T.strs Iw Bs.heap (Cd (.str k) es)<|M1 kvs nm:=dh M.3.1 T r;rw[OW.2]at g;rw[method_fn (M.1.keeps J2.4) h b.1 b.2 zi (Bn.mp aax) (by rw[(?_:(Jf nm<|DQ ds nn).map _=_)];(rewrite [T9 hK hP];rw[U g.vA ?_]);rfl) ?_,V6 M S D W v (hG.7 _ _ OA) J2 lZ<|AU.bind P2 λvs us aP Ip Dc e0 kQ R' P4=>λZ=>jK<|hO A j f fa _ _ _ _ _ Q E OA D.c kQ.1 (Ax.cons (Kq<|kQ.Lc _ _ J) R') P4]|_=>rw[nn H7])|_=>rw[nn H7]
end
section
open PySem PySem.W PySem.Calls PyProof.Rows
variable{X:Cx}{C:CF}{N:AE}{rz:AL}{d n:AE}{sc:Bt}{vm:VM}{A:Bq}{envs:AB Env}{env:Env}{μ:AB AQ}{H:MH}{s:Ae}{ρ:Loc}{Q E:AX->Ae->Prop}
theorem Kg(x:St X envs μ H s)(h:s.heap.get? a=AI):a∉CW envs:=λm=>by rw[AY (I2.mp m) λb c e=>HD (x.6 b c) λZ i j k l f Z g o=>?_];clear m;obtain rfl:=AN<|f.symm.trans e;rw[nn<|h.symm.trans g]
theorem JW(x:St X envs μ H s)(h:s.heap.get? a=AI):a∉μ:=λm=>by rw[xE (x.jQ m) λo e=>nn<|h.symm.trans e]
def pairUp:O AX->O (AX×AX)|k::v::r=>(k,v)::pairUp r|_=>[]
inductive DStep(X:Cx)(A:Bq)(ok:MV×MV->AL)(D:O AQ->BC->AQ->O (MV×MV)->Prop):Prop
 |mk(nil:∀{μ:O AQ}{h:BC}{d:AQ},h.DictOf (strKind X.prog X.w) d []->D μ h d [])(obj:∀{μ:O AQ}{h:BC}{d:AQ}{es:O (MV×MV)},D μ h d es->∃o,h.get? d=V o/\¬Fc o)(ro:∀{μ:O AQ}{h:BC}{d:AQ}{p:MV×MV}{es:O (MV×MV)},D μ h d (p::es)->(p::es).length<=1000->RO X μ h d (.dict T<|p::es))(mono:∀{μ ν:O AQ}{h:BC}{d:AQ}{es:O (MV×MV)},D μ h d es->D (μ++ν) h d es)(step:∀{μ:O AQ}{s:Ae}{d:AQ}{es:O (MV×MV)}{k v:MV}{uk uv:AX}{Q:BF->Ae->Prop}{E:AX->Ae->Prop},ok (k,v)=I->RV X.T.strs μ s.heap k uk->RV X.T.strs μ s.heap v uv->D μ s.heap d es->es.length<=1000->(∀h' t,D μ h' d (EH k v es)->M7 d s.heap h'->Q () {s with heap:=h',toks:=t})->Ab X.M A (dictSet d uk uv) Q E s)
theorem jA{K:Type} [GD K]{b:KeyKind X.prog X.w K}{h:BC}{d:AQ}{a:O (K×AX)}(x:h.DictOf b d a):∃o,h.get? d=V o/\¬Fc o:=by rw[G9 x λo Z Z f c Z=>(Aa o f<|Fj c.1<|by decide)]
theorem u7:DStep X A ft<|ip X:=⟨λx=>(Aa ([]) (ZE _ x) Y),λ⟨_,x,_⟩=>jA x,λ⟨_,x,r⟩c=> .Pe c x r,λ⟨a,x,r⟩=>⟨a,x,r.mono (Bh.app _ _)<|F'.refl _⟩,λ{μ s d F k v B z Q E}w f m D c P=>by(rw[AY D λa x r=>?_];clear D);rw[AY (jA x) λo q p=>?_];induction k using MV.casesOn with|int i=>(rw[xE f λt b=>?_];clear f;rw[U b ?_]);rw[KJ (id x) λZ Z Z Z Z Z Z Z u=>wpAny_dictSet_pairs ((by simp [PySem.intKind,Pz]:(J6 X.prog X.w).is i (.int i t)=I)) x (λy j g=>P y _ (Aa _ j<|U (cY _ _ u)<|(jl m r).mono (Bh.refl _)<|Lb q p g.2) g)<|by rw[U (kF r)<|U HZ<|L c<|(dc Y)]]|_=>rw[nb w]⟩
theorem rP{K} [GD K]{c k:K}{p t a}{v:AX}(b:(((c,p)::t).map (·.1)).Nodup):storedH ((c,p)::t) k a v=if c=k then(c,p.1,v)::t else(c,p)::storedH t k a v:=by
 unfold storedH;rw[U dC ?_];by_cases q:c=k;·subst q;(rw[U (AM Y) ?_];rewrite [AM Y];rw[U (AM<|show(V p).isSome=I from Y)<|U M4<|U (map_putAt_of_not_mem t c v (DF.mp b).1) ?_]);rw[A_ (·::t)<|AM Y]
 ·rw[U (AS q)<|U (AS q) ?_];by_cases z:(atKey t k).isSome=I;rw[U (AM z)<|U (AM z)<|U M4<|A_ (·::t.map (putAt k v))<|AS q];·rw[U (AS z)<|U (AS z) ?_];rfl
theorem oo:∀{i S}{h:BC}{l g v}{u:AX}{a c}(e:Dm l=V g)(rv:RV S i h v u),∀{f},(f.map (·.1)).Nodup->Io S i h c f->Io S i h (EH (.tup l) v c) (storedH f g a u):=by intros i S h l g v u a c _ e rv;induction c with|nil=>intro f _ r;obtain rfl:=((r:f=[]));rw[(TF l g a u ([]) Y e Y rv Y)]|cons p c m=>intros _ p c _ m;intros f _ o r;obtain⟨k,y⟩:=p;intros _ k y _ r;obtain⟨w,G8,b,B,t,rfl,j,rfl,QV,x⟩:=r;rw[U Qb<|U (rP o)<|U (gX j e)<|Ao (λq:G8=g=>?_) λq=>?_,U (AM q)<|U (AM<|DD q)<|(TF w G8 b u t Y j Y rv x),U (AS q)<|U (AS λz=>q<|DJ z)<|(TF w G8 b B _ Y j Y QV<|m (DF.mp o).2 x)]
theorem zM:∀{c S h a},∀{b},Io S c h a b->b.length=a.length:=by intros c S h a;induction a with|nil=>intros b _ r;obtain rfl:=((r:b=[]));rfl|cons p a e=>intros _ p a _ e;intro b r;intros _ b _ r;obtain⟨_,_,_,_,t,_,_,rfl,_,f⟩:=r;rw[A_ (·+1)<|e f]
theorem oi(z:A.units<Ku):DStep X A iF<|fy X:=⟨λx=>(Aa ([]) (je x) Y),λ⟨_,x,_⟩=>by rw[G9 x λo Z Z j g Z=>(Aa o j<|Fj g.1<|(dc Y))],λ⟨_,x,r⟩f=> .ofT f x r,λ⟨h,x,r⟩=>⟨h,x,r.mono (Bh.app _ _)<|F'.refl _⟩,λ{μ s d a k v J I Q E}p y w D f P=>by rw[AY D λG x r=>KJ (id x) λo Z Z j g Z Z Z B=>?_];induction k using MV.casesOn with|tup l=>rw[xE (XI.mp p) λK q=>?_,AY (Ww q y) λt b c=>U b ?_,wpAny_dictSet_heap z c x (λF u m=>P F _ (Aa _ u<|(oo q w B r).mono (Bh.refl _)<|Lb j (Fj g.1<|(dc Y)) m.2) m)<|by rw[U (zM r)<|U HZ<|L f<|(dc Y)]]|_=>rw[nb p]⟩
theorem VQ:∀{b a}{G:Prop}(h:mkPairs b=V a)(j:b=[]->a=[]->G)(g:∀k v f c,b=k::v::f->a=(k,v)::c->mkPairs f=V c->G),G:=by intros b a G _ h j g;induction b using An with|nil=>rw[j Y (AN h).symm]|cons k b=>clear j;induction b using An with|nil=>rw[nn h]|cons v b=>rw[Bo h λc e m=>g _ _ _ _ Y m.symm e]
theorem tQ:∀{X A f E ok D}{d}{a}(j:DStep X A ok D),∀{g h}{b:O (MV×MV)}{s Q},Ax X.T.strs f s.heap g h->mkPairs g=V a->a.all ok=I->D f s.heap d b->b.length+a.length<=1000->(∀c t,D f c d (a.foldl (λy m=>EH m.1 m.2 y) b)->M7 d s.heap c->Q O9 {s with heap:=c,toks:=t})->Ab X.M A (forIn (pairUp h) O9 λ(x:AX×AX)(_:PUnit)=>(do dictSet d x.1 x.2;pure (Ln O9):Sem<|Ui PUnit)) Q E s:=by intros X A f E ok D d a _ j;induction a with|nil=>intro g h b s Q r e _ i _ P;rw[VQ e (λe1 Z=>?_) λZ Z Z Z Z e=>(by cases e)];subst e1;obtain rfl:=LL r;rw[B8<|P s.heap s.toks i<|Heap.SameBut.refl _ _]|cons p a q=>intros _ p a _ q;intros g h b s Q _ r e z i l P;rw[VQ e (λZ e=>(by cases e)) λk v wW ab3 e1 u w=>?_];intros _ k v wW ab3 _ e1 u w;clear e;subst e1;obtain⟨rfl,rfl⟩:=Cs u;obtain⟨B,T,rfl,rk,r⟩:=JI r;obtain⟨F,K,rfl,rv,M⟩:=JI r;rw[IB]at l;rw[Ef z λqO nu=>((U (Ow ..)<|AY (j.2 i) λo R no=>Ah<|Ah<|j.5 qO rk rv i (L (BJ _ _) l) λEV t vx Bs=>B8<|q (M.mono (Bh.refl _)<|Lb R no Bs.2) w nu vx (L (CU (T8 k v b) _)<|by(rw[U (CR ..) ?_];rewrite [EL 1]);rw[l]) λc t S W=>P c t S<|Bs.trans W):Ab X.M A (forIn ((B,F)::pairUp K) O9 _) Q E s)]
theorem tH{c b a s Q}(f:c.all (·.isSome)=I)(q:c.length=b.length)(i:c≠[])(k:c.length<=15)(h:Ab X.M A (evalPairs<|pairTrees c b env a) (λr j=>Ab X.M A (forIn r O9 λ(x:AX×AX)(_:PUnit)=>(do dictSet s.heap.objs.size x.1 x.2;pure (Ln O9):Sem<|Ui PUnit)) (λZ g=>Q (.ref s.heap.objs.size) g) E j) E {s with heap:=s.heap.push {cls:= .type "dict",data:= .dict #[]}}):Ab X.M A (DC (.Dict c b a) env) Q E s:=by intros _ X A env E c b a s Q _ f q i k h;have p:=pairTrees_length c b env a f q;rw[U (arm_eval_Dict ..)<|U (zip_pairTrees c b env a f q)<|U (dictDisplay_pairs (pairTrees c b env a) (λu=>by rw[u]at p;rw[i<|Oq.mp p.symm])<|by lia) ?_,Ah<|Le<|Ah ?_];unfold subDict;rw[Ah<|wpAny_alloc<|Ah<|GX<|U (AM<|by rw[p]at⊢;rw[k])<|Ah<|EY h (λr j o=>GX<|Ah<|EY o (λZ g m=>B8<|B8<|B8 m) λZ Z e=>e) λZ Z e=>e]
theorem bJ:∀(k v:MV)(a:O<|MV×MV),EH k v a≠[]:=by intros k v a;induction a using An with|nil=>rw[λe=>(by cases e)]|cons p a=>intros _ p a;rw[U Qb<|Ao (λq:Dw p.1 k=I=>?_) λq=>?_,U (AM q) λe=>(by cases e),U (AS q) λe=>(by cases e)]
theorem vE{ps:O (MV×MV)}:∀{a},a≠[]->ps.foldl (λf b=>EH b.1 b.2 f) a≠[]:=by induction ps with|nil=>rw[λh=>h]|cons p ps c=>rw[λZ=>c<|bJ _ _ _]
theorem zA(e:O<|MV×MV):∀a:O<|MV×MV,(e.foldl (λf b=>EH b.1 b.2 f) a).length<=a.length+e.length:=by induction e with|nil=>intro a;rw[B2 _]|cons p e c=>intro a;rw[L (c<|EH p.1 p.2 a)<|L (CU (T8 p.1 p.2 a) _) ?_];(rw[U (CR ..) ?_];rewrite [EL 1]);rw[B2 _]
theorem OK{g:Type}{l:O (AO g)}{i a:O g}{G:Prop}(h:Lm l i=V a)(m:l=[]->i=[]->a=[]->G)(j:∀k f v c b,l=V k::f->i=v::c->a=k::v::b->Lm f c=V b->G):G:=by induction l using An with|nil=>(induction i using An with|nil=>(replace h:=AN h;subst h);rw[m Y Y Y]|cons=>rw[nn h])|cons k l=>clear m;induction k using C4 with|none=>rw[nn h]|some k=>induction i using An with|nil=>rw[nn h]|cons v i=>rw[Bo h λb o e=>j _ _ _ _ _ Y Y e.symm o]
theorem mX:∀{X C N rz d n p vm A envs env ρ E}{pos}{ks}(K:E6 X C N rz d n)(F:Ar X A d envs rz)(D:C3 env p vm envs),∀{vs}{kvs}{cs}{μ}{H}{s}{Q},Lm ks vs=AA kvs->Av (cE X.T n p vm) kvs=AA cs->St X envs μ H s->B4 X env vm μ ρ s.heap->AU X envs [] μ s (QF X) (CN X.P C N cs ρ H) (λg q=>Q (pairUp g) q) E->Ab X.M A (evalPairs<|pairTrees ks vs env pos) Q E s:=by intros X C N rz d n p vm A envs env ρ E pos ks _ K F D;induction ks with|nil=>intro vs kvs cs μ H s Q B h x L P;rw[OK B (λ_ J I=>?_) λ_ _ _ _ _ e=>nomatch e];subst J I;(replace h:=AN h;subst h);rw[pairTrees_nil_walk<|P _ _ _ (Af.refl x) Ax.nil]|cons k ks l=>intro vs kvs cs μ H s Q B h x L P;rw[OK B (λe=>nomatch e) λk' i v Z T J I e3 z=>?_];(rw[xA (Cs J) λy w=>A9 y ?_];clear J;subst w);clear B;subst I e3;rw[C0 h λck cs1 h1 h2 ec=>C0 h2 λcv cs2 h3 t G=>?_];clear h2;subst G;clear h;subst ec;rw[pairTrees_cons_walk<|K _ _ _ _ h1 _ _ _ _ _ _ _ _ _ F D x L<|AU.bind P λa u o Y S U f R1 P2=>K _ _ _ _ h3 _ _ _ _ _ _ _ _ _ F D f.1 (L.Bb x f)<|AU.bind (AU.assoc P2) λb u' m W R U c R2 P3=>l z t c.1 ((L.Bb x f).Bb f.1 c)<|AU.bind (AU.assoc P3) λr g j V O U M R3 P4=>AU.ok (Q:=λg q=>Q (pairUp g) q) (rel:=QF X) P4 (Af.refl M.1)<|Ax.cons (M.rv c.1 C6.nil<|c.rv f.1 C6.nil R1)<|Ax.cons (M.rv c.1 C6.nil R2) R3]
theorem oD{f}{i:O (AO f)}:∀{l a:O f},Lm i l=V a->i.all (·.isSome)=I/\i.length=l.length:=by induction i with|nil=>intro l a h;rw[OK h (λZ e Z=>by rw[U e ⟨Y,Y⟩]) λZ Z Z Z Z e=>nomatch e]|cons k i j=>intro l a h;rw[OK h (λe=>nomatch e) λu p v o g r q w m=>?_];(rw[xA (Cs r) λc b=>U c ?_];clear r;subst b);clear h;subst q;rw[⟨(j m).1,A_ (·+1) (j m).2⟩]
theorem uS:∀{C N H a P c h b g}(e:CN P C N (c::h) a H= .ok b g),b≠[]:=by intros C N H a P c h b g _ e;rw[mF]at e;revert e;cases mE P C N c a H with|bad=>rw[λe=>(by cases e)]|exc=>rw[λe=>(by cases e)]|ok v f=>intros _ v f;rw[(?_:(CN P C N h a f).bind _=_->_)];cases CN P C N h a f with|bad=>rw[λe=>(by cases e)]|exc=>rw[λe=>(by cases e)]|ok j k=>intros _ j k;rw[λe=>by cases e;rw[λz=>(by cases z)]]
theorem wg{i:O (AO Expr)}{x a:O Expr}{l:O CE}{f:O MV}{D:MH}{t:O (MV×MV)}{m:O AX}{K:BC}{c:O AQ}(h:Av (cE X.T n sc vm) a=V l)(_:Ax X.T.strs c K f m)(e:CN X.P C N l ρ H= .ok f D)(r:mkPairs f=V t)(M:i≠[])(u:Lm i x=V a):t≠[]:=by rw[VQ r (λB Z=>?_) λk v p o Z e Z=>by rw[U e λz=>(by cases z)],OK u (λe Z Z=>Aj e M) λk q v j g Z Z y Z=>?_];clear u;subst y;rw[C0 h λb F Z Z w=>Aj B<|uS<|w▸e]
theorem th(b:Ar X A d envs rz):A.units+64<Ku:=CH (L (BJ _ _) b.3)<|(dc Y)
theorem mN(K:E6 X C N rz d n)(v:Ar X A d envs rz)(M:C3 env sc vm envs){l}{g:O (AO Expr)}{R}{i}{S}(G:g.length<=15)(r:Lm g R=V i)(h:Av (cE X.T n sc vm) i=V S)(x:St X envs μ H s)(c:B4 X env vm μ ρ s.heap)(P:AU X envs [] μ s (C5 X) (mE X.P C N (.dict S) ρ H) Q E):Ab X.M A (DC (.Dict g R l) env) Q E s:=by revert K v M;intros _ X C N rz d n sc vm A envs env μ H s ρ Q E l g R i S _ G r h x c P K v M;rw[xA (oD r) λf1 f2=>?_];induction g using An with|nil=>rw[OK r (λZ e1 e2=>?_) λZ Z Z Z Z e=>nomatch e];subst e1 e2;obtain rfl:=AN h;rw[wpAny_Dict_empty<|P _ _ _ (Af.alloc x (o:={cls:= .type "dict",data:= .dict #[]}) (t:=s.toks) (mo:= .dict T []) Y<|.nil<|WA _)<|Kq<|by rw[Ag x.1<|U (DO<|B2 _)<|U (GI ..) ?_];rfl]|cons k g=>have w:s.heap.get? s.heap.objs.size=AI:=Mi _;have y:=Af.push x (o:={cls:= .type "dict",data:= .dict #[]}) (t:=s.toks);(have L0:Loose X envs μ (s.heap.push {cls:= .type "dict",data:= .dict #[]}) [s.heap.objs.size]:=λa m=>by rw[U (B3.mp m)<|(Ms (JW x w) (Kg x w) x.N9 _ (Fz _ Y)<|Fj Y<|by decide)]);rw[tH f1 f2 (λz=>nomatch z) G<|mX K v M r h y.1 (c.Bb x y)<|AU.bind (AU.step y P) λms us Iw FV Bs e0 B R2 P2=>AU.opt P2 λf LY P2=>BQ LY λj W LY=>CB LY λF LY=>?_];obtain⟨ok,D,u,ha⟩:∃ok D,DStep X A ok D/\j.all ok=I:=(iP.mp F.2).elim (λq=>(Kl _ _ u7 q)) λq=>(Kl _ _ (oi<|CH (BJ _ _)<|th v) q);rw[xA (L0.Bb B λa Z m=>nomatch m) λJ k1=>?_];have p0:j≠[]:=wg h R2 e0 W (show k::g≠[]fromλz=>nomatch z) r;rw[tQ u R2 W ha (u.1<|Rq (WA _)<|k1 _<|.head _) (by rw[U LI<|U (Di ..)<|L F.1<|by decide]) λh' t M6 C7=>?_];replace M6:=(AN LY)▸M6;have A4:=(B.mono (ex':=[s.heap.objs.size]) λZ m=>nomatch m).trans (Af.Rp B.1 J (λb o e nb=>(C7.2 b λq=>nb<|q▸.head _).trans e) λa m=>by rw[U (B3.mp m)<|AY (u.2 M6) λo e Z=>⟨o,e⟩]:Af X envs [s.heap.objs.size] Iw Bs Iw FV {Bs with heap:=h',toks:=t});(have Dq:f≠[]:=by rw[Ag (AN LY) ?_];clear ha;induction j using An with|nil=>rw[Aj Y p0]|cons p j=>rw[vE (ps:=j)<|bJ p.1 p.2 []]);(have hz:f.length<=1000:=by rw[Ag (AN LY)<|L (zA j [])<|by rw[U LI<|U (Di ..)<|L F.1<|by decide]]);induction f using An with|nil=>rw[Aj Y Dq]|cons p f=>have A5:=(((y.mono (ex':=[s.heap.objs.size]) λZ m=>nomatch m).trans A4).fresh (ex':=[]) λa m=> .inr<|by rw[U (B3.mp m) w]).adopt (D:=s.heap.objs.size) (mo:= .dict T<|p::f) w (J _<|.head _).1 (J _<|.head _).2.1 x.N9 (u.3 (u.4 M6) hz);(have P3:AU X envs [] μ s (C5 X) (alloc (.dict T<|p::f) FV) Q E:=by(replace P:=nD▸P;replace P:=e0▸P);rw[AU.opt (f:=λf H=>alloc (.dict T f) H) P λds' e P=>by obtain rfl:=AN<|(by unfold Nl;rw[U W<|(AM F).trans LY]:Nl ms=V (p::f)).symm.trans e;rw[P]]);rw[P3 _ _ _ A5<|Kq<|by rw[Ag B.1.1<|U (DO<|B2 _)<|U (GI ..) ?_];rfl]
end
section
open PySem PySem.W PySem.Calls PyProof.Rows
variable{X:Cx}{C:CF}{N:AE}{rz:AL}{d n:AE}{sc:Bt}{vm:VM}{A:Bq}{envs:AB Env}{env:Env}{μ:AB AQ}{H:MH}{s:Ae}{ρ:Loc}{Q E:AX->Ae->Prop}
theorem bS(r:E6 X C N rz d n)(o:Ar X A d envs rz)(m:C3 env sc vm envs)(k:∀a,f≠.ref a)(h:Av (cE X.T n sc vm) l=V y)(t:l≠[])(x:St X envs μ H s)(L:B4 X env vm μ ρ s.heap)(P:AU X envs [] μ s (QF X) (CN X.P C N y ρ H) (λj c=>Ab X.M A (call f j) Q E c) E):Ab X.M A (KY i f [] (Gf i<|G4 l env) []) Q E s:=by rw[callWith_of (P:=λZ=>Bg) ((Bool.or_false _).trans<|W' h) (λh Z=>(Aa .machine (.inr<|.inl Y)<|fe k)) ?_];induction l using An with|nil=>rw[Aj Y t]|cons e l=>have g:=Us r o m (pos:=i) h x L (Q:=λj c=>Bg/\Ab X.M A (call f j) Q E c) (E:=E) (iu P λu v q=>⟨B9,q⟩);rw[C0 h λb w p Z Z=>?_];rw[NZ p]at g⊢;rw[UU g]
abbrev OV(X:Cx)(envs:O Env)(b:BC):O AQ->BC->Src->AX->Prop:=λμ h c v=>∃I ex,v= .ref I/\F0 X μ h I ex c 0/\Loose X envs μ h ex/\∀a∈ex,b.get? a=AI
theorem wo:∀{a}(f: -1<=a)(b:a<=16777216),Vy a (-1) (-1)=I/\Ou a (-1) (-1)=((a- -1).toNat:J):=by
 intros a _ f b;have c:((a- -1).toNat:J)=a- -1:=VS (fY f);have e:Ou a (-1) (-1)=((a- -1).toNat:J):=by unfold Ou;simp only [(by decide:¬((-1:J)>0)),if_false,(by decide:(-(-1):J)=1),Int.ediv_one];rw[Ao (λh:a> -1=>?_) λh=>?_,U (AM h)<|U c<|ZI _ _];·rw[U (AS h)<|U (Int.le_antisymm (Gn.mp h) f) ?_];rfl
 rw[⟨?_,e⟩];unfold Vy;rw[U e ?_];simp only [Builtin.Range.rangeFitsLong,V5,SD,P_,Bn,(by decide:¬((-1:J)>0)),if_false];rw[⟨(BX ⟨⟨⟨Fm ((dc Y)) f,M5 b<|(dc Y)⟩,(dc Y)⟩,(dc Y)⟩ (Fm ((dc Y))<|EE _)<|by rw[U c<|M5 (Int.sub_le_sub_right b _)<|(dc Y)]),.inr<|(dc Y)⟩]
theorem Tj(x:St X envs μ H s)(c:o.isFreed=T)(f:o.cls= .type h)(g:h≠"tuple"):Af X envs [] μ s μ H {s with heap:=s.heap.push o}/\Loose X envs μ (s.heap.push o) [s.heap.objs.size]/\s.heap.get? s.heap.objs.size=AI:=by have b:s.heap.get? s.heap.objs.size=AI:=Mi _;rw[(BX (Af.push x (t:=s.toks)) (λa m=>U (B3.mp m)<|(Ms (JW x b) (Kg x b) x.N9 o (Fz _ c)<|Fj f g)) b)]
theorem cN(x:St X envs μ H s){a b c t u v l}{m:G}{r f}(j:IsRange s.heap r a b c t u v)(e:Vy a b c=I)(k:Ou a b c=(m:J))(p:∀i:G,l[i]?=if i<m then V (.int<|a+c*i)else AI)(g:∀a,s.heap.get? a=AI->f.get? a=AI)(P:AU X envs [] μ s (OV X envs f) (.ok (.seq l) H) Q E):Ab X.M A (Ja<|.ref r) Q E s:=by rw[DE (Tj x (o:={cls:= .type "range_iterator",data:= .fields #[E3 a,E3 (Ou a b c),E3 c]}) Y Y<|(dc Y)) λy w q=>?_,wpAny_pyIter_range j e<|P _ _ _ y<|Fq _ _ Y (.Hb p ?_) w λa m=>by rw[U (B3.mp m) ?_,g _ q],(?_:_=_),U Int.natCast_zero<|U (Int.mul_zero ..)<|U (Int.add_zero ..)<|U (Vk ..)<|Ag k ?_,(Fz s.heap (o:={cls:= .type "range_iterator",data:= .fields #[E3 a,E3 (Ou a b c),E3 c]}) Y)]
theorem wN(i:G):(G1 a b)[i]?=if i<(b-a).toNat then V (.int<|a+1*i)else AI:=by rw[U (Int.one_mul ..) ba]
theorem tN(i:G):(JZ a b)[i]?=if i<(a-b).toNat then V (.int<|a+ -1*i)else AI:=by rw[U (Int.neg_one_mul ..)<|Ag Vq ba]
theorem ux:∀{e x}(h:YQ e=V x),e= .Call (.Name x.1 x.2.1) x.2.2.1 [] x.2.2.2:=by intros e x _ h;induction e using Cr with|Call f a b q=>(induction f using Cr with|Name f p=>(induction b using An with|nil=>obtain rfl:=AN h;rfl|cons=>rw[nn h])|_=>rw[nn h])|_=>rw[nn h]
theorem bR:∀(j:Bt)(b:Expr),(∃f p g q,b= .Call (.Name f p) g [] q/\F5 j f=I/\((f=("range":Am)/\srcOf j b=(.range,g))\/(f=("enumerate":Am)/\srcOf j b=(.enum (),g))))\/srcOf j b=(.val,[b]):=by intros j b;unfold srcOf;cases h:(YQ b).bind λx=>if F5 j x.1&&x.1=="range"then V (IK.range,x.2.2.1)else if F5 j x.1&&x.1=="enumerate"then V (IK.enum (),x.2.2.1)else AI with|none=>rw[.inr Y]|some k=>intros _ k _ h;rw[.inl<|BQ h λx e h=>⟨x.1,x.2.1,x.2.2.1,x.2.2.2,ux e,Ao (λc:(F5 j x.1&&x.1=="range")=I=>?_) λc=>?_⟩];intros _ x _ e h c;(·replace h:=(AM c)▸h;rw[U (AN h) ?_,Ef c λc m=>⟨c,.inl ⟨Bn.mp m,Y⟩⟩]);intros _ x _ e h c;·replace h:=(AS c)▸h;rw[CB h λc h=>by rw[U (AN h) ?_,Ef c λc m=>⟨c,.inr ⟨Bn.mp m,Y⟩⟩]]
def UX(k:IK)(a:O MV)(H:MH):R Src:=BW H<|EU H k a
theorem dP(h:Av (cE X.T n sc vm) [e]=V a):∃c,a=[c]/\cE X.T n sc vm e=V c:=C0 h λb k g f j=>by rw[U (AN f) ?_,(Aa b j g)]
theorem oy(k:∀v H,g [v] H=f v H)(P:AU X envs [] μ s a ((CN X.P C N [c] ρ H).bind g) Q E):AU X envs [] μ s a ((mE X.P C N c ρ H).bind f) Q E:=by revert P;rw[(?_:AU X envs [] μ s a (((mE X.P C N c ρ H).bind λv H=> .ok [v] H).bind g) Q E->_)];cases mE X.P C N c ρ H with|ok v j=>rw[((U (k ..) λP=>P):AU X envs [] μ s a (g [v] j) Q E->AU X envs [] μ s a (f v j) Q E)]|bad=>rw[λP=>P]|exc=>rw[λP=>P]
theorem xO:∀{H i f}(e:EU H .range i=V f),(∃n:J,i=[.int n]/\-16777216<=n/\n<=16777216/\f= .seq (G1 0 n))\/(∃a b:J,i=[.int a,.int b]/\0<=a/\a<=16777216/\-16777216<=b/\b<=16777216/\f= .seq (G1 a b))\/(∃a:J,i=[.int a,.int<|-1,.int<|-1]/\-1<=a/\a<=16777216/\f= .seq (JZ a<|-1)):=by intros H i f _ e;rw[hide λg k=>?_];generalize o:i=c at e;induction c using An with|nil=>rw[nn e]|cons r c=>(induction r using MV.casesOn<;>first|rw[nn e]|skip);induction c using An with|nil=>rw[CB e λh e=>k<|.inl<|K6 _ o h.1 h.2<|(AN e).symm]|cons q c=>(induction q using MV.casesOn<;>first|rw[nn e]|skip);induction c using An with|nil=>rw[CB e λh e=>k<|.inr<|.inl ⟨_,_,o,h.1,h.2.1,h.2.2.1,h.2.2.2,(AN e).symm⟩]|cons p c=>(induction p using MV.casesOn<;>first|rw[nn e]|skip);induction c using An with|cons=>rw[nn e]|nil=>rw[CB e λh w=>k<|.inr<|.inr ?_];clear e;(rw[Fb h λv u m j=>?_];clear h;subst m;subst j);rw[(K6 _ o v u<|(AN w).symm)]
theorem xK:∀{H a b}(e:EU H (.enum ()) a=V b),∃i f l,a=[.ref i]/\H[i]?=V (.list f l)/\b= .DU i:=by intros H a b _ e;induction a using An with|nil=>rw[nn e]|cons v a=>(induction v using MV.casesOn<;>first|rw[nn e]|skip);induction a using An with|cons=>rw[nn e]|nil=>rw[Bo e λl c e=>Ge c λf c=>(Zi _ f l Y c e.symm)]
theorem yX(e:EU H .val [v]=V b):(∃l,v= .tup l/\b= .seq l)\/∃i f l,v= .ref i/\H[i]?=V (.list f l)/\b= .lst i:=by induction v using MV.casesOn with|tup l=>rw[.inl<|Aa l Y<|(AN e).symm]|ref i=>rw[Bo e λl c e=>Ge c λf c=> .inr<|Zi i f l Y c e.symm]|_=>rw[nn e]
theorem src_range:∀{X A c j H s Q E l m k}{f:BC}(x:St X c j H s)(o:∀a,s.heap.get? a=AI->f.get? a=AI)(R1:Ax X.T.strs j s.heap l m)(e:EU H .range l=V k)(P:AU X c [] j s (OV X c f) (.ok k H) Q E),Ab X.M A (call (.type "range") m) (λB Bs=>Ab X.M A (Ja B) Q E Bs) E s:=by
 intros X A c j H s Q E l m k f _ x o R1 e P;have y:∀{a b t u v p},0<=a->a<=16777216-> -16777216<=b->b<=16777216->k= .seq (G1 a b)->Ab X.M A (Ja<|.ref s.heap.objs.size) Q E {s with heap:=s.heap.push {cls:= .type "range",data:= .fields #[.int a t,.int b u,.int 1 v]},toks:=p}:=λ{a b t u v p}h i q w D=>by subst D;have g:=Af.push x (o:={cls:= .type "range",data:= .fields #[.int a t,.int b u,.int 1 v]}) (t:=p);rw[cN g.1 (ar _ _ _ _ _ _ _) (small_one (Fm ((dc Y)) h) (M5 i<|(dc Y)) (Fm ((dc Y)) q)<|M5 w<|(dc Y)) ((rangeSize_one a b).trans aaC) wN (λa e=>o a<|g.HF e)<|AU.step g P]
 rcases xO e with⟨Z,rfl,GO,F,rfl⟩|⟨a,b,rfl,h,i,q,w,rfl⟩|⟨a,rfl,h,i,rfl⟩;·(rw[By R1 λu r BL Bf E9=>?_];clear R1;subst BL;obtain⟨t,rfl⟩:=Bf;subst E9);rw[call_range_1<|y ((dc Y)) ((dc Y)) GO F Y]
 ·obtain⟨u,r,rfl,⟨t,rfl⟩,K,M,rfl,⟨z,rfl⟩,rfl⟩:=R1;rw[call_range_2<|y h i q w Y]
 ·obtain⟨u,r,rfl,⟨t,rfl⟩,K,M,rfl,⟨z,rfl⟩,T,L,rfl,⟨R,rfl⟩,rfl⟩:=R1;have g:=Af.push x (o:={cls:= .type "range",data:= .fields #[.int a t,.int (-1) z,.int (-1) R]}) (t:=s.toks);rw[xA (wo h i) λS W=>call_range_3 ((dc Y)) (cN g.1 (ar _ _ _ _ _ _ _) S W tN (λa e=>o a<|g.HF e)<|AU.step g P)<|.inl<|lh<|(dc Y)]
theorem qm:∀{X A envs μ H s Q E}{vs}{G I b}(x:St X envs μ H s)(h0:∀a,s.heap.get? a=AI->b.get? a=AI)(M:Ax X.T.strs μ s.heap vs G)(e:EU H (.enum ()) vs=AA I)(P:AU X envs [] μ s (OV X envs b) (.ok I H) Q E),Ab X.M A (call (.type "enumerate") G) (λS v=>Ab X.M A (Ja S) Q E v) E s:=by
 intros X A envs μ H s Q E vs G I b _ x h0 M e P;(rw[G9 (xK e) λi fz l D V B=>?_];clear e;subst D;subst B);(rw[By M λu r y f w=>?_];clear M;subst y;(rw[AY f λad R F=>?_];clear f;subst F);subst w);rw[By (x.GR R V) λJ Z T r z=>?_];have L:=Mi s.heap;have O:∀{h:BC},(∀o,h.get? (s.heap.objs.size+1)=AA o->s.heap.get? (s.heap.objs.size+1)=AA o)->h.get? (s.heap.objs.size+1)=AI:=λ{h}k=>by cases q:h.get?<|s.heap.objs.size+1 with|none=>rfl|some o=>rw[Aj (Ds<|k o q)<|E1.mpr<|E2 _]
 have p:s.heap.get? (s.heap.objs.size+1)=AI:=O λ_ q=>q;rw[call_enumerate_1 T λh' j c U K=>lV j<|P _ _ _ (Af.I9 x (h':=h') (t:=s.toks) (d:=s.drawn) K)<|Fq _ _ Y (.DU R j c<|Nat.succ_ne_self _) (λa m=>?_) λa m=>?_];·induction m using Cu with|head g=>rw[A9 g<|(Ms (JW x p) (Kg x p) (O λ_ q=>x.4 _ _ q:X.base.get? (s.heap.objs.size+1)=AI) _ j<|Fj Y<|(dc Y))]|tail m=>rw[A9 (B3.mp m) ?_];(rw[Cp c λo t W _=>?_];clear c);rw[(Ms (JW x L) (Kg x L) x.N9 o t<|Fj W<|(dc Y))]
 ·induction m using Cu with|head g=>rw[A9 g<|h0 _ p]|tail m=>rw[A9 (B3.mp m)<|h0 _ L]
theorem zK:∀{X A b g H s Q E a u j c}(x:St X b g H s)(k:∀a,s.heap.get? a=AI->c.get? a=AI)(R1:RV X.T.strs g s.heap a u)(e:EU H .val [a]=V j)(P:AU X b [] g s (OV X b c) (.ok j H) Q E),Ab X.M A (Ja u) Q E s:=by
 intros X A b g H s Q E a u j c _ x k R1 e P;rcases yX e with⟨l,rfl,rfl⟩|⟨i,fz,l,rfl,y,rfl⟩;·rw[Dz (Ih R1) λt f B xp q z r=>U xp ?_,DE (Tj x (o:={cls:= .type "tuple_iterator",data:= .fields #[.ref t,.int 0 0]}) Y Y<|(dc Y)) λh o p=>?_];have v:=(h.tu x C6.nil).t;rw[Xf (HK q)<|P _ _ _ h<|Fq _ _ Y (.tup (v _ _ _ q) (r.mono (Bh.refl _) v)<|DB _ (Fz _ Y) Y Y) o λa m=>by rw[U (B3.mp m)<|k _ p]]
 rw[AY (J1 R1) λad w aaa=>U aaa ?_,By (x.GR w y) λf B il r z=>DE (Tj x (o:={cls:= .type "list_iterator",data:= .fields #[.ref ad,.int 0 0]}) Y Y<|(dc Y)) λh o p=>gW (GH il)<|P _ _ _ h<|Fq _ _ Y (.lst w<|DB _ (Fz _ Y) Y Y) o λa m=>by rw[U (B3.mp m)<|k _ p]]
theorem gp(o:Dy X)(r:Mh X)(l:E6 X C N rz d n)(m:Ar X A d envs rz)(i:C3 env sc vm envs)(h:Av (cE X.T n sc vm) (srcOf sc iter).2=V src)(x:St X envs μ H s)(L:B4 X env vm μ ρ s.heap)(P:AU X envs [] μ s (OV X envs s.heap) ((CN X.P C N src ρ H).bind<|UX (srcOf sc iter).1) Q E):Ab X.M A (DC iter env) (λS Bs=>Ab X.M A (Ja S) Q E Bs) E s:=by
 revert o r l m i;intros _ X C N rz d n sc vm A envs env μ H s ρ Q E iter src _ h x L P o r l m i;rcases bR sc iter with⟨f,p,b,q,rfl,w,B⟩|e;intros _ f p b q _ h P w B;·rw[U (YG ..) ?_];(have t:∀k,EU H k []=AI->srcOf sc (.Call (.Name f p) b [] q)=(k,b)->b≠[]:=λk nO e t=>by subst t;rw[e]at h P;(replace h:=AN h;subst h);rw[AU.Ha ((P:AU X envs [] μ s (OV X envs s.heap) (BW H<|EU H k []) Q E)) λy e Z=>nn<|nO.symm.trans e]);rcases B with⟨rfl,e⟩|⟨rfl,e⟩;(·rw[e]at h P;rw[Ah<|WE o x i w r.5<|bS l m i (λa e=>(by cases e)) h (t _ Y e) x L<|AU.bind P λF K Iw FV Bs D g R1 z=>AU.Ha z λy e j=>src_range g.1 (λa e=>g.HF e) R1 e j]);·rw[e]at h P;rw[Ah<|WE o x i w r.6<|bS l m i (λa e=>(by cases e)) h (t _ Y e) x L<|AU.bind P λF K Iw FV Bs D g R1 z=>AU.Ha z λy e j=>qm g.1 (λa e=>g.HF e) R1 e j]
 ·rw[e]at h P;(rw[AY (dP h) λc qe M=>?_];clear h;subst qe);rw[l _ _ _ _ M _ _ _ _ _ _ _ _ _ m i x L<|AU.bind (oy (f:=λv H=>UX .val [v] H) (λv H=>Y) P) λa u Iw FV Bs D g R1 j=>AU.Ha j λy e j=>zK g.1 (λa e=>g.HF e) R1 e j]
end
section
open PySem PySem.W PySem.Calls PyProof.Rows
variable{X:Cx}{C:CF}{N:AE}{rz:AL}{d n:AE}{sc:Bt}{vm:VM}{A:Bq}{envs:AB Env}{env:Env}{μ:AB AQ}{H:MH}{s:Ae}{ρ:Loc}{Q E:AX->Ae->Prop}
def jT(env:Env)(b:O Am)(ex:O AQ):Prop:=(∀a∈ex,a∈CM env)/\((∀n∈b,env.kindOf n=V .local)->∀a∈ex,a=env.locals)
theorem Nb:∀{b a}{e}{k}(h:GK b a e=V k),∃n p,e= .Name n p/\isVar b n=I/\a.lookup n=V k:=by intros b a e k _ h;induction e using Cr with|Name n p=>rw[CB h λc h=>(DI n p Y c h)]|_=>rw[nn h]
theorem Im:∀{k b:Loc}{i:O G}{e:O MV}{a:Prop}(h:FH k i e=V b)(j:i=[]->e=[]->k=b->a)(g:∀x c v f,i=x::c->e=v::f->FH (upd k x v) c f=V b->a),a:=by intros k b i e a _ h j g;induction i using An with|nil=>(induction e using An with|nil=>rw[j Y Y<|AN h]|cons=>rw[nn h])|cons x i=>induction e using An with|nil=>rw[nn h]|cons v e=>rw[g _ _ _ _ Y Y h]
theorem rS:∀{X sc j A f c g H E}{i:O Expr}(F:C3 c sc j f),∀{o}{q}{t}{w C2}{s:Ae}{Q},Av (GK sc j) i=V o->FH w o q=V C2->St X f g H s->B4 X c j g w s.heap->Ax X.T.strs g s.heap q t->(∀l ex,jT c (i.flatMap Kw) ex->Af X f ex g s g H l->B4 X c j g C2 l.heap->Q () l)->Ab X.M A (YY ((NO i c).map (·.2)) t) Q E s:=by intros X sc j A f c g H E i _ F;induction i with|nil=>intro o q t w C2 s Q h y x L r P;obtain rfl:=AN h;rw[Im y (λZ e1 B=>?_) λZ Z Z Z e=>nomatch e];subst e1 B;obtain rfl:=LL r;rw[aC<|P s [] ⟨λZ m=>(nomatch m),λZ Z m=>(nomatch m)⟩ (Af.refl x) L]|cons e i S=>intro o q t w C2 s Q h y x L r P;rw[C0 h λk ks K W M=>Im y (λz=>nomatch z.symm.trans M) λk' G8 v Mm e1 B VZ=>?_];obtain⟨rfl,rfl⟩:=Cs<|M.symm.trans e1;clear y;subst B;(rw[By (Nb K) λnm p BL T I=>?_];clear h K;subst BL);(rw[By (JI r) λu mT Bf Y J=>?_];clear r;subst Bf);rw[kB (t:=λv=>Ke (.Name nm p) c v)<|Xe<|Ny F x L T I Y λBs a R G D L1=>S W VZ D.1 L1 (J.mono (Bh.refl _) (D.tu x (λb m=>LU L b<|by rw[U (B3.mp m) R]:C6 s.heap [a])).t) λl ex ok A2 L2=>P l (a::ex) ⟨λb m=>?_,λjs b m=>?_⟩ ((D.mono λb m=>by rw[U (B3.mp m)<|.head _]).trans<|A2.mono λb m=> .tail _ m) L2];(·induction m using Cu with|head D2=>rw[U D2 R]|tail m=>rw[ok.1 b m]);·induction m using Cu with|head D2=>rw[U D2<|G<|js nm<|.head _]|tail m=>rw[ok.2 (λn' m'=>js n'<|.tail _ m') b m]
theorem tl(a:O Expr):(NO a env).length=a.length:=by induction a with|nil=>rfl|cons e a b=>induction e using Cr<;>exact A_ (·+1) b
theorem Zp:∀{c},Av f g=V c->c.length=g.length:=by induction g with|nil=>intro c h;(replace h:=AN h;subst h);rfl|cons a g j=>intro c h;rw[C0 h λb m o k e=>by rw[U e<|A_ (·+1)<|j k]]
theorem Tz{a:O G}:∀{i:O MV}{l b},FH l a i=V b->a.length=i.length:=by induction a with|nil=>intro i l b h;rw[Im h (λZ e Z=>by rw[U e ?_];rfl) λZ Z Z Z e=>nomatch e]|cons x a k=>intro i l b h;rw[Im h (λe=>nomatch e) λq g v j p o m=>by(rw[xA (Cs p) λf c=>U f ?_];clear p;subst c);rw[U o<|A_ (·+1)<|k m]]
theorem mz:∀{i},Av (GK sc vm) a=V i->(NO a env).findIdx? (·.1)=AI:=by induction a with|nil=>intro i h;rfl|cons e a f=>intro i h;rw[C0 h λk m j g Z=>?_,By (Nb j) λc p b o q=>U b ?_];show((T,Ke (.Name c p) env)::NO a env).findIdx? (·.1)=AI;rw[U (List.findIdx?_cons)<|U (AS λz=>nb z)<|U (f g) ?_];rfl
theorem Zm:∀{f i}{e:Expr}{l:O G×AL}{a:Prop}(h:IJ f i e=V l)(o:∀nm p k,e= .Name nm p->isVar f nm=I->i.lookup nm=V k->l=([k],T)->a)(m:∀t c p w,e= .Tuple t c p->Av (GK f i) t=V w->l=(w,I)->a),a:=by intros f i e l a _ h o m;induction e using Cr with|Name nm p=>rw[Bo h λk b e=>By (Nb b) λq v u r b=>?_];(rw[xA (PySem.Expr.Name.inj u) λj g=>?_];clear u;subst j;subst g);rw[o nm p k Y r b e.symm]|Tuple t c p=>rw[Bo h λw b e=>m t c p w Y b e.symm]|_=>rw[nn h]
theorem lI{a:O G×AL}(h:IJ sc vm e=V a):Ov a.2 e:=Zm h (λf p k e Z Z b=>by clear h;subst e b;trivial) λj c p g e Z b=>by clear h;subst e b;trivial
theorem cj(q:Hd A s.heap){t}{c}(g:s.heap.IsTuple t c){Q}(h:∀a,(∀b o,s.heap.get? b=V o->a.get? b=V o)->Q c.toList {s with heap:=a}):Ab X.M A (unpackItems (.ref t) c.size AI) Q E s:=by
 revert q g;intros _ X A s E t c Q _ h q g;have r:t≠s.heap.objs.size:=by rw[AY (id g) λo v Z=>DZ<|Ds v]
 unfold unpackItems notIterableAtAll;rw[Ah<|Ah<|wpAny_specialOf g.typeIs F.slot_tuple_iter.lookup<|B8<|U (AS λz=>nb z)<|Ah<|GX<|Xf g<|Ah<|GX<|wpAny_draw_tuple r c.size 0 _ _ (DB _ (Fz _ Y) Y Y) (g.push _) (C8<|Di _) λm u f=>?_];have k:∀b o,s.heap.get? b=V o->m.get? b=V o:=λb o e=>f.extBut b o (DZ<|Ds e)<|E4 _ e;rw[U lP<|U (PJ<|C8 JF)<|U (AS<|by rw[JF]at⊢;rw[GN _])<|Ah<|GX<|VE (q.keep λb o e Z=>k b o e) u ((g.push _).extBut f.extBut r) (Ul<|by rw[U (Di ..)<|B2 _]) λj p=>?_];show Ab X.M A (if(AI:AO AX).isSome=I then _ else _) _ _ _;rw[U (AS<|show¬((AI:AO AX).isSome=I)fromλz=>nb z)<|B8<|h j λb o e=>p b o (DZ<|Ds e)<|k b o e]
theorem md(j:Hd A s.heap){t}{c}(f:s.heap.IsTuple t c){a}{k}{p}{Q}(g:(NO a env).length=c.size)(i:(NO a env).findIdx? (·.1)=AI)(h:∀e,(∀b o,s.heap.get? b=V o->e.get? b=V o)->Ab X.M A (YY ((NO a env).map (·.2)) c.toList) Q E {s with heap:=e}):Ab X.M A (Ke (.Tuple a k p) env<|.ref t) Q E s:=by rw[U (arm_assign_Tuple ..)<|Ah<|Le ?_];unfold unpack;rw[U g<|U i<|Ah<|GX<|cj j f h]
theorem Wb(U:Fo X A)(G:C3 env sc vm envs){e}{xs}{v}{u}{o}{Q}(h:IJ sc vm e=AA xs)(g:DR ρ xs.1 xs.2 v=AA o)(x:St X envs μ H s)(L:B4 X env vm μ ρ s.heap)(F:RV X.T.strs μ s.heap v u)(P:∀s' ex,jT env (Js e) ex->Af X envs ex μ s μ H s'->B4 X env vm μ o s'.heap->Q () s'):Ab X.M A (Ke e env u) Q E s:=by
 rw[Zm h (λJ p k e S w D=>?_) λes c p i e w D=>?_];·clear h;subst e D;(replace g:=AN g;subst g);rw[Xe<|Ny G x L S w F λq a K T j W=>P q [a] ⟨λb m=>by rw[A9 (B3.mp m) K],λy b m=>by rw[A9 (B3.mp m)<|T<|y J<|.head _]⟩ j W]
 ·clear h;subst e D;induction v using MV.casesOn with|tup l=>rw[Dz (Ih F) λt f Z B O z r=>A9 B ?_];have M:f.size=l.length:=r.length;rw[md (Ar.at U x) (HK O) (by rw[A9 (tl ..)<|Ag (Zp w)<|A9 (Tz g)<|A9 M A7]) (mz w) λh' R=>?_];have j:=Af.I9 x (h':=h') (t:=s.toks) (d:=s.drawn) R;rw[rS G w g j.1 (L.Bb x j) (r.mono (Bh.refl _) (j.tu x C6.nil).t) λs' ex I Y V=>P s' ex I ((j.mono λ_ m=>nomatch m).trans Y) V]|_=>rw[nn g]
end
section
open PySem PySem.W PySem.Calls PyProof.Rows
variable{X:Cx}{C:CF}{N:AE}{rz:AL}{d n:AE}{sc:Bt}{vm:VM}{A:Bq}{envs:AB Env}{env:Env}{μ:AB AQ}{H:MH}{s:Ae}{ρ:Loc}{Q E:AX->Ae->Prop}
theorem zZ:∀{X A a s Q E}{I}{ex}{c}{j}(f:F0 X a s.heap I ex c j)(q:Q (.ref I) s),Ab X.M A (Ja<|.ref I) Q E s:=by intros X A a s Q E I ex c j _ f q;cases f with|tup i r g=>rw[kY g q]|Hb m b=>rw[wpAny_pyIter_rangeiter b q]|lst e b=>rw[jZ b q]|DU e b p k=>rw[lV b q]
section
theorem wC{t}{w}{A}{R}{s}{z b q}{y}{f}{pos}{M acc}{W}(a:G->Ae->Prop)(g:∀n s,a n s->Ab (BO t w) A (LG M) (λr o=>match r with|AI=>R (.ok .next) o|V v=>Ab (BO t w) A (TL b M v) (λZ k=>Ab (BO t w) A (Ke b W v) (λZ F=>Ab (BO t w) A (forIn y I λc r=>if r=I then do let i<-isTrue c W (DC c W);pure (Ln i)else pure (Ln r)) (λi j=>if i=I then Ab (BO t w) A (DC z W) (λx D=>Ab (BO t w) A (call (.builtin "list.append") [acc,x]) (λZ B=>∃m,m<n/\a m B) (Lz (BO t w) A W λe p=>R (.error e) p) D) (Lz (BO t w) A W λe p=>R (.error e) p) j else∃m,m<n/\a m j) (Lz (BO t w) A W λe p=>R (.error e) p) F) (Lz (BO t w) A W λe p=>R (.error e) p) k) (Lz (BO t w) A W λe p=>R (.error e) p) o) (Lz (BO t w) A W λe p=>R (.error e) p) s)(n:G)(h:a n s):Ie (BO t w) A (.compLoop (.ListComp z [⟨b,q,y,0⟩] f pos) 0 M acc W) R s:=by revert g;intros _ t w A R s z b q y f pos M acc W a n _ h g;rw[codeAny_loop Y a (λn s T=>((wpAny_noted<|U (compTurn_list ..)<|Ah<|Le<|Ah<|EY (g n s T) (λr o J=>?_) λZ Z u=>u):Ab _ A ((compTurn (.ListComp z [⟨b,q,y,0⟩] f pos) 0 M acc W).onRaise λx=>do Ss x W;theTreesLotGoes x) _ _ s)) n h];induction r using C4 with|none=>rw[B8 J]|some v=>rw[Ah<|EY J (λZ k K=>Ah<|EY K (λZ F S=>Ah<|EY S (λi j l=>?_) λZ Z u=>u) λZ Z u=>u) λZ Z u=>u];induction i using BG with|false=>rw[B8 ⟨Y,l⟩]|true=>rw[Ah<|Ah<|EY l (λx D P=>Ah<|EY P (λZ B O=>B8<|B8 ⟨Y,O⟩) λZ Z u=>u) λZ Z u=>u]
end
theorem uY(m:Jv X C N rz d n)(k:Ar X A d envs rz)(j:C3 env sc vm envs)(i:O Expr):∀{w}{l}{H}{s}{Q},Av (cE X.T n sc vm) i=V w->St X envs l H s->B4 X env vm l ρ s.heap->AU X envs [] l s Ey (ER X.P C N I w ρ H) Q E->Ab X.M A (forIn i I λc r=>if r=I then do let ok<-isTrue c env (DC c env);pure (Ln ok)else pure (Ln r)) Q E s:=by
 revert m k j;intros _ X C N rz d n sc vm A envs env ρ E i _ m k j;have D:∀(i:O Expr){s:Ae}{Q:AL->Ae->Prop},Q T s->Ab X.M A (forIn i T λc r=>if r=I then do let ok<-isTrue c env (DC c env);pure (Ln ok)else pure (Ln r)) Q E s:=by intro i;induction i with|nil=>intro s Q q;rw[B8 q]|cons e i g=>intro s Q q;rw[U (Ow ..)<|Ah<|B8<|g q]
 induction i with|nil=>intro w l H s Q h x L P;(replace h:=AN h;subst h);rw[B8<|AU.ok (v:=I) P (Af.refl x) Y]|cons e i g=>intro w l H s Q h x L P;rw[C0 h λb y G F a=>?_];clear h;subst a;(have J:AU X envs [] l s Ey (((mE X.P C N b ρ H).bind Cw).bind λt H=>if t=I then ER X.P C N I y ρ H else .ok t H) Q E:=by have P:AU X envs [] l s Ey ((mE X.P C N b ρ H).bind λv H=>(Cw v H).bind λt H=>if t=I then ER X.P C N I y ρ H else .ok t H) Q E:=P;revert P;cases mE X.P C N b ρ H<;>exactλP=>P);rw[U (Ow ..)<|U (AM Y)<|Ah<|Ah<|m _ _ _ _ G _ _ _ _ _ _ _ _ _ k j x L<|AU.bind J λt u f B p K o R z=>?_];subst R;rw[B8 ?_];clear K;induction t using BG with|true=>rw[g F o.1 (L.Bb x o) z]|false=>rw[D i<|AU.ok (v:=T) z (Af.refl o.1) Y]
def Ot:Src->G->G->G| .seq l,j,_=>l.length-j| .lst _,_,n=>n| .DU _,_,n=>n
theorem B4.less:∀{X e a i}{l}{h}{b}(L:B4 X a e l i h)(k:∀x v,b x=V v->i x=V v),B4 X a e l b h:=by intros X e a i l h b _ L k;rw[⟨L.1,L.2,?_,λn c u=>?_⟩,AY L.3 λm q r=>(Aa m q λn x f o j g=>r n x f o (k x f j) g),AY (L.4 n c u) λv p r=>(Aa v p λy x f o j g=>r y x f o (k x f j) g)]
theorem Iy{b:Type}{y:Am}{v:b}{r:O (Am×b)}:Z3 y ((y,v)::r)=V v:=by rw[U VP<|U (I' ..) Y]
theorem K5{b:Type}{y n:Am}{v:b}{r:O (Am×b)}(h:n≠y):Z3 n ((y,v)::r)=r.lookup n:=by rw[U VP<|U (SX.mpr h) Y]
end
section
open PySem PySem.W PySem.Calls PyProof.Rows
variable{X:Cx}{C:CF}{N:AE}{rz:AL}{d n:AE}{sc:Bt}{vm:VM}{A:Bq}{envs:AB Env}{env:Env}{μ:AB AQ}{H:MH}{s:Ae}{ρ:Loc}{Q E:AX->Ae->Prop}
theorem Q4{g j:Type}{r:Mine.Internal.R g}{f:g->MH->Mine.Internal.R j}(h:∀x b,r≠.exc x b)(k:∀a H x b,f a H≠.exc x b):∀x b,r.bind f≠.exc x b:=by induction r using R.casesOn with|ok v c=>rw[k v c]|bad=>rw[λZ Z e=>(by cases e)]|exc x c=>rw[Aj Y<|h x c]
theorem t6{f:MV->MH->Mine.Internal.R (AO MV)}(g:∀v H x b,f v H≠.exc x b)(l:O MV):∀(H:MH)x b,NI f l H≠.exc x b:=by induction l with|nil=>rw[λZ Z Z e=>(by cases e)]|cons v l c=>rw[λH=>Q4 (g v H) λa H=>Q4 (c H) λZ Z Z Z e=>(by cases e)]
theorem nP(r:Mine.Internal.R b):∀x c,r.ME≠.exc x c:=by induction r using R.casesOn<;>exactλZ Z e=>(by cases e)
def FE(b:O<|Am×AQ):O (Am×IQ)->O (Am×AQ)->O (Am×AQ)|[],a=>a|(n,k)::r,a=>if k== .free then FE b r ((n,(b.lookup n).getD 0)::a)else FE b r a
theorem Pc{b}{n}{k}{r}{a}:FE b ((n,k)::r) a=if k== .free then FE b r ((n,(b.lookup n).getD 0)::a)else FE b r a:=Y
theorem zS(f:Am×IQ->O (Am×AQ)->Sem (Ui<|O<|Am×AQ))(g:∀n k l,f (n,k) l=if k== .free then(do let a<-cellOf env n;pure (.yield<|(n,a)::l))else pure (.yield l))(e:O<|Am×IQ):∀(i:O<|Am×AQ),(∀x∈e,x.2= .free->∃c,env.cells.lookup x.1=V c)->forIn e i f=(pure<|FE env.cells e i:Sem<|O<|Am×AQ):=by revert g;intros _ env f e _ g;induction e with|nil=>intro i _;rfl|cons p r b=>intros _ p r _ b;intro i h;obtain⟨n,k⟩:=p;intros _ i n k _ h;rw[U (Ow ..)<|U (g ..)<|U Pc ?_];have b:=λi=>b i λx m=>h x<|.tail _ m;by_cases hk:(k== .free)=I;(·rw[xE (h (n,k) (.head _)<|Bn.mp hk) λc j=>U (AM hk)<|U (AM hk) ?_];unfold cellOf;rw[U (show env.cells.lookup n=V c from j)<|b _]);rw[U (AS hk)<|U (AS hk)<|b _]
theorem cF(h:∀x∈b.names,x.2= .free->∃c,env.cells.lookup x.1=V c):closureFor b env=pure (FE env.cells b.names []):=by simp only [closureFor];rw[U (zS _ (λn k g=>by cases f:k==Jn<;>simp [f]) b.names [] h) ?_];rfl
theorem yV:∀(f:O<|Am×AQ)(p:Am×AQ)(b:O<|Am×IQ),∀(c:O<|Am×AQ),p∈FE f b c->p∈c\/((p.1,Jn)∈b/\p.2=(f.lookup p.1).getD 0):=by intros f p b;induction b with|nil=>rw[λZ h=> .inl h]|cons a r g=>intro c h;obtain⟨n,k⟩:=a;replace h:=Pc▸h;rw[Ao (λe:(k== .free)=I=>?_) λe=>?_];(·replace h:=(AM e)▸h;obtain rfl:=Bn.mp e;rcases g _ h with q|⟨i,j⟩;(·induction q using Cu with|head D2=>rw[U D2<|.inr ⟨.head _,Y⟩]|tail q=>rw[.inl q]);rw[.inr ⟨.tail _ i,j⟩]);·replace h:=(AS e)▸h;rw[(g _ h).imp id λq=>⟨.tail _ q.1,q.2⟩]
theorem abk(i:O<|Am×AQ){n:Am}(b:O<|Am×IQ):∀(c:O<|Am×AQ),(n,Jn)∉b->(FE i b c).lookup n=c.lookup n:=by induction b with|nil=>rw[λZ Z=>Y]|cons a r f=>intro c h;obtain⟨m,k⟩:=a;have g:(n,Jn)∉r:=λq=>h<|.tail _ q;rw[U Pc<|Ao (λe:(k== .free)=I=>?_) λe=>?_,U (AM e)<|U (f _ g)<|U (K5 λq=>h<|by clear h;obtain rfl:=Bn.mp e;rw[q]at⊢;rw[.head _]) Y,U (AS e)<|f _ g]
theorem abY:∀(i:O<|Am×AQ){n:Am}(e:O<|Am×IQ),∀(g:O<|Am×AQ),(n,Jn)∈e->(FE i e g).lookup n=V ((i.lookup n).getD 0):=by intros i n e;induction e with|nil=>rw[λZ h=>(by cases h)]|cons a r c=>intros _ a r _ c;intros g _ h;obtain⟨m,k⟩:=a;intros _ m k _ h;rw[U Pc<|Ao (λb:(n,Jn)∈r=>?_) λb=>?_,Ao (λf:(k== .free)=I=>?_) λf=>?_,U (AM f)<|c _ b,U (AS f)<|c _ b];·cases h with|head=>rw[U (AM<|(dc Y))<|U (abk i r _ b)<|U Iy Y]|tail _ h=>rw[Aj h b]
theorem uM(g:O<|Am×AQ)(o:g.Pairwise λx y=>x.2≠y.2)(b:O<|Am×IQ):∀(f:O<|Am×AQ),(b.map (·.1)).Nodup->(∀x∈b,x.2= .free->∃c,g.lookup x.1=V c)->(∀p∈f,g.lookup p.1=V p.2/\∀k,(p.1,k)∉b)->(f.Pairwise λx y=>x.2≠y.2)->(FE g b f).Pairwise λx y=>x.2≠y.2:=by revert o;intros _ g b _ o;induction b with|nil=>rw[λZ Z Z Z h=>h]|cons a r t=>intro f i u j v;obtain⟨m,k⟩:=a;have i:=DF.mp i;have N_:∀x∈r,x.2= .free->∃c,g.lookup x.1=V c:=λx q=>u x<|.tail _ q;have Ho:∀p∈f,g.lookup p.1=V p.2/\∀k,(p.1,k)∉r:=λp q=>⟨(j p q).1,λk z=>(j p q).2 k<|.tail _ z⟩;rw[U Pc<|Ao (λl:(k== .free)=I=>?_) λl=>?_];(·rw[U (AM l) ?_];obtain rfl:=Bn.mp l;obtain⟨c,e⟩:=u _ (.head _) Y;have e:g.lookup m=V c:=e;rw[U e<|t _ i.2 N_ (λp q=>?_)<|List.pairwise_cons.mpr ⟨λp q z=>?_,v⟩];(·induction q using Cu with|head D2=>subst D2;rw[⟨e,λk q=>i.1<|Ea.mpr<|Aa _ q Y⟩]|tail q=>rw[Ho p q]);rw[(j p q).2 .free<|U4 o (ET e) ((z:c=p.2).symm▸ET (j p q).1)▸.head _]);rw[U (AS l)<|t _ i.2 N_ Ho v]
end
section
open PySem PySem.W PySem.Calls PyProof.Rows
variable{X:Cx}{C:CF}{N:AE}{rz:AL}{d n:AE}{sc:Bt}{vm:VM}{A:Bq}{envs:AB Env}{env:Env}{μ:AB AQ}{H:MH}{s:Ae}{ρ:Loc}{Q E:AX->Ae->Prop}
inductive Ic(sc:Bt)(vm:VM)(Bw:Bt)(D3:VM)(EF:Expr):Prop
 |mk(kind:Bw.kind= .function)(EF:∀x∈Js EF,Bw.names.lookup x=V .local)(abv:∀x∈Bw.names,x.2≠.cell)(look:∀x∈Bw.names,Bw.names.lookup x.1=V x.2)(free:∀x∈Bw.names,x.2= .free->sc.names.lookup x.1=V .cell\/sc.names.lookup x.1=V .free)(vms:∀p∈D3,(Bw.names.lookup p.1=V .local/\1000<=p.2)\/(Bw.names.lookup p.1=V .free/\vm.lookup p.1=V p.2/\p.2<1000))(nodup:(Bw.names.map (·.1)).Nodup)(apart:D3.Pairwise λx y=>x.2≠y.2)
theorem US(h:(a||b)=I):a=I\/b=I:=iP.mp h
theorem B1(h:(a&&b)=I):a=I/\b=I:=DN.mp h
theorem Ic.of:∀{j f}{a b}{c}(h:¬kr j a f b c=T),Ic j a f b c:=by intros j f a b c _ h;rw[xA (B1<|RA h) λv h=>xA (B1 h) λu h=>xA (B1 h) λg h=>xA (B1 h) λr h=>xA (B1 h) λo k=>?_];have g:=Eo.mp g;rw[⟨DJ v,λx m=>Bn.mp<|Eo.mp u x m,λx m=>OZ.mp (B1<|g x m).1,λx m=>Bn.mp (B1 (B1<|g x m).2).1,λx m e=>?_,λp m=>?_,DJ o,DJ k⟩,(US (B1 (B1<|g x m).2).2).elim (λq=>Aj e<|OZ.mp q) λq=>(US q).imp Bn.mp Bn.mp,(US<|Eo.mp r p m).imp (λq=>?_) λq=>?_,⟨Bn.mp (B1 q).1,DJ (B1 q).2⟩,(BX (Bn.mp (B1 q).1) (Bn.mp (B1 (B1 q).2).1)<|DJ (B1 (B1 q).2).2)]
theorem yR{a:Env}(f:a.scope.kind= .function)(x:Am){e:O (Am×IQ)}:(e.map λ(n,k)=>if(k==Jn&&a.scope.kind== .function&&a.kindOf n==V .cell)then(n,eC)else(n,k)).lookup x=(e.lookup x).map λk=>if k= .free/\a.kindOf x=V .cell then .cell else k:=by revert f;intros _ a x e _ f;induction e with|nil=>rfl|cons p r g=>obtain⟨n,k⟩:=p;rw[U M4 ?_];dsimp only;(have b:(k==Jn&&a.scope.kind== .function&&a.kindOf n==V .cell)=I↔(k= .free/\a.kindOf n=V .cell):=by(rw[U f<|U (V5 ..)<|U (V5 ..) ?_];rewrite [Bn]);rw[⟨λq=>⟨q.1.1,Bn.mp q.2⟩,λq=>⟨⟨q.1,Y⟩,Bn.mpr q.2⟩⟩]);by_cases q:x=n;(·subst q;rw[U Iy<|U (eS ..) ?_];by_cases c:k= .free/\a.kindOf x=V .cell;rw[U (AM<|b.mpr c)<|U (AM c)<|U Iy Y,U (AS λz=>c<|b.mp z)<|U (AS c)<|U Iy Y]);·rw[U (K5 q) ?_];by_cases c:(k==Jn&&a.scope.kind== .function&&a.kindOf n==V .cell)=I;rw[U (AM c)<|U (K5 q) g,U (AS c)<|U (K5 q) g]
theorem TK{a}(c:a.scope.kind= .function){b}{f}{e}(x:Am):(QD b f e a).kindOf x=(b.names.lookup x).map λk=>if k= .free/\a.kindOf x=V .cell then .cell else k:=yR c x
theorem Mg(k:C3 env sc vm envs)(j:Ic sc vm b f g):∀x∈b.names,x.2= .free->env.kindOf x.1=V .cell/\∃c,env.cells.lookup x.1=V c:=λx m e=>k.3 _<|j.5 x m e
theorem nM(f:C3 env sc vm envs)(g:Ic sc vm c j k):C3 (QD c (FE env.cells c.names []) Ca env) c j envs:=⟨g.1,λo h=>by(rewrite [TK f.1];rw[U h ?_]);rfl,λo h=>by rcases h with h|h;rw[Aj Y<|g.3 _<|ET h];·have m:=ET h;rw[xA (Mg f g _ m Y) λa b=>(UL (?_) _<|abY _ _ _ m)];(rewrite [TK f.1];rw[U h ?_]);rw[A_ V<|AM ⟨Y,a⟩],λo h=>by(rewrite [TK f.1];rw[U (Bn.mp (B1 h).2) ?_]);rfl,f.5,f.6,uM _ f.7 _ _ g.7 (λx m e=>(Mg f g x m e).2) (λZ m=>nomatch m) .nil,λa b x q p=>U4 g.8 (ET q)<|ET p,f.9⟩
theorem XZ:∀{k l i a}{b}{f}{g}{nm}{c}(p:C3 a k l i)(o:Ic k l b f g)(h:(nm,c)∈FE a.cells b.names []),a.cells.lookup nm=V c/\(nm,Jn)∈b.names:=by intros k l i a b f g nm c _ p o h;rcases yV _ _ _ _ h with q|⟨m,j⟩;rw[nomatch q];·rw[Oh (Mg p o _ m Y) λZ r e=>?_];have j:c=(a.cells.lookup nm).getD 0:=j;rw[show a.cells.lookup nm=V r from e]at j⊢;rw[⟨A_ V j.symm,m⟩]
theorem xj(p:C3 env sc vm envs)(g:Ic sc vm b j u)(L:B4 X env vm μ ρ s.heap)(K:s.heap.Ns Ca m)(M:Ca∉μ)(P:X.base.get? Ca=AI):B4 X (QD b (FE env.cells b.names []) Ca env) j μ (cut ρ) s.heap:=by
 revert p g L;intros _ X sc vm envs env μ s ρ b j u Ca m _ K M P p g L;have y:∀o c,(o,c)∈FE env.cells b.names []->(o,c)∈env.cells:=λo c h=>ET (XZ p g h).1;have w:∀a∈(FE env.cells b.names []).map (·.2),a∈CM env:=λa f=>by(rw[AY (Ea.mp f) λF B D=>?_];obtain⟨o,c⟩:=F;subst D);rw[NR _<|Ea.mpr<|Aa _ (y _ _ B) Y]
 rw[⟨λa f=>?_,λa f=>?_,(Aa m K λo x J B z I=>?_),λo c O=>?_⟩];·induction f using Cu with|head k=>rw[U k M]|tail f=>rw[L.1 _<|w a f]
 ·induction f using Cu with|head k=>rw[U k P]|tail f=>rw[L.2 _<|w a f]
 ·rw[CB z λG Z=>?_];rcases g.6 _<|ET B with⟨_,q⟩|⟨q,_,_⟩;rw[Aj G<|E1.mpr q];·rw[TK p.1,q]at I;rw[nomatch(A_ V<|AM ⟨Y,(Mg p g _ (ET q) Y).1⟩).symm.trans I]
 ·rw[AY (L.4 o c<|y _ _ O) λv e r=>(Aa v e λi x J B z I=>xA (XZ p g O) λS R=>CB z λG z=>?_)];rcases g.6 _<|ET B with⟨_,q⟩|⟨q,T,_⟩;rw[Aj G<|E1.mpr q,r S x J T z (Mg p g _ R Y).1]
end
section
open PySem PySem.W PySem.Calls PyProof.Rows
variable{X:Cx}{C:CF}{N:AE}{rz:AL}{d n:AE}{sc:Bt}{vm:VM}{A:Bq}{envs:AB Env}{env:Env}{μ:AB AQ}{H:MH}{s:Ae}{ρ:Loc}{Q E:AX->Ae->Prop}
abbrev LN(X:Cx)(envs:O Env)(a:BC):O AQ->BC->MV->AX×AQ->Prop:=λμ h b p=>RV X.T.strs μ h b p.1/\Loose X envs μ h [p.2]/\a.get? p.2=AI/\∃m,h.Ns p.2 m
def ID(P:Code)(C:CF)(N:G)(ρ:Loc)(a:O G×AL)(e:O CE)(c:CE)(v:MV)(H:MH):Mine.Internal.R<|AO MV:=((BW H<|DR (cut ρ) a.1 a.2 v).bind λC2 H=>(ER P C N I e C2 H).bind λb H=>if b then(mE P C N c C2 H).bind λr H=> .ok (V r) H else .ok AI H).ME
theorem yL:∀v H x b,ID P C N ρ a f c v H≠.exc x b:=λZ Z=>nP _
def Hr(f:MV->MH->Mine.Internal.R (AO MV))(a:AL):Src->G->G->MH->Mine.Internal.R (O MV)| .seq l,j,_,H=>NI f (l.drop j) H| .lst i,j,n,H=>GZ f T i n j H| .DU i,j,n,H=>if a=T then .bad else GZ f I i n j H
theorem nV:U8 N f c b H=Hr f c b 0 N H:=by induction b using Src.casesOn<;>rfl
inductive pj(f:MV->MH->Mine.Internal.R (AO MV))(uq:AL)(sr:Src)(j k:G)(H:MH):Prop
 |bad(e:Hr f uq sr j k H= .bad)
 |done(e1:N3 H sr j=V AI)(e:Hr f uq sr j k H= .ok [] H)
 |item{v:MV}{k':G}(e1:N3 H sr j=V (V v))(hu:sr.Wa=I->uq=I)(hm:Ot sr (j+1) k'<Ot sr j k)
     (e:Hr f uq sr j k H=(f v H).bind λr FV=>(Hr f uq sr (j+1) k' FV).bind λrs Ip=> .ok (r.toList++rs) Ip)
inductive ow(f:MV->MH->Mine.Internal.R (AO MV))(en:AL)(i j k:G)(H:MH):Prop
 |bad(e:GZ f en i k j H= .bad)
 |done{l:O MV}(hl:H[i]?.bind AK.Cc=V l)(hv:l[j]?=AI)(e:GZ f en i k j H= .ok [] H)
 |item{l:O MV}{v:MV}{k':G}(hl:H[i]?.bind AK.Cc=V l)(hv:l[j]?=V v)(hk:k'<k)(e:GZ f en i k j H=(f (if en then .tup [.int j,v]else v) H).bind λr FV=>(GZ f en i k' (j+1) FV).bind λrs Ip=> .ok (r.toList++rs) Ip)
theorem Vv:∀(f:MV->MH->Mine.Internal.R (AO MV))(a:AL)(i j k:G)(H:MH),ow f a i j k H:=by intros f a i j k H;induction k using CV with|zero=>rw[.bad Y]|succ k=>intros _ k;have e:GZ f a i (k+1) j H=(BW H<|H[i]?.bind AK.Cc).bind λl H=>match l[j]? with|V v=>(f (if a then .tup [.int j,v]else v) H).bind λr c=>(GZ f a i k (j+1) c).bind λo b=> .ok (r.toList++o) b|AI=> .ok [] H:=Y;cases g:H[i]?.bind AK.Cc with|none=>rw[g]at e;rw[.bad e]|some l=>intros _ l _ g;rw[g]at e;have e:GZ f a i (k+1) j H=match l[j]? with|V v=>(f (if a then .tup [.int j,v]else v) H).bind λr c=>(GZ f a i k (j+1) c).bind λo b=> .ok (r.toList++o) b|AI=> .ok [] H:=e;cases m:l[j]? with|none=>rw[m]at e;rw[.done g m e]|some v=>rw[m]at e;rw[.item g m (JG _) e]
theorem x_:∀(f:MV->MH->Mine.Internal.R (AO MV))(p:AL)(q:Src)(j k:G)(H:MH),pj f p q j k H:=by
 intros f p q j k H;have b:∀{m u o a}{f:m->u},o=V a->o.map f=V (f a):=λe=>by rw[U e ?_];rfl
 induction q using Src.casesOn with|seq l=>rw[Ao (λh:j<l.length=>?_) λh=>?_];(·rw[.item (v:=l[j]) (k':=k) (A_ V<|Cm h) (λe=>(by cases e)) (ff _ _ h) ?_,((U (I8 h) ?_):NI f (l.drop j) H=_)];rfl);·rw[.done (A_ V<|NM<|N6 h) ?_,((U (J'<|N6 h) ?_):NI f (l.drop j) H=_)];rfl|lst i=>intros _ i;(cases Vv f T i j k H with|bad e=>rw[.bad e]|done g c e=>rw[.done ((b g).trans<|A_ V c) e]|item g c r e=>rw[.item ((b g).trans<|A_ V c) (λe=>(by cases e)) r e])|DU i=>intros _ i;induction p using BG with|false=>rw[.bad Y]|true=>cases Vv f I i j k H with|bad e=>rw[.bad e]|done g c e=>rw[.done ((b g).trans<|A_ V<|by rw[U c ?_];rfl) e]|item g c r e=>rw[.item ((b g).trans<|A_ V<|by rw[U c ?_];rfl) (λZ=>Y) r e]
theorem aq(c:∀v H x b,f v H≠.exc x b)(h:AL)(i k:G):∀(j:G)(H:MH)x b,GZ f h i k j H≠.exc x b:=by revert c;intros _ f h i k _ c;induction k with|zero=>rw[λZ Z Z Z e=>(by cases e)]|succ k g=>intros _ k _ g;intros j H;cases Vv f h i j (k+1) H with|bad e=>rw[U e λZ Z e=>(by cases e)]|done _ _ e=>rw[U e λZ Z e=>(by cases e)]|item _ _ _ _=>rw[(?_:∀x b,((BW H<|H[i]?.bind AK.Cc).bind _)≠_),Q4 (by cases H[i]?.bind AK.Cc<;>exactλZ Z e=>(by cases e)) λl H=>by cases l[j]? with|none=>rw[λZ Z e=>(by cases e)]|some v=>rw[Q4 (c _ _) λa H=>Q4 (g _ _) λZ Z Z Z e=>(by cases e)]]
theorem yz(b:∀v H x c,f v H≠.exc x c):∀x c,Hr f g m j k H≠.exc x c:=by induction m using Src.casesOn with|seq l=>rw[t6 b _ _]|lst i=>rw[aq b _ _ _ _ _]|DU i=>induction g using BG with|false=>rw[λZ Z e=>(by cases e)]|true=>rw[aq b _ _ _ _ _]
theorem V1:∀{x a},∀{l i b},FH i a l=V b->x∉a->b x=i x:=by intros x a;induction a with|nil=>intro l i b h _;rw[Im h (λZ Z e=>by rw[U e Y]) λZ Z Z Z e=>(by cases e)]|cons y a o=>intro l i b h g;rw[Im h (λe=>(by cases e)) λu j v k r w p=>?_];(rw[xA (Cs r) λf c=>?_];clear r;subst f;subst c);rw[(o p λm=>g<|.tail _ m).trans<|AS (λq=>g<|by rw[U q<|.head _]:x≠y)]
theorem vV:∀{a f v c b x}(h:DR c a f v=V b)(g:x∉a),b x=c x:=by intros a f v c b x _ h g;induction f using BG with|true=>(induction v using MV.casesOn with|tup l=>rw[V1 h g]|_=>rw[nn h])|false=>induction a using An with|nil=>rw[nn h]|cons y j=>induction j using An with|cons=>rw[nn h]|nil=>(replace h:=AN h;subst h);rw[AS (c:=x=y) λq=>g<|by rw[U q<|.head _]]
theorem xx:∀{sc c a k},∀{b},Av (GK sc c) a=V b->k∈b->∃nm∈a.flatMap Kw,c.lookup nm=V k:=by intros sc c a k;induction a with|nil=>intro b h m;obtain rfl:=AN h;rw[nomatch m]|cons e a g=>intro b h m;rw[C0 h λo G8 f i j=>?_];clear h;subst j;(rw[By (Nb f) λnm p BL r l=>?_];clear f;subst BL);induction m using Cu with|head D2=>rw[U D2<|(Aa nm (.head _) l)]|tail m=>rw[(g i m).imp λy q=>⟨.tail _ q.1,q.2⟩]
theorem vC(h:IJ sc vm e=V f)(m:k∈f.1):∃nm∈Js e,vm.lookup nm=V k:=Zm h (λnm p g e Z a b=>by clear h;subst e b;obtain rfl:=B3.mp m;rw[(Aa nm (.head _) a)]) λi c p j e a b=>by clear h;subst e b;rw[xx a m]
theorem Loose.Jh(L:Loose X envs μ s.heap i)(A:Af X envs ex μ s b u l)(k:∀a∈i,a∈ex->∃o,l.heap.get? a=V o/\¬Fc o):Loose X envs b l.heap i:=λa m=>by
 rw[K8 (L a m) λj g r o f p=>(Dx (λq=>?_) g r<|?_)];·(rw[AY A.2 λv c h=>?_];subst c);rw[(Cj.mp q).elim j λq=>nn<|(h a q).symm.trans f]
 rw[Ao (λq:a∈ex=>?_) λq=>?_,k a m q,(Aa o ((A.3 a o f).1 (λm=>Aj m j) q g) p)]
theorem Loose.keep{e ex b j h}(L:Loose X envs μ s.heap e)(A:Af X envs ex μ s b j h){a}(m:a∈e)(q:a∉ex):h.heap.get? a=s.heap.get? a:=by rw[K8 (L a m) λg f p o c k=>((A.3 a o c).1 (λm=>Aj m g) q f).trans c.symm]
theorem F0.HF:∀{X l h I ex g j}(k:F0 X l h I ex g j),∀a∈ex,∃o,h.get? a=V o/\¬Fc o:=by
 intros X l h I ex g j _ k;have b:∀{J},(∃o,h.get? J=V o/\¬Fc o)->∀a∈[J],∃o,h.get? a=V o/\¬Fc o:=λq a m=>by rw[U (B3.mp m) q]
 cases k with|tup i r q=>rw[Cp q λo e c Z=>b<|Aa o e<|Fj c<|(dc Y)]|Hb v q=>rw[b<|Aa _ q<|Fj Y<|(dc Y)]|lst e q=>rw[Cp q λo e c Z=>b<|Aa o e<|Fj c<|(dc Y)]|DU e q p u=>intro a m;induction m using Cu with|head f=>rw[U f<|(Aa _ q<|Fj Y<|(dc Y))]|tail m=>rw[Cp p λo e c Z=>b (Aa o e<|Fj c<|(dc Y)) a m]
inductive Parts(X:Cx)(envs:O Env)(cenv:Env)(D3:VM)(I D:AQ)(ex:O AQ)(sr:Src)(μ:O AQ)(h:BC)(ρ:Loc)(j:G)(rs:O MV)(items:CI AX)(n:G):Prop
 |mk(it:F0 X μ h I ex sr j)(L:B4 X cenv D3 μ ρ h)(Ls:Loose X envs μ h<|cenv.locals::D::ex)(hD:IsL h D items n)(hr:Ax X.T.strs μ h rs items.toList)
section
theorem Parts.step{i:Env}{D3:VM}{I:AQ}{D:AQ}{ex:O AQ}{P:Src}{j:G}{R:O MV}{l:CI AX}{m:G}(x:St X envs μ H s)(p:Parts X envs i D3 I D ex P μ s.heap ρ j R l m){t b F M}(A:Af X envs t μ s b F M){f}(u:B4 X i D3 b f M.heap)(g:∀a∈t,a=i.locals)(B:D≠i.locals)(y:i.locals∉ex):Parts X envs i D3 I D ex P b M.heap f j R l m:=by have r:C6 s.heap t:=λa q=>g a q▸p.3.Gx _ (.head _);rw[⟨p.1.Bb x (λa q=>p.3 a<|.tail _<|.tail _ q:Loose X envs μ s.heap ex) A (λa q z=>y<|g a z▸q) r,u,p.3.Jh A λa Z q=>?_,(p.3.keep A (.tail _<|.head _) (λq=>B<|g D q:D∉t)).trans p.4,p.5.mono A.Lc (A.tu x r).t⟩,AY u.3 λJ k Z=>G9 k λo K L e w Z=>?_,(Aa o (g a q▸e) λc=>by rw[Om c λZ v h z=>nomatch w.symm.trans z])]
theorem Parts.Bb(x:St X envs μ H s)(p:Parts X envs h D3 a D ex k μ s.heap ρ j l i m)(A:Af X envs [] μ s b g o)(f:D≠h.locals)(c:h.locals∉ex):Parts X envs h D3 a D ex k b o.heap ρ j l i m:=p.step x A (p.2.Bb x A) (λZ q=>nomatch q) f c
theorem Parts.next(x:St X envs μ H s)(p:Parts X envs i D3 h D ex r μ s.heap ρ j w l m)(A:Af X envs ex μ s b o u)(c:F0 X b u.heap h ex r<|j+1)(k:D∉ex)(g:∀a∈CM i,a∉ex):Parts X envs i D3 h D ex r b u.heap ρ (j+1) w l m:=by have f:Loose X envs μ s.heap ex:=λa q=>p.3 a<|.tail _<|.tail _ q;rw[⟨c,p.2.UB x A g f.Gx,p.3.Jh A λa Z q=>c.HF a q,(p.3.keep A (.tail _<|.head _) k).trans p.4,p.5.mono A.Lc (A.tu x f.Gx).t⟩]
theorem Parts.push(x:St X envs μ H s)(p:Parts X envs l D3 h D ex B μ s.heap ρ j S i m)(g:RV X.T.strs μ s.heap r u)(t:M7 D s.heap y)(f:IsL y D (i.push u)<|m+1)(w:D∉ex)(v:∀a∈CM l,a≠D):Af X envs [D] μ s μ H {s with heap:=y}/\Parts X envs l D3 h D ex B μ y ρ j (S++[r]) (i.push u) (m+1):=by
 have c:Loose X envs μ s.heap [D]:=λa q=>by rw[U (B3.mp q)<|p.3 D<|.tail _<|.head _]
 have A:Af X envs [D] μ s μ H {s with heap:=y}:=Af.Rp x c (t:=s.toks) (λb o e k=>(t.2 b λq=>k<|q▸.head _).trans e) (λa q=>by rw[U (B3.mp q) ⟨_,f⟩]);have T:=(A.tu x c.Gx).t;rw[⟨A,p.1.Bb x (λa q=>p.3 a<|.tail _<|.tail _ q:Loose X envs μ s.heap ex) A (λa q z=>w<|B3.mp z▸q) c.Gx,p.2.UB x A (λa q z=>v a q<|B3.mp z) c.Gx,p.3.Jh A λa Z q=>(Aa _ (B3.mp q▸f)<|Fj Y<|(dc Y)),f,U aA<|(p.5.mono (Bh.refl _) T).append<|Ax.cons (g.mono (Bh.refl _) T) Ax.nil⟩]
end
inductive fD(X:Cx)(envs:O Env)(μ:O AQ)(s:Ae)(cenv:Env)(D3:VM)(ρ:Loc)(I D:AQ)(ex:O AQ)(f:MV->MH->Mine.Internal.R (AO MV))(uq:AL)(sr:Src)(Q:AX×AQ->Ae->Prop)(E:AX->Ae->Prop):G->Ae->Prop
 |mk{j fuel m:G}{Bd:O AQ}{H':MH}{rs:O MV}{items:CI AX}{s':Ae}(A:Af X envs (cenv.locals::D::ex) μ s Bd H' s')(p:Parts X envs cenv D3 I D ex sr Bd s'.heap (cut ρ) j rs items m)
   (P:AU X envs [] μ s (LN X envs s.heap) ((Hr f uq sr j fuel H').bind λrest H=>newList (rs++rest) H) Q E):fD X envs μ s cenv D3 ρ I D ex f uq sr Q E (Ot sr j fuel) s'
theorem xf:∀{X A envs μ s E}{cenv:Env}{v:VM}{I D:AQ}{ex:AB AQ}{z:Src}{j m:AE}{rs:AB MV}{b:CI AX}{c:AB AQ}{y:MH}{s':Ae}{g:Loc}{F:AX×AQ->Ae->Prop}{R:Ae->Prop}{G:AX->Ae->Prop}{h:AX->Ae->Prop}(M:Fo X A)(K:Af X envs (cenv.locals::D::ex) μ s c y s')(p:Parts X envs cenv v I D ex z c s'.heap g j rs b m)(T:N3 y z j=AA AI)(V:D≠cenv.locals)(U:D∉ex)(B:cenv.locals∉ex)(w:∀a∈cenv.locals::D::ex,s.heap.get? a=AI)(P:AU X envs [] μ s (LN X envs s.heap) (newList rs y) F h)(O:∀s',F (.ref D,cenv.locals) s'->R s'),Ab X.M A (LG<|.ref I) (λr f=>match r with|AI=>R f|AA u=>G u f) E s':=by
 intros X A envs μ s E cenv v I D ex z j m rs b c y s' g F R G h _ M K p T V U B w P O;have x:=K.1;rw[AU.ite P λl P=>gT M x p.1 T λS k=>O _ ?_];intros _ S _ k;have W:Loose X envs c s'.heap ex:=λa q=>p.3 a<|.tail _<|.tail _ q;have J:=p.3 D (.tail _<|.head _);rw[AY p.2.3 λZ t _=>K8 (p.3 cenv.locals<|.head _) λc1 c2 c3 o c4 c5=>P (.ref D,cenv.locals) _ _ (((K.fresh (ex':=[]) λa m=> .inr<|w a m).drop W (λa m=>w a<|.tail _<|.tail _ m) k).adopt (D:=D) (mo:= .list AH rs) (w D<|.tail _<|.head _) J.1 J.2.1 J.2.2.1<|DI b m (k D _ p.4 U) (p.5.mono (Bh.app _ _) (λa i n L=>k a _ L λq=>W.Gx a q _ L<|N5 Y _ _ Y:F' s'.heap S))<|(show b.size=rs.length from p.5.length)▸MJ▸l) ⟨Kq ?_,λa q=>?_,w _<|.head _,Z,t.at' λo e=>k _ o e B⟩];·rw[Ag x.1<|A9 (DO<|B2 _)<|A9 (GI ..) ?_];rfl
 rw[A9 (B3.mp q)<|(Ms (λq=>(Cj.mp q).elim c1 λq=>V (B3.mp q).symm) c2 c3 o (k _ o c4 B) c5)]
set_option tactic.hygienic true in theorem tW:∀{X C N rz d n A envs μ s ρ E}{J:Bt}{z:VM}{cenv:Env}{L Z R:Expr}{M:AB Expr}{G:Bt}{pos:Pos}{xs:AB AE×AL}{cs:AB CE}{c:CE}{W:Src}{I D:AQ}{ex:AB AQ}{RR:Result->Ae->Prop}{o:AB AQ}{K:MH}{B:Ae}{i:AX×AQ->Ae->Prop}(hh:Fo X A)(Lj:E6 X C N rz d n)(My:Jv X C N rz d n)(hA:Ar X A d envs rz)(O:C3 cenv J z envs)(hT:IJ J z L=AA xs)(MA:Av (cE X.T n J z) M=AA cs)(hc:cE X.T n J z Z=AA c)(S:∀nm∈Js L,cenv.kindOf nm=AA .local)(T:∀k∈xs.1,1000<=k)(A0:Af X envs [] μ s o K B)(p0:Parts X envs cenv z I D ex W o B.heap (cut ρ) 0 [] #[] 0)(fr:∀a∈cenv.locals::D::ex,s.heap.get? a=AI)(d1:D≠cenv.locals)(d2:D∉ex)(d3:cenv.locals∉ex)(d4:∀a∈CM cenv,a∉ex/\a≠D)(P:AU X envs [] μ s (LN X envs s.heap) ((Hr (ID X.P C N ρ xs cs c) xs.2 W 0 N K).bind newList) i E)(hR:∀s',i (.ref D,cenv.locals) s'->RR (.ok .next) s'),Ie X.M A (.compLoop (.ListComp Z [⟨L,R,M,0⟩] G pos) 0 (.ref I) (.ref D) cenv) RR B:=by intros X C N rz d n A envs μ s ρ E J z cenv L Z R M G pos xs cs c W I D ex RR o K B i _ hh Lj My hA O hT MA hc S T A0 p0 fr d1 d2 d3 d4 P hR;rw[wC (fD X envs μ s cenv z ρ I D ex (ID X.P C N ρ xs cs c) xs.2 W i E) ?_ _<|.mk (A0.mono λ_ m=>(by cases m)) p0 P];rintro _ s'⟨Aw,p,f⟩;rename_i j V m t l rs items;intros _ s' j V m t l rs items _ f Aw p;have x:=Aw.1;cases x_ (ID X.P C N ρ xs cs c) xs.2 W j V l with|bad e=>rw[e]at f;rw[f.elim]|done e1 e2=>rw[e2]at f;have f:AU X envs [] μ s (LN X envs s.heap) (newList (rs++[]) l) i E:=f;rw[Ba]at f;rw[xf hh Aw p e1 d1 d2 d3 fr f hR]| @item v k' e1 e2 hm e4=>intros _ v k' _ e1 hm e4;rw[e4]at f;have f:=AU.assoc f;rw[fm (lI hT) x p.1 (λa q=>p.3 a<|.tail _<|.tail _ q:Loose X envs t s'.heap ex) e2 e1 λu Bs A1 ZA ru=>?_];have p1:=p.next x A1 ZA d2 λa m=>(d4 a m).1;cases U:DR (cut ρ) xs.1 xs.2 v with|none=>(have:ID X.P C N ρ xs cs c v l= .bad:=by unfold ID;rw[A9 U ?_];rfl);rw[this]at f;rw[f.elim]|some F=>rw[(by unfold ID;rw[A9 U ?_];rfl:ID X.P C N ρ xs cs c v l=((ER X.P C N AG cs F l).bind λb H=>if b then(mE X.P C N c F H).bind λr H=> .ok (AA r) H else .ok AI H).ME)]at f;rw[Wb hh O hT U A1.1 p1.2 ru λDc Ym Vl A2 L2=>?_];have eb:∀a∈Ym,a=cenv.locals:=Vl.2 S;have kc:∀y w,cut ρ y=AA w->F y=AA w:=λy w h=>(vV U λm=>CB h λh1 _=>Aj (T y m)<|IZ.mpr h1).trans h;rw[uY My hA O M MA A2.1 L2 ?_];cases U:ER X.P C N AG cs F l with|bad=>rw[U]at f;rw[f.elim]|exc=>rw[U]at f;rw[f.elim]|ok b H2=>rw[U]at f;intro b' abq Nr A3 R3;subst R3;have p3:=(p1.step A1.1 A2 (L2.less kc) eb d1 d3).Bb A2.1 A3 d1 d3;have f_:=((Aw.trans<|A1.mono λa m=> .tail _<|.tail _ m).trans<|A2.mono (ex':=cenv.locals::D::ex) λa m=>by rw[A9 (eb a m)<|.head _]).trans (A3.mono (ex':=cenv.locals::D::ex) λ_ m=>(by cases m));induction b using BG with|false=>rw[(Aa _ hm<|.mk f_ p3<|AU.assoc f)]|true=>rw[A9 (AM A7)<|Lj _ _ _ _ hc _ _ _ _ _ _ _ _ _ hA O A3.1 (L2.Bb A2.1 A3) ?_];have f:AU X envs [] μ s (LN X envs s.heap) ((((mE X.P C N c F H2).bind λr H=>Mine.Internal.R.ok (AA r) H).ME).bind _) i E:=f;cases Y:mE X.P C N c F H2 with|bad=>rw[Y]at f;rw[f.elim]|exc=>rw[Y]at f;rw[f.elim]|ok r H3=>rw[Y]at f;have f:AU X envs [] μ s (LN X envs s.heap) ((Hr (ID X.P C N ρ xs cs c) xs.2 W (j+1) k' H3).bind λg H=>newList (rs++([r]++g)) H) i E:=AU.assoc f;rw[(by funext g H;rw[A9 (Bc ..) A7]:(λg(H:MH)=>newList (rs++([r]++g)) H)=λg(H:MH)=>newList ((rs++[r])++g) H)]at f;intro u4 acb ack A5 R5;have p5:=p3.Bb A3.1 A5 d1 d3;(have hz:(rs++[r]).length<=Bj:=by revert f;cases q:Hr (ID X.P C N ρ xs cs c) xs.2 W (j+1) k' H3 with|ok g H4=>rw[λf=>AU.ite f λhz _=>AJ (by rw[A9 (Aq (bs:=g))<|BJ _ _]) hz]|bad=>rw[λP=>P.elim]|exc=>rw[Aj q<|yz yL _ _]);rw[append_at p5.4 (λh' C7 sG=>?_)<|(show items.size=rs.length from p5.5.length)▸MJ▸AJ (by rw[A9 Aq<|BJ _ _]) hz];obtain⟨A6,p6⟩:=p5.push A5.1 R5 C7 sG d2 λa m=>(d4 a m).2;rw[(Aa _ hm<|.mk ((f_.trans<|A5.mono (ex':=cenv.locals::D::ex) λ_ m=>(by cases m)).trans<|A6.mono λa m=>by rw[A9 (B3.mp m)<|.tail _<|.head _]) p6 f)]
end
section
open PySem PySem.W PySem.Calls PyProof.Rows
variable{X:Cx}{C:CF}{N:AE}{rz:AL}{d n:AE}{sc:Bt}{vm:VM}{A:Bq}{envs:AB Env}{env:Env}{μ:AB AQ}{H:MH}{s:Ae}{ρ:Loc}{Q E:AX->Ae->Prop}
theorem ub{c:CE}{e:O G×AL}{k:IK}{b h:O CE}{f:Type}{a:O AQ->BC->MV->f->Prop}{Q:f->Ae->Prop}(P:AU X envs [] μ s a (mE X.P C N (.comp c e.1 e.2 k b h) ρ H) Q E):AU X envs [] μ s a (((CN X.P C N b ρ H).bind<|UX k).bind λg H=>(Hr (ID X.P C N ρ e h c) e.2 g 0 N H).bind newList) Q E:=by simp only [<-nV];revert P;rw[(?_:AU X envs [] μ s a ((CN X.P C N b ρ H).bind _) Q E->_)];cases CN X.P C N b ρ H with|bad=>rw[λP=>P]|exc=>rw[λP=>P]|ok j m=>rw[λP=>P]
theorem jV:∀{X C N rz d n sc vm A envs env μ H s ρ E}{Bw:Bt}{D3:VM}{EF elt iter:Expr}{ifs:AB Expr}{pos:Pos}{xs:AB AE×AL}{src cs:AB CE}{c:CE}{RR:AX->AQ->Result->Ae->Prop}(hX:Dy X)(hG:Mh X)(Lj:E6 X C N rz d n)(My:Jv X C N rz d n)(hA:Ar X A d envs rz)(he:C3 env sc vm envs)(ok:Ic sc vm Bw D3 EF)(hT:IJ Bw D3 EF=AA xs)(Qy:Av (cE X.T n sc vm) (srcOf sc iter).2=AA src)(MA:Av (cE X.T n Bw D3) ifs=AA cs)(hc:cE X.T n Bw D3 elt=AA c)(x:St X envs μ H s)(L:B4 X env vm μ ρ s.heap)(P:AU X envs [] μ s (LN X envs s.heap) (mE X.P C N (.comp c xs.1 xs.2 (srcOf sc iter).1 src cs) ρ H) (λp s'=>RR p.1 p.2 (.ok .next) s') E),Ab X.M A (DC iter env) (λxv Bs=>Ab X.M A (Ja xv) (λit Dc=>Ab X.M A (PySem.newList []) (λacc Nr=>Ab X.M A (newFunctionEnv Bw env.globals (FE env.cells Bw.names []) [] env.qual AI .none<|AA env) (λcenv uw=>Ie X.M A (.compStart (.ListComp elt [⟨EF,iter,ifs,0⟩] Bw pos) 0 it acc {cenv with scope:=relabel Bw env}) (RR acc cenv.locals) uw) E Nr) E Dc) E Bs) E s:=by
 intros X C N rz d n sc vm A envs env μ H s ρ E Bw D3 EF elt iter ifs pos xs src cs c RR _ hX hG Lj My hA he ok hT Qy MA hc x L P;replace P:=ub P;rw[gp hX hG Lj hA he Qy x L<|AU.bind P λsr it aP Ip Dc e0 A2 R2 Z=>?_];rw[e0]at P;(rw[Em R2 λI ex BL hit Lx fX=>?_];clear R2;rw[A9 BL ?_]);have Kf:=A2.1;rw[DE (Tj Kf (o:={cls:= .type "list",dict:=AI,data:= .seq ([]:AB AX).toArray}) A7 A7<|by decide) λA3 nY Z=>LQ<|wpAny_newFunctionEnv ok.3 (λy m=>nomatch m) (λEV hn hs=>?_) ok.1];have Ld:=A3.1;generalize Qj:Dc.heap.push {cls:= .type "list",dict:=AI,data:= .seq ([]:AB AX).toArray}=H3 at*;have cG:H3.objs.size=Dc.heap.objs.size+1:=by rw[Ag Qj<|A9 (Jp ..) A7]
 have Zq:H3.get? H3.objs.size=AI:=Mi _;have k4:∀b o,H3.get? b=AA o->EV.get? b=AA o:=λb o e=>(hs.2 b<|DZ<|Ds e).trans<|E4 _ e;have A4:=Af.I9 Ld (h':=EV) (t:=Dc.toks+([]:AB<|Am×AX).length) (d:=Dc.drawn) k4;have dU:∀a,Dc.heap.get? a=AI->s.heap.get? a=AI:=λa e=>A2.HF e;have lX:∀a∈ex,a<Dc.heap.objs.size:=λa m=>by rw[K8 (Lx a m) λZ Z Z o e Z=>Ds e]
 have fr:∀a∈H3.objs.size::Dc.heap.objs.size::ex,s.heap.get? a=AI:=λa m=>by rcases CZ.mp m with rfl|m;rw[dU _<|A3.HF Zq];·rcases CZ.mp m with rfl|m;rw[dU _<|Mi _,fX a m]
 have Ls:Loose X envs aP EV<|H3.objs.size::Dc.heap.objs.size::ex:=λa m=>by rcases CZ.mp m with rfl|m;(·(rw[G9 hn λo es ep q q2 Z=>?_];clear hn);rw[(Ms (JW Ld Zq) (Kg Ld Zq) Ld.N9 o q λc=>by(rw[Om c λZ xs' n2 z=>?_];clear c);rw[nomatch q2.symm.trans z])]);·rcases CZ.mp m with rfl|m;rw[(nY.Jh A4 λZ Z m=>nomatch m) _<|.head _,((Lx.Jh A3 λZ Z m=>nomatch m).Jh A4 λZ Z m=>nomatch m) a m]
 have d1:Dc.heap.objs.size≠H3.objs.size:=by rw[A9 cG<|DZ<|JG _]
 have d2:Dc.heap.objs.size∉ex:=λm=>GN _<|lX _ m;have d3:H3.objs.size∉ex:=λm=>by have:=lX _ m;rw[cG]at this;rw[GN _<|XF this]
 have LE:=xj he ok (((L.Bb x A2).Bb Kf A3).Bb Ld A4) (Ca:=H3.objs.size) hn (Ls _<|.head _).1 (Ls _<|.head _).2.2.1;have hC:=nM he ok (Ca:=H3.objs.size);have jG:=(hit.Bb Kf Lx A3 (λZ Z m=>nomatch m) C6.nil).Bb Ld (Lx.Jh A3 λZ Z m=>nomatch m) A4 (λZ Z m=>nomatch m) C6.nil;have loop:Ie X.M A (.compLoop (.ListComp elt [⟨EF,iter,ifs,0⟩] Bw pos) 0 (.ref I) (.ref Dc.heap.objs.size)<|QD Bw (FE env.cells Bw.names []) H3.objs.size env) (RR (.ref Dc.heap.objs.size) H3.objs.size) {Dc with heap:=EV,toks:=Dc.toks+([]:AB<|Am×AX).length}:=by rw[tW (cenv:=QD Bw (FE env.cells Bw.names []) H3.objs.size env) hA.5 Lj My hA hC hT MA hc (λnm m=>hC.2 nm<|ok.2 nm m) (λk m=>?_) ((A2.trans A3).trans A4) ⟨jG,LE,Ls,k4 _ _<|by rw[Ag Qj<|Fz _ A7],Ax.nil⟩ fr d1 d2 d3 (λa m=>?_) (P:AU X envs [] μ s (LN X envs s.heap) ((Hr (ID X.P C N ρ xs cs c) xs.2 sr 0 N Ip).bind newList) _ E) λs' q=>q];(·rw[AY (vC hT m) λnm mn hk=>?_];rcases ok.6 _<|ET hk with⟨_,q⟩|⟨q,_⟩;rw[q,nomatch(ok.2 nm mn).symm.trans q]);·rcases CZ.mp m with rfl|m;rw[⟨d3,DK d1⟩];·(rw[AY (Ea.mp m) λBf m1 E9=>?_];obtain⟨nm',ca⟩:=Bf;subst E9);rw[AY (P7 L (a:=ca)<|NR _<|Ea.mpr<|Aa _ (ET (XZ he ok m1).1) A7) λo e Z=>?_];have ne:∀b,s.heap.get? b=AI->ca≠b:=λb z q=>nn<|(q▸z:s.heap.get? ca=AI).symm.trans e;rw[⟨λq=>ne _ (fX _ q) A7,ne _<|fr _<|.tail _<|.head _⟩]
 rw[codeAny_compStart_list loop<|zZ jG loop]
end
section
open PySem PySem.W PySem.Calls PyProof.Rows
variable{X:Cx}{C:CF}{N:AE}{rz:AL}{d n:AE}{sc:Bt}{vm:VM}{A:Bq}{envs:AB Env}{env:Env}{μ:AB AQ}{H:MH}{s:Ae}{ρ:Loc}{Q E:AX->Ae->Prop}
theorem tS:∀{k j},TU x l k=V j->∃i,j=k+i/\l[i]?=V x:=by induction l with|nil=>intro k j h;rw[nn h]|cons y b c=>intro k j h;have h:(if(x==y)=I then V k else TU x b (k+1))=V j:=h;rw[Ao (λq:(x==y)=I=>?_) λq=>?_];(·replace h:=(AM q)▸h;rw[U (AN h) ?_,(Aa 0 Y<|A_ V (Bn.mp q).symm)]);rw[AY (c<|(AS q)▸h) λi e f=>(Aa (i+1) (by(rw[U e<|U (CR ..) ?_];rw[EL 1]at⊢)) f)]
theorem TC{T:CT}(h:T.str x=V k):T.strs[k]?=V x:=by rw[AY (tS h) λi e b=>U e<|U (Di ..) b]
theorem xC(h:Sr b=V o):cW o=b:=by induction b using gO<;>first|rw[nn h]|((replace h:=AN h;subst h);rfl)
theorem Ws(h:Av (cE X.T n sc vm) (srcOf sc iter).2=V src)(v:AX):foldedSetIterable iter env v=pure v:=by
 rcases bR sc iter with⟨f,p,a,q,rfl,_,_⟩|e;·rfl
 ·replace h:=e▸h;rw[AY (dP h) λc Z b=>?_];clear e h;induction iter using Cr<;>first|rfl|(induction n using CV<;>exact nn b)
theorem fF{c}{mv}{k}{p}(h:cH X.T c=V mv)(x:St X envs μ H s)(P:AU X envs [] μ s (C5 X) (.ok mv H) Q E):Ab X.M A (DC (.Constant c k p) env) Q E s:=by induction c using fv with|none=>(replace h:=AN h;subst h);rw[B8<|P _ _ _ (Af.refl x) ON]|bool b=>(replace h:=AN h;subst h);rw[B8<|P _ _ _ (Af.refl x) ZR]|int i=>(replace h:=AN h;subst h);rw[(λZ Z Z=>P _ _ _ (Af.tok x) Gd:Ab X.M A (mkInt i) Q E s)]|str y=>rw[Bo h λj f e=>(λZ Z Z=>P _ _ _ (Af.tok x)<|e▸(Kl y _ (TC f) Y):Ab X.M A (mkText y) Q E s)]|_=>rw[nn h]
theorem abf{c a:CE}{G:Prop}(h:e_ c=V a)(k:∀i,c= .con (.int i)->a= .con (.int<|-i)->G):G:=by induction c using CE.casesOn with|con v=>(induction v using MV.casesOn with|int i=>rw[k i Y (AN h).symm]|_=>rw[nn h])|_=>rw[nn h]
theorem kH(B:E6 X C N rz d n)(z:Ar X A d envs rz)(y:C3 env sc vm envs){o i:Expr}{F G:CE}{p e:Pos}(R:cE X.T n sc vm o=V F)(O:cE X.T n sc vm i=V G)(x:St X envs μ H s)(L:B4 X env vm μ ρ s.heap):(AU X envs [] μ s (C5 X) ((mE X.P C N F ρ H).bind λa H=>(mE X.P C N G ρ H).bind λb H=>Qd H a b) Q E->Ab X.M A (DC (.Subscript o (.Slice (V i) AI AI p) e) env) Q E s)/\(AU X envs [] μ s (C5 X) ((mE X.P C N F ρ H).bind λa H=>(mE X.P C N G ρ H).bind λb H=>R6 H a b) Q E->Ab X.M A (DC (.Subscript o (.Slice AI (V i) AI p) e) env) Q E s):=by
 rw[⟨λP=>?_,λP=>?_⟩];·rw[V3<|B _ _ _ _ R _ _ _ _ _ _ _ _ _ z y x L<|AU.bind P λa u k w q D m J M=>W5<|U (YJ ..)<|B _ _ _ _ O _ _ _ _ _ _ _ _ _ z y m.1 (L.Bb x m)<|AU.bind M λb v j r c D g I K=>B8<|B8 ?_];have f:=Af.push g.1 (o:={cls:= .type "slice",data:= .fields #[v,.none,.none]}) (t:=c.toks);rw[sY f.1 (f.rv g.1 C6.nil<|g.rv m.1 C6.nil J) (f.rv g.1 C6.nil I) (ZX _ _ _ _)<|AU.step f K]
 ·rw[V3<|B _ _ _ _ R _ _ _ _ _ _ _ _ _ z y x L<|AU.bind P λa u k w q D m J M=>W5<|B8<|U (YJ ..)<|B _ _ _ _ O _ _ _ _ _ _ _ _ _ z y m.1 (L.Bb x m)<|AU.bind M λb v j r c D g I K=>B8 ?_];have f:=Af.push g.1 (o:={cls:= .type "slice",data:= .fields #[.none,v,.none]}) (t:=c.toks);rw[px f.1 (f.rv g.1 C6.nil<|g.rv m.1 C6.nil J) (f.rv g.1 C6.nil I) (ZX _ _ _ _)<|AU.step f K]
theorem sT(h:Yj e=I):∃k p q,e= .UnaryOp .USub (.Constant (.int 1) k p) q:=by induction e using Cr with|UnaryOp a e q=>(induction a using U9 with|USub=>(induction e using Cr with|Constant c k p=>(induction c using fv with|int i=>obtain rfl:=(DJ h:i=1);rw[(bM k p q Y)]|_=>rw[nb h])|_=>rw[nb h])|_=>rw[nb h])|_=>rw[nb h]
theorem xl(O:E6 X C N rz d n)(G:Ar X A d envs rz)(F:C3 env sc vm envs)(c:cE X.T n sc vm o=V w)(D:Yj i=I)(x:St X envs μ H s)(L:B4 X env vm μ ρ s.heap)(P:AU X envs [] μ s (C5 X) (mE X.P C N (.UI w) ρ H) Q E):Ab X.M A (DC (.Subscript o (.Slice AI AI (V i) p) h) env) Q E s:=by rw[SH (sT D) λk T S q=>U q ?_,V3<|O _ _ _ _ c _ _ _ _ _ _ _ _ _ G F x L<|AU.bind P λa u j y v e B K M=>W5<|B8<|B8<|U (YJ ..)<|Zr<|fF (c:= .int 1) (mv:= .int 1) Y B.1 λR g b z J=>?_,xE (Jx J) λt m=>U m ?_,neg_int ?_];have f:=z.trans (Af.tok (t:=b.toks+1) z.1);have r:=Af.push f.1 (o:={cls:= .type "slice",data:= .fields #[.none,.none,.int (-1) b.toks]}) (t:=b.toks+1);rw[xH r.1 (r.rv f.1 C6.nil<|f.rv B.1 C6.nil K) (ZX _ _ _ _)<|AU.step r<|AU.step f M]
theorem eT(hX:Dy X)(hG:Mh X)(Lj:E6 X C N rz d n)(My:Jv X C N rz d n)(hA:Ar X A d envs rz)(he:C3 env sc vm envs)(ok:Ic sc vm Bw D3 EF)(hT:IJ Bw D3 EF=AA xs)(Qy:Av (cE X.T n sc vm) (srcOf sc iter).2=AA src)(MA:Av (cE X.T n Bw D3) ifs=AA cs)(hc:cE X.T n Bw D3 elt=AA c)(x:St X envs μ H s)(L:B4 X env vm μ ρ s.heap)(P:AU X envs [] μ s (C5 X) (mE X.P C N (.comp c xs.1 xs.2 (srcOf sc iter).1 src cs) ρ H) Q E):Ab X.M A (DC (.ListComp elt [⟨EF,iter,ifs,0⟩] Bw pos) env) Q E s:=by rw[A9 (eval_ListComp ..) ?_,bx (use:=AI) A7 (Ws Qy) (cF λy m e=>(Mg he ok y m e).2) ok.1 (λy m e=>by rw[A9 (ok.4 y m)<|A9 e A7])<|jV hX hG Lj My hA he ok hT Qy MA hc x L (RR:=λacc Ca r s'=>compPost X.M A E AI Q acc Ca r s') ?_];revert P;cases mE X.P C N (.comp c xs.1 xs.2 (srcOf sc iter).1 src cs) ρ H with|bad=>rw[λP=>P]|exc=>rw[λP=>P]|ok v H'=>intro P p Bd s' A' R;rw[kP R λrv LC fC m hm=>(Aa m hm λh' C7=>?_),P _ _ _ (A'.drop LC (λa m=>by rw[A9 (B3.mp m) fC]) (h':=h') λb o e nb=>(C7.2 b λq=>nb<|q▸.head _).trans e)<|rv.mono (Bh.refl _) λa Vj k i2=>?_];have:a≠p.2:=λq=>LC.Gx p.2 (.head _) _ (q▸i2)<|N5 A7 _ _ A7;rw[(C7.2 a this).trans i2]
theorem oK(b:PU o=I):DC (.Attribute o nm a) env=(do
     let f<-DC o env
     N4 a.atName
     let r<-RG [f] (M3 f nm I)
     letTemporaryGo o f r
     pure r):=by rw[U (arm_eval_Attribute ..)<|U (eW b) Y]
end
section
open PySem PySem.W PySem.Calls PyProof.Rows
variable{X:Cx}{C:CF}{N:AE}{rz:AL}{d n:AE}{sc:Bt}{vm:VM}{A:Bq}{envs:AB Env}{env:Env}{μ:AB AQ}{H:MH}{s:Ae}{ρ:Loc}{Q E:AX->Ae->Prop}
inductive Facts(X:Cx):Prop
 |mk(x:Dy X)(c:Oo X)(g:Mh X)
theorem Facts.wp(h:Facts X):Facts<|X.wp p:=⟨h.1.wp,⟨h.2.1,h.2.2,h.2.3,h.2.4,h.2.5,h.2.6⟩,⟨h.3.1,h.3.2,h.3.3,h.3.4,h.3.5,h.3.6,h.3.7,h.3.8⟩⟩
theorem Gg{b:Type}{o:AO b}{f:b->CE}{c:CE}{G:Prop}(h:o.map f=V c)(P:AU X envs [] μ s (C5 X) (mE X.P C N c ρ H) Q E)(k:∀a,o=V a->AU X envs [] μ s (C5 X) (mE X.P C N (f a) ρ H) Q E->G):G:=Bo h λa e g=>k a e<|g.symm▸P
theorem vQ(F:Facts X)(c:E6 X C N rz d n)(k:Ar X A d envs rz)(j:C3 env sc vm envs)(r:b.length=h.length)(w:cE X.T n sc vm a=V i)(m:Av (cE X.T n sc vm) h=V l)(x:St X envs μ H s)(L:B4 X env vm μ ρ s.heap)(P:AU X envs [] μ s L_ ((mE X.P C N i ρ H).bind λv H=>HJ X.P C N v (b.map Hf) l ρ H) Q E):Ab X.M A (DC (.Compare a b h p) env) Q E s:=by rw[((U (ig _ _ _<|cq m)<|Ah<|c _ _ _ _ w _ _ _ _ _ _ _ _ _ k j x L<|AU.bind P λv u f o g B q y z=>s6 F.1 c k j h m r q.1 (L.Bb x q) y z):Ab X.M A (do compareChain p (<-DC a env) b (markedEach b h<|OG h env)) Q E s)]
theorem pg:∀{f a b c}{G:Prop}(h:UR f a b=V c)(m:f= .Pow->a= .con (.int 2)->b= .con (.int 31)->c= .con (.int 2147483648)->G)(k:∀o,Sr f=V o->c= .bin o a b->G),G:=by
 intros f a b c G _ h m k;rw[Ao (λg:f= .Pow=>?_) λg=>?_];·subst g;induction a using CE.casesOn with|con v=>(induction v using MV.casesOn with|int i=>(induction b using CE.casesOn with|con w=>(induction w using MV.casesOn with|int j=>rw[CB h λh e=>m Y (by rw[U h.1 Y]) (by rw[U h.2 Y]) (AN e).symm]|_=>rw[nn h])|_=>rw[nn h])|_=>rw[nn h])|_=>rw[nn h]
 ·rw[(by clear m;induction f using gO<;>first|rfl|rw[Aj Y g]:UR f a b=(Sr f).map λo=>CE.bin o a b)]at h;rw[Bo h λo p e=>k o p e.symm]
theorem zm:∀{X C N rz d n B vm A envs env μ H s ρ Q E l r G}{p:Pos}{a b c}(f:E6 X C N rz d n)(y:Ar X A d envs rz)(w:C3 env B vm envs)(J:cE X.T n B vm l=AA a)(I:cE X.T n B vm r=AA b)(O:UR G a b=AA c)(x:St X envs μ H s)(L:B4 X env vm μ ρ s.heap)(P:AU X envs [] μ s (C5 X) (mE X.P C N c ρ H) Q E),Ab X.M A (DC (.BinOp l G r p) env) Q E s:=by
 intros X C N rz d n B vm A envs env μ H s ρ Q E l r G p a b c _ f y w J I O x L P;rw[pg O (λh W V U=>?_) λo T e=>?_];·clear O;subst h W V U;rw[wpAny_BinOp<|f _ _ _ _ J _ _ _ _ _ _ _ _ _ y w x L λu j q k M=>f _ _ _ _ I _ _ _ _ _ _ _ _ _ y w k.1 (L.Bb x k) λv g m z K=>?_,xE (Jx M) λt F=>A9 F ?_,xE (Jx K) λt' D=>A9 D ?_,AutoIntOps.pow_4 ((dc Y)) ((dc Y)) ((dc Y)) ((dc Y)) (by decide+kernel)<|P _ _ _ ((k.trans z).trans<|Af.tok z.1) Gd]
 ·clear O;subst e;rw[wpAny_BinOp<|f _ _ _ _ J _ _ _ _ _ _ _ _ _ y w x L<|AU.bind P λu v j S q Z k M P1=>f _ _ _ _ I _ _ _ _ _ _ _ _ _ y w k.1 (L.Bb x k)<|AU.bind P1 λu' v' g R m Z z K i=>xC T▸q6 (A:=A) z.1 (z.rv k.1 C6.nil M) K i]
theorem vt(f:∀a b c d,i≠.Slice a b c d)(h:cE g (n+1) sc vm (.Subscript o i p)=V c):((cE g n sc vm o).bind λx=>(cE g n sc vm i).map λy=>CE.sub x y)=V c:=by induction i using Cr<;>first|rw[h]|rw[Aj Y<|f _ _ _ _]
inductive wL(T:CT)(n:G)(sc:Bt)(vm:VM)(gens:O Comprehension)(Bw:Bt)(elt:Expr)(c:CE):Prop
 |mk(EF iter:Expr)(ifs:O Expr)(xs:O G×AL)(src cs:O CE)(c₀:CE)(e:gens=[⟨EF,iter,ifs,0⟩])(ok:Ic sc vm Bw (JH vm Bw.names 1000) EF)(h1:IJ Bw (JH vm Bw.names 1000) EF=V xs)
   (h2:Av (cE T n sc vm) (srcOf sc iter).2=V src)(h3:Av (cE T n Bw<|JH vm Bw.names 1000) ifs=V cs)(h4:cE T n Bw (JH vm Bw.names 1000) elt=V c₀)(ec: .comp c₀ xs.1 xs.2 (srcOf sc iter).1 src cs=c)
theorem dF:∀{u i T n k b j p c}(h:cE T (n+1) u i (.ListComp k b j p)=V c),wL T n u i b j k c:=by intros u i T n k b j p c _ h;induction b using An with|nil=>rw[nn h]|cons g q=>intros _ g q _ h;induction g using Comprehension.casesOn with|mk m f o a=>intros _ m f o a _ h;induction a using Int.casesOn with|negSucc=>induction q using An<;>exact nn h|ofNat a=>induction a using CV with|succ=>induction q using An<;>exact nn h|zero=>induction q using An with|cons=>rw[nn h]|nil=>rw[Kp h λv h=>BQ h λw D h=>BQ h λr B h=>BQ h λF z h=>Bo h λG y e=> .mk m f o w r F G Y (Ic.of v) D B z y e]
theorem oH:∀{T:CT}{f a c}{G:Prop}(h:Zc T f a=V c)(q:∀k,T.Ng.lookup f=V k->c= .EK k a->G)(p:∀k,T.PF.lookup f=V k->c= .callC k a->G)(o:∀b j,SA f=V b->a=[j]->c= .E8 b j->G),G:=by intros T f a c G _ h q p o;unfold Zc at h;cases g:T.Ng.lookup f with|some k=>replace h:=g▸h;rw[q k g (AN h).symm]|none=>replace h:=g▸h;cases g:T.PF.lookup f with|some k=>replace h:=g▸h;rw[p k g (AN h).symm]|none=>replace h:=g▸h;rw[BQ h λb r h=>Bo h λj m u=>?_];clear q p;induction a using An with|nil=>rw[nn m]|cons v a=>induction a using An with|cons=>rw[nn m]|nil=>rw[o b j r (A_ (λc=>[c])<|AN m) u.symm]
theorem oL:∀{n sc b T a c1}(h:Av (cE T n sc b) a=V [c1]),∃e,a=[e]/\cE T n sc b e=V c1:=by intros n sc b T a c1 _ h;induction a using An with|nil=>rw[nomatch AN h]|cons e c=>intros _ e c _ h;rw[C0 h λj k g i f=>?_];obtain⟨rfl,rfl⟩:=Cs f;clear h;induction c using An with|cons l c=>rw[C0 i λZ Z Z Z f=>(by cases f)]|nil=>rw[(Aa e Y g)]
theorem zD:∀{X C N rz d n G vm A envs env μ H s ρ Q E}{f:Am}{p pos j c}(F:Facts X)(M:IY X C d rz)(m:E6 X C N rz d n)(w:Ar X A d envs rz)(r:C3 env G vm envs)(h:cE X.T (n+1) G vm (.Call (.Name f p) j [] pos)=AA c)(x:St X envs μ H s)(L:B4 X env vm μ ρ s.heap)(P:AU X envs [] μ s (C5 X) (mE X.P C N c ρ H) Q E),Ab X.M A (DC (.Call (.Name f p) j [] pos) env) Q E s:=by
 intros X C N rz d n G vm A envs env μ H s ρ Q E f p pos j c _ F M m w r h x L P;rw[CB h λK h=>BQ h λl y h=>A9 (YG ..)<|oH h (λk J e=>?_) (λk J e=>?_) λb c1 W i e=>?_];·replace P:=e▸P;rw[Cp (F.3.2 _ _ J) λZ S R O=>Ah<|PZ F.1 x r K S<|V6 F.1 m w r y O x L<|AU.bind P λU V g q o T D z B=>λ_=>jK<|M A envs k Z _ _ _ _ _ Q E R w.c D.1 z B]
 ·replace P:=e▸P;rw[Cp (F.3.3 _ _ J) λt S R O=>Ah<|PZ F.1 x r K S<|V6 F.1 m w r y O x L<|AU.bind P λU V g q o T D z B=>λ_=>pM F.1 F.2 M w D.1 R z B]
 ·replace P:=e▸P;replace y:=i▸y;rw[AY (oL y) λe I Y=>A9 I ?_,Ah<|WE F.1 x r K (F.3.4 _ _ W)<|pG m w r (by clear W;induction b using Bi.casesOn<;>exactλa e=>(by cases e)) Y x L<|AU.bind P λv u g q o T D z B=>yZ D.1 w.5 z B]
theorem gx:∀{X C N rz d n}(F:Facts X)(hO:IY X C d rz)(j:E6 X C N rz d n)(O:Jv X C N rz d n),E6 X C N rz d<|n+1:=by intros X C N rz d n _ F hO j O;intros sc vm e c _ h A envs env μ H s ρ Q E D B x L P;intros _ A envs env μ H s ρ Q E _ D B x L P;induction e using Cr with|Constant=>rw[Gg h P λmv hm P=>fF hm x P]|Name=>rw[xD F.1 F.3 x B L h P]|BinOp l V r p=>rw[BQ h λa w h=>BQ h λb I h=>zm j D B w I h x L P]|UnaryOp V e p=>(induction V using U9 with|USub=>rw[BQ h λa w h=>abf h λi e1 e2=>?_];subst e1 e2;rw[Zr<|j _ _ _ _ w _ _ _ _ _ _ _ _ _ D B x L λu y z G K=>?_,xE (Jx K) λt Fy=>A9 Fy ?_,neg_int<|P _ _ _ (G.trans<|Af.tok G.1) Gd]|Not=>rw[Gg h P λa w P=>Zr<|j _ _ _ _ w _ _ _ _ _ _ _ _ _ D B x L<|AU.bind P λa u y J z S G K M=>AU.Cw K M λb e M=>A9 e<|GX<|Ah<|MD<|B8<|AU.ok (v:=MV.bool<|!b) M (Af.refl G.1) ZR]|_=>rw[nn h])|BoolOp V es p=>rw[Kp h λDq h=>Gg h P λT w P=>A9 (arm_eval_BoolOp ..)<|oE j D B es w (λq=>Dq<|by rw[A9 q ?_];rfl) x L ?_];induction V using Qw<;>exact(AU.i8 P)|Compare e ops bs p=>rw[Kp h λhl h=>BQ h λa w h=>Gg h P λT I P=>vQ F j D B (J5.mp hl) w I x L<|AU.i8 (r:=_) ?_];rw[bH]at P;revert P;cases mE X.P C N a ρ H<;>exactλP=>P|IfExp t e1 e2 p=>rw[BQ h λa w h=>BQ h λb I h=>Gg h P λb' h3 P=>?_];(have M:AU X envs [] μ s (C5 X) (((mE X.P C N a ρ H).bind Cw).bind λt H=>if t=AG then mE X.P C N b ρ H else mE X.P C N b' ρ H) Q E:=by rw[k6]at P;revert P;cases mE X.P C N a ρ H<;>exactλP=>P);rw[wpAny_IfExp<|O _ _ _ _ w _ _ _ _ _ _ _ _ _ D B x L<|AU.bind M λt u y J z S G K Y=>?_];subst K;(induction t using BG with|true=>rw[j _ _ _ _ I _ _ _ _ _ _ _ _ _ D B G.1 (L.Bb x G) Y]|false=>rw[j _ _ _ _ h3 _ _ _ _ _ _ _ _ _ D B G.1 (L.Bb x G) Y])|List es p=>rw[Gg h P λT w P=>wpAny_List<|Us j D B w x L<|AU.bind P λvs us y J z S G K M=>TO G.1 (t:=z.toks) M K]|Tuple es k p=>rw[Gg h P λT w P=>wpAny_Tuple<|Us j D B w x L<|AU.bind P λvs us y J z S G K M=>Tp G.1 (t:=z.toks) M K]|Dict ks vs p=>rw[Kp h λhl h=>BQ h λkvs w h=>Gg h P λT I P=>mN j D B (N6 hl) w I x L P]|Attribute o m p=>rw[Kp h λR h=>BQ h λa w h=>Gg h P λk I P=>Attribute_any_ (j _ _ _ _ w _ _ _ _ _ _ _ _ _ D B x L<|AU.bind P λa u y J z S G K M=>qh F.1 F.2 G.1 (TC I) K M)<|oK<|RA R]|Subscript o i p=>rw[Ao (λW:∃a b c d,i= .Slice a b c d=>?_) λW=>?_];(·(rw[Ir W λlo up U q Ga=>?_];clear W;subst Ga);induction lo using C4 with|none=>(induction up using C4 with|none=>(induction U using C4 with|none=>rw[nn h]|some U=>rw[CB h λhm h=>Gg h P λa w P=>xl j D B w hm x L P])|some up=>induction U using C4 with|some=>rw[nn h]|none=>rw[BQ h λa w h=>Gg h P λb I P=>(kH j D B w I x L).2 P])|some lo=>induction up using C4 with|some=>rw[nn h]|none=>induction U using C4 with|some=>rw[nn h]|none=>rw[BQ h λa w h=>Gg h P λb I P=>(kH j D B w I x L).1 P]);rw[BQ (vt (λa b c d q=>W<|Nd a b c d q) h) λa w h=>Gg h P λb I P=>V3<|j _ _ _ _ w _ _ _ _ _ _ _ _ _ D B x L<|AU.bind P λa u y J z S G K M=>j _ _ _ _ I _ _ _ _ _ _ _ _ _ D B G.1 (L.Bb x G)<|AU.bind M λb v Z Ip Dc S A2 R2 Y=>(y9 D.Qh A2.1 (A2.rv G.1 C6.nil K) R2 Y).2]|Call g args ks pos=>(induction g using Cr with|Name f p=>(induction ks using An with|cons=>rw[nn h]|nil=>rw[zD F hO j D B h x L P])|Attribute o m q=>(induction ks using An with|cons=>rw[nn h]|nil=>rw[Kp h λR h=>?_];rw[not_or,not_or]at R;rw[BQ h λa w h=>BQ h λk I h=>Gg h P λT h3 P=>yG F.1 F.2 F.3 hO j D B (RA R.1) (N6 R.2.1) (RA R.2.2) w (TC I) h3 x L P])|_=>rw[nn h])|ListComp elt gens Bw p=>obtain⟨EF,iter,ifs,xs,src,T,c₀,rfl,ok,g1,g2,g3,g4,rfl⟩:=dF h;rw[eT F.1 F.3 j O D B ok g1 g2 g3 g4 x L P]|_=>rw[nn h]
end
section
open PySem PySem.W PySem.Calls PyProof.Rows
variable{X:Cx}{C:CF}{N:AE}{rz:AL}{d n:AE}{sc:Bt}{vm:VM}{A:Bq}{envs:AB Env}{env:Env}{μ:AB AQ}{H:MH}{s:Ae}{ρ:Loc}{Q E:AX->Ae->Prop}
theorem oZ(G:Dy X)(I:E6 X C N rz d n)(p:Ar X A d envs rz)(F:C3 env sc vm envs)(es:AB Expr):∀{cs}{f}{μ}{H}{s}{a}{u}{Q},Av (cE X.T n sc vm) es=AA cs->f.length=es.length->St X envs μ H s->B4 X env vm μ ρ s.heap->RV X.T.strs μ s.heap a u->AU X envs [] μ s Ey (HJ X.P C N a (f.map Hf) cs ρ H) Q E->Ab X.M A (testChain pos u f<|OG es env) Q E s:=by revert G I p F;intros _ X C N rz d n sc vm A envs env ρ E pos es _ G I p F;induction es with|nil=>intro cs f μ H s a u Q h k x L K P;(replace h:=AN h;subst h);(induction f using An with|nil=>rw[P.elim]|cons=>rw[nomatch k])|cons e es Z=>intro cs f μ H s a u Q h k x L K P;rw[C0 h λb bs W z O=>?_];clear h;subst O;induction f using An with|nil=>rw[nomatch k]|cons V f=>have k:=MC k;induction es using An with|nil=>(replace z:=AN z;subst z);(induction f using An with|cons=>rw[nomatch k]|nil=>rw[test_last<|I _ _ _ _ W _ _ _ _ _ _ _ _ _ p F x L<|AU.bind (P:AU X envs [] μ s Ey ((mE X.P C N b ρ H).bind λy H=>M' (Hf V) a y H) Q E) λb v o D w _ m R U=>Su (Q:=λc j=>Ab X.M A (truthy c) Q E j) G p.Qh m.1 (m.rv x C6.nil K) R<|iu U λr l q=>MD q])|cons e' es=>induction f using An with|nil=>rw[nomatch k]|cons M f=>rw[C0 z λi S h3 h4 O=>?_];subst O;rw[test_link<|I _ _ _ _ W _ _ _ _ _ _ _ _ _ p F x L<|AU.bind (P:AU X envs [] μ s Ey ((mE X.P C N b ρ H).bind λy H=>(M' (Hf V) a y H).bind λc H=>if c then HJ X.P C N y ((M::f).map Hf) (i::S) ρ H else .ok AH H) Q E) λb v o D w _ m R U=>Su G p.Qh m.1 (m.rv x C6.nil K) R<|AU.bind U λr t J Y j _ g T B=>?_];subst T;rw[MD ?_];induction r using BG with|true=>rw[Z z k g.1 ((L.Bb x m).Bb m.1 g) (g.rv m.1 C6.nil R) B]|false=>rw[AU.ok B (Af.refl g.1) A7]
theorem Sk{b:Type}{o:AO b}{f:b->CE}{c:CE}{G:Prop}{Q:AL->Ae->Prop}(h:o.map f=V c)(P:AU X envs [] μ s Ey ((mE X.P C N c ρ H).bind Cw) Q E)(k:∀a,o=V a->AU X envs [] μ s Ey ((mE X.P C N (f a) ρ H).bind Cw) Q E->G):G:=Bo h λa e g=>k a e<|g.symm▸P
def special:Expr->AL| .UnaryOp .Not _ _=>I| .BoolOp _ _ _=>I| .IfExp _ _ _ _=>I| .Compare _ _ _ _=>I|_=>T
set_option tactic.hygienic true in theorem yp(h:special e=T):isTrue e env b=(do let v<-b;N4 e.pos;RG [v] (truthy v)):=by
 induction e using Cr<;>first|rfl|(cases h;done)|skip
 rename_i c _ _;induction c using U9<;>first|rfl|rw[Jo h]
theorem o6:∀{X C N rz d n}(F:Facts X)(S:IY X C d rz)(m:E6 X C N rz d n)(f:Jv X C N rz d n),Jv X C N rz d<|n+1:=by intros X C N rz d n _ F S m f;intros sc vm e c _ h A envs env μ H s ρ Q E k j x L P;intros _ A envs env μ H s ρ Q E _ k j x L P;rw[Ao (λr:special e=T=>?_) λr=>?_,wpAny_isTrue_value ((gx F S m f) _ _ _ _ h _ _ _ _ _ _ _ _ _ k j x L<|AU.bind P λa u g y w G o B D=>Cp (nr o.1 B D) λb e _ q=>A9 e<|MD q)<|yp r];·induction e using Cr with|UnaryOp O e p=>(induction O using U9 with|Not=>rw[Sk h P λa z P=>?_];rw[t9]at P;rw[wpAny_isTrue_Not<|f _ _ _ _ z _ _ _ _ _ _ _ _ _ k j x L ?_];revert P;(cases mE X.P C N a ρ H with|bad=>rw[λP=>P]|exc=>rw[λP=>P]|ok v H1=>(induction v using MV.casesOn<;>first|rw[λP=>P]|skip);rw[λP u W s' A' R=>by subst R;rw[P _ _ _ A' A7]])|_=>rw[Aj A7 r])|BoolOp O i p=>rw[Kp h λ_ h=>Sk h P λU z P=>wpAny_isTrue_BoolOp<|zW f k j i z x L ?_];induction O using Qw<;>exact(AU.lD P)|Compare a M l p=>rw[Kp h λY h=>BQ h λV z h=>Sk h P λU J P=>?_];(have K:AU X envs [] μ s Ey ((mE X.P C N V ρ H).bind λv H=>HJ X.P C N v (M.map Hf) U ρ H) Q E:=by rw[AU.lD (r:=_) ?_];rw[bH]at P;revert P;cases mE X.P C N V ρ H<;>exactλP=>P);rw[A9 (arm_isTrue_Compare ..)<|A9 (ig _ _ _<|cq J)<|Ah<|m _ _ _ _ z _ _ _ _ _ _ _ _ _ k j x L<|AU.bind K λv u g y w G o B D=>oZ F.1 m k j l J (J5.mp Y) o.1 (L.Bb x o) B D]|IfExp t e1 e2 p=>rw[BQ h λa z h=>BQ h λb J h=>Sk h P λb' Z P=>?_];(have D:AU X envs [] μ s Ey (((mE X.P C N a ρ H).bind Cw).bind λt H=>(if t=I then mE X.P C N b ρ H else mE X.P C N b' ρ H).bind Cw) Q E:=by rw[k6]at P;revert P;cases mE X.P C N a ρ H with|bad=>rw[λP=>P]|exc=>rw[λP=>P]|ok v H1=>induction v using MV.casesOn<;>exactλP=>P);rw[A9 (arm_isTrue_IfExp ..)<|Ah<|f _ _ _ _ z _ _ _ _ _ _ _ _ _ k j x L<|AU.bind D λt u g y w G o B K=>?_];subst B;clear G;(induction t using BG with|true=>rw[f _ _ _ _ J _ _ _ _ _ _ _ _ _ k j o.1 (L.Bb x o) K]|false=>rw[f _ _ _ _ Z _ _ _ _ _ _ _ _ _ k j o.1 (L.Bb x o) K])|_=>rw[Aj A7 r]
theorem jF(F:Facts X)(c:IY X C d rz)(n:G):E6 X C N rz d n/\Jv X C N rz d n:=by induction n with|zero=>rw[⟨λZ Z Z Z h=>(nomatch h),λZ Z Z Z h=>(nomatch h)⟩]|succ n b=>rw[⟨gx F c b.1 b.2,o6 F c b.1 b.2⟩]
end
section
open PySem PySem.W PySem.Calls PyProof.Rows
variable{X:Cx}{C:CF}{N:AE}{rz:AL}{d n:AE}{sc:Bt}{vm:VM}{A:Bq}{envs:AB Env}{env:Env}{μ:AB AQ}{H:MH}{s:Ae}{ρ:Loc}{Q E:AX->Ae->Prop}
inductive nW(h:BC)(e:AQ)(oe:Obj)(vs:CI AX)(F8:AO AQ)(v3:AX)(h':BC):Prop
 |mk{QB:Obj}{Mm:CI AX}{T:AQ}{oT:Obj}{ts:CI AX}(obj:h'.get? e=V QB)(cls:QB.cls=oe.cls)(dict:QB.dict=oe.dict)(data:QB.data= .fields Mm)(size:Mm.size=vs.size)(ctx:Mm[2]?=vs[2]?)(b:Rg h' e Mm T oT ts v3)(old:h.get? T=AI\/V T=F8)
inductive Kx(h:BC)(fl:O AQ)(e:AQ)(oe:Obj)(vs:CI AX)(F8:AO AQ)(v3:AX)(h':BC):Prop
 |mk(keep:∀b o,h.get? b=V o->b≠e->V b≠F8->(b∉fl->h'.get? b=V o)/\(b∈fl->∃sl,h'.get? b=V {o with slots:=sl}))(obj:nW h e oe vs F8 v3 h')
theorem aaq(o:Obj)(f:CI AX->CI AX):(o.mapFields f).dict=o.dict:=by obtain⟨c,j,b,g⟩:=o;induction b using Mx<;>rfl
theorem y7{h:BC}(g:h.FunFrames a l)(k:b∈CW l){o:Obj}(f:h.get? b=V o):∀e,o.data≠.fields e:=by rw[Zs (g.mem k) λZ m c j=>?_];replace c:=f▸c;rw[U (AN c) ?_,j]
theorem cw:∀{A c s}{f:BC}{out:O Env}{L e:AQ}{j:Obj}{k:CI AX}{head:AX}{UH:AL}{Q:BF->Ae->Prop}{M:Model}{E:AX->Ae->Prop}(LV:A.frames=V (c::out))(m:s.heap.FunFrames f<|c::out)(t:c.frame=V L)(p:s.heap.get? e=V j)(l:j.data= .fields k)(i:1<k.size)(h:∀u,Kx s.heap (CW<|c::out) e j k AI (E3 L) u->Q () {s with heap:=u}),Ab M A (do let a<-frameOf c;let g<-entryPlaceOf L UH;let b<-Y6 head a .none (E3 L) .none g;setField (.ref e) 1 b) Q E s:=by
 intros A c s f out L e j k head UH Q M E _ LV m t p l i h;rw[Ah<|wpAny_frameOf_fun LV m t λEV SG=>Ah<|wpAny_entryPlaceOf λg gm=>?_];unfold Y6 newFields;rw[Ah<|LQ ?_<|gm.sizeOk5 _ _ _ _ _];have ew:EV.get? e=V j:=(SG.2.1 e (λx=>y7 m x p _ l:e∉CW (c::out))).trans p;have ly:=E4 (h:=EV) {cls:= .type "traceback",dict:=AI,data:= .fields ([head,.ref L,.none,E3 L,.none]++(if g.isEmpty then Ct 6 J8 else g)).toArray} ew;rw[SK ly l i<|h _ ?_];have c8:EV.objs.size≠e:=JL (Ds ew);have gP:=WJ l (·.setIfInBounds 1<|Ec EV.objs.size);have wU:=(F6 (EV.push {cls:= .type "traceback",dict:=AI,data:= .fields ([head,.ref L,.none,E3 L,.none]++(if g.isEmpty then Ct 6 J8 else g)).toArray}) (Np (·.setIfInBounds 1<|Ec EV.objs.size))<|DK c8).trans (Fz EV Y);have keep:∀b o,b≠e->EV.get? b=V o->((EV.push {cls:= .type "traceback",dict:=AI,data:= .fields ([head,.ref L,.none,E3 L,.none]++(if g.isEmpty then Ct 6 J8 else g)).toArray}).update e<|Np (·.setIfInBounds 1<|Ec EV.objs.size)).get? b=V o:=λb o OB r=>by rw[U (F6 _ _<|DK OB) ?_,E4 _ r]
 rw[⟨λb o v OB Z=>⟨λr=>keep b o OB<|(SG.2.1 b r).trans v,λZ=>?_⟩,.mk (JU (Np (·.setIfInBounds 1<|Ec EV.objs.size)) ly<|VV gP) (fM _ _) (aaq _ _) gP (by simp) (Array.getElem?_setIfInBounds_ne<|Nat.ne_of_beq_eq_false Y) ⟨by simp [i],c8,wU,Y,by first|(simp;done)|(rcases gm with rfl|⟨_,_,_,_,_,_,_,rfl⟩<;>simp)⟩<|.inl ?_⟩,xE (SG.2.2 b o v) λw y=>⟨w,keep b _ OB y⟩];·cases q:s.heap.get? EV.objs.size with|none=>rfl|some o=>rw[xE (SG.2.2 _ o q) λw z=>Aj (Ds z)<|GN _]
set_option tactic.hygienic true in theorem aaW{i:BC}{out:O Env}{L e T:AQ}{l r:Obj}{j m:CI AX}{head:AX}{UH:AL}{Q:BF->Ae->Prop}{M:Model}{E:AX->Ae->Prop}(LV:A.frames=V (env::out))(t:s.heap.FunFrames i<|env::out)(u:env.frame=V L)(v:s.heap.get? e=V l)(w:l.data= .fields j)(b:Rg s.heap e j T r m .none)(h:∀k,Kx s.heap (CW<|env::out) e l j (V T) (E3 L) k->Q () {s with heap:=k}):Ab M A (do let a<-frameOf env;let x<-entryPlaceOf L UH;let b<-Y6 head a .none (E3 L) .none x;setField (.ref e) 1 b) Q E {s with heap:=s.heap.update T (Np (·.setIfInBounds 3 J8))}:=by
 have f:∀b,b≠T->(s.heap.update T<|Np (·.setIfInBounds 3 J8)).get? b=s.heap.get? b:=λb g=>F6 _ _<|DK g;have zy:∀c o,s.heap.get? c=V o->(∀j,o.data≠.fields j)->c≠T:=λc o g Vi q=>by subst q;obtain rfl:=AN<|b.3.symm.trans g;rw[Vi m b.4]
 rw[cw LV (t.of_keeps λb o g Vi=>(Aa o ((f b<|zy b o g Vi).trans g) Y)) u ((f e<|DK b.2).trans v) w (RZ.mp b.1).1 λk n=>h k ⟨λc o y OB xP=>?_,?_⟩,n.1 c o ((f c λq=>xP<|A_ V q).trans y) OB λq=>nomatch q];·obtain⟨B,D,F,K,P,R,S,W⟩:=n.2;rename_i QB Mm p Z I;rw[.mk B D F K P R S ?_];by_cases q:p=T;rw[.inr<|A_ V q,.inl<|(f p q).symm.trans<|W.resolve_right λz=>nomatch z]
set_option tactic.hygienic true in theorem ab7:∀{X A a q s}{base:BC}{out:O Env}{L e:AQ}{l:Obj}{k:CI AX}{Q:BF->Ae->Prop}{M:Model}{E:AX->Ae->Prop}{f:BC}{c:O Env}(LV:A.frames=V (a::out))(p:s.heap.FunFrames base<|a::out)(m:a.frame=V L)(g:s.heap.get? e=V l)(i:l.data= .fields k)(r:du X c f q s.heap e k)(t:c.head?.bind (·.frame)=V L)(h:∀j F8,Kx s.heap (CW<|a::out) e l k F8 (E3 L) j->(∀T,F8=V T->k[1]?=V (.ref T))->Q () {s with heap:=j}),Ab M A (Ss (.ref e) a) Q E s:=by intros X A a q s base out L e l k Q M E f c _ LV p m g i r t h;unfold Ss;simp only [m];cases r with|none u=>rw[Ah<|Iq g i u<|U (AS<|by decide)<|cw LV p m g i (RZ.mp u).1 λj n=>h j AI n λT e=>nomatch e]| @some T D K v b _ _ _ x=>rw[Ah<|Iq g i b.1<|U (AM<|show(Ec T !=J8)=I from Y)<|Ah<|Iq b.3 b.4 b.5 ?_];rcases x with rfl|⟨F,y,rfl⟩;rw[U (AS<|show¬((J8==E3 L)=I)fromλz=>nb z)<|Ah<|SK b.3 b.4 (RZ.mp b.5).1<|aaW LV p m g i b λj n=>h j (V T) n λB e=>by obtain rfl:=AN e;rw[b.1]];·obtain rfl:=AN<|t.symm.trans y;rw[U (AM<|show(E3 L==E3 L)=I from by simp) ?_,B8<|h s.heap (V T) ⟨λb o w Z Z=>⟨λZ=>w,λZ=>⟨o.slots,w⟩⟩,.mk g Y Y i Y Y b<|.inr Y⟩ λB e=>by obtain rfl:=AN e;rw[b.1]]
theorem Ue{e}{r}{a}{T}{B}{w}{v}{p}{Q}{M}{E}{fl}(y:s.heap.get? e=V r)(z:r.data= .fields a)(b:Rg s.heap e a T B w v)(h:∀i,Kx s.heap fl e r a (V T) (p.elim .none λf=>E3 f) i->Q () {s with heap:=i}):Ab M A (QK (.ref e) p) Q E s:=by have j:3<w.size:=(RZ.mp b.5).1;have g:∀b,b≠T->(s.heap.update T<|Np (·.setIfInBounds 3<|p.elim J8 λf=>E3 f)).get? b=s.heap.get? b:=λb G=>F6 _ _<|DK G;have m:=WJ b.4 (·.setIfInBounds 3<|p.elim J8 λf=>E3 f);unfold QK;rw[Ah<|Iq y z b.1<|U (AM<|show(Ec T !=J8)=I from Y)<|SK b.3 b.4 j<|h _ ⟨λc o D F u=>?_,.mk ((g e<|DK b.2).trans y) Y Y z Y Y ⟨b.1,b.2,JU _ b.3<|VV m,m,by simp [j]⟩<|.inr Y⟩];have k:=(g c λq=>u<|A_ V q).trans D;rw[⟨λZ=>k,λZ=>⟨o.slots,k⟩⟩]
end
section
open PySem PySem.W PySem.Calls PyProof.Rows
variable{X:Cx}{C:CF}{N:AE}{rz:AL}{d n:AE}{sc:Bt}{vm:VM}{A:Bq}{envs:AB Env}{env:Env}{μ:AB AQ}{H:MH}{s:Ae}{ρ:Loc}{Q E:AX->Ae->Prop}
theorem B4.slots:∀{X t i K M h l}(L:B4 X i t K M h)(k:∀a∈CM i,∀o,h.get? a=V o->∃z,l.get? a=V {o with slots:=z})(T:F' h l),B4 X i t K M l:=by
 intros X t i K M h l _ L k T;rw[⟨L.1,L.2,?_,λn c j=>?_⟩];·injection L.3 with m _ B r;rw[(Aa m (Pa B λo e=>k _ (.head _) o e) λn x g y w p=>AY (r n x g y w p) λv a b=>(Aa v a<|b.mono (Bh.refl _) T))]
 intros _ n c _ j;rw[AY (L.4 n c j) λv f r=>AY f λo e q=>?_,xE (k c (NR _<|Ea.mpr<|Aa _ j Y) o e) λz F=>(Aa v (Aa _ F q) λD x g y w p=>AY (r D x g y w p) λu a b=>(Aa u a<|b.mono (Bh.refl _) T))]
inductive II(X:Cx)(h₀:BC)(μ:O AQ)(h:BC)(e:AQ)(F8:AO AQ):Prop
 |mk(Yh:h₀.get? e=AI)(em:e∉μ)(eb:X.base.get? e=AI)(eo:∃o vs,h.get? e=V o/\o.data= .fields vs)(t:∀T,F8=V T->h₀.get? T=AI/\T∉μ/\X.base.get? T=AI/\∃o vs,h.get? T=V o/\o.data= .fields vs)
theorem II.ne:∀{X j a h e F8 b o}(n:II X a j h e F8)(f:h.get? b=V o)(g:∀c,o.data≠.fields c),b≠e/\V b≠F8:=by
 intros X j a h e F8 b o _ n f g;rw[⟨λq=>?_,λq=>?_⟩];·rw[G3 n.4 λk c e1 i=>?_];subst q;obtain rfl:=AN<|e1.symm.trans f;rw[g c i]
 ·obtain⟨_,_,_,k,c,e1,i⟩:=n.5 b q.symm;obtain rfl:=AN<|e1.symm.trans f;rw[g c i]
theorem II.xG(n:II X c μ h e f)(g:c.get? b=V o):b≠e/\V b≠f:=⟨λq=>nn<|(q▸n.1:c.get? b=AI).symm.trans g,λq=>nn<|(n.5 b q.symm).1.symm.trans g⟩
theorem II.x8(n:II X f μ h e c)(g:X.base.get? b=V o):b≠e/\V b≠c:=⟨λq=>nn<|(q▸n.3:X.base.get? b=AI).symm.trans g,λq=>nn<|(n.5 b q.symm).2.2.1.symm.trans g⟩
theorem II.tu(n:II X g μ h e f)(u:Kx h (CW envs) e r a f k i)(v:∀b o,h.get? b=V o->Fc o->b∉CW envs):GY h i:=λb o j c=>by rw[xA (n.ne j λa q=>by rw[Om c λZ w n z=>nomatch z.symm.trans q]) λp m=>?_,(u.1 b o j p m).1<|v b o j c]
theorem Af.Pp:∀{X f t H s KA Qo ex u e F8 L F I}(g:Af X f ex KA Qo t H s)(n:II X Qo.heap t s.heap e F8)(h:Kx s.heap (CW f) e L F F8 I u),Af X f ex KA Qo t H {s with heap:=u}:=by
 intros X f t H s KA Qo ex u e F8 L F I _ g n h;have x:=g.1;rw[⟨⟨x.1,x.2,λi o a e1 Y=>?_,λb o j=>?_,x.5,λenv v=>?_,x.7,x.8,x.9,x.10,λp m=>⟨(x.11 p m).1,(x.11 p m).2.keep λo O Z=>(h.1 p o O (λz=>n.2<|z▸(x.11 p m).1) λz=>(n.5 p z.symm).2.1 (x.11 p m).1).1 λq=>x.7 p q (x.11 p m).1⟩⟩,g.2,λb o j=>?_⟩];·have r:=x.3 i o a e1 Y;rw[AY r.kind λox q Z=>?_];have K:=E7 Y;rw[r.mono (Bh.refl _) (n.tu h λb o j c=>x.Tn j c:GY s.heap u)<|U q<|(h.1 a ox q (λz=>n.2<|z▸K) λz=>(n.5 a z.symm).2.1 K).1 λm=>x.7 a m K]
 ·rw[xA (n.x8 j) λk l=>(h.1 b o (x.4 b o j) k l).1 λm=>AY (I2.mp m) λenv v hf=>HD (x.6 env v) λZ M w J G y P R S=>?_];obtain rfl:=AN<|hf.symm.trans y;rw[nn<|P.symm.trans j]
 rw[HD (x.6 env v) λa0 M w J G y P R S=>xA (n.ne R λF q=>nomatch S.symm.trans q) λk l=>xE ((h.1 M w R k l).2<|I2.mpr<|Aa env v y) λsl z=>(TB a0 M _ J G y P z S),xA (n.xG j) λk l=>Y' (g.3 b o j) λk1 k2 w V=>(BX (λB W D=>(h.1 b o (k1 B W D) k l).1 D) (λB W D=>?_)<|?_),xE (k2 B W D) λsl z=>xE ((h.1 b _ z k l).2 B) λiz T=>⟨iz,T⟩,Ao (λm:b∈CW f=>?_) λm=>?_,xE ((h.1 b _ V k l).2 m) λiz T=>⟨_,T⟩,⟨w,(h.1 b _ V k l).1 m⟩]
theorem B4.Pp(x:St X envs μ H s)(L:B4 X env vm μ ρ s.heap)(n:II X k μ s.heap e F8)(g:Kx s.heap (CW envs) e z h F8 B r):B4 X env vm μ ρ r:=by
 rw[L.slots (λa m o f=>?_) (n.tu g λb o t c=>x.Tn t c).t];have u:∀h,o.data≠.fields h:=λh q=>by induction m using Cu with|head D2=>subst D2;rw[AY L.3 λD Bf Z=>G9 Bf λw F K i d Z=>?_];obtain rfl:=AN<|i.symm.trans f;rw[nomatch d.symm.trans q]|tail m=>(rw[AY (Ea.mp m) λE9 y Fy=>?_];obtain⟨n,c⟩:=E9;clear m;subst Fy);rw[AY (L.4 n c y) λv Ga Z=>AY Ga λw i d=>?_];obtain rfl:=AN<|i.symm.trans f;rw[nomatch d.symm.trans q]
 rw[xA (n.ne f u) λl p=>Ao (λj:a∈CW envs=>?_) λj=>?_,(g.1 a o f l p).2 j,⟨o.slots,(g.1 a o f l p).1 j⟩]
theorem FW.at{c k e o h u a}(f:FW X envs c μ s.heap k e)(g:K7 X envs c μ s.heap k e o h u a){j}(p:∀T,j=V T->h[1]?=V (.ref T)):II X c μ s.heap e j:=by revert f g;intros _ X envs μ s c k e o h u a j _ p f g;rw[⟨f.1,f.2,f.3,(Kl o h g.1 g.3),λT q=>?_⟩];intros _ T _ q;have r:=p T q;cases g.7 with|none q=>rw[nomatch(r.symm.trans q)]|some b n m v _=>cases r.symm.trans b.1;rw[⟨n,m,v,_,_,b.3,b.4⟩]
inductive Zh(X:Cx)(envs:O Env)(h₀:BC)(μ:O AQ)(h:BC)(x:C_)(e:AQ)(v:AX):Prop
 |mk{oe:Obj}{vs:CI AX}{dx:AQ}{kvs:O (Am×AX)}{T:AQ}{oT:Obj}{ts:CI AX}(f:FW X envs h₀ μ h x e)(g:K7 X envs h₀ μ h x e oe vs dx kvs)(b:Rg h e vs T oT ts v)
set_option tactic.hygienic true in theorem FW.Pp:∀{X a t H s}{j:Ae}{r e F}{vs}{p h k}{y}{h'}(x:St X a t H s)(w:∀b,s.heap.get? b=AI->j.heap.get? b=AI)(m:∀b,j.heap.get? b=AI->b∉CW a)(f:FW X a j.heap t s.heap r e)(g:K7 X a j.heap t s.heap r e F vs p h)(n:II X j.heap t s.heap e k)(B:Kx s.heap (CW a) e F vs k y h')(J:VN a y),Zh X a j.heap t h' r e y:=by
 intros X a t H s j r e F vs p h k y h' _ x w m f g n B J;obtain⟨a1,a2,a3,l,i,Y,b,Z⟩:=B.2;rename_i v u T oT ts;have D:j.heap.get? T=AI/\T∉t/\X.base.get? T=AI:=by rw[Cz Z (λq=>?_) λq=>?_];(·rw[(BX (w T q) (JW x q)<|?_)];cases z:X.base.get? T with|none=>rfl|some o=>rw[nn<|q.symm.trans<|x.4 _ _ z]);rw[Fb (n.5 T q.symm) λW V U _=>(BX W V U)]
 rw[AY g.2 λP S R=>Dz (id g.11) λo es ep I _ M _=>xA (n.ne I λvs q=>nomatch M.symm.trans q) λL K=>?_];have G:K7 X a j.heap t h' r e v u p h:=⟨a1,(Aa P (a2.trans S) R),l,a3.trans g.4,i.symm▸g.5,Y.trans g.6,.some b D.1 D.2.1 D.2.2 J,g.8,g.9,g.10,Rq g.11 (((B.1 p o I L K).1<|m _ g.8).trans I.symm:h'.get? p=s.heap.get? p),g.12.mono (Bh.refl _) (n.tu B λb o O c=>x.Tn O c).t⟩;rw[.mk ⟨f.1,f.2,f.3,v,u,p,h,G⟩ G b]
abbrev Ff(X:Cx)(envs:O Env)(env:Env)(vm:VM)(ex μ:O AQ)(s:Ae)(x:C_)(ρ:Loc)(H:MH)(E:AX->Ae->Prop):Prop:=∀e Bd a,Af X envs ex μ s Bd H a->B4 X env vm Bd ρ a.heap->FW X envs s.heap Bd a.heap x e->E (.ref e) a
theorem Ff.after{o c ex}(m:St X envs j o c)(p:Af X envs ex j c μ H s)(D:B4 X env vm μ ρ s.heap)(f:FW X envs c.heap μ s.heap r e)(g:K7 X envs c.heap μ s.heap r e w h B i)(z:∀T,k=V T->h[1]?=V (.ref T))(v:Kx s.heap (CW envs) e w h k u a)(y:VN envs u):Af X envs ex j c μ H {s with heap:=a}/\B4 X env vm μ ρ a/\Zh X envs c.heap μ a r e u:=by have n:=f.at g z;rw[(BX (p.Pp n v) (D.Pp p.1 n v)<|FW.Pp p.1 (λb q=>p.HF q) (λb q=>Kg m q) f g n v y)]
theorem Ff.note {k} {q : MH} {j ex m} {L : AQ} (u : A.frames = V (env  :: m)) (v : env.frame = V L)  (p : St X (env :: m) k q j) {y B o}
   {G w : AX → Ae → Prop} (P : ∀ e c h,  Af X (env :: m) ex k j c B h →  B4 X env vm c o h.heap  → Zh X (env :: m) j.heap c h.heap  y e (E3 L) → G (.ref e) h)  :
   ∀ e c h,  Af X (env :: m) ex k j c B h →  B4 X env vm c o h.heap  → FW X (env :: m) j.heap c h.heap  y e → Ab X.M A (Ss (.ref e) env) (fun Z r => G (.ref e) r) w h :=  by
 intro e c h D  K f
 rw [Ir f.4 fun O M S F g => ab7 (base := X.base) u D.1.6.fun v g.1 g.3 g.7 v fun R z I J => DE (Ff.after p D K f g J I (.inr (Aa L v Y)))  fun a l b => P e c _ a l b]
theorem Ff.loop:∀{X i A h E c}{o:MH}{j ex k}{L:AQ}{w B p}(r:A.frames=V (h::k))(u:h.frame=V L)(m:St X (h::k) c o j)(P:Ff X (h::k) h i ex c j w p B E),Ff X (h::k) h i ex c j w p B<|Lz X.M A h<|Ux X.M A h E:=by intros X i A h E c o j ex k L w B p _ r u m P;rw[Ff.note (G:=Ux X.M A h E) r u m λe v K J I z=>?_];obtain⟨f,g,b⟩:=z;unfold Ux;rw[Ah<|Iq g.1 g.3 b.1<|U (AS<|by rw[λz=>nb z])<|U u<|Ue (fl:=CW<|h::k) g.1 g.3 b λM D=>?_];(rw[DE (Ff.after m J I f g (λO q=>by(replace q:=AN q;subst q);rw[b.1]) D<|.inr<|Aa L u Y) λa l y=>?_];obtain⟨F,_,_⟩:=y);rw[P e v _ a l F]
theorem Ff.leave{j}{w:MH}{c ex o}{L:AQ}(I:A.frames=V (env::o))(U:env.frame=V L)(u:St X (env::o) j w c){D h B}{G R:AX->Ae->Prop}(P:∀e k t,Af X (env::o) ex j c k h t->FW X (env::o) c.heap k t.heap D e->(∀(r:O Env),FW X r c.heap k t.heap D e)->G (.ref e) t):Ff X (env::o) env vm ex j c D B h λe t=>Ab X.M A (leaving env e) (λZ v=>G e v) R t:=by intro e k t K J f;unfold leaving;rw[Ah<|Ff.note (vm:=vm) (G:=λe t=>Ab X.M A (QK e AI) (λZ v=>G e v) R t) I U u (λe k t K J z=>?_) e k t K J f];obtain⟨f,g,b⟩:=z;rw[Ue (fl:=CW<|env::o) g.1 g.3 b λi T=>?_];(rw[DE (Ff.after u K J f g (λW q=>by(replace q:=AN q;subst q);rw[b.1]) T<|.inl Y) λa l F=>?_];obtain⟨y,p,M⟩:=F);rw[P e k _ a y λr=>⟨y.1,y.2,y.3,_,_,_,_,p.1,p.2,p.3,p.4,p.5,p.6,by cases p.7 with|none q=>rw[.none q]|some b n m S _=>cases b.1.symm.trans M.1;rw[.some M n m S<|.inl Y],p.8,p.9,p.10,p.11,p.12⟩]
end
section
open PySem PySem.W PySem.Calls PyProof.Rows
variable{X:Cx}{C:AL->CF}{N:AE}{rz:AL}{d n:AE}{sc:Bt}{vm:VM}{A:Bq}{envs out:AB Env}{env:Env}{μ:AB AQ}{H:MH}{s:Ae}{ρ:Loc}{Q:Flow->Ae->Prop}{E:AX->Ae->Prop}
def Ua(X:Cx)(μ:O AQ)(h:BC):CX->Flow->Prop| .next,f=>f= .next| .cont,f=>f= .cont| .ret a,f=>∃v,f= .ret v/\RV X.T.strs μ h a v
def B7(X:Cx)(envs:O Env)(env:Env)(vm:VM)(μ:O AQ)(s:Ae)(r:RS)(Q:Flow->Ae->Prop)(E:AX->Ae->Prop):Prop:=match r with| .bad=>BB| .ok f C2 g=>∀b Bd a,Af X envs (CM env) μ s Bd g a->B4 X env vm Bd C2 a.heap->Ua X Bd a.heap f b->Q b a| .exc x C2 g=>Ff X envs env vm (CM env) μ s x C2 g E
theorem B7.step(g:Af X envs (CM env) μ s c m j)(P:B7 X envs env vm μ s r Q E):B7 X envs env vm c j r Q E:=by induction r using RS.casesOn with|bad=>rw[P.elim]|ok f o y=>rw[λw k p v u R=>P w k p (g.trans v) u R]|exc x o y=>rw[λe k p v u F=>P e k p (g.trans v) u<|F.Z0 λb q=>g.HF q]
theorem B7.then{q z}{h:O AQ->BC->q->z->Prop}{r f B}(x:St X envs μ H s)(L:B4 X env vm μ ρ s.heap)(P:B7 X envs env vm μ s (r.then ρ f) Q E)(k:∀a b c j g,r= .ok a j->Af X envs [] μ s c j g->h c g.heap a b->B7 X envs env vm c g (f a j) Q E->B b g):AU X envs [] μ s h r B E:=by induction r using R.casesOn with|bad=>rw[P.elim]|ok v y=>rw[λu o w p R=>k v u o y w Y p R<|B7.step (r:=f v y) (p.mono λZ m=>nomatch m) P]|exc D y=>rw[λe o w p F=>P e o w (p.mono λZ m=>nomatch m) (L.Bb x p) F]
theorem B7.ok(P:B7 X envs env vm μ s (.ok f c g) Q E)(k:Af X envs (CM env) μ s b g a)(j:B4 X env vm b c a.heap)(R:Ua X b a.heap f h):Q h a:=P h b a k j R
theorem B7.seq(P:B7 X envs env vm μ s (r.seq f) Q E)(k:∀c g b a,Af X envs (CM env) μ s b g a->B4 X env vm b c a.heap->B7 X envs env vm b a (f c g) Q E->p .next a)(y:∀u a,Q (.ret u) a->p (.ret u) a)(w:∀a,Q .cont a->p .cont a):B7 X envs env vm μ s r p E:=by induction r using RS.casesOn with|bad=>rw[P]|exc z c g=>rw[P]|ok o c g=>induction o using CX.casesOn with|next=>rw[λo b a j m R=>by rw[U R<|k c g b a j m<|B7.step (r:=f c g) j P]]|cont=>rw[λo b a j m R=>by rw[U R<|w a<|P _ b a j m Y]]|ret v=>rw[λo b a j m R=>by(rw[AY R λu e q=>?_];clear R);rw[U e<|y u a<|P _ b a j m<|Aa u Y q]]
theorem B7.opt{c:Type}{o:AO c}{f:c->MH->RS}{b:MH}{G:Prop}(P:B7 X envs env vm μ s ((BW b o).then ρ f) Q E)(k:∀a,o=V a->B7 X envs env vm μ s (f a b) Q E->G):G:=by induction o using C4 with|none=>rw[P.elim]|some a=>rw[k a Y P]
theorem B7.W_{p:Prop}{i:Dh p}{r:RS}{G:Prop}(P:B7 X envs env vm μ s (if p then .bad else r) Q E)(k:¬p->B7 X envs env vm μ s r Q E->G):G:=by
 by_cases q:p;·rw[AM q]at P;rw[P.elim]
 ·rw[AS q]at P;rw[k q P]
def Hm(X:Cx)(C:AL->CF)(N d n:G):Prop:=∀(rz:AL)(sc:Bt)(vm:VM)(st:Fe)(c:CS),cS X.T n sc vm st=V c->∀(A:Bq)(out:O Env)(env:Env)(μ:O AQ)(H:MH)(s:Ae)(ρ:Loc)(Q:Flow->Ae->Prop)(E:AX->Ae->Prop),Ar X A d (env::out) rz->C3 env sc vm (env::out)->(∃L,env.frame=V L)->St X (env::out) μ H s->B4 X env vm μ ρ s.heap->B7 X (env::out) env vm μ s (mS X.P C N c rz ρ H) Q E->Ab X.M A (Fh st env) Q E s
theorem sV(b:C3 env sc vm envs):S4 env=T:=by unfold S4;rw[U b.1 ?_];rfl
theorem av(h:∀a b c d,e≠.ListComp a b c d)(f:cE g n sc vm e=V c):TQ e t l env=pure T:=by induction e using Cr<;>first|rfl|rw[Aj Y<|h _ _ _ _]|(induction n using CV<;>exact nn f)
theorem N7(B:Hm X C N d n)(p:Ar X A d (env::out) rz)(o:C3 env sc vm<|env::out)(m:∃a,env.frame=V a)(c:O Fe):∀{i e H s l},Av (cS X.T n sc vm) c=V i->St X (env::out) e H s->B4 X env vm e l s.heap->B7 X (env::out) env vm e s (CP X.P C N i rz l H) Q E->Ab X.M A (execs c env) Q E s:=by induction c with|nil=>intro i e H s l h x a P;(replace h:=AN h;subst h);rw[Qp<|B7.ok P (Af.refl x) a Y]|cons F c k=>intro i e H s l h x a P;rw[C0 h λb G v r w=>?_];clear h;subst w;rw[SU<|B rz _ _ _ _ v _ _ _ _ _ _ _ _ _ p o m x a<|B7.seq P (λg I j f D z y=>k r D.1 z y) (λu f q=>q) λf q=>q]
inductive I0(X:Cx)(C:AL->CF)(N d:G):Prop
 |mk(f:Facts X)(o:∀rz,IY X (C rz) d rz)
theorem I0.e(F:I0 X C N d){a n}:E6 X (C a) N a d n:=(jF F.1 (F.2 a) n).1
theorem I0.t(F:I0 X C N d){a n}:Jv X (C a) N a d n:=(jF F.1 (F.2 a) n).2
section
variable(F:I0 X C N d)(hA:Ar X A d (env::out) rz)(he:C3 env sc vm<|env::out)(hf:∃L,env.frame=AA L)(x:St X (env::out) μ H s)(L:B4 X env vm μ ρ s.heap)
include F hA he x L
theorem r7{e}{c:CE}{i}(g:∀a b c d,e≠.ListComp a b c d)(h:cE X.T n sc vm e=V c)(P:B7 X (env::out) env vm μ s (mS X.P C N (.expr c) rz ρ H) Q E):Ab X.M A (Fh (.Expr e i) env) Q E s:=by rw[wpAny_Expr_any (F.e _ _ _ _ h _ _ _ _ _ _ _ _ _ hA he x L<|B7.then x L P λa b f k j p m q o=>o.ok (Af.refl m.1) (L.Bb x m) Y) (sV he)<|av g h]
theorem pW(P:B7 X (env::out) env vm μ s (mS X.P C N .cont rz ρ H) Q E):Ab X.M A (Fh (.Continue a) env) Q E s:=wpAny_Continue<|B7.ok P (Af.refl x) L Y
theorem za{e}{c:CE}{i}(h:cE X.T n sc vm e=V c)(P:B7 X (env::out) env vm μ s (mS X.P C N (.ret c) rz ρ H) Q E):Ab X.M A (Fh (.Return (V e) i) env) Q E s:=by rw[wpAny_Return_some<|F.e _ _ _ _ h _ _ _ _ _ _ _ _ _ hA he x L<|B7.then x L P λa b f j g p k m o=>o.ok (Af.refl k.1) (L.Bb x k)<|Aa b Y m]
theorem lU(q:isVar sc nm=I)(r:vm.lookup nm=V k)(o:Af X (env::out) [] μ s c g f)(w:RV X.T.strs c f.heap v u)(P:B7 X (env::out) env vm c f (.ok .next (upd ρ k v) g) Q E):Ab X.M A (Uy env nm u) (λZ=>Q .next) E f:=by rw[Ny he o.1 (L.Bb x o) q r w λj a p Z z y=>P.ok (z.mono λb m=>by rw[U (B3.mp m) p]) y Y]
theorem pw{e}{c:CE}{nm p i k}(g:∀a b c d,e≠.ListComp a b c d)(o:isVar sc nm=I)(q:vm.lookup nm=V k)(h:cE X.T n sc vm e=V c)(P:B7 X (env::out) env vm μ s (mS X.P C N (.asg k c) rz ρ H) Q E):Ab X.M A (Fh (.Assign [.Name nm p] e i) env) Q E s:=by rw[kh (F.e _ _ _ _ h _ _ _ _ _ _ _ _ _ hA he x L<|B7.then x L P λa b f m j w v r u=>lU F hA he x L o q v r u)<|av g h]
theorem aaS{g}{w I f:Expr}{G cp p pos nm}{k:AE}{v xs K cs}{c:CE}(hv:isVar sc nm=AG)(hk:vm.lookup nm=AA k)(M:Ic sc vm g v w)(hT:IJ g v w=AA xs)(u:Av (cE X.T n sc vm) (srcOf sc f).2=AA K)(O:Av (cE X.T n g v) G=AA cs)(hc:cE X.T n g v I=AA c)(P:B7 X (env::out) env vm μ s (mS X.P C N (.asg k<|.comp c xs.1 xs.2 (srcOf sc f).1 K cs) rz ρ H) Q E):Ab X.M A (Fh (.Assign [.Name nm p] (.ListComp I [⟨w,f,G,0⟩] g cp) pos) env) Q E s:=by rw[wI]at P;obtain⟨b,hb⟩:∃b,TQ (.ListComp I [⟨w,f,G,0⟩] g cp) (AA<|.Name nm p) pos.line env=pure b:=⟨_,A7⟩;induction b using BG with|false=>rw[kh (eT F.1.1 F.1.3 F.e F.t hA he M hT u O hc x L<|B7.then x L P λa b j D B e0 T R1 P1=>lU F hA he x L hv hk T R1 P1) hb]|true=>rw[A9 (exec_Assign_Name_used _ _ _ _ hb)<|Ah<|Le<|Ah<|A9 (arm_evalThenUse_ListComp ..) ?_,Ah<|EY (bx (use:=AA<|Ke (.Name nm p) env) (Q:=λ_ J=>Q .next J) A7 (Ws u) (cF λy m e=>(Mg he M y m e).2) M.1 (λy m e=>by rw[A9 (M.4 y m)<|A9 e A7])<|jV F.1.1 F.1.3 F.e F.t hA he M hT u O hc x L (RR:=λt Ca r J=>compPost X.M A E (AA<|Ke (.Name nm p) env) (λ_ J=>Q .next J) t Ca r J)<|B7.then x L P λmv V j D B e0 T R1 P1=>?_) (λ_ J hq=>B8<|B8 hq) λ_ _ e=>e,kP R1 λrv LC fC m hm=>?_];(have R:∀a∈CM env,a≠V.2:=λa U q=>by rw[AY (P7 L U) λo e _=>nn<|(q▸fC:s.heap.get? a=AI).symm.trans e]);show Ab X.M A (Ke (.Name nm p) env V.1) _ E B;rw[Xe<|Ny he T.1 (L.Bb x T) hv hk rv λz a U _ A2 L2=>xA (LC.Bb A2 λb W q=>R a U<|by rw[B3.mp W]at q;rw[(B3.mp q).symm]) λS Y=>(Aa m (hm.at' λo e=>(Y _<|.head _).trans e) λl i=>?_)];have Z:∀b o,z.heap.get? b=AA o->b∉[V.2]->l.get? b=AA o:=λb o e nb=>(i.2 b λq=>nb<|q▸.head _).trans e;rw[e0]at P;rw[(P:B7 X (env::out) env vm μ s (.ok .next (upd ρ k mv) D) Q E).ok ((((T.mono (ex':=CM env) λ_ m=>nomatch m).trans<|A2.mono (ex':=CM env) λb m=>by rw[A9 (B3.mp m) U])).drop S (λa m=>by rw[A9 (B3.mp m) fC]) Z) (L2.slots (λb W o e=>⟨o.slots,Z b o e λq=>R b W<|B3.mp q⟩) (λa Vj n i2=>Z a _ i2 λq=>S.Gx a q _ i2<|N5 A7 _ _ A7:F' z.heap l):B4 X env vm j (upd ρ k mv) l) A7]
end
end
section
open PySem PySem.W PySem.Calls PyProof.Rows
variable{X:Cx}{C:AL->CF}{N:AE}{rz:AL}{d n:AE}{sc:Bt}{vm:VM}{A:Bq}{envs out:AB Env}{env:Env}{μ:AB AQ}{H:MH}{s:Ae}{ρ:Loc}{Q:Flow->Ae->Prop}{E:AX->Ae->Prop}
theorem vP:∀{X sc i A f c g H E}{ns:O Am}(F:C3 c sc i f),∀{l:O G}{o:O MV}{p:O AX}{q C2:Loc}{s:Ae}{Q:BF->Ae->Prop},(∀nm∈ns,isVar sc nm=I)->Av (λnm=>i.lookup nm) ns=V l->FH q l o=V C2->St X f g H s->B4 X c i g q s.heap->Ax X.T.strs g s.heap o p->(∀j,Af X f (CM c) g s g H j->B4 X c i g C2 j.heap->Q () j)->Ab X.M A (YY (ns.map λnm=>bindName c nm) p) Q E s:=by intros X sc i A f c g H E ns _ F;induction ns with|nil=>intro l o p q C2 s Q w h t x L r P;obtain rfl:=AN h;rw[Im t (λZ e1 B=>?_) λZ Z Z Z e=>nomatch e];subst e1 B;obtain rfl:=LL r;rw[aC<|P s (Af.refl x) L]|cons nm ns R=>intro l o p q C2 s Q w h t x L r P;rw[C0 h λk ks S W K=>Im t (λz=>nomatch z.symm.trans K) λk' G8 v Mm e1 B VZ=>?_];obtain⟨rfl,rfl⟩:=Cs<|K.symm.trans e1;clear t;subst B;(rw[By (JI r) λu mT BL T Y=>?_];clear r;subst BL);rw[kB (t:=λv=>bindName c nm v)<|wpAny_bindName<|Ny F x L (w nm<|.head _) S T λBs a M hl D J=>R (λy m=>w y<|.tail _ m) W VZ D.1 J (Y.mono (Bh.refl _) (D.tu x (λb m=>LU L b<|by rw[U (B3.mp m) M]:C6 s.heap [a])).t) λj A2 L2=>P j ((D.mono λb m=>by rw[U (B3.mp m) M]).trans A2) L2]
theorem g7:∀{a}{t b},FH t l a=V b->l.Nodup->∀(i:G)(x:G)(v:MV),l[i]?=V x->a[i]?=V v->b x=V v:=by induction l with|nil=>intro a t b _ _ i x v h _;rw[nn h]|cons y l q=>intro a t b h g i x v c f;rw[Im h (λe=>(by cases e)) λz o w p u r m=>?_];(rw[xA (Cs u) λk j=>?_];clear u;subst k;subst j);clear h;subst r;have g:=DF.mp g;induction i using CV with|zero=>(replace c:=AN c;subst c);(replace f:=AN f;subst f);rw[(V1 m g.1).trans<|AM Y]|succ i=>rw[q m g.2 i x v c f]
theorem aa8:∀{a}{ρ},f.length=a.length->∃b,FH ρ f a=V b:=by induction f with|nil=>intro a ρ h;(induction a using An with|nil=>rw[⟨ρ,Y⟩]|cons=>rw[(by cases h)])|cons y f c=>intro a ρ h;induction a using An with|nil=>rw[(by cases h)]|cons w a=>rw[c (ρ:=upd ρ y w)<|MC h]
theorem tM:∀{a}{b}{c C2}(h:FH c a b=V C2)(g:a.Nodup),∃S3,FH c a.reverse b.reverse=V S3/\∀x v,C2 x=V v->S3 x=V v:=by
 intros a b c C2 _ h g;have j:=Tz h;injection aa8 (ρ:=c)<|(by simp [j]:a.reverse.length=b.reverse.length)with S3 _ k;rw[(Aa S3 k λx v l=>Ao (λm:x∈a=>?_) λm=>?_)];·obtain⟨i,f,e⟩:=TX m;have YP:i<b.length:=j▸f;(have e1:a[i]?=V x:=by rw[U (Cm f)<|U e Y]);have o:b[i]?=V b[i]:=Cm YP;obtain rfl:=AN<|l.symm.trans<|g7 h g i x _ e1 o;rw[g7 k (List.pairwise_reverse.mpr<|g.imp λq=>DK q) (a.length-1-i) x _ ?_ ?_,U (Vn<|kg f)<|U (jf<|QA f) ?_,e1,U j<|U (Vn<|kg YP)<|U (jf<|QA YP) ?_,o]
 rw[U (V1 k λq=>m<|Yk.mp q)<|Ag (V1 h m) l]
theorem uj:TQ e (V<|.Tuple a k p) l env=pure T:=by induction e using Cr<;>rfl
theorem aaQ:∀{g}{a:O Expr}(c:∀e y,g e=V y->Kw e=[y]),(a.filterMap g).length=a.length->a.filterMap g=a.flatMap Kw:=by intros g a _ c;induction a with|nil=>intro _;rfl|cons e a b=>intros _ e a _ b;intro h;cases q:g e with|some y=>rw[Nn,q]at h⊢;rw[U List.flatMap_cons<|U (c e y q)<|U (b<|MC h) ?_];rfl|none=>rw[Nn,q]at h;rw[Aj (List.length_filterMap_le g a)<|IZ.mpr<|by rw[U ((h:(a.filterMap g).length=a.length+1))<|JG _]]
theorem lM{f:Type}{p:Prop}{i:Dh p}{a b c d:f}(j:a=c\/a=d)(g:b=c\/b=d):(if p then a else b)=c\/(if p then a else b)=d:=by rw[Ao (λq:p=>?_) λq=>?_,U (AM q) j,U (AS q) g]
theorem Xa{f:Type}{p:Prop}{i:Dh p}{a b c d:f}(j:p->a=c\/a=d)(g:¬p->b=c\/b=d):(if p then a else b)=c\/(if p then a else b)=d:=by by_cases q:p;rw[U (AM q)<|j q,U (AS q)<|g q]
theorem y3:∀{env}{es:O Expr}{k:G}{p:Pos}{e:Expr}(b:We e=T),swappedStores [.Tuple es k p] e env=pure AI\/swappedStores [.Tuple es k p] e env=pure (V<|Js<|.Tuple es k p):=by
 intros env es k p e _ b;rw[Ao (λf:∃c m j,e= .Tuple c m j=>?_) λf=>?_];·(injection f with c m j _ g;clear f;subst g);have b:(c.all (constantsAlone 8)&& !c.all (foldedForSure 8))=T:=b;rw[lM (.inl Y)<|lM (.inl Y)<|Xa (λZ=> .inl Y) λo=>Xa (λZ=> .inl Y) λu=>Xa (λv=>?_) λZ=> .inr ?_];(·rw[v,Ki,gK]at b;rw[Aj b u]);·rw[SD,not_or]at o;rw[A_ (λl=>(pure<|V l:Sem<|AO<|O Am))<|aaQ (λe y q=>?_)<|J5.mp λz=>o.1<|OZ.mpr z];induction e using Cr with|Name w r=>rw[CB q λZ q=>A_ (λz=>[z])<|AN q]|_=>rw[nn q]
 ·left;clear b;induction e using Cr<;>first|rfl|rw[Aj ⟨_,_,_,Y⟩ f]
end
section
open PySem PySem.W PySem.Calls PyProof.Rows
variable{X:Cx}{C:AL->CF}{N:AE}{rz:AL}{d n:AE}{sc:Bt}{vm:VM}{A:Bq}{envs out:AB Env}{env:Env}{μ:AB AQ}{H:MH}{s:Ae}{ρ:Loc}{Q:Flow->Ae->Prop}{E:AX->Ae->Prop}
theorem tV:∀{a},Av (λnm=>vm.lookup nm) f=V a->k∈a->∃y∈f,vm.lookup y=V k:=by induction f with|nil=>intro a h m;obtain rfl:=AN h;rw[nomatch m]|cons y f b=>intro a h m;rw[C0 h λo c g i e=>?_];clear h;subst e;induction m using Cu with|head D2=>rw[U D2<|(Aa y (.head _) g)]|tail m=>rw[AY (b i m) λz j l=>(Aa z (.tail _ j) l)]
theorem Ni(h:f a=V b)(c:Av f r=V g):Av f (a::r)=V (b::g):=by show((f a).bind λb=>(Av f r).map λg=>b::g)=_;rw[U h<|U c ?_];rfl
theorem qJ(q:∀n j x,vm.lookup n=V x->vm.lookup j=V x->n=j):∀{f},Av (GK sc vm) g=V f->(g.flatMap Kw).Nodup->f.Nodup/\Av (λnm=>vm.lookup nm) (g.flatMap Kw)=V f/\∀nm∈g.flatMap Kw,isVar sc nm=I:=by induction g with|nil=>intro f h _;obtain rfl:=AN h;rw[(BX .nil Y λZ m=>nomatch m)]|cons e g r=>intro f h i;rw[C0 h λk G8 l t u=>U u ?_];(rw[By (Nb l) λnm p BL v o=>?_];clear h l;subst BL);have i:=DF.mp i;rw[DE (r t i.2) λa b c=>(BX (DF.mpr ⟨λm=>?_,a⟩) (Ni o b) λy m=>?_),AY (tV b m) λy w z=>i.1<|q nm y k o z▸w];·induction m using Cu with|head D2=>rw[U D2 v]|tail m=>rw[c y m]
theorem oj(l:Av f c=V i):∀{g},Av f j=V g->Av f (j++c)=V (g++i):=by induction j with|nil=>intro g h;(replace h:=AN h;subst h);rw[l]|cons a j k=>intro g h;rw[C0 h λb p o m e=>by rw[U e<|Ni o<|k m]]
theorem zG:∀{c},Av f g=V c->Av f g.reverse=V c.reverse:=by induction g with|nil=>intro c h;(replace h:=AN h;subst h);rfl|cons a g j=>intro c h;rw[C0 h λb o m k e=>U e<|U I1<|U I1<|oj (Ni m Y)<|j k]
section
variable(F:I0 X C N d)(hA:Ar X A d (env::out) rz)(he:C3 env sc vm<|env::out)(hf:∃L,env.frame=AA L)(x:St X (env::out) μ H s)(L:B4 X env vm μ ρ s.heap)
include F hA he x L
theorem z5(hb:We e=AH)(G:(Js<|.Tuple es 0 default).Nodup)(K:Av (GK sc vm) es=AA ks)(h:cE X.T n sc vm e=AA c)(P:B7 X (env::out) env vm μ s (mS X.P C N (.FP ks c) rz ρ H) Q E):Ab X.M A (Fh (.Assign [.Tuple es k p] e pos) env) Q E s:=by
 have M:=hA.5;rw[U (arm_exec_Assign ..)<|Ah<|Le<|Ah<|U (show swapsWithSole [.Tuple es k p] e pos.line env=pure AH from(uj:TQ e (AA<|.Tuple es k p) pos.line env=pure AH))<|B8<|U (AS<|by decide)<|Ah<|F.e _ _ _ _ h _ _ _ _ _ _ _ _ _ hA he x L<|B7.then x L P λv u w T f e0 a O P1=>?_];have S:=L.Bb x a;have b:=a.1;rw[B7.opt P1 λV j R=>?_];rcases y3 (k:=k) (p:=p) (es:=es) (env:=env) hb with q|q<;>refine U q ?_;·rw[Ah<|B8 ?_];unfold assignStores;rw[Ah ?_];show Ab X.M A (Ke (.Tuple es k p) env u) _ E f;rw[Wb M he (xs:=(ks,AG)) (by show(Av (GK sc vm) es).map (λns=>(ns,AG))=_;rw[U K ?_];rfl) j b S O λs' ex D o L2=>B8<|B7.ok R (o.mono D.1) L2 A7]
 ·rw[Ah<|B8 ?_];clear e0 P1;induction v using MV.casesOn with|tup l=>rw[Dz (Ih O) λt g n' B it z r=>U B ?_,DE (qJ he.8 K G) λi J Z=>?_];unfold assignStores;rw[Ah<|wpAny_rule<|Ah<|U (show(Js<|.Tuple es k p).length=g.size by rw[show g.size=l.length from r.length,<-Tz j,Zp J]at⊢;rfl) ?_,cj (Ar.at M b) (HK it) λh' hx=>?_];have o:=Af.I9 b (h':=h') (t:=f.toks) (d:=f.drawn) hx;rw[AY (tM j i) λI Y W=>?_,Ah<|vP he (ns:=(Js<|.Tuple es k p).reverse) (λy m=>Z y<|Yk.mp m) (zG J) Y o.1 (S.Bb b o) ((r.mono (Bh.refl _) (o.tu b C6.nil).t).reverse) λs' A3 L3=>B8<|B7.ok R ((o.mono λ_ m=>nomatch m).trans A3) (L3.less W) A7]|_=>rw[nn j]
theorem r_(M:cE X.T n sc vm o=V B)(K:X.T.strs[k]?=V nm)(h:cE X.T n sc vm e=V c)(P:B7 X (env::out) env vm μ s (mS X.P C N (.Fi B k c) rz ρ H) Q E):Ab X.M A (Fh (.Assign [.Attribute o nm p] e l) env) Q E s:=by rw[kT (F.e _ _ _ _ h _ _ _ _ _ _ _ _ _ hA he x L<|B7.then x L P λv u j G z O b S T=>?_)<|by clear h;induction e using Cr<;>rfl];have r:=L.Bb x b;rw[F.e _ _ _ _ M _ _ _ _ _ _ _ _ _ hA he b.1 r<|B7.then b.1 r T λa w g D y O f R q=>B7.opt q λi J q=>abo F.1.1 F.1.2 f.1 K R (f.rv b.1 C6.nil S) J λU I=>B7.ok q (I.mono λZ m=>nomatch m) ((r.Bb b.1 f).Bb f.1 I) Y]
theorem nL(Y:cE X.T n sc vm o=AA M)(W:cE X.T n sc vm i=AA zqz)(h:cE X.T n sc vm e=AA c)(P:B7 X (env::out) env vm μ s (mS X.P C N (.Ka M zqz c) rz ρ H) Q E):Ab X.M A (Fh (.Assign [.Subscript o i p] e pos) env) Q E s:=by rw[wpAny_Assign_Subscript (F.e _ _ _ _ h _ _ _ _ _ _ _ _ _ hA he x L<|B7.then x L P λv u r T J K j t P1=>?_)<|by clear h;induction e using Cr<;>rfl];have D:=L.Bb x j;rw[F.e _ _ _ _ Y _ _ _ _ _ _ _ _ _ hA he j.1 D<|B7.then j.1 D P1 λa w q S I K f l P2=>?_];have B:=D.Bb j.1 f;rw[F.e _ _ _ _ W _ _ _ _ _ _ _ _ _ hA he f.1 B<|B7.then f.1 B P2 λb y k R G K g Z z=>B7.opt z λH' V z=>tP g.1 (g.rv f.1 C6.nil l) Z (g.rv f.1 C6.nil<|f.rv j.1 C6.nil t) V λs' U=>B7.ok z (U.mono λ_ m=>nomatch m) ((B.Bb f.1 g).Bb g.1 U) A7]
theorem mM(r:Hm X C N d n)(p:∃L,env.frame=V L)(B:cE X.T n sc vm t=V c)(z:Av (cS X.T n sc vm) b=V k)(y:Av (cS X.T n sc vm) o=V j)(P:B7 X (env::out) env vm μ s (mS X.P C N (.ifs c k j) rz ρ H) Q E):Ab X.M A (Fh (.If t b o a) env) Q E s:=by
 rw[mP]at P;have G:B7 X (env::out) env vm μ s (((mE X.P (C rz) N c ρ H).bind Cw).then ρ λb H=>if b then CP X.P C N k rz ρ H else CP X.P C N j rz ρ H) Q E:=by revert P;cases mE X.P (C rz) N c ρ H with|bad=>rw[λP=>P]|exc=>rw[λP=>P]|ok v J=>induction v using MV.casesOn<;>exactλP=>P
 rw[wpAny_If<|F.t _ _ _ _ B _ _ _ _ _ _ _ _ _ hA he x L<|B7.then x L G λv u g w m I f D q=>?_];subst D;clear I;induction v using BG with|true=>rw[N7 r hA he p b z f.1 (L.Bb x f) q]|false=>rw[N7 r hA he p o y f.1 (L.Bb x f) q]
end
end
section
open PySem PySem.W PySem.Calls PyProof.Rows
variable{X:Cx}{C:AL->CF}{N:AE}{rz:AL}{d n:AE}{sc:Bt}{vm:VM}{A:Bq}{envs out:AB Env}{env:Env}{μ:AB AQ}{H:MH}{s:Ae}{ρ:Loc}{Q:Flow->Ae->Prop}{E:AX->Ae->Prop}
theorem B7.loop(c:A.frames=V (env::out))(g:env.frame=V a)(x:St X (env::out) μ H s)(P:B7 X (env::out) env vm μ s r Q E):B7 X (env::out) env vm μ s r Q<|Lz X.M A env<|Ux X.M A env E:=by induction r using RS.casesOn with|bad=>rw[P]|ok f b j=>rw[P]|exc k b j=>rw[Ff.loop c g x P]
theorem B7.body(K:Af X envs (CM env) μ s j a h)(P:B7 X envs env vm μ s (r.go.seq f) Q E)(I:B7 X envs env vm j h (r.go.seq f) Q D)(k:∀g o b c,Af X envs (CM env) j h b o c->B4 X env vm b g c.heap->B7 X envs env vm μ s (f g o) Q E->p .next c)(G:∀u c,Q (.ret u) c->p (.ret u) c)(F:∀c,p .next c->p .cont c):B7 X envs env vm j h r p D:=by induction r using RS.casesOn with|bad=>rw[P.elim]|exc L g o=>rw[I]|ok B g o=>clear I;induction B using CX.casesOn with|next=>rw[λB b c z y m=>by rw[U m<|k g o b c z y P]]|cont=>rw[λB b c z y m=>by rw[U m<|F c<|k g o b c z y P]]|ret v=>rw[λB b c z y m=>by(rw[AY m λw e q=>?_];clear m);rw[U e<|G w c<|P _ b c (K.trans z) y<|Aa w Y q]]
inductive qQ(X:Cx)(envs:O Env)(env:Env)(vm:VM)(μ:O AQ)(s:Ae)(t:Loc->MH->Mine.Internal.R AL)(b:Loc->MH->RS)(Q:Flow->Ae->Prop)(E:AX->Ae->Prop)(k:G)(s':Ae):Prop
 |mk{Bd:O AQ}{H':MH}{C2:Loc}(A:Af X envs (CM env) μ s Bd H' s')(L:B4 X env vm Bd C2 s'.heap)(P:B7 X envs env vm μ s (Nq t b k C2 H') Q E)
section
variable(F:I0 X C N d)(hA:Ar X A d (env::out) rz)(he:C3 env sc vm<|env::out)(hf:∃L,env.frame=AA L)(x:St X (env::out) μ H s)(L:B4 X env vm μ ρ s.heap)
include F hA he hf x L
set_option tactic.hygienic true in theorem xU(D:Hm X C N d n){t b c y h}(K:cE X.T n sc vm t=V c)(J:Av (cS X.T n sc vm) b=V y)(P:B7 X (env::out) env vm μ s (mS X.P C N (.JY c y) rz ρ H) Q E):Ab X.M A (Fh (.While t b [] h) env) Q E s:=by revert F hA he hf x L D;intros _ X C N rz d n sc vm A out env μ H s ρ Q E t b c y h _ K J P F hA he hf x L D;rw[xE hf λl p=>wpAny_While<|codeAny_whileLoop (qQ X (env::out) env vm μ s (λρ H=>(mE X.P (C rz) N c ρ H).bind Cw) (λρ H=>CP X.P C N y rz ρ H) Q E) ?_ N<|.mk (Af.refl x) L P];rintro k s'⟨w,B,j⟩;rename_i T O g;induction k using CV with|zero=>rw[j.elim]|succ k=>rw[F.t _ _ _ _ K _ _ _ _ _ _ _ _ _ hA he w.1 B<|B7.then w.1 B ((B7.loop (A:=A) hA.1 p x j).step w) λv u z r I W G a i=>?_];subst a;have M:=B.Bb w.1 G;have o:=w.trans (G.mono (ex':=CM env) λZ m=>(by cases m));have j:B7 X (env::out) env vm μ s ((((mE X.P (C rz) N c g O).bind Cw)).then g λU H=>if U then _ else _) Q E:=j;rw[(W:((mE X.P (C rz) N c g O).bind Cw)= .ok v r)]at j;clear W;induction v using BG with|false=>rw[Qp<|B7.ok (f:= .next) j o M Y]|true=>rw[N7 D hA he ⟨l,p⟩ b J G.1 M<|B7.body o j i (λR H2 S s2 A2 L2 e=>(Aa k (JG _)<|.mk (o.trans A2) L2 e)) (λu f q=>q) λf q=>q]
end
def O1(b:Loc->MH->RS)(c:O G)(a:AL):Src->G->G->Loc->MH->RS| .seq l,j,_,ρ,H=>Hv c a b (l.drop j) ρ H| .lst i,j,n,ρ,H=>F_ c a b T i n j ρ H| .DU i,j,n,ρ,H=>if a=T then .bad else F_ c a b I i n j ρ H
theorem aa2:forR N a f b c ρ H=O1 b a f c 0 N ρ H:=by induction c using Src.casesOn<;>rfl
inductive z6(b:Loc->MH->RS)(xs:O G)(uq:AL)(sr:Src)(j k:G)(ρ:Loc)(H:MH):Prop
 |bad(e:O1 b xs uq sr j k ρ H= .bad)
 |done(e1:N3 H sr j=V AI)(e:O1 b xs uq sr j k ρ H= .ok .next ρ H)
 |item{v:MV}{k':G}(e1:N3 H sr j=V (V v))(hu:sr.Wa=I->uq=I)(hm:Ot sr (j+1) k'<Ot sr j k)
     (e:O1 b xs uq sr j k ρ H=(BW H<|DR ρ xs uq v).then ρ λρ H=>(b ρ H).go.seq<|O1 b xs uq sr (j+1) k')
inductive rV(b:Loc->MH->RS)(xs:O G)(uq en:AL)(i j k:G)(ρ:Loc)(H:MH):Prop
 |bad(e:F_ xs uq b en i k j ρ H= .bad)
 |done{l:O MV}(hl:H[i]?.bind AK.Cc=V l)(hv:l[j]?=AI)(e:F_ xs uq b en i k j ρ H= .ok .next ρ H)
 |item{l:O MV}{v:MV}{k':G}(hl:H[i]?.bind AK.Cc=V l)(hv:l[j]?=V v)(hk:k'<k)(e:F_ xs uq b en i k j ρ H=(BW H<|DR ρ xs uq<|if en then .tup [.int j,v]else v).then ρ λρ H=>(b ρ H).go.seq<|F_ xs uq b en i k'<|j+1)
theorem kU:∀(b:Loc->MH->RS)(h:O G)(c m:AL)(i j k:G)(a:Loc)(H:MH),rV b h c m i j k a H:=by intros b h c m i j k a H;induction k using CV with|zero=>rw[.bad Y]|succ k=>intros _ k;have e:F_ h c b m i (k+1) j a H=(BW H<|H[i]?.bind AK.Cc).then a λl H=>match l[j]? with|V v=>(BW H<|DR a h c<|if m then .tup [.int j,v]else v).then a λa H=>(b a H).go.seq<|F_ h c b m i k<|j+1|AI=> .ok .next a H:=Y;cases g:H[i]?.bind AK.Cc with|none=>rw[g]at e;rw[.bad e]|some l=>rw[g]at e;have e:F_ h c b m i (k+1) j a H=match l[j]? with|V v=>(BW H<|DR a h c<|if m then .tup [.int j,v]else v).then a λa H=>(b a H).go.seq<|F_ h c b m i k<|j+1|AI=> .ok .next a H:=e;cases f:l[j]? with|none=>rw[f]at e;rw[.done g f e]|some v=>rw[f]at e;rw[.item g f (JG _) e]
theorem ab6:∀(b:Loc->MH->RS)(t:O G)(p:AL)(r:Src)(j k:G)(v:Loc)(H:MH),z6 b t p r j k v H:=by
 intros b t p r j k v H;have c:∀{q w o a}{f:q->w},o=V a->o.map f=V (f a):=λe=>by rw[U e ?_];rfl
 induction r using Src.casesOn with|seq l=>rw[Ao (λh:j<l.length=>?_) λh=>?_];(·rw[.item (v:=l[j]) (k':=k) (A_ V<|Cm h) (λe=>(by cases e)) (ff _ _ h) ?_,((U (I8 h) ?_):Hv t p b (l.drop j) v H=_)];rfl);·rw[.done (A_ V<|NM<|N6 h) ?_,((U (J'<|N6 h) ?_):Hv t p b (l.drop j) v H=_)];rfl|lst i=>intros _ i;(cases kU b t p T i j k v H with|bad e=>rw[.bad e]|done m g e=>rw[.done ((c m).trans<|A_ V g) e]|item m g u e=>rw[.item ((c m).trans<|A_ V g) (λe=>(by cases e)) u e])|DU i=>intros _ i;induction p using BG with|false=>rw[.bad Y]|true=>cases kU b t I I i j k v H with|bad e=>rw[.bad e]|done m g e=>rw[.done ((c m).trans<|A_ V<|by rw[U g ?_];rfl) e]|item m g u e=>rw[.item ((c m).trans<|A_ V<|by rw[U g ?_];rfl) (λZ=>Y) u e]
inductive bf(X:Cx)(envs:O Env)(env:Env)(vm:VM)(μ:O AQ)(s:Ae)(b:Loc->MH->RS)(xs:O G)(uq:AL)(sr:Src)(I:AQ)(ex:O AQ)(Q:Flow->Ae->Prop)(E:AX->Ae->Prop):G->Ae->Prop
 |mk{j fuel:G}{Bd:O AQ}{H':MH}{C2:Loc}{s':Ae}(A:Af X envs (CM env) μ s Bd H' s')(it:F0 X Bd s'.heap I ex sr j)(L:B4 X env vm Bd C2 s'.heap)(Lx:Loose X envs Bd s'.heap ex)
     (P:B7 X envs env vm μ s (O1 b xs uq sr j fuel C2 H') Q E):bf X envs env vm μ s b xs uq sr I ex Q E (Ot sr j fuel) s'
theorem qv(P:B7 X envs env vm μ s (mS X.P C N (.Jj a c k b f) rz ρ H) Q E):B7 X envs env vm μ s (((CN X.P (C rz) N b ρ H).bind<|UX k).then ρ λg H=>forR N a c (λρ H=>CP X.P C N f rz ρ H) g ρ H) Q E:=by revert P;rw[(?_:B7 X envs env vm μ s ((CN X.P (C rz) N b ρ H).then ρ _) Q E->_)];cases CN X.P (C rz) N b ρ H with|bad=>rw[λP=>P]|exc=>rw[λP=>P]|ok j m=>rw[λP=>P]
section
variable(F:I0 X C N d)(hA:Ar X A d (env::out) rz)(he:C3 env sc vm<|env::out)(hf:∃L,env.frame=AA L)(x:St X (env::out) μ H s)(L:B4 X env vm μ ρ s.heap)
include F hA he hf x L
set_option tactic.hygienic true in
theorem abe (IH : Hm X C N d n) {r c b xs w G pos} (hT : IJ sc vm r = V xs)  (f : Av (cE X.T n sc vm) (srcOf sc c).2 = V w)  (h2 : Av (cS X.T n sc vm) b = V G)
   (P : B7 X (env :: out) env vm μ s (mS X.P C N (.Jj xs.1 xs.2 (srcOf sc c).1 w G) rz ρ H) Q E) : Ab X.M A (Fh (.For r c b [] pos) env) Q E s := by
 revert F hA he hf x L IH
 intros _ X C N rz d n sc vm A out env μ H s ρ Q E r c b xs w G pos _ hT f h2 P F hA he hf x L IH
 replace P := qv P
 have hh := hA.5
 (rw [xE hf fun Lf O => ?_]; clear hf)
 rw [wpAny_For (gp F.1.1 F.1.3 F.e hA he f x L (B7.then x L P fun t itv Z U J e0 p R2 _ => ?_)) (Ws f)]
 (rw [Em R2 fun I D BL hit z fX => ?_]; clear R2; rw [A9 BL ?_])
 rw [e0] at P
 have P : B7 X (env :: out) env vm μ s (forR N xs.1 xs.2 (fun ρ H => CP X.P C N G rz ρ H) t ρ U) Q E := P
 rw [aa2] at P
 have W : ∀ a ∈ CM env, a ∉ D := fun a m q => by
   rw [AY (P7 L m) fun o e _ => nn ((fX a q).symm.trans e)]
 rw [codeAny_forLoop_any (bf X (env :: out) env vm μ s (fun ρ H => CP X.P C N G rz ρ H) xs.1 xs.2 t I D Q E) ?_ _ (.mk (p.mono (fun _ m => nomatch m)) hit (L.Bb x p) z P)]
 rintro _ s' ⟨A', it, L', z, g⟩
 rename_i j R i H' Y
 have l := A'.1
 cases ab6 (fun ρ H => CP X.P C N G rz ρ H) xs.1 xs.2 t j R Y H' with
 | bad e => rw [e] at g; rw [g.elim]
 | done e1 e2 =>
   rw [e2] at g
   rw [gT hh l it e1 fun h' k => Qp (B7.ok g (A'.drop z fX k) (L'.slots (fun a m o e => ⟨o.slots, k a o e (W a m)⟩) (fun a Vj m i2 => k a _ i2 fun q => z.Gx a q _ i2 (N5 A7 _ _ A7) : F' s'.heap h')) A7)]
 | @item v k' e1 e2 e3 e4 =>
   rw [e4] at g
   rw [B7.opt g fun ρ1 hb g => fm (lI hT) l it z e2 e1 fun u K h M ru => ?_]
   have L1 := L'.UB l h W z.Gx
   have T : Loose X (env :: out) i K.heap D := z.Jh h fun a _ q => M.HF a q
   rw [Wb hh he hT hb h.1 L1 ru fun J Ym y p L2 => ?_]
   have dB : ∀ a ∈ D, a ∉ Ym := fun a m q => W a (y.1 a q) m
   have X1 := M.Bb h.1 T p dB fun a m => LU L1 a (y.1 a m)
   have S := T.Jh p fun a m q => Aj q (dB a m)
   have B := (((A'.mono (ex' := D ++ CM env) (fun a m => Cj.mpr (.inr m))).trans (h.mono fun a m => Cj.mpr (.inl m))).fresh (ex' := CM env) fun a m => (Cj.mp m).elim (fun q => .inr (fX a q)) .inl).trans (p.mono y.1)
   rw [
         N7 IH hA he ⟨Lf, O⟩ b h2 p.1 L2 (B7.body B g ((B7.loop (A := A) hA.1 O x g).step B) (fun ρ3 H3 μ3 s3 A3 L3 P3 =>
     have dX : ∀ a ∈ D, a ∉ CM env := fun a m q => W a q m
     (Aa _ e3 (.mk (B.trans A3) (X1.Bb p.1 S A3 dX (LU L2)) L3 (S.Jh A3 fun a m q => Aj q (dX a m)) P3))) (fun u s3 q => q) fun s3 q => q)]
end
end
section
open PySem PySem.W PySem.Calls PyProof.Rows
theorem tA{names:O Am}:∀{ns:O Am}{vals:O AX},ns.length=vals.length->ns.Nodup->(ns.filterMap λn=>((ns.zip vals).lookup n).map (n,·))=ns.zip vals/\∀n∈ns,((ns.zip vals).lookup n).isSome=I:=by
 let _:=names;have b:∀(ns:O Am)(l c:O<|Am×AX),(∀n∈ns,l.lookup n=c.lookup n)->(ns.filterMap λn=>(l.lookup n).map (n,·))=ns.filterMap λn=>(c.lookup n).map (n,·):=by intro ns;induction ns with|nil=>intro _ _ _;rfl|cons a ns f=>intro l c h;rw[U Nn<|U Nn<|U (h a<|.head _)<|U (f l c λn m=>h n<|.tail _ m) Y]
 intro ns;induction ns with|nil=>intro vals h _;rw[⟨Y,λZ m=>(by cases m)⟩]|cons a ns f=>intro vals h g;induction vals using An with|nil=>simp at h|cons v vals=>rw[DF]at g;obtain⟨k,j⟩:=f (vals:=vals) (by simpa using h) g.2;(have e:∀n∈ns,Z3 n ((a::ns).zip<|v::vals)=(ns.zip vals).lookup n:=λn m=>by rw[U Te<|U (K5 λq=>g.1<|by rw[<-q]at⊢;rw[m]) Y]);rw[⟨?_,λn m=>?_⟩];(·rw[U Nn<|U Te<|U Iy ?_];simp only [eS];rw[Ag Te<|U (b ns _ _ e)<|U k ?_];rfl);·rw[Cz (CZ.mp m) (λd=>?_) λm=>?_,U d ?_];(·rw[U Te<|U Iy ?_];rfl);rw[U (e n m)<|j n m]
theorem sk{b c:Type}{f:b->AL}{l:O b}{e:O c}(m:l.filter f=[])(d:e=[]):¬(!((l.take<|l.length-e.length).filter f).isEmpty)=I:=by rw[U d<|U LI<|U (Nat.sub_zero ..)<|U W7<|U m λq=>(by cases q)]
theorem zq{c b:Type}{l:O c}{s:b}{f:c->b->Sem (Ui b)}(h:l=[]):forIn l s f=(pure s:Sem b):=by rw[U h ?_];rfl
theorem rm{c b:Type}{l:O c}{e:O b}(h:e=[]):l.zip e=[]:=by rw[U h List.zip_nil_right]
theorem oB{l a:O (Am×AX)}(h:l=a):(pure l:Sem<|O<|Am×AX)=pure a:=by rw[U h Y]
theorem az:∀{fd:PO}{vals:O AX}(r:fd.params.posonlyargs=[])(p:fd.params.vararg=C)(o:fd.params.kwonlyargs=[])(k:fd.params.kwarg=C)(j:fd.defaults= .none)(w:(fd.params.args.map (·.arg)).Nodup)(g:fd.params.args.length=vals.length),bindArgs fd ⟨vals,[]⟩=pure ((fd.params.args.map (·.arg)).zip vals):=by
 intros fd vals _ r p o k j w g;rw[xA (tA (names:=[]) (ns:=fd.params.args.map (·.arg)) (vals:=vals) (by simpa using g) w) λa B=>?_];have m:((fd.params.args.map (·.arg)).filter λn=>(((fd.params.args.map (·.arg)).zip vals).lookup n).isNone)=[]:=by rw[List.filter_eq_nil_iff]at⊢;intro n m;have:=B n m;cases q:((fd.params.args.map (·.arg)).zip vals).lookup n with|none=>rw[Jo<|q▸this]|some v=>simp
 have c:(fd.params.args.map (·.arg)).length=vals.length:=by rw[U (CO ..) g]
 have z:=(A_ (X2 λn=>(((fd.params.args.map (·.arg)).zip vals).lookup n).map (n,·))<|Ba _).trans a;clear a B g w;obtain⟨I,F,b,f,E,M,A,d,u,y,H,S,P,e,Q⟩:=fd;intros _ I F b f E M A d u y H S P e Q _ r p o k j m c z;obtain⟨G,R,D,K,L,J,N⟩:=b;intros _ G R D K L J N _ r p o k j m c z;cases r;cases p;cases o;cases k;cases j;rw[(AS λq=>Aj (DJ (B1 q).1)<|E1.mpr<|C8 c.symm).trans<|(AS<|sk m Pb).trans<|(A_ (·>>=_)<|zq<|rm Pb).trans<|oB z]
end
section
open PySem PySem.W PySem.Calls PyProof.Rows
variable{X:Cx}{N:AE}{rz:AL}{d n:AE}{sc:Bt}{vm:VM}{A:Bq}{envs out:AB Env}{env:Env}{μ:AB AQ}{H:MH}{s:Ae}{ρ:Loc}{Q E:AX->Ae->Prop}
theorem fq{b:Type}{nm:Am}{l:O (Am×b)}(h:nm∉l.map (·.1)):l.lookup nm=C:=by cases z:l.lookup nm with|none=>rfl|some w=>rw[Aj (Ea.mpr<|Aa _ (ET z) Y) h]
theorem cP{b}{nm}(j:b nm=V .local){c}:∀{m},(c.map (·.1)).Nodup->bindL b c m nm=(c.lookup nm).or (m nm):=by induction c with|nil=>intro m _;rfl|cons p r g=>intro m f;obtain⟨a,v⟩:=p;have f:=DF.mp f;rw[((U (g f.2)<|Ao (λq:nm=a=>?_) λq=>?_):bindL b r _ nm=_)];(·subst q;rw[U Iy<|U (fq f.1)<|U (AM j)<|AM Y]);·rw[U (K5 q) ?_];congr 1;rw[Ao (λz:b a=V .local=>?_) λz=>?_,U (AM z)<|AS q,U (AS z) Y]
theorem o8{b}{nm}(j:b nm≠V .local){c}:∀{m},(c.map (·.1)).Nodup->bindC b c m nm=(c.lookup nm).or (m nm):=by induction c with|nil=>intro m _;rfl|cons p r g=>intro m f;obtain⟨a,v⟩:=p;have f:=DF.mp f;rw[((U (g f.2)<|Ao (λq:nm=a=>?_) λq=>?_):bindC b r _ nm=_)];(·subst q;rw[U Iy<|U (fq f.1)<|U (AS j)<|AM Y]);·rw[U (K5 q) ?_];congr 1;rw[Ao (λz:b a=V .local=>?_) λz=>?_,U (AM z) Y,U (AS z)<|AS q]
theorem Y3:Mc k ((a,b)::r) f=if b== .cell then Mc (k+1) r ((a,k)::f)else Mc k r f:=Y
theorem yF:∀{nm}{e},∀{k}{g},nm∉e.map (·.1)->(Mc k e g).lookup nm=g.lookup nm:=by intros nm e;induction e with|nil=>intro k g _;rfl|cons p r b=>intro k g h;obtain⟨a,f⟩:=p;have c:nm∉r.map (·.1):=λq=>h<|.tail _ q;rw[U Y3<|Ao (λq:(f== .cell)=I=>?_) λq=>?_,U (AM q)<|U (b c)<|U (K5 λq=>h<|by rw[q]at⊢;rw[.head _]) Y,U (AS q)<|U (b c) Y]
theorem cellsFrom_some:∀{nm:Am}{i:O (Am×IQ)},∀{k:G}{acc:O (Am×AQ)},(i.map (·.1)).Nodup->(nm,eC)∈i->∃c,(Mc k i acc).lookup nm=V c:=by intros nm i;induction i with|nil=>intro k acc _ h;rw[(by cases h)]|cons p r f=>intros _ p r _ f;intros k acc _ b h;obtain⟨a,g⟩:=p;intros _ a g _ b h;have b:=DF.mp b;rw[U Y3 ?_];cases h with|head=>rw[U (AM<|(dc Y))<|U (yF b.1)<|U Iy ⟨_,Y⟩]|tail _ e=>rw[Ao (λq:(g== .cell)=I=>?_) λq=>?_,U (AM q)<|f b.2 e,U (AS q)<|f b.2 e]
theorem rC:∀{p}{e},∀{k}{acc},(e.map (·.1)).Nodup->(∀p∈acc,acc.lookup p.1=V p.2/\p.1∉e.map (·.1))->p∈Mc k e acc->(Mc k e acc).lookup p.1=V p.2:=by intros p e;induction e with|nil=>intro k acc _ h m;rw[(h p m).1]|cons a r j=>intro k acc f h m;obtain⟨a,u⟩:=a;have f:=DF.mp f;have o:∀p∈acc,p.1∉r.map (·.1):=λc b z=>(h c b).2<|.tail _ z;rw[Y3]at m⊢;by_cases q:(u== .cell)=I;(·rw[AM q]at m⊢;rw[j f.2 (λc b=>?_) m];induction b using Cu with|head g=>rw[U g ⟨Iy,f.1⟩]|tail b=>rw[⟨(K5 λz=>(h c b).2<|by rw[U z<|.head _]).trans (h c b).1,o c b⟩]);·rw[AS q]at m⊢;rw[j f.2 (λc b=>⟨(h c b).1,o c b⟩) m]
end
section
open PySem PySem.W PySem.Calls PyProof.Rows
variable{X:Cx}{N:AE}{rz:AL}{d n:AE}{sc:Bt}{vm:VM}{A:Bq}{envs out:AB Env}{env:Env}{μ:AB AQ}{H:MH}{s:Ae}{ρ:Loc}{Q E:AX->Ae->Prop}
abbrev UD(sc:Bt)(vm:VM)(a:Arg):AO G:=if isVar sc a.arg then vm.lookup a.arg else C
theorem vU:∀{c l e},∀{i},Av (UD c l) e=V i->∀a∈e,isVar c a.arg=I:=by intros c l e;induction e with|nil=>intro i _ a m;rw[nomatch m]|cons b e p=>intro i h a m;rw[C0 h λk o j g Z=>?_];induction m using Cu with|head f=>rw[U f<|CB j λh Z=>h]|tail m=>rw[p g a m]
theorem vf:∀{sc g u S h nm x i f}(F:∀n K x,g.lookup n=V x->g.lookup K=V x->n=K)(M:g.lookup nm=V x),∀{j b c l C2},Av (UD sc g) f=V j->FH l j b=V C2->Ax S u h b c->(f.map (·.arg)).Nodup->C2 x=V i->(∃v,((f.map (·.arg)).zip c).lookup nm=V v/\RV S u h i v)\/l x=V i:=by intros sc g u S h nm x i f _ F M;induction f with|nil=>intro j b c l C2 y o _ _ hx;obtain rfl:=AN y;rw[Im o (λZ Z e=> .inr (e.symm▸hx)) λZ Z Z Z e=>nomatch e]|cons p f B=>intros _ p f _ B;intros j b c l C2 _ y o P t hx;rw[C0 y λk G8 D W R=>Im o (λz=>nomatch z.symm.trans R) λU aci a Y e1 T ab4=>?_];obtain⟨rfl,rfl⟩:=Cs (R.symm.trans e1);clear o;subst T;rw[CB D λZ D=>?_];(rw[By (JI P) λv J BL L I=>?_];clear P;subst BL);have t:=DF.mp t;rcases B W ab4 I t.2 hx with⟨w,e,r⟩|e;(·have Dq:nm≠p.arg:=λq=>t.1 (by have m:=(Z' (ET e)).1;replace m:=q▸m;rw[m]);rw[.inl (Aa w ((K5 Dq).trans e) r)]);·by_cases q:x=k;(·clear B;obtain rfl:=F nm p.arg x M (q▸D);obtain rfl:=AN ((AM q).symm.trans e);rw[.inl (Aa v Iy L)]);rw[.inr ((AS q).symm.trans e)]
inductive wa(X:Cx)(fa:AQ)(fn:Fn):Prop
 |mk{o:Obj}{fd:PO}{body:O Fe}(lk:X.K.lookup fa=V o)(data:o.data= .func fd)(bd:fd.body= .stmts body)(cf:Tv X.T fd.params body fd.scope=V fn)(td:fd.closure=[])(de:fd.defaults= .none)(gl:fd.globals=EC)(bu:fd.builtins=Gh)
     (co:fd.scope.isCoroutine=T)(ge:fd.scope.isGenerator=T)(ki:fd.scope.kind= .function)(cr:X.base.CodeRec fd.code fd.qualname)
inductive Kc(X:Cx):Prop
 |mk(fn:∀f fa fn,X.fn f=V fa->X.F f=V fn->wa X fa fn)
theorem Kc.wp(h:Kc X):Kc<|X.wp p:=⟨λf c b j g=>by obtain⟨C,B,z,y,w,v,u,r,q,o,m,k⟩:=h.1 f c b j g;rw[.mk C B z y w v u r q o m k]⟩
inductive Wu(T:CT)(params:Arguments)(body:O Fe)(sc:Bt)(fn:Fn):Prop
 |mk(p1:params.posonlyargs=[])(p2:params.vararg=C)(p3:params.kwonlyargs=[])(p4:params.kwarg=C)(p5:∀x∈sc.names,x.2≠.free)(c2:(params.args.map (·.arg)).Nodup)(c3:(sc.names.map (·.1)).Nodup)(c4:(numbered sc.names 0).Pairwise λx y=>x.2≠y.2)
     (g1:Av (UD sc<|numbered sc.names 0) params.args=V fn.params)(g2:Av (cS T 60 sc<|numbered sc.names 0) body=V fn.body)
theorem Wu.of:∀{T b c g j}(h:Tv T b c g=V j),Wu T b c g j:=by intros T b c g j _ h;rw[CB h λu h=>BQ h λC w h=>Bo h λD v e=>Ag e<|Fb u λf B z y=>xA (B1 f) λf k=>xA (B1 f) λf o=>xA (B1 f) λf p=>xA (B1 f) λr q=> .mk (MI.mp r) (NW.mp q) (MI.mp p) (NW.mp o) (λx m=>OZ.mp<|Eo.mp k x m) B z y w v]
theorem Af.pop:∀{X f i l H s L c g w t}(x:St X f l H s)(D:i.frame=V L)(k:∀b o,s.heap.get? b=V o->c.heap.get? b=V o)(G:∀a∈CM i,s.heap.get? a=C)(F:s.heap.get? L=C)(j:Af X (i::f) (CM i) l c g w t),Af X f [] l s g w t:=by
 intros X f i l H s L c g w t _ x D k G F j;have y:=j.1;have r:∀a,c.heap.get? a=C->s.heap.get? a=C:=λa e=>by cases q:s.heap.get? a with|none=>rfl|some o=>rw[nn<|e.symm.trans<|k a o q]
 have I:CW (i::f)=L::CW f:=by rw[(?_:X2 _ _=_),U Nn<|U D Y]
 rw[⟨⟨y.1,y.2,y.3,y.4,y.5,λe m=>y.6 e<|.tail _ m,λa m=>y.7 a<|by rw[U I<|.tail _ m],y.8,y.9,y.10,y.11⟩,?_,λb o e=>?_⟩];·injection j.2 with J _ O M;rw[(Aa J O λa m=>r a<|M a m)]
 intros _ b o _ e;·have z:b∉CM i:=λm=>nn<|(G b m).symm.trans e;rw[DE (j.3 b o<|k b o e) λh B K=>?_];rw[I]at h B;rw[(BX (λv Z u=>h v z λm=>?_) (λv Z u=>B (.tail _ v) z u) K)];induction m using Cu with|head p=>clear D I h B;subst p;rw[nn<|F.symm.trans e]|tail q=>rw[u q]
theorem zP:∀{b nm}(c:∀x∈b.names,x.2≠.free)(h:isVar b nm=I),b.names.lookup nm=V .local\/b.names.lookup nm=V .cell:=by intros b nm _ c h;have h:=(B1 h).2;cases q:b.names.lookup nm with|none=>replace h:=q▸h;rw[nb h]|some k=>replace h:=q▸h;induction k using ky with|«local»=>rw[.inl Y]|cell=>rw[.inr Y]|free=>rw[Aj Y<|c _<|ET q]|_=>rw[nb h]
inductive uK(X:Cx)(out:O Env)(env:Env)(vm:VM)(sc:Bt)(μ:O AQ)(H:MH)(s Bs:Ae)(ρ:Loc)(L:AQ):Prop
 |mk(ok:C3 env sc vm<|env::out)(fr:env.frame=V L)(st:St X (env::out) μ H Bs)(loc:B4 X env vm μ ρ Bs.heap)(ex:∀a∈CM env,s.heap.get? a=C)(fresh:s.heap.get? L=C)(keep:∀b o,s.heap.get? b=V o->Bs.heap.get? b=V o)
theorem aa4:∀{X w μ H s ρ fd K}{vals}{D ks r}(x:St X w μ H s)(f6:fd.globals=EC)(f7:fd.builtins=Gh)(L:fd.scope.kind= .function)(Z:∀x∈fd.scope.names,x.2≠.free)(c2:(fd.params.args.map (·.arg)).Nodup)(V:(fd.scope.names.map (·.1)).Nodup)(c4:(numbered fd.scope.names 0).Pairwise λx y=>x.2≠y.2)(g1:Av (UD fd.scope<|numbered fd.scope.names 0) fd.params.args=AA ks)(hu:FH (λ_=>C) ks D=AA ρ)(Y:Ax X.T.strs μ s.heap D vals)(W:(((fd.params.args.map (·.arg)).zip vals).map (·.1)).Nodup)(O:InCallC s (Jb fd s.heap.objs.size K).locals (bindL (Jb fd s.heap.objs.size K).kindOf ((fd.params.args.map (·.arg)).zip vals) λ_=>C) (Jb fd s.heap.objs.size K).cells (bindC (Jb fd s.heap.objs.size K).kindOf ((fd.params.args.map (·.arg)).zip vals) λ_=>C) r),uK X w (Jb fd s.heap.objs.size K) (numbered fd.scope.names 0) fd.scope μ H s r ρ s.heap.objs.size:=by
 intros X w μ H s ρ fd K vals D ks r _ x f6 f7 L Z c2 V c4 g1 hu Y W O;have P:∀n i x,(numbered fd.scope.names 0).lookup n=AA x->(numbered fd.scope.names 0).lookup i=AA x->n=i:=λa b x J I=>U4 c4 (ET J)<|ET I;injection O.done with h' tk _ M l;subst M;have A1:=Af.I9 x (h':=h') (t:=tk) (d:=s.drawn) l;have B:∀{h:BC},(∀b o,h.get? b=AA o->s.heap.get? b=AA o)->∀a,s.heap.objs.size<=a->h.get? a=C:=λ{h}k a ha=>by cases q:h.get? a with|none=>rfl|some o=>rw[Aj (Ds<|k a o q)<|E1.mpr ha]
 have f:=B (h:=s.heap) λ_ _ q=>q;have j:=B (h:=X.base) x.4;have t:∀a∈CM (Jb fd s.heap.objs.size K),s.heap.objs.size<=a:=λa m=>by induction m using Cu with|head u=>rw[A9 u<|B2 _]|tail m=>(rw[AY (Ea.mp m) λT hm S=>?_];obtain⟨g,c⟩:=T;subst S);rw[KN<|O.above g c hm]
 have R:=O.toInCall.ns;have F:∀(g:Am)(y:G)(p:MV),(numbered fd.scope.names 0).lookup g=AA y->ρ y=AA p->∃v,((fd.params.args.map (·.arg)).zip vals).lookup g=AA v/\RV X.T.strs μ h' p v:=λg y p J I=>(vf P J g1 hu Y c2 I).elim (λ⟨v,a,b⟩=>⟨v,a,b.mono (Bh.refl _) (A1.tu x C6.nil).t⟩) λq=>(by cases q);rw[⟨⟨L,λg h=>h,λg h=>?_,λg h=>Bn.mp (B1 h).2,f6,f7,O.apart,P,_,w,A7,A7⟩,A7,?_,⟨λa m=>JW x<|f a<|t a m,λa m=>j a<|t a m,(Aa _ R λg y p J I U=>?_),λg c hc=>?_⟩,λa m=>f a<|t a m,f _<|B2 _,l⟩,Cz h (λh=>?_) λh=>?_,xE (cellsFrom_some (k:=s.heap.objs.size+1) (acc:=[]) V<|ET h) λc e=>(UL h c e),Aj A7<|Z _<|ET h];·have y:=A1.1;rw[⟨y.1,y.2,y.3,y.4,y.5,λe m=>?_,λa m=>?_,y.8,y.9,y.10,y.11⟩];(·induction m using Cu with|head u=>rw[A9 u<|G9 R λo' es ep q1 q2 _=>(TB (by rw[((A9 L ?_):fd.scope.kind≠_),(λz=>(by cases z))]) _ o' es ep A7 (j _<|B2 _) q1 q2)]|tail m=>rw[y.6 e m]);·have m:a∈s.heap.objs.size::CW w:=m;induction m using Cu with|head u=>rw[A9 u<|JW x<|f _<|B2 _]|tail m=>rw[y.7 a m]
 rw[AY (F g y p J I) λv a b=>(Aa v (by rw[A9 (cP U W)<|A9 a ?_];rfl) b),(Aa _ (O.cell g c<|rC (p:=(g,c)) (k:=s.heap.objs.size+1) (acc:=[]) V (λ_ m=>(by cases m)) hc) λ_ y p J I U=>AY (F g y p J I) λv a b=>(Aa v (by rw[A9 (o8 (by rw[U]at⊢;rw[λz=>(by cases z)]) W)<|A9 a ?_];rfl) b))]
set_option tactic.hygienic true in theorem y0(w:Dy X)(ZJ:Kc X)(B:F=X.F)(D:∀n,Hm X (BR X.P F N d) N d n)(p:AL):IY X (BR X.P F N (d+1) p) (d+1) p:=by
 revert w ZJ B D;intros _ X N d F p _ w ZJ B D;subst B;intros A out f k W h μ H s Q E _ OA l x rv P;rw[AU.opt P λZ C P=>AU.opt P λρ T P=>?_];obtain⟨G,V,O,f4,f5,yc,f6,f7,f8,f9,bT,rq⟩:=ZJ.1 f k Z OA C;rename_i o j body;obtain⟨p1,p2,p3,p4,J,K,c3,c4,M,g2⟩:=Wu.of f4;have i:j.params.args.length=h.length:=by rw[Ag (Zp M)<|U (Tz T)<|U rv.length Y]
 have cr:s.heap.CodeRec j.code j.qualname:=by rw[Ir rq λc oc vs t z_=>DE z_ λa1 a2 a3=>⟨c,oc,vs,t,a1,x.4 _ _ a2,a3⟩]
 have bn:((((j.params.args.map (·.arg)).zip h)).map (·.1)).Nodup:=by rw[U (i_<|by rw[CO,i]at⊢;rw[B2 _]) K]
 rw[iQ (CH (L (BJ _ _) l.2)<|B6 Y) (w.1.keeps x.4 k o G) V (w.2.keeps x.4) cr O (az p1 p2 p3 p4 yc K i) f5 (λy m=>?_) (λBs ic=>?_) f8 f9 bT];·rw[AY (Ea.mp (Z' (a:=y.1) (b:=y.2) m).1) λa ma e=>(zP J (e▸vU M a ma:isVar j.scope y.1=I)).imp id λq=>⟨q,xE (cellsFrom_some (k:=s.heap.objs.size+1) (acc:=[]) c3<|ET q) λc e=>U e ?_⟩];rfl
 have g:=aa4 x f6 f7 bT J K c3 c4 M T rv bn ic;have d9:Ar X (A.deeper<|Jb j s.heap.objs.size k) d (Jb j s.heap.objs.size k::out) p:=⟨Around.frames_deeper l.1,by have:=l.2;rw[(?_:A.depth+1+_<=_)];lia,by have:=l.3;rw[(?_:A.units+3+_+_<=_)];lia,l.4,l.5⟩;rw[N7 (X:=X) (N:=N) (d:=d) (D 60) d9 g.1 ⟨_,g.2⟩ body g2 g.3 g.4 ?_];revert P;cases CP X.P (BR X.P X.F N d) N Z.body p ρ H with|bad=>rw[λP=>P.elim]|ok fl C2 H'=>(induction fl using CX.casesOn with|next=>rw[λP te Bd S r L' R=>by subst R;rw[P _ _ _ (r.pop x g.2 g.7 g.5 g.6) ON]]|cont=>rw[λP=>P.elim]|ret v=>rw[λP te Bd S r L' R=>by obtain⟨u,rfl,R⟩:=R;rw[P _ _ _ (r.pop x g.2 g.7 g.5 g.6) R]])|exc xc C2 H'=>intro P;rw[Ff.leave d9.1 g.2 g.3 (G:=λe GA=>Wv Q E (.error e) GA) λe Bd S r f k=>P e Bd S (r.pop x g.2 g.7 g.5 g.6)<|(k out).Z0 λb q=>?_];cases z:s.heap.get? b with|none=>rfl|some o=>rw[nn<|q.symm.trans<|g.7 b o z]
theorem gu(c:Dy X)(b:Kc X)(f:∀(d n:G),(∀p a,IY (X.wp p) (BR X.P X.F N d a) d a)->∀p,Hm (X.wp p) (BR X.P X.F N d) N d n):∀d p a,IY (X.wp p) (BR X.P X.F N d a) d a|0,_,_=>λZ Z Z Z Z Z Z Z Z Z Z Z Z Z Z P=>P.elim|d+1,p,a=>y0 (X:=X.wp p) c.wp b.wp Y (λn=>f d n (gu c b f d) p) a
end
section
open PySem PySem.W PySem.Calls PyProof.Rows
variable{X:Cx}{C:AL->CF}{N:AE}{rz:AL}{d n:AE}{sc:Bt}{vm:VM}{A:Bq}{envs out:AB Env}{env:Env}{μ:AB AQ}{H:MH}{s:Ae}{ρ:Loc}{Q:Flow->Ae->Prop}{E:AX->Ae->Prop}
inductive qj(X:Cx)(ca:AQ):Prop
 |mk(glob:FR X.K EC X.T.exc=V (V<|.ref ca))(cls:X.cls X.P.Et=V ca)(keep:JK X.K (.ref ca)=I)(ty:MS X.K (.ref ca)=V (.type "type"))(aby:HX X.K (.ref ca) (.type "type")=V T)(base:HX X.K (.ref ca) (.type "BaseException")=V I)(self:HX X.K (.ref ca) (.ref ca)=V I)
inductive JO(X:Cx):Prop
 |mk(name:∃ca,qj X ca)(abz:∀{ca:AQ},X.cls X.P.Et=V ca->isClsIn X.K ca=I)(made:∀{p:O AQ}{A:Bq}{envs:O Env}{d:G}{μ:O AQ}{H:MH}{s:Ae}{x1 x2 x3:MV}{u v w:AX}{ca:AQ}{Q E:AX->Ae->Prop},Ar (X.wp p) A d envs I->St (X.wp p) envs μ H s->X.cls X.P.Et=V ca->RV X.T.strs μ s.heap x1 u->RV X.T.strs μ s.heap x2 v->RV X.T.strs μ s.heap x3 w->(∀e oe vs dx kvs s',Af (X.wp p) envs [] μ s μ H s'->FW (X.wp p) envs s.heap μ s'.heap ⟨x1,x2,x3⟩ e->K7 (X.wp p) envs s.heap μ s'.heap ⟨x1,x2,x3⟩ e oe vs dx kvs->vs[1]?=V .none->Q (.ref e) s')->Ab X.M A (call (.ref ca) [u,v,w]) Q E s)
theorem JO.wp(h:JO X):JO<|X.wp p:=⟨h.1.imp λZ n=>⟨n.1,n.2,n.3,n.4,n.5,n.6,n.7⟩,h.2,h.3⟩
inductive pY(X:Cx)(ca:AQ)(E:AX->Ae->Prop)(v:AX)(Bs:Ae):Prop
 |mk{e:AQ}{oe:Obj}{vs:CI AX}(ev:v= .ref e)(Xs:X.K.In Bs.heap)(he:Bs.heap.get? e=V oe)(hc:oe.cls= .ref ca)(hd:oe.data= .fields vs)(hv:vs[1]?=V .none)(hE:E (.ref e) Bs)
set_option tactic.hygienic true in theorem thrown:∀{X A a s Q E}{ca}{t}(i:A.handled=AI)(j:MS X.K (.ref ca)=V (.type "type"))(k:HX X.K (.ref ca) (.type "BaseException")=V I)(h:Ab X.M A t (λv Bs=>pY X ca E v Bs) E s),Ab X.M A (raiseStmt a (V t) AI) Q E s:=by
 intros X A a s Q E ca t _ i j k h;unfold raiseStmt;rw[Ah<|EY h (λv Bs EV=>?_) λZ Z x=>x];intros _ v Bs _ EV;obtain⟨rfl,l,b,f,g,m,o⟩:=EV;rename_i e p q;intros _ e p q _ b f g m o;have r:GG X.M Bs.heap (typeOf<|.ref e)<|.ref ca:=f▸(Qz b).andThen .now;have LT:GG X.M Bs.heap (isType<|.ref e) T:=by clear f;obtain⟨c,w,u,y⟩:=p;subst(g:u= .fields q);rw[(Qz b).andThen .now]
 rw[Ah<|B8<|Ah<|GX ?_];unfold excFromValue isExcClass;rw[Ah<|Ah<|LT.here<|B8<|U (AS<|(dc Y))<|Ah<|(r.andThen<|QU l k:GG X.M Bs.heap (QJ (.ref e)<|.type "BaseException") I).here<|U (AM Y)<|B8 ?_];dsimp only;rw[Ah<|LT.here<|U (AS<|(dc Y))<|Ah ?_];unfold raisedInstance;rw[Ah<|r.here<|Ah<|(looks_typeIn l j).here<|U (AM<|(dc Y))<|B8<|Ah ?_];unfold QK;rw[Ah<|Iq b g m<|U (AS<|(dc Y))<|B8<|wpAny_raiseNew_none i o]
theorem aa6{a:O MV}{G:Prop}(P:B7 X envs env vm μ s (ko ρ H a) Q E)(k:∀x y z,a=[x,y,z]->B7 X envs env vm μ s (.exc ⟨x,y,z⟩ ρ H) Q E->G):G:=by match a,P with|[x,y,z],P=>rw[k x y z Y P]|[],P=>rw[P.elim]|[_],P=>rw[P.elim]|[_,_],P=>rw[P.elim]|_::_::_::_::_,P=>rw[P.elim]
theorem qd:∀{X C N rz d n sc vm A out env μ H s ρ Q E}{a b c:Expr}{ca cb cc:CE}{np YH pos:Pos}(F:I0 X C N d)(EO:JO X)(hA:Ar X A d (env::out) rz)(he:C3 env sc vm<|env::out)(x:St X (env::out) μ H s)(L:B4 X env vm μ ρ s.heap)(hg:F5 sc X.T.exc=AG)(h1:cE X.T n sc vm a=AA ca)(h2:cE X.T n sc vm b=AA cb)(h3:cE X.T n sc vm c=AA cc)(P:B7 X (env::out) env vm μ s (mS X.P C N (.raise ca cb cc) rz ρ H) Q E),Ab X.M A (Fh (.Raise (AA<|.Call (.Name X.T.exc np) [a,b,c] [] YH) AI pos) env) Q E s:=by intros X C N rz d n sc vm A out env μ H s ρ Q E a b c ca cb cc np YH pos _ F EO hA he x L hg h1 h2 h3 P;rw[B7.W_ P λq5 P=>?_];obtain rfl:=RA q5;injection EO.1 with cl _ N;rw[A9 (arm_exec_Raise ..)<|Ah<|Le<|thrown (ca:=cl) (hA.4 A7) N.4 N.6<|((A9 (YG ..)<|Ah<|Ah<|PZ F.1.1 x he hg N.1<|V6 (Q:=λv Bs=>Ab X.M A (do N4 pos;pure v) _ E Bs) F.1.1 F.e hA he (Ni h1<|Ni h2<|Ni h3 A7:Av (cE X.T n sc vm) [a,b,c]=AA [ca,cb,cc]) N.3 x L<|B7.then x L P λvs us Iw FV Bs e0 A1 R1 P2=>λZ=>aa6 P2 λx1 x2 x3 e P2=>?_):Ab X.M A (do let v<-DC (.Call (.Name X.T.exc np) [a,b,c] [] YH) env;N4 pos;pure v) _ E s)];clear e0;subst e;obtain⟨u,r1,rfl,ru,v,r2,rfl,rv,w,r3,rfl,abE,rfl⟩:=R1;rw[(?_:Ab X.M A (call (.ref cl) [u,v,w]) _ E Bs),EO.3 (p:=X.pin) hA A1.1 N.2 ru rv abE λe oe vs dx kvs s' A2 f g hv=>Ah<|Le<|B8 ?_,AY g.2 λqX c1 c2=>?_];obtain rfl:=AN<|N.2.symm.trans c2;rw[.mk A7 (F.1.1.1.keeps A2.1.4) g.1 c1 g.3 hv<|P2 e _ _ (A2.mono λZ m=>(by cases m)) ((L.Bb x A1).Bb A1.1 A2) f]
end
section
open PySem PySem.W PySem.Calls PyProof.Rows
variable{X:Cx}{C:AL->CF}{N:AE}{rz:AL}{d n:AE}{sc:Bt}{vm:VM}{A:Bq}{envs out:AB Env}{env:Env}{μ:AB AQ}{H:MH}{s:Ae}{ρ:Loc}{Q:Flow->Ae->Prop}{E:AX->Ae->Prop}
theorem B4.mu:∀{X i e l t}{b}{h}(L:B4 X e i l t h)(o:∀a∈CM e,a∉b)(M:Bh l b),B4 X e i b t h:=by intros X i e l t b h _ L o M;rw[⟨o,L.2,?_,λn c w=>?_⟩,AY L.3 λm u r=>(Aa m u λn x f k j g=>(r n x f k j g).imp λv q=>⟨q.1,q.2.mono M<|F'.refl _⟩),AY (L.4 n c w) λv p r=>(Aa v p λy x f k j g=>(r y x f k j g).imp λv q=>⟨q.1,q.2.mono M<|F'.refl _⟩)]
theorem sA{a e}{g}{Q}(u:MS X.K (.ref a)=V (.type "type"))(b:isClsIn X.K a=I)(r:HX X.K (.ref a) (.type "BaseException")=V I)(p:HX X.K (.ref a) (.ref a)=V I)(f:X.K.In s.heap)(k:s.heap.get? e=V g)(m:g.cls= .ref a)(q:Q I s):Ab X.M A (excMatches (.ref e)<|.ref a) Q E s:=by
 intros _ X A s E a e g Q _ u b r p f k m q;have w:GG X.M s.heap (isType<|.ref a) I:=by unfold isClsIn clsIn at b;cases j:X.K.lookup a with|none=>replace b:=j▸b;rw[nb b]|some o=>replace b:=j▸b;obtain⟨c,B,v,z⟩:=o;induction v using Mx with|cls D=>rw[(Qz<|f _ _ j).andThen .now]|_=>rw[nb b]
 have y:GG X.M s.heap (isExcClass<|.ref a) I:=by unfold isExcClass;rw[w.andThen<|U (AM Y)<|QU f r]
 unfold excMatches;rw[Ah<|((looks_typeIn f u).andThen<|RJ tc_notTuple:GG X.M s.heap (QJ (.ref a)<|.type "tuple") T).here<|Ah<|B8 ?_];dsimp only;rw[Ah<|U (Ow ..)<|Ah<|Ah<|y.here<|U (AS<|(dc Y))<|B8 ?_];dsimp only;rw[U List.forIn_nil<|B8<|Ah<|(m▸(Qz k).andThen .now:GG X.M s.heap (typeOf<|.ref e)<|.ref a).here<|Ah<|U (Ow ..)<|Ah<|Ah<|(QU f p).here<|U (AM Y)<|B8<|B8<|B8 q]
theorem qi:∀{X w b h v H s y}{ex Bd}{p}{l}{j}{e}{r}{D}{k}{t}(x:St X b v H s)(z:Af X b ex v s Bd p l)(B:B4 X h w Bd y l.heap)(F:∀a∈CM h,∃o,s.heap.get? a=V o)(f:FW X b s.heap Bd l.heap j e)(g:K7 X b s.heap Bd l.heap j e r D k t),Af X b ex v s (Bd++[k]++[e]) (p++[.dict T [(.str X.P.DX.1,j.why),(.str X.P.DX.2.1,j.fn),(.str X.P.DX.2.2,j.at_)],.inst X.P.Et p.length]) l/\B4 X h w (Bd++[k]++[e]) y l.heap/\(Bd++[k]++[e])[p.length+1]?=V e:=by
 intros X w b h v H s y ex Bd p l j e r D k t _ x z B F f g;rw[AY g.2 λP c3 c4=>?_];have yJ:e≠k:=λq=>by rw[Dz g.11 λo S W R Z hx Z=>?_];obtain rfl:=AN<|(q▸g.1:l.heap.get? k=V r).symm.trans R;rw[nomatch hx.symm.trans g.3]
 have u:=z.1;have K:=(z.adopt (D:=k) (mo:= .dict T [(.str X.P.DX.1,j.why),(.str X.P.DX.2.1,j.fn),(.str X.P.DX.2.2,j.at_)]) g.8 g.9 (Kg x g.8) g.10<|.IE (B6 Y) g.11<|g.12.mono (Bh.app _ _)<|F'.refl _).adopt (D:=e) (mo:= .inst X.P.Et p.length) f.1 (λm=>(Cj.mp m).elim f.2 λm=>yJ<|B3.mp m) (Kg x f.1) f.3 (Lp r P k g.1 c4 c3 (by clear c3;obtain⟨c,L,I,J⟩:=r;cases g.3;rfl) g.4<|by rw[U (Er<|by simp [u.1])<|U (DO<|by rw[u.1]at⊢;rw[B2 _])<|U u.1<|U (GI ..) ?_];rfl);rw[Bc p]at K;rw[(BX K (B.mu (λa M q=>?_) λi a e1=>Bh.app _ _ i a<|Bh.app _ _ i a e1)<|by rw[U (DO<|by simp [u.1]) ?_];simp [u.1]),xE (F a M) λo e1=>(Cj.mp q).elim (λq=>(Cj.mp q).elim (B.1 a M) λq=>?_) λq=>?_,nn<|(B3.mp q▸g.8:s.heap.get? a=AI).symm.trans e1,nn<|(B3.mp q▸f.1:s.heap.get? a=AI).symm.trans e1]
theorem ql:∀{X F t A l i x s Q E}{y}{L}{z}{fl}{u}{f}{J}{p}(I:C3 i F t l)(M:F.names.lookup y=V .local)(D:Af X l (CM i) x s f J p)(j:B4 X i t f u p.heap)(B:Ua X f p.heap z fl)(P:B7 X l i t x s (.ok z (λ_=>AI) J) Q E),Ab X.M A (do bindName i y .none;unbindBehindTheSuite i y L) (λ_ a=>Q fl a) E p:=by intros X F t A l i x s Q E y L z fl u f J p _ I M D j B P;injection j.3 with Z _ G _;rw[wpAny_nameGoes (I.2 y M) G (by rw[U I.1 ?_];rfl) λR K g k=>?_];intros _ R K _ g k;have S:=Af.Xg D.1 j (t:=p.toks+1) (.head _) k (by rw[Ht g λo _ _ q _=>⟨o,q⟩]) (λ_=>by rw[G9 g λo W Y q h _=>(Mw o W Y q h)]);rw[B7.ok P (D.trans<|S.mono λb m=>by rw[U (B3.mp m)<|.head _]) (⟨j.1,j.2,(Aa K g λ_ _ _ _ q=>nomatch q),λe c O=>(j.4 e c O).imp λv q=>⟨q.1.sameBut k<|Yp j O,λ_ _ _ _ q=>nomatch q⟩⟩:B4 X i t f (λ_=>AI) R) ?_];clear P;induction z using CX.casesOn with|next=>rw[B]|cont=>rw[B]|ret v=>rw[AY B λw q r=>(Aa w q<|r.mono (Bh.refl _) (S.tu D.1 λb m=>LU j b<|by rw[U (B3.mp m)<|.head _]).t)]
theorem B4.YA(L:B4 (X.wp p) env vm μ ρ h):B4 X env vm μ ρ h:=⟨L.1,L.2,L.3,L.4⟩
theorem B4.wp(L:B4 X env vm μ ρ h):B4 (X.wp p) env vm μ ρ h:=⟨L.1,L.2,L.3,L.4⟩
theorem B7.pinned(P:B7 X envs env vm b f r.calm Q E)(k:∀m g o,B7 X envs env vm b f (.ok m (λZ=>AI) o) Q E->∀a c j,Af X envs (CM env) μ s c o j->B4 X env vm c g j.heap->Ua X c j.heap m a->q a j):B7 (X.wp<|e::X.pin) envs env vm μ s r q w:=by induction r using RS.casesOn with|bad=>rw[P.elim]|exc=>rw[P.elim]|ok m g o=>rw[λa c j p v u=>k m g o P a c j ⟨p.1.YA,p.2,p.3⟩ v.YA u]
theorem yN:∀{X C N rz d n sc vm A out env μ H s ρ Q E}{NJ h₀}{b h}{y}{np hp pos}{k}{cb ch}(F:I0 X C N d)(EO:JO X)(NP:∀p,Hm (X.wp p) C N d n)(hA:Ar X A d (env::out) rz)(he:C3 env sc vm<|env::out)(hf:∃L,env.frame=AA L)(x:St X (env::out) μ H s)(L:B4 X env vm μ ρ s.heap)(hg:F5 sc X.T.exc=AG)(hv:isVar sc y=AG)(hl:sc.names.lookup y=AA .local)(hk:vm.lookup y=AA k)(h1:Av (cS X.T n sc vm) (NJ::b)=AA cb)(h2:Av (cS X.T n sc vm) (h₀::h)=AA ch)(P:B7 X (env::out) env vm μ s (mS X.P C N (.try cb k ch) rz ρ H) Q E),Ab X.M A (Fh (.Try (NJ::b) [.ExceptHandler (AA<|.Name X.T.exc np) (AA y) (h₀::h) hp] [] [] pos) env) Q E s:=by intros X C N rz d n sc vm A out env μ H s ρ Q E NJ h₀ b h y np hp pos k cb ch _ F EO NP hA he hf x L hg hv hl hk h1 h2 P;(injection hf with Lf _ Ve;clear hf);injection EO.1 with cl _ EN;have IH:Hm X C N d n:=NP X.pin;rw[wpAny_Try_except<|N7 IH hA he ⟨Lf,Ve⟩ (NJ::b) h1 x L ?_];rw[abi]at P;revert P;cases CP X.P C N cb rz ρ H with|bad=>rw[λP=>P]|ok f C2 H'=>(induction f using CX.casesOn with|next=>rw[λP fl Bd s' A' L' R=>by rw[A9 R<|Qp<|P _ Bd s' A' L' A7]]|cont=>rw[λP fl Bd s' A' L' R=>by rw[A9 R<|P _ Bd s' A' L' A7]]|ret v=>rw[λP fl Bd s' A' L' R=>by(rw[AY R λw BL r=>?_];clear R;rw[A9 BL ?_]);rw[P _ Bd s' A' L'<|Aa w A7 r]])|exc xc C2 H'=>intro P;rw[Ff.note (G:=λe Dc=>Ab X.M A (QK e AI) (λZ Nr=>Ab X.M A (handleBy e env [.ExceptHandler (AA<|.Name X.T.exc np) (AA y) (h₀::h) hp]) Q E Nr) E Dc) hA.1 Ve x λe Bd s' A' L' z=>?_];obtain⟨f,g,b1⟩:=z;rw[Ue (fl:=CW<|env::out) g.1 g.3 b1 λhh hn=>?_];(rw[DE (Ff.after x A' L' f g (λT' q=>by obtain rfl:=AN q;rw[b1.1]) hn<|.inl A7) λA2 L2 Bf=>?_];obtain⟨f',g',b2⟩:=Bf);rw[wpAny_handleBy_cons (codeAny_handlers_test<|PZ F.1.1 A2.1 he hg EN.1<|AY g'.2 λqX c1 c2=>?_) λq=>(by cases q)];obtain rfl:=AN<|EN.2.symm.trans c2;rw[sA EN.4 (EO.2 EN.2) EN.6 EN.7 (F.1.1.1.keeps A2.1.4) g'.1 c1<|((codeAny_handlers_suite_as<|Ue (fl:=CW<|env::out) g'.1 g'.3 b2 λhh2 Ky=>?_):Ie X.M (A.mark<|AA<|.ref e) _ _ _)];(rw[DE (Ff.after (s:={s' with heap:=hh}) x A2 L2 f' g' (λT' q=>by obtain rfl:=AN q;rw[b2.1]) Ky<|.inl A7) λA3 L3 E9=>?_];obtain⟨f3,g3,_⟩:=E9);rw[DE (qi x A3 L3 (λa m=>(P7 L m).imp λo q=>q.1) f3 g3) λA5 L5 e5=>Ny he A5.1 L5 hv hk (mv:= .ref<|H'.length+1) (Kq e5) λxZ a ma Z A6 L6=>?_];have vL:Ar (X.wp<|e::X.pin) (A.mark<|AA<|.ref e) d (env::out) AH:=⟨hA.1,hA.2,hA.3,(λq=>(by cases q)),.inr<|Aa e (.head _) A7⟩;rw[AY g3.2 λcx eF Z=>?_];have pk:OJ xZ.heap e:=⟨_,_,(A6.3 e _ g3.1).1 (λZ=>⟨cx,eF⟩) (λm=>by rw[AY (P7 L ma) λo q Z=>nn<|(B3.mp m▸f.1:s.heap.get? a=AI).symm.trans q])<|Kg x f.1,⟨g3.3,g3.6⟩,cx,eF⟩;rw[N7 (NP<|e::X.pin) vL he ⟨Lf,Ve⟩ (h₀::h) h2 (A6.1.pinned (E7 e5) pk) L6.wp<|B7.pinned P λf8 ρ8 H8 P fl μ8 s8 A8 L8 R8=>ql he hl ((A5.trans<|A6.mono (ex':=CM env) λb m=>by rw[A9 (B3.mp m) ma]).trans A8) L8 R8 P]
end
section
open PySem PySem.W PySem.Calls PyProof.Rows
variable{X:Cx}{C:AL->CF}{N:AE}{rz:AL}{d n:AE}
theorem vR{T}{g}{i}{e}{p}{c}(f:∀a b c d,e≠.ListComp a b c d)(h:cS T (n+1) g i (.Expr e p)=V c):(cE T n g i e).map CS.expr=V c:=by induction e using Cr<;>first|rw[h]|rw[Aj Y<|f _ _ _ _]
theorem uD(h:cS a (n+1) b f (.Assign [.Subscript o i q] e p)=V c):((cE a n b f o).bind λx=>(cE a n b f i).bind λy=>(cE a n b f e).map λc=>CS.Ka x y c)=V c:=by induction i using Cr<;>first|rw[h]|rw[nn h]
set_option tactic.hygienic true in theorem abA:cS a (n+1) f g (.Assign (t::c::b) e p)=AI:=by
 induction t using Cr<;>first|rfl|skip
 rename_i o i q;induction i using Cr<;>rfl
set_option tactic.hygienic true in theorem vO:∀{n}{T:CT}{k:Bt}{i:VM}{e:AO Expr}{f:AO Expr}{p:Pos}{c:CS}{G:Prop}(h:cS T (n+1) k i (.Raise e f p)=V c)(z:∀q a b j v,e=V (.Call (.Name T.exc q) [a,b,j] [] v)->f=AI->F5 k T.exc=I->((cE T n k i a).bind λa=>(cE T n k i b).bind λb=>(cE T n k i j).map λc=>CS.raise a b c)=V c->G),G:=by intros n T k i e f p c G _ h z;generalize B:e=m at h;generalize A:f=D at h;induction m using C4 with|none=>rw[nn h]|some m=>(induction m using Cr<;>first|rw[nn h]|skip);rename_i g u w q;(induction g using Cr<;>first|rw[nn h]|skip);(rcases u with _|⟨a,_|⟨b,_|⟨E,_|⟨d,u⟩⟩⟩⟩<;>first|rw[nn h]|skip);(induction w using An<;>first|rw[nn h]|skip);(induction D using C4<;>first|rw[nn h]|skip);rw[CB h λo y=>?_];rename_i x _;have r:x=T.exc:=eq_of_beq (B1 o).2;rw[z _ _ _ _ _ (B.trans<|by rw[U r Y]) A (r▸(B1 o).1) y]
set_option tactic.hygienic true in theorem tL{T:CT}{v:Bt}{i:VM}{b:O Fe}{l:O ExceptHandler}{o f:O Fe}{p:Pos}{c:CS}{G:Prop}(h:cS T (n+1) v i (.Try b l o f p)=V c)(z:∀g r q y m j E,b=g::r->l=[.ExceptHandler (V<|.Name T.exc q) (V y) (m::j) E]->o=[]->f=[]->F5 v T.exc=I->v.names.lookup y=V .local->((GK v i<|.Name y default).bind λk=>(Av (cS T n v i)<|g::r).bind λb=>(Av (cS T n v i)<|m::j).map λh=>CS.try b k h)=V c->G):G:=by
 generalize P:b=D at h;generalize e:l=u at h;generalize M:o=F at h;generalize L:f=K at h;rcases D with _|⟨g,D⟩;rw[nn h];rcases u with _|⟨⟨w,H,J,q⟩,u⟩;rw[nn h];rcases w with _|w;rw[nn h];induction w using Cr<;>first|rw[nn h]|skip
 rename_i x _;induction H using C4<;>first|rw[nn h]|skip
 induction J using An<;>first|rw[nn h]|skip
 induction u using An<;>first|rw[nn h]|skip
 induction F using An<;>first|rw[nn h]|skip
 induction K using An<;>first|rw[nn h]|skip
 rw[CB h λA a=>?_];have B:x=T.exc:=eq_of_beq (B1 (B1 A).1).2;rw[z _ _ _ _ _ _ _ P (e.trans<|by rw[U B Y]) M L (B▸(B1 (B1 A).1).1) (eq_of_beq (B1 A).2) a]
theorem Ik{i:O Env}{j:Env}{l:VM}{m:O AQ}{H:MH}{s:Ae}{p:Loc}{Q:Flow->Ae->Prop}{E:AX->Ae->Prop}{b:Type}{o:AO b}{f:b->CS}{c:CS}{G:Prop}(h:o.map f=V c)(P:B7 X i j l m s (mS X.P C N c rz p H) Q E)(k:∀a,o=V a->B7 X i j l m s (mS X.P C N (f a) rz p H) Q E->G):G:=Bo h λa e g=>k a e<|g.symm▸P
theorem lS(h:GK f a (.Name nm p)=V k):isVar f nm=I/\a.lookup nm=V k:=by rw[By (Nb h) λg q o j m=>?_,xA (PySem.Expr.Name.inj o) λc b=>U c<|U b ?_,⟨j,m⟩]
theorem sI:∀{X C N d n}(F:I0 X C N d)(EO:JO X)(NP:∀p,Hm (X.wp p) C N d n),Hm X C N d<|n+1:=by intros X C N d n _ F EO NP;intros rz sc vm st c _ h A out env μ H s ρ Q E hA he hf x L P;intros _ A out env μ H s ρ Q E _ hA he hf x L P;have IH:Hm X C N d n:=NP X.pin;rw[hide λg z=>?_];intros _ g _ z;have z:∀BP,st=BP->Ab X.M A (Fh BP env) Q E s->g:=λBP e q=>z<|e▸q;generalize ke:st=BP at h;have z:=z BP ke;clear ke;induction BP using WO with|Expr e p=>rw[Ao (λDq:∃a b c d,e= .ListComp a b c d=>?_) λDq=>?_];(·(rw[Ir Dq λZ Z Z Z BL=>?_];clear Dq;subst BL);rw[nn h]);·have Dq:=λa b c d q=>Dq<|Nd a b c d q;rw[Ik (vR Dq h) P λa h1 P=>z<|r7 F hA he x L Dq h1 P]|Assign ts e p=>(induction ts using An with|nil=>rw[nn h]|cons t ts=>induction ts using An with|cons=>rw[abA]at h;rw[nn h]|nil=>induction t using Cr with|Name nm q=>rw[BQ h λk h1 h=>Ik h P λc' h2 P=>xA (lS h1) λhv hk=>Ao (λDq:∃a b c d,e= .ListComp a b c d=>?_) λDq=>?_];(·(rw[Ir Dq λelt gens Bw cp Bf=>?_];clear Dq;subst Bf);induction n using CV with|zero=>rw[nn h2]|succ n=>obtain⟨EF,iter,ifs,xs,src,cs,c₀,rfl,ok,g1,g2,g3,g4,rfl⟩:=dF h2;rw[z<|aaS F hA he x L hv hk ok g1 g2 g3 g4 P]);rw[z<|pw F hA he x L (λa b c d q=>Dq<|Nd a b c d q) hv hk h2 P]|Tuple=>rw[Kp h λhc h=>BQ h λks h1 h=>Ik h P λc' h2 P=>?_];rw[not_or]at hc;rw[z<|z5 F hA he x L (Bool.of_not_eq_true hc.1) (J5.mp hc.2) h1 h2 P]|Attribute o m q=>rw[BQ h λco h1 h=>BQ h λk h2 h=>Ik h P λc' h3 P=>z<|r_ F hA he x L h1 (TC h2) h3 P]|Subscript o i q=>rw[BQ (uD h) λco h1 h=>BQ h λci h2 h=>Ik h P λc' h3 P=>z<|nL F hA he x L h1 h2 h3 P]|_=>rw[nn h])|If t b o p=>rw[BQ h λct h1 h=>BQ h λcb h2 h=>Ik h P λco h3 P=>z<|mM F hA he x L IH hf h1 h2 h3 P]|While t b o p=>(induction o using An with|cons=>rw[nn h]|nil=>rw[BQ h λct h1 h=>Ik h P λcb h2 P=>z<|xU F hA he hf x L IH h1 h2 P])|For t i b o p=>(induction o using An with|cons=>rw[nn h]|nil=>rw[BQ h λxs h1 h=>BQ h λsrc h2 h=>Ik h P λcb h3 P=>z<|abe F hA he hf x L IH h1 h2 h3 P])|Continue p=>(replace h:=AN h;subst h);rw[z<|pW F hA he x L P]|Return e p=>(induction e using C4 with|some e=>rw[Ik h P λc' h1 P=>z<|za F hA he x L h1 P]|none=>(replace h:=AN h;subst h);rw[z<|wpAny_Return_none<|B7.ok (f:= .ret .none) P (Af.refl x) L<|Aa .none A7 ON])|Raise e f p=>rw[vO h λq a b c₁ p' e1 e2 hg h9=>?_];clear h;subst e1 e2;rw[BQ h9 λca h1 h=>BQ h λcb h2 h=>Ik h P λcc h3 P=>z<|qd F EO hA he x L hg h1 h2 h3 P]|Try b hs o f p=>rw[tL h λNJ abt q y h₀ EV p' e1 e2 e3 e4 hg hl h9=>?_];clear h;subst e1 e2 e3 e4;rw[BQ h9 λk h1 h=>BQ h λcb h2 h=>Ik h P λch h3 P=>xA (lS h1) λhv hk=>z<|yN F EO NP hA he hf x L hg hv hl hk h2 h3 P]|_=>rw[nn h]
theorem gf(F:∀p,I0 (X.wp p) C N d)(b:JO X):∀n p,Hm (X.wp p) C N d n|0,_=>λZ Z Z Z Z h=>nomatch h|n+1,p=>sI (X:=X.wp p) (F p) b.wp λq=>gf F b n q
theorem sound(F:Facts X)(b:Kc X)(c:JO X)(N d:G)(a:AL):IY X (BR X.P X.F N d a) d a:=gu F.1 b (λd n O=>gf (λp=>⟨F.wp,O p⟩) c n) d X.pin a
end
section
set_option autoImplicit true
open PySem PySem.W PyProof.Rows
def isNone:AX->AL| .none=>I|_=>T
def aD:ScopeKind->AL| .function=>I|_=>T
def ZF(K:Cy)(a:PO):AL:=a.closure.isEmpty&&(isNone a.defaults&&(decide (a.globals=EC)&&(decide (a.builtins=Gh)&&(!a.scope.isCoroutine&&(!a.scope.isGenerator&&(aD a.scope.kind&&codeIn K a.code a.qualname))))))
def Z8:Data->AO PO| .func a=>V a|_=>C
def jh:FuncBody->AO (O Fe)| .stmts b=>V b|_=>C
def fnAt(T:CT)(K:Cy)(c:AQ):AO Fn:=(K.lookup c).bind λo=>(Z8 o.data).bind λa=>(jh a.body).bind λb=>if ZF K a=I then Tv T a.params b a.scope else C
inductive rI(K:Cy)(fd:PO):Prop
 |mk(td:fd.closure=[])(de:fd.defaults= .none)(gl:fd.globals=EC)(bu:fd.builtins=Gh)(co:fd.scope.isCoroutine=T)(ge:fd.scope.isGenerator=T)(ki:fd.scope.kind= .function)(cd:codeIn K fd.code fd.qualname=I)
theorem mO(h:isNone v=I):v= .none:=by induction v using Gm with|none=>rfl|_=>rw[nb h]
theorem y5(h:aD v=I):v= .function:=by induction v using ScopeKind.casesOn with|function=>rfl|_=>rw[nb h]
theorem bG(h:Z8 d=V a):d= .func a:=by induction d using Mx with|func b=>rw[A_ Data.func<|AN h]|_=>rw[nn h]
theorem nZ(h:jh d=V b):d= .stmts b:=by induction d using kq with|stmts c=>rw[A_ FuncBody.stmts<|AN h]|_=>rw[nn h]
theorem jv:∀{K}{a}(b:ZF K a=I),rI K a:=by intros K a _ b;rw[xA (B1 b) λo b=>xA (B1 b) λm b=>xA (B1 b) λk b=>xA (B1 b) λj b=>xA (B1 b) λg b=>xA (B1 b) λf b=>xA (B1 b) λd c=>⟨MI.mp o,mO m,DJ k,DJ j,(NL _).mp g,(NL _).mp f,y5 d,c⟩]
theorem abX  : ∀ (X : Cx) (j : X.K.In X.base) (h : ∀ f g, X.fn f = V g  → X.F f = fnAt X.T X.K g), Kc X := by
 intros X _ j h
 rw [
       ⟨fun f g u r d => BQ ((h f g r).symm.trans d) fun o m d => BQ d fun v p d => BQ d fun b q d => CB d fun k d =>
 have c := jv k
 .mk m (bG p) (nZ q) d c.1 c.2 c.3 c.4 c.5 c.6 c.7 (codeRec_of j c.8)⟩]
theorem allAt{l:O AL}(h:l.all id=I){i:G}{b:AL}(e:l[i]?=V b):b=I:=Eo.mp h b<|E7 e
theorem EJ{c:Type} [BEq c] [LawfulBEq c]{l:O AL}(h:l.all id=I){i:G}{a b:c}(e:l[i]?=V (a==b)):a=b:=Bn.mp<|allAt h e
end
section
set_option tactic.hygienic true
open PySem PySem.W PySem.Calls PyProof.Rows
structure Tb where
 ct:CT
 IM:O G
 Km:O<|G×G
 Q0:O MV
 P6:O<|(G×G)×G
 HB:O<|G×G
 kn:G
 DX:G×G×G
instance:CK Tb:=⟨⟨Oi,[],[],[],[],[],0,(0,0,0)⟩⟩
def QQ:G->AO LM|0=>V .append|1=>V .pop|2=>V (.extend ())|3=>V .reverse|_=>C
def Tb.P(t:Tb):Code:=⟨λc k=>t.P6.lookup (c,k),QQ,λg=>t.Q0[g]?,λc=>t.HB.lookup c,1,t.DX⟩
def Tb.F(t:Tb)(K:Cy)(f:G):AO Fn:=(t.IM[f]?).bind<|fnAt t.ct K
def Tb.X(t:Tb)(a:Hl)(w:HQ)(K:Cy)(s:Ae)(L:AQ):Cx:=⟨a,w,K,s.heap,s.os,t.ct,t.P,t.F K,λf=>t.IM[f]?,λc=>t.Km.lookup c,[t.kn,L],[]⟩
def DT{b:Type}(o:AO b)(p:b->AL):AL:=match o with|V a=>p a|C=>T
def XR{b:Type}(o:AO b)(p:b->AL):AL:=match o with|V a=>p a|C=>I
theorem anyS{b:Type}{o:AO b}{p:b->AL}{G:Prop}(h:DT o p=I)(k:∀a,o=V a->p a=I->G):G:=by induction o using C4 with|some a=>rw[k a Y h]|none=>rw[nb h]
theorem gy{b}{o:AO b}{p a}(h:XR o p=I)(e:o=V a):p a=I:=by subst e;rw[h]
def itemsOf:Data->AO (CI AX)| .seq a _=>V a|_=>C
def iJ(K:Cy)(a:AQ):AO<|CI AX:=(K.lookup a).bind λo=>(itemsOf o.data).bind λb=>if o.cls== .type "tuple"&&(o.dict.isNone&&(o.slots.size==0&&decide (b.size<=1000)))then V b else C
theorem Xh{o:Obj}{f c d}{b:CI (AO AX)}(m:o.cls=f)(k:o.dict=c)(j:o.data=d)(g:o.slots=b):o=⟨f,c,d,b⟩:=by induction o using Obj.casesOn;subst m;subst k;subst j;subst g;rfl
theorem ri{d b}(h:itemsOf d=V b):∃n,d= .seq b n:=by induction d using Mx with|seq c n=>rw[⟨n,A_ (Data.seq · n)<|AN h⟩]|_=>rw[nn h]
theorem aaO{K:Cy}{h a b}(X:K.In h)(e:iJ K a=V b):∃n,IsT h a b n/\b.size<=E0:=BQ e λo f e=>BQ e λd g e=>CB e λc e=>by rw[Ag (AN e) ?_];obtain⟨q,c⟩:=B1 c;obtain⟨p,c⟩:=B1 c;obtain⟨m,k⟩:=B1 c;obtain⟨n,j⟩:=ri g;rw[(Aa n ((X _ _ f).trans<|A_ V<|Xh (Bn.mp q) (NW.mp p) j<|gD<|Bn.mp m)<|L (DJ k)<|by rw[U HZ ?_];decide)]
mutual noncomputable def Qq(K:Cy)(S:O Am)(f:G):MV->AX->AL| .none,.none=>I| .bool b,.bool c=>b==c| .int i,.int j _=>i==j| .str k,.str x _=>S[k]?==V x| .tup l,.ref a=>DT (iJ K a) λd=>Y5 K S f l d.toList| .ref 0,.ref a=>a==f|_,_=>T noncomputable def Y5(K:Cy)(S:O Am)(f:G):O MV->O AX->AL|[],[]=>I|m::g,v::vs=>Qq K S f m v&&Y5 K S f g vs|_,_=>T end
mutual theorem W8{K:Cy}{S:O Am}{d:G}{h:BC}{μ:O AQ}(X:K.In h)(Gp:μ[0]?=V d):∀{m:MV}{v:AX},Qq K S d m v=I->RV S μ h m v
| .none,v,e=>by induction v using Gm<;>first|rw[Y]|rw[nb e]
| .bool b,v,e=>by
 induction v using Gm<;>first|rw[nb e]|skip
 rename_i c;rw[A_ To (Bn (a:=b) (b:=c)|>.mp e).symm]
| .int i,v,e=>by
 induction v using Gm<;>first|rw[nb e]|skip
 rename_i c t;rw[⟨t,A_ (WL · t) (Bn (a:=i) (b:=c)|>.mp e).symm⟩]
| .str k,v,e=>by
 induction v using Gm<;>first|rw[nb e]|skip
 rename_i y t;rw[(Kl y t (Bn (a:=S[k]?) (b:=V y)|>.mp e) Y)]
| .tup l,v,e=>by
 induction v using Gm<;>first|rw[nb e]|skip
 rename_i a;rw[anyS e λf g e=>AY (aaO X g) λn i z=>(HV a f n Y i z<|fP X Gp e)]
| .ref i,v,e=>by induction i using CV with|succ=>induction v using Gm<;>exact nb e|zero=>(induction v using Gm<;>first|rw[nb e]|skip);rename_i a;rw[(Aa d Gp<|A_ Ec<|Bn (a:=a) (b:=d)|>.mp e)]theorem fP{K:Cy}{S:O Am}{d:G}{h:BC}{μ:O AQ}(X:K.In h)(Gp:μ[0]?=V d):∀{m:O MV}{v:O AX},Y5 K S d m v=I->Ax S μ h m v
|[],v,e=>by induction v using An<;>first|rw[Y]|rw[nb e]
|m::o,v,e=>by induction v using An with|nil=>rw[nb e]|cons v vs=>rw[Ef (a:=Qq K S d m v) e λe1 j=>Ax.cons (W8 X Gp e1)<|fP X Gp j]end
def Tb.Zv(t:Tb)(K:Cy):AL:=t.Km.all λc=>Oy K c.2&&((c.1==1||(Sl K c.2 ""&&(UW K c.2&&(D9 K (.ref c.2) "__setattr__"==V (V<|.builtin "object.__setattr__")&&(makesIn K c.2&&XR (t.HB.lookup c.1) λf=>DT t.IM[f]? λa=>D9 K (.ref c.2) "__init__"==V (V<|.ref a)&&MS K (.ref a)==V (.type "function"))))))&&(t.ct.strs.zipIdx.all λb=>match t.P6.lookup (c.1,b.2)with|C=>D9 K (.ref c.2) b.1==V C|V f=>DT t.IM[f]? λa=>D9 K (.ref c.2) b.1==V (V<|.ref a)&&isFn K (.ref a)))
def T7:O Am:=["len","list","tuple","all","any","sum","max","int","range","enumerate"]
def Tb.yr(t:Tb)(K:Cy):AL:=(t.ct.Py.all λc=>XR t.Q0[c.2]? λe=>DT (FR K EC c.1) λo=>DT o λv=>Qq K t.ct.strs t.kn e v)&&((t.ct.Ng.all λa=>DT t.IM[a.2]? λb=>FR K EC a.1==V (V<|.ref b)&&JK K (.ref b))&&((t.ct.PF.all λa=>DT (t.Km.lookup a.2) λd=>FR K EC a.1==V (V<|.ref d)&&JK K (.ref d))&&((T7.all λn=>FR K EC n==V C)&&((t.IM.all λb=>JK K<|.ref b)&&((G_ 4).all λk=>DT (QQ k) λm=>t.ct.strs[k]?==V (VK m))))))
def Tb.dw(t:Tb):AL:=decide t.ct.strs.Nodup&&(t.ct.strs.all PW&&t.kn !=MY)
theorem Pl{d f:Type} [BEq d] [LawfulBEq d]{n:d}{c:f}{l:O (d×f)}(h:l.lookup n=V c):(n,c)∈l:=by induction l with|nil=>rw[nn h]|cons p r g=>obtain⟨a,b⟩:=p;rw[VP]at h;cases q:n==a with|true=>replace h:=q▸h;rw[Ag (AN h) ?_,U (Bn.mp q)<|.head _]|false=>replace h:=q▸h;rw[.tail _<|g h]
theorem v5:(YU.all λp=>T7.contains p.1&&(p.1 !="__name__"&&Uc p.1==V (TH p.2)))=I:=by kernel_rfl
theorem pN{n b}(e:SA n=V b):n∈T7/\n≠"__name__"/\Uc n=V (TH b):=by have q:=Eo.mp v5 _ (Pl (l:=YU) e);rw[(BX (List.contains_iff_mem.mp (B1 q).1) (OZ.mp (B1 (B1 q).2).1)<|Bn.mp (B1 (B1 q).2).2)]
section
variable{t:Tb}{prog:Hl}{w:HQ}{K:Cy}{s:Ae}{L:AQ}
theorem t_(r:t.Zv K=I)(p:∀i nm,t.Km.lookup 1=V i->D9 K (.ref i) nm=V C->∀{A:Bq}{s:Ae}{Q E:AX->Ae->Prop}{a:AQ}{u:Obj}{l:O LK}{n:G}{v:AX}{d:AL},K.In s.heap->InstAt s.heap a u i (V<|DQ l n)->Jf nm (DQ l n)=V (V v)->Nf v=I->Q v {s with toks:=s.toks+1}->Ab (BO prog w) A (M3 (.ref a) nm d) Q E s):Oo<|t.X prog w K s L:=by
 intros _ t prog w K s L _ r p;have b:∀c i,t.Km.lookup c=V i->_:=λc i h=>B1<|Eo.mp r _<|Pl h;have g:∀c i,t.Km.lookup c=V i->c≠1->_:=λc i h n=>(US (B1 (b c i h).2).1).resolve_left λq=>n<|Bn.mp q;rw[⟨λc i h n nm=>(B1<|g c i h n).1,λc i h=>(b c i h).1,λc i nm h z=>?_,λc i k nm h y=>?_,λc i h n=>?_,λc i f h n e=>?_⟩];·rw[Ao (λn:c=1=>?_) λn=>?_];(·subst n;rw[p i nm h z]);rw[oR (X:=t.X prog w K s L) (nm:=nm) (((B1<|g c i h n).1:Sl K i nm=I)) (b c i h).1 z]
 ·have q:=Eo.mp (B1 (b c i h).2).2 (nm,k) (List.mem_zipIdx_iff_getElem?.mpr y);rw[⟨λe=>?_,λf e=>?_⟩];(·have e:t.P6.lookup (c,k)=C:=e;dsimp only at q;rw[e]at q;rw[Bn.mp q]);·have e:t.P6.lookup (c,k)=V f:=e;dsimp only at q;rw[e]at q;rw[anyS q λm j q=>(DB m j (Bn.mp (B1 q).1)<|(B1 q).2)]
 ·have q:=(B1<|g c i h n).2;rw[(BX ((B1 q).1) (Bn.mp (B1 (B1 q).2).1)<|(B1 (B1 (B1 q).2).2).1)]
 rw[anyS (gy (o:=t.HB.lookup c) (a:=f) (B1 (B1 (B1 (B1<|g c i h n).2).2).2).2 e) λm j q=>(DB m j (Bn.mp (B1 q).1)<|Bn.mp (B1 q).2)]
theorem mY(j:K.In s.heap)(a:t.yr K=I){c:Am->AO AX}(d:s.heap.Ns Gh c)(M_:∀x:Am,x≠"__name__"->c x=Uc x):Mh<|t.X prog w K s L:=by
 revert j a;intros _ t prog w K s L c _ d M_ j a;rw[xA (B1 a) λp a=>xA (B1 a) λr a=>xA (B1 a) λu a=>xA (B1 a) λy a=>xA (B1 a) λz A=>?_];have b:∀n,n∈T7->FR K EC n=V C:=λn m=>Bn.mp<|Eo.mp y n m;rw[⟨λn g B D E=>?_,λn k h=>?_,λn k h=>?_,λn P h=>?_,(LS (b _<|by decide+kernel) c d<|?_),(LS (b _<|by decide+kernel) c d<|?_),λf i h=>?_,λk m h=>?_⟩,anyS (gy (o:=t.Q0[g]?) (a:=B) (Eo.mp p _<|Pl D) E) λo F q=>anyS q λv ev q=>(Aa v (F.trans<|A_ V ev)<|W8 (μ:=[t.kn,L]) j Y q),anyS (Eo.mp r _<|Pl h) λi l q=>(DB i (Bn.mp (B1 q).1) l<|(B1 q).2),anyS (Eo.mp u _<|Pl h) λi l q=>(DB i (Bn.mp (B1 q).1) l<|(B1 q).2),DE (pN h) λm H M=>(LS (b _ m) c d<|(M_ _ H).trans M)];·rw[U (M_ _<|by decide+kernel) ?_];kernel_rfl
 ·rw[U (M_ _<|by decide+kernel) ?_];kernel_rfl
 rw[Eo.mp z _<|E7 h];·have h:QQ k=V m:=h;(have N:k<4:=by rcases k with _|_|_|_|k<;>first|rw[nn h]|decide);rw[anyS (Eo.mp A k<|eV.mpr N) λQ e q=>by obtain rfl:=AN<|h.symm.trans e;rw[Bn.mp q]]
theorem vi(p:K.In s.heap)(e:t.dw=I)(g:s.heap.NoLimit){o}(j:s.heap.get? MY=V o)(k:L≠MY):Dy<|t.X prog w K s L:=by rw[xA (B1 e) λf e=>xA (B1 e) λd c=>⟨p,g,⟨DJ f,λy m=>Eo.mp d y m⟩,⟨o,j⟩,λa m=>?_⟩];induction m using Cu with|head b=>rw[U b<|OZ.mp c]|tail m=>rw[U (B3.mp m) k]
theorem v9(b:K.In s.heap):Kc<|t.X prog w K s L:=abX _ b λf c e=>by rw[((U (show t.IM[f]?=V c from e) ?_):(t.IM[f]?).bind _=_)];rfl
end
end
section
open PySem PySem.W PySem.Calls PyProof.Rows
def intOf:MV->AO J| .int i=>V i|_=>C
def ju:AX->AO J| .int i _=>V i|_=>C
def j6:Data->AO (CI LK)| .dict a _=>V a|_=>C
theorem xr(h:intOf m=V i):m= .int i:=by induction m using MV.casesOn with|int j=>rw[A_ MV.int<|AN h]|_=>rw[nn h]
theorem xX(h:ju v=V i):∃t,v= .int i t:=by induction v using Gm with|int j t=>rw[⟨t,A_ (WL · t)<|AN h⟩]|_=>rw[nn h]
theorem pU(h:j6 d=V a):∃n,d= .dict a n:=by induction d using Mx with|dict a n=>rw[⟨n,A_ (Data.dict · n)<|AN h⟩]|_=>rw[nn h]
def YO(K:Cy)(S:O Am)(a:G):O (MV×MV)->O LK->AL|[],[]=>I|p::r,e::f=>DT (intOf p.1) λi=>DT (ju e.key) λj=>i==j&&(e.hash==hashInt j&&(Qq K S a p.2 e.val&&YO K S a r f))|_,_=>T
def keysOf(a:O<|MV×MV):O J:=a.map λd=>(intOf d.1).getD 0
def tZ(K:Cy)(S:O Am)(a:G)(b:O<|MV×MV):AL:=DT (K.lookup a) λo=>DT (j6 o.data) λc=>o.cls== .type "dict"&&(o.dict.isNone&&(o.slots.size==0&&(YO K S a b c.toList&&decide (keysOf b).Nodup)))
theorem abF:∀{K}{S}{f}{h}{μ}{prog}{w}{c}(X:K.In h)(Gp:μ[0]?=V f),∀{b},YO K S f c b=I->(∀e∈b,∃k,(J6 prog w).is k e.key=I/\e.hash=(J6 prog w).hash k)/\∃a,Pairs (J6 prog w) b a/\Hz S μ h c a/\a.map (·.1)=keysOf c:=by intros K S f h μ prog w c _ X Gp;induction c with|nil=>intros b _ e;(induction b using An with|nil=>rw[(Tt (λZ m=>((by cases m))) ([]) Pairs.nil Y Y)]|cons=>rw[nb e])|cons p r g=>intros _ p r _ g;intro b e;induction b using An with|nil=>rw[nb e]|cons d b=>intros _ d b _ e;rw[anyS e λi l e=>anyS e λj n e=>Ef e λe1 e=>Ef e λo e=>Ef e λq e4=>?_];obtain rfl:=Bn.mp e1;rw[xE (xX n) λt s=>?_];(have is:(J6 prog w).is i d.key=I:=by rw[U s<|I' i]);rw[gv (g e4) λu a v x y=>(Tt (λe m=>?_) ((i,d.val)::a) (.cons is Y v) (HV i d.val a (xr l) Y (W8 X Gp q) x)<|?_)];(·induction m using Cu with|head D2=>rw[U D2<|(Aa i is<|Bn.mp o)]|tail m=>rw[u e m]);·rw[((U l<|U y ?_):i::a.map (·.1)=(intOf p.1).getD 0::keysOf r)];rfl
theorem q8(r:IntsAre a f):Ax S μ h (f.map .int) a:=by induction r with|nil=>rw[Ax.nil]|cons n t r b=>rw[Ax.cons ⟨t,Y⟩ b]
section
theorem aa5{t:Tb}{prog}{w}{K:Cy}{s:Ae}{h}{ds:O (MV×MV)}{vs:O AX}{ns:O AD}(u:K.In s.heap)(B:s.gens= #[])(b:tZ K t.ct.strs t.kn ds=I)(p:s.heap.get? h=V {cls:= .type "list",data:= .seq vs.toArray})(A:IntsAre vs ns)(z:ns.length<=1000)(y:ds.length<=1000):St (t.X prog w K s h) [] [t.kn,h] [.dict I ds,.list I<|ns.map .int] s:=by
 intros _ t prog w K s h ds vs ns _ u B b p A z y;rw[anyS b λo W b=>anyS b λl J b=>Ef b λS b=>Ef b λT b=>Ef b λQ b=>Ef b λP X=>xE (pU J) λn r=>?_];have c:s.heap.get? t.kn=V ⟨.type "dict",C,.dict l n,#[]⟩:=(u _ _ W).trans (A_ V<|Xh (Bn.mp S) (NW.mp T) r<|gD<|Bn.mp Q);have k:t.kn≠h:=λq=>by rw[q,p]at c;rw[nomatch Obj.mk.inj (AN c)|>.2.2.1]
 rw[gv (abF (prog:=prog) (w:=w) (μ:=[t.kn,h]) u Y P) λH D x F E=>?_];have v:=q8 (S:=t.ct.strs) (μ:=[t.kn,h]) (h:=s.heap) A;have j:vs.length=ns.length:=v.length.trans (CO _);have g:∀{R:G->AK->AQ->Prop},R 0 (.dict I ds) t.kn->R 1 (.list I<|ns.map .int) h->∀(i:G)(o:AK)(a:AQ),[AK.dict I ds,.list I<|ns.map .int][i]?=V o->[t.kn,h][i]?=V a->R i o a:=λN M i o a d f=>by rcases i with _|_|i;(·(replace d:=AN d;subst d);(replace f:=AN f;subst f);rw[N]);(·(replace d:=AN d;subst d);(replace f:=AN f;subst f);rw[M]);rw[nn d]
 rw[⟨Y,by simp [k],g (R:=λZ o a=>RO _ _ s.heap a o) (.Pe y (Lp _ l n c (BX Y Y Y) Y (λe m=>H e<|by simpa using m) x<|E.symm▸DJ X) F)<|DI vs.toArray 0 p v<|?_,λZ Z e=>e,g (R:=λZ o a=>(o.fz=I/\a∈_)\/_) (.inl ⟨Y,.head _⟩)<|.inl ⟨Y,.tail _<|.head _⟩,λZ m=>(nomatch m),λZ m=>(nomatch m),B,Y,⟨[],Y⟩,λZ m=>(nomatch m)⟩,U Sz<|U HZ<|U j<|L z<|by decide]
theorem xw{t:Tb}{a}{w}{K}{s:Ae}{L}{N d f}{j}{i}{l:O J}{B}{R}(D:Facts<|t.X a w K s L)(C:Kc<|t.X a w K s L)(E:JO<|t.X a w K s L)(z:St (t.X a w K s L) [] [t.kn,L] [.dict I i,.list I<|l.map .int] s)(p:t.IM[f]?=V j)(F:d<=100)(g:BR t.P (t.F K) N d I f [.ref 1] [.dict I i,.list I<|l.map .int]= .ok (.bool I) B)(y:∀h,(∀b o,s.heap.get? b=V o->h.heap.get? b=V o)->h.gens= #[]->h.os=s.os->R (.ok<|.ret<|.bool I) h):Ie (BO a w) callerA (.call (.ref j) ⟨[.ref L],[]⟩) R s:=by
 rw[Sm ((sound D C E N d I) callerA [] f j [.ref 1] [.ref L] [t.kn,L] [.dict I i,.list I<|l.map .int] s (λv h=>R (.ok<|.ret v) h) (λZ Z=>BB) p ⟨Y,?_,?_,λZ=>Y,.inl Y⟩ z ?_ ?_) ?_];·rw[(?_:1+300+4*d<=903)];lia
 ·rw[(?_:4+40+32*d<=9000)];lia
 rw[Ax.cons (Kq Y) Ax.nil];·rw[((U g ?_):AU _ _ _ _ _ _ (BR t.P (t.F K) N d I f [.ref 1] [.dict I i,.list I<|l.map .int]) _ _)];intro u k h A m;rw[U (sX m)<|y h A.1.4 A.1.8 A.1.9]
 ·intro r h q;induction r using Except.casesOn with|ok c=>(induction c using Flow.casesOn with|ret v=>rw[q]|_=>rw[q.elim])|error e=>rw[q.elim]
end
end
section
open PySem PySem.W PySem.Calls
def cX:Data->AO ClassData| .cls a=>V a|_=>C
theorem qD(h:cX d=V b):d= .cls b:=by induction d using Mx with|cls c=>rw[A_ Data.cls<|AN h]|_=>rw[nn h]
def jE:O AX->AO (AQ×O AX)| .ref a::l=>V (a,l)|_=>C
theorem aaG(h:jE l=V q):l= .ref q.1::q.2:=by induction l using An with|nil=>rw[nn h]|cons v l=>induction v using Gm with|ref a=>(replace h:=AN h;subst h);rfl|_=>rw[nn h]
def Tx{b:Type}:O b->AO (b×O b)|a::l=>V (a,l)|[]=>C
theorem Wz(h:Tx l=V q):l=q.1::q.2:=by induction l using An with|nil=>rw[nn h]|cons a l=>(replace h:=AN h;subst h);rfl
def SS(K:Cy)(C:AQ):AL:=DT (K.lookup C) λo=>o.cls== .type "type"&&DT (cX o.data) λa=>DT (jE a.mro) λq=>decide (o.slots.size=6)&&(o.slots.toList[4]?==V (V<|.builtin "Exception.__new__")&&(q.1==C&&(!a.hasDel&&(q.2.contains (.type "Exception")&&(!q.2.contains (.type "AttributeError")&& !q.2.contains (.type "NameError"))))))
inductive ExcAt(h:BC)(C:AQ)(nm q:Am)(N:AQ)(bs bm:O AX)(IA:AL)(sn:O Am)(sub:O AX)(ab:AL)(col:AO AL)(dd:AO AQ)(k0 k1 k2 k3 k5:AO AX):Prop
 |mk(at_:h.get? C=V (Yx nm q C N bs bm IA sn sub ab col dd k0 k1 k2 k3 k5 "Exception.__new__"))(exc:bm.contains (.type "Exception")=I)(noA:bm.contains (.type "AttributeError")=T)(noN:bm.contains (.type "NameError")=T)
theorem qG{b:ClassData}(d:b.mro=m)(c:b.hasDel=T):b={b with mro:=m,hasDel:=T}:=by induction b using ClassData.casesOn;subst d;cases c;rfl
theorem six{j:Type}{a:CI j}{v:j}(h:a.size=6)(k:a.toList[4]?=V v):∃g f d c b,a.toList=[g,f,d,c,v,b]:=by
 obtain⟨l⟩:=a;have h:Nat.beq l.length 6=I:=Nat.beq_eq.mpr h;rcases l with _|⟨g,_|⟨f,_|⟨d,_|⟨c,_|⟨o,_|⟨b,_|⟨m,l⟩⟩⟩⟩⟩⟩⟩<;>first|rw[nb h]|skip
 rw[⟨g,f,d,c,b,by rw[U (AN k) Y]⟩]
theorem gg:∀{K}{h}{C}(X:K.In h)(e:SS K C=I),∃x q N i l c H p n u Z m k j f d,ExcAt h C x q N i l c H p n u Z m k j f d:=by intros K h C _ X e;rw[hide λg J=>anyS e λo M y=>?_,xA (B1 y) λa w=>?_,anyS w λb P v=>anyS v λq O F=>?_,xA (B1 F) λW E=>?_,xA (B1 E) λr D=>?_,xA (B1 D) λs B=>?_,xA (B1 B) λT A=>?_,xA (B1 A) λS z=>?_,xA (B1 z) λR Q=>?_];clear y w v F E D B A z e;rw[Ir (six (DJ W)<|eq_of_beq r) λm k j f G=>xE G λd L=>?_,J ⟨_,_,_,_,_,_,_,_,_,_,_,m,k,j,f,d,(X _ _ M).trans<|A_ V (Xh (eq_of_beq a) Y ((qD P).trans<|A_ Data.cls<|qG ((aaG O).trans<|by rw[U (eq_of_beq s) Y]:b.mro= .ref C::q.2)<|NL _▸T)<|Array.toList_inj.mp L:o=Yx b.name b.qualname C b.ns b.bases q.2 b.hasDict b.slotNames b.subclasses b.abstract b.collection o.dict m k j f d "Exception.__new__"),S,NL _▸R,NL _▸Q⟩]
section
theorem tO{A}{E}{h}{g}{d}{t}{os}{nm}{q}{C}{N}{b}{c}{IA}{e}{sub}{ab}{a}{f}{k0}{i}{j}{k}{l}{M}(m:h.get? C=V (Yx nm q C N b c IA e sub ab a f k0 i j k l "Exception.__new__")){Q}(n:Q I ⟨h,g,d,t,os⟩):Ab M A (isType<|.ref C) Q E ⟨h,g,d,t,os⟩:=by
 unfold isType;repeat(first|rw[NB m ?_]|wp_step)
 rw[n]
theorem yB:∀{A E h g d t os nm q C N f e IA i sub ab c j k0 k l m n}{M}{a}{Q}(B:ExcAt h C nm q N f e IA i sub ab c j k0 k l m n)(o:Q () ⟨h,g,d,t,os⟩),Ab M A (Va "Exception.__new__" ⟨.ref C::a,[]⟩) Q E ⟨h,g,d,t,os⟩:=by
 intros A E h g d t os nm q C N f e IA i sub ab c j k0 k l m n M a Q _ B o;have F:=PySem.F.excBase_Exception;have b:=B.1;have acp:=F.noStar;unfold Va;rw[U F.newKind<|U F.newSplit<|((U (AM<|by rfl)<|Ah<|tO b ?_):Ab M A (if("__new__"=="__new__")=I then _ else _) Q E _),((U (AS<|(dc Y))<|Ah<|ZH b<|U (by rw[U Q5<|U B.2<|U (RF ..) Y]:(Ec C::e).contains (.type "Exception")=I) ?_):Ab M A (if(!I)=I then _ else _) Q E _),((U (AS<|(dc Y)) ?_):Ab M A (if(!I)=I then _ else _) Q E _),Ah<|bD b<|Ah<|wpAny_madeBy_exc b ?_,((U (AS<|by rw[bne_self_eq_false]at⊢;decide)<|U F.newRow<|(?_:Ab M A (gn "Exception.__new__" _ _) Q E _)):Ab M A (if(dy "Exception.__new__"!=dy "Exception.__new__")=I then _ else _) Q E _)];unfold gn;repeat(first|rw[NB b ?_]|rw[bD b ?_]|simp only [Bool.false_eq_true,if_false]|wp_step)
 rw[o]
abbrev G6(C:AQ)(a:AO AQ)(t:AQ):Obj:={cls:= .ref C,dict:=a,data:= .fields #[.ref t,.none,.none,.none,.bool T,.none]}
theorem oJ:∀{c w A h g d t os nm q a N k e IA l sub ab f m k0 n o r s}{R}{b}(B:ExcAt h a nm q N k e IA l sub ab f m k0 n o r s)(u:R (.ok<|.ret<|.ref<|h.objs.size+1) ⟨(h.push {cls:= .type "tuple",data:= .seq b.toArray}).push<|G6 a C h.objs.size,g,d,t,os⟩)(S_:b.length<=E0),Ie (BO c w) A (.builtin "Exception.__new__" ⟨.ref a::b,[]⟩) R ⟨h,g,d,t,os⟩:=by
 intros c w A h g d t os nm q a N k e IA l sub ab f m k0 n o r s R b _ B u S_;have F:=PySem.F.excBase_Exception;have i:=B.1;have acj:=F.ends;have vI:(Ec a::e).contains (.type "AttributeError")=T:=by rw[U Q5<|U B.3 ?_];rfl
 have ph:(Ec a::e).contains (.type "NameError")=T:=by rw[U Q5<|U B.4 ?_];rfl
 rw[codeAny_builtinAt F.entry ?_];unfold Builtin.«BaseException.__new__»;rw[wpAt_bind<|((wpAt_bind<|wpAt_stack λp j=>wpAt_of_wpAny ?_):wpAt _ _ _ (stack>>=_) _ _ _)];wp_walk;rw[wpAt_of_wpAny ?_,U F.owner ?_];repeat(first|with_reducible rw[wpAny_madeHere_exc F.canon i ?_]|with_reducible rw[NB i ?_]|(with_reducible rw[ZH i ?_];first|rw[(by rw[U Q5<|U B.2<|U (RF ..) Y]:(Ec a::e).contains (.type "Exception")=I)]at⊢|rw[vI]at⊢|rw[ph]at⊢)|wp_step)
 show R _ _;rw[U (Jp ..) ?_,u]
theorem yb:∀{f w A E h g d t os nm q a N n m IA p sub ab l s k0 u v y z}{fI}{c}{Q}(B:ExcAt h a nm q N n m IA p sub ab l s k0 u v y z)(D:GG (BO f w) h (typeLookup (.ref a) "__init__")<|V<|.ref fI)(F:∀i,GG (BO f w) h (bindSpecial (.ref fI) i) (.ref fI,[i]))(S_:c.length<=E0)(H:Ab (BO f w) (A.under<|.builtin "type.__call__" ⟨.ref a::c,[]⟩) (call (.ref fI)<|.ref (h.objs.size+1)::c) (λr S=>r= .none/\Q (.ref<|h.objs.size+1) S) E ⟨(h.push {cls:= .type "tuple",data:= .seq c.toArray}).push<|G6 a C h.objs.size,g,d,t,os⟩),Ab (BO f w) A (call (.ref a) c) Q E ⟨h,g,d,t,os⟩:=by
 intros f w A E h g d t os nm q a N n m IA p sub ab l s k0 u v y z fI c Q _ B D F S_ H;have j:=B.1;have P:=tc_lookup;have R:=tc_bind (.ref a);have W:(⟨h,g,d,t,os⟩:Ae).TypeIs (.ref a) "type":=(Aa _ j Y);rw[MG<|codeAny_of_tree<|(?_:Ab _ _ (callAny (.ref a) _) _ _ _)];repeat(any_goals(first|assumption|with_reducible rw[NB j ?_]|wp_step))
 rw[⟨Y,?_⟩,codeAny_call_builtin_at (Code.quiet_builtin _<|by decide+kernel) entry_typeCall<|wpAny_check_type_call_sub j ?_];repeat(first|with_reducible rw[NB j ?_]|with_reducible rw[wpAny_madeBy_exc j ?_]|wp_step)
 rw[codeAny_call_builtin_code (Code.quiet_builtin _ PySem.F.excBase_Exception.quiet)<|yB B ?_,oJ B ?_ S_];show Ab _ _ _ _ _ _;have k:∀b o,h.get? b=V o->((h.push {cls:= .type "tuple",data:= .seq c.toArray}).push<|G6 a C h.objs.size).get? b=V o:=λb o e=>E4 _<|E4 _ e;have rW:((h.push {cls:= .type "tuple",data:= .seq c.toArray}).push<|G6 a C h.objs.size).get? (h.objs.size+1)=V (G6 a C h.objs.size):=by heap_get
 unfold QJ;repeat(first|with_reducible rw[NB rW ?_]|(show Ab _ _ (isSubtype (Ec a)<|Ec a) _ _ _;rw[ZH (k _ _ j) ?_,U (by simp:(Ec a::m).contains (.ref a)=I) ?_])|wp_step)
 show Ab _ _ (typeLookup (.ref a) _) _ _ _;rw[(D.keeps k).at ?_,GX<|Ah<|((F _).keeps k).at ?_,Ah<|EY H (λr S K=>?_) λZ Z x=>x];obtain⟨rfl,M⟩:=K;wp_walk;rw[M]
end
end
section
open PySem PySem.W PySem.Calls PyProof.Rows Builtin Builtin.ObjectAttr
section
theorem ye(b:AX):bindSpecial (.builtin "BaseException.__getattribute__") b=pure (.builtin "BaseException.__getattribute__",[b]):=PySem.F.excAttr_ValueError.ga.bind b
theorem abH:∀{i w A E s K x a k f l v b Q}(X:K.In s.heap)(e:InstAt s.heap x k a f)(c:D9 K (.ref a) "__getattribute__"=V (V<|.builtin "BaseException.__getattribute__"))(p:D9 K (.ref a) "__getattr__"=V C)(u:HX K (.ref a) (.type "BaseException")=V I)(r:findObj K a f l=V (.value v))(q:Nf v=I)(h:Q v {s with toks:=s.toks+1}),Ab (BO i w) A (M3 (.ref x) l b) Q E s:=by intros i w A E s K x a k f l v b Q _ X e c p u r q h;obtain⟨o,g,d,t,m⟩:=s;intros _ o g d t m _ X e h;have j:=e.type (M:=BO i w);unfold M3 getAttrBy;rw[Ah<|Zz<|GX<|Ah<|j.at<|Ah<|(OM (M:=BO i w) X c).at ?_];dsimp only;rw[U ((by rw[show(Rj "BaseException.__getattribute__"==Rj "object.__getattribute__")=T from by decide+kernel,ZN]at⊢:(onTheHeap (Ec a)&&Rj "BaseException.__getattribute__"==Rj "object.__getattribute__")=T))<|U (AS<|(dc Y)) ?_];unfold getAttrByItsOwn hookBefore;rw[U (AM<|(Y:onTheHeap (Ec a)=I))<|Ah<|(OM (M:=BO i w) X p).at<|Ah<|wpAny_attempt<|GX ?_];unfold callGetattribute;rw[U ((ZN _:(b&&onTheHeap (Rj "BaseException.__getattribute__"))=T))<|U (AS<|(dc Y)) ?_];unfold boundAndCalled;rw[U (ye ..)<|Ah<|B8<|((MG<|Xd PySem.F.excAttr_ValueError.ga.plain PySem.F.entry_bexc_ga<|@check_slot (BO i w) _ _ ⟨o,g,d,t+1,m⟩ "BaseException.__getattribute__" "BaseException" "__getattribute__" (.ref x) [.str l t] [] _ (by decide+kernel) (by decide+kernel) (j.andThen<|QU X u) (PySem.F.args_bexc_ga (.ref x)<|.str l t) ?_):Ab _ _ (call (.builtin "BaseException.__getattribute__") [.ref x,.str l t]) _ _ _)];unfold Builtin.«object.__getattribute__»;rw[Ah<|B8<|Ah<|B8<|Ah<|j.at<|Ah<|(looks_find (M:=BO i w) X e r).at<|B8<|((U (handedOut_of q)<|B8 h):Ab _ _ (handedOut v) _ _ _)]
theorem hY:∀{k w A E s a b i n v l Q}(D:s.heap.get? b=V (DQ i n))(d:(Jf a<|DQ i n).isSome=I)(f:i.length<=900)(h:Q (.done<|.ret .none) {s with heap:=s.heap.update b (HN a (EI w.params a) (.str a s.toks) v),toks:=s.toks+1}),Ab (BO k w) A (storeInDict b (.str a l) a v) Q E s:=by
 intros k w A E s a b i n v l Q _ D d f h;have e:=QG a (EI w.params a) (.str a s.toks) v i n;have j:(s.heap.update b<|HN a (EI w.params a) (.str a s.toks) v).get? b=V (DQ (putL a (EI w.params a) (.str a s.toks) v i)<|putN a i n):=e▸JU _ D (by rw[U e ?_];rfl);rw[Ah<|B8<|Ah ?_];unfold nsSet;rw[Ah<|Ah<|dM<|B8<|Ah<|Zz<|Ah<|RE D ?_];dsimp only;have c:(!i.toArray.any (·.key.isStr a)&&i.toArray.any (·.refKey))=T:=by rw[Ag TR<|Ag TR ?_];cases q:List.find? (λx=>x.key.isStr a) i with|some g=>rw[U (gk.mpr<|Aa g (kf q)<|jM q) ?_];rfl|none=>cases z:i.any (·.refKey)with|false=>simp [z]|true=>rw[WZ]at d;unfold getL at d;rw[q]at d;simp [z]at d
 rw[U (c7 ..)<|U c<|iY D ?_,Ah<|wpAny_lookBehind j (pastItsLine_dict<|by have:=jP a (EI w.params a) (.str a s.toks) v i;rw[U Sz<|U HZ ?_];lia) ?_,B8 h]
def RH:O AX->O AX| .ref _::l=>RH l|l=>l
def bz:AX->AO String| .type a=>V a|_=>C
theorem XA(h:bz v=V a):v= .type a:=by induction v using Gm with|type b=>(replace h:=AN h;subst h);rfl|_=>rw[nn h]
theorem qk:∀{l m},RH l=m->m.contains (.type "object")=I->(∀b,Se b "__setattr__" m=pure ())->l.contains (.type "object")=I/\∀b,Se b "__setattr__" l=pure ():=by intros l m;induction l with|nil=>rw[λe d c=>by subst e;rw[⟨d,c⟩]]|cons v l f=>intros _ v l _ f;induction v using Gm with|ref a=>intro e d c;obtain⟨j,g⟩:=f e d c;rw[⟨Q5.trans<|by rw[U j<|U (RF ..) Y],λb=>(refuseLoop_ref _ _ _ _).trans<|g b⟩]|_=>rw[λe d c=>by clear f;subst e;rw[⟨d,c⟩]]
def OE(K:Cy)(C:AQ):AL:=DT (clsIn K C) λa=>a.hasDict&&Av bz (RH a.mro)==V ["Exception","BaseException","object"]
theorem tm(b:AX):Se b "__setattr__" [.type "Exception",.type "BaseException",.type "object"]=pure ():=by kernel_rfl
set_option tactic.hygienic true in theorem Zk{K}{C}(e:OE K C=I):∃a,clsIn K C=V a/\a.hasDict=I/\a.mro.isEmpty=T/\a.mro.contains (.type "object")=I/\∀c,Se c "__setattr__" a.mro=pure ():=by
 rw[hide λg h=>anyS e λa i e=>xA (B1 e) λe1 e=>?_];have e:=eq_of_beq e;have j:RH a.mro=[.type "Exception",.type "BaseException",.type "object"]:=by generalize RH a.mro=m at e;induction m using An with|nil=>cases e|cons p m=>rw[C0 e λb d k e q=>?_];(rw[xA (Cs q) λBL Bf=>?_];subst BL;subst Bf);induction m using An with|nil=>cases e|cons r m=>rw[C0 e λb d l e q=>?_];(rw[xA (Cs q) λBL Bf=>?_];subst BL;subst Bf);induction m using An with|nil=>cases e|cons s m=>rw[C0 e λb d n e q=>?_];(rw[xA (Cs q) λBL Bf=>?_];subst BL;subst Bf);induction m using An with|nil=>rw[U (XA k)<|U (XA l)<|U (XA n) Y]|cons t m=>rw[C0 e λb d Z Z q=>(by cases q)]
 rw[xA (qk j Y tm) λf o=>h<|X6 a i e1 (?_) f o];generalize a.mro=m at f;induction m using An with|nil=>rw[nb f]|cons=>rfl
theorem fO:∀{i w A E s K x a k m l v Q}(X:K.In s.heap)(e:InstAt s.heap x k a m)(n:D9 K (.ref a) "__setattr__"=V (V<|.builtin "object.__setattr__"))(p:OE K a=I)(o:D9 K (.ref a) l=V C)(h:Ab (BO i w) A.in1 (storeInOwnDict (.ref x) (.ref a) (.str l s.toks) l v T) (λc j=>match c with| .done (.ret _)=>Q () j|_=>BB) E {s with toks:=s.toks+1}),Ab (BO i w) A (N2 (.ref x) l v) Q E s:=by intros i w A E s K x a k m l v Q _ X e n p o h;rw[set_plain X e n ?_];have f:=PySem.F.store_object;rw[Q9 (Zk p) λD q J u y b=>Xd f.slot.plain f.entry<|@check_slot (BO i w) _ _ {s with toks:=s.toks+1} "object.__setattr__" "object" "__setattr__" (.ref x) [.str l s.toks,v] [] _ f.kind f.split (e.type.andThen<|looks_mroIn X<|by unfold mroIn;rw[U q<|U (fV ..)<|U (AS<|by rw[u]at⊢;decide)<|U y Y]:GG (BO i w) s.heap (QJ (.ref x)<|.type "object") I) (f.args (.ref x) (.str l s.toks) v) ?_];have B:GG (BO i w) s.heap (mroOf<|.ref a) D.mro:=(Rx X q).andThen .now;obtain⟨H,g,d,t,G⟩:=s;have r:=e.type (M:=BO i w);rw[U (osa_eq ..)<|U (refuse_eq ..)<|Ah<|Ah<|r.at<|Ah<|B.at<|U (b ..)<|B8<|Ah<|r.at<|Ah<|(OM (M:=BO i w) X o).at<|Ah<|B8<|EY h (λc j z=>?_) λZ Z z=>z];rcases c with(_|_|_|_)|_<;>first|rw[z]|rw[z.elim]
theorem z4:∀{l w A E s K x a f i c M n v Q}(X:K.In s.heap)(e:InstAt s.heap x f a<|V<|DQ M n)(j:f.dict=V c)(S:D9 K (.ref a) "__setattr__"=V (V<|.builtin "object.__setattr__"))(m:OE K a=I)(p:D9 K (.ref a) i=V C)(q:(Jf i<|DQ M n).isSome=I)(o:M.length<=900)(h:Q () {s with heap:=s.heap.update c (HN i (EI w.params i) (.str i<|s.toks+1) v),toks:=s.toks+2}),Ab (BO l w) A (N2 (.ref x) i v) Q E s:=by
 intros l w A E s K x a f i c M n v Q _ X e j S m p q o h;rw[fO X e S m p<|Q9 (Zk m) λR G H N O k=>?_];have D:s.heap.get? c=V (DQ M n):=by have:=e.dict;replace this:=j▸this;rw[this]
 obtain⟨B,b,P,-⟩:=e;clear P;obtain⟨L,y,z,r⟩:=f;dsimp only at b j;subst b j;unfold storeInOwnDict;rw[Ah<|B8<|Ah<|(?_:Ab _ _ (instanceDict x I) _ _ _),Ah<|RE B ?_];dsimp only;clear B;obtain⟨F,g,d,t,u⟩:=s;rw[Ah<|(Rx (M:=BO l w) X G).at<|U H<|B8 (a:=V c)<|hY (s:=⟨F,g,d,t+1,u⟩) D q o h]
theorem abT:∀{j w A E s K x a b i v l Q}(X:K.In s.heap)(e:InstAt s.heap x b a C)(r:b.dict=C)(m:b.data= .fields l)(n:D9 K (.ref a) "__setattr__"=V (V<|.builtin "object.__setattr__"))(q:OE K a=I)(u:D9 K (.ref a) i=V C)(h:Q () {s with heap:=((s.heap.push {cls:= .type "dict",data:= .dict #[]}).update x λo=>{o with dict:=V s.heap.objs.size}).update s.heap.objs.size (HN i (EI w.params i) (.str i<|s.toks+1) v),toks:=s.toks+2}),Ab (BO j w) A (N2 (.ref x) i v) Q E s:=by
 intros j w A E s K x a b i v l Q _ X e r m n q u h;rw[fO X e n q u<|Q9 (Zk q) λR G H N O p=>?_];obtain⟨k,c,P,-⟩:=e;clear P;obtain⟨L,B,F,y⟩:=b;dsimp only at c r m;subst c r m;unfold storeInOwnDict;rw[Ah<|B8<|Ah<|(?_:Ab _ _ (instanceDict x I) _ _ _),Ah<|RE k ?_];dsimp only;obtain⟨f,g,d,t,z⟩:=s;rw[Ah<|(Rx (M:=BO j w) X G).at<|U H ?_];have D:((f.push {cls:= .type "dict",data:= .dict #[]}).update x λo=>{o with dict:=V f.objs.size}).get? f.objs.size=V (DQ [] 0):=by rw[U (F6 _ _ (DZ<|Ds k:x≠f.objs.size)) ?_,Fz _ Y]
 rw[(?_:Ab _ _ (PySem.alloc {cls:= .type "dict",data:= .dict #[]}>>=λd=>(update x λo=>{o with dict:=V d})>>=λZ=>dictMade (.ref a) x d) _ _ _),Ah<|wpAny_alloc<|Ah<|wpAny_update (E4 {cls:= .type "dict",data:= .dict #[]} k)<|B8 ?_,hY (s:=⟨_,g,d,t+1,z⟩) D Y (by simp) h]
end
end
section
open PySem PySem.W PySem.Calls PyProof.Rows
inductive Dj(prog:Hl)(w:HQ)(s:Ae)(C e:AQ)(fx:O AQ)(od:AO<|AQ×O (Am×AX))(s':Ae):Prop
 |mk(same:∃h' tk,s'={s with heap:=h',toks:=tk})(keep:∀b o,s.heap.get? b=V o->s'.heap.get? b=V o)(en:s.heap.get? e=AI)(obj:∃t,s'.heap.get? e=V (G6 C (od.map (·.1)) t))(dict:∀dx kvs,od=V (dx,kvs)->s.heap.get? dx=AI/\s'.heap.DictOf (strKind prog w) dx kvs/\dx∉fx/\dx≠e)(fxs:∀a∈fx,a≠e/\∃o,s'.heap.get? a=V o)
def Ox:AO (AQ×O (Am×AX))->O (Am×AX)|C=>[]|V p=>p.2
inductive XK(K:Cy)(C:AQ):Prop
 |mk(sa:D9 K (.ref C) "__setattr__"=V (V<|.builtin "object.__setattr__"))(pass:OE K C=I)
variable{prog:Hl}{w:HQ}{A:Bq}{E:AX->Ae->Prop}{s s':Ae}{K:Cy}{C e:AQ}{fx:AB AQ}{od:AO (AQ×AB (Am×AX))}
theorem Dj.mono:∀{c w s d C e g h}{f:BC}{tk:G}(x:Dj c w s C e g h d)(k:∀b o,d.heap.get? b=V o->f.get? b=V o),Dj c w s C e g h {d with heap:=f,toks:=tk}:=by intros c w s d C e g h f tk _ x k;obtain⟨⟨EV,ach,rfl⟩,l,n,⟨t,p⟩,r,j⟩:=x;rw[⟨(Bp f tk Y),λb o e=>k _ _<|l b o e,n,⟨t,k _ _ p⟩,λu i q=>?_,λa m=>⟨(j a m).1,?_⟩⟩,DE (r u i q) λv BL y=>Ht BL λo z B D F=>?_,(BX v (Mw o z B (k _ _ D) F) y),xE ((j a m).2) λo q=>⟨o,k _ _ q⟩]
theorem Dj.c_(x:Dj prog w s C e fx od s')(h:∀a∈l,a≠e/\(∀b i,od=V (b,i)->b≠a)/\∃o,s'.heap.get? a=V o):Dj prog w s C e l od s':=by obtain⟨j,g,f,d,c,u⟩:=x;rw[⟨j,g,f,d,λb i q=>Fb (c b i q) λr p v k=>(Dx r p (λm=>(h b m).2.1 b i q Y) k),λa m=>⟨(h a m).1,(h a m).2.2⟩⟩]
theorem Dj.less(x:Dj prog w s C e fx od s'){fx':O AQ}(h:∀a∈fx',a∈fx):Dj prog w s C e fx' od s':=x.c_ λa m=>(BX ((x.6 a<|h a m).1) (λc b q z=>(x.5 c b q).2.2.1<|z▸h a m)<|(x.6 a<|h a m).2)
theorem Dj.put:∀{h w s l C e k d}{i}{n}(x:Dj h w s C e k d l)(c:∀b o,l.heap.get? b=V o->b≠e->i.get? b=V o)(v:∃t,i.get? e=V (G6 C (d.map (·.1)) t)),Dj h w s C e k d {l with heap:=i,toks:=n}:=by intros h w s l C e k d i n _ x c v;obtain⟨⟨u,p,H⟩,D,r,_,B,j⟩:=x;rw[⟨(Bp i n<|by rw[U H Y]),λb o q=>c b o (D b o q) λz=>by(replace q:=z▸q;replace q:=r▸q);rw[nn q],r,v,λI g q=>?_,λa m=>⟨(j a m).1,?_⟩⟩,Fb (B I g q) λN f J y=>Ht f λo F G M L=>?_,(Dx N (Mw o F G (c _ _ M y) L) J y),xE ((j a m).2) λo q=>⟨o,c a o q (j a m).1⟩]
theorem qo:∀{prog w A E s s' K r e L F}{nm}{v}{Q}(X:K.In s.heap)(k:XK K r)(N:D9 K (.ref r) nm=AA AI)(x:Dj prog w s r e L F s')(M:(Ox F).length<=900)(h:∀d f,Dj prog w s r e L (AA (d,Gj nm v<|Ox F)) f->(∀a∈L,f.heap.get? a=s'.heap.get? a)->Q () f),Ab (BO prog w) A (N2 (.ref e) nm v) Q E s':=by intros prog w A E s s' K r e L F nm v Q _ X k N x M h;have Z:=X.keeps x.2;injection x.4 with t _ u;induction F using C4 with|none=>rw[abT Z (⟨u,A7,A7,B9⟩:InstAt s'.heap e (G6 r AI t) r AI) A7 A7 k.1 k.2 N<|h s'.heap.objs.size _ ?_ ?_];(·have j:e≠s'.heap.objs.size:=DZ (Ds u);(have D:((s'.heap.push {cls:= .type "dict",data:= .dict #[]}).update e λo=>{o with dict:=AA s'.heap.objs.size}).get? s'.heap.objs.size=AA (DQ [] 0):=by rw[A9 (F6 _ _ j) ?_,Fz _ A7]);have H:=QG nm (EI w.params nm) (.str nm<|s'.toks+1) v [] 0;(have c:∀b o,s'.heap.get? b=AA o->b≠e->(((s'.heap.push {cls:= .type "dict",data:= .dict #[]}).update e λo=>{o with dict:=AA s'.heap.objs.size}).update s'.heap.objs.size<|HN nm (EI w.params nm) (.str nm<|s'.toks+1) v).get? b=AA o:=λb o q O=>by rw[A9 (F6 _ _<|DK<|DZ<|Ds q)<|A9 (F6 _ _<|DK O) ?_,E4 _ q]);obtain⟨⟨G,B,R⟩,J,I,_,_,g⟩:=x;rw[⟨(Bp _ _<|by rw[A9 R A7]),λb o q=>c b o (J b o q) λz=>by(replace q:=z▸q;replace q:=I▸q);rw[nn q],I,⟨t,?_⟩,λd kvs q=>?_,λa m=>⟨(g a m).1,?_⟩⟩];(·rw[A9 (F6 _ _<|DK j)<|A9 (JU _ (E4 _ u) A7) ?_];rfl);(·cases q;rw[(Dx (?_) (Yo (H▸(JU (HN nm (EI w.params nm) (.str nm<|s'.toks+1) v) D<|by rw[A9 H ?_];rfl)) (λy m=>Xb (ds:=[]) (λy m=>nomatch m) y<|Array.mem_toList_iff.mpr m) (ZV .nil)<|Zy (kvs:=[]) List.Pairwise.nil) (λm=>?_)<|DK j)];(·cases q:s.heap.get? s'.heap.objs.size with|none=>rfl|some o=>rw[Aj (Ds<|J _ _ q)<|GN _]);rw[xE ((g _ m).2) λo q=>Aj (Ds q)<|GN _]);rw[xE ((g a m).2) λo q=>⟨o,c a o q (g a m).1⟩]);·intros a;intro m;obtain⟨i,o,q⟩:=(x.6 a m);rw[A9 (F6 _ _<|DK<|DZ<|Ds q)<|A9 (F6 _ _<|DK i)<|A9 q ?_,E4 _ q]|some p=>obtain⟨d,kvs⟩:=p;intros _ d kvs _ x M h u;rw[Fb (x.5 d kvs A7) λY D S W=>Em (b5 D) λds n U V P l=>z4 Z (⟨u,A7,A7,U⟩:InstAt s'.heap e (G6 r (AA d) t) r<|AA<|DQ ds n) A7 k.1 k.2 N (by rw[T9 V P]at⊢;rfl) (by rw[A9 P.length M])<|h d _ ?_ ?_];(·have H:=QG nm (EI w.params nm) (.str nm<|s'.toks+1) v ds n;(have c:∀b o,s'.heap.get? b=AA o->b≠d->(s'.heap.update d<|HN nm (EI w.params nm) (.str nm<|s'.toks+1) v).get? b=AA o:=λb o q O=>by rw[A9 (F6 _ _<|DK O) ?_,q]);obtain⟨⟨G,B,R⟩,J,I,_,_,g⟩:=x;rw[⟨(Bp _ _<|by rw[A9 R A7]),λb o q=>c b o (J b o q) λz=>by(replace q:=z▸q;replace q:=Y▸q);rw[nn q],I,⟨t,c _ _ u<|DK W⟩,λO0 T q=>?_,λa m=>⟨(g a m).1,?_⟩⟩];(·cases q;rw[(Dx Y (Yo (H▸(JU (HN nm (EI w.params nm) (.str nm<|s'.toks+1) v) U<|by rw[A9 H ?_];rfl)) (λy m=>Xb (λy m=>V y<|by simpa using m) y<|by simpa using m) (ZV P)<|Zy l) S W)]);rw[xE ((g a m).2) λo q=>⟨o,c a o q λz=>S<|z▸m⟩]);·intro a m;rw[A9 (F6 _ _ λz=>S<|by rw[z]at⊢;rw[m]) A7]
end
section
open PySem PySem.W PySem.Calls
variable{prog:Hl}{w:HQ}{A:Bq}{E:AX->Ae->Prop}{s s':Ae}{K:Cy}{C e:AQ}{fx:AB AQ}{od:AO (AQ×AB (Am×AX))}
theorem abK{u:AX}{Q:AX->Ae->Prop}(X:K.In s.heap)(hB:SS K C=I)(c:HX K (.ref C) (.type "Exception")=V I)(x:Dj prog w s C e fx od s')(h:∀GA,Dj prog w s C e fx od GA->(∀a∈fx,GA.heap.get? a=s'.heap.get? a)->Q .none GA):Ab (BO prog w) A (call (.builtin "Exception.__init__") [.ref e,u]) Q E s':=by
 have F:=PySem.F.excBase_Exception;have i:=X.keeps x.2;rw[xE x.4 λt j=>?_];have l:GG (BO prog w) s'.heap (typeOf<|.ref e)<|.ref C:=(Qz j).andThen .now;obtain⟨f,g,d,p,os⟩:=s';rw[MG<|Xd F.init.plain F.initEntry ?_];have aca:=F.noStar;obtain⟨_,_,_,_,_,_,_,_,_,_,_,_,_,_,_,_,B⟩:=gg (h:=f) i hB;have k:=B.1;simp only [Va,F.initKind,F.initSplit,F.initRow];rw[Ah<|(l.andThen<|QU i c:GG (BO prog w) f (QJ (.ref e)<|.type "Exception") I).at ?_];repeat(first|with_reducible rw[NB k ?_]|with_reducible rw[wpAny_load k ?_]|wp_step)
 rw[h _ ?_ ?_];·rw[x.put (λb o q c=>?_) ⟨f.objs.size,?_⟩,U (F6 _ _<|DK c) ?_,E4 _ q];·rw[U (JU _ (E4 _ j) Y) ?_];rfl
 ·intro a m;rw[Oh (x.6 a m) λn o q=>?_,U (F6 _ _<|DK n)<|U q ?_,E4 _ q]
end
section
open PySem PySem.W PySem.Calls PyProof.Rows
def fi:Fe->AO Expr| .Expr e _=>V e|_=>C
def b6:Fe->AO (O Expr×Expr)| .Assign a e _=>V (a,e)|_=>C
def dJ:Expr->AO (Expr×O Expr×Pos)| .Call f g [] a=>V (f,g,a)|_=>C
def YT:Expr->AO (Expr×Am×Pos)| .Attribute e i p=>V (e,i,p)|_=>C
def Rf:Expr->AO Am| .Name a _=>V a|_=>C
def Sa(cls:Am)(st:Fe):AL:=DT (fi st) λe=>DT (dJ e) λq=>DT (YT q.1) λr=>Rf r.1==V cls&&(r.2.1=="__init__"&&(r.2.2.endLine==q.2.2.line&&q.2.1.map Rf==[V ("self":Am),V ("why":Am)]))
def Z4(nm:Am)(st:Fe):AL:=DT (b6 st) λq=>DT (Tx q.1) λu=>u.2.isEmpty&&DT (YT u.1) λr=>Rf r.1==V "self"&&(r.2.1==nm&&Rf q.2==V nm)
def V4:O Am->O Fe->AL|[],a=>a.isEmpty|n::f,a=>DT (Tx a) λq=>Z4 n q.1&&V4 f q.2
def i5:FuncBody->AO (Fe×O Fe)| .stmts a=>Tx a|_=>C
def HB(c:O Am)(cls:Am)(a:O Am)(b:PO):O AL:=[b.params.posonlyargs.isEmpty,b.params.vararg.isNone,b.params.kwonlyargs.isEmpty,b.params.kwarg.isNone,b.params.args.map (·.arg)==c,decide c.Nodup,c.all λp=>b.scope.names.lookup p==V .local&& !(p==("__debug__":Am)),F5 b.scope cls,a.all λn=>c.contains n,c.contains "self",c.contains "why",DT (i5 b.body) λq=>Sa cls q.1&&V4 a q.2]
def R_(K:Cy)(c:AQ)(d:O Am)(cls:Am)(a:O Am):AL:=DT (K.lookup c) λo=>DT (Z8 o.data) λb=>ZF K b&&(HB d cls a b).all id
theorem pE(h:i5 d=V q):d= .stmts (q.1::q.2):=by induction d using kq with|stmts b=>rw[U (Wz h) Y]|_=>rw[nn h]
theorem qE:∀{st}{e}(h:fi st=V e),∃p,st= .Expr e p:=by intros st e _ h;induction st using WO with|Expr b p=>rw[⟨p,A_ (Stmt.Expr · p)<|AN h⟩]|_=>rw[nn h]
theorem n_:∀{st}{q}(h:b6 st=V q),∃p,st= .Assign q.1 q.2 p:=by intros st q _ h;induction st using WO with|Assign a b p=>(replace h:=AN h;subst h);rw[⟨p,Y⟩]|_=>rw[nn h]
theorem aay:∀{e}{q}(h:dJ e=V q),e= .Call q.1 q.2.1 [] q.2.2:=by intros e q _ h;induction e using Cr with|Call f b a p=>(induction a using An with|nil=>obtain rfl:=AN h;rfl|cons=>rw[nn h])|_=>rw[nn h]
theorem fU:∀{e}{q}(h:YT e=V q),e= .Attribute q.1 q.2.1 q.2.2:=by intros e q _ h;induction e using Cr with|Attribute a b p=>obtain rfl:=AN h;rfl|_=>rw[nn h]
theorem Rc(h:Rf e=V a):∃p,e= .Name a p:=by induction e using Cr with|Name b p=>rw[U (AN h) ?_,⟨p,Y⟩]|_=>rw[nn h]
section
theorem U'(f:a.scope.kind= .function)(d:a.kindOf n=V .local)(g:(n==("__debug__":Am))=T)(c:i.heap.Ns a.locals m)(b:m n=V v)(h:Q v i):Ab (BO j w) A (DC (.Name n p) a) Q E i:=wpAny_Name (aW f d c b h) g
theorem yi(b:a.scope.kind= .function):S4 a=T:=by unfold S4;rw[U b ?_];rfl
theorem nN:∀{d}{st}(h:Sa d st=I),∃p c o j f b,st= .Expr (.Call (.Attribute (.Name d p) "__init__" c) [.Name "self" o,.Name "why" j] [] f) b/\c.endLine=f.line:=by intros d st _ h;rw[hide λg k=>anyS h λe L F=>anyS F λq J D=>anyS D λr a B=>xA (B1 B) λX z=>xA (B1 z) λW v=>xA (B1 v) λV T=>?_];clear h F D B z v;rw[xE (qE L) λb Q=>xE (Rc<|eq_of_beq X) λp P=>By (cM.mp<|eq_of_beq T) λx l M H S=>By (cM.mp S) λy i u G R=>xE (Rc H) λo O=>xE (Rc G) λj N=>k ⟨p,r.2.2,o,j,q.2.2,b,by rw[U Q<|U (aay J)<|U (fU a)<|U P<|U (eq_of_beq W)<|U M<|U u<|U (iV.mp R)<|U O<|U N Y],eq_of_beq V⟩]
theorem zT:∀{nm}{st}(h:Z4 nm st=I),∃p y c b,st= .Assign [.Attribute (.Name "self" p) nm y] (.Name nm c) b:=by intros nm st _ h;rw[hide λg k=>anyS h λq D v=>anyS v λu B j=>xA (B1 j) λM o=>anyS o λr z f=>xA (B1 f) λL d=>xA (B1 d) λJ a=>?_];clear h v o j f d;rw[xE (n_ D) λb H=>xE (Rc<|eq_of_beq L) λp G=>xE (Rc<|eq_of_beq a) λc F=>k<|Nd p r.2.2 c b<|by rw[U H<|U (Wz B)<|U (MI.mp M)<|U (fU z)<|U G<|U (eq_of_beq J)<|U F Y]]
theorem kK{l}{w}{A}{E}{t}{e}{n}{m}{o}{st}{cv f}{u}{Q}(x:Sa o st=I)(y:n.scope.kind= .function)(i:n.kindOf "self"=V .local)(N:n.kindOf "why"=V .local)(B:∀s,({t with toks:=s}:Ae).heap.Ns n.locals m)(h:m "self"=V (.ref e))(H:m "why"=V u)(g:∀(p:Pos)(Q:AX->Ae->Prop),Q cv t->Ab (BO l w) A (DC (.Name o p) n) Q E t)(j:∀(L:Sem AL)(Q:AX×O AX->Ae->Prop),(∀s,Q (f,[]) {t with toks:=s})->Ab (BO l w) A (Pr cv "__init__" L) Q E t)(d:∀(p v r:Pos)(b:Ae)(Q:AX->Ae->Prop),(∃s,b={t with toks:=s})->Ab (BO l w) A (spliced<|Gf p<|G4 [.Name "self" v,.Name "why" r] n) (λa c=>(∃s,c={t with toks:=s})/\Ab (BO l w) A (call f<|[]++a) Q E c) E b->Ab (BO l w) A (KY p f [] (Gf p<|G4 [.Name "self" v,.Name "why" r] n) []) Q E b)(k:∀s,Ab (BO l w) A (call f [.ref e,u]) (λZ b=>Q .next b) E {t with toks:=s}):Ab (BO l w) A (Fh st n) Q E t:=by rw[Ir (nN x) λp D v r F=>G3 F λJ z q M=>U q ?_];clear x;rw[wpAny_Expr_any (MethodCall_ (g _ _<|j _ _ λs=>d _ _ _ _ _ ⟨s,Y⟩<|((RL<|U' y i (by decide+kernel) (B s) h<|RL<|U' y N (by decide+kernel) (B s) H<|YZ ⟨⟨s,Y⟩,k s⟩):Ab _ _ (spliced [(T,_),(T,_)]) _ _ _))<|dQ Y (by simp) (by simp [M]) Y) (yi y) Y]
theorem o7{i}{w}{A}{E}{l}{e}{a}{m}{nm}{st}{u}{Q}(n:Z4 nm st=I)(d:a.scope.kind= .function)(q:a.kindOf "self"=V .local)(o:a.kindOf nm=V .local)(k:(nm==("__debug__":Am))=T)(c:l.heap.Ns a.locals m)(g:m "self"=V (.ref e))(f:m nm=V u)(h:Ab (BO i w) A (N2 (.ref e) nm u) (λZ=>Q .next) E l):Ab (BO i w) A (Fh st a) Q E l:=by rw[Ir (zT n) λp v r j b=>U b ?_];clear n;rw[kT (U' d o k c f<|U' d q (by decide+kernel) c g h) Y]
def eM:O (Am×AX)->O (Am×AX)->O (Am×AX)|[],a=>a|(n,v)::r,a=>eM r (Gj n v a)
theorem tc{l:O (Am×AX)}:(Gj n v l).length<=l.length+1:=by induction l with|nil=>rw[B2 _]|cons a r b=>rw[U OX<|Ao (λh:a.1=n=>?_) λh=>?_,U (AM h)<|E2 _,U (AS h)<|Ce b]
def WR(a:O<|Am×AX)(b:AO<|AQ×O (Am×AX))(c:AQ):AO<|AQ×O (Am×AX):=match a with|[]=>b|_=>V (c,eM a<|Ox b)
def pick(a:O<|Am×AX)(b O0:AQ):AQ:=match a with|[]=>b|_=>O0
theorem pb:WR a (V (d,Gj n v<|Ox c)) b=WR ((n,v)::a) c (pick a d b):=by induction a using An<;>rfl
theorem fQ:∀{c w A E s K b e i d m}{Q}(X:K.In s.heap)(k:XK K b)(u:d.scope.kind= .function)(y:d.kindOf "self"=V .local)(z:d.locals∈i)(B:m "self"=V (.ref e)),∀{nvs:O (Am×AX)}{p}{g:Ae}{j},V4 (nvs.map (·.1)) p=I->(∀f∈nvs,d.kindOf f.1=V .local/\(f.1==("__debug__":Am))=T/\m f.1=V f.2/\D9 K (.ref b) f.1=V C)->Dj c w s b e i j g->g.heap.Ns d.locals m->(Ox j).length+nvs.length<=900->(∀t GA,Dj c w s b e i (WR nvs j t) GA->(∀a∈i,GA.heap.get? a=g.heap.get? a)->Q .next GA)->Ab (BO c w) A (execs p d) Q E g:=by intros c w A E s K b e i d m Q _ X k u y z B;intro nvs;induction nvs with|nil=>intro p g j l _ x _ _ h;obtain rfl:=MI.mp l;rw[Qp<|h 0 g x λZ Z=>Y]|cons f nvs N=>obtain⟨n,v⟩:=f;intro p g j l D x F r h;rw[anyS l λq P l=>?_];obtain rfl:=Wz P;rw[Fb (D _<|.head _) λR S W J=>?_];have r:(Ox j).length+1+nvs.length<=900:=L (C8<|by(rw[U (CR ..) ?_];rewrite [EL 1]);rfl) r;rw[SU<|o7 (B1 l).1 u y R S F B W<|qo X k J x (GP<|L (BJ _ _) r) λt Bs J2 H=>N (B1 l).2 (λf q=>D f<|.tail _ q) J2 (Pa F λo q=>⟨o.slots,by rw[U (H _ z) q]⟩) (L (CU tc _) r) λO0 Dc Kf tT=>?_,h (pick nvs t O0) Dc (Eq.mp (A_ (Dj c w s b e i · Dc) pb) Kf) λa M=>(tT a M).trans<|H a M]
end
end
section
open PySem PySem.W PySem.Calls PyProof.Rows
inductive aaK(env:Env)(ps:O Am)(cls:Am):Prop
 |mk(kind:env.scope.kind= .function)(loc:∀p∈ps,env.kindOf p=V .local/\(p==("__debug__":Am))=T)(glob:env.kindOf cls=V .globalImplicit/\(cls==("__debug__":Am))=T)(globals:env.globals=EC)(builtins:env.builtins=Gh)
section
set_option backward.match.sparseCases true in theorem cU:∀{prog w A s s' K C e J i P}{ps:O Am}{g:Am}{d:O Am}{vals:O AX}{R:Result->Ae->Prop}(k:R_ K J ps g d=AG)(X:K.In s.heap)(F:s.heap.NoLimit)(x:Dj prog w s C e i P s')(r:A.depth<Y4)(l:ps.length=vals.length)(h:∀env j m s0 ss,aaK env ps g->Dj prog w s C e (env.locals::i) P j->j.heap.Ns env.locals m->(∀n v,n∈ps->(ps.zip vals).lookup n=V v->m n=V v)->(∀a∈i,j.heap.get? a=s'.heap.get? a)->Sa g s0=AG->V4 d ss=AG->Ab (BO prog w) (A.deeper env) (execs (s0::ss) env) (λf Q=>R (.ok<|.ret<|match f with| .ret v=>v|_=> .none) Q) (λ_ _=>BB) j),Ie (BO prog w) A (.call (.ref J) ⟨vals,[]⟩) R s':=by
 intros prog w A s s' K C e J i P ps g d vals R _ k X F x r l h;rw[anyS k λo ho k=>anyS k λfd Z k=>Ef k λok k=>?_];have c:=jv ok;have E:fd.params.args.map (·.arg)=ps:=EJ (l:=HB ps g d fd) k (i:=4) Y;have p6:ps.Nodup:=DJ (allAt (l:=HB ps g d fd) k (i:=5) Y);have p8:=B1 (allAt (l:=HB ps g d fd) k (i:=7) Y);rw[anyS (allAt (l:=HB ps g d fd) k (i:=11) Y) λq hb L=>?_];have u:∀p∈ps,fd.scope.names.lookup p=V .local/\(p==("__debug__":Am))=AH:=λp m=>by have q:=B1 (Eo.mp (allAt (l:=HB ps g d fd) k (i:=6) Y) p m);rw[⟨Bn.mp q.1,(NL _).mp q.2⟩]
 have B:=az (fd:=fd) (vals:=vals) (MI.mp<|allAt (l:=HB ps g d fd) k (i:=0) Y) (NW.mp<|allAt (l:=HB ps g d fd) k (i:=1) Y) (MI.mp<|allAt (l:=HB ps g d fd) k (i:=2) Y) (NW.mp<|allAt (l:=HB ps g d fd) k (i:=3) Y) c.2 (by rw[A9 E p6]) (by rw[Ag l<|Ag E<|A9 (CO ..) Y]);rw[E]at B;rw[iQ r (X.keeps x.2 J o ho) (bG Z) (F.keeps x.2) ((codeRec_of X c.8).keeps x.2) (pE hb) B c.1 (λy m=> .inl (u _ (Z' m).1).1) (λj ic=>G3 ic.done λh' tk I W=>?_) c.5 c.6 c.7];subst I;have N:=ic.toInCall.ns;have D:∀b o,s'.heap.get? b=V o->b≠s'.heap.objs.size:=λb o q=>DZ<|Ds q;have x2:Dj prog w s C e (s'.heap.objs.size::i) P {s' with heap:=h',toks:=tk}:=(x.mono (tk:=tk) W).c_ λa G=>by induction G using Cu with|head S=>rw[A9 S<|Ht N λM _ _ U _=>⟨?_,λdx H q=>?_,M,U⟩,xE x.4 λt q=>DK<|D _ _ q,DE (x.5 dx H q) λ_ T _=>Ht T λM _ _ U _=>?_,D _ _ U]|tail G=>rw[(BX ((x.6 a G).1) (λdx H q z=>(x.5 dx H q).2.2.1<|z▸G)<|xE ((x.6 a G).2) λM q=>⟨M,W _ _ q⟩)]
 rw[EY (h (Jb fd s'.heap.objs.size J) _ _ q.1 q.2 ⟨c.7,u,⟨Bn.mp p8.2,(NL _).mp p8.1⟩,c.3,c.4⟩ x2 N (λn v m q=>?_) (λa G=>?_) (B1 L).1 (B1 L).2) (λ_ _ z=>z) λ_ _ z=>z.elim];·rw[A9 (cP (((u n m).1:(Jb fd s'.heap.objs.size J).kindOf n=_))<|by rw[i_<|by rw[l]at⊢;rw[B2 _]]at⊢;rw[p6])<|A9 q ?_];rfl
 rw[xE ((x.6 a G).2) λM q=>(W _ _ q).trans q.symm]
end
end
section
open PySem PySem.W PySem.Calls PyProof.Rows
def j8:O Am:=["self","why","function","at"]
def aT:O Am:=["self","why"]
def valOf:CFound->AO AX| .val v=>V v|_=>C
def Cn(K:Cy)(a:AQ)(C1:Am)(B b c:AQ):O AL:=[SS K a,D9 K (.ref a) "__init__"==V (V<|.ref b),MS K (.ref b)==V (.type "function"),R_ K b j8 C1 ["function","at"],FR K EC C1==V (V<|.ref B),readsIn K B<|.type "type",specialIn K (.ref B) "__getattribute__"==V (V<|.builtin "type.__getattribute__"),DT (findCls K (.ref B) (.type "type") "__init__") λq=>DT (valOf q) λv=>v== .ref c,JK K<|.ref c,R_ K c aT "Exception" ["why"],FR K EC "Exception"==V C,D9 K (.ref a) "__setattr__"==V (V<|.builtin "object.__setattr__"),OE K a,D9 K (.ref a) "why"==V C,D9 K (.ref a) "function"==V C,D9 K (.ref a) "at"==V C,HX K (.ref a) (.type "Exception")==V I]
def Vu(K:Cy)(C:AQ)(C1:Am)(B a b:AQ):AL:=(Cn K C C1 B a b).all id
section
variable{prog:Hl}{w:HQ}{A:Bq}{E:AX->Ae->Prop}{s s':Ae}{K:Cy}{C e:AQ}{fx:AB AQ}{od:AO (AQ×AB (Am×AX))}
theorem oM(K:Cy):findCls K (.type "Exception") (.type "type") "__init__"=V (.val<|.builtin "Exception.__init__"):=by kernel_rfl
theorem rJ{b:Sem AL}{Q:AX×O AX->Ae->Prop}(X:K.In s'.heap)(h:∀c,Q (.builtin "Exception.__init__",[]) {s' with toks:=c}):Ab (BO prog w) A (Pr (.type "Exception") "__init__" b) Q E s':=by
 have a:GG (BO prog w) s'.heap (typeOf<|.type "Exception")<|.type "type":=RJ (by kernel_rfl);have iG:D9 K (.type "type") "__getattribute__"=V (V<|.builtin "type.__getattribute__"):=by kernel_rfl
 unfold Pr specialOf;rw[Ah<|Ah<|a.here<|(OM X iG).here ?_];dsimp only;rw[U (AM canon_tga) ?_,Ah ?_,cls_open (mc:= .type "type") (hook:=AI) X (RJ<|by kernel_rfl) a iG (RJ<|by kernel_rfl) (by kernel_rfl) (oM K)<|B8 ?_];show Ab _ _ (handedOut<|.builtin "Exception.__init__") _ _ _;rw[U (handedOut_of<|by decide+kernel) ?_,B8<|B8<|h _]
theorem zU{W:AQ}{u:AX}{mb:Am->AO AX}{Q:AX->Ae->Prop}(X:K.In s.heap)(F:s.heap.NoLimit)(N:s.heap.Ns Gh mb)(M:mb "Exception"=V (.type "Exception"))(Y:XK K C)(hB:SS K C=AG)(t:HX K (.ref C) (.type "Exception")=V AG)(n:R_ K W aT "Exception" ["why"]=AG)(L:FR K EC "Exception"=V AI)(Z:D9 K (.ref C) "why"=V AI)(x:Dj prog w s C e fx AI s')(j:A.depth<Y4)(h:∀P c,Dj prog w s C e fx (V (P,[("why",u)])) c->(∀a∈fx,c.heap.get? a=s'.heap.get? a)->Q .none c):Ab (BO prog w) A (call (.ref W) [.ref e,u]) Q E s':=by
 rw[MG<|cU n X F x j A7 λO B m s0 ss d b U f l J I=>?_];have S:m "self"=V (.ref e):=f _ _ (by decide+kernel) A7;have R:m "why"=V u:=f _ _ (by decide+kernel) A7;have T:=d.2 "self" (by decide+kernel);have H:=d.2 "why" (by decide+kernel);rw[SU<|kK (cv:= .type "Exception") (f:= .builtin "Exception.__init__") J d.1 T.1 H.1 (λ_=>U) S R (λp Q q=>?_) (λpl Q q=>rJ (X.keeps b.2) q) (λp p1 p2 c Q q i=>?_) λtk=>?_];·rw[U0 d.1 d.3.1 ?_ d.3.2];unfold TV;rw[A9 d.4<|A9 d.5<|Ah<|(TZ (X.keeps b.2) L).here<|Ah<|wpAny_nsGet (N.keeps b.2)<|A9 M<|B8 q]
 rw[callWith_builtin A7<|UU<|EY i (λvs B z=>z.2) λ_ _ z=>z,abK X hB t (b.mono (tk:=tk) λ_ _ e=>e) λy r g=>fQ (nvs:=[("why",u)]) X Y d.1 T.1 (.head _) S I (λnv q=>?_) r (Pa U λo q=>⟨o.slots,by rw[A9 (g _<|.head _) q]⟩:y.heap.Ns O.locals m) (B6 A7) λP v k D=>?_,A9 (B3.mp q)<|(Dx H.1 H.2 R Z),h P v (k.less λa m=> .tail _ m) λa G=>((D a<|.tail _ G).trans<|g a<|.tail _ G).trans<|l a G]
theorem zr:∀{prog w A E s s' K C e fx}{B fI fB:AQ}{C1:Am}{u v y:AX}{mb:Am->AO AX}{Q:AX->Ae->Prop}(X:K.In s.heap)(Wg:s.heap.NoLimit)(kM:s.heap.Ns Gh mb)(bO:mb "Exception"=AA (.type "Exception"))(hf:Vu K C C1 B fI fB=AG)(x:Dj prog w s C e fx AI s')(xT:A.depth+2<Y4)(h:∀dx GA,Dj prog w s C e fx (AA (dx,[("why",u),("function",v),("at",y)])) GA->(∀a∈fx,GA.heap.get? a=s'.heap.get? a)->Q .none GA),Ab (BO prog w) A (call (.ref fI) [.ref e,u,v,y]) Q E s':=by
 intros prog w A E s s' K C e fx B fI fB C1 u v y mb Q _ X Wg kM bO hf x xT h;have fc:findCls K (.ref B) (.type "type") "__init__"=AA (.val<|.ref fB):=anyS (allAt (l:=Cn K C C1 B fI fB) hf (i:=7) A7) λq e q2=>anyS q2 λv e2 q2=>by rw[A9 e ?_];induction q using W.CFound.casesOn with|val u=>obtain rfl:=AN e2;rw[A9 (Bn.mp q2) A7]|_=>rw[nn e2]
 have xk:XK K C:=⟨EJ (l:=Cn K C C1 B fI fB) hf (i:=11) A7,allAt (l:=Cn K C C1 B fI fB) hf (i:=12) A7⟩;rw[MG<|cU (allAt (l:=Cn K C C1 B fI fB) hf (i:=3) A7:R_ K fI j8 C1 ["function","at"]=AG) X Wg x (by lia) A7 λenv Bs m s0 ss ev J2 hn hm hk jx kD=>?_];intros _ env Bs m s0 ss _ ev J2 hn hm hk jx kD;have v1:m "self"=AA (.ref e):=hm _ _ (by decide+kernel) A7;have l1:=ev.2 "self" (by decide+kernel);have l2:=ev.2 "why" (by decide+kernel);have l3:=ev.2 "function" (by decide+kernel);have l4:=ev.2 "at" (by decide+kernel);have Up:=X.keeps J2.2;rw[SU<|kK (cv:= .ref B) (f:= .ref fB) jx ev.1 l1.1 l2.1 (λZ=>hn) v1 (hm _ _ (by decide+kernel) A7:m "why"=AA u) (λp Q q=>?_) (λpl Q q=>method_cls Up (EJ (l:=Cn K C C1 B fI fB) hf (i:=6) A7)<|cls_value Up (allAt (l:=Cn K C C1 B fI fB) hf (i:=5) A7) fc A7<|q _) (λp p1 p2 GA Q q hq=>?_) λtk=>?_];·rw[U0 ev.1 ev.3.1 ?_ ev.3.2];unfold TV;rw[A9 ev.4<|Ah<|(TZ Up<|EJ (l:=Cn K C C1 B fI fB) hf (i:=4) A7).here<|B8 q]
 rw[callWith_K X (allAt (l:=Cn K C C1 B fI fB) hf (i:=8) A7)<|EY hq (λvs Dc z=>⟨?_,z.2⟩) λZ Z z=>z,xE z.1 λtk BL=>A9 BL ?_,Up];·rw[zU X Wg kM bO xk (allAt (l:=Cn K C C1 B fI fB) hf (i:=0) A7) (EJ (l:=Cn K C C1 B fI fB) hf (i:=16) A7) (allAt (l:=Cn K C C1 B fI fB) hf (i:=9) A7) (EJ (l:=Cn K C C1 B fI fB) hf (i:=10) A7) (EJ (l:=Cn K C C1 B fI fB) hf (i:=13) A7) (J2.mono (tk:=tk) λZ Z e=>e) (by rw[(?_:A.depth+1<_)];lia) λdx Dc Kf k₂=>?_,fQ (nvs:=[("function",v),("at",y)]) X xk ev.1 l1.1 (.head _) v1 kD (λnv q=>?_) Kf (Pa hn λo q=>⟨o.slots,by rw[A9 (k₂ _<|.head _) q]⟩:Dc.heap.Ns env.locals m) (B6 A7) λO0 Nr Ld xM=>?_];(·induction q using Cu with|head D2=>rw[A9 D2<|(Dx l3.1 l3.2 (hm _ _ (by decide+kernel) A7:m "function"=AA v)<|EJ (l:=Cn K C C1 B fI fB) hf (i:=14) A7)]|tail q=>rw[A9 (B3.mp q)<|(Dx l4.1 l4.2 (hm _ _ (by decide+kernel) A7:m "at"=AA y)<|EJ (l:=Cn K C C1 B fI fB) hf (i:=15) A7)]);·rw[h O0 Nr ?_ λa ma=>((xM a<|.tail _ ma).trans<|k₂ a<|.tail _ ma).trans<|hk a ma];have:=Ld.less (fx':=fx) λa m=> .tail _ m;rw[this]
end
end
section
open PySem PySem.W PySem.Calls PyProof.Rows
def Tb.Cn(t:Tb)(K:Cy)(a:AQ)(C1:Am)(B b c:AQ):O AL:=[Vu K a C1 B b c,t.Km.lookup 1==V a,FR K EC t.ct.exc==V (V<|.ref a),JK K<|.ref a,MS K (.ref a)==V (.type "type"),HX K (.ref a) (.type "type")==V T,HX K (.ref a) (.type "BaseException")==V I,HX K (.ref a) (.ref a)==V I,isClsIn K a,Oy K a,D9 K (.ref a) "__getattribute__"==V (V<|.builtin "BaseException.__getattribute__"),D9 K (.ref a) "__getattr__"==V C,t.ct.strs[t.DX.1]?==V "why",t.ct.strs[t.DX.2.1]?==V "function",t.ct.strs[t.DX.2.2]?==V "at"]
def Tb.SM(t:Tb)(K:Cy)(C:AQ)(C1:Am)(B a b:AQ):AL:=(t.Cn K C C1 B a b).all id
section
variable{t:Tb}{prog:Hl}{w:HQ}{K:Cy}{s:Ae}{L:AQ}{C B fI fB:AQ}{C1:Am}
theorem qf(h:t.SM K C C1 B fI fB=I):∀c nm,t.Km.lookup 1=V c->D9 K (.ref c) nm=V AI->∀{A:Bq}{s:Ae}{Q E:AX->Ae->Prop}{a:AQ}{f:Obj}{d:O LK}{n:G}{v:AX}{expr:AL},K.In s.heap->InstAt s.heap a f c (V<|DQ d n)->Jf nm (DQ d n)=V (V v)->Nf v=I->Q v {s with toks:=s.toks+1}->Ab (BO prog w) A (M3 (.ref a) nm expr) Q E s:=by intro c nm e z A s Q E a f d n v expr X b g i q;obtain rfl:=AN<|(EJ (l:=t.Cn K C C1 B fI fB) h (i:=1) Y).symm.trans e;rw[abH X b (EJ (l:=t.Cn K C C1 B fI fB) h (i:=10) Y) (EJ (l:=t.Cn K C C1 B fI fB) h (i:=11) Y) (EJ (l:=t.Cn K C C1 B fI fB) h (i:=6) Y) (findObj_own (allAt (l:=t.Cn K C C1 B fI fB) h (i:=9) Y) z Y g) i q]
theorem wZ:∀{C}{X:Cx}{envs:AB Env}{μ:AB AQ}{H:MH}{c h':BC}{g:CI GenState}{j:Drawn}{tk tk':Tok}{os:OsState}{r p m:MV}{u v y:AX}{f k:AQ}(x:St X envs μ H ⟨c,g,j,tk,os⟩)(e:X.cls X.P.Et=AA C)(E:X.T.strs[X.P.DX.1]?=AA "why")(D:X.T.strs[X.P.DX.2.1]?=AA "function")(A:X.T.strs[X.P.DX.2.2]?=AA "at")(r1:RV X.T.strs μ c r u)(N:RV X.T.strs μ c p v)(J:RV X.T.strs μ c m y)(P:∀b o,c.get? b=AA o->h'.get? b=AA o)(G:c.get? (c.objs.size+1)=AI)(O:h'.get? (c.objs.size+1)=AA (G6 C (AA f) k))(I:c.get? f=AI)(Q:h'.DictOf (strKind X.prog X.w) f [("why",u),("function",v),("at",y)]),Af X envs [] μ ⟨c,g,j,tk,os⟩ μ H ⟨h',g,j,tk',os⟩/\FW X envs c μ h' ⟨r,p,m⟩ (c.objs.size+1)/\K7 X envs c μ h' ⟨r,p,m⟩ (c.objs.size+1) (G6 C (AA f) k) #[.ref k,.none,.none,.none,.bool AH,.none] f [("why",u),("function",v),("at",y)]:=by
 intros C X envs μ H c h' g j tk tk' os r p m u v y f k _ x e E D A r1 N J P G O I Q;have S:Af X envs [] μ ⟨c,g,j,tk,os⟩ μ H ⟨h',g,j,tk',os⟩:=Af.I9 x (h':=h') (t:=tk') (d:=j) P;have R:∀a,c.get? a=AI->X.base.get? a=AI:=λa q=>by cases z:X.base.get? a with|none=>rfl|some o=>rw[nn<|q.symm.trans<|x.4 a o z]
 have T:=(S.tu x C6.nil).t;have M:=Bh.refl μ;have F:K7 X envs c μ h' ⟨r,p,m⟩ (c.objs.size+1) (G6 C (AA f) k) #[.ref k,.none,.none,.none,.bool AH,.none] f [("why",u),("function",v),("at",y)]:=⟨O,(Aa C A7 e),A7,A7,B6 A7,A7,.none A7,I,JW x I,R _ I,Q,_,_,_,_,A7,E,A7,r1.mono M T,_,_,_,_,A7,D,A7,N.mono M T,_,_,_,_,A7,A,A7,J.mono M T,A7⟩;rw[(BX S ⟨G,JW x G,R _ G,_,_,_,_,F⟩ F)]
theorem pL(hx:Dy<|t.X prog w K s L){mb:Am->AO AX}(hb:s.heap.Ns Gh mb)(M_:∀x:Am,x≠"__name__"->mb x=Uc x)(h:t.SM K C C1 B fI fB=AG):JO<|t.X prog w K s L:=by
 revert hx;intros _ t prog w K s L C B fI fB C1 mb _ hb M_ h hx;have h2:t.Km.lookup 1=AA C:=EJ (l:=t.Cn K C C1 B fI fB) h (i:=1) A7;rw[⟨⟨C,EJ (l:=t.Cn K C C1 B fI fB) h (i:=2) A7,h2,allAt (l:=t.Cn K C C1 B fI fB) h (i:=3) A7,EJ (l:=t.Cn K C C1 B fI fB) h (i:=4) A7,EJ (l:=t.Cn K C C1 B fI fB) h (i:=5) A7,EJ (l:=t.Cn K C C1 B fI fB) h (i:=6) A7,EJ (l:=t.Cn K C C1 B fI fB) h (i:=7) A7⟩,λe=>?_,?_⟩];·obtain rfl:=AN<|h2.symm.trans e;rw[allAt (l:=t.Cn K C C1 B fI fB) h (i:=8) A7]
 ·intro pp A envs d μ H s' x1 x2 x3 u v y ca Q E hA x e r1 r2 r3 P;obtain rfl:=AN<|h2.symm.trans e;have X':K.In s'.heap:=hx.1.keeps x.4;have hf:Vu K C C1 B fI fB=AG:=allAt (l:=t.Cn K C C1 B fI fB) h (i:=0) A7;obtain⟨hp,g,dr,tk,os⟩:=s';obtain⟨_,_,_,_,_,_,_,_,_,_,_,_,_,_,_,_,Bx⟩:=gg X'<|allAt (l:=Cn K C C1 B fI fB) hf (i:=0) A7;rw[yb (fI:=fI) Bx (OM X'<|EJ (l:=Cn K C C1 B fI fB) hf (i:=1) A7) (λself=>bind_fn X' self<|EJ (l:=Cn K C C1 B fI fB) hf (i:=2) A7) (by rw[A9 HZ ?_,B6 A7]) ?_,zr (mb:=mb) X' (hx.2.keeps x.4) (hb.keeps x.4) (by rw[A9 (M_ _<|by decide+kernel) ?_];kernel_rfl:mb "Exception"=AA (.type "Exception")) hf (⟨(Bp _ _ A7),(λb o e=>E4 _<|E4 _ e:∀b o,hp.get? b=AA o->((hp.push {cls:= .type "tuple",data:= .seq [u,v,y].toArray}).push<|G6 C AI hp.objs.size).get? b=AA o),Heap.get?_none_of_le<|E2 _,⟨_,(by heap_get:((hp.push {cls:= .type "tuple",data:= .seq [u,v,y].toArray}).push<|G6 C AI hp.objs.size).get? (hp.objs.size+1)=AA (G6 C AI hp.objs.size))⟩,λZ Z q=>(nomatch q),λZ m=>(nomatch m)⟩:Dj prog w ⟨hp,g,dr,tk,os⟩ C (hp.objs.size+1) [] AI ⟨(hp.push {cls:= .type "tuple",data:= .seq [u,v,y].toArray}).push<|G6 C AI hp.objs.size,g,dr,tk,os⟩) (CH (CU (Cq (AJ (BJ _ _) hA.2)<|ag C [u,v,y]) 2)<|B6 A7) λdx Dc Kf Z=>⟨A7,?_⟩];obtain⟨⟨h',tk',rfl⟩,k2,k3,⟨tt,k4⟩,k5,_⟩:=Kf;rw[Fb (k5 dx _ A7) λd1 d2 Z d4=>?_,DE (wZ (X:=(t.X prog w K s L).wp pp) (tk':=tk') x e (EJ (l:=t.Cn K C C1 B fI fB) h (i:=12) A7) (EJ (l:=t.Cn K C C1 B fI fB) h (i:=13) A7) (EJ (l:=t.Cn K C C1 B fI fB) h (i:=14) A7) r1 r2 r3 k2 k3 k4 d1 d2) λA1 f F=>?_,P _ _ _ _ _ _ A1 f F A7]
end
end
section
open PySem PySem.W PyProof.Rows
def zQ:O PySem.Str:=[.ofString "append",.ofString "pop",.ofString "extend",.ofString "reverse",.ofString "__init__",.ofString "why",.ofString "function",.ofString "at",.ofString "label",.ofString "fail",.ofString "push",.ofString "push_all",.ofString "pop_any",.ofString "pop_all",.ofString "begin",.ofString "close",.ofString "kill",.ofString "target",.ofString "block_kind",.ofString "type_at",.ofString "func_at",.ofString "local_at",.ofString "check",.ofString "step",.ofString "more",.ofString "number",.ofString "control",.ofString "other",.ofString "end",.ofString "branch",.ofString "call",.ofString "local",.ofString "select",.ofString "plain",.ofString "i32",.ofString "i64",.ofString "funcref",.ofString "externref",.ofString "code",.ofString "params",.ofString "results",.ofString "height",.ofString "is_dead",.ofString "is_buried",.ofString "kinds",.ofString "funcs",.ofString "locals",.ofString "values",.ofString "blocks",.ofString "illegal opcode",.ofString "type mismatch",.ofString "unknown label",.ofString "unknown type",.ofString "unknown function",.ofString "unknown local",.ofString "else without if",.ofString "invalid result arity",.ofString "kind",.ofString "body"]
def pV:O<|PySem.Str×G:=[(.ofString "_wall",0),(.ofString "is_kind",1),(.ofString "block_kind",2),(.ofString "number_kind",3),(.ofString "is_block",4),(.ofString "is_number_kind",7),(.ofString "core_heights",36),(.ofString "_law_types",39),(.ofString "_law_block",40),(.ofString "_law_put",41),(.ofString "_law_need",42),(.ofString "_law_take",43),(.ofString "_law_settle",44),(.ofString "_law_open",45),(.ofString "_law_leave",46),(.ofString "_law_items",47),(.ofString "_law_body",48),(.ofString "_law_tree",49),(.ofString "_law_spoilt",50),(.ofString "_law_sealed",51),(.ofString "_law_pop",52),(.ofString "_law_pops",53),(.ofString "_law_number",54),(.ofString "_law_does",55),(.ofString "_law_part",56),(.ofString "_law_is_right",57),(.ofString "_law_holds",58),(.ofString "_law_heights",59),(.ofString "_law_due",60),(.ofString "law",61),(.ofString "block_kind_kinds",2)]
def yS:O<|PySem.Str×G:=[(.ofString "Block",2),(.ofString "StackCheck",3),(.ofString "Func",4)]
def w4:O<|PySem.Str×G:=[(.ofString "I32",0),(.ofString "I64",1),(.ofString "FUNCREF",2),(.ofString "EXTERNREF",3),(.ofString "EMPTY",4),(.ofString "KIND_NAMES",5),(.ofString "BLOCK",6),(.ofString "LOOP",7),(.ofString "IF",8),(.ofString "ELSE",9),(.ofString "NUMBERS",10),(.ofString "UNKNOWN",11),(.ofString "FUNCTION",12)]
def Q0:O MV:=[.int<|-1,.int<|-2,.int<|-16,.int<|-17,.int<|-64,.ref 0,.int 2,.int 3,.int 4,.int 5,.tup [.tup [.int 69,.int 69,.tup [.int<|-1],.tup [.int<|-1]],.tup [.int 70,.int 79,.tup [.int<|-1,.int<|-1],.tup [.int<|-1]],.tup [.int 80,.int 80,.tup [.int<|-2],.tup [.int<|-1]],.tup [.int 81,.int 90,.tup [.int<|-2,.int<|-2],.tup [.int<|-1]],.tup [.int 103,.int 105,.tup [.int<|-1],.tup [.int<|-1]],.tup [.int 106,.int 120,.tup [.int<|-1,.int<|-1],.tup [.int<|-1]],.tup [.int 121,.int 123,.tup [.int<|-2],.tup [.int<|-2]],.tup [.int 124,.int 138,.tup [.int<|-2,.int<|-2],.tup [.int<|-2]],.tup [.int 167,.int 167,.tup [.int<|-2],.tup [.int<|-1]],.tup [.int 172,.int 173,.tup [.int<|-1],.tup [.int<|-2]],.tup [.int 192,.int 193,.tup [.int<|-1],.tup [.int<|-1]],.tup [.int 194,.int 196,.tup [.int<|-2],.tup [.int<|-2]]],.int 0,.int<|-1]
def P6:O<|(G×G)×G:=[((1,4),6),((2,4),8),((2,8),9),((3,4),10),((3,9),11),((3,10),12),((3,11),13),((3,12),14),((3,1),15),((3,13),16),((3,14),17),((3,15),18),((3,16),19),((3,17),20),((3,18),21),((3,19),22),((3,20),23),((3,21),24),((3,22),25),((3,23),26),((3,24),27),((3,25),28),((3,26),29),((3,27),30),((3,28),31),((3,29),32),((3,30),33),((3,31),34),((3,32),35),((4,4),37),((4,33),38)]
def ct:CT:=⟨zQ,pV,yS,w4,"Invalid"⟩
def IM:O G:=[21,29,36,80,87,101,121,133,147,154,175,182,189,196,203,210,217,224,231,238,245,252,259,266,273,280,287,294,301,308,315,322,329,336,343,350,364,378,385,399,406,413,420,427,434,441,446,453,460,467,472,479,486,491,498,503,508,515,522,529,536,541]
def tb:Tb:=⟨ct,IM,[(1,124),(2,157),(3,353),(4,388)],Q0,P6,[(2,8),(3,10),(4,37)],22,(5,6,7)⟩
abbrev Ti:O<|MV×MV:=[(.int<|-1,.str 34),(.int<|-2,.str 35),(.int<|-16,.str 36),(.int<|-17,.str 37)]
def FF(f:G):AO Fn:=((codeOf ct PySem.Challenge.pw_nm0142_02)[f]?).join
theorem n5:tb.dw=I:=by decide+kernel
end
section
def R.wp{b:Type}(r:R b)(Q:b->MH->Prop)(E:C_->MH->Prop):Prop:=match r with| .ok a H=>Q a H| .exc x H=>E x H| .bad=>BB
def RS.wp(r:RS)(Q:CX->Loc->MH->Prop)(E:C_->MH->Prop):Prop:=match r with| .ok f a H=>Q f a H| .exc x _ H=>E x H| .bad=>BB
theorem R.wp_bind{c b:Type}{r:R c}{f:c->MH->R b}{Q:b->MH->Prop}{E:C_->MH->Prop}(h:r.wp (λa H=>(f a H).wp Q E) E):(r.bind f).wp Q E:=by induction r using R.casesOn<;>exact h
theorem R.Jq{r:R b}(h:r.wp (λa H=>(f a H).wp Q E) E):(r.then g f).wp Q E:=by induction r using R.casesOn<;>exact h
theorem R.wp_mono{r:R b}(h:r.wp Q E)(q:∀a H,Q a H->c a H)(e:∀x H,E x H->d x H):r.wp c d:=by induction r using R.casesOn<;>first|rw[q _ _ h]|rw[e _ _ h]|rw[h]
theorem RS.wp_mono{r:RS}(h:r.wp Q E)(q:∀f a H,Q f a H->b f a H)(e:∀x H,E x H->c x H):r.wp b c:=by induction r using RS.casesOn<;>first|rw[q _ _ _ h]|rw[e _ _ h]|rw[h]
theorem R.qM{r:R b}(h:r.wp Q λZ Z=>BB):∃a H,r= .ok a H/\Q a H:=by induction r using R.casesOn with|ok a H=>rw[(Kl a H Y h)]|exc=>rw[h.elim]|bad=>rw[h.elim]
theorem KZ(e:o=V a)(q:(f a H).wp Q E):((BW H o).bind f).wp Q E:=by rw[U e q]
theorem O3(e:o=V a)(q:(f a H).wp Q E):((BW H o).then g f).wp Q E:=by rw[U e q]
theorem S7(e:o=V a)(q:Q a H):(BW H o).wp Q E:=by rw[U e q]
theorem RS.Yy:∀{r:RS}{f Q E}(h:r.wp (λc b H=>match c with| .ret v=>Q (.ret v) b H|_=>(f b H).wp Q E) E),(r.go.seq f).wp Q E:=by intros r f Q E _ h;induction r using RS.casesOn with|bad=>rw[h]|exc=>rw[h]|ok c b H=>induction c using CX.casesOn<;>exact h
theorem RS.wp_seq:∀{r:RS}{f Q E}(h:r.wp (λa b H=>match a with| .next=>(f b H).wp Q E|a=>Q a b H) E),(r.seq f).wp Q E:=by intros r f Q E _ h;induction r using RS.casesOn with|bad=>rw[h]|exc=>rw[h]|ok a b H=>induction a using CX.casesOn<;>exact h
def tv(v:MV)(A B:Prop):Prop:=match v with| .bool I=>A| .bool T=>B|_=>BB
theorem XC(h:tv v ((f I H).wp Q E)<|(f T H).wp Q E):((Cw v H).bind f).wp Q E:=by induction v using MV.casesOn with|bool b=>induction b using BG<;>exact h|_=>rw[h.elim]
theorem yk(h:tv v ((f I H).wp Q E)<|(f T H).wp Q E):((Cw v H).then a f).wp Q E:=by induction v using MV.casesOn with|bool b=>induction b using BG<;>exact h|_=>rw[h.elim]
theorem ef [Dh p](c:p->A)(b:¬p->B):tv (.bool<|decide p) A B:=by rw[Ao (λh:p=>?_) λh=>?_,U (DD h)<|c h,U (Dk h)<|b h]
theorem o4(d:b=I->A)(c:b=T->B):tv (.bool b) A B:=by induction b using BG;rw[c Y,d Y]
theorem wG(h:A):tv (.bool I) A B:=h
theorem wB(h:B):tv (.bool T) A B:=h
section
theorem RP(h:Q v H):(mE P a N (.con v) f H).wp Q E:=h
theorem Tc(e:f x=V v)(h:Q v H):(mE P a N (.loc x) f H).wp Q E:=by rw[((U e h):(BW H<|f x).wp Q E)]
theorem SQ{P:Code}{C:CF}{N:G}{b:Loc}{H:MH}{Q:MV->MH->Prop}{E:C_->MH->Prop}{a:CE}(h:(mE P C N a b H).wp (λx H=>tv x (Q (.bool T) H)<|Q (.bool I) H) E):(mE P C N (.not a) b H).wp Q E:=by rw[R.wp_bind<|R.wp_mono h (λv H h=>XC h) λZ Z h=>h]
theorem j2{P:Code}{C:CF}{N:G}{a:Loc}{H:MH}{Q:MV->MH->Prop}{E:C_->MH->Prop}{c:O CE}(h:(CN P C N c a H).wp (λb H=>(newList b H).wp Q E) E):(mE P C N (.list c) a H).wp Q E:=by rw[R.wp_bind h]
theorem mJ{P:Code}{C:CF}{N:G}{a:Loc}{H:MH}{Q:MV->MH->Prop}{E:C_->MH->Prop}{o i:CE}(h:(mE P C N o a H).wp (λx H=>(mE P C N i a H).wp (λy H=>(EA H x y).wp Q E) E) E):(mE P C N (.sub o i) a H).wp Q E:=by rw[R.wp_bind<|R.wp_mono h (λZ Z h=>R.wp_bind h) λZ Z h=>h]
theorem Ly{P:Code}{C:CF}{N:G}{a:Loc}{H:MH}{Q:MV->MH->Prop}{E:C_->MH->Prop}{f:G}{b:O CE}(h:(CN P C N b a H).wp (λc H=>(C f c H).wp Q E) E):(mE P C N (.EK f b) a H).wp Q E:=by rw[R.wp_bind h]
theorem jS{P:Code}{C:CF}{N:G}{a:Loc}{H:MH}{Q:MV->MH->Prop}{E:C_->MH->Prop}{c:G}{b:O CE}(h:(CN P C N b a H).wp (λd H=>(KR P C c d H).wp Q E) E):(mE P C N (.callC c b) a H).wp Q E:=by rw[R.wp_bind h]
theorem tE{P:Code}{C:CF}{N:G}{c:Loc}{H:MH}{Q:MV->MH->Prop}{E:C_->MH->Prop}{b:Bi}{a:CE}(h:(mE P C N a c H).wp (λv H=>(LH H b v).wp Q E) E):(mE P C N (.E8 b a) c H).wp Q E:=by rw[R.wp_bind h]
theorem TM{P:Code}{C:CF}{N:G}{a:Loc}{H:MH}{Q:MV->MH->Prop}{E:C_->MH->Prop}{o:CE}{k:G}{b:O CE}(h:(mE P C N o a H).wp (λx H=>∃m,MW P H x k b.length=V m/\(CN P C N b a H).wp (λc H=>(J_ C m x c H).wp Q E) E) E):(mE P C N (.BA o k b) a H).wp Q E:=by rw[R.wp_bind<|R.wp_mono h (λv H h=>h.elim λm q=>KZ q.1<|R.wp_bind q.2) λZ Z h=>h]
theorem SY{P:Code}{C:CF}{N:G}{a:Loc}{H:MH}{Q:MV->MH->Prop}{E:C_->MH->Prop}{k:AL}{c:O CE}(h:(ER P C N k c a H).wp (λb H=>Q (.bool b) H) E):(mE P C N (.bool k c) a H).wp Q E:=by rw[R.wp_bind h]
theorem bA{P:Code}{C:CF}{N:G}{d:Loc}{H:MH}{Q:MV->MH->Prop}{E:C_->MH->Prop}{a:CE}{c:O EG}{e:O CE}(h:(mE P C N a d H).wp (λx H=>(HJ P C N x c e d H).wp (λb H=>Q (.bool b) H) E) E):(mE P C N (.cmp a c e) d H).wp Q E:=by rw[R.wp_bind<|R.wp_mono h (λZ Z h=>R.wp_bind h) λZ Z h=>h]
theorem Jy(h:Q [] H):(CN P a N [] f H).wp Q E:=h
theorem Es{P:Code}{C:CF}{N:G}{a:Loc}{H:MH}{E:C_->MH->Prop}{e:CE}{c:O CE}{Q:O MV->MH->Prop}(h:(mE P C N e a H).wp (λv H=>(CN P C N c a H).wp (λb H=>Q (v::b) H) E) E):(CN P C N (e::c) a H).wp Q E:=by rw[R.wp_bind<|R.wp_mono h (λZ Z h=>R.wp_bind h) λZ Z h=>h]
theorem Sg{P:Code}{C:CF}{N:G}{a:Loc}{H:MH}{E:C_->MH->Prop}{e:CE}{b:O CE}{Q:AL->MH->Prop}(h:(mE P C N e a H).wp (λv H=>tv v ((ER P C N I b a H).wp Q E)<|Q T H) E):(ER P C N I (e::b) a H).wp Q E:=by rw[R.wp_bind<|R.wp_mono h (λv H h=>XC h) λZ Z h=>h]
theorem OU{P:Code}{C:CF}{N:G}{a:Loc}{H:MH}{E:C_->MH->Prop}{e:CE}{b:O CE}{Q:AL->MH->Prop}(h:(mE P C N e a H).wp (λv H=>tv v (Q I H)<|(ER P C N T b a H).wp Q E) E):(ER P C N T (e::b) a H).wp Q E:=by rw[R.wp_bind<|R.wp_mono h (λv H h=>XC h) λZ Z h=>h]
theorem gI{P:Code}{C:CF}{N:G}{a:Loc}{H:MH}{E:C_->MH->Prop}{x:MV}{d:EG}{b:CE}{Q:AL->MH->Prop}(h:(mE P C N b a H).wp (λy H=>∃c,Ei H d x y=V c/\Q c H) E):(HJ P C N x [d] [b] a H).wp Q E:=by rw[R.wp_bind<|R.wp_mono h (λv H h=>h.elim λc q=>S7 q.1 q.2) λZ Z h=>h]
theorem aad(h:(mE P (a g) N e f H).wp (λZ H=>i .next f H) E):(mS P a N (.expr e) g f H).wp i E:=by rw[R.Jq h]
theorem vS{P}{C}{N}{a}{H}{E}{b}{c}{x e}(h:(mE P (C b) N e a H).wp (λv H=>c .next (upd a x v) H) E):(mS P C N (.asg x e) b a H).wp c E:=by rw[R.Jq h]
theorem sZ{P}{C}{N}{a}{H}{E}{c}{d}{f e}(h:(mE P (C c) N e a H).wp (λv H=>∃b,DR a f I v=V b/\d .next b H) E):(mS P C N (.FP f e) c a H).wp d E:=by rw[R.Jq<|R.wp_mono h (λv H h=>h.elim λb q=>O3 q.1 q.2) λZ Z h=>h]
theorem XE{P}{C}{N}{a}{H}{E}{c}{d}{o e k}(h:(mE P (C c) N e a H).wp (λv H=>(mE P (C c) N o a H).wp (λx H=>∃b,PN P H x k v=V b/\d .next a b) E) E):(mS P C N (.Fi o k e) c a H).wp d E:=by rw[R.Jq<|R.wp_mono h (λv H h=>R.Jq<|R.wp_mono h (λx H h=>h.elim λb q=>O3 q.1 q.2) λZ Z h=>h) λZ Z h=>h]
theorem sq{P}{C}{N}{a}{H}{E}{c}{d}{t b o}(h:(mE P (C c) N t a H).wp (λv H=>tv v ((CP P C N b c a H).wp d E)<|(CP P C N o c a H).wp d E) E):(mS P C N (.ifs t b o) c a H).wp d E:=by rw[R.Jq<|R.wp_mono h (λv H h=>yk h) λZ Z h=>h]
theorem uO(h:(mE P (a g) N e f H).wp (λv H=>i (.ret v) f H) E):(mS P a N (.ret e) g f H).wp i E:=by rw[R.Jq h]
theorem vz:∀{P N d H E C e}{a b c:CE}(h:(mE P (C I) N a d H).wp (λx H=>(mE P (C I) N b d H).wp (λy H=>(mE P (C I) N c d H).wp (λz H=>E ⟨x,y,z⟩ H) E) E) E),(mS P C N (.raise a b c) I d H).wp e E:=by intros P N d H E C e a b c _ h;rw[R.Jq<|R.wp_bind<|R.wp_mono h (λx H h=>R.wp_bind<|R.wp_bind<|R.wp_mono h (λy H h=>R.wp_bind<|R.wp_bind<|R.wp_mono h (λz H h=>h) λZ Z h=>h) λZ Z h=>h) λZ Z h=>h]
theorem Gl{P:Code}{C:AL->CF}{N:G}{a:Loc}{H:MH}{E:C_->MH->Prop}{c:AL}{d:CX->Loc->MH->Prop}{s:CS}{b}(h:(mS P C N s c a H).wp (λf a H=>match f with| .next=>(CP P C N b c a H).wp d E|f=>d f a H) E):(CP P C N (s::b) c a H).wp d E:=RS.wp_seq h
theorem Xn{P}{C}{N}{a}{H}{E}{e}{i}{j f}{k}{c b}(h:(CN P (C e) N c a H).wp (λg H=>∃d,EU H k g=V d/\(forR N j f (λa H=>CP P C N b e a H) d a H).wp i E) E):(mS P C N (.Jj j f k c b) e a H).wp i E:=by rw[R.Jq<|R.wp_mono h (λv H h=>h.elim λd q=>O3 q.1 q.2) λZ Z h=>h]
theorem pS{E:C_->MH->Prop}{QS:CX->Loc->MH->Prop}{n}{j:AL}{b}(I:O MV->Loc->MH->Prop)(d:∀v m a H,I (v::m) a H->∃c,DR a n j v=V c/\(b c H).wp (λf a H=>match f with| .ret v=>QS (.ret v) a H|_=>I m a H) E)(g:∀a H,I [] a H->QS .next a H){l}:∀{a}{H:MH},I l a H->(Hv n j b l a H).wp QS E:=by induction l with|nil=>intro a H i;rw[g _ _ i]|cons v m k=>intro a H i;rw[AY (d v m a H i) λc e w=>O3 e<|RS.Yy<|RS.wp_mono w (λf a H h=>?_) λZ Z h=>h];induction f using CX.casesOn with|ret v=>rw[h]|next=>rw[k h]|cont=>rw[k h]
theorem F4{H:MH}{i:G}{fz l}(h:H[i]?=V (.list fz l)):H[i]?.bind AK.Cc=V l:=by rw[U h ?_];rfl
theorem MN{H:MH}{i:G}{l}(h:H[i]?=V (.list T l)):H[i]?.bind AK.KD=V l:=by rw[U h ?_];rfl
theorem UO{H:MH}{n i:G}{l}(h:H[i]?=V (.dict T l))(a:Df n l=I):H[i]?.bind (AK.Px n)=V l:=by rw[U h<|AM a]
theorem Xq{H:MH}{i c d:G}(h:H[i]?=V (.inst c d)):H[i]?.bind AK.P9=V (c,d):=by rw[U h ?_];rfl
theorem bind_eq{c d:Type}{o:AO c}{a:c}{f:c->AO d}{b:d}(h:o=V a)(k:f a=V b):o.bind f=V b:=by rw[U h k]
theorem map_eq{c d:Type}{o:AO c}{a:c}{f:c->d}{b:d}(h:o=V a)(k:f a=b):o.map f=V b:=by rw[U h<|Ag k ?_];rfl
theorem gj:∀{E QS d}{g en:AL}{b i l}(I:G->Loc->MH->Prop){n:G}(o:∀j a H,I j a H->∃fz,H[i]?=V (.list fz l))(step:∀j v a H,l[j]?=V v->I j a H->∃C2,DR a d g (if en then .tup [.int j,v]else v)=V C2/\(b C2 H).wp (λf a H=>match f with| .ret v=>QS (.ret v) a H|_=>I (j+1) a H) E)(fin:∀a H,I l.length a H->QS .next a H),∀{j a H},I j a H->j<=l.length->l.length<n+j->(F_ d g b en i n j a H).wp QS E:=by intros E QS d g en b i l I n _ o step fin;induction n with|zero=>intro j a H i k c;rw[Aj (CQ c<|C8<|Di j)<|E1.mpr k]|succ n p=>intro j a H m k c;rw[xE (o j a H m) λfz e=>O3 (F4 e) ?_];cases q:l[j]? with|none=>obtain rfl:=X0 k<|ND.mp q;rw[fin _ _ m]|some v=>rw[AY (step j v a H q m) λC2 e w=>O3 e<|RS.Yy<|RS.wp_mono w (λf a H h=>?_) λZ Z h=>h];induction f using CX.casesOn with|ret v=>rw[h]|cont=>rw[p h (DP.mp q).1<|by rw[FZ,<-CR]at*;rw[c]]|next=>rw[p h (DP.mp q).1<|by rw[FZ,<-CR]at*;rw[c]]
theorem uH:∀{P N a H E C e l t b}(I:G->Loc->MH->Prop){n}(d:∀n a H,I n a H->(mE P (C e) N t a H).wp (λv H=>tv v ((CP P C N b e a H).wp (λf a H=>match f with| .ret v=>l (.ret v) a H|_=>∃m,m<n/\I m a H) E)<|l .next a H) E)(p:n<N)(i:I n a H),(mS P C N (.JY t b) e a H).wp l E:=by
 intros P N a H E C e l t b I n _ d p i;have g:∀k n a H,n<k->I n a H->(Nq (λa H=>(mE P (C e) N t a H).bind Cw) (λa H=>CP P C N b e a H) k a H).wp l E:=by intros k;induction k with|zero=>intros n a H _ h;omega|succ k j=>intros _ k _ j;intros n a H _ h i;rw[R.Jq<|R.wp_bind<|R.wp_mono (d n a H i) (λv H w=>?_) λZ Z h=>h];induction v using MV.casesOn with|bool c=>(induction c using BG with|false=>rw[w]|true=>rw[RS.Yy<|RS.wp_mono w (λf a H h=>?_) λZ Z h=>h];induction f using CX.casesOn with|ret v=>rw[h]|cont=>rw[AY h λm o i=>j m _ _ (CQ o<|JJ ‹_›) i]|next=>rw[AY h λm o i=>j m _ _ (CQ o<|JJ ‹_›) i])|_=>rw[w.elim]
 rw[g N n a H p i]
end
section
theorem rx:∀{P F N d a H Q E f c b e}(k:F f=V c)(j:FH (λZ=>C) c.params b=V e)(h:(CP P (BR P F N d) N c.body a e H).wp (λm Z H=>match m with| .ret v=>Q v H| .next=>Q .none H| .cont=>BB) E),(BR P F N (d+1) a f b H).wp Q E:=by intros P F N d a H Q E f c b e _ k j h;rw[KZ k<|KZ j ?_];revert h;cases CP P (BR P F N d) N c.body a e H with|bad=>rw[λh=>h]|exc=>rw[λh=>h]|ok f g o=>induction f using CX.casesOn<;>exactλh=>h
theorem Qe{P:Code}{H:MH}{Q:MV->MH->Prop}{E:C_->MH->Prop}{i c b k:G}{a:O (MV×MV)}{v:MV}(m:H[i]?=V (.inst c b))(j:H[b]?=V (.dict T a))(g:P.Fd c k=C)(f:Cd (.str k) a=V v)(q:Q v H)(d:Df 0 a=I):(Ml P H (.ref i) k).wp Q E:=S7 (bind_eq (Xq m)<|bind_eq (UO j d)<|(AM g).trans f) q
theorem dY{P:Code}{H:MH}{i c b k f n a}(p:H[i]?=V (.inst c b))(o:H[b]?=V (.dict T a))(m:P.Fd c k=V f)(j:Cd (.str k) a=C)(g:c≠P.Et)(d:Df 0 a=I):MW P H (.ref i) k n=V (.fn f):=bind_eq p<|bind_eq (UO o d)<|(AM ⟨g,j⟩).trans<|map_eq m Y
theorem Hu{P:Code}{H:MH}{i k n:G}{l:O MV}{m:LM}(f:H[i]?=V (.list T l))(c:P.lm k=V m)(b:Bm n 1=I):MW P H (.ref i) k n=V (.lm m i):=bind_eq f<|(AM<|B6 b).trans<|map_eq c Y
theorem Nz{H:MH}{i l v}(b:H[i]?=V (.list T l))(c:l.length<Bj)(q:Q .none<|H.set i<|.list T<|l++[v]):(J_ a (.lm .append i) (.ref i) [v] H).wp Q E:=by rw[KZ (MN b) ?_];show R.wp (if _ then _ else _) Q E;rw[U (AM c) q]
theorem X8{H:MH}{i l v}(c:H[i]?=V (.list T l))(b:l.getLast?=V v)(q:Q v<|H.set i<|.list T l.dropLast):(J_ a (.lm .pop i) (.ref i) [] H).wp Q E:=KZ (MN c)<|KZ b q
theorem nB{H:MH}{i l}(b:H[i]?=V (.list T l))(q:Q .none<|H.set i<|.list T l.reverse):(J_ a (.lm .reverse i) (.ref i) [] H).wp Q E:=KZ (MN b) q
theorem LW{H}{Q}{E}{l k j}{v}(c:idx k l.length=V j)(b:l[j]?=V v)(q:Q v H):(EA H (.tup l)<|.int k).wp Q E:=S7 (bind_eq c b) q
theorem Pd{H}{Q}{E}{i fz l}{k}{j v}(a:H[i]?=V (.list fz l))(c:idx k l.length=V j)(b:l[j]?=V v)(q:Q v H):(EA H (.ref i)<|.int k).wp Q E:=S7 (bind_eq a<|bind_eq c b) q
theorem Xu(h:a.length<=Bj)(q:Q (.ref H.length)<|H++[.list T a]):(newList a H).wp Q E:=by unfold newList;rw[U (AM h) q]
theorem MZ{H:MH}{i fz l}(h:H[i]?=V (.list fz l)):LF H (.ref i)=V l:=F4 h
theorem Fi{P:Code}{H:MH}{i c b k:G}{a:O (MV×MV)}{v:MV}(o:H[i]?=V (.inst c b))(m:H[b]?=V (.dict T a))(j:P.Fd c k=C)(g:c≠P.Et)(f:a.length<900)(d:Df 0 a=I):PN P H (.ref i) k v=V (H.set b<|.dict T<|EH (.str k) v a):=bind_eq (Xq o)<|bind_eq (UO m d)<|AM ⟨⟨j,g⟩,f⟩
def il(l:O J):O MV:=l.map .int
theorem cmp_gt:Ei H .gt (.int a) (.int b)=V (decide<|a>b):=Y
theorem mI:Ei H .eq (.int a) (.int b)=V (decide<|a=b):=Y
theorem ti:Ei H .ne (.int a) (.int b)=V (!decide (a=b)):=Y
theorem YR(l:O J):(il l).all prim=I:=by induction l with|nil=>rfl|cons a l b=>rw[b]
theorem a8(a:O J):∀b:O J,Kn (il a) (il b)=decide (a=b):=by induction a with|nil=>intro b;induction b using An<;>rfl|cons a j k=>intro b;induction b using An with|nil=>rfl|cons b c=>rw[((U (k c) ?_):((a==b)&&Kn (il j) (il c))=_)];refine Ao (λg:a=b=>?_) λg=>?_<;>refine Ao (λf:j=c=>?_) λf=>?_<;>simp [g,f]
theorem Y_:view H (.tup<|il l)=V (.t<|il l):=AM<|YR l
theorem vo{H:MH}{a b}:Ei H .eq (.tup<|il a) (.tup<|il b)=V (decide<|a=b):=bind_eq Y_<|map_eq Y_<|a8 a b
theorem l6{H:MH}{a b}:Ei H .ne (.tup<|il a) (.tup<|il b)=V (!decide (a=b)):=map_eq (vo (a:=a) (b:=b)) Y
theorem iW:Ei H .is .none .none=V I:=Y
theorem g9:Ei H .is (.tup l) .none=V T:=Y
theorem zN{H:MH}(l:O J):views H (il l)=V (l.map λi=>Vw.p<|.int i):=by induction l with|nil=>rfl|cons a l b=>rw[map_eq b Y]
theorem MR:∀{H}{a:J}{l},Ei H .isin (.int a) (.tup<|il l)=V (decide<|a∈l):=by
 intros H a l;rw[map_eq (zN l)<|U Yc ?_];have:∀m:O J,(m.any λi=>IL (.p<|.int i)<|.p<|.int a)=decide (a∈m):=λm=>by induction m with|nil=>rfl|cons b m f=>intros _ b m _ f;rw[U SO<|U f<|((Ao (λc:b=a=>?_) λc=>?_):((b==a)||decide (a∈m))=_)];(·simp [c]);·have:¬a=b:=λq=>c q.symm;simp [c,this]
 rw[this l]
end
end
section
/-! walks through bodies: what is left to do (Wc), an expression that may do something (Ee), a plain value (Ev) -/
abbrev Qc(Q:MV->MH->Prop):CX->Loc->MH->Prop:=λa Z H=>match a with| .ret v=>Q v H| .next=>Q .none H| .cont=>BB
abbrev Ql(b:CX->Loc->MH->Prop)(J:Loc->MH->Prop):CX->Loc->MH->Prop:=λf a H=>match f with| .ret v=>b (.ret v) a H|_=>J a H
def Wc(N:G)(a:AL)(d:G)(b:CX->Loc->MH->Prop)(E:C_->MH->Prop)(c:O CS)(e:Loc)(H:MH):Prop:=(CP tb.P (BR tb.P FF N d) N c a e H).wp b E
def Ee(N:G)(a:AL)(d:G)(E:C_->MH->Prop)(b:Loc)(H:MH)(e:CE)(Q:MV->MH->Prop):Prop:=(mE tb.P (BR tb.P FF N d a) N e b H).wp Q E
def Ev(N:G)(a:AL)(d:G)(b:Loc)(H:MH)(e:CE)(v:MV):Prop:=mE tb.P (BR tb.P FF N d a) N e b H= .ok v H
def Ai(N:G)(a:AL)(d:G)(b:Loc)(H:MH)(c:O CE)(e:O MV):Prop:=CN tb.P (BR tb.P FF N d a) N c b H= .ok e H
section
variable{N d:AE}{rz:AL}{QS:CX->Loc->MH->Prop}{E:C_->MH->Prop}{ρ:Loc}{H:MH}{ss:AB CS}
theorem Cg(j:FF f=V c)(g:FH (λZ=>C) c.params b=V ρ)(h:Wc N rz d (Qc Q) E c.body ρ H):(BR tb.P FF N (d+1) rz f b H).wp Q E:=rx j g h
theorem m9:∀{N e i E c P C b},∀{a H},(CP P C N (b++c) e a H).wp i E->(CP P C N b e a H).wp (λf a H=>match f with| .next=>(CP P C N c e a H).wp i E|f=>i f a H) E:=by intros N e i E c P C b;induction b with|nil=>rw[λh=>h]|cons s b j=>intro a H h;rw[RS.wp_seq ?_];revert h;rw[(?_:((mS P C N s e a H).seq λa H=>CP P C N (b++c) e a H).wp i E->_)];cases mS P C N s e a H with|bad=>rw[λh=>h]|exc=>rw[λh=>h]|ok f g k=>induction f using CX.casesOn with|next=>rw[j]|cont=>rw[λh=>h]|ret v=>rw[λh=>h]
theorem rb{r:R b}(h:r= .ok a H)(k:f a H=q):r.bind f=q:=by rw[U h k]
theorem F1{r:R b}(h:r= .ok a H)(k:Q a H):r.wp Q E:=by rw[U h k]
theorem R.XG(b:c≠P.Et)(e:P.init c=V f)(h:(a f (.ref (H.length+1)::i)<|H++[.dict T [],.inst c H.length]).wp (λv g=>v= .none/\Q (.ref<|H.length+1) g) E):(KR P a c i H).wp Q E:=by unfold KR;rw[U (AS b)<|KZ e<|R.wp_bind<|R.wp_mono h (λv g q=>?_) λZ Z h=>h];obtain⟨rfl,q⟩:=q;rw[q]
theorem KS(h:o=V a):BW H o= .ok a H:=by rw[U h ?_];rfl
theorem Ee.v{e}{v:MV}{Q}(b:Ev N rz d ρ H e v)(h:Q v H):Ee N rz d E ρ H e Q:=F1 b h
theorem Wc.nil(h:QS .next ρ H):Wc N rz d QS E [] ρ H:=h
theorem Wc.expr(h:Ee N rz d E ρ H e λZ H=>Wc N rz d QS E ss ρ H):Wc N rz d QS E (.expr e::ss) ρ H:=Gl<|aad h
theorem Wc.asg(h:Ee N rz d E ρ H e λv H=>Wc N rz d QS E ss (upd ρ x v) H):Wc N rz d QS E (.asg x e::ss) ρ H:=Gl<|vS h
theorem Wc.Iv(b:Ev N rz d ρ H e v)(h:Wc N rz d QS E ss (upd ρ x v) H):Wc N rz d QS E (.asg x e::ss) ρ H:=Wc.asg<|Ee.v b h
theorem Wc.FP(h:Ee N rz d E ρ H e λv H=>∃b,DR ρ a I v=V b/\Wc N rz d QS E ss b H):Wc N rz d QS E (.FP a e::ss) ρ H:=Gl<|sZ h
theorem Wc.Uu(c:Ev N rz d ρ H e v)(f:DR ρ a I v=V b)(h:Wc N rz d QS E ss b H):Wc N rz d QS E (.FP a e::ss) ρ H:=Wc.FP<|Ee.v c<|Aa _ f h
theorem Wc.ret{e}(h:Ee N rz d E ρ H e λv H=>QS (.ret v) ρ H):Wc N rz d QS E (.ret e::ss) ρ H:=Gl<|uO h
theorem Wc.FN(b:Ev N rz d ρ H e v)(h:QS (.ret v) ρ H):Wc N rz d QS E (.ret e::ss) ρ H:=Wc.ret<|Ee.v b h
theorem Wc.Fi{o e}{k}{v x b}(c:Ev N rz d ρ H e v)(f:Ev N rz d ρ H o x)(a:PN tb.P H x k v=V b)(h:Wc N rz d QS E ss ρ b):Wc N rz d QS E (.Fi o k e::ss) ρ H:=Gl<|XE<|F1 c<|F1 f<|Aa _ a h
theorem Wc.raise(j:Ev N I d ρ H a x)(g:Ev N I d ρ H b y)(f:Ev N I d ρ H c z)(h:E ⟨x,y,z⟩ H):Wc N I d QS E (.raise a b c::ss) ρ H:=Gl<|vz<|F1 j<|F1 g<|F1 f h
theorem Wc.ifs(h:Ee N rz d E ρ H t λv H=>tv v (Wc N rz d QS E (b++ss) ρ H)<|Wc N rz d QS E (o++ss) ρ H):Wc N rz d QS E (.ifs t b o::ss) ρ H:=Gl<|sq<|R.wp_mono h (λv H h=>match v,h with| .bool I,h=>m9 h| .bool T,h=>m9 h) λZ Z h=>h
theorem Wc.Ol(c:Ev N rz d ρ H t<|.bool k)(g:k=I->Wc N rz d QS E (b++ss) ρ H)(f:k=T->Wc N rz d QS E (o++ss) ρ H):Wc N rz d QS E (.ifs t b o::ss) ρ H:=Wc.ifs<|Ee.v c<|o4 g f
theorem Wc.yl{t b o p}{i:Dh p}(c:Ev N rz d ρ H t<|.bool<|decide p)(g:p->Wc N rz d QS E (b++ss) ρ H)(f:¬p->Wc N rz d QS E (o++ss) ρ H):Wc N rz d QS E (.ifs t b o::ss) ρ H:=Wc.Ol c (λh=>g<|DJ h) λh=>f<|W4 h
theorem Wc.Hv{h}{o}{k j b}{e l}(p:Ai N rz d a H j e)(n:EU H k e=V (.seq l))(I:O MV->Loc->MH->Prop)(g:∀v e a H,I (v::e) a H->∃c,DR a h o v=V c/\Wc N rz d (Ql QS<|I e) E b c H)(m:∀a H,I [] a H->Wc N rz d QS E ss a H)(i:I l a H):Wc N rz d QS E (.Jj h o k j b::ss) a H:=Gl<|Xn<|F1 p<|Aa _ n<|pS (QS:=λf a H=>match f with| .next=>Wc N rz d QS E ss a H|f=>QS f a H) I g m i
theorem Wc.F_{e l:O MV}(u:Ai N rz d a H m e)(h:EU H k e=V (.lst i))(I:G->Loc->MH->Prop)(r:∀j a H,I j a H->∃w,H[i]?=V (.list w l))(g:∀j v a H,l[j]?=V v->I j a H->∃c,DR a n p v=V c/\Wc N rz d (Ql QS<|I<|j+1) E b c H)(o:∀a H,I l.length a H->Wc N rz d QS E ss a H)(s:I 0 a H)(q:l.length<N):Wc N rz d QS E (.Jj n p k m b::ss) a H:=Gl<|Xn<|F1 u<|Aa _ h<|gj (QS:=λf a H=>match f with| .next=>Wc N rz d QS E ss a H|f=>QS f a H) (en:=T) I r g o s (CJ _) q
theorem Wc.n8{m b h l}(r:Ai N rz d e H m h)(n:EU H k h=V (.DU i))(a:G->Loc->MH->Prop)(q:∀j e H,a j e H->∃u,H[i]?=V (.list u l))(g:∀j v e H,l[j]?=V v->a j e H->∃c,DR e s I (.tup [.int j,v])=V c/\Wc N rz d (Ql QS<|a<|j+1) E b c H)(o:∀e H,a l.length e H->Wc N rz d QS E ss e H)(t:a 0 e H)(p:l.length<N):Wc N rz d QS E (.Jj s I k m b::ss) e H:=Gl<|Xn<|F1 r<|Aa _ n<|gj (QS:=λf e H=>match f with| .next=>Wc N rz d QS E ss e H|f=>QS f e H) (en:=I) a q g o t (CJ _) p
theorem Wc.JY(I:G->Loc->MH->Prop)(c:∀n a H,I n a H->Ee N rz d E a H t λv H=>tv v (Wc N rz d (Ql QS λa H=>∃m,m<n/\I m a H) E b a H)<|Wc N rz d QS E ss a H)(f:n<N)(i:I n a H):Wc N rz d QS E (.JY t b::ss) a H:=Gl<|uH I c f i
theorem Ee.BA{a v e}(b:Ev N rz d ρ H o v)(c:MW tb.P H v k a.length=V m)(f:Ai N rz d ρ H a e)(h:(J_ (BR tb.P FF N d rz) m v e H).wp Q E):Ee N rz d E ρ H (.BA o k a) Q:=TM<|F1 b<|Aa m c<|F1 f h
theorem Ee.EK(b:Ai N rz d ρ H a g)(h:(BR tb.P FF N d rz f g H).wp Q E):Ee N rz d E ρ H (.EK f a) Q:=Ly<|F1 b h
theorem LD{j n:G}(h:j<n):idx (j:J) n=V j:=(AM<|EE j).trans<|(AM<|Du.mpr h).trans Y
theorem xm:idx (-1) (n+1)=V n:=by unfold idx;rw[U (AS<|(dc Y))<|U ((by lia:(-1+((n+1:G):J))=n))<|U (AM<|EE n) ?_];rfl
theorem cK(h:n≠0):idx (-1) n=V (n-1):=by induction n using CV with|zero=>rw[Aj Y h]|succ n=>rw[xm]
theorem wm(h:n<l.length):l≠[]:=List.ne_nil_of_length_pos<|CH (CJ _) h
theorem Ev.con:Ev N rz d ρ H (.con v) v:=Y
theorem Ev.loc{x:G}{v}(h:ρ x=V v):Ev N rz d ρ H (.loc x) v:=KS h
theorem Ev.glob{g:G}{v}(h:tb.P.glob g=V v):Ev N rz d ρ H (.glob g) v:=KS h
theorem Ev.attr(b:Ev N rz d ρ H o u)(h:Ml tb.P H u k= .ok v H):Ev N rz d ρ H (.attr o k) v:=rb b h
theorem Ev.sub(b:Ev N rz d ρ H o u)(c:Ev N rz d ρ H i k)(h:EA H u k= .ok v H):Ev N rz d ρ H (.sub o i) v:=rb b<|rb c h
theorem Ev.E8(c:Ev N rz d ρ H a u)(h:LH H b u= .ok v H):Ev N rz d ρ H (.E8 b a) v:=rb c h
theorem Ev.len(b:Ev N rz d ρ H a u)(h:LF H u=V l):Ev N rz d ρ H (.E8 .len a)<|.int l.length:=Ev.E8 b<|KS<|map_eq h Y
theorem Ev.bin(g:Ev N rz d ρ H a u)(f:Ev N rz d ρ H b w)(h:Mz H c u w= .ok v H):Ev N rz d ρ H (.bin c a b) v:=rb g<|rb f h
theorem Ev.add(f:Ev N rz d ρ H a<|.int i)(c:Ev N rz d ρ H b<|.int j):Ev N rz d ρ H (.bin .add a b)<|.int<|i+j:=Ev.bin f c Y
theorem Ev.min(f:Ev N rz d ρ H a<|.int i)(c:Ev N rz d ρ H b<|.int j):Ev N rz d ρ H (.bin .sub a b)<|.int<|i-j:=Ev.bin f c Y
theorem Ev.not(b:Ev N rz d ρ H a<|.bool k):Ev N rz d ρ H (.not a)<|.bool<|!k:=rb b Y
theorem Ev.cmp(g:Ev N rz d ρ H a u)(f:Ev N rz d ρ H b w)(h:Ei H c u w=V k):Ev N rz d ρ H (.cmp a [c] [b])<|.bool k:=rb g<|rb (rb f<|KS h) Y
theorem Ev.gU{j c}{a b i}{u w g}{k e}(o:Ev N rz d ρ H a u)(m:Ev N rz d ρ H b w)(h:Ei H j u w=V k)(f:Ev N rz d ρ H i g)(l:Ei H c w g=V e):Ev N rz d ρ H (.cmp a [j,c] [b,i])<|.bool<|k&&e:=by
 rw[rb o<|rb (a:=k&&e) (rb m<|rb (KS h) ?_) Y];induction k using BG;·rfl
 rw[rb f<|KS l]
theorem Ev.and{a b}{k k'}(f:Ev N rz d ρ H a<|.bool k)(c:k=I->Ev N rz d ρ H b (.bool k')):Ev N rz d ρ H (.bool I [a,b])<|.bool<|k&&k':=by
 rw[rb (a:=k&&k') (rb f<|rb Y ?_) Y];induction k using BG;·rfl
 ·rw[rb (c Y)<|rb Y ?_];induction k' using BG<;>rfl
theorem Ev.or{a b}{k k'}(f:Ev N rz d ρ H a<|.bool k)(c:k=T->Ev N rz d ρ H b (.bool k')):Ev N rz d ρ H (.bool T [a,b])<|.bool<|k||k':=by
 rw[rb (a:=k||k') (rb f<|rb Y ?_) Y];induction k using BG;·rw[rb (c Y)<|rb Y ?_];induction k' using BG<;>rfl
 ·rfl
theorem Ev.UE(c:Ev N rz d ρ H t<|.bool I)(f:Ev N rz d ρ H a v):Ev N rz d ρ H (.ite t a b) v:=rb c f
theorem Ev.Uv(c:Ev N rz d ρ H t<|.bool T)(f:Ev N rz d ρ H b v):Ev N rz d ρ H (.ite t a b) v:=rb c f
theorem Ai.tup(h:Ai N rz d ρ H a vs)(b:vs.length<=Bj):Ev N rz d ρ H (.tup a)<|.tup vs:=rb h<|AM b
theorem Ai.nil:Ai N rz d ρ H [] []:=Y
theorem Ai.cons(c:Ev N rz d ρ H e v)(b:Ai N rz d ρ H a f):Ai N rz d ρ H (e::a)<|v::f:=rb c<|rb b Y
theorem Ai.one(b:Ev N rz d ρ H e v):Ai N rz d ρ H [e] [v]:=Ai.cons b Y
theorem GC{r:R MV}(h:r.wp (λf g=>f=v/\g=H) λZ Z=>BB):r= .ok v H:=by induction r using R.casesOn with|ok=>(rw[xA h λc b=>?_];clear h;subst c;subst b);rfl|exc=>rw[h.elim]|bad=>rw[h.elim]
theorem Ee.N0{o}{k}{e v m}{Q}(b:Ev N rz d ρ H o v)(c:MW tb.P H v k 1=V m)(h:Ee N rz d E ρ H e λx H=>(J_ (BR tb.P FF N d rz) m v [x] H).wp Q E):Ee N rz d E ρ H (.BA o k [e]) Q:=TM<|F1 b<|Aa m c<|Es<|R.wp_mono h (λZ Z h=>Jy h) λZ Z h=>h
theorem Ee.callC(b:Ai N rz d ρ H a f)(h:(KR tb.P (BR tb.P FF N d rz) k f H).wp Q E):Ee N rz d E ρ H (.callC k a) Q:=jS<|F1 b h
theorem Ee.list(c:Ai N rz d ρ H f a)(b:a.length<=Bj)(h:Q (.ref H.length)<|H++[.list T a]):Ee N rz d E ρ H (.list f) Q:=j2<|F1 c<|Xu b h
theorem Ee.tolist(c:Ev N rz d ρ H a u)(e:LF H u=V l)(b:l.length<=Bj)(h:Q (.ref H.length)<|H++[.list T l]):Ee N rz d E ρ H (.E8 .list a) Q:=tE<|F1 c<|KZ e<|Xu b h
def Ed(N:G)(rz:AL)(d:G)(ρ:Loc)(H:MH)(e:CE)(p:Prop):Prop:=(p->Ev N rz d ρ H e (.bool I))/\(¬p->Ev N rz d ρ H e (.bool T))
theorem Ed.of{e p}{i:Dh p}(h:Ev N rz d ρ H e<|.bool<|decide p):Ed N rz d ρ H e p:=⟨λq=>by rw[((DD q)▸h)],λq=>by rw[((Dk q)▸h)]⟩
theorem Ed.b{e k}(h:Ev N rz d ρ H e<|.bool k):Ed N rz d ρ H e<|k=I:=⟨λq=>q▸h,λq=>by induction k using BG;rw[h,Aj Y q]⟩
theorem Ed.conv(h:Ed N rz d ρ H e p)(k:p↔q):Ed N rz d ρ H e q:=by rw[Ag (propext k) h]
theorem Ed.not(h:Ed N rz d ρ H e p):Ed N rz d ρ H (.not e)<|¬p:=⟨λq=>Ev.not<|h.2 q,λq=>Ev.not<|h.1<|J5.mp q⟩
theorem Ed.and{a b p q}(f:Ed N rz d ρ H a p)(g:p->Ed N rz d ρ H b q):Ed N rz d ρ H (.bool I [a,b])<|p/\q:=⟨λh=>Ev.and (f.1 h.1) λZ=>(g h.1).1 h.2,λh=>(Wj p).elim (λc=>Ev.and (f.1 c) λZ=>(g c).2 λj=>h ⟨c,j⟩) λc=>Ev.and (k':=T) (f.2 c) λe=>(by cases e)⟩
theorem Ed.or{a b p q}(f:Ed N rz d ρ H a p)(g:¬p->Ed N rz d ρ H b q):Ed N rz d ρ H (.bool T [a,b])<|p\/q:=⟨λh=>(Wj p).elim (λc=>Ev.or (k':=T) (f.1 c) λe=>nomatch e) λc=>Ev.or (f.2 c) λZ=>(g c).1<|h.resolve_left c,λh=>Ev.or (f.2 λc=>h<|.inl c) λZ=>(g λc=>h<|.inl c).2 λj=>h<|.inr j⟩
theorem Ev.Mj:∀{N d e h H}{a b c:CE}{k k' k'':AL}(j:Ev N e d h H a<|.bool k)(g:k=I->Ev N e d h H b (.bool k'))(f:k=I->k'=I->Ev N e d h H c (.bool k'')),Ev N e d h H (.bool I [a,b,c])<|.bool<|k&&(k'&&k''):=by
 intros N d e h H a b c k k' k'' _ j g f;rw[rb (a:=k&&(k'&&k'')) (rb j<|rb Y ?_) Y];clear j;induction k using BG;·rfl
 ·rw[rb (g Y)<|rb Y ?_];clear g;induction k' using BG;(·rfl);·rw[rb (f Y Y)<|rb Y ?_];clear f;induction k'' using BG<;>rfl
theorem Ed.va{a b c p q r}(f:Ed N rz d ρ H a p)(g:p->Ed N rz d ρ H b q)(j:p->q->Ed N rz d ρ H c r):Ed N rz d ρ H (.bool I [a,b,c])<|p/\q/\r:=by
 by_cases hp:p;·by_cases hq:q;rw[⟨λh=>Ev.Mj (f.1 hp) (λZ=>(g hp).1 hq) λZ Z=>(j hp hq).1 h.2.2,λh=>Ev.Mj (k'':=T) (f.1 hp) (λZ=>(g hp).1 hq) λZ Z=>(j hp hq).2 λk=>h<|BX hp hq k⟩,⟨λh=>Aj h.2.1 hq,λZ=>Ev.Mj (k'':=T) (f.1 hp) (λZ=>(g hp).2 hq) λZ e=>nomatch e⟩]
 rw[⟨λh=>Aj h.1 hp,λZ=>Ev.Mj (k':=T) (k'':=T) (f.2 hp) (λe=>nomatch e) λe=>nomatch e⟩]
theorem Ed.Mj{a b c p q r}(j:Ed N rz d ρ H a p)(g:Ed N rz d ρ H b q)(f:Ed N rz d ρ H c r):Ed N rz d ρ H (.bool I [a,b,c])<|p/\q/\r:=Ed.va j (λZ=>g) λZ Z=>f
theorem Ed.c{c:EG}{a b:CE}{u w:MV}{p:Prop}{i:Dh p}(g:Ev N rz d ρ H a u)(f:Ev N rz d ρ H b w)(h:Ei H c u w=V (decide p)):Ed N rz d ρ H (.cmp a [c] [b]) p:= .of<|Ev.cmp g f h
theorem Ed.lt{a b i j}(f:Ev N rz d ρ H a<|.int i)(c:Ev N rz d ρ H b<|.int j):Ed N rz d ρ H (.cmp a [.lt] [b])<|i<j:= .of<|Ev.cmp f c Y
theorem Ed.le{a b i j}(f:Ev N rz d ρ H a<|.int i)(c:Ev N rz d ρ H b<|.int j):Ed N rz d ρ H (.cmp a [.le] [b])<|i<=j:= .of<|Ev.cmp f c Y
theorem Ed.gt{a b i j}(f:Ev N rz d ρ H a<|.int i)(c:Ev N rz d ρ H b<|.int j):Ed N rz d ρ H (.cmp a [.gt] [b])<|j<i:= .of<|Ev.cmp f c Y
theorem Ed.ge{a b i j}(f:Ev N rz d ρ H a<|.int i)(c:Ev N rz d ρ H b<|.int j):Ed N rz d ρ H (.cmp a [.ge] [b])<|j<=i:= .of<|Ev.cmp f c Y
theorem Ed.eq{a b i j}(f:Ev N rz d ρ H a<|.int i)(c:Ev N rz d ρ H b<|.int j):Ed N rz d ρ H (.cmp a [.eq] [b])<|i=j:= .of<|Ev.cmp f c mI
theorem Ed.XW{a b u w p}{i:Dh p}(f:Ev N rz d ρ H a u)(c:Ev N rz d ρ H b w)(h:Ei H .ne u w=V (!decide p)):Ed N rz d ρ H (.cmp a [.ne] [b])<|¬p:= .of<|by rw[U decide_not<|Ev.cmp f c h]
theorem Ed.ne{a b i j}(f:Ev N rz d ρ H a<|.int i)(c:Ev N rz d ρ H b<|.int j):Ed N rz d ρ H (.cmp a [.ne] [b])<|i≠j:=Ed.XW f c ti
theorem Ed.W9{a b c i j k}(m:Ev N rz d ρ H a<|.int i)(g:Ev N rz d ρ H b<|.int j)(f:Ev N rz d ρ H c<|.int k):Ed N rz d ρ H (.cmp a [.le,.le] [b,c])<|i<=j/\j<=k:= .of<|by rw[U (Yn ..)<|Ev.gU m g Y f Y]
theorem Ed.WB{a b c i j k}(m:Ev N rz d ρ H a<|.int i)(g:Ev N rz d ρ H b<|.int j)(f:Ev N rz d ρ H c<|.int k):Ed N rz d ρ H (.cmp a [.le,.lt] [b,c])<|i<=j/\j<k:= .of<|by rw[U (Yn ..)<|Ev.gU m g Y f Y]
theorem Ee.dec{e p}{A B:MH->Prop}(b:Ed N rz d ρ H e p)(f:p->A H)(c:¬p->B H):Ee N rz d E ρ H e λv H=>tv v (A H)<|B H:=by rw[Ao (λq:p=>?_) λq=>?_,Ee.v (b.1 q)<|f q,Ee.v (b.2 q)<|c q]
theorem Wc.CC(c:Ed N rz d ρ H t p)(g:p->Wc N rz d QS E (b++ss) ρ H)(f:¬p->Wc N rz d QS E (o++ss) ρ H):Wc N rz d QS E (.ifs t b o::ss) ρ H:=by rw[Ao (λq:p=>?_) λq=>?_,Wc.ifs<|Ee.v (c.1 q)<|g q,Wc.ifs<|Ee.v (c.2 q)<|f q]
theorem Ev.ite [Dh p](c:Ed N rz d ρ H t p)(g:p->Ev N rz d ρ H a u)(f:¬p->Ev N rz d ρ H b v):Ev N rz d ρ H (.ite t a b)<|if p then u else v:=by rw[Ao (λq:p=>?_) λq=>?_,U (AM q)<|Ev.UE (c.1 q)<|g q,U (AS q)<|Ev.Uv (c.2 q)<|f q]
end
end
section
structure BY where
 code:J
 par:O J
 res:O J
 C9:G
 dead:AL
 EM:AL
instance:CK BY:=⟨⟨0,[],[],0,T,T⟩⟩
structure BK where
 vals:O J
 C':O BY
instance:CK BK:=⟨⟨[],[]⟩⟩
structure EZ where
 kinds:O<|O J×O J
 funcs:O J
 locs:O J
 res:O J
 fn:J
instance:CK EZ:=⟨⟨[],[],[],[],0⟩⟩
inductive PR(α:Type)where
 |ok(a:α)(s:BK)
 |fail(w:G)
 |big
instance{a:Type}:CK<|PR a:=⟨.big⟩
def PR.ctorIdx{a:Type}(x:PR a):G:= @PR.casesOn a (λZ=>G) x (λZ Z=>0) (λZ=>1) 2
theorem PR.iO{c:Type}{a b:c}{s t:BK}{G:Prop}(h:PR.ok a s= .ok b t)(k:a=b->s=t->G):G:=by cases h;rw[k Y Y]
def PR.bind{b c:Type}:PR b->(b->BK->PR c)->PR c| .ok a s,f=>f a s| .fail w,_=> .fail w| .big,_=> .big
def lim:G:=1000000
def PR.of{b:Type}(s:BK):AO b->PR b|V a=> .ok a s|C=> .big
def H9(k:J)(s:BK):PR BF:=if s.vals.length<lim then .ok () {s with vals:=s.vals++[k]}else .big
def Dd:O J->BK->PR BF|[],s=> .ok () s|k::a,s=>(H9 k s).bind λZ s=>Dd a s
def Ft(s:BK):PR J:=(PR.of s s.C'.getLast?).bind λb s=>if b.C9<s.vals.length then(PR.of s s.vals.getLast?).bind λv s=> .ok v {s with vals:=s.vals.dropLast}else if b.dead=I then .ok 0 s else .fail 50
def D5(k:J)(s:BK):PR J:=(Ft s).bind λf s=>if f≠k/\f≠0/\k≠0 then .fail 50 else .ok f s
def Fv:O J->BK->PR (O J)|[],s=> .ok [] s|k::a,s=>(D5 k s).bind λf s=>(Fv a s).bind λb s=> .ok (f::b) s
def DG(a:O J)(s:BK):PR<|O J:=(Fv a.reverse s).bind λb s=> .ok b.reverse s
def H_(s:BK):PR BF:=(PR.of s s.C'.getLast?).bind λb s=> .ok () ⟨s.vals.take b.C9,s.C'.dropLast++[{b with dead:=I}]⟩
def Qt(b:BY)(s:BK):PR BF:=if s.C'.length<lim/\b.par.length<=lim/\b.res.length<=lim then .ok () {s with C':=s.C'++[b]}else .big
def Ll(code:J)(a b:O J)(s:BK):PR BF:=(PR.of s s.C'.getLast?).bind λo s=>(Qt ⟨code,a,b,s.vals.length,T,o.dead||o.EM⟩ s).bind λZ s=>Dd a s
def Qi(s:BK):PR BY:=(PR.of s s.C'.getLast?).bind λb s=>(DG b.res s).bind λZ s=>if s.vals.length≠b.C9 then .fail 50 else .ok b {s with C':=s.C'.dropLast}
def BY.label(b:BY):O J:=if b.code=3 then b.par else b.res
def Hn(l:J)(s:BK):PR<|O J:=if 0<=l/\l<s.C'.length then(PR.of s s.C'[s.C'.length-1-l.toNat]?).bind λb s=> .ok b.label s else .fail 51
def blockKind(e:EZ)(a:J):AO<|O J×O J:=if a= -64 then V ([],[])else if a<0 then(if a∈[-1,-2,-16,-17]then V ([],[a])else C)else if a<e.kinds.length then e.kinds[a.toNat]? else C
def JB(e:EZ)(a:J)(s:BK):PR<|O J×O J:=match blockKind e a with|V k=> .ok k s|C=> .fail 52
def VU(e:EZ)(i:J)(s:BK):PR<|O J×O J:=if 0<=i/\i<e.kinds.length then PR.of s e.kinds[i.toNat]? else .fail 52
def QP(e:EZ)(i:J)(s:BK):PR<|O J×O J:=if 0<=i/\i<e.funcs.length then(PR.of s e.funcs[i.toNat]?).bind λf s=>VU e f s else .fail 53
def Vm(e:EZ)(i:J)(s:BK):PR J:=if 0<=i/\i<e.locs.length then PR.of s e.locs[i.toNat]? else .fail 54
def M0:O<|J×J×O J×O J:=[(69,69,[-1],[-1]),(70,79,[-1,-1],[-1]),(80,80,[-2],[-1]),(81,90,[-2,-2],[-1]),(103,105,[-1],[-1]),(106,120,[-1,-1],[-1]),(121,123,[-2],[-2]),(124,138,[-2,-2],[-2]),(167,167,[-2],[-1]),(172,173,[-1],[-2]),(192,193,[-1],[-1]),(194,196,[-2],[-2])]
def IG(code:J):O (J×J×O J×O J)->AO (O J×O J)|[]=>C|(lo,a,p,r)::t=>if lo<=code/\code<=a then V (p,r)else IG code t
def Sq(code:J)(s:BK):PR BF:=match IG code M0 with|C=> .fail 49|V k=>(DG k.1 s).bind λZ s=>Dd k.2 s
def XS(s:BK):PR BF:=(PR.of s s.C'.getLast?).bind λb s=>if b.code≠4 then .fail 55 else(Qi s).bind λc s=>(Qt ⟨5,c.par,c.res,s.vals.length,T,b.EM⟩ s).bind λZ s=>Dd c.par s
def ix(s:BK):PR BF:=(Qi s).bind λc s=>if c.code=4/\c.par≠c.res then .fail 50 else if 0<s.C'.length then Dd c.res s else .ok () s
def Jl:O J->O J->BK->PR BF|[],_,s=> .ok () s|l::f,last,s=>(Hn l s).bind λa s=>if a.length≠last.length then .fail 50 else(DG a s).bind λb s=>(Dd b s).bind λZ s=>Jl f last s
def fu(b:O J)(s:BK):PR BF:=match b with|[]=> .big|code::a=>if code=12 then(PR.of s a[0]?).bind λl s=>(Hn l s).bind λc s=>(DG c s).bind λZ s=>H_ s else if code=13 then(D5 (-1) s).bind λZ s=>(PR.of s a[0]?).bind λl s=>(Hn l s).bind λc s=>(DG c s).bind λZ s=>Dd c s else(D5 (-1) s).bind λZ s=>(PR.of s b.getLast?).bind λl s=>(Hn l s).bind λlast s=>(Jl a.dropLast last s).bind λZ s=>(DG last s).bind λZ s=>H_ s
def gd(e:EZ)(k:O J×O J)(tail:AL)(s:BK):PR BF:=if tail=I/\k.2≠e.res then .fail 50 else(DG k.1 s).bind λZ s=>if tail=I then H_ s else Dd k.2 s
def isNum(k:J):AL:=decide<|k∈([-1,-2,0]:O J)
def cZ(a:O J)(s:BK):PR BF:=match a with|[]=> .big|code::f=>if code=28 then if a.length≠2 then .fail 56 else(PR.of s f[0]?).bind λt s=>if t∉[-1,-2,-16,-17]then .fail 52 else(DG [t,t,-1] s).bind λZ s=>H9 t s else(D5 (-1) s).bind λZ s=>(Ft s).bind λone s=>(Ft s).bind λtwo s=>if isNum one=T\/isNum two=T then .fail 50 else if one≠two/\one≠0/\two≠0 then .fail 50 else H9 (if one=0 then two else one) s
def gz(e:EZ)(a:O J)(s:BK):PR BF:=match a with|[]=> .big|code::f=>if code=26 then(Ft s).bind λZ s=> .ok () s else if code∈[27,28]then cZ a s else if code<32 then .fail 49 else(PR.of s f[0]?).bind λl s=>(Vm e l s).bind λk s=>(if code≠32 then(D5 k s).bind λZ s=> .ok () s else .ok () s).bind λZ s=>if code≠33 then H9 k s else .ok () s
def bY(e:EZ)(b:O J)(s:BK):PR BF:=match b with|[]=> .big|code::a=>if code=0 then H_ s else if code∈[2,3,4]then(if code=4 then(D5 (-1) s).bind λZ s=> .ok () s else .ok () s).bind λZ s=>(PR.of s a[0]?).bind λt s=>(JB e t s).bind λk s=>(DG k.1 s).bind λZ s=>Ll code k.1 k.2 s else if code=5 then XS s else if code=11 then ix s else if code∈[12,13,14]then fu b s else if code=15 then(DG e.res s).bind λZ s=>H_ s else if code>=16 then(PR.of s a[0]?).bind λi s=>(QP e i s).bind λk s=>gd e k (decide<|code=18) s else if code≠1 then .fail 49 else .ok () s
def D_(e:EZ)(a:O J)(s:BK):PR BF:=match a with|[]=> .big|code::_=>if code<=16\/code=18 then bY e a s else if 26<=code/\code<=34 then gz e a s else if code=65 then H9 (-1) s else if code=66 then H9 (-2) s else if 69<=code/\code<=196 then Sq code s else .fail 49
theorem PR.Iu{r:PR g}(h:r.bind f= .ok b s):∃a c,r= .ok a c/\f a c= .ok b s:=by induction r using PR.casesOn with|ok a c=>rw[(Kl a c Y h)]|fail w=>cases h|big=>cases h
theorem PR.of_ok{f:Type}{s e:BK}{o:AO f}{a:f}(h:PR.of s o= .ok a e):e=s/\o=V a:=by induction o using C4 with|none=>cases h|some b=>rw[PR.iO h λd c=>U d<|U c ?_,⟨Y,Y⟩]
theorem xn:∀{s a}{v}(h:Ft s= .ok v a),a.C'=s.C':=by
 intros s a v _ h;injection(PR.Iu h)with b j _ f k;rw[xA (PR.of_ok f) λg Z=>?_];clear h f;rw[Ao (λq:b.C9<j.vals.length=>?_) λq=>?_];·replace k:=(AM q)▸k;injection(PR.Iu k)with v o _ m k;rw[Ag g<|Ag ((PR.of_ok m).1) ?_,PR.iO k λd c=>Ag d<|Ag c ?_];rfl
 ·replace k:=(AS q)▸k;rw[Ao (λq:b.dead=I=>?_) λq=>?_];(·replace k:=(AM q)▸k;rw[PR.iO k λd c=>Ag d<|Ag c ?_,U g Y]);·replace k:=(AS q)▸k;cases k
theorem nh:∀{k}{s a}{v}(h:D5 k s= .ok v a),a.C'=s.C':=by
 intros k s a v _ h;injection(PR.Iu h)with f j _ g b;rw[Ao (λq:f≠k/\f≠0/\k≠0=>?_) λq=>?_];·replace b:=(AM q)▸b;cases b
 ·replace b:=(AS q)▸b;rw[PR.iO b λd c=>Ag d<|Ag c ?_,xn g]
theorem qr{l}:∀{s a}{v},Fv l s= .ok v a->a.C'=s.C':=by induction l with|nil=>intro s a v h;rw[PR.iO h λc b=>Ag c<|Ag b ?_];rfl|cons k l d=>intro s a v h;rw[G3 (PR.Iu h) λf q o m=>G3 (PR.Iu m) λr p j g=>?_,PR.iO g λc b=>Ag c<|Ag b ?_,(d j).trans<|nh o]
theorem og{l}{s a}{v}(h:DG l s= .ok v a):a.C'=s.C':=by rw[G3 (PR.Iu h) λf j g d=>?_,PR.iO d λc b=>Ag c<|Ag b ?_,qr g]
theorem m_{l}:∀{s a}{v},Fv l s= .ok v a->v.length=l.length:=by induction l with|nil=>intro s a v h;rw[PR.iO h λc b=>Ag c<|Ag b ?_];rfl|cons k l d=>intro s a v h;rw[G3 (PR.Iu h) λf p q m=>G3 (PR.Iu m) λr o j g=>?_,PR.iO g λc b=>Ag c<|Ag b ?_,A_ UM<|d j]
theorem uF{l}{s a}{v}(h:DG l s= .ok v a):v.length=l.length:=by rw[G3 (PR.Iu h) λf j g d=>?_,PR.iO d λc b=>Ag c<|Ag b ?_];simpa using m_ g
theorem q_:∀{l}{s a}{v}(h:Hn l s= .ok v a),a=s/\∃b∈s.C',v=b.label:=by
 intros l s a v _ h;unfold Hn at h;rw[Ao (λq:0<=l/\l<s.C'.length=>?_) λq=>?_];·replace h:=(AM q)▸h;rw[G3 (PR.Iu h) λb m g k=>xA (PR.of_ok g) λj f=>?_,PR.iO k λd c=>Ag d<|Ag c ?_,(LS j b (E7 f) Y)]
 ·replace h:=(AS q)▸h;cases h
set_option genInjectivity true in
inductive PC where
 |ok(hs:O<|AO G)
 |fail(w:G)(at_:G)
 |big
def PC.ctorIdx(x:PC):G:= @PC.casesOn (λZ=>G) x (λZ=>0) (λZ Z=>1) 2
def Hg(b:BY)(s:BK):AO G:=if b.dead=I\/b.EM=I then C else V s.vals.length
def OC:AO BY->PR BF->G->(BY->BK->PC)->PC|C,_,n,_=> .fail 50 n|V b,.ok _ s,_,k=>k b s|V _,.fail w,n,_=> .fail w n|V _,.big,_,_=> .big
def Ek(e:EZ):O (O J)->G->O (AO G)->BK->PC|[],n,a,s=>if 0<s.C'.length then .fail 50 (n-1)else .ok a|i::is,n,a,s=>OC s.C'.getLast? (D_ e i s) n λb c=>Ek e is (n+1) (a++[Hg b s]) c
def JN(e:EZ)(body:O<|O J):PC:=Ek e body 0 [] ⟨[],[⟨-1,[],e.res,0,T,T⟩]⟩
end
section
structure CA where
 sc:G
 dd:G
 vl:G
 bl:G
 kl:G
 fl:G
 n0:G
 env:EZ
instance:CK CA:=⟨⟨0,0,0,0,0,0,0,Oi⟩⟩
def EB(b:BY):O<|MV×MV:=[(.str 38,.int b.code),(.str 39,.tup<|il b.par),(.str 40,.tup<|il b.res),(.str 41,.int b.C9),(.str 42,.bool b.dead),(.str 43,.bool b.EM)]
def Hh(A:CA)(at_:J):O<|MV×MV:=[(.str 44,.ref A.kl),(.str 45,.ref A.fl),(.str 6,.int A.env.fn),(.str 46,.tup<|il A.env.locs),(.str 40,.tup<|il A.env.res),(.str 47,.ref A.vl),(.str 48,.ref A.bl),(.str 7,.int at_)]
def D0(k:O J×O J):MV:= .tup [.tup<|il k.1,.tup<|il k.2]
def Dp(H:MH):O (G×G)->O BY->Prop|[],[]=>Bg|a::f,b::g=>H[a.1]?=V (.inst 2 a.2)/\H[a.2]?=V (.dict T<|EB b)/\Dp H f g|_,_=>BB
def KC:O<|MV×MV:=[(.int<|-1,.str 34),(.int<|-2,.str 35),(.int<|-16,.str 36),(.int<|-17,.str 37)]
inductive Core(A:CA)(H:MH)(at_:J)(bs:O<|G×G)(s:BK):Prop
 |mk(sc:H[A.sc]?=V (.inst 3 A.dd))(dd:H[A.dd]?=V (.dict T<|Hh A at_))(vl:H[A.vl]?=V (.list T<|il s.vals))(bl:H[A.bl]?=V (.list T<|bs.map λb=> .ref b.1))(bk:Dp H bs s.C')(nd:(A.dd::bs.map (·.2)).Nodup)(kl:H[A.kl]?=V (.list T<|A.env.kinds.map D0))(fl:H[A.fl]?=V (.list T<|il A.env.funcs))(kn:H[0]?=V (.dict I KC))(n1:A.vl≠A.bl)(n2:A.kl≠A.vl/\A.kl≠A.bl)(n3:A.fl≠A.vl/\A.fl≠A.bl)(lo:A.n0<=A.dd/\A.n0<=A.vl/\A.n0<=A.bl/\∀b∈bs,A.n0<=b.2)(hv:s.vals.length<=lim)(hb:s.C'.length<=lim/\∀b∈s.C',b.par.length<=lim/\b.res.length<=lim)
def y_:AK->AL| .list _ _=>I|_=>T
inductive BN(A:CA)(H H':MH):Prop
 |mk(len:H.length<=H'.length)(keep:∀i o,H[i]?=V o->i≠A.vl->i≠A.bl->(y_ o=I\/i<A.n0)->H'[i]?=V o)
theorem BN.refl(A:CA)(H:MH):BN A H H:=⟨B2 _,λZ Z e Z Z Z=>e⟩
theorem BN.trans{A:CA}{H f d:MH}(x:BN A H f)(y:BN A f d):BN A H d:=⟨L x.1 y.1,λi o e a b c=>y.2 i o (x.2 i o e a b c) a b c⟩
theorem DH{H:MH}(h:H[i]?=V o):i<H.length:=(DP.mp h).1
theorem DV{H l:MH}{i:G}{o:AK}(h:H[i]?=V o):(H++l)[i]?=V o:=by rw[U (Er<|DH h) ?_,h]
theorem FQ{H:MH}:(H++o::l)[H.length]?=V o:=by rw[U (DO<|B2 _)<|U (GI ..) ?_];rfl
theorem Q1{H:MH}:(H++o::b::l)[H.length+1]?=V b:=by rw[U (DO<|E2 _)<|U ((Ma (n:=H.length) (m:=1):H.length.succ-H.length=1)) ?_];rfl
theorem Bl{H:MH}(h:H[j]?=V o)(n:i≠j):(H.set i x)[j]?=V o:=by rw[U (Q_ n) ?_,h]
theorem KL{H:MH}(h:H[i]?=V o):(H.set i x)[i]?=V x:=RY<|DH h
theorem Dp.mono{H c:MH}:∀{f:O (G×G)}{g:O BY},Dp H f g->(∀a∈f,∀o,(H[a.1]?=V o->c[a.1]?=V o)/\(H[a.2]?=V o->c[a.2]?=V o))->Dp c f g|[],[],_,_=>B9|[],_::_,x,_=>x.elim|_::_,[],x,_=>x.elim|a::f,b::g,x,h=>(BX ((h a (.head _) _).1 x.1) ((h a (.head _) _).2 x.2.1)<|Dp.mono x.2.2 λd m=>h d<|.tail _ m)
theorem Dp.length{H:MH}:∀{a:O (G×G)}{b:O BY},Dp H a b->a.length=b.length|[],[],_=>Y|[],_::_,x=>x.elim|_::_,[],x=>x.elim|_::_,_::_,x=>by simp [Dp.length x.2.2]
theorem Dp.get{H:MH}:∀{f:O (G×G)}{g:O BY}{j:G}{b:BY},Dp H f g->g[j]?=V b->∃a,f[j]?=V a/\H[a.1]?=V (.inst 2 a.2)/\H[a.2]?=V (.dict T<|EB b)|[],[],_,_,_,e=>by simp at e|[],_::_,_,_,x,_=>x.elim|_::_,[],_,_,x,_=>x.elim|a::f,b::g,0,i,x,e=>by simp at e;subst e;rw[(DB a Y x.1 x.2.1)]|a::f,b::g,j+1,i,x,e=>by simp at e;obtain⟨c,h⟩:=Dp.get x.2.2 e;rw[(Aa c (by simpa using h.1) h.2)]
theorem Dp.last{H}{c}{d}{b}(x:Dp H c d)(e:d.getLast?=V b):∃a,c.getLast?=V a/\H[a.1]?=V (.inst 2 a.2)/\H[a.2]?=V (.dict T<|EB b):=by rw[So]at e⊢;rw[xE (x.get e) λa h=>(Aa a (by rw[U x.length h.1]) h.2)]
theorem Dp.append:∀{c}{d}{a}{b},Dp H c d->H[a.1]?=V (.inst 2 a.2)->H[a.2]?=V (.dict T<|EB b)->Dp H (c++[a]) (d++[b])|[],[],_,_,_,f,g=>(BX f g B9)|[],_::_,_,_,x,_,_=>x.elim|_::_,[],_,_,x,_,_=>x.elim|_::_,_::_,_,_,x,f,g=>(BX x.1 x.2.1<|Dp.append x.2.2 f g)
theorem Dp.dropLast:∀{as}{bs},Dp H as bs->Dp H as.dropLast bs.dropLast|[],[],_=>B9|[],_::_,x=>x.elim|_::_,[],x=>x.elim|[_],[_],_=>B9|[_],_::_::_,x=>x.2.2.elim|_::_::_,[_],x=>x.2.2.elim|_::a::as,_::b::bs,x=>(BX x.1 x.2.1<|Dp.dropLast (as:=a::as) (bs:=b::bs) x.2.2)
theorem Dp.inst:∀{f}{g},Dp H f g->∀a∈f,H[a.1]?=V (.inst 2 a.2)/\∃d,H[a.2]?=V (.dict T d)|[],[],_,_,m=>(by cases m)|[],_::_,x,_,_=>x.elim|_::_,[],x,_,_=>x.elim|a::f,b::g,x,h,m=>by rw[Cz (CZ.mp m) (λc=>?_) λm=>?_,U c ?_,(UL x.1 _ x.2.1),x.2.2.inst h m]
section
theorem D7{H:MH}{i j:G}{a b:AK}(c:H[i]?=V a)(d:H[j]?=V b)(n:a≠b):i≠j:=λq=>n<|by rw[q,d]at c;rw[(AN c).symm]
theorem Core.keep(c:Core A H at_ a s)(k:∀(i:G)(o:AK),H[i]?=V o->f[i]?=V o):Core A f at_ a s:=⟨k _ _ c.1,k _ _ c.2,k _ _ c.3,k _ _ c.4,c.5.mono λZ Z Z=>⟨k _ _,k _ _⟩,c.6,k _ _ c.7,k _ _ c.8,k _ _ c.9,c.10,c.11,c.12,c.13,c.14,c.15⟩
theorem P8{A:CA}{H:MH}{l:MH}:BN A H<|H++l:=⟨by simp,λZ Z e Z Z Z=>DV e⟩
theorem Core.WM{A}{H}{at_}{k}{s}(c:Core A H at_ k s){i}{fz}{l}{o}(h:H[i]?=V (.list fz l))(g:i≠A.vl)(f:i≠A.bl)(d:i≠A.kl)(b:i≠A.fl):Core A (H.set i o) at_ k s:=⟨Bl c.1<|D7 h c.1<|by simp,Bl c.2<|D7 h c.2<|by simp,Bl c.3 g,Bl c.4 f,c.5.mono λa m o=>⟨λe=>Bl e<|D7 h (c.5.inst a m).1<|by simp,λe=>Bl e<|by rw[Oh (c.5.inst a m) λZ j q=>D7 h q<|by simp]⟩,c.6,Bl c.7 d,Bl c.8 b,Bl c.9<|D7 h c.9<|by simp,c.10,c.11,c.12,c.13,c.14,c.15⟩
theorem Core.YC{A}{H}{at_}{f}{s}(c:Core A H at_ f s)(d:O J)(g:d.length<=lim):Core A (H.set A.vl<|.list T<|il d) at_ f {s with vals:=d}:=⟨Bl c.1<|D7 c.3 c.1<|by simp,Bl c.2<|D7 c.3 c.2<|by simp,KL c.3,Bl c.4 c.10,c.5.mono λa m o=>⟨λe=>Bl e<|D7 c.3 (c.5.inst a m).1<|by simp,λe=>Bl e<|by rw[Oh (c.5.inst a m) λZ b q=>D7 c.3 q<|by simp]⟩,c.6,Bl c.7 c.11.1.symm,Bl c.8 c.12.1.symm,Bl c.9<|D7 c.3 c.9<|by simp,c.10,c.11,c.12,c.13,g,c.15⟩
theorem VJ{A:CA}{H:MH}(c:Core A H at_ a s):BN A H<|H.set A.vl o:=⟨by simp,λi o e b Z Z=>Bl e<|DK b⟩
theorem Core.setB{A}{H}{at_}{i}{s}(c:Core A H at_ i s){h}{ks}(d:Dp H h ks)(nd:(A.dd::h.map (·.2)).Nodup)(f:∀b∈h,A.n0<=b.2)(j:ks.length<=lim/\∀b∈ks,b.par.length<=lim/\b.res.length<=lim):Core A (H.set A.bl<|.list T<|h.map λb=> .ref b.1) at_ h {s with C':=ks}:=⟨Bl c.1<|D7 c.4 c.1<|by simp,Bl c.2<|D7 c.4 c.2<|by simp,Bl c.3 c.10.symm,KL c.4,d.mono λa m o=>⟨λe=>Bl e<|D7 c.4 (d.inst a m).1<|by simp,λe=>Bl e<|by rw[Oh (d.inst a m) λZ g q=>D7 c.4 q<|by simp]⟩,nd,Bl c.7 c.11.2.symm,Bl c.8 c.12.2.symm,Bl c.9<|D7 c.4 c.9<|by simp,c.10,c.11,c.12,(Dx c.13.1 c.13.2.1 c.13.2.2.1 f),c.14,j⟩
theorem jd{A:CA}{H:MH}(c:Core A H at_ a s):BN A H<|H.set A.bl o:=⟨by simp,λi o e Z b Z=>Bl e<|DK b⟩
theorem Core.setAt{A}{H}{at_}{d}{s}(c:Core A H at_ d s)(b:J):Core A (H.set A.dd<|.dict T<|Hh A b) b d s:=⟨Bl c.1<|D7 c.2 c.1<|by simp,KL c.2,Bl c.3<|D7 c.2 c.3<|by simp,Bl c.4<|D7 c.2 c.4<|by simp,c.5.mono λa m o=>⟨λe=>Bl e<|D7 c.2 (c.5.inst a m).1<|by simp,λe=>Bl e λq=>(DF.mp c.6).1<|by rw[U q<|Ea.mpr<|Aa a m Y]⟩,c.6,Bl c.7<|D7 c.2 c.7<|by simp,Bl c.8<|D7 c.2 c.8<|by simp,Bl c.9<|D7 c.2 c.9<|by simp,c.10,c.11,c.12,c.13,c.14,c.15⟩
theorem yW{A:CA}{H:MH}(c:Core A H at_ a s):BN A H<|H.set A.dd o:=⟨by simp,λi o e Z Z h=>Bl e λq=>by
 subst q;rcases h with h|h;·replace e:=c.2▸e;(replace e:=AN e;subst e);rw[Jo h]
 ·have:=c.13.1;lia⟩
end
end
section
/-! conditions for a run, by reflection: cells (lists and dicts that are known), plain values -/
inductive A0 where
 |p(v:MV)
 |c(n:G)
inductive AV where
 |p(v:MV)
 |c(n:G)
 |t(l:O A0)
 |u
instance:CK AV:=⟨.u⟩
def Hq(b:O G)(a:A0):AO MV:= @A0.casesOn (λZ=>AO MV) a V λn=>b[n]?.map .ref
def BU(b:O G)(a:AV):AO MV:= @AV.casesOn (λZ=>AO MV) a V (λn=>b[n]?.map .ref) (λl=>(Av (Hq b) l).map .tup) C
def Yw(a:A0):AV:= @A0.casesOn (λZ=>AV) a .p .c
abbrev Env:=O AV
def YE(a:AV):AO AV:= @AV.casesOn (λZ=>AO AV) a (λv=>V<|.p v) (λn=>V<|.c n) (λl=>V<|.t l) C
noncomputable def NG(e:Env):G->AO AV:= @List.rec AV (λZ=>G->AO AV) (λZ=>C) (λa Z f n=> @CV (λZ=>AO AV) n (YE a) f) e
noncomputable def WQ(n:G)(a:AV):Env->Env:= @Nat.rec (λZ=>Env->Env) (λe=>a::e.tail) (λZ f e=>e.headD .u::f e.tail) n
def slot(x:G):AO G:=if D1 x 20=I then V x else if Bm 1000 x=I then V (x-980)else C
noncomputable def look(e:Env)(x:G):AO AV:= @C4 G (λZ=>AO AV) (slot x) C<|NG e
noncomputable def put(x:G)(a:AV)(e:Env):Env:= @C4 G (λZ=>Env) (slot x) e λn=>WQ n a e
structure VG where
 N:G
 rz:AL
 S:G->AO AK
 hN:2000000<=N
instance:CK VG:=⟨⟨2000000,T,λZ=>C,B2 _⟩⟩
inductive Cells(Γ:VG)(c:O AK)(γ:O G)(H:MH):Prop
 |mk(nd:γ.Nodup)(len:γ.length=c.length)(obj:∀(n:G)(o:AK)(i:G),c[n]?=V o->γ[n]?=V i->H[i]?=V o)(fx:∀(i:G)(o:AK),Γ.S i=V o->H[i]?=V o/\i∉γ)
def CY(b:Env)(c:O G)(d:Loc):Prop:=∀x a,look b x=V a->∃v,BU c a=V v/\d x=V v
inductive Go(γ:O G)(H:MH)(BM:O G)(H':MH):Prop
 |mk(ext:∃δ,BM=γ++δ/\∀i∈δ,H.length<=i)(len:H.length<=H'.length)(keep:∀(i:G)(o:AK),H[i]?=V o->i∉γ->H'[i]?=V o)
theorem Go.refl{a H}:Go a H a H:=⟨(Aa ([]) ((Ba _).symm) λZ m=>nomatch m),B2 _,λZ Z e Z=>e⟩
theorem Go.trans{a c b H p d}(x:Go a H c p)(y:Go c p b d):Go a H b d:=by(rw[AY x.1 λq j k=>?_];subst j);(rw[AY y.1 λf g r=>?_];subst g);rw[⟨(Aa (q++f) (Bc ..) λi m=>(Cj.mp m).elim (k i) λm=>L x.2<|r i m),L x.2 y.2,λi o e n=>y.3 i o (x.3 i o e n) λm=>(Cj.mp m).elim n λm=>Aj (DH e)<|E1.mpr<|k i m⟩]
section
variable{γ BM:AB AE}{H H':MH}
theorem Go.at(g:Go γ H BM H'){n i:G}(e:γ[n]?=V i):BM[n]?=V i:=by rw[AY g.1 λc b Z=>U b ?_,(Er (DP.mp e).1).trans e]
theorem Go.rf(g:Go γ H BM H'){n:G}{v}(h:γ[n]?.map MV.ref=V v):BM[n]?.map MV.ref=V v:=Bo h λZ e q=>map_eq (g.at e) q
theorem Go.c0(g:Go γ H BM H'){a:A0}{v}(h:Hq γ a=V v):Hq BM a=V v:=by induction a using A0.casesOn with|p=>rw[h]|c n=>rw[g.rf h]
theorem ez{d c}{f g:d->AO c}(k:∀{a b},f a=V b->g a=V b){l}:∀{i},Av f l=V i->Av g l=V i:=by induction l with|nil=>rw[λh=>h]|cons a l j=>rw[λh=>C0 h λb p o m e=>e▸bind_eq (k o) (map_eq (j m) Y)]
theorem Go.cv(g:Go γ H BM H'){a}{v:MV}(h:BU γ a=V v):BU BM a=V v:=by induction a using AV.casesOn with|p=>rw[h]|c n=>rw[g.rf h]|t l=>rw[Bo h λi e q=>map_eq (ez g.c0 e) q]|u=>rw[h]
theorem Go.r8(g:Go γ H BM H'){l}{a:O MV}:Av (BU γ) l=V a->Av (BU BM) l=V a:=ez g.cv
theorem CY.go{b c}(r:CY b γ c)(g:Go γ H BM H'):CY b BM c:=λx a h=>(r x a h).imp λZ q=>⟨g.cv q.1,q.2⟩
theorem b7{a b}(h:YE a=V b):b=a:=by induction a using AV.casesOn<;>cases h<;>rfl
theorem xF:∀{x a b},∀{e y},NG (WQ x a e) y=V b->y=x/\b=a\/y≠x/\NG e y=V b:=by intros x a b;induction x with|zero=>intro e y h;(induction y using CV with|zero=>rw[.inl ⟨Y,b7 h⟩]|succ y=>induction e using An with|nil=>rw[nn h]|cons=>rw[.inr ⟨(λq=>nomatch q),h⟩])|succ x c=>intro e y h;induction y using CV with|zero=>(induction e using An with|nil=>rw[nn h]|cons=>rw[.inr ⟨(λq=>nomatch q),h⟩])|succ y=>rw[(c (e:=e.tail) h).imp (λq=>⟨A_ UM q.1,q.2⟩) λq=>⟨λz=>q.1<|MC z,?_⟩];clear h;induction e using An with|nil=>rw[nn q.2]|cons=>rw[q.2]
theorem o9:∀{x y n}(c:slot x=V n)(b:slot y=V n),y=x:=by
 intros x y n _ c b;unfold slot at c b;by_cases p:D1 x 20=I<;>by_cases q:D1 y 20=I;·replace c:=(AM p)▸c;replace b:=(AM q)▸b;(replace c:=AN c;subst c);(replace b:=AN b;subst b);rfl
 ·replace c:=(AM p)▸c;replace b:=(AS q)▸b;(replace c:=AN c;subst c);rw[CB b λh e=>Aj p ?_];have:=O2 h;(replace e:=AN e;subst e);rw[λz=>Aj (B6 z)<|by omega]
 ·replace c:=(AS p)▸c;replace b:=(AM q)▸b;(replace b:=AN b;subst b);rw[CB c λh e=>Aj q ?_];have:=O2 h;(replace e:=AN e;subst e);rw[λz=>Aj (B6 z)<|by omega]
 ·replace c:=(AS p)▸c;replace b:=(AS q)▸b;rw[CB c λh e=>CB b λd f=>?_,t8 (B6 h) (B6 d) (AN e)<|AN f]
theorem pF:∀{x a b e y}(h:look (put x a e) y=V b),y=x/\b=a\/y≠x/\look e y=V b:=by intros x a b e y _ h;unfold look at h;cases q:slot y with|none=>rw[nn<|q▸h]|some n=>intros _ n _ q;replace h:=q▸h;have no:slot x≠slot y->NG e n=V b->y≠x/\look e y=V b:=λz h=>⟨λw=>z<|by rw[U w Y],by unfold look;rw[U q h]⟩;unfold put at h;cases p:slot x with|none=>replace h:=p▸h;rw[.inr<|no (by rw[U p<|U q λz=>nn z]) h]|some m=>replace h:=p▸h;rcases xF h with⟨rfl,e⟩|⟨z,h⟩;rw[.inl ⟨o9 p q,e⟩,.inr<|no (by rw[U p<|U q λw=>z (AN w).symm]) h]
theorem CY.upd{env d}(r:CY env γ d){x a v}(h:BU γ a=V v):CY (put x a env) γ<|upd d x v:=λy b c=>by rcases pF c with⟨rfl,rfl⟩|⟨n,c⟩;rw[(Aa v h<|AM Y),(r y b c).imp λw q=>⟨q.1,(AS n).trans q.2⟩]
variable{Γ:VG}{c:AB AK}
theorem Cells.at(K:Cells Γ c γ H){n:G}{o}(h:c[n]?=V o):∃i,γ[n]?=V i/\H[i]?=V o:=by have b:n<γ.length:=K.2▸(DP.mp h).1;rw[(Aa (γ[n]) (Cm b)<|K.3 n o _ h<|Cm b)]
theorem Cells.lt(K:Cells Γ c γ H){i}(m:i∈γ):i<H.length:=by obtain⟨n,b,e⟩:=TX m;have d:n<c.length:=K.2▸b;rw[DH<|K.3 n c[n] i (Cm d)<|(Cm b).trans<|A_ V e]
theorem Cells.new(K:Cells Γ c γ H)(o:AK):Go γ H (γ++[H.length]) (H++[o])/\Cells Γ (c++[o]) (γ++[H.length]) (H++[o])/\(γ++[H.length])[c.length]?=V H.length:=by
 revert K;intros _ γ H Γ c o _ K;rw[(BX ⟨(Aa ([H.length]) Y λi m=>C8 (B3.mp m).symm),by rw[U Aq<|BJ _ _],λi g e Z=>DV e⟩ ⟨?_,by rw[U Aq<|U Aq<|U K.2 ?_];rfl,λn g i d f=>?_,λi g e=>⟨DV (K.4 i g e).1,λm=>(Cj.mp m).elim (K.4 i g e).2 λm=>DZ (DH (K.4 i g e).1)<|B3.mp m⟩⟩<|?_),Kh.mpr<|BX K.1 (DF.mpr ⟨Ia,FC⟩) λa p b j=>by rw[U (B3.mp j)<|DZ<|K.lt p]];intros _ n g i _ d f;·rcases PL n c.length with h|h;rw[DV<|K.3 n g i ((Er h)▸d)<|(Er<|K.2.symm▸h)▸f];·replace d:=(DO h)▸d;(replace f:=(DO<|K.2.symm▸h)▸f;replace f:=K.2▸f);cases q:n-c.length with|zero=>rw[q]at d f;(replace d:=AN d;subst d);(replace f:=AN f;subst f);rw[FQ]|succ k=>rw[nn<|q▸d]
 ·rw[Ag K.2<|U (DO<|B2 _)<|U (GI ..) ?_];rfl
theorem Cells.set(K:Cells Γ c γ H){n i}(h:γ[n]?=V i)(o:AK):Go γ H γ (H.set i o)/\Cells Γ (c.set n o) γ (H.set i o):=by
 revert K h;intros _ γ H Γ c n i o _ K h;have b:=E7 h;rw[⟨⟨(Aa ([]) ((Ba _).symm) λZ m=>nomatch m),C8 Nw.symm,λj a e g=>Bl e λq=>g<|q▸b⟩,K.1,K.2.trans Nw.symm,λm a j d f=>?_,λj a e=>⟨Bl (K.4 j a e).1 λq=>(K.4 j a e).2<|q▸b,(K.4 j a e).2⟩⟩];by_cases q:n=m;·subst q;obtain rfl:=AN<|h.symm.trans f;obtain⟨l,e⟩:=DP.mp d;rw[List.getElem_set_self]at e;rw[U e<|RY<|K.lt b]
 ·rw[Q_ q]at d;rw[Bl (K.3 m a j d f) λz=>q ?_];subst z;obtain⟨k,e1⟩:=DP.mp h;rw[(Th k K.1).mp<|h.trans f.symm]
theorem Cells.pre{ex}(K:Cells Γ (c++ex) γ H):Cells Γ c (γ.take c.length) H:=by rw[⟨K.1.sublist<|List.take_sublist _ _,by rw[U Mo<|U (Nat.min_eq_left (by rw[U K.2<|U Aq<|BJ _ _]:c.length<=γ.length)) Y],λn o i f d=>?_,λi o e=>⟨(K.4 i o e).1,λm=>(K.4 i o e).2<|et m⟩⟩];have b:=(DP.mp f).1;rw[V_ b]at d;rw[K.3 n o i ((Er b).trans f) d]
end
def R.wk{b:Type}(r:R b)(Q:b->MH->Prop):Prop:=match r with| .ok a H=>Q a H|_=>BB
def RS.wk(r:RS)(Q:CX->Loc->MH->Prop):Prop:=match r with| .ok f a H=>Q f a H|_=>BB
section
variable{α β:Type}{H:MH}{ρ:Loc}{QS:CX->Loc->MH->Prop}
theorem GL{r:R α}{Q b}(h:r.wk Q)(q:∀a H,Q a H->b a H):r.wk b:=by induction r using R.casesOn<;>first|rw[q _ _ h]|rw[h]
theorem LB{r:RS}{Q}(h:r.wk Q)(q:∀f a H,Q f a H->QS f a H):r.wk QS:=by induction r using RS.casesOn<;>first|rw[q _ _ _ h]|rw[h]
theorem JC{r:R α}{f:α->MH->R β}{Q:β->MH->Prop}(h:r.wk λa H=>(f a H).wk Q):(r.bind f).wk Q:=by induction r using R.casesOn<;>exact h
theorem WV{r:R α}{f}(h:r.wk λa H=>(f a H).wk QS):(r.then ρ f).wk QS:=by induction r using R.casesOn<;>exact h
theorem Ew{o a}{f:α->MH->R β}{Q}(e:o=V a)(q:(f a H).wk Q):((BW H o).bind f).wk Q:=by rw[U e q]
theorem OT{o:AO α}{a f}(e:o=V a)(q:(f a H).wk QS):((BW H o).then ρ f).wk QS:=by rw[U e q]
theorem Jg{o:AO α}{a Q}(e:o=V a)(q:Q a H):(BW H o).wk Q:=by rw[U e q]
theorem Ij{p} [Dh p]{r:R α}{Q}(h:p)(q:r.wk Q):(if p then r else .bad).wk Q:=by rw[U (AM h) q]
theorem ZY:∀{b}{r:RS}{f}(h:r.wk λa ρ H=>match a with| .next=>(f ρ H).wk b|a=>b a ρ H),(r.seq f).wk b:=by intros b r f _ h;induction r using RS.casesOn with|ok a ρ H=>induction a using CX.casesOn<;>exact h|_=>rw[h]
theorem WU:∀{a}{r:RS}{f}(h:r.wk λb ρ H=>match b with| .ret v=>a (.ret v) ρ H|_=>(f ρ H).wk a),(r.go.seq f).wk a:=by intros a r f _ h;induction r using RS.casesOn with|ok b ρ H=>induction b using CX.casesOn<;>exact h|_=>rw[h]
theorem Qx{r:R α}{Q E}(h:r.wk Q):r.wp Q E:=by induction r using R.casesOn<;>first|rw[h]|rw[h.elim]
theorem yd{r:R α}{Q}(h:r.wk Q):r.ME.wk Q:=by induction r using R.casesOn<;>exact h
end
abbrev Kt:=O AK->AV->Prop
inductive EP(Γ:VG)(γ:O G)(H:MH)(k:Kt)(v:MV)(H':MH):Prop
 |mk(a:AV)(c':O AK)(BM:O G)(g:Go γ H BM H')(K:Cells Γ c' BM H')(e:BU BM a=V v)(q:k c' a)
section
variable{Γ:VG}{γ BM:AB AE}{H H':MH}{c:AB AK}{k k':Kt}{v:MV}{r:R MV}
theorem EP.of{a}(K:Cells Γ c γ H)(e:BU γ a=V v)(q:k c a):EP Γ γ H k v H:=⟨a,c,γ,Go.refl,K,e,q⟩
theorem EP.mono(h:r.wk<|EP Γ γ H k)(q:∀c a,k c a->k' c a):r.wk<|EP Γ γ H k':=GL h λ_ _⟨a,f,BM,g,K,e,z⟩=>⟨a,f,BM,g,K,e,q _ _ z⟩
theorem EP.wide(g:Go γ H BM H')(h:r.wk<|EP Γ BM H' k):r.wk<|EP Γ γ H k:=GL h λ_ _⟨a,f,BM,i,K,e,z⟩=>⟨a,f,BM,g.trans i,K,e,z⟩
end
/-! conditions that compute away -/
def Al(b:AL)(k:Prop):Prop:= @BG (λZ=>Prop) b BB k
theorem Al.mk{b k}(h:b=I)(q:k):Al b k:=by rw[U h q]
theorem Al.out{b}{k G:Prop}(h:Al b k)(q:b=I->k->G):G:=by induction b using BG with|true=>rw[q Y h]|false=>rw[h.elim]
def B0{a:Type}(o:AO a)(k:a->Prop):Prop:= @C4 a (λZ=>Prop) o BB k
theorem B0.mk{b}{o:AO b}{k a}(h:o=V a)(q:k a):B0 o k:=by rw[U h q]
theorem B0.out{b:Type}{o:AO b}{k:b->Prop}{G:Prop}(h:B0 o k)(q:∀a,o=V a->k a->G):G:=by induction o using C4 with|some a=>rw[q a Y h]|none=>rw[h.elim]
def Ap(b:AL)(A B:Prop):Prop:= @BG (λZ=>Prop) b B A
theorem Ap.mk{b A B}(f:b=I->A)(d:b=T->B):Ap b A B:=by induction b using BG with|true=>rw[f Y]|false=>rw[d Y]
theorem Ap.d{p}{i:Dh p}{A B}(d:p->A)(b:¬p->B):Ap (decide p) A B:=Ap.mk (λh=>d<|DJ h) λh=>b<|W4 h
def isIn(v:MV):AL:=match v with| .int _=>I|_=>T
def sv(v:MV):J:=match v with| .int i=>i|_=>0
def KG(l:O MV):O J:=l.map sv
theorem bc{l}:KG (il l)=l:=by unfold KG il;rw[U TS<|List.map_id _]
theorem e7{l}:(il l).all isIn=I:=by induction l with|nil=>rfl|cons a l b=>rw[b]
theorem iC{l}(h:l.all isIn=I):il (KG l)=l:=by induction l with|nil=>rfl|cons a l b=>rw[Ef h λf d=>?_];clear h;induction a using MV.casesOn with|int i=>rw[A_ (MV.int i::·)<|b d]|_=>rw[nb f]
end
section
def F2(x:AV)(k:MV->Prop):Prop:= @AV.casesOn (λZ=>Prop) x k (λZ=>BB) (λZ=>BB) BB
def Gz(x:AV)(k:G->Prop):Prop:= @AV.casesOn (λZ=>Prop) x (λZ=>BB) k (λZ=>BB) BB
def NY(v:MV)(k:J->Prop):Prop:= @MV.casesOn (λZ=>Prop) v BB (λZ=>BB) k (λZ=>BB) (λZ=>BB) λZ=>BB
def Sd(v:MV)(k:AL->Prop):Prop:= @MV.casesOn (λZ=>Prop) v BB k (λZ=>BB) (λZ=>BB) (λZ=>BB) λZ=>BB
def Gs(v:MV)(k:O MV->Prop):Prop:= @MV.casesOn (λZ=>Prop) v BB (λZ=>BB) (λZ=>BB) (λZ=>BB) k λZ=>BB
def Gi(o:AK)(k:AL->O MV->Prop)(d:AL->O (MV×MV)->Prop):Prop:= @AK.casesOn (λZ=>Prop) o k d λZ Z=>BB
def vInt(x:AV)(k:J->Prop):Prop:=F2 x λv=>NY v k
def GU(x:AV)(k:AL->Prop):Prop:=F2 x λv=>Sd v k
def lst(c:O AK)(n:G)(k:AL->O MV->Prop):Prop:=B0 c[n]? λo=>Gi o k λZ Z=>BB
def Ez{a:Type}(i:J)(l:O a):AO a:=match i with| .ofNat n=>l[n]?| .negSucc m=>l.reverse[m]?
def Jk(b:VG)(c:O AK)(a:AV)(k:O MV->Prop):Prop:= @AV.casesOn (λZ=>Prop) a (λv=> @MV.casesOn (λZ=>Prop) v BB (λZ=>BB) (λZ=>BB) (λZ=>BB) k λi=>B0 (b.S i) λo=>Gi o (λZ l=>k l) λZ Z=>BB) (λn=>lst c n λZ l=>k l) (λZ=>BB) BB
def JT(c:O AK)(l:O MV)(k:Kt):Prop:=Al (Bm l.length Bj)<|k (c++[.list T l])<|.c c.length
def PY(c:O AK)(l:O MV)(k:Kt):Prop:=Al (Bm l.length Bj)<|k c<|.p<|.tup l
def kL(op:DW)(a b:J)(c:O AK)(k:Kt):Prop:= @DW.casesOn (λZ=>Prop) op (k c<|.p<|.int<|a+b) (k c<|.p<|.int<|a-b) (Al (D1 a.natAbs 1000000000000&&D1 b.natAbs 1000000000000)<|k c<|.p<|.int<|a*b) (Al (decide (0<b)&&decide (b<1000000000))<|k c<|.p<|.int<|a/b) λZ=>Al (decide (0<b)&&decide (b<1000000000))<|k c<|.p<|.int<|a%b
def YF(op:DW)(x y:AV)(c:O AK)(k:Kt):Prop:= @AV.casesOn (λZ=>Prop) x (λv=> @MV.casesOn (λZ=>Prop) v BB (λZ=>BB) (λa=>vInt y λb=>kL op a b c k) (λZ=>BB) (λa=>F2 y λw=>Gs w λb=>Al (decide<|op= .add)<|PY c (a++b) k) λZ=>BB) (λi=>lst c i λf a=> @AV.casesOn (λZ=>Prop) y (λw=>NY w λn=>Al (!f&&decide (op= .mul)&&Bm a.length 1)<|(0<=n/\n<=16777216)/\JT c (Ct n.toNat a).flatten k) (λj=>lst c j λg b=>Al (!f&& !g&&decide (op= .add))<|JT c (a++b) k) (λZ=>BB) BB) (λZ=>BB) BB
def Qu(a:AV):AL:= @AV.casesOn (λZ=>AL) a FT (λZ=>T) (λZ=>T) T
def Me(a:AV):AO J:= @AV.casesOn (λZ=>AO J) a (λv=> @MV.casesOn (λZ=>AO J) v C (λZ=>C) V (λZ=>C) (λZ=>C) λZ=>C) (λZ=>C) (λZ=>C) C
def P5(b:AL)(l:O MV):AO<|AL×O J:=if l.all isIn=I then V (b,KG l)else C
def R9(c:O AK)(a:AV):AO<|AL×O J:= @AV.casesOn (λZ=>AO<|AL×O J) a (λv=> @MV.casesOn (λZ=>AO<|AL×O J) v C (λZ=>C) (λZ=>C) (λZ=>C) (P5 I) λZ=>C) (λn=>(c[n]?.bind AK.Cc).bind<|P5 T) (λZ=>C) C
def vEq(c:O AK)(x y:AV)(k:AL->Prop):Prop:= @C4 J (λZ=>Prop) (Me x) (B0 (R9 c x) λa=>B0 (R9 c y) λb=>Al (decide<|a.1=b.1)<|k<|decide<|a.2=b.2) λa=>B0 (Me y) λb=>k<|decide<|a=b
def fN(b:VG)(op:EG)(x y:AV)(c:O AK)(k:AL->Prop):Prop:=∃r,(∀a H u w,Cells b c a H->BU a x=V u->BU a y=V w->Ei H op u w=V r)/\k r
def X3(a:O<|MV×MV)(v:MV)(k:Prop):Prop:=Al (isKey v&&Df (L9 v) a) k
def Vz(b:VG)(c:O AK)(x y:AV)(k:AL->Prop):Prop:= @AV.casesOn (λZ=>Prop) y (λw=>Gs w λl=>vInt x λi=>Al (l.all isIn)<|k<|decide<|i∈KG l) (λn=>B0 c[n]? λo=>Gi o (λZ l=>vInt x λi=>Al (l.all isIn)<|k<|decide<|i∈KG l) λZ a=>F2 x λv=>X3 a v<|k (Cd v a).isSome) (λZ=>fN b .isin x y c k) BB
def a_(op:EG)(a b:J):AO AL:=Sh a b op
def Z7(d:VG)(op:EG)(x y:AV)(c:O AK)(k:AL->Prop):Prop:=match op with| .is=>Al (Qu y) (k<|Qu x)| .PV=>Al (Qu y) (k<|!Qu x)| .isin=>Vz d c x y k| .MT _=>Vz d c x y λb=>k<|!b| .eq=>vEq c x y k| .ne=>vEq c x y λb=>k<|!b|op=>vInt x λa=>vInt y λb=>B0 (a_ op a b) k
def aJ(d:VG)(x y:AV)(c:O AK)(k:Kt):Prop:= @AV.casesOn (λZ=>Prop) x (λv=> @MV.casesOn (λZ=>Prop) v BB (λZ=>BB) (λZ=>BB) (λZ=>BB) (λl=>vInt y λi=>B0 (Ez i l) λv=>k c<|.p v) λa=>B0 (d.S a) λo=>Gi o (λZ l=>vInt y λi=>B0 (Ez i l) λv=>k c<|.p v) λZ Z=>BB) (λn=>B0 c[n]? λo=>Gi o (λZ l=>vInt y λi=>B0 (Ez i l) λv=>k c<|.p v) λZ b=>F2 y λv=>X3 b v<|B0 (Cd v b) λv=>k c<|.p v) (λl=>vInt y λi=>B0 (Ez i l) λa=>k c<|Yw a) BB
def aN(x y:AV)(c:O AK)(k:Kt):Prop:=vInt y λi=> @AV.casesOn (λZ=>Prop) x (λv=>Gs v λl=>(1<=i/\i<=l.length)/\PY c (l.drop i.toNat) k) (λn=>lst c n λZ l=>(0<=i/\i<=l.length)/\JT c (l.drop i.toNat) k) (λZ=>BB) BB
def iy(x y:AV)(c:O AK)(k:Kt):Prop:=vInt y λi=>Gz x λn=>lst c n λZ l=>(0<=i/\i<=16777216)/\JT c (l.take i.toNat) k
def jY(x:AV)(c:O AK)(k:Kt):Prop:= @AV.casesOn (λZ=>Prop) x (λv=>Gs v λl=>PY c l.reverse k) (λn=>lst c n λZ l=>JT c l.reverse k) (λZ=>BB) BB
def dK(d:VG)(b:Bi)(x:AV)(c:O AK)(k:Kt):Prop:=match b with| .len=>Jk d c x λl=>k c<|.p<|.int l.length| .list=>Jk d c x λl=>JT c l k| .tuple=>Jk d c x λl=>PY c l k| .int=>GU x λb=>k c<|.p<|.int<|if b then 1 else 0| .max _=>F2 x λv=>Gs v λl=>B0 (Dm l) λa=>Al (D1 0 a.length)<|k c<|.p<|.int<|a.getD (It a<|a.length-1) 0| .all=>Gz x λn=>lst c n λZ l=>B0 (Ju l) λe=>k c<|.p<|.bool<|e.all id| .any=>Gz x λn=>lst c n λZ l=>B0 (Ju l) λe=>k c<|.p<|.bool<|e.any id| .sum=>Gz x λn=>lst c n λZ l=>B0 (Dm l) λa=>k c<|.p<|.int<|O5 a a.length
def aX(b:VG)(n m:G)(d:O AV)(c:O AK)(k:Kt):Prop:=lst c n λf l=>Al (!f)<|match m,d with|0,[a]=>F2 a λv=>Al (D1 l.length Bj)<|k (c.set n<|.list T<|l++[v])<|.p .none|1,[]=>B0 l.getLast? λv=>k (c.set n<|.list T l.dropLast)<|.p v|1,[a]=>vInt a λi=>Al (decide<|i=0)<|B0 l[0]? λv=>k (c.set n<|.list T<|l.drop 1)<|.p v|2,[a]=>Jk b c a λm=>Al (Bm (l.length+m.length) Bj)<|k (c.set n<|.list T<|l++m)<|.p .none|_,_=>BB
def aZ(a x y:AV)(c:O AK)(k:O AK->Prop):Prop:=F2 a λv=>Gz x λn=>vInt y λi=>B0 c[n]? λo=>Gi o (λf l=>Al (!f)<|B0 (idx i l.length) λj=>k<|c.set n<|.list T<|l.set j v) λf b=>Al (!f&&D1 b.length 1000&&Df 1 b)<|k<|c.set n<|.dict T<|EH (.int i) v b
def RC(a:AV):AL:= @AV.casesOn (λZ=>AL) a (λZ=>I) (λZ=>T) (λZ=>T) T
def RW(a:AV):MV:= @AV.casesOn (λZ=>MV) a (λv=>v) (λZ=> .none) (λZ=> .none) .none
def isA(a:AV):AL:= @AV.casesOn (λZ=>AL) a (λZ=>I) (λZ=>I) (λZ=>T) T
def YV(a:AV):A0:= @AV.casesOn (λZ=>A0) a .p .c (λZ=> .c 0)<|.c 0
def b8(a:O AV)(c:O AK)(k:Kt):Prop:=Al (a.all RC)<|JT c (a.map RW) k
def gi(a:O AV)(c:O AK)(k:Kt):Prop:=Al (a.all RC)<|B0 (Nl<|a.map RW) λb=>k (c++[.dict T b])<|.c c.length
def lR(a:O AV)(c:O AK)(k:Kt):Prop:=Al (Bm a.length Bj)<|@BG (λZ=>Prop) (a.all RC) (Al (a.all isA)<|k c<|.t<|a.map YV)<|k c<|.p<|.tup<|a.map RW
section
variable{Γ:VG}{γ:AB AE}{H:MH}{c:AB AK}{k:Kt}{G:Prop}{u w:MV}{x y:AV}
theorem F2.out(h:F2 x P)(e:BU γ x=V u)(q:x= .p u->P u->G):G:=by induction x using AV.casesOn with|p v=>(replace e:=AN e;subst e);rw[q Y h]|_=>rw[h.elim]
theorem Gz.out(h:Gz x P)(q:∀n,x= .c n->P n->G):G:=by induction x using AV.casesOn with|c n=>rw[q n Y h]|_=>rw[h.elim]
theorem NY.out(h:NY u P)(q:∀i,u= .int i->P i->G):G:=by induction u using MV.casesOn with|int i=>rw[q i Y h]|_=>rw[h.elim]
theorem Sd.out(h:Sd u P)(q:∀i,u= .bool i->P i->G):G:=by induction u using MV.casesOn with|bool i=>rw[q i Y h]|_=>rw[h.elim]
theorem Gs.out(h:Gs u P)(q:∀i,u= .tup i->P i->G):G:=by induction u using MV.casesOn with|tup i=>rw[q i Y h]|_=>rw[h.elim]
theorem vInt.out(h:vInt x P)(e:BU γ x=V u)(q:∀i,u= .int i->P i->G):G:=F2.out h e λZ h=>NY.out h q
theorem GU.out(h:GU x P)(e:BU γ x=V u)(q:∀i,u= .bool i->P i->G):G:=F2.out h e λZ h=>Sd.out h q
theorem T_(e:γ[n]?=V i):BU γ (.c n)=V (.ref i):=map_eq e Y
theorem TJ(K:Cells Γ c γ H)(h:B0 c[n]? P)(e:BU γ (.c n)=V u)(q:∀i o,γ[n]?=V i->u= .ref i->H[i]?=V o->P o->G):G:=B0.out h λo b h=>(K.at b).elim λi z=>q i o z.1 (AN<|e.symm.trans<|T_ z.1) z.2 h
theorem Gi.out(h:Gi o P D)(q:∀f l,o= .list f l->P f l->G)(r:∀f l,o= .dict f l->D f l->G):G:=by induction o using AK.casesOn with|list f l=>rw[q f l Y h]|dict f l=>rw[r f l Y h]|inst=>rw[h.elim]
theorem KW(K:Cells Γ c γ H)(h:lst c n P)(e:BU γ (.c n)=V u)(q:∀i f l,γ[n]?=V i->u= .ref i->H[i]?=V (.list f l)->P f l->G):G:=TJ K h e λi o g d b h=>Gi.out h (λf l z h=>q i f l g d (z▸b) h) λZ Z Z h=>h.elim
theorem UG:Ez i l=(idx i l.length).bind λj=>l[j]?:=by induction i using Int.casesOn with|ofNat n=>rw[((U (AM<|EE n)<|Ao (λh:n<l.length=>?_) λh=>?_):l[n]?=((if 0<=(n:J)then _ else _):AO AE).bind _)];(·rw[U (AM<|(Du.mpr h:Int.ofNat n<l.length)) ?_];rfl);·rw[U (AS<|(λz=>h<|Du.mp z:¬Int.ofNat n<l.length))<|U (ND.mpr<|E1.mp h) ?_];rfl|negSucc m=>rw[((U (AS<|Uz.mpr<|Int.negSucc_lt_zero m)<|Ao (λh:m<l.length=>?_) λh=>?_):l.reverse[m]?=((if 0<=Lq m then _ else if 0<=Lq m+l.length then _ else _):AO AE).bind _),U (AM<|iZ.mpr h)<|U (Vn h) ?_,(?_:_=l[(Lq m+l.length).toNat]?),A_ (l[·]?) xe];·rw[U (AS λz=>h<|iZ.mp z)<|U (ND.mpr<|by rw[Bu]at⊢;rw[E1.mp h]) ?_];rfl
theorem Jk.out(K:Cells Γ c γ H)(h:Jk Γ c x P)(e:BU γ x=V u)(q:∀l,LF H u=V l->P l->G):G:=by induction x using AV.casesOn with|p w=>(induction w using MV.casesOn with|tup l=>(replace e:=AN e;subst e);rw[q l Y h]|ref i=>(replace e:=AN e;subst e);rw[B0.out h λo g h=>Gi.out h (λf l z h=>q l (F4<|(K.4 _ _ g).1.trans<|A_ V z) h) λZ Z Z h=>h.elim]|_=>rw[h.elim])|c n=>rw[KW K h e λi f l Z d b h=>q l (by rw[U d<|F4 b]) h]|_=>rw[h.elim]
theorem EP.new(K:Cells Γ c γ H)(q:k (c++[o])<|.c c.length):EP Γ γ H k (.ref H.length)<|H++[o]:=⟨_,_,_,(K.new o).1,(K.new o).2.1,T_ (K.new o).2.2,q⟩
theorem LZ(K:Cells Γ c γ H)(h:JT c l k):(newList l H).wk<|EP Γ γ H k:=Al.out h λb q=>Ij (B6 b)<|EP.new K q
theorem U_(K:Cells Γ c γ H)(h:PY c l k):(Gw l H).wk<|EP Γ γ H k:=Al.out h λb q=>Ij (B6 b)<|EP.of K Y q
theorem dv{a b:J}(h:(decide (0<b)&&decide (b<1000000000))=I):0<b/\b<1000000000:=⟨DJ (B1 h).1,DJ (B1 h).2⟩
theorem qT:∀{e f H c k}{d:DW}{a b}(K:Cells e c f H)(h:kL d a b c k),(Mz H d (.int a)<|.int b).wk<|EP e f H k:=by intros e f H c k d a b _ K h;induction d using DW.casesOn with|add=>rw[EP.of K Y h]|sub=>rw[EP.of K Y h]|mul=>rw[Al.out h λh q=>Ij ⟨B6 (B1 h).1,B6 (B1 h).2⟩<|EP.of K Y q]|fdiv=>rw[Al.out h λh q=>Ij (dv (a:=a) h)<|EP.of K Y q]|fmod=>rw[Al.out h λh q=>Ij (dv (a:=a) h)<|EP.of K Y q]
theorem zk:∀{o m H c k u w x y op}(K:Cells o c m H)(h:YF op x y c k)(ex:BU m x=V u)(l:BU m y=V w),(Mz H op u w).wk<|EP o m H k:=by intros o m H c k u w x y op _ K h ex l;induction x using AV.casesOn with|p v=>(induction v using MV.casesOn with|int a=>(replace ex:=AN ex;subst ex);rw[vInt.out h l λb e q=>by subst e;rw[qT K q]]|tup a=>(replace ex:=AN ex;subst ex);rw[F2.out h l λZ h=>Gs.out h λb e h=>Al.out h λd q=>by subst e;obtain rfl:=DJ d;rw[U_ K q]]|_=>rw[h.elim])|c i=>rw[KW K h ex λs f a Z e1 p h=>?_];subst e1;(induction y using AV.casesOn with|p v=>(replace l:=AN l;subst l);rw[NY.out h λn e h=>Al.out h λd q=>?_];subst e;(induction f using BG with|true=>rw[nb d]|false=>obtain rfl:=DJ (B1 (B1 d).1).2;rw[Ew (MN p)<|Ij ⟨B6 (B1 d).2,q.1⟩<|LZ K q.2])|c j=>rw[KW K h l λt g b Z r e4 h=>Al.out h λd q=>?_];subst r;(induction f using BG with|true=>rw[nb d]|false=>induction g using BG with|true=>rw[nb d]|false=>obtain rfl:=DJ (p:=op= .add) d;rw[Ew (MN p)<|Ew (MN e4)<|LZ K q])|_=>rw[h.elim])|_=>rw[h.elim]
theorem Me.out(h:Me x=V i)(e:BU γ x=V u):u= .int i:=by induction x using AV.casesOn with|p w=>(induction w using MV.casesOn with|int j=>(replace h:=AN h;subst h);(replace e:=AN e;subst e);rfl|_=>rw[nn h])|_=>rw[nn h]
theorem Td(e:BU γ x=V u):FT u=Qu x:=by induction x using AV.casesOn with|p w=>rw[Ag (AN e) ?_];rfl|c n=>rw[Bo e λi Z q=>by rw[Ag q ?_];rfl]|t l=>rw[Bo e λi Z q=>by rw[Ag q ?_];rfl]|u=>rw[nn e]
def Yz(b:AL)(l:O J):Vw:= @BG (λZ=>Vw) b (.l<|il l)<|.t<|il l
theorem P5.out(h:P5 b l=V a)(q:a.1=b->l=il a.2->G):G:=CB h λd e=>by(replace e:=AN e;clear h;subst e);rw[q Y (iC d).symm]
theorem aL:∀{g b H c u x a}(K:Cells g c b H)(h:R9 c x=V a)(e:BU b x=V u),view H u=V (Yz a.1 a.2):=by intros g b H c u x a _ K h e;induction x using AV.casesOn with|p v=>(induction v using MV.casesOn with|tup l=>obtain rfl:=AN e;rw[P5.out h λe1 d=>by rw[U e1<|U d Y_]]|_=>rw[nn h])|c n=>rw[BQ h λl h j=>Ge (H:=c) h λf e1=>P5.out j λd m=>AY (K.at e1) λi e4 e5=>?_];obtain rfl:=AN<|e.symm.trans<|T_ e4;rw[U d ?_,bind_eq (F4<|m▸e5)<|AM<|YR a.2]|_=>rw[nn h]
theorem sO{b x y}:IL (Yz b x) (Yz b y)=decide (x=y):=by induction b using BG<;>exact a8 x y
theorem gh:∀{l i H c u w x y P}(K:Cells l c i H)(h:vEq c x y P)(ex:BU i x=V u)(d:BU i y=V w),∃r,QI H u w=V r/\P r:=by intros l i H c u w x y P _ K h ex d;unfold vEq at h;cases e:Me x with|some a=>rw[e]at h;rw[B0.out h λb f q=>(Aa _ (by rw[U (Me.out e ex)<|U (Me.out f d) ?_];rfl) q)]|none=>rw[e]at h;rw[B0.out h λa j h=>B0.out h λb f h=>Al.out h λg q=>(Aa _ (bind_eq (aL K j ex)<|map_eq (aL K f d)<|Ag (DJ g) sO) q)]
theorem cu:∀{p a H c u w x y P}(K:Cells p c a H)(h:Vz p c x y P)(ex:BU a x=V u)(b:BU a y=V w),∃r,Qa H u w=V r/\P r:=by
 intros p a H c u w x y P _ K h ex b;have d:∀{l i},l.all isIn=I->((view H<|.int i).bind λx=>(views H l).map λz=>z.any λy=>IL y x)=V (decide<|i∈KG l):=λ{l i}h=>by have:=MR (H:=H) (a:=i) (l:=KG l);replace this:=(iC h)▸this;rw[this]
 induction y using AV.casesOn with|p v=>(replace b:=AN b;subst b);rw[Gs.out (P:=λl=>vInt x λi=>Al (l.all isIn)<|P<|decide<|i∈KG l) h λl e h=>vInt.out h ex λi m h=>Al.out h λg q=>by subst e m;rw[(Aa _ (d g) q)]]|c n=>rw[TJ K h b λi o Z B m h=>U B<|Gi.out h (λf l e h=>vInt.out h ex λj A h=>Al.out h λg q=>?_) λf l e h=>F2.out h ex λA h=>Al.out h λg q=>?_];(·subst e A;rw[(Aa _ ((?_:(match H[i]? with|V (.list _ l)=>_|V (.dict _ s)=>_|_=>_)=_)) q),U m<|d g]);·subst e;rw[(Aa _ (?_) q)];(have:Qa H u (.ref i)=match H[i]? with|V (.list _ l)=>(view H u).bind λx=>(views H l).map λz=>z.any λy=>IL y x|V (.dict _ s)=>if isKey u=I/\Df (L9 u) s=I then V (Cd u s).isSome else C|_=>C:=by clear A;induction u using MV.casesOn<;>rfl);rw[U this<|U m<|AM<|B1 g]|t l=>rw[h.imp λr q=>⟨q.1 _ _ _ _ K ex b,q.2⟩]|u=>rw[h.elim]
theorem bZ(K:Cells Γ c γ H)(h:Z7 Γ f x y c P)(ex:BU γ x=V u)(g:BU γ y=V w):∃r,Ei H f u w=V r/\P r:=by
 have d:∀{f},(vInt x λa=>vInt y λb=>B0 (a_ f a b) P)->∃r,((Oc u w).bind λp=>Sh p.1 p.2 f)=V r/\P r:=λ{f}h=>vInt.out h ex λa e h=>vInt.out h g λb o h=>B0.out h λr m q=>by subst e o;rw[(Aa r m q)]
 induction f using EG.casesOn with|is=>rw[Al.out h λj q=>(Aa _ (AM<|(Td g).trans j)<|Td ex▸q)]|PV=>rw[Al.out h λj q=>(Aa _ (AM<|(Td g).trans j)<|Td ex▸q)]|isin=>rw[cu K h ex g]|MT=>rw[(cu (P:=λb=>P<|!b) K h ex g).elim λr q=>(Aa _ (map_eq q.1 Y) q.2)]|eq=>rw[gh K h ex g]|ne=>rw[(gh (P:=λb=>P<|!b) K h ex g).elim λr q=>(Aa _ (map_eq q.1 Y) q.2)]|lt=>rw[d h]|le=>rw[d h]|gt=>rw[d h]|ge=>rw[d h]
theorem KO{d m:Type}{f:d->AO m}{l:O d}:∀{bs:O m}{j:AE}{a:d},Av f l=V bs->l[j]?=V a->∃b,bs[j]?=V b/\f a=V b:=by induction l with|nil=>rw[λZ h=>nn h]|cons x l o=>intro bs j a h e;rw[C0 h λb g q p r=>U r ?_];induction j using CV with|zero=>(replace e:=AN e;subst e);rw[(Aa b Y q)]|succ j=>rw[o (bs:=g) p e]
theorem JE:∀{a},Av f l=V a->a.length=l.length:=by induction l with|nil=>intro a h;(replace h:=AN h;subst h);rfl|cons x l j=>rw[λh=>C0 h λb p q m o=>by rw[U o<|A_ (·+1)<|j m]]
theorem Xt(K:Cells Γ c γ H)(h:vInt y λi=>B0 (Ez i l) λv=>k c<|.p v)(b:BU γ y=V w)(q:∀i,w= .int i->∀{Q},(BW H<|(idx i l.length).bind λj=>l[j]?).wk Q->(EA H u w).wk Q):(EA H u w).wk<|EP Γ γ H k:=vInt.out h b λi e h=>B0.out h λv d z=>q i e<|Jg (UG.symm.trans d)<|EP.of K Y z
theorem nE:∀{s p H c k u w x y}(K:Cells s c p H)(h:aJ s x y c k)(ex:BU p x=V u)(d:BU p y=V w),(EA H u w).wk<|EP s p H k:=by intros s p H c k u w x y _ K h ex d;induction x using AV.casesOn with|p v=>(induction v using MV.casesOn with|tup l=>(replace ex:=AN ex;subst ex);rw[Xt K h d λi e Q z=>by subst e;rw[z]]|ref a=>(replace ex:=AN ex;subst ex);rw[B0.out h λo g h=>Gi.out h (λf l b h=>Xt K h d λi e Q z=>?_) λZ Z Z h=>h.elim];subst e b;rw[((U ((K.4 _ _ g).1) z):(BW H<|H[a]?.bind<|subAt i).wk _)]|_=>rw[h.elim])|c n=>rw[TJ K h ex λa o Z g b h=>U g<|Gi.out h (λf l m h=>Xt K h d λi e Q z=>?_) λf L m h=>F2.out h d λZ h=>Al.out h λF h=>B0.out h λv B q=>?_];(·subst e m;rw[((U b z):(BW H<|H[a]?.bind<|subAt i).wk _)]);(·subst m;have r:=B1 F;clear F;induction w using MV.casesOn with|int i=>rw[Jg (bind_eq b<|(AM r.2).trans B)<|EP.of K Y q]|tup l=>rw[Jg (bind_eq (bind_eq b<|AM r.2)<|(AM r.1).trans B)<|EP.of K Y q]|_=>rw[nb r.1])|t l=>rw[Bo ex λJ g b=>vInt.out h d λi I h=>B0.out h λa m q=>?_];clear d ex;subst b I;rw[BQ (UG.symm.trans m) λj A E=>AY (KO g E) λv C D=>?_,Jg (bind_eq ((JE g)▸A) C)<|EP.of K (by clear m E;induction a using A0.casesOn<;>exact D) q]|u=>rw[h.elim]
theorem yP(K:Cells Γ c γ H)(h:aN x y c k)(ex:BU γ x=V u)(d:BU γ y=V w):(Qd H u w).wk<|EP Γ γ H k:=vInt.out h d λi e h=>by rw[U e ?_];induction x using AV.casesOn with|p v=>(replace ex:=AN ex;subst ex);rw[Gs.out h λl e h=>by subst e;rw[Ij h.1<|U_ K h.2]]|c n=>rw[KW K h ex λb f l Z j g h=>by rw[U j<|Ew (bind_eq (a:=(b,i)) Y<|bind_eq (F4 g)<|AM h.1)<|LZ K h.2]]|_=>rw[h.elim]
theorem vD(K:Cells Γ c γ H)(h:iy x y c k)(ex:BU γ x=V u)(d:BU γ y=V w):(R6 H u w).wk<|EP Γ γ H k:=vInt.out h d λi e h=>Gz.out h λn g h=>by subst e g;rw[KW K h ex λb f l Z m j h=>by rw[U m<|Ew (bind_eq (a:=(b,i)) Y<|bind_eq (F4 j)<|AM h.1)<|LZ K h.2]]
theorem aaf(K:Cells Γ c γ H)(h:jY x c k)(ex:BU γ x=V u):(ZU H u).wk<|EP Γ γ H k:=by induction x using AV.casesOn with|p v=>(replace ex:=AN ex;subst ex);rw[Gs.out h λl e h=>by subst e;rw[U_ K h]]|c n=>rw[KW K h ex λg f l Z d b h=>by rw[U d<|Ew (F4 b)<|LZ K h]]|_=>rw[h.elim]
theorem uz(K:Cells Γ c γ H)(h:dK Γ b x c k)(ex:BU γ x=V u):(LH H b u).wk<|EP Γ γ H k:=by
 have m:∀{d f P}{g:d->MH->R MV},(Gz x λn=>lst c n λZ l=>B0 (f l) P)->(∀a,P a->(g a H).wk (EP Γ γ H k))->∃i,u= .ref i/\((BW H<|(H[i]?.bind AK.Cc).bind f).bind g).wk (EP Γ γ H k):=λh q=>Gz.out h λn v h=>by subst v;rw[KW K h ex λi f l Z B o h=>B0.out h λa A z=>(Aa i B<|Ew (bind_eq (F4 o) A)<|q a z)]
 induction b using Bi.casesOn with|len=>rw[Jk.out K h ex λl e q=>Jg (map_eq e Y)<|EP.of K Y q]|list=>rw[Jk.out K h ex λl e q=>Ew e<|LZ K q]|tuple=>rw[Jk.out K h ex λl e q=>Ew e<|U_ K q]|int=>rw[GU.out h ex λi e q=>by rw[U e<|EP.of K Y q]]|max=>rw[F2.out h ex λZ h=>Gs.out h λl e h=>B0.out h λj o h=>Al.out h λr q=>by rw[U e<|Jg (bind_eq o<|AM<|B6 r)<|EP.of K Y q]]|all=>rw[(m (g:=λp H=> .ok (.bool<|p.all id) H) h λZ q=>EP.of (k:=k) K Y q).elim λi q=>q.1▸q.2]|any=>rw[(m (g:=λp H=> .ok (.bool<|p.any id) H) h λZ q=>EP.of (k:=k) K Y q).elim λi q=>q.1▸q.2]|sum=>rw[(m (g:=λj H=> .ok (.int<|O5 j j.length) H) h λZ q=>EP.of (k:=k) K Y q).elim λi q=>q.1▸q.2]
theorem Q6(h:Av (BU γ) [a]=V i):∃v,i=[v]/\BU γ a=V v:=C0 h λb g f d e=>by rw[U (AN d) ?_,(Aa b e f)]
theorem zc:∀{p o H c k n m z C d A i}(t:QQ m=V z)(K:Cells p c o H)(h:aX p n m d c k)(e:o[n]?=V i)(r:Av (BU o) d=V A),(J_ C (.lm z i) (.ref i) A H).wk<|EP p o H k:=by intros p o H c k n m z C d A i _ t K h e r;rw[KW K h (T_ e) λP f l e1 Z E h=>Al.out h λF h=>by obtain rfl:=AN<|e.symm.trans e1;induction f using BG with|true=>rw[nb F]|false=>have st:∀{B v},k (c.set n<|.list T B) (.p v)->EP p o H k v (H.set i<|.list T B):=λq=>⟨_,_,_,(K.set e _).1,(K.set e _).2,Y,q⟩;rw[Ew (MN E) ?_];rcases m with _|_|_|m;(·obtain rfl:=AN t;rcases d with _|⟨a,_|⟨b,d⟩⟩;rw[h.elim,AY (Q6 r) λD BL g=>U BL ?_,F2.out h g λZ h=>Al.out h λs q=>Ij (B6 s)<|st q,h.elim]);(·obtain rfl:=AN t;rcases d with _|⟨a,_|⟨b,d⟩⟩;(·obtain rfl:=AN r;rw[B0.out h λv g q=>Ew g<|st q]);rw[AY (Q6 r) λD Bf g=>U Bf ?_,vInt.out h g λj e h=>Al.out h λs h=>B0.out h λv M q=>by rw[U e<|Ij (DJ s)<|Ew M<|st q],h.elim]);(·obtain rfl:=AN t;rcases d with _|⟨a,_|⟨b,d⟩⟩;rw[h.elim,AY (Q6 r) λD E9 g=>U E9 ?_,Jk.out K h g λm N h=>Al.out h λs q=>Ew N<|Ij (B6 s)<|st q,h.elim]);·rcases d with _|⟨a,_|⟨b,d⟩⟩<;>exact h.elim]
theorem qn:∀{t s H c u w x y a v P}(h:aZ a x y c P)(K:Cells t c s H)(r:BU s a=V v)(ex:BU s x=V u)(m:BU s y=V w),∃g A,ZZ H u w v=V g/\Go s H s g/\Cells t A s g/\P A:=by intros t s H c u w x y a v P _ h K r ex m;rw[F2.out h r λZ h=>Gz.out h λn p h=>by intros _ n _ p h;subst p;rw[vInt.out h m λi B h=>TJ K h ex λj o d D z h=>by clear m ex;subst B D;rw[Gi.out h (λf l e h=>Al.out h λb h=>B0.out h λE C q=>?_) λf F e h=>Al.out h λb q=>?_];(·subst e;induction f using BG with|true=>rw[nb b]|false=>rw[(Fq _ _ (map_eq (bind_eq z<|map_eq C Y) Y) ((K.set d _).1) ((K.set d _).2) q)]);·subst e;induction f using BG with|true=>rw[nb b]|false=>rw[(Fq _ _ (map_eq (bind_eq z<|AM ⟨B6 (B1 b).1,(B1 b).2⟩) Y) ((K.set d _).1) ((K.set d _).2) q)]]]
theorem Zx(h:i.all RC=I):∀{l},Av (BU γ) i=V l->l=i.map RW:=by induction i with|nil=>intro l e;(replace e:=AN e;subst e);rfl|cons a i f=>rw[λe=>Ef h λj g=>C0 e λb q d o m=>U m<|U (f g o) ?_];clear h e;induction a using AV.casesOn with|p v=>rw[U (AN d) ?_];rfl|_=>rw[nb j]
theorem zI(h:i.all isA=I):∀{l},Av (BU γ) i=V l->Av (Hq γ) (i.map YV)=V l:=by induction i with|nil=>rw[λe=>e]|cons a i f=>rw[λe=>Ef h λj g=>C0 e λb q d o m=>U m<|bind_eq (a:=b) ?_<|map_eq (f g o) Y];clear h e;induction a using AV.casesOn with|p v=>rw[d]|c n=>rw[d]|_=>rw[nb j]
variable{as:AB AV}{vs:AB MV}
theorem zp(K:Cells Γ c γ H)(h:b8 as c k)(e:Av (BU γ) as=V vs):(newList vs H).wk<|EP Γ γ H k:=Al.out h λb q=>Zx b e▸LZ K q
theorem wy(K:Cells Γ c γ H)(h:lR as c k)(e:Av (BU γ) as=V vs):(Gw vs H).wk<|EP Γ γ H k:=Al.out h λd h=>by rw[Ij (by rw[U (JE e)<|B6 d]) ?_];cases z:as.all RC with|true=>rw[z]at h;rw[EP.of (a:= .p<|.tup<|as.map RW) K (A_ (λv=>V<|MV.tup v) (Zx z e).symm) h]|false=>rw[z]at h;rw[Al.out h λb q=>EP.of (a:= .t<|as.map YV) K (map_eq (zI b e) Y) q]
theorem oN(K:Cells Γ c γ H)(h:gi as c k)(e:Av (BU γ) as=V vs):((BW H<|Nl vs).bind λb H=>alloc (.dict T b) H).wk<|EP Γ γ H k:=Al.out h λd h=>B0.out h λb f q=>by rw[U (Zx d e)<|Ew f<|EP.new K q]
end
end
section
inductive AF where
 |next
 |cont
 |ret(a:AV)
instance:CK AF:=⟨.next⟩
abbrev Ks:=AF->Env->O AK->Prop
abbrev RT:=O AV->Env->O AK->Prop
def cf(b:O G):AF->CX->Prop| .next,f=>f= .next| .cont,f=>f= .cont| .ret a,f=>∃v,f= .ret v/\BU b a=V v
inductive SP(Γ:VG)(γ:O G)(H:MH)(k:Ks)(f:CX)(C2:Loc)(H':MH):Prop
 |mk(af:AF)(env':Env)(c':O AK)(BM:O G)(g:Go γ H BM H')(K:Cells Γ c' BM H')(r:CY env' BM C2)(e:cf BM af f)(q:k af env' c')
section
variable(Γ:VG)(d:AE)
abbrev oc:CF:=BR tb.P FF Γ.N d Γ.rz
def Ex(a:Loc)(H:MH)(e:CE)(Q:MV->MH->Prop):Prop:=(mE tb.P (oc Γ d) Γ.N e a H).wk Q
abbrev mB(b:O CS)(a:Loc)(H:MH):RS:=CP tb.P (BR tb.P FF Γ.N d) Γ.N b Γ.rz a H
def Cv(f:G)(e:O AV)(c:O AK)(k:Kt):Prop:=∀a b H,Cells Γ c a H->Av (BU a) e=V b->(oc Γ d f b H).wk (EP Γ a H k)
def Fl(h:IK)(i:O AV)(j:O G)(l:AL)(b:O CS)(e:Env)(c:O AK)(k:Ks):Prop:=∀a f g H,CY e a f->Cells Γ c a H->Av (BU a) i=V g->((BW H<|EU H h g).then f λm H=>forR Γ.N j l (mB Γ d b) m f H).wk (SP Γ a H k)
def Wl(t:CE)(b:O CS)(a:Env)(c:O AK)(k:Ks):Prop:=∀e f H,CY a e f->Cells Γ c e H->(mS tb.P (BR tb.P FF Γ.N d) Γ.N (.JY t b) Γ.rz f H).wk (SP Γ e H k)
abbrev itemF(b:Loc)(a:CE)(e:O G)(f:AL)(HC:O CE)(v:MV)(H:MH):R<|AO MV:=((BW H<|DR (cut b) e f v).bind λC2 H=>(ER tb.P (oc Γ d) Γ.N I HC C2 H).bind λc H=>if c then(mE tb.P (oc Γ d) Γ.N a C2 H).bind λr H=> .ok (V r) H else .ok C H).ME
def Cl(i:IK)(j:O AV)(b:CE)(l:O G)(f:AL)(HC:O CE)(e:Env)(c:O AK)(k:Kt):Prop:=∀a g h H,CY e a g->Cells Γ c a H->Av (BU a) j=V h->((BW H<|EU H i h).bind λm H=>(U8 Γ.N (itemF Γ d g b l f HC) f m H).bind newList).wk (EP Γ a H k)
end
/-! what stands on the way, by name -/
def pK(r:RT)(st:O AV)(b:Env):Kt:=λc a=>r (a::st) b c
def pB(r:RT)(st:O AV)(a:Env)(c:O AK)(b:AL):Prop:=r (.p (.bool b)::st) a c
def pC(a r:RT)(st:O AV)(d:Env)(c:O AK)(y:AV)(b:AL):Prop:=Ap b (a (y::st) d c)<|r (.p (.bool T)::st) d c
def kS(r:RT)(k:Ks):Ks:=λf b c=> @AF.casesOn (λZ=>Prop) f (r [] b c) (k .cont b c) λa=>k (.ret a) b c
def Fw(st:O AV)(k:AV->O AV->Prop):Prop:= @An AV (λZ=>Prop) st BB k
def top2(st:O AV)(k:AV->AV->O AV->Prop):Prop:=Fw st λy st=>Fw st λx st=>k x y st
def I_(n:G):O AV->O AV->(O AV->O AV->Prop)->Prop:= @Nat.rec (λZ=>O AV->O AV->(O AV->O AV->Prop)->Prop) (λb st k=>k b st) (λZ f b st k=>Fw st λa st=>f (a::b) st k) n
def bp(d:O G):O AV->Env->(Env->Prop)->Prop:= @List.rec G (λZ=>O AV->Env->(Env->Prop)->Prop) (λc b k=> @An AV (λZ=>Prop) c (k b) λZ Z=>BB) (λx Z f c b k=>Fw c λa c=>f c (put x a b) k) d
def Uk(c:O G)(a:AV)(b:Env)(k:Env->Prop):Prop:= @AV.casesOn (λZ=>Prop) a (λv=>Gs v λl=>bp c (l.map .p) b k) (λZ=>BB) (λl=>bp c (l.map Yw) b k) BB
abbrev Op:=VG->G->Ks->RT->RT
def kZ(v:MV):Op:=λZ Z Z r st a c=>r (.p v::st) a c
def tI(x:G):Op:=λZ Z Z r st a c=>B0 (look a x)<|pK r st a c
def vX(g:G):Op:=λZ Z Z r st a c=>B0 (tb.P.glob g) λv=>r (.p v::st) a c
def uh(op:DW):Op:=λZ Z Z r st a c=>top2 st λx y st=>YF op x y c<|pK r st a
def zx:Op:=λZ Z Z r st a c=>Fw st λx st=>GU x λb=>r (.p (.bool<|!b)::st) a c
def aaT(op:EG):Op:=λb Z Z r st a c=>top2 st λx y st=>Z7 b op x y c<|pB r st a c
def dR:Op:=λb Z Z r st a c=>top2 st λx y st=>aJ b x y c<|pK r st a
def jy(n:G):Op:=λZ Z Z r st a c=>Fw st λy st=>vInt y λi=>I_ n [] st λb st=>B0 (Ez i b)<|pK r st a c
def rK(n:G):Op:=λZ Z Z r st a c=>Al (Bm n Bj)<|r st a c
def aaP:Op:=λZ Z Z r st a c=>top2 st λx y st=>aN x y c<|pK r st a
def zz:Op:=λZ Z Z r st a c=>top2 st λx y st=>iy x y c<|pK r st a
def uU:Op:=λZ Z Z r st a c=>Fw st λx st=>jY x c<|pK r st a
def wQ(b:Bi):Op:=λd Z Z r st a c=>Fw st λx st=>dK d b x c<|pK r st a
def uP(n:G):Op:=λZ Z Z r st a c=>I_ n [] st λb st=>b8 b c<|pK r st a
def oTup(n:G):Op:=λZ Z Z r st a c=>I_ n [] st λb st=>lR b c<|pK r st a
def xY(n:G):Op:=λZ Z Z r st a c=>I_ n [] st λb st=>gi b c<|pK r st a
def abj(f n:G):Op:=λb d Z r st a c=>I_ n [] st λe st=>Cv b d f e c<|pK r st a
def aar(m n:G):Op:=λZ Z Z r st a c=>Fw st λx Z=>Gz x λj=>lst c j λf Z=>Al (!f&&D1 m 3&&Bm n 1)<|r st a c
def xg(m n:G):Op:=λb Z Z r st a c=>I_ n [] st λd st=>Fw st λx st=>Gz x λj=>aX b j m d c<|pK r st a
def q9(e:IK)(n:G)(b:CE)(f:O G)(g:AL)(HC:O CE):Op:=λh d Z r st a c=>I_ n [] st λi st=>Cl h d e i b f g HC a c<|pK r st a
def yf:Op:=λZ Z Z r st a c=>Fw st λZ st=>r st a c
def s7(x:G):Op:=λZ Z Z r st b c=>Fw st λa st=>r st (put x a b) c
def yo(d:O G):Op:=λZ Z Z r st b c=>Fw st λa st=>Uk d a b λb=>r st b c
def qK:Op:=λZ Z Z r st b c=>top2 st λx y st=>Fw st λa st=>aZ a x y c λc=>r st b c
def rj(e:IK)(n:G)(f:O G)(g:AL)(b:O CS):Op:=λh d k r st a c=>I_ n [] st λi Z=>Fl h d e i f g b a c<|kS r k
def vn(t:CE)(b:O CS):Op:=λe d k r Z a c=>Wl e d t b a c<|kS r k
def iD(op:EG):VG->RT->RT->RT:=λd a r st b c=>top2 st λx y st=>Z7 d op x y c<|pC a r st b c y
def abR(m:AL):VG->RT->RT->RT:=λZ a r st d c=>Fw st λx st=>GU x λb=> @BG (λZ=>Prop) m (Ap b (r (.p (.bool I)::st) d c)<|a st d c)<|Ap b (a st d c)<|r (.p (.bool T)::st) d c
def T5:VG->RT->RT->RT:=λZ a b st d c=>Fw st λx st=>GU x λz=>Ap z (a st d c)<|b st d c
def Pn:Ks->RT:=λk Z a c=>k .next a c
def Mq:Ks->RT:=λk st b c=>Fw st λa Z=>k (.ret a) b c
def oX:Ks->RT:=λk Z a c=>k .cont a c
def Pj:Ks->RT:=λZ Z Z Z=>BB
inductive In where
 |lf(f:Ks->RT)
 |op(f:Op)(i:In)
 |br(f:VG->RT->RT->RT)(a b:In)
instance:CK In:=⟨.lf λZ Z Z Z=>Bg⟩
def run(c:VG)(d:G)(k:Ks):In->RT| .lf f=>f k| .op f i=>f c d k (run c d k i)| .br f a b=>f c (run c d k a) (run c d k b)
mutual noncomputable def cI:CE->In->In| .con v,i=> .op (kZ v) i| .loc x,i=> .op (tI x) i| .glob g,i=> .op (vX g) i| .bin l a b,i=>cI a (cI b<|.op (uh l) i)| .not a,i=>cI a (.op zx i)| .bool m es,i=>cB m es i| .cmp a k bs,i=>cI a (cC k bs i)| .ite t a b,i=>cI t (.br T5 (cI a i)<|cI b i)| .list es,i=>J7 es (.op (uP es.length) i)| .tup es,i=>J7 es (.op (oTup es.length) i)| .dict es,i=>J7 es (.op (xY es.length) i)| .sub (.list es) j,i=>J7 es (.op (rK es.length)<|cI j<|.op (jy es.length) i)| .sub o j,i=>cI o (cI j<|.op dR i)| .VD o j,i=>cI o (cI j<|.op aaP i)| .ZL o j,i=>cI o (cI j<|.op zz i)| .UI o,i=>cI o (.op uU i)| .EK f h,i=>J7 h (.op (abj f h.length) i)| .E8 b a,i=>cI a (.op (wQ b) i)| .BA o m h,i=>cI o (.op (aar m h.length)<|J7 h<|.op (xg m h.length) i)| .comp n xs p q src HC,i=>J7 src (.op (q9 q src.length n xs p HC) i)|_,_=> .lf Pj noncomputable def J7:O CE->In->In|[],i=>i|e::es,i=>cI e (J7 es i)noncomputable def cB:AL->O CE->In->In|m,[],i=> .op (kZ<|.bool m) i|m,e::es,i=>cI e (.br (abR m) (cB m es i) i)noncomputable def cC:O EG->O CE->In->In|[l],[b],i=>cI b (.op (aaT l) i)|l::k,b::bs,i=>cI b (.br (iD l) (cC k bs i) i)|_,_,_=> .lf Pj end
mutual noncomputable def cT:CS->In->In| .expr e,i=>cI e (.op yf i)| .asg x e,i=>cI e (.op (s7 x) i)| .FP xs e,i=>cI e (.op (yo xs) i)| .Ka o j e,i=>cI e (cI o<|cI j<|.op qK i)| .ifs t b o,i=>cI t (.br T5 (Nj b i)<|Nj o i)| .Jj xs a f src b,i=>J7 src (.op (rj f src.length xs a b) i)| .JY t b,i=> .op (vn t b) i| .cont,_=> .lf oX| .ret e,_=>cI e (.lf Mq)|_,_=> .lf Pj noncomputable def Nj:O CS->In->In|[],i=>i|s::g,i=>cT s (Nj g i)end
section
variable{Γ:VG}{d:AE}{γ:AB AE}{ρ:Loc}{H:MH}{env:Env}{c:AB AK}{k:Ks}{st:AB AV}{i:In}{G:Prop}
variable(Γ d)in def SE(e:CE):Prop:=∀{k:Ks}{i:In}{st:O AV}{env:Env}{c:O AK}{γ:O AE}{ρ:Loc}{H:MH},run Γ d k (cI e i) st env c->CY env γ ρ->Cells Γ c γ H->Ex Γ d ρ H e (EP Γ γ H<|pK (run Γ d k i) st env)
variable(Γ d)in def Lr(a:O CE):Prop:=∀e∈a,SE Γ d e
inductive Oz(Γ:VG)(γ:O AE)(H:MH)(k:O AK->O AV->Prop)(vs:O MV)(H':MH):Prop
 |mk(as:O AV)(c':O AK)(BM:O AE)(g:Go γ H BM H')(K:Cells Γ c' BM H')(e:Av (BU BM) as=V vs)(q:k c' as)
theorem EP.then{j:Type}{r:R MV}{f:MV->MH->R j}{m:Kt}{Q:j->MH->Prop}(h:r.wk<|EP Γ γ H m)(q:∀v b a l BM,Go γ H BM b->Cells Γ l BM b->BU BM a=V v->m l a->(f v b).wk Q):(r.bind f).wk Q:=JC<|GL h λv b⟨a,l,BM,g,K,e,z⟩=>q v b a l BM g K e z
theorem EP.K_{r:R MV}(h:r.wk<|EP Γ γ H j)(q:∀v b a l BM,Go γ H BM b->Cells Γ l BM b->BU BM a=V v->j l a->(f v b).wk Q):(r.then ρ f).wk Q:=WV<|GL h λv b⟨a,l,BM,g,K,e,z⟩=>q v b a l BM g K e z
theorem Oz.then{j:Type}{r:R (O MV)}{f:O MV->MH->R j}{m:O AK->O AV->Prop}{Q:j->MH->Prop}(h:r.wk<|Oz Γ γ H m)(q:∀v b a l BM,Go γ H BM b->Cells Γ l BM b->Av (BU BM) a=V v->m l a->(f v b).wk Q):(r.bind f).wk Q:=JC<|GL h λv b⟨a,l,BM,g,K,e,z⟩=>q v b a l BM g K e z
theorem Sn{l:O CE}:∀{st}{c}{n}{H},Lr Γ d l->run Γ d k (J7 l i) st env c->CY env n ρ->Cells Γ c n H->(CN tb.P (oc Γ d) Γ.N l ρ H).wk (Oz Γ n H λc b=>b.length=l.length/\run Γ d k i (b.reverse++st) env c):=by induction l with|nil=>rw[λZ h Z K=>⟨[],_,_,Go.refl,K,Y,Y,h⟩]|cons e l y=>rw[λp h r K=>EP.then (p e (.head _) h r K) λv I a E w g C z q=>Oz.then (y (λx m=>p x<|.tail _ m) q (r.go g) C) λD F b A f u B j o=>⟨a::b,A,f,g.trans u,B,bind_eq (u.cv z)<|map_eq j Y,A_ (·+1) o.1,by rw[U I1<|U (Bc ..) o.2]⟩]
theorem yg:∀{g st P},f.length=n->I_ n g (f++st) P->P (f.reverse++g) st:=by induction n generalizing f with|zero=>intro g st P e h;(induction f using An with|nil=>rw[h]|cons=>rw[(by cases e)])|succ n b=>intro g st P e h;induction f using An with|nil=>rw[(by cases e)]|cons a f=>rw[U I1<|U (Bc ..)<|b (MC e) h]
theorem Sw(e:a.length=n)(h:I_ n [] (a.reverse++st) P):P a st:=by have:=yg (by rw[U Bu e]) h;rw[Mr,Ba]at this;rw[this]
theorem parts{n:O CE}{j:In}{f:Op}{Q:O AV->O AV->O AK->Prop}{e:CE}{g:O MV->MH->R MV}{m:Kt}(t:Lr Γ d n)(h:run Γ d k (J7 n<|.op f j) st env c)(r:CY env a ρ)(K:Cells Γ c a H)(u:∀b c,f Γ d k (run Γ d k j) b env c=I_ n.length [] b λl b=>Q l b c)(v:(mE tb.P (oc Γ d) Γ.N e ρ H)=(CN tb.P (oc Γ d) Γ.N n ρ H).bind g)(q:∀{l s c a H},Q l st c->CY env a ρ->Cells Γ c a H->Av (BU a) l=V s->(g s H).wk (EP Γ a H m)):Ex Γ d ρ H e<|EP Γ a H m:=by unfold Ex;rw[U v<|Oz.then (Sn t h r K) λs B l A p o y w z=>EP.wide o<|q (Sw z.1<|Eq.mp (u _ _) z.2) (r.go o) y w]
theorem two{a b e:CE}{f:Kt}{i:In}{g:MV->MV->MH->R MV}(D:SE Γ d a)(C:SE Γ d b)(h:run Γ d k (cI a<|cI b i) st env c)(r:CY env l ρ)(K:Cells Γ c l H)(B:(mE tb.P (oc Γ d) Γ.N e ρ H)=(mE tb.P (oc Γ d) Γ.N a ρ H).bind λx H=>(mE tb.P (oc Γ d) Γ.N b ρ H).bind<|g x)(q:∀{x y u w c l H},run Γ d k i (y::x::st) env c->Cells Γ c l H->BU l x=V u->BU l y=V w->(g u w H).wk (EP Γ l H f)):Ex Γ d ρ H e<|EP Γ l H f:=by unfold Ex;rw[U B<|EP.then (D h r K) λv O x M p m J F A=>EP.then (C A (r.go m) J) λw N y L o j I E z=>EP.wide (m.trans j)<|q z I (j.cv F) E]
theorem Ap.out(h:Ap b A B)(g:b=I->A->G)(f:b=T->B->G):G:=by induction b using BG with|true=>rw[g Y h]|false=>rw[f Y h]
theorem aK:∀{Γ d ρ env k st i}{m:AL}{es:AB CE},∀{c:AB AK}{γ:AB AE}{H:MH},Lr Γ d es->run Γ d k (cB m es i) st env c->CY env γ ρ->Cells Γ c γ H->(ER tb.P (oc Γ d) Γ.N m es ρ H).wk λb=>EP Γ γ H (pK (run Γ d k i) st env)<|.bool b:=by intros Γ d ρ env k st i m es;induction es with|nil=>rw[λZ h Z K=>EP.of (a:= .p<|.bool m) K A7 h]|cons e es o=>intros _ e es _ o;intros c γ H _ u h r K;rw[EP.then (u e (.head _) h r K) λv f a w A g y B q=>GU.out q B λb e q=>A9 e ?_];(have t:∀{b},b=m->run Γ d k (cB m es i) st env w->((if b=m then ER tb.P (oc Γ d) Γ.N m es ρ f else .ok b f):R AL).wk λb=>EP Γ γ _ (pK (run Γ d k i) st env)<|.bool b:=λe z=>by rw[A9 (AM e)<|GL (o (λx m=>u x<|.tail _ m) z (r.go g) y) λ_ _⟨a,c',BM,g',K,e,z⟩=>⟨a,c',BM,g.trans g',K,e,z⟩]);(have n:∀{b},¬b=m->run Γ d k i (.p (.bool b)::st) env w->((if b=m then ER tb.P (oc Γ d) Γ.N m es ρ f else .ok b f):R AL).wk λb=>EP Γ γ _ (pK (run Γ d k i) st env)<|.bool b:=λe z=>by rw[A9 (AS e) ⟨_,_,_,g,y,A7,z⟩]);induction m using BG with|true=>rw[Ap.out q (λe q=>t e q) λe j=>by rw[A9 e<|n Jo j]]|false=>rw[Ap.out q (λe j=>by rw[A9 e<|n Jo j]) λe q=>t e q]
theorem aau:∀{Γ d ρ env k st i}{bs:AB CE},∀{x:AV}{u:MV}{f:AB EG}{c:AB AK}{γ:AB AE}{H:MH},Lr Γ d bs->run Γ d k (cC f bs i) (x::st) env c->BU γ x=AA u->CY env γ ρ->Cells Γ c γ H->(HJ tb.P (oc Γ d) Γ.N u f bs ρ H).wk λb=>EP Γ γ H (pK (run Γ d k i) st env) (.bool b):=by intros Γ d ρ env k st i bs;induction bs with|nil=>intro x u f c γ H _ h;rcases f with _|⟨p,_|⟨B,f⟩⟩<;>exact h.elim|cons b bs C=>intros _ b bs _ C;intros x u f c γ H _ D h F r K;have E:SE Γ d b:=D b (.head _);rcases f with _|⟨p,f⟩;(·induction bs using An<;>exact h.elim);intros _ p f _ h;have j:run Γ d k (cI b (.br (iD p) (cC f bs i) i)) (x::st) env c->((mE tb.P (oc Γ d) Γ.N b ρ H).bind λy H=>(M' p u y H).bind λc H=>if c then HJ tb.P (oc Γ d) Γ.N y f bs ρ H else .ok AH H).wk λb=>EP Γ γ H (pK (run Γ d k i) st env) (.bool b):=λh=>EP.then (E h r K) λv J a I A g o w q=>(bZ o q (g.cv F) w).elim λz q=>Ew q.1 (by have q:=q.2;induction z using BG with|true=>rw[GL (C (λx m=>D x (.tail _ m)) q w (r.go g) o) λ_ _⟨a,c',BM,g',K,e,z⟩=>⟨a,c',BM,g.trans g',K,e,z⟩]|false=>rw[⟨_,_,_,g,o,A7,q⟩]);rcases f with _|⟨B,f⟩;(·induction bs using An with|nil=>rw[EP.then (E h r K) λv J a I A g o w q=>(bZ o q (g.cv F) w).elim λz q=>Jg q.1 ⟨_,_,_,g,o,A7,q.2⟩]|cons L bs=>rw[j h]);·induction bs using An<;>exact j h
theorem pz:SE Γ d<|.loc x:=λ{_ _ _ _ _ _ _ _}h r K=>B0.out h λa e q=>(r x a e).elim λv z=>Jg z.2<|EP.of K z.1 q
theorem abL:∀{e d}{o:CE}{m:AE}{s:O CE}(p:SE e d o)(t:Lr e d s),SE e d<|.BA o m s:=by intros e d o m s _ p t;rw[λ{k i st env c γ ρ H}h r K=>EP.then (p h r K) λv T x Q B w y D q=>Gz.out q λn E q=>by subst E;rw[KW y q D λa f l L J I q=>Al.out q λb C=>U J ?_];induction f using BG with|true=>rw[nb b]|false=>have b:=B1 b;(have g:∃j,QQ m=V j:=by clear h;rcases m with _|_|_|m;rw[⟨_,Y⟩,⟨_,Y⟩,⟨_,Y⟩,nomatch b.1]);rw[xE g λj g=>Ew (bind_eq I<|(AM<|B6 b.2).trans<|map_eq (show tb.P.lm m=V j from g) Y)<|Oz.then (Sn t C (r.go w) y) λN S R P A u M F z=>EP.wide (w.trans u)<|zc g M (Sw z.1 z.2) (u.at L) F]]
def YW(e:CE):AO<|O CE:=match e with| .list a=>V a|_=>C
theorem qz(h:YW o=C):cI (.sub o j) i=cI o (cI j<|.op dR i):=by induction o using CE.casesOn<;>first|rfl|rw[(by cases h)]
theorem ud{o j:CE}(J:SE Γ d o)(t:∀s,o= .list s->Lr Γ d s)(D:SE Γ d j):SE Γ d<|.sub o j:=λ{k i st env c γ ρ H}h r K=>by cases e:YW o with|none=>replace h:=(qz e)▸h;rw[two (g:=λx y H=>EA H x y) J D h r K Y λq K=>nE K q]|some s=>(have e:o= .list s:=by induction o using CE.casesOn<;>first|rw[nn e]|rw[A_ CE.list<|AN e]);subst e;rw[JC<|JC<|GL (Sn (t s Y) h r K) λf b⟨as,c1,Hx,g1,W,ea,z⟩=>?_];have B:Go Hx b Hx (b++[.list T f])/\Cells Γ c1 Hx (b++[.list T f]):=⟨⟨(Aa ([]) ((Ba _).symm) λZ m=>(by cases m)),by rw[U Aq<|BJ _ _],λi o e Z=>DV e⟩,W.1,W.2,λn o i Q O=>DV<|W.3 n o i Q O,λi o e=>⟨DV (W.4 i o e).1,(W.4 i o e).2⟩⟩;rw[Al.out (k:=run Γ d k (cI j<|.op (jy s.length) i) (as.reverse++st) env c1) z.2 λF q=>?_];(have u:((mE tb.P (oc Γ d) Γ.N j ρ<|b++[.list T f]).bind λy H=>EA H (.ref b.length) y).wk<|EP Γ γ H<|pK (run Γ d k i) st env:=EP.then (D q ((r.go g1).go B.1) B.2) λw l y E p C g S q=>vInt.out q S λn e q=>B0.out (Sw (P:=λas st=>B0 (Ez n as)<|pK (run Γ d k i) st env E) z.1 q) λa N q=>by rw[U e<|BQ (UG.symm.trans N) λm A L=>AY (KO (C.r8 ea) L) λv I M=>?_];replace A:=(JE ea)▸A;rw[Jg (bind_eq (C.3 _ _ FQ λm=>Aj (W.lt m)<|GN _:l[b.length]?=V (.list T f))<|bind_eq A I) ⟨a,E,p,(g1.trans B.1).trans C,g,M,q⟩]);rw[((U (AM<|by rw[JE ea,z.1]at⊢;rw[B6 F]) ?_):((if f.length<=Bj then alloc _ _ else _):R MV).wk _),u]
theorem kx(b:∀i,cI e i= .lf Pj):SE Γ d e:=λ{_ i _ _ _ _ _ _}h _ _=>by rw[b i]at h;rw[h.elim]
variable(Γ d)in def SW(e:CE):Prop:=SE Γ d e/\@C4 (O CE) (λZ=>Prop) (YW e) Bg (Lr Γ d)
theorem wY:∀{Γ d}(e:CE),SW Γ d e:=by intros Γ d e;rw[@CE.rec (SW Γ d) (Lr Γ d) (λv=>⟨λh Z K=>EP.of (a:= .p v) K A7 h,B9⟩) (λx=>⟨pz,B9⟩) (λg=>⟨λh Z K=>B0.out h λv e q=>Jg e<|EP.of (a:= .p v) K A7 q,B9⟩) (λE Z Z j A=>⟨λh r K=>two (g:=λx y H=>Mz H E x y) j.1 A.1 h r K A7 λq K=>zk K q,B9⟩) (λZ j=>⟨λh r K=>EP.then (j.1 h r K) λZ Z Z Z Z g w B q=>GU.out q B λb e q=>by rw[A9 e ⟨_,_,_,g,w,A7,q⟩],B9⟩) (λZ Z u=>⟨λh r K=>JC<|aK u h r K,B9⟩) (λZ Z Z j u=>⟨λh r K=>EP.then (j.1 h r K) λZ Z Z Z Z g w B q=>JC<|GL (aau u q B (r.go g) w) λ_ _⟨a,c',BM,g',K,e,z⟩=>⟨a,c',BM,g.trans g',K,e,z⟩,B9⟩) (λZ Z Z F j A=>⟨λh r K=>EP.then (F.1 h r K) λZ Z Z Z Z g w B q=>GU.out q B λb e q=>by rw[A9 e ?_];induction b using BG with|true=>rw[EP.wide g<|j.1 q (r.go g) w]|false=>rw[EP.wide g<|A.1 q (r.go g) w],B9⟩) (λZ u=>⟨λh r K=>parts u h r K (λZ Z=>A7) A7 λq Z K e=>zp K q e,u⟩) (λZ u=>⟨λh r K=>parts u h r K (λZ Z=>A7) A7 λq Z K e=>wy K q e,B9⟩) (λZ u=>⟨λh r K=>parts u h r K (λZ Z=>A7) A7 λq Z K e=>oN K q e,B9⟩) (λZ Z Z=>⟨kx λZ=>A7,B9⟩) (λo Z j A=>⟨ud j.1 (λQ e=>by subst e;rw[j.2]) A.1,B9⟩) (λZ Z j A=>⟨λh r K=>two (g:=λx y H=>Qd H x y) j.1 A.1 h r K A7 λq K=>yP K q,B9⟩) (λZ Z j A=>⟨λh r K=>two (g:=λx y H=>R6 H x y) j.1 A.1 h r K A7 λq K=>vD K q,B9⟩) (λZ j=>⟨λh r K=>EP.then (j.1 h r K) λZ Z Z Z Z g w B q=>EP.wide g<|aaf w q B,B9⟩) (λf Z u=>⟨λh r K=>parts u h r K (λZ Z=>A7) A7 λq Z K e=>q _ _ _ K e,B9⟩) (λZ Z Z=>⟨kx λZ=>A7,B9⟩) (λZ Z j=>⟨λh r K=>EP.then (j.1 h r K) λZ Z Z Z Z g w B q=>EP.wide g<|uz w q B,B9⟩) (λZ Z Z I u=>⟨abL I.1 u,B9⟩) (λM N O P Z D Z u Z=>⟨λh r K=>parts u h r K (λZ Z=>A7) A7 λq r K e=>q _ _ _ _ r K e,B9⟩) (λZ m=>(by cases m)) (λZ Z L J e m=>by induction m using Cu with|head C=>rw[A9 C L.1]|tail m=>rw[J e m]) e]
theorem Hj(e:CE):SE Γ d e:=(wY e).1
end
end
section
section
variable{Γ:VG}{d:AE}{γ HU:AB AE}{ρ:Loc}{H Hs:MH}{env:Env}{c:AB AK}{k:Ks}{st:AB AV}{i:In}{G:Prop}
theorem SP.wide{r:RS}(g:Go γ H BM b)(h:r.wk<|SP Γ BM b k):r.wk<|SP Γ γ H k:=LB h λ_ _ _⟨a,e,f,BM,j,K,r,z,q⟩=>⟨a,e,f,BM,g.trans j,K,r,z,q⟩
theorem SP.mono{r:RS}{g}(h:r.wk<|SP Γ γ H k)(f:∀b e c,k b e c->g b e c):r.wk<|SP Γ γ H g:=LB h λ_ _ _⟨a,e,j,BM,l,K,r,z,q⟩=>⟨a,e,j,BM,l,K,r,z,f _ _ _ q⟩
variable(Γ d)in def ST(s:CS):Prop:=∀{k:Ks}{i:In}{env:Env}{c:O AK}{γ:O AE}{ρ:Loc}{H:MH},run Γ d k (cT s i) [] env c->CY env γ ρ->Cells Γ c γ H->(mS tb.P (BR tb.P FF Γ.N d) Γ.N s Γ.rz ρ H).wk (SP Γ γ H<|kS (run Γ d k i) k)
variable(Γ d)in def M8(a:O CS):Prop:=∀{k:Ks}{i:In}{env:Env}{c:O AK}{γ:O AE}{ρ:Loc}{H:MH},run Γ d k (Nj a i) [] env c->CY env γ ρ->Cells Γ c γ H->(mB Γ d a ρ H).wk (SP Γ γ H<|kS (run Γ d k i) k)
theorem lE:∀{q p},∀{n s l P ρ},bp p n l P->Av (BU q) n=V s->CY l q ρ->∃f b,FH ρ p s=V f/\CY b q f/\P b:=by intros q p;induction p with|nil=>intro n s l P ρ h e r;(induction n using An with|nil=>(replace e:=AN e;subst e);rw[(DI ρ l Y r h)]|cons=>rw[h.elim])|cons x p j=>intro n s l P ρ h e r;induction n using An with|nil=>rw[h.elim]|cons a n=>rw[C0 e λv g o m e=>by rw[U e<|j (ρ:=upd ρ x v) h m<|r.upd o]]
theorem nR:Av (BU γ) (l.map .p)=V l:=by induction l with|nil=>rfl|cons v l b=>rw[map_eq b Y]
theorem sb:Av (BU γ) (l.map Yw)=Av (Hq γ) l:=by induction l with|nil=>rfl|cons v l f=>induction v using A0.casesOn<;>exact A_ (eZ _)<|GJ λb=>A_ (IT _) f
theorem cy:∀{γ o n p a v P}(h:Uk p a n P)(e:BU γ a=V v)(r:CY n γ o),∃f b,DR o p I v=V f/\CY b γ f/\P b:=by intros γ o n p a v P _ h e r;induction a using AV.casesOn with|p w=>rw[Ag (AN e) ?_,Gs.out h λl e h=>by subst e;rw[lE h nR r]]|t l=>rw[Bo e λm j g=>by rw[Ag g<|lE h (sb.trans j) r]]|_=>rw[h.elim]
theorem SP.nx(g:Go γ H b j)(K:Cells Γ h b j)(r:CY a b f)(q:run Γ d k i [] a h):SP Γ γ H (kS (run Γ d k i) k) .next f j:=⟨.next,a,h,b,g,K,r,Y,q⟩
theorem NU(b:∀i,cT s i= .lf Pj):ST Γ d s:=λ{_ i _ _ _ _ _}h _ _=>by rw[b i]at h;rw[h.elim]
theorem aaL:∀{l d},(∀s,ST l d s)/\∀B,M8 l d B:=by
 intros l d;have ex:∀e,ST l d (.expr e):=λe Z Z Z Z Z Z Z h r K=>EP.K_ (Hj e h r K) λv M a c1 Hx g m n q=> .nx g m (r.go g) q;have asg:∀x e,ST l d (.asg x e):=λx e Z Z Z Z Z Z Z h r K=>EP.K_ (Hj e h r K) λv M a c1 Hx g m n q=> .nx g m ((r.go g).upd n) q;have FP:∀p e,ST l d (.FP p e):=λp e Z Z Z Z Z Z Z h r K=>EP.K_ (Hj e h r K) λv M a c1 Hx g m n q=>by rw[By (cy q n (r.go g)) λC2 N e1 Q q=>OT e1 (.nx g m Q q)]
 have Ka:∀o j e,ST l d (.Ka o j e):=λo j e Z Z Z Z Z Z Z h r K=>EP.K_ (Hj e h r K) λv M a c1 Hx D m n q=>EP.K_ (Hj o q (r.go D) m) λu H2 x c2 Tq P X ex q=>EP.K_ (Hj j q ((r.go D).go P) X) λw H3 y c3 lT R T L q=>by rw[Em (qn q T (R.cv (P.cv n)) (R.cv ex) L) λI c' e1 W J q=>OT e1 (.nx (((D.trans P).trans R).trans W) J ((((r.go D).go P).go R).go W) q)]
 have ifs:∀t b o,M8 l d b->M8 l d o->ST l d (.ifs t b o):=λt b o C V Z Z Z Z Z Z Z h r K=>EP.K_ (Hj t h r K) λv M a c1 Hx g m n q=>GU.out q n λz e q=>by rw[U e ?_];induction z using BG with|true=>rw[SP.wide g (C q (r.go g) m)]|false=>rw[SP.wide g (V q (r.go g) m)]
 have lu:∀p E F src b,ST l d (.Jj p E F src b):=λp E F src b Z Z Z Z Z Z Z h r K=>WV (GL (Sn (λe Z=>Hj e) h r K) λvs M⟨as,c1,Hx,D,m,n,z⟩=>SP.wide D (Sw (P:=λas Z=>Fl l d F as p E b _ c1 _) z.1 z.2 _ _ _ _ (r.go D) m n));have ret:∀e,ST l d (.ret e):=λe Z Z Z Z Z Z Z h r K=>EP.K_ (Hj e h r K) λv M a c1 Hx g m n q=>⟨.ret a,_,_,_,g,m,r.go g,(Aa v Y n),q⟩;have cons:∀s B,ST l d s->M8 l d B->M8 l d (s::B):=λs B O h2 Z Z Z Z Z Z Z h r K=>ZY (LB (O h r K) λf C2 I⟨af,N,c',BM,g,S,Q,e,q⟩=>by induction af using AF.casesOn with|next=>rw[U e (SP.wide g (h2 q Q S))]|cont=>rw[U e ⟨.cont,_,_,_,g,S,Q,Y,q⟩]|ret a=>rw[AY e λv e n=>U e ⟨.ret a,_,_,_,g,S,Q,(Aa v Y n),q⟩]);have nil:M8 l d []:=λh r K=> .nx Go.refl K r h;have A:ST l d .cont:=λh r K=>⟨.cont,_,_,_,Go.refl,K,r,Y,h⟩;rw[⟨λs=> @CS.rec (ST l d) (M8 l d) ex asg FP (λZ Z Z=>NU λZ=>Y) Ka ifs (λt b Z Z Z Z Z Z Z Z h r K=>h _ _ _ r K) (λp E F src b Z=>lu p E F src b) A ret (λZ Z Z=>NU λZ=>Y) (λZ Z Z Z Z=>NU λZ=>Y) nil cons s,λB=> @CS.rec_1 (ST l d) (M8 l d) ex asg FP (λZ Z Z=>NU λZ=>Y) Ka ifs (λt b Z Z Z Z Z Z Z Z h r K=>h _ _ _ r K) (λp E F src b Z=>lu p E F src b) A ret (λZ Z Z=>NU λZ=>Y) (λZ Z Z Z Z=>NU λZ=>Y) nil cons B⟩]
def Ts(Γ:VG)(d:AE)(a:O CS)(env:Env)(c:O AK)(k:Ks):Prop:=∀γ ρ H,CY env γ ρ->Cells Γ c γ H->(mB Γ d a ρ H).wk (SP Γ γ H k)
theorem Ts.of(h:run Γ d k (Nj b<|.lf Pn) [] env c):Ts Γ d b env c k:=λZ Z Z r K=>SP.mono (aaL.2 b h r K) λf e c q=>by induction f using AF.casesOn<;>exact q
def O7(n:AE)(a:A0):AL:= @A0.casesOn (λZ=>AL) a (λZ=>I) λm=>D1 m n
def G'(n:AE)(a:AV):AL:= @AV.casesOn (λZ=>AL) a (λZ=>I) (λm=>D1 m n) (λl=>l.all<|O7 n) I
inductive Dr(n:AE)(k:Kt)(c:O AK)(a:AV):Prop
 |mk(c0 ex:O AK)(hc:c=c0++ex)(hn:(Bm n c0.length&&G' c0.length a)=I)(q:k c0 a)
theorem tf{a:O AE}{n m i}(h:D1 m n=I)(e:a[m]?=V i):(a.take n)[m]?=V i:=by rw[U (V_<|B6 h) ?_,e]
theorem gL{a:O AE}(h:D1 m n=I)(e:a[m]?.map MV.ref=V v):(a.take n)[m]?.map MV.ref=V v:=Bo e λi f b=>map_eq (tf h f) b
theorem zh:∀{p}{n l}(h:l.all (O7 n)=I),∀{s},Av (Hq p) l=V s->Av (Hq<|p.take n) l=V s:=by intros p n l _ h;induction l with|nil=>rw[λe=>e]|cons a l g=>rw[λe=>C0 e λb r f q e=>Ef h λo j=>e▸bind_eq (by clear h;induction a using A0.casesOn with|p=>rw[f]|c m=>rw[gL o f]) (map_eq (g j q) Y)]
theorem m7(h:G' n a=I)(e:BU γ a=V v):BU (γ.take n) a=V v:=by induction a using AV.casesOn with|p=>rw[e]|c m=>rw[gL h e]|t l=>rw[Bo e λg f b=>map_eq (zh h f) b]|u=>rw[e]
theorem Go.take(g:Go HU Hs γ H)(o:HU.length<=n):Go HU Hs (γ.take n) H:=by rw[AY g.1 λj b f=>U b ?_,⟨(Aa (j.take<|n-HU.length) (U List.take_append<|U (PJ o) Y) λi m=>f i<|et m),g.2,g.3⟩]
def Rk(n:AE)(k:Kt):Ks:=λf Z c=> @AF.casesOn (λZ=>Prop) f (Dr n k c<|.p .none) BB<|Dr n k c
theorem aaF:WQ e.length a e=e++[a]:=by induction e with|nil=>rfl|cons b e f=>rw[A_ (b::·) f]
theorem qx:∀{l h},∀{n env ρ},Av (BU l) h=V n->CY env l ρ->env.length+h.length<=20->∃b,FH ρ (Pm env.length h.length) n=V b/\CY (env++h) l b:=by intros l h;induction h with|nil=>intro n env ρ e r _;(replace e:=AN e;subst e);rw[(Aa ρ Y<|by rw[U (Ba ..) r])]|cons a h j=>intro n env ρ e r f;rw[C0 e λv g p o e=>U e ?_];have m:slot env.length=V env.length:=AM (G2<|CQ (Mu<|FA _) f);have:=j (env:=env++[a]) (ρ:=upd ρ env.length v) o ((by unfold put;rw[U m aaF]:put env.length a env=env++[a])▸r.upd p) (by(rw[U Aq<|U (CR ..) ?_];rewrite [EL [a].length]);rw[f]);rw[Bc,Aq]at this;rw[this]
theorem Cv.FO{f}{o}{p}{k}(D:FF f=V o)(B:o.params=Pm 0 p.length)(l:Bm p.length 20=I)(h:Ts Γ d o.body p c<|Rk c.length k):Cv Γ (d+1) f p c k:=λγ L H K j=>by
 rw[AY (qx (env:=[]) (ρ:=λZ=>C) j (λx a q=>by unfold look at q;cases z:slot x<;>replace q:=z▸q<;>exact nn q)<|by rw[U LI<|U (Di ..)<|B6 l]) λρ A r=>?_];have m:∀{r:RS},r.wk (SP Γ γ H<|Rk c.length k)->r.out.wk (EP Γ γ H k):=λ{r}h=>by induction r using RS.casesOn with|ok N y J=>obtain⟨F,u,E,b,g,n,M,e,q⟩:=h;(have w:∀{a v},BU b a=V v->Dr c.length k E a->EP Γ γ H k v J:=λ{a v}j⟨c0,ex,Q,s,S⟩=>by subst Q;rw[⟨a,c0,b.take c0.length,g.take<|K.2▸B6 (B1 s).1,n.pre,m7 (B1 s).2 j,S⟩]);(induction F using AF.casesOn with|next=>rw[U e<|w (a:= .p .none) Y q]|cont=>rw[q.elim]|ret a=>rw[AY e λv e j=>U e<|w j q])|_=>rw[h]
 rw[Ew D<|Ew (a:=ρ) (by rw[U B A])<|m<|h _ _ _ r K]
theorem Cv.run{f b}{a:O AV}{k}(m:FF f=V b)(g:b.params=Pm 0 a.length)(j:Bm a.length 20=I)(h:Mine.Internal.run Γ d (Rk c.length k) (Nj b.body<|.lf Pn) [] a c):Cv Γ (d+1) f a c k:=Cv.FO m g j<|Ts.of h
inductive PQ{σ:Type}(P:σ->Prop)(A:σ->AV)(C:σ->O AK)(c:O AK)(a:AV):Prop
 |mk(s:σ)(hp:P s)(ha:a=A s)(hc:c=C s)
theorem PQ.ret{e:Type}{P A C}{n:AE}{a ex}(s:e)(b:P s)(g:c=C s++ex)(j:a=A s)(f:(Bm n (C s).length&&G' (C s).length (A s))=I):Dr n (PQ P A C) c a:=by rw[U j ⟨C s,ex,g,f,s,b,Y,Y⟩]
theorem Cv.mono{f g k j}(h:Cv Γ d f g c k)(q:∀c a,k c a->j c a):Cv Γ d f g c j:=λγ b H K e=>EP.mono (h γ b H K e) q
theorem Cv.pq{b}{P:b->Prop}{A C f}{a:O AV}{k}(h:Cv Γ d f a c<|PQ P A C)(q:∀s,P s->k (C s) (A s)):Cv Γ d f a c k:=h.mono λ_ _⟨s,g,j,l⟩=>by subst j l;rw[q s g]
end
end
section
/-! a callee's cells among the caller's -/
def rn(a:O G)(m j:G):G:= @C4 G (λZ=>G) a[j]? (m+(j-a.length)) λn=>n
def Wx(b:O G)(m:G)(a:A0):A0:= @A0.casesOn (λZ=>A0) a .p λj=> .c<|rn b m j
def Q2(b:O G)(m:G)(a:AV):AV:= @AV.casesOn (λZ=>AV) a .p (λj=> .c<|rn b m j) (λl=> .t<|l.map<|Wx b m) .u
def MF:O AK->O G->O AK->O AK|c,n::a,o::os=>MF (c.set n o) a os|c,_,_=>c
def back(c:O AK)(a:O G)(b:O AK):O AK:=MF c a b++b.drop a.length
theorem qc:∀{c a},(MF c f a).length=c.length:=by induction f with|nil=>rw[λ{c a}=>by induction a using An<;>rfl]|cons n f b=>intro c a;induction a using An with|nil=>rfl|cons o d=>rw[b.trans Nw]
theorem eY:∀{c a},n∉f->(MF c f a)[n]?=c[n]?:=by induction f with|nil=>rw[λ{c a}_=>by induction a using An<;>rfl]|cons m f b=>intro c a h;induction a using An with|nil=>rfl|cons o d=>rw[(b λq=>h<|.tail _ q).trans<|Q_ λq=>h<|CZ.mpr<|.inl q.symm]
theorem nS{a:O G}{j n:G}{o:AK}:∀{c e:O AK},a.Nodup->a[j]?=V n->e[j]?=V o->n<c.length->(MF c a e)[n]?=V o:=by induction a generalizing j with|nil=>rw[λZ h=>nn h]|cons m a k=>intro c e d f b g;have d:=DF.mp d;induction e using An with|nil=>rw[nn b]|cons q p=>induction j using CV with|zero=>(replace f:=AN f;subst f);(replace b:=AN b;subst b);rw[(eY d.1).trans<|RY g]|succ j=>rw[k d.2 f b<|by rw[U Nw g]]
section
theorem I5{l:O b}(h:l[n]?=V x):n<l.length:=(DP.mp h).1
theorem N1{b:Type}{l r:O b}{n:G}{x:b}(h:l[n]?=V x):(l++r)[n]?=V x:=(Er<|I5 h).trans h
theorem Vo{b:Type}{l:O b}{x:b}(h:x∈l):∃n:G,l[n]?=V x:=List.mem_iff_getElem?.mp h
theorem fH:∀{l b c a m}{j i:G}(f:Av (λn=>l[n]?) a=V b)(d:l.length=m)(h:(b++c)[j]?=V i),(l++c)[rn a m j]?=V i:=by intros l b c a m j i _ f d h;have g:=JE f;unfold rn;cases e:a[j]? with|some n=>rw[AY (KO f e) λp o k=>?_];rw[N1 o]at h;rw[N1<|k.trans h]|none=>rw[DO<|g.symm▸(ND.mp e:a.length<=j),g]at h;rw[((U (DO<|d▸BJ _ _)<|U d<|U (Ma ..) ?_):(l++c)[m+(j-a.length)]?=_),h]
theorem r9:∀{c d f h m}{l:O A0}(k:Av (λn=>c[n]?) h=V d)(g:c.length=m),∀{p},Av (Hq<|d++f) l=V p->Av (Hq<|c++f) (l.map<|Wx h m)=V p:=by intros c d f h m l _ k g;induction l with|nil=>rw[λe=>e]|cons a l q=>rw[λe=>C0 e λb w o r e=>e▸bind_eq (by induction a using A0.casesOn with|p=>rw[o]|c j=>rw[Bo o λi v u=>map_eq (fH k g v) u]) (map_eq (q r) Y)]
theorem w2{c:O G}(g:Av (λn=>c[n]?) o=V De)(f:c.length=m)(h:BU (De++p) a=V v):BU (c++p) (Q2 o m a)=V v:=by induction a using AV.casesOn with|p=>rw[h]|c j=>rw[Bo h λi d b=>map_eq (fH g f d) b]|t l=>rw[Bo h λk d b=>map_eq (r9 g f d) b]|u=>rw[nn h]
theorem pH{f:O G}{a:O G}(c:a.Nodup)(m:f.Nodup):∀{De:O G},Av (λn=>f[n]?) a=V De->De.Nodup:=by induction a with|nil=>intro De h;obtain rfl:=AN h;rw[FC]|cons n a o=>intro De h;have c:=DF.mp c;rw[C0 h λi is g d e=>U e<|DF.mpr ⟨λq=>xE (Vo q) λj e=>?_,o c.2 d⟩];obtain⟨k,l⟩:∃k,a[j]?=V k:=⟨_,Cm<|JE d▸I5 e⟩;rw[AY (KO d l) λb e1 p=>?_];obtain rfl:=AN<|e.symm.trans e1;rw[c.1<|(Th (I5 g) m).mp (g.trans p.symm)▸E7 l]
end
section
theorem abh{p}{c g}{a b}{H}(K:Cells p c b H)(q:a.Nodup)(d:Av (λ(n:G)=>c[n]?) a=V g):∃De,Av (λn=>b[n]?) a=V De/\Cells p g De H/\∀i∈De,i∈b:=by
 have:∃De,Av (λn=>b[n]?) a=V De/\(∀i∈De,i∈b):=by clear q;induction a generalizing g with|nil=>rw[(Aa ([]) Y λZ m=>(by cases m))]|cons n a t=>rw[C0 d λo os f h Z=>AY (K.at f) λi e1 Z=>AY (t h) λDe k l=>(Aa (i::De) (bind_eq e1<|map_eq k Y) λj m=>(CZ.mp m).elim (λe=>e▸E7 e1)<|l j)]
 rw[AY this λDe e r=>(DB De e ⟨pH q K.1 e,(JE e).trans (JE d).symm,λj o i f h=>?_,λi o z=>⟨(K.4 i o z).1,λm=>(K.4 i o z).2<|r i m⟩⟩ r)];obtain⟨n,s⟩:∃n,a[j]?=V n:=⟨_,Cm<|JE d▸I5 f⟩;rw[AY (KO d s) λu e1 k=>AY (KO e s) λv l e4=>?_];obtain rfl:=AN<|f.symm.trans e1;obtain rfl:=AN<|h.symm.trans l;rw[K.3 _ _ _ k e4]
theorem sS:∀{t}{c Kb:O AK}{k p De r:O G}{H u:MH}(K:Cells t c p H)(A:k.Nodup)(v:Av (λn=>p[n]?) k=V De)(g:Go De H (De++r) u)(Wy:∀i∈r,H.length<=i)(l:Cells t Kb (De++r) u),Cells t (back c k Kb) (p++r) u:=by
 intros t c Kb k p De r H u _ K A v g Wy l;have w:=JE v;have len:(MF c k Kb).length=p.length:=qc.trans K.2.symm;rw[⟨Kh.mpr<|BX K.1 (Kh.mp l.1).2.1 λa D b E=>DZ<|CQ (K.lt D)<|Wy b E,?_,λn o i d f=>?_,λi o z=>⟨(l.4 i o z).1,λm=>(Cj.mp m).elim (K.4 i o z).2 λm=>Aj (DH (K.4 i o z).1)<|E1.mpr<|Wy i m⟩⟩];·have:=l.2;(replace this:=Aq▸this;replace this:=w▸this);unfold back;rw[U Aq<|U Aq<|U len<|U GS<|Ag this<|U (Ma ..) Y]
 intros _ n o i _ d f;·unfold back at d;rw[Cz (PL n p.length) (λh=>?_) λh=>?_];(·replace d:=(Er<|len.symm▸h)▸d;replace f:=(Er h)▸f;rw[Ao (λm:n∈k=>?_) λm=>?_];(·rw[xE (Vo m) λj e1=>AY (KO v e1) λF x y=>?_];obtain rfl:=AN<|f.symm.trans y;have e4:=N1 (r:=r) x;have s:=l.2▸I5 e4;obtain rfl:=AN<|(nS A e1 (Cm s)<|K.2▸h)▸d;rw[l.3 _ _ _ (Cm s) e4]);·rw[g.3 _ _ (K.3 _ _ _ ((eY m)▸d) f) λq=>m<|xE (Vo q) λj e=>?_];obtain⟨B,s⟩:∃B,k[j]?=V B:=⟨_,Cm<|w▸I5 e⟩;rw[AY (KO v s) λF x y=>?_];obtain rfl:=AN<|e.symm.trans x;rw[(Th (I5 f) K.1).mp (f.trans y.symm)▸E7 s]);·(replace d:=(DO<|len.symm▸h)▸d;replace d:=len▸d;replace d:=(Vb)▸d);rw[l.3 _ _ _ d<|U (DO<|w.symm▸BJ _ _)<|U w<|U (Ma ..) ?_,((DO h)▸f)]
theorem Cv.frame(ns:O G)(r:O AV)(M:ns.Nodup)(S:Av (λ(n:G)=>c[n]?) ns=V cs)(U:as=r.map (Q2 ns c.length))(T:r.all (G' ns.length)=I)(h:Cv Γ d f r cs u)(Q:∀Kb a,u Kb a->k (back c ns Kb) (Q2 ns c.length a)):Cv Γ d f as c k:=λγ w H K N=>by
 subst U;rw[Cp (abh K M S) λDe F X P=>?_];have W:Av (BU De) r=V w:=by clear h;revert w;induction r with|nil=>rw[λ_ e=>e]|cons a as E=>rw[λw N=>Ef T λB s=>C0 N λv w y p e=>e▸bind_eq ?_ (map_eq (E s _ p) A7)];(have A:∀{j:G}{v:MV},D1 j ns.length=I->γ[rn ns c.length j]?.map MV.ref=V v->De[j]?.map MV.ref=V v:=λ{j v}h e=>by have R:=O2 h;have C:ns[j]?=V ns[j]:=Cm R;unfold rn at e;replace e:=C▸e;rw[AY (KO F C) λi J t=>map_eq J<|AN<|(A_ (IT MV.ref) t).symm.trans e]);(have x:∀{l:O A0},l.all (O7 ns.length)=I->∀{w:O MV},Av (Hq γ) (l.map<|Wx ns c.length)=V w->Av (Hq De) l=V w:=λ{l}=>by induction l with|nil=>rw[λ_ _ e=>e]|cons a l E=>rw[λh _ e=>Ef h λB s=>C0 e λb Y y p e=>e▸bind_eq (by induction a using A0.casesOn with|p=>rw[y]|c j=>rw[A B y]) (map_eq (E s p) A7)]);clear T N;induction a using AV.casesOn with|p=>rw[y]|c j=>rw[A B y]|t l=>rw[Bo y λw C J=>map_eq (x B C) J]|u=>rw[nn y]
 rw[GL (h De w H X W) λv Z⟨a,Kb,BM,g,K',e,q⟩=>?_];(rw[AY (id g.1) λδ D z=>?_];subst D);rw[⟨_,_,γ++δ,⟨(Aa δ A7 z),g.2,λi o e n=>g.3 i o e λm=>n<|P i m⟩,sS K M F g z K',w2 F K.2 e,Q Kb a q⟩]
theorem Cv.fr(e:O G)(b:O AV)(g:e.Nodup)(i:Av (λ(n:G)=>c[n]?) e=V m)(l:p=b.map (Q2 e c.length))(o:b.all (G' e.length)=I)(h:Cv q d f b m<|PQ P A a)(j:∀s,P s->k (back c e<|a s) (Q2 e c.length<|A s)):Cv q d f p c k:=Cv.frame e b g i l o h λ_ _⟨s,r,l,i⟩=>by subst l i;rw[j s r]
end
end
section
inductive Arr{σ:Type}(e:σ->Env)(cs:σ->O AK)(G:σ->Prop)(env:Env)(c:O AK):Prop
 |mk(s:σ)(ee:Env)(ex:O AK)(g:G s)(he:env=e s++ee)(hc:c=cs s++ex)
def Gb{a:Type}(n:G)(e:a->Env)(b:a->O AK):Prop:=∀s,(Bm n (b s).length&&(e s).all (G' (b s).length))=I
inductive At{σ:Type}(Γ:VG)(HU:O AE)(Hs:MH)(e:σ->Env)(cs:σ->O AK)(G:σ->Prop)(ρ:Loc)(H:MH):Prop
 |mk(s:σ)(γ:O AE)(g:Go HU Hs γ H)(K:Cells Γ (cs s) γ H)(r:CY (e s) γ ρ)(q:G s)
section
variable{σ:Type}(e:σ->Env)(cs:σ->AB AK)(G:σ->Prop)(k:Ks)
def Wf:Ks:=λf b c=> @AF.casesOn (λZ=>Prop) f (Arr e cs G b c) (Arr e cs G b c) λa=>k (.ret a) b c
def UJ:Ks:=λf b c=> @AF.casesOn (λZ=>Prop) f (Arr e cs G b c) (k .cont b c) λa=>k (.ret a) b c
end
section
theorem yD:∀{x},NG f x=V a->NG (f++g) x=V a/\a∈f:=by induction f with|nil=>rw[λh=>nn h]|cons b f c=>intro x h;induction x using CV with|zero=>obtain rfl:=b7 h;rw[⟨h,.head _⟩]|succ x=>rw[(c (x:=x) h).imp id<|.tail _]
theorem CY.pre(r:CY (b++f) i k)(h:b.all (G' m)=I):CY b (i.take m) k:=λx a l=>by
 have:look (b++f) x=V a/\a∈b:=by unfold look at l⊢;cases q:slot x with|none=>rw[nn<|q▸l]|some j=>replace l:=q▸l;rw[yD l]
 rw[AY (r x a this.1) λv o g=>(Aa v (m7 (Eo.mp h _ this.2) o) g)]
theorem At.of(b:HU.length<=n)(ok:Gb n e f)(g:Go HU k i H)(K:Cells l c i H)(r:CY j i m)(h:Arr e f a j c):At l HU k e f a m H:=by obtain⟨s,d,ex,q,rfl,rfl⟩:=h;have o:=B1 (ok s);rw[⟨s,i.take (f s).length,g.take<|L b<|B6 o.1,K.pre,r.pre o.2,q⟩]
theorem Z2 : mB i d (a ++ b) h H = (mB i d a h H).seq fun h H => mB i d b h H := by
 induction a generalizing h H with
 | nil => rfl
 | cons s a j =>
   rw [(?_ : (mS _ _ _ s _ h H).seq _ = ((mS _ _ _ s _ h H).seq _).seq _)]
   cases mS tb.P (BR tb.P FF i.N d) i.N s i.rz h H with
   | ok f g m => induction f using CX.casesOn <;> first | rw [j] | rfl
   | _ => rfl
theorem Ts.cut(n:G)(e:σ->Env)(i:σ->O AK)(h:σ->Prop)(u:Gb c.length e i)(y:Ts N d (b.take n) l c<|UJ e i h k)(w:∀s,h s->Ts N d (b.drop n) (e s) (i s) k):Ts N d b l c k:=λt F H r K=>by rw[Ag (Kz n b)<|U Z2<|ZY<|LB (y _ _ _ r K) λf j D⟨S,Q,W,BM,g,x,E,z,q⟩=>?_];induction S using AF.casesOn with|next=>rw[U z ?_];obtain⟨s,m,A,C,o,p⟩:=At.of (C8 K.2) u g x E q;rw[SP.wide A<|w s p _ _ _ o C]|cont=>rw[U z ⟨.cont,_,_,_,g,x,E,Y,q⟩]|ret a=>rw[AY z λv z B=>U z ⟨.ret a,_,_,_,g,x,E,(Aa v Y B),q⟩]
def Zn(A B:Env->O AK->Prop):Ks:=λf b c=> @AF.casesOn (λZ=>Prop) f BB BB λa=>GU a λz=>Ap z (A b c)<|B b c
theorem Ts.ifs(h:run l d (Zn (λi c=>Ts l d (b++j) i c k) λi c=>Ts l d (o++j) i c k) (cI t<|.lf Mq) [] i c):Ts l d (.ifs t b o::j) i c k:=λx n H r K=>by
 rw[ZY<|EP.K_ (Hj t h r K) λv p a A w g B y q=>GU.out q y λz e q=>U e ?_];have m:∀{b},Ts l d (b++j) i A k->(mB l d b n p).wk λs n H=>match s with| .next=>(mB l d j n H).wk (SP l x _ k)|s=>SP l x _ k s n H:=λ{b}h=>by have:=SP.wide g (h _ _ _ (r.go g) B);rw[Z2]at this;revert this;cases mB l d b n p with|ok f u C=>induction f using CX.casesOn<;>exactλh=>h|_=>rw[λh=>h]
 induction z using BG with|true=>rw[m q]|false=>rw[m q]
theorem dj(o:Gb n e A)(p:HU.length<=n)(g:Go HU B D H)(K:Cells l c D H)(r:CY s D N)(h:Ts l d b s c<|Wf e A i k):(mB l d b N H).wk λf j m=>match f with| .ret v=>SP l HU B k (.ret v) j m|_=>At l HU B e A i j m:=by rw[LB (h _ _ _ r K) λf j m⟨Q,E,S,BM,w,x,y,z,q⟩=>?_];induction Q using AF.casesOn with|next=>rw[U z<|At.of p o (g.trans w) x y q]|cont=>rw[U z<|At.of p o (g.trans w) x y q]|ret a=>rw[AY z λv z u=>U z ⟨.ret a,_,_,_,g.trans w,x,y,(Aa v Y u),q⟩]
theorem Wl.mk(i:G->σ->Prop)(C:Gb c.length e cs)(A:m<2000000)(W:Arr e cs (i m) n c)(p:∀m s,i m s->run l d (Zn (λn c=>Ts l d b n c<|Wf e cs (λs=>∃x,x<m/\i x s) k)<|k .next) (cI t<|.lf Mq) [] (e s) (cs s)):Wl l d t b n c k:=λS R H r K=>by
 have y:∀j m g B,m<j->At l S H e cs (i m) g B->(Nq (λR H=>(mE tb.P (oc l d) l.N t R H).bind Cw) (mB l d b) j g B).wk (SP l S H k):=by intro j;induction j with|zero=>rw[λm R H h=>Aj h<|Sv _]|succ j M=>intro m g B A⟨s,L,E,O,w,q⟩;rw[WV<|EP.then (Hj t (p m s q) w O) λv Q a P J u F N q=>GU.out q N λz e q=>U e ?_];induction z using BG with|true=>rw[WU<|LB (dj C (C8 K.2) (E.trans u) F (w.go u) q) λf o I h=>?_];have D:At l S H _ cs (λs=>∃x,x<m/\i x s) o I->(Nq (λR H=>(mE tb.P (oc l d) l.N t R H).bind Cw) (mB l d b) j o I).wk (SP l S H k):=λ⟨s,lT,Z,K3,r3,x,h1,q3⟩=>M x _ _ (CQ h1<|JJ A) ⟨s,lT,Z,K3,r3,q3⟩;(induction f using CX.casesOn with|ret v=>rw[h]|next=>rw[D h]|cont=>rw[D h])|false=>rw[⟨.next,_,_,_,E.trans u,F,w.go u,Y,q⟩]
 rw[y _ m R H (CQ A l.hN)<|At.of (C8 K.2) C Go.refl K r W]
end
/-! what a loop goes over -/
def JV(l:O MV):O MV:=l.mapIdx λj v=> .tup [.int j,v]
inductive NT(N:G)(uq:AL):Src->O MV->(MH->Prop)->Prop
 |seq(l:O MV):NT N uq (.seq l) l λZ=>Bg
 |lst(i:G)(l:O MV)(hl:l.length<N):NT N uq (.lst i) l λH=>H[i]?.bind AK.Cc=V l
 |DU(i:G)(l:O MV)(hl:l.length<N)(hu:uq=I):NT N uq (.DU i) (JV l) λH=>H[i]?.bind AK.Cc=V l
inductive Sc{σ:Type}(Γ:VG)(cs:σ->O AK)(uq:AL):IK->O AV->O MV->Prop
 |tup(l:O MV):Sc Γ cs uq .val [.p<|.tup l] l
 |Hb(n:J)(h: -16777216<=n/\n<=16777216):Sc Γ cs uq .range [.p<|.int n]<|G1 0 n
 |Kd(m:G)(l:O MV)(hl:l.length<2000000)(h:∀s,(cs s)[m]?.bind AK.Cc=V l):Sc Γ cs uq .val [.c m] l
 |fix(i:G)(fz:AL)(l:O MV)(hl:l.length<2000000)(h:Γ.S i=V (.list fz l)):Sc Γ cs uq .val [.p<|.ref i] l
 |lJ(m:G)(l:O MV)(hl:l.length<2000000)(hu:uq=I)(h:∀s,(cs s)[m]?.bind AK.Cc=V l):Sc Γ cs uq (.enum ()) [.c m]<|JV l
section
theorem Sc.src{N}{d}{k}{H}{c}{t}{D x l}(F:Sc d c t D x l){M}(s0:N)(B:Cells d (c s0) (k.take (c s0).length) H)(L:(c s0).length<=k.length)(f:Av (BU k) x=V M):∃a P,EU H D M=V a/\NT d.N t a l P/\∀s b j,Go (k.take (c s0).length) H b j->Cells d (c s) b j->P j:=by
 have o:∀{m l},(∀s,(c s)[m]?.bind AK.Cc=V l)->∀{u},BU k (.c m)=V u->∃i,u= .ref i/\∀s b j,Go (k.take (c s0).length) H b j->Cells d (c s) b j->j[i]?.bind AK.Cc=V l:=λ{m l}h u e=>by rw[Bo e λi r J=>(Aa i J.symm λs b j g K=>Ge (H:=c s) (h s) λE q=>F4<|K.3 _ _ _ q<|g.at<|Ge (H:=c s0) (h s0) λE q=>by rw[U (V_<|I5 q) ?_,r])]
 induction F using Sc.casesOn with|tup l=>(replace f:=AN f;subst f);rw[(DI _ _ Y (.seq l) λZ Z Z Z Z=>B9)]|Hb n h=>(replace f:=AN f;subst f);rw[(DI _ _ (AM h) (.seq _) λZ Z Z Z Z=>B9)]|Kd m l p h=>rw[AY (Q6 f) λv A r=>U A ?_,AY (o h r) λi z q=>U z ?_,(DI _ _ (map_eq (q s0 _ _ Go.refl B) Y) (.lst i l<|CQ p d.hN) q)]|fix i E l p h=>(replace f:=AN f;subst f);rw[(DI _ _ (map_eq (F4 (B.4 _ _ h).1) Y) (.lst i l<|CQ p d.hN) λs b j Z K=>F4 (K.4 _ _ h).1)]|lJ m l p I h=>rw[AY (Q6 f) λv y r=>U y ?_,AY (o h r) λi w q=>U w ?_,(DI _ _ (map_eq (q s0 _ _ Go.refl B) Y) (.DU i l (CQ p d.hN) I) q)]
theorem XU{l b}{en:AL}(h:b=if en then JV l else l):b.length=l.length/\∀(j:G)v,l[j]?=V v->b[j]?=V (if en then .tup [.int j,v]else v):=by subst h;induction en using BG with|false=>rw[⟨Y,λZ Z e=>e⟩]|true=>rw[⟨fS,λj v e=>List.getElem?_mapIdx.trans<|map_eq e Y⟩]
theorem ae{e}{c}{k}{b}{s}{i}{l g:O MV}(p:g.length=l.length/\∀(j:G)v,l[j]?=V v->g[j]?=V (if s then .tup [.int j,v]else v))(I:O MV->Loc->MH->Prop)(D:∀d a H,I d a H->H[i]?.bind AK.Cc=V l)(o:∀v d a H,I (v::d) a H->∃m,DR a k e v=V m/\(b m H).wk λf a H=>match f with| .ret v=>c (.ret v) a H|_=>I d a H)(u:∀a H,I [] a H->c .next a H){n}:∀{j}{a}{H},I (g.drop j) a H->l.length<n+j->j<=l.length->(F_ k e b s i n j a H).wk c:=by induction n with|zero=>rw[λZ r B=>Aj (CQ r<|C8<|Di _)<|E1.mpr B]|succ n C=>intro j a H q r B;rw[OT (D _ _ _ q) ?_];cases z:l[j]? with|none=>rw[J'<|p.1.symm▸ND.mp z]at q;rw[u _ _ q]|some v=>rw[xE (DP.mp<|p.2 j v z) λA E=>?_];rw[I8 A,E]at q;rw[AY (o _ _ _ _ q) λm F w=>?_];have y:∀{a H},I (g.drop<|j+1) a H->(F_ k e b s i n (j+1) a H).wk c:=λq=>C q (by rw[FZ,<-CR]at*;rw[r])<|p.1▸A;rw[OT F<|WU<|LB w λf a H h=>?_];induction f using CX.casesOn with|ret v=>rw[h]|cont=>rw[y h]|next=>rw[y h]
theorem uG{N:G}{e:AL}{j:CX->Loc->MH->Prop}{k:O G}{b:Loc->MH->RS}{u m}{P:MH->Prop}(A:NT N e u m P)(a:O MV->Loc->MH->Prop)(z:∀d c H,a d c H->P H)(g:∀v d c H,a (v::d) c H->∃o,DR c k e v=V o/\(b o H).wk λf c H=>match f with| .ret v=>j (.ret v) c H|_=>a d c H)(p:∀c H,a [] c H->j .next c H)(q:a m c H):(forR N k e b u c H).wk j:=by cases A with|seq l=>rw[(?_:(Hv k e b m c H).wk j)];(induction m generalizing c H with|nil=>rw[p _ _ q]|cons v d y=>rw[AY (g _ _ _ _ q) λo C w=>OT C<|WU<|LB w λf c H h=>?_];induction f using CX.casesOn with|ret v=>rw[h]|cont=>rw[y h]|next=>rw[y h])|lst i l r=>rw[ae (XU (en:=T) Y) a z g p (j:=0) q r<|CJ _]|DU i l r B=>subst B;rw[ae (XU (en:=I) Y) a z g p (j:=0) q r<|CJ _]
theorem ua(d:NT N s K m P)(J:O MV->O MV->MH->Prop)(B:∀k h H,J k h H->P H)(w:∀v k h H,J (v::k) h H->(f v H).wk λo u=>J k (h++o.toList) u)(q:J m h H):(U8 N f s K H).wk λp u=>J [] (h++p) u:=by
 have A:∀{h:O MV}{H:MH},J [] h H->J [] (h++[]) H:=λq=>by rw[U (Ba ..) q]
 have L:∀{h k:O MV}{r:R (AO MV)}{g:MH->R (O MV)},(r.wk λo u=>J k (h++o.toList) u)->(∀{h H},J k h H->(g H).wk λp u=>J [] (h++p) u)->(r.bind λo H=>(g H).bind λp H=> .ok (o.toList++p) H).wk λp u=>J [] (h++p) u:=λy C=>JC (GL y λo e q=>JC (GL (C q) λp c q=>by rw[((Ag (Bc ..) ?_):J [] (_++(o.toList++p)) c),q]));have a:∀{en:AL}{i:G}{l:O MV},m=(if en then JV l else l)->(∀k h H,J k h H->H[i]?.bind AK.Cc=V l)->∀{n j:G}{h:O MV}{H:MH},J (m.drop j) h H->l.length<n+j->j<=l.length->(GZ f en i n j H).wk λp u=>J [] (h++p) u:=λ{en i l}S B n=>by have E:=XU S;induction n with|zero=>intro _ _ _ _ y C;rw[Aj (CQ y (C8 (Di _))) (E1.mpr C)]|succ n D=>intro j h H q y C;rw[Ew (B _ _ _ q) ?_];cases z:l[j]? with|none=>rw[J' (E.1.symm▸ND.mp z)]at q;rw[A q]|some v=>rw[xE (DP.mp (E.2 j v z)) λM b=>?_];rw[I8 M,b]at q;rw[L (w _ _ _ _ q) λq=>D q (by rw[FZ,<-CR]at*;rw[y]) (E.1▸M)]
 cases d with|seq l=>clear a;rw[(?_:(NI f m H).wk _)];(induction m generalizing h H with|nil=>rw[A q]|cons v k D=>rw[L (w _ _ _ _ q) λq=>D q])|lst i l F=>rw[a (en:=T) Y B (j:=0) q F (CJ _)]|DU i l F Q=>rw[U Q (a (en:=I) Y B (j:=0) q F (CJ _))]
def PB(b:O G)(c:AL)(v:MV)(a:Env)(k:Env->Prop):Prop:= @BG (λZ=>Prop) c (match b with|[x]=>k (put x (.p v) a)|_=>BB)<|Uk b (.p v) a k
theorem fE(h:PB i j v a P)(r:CY a k l):∃g f,DR l i j v=V g/\CY f k g/\P f:=by induction j using BG with|true=>rw[cy (show Uk i (.p v) a P from h) (γ:=k) Y r]|false=>rcases i with _|⟨x,_|⟨y,i⟩⟩;rw[h.elim,(DI _ _ Y (r.upd Y) h),h.elim]
theorem Fl.mk{p t b l}(G:O MV->σ->Prop)(sc:Sc j cs u p t l)(ok:Gb c.length e cs)(w:Arr e cs (G l) f c)(step:∀v a s,G (v::a) s->PB x u v (e s) λf=>Ts j d b f (cs s)<|Wf e cs (G a) k)(fin:∀s,G [] s->k .next (e s) (cs s)):Fl j d p t x u b f c k:=λi N a H r K y=>by obtain⟨s0,z,ex,A,rfl,rfl⟩:=w;have B:i.take (cs s0).length=i:=PJ (K.2▸(B6 (B1<|ok s0).1));rw[By (sc.src s0 K.pre (by rw[U K.2<|U Aq<|BJ _ _]:(cs s0).length<=i.length) y) λQ P e1 D E=>?_,OT e1<|uG D (λa=>At j i H e cs<|G a) (λa C2 m⟨s,BM,g,h,_,_⟩=>(B▸E) s BM m g h) (λv a C2 m⟨s,BM,n,h,o,q⟩=>By (fE (step v a s q) o) λc6 SI F M q=>(Aa c6 F<|dj ok (C8 K.2) n h M q)) (λC2 m⟨s,BM,n,h,o,q⟩=>⟨.next,_,_,_,n,h,o,Y,fin s q⟩)<|At.of (C8 K.2) ok Go.refl K r ⟨s0,z,ex,A,Y,Y⟩]
def yj{e:Type}(g:e->O AK)(G:O MV->e->Prop)(b:O MV):Ks:=λf d c=> @AF.casesOn (λZ=>Prop) f (Arr (λZ=>[]) g (G b) d c) BB λa=>F2 a λw=>Arr (λZ=>[]) g (G<|b++[w]) d c
theorem uL(h:Bm g.length 20=I)(r:CY g i j):CY g i<|cut j:=λx a l=>(r x a l).imp λv q=>⟨q.1,(AM<|by unfold look at l;unfold slot at l;rw[Ao (λz:D1 x 20=I=>?_) λz=>?_,CQ (B6 z)<|B6 Y];·replace l:=(AS z)▸l;rw[Ao (λw:Bm 1000 x=I=>?_) λw=>?_];(·replace l:=(AM w)▸l;(have:∀{e n},e.length<=n->NG e n=C:=λ{e}=>by induction e with|nil=>rw[λZ=>Y]|cons b e f=>intro n h;induction n using CV with|zero=>rw[Aj h<|Z9 _]|succ n=>rw[f<|Lh h]);rw[nn<|(this ?_).symm.trans l,L (B6 h)<|Nat.sub_le_sub_right (B6 w) 980]);·replace l:=(AS w)▸l;rw[nn l]).trans q.2⟩
theorem Cl.mk{kd as elt HC l k}(cs:σ->AB AK)(G:AB MV->AB MV->σ->Prop)(sc:Sc Γ cs uq kd as l)(ok:Gb c.length (λZ=>env) cs)(hl:Bm env.length 20=AG)(h0:Arr (λZ=>[]) cs (G l []) env c)(step:∀v vs acc s,G (v::vs) acc s->PB xs uq v env λenv=>run Γ d (yj cs (G vs) acc) (cB AG HC<|.br T5 (cI elt<|.lf Mq)<|.lf Pn) [] env<|cs s)(fin:∀acc s,G [] acc s->JT (cs s) acc k):Cl Γ d kd as elt xs uq HC env c k:=λγ ρ vs H r K ea=>by
 have O7:Gb c.length (λZ=>[]) cs:=λs=>DN.mpr ⟨(B1<|ok s).1,A7⟩;have ac:∀{Q env c'},Arr (λZ=>[]) cs Q env c'->Arr (λZ=>[]) cs Q [] c':=λ⟨s,_,ex,q,_,h⟩=>⟨s,[],ex,q,A7,h⟩;have no:∀{γ ρ},CY [] γ ρ:=λx a q=>by unfold look at q;cases z:slot x<;>replace q:=z▸q<;>exact nn q
 have ni:=At.of (C8 K.2) O7 Go.refl K (no (ρ:=ρ)) (ac h0);obtain⟨s0,ee,ex,q0,_,rfl⟩:=h0;have ht:γ.take (cs s0).length=γ:=PJ (K.2▸B6 (B1<|ok s0).1);rw[By (sc.src s0 K.pre (by rw[A9 K.2<|A9 Aq<|BJ _ _]:(cs s0).length<=γ.length) ea) λsr P e1 so hP=>?_,Ew e1<|JC<|GL (ua so (λvs acc H'=>At Γ γ H (λZ=>[]) cs (G vs acc) ρ H') (λvs acc H'⟨s,BM,g,K',_,_⟩=>(ht▸hP) s BM H' g K') (λv vs acc H'⟨s,BM,g',K',_,q⟩=>By (fE (step v vs acc s q)<|uL hl<|r.go g') λc6 SI e3 r2 q=>?_) ni) λrs H'⟨s,BM,g',K',_,q⟩=>EP.wide g'<|LZ K'<|fin _ s q,yd<|Ew e3<|JC<|GL (aK (λe Z=>Hj e) q r2 K') λb H1⟨a,c1,Hx,g1,K1,ea,q⟩=>GU.out (P:=λz=>Ap z (run Γ d _ (cI elt<|.lf Mq) [] SI c1)<|run Γ d _ (.lf Pn) [] SI c1) q ea λz e q=>?_];obtain rfl:b=z:=A_ (λv=> @MV.casesOn (λZ=>AL) v AH (λb=>b) (λZ=>AH) (λZ=>AH) (λZ=>AH) λZ=>AH) e;have arr:∀{Q c2 Tq H2},Go Hx H1 Tq H2->Cells Γ c2 Tq H2->Arr (λZ=>[]) cs Q SI c2->At Γ γ H (λZ=>[]) cs Q ρ H2:=λg2 K2 q=>At.of (C8 K.2) O7 ((g'.trans g1).trans g2) K2 no<|ac q;induction b using BG with|true=>rw[EP.then (Hj elt q (r2.go g1) K1) λv H2 a c2 Tq g2 K2 ea q=>F2.out q ea λe q=>arr g2 K2 q]|false=>rw[((A9 (Ba ..) ?_):At _ _ _ _ _ (G vs<|acc++[]) _ _),(arr Go.refl K1 q)]
end
end
section
/-! the same with what follows unknown but for what it takes -/
section
variable{σ:Type}{Γ:VG}{d:AE}{env:Env}{c:AB AK}{k:Ks}{e:σ->Env}{cs:σ->AB AK}{G:σ->Prop}{n:AE}
theorem s_{K:Ks}{f:AF}{a env':Env}{c c':O AK}(b:a=env')(g:c=c')(h:K f env' c'):K f a c:=by subst b g;rw[h]
theorem PK{K:Ks}{f:AF}{a:Env}{c g:O AK}(b:c=g)(h:K f a g):K f a c:=by rw[U b h]
theorem Cv.runN{P:σ->Prop}{C:σ->O AK}{f:AE}{g:Fn}{i:O AV}(o:FF f=V g)(b:g.params=Pm 0 i.length)(m:Bm i.length 20=I)(j:∀s,P s->Bm c.length (C s).length=I)(h:∀K:Ks,(∀(s:σ)(a:Env)(ex:O AK),P s->K .next a (C s++ex))->(∀(s:σ)(a:Env)(ex:O AK),P s->K (.ret<|.p .none) a (C s++ex))->Ts Γ d g.body i c K):Cv Γ (d+1) f i c<|PQ P (λZ=> .p .none) C:=Cv.FO o b m<|h _ (λs a ex b=>PQ.ret s b Y Y<|DN.mpr ⟨j s b,Y⟩) λs Z ex b=>PQ.ret s b Y Y<|DN.mpr ⟨j s b,Y⟩
theorem Ts.VH{b:AB CS}(n:AE)(e:σ->Env)(cs:σ->AB AK)(G:σ->Prop)(j:Gb c.length e cs)(o:∀K:Ks,(∀(s:σ)(f:Env)(ex:AB AK),G s->K .next (e s++f) (cs s++ex))->(∀{a:AV}{env:Env}{c:AB AK},k (.ret a) env c->K (.ret a) env c)->Ts Γ d (b.take n) env c K)(m:∀s,G s->Ts Γ d (b.drop n) (e s) (cs s) k):Ts Γ d b env c k:=Ts.cut n e cs G j (o _ (λs f ex g=>⟨s,f,ex,g,A7,A7⟩) λh=>h) m
theorem Wl.RB{t:CE}{b:AB CS}(G:AE->σ->Prop)(r:Gb c.length e cs){m:AE}(u:m<2000000)(s0:σ)(p:Env)(o:AB AK)(h0:G m s0)(v:env=e s0++p)(w:c=cs s0++o)(f:∀m s,G m s->∀K:Ks,(∀(j:AE)(s:σ)(q:Env)(ex:AB AK),j<m->G j s->K .next (e s++q) (cs s++ex)/\K .cont (e s++q) (cs s++ex))->(∀{a:AV}{env:Env}{c:AB AK},k (.ret a) env c->K (.ret a) env c)->run Γ d (Zn (λenv c=>Ts Γ d b env c K)<|k .next) (cI t<|.lf Mq) [] (e s) (cs s)):Wl Γ d t b env c k:=Wl.mk G r u ⟨s0,p,o,h0,v,w⟩ λm s g=>f m s g _ (λj s q ex h g=>⟨⟨s,q,ex,(Aa j h g),A7,A7⟩,⟨s,q,ex,(Aa j h g),A7,A7⟩⟩) λh=>h
theorem Fl.RB{r:IK}{as:AB AV}{b:AB CS}{l:AB MV}{xs:AB AE}{p:AL}(G:AB MV->σ->Prop)(u:Sc Γ cs p r as l)(w:Gb c.length e cs)(s0:σ)(m:Env)(j:AB AK)(h0:G l s0)(y:env=e s0++m)(z:c=cs s0++j)(f:∀v vs s,G (v::vs) s->∀K:Ks,(∀(s:σ)(o:Env)(ex:AB AK),G vs s->K .next (e s++o) (cs s++ex)/\K .cont (e s++o) (cs s++ex))->(∀{a:AV}{env:Env}{c:AB AK},k (.ret a) env c->K (.ret a) env c)->PB xs p v (e s) λenv=>Ts Γ d b env (cs s) K)(q:∀s,G [] s->k .next (e s) (cs s)):Fl Γ d r as xs p b env c k:=Fl.mk G u w ⟨s0,m,j,h0,y,z⟩ (λv vs s g=>f v vs s g _ (λs o ex g=>⟨⟨s,o,ex,g,A7,A7⟩,⟨s,o,ex,g,A7,A7⟩⟩) λh=>h) q
theorem Cl.RB{r:IK}{as:AB AV}{m:CE}{b:AB CE}{l:AB MV}{k:Kt}{xs:AB AE}{o:AL}(cs:σ->AB AK)(G:AB MV->AB MV->σ->Prop)(u:Sc Γ cs o r as l)(y:Gb c.length (λZ=>env) cs)(z:Bm env.length 20=AG)(s0:σ)(j:AB AK)(h0:G l [] s0)(A:c=cs s0++j)(f:∀v vs acc s,G (v::vs) acc s->∀K:Ks,(∀(s:σ)(ex:AB AK){w:MV}{env:Env},G vs (acc++[w]) s->K (.ret<|.p w) env (cs s++ex))->(∀(s:σ)(ex:AB AK){env:Env},G vs acc s->K .next env (cs s++ex))->PB xs o v env λenv=>run Γ d K (cB AG b<|.br T5 (cI m<|.lf Mq)<|.lf Pn) [] env<|cs s)(q:∀acc s,G [] acc s->JT (cs s) acc k):Cl Γ d r as m xs o b env c k:=Cl.mk cs G u y z ⟨s0,env,j,h0,A7,A⟩ (λv vs acc s g=>f v vs acc s g _ (λs ex{_ env}g=>⟨s,env,ex,g,A7,A7⟩) λs ex{env}g=>⟨s,env,ex,g,A7,A7⟩) q
theorem Ts.Un{b:O CS}(n:AE)(e:Env)(a:O AK)(g:(Bm c.length a.length&&e.all (G' a.length))=I)(m:∀K:Ks,(∀(f:Env)(ex:O AK),K .next (e++f)<|a++ex)->Ts Γ d (b.take n) env c K)(j:Ts Γ d (b.drop n) e a k):Ts Γ d b env c k:=Ts.cut (σ:=BF) n (λZ=>e) (λZ=>a) (λZ=>Bg) (λZ=>g) (m _ λf ex=>⟨(),f,ex,B9,Y,Y⟩) λZ Z=>j
end
end
section
def iN:PR BF->AO BK| .ok _ s=>V s|_=>C
def ZO(e:EZ)(i:O J)(s:BK):AO<|AO G×BK:=s.C'.getLast?.bind λb=>(iN<|D_ e i s).map λa=>(Hg b s,a)
theorem U3(c:s.C'.getLast?=V b)(h:D_ e i s= .ok () a):ZO e i s=V (Hg b s,a):=by unfold ZO;rw[U c<|U h ?_];rfl
theorem Uo:∀{e}{i}{b}{s}{n}{a}{r}(h:ZO e i s=V r),Ek e (i::b) n a s=Ek e b (n+1) (a++[r.1]) r.2:=by intros e i b s n a r _ h;revert h;rw[(?_:s.C'.getLast?.bind _=_->OC s.C'.getLast? (D_ e i s) n _=_)];cases s.C'.getLast? with|none=>rw[λh=>(by cases h)]|some k=>intros _ k;rw[(?_:(iN<|D_ e i s).map _=_->_)];cases D_ e i s with|ok u c=>rw[λh=>by rw[Ag (AN h) ?_];rfl]|fail=>rw[λh=>(by cases h)]|big=>rw[λh=>(by cases h)]
section
theorem Wm(os:O BY)(t:BY):(os++[t]).getLast?=V t:=by simp
theorem qN(h:t.C9<=st.length):Ft ⟨st++[k],os++[t]⟩= .ok k ⟨st,os++[t]⟩:=by rw[(?_:(PR.of _ (os++[t]).getLast?).bind _=_),U (Wm ..) ?_,(?_:(if t.C9<(st++[k]).length then(PR.of _ (st++[k]).getLast?).bind _ else _:PR J)=_),U (AM<|by rw[Aq]at⊢;rw[Nk h])<|U (List.getLast?_append)<|U (List.getLast?_singleton) ?_,(?_:PR.ok k ⟨(st++[k]).dropLast,_⟩=_),U HM Y]
theorem WS:∀{s},s.vals.length+a.length<=lim->Dd a s= .ok () {s with vals:=s.vals++a}:=by induction a with|nil=>intro s _;rw[U (Ba ..) ?_];rfl|cons k a b=>intro s h;rw[((U (AM<|CQ (Mu<|FA _) h) ?_):(if s.vals.length<lim then _ else _:PR BF).bind _=_),(?_:Dd a _=_),U (b<|by rw[Aq,CR,EL [k].length]at⊢;rw[h])<|U (Bc ..) ?_];rfl
theorem mW:H_ ⟨st,os++[t]⟩= .ok () ⟨st.take t.C9,os++[{t with dead:=I}]⟩:=by rw[(?_:(PR.of _ (os++[t]).getLast?).bind _=_),U (Wm ..) ?_,(?_:PR.ok () ⟨_,(os++[t]).dropLast++_⟩=_),U HM Y]
end
end
section
def s0(e:EZ):BK:=⟨[],[⟨-1,[],e.res,0,T,T⟩]⟩
section
variable{e:EZ}{os:AB BY}{t:BY}{w:W}
theorem nq{a b:J}(h:a<=b)(d:¬a<=16)(c:¬a<=18):¬(b<=16\/b=18):=λq=>q.elim (λq=>d<|Fm h q) λq=>c<|q▸h
theorem PR.seq{r:PR b}(h:r= .ok a g)(k:f a g=z):r.bind f=z:=by rw[U h k]
theorem IE(h:o=V a):PR.of s o= .ok a s:=by rw[U h ?_];rfl
theorem le_app{st a:O J}(h:n<=st.length):n<=(st++a).length:=by rw[U Aq<|Nat.le_add_right_of_le h]
theorem oA{b:J}{p r:O J}(h:69<=b/\b<=196)(c:IG b M0=V (p,r)){s:BK}:D_ e [b] s=(DG p s).bind λZ s=>Dd r s:=by rw[(AS<|nq h.1 ((dc Y))<|(dc Y)).trans<|(AS λq=>Aj (Fm h.1 q.2)<|(dc Y)).trans<|(AS λq:b=65=>Aj (q▸h.1:(69:J)<=65)<|(dc Y)).trans<|(AS λq:b=66=>Aj (q▸h.1:(69:J)<=66)<|(dc Y)).trans<|(AM h).trans ?_];unfold Sq;rw[U c Y]
end
end
section
inductive Ak where
 |Bv(w g:O J)
 |sel
 |jmp(w:O J)
 |bad
 |mid(p r:O J)
instance:CK Ak:=⟨.sel⟩
def Ak.ctorIdx(x:Ak):G:= @Ak.casesOn (λZ=>G) x (λZ Z=>0) 1 (λZ=>2) 3 λZ Z=>4
inductive Ns where
 |nil
 |one(r:O J)(a:Ak)(w:G)(t:Ns)
 |Bz(c mk:J)(p r:O J)(a t:Ns)
instance:CK Ns:=⟨.nil⟩
def Ns.ctorIdx(x:Ns):G:= @Ns.casesOn (λZ=>G) x 0 (λZ Z Z Z=>1) λZ Z Z Z Z Z=>2
def flat:Ns->O (O J)| .nil=>[]| .one r _ _ t=>r::flat t| .Bz c mk _ _ a t=>[c,mk]::(flat a++[11]::flat t)
def F3(k x:J):AL:=decide<|¬(x≠k/\x≠0/\k≠0)
def fits:O J->O J->AL|k::a,x::st=>F3 k x&&fits a st|_,_=>I
def Au(D:AL)(a st:O J):AO<|O J:=if fits a st=I/\(D=I\/a.length<=st.length)then V (st.drop a.length)else C
def GW(D:AL)(st:O J):AO<|O J:=if(D=I\/3<=st.length)/\F3 (-1) (st.getD 0 0)=I/\isNum (st.getD 1 0)=I/\isNum (st.getD 2 0)=I/\¬(st.getD 1 0≠st.getD 2 0/\st.getD 1 0≠0/\st.getD 2 0≠0)then V ((if st.getD 1 0=0 then st.getD 2 0 else st.getD 1 0)::st.drop 3)else C
def Br(D:AL)(st:O J):Ak->AO (AL×O J)| .Bv w g=>(Au D w st).map λBP=>(D,g++BP)| .sel=>(GW D st).map λBP=>(D,BP)| .jmp w=>(Au D w st).map λZ=>(I,[])| .bad=>C| .mid p r=>if Au D r.reverse st=V []then V (T,p.reverse)else C
section
variable{os:AB BY}{b:BY}{base st:AB AD}{D:AL}
def B5(os:O BY)(b:BY)(base:O J)(D:AL)(st:O J):BK:=⟨base++st.reverse,os++[{b with dead:=D}]⟩
theorem Jr:(B5 os b base D st).C'.getLast?=V {b with dead:=D}:=Wm _ _
theorem jb(c:b.C9=base.length):Ft (B5 os b base D<|x::st)= .ok x (B5 os b base D st):=by rw[U (by unfold B5;rw[U I1<|U (Bc ..) Y]:(B5 os b base D<|x::st)=⟨(base++st.reverse)++[x],os++[{b with dead:=D}]⟩)<|qN (t:={b with dead:=D})<|le_app<|C8 c]
theorem Za(c:b.C9=base.length):Ft (B5 os b base D [])=if D=I then .ok 0 (B5 os b base D [])else .fail 50:=by rw[PR.seq (IE Jr) ?_,(AS ?_).trans Y,(?_:¬b.C9<(base++[].reverse).length),U Zl<|U (Ba ..)<|U c ?_,GN _]
theorem lB(c:b.C9=base.length):D5 k (B5 os b base D<|x::st)=if x≠k/\x≠0/\k≠0 then .fail 50 else .ok x (B5 os b base D st):=PR.seq (jb c) Y
theorem YI:∀{os b a D}{k}(c:b.C9=a.length),D5 k (B5 os b a D [])=if D=I then .ok 0 (B5 os b a D [])else .fail 50:=by intros os b a D k _ c;unfold D5;rw[U (Za c) ?_];induction D using BG with|false=>rfl|true=>rw[AS λq=>q.2.1 Y]
theorem LJ:Au D [] st=V st:=AM ⟨by induction st using An<;>rfl,.inr<|CJ _⟩
theorem La:∀{st D}{k x}{a},Au D (k::a) (x::st)=if x≠k/\x≠0/\k≠0 then C else Au D a st:=by
 intros st D k x a;unfold Au;rw[Ao (λh:x≠k/\x≠0/\k≠0=>?_) λh=>?_];·(rw[U (AM h) ?_];rw[AS]at⊢);rw[λq=>DJ (DN.mp q.1).1 h]
 ·rw[U (AS h) ?_];have e:fits (k::a) (x::st)=fits a st:=(A_ (·&&fits a st)<|DD h).trans (Ki _);rw[U e<|Ao (λg:fits a st=I/\(D=I\/a.length<=st.length)=>?_) λg=>?_];(·rw[U (AM g)<|U (AM ⟨g.1,g.2.imp id Ce⟩) ?_];rfl);rw[U (AS g)<|U (AS λq=>g ⟨q.1,q.2.imp id Lh⟩) Y]
theorem Nm:∀{D}{k}{a},Au D (k::a) []=if D=I then Au D a []else C:=by intros D k a;unfold Au;induction D using BG with|false=>rw[AS λq=>q.2.elim (λz=>(by cases z)) λz=>(by cases z)]|true=>rw[U (AM Y)<|U (AM ⟨Y,.inl Y⟩)<|U (AM ⟨(by induction a using An<;>rfl:fits a []=I),.inl Y⟩)<|U Pb<|U Pb Y]
theorem fT(h:¬(x≠k/\x≠0/\k≠0))(g:fits a c=I):fits (k::a) (x::c)=I:=DN.mpr ⟨DD h,g⟩
theorem xQ:∀{os b base D}{ks}(f:b.C9=base.length),∀{st},match Au D ks st with|V BP=>∃a,Fv ks (B5 os b base D st)= .ok a (B5 os b base D BP)/\fits ks a=I/\a.length=ks.length|C=>Fv ks (B5 os b base D st)= .fail 50:=by intros os b base D ks _ f;induction ks with|nil=>intros st;rw[U LJ<|(DB ([]) Y Y Y)]|cons k ks g=>intros _ k ks _ g;intro st;intros _ st;(have c:∀{x:J}{BP:O J},¬(x≠k/\x≠0/\k≠0)->D5 k (B5 os b base D st)= .ok x (B5 os b base D BP)->match Au D ks BP with|V BP=>∃a,Fv (k::ks) (B5 os b base D st)= .ok a (B5 os b base D BP)/\fits (k::ks) a=I/\a.length=(k::ks).length|C=>Fv (k::ks) (B5 os b base D st)= .fail 50:=λ{x BP}j h=>by intros _ x BP _ j h;have:=g (st:=BP);revert this;cases Au D ks BP with|none=>rw[λq=>PR.seq h<|by rw[U q ?_];rfl]|some o=>rw[λ⟨a,q,i,l⟩=>⟨x::a,PR.seq h<|by rw[U q ?_];rfl,fT j i,A_ UM l⟩]);induction st using An with|nil=>rw[U Nm ?_];(cases m:D with|false=>rw[U m<|((U (YI f) ?_):(D5 k _).bind _=_)];rfl|true=>clear g;subst m;rw[U (AM Y)<|c (λq=>q.2.1 Y)<|YI f])|cons x st=>intros _ x st _ c;rw[U La ?_];have d:=lB (os:=os) (b:=b) (base:=base) (D:=D) (st:=st) f (k:=k) (x:=x);rw[Ao (λh:x≠k/\x≠0/\k≠0=>?_) λh=>?_];(·rw[AM h]at d⊢;rw[((U d ?_):(D5 k _).bind _=_)];rfl);·rw[AS h]at d⊢;rw[c h d]
theorem MO(c:b.C9=base.length):match Au D ks.reverse st with|V BP=>∃a,DG ks (B5 os b base D st)= .ok a (B5 os b base D BP)/\fits ks.reverse a.reverse=I/\a.length=ks.length|C=>DG ks (B5 os b base D st)= .fail 50:=by have:=xQ (os:=os) (b:=b) (base:=base) (D:=D) c (ks:=ks.reverse) (st:=st);revert this;cases Au D ks.reverse st with|none=>rw[λq=>by rw[((U q ?_):(Fv _ _).bind _=_)];rfl]|some d=>rw[λ⟨a,q,f,g⟩=>⟨a.reverse,PR.seq q Y,by rw[U (Mr ..) f],by rw[U Bu<|U g<|U Bu Y]⟩]
theorem Ur(c:base.length+st.length+a.length<=lim):Dd a (B5 os b base D st)= .ok () (B5 os b base D<|a.reverse++st):=by rw[(WS<|by rw[((U Aq<|U Bu c):(base++st.reverse).length+_<=_)]).trans<|((U Rl<|U (Mr ..)<|U (Bc ..) ?_):PR.ok () (BK.mk (base++st.reverse++a) _)=PR.ok () (BK.mk (base++(a.reverse++st).reverse) _))];rfl
theorem Wi(c:b.C9=base.length):H_ (B5 os b base D st)= .ok () (B5 os b base I []):=by rw[mW.trans<|((U c<|U Rz<|U Zl<|U (Ba ..) Y):PR.ok () (BK.mk ((base++st.reverse).take b.C9) _)=PR.ok () (BK.mk (base++[].reverse) _))]
def Res(os:O BY)(b:BY)(base:O J)(w:G)(p:PR BF):AO (AL×O J)->Prop|V (D,st)=>p= .ok () (B5 os b base D st)|C=>p= .fail w
theorem FY:∀{st D}{a c}(h:Au D a st=V c),c=st.drop a.length:=by
 intros st D a c _ h;rw[Ao (λq:fits a st=I/\(D=I\/a.length<=st.length)=>?_) λq=>?_];·(rewrite [Au]at h;replace h:=(AM q)▸h);rw[(AN h).symm]
 ·(rewrite [Au]at h;replace h:=(AS q)▸h);cases h
theorem LO{l:O J}:(l.drop n).length<=l.length:=by rw[U GS<|FJ _ _]
theorem J3:∀{os b a st D}{p}{wt g:O J}(d:b.C9=a.length)(c:a.length+st.length+g.length<=lim)(h:p=(DG wt<|B5 os b a D st).bind λZ s=>Dd g s),Res os b a 50 p<|Br D st<|.Bv wt.reverse g.reverse:=by intros os b a st D p wt g _ d c h;rw[U h ?_];have:=MO (os:=os) (b:=b) (base:=a) (D:=D) (st:=st) d (ks:=wt);rw[(?_:Res _ _ _ _ _<|(Au D wt.reverse st).map _)];cases q:Au D wt.reverse st with|none=>rw[q]at this;rw[(?_:PR.bind _ _=_),U this ?_];rfl|some f=>rw[q]at this;rw[AY this λj e Z=>PR.seq e<|Ur<|L (CU (CD (by rw[U (FY q) LO]) _) _) c]
theorem Tr:∀{os b a st D}{p}{wt}(c:b.C9=a.length)(h:p=(DG wt<|B5 os b a D st).bind λZ s=>H_ s),Res os b a 50 p<|Br D st<|.jmp wt.reverse:=by intros os b a st D p wt _ c h;rw[U h ?_];have:=MO (os:=os) (b:=b) (base:=a) (D:=D) (st:=st) c (ks:=wt);rw[(?_:Res _ _ _ _ _<|(Au D wt.reverse st).map _)];cases q:Au D wt.reverse st with|none=>rw[q]at this;rw[(?_:PR.bind _ _=_),U this ?_];rfl|some d=>rw[q]at this;rw[this.elim λf z=>PR.seq z.1<|Wi c]
end
end
section
def Hc:O<|O J×O J:=[([],[]),([-1],[-1]),([-1,-2],[-2,-1]),([-2],[])]
def B':EZ:=⟨Hc,[2,1,3],[-1,-2,-1,-2,-16],[-2,-1],0⟩
def Gr(code:J):J:=if code<80\/(106<=code/\code<121)then-1 else-2
def JR(code:J):J:=if 106<=code then Gr code else-1
def Eh(code:J):O J×O J:=if code∈([167,172,173]:O J)then(if code=167 then([-2],[-1])else([-1],[-2]))else(if code∈([69,80]:O J)then [Gr code]else [Gr code,Gr code],[JR code])
theorem Nv:∀{b},(Eh b).1.length<=2/\(Eh b).2.length=1:=by
 intros b;unfold Eh;rw[Ao (λh:b∈([167,172,173]:O J)=>?_) λh=>?_];·rw[U (AM h)<|Ao (λh:b=167=>?_) λh=>?_];(·rw[U (AM h) ?_];decide);·rw[U (AS h) ?_];decide
 rw[U (AS h)<|Ao (λh:b∈([69,80]:O J)=>?_) λh=>?_,U (AM h) ⟨E2 1,Y⟩,U (AS h) ⟨B2 2,Y⟩]
inductive Rw(L:O<|O J):O J->Ak->G->Prop
 |Mv(v:J):Rw L [65,v] (.Bv [] [-1]) 50
 |put2(v:J):Rw L [66,v] (.Bv [] [-2]) 50
 |PH:Rw L [1] (.Bv [] []) 50
 |drop:Rw L [26] (.Bv [0] []) 50
 |get{i:G}{k:J}(h:B'.locs[i]?=V k):Rw L [32,i] (.Bv [] [k]) 50
 |set{i:G}{k:J}(h:B'.locs[i]?=V k):Rw L [33,i] (.Bv [k] []) 50
 |MB{i:G}{k:J}(h:B'.locs[i]?=V k):Rw L [34,i] (.Bv [k] [k]) 50
 |Mf:Rw L [32,7] .bad 54
 |sel:Rw L [27] .sel 50
 |NH{k:J}(h:k= -1\/k= -2):Rw L [28,k] (.Bv [-1,k,k] [k]) 50
 |num{code:J}(h:69<=code/\code<=196)(hn:IG code M0=V (Eh code)):Rw L [code] (.Bv (Eh code).1.reverse (Eh code).2.reverse) 50
 |call{f:G}{i:J}{k:O J×O J}(hf:B'.funcs[f]?=V i)(h0:0<=i)(hk:B'.kinds[i.toNat]?=V k)(hr:k.2.length<=2):Rw L [16,f] (.Bv k.1.reverse k.2.reverse) 50
 |N8:Rw L [16,5] .bad 53
 |br{l:G}{ks:O J}(h:L[L.length-1-l]?=V ks)(hl:l<L.length)(h9:l<9):Rw L [12,l] (.jmp ks.reverse) 50
 |NF(h:L.length<=9):Rw L [12,9] .bad 51
 |Ib{l:G}{ks:O J}(h:L[L.length-1-l]?=V ks)(hl:l<L.length)(hr:ks.length<=2):Rw L [13,l] (.Bv (-1::ks.reverse) ks.reverse) 50
 |HP{ls:O G}{l:G}{ks:O J}(h:∀i∈l::ls,i<L.length/\L[L.length-1-i]?=V ks)(hr:ks.length<=2)(hz:ls.length<=18):Rw L (14::(ls.map λ(i:G)=>(i:J))++[(l:J)]) (.jmp<|-1::ks.reverse) 50
 |ret:Rw L [15] (.jmp B'.res.reverse) 50
 |Kk:Rw L [0] (.jmp []) 50
 |tail{f:G}{i:J}{k:O J×O J}(hf:B'.funcs[f]?=V i)(h0:0<=i)(hk:B'.kinds[i.toNat]?=V k)(hr:k.2=B'.res):Rw L [18,f] (.jmp k.1.reverse) 50
 |NN{f:G}{i:J}{k:O J×O J}(hf:B'.funcs[f]?=V i)(h0:0<=i)(hk:B'.kinds[i.toNat]?=V k)(hr:k.2≠B'.res):Rw L [18,f] .bad 50
section
theorem X9{k s}{f:O J->BK->PR BF}:(DG [k] s).bind f=(D5 k s).bind λx s=>f [x] s:=by rw[(?_:((((D5 k s).bind _).bind _).bind _:PR BF)=_)];cases D5 k s<;>rfl
theorem abB:D5 0 s=Ft s:=by rw[(?_:(Ft s).bind _=_)];cases Ft s with|ok x c=>rw[AS λq=>q.2.2 Y]|_=>rfl
theorem tR:((Ft s).bind λZ s=> .ok () s)=(DG [0] s).bind λZ s=>Dd [] s:=by rw[U X9<|U abB ?_];rfl
theorem Res.no(h:p= .fail w):Res os b a w p<|Br D st .bad:=h
theorem XY{e:EZ}{i:G}{k s}(c:e.locs[i]?=V k):Vm e (i:J) s= .ok k s:=(AM ⟨EE _,Du.mpr (DP.mp c).1⟩).trans<|IE c
theorem WX{e:EZ}{i:G}{f k s}(d:e.funcs[i]?=V f)(a:0<=f)(c:e.kinds[f.toNat]?=V k):QP e (i:J) s= .ok k s:=(AM ⟨EE _,Du.mpr (DP.mp d).1⟩).trans<|PR.seq (IE d)<|(AM ⟨a,(RN a).mp (DP.mp c).1⟩).trans (IE c)
theorem OH:H9 k s=Dd [k] s:=by rw[(?_:_=(H9 k s).bind _)];cases H9 k s<;>rfl
theorem QE:∀{os b D L l a v}(f:(os++[b]).map BY.label=L)(h:L[L.length-1-l]?=V a)(d:l<L.length),Hn (l:J) ⟨v,os++[{b with dead:=D}]⟩= .ok a ⟨v,os++[{b with dead:=D}]⟩:=by
 intros os b D L l a v _ f h d;have g:(os++[{b with dead:=D}]).map BY.label=L:=by rw[Ag f<|U Ci<|U Ci ?_];rfl
 rw[<-g,CO]at d;rw[<-g,CO,FX]at h;rw[AY (ML.mp h) λc k j=>Ag j<|(AM ⟨EE _,Du.mpr d⟩).trans<|PR.seq (IE k) Y]
theorem Zw:∀{os b base st D k}(c:b.C9=base.length),match Au D [k] st with|V BP=>∃x,D5 k (B5 os b base D st)= .ok x (B5 os b base D BP)|C=>D5 k (B5 os b base D st)= .fail 50:=by intros os b base st D k _ c;induction st using An with|nil=>rw[U Nm<|U (YI c) ?_];(induction D using BG with|false=>rfl|true=>rw[U (AM Y)<|U (AM Y)<|U LJ ⟨0,Y⟩])|cons x st=>intros _ x st;rw[U La<|U (lB c) ?_];by_cases h:x≠k/\x≠0/\k≠0;rw[U (AM h)<|U (AM h) Y,U (AS h)<|U (AS h)<|U LJ ⟨x,Y⟩]
theorem Zd{st}{D}{k ks}:Au D (k::ks) st=(Au D [k] st).bind λc=>Au D ks c:=by induction st using An with|nil=>rw[U Nm<|U Nm<|U LJ ?_];induction D using BG<;>rfl|cons x st=>rw[U La<|U La<|U LJ<|Ao (λh:x≠k/\x≠0/\k≠0=>?_) λh=>?_];(·rw[U (AM h)<|U (AM h) ?_];rfl);·rw[U (AS h)<|U (AS h) ?_];rfl
theorem Q7{b:BY}{base:O J}{st:O J}(c:b.C9=base.length)(h:D=I\/n<st.length):Ft (B5 os b base D<|st.drop n)= .ok (st.getD n 0) (B5 os b base D<|st.drop<|n+1):=by
 rw[Ao (λq:n<st.length=>?_) λq=>?_];·rw[U (I8 q)<|U (jb c)<|U (IP)<|U (Cm q) ?_];rfl
 ·have z:=E1.mp q;rw[U (J' z)<|U (J'<|FI z)<|U (Za c)<|U (AM<|h.resolve_right q)<|U (IP)<|U (NM z) ?_];rfl
theorem lW(h:Ft s= .ok x a):D5 k s=if x≠k/\x≠0/\k≠0 then .fail 50 else .ok x a:=PR.seq h Y
theorem Zg{b:BY}{a:O J}{st:O J}(c:b.C9=a.length)(h:st.length<=n):Ft (B5 os b a T<|st.drop n)= .fail 50:=by rw[U (J' h)<|U (Za c) ?_];rfl
theorem FL{p:PR c}(h:p= .fail w):p.bind f= .fail w:=by rw[U h ?_];rfl
theorem qU:∀{os b a st D}(f:b.C9=a.length)(y:a.length+st.length+1<=lim),Res os b a 50 (D_ B' [27]<|B5 os b a D st)<|Br D st .sel:=by
 intros os b a st D _ f y;rw[(?_:Res _ _ _ _ ((D5 (-1)<|B5 os b a D<|st.drop 0).bind _)<|(GW D st).map _)];have r:∀{p:PR BF},p= .fail 50->GW D st=C->Res os b a 50 p ((GW D st).map λu=>(D,u)):=λh q=>by rw[U q h]
 rw[Ao (λj:D=I\/3<=st.length=>?_) λj=>?_];·have d:=lW (k:= -1) (Q7 (os:=os) (b:=b) (base:=a) (D:=D) (st:=st) f (n:=0)<|j.imp id λq=>CQ (FA 2) q);rw[Ao (λg:st.getD 0 0≠-1/\st.getD 0 0≠0/\(-1:J)≠0=>?_) λg=>?_];(·replace d:=(AM g)▸d;rw[r (FL d)<|AS λq=>Aj g<|DJ q.2.1]);rw[U ((PR.seq ((AS g)▸d)<|PR.seq (Q7 (os:=os) (b:=b) (base:=a) (D:=D) (st:=st) f (n:=1)<|j.imp id λq=>CQ (B6 Y) q)<|PR.seq (Q7 (os:=os) (b:=b) (base:=a) (D:=D) (st:=st) f (n:=2)<|j.imp id λq=>q) Y:(D5 (-1)<|B5 os b a D<|st.drop 0).bind _=_))<|Ao (λm:isNum (st.getD 1 0)=T\/isNum (st.getD 2 0)=T=>?_) λm=>?_,r (AM m)<|AS λq=>Cz m (λc=>?_) λc=>?_,Jo<|q.2.2.1▸c,Jo<|q.2.2.2.1▸c,Ao (λo:st.getD 1 0≠st.getD 2 0/\st.getD 1 0≠0/\st.getD 2 0≠0=>?_) λo=>?_,r ((AS m).trans<|AM o)<|AS λq=>q.2.2.2.2 o];·have e:GW D st=V ((if st.getD 1 0=0 then st.getD 2 0 else st.getD 1 0)::st.drop 3):=AM ⟨j,DD g,kN _▸λz=>m<|.inl z,kN _▸λz=>m<|.inr z,o⟩;rw[U e<|(AS m).trans<|(AS o).trans<|OH.trans<|(Ur<|L (CU (CD LO _) _) y).trans Y]
 ·have A:D=T:=ZC.mpr λz=>j<|.inl z;subst A;rw[r (Ao (λw:0<st.length=>?_) λw=>?_) (AS λq=>j q.1:GW T st=C)];(·have d:=lW (k:= -1) (Q7 (os:=os) (b:=b) (base:=a) (D:=T) (st:=st) f (n:=0)<|.inr w);rw[Ao (λg:st.getD 0 0≠-1/\st.getD 0 0≠0/\(-1:J)≠0=>?_) λg=>?_];(·replace d:=(AM g)▸d;rw[FL d]);replace d:=(AS g)▸d;rw[Ao (λv:1<st.length=>?_) λv=>?_,PR.seq d<|PR.seq (Q7 (os:=os) (b:=b) (base:=a) (D:=T) (st:=st) f (n:=1)<|.inr v)<|FL<|Zg f (JJ<|IZ.mp λz=>j<|.inr z:st.length<=2),PR.seq d<|FL<|Zg f<|E1.mp v]);rw[FL<|FL<|Zg f<|E1.mp w]
theorem R7{a:O J}{st:O J}(c:a.length+st.length+m<=lim):a.length+(st.drop n).length+m<=lim:=L (CU (CD LO _) _) c
theorem XN{k s}{g:BF->BK->PR BF}:((D5 k s).bind λZ s=>PR.ok () s).bind g=(D5 k s).bind λZ s=>g () s:=by cases D5 k s<;>rfl
theorem tw(h:fits a c=I)(d:c.length=a.length):Au D a (c++r)=V r:=by induction a generalizing c with|nil=>(induction c using An with|nil=>rw[LJ]|cons=>rw[cD d])|cons k a f=>induction c using An with|nil=>rw[cD d]|cons x c=>rw[xA (DN.mp<|show(F3 k x&&fits a c)=I from h) λj g=>U Md<|U La<|U (AS<|DJ j)<|f g<|MC d]
theorem qA:∀{os b a D L n d}(o:(os++[b]).map BY.label=L)(k:b.C9=a.length)(g:a.length+d.length+n.length<=lim),∀{s:O G}{f},(∀i∈s,i<L.length/\L[L.length-1-i]?=V n)->Au D n.reverse f=V d->∃c,Jl (s.map λ(i:G)=>(i:J)) n (B5 os b a D f)= .ok () (B5 os b a D c)/\Au D n.reverse c=V d:=by intros os b a D L n d _ o k g;intro s;induction s with|nil=>rw[λ{f}_ h=>(Aa f Y h)]|cons l s q=>intro f j h;rw[xA (j l<|.head _) λv u=>?_];have:=MO (os:=os) (b:=b) (base:=a) (D:=D) (st:=f) k (ks:=n);rw[h]at this;rw[Cp this λw e y p=>AY (q (λi m=>j i<|.tail _ m) (tw y<|by rw[U Bu<|U Bu<|U p Y]:Au D n.reverse (w.reverse++d)=V d)) λc t r=>(Aa c (PR.seq (QE o u v)<|(AS λz=>z Y).trans<|PR.seq e<|PR.seq (Ur<|by rw[U p g]) t) r)]
theorem qu:∀{os b e st D}{a:O (O J)}{l}{g:O J}(o:(os++[b]).map BY.label=a)(d:b.C9=e.length)(f:e.length+st.length+2<=lim)(h:a[a.length-1-l]?=V g)(m:l<a.length)(j:g.length<=2),Res os b e 50 (D_ B' [13,l]<|B5 os b e D st)<|Br D st<|.Bv (-1::g.reverse) g.reverse:=by intros os b e st D a l g _ o d f h m j;rw[((U Zd ?_):Res _ _ _ _ ((D5 (-1) _).bind _)<|(Au D (-1::g.reverse) st).map _)];have c:=Zw (os:=os) (b:=b) (base:=e) (D:=D) (st:=st) d (k:= -1);cases q:Au D [-1] st with|none=>rw[q]at c;rw[FL c]|some p=>rw[q]at c;obtain⟨x,c⟩:=c;rw[U ((PR.seq c<|PR.seq Y<|PR.seq (QE o h m) Y:(D5 (-1)<|B5 os b e D st).bind _=_))<|U (FY q)<|J3 (wt:=g) (g:=g) d (L (CD j _)<|R7 f) Y]
theorem abI:∀{os b y st D}{a:O (O J)}{K:O G}{l}{H:O J}(u:(os++[b]).map BY.label=a)(g:b.C9=y.length)(A:y.length+st.length+2<=lim)(h:∀i∈l::K,i<a.length/\a[a.length-1-i]?=V H)(B:H.length<=2),Res os b y 50 (D_ B' (14::(K.map λ(i:G)=>(i:J))++[(l:J)])<|B5 os b y D st)<|Br D st<|.jmp<|-1::H.reverse:=by intros os b y st D a K l H _ u g A h B;rw[(?_:Res _ _ _ _ ((D5 (-1) _).bind _)<|(Au D (-1::H.reverse) st).map _)];have r:=Zd (D:=D) (st:=st) (k:= -1) (ks:=H.reverse);have f:=Zw (os:=os) (b:=b) (base:=y) (D:=D) (st:=st) g (k:= -1);cases q:Au D [-1] st with|none=>rw[q]at f r;rw[U r<|FL f]|some c=>intros _ c _ q;rw[q]at f r;rw[xE f λx f=>xA (h l<|.head _) λw v=>U ((PR.seq f<|PR.seq (IE (by rw[U (List.getLast?_cons)<|U (O6) ?_];rfl:(14::((K.map λ(i:G)=>(i:J))++[(l:J)])).getLast?=V (l:J)))<|PR.seq (QE u v w) Y:(D5 (-1)<|B5 os b y D st).bind _=_)) ?_,((U HM ?_):Res _ _ _ _ ((Jl ((K.map λ(i:G)=>(i:J))++[(l:J)]).dropLast H<|B5 os b y D c).bind λZ s=>(DG H s).bind λZ s=>H_ s) _)];have k:=FY q;cases p:Au D H.reverse c with|none=>rw[U r<|U (show(V c).bind (λd=>Au D H.reverse d)=C from p) ?_];have:=MO (os:=os) (b:=b) (base:=y) (D:=D) (st:=c) g (ks:=H);replace this:=p▸this;(induction K using An with|nil=>rw[PR.seq Y<|FL this]|cons i K=>rw[xA (h i<|.tail _<|.head _) λw v=>FL<|PR.seq (QE u v w)<|(AS λz=>z Y).trans<|FL this])|some j=>have F:=FY p;rw[U r<|U (show(V c).bind (λd=>Au D H.reverse d)=V j from p) ?_];clear r q;subst k;rw[AY (qA u g (by subst F;rw[L (CD B _)<|R7<|R7 A]:y.length+j.length+H.length<=lim) (λi m=>h i<|.tail _ m) p) λo t E=>?_];have:=MO (os:=os) (b:=b) (base:=y) (D:=D) (st:=o) g (ks:=H);rw[AY (E▸this) λn e Z=>PR.seq t<|PR.seq e<|Wi g]
theorem rX{os:O BY}{b:BY}{d:O J}{st:O J}{D:AL}{c:O (O J)}(m:(os++[b]).map BY.label=c)(e:b.C9=d.length)(g:d.length+st.length+2<=lim){r:O J}{a:Ak}{w:G}(h:Rw c r a w):Res os b d w (D_ B' r<|B5 os b d D st)<|Br D st a:=by have n:d.length+st.length<=lim:=GP (GP g);have i:d.length+st.length+1<=lim:=GP g;induction h using Rw.casesOn with|Mv v=>rw[J3 (wt:=[]) (g:=[-1]) e i OH]|put2 v=>rw[J3 (wt:=[]) (g:=[-2]) e i OH]|PH=>rw[J3 (wt:=[]) (g:=[]) e n Y]|drop=>rw[J3 (wt:=[0]) (g:=[]) e n tR]|get h=>rw[J3 (wt:=[]) (g:=[_]) e i<|PR.seq (XY h) OH]|set h=>rw[J3 (wt:=[_]) (g:=[]) e n<|PR.seq (XY h)<|XN.trans (X9 (f:=λZ s=>Dd [] s)).symm]|MB h=>rw[J3 (wt:=[_]) (g:=[_]) e i<|PR.seq (XY h)<|XN.trans<|(A_ (PR.bind _)<|GJ λZ=>GJ λZ=>OH).trans (X9 (f:=λZ s=>Dd [_] s)).symm]|Mf=>rw[Res.no Y]|sel=>rw[qU e i]|NH h=>rcases h with rfl|rfl<;>exact J3 (wt:=[_,_,-1]) (g:=[_]) e i<|A_ (PR.bind _)<|GJ λZ=>GJ λZ=>OH|num h p=>rw[J3 e (L (CD (Nv.2▸E2 1) _) g)<|oA h p]|call j k l f=>rw[J3 e (L (CD f _) g)<|PR.seq (WX j k l) Y]|N8=>rw[Res.no Y]|br h o _=>rw[Tr e<|PR.seq (QE m h o) Y]|NF h=>rw[Res.no<|FL<|AS λq=>?_,Aj (Du.mp<|show((9:G):J)<(os++[{b with dead:=D}]).length from q.2)<|E1.mpr<|(by rw[Ag (by rw[Ag m<|U (CO ..) Y]:(os++[b]).length=c.length)<|U Aq<|U Aq ?_];rfl:(os++[{b with dead:=D}]).length=c.length)▸h]|Ib h o f=>rw[qu m e g h o f]|HP h f _=>rw[abI m e g h f]|ret=>rw[Tr e Y]|Kk=>rw[Tr (wt:=[]) e Y]|tail j k l f=>rw[Tr e<|PR.seq (WX j k l)<|AS λq=>q.2 f]|NN j k l f=>rw[Res.no<|PR.seq (WX j k l)<|AM ⟨Y,f⟩]
end
end
section
def Fp:O J->G|[a,b]=>if a=32/\b=7 then 54 else if a=16/\b=5 then 53 else if a=12/\b=9 then 51 else 50|_=>50
theorem Ud(f:¬(a=32/\b=7))(d:¬(a=16/\b=5))(c:¬(a=12/\b=9)):50=Fp [a,b]:=((AS f).trans<|(AS d).trans<|AS c).symm
theorem Xx{i n:G}(h:i<n):¬(i:J)=(n:J):=λq=>DZ h<|Nh.mp q
theorem fj{b:Type}{l:O b}{i n:G}{k:b}(h:l[i]?=V k)(c:l.length<=n):i<n:=CQ (DP.mp h).1 c
def Qv(c:J):Prop:=¬(c=2\/c=3\/c=4)/\c≠5/\c≠11
def need:Ak->G| .Bv w _=>w.length| .sel=>3| .jmp w=>w.length|_=>0
def T3:Ak->G| .Bv _ g=>g.length| .sel=>1| .mid p _=>p.length|_=>0
def J0(a:Ak):AL:= @Ak.casesOn (λZ=>AL) a (λZ Z=>T) T (λZ=>T) T λZ Z=>I
inductive jn:O J->Ak->G->Prop
 |mk{c:J}{rs:O J}{a:Ak}{w:G}(hq:Qv c)(hm:J0 a=T)(hn:need a<=3)(hg:T3 a<=2)(hd:w=Fp (c::rs)):jn (c::rs) a w
theorem UA:∀{L:O (O J)}{r:O J}{a:Ak}{w:G}(f:∀g∈L,g.length<=2)(h:Rw L r a w),jn r a w:=by
 intros L r a w _ f h;have no:∀{x y:J}(_:x≠32)(_:x≠16)(_:x≠12),50=Fp [x,y]:=λj m o=>Ud (λq=>j q.1) (λq=>m q.1) λq=>o q.1;have gA:∀{n:G}{k:O J×O J},B'.kinds[n]?=V k->k.1.length<=2:=λ{n k}h=>by rw[B6<|Eo.mp (Y:Hc.all (λk=>Bm k.1.length 2)=I) k<|E7 h]
 have rv:∀{l:O J}{n:G},l.length<=n->l.reverse.length<=n:=λh=>by rw[U Bu h]
 have q:∀{c:J},(!(decide<|c∈([2,3,4,5,11]:O J)))=I->Qv c:=λ{c}h=>by(have h:¬c∈([2,3,4,5,11]:O J):=λz=>by rw[DD z]at h;rw[nb h]);rw[(BX (λz=>h ?_) (λz=>h ?_) λz=>h ?_)];(·rcases z with rfl|rfl|rfl<;>decide);(·rw[U z ?_];decide);·rw[U z ?_];decide
 have s:∀{x y:G},Bm x y=I->x<=y:=λh=>O2 h;induction h using Rw.casesOn with|Mv|put2|set|MB|NH=>rw[⟨q Y,Y,s Y,s Y,no ((dc Y)) ((dc Y))<|(dc Y)⟩]|NN=>rw[⟨q Y,Y,s Y,s Y,no ((dc Y)) ((dc Y))<|(dc Y)⟩]|PH|drop|sel|Mf|N8|NF|ret|Kk=>rw[⟨q Y,Y,s Y,s Y,Y⟩]|num h u=>rw[⟨(λ{c}h=>(BX (λz=>by lia) (λz=>by lia) λz=>by lia):∀{c:J},69<=c->Qv c) h.1,Y,rv<|FI Nv.1,rv<|Nv.2▸E2 1,Y⟩]|get h=>rw[⟨q Y,Y,s Y,s Y,Ud (λq=>Xx (n:=7) (fj h<|s Y) q.2) (λq=>Aj q.1<|(dc Y)) λq=>Aj q.1<|(dc Y)⟩]|call p _ d b=>rw[⟨q Y,Y,rv<|FI<|gA d,rv b,Ud (λq=>Aj q.1<|(dc Y)) (λq=>Xx (n:=5) (fj p<|s Y) q.2) λq=>Aj q.1<|(dc Y)⟩]|br h v t=>rw[⟨q Y,Y,rv<|FI<|f _<|E7 h,s Y,Ud (λq=>Aj q.1<|(dc Y)) (λq=>Aj q.1<|(dc Y)) λq=>Xx (n:=9) t q.2⟩]|Ib _ _ b=>rw[⟨q Y,Y,Ce<|rv b,rv b,no ((dc Y)) ((dc Y))<|(dc Y)⟩]| @HP e l g h b _=>rw[⟨q Y,Y,Ce<|rv b,s Y,?_⟩];clear h;(induction e using An with|nil=>rw[no ((dc Y)) ((dc Y))<|(dc Y)]|cons i e=>induction e using An<;>rfl)|tail _ _ d=>rw[⟨q Y,Y,rv<|FI<|gA d,s Y,no ((dc Y)) ((dc Y))<|(dc Y)⟩]
section
theorem S5:(B5 os b a D st).vals.length=a.length+st.length:=by rw[((U Aq<|U Bu Y):(a++st.reverse).length=_)]
theorem Hk{d c:Type}{o:AO d}{f:d->c}{b:c}{G:Prop}(h:o.map f=V b)(k:∀a,o=V a->b=f a->G):G:=Bo h λa j g=>k a j g.symm
theorem IU{p:Prop}{i:Dh p}{c:Type}{a b:c}{G:Prop}(h:(if p then V a else C)=V b)(k:p->b=a->G):G:=CB h λq e=>k q (AN e).symm
theorem oO:∀{st D}{a:Ak}{y:AL×O J}(e:Br D st a=V y),y.2.length<=st.length+T3 a:=by intros st D a y _ e;induction a using Ak.casesOn with|Bv w g=>rw[Hk e λc q e=>U e<|((U Aq<|U (FY q)<|U (EL ..)<|CU LO _):(g++c).length<=st.length+g.length)]|sel=>rw[Hk e λc q e=>IU q λZ q=>by rw[U e<|U q<|Ce LO]]|jmp w=>rw[Hk e λc q e=>by rw[U e<|CJ _]]|bad=>rw[nn e]|mid p r=>rw[IU e λZ e=>by rw[U e<|((U Bu<|Be _ _):p.reverse.length<=_)]]
theorem V0:∀{os b base st D}(d:b.C9=base.length),Qi (B5 os b base D st)=if Au D b.res.reverse st=V []then .ok {b with dead:=D} ⟨base,os⟩else .fail 50:=by intros os b base st D _ d;rw[PR.seq (IE Jr) ?_];have:=MO (os:=os) (b:=b) (base:=base) (D:=D) (st:=st) d (ks:=b.res);cases q:Au D b.res.reverse st with|none=>rw[q]at this;rw[U (AS λz=>(by cases z))<|FL this]|some c=>intros _ c _ q;rw[q]at this;(rw[AY this λf e Z=>?_];clear this);rw[PR.seq e<|((U S5<|U d<|Ao (λz:c=[]=>?_) λz=>?_):(if(B5 os b base D c).vals.length≠b.C9 then _ else _)=_),U z<|U (AM Y)<|(AS λy=>y Y).trans<|(?_:PR.ok _ (BK.mk (base++[].reverse) (os++[{b with dead:=D}]).dropLast)=_),U HM<|U Zl<|U (Ba ..) Y,U (AS λy=>z<|AN y)<|AM λy=>z<|j1<|Nat.add_left_cancel (n:=base.length) y]
def Cb(c:J)(p:O J):O J:=if c=4 then-1::p.reverse else p.reverse
def LP(c:J)(p r:O J)(a:O J)(D b:AL)(st:O J):BY:=⟨c,p,r,a.length+st.length,T,D||b⟩
def Qg(os:O BY)(b:BY)(a:O J)(c:J)(p r:O J)(D d:AL)(st:O J):BK:=B5 (os++[{b with dead:=D}]) (LP c p r a D d st) (a++st.reverse) T p.reverse
theorem pQ:∀{os b base st D a c mk p r}(v:b.C9=base.length)(d:b.EM=a)(u:blockKind B' mk=V (p,r))(g:p.length<=2)(m:r.length<=2)(j:base.length+st.length+2<=lim)(o:os.length+1<lim),match Au D p.reverse st with|V BP=>((PR.of (B5 os b base D st) [mk][0]?).bind λt s=>(JB B' t s).bind λk s=>(DG k.1 s).bind λZ s=>Ll c k.1 k.2 s)= .ok () (Qg os b base c p r D a BP)|C=>((PR.of (B5 os b base D st) [mk][0]?).bind λt s=>(JB B' t s).bind λk s=>(DG k.1 s).bind λZ s=>Ll c k.1 k.2 s)= .fail 50:=by
 intros os b base st D a c mk p r _ v d u g m j o;have f:∀s,JB B' mk s= .ok (p,r) s:=λs=>by unfold JB;rw[U u Y]
 have:=MO (os:=os) (b:=b) (base:=base) (D:=D) (st:=st) v (ks:=p);cases q:Au D p.reverse st with|none=>rw[q]at this;rw[PR.seq Y<|PR.seq (f _)<|FL this]|some BP=>rw[q]at this;rw[AY this λw e Z=>PR.seq Y<|PR.seq (f _)<|PR.seq e<|PR.seq (IE Jr)<|PR.seq (AM ⟨?_,L g<|B6 Y,L m<|B6 Y⟩) ?_];(·rw[(WS ?_).trans ?_,((U S5<|(by rw[U (FY q)<|L (CD g _)<|R7 j]:base.length+BP.length+p.length<=lim)):(B5 os b base D BP).vals.length+_<=_)];·rw[(?_:PR.ok () (BK.mk (base++BP.reverse++p)<|(os++[{b with dead:=D}])++[⟨c,p,r,(B5 os b base D BP).vals.length,T,D||b.EM⟩])=PR.ok () (BK.mk (base++BP.reverse++p.reverse.reverse) _)),U S5<|U d<|U (Mr ..) ?_];rfl);rw[(?_:(os++[{b with dead:=D}]).length<lim),U Aq ?_,o]
theorem aab:∀{os b base st D d c mk p r}(h:b.C9=base.length)(VX:b.EM=d)(j:c=2\/c=3\/c=4)(l:blockKind B' mk=V (p,r))(a:p.length<=2)(m:r.length<=2)(e:base.length+st.length+2<=lim)(n:os.length+1<lim),match Au D (Cb c p) st with|V BP=>D_ B' [c,mk] (B5 os b base D st)= .ok () (Qg os b base c p r D d BP)|C=>D_ B' [c,mk] (B5 os b base D st)= .fail 50:=by
 intros os b base st D d c mk p r _ h VX j l a m e n;have f:=λ{st}e=>pQ (os:=os) (b:=b) (base:=base) (D:=D) (st:=st) h VX (c:=c) l a m e n;rw[Ao (λg:c=4=>?_) λg=>?_];·subst g;rw[U ((Y:Cb 4 p= -1::p.reverse))<|U Zd ?_];have a:=Zw (os:=os) (b:=b) (base:=base) (D:=D) (st:=st) h (k:= -1);have i:D_ B' [4,mk] (B5 os b base D st)=((D5 (-1)<|B5 os b base D st).bind λZ s=> .ok () s).bind λZ s=>(PR.of s [mk][0]?).bind λt s=>(JB B' t s).bind λk s=>(DG k.1 s).bind λZ s=>Ll 4 k.1 k.2 s:=Y;rw[U i<|U XN ?_];cases q:Au D [-1] st with|none=>rw[q]at a;rw[FL a]|some nT=>rw[q]at a;rw[xE a λx a=>?_];have:=f (st:=nT) (by rw[U (FY q)<|R7 e]);rw[U a this]
 ·(have i:D_ B' [c,mk] (B5 os b base D st)=(PR.of (B5 os b base D st) [mk][0]?).bind λt s=>(JB B' t s).bind λk s=>(DG k.1 s).bind λZ s=>Ll c k.1 k.2 s:=by rcases j with rfl|rfl|rfl;(·rfl);(·rfl);rw[Aj Y g]);rw[U i<|U (show Cb c p=p.reverse from AS g)<|f e]
theorem lx:∀{os b st D g c d j}(o:b.C9=(c++d.reverse).length)(m:c.length+d.length+b.res.length<=lim),D_ B' [11] (B5 (os++[{g with dead:=j}]) b (c++d.reverse) D st)=if Au D b.res.reverse st=V []/\(b.code=4->b.par=b.res)then .ok () (B5 os g c j<|b.res.reverse++d)else .fail 50:=by
 intros os b st D g c d j _ o m;have k:=V0 (os:=os++[{g with dead:=j}]) (b:=b) (D:=D) (st:=st) o;rw[Ao (λh:Au D b.res.reverse st=V []=>?_) λh=>?_];·rw[AM h]at k;rw[Ao (λf:b.code=4->b.par=b.res=>?_) λf=>?_,U (AM ⟨h,f⟩)<|PR.seq k<|(AS λq=>q.2<|f q.1).trans<|(AM ?_).trans<|Ur m,(?_:0<(os++[{g with dead:=j}]).length),U Aq ?_,FA _,U (AS λq=>f q.2)<|PR.seq k<|AM<|Classical.not_imp.mp f]
 rw[U (AS λq=>h q.1)<|FL<|k.trans<|AS h]
theorem bK:∀{os b a st D}(f:b.C9=a.length)(m:b.code=4)(d:b.par.length<=2)(j:b.res.length<=2)(g:a.length+2<=lim)(k:os.length<lim),D_ B' [5] (B5 os b a D st)=if Au D b.res.reverse st=V []then .ok () (B5 os {b with code:=5} a T b.par.reverse)else .fail 50:=by
 intros os b a st D _ f m d j g k;have c:=V0 (os:=os) (b:=b) (base:=a) (D:=D) (st:=st) f;rw[PR.seq (IE Jr)<|(AS λz=>z m).trans<|Ao (λh:Au D b.res.reverse st=V []=>?_) λh=>?_];·rw[AM h]at c;rw[U (AM h)<|PR.seq c<|PR.seq (AM ⟨k,L d<|B6 Y,L j<|B6 Y⟩)<|(WS<|L (CD d _) g).trans<|((U f<|U (Mr ..) Y):PR.ok () (BK.mk (a++b.par)<|os++[⟨5,b.par,b.res,a.length,T,b.EM⟩])=PR.ok () (BK.mk (a++b.par.reverse.reverse)<|os++[⟨5,b.par,b.res,b.C9,T,b.EM⟩]))]
 rw[U (AS h)<|FL<|c.trans<|AS h]
end
end
section
def Od(c:J)(o:O J):AO<|O J:=if c=2\/c=3\/c=4 then V (o++[c])else if c=5 then(if o=[]then C else V (o.dropLast++[5]))else if c=11 then(if o=[]then C else V o.dropLast)else V o
def Hw(o:O J):O J->AO (O J)|[]=>C|c::_=>Od c o
def Fu:O (O J)->O J->AO (O J)|[],o=>V o|r::a,o=>(Hw o r).bind (Fu a)
theorem aav:∀{o},Fu (a++b) o=(Fu a o).bind (Fu b):=by induction a with|nil=>rw[Y]|cons r a c=>intro o;rw[(?_:(Hw o r).bind (Fu<|a++b)=((Hw o r).bind<|Fu a).bind (Fu b))];cases Hw o r with|none=>rfl|some d=>rw[c]
def GQ(s:BK):O J:=(s.C'.map BY.code).tail
theorem X_:GQ (B5 os b a D st)=((os++[b]).map BY.code).tail:=by unfold GQ B5;rw[U Ci<|U Ci ?_];rfl
inductive Bk(os:O BY)(b:BY)(base:O J):Prop
 |mk(hb:b.C9=base.length)(hr:b.res.length<=2)(hp:b.par.length<=2)(hk:os=[]->b.code≠4)(ho:os.length<lim)(hz:base.length+2<=lim)
class inductive Chain:O BY->O J->Prop|nil:Chain [] []|cons{os:O BY}{base:O J}{b:BY}(D:AL)(st:O J)(B:Bk os b base)(hc:Chain os base):Chain (os++[{b with dead:=D}])<|base++st.reverse
inductive ka(s:BK):Prop
 |mk(os:O BY)(b:BY)(base:O J)(D:AL)(st:O J)(e:s=B5 os b base D st)(B:Bk os b base)(hc:Chain os base)
inductive Ok(rows:O<|O J)(n:G)(hs:O<|AO G)(s:BK)(C7:O<|AO G)(s':BK):Prop
 |mk(eq:∀X,Ek B' (rows++X) n hs s=Ek B' X (n+rows.length) C7 s')(op:Fu rows (GQ s)=V (GQ s'))
inductive He(rows:O<|O J)(n:G)(hs:O<|AO G)(s:BK):Prop
 |mk(pre post:O<|O J)(row:O J)(C7:O<|AO G)(s':BK)(e:rows=pre++row::post)(ok:Ok pre n hs s C7 s')(sh:ka s')(f:∀X,Ek B' (row::X) (n+pre.length) C7 s'= .fail (Fp row) (n+pre.length))
section
theorem Ok.nil:Ok [] n a s a s:=⟨λZ=>Y,Y⟩
theorem Ok.seq(x:Ok r1 n a s R4 f)(y:Ok g (n+r1.length) R4 f JQ h):Ok (r1++g) n a s JQ h:=⟨λX=>by rw[U (Bc ..)<|U (x.1 ..)<|U (y.1 ..)<|U Aq<|U (CR ..) Y],by rw[U aav<|U x.2 y.2]⟩
theorem He.left(x:He a n g s):He (a++h) n g s:=by obtain⟨pre,post,row,C7,b,rfl,ok,c,f⟩:=x;rw[⟨pre,post++h,row,C7,b,Bc _ _ _,ok,c,f⟩]
theorem He.right(x:Ok a n g s R4 h)(y:He i (n+a.length) R4 h):He (a++i) n g s:=by obtain⟨pre,post,row,C7,b,rfl,ok,c,f⟩:=y;rw[⟨a++pre,post,row,C7,b,(Bc _ _ _).symm,x.seq ok,c,λX=>U Aq<|Ag (CR ..)<|f X⟩]
theorem Ok.one{row}{n}{e}{d}{os}{b}{a}{st}{D}(h:D_ B' row (B5 os b a D st)= .ok () d)(c:Hw (GQ<|B5 os b a D st) row=V (GQ d)):Ok [row] n e (B5 os b a D st) (e++[Hg {b with dead:=D}<|B5 os b a D st]) d:=⟨λX=>Uo<|U3 Jr h,by rw[((U c ?_):(Hw _ row).bind _=_)];rfl⟩
theorem He.one(h:D_ B' row (B5 os b a D st)= .fail (Fp row))(B:Bk os b a)(c:Chain os a):He [row] n f<|B5 os b a D st:=⟨[],[],row,f,_,Y,.nil,⟨os,b,a,D,st,Y,B,c⟩,λX=>by rw[(?_:OC _ _ _ _=_),U Jr<|U h ?_];rfl⟩
end
/-! heights -/
def El(a:AL)(b:G)(D:AL)(st:O J):AO J:=if D=I\/a=I then C else V ((b+st.length:G):J)
def Jm(h:AO G):AO J:=h.map λn=>(n:J)
def iA(s:AO J)(a:Ak)(h:AO J):AO J:= @Ak.casesOn (λZ=>AO J) a (λw g=>h.map λh=>h+((g.length:J)-w.length)) (h.map λh=>h+ -2) (λZ=>C) h λZ Z=>s
def Hp(w p:O J)(h:AO J):AO J:=h.map λh=>h-w.length+p.length
def iT:Ns->AO J->AO J->O (AO J)| .nil,_,h=>[h]| .one _ a _ t,s,h=>h::iT t s (iA s a h)| .Bz c _ p r a t,s,h=>h::(iT a (Hp (Cb c p) p h) (Hp (Cb c p) p h)++iT t s (Hp (Cb c p) r h))
/-! what the rows of a part do -/
def Dv:O Ak->AL->O J->AO (AL×O J)|[],D,st=>V (D,st)|a::f,D,st=>(Br D st a).bind λy=>Dv f y.1 y.2
def GB:Ns->AL| .nil=>T| .one _ a _ t=>J0 a||GB t| .Bz _ _ _ _ _ t=>GB t
def HA(c:J)(a:Ns):J:= @BG (λZ=>J) (GB a) c 5
def HL(c:J)(p r:O J)(ok:AL):Ak:= @BG (λZ=>Ak) ok .bad<|.Bv (Cb c p) r.reverse
def Qs(c:J)(p r:O J)(y:AL×O J):AL:=decide<|Au y.1 r.reverse y.2=V []/\(c=4->p=r)
def Ay:Ns->O Ak| .nil=>[]| .one _ a _ t=>a::Ay t| .Bz c _ p r a t=>HL c p r ((Dv (Ay a) T p.reverse).elim T<|Qs (HA c a) p r)::Ay t
def D8(p:O J):Prop:=p.length<=2/\∀x∈p,x= -1\/x= -2
class inductive CL:AO (O J×O J)->O (O J)->Ns->Prop|nil{M:AO (O J×O J)}{L:O (O J)}:CL M L .nil|row{M:AO (O J×O J)}{L:O (O J)}{r:O J}{a:Ak}{w:G}{t:Ns}(h:Rw L r a w)(ht:CL M L t):CL M L<|.one r a w t|mid{p r:O J}{L:O (O J)}{t:Ns}(ht:CL C L t):CL (V (p,r)) L<|.one [5] (.mid p r) 50 t
 |Bz{M:AO (O J×O J)}{L:O (O J)}{c mk:J}{p r:O J}{a t:Ns}(hc:c=2\/c=3\/c=4)(hm:blockKind B' mk=V (p,r))(hp:D8 p)(hr:D8 r)
     (ha:CL (if c=4 then V (p,r)else C) (L++[if c=3 then p else r]) a)(ht:CL M L t):CL M L<|.Bz c mk p r a t
section
theorem Nc(q:¬(D=I\/bur=I)):D=T/\El bur h0 D st=V ((h0+st.length:G):J):=⟨ZC.mpr λz=>q<|.inl z,AS q⟩
theorem NK(q:D=I\/a=I):El a f D st=C:=AM q
theorem d6(h:Au T a st=V c):a.length<=st.length:=IU h λq Z=>q.2.resolve_left λz=>(by cases z)
theorem w3(q:x=I\/y=I):(x||y)=I:=by rcases q with rfl|rfl<;>simp
theorem pR:∀{D a b st}{f c p:O J}(h:Au D f st=V c),El (D||a) (b+c.length) T p.reverse=Hp f p (El a b D st):=by
 intros D a b st f c p _ h;rw[Ao (λq:D=I\/a=I=>?_) λq=>?_];·rw[U (NK q)<|U (NK<|.inr<|w3 q) ?_];rfl
 ·(rw[xA (Nc (h0:=b) (st:=st) q) λd e=>?_];subst d);rw[U e<|U ((Nc (D:=T) (bur:=T||a) q).2) ?_];have l:=d6 h;rw[U (FY h)<|U Bu<|U GS<|A_ V<|by simp only [];lia]
theorem bW(h:Au D i st=V c):El a f D (g++c)=(El a f D st).map λh=>h+((g.length:J)-i.length):=by
 rw[Ao (λq:D=I\/a=I=>?_) λq=>?_];·rw[U (NK q)<|U (NK q) ?_];rfl
 ·(rw[xA (Nc (h0:=f) (st:=st) q) λd e=>?_];subst d);rw[U e<|U ((Nc q).2) ?_];have l:=d6 h;rw[U (FY h)<|U Aq<|U GS<|A_ V<|by simp only [];lia]
theorem qV:∀{D b h st}{s}{a}{y}(f:J0 a=T)(e:Br D st a=V y),El b h y.1 y.2=iA s a (El b h D st):=by intros D b h st s a y _ f e;induction a using Ak.casesOn with|Bv w g=>rw[Hk e λc q e=>by rw[U e<|bW q]]|sel=>rw[Hk e λc q e=>IU q λj q=>U e<|U q ?_];by_cases q:D=I\/b=I;rw[U (NK q)<|A_ (IT _) (NK q).symm];·(rw[xA (Nc (h0:=h) (st:=st) q) λd e=>?_];subst d);show El b h T _=IT _ _;rw[U e<|U ((Nc q).2) ?_];have l:3<=st.length:=j.1.resolve_left λz=>nomatch z;rw[U IB<|U GS<|A_ V<|by simp only [];omega]|jmp w=>rw[Hk e λZ Z e=>by rw[U e<|NK<|.inl Y]]|bad=>rw[nn e]|mid=>rw[nomatch f]
end
end
section
def Eb(rows:O<|O J)(n:G)(a:O<|AO G)(s:BK)(o:AO<|AL×O J)(k:AL->O J->BK)(b:AL×O J->O (AO G)->Prop):Prop:=match o with|V y=>∃C7,Ok rows n a s (a++C7) (k y.1 y.2)/\b y C7|C=>He rows n a s
section
variable{r1 r2:AB (AB AD)}{row:AB AD}{n:AE}{hs:AB (AO AE)}{s:BK}{o:AO (AL×AB AD)}{k k1:AL->AB AD->BK}{hh hh1:AL×AB AD->AB (AO AE)->Prop}
theorem Eb.seq:∀{r1 d n a s o k g j c f}(m:Eb r1 n a s o g c)(p:∀y b,o=V y->c y b->Eb d (n+r1.length) (a++b) (g y.1 y.2) (f y) k λz JQ=>j z<|b++JQ),Eb (r1++d) n a s (o.bind f) k j:=by intros r1 d n a s o k g j c f _ m p;induction o using C4 with|none=>rw[He.left m]|some y=>rw[AY m λb x q=>?_];have:=p y b Y q;revert this;rw[(?_:_->Eb _ _ _ _ (f y) _ _)];cases f y with|none=>rw[λz=>He.right x z]|some z=>rw[λ⟨JQ,h,i⟩=>⟨b++JQ,Bc a b JQ▸x.seq h,i⟩]
theorem Eb.mono{c}(h:Eb r1 n hs s o k hh)(q:∀y b,o=V y->hh y b->c y b):Eb r1 n hs s o k c:=by induction o using C4 with|none=>rw[h]|some y=>rw[h.imp λb z=>⟨z.1,q _ _ Y z.2⟩]
variable{os:AB BY}{b:BY}{base st:AB AD}{D:AL}{bur:AL}
theorem i9(c:b.EM=bur):Jm (Hg {b with dead:=D}<|B5 os b base D st)=El bur base.length D st:=by
 rw[((U S5<|U c<|Ao (λq:D=I\/bur=I=>?_) λq=>?_):Jm (if D=I\/b.EM=I then C else V (B5 os b base D st).vals.length)=if D=I\/bur=I then C else V _)];·rw[U (AM q)<|U (AM q) ?_];rfl
 ·rw[U (AS q)<|U (AS q) ?_];rfl
inductive Std(os:O BY)(b:BY)(base:O J)(bur:AL):Prop
 |mk(B:Bk os b base)(VX:b.EM=bur)(hc:Chain os base)
theorem Eb.one(S:Std os b base bur)(h:match x with|V y=>D_ B' row (B5 os b base D st)= .ok () (k y.1 y.2)|C=>D_ B' row (B5 os b base D st)= .fail (Fp row))(d:∀y,x=V y->Hw (GQ<|B5 os b base D st) row=V (GQ<|k y.1 y.2)):Eb [row] n hs (B5 os b base D st) x k λZ c=>c.map Jm=[El bur base.length D st]:=by induction x using C4 with|none=>rw[He.one h S.1 S.3]|some y=>rw[(Aa _ (Ok.one h<|d y Y)<|A_ (λx=>[x])<|i9 S.2)]
theorem aR{c a o}(h:Qv c):Hw o (c::a)=V o:=(AS h.1).trans<|(AS h.2.1).trans<|AS h.2.2
theorem iS{o:O J}{c}:o++[c]≠[]:=λh=>nomatch(WK.mp h).2
theorem j9{o:O J}{c}:Hw (o++[c]) [5]=V (o++[5]):=by rw[((U (AS iS)<|U HM Y):(if o++[c]=[]then C else V ((o++[c]).dropLast++[5]))=_)]
theorem eU{o:O J}{c}:Hw (o++[c]) [11]=V o:=by rw[((U (AS iS)<|U HM Y):(if o++[c]=[]then C else V (o++[c]).dropLast)=_)]
def VF(os:O BY):O J:=(os.map BY.code).tail
theorem Pu(h:os≠[]):GQ (B5 os b base D st)=VF os++[b.code]:=by rw[U X_<|U Ci<|List.tail_append_of_ne_nil λz=>h<|iV.mp z]
def EW(b:BY)(t:Ns):BY:= @BG (λZ=>BY) (GB t) b {b with code:=5}
theorem sN:EW {b with code:=5} t={b with code:=5}:=by unfold EW;cases GB t<;>rfl
def Mb(M:AO<|O J×O J)(os:O BY)(b:BY):Prop:=∀p r,M=V (p,r)->(os≠[]/\b.code=4)/\(b.par=p/\b.res=r)/\p.length<=2
theorem PT{c:Type}{l:O c}{x:c}:l++[x]≠[]:=λh=>nomatch(WK.mp h).2
theorem k_{P:Prop}{i:Dh P}{x:AL×O J}{p:PR BF}{s:BK}{w:G}(h:p=if P then .ok () s else .fail w){k:AL->O J->BK}(c:k x.1 x.2=s):match(if P then V x else C)with|V y=>p= .ok () (k y.1 y.2)|C=>p= .fail w:=by
 by_cases q:P;·rw[AM q]at h⊢;subst c;rw[h]
 ·rw[AS q]at h⊢;rw[h]
theorem wR:∀{st D c p r a}{x:AO (AL×O J)},(((Au D (Cb c p) st).map λd=>(D,d)).bind λu=>x.bind λy=>if Au y.1 r.reverse y.2=V []/\(a=4->p=r)then V (D,r.reverse++u.2)else C)=Br D st (HL c p r<|x.elim T<|Qs a p r):=by
 intros st D c p r a x;have f:((Au D (Cb c p) st).map λd=>(D,d)).bind (λZ=>C)=Br D st .bad:=by cases Au D (Cb c p) st<;>rfl
 induction x using C4 with|none=>rw[f]|some y=>intros _ y;rw[((Ao (λq:Au y.1 r.reverse y.2=V []/\(a=4->p=r)=>?_) λq=>?_):_=Br D st (HL c p r<|decide<|Au y.1 r.reverse y.2=V []/\(a=4->p=r)))];(·rw[U (DD q)<|(?_:_=(Au D (Cb c p) st).map _)];cases Au D (Cb c p) st with|none=>rfl|some d=>rw[AM q]);rw[U (Dk q)<|(A_ (eZ _)<|GJ λZ=>AS q).trans f]
theorem mA(c:T3 a<=2)(e:Br D st a=V y):y.2.length<=st.length+2:=L (oO e)<|CD c _
end
theorem Mn:(flat<|.Bz c mk p r a t).length=(flat a).length+(flat t).length+2:=by rw[(?_:([c,mk]::(flat a++[11]::flat t)).length=_)];(rw[U IB<|U Aq<|U IB ?_];rewrite [CR];rw[U (CR ..) ?_]);rfl
theorem rp{x:AO (O J)}{D:AL}{p:PR BF}{k:O J->BK}(h:match x with|V BP=>p= .ok () (k BP)|C=>p= .fail 50):match x.map (λBP=>(D,BP))with|V y=>p= .ok () (k y.2)|C=>p= .fail 50:=by induction x using C4<;>exact h
theorem aaj{os}{b}{a st d D e c}{p r}:GQ (Qg os b a c p r D e d)=GQ (B5 os b a D st)++[c]:=by rw[((Pu PT):GQ (B5 (os++[{b with dead:=D}]) (LP c p r a D e d) (a++d.reverse) T p.reverse)=VF (os++[{b with dead:=D}])++[c])]
theorem uN:∀{os:O BY}{b:BY}{d st:O J}{D f:AL}{n:G}{hs:O (AO G)}{c mk:J}{p r:O J}{a:Ns}(S:Std os b d f)(h:c=2\/c=3\/c=4)(m:blockKind B' mk=V (p,r))(j:p.length<=2)(i:r.length<=2)(k:d.length+st.length+2<=lim)(l:os.length+1<lim)(g:∀{BP:O J}{n:G}{hs:O (AO G)},BP.length<=st.length->Eb (flat a) n hs (Qg os b d c p r D f BP) (Dv (Ay a) T p.reverse) (B5 (os++[{b with dead:=D}]) (EW (LP c p r d D f BP) a)<|d++BP.reverse) λy C7=>C7.map Jm++[El (D||f) (d++BP.reverse).length y.1 y.2]=iT a (El (D||f) (d++BP.reverse).length T p.reverse) (El (D||f) (d++BP.reverse).length T p.reverse)),Eb ([[c,mk]]++(flat a++[[11]])) n hs (B5 os b d D st) (Br D st<|HL c p r<|(Dv (Ay a) T p.reverse).elim T<|Qs (HA c a) p r) (B5 os b d) λy C7=>(∃BP,Au D (Cb c p) st=V BP/\y=(D,r.reverse++BP))/\C7.map Jm=El f d.length D st::iT a (Hp (Cb c p) p<|El f d.length D st) (Hp (Cb c p) p<|El f d.length D st):=by
 intros os b d st D f n hs c mk p r a _ S h m j i k l g;rw[Ag wR<|Eb.seq (r1:=[[c,mk]]) (Eb.one (k:=λZ BP=>Qg os b d c p r D f BP) S ((by rcases h with rfl|rfl|rfl<;>rfl:50=Fp [c,mk])▸rp (aab (os:=os) (b:=b) (base:=d) (D:=D) (st:=st) S.1.1 S.2 h m j i k l)) λy Z=>(AM h).trans<|A_ V aaj.symm) λy R4 e s=>Hk e λBP q e=>U e ?_];have o:BP.length<=st.length:=by rw[U (FY q) LO]
 have Lv:(d++BP.reverse).length=d.length+BP.length:=by rw[U Aq<|U Bu Y]
 have SF:d.length+BP.length+2<=lim:=L (CU (CD o _) _) k;have g:=g (n:=n+[[c,mk]].length) (hs:=hs++R4) o;rw[(by unfold EW HA;cases GB a<;>rfl:EW (LP c p r d D f BP) a={LP c p r d D f BP with code:=HA c a})]at g;rw[Eb.seq g λz JQ Z t=>?_,(Eb.one (k:=B5 os b d) (⟨⟨Lv.symm,i,j,λz=>Aj z PT,by rw[U Aq l],by rw[U Lv SF]⟩,Y,.cons D BP S.1 S.3⟩:Std (os++[{b with dead:=D}]) {LP c p r d D f BP with code:=HA c a} (d++BP.reverse)<|D||f) (k_ (lx (b:={LP c p r d D f BP with code:=HA c a}) Lv.symm<|L (CD i _) SF) Y) λy e=>IU e λZ e=>?_).mono λy u e v=>IU e λZ e=>⟨(Aa BP q e),?_⟩,U e<|U (Pu PT) eU,U Ci<|U Ci<|U s<|U v<|A_ (_::·)<|t.trans<|U Lv<|U (pR q) Y]
theorem rG:∀{M}{d}{t}(h:CL M d t),∀{os:O BY}{b:BY}{base st:O J}{D bur}{n}{hs},(∀H∈d,H.length<=2)->(os++[b]).map BY.label=d->Std os b base bur->Mb M os b->base.length+st.length+2*(flat t).length+2<=lim->os.length+(flat t).length+1<lim->Eb (flat t) n hs (B5 os b base D st) (Dv (Ay t) D st) (B5 os (EW b t) base) λy C7=>C7.map Jm++[El bur base.length y.1 y.2]=iT t (El bur base.length T b.par.reverse) (El bur base.length D st):=by intros M d t _ h;induction h with|nil=>rw[λ{os b base st D bur n hs}_ _ _ _ _ _=>(Aa ([]) (by rw[U (Ba ..) Ok.nil]) Y)]| @row M d r a w t h u v=>intros _ M d r a w t _ h u v;intros os b base st D bur n hs _ j k S x g A;obtain @⟨c,N,_,_,W,B,_,X,I⟩:=UA j h;have F:=rX (st:=st) (D:=D) k S.1.1 (L (CU (BJ _ _) 2) g) h;(have G:EW b (.one (c::N) a w t)=EW b t:=by unfold EW;rw[((U B ?_): @BG (λZ=>BY) (J0 a||GB t) _ _=_)];rfl);rw[U G<|Eb.seq (r1:=[c::N]) (Eb.one (k:=B5 os b base) S ?_ λy Z=>(aR W).trans<|A_ V<|X_.trans X_.symm) λy C7 e q=>(v j k S x (bB g<|mA X e)<|XF A).mono λz JQ Z l=>?_];(·rw[Ag I ?_];revert F;cases Br D st a<;>exact id);·rw[U Ci<|U q ?_];replace l:=(qV (s:=El bur base.length T b.par.reverse) B e)▸l;rw[A_ (_::·) l]| @mid p r d t u v=>intros _ p r d t _ u v;intros os b base st D bur n hs _ j k S x g A;(rw[DE (x _ _ Y) λBL Bf f=>xA BL λP i=>?_];obtain⟨rfl,rfl⟩:=Bf);have F:=bK (st:=st) (D:=D) (os:=os) S.1.1 i f S.1.2 S.1.6 S.1.5;(have Q3:(os++[{b with code:=5}]).map BY.label=d:=by rw[Ag k<|U Ci<|U Ci<|A_ (_++[·])<|((U i ?_):(if(5:J)=3 then _ else _)=if b.code=3 then _ else _)];rfl);rw[U (show EW b (.one [5] (.mid b.par b.res) 50 t)=EW {b with code:=5} t from sN.symm)<|Eb.seq (r1:=[[5]]) (Eb.one (x:=if Au D b.res.reverse st=V []then V (T,b.par.reverse)else C) (k:=B5 os {b with code:=5} base) S (k_ F Y) λy Z=>?_) λy C7 e q=>IU e λZ e=>?_,U (Pu P)<|U (Pu P)<|U i j9];·subst e;rw[(v j Q3 ⟨⟨S.1.1,S.1.2,S.1.3,λZ=>(by decide:(5:J)≠4),S.1.5,S.1.6⟩,S.2,S.3⟩ (λZ Z z=>nn z) (bB g (S':=b.par.reverse.length) ?_)<|XF A).mono λz JQ Z l=>?_,U Bu<|L f<|Be _ _,U Ci<|U q<|A_ (_::·) l]| @Bz M d c mk p r a t Q B f E ha u aS eE=>intros _ M d c mk p r a t _ Q B f E ha u aS eE;intros os b base st D bur n hs _ j k S x g A;have Rt:=qY A Mn;rw[U ((by simp [flat]:flat (.Bz c mk p r a t)=([[c,mk]]++(flat a++[[11]]))++flat t))<|Eb.seq (uN S Q B f.1 E.1 (L (CU (BJ _ _) 2) g) Rt.2.2 λ{BP n hs}o=>?_) λy C7 e q=>?_];(·(have Lv:(base++BP.reverse).length=base.length+BP.length:=by rw[U Aq<|U Bu Y]);have s:=dW g Mn o f.1;rw[aS (os:=os++[{b with dead:=D}]) (b:=LP c p r base D bur BP) (bur:=D||bur) ?_ ?_ ⟨⟨Lv.symm,E.1,f.1,λz=>Aj z PT,by rw[U Aq Rt.2.2],by rw[U Lv s.2.1]⟩,Y,.cons D BP S.1 S.3⟩ ?_ ?_ ?_,λH m=>(Cj.mp m).elim (j H) λm=>by rw[U (B3.mp m)<|Ao (λK:c=3=>?_) λK=>?_,U (AM K) f.1,U (AS K) E.1]];(·rw[U Ci<|Ag k<|U Ci<|U Ci ?_];rfl);(·intro p' r' e;rw[Ao (λi:c=4=>?_) λi=>?_];(·replace e:=(AM i)▸e;cases e;rw[(BX ⟨PT,i⟩ ⟨Y,Y⟩ f.1)]);·replace e:=(AS i)▸e;rw[nn e]);rw[U Lv<|U Bu s.1,U Aq Rt.1]);·(rw[xA q λE9 l=>?_];clear q;(rw[AY E9 λBP R E9=>?_];subst E9));(have o:BP.length<=st.length:=by rw[U (FY R) LO]);rw[(eE j k S x ?_ Rt.2.1).mono λz JQ Z q4=>?_,U Aq<|U Bu<|(dW g Mn o E.1).2.2];·rw[U Ci<|U l<|U (Bc ..)<|U q4<|U (bW R) ?_];(have e:∀h:AO J,(h.map λh=>h+((r.reverse.length:J)-(Cb c p).length))=Hp (Cb c p) r h:=λh=>by induction h using C4 with|none=>rfl|some h=>rw[A_ V<|by rw[U Bu ?_];simp only [];lia]);rw[U (e ..) ?_];rfl
end
section
def F9(c:J):O<|O J:=(if c=4 then [[5],[0]]else [])++[[11],[0]]
def HT:O J->O (O J)|[]=>[]|c::a=>HT a++F9 c
theorem kA:HT (o++[c])=F9 c++HT o:=by induction o with|nil=>rw[(Ba _).symm]|cons a o b=>rw[((U b<|U (Bc ..) ?_):HT (o++[c])++F9 a=_)];rfl
section
theorem go(h:D_ B' row (B5 os b a D st)= .ok () s)(k:∀n d,∃c,Ek B' X n d s= .ok c):∃c,Ek B' (row::X) n d (B5 os b a D st)= .ok c:=(k (n+1) _).imp λc q=>(Uo<|U3 Jr h).trans q
theorem k0(c:b.C9=a.length):D_ B' [0] (B5 os b a D st)= .ok () (B5 os b a I []):=Wi c
theorem Y2:Au I a []=V []:=by(rewrite [Au];rw[U (AM ⟨(by induction a using An<;>rfl:fits a []=I),.inl Y⟩)<|U Pb Y])
theorem zH(r:Chain os a):∀{b}{D}{st}{n}{hs},Bk os b a->∃j,Ek B' ([0]::(HT (GQ<|B5 os b a D st)++[[11]])) n hs (B5 os b a D st)= .ok j:=by induction r with|nil=>intro b D st n hs B;have w:D_ B' [11] (B5 [] b [] I [])= .ok () ⟨[],[]⟩:=PR.seq ((V0 B.1).trans<|AM Y2) ((AS λq=>B.4 Y q.1).trans Y);rw[go (k0 B.1) λn hs=>⟨_,(Uo<|U3 Jr w).trans Y⟩]| @cons f c o p d y r u=>intro b D st n hs B;rw[go (k0 B.1) λn hs=>U (Pu PT)<|U kA<|U (Bc ..)<|U ((Y:VF (f++[{o with dead:=p}])=GQ (B5 f o c p<|b.res.reverse++d))) ?_];(have m:c.length+d.length+b.res.length<=lim:=by have:=B.6;(replace this:=Aq▸this;replace this:=Bu▸this);rw[L (CD B.2 _) this]);have g:∀{b:BY},b.C9=(c++d.reverse).length->b.code≠4->c.length+d.length+b.res.length<=lim->∀n hs,∃j,Ek B' ([11]::([0]::(HT (GQ<|B5 f o c p<|b.res.reverse++d)++[[11]]))) n hs (B5 (f++[{o with dead:=p}]) b (c++d.reverse) I [])= .ok j:=λv k m n hs=>go ((lx v m).trans<|AM ⟨Y2,λz=>Aj z k⟩) λn hs=>u y;unfold F9;rw[Ao (λk:b.code=4=>?_) λk=>?_,U (AM k)<|go ((bK B.1 k B.3 B.2 B.6 B.5).trans<|AM Y2) λn hs=>go (k0 (b:={b with code:=5}) B.1) λn hs=>g (b:={b with code:=5}) B.1 ((dc Y):(5:J)≠4) m n hs,U (AS k)<|g B.1 k m n hs]
end
def fin(r:O J)(y:AL×O J):AL:=decide<|Au y.1 r.reverse y.2=V []
def DL(a:O Ak)(r:O J)(D:AL)(st:O J):AL:=(Dv a D st).elim T<|fin r
def HR(t:Ns):AL:=DL (Ay t) B'.res T []
inductive Rv(body:O<|O J)(w j:G):Prop
 |mk(pre post:O<|O J)(row:O J)(C7:O<|AO G)(s':BK)(e:body=pre++row::post)(hj:j=pre.length)(hw:w=Fp row)(ok:Ok pre 0 [] (s0 B') C7 s')(sh:ka s')(f:∀X,Ek B' (row::X) j C7 s'= .fail w j)
def fb:BY:=⟨-1,[],B'.res,0,T,T⟩
theorem XJ:∀{t}(h:CL C [B'.res] t)(E:(flat t).length<=100000),match JN B' (flat t++[[11]])with| .ok i=>HR t=I/\i.map Jm=iT t (V 0) (V 0)| .fail w j=>HR t=T/\Rv (flat t++[[11]]) w j| .big=>BB:=by intros t _ h E;have p:(100000:G)*2+2<=lim:=B6 Y;have B:Bk [] fb []:=⟨Y,B2 2,CJ _,λZ=>((dc Y):(-1:J)≠4),CQ (FA _) p,B6 Y⟩;have R:=rG h (os:=[]) (b:=fb) (base:=[]) (st:=[]) (D:=T) (bur:=T) (n:=0) (hs:=[]) (λb m=>by rw[U (B3.mp m)<|B2 2]) Y ⟨B,Y,.nil⟩ (λZ Z z=>nn z) (L (by rw[(?_:0+0+2*(flat t).length+2<=100000*2+2)];lia) p) (CQ (by rw[(?_:0+(flat t).length+1<100000*2+2)];lia) p);rw[(?_:match Ek B' (flat t++[[11]]) 0 [] (s0 B')with| .ok i=>(Dv (Ay t) T []).elim T (fin B'.res)=I/\_| .fail w j=>(Dv (Ay t) T []).elim T (fin B'.res)=T/\_| .big=>BB)];revert R;cases Dv (Ay t) T []with|none=>intro R;obtain⟨o,d,row,c,a,e,ok,A,f⟩:=(R:He _ _ _ _);(have F:Ek B' (flat t++[[11]]) 0 [] (s0 B')= .fail (Fp row) o.length:=by rw[U e<|U (Bc ..) ?_];have:=(ok.1<|row::(d++[[11]])).trans (f _);rw[Di]at this;rw[this]);rw[U F ⟨Y,o,d++[[11]],row,c,a,by rw[U e<|U (Bc ..) ?_];rfl,Y,Y,ok,A,λX=>by have:=f X;rw[Di]at this;rw[this]⟩]|some y=>intros _ y _ R;rw[AY ((R:∃c,_)) λc ok q=>?_];(have v:Bk [] (EW fb t) []:=by unfold EW;cases GB t with|false=>rw[B]|true=>rw[⟨B.1,B.2,B.3,λZ=>((dc Y):(5:J)≠4),B.5,B.6⟩]);(have r:(EW fb t).EM=T:=by unfold EW;cases GB t<;>rfl);have k:=V0 (os:=[]) (b:=EW fb t) (base:=[]) (D:=y.1) (st:=y.2) v.1;rw[(by unfold EW;cases GB t<;>rfl:(EW fb t).res=B'.res)]at k;rw[U ((ok.1 [[11]]:Ek B' (flat t++[[11]]) 0 [] (s0 B')=_))<|U (Di ..) ?_];show match Ek B' [[11]] _ _ _ with| .ok i=>decide _=I/\_| .fail w j=>decide _=T/\_| .big=>BB;rw[Ao (λg:Au y.1 B'.res.reverse y.2=V []=>?_) λg=>?_];(·have u:D_ B' [11] (B5 [] (EW fb t) [] y.1 y.2)= .ok () ⟨[],[]⟩:=PR.seq (k.trans<|AM g) ((AS λq=>v.4 Y q.1).trans Y);rw[U (Uo<|U3 Jr u) ⟨DD g,(?_:([]++c++[Hg {EW fb t with dead:=y.1}<|B5 [] (EW fb t) [] y.1 y.2]).map Jm=_)⟩];(rewrite [Sy];rw[U Ci<|U List.map_singleton<|U (i9 r) ?_]);rw[q]);·have u:D_ B' [11] (B5 [] (EW fb t) [] y.1 y.2)= .fail 50:=FL (k.trans<|AS g);(have f:∀X,Ek B' ([11]::X) (flat t).length ([]++c) (B5 [] (EW fb t) [] y.1 y.2)= .fail 50 (flat t).length:=λX=>by rw[(?_:OC _ _ _ _=_),U Jr<|U u ?_];rfl);rw[U (f ..)<|⟨Dk g,flat t,[],[11],_,_,Y,Y,Y,ok,⟨[],_,[],_,_,Y,v,.nil⟩,f⟩]
theorem Rv.rZ(h:Rv body w j):∃pre row post o,body=pre++row::post/\j=pre.length/\w=Fp row/\Fu pre []=V o/\(∃a,JN B' (pre++([0]::(HT o++[[11]])))= .ok a)/\∀X,JN B' (pre++row::X)= .fail w j:=by obtain⟨pre,post,row,C7,i,e,rfl,d,ok,⟨os,b,c,D,st,rfl,B,g⟩,f⟩:=h;rw[⟨pre,row,post,_,e,Y,d,ok.2,?_,λX=>?_⟩,(zH g B (n:=0+pre.length) (hs:=C7)).imp λa q=>(ok.1 _).trans q];·have:=ok.1 (row::X);rw[Di]at this;rw[this.trans<|f X]
end
section
/-! rows that nest: a tree -/
structure Fr where
 c:J
 p:O J
 r:O J
instance:CK Fr:=⟨⟨0,[],[]⟩⟩
def BS:O Fr->O (O J)|[]=>[B'.res]|f::S=>BS S++[if f.c=3 then f.p else f.r]
def E_(L:O<|O J)(row:O J):Prop:=∃a w,Rw L row a w
inductive Nx:O Fr->O J->O Fr->Prop
 |row{S:O Fr}{row:O J}(h:E_ (BS S) row):Nx S row S
 |op{S:O Fr}{c mk:J}{p r:O J}(hc:c=2\/c=3\/c=4)(hm:blockKind B' mk=V (p,r))(hp:D8 p)(hr:D8 r)(hS:S.length<8):Nx S [c,mk]<|⟨c,p,r⟩::S
 |mid{S:O Fr}{p r:O J}:Nx (⟨4,p,r⟩::S) [5]<|⟨5,p,r⟩::S
 |cl{S:O Fr}{f:Fr}:Nx (f::S) [11] S
class inductive BV:O Fr->O (O J)->O Fr->Prop|nil{S:O Fr}:BV S [] S|cons{S S1 S2:O Fr}{r:O J}{rs:O (O J)}(h:Nx S r S1)(k:BV S1 rs S2):BV S (r::rs) S2
theorem BV.app(h:BV S a d)(k:BV d b c):BV S (a++b) c:=by induction h with|nil=>rw[k]|cons h _ f=>rw[.cons h<|f k]
theorem BV.one(h:Nx S r b):BV S [r] b:= .cons h .nil
theorem BV.split:∀{b:O (O J)}{c:O Fr}(a:O<|O J),∀{S:O Fr},BV S (a++b) c->∃d,BV S a d/\BV d b c:=by intros b c a;induction a with|nil=>rw[λh=>(Aa _ .nil h)]|cons r a f=>intros _ r a _ f;intros S _ h;cases h with|cons h k=>rw[(f k).imp λd q=>⟨.cons h q.1,q.2⟩]
def dep:Ns->G| .nil=>0| .one _ _ _ t=>dep t| .Bz _ _ _ _ a t=>max (dep a+1) (dep t)
def wA(f:Fr):AO<|O J×O J:=if f.c=4 then V (f.p,f.r)else C
inductive PA(f:Fr)(S S0:O Fr)(rows:O<|O J):Prop
 |mk(t:Ns)(rest:O<|O J)(e:rows=flat t++[11]::rest)(h:CL (wA f) (BS<|f::S) t)(hd:dep t+(f::S).length<=8)(k:BV S rest S0)
theorem dA{a t:Ns}{n:G}(c:dep a+(n+1)<=8)(b:dep t+n<=8):max (dep a+1) (dep t)+n<=8:=by rw[Cz (Nat.le_total (dep a+1)<|dep t) (λh=>?_) λh=>?_,U (Nat.max_eq_right h) b];·(rw[U (Nat.max_eq_left h)<|U (CR ..) ?_];rewrite [EL 1]);rw[c]
theorem aE{a t:O (O J)}{n:G}(h:(a++[11]::t).length<=n):t.length<=n:=L (by rw[U Aq<|U IB<|L (E2 _)<|Be _ _]) h
theorem mC{c mk:J}{p r:O J}{a t:Ns}{x:O (O J)}:[c,mk]::(flat a++[11]::(flat t++x))=flat (.Bz c mk p r a t)++x:=by simp [flat]
theorem qI:∀n,∀{rows:O (O J)}{f:Fr}{S g:O Fr},rows.length<=n->BV (f::S) rows g->g.length<=S.length->(f::S).length<=8->PA f S g rows:=by intro n;induction n with|zero=>intro rows f S g e h d _;(cases h with|nil=>rw[Aj d<|UT _]|cons=>rw[Aj e<|Z9 _])|succ n j=>intro rows f S g e h d l;cases h with|nil=>rw[Aj d<|UT _]|cons h k0=>have GO:=Lh e;cases h with|row h=>rw[NQ h λa w h=>?_];clear e;obtain⟨t,b,rfl,i,M6,k⟩:=j GO k0 d l;rw[⟨.one _ a w t,b,Y,.row h i,M6,k⟩]| @op _ c mk p r o q s u v=>clear e;obtain⟨a,b,rfl,x,YN,k⟩:=j GO k0 (FI d) v;obtain⟨t,b,rfl,i,m,y⟩:=j (aE GO) k d l;rw[⟨.Bz c mk p r a t,b,mC,.Bz o q s u x i,dA YN m,y⟩]| @mid _ p r=>clear e;obtain⟨t,b,rfl,i,M6,k⟩:=j GO k0 d l;rw[⟨.one [5] (.mid p r) 50 t,b,Y,.mid i,M6,k⟩]|cl=>rw[⟨.nil,_,Y,.nil,by rw[((U (Di ..) l):0+_<=8)],k0⟩]
theorem parse:∀n,∀{rows:O (O J)},rows.length<=n->BV [] rows []->∃t,rows=flat t/\CL C [B'.res] t/\dep t<=8:=by intro n;induction n with|zero=>intro rows b h;(cases h with|nil=>rw[(DB .nil Y .nil<|CJ _)]|cons=>rw[Aj b<|Z9 _])|succ n g=>intro rows b h;cases h with|nil=>rw[(DB .nil Y .nil<|CJ _)]|cons h k0=>have GO:=Lh b;clear b;cases h with|row h=>rw[NQ h λa w h=>?_,Cp (g GO k0) λt BL d j=>U BL ?_,(DB (.one _ a w t) Y (.row h d) j)]| @op _ c mk p r l m o q u=>obtain⟨a,i,rfl,s,YN,k⟩:=qI n GO k0 (B2 _)<|Be 1 7;rw[Cp (g (aE GO) k) λt Bf d f=>U Bf ?_];have e:=mC (c:=c) (mk:=mk) (p:=p) (r:=r) (a:=a) (t:=t) (x:=[]);rw[Ba,Ba]at e;rw[(DB (.Bz c mk p r a t) e (.Bz l m o q s d)<|dA (n:=0) YN f)]
def Fk(S:O Fr):Prop:=∀f∈S,D8 f.p/\D8 f.r
theorem eh{p r:O J}{c:J}(d:D8 p)(b:D8 r):D8<|if c=3 then p else r:=by rw[Ao (λh:c=3=>?_) λh=>?_,U (AM h) d,U (AS h) b]
theorem Fk.BS{S:O Fr}(h:Fk S):∀b∈BS S,D8 b:=by induction S with|nil=>rw[λb m=>by rw[U (B3.mp m) ⟨B2 2,(dc Y)⟩]]|cons f S c=>rw[λb m=>(Cj.mp m).elim (c (λg m=>h g<|.tail _ m) b) λm=>B3.mp m▸eh (h f<|.head _).1 (h f<|.head _).2]
theorem Nx.fk(h:Nx S r b)(k:Fk S):Fk b:=by induction h using Nx.casesOn with|row=>rw[k]|op _ _ d c=>rw[λf m=>(CZ.mp m).elim (λe=>e▸⟨d,c⟩)<|k f]| @mid S p r=>rw[λf m=>(CZ.mp m).elim (λe=>e▸k ⟨4,p,r⟩ (.head _)) λm=>k f<|.tail _ m]|cl=>rw[λf m=>k f<|.tail _ m]
def Gv(S:O Fr):O J:=S.reverse.map Fr.c
theorem Rn:Gv (f::S)=Gv S++[f.c]:=by unfold Gv;rw[U I1<|U Ci ?_];rfl
theorem BV.codes(h:BV S b c):Fk S->Fu b (Gv S)=V (Gv c)/\Fk c:=by induction h with|nil=>rw[λk=>⟨Y,k⟩]| @cons S c u r o h p f=>intro k;(have e:Hw (Gv S) r=V (Gv c):=by clear p;induction h using Nx.casesOn with|row h=>rw[NQ h λa w h=>?_];(cases UA (λd m=>(k.BS d m).1) h with|mk g=>rw[aR g])|op j=>rw[U Rn<|AM j]|mid=>rw[U Rn<|U Rn j9]|cl=>rw[U Rn eU]);rw[(f<|h.fk k).imp (λq=>((U e q):(Hw _ _).bind _=_)) id]
theorem jH:∃a,BS S=B'.res::a:=by induction S with|nil=>rw[⟨_,Y⟩]|cons f S b=>obtain⟨a,e⟩:=b;rw[⟨a++[_],by rw[((U e ?_):BS S++_=_)];rfl⟩]
theorem BV.F9:∀{S},BV S ([0]::HT (Gv S)) []:=by have d:∀{S:O Fr},Nx S [0] S:= .row (Bp _ _ .Kk);intro S;induction S with|nil=>rw[.cons d .nil]|cons f S g=>rw[U Rn<|U kA<|.cons d ?_];have b:∀{f:Fr},BV (f::S) ([[11],[0]]++HT (Gv S)) []:= .cons .cl g;unfold Mine.Internal.F9;rw[Ao (λh:f.c=4=>?_) λh=>?_];(·rw[U (AM h) ?_];obtain⟨c,p,r⟩:=f;cases h;rw[.cons .mid<|.cons d b]);rw[U (AS h) b]
end
section
inductive Pt where
 |no
 |jmp(rest:O Ak)
 |fin(S:O J)
instance:CK Pt:=⟨.no⟩
def Pt.ctorIdx(x:Pt):G:= @Pt.casesOn (λZ=>G) x 0 (λZ=>1) λZ=>2
def D4:O Ak->O J->Pt|[],S=> .fin S|a::f,S=>(Br T S a).elim .no λy=>if y.1=I then .jmp f else D4 f y.2
theorem o5:∀{S a y}(h:Br T S a=V y),y=(I,[])\/y.1=T:=by intros S a y _ h;induction a using Ak.casesOn with|Bv w g=>rw[Hk h λZ Z e=> .inr<|e▸Y]|sel=>rw[Hk h λZ Z e=> .inr<|e▸Y]|jmp b=>rw[Hk h λZ Z e=> .inl e]|bad=>rw[nn h]|mid p r=>rw[IU h λZ e=> .inr<|e▸Y]
theorem ab1:∀{as r},∀{S},match D4 as S with| .no=>DL as r T S=T| .jmp f=>DL as r T S=DL f r I []| .fin g=>DL as r T S=decide (Au T r.reverse g=V []):=by intros as r;induction as with|nil=>rw[Y]|cons a as b=>intro S;rw[(?_:match(Br T S a).elim Pt.no _ with| .no=>((Br T S a).bind _).elim _ _=T| .jmp f=>((Br T S a).bind _).elim _ _=_| .fin g=>((Br T S a).bind _).elim _ _=_)];cases q:Br T S a with|none=>rw[Y]|some y=>rw[((Cz (o5 q) (λe=>?_) λe=>?_):match(if y.1=I then Pt.jmp as else D4 as y.2)with| .no=>DL as r y.1 y.2=T| .jmp f=>DL as r y.1 y.2=_| .fin g=>DL as r y.1 y.2=_),U e Y,U e b]
def BZ(k:G):O J:=Ct k 0
theorem zg:fits a []=I:=by induction a using An<;>rfl
theorem aak:∀{k},fits a (BZ k)=I:=by induction a with|nil=>intro k;induction k using CV<;>rfl|cons x a b=>intro k;induction k using CV with|zero=>rfl|succ k=>rw[fT (λq=>q.2.1 Y) b]
theorem dg:∀{st k},fits a (st++BZ k)=fits a st:=by induction a with|nil=>intro st k;induction st using An<;>induction k using CV<;>rfl|cons x a b=>intro st k;induction st using An with|nil=>rw[aak.trans zg.symm]|cons y st=>rw[A_ (_&&·) b]
theorem jg:(st++BZ k).drop n=st.drop n++BZ (k-(n-st.length)):=by rw[U List.drop_append ?_];unfold BZ;rw[U List.drop_replicate Y]
theorem gB:∀{a st k},Au T a (st++BZ k)=if a.length<=st.length+k then(Au I a st).map (·++BZ (k-(a.length-st.length)))else C:=by
 intros a st k;unfold Au;rw[U dg<|U Aq<|U (show(BZ k).length=k from KU)<|U jg ?_];by_cases q:a.length<=st.length+k;·rw[U (AM q) ?_];by_cases f:fits a st=I;(·rw[U (AM ⟨f,.inr q⟩)<|U (AM ⟨f,.inl Y⟩) ?_];rfl);·rw[U (AS λz=>f z.1)<|U (AS λz=>f z.1) ?_];rfl
 rw[U (AS q)<|U (AS λz=>q<|z.2.resolve_left λy=>nomatch y) Y]
theorem Xv:∀{n k st},(st++BZ k).getD n 0=st.getD n 0:=by intros n k st;rw[U (IP)<|U (IP) ?_,Ao (λq:n<st.length=>?_) λq=>?_,U (Er q) Y];·rw[U (DO<|E1.mp q)<|U (NM<|E1.mp q) ?_];unfold BZ;rw[U (List.getElem?_replicate) ?_,Ao (λz:n-st.length<k=>?_) λz=>?_];(·rw[U (AM z) ?_];rfl);rw[U (AS z) Y]
def isJ:Ak->AL| .jmp _=>I|_=>T
def Ro(a:Ak):Prop:=need a<=3/\J0 a=T
theorem sH:∀{a st k}(h:Ro a),Br T (st++BZ k) a=if need a<=st.length+k then(Br I st a).map λy=>if isJ a=I then(I,[])else(T,y.2++BZ (k-(need a-st.length)))else C:=by intros a st k _ h;induction a using Ak.casesOn with|Bv w g=>intros _ w g _ h;rw[((U gB<|Ao (λq:w.length<=st.length+k=>?_) λq=>?_):(Au T w<|st++BZ k).map _=if w.length<=st.length+k then((Au I w st).map _).map _ else C)];(·rw[U (AM q)<|U (AM q) ?_];cases Au I w st with|none=>rfl|some b=>rw[((U (Bc ..) ?_):V (T,g++(b++BZ _))=V (T,g++b++BZ _))];rfl);·rw[U (AS q)<|U (AS q) ?_];rfl|sel=>rw[(?_:(GW T<|st++BZ k).map _=if 3<=st.length+k then((GW I st).map _).map _ else C)];(have d:∀{x},(if(T=I\/3<=st.length+k)/\F3 (-1) (st.getD 0 0)=I/\isNum (st.getD 1 0)=I/\isNum (st.getD 2 0)=I/\¬(st.getD 1 0≠st.getD 2 0/\st.getD 1 0≠0/\st.getD 2 0≠0)then V ((if st.getD 1 0=0 then st.getD 2 0 else st.getD 1 0)::(st.drop 3++BZ (k-(3-st.length))))else C)=x->GW T (st++BZ k)=x:=λh=>by unfold GW;rw[U Xv<|U Xv<|U Xv<|U Aq<|U ((KU:(BZ k).length=k))<|U jg h]);rw[Ao (λq:3<=st.length+k=>?_) λq=>?_];(·rw[U (AM q)<|Ao (λc:F3 (-1) (st.getD 0 0)=I/\isNum (st.getD 1 0)=I/\isNum (st.getD 2 0)=I/\¬(st.getD 1 0≠st.getD 2 0/\st.getD 1 0≠0/\st.getD 2 0≠0)=>?_) λc=>?_];(·rw[U (d<|AM ⟨.inr q,c⟩)<|U (show GW I st=_ from AM ⟨.inl Y,c⟩) ?_];rfl);·rw[U (d<|AS λz=>c z.2)<|U (show GW I st=C from AS λz=>c z.2) ?_];rfl);·rw[U (AS q)<|U (d<|AS λz=>q<|z.1.resolve_left λy=>(by cases y)) ?_];rfl|jmp w=>intros _ w _ h;rw[((U gB<|Ao (λq:w.length<=st.length+k=>?_) λq=>?_):(Au T w<|st++BZ k).map _=if w.length<=st.length+k then((Au I w st).map _).map _ else C)];(·rw[U (AM q)<|U (AM q) ?_];cases Au I w st<;>rfl);·rw[U (AS q)<|U (AS q) ?_];rfl|bad=>rw[((U (AM<|CJ _) Y):C=if 0<=st.length+k then C else C)]|mid=>rw[nomatch h.2]
theorem abN(b:J0 a=T)(h:Br D st a=V y):if isJ a=I then y=(I,[])else y.1=D:=by induction a using Ak.casesOn with|Bv w g=>rw[Hk h λZ Z e=>e▸Y]|sel=>rw[Hk h λZ Z e=>e▸Y]|jmp c=>rw[Hk h λZ Z e=>e]|bad=>rw[nn h]|mid=>rw[nomatch b]
def ZP(n:G)(b:G->Pt)(d:O J->AL):Prop:=((∀k,n<=k->b k= .no)/\∀r,d r=T)\/(∃a,(∀k,n<=k->b k= .jmp a)/\∀r,d r=DL a r I [])\/∃BP c,c<=n/\(∀k,b k=if c<=k then .fin (BP++BZ (k-c))else .no)/\∀r,d r=decide (Au I r.reverse BP=V [])
theorem ZP.shift:∀{n c p pt' r}(j:c<=3)(h:ZP n p r)(m:∀k,c<=k->pt' k=p (k-c))(u:∀k,k<c->pt' k= .no),ZP (n+3) pt' r:=by intros n c p pt' r _ j h m u;have g:∀{k},n+3<=k->c<=k/\n<=k-c:=λ{k}h=>⟨L j<|L (Be _ _) h,yy j h⟩;rcases h with⟨f,d⟩|⟨b,f,d⟩|⟨o,v,f,d,w⟩;rw[.inl ⟨λk q=>(m k (g q).1).trans<|f _ (g q).2,d⟩,.inr<|.inl<|Aa b (λk q=>(m k (g q).1).trans<|f _ (g q).2) d];·rw[.inr<|.inr<|DI o (v+c) (Cq f j) (λk=>Ao (λq:c<=k=>?_) λq=>?_) w];(·rw[U (m k q)<|U (d ..)<|Ao (λz:v<=k-c=>?_) λz=>?_];(·(rw[U (AM z)<|U (AM<|Nat.add_le_of_le_sub q z)<|U (VR ..) ?_];rw[EL c]at⊢));rw[U (AS z)<|U (AS λy=>z<|m8 y) Y]);rw[U (u k<|IZ.mp q)<|U (AS λy=>q<|L (Be _ _) y) Y]
theorem uB:∀{as},∀{st},(∀a∈as,Ro a)->ZP (3*as.length) (λk=>D4 as<|st++BZ k) (λr=>DL as r I st):=by intros as;induction as with|nil=>rw[λ{st}_=> .inr<|.inr<|DI st 0 (B2 _) (λk=>(AM<|CJ _).symm) λZ=>Y]|cons a as i=>intros _ a as _ i;intros st _ h;have c:=h a (.head _);(have e:∀k,D4 (a::as) (st++BZ k)=(if need a<=st.length+k then(Br I st a).map λy=>if isJ a=I then(I,[])else(T,y.2++BZ (k-(need a-st.length)))else C).elim .no λy=>if y.1=I then .jmp as else D4 as y.2:=λk=>by rw[Ag (sH c) ?_];rfl);have g:∀r,DL (a::as) r I st=((Br I st a).bind λy=>Dv as y.1 y.2).elim T (fin r):=λZ=>Y;cases q:Br I st a with|none=>rw[.inl ⟨λk Z=>(e k).trans ?_,λr=>(g r).trans<|by rw[U q ?_];rfl⟩,U q<|Ao (λz:need a<=st.length+k=>?_) λz=>?_];(·rw[U (AM z) ?_];rfl);·rw[U (AS z) ?_];rfl|some y=>have d:=abN c.2 q;cases f:isJ a with|true=>rw[f]at d;obtain rfl:y=(I,[]):=d;rw[.inr<|.inl<|Aa as (λk b=>(e k).trans ?_) λr=>(g r).trans<|by rw[U q ?_];rfl,U q<|U (AM (L c.1<|L (Be 3<|3*as.length)<|L b<|Be _ _:need a<=st.length+k))<|U f ?_];rfl|false=>rw[f]at d;have:=(i (st:=y.2) λa m=>h a<|.tail _ m).shift (c:=need a-st.length) (L (FJ _ _) c.1) (pt':=λk=>D4 (a::as)<|st++BZ k) (λk b=>?_) (λk b=>?_);rw[U ((GJ λr=>(g r).trans<|by rw[q]at⊢;show DL as r y.1 y.2=_;rw[(d:y.1=I)]at⊢:(λr=>DL (a::as) r I st)=λr=>DL as r I y.2)) this];(·rw[((U (e ..)<|U q<|U (AM<|Nat.sub_le_iff_le_add'.mp b)<|U f ?_):D4 (a::as) (st++BZ k)=_)];rfl);·rw[((U (e ..)<|U (AS<|IZ.mpr<|Nat.add_lt_of_lt_sub' b) ?_):D4 (a::as) (st++BZ k)=_)];rfl
theorem MM:(BZ k).length=k:=KU
theorem Vx:∀{D a S},Au D a S=V []↔fits a S=I/\(D=I\/a.length<=S.length)/\S.length<=a.length:=by intros D a S;unfold Au;rw[Ao (λq:fits a S=I/\(D=I\/a.length<=S.length)=>?_) λq=>?_,U (AM q)<|⟨λh=>⟨q.1,q.2,ja.mp<|AN h⟩,λh=>A_ V<|ja.mpr h.2.2⟩,U (AS q)<|⟨λh=>((by cases h)),λh=>Aj ⟨h.1,h.2.1⟩ q⟩]
theorem sg{S r:O J}:decide (Au T r.reverse S=V [])=(decide (S.length=r.length)&&(Au T r.reverse S).isSome):=by
 rw[Ao (λl:S.length=r.length=>?_) λl=>?_];·rw[U (DD l)<|U (Ki ..) ?_];(have c:r.reverse.length=S.length:=by rw[U Bu<|U l Y]);unfold Au;rw[Ao (λf:fits r.reverse S=I=>?_) λf=>?_];(·rw[U (AM ⟨f,.inr<|C8 c⟩)<|U (J'<|C8 c.symm) ?_];rfl);·rw[U (AS λz=>f z.1) ?_];rfl
 ·rw[U (Dk l)<|U (Vd ..)<|Dk λh=>l<|DE (Vx.mp h) λZ b d=>?_];have b:=b.resolve_left λz=>(by cases z);rw[Bu]at b d;rw[X0 d b]
theorem aF{st r:O J}(h:r.length<st.length):decide (Au I r.reverse st=V [])=T:=Dk λz=>Aj (Vx.mp z).2.2<|by rw[U Bu<|IZ.mpr h]
theorem qp:∀{st r:O J}(h:st.length<=r.length),(st++BZ (r.length-st.length)).length=r.length/\decide (Au I r.reverse st=V [])=(Au T r.reverse<|st++BZ (r.length-st.length)).isSome:=by
 intros st r _ h;have b:(st++BZ (r.length-st.length)).length=r.length:=by rw[U Aq<|U MM<|U (Nat.add_sub_cancel' h) Y]
 rw[⟨b,?_⟩];have e:(Au T r.reverse<|st++BZ (r.length-st.length)).isSome=decide (fits r.reverse st=I):=by unfold Au;rw[U dg<|Ao (λf:fits r.reverse st=I=>?_) λf=>?_];(·rw[U (AM ⟨f,.inr<|by rw[b,Bu]at⊢;rw[B2 _]⟩)<|U (DD f) ?_];rfl);·rw[U (AS λz=>f z.1)<|U (Dk f) ?_];rfl
 rw[U e<|Qf.mpr<|Vx.trans ⟨λz=>z.1,λz=>(BX z (.inl Y)<|by rw[U Bu h])⟩]
theorem oP{st}{c K E:G}(b:c<=K):((K:J)+E-((st++BZ (K-c)).length:G):J)=(E:J)+c-st.length:=by rw[U Aq<|U MM ?_];lia
theorem iU{n c E:G}(h:0<=(E:J)+c-n):c<=((E:J)+c-n).toNat↔n<=E:=by have b:n<=E+c:=DM.mp (lF.mp h);rw[U (((QW b).symm:(E:J)+c-n=((E+c-n:G):J)))<|(Nat.le_sub_iff_add_le b).trans<|EL E c▸Nat.add_le_add_iff_left]
theorem oQ{n c E:G}(h:n<=E):((E:J)+c-n).toNat-c=E-n:=by rw[xE (Nat.exists_eq_add_of_le h) λk b=>U b ?_,U (((A_ (·-(n:J))<|(Int.add_assoc n k c).trans<|XQ _ _).trans<|k7 _ _:((n+k:G):J)+c-n=((k+c:G):J)))<|U (Ma ..)<|eD k c]
def Wo(A:O Ak)(p r:O J)(j:G)(a:O J):Prop:=(j=0/\a=p.reverse)\/(0<j/\a=BZ (3*(A.length-j)+r.length)/\DL A r T p.reverse=DL (A.drop j) r I [])
theorem abZ:∀{A}{p r e j}(h:Wo A p r j e)(ok:∀a∈A,Ro a),match D4 (A.drop j) e with| .no=>DL A r T p.reverse=T| .jmp f=>DL A r T p.reverse=DL f r I []| .fin g=>(j=0/\DL A r T p.reverse=(decide (g.length=r.length)&&(Au T r.reverse g).isSome))\/(0<j/\∃BP c,c<=e.length/\g=BP++BZ (e.length-c)/\(∀k,D4 (A.drop j) (BZ k)=if c<=k then .fin (BP++BZ (k-c))else .no)/\DL A r T p.reverse=decide (Au I r.reverse BP=V [])):=by
 intros A p r e j _ h ok;rcases h with⟨rfl,rfl⟩|⟨o,rfl,l⟩;·have:=ab1 (as:=A) (S:=p.reverse) (r:=r);rw[U lP ?_];revert this;cases D4 A p.reverse with|no=>rw[λh=>h]|jmp f=>rw[λh=>h]|fin g=>rw[λh=> .inl ⟨Y,h.trans sg⟩]
 ·have n:(BZ<|3*(A.length-j)+r.length).length=3*(A.length-j)+r.length:=MM;(have i:3*(A.drop j).length<=3*(A.length-j)+r.length:=by rw[U GS<|BJ _ _]);rcases uB (as:=A.drop j) (st:=[]) λa m=>ok a<|ak m with⟨b,d⟩|⟨f,b,d⟩|⟨BP,c,b,d,q⟩;rw[U (show D4 (A.drop j) (BZ _)= .no from b _ i)<|l.trans<|d r,U (show D4 (A.drop j) (BZ _)= .jmp f from b _ i)<|l.trans<|d r,U (show D4 (A.drop j) (BZ _)=_ from(d<|3*(A.length-j)+r.length).trans (AM<|L b i))<|.inr ⟨o,BP,c,by rw[U n<|L b i],by rw[U n Y],d,l.trans<|q r⟩]
theorem zv:∀{r b:O J}{c K:G}{a:AL}{k:J}(j:c<=K)(m:a=decide (Au I r.reverse b=V []))(d:k=(K:J)+r.length-((b++BZ (K-c)).length:G)),(k<0->a=T)/\(0<=k->(c<=k.toNat->a=(decide ((b++BZ (k.toNat-c)).length=r.length)&&(Au T r.reverse<|b++BZ (k.toNat-c)).isSome))/\(¬c<=k.toNat->a=T)):=by intros r b c K a k _ j m d;rw[oP j]at d;subst d m;rw[⟨λh=>aF<|by lia,λh=>⟨λf=>?_,λf=>aF<|IZ.mp λz=>f<|(iU h).mpr z⟩⟩];have g:=(iU h).mp f;rw[U (oQ g)<|xA (qp g) λp o=>U (DD p)<|U (Ki ..) o]
end
section
/-! a block's two parts -/
def CG:Ns->Ns| .nil=> .nil| .one r a w t=> @BG (λZ=>Ns) (J0 a) (.one r a w<|CG t) .nil| .Bz c mk p r a t=> .Bz c mk p r a (CG t)
def Dn:Ns->AO Ns| .nil=>C| .one _ a _ t=> @BG (λZ=>AO Ns) (J0 a) (Dn t) (V t)| .Bz _ _ _ _ _ t=>Dn t
inductive RQ(M:AO<|O J×O J)(L:O<|O J)(a:Ns):Prop
 |mk(pre:CL C L<|CG a)(dp:dep (CG a)<=dep a)(mid:GB a=(Dn a).isSome)(fl:flat a=flat (CG a)++(Dn a).elim [] λb=>[5]::flat b)(no:Dn a=C->CG a=a)(ac:∀b,Dn a=V b->∃p r,M=V (p,r)/\CL C L b/\dep b<=dep a/\Ay a=Ay (CG a)++ .mid p r::Ay b)(ht:∀s h,iT a s h=iT (CG a) s h++(Dn a).elim [] λb=>iT b s s)
theorem Rw.nm(h:Rw f r a w):J0 a=T:=by induction h using Rw.casesOn<;>rfl
theorem RQ.row:∀{M:AO (O J×O J)}{L:O (O J)}{r:O J}{a:Ak}{w:G}{t:Ns}(h:∀{t},CL C L t->CL C L (.one r a w t))(f:J0 a=T)(g:RQ M L t),RQ M L<|.one r a w t:=by intros M L r a w t _ h f g;have d:Dn (.one r a w t)=Dn t:=A_ (λb=> @BG (λZ=>AO Ns) b (Dn t)<|V t) f;have c:CG (.one r a w t)= .one r a w (CG t):=A_ (λb=> @BG (λZ=>Ns) b (.one r a w<|CG t) .nil) f;have D:GB (.one r a w t)=GB t:=A_ (·||GB t) f;obtain⟨i,B,A,z,y,v,u⟩:=g;rw[⟨c▸h i,c▸B,d▸D▸A,?_,λe=>?_,λb e=>?_,λs h=>?_⟩,U d<|U c<|A_ (r::·) z,U c<|U (y<|d▸e) Y,U c<|Em (v b<|d▸e) λq p o m k j=>(Fq q p o m k<|A_ (a::·) j),U d<|U c<|A_ (h::·)<|u s _]
theorem CL.parts(h:CL M i a):RQ M i a:=by induction h with|nil=>rw[⟨.nil,B2 _,Y,Y,λZ=>Y,λZ z=>nn z,λZ Z=>Y⟩]| @mid p r i t g j=>rw[⟨.nil,CJ _,Y,Y,λz=>nn z.symm,λb e=>by(replace e:=AN e;subst e);rw[(Fq p r Y g (B2 _) Y)],λZ Z=>Y⟩]| @Bz M i c f p r a t y v u q A g o d=>have F:Dn (.Bz c f p r a t)=Dn t:=Y;have G:CG (.Bz c f p r a t)= .Bz c f p r a (CG t):=Y;rw[⟨.Bz y v u q A d.1,?_,d.3,?_,λe=>A_ (Ns.Bz c f p r a)<|d.5 e,λb e=>?_,λs h=>?_⟩,Nat.max_le.mpr ⟨Q8 _ _,L d.2<|MU _ _⟩,((U Md<|U (Bc ..)<|U Md<|Ag d.4 Y):[c,f]::(flat a++[11]::flat t)=([c,f]::(flat a++[11]::flat (CG t)))++(Dn t).elim _ _),Em (d.6 b e) λm k E D C B=>(Fq m k E D (L C<|MU _ _)<|A_ (_::·) B),(?_:_::(_++iT t s _)=(_::(_++iT (CG t) s _))++(Dn t).elim _ _),U (d.7 ..)<|U Md<|U (Bc ..) Y]| @row M i r a w t h g j=>rw[RQ.row (.row h) h.nm j]
theorem qg:∀{c d},∀{D}{st},Dv (c++d) D st=(Dv c D st).bind λy=>Dv d y.1 y.2:=by intros c d;induction c with|nil=>rw[Y]|cons a c b=>intro D st;rw[(?_:(Br D st a).bind _=((Br D st a).bind _).bind _)];cases Br D st a with|none=>rfl|some y=>rw[b]
def KH(c:J)(p r:O J)(a:Ns):AL:=(Dv (Ay a) T p.reverse).elim T<|Qs (HA c a) p r
def VB(c:J)(p r:O J)(a:Ns):AL:=DL (Ay<|CG a) r T p.reverse&&(Dn a).elim (decide<|c=4->p=r) λb=>DL (Ay b) r T p.reverse
theorem mQ:∀{L}{c}{p r}{a}(h:CL (if c=4 then V (p,r)else C) L a),KH c p r a=VB c p r a:=by intros L c p r a _ h;have P:=h.parts;unfold KH VB;cases e:Dn a with|none=>rw[U (P.5 e) ?_];show(Dv (Ay a) T p.reverse).elim _ _=((Dv (Ay a) T p.reverse).elim _ _&&decide _);(cases Dv (Ay a) T p.reverse with|none=>rfl|some y=>show decide (_/\(HA c a=4->p=r))=(decide _&&decide _);rw[U ((by unfold HA;rw[(by rw[U P.3<|U e ?_];rfl:GB a=T)]at⊢:HA c a=c))<|U (Yn ..) Y])|some b=>intros _ b _ e;rw[Em (P.6 b e) λd f e1 Z Z e4=>?_];(obtain⟨rfl,rfl⟩:p=d/\r=f:=IU e1 λZ e=>by rw[xA (Prod.mk.inj e) λBL Bf=>U BL<|U Bf ?_,⟨Y,Y⟩]);rw[U e4<|U qg<|(?_:_=((Dv (Ay<|CG a) T p.reverse).elim _ _&&(Dv (Ay b) T p.reverse).elim _ _))];cases Dv (Ay<|CG a) T p.reverse with|none=>rfl|some y=>rw[((Ao (λg:Au y.1 r.reverse y.2=V []=>?_) λg=>?_):((if Au y.1 r.reverse y.2=V []then V (T,p.reverse)else C).bind λz=>Dv (Ay b) z.1 z.2).elim _ _=(decide (Au y.1 r.reverse y.2=V [])&&_))];(·rw[U (AM g)<|U (DD g)<|U (Ki ..)<|(?_:(Dv (Ay b) T p.reverse).elim _ _=_)];cases Dv (Ay b) T p.reverse with|none=>rfl|some z=>show decide (_/\(HA c a=4->p=r))=decide _;rw[U ((by unfold HA;rw[(by rw[U P.3<|U e ?_];rfl:GB a=I)]at⊢:HA c a=5)) ?_,Qf.mpr ⟨λq=>q.1,λq=>⟨q,λz=>Aj z<|(dc Y)⟩⟩]);·rw[U (AS g)<|U (Dk g) ?_];rfl
theorem v7(h:p.length<=2):(Cb c p).length<=3:=by unfold Cb;by_cases z:c=4;rw[U (AM z)<|U IB<|U Bu<|Ce h,U (AS z)<|U Bu<|FI h]
theorem oz(h:p.length<=2):Ro<|HL c p r o:=by induction o using BG with|false=>rw[⟨CJ _,Y⟩]|true=>rw[⟨v7 h,Y⟩]
theorem CL.ab0(h:CL M f t):M=C->(∀g∈f,g.length<=2)->∀a∈Ay t,Ro a:=by induction h with|nil=>rw[λZ Z Z m=>(by cases m)]|row h _ c=>rw[λe b a m=>(CZ.mp m).elim (λq=>by cases UA b h;rw[U q ⟨by assumption,by assumption⟩])<|c e b a]|mid=>rw[λe=>(by cases e)]|Bz _ _ d _ _ _ _ c=>rw[λe b a m=>(CZ.mp m).elim (λq=>q▸oz d.1)<|c e b a]
end
section
abbrev Rel(a:Type):=a->MV->MH->O (G×G)->Prop
def Az{e:Type}(A:CA)(H:MH)(at_:J)(d:Rel e)(r:PR e)(Q:MV->MH->Prop)(E:C_->MH->Prop):Prop:=match r with| .ok a f=>∀b c v,Core A b at_ c f->BN A H b->d a v b c->Q v b| .fail w=>∀b,BN A H b->E ⟨.str w,.int A.env.fn,.int at_⟩ b| .big=>BB
section
variable{A:CA}{H:MH}{at_:AD}{Q:MV->MH->Prop}{E:C_->MH->Prop}
theorem Az.step(f:BN A H b)(P:Az A H at_ h r Q E):Az A b at_ h r Q E:=by induction r using PR.casesOn with|ok a m=>rw[λj g v c d=>P j g v c<|f.trans d]|fail w=>rw[λj d=>P j<|f.trans d]|big=>rw[P]
theorem Az.bindB{j o:Type}{i d r}{f:j->BK->PR o}{p b}(P:Az A b at_ d (r.bind f) p E)(q:BN A b H)(k:∀a l g h v,r= .ok a l->Core A g at_ h l->BN A H g->i a v g h->Az A b at_ d (f a l) p E->Q v g):Az A H at_ i r Q E:=by induction r using PR.casesOn with|ok a l=>rw[λg h v c m e=>k a l g h v Y c m e P]|fail w=>rw[λg m=>P g<|q.trans m]|big=>rw[P]
theorem Az.Cf{c:Type}{d:Rel c}{p:Prop}{i:Dh p}{a b:PR c}(P:Az A H at_ d (if p then a else b) Q E)(h:p):Az A H at_ d a Q E:=by rw[AM h]at P;rw[P]
theorem Az.Co{c:Type}{d:Rel c}{p:Prop}{i:Dh p}{a b:PR c}(P:Az A H at_ d (if p then a else b) Q E)(h:¬p):Az A H at_ d b Q E:=by rw[AS h]at P;rw[P]
theorem Az.aM{c d j:Type}{e:Rel d}{p:Prop}{i:Dh p}{r:PR j}{g:j->BK->PR c}{b:PR c}{f:c->BK->PR d}(P:Az A H at_ e ((if p then r.bind g else b).bind f) Q E)(h:p):Az A H at_ e (r.bind λa s=>(g a s).bind f) Q E:=by replace P:=(AM h)▸P;induction r using PR.casesOn<;>exact P
theorem Az.bF{b c:Type}{d:Rel c}{p:Prop}{i:Dh p}{a:PR b}{x:b}{s:BK}{f:b->BK->PR c}(P:Az A H at_ d ((if p then a else .ok x s).bind f) Q E)(h:¬p):Az A H at_ d (f x s) Q E:=by rw[AS h]at P;rw[P]
theorem Az.done(P:Az A H at_ g (.ok a h) Q E)(c:Core A b at_ bs' h)(f:BN A H b)(e:g a v b bs'):Q v b:=P _ _ _ c f e
end
def Sj(c:O<|G×G):Rel J:=λa v Z b=>v= .int a/\b=c
def Eu(b:O<|G×G):Rel BF:=λZ v Z a=>v= .none/\a=b
def IV:Rel BF:=λZ v Z Z=>v= .none
section
variable{N d:AE}{A:CA}{H:MH}{at_:AD}{bs:AB (AE×AE)}{s:BK}{Q:MV->MH->Prop}{E:C_->MH->Prop}
theorem Az.of(P:Az A H at_ g ((PR.of s o).bind f) Q E):∃a,o=V a/\Az A H at_ g (f a s) Q E:=by induction o using C4 with|none=>rw[P.elim]|some a=>rw[(Aa a Y P)]
theorem Core.attr(c:Core A H at_ bs s)(f:tb.P.Fd 3 k=C)(b:Cd (.str k) (Hh A at_)=V v)(q:Q v H):(Ml tb.P H (.ref A.sc) k).wp Q E:=Qe c.1 c.2 f b q Y
theorem Core.kind(c:Core A H at_ bs s){k f n}(g:tb.P.Fd 3 k=V f)(b:Cd (.str k) (Hh A at_)=C):MW tb.P H (.ref A.sc) k n=V (.fn f):=dY c.1 c.2 g b ((dc Y)) Y
theorem Core.ev(c:Core A H at_ bs s){a k v}(e:a 0=V (.ref A.sc))(f:tb.P.Fd 3 k=C)(b:Cd (.str k) (Hh A at_)=V v):Ev N I d a H (.attr (.loc 0) k) v:=Ev.attr (Ev.loc e)<|GC<|c.attr f b ⟨Y,Y⟩
theorem Core.BA(c:Core A H at_ bs s)(e:a 0=V (.ref A.sc))(j:tb.P.Fd 3 k=V f)(g:Cd (.str k) (Hh A at_)=C)(b:Ai N I d a H i l)(h:(BR tb.P FF N d I f (.ref A.sc::l) H).wp Q E):Ee N I d E a H (.BA (.loc 0) k i) Q:=Ee.BA (Ev.loc e) (c.kind j g) b h
theorem Az.Iz{o}{c:Rel o}{r f p}{b:MH}(P:Az A b at_ c (r.bind f) p E)(q:BN A b H)(k:∀a h g,Core A g at_ bs h->BN A H g->Az A b at_ c (f a h) p E->Q (.int a) g):Az A H at_ (Sj bs) r Q E:=P.bindB q λa h g y v Z w u e P=>by(rw[xA e λm j=>?_];clear e;rw[U m ?_];subst j);rw[k a h g w u P]
theorem Az.Xz{o}{c:Rel o}{r f p}{b:MH}(P:Az A b at_ c (r.bind f) p E)(q:BN A b H)(k:∀a h g,Core A g at_ bs h->BN A H g->Az A b at_ c (f a h) p E->Q .none g):Az A H at_ (Eu bs) r Q E:=P.bindB q λa h g y v Z w u e P=>by(rw[xA e λm j=>?_];clear e;rw[U m ?_];subst j);rw[k a h g w u P]
theorem rl(c:Core A H at_ bs s)(P:E ⟨.str w,.int A.env.fn,.int at_⟩ H):(BR tb.P FF N (d+1) I 11 [.ref A.sc,.str w] H).wp Q E:=by rw[Cg Y Y ?_];simp only [D6];rw[Wc.raise (Ev.loc Y) (c.ev Y Y Y) (c.ev Y Y Y) P]
theorem Core.fail(c:Core A H at_ bs s)(a:f 0=V (.ref A.sc))(P:E ⟨.str w,.int A.env.fn,.int at_⟩ H):Ee N I (d+1) E f H (.BA (.loc 0) 9 [.con<|.str w]) Q:=c.BA a Y Y (Ai.one Ev.con)<|rl c P
theorem BH(l:O J):(il l).length=l.length:=CO _
theorem ints_app(l:O J)(k:J):il l++[.int k]=il (l++[k]):=by simp [il]
theorem aY(l:O J):(il l).getLast?=l.getLast?.map .int:=by simp [il,aV]
theorem j3(l:O J):(il l).dropLast=il l.dropLast:=by simp [il,gc]
theorem Az.unit(P:Az A H at_ (Eu bs) r Q E):Az A H at_ (Eu bs) r (λZ H=>Q .none H) E:=by induction r using PR.casesOn with|ok a m=>rw[λk j v c f e=>by(rw[xA e λg b=>?_];clear e;subst g;subst b);rw[P k _ _ c f ⟨Y,Y⟩]]|fail w=>rw[P]|big=>rw[P]
theorem dZ(c:Core A H at_ bs s)(P:Az A H at_ (Eu bs) (H9 k s) Q E):(J_ a (.lm .append A.vl) (.ref A.vl) [.int k] H).wp Q E:=by
 unfold H9 at P;split at P;·rename_i h;rw[Nz c.3 (by rw[U (BH ..) ?_];unfold lim at h;unfold Bj;lia) ?_,U (ints_app ..)<|P.done (c.YC _<|by simp;unfold lim at*;lia) (VJ c) ⟨Y,Y⟩]
 rw[P.elim]
theorem Rd(c:Core A H at_ bs s)(P:Az A H at_ (Eu bs) (H9 k s) Q E):(BR tb.P FF N (d+1) I 12 [.ref A.sc,.int k] H).wp Q E:=by rw[Cg Y Y ?_];simp only [D6];rw[Wc.expr<|Ee.BA (c.ev Y Y Y) (Hu c.3 Y Y) (Ai.one<|Ev.loc Y)<|dZ c P.unit]
theorem gq(c:Core A H at_ bs s)(e:a 0=V (.ref A.sc))(b:a x=V (.int k))(P:Az A H at_ (Eu bs) (H9 k s) (λZ H=>f .next a H) E):Wc N I d f E [.expr<|.BA (.attr (.loc 0) 47) 0 [.loc x]] a H:=Wc.expr<|Ee.BA (c.ev e Y Y) (Hu c.3 Y Y) (Ai.one<|Ev.loc b)<|dZ c P
theorem Na:∀{N d A H b e s Q E l}(c:Core A H b e s)(P:Az A H b (Eu e) (Dd l s) Q E),(BR tb.P FF N (d+1) I 13 [.ref A.sc,.tup<|il l] H).wp Q E:=by
 intros N d A H b e s Q E l;intro c P;rw[Cg Y Y ?_];simp only [D6];rw[Wc.Hv (Ai.one<|Ev.loc Y) Y (λp j H=>∃g m,p=il g/\Core A H b e m/\j 0=V (.ref A.sc)/\Az A H b (Eu e) (Dd g m) Q E) (λv p j H a=>?_) (λj H a=>?_)<|Fq l s Y c Y P];intros _ v p j H _ a;·(rw[Em a λg m o z w C=>?_];clear a);induction g using An with|nil=>cases o|cons k g=>rw[xA (Cs o) λu r=>U u<|U r ?_,(Aa _ Y<|gq z w Y<|Az.Xz C (BN.refl _ _) λZ q D y f B=>(Fq g q Y y w<|B.step f))]
 ·(rw[Em a λg m o z w C=>?_];clear a);induction g using An with|cons k g=>cases o|nil=>rw[C.done z (BN.refl _ _) ⟨Y,Y⟩]
theorem yt(h:H[i]?=V (.list fz l)):EU H .val [.ref i]=V (.lst i):=map_eq (F4 h) Y
theorem vF:∀{N d A H b t s Q E l}{i:G}{fz}(n:2000000<=N)(c:Core A H b t s)(q:H[i]?=V (.list fz<|il l))(B:i≠A.vl)(z:i≠A.bl)(C:l.length<=lim)(P:Az A H b (Eu t) (Dd l s) Q E),(BR tb.P FF N (d+1) I 13 [.ref A.sc,.ref i] H).wp Q E:=by
 intros N d A H b t s Q E l i fz;intro n c q B z C P;rw[Cg Y Y ?_];simp only [D6];rw[Wc.F_ (l:=il l) (Ai.one<|Ev.loc Y) (yt q) (λj g H=>∃o,Core A H b t o/\g 0=V (.ref A.sc)/\H[i]?=V (.list fz<|il l)/\Az A H b (Eu t) (Dd (l.drop j) o) Q E) (λj g H a=>?_) (λj v g H F a=>?_) (λg H a=>?_) (K6 s c Y q P)<|by rw[U (BH ..) ?_];unfold lim at C;lia,RK a λZ Z Z h Z=>⟨fz,h⟩];intros _ j v g H _ F a;·rw[RK a λo w r h m=>Bo (by rw[Ag F ?_];simp [il]:(l[j]?).map MV.int=V v) λk D e=>?_,Ag e ?_];rw[I8 (DP.mp D).1,(DP.mp D).2]at m;rw[(Aa _ Y<|gq w r Y<|Az.Xz m (BN.refl _ _) λZ p J u f y=>(K6 p u r (f.2 _ _ h B z<|.inl Y)<|y.step f))]
 ·rw[RK a λo w r h m=>?_];rw[BH,Vr]at m;rw[m.done w (BN.refl _ _) ⟨Y,Y⟩]
theorem Core.last(c:Core A H at_ bs s)(g:s.C'.getLast?=V b):∃a,bs.getLast?=V a/\H[a.1]?=V (.inst 2 a.2)/\H[a.2]?=V (.dict T<|EB b)/\EA H (.ref A.bl) (.int<|-1)= .ok (.ref a.1) H:=by rw[Cp (c.5.last g) λa f m k=>(K6 a f m k<|GC<|Pd (j:=bs.length-1) c.4 ?_ ?_ ⟨Y,Y⟩),U (CO ..)<|cK (by intro e;rw[nn<|(Oq.mp e)▸f]:bs.length≠0)];·rw[U (FX) ?_];replace f:=(So)▸f;rw[U f ?_];rfl
theorem vc{a:G×G}(j:H[a.1]?=V (.inst 2 a.2))(g:H[a.2]?=V (.dict T<|EB b))(f:tb.P.Fd 2 k=C)(c:Cd (.str k) (EB b)=V v)(q:Q v H):(Ml tb.P H (.ref a.1) k).wp Q E:=Qe j g f c q Y
theorem F7{a:G×G}(c:Ev N I d h H o<|.ref a.1)(m:H[a.1]?=V (.inst 2 a.2))(j:H[a.2]?=V (.dict T<|EB b))(g:tb.P.Fd 2 k=C)(f:Cd (.str k) (EB b)=V v):Ev N I d h H (.attr o k) v:=Ev.attr c<|GC<|vc m j g f ⟨Y,Y⟩
theorem Core.top(c:Core A H at_ bs s){a:G×G}(e:f 0=V (.ref A.sc))(b:EA H (.ref A.bl) (.int<|-1)= .ok (.ref a.1) H):Ev N I d f H (.sub (.attr (.loc 0) 48)<|.con<|.int<|-1)<|.ref a.1:=Ev.sub (c.ev e Y Y) Ev.con b
theorem Core.OR(c:Core A H at_ bs s)(a:f 0=V (.ref A.sc)):Ev N I d f H (.E8 .len<|.attr (.loc 0) 47)<|.int s.vals.length:=by rw[Ag (BH ..)<|Ev.len (c.ev a Y Y)<|MZ c.3]
theorem Uw:∀{N d A H f e s Q E}(c:Core A H f e s)(P:Az A H f (Sj e) (Ft s) Q E),(BR tb.P FF N (d+2) I 14 [.ref A.sc] H).wp Q E:=by
 intros N d A H f e s Q E;intro c P;unfold Ft at P;injection P.of with b _ o P;injection(c.last o)with a _ p k j g;rw[Cg Y Y ?_];simp only [D6];rw[Wc.Iv (c.top Y g)<|Wc.yl (Ev.cmp (c.OR Y) (F7 (Ev.loc Y) k j Y Y) cmp_gt) (λh=>?_) λh=>?_];·replace P:=P.Cf (Du.mp h);rw[Wc.ret<|Ee.BA (c.ev Y Y Y) (Hu c.3 Y Y) Ai.nil<|AY P.of λv m P=>?_,X8 c.3 (by rw[U (aY ..)<|U m ?_];rfl) ?_,U (j3 ..)<|P.done (c.YC _<|by rw[U Ob<|L (FJ _ _) c.14]) (VJ c) ⟨Y,Y⟩]
 ·replace P:=P.Co (λz=>h<|Du.mpr z);rw[Wc.Ol (Ev.not<|F7 (Ev.loc Y) k j Y Y) (λh=>?_) λh=>?_,Wc.expr<|c.fail Y<|(P.Co<|by simpa using h) _<|BN.refl _ _,Wc.FN (Ev.glob Y)<|(P.Cf<|by simpa using h).done c (BN.refl _ _) ⟨Y,Y⟩]
end
end
section
section
theorem Of:∀{N d A H b a s Q E}{k}(c:Core A H b a s)(P:Az A H b (Sj a) (D5 k s) Q E),(BR tb.P FF N (d+3) I 15 [.ref A.sc,.int k] H).wp Q E:=by intros N d A H b a s Q E k;intro c P;rw[Cg Y Y ?_];simp only [D6];rw[Wc.asg<|c.BA Y Y Y Ai.nil<|Uw c<|P.Iz (BN.refl _ _) λf m o j g P=>Wc.CC (Ed.Mj (Ed.ne (Ev.loc Y)<|Ev.loc Y) (Ed.ne (Ev.loc Y)<|Ev.glob Y)<|Ed.ne (Ev.loc Y)<|Ev.glob Y) (λh=>?_) λh=>?_,Wc.expr<|j.fail Y<|(P.Cf h) _ g,Wc.FN (Ev.loc Y)<|(P.Co h).done j g ⟨Y,Y⟩]
theorem rd{H:MH}{n:G}(h:n<=16777216):EU H .range [.int<|(n:J)-1,.int<|-1,.int<|-1]=V (.seq<|JZ ((n:J)-1)<|-1):=by rw[AM (by lia:(-1:J)<=(n:J)-1/\(n:J)-1<=16777216/\(-1:J)= -1/\(-1:J)= -1)]
theorem lL:∀(n:G),JZ (((n+1:G):J)-1) (-1)= .int n::JZ ((n:J)-1) (-1):=by
 intros n;unfold JZ;rw[U (by rw[Int.sub_neg,ZI]at⊢;rfl:(((n+1:G):J)-1- -1).toNat=n+1)<|U (by rw[Int.sub_neg,ZI]at⊢;rfl:((n:J)-1- -1).toNat=n)<|U List.range_succ_eq_map<|U M4<|U TS ?_];congr 1;·congr 1;lia
 ·rw[XP λj Z=>(?_:MV.int _=MV.int _)];congr 1;simp only [Nat.succ_eq_add_one];lia
def OQ(b:O<|G×G)(A:CA)(V2:MH):Rel<|O J:=λl v c a=>a=b/\∃i,v= .ref i/\c[i]?=V (.list T<|il l)/\V2.length<=i/\i≠A.vl/\i≠A.bl/\i≠A.kl/\i≠A.fl
theorem bI(c:Core A H at_ a s):H.length≠A.vl/\H.length≠A.bl/\H.length≠A.kl/\H.length≠A.fl:=by rw[(Dx (JL<|DH c.3) (JL<|DH c.4) (JL<|DH c.7)<|JL<|DH c.8)]
theorem Az.bindL(P:Az A V2 at_ tJ (r.bind f) g E)(fr:BN A V2 H)(k:∀l c b i,r= .ok l c->Core A b at_ h c->BN A H b->b[i]?=V (.list T<|il l)->i≠A.vl/\i≠A.bl/\i≠A.kl/\i≠A.fl->Az A V2 at_ tJ (f l c) g E->Q (.ref i) b):Az A H at_ (OQ h A H) r Q E:=P.bindB fr λa c b d v j m n e P=>by obtain⟨rfl,i,rfl,o,_,p⟩:=e;rw[k a c b i j m n o p P]
theorem zd:∀{A H b Q E}{k}{c}{g}{d}{a}(P:Az A H b a ((Fv (c++[k]).reverse d).bind λm s=> .ok (g++m).reverse s) Q E),Az A H b a ((D5 k d).bind λf s=>(Fv c.reverse s).bind λm s=> .ok (g++f::m).reverse s) Q E:=by intros A H b Q E k c g d a;intro P;rw[Rl]at P;revert P;rw[(?_:Az A H b _ (((D5 k d).bind λf s=>(Fv c.reverse s).bind λg s=> .ok (f::g) s).bind _) Q E->_)];cases D5 k d with|ok f j=>intros _ f j;rw[(?_:Az A H b _ (((Fv c.reverse j).bind λg s=> .ok (f::g) s).bind _) Q E->Az A H b _ ((Fv c.reverse j).bind _) Q E)];cases Fv c.reverse j<;>exactλP=>P|fail w=>rw[λP=>P]|big=>rw[λP=>P]
inductive Z6(A:CA)(H:MH)(at_:J)(bs:O<|G×G)(l:O J)(Q:MV->MH->Prop)(E:C_->MH->Prop)(l1 l2 fs:O J)(s':BK)(vs:O MV)(ρ:Loc)(H':MH):Prop
 |mk(e:l=l1++l2)(v:vs=JZ ((l1.length:J)-1) (-1))(h0:ρ 0=V (.ref A.sc))(h1:ρ 1=V (.tup<|il l))(h2:ρ 2=V (.ref H.length))(c:Core A H' at_ bs s')(fr:BN A H H')(hf:H'[H.length]?=V (.list T<|il fs))(hn:fs.length+l1.length=l.length)(P:Az A H at_ (OQ bs A H) ((Fv l1.reverse s').bind λgs s=> .ok (fs++gs).reverse s) Q E)
theorem XX(b:BN A H c):BN A H<|c.set H.length o:=⟨by rw[U Nw b.1],λi o e j g f=>Bl (b.2 i o e j g f)<|DK<|DZ<|DH e⟩
theorem yK:∀{N d A H o i Q E}{l b w y}{k}{n}{s}{h}{u}{j}(m:H.length≠A.vl/\H.length≠A.bl/\H.length≠A.kl/\H.length≠A.fl)(C:l.length<=lim)(a:Z6 A H o i l Q E (b++[k]) w y n s h u)(q:∀f c p,Z6 A H o i l Q E b (k::w) (y++[f]) c (JZ ((b.length:J)-1)<|-1) (upd h 3<|.int b.length) p->j .next (upd h 3<|.int b.length) p),Wc N I (d+3) j E [.expr<|.BA (.loc 2) 0 [.BA (.loc 0) 1 [.sub (.loc 1)<|.loc 3]]] (upd h 3<|.int b.length) u:=by
 intros N d A H o i Q E l b w y k n s h u j;intro m C a q;have e:=a.1;have B:=a.9;have D:EA u (.tup<|il l) (.int b.length)= .ok (.int k) u:=by rw[GC<|LW (j:=b.length) (v:= .int k) (LD ?_) ?_ ⟨Y,Y⟩,U (BH ..)<|U e<|U (Bc ..)<|U Aq<|Mu<|FA _];·rw[U e ?_];simp [il]
 rw[Wc.expr<|Ee.N0 (Ev.loc a.5) (Hu a.8 Y Y)<|a.6.BA a.3 Y Y (Ai.one<|Ev.sub (Ev.loc a.4) (Ev.loc Y) D)<|Of a.6<|(zd a.10).Iz a.7 λf c p z r P=>?_];have g:=r.2 _ _ a.8 m.1 m.2.1 (.inl Y);rw[Nz g (by rw[U (BH ..) ?_];unfold lim at C;unfold Bj;simp at B;lia)<|q f c _ ?_,U (ints_app ..) ⟨by rw[U e ?_];simp,Y,a.3,a.4,a.5,z.WM g m.1 m.2.1 m.2.2.1 m.2.2.2,XX<|a.7.trans r,KL g,by simp at B⊢;lia,by simpa using P⟩]
theorem Jc:∀{N d A H at_ e s Q E}{l}(c:Core A H at_ e s)(p:l.length<=lim)(P:Az A H at_ (OQ e A H) (DG l s) Q E),(BR tb.P FF N (d+4) I 16 [.ref A.sc,.tup<|il l] H).wp Q E:=by
 intros N d A H at_ e s Q E l;intro c p P;have h:=bI c;have r:Az A H at_ (OQ e A H) ((Fv l.reverse s).bind λt s=> .ok ([]++t).reverse s) Q E:=P;have u:EU (H++[.list T []]) .range [.int<|(il l).length-1,.int<|-1,.int<|-1]=V (.seq<|JZ ((l.length:J)-1)<|-1):=by rw[U (BH ..)<|rd<|by unfold lim at p;lia]
 rw[Cg Y Y ?_];simp only [D6];rw[Wc.asg<|Ee.list Ai.nil (B6 Y) ?_,Wc.Hv (Ai.cons (Ev.min (Ev.len (Ev.loc Y) Y) Ev.con)<|Ai.cons Ev.con<|Ai.one Ev.con) u (λq j m=>∃i n g o,Z6 A H at_ e l Q E i n g o q j m) (λv q j m a=>?_) (λj m a=>?_) ⟨l,[],[],s,by simp,Y,Y,Y,Y,c.keep λZ Z=>DV,P8,FQ,by simp,r⟩];intros _ v q j m _ a;·rw[Ir a λi n g o a=>?_];have b:=a.2;rcases Uj i with rfl|⟨l7,k,rfl⟩;(·cases b);·rw[QT]at*;(replace b:=Aq▸b;replace b:=Mt▸b;replace b:=(lL ..)▸b);rw[xA (Cs b) λBL Bf=>U BL<|U Bf ?_,(Aa _ Y<|yK h p a λf GA vY a=>(Nd l7 (k::n) (g++[f]) GA a))]
 ·rw[Ir a λi n g o a=>?_];have b:=a.2;rcases Uj i with rfl|⟨l7,k,rfl⟩;rw[Wc.expr<|Ee.BA (Ev.loc a.5) (Hu a.8 Y Y) Ai.nil<|nB a.8<|Wc.FN (Ev.loc a.5)<|U (by simp [il]:(il g).reverse=il (g++[]).reverse)<|(a.10:Az A H at_ (OQ e A H) (.ok (g++[]).reverse o) Q E).done (bs':=e) (a.6.WM a.8 h.1 h.2.1 h.2.2.1 h.2.2.2) (XX a.7) ⟨Y,_,Y,KL a.8,B2 _,h⟩];·(replace b:=QT▸b;replace b:=Aq▸b;replace b:=Mt▸b;replace b:=(lL ..)▸b);cases b
end
end
section
section
theorem Nu(f:P.Fd c k=C)(d:c≠P.Et)(b:g.length<900)(e:Df 0 g=I):PN P (H++ .dict T g:: .inst c H.length::a) (.ref<|H.length+1) k v=V (H++ .dict T (EH (.str k) v g):: .inst c H.length::a):=by rw[U (Fi Q1 FQ f d b e)<|U (Xc _ _<|B2 _)<|U (GI ..) ?_];rfl
end
section
theorem VI:∀{N d H Q E}{b}(c:b.dead=T)(q:Q (.ref<|H.length+1)<|H++[.dict T<|EB b,.inst 2 H.length]),(KR tb.P (BR tb.P FF N (d+1) I) 2 [.int b.code,.tup<|il b.par,.tup<|il b.res,.int b.C9,.bool b.EM] H).wp Q E:=by
 intros N d H Q E b _ c q;rw[R.XG (by decide) Y<|Cg Y Y ?_];simp only [D6];iterate 6 rw[Wc.Fi (by first|rw[Ev.con]|rw[Ev.loc Y]) (Ev.loc Y) (Nu Y (by decide) (B6 Y) Y) ?_]
 rw[Wc.nil ?_];obtain⟨_,_,_,_,f,_⟩:=b;subst c;rw[⟨Y,q⟩]
theorem QX{c:Type}{l:O c}{a:c}(h:l.getLast?=V a):l=l.dropLast++[a]:=by rw[xE (List.getLast?_eq_some_iff.mp h) λf b=>?_,U b ?_];simp
theorem Core.setTop:∀{A H k d s}{a}{b b'}(c:Core A H k d s)(r:d.getLast?=V a)(h:s.C'.getLast?=V b)(z:b'.par=b.par)(w:b'.res=b.res),Core A (H.set a.2<|.dict T<|EB b') k d {s with C':=s.C'.dropLast++[b']}:=by
 intros A H k d s a b b';intro c r h z w;have v:=QX r;have u:=QX h;have x:=c.5;injection(c.5.last h)with F _ f C g;replace f:=r▸f;(replace f:=AN f;subst f);have j:(A.dd::d.map (·.2)).Nodup:=c.6;have p:∀y∈d.dropLast,a.2≠y.2:=λy m q=>by(replace j:=v▸j;replace j:=Ci▸j;rewrite [DF]at j);rw[((Kh.mp j.2).2.2) y.2 (Ea.mpr<|Aa y m Y) a.2 (by simp) q.symm]
 have D:Dp (H.set a.2<|.dict T<|EB b') d<|s.C'.dropLast++[b']:=by(conv=>arg 2;rw[v]);rw[Dp.append (x.dropLast.mono λy m o=>⟨λe=>Bl e<|D7 g (x.dropLast.inst y m).1<|by simp,λe=>Bl e<|p y m⟩) (Bl C<|D7 g C<|by simp)<|KL g]
 rw[⟨Bl c.1<|D7 g c.1<|by simp,Bl c.2 (λq=>(DF.mp j).1<|by rw[Ag q<|U v ?_];simp:a.2≠A.dd),Bl c.3<|D7 g c.3<|by simp,Bl c.4<|D7 g c.4<|by simp,D,c.6,Bl c.7<|D7 g c.7<|by simp,Bl c.8<|D7 g c.8<|by simp,Bl c.9<|D7 g c.9<|by simp,c.10,c.11,c.12,c.13,c.14,⟨?_,λy m=>?_⟩⟩];·have B:=A_ RU u;rw[Aq,Mt]at B;rw[(?_:(s.C'.dropLast++[b']).length<=lim)];rw[Aq,Mt,<-B]at⊢;rw[c.15.1]
 ·rw[Cz (Cj.mp m) (λm=>?_) λm=>?_,c.15.2 y<|by rw[u]at⊢;rw[Cj.mpr<|.inl m]];·rw[B3.mp m,z,w]at⊢;rw[c.15.2 b<|by rw[u]at⊢;simp]
theorem z8{H:MH}{d:O (G×G)}(c:Core A H at_ d s){a:G×G}(f:d.getLast?=V a)(g:H[a.2]?=V (.dict T<|EB b)):BN A H<|H.set a.2 o:=⟨by simp,λi o e Z Z h=>Bl e λq=>by
 subst q;rcases h with h|h;·replace e:=g▸e;(replace e:=AN e;subst e);rw[Jo h]
 ·have:=c.13.2.2.2 a (by rw[U (QX f) ?_];simp);lia⟩
inductive XO(A:CA)(H:MH)(at_:J)(bs:O<|G×G)(s:BK)(a:G×G)(b:BY)(vs:O J)(n:G)(ρ:Loc)(H':MH):Prop
 |mk(n:n=vs.length-b.C9)(h0:ρ 0=V (.ref A.sc))(h1:ρ 1=V (.ref a.1))(c:Core A H' at_ bs {s with vals:=vs})(fr:BN A H H')(e1:vs=s.vals.take vs.length)(e2:s.vals.length<=b.C9->vs=s.vals)(e3:b.C9<=s.vals.length->b.C9<=vs.length)
theorem w_(e:XO A H at_ r s a b i n l o)(h:b.C9<i.length)(q:∀g m f,m<n->XO A H at_ r s a b g m l f->u .next l f):Wc N I d u E [.expr<|.BA (.attr (.loc 0) 47) 1 []] l o:=by
 have c:=wm h;rw[Wc.expr<|Ee.BA (e.4.ev e.2 Y Y) (Hu e.4.3 Y Y) Ai.nil<|X8 (v:= .int<|i.getLast c) e.4.3 ?_ ?_];·rw[U (aY ..)<|U (List.getLast?_eq_some_getLast c) ?_];rfl
 ·rw[U (j3 ..) ?_];have j:i.dropLast.length=i.length-1:=Ob;have k:=e.6;rw[q i.dropLast (i.dropLast.length-b.C9) _ (nA h e.1 j) ⟨Y,e.2,e.3,e.4.YC i.dropLast<|by have:=e.4.14;rw[U j<|L (FJ _ _) this],e.5.trans<|VJ e.4,?_,λq=>?_,λq=>?_⟩];(·rw[U ZK<|U Mo ?_];generalize p:i.length=m at k;rw[U k<|U List.take_take Y]);(·have:=e.7 q;rw[this]at h;rw[Aj q<|IZ.mpr h]);rw[aaZ h j]
theorem QY:∀{N d A H g i s Q E}(z:2000000<=N)(c:Core A H g i s)(P:Az A H g (Eu i) (H_ s) Q E),(BR tb.P FF N (d+1) I 19 [.ref A.sc] H).wp Q E:=by
 intros N d A H g i s Q E;intro z c P;unfold H_ at P;injection P.of with b _ v P;injection(c.last v)with a _ w G F u;rw[Cg Y Y ?_];simp only [D6];rw[Wc.Iv (c.top Y u)<|Wc.JY (λn p y=>∃o,XO A H g i s a b o n p y) (λn p y e=>?_) (n:=s.vals.length-b.C9) (abc z c.14 Y) ⟨s.vals,Y,Y,Y,c,BN.refl _ _,by simp,λZ=>Y,λh=>h⟩];intros _ n p y _ e;rw[xE e λo e=>Cp (e.4.5.last (b:=b) v) λJ f k j=>?_];replace f:=w▸f;(replace f:=AN f;subst f);rw[Ee.dec (Ed.conv (q:=b.C9<o.length) (Ed.gt (e.4.OR e.2)<|F7 (Ev.loc e.3) k j Y Y) Du) (λh=>w_ e h λr m D B e=>⟨m,B,r,e⟩) λh=>?_];have C:o=s.vals.take b.C9:=by rw[Ao (λq:s.vals.length<=b.C9=>?_) λq=>?_,U (e.7 q)<|U (PJ q) Y];·have:=e.8 (Yt q);rw[U e.6 ?_];congr 1;rw[X0 (E1.mp h) this]
 clear h;subst C;rw[Wc.Fi Ev.con (Ev.loc e.3) (Fi k j Y ((dc Y)) (B6 Y) Y)<|Wc.nil<|P.unit.done (e.4.setTop (b':={b with dead:=I}) w v Y Y) (e.5.trans<|z8 e.4 w j) ⟨Y,Y⟩]
end
end
section
section
theorem Zo{b}{a:G×G}(g:H[a.1]?=V (.inst 2 a.2))(f:H[a.2]?=V (.dict T<|EB b))(c:h x=V (.ref a.1)):Ev N I d h H (.bool T [.attr (.loc x) 42,.attr (.loc x) 43])<|.bool<|b.dead||b.EM:=Ev.or (F7 (Ev.loc c) g f Y Y) λZ=>F7 (Ev.loc c) g f Y Y
def oF(A:CA)(H:MH):Rel BF:=λZ v a Z=>v= .none/\∀(i:G)(o:AK),i≠A.bl->H[i]?=V o->a[i]?=V o
theorem cz:∀{A H g d s Q E b C i f}(c:Core A H g d s)(B:H[i]?=V (.inst 2 f))(w:H[f]?=V (.dict T<|EB b))(r:A.n0<=f)(u:A.dd≠f)(v:∀a∈d,a.2≠f)(P:Az A H g (oF A H) (Qt b s) Q E),(J_ C (.lm .append A.bl) (.ref A.bl) [.ref i] H).wp Q E:=by
 intros A H g d s Q E b C i f;intro c B w r u v P;unfold Qt at P;split at P;·rename_i h;rw[Nz c.4 (by rw[U (CO ..)<|U c.5.length ?_];have:=h.1;unfold lim at this;unfold Bj;lia) ?_];(have e:(d.map λb=>MV.ref b.1)++[.ref i]=(d++[(i,f)]).map λb=>MV.ref b.1:=by simp);rw[U e<|P.done (c.setB (ks:=s.C'++[b]) (c.5.append B w) ?_ ?_ ⟨?_,?_⟩) (jd c) ⟨Y,λi o n e=>Bl e<|DK n⟩];(·have k:=c.6;rw[DF]at k⊢;rw[U Ci ⟨λm=>?_,Kh.mpr<|BX k.2 (by simp) λy m z p q=>?_⟩];(·rw[Cz (Cj.mp m) (λm=>?_) λm=>?_,k.1 m];·simp at m;rw[u m]);·(rw[AY (Ea.mp m) λa D j=>?_];subst j);simp at p;rw[v a D<|by rw[U q<|U p Y]]);(·intro a m;rw[Cz (Cj.mp m) (λm=>?_) λm=>?_,c.13.2.2.2 a m,U (B3.mp m) r]);(·rw[U Aq<|U Mt ?_];have:=h.1;lia);·intro y m;rw[Cz (Cj.mp m) (λm=>?_) λm=>?_,c.15.2 y m,U (B3.mp m) h.2]
 rw[P.elim]
theorem dH(c:Core A H at_ f s):A.n0<=H.length/\A.dd≠H.length/\∀a∈f,a.2≠H.length:=by have h:=DH c.2;have:=c.13.1;rw[(BX (by lia) (by lia) λa m=>Oh (c.5.inst a m) λZ b q=>DZ<|DH q)]
theorem Az.Vp(P:Az A H at_ IV r Q E):Az A H at_ (Eu h) r (λZ H=>Q .none H) E:=by induction r using PR.casesOn with|ok a m=>rw[λk j v c f e=>by(rw[xA e λg b=>?_];clear e;subst g;subst b);rw[P k _ _ c f Y]]|fail w=>rw[P]|big=>rw[P]
theorem zV:∀{N d A H k l s Q E f}{j g:O J}(c:Core A H k l s)(P:Az A H k IV (Ll f j g s) Q E),(BR tb.P FF N (d+2) I 17 [.ref A.sc,.int f,.tup<|il j,.tup<|il g] H).wp Q E:=by intros N d A H k l s Q E f j g;intro c P;unfold Ll at P;injection P.of with b _ q P;injection(c.last q)with a _ h w u m;rw[DE (dH c) λC B z=>Cg Y Y ?_];simp only [D6];rw[Wc.Iv (c.top Y m)<|Wc.asg<|Ee.callC (Ai.cons (Ev.loc Y)<|Ai.cons (Ev.loc Y)<|Ai.cons (Ev.loc Y)<|Ai.cons (c.OR Y)<|Ai.one<|Zo w u Y)<|VI (b:=⟨f,j,g,s.vals.length,T,b.dead||b.EM⟩) Y ?_];have o:Core A (H++[.dict T<|EB ⟨f,j,g,s.vals.length,T,b.dead||b.EM⟩,.inst 2 H.length]) k l s:=c.keep λZ Z=>DV;rw[Wc.expr<|Ee.BA (o.ev Y Y Y) (Hu o.4 Y Y) (Ai.one<|Ev.loc Y)<|cz o Q1 FQ C B z<|Az.bindB P P8 λZ G i D v e p y r F=>Wc.expr<|p.BA Y Y Y (Ai.one<|Ev.loc Y)<|Na p (Az.step (P8.trans y) F).Vp]
def sJ(d:O<|G×G):Rel BY:=λb v e c=>∃a,d.getLast?=V a/\v= .ref a.1/\c=d.dropLast/\e[a.1]?=V (.inst 2 a.2)/\e[a.2]?=V (.dict T<|EB b)
theorem Core.aba:∀{A H g d s a}(c:Core A H g d s)(j:d.getLast?=V a),Core A (H.set A.bl<|.list T (d.map λb=>MV.ref b.1).dropLast) g d.dropLast {s with C':=s.C'.dropLast}:=by
 intros A H g d s a;intro c j;rw[U (by rw[U gc Y]:(d.map λb=>MV.ref b.1).dropLast=d.dropLast.map λb=>MV.ref b.1) ?_];have f:=c.6;(replace f:=(QX j)▸f;replace f:=Ci▸f;rewrite [DF]at f);rw[c.setB (ks:=s.C'.dropLast) c.5.dropLast ?_ (λy m=>c.13.2.2.2 y<|(gN _).subset m) ⟨?_,λy m=>c.15.2 y<|(gN _).subset m⟩];·rw[DF]at⊢;rw[⟨λm=>f.1<|Cj.mpr<|.inl m,(Kh.mp f.2).1⟩]
 rw[U Ob<|L (FJ _ _) c.15.1]
theorem d8:∀{N d A H m l s Q E}(c:Core A H m l s)(P:Az A H m (sJ l) (Qi s) Q E),(BR tb.P FF N (d+5) I 18 [.ref A.sc] H).wp Q E:=by intros N d A H m l s Q E;intro c P;unfold Qi at P;injection P.of with b _ r P;injection(c.last r)with a _ o z y p;rw[Cg Y Y ?_];simp only [D6];rw[Wc.Iv (c.top Y p)<|Wc.expr<|c.BA Y Y Y (Ai.one<|F7 (Ev.loc Y) z y Y Y)<|Jc c (c.15.2 b<|by rw[U (QX r) ?_];simp).2<|P.bindL (BN.refl _ _) λC w F i e g u B Z P=>?_,Cp (g.5.last (b:=b)<|by rw[U (og e) r]) λD f k j=>?_];replace f:=o▸f;(replace f:=AN f;subst f);rw[Wc.CC (Ed.conv (q:=w.vals.length≠b.C9) (Ed.ne (g.OR Y)<|F7 (Ev.loc Y) k j Y Y)<|not_congr Nh) (λh=>?_) λh=>?_,Wc.expr<|g.fail Y<|(P.Cf h) _ u,Wc.expr<|Ee.BA (g.ev Y Y Y) (Hu g.4 Y Y) Ai.nil<|X8 (v:= .ref a.1) g.4 (by rw[U (aV)<|U o ?_];rfl)<|Wc.FN (Ev.loc Y) ?_,(P.Co h).done (g.aba o) (u.trans<|jd g)<|X6 a o Y Y (Bl k<|D7 g.4 k<|by simp)<|Bl j<|D7 g.4 j<|by simp]
theorem wx{a:G×G}{b}(f:H[a.1]?=V (.inst 2 a.2))(c:H[a.2]?=V (.dict T<|EB b))(q:Q (.tup<|il b.label) H):(BR tb.P FF N (d+1) I 9 [.ref a.1] H).wp Q E:=by
 rw[Cg Y Y ?_];simp only [D6];rw[Wc.FN (Ev.ite (Ed.eq (F7 (Ev.loc Y) f c Y Y)<|Ev.glob Y) (λZ=>F7 (Ev.loc Y) f c Y Y) λZ=>F7 (Ev.loc Y) f c Y Y) ?_];unfold BY.label at q;rw[Ao (λh:b.code=3=>?_) λh=>?_];·rw[AM h]at q⊢;rw[q]
 ·rw[AS h]at q⊢;rw[q]
theorem S9(b:a 1=V (.int i))(c:Ev N I d a H e<|.int n):Ed N I d a H (.not<|.cmp (.con<|.int 0) [.le,.lt] [.loc 1,e])<|¬(0<=i/\i<n):=Ed.not<|Ed.WB Ev.con (Ev.loc b) c
theorem Core.M9(c:Core A H at_ a s)(e:f 0=V (.ref A.sc)):Ev N I d f H (.E8 .len<|.attr (.loc 0) 48)<|.int s.C'.length:=by rw[Ag c.5.length<|Ag (CO (as:=a) (f:=λb=>MV.ref b.1))<|Ev.len (c.ev e Y Y)<|MZ c.4]
theorem down_eq{n:G}{l:J}(b:0<=l)(c:l<n):(n:J)-1-l=((n-1-l.toNat:G):J):=by rw[((VS b)▸(hZ<|(RN b).mpr c))]
theorem abW{n:G}{l:J}(c:0<=l)(b:l<n):n-1-l.toNat<n:=lQ<|Ph.mp<|M5 c b
theorem UP{i:J}{n:G}(h:0<=i/\i<n):idx i n=V i.toNat:=by unfold idx;rw[U (AM h.1)<|U (AM h.2) Y]
theorem U2:∀{N d A H f e s Q E l}(c:Core A H f e s)(P:Az A H f (λl v Z g=>v= .tup (il l)/\g=e) (Hn l s) Q E),(BR tb.P FF N (d+2) I 20 [.ref A.sc,.int l] H).wp Q E:=by intros N d A H f e s Q E l;intro c P;rw[Cg Y Y ?_];simp only [D6];rw[Wc.CC (S9 Y<|c.M9 Y) (λh=>?_) λh=>?_,Wc.expr<|c.fail Y<|(P.Co h) _<|BN.refl _ _];·have h:=J5.mp h;replace P:=P.Cf h;rw[AY P.of λb p P=>?_];·rw[Cp (c.5.get p) λa q k j=>?_];(have m:EA H (.ref A.bl) (.int<|s.C'.length-1-l)= .ok (.ref a.1) H:=by rw[U (down_eq h.1 h.2)<|GC<|Pd (v:= .ref a.1) c.4 (LD<|by rw[U (CO ..)<|U c.5.length<|abW h.1 h.2]) (by rw[U (FX)<|U q ?_];rfl) ⟨Y,Y⟩]);rw[Wc.ret<|Ee.BA (Ev.sub (c.ev Y Y Y) (Ev.min (Ev.min (c.M9 Y) Ev.con)<|Ev.loc Y) m) (dY k j Y Y ((dc Y)) Y) Ai.nil<|wx k j<|P.done c (BN.refl _ _) ⟨Y,Y⟩]
theorem ao{A:CA}{H:MH}{at_:J}{a:O (G×G)}{s:BK}(c:Core A H at_ a s){i:J}{k:O J×O J}(h:0<=i/\i<A.env.kinds.length)(e:A.env.kinds[i.toNat]?=V k):EA H (.ref A.kl) (.int i)= .ok (D0 k) H:=GC<|Pd (j:=i.toNat) (v:=D0 k) c.7 (by rw[U (CO ..)<|UP h]) (by rw[U (FX)<|U e ?_];rfl) ⟨Y,Y⟩
theorem Core.yI(c:Core A H at_ g s)(a:f 0=V (.ref A.sc)):Ev N I d f H (.E8 .len<|.attr (.loc 0) 44)<|.int A.env.kinds.length:=by rw[Ag (CO (as:=A.env.kinds) (f:=D0))<|Ev.len (c.ev a Y Y)<|MZ c.7]
theorem um:∀{N d A H b a s Q E}{i:J}(c:Core A H b a s)(P:Az A H b (λk v Z f=>v=D0 k/\f=a) (VU A.env i s) Q E),(BR tb.P FF N (d+2) I 22 [.ref A.sc,.int i] H).wp Q E:=by intros N d A H b a s Q E i;intro c P;rw[Cg Y Y ?_];simp only [D6];rw[Wc.CC (S9 Y<|c.yI Y) (λh=>?_) λh=>?_,Wc.expr<|c.fail Y<|(P.Co h) _<|BN.refl _ _];·have h:=J5.mp h;replace P:=P.Cf h;cases e:A.env.kinds[i.toNat]? with|none=>rw[e]at P;rw[P.elim]|some k=>rw[e]at P;rw[Wc.FN (Ev.sub (c.ev Y Y Y) (Ev.loc Y)<|ao c h e)<|P.done c (BN.refl _ _) ⟨Y,Y⟩]
theorem aa':∀{N d A H b a s Q E}{i:J}(c:Core A H b a s)(P:Az A H b (λk v Z g=>v=D0 k/\g=a) (QP A.env i s) Q E),(BR tb.P FF N (d+3) I 23 [.ref A.sc,.int i] H).wp Q E:=by
 intros N d A H b a s Q E i;intro c P;have m:Ev N I (d+2) (upd (upd (λZ=>C) 0<|.ref A.sc) 1<|.int i) H (.E8 .len<|.attr (.loc 0) 45)<|.int A.env.funcs.length:=by rw[Ag (BH ..)<|Ev.len (c.ev Y Y Y)<|MZ c.8]
 rw[Cg Y Y ?_];simp only [D6];rw[Wc.CC (S9 Y m) (λh=>?_) λh=>?_,Wc.expr<|c.fail Y<|(P.Co h) _<|BN.refl _ _];·have h:=J5.mp h;replace P:=P.Cf h;cases e:A.env.funcs[i.toNat]? with|none=>rw[e]at P;rw[P.elim]|some f=>rw[e]at P;rw[Wc.ret<|c.BA Y Y Y (Ai.one<|Ev.sub (c.ev Y Y Y) (Ev.loc Y)<|GC<|Pd (j:=i.toNat) (v:= .int f) c.8 (by rw[U (BH ..)<|UP h]) (by simp [il,e]) ⟨Y,Y⟩)<|um c P]
theorem aa0:∀{N d A H b a s Q E}{i:J}(c:Core A H b a s)(P:Az A H b (Sj a) (Vm A.env i s) Q E),(BR tb.P FF N (d+2) I 24 [.ref A.sc,.int i] H).wp Q E:=by
 intros N d A H b a s Q E i;intro c P;have f:Ev N I (d+1) (upd (upd (λZ=>C) 0<|.ref A.sc) 1<|.int i) H (.E8 .len<|.attr (.loc 0) 46)<|.int A.env.locs.length:=by rw[Ag (BH ..)<|Ev.len (c.ev Y Y Y) Y]
 rw[Cg Y Y ?_];simp only [D6];rw[Wc.CC (S9 Y f) (λh=>?_) λh=>?_,Wc.expr<|c.fail Y<|(P.Co h) _<|BN.refl _ _];·have h:=J5.mp h;replace P:=P.Cf h;cases e:A.env.locs[i.toNat]? with|none=>rw[e]at P;rw[P.elim]|some k=>rw[e]at P;rw[Wc.FN (Ev.sub (c.ev Y Y Y) (Ev.loc Y)<|GC<|LW (j:=i.toNat) (v:= .int k) (by rw[U (BH ..)<|UP h]) (by simp [il,e]) ⟨Y,Y⟩)<|P.done c (BN.refl _ _) ⟨Y,Y⟩]
end
end
section
theorem b_:∀{H}{a}(h:H[0]?=V (.dict I KC)),Ei H .isin (.int a) (.ref 0)=V (decide (a∈([-1,-2,-16,-17]:O J))):=by
 intros H a _ h;rw[Eq.trans (b:=V (Cd (.int a) KC).isSome) (by show(match H[0]? with|V (.list _ l)=>_|V (.dict _ f)=>if isKey (.int a)=I/\Df (L9 (.int a)) f=I then V (Cd (.int a) f).isSome else C|_=>C)=_;rw[U h (AM ⟨Y,Y⟩)]) (A_ V ?_)];show(if(-1==a)=I then V _ else if(-2==a)=I then V _ else if(-16==a)=I then V _ else if(-17==a)=I then V _ else C:AO MV).isSome=_;have k:∀b:J,(b==a)=decide (a=b):=λb=>Bool.eq_iff_iff.mpr (by(rewrite [Bn];rw[U P_ ?_]);rw[eq_comm]);rw[U (k ..) (U (k ..) (U (k ..) (U (k ..) ?_)))];by_cases h1:a= -1;·rw[U h1 ?_];rfl
 by_cases h2:a= -2;·rw[U h2 ?_];rfl
 by_cases h3:a= -16;·rw[U h3 ?_];rfl
 by_cases h4:a= -17;·rw[U h4 ?_];rfl
 rw[U (Dk h1) (U (Dk h2) (U (Dk h3) (U (Dk h4) ?_))),(Dk λm=>by rcases CZ.mp m with m|m;rw[h1 m];rcases CZ.mp m with m|m;rw[h2 m];rcases CZ.mp m with m|m;rw[h3 m,h4 (B3.mp m)]).symm]
section
theorem ze:∀{N d A H b a s Q E}{t}(c:Core A H b a s)(q:Q (match blockKind A.env t with|V k=>D0 k|C=> .none) H),(BR tb.P FF N (d+1) I 2 [.ref A.kl,.int t] H).wp Q E:=by
 intros N d A H b a s Q E t;intro c q;unfold blockKind at q;rw[Cg Y Y ?_];simp only [D6];rw[Wc.CC (Ed.eq (Ev.loc Y)<|Ev.glob Y) (λh=>?_) λh=>?_];·replace q:=(AM h)▸q;rw[Wc.FN (v:=D0 ([],[])) Y q]
 replace q:=(AS h)▸q;rw[Wc.CC (Ed.lt (Ev.loc Y) Ev.con) (λh=>?_) λh=>?_];·replace q:=(AM h)▸q;rw[Wc.FN (Ev.ite (Ed.c (Ev.loc Y) (Ev.glob Y)<|b_ c.9) (λZ=>Ai.tup (Ai.cons (Ai.tup Ai.nil<|B6 Y)<|Ai.one<|Ai.tup (Ai.one<|Ev.loc Y)<|B6 Y)<|B6 Y) λZ=>Ev.con) ?_];by_cases h:t∈[-1,-2,-16,-17];(·rw[AM h]at q⊢;rw[q]);·rw[AS h]at q⊢;rw[q]
 ·replace q:=(AS h)▸q;(have j:Ev N I d (upd (upd (λZ=>C) 0<|.ref A.kl) 1<|.int t) H (.E8 .len<|.loc 0)<|.int A.env.kinds.length:=by rw[Ag (CO (as:=A.env.kinds) (f:=D0))<|Ev.len (Ev.loc Y)<|MZ c.7]);by_cases g:t<A.env.kinds.length;(·replace q:=(AM g)▸q;have m:t.toNat<A.env.kinds.length:=(RN<|Gn.mp h).mpr g;replace q:=(Cm m)▸q;rw[Wc.FN (Ev.UE ((Ed.lt (Ev.loc Y) j).1 g)<|Ev.sub (Ev.loc Y) (Ev.loc Y)<|ao c ⟨Gn.mp h,g⟩<|Cm m) q]);·replace q:=(AS g)▸q;rw[Wc.FN (Ev.Uv ((Ed.lt (Ev.loc Y) j).2 g) Ev.con) q]
theorem qs{A:CA}(c:Core A H at_ a s)(P:Az A H at_ (λk v Z b=>v=D0 k/\b=a) (JB A.env t s) Q E):(BR tb.P FF N (d+2) I 21 [.ref A.sc,.int t] H).wp Q E:=by unfold JB at P;rw[Cg Y Y ?_];simp only [D6];rw[Wc.asg<|Ee.EK (Ai.cons (c.ev Y Y Y)<|Ai.one<|Ev.loc Y)<|ze c ?_];cases e:blockKind A.env t with|none=>rw[e]at P;rw[Wc.Ol (Ev.cmp (Ev.loc Y) Ev.con iW) (λZ=>Wc.expr<|c.fail Y<|P _<|BN.refl _ _) λh=>nomatch h]|some k=>rw[e]at P;rw[Wc.Ol (Ev.cmp (Ev.loc Y) Ev.con g9) (λh=>nomatch h) λZ=>Wc.FN (Ev.loc Y)<|P.done c (BN.refl _ _) ⟨Y,Y⟩]
def uJ(r:J×J×O J×O J):MV:= .tup [.int r.1,.int r.2.1,.tup<|il r.2.2.1,.tup<|il r.2.2.2]
theorem ml:∀{N d H Q E}{b}(q:Q (match IG b M0 with|V k=>D0 k|C=> .none) H),(BR tb.P FF N (d+1) I 3 [.int b] H).wp Q E:=by
 intros N d H Q E b _ q;rw[Cg Y Y ?_];simp only [D6];rw[Wc.Hv (Ai.one<|Ev.glob Y) Y (λm g j=>∃t,m=List.map uJ t/\j=H/\g 0=V (.int b)/\Q (match IG b t with|V k=>D0 k|C=> .none) H) (λv m g j a=>?_) (λg j a=>?_)<|K6 M0 Y Y Y q];intros _ v m g j _ a;·(rw[RK a λt e f o q=>?_];clear a;rw[U f ?_]);induction t using An with|nil=>cases e|cons r t=>rw[xA (Cs e) λf c=>U f<|U c ?_];obtain⟨u,w,p,r⟩:=r;rw[(Aa _ Y<|Wc.CC (Ed.W9 (Ev.loc Y) (Ev.loc o)<|Ev.loc Y) (λh=>?_) λh=>?_)];(·rw[show IG b ((u,w,p,r)::t)=V (p,r)from AM h]at q;rw[Wc.FN (Ai.tup (Ai.cons (Ev.loc Y)<|Ai.one<|Ev.loc Y)<|B6 Y) q]);·rw[show IG b ((u,w,p,r)::t)=IG b t from AS h]at q;rw[Wc.nil<|K6 t Y Y o q]
 ·(rw[RK a λt e c o q=>?_];clear a;rw[U c ?_]);induction t using An with|cons r t=>cases e|nil=>rw[Wc.FN Ev.con q]
theorem jO{g:O G}{l:O J}{b:Fn}(o:FF f=V b)(j:b.params=[0])(m:b.body=[.ret<|.cmp (.loc 0) [.isin] [.tup<|g.map .glob]])(k:Ai N I d (upd (λZ=>C) 0<|.int a) H (g.map .glob)<|il l)(r:l.length<=10)(q:Q (.bool<|decide<|a∈l) H):(BR tb.P FF N (d+1) I f [.int a] H).wp Q E:=by obtain⟨p,c⟩:=b;subst j m;rw[Cg o Y<|Wc.FN (Ev.cmp (Ev.loc Y) (Ai.tup k<|by rw[U (BH ..) ?_];unfold Bj;lia) MR) q]
theorem vM{N}{d}{H}{Q}{E}{a}(q:Q (.bool<|decide<|a∈([2,3,4]:O J)) H):(BR tb.P FF N (d+1) I 4 [.int a] H).wp Q E:=jO (g:=[6,7,8]) (l:=[2,3,4]) Y Y Y Y (by decide) q
theorem jD{N}{d}{H}{Q}{E}{a}(q:Q (.bool<|isNum a) H):(BR tb.P FF N (d+1) I 7 [.int a] H).wp Q E:=jO (g:=[0,1,11]) (l:=[-1,-2,0]) Y Y Y Y (by decide) q
theorem wJ(h:H[0]?=V (.dict I KC))(q:Q (.bool<|decide<|a∈([-1,-2,-16,-17]:O J)) H):(BR tb.P FF N (d+1) I 1 [.int a] H).wp Q E:=by rw[Cg Y Y ?_];simp only [D6];rw[Wc.FN (Ev.cmp (Ev.loc Y) (Ev.glob Y)<|b_ h) q]
theorem w0:∀t:O<|J×J×O J×O J,(∀r∈t,r.2.2.1.length<=2)->IG code t=V k->k.1.length<=2:=λt=>by induction t with|nil=>intro _ h;rw[nn h]|cons r t c=>intro a b;obtain⟨lo,d,p,q⟩:=r;rcases Decidable.em<|lo<=code/\code<=d with g|g;(·obtain rfl:=AN<|(AM g).symm.trans b;rw[a _<|.head _]);rw[c (λr m=>a r<|.tail _ m)<|(AS g).symm.trans b]
theorem rO:∀{N d A H f a s Q E}{b}(c:Core A H f a s)(P:Az A H f (Eu a) (Sq b s) Q E),(BR tb.P FF N (d+5) I 28 [.ref A.sc,.int b] H).wp Q E:=by intros N d A H f a s Q E b;intro c P;unfold Sq at P;rw[Cg Y Y ?_];simp only [D6];rw[Wc.asg<|Ee.EK (Ai.one<|Ev.loc Y)<|ml ?_];cases e:IG b M0 with|none=>rw[e]at P;rw[Wc.Ol (Ev.cmp (Ev.loc Y) Ev.con iW) (λZ=>Wc.expr<|c.fail Y<|P _<|BN.refl _ _) λh=>nomatch h]|some k=>intros _ k _ e;rw[e]at P;rw[Wc.Ol (Ev.cmp (Ev.loc Y) Ev.con g9) (λh=>nomatch h) λZ=>Wc.expr<|c.BA Y Y Y (Ai.one<|Ev.sub (Ev.loc Y) Ev.con (v:= .tup<|il k.1) Y)<|Jc c (L (w0 M0 (by decide) e)<|by decide)<|P.bindL (BN.refl _ _) λo m p i e g j Z Z P=>Wc.expr<|g.BA Y Y Y (Ai.one<|Ev.sub (Ev.loc Y) Ev.con (v:= .tup<|il k.2) Y)<|Na g (Az.step j P).unit]
end
end
section
section
theorem PG(P:Az A H at_ IV r Q E):Az A H at_ IV r (λZ H=>Q .none H) E:=by induction r using PR.casesOn with|ok a j=>rw[λg b v c f e=>by subst e;rw[P g _ _ c f Y]]|fail w=>rw[P]|big=>rw[P]
theorem oS:∀{N d A H f h s Q E}(c:Core A H f h s)(P:Az A H f IV (ix s) Q E),(BR tb.P FF N (d+6) I 31 [.ref A.sc] H).wp Q E:=by intros N d A H f h s Q E;intro c P;rw[Cg Y Y ?_];simp only [D6];rw[Wc.asg<|c.BA Y Y Y Ai.nil<|d8 c<|Az.bindB P (BN.refl _ _) λb w B y v e j u r P=>?_];(rw[Q9 r λa z p o m k=>?_];clear r;rw[U p<|U o ?_]);rw[Wc.CC (Ed.and (Ed.eq (F7 (Ev.loc Y) m k Y Y)<|Ev.glob Y) λZ=>Ed.XW (F7 (Ev.loc Y) m k Y Y) (F7 (Ev.loc Y) m k Y Y) l6) (λg=>?_) λg=>?_,Wc.expr<|j.fail Y<|(P.Cf g) _ u];·replace P:=P.Co g;rw[Wc.CC (Ed.conv (q:=0<w.C'.length) (Ed.gt (j.M9 Y) Ev.con) Ph) (λg=>?_) λg=>?_,Wc.expr<|j.BA Y Y Y (Ai.one<|F7 (Ev.loc Y) m k Y Y)<|Na j (Az.step u<|P.Cf g).Vp,Wc.nil<|(PG<|P.Co g).done j u Y]
theorem pP:∀{N d A H f t s Q E}(c:Core A H f t s)(P:Az A H f IV (XS s) Q E),(BR tb.P FF N (d+6) I 30 [.ref A.sc] H).wp Q E:=by intros N d A H f t s Q E;intro c P;unfold XS at P;injection P.of with b _ h P;injection(c.last h)with a _ Z O M u;rw[Cg Y Y ?_];simp only [D6];rw[Wc.Iv (F7 (c.top Y u) O M Y Y)<|Wc.CC (Ed.ne (F7 (c.top Y u) O M Y Y)<|Ev.glob Y) (λg=>?_) λg=>?_,Wc.expr<|c.fail Y<|(P.Cf g) _<|BN.refl _ _,Wc.asg<|c.BA Y Y Y Ai.nil<|d8 c<|(P.Co g).bindB (BN.refl _ _) λk j y l v e q F r P=>?_];intros _ k j y l v _ e q F r P;(rw[Q9 r λi U C B p o=>?_];clear r;subst C;subst B);rw[DE (dH q) λX W V=>?_];have L:=DV (l:=[.dict T<|EB ⟨5,k.par,k.res,j.vals.length,T,b.EM⟩,.inst 2 y.length]) p;have K:=DV (l:=[.dict T<|EB ⟨5,k.par,k.res,j.vals.length,T,b.EM⟩,.inst 2 y.length]) o;have G:Core A (y++[.dict T<|EB ⟨5,k.par,k.res,j.vals.length,T,b.EM⟩,.inst 2 y.length]) f t.dropLast j:=q.keep λ_ _=>DV;rw[Wc.expr<|Ee.N0 (q.ev Y Y Y) (Hu q.4 Y Y)<|Ee.callC (Ai.cons (Ev.glob Y)<|Ai.cons (F7 (Ev.loc Y) p o Y Y)<|Ai.cons (F7 (Ev.loc Y) p o Y Y)<|Ai.cons (q.OR Y)<|Ai.one<|Ev.loc Y)<|VI (b:=⟨5,k.par,k.res,j.vals.length,T,b.EM⟩) Y ?_,cz G Q1 FQ X W V<|(P:Az A H f IV ((Qt ⟨5,k.par,k.res,j.vals.length,T,b.EM⟩ j).bind λ_ s=>Dd k.par s) Q E).bindB (F.trans P8) λ_ S n R v e w D r J=>?_];(rw[xA r λz m=>?_];clear r;subst z);rw[Wc.expr<|w.BA Y Y Y (Ai.one<|F7 (Ev.loc Y) (m _ _ (D7 L G.4<|by simp) L) (m _ _ (D7 K G.4<|by simp) K) Y Y)<|Na w (Az.step ((F.trans P8).trans D) J).Vp]
theorem wb:∀{N d A H f a s Q E}{k}{b}(o:2000000<=N)(c:Core A H f a s)(m:k.1.length<=lim)(P:Az A H f (Eu a) (gd A.env k b s) Q E),(BR tb.P FF N (d+5) I 33 [.ref A.sc,D0 k,.bool b] H).wp Q E:=by intros N d A H f a s Q E k b;intro o c m P;rw[Cg Y Y ?_];simp only [D6];rw[Wc.Uu (Ev.loc Y) Y<|Wc.CC (Ed.and (Ed.b<|Ev.loc Y) λZ=>Ed.XW (Ev.loc Y) (c.ev Y Y Y) l6) (λg=>?_) λg=>?_,Wc.expr<|c.fail Y<|(P.Cf g) _<|BN.refl _ _,Wc.expr<|c.BA Y Y Y (Ai.one<|Ev.loc Y)<|Jc c m<|(P.Co g).bindL (BN.refl _ _) λr q u i e j p Z Z P=>Wc.CC (Ed.b<|Ev.loc Y) (λh=>?_) λh=>?_,Wc.expr<|j.BA Y Y Y Ai.nil<|QY o j (Az.step p<|P.Cf h).unit,Wc.expr<|j.BA Y Y Y (Ai.one<|Ev.loc Y)<|Na j (Az.step p<|P.Co h).unit]
end
end
section
section
theorem yh(q:Q (.int b) H):(EA H (.tup<|il<|b::c)<|.int 0).wp Q E:=LW (j:=0) (v:= .int b) (LD (j:=0)<|by rw[U (BH ..)<|FA _]) Y q
theorem pO{H}{Q}{E}{c l}{b}(h:b[0]?=V l)(q:Q (.int l) H):(EA H (.tup<|il<|c::b)<|.int 1).wp Q E:=by have:=(DP.mp h).1;rw[LW (j:=1) (v:= .int l) (LD (j:=1)<|by rw[U (BH ..)<|Nat.succ_lt_succ (DP.mp h).1]) (by simp [il,h]) q]
theorem vH:∀{H Q E}{l}{b}(h:b.getLast?=V l)(q:Q (.int l) H),(EA H (.tup<|il b)<|.int<|-1).wp Q E:=by intros H Q E l b _ h q;rw[LW (j:=b.length-1) (v:= .int l) ?_ ?_ q,U (BH ..)<|cK (λe=>by rw[nn<|(Oq.mp e)▸h]:b.length≠0)];·simp [il,((So)▸h)]
theorem nc{H:MH}{Q:MV->MH->Prop}{E:C_->MH->Prop}{l:J}{b:O J}{j:G}(h:b[j]?=V l)(q:Q (.int l) H):(EA H (.tup<|il b)<|.int j).wp Q E:=by rw[LW (j:=j) (v:= .int l) (LD<|by rw[U (BH ..)<|(DP.mp h).1]) (by simp [il,h]) q]
theorem V8(c:Core A H at_ a s)(h:Hn l s= .ok v g):v.length<=lim:=by rw[Zs (q_ h) λZ b m f=>U f ?_];unfold BY.label;split;rw[(c.15.2 b m).1,(c.15.2 b m).2]
theorem ny{H:MH}{a b:G}(h:a<=16777216/\b<=16777217):EU H .range [.int a,.int<|(b:J)-1]=V (.seq<|G1 a<|(b:J)-1):=by rw[AM ((Dx (EE a) (DM.mpr h.1) (Int.le_sub_right_of_add_le<|Fm (by decide)<|EE b)<|Int.sub_right_le_of_le_add<|DM.mpr h.2):0<=(a:J)/\(a:J)<=16777216/\-16777216<=(b:J)-1/\(b:J)-1<=16777216)]
theorem aaU(n:G):G1 ((1:G):J) (((n+1:G):J)-1)=(G_<|n-1).map λ(j:G)=>MV.int ((j+1:G):J):=by unfold G1;rw[U (show(((n+1:G):J)-1)=n from k7 (n:J) 1)<|U (Ze n 1)<|XP λj Z=>A_ MV.int<|XQ _ _]
theorem Rm(h:a x=V (.tup<|il<|b::c)):Ev N I d a H (.sub (.loc x)<|.con<|.int 0)<|.int b:=Ev.sub (Ev.loc h) Ev.con<|GC<|yh ⟨Y,Y⟩
theorem LA(h:a x=V (.tup<|il<|c::b))(f:b[0]?=V l):Ev N I d a H (.sub (.loc x)<|.con<|.int 1)<|.int l:=Ev.sub (Ev.loc h) Ev.con<|GC<|pO f ⟨Y,Y⟩
theorem Ru(h:a x=V (.tup<|il l)):Ev N I d a H (.E8 .len<|.loc x)<|.int l.length:=by rw[Ag (BH ..)<|Ev.len (Ev.loc h) Y]
theorem Core.N0(c:Core A H at_ j s)(i:a 0=V (.ref A.sc))(g:tb.P.Fd 3 k=V f)(b:Cd (.str k) (Hh A at_)=C)(h:Ee N I d E a H e λx H=>(BR tb.P FF N d I f [.ref A.sc,x] H).wp Q E):Ee N I d E a H (.BA (.loc 0) k [e]) Q:=Ee.N0 (Ev.loc i) (c.kind g b) h
theorem Az.DR(P:Az A b at_ c (r.bind f) q E)(u:BN A b H)(k:∀a d j,r= .ok a d->Core A j at_ i d->BN A H j->Az A b at_ c (f a d) q E->Q (.tup<|il a) j):Az A H at_ (λl v Z g=>v= .tup (il l)/\g=i) r Q E:=P.bindB u λa d j g v e y w h P=>by(rw[xA h λo m=>?_];clear h;rw[U o ?_];subst m);rw[k a d j e y w P]
theorem oY:∀{A H c Q E}{l:J}{d b:O J}{e:BK}{a:Rel BF}{g:BF->BK->PR BF}(P:Az A H c a ((Jl (l::d) b e).bind g) Q E),Az A H c a ((Hn l e).bind λf s=>if f.length≠b.length then .fail 50 else(DG f s).bind λj s=>(Dd j s).bind λZ s=>(Jl d b s).bind g) Q E:=by intros A H c Q E l d b e a g;intro P;revert P;rw[(?_:Az A H c _ (((Hn l e).bind λf s=>if f.length≠b.length then .fail 50 else(DG f s).bind λj s=>(Dd j s).bind λZ s=>Jl d b s).bind _) Q E->_)];cases Hn l e with|fail w=>rw[λP=>P]|big=>rw[λP=>P]|ok f s=>rw[(?_:Az A H c _ ((if f.length≠b.length then .fail 50 else(DG f s).bind λj s=>(Dd j s).bind λZ s=>Jl d b s).bind _) Q E->Az A H c _ (if f.length≠b.length then .fail 50 else _) Q E)];split;rw[λP=>P];·cases DG f s with|fail w=>rw[λP=>P]|big=>rw[λP=>P]|ok j s=>rw[(?_:Az A H c _ (((Dd j s).bind λZ s=>Jl d b s).bind _) Q E->Az A H c _ ((Dd j s).bind _) Q E)];cases Dd j s<;>exactλP=>P
inductive Xy(A:CA)(H:MH)(at_:J)(bs:O<|G×G)(code:J)(rest last:O J)(Q:MV->MH->Prop)(E:C_->MH->Prop)(j:G)(s':BK)(ρ:Loc)(H':MH):Prop
 |mk(r0:ρ 0=V (.ref A.sc))(r1:ρ 1=V (.tup<|il<|code::rest))(r4:ρ 4=V (.tup<|il last))(c:Core A H' at_ bs s')(fr:BN A H H')(P:Az A H at_ (Eu bs) ((Jl (rest.dropLast.drop j) last s').bind λZ s=>(DG last s).bind λZ s=>H_ s) Q E)
theorem xy:∀{N d A H m x Q E}{f:J}{b c:O J}{j:G}{s':BK}{ρ:Loc}{C:MH}{QS:CX->Loc->MH->Prop}(e:2000000<=N)(a:Xy A H m x f b c Q E j s' ρ C)(v:j<b.length-1)(q:∀o y u,Xy A H m x f b c Q E (j+1) y o u->QS .next o u),Wc N I (d+4) QS E [.asg 3<|.BA (.loc 0) 17 [.sub (.loc 1)<|.loc 5],.ifs (.cmp (.E8 .len<|.loc 3) [.ne] [.E8 .len<|.loc 4]) [.expr<|.BA (.loc 0) 9 [.con<|.str 50]] [],.expr<|.BA (.loc 0) 11 [.BA (.loc 0) 13 [.loc 3]]] (upd ρ 5<|.int ((j+1:G):J)) C:=by
 intros N d A H m x Q E f b c j s' ρ C QS;intro e a v q;have F:b.dropLast.length=b.length-1:=Ob;have P:=a.6;rw[I8<|ie v F.symm]at P;have K:(f::b)[j+1]?=V (b.dropLast[j]'(ie v F.symm)):=by rw[U (List.getElem?_cons_succ)<|U (List.getElem_dropLast ..)<|U (Cm<|CQ v<|FJ _ _) Y]
 rw[Wc.asg<|a.4.BA a.1 Y Y (Ai.one<|Ev.sub (Ev.loc a.2) (Ev.loc Y)<|GC<|nc K ⟨Y,Y⟩)<|U2 a.4<|(oY P).DR a.5 λl t n M w k P=>?_];have p:=V8 a.4 M;rw[Wc.CC (Ed.conv (q:=l.length≠c.length) (Ed.ne (Ru Y)<|Ru a.3)<|not_congr Nh) (λg=>?_) λg=>?_,Wc.expr<|w.fail a.1<|(P.Cf g) _<|a.5.trans k,Wc.expr<|w.N0 a.1 Y Y<|w.BA a.1 Y Y (Ai.one<|Ev.loc Y)<|Jc w p<|(P.Co g).bindL (a.5.trans k) λs T X i L R r z D P=>vF e R z D.1 D.2.1 (by rw[U (uF L) p])<|P.Xz ((a.5.trans k).trans r) λZ S W h B P=>q _ _ _ ⟨a.1,a.2,a.3,h,((a.5.trans k).trans r).trans B,P⟩]
theorem sx:∀{N d A H r bs s Q E}{o:AB J}(h:2000000<=N)(c:Core A H r bs s)(T:o.length<=lim)(P:Az A H r (Eu bs) (fu o s) Q E),(BR tb.P FF N (d+5) I 32 [.ref A.sc,.tup<|il o] H).wp Q E:=by intros N d A H r bs s Q E o;intro h c T P;induction o using An with|nil=>rw[P.elim]|cons q f=>intros _ q f _ T P;rw[Cg Y Y ?_];simp only [D6];rw[Wc.Iv (Rm Y)<|Wc.CC (Ed.eq (Ev.loc Y) Ev.con) (λg=>?_) λg=>?_,AY ((P.Cf g).of) λl F P=>Wc.expr<|c.N0 Y Y Y<|c.BA Y Y Y (Ai.one<|LA Y F)<|U2 c<|P.DR (BN.refl _ _) λS L U e D k P=>Jc D (V8 c e)<|P.bindL k λZ X n i e y p _ _ P=>Wc.expr<|y.BA Y Y Y Ai.nil<|QY h y (Az.step (k.trans p) P).unit];replace P:=P.Co g;rw[Wc.CC (Ed.eq (Ev.loc Y) Ev.con) (λg=>?_) λg=>?_,Wc.expr<|c.BA Y Y Y (Ai.one<|Ev.glob Y)<|Of c<|(P.Cf g).Iz (BN.refl _ _) λS s0 H0 C m P=>AY P.of λl F P=>Wc.asg<|C.BA Y Y Y (Ai.one<|LA Y F)<|U2 C<|P.DR m λS L U e D k P=>Wc.expr<|D.BA Y Y Y (Ai.one<|Ev.loc Y)<|Jc D (V8 C e)<|P.bindL (m.trans k) λZ X n i e y p _ _ P=>Wc.expr<|y.BA Y Y Y (Ai.one<|Ev.loc Y)<|Na y (Az.step ((m.trans k).trans p) P).unit,Wc.expr<|c.BA Y Y Y (Ai.one<|Ev.glob Y)<|Of c<|(P.Co g).Iz (BN.refl _ _) λS s0 H0 C m P=>AY P.of λl F P=>Wc.asg<|C.BA Y Y Y (Ai.one<|Ev.sub (Ev.loc Y) Ev.con<|GC<|vH F ⟨Y,Y⟩)<|U2 C<|P.DR m λu L U e D k P=>?_];have z:=V8 C e;have x:=ny (H:=U) (a:=1) (b:=(q::f).length) ⟨(dc Y),by unfold lim at T;lia⟩;rw[IB,aaU]at x;rw[Wc.Hv (Ai.cons Ev.con<|Ai.one<|Ev.min (Ru Y) Ev.con) x (λW K V=>∃j b,W=((G_<|f.length-1).drop j).map (λ(j:G)=>MV.int ((j+1:G):J))/\Xy A H r bs q f u Q E j b K V) (λv W K V a=>?_) (λK V a=>?_) ⟨0,L,Y,Y,Y,Y,D,m.trans k,P⟩];(·obtain⟨j,b,B,a⟩:=a;rw[Ao (λw:j<f.length-1=>?_) λw=>?_];(·rw[I8<|by rw[Og]at⊢;rw[w],M4,gr]at B;rw[xA (Cs B) λR O=>A9 R<|A9 O ?_,(Aa _ Y<|xy h a w λt M vY a=>(Kl (j+1) M Y a))]);·rw[J'<|by rw[Og]at⊢;lia]at B;cases B);·rw[G3 a λj b B a=>?_];(have w:f.length-1<=j:=by rw[Ao (λw:j<f.length-1=>?_) λw=>?_];(·rw[I8<|by rw[Og]at⊢;rw[w]]at B;clear T F x;cases B);·lia);have P:=a.6;rw[J'<|by rw[Ob]at⊢;rw[w]]at P;have P:Az A H r (Eu bs) ((DG u b).bind λ_ s=>H_ s) Q E:=P;rw[Wc.expr<|a.4.BA a.1 Y Y (Ai.one<|Ev.loc a.3)<|Jc a.4 z<|P.bindL a.5 λZ X n i e2 y p _ _ P=>Wc.expr<|y.BA a.1 Y Y Ai.nil<|QY h y (Az.step (a.5.trans p) P).unit]
end
end
section
section
theorem three(t:J):([t,t,-1]:O J).length<=lim:=by rw[(?_:3<=1000000)];lia
theorem o_(c:Core A H at_ a s)(P:Az A H at_ (OQ a A H) (DG [t,t,-1] s) Q E):(BR tb.P FF N (d+4) I 16 [.ref A.sc,.tup<|il [t,t,-1]] H).wp Q E:=Jc c (three t) P
theorem aa9:∀{N d A H w x s Q E}{k}(c:Core A H w x s)(G:k.length<=lim)(P:Az A H w (Eu x) (cZ k s) Q E),(BR tb.P FF N (d+5) I 35 [.ref A.sc,.tup<|il k] H).wp Q E:=by intros N d A H w x s Q E k;intro c G P;induction k using An with|nil=>rw[P.elim]|cons m j=>intros _ m j _ G P;rw[Cg Y Y ?_];simp only [D6];rw[Wc.CC (Ed.eq (Rm Y) Ev.con) (λg=>?_) λg=>?_];(·replace P:=P.Cf g;rw[Wc.CC (Ed.conv (q:=(m::j).length≠2) (Ed.ne (Ru Y) Ev.con)<|not_congr Nh) (λh=>?_) λh=>?_,Wc.expr<|c.fail Y<|(P.Cf h) _<|BN.refl _ _,AY ((P.Co h).of) λt z P=>Wc.ifs<|SQ<|Ee.EK (Ai.one<|LA Y z)<|wJ c.9<|ef (λh=>?_) λh=>?_];(·replace P:=P.Co (λq=>q h);rw[Wc.expr<|c.BA Y Y Y (Ai.one<|Ai.tup (Ai.cons (LA Y z)<|Ai.cons (LA Y z)<|Ai.one<|Ev.glob Y)<|B6 Y)<|o_ c<|P.bindL (BN.refl _ _) λv L B i e u o Z Z P=>Wc.expr<|u.BA Y Y Y (Ai.one<|LA Y z)<|Rd u (Az.step o P).unit]);rw[Wc.expr<|c.fail Y<|(P.Cf h) _<|BN.refl _ _]);rw[Wc.expr<|c.BA Y Y Y (Ai.one<|Ev.glob Y)<|Of c<|(P.Co g).Iz (BN.refl _ _) λn S W F p P=>Wc.asg<|F.BA Y Y Y Ai.nil<|Uw F<|P.Iz p λb O V D r P=>Wc.asg<|D.BA Y Y Y Ai.nil<|Uw D<|P.Iz (p.trans r) λf L B u o P=>?_];have a:=(p.trans r).trans o;clear c F D p r o;(have y:∀{R:MV->MH->Prop},((isNum b=T\/isNum f=T)->R (.bool I) B)->(¬(isNum b=T\/isNum f=T)->R (.bool T) B)->Ee N I (d+4) E (upd (upd (upd (upd (λZ=>C) 0<|.ref A.sc) 1<|.tup<|il<|m::j) 2<|.int b) 3<|.int f) B (.bool T [.not<|.EK 7 [.loc 2],.not<|.EK 7 [.loc 3]]) R:=λ{R}l M=>by rw[SY<|OU<|SQ<|Ee.EK (Ai.one<|Ev.loc Y)<|jD ?_];cases K:isNum b with|false=>rw[l<|.inl K]|true=>rw[wG<|wB<|OU<|SQ<|Ee.EK (Ai.one<|Ev.loc Y)<|jD ?_];cases J:isNum f with|false=>rw[l<|.inr J]|true=>rw[M<|by rw[U K<|U J ?_];decide]);rw[Wc.ifs<|y (λh=>Wc.expr<|u.fail Y<|(P.Cf h) _ a) λh=>?_];replace P:=P.Co h;rw[Wc.CC (Ed.Mj (Ed.ne (Ev.loc Y)<|Ev.loc Y) (Ed.ne (Ev.loc Y)<|Ev.glob Y)<|Ed.ne (Ev.loc Y)<|Ev.glob Y) (λh=>?_) λh=>?_,Wc.expr<|u.fail Y<|(P.Cf h) _ a,Wc.expr<|u.BA Y Y Y (Ai.one (v:= .int<|if b=0 then f else b)<|Ao (λh:b=0=>?_) λh=>?_)<|Rd u (Az.step a<|P.Co h).unit,U (AM h)<|Ev.UE ((Ed.eq (Ev.loc Y)<|Ev.glob Y).1 h)<|Ev.loc Y,U (AS h)<|Ev.Uv ((Ed.eq (Ev.loc Y)<|Ev.glob Y).2 h)<|Ev.loc Y]
end
end
section
section
theorem xh:∀{N d A H m e s Q E}{f}(c:Core A H m e s)(w:f.length<=lim)(P:Az A H m (Eu e) (gz A.env f s) Q E),(BR tb.P FF N (d+6) I 34 [.ref A.sc,.tup<|il f] H).wp Q E:=by intros N d A H m e s Q E f;intro c w P;induction f using An with|nil=>rw[P.elim]|cons b o=>intros _ b o _ w P;rw[Cg Y Y ?_];simp only [D6];rw[Wc.Iv (Rm Y)<|Wc.CC (Ed.eq (Ev.loc Y) Ev.con) (λg=>?_) λg=>?_,Wc.expr<|c.BA Y Y Y Ai.nil<|Uw c<|(P.Cf g).Iz (BN.refl _ _) λa B F u j P=>Wc.nil<|P.unit.done u j ⟨Y,Y⟩];replace P:=P.Co g;rw[Wc.CC (Ed.c (Ev.loc Y) (Ai.tup (vs:=[.int 27,.int 28]) Y<|B6 Y)<|MR (l:=[27,28])) (λg=>?_) λg=>?_,Wc.expr<|c.BA Y Y Y (Ai.one<|Ev.loc Y)<|aa9 c w (P.Cf g).unit];replace P:=P.Co g;rw[Wc.CC (Ed.lt (Ev.loc Y) Ev.con) (λg=>?_) λg=>?_,Wc.expr<|c.fail Y<|(P.Cf g) _<|BN.refl _ _];replace P:=P.Co g;rw[AY P.of λl D P=>Wc.asg<|c.BA Y Y Y (Ai.one<|LA Y D)<|aa0 c<|P.Iz (BN.refl _ _) λk B F u j P=>?_];(have q:∀(v:MH)(p:BK),Core A v m e p->BN A H v->Az A H m (Eu e) (if b≠33 then H9 k p else .ok () p) Q E->Wc N I (d+5) (Qc Q) E [.ifs (.cmp (.loc 2) [.ne] [.con<|.int 33]) [.expr<|.BA (.loc 0) 10 [.loc 3]] []] (upd (upd (upd (upd (λZ=>C) 0<|.ref A.sc) 1<|.tup<|il<|b::o) 2<|.int b) 3<|.int k) v:=λv p r z P=>by rw[Wc.CC (Ed.ne (Ev.loc Y) Ev.con) (λh=>?_) λh=>?_,Wc.expr<|r.BA Y Y Y (Ai.one<|Ev.loc Y)<|Rd r (Az.step z<|P.Cf h).unit,Wc.nil<|(P.Co h).unit.done r z ⟨Y,Y⟩]);rw[Wc.CC (Ed.ne (Ev.loc Y) Ev.con) (λh=>?_) λh=>?_];(·replace P:=P.aM h;rw[Wc.expr<|u.BA Y Y Y (Ai.one<|Ev.loc Y)<|Of u<|P.Iz j λa p v r y P=>q _ _ r (j.trans y) P]);rw[q _ _ u j<|P.bF h]
theorem tg(c:Core A H at_ a s)(P:E ⟨.str 49,.int A.env.fn,.int at_⟩ H):(BR tb.P FF N (d+2) I 27 [.ref A.sc,v] H).wp Q E:=by rw[Cg Y Y ?_];simp only [D6];rw[Wc.expr<|c.fail Y P]
end
end
section
inductive L7(e:EZ):Prop
 |mk(kinds:∀k∈e.kinds,k.1.length<=lim/\k.2.length<=lim)(res:e.res.length<=lim)
theorem aaD:∀{e}{t}{k}(b:L7 e)(h:blockKind e t=V k),k.1.length<=lim:=by
 intros e t k _ b h;unfold blockKind at h;repeat'(split at h)
 all_goals first|(cases h;rw[CJ _])|(cases h;done)|skip
 rw[(b.1 k<|E7 h).1]
theorem xo(c:L7 e){k:O J×O J}(h:QP e i s= .ok k a):k.1.length<=lim:=by
 unfold QP at h;split at h;·rw[G3 (PR.Iu h) λf d g b=>?_];unfold VU at b;split at b;rw[(c.1 k<|E7 (PR.of_ok b).2).1,nomatch b]
 rw[nomatch h]
section
theorem Az.weak(P:Az A H at_ IV r Q E)(d:O<|G×G):Az A H at_ (Eu d) r Q E:=by induction r using PR.casesOn with|ok a j=>rw[λg b v c f e=>P g b v c f e.1]|fail w=>rw[P]|big=>rw[P]
theorem Az.jN(P:Az A b at_ c (r.bind f) q E)(u:BN A b H)(k:∀a d j,r= .ok a d->Core A j at_ i d->BN A H j->Az A b at_ c (f a d) q E->Q (D0 a) j):Az A H at_ (λk v Z g=>v=D0 k/\g=i) r Q E:=P.bindB u λa d j g v e y w h P=>by(rw[xA h λo m=>?_];clear h;rw[U o ?_];subst m);rw[k a d j e y w P]
theorem Core.vB(c:Core A H at_ l s)(i:a 0=V (.ref A.sc))(m:tb.P.Fd 3 k=V f)(j:Cd (.str k) (Hh A at_)=C)(h:Ee N I d E a H e λx H=>∃y,Ev N I d a H b y/\(BR tb.P FF N d I f [.ref A.sc,x,y] H).wp Q E):Ee N I d E a H (.BA (.loc 0) k [e,b]) Q:=TM<|Tc i<|Aa _ (c.kind m j)<|Es<|R.wp_mono h (λx H h=>by rw[AY h λy g h=>Es<|Ee.v g<|Jy h]) λZ Z h=>h
theorem jX:∀{N d A H m l Q E}{b}{c}{o}{s0}(w:L7 A.env)(v:Core A o m l s0)(f:BN A H o)(P:Az A H m IV ((PR.of s0 c[0]?).bind λt s=>(JB A.env t s).bind λk s=>(DG k.1 s).bind λZ s=>Ll b k.1 k.2 s) Q E),Wc N I (d+6) (Qc Q) E [.FP [3,4]<|.BA (.loc 0) 18 [.sub (.loc 1)<|.con<|.int 1],.expr<|.BA (.loc 0) 13 [.loc 3],.expr<|.BA (.loc 0) 14 [.loc 2,.loc 3,.loc 4]] (upd (upd (upd (λZ=>C) 0<|.ref A.sc) 1<|.tup<|il<|b::c) 2<|.int b) o:=by
 intros N d A H m l Q E b c o s0;intro w v f P;injection P.of with t _ B P;rw[Wc.FP<|v.BA Y Y Y (Ai.one<|LA Y B)<|qs v<|P.jN f λk z D e u j P=>?_];intros _ k z D _ e u j P;have a:k.1.length<=lim:=by unfold JB at e;cases g:blockKind A.env t with|some G=>replace e:=g▸e;rw[PR.iO e λq p=>Ag q<|Ag p ?_,aaD w g]|none=>replace e:=g▸e;cases e
 rw[(Aa _ Y<|Wc.expr<|u.BA Y Y Y (Ai.one<|Ev.loc Y)<|Jc u a<|P.bindL (f.trans j) λh F J i e y r Z Z P=>Wc.expr<|y.BA Y Y Y (Ai.cons (Ev.loc Y)<|Ai.cons (Ev.loc Y)<|Ai.one<|Ev.loc Y)<|zV y<|PG<|Az.step ((f.trans j).trans r) P)]
theorem sL:∀{N d A H j a s Q E}{b}(q:2000000<=N)(p:L7 A.env)(c:Core A H j a s)(u:b.length<=lim)(P:Az A H j IV (bY A.env b s) Q E),(BR tb.P FF N (d+7) I 29 [.ref A.sc,.tup<|il b] H).wp Q E:=by intros N d A H j a s Q E b;intro q p c u P;induction b using An with|nil=>rw[P.elim]|cons r o=>intros _ r o _ u P;rw[Cg Y Y ?_];simp only [D6];rw[Wc.Iv (Rm Y)<|Wc.CC (Ed.eq (Ev.loc Y) Ev.con) (λg=>?_) λg=>?_,Wc.expr<|c.BA Y Y Y Ai.nil<|QY q c ((P.Cf g).weak a).unit];replace P:=P.Co g;rw[Wc.ifs<|Ee.EK (Ai.one<|Ev.loc Y)<|vM<|ef (λg=>?_) λg=>?_];(·replace P:=P.Cf g;rw[Wc.CC (Ed.eq (Ev.loc Y)<|Ev.glob Y) (λh=>?_) λh=>?_,Wc.expr<|c.BA Y Y Y (Ai.one<|Ev.glob Y)<|Of c<|(P.aM h).Iz (BN.refl _ _) λz v w m f P=>jX p m f P,jX p c (BN.refl _ _)<|P.bF h]);replace P:=P.Co g;rw[Wc.CC (Ed.eq (Ev.loc Y)<|Ev.glob Y) (λg=>?_) λg=>?_,Wc.expr<|c.BA Y Y Y Ai.nil<|pP c<|PG<|P.Cf g];replace P:=P.Co g;rw[Wc.CC (Ed.eq (Ev.loc Y) Ev.con) (λg=>?_) λg=>?_,Wc.expr<|c.BA Y Y Y Ai.nil<|oS c<|PG<|P.Cf g];replace P:=P.Co g;rw[Wc.CC (Ed.c (Ev.loc Y) (Ai.tup (vs:=[.int 12,.int 13,.int 14]) Y<|B6 Y)<|MR (l:=[12,13,14])) (λg=>?_) λg=>?_,Wc.expr<|c.BA Y Y Y (Ai.one<|Ev.loc Y)<|sx q c u ((P.Cf g).weak a).unit];replace P:=P.Co g;rw[Wc.CC (Ed.eq (Ev.loc Y) Ev.con) (λg=>?_) λg=>?_,Wc.expr<|c.BA Y Y Y (Ai.one<|c.ev Y Y Y)<|Jc c p.2<|(P.Cf g).bindL (BN.refl _ _) λB v w i e m f Z Z P=>Wc.expr<|m.BA Y Y Y Ai.nil<|QY q m ((Az.step f P).weak a).unit];replace P:=P.Co g;rw[Wc.CC (Ed.ge (Ev.loc Y) Ev.con) (λg=>?_) λg=>?_,AY ((P.Cf g).of) λt y P=>Wc.expr<|c.vB Y Y Y<|c.BA Y Y Y (Ai.one<|LA Y y)<|aa' c<|P.jN (BN.refl _ _) λk v w e m f P=>(Aa _ (Ev.cmp (Ev.loc Y) Ev.con mI)<|wb q m (xo p e) ((Az.step f P).weak a).unit)];replace P:=P.Co g;rw[Wc.CC (Ed.ne (Ev.loc Y) Ev.con) (λg=>?_) λg=>?_,Wc.expr<|c.fail Y<|(P.Cf g) _<|BN.refl _ _,Wc.nil<|(PG<|P.Co g).done c (BN.refl _ _) Y]
end
end
section
section
theorem rF:∀{N d A H f a s Q E}{b}(p:2000000<=N)(o:L7 A.env)(c:Core A H f a s)(m:b.length<=lim)(P:Az A H f IV (D_ A.env b s) Q E),(BR tb.P FF N (d+8) I 26 [.ref A.sc,.tup<|il b] H).wp Q E:=by intros N d A H f a s Q E b;intro p o c m P;induction b using An with|nil=>rw[P.elim]|cons k j=>intros _ k j _ m P;rw[Cg Y Y ?_];simp only [D6];rw[Wc.Iv (Rm Y)<|Wc.CC (Ed.or (Ed.le (Ev.loc Y) Ev.con) λZ=>Ed.eq (Ev.loc Y) Ev.con) (λg=>?_) λg=>?_,Wc.expr<|c.BA Y Y Y (Ai.one<|Ev.loc Y)<|sL p o c m<|PG<|P.Cf g];replace P:=P.Co g;rw[Wc.CC (Ed.W9 Ev.con (Ev.loc Y) Ev.con) (λg=>?_) λg=>?_,Wc.expr<|c.BA Y Y Y (Ai.one<|Ev.loc Y)<|xh c m ((P.Cf g).weak a).unit];replace P:=P.Co g;rw[Wc.CC (Ed.eq (Ev.loc Y) Ev.con) (λg=>?_) λg=>?_,Wc.expr<|c.BA Y Y Y (Ai.one<|Ev.glob Y)<|Rd c ((P.Cf g).weak a).unit];replace P:=P.Co g;rw[Wc.CC (Ed.eq (Ev.loc Y) Ev.con) (λg=>?_) λg=>?_,Wc.expr<|c.BA Y Y Y (Ai.one<|Ev.glob Y)<|Rd c ((P.Cf g).weak a).unit];replace P:=P.Co g;rw[Wc.CC (Ed.W9 Ev.con (Ev.loc Y) Ev.con) (λg=>?_) λg=>?_,Wc.expr<|c.BA Y Y Y (Ai.one<|Ev.loc Y)<|rO c ((P.Cf g).weak a).unit,Wc.expr<|c.BA Y Y Y (Ai.one<|Ev.loc Y)<|tg c<|(P.Co g) _<|BN.refl _ _]
theorem w9(h:H[i]?=V (.list fz l)):EU H (.enum ()) [.ref i]=V (.DU i):=map_eq (F4 h) Y
def Ii:AO G->MV|C=> .none|V n=> .int n
def BD(b:O<|O J):O MV:=b.map λi=> .tup<|il i
def PM(A:CA)(H:MH)(r:PC)(Q:MV->MH->Prop)(E:C_->MH->Prop):Prop:=match r with| .ok f=>∀a i,BN A H a->a[i]?=V (.list T<|f.map Ii)->H.length<=i->Q (.ref i) a| .fail w n=>∀a,BN A H a->E ⟨.str w,.int A.env.fn,.int n⟩ a| .big=>BB
inductive XH(A:CA)(H:MH)(i:G)(fz:AL)(body:O<|O J)(Q:MV->MH->Prop)(E:C_->MH->Prop)(j:G)(bs':O<|G×G)(s':BK)(hs:O<|AO G)(ρ:Loc)(H':MH):Prop
 |mk(r0:ρ 0=V (.ref A.sc))(r2:ρ 2=V (.ref H.length))(c:Core A H' ((j-1:G):J) bs' s')(fr:BN A H H')(hi:H'[i]?=V (.list fz<|BD body))(hf:H'[H.length]?=V (.list T<|hs.map Ii))(hn:hs.length=j)(P:PM A H (Ek A.env (body.drop j) j hs s') Q E)
theorem yO{A:CA}(c:Core A H g l s){a:G×G}(i:h 0=V (.ref A.sc))(j:h 5=V (.ref a.1))(m:H[a.1]?=V (.inst 2 a.2))(k:H[a.2]?=V (.dict T<|EB b)):Ev N I d h H (.ite (.bool T [.attr (.loc 5) 42,.attr (.loc 5) 43]) (.con .none)<|.E8 .len<|.attr (.loc 0) 47)<|Ii<|Hg b s:=by unfold Hg;rw[Ao (λf:(b.dead||b.EM)=I=>?_) λf=>?_,U (AM<|by rw[SD]at f;rw[f])<|Ev.UE (by rw[Ag f<|Zo (N:=N) (d:=d) m k j]) Ev.con];·rw[U (AS<|by rw[SD]at f;rw[f]) ?_];have e:=Zo (N:=N) (d:=d) m k j;rw[df _|>.mp f]at e;rw[Ev.Uv e<|c.OR i]
theorem abl:∀{N d A H Q E}{c:O (O AD)}{i}{fz}{j}{s'}{bs'}{hs}{ρ}{m}{k}{QS}(W:2000000<=N)(U:L7 A.env)(v:H.length≠A.vl/\H.length≠A.bl/\H.length≠A.kl/\H.length≠A.fl)(C:i<H.length)(L:i≠A.vl)(K:i≠A.bl)(o:c.length<=lim)(s:∀x∈c,x.length<=lim)(B:c[j]?=V k)(h:XH A H i fz c Q E j bs' s' hs ρ m)(q:∀bs' s' hs ρ m,XH A H i fz c Q E (j+1) bs' s' hs ρ m->QS .next ρ m),Wc N I (d+8) QS E [.Fi (.loc 0) 7 (.loc 3),.ifs (.cmp (.E8 .len (.attr (.loc 0) 48)) [.eq] [.con (.int 0)]) [.expr (.BA (.loc 0) 9 [.con (.str 50)])] [],.asg 5 (.sub (.attr (.loc 0) 48) (.con (.int (-1)))),.expr (.BA (.loc 2) 0 [.ite (.bool T [.attr (.loc 5) 42,.attr (.loc 5) 43]) (.con .none) (.E8 .len (.attr (.loc 0) 47))]),.expr (.BA (.loc 0) 23 [.loc 4])] (upd (upd ρ 3 (.int j)) 4 (.tup (il k))) m:=by intros N d A H Q E c i fz j s' bs' hs ρ m k QS _ W U v C L K o s B h q;have P:=h.8;(replace P:=(I8 (DP.mp B).1)▸P;replace P:=((DP.mp B).2)▸P);have Y:=(DP.mp B).1;have z:=h.3.setAt (j:AD);have r:=yW (o:= .dict T (Hh A (j:AD))) h.3;rw[Wc.Fi (Ev.loc A7) (Ev.loc h.1) (Fi h.3.1 h.3.2 A7 ((dc A7)) (B6 A7) A7) ((?_:Wc N I (d+8) QS E _ _ (m.set A.dd (.dict T (Hh A (j:AD))))))];have p:=r.2 _ _ h.6 v.1 v.2.1 (.inl A7);have M:=r.2 _ _ h.5 L K (.inl A7);have F:=h.4.trans r;clear r;generalize m.set A.dd (.dict T (Hh A (j:AD)))=H1 at*;cases f:s'.C'.getLast? with|none=>change PM A H (OC _ _ _ _) Q E at P;rw[Wc.CC (Ed.eq (z.M9 h.1) Ev.con) (λ_=>Wc.expr (z.fail h.1 ((f▸P) _ F))) (λg=>Aj (A9 (List.getLast?_eq_none_iff.mp f) ?_) g)];rfl|some b=>intros _ b _ f;change PM A H (OC _ _ _ _) Q E at P;replace P:=f▸P;injection(z.last f)with a _ ha e Z G;rw[Wc.CC (Ed.eq (z.M9 h.1) Ev.con) (λg=>?_) (λ_=>?_),nn ((Oq.mp (Int.ofNat_eq_zero.mp g))▸f),Wc.Iv (z.top h.1 G) (Wc.expr (Ee.BA (Ev.loc h.2) (Hu p A7 A7) (Ai.one (yO z h.1 A7 e Z)) ?_))];have S:=h.7;rw[Nz p (by rw[A9 (CO ..) (A9 S ?_)];unfold lim at o;unfold Bj;lia) ?_,A9 (by simp:hs.map Ii++[Ii (Hg b s')]=(hs++[Hg b s']).map Ii) ?_];have X:=z.WM (o:= .list T ((hs++[Hg b s']).map Ii)) p v.1 v.2.1 v.2.2.1 v.2.2.2;have D:BN A H (H1.set H.length (.list T ((hs++[Hg b s']).map Ii))):=XX F;rw[Wc.expr (X.BA h.1 A7 A7 (Ai.one (Ev.loc A7)) (rF W U X (s k (E7 B)) ?_))];cases n:D_ A.env k s' with|fail w=>rw[λm l=>(n▸P) m (D.trans l)]|big=>replace P:=n▸P;rw[P]|ok u J=>replace P:=n▸P;intro H3 R v3 t y _;rw[q R J (hs++[Hg b s']) _ _ ⟨h.1,h.2,t,D.trans y,y.2 _ _ (Bl M (DK (DZ C))) L K (.inl A7),y.2 _ _ (KL p) v.1 v.2.1 (.inl A7),by simp [S],P⟩]
theorem pe:∀{N d A H s Q E}{l}{b}{i}{fz}(D:2000000<=N)(B:L7 A.env)(c:Core A H 0 l s)(r:H[i]?=V (.list fz<|BD b))(y:i≠A.vl)(w:i≠A.bl)(u:b.length<=lim)(C:∀x∈b,x.length<=lim)(P:PM A H (Ek A.env b 0 [] s) Q E),(BR tb.P FF N (d+9) I 25 [.ref A.sc,.ref i] H).wp Q E:=by intros N d A H s Q E l b i fz _ D B c r y w u C P;have f:(BD b).length=b.length:=CO _;rw[Cg Y Y ?_];simp only [D6];rw[Wc.asg<|Ee.list Ai.nil (B6 Y) ?_,Wc.n8 (l:=BD b) (Ai.one<|Ev.loc Y) (w9<|DV r) (λj m p=>∃k o q,XH A H i fz b Q E j k o q m p) (λj m p a=>?_) (λj v m p z a=>?_) (λm p a=>?_) ⟨l,s,[],Y,Y,c.keep λZ Z=>DV,P8,DV r,FQ,Y,P⟩<|by rw[U f ?_];unfold lim at u;lia,SH a λZ Z Z a=>⟨fz,a.5⟩];intros _ j v m p _ z a;rw[SH a λk o q a=>Bo (by rw[Ag z ?_];simp [BD]:(b[j]?).map (λi=>MV.tup<|il i)=V v) λF G e=>?_,Ag e<|(Aa _ Y<|abl D B (bI c) (DH r) y w u C G a λk o q m p a=>(bM k o q a))];·rw[SH a λk o q a=>?_];have P:=a.8;rw[f,Vr]at P;change PM A H (if _ then _ else _) Q E at P;rw[Ao (λg:0<o.C'.length=>?_) λg=>?_];(·rw[AM g]at P;have c:=a.3;rw[f]at c;rw[Wc.CC (Ed.gt (a.3.M9 a.1) Ev.con) (λZ=>Wc.expr<|c.fail a.1<|P _ a.4) λh=>Aj (Ph.mpr g) h]);·rw[AS g]at P;rw[Wc.CC (Ed.gt (a.3.M9 a.1) Ev.con) (λh=>Aj (Ph.mp h) g) λZ=>Wc.FN (Ev.loc a.2)<|P _ _ a.4 a.6<|B2 _]
end
end
section
inductive HO(H H':MH):Prop
 |mk(len:H.length<=H'.length)(keep:∀(i:G)(o:AK),H[i]?=V o->H'[i]?=V o)
theorem HO.trans{H c b:MH}(x:HO H c)(y:HO c b):HO H b:=⟨L x.1 y.1,λi o e=>y.2 i o<|x.2 i o e⟩
theorem Sf:HO H<|H++l:=⟨by simp,λZ Z e=>DV e⟩
def bt(H:MH)(b:J)(r:PC)(Q:MV->MH->Prop)(E:C_->MH->Prop):Prop:=match r with| .ok f=>∀a i,HO H a->a[i]?=V (.list T<|f.map Ii)->H.length<=i->Q (.ref i) a| .fail w n=>∀a,HO H a->E ⟨.str w,.int b,.int n⟩ a| .big=>BB
section
def Oe(H:MH)(a b:G)(e:EZ):MH:=H++ .dict T (Hh ⟨H.length+1,H.length,H.length+2,H.length+5,a,b,H.length,e⟩ 0):: .inst 3 H.length::[.list T [],.dict T<|EB ⟨-1,[],e.res,0,T,T⟩,.inst 2<|H.length+3,.list T [.ref<|H.length+4]]
theorem zf:∀{N d H Q E}{c a}{e}(q:Q (.ref<|H.length+1)<|Oe H c a e),(KR tb.P (BR tb.P FF N (d+2) I) 3 [.ref c,.ref a,.int e.fn,.tup<|il e.locs,.tup<|il e.res] H).wp Q E:=by
 intros N d H Q E c a e _ q;rw[R.XG ((dc Y)) Y<|Cg Y Y ?_];simp only [D6];iterate 5 rw[Wc.Fi (Ev.loc Y) (Ev.loc Y) (Nu Y ((dc Y)) (B6 Y) Y) ?_]
 rw[Gl<|XE<|Ee.list Ai.nil (CJ _)<|Tc Y ?_];(rw[U (Bc ..)<|U Md<|U Md ?_];rewrite [Sy];rw[U Aq ?_]);rw[(Aa _ (Nu Y ((dc Y)) (B6 Y) Y)<|Gl<|XE<|j2<|Es<|Ee.callC (Ai.cons (Ev.glob Y)<|Ai.cons (v:= .tup []) Y<|Ai.cons (Ev.loc Y)<|Ai.cons Ev.con<|Ai.one Ev.con)<|VI (b:=⟨-1,[],e.res,0,T,T⟩) Y<|Jy<|Xu (B6 Y)<|Tc Y ?_)];simp only [Bc,Md,Sy,Aq,IB,LI];rw[(Aa _ (Nu Y ((dc Y)) (B6 Y) Y)<|Wc.Fi Ev.con (Ev.loc Y) (Nu Y ((dc Y)) (B6 Y) Y)<|Wc.nil ⟨Y,q⟩)]
theorem sC:∀{H}{a d}{e}(g:H[a]?=V (.list T<|e.kinds.map D0))(f:H[d]?=V (.list T<|il e.funcs))(p:H[0]?=V (.dict I KC))(j:e.res.length<=lim),Core ⟨H.length+1,H.length,H.length+2,H.length+5,a,d,H.length,e⟩ (Oe H a d e) 0 [(H.length+4,H.length+3)] ⟨[],[⟨-1,[],e.res,0,T,T⟩]⟩:=by
 intros H a d e _ g f p j;have u:=DH g;have r:=DH f;have c:∀(k:G)(o:AK),(AK.dict T (Hh ⟨H.length+1,H.length,H.length+2,H.length+5,a,d,H.length,e⟩ 0):: .inst 3 H.length::[.list T [],.dict T<|EB ⟨-1,[],e.res,0,T,T⟩,.inst 2<|H.length+3,.list T [.ref<|H.length+4]])[k]?=V o->(Oe H a d e)[H.length+k]?=V o:=λk o q=>by unfold Oe;rw[U (DO<|BJ _ _)<|U (Ma ..) ?_,q]
 rw[⟨c 1 _ Y,c 0 _ Y,c 2 _ Y,c 5 _ Y,(BX (c 4 _ Y) (c 3 _ Y) B9),by simp,DV g,DV f,DV p,by rw[(?_:H.length+2≠H.length+5)];lia,⟨by rw[(?_:a≠H.length+2)];lia,by rw[(?_:a≠H.length+5)];lia⟩,⟨by rw[(?_:d≠H.length+2)];lia,by rw[(?_:d≠H.length+5)];lia⟩,(Dx (B2 _) (BJ _ _) (BJ _ _) λb m=>by rw[U (B3.mp m)<|BJ _ _]),CJ _,⟨by rw[(?_:1<=lim)];unfold lim;lia,λb m=>by rw[U (B3.mp m) ⟨CJ _,j⟩]⟩⟩]
theorem xa:∀{N d H Q E}{p fl a fd m}{fz}{e:EZ}{kind:J}{k:O J×O J}{lo}{B:O (O J)}(Y:2000000<=N)(v:L7 e)(j:H[p]?=V (.list T (e.kinds.map D0)))(z:H[fl]?=V (.list T (il e.funcs)))(s:H[0]?=V (.dict AG KC))(S:H[a]?=V (.inst 4 fd))(R:H[fd]?=V (.dict T [(.str 57,.int kind),(.str 46,.tup (il lo)),(.str 58,.ref m)]))(A:H[m]?=V (.list fz (BD B)))(U:0<=kind/\kind<e.kinds.length)(F:e.kinds[kind.toNat]?=V k)(D:e.locs=k.1++lo)(M:e.res=k.2)(C:e.locs.length<=lim)(Z:B.length<=lim)(G:∀x∈B,x.length<=lim)(P:bt H e.fn (JN e B) Q E),(BR tb.P FF N (d+10) AG 36 [.ref p,.ref fl,.int e.fn,.ref a] H).wp Q E:=by
 intros N d H Q E p fl a fd m fz e kind k lo B _ Y v j z s S R A U F D M C Z G P;have b:(il k.1).length<=Bj/\(il lo).length<=Bj/\(il k.2).length<=Bj/\(il k.1++il lo).length<=Bj:=by have:=v.2;have z:=C;rw[D,Aq]at z;rw[M]at this;rw[A9 Aq (A9 (BH ..) (A9 (BH ..) (A9 (BH ..) ?_)))];have h:lim<=Bj:=B6 A7;rw[(Dx (L (L (BJ _ _) z) h) (L (L (Be _ _) z) h) (L this h) (L z h))]
 have t:il k.1++il lo=il e.locs:=by rw[A9 D ?_];simp [il]
 rw[t]at b;have K:Ev N AG (d+9) (upd (upd (upd (upd (λ_=>AI) 0 (.ref p)) 1 (.ref fl)) 2 (.int e.fn)) 3 (.ref a)) H (.attr (.loc 3) 57) (.int kind):=Ev.attr (Ev.loc A7) (GC (Qe S R A7 A7 ⟨A7,A7⟩ A7));have lk:Ev N AG (d+9) (upd (upd (upd (upd (λ_=>AI) 0 (.ref p)) 1 (.ref fl)) 2 (.int e.fn)) 3 (.ref a)) H (.E8 .len (.loc 0)) (.int e.kinds.length):=by rw[Ag (CO (as:=e.kinds) (f:=D0)) (Ev.len (Ev.loc A7) (MZ j))]
 rw[Cg A7 A7 ?_];simp only [D6];rw[Wc.CC (Ed.not (Ed.WB Ev.con K lk)) (λg=>Aj U g) (λ_=>Wc.Uu (Ev.sub (Ev.loc A7) K (GC (Pd (j:=kind.toNat) (v:=D0 k) j (by rw[A9 (CO ..) (UP U)]) (by rw[A9 (FX) (A9 F ?_)];rfl) ⟨A7,A7⟩))) A7 ?_)];have y:∀{X:Loc}{x:CE}{l:O J},(il l).length<=Bj->Ev N AG (d+9) X H x (.tup (il l))->Ev N AG (d+9) X H (.E8 .tuple x) (.tup (il l)):=λD hx=>Ev.E8 hx (by rw[(?_:Gw (il _) H=_)];unfold Gw;rw[A9 (AM D) A7]);rw[Wc.ret (TM (Ee.callC (Ai.cons (Ev.loc A7) (Ai.cons (Ev.loc A7) (Ai.cons (Ev.loc A7) (Ai.cons (Ev.bin (y b.1 (Ev.loc A7)) (y b.2.1 (Ev.attr (Ev.loc A7) (GC (Qe S R A7 A7 ⟨A7,A7⟩ A7)))) (v:= .tup (il e.locs)) ?_) (Ai.one (y (l:=e.res) (M▸b.2.2.1) (by rw[A9 M (Ev.loc A7)]))))))) (zf (e:=e) ?_)))];·rw[(?_:Gw (il k.1++il lo) H=_)];unfold Gw;rw[A9 t (A9 (AM b.2.2.2) A7)]
 have c:=sC j z s v.2;rw[(Aa _ (c.kind A7 A7) (Es (Ee.v (Ev.attr (Ev.loc A7) (GC (Qe (DV S) (DV R) A7 A7 ⟨A7,A7⟩ A7))) (Jy ?_))))];have W:HO H (Oe H p fl e):=Sf;have I:∀u,BN ⟨H.length+1,H.length,H.length+2,H.length+5,p,fl,H.length,e⟩ (Oe H p fl e) u->HO H u:=λu f=>⟨L W.1 f.1,λi o q=>f.2 i o (W.2 i o q) (by have:=DH q;rw[(?_:i≠H.length+2)];lia) (by have:=DH q;rw[(?_:i≠H.length+5)];lia) (.inr (DH q))⟩;have lb:=DH A;rw[pe (A:=⟨H.length+1,H.length,H.length+2,H.length+5,p,fl,H.length,e⟩) Y v c (DV A) (by rw[(?_:m≠H.length+2)];lia) (by rw[(?_:m≠H.length+5)];lia) Z G ?_];unfold JN at P;rw[(?_:PM _ _ (Ek e B 0 [] ⟨[],[⟨-1,[],e.res,0,T,T⟩]⟩) _ _)];cases r:Ek e B 0 [] ⟨[],[⟨-1,[],e.res,0,T,T⟩]⟩with|ok hs=>rw[r]at P;rw[λu i f q n=>P u i (I u f) q (L W.1 n)]|fail w n=>rw[r]at P;rw[λu f=>P u (I u f)]|big=>rw[r]at P;rw[P]
end
end
section
section
def BI(S:O J):AK:= .list T<|il S.reverse
theorem tn:∀{k x},F3 k x=(decide (k=0)||(decide (x=0)||decide (x=k))):=by intros k x;unfold F3;refine Ao (λg:k=0=>?_) λg=>?_<;>refine Ao (λf:x=0=>?_) λf=>?_<;>refine Ao (λb:x=k=>?_) λb=>?_<;>simp [g,f,b]
theorem Yv:(il (x::S).reverse).getLast?=V (.int x):=by rw[U I1 ?_];unfold il;rw[U Ci<|O6]
theorem Ut:(il (x::S).reverse).dropLast=il S.reverse:=by rw[U I1 ?_];unfold il;rw[U Ci HM]
theorem fZ(h:c[n]?=V (.list f<|il a)):R9 c (.c n)=V (T,a):=bind_eq (F4 h)<|(AM e7).trans<|A_ (λl=>V (T,l)) bc
theorem jU:R9 c (.p<|.tup<|il a)=V (I,a):=(AM e7).trans<|A_ (λl=>V (I,l)) bc
theorem QZ(k:c[n]?=V (.list f<|il a))(j:c[m]?=V (.list g<|il b))(q:P<|decide<|a=b):vEq c (.c n) (.c m) P:=B0.mk (fZ k)<|B0.mk (fZ j) q
theorem eqT(q:P<|decide<|a=b):vEq c (.p<|.tup<|il a) (.p<|.tup<|il b) P:=B0.mk jU<|B0.mk jU q
theorem Sx{c:O AK}{n m:G}{f g:AL}{a b:O J}{P:AL->Prop}(k:c[n]?=V (.list f<|il a))(j:c[m]?=V (.list g<|il b))(q:P<|!decide (a=b)):vEq c (.c n) (.c m) λb=>P<|!b:=QZ (P:=λb=>P<|!b) k j q
theorem neT{c:O AK}{a b:O J}{P:AL->Prop}(q:P<|!decide (a=b)):vEq c (.p<|.tup<|il a) (.p<|.tup<|il b) λb=>P<|!b:=eqT (P:=λb=>P<|!b) q
def Lo(k:J):O J->AL|[]=>T|x::_=>F3 k x
abbrev lg(k:J)(S:O J):Kt:=PQ (σ:=BF) (λZ=>Bg) (λZ=> .p<|.bool<|Lo k S) λZ=>[BI S.tail]
theorem Yu  : ∀ {a d} (S : O J)   (k : J),  Cv a (d + 1) 52 [.c 0, .p (.int k)] [BI S] (lg k S) := by
 intros a d S k
 rw [Cv.run Y Y Y (QZ    (a := S.reverse) (b := []) Y Y (Ap.d   (fun h => ?_) fun h => ?_))]
 · obtain rfl := List.reverse_eq_nil_iff.mp h
   rw [PQ.ret () B9 Y Y Y]
 · induction S using An with
   | nil => rw [Aj Y h]
   | cons x S =>
     intros _ x S _
     have fin : ∀ {b}, b = F3 k x → Dr 1 (lg k (x :: S)) [.list T (il  (x :: S).reverse).dropLast, .list T []]  (.p (.bool b)) := fun e => PQ.ret () B9 (A_ (fun l => [AK.list T l,  .list T []])  Ut) (by rw [U e  ?_]; rfl) Y
     refine B0.mk Yv (Ap.d (fun h => fin ?_) fun c =>  Ap.d (fun h => fin ?_) fun f =>  Ap.d (fun h => fin ?_) fun g =>  fin ?_) <;> simp [tn, *]
theorem sz(h:n<=m)(b:Bm m 16777216=I):Bm n Bj=I:=G2<|L h<|B6 b
def MX:O J->O J->O AL|[],_=>[]|k::a,S=>Lo k S::MX a S.tail
theorem xI:∀{S},(MX a S).all id=(Au T a S).isSome:=by induction a with|nil=>intro S;rw[U LJ ?_];rfl|cons k a b=>intro S;induction S using An with|nil=>rw[U Nm ?_];rfl|cons x S=>rw[U La<|((U b ?_):(F3 k x&&(MX a S).all id)=_)];unfold F3;rw[Ao (λh:x≠k/\x≠0/\k≠0=>?_) λh=>?_];(·rw[U (AM h)<|U (Dk λz=>z h) ?_];rfl);·rw[U (AS h)<|U (DD h) ?_];rfl
theorem Y7(a:O AL):Ju (a.map MV.bool)=V a:=by induction a with|nil=>rfl|cons b a f=>rw[map_eq f Y]
theorem uE:∀{S},(MX a S).length=a.length:=by induction a with|nil=>rw[Y]|cons k a b=>rw[A_ (·+1) b]
abbrev aao(a S:O J):Kt:=PQ (σ:=BF) (λZ=>Bg) (λZ=> .p<|.bool (Au T a.reverse S).isSome) λZ=>[BI<|S.drop a.length]
theorem N':∀{j d}(S a:O J)(f:a.length<=1000),Cv j (d+2) 53 [.c 0,.p<|.tup<|il a] [BI S]<|aao a S:=by
 intros j d S a _ f;rw[Cv.run Y Y Y<|Al.mk (sz (m:=1000) (by rw[U Bu<|U (BH ..) f]) Y)<|Cl.mk (σ:=O J×O J) (λs=>[BI s.2]) (λl c s=>l=il s.1/\∃b,c=b.map MV.bool/\b++MX s.1 s.2=MX a.reverse S/\s.2.drop s.1.length=S.drop a.length) (.tup _) (λZ=>Y) Y ⟨(a.reverse,S),_,[],(Tt (by unfold il;rw[U d5 Y]) ([]) Y Y<|by rw[U Bu Y]),Y,Y⟩ (λv l c s h=>?_) λc s h=>?_];·obtain⟨_|⟨k,G8⟩,e⟩:=s;rw[nomatch h.1];·rw[Cp h.2 λb BL g i=>U BL ?_];obtain⟨rfl,rfl⟩:=Cs<|h.1;rw[(Yu e k).pq λZ Z=>⟨(G8,e.tail),_,[],(Tt Y (b++[Lo k e]) (by rw[U Ci ?_];rfl) (by rw[U (Bc ..) g])<|by rw[Ag i<|U List.drop_tail ?_];rfl),Y,Y⟩]
 ·obtain⟨_|⟨k,G8⟩,e⟩:=s;(·rw[Cp h.2 λb Bf g i=>U Bf ?_];(have m:b=MX a.reverse S:=by rw[Ag g<|(Ba b).symm]);rw[Al.mk (sz (m:=1000) (by rw[U (CO ..)<|U m<|U uE<|U Bu f]) Y)<|B0.mk (Y7 b)<|PQ.ret (ex:=[_]) () B9 (by rw[Ag i ?_];rfl) (by rw[U m<|U xI Y]) Y]);rw[nomatch h.1]
end
end
section
section
def kI:AK:= .list T<|Hc.map D0
theorem Pg:Cv Γ (d+1) 39 [] []<|PQ (σ:=BF) (λZ=>Bg) (λZ=> .c 0) λZ=>[kI]:=Cv.run Y Y Y<|PQ.ret (ex:=[]) () B9 Y Y Y
theorem Yd:∀{f d}{b}{k}(h:blockKind B' b=V k),Cv f (d+2) 40 [.p<|.int b] []<|PQ (σ:=BF) (λZ=>Bg) (λZ=> .p<|D0 k) λZ=>[]:=by
 intros f d b k _ h;rw[Cv.run Y Y Y<|Ap.d (λa=>?_) λa=>Ap.d (λc=>?_) λc=>?_];·have a:b= -64:=a;subst a;obtain rfl:=AN h;rw[PQ.ret (ex:=[]) () B9 Y Y Y]
 rw[IU ((AM c).symm.trans<|(AS (t:=V ([],[])) a).symm.trans h) λZ e=>by rw[U e<|PQ.ret (ex:=[]) () B9 Y Y Y]];·rw[CB ((AS c).symm.trans<|(AS (t:=V ([],[])) a).symm.trans h) λg h=>Pg.pq λZ Z=>?_];(have e:Ez b (Hc.map D0)=V (D0 k):=by rw[U UG<|bind_eq (a:=b.toNat) ((AM<|Gn.mp c).trans<|AM g)<|U (FX)<|U ((h:Hc[b.toNat]?=V k)) ?_];rfl);rw[B0.mk e<|PQ.ret (ex:=[_]) () B9 Y Y Y]
theorem bj(h:b∈([167,172,173]:O J)):Eh b=if b=167 then([-2],[-1])else([-1],[-2]):=AM h
theorem iR(h:¬b∈([167,172,173]:O J)):Eh b=(if b∈([69,80]:O J)then [Gr b]else [Gr b,Gr b],[JR b]):=AS h
theorem c9:∀{a d}{b},Cv a (d+1) 54 [.p<|.int b] []<|PQ (σ:=BF) (λZ=>Bg) (λZ=> .p<|D0<|Eh b) λZ=>[]:=by intros a d b;have f:∀{l:O MV}{g:J},MV.tup [.tup l,.tup [.int g]]=D0 (Eh b)->Dr 0 (PQ (σ:=BF) (λZ=>Bg) (λZ=> .p<|D0<|Eh b) λZ=>[]) [] (.p<|.tup [.tup l,.tup [.int g]]):=λe=>PQ.ret (ex:=[]) () B9 Y (A_ AV.p e) Y;rw[Cv.FO Y Y Y<|Ts.ifs<|Ap.d (λh=>?_) λh=>?_,Ts.of<|Ap.d (λj=>f<|A_ D0 ((bj h).trans<|AM j).symm) λj=>f<|A_ D0 ((bj h).trans<|AS j).symm];·rw[Ts.cut 1 (σ:=BF) (λZ=>[.p<|.int b,.p<|.int<|Gr b]) (λZ=>[]) (λZ=>Bg) (λZ=>Y) (Ts.of ?_) λZ Z=>Ts.cut 1 (σ:=BF) (λZ=>[.p<|.int b,.p<|.int<|Gr b,.p<|.int<|JR b]) (λZ=>[]) (λZ=>Bg) (λZ=>Y) (Ts.of ?_) λZ Z=>?_];(·have y:∀{k},(b<80\/(106<=b/\b<121))->k= -1->k=Gr b:=λq e=>e.trans (AM q).symm;have n:∀{k},¬(b<80\/(106<=b/\b<121))->k= -2->k=Gr b:=λq e=>e.trans (AS q).symm;have f:∀{k:J},k=Gr b->Arr (σ:=BF) (λZ=>[.p<|.int b,.p<|.int<|Gr b]) (λZ=>[]) (λZ=>Bg) (put 1 (.p<|.int k) [.p<|.int b]) []:=λe=>⟨(),[],[],B9,by rw[Ag e ?_];rfl,Y⟩;rw[Ap.d (λh=>f<|y (.inl h) Y) λo=>Ap.d (λj=>Ap.d (λm=>f<|y (.inr ⟨j,m⟩) Y) λm=>f<|n (λq=>q.elim o λq=>m q.2) Y) λj=>f<|n (λq=>q.elim o λq=>j q.1) Y]);rw[Ap.d (λh=>⟨(),[],[],B9,by unfold JR;rw[U (AM h) ?_];rfl,Y⟩) λh=>⟨(),[],[],B9,by unfold JR;rw[U (AS h) ?_];rfl,Y⟩,Ts.of<|Ap.d (λj=>f<|A_ D0 ((iR h).trans (A_ (·,[JR b])<|AM j)).symm) λj=>f<|A_ D0 ((iR h).trans (A_ (·,[JR b])<|AS j)).symm]
end
end
section
def Ac(B:O<|O J):AK:= .list T<|BD B
def B_(S:O J):AK:= .list T<|il S
theorem I6:BD a++BD b=BD (a++b):=Ci.symm
theorem DA:(BD a).length=a.length:=CO _
theorem ED:il a++il b=il (a++b):=Ci.symm
section
theorem uu{ks:O J}{m}(h:m<ks.length):∃x,(il<|ks.take<|m+1).getLast?=V (.int x)/\(il<|ks.take<|m+1).dropLast=il (ks.take m):=by rw[(Aa (ks[m]) (?_)<|?_),U (lA h)<|Ag ED<|O6,U (lA h)<|Ag ED HM]
theorem jI{n:G}(h:n<=16777216): -16777216<=(n:J)/\(n:J)<=16777216:=⟨Fm ((dc Y))<|EE n,DM.mpr h⟩
theorem h_{n:G}:(G1 0 n).length=n:=by unfold G1;rw[U (CO ..)<|U Og<|U (Vk ..) ?_];rfl
theorem mK:∀{Γ d ks}{n:G}(h:n<=ks.length)(j:n<=1000000),Cv Γ (d+1) 43 [.c 0,.p<|.int n] [B_ ks]<|PQ (σ:=BF) (λZ=>Bg) (λZ=> .p .none) λZ=>[B_<|ks.take<|ks.length-n]:=by
 intros Γ d ks n _ h j;rw[Cv.run Y Y Y<|Fl.mk (σ:=G) (e:=λZ=>[.c 0,.p<|.int n]) (cs:=λs=>[B_<|ks.take<|ks.length-s]) (λb s=>s+b.length=n) (.Hb _<|jI<|L j<|B6 Y) (λZ=>Y) ⟨0,[],[],(Di _).trans h_,Y,by rw[U (Nat.sub_zero ..)<|U W7 ?_];rfl⟩ (λv b s g=>Ts.of ?_) λs g=>?_];intros _ v b s _ g;·have g:s+(b.length+1)=n:=g;have f:s<ks.length:=CQ (Mu<|FA _) (g▸h);rw[AY (uu (ks:=ks) (m:=ks.length-(s+1))<|Nat.sub_lt (CH (CJ _) f)<|FA _) λx q o=>?_];rw[show ks.length-(s+1)+1=ks.length-s from Nat.sub_one_add_one (Nat.sub_ne_zero_of_lt f)]at q o;rw[B0.mk q ⟨s+1,_,[],by rw[U (FZ ..) g],Y,A_ (λl=>[AK.list T l]) o⟩]
 rw[PQ.ret (ex:=[]) () B9 (by rw[Ag ((g:s+0=n)) ?_];rfl) Y Y]
theorem UK{g:Type}{f:g->AV}{l:O g}{i:J}(h:0<=i/\i<l.length):∃v∈l,Ez i (l.map f)=V (f v):=by(rw[xE (Mk h.1) λn b=>?_];subst b);have j:n<l.length:=Du.mp h.2;rw[(Aa (l[n]) (OS j)<|by rw[((U (FX)<|U (Cm j) ?_):(l.map f)[n]?=_)];rfl)]
def pI(i:J):AV:= .p<|.int i
theorem V7{n m:J}(h:0<m):0<=n%m/\n%m<m:=⟨j_ _<|VL h,km _ h⟩
theorem WH:∀{a d L B S k n}(q:k= -1\/k= -2)(r:B.length<=100000)(w:S.length<=100000),Cv a (d+1) 41 [.c 0,.c 1,.p<|.int k,.p<|.int n] [Ac B,B_ S]<|PQ (E_ L) (λZ=> .p .none) λrow=>[Ac<|B++[row],B_<|S++[k]]:=by
 intros a d L B S k n _ q r w;have o:∀{l:O MV}{m:G},l.length=m->m<=100000->D1 l.length Bj=I:=λe h=>sz (m:=100001) (e▸Ce h) Y;have b:∀{row:O J}{l:O MV}{ex:O AK},l=il row->E_ L row->Al (D1 (il S).length Bj) (Dr 2 (PQ (E_ L) (λZ=> .p .none) λrow=>[Ac<|B++[row],B_<|S++[k]]) ([.list T<|BD B++[.tup l],.list T<|il S++[.int k]]++ex)<|.p .none):=λ{row l ex}e h=>Al.mk (o (BH _) w)<|PQ.ret (ex:=ex) row h (by rw[U e ?_];unfold Ac B_;rw[Ag I6<|Ag ED ?_];rfl) Y Y;rw[Cv.run Y Y Y<|Ap.d (λh=>?_) λh=>?_];·rw[AY (UK (f:=pI) (l:=[0,1,-1,2,-2147483648,n%100]) (i:=n/3%6)<|V7 (m:=6)<|by decide) λv Z y=>B0.mk y<|Al.mk (o DA r) ?_];(rw[Cz q (λj=>?_) λj=>?_];subst j;rotate_left;subst j;rotate_right);rw[b (row:=[65,v]) Y<|Bp _ _<|.Mv v,b (row:=[66,v]) Y<|Bp _ _<|.put2 v]
 ·have u:=U5 (n/3);rw[Al.mk (by refine Cz u (λe=>?_) λe=>?_<;>refine U e ?_<;>rfl)<|Al.mk (o DA r) ?_];(rw[Cz q (λg=>?_) λg=>?_];subst g;rotate_left;subst g;rotate_right)<;>refine Cz u (λe=>?_) λe=>?_;rw[b (row:=[32,0]) (by rw[U e ?_];rfl)<|Bp _ _<|.get (i:=0) Y,b (row:=[32,2]) (by rw[U e ?_];rfl)<|Bp _ _<|.get (i:=2) Y,b (row:=[32,1]) (by rw[U e ?_];rfl)<|Bp _ _<|.get (i:=1) Y,b (row:=[32,3]) (by rw[U e ?_];rfl)<|Bp _ _<|.get (i:=3) Y]
end
end
section
inductive Wk(ks:O J):AV->O AK->Prop
 |tup:Wk ks (.p<|.tup<|il ks) []
 |lst:Wk ks (.c 2) [B_ ks]
section
theorem Wk.sc{e:VG}{w:AV}{X:O AK}{d:O J}(h:Wk d w X)(c:d.length<=1000){f:Type}{a b:f->AK}:Sc e (λs=>a s::b s::X) T .val [w]<|il d:=by cases h with|tup=>rw[.tup _]|lst=>rw[.Kd 2 _ (by rw[U (BH ..)<|CH c<|B6 Y]) λZ=>Y]
theorem Wk.ok{w:AV}{X:O AK}{d:O J}(h:Wk d w X){c:Type}{m:c->MV}{a b:c->AK}{g f:AK}:Gb (g::f::X).length (λs=>[.c 0,.c 1,w,.p<|m s]) λs=>a s::b s::X:=by cases h<;>exactλZ=>Y
theorem Wk.lv:∀{w X a}(h:Wk a w X),YE w=V w:=by intros w X a _ h;cases h<;>rfl
theorem Wk.rk{w:AV}{X:O AK}{e:O J}(h:Wk e w X){a b c d:AK}:(Bm (a::b::X).length (c::d::X).length&&G' (c::d::X).length (.p .none))=I:=by cases h<;>rfl
abbrev au(L B:O<|O J)(S a:O J)(X:O AK):Kt:=PQ (σ:=O (O J)×O J) (λs=>(∀r∈s.1,E_ L r)/\s.1.length<=a.length/\s.2.length<=S.length) (λZ=> .p .none) λs=>Ac (B++s.1)::B_ (s.2++a)::X
theorem Nt{P:O J->Prop}:∀r∈([]:O<|O J),P r:=λZ m=>(by cases m)
theorem Hy{P:O J->Prop}{a:O (O J)}{row:O J}(h:∀r∈a,P r)(k:P row):∀r∈a++[row],P r:=λr m=>(Cj.mp m).elim (h r) λm=>B3.mp m▸k
theorem pX{f c:Type}{a:O f}{b:O c}{x:f}{y:c}{n:G}(h:a.length=n+b.length):(a++[x]).length=n+(b++[y]).length:=by rw[U Aq<|U Aq<|U h ?_];rfl
theorem Tf{f:Type}{a b c:O f}{n:G}(h:a++b=c)(g:c.length<=n):a.length<=n:=L (by rw[Ag h<|U Aq<|BJ _ _]) g
theorem DY{c:Type}{a b:O c}{n m k:G}(g:a.length<=n)(f:b.length<=m)(h:Bm (n+m) k=I):(a++b).length<=k:=by rw[U Aq<|L (Cq g f)<|B6 h]
theorem yw:Ac B::B_ S::X=(Ac (B++[])::B_ (S++[])::X)++[]:=by rw[U (Ba ..)<|U (Ba ..)<|U (Ba ..) Y]
theorem Wt{c a b:O J}{x:J}(h:a++x::b=c):(a++[x])++b=c:=by rw[U (Bc ..) h]
theorem JD:∀{p d w X L B S ks n}(hw:Wk ks w X)(j:∀k∈ks,k= -1\/k= -2)(e:ks.length<=10)(hB:B.length<=50000)(l:S.length<=50000),Cv p (d+2) 42 [.c 0,.c 1,w,.p<|.int n] (Ac B::B_ S::X)<|au L B S ks X:=by
 intros p d w X L B S ks n _ hw j e hB l;rw[Cv.FO Y Y (by cases hw<;>rfl)<|Ts.cut 1 (σ:=BF) (λZ=>[.c 0,.c 1,w,.p<|.int n]) (λZ=>Ac B::B_ S::X) (λZ=>Bg) hw.ok (Ts.of ?_) λZ Z=>Ts.of ?_];·(have yes:(il S).length>=(il ks).length->(((il S).length:J)-((il ks).length:J)).toNat=S.length-ks.length/\0<=((il S).length:J)-((il ks).length:J)/\((il S).length:J)-((il ks).length:J)<=(il S).length:=λh=>by rw[BH,BH]at*;rw[Ag (QW h)<|(BX Y (EE _)<|DM.mpr<|FJ _ _)]);have q:Bm ((il S).drop (((il S).length:J)-((il ks).length:J)).toNat).length Bj=I:=sz (m:=50000) (by rw[U GS<|U (BH ..)<|AJ (FJ _ _) l]) Y;have t:Bm (il ks).length Bj=I:=sz (m:=10) (by rw[U (BH ..) e]) Y;(have u:(il S).length>=(il ks).length->AK.list T ((il S).drop (((il S).length:J)-((il ks).length:J)).toNat)= .list T (il<|S.drop<|S.length-ks.length):=λh=>by rw[U ((yes h).1)<|A_ (AK.list T) dT.symm]);have ret:S.drop (S.length-ks.length)=ks->∀ex,Dr (Ac B::B_ S::X).length (au L B S ks X) (Ac B::B_ S::(X++ex)) (.p .none):=λh ex=>PQ.ret (ex:=ex) ([],S.take<|S.length-ks.length) (BX Nt (CJ _)<|by rw[U Mo<|aB _ _]) (by rw[U (Ba ..)<|U ((λh=>(A_ (S.take (S.length-ks.length)++·) h.symm).trans<|Kz _ _:S.drop (S.length-ks.length)=ks->S.take (S.length-ks.length)++ks=S) h) ?_];rfl) Y hw.rk;cases hw with|tup=>rw[Ap.d (λh=>Fg ⟨(yes<|DM.mp h).2.1,(yes<|DM.mp h).2.2⟩<|Al.mk q<|Al.mk t<|QZ (a:=S.drop<|S.length-ks.length) (b:=ks) (f:=T) (g:=T) (A_ V<|u<|DM.mp h) Y<|Ap.d (λf=>ret f [_,_]) λf=>⟨(),[],[_,_],B9,Y,Y⟩) λh=>⟨(),[],[],B9,Y,Y⟩]|lst=>rw[Ap.d (λh=>Fg ⟨(yes<|DM.mp h).2.1,(yes<|DM.mp h).2.2⟩<|Al.mk q<|Al.mk t<|QZ (a:=S.drop<|S.length-ks.length) (b:=ks) (f:=T) (g:=T) (A_ V<|u<|DM.mp h) Y<|Ap.d (λf=>ret f [_,_]) λf=>⟨(),[],[_,_],B9,Y,Y⟩) λh=>⟨(),[],[],B9,Y,Y⟩]
 ·rw[B0.mk hw.lv<|Fl.mk (σ:=(O (O J)×J)×O J×O J) (e:=λs=>[.c 0,.c 1,w,.p<|.int s.1.2]) (cs:=λs=>Ac (B++s.1.1)::B_ (S++s.2.1)::X) (λx s=>x=il s.2.2/\s.2.1++s.2.2=ks/\(∀r∈s.1.1,E_ L r)/\s.1.1.length=s.2.1.length) (hw.sc<|AJ e<|by decide) hw.ok ⟨(([],n),[],ks),[],[],(Dx Y Y Nt Y),Y,yw⟩ (λv x s g=>?_) λs g=>?_];(·obtain⟨⟨i,m⟩,a,b⟩:=s;(rw[Fb g λe1 c o Kj=>?_];clear g);induction b using An with|nil=>rw[nomatch e1]|cons k b=>obtain⟨rfl,rfl⟩:=Cs e1;rw[Ts.of<|Cv.fr [0,1] [.c 0,.c 1,.p<|.int k,.p<|.int m] (by decide) Y Y Y (WH (L:=L) (j k<|c▸TP _ (.head _)) (DY hB (Kj▸Tf c e) Y)<|DY l (Tf c e) Y) λrow WC=>?_,⟨((i++[row],m/5),a++[k],b),[_],[],(Dx Y (Wt c) (Hy o WC)<|by rw[U Aq<|U Aq<|U Kj ?_];rfl),Y,by show(Ac (B++i++[row])::B_ (S++a++[k])::X)++[]=(Ac (B++(i++[row]))::B_ (S++(a++[k]))::X)++[];rw[Bc B,Bc S]at⊢⟩]);·obtain⟨⟨i,m⟩,a,b⟩:=s;(rw[Fb g λe1 c o Kj=>?_];clear g);induction b using An with|cons=>rw[nomatch e1]|nil=>rw[Ba]at c;clear j e;obtain rfl:a=ks:=c;rw[PQ.ret (ex:=[]) (i,S) (BX o (C8 Kj)<|B2 _) (Ba _).symm Y hw.rk]
end
end
section
section
def yT:AK:= .list T [.tup<|il [26]]
theorem vK:(Ct n [x]).flatten=Ct n x:=by induction n with|zero=>rfl|succ n c=>rw[A_ (x::·) c]
theorem X5:(Ct n [MV.tup<|il r]).flatten=BD (Ct n r):=by rw[U vK ?_];unfold BD;rw[U Zb Y]
theorem lj:∀{p d L B S ks n}(l:∀k∈ks,k= -1\/k= -2)(i:ks.length<=10)(hB:B.length<=50000)(f:S.length<=20000),Cv p (d+2) 44 [.c 0,.c 1,.p<|.tup<|il ks,.p<|.int n] [Ac B,B_ S]<|PQ (σ:=O<|O J) (λs=>(∀r∈s,E_ L r)/\s.length<=S.length+ks.length) (λZ=> .p .none) λs=>[Ac<|B++s,B_ ks]:=by intros p d L B S ks n _ l i hB f;have c:(il S).length=S.length:=BH _;rw[Cv.FO Y Y Y<|Ts.ifs<|Al.mk (sz (m:=10) (by rw[U (BH ..) i]) Y)<|Sx (a:=S) (b:=ks) Y Y ?_,Ao (λh:S=ks=>?_) λh=>?_,U h<|U (DD Y) ?_,Ts.of<|PQ.ret (ex:=[_]) [] ⟨Nt,CJ _⟩ (by rw[U (Ba ..) Y]) Y Y];·rw[U (Dk h) ?_,Ts.cut 1 (σ:=BF) (λZ=>[.c 0,.c 1,.p<|.tup<|il ks,.p<|.int n]) (λZ=>[Ac<|B++Ct S.length [26],B_ S,B_ ks]) (λZ=>Bg) (λZ=>Y) (Ts.of ⟨⟨EE _,DM.mpr<|c▸AJ f ((dc Y))⟩,Al.mk (sz (m:=20000) ?_ Y)<|Al.mk (sz (m:=70000) ?_ Y) ⟨(),[],[yT,.list T<|BD<|Ct S.length [26]],B9,Y,?_⟩⟩) λZ Z=>Ts.cut 1 (σ:=BF) (λZ=>[.c 0,.c 1,.p<|.tup<|il ks,.p<|.int n]) (λZ=>[Ac<|B++Ct S.length [26],B_ [],B_ ks]) (λZ=>Bg) (λZ=>Y) (Ts.of<|Cv.fr [1] [.c 0,.p<|.int (il S).length] ((dc Y)) Y Y Y (mK (C8 c)<|c▸AJ f ((dc Y))) λZ Z=>⟨(),[],[],B9,Y,?_⟩) λZ Z=>Ts.of<|Fl.mk (σ:=O (O J)×O J×O J) (e:=λZ=>[.c 0,.c 1,.p<|.tup<|il ks,.p<|.int n]) (cs:=λs=>[Ac<|B++s.1,B_ s.2.1,B_ ks]) (λq s=>q=il s.2.2/\s.2.1++s.2.2=ks/\(∀r∈s.1,E_ L r)/\s.1.length=S.length+s.2.1.length) (.tup _) (λZ=>Y) ⟨(Ct S.length [26],[],ks),[],[],(Dx Y Y (λr m=>by rw[U (Z_ m)<|(Bp _ _ .drop)]:∀r∈Ct S.length [26],E_ L r) KU),Y,Y⟩ (λv q s g=>?_) λs g=>?_,((U X5<|U DA<|U KU<|U c ?_):((Ct (il S).length [MV.tup<|il [26]]).flatten).length<=_),f,((U X5<|U DA<|U DA<|U KU<|U c ?_):(BD B).length+((Ct (il S).length [MV.tup<|il [26]]).flatten).length<=_),Cq hB f];(·rw[((U X5<|U I6<|U c ?_):[AK.list T<|BD B++(Ct (il S).length [MV.tup<|il [26]]).flatten,_,_,_,.list T (Ct (il S).length [MV.tup<|il [26]]).flatten]=_)];rfl);rw[((U c<|U (GI ..)<|U List.take_zero Y):[_,B_<|S.take<|S.length-(il S).length,_]++[]=_)];(·obtain⟨j,a,b⟩:=s;(rw[Fb g λe1 e o Kj=>?_];clear g);induction b using An with|nil=>rw[(by cases e1)]|cons k b=>obtain⟨rfl,rfl⟩:=Cs e1;rw[Ts.of<|Cv.fr [0,1] [.c 0,.c 1,.p<|.int k,.p<|.int n] ((dc Y)) Y Y Y (WH (L:=L) (l k<|e▸TP _ (.head _)) (DY hB (m:=20010) (Kj▸Cq f (Tf e i)) Y)<|AJ (Tf e i)<|(dc Y)) λrow WC=>⟨(j++[row],a++[k],b),[_],[],(Dx Y (Wt e) (Hy o WC)<|(pX Kj:(j++[row]).length=S.length+(a++[k]).length)),Y,by rw[((U (Bc ..) ?_):[Ac<|B++j++[row],_,_]=_)];rfl⟩]);·obtain⟨j,a,b⟩:=s;(rw[Fb g λe1 e o Kj=>?_];clear g);induction b using An with|cons=>rw[(by cases e1)]|nil=>rw[Ba]at e;clear l i h;obtain rfl:a=ks:=e;rw[PQ.ret (ex:=[_]) j ⟨o,C8 Kj⟩ Y Y Y]
end
end
section
section
variable{Γ:VG}{d:AE}{L B:AB (AB AD)}{S:AB AD}{Fs:AB Fr}{a:AD}
theorem PD(h:l<L.length):∃f∈L,L[L.length-1-l]?=V f/\Ez ((L.length:J)-1-l) (BD L)=V (.tup<|il f):=by have b:L.length-1-l<L.length:=lQ (CH (CJ _) h);rw[(DB (L[L.length-1-l]) (OS b) (Cm b)<|?_),U (hZ h)<|(?_:(BD L)[L.length-1-l]?=_)];unfold BD;rw[U (FX)<|U (Cm b) ?_];rfl
theorem XB{n:G}(h:0<n)(b:n<=1000):(decide (0<(n:J))&&decide ((n:J)<1000000000))=I:=DN.mpr ⟨DD<|Ph.mpr h,DD<|Du.mpr (CH b<|(dc Y):n<1000000000)⟩
theorem NC{x}{n:G}(h:0<n):∃m:G,x%(n:J)=m/\m<n:=by rw[xE (Mk<|j_ x<|Int.ofNat_ne_zero.mpr<|JL h) λm e=>(Aa m e<|Du.mp<|e▸km x (Du.mpr h))]
theorem IW:0<(BS Fs).length:=by rw[xE (jH (S:=Fs)) λL e=>U e<|FA _]
theorem QO:(BS Fs).length=Fs.length+1:=by induction Fs with|nil=>rfl|cons f S b=>rw[(?_:(BS S++[_]).length=_),U Aq<|U b ?_];rfl
theorem D8.snoc(h:D8 f):∀k∈f++[-1],k= -1\/k= -2:=λk m=>(Cj.mp m).elim (h.2 k) λm=> .inl<|B3.mp m
theorem BV.rows(h:∀r∈f,E_ (BS Fs) r):BV Fs f Fs:=by induction f with|nil=>rw[.nil]|cons r f b=>rw[.cons (.row<|h r<|.head _)<|b λr m=>h r<|.tail _ m]
theorem Zu{c}{s:O (O J)×O J}(h:(∀r∈s.1,E_ L r)/\s.1.length<=c.length/\s.2.length<=S.length)(b:c.length<=k):s.1.length+(s.2++c).length<=S.length+(k+k):=by rw[U Aq<|U (Nat.add_left_comm ..)<|Cq h.2.2<|Cq (AJ h.2.1 b) b]
theorem t5{v}{n:G}(h:v∈G1 0 n):∃j:G,v= .int j/\j<n:=by unfold G1 at h;rw[AY (Ea.mp h) λj m e=>?_];replace m:=(Vk ..)▸m;rw[(Aa j (by rw[Ag e<|U (Int.zero_add ..) Y])<|eV.mp m)]
theorem Gk(e:l=il row):AK.list T (BD (B++rs)++[.tup l])=Ac (B++(rs++[row])):=by rw[U e<|Ag (Bc ..)<|A_ (AK.list T)<|I6 (b:=[row])]
theorem blt(h:n<=m)(b:D1 m 16777216=I):D1 n Bj=I:=G2<|AJ (Ce h)<|B6 b
abbrev NS:=O (O J)×O J
inductive eX(Fs:O Fr)(S:O J)(n:G)(s:NS):Prop
 |mk(ne:BV Fs s.1 Fs)(sz:s.1.length+s.2.length<=S.length+n)
inductive vv(Fs:O Fr)(S:O J)(s:NS):Prop
 |mk(ok:∀r∈s.1,E_ (BS Fs) r)(sz:s.1.length+s.2.length<=S.length+6)
inductive yu(L:O<|O J)(ks:O J)(vs acc:O MV)(ls:O G):Prop
 |mk(f1:∀v∈vs,∃j:G,v= .int j/\j<L.length)(f2:acc=ls.map λi:G=>MV.int i)(f3:∀i∈ls,i<L.length/\L[L.length-1-i]?=V ks)(sz:ls.length+vs.length<=L.length)
def eL(a:J):Env:=[.c 0,.c 1,.c 2,.p<|.int a,.p<|.int<|a%4,.p<|.int<|a/4]
theorem x':∀{Γ d B S Fs a}(hF:Fk Fs)(h8:Fs.length<8)(hB:B.length<=20000)(hS:S.length<=20000),Cv Γ (d+3) 46 [.c 0,.c 1,.c 2,.p<|.int a] [Ac B,B_ S,Ac<|BS Fs]<|PQ (eX Fs S 12) (λZ=> .p .none) λs=>[Ac<|B++s.1,B_ s.2,Ac<|BS Fs]:=by
 intros Γ d B S Fs a _ hF h8 hB hS;have GO:(BS Fs).length<=9:=by rw[A9 QO<|FI h8]
 have hi:(BD<|BS Fs).length=(BS Fs).length:=DA;have hd:=XB (IW (Fs:=Fs)) (AJ GO<|(dc A7));injection(NC (x:=a/4)<|IW (Fs:=Fs))with m _ em hm;injection(PD hm)with ks _ nz e1 e2;have hk:=hF.BS ks nz;rw[Cv.runN A7 A7 A7 (λZ Z=>A7) λK k1 Z=>Ts.Un 2 (eL a) [Ac B,B_ S,Ac<|BS Fs] A7 (λZ hn=>Ts.of<|hn [] [])<|Ts.VH 1 (λZ=>eL a) (λs=>[Ac<|B++s.1,B_ s.2,Ac<|BS Fs]) (eX Fs S 9) (λZ=>A7) (λK1 hn Z=>Ts.ifs<|Ap.d (λh=>?_) λh=>?_) λs g=>Ts.of ?_];·rw[Ts.Un 2 (eL a++[.p<|.int m,.p<|.tup<|il ks]) [Ac B,B_ S,Ac<|BS Fs] A7 (λZ Ky=>Ts.of<|Al.mk (hi▸hd)<|B0.mk (by rw[A9 hi<|A9 em e2])<|by rw[A9 hi<|A9 em<|Ky [] []])<|Ts.VH 1 (λZ=>eL a++[.p<|.int m,.p<|.tup<|il ks]) (λs=>[Ac<|B++s.1,B_ s.2,Ac<|BS Fs]) (vv Fs S) (λZ=>A7) (λK2 Ky Z=>?_) λs g=>Ts.of ?_,Ts.of<|Ap.d (λh=>?_) λh=>?_,Al.mk (hi▸hd)<|Cv.fr [0,1] [.c 0,.c 1,.p<|.tup<|il ks,.p<|.int<|a/4/(BD<|BS Fs).length] ((dc A7)) A7 A7 A7 (JD (L:=BS Fs) .tup hk.2 (AJ hk.1<|(dc A7)) (AJ hB<|(dc A7))<|AJ hS<|(dc A7)) λs hs=>Ky (s.1,s.2++ks) [] [] ⟨hs.1,Zu hs<|FI hk.1⟩,Al.mk ((A_ (λl=>Bm l.length Bj)<|ED (b:=[-1])).trans<|(λh=>sz (m:=5) (by rw[A9 (BH ..) h]) A7:∀{x:AB AD},x.length<=5->Bm (il x).length Bj=AG)<|by rw[A9 Aq<|AJ (Ce hk.1)<|(dc A7)])<|Al.mk (hi▸hd)<|Cv.fr [0,1] [.c 0,.c 1,.p<|.tup<|il<|ks++[-1],.p<|.int<|a/4/(BD<|BS Fs).length] ((dc A7)) A7 (A_ (λl=>[AV.c 0,.c 1,.p<|.tup l,.p<|.int<|a/4/(BD<|BS Fs).length])<|ED (b:=[-1])) A7 (JD (L:=BS Fs) .tup hk.snoc (by rw[A9 Aq<|AJ (Ce hk.1)<|(dc A7)]) (AJ hB<|(dc A7))<|AJ hS<|(dc A7)) λs hs=>Ky (s.1,s.2++(ks++[-1])) [] [] ⟨hs.1,Zu hs<|by rw[A9 Aq<|Ce hk.1]⟩];·(have FU:(BD<|B++s.1).length<=70000:=by rw[A9 DA<|DY hB (AJ (AJ (BJ _ _) g.2)<|CU hS 6) A7]);rw[Cl.RB (σ:=AB AE) (λZ=>[Ac<|B++s.1,B_ s.2,Ac<|BS Fs]) (yu (BS Fs) ks) (.Hb _<|jI<|hi▸AJ GO ((dc A7))) (λZ=>A7) A7 [] [] ⟨λv m=>t5<|hi▸m,A7,(λZ m=>(by cases m)),by rw[A9 hi<|A9 h_<|C8<|Di _]⟩ A7 (λv vs acc ls q K3 h1 h2=>?_) λacc ls q=>?_];(·obtain⟨q1,rfl,q2,q3⟩:=q;rw[AY (q1 v<|.head _) λj BL hj=>A9 BL ?_,Cp (PD hj) λkj Z f1 f2=>?_];have q1:=λv m=>q1 v<|.tail _ m;have q3:ls.length+(vs.length+1)<=_:=q3;rw[B0.mk (a:= .tup<|il kj) (by rw[A9 hi f2])<|eqT (a:=kj) (b:=ks)<|Ap.d (λh=>h1 (ls++[j]) [] ⟨q1,by rw[A9 Ci ?_];rfl,λi m=>(Cj.mp m).elim (q2 i) λm=>by rw[A9 (B3.mp m)<|Ag h ⟨hj,f1⟩],by rw[A9 Aq<|A9 (FZ ..) q3]⟩) λh=>h2 ls [] ⟨q1,A7,q2,GP q3⟩]);·obtain⟨_,rfl,q2,q3⟩:=q;have hl:ls.length<=9:=AJ q3 GO;rw[Al.mk (sz (m:=9) (by rw[A9 (CO ..) hl]) A7)<|Ap.d (λh=>?_) λh=>?_,Al.mk (blt FU A7)<|PK (A_ (λo=>[o,_,_,_])<|Gk A7)<|hn (s.1++[[12,(m:AD)]],s.2) _ [_] ⟨BV.rows<|Hy g.1<|Bp _ _<|.br e1 hm<|CQ hm GO,by rw[A9 Aq<|A9 (FZ ..)<|AJ (Ce g.2)<|by lia]⟩];·(have e:il [14]++ls.map (λi:AE=>MV.int i)++il [(m:AD)]=il (14::ls.map (λi:AE=>(i:AD))++[(m:AD)]):=by rw[A9 ((by unfold il;rw[TS]at⊢;rfl:ls.map (λi:AE=>MV.int i)=il (ls.map λi:AE=>(i:AD))))<|A9 ED<|A9 ED ?_];rfl);(have zl:(ls.map λi:AE=>MV.int i).length<=9:=by rw[A9 (CO ..) hl]);have z2:(il [14]++ls.map (λi:AE=>MV.int i)).length<=10:=DY (n:=1) (B2 1) zl A7;rw[Al.mk (sz (m:=9) zl A7)<|Al.mk (sz (m:=10) z2 A7)<|Al.mk (sz (m:=11) (DY z2 (B2 1) A7) A7)<|Al.mk (blt FU A7)<|PK (A_ (λo=>[o,_,_,_])<|Gk e)<|hn (s.1++[14::ls.map (λi:AE=>(i:AD))++[(m:AD)]],s.2) _ [_] ⟨BV.rows<|Hy g.1<|Bp _ _<|.HP (λi q=>(CZ.mp q).elim (λq=>q▸⟨hm,e1⟩)<|q2 i) hk.1<|AJ hl<|(dc A7),by rw[A9 Aq<|A9 (FZ ..)<|AJ (Ce g.2)<|CD ((dc A7):7<=9) _]⟩]
 ·(have FU:∀{s:NS},s.1.length<=3->(BD<|B++s.1).length<=70000:=λh=>by rw[A9 DA<|DY hB (AJ h ((dc A7):3<=50000)) A7]);rw[xE (jH (S:=Fs)) λL' e0=>Ts.of<|Ap.d (λh=>B0.mk (a:= .tup<|il B'.res) (by rw[A9 e0 ?_];rfl)<|Cv.fr [0,1] [.c 0,.c 1,.p<|.tup<|il B'.res,.p<|.int<|a/4] ((dc A7)) A7 A7 A7 (JD (L:=BS Fs) .tup ((dc A7)) ((dc A7)) (AJ hB<|(dc A7))<|AJ hS<|(dc A7)) λs hs=>Al.mk (blt (FU<|AJ hs.2.1<|(dc A7)) A7)<|PK (A_ (λo=>[o,_,_])<|Gk A7)<|hn (s.1++[[15]],s.2++B'.res) [] [] ⟨BV.rows<|Hy hs.1<|Bp _ _ .ret,?_⟩) λh=>?_,(?_:(s.1++[_]).length+_<=_),A9 Aq<|A9 (FZ ..) ?_,AJ (Ce<|Zu hs<|B2 2)<|CD ((dc A7):5<=9) _,Al.mk (blt (m:=20000) (by rw[A9 DA hB]) A7)<|PK (A_ (λo=>[AK.list AH o,_,_])<|I6 (b:=[[0]]))<|hn ([[0]],S) [] [] ⟨BV.rows<|Hy Nt<|Bp _ _ .Kk,by rw[A9 (EL ..)<|CD ((dc A7):1<=9) _]⟩]
 ·rw[AY (UK (f:=AV.c) (l:=[3,4,5,6]) (i:=a/4%4)<|V7 (m:=4)<|by decide) λv mv hv=>?_];have fin:∀{rs:AB (AB AD)}{ex:AB AK},BV Fs rs Fs->rs.length<=3->Al (Bm ((BD<|B++s.1).length+(BD rs).length) Bj) (K .next (eL a)<|[.list AH<|BD (B++s.1)++BD rs,B_ s.2,Ac<|BS Fs]++ex):=λ{rs ex}h hl=>Al.mk (sz (m:=50000+3) (Cq (by rw[A9 DA<|DY hB (AJ (AJ (BJ _ _) g.2)<|CU hS 9) A7]:(BD<|B++s.1).length<=50000)<|(DA▸hl:(BD rs).length<=3)) A7)<|PK (A_ (λo=>[AK.list AH o,_,_]++ex)<|by rw[A9 I6<|A9 (Bc ..) A7])<|k1 (s.1++rs,s.2) _ ex ⟨g.1.app h,(by rw[A9 Aq<|A9 (FZ ..)<|Cq g.2 hl]:(s.1++rs).length+s.2.length<=S.length+9+3)⟩;rw[B0.mk hv ?_];have i1:∃a w,Rw (BS Fs) [26] a w:=(Bp _ _ .drop);rw[Cz (CZ.mp mv) (λabV=>?_) λmv=>?_,A9 abV ?_,fin (rs:=[]) .nil<|CJ _,Cz (CZ.mp mv) (λtp=>?_) λmv=>?_,A9 tp ?_,fin (rs:=[[106],[26]]) (.cons (.row ((Bp _ _<|.num ((dc A7)) A7):∃a w,Rw (BS Fs) [106] a w))<|.one<|.row i1)<|E2 2,Cz (CZ.mp mv) (λuI=>?_) λmv=>?_,A9 uI ?_,fin (rs:=[[27],[26]]) (.cons (.row ((Bp _ _ .sel):∃a w,Rw (BS Fs) [27] a w))<|.one<|.row i1)<|E2 2];·obtain rfl:=B3.mp mv;rw[Cp (PD (L:=BS<|⟨2,[],[]⟩::Fs) (l:=0) IW) λG8 Z f1 Z=>fin (rs:=[[2,-64],[12,0],[11]]) (.cons (.op (.inl A7) A7 ⟨(dc A7),(dc A7)⟩ ⟨(dc A7),(dc A7)⟩ h8)<|.cons (.row<|Bp _ _<|.br (l:=0) f1 IW<|(dc A7))<|.one .cl)<|B2 3]
end
end
section
structure IS where
 rs:O<|O J
 T:O J
 S:O J
 b:AL
instance:CK IS:=⟨⟨[],[],[],T⟩⟩
def cO(B:O<|O J)(T S:O J)(a:O Fr):O AK:=[Ac B,B_ T,B_ S,Ac<|BS a]
def Il(a:O Fr)(n:G)(s:IS):Prop:=BV a s.rs a/\s.rs.length+s.S.length+20*s.T.length<=n
def OY(b:VG)(d:G)(a:O Fr):Prop:=∀{B:O (O J)}{T S:O J},B.length+S.length+20*T.length<=5000->Cv b d 47 [.c 0,.c 1,.c 2,.c 3] (cO B T S a) (PQ (Il a<|S.length+20*T.length) (λs=> .p<|.bool s.b) λs=>cO (B++s.rs) s.T s.S a)
def bQ(op a:J):Env:=[.c 0,.c 1,.c 2,.c 3,.p<|.int op,.p<|.int a]
def eO(op a ab:J)(p r:O J)(w:O MV):Env:=[.c 0,.c 1,.c 2,.c 3,.p<|.int op,.p<|.int a,.p<|.int ab,.p<|.tup<|il p,.p<|.tup<|il r,.p<|.int<|op-5,.p<|.tup w]
def eP(op a ab:J)(p r:O J)(w:O MV)(m:J):Env:=[.c 0,.c 1,.c 2,.c 3,.p<|.int op,.p<|.int a,.p<|.int ab,.p<|.tup<|il p,.p<|.tup<|il r,.p<|.int<|op-5,.p<|.tup w,.p<|.int m]
def eA(op a ab:J)(p r:O J)(w:O MV)(m v:J):Env:=eP op a ab p r w m++[.p<|.int v,.c 4]
def cA(B:O<|O J)(a S p q:O J)(b:O Fr):O AK:=[Ac B,B_ a,B_ S,Ac<|BS b,B_ p,.list T [.tup<|il q],.list T<|BD (BS b)++[.tup<|il q]]
inductive AW(c:J):J->O MV->Prop
 |nil{x:J}:AW c x []
 |a:AW c c [.int 0]
 |ab(h:c=4):AW c c [.int 0,.int 1]
 |b(h:c=4):AW c c [.int 1]
inductive AP(Fs:O Fr)(c:J)(p r:O J)(n k:G)(vs:O MV)(t:J×O (O J)×O J):Prop
 |mk(aw:AW c t.1 vs)(nt:BV (⟨c,p,r⟩::Fs) t.2.1<|⟨t.1,p,r⟩::Fs)(le:t.2.1.length+20*t.2.2.length+5*vs.length<=n+k)(cd:t.1=c\/t.1=5/\c=4)
section
variable{Γ:VG}{d:AE}{B:AB (AB AD)}{T S p r w:AB AD}{Fs:AB Fr}{op a ab:AD}
theorem rg:∀{v}(h:v∈([-64,-1,1,2,3]:O J)),∃k,blockKind B' v=V k/\D8 k.1/\D8 k.2:=by intros v _ h;simp only [CZ,Ia,SJ]at h;rcases h with rfl|rfl|rfl|rfl|rfl<;>exact(K6 _ Y ⟨by decide,by decide⟩ (by decide)<|by decide)
theorem Ig(h:B.length<=n)(b:D1 n 16777216=I):D1 (BD B).length Bj=I:=blt (DA▸h) b
theorem Ap.nd{P} [i:Dh P]{A B}(a:¬P->A)(b:P->B):Ap (!decide P) A B:=by by_cases h:P;rw[U (DD h)<|b h,U (Dk h)<|a h]
theorem OI{a b:O J}(h:n=b.length)(f:b.length<=10):Cv Γ (d+1) 43 [.c 0,.p<|.int n] [B_<|a++b]<|PQ (σ:=BF) (λZ=>Bg) (λZ=> .p .none) λZ=>[B_ a]:=by have:=mK (Γ:=Γ) (d:=d) (ks:=a++b) (n:=n) (by rw[U h<|U Aq<|Be _ _]) (by rw[U h<|L f<|by decide]);replace this:=(by rw[U h<|U Aq<|U (eD ..)<|U Rz Y]:(a++b).take ((a++b).length-n)=a)▸this;rw[this]
theorem IX {a b c n} (h : a + b + c + n ≤ 5000) : a ≤ 5000 ∧ b ≤ 5000 :=
 have := L (L (BJ   (a + b) c) (BJ _ n)) h
 ⟨L (BJ  _ _) this, L (Be  _ _) this⟩
theorem I7(c:b=Ac B)(e:s=B_ S):[b,B_ T,s,Ac<|BS Fs]=cO B T S Fs:=by subst c e;rfl
theorem y6(h:m=1\/m=2/\P): -16777216<=m/\m<=16777216:=by rcases h with rfl|⟨rfl,_⟩<;>decide
theorem uX(h:m=1\/m=2/\c=4):AW c c<|G1 0 m:=by rcases h with rfl|⟨rfl,h⟩;rw[.a,.ab h]
theorem si(h:m=1\/m=2/\P):0+n+5*(G1 0 m).length<=n+10:=by rw[U (Di ..) ?_];rcases h with rfl|⟨rfl,_⟩;rw[CD (by decide) _,B2 _]
theorem e8:cO B T S Fs=cO (B++[]) T S Fs++[]:=by rw[U (Ba ..)<|U (Ba ..) Y]
theorem AW.int:∀{c x v b}(h:AW c x<|v::b),∃j:J,v= .int j:=by intros c x v b _ h;cases h<;>exact⟨_,Y⟩
theorem AP.yes:∀{p r e c f v n i b T}(g:AP e c p r n 10 (.int v::i) (f,b,T))(h:v=1),AP e c p r n 6 i (5,b++[[5]],T):=by intros p r e c f v n i b T _ g h;have j:BV (⟨c,p,r⟩::e) b<|⟨f,p,r⟩::e:=g.2;have k:b.length+20*T.length+5*(i.length+1)<=n+10:=g.3;cases(show AW c f _ from g.1)with|a=>rw[nomatch h]|ab=>rw[nomatch h]|b m=>clear g;subst m;rw[⟨.nil,j.app<|.one .mid,by show(b++[[5]]).length+20*T.length<=n+6;rw[U Aq<|U (FZ ..)<|d7 (b:=4) k],.inr ⟨Y,Y⟩⟩]
theorem AP.no(g:AP Fs c p r n 10 (.int v::l) (f,i,T))(h:¬v=1):AP Fs c p r n 6 l (f,i,T):=by intros _ T p r Fs c n v l f i _ g h;have j:BV (⟨c,p,r⟩::Fs) i<|⟨f,p,r⟩::Fs:=g.2;have k:i.length+20*T.length+5*l.length<=n+6:=L (d7 (b:=5) g.3) (E2 _);cases(show AW c f _ from g.1)with|a=>rw[⟨.nil,j,k,g.4⟩]|ab m=>rw[⟨.b m,j,k,g.4⟩]|b=>rw[Aj Y h]
theorem Ye{s:NS}{t}(b:B.length+S.length+20*T.length+20<=5000)(e:s.1.length<=3)(g:AP Fs c p r (20*T.length) k h t)(f:k<=10):(B++(s.1++[X])++t.2.1).length+20*t.2.2.length+(S.length+6)<=5000:=by simp only [Aq,Mt];rw[vh b e f g.3]
theorem AP.c3(g:AP Fs c p r n k f t):t.1=3↔c=3:=by
 rcases g.4 with e|⟨e,rfl⟩;·rw[e]at⊢
 ·rw[U e ?_];decide
theorem AP.fin(g:AP Fs c p r n 6 h t)(k:p.length<=2)(j:r.length<=2)(f:Il (⟨t.1,p,r⟩::Fs) (p.length+20*t.2.2.length) b)(o:∀x∈rs,E_ (BS<|⟨t.1,p,r⟩::Fs) x)(m:rs.length<=b.S.length+r.length):AP Fs c p r n 10 h (t.1,t.2.1++(b.rs++rs),b.T):=by rw[⟨g.1,g.2.app<|f.1.app<|BV.rows o,?_,g.4⟩];simp only [Aq];rw[nU k j m f.2 g.3]
theorem yx{s:NS}{e:O (O J)}{b:O J}(j:s.1.length<=3)(g:s.2.length<=S.length)(f:r.length<=2)(c:e.length+20*b.length+0<=20*T.length+10):(s.1++[X]++e++[h]).length+(s.2++r).length+20*b.length<=S.length+20*T.length+19:=by simp only [Aq,Mt];rw[zC j g f c]
theorem abQ:∀{Γ d B b S Fs j a}(O:j-5=2\/j-5=3\/j-5=4)(hF:Fk Fs)(E:Fs.length<4)(IH:∀f,D8 f.p->D8 f.r->OY Γ (d+4) (f::Fs))(N:B.length+S.length+20*b.length+20<=5000),Cv Γ (d+5) 45 (bQ j a) (cO B b S Fs) (PQ (Il Fs (S.length+20*b.length+19)) (λ_=> .p .none) λs=>cO (B++s.rs) s.T s.S Fs):=by
 intros Γ d B b S Fs j a _ O hF E IH N;injection(UK (f:=pI) (l:=[-64,-1,1,2,3]) (i:=a%5) (V7 (m:=5) (by decide)))with ab _ pD rE;(injection(rg pD)with Z _ G C F;obtain⟨p,r⟩:=Z);intros _ p r _ G C F;obtain⟨w,hy,hn,A⟩:∃w,(j-5=4->il p++[.int (-1)]=il w)/\(¬j-5=4->p=w)/\(∀k∈w,k= -1\/k= -2)/\w.length<=3:=by by_cases z:j-5=4;rw[(K6 (p++[-1]) (λ_=>ED (b:=[-1])) (λh=>Aj z h) C.snoc (by rw[U Aq (Ce C.1)])),(K6 p (λh=>Aj h z) (λ_=>A7) C.2 (FI C.1))]
 intros _ w _ hy hn A;intros _ w _ hy hn A;intros _ w _ hy hn A;rw[Cv.FO A7 A7 A7 (Ts.cut 4 (σ:=BF) (λ_=>eO j a ab p r (il w)) (λ_=>cO B b S Fs) (λ_=>Bg) (λ_=>A7) ?_ λ_ _=>?_),Ts.of (B0.mk (a:=pI ab) rE (Cv.fr [] [.p (.int ab)] FC A7 A7 A7 (Yd G) λ_ _=>?_)),Ap.d (λh=>Al.mk (sz (m:=3) (DY (n:=2) (m:=1) ((BH p).symm▸C.1) (B2 1) A7) A7:Bm (il p++[MV.int (-1)]).length Bj=I) ⟨(),[],[],B9,A_ (eO j a ab p r) (hy h),A7⟩) λh=>⟨(),[],[],B9,A_ (λw=>eO j a ab p r (il w)) (hn h),A7⟩,xA (IX N) λM K=>Ts.cut 3 (σ:=NS) (λ_=>eO j a ab p r (il w)) (λs=>cO (B++(s.1++[[j-5,ab]])) b s.2 Fs) (λs=>(∀x∈s.1,E_ (BS Fs) x)/\s.1.length<=3/\s.2.length<=S.length) (λ_=>A7) (Ts.of ?_) λs H=>?_,Cv.fr [0,2] [.c 0,.c 1,.p (.tup (il w)),.p (.int (a/10))] (by decide) A7 A7 A7 (JD (L:=BS Fs) .tup A.1 (L A.2 (by decide)) (L M (by decide)) (L K (by decide))) λs c=>Cv.fr [2] [.c 0,.p (.int (il w).length)] (by intros _ s _ c;decide) A7 A7 A7 (OI (a:=s.2) (n:=(il w).length) (BH w) (L A.2 (by intros _ s _ c;decide))) λ_ _=>Al.mk (Ig (n:=5003) (DY M (L c.2.1 A.2) A7) A7) ⟨s,[],[],(BX c.1 (L c.2.1 A.2) c.2.2),A7,I7 (Gk A7) A7⟩];intros _ s _ H;rw[Ts.cut 1 (σ:=J) (λm=>eP j a ab p r (il w) m) (λ_=>cO (B++(s.1++[[j-5,ab]])) b s.2 Fs) (λm=>m=1\/m=2/\j-5=4) (λ_=>A7) (Ts.of ?_) λm hm=>?_];·have X:j-5=4->Arr (σ:=J) (λm=>eP j a ab p r (il w) m) (λ_=>cO (B++(s.1++[[j-5,ab]])) b s.2 Fs) (λm=>m=1\/m=2/\j-5=4) (eP j a ab p r (il w) 2) (cO (B++(s.1++[[j-5,ab]])) b s.2 Fs):=λh=>⟨2,[],[],.inr ⟨A7,h⟩,A7,A7⟩;have n:Arr (σ:=J) (λm=>eP j a ab p r (il w) m) (λ_=>cO (B++(s.1++[[j-5,ab]])) b s.2 Fs) (λm=>m=1\/m=2/\j-5=4) (eP j a ab p r (il w) 1) (cO (B++(s.1++[[j-5,ab]])) b s.2 Fs):=⟨1,[],[],.inl A7,A7,A7⟩;rw[Ap.d (λh=>neT (a:=p) (b:=r) (Ap.nd (λ_=>X h) λ_=>Ap.d (λ_=>X h) λ_=>n)) λ_=>n]
 rw[Ts.cut 1 (σ:=J×AB (AB J)×AB J) (λ_=>eP j a ab p r (il w) m) (λt=>cO (B++(s.1++[[j-5,ab]])++t.2.1) t.2.2 s.2 Fs) (AP Fs (j-5) p r (20*b.length) 10 []) (λ_=>A7) (Ts.of ?_) λt ht=>Ts.of ?_];·rw[Fl.mk (σ:=J×AB (AB J)×AB J) (e:=λ_=>eP j a ab p r (il w) m) (cs:=λt=>cO (B++(s.1++[[j-5,ab]])++t.2.1) t.2.2 s.2 Fs) (AP Fs (j-5) p r (20*b.length) 10) (.Hb _ (y6 hm)) (λ_=>A7) ⟨(j-5,[],b),[],[],⟨uX hm,.nil,si hm,.inl A7⟩,A7,e8⟩ (λv i t g=>?_) λt g=>⟨t,[],[],g,A7,(Ba _).symm⟩];(rw[xE g.1.int λv Y=>?_];subst Y);rw[Ts.cut 2 (σ:=J×AB (AB J)×AB J) (λ_=>eA j a ab p r (il w) m v) (λt=>cO (B++(s.1++[[j-5,ab]])++t.2.1) t.2.2 s.2 Fs++[B_ p]) (AP Fs (j-5) p r (20*b.length) 6 i) (λ_=>A7) (Ts.of ?_) λt h=>Ts.of ?_,Al.mk (sz (m:=2) (BH p▸C.1) A7) (Ap.d (λh=>Al.mk (Ig (n:=5000) (L (L (BJ _ _) (BJ _ _)) (Ye N H.2.1 g (by decide))) A7) ⟨(5,t.2.1++[[5]],t.2.2),[],[],g.yes h,A7,A_ (λo=>[o,_,_,_,_]) (Gk A7)⟩) λh=>⟨t,[],[],g.no h,A7,A7⟩)];·have D:=Ye (X:=[j-5,ab]) N H.2.1 h (by decide);(have cl:∀{q:AB J}{k:Kt},q=(if t.1=3 then p else r)->(∀u,Il (⟨t.1,p,r⟩::Fs) (p.length+20*t.2.2.length) u->k (cA (B++(s.1++[[j-5,ab]])++t.2.1++u.rs) u.T s.2 u.S q Fs) (.p (.bool u.b)))->Cv Γ (d+4) 47 [.c 0,.c 1,.c 4,.c 6] (cA (B++(s.1++[[j-5,ab]])++t.2.1) t.2.2 s.2 p q Fs) k:=λ{q k}e G=>by(have e2:BD (BS Fs)++[.tup (il q)]=BD (BS (⟨t.1,p,r⟩::Fs)):=by rw[U e (I6 (b:=[_]))]);rw[Cv.fr [0,1,4,6] [.c 0,.c 1,.c 2,.c 3] (by decide) (A_ (λl=>V [_,_,_,AK.list AH l]) e2) A7 A7 (IH ⟨t.1,p,r⟩ C F (by rw[U (FZ ..) (L (CD (L C.1 (L (by decide:2<=6) (Be _ _))) _) D)])) λu y=>(A_ (λl=>k [_,_,_,_,_,_,AK.list AH l] _) e2).mp (G u y)]);have zl:∀{v:MV},Bm (BD (BS Fs)++[v]).length Bj=I:=λ{v}=>sz (m:=9) (DY (b:=[v]) (n:=5) (m:=1) (by rw[U DA (U QO (Ce (KN E)))]) (B2 1) A7) A7;have W:∀{u:IS}{ex:AB AK}{rs:AB (AB J)},Il (⟨t.1,p,r⟩::Fs) (p.length+20*t.2.2.length) u->(∀x∈rs,E_ (BS (⟨t.1,p,r⟩::Fs)) x)->rs.length<=u.S.length+r.length->Arr (σ:=J×AB (AB J)×AB J) (λ_=>eP j a ab p r (il w) m) (λt=>cO (B++(s.1++[[j-5,ab]])++t.2.1) t.2.2 s.2 Fs) (AP Fs (j-5) p r (20*b.length) 10 i) (eA j a ab p r (il w) m v) (Ac (B++(s.1++[[j-5,ab]])++t.2.1++u.rs++rs)::B_ u.T::B_ s.2::Ac (BS Fs)::ex):=λ{u ex rs}y P E=>⟨(t.1,t.2.1++(u.rs++rs),u.T),[.p (.int v),.c 4],ex,h.fin C.1 F.1 y P E,A7,A_ (λl=>Ac l::B_ u.T::B_ s.2::Ac (BS Fs)::ex) (by(rw[U (Bc ..) ?_];rw[Bc _ t.2.1]at⊢))⟩;have se:∀{u:IS}{q:AB J}{k:Kt},(B++(s.1++[[j-5,ab]])++t.2.1++u.rs).length<=50000->u.S.length<=20000->(∀rs,(∀x∈rs,E_ (BS (⟨t.1,p,r⟩::Fs)) x)->rs.length<=u.S.length+r.length->k (cA (B++(s.1++[[j-5,ab]])++t.2.1++u.rs++rs) u.T s.2 r q Fs) (.p .none))->Cv Γ (d+4) 44 [.c 0,.c 4,.p (.tup (il r)),.p (.int a)] (cA (B++(s.1++[[j-5,ab]])++t.2.1++u.rs) u.T s.2 u.S q Fs) k:=λR Q G=>Cv.fr [0,4] [.c 0,.c 1,.p (.tup (il r)),.p (.int a)] (by decide) A7 A7 A7 (lj (L:=BS (⟨t.1,p,r⟩::Fs)) F.2 (L F.1 (by decide)) R Q) λrs h=>G rs h.1 h.2;(have sn:∀{u:IS}{ex:AB AK},Il (⟨t.1,p,r⟩::Fs) (p.length+20*t.2.2.length) u->Arr (σ:=J×AB (AB J)×AB J) (λ_=>eP j a ab p r (il w) m) (λt=>cO (B++(s.1++[[j-5,ab]])++t.2.1) t.2.2 s.2 Fs) (AP Fs (j-5) p r (20*b.length) 10 i) (eA j a ab p r (il w) m v) (Ac (B++(s.1++[[j-5,ab]])++t.2.1++u.rs)::B_ u.T::B_ s.2::Ac (BS Fs)::ex):=λ{u ex}y=>by have:=W (ex:=ex) (rs:=[]) y Nt (CJ _);rw[Ba]at this;rw[this]);have b1:∀{u:IS},Il (⟨t.1,p,r⟩::Fs) (p.length+20*t.2.2.length) u->u.rs.length+u.S.length<=5000:=λy=>L (L (BJ _ _) y.2) (L (by rw[U (EL ..) (Cq (Be _ _) (L C.1 (L (by decide:2<=6) (Be _ _))))]) D);have R:∀{u:IS},Il (⟨t.1,p,r⟩::Fs) (p.length+20*t.2.2.length) u->(B++(s.1++[[j-5,ab]])++t.2.1++u.rs).length<=50000:=λy=>DY (n:=5000) (m:=5000) (L (L (BJ _ _) (BJ _ _)) D) (L (BJ _ _) (b1 y)) A7;have Q:∀{u:IS},Il (⟨t.1,p,r⟩::Fs) (p.length+20*t.2.2.length) u->u.S.length<=20000:=λy=>L (L (Be _ _) (b1 y)) (by decide);rw[Ap.d (λe=>Al.mk zl (cl (AM (h.c3.mpr e)).symm λu y=>Ap.mk (λ_=>se (R y) (Q y) λrs P E=>W y P E) λ_=>sn y)) λe=>Al.mk zl (cl (AS (λq=>e (h.c3.mp q))).symm λu y=>Ap.mk (λ_=>se (R y) (Q y) λrs P E=>W y P E) λ_=>sn y)]
 rw[Al.mk (Ig (n:=5000) (L (L (BJ _ _) (BJ _ _)) (Ye (X:=[j-5,ab]) N H.2.1 ht (by decide))) A7) (Al.mk (sz (m:=5002) (Cq (BH s.2▸L H.2.2 K) (BH r▸F.1)) A7) (PQ.ret (ex:=[]) ⟨(s.1++[[j-5,ab]])++t.2.1++[[11]],t.2.2,s.2++r,AH⟩ ⟨(((BV.rows H.1).app (.one (.op O G C F (CQ E (by decide))))).app ht.2).app (.one .cl),yx H.2.1 H.2.2 F.1 ht.3⟩ (I7 (B:=B++(s.1++[[j-5,ab]]++t.2.1++[[11]])) ((Gk (B:=B++(s.1++[[j-5,ab]])) (rs:=t.2.1) (row:=[11]) A7).trans (A_ Ac (by rw[Bc B,Bc _ t.2.1]at⊢))) (A_ (AK.list AH) ED)) A7 A7))]
end
end
section
set_option maxHeartbeats 1000000
def DS(f:G):O CS:= @C4 Fn (λZ=>O CS) (FF f) [] λf=>f.body
def FK(b:O CS):O CS:= @An CS (λZ=>O CS) b [] λs Z=> @CS.casesOn (λZ=>O CS) s (λZ=>[]) (λZ Z=>[]) (λZ Z=>[]) (λZ Z Z=>[]) (λZ Z Z=>[]) (λZ Z Z=>[]) (λZ b=>b) (λZ Z Z Z Z=>[]) [] (λZ=>[]) (λZ Z Z=>[]) λZ Z Z=>[]
def PX(b:O CS):O CS:= @An CS (λZ=>O CS) b [] λs Z=> @CS.casesOn (λZ=>O CS) s (λZ=>[]) (λZ Z=>[]) (λZ Z=>[]) (λZ Z Z=>[]) (λZ Z Z=>[]) (λZ b Z=>b) (λZ Z=>[]) (λZ Z Z Z Z=>[]) [] (λZ=>[]) (λZ Z Z=>[]) λZ Z Z=>[]
def wj(b:O CS):O CS:= @An CS (λZ=>O CS) b [] λs Z=> @CS.casesOn (λZ=>O CS) s (λZ=>[]) (λZ Z=>[]) (λZ Z=>[]) (λZ Z Z=>[]) (λZ Z Z=>[]) (λZ Z b=>b) (λZ Z=>[]) (λZ Z Z Z Z=>[]) [] (λZ=>[]) (λZ Z Z=>[]) λZ Z Z=>[]
def Vc(n:G)(b:O CS):O CS:= @Nat.rec (λZ=>O CS->O CS) (λb=>b) (λZ a b=>a<|wj b) n b
def arm(n:G):O CS:=PX<|Vc n<|(FK<|DS 47).drop 3
def e4:Env:=[.c 0,.c 1,.c 2,.c 3]
def eI(x:J):Env:=[.c 0,.c 1,.c 2,.c 3,.p<|.int x,.p<|.int<|x%14,.p<|.int<|x/14]
inductive KI(K:Ks)(B:O<|O J)(S T:O J)(Fs:O Fr):Prop
 |mk(nx:∀{env:Env}{c:O AK}(rs:O<|O J)(S2 T2:O J),env.take 4=e4->c.take 4=cO (B++rs) T2 S2 Fs->BV Fs rs Fs->rs.length+S2.length+20*T2.length<=S.length+20*T.length+19->K .next env c)(rt:∀{env:Env}{c:O AK}(b:AL)(rs:O<|O J)(S2 T2:O J),env.take 4=e4->c.take 4=cO (B++rs) T2 S2 Fs->BV Fs rs Fs->rs.length+S2.length+20*T2.length<=S.length+20*T.length+19->K (.ret<|.p<|.bool b) env c)
section
theorem KI.Jw{B:O (O J)}{T:O J}{S:O J}{e:O Fr}{K:Ks}(h:KI K B S T e){a:Env}{c}(d:O<|O J)(b:O J)(g:a.take 4=e4)(j:c.take 4=cO (B++d) T b e)(f:∀r∈d,E_ (BS e) r)(m:d.length<=7)(k:b.length<=S.length+9):K .next a c:=h.1 d b T g j (BV.rows f)<|by lia
theorem ab9(h:n%14<2): -1-n%14= -1\/ -1-n%14= -2:=by lia
theorem VC{P:O J->Prop}{r}(h:P r):∀x∈[r],P x:=λZ m=>B3.mp m▸h
theorem O8(h:a.length<=n):(a++[k]).length<=n+9:=by rw[U Aq ?_,Cq h ((dc Y):1<=9)]
def HW(c:J):Prop:=(69<=c/\c<=196)/\IG c M0=V (Eh c)
instance{c:J}:Dh<|HW c:=inferInstanceAs(Dh<|_/\_)
theorem HW.row{c L}(h:HW c):E_ L [c]:=⟨_,_,.num h.1 h.2⟩
theorem aa7:∀j:G,j<25->((j:J)<15->HW (106+j)/\HW (124+j))/\(¬(j:J)<15->HW (70+j-15)/\HW (81+j-15)):=(dc Y)
theorem Ta:∀{a},(a%25<15->HW (106+a%25)/\HW (124+a%25))/\(¬a%25<15->HW (70+a%25-15)/\HW (81+a%25-15)):=by intros a;injection NC (x:=a) (n:=25)<|by decide with j _ e b;rw[U (e:a%25=j) ?_,aa7 j b]
theorem yH(c:¬n%14<2)(b:n%14<4):1-n%14= -1\/1-n%14= -2:=by lia
theorem u5(h:k= -1\/k= -2):∀x∈[k,k],x= -1\/x= -2:=λZ m=>by rw[Cz (CZ.mp m) (λb=>?_) λm=>?_,U b ?_,h,U (B3.mp m) ?_,h]
abbrev JS(b:VG)(d n:G)(B:O<|O J)(a S:O J)(c:O Fr)(x:J)(K:Ks):Prop:=Ts b d (arm n++[]) (eI x) (cO B a S c++[.list T []]) K
theorem s9{c}{d}{B}{T}{S}{a}{x}{K}(h:KI K B S T a)(j:B.length+S.length+20*T.length+20<=5000)(m:x%14<2):JS c (d+3) 0 B T S a x K:=by obtain⟨g,f⟩:=IX j;rw[Ts.of<|Cv.fr [0,2] [.c 0,.c 1,.p<|.int<|-1-x%14,.p<|.int<|x/14] ((dc Y)) Y Y Y (WH (L:=BS a) (ab9 m) (L g<|(dc Y))<|L f<|(dc Y)) λb k=>h.Jw [b] (S++[-1-x%14]) Y Y (VC k) (Be 1 6)<|O8<|B2 _]
theorem z7:∀{e d B a S b x K}(h:KI K B S a b)(w:B.length+S.length+20*a.length+20<=5000)(z:¬x%14<2)(y:x%14<4),JS e (d+3) 1 B a S b x K:=by intros e d B a S b x K _ h w z y;obtain⟨q,o⟩:=IX w;rw[Ts.of<|Cv.fr [0,2,5] [.c 0,.c 1,.c 2,.p<|.int<|x/14/25] (by decide) Y Y Y (JD (L:=BS b) (ks:=[1-x%14,1-x%14]) .lst (u5<|yH z y) (Be 2 8) (L q<|by decide)<|L o<|by decide) λs m=>Cv.fr [2] [.c 0,.p<|.int 2] (by decide) Y Y Y (OI (a:=s.2) (b:=[1-x%14,1-x%14]) (n:=2) Y<|Be 2 8) λZ Z=>?_];intros _ s _ m;have v:D1 (BD<|B++s.1).length Bj=I:=Ig (n:=5002) (DY q m.2.1 Y) Y;have u:D1 (il s.2).length Bj=I:=blt (BH s.2▸L m.2.2 o) Y;have j:∀{r c k ex},r.take 4=e4->HW c->K .next r (.list T (BD (B++s.1)++[.tup [.int c]])::B_ a:: .list T (il s.2++[.int k])::Ac (BS b)::ex):=λ{_ c k _}A C=>h.Jw (s.1++[[c]]) (s.2++[k]) A (I7 (Gk Y)<|A_ (AK.list T)<|ED (b:=[k])) (Hy m.1 C.row) (by rw[U Aq ?_,Ce<|L m.2.1<|Be 2 4])<|O8 m.2.2;rw[Ap.d (λD=>Ap.d (λg=>Al.mk v<|Ap.d (λf=>Al.mk u<|j Y (Ta.1 g).1) λf=>Aj g f) λg=>Al.mk v<|Ap.d (λf=>Aj f g) λf=>Al.mk u<|j Y (Ta.2 g).1) λD=>Ap.d (λg=>Al.mk v<|Ap.d (λf=>Al.mk u<|j Y (Ta.1 g).2) λf=>Aj g f) λg=>Al.mk v<|Ap.d (λf=>Aj f g) λf=>Al.mk u<|j Y (Ta.2 g).2]
def eG(t:J×J×J):AV:= .p<|.tup [.int t.1,.int t.2.1,.int t.2.2]
theorem me:∀t∈([(69,-1,-1),(80,-2,-1),(167,-2,-1),(172,-1,-2),(173,-1,-2)]:O<|J×J×J),HW t.1/\∀x∈[t.2.1],x= -1\/x= -2:=(dc Y)
theorem Um:idx (-1) (il<|a++[k]).length=V a.length/\(il<|a++[k]).set a.length (.int g)=il (a++[g]):=by
 constructor;·rw[U (BH ..)<|U Aq ?_];unfold idx;simp;lia
 ·unfold il;rw[U Ci<|U Ci<|Ag (CO (f:=MV.int))<|U (Xc _ _<|B2 _)<|U (GI ..) ?_];rfl
theorem mH(e:l=il row):AK.list T (BD B++[.tup l])=Ac (B++[row]):=by rw[U e ?_,A_ (AK.list T)<|I6 (b:=[row])]
theorem jt(h:n=0\/n=1): -1-n= -1\/ -1-n= -2:=by(rw[Cz h (λb=>?_) λb=>?_,U b ?_];rotate_left;rw[U b ?_];rotate_right)<;>decide
theorem tq(h:k= -1\/k= -2):∀x∈[k,k,-1],x= -1\/x= -2:=λZ m=>by rw[Cz (CZ.mp m) (λc=>?_) λm=>?_,U c ?_,h,Cz (CZ.mp m) (λb=>?_) λm=>?_,U b ?_,h,.inl<|B3.mp m]
theorem HI(h:a.length<=n)(f:n<=m):(a++[b]).length<=m+1:=by rw[U Aq ?_,Ce<|L h f]
theorem nG:∀{f d B a S e x K}(h:KI K B S a e)(o:B.length+S.length+20*a.length+20<=5000),JS f (d+3) 2 B a S e x K:=by intros f d B a S e x K _ h o;obtain⟨b,k⟩:=IX o;obtain⟨⟨c,w,g⟩,m,q⟩:=UK (f:=eG) (l:=[(69,-1,-1),(80,-2,-1),(167,-2,-1),(172,-1,-2),(173,-1,-2)]) (i:=x/14%5) (V7 (m:=5) (by decide));intros _ c w g _ m q;obtain⟨u,r⟩:=me _ m;rw[Ts.of (B0.mk (a:=eG (c,w,g)) q (Cv.fr [0,2,5] [.c 0,.c 1,.c 2,.p (.int (x/14/5))] (by decide) Y Y Y (JD (L:=BS e) (ks:=[w]) .lst r (Be 1 9) (L b (by decide)) (L k (by decide))) λs j=>Al.mk (Ig (n:=5001) (DY b j.2.1 Y) Y) (B0.mk (Um (g:=g)).1 (h.Jw (s.1++[[c]]) (s.2++[g]) Y (I7 (Gk Y) (A_ (AK.list T) Um.2)) (Hy j.1 u.row) (HI j.2.1 (Be 1 5)) (O8 j.2.2)))))]
theorem iq:∀{a:J},∃j:G,a%4=j/\∃k,B'.locs[j]?=V k:=by intros a;obtain⟨j,e,b⟩:=NC (x:=a) (n:=4)<|(dc Y);rw[⟨j,e,_,Cm<|CQ b<|(dc Y)⟩]
theorem xi{i}{d}{B}{a}{S}{b}{x}{K}(h:KI K B S a b)(g:B.length+S.length+20*a.length+20<=5000):JS i (d+3) 3 B a S b x K:=by obtain⟨f,c⟩:=IX g;obtain⟨j,e,k,m⟩:=iq (a:=x/14);rw[Ts.of<|Al.mk (Ig f Y)<|Al.mk (blt (BH S▸c) Y)<|h.Jw [[32,(j:J)]] (S++[-1-x/14%2]) Y (I7 (mH<|A_ (λn=>il [32,n]) e)<|A_ (AK.list T)<|ED (b:=[_])) (VC ⟨_,_,.get m⟩) (Be 1 6)<|O8<|B2 _]
theorem w1{b:VG}{d:G}{B:O (O J)}{T:O J}{S:O J}{a:O Fr}{x:J}{K:Ks}(h:KI K B S T a)(j:Fk a)(k:a.length<4->∃g,d=g+2/\∀f,D8 f.p->D8 f.r->OY b (g+4) (f::a))(l:B.length+S.length+20*T.length+20<=5000)(n:6<x%14)(o:x%14<10):JS b (d+3) 5 B T S a x K:=by
 rw[Ts.of<|Ap.d (λc=>?_) λZ=>h.Jw [] S Y (by rw[U (Ba ..) ?_];rfl) Nt (CJ _)<|BJ _ _];have e:a.length<4:=by rw[DA,QO]at c;rw[Nat.lt_of_succ_lt_succ<|Du.mp c]
 obtain⟨g,rfl,m⟩:=k e;rw[Cv.fr [0,1,2,3] (bQ (x%14)<|x/14) ((dc Y)) Y Y Y (abQ (by lia) j e m l) λs i=>h.1 s.rs s.S s.T Y Y i.1 i.2]
theorem aah{B:O (O J)}{T:O J}{S:O J}{a:O Fr}(h:KI K B S T a)(k:Fk a)(m:a.length<=4)(j:B.length+S.length+20*T.length+20<=5000):JS i (d+4) 7 B T S a x K:=by obtain⟨f,b⟩:=IX j;rw[Ts.of<|Cv.fr [0,2,3] [.c 0,.c 1,.c 2,.p<|.int<|x/14] ((dc Y)) Y Y Y (x' k (CH m<|(dc Y)) (L f<|(dc Y))<|L b<|(dc Y)) λs g=>h.2 I s.1 s.2 T Y Y g.1<|by have:=g.2;lia]
theorem xB(h:KI K B S a f):JS g (d+3) 9 B a S f x K:=Ts.of<|h.2 T [] S a Y (by rw[U (Ba ..) ?_];rfl) .nil<|by rw[U LI<|U (Di ..) ?_,BJ _ _]
theorem p_:∀{b d B T S a x K}(h:KI K B S T a)(z:B.length+S.length+20*T.length+20<=5000),JS b (d+3) 4 B T S a x K:=by intros b d B T S a x K _ h z;obtain⟨g,w⟩:=IX z;obtain⟨j,e,k,A⟩:=iq (a:=x/14);rw[Ts.of<|Cv.fr [0,2,5] [.c 0,.c 1,.c 2,.p<|.int<|x/14/8] (by decide) Y Y Y (JD (L:=BS a) (ks:=[-1-x/14%2]) .lst (λy m=>B3.mp m▸jt (U5 _)) (Be 1 9) (L g<|by decide)<|L w<|by decide) λs f=>Al.mk (Ig (n:=5001) (DY g f.2.1 Y) Y) ?_];intros _ s _ f;have q:∀{r:O J}{u c v},E_ (BS a) r->u.take 4=e4->c.take 4=cO (B++(s.1++[r])) T v a->v.length<=S.length+9->K .next u c:=λ{r _ _ v}C D E F=>h.Jw (s.1++[r]) v D E (Hy f.1 C) (HI f.2.1<|Be 1 5) F;rcases U5<|x/14/4 with o|o;rw[Cv.fr [2] [.c 0,.p<|.int 1] (by decide) Y (A_ (λn=>[AV.c 2,.p<|.int<|1-n]) o) Y (OI (a:=s.2) (b:=[-1-x/14%2]) (n:=1) Y<|Be 1 9) λZ Z=>q (r:=[33,j]) ⟨_,_,.set A⟩ Y (I7 (Gk<|by rw[Ag e ?_,A_ (λn=>il [33+n,x/14%4]) o]) Y)<|L f.2.2<|BJ _ _,Cv.fr [2] [.c 0,.p<|.int 0] (by decide) (A_ (λl=>V [B_ l]) (Ba<|s.2++[-1-x/14%2]).symm) (A_ (λn=>[AV.c 2,.p<|.int<|1-n]) o) Y (OI (a:=s.2++[-1-x/14%2]) (b:=[]) (n:=0) Y<|CJ _) λZ Z=>q (r:=[34,j]) ⟨_,_,.MB A⟩ Y (I7 (Gk<|by rw[Ag e ?_,A_ (λn=>il [33+n,x/14%4]) o]) Y)<|O8 f.2.2]
theorem wz:∀{b d B T S a x K}(h:KI K B S T a)(v:B.length+S.length+20*T.length+20<=5000),JS b (d+3) 8 B T S a x K:=by intros b d B T S a x K _ h v;obtain⟨f,m⟩:=IX v;have w:=jt (U5<|x/14);rw[Ts.of<|Cv.fr [0,2] [.c 0,.c 1,.p<|.tup<|il [-1-x/14%2,-1-x/14%2,-1],.p<|.int<|x/14/4] ((dc Y)) Y Y Y (JD (L:=BS a) .tup (tq w) (Be 3 7) (L f<|(dc Y))<|L m<|(dc Y)) λs g=>?_];intros _ s _ g;have q:D1 (BD<|B++s.1).length Bj=I:=Ig (n:=5003) (DY f g.2.1 Y) Y;have e:B_ (s.2++[-1-x/14%2,-1-x/14%2,-1])=B_ ((s.2++[-1-x/14%2])++[-1-x/14%2,-1]):=A_ B_ (Bc s.2 [-1-x/14%2] [-1-x/14%2,-1]).symm;have j:∀{r:O J}{k c},E_ (BS a) r->k.take 4=e4->c.take 4=cO (B++(s.1++[r])) T (s.2++[-1-x/14%2]) a->K .next k c:=λ{r _ _}y z A=>h.Jw (s.1++[r]) _ z A (Hy g.1 y) (HI g.2.1<|Be 3 3)<|O8 g.2.2;have u:=OI (Γ:=b) (d:=d+2) (a:=s.2++[-1-x/14%2]) (b:=[-1-x/14%2,-1]) (n:=2) Y (Be 2 8);rw[Ap.d (λZ=>Al.mk q<|Cv.fr [2] [.c 0,.p<|.int 2] ((dc Y)) (A_ (λo=>V [o]) e) Y Y u λZ Z=>j (r:=[27]) ⟨_,_,.sel⟩ Y<|I7 (Gk Y) Y) λZ=>Al.mk q<|Cv.fr [2] [.c 0,.p<|.int 2] ((dc Y)) (A_ (λo=>V [o]) e) Y Y u λZ Z=>j (r:=[28,_]) ⟨_,_,.NH w⟩ Y<|I7 (Gk Y) Y]
theorem w5:∀{c d B a S b x K}(h:KI K B S a b)(A:Fk b)(C:b.length<=4)(w:B.length+S.length+20*a.length+20<=5000),JS c (d+3) 6 B a S b x K:=by
 intros c d B a S b x K _ h A C w;obtain⟨j,r⟩:=IX w;have q:(BD<|BS b).length=(BS b).length:=DA;have z:=XB (IW (Fs:=b)) (by rw[U QO ?_,L (Ce C)<|(dc Y)]);injection NC (x:=x/14)<|IW (Fs:=b)with m _ D y;injection PD y with f _ v F E;have k:=A.BS f v;have u:(f++[-1]).length<=3:=HI k.1 (B2 2);rw[Ts.of<|Al.mk (q▸z)<|B0.mk (a:= .tup<|il f) (by rw[U q<|U D ?_,E])<|Al.mk (sz (m:=3) (DY (n:=2) (m:=1) (BH f▸k.1) (B2 1) Y) Y)<|Al.mk (q▸z) ?_,Cv.fr [0,2] [.c 0,.c 1,.p<|.tup<|il<|f++[-1],.p<|.int<|x/14/(BD<|BS b).length] ((dc Y)) Y (A_ (λl=>[AV.c 0,.c 2,.p<|.tup l,.p<|.int<|x/14/(BD<|BS b).length])<|ED (b:=[-1])) Y (JD (L:=BS b) .tup k.snoc (L u<|(dc Y)) (L j<|(dc Y))<|L r<|(dc Y)) λs o=>?_];have g:(il<|s.2++(f++[-1])).getLast?=V (.int<|-1)/\(il<|s.2++(f++[-1])).dropLast=il (s.2++f):=by rw[U ((Bc _ _ _).symm:s.2++(f++[-1])=(s.2++f)++[-1])<|Ag ED ?_,⟨O6,HM⟩]
 rw[Al.mk (Ig (n:=5003) (DY j (L o.2.1 u) Y) Y)<|B0.mk g.1<|h.Jw (s.1++[[13,(m:J)]]) (s.2++f) Y (I7 (Gk<|by rw[Ag D<|Ag q ?_];rfl)<|A_ (AK.list T) g.2) (Hy o.1 ⟨_,_,.Ib F y k.1⟩) (HI (L o.2.1 u)<|Be 3 3)<|by rw[U Aq ?_,Cq o.2.2<|L k.1<|(dc Y)]]
theorem my{Γ}{d}{B}{a}{S}{c}{x}{K}(h:KI K B S a c)(e:B.length+S.length+20*a.length+20<=5000)(f:S≠[]):Ts Γ (d+3) (arm 10++[]) (eI x) (cO B a S c++[.list T []]++[.list T []]) K:=by
 obtain⟨zO,Tw⟩:=IX e;clear e Tw;obtain⟨b,k,rfl⟩:∃b k,S=b++[k]:=⟨_,_,(VO f).symm⟩;have top:(il<|b++[k]).getLast?=V (.int k)/\(il<|b++[k]).dropLast=il b:=by rw[Ag ED ?_,⟨O6,HM⟩]
 rw[Ts.of<|Al.mk (Ig zO Y)<|B0.mk top.1<|h.Jw [[26]] b Y (I7 (mH Y)<|A_ (AK.list T) top.2) (VC ⟨_,_,.drop⟩) (Be 1 6)<|by rw[U Aq ?_,L (BJ _ 1)<|BJ _ _]]
theorem zY{a:J}:∃(j:G)(v:J)(k:O J×O J),a%3=j/\Ez (a%3) (([2,1,3]:O J).map pI)=V (pI v)/\B'.funcs[j]?=V v/\0<=v/\Hc[v.toNat]?=V k/\Ez v (Hc.map D0)=V (D0 k)/\D8 k.1/\D8 k.2:=by obtain⟨j,e,b⟩:=NC (x:=a) (n:=3)<|(dc Y);rw[U (e:a%3=j) ?_];match j,b with|0,_=>rw[⟨0,_,_,Y,Y,Y,(dc Y),Y,Y,⟨(dc Y),(dc Y)⟩,(dc Y),(dc Y)⟩]|1,_=>rw[⟨1,_,_,Y,Y,Y,(dc Y),Y,Y,⟨(dc Y),(dc Y)⟩,(dc Y),(dc Y)⟩]|2,_=>rw[⟨2,_,_,Y,Y,Y,(dc Y),Y,Y,⟨(dc Y),(dc Y)⟩,(dc Y),(dc Y)⟩]
theorem aI:∀{Γ d B a S c x K}(h:KI K B S a c)(r:B.length+S.length+20*a.length+20<=5000),Ts Γ (d+3) (Vc 11 ((FK<|DS 47).drop 3)++[]) (eI x) (cO B a S c++[.list T []]++[.list T []]) K:=by intros Γ d B a S c x K _ h r;obtain⟨f,b⟩:=IX r;injection zY (a:=x/14/3)with j v k _ e A z y w u o q;rw[Ts.of<|Cv.fr [] [] FC Y Y Y Pg λZ Z=>B0.mk (a:=pI v) A<|B0.mk u<|Cv.fr [0,2] [.c 0,.c 1,.p<|.tup<|il k.1,.p<|.int<|x/14/9] ((dc Y)) Y Y Y (JD (L:=BS c) .tup o.2 (L o.1<|(dc Y)) (L f<|(dc Y))<|L b<|(dc Y)) λs g=>Cv.fr [2] [.c 0,.p<|.int (il k.1).length] ((dc Y)) Y Y Y (OI (BH k.1)<|L o.1<|(dc Y)) λZ Z=>Al.mk (Ig (n:=5002) (DY f (L g.2.1 o.1) Y) Y)<|Al.mk (sz (m:=5002) (Cq (BH s.2▸L g.2.2 b)<|BH k.2▸q.1) Y)<|h.Jw (s.1++[[16,(j:J)]]) (s.2++k.2) Y (I7 (Gk<|by rw[Ag e ?_];rfl)<|A_ (AK.list T) ED) (Hy g.1 ⟨_,_,.call z y w q.1⟩) (HI (L g.2.1 o.1)<|Be 2 4)<|by rw[U Aq ?_,Cq g.2.2<|L q.1<|(dc Y)]]
theorem tG{B:O (O J)}{a:O J}{S:O J}(h:KI K B S a g)(c:B.length+S.length+20*a.length+20<=5000):Ts f (d+4) (Vc 10 ((FK<|DS 47).drop 3)++[]) (eI x) (cO B a S g++[.list T []]) K:=by rw[Ts.ifs<|Sx (a:=S) (b:=[]) Y Y<|Ap.nd (λz=>Ap.d (λZ=>?_) λZ=>?_) λZ=>?_,my (Γ:=f) (d:=d+1) h c z,aI (Γ:=f) (d:=d+1) h c,aI (Γ:=f) (d:=d+1) h c]
theorem nC{Γ}{d}{B}{a}{S}{c}{K}(h:KI K B S a c)(e:Fk c)(i:c.length<=4)(k:c.length<4->∃g,d=g+1/\∀f,D8 f.p->D8 f.r->OY Γ (g+4) (f::c))(b:B.length+S.length+20*a.length+20<=5000):Ts Γ (d+4) (FK<|DS 47) e4 (cO B (x::a) S c++[.list T []]) K:=Ts.cut 3 (σ:=BF) (λZ=>eI x) (λZ=>cO B a S c++[.list T []]) (λZ=>Bg) (λZ=>Y) (Ts.of ⟨(),[],[],B9,Y,Y⟩) λZ Z=>Ts.ifs<|Ap.d (s9 (d:=d+1) h b) λl=>Ts.ifs<|Ap.d (z7 (d:=d+1) h b l) λm=>Ts.ifs<|Ap.d (λZ=>nG h b) λn=>Ts.ifs<|Ap.d (λZ=>xi h b) λo=>Ts.ifs<|Ap.d (λZ=>p_ h b) λp=>Ts.ifs<|Ap.d (λj=>w1 h e (λz=>(k z).imp λg q=>⟨A_ (·+1) q.1,q.2⟩) b (by lia) j) λj=>Ts.ifs<|Ap.d (λZ=>w5 h e i b) λZ=>Ts.ifs<|Ap.d (λZ=>aah h e i b) λZ=>Ts.ifs<|Ap.d (λZ=>wz h b) λZ=>Ts.ifs<|Ap.d (λZ=>xB h) λZ=>tG h b
def j5(B:O<|O J)(a:O Fr)(s:IS):O AK:=cO (B++s.rs) s.T s.S a
theorem gM{c e:O b}(h:c.take 4=e):c=e++c.drop 4:=by rw[Ag h<|U (Kz ..) Y]
theorem c4{c:O AK}(h:c.take 4=cO (B++f++b) a S g):c=cO (B++(f++b)) a S g++c.drop 4:=by rw[Ag (Bc ..) ?_,gM h]
theorem WD{a c:O (O J)}{j k f g:O J}(o:a.length+k.length+20*(j.length+1)<=N)(m:c.length+g.length+20*f.length<=k.length+20*j.length+19):(a++c).length+g.length+20*f.length<=N/\g.length+20*f.length<k.length+20*(j.length+1):=by rw[U Aq ⟨U (CR ..)<|U (CR ..)<|Ag (CR c.length ..)<|ZA (b:=c.length+g.length) (e:=20*f.length) o m,Nk<|L (L (Be _ c.length)<|C8 (CR c.length ..).symm) m⟩]
theorem z9{B:O (O J)}{T:O J}{S:O J}{a}{b c:O J}(f:B.length+S.length+20*T.length<=5000)(g:a.length+c.length+20*(b.length+1)<=S.length+20*T.length):(B++a).length+c.length+20*b.length+20<=5000:=by rw[U Aq<|X1 f g]
theorem gw{k}{d}{c}(v:Fk c)(w:c.length<=4)(y:c.length<4->∃r,d=r+1/\∀f,D8 f.p->D8 f.r->OY k (r+4) (f::c)):OY k (d+5) c:=λ{B a S}t=>by rw[Cv.FO Y Y Y<|Ts.cut 1 (σ:=IS) (λZ=>e4) (j5 B c) (Il c<|S.length+20*a.length) (λZ=>Y) (Ts.of ?_) λs g=>Ts.of<|PQ.ret (ex:=[]) ⟨s.rs,s.T,s.S,T⟩ g (Ba _).symm Y Y,Wl.mk (σ:=IS) (e:=λZ=>e4) (cs:=j5 B c) (λm s=>Il c (S.length+20*a.length) s/\s.S.length+20*s.T.length=m) (λZ=>Y) (m:=S.length+20*a.length) ?_ ⟨⟨[],a,S,T⟩,[],[],⟨⟨.nil,C8<|by rw[U LI<|U (Di ..) Y]⟩,Y⟩,Y,e8⟩ λm s g=>?_,CH (L (by rw[U (CR ..) ?_,Be _ _]) t)<|(dc Y)];·obtain⟨h,i,A,b⟩:=s;obtain⟨⟨l,e⟩,rfl⟩:=g;rw[Sx (a:=i) (b:=[]) Y Y<|Ap.nd (λz=>?_) λz=>?_];(·induction i using An with|nil=>rw[Aj Y z]|cons x i=>rw[nC (Γ:=k) (d:=d) (B:=B++h) ⟨λZD n o u p q j=>?_,λD ZD n o u p q j=>?_⟩ v w y<|z9 t e,⟨⟨h++ZD,o,n,b⟩,_,_,⟨_,(WD e j).2,⟨l.app q,(WD e j).1⟩,Y⟩,gM u,c4 p⟩,PQ.ret (ex:=List.drop 4 _) ⟨h++ZD,o,n,D⟩ ⟨l.app q,(WD e j).1⟩ (c4 p) Y Y]);rw[⟨⟨h,i,A,b⟩,[],[_],⟨l,e⟩,Y,Y⟩]
theorem xW(n:G):∀{Fs},Fk Fs->Fs.length+n=4->OY Γ (d+2*n+5) Fs:=by induction n with|zero=>rw[λ{Fs}c b=>gw c (C8 b) λh=>Aj h<|E1.mpr<|C8 b.symm]|succ n j=>rw[λ{Fs}c b=>gw (d:=d+2*(n+1)) c (b▸BJ _ _) λh=>⟨d+2*n+1,Y,λf o k=>j (Fs:=f::Fs) (λg m=>(CZ.mp m).elim (λe=>e▸⟨o,k⟩)<|c g)<|by rw[Ag b ?_,FZ _ _ _]⟩]
end
end
section
set_option maxHeartbeats 1000000
section
def bC(a:O<|O J)(T S:O J):O AK:=[B_ T,Ac a,B_ S,Ac<|BS []]
theorem aaB{a b:O (O J)}{c:O J}(h:a.length+c.length+n<=280)(f:b.length<=c.length+2):(a++b).length<=300:=by rw[U Aq ?_];lia
theorem zb:∀{a d T}(r:T.length<=14),Cv a (d+14) 48 [.c 0] [B_ T]<|PQ (σ:=IS) (λs=>BV [] s.rs []/\s.rs.length<=300) (λZ=> .c 5) λs=>bC s.rs s.T s.S++[Ac [[11]],Ac<|s.rs++[[11]]]:=by
 intros a d T _ r;have k:0+20*T.length<=280:=(Di<|20*T.length).symm▸KQ 20 r;rw[Cv.FO Y Y Y<|Ts.cut 2 (σ:=IS) (λZ=>[.c 0,.c 1,.c 2]) (λs=>bC s.rs s.T s.S) (λs=>BV [] s.rs []/\s.rs.length<=300) (λZ=>Y) (Ts.of<|Cv.fr [1,0,2,3] e4 ((dc Y)) Y Y Y (xW (Γ:=a) (d:=d) 4 (Fs:=[]) (λf m=>(by cases m)) Y (B:=[]) (T:=T) (S:=[])<|L k<|(dc Y)) λs j=>Ap.mk (λZ=>?_) λZ=>⟨s,[],[],⟨j.1,?_⟩,Y,Y⟩) λs g=>Ts.of ?_];·have q:s.rs.length+s.S.length+20*s.T.length<=280:=L j.2 k;have u:=L (BJ _ _) q;rw[Cv.fr [1,2] [.c 0,.c 1,.p<|.tup<|il B'.res,.p<|.int (BD s.rs).length] ((dc Y)) Y Y Y (lj (L:=BS []) (ks:=B'.res) ((dc Y)) ((dc Y)) (L (L (BJ _ _) u)<|(dc Y))<|L (L (Be _ _) u)<|(dc Y)) λv h=>⟨⟨s.rs++v,s.T,B'.res,AH⟩,[],[],⟨j.1.app<|BV.rows h.1,aaB q h.2⟩,Y,Y⟩]
 rw[L (L (L (BJ _ _)<|BJ _ _) j.2)<|L k<|(dc Y),Al.mk (sz (m:=301) (DY (n:=300) (m:=1) (DA▸g.2) (B2 1) Y) Y)<|PQ.ret (ex:=[]) s g (A_ (λo=>bC s.rs s.T s.S++[Ac [[11]],AK.list AH o])<|I6 (b:=[[11]])) Y Y]
end
end
section
set_option maxHeartbeats 1000000
def Gq:O<|O J:=[[65,3],[1],[26],[106],[124],[69],[80],[167],[172],[32,0],[32,1],[32,4],[33,0],[34,1],[66,-5],[12,0],[13,0],[14,0,0],[15],[0],[27],[28,-2],[16,1],[18,0],[18,1],[32,7],[16,5],[12,9],[33,4]]
section
theorem BV.len(h:BV S b a)(c:S.length<=8):a.length<=8:=by induction h with|nil=>rw[c]|cons h k f=>rw[f ?_];clear k f;induction h using Nx.casesOn with|row=>rw[c]|op _ _ _ _ g=>rw[g]|mid=>rw[c]|cl=>rw[GP c]
theorem rN:∀{S}(j:Fk S)(k:S.length<=8),∀r∈Gq,E_ (BS S) r:=by intros S _ j k;injection(PD (L:=BS S) (l:=0) IW)with o _ c b _;have g:=j.BS o c;unfold Gq;simp only [List.forall_mem_cons,Ia,false_imp_iff,implies_true,and_true];rw[⟨(Bp _ _<|.Mv 3),(Bp _ _ .PH),(Bp _ _ .drop),(Bp _ _<|.num ((dc Y)) Y),(Bp _ _<|.num ((dc Y)) Y),(Bp _ _<|.num ((dc Y)) Y),(Bp _ _<|.num ((dc Y)) Y),(Bp _ _<|.num ((dc Y)) Y),(Bp _ _<|.num ((dc Y)) Y),(Bp _ _<|.get (i:=0) Y),(Bp _ _<|.get (i:=1) Y),(Bp _ _<|.get (i:=4) Y),(Bp _ _<|.set (i:=0) Y),(Bp _ _<|.MB (i:=1) Y),(Bp _ _<|.put2 _),(Bp _ _<|.br (l:=0) b IW<|(dc Y)),(Bp _ _<|.Ib (l:=0) b IW g.1),(Bp _ _<|.HP (ls:=[0]) (l:=0) (λi m=>(CZ.mp m).elim (λe=>e▸⟨IW,b⟩) λm=>B3.mp m▸⟨IW,b⟩) g.1<|(dc Y)),(Bp _ _ .ret),(Bp _ _ .Kk),(Bp _ _ .sel),(Bp _ _<|.NH<|.inr Y),(Bp _ _<|.call (f:=1) Y ((dc Y)) Y<|(dc Y)),(Bp _ _<|.tail (f:=0) Y ((dc Y)) Y Y),(Bp _ _<|.NN (f:=1) Y ((dc Y)) Y<|(dc Y)),(Bp _ _ .Mf),(Bp _ _ .N8),(Bp _ _<|.NF (by rw[U QO<|Ce k]:(BS S).length<=9)),(Bp _ _<|.set (i:=4) Y)⟩]
def quiet(r:O J):Prop:=∃c a,r=c::a/\c∉([2,3,4,5,11]:O J)
theorem Nx.quiet(h:Nx S r a)(q:quiet r):a=S/\E_ (BS S) r:=by obtain⟨c,d,e,q⟩:=q;induction h using Nx.casesOn with|row h=>rw[⟨Y,h⟩]|op b=>(rw[xA (Cs e) λBL Bf=>?_];subst BL;subst Bf);rw[Aj (by rcases b with rfl|rfl|rfl<;>decide) q]|mid=>(rw[xA (Cs e) λBL Bf=>?_];subst BL;subst Bf);rw[Aj (by decide) q]|cl=>(rw[xA (Cs e) λBL Bf=>?_];clear e;subst BL;subst Bf);rw[Aj (by decide) q]
theorem BV.w6:∀{c i r n}(h:BV [] c [])(p:c[i]?=V r)(q:quiet r)(u:n∈Gq),BV [] (c.take i++[n]++c.drop (i+1)) []/\BV [] (c.take i++[n]++c.drop i) []/\BV [] (c.take i++c.drop (i+1)) []:=by intros c i r n _ h p q u;(rw[xE (DP.mp p) λy k=>?_];clear p;subst k);injection(BV.split (b:=c.drop i) (c.take i)<|by rw[U (List.take_append_drop i c) h])with a _ g v;have z:=(g.codes λf m=>(by cases m)).2;have w:=rN z (g.len<|CJ _) n u;rw[I8 y]at v⊢;cases v with|cons C o=>(rw[xA (C.quiet q) λj A=>?_];clear z C;subst j);rw[(BX ((g.app<|.one<|.row w).app o) ((g.app<|.one<|.row w).app<|.cons (.row A) o)<|g.app o)]
def QR(B:O<|O J):O AK:=[Ac B,Ac<|Gq.take 12,Ac<|(Gq.drop 12).take 10,Ac<|Gq.take 22,Ac<|Gq.drop 22,Ac Gq]
inductive Spot(B:O<|O J)(l:O G):Prop
 |mk(ok:∀i∈l,∃r,B[i]?=V r/\quiet r)(len:l.length<=B.length)
def Xj(l:O G):AK:=B_<|l.map λi:G=>(i:J)
theorem sm:∀{l n v a}(h:(JV l).drop n=v::a),∃u,l[n]?=V u/\v= .tup [.int n,u]/\a=(JV l).drop (n+1):=by
 intros l n v a _ h;have b:n<(JV l).length:=by rw[Ao (λz:n<(JV l).length=>?_) λz=>?_,z];·replace h:=(J'<|E1.mp z)▸h;rw[(by cases h)]
 replace h:=(I8 b)▸h;rw[xA (Cs h) λf c=>Ag f<|Ag c ?_];have g:n<l.length:=by unfold JV at b;replace b:=fS▸b;rw[b]
 rw[(DB (l[n]) (Cm g) List.getElem_mapIdx Y)]
theorem Rw.qt(h:Rw f r a w):∃c g,r=c::g/\Qv c:=by induction h using Rw.casesOn with|num h=>rw[(Fq _ _ Y (λq=>by rcases q with rfl|rfl|rfl<;>exact Aj h.1<|(dc Y)) (λq=>by subst q;rw[Aj h.1<|(dc Y)]) λq=>by subst q;rw[Aj h.1<|(dc Y)])]|_=>rw[(Fq _ _ Y ((dc Y)) ((dc Y))<|(dc Y))]
theorem BV.ne(h:BV S b i):∀r∈b,∃c f,r=c::f:=by induction h with|nil=>rw[λZ m=>(by cases m)]|cons h _ g=>rw[λr m=>(CZ.mp m).elim (λe=>by clear m;subst e;induction h using Nx.casesOn with|row h=>rw[h.elim λa h=>h.elim λw h=>h.qt.imp λc q=>q.imp λf q=>q.1]|_=>rw[(Bp _ _ Y)])<|g r]
theorem BV.at:∀{S k b}{n:G}{u}(h:BV S b k)(e:(BD<|b++[[11]])[n]?=V u),∃c f,(b++[[11]])[n]?=V (c::f)/\u= .tup (il<|c::f):=by intros S k b n u _ h e;unfold BD at e;rw[FX]at e;rw[AY (ML.mp e) λr j o=>?_];(rw[NQ ((Cj.mp<|E7 j).elim (h.ne r) λm=>(Bp _ _<|B3.mp m)) λc f g=>?_];subst g);rw[(Kl c f j o.symm)]
theorem m5:∀{rows i r}(h:(rows++[[11]])[i]?=V r)(q:quiet r),i<rows.length:=by intros rows i r _ h q;rw[Ao (λz:i<rows.length=>?_) λz=>?_,z];·rw[DO<|E1.mp z]at h;obtain⟨c,a,rfl,q⟩:=q;obtain⟨rfl,rfl⟩:=Cs<|B3.mp<|E7 h;rw[Aj ((dc Y)) q]
theorem aae:∃n∈Gq,Ez (y%29) (BD Gq)=V (.tup<|il n):=by rw[AY (NC (x:=y) (n:=29)<|(dc Y)) λj e b=>?_];have b:j<Gq.length:=b;rw[(Aa (Gq[j]) (OS b)<|U ((e:y%29=j))<|(?_:(BD Gq)[j]?=_))];unfold BD;rw[U (FX)<|U (Cm b) ?_];rfl
theorem YS:∀{b t:O (O J)}{i k o}(g:i<b.length)(u:b.length<=300)(p:(i:J)+o=(k:G))(r:k<=i+1)(j:t.length<=1)(h:BV [] (b.take i++t++b.drop k) []/\(b.take i).length+(b.drop k).length<=300),∃c:O (O J),(0<=(i:J)+o/\(i:J)+o<=(BD<|b++[[11]]).length)/\Bm ((BD<|b++[[11]]).take (i:J).toNat++BD t++(BD<|b++[[11]]).drop ((i:J)+o).toNat).length Bj=I/\(BD<|b++[[11]]).take (i:J).toNat++BD t++(BD<|b++[[11]]).drop ((i:J)+o).toNat=BD (c++[[11]])/\BV [] c []/\c.length<=301:=by
 intros b t i k o _ g u p r j h;have f:k<=b.length:=L r g;have e:(BD<|b++[[11]]).take i++BD t++(BD<|b++[[11]]).drop k=BD (b.take i++t++b.drop k++[[11]]):=by unfold BD;rw[Ag Rb<|Ag dT<|U (List.take_append_of_le_length<|KN g)<|U (List.drop_append_of_le_length f)<|Ag Ci<|Ag Ci<|U (Bc _ _ [[11]]) Y]
 have q:(b.take i++t++b.drop k).length<=301:=by rw[U Aq<|U Aq<|U (FZ ..)<|Cq h.2 j]
 rw[U p<|(X6 (b.take i++t++b.drop k) ⟨EE _,DM.mpr ?_⟩ (?_) e h.1 q),U DA<|U Aq<|L f<|BJ _ _,(A_ (λl:O MV=>Bm l.length Bj) e).trans<|sz (m:=302) (DA▸HI q (B2 301)) Y]
theorem BV.XT(h:BV [] f [])(o:f.length<=300)(g:(f++[[11]])[i]?=V r)(q:quiet r)(m:n∈Gq):(BV [] (f.take i++[n]++f.drop (i+1)) []/\(f.take i).length+(f.drop<|i+1).length<=300)/\(BV [] (f.take i++[n]++f.drop i) []/\(f.take i).length+(f.drop i).length<=300)/\BV [] (f.take i++[]++f.drop (i+1)) []/\(f.take i).length+(f.drop<|i+1).length<=300:=by
 rw[Er<|m5 g q]at g;rw[DE (h.w6 g q m) λa b c=>?_];have j:(f.take i).length+(f.drop i).length<=300:=by rw[Ag Aq<|U (Kz ..) o]
 have k:(f.take i).length+(f.drop<|i+1).length<=300:=L (CD (by rw[U GS<|U GS<|Nat.sub_le_sub_left (E2 i) _]) _) j;rw[(Dx ⟨a,k⟩ ⟨b,j⟩ (by rw[U (Ba ..) c]) k)]
theorem w8:∀{Γ d g}{w x:J}(h:BV [] g [])(A:g.length<=300),Cv Γ (d+1) 50 [.c 0,.p (.int w),.p (.int x)] [Ac (g++[[11]])] (λc a=>∃n j,a= .c n/\c[n]?=AA (Ac (j++[[11]]))/\BV [] j []/\j.length<=301):=by
 intros Γ d g w x _ h A;rw[Cv.FO Y Y Y (Ts.cut 3 (σ:=BF) (λ_=>[.c 0,.p (.int w),.p (.int x),.c 5]) (λ_=>QR (g++[[11]])) (λ_=>Bg) (λ_=>Y) (Ts.of ⟨(),[],[],B9,Y,Y⟩) λ_ _=>Ts.cut 1 (σ:=O G) (λ_=>[.c 0,.p (.int w),.p (.int x),.c 5,.u,.u,.c 6]) (λl=>QR (g++[[11]])++[Xj l]) (Spot (g++[[11]])) (λ_=>Y) (Ts.of ?_) λl o=>Ts.ifs ?_)];·rw[Cl.mk (σ:=BF) (λ_=>QR (g++[[11]])) (λQ C _=>∃l n,C=il (l.map λi:G=>(i:J))/\Q=(JV (BD (g++[[11]]))).drop n/\(∀i∈l,∃r,(g++[[11]])[i]?=AA r/\quiet r)/\l.length<=n/\n<=(g++[[11]]).length) (.lJ 0 _ (by rw[A9 DA (CH (HI A (B2 300)) ((dc Y)))]) Y λ_=>Y) (λ_=>Y) Y ⟨(),_,[],(WY ([]) 0 Y Y ((λ_ m=>(by cases m))) (B2 0) (CJ _)),Y,Y⟩ (λv Q C _ q=>?_) λC _ q=>?_];intros _ v Q C _ q;(·(injection q with l n _ W e t H _;clear q;rw[A9 W ?_]);rw[Cp (sm e.symm) λu y V U=>A9 V (A9 U ?_),G3 (h.at y) λc rs e2 S=>A9 S ?_];have E:=gZ (I5 e2);rw[Ap.nd (λz=>?_) λz=>?_,⟨(),_,[],(WY (l++[n]) (n+1) (by rw[A9 Ci (Ag ED ?_)];rfl) Y ((λi m=>(Cj.mp m).elim (t i) λm=>by rw[A9 (B3.mp m) ⟨_,e2,_,_,Y,z⟩])) (by rw[A9 Aq (Ce H)]) E),Y,Y⟩,⟨(),_,[],(WY l (n+1) Y Y t (FI H) E),Y,Y⟩]);·(rw[tF q λl n R e t H q3=>?_];clear q;rw[A9 R ?_]);have hz:=L H q3;rw[Al.mk (sz (m:=301) (by rw[A9 (BH ..) (A9 (CO ..) (L hz (HI A (B2 300))))]) Y) ⟨l,[],[],⟨t,hz⟩,Y,Y⟩]
 intros _ l _ o;·(have K:(il (l.map λi:G=>(i:J))).length=l.length:=by rw[A9 (BH ..) (A9 (CO ..) Y)]);have D:∀{ex},Ts Γ d (PX ((DS 50).drop 4)++(DS 50).drop 5) [.c 0,.p (.int w),.p (.int x),.c 5,.u,.u,.c 6] (QR (g++[[11]])++[Xj l]++ex) (Rk 1 λc a=>∃n j,a= .c n/\c[n]?=AA (Ac (j++[[11]]))/\BV [] j []/\j.length<=301):=Ts.of ⟨[Ac (g++[[11]])],_,Y,Y,0,g,Y,Y,h,FI A⟩;rw[Ap.d (λ_=>D (ex:=[])) λhw=>QZ (a:=l.map λi:G=>(i:J)) (b:=[]) Y Y (Ap.d (λ_=>D (ex:=[_])) λYf=>?_)];have lp:0<l.length:=Nat.pos_of_ne_zero λz=>Yf (by rw[A9 (j1 z) ?_];rfl);have hd:(decide (0<((il (l.map λi:G=>(i:J))).length:J))&&decide (((il (l.map λi:G=>(i:J))).length:J)<1000000000))=I:=K▸XB lp (L (L o.2 (HI A (B2 300)):l.length<=301) ((dc Y)));rw[Ts.cut 2 (σ:=G×AL) (λs=>[.c 0,.p (.int w),.p (.int (x/2)),.c 5,.p (.int s.1),.u,.c 6,.p (.bool s.2)]) (λs=>QR (g++[[11]])++[Xj l,.list T []]) (λs=>s.1∈l) (λ_=>Y) (Ts.of ?_) λs F=>Ts.of ?_,AY (NC (x:=x/2) lp) λm em hm=>Al.mk hd (B0.mk (a:= .int l[m]) (by rw[A9 K (A9 em ((?_:(il _)[m]?=_)))];unfold il;rw[A9 (FX) (A9 (FX) (A9 (Cm hm) ?_))];rfl) ⟨(l[m],_),[],[],OS hm,Y,Y⟩)];·rw[AY (o.1 s.1 F) λr Z hq=>?_];have M:=(λi m=>(o.1 i m).elim λr q=>m5 q.1 q.2:∀i∈l,i<g.length) s.1 F;rw[AY (aae (y:=x/2/l.length)) λp E y=>?_];have X:(BD (g++[[11]])).length<=301:=DA▸HI A (B2 300);have k:∀n,Bm ((BD (g++[[11]])).take n).length Bj=I:=λn=>sz (m:=301) (L (Qk _ _) X) Y;have P:∀n,Bm ((BD (g++[[11]])).drop n).length Bj=I:=λn=>sz (m:=301) (by rw[A9 GS (L (FJ _ _) X)]) Y;have zu:∀n(v:MV),Bm ((BD (g++[[11]])).take n++[v]).length Bj=I:=λn v=>sz (m:=302) (DY (b:=[v]) (n:=301) (m:=1) (L (Qk _ _) X) (B2 1) Y) Y;have B:(s.1:J)<=16777216:=DM.mpr (L (KN M) (L A ((dc Y))));clear F;obtain⟨i,b⟩:=s;rw[Ap.d (λN=>?_) λN=>?_,Al.mk hd (B0.mk (a:= .tup (il p)) (by rw[A9 K y]) (Fg ⟨EE _,B⟩ (Al.mk (k _) (Al.mk (zu _ _) (Ap.d (λ_=>(YS (t:=[p]) (o:=1) (k:=i+1) M A Y (B2 _) (B2 _) (h.XT A Z hq E).1).elim λj f=>Fg f.1 (Al.mk (P _) (Al.mk f.2.1 ⟨_,[],(Ba _).symm,Y,12,j,Y,A_ (λl=>AA (AK.list T l)) f.2.2.1,f.2.2.2⟩))) λh=>Aj N h)))))];·induction b using BG with|true=>rw[Al.mk hd (B0.mk (a:= .tup (il p)) (by rw[A9 K y]) (Fg ⟨EE _,B⟩ (Al.mk (k _) (Al.mk (zu _ _) (Ap.d (λh=>Aj h N) λ_=>(YS (t:=[p]) (o:=0) (k:=i) M A Y (E2 _) (B2 _) (h.XT A Z hq E).2.1).elim λj f=>Fg f.1 (Al.mk (P _) (Al.mk f.2.1 ⟨_,[],(Ba _).symm,Y,12,j,Y,A_ (λl=>AA (AK.list T l)) f.2.2.1,f.2.2.2⟩)))))))]|false=>rw[Fg ⟨EE _,B⟩ (Al.mk (k _) (Al.mk ((A_ (λl:O MV=>Bm l.length Bj) (Ba _)).trans (k _)) (Ap.d (λh=>Aj h N) λ_=>(YS (t:=[]) (o:=1) (k:=i+1) M A Y (B2 _) (CJ _) (h.XT A Z hq E).2.2).elim λj f=>Fg f.1 (Al.mk (P _) (Al.mk f.2.1 ⟨_,[],(Ba _).symm,Y,12,j,Y,A_ (λl=>AA (AK.list T l)) f.2.2.1,f.2.2.2⟩)))))]
end
end
section
set_option maxHeartbeats 1000000
section
def NX(pre:O<|O J)(o:O J):O<|O J:=pre++([0]::(HT o++[[11]]))
theorem NA:c∈([2,3,4]:O J)↔c=2\/c=3\/c=4:=by simp only [CZ,Ia,SJ]
theorem kX{b x y:O J}{X}(h:(if b=[]then C else V x).bind (Fu X)=V y):b≠[]/\Fu X x=V y:=by
 by_cases z:b=[];·rw[AM z]at h;rw[nomatch h]
 ·rw[AS z]at h;rw[⟨z,h⟩]
def IC(body pre:O<|O J)(o:O J):O AK:=[Ac body,B_ o,Ac pre,Ac pre,Ac [[0]],Ac<|pre++[[0]],.list T<|il o.reverse]
structure QL(b:O AK)where
 ex:O AK
 n:G
 acc:O<|O J
 h:(b++ex)[n]?=V (Ac acc)
inductive gG(pre:O<|O J)(o:O J){b:O AK}(vs:O MV)(s:QL b):Prop
 |mk(p:∃done rest,vs=il rest/\done++rest=o.reverse/\s.acc=pre++[0]::(done.map F9).flatten/\s.acc.length+4*rest.length<=2001)
theorem QL.ok{pre:O (O J)}{o:O J}{b m}(s:QL<|IC b pre o):(Bm 7 (IC b pre o++s.ex).length&&[AV.c 0,.p<|.int m,.c 1,.u,.c s.n].all (G' (IC b pre o++s.ex).length))=I:=by have h:D1 s.n (IC b pre o++s.ex).length=I:=G2 (I5 s.h);rw[((U h ?_):(I&&(I&&(I&&(D1 s.n _&&I))))=I)];rfl
theorem Je{c:O AK}:(c++[x])[c.length]?=V x:=by rw[U (DO<|B2 _)<|U (GI ..) ?_];rfl
theorem mU{c:O AK}:(Bm 1 (c++[x]).length&&G' (c++[x]).length (.c c.length))=I:=by rw[U Aq<|G2<|B2<|c.length+1]
theorem Pk(h:c[n]?=V (Ac a))(f:(a++b).length<=5000)(q:k (c++[Ac b]++[Ac<|a++b])<|.c (c++[Ac b]).length):YF .add (.c n) (.c c.length) (c++[Ac b]) k:=by rw[B0.mk (N1 h)<|B0.mk Je<|Al.mk (sz (m:=5000) ?_ Y) ?_,U I6<|U DA f,U I6 q]
theorem wO{a t x:O (O J)}(h:a.length+4*(n+1)<=N)(c:t.length<=2)(b:x.length<=2):(a++t++x).length+4*n<=N:=by rw[U Aq<|U Aq<|vW h c b]
theorem vJ:(a.reverse.map F9).flatten=HT a:=by induction a with|nil=>rfl|cons c f b=>rw[U I1<|U Ci<|U bN<|U b<|((U (Ba ..) ?_):_++(F9 c++[])=_)];rfl
theorem jq  : ∀ {B d pre post row o} (D :  Fu pre [] = V o)  (m :  pre.length ≤ 400), Cv B (d + 1) 51 [.c 0, .p (.int pre.length)] [Ac (pre ++ row :: post)]
   (fun c a => (∃ n, a = .c n ∧ c[n]? = V (Ac  (NX pre o))) ∧ c[0]? = V (Ac  (pre ++ row :: post))) := by
 intros B d pre post row o _ D m
 rw [Cv.FO Y Y Y (Ts.ifs    (Ap.d (fun h => ?_) fun Z => Ts.cut 2 (σ := O J ×   O (O J))    (fun Z => [.c 0, .p (.int pre.length), .c 1]) (fun s => [Ac (pre ++ row :: post), B_ s.1, Ac pre]) (fun s => s.1 = o ∧ s.1.length ≤ 400) (fun Z => Y)  (Ts.of ?_) fun s y =>  ?_))]
 · replace h := (by rw [U DA  (U Aq  ?_)]; rfl : (BD (pre ++ row :: post)).length = pre.length + (post.length + 1)) ▸ h
   rw [Aj (Nh.mp h) (DZ (Mu (FA _)))]
 · have p :  (BD (pre ++ row :: post)).take (pre.length : J).toNat  = BD pre := by unfold BD; rw [Ag Rb (A_ _ Rz)]
   rw [
          Fg ⟨EE _, DM.mpr (L m (by   decide))⟩ (Al.mk (sz (m := 400) (by rw [U p (U DA    m)])  Y)
     (Fl.mk (σ := O J ×   O (O J))    (e := fun Z => [.c 0, .p (.int pre.length), .c 1]) (cs := fun s => [Ac (pre ++ row :: post), B_ s.1, Ac pre]) (fun u s  => u =  BD s.2 ∧ Fu s.2 s.1 = V o  ∧ s.1.length + s.2.length ≤ 400) (.Kd 2 (BD pre) (by rw [U DA  (CH m (by  decide))]) fun Z => Y)  (fun Z => Y)
     ⟨([], pre), [], [], (BX Y D ((Di   _).symm ▸ m)),  Y,  A_ (fun l => [_, _, AK.list T l])  p⟩  (fun v u s  g => Ts.of ?_) fun s g => ?_))]
   intros _ v u s  _ g
   intros _ v u s  _ g
   · obtain ⟨f,  b⟩    := s
     intros _ f b _     g
     (rw [DE g fun e1 e i =>   ?_]; clear g)
     induction b using    An with
     | nil => rw [nomatch e1]
     | cons r b =>
       intros _ r b _    e1 e i
       obtain ⟨rfl, rfl⟩ := Cs e1
       induction r using An with
       | nil => rw [nomatch e]
       | cons c N =>
         have e :  (Od c f).bind  (Fu b)    = V o  := e
         have i :  f.length  + (b.length    + 1) ≤ 400 := i
         rw [Ap.d (fun h => ?_) fun h => Ap.d (fun x =>  ?_) fun x =>  Ap.d (fun A =>  ?_) fun A =>  ?_]
         · (rewrite [Od] at e;  replace e :=  (AM (NA.mp h)) ▸ e)
           rw [Al.mk (blt (BH f ▸  L (BJ  _ _) i :  (il f).length  ≤ 400) Y)  ⟨(f ++  [c], b),    [_], [], (BX Y e (by   show (f ++  [c]).length + b.length    ≤ 400; (rw [U Aq  (U (CR  ..) ?_)]; rewrite [EL [c].length]); rw [i])),  Y,  A_ (fun l => [_, AK.list T l,  _]) (ED (b := [c]))⟩]
         · (rewrite [Od] at e;  replace e :=  (AS (fun q => h (NA.mpr q))) ▸ e;  replace e :=  (AM x)  ▸ e)
           rw [xA (kX e)  fun z e =>  ?_]
           obtain ⟨j,  k, rfl⟩ : ∃ j k,  f =  j ++  [k] := (Bp _ _ ((VO z).symm))
           replace e :=  HM ▸ e
           rw [B0.mk (Um (g := 5)).1 ⟨(j ++  [5], b),    [_], [], (BX Y e (by   rw [Aq] at i ⊢;  rw [GP i])),  Y,  A_ (fun l => [_, AK.list T l,  _]) Um.2⟩]
         · (rewrite [Od] at e;  replace e :=  (AS (fun q => h (NA.mpr q))) ▸ e;  replace e :=  (AS x)  ▸ e;  replace e :=  (AM A)  ▸ e)
           rw [xA (kX e)  fun z e =>  ?_]
           obtain ⟨j,  k, rfl⟩ : ∃ j k,  f =  j ++  [k] := (Bp _ _ ((VO z).symm))
           replace e :=  HM ▸ e
           have top : (il (j ++  [k])).getLast? = V (.int  k) ∧ (il (j ++  [k])).dropLast = il j :=  by rw [Ag ED ⟨O6, HM⟩]
           rw [B0.mk top.1 ⟨(j,  b),    [_], [], (BX Y e (by   replace i :=  Aq ▸ i;  rw [L (Cq  (BJ _ 1) (E2 _)) i])),  Y,  A_ (fun l => [_, AK.list T l,  _]) top.2⟩]
         · (rewrite [Od] at e;  replace e :=  (AS (fun q => h (NA.mpr q))) ▸ e;  replace e :=  (AS x)  ▸ e;  replace e :=  (AS A)  ▸ e)
           rw [⟨(f,  b),    [_], [], (BX Y e (GP   i)),  Y,  Y⟩]
   · obtain ⟨f,  b⟩    := s
     (rw [DE g fun e1 e i =>   ?_]; clear g)
     induction b using    An with
     | cons => rw [nomatch e1]
     | nil => rw [⟨(f,  []), [], [], ⟨AN e,  i⟩,  Y,  Y⟩]
 · obtain ⟨f,  b⟩    := s
   intros _ f b _     y
   (rw [xA y fun  BL w =>  ?_]; clear y;  rw [Ag BL ?_])
   have w :  f.length  ≤ 400 := w
   have p :  (BD (pre ++ row :: post)).take (pre.length : J).toNat  = BD pre := by unfold BD; rw [Ag Rb (A_ _ Rz)]
   rw [Ts.cut 1 (σ := BF) (fun Z => [.c 0, .p (.int pre.length), .c 1, .u, .c 5]) (fun Z => [Ac (pre ++ row :: post), B_ f,  Ac pre, Ac pre, Ac [[0]], Ac (pre ++ [[0]])]) (fun Z => Bg) (fun Z => Y)  (Ts.of ?_) fun Z Z => Ts.of ?_, 
           Fg ⟨EE _, DM.mpr (L m (by   decide))⟩ (Al.mk (sz (m := 400) (by rw [U p (U DA    m)])  Y)  (Al.mk (sz (m := 401) (by rw [U p (DY   (b := [MV.tup [.int 0]]) (DA ▸ m)  (B2 1) Y)])  Y)
       ⟨(), [], [], B9, Y,  by rw [U p (A_   (fun l => [_, _, _, _, _, AK.list T l])  (I6 (b := [[0]])))]⟩))]
   · have K :  (il f).reverse  = il f.reverse  := d5.symm
     rw [Al.mk (sz (m := 400) (by rw [U Bu  (U (BH  ..) w)])  Y)  (Fl.mk (σ := QL (IC (pre ++ row :: post) pre f))  (e := fun s => [.c 0, .p (.int pre.length), .c 1, .u, .c s.n]) (cs := fun s => IC (pre ++ row :: post) pre f ++  s.ex) (gG pre f)  (.Kd 6 (il f.reverse)  (by rw [U (BH  ..) (U Bu  (CH w (by  decide)))]) fun Z => Y)  (fun s => s.ok) ?_ (fun v u s  g => Ts.of ?_) fun s g => ?_), ⟨⟨[], 5, pre ++ [[0]], Y⟩,  [], [], ⟨[], f.reverse,  Y,  Y,  Y,  by rw [U Aq  (U Bu  (Cq (Ce m)  (KQ 4 w)))]⟩,  Y,  A_ (fun l => [_, _, _, _, _, _, AK.list T l])  K⟩]
     · obtain ⟨done, b,    e1, e,  i,  e4⟩ := g
       induction b using    An with
       | nil => rw [nomatch e1]
       | cons c b =>
         obtain ⟨rfl, rfl⟩ := Cs e1
         have e5 : (s.acc).length ≤ 2001 := L (BJ  _ _) e4
         have nx : ∀ {t : O (O J)},    t ++ [[11], [0]] = F9 c → t.length ≤ 2 → Arr (σ := QL (IC (pre ++ row :: post) pre f))  (fun s => [.c 0, .p (.int pre.length), .c 1, .u, .c s.n]) (fun s => IC (pre ++ row :: post) pre f ++  s.ex) (gG pre f (il  b))    [.c 0, .p (.int pre.length), .c 1, .u, .c (IC (pre ++ row :: post) pre f ++  s.ex ++ [Ac t] ++ [Ac (s.acc ++ t)] ++ [Ac [[11], [0]]]).length, .p (.int c)]
           (IC (pre ++ row :: post) pre f ++  s.ex ++ [Ac t] ++ [Ac (s.acc ++ t)] ++ [Ac [[11], [0]]] ++ [Ac (s.acc ++ t ++ [[11], [0]])]) := fun {t} M Mp  =>
           have E :  IC (pre ++ row :: post) pre f ++  s.ex ++ [Ac t] ++ [Ac (s.acc ++ t)] ++ [Ac [[11], [0]]] ++ [Ac (s.acc ++ t ++ [[11], [0]])] = IC (pre ++ row :: post) pre f ++  (s.ex ++ [Ac t, Ac (s.acc ++ t), Ac [[11], [0]], Ac (s.acc ++ t ++ [[11], [0]])]) := by simp only [Bc]; rfl
           ⟨⟨s.ex ++ [Ac t, Ac (s.acc ++ t), Ac [[11], [0]], Ac (s.acc ++ t ++ [[11], [0]])], _, s.acc ++ t ++ [[11], [0]], (A_ (fun l : O AK  => l[_]?) E.symm).trans  Je⟩, [.p (.int c)], [], ⟨done ++ [c], b,    Y,  Wt e,  by show s.acc ++ t ++ [[11], [0]] = _; rw [U i (U (Bc    ..) (U M (U Ci    (U bN  (U (Bc  ..) ?_)))))]; show pre ++ ([0] :: ((done.map F9).flatten ++ F9 c)) = pre ++ ([0] :: ((done.map F9).flatten ++ (F9 c ++ []))); rw [U (Ba  ..) Y],  wO e4 Mp (B2 2)⟩, Y,  E.trans  (Ba _).symm⟩
         have F :  ∀ {t}, t.length ≤ 2 → (s.acc ++ t).length ≤ 5000 := fun h => DY e5 h Y
         have H :  ∀ {t}, t.length ≤ 2 → (s.acc ++ t ++ [[11], [0]]).length ≤ 5000 := fun h => DY (n := 2003) (m := 2) (DY e5 h Y)  (B2 2) Y
         rw [Ap.d (fun h => ?_) fun h => ?_, Pk (b := [[5], [0]]) s.h (F (B2  2)) (Pk (b := [[11], [0]]) Je (H (B2  2)) (nx (t := [[5], [0]]) (by (rewrite [F9]; rw [U (AM  h) Y]))  (B2 2))), Pk (b := []) s.h (F (CJ  2)) (Pk (b := [[11], [0]]) Je (H (CJ  2)) (nx (t := []) (by (rewrite [F9]; rw [U (AS  h) Y]))  (CJ 2)))]
     · obtain ⟨done, b,    e1, e,  i,  e4⟩ := g
       induction b using    An with
       | cons => rw [nomatch e1]
       | nil =>
         rw [Pk (b := [[11]]) s.h (DY (n := 2001) (m := 1) (L (BJ  _ _) e4) (B2 1) Y)  ⟨_, [], (Ba _).symm, mU, (Aa _ Y (Je.trans  (A_ (fun l => V (Ac  l)) (by replace e :=  (Ba ..) ▸ e;  rw [U i (U e (U vJ      (U (Bc  ..) ?_)))]; rfl)))), Y⟩]
theorem zL:∀{b d B},Cv b (d+1) 51 [.c 0,.p<|.int B.length] [Ac B] λc a=>(∃n,a= .c n/\c[n]?=V (Ac B))/\c[0]?=V (Ac B):=by intros b d B;rw[Cv.FO Y Y Y<|Ts.ifs<|Ap.d (λZ=>Ts.of ⟨[Ac B],[],Y,Y,(Aa 0 Y Y),Y⟩) λh=>Aj (A_ _ DA.symm:(B.length:J)=((BD B).length:J)) h]
end
end
section
set_option maxHeartbeats 1000000
section
def Vt:O<|MV×MV:=[(.tup<|il [32,7],.str 54),(.tup<|il [16,5],.str 53),(.tup<|il [12,9],.str 51)]
theorem RX:Dm (il a)=V a:=by induction a with|nil=>rfl|cons x a b=>rw[map_eq b Y]
theorem Zj:Dw (.tup<|il a) (.tup<|il b)=decide (a=b):=by rw[((U RX<|U RX<|Qf.mpr ⟨AN,A_ V⟩):decide (Dm (il a)=Dm (il b))=_)]
theorem vG:∀{r},Cd (.tup<|il r) Vt=(if Fp r=50 then C else V (.str<|Fp r)):=by
 intros r;show(if Dw (.tup<|il [32,7]) (.tup<|il r)=I then V (MV.str 54)else if Dw (.tup<|il [16,5]) (.tup<|il r)=I then V (MV.str 53)else if Dw (.tup<|il [12,9]) (.tup<|il r)=I then V (MV.str 51)else C)=_;rw[U Zj<|U Zj<|U Zj ?_];simp only [P_];by_cases h1:[32,7]=r;·rw[Ag h1 ?_];rfl
 rw[U (AS h1) ?_];by_cases h2:[16,5]=r;·rw[Ag h2 ?_];rfl
 rw[U (AS h2) ?_];by_cases h3:[12,9]=r;·rw[Ag h3 ?_];rfl
 rw[U (AS h3)<|(AM ?_).symm];match r with|[a,b]=>rw[(AS ?_).trans<|(AS ?_).trans<|AS ?_];(·rintro⟨rfl,rfl⟩;rw[h1 Y]);(·rintro⟨rfl,rfl⟩;rw[h2 Y]);·rintro⟨rfl,rfl⟩;rw[h3 Y]|[]=>rfl|[_]=>rfl|_::_::_::_=>rfl
theorem uR:∀{Γ d}{r},Cv Γ (d+1) 60 [.p<|.tup<|il r] []<|PQ (σ:=BF) (λZ=>Bg) (λZ=> .p<|.str<|Fp r) λZ=>[]:=by
 intros Γ d r;have b:∀{K:Prop},K->X3 Vt (.tup<|il r) K:=λh=>Al.mk (DN.mpr ⟨(A_ TY RX:(Dm<|il r).isSome=I),Y⟩) h;have e:=vG (r:=r);rw[Cv.FO Y Y Y<|Ts.cut 1 (σ:=BF) (λZ=>[.p<|.tup<|il r,.c 0]) (λZ=>[.dict T Vt]) (λZ=>Bg) (λZ=>Y) (Ts.of ⟨(),[],[],B9,Y,Y⟩) λZ Z=>Ts.of<|b<|Ap.mk (λh=>b ?_) λh=>?_];·by_cases z:Fp r=50;(·rw[e,AM z]at h;rw[nomatch h]);·rw[AS z]at e;rw[B0.mk e<|PQ.ret (ex:=[_]) () B9 Y Y Y]
 ·by_cases z:Fp r=50;rw[PQ.ret (ex:=[_]) () B9 Y (by rw[U z Y]) Y];·rw[e,AS z]at h;rw[nomatch h]
end
end
section
set_option maxHeartbeats 1000000
abbrev Dt(L:O<|O J)(S:O J)(a:Ak):Kt:=PQ (σ:=AK) (λo=>∀y,Br T S a=V y->y.1=T->o=BI y.2) (λZ=> .p<|.bool (Br T S a).isSome) λo=>[o,Ac L]
def y'(o:AO MV):AV:= @C4 MV (λZ=>AV) o .u .p
def eK(r:O J)(code:J)(w g:O J)(o:AO MV):Env:=[.p<|.tup<|il r,.c 0,.c 1,.p<|.int code,.u,.u,y' o,.u,.p<|.tup<|il w,.p<|.tup<|il g]
inductive WG(w g:O J):Ak->Prop
 |Bv:WG w g<|.Bv w.reverse g.reverse
 |jmp:WG w g<|.jmp w.reverse
section
theorem WG.act:∀{S w g a}(h:WG w g a),(Br T S a).isSome=(Au T w.reverse S).isSome/\∀y,Br T S a=V y->y.1=T->y.2=g.reverse++S.drop w.length:=by
 intros S w g a _ h;have b:∀{z},Au T w.reverse S=V z->z=S.drop w.length:=λe=>by rw[Ag (Bu (as:=w))<|FY e]
 cases h with|Bv=>rw[(?_:((Au T w.reverse S).map _).isSome=_/\∀y,(Au T w.reverse S).map _=V y->_)];(cases e:Au T w.reverse S with|none=>rw[⟨Y,λy h=>(by cases h)⟩]|some z=>rw[⟨Y,λy h Z=>by(replace h:=AN h;rw[Ag h ?_]);rw[U (b e) Y]⟩])|jmp=>rw[(?_:((Au T w.reverse S).map _).isSome=_/\∀y,(Au T w.reverse S).map _=V y->_)];cases e:Au T w.reverse S with|none=>rw[⟨Y,λy h=>(by cases h)⟩]|some z=>rw[⟨Y,λy h q=>by(replace h:=AN h;subst h);rw[(by cases q)]⟩]
theorem YL:AK.list T (il S.reverse++il g)=BI (g.reverse++S):=by unfold BI;rw[U ED<|U Rl<|U (Mr ..) Y]
theorem zo:∀{i d c S w g l b a}{o}(h:WG w g a)(j:w.length<=100)(k:g.length<=100)(r:S.length<=1000000),Ts i (d+2) ((DS 55).drop 6) (eK (b::l) b w g o) [BI S,Ac c]<|Rk 2<|Dt c S a:=by intros i d c S w g l b a o _ h j k r;rw[xA (h.act (S:=S)) λf u=>Ts.of<|Cv.fr [0] [.c 0,.p<|.tup<|il w] (by decide) Y Y Y (N' S w<|L j<|by decide) λZ Z=>Ap.mk (λq=>Al.mk (sz (m:=1000100) ?_ Y)<|PQ.ret (ex:=[]) (BI<|g.reverse++S.drop w.length) (λy e q=>by rw[U (u y e q) Y]) (A_ (λo=>[o,Ac c]) YL) (by rw[U f<|U q Y]) Y) λq=>PQ.ret (ex:=[]) _ (λy e Z=>?_) Y (by rw[U f<|U q Y]) Y,U (BH ..)<|U Bu<|U GS<|Cq (L (FJ _ _) r)<|BH g▸k];·rw[e,q]at f;rw[nomatch f]
theorem HE:∀{e d L S w g c b a}{G}(h:G->WG w g a)(f:w.length<=100)(j:g.length<=100)(k:S.length<=1000000)(u:b∉([12,13,14]:O J))(r:b∉([15,0]:O J))(m:b≠27)(q:Ts e (d+2) (((DS 55).drop 5).take 1) (eK (b::c) b [] [] C) [BI S,Ac L]<|UJ (eK (b::c) b w g) (λZ=>[BI S,Ac L]) (λZ=>G)<|Rk 2<|Dt L S a),Cv e (d+3) 55 [.p<|.tup<|il<|b::c,.c 0,.c 1] [BI S,Ac L]<|Dt L S a:=by intros e d L S w g c b a G _ h f j k u r m q;rw[Cv.FO Y Y Y<|Ts.cut 1 (σ:=BF) (λZ=>[.p<|.tup<|il<|b::c,.c 0,.c 1,.p<|.int b]) (λZ=>[BI S,Ac L]) (λZ=>Bg) (λZ=>Y) (Ts.of ⟨(),[],[],B9,Y,Y⟩) λZ Z=>Ts.ifs<|Ap.d (λz=>Aj z u) λZ=>Ts.ifs<|Ap.d (λz=>Aj z r) λZ=>Ts.ifs<|Ap.d (λz=>Aj z m) λZ=>?_,Ts.cut 1 (σ:=BF) (λZ=>eK (b::c) b [] [] C) (λZ=>[BI S,Ac L]) (λZ=>Bg) (λZ=>Y) (Ts.of ⟨(),[],[],B9,Y,Y⟩) λZ Z=>Ts.cut 1 (σ:=AO MV) (eK (b::c) b w g) (λZ=>[BI S,Ac L]) (λZ=>G) (λo=>by induction o using C4<;>rfl) q λo z=>zo (h z) f j k]
abbrev FG(b:VG)(d:G)(L:O<|O J)(S r:O J)(a:Ak):Prop:=Cv b (d+3) 55 [.p<|.tup<|il r,.c 0,.c 1] [BI S,Ac L]<|Dt L S a
theorem xq(b:S.length<=1000000):FG f d a S [65,v]<|.Bv [] [-1]:=HE (w:=[]) (g:=[-1]) (G:=Bg) (λZ=> .Bv) ((dc Y)) ((dc Y)) b ((dc Y)) ((dc Y)) ((dc Y))<|Ts.of ⟨C,[],[],B9,Y,Y⟩
theorem oG(b:S.length<=1000000):FG f d a S [66,v]<|.Bv [] [-2]:=HE (w:=[]) (g:=[-2]) (G:=Bg) (λZ=> .Bv) ((dc Y)) ((dc Y)) b ((dc Y)) ((dc Y)) ((dc Y))<|Ts.of ⟨C,[],[],B9,Y,Y⟩
theorem yn(b:S.length<=1000000):FG f d a S [1]<|.Bv [] []:=HE (w:=[]) (g:=[]) (G:=Bg) (λZ=> .Bv) ((dc Y)) ((dc Y)) b ((dc Y)) ((dc Y)) ((dc Y))<|Ts.of ⟨C,[],[],B9,Y,Y⟩
theorem xt(b:S.length<=1000000):FG f d a S [26]<|.Bv [0] []:=HE (w:=[0]) (g:=[]) (G:=Bg) (λZ=> .Bv) ((dc Y)) ((dc Y)) b ((dc Y)) ((dc Y)) ((dc Y))<|Ts.of ⟨C,[],[],B9,Y,Y⟩
theorem ab2(b:S.length<=1000000):FG f d a S [28,k]<|.Bv [-1,k,k] [k]:=HE (w:=[k,k,-1]) (g:=[k]) (G:=Bg) (λZ=> .Bv) (Be 3 97) (Be 1 99) b ((dc Y)) ((dc Y)) ((dc Y))<|Ts.of ⟨C,[],[],B9,Y,Y⟩
theorem O4{i:G}{k:J}(h:B'.locs[i]?=V k):¬(i:J)>4/\Ez (i:J) (([-1,-2,-1,-2,-16]:O J).map pI)=V (pI k):=⟨Gn.mpr<|DM.mpr<|JJ (I5 h:i<5),by rw[((U (FX)<|U h ?_):(B'.locs.map pI)[i]?=_)];rfl⟩
theorem vp{a:VG}{d:G}{L:O (O J)}{S:O J}{i:G}{k:J}(h:B'.locs[i]?=V k)(b:S.length<=1000000):FG a d L S [32,i]<|.Bv [] [k]:=HE (w:=[]) (g:=[k]) (G:=Bg) (λZ=> .Bv) (CJ _) (Be 1 99) b ((dc Y)) ((dc Y)) ((dc Y))<|Ts.of<|Ap.d (λz=>Aj z (O4 h).1) λZ=>B0.mk (O4 h).2 ⟨V<|.tup [.int k],[],[],B9,Y,Y⟩
theorem sD:∀{a d L S}{i:G}{k:J}(h:B'.locs[i]?=V k)(b:S.length<=1000000),FG a d L S [33,i]<|.Bv [k] []:=by intros a d L S i k _ h b;rw[HE (w:=[k]) (g:=[]) (G:=Bg) (λZ=> .Bv) (Be 1 99) (CJ _) b ((dc Y)) ((dc Y)) ((dc Y))<|Ts.of<|Ap.d (λz=>Aj z (O4 h).1) λZ=>B0.mk (O4 h).2 ⟨V<|.tup [.int k],[],[],B9,Y,Y⟩]
theorem xd{a:VG}{d:G}{L:O (O J)}{S:O J}{i:G}{k:J}(h:B'.locs[i]?=V k)(b:S.length<=1000000):FG a d L S [34,i]<|.Bv [k] [k]:=HE (w:=[k]) (g:=[k]) (G:=Bg) (λZ=> .Bv) (Be 1 99) (Be 1 99) b ((dc Y)) ((dc Y)) ((dc Y))<|Ts.of<|Ap.d (λz=>Aj z (O4 h).1) λZ=>B0.mk (O4 h).2 ⟨V<|.tup [.int k],[],[],B9,Y,Y⟩
theorem Dt.no(h:Br T S a=C)(b:Bm k 2=I):Dr k (Dt f S a) (o::Ac f::ex)<|.p<|.bool T:=PQ.ret (ex:=ex) o (λy e=>by rw[h]at e;rw[nomatch e]) Y (by rw[U h ?_];rfl)<|DN.mpr ⟨b,Y⟩
theorem Dt.yes(h:Br T S a=V y)(q:y.1=T->o=BI y.2)(b:Bm k 2=I):Dr k (Dt f S a) (o::Ac f::ex)<|.p<|.bool I:=PQ.ret (ex:=ex) o (λz e w=>by replace e:=h▸e;(replace e:=AN e;subst e);rw[q w]) Y (by rw[U h ?_];rfl)<|DN.mpr ⟨b,Y⟩
theorem sP(b:S.length<=1000000):FG f d a S [32,7] .bad:=HE (w:=[]) (g:=[]) (G:=BB) (λz=>z.elim) (by decide) (by decide) b (by decide) (by decide) (by decide)<|Ts.of<|Dt.no Y Y
theorem pn(b:S.length<=1000000):FG f d a S [16,5] .bad:=HE (w:=[]) (g:=[]) (G:=BB) (λz=>z.elim) ((dc Y)) ((dc Y)) b ((dc Y)) ((dc Y)) ((dc Y))<|Ts.of<|Dt.no Y Y
theorem fJ{f:G}{i:J}{k:O J×O J}(m:B'.funcs[f]?=V i)(a:0<=i)(j:B'.kinds[i.toNat]?=V k):¬(f:J)>2/\Ez (f:J) (([2,1,3]:O J).map pI)=V (pI i)/\Ez i (Hc.map D0)=V (D0 k)/\k.1.length<=100/\k.2.length<=100:=by
 rw[(Dx (Gn.mpr<|DM.mpr<|JJ (I5 m:f<3)) (by rw[((U (FX)<|U m ?_):(B'.funcs.map pI)[f]?=_)];rfl) (?_)<|?_)];·(rw[xE (Mk a) λn b=>?_];clear m a;subst b);rw[((U (FX)<|U ((j:Hc[n]?=V k)) ?_):(Hc.map D0)[n]?=_)];rfl
 ·have:∀k∈Hc,k.1.length<=100/\k.2.length<=100:=(dc Y);rw[this k<|E7 j]
theorem mr:∀{a d L S}{f:G}{i:J}{k:O J×O J}(j:B'.funcs[f]?=V i)(c:0<=i)(b:B'.kinds[i.toNat]?=V k)(m:S.length<=1000000),FG a d L S [16,f]<|.Bv k.1.reverse k.2.reverse:=by intros a d L S f i k _ j c b m;rw[dG (fJ j c b) λo u r q p=>HE (w:=k.1) (g:=k.2) (G:=Bg) (λZ=> .Bv) q p m (by decide) (by decide) (by decide)<|Ts.of<|Ap.d (λz=>Aj z o) λZ=>Cv.fr [] [] FC Y Y Y Pg λZ Z=>B0.mk (a:=pI i) u<|B0.mk r ⟨C,[],[_],B9,Y,Y⟩]
theorem fo(h:a[0]?=V f):Ez 0 (BD a)=V (.tup<|il f):=by rw[(?_:(BD a)[0]?=_)];unfold BD;rw[U (FX)<|U h ?_];rfl
theorem lY:∀{b d L S a}{f:G}{i:J}{k:O J×O J}(m:B'.funcs[f]?=V i)(c:0<=i)(j:B'.kinds[i.toNat]?=V k)(p:L[0]?=V B'.res)(o:S.length<=1000000)(r:k.2=B'.res->a= .jmp k.1.reverse)(q:k.2≠B'.res->a= .bad),FG b d L S [18,f] a:=by intros b d L S a f i k _ m c j p o r q;rw[dG (fJ m c j) λu B A y v=>HE (w:=k.1) (g:=k.2) (G:=k.2=B'.res) (λz=>r z▸.jmp) y v o ((dc Y)) ((dc Y)) ((dc Y))<|Ts.of<|Ap.d (λz=>Aj z u) λZ=>Cv.fr [] [] FC Y Y Y Pg λZ Z=>B0.mk (a:=pI i) B<|B0.mk A<|B0.mk (fo p)<|neT (a:=k.2) (b:=B'.res)<|Ap.nd (λz=>Dt.no (q z▸Y) Y) λz=>⟨C,[],[_],z,Y,Y⟩]
theorem xJ:∀{c d a S}{b}(h:69<=b/\b<=196)(o:S.length<=1000000),FG c d a S [b]<|.Bv (Eh b).1.reverse (Eh b).2.reverse:=by intros c d a S b _ h o;have f:∀l:O J,(∀x∈l,x<69)->b∉l:=λl k m=>Gn.mpr h.1<|k _ m;have j:∀x:J,x<69->b≠x:=λx k e=>Gn.mpr h.1<|e▸k;rw[HE (w:=(Eh b).1) (g:=(Eh b).2) (G:=Bg) (λZ=> .Bv) (L Nv.1<|(dc Y)) (L (C8 Nv.2)<|(dc Y)) o (f _<|(dc Y)) (f _<|(dc Y)) (j _<|(dc Y))<|Ts.of<|Ap.d (λz=>Aj z<|f _<|(dc Y)) λZ=>Ap.d (λz=>Aj z<|j _<|(dc Y)) λZ=>Ap.d (λz=>Aj z<|f _<|(dc Y)) λZ=>Ap.d (λz=>Aj z<|j _<|(dc Y)) λZ=>Ap.d (λz=>Aj z<|f _<|(dc Y)) λZ=>Ap.nd (λZ=>Cv.fr [] [.p<|.int b] FC Y Y Y c9 λZ Z=>⟨C,[],[],B9,Y,Y⟩) λz=>Aj z<|j _<|(dc Y)]
end
end
section
set_option maxHeartbeats 1000000
section
variable{Γ:VG}{d:AE}{L:AB (AB AD)}{S w g rs ks ns:AB AD}{code:AD}{a:Ak}{c:AB AK}
theorem nJ:FG Γ d L S [0]<|.jmp []:=Cv.run Y Y Y<|Dt.yes (o:=BI S) (y:=(I,[])) ((by rw[U LJ ?_];rfl:(Au T [] S).map (λZ=>((I,[]):AL×O J))=V (I,[]))) (λq=>(by cases q)) Y
theorem kz:∀{S}{w},(Br T S<|.jmp w).isSome=(Au T w S).isSome/\∀y,Br T S (.jmp w)=V y->y.1=T->BB:=by intros S w;rw[(?_:((Au T w S).map _).isSome=_/\∀y,(Au T w S).map _=V y->_)];cases e:Au T w S with|none=>rw[⟨Y,λy h=>(by cases h)⟩]|some z=>rw[⟨Y,λy h q=>by(replace h:=AN h;subst h);rw[(by cases q)]⟩]
theorem Dt.jmp(h:b=(Au T w S).isSome):Dr 2 (Dt L S<|.jmp w) (o::Ac L::ex)<|.p<|.bool b:=PQ.ret (ex:=ex) o (λy e q=>((kz).2 y e q).elim) Y (by rw[U kz.1<|U h Y]) Y
theorem vN:∀{e d L S}(b:L[0]?=V B'.res),FG e d L S [15]<|.jmp B'.res.reverse:=by intros e d L S _ b;rw[Cv.run Y Y Y<|B0.mk (fo b)<|Cv.fr [0] [.c 0,.p<|.tup<|il B'.res] ((dc Y)) Y Y Y (N' S B'.res<|(dc Y)) λZ Z=>Ap.mk (λq=>Dt.jmp (ex:=[]) q.symm) λq=>Dt.jmp (ex:=[]) q.symm]
theorem ab5(h:L.length<=9):FG Γ d L S [12,9] .bad:=Cv.run Y Y Y<|Fg ((dc Y))<|Ap.d (λZ=>Dt.no Y Y) λz=>Aj (DM.mpr<|DA (a:=L)▸h) z
inductive JA(ks:O J):J->Ak->Prop
 |br:JA ks 12<|.jmp ks.reverse
 |Ib:JA ks 13<|.Bv (-1::ks.reverse) ks.reverse
 |HP:JA ks 14<|.jmp<|-1::ks.reverse
inductive JP(code:J)(S:O J):O J->Prop
 |a(h:code=12):JP code S S
 |b{x:J}{S1:O J}(hc:code≠12)(hf:F3 (-1) x=I)(e:S=x::S1):JP code S S1
theorem JP.of(f:code≠12)(h:Lo (-1) S=I):JP code S S.tail:=by induction S using An with|nil=>rw[(by cases h)]|cons x S=>rw[.b f h Y]
theorem vZ(h:F3 k x=I):Au T (k::ks) (x::S)=Au T ks S:=La.trans<|AS<|DJ h
theorem qP(h:Lo k S=T):Au T (k::ks) S=C:=by induction S using An with|nil=>rw[Nm]|cons x S=>rw[La.trans<|AM<|J5.mp<|W4 h]
theorem JA.none:∀{S i b a}(m:JA i b a)(k:b≠12)(h:Lo (-1) S=T),Br T S a=C:=by
 intros S i b a _ m k h;have e:∀{j:Type}{f:O J->j},(Au T (-1::i.reverse) S).map f=C:=λ{j f}=>by rw[U (qP h) ?_];rfl
 cases m with|br=>rw[Aj Y k]|Ib=>rw[e]|HP=>rw[e]
theorem JA.act:∀{S b f a}{j}(k:JA b f a)(p:JP f S j),Br T S a=(Au T b.reverse j).map λr=>if f=13 then(T,b.reverse++r)else(I,[]):=by intros S b f a j _ k p;have e:∀{x:J}{j:O J},F3 (-1) x=I->Au T (-1::b.reverse) (x::j)=Au T b.reverse j:=vZ;cases p with|a h=>subst h;cases k;rfl|b o m q=>rw[U q ?_];cases k with|br=>rw[Aj Y o]|Ib=>rw[A_ (IT _)<|e m]|HP=>rw[A_ (IT _)<|e m]
theorem yv(h:0<ns.length):ns.getD (It ns<|ns.length-1) 0∈ns:=by
 have f:∀k,It ns k<=k:=λk=>by induction k with|zero=>rw[B2 _]|succ k j=>show(if _ then k+1 else It ns k)<=k+1;rw[Ao (λq:decide (ns.getD (k+1) 0>ns.getD (It ns k) 0)=I=>?_) λq=>?_,U (AM q)<|B2 _,U (AS q)<|FI j]
 have b:It ns (ns.length-1)<ns.length:=CH (f _) (Xo h);rw[U (IP)<|U (Cm b) ?_,OS b]
theorem uy(h:0<m):(Ct m b).any id=b:=by induction m using CV with|zero=>rw[Aj h<|GN _]|succ m=>induction b using BG with|true=>rfl|false=>rw[Vs.mpr λx f q=>by replace q:=(Z_ f)▸q;rw[(by cases q)]]
theorem Yg(p:JA ks code a)(o:0<ns.length/\ns.length<=20)(t:ks.length<=2)(y:S.length<=1000000)(K:L.length<=100)(Vf:∀x∈ns,∃i:G,x=i/\i<L.length/\L[L.length-1-i]?=V ks):FG Γ d L S (code::ns) a:=by
 intros _ Γ d L S ks ns code a _ p o t y K Vf;rw[Cv.FO Y Y Y<|Ts.cut 1 (σ:=BF) (λZ=>[.p<|.tup<|il<|code::ns,.c 0,.c 1,.p<|.int code]) (λZ=>[BI S,Ac L]) (λZ=>Bg) (λZ=>Y) (Ts.of ⟨(),[],[],B9,Y,Y⟩) λZ Z=>Ts.ifs<|Ap.d (λZ=>?_) λz=>Aj (by cases p<;>decide:code∈([12,13,14]:O J)) z,Ts.cut 1 (σ:=O J) (λZ=>[.p<|.tup<|il<|code::ns,.c 0,.c 1,.p<|.int code]) (λf=>[BI f,Ac L]) (λf=>f.length<=1000000/\JP code S f) (λZ=>Y) (Ts.of ?_) λf S8=>Ts.cut 1 (σ:=O MV) (λZ=>[.p<|.tup<|il<|code::ns,.c 0,.c 1,.p<|.int code,.c 2]) (λl=>[BI f,Ac L,.list T l]) (λl=>∃m,l=Ct m (.tup<|il ks)/\0<m/\m<=20) (λZ=>Y) (Ts.of ?_) λl E=>?_];·rw[Fg ⟨Int.le_refl _,?_⟩<|Al.mk (sz (m:=20) (BH ns▸o.2) Y:Bm (il ns).length Bj=I)<|B0.mk (RX (a:=ns))<|Al.mk (G2 o.1)<|Ap.d (λz=>?_) λZ=>Ap.nd (λu=>?_) λu=>?_,U (BH ..)<|DM.mpr<|Ce<|CJ _];(·rw[Cp (Vf _<|yv o.1) λi e M Z=>?_];rw[e,DA]at z;rw[Aj (DM.mp z)<|IZ.mpr M]);rw[Cv.fr [0] [.c 0,.p<|.int<|-1] (by decide) Y Y Y (Yu S<|-1) λZ Z=>Ap.mk (λq=>Dt.no (p.none u<|by revert q;cases Lo (-1) S<;>simp) Y) λq=>⟨S.tail,[],[],⟨by rw[U List.length_tail<|AJ (FJ _ _) y],JP.of u<|by revert q;cases Lo (-1) S<;>simp⟩,Y,Y⟩,⟨S,[],[],⟨y,.a u⟩,Y,Y⟩]
 ·rw[Fg ⟨Int.le_refl _,by rw[U (BH ..)<|DM.mpr<|Ce<|CJ _]⟩<|Al.mk (sz (m:=20) (BH ns▸o.2) Y)<|Cl.mk (σ:=BF) (λZ=>[BI f,Ac L]) (λr h Z=>∃J4,r=il J4/\(∀x∈J4,x∈ns)/\∃j,h=Ct j (.tup<|il ks)/\j+J4.length=ns.length) (.tup _) (λZ=>Y) Y ⟨(),_,[],⟨ns,Y,λZ m=>m,0,Y,Di _⟩,Y,Y⟩ (λv r h Z q=>?_) λh Z q=>?_];(·(rw[gR q λJ4 e1 A j BL k=>?_];clear q;rw[U BL ?_]);induction J4 using An with|nil=>rw[nomatch e1]|cons n J4=>obtain⟨rfl,rfl⟩:=Cs e1;rw[Cp (Vf n<|A _<|.head _) λi Bf N P=>U Bf ?_,Cp (PD N) λG8 Z Q R=>?_];obtain rfl:=AN<|P.symm.trans Q;rw[B0.mk (a:= .tup<|il ks) (by rw[U DA R]) ⟨(),_,[],⟨J4,Y,λx m=>A x<|.tail _ m,j+1,dO.symm,by rw[U (FZ ..) k]⟩,Y,Y⟩]);·(rw[gR q λJ4 e1 A j E9 k=>?_];clear q;rw[U E9 ?_]);induction J4 using An with|cons=>rw[nomatch e1]|nil=>have B:j=ns.length:=k;rw[Al.mk (sz (m:=20) (by rw[U KU<|U B o.2]) Y) ⟨_,[],[],(DB j Y (B▸o.1)<|B▸o.2),Y,Y⟩]
 ·(rw[Cp E λm Fy ed F=>?_];clear E;rw[U Fy ?_]);(have D:Ez 0 (Ct m<|MV.tup<|il ks)=V (.tup<|il ks):=by induction m using CV with|zero=>rw[Aj ed<|GN _]|succ m=>rfl);rw[Ts.ifs<|Cl.mk (σ:=BF) (λZ=>[BI f,Ac L,.list T<|Ct m<|.tup<|il ks]) (λr h Z=>∃i j,r=Ct i (.tup<|il ks)/\h=Ct j (.bool<|!(Au T ks.reverse f).isSome)/\j+i=m) (.Kd 2 _ (by rw[U KU<|CH F<|by decide]) λZ=>Y) (λZ=>Y) Y ⟨(),_,[],(DI m 0 Y Y<|Di _),Y,Y⟩ (λv r h Z q=>?_) λh Z q=>?_];(·(rw[By q λi j e1 Ga k=>?_];clear q;rw[U Ga ?_]);induction i using CV with|zero=>rw[nomatch e1]|succ i=>obtain⟨rfl,rfl⟩:=Cs e1;rw[B0.mk D<|Ap.nd (λz=>Aj Y z) λZ=>Al.mk (sz (m:=1000000) (by rw[U (BH ..)<|U Bu S8.1]:(il f.reverse).length<=1000000) Y)<|Cv.fr [3] [.c 0,.p<|.tup<|il ks] (by decide) Y Y Y (N' f ks<|AJ t<|by decide) λZ Z=>?_];(have k:j+1+i=m:=by rw[U (FZ ..) k]);(have fin:∀{b:AL},b=(!(Au T ks.reverse f).isSome)->il ks=il ks->Ct j (MV.bool<|!(Au T ks.reverse f).isSome)++[.bool b]=Ct (j+1) (.bool<|!(Au T ks.reverse f).isSome):=λe Z=>by rw[U e dO.symm]);rw[Ap.mk (λq=>⟨(),_,[_],(DI i (j+1) Y (fin q.symm Y) k),Y,Y⟩) λq=>⟨(),_,[_],(DI i (j+1) Y (fin q.symm Y) k),Y,Y⟩]);·(rw[By q λi j e1 MP k=>?_];clear q;rw[U MP ?_]);induction i using CV with|succ=>rw[nomatch e1]|zero=>clear Fy;subst(k:j=m);rw[Al.mk (sz (m:=20) (by rw[U KU F]) Y)<|B0.mk (a:=Ct j<|!(Au T ks.reverse f).isSome) ?_ ?_,Ag Zb<|Y7 _];·have H:=uy ed (b:= !(Au T ks.reverse f).isSome);rw[Ap.mk (λq=>?_) λq=>?_];(·have q:=H.symm.trans q;(have e:Au T ks.reverse f=C:=by cases e:Au T ks.reverse f with|none=>rfl|some=>rw[e]at q;rw[nomatch q]);rw[Ts.of<|Dt.no (by rw[U (p.act S8.2)<|U e ?_];rfl) Y]);·have q:=H.symm.trans q;(obtain⟨s,e⟩:∃s,Au T ks.reverse f=V s:=by cases e:Au T ks.reverse f with|none=>rw[e]at q;rw[nomatch q]|some s=>rw[⟨s,Y⟩]);have act:=p.act S8.2;rw[e]at act;rw[Ts.of<|Ap.nd (λc3=>?_) λc3=>?_,Dt.yes (act.trans<|A_ V<|AS c3) (λq=>nomatch q) Y,B0.mk D<|Cv.fr [0] [.c 0,.p<|.tup<|il ks] (by decide) Y Y Y (N' f ks<|AJ t<|by decide) λZ Z=>Ap.mk (λZ=>B0.mk D<|Al.mk (sz (m:=1000002) (Cq (by rw[U (BH ..)<|U Bu<|U GS<|AJ (FJ _ _) S8.1])<|BH ks▸t) Y)<|Dt.yes (act.trans<|A_ V<|AM c3) (λZ=>by rw[U ((FY e).trans<|by rw[U Bu Y]:s=f.drop ks.length) YL]) Y) λz=>Jo<|z.symm.trans<|A_ TY e]
end
end
section
set_option maxHeartbeats 1000000
section
theorem bP(b:c[n]?=V (.list fz<|il l))(K:Cells h c a H)(e:BU a (.c n)=V u):view H u=V (.l<|il l):=Bo e λi g f=>by rw[Ag f<|bind_eq (F4<|K.3 n _ i b g)<|AM<|YR l]
theorem aaH:∀{h c e H b}(K:Cells h c e H),∀{a:O (O J)}{d},Av (λ(m:G)=>c[m]?) b=V (a.map λl=>AK.list T<|il l)->Av (Hq e) (b.map A0.c)=V d->views H d=V (a.map λl=>Vw.l<|il l):=by intros h c e H b _ K;induction b with|nil=>intro a d k f;(replace f:=AN f;subst f);(induction a using An with|nil=>rfl|cons=>rw[(by cases k)])|cons m b r=>intro a d k f;rw[C0 k λo B A z p=>C0 f λv q y w u=>?_];clear k;induction a using An with|nil=>rw[(by cases p)]|cons l a=>(rw[xA (Cs p) λj g=>?_];clear p;subst j;subst g);clear f;subst u;rw[bind_eq (bP A K y)<|map_eq (r z w) Y]
theorem rM{d:VG}{c:O AK}{n}(b:O G){f l}(a:O<|O J){P:AL->Prop}(j:c[n]?=V (.list f<|il l))(g:Av (λ(m:G)=>c[m]?) b=V (a.map λl=>AK.list T<|il l))(q:P<|a.any λm=>decide<|m=l):fN d .isin (.c n) (.t<|b.map A0.c) c P:=(Aa _ (λv H u w K r p=>by rw[Bo p λy o k=>Ag k<|bind_eq (bP j K r)<|map_eq (aaH K g o)<|U Yc<|A_ (List.any a)<|GJ λm=>a8 m l]) q)
def Eg(S:O J):Prop:=∀x∈S,x∈([-1,-2,-16,0]:O J)
def Ji(y z:J):O J:=[y,z].filter λx=> !decide (x=0)
def VT(y z:J):AL:=[[],(Ji y z).take 1,(Ji y z).take 1++(Ji y z).take 1].any λm=>decide<|m=Ji y z
theorem sd:∀y∈([-1,-2,-16,0]:O J),∀z∈([-1,-2,-16,0]:O J),decide (isNum y=I/\isNum z=I/\¬(y≠z/\y≠0/\z≠0))=(!decide (-16∈[y,z])&&VT y z)/\(if y=0 then z else y)=(Ji y z).headD 0:=(dc Y)
theorem t4:∀{x y z R}(g:F3 (-1) x=I)(f:y∈([-1,-2,-16,0]:O J))(b:z∈([-1,-2,-16,0]:O J)),GW T (x::y::z::R)=if(!decide (-16∈[y,z])&&VT y z)=I then V ((Ji y z).headD 0::R)else C:=by intros x y z R _ g f b;rw[xA (sd y f z b) λk j=>Ag k<|Ag j<|Ao (λq:isNum y=I/\isNum z=I/\¬(y≠z/\y≠0/\z≠0)=>?_) λq=>?_,U (AM<|DD q)<|AM ⟨.inr<|Be _ _,g,q⟩,U (AS λh=>q<|DJ h)<|AS λh=>q h.2.2]
theorem tX{x y R}:(il (x::y::R).reverse).dropLast.getLast?=V (.int y):=by rw[U Ut Yv]
theorem ab_{x y R}:(il (x::y::R).reverse).dropLast.dropLast=il R.reverse:=by rw[U Ut Ut]
theorem iL{w R}:il R.reverse++[.int w]=il (w::R).reverse:=by rw[U I1 ?_];unfold il;rw[U Ci ?_];rfl
theorem aaz:∀{n d a S code}(g:code=27)(i:Eg S)(j:S.length<=1000000),FG n d a S [code] .sel:=by
 intros n d a S code _ g i j;rw[Cv.FO Y Y Y<|Ts.cut 1 (σ:=BF) (λZ=>[.p<|.tup<|il [code],.c 0,.c 1,.p<|.int code]) (λZ=>[BI S,Ac a]) (λZ=>Bg) (λZ=>Y) (Ts.of ⟨(),[],[],B9,Y,Y⟩) λZ Z=>Ts.ifs<|Ap.d (λz=>Aj z<|by rw[U g ?_];decide) λZ=>Ts.ifs<|Ap.d (λz=>Aj z<|by rw[U g ?_];decide) λZ=>Ts.ifs<|Ap.d (λZ=>?_) λz=>Aj g z,Ts.ifs<|Ap.d (λh=>?_) λh=>?_];·rw[BH,Bu]at h;rw[Ts.of<|Dt.no ((λh=>(A_ (IT _) (AS λq=>Aj (q.1.elim (λz=>nomatch z) id)<|IZ.mpr h:GW T S=C)):S.length<3->Br T S .sel=C)<|Du.mp h) Y]
 ·rw[BH,Bu]at h;(obtain⟨x,y,z,R,rfl⟩:∃x y z R,S=x::y::z::R:=by match S,h with|x::y::z::R,_=>rw[(Nd x y z R Y)]|[],h=>rw[(h<|Du.mpr<|B6 Y).elim]|[_],h=>rw[(h<|Du.mpr<|B6 Y).elim]|[_,_],h=>rw[(h<|Du.mpr<|B6 Y).elim]);intros _ x y z R _ i j h;rw[Cv.fr [0] [.c 0,.p<|.int<|-1] (by decide) Y Y Y (Yu _<|-1) λZ Z=>Ap.mk (λq=>?_) λq=>?_];(·rw[Ts.of<|Dt.no (A_ (IT _) (AS λw=>?_:GW T (x::y::z::R)=C)) Y];have w:F3 (-1) x=I:=w.2.1;have q:(!F3 (-1) x)=I:=q;rw[w]at q;rw[nomatch q]);·rw[Ts.cut 1 (σ:=BF) (λZ=>[.p<|.tup<|il [code],.c 0,.c 1,.p<|.int code,.u,.c 2]) (λZ=>[BI R,Ac a,.list T<|il [y,z]]) (λZ=>Bg) (λZ=>Y) (Ts.of ?_) λZ Z=>?_,B0.mk Yv<|B0.mk tX ⟨(),[],[],B9,Y,A_ (λl=>[AK.list T l,Ac a,.list T<|il [y,z]]) ab_⟩,Ts.cut 1 (σ:=BF) (λZ=>[.p<|.tup<|il [code],.c 0,.c 1,.p<|.int code,.u,.c 2,.u,.c 3]) (λZ=>[BI R,Ac a,.list T<|il [y,z],.list T<|il<|Ji y z]) (λZ=>Bg) (λZ=>Y) (Ts.of ?_) λZ Z=>?_];(·rw[Cl.mk (σ:=BF) (λZ=>[BI R,Ac a,.list T<|il [y,z]]) (λp e Z=>∃b c,p=il b/\e=il c/\c++(b.filter λx=> !decide (x=0))=Ji y z) (.Kd 2 (il [y,z]) (B6 Y:3<=2000000) λZ=>Y) (λZ=>Y) Y ⟨(),_,[],(DI ([y,z]) ([]) Y Y Y),Y,Y⟩ (λv p e Z q=>?_) λe Z q=>?_];(·(rw[By q λb c e1 BL f=>?_];clear q;rw[U BL ?_]);induction b using An with|nil=>rw[nomatch e1]|cons x b=>obtain⟨rfl,rfl⟩:=Cs e1;rw[List.filter_cons]at f;rw[Ap.nd (λh=>?_) λh=>?_];(·rw[Dk h]at f;rw[⟨(),_,[],(DI b (c++[x]) Y ((ED (b:=[x])))<|by rw[U (Bc ..) f]),Y,Y⟩]);·rw[DD h]at f;rw[⟨(),_,[],(DI b c Y Y f),Y,Y⟩]);·(rw[By q λb c e1 Bf f=>?_];clear q;rw[U Bf ?_]);induction b using An with|cons=>rw[nomatch e1]|nil=>rw[U ((Ba c).symm.trans f:c=Ji y z)<|Al.mk (sz (m:=2) (by rw[U (BH ..)<|k8 _ _]) Y) ⟨(),[],[],B9,Y,Y⟩]);generalize r:Ji y z=F;rw[Ts.cut 1 (σ:=AK) (λZ=>[.p<|.tup<|il [code],.c 0,.c 1,.p<|.int code,.u,.c 2,.u,.c 3]) (λo=>[BI<|F.headD 0::R,Ac a,.list T<|il [y,z],.list T<|il F,o]) (λZ=>Bg) (λZ=>Y) (Ts.of ?_) λo Z=>Ts.of ?_];(·(have s:(il R.reverse).length<=1000000:=by rw[U (BH ..)<|U Bu<|L (BJ _ 3) j]);rw[Sx (a:=F) (b:=[]) Y Y<|Ap.nd (λh=>?_) λh=>?_];(·induction F using An with|nil=>rw[Aj Y h]|cons w F=>rw[Al.mk (blt (m:=1000000) s Y) ⟨.list T [],[],[],B9,Y,A_ (λl=>[AK.list T l,Ac a,.list T<|il [y,z],.list T<|il<|w::F,.list T []]) iL⟩]);rw[U h<|Al.mk (blt (m:=1000000) s Y) ⟨.list T [],[],[],B9,Y,A_ (λl=>[AK.list T l,Ac a,.list T<|il [y,z],.list T [],.list T []]) iL⟩]);·have LR:=t4 (R:=R) (by revert q;show(!F3 (-1) x)=T->_;cases F3 (-1) x<;>simp:F3 (-1) x=I) (i y<|.tail _<|.head _) (i z<|.tail _<|.tail _<|.head _);rw[VT,r]at LR;(have k:F.length<=2:=by rw[Ag r<|k8 _ _]);rw[Ap.nd (λq=>?_) λq=>?_];(·have q:¬(-16:J)∈[y,z]:=q;rw[Dk q]at LR;have t:(il F).take 1=il (F.take 1):=Rb.symm;have u:Bm ((il F).take 1).length Bj=I:=sz (m:=2) (by rw[U Mo<|U (BH ..)<|L (aB _ _) k]) Y;(have mt:(Ct 2<|(il F).take 1).flatten=il (F.take 1++F.take 1):=by rw[U t<|Ag ED ?_];show il _++(il _++[])=_;rw[U (Ba ..) Y]);rw[Fg ⟨by decide,by decide⟩<|Al.mk u<|Fg ⟨by decide,by decide⟩<|Al.mk u<|Al.mk (G2<|by rw[U Mo<|Pw _ _])<|Fg ⟨by decide,by decide⟩<|Al.mk (sz (m:=4) ?_ Y)<|rM [5,6,8] (l:=F) [[],F.take 1,F.take 1++F.take 1] Y ?_<|Ap.mk (λm=>?_) λm=>?_,L (C8<|A_ RU mt)<|U (BH ..)<|L (DY (n:=2) (m:=2) (k:=4) (L (Qk _ _) k) (L (Qk _ _) k) Y)<|by decide];(·show V [AK.list T [],.list T<|(il F).take 1,.list T (Ct 2<|(il F).take 1).flatten]=_;rw[U mt<|U t ?_];rfl);(·rw[m]at LR;rw[Dt.yes (y:=(T,F.headD 0::R)) (A_ (IT _) LR) (λZ=>Y) Y]);·rw[m]at LR;rw[Dt.no (A_ (IT _) LR) Y]);·have q:(-16:J)∈[y,z]:=q;rw[DD q]at LR;rw[Dt.no (A_ (IT _) LR) Y]
theorem wX:∀{n d c S r a w}(h:Rw c r a w)(z:c.length<=9)(e:c[0]?=V B'.res)(A:∀y∈c,y.length<=2)(s:Eg S)(b:S.length<=1000000),FG n d c S r a:=by intros n d c S r a w _ h z e A s b;have g:=L z ((dc Y):9<=100);cases h with|Mv v=>rw[xq b]|put2 v=>rw[oG b]|PH=>rw[yn b]|drop=>rw[xt b]|get h=>rw[vp h b]|set h=>rw[sD h b]|MB h=>rw[xd h b]|Mf=>rw[sP b]|sel=>rw[aaz Y s b]|NH h=>rw[ab2 b]|num h E=>rw[xJ h b]|call o k j f=>rw[mr o k j b]|N8=>rw[pn b]|br h u F=>rw[Yg .br ⟨B2 1,Be 1 19⟩ (A _<|E7 h) b g λx m=>(DB _ (B3.mp m) u h)]|NF h=>rw[ab5 h]|Ib h u f=>rw[Yg .Ib ⟨B2 1,Be 1 19⟩ f b g λx m=>(DB _ (B3.mp m) u h)]| @HP C l y h f D=>rw[Yg (ns:=C.map (λ(i:G)=>(i:J))++[(l:J)]) .HP ⟨?_,?_⟩ f b g λx m=>(Cj.mp m).elim (λm=>?_) λm=>(Aa l (B3.mp m)<|h l<|.head _),U Aq<|Be _ _,U Aq<|U (CO ..)<|L (Ce D)<|(dc Y),AY (Ea.mp m) λi B p=>Ag p ?_,(Aa i Y<|h i<|.tail _ B)]|ret=>rw[vN e]|Kk=>rw[nJ]|tail o k j f=>rw[lY o k j e b (λZ=>Y) λq=>Aj f q]|NN o k j f=>rw[lY o k j e b (λq=>Aj q f) λZ=>Y]
end
end
section
set_option maxHeartbeats 1000000
abbrev Fx:=G->AO AK
class inductive Ck(S:Fx):Ns->O MV->Prop|nil:Ck S .nil []|one{r:O J}{a:Ak}{w:G}{t:Ns}{l:O MV}(h:Ck S t l):Ck S (.one r a w t)<|.tup [.tup<|il r,.none,.none]::l|Bz{c mk:J}{p r:O J}{a t:Ns}{i:G}{la l:O MV}(no:Dn a=C)(e:S i=V (.list T la))(ha:Ck S a la)(h:Ck S t l):Ck S (.Bz c mk p r a t)<|.tup [.tup<|il [c,mk],.ref i,.none]::l|Xk{c mk:J}{p r:O J}{a b t:Ns}{i j:G}{la lb l:O MV}(so:Dn a=V b)(e:S i=V (.list T la))(ha:Ck S (CG a) la)(e2:S j=V (.list T lb))(hb:Ck S b lb)(h:Ck S t l):Ck S (.Bz c mk p r a t)<|.tup [.tup<|il [c,mk],.ref i,.ref j]::l
theorem G5(h:Bm n Bj=I):n<=Bj:=O2 h
section
variable{N:AE}{rz:AL}{d:AE}{E:C_->MH->Prop}{ρ:Loc}{H:MH}
theorem Ed.Wd{a b i l}(f:Ev N rz d ρ H a<|.int i)(c:Ev N rz d ρ H b<|.tup<|il l):Ed N rz d ρ H (.cmp a [.MT ()] [b])<|i∉l:= .of<|by rw[U decide_not<|Ev.cmp f c<|map_eq MR Y]
theorem LX(h:H[r]?=V (.list fz<|BD B))(c:B=pre++x::post)(b:i=(pre.length:J)):EA H (.ref r) (.int i)= .ok (.tup<|il x) H:=by subst c b;rw[KS<|bind_eq h<|bind_eq (LD (j:=pre.length)<|by unfold BD;rw[U (CO ..)<|U Aq<|Mu<|FA _]) ?_];unfold BD;rw[U (FX)<|U (DO<|B2 _)<|U (GI ..) ?_];rfl
theorem code_at:EA H (.tup<|il<|c::a) (.int 0)= .ok (.int c) H:=KS<|bind_eq (LD (j:=0)<|FA _) Y
def iH(t:Ns)(n:G)(b:MH):MV->MH->Prop:=λv c=>∃a l,v= .tup [.ref a,.int n]/\(b.length<=a/\c[a]?=V (.list T l))/\(∀S:Fx,(∀(i:G)(o:AK),b.length<=i->c[i]?=V o->S i=V o)->Ck S t l)/\∀(i:G)(o:AK),b[i]?=V o->c[i]?=V o
inductive TI(r:G)(B:O<|O J)(t:Ns)(n:G)(H0:MH)(m:G)(ρ:Loc)(H:MH):Prop
 |mk(st:∃pre t' e post dn L,B=pre++(flat t'++[e]::post)/\ρ 1=V (.int (pre.length:J))/\pre.length+(flat t').length=n/\(dep t'<=dep t/\(flat t').length<=(flat t).length)/\(e=5\/e=11)/\H[H0.length]?=V (.list T dn)/\m=(flat t').length/\CL C L t'/\dn.length+(flat t').length<=1000000/\∀S:Fx,(∀(i:G)(o:AK),H0.length<i->H[i]?=V o->S i=V o)->∀l',Ck S t' l'->Ck S t (dn++l'))(r0:ρ 0=V (.ref r))(v2:ρ 2=V (.ref H0.length))(keep:∀(i:G)(o:AK),H0[i]?=V o->H[i]?=V o)
theorem Ys(p:ρ 2=V (.ref v))(o:ρ 3=V g)(m:ρ 4=V f)(k:ρ 5=V c)(r:ρ 1=V (.int i))(j:H[v]?=V (.list T b))(a:b.length<Bj)(q:h .next (upd ρ 1<|.int<|i+1)<|H.set v<|.list T<|b++[.tup [g,f,c]]):Wc N rz d h E [.expr<|.BA (.loc 2) 0 [.tup [.loc 3,.loc 4,.loc 5]],.asg 1<|.bin .add (.loc 1)<|.con<|.int 1] ρ H:=Wc.expr<|Ee.BA (Ev.loc p) (Hu j Y Y) (Ai.one<|Ai.tup (Ai.cons (Ev.loc o)<|Ai.cons (Ev.loc m)<|Ai.one<|Ev.loc k)<|G5 Y)<|Nz j a<|Wc.Iv (Ev.add (Ev.loc r) Ev.con)<|Wc.nil q
theorem Qr:(l.length:J)+1=((l++[x]).length:J):=by rw[U Aq ?_];rfl
theorem TI.next:∀{r n m B t g b}{j D w:MH}{ρ c mid f A}{v:O MV}{a l i}(V:B=c++(flat g++[A]::f))(Y:c.length+(flat g).length=n)(I:dep g<=dep t/\(flat g).length<=(flat t).length)(y:A=5\/A=11)(Q:m=(flat g).length)(hs:v.length+(flat g).length<=1000000)(U:∀S:Fx,(∀(i:G)(o:AK),j.length<i->D[i]?=AA o->S i=AA o)->∀l',Ck S g l'->Ck S t (v++l'))(P:w[j.length]?=AA (.list T v))(q:∀(i:G)(o:AK),D[i]?=AA o->w[i]?=AA o)(k:∀(i:G)(o:AK),j[i]?=AA o->D[i]?=AA o)(e:flat g=mid++flat b)(p:0<mid.length)(z:dep b<=dep g)(M:CL C l b)(s:ρ 0=AA (.ref r))(K:ρ 2=AA (.ref j.length))(X:ρ 1=AA (.int i))(u:i=((c++mid).length:J))(x:∀S:Fx,(∀(i:G)(o:AK),j.length<i->w[i]?=AA o->S i=AA o)->∀l',Ck S b l'->Ck S g (a::l')),∃zqz,zqz<m/\TI r B t n j zqz ρ (w.set j.length<|.list T<|v++[a]):=by
 intros r n m B t g b j D w ρ c mid f A v a l i _ V Y I y Q hs U P q k e p z M s K X u x;have R:(flat g).length=mid.length+(flat b).length:=by rw[A9 e<|A9 Aq A7]
 rw[⟨(flat b).length,Q▸R▸dk p,⟨c++mid,b,A,f,v++[a],l,?_,X.trans<|by rw[A9 u A7],?_,⟨L z I.1,L (R▸Be _ _) I.2⟩,y,KL P,A7,M,?_,λS Z l' F=>?_⟩,s,K,λi o h=>?_⟩];·rw[A9 V<|A9 e ?_];simp only [Bc]
 ·rw[A9 Aq ?_];lia
 ·rw[A9 Aq<|(?_:v.length+1+_<=_)];lia
 ·rw[A9 (Bc ..) ?_];have W:∀(i:G)(o:AK),j.length<i->w[i]?=AA o->S i=AA o:=λi o u h=>Z i o u<|Bl h<|DZ u;rw[U S (λi o u h=>W i o u<|q i o h) _<|x S W l' F]
 rw[Bl (q i o<|k i o h)<|JL<|DH h]
theorem ay:∀{N rz}(hN:2000000<=N),∀k,∀(t:Ns),(flat t).length<=k->∀{d}{E}{f}{r}{fz}{B pre post}{e}{H},CL C f t->H[r]?=V (.list fz<|BD B)->B=pre++(flat t++[e]::post)->(e=5\/e=11)->B.length<=100000->(BR tb.P FF N (d+dep t+1) rz 49 [.ref r,.int (pre.length:J)] H).wp (iH t (pre.length+(flat t).length) H) E:=by intros N rz _ hN;intros k;induction k using Nat.strongRecOn with|ind k M=>intros _ k _ M;intros _ k _ M;intros _ k _ M;intros t _ hk d E f r fz B pre post e H ok T hB he l;intros _ d E f r fz B pre post e H _ ok T hB he l;intros _ d E f r fz B pre post e H _ ok T hB he l;intros _ d E f r fz B pre post e H _ ok T hB he l;(have hfl:(flat t).length<=100000:=by replace l:=hB▸l;simp only [Aq]at l;lia);rw[Cg Y Y<|Wc.asg<|Ee.list Ai.nil (CJ _) ?_,Wc.JY (TI r B t (pre.length+(flat t).length) H) (λm ρ H' I=>?_) (n:=(flat t).length) (by lia) ⟨⟨pre,t,e,post,[],f,hB,Y,Y,⟨B2 _,B2 _⟩,he,FQ,Y,ok,by rw[U LI ?_];lia,λS Z l' h=>h⟩,Y,Y,λi o h=>DV h⟩];intros _ m ρ H' _ I;obtain⟨I,n,K,keep⟩:=I;injection I with L4 t' W HY dn L' _ FU u hn F Lu s hm wH hs hD;have JM:=keep _ _ T;(have fin:t'= .nil->Wc N rz (d+dep t) (Qc<|iH t (pre.length+(flat t).length) H) E [.ret<|.tup [.loc 2,.loc 1]] ρ H':=λq=>by subst q;rw[Wc.FN (Ai.tup (Ai.cons (Ev.loc K)<|Ai.one<|Ev.loc u)<|G5 Y)<|Fq H.length dn (by rw[Ag hn ?_];rfl) ⟨B2 _,s⟩ (λS A=>?_) keep];have:=hD S (λi o hi=>A i o<|KN hi) [] .nil;replace this:=(Ba ..)▸this;rw[this]);generalize kG:d+dep t=D at*;(have hlr:∀{x y:O (O J)},B=x++y->y.length<=100000:=λ{x y}h=>by(replace l:=h▸l;replace l:=Aq▸l);lia);cases wH with|nil=>rw[Ee.dec (Ed.Wd (Ev.sub (Ev.sub (Ev.loc n) (Ev.loc u)<|LX JM FU Y) Ev.con code_at)<|Ai.tup (vs:=il [5,11]) Y<|G5 Y) (λq=>?_) λZ=>fin Y,Aj (by rcases Lu with rfl|rfl<;>decide) q]| @row _ _ row a w Jt hw Lw=>(rw[Em hw.qt λc rs BL q1 q2 q3=>?_];clear hw fin;subst BL);rw[Ee.dec (Ed.Wd (Ev.sub (Ev.sub (Ev.loc n) (Ev.loc u)<|LX JM FU Y) Ev.con code_at)<|Ai.tup (vs:=il [5,11]) Y<|G5 Y) (λZ=>?_) λq=>?_,Wc.Uu (Ai.tup (Ai.cons (Ev.sub (Ev.loc n) (Ev.loc u)<|LX JM FU Y)<|Ai.cons Ev.con<|Ai.one Ev.con)<|G5 Y) Y<|Wc.CC (Ed.c (Ev.sub (Ev.loc Y) Ev.con code_at) (Ai.tup (vs:=il [2,3,4]) Y<|G5 Y) MR) (λq=>Aj (NA.mp q) q1) λZ=>?_,Ys K Y Y Y u s (CH (m:=1000000) (by lia)<|B6 Y) ?_,TI.next (mid:=[c::rs]) FU hn F Lu hm hs hD s (λZ Z h=>h) keep Y (FA _) (B2 _) Lw n K Y Qr λS Z l' h=> .one h];·simp only [CZ,Ia,SJ,J5]at q;rw[Aj q λz=>z.elim q2 q3]| @Bz _ _ c mk p r' a Jt hc H7 hp Y9 ai Lw=>have P:=ai.parts;clear fin;obtain⟨d',rfl⟩:∃d',D=d'+dep (CG a)+1:=⟨_,q7 kG F.1 (Q8 _ _) P.2⟩;(have c5:c∉([5,11]:O J)/\c∈([2,3,4]:O J):=by clear ai;rcases hc with rfl|rfl|rfl<;>decide);rw[Ee.dec (Ed.Wd (Ev.sub (Ev.sub (Ev.loc n) (Ev.loc u)<|LX JM FU Y) Ev.con code_at)<|Ai.tup (vs:=il [5,11]) Y<|G5 Y) (λZ=>?_) λq=>Aj c5.1 q,Wc.Uu (Ai.tup (Ai.cons (Ev.sub (Ev.loc n) (Ev.loc u)<|LX JM FU Y)<|Ai.cons Ev.con<|Ai.one Ev.con)<|G5 Y) Y<|Wc.CC (Ed.c (Ev.sub (Ev.loc Y) Ev.con code_at) (Ai.tup (vs:=il [2,3,4]) Y<|G5 Y) MR) (λZ=>?_) λq=>Aj c5.2 q];have fl:=P.4;have fb:flat (Ns.Bz c mk p r' a Jt)=[c,mk]::(flat a++[11]::flat Jt):=Y;have g:(flat<|Ns.Bz c mk p r' a Jt).length=(flat a++[11]::flat Jt).length+1:=Y;cases Q:Dn a with|none=>rw[(by rw[(Q▸fl).trans<|Ba _]:flat a=flat (CG a))]at fb g;simp only [Aq,IB]at g;rw[Wc.FP<|Ee.EK (Ai.cons (Ev.loc n)<|Ai.one<|Ev.add (Ev.loc u) Ev.con)<|R.wp_mono (Qr (x:=[c,mk])▸M (flat<|CG a).length (vr hk F.2 g) (CG a) (B2 _) P.1 JM (by rw[U FU<|U fb ?_];simp:B=(L4++[[c,mk]])++(flat (CG a)++[11]::(flat Jt++[W]::HY))) (.inr Y) l) (λv H2 q=>?_) λZ Z h=>h];(rw[Em q λi la Bf E9 ZM JX=>?_];clear q;rw[U Bf ?_];obtain⟨Sp,Ub⟩:=E9);rw[(Aa _ Y<|Wc.CC (Ed.eq (Ev.sub (Ev.sub (Ev.loc n) (Ev.loc Y)<|LX (JX _ _ JM) (by rw[U FU<|U fb ?_];simp:B=(L4++[c,mk]::flat (CG a))++[11]::(flat Jt++[W]::HY))<|by simp;lia) Ev.con code_at) Ev.con) (λq=>Aj q<|by decide) λZ=>?_),Ys K Y Y Y Y (JX _ _ s) (CH (m:=1000000) (by lia)<|B6 Y) ?_,TI.next (mid:=[c,mk]::(flat (CG a)++[[11]])) FU hn F Lu hm hs hD (JX _ _ s) JX keep (by rw[U fb ?_];simp) (FA _) (MU _ _) Lw n K Y (by simp;lia) λS A l' h=> .Bz Q (A i _ (CQ (DH s) Sp) Ub) (by have:=ZM S λj o hj X=>A j o (CQ (DH s) hj) X;rw[((P.5 Q)▸this)]) h]|some b=>replace fl:=Q▸fl;rw[Em (P.6 b Q) λZ Z Z Vl rh Z=>?_];obtain⟨d2,e2⟩:∃d2,d'+dep (CG a)+1=d2+dep b+1:=⟨_,mZ F.1 kG rh<|Q8 _ _⟩;rw[(fl:flat a=flat (CG a)++[5]::flat b)]at fb g;(have tU:B=(L4++[c,mk]::flat (CG a))++[5]::(flat b++[11]::(flat Jt++[W]::HY)):=by rw[U FU<|U fb ?_];simp);(have qw:B=(L4++[c,mk]::flat (CG a)++[[5]])++(flat b++[11]::(flat Jt++[W]::HY)):=by rw[U FU<|U fb ?_];simp);simp only [Aq,IB]at g;rw[Wc.FP<|Ee.EK (Ai.cons (Ev.loc n)<|Ai.one<|Ev.add (Ev.loc u) Ev.con)<|R.wp_mono (Qr (x:=[c,mk])▸M (flat<|CG a).length (uV hk F.2 g) (CG a) (B2 _) P.1 JM (by rw[U FU<|U fb ?_];simp:B=(L4++[[c,mk]])++(flat (CG a)++[5]::(flat b++[11]::(flat Jt++[W]::HY)))) (.inl Y) l) (λv H2 q=>?_) λZ Z h=>h];(rw[Em q λi la Fy Ga ZM JX=>?_];clear q;rw[U Fy ?_];obtain⟨Sp,Ub⟩:=Ga);rw[(Aa _ Y<|Wc.CC (Ed.eq (Ev.sub (Ev.sub (Ev.loc n) (Ev.loc Y)<|LX (JX _ _ JM) tU (by simp;lia:(((L4++[[c,mk]]).length+(flat<|CG a).length:G):J)=((L4++[c,mk]::flat (CG a)).length:J))) Ev.con code_at) Ev.con) (λZ=>?_) λq=>Aj Y q),Wc.FP<|Ee.EK (Ai.cons (Ev.loc n)<|Ai.one<|Ev.add (Ev.loc Y) Ev.con)<|R.wp_mono ((by simp;lia:(((L4++[[c,mk]]).length+(flat<|CG a).length:G):J)+1=((L4++[c,mk]::flat (CG a)++[[5]]).length:J))▸e2▸M (flat b).length (abU hk F.2 g) b (B2 _) Vl (JX _ _ JM) qw (.inr Y) l) (λv H3 q=>?_) λZ Z h=>h];(rw[Em q λj lb MP Kr aaE Ra=>?_];clear q;rw[U MP ?_];obtain⟨aaA,sU⟩:=Kr);rw[(Aa _ Y<|?_),Ys K Y Y Y Y (Ra _ _<|JX _ _ s) (CH (m:=1000000) (by lia)<|B6 Y) ?_];have Mp:H'.length<=H2.length:=KN (CH Sp<|DH Ub);rw[TI.next (mid:=[c,mk]::(flat (CG a)++[5]::(flat b++[[11]]))) FU hn F Lu hm hs hD (Ra _ _<|JX _ _ s) (λx o h=>Ra _ _<|JX _ _ h) keep (by rw[U fb ?_];simp) (FA _) (MU _ _) Lw n K Y (by simp;lia) λS A l' h=> .Xk Q (A i _ (CQ (DH s) Sp)<|Ra _ _ Ub) (ZM S λx o hx X=>A x o (CQ (DH s) hx)<|Ra _ _ X) (A j _ (CQ (DH s)<|L Mp aaA) sU) (aaE S λx o hx X=>A x o (CQ (DH s)<|L Mp hx) X) h]
end
end
section
set_option maxHeartbeats 1000000
def Hi(A:O Ak)(j:G):AL:=A[j]?.elim T λa=> @Ak.casesOn (λZ=>AL) a (λZ Z=>I) I (λZ=>I) T λZ Z=>I
section
variable{A:AB Ak}{j:AE}
def EX(A:O Ak)(a:O G):Prop:=a.Nodup/\∀j∈a,j<A.length
def En(A:O Ak)(a:O G):O<|MV×MV:=a.map λ(j:G)=>(MV.int<|(j:J)+1,MV.bool<|Hi A j)
def memC(A:O Ak)(a:O G):AK:= .dict T<|En A a
theorem kR:∀{e:O G},e.Nodup->(∀j∈e,j<n)->e.length<=n:=by induction n with|zero=>intro e d h;(induction e using An with|nil=>rw[B2 _]|cons a e=>rw[Aj (h a<|.head _)<|Sv _])|succ n c=>intro e b h;rw[Ao (λq:n∈e=>?_) λq=>?_];(·have:=c (b.erase n) λj m=>j7 (JJ<|h j<|List.mem_of_mem_erase m)<|(b.mem_erase_iff.mp m).1;rw[Nat.le_add_of_sub_le<|(List.length_erase_of_mem q)▸this]);rw[FI<|c b λj m=>j7 (JJ<|h j m) λz=>q<|z▸m]
theorem YX:Dw (.int a) (.int a)=I:=I' a
theorem W2(h:k≠j):¬Dw (.int<|(k:J)+1) (.int<|(j:J)+1)=I:=λz=>h<|Int.ofNat.inj<|(Int.add_left_inj 1).mp<|Bn.mp (z:((k:J)+1==(j:J)+1)=I)
theorem Yl:Df 1 (En A a)=I:=by induction a using An<;>rfl
theorem Yq:Cd (.int<|(j:J)+1) (En A a)=if j∈a then V (.bool<|Hi A j)else C:=by induction a with|nil=>rfl|cons k a b=>rw[((Ao (λq:k=j=>?_) λq=>?_):(if Dw (.int<|(k:J)+1) (.int<|(j:J)+1)=I then _ else Cd _ (En A a))=_),Ag q<|U (AM YX)<|U (AM<|.head _) Y,U (AS<|W2 q)<|U b<|Ao (λz:j∈a=>?_) λz=>?_,U (AM z)<|U (AM<|.tail _ z) Y,U (AS z)<|U (AS λm=>(CZ.mp m).elim (λe=>q e.symm) z) Y]
theorem mem_set(h:j∉a):EH (.int<|(j:J)+1) v (En A a++es)=En A a++EH (.int<|(j:J)+1) v es:=by induction a with|nil=>rfl|cons k a b=>rw[((U (AS<|W2 λq:k=j=>h<|q▸.head _) ?_):(if Dw (.int<|(k:J)+1) (.int<|(j:J)+1)=I then _ else _)=_),A_ _<|b λm=>h<|.tail _ m]
theorem pT:EH (.int<|(j:J)+1) v [(.int<|(j:J)+1,u)]=[(.int<|(j:J)+1,v)]:=by rw[((AM YX):(if Dw _ _=I then _ else _)=_)]
theorem tC:En A a++[(.int<|(j:J)+1,.bool<|Hi A j)]=En A (a++[j]):=by unfold En;rw[U Ci ?_];rfl
theorem qq(h:EX A g)(c:j<A.length)(n:j∉g):EX A<|g++[j]:=⟨Kh.mpr<|BX h.1 (DF.mpr ⟨Ia,FC⟩) λa f b d=>by rw[U (B3.mp d) λq=>n<|q▸f],λk m=>(Cj.mp m).elim (h.2 k) λm=>B3.mp m▸c⟩
end
end
section
set_option maxHeartbeats 1000000
section
theorem bU(e:Br T S (.Bv a g)=V y):∃n,y=(T,g++S.drop n):=by rw[AY (ML.mp e) λc q b=>Ag b ?_,⟨_,A_ (λz=>(T,g++z))<|FY q⟩]
theorem gJ(e:Br T S (.jmp c)=V y):y=(I,[]):=by rw[AY (ML.mp e) λd q b=>Ag b ?_];rfl
theorem ou:∀{L S a w y}{r}(h:Rw L r a w)(e:Br T S a=V y),decide (r.headD 0∈([0,12,14,15,18]:O J))=y.1:=by
 intros L S a w y r _ h e;have f:∀{k g},a= .Bv k g->y.1=T:=λz=>by subst z;(rw[xE (bU e) λn c=>?_];subst c);rfl
 have j:∀{m},a= .jmp m->y.1=I:=λz=>by subst z;rw[U (gJ e) Y]
 induction h using Rw.casesOn with| @num d h=>rw[(Dk<|dS h.1).trans (f Y).symm]|sel=>rw[AY (ML.mp e) λZ Z b=>Ag b ?_];rfl|br|ret|Kk|HP|tail=>rw[(j Y).symm]|Mf|N8|NF|NN=>rw[nomatch e]|_=>rw[(f Y).symm]
theorem ot(h:Rw f (c::g) a w)(e:Br T S a=V y):decide (c∈([0,12,14,15,18]:O J))=y.1:=ou h e
theorem fp(h:x= -1\/x= -2):x∈([-1,-2,-16,0]:O J):=by rcases h with rfl|rfl<;>decide
theorem Xm(c:Eg A)(b:Eg B):Eg<|A++B:=λx m=>(Cj.mp m).elim (c x)<|b x
theorem ZQ(h:Eg S):Eg<|S.drop n:=λx m=>h x<|ak m
theorem QN{p:O J}(h:∀x∈p,x= -1\/x= -2):Eg p.reverse:=λx m=>fp<|h x<|Yk.mp m
theorem abg:∀{b},∀x∈(Eh b).2,x= -1\/x= -2:=by
 intros b;have g:JR b= -1\/JR b= -2:=by unfold JR Gr;rw[Ao (λd:106<=b=>?_) λd=>?_,U (AM d)<|Ao (λc:b<80\/106<=b/\b<121=>?_) λc=>?_,.inl<|AM c,.inr<|AS c,.inl<|AS d]
 unfold Eh;rw[Ao (λd:b∈([167,172,173]:O J)=>?_) λd=>?_,U (AM d)<|Ao (λc:b=167=>?_) λc=>?_,U (AM c) λx m=> .inl<|B3.mp m,U (AS c) λx m=> .inr<|B3.mp m,U (AS d) λx m=>B3.mp m▸g]
theorem aat:∀{L S r a w y}(h:Rw L r a w)(p:∀N∈L,D8 N)(b:Eg S)(e:Br T S a=V y),Eg y.2:=by
 intros L S r a w y _ h p b e;have f:∀{u g},a= .Bv u g->Eg g->Eg y.2:=λz D=>by subst z;(rw[xE (bU e) λn d=>?_];subst d);rw[Xm D<|ZQ b]
 have j:∀{B},a= .jmp B->Eg y.2:=λz=>by subst z;rw[U (gJ e) λZ m=>nomatch m]
 have o:∀{i:G}{k:J},B'.locs[i]?=V k->Eg [k]:=λ{i k}h=>by(have:∀k∈B'.locs,k∈([-1,-2,-16,0]:O J):=by decide);rw[λx m=>B3.mp m▸this k (E7 h)]
 have E:∀{A:O J},A.all (λx=>decide<|x∈([-1,-2,-16,0]:O J))=I->Eg A:=λh x m=>DJ<|Eo.mp h x m;induction h using Rw.casesOn with|Mv|put2|PH|drop|set=>rw[f Y<|E Y]|get h=>rw[f Y<|o h]|MB h=>rw[f Y<|o h]|Mf|N8|NF|NN=>rw[nomatch e]|sel=>rw[AY (ML.mp e) λK q c=>Ag c ?_,IU q λZ q=>?_];subst q;(have g:∀n,Eg [S.getD n 0]:=λn x m=>by rw[U (B3.mp m)<|U (IP) ?_];cases q:S[n]? with|none=>decide|some v=>rw[b _<|E7 q]);rw[Xm (A:=[_]) ?_<|ZQ b];by_cases z:S.getD 1 0=0;rw[U (AM z)<|g 2,U (AS z)<|g 1]|NH h=>rw[f Y λx m=>B3.mp m▸fp h]|num h l=>rw[f Y<|QN abg]| @call t i k H s C F=>rw[f Y<|QN ?_];(have:∀k∈Hc,∀x∈k.2,x= -1\/x= -2:=by decide);rw[this k<|E7 C]|Ib h=>rw[f Y<|QN (p _<|E7 h).2]|br|ret|Kk|HP|tail=>rw[j Y]
end
end
section
set_option maxHeartbeats 1000000
inductive Gu(S:Fx)(a:Ns)(x6 x7:MV):O (G×Ns)->Prop
 |one{i:G}(h6:x6= .ref i)(h7:x7= .none)(no:Dn a=C):Gu S a x6 x7 [(i,a)]
 |two{i j:G}{b:Ns}(h6:x6= .ref i)(h7:x7= .ref j)(so:Dn a=V b):Gu S a x6 x7 [(i,CG a),(j,b)]
def NdI(S:Fx)(b:O MV)(t:Ns):Prop:= @Ns.casesOn (λZ=>Prop) t (b=[]) (λr Z Z t=>∃l,b= .tup [.tup<|il r,.none,.none]::l/\Ck S t l) λc mk Z Z a t=>∃d e l f,b= .tup [.tup<|il [c,mk],d,e]::l/\Gu S a d e f/\(∀q∈f,∃g,S q.1=V (.list T g)/\Ck S q.2 g)/\Ck S t l
theorem Ck.inv:∀{S}{t}{a}(h:Ck S t a),NdI S a t:=by intros S t a _ h;cases h with|nil=>rw[Y]|one h=>rw[(Aa _ Y h)]|Bz d e b h=>rw[(eJ _ _ _ _ Y (.one Y Y d) (λq m=>B3.mp m▸(Aa _ e b)) h)]|Xk c e b k f h=>rw[(eJ _ _ _ _ Y (.two Y Y c) ((λj g q m=>(CZ.mp m).elim (λe=>e▸j) λm=>B3.mp m▸g:∀{P:G×Ns->Prop}{x y:G×Ns},P x->P y->∀q∈[x,y],P q) (Aa _ e b)<|Aa _ k f) h)]
inductive nI(M:AO<|O J×O J)(L:O<|O J)(c mk:J)(p r:O J)(a t:Ns):Prop
 |mk(hc:c=2\/c=3\/c=4)(hm:blockKind B' mk=V (p,r))(hp:D8 p)(hr:D8 r)(ha:CL (if c=4 then V (p,r)else C) (L++[if c=3 then p else r]) a)(ht:CL M L t)
theorem CL.bk:∀{M}{L}{c mk}{p r}{a t}(h:CL M L<|.Bz c mk p r a t),nI M L c mk p r a t:=by intros M L c mk p r a t _ h;cases h with|Bz j g f d k b=>rw[⟨j,g,f,d,k,b⟩]
theorem CL.on:∀{L}{r}{a}{w}{t}(h:CL C L<|.one r a w t),Rw L r a w/\CL C L t:=by intros L r a w t _ h;cases h with|row h b=>rw[⟨h,b⟩]
theorem Gu.part:∀{S}{M}{c}{a}{k l}{f}(h:Gu S a k l f)(n:CL M c a),∀q∈f,dep q.2<=dep a/\CL C c q.2/\(flat q.2).length<=(flat a).length:=by intros S M c a k l f _ h n;have P:=n.parts;have two:∀{P:G×Ns->Prop}{x y:G×Ns},P x->P y->∀q∈[x,y],P q:=λp r q m=>(CZ.mp m).elim (λe=>e▸p) λm=>B3.mp m▸r;cases h with|one s t no=>rw[λq m=>B3.mp m▸(BX (B2 _) (P.5 no▸P.1)<|B2 _)]| @two i j b s t o=>rw[Em (P.6 _ o) λZ Z Z g u Z=>?_];have d:=P.4;rw[o]at d;(have d:(flat a).length=(flat<|CG a).length+((flat b).length+1):=by rw[U d<|U Aq ?_];rfl);rw[two (BX P.2 P.1<|d▸BJ _ _)<|BX u g<|d▸L (E2 _) (Be _ _)]
theorem Cv.mw(m:FF f=V b)(j:b.params=Pm 0 i.length)(k:Bm i.length 20=I)(h:∀K:Ks,(∀{a:AV}{e:Env}{l:O AK},Dr c.length g l a->K (.ret a) e l)->Ts n d b.body i c K):Cv n (d+1) f i c g:=Cv.FO m j k<|h _ λh=>h
end
section
set_option maxHeartbeats 1000000
def eN(i j:J)(c mk:J)(a:G)(b:MV):Env:=[.p<|.ref i.toNat,.p<|.int j,.c 0,.c 1,.c 2,.p<|.tup<|il [c,mk],.p<|.ref a,.p b]
def eB(i j:J)(c mk:J)(a:G)(b:MV)(p r:O J):Env:=eN i j c mk a b++[.p<|.tup<|il p,.p<|.tup<|il r]
def e5(i j:J):Env:=[.p<|.ref i.toNat,.p<|.int j,.c 0,.c 1,.c 2]
inductive KB(K:Ks)(A:O Ak)(L:O<|O J)(S:O J)(c:J)(p r:O J)(i:J)(j:G):Prop
 |mk(no:∀{env:Env}{o:AK}{ks:O G}{ex:O AK},(Au T (Cb c p) S=C\/Hi A j=T)->EX A ks->K (.ret<|.p .none) env (o::Ac L::memC A ks::ex))(nx:∀{env:Env}{S1:O J}{ks:O G}{ex:O AK},Au T (Cb c p) S=V S1->Hi A j=I->env.take 5=e5 i (j+1)->EX A ks->K .next env (BI (r.reverse++S1)::Ac L::memC A ks::ex))
section
theorem r6:(p++[-1]).reverse=Cb 4 p:=by rw[U Rl ?_];rfl
theorem x9:∀{Q d A a S p r c mk i j k g K E}(h:KB K A a S c p r i j)(x:blockKind B' mk=V (p,r))(B:p.length<=2)(b:r.length<=2)(W:S.length<=900000)(C:EX A E)(u:j∉E->∀{f t},(∀{P ex},P.take 10=eB i (j+1) c mk k g p r->t .next P (BI f::Ac a::memC A (E++[j])::ex))->Ts Q (d+2) (PX ((FK<|DS 56).drop 5)++[]) (eB i (j+1) c mk k g p r) [BI f,Ac a,memC A E] t)(s:j<A.length),Ts Q (d+2) ((FK<|DS 56).drop 3) (eN i (j+1) c mk k g) [BI S,Ac a,memC A E] K:=by
 intros Q d A a S p r c mk i j k g K E _ h x B b W C u s;rw[Ts.cut 1 (σ:=BF) (λZ=>eB i (j+1) c mk k g p r) (λZ=>[BI S,Ac a,memC A E]) (λZ=>Bg) (λZ=>Y) (Ts.of<|Cv.fr [] [.p<|.int mk] FC Y Y Y (Yd x) λZ Z=>⟨(),[],[],B9,Y,Y⟩) λZ Z=>?_];have z:∀{f},Au T (Cb c p) S=V f->Ts Q (d+2) ((FK<|DS 56).drop 5) (eB i (j+1) c mk k g p r) [BI f,Ac a,memC A E] K:=λ{f}e=>by intros _ f _ e;intros _ f _ e;rw[Ts.cut 1 (σ:=O G) (λZ=>eB i (j+1) c mk k g p r) (λE=>[BI f,Ac a,memC A E]) (λE=>EX A E/\j∈E) (λZ=>Y) ?_ λD v=>?_];(·rw[Ts.ifs<|Al.mk (DN.mpr ⟨Y,Yl⟩)<|Ap.mk (λq=>?_) λq=>?_];(·(have H:j∉E:=λm=>by rw[Yq,AM m]at q;rw[nomatch q]);rw[u H λ{P ex}R=>⟨E++[j],P.drop 10,ex,⟨qq C s H,TP _<|.head _⟩,by rw[Ag R<|U (Kz ..) Y],Y⟩]);rw[Ts.of ⟨E,[],[],⟨C,(ir λn=>by rw[Yq,AS n]at q;rw[nomatch q]:j∈E)⟩,Y,Y⟩]);·rw[Ts.ifs<|Al.mk (DN.mpr ⟨Y,Yl⟩)<|B0.mk (Yq.trans<|AM v.2)<|Ap.mk (λq=>Ts.of<|h.1 (ex:=[]) (.inr ?_) v.1) λq=>Ts.of<|Al.mk (sz (m:=900002) (Cq (by rw[U (BH ..)<|U Bu<|U (FY e)<|U GS<|L (FJ _ _) W]:(il f.reverse).length<=900000)<|BH r▸b) Y) ?_];(·revert q;cases Hi A j<;>simp);rw[(A_ (λo=>K .next (eB i (j+1) c mk k g p r) [o,Ac a,memC A D]) YL).mpr<|h.2 (ex:=[]) e (by revert q;cases Hi A j<;>simp:Hi A j=I) Y v.1]
 have M:∀{w:O J},w.reverse=Cb c p->Ap (!(Au T w.reverse S).isSome) (Ts Q (d+2) (PX ((FK<|DS 56).drop 4)++((FK<|DS 56).drop 5)) (eB i (j+1) c mk k g p r) [BI<|S.drop w.length,Ac a,memC A E] K) (Ts Q (d+2) ([]++((FK<|DS 56).drop 5)) (eB i (j+1) c mk k g p r) [BI<|S.drop w.length,Ac a,memC A E] K):=λ{w}y=>by intros _ w _ y;intros _ w _ y;cases e:Au T w.reverse S with|none=>rw[Ts.of<|h.1 (ex:=[]) (.inl<|y▸e) C]|some f=>have N:=FY e;rw[Bu]at N;rw[N▸z (y▸e)]
 rw[Ts.ifs<|Ap.d (λF=>?_) λF=>?_,Al.mk (sz (m:=3) (DY (n:=2) (m:=1) (BH p▸B) (B2 1) Y) Y)<|Cv.fr [0] [.c 0,.p<|.tup<|il<|p++[-1]] (by decide) Y (A_ (λl=>[AV.c 0,.p<|.tup l])<|ED (b:=[-1])) Y (N' S (p++[-1])<|L (HI B<|B2 2)<|by decide) λZ Z=>M (F▸r6:(p++[-1]).reverse=Cb c p),Cv.fr [0] [.c 0,.p<|.tup<|il p] (by decide) Y Y Y (N' S p<|L B<|by decide) λZ Z=>M (AS F).symm]
theorem lO:Df 1 (En A a++[(.int<|(j:J)+1,v)])=I:=by induction a using An<;>rfl
theorem zF{A:O Ak}{j:G}{a:O G}{v}(h:j∉a):Cd (.int<|(j:J)+1) (En A a++[(.int<|(j:J)+1,v)])=V v:=by intros _ A j a v _ h;induction a with|nil=>rw[AM YX]|cons k a b=>rw[(AS<|W2 λq:k=j=>h<|q▸.head _).trans<|b λm=>h<|.tail _ m]
abbrev Qm(b:AL)(L:O<|O J):Kt:=PQ (σ:=BF) (λZ=>Bg) (λZ=> .p<|.bool b) λZ=>[Ac L]
theorem abn{E:VG}{d:G}{A:O Ak}{a:O (O J)}{p:O J}{r:O J}{c:J}{mk:J}{i:J}{j:G}{n:G}{g:MV}{f:O G}{b:O (MV×AL)}{q F k}{B:Ks}(V:j<A.length)(H:A.length<=900)(R:a.length<=9)(t:EX A f)(D:j∉f)(K:b.length<=2)(M:q=if c=3 then p else r)(S:F=(!decide (c=4)||(!FT g||decide (p=r))))(ok:Hi A j=(b.all E5&&F))(run:∀v∈b,Cv E (d+2) 57 [.p v.1,.p<|.tup<|il p,.p<|.tup<|il r,.c 0] [Ac<|a++[q]] (Qm v.2<|a++[q]))(W:∀{u ex},u.take 10=eB i (j+1) c mk n g p r->B .next u (BI k::Ac a::memC A (f++[j])::ex)):Ts E (d+2) ((PX ((FK<|DS 56).drop 5)++[]).drop 1) (eB i (j+1) c mk n g p r++[.c 3]) [BI k,Ac a,memC A f,.list T<|b.map Ej] B:=by
 intros _ E d A a p r c mk i j n g f b q F k B _ V H R t D K M S ok run W;rw[Ts.cut 1 (σ:=BF) (λZ=>eB i (j+1) c mk n g p r++[.c 3,.c 5]) (λZ=>[BI k,Ac a,memC A f,.list T<|b.map Ej,Ac [q],Ac<|a++[q]]) (λZ=>Bg) (λZ=>Y) (Ts.of ?_) λZ Z=>?_];·have X:∀{v},Bm (BD a++[v]).length Bj=I:=λ{v}=>sz (m:=10) (DY (b:=[v]) (n:=9) (m:=1) (by rw[U DA R]) (B2 1) Y) Y;(have fin:∀{x},x=q->[BI k,Ac a,memC A f,.list T<|b.map Ej,.list T [.tup<|il x],.list T<|BD a++[.tup<|il x]]=[BI k,Ac a,memC A f,.list T<|b.map Ej,Ac [q],Ac<|a++[q]]:=λe=>by rw[U e<|U (show BD a++[.tup<|il q]=BD (a++[q])from I6 (b:=[q])) ?_];rfl);rw[Ap.d (λh=>Al.mk X ⟨(),[],[],B9,Y,(fin<|(AM h).symm.trans M.symm).trans (Ba _).symm⟩) λh=>Al.mk X ⟨(),[],[],B9,Y,(fin<|(AS h).symm.trans M.symm).trans (Ba _).symm⟩]
 rw[Ts.cut 1 (σ:=AK) (λZ=>eB i (j+1) c mk n g p r++[.c 3,.c 5]) (λo=>[BI k,Ac a,.dict T<|En A f++[(.int<|(j:J)+1,.bool<|b.all E5)],.list T<|b.map Ej,Ac [q],Ac<|a++[q],o]) (λZ=>Bg) (λZ=>Y) (Ts.of ?_) λo Z=>?_];·rw[Cl.mk (σ:=BF) (λZ=>[BI k,Ac a,memC A f,.list T<|b.map Ej,Ac [q],Ac<|a++[q]]) (λC m Z=>∃done rb,C=rb.map Ej/\done++rb=b/\m=(done.map E5).map MV.bool) (.Kd 3 (b.map Ej) (by rw[U (CO ..)<|CH K<|by decide]) λZ=>Y) (λZ=>Y) Y ⟨(),_,[],(DI ([]) b Y Y Y),Y,Y⟩ (λv C m Z z=>?_) λm Z z=>?_];(·(rw[By z λdone rb e1 s BL=>?_];clear z;rw[U BL ?_]);induction rb using An with|nil=>rw[nomatch e1]|cons v rb=>obtain⟨rfl,rfl⟩:=Cs e1;rw[Cv.fr [5] [.p v.1,.p<|.tup<|il p,.p<|.tup<|il r,.c 0] (by decide) Y Y Y (run v<|by rw[Ag s<|TP _<|.head _]) λZ Z=>⟨(),_,[],(DI (done++[v]) rb Y (by rw[U (Bc ..) s])<|by rw[U Ci<|U Ci ?_];rfl),Y,Y⟩]);·(rw[By z λdone rb e1 s Bf=>?_];clear z;rw[U Bf ?_]);induction rb using An with|cons=>rw[nomatch e1]|nil=>replace s:=(Ba ..)▸s;clear run;subst s;(have e0:EH (.int<|(j:J)+1) (.bool<|((done.map E5)).all id) (En A f)=En A f++[(.int<|(j:J)+1,.bool<|done.all E5)]:=by have:=mem_set (A:=A) (v:= .bool<|(done.map E5).all id) (es:=[]) D;replace this:=(Ba ..)▸this;rw[U this<|U List.all_map ?_];rfl);rw[Al.mk (sz (m:=2) (by rw[U (CO ..)<|U (CO ..) K]) Y)<|B0.mk (Y7 _)<|Al.mk (DN.mpr ⟨G2<|Ce<|L (by unfold En;rw[U (CO ..)<|L (kR t.1 t.2) H]:(En A f).length<=900) (by decide:900<=999),Yl⟩) ⟨_,[],[],B9,Y,A_ (λo=>[BI k,Ac a,.dict T o,_,_,_,_]) e0⟩]
 ·have w:(En A f++[(MV.int<|(j:J)+1,MV.bool<|b.all E5)]).length<=901:=HI (by unfold En;rw[U (CO ..)<|L (kR t.1 t.2) H]) (B2 900);(have y:∀{N},N=Hi A j->Al (!T&&D1 (En A f++[(MV.int<|(j:J)+1,MV.bool<|b.all E5)]).length 1000&&Df 1 (En A f++[(MV.int<|(j:J)+1,MV.bool<|b.all E5)])) (B .next (eB i (j+1) c mk n g p r++[.c 3,.c 5]) [BI k,Ac a,.dict T<|EH (.int<|(j:J)+1) (.bool N)<|En A f++[(.int<|(j:J)+1,.bool<|b.all E5)],.list T<|b.map Ej,Ac [q],Ac<|a++[q],o]):=λ{N}e=>by rw[Al.mk (DN.mpr ⟨G2<|Ce<|L w (by decide:901<=999),lO⟩)<|U (mem_set D)<|U pT<|U e<|U tC<|W Y]);rw[Ts.of<|Al.mk (DN.mpr ⟨Y,lO⟩)<|B0.mk (zF D)<|Ap.mk (λP=>?_) λP=>?_];(·(replace ok:=P▸ok;replace ok:=(Ki ..)▸ok;replace ok:=S▸ok);rw[Ap.nd (λz=>y ?_) λz=>Ap.mk (λl=>y ?_) λl=>eqT (a:=p) (b:=r)<|Ap.d (λQ=>?_) λQ=>?_];(·rw[U ok<|U (Dk z) ?_];rfl);(·have l:(!FT g)=I:=l;rw[U ok<|U l<|U (Bool.true_or ..)<|U (RF ..) Y]);(·have l:(!FT g)=T:=l;rw[y<|by rw[U ok<|U (DD z)<|U l<|U (DD Q) ?_];rfl]);·have l:(!FT g)=T:=l;rw[y<|by rw[U ok<|U (DD z)<|U l<|U (Dk Q) ?_];rfl]);rw[y<|by rw[U ok<|U P ?_];rfl]
theorem o3:∀{l d A L p r c mk i j f a g}{b:O (MV×AL)}{q m k}{n:Ks}(u:j<A.length)(w:A.length<=900)(x:L.length<=9)(y:EX A g)(hx:a= .none/\b.map Ej=[.ref f]\/∃o,a= .ref o/\b.map Ej=[.ref f,.ref o])(z:q=if c=3 then p else r)(s:m=(!decide (c=4)||(!FT a||decide (p=r))))(ok:Hi A j=(b.all E5&&m))(run:∀v∈b,Cv l (d+2) 57 [.p v.1,.p<|.tup<|il p,.p<|.tup<|il r,.c 0] [Ac<|L++[q]] (Qm v.2<|L++[q]))(B:j∉g)(t:∀{h ex},h.take 10=eB i (j+1) c mk f a p r->n .next h (BI k::Ac L::memC A (g++[j])::ex)),Ts l (d+2) (PX ((FK<|DS 56).drop 5)++[]) (eB i (j+1) c mk f a p r) [BI k,Ac L,memC A g] n:=by
 intros l d A L p r c mk i j f a g b q m k n _ u w x y hx z s ok run B t;have D:b.length<=2:=by rw[Ag (CO (f:=Ej)) ?_];rcases hx with⟨_,e⟩|⟨_,_,e⟩<;>refine U e ?_;rw[E2 1,B2 2]
 rw[Ts.cut 1 (σ:=BF) (λZ=>eB i (j+1) c mk f a p r++[.c 3]) (λZ=>[BI k,Ac L,memC A g,.list T<|b.map Ej]) (λZ=>Bg) (λZ=>Y) (Ts.of ?_) λZ Z=>?_];case refine_2=>rw[abn u w x y B D z s ok run t]
 clear s t;rcases hx with⟨rfl,e⟩|⟨o,rfl,e⟩;rw[⟨(),[],[],B9,Y,by rw[U e ?_];rfl⟩,⟨(),[],[],B9,Y,by rw[U e ?_];rfl⟩]
end
end
section
set_option maxHeartbeats 1000000
inductive OF(A:O Ak)(L:O<|O J)(j0:G):Pt->O AK->AV->Prop
 |no{o:AK}{ks:O G}(hk:EX A ks):OF A L j0 .no [o,Ac L,memC A ks]<|.p .none
 |jmp{o:AK}{ks:O G}{j:G}(hk:EX A ks)(h1:j0<j)(h2:j<=A.length):OF A L j0 (.jmp<|A.drop j) [o,Ac L,memC A ks]<|.p<|.tup [.int j,.none]
 |fin{S:O J}{ks:O G}(hk:EX A ks)(hS:S.length<=900000):OF A L j0 (.fin S) [BI S,Ac L,memC A ks]<|.t [.p<|.int (A.length:G),.c 0]
inductive I3(S:Fx)(L:O<|O J)(t:Ns)(i:G):Prop
 |mk(nd:∃l,S i=V (.list T l)/\Ck S t l)(lw:CL C L t)(sz:(flat t).length<=900)(dp:L.length+dep t<=9)(lk:∀ks∈L,D8 ks)(l0:L[0]?=V B'.res)
abbrev Kv(a:VG)(t:Ns):Prop:=∀{d i:G}{L:O (O J)}{p r:O J},I3 a.S L t i->D8 p->D8 r->Cv a (d+2*dep t+5) 57 [.p<|.ref i,.p<|.tup<|il p,.p<|.tup<|il r,.c 0] [Ac L] (Qm (DL (Ay t) r T p.reverse) L)
structure PS where
 j:G
 S:O J
 ks:O G
 t:Ns
instance:CK PS:=⟨⟨0,[],[],.nil⟩⟩
inductive PI(S:Fx)(A:O Ak)(L:O<|O J)(T:Ns)(l:O MV)(R:Pt)(j0 m:G)(s:PS):Prop
 |mk(hm:m+s.j=A.length)(hk:EX A s.ks)(ac:Ay s.t=A.drop s.j)(nd:Ck S s.t<|l.drop s.j)(lw:CL C L s.t)(hR:D4 (Ay s.t) s.S=R)(st:Eg s.S)(sz:s.S.length<=300000+2*s.j)(hj:j0<=s.j)(dp:dep s.t<=dep T)(fl:(flat s.t).length<=(flat T).length)
section
variable{Γ:VG}{d:AE}{L:AB (AB AD)}{T:Ns}{i:AE}
theorem Ck.len(h:Ck S t l):l.length=(Ay t).length:=by induction h with|nil=>rfl|one _ b=>rw[A_ (·+1) b]|Bz _ _ _ _ _ b=>rw[A_ (·+1) b]|Xk _ _ _ _ _ _ _ _ b=>rw[A_ (·+1) b]
theorem Qn{t}:(Ay t).length<=(flat t).length:=by induction t with|nil=>rw[B2 _]|one r a w t b=>rw[Ce b]|Bz c f p r a t _ b=>rw[Ce<|AJ b<|by rw[U Aq<|AJ (E2 _)<|Be _ _]]
theorem uZ(h:m+j=n)(b:j<n):m-1<m:=ue h b
theorem iE{m j n}(h:m+j=n)(b:j<n):m-1+(j+1)=n:=by induction m using CV with|zero=>rw[Aj b<|E1.mpr<|C8 ((Di j).symm.trans h).symm]|succ m=>rw[(Nat.succ_add m j).symm.trans h]
theorem pJ(b:∀f∈L,f.length<=2){r a w}(h:Rw L r a w):T3 a<=2:=by cases UA b h;assumption
theorem yY(h:A.drop j=HL c p r o::a):Hi A j=o:=by unfold Hi;rw[U (by rw[Ag (Nat.add_zero j)<|Ag (Vb)<|U h ?_];rfl:A[j]?=V (HL c p r o)) ?_];clear h;induction o using BG<;>rfl
theorem xV(h:Au AH (Cb c p) S=C\/o=AH):D4 (HL c p r o::a) S= .no:=by induction o using BG with|false=>rfl|true=>rw[((U (h.resolve_right λz=>(by cases z)) ?_):((Au AH (Cb c p) S).map _).elim _ _=_)];rfl
theorem tK(h:Au AH (Cb c p) S=V b)(f:o=I):D4 (HL c p r o::a) S=D4 a (r.reverse++b):=by subst f;rw[((U h ?_):((Au AH (Cb c p) S).map _).elim _ _=_)];rfl
inductive KPt(K:Ks)(S:Fx)(A:O Ak)(L:O<|O J)(T:Ns)(l:O MV)(R:Pt)(j0 m i:G):Prop
 |mk(no:∀{env:Env}{o:AK}{ks:O G}{ex:O AK},R= .no->EX A ks->K (.ret<|.p .none) env (o::Ac L::memC A ks::ex))(jm:∀{env:Env}{o:AK}{ks:O G}{ex:O AK}{j:G},R= .jmp (A.drop j)->j0<j->j<=A.length->EX A ks->K (.ret<|.p<|.tup [.int j,.none]) env (o::Ac L::memC A ks::ex))(go:∀{s:PS}{env:Env}{ex:O AK},PI S A L T l R j0 (m-1) s->env.take 5=e5 i s.j->K .next env (BI s.S::Ac L::memC A s.ks::ex)/\K .cont env (BI s.S::Ac L::memC A s.ks::ex))
section
variable{K:Ks}{l l':AB MV}{R:Pt}{j0 m j:AE}{S:AB AD}{ks:AB AE}{t':Ns}{v:MV}
theorem aa(b:l.drop j=v::l'):Ez (j:J) l=V v:=by rw[((Ag (Nat.add_zero j)<|Ag (Vb)<|U b ?_):l[j]?=_)];rfl
theorem drop_one{b:Type}{l a:O b}{v:b}{j:G}(c:l.drop j=v::a):a=l.drop (j+1):=by rw[Ag List.drop_drop<|U c ?_];rfl
theorem Y8{n j}(h:n<=300000+2*j)(b:j<=900):n<=900000:=AJ h<|AJ (CD (KQ 2 b) _)<|(dc Y)
theorem pZ:∀{Γ d L T i K l l' R E m j S ks f r}{a:Ak}{w}(B:KPt K Γ.S (Ay T) L T l R E m i)(g:PI Γ.S (Ay T) L T l R E m ⟨j,S,ks,.one r a w f⟩)(Q:Γ.S i=AA (.list AH l))(tk:I3 Γ.S L T i)(k:j<(Ay T).length)(G:l.drop j= .tup [.tup<|il r,.none,.none]::l')(u:Ck Γ.S f l'),Ts Γ (d+3) (FK<|DS 56) (e5 i j) [BI S,Ac L,memC (Ay T) ks] K:=by
 intros Γ d L T i K l l' R E m j S ks f r a w _ B g Q tk k G u;obtain⟨n,F,H,_,X,b,M,J,U,dp,t⟩:=g;have H:a::Ay f=(Ay T).drop j:=H;have W:=drop_one H.symm;rw[xA X.on λA D=>?_];(injection A.qt with c N _ C _;clear X;subst C);have b:(Br AH S a).elim Pt.no (λy=>if y.1=AG then .jmp (Ay f)else D4 (Ay f) y.2)=R:=b;obtain⟨I,P⟩:∃x:MV,x= .none:=⟨_,A7⟩;rw[Ts.Un 2 [.p<|.ref i,.p<|.int<|(j:AD)+1,.c 0,.c 1,.c 2,.p<|.tup<|il<|c::N,.p I,.p I] [BI S,Ac L,memC (Ay T) ks] A7 (λK1 Z=>Ts.of<|B0.mk Q<|B0.mk (aa G)<|P▸Z [] [])<|Ts.ifs<|Ap.mk (λ_=>?_) λz=>?_];·rw[Ts.ifs<|Cv.fr [0,1] [.p<|.tup<|il<|c::N,.c 0,.c 1] (by decide) A7 A7 A7 (wX A (AJ (BJ _ _) tk.4) tk.6 (λks m=>(tk.5 ks m).1) M<|AJ (Y8 J<|KN<|CQ k (AJ Qn tk.3:(Ay T).length<=900))<|by decide) λo Y=>Ap.mk (λq=>Ts.of<|B.1 (ex:=[]) ?_ F) λq=>Ts.ifs ?_];(·cases e:Br AH S a with|none=>replace b:=e▸b;rw[b.symm]|some=>replace q:=e▸q;rw[nomatch q]);·cases e:Br AH S a with|none=>replace q:=e▸q;rw[nomatch q]|some y=>replace b:=e▸b;have b:(if y.1=AG then Pt.jmp (Ay f)else D4 (Ay f) y.2)=R:=b;have V:=ot A e;rw[Ap.mk (λm=>Ts.of<|B.2 (ex:=[]) (j:=j+1) ?_ (Nk U) k F) λm=>Ts.of ?_];(·replace b:=(AM<|V.symm.trans m)▸b;rw[Ag b<|A9 W A7]);·have O:y.1=AH:=V.symm.trans m;rw[AS<|by rw[A9 O bX]]at b;rw[PK (A_ (λo=>[o,Ac L,memC (Ay T) ks])<|Y y e O) (B.3 (ex:=[]) (s:=⟨j+1,y.2,ks,f⟩) ⟨iE n k,F,W,drop_one G▸u,D,b,aat A tk.5 M e,AJ (mA (pJ (λks m=>(tk.5 ks m).1) A) e)<|CU J 2,FI U,dp,GP t⟩ A7).2]
 ·replace z:=P▸z;rw[nomatch z]
theorem qB:∀{Γ d L T i K l l' R G m j S ks f A}{p r:AB AD}{c mk a q}{u:AB (MV×AL)}{M}(F:KPt K Γ.S (Ay T) L T l R G m i)(g:PI Γ.S (Ay T) L T l R G m ⟨j,S,ks,.Bz c mk p r a f⟩)(V:Γ.S i=AA (.list AH l))(tk:I3 Γ.S L T i)(b:j<(Ay T).length)(J:l.drop j= .tup [.tup<|il [c,mk],.ref A,q]::l')(y:Ck Γ.S f l')(U:q= .none/\u.map Ej=[.ref A]\/∃Q,q= .ref Q/\u.map Ej=[.ref A,.ref Q])(Y:M=(!decide (c=4)||(!FT q||decide (p=r))))(P:KH c p r a=(u.all E5&&M))(w:∀v∈u,Cv Γ (d+2) 57 [.p v.1,.p<|.tup<|il p,.p<|.tup<|il r,.c 0] [Ac<|L++[if c=3 then p else r]] (Qm v.2<|L++[if c=3 then p else r])),Ts Γ (d+2) (FK<|DS 56) (e5 i j) [BI S,Ac L,memC (Ay T) ks] K:=by
 intros Γ d L T i K l l' R G m j S ks f A p r c mk a q u M _ F g V tk b J y U Y P w;obtain⟨t,W,D,_,n,C,e,O,hj,dp,fl⟩:=g;have D:HL c p r (KH c p r a)::Ay f=(Ay T).drop j:=D;have C:D4 (HL c p r (KH c p r a)::Ay f) S=R:=C;have X:(Ay T).length<=900:=AJ Qn tk.3;have E:=yY D.symm;have I:=n.bk;obtain⟨Z,k⟩:∃x:MV,x= .ref A:=⟨_,A7⟩;rw[Ts.Un 2 [.p<|.ref i,.p<|.int<|(j:AD)+1,.c 0,.c 1,.c 2,.p<|.tup<|il [c,mk],.p Z,.p q] [BI S,Ac L,memC (Ay T) ks] A7 (λK1 H=>Ts.of<|B0.mk V<|B0.mk (aa J)<|k▸H [] [])<|Ts.ifs<|Ap.mk (λz=>?_) λ_=>?_];·replace z:=k▸z;rw[nomatch z]
 ·subst k;rw[x9 (i:=i) (p:=p) (r:=r) ⟨λB o=>F.1 (C▸xV (B.imp id λz=>E.symm.trans z)) o,λ{env N ks ex}B h2 he o=>(F.3 (s:=⟨j+1,r.reverse++N,ks,f⟩) ⟨iE t b,o,drop_one D.symm,drop_one J▸y,I.6,(tK B<|E.symm.trans h2).symm.trans C,Xm (QN I.4.2)<|FY B▸ZQ e,?_,FI hj,AJ (MU _ _) dp,AJ ?_ fl⟩ he).1⟩ I.2 I.3.1 I.4.1 (Y8 O<|KN<|CQ b X) W (λH{N K'}=>o3 b X (AJ (BJ _ _) tk.4:L.length<=9) W U A7 Y (E.trans P) w H) b];(·show(r.reverse++N).length<=_;rw[A9 Aq<|A9 Bu<|A9 (FY B)<|A9 (EL ..)<|AJ (Cq LO I.4.1)<|CU O 2]);·show _<=(flat<|.Bz c mk p r a f).length;rw[A9 Mn<|AJ (Be _ _)<|BJ _ _]
end
theorem pd(h:a<t):∃c,d+2*t+3=c+2*a+5:=by rw[xE (gQ h) λk b=>U b ?_,⟨d+2*k,A_ (·+5) (by(rw[U (Nat.mul_add ..) ?_];rewrite [EL<|2*a];rw[Ag (CR ..) Y]):d+2*(a+k)=d+2*k+2*a)⟩]
theorem ab8(h:a<t)(k:n+t<=9):n+1+a<=9:=AJ (by(rw[U (CR ..) ?_];rewrite [EL 1]);rw[CD h n]) k
theorem yq:(a&&b)=((a&&I)&&b):=by induction a using BG<;>rfl
theorem yU [Dh P] [Dh Q]:decide (P->Q)=(!decide P||decide Q):=by by_cases h:P<;>by_cases g:Q<;>simp [h,g]
theorem rQ(a:I3 Γ.S L T i)(r:Γ.S c=V (.list AH b))(f:Ck Γ.S x b)(g:CL C (L++[q]) x)(k:dep x<dep T)(p:(flat x).length<=(flat T).length)(o:D8 q):I3 Γ.S (L++[q]) x c:=⟨(Aa b r f),g,AJ p a.3,by rw[U Aq<|ab8 k a.4],λe m=>(Cj.mp m).elim (a.5 e) λm=>B3.mp m▸o,N1 a.6⟩
theorem oU(g:∀a,dep a<dep T->Kv Γ a)(f:dep x<dep T)(k:I3 Γ.S L x b)(q:D8 p)(o:D8 r):Cv Γ (d+2*dep T+3) 57 [.p<|.ref b,.p<|.tup<|il p,.p<|.tup<|il r,.c 0] [Ac L]<|Qm (DL (Ay x) r AH p.reverse) L:=by rw[xE (pd (d:=d) f) λu e=>U e<|g x f k q o]
theorem yQ:(flat a).length<=(flat<|.Bz c mk p r a t).length:=by rw[U Mn<|U (CR ..)<|BJ _ _]
def W3(p r:O J)(a:O<|G×Ns):O<|MV×AL:=a.map λq=>(.ref q.1,DL (Ay q.2) r AH p.reverse)
theorem Gu.right:∀{S L a g b e c p r}(h:Gu S a g b e)(k:CL (if c=4 then V (p,r)else C) L a),∃o,g= .ref o/\(b= .none/\(W3 p r e).map Ej=[.ref o]\/∃w,b= .ref w/\(W3 p r e).map Ej=[.ref o,.ref w])/\KH c p r a=((W3 p r e).all E5&&(!decide (c=4)||(!FT b||decide (p=r)))):=by intros S L a g b e c p r _ h k;rw[U (mQ k) ?_];unfold VB;induction h using Gu.casesOn with|one q f u=>rw[(DB _ q (.inl ⟨f,Y⟩)<|U u<|U f<|U (k.parts.5 u)<|(A_ (_&&·) yU).trans yq)]|two q f y=>rw[(DB _ q (.inr<|Aa _ f Y)<|U y<|U f<|U ((Y:(!FT (MV.ref _))=I))<|U (Bool.true_or ..)<|U (RF ..)<|U (ZG ..)<|A_ (_&&·) (ZG _).symm)]
theorem vd:∀{Γ d L T i K}{l:AB MV}{R z m s}(y:KPt K Γ.S (Ay T) L T l R z m i)(g:PI Γ.S (Ay T) L T l R z m s)(A:Γ.S i=AA (.list AH l))(tk:I3 Γ.S L T i)(b:s.j<(Ay T).length)(E:∀a,dep a<dep T->Kv Γ a),Ts Γ (d+2*dep T+3) (FK<|DS 56) (e5 i s.j) [BI s.S,Ac L,memC (Ay T) s.ks] K:=by intros Γ d L T i K l R z m s _ y g A tk b E;obtain⟨j,S,ks,t⟩:=s;intros _ j S ks t _ g b;have f:=g.4.inv;induction t using Ns.casesOn with|nil=>rw[Aj (A_ RU g.3)<|by rw[A9 GS λq=>Aj (Nat.sub_eq_zero_iff_le.mp q.symm)<|IZ.mpr b]]|one r a w t=>rw[AY f λZ C f=>pZ (d:=d+2*dep T) y g A tk b C f]|Bz c J p r a t=>intros _ c J p r a t _ g b f;rw[Vh f λV U Z W C G B f=>?_];have I:=g.5.bk;(rw[Cp (G.right I.5) λY o N H=>?_];subst o);rw[qB (d:=d+2*dep T+1) y g A tk b C f N A7 H λv m=>?_,AY (Ea.mp m) λq D k=>Ag k ?_,AY (B q D) λX P u=>DE (G.part I.5 q D) λQ M O=>?_];have F:=CH Q (CQ (Q8 _ _) g.10);rw[oU E F (rQ tk P u M F (AJ O<|AJ yQ g.11)<|eh I.3 I.4) I.3 I.4]
theorem abG:∀{Γ d L T i l s0}(tk:I3 Γ.S L T i)(hl:Γ.S i=AA (.list AH l))(nd:Ck Γ.S T l)(ih:∀a,dep a<dep T->Kv Γ a)(h0:∃m,PI Γ.S (Ay T) L T l (D4 (Ay s0.t) s0.S) s0.j m s0),Cv Γ (d+2*dep T+4) 56 [.p (.ref i),.p (.int s0.j),.c 0,.c 1,.c 2] [BI s0.S,Ac L,memC (Ay T) s0.ks] (OF (Ay T) L s0.j (D4 (Ay s0.t) s0.S)):=by
 intros Γ d L T i l s0 _ tk hl nd ih h0;rw[xE h0 λm0 h0=>?_];have hA:(Ay T).length<=900:=AJ Qn tk.3;rw[Cv.mw A7 A7 A7 λK hk=>Ts.VH 1 (σ:=PS) (λs=>[.p (.ref i),.p (.int s.j),.c 0]) (λs=>[BI s.S,Ac L,memC (Ay T) s.ks]) (PI Γ.S (Ay T) L T l (D4 (Ay s0.t) s0.S) s0.j 0) (λZ=>A7) (λK1 hn hr=>Ts.of ?_) λs g=>Ts.of (hk ?_)];·rw[Wl.RB (σ:=PS) (e:=λs=>e5 i s.j) (cs:=λs=>[BI s.S,Ac L,memC (Ay T) s.ks]) (PI Γ.S (Ay T) L T l (D4 (Ay s0.t) s0.S) s0.j) (λZ=>A7) (m:=m0) (CH (AJ (BJ _ s0.j) (h0.1▸hA)) ((dc A7))) s0 [] [] h0 A7 A7 λm s g K2 Ky Y9=>B0.mk hl (Ap.d (λh=>?_) λh=>?_)];(·have iI:s.j<(Ay T).length:=nd.len▸Du.mp h;rw[vd (R:=D4 (Ay s0.t) s0.S) ⟨λe ZS=>Y9 (hr (hk ⟨[_,Ac L,_],_,A7,A7,e.symm▸.no ZS⟩)),λe h1 h2 ZS=>Y9 (hr (hk ⟨[_,Ac L,_],_,A7,A7,e.symm▸.jmp ZS h1 h2⟩)),λ{s env ex}g2 he=>Ag (Kz 5 env) (A9 he (Ky (m-1) s _ ex (uZ g.1 iI) g2))⟩ g hl tk iI ih]);·clear Ky;obtain rfl:m=0:=Nat.eq_zero_of_not_pos λhm=>h (Du.mpr (by rw[A9 (nd.len.trans g.1.symm:l.length=m+s.j) (dk hm)]));rw[hn s _ [] g]
 ·have hj:s.j=(Ay T).length:=(Di _).symm.trans g.1;have hR:=g.6;rw[g.3,hj,Vr]at hR;rw[⟨_,[],(Ba _).symm,A7,by rw[Ag hR (hj▸.fin g.2 (Y8 g.8 (hj▸hA)))]⟩]
end
end
section
set_option maxHeartbeats 1000000
theorem fg:(Ct n [MV.int 0]).flatten=il (BZ n).reverse:=by unfold BZ il;rw[U List.reverse_replicate<|U Zb ?_];induction n with|zero=>rfl|succ n b=>rw[U List.replicate_succ<|U List.flatten_cons<|U b ?_];rfl
theorem el:Eg<|BZ n:=λx m=>by rw[U (Z_ m) ?_];decide
inductive jj(S:Fx)(L:O<|O J)(T:Ns)(l:O MV)(j:G):Prop
 |mk(t:Ns)(ac:Ay t=(Ay T).drop j)(nd:Ck S t<|l.drop j)(lw:CL C L t)(dp:dep t<=dep T)(fl:(flat t).length<=(flat T).length)
theorem vu:∀{l},Ck S f l->CL C g f->∀{j},j<=(Ay f).length->jj S g f l j:=by have z:∀{f:Ns}{l:O MV},Ck S f l->CL C g f->jj S g f l 0:=λnd b=>⟨_,Y,nd,b,B2 _,B2 _⟩;induction f with|nil=>intro _ nd b j h;obtain rfl:=Nat.eq_zero_of_le_zero h;rw[z nd b]|one r a w t d=>intro l nd b j e;(induction j using CV with|zero=>rw[z nd b]|succ j=>rw[AY nd.inv λZ BL Xi=>U BL ?_];obtain⟨t,i,nd,b,k,m⟩:=d Xi b.on.2<|Lh e;rw[⟨t,i,nd,b,k,FI m⟩])|Bz c mk p r a t _ d=>intro l nd b j e;induction j using CV with|zero=>rw[z nd b]|succ j=>rw[Vh nd.inv λZ Z Z Z Bf Z Z Xi=>U Bf ?_];obtain⟨t,i,nd,b,k,m⟩:=d Xi b.bk.6<|Lh e;rw[⟨t,i,nd,b,L k<|MU _ _,L m<|by rw[U Mn<|L (Be _ _)<|BJ _ _]⟩]
section
theorem jz(c:I3 p.S n h i)(u:p.S i=V (.list T l))(f:Ck p.S h l)(q:∀a,dep a<dep h->Kv p a)(g:j<=(Ay h).length)(v:EX (Ay h) r)(st:Eg S)(m:S.length<=300000):Cv p (d+2*dep h+4) 56 [.p<|.ref i,.p<|.int j,.c 0,.c 1,.c 2] [BI S,Ac n,memC (Ay h) r]<|OF (Ay h) n j<|D4 ((Ay h).drop j) S:=by obtain⟨t,k,b,o,y,w⟩:=vu f c.2 g;have:=abG (d:=d) c u f q (s0:=⟨j,S,r,t⟩) ⟨(Ay h).length-j,Oj g,v,k,b,o,Y,st,L m<|BJ _ _,B2 _,y,w⟩;rw[Ag k this]
structure R0 where
 X:O AK
 o:AK
 n:G
 j:G
 S:O J
 ks:O G
 hn:D1 n (X.length+3)=I
def cR(A:O Ak)(L:O<|O J)(s:R0):O AK:=Ac L::s.o::memC A s.ks::s.X
def eR(i:G)(p r:O J)(s:R0):Env:=[.p<|.ref i,.p<|.tup<|il p,.p<|.tup<|il r,.c 0,.p<|.int (s.j:J),.c s.n,.c 2]
inductive RI(A:O Ak)(L:O<|O J)(p r:O J)(m:G)(s:R0):Prop
 |mk(at_:(cR A L s)[s.n]?=V (BI s.S))(hm:m+s.j=A.length)(lk:Wo A p r s.j s.S)(hk:EX A s.ks)
inductive AR(A:O Ak)(j0 n:G):Pt->AV->AK->Prop
 |no{o:AK}:AR A j0 n .no (.p .none) o
 |jmp{o:AK}{j:G}(h1:j0<j)(h2:j<=A.length):AR A j0 n (.jmp<|A.drop j) (.p<|.tup [.int j,.none]) o
 |fin{S:O J}(hS:S.length<=900000):AR A j0 n (.fin S) (.t [.p<|.int (A.length:G),.c n])<|BI S
structure R1(n:G)where
 a:AV
 o:AK
 ks:O G
 ok:G' (n+4) a=I
def c1(A:O Ak)(L:O<|O J)(s:R0)(t:R1 s.X.length):O AK:=Ac L::s.o::memC A t.ks::(s.X++[t.o])
def e1(i:G)(p r:O J)(s:R0)(t:R1 s.X.length):Env:=eR i p r s++[t.a]
theorem fW(h:D1 n m=I)(b:m<=k):D1 n k=I:=G2<|L (B6 h) b
theorem Y0:G' (n+4) (.t [.p v,.c<|n+3])=I:=by rw[((U (G2<|B2 _) ?_):(I&&(Bm (n+4) (n+4)&&I))=I)];rfl
theorem Wh(b:s.X.length+3<=m):(eR i p r s).all (G' m)=I:=by have c:∀{k},Bm (k+1) 3=I->D1 k m=I:=λh=>fW h<|L (Be _ _) b;rw[((U (c Y)<|U (fW s.hn b)<|U (c Y) ?_):(I&&(I&&(I&&(D1 0 m&&(I&&(D1 s.n m&&(D1 2 m&&I)))))))=I)];rfl
theorem wq:Gb 3 (eR i p r)<|cR A a:=λs=>DN.mpr ⟨G2<|Be 3 s.X.length,Wh<|B2 _⟩
theorem oC{A}{L}{i}{p}{r}{s}:Gb (cR A L s).length (e1 i p r s)<|c1 A L s:=λt=>by rw[U (by rw[((U Aq ?_):(s.X++[t.o]).length+3=_)];rfl:(c1 A L s t).length=s.X.length+4) ?_,DN.mpr ⟨G2<|E2 _,?_⟩];unfold e1;rw[U l8<|U (Wh<|E2 _)<|U (Ki ..)<|DN.mpr ⟨t.ok,Y⟩]
theorem Zf{X:O AK}:(X++[a]).set X.length b=X++[b]:=by rw[U (Xc _ _<|B2 _)<|U (GI ..) ?_];rfl
theorem zB(k:I3 j.S h f i)(n:j.S i=V (.list T l))(nd:Ck j.S f l)(o:∀a,dep a<dep f->Kv j a)(g:RI (Ay f) h p r m s)(st:Eg s.S)(gb:s.S.length<=3000):Ts j (d+2*dep f+4) ((FK<|(DS 57).drop 1).take 1) (eR i p r s) (cR (Ay f) h s)<|UJ (e1 i p r s) (c1 (Ay f) h s) (λt=>EX (Ay f) t.ks/\AR (Ay f) s.j (s.X.length+3) (D4 ((Ay f).drop s.j) s.S) t.a t.o) K:=by rw[Ts.of<|B0.mk g.1<|Al.mk (sz (m:=3000) (by rw[U (BH ..)<|U Bu gb]) Y)<|Cv.frame [s.X.length+3,0,2] [.p<|.ref i,.p<|.int s.j,.c 0,.c 1,.c 2] ?_ (cs:=[BI s.S,Ac h,memC (Ay f) s.ks]) (bind_eq (a:=BI s.S) ?_ Y) Y Y (jz k n nd o (g.2▸Be _ _) g.4 st<|L gb<|(dc Y)) λv a q=>?_,DF.mpr ⟨λm=>by simp at m,(dc Y)⟩,FQ (H:=s.X) (l:=[])];·have fin:∀{t:R1 s.X.length},EX (Ay f) t.ks->AR (Ay f) s.j (s.X.length+3) (D4 ((Ay f).drop s.j) s.S) t.a t.o->UJ (e1 i p r s) (c1 (Ay f) h s) (λt=>EX (Ay f) t.ks/\AR (Ay f) s.j (s.X.length+3) (D4 ((Ay f).drop s.j) s.S) t.a t.o) K .next (eR i p r s++[t.a]) (Ac h::s.o::memC (Ay f) t.ks::((s.X++[BI s.S]).set s.X.length t.o++[])):=λ{t}c e=>⟨t,[],[],⟨c,e⟩,(Ba _).symm,by rw[U Zf ?_];rfl⟩;generalize D4 ((Ay f).drop s.j) s.S=R at q fin;induction q using OF.casesOn with|no b=>rw[fin (t:=⟨.p .none,_,_,Y⟩) b .no]|jmp b c e=>rw[fin (t:=⟨.p<|.tup [.int _,.none],_,_,Y⟩) b<|.jmp c e]|fin b u=>rw[fin (t:=⟨.t [.p<|.int _,.c<|s.X.length+3],BI _,_,Y0⟩) b<|.fin u]
end
end
section
set_option maxHeartbeats 1000000
section
inductive End(V:AL)(L:O<|O J)(r:O J):AV->O AK->Prop
 |no{c:O AK}(h:V=T):End V L r (.p .none)<|Ac L::c
 |fin{c:O AK}{n:G}{v:MV}{S:O J}(h:c[n]?=AA (BI S))(hV:V=(decide (S.length=r.length)&&(Au T r.reverse S).isSome)):End V L r (.t [.p v,.c<|n+1])<|Ac L::c
def KV(K:Ks)(V:AL)(L:O<|O J):Prop:=∀{b:AL}{a:Env}{ex:O AK},b=V->K (.ret<|.p<|.bool b) a (Ac L::ex)
theorem len_eq{r:O J}{S:O J}(h:decide (((il S.reverse).length:J)=((il r).length:J))=b):decide (S.length=r.length)=b:=by rw[Ag h<|U (BH ..)<|U (BH ..)<|U Bu<|Qf.mpr Nh.symm]
theorem qH{r:O J}(h:End k j r a c)(g:r.length<=2)(b:KV K k j):Ts l (d+3) ((FK<|(DS 57).drop 1).drop 2) (eR i p r s++[a]) c K:=by cases h with|no h=>rw[Ts.of<|b h.symm]| @fin c n v S h f=>rw[Ts.of<|B0.mk h<|Ap.mk (λq=>?_) λq=>b<|by rw[U f<|U (len_eq q) ?_];rfl,Cv.fr [n+1] [.c 0,.p<|.tup<|il r] (DF.mpr ⟨Ia,FC⟩) (bind_eq (a:=BI S) h Y) Y Y (N' S r<|L g<|(dc Y)) λZ Z=>Ap.mk (λz=>b<|by rw[U f<|U (len_eq q)<|U z ?_];rfl) λz=>b<|by rw[U f<|U (len_eq q)<|U z ?_];rfl]
theorem qS{l n b:G}(g:n<=900)(m:b<=n){R:G}(f:R<=2)(j:l=n):(3*((l:J)-(b:J))+(R:J)).toNat=3*(n-b)+R/\(0<=3*((l:J)-(b:J))+(R:J)/\3*((l:J)-(b:J))+(R:J)<=16777216)/\((l:J)-(b:J)).natAbs<1000000000000:=by subst j;have c:l-b<=900:=L (FJ _ _) g;rw[Ag (QW m) ?_];generalize l-b=k at c;rw[(BX Y ⟨EE _,DM.mpr<|L (Cq (KQ 3 c) f)<|(dc Y)⟩<|CH c<|(dc Y))]
theorem r5{n}{d}{A}{i}{p}{r}{K}{s}{l}(D:n.S i=V (.list T l))(f:l.length=A.length)(v:A.length<=900){o}{b m}{h}(w:s.j<b)(j:b<=A.length)(E:EX A h)(u:r.length<=2)(C:m+s.j=A.length)(F:DL A r T p.reverse=DL (A.drop b) r I [])(g:∀{s':R0}{e c},(∃k,k<m/\RI A a p r k s')->e.take 7=eR i p r s'->c=cR A a s'->K .next e c):Ts n (d+3) ((FK<|(DS 57).drop 1).drop 1) (eR i p r s++[.p<|.tup [.int b,.none]]) (Ac a::s.o::memC A h::(s.X++[o])) K:=by
 rw[DE (qS v j (R:=(il r).length) (by rw[U (BH ..) u]) f) λB z y=>?_];have q:(Ct (3*((l.length:J)-(b:J))+((il r).length:J)).toNat [MV.int 0]).flatten=il (BZ<|3*(A.length-b)+r.length).reverse:=by rw[U fg<|U B<|U (BH ..) Y]
 rw[Ts.of<|B0.mk D<|Al.mk (DN.mpr ⟨Y,G2 y⟩)<|B0.mk Je ⟨z,Al.mk ?_ ?_⟩,(A_ (λl:O MV=>Bm l.length Bj) q).trans<|sz (m:=3000) (by rw[U (BH ..)<|U Bu<|U MM<|b0 v u]) Y,g (s':=⟨((s.X++[o])++[.list T [.int 0]])++[.list T _],s.o,_,b,BZ<|3*(A.length-b)+r.length,h,G2<|by simp⟩) (Aa (A.length-b) (aaw w j C) ⟨Je.trans<|A_ (λl=>V<|AK.list T l) q,Oj j,.inr<|BX (CH (CJ _) w) Y F,E⟩) Y Y]
end
end
section
set_option maxHeartbeats 1000000
section
theorem sW{L:O (O J)}{o x y:AK}{a:O (MV×MV)}{X:O AK}{n:G}{S:O J}(h:(Ac L::o:: .dict T a::X)[n]?=V (BI S)):(Ac L::o::x::(X++[y]))[n]?=V (BI S):=by match n,h with|0,h=>rw[h]|1,h=>rw[h]|2,h=>rw[nomatch AN h]|n+3,h=>rw[N1 h]
structure R2(n:G)where
 a:AV
 c:O AK
 ok:(Bm (n+4) c.length&&G' c.length a)=I
theorem aaN(c:n=s.X.length+4):Gb n (λt:R2 s.X.length=>eR i p r s++[t.a]) R2.c:=λt=>by rw[U c ?_];obtain⟨b,f⟩:=B1 t.ok;rw[DN.mpr ⟨b,U l8<|U (Wh<|GP<|B6 b)<|U (Ki ..)<|DN.mpr ⟨f,Y⟩⟩]
abbrev xb(X:O AK)(S:O J):O AK:=(X++[BI S])++[AK.list T [.int 0]]
theorem eg:X.length<=(xb X S).length:=by unfold xb;rw[U Aq<|U Aq<|U (CR ..)<|BJ _ _]
theorem S6{X Y:O AK}(h:X.length<=Y.length)(b:G' (Y.length+4) a=I):(Bm (X.length+4) (x::y::z::(Y++[w])).length&&G' (x::y::z::(Y++[w])).length a)=I:=by rw[U (by rw[((U Aq ?_):(Y++[w]).length+3=_)];rfl:(x::y::z::(Y++[w])).length=Y.length+4) ?_,DN.mpr ⟨G2<|CU h 4,b⟩]
theorem cg{S r a:O J}:((il S.reverse).length:J)+((il r).length:J)-((il a.reverse).length:J)=(S.length:J)+r.length-(a.length:G):=by rw[U (BH ..)<|U (BH ..)<|U (BH ..)<|U Bu<|U Bu Y]
theorem aam{Γ}{d}{n}{e}{i}{p}{r}{K}{x}{s}{l}(tk:I3 Γ.S n e i)(N:Γ.S i=V (.list T l))(Z:Ck Γ.S e l)(M:∀a,dep a<dep e->Kv Γ a){m}(g:RI (Ay e) n p r m s)(C:s.S.length<=3000){S'}{ks}(O:EX (Ay e) ks)(H:r.length<=2)(S:S'.length<=900000)(v:(s.j=0/\x=(decide (S'.length=r.length)&&(Au T r.reverse S').isSome))\/(0<s.j/\∃b c,c<=s.S.length/\S'=b++BZ (s.S.length-c)/\(∀k,D4 ((Ay e).drop s.j) (BZ k)=if c<=k then .fin (b++BZ (k-c))else .no)/\x=decide (Au I r.reverse b=V [])))(U:KV K x n):Ts Γ (d+2*dep e+4) ((FK<|(DS 57).drop 1).drop 1) (eR i p r s++[.t [.p<|.int ((Ay e).length:G),.c<|s.X.length+3]]) (Ac n::s.o::memC (Ay e) ks::(s.X++[BI S'])) K:=by
 rw[Ts.cut 1 (σ:=R2 s.X.length) (λt=>eR i p r s++[t.a]) R2.c (λt=>End x n r t.a t.c) (aaN (by rw[A9 Aq ?_];rfl:(s.X++[BI S']).length+3=s.X.length+4)) (Ts.of<|Ap.d (λh=>?_) λh=>?_) λt q=>qH (d:=d+2*dep e+1) q H U];·rw[Em ((v.resolve_left λz=>Aj (Du.mp h)<|by rw[A9 z.1<|GN 0]).2) λb c P D W Q=>A9 D ?_,B0.mk (sW g.1)<|B0.mk (FQ (H:=s.X) (l:=[])) ?_];have u:=zv P Q (k:=((il s.S.reverse).length:J)+((il r).length:J)-((il (b++BZ (s.S.length-c)).reverse).length:J)) cg;(have y:(((il s.S.reverse).length:J)+((il r).length:J)-((il (b++BZ (s.S.length-c)).reverse).length:J))<=3002:=by rw[A9 cg<|Fm (Int.sub_le_self _<|EE _)<|DM.mpr<|Cq C H]);rw[Ap.d (λB=>?_) λB=>⟨⟨.p .none,Ac n::s.o::memC (Ay e) ks::(s.X++[BI _]),?_⟩,[_],[],.no<|u.1<|Uz.mp B,Y,(Ba _).symm⟩];(·have F:=u.2 B;have w:((((il s.S.reverse).length:J)+((il r).length:J)-((il (b++BZ (s.S.length-c)).reverse).length:J))).toNat<=3002:=Int.toNat_le.mpr y;have A:=fg (n:=((((il s.S.reverse).length:J)+((il r).length:J)-((il (b++BZ (s.S.length-c)).reverse).length:J))).toNat);rw[B0.mk Je ⟨⟨B,Fm y<|(dc Y)⟩,Al.mk ((A_ (λl:AB MV=>Bm l.length Bj) A).trans<|sz (m:=3002) (by rw[A9 (BH ..)<|A9 Bu<|A9 MM w]) Y) ?_⟩,Cv.frame [(xb s.X<|b++BZ (s.S.length-c)).length+3,0,2] [.p<|.ref i,.p<|.int s.j,.c 0,.c 1,.c 2] (DF.mpr ⟨λm=>by simp at m,(dc Y)⟩) (bind_eq (a:=BI<|BZ _) (Je.trans<|A_ (λl=>V<|AK.list T l) A) Y) Y Y (jz tk N Z M (g.2▸Be _ _) O el<|by rw[A9 MM<|L w<|(dc Y)]) λX a q=>?_];replace q:=(W ..)▸q;rw[Ao (λj:c<=(((il s.S.reverse).length:J)+((il r).length:J)-((il (b++BZ (s.S.length-c)).reverse).length:J)).toNat=>?_) λj=>?_];(·replace q:=(AM j)▸q;cases q with| @fin _ f E R=>rw[⟨⟨.t [.p<|.int _,.c<|(xb s.X<|b++BZ (s.S.length-c)).length+3],Ac n::s.o::memC (Ay e) f::(xb s.X (b++BZ (s.S.length-c))++[BI _]),?_⟩,[_],[],.fin (n:=(xb s.X<|b++BZ (s.S.length-c)).length+2) Je<|F.1 j,Y,?_⟩,S6 eg Y0];·rw[(?_:Ac n::s.o::memC (Ay e) f::((xb s.X (b++BZ (s.S.length-c))++[_]).set (xb s.X<|b++BZ (s.S.length-c)).length _++[])=_),A9 Zf ?_];rfl);·replace q:=(AS j)▸q;cases q with| @no o f E=>rw[⟨⟨.p .none,Ac n::s.o::memC (Ay e) f::(xb s.X (b++BZ (s.S.length-c))++[o]),?_⟩,[_],[],.no<|F.2 j,Y,?_⟩,S6 eg Y];·rw[(?_:Ac n::s.o::memC (Ay e) f::((xb s.X (b++BZ (s.S.length-c))++[_]).set (xb s.X<|b++BZ (s.S.length-c)).length _++[])=_),A9 Zf ?_];rfl);rw[S6 (B2 _) Y]
 rw[⟨⟨_,Ac n::s.o::memC (Ay e) ks::(s.X++[BI S']),S6 (B2 _) Y0⟩,[],[],.fin (n:=s.X.length+2) (FQ (H:=s.X) (l:=[])) (v.resolve_right λz=>h<|Du.mpr z.1).2,(Ba _).symm,(Ba _).symm⟩]
end
end
section
set_option maxHeartbeats 1000000
section
theorem abJ:∀{p r}{A}{j}{S}(h:Wo A p r j S)(b:A.length<=900)(a:D8 p)(c:r.length<=2),S.length<=3000/\Eg S:=by intros p r A j S _ h b a c;rcases h with⟨_,rfl⟩|⟨_,rfl,_⟩;rw[⟨by rw[U Bu<|L a.1<|(dc Y)],QN a.2⟩,⟨U MM<|b0 b c,el⟩]
theorem aa_:∀{X},∀n,∀x,dep x<n->Kv X x:=by intros X;intros n;induction n with|zero=>rw[λx h=>Aj h<|Sv _]|succ n v=>intros _ n _ v;intros x _ M d i W p r u A y;intros _ d i W p r _ u A y;have v:∀a,dep a<dep x->Kv X a:=λa h=>v a<|CQ h<|JJ M;rw[AY u.1 λl B z=>?_];have C:(Ay x).length<=900:=L Qn u.3;rw[Cv.FO Y Y Y<|Ts.cut 1 (σ:=BF) (λZ=>[.p<|.ref i,.p<|.tup<|il p,.p<|.tup<|il r,.c 0,.p<|.int 0,.c 1,.c 2]) (λZ=>[Ac W,BI p.reverse,.dict T []]) (λZ=>Bg) (λZ=>Y) (Ts.of<|Al.mk (sz (m:=2) (by rw[U (BH ..) A.1]) Y) ⟨(),[],[],B9,Y,by unfold BI;rw[U (Mr ..) ?_];rfl⟩) λZ Z=>Ts.of ?_,Wl.mk (σ:=R0) (e:=eR i p r) (cs:=cR (Ay x) W) (RI (Ay x) W p r) wq (m:=(Ay x).length) (CH C<|(dc Y)) ⟨⟨[],BI p.reverse,1,0,p.reverse,[],Y⟩,[],[],⟨Y,Y,.inl ⟨Y,Y⟩,FC,λZ m=>(by cases m)⟩,Y,Y⟩ λm s g=>xA (abJ g.3 C A y.1) λD H=>Ts.cut 1 (e1 i p r s) (c1 (Ay x) W s) (λt=>EX (Ay x) t.ks/\AR (Ay x) s.j (s.X.length+3) (D4 ((Ay x).drop s.j) s.S) t.a t.o) oC (zB u B z v g H D) λt q=>?_];(rw[xA q λE G=>?_];clear q);have f:=abZ g.3 (u.2.ab0 Y (λw m=>(u.5 w m).1:∀w∈W,w.length<=2));have S:∀{k:Ks},(∀{b j F},b=DL (Ay x) r T p.reverse->k (.ret<|.p<|.bool b) j (Ac W::F))->KV k (DL (Ay x) r T p.reverse) W:=λh=>h;obtain⟨a,o,w,Q⟩:=t;generalize D4 ((Ay x).drop s.j) s.S=R at f G;cases G with|no=>rw[Ts.of<|PQ.ret () B9 Y (by rw[U ((f:DL (Ay x) r T p.reverse=T)) Y]) Y]|jmp P O=>rw[r5 (d:=d+2*dep x+1) B (z.len) C P O E y.1 g.2 f λ{I j c}h J K=>⟨I,j.drop 7,[],h,by rw[Ag J<|U (Kz ..) Y],K.trans (Ba _).symm⟩]|fin N=>rw[aam u B z v g D E y.1 N f λ{b j F}e=>PQ.ret () B9 Y (by rw[U e Y]) Y]
theorem wM:Kv Γ a:=aa_ _ a<|JG _
end
end
section
set_option maxHeartbeats 1000000
section
inductive BodyOk(t:Ns):Prop
 |mk(lw:CL C [B'.res] t)(sz:(flat t).length<=900)(dp:dep t<=8)
def kept(H a:MH):Prop:=∀(i:G)(o:AK),H[i]?=V o->a[i]?=V o
theorem wD(f:∀(i:G)(o:AK),a.S i=V o->H[i]?=V o):Cells a [o] [H.length]<|H++[o]:=⟨DF.mpr ⟨Ia,FC⟩,Y,λn o i b c=>by induction n using CV with|zero=>(replace b:=AN b;subst b);(replace c:=AN c;subst c);rw[FQ]|succ n=>rw[nn b],λi o e=>⟨DV<|f i o e,λm=>DZ (DH<|f i o e)<|B3.mp m⟩⟩
theorem ui(g:Go [H.length] (H++[o]) b c):kept H c:=λi x e=>g.3 i x (DV e) λm=>DZ (DH e)<|B3.mp m
theorem bh:∀{N c d E H}{t}{r}{fz}(f:2000000<=N)(ok:BodyOk t)(h:H[r]?=V (.list fz<|BD<|flat t++[[11]])),(BR tb.P FF N (d+2*dep t+6) c 58 [.ref r] H).wp (λv k=>v= .bool (HR t)/\kept H k) E:=by intros N c d E H t r fz _ f ok h;have j:=ay (rz:=c) (E:=E) f (flat t).length t (B2 _) (d:=d+dep t+4) ok.1 h (pre:=[]) (post:=[]) Y (.inr Y) (by rw[U Aq<|L (CU ok.2 1)<|(dc Y)]);rw[(by lia:d+dep t+4+dep t+1=d+2*dep t+5)]at j;rw[Cg Y Y<|Wc.ret<|Ly<|Es<|mJ<|Ly<|F1 (Ai.cons (Ev.loc Y)<|Ai.one Ev.con)<|R.wp_mono j (λv b q=>?_) λZ Z h=>h];intros _ v b _ q;(rw[Em q λa l BL Bf n p=>?_];clear q;rw[U BL<|xA Bf λu s=>?_]);rw[RP<|LW (j:=0) (LD<|FA 1) Y<|Es<|F1 (Ai.tup Ai.nil<|G5 Y)<|Es<|F1 (Ai.tup (Ai.cons Ev.con<|Ai.one Ev.con)<|G5 Y)<|Es<|Ee.list (Ai.one<|Ai.tup (Ai.cons Ev.con<|Ai.one Ev.con)<|G5 Y) (G5 Y)<|Jy ?_,R.wp_mono (Qx<|wM (Γ:=⟨N,c,λi=>b[i]?,f⟩) (d:=d) (⟨(Aa l s<|n _ λi o Z e=>e),ok.1,ok.2,CD ok.3 1,λw m=>by rw[U (B3.mp m) ⟨(dc Y),(dc Y)⟩],Y⟩:I3 (λi=>b[i]?) [B'.res] t a) (p:=[]) (r:=B'.res) ⟨(dc Y),λZ m=>(by cases m)⟩ ⟨(dc Y),(dc Y)⟩ [b.length] [.ref a,.tup [],.tup<|il B'.res,.ref b.length] _ (wD λZ Z e=>e) Y) (λv y q=>by obtain⟨x,z,BM,g,_,ex,_,_,rfl,_⟩:=q;rw[U (AN ex) ?_,⟨Y,λi o e=>ui g i o<|p i o e⟩]) λZ Z h=>h]
end
end
section
set_option maxHeartbeats 1000000
/-! how a row changes the height -/
def U6:O<|MV×MV:=[(.int 1,.int 0),(.int 65,.int 1),(.int 66,.int 1),(.int 32,.int 1),(.int 33,.int<|-1),(.int 34,.int 0),(.int 26,.int<|-1),(.int 13,.int<|-1),(.int 27,.int<|-2),(.int 28,.int<|-2)]
theorem K0(h:k≠c):Cd (.int c) ((.int k,v)::a)=Cd (.int c) a:=AS λq=>h<|eq_of_beq<|(q:(k==c)=I)
theorem sR(h:69<=c):Cd (.int c) U6=C:=by have e:∀{k:J},k<69->k≠c:=λb q=>Aj (q▸b)<|Gn.mpr h;unfold U6;rw[U (K0<|e<|(dc Y))<|U (K0<|e<|(dc Y))<|U (K0<|e<|(dc Y))<|U (K0<|e<|(dc Y))<|U (K0<|e<|(dc Y))<|U (K0<|e<|(dc Y))<|U (K0<|e<|(dc Y))<|U (K0<|e<|(dc Y))<|U (K0<|e<|(dc Y))<|U (K0<|e<|(dc Y)) ?_];rfl
inductive Dl(δ:J):J->O J->Prop
 |call(f:G)(h:([0,0,-1]:O J)[f]?=V δ):Dl δ 16 [(f:J)]
 |tab{c:J}{rs:O J}(n:c≠16)(h:Cd (.int c) U6=V (.int δ)):Dl δ c rs
 |num{c:J}{rs:O J}(n:c≠16)(h:Cd (.int c) U6=C)(e:δ=1-((Eh c).1.length:J)):Dl δ c rs
inductive RD(s:AO J)(a:Ak)(c:J)(rs:O J):Prop
 |jmp(h:c∈([0,12,14,15,18]:O J))(e:∀h,iA s a h=C)
 |Bv(h:c∉([0,12,14,15,18]:O J))(δ:J)(e:∀h,iA s a h=h.map λh=>h+δ)(d:Dl δ c rs)
theorem v8 (h : Rw l r a w) (o : a ≠ .bad) : RD s a (r.headD 0) r.tail := by
 have f : ∀ (c : J)  {j : O J}   {w g : O J}   (d : J),  (c ∉ ([0, 12, 14, 15, 18] : O J))   → (g.length : J)  - w.length = d → Dl d c j → RD s (.Bv w g) c j := fun c {_ _ _} d v u p => .Bv v d (fun h => by rw [Ag u ?_]; rfl) p
 induction h using Rw.casesOn with
 | Mv => rw [f 65 1 ((dc Y))  Y (.tab  ((dc Y))  Y)]
 | put2 => rw [f 66 1 ((dc Y))  Y (.tab  ((dc Y))  Y)]
 | get => rw [f 32 1 ((dc Y))  Y (.tab  ((dc Y))  Y)]
 | PH => rw [f 1 0 ((dc Y))  Y (.tab  ((dc Y))  Y)]
 | MB => rw [f 34 0 ((dc Y))  Y (.tab  ((dc Y))  Y)]
 | drop => rw [f 26 (-1) ((dc Y))  Y (.tab  ((dc Y))  Y)]
 | set => rw [f 33 (-1) ((dc Y))  Y (.tab  ((dc Y))  Y)]
 | Mf | N8 | NF | NN => rw [Aj Y o]
 | sel => rw [.Bv ((dc Y))  (-2) (fun Z => Y)  (.tab ((dc Y))  Y)]
 | NH => rw [f 28 (-2) ((dc Y))  Y (.tab  ((dc Y))  Y)]
 | @num c h A =>
   rw [f c (1 - ((Eh c).1.length : J))  (fun m => ?_) ?_ (.num (fun q => Aj (q ▸ h.1) ((dc Y)))  (sR h.1) Y), dS h.1 m]
   · rw [U Bu  (U Bu  (U Nv.2  ?_))]; rfl
 | @call y i k n B  b z =>
   match y, n with
   | 0, n =>  (replace n :=  AN n;  clear B; subst n);  (replace b := AN b; clear z o; subst b); rw [f 16 0 ((dc Y))  Y (.call  0 Y)]
   | 1, n =>  (replace n :=  AN n;  clear B; subst n);  (replace b := AN b; clear z o; subst b); rw [f 16 0 ((dc Y))  Y (.call  1 Y)]
   | 2, n =>  (replace n :=  AN n;  clear B; subst n);  (replace b := AN b; clear z o; subst b); rw [f 16 (-1) ((dc Y))  Y (.call  2 Y)]
 | Ib => rw [f 13 (-1) ((dc Y))  (by rw [U IB  ?_]; lia) (.tab ((dc Y))  Y)]
 | br => rw [.jmp (((dc Y)  : (12 : J)  ∈ ([0, 12, 14, 15, 18] : O J)))   fun Z => Y]
 | HP => rw [.jmp (((dc Y)  : (14 : J)  ∈ ([0, 12, 14, 15, 18] : O J)))   fun Z => Y]
 | ret => rw [.jmp ((dc Y))  fun Z => Y]
 | Kk => rw [.jmp ((dc Y))  fun Z => Y]
 | tail => rw [.jmp (((dc Y)  : (18 : J)  ∈ ([0, 12, 14, 15, 18] : O J)))   fun Z => Y]
theorem m6(h:Rw f (c::g) a w)(b:a≠.bad):RD s a c g:=v8 h b
class inductive ES:Ns->Prop|nil:ES .nil|one{r:O J}{a:Ak}{w:G}{t:Ns}(n:a≠.bad)(h:ES t):ES<|.one r a w t|Bz{c mk:J}{p r:O J}{a t:Ns}(ha:ES a)(h:ES t):ES<|.Bz c mk p r a t
theorem uQ:∀{t},∀{D}{st},Dv (Ay t) D st≠C->ES t:=by intros t;induction t with|nil=>rw[λZ=> .nil]|one r a w t f=>intros _ r a w t _ f;intros D st _ h;have h:(Br D st a).bind (λy=>Dv (Ay t) y.1 y.2)≠C:=h;(cases e:Br D st a with|none=>rw[e]at h;rw[Aj Y h]|some y=>rw[e]at h;rw[.one (λq=>by subst q;rw[(by cases e)])<|f h])|Bz c g p r a t d b=>intros _ c g p r a t _ d b;intros D st _ h;have h:(Br D st<|HL c p r<|KH c p r a).bind (λy=>Dv (Ay t) y.1 y.2)≠C:=h;cases e:Br D st<|HL c p r<|KH c p r a with|none=>rw[e]at h;rw[Aj Y h]|some y=>rw[e]at h;rw[.Bz (d (D:=T) (st:=p.reverse) λq=>?_)<|b h];rw[show KH c p r a=T from A_ (λo=>Option.elim o T<|Qs (HA c a) p r) q]at e;rw[(by cases e)]
theorem ES.parts(h:ES a):ES (CG a)/\∀b,Dn a=V b->ES b:=by induction h with|nil=>rw[⟨.nil,λZ e=>(by cases e)⟩]| @one r a w t n f c=>(cases d:J0 a with|true=>rw[U (show CG (.one r a w t)= .nil from A_ (λb=> @BG (λZ=>Ns) b (.one r a w<|CG t) .nil) d)<|U (show Dn (.one r a w t)=V t from A_ (λb=> @BG (λZ=>AO Ns) b (Dn t)<|V t) d) ⟨.nil,λb e=>AN e▸f⟩]|false=>rw[U (show CG (.one r a w t)= .one r a w (CG t)from A_ (λb=> @BG (λZ=>Ns) b (.one r a w<|CG t) .nil) d)<|U (show Dn (.one r a w t)=Dn t from A_ (λb=> @BG (λZ=>AO Ns) b (Dn t)<|V t) d) ⟨.one n c.1,c.2⟩])|Bz g h _ c=>rw[⟨.Bz g c.1,c.2⟩]
end
section
set_option maxHeartbeats 1000000
def hI(h:AO J):MV:= @C4 J (λZ=>MV) h .none .int
def Dg(a:O<|AO J):AK:= .list T<|a.map hI
def frB(b:O CS):O CS:= @An CS (λZ=>O CS) b [] λs Z=> @CS.casesOn (λZ=>O CS) s (λZ=>[]) (λZ Z=>[]) (λZ Z=>[]) (λZ Z Z=>[]) (λZ Z Z=>[]) (λZ Z Z=>[]) (λZ Z=>[]) (λZ Z Z Z b=>b) [] (λZ=>[]) (λZ Z Z=>[]) λZ Z Z=>[]
abbrev hB:O CS:=frB<|DS 59
def eH(i:G)(h:AO J):Env:=[.p<|.ref i,.p<|hI h,.c 0]
abbrev ZW(T:O<|AO J):Kt:=PQ (σ:=O (AO J)×AO J) (λs=>s.1++[s.2]=T) (λs=> .p<|hI s.2) λs=>[Dg s.1]
section
variable{Γ:VG}{d i:AE}{L:AB (AB AD)}{h s:AO AD}{acc:AB (AO AD)}{K:Ks}
theorem Uq:AK.list T (acc.map hI++[hI x])=Dg (acc++[x]):=by unfold Dg;rw[U Ci ?_];rfl
theorem abd  : ∀ {D d i L h s p K   r a w} (g : Rw L r a w) (v : a ≠ .bad) (A : p.length   ≤ 100000) (b : ∀ {t ex},   t.take   3 = eH i (iA s a h) → K .next t (Dg   (p ++   [h]) :: ex)),
   Ts D (d + 1) hB (eH i h ++ [.p (.tup (il r)), .p .none, .p .none]) [Dg p]   K := by
 intros D d i L h s p K   r a w _ g v A b
 (injection g.qt with c B _ u C _; subst u)
 rw [Ts.cut 2 (σ := BF) (fun Z => eH i h ++ [.p (.tup (il (c :: B))), .p .none, .p .none, .p (.int c)]) (fun Z => [Dg (p ++   [h])]) (fun Z => Bg) (fun Z => Y)  (Ts.of (Al.mk (blt (m := 100000) (by rw [U (CO  ..) ?_, A]) Y)  ⟨(), [], [], B9, Y,  A_ (fun o => [o]) Uq⟩)) fun Z Z => ?_, Ts.of (Ap.d (fun m => Aj (NA.mp m) C) fun Z => Ap.d (fun m => ?_) fun m => ?_)]
 · cases m6 (s := s) g v with
   | Bv n => rw [Aj m n]
   | jmp _ e => rw [b (ex := []) (by rw [U (e  ..) ?_]; rfl)]
 · cases m6 (s := s) g v with
   | jmp j => rw [Aj j m]
   | Bv _ z e y =>
     intros _ z _ e y
     induction h using C4 with
     | none => rw [b (ex := []) (by rw [U (e  ..) ?_]; rfl)]
     | some x =>
       intros _ x _ b
       have e : iA s a (V x)  = V (x  + z) := e (V x)
       rw [e] at b
       rw [Ap.d (fun h => ?_) fun h => ?_]
       · clear C g m; induction y using Dl.casesOn with
         | call f l =>  match f, l with
           | 0, l =>  (replace l :=  AN l;  subst l);  rw [b (ex := [_]) Y]
           | 1, l =>  (replace l :=  AN l;  subst l);  rw [b (ex := [_]) Y]
           | 2, l =>  (replace l :=  AN l;  subst l);  rw [b (ex := [_]) Y]
         | tab n => rw [Aj h n]
         | num n => rw [Aj h n]
       · clear C g m; cases y with
         | call => rw [Aj Y h]
         | tab n k => rw [Ap.mk (fun Z => B0.mk k (b (ex := [_]) Y))  fun q => nomatch (A_ TY k).symm.trans q]
         | num n k e =>
           subst e
           rw [Ap.mk (fun q => nomatch (A_ TY k).symm.trans q) fun Z => Cv.fr [] [.p (.int c)] FC Y Y Y c9    fun Z Z => b (ex := [_]) (by rw [Ag (BH (Eh c).1) ?_]; rfl)]
theorem sj:((il p).length:J)+(if decide (c=4)=I then 1 else 0)=((Cb c p).length:J):=by
 unfold Cb;by_cases z:c=4;·rw[U (AM z)<|U (DD z)<|U (BH ..)<|U IB<|U Bu ?_];rfl
 ·rw[U (AS z)<|U (Dk z)<|U (BH ..)<|U Bu ?_];rfl
def n9(w:O J)(h:AO J):AO J:=h.map λh=>h-w.length
theorem i4:Hp w g h=(n9 w h).map λx:J=>x+(g.length:J):=by induction h using C4<;>rfl
theorem oh:∀{w d i h f K}{c mk}{p r}{g j}{parts:O (MV×O (AO J))}(H:c=2\/c=3\/c=4)(M:blockKind B' mk=V (p,r))(N:parts.map Ej=[g,j])(B:(f++h::(parts.map E5).flatten).length<=80001)(run:∀v∈parts,(v.1= .none/\v.2=[])\/∃k,v.1= .ref k/\∀SV,(SV++v.2).length<=80001->Cv w (d+2) 59 [.p<|.ref k,.p<|hI<|Hp (Cb c p) p h,.c 0] [Dg SV] (ZW<|SV++v.2))(fin:∀{n ex},n.take 3=eH i (Hp (Cb c p) r h)->K .next n (Dg (f++h::(parts.map E5).flatten)::ex)),Ts w (d+2) hB (eH i h++[.p<|.tup<|il [c,mk],.p g,.p j]) [Dg f] K:=by
 intros w d i h f K c mk p r g j parts _ H M N B run fin;rw[Ts.cut 2 (σ:=BF) (λZ=>eH i h++[.p<|.tup<|il [c,mk],.p g,.p j,.p<|.int c]) (λZ=>[Dg<|f++[h]]) (λZ=>Bg) (λZ=>Y) (Ts.of<|Al.mk (blt (m:=80001) (by rw[U (CO ..) ?_,(AJ (by rw[U Aq ?_,BJ _ _]) B:f.length<=80001)]) Y) ⟨(),[],[],B9,Y,A_ (λo=>[o]) Uq⟩) λZ Z=>?_,Ts.ifs<|Ap.d (λZ=>?_) λm=>Aj (NA.mpr H) m,Ts.cut 1 (σ:=BF) (λZ=>eH i h++[.p<|.tup<|il [c,mk],.p g,.p j,.p<|.int c,.p<|.tup<|il p,.p<|.tup<|il r]) (λZ=>[Dg<|f++[h]]) (λZ=>Bg) (λZ=>Y) (Ts.of<|Cv.fr [] [.p<|.int mk] FC Y Y Y (Yd M) λZ Z=>⟨(),[],[],B9,Y,Y⟩) λZ Z=>?_,Ts.cut 1 (σ:=BF) (λZ=>eH i h++[.p<|.tup<|il [c,mk],.p g,.p j,.p<|.int c,.p<|.tup<|il p,.p<|.tup<|il r,.p<|hI<|n9 (Cb c p) h]) (λZ=>[Dg<|f++[h]]) (λZ=>Bg) (λZ=>Y) (Ts.of ?_) λZ Z=>?_];·induction h using C4 with|none=>rw[⟨(),[],[],B9,Y,Y⟩]|some x=>rw[⟨(),[],[],B9,?_,Y⟩];show eH i (V x)++[_,_,_,_,_,_,AV.p<|.int<|x-((il p).length:J)-(if decide (c=4)=I then 1 else 0)]=_;rw[U (Int.sub_sub ..)<|U sj ?_];rfl
 have gY:=i4 (w:=Cb c p) (g:=p) (h:=h);have fK:=i4 (w:=Cb c p) (g:=r) (h:=h);generalize n9 (Cb c p) h=m at gY fK;have D:∀{a:O (AO J)}{b:O (MV×O (AO J))},a++(b.map E5).flatten=f++h::(parts.map E5).flatten->a.length<=80001:=λe=>AJ (by rw[Ag e<|U Aq ?_,BJ _ _]) B;rw[Ts.cut 1 (σ:=BF) (λZ=>eH i h++[.p<|.tup<|il [c,mk],.p g,.p j,.p<|.int c,.p<|.tup<|il p,.p<|.tup<|il r,.p<|hI m]) (λZ=>[Dg<|f++h::(parts.map E5).flatten]) (λZ=>Bg) (λZ=>Y) (Ts.of ?_) λZ Z=>Ts.of ?_];·rw[Fl.mk (σ:=O<|AO J) (e:=λZ=>eH i h++[.p<|.tup<|il [c,mk],.p g,.p j,.p<|.int c,.p<|.tup<|il p,.p<|.tup<|il r,.p<|hI m]) (cs:=λa=>[Dg a,.list T [g,j]]) (λP a=>∃b,P=b.map Ej/\(∀v∈b,v∈parts)/\a++(b.map E5).flatten=f++h::(parts.map E5).flatten) (.Kd 1 [g,j] (show 2<2000000 by decide) λZ=>Y) (λZ=>Y) ⟨f++[h],[],[],(DB parts N.symm (λZ m=>m)<|by rw[U (Bc ..) ?_];rfl),Y,Y⟩ (λv P a z=>Ts.of ?_) λa z=>?_];(·(rw[Cp z λb e1 t u=>?_];clear z);induction b using An with|nil=>rw[nomatch e1]|cons q b=>obtain⟨rfl,rfl⟩:=Cs e1;obtain⟨R,l⟩:=q;have S:=D u;rcases run _<|t _<|.head _ with⟨E,Q⟩|⟨k,E,oI⟩;(·cases E;cases Q;rw[⟨a,[.p .none],[],(DB b Y (λv m=>t v<|.tail _ m) u),Y,Y⟩]);·cases E;(have A:(a++l)++(b.map E5).flatten=f++h::(parts.map E5).flatten:=by rw[U (Bc ..) ?_,u]);have F:=oI a (D A);rw[gY]at F;have nx:∀{s:O (AO J)×AO J},s.1++[s.2]=a++l->D1 (s.1.map hI).length Bj=I/\AK.list T (s.1.map hI++[hI s.2])=Dg (a++l):=λ{s}e=>⟨blt (m:=80001) (by rw[U (CO ..) ?_,AJ (by rw[Ag e<|U Aq ?_,BJ _ _])<|D A]) Y,Uq.trans<|A_ Dg e⟩;induction m using C4 with|none=>rw[Cv.fr [0] [.p<|.ref k,.p .none,.c 0] (by decide) Y Y Y F λs e=>Al.mk (nx e).1 ⟨a++l,[.p<|.ref k],[],(DB b Y (λv m=>t v<|.tail _ m) A),Y,A_ (λo=>[o,_]) (nx e).2⟩]|some y=>rw[Cv.fr [0] [.p<|.ref k,.p<|.int<|y+((il p).length:J),.c 0] (by decide) Y Y Y (by rw[U (BH ..) ?_,F]:Cv w (d+2) 59 [.p<|.ref k,.p<|.int<|y+((il p).length:J),.c 0] [Dg a]<|ZW<|a++l) λs e=>Al.mk (nx e).1 ⟨a++l,[.p<|.ref k],[],(DB b Y (λv m=>t v<|.tail _ m) A),Y,A_ (λo=>[o,_]) (nx e).2⟩]);·(rw[Cp z λb e1 t u=>?_];clear z);induction b using An with|cons=>rw[nomatch e1]|nil=>obtain rfl:a=_:=(Ba a).symm.trans u;rw[⟨(),[],[_],B9,Y,Y⟩]
 ·rw[fK]at fin;induction m using C4 with|none=>rw[fin (ex:=[]) Y]|some y=>rw[fin (ex:=[])<|by rw[Ag (BH r) ?_];rfl]
structure HS where
 t:Ns
 h:AO J
 a:O<|AO J
instance:CK HS:=⟨⟨.nil,C,[]⟩⟩
inductive HG(S:Fx)(L:O<|O J)(t0:Ns)(s:AO J)(R:O<|AO J)(vs:O MV)(z:HS):Prop
 |mk(nd:Ck S z.t vs)(lw:CL C L z.t)(nb:ES z.t)(dp:dep z.t<=dep t0)(e:z.a++iT z.t s z.h=R)
theorem WI:∀{s h},(iT t s h).length=(flat t).length+1:=by induction t with|nil=>rw[Y]|one r a w t g=>rw[A_ (·+1) g]|Bz c j p r a t f b=>intro s h;rw[(?_:(iT a _ _++iT t s _).length+1=_),U Mn<|U Aq<|U f<|U b<|U (Nat.add_add_add_comm ..) Y]
theorem rR(h:a<t):∃c,d+t+2=c+a+3:=by rw[xE (gQ h) λk b=>?_,U b ?_,⟨d+k,A_ (·+3) (by(rewrite [EL a];rw[Ag (CR ..) Y]):d+(a+k)=d+k+a)⟩]
theorem ES.on:∀{r a w t}(h:ES<|.one r a w t),a≠.bad/\ES t:=by intros r a w t _ h;cases h with|one n h=>rw[⟨n,h⟩]
theorem ES.bk:∀{c mk p r a t}(h:ES<|.Bz c mk p r a t),ES a/\ES t:=by intros c mk p r a t _ h;cases h with|Bz h k=>rw[⟨h,k⟩]
def fL(Γ:VG)(D:G)(a:Ns):Prop:=∀{i:G}{l:O MV}{L:O (O J)}{s h:AO J}{acc:O (AO J)},Γ.S i=V (.list T l)->Ck Γ.S a l->CL C L a->ES a->(acc++iT a s h).length<=80001->Cv Γ D 59 [.p<|.ref i,.p<|hI h,.c 0] [Dg acc] (ZW<|acc++iT a s h)
theorem Gu.nQ(h:Gu S a f g l)(n:CL M L a):∃parts:O (MV×O (AO J)),parts.map Ej=[f,g]/\(parts.map E5).flatten=iT a B B/\∀v∈parts,(v.1= .none/\v.2=[])\/∃q∈l,v=(.ref q.1,iT q.2 B B):=by have P:=n.parts;have two:∀{P:MV×O (AO J)->Prop}{x y},P x->P y->∀q∈[x,y],P q:=λo p q m=>(CZ.mp m).elim (λe=>e▸o) λm=>B3.mp m▸p;induction h using Gu.casesOn with| @one i c k no=>rw[(DB ([(f,iT a B B),(g,[])]) Y (Ba _)<|two (.inr ⟨_,.head _,by rw[U c Y]⟩)<|.inl ⟨k,Y⟩)]| @two i j b c k r=>rw[(DB ([(f,iT (CG a) B B),(g,iT b B B)]) Y (by rw[U (P.7 ..)<|U r ?_,A_ (_++·)<|Ba _])<|two (.inr ⟨_,.head _,by rw[U c Y]⟩)<|.inr ⟨_,.tail _<|.head _,by rw[U k Y]⟩)]
theorem Gu.noB(h:Gu S a f c j)(b:ES a):∀q∈j,ES q.2:=by induction h using Gu.casesOn with|one=>rw[λq m=>B3.mp m▸b]|two _ _ g=>rw[λq m=>(CZ.mp m).elim (λe=>e▸b.parts.1) λm=>B3.mp m▸b.parts.2 _ g]
theorem vj{D l R}{o z}(g:HG Γ.S L l s R (v::o) z)(F:R.length<=80001)(N:∀a,dep a<dep l->fL Γ (D+2) a)(P:∀(z:HS)(Q:Env)(ex:O AK),HG Γ.S L l s R o z->K .next (eH i z.h++Q) (Dg z.a::ex)):PB [3,4,5] I v (eH i z.h) λf=>Ts Γ (D+2) hB f [Dg z.a] K:=by obtain⟨S,j,n⟩:=z;obtain⟨nd,u,nb,x,e⟩:=g;have nd:=nd.inv;have H:∀{z}{f:Env}{ex},HG Γ.S L l s R o z->f.take 3=eH i z.h->K .next f (Dg z.a::ex):=λ{z f ex}g k=>s_ (env':=eH i z.h++f.drop 3) (c':=Dg z.a::ex) ((Kz 3 f).symm.trans<|A_ (·++f.drop 3) k) Y<|P z _ ex g;induction S using Ns.casesOn with|nil=>rw[(by cases nd)]|one r a w t=>rw[AY nd λZ e1 nd=>?_];obtain⟨rfl,rfl⟩:=Cs e1;have e:n++(j::iT t s (iA s a j))=R:=e;rw[abd (d:=D+1) (s:=s) u.on.1 nb.on.1 (AJ (AJ (AJ (BJ _ _)<|C8 Aq.symm)<|e▸F:n.length<=80001)<|(dc Y)) λk=>H (z:=⟨t,iA s a j,n++[j]⟩) ⟨nd,u.on.2,nb.on.2,x,by rw[U (Bc ..) ?_,e]⟩ k]|Bz c mk p r a t=>rw[Vh nd λV x7 Z ps e1 y A nd=>?_];obtain⟨rfl,rfl⟩:=Cs e1;have b:=u.bk;rw[Cp (y.nQ (B:=Hp (Cb c p) p j) b.5) λparts W X T=>?_];(have e1:(n++j::(parts.map E5).flatten)++iT t s (Hp (Cb c p) r j)=R:=by rw[U X<|Ag e<|U (Bc ..) ?_];rfl);rw[oh (d:=D) b.1 b.2 W (AJ (AJ (BJ _ _)<|C8 Aq.symm)<|e1▸F) (λv m=>(T v m).imp id λ⟨q,B,ev⟩=>⟨q.1,A_ Ej ev,λSV M=>?_⟩) λk=>H (z:=⟨t,_,_⟩) ⟨nd,b.6,nb.bk.2,AJ (MU _ _) x,e1⟩ k,AY (A q B) λla J E=>?_,DE (y.part b.5 q B) λC G Z=>?_];rw[ev]at M⊢;rw[N _ (CH C<|CQ (Q8 _ _) x) J E G (y.noB nb.bk.1 q B) M]
theorem abM:∀{Γ},∀n,∀{t},dep t<n->∀{d},fL Γ (d+dep t+3) t:=by intros Γ;intros n;induction n with|zero=>rw[λh=>Aj h<|Sv _]|succ n o=>intros _ n _ o;intros t _ y d i l L s h acc q f m w c;intros _ d i l L s h acc _ q f m c;(have A:l.length<2000000:=by rw[Aq,WI,<-CR]at c;rw[CH (f.len▸AJ Qn (AJ (Be _ _)<|GP c))<|by decide]);rw[Cv.FO A7 A7 A7<|Ts.cut 1 (σ:=AB (AO AD)×AO AD) (λz=>[.p<|.ref i,.p<|hI z.2]) (λz=>[Dg z.1]) (λz=>z.1++[z.2]=acc++iT t s h) (λZ=>A7) (Ts.of ?_) λz g=>Ts.of<|PQ.ret z g A7 A7 A7,Fl.RB (σ:=HS) (e:=λz=>eH i z.h) (cs:=λz=>[Dg z.a]) (HG Γ.S L t s<|acc++iT t s h) (.fix i AH l A q) (λZ=>A7) ⟨t,h,acc⟩ [] [] ⟨f,m,w,B2 _,A7⟩ A7 A7 (λv G z g K j Z=>vj (D:=d+dep t) g c (λa r=>?_) λz E C g=>(j z E C g).1) λz g=>?_,xE (rR (d:=d) r) λH e=>?_,A9 e ?_,o<|CQ r<|JJ y];·obtain⟨u,B,F⟩:=z;obtain⟨b,_,_,_,e⟩:=g;have b:=b.inv;induction u using Ns.casesOn with|nil=>rw[⟨(F,B),[_],[],e,A7,A7⟩]|one=>rw[AY b λZ k Z=>?_,nomatch k]|Bz=>rw[dz b λZ Z Z Z k Z=>?_,nomatch k]
end
end
section
set_option maxHeartbeats 1000000
theorem cV(h:BV [] b [])(d:b.length<=900):∃t,b=flat t/\BodyOk t:=by rw[Cp (parse _ (B2 _) h) λt e c f=>⟨t,e,c,e▸d,f⟩]
theorem rT:(HT o).length<=4*o.length:=by induction o with|nil=>rw[B2 _]|cons c o b=>rw[((U Aq<|Cq b ?_):(HT o++F9 c).length<=4*(o.length+1))];unfold F9;rw[Ao (λh:c=4=>?_) λh=>?_,U (AM h)<|B2 4,U (AS h)<|Be 2 2]
theorem fh(h:BV [] pre S)(c:pre.length<=400):∃t,NX pre (Gv S)=flat t++[[11]]/\BodyOk t:=by rw[AY (cV (h.app BV.F9)<|by rw[U Aq<|L (Cq c<|Ce<|L rT<|KQ 4 (by unfold Gv;rw[U (CO ..)<|U Bu<|(h.len<|CJ 8)]:(Gv S).length<=8))<|(dc Y)]) λt e b=>?_,(Aa t (by rw[Ag e<|U (Bc ..) ?_];rfl) b)]
theorem tD(b:BodyOk t)(h:JN B' (flat t++[[11]])= .ok hs):HR t=I:=by have:=XJ b.1 (L b.2<|by decide);rw[(h▸this).1]
theorem xu:∀{t}{w j}(b:BodyOk t)(h:JN B' (flat t++[[11]])= .fail w j),HR t=T:=by intros t w j _ b h;have:=XJ b.1 (L b.2<|(dc Y));rw[(h▸this).1]
inductive dN(t:Ns)(w j:G):Prop
 |mk(pre post:O<|O J)(row o:O J)(t1:Ns)(e:flat t++[[11]]=pre++row::post)(hj:j=pre.length)(hw:w=Fp row)(ho:Fu pre []=V o)(e1:NX pre o=flat t1++[[11]])(k1:BodyOk t1)(h1:HR t1=I)
   (nx:post=[]\/∃r2 p2 o2 t2,post=r2::p2/\Fu (pre++[row]) []=V o2/\NX (pre++[row]) o2=flat t2++[[11]]/\BodyOk t2/\HR t2=T)
theorem lr:Fk []:=λZ m=>(by cases m)
theorem refused:∀{t}{w j}(g:BV [] (flat t) [])(b:(flat t).length<=301)(h:Rv (flat t++[[11]]) w j),dN t w j:=by
 intros t w j _ g b h;(injection h.rZ with pre row post o _ i;rw[Fb i λe n p i=>DE i λk BL v=>?_];(injection BL with x _ y;clear BL));have d:∀{S:O Fr},BV [] pre S->pre.length<=301->∃a,NX pre o=flat a++[[11]]/\BodyOk a/\HR a=I:=λ{S}q b=>by intros _ S _ q;obtain rfl:Gv S=o:=AN<|(q.codes lr).1.symm.trans k;rw[AY (fh q<|L b<|by decide) λa e1 c=>(DB a e1 c<|tD (hs:=x) c<|by rw[Ag e1 y])]
 rcases Uj post with rfl|⟨HY,z,rfl⟩;rw[xA (bg e Y) λf Z=>Cp (d (f▸g)<|f▸b) λa e1 c l=>⟨pre,[],row,o,a,e,n,p,k,e1,c,l,.inl Y⟩];intros _ HY z _ i e;·rw[NQ (List.exists_cons_of_ne_nil (l:=HY.concat z)<|by rw[U QT λq=>nomatch(WK.mp q).2]) λA B D=>?_];have f:flat t=pre++row::HY:=(bg (e.trans (by rw[U QT<|U (Bc ..) ?_];rfl:_=(pre++row::HY)++[z])) Y).1;(have r:pre++row::HY=(pre++[row])++HY:=by rw[U (Bc ..) ?_];rfl);rw[f,r]at g;rw[AY (BV.split (pre++[row]) g) λE m Z=>AY (BV.split pre m) λK F Z=>?_];(have Mp:pre.length+1<=301:=by rw[f,r,Aq,Aq]at b;rw[L (BJ _ _) b]);rw[Cp (d F<|GP Mp) λa e1 c l=>AY (fh m<|by rw[U Aq<|L Mp<|by decide]) λH s u=>⟨pre,HY.concat z,row,o,a,e,n,p,k,e1,c,l,(.inr<|O' A B (Gv E) H D ((m.codes lr).1) s u<|xu (w:=w) (j:=j) u<|Ag s ?_)⟩];unfold NX;rw[U (Bc ..)<|v _]
end
section
set_option maxHeartbeats 1000000
def tyB(b:O CS):O CS:= @An CS (λZ=>O CS) b [] λs Z=> @CS.casesOn (λZ=>O CS) s (λZ=>[]) (λZ Z=>[]) (λZ Z=>[]) (λZ Z Z=>[]) (λZ Z Z=>[]) (λZ Z Z=>[]) (λZ Z=>[]) (λZ Z Z Z Z=>[]) [] (λZ=>[]) (λZ Z Z=>[]) λZ Z h=>h
section
theorem kept.trans{H c b:MH}(x:kept H c)(y:kept c b):kept H b:=λi o e=>y i o<|x i o e
abbrev G0(N:G)(a:AL)(b:2000000<=N):VG:=⟨N,a,λZ=>C,b⟩
theorem g0(h:∀(i:G)(o:AK),a.S i=V o->H[i]?=V o):Cells a [] [] H:=⟨FC,Y,λn o i e=>nn e,λi o e=>⟨h i o e,λm=>nomatch m⟩⟩
theorem Zt(e:H[i]?=V o)(f:∀(j:G)(o:AK),a.S j=V o->H[j]?=V o/\j≠i):Cells a [o] [i] H:=⟨DF.mpr ⟨Ia,FC⟩,Y,λn o i b c=>by induction n using CV with|zero=>(replace b:=AN b;subst b);(replace c:=AN c;subst c);rw[e]|succ n=>rw[nn b],λi o e=>⟨(f i o e).1,λm=>(f i o e).2<|B3.mp m⟩⟩
theorem y8(c:2000000<=N):(BR tb.P FF N (d+1) f 60 [.tup<|il r] H).wp (λv b=>v= .str (Fp r)/\kept H b) E:=R.wp_mono (Qx<|uR (Γ:=G0 N f c) (d:=d) (r:=r) [] _ H (g0 λZ Z e=>nomatch e) Y) (λv b⟨a,k,BM,g,K,e,_,_,j,l⟩=>by subst j;(replace e:=AN e;subst e);rw[⟨Y,λi o q=>g.3 i o q λm=>nomatch m⟩]) λZ Z h=>h
theorem ji:∀{N l d E H}{b}{B r}{m}(w:2000000<=N)(h:H[b]?=V (Ac B))(u:Cv (G0 N l w) (d+1) 51 [.c 0,.p<|.int m] [Ac B] λc a=>(∃n,a= .c n/\c[n]?=V (Ac r))/\c[0]?=V (Ac B)),(BR tb.P FF N (d+1) l 51 [.ref b,.int m] H).wp (λv j=>(∃k,v= .ref k/\j[k]?=V (Ac r))/\kept H j) E:=by intros N l d E H b B r m _ w h u;rw[R.wp_mono (Qx<|u [b] _ H (Zt h λZ Z e=>nomatch e) Y) (λv j⟨a,D,BM,g,K,e,⟨n,p,s⟩,x⟩=>by subst p;rw[AY (K.at s) λk A y=>?_];(rw[AY (id g.1) λC f Z=>?_];subst f);rw[⟨(Aa k ((AN<|(map_eq A Y:BU _ (.c n)=V (.ref k)).symm.trans e).symm) y),λi o q=>?_⟩];by_cases z:i=b;(·clear e A;subst z;replace q:=h▸q;(replace q:=AN q;subst q);rw[K.3 0 _ _ x Y]);rw[g.3 i o q λm=>z<|B3.mp m]) λZ Z h=>h]
theorem aaI:Ei H .ne (.str w) (.str w)=V T:=by rw[A_ (λb=>V<|!b)<|I' w]
theorem OO(m:H[i]?=V (.inst c j))(g:H[j]?=V (.dict T a))(f:tb.P.Fd c k=C)(d:Df 0 a=I)(b:Cd (.str k) a=V v):Ml tb.P H (.ref i) k= .ok v H:=KS<|bind_eq (Xq m)<|bind_eq (UO g d)<|(AM f).trans b
theorem handler:∀{N l d E H}{t}{D x y w j}{m}(p:2000000<=N)(ok:BodyOk t)(O:(flat t).length<=301)(F:HR t=T)(rf:dN t w j)(s:m 2=V (.ref D))(i:m 4=V (.ref x))(l1:H[x]?=V (.inst 1 y))(K:H[y]?=V (.dict T [(.str 5,.str w),(.str 6,.int 0),(.str 7,.int j)]))(M:H[D]?=V (Ac<|flat t++[[11]])),Wc N l (d+22) (Qc λv Z=>v= .bool I) E (tyB<|(DS 61).drop 2) m H:=by
 intros N l d E H t D x y w j m _ p ok O F rf s i l1 K M;obtain⟨pre,post,row,o,t1,e,rfl,rfl,ho,e1,bV,g1,nx⟩:=rf;intros _ pre post row o t1 _ e ho e1 bV g1 nx K;have hl:pre.length+1<=302:=by have:=A_ RU e;rw[Aq,Aq]at this;rw[L (L (CD (Ce<|CJ _) _)<|C8 this.symm)<|CU O 1]
 have b:∀{t:Ns}{r:G}{H:MH}{Q:MV->MH->Prop},BodyOk t->H[r]?=V (Ac<|flat t++[[11]])->(∀B,kept H B->Q (.bool<|HR t) B)->(BR tb.P FF N (d+22) l 58 [.ref r] H).wp Q E:=λ{t r H Q}ok h q=>by obtain⟨d0,e0⟩:∃d0,d+22=d0+2*dep t+6:=⟨_,UN<|CU (KQ 2 ok.3) 6⟩;rw[U e0<|R.wp_mono (bh p ok h) (λv B z=>by obtain⟨rfl,z⟩:=z;rw[q B z]) λZ Z h=>h]
 rw[Wc.ifs<|SY<|OU<|Ee.EK (Ai.one<|Ev.loc s)<|b ok M λH1 P=>U F ?_];have f:=P _ _ l1;have g:=P _ _ K;have u:=P _ _ M;rw[OU<|Ee.dec (Ed.ne (Ev.attr (Ev.loc i)<|OO (k:=6) f g Y Y Y) Ev.con) (λq=>Aj Y q) λZ=>OU<|Ee.dec (Ed.not<|Ed.WB Ev.con (Ev.attr (Ev.loc i)<|OO (k:=7) f g Y Y Y)<|Ev.len (Ev.loc s)<|MZ u) (λq=>Aj ?_ q) λZ=>?_,⟨EE _,Du.mpr<|by rw[U DA<|U e<|U Aq<|Mu<|FA _]⟩,OU<|bA<|Ee.v (Ev.attr (Ev.loc i)<|OO (k:=5) f g Y Y Y)<|gI<|Ee.EK (Ai.one<|Ev.sub (Ev.loc s) (Ev.attr (Ev.loc i)<|OO (k:=7) f g Y Y Y)<|LX u e Y)<|R.wp_mono (y8 p) (λv H2 z=>?_) λZ Z h=>h];obtain⟨rfl,S⟩:=z;rw[(Aa _ aaI<|?_)];show Wc N l (d+22) _ E [.ret _] m H2;replace f:=S _ _ f;replace g:=S _ _ g;replace u:=S _ _ u;rw[Wc.ret<|SY<|Sg<|Ly<|Es<|Ee.EK (Ai.cons (Ev.loc s)<|Ai.one<|Ev.attr (Ev.loc i)<|OO (k:=7) f g Y Y Y)<|R.wp_mono (ji p u<|e▸jq ho (L (GP hl)<|by decide)) (λv H3 z=>?_) λZ Z h=>h];obtain⟨⟨k,rfl,W⟩,k3⟩:=z;rw[Jy<|b bV (e1▸W) λH4 k4=>U g1 ?_];have YD:=k3.trans k4;obtain⟨A,Lw,X,sp⟩:∃A,BodyOk A/\HR A=T/\Cv (G0 N l p) (d+22) 51 [.c 0,.p<|.int<|(pre.length:J)+1] [Ac<|flat t++[[11]]] λc a=>(∃n,a= .c n/\c[n]?=V (Ac<|flat A++[[11]]))/\c[0]?=V (Ac<|flat t++[[11]]):=by rcases nx with rfl|⟨r2,p2,o2,A,rfl,C,e2,Lw,X⟩;rw[(DB t ok F<|(by rw[U e Qr]:(pre.length:J)+1=((flat t++[[11]]).length:J))▸zL),(DB A Lw X<|U (Qr (x:=row))<|U (by rw[U e<|U (Bc ..) ?_];rfl:flat t++[[11]]=(pre++[row])++r2::p2)<|Ag e2<|jq C<|by rw[U Aq<|L hl<|by decide])]
 rw[Sg<|SQ<|Ly<|Es<|Ee.EK (Ai.cons (Ev.loc s)<|Ai.one (Ev.add (Ev.attr (Ev.loc i)<|OO (k:=7) (YD _ _ f) (YD _ _ g) Y Y Y) Ev.con:Ev N l (d+22) m H4 (.bin .add (.attr (.loc 4) 7)<|.con<|.int 1)<|.int<|(pre.length:J)+1))<|R.wp_mono (ji p (YD _ _ u) sp) (λv H5 z=>?_) λZ Z h=>h];obtain⟨⟨k,rfl,W⟩,_⟩:=z;rw[Jy<|b Lw W λH6 Z=>U X ?_];rfl
end
end
section
set_option maxHeartbeats 1000000
section
theorem aa3(h:l.all prim=I):Kn l l=I:=by induction l with|nil=>rfl|cons a l b=>rw[Ef h λf c=>((U (b c)<|U (ZG ..) ?_):(Pf a a&&Kn l l)=I)];clear h;induction a using MV.casesOn<;>first|rw[nb f]|rw[I' _]|rfl
theorem Yi{l:O (AO J)}:(l.map hI).all prim=I:=by induction l with|nil=>rfl|cons a l b=>induction a using C4<;>exact b
theorem yM{H}{l:O (AO J)}{i j}{f g}(c:H[i]?=V (.list f<|l.map hI))(b:H[j]?=V (.list g<|l.map hI)):Ei H .eq (.ref i) (.ref j)=V I:=bind_eq (bind_eq (F4 c)<|AM Yi)<|map_eq (bind_eq (F4 b)<|AM Yi)<|aa3 Yi
theorem aag{a:O (AO G)}:a.map Ii=(a.map Jm).map hI:=by rw[U TS<|XP λo Z=>by induction o using C4<;>rfl]
theorem xR:∀{N f d E H}{t:Ns}{w y:G}{A:O (AO G)}{k:Loc}(n:2000000<=N)(ok:BodyOk t)(b:HR t=I)(B:k 2=V (.ref w))(S:k 3=V (.ref y))(p:H[w]?=V (Ac<|flat t++[[11]]))(D:H[y]?=V (.list T<|A.map Ii))(e:A.map Jm=iT t (V 0) (V 0)),Wc N f (d+22) (Qc λv Z=>v= .bool I) E ((DS 61).drop 3) k H:=by
 intros N f d E H t w y A k _ n ok b B S p D e;have nb:ES t:=uQ (D:=T) (st:=[]) λq=>by unfold HR DL at b;rw[q]at b;rw[nomatch b]
 rw[Wc.asg<|Ee.list Ai.nil (G5 Y) ?_];obtain⟨F,e0⟩:∃F,d+22=F+dep t+1:=⟨_,UN<|L (CU ok.3 1)<|B6 Y⟩;obtain⟨M,e1⟩:∃M,d+22=M+dep t+3:=⟨_,UN<|L (CU ok.3 3)<|B6 Y⟩;obtain⟨P,W⟩:∃P,d+22=P+2*dep t+6:=⟨_,UN<|CU (KQ 2 ok.3) 6⟩;intros _ P _ W;have X:=ay (rz:=f) (E:=E) n (flat t).length t (B2 _) (d:=F) (H:=H++[.list T []]) ok.1 (DV p) (pre:=[]) (post:=[]) Y (.inr Y) (by rw[U Aq<|L (CU ok.2 1)<|by decide]);rw[<-e0]at X;rw[Wc.expr<|Ee.N0 (Ev.loc Y) (Hu FQ Y Y)<|Ly<|Es<|mJ<|Ly<|F1 (Ai.cons (Ev.loc B)<|Ai.one Ev.con)<|R.wp_mono X (λv c q=>?_) λZ Z h=>h];(rw[Em q λa l BL Bf hS J=>?_];clear q;subst BL;obtain⟨ha,hl⟩:=Bf);have nF:∀{i:G}{o:AK},(H++[AK.list T []]).length<=i->c[i]?=V o->(if i=H.length then C else c[i]?)=V o:=λ{i o}h q=>(AS λz=>by rw[z,(Aq:(H++[AK.list T []]).length=H.length+1)]at h;rw[UT _ h]).trans q;rw[RP<|LW (j:=0) (LD<|FA 1) Y<|Es<|RP<|Es<|Tc Y<|Jy ?_];have run:=abM (Γ:=⟨N,f,λi=>if i=H.length then C else c[i]?,n⟩) _ (JG _) (d:=M) (L:=[B'.res]) (s:=V 0) (h:=V 0) (acc:=[]) (nF ha hl) (hS _ λi o h q=>nF h q) ok.1 nb (by rw[U (Sy ..)<|U WI<|Ce<|L ok.2<|by decide]);rw[<-e1]at run;rw[R.wp_mono (Qx<|run [H.length] [.ref a,.int 0,.ref H.length] _ (Zt (J _ _ FQ:c[H.length]?=V (Dg [])) λj o q=>?_) Y) (λv Q q=>?_) λZ Z h=>h];·have q:(if j=H.length then C else c[j]?)=V o:=q;by_cases z:j=H.length;(·rw[AM z]at q;rw[nomatch q]);·rw[AS z]at q;rw[⟨q,z⟩]
 obtain⟨x,c',BM,g,K,ex,s,r,rfl,rfl⟩:=q;(replace ex:=AN ex;subst ex);have f2:Q[H.length]?=V (Dg s.1):=by(rw[AY g.1 λδ E9 Z=>?_];subst E9);rw[K.3 0 _ _ Y Y]
 have r:s.1++[s.2]=iT t (V 0) (V 0):=r;have n4:s.1.length<=901:=by have:=A_ RU r;rw[WI,Aq]at this;rw[FI<|Lh<|L (C8 this)<|Ce ok.2]
 have u:∀{i:G}{o:AK},H[i]?=V o->Q[i]?=V o/\i≠H.length:=λ{i o}q=>⟨g.3 _ _ (J _ _<|DV q) λm=>DZ (DH q)<|B3.mp m,DZ<|DH q⟩;rw[Nz f2 (CH (m:=901) (by rw[U (CO ..) n4])<|B6 Y) ?_];have t3:=Bl (x:= .list T<|s.1.map hI++[hI s.2]) (u D).1 (u D).2.symm;have f3:(Q.set H.length<|.list T<|s.1.map hI++[hI s.2])[H.length]?=V (Dg<|iT t (V 0)<|V 0):=(KL f2).trans (A_ V<|Uq.trans<|A_ Dg r);rw[Wc.ret<|SY<|Sg<|Ee.EK (Ai.one<|Ev.loc B)<|W▸R.wp_mono (bh n ok<|Bl (x:= .list T<|s.1.map hI++[hI s.2]) (u p).1 (u p).2.symm) (λv H4 z=>?_) λZ Z h=>h];(rw[xA z λFy k4=>?_];clear z;rw[U Fy ?_]);rw[U b<|Sg<|bA<|Ee.v (Ev.loc S)<|gI<|Ee.v (Ev.loc Y)<|Aa I (yM (f:=T) (l:=iT t (V 0)<|V 0) ?_<|k4 _ _ f3)<|?_,Ag e<|Ag aag<|k4 _ _ t3,Y]
end
end
section
set_option maxHeartbeats 1000000
section
theorem uT:∀{N H}{P}{a}{g}{d}{E}{e}{h}{x y}(b:(mE P (a I) N e g H).wp (λv H=>d .next (upd g y v) H) λe H=>(CP P a N h T (upd g x<|.ref<|H.length+1)<|H++[.dict T [(.str P.DX.1,e.why),(.str P.DX.2.1,e.fn),(.str P.DX.2.2,e.at_)],.inst P.Et H.length]).wp (λf Z H=>d f (λZ=>C) H) λZ Z=>BB),(mS P a N (.try [.asg y e] x h) I g H).wp d E:=by intros N H P a g d E e h x y _ b;rw[(?_:RS.wp (match(((mE P (a I) N e g H).then g λv H=>RS.ok .next (upd g y v) H).seq λg H=> .ok .next g H)with| .exc e g H=>(CP P a N h T (upd g x<|.ref<|H.length+1)<|H++[.dict T [(.str P.DX.1,e.why),(.str P.DX.2.1,e.fn),(.str P.DX.2.2,e.at_)],.inst P.Et H.length]).calm| .ok f g H=> .ok f g H| .bad=> .bad:RS) d E)];cases r:mE P (a I) N e g H with|bad=>replace b:=r▸b;rw[b]|ok v c=>replace b:=r▸b;rw[b]|exc e c=>intros _ e c _ r;replace b:=r▸b;rw[(?_:RS.wp (RS.calm<|CP P a N h T _ _) d E)];have b:(CP P a N h T _ _).wp (λf Z H=>d f (λZ=>C) H) λZ Z=>BB:=b;revert b;cases CP P a N h T _ _ with|bad=>rw[λh=>h]|exc=>rw[λh=>h.elim]|ok f g H=>rw[λh=>h]
theorem qZ(q:Q (.ref<|H.length+1)<|H++[.dict T [(.str 57,.int a),(.str 46,.tup<|il lo),(.str 58,.ref b)],.inst 4 H.length]):(KR tb.P (BR tb.P FF N (d+1) I) 4 [.int a,.tup<|il lo,.ref b] H).wp Q E:=by
 rw[R.XG ((dc Y)) Y<|Cg Y Y ?_];simp only [D6];iterate 3 rw[Wc.Fi (Ev.loc Y) (Ev.loc Y) (Nu Y ((dc Y)) (B6 Y) Y) ?_]
 rw[Wc.nil ⟨Y,q⟩]
theorem vw(j:2000000<=N):(BR tb.P FF N (d+1) l 39 [] H).wp (λv b=>(∃k,v= .ref k/\b[k]?=V kI)/\HO H b) E:=R.wp_mono (Qx<|Pg (Γ:=G0 N l j) (d:=d) [] _ H (g0 λZ Z e=>(by cases e)) Y) (λv b⟨a,s,BM,g,K,e,_,_,n,r⟩=>by subst n r;rw[AY (K.at (n:=0) Y) λk p f=>⟨(Aa k ((AN<|(map_eq p Y:BU _ (.c 0)=V (.ref k)).symm.trans e).symm) f),g.2,λi o q=>g.3 i o q λm=>(by clear q;cases m)⟩]) λZ Z h=>h
def tyE(b:O CS):CE:= @An CS (λZ=>CE) b (.con .none) λs Z=> @CS.casesOn (λZ=>CE) s (λZ=> .con .none) (λZ e=>e) (λZ Z=> .con .none) (λZ Z Z=> .con .none) (λZ Z Z=> .con .none) (λZ Z Z=> .con .none) (λZ Z=> .con .none) (λZ Z Z Z Z=> .con .none) (.con .none) (λZ=> .con .none) (λZ Z Z=> .con .none) λb Z Z=> @An CS (λZ=>CE) b (.con .none) λs Z=> @CS.casesOn (λZ=>CE) s (λZ=> .con .none) (λZ e=>e) (λZ Z=> .con .none) (λZ Z Z=> .con .none) (λZ Z Z=> .con .none) (λZ Z Z=> .con .none) (λZ Z=> .con .none) (λZ Z Z Z Z=> .con .none) (.con .none) (λZ=> .con .none) (λZ Z Z=> .con .none) λZ Z Z=> .con .none
theorem zE:L7 B':=⟨λk m=>by have:Hc.all (λk=>Bm k.1.length lim&&Bm k.2.length lim)=I:=Y;have:=DN.mp (Eo.mp this k m);rw[⟨B6 this.1,B6 this.2⟩],B6 Y⟩
theorem aa1:∀{N d H}{l}{m}{B}{Q}{E}(o:2000000<=N)(y:H[0]?=V (.dict I KC))(A:H[m]?=V (Ac B))(D:l 2=V (.ref m))(p:B.length<=302)(Tw:∀x∈B,x.length<=lim)(P:bt H 0 (JN B' B) Q E),Ee N I (d+10) E l H (tyE<|(DS 61).drop 2) Q:=by intros N d H l m B Q E _ o y A D p Tw P;rw[Ly<|Es<|Ee.EK Ai.nil<|R.wp_mono (vw (E:=E) o) (λv q z=>?_) λZ Z h=>h];intros _ v q _ z;obtain⟨⟨k,rfl,F⟩,r⟩:=z;rw[Es<|Ee.list (Ai.cons Ev.con<|Ai.cons Ev.con<|Ai.one Ev.con) (G5 Y)<|Es<|RP<|Es<|jS<|Es<|RP<|Es<|Ee.v (Ai.tup (vs:=il [-1,-2,-16]) Y<|G5 Y)<|Es<|Ee.tolist (l:=BD B) (Ev.loc D) ?_ ?_<|Jy<|qZ (a:=2) (lo:=[-1,-2,-16])<|Jy ?_,F4<|DV<|r.2 _ _ A,U DA<|L p<|B6 Y];generalize dE:q++[AK.list T [.int 2,.int 1,.int 3]]=e;generalize Qj:e++[AK.list T<|BD B]=g;have s:HO q e:=dE▸Sf;have j:HO e g:=Qj▸Sf;have c:∀{a b:AK},HO g<|g++[a,b]:=Sf;rw[xa (fz:=T) (e:=B') (kind:=2) (k:=([-1,-2],[-2,-1])) (lo:=[-1,-2,-16]) (B:=B) o zE (c.2 _ _<|j.2 _ _<|s.2 _ _ F) (c.2 _ _<|j.2 _ _ ?_) (c.2 _ _<|j.2 _ _<|s.2 _ _<|r.2 _ _ y) Q1 FQ (c.2 _ _ ?_) ⟨(dc Y),(dc Y)⟩ Y Y Y (B6 Y) (L p<|B6 Y:B.length<=lim) Tw ?_,Ag dE FQ,Ag Qj FQ];·have f:=((r.trans s).trans j).trans (c (a:= .dict T [(.str 57,.int 2),(.str 46,.tup<|il [-1,-2,-16]),(.str 58,.ref e.length)]) (b:= .inst 4 g.length));revert P;cases JN B' B with|ok M=>rw[λP t i fr K u=>P t i (f.trans fr) K<|L f.1 u]|fail w n=>rw[λP t fr=>P t<|f.trans fr]|big=>rw[λP=>P]
end
end
section
set_option maxHeartbeats 1000000
theorem nH:∀{c a}{m n}{o}(d:m<c.length)(h:a[n]?=V o),(back c [m] a)[rn [m] c.length n]?=V o:=by intros c a m n o _ d h;induction a using An with|nil=>rw[nn h]|cons x b=>have f:(c.set m x).length=c.length:=Nw;(have e:back c [m] (x::b)=c.set m x++b:=by rw[(?_:MF (c.set m x) [] b++b=_)];induction b using An<;>rfl);rw[U e ?_];induction n using CV with|zero=>(replace h:=AN h;subst h);rw[N1<|RY d]|succ n=>rw[((U (DO<|f.symm▸BJ _ _)<|U f<|U (Ma ..) ?_):(c.set m x++b)[c.length+n]?=_),h]
def KP:Ks:=λf a c=> @AF.casesOn (λZ=>Prop) f (∃n rows,look a 2=V (.c n)/\c[n]?=V (Ac<|rows++[[11]])/\BV [] rows []/\rows.length<=301) BB λZ=>BB
section
variable{Γ:VG}{d:AE}{ns:AB AD}
theorem jc:∀{a}(h:a≠[]),∃x:J,(il a).reverse[0]?=V (.int x):=by intros a _ h;rcases Uj a with e|⟨l,x,e⟩;rw[Aj e h];·rw[⟨x,U e<|U QT<|Ag ED<|U Rl ?_⟩];rfl
theorem rB:∀{j d e}(l:e.length<=63),Ts j (d+22) ((DS 61).take 2) [.c 0] [.list I<|il e] KP:=by
 intros j d e _ l;rw[Ts.cut 1 (σ:=J) (λw=>[.c 0,.p<|.int w]) (λZ=>[.list I<|il e]) (λw=>0<w->e≠[]) (λZ=>Y) (Ts.of<|Ap.d (λh=>?_) λZ=>⟨0,[],[],λh=>Aj h<|Int.lt_irrefl 0,Y,Y⟩) λw m=>Ts.of ?_];·(have g:e≠[]:=λq=>by rw[Aj (q▸h)<|(dc Y)]);injection(jc g)with x _ ex;rw[B0.mk ex ⟨_,[],[],λZ=>g,Y,Y⟩]
 intros _ w _ m;·rw[Fg ⟨(dc Y),(dc Y)⟩<|Al.mk (sz (m:=63) (L (Qk _ _)<|BH e▸l) Y)<|Cl.mk (σ:=BF) (λZ=>[.list I<|il e,.list T<|(il e).take 14]) (λk f Z=>∃done b,k=il b/\done.length+b.length<=14/\f=il done) (.Kd 1 _ ?_ λZ=>Y) (λZ=>Y) Y ⟨(),_,[],(DI ([]) (e.take 14) (?_) (?_) Y),Y,Y⟩ (λv k f Z z=>?_) λf Z z=>?_,U Mo<|U (BH ..)<|CH (Pw _ _)<|(dc Y),Rb.symm,U Mo<|L (C8<|Di _)<|Pw _ _];intros _ v k f _ z;(·(rw[By z λdone b e1 i BL=>?_];clear z;rw[U BL ?_]);induction b using An with|nil=>rw[(by cases e1)]|cons x b=>obtain⟨rfl,rfl⟩:=Cs e1;rw[⟨(),_,[],(DI (done++[x%1000003]) b Y (by(rw[U Aq<|U (CR ..) ?_];rewrite [EL [_].length]);rw[i])<|ED (b:=[_])),Y,Y⟩]);·(rw[By z λdone b e1 i Bf=>?_];clear z;rw[U Bf ?_]);induction b using An with|cons=>rw[(by cases e1)]|nil=>rw[Al.mk (sz (m:=14) (BH done▸i) Y)<|Cv.fr [2] [.c 0] ((dc Y)) Y Y Y (zb (d:=d+8) (T:=done) i) λs o=>?_];(have last:∀{x:J},Cv j (d+22) 50 [.c 7,.p<|.int w,.p<|.int x] [.list I<|il e,.list T<|(il e).take 14,B_ s.T,Ac s.rs,B_ s.S,Ac<|BS [],Ac [[11]],Ac<|s.rs++[[11]]] λc a=>KP .next [.c 0,.p<|.int w,a] c:=λ{x}=>Cv.frame [7] [.c 0,.p<|.int w,.p<|.int x] ((dc Y)) Y Y Y (w8 (d:=d+21) o.1 o.2) λt a q=>by(rw[Em q λn rows E9 p g r=>?_];clear q;rw[U E9 ?_]);rw[(Fq _ rows Y (nH (JG 7) p) g r)]);rw[Ap.d (λh=>xE (jc<|m h) λx ex=>B0.mk RX<|B0.mk ex last) λh=>last]
end
end
section
set_option maxHeartbeats 1000000
theorem pf{r:RS}(h:r.wk Q):r.wp Q E:=by induction r using RS.casesOn<;>first|rw[h]|rw[h.elim]
theorem Rw.len:∀{L}{r}{a}{w}(h:Rw L r a w),r.length<=20:=by intros L r a w _ h;cases h with|HP _ _ b=>rw[(?_:(List.map _ _++[_]).length+1<=20),U Aq<|U (CO ..) ?_,Ce<|Ce b]|_=>rw[B6 Y]
theorem BV.short(h:BV S b d):∀r∈b,r.length<=20:=by induction h with|nil=>rw[λZ m=>(by cases m)]|cons h _ c=>rw[λr m=>(CZ.mp m).elim (λe=>?_)<|c r];clear m;subst e;cases h with|row h=>rw[NQ h λZ Z h=>h.len]|_=>rw[B6 Y]
theorem zj:∀{N d}{l:O J}(b:2000000<=N)(A:l.length<=63),(BR tb.P FF N (d+23) I 61 [.ref 1] [.dict I Ti,.list I<|il l]).wp (λv Z=>v= .bool I) λZ Z=>BB:=by
 intros N d l _ b A;rw[Cg Y Y<|((Ag (Kz 2<|DS 61)<|U Z2<|RS.wp_seq<|pf<|LB (rB (d:=d) A [1] _ _ (λx a h=>?_)<|Zt Y λj o q=>?_) λf D H z=>?_):(mB ⟨N,I,λi=>if i=0 then V (.dict I Ti)else C,b⟩ (d+22) (DS 61) _ _).wp _ _),CY.upd (env:=[]) (x:=0) (a:= .c 0) (λx a q=>by unfold look at q;cases z:slot x<;>replace q:=z▸q<;>exact nn q) Y x a h];·have q:(if j=0 then V (AK.dict I Ti)else C)=V o:=q;rw[Ao (λz:j=0=>?_) λz=>?_];(·subst z;rw[⟨q,(dc Y)⟩]);·replace q:=(AS z)▸q;rw[(by cases q)]
 obtain⟨E,F,c,W,g,K,r,e,q⟩:=z;induction E using AF.casesOn with|cont=>rw[q.elim]|ret=>rw[q.elim]|next=>rw[U e<|Em q λn rows M B p k=>AY (r _ _ M) λv ev s=>AY (K.at B) λP Q u=>?_];obtain rfl:v= .ref P:=AN<|ev.symm.trans<|map_eq Q Y;have R:H[0]?=V (.dict I KC):=(K.4 0 (.dict I KC) Y).1;(rw[AY (cV p<|L k<|(dc Y)) λt BL ok=>?_];clear B;subst BL);have ct:=XJ ok.1 (L ok.2<|(dc Y));rw[Gl<|uT<|aa1 (d:=d+12) b R u s (by rw[U Aq<|CU k 1]) (λx m=>?_) ?_];(·have:x.length<=20:=(Cj.mp m).elim (p.short x) λm=>B3.mp m▸B6 Y;rw[L this<|B6 Y]);revert ct;cases JN B'<|flat t++[[11]]with|big=>rw[λh=>h]|ok X=>rw[λct y T f S Z=>xR b ok ct.1 s Y (f.2 _ _ u) S ct.2]|fail w j=>intro ct y f;rw[RS.wp_mono (handler (d:=d) b ok k ct.1 (refused p k ct.2) (x:=y.length+1) (y:=y.length) s Y Q1 FQ<|DV<|f.2 _ _ u) (λf D H q=>?_) λZ Z h=>h];induction f using CX.casesOn with|next=>rw[(by cases q)]|cont=>rw[q.elim]|ret v=>rw[q]
end
section
open PySem PySem.W PyProof.Rows
set_option maxHeartbeats 8000000
theorem sf:(codeOf ct PySem.Challenge.pw_nm0142_02).length=62:=by kernel_rfl
theorem tx{K:Cy}(h:(G_ 62).map (tb.F K)=(G_ 62).map FF):tb.F K=FF:=by
 funext i;by_cases hi:i<62;·have:=A_ (λl:O<|AO Fn=>l[i]?) h;simpa [hi]using this
 ·have a:tb.IM[i]?=C:=NM (by show 62<=i;omega);have b:(codeOf ct PySem.Challenge.pw_nm0142_02)[i]?=C:=NM (by rw[sf];omega);unfold Tb.F FF;rw[a,b];rfl
theorem ve{K:Cy}{h:BC}(_:K.In h)(q:tb.Zv K=I):tb.Zv K=I:=q
theorem jo{K:Cy}{h:BC}(_:K.In h)(q:tb.SM K 124 "WasmFault" 104 121 101=I):tb.SM K 124 "WasmFault" 104 121 101=I:=q
theorem u_{K:Cy}{c:BC}(_:K.In c)(b:O J)(d:b.length<=63)(h:(G_ 62).map (tb.F K)=(G_ 62).map FF):∃a,BR tb.P (tb.F K) 2000000 60 I 61 [.ref 1] [.dict I Ti,.list I<|b.map .int]= .ok (.bool I) a:=by obtain⟨v,a,e,rfl⟩:=R.qM<|zj (N:=2000000) (d:=37) (B2 _) d;rw[tx h]at⊢;rw[⟨a,e⟩]
open DCjWtyzaWZE KybX1fZHCAo EDyc3AWnO6g ICMRaqwc1eS FJtfmGz6hpJ Gj9RO9l5yfA KtBj8ZD6hI8 IDTmXjL5HiH JIlfE6YdNDx MSjTPU9B9T9 QAg4wqQrowg EABc90evqi3 Uz8qYr4Vthe OmH2omI4wno UgPXsgk7EXG Jl4EqgMTDSW Nz3p2fNPLY8 Jia773q43iC NsLXtnFjbi9 OE9WugggAK4 EmmLUT6kr73 VcCsSlrtp5N MbRghhq9s3u NnUXmHzlWYd Ixq8cgIoY21 LixQ2oCsjmM CxuivZU4efd BQdSipuQUDX PpzLcQVXhuQ KjYU8ec64XO FlaUoFKoix1 PKAEyf9zSS4 F8AjeiqqVCJ VR6utYiECeN E7AhejwiFks PSfDiwYaoJz SKtnSV0mvgA DfHuPO65zWJ Kkr2Z3BUsEZ J0VtSjaehPw Dnra2PGdWdr IUY1lXBK1jW QHH2YFaV1HX InhrImKUIZo PmHLDgCkXyn UdJgxZ928my TauuSAImqZx JJWTW9kgxEW DslP3RYQWYP Ie6MWPqfwIj L8KHbGZLy3A HCCeBTmuafT UIoBfErmYJ5 DIhJdFy8vOD AGjH8YLkKJm V2cEDDKD8Vy EjUzI3oKWId RaiXycRsclb SKzjj19Ljre RF0bxtPM7pP CV9rxVXJQwj TLjZtPZIStd M7EngUHkvPx EM4fxq9FAVE BZGj6sE11fF KiYM5LSNg0A GVkUABk2HeO KNLzSopxVLX EpWPV5QwB7q IDFuWBj7SAG MIC152eX5VH SR39YDqvLAr DAhRy02yeNZ FJ8yU1LD9jK DJvecnGF3XW SL36jV7ly0p OMPSJzLSJK5 CGsokiznzT2 SlIm6k2k2Kx VDQV7Yrc3lr Ec5nOqjh86P G0dBr0Tz52j FmAcmMonr9t KEpkVYi6q7O VLf2Kz76QSJ QwdX2IsE9Zg B4jqlubMDX3 DoYge5w7aq3 VRap1hMFcCT CPCDdxqzU1q Q2sLeRSv8Kq KLF6gcUU9xW L8Ikgg6y8Vm Sq78DLC6YQU NcpnvxGrPN1 VD1GrMICRJ5 HGfQDIgyfum RLMqb1ut6ZS O8Tqev54LRx UQc2jm1EPjs U3Ecgcok5Ta O285b3B3WOu A2hL12is83K HRSwYLB4Ar0 PbQYFHAR50n J9dilBjmstD JjGE8Neebgk J7LVghT7Dv0 JVJq8aia4r1 QXvd8NOlqW4 ANFlz5hE9aY AQobtyYT7cs HcVqZi7Al2P LphAHHsJB6f JKAgvV0SMie DMr6D8gFZaJ JJQhJZ1K6Zd KM40S5JvAZ2 FsfEuCW97V5 JNPRK4XlcZu FTE934ZHfvG CMiPbzrlXyQ PgMMpUfs17q J1lzQ3W0Emk FExQY3xRnUT QGjZhDhtaIp JRDEW0VRuTD VMuYsHN9x7C OAGm7cE5vWB Jqtcuz8jE02 EGN7NBw2CiN UfUPaTYbujB PUb44FuA0vt SIXZ4zzxmpV Altd9gjXXqs AqOJdzXaVgL H9f37C1eBK1 QLK9BLozJHB UqZpht6oCRu CLjF18PpWhg G7ZuoYEHJcg DClWOz1cXDD PRzsI0PsdKj OoAkv6OhoQ5 IsNvZZ0hQge JwmaJEeq7xG E2RFTizf39N KezPCfq13cH E8lwXpZFvOn KuqOp09hftS GAS7cX148ZO K32XPnMCLBI AIrzPSGWihn OWkRqxYpxiQ Us1P1CC8lxx OSXa7IMhBUw Ia7dz5RDSoV QH11HeLvdPO OFravnXahj7 TxVn3E80yfl R3BfGF8CqrC UTLruFW07Sd AVt4fB8E1zx LN3xsij01Hv BOsimgGd3zX KO6kZA90Fzi FDJ7ApXZxAg QXJnNkvuK1V KZZhd9cnmra Mbik0yCx1Rf LWjRm1kYQco KAqTnGP0RrV KPMP9DozEHq IMnKIdv2WOP CDXgEIHKskV JTwybIpevW4 Gz6v2Ghwh3h MfFdqYS4H0m MXMh1cCfUfT TXjFE9mRD5y AiogIk7yQlV HvqucXGpeEI MkHCj6cHkO2 Nb06pnpg08e O26HaujtKEM OcTbw6y4c1a RT3p15ZUBLZ FBmekytvFtN D6RZEhci2R5 S3D4AjFo4a3 Njc9p7vhhS3 HdRV0gOvnwh UsvL1SueJIB EwNywqqL1rC BcoDOCMvyYq Ox1QLi4aSKn CGwoX4mgjqj OEO1kTrpZ0t AHXgOdcSvt5 JZVHXBKU7KQ RQuypS3L4JJ UgfSnXFpGjJ IdzU9wXudOl QATKFDkqb3J Mt86JFRQmw6 QIGFMctGWaD FKSgIDztYlu GBYFcqflyo6 MbdwXTthURP QywmKGSLFcS TgJoFf5rJgS LHMfNFilJmG RldyAvYh2sh UweRCSc3TeG DeIFYrg2ujY FyVY7cklzQp DWLcbizuuZn LOyyZN1Wb9R CAFg4HMySAm HIqjBBksnRt GyHhviU4rGV A1skfiTSpsp QgTI6Mmtbf0 Bg2S5nQmffU AsiVFNn6MWy SFf4ow8TcSu GJijtbXtQ3Y NRj5oDDyxiC KDglHiDncta V5IrkTuKuyn MQsy8tjJvM9 H51MtP6fZYB Cc0RHqxVRtW SYzLT1t2n67 Se33dWzqPWv Jmby0KGOq6J VyFVXWBINHp Iqlwa3CkZcb EEGZJXtcLGf N2eG68QQKGM DIfm7TExQqK Lnih2GeeJw7 OKPYcaQOXXa F8UbkVluf6V Ayt0YKTtz1P Oz7FP7QnMIZ DHfRM045GgC IamQeSPNYHV FlbRI9Bw1hL FIY3afOp3U9 Bg5KPeusNeh F4cTDyut4f2 Hjni6bNjk0L KjhCBacpfKn Pa3a3US6VkR GKHK4XtIpNb CdIU09F1LVe PRF2TvUM0pt O0MRjCiY6uj IzIpsuLuFGT TVh38Wfbvjl G4cfZujJFgm TS76WLbhUGF RrLiLjPDbsa SZS7NNNDjMf MlxdIglK5Nx FL5jqZ1Npma MuFsbLw0e2C SaurBX17yd7 E7QXEriMaJy Ck7BfEG11eE BEsDRsUe3kT E4uoYWDr5Lv TGCM4HoS16A LHnidUpzeTg NPMnOsDxSB7 H1pMpP9Sqpn Eas9aWZDReh IOljsWaHT4A FePxztgod0g VyDSRefxAb4 TZWyGhbhRgA UahsTpLJoM2 N1wKwZuUoE4 Ob1ZS17AYlu RQjusvFqcJM ROESYYqLmlr N4zfjE9ipQN GE87yZxuiiy N3DvIZHEHbg ECuPKI9SDuL HQKh4HrVJW9 Qarm78CYmEx Gm056DjR3Nk H5L4oRPq81R DYvs5lA1Y21 IZzXMVVLaEi UdE8L8dVVG0 BQ7Kmrb6iRC TjgeS72hNuV HsB6EjOuiuL On6dLBMTFx8 Te77peaAdD1 S9bZT17u3cB VpzZMXpIdeS C9XdORpIoBM BwinQRglGH6 KLbK08pIrD5 ATyKLe23CvE RHaGme7zPQ0 NzS4nLWzrVa PyguHvWV1xJ BONewb0sBNb BVd4sTUeItC OFUKF8XC3ZP TU2cOcYrwHH SemQwOieAla MRkg63r1kbB HKvJGqf6O4z QS7jlQBzcbZ Hwr36fZQbaW QzE6VF8CV4V LScqXIWAH1X DoB7SmcguaJ TTD332scege T9AJD6IW3N8 Cn7MSGzj8l3 ABMebWJi3uC HE8prdQtlMU PPGdsChGEVm BqzJ6EDJmxC Bed1h7wqvkv Hv7JhJyLGHA SA3UwPCTMO4 QzJPvpM3ClA UlcTDMN77DQ F9CRIcDTQKh QisT4BpfP3W NThECWtf71w Ul68Ot6y2wk LPXniPg0vkH Jc5Cc45BrOv En9IjWJCUt0 U9UNeOh8zfY LKKBXE5I3oK A9zBbfVAPop Sj6XNpSlWH2 InjI2tRhlDK QJrrg60WRg2 NutOFG1VDyS UCtbbDgwcOj MXiBeEB6UE5 DQO5eyPXk90 IGAqdOOfubT EBpNU2xMrBp Lcr6o0lip7H LhyWnveD3mn DBpe1j89Hwa GfOuNxCiKKZ LTUY8EranPo CzvvQirbIsz K7w5CcciLig FXQQ6WqyjnX RA0miKFQV8F LcDlYkFRGku UQhRsSZRa1C PkyduKFRJzy T9PM0dO32oN M4vRgum3JAS TViLTtMjAZl O1qpQDjqkAX Py2BgAZMIGF HxTCmh1U6Vt TSFnfbSp7gu GpsLvJZe0vY Sa4jXFXRtBd V19upjsUdjb KIvYzirCWve LLY54QlKM0I KRYcTUCQzOF PBnmLWbgFDc FLbfjsO4JPM Dt5b73NUtw6 PnHSnYyJqPf KS0kk6aPbjf Vx7xw9BWhnd Prd3OyoH5P8 JZ4DWBh5htD KewQIMT9vmx S0MH6OqSmr7 OlP9RG3m5fu V38UJi4Wbmf TODUMMiEXkD EXvgfiIj8XZ PHHyxetp8L7 TaJ4vew85AQ UpH5pue5XwB LYDuaBrlSF2 TcBAf1a72uu NJA3exdJ1Y5 N3vIEbwvHYo N2txwNmAVjh ALgzAvnGfrR Af4tvFDukpk KZbbblXKzqK CYWtQMQIOa3 OgNwg4rQFHl ClVg7HLEhM9 VLFe6QWCotE ISBRyG3Bi3V FOrRpqsenZA F31YlyTvsH0 LvITEBnS5Ui MFs0ayxWsJe S6q5UeD3GCt Pk9Zx35pd6G UliFqLEMXNI IVviBTfqx59 Oau5CtcdRii JbvzrIbfTF5 V28RdcNtJ4Q IVSDvSD35qJ DudMbHshTzJ QNi2LgXAq9h SBPJPaciemX T65QSsaG0fT KYz30hFRiV2 Dd4GFXkbkpA G5xkqOUUzFd Czu3Y2TzMZX EtUed8WOoAw TPKge7M7C8B DNtnxzLeLsO JHyvi0bwFCp Ll98YszhZ4A FTm2gUIdl1L TyGKMmq9eKW Ojy5lrxwip5 Lhk0UxQnMT1 VwM5EO9TMjE PU4804DqrrD BRqRpAmTHak O9FMm9Zfbfp CiQFv5rHLye TUHKHrjcPsC DAyhWPjJyE3 C4eAbN4VQwc RNkgmgrYczw KZAMbfZlQUq VdrIHMxhuHj GJIrCeTNK8A NtgO8RBuH5A JNxxhmH58vs ENdg9WIl8sV VvqUvfsj70O QNpiNd02JVV SKk1OlewfWT DZl5n6f9nzt Lv6fGt6Wbaj Lj8DD71c1pP REv3a3jfgcY T1lgw6a9wpJ GuftVVYo9jf DjBoXzoRSBb SC12dmDo2Of SvCk82HYLU5 VpUBqsMWiEs Q68NEnUOIz1 VuMaN2PCOEW PrHXDFtNNV5 URgXSCHWojN NCB91AnwQJI HCHlCAjfu4V C37M4YsEsFQ KyhTPT8E8UK TO5ymHmvgVs Fvh2r2gIkZ0 CQLQG9ucp49 U48LmkI9fnM BoxNFVIiWPn CIYf6gVkYhN DqD0ua1psUR SGVTAXHHIJm LC4hwwfH4Q0 Pb5qojKOk7w MazEsA46LSS Gs8a0hBFNb4 IxGjVxo5wix RuBXD1Rdd7e EtxHK1bSt4Z OyFIQVn3AuL FIALhw6dgV2 TrlnH1baxcQ JGvKDkczVHp QaMB6mL4sni Es6gtqRqN3B Qp37esumpmq C3xyJHECtZD EYwL5Hf3kzX DtWfkI3NAAQ L8ofhDQM5bP Hl0hWp0PbwS BUNX3lSJj2u GunJvSncIOW OZnnBfgJysQ MJQAILEAerQ UUp0UdXAKS5 UY1TdECLBXp RLCTXfgvNfH V3HH3I2UI9r V0m44QTw6Dd TVnZ8Ja4rVS QvbQO4gZ41a GHQGBXIXNEr KMayQLsJIRG T6rnJZmecEs NvBIcHWJll9 MRKRsqtcy4m LtOD5pMDOWn QYiFka5BRmx T9quoIcLGL0 OwY9jYQKFJl DKm5UEmAGUt GYJRBOQQoff PZKG7nV30lP A9izM7zfTav CuqtDGo9hiS ROhtMrXSSDd Uq75XE3cu4f AIM7SvaIEFh SvBW3lA6OMV VtRGcpdlCng TkUm8IkcK6t ApqmxfUDaVk Jz3PLkB9R5B NHdpgtA7vri E9WtamuCjc4 GIHmdr47o80 HKuglugsosM Q9ooytKLKsx V1kCKvJHCtU ARq0SNKAQsc JOWpRGtcfFM BrV07mSnGcg Em6XWCDEQfe AmNBot09cBG DQLnN1iwEuw QR0ohZXU1JT DiA5Lxe6oea K32rAmhDMXT E5JAxYZyPYW PcAR4DQvCUq IwMwl0muyHE Hrv8trSka3t AauakNfPRNF DqHanoLoYoq OdHJ1uZNUgK BiTt0pyQjSO G1idfaYfx2r QlVCGkMD3cC JG3RpmsNgJC IXiIlkoQQOR DkNjfGAtAnx RgZiL8mbXlK FXGP1BEb5Q1 N2S4GFJuqci GBbO0jmCrO4 Okolif7y7uH E6ynDVNv1j0 JFo2jCzZvUx NzBzXjRf0Dj QZ5K526mdOB TkSRcGmdUc6 SRqlr4rL8UU Esb2RH7CWxe CNC2JB7iUWe IEXRboykZpw NFHFFxjdCiS DHLbtwGHnHt LoMo1ZJg7rz KRG8b14iRcJ LZZ3lXSy7nm I9kuimmb63L PnazxALTnQo NUgeUP2lYkf TShntRQbMYc BoIVOhJ68hg MS9Cksqk6Ey TGjXwFQUGkw I7uRiO3NBSh Khn3j7Wly1r BCO095Mkduo HWXqJEVMKo1 B36x4ZWQC8d Nd2V4qwHD9n JbZIGJsYO5A QPTUt4eMCxJ IUbFrREr70X IycaLQSieYM BGVteo9Ux3c CRRu8sG1PxB DB64ooxcJOw OyonqdP9sy4 SnjPXRWuV03 E2eQJ1ar9dh LC7sl2JNstK Drh8OVCvdeN MkcBy8BEo1j VzqAHDq4iGh R63P6Wt7dMW Qz5hD11feid UVpeZS50GpA LB2XFMuaAIQ RBvqVnNCqYh AQUEvZwL1M4 UdyW00rLqHt CoGuR6mG4WI DrtRWQ5Izna M9DieU1QYSf GfVbp6bhS2I Aa7RF3jknKz Sanlengc0Pn JlEFPV06toP NP5s1yJRIoE Th2aW6tPyo6 UrJ9s9tRBC7 RkyLrRzTjcG IoIKksSeGAj UD1FUug5KGc DLfkm7wk0Zq HgRbuHxKnZo UHxwTdtJDyz BgyjEjobdBa OgDtT8Il3ec OtxGsOP8KGE T7LaqE0Ol5C PvnF4Rxb8Te AunB3SaBkG5 Kf9gGehUEq0 NJKCJxidL6y J9iVoo69uHb CAo6ScJqG0R MyvbRhcMFW2 OMyHezhj9gq HnXlZC6KmGl GL5DumDgv8v DeSY409pHgp in theorem main:True:=trivial
set_option tactic.hygienic true in theorem main:PySem.Challenge.rw_nm0142_02.Holds:=by
 w_on;o_law;k_head;(case hw=>w_witness2);intro w Qo Bs E J G a v o C cd F dV kV ho H e K f M x y as ur wu i j k;have b:=kIn_of a;refine Ground.open G ?_;intro T B D N P;clear a B D N P G;wrow_args ur wu i j k;rename_i l _ _ _ _ _ _ _ L _ _ Yf _ Q _ hI _ c _;refine enter_call ?_;refine Sm ?_ (λZ Z g=>GoodW.toG g);clear e K;have abO:l.length<=63:=by have:=c;omega
 have R:=T.seer (by decide+kernel);clear H;obtain⟨mm,⟨om,es,ep,z,p,_⟩,_⟩:=R.mods;have OA:v=541:=by have:=mg_of b T.g (n:="law") (v:= .ref 541) (by kernel_rfl);rw[show E _=V (Ec v)from f]at this;cases this;rfl
 subst OA;have d:∃r:O AX,Bs.heap.get? L=V {cls:= .type "list",data:= .seq r.toArray}/\IntsAre r l:=by obtain⟨o',e1,_,n,A⟩:=Yf;cases Q with|list h _=>rw[e1]at h;cases h;simp at A;exact⟨_,e1,by rw[A.1];exact hI⟩
 obtain⟨r,d,s⟩:=d;have Dq:L≠MY:=λq=>by rw[q,z]at d;cases d;cases p
 have aQ:=vi (t:=tb) (prog:=PySem.Challenge.rw_nm0142_02.row.prog) (w:=w) b n5 T.nolimit z Dq;have t:=mY (t:=tb) (prog:=PySem.Challenge.rw_nm0142_02.row.prog) (w:=w) (L:=L) b (by kernel_rfl) T.b T.builtins;have u:=t_ (t:=tb) (prog:=PySem.Challenge.rw_nm0142_02.row.prog) (w:=w) (s:=Bs) (L:=L) (ve b (by kernel_rfl)) (qf (jo b (by kernel_rfl)));obtain⟨H',run⟩:=u_ b l abO (by kernel_rfl);refine xw (t:=tb) (d:=60) ⟨aQ,u,t⟩ (v9 b) (pL aQ T.b T.builtins (jo b (by kernel_rfl))) (aa5 b M (by kernel_rfl) d s (by omega) (by decide)) Y (by decide) run λs' S W X=>?_;refine⟨.inl ⟨_,.bool I,[],Y,λU=>?_,.bool I,?_,λZ=>⟨.nil,λZ m=>nomatch m⟩⟩,S,X,W⟩;·rfl
 ·wrow_post
end
end
end Mine.Internal
theorem PySem.Challenge.cw_nm0142_02_holds : PySem.Challenge.rw_nm0142_02.Holds := by
 exact Mine.Internal.main
