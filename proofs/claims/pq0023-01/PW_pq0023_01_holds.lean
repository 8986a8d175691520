import PyProof.Rows.All
import Wide.All
import OpenK.AllK
import Wide.FinOn
import PyProof.Rows.SortRuns
import PyProof.EnumMake
import PyProof.EnumFor
import PyProof.ZipIter
import PyProof.TupleOps
import PyProof.DictTable
import PyProof.Rows.SetFrom
import PyProof.Rows.SortShell
import PyProof.Rows.SortStr
import PyProof.DictItems
import KE.KItemsList
import KE.KDictOf
import PyProof.AttrMissHeap
import PyProof.ListRange
import PyProof.TupleOfSeq
import PySem.Challenge.RW_pq0023_01
set_option Elab.async false
set_option linter.all false
set_option genSizeOf false
set_option genInjectivity false
set_option genCtorIdx false
set_option compiler.extract_closed false
open PySem renaming wpAny_bind->aA,wpAny_pure->aD,sizeLine_eq->bJ,sizeLine->cE,wpAny_holding->dz,wpAny_setField_rec->d7,wpAny_mono->eN,compareOp->eS,wpAny_newObj_type->e7,codeAny_builtin->fJ,wpAny_field->fN,wpAny_callSpecial?_slot->fV,wpAny_call_entry->gh,wpAny_standAt->gx,wpAny_seqItems->gA,wpAny_ite_split->gT,wpAny_rule->g5,strKind->iS,wpAny_typeOf->i6,codeAny->jq,wpAny_askSetting->jw,rawInt->jK,codeAny_of_tree->jT,swappedStores->jX,plainId_quiet->j3,pyNext->kg,builtinLookup_eq_fast->kh,mainGlobals->lB,call_meets->lD,wpAny_isInstance->lH,atKey->lT,binaryOp->mF,wpAny_specialOf->mH,assignEach->mX,wpAny_truthy_bool->nH,wpAny_forIn_list->oU,sliceMade->oV,wpAny_attempt->oY,wpAny_typeNameOfWhole_keyiter->pg,strIterType->pC,typeLookup_type->p8,wpAny_mkText->qF,wpAny_setField->rq,sysModules->rt,setField->rB,wpAny_binaryOp_repeat_ref->rX,wpAny_storeSet_of->rZ,wpAny_mkInt->r4,setItem->sd,foldedSetIterable->sy,eqIsQuiet_byValue->sA,atKey_none_of_get->sF,wpAny_typeNameOf_keyiter->sV,starEach->tV,typeLookup->uR,typeIs_int->uS,standAt->uT,codeAny_mono->uV,wpAny_ite_false->uZ,theTreesLotGoes->u6,wpAny_notOrdered_dict->wh,wpAny_runValue->xx,wpAny_newTuple->xy,assign->xU,scanBound->yd,pairTrees_cons_walk->yF,wpAny_onRaise->yZ,behindInMarks->Aw,assignInOrder->Ay,builtinsNs->AN,wpAny_setState_of->BB,wpAny_dictEntries->BC,ofAClassStatement->BX,notedBy->BY,compEnvC->Ct,call_meetsIn->CA,bootBuiltins->CB,typeOf->DR,swapsWith->DS,pyIter->DT,pickOrder->DU,noteFrame->DV,wpAny_noted->D3,wpAny_updateSeq->FO,letOwnedTupleGo->FP,stored->FT,valueAt->F0,holding->GS,wpAny_fieldsOf->Hy,relayAll->HH,isTrue->Im,isSubtype_type->Io,isSubtype_stop->Iq,closureFor->IJ,bindName->IP,eqIsQuiet->MQ,cellsFrom->Nf,without->Nx,setNext->Ny,collect->NB,callType_new->NC,backTo->ND,wpAny_point->Pw,wpAny_of_eq->Px,wpAny_letGo->Py,wpAny_Slice->Pz,storedH_new->PB,interactive->QW,hashByValue->QY,entryFor->Q4,compTurn->Q7,wpAny_call->Sz,typeIs_str->SA,setEntries->SE,mkText->SG,firstAsync->SK,entryOfKey->SM,storedH->SW,newList->TR,updateSeq->Uh,seqItems?->Ui,seqIndex?->Uj,firstIter->Um,truthy->UJ,preSum->UK,getItem->UP,callerA->UR
open List renaming getElem?_eq_some_iff->aB,mem_singleton->aC,length_map->aE,mem_of_getElem?->aF,length_append->aH,getElem?_eq_getElem->aI,mem_map->aK,getElem?_set_ne->aL,append_assoc->aR,mem_cons->aU,mem_append->aW,getElem?_map->bC,map_append->bD,lookup_cons->bH,getElem?_set_self->bK,mem_cons_of_mem->bN,map_cons->bT,isEmpty_iff->bU,getElem?_append_left->bV,map_map->cB,range->cD,take_add_one->cF,append_nil->cJ,map_congr_left->cL,mem_singleton_self->cO,mem_cons_self->cP,mem_append_left->cU,take_length->cV,length_cons->cW,find?_cons->dj,eq_nil_of_length_eq_zero->dm,getElem?_append_right->dw,length_take->dF,nodup_cons->dJ,mem_append_right->dM,getD_eq_getElem?_getD->dU,extract_eq_take_drop->dY,forall_mem_cons->d8,all_eq_true->ek,length_set->eB,replicate->eF,getElem?_concat_length->eK,mem_iff_getElem?->eT,perm_append_comm->fc,getElem?_eq_none->fh,pairwise_iff_getElem->fB,getElem?_eq_none_iff->fC,nodup_append->fL,getElem?_append->fS,not_mem_nil->fY,take_append_drop->gm,zip_cons_cons->gv,mem_range->gG,filter_cons->gY,getElem?_cons_succ->g8,sum_cons->iB,any_eq_true->iC,nodup_iff_pairwise_ne->iG,pairwise_map->iR,getElem?_range->i8,take_of_length_le->jt,range_succ->jB,all_cons->jE,length_singleton->jJ,reverse_cons->jL,length_range->jM,nodup_nil->j5,mem_iff_getElem->j6,length->j7,drop_eq_getElem_cons->kQ,replicate_succ->k9,getElem?_cons_zero->l0,filter_cons_of_pos->l6,filter_cons_of_neg->l7,mem_of_mem_take->nX,mem_filter->oQ,forIn_nil->pZ,size_toArray->qH,map_id->qI,getElem?_set->qJ,flatten_cons->qK,zipIdx_cons->rR,map->rS,getElem_mem->rT,drop_of_length_le->sN,nil_append->tN,foldl_cons->tO,length_filter_le->tT,contains_eq_mem->uL,flatMap_append->v9,filterMap_cons->wc,pairwise_cons->xq,find?_eq_none->xr,reverse_perm->ym,map_nil->yo,getElem?_inj->yp,filter_congr->yq,any_map->yr,cons_append->AE,of_mem_zip->Br,length_zip->Bt,forIn_cons->Bu,find?_some->Bv,filterMap->DO,foldl->Nv,cons->UM
open Nat renaming le_trans->aG,le_refl->aM,le_of_ble_eq_true->aS,lt_of_lt_of_le->aY,le_of_eq->bX,le_of_lt->bZ,lt_succ_self->cC,ne_of_lt->cK,le_add_right->cR,le_succ->dg,succ_pos->di,add_le_add_left->dO,zero_le->dP,lt_of_le_of_lt->dW,mul_le_mul_right->d9,lt_irrefl->e8,zero_add->fj,add_sub_cancel'->fH,lt_of_succ_lt->fM,lt_of_le_of_ne->fT,lt_of_succ_lt_succ->f5,le_of_lt_succ->gj,add_assoc->gq,add_le_add_right->gE,eq_of_beq_eq_true->gS,beq->g9,add_sub_cancel_left->ic,sub_self->iA,max_eq_right->iF,not_lt->iI,min_eq_left->iQ,sub_pos_of_lt->iU,lt_trans->jy,le_of_succ_le_succ->jz,strongRecOn->jD,not_succ_le_self->kj,ne_of_gt->kN,le_total->kO,add_comm->kP,not_lt_zero->lU,sub_add_cancel->lY,pos_of_ne_zero->lZ,lt_add_of_pos_right->mw,le_of_succ_le->m5,succ_le_succ->nN,sub_le->nO,min_eq_right->nP,one_pos->n9,one_mul->oh,add_mul->om,max_eq_left->oW,mod_lt->qd,lt_of_lt_of_eq->qe,lt_succ_of_lt->q6,sub_lt->tK,lt_or_ge->tL,le_mul_of_pos_left->tM,le_antisymm->tS,add_lt_add_left->wj,add_left_cancel->wm,zero_mul->yT,succ_sub->yU,add_zero->yV,lt_of_not_le->AP,le_max_right->AQ,mul_pos->Bq,min_le_left->CD,le_add_left->CE,blt->DN,mul_le_mul->DX,ble->IW,beq_refl->IX,not_le->NF
open PySem.Heap renaming get?_push_of_some->aJ,get?_push_size->aP,lt_size->bM,size_push->dH,get?_update_self->gn,get?_update_ne->oX,size_update->rU,get?_update_other->sS
open Bool renaming and_eq_true->aN,false_ne_true->aO,not_eq_true'->dh,or_eq_true->gM,eq_false_iff->jN,false_eq_true->lW,and_eq_true_iff->nZ,eq_iff_iff->oS,not_eq_true->rW,not_false->uP,true_and->wu,not_true->FF,and_self->SN
open PySem.Str renaming ofString->aX
open Array renaming getElem?_toList->aZ,length_toList->cA,toList_append->cH,toList_push->eL,toList_extract->eY,getElem?_eq_some_iff->fR,getElem_toList->gC,getElem?_eq_getElem->gP,toList_setIfInBounds->jV,perm_iff_toList_perm->jW,size_setIfInBounds->lG,forIn_toList->pR,toList_reverse->um,mem_toList_iff->uo,getD->wz,size_map->CK,ext'->J9
open PyProof.Rows renaming wpS_pure->bO,wpS_bind->cN,pendingOf->gi,wpS_mono->gZ,wpS_forRange->iZ,seqObj->j9,get?_update_seq->mP,failedOf->nL,slot_tupleiter_next->qh,wpS_modify->rj,sortedHeap->rA,wpS_get->uQ,size_push'->uU,listItems_at->Cb,pairsOf->Gh,iter_tuple->Ik,tuples'->UN
open Option.some renaming inj->cG,injEq->iE
open Option renaming none->cQ,isNone_iff_eq_none->dG,map_eq_some_iff->fz,isSome_iff_exists->gX,map_some->iM,map->v8
open PySem.SetTable renaming below->dD,bits->gQ,grown->iw,runEnd->iH,turns->jH,insertAt->lS,leap->ud,laid->ue,fits->uf,sizeAbove->uD,layClean->v5,advance->xj,rising->yj
open PySem.Heap.SameBut renaming update->dN
open PySem.Obj renaming mapSeq->eE,putSet->qc,data_mapFields->xV,putName->Bo
open PySem.Around renaming under_plainId->eX,under_of_weight->mD
open Eq renaming trans->eZ
open Ne renaming symm->fP
open PySem.SetTable.probe renaming go->fQ
open Classical renaming byContradiction->fU,em->uY
open List.Perm renaming append_left->f9,of_eq->kE,refl->oq,append_right->qL,trans->q7
open PySem.Value renaming none->gb,ref->ki,isStrOf_shape->oK,isInt_shape->xS,str->Ff
open Min renaming min->gu
open Max renaming max->gI
open Int renaming toNat_natCast->gJ,sub_eq_add_neg->jA,ofNat_le->m6,eq_ofNat_of_zero_le->rY,add_assoc->FU,ofNat->Ra
open Nat.succ renaming inj->gR
open PySem.Builtin.SmallTypes renaming nextOf->g7,ownedTupleIsFree->jv
open PySem.SetTable.layClean renaming free->iL
open PySem.Builtin.Range renaming rangeSize->iN
open PySem.Challenge renaming rw_pq0023_01->iT
open PySem.Expr.Tuple renaming elim->iY
open PySem.Expr.FormattedValue renaming elim->jC
open Function renaming comp->kF
open PySem.Builtin.Str renaming occurrences->kG
open PySem.Expr.Name renaming elim->lJ
open PySem.Expr.Subscript renaming elim->l9
open PySem.Expr.JoinedStr renaming elim->mh
open PySem.Expr.Attribute renaming elim->mj
open PySem.PyData renaming keyHash->mq
open PySem.F renaming slot_int_rmul->mC,slot_enumerate_next->nY,plain_extend_loop->p6,slot_tuple_getattribute->rN,plain_list_iadd->rV,slot_tuple_mul->tP,slot_zip_next->uM,args_int_rmul_2->AR,slot_int_index->CH,entry_int_rmul->CI,fills_int_mul->DY,slot_list_getitem->Pq
open PySem.Expr.ListComp renaming elim->mY
open PySem.Expr.Constant renaming elim->mZ
open PySem.Builtin.List renaming listExtendWith->ny,listTooLong->oR
open PySem.Expr.UnaryOp renaming elim->nE
open PySem.Expr.Compare renaming elim->nF
open PySem.SetTable.below renaming go->nM
open PySem.Builtin renaming divisionGoesByPylong->nQ
open PySem.Expr.BoolOp renaming elim->n8
open PySem.Expr.Slice renaming elim->o7
open PySem.Expr.IfExp renaming elim->o8
open PySem.Expr.BinOp renaming elim->o9
open And renaming intro->p7
open PySem.Expr.List renaming elim->p9
open PySem.Expr.Dict renaming elim->qa
open PySem.Expr.Call renaming elim->qb
open PySem.FuncBody.stmts renaming elim->q9
open PyProof.Rows.F renaming plain_set_update_loop->tQ
open List.cons renaming inj->tU,injEq->xW
open PySem.Stmt.Return renaming elim->uW
open PySem.Stmt.Assign renaming elim->uX
open False renaming elim->wo
open PySem.Stmt.While renaming elim->xh
open Prod renaming snd->yk,ext->J6
open PySem.Value.str renaming elim->yP
open PySem.Value.ref renaming elim->yQ
open PySem.Value.int renaming elim->yR
open PySem.Stmt.Expr renaming elim->yS
open PySem.Data.func renaming elim->yW
open PySem.Stmt.For renaming elim->Bj
open PySem.Data.seq renaming elim->By
open PySem.Stmt.If renaming elim->DW
open Subtype renaming ext->FQ
open PySem.Shared renaming heap->Hq
open Iff renaming rfl->I0
open PyProof.Rows.SortSt renaming mk'->J4
open PySem.W renaming plainGet_of->QL,lookIn->SH,findIn->UL,instObj->UO
namespace Mine.Lake
open PySem PySem.W PySem.Calls PyProof.Rows
set_option maxHeartbeats 0
set_option tactic.hygienic false
protected def nm (d : Array String) : Lean.Name → Lean.Name
 | .str p s => .str (Lake.nm d p) (match s.toList with | [a, b] => let w := d.getD ((a.toNat - 86) * 75 + (b.toNat - 48)) ""; if a.toNat < 86 || a.toNat > 90 || w == "" then s else w | _ => s)
 | n => n
protected def pn (a : Array Lean.Syntax) : Lean.Syntax := .node .none `null a
protected def nd (p n : String) (a : Array Lean.Syntax) : Lean.Syntax := .node .none ((Lean.Name.str `Lean.Parser p).str n) a
protected def nr (n : String) (a : Array Lean.Syntax) : Lean.Syntax := .node .none (Lean.Name.str `Lean.Parser.Tactic.rcasesPat n) a
protected def ky (s : Lean.Syntax) : String := match s.getKind with | .str (.str _ p) n => p ++ n | .str _ n => n | _ => ""
protected def rn (n : String) : List String → String | a :: b :: r => if a == n then b else Lake.rn n r | _ => ""
protected def tk (s : String) : Lean.Syntax := .atom .none s
protected def zp (x : Lean.Syntax) : Lean.Syntax :=
 let k := Lake.ky x
 if k == "Termtuple" then Lake.nr "tuple" #[Lake.tk "⟨", Lake.pn (Lean.mkSepArray ((#[x[1][0]] ++ x[1][2].getSepArgs).map fun x => Lake.nd "Tactic" "rcasesPatLo" #[Lake.nd "Tactic" "rcasesPatMed" #[Lake.pn #[x]], Lake.pn #[]]) (Lake.tk ",")), Lake.tk "⟩"] else
 if k == "ident" || k == "Termhole" then Lake.nr "one" #[if k == "ident" then x else Lean.mkIdent `Zz] else x
protected def zz (d : Array String) (s : Lean.Syntax) : Lean.Syntax :=
 match s with
 | .ident _ _ n _ => .ident .none "".toRawSubstring (Lake.nm d n) []
 | .node _ k a =>
  let i := Lean.mkIdent `Zz
  let y := Lake.ky s
  let h (x : Lean.Syntax) : Lean.Syntax := let k := Lake.ky x; if k == "Termhole" then i else if k == "TermtypeAscription" && Lake.ky x[1] == "Termhole" then x.setArg 1 i else x
  let n := if y == "TermbasicFun" then 0 else if y == "Tacticintro" || y == "TermexplicitBinder" || y == "Termforall" then 1 else 9
  let q := s[2][0]
  let b := s[1]
  if y == "rcasesPatignore" then Lake.nr "one" #[i] else
  if y == "TactictacticLet__" && Lake.ky q[0] == "Termtuple" then Lake.nd "Tactic" "obtain" #[Lake.tk "obtain", Lake.pn #[Lake.nd "Tactic" "rcasesPatMed" #[Lake.pn #[q[0].rewriteBottomUp Lake.zp]]], Lake.pn #[], Lake.pn #[Lake.tk ":=", Lake.pn #[q[4]]]] else
  if y == "Commanddeclaration" && Lake.ky b == "Commanddefinition" then s.setArg 1 (Lake.nd "Command" "theorem" #[Lake.tk "theorem", b[1], Lake.nd "Command" "declSig" #[b[2][0], b[2][1][0]], b[3]]) else
  if y == "Commanddeclaration" && Lake.ky b == "Commandabbrev" then (if s[0][6].getNumArgs == 0 then s.setArg 1 (Lake.nd "Command" "definition" #[Lake.tk "def", b[1], b[2], b[3], Lake.pn #[]]) else s).setArg 0 ((s[0].setArg 4 (Lake.pn #[Lake.nd "Command" "noncomputable" #[Lake.tk "noncomputable"]])).setArg 6 (Lake.pn #[])) else
  if y == "term{_}" then Lake.nd "Term" "anonymousCtor" #[Lake.tk "⟨", b, Lake.tk "⟩"] else
  if y == "choice" && Lake.ky s[0] == "TermanonymousCtor" then s[0] else
  if n < 9 then s.setArg n (Lake.pn (s[n].getArgs.map h)) else
  let r := Lake.rn y ("Tacticshow exact Tacticapply refine TactictacticHave__ tacticHaveI__ TactictacticLetI__ tacticHave__ Termhave haveI TermletI have Tacticfocus tacticUnhygienic_".splitOn " ")
  .node .none (if r != "" then k.getPrefix.str r else if y == "WtacticLk" then `PyProof.Rows.tacticWalk_at_ else k) a
 | s => s.setInfo .none
local macro_rules (kind := Lean.Parser.Command.mutual)
 | s => if Lake.ky s[1][0] == "Commanddeclaration" then Lean.Macro.throwUnsupported else
  let d := ("length some List false cons heap true trans none Nat        size nodes rfl toList Value list ref nil Shared objs Option items prog congrArg wpAny map var par Bool get? scope beq_iff_eq Array root lookup ctorIdx       builtin env Addr if_neg PySem rows model symm Expr tup decide_eq_false int Str str Int push ob_heap SetTable decide_eq_true refl call names if_pos  absurd beq_eq_false_iff_ne waiting of_decide_eq_true elim meth HeapAt type Good SortSt Around mono        Builtin Keyed Mem dict toArray Nodup fields Heap head toks body step zero isEmpty mpr motive_1 Step Comprehension pos extBut take Rep bool append False length_eq       Old set casesOn lots item out methV succ ob_unions Program beq_self_eq_true Cmpp chk getD next known lookup_mem getElem?_pos one inr Base fld app filterMap DecidableEq len cells params filter pure methF base Scope Perm at_ mem_iff        World inl ret now IsTupIter DictEntry own SoundV place forest weights kindOf edges ob_bank merged look isNone fin ListComp ctx step0 drop tail nsV update isSome       eq_of_beq range resolve_left toNat fuel fldV extract joined followText TypeIs knd Room SameBut many glob  gens Grow o1_2 expr data StoreAt PyProof parn abv units fresh motive kind StateT ForInStep reverse Ext Stmt zip unions        put priv popped mask loc later keeps inst depths Constant Binp arrOf val seqN_i handled eraseIdxIfInBounds comp append_right done Same NameKind setIfInBounds perm BoolOp Sig Keeps       old kids grow free cmp typeIs motive_2 key deep Op2 Decidable Tuple dite Unit Held good bin above numbers asg Loc locals garb cell StOK wpS     all slots listI RunOK in1 cls        obj added fnS Sem function SortKind Make run elt wpAny_loadPart' ite ifN hold get failed cons_i IsPair nil_i find? chain slot getElem?_neg flatten asTup_i nums lst       keep inv1 extend adopt TabOK String IsTup  IsList addI local isStr empty KeyKind rounds off' Frag cap unionsNs turn subs off noTup listItem is_async".splitOn " ").toArray
  return Lake.pn (s[1].getArgs.map fun c => let c := c.rewriteBottomUp (Lake.zz d); if (c.find? fun s => let k := Lake.ky s; k == "TacticrenameI" || k == "TactictacticNext_=>_" || k == "TacticcaseArg" && s[1].getNumArgs != 0).isSome then Lake.nd "Command" "in" #[Lake.nd "Command" "set_option" #[Lake.tk "set_option", Lean.mkIdent `tactic.hygienic, Lake.pn #[], Lake.tk "true"], Lake.tk "in", c] else c)
section
protected def pt (s : Lean.Syntax) : List Char → Lean.Syntax | [] => s | c :: r => Lake.pt s[c.toNat - 48] r
protected def av (s : Lean.Syntax) (p : String) : String := match Lake.pt s p.toList with | .atom _ v => v | x => toString x.getNumArgs
protected def jn (n : Nat) (f : Nat → String) : String := match n with | 0 => "" | n + 1 => f n ++ Lake.jn n f
protected def rp (s : String) : List String → String | p :: q :: r => Lake.rp (q.intercalate (s.splitOn p)) r | _ => s
protected def pu (x : Lean.Syntax) : List Lean.Syntax → List Lean.Syntax | .node _ k xs :: r => .node .none k (xs.push x) :: r | r => r
protected def stp (c : Lean.Macro.Context) (a : Lean.Syntax) (w : List String) (l : List Lean.Syntax) : List Lean.Syntax := match w with
  | [] => l
  | w :: ws =>
  let f := w.front
  let p := w.toList.drop 1
  let n := (String.ofList p).toName
  Lake.stp c a ws (if f == '{' then .node .none n #[] :: l else if f == '}' then Lake.pu l.head! l.tail else
  Lake.pu (if f == '$' then Lake.pt a p else if f == '+' then (let x := Lake.pt a p; .node .none `null (x.getArgs.extract 2 x.getNumArgs)) else if f == '`' then .ident .none "".toRawSubstring n [] else if f == '%' then .ident .none "".toRawSubstring (Lean.addMacroScope c.quotContext n c.currMacroScope) [] else .atom .none w) l)
protected def mk (a : Lean.Syntax) (g e s : String) : Lean.MacroM Lean.Syntax := fun c t =>
  let g := g.splitOn " "
  if Lake.jn g.length (fun i => Lake.av a g[i]!) == e then
  .ok ((Lake.stp c a ((Lake.rp s ["<<", "{!paren ( @", ">>", "& ) }", "^", "{group | @", "~", "& }", "#", "{?syntheticHole ? _ }", "[[", "{!elimTarget { } {?paren {?hygienicLParen ( {hygieneInfo ` } }", "]]", ") } }", "@ ", "{!tacticSeq {!tacticSeq1Indented { ", "&", "} } }", "{!", "{Lean.Parser.Tactic.", "{?", "{Lean.Parser.Term.", "{ ", "{null "]).splitOn " ") [.node .none `null #[]]).head!.getArg 0) t else .error .unsupportedSyntax t
mutual open Nat
def o0_2 {a b:Prop} {g:Prop} (h:a/\b) (k:a->b->g):g:=k h.1 h.2
def o0_3 {b c d:Prop} {g:Prop} (h:b/\c/\d) (k:b->c->d->g):g:=o0_2 h λa h=>o0_2 h (k a)
def o0_4 {b c d e:Prop} {g:Prop} (h:b/\c/\d/\e) (k:b->c->d->e->g):g:=o0_2 h λa h=>o0_3 h (k a)
def o0_5 {b c d e f:Prop} {g:Prop} (h:b/\c/\d/\e/\f) (k:b->c->d->e->f->g):g:=o0_2 h λa h=>o0_4 h (k a)
def o0_6 {b c d e f i:Prop} {g:Prop} (h:b/\c/\d/\e/\f/\i) (k:b->c->d->e->f->i->g):g:=o0_2 h λa h=>o0_5 h (k a)
def o0_7 {b c d e f i j:Prop} {g:Prop} (h:b/\c/\d/\e/\f/\i/\j) (k:b->c->d->e->f->i->j->g):g:=o0_2 h λa h=>o0_6 h (k a)
def o0_8 {b c d e f i j l:Prop} {g:Prop} (h:b/\c/\d/\e/\f/\i/\j/\l) (k:b->c->d->e->f->i->j->l->g):g:=o0_2 h λa h=>o0_7 h (k a)
def o0_9 {b c d e f i j l m:Prop} {g:Prop} (h:b/\c/\d/\e/\f/\i/\j/\l/\m) (k:b->c->d->e->f->i->j->l->m->g):g:=o0_2 h λa h=>o0_8 h (k a)
def o1_1 {a:Sort _} {b:a->Prop} {g:Prop} (h:∃c,b c) (k:∀c,b c->g):g:=h.W2 k
def Xs {a:Sort _} {b c:a->Prop} {g:Prop} (h:∃d,b d/\c d) (k:∀d,b d->c d->g):g:=h.W2 λx h=>o0_2 h (k x)
def o1_3 {a:Sort _} {b c d:a->Prop} {g:Prop} (h:∃e,b e/\c e/\d e) (k:∀e,b e->c e->d e->g):g:=h.W2 λx h=>o0_3 h (k x)
def o1_4 {a:Sort _} {b c d e:a->Prop} {g:Prop} (h:∃f,b f/\c f/\d f/\e f) (k:∀f,b f->c f->d f->e f->g):g:=h.W2 λx h=>o0_4 h (k x)
def o1_5 {a:Sort _} {b c d e f:a->Prop} {g:Prop} (h:∃i,b i/\c i/\d i/\e i/\f i) (k:∀i,b i->c i->d i->e i->f i->g):g:=h.W2 λx h=>o0_5 h (k x)
def o1_6 {a:Sort _} {b c d e f i:a->Prop} {g:Prop} (h:∃j,b j/\c j/\d j/\e j/\f j/\i j) (k:∀j,b j->c j->d j->e j->f j->i j->g):g:=h.W2 λx h=>o0_6 h (k x)
def o1_7 {a:Sort _} {b c d e f i j:a->Prop} {g:Prop} (h:∃l,b l/\c l/\d l/\e l/\f l/\i l/\j l) (k:∀l,b l->c l->d l->e l->f l->i l->j l->g):g:=h.W2 λx h=>o0_7 h (k x)
def o1_8 {a:Sort _} {b c d e f i j l:a->Prop} {g:Prop} (h:∃m,b m/\c m/\d m/\e m/\f m/\i m/\j m/\l m) (k:∀m,b m->c m->d m->e m->f m->i m->j m->l m->g):g:=h.W2 λx h=>o0_8 h (k x)
def o2_1 {a:Sort _} {b:Sort _} {c:a->b->Prop} {g:Prop} (h:∃d e,c d e) (k:∀d e,c d e->g):g:=h.W2 λx h=>o1_1 h (k x)
def o2_2 {a:Sort _} {b:Sort _} {c d:a->b->Prop} {g:Prop} (h:∃e f,c e f/\d e f) (k:∀e f,c e f->d e f->g):g:=h.W2 λx h=>Xs h (k x)
def o2_3 {a:Sort _} {b:Sort _} {c d e:a->b->Prop} {g:Prop} (h:∃f i,c f i/\d f i/\e f i) (k:∀f i,c f i->d f i->e f i->g):g:=h.W2 λx h=>o1_3 h (k x)
def o2_4 {a:Sort _} {b:Sort _} {c d e f:a->b->Prop} {g:Prop} (h:∃i j,c i j/\d i j/\e i j/\f i j) (k:∀i j,c i j->d i j->e i j->f i j->g):g:=h.W2 λx h=>o1_4 h (k x)
def o2_5 {a:Sort _} {b:Sort _} {c d e f i:a->b->Prop} {g:Prop} (h:∃j l,c j l/\d j l/\e j l/\f j l/\i j l) (k:∀j l,c j l->d j l->e j l->f j l->i j l->g):g:=h.W2 λx h=>o1_5 h (k x)
def o2_6 {a:Sort _} {b:Sort _} {c d e f i j:a->b->Prop} {g:Prop} (h:∃l m,c l m/\d l m/\e l m/\f l m/\i l m/\j l m) (k:∀l m,c l m->d l m->e l m->f l m->i l m->j l m->g):g:=h.W2 λx h=>o1_6 h (k x)
def o2_7 {a:Sort _} {b:Sort _} {c d e f i j l:a->b->Prop} {g:Prop} (h:∃m n,c m n/\d m n/\e m n/\f m n/\i m n/\j m n/\l m n) (k:∀m n,c m n->d m n->e m n->f m n->i m n->j m n->l m n->g):g:=h.W2 λx h=>o1_7 h (k x)
def o3_1 {a:Sort _} {b:Sort _} {c:Sort _} {d:a->b->c->Prop} {g:Prop} (h:∃e f i,d e f i) (k:∀e f i,d e f i->g):g:=h.W2 λx h=>o2_1 h (k x)
def o3_2 {a:Sort _} {b:Sort _} {c:Sort _} {d e:a->b->c->Prop} {g:Prop} (h:∃f i j,d f i j/\e f i j) (k:∀f i j,d f i j->e f i j->g):g:=h.W2 λx h=>o2_2 h (k x)
def o3_3 {a:Sort _} {b:Sort _} {c:Sort _} {d e f:a->b->c->Prop} {g:Prop} (h:∃i j l,d i j l/\e i j l/\f i j l) (k:∀i j l,d i j l->e i j l->f i j l->g):g:=h.W2 λx h=>o2_3 h (k x)
def o3_4 {a:Sort _} {b:Sort _} {c:Sort _} {d e f i:a->b->c->Prop} {g:Prop} (h:∃j l m,d j l m/\e j l m/\f j l m/\i j l m) (k:∀j l m,d j l m->e j l m->f j l m->i j l m->g):g:=h.W2 λx h=>o2_4 h (k x)
def o3_5 {a:Sort _} {b:Sort _} {c:Sort _} {d e f i j:a->b->c->Prop} {g:Prop} (h:∃l m n,d l m n/\e l m n/\f l m n/\i l m n/\j l m n) (k:∀l m n,d l m n->e l m n->f l m n->i l m n->j l m n->g):g:=h.W2 λx h=>o2_5 h (k x)
def o3_6 {a:Sort _} {b:Sort _} {c:Sort _} {d e f i j l:a->b->c->Prop} {g:Prop} (h:∃m n o,d m n o/\e m n o/\f m n o/\i m n o/\j m n o/\l m n o) (k:∀m n o,d m n o->e m n o->f m n o->i m n o->j m n o->l m n o->g):g:=h.W2 λx h=>o2_6 h (k x)
def o3_7 {a:Sort _} {b:Sort _} {c:Sort _} {d e f i j l m:a->b->c->Prop} {g:Prop} (h:∃n o p,d n o p/\e n o p/\f n o p/\i n o p/\j n o p/\l n o p/\m n o p) (k:∀n o p,d n o p->e n o p->f n o p->i n o p->j n o p->l n o p->m n o p->g):g:=h.W2 λx h=>o2_7 h (k x)
def o4_1 {a:Sort _} {b:Sort _} {c:Sort _} {d:Sort _} {e:a->b->c->d->Prop} {g:Prop} (h:∃f i j l,e f i j l) (k:∀f i j l,e f i j l->g):g:=h.W2 λx h=>o3_1 h (k x)
def o4_2 {a:Sort _} {b:Sort _} {c:Sort _} {d:Sort _} {e f:a->b->c->d->Prop} {g:Prop} (h:∃i j l m,e i j l m/\f i j l m) (k:∀i j l m,e i j l m->f i j l m->g):g:=h.W2 λx h=>o3_2 h (k x)
def o4_3 {a:Sort _} {b:Sort _} {c:Sort _} {d:Sort _} {e f i:a->b->c->d->Prop} {g:Prop} (h:∃j l m n,e j l m n/\f j l m n/\i j l m n) (k:∀j l m n,e j l m n->f j l m n->i j l m n->g):g:=h.W2 λx h=>o3_3 h (k x)
def o4_4 {a:Sort _} {b:Sort _} {c:Sort _} {d:Sort _} {e f i j:a->b->c->d->Prop} {g:Prop} (h:∃l m n o,e l m n o/\f l m n o/\i l m n o/\j l m n o) (k:∀l m n o,e l m n o->f l m n o->i l m n o->j l m n o->g):g:=h.W2 λx h=>o3_4 h (k x)
def o4_5 {a:Sort _} {b:Sort _} {c:Sort _} {d:Sort _} {e f i j l:a->b->c->d->Prop} {g:Prop} (h:∃m n o p,e m n o p/\f m n o p/\i m n o p/\j m n o p/\l m n o p) (k:∀m n o p,e m n o p->f m n o p->i m n o p->j m n o p->l m n o p->g):g:=h.W2 λx h=>o3_5 h (k x)
def o4_6 {a:Sort _} {b:Sort _} {c:Sort _} {d:Sort _} {e f i j l m:a->b->c->d->Prop} {g:Prop} (h:∃n o p q,e n o p q/\f n o p q/\i n o p q/\j n o p q/\l n o p q/\m n o p q) (k:∀n o p q,e n o p q->f n o p q->i n o p q->j n o p q->l n o p q->m n o p q->g):g:=h.W2 λx h=>o3_6 h (k x)
def o5_2 {a:Sort _} {b:Sort _} {c:Sort _} {d:Sort _} {e:Sort _} {f i:a->b->c->d->e->Prop} {g:Prop} (h:∃j l m n o,f j l m n o/\i j l m n o) (k:∀j l m n o,f j l m n o->i j l m n o->g):g:=h.W2 λx h=>o4_2 h (k x)
def fq {a b c:Prop} (h0:a) (d:b) (e:c):a/\b/\c:={h0,d,e}
def Dt {a b c d:Prop} (h0:a) (e:b) (f:c) (g:d):a/\b/\c/\d:={h0,e,f,g}
def yh {a b c d e:Prop} (h0:a) (f:b) (g:c) (h:d) (i:e):a/\b/\c/\d/\e:={h0,f,g,h,i}
def T7 {a b c d e f:Prop} (h0:a) (g:b) (h:c) (i:d) (j:e) (k:f):a/\b/\c/\d/\e/\f:={h0,g,h,i,j,k}
def aV {a:Sort _} {b c:a->Prop} (d:a) (h0:b d) (e:c d):∃d,b d/\c d:={d,h0,e}
def g6 {a:Sort _} {b c d:a->Prop} (e:a) (h0:b e) (f:c e) (g:d e):∃e,b e/\c e/\d e:={e,h0,f,g}
def Sl {a:Sort _} {b c d e:a->Prop} (f:a) (h0:b f) (g:c f) (h:d f) (i:e f):∃f,b f/\c f/\d f/\e f:={f,h0,g,h,i}
def UA {a:Sort _} {b c d e f:a->Prop} (g:a) (h0:b g) (h:c g) (i:d g) (j:e g) (k:f g):∃g,b g/\c g/\d g/\e g/\f g:={g,h0,h,i,j,k}
def T6 {a:Sort _} {b c d e f g:a->Prop} (h:a) (h0:b h) (i:c h) (j:d h) (k:e h) (l:f h) (m:g h):∃h,b h/\c h/\d h/\e h/\f h/\g h:={h,h0,i,j,k,l,m}
def tR {a:Sort _} {b:Sort _} {c:a->b->Prop} (d:a) (e:b) (h0:c d e):∃d e,c d e:={d,e,h0}
def kW {a:Sort _} {b:Sort _} {c d:a->b->Prop} (e:a) (f:b) (h0:c e f) (g:d e f):∃e f,c e f/\d e f:={e,f,h0,g}
def qs {a:Sort _} {b:Sort _} {c d e:a->b->Prop} (f:a) (g:b) (h0:c f g) (h:d f g) (i:e f g):∃f g,c f g/\d f g/\e f g:={f,g,h0,h,i}
def Mw {a:Sort _} {b:Sort _} {c d e f:a->b->Prop} (g:a) (h:b) (h0:c g h) (i:d g h) (j:e g h) (k:f g h):∃g h,c g h/\d g h/\e g h/\f g h:={g,h,h0,i,j,k}
def Sk {a:Sort _} {b:Sort _} {c d e f g:a->b->Prop} (h:a) (i:b) (h0:c h i) (j:d h i) (k:e h i) (l:f h i) (m:g h i):∃h i,c h i/\d h i/\e h i/\f h i/\g h i:={h,i,h0,j,k,l,m}
def Uz {a:Sort _} {b:Sort _} {c d e f g h i:a->b->Prop} (j:a) (k:b) (h0:c j k) (l:d j k) (m:e j k) (n:f j k) (o:g j k) (p:h j k) (q:i j k):∃j k,c j k/\d j k/\e j k/\f j k/\g j k/\h j k/\i j k:={j,k,h0,l,m,n,o,p,q}
def Uy {a:Sort _} {b:Sort _} {c:Sort _} {d:a->b->c->Prop} (e:a) (f:b) (g:c) (h0:d e f g):∃e f g,d e f g:={e,f,g,h0}
def Ux {a:Sort _} {b:Sort _} {c:Sort _} {d e:a->b->c->Prop} (f:a) (g:b) (h:c) (h0:d f g h) (i:e f g h):∃f g h,d f g h/\e f g h:={f,g,h,h0,i}
def T5 {a:Sort _} {b:Sort _} {c:Sort _} {d e f:a->b->c->Prop} (g:a) (h:b) (i:c) (h0:d g h i) (j:e g h i) (k:f g h i):∃g h i,d g h i/\e g h i/\f g h i:={g,h,i,h0,j,k}
def T4 {a:Sort _} {b:Sort _} {c:Sort _} {d e f g:a->b->c->Prop} (h:a) (i:b) (j:c) (h0:d h i j) (k:e h i j) (l:f h i j) (m:g h i j):∃h i j,d h i j/\e h i j/\f h i j/\g h i j:={h,i,j,h0,k,l,m}
def Mv {a:Sort _} {b:Sort _} {c:Sort _} {d e f g h:a->b->c->Prop} (i:a) (j:b) (k:c) (h0:d i j k) (l:e i j k) (m:f i j k) (n:g i j k) (o:h i j k):∃i j k,d i j k/\e i j k/\f i j k/\g i j k/\h i j k:={i,j,k,h0,l,m,n,o}
def O2 {a:Sort _} {b:Sort _} {c:Sort _} {d e f g h i:a->b->c->Prop} (j:a) (k:b) (l:c) (h0:d j k l) (m:e j k l) (n:f j k l) (o:g j k l) (p:h j k l) (q:i j k l):∃j k l,d j k l/\e j k l/\f j k l/\g j k l/\h j k l/\i j k l:={j,k,l,h0,m,n,o,p,q}
def JP {a:Sort _} {b:Sort _} {c:Sort _} {d e f g h i j:a->b->c->Prop} (k:a) (l:b) (m:c) (h0:d k l m) (n:e k l m) (o:f k l m) (p:g k l m) (q:h k l m) (r:i k l m) (s:j k l m):∃k l m,d k l m/\e k l m/\f k l m/\g k l m/\h k l m/\i k l m/\j k l m:={k,l,m,h0,n,o,p,q,r,s}
def T3 {a:Sort _} {b:Sort _} {c:Sort _} {d:Sort _} {e f:a->b->c->d->Prop} (g:a) (h:b) (i:c) (j:d) (h0:e g h i j) (k:f g h i j):∃g h i j,e g h i j/\f g h i j:={g,h,i,j,h0,k}
def Uw {a:Sort _} {b:Sort _} {c:Sort _} {d:Sort _} {e f g h:a->b->c->d->Prop} (i:a) (j:b) (k:c) (l:d) (h0:e i j k l) (m:f i j k l) (n:g i j k l) (o:h i j k l):∃i j k l,e i j k l/\f i j k l/\g i j k l/\h i j k l:={i,j,k,l,h0,m,n,o}
def Sj {a:Sort _} {b:Sort _} {c:Sort _} {d:Sort _} {e f g h i:a->b->c->d->Prop} (j:a) (k:b) (l:c) (m:d) (h0:e j k l m) (n:f j k l m) (o:g j k l m) (p:h j k l m) (q:i j k l m):∃j k l m,e j k l m/\f j k l m/\g j k l m/\h j k l m/\i j k l m:={j,k,l,m,h0,n,o,p,q}
def Uv {a:Sort _} {b:Sort _} {c:Sort _} {d:Sort _} {e f g h i j:a->b->c->d->Prop} (k:a) (l:b) (m:c) (n:d) (h0:e k l m n) (o:f k l m n) (p:g k l m n) (q:h k l m n) (r:i k l m n) (s:j k l m n):∃k l m n,e k l m n/\f k l m n/\g k l m n/\h k l m n/\i k l m n/\j k l m n:={k,l,m,n,h0,o,p,q,r,s}
def O1 {a:Sort _} {b:Sort _} {c:Sort _} {d:Sort _} {e f g h i j k:a->b->c->d->Prop} (l:a) (m:b) (n:c) (o:d) (h0:e l m n o) (p:f l m n o) (q:g l m n o) (r:h l m n o) (s:i l m n o) (t:j l m n o) (u:k l m n o):∃l m n o,e l m n o/\f l m n o/\g l m n o/\h l m n o/\i l m n o/\j l m n o/\k l m n o:={l,m,n,o,h0,p,q,r,s,t,u}
def TZ {a:Sort _} {b:Sort _} {c:Sort _} {d:Sort _} {e:Sort _} {f g:a->b->c->d->e->Prop} (h:a) (i:b) (j:c) (k:d) (l:e) (h0:f h i j k l) (m:g h i j k l):∃h i j k l,f h i j k l/\g h i j k l:={h,i,j,k,l,h0,m}
nonrec abbrev Er (A T:Prop):Prop:=(A->T)->A->T
@[elab_as_elim] def rwt {c:Sort _} {a b:c} {m:c->Prop} (p:m b) (h:a=b):m a:=h▸p
def ff {p:Prop} (h:V3=V6):p:=(aO h).W2
def rf {b:Sort _} {a:b} {p:Prop} (h:p):a=a->p:=λ_=>h
def no {p:Prop} (h:¬¬p):p:=fU h
def ba2 {a b:VS} {g:Prop} (h:(a&&b)=V6) (k:a=V6->b=V6->g):g:=letI h:=nZ.mp h;k h.1 h.2
def ba3 {a b c:VS} {g:Prop} (h:(a&&b&&c)=V6) (k:a=V6->b=V6->c=V6->g):g:=ba2 h λh z=>ba2 h λd e=>k d e z
def ba4 {a b c d:VS} {g:Prop} (h:(a&&b&&c&&d)=V6) (k:a=V6->b=V6->c=V6->d=V6->g):g:=ba2 h λh z=>ba3 h λe f i=>k e f i z
def ba5 {a b c d e:VS} {g:Prop} (h:(a&&b&&c&&d&&e)=V6) (k:a=V6->b=V6->c=V6->d=V6->e=V6->g):g:=ba2 h λh z=>ba4 h λf i j l=>k f i j l z
def ba6 {a b c d e f:VS} {g:Prop} (h:(a&&b&&c&&d&&e&&f)=V6) (k:a=V6->b=V6->c=V6->d=V6->e=V6->f=V6->g):g:=ba2 h λh z=>ba5 h λi j l m n=>k i j l m n z
def ba7 {a b c d e f i:VS} {g:Prop} (h:(a&&b&&c&&d&&e&&f&&i)=V6) (k:a=V6->b=V6->c=V6->d=V6->e=V6->f=V6->i=V6->g):g:=ba2 h λh z=>ba6 h λj l m n o p=>k j l m n o p z
def ba8 {a b c d e f i j:VS} {g:Prop} (h:(a&&b&&c&&d&&e&&f&&i&&j)=V6) (k:a=V6->b=V6->c=V6->d=V6->e=V6->f=V6->i=V6->j=V6->g):g:=ba2 h λh z=>ba7 h λl m n o p q r=>k l m n o p q r z
def ba9 {a b c d e f i j l:VS} {g:Prop} (h:(a&&b&&c&&d&&e&&f&&i&&j&&l)=V6) (k:a=V6->b=V6->c=V6->d=V6->e=V6->f=V6->i=V6->j=V6->l=V6->g):g:=ba2 h λh z=>ba8 h λm n o p q r s t=>k m n o p q r s t z
def UG {a b c d e f i j l m:VS} {g:Prop} (h:(a&&b&&c&&d&&e&&f&&i&&j&&l&&m)=V6) (k:a=V6->b=V6->c=V6->d=V6->e=V6->f=V6->i=V6->j=V6->l=V6->m=V6->g):g:=ba2 h λh z=>ba9 h λn o p q r s t u v=>k n o p q r s t u v z
def UE {a b c d e f i j l m o:VS} {g:Prop} (h:(a&&b&&c&&d&&e&&f&&i&&j&&l&&m&&o)=V6) (k:a=V6->b=V6->c=V6->d=V6->e=V6->f=V6->i=V6->j=V6->l=V6->m=V6->o=V6->g):g:=ba2 h λh z=>UG h λn p q r s t u v w x=>k n p q r s t u v w x z
def UD {a b c d e f i j l m o p:VS} {g:Prop} (h:(a&&b&&c&&d&&e&&f&&i&&j&&l&&m&&o&&p)=V6) (k:a=V6->b=V6->c=V6->d=V6->e=V6->f=V6->i=V6->j=V6->l=V6->m=V6->o=V6->p=V6->g):g:=ba2 h λh z=>UE h λn q r s t u v w x y A=>k n q r s t u v w x y A z
def UC {a b c d e f i j l m o p q:VS} {g:Prop} (h:(a&&b&&c&&d&&e&&f&&i&&j&&l&&m&&o&&p&&q)=V6) (k:a=V6->b=V6->c=V6->d=V6->e=V6->f=V6->i=V6->j=V6->l=V6->m=V6->o=V6->p=V6->q=V6->g):g:=ba2 h λh z=>UD h λn r s t u v w x y A B C=>k n r s t u v w x y A B C z
variable {α:Type} {l r s t:V2 α} {x y z:α}
def tt:V6=V6:=rfl
def apn {n:V9}:(l++r)[l.V0+n]?=r[n]?:=by rw[dw (cR ..),ic]
def ap1:(l++x::y::r)[l.V0+1]?=V1 y:=apn
def apa:(l++[x]++y::r)[l.V0+1]?=V1 y:=(VN (λm:V2 α=>m[l.V0+1]?) (aR ..)).V7 ap1
def ly0:l.V0<=(l++r).V0:=aH▸cR ..
def ly1:l.V0<=(l++r++s).V0:=aG ly0 ly0
def ly2:l.V0<=(l++r++s++t).V0:=aG ly1 ly0
def lx0:l.V0<(l++x::r).V0:=by rw[aH];show mw (di _)
def ne0:l.V0≠(l++x::r).V0:=cK lx0
end
end
local macro_rules (kind := Lean.Parser.Tactic.obtain)
 | s =>
  let n := (Lake.av s "10001").toNat! / 2 + 1
  let r i := String.ofList [Char.ofNat (48 + 2 * (n - 1 - i))]
  Lake.mk s ("100 10000 2 31" ++ Lake.jn n fun i => " 10001" ++ r i ++ "00") (Lake.jn n (fun _ => "1") ++ "10⟨1") ("{!first first { " ++ (Lake.jn (min 6 n) fun i => "^ {!refine refine {?app `o" ++ toString i ++ "_" ++ toString (n - i) ++ " { $310 # } } } ; {!tacticTry_ try @ {!clear clear { $310 } } & } ; {!rintro rintro { " ++ (Lake.jn n fun i => "{!rintroPat.one $10001" ++ r i ++ "000 } ") ++ "} { } } ~ ") ++ "^ {!rcases rcases { [[ $310 ]] } { with {!rcasesPatLo {!rcasesPatMed { $1000 } } { } } } } ~ } }")
local macro_rules (kind := Lean.Parser.Tactic.rintro)
 | s =>
  let n := (Lake.av s "1").toNat!
  let g i := "1" ++ String.ofList [Char.ofNat (47 + n - i)] ++ "0"
  Lake.mk s (if Lake.jn n (fun i => Lake.av s (g i ++ "0")) == "(" then "" else "3") "0" ("<< " ++ (Lake.jn n fun i => let q := "{!rcasesPatMed { $" ++ g i ++ " } } "; if Lake.av s (g i ++ "0") == "⟨" then "{!intro intro { `Zh } } ; {!obtain obtain { " ++ q ++ "} { } { := { `Zh } } } ; " else "{!rintro rintro { {!rintroPat.one {!rcasesPat.paren ( {!rcasesPatLo " ++ q ++ "{ } } ) } } } { } } ; ") ++ ">>")
local macro_rules (kind := Lean.Parser.Tactic.tacticUnhygienic_)
 | s => Lake.mk s "3" "0" "<< {!refine refine {?app {?typeAscription {?hygienicLParen ( {hygieneInfo ` } } {?syntheticHole ? %f } : { {?app `Er { {?hole _ } {?hole _ } } } } ) } { {?syntheticHole ? %g } {?syntheticHole ? %k } } } } ; {!case case { {!caseArg {Lean.binderIdent %g } { } } } => @ {!intro intro { `Zh } } ; {!paren ( $1 ) } ; {!exact exact `Zh } & } ; {!case case { {!caseArg {Lean.binderIdent %f } { } } } => @ {!exact exact {?fun fun {?basicFun { `Zz `h } { } => `h } } } & } >>"
local macro_rules (kind := Lean.Parser.Tactic.cases)
 | s =>
  let h := s[1][0][1]
  let c x := "{!cases cases { {!elimTarget { } `Z" ++ toString x ++ " } } { } { } } ; "
  Lake.mk s "1 100 2 3" (if h.isOfKind `Lean.Parser.Term.paren then "" else "0001") ("{!first first { " ++ (if h.isIdent then "^ {!exact exact {?app `ff { $101 } } } ~ ^ {!subst subst { $101 } } ~ ^ {!contradiction contradiction } ~ ^ {!revert revert { $101 } } ; {!refine refine {?app `rf { # } } } ~ " ++ Lake.jn 4 fun k => "^ {!injection injection $101 { with { " ++ Lake.jn (k + 1) (fun i => "`Z" ++ toString i ++ " ") ++ "} } } ; " ++ Lake.jn (k + 1) c ++ "~ " else "^ {!tacticHave__ have {?letConfig { } } {?letDecl {?letIdDecl {?letId `Z0 } { } { {?typeSpec : {?app `Eq { {?hole _ } {?hole _ } } } } } := $101 } } } ; " ++ c 0 ++ "~ ") ++ "^ {!cases cases { [[ $101 ]] } { } { } } ~ } }")
local macro_rules (kind := Lean.Parser.Tactic.rcases)
 | s => Lake.mk s "1 100 2100 211" "0301" "{!first first { ^ {!refine refine {?app `Or.elim { $101 # # } } } ; {!rotateLeft rotate_left { } } ; {!rintro rintro { {!rintroPat.one $21002 } } { } } ; {!rotateRight rotate_right { } } ; {!rintro rintro { {!rintroPat.one $21000 } } { } } ~ ^ {!rcases rcases { [[ $101 ]] } { with {!rcasesPatLo {!rcasesPatMed { {!rcasesPat.paren ( $21 ) } } } { } } } } ~ } }"
local macro_rules (kind := Lean.Parser.Tactic.rwSeq)
 | s =>
  let x := "{!rewriteSeq rewrite {!optConfig { } } {!rwRuleSeq [ { $210 } ] } { } }"
  let e := "{?app $2101 { {?ellipsis .. } } }"
  let r := s[2][1][0]
  Lake.mk s "10 3" "00" ("<< " ++ (if (r.find? (·.isOfKind `Lean.Parser.Term.syntheticHole)).isSome then x else "{!first first { ^ {!refine refine {?app `rwt { # " ++ (if r[0].getNumArgs == 0 then e else "{?app `Eq.symm { " ++ e ++ " } }") ++ " } } } ~ ^ " ++ x ++ " ~ } }") ++ " ; " ++ (if s[2][1].getNumArgs > 1 then "{!rwSeq rw {!optConfig { } } {!rwRuleSeq [ +21 ] } { } }" else "{!tacticTry_ try @ {!withReducible with_reducible @ {!tacticRfl rfl } & } & }") ++ " >>")
section
mutual open Nat
abbrev oF:V2 V9->V2 V9->V9
 |[],_=>0
 |x::xs,ys=>ys.Wc 0 λy ys=>x*y+oF xs ys
abbrev DF:V2 V9->V2 V9->V2 V9
 |[],ys=>ys
 |x::xs,ys=>ys.Wc (x::xs) λy ys=>(x+y)::DF xs ys
abbrev lev:V2 V9->V2 V9->VS
 |[],_=>V6
 |x::xs,ys=>ys.Wc (g9 x 0&&lev xs []) λy ys=>IW x y&&lev xs ys
abbrev EJ (k:V9) (xs:V2 V9):V2 V9:=xs.VP (k*·)
def IC (c:V2 V9):∀xs ys,oF (DF xs ys) c=oF xs c+oF ys c:=by
 induction c with
 |VH=>intro xs ys;cases xs<;>cases ys<;>rfl
 |V4 z c a=>
  intro xs ys;cases xs with
  |VH=>show(fj _).Vh
  |V4 x xs=>
   cases ys with
   |VH=>rfl
   |V4 y ys=>change(x+y)*z+oF (DF xs ys) c=x*z+oF xs c+(y*z+oF ys c);rw[a,om,V9.add_add_add_comm]
def Pb (k:V9) (c:V2 V9):∀xs,oF (EJ k xs) c=k*oF xs c:=by
 induction c with
 |VH=>intro xs;cases xs<;>rfl
 |V4 z c a=>
  intro xs;cases xs with
  |VH=>rfl
  |V4 x xs=>change k*x*z+oF (EJ k xs) c=k*(x*z+oF xs c);rw[a,V9.mul_add,V9.mul_assoc]
def Sq (c:V2 V9):∀xs ys,lev xs ys=V6->oF xs c<=oF ys c:=by
 induction c with
 |VH=>intro xs ys _;cases xs<;>show dP _
 |V4 z c a=>
  intro xs ys h;cases xs with
  |VH=>show dP _
  |V4 x xs=>
   cases ys with
   |VH=>
    have h:=(aN _ _).mp h;change x*z+oF xs c<=0;rw[gS h.1,yT,fj];show a xs [] h.2
   |V4 y ys=>
    have h:=(aN _ _).mp h;show V9.add_le_add (d9 z (aS h.1)) (a xs ys h.2)
set_option genCtorIdx true in
inductive Tx|v (k:V9)|i (k:V9)|n (k:V9)|p (x y:Tx)|m (k:V9) (x:Tx)|q (x:Tx) (k:V9)|s (x y:Tx)|u (x y:Tx)|w (x y:Tx)|z (x:Tx)|o (x:Tx)
set_option genCtorIdx true in
inductive Rx|l (c:VS) (x y:Tx)|k (c:VS) (x y:Tx)|e (c:VS) (x y:Tx)|N (r:Rx)|K (r s:Rx)|O (r s:Rx)|M (r s:Rx)|I (r s:Rx)|F
nonrec abbrev Gr {a:Type} (d:a):V2 a->V9->a
 |[],_=>d
 |x::_,0=>x
 |_::l,k+1=>Gr d l k
end
section
variable (e:List Nat) (f:List Int)
mutual open Nat
nonrec abbrev Tx.nv:Tx->V9
 | .v k=>Gr 0 e k
 | .n k=>k
 | .p x y=>x.nv+y.nv
 | .m k x=>k*x.nv
 | .q x k=>x.nv*k
 | .s x y=>x.nv-y.nv
 | .u x y=>min x.nv y.nv
 | .w x y=>max x.nv y.nv
 | .i _=>0
 | .z _=>0
 | .o _=>0
nonrec abbrev Tx.zv:Tx->Vo
 | .i k=>Gr 0 f k
 | .n k=>Ra k
 | .p x y=>x.zv+y.zv
 | .m k x=>Ra k*x.zv
 | .q x k=>x.zv*Ra k
 | .s x y=>x.zv-y.zv
 | .u x y=>min x.zv y.zv
 | .w x y=>max x.zv y.zv
 | .z x=>(x.nv e:Vo)
 | .o x=>- x.zv
 | .v _=>0
nonrec abbrev Rx.P:Rx->Prop
 | .l V3 x y=>x.nv e<=y.nv e
 | .l V6 x y=>x.zv e f<=y.zv e f
 | .k V3 x y=>x.nv e<y.nv e
 | .k V6 x y=>x.zv e f<y.zv e f
 | .e V3 x y=>x.nv e=y.nv e
 | .e V6 x y=>x.zv e f=y.zv e f
 | .N r=>¬r.P
 | .K r s=>r.P/\s.P
 | .O r s=>r.P\/s.P
 | .M r s=>r.P->s.P
 | .I r s=>r.P↔s.P
 | .F=>WY
nonrec abbrev Pc (g:Rx):V2 Rx->Prop
 |[]=>g.P e f
 |r::rs=>r.P e f->Pc g rs
abbrev Tx.iv (x:Tx):VS->Vo
 |V3=>(x.nv e:Vo)
 |V6=>x.zv e f
end
end
mutual open Nat
structure Vx where
 a:V2 V9
 b:V2 V9
abbrev Vx.add (x y:Vx):Vx:={DF x.a y.a,DF x.b y.b}
abbrev Vx.mul (k:V9) (x:Vx):Vx:={EJ k x.a,EJ k x.b}
abbrev u0:V9->V2 V9
 |0=>[1]
 |k+1=>0::u0 k
nonrec abbrev Vx.WM:Vx:={[],[]}
nonrec abbrev Vx.Ws:Vx:={[1],[]}
structure Cx' where
 k:V2 (Vx×Vx)
 p:Vx
 n:Vx
abbrev Cx'.le (x y:Cx'):Vx×Vx:=(x.p.add y.n,y.p.add x.n)
abbrev Cx'.lt (x y:Cx'):Vx×Vx:=(Vx.Ws.add (x.p.add y.n),y.p.add x.n)
abbrev pairs {a b:Type} (f:a->a->V2 b) (l r:V2 a):V2 b:=(l.VP λx=>(r.VP (f x)).ZW).ZW
abbrev Tx.cs:Tx->VS->V2 Cx'
 | .v k,V3=>[{[],{0::u0 k,[]},.WM}]
 | .i k,V6=>[{[],{[],u0 k},.WM}]
 | .n k,_=>[{[],{[k],[]},.WM}]
 | .p x y,t=>pairs (λc d=>[{c.k++d.k,c.p.add d.p,c.n.add d.n}]) (x.cs t) (y.cs t)
 | .m k x,t=>(x.cs t).VP λc=>{c.k,c.p.mul k,c.n.mul k}
 | .q x k,t=>(x.cs t).VP λc=>{c.k,c.p.mul k,c.n.mul k}
 | .s x y,V3=>pairs (λc d=>[{c.k++d.k++[d.le c],c.p.add d.n,c.n.add d.p},{c.k++d.k++[c.le d],.WM,.WM}]) (x.cs V3) (y.cs V3)
 | .s x y,V6=>pairs (λc d=>[{c.k++d.k,c.p.add d.n,c.n.add d.p}]) (x.cs V6) (y.cs V6)
 | .u x y,t=>pairs (λc d=>[{c.k++d.k++[c.le d],c.p,c.n},{c.k++d.k++[d.le c],d.p,d.n}]) (x.cs t) (y.cs t)
 | .w x y,t=>pairs (λc d=>[{c.k++d.k++[c.le d],d.p,d.n},{c.k++d.k++[d.le c],c.p,c.n}]) (x.cs t) (y.cs t)
 | .z x,V6=>x.cs V3
 | .o x,V6=>(x.cs V6).VP λc=>{c.k,c.n,c.p}
 |_,_=>[{[],.WM,.WM}]
abbrev vP {a:Type} (l r:V2 (V2 a)):V2 (V2 a):=pairs (λx y=>[x++y]) l r
abbrev Ga (x y:Tx) (t:VS) (f:Cx'->Cx'->V2 (V2 (Vx×Vx))):V2 (V2 (Vx×Vx)):=pairs (λc d=>(f c d).VP λr=>c.k++d.k++r) (x.cs t) (y.cs t)
abbrev Rx.dn:Rx->VS->V2 (V2 (Vx×Vx))
 | .l z x y,V6=>Ga x y z λc d=>[[c.le d]]
 | .l z x y,V3=>Ga x y z λc d=>[[d.lt c]]
 | .k z x y,V6=>Ga x y z λc d=>[[c.lt d]]
 | .k z x y,V3=>Ga x y z λc d=>[[d.le c]]
 | .e z x y,V6=>Ga x y z λc d=>[[c.le d,d.le c]]
 | .e z x y,V3=>Ga x y z λc d=>[[c.lt d],[d.lt c]]
 | .N r,b=>r.dn !b
 | .K r s,V6=>vP (r.dn V6) (s.dn V6)
 | .K r s,V3=>r.dn V3++s.dn V3
 | .O r s,V6=>r.dn V6++s.dn V6
 | .O r s,V3=>vP (r.dn V3) (s.dn V3)
 | .M r s,V6=>r.dn V3++s.dn V6
 | .M r s,V3=>vP (r.dn V6) (s.dn V3)
 | .I r s,V6=>vP (r.dn V6) (s.dn V6)++vP (r.dn V3) (s.dn V3)
 | .I r s,V3=>vP (r.dn V6) (s.dn V3)++vP (r.dn V3) (s.dn V6)
 | .F,V6=>[]
 | .F,V3=>[[]]
abbrev Hw:V2 V9->VS
 |[]=>V6
 |x::xs=>g9 x 0&&Hw xs
abbrev Sn:V2 V9->V2 V9->VS
 |[],ys=>Hw ys
 |x::xs,ys=>match ys with
  |[]=>g9 x 0&&Hw xs
  |y::ys=>g9 x y&&Sn xs ys
abbrev Rj:V2 V9->V2 (Vx×Vx)->Vx×Vx->Vx×Vx
 |[],_,s=>s
 |k::ks,rs,s=>rs.Wc s λr rs=>Rj ks rs ((r.1.mul k).add s.1,(r.2.mul k).add s.2)
abbrev SX (ks:V2 V9) (rs:V2 (Vx×Vx)):VS:=let s:=Rj ks rs (.WM,.WM);lev (Vx.Ws.add s.2).a s.1.a&&Sn s.2.b s.1.b
abbrev Pn:V2 (V2 V9)->V2 (V2 (Vx×Vx))->VS
 |[],rs=>rs.WN
 |k::ks,rs=>rs.Wc V6 λr rs=>SX k r&&Pn ks rs
abbrev GC:V2 Rx->V2 (V2 (Vx×Vx))->V2 (V2 (Vx×Vx))
 |[],acc=>acc
 |r::rs,acc=>GC rs (vP acc (r.dn V6))
abbrev ckx (hs:V2 Rx) (g:Rx) (cs:V2 (V2 V9)):VS:=Pn cs (GC hs (g.dn V3))
abbrev nD:V2 V9->V2 Vo->Vo
 |[],_=>0
 |x::xs,ys=>ys.Wc 0 λy ys=>(x:Vo)*y+nD xs ys
def Mu (a b c d:Vo):a+b+(c+d)=a+c+(b+d):=by rw[FU,FU,Vo.add_left_comm b]
def QX (a b c d:Vo):a-b+(c-d)=a+c-(b+d):=by rw[jA,jA,jA,Vo.neg_add,Mu]
def TY (a b c d:Vo):a+d<=c+b↔a-b<=c-d:=by rw[Vo.add_le_iff_le_sub,Vo.sub_right_le_iff_le_add,jA,jA,Vo.add_right_comm]
def Na (f:V2 Vo):∀xs ys,nD (DF xs ys) f=nD xs f+nD ys f:=by
 induction f with
 |VH=>intro xs ys;cases xs<;>cases ys<;>rfl
 |V4 z f a=>
  intro xs ys;cases xs with
  |VH=>show(Vo.zero_add _).Vh
  |V4 x xs=>
   cases ys with
   |VH=>show(Vo.add_zero _).Vh
   |V4 y ys=>
    change((x+y:V9):Vo)*z+nD (DF xs ys) f=x*z+nD xs f+(y*z+nD ys f);rw[a,Vo.natCast_add,Vo.add_mul,Mu]
def M9 (k:V9) (f:V2 Vo):∀xs,nD (EJ k xs) f=k*nD xs f:=by
 induction f with
 |VH=>intro xs;cases xs<;>show(Vo.mul_zero _).Vh
 |V4 z f a=>
  intro xs;cases xs with
  |VH=>show(Vo.mul_zero _).Vh
  |V4 x xs=>
   change((k*x:V9):Vo)*z+nD (EJ k xs) f=k*(x*z+nD xs f);rw[a,Vo.mul_add,Vo.natCast_mul,Vo.mul_assoc]
def D0 (f:V2 Vo):∀ys,Hw ys=V6->nD ys f=0:=by
 induction f with
 |VH=>intro ys _;cases ys<;>rfl
 |V4 z f a=>
  intro ys h;cases ys with
  |VH=>rfl
  |V4 y ys=>
   let(b,c):=nZ.mp h;clear h;cases gS b;change(0:Vo)*z+nD ys f=0;rw[a ys c,Vo.zero_mul];rfl
def O8 (f:V2 Vo):∀xs ys,Sn xs ys=V6->nD xs f=nD ys f:=by
 induction f with
 |VH=>intro xs ys _;cases xs<;>cases ys<;>rfl
 |V4 z f a=>
  intro xs ys h;cases xs with
  |VH=>show(D0 _ _ h).Vh
  |V4 x xs=>
   cases ys with
   |VH=>show D0 (z::f) (x::xs) h
   |V4 y ys=>
    let(b,c):=nZ.mp h;clear h;cases gS b;change(x:Vo)*z+nD xs f=_*z+nD ys f;show VN _ (a xs ys c)
def Kr (e:V2 V9):∀k,oF (u0 k) e=Gr 0 e k:=by
 induction e with
 |VH=>intro k;cases k<;>rfl
 |V4 x e a=>
  intro k;cases k with
  |WM=>show oh x
  |Wh k=>change 0*x+oF (u0 k) e=_;rw[a,yT,fj]
def Ks (e:V2 Vo):∀k,nD (u0 k) e=Gr 0 e k:=by
 induction e with
 |VH=>intro k;cases k<;>rfl
 |V4 x e a=>
  intro k;cases k with
  |WM=>show(Vo.add_zero _).V7 (Vo.one_mul x)
  |Wh k=>change 0*x+nD (u0 k) e=_;rw[a,Vo.zero_mul,Vo.zero_add]
end
section
variable (e:List Nat) (f:List Int)
mutual open Nat
abbrev Vx.YM (x:Vx):Vo:=(oF x.a (1::e):Vo)+nD x.b f
def mU (x y:Vx):(x.add y).YM e f=x.YM e f+y.YM e f:=by change((oF (DF x.a y.a) (1::e):V9):Vo)+nD (DF x.b y.b) f=(_+_)+(_+_);rw[IC,Na,Vo.natCast_add,Mu]
def CQ (k:V9) (x:Vx):(x.mul k).YM e f=k*x.YM e f:=by change((oF (EJ k x.a) (1::e):V9):Vo)+nD (EJ k x.b) f=k*(_+_);rw[Pb,M9,Vo.natCast_mul,Vo.mul_add]
def D6:Vx.WM.YM e f=0:=rfl
def NK:Vx.Ws.YM e f=1:=rfl
nonrec abbrev okR (r:Vx×Vx):Prop:=r.1.YM e f<=r.2.YM e f
nonrec abbrev okC (c:Cx') (v:Vo):Prop:=(∀r∈c.k,okR e f r)/\v=c.p.YM e f-c.n.YM e f
def xH {c d:Cx'} {u v:Vo} (a:okC e f c u) (b:okC e f d v):okR e f (c.le d)↔u<=v:=by let(_,VC):=a;let(_,VC):=b;change(c.p.add d.n).YM e f<=(d.p.add c.n).YM e f↔_;rw[mU,mU];show TY ..
def H6 {c d:Cx'} {u v:Vo} (a:okC e f c u) (b:okC e f d v):okR e f (c.lt d)↔u<v:=by let(_,VC):=a;let(_,VC):=b;change(Vx.Ws.add (c.p.add d.n)).YM e f<=(d.p.add c.n).YM e f↔_;rw[mU,mU,mU,NK,<-FU,TY,Vo.add_sub_assoc,Vo.add_comm 1];rfl
def wI {a c:Type} {g:a->a->V2 c} {l r:V2 a} {x y:a} {b:c} (d:x∈l) (h:y∈r) (i:b∈g x y):b∈pairs g l r:=
 V2.mem_flatten.WO (aV _ (aK.WO (aV x d rfl)) (V2.mem_flatten.WO (aV _ (aK.WO (aV y h rfl)) i)))
def jx {a:Type} {P:a->Prop} {l r:V2 a} (b:∀x∈l,P x) (c:∀x∈r,P x):∀x∈l++r,P x:=λx h=>(aW.mp h).W2 (b x) (c x)
def nV {b:Type} {P:b->Prop} {a:b} (h:P a):∀x∈[a],P x:=λx c=>aC.mp c▸h
def vp:okC e f {[],.WM,.WM} 0:={λ_ h=>((by cases h)),by simp only[D6];rfl}
def Sa {c d:Cx'} {u v:Vo} (a:okC e f c u) (b:okC e f d v):okC e f {c.k++d.k,c.p.add d.p,c.n.add d.n} (u+v):=
 ⟨jx a.1 b.1,by rw[a.2,b.2,QX,<-mU,<-mU]⟩
def LD {c d:Cx'} {u v:Vo} (a:okC e f c u) (b:okC e f d v):okC e f {c.k++d.k,c.p.add d.n,c.n.add d.p} (u-v):=
 ⟨jx a.1 b.1,by rewrite [a.2,b.2,mU,mU,<-QX,<-Vo.neg_sub (Vx.YM e f d.p)];show jA⟩
def LG {c:Cx'} {u:Vo} (k:V9) (a:okC e f c u):okC e f {c.k,c.p.mul k,c.n.mul k} (k*u):=
 ⟨a.1,by rw[a.2,Vo.mul_sub,<-CQ,<-CQ]⟩
nonrec abbrev okT (x:Tx) (b:VS):Prop:=∃c∈x.cs b,okC e f c (x.iv e f b)
def vq {x y:Tx} {b:VS} {g:Cx'->Cx'->V2 Cx'} {v:Vo} (a:okT e f x b) (i:okT e f y b) (h:∀c d,okC e f c (x.iv e f b)->okC e f d (y.iv e f b)->∃z∈g c d,okC e f z v):∃z∈pairs g (x.cs b) (y.cs b),okC e f z v:=
 by let(c,j,k):=a;show by let(d,l,n):=i;show by let(z,m,o):=h c d k n;show aV z (wI j l m) o
def Gp {x:Tx} {b:VS} {g:Cx'->Cx'} {v:Vo} (a:okT e f x b) (h:∀c,okC e f c (x.iv e f b)->okC e f (g c) v):∃z∈(x.cs b).VP g,okC e f z v:=
 by let(c,d,i):=a;show aV (g c) (aK.WO (aV c d rfl)) (h c i)
def LC {c d:Cx'} {u v w:Vo} {p n a b:Vx} (g:okC e f c u) (h:okC e f d v) (l:u<=v->okC e f {[],p,n} w) (r:v<=u->okC e f {[],a,b} w):
    ∃z∈[(⟨c.k++d.k++[c.le d],p,n⟩:Cx'),⟨c.k++d.k++[d.le c],a,b⟩],okC e f z w:=
 (Vo.le_total u v).W2 (λq=>g6 _ (.WI _) (jx (jx g.1 h.1) (nV ((xH e f g h).WO q))) (l q).2)
  λq=>g6 _ (.XW _ (.WI _)) (jx (jx g.1 h.1) (nV ((xH e f h g).WO q))) (r q).2
def Q6 (x:Tx):∀b,okT e f x b:=by
 induction x with
 |v k=>intro b;cases b with
  |V6=>show{_,.WI _,vp e f}
  |V3=>show{_,.WI _,λ_ h=>((by cases h)),by change((Gr 0 e k:V9):Vo)=((0*1+oF (u0 k) e:V9):Vo)+0-0;rw[Kr,yT,fj,Vo.add_zero,Vo.sub_zero]}
 |i k=>intro b;cases b with
  |V3=>show{_,.WI _,vp e f}
  |V6=>show{_,.WI _,λ_ h=>((by cases h)),by change Gr 0 f k=(0:Vo)+nD (u0 k) f-0;rw[Ks,Vo.zero_add,Vo.sub_zero]}
 |n k=>intro b;show{_,.WI _,λ_ h=>((by cases h)),by cases b<;>show(show(k:Vo)=((k*1:V9):Vo)+0-0 by rw[V9.mul_one,Vo.add_zero,Vo.sub_zero])}
 |p x y a g=>intro b;apply vq e f (a b) (g b) λc d j l=>{_,.WI _,?_};letI:=Sa e f j l;clear l j;cases b<;>show this
 |m k x a=>intro b;apply Gp e f (a b) λc h=>?_;have:=LG e f k h;clear h;cases b<;>show this
 |q x k a=>intro b;apply Gp e f (a b) λc h=>?_;have:=LG e f k h;rw[Vo.mul_comm] at this;clear h;cases b<;>show this
 |s x y a g=>intro b;cases b with
  |V6=>show vq e f (a _) (g _) λc d j l=>{_,.WI _,LD e f j l}
  |V3=>
   apply vq e f (a _) (g _) λc d j l=>?_;have o:=LD e f j l;rcases kO (y.nv e) (x.nv e) with q|q
   .apply{_,.WI _,jx (jx j.1 l.1) (nV ((xH e f l j).WO (m6.WO q))),?_};rw[<-o.2];show Vo.ofNat_sub q
   .apply{_,.XW _ (.WI _),jx (jx j.1 l.1) (nV ((xH e f j l).WO (m6.WO q))),?_};change((x.nv e-y.nv e:V9):Vo)=_;rw[V9.sub_eq_zero_of_le q,D6];rfl
 |u x y a g=>
  intro b;apply vq e f (a b) (g b) λc d j l=>LC e f j l (λq=>{λ_ h=>((by cases h)),?_}) (λq=>{λ_ h=>((by cases h)),?_})
  .apply eZ ?_ j.2;clear l j d c;cases b with
   |V3=>show VN _ (iQ (m6.mp q))
   |V6=>show Vo.min_eq_left q
  .apply eZ ?_ l.2;clear l j d c;cases b with
   |V3=>show VN _ (nP (m6.mp q))
   |V6=>show Vo.min_eq_right q
 |w x y a g=>
  intro b;apply vq e f (a b) (g b) λc d j l=>LC e f j l (λq=>{λ_ h=>((by cases h)),?_}) (λq=>{λ_ h=>((by cases h)),?_})
  .apply eZ ?_ l.2;cases b with
   |V3=>show VN _ (iF (m6.mp q))
   |V6=>show Vo.max_eq_right q
  .apply eZ ?_ j.2;cases b with
   |V3=>show VN _ (oW (m6.mp q))
   |V6=>show Vo.max_eq_left q
 |z x a=>intro b;cases b with
  |V3=>show{_,.WI _,vp e f}
  |V6=>show a V3
 |o x a=>intro b;cases b with
  |V3=>show{_,.WI _,vp e f}
  |V6=>show Gp e f (a V6) λc h=>{h.1,by change-x.zv e f=c.n.YM e f-c.p.YM e f;rw[show x.zv e f=_ from h.2];show Vo.neg_sub ..}
nonrec abbrev okD (l:V2 (V2 (Vx×Vx))):Prop:=∃Vf∈l,∀q∈Vf,okR e f q
def wN {x y:Tx} {b:VS} {g:Cx'->Cx'->V2 (V2 (Vx×Vx))} (h:∀c d,okC e f c (x.iv e f b)->okC e f d (y.iv e f b)->okD e f (g c d)):okD e f (Ga x y b g):=
 by let(c,a,i):=Q6 e f x b;show by let(d,j,k):=Q6 e f y b;show let ⟨z,m,o⟩:=h c d i k
 (aV _ (wI a j (aK.WO (aV z m rfl))) (jx (jx i.1 k.1) o))
def nj {l r:V2 (V2 (Vx×Vx))} (a:okD e f l) (b:okD e f r):okD e f (vP l r):=
 by let(c,g,h):=a;show by let(d,i,j):=b;show aV _ (wI g i (.WI _)) (jx h j)
def LH {l r:V2 (V2 (Vx×Vx))} (h:okD e f l):okD e f (l++r):=by let(c,m,o):=h;show aV c (cU _ m) o
def LF {l r:V2 (V2 (Vx×Vx))} (h:okD e f r):okD e f (l++r):=by let(c,m,o):=h;show aV c (dM _ m) o
def OF {r:Vx×Vx} (h:okR e f r):okD e f [[r]]:=aV _ (.WI _) (nV h)
def P_l (b:VS) (x y:Tx):(Rx.l b x y).P e f↔x.iv e f b<=y.iv e f b:=by cases b<;>(first|show I0|simp[Rx.P,Tx.iv])
def P_k (b:VS) (x y:Tx):(Rx.k b x y).P e f↔x.iv e f b<y.iv e f b:=by cases b<;>(first|show I0|simp[Rx.P,Tx.iv])
def P_e (b:VS) (x y:Tx):(Rx.e b x y).P e f↔x.iv e f b=y.iv e f b:=by cases b<;>(first|show I0|simp[Rx.P,Tx.iv]);show Vo.ofNat_inj.Vh
def Q5 (r:Rx):(r.P e f->okD e f (r.dn V6))/\(¬r.P e f->okD e f (r.dn V3)):=by
 induction r with
 |l b x y=>rw[P_l];show{λh=>wN e f λc d g i=>OF e f ((xH e f g i).WO h),λh=>wN e f λc d g i=>OF e f ((H6 e f i g).WO (Vo.not_le.mp h))}
 |k b x y=>rw[P_k];show{λh=>wN e f λc d g i=>OF e f ((H6 e f g i).WO h),λh=>wN e f λc d g i=>OF e f ((xH e f i g).WO (Vo.not_lt.mp h))}
 |e b x y=>rw[P_e];show⟨λh=>wN e f λc d g i=>aV _ (.WI _) (jx (l:=[_]) (nV ((xH e f g i).WO (Vo.le_of_eq h))) (nV ((xH e f i g).WO (Vo.le_of_eq h.Vh)))),
    λh=>wN e f λc d g i=>(Vo.lt_or_gt_of_ne h).W2 (λq=>aV _ (.WI _) (nV ((H6 e f g i).WO q))) λq=>(aV _ (.XW _ (.WI _)) (nV ((H6 e f i g).WO q)))⟩
 |N r j=>show{j.2,λh=>j.1 (fU h)}
 |K r s j hs=>show{λh=>nj e f (j.1 h.1) (hs.1 h.2),λh=>(uY (r.P e f)).W2 (λq=>LF e f (hs.2 λz=>h {q,z})) λq=>LH e f (j.2 q)}
 |O r s j hs=>show{λh=>h.W2 (λq=>LH e f (j.1 q)) λq=>LF e f (hs.1 q),λh=>nj e f (j.2 λq=>h (.XB q)) (hs.2 λq=>h (.Wt q))}
 |M r s j hs=>show{λh=>(uY (r.P e f)).W2 (λq=>LF e f (hs.1 (h q))) λq=>LH e f (j.2 q),λh=>nj e f (j.1 (fU λq=>h λz=>Vy z q)) (hs.2 λq=>h λ_=>q)}
 |I r s j hs=>show⟨λh=>(uY (r.P e f)).W2 (λq=>LH e f (nj e f (j.1 q) (hs.1 (h.mp q)))) λq=>LF e f (nj e f (j.2 q) (hs.2 λz=>q (h.WO z))),
    λh=>(uY (r.P e f)).W2 (λq=>LH e f (nj e f (j.1 q) (hs.2 λz=>h ⟨λ_=>z,λ_=>q⟩))) λq=>LF e f (nj e f (j.2 q) (hs.1 (fU λz=>h ⟨λa=>Vy a q,λa=>Vy a z⟩)))⟩
 |F=>show{λh=>h.W2,λ_=>(aV [] (.WI _) λ_ h=>((by cases h)))}
def NS (ks:V2 V9):∀(rs:V2 (Vx×Vx)) (s:Vx×Vx),(∀q∈rs,okR e f q)->okR e f s->okR e f (Rj ks rs s):=by
 induction ks with
 |VH=>intro rs s _ h;show h
 |V4 k ks a=>
  intro rs s b c;cases rs with
  |VH=>show c
  |V4 r rs=>
   apply a rs _ (λq d=>b q (.XW _ d)) ?_;simp only[okR,mU,CQ];show Vo.add_le_add (Vo.mul_le_mul_of_nonneg_left (b r (.WI _)) (Vo.natCast_nonneg k)) c
def N7 {ks:V2 V9} {rs:V2 (Vx×Vx)} (w:SX ks rs=V6) (h:∀q∈rs,okR e f q):WY:=by have w:=(aN _ _).mp w;have h1:=NS e f ks rs (.WM,.WM) h (Vo.le_refl _);have h2:=Sq (1::e) _ _ w.1;have h3:=O8 f _ _ w.2;have h1:(oF _ (1::e):Vo)+nD _ f<=oF _ (1::e)+nD _ f:=h1;rw[h3] at h1;rw[show oF (Vx.add .Ws _).a _=_ from IC ..] at h2;show Vy (aG h2 (m6.mp (Vo.le_of_add_le_add_right h1))) (NF.WO (V9.lt_add_of_pos_left n9))
def Pk (cs:V2 (V2 V9)):∀(l:V2 (V2 (Vx×Vx))),Pn cs l=V6->¬okD e f l:=by
 induction cs with
 |VH=>intro l w {x,h,_};rw[bU.mp w] at h;cases h
 |V4 k ks a=>
  intro l w {x,b,c};cases l with
  |VH=>cases b
  |V4 r rs=>
   have w:=(aN _ _).mp w;rcases aU.mp b with b|b
   .show N7 e f w.1 (b▸c)
   .show a rs w.2 (aV x b c)
def JI (g:Rx) (hs:V2 Rx):∀(a:V2 (V2 (Vx×Vx))),(¬g.P e f->okD e f a)->(∀cs,Pn cs (GC hs a)=V6->Pc e f g hs):=by
 induction hs with
 |VH=>show λa h cs w=>fU λq=>Pk e f cs _ w (h q)
 |V4 r rs b=>show λa h cs w c=>b _ (λq=>nj e f (h q) ((Q5 e f r).1 c)) cs w
end
end
mutual open Nat
def bY (hs:V2 Rx) (g:Rx) (cs:V2 (V2 V9)) (w:ckx hs g cs=V6) (e:V2 V9) (f:V2 Vo):Pc e f g hs:=JI e f g hs _ (Q5 e f g).2 cs w
end
end
mutual open Nat
nonrec abbrev Tx.a:Tx:=.v 0
nonrec abbrev Tx.b:Tx:=.v 1
nonrec abbrev Tx.c:Tx:=.v 2
nonrec abbrev Tx.d:Tx:=.v 3
nonrec abbrev Tx.e:Tx:=.v 4
nonrec abbrev Tx.f:Tx:=.v 5
nonrec abbrev Tx.g:Tx:=.v 6
nonrec abbrev Tx.h:Tx:=.v 7
structure Lr where
 k:V9
 x:Tx
 y:Tx
nonrec abbrev Lr.r (r:Lr):Rx:=match r.k with
 |0=>.l V3 r.x r.y
 |1=>.k V3 r.x r.y
 |2=>.e V3 r.x r.y
 |3=>.N (.k V3 r.x r.y)
 |4=>.N (.l V3 r.x r.y)
 |_=>.F
nonrec abbrev Lr.cs (r:Lr) (cs a:V2 V9):V2 (V2 V9):=match r.k with
 |2=>[a,cs]
 |5=>[cs.XW]
 |_=>[cs]
nonrec abbrev Aq (e:V2 V9) (g:Lr):V2 Lr->Prop
 |[]=>g.r.P e []
 |r::rs=>r.r.P e []->Aq e g rs
def lin (hs:V2 Lr) (g:Lr) (cs a:V2 V9) (w:ckx (hs.VP Lr.r) g.r (g.cs cs a)=V6) (e:V2 V9):Aq e g hs:=by
 letI:∀hs:V2 Lr,Pc e [] g.r (hs.VP Lr.r)->Aq e g hs:=λhs=>by
  induction hs with
  |VH=>show id
  |V4 r hs b=>show λh q=>b (h q)
 show this hs (bY _ _ _ w e [])
def o6 (hs:V2 Lr) (r:Lr) (cs a:V2 V9) (w:ckx (hs.VP Lr.r) r.r (r.cs cs a)=V6):Aq [] r hs:=lin hs r cs a w _
def e9 (hs:V2 Lr) (r:Lr) (cs b:V2 V9) (w:ckx (hs.VP Lr.r) r.r (r.cs cs b)=V6) {a:V9}:Aq [a] r hs:=lin hs r cs b w _
def dX (hs:V2 Lr) (r:Lr) (cs c:V2 V9) (w:ckx (hs.VP Lr.r) r.r (r.cs cs c)=V6) {b a:V9}:Aq [a,b] r hs:=lin hs r cs c w _
def fG (hs:V2 Lr) (r:Lr) (cs d:V2 V9) (w:ckx (hs.VP Lr.r) r.r (r.cs cs d)=V6) {c b a:V9}:Aq [a,b,c] r hs:=lin hs r cs d w _
def ir (hs:V2 Lr) (r:Lr) (cs e:V2 V9) (w:ckx (hs.VP Lr.r) r.r (r.cs cs e)=V6) {d c b a:V9}:Aq [a,b,c,d] r hs:=lin hs r cs e w _
def A4 (hs:V2 Lr) (r:Lr) (cs f:V2 V9) (w:ckx (hs.VP Lr.r) r.r (r.cs cs f)=V6) {e d c b a:V9}:Aq [a,b,c,d,e] r hs:=lin hs r cs f w _
def OP (hs:V2 Lr) (r:Lr) (cs g:V2 V9) (w:ckx (hs.VP Lr.r) r.r (r.cs cs g)=V6) {f e d c b a:V9}:Aq [a,b,c,d,e,f] r hs:=lin hs r cs g w _
def Ut (hs:V2 Lr) (r:Lr) (cs h:V2 V9) (w:ckx (hs.VP Lr.r) r.r (r.cs cs h)=V6) {g f e d c b a:V9}:Aq [a,b,c,d,e,f,g] r hs:=lin hs r cs h w _
abbrev qq0:=@bY [.k V3 (.v 0) (.p (.v 1) (.n 1)),.N (.e V3 (.v 0) (.v 1))] (.k V3 (.v 0) (.v 1)) [[1,0,1],[0,1,1]] tt
abbrev qq1:=@bY [] (.l V6 (.n 0) (.z (.v 0))) [[1]] tt
abbrev qq2:=@bY [.l V3 (.v 0) (.n 1000),.k V3 (.v 1) (.v 0)] (.k V6 (.z (.v 1)) (.n 9223372036854775808)) [[1,1,1]] tt
abbrev qq3:=@fG [{2,.p .a (.p .b (.n 1)),.c}] {2,.p (.p .a (.n 1)) .b,.c} [1,1] [1,0,1] tt
abbrev qq4:=@fG [{1,.a,.b},{1,.c,.a}] {1,.c,.b} [1,1,1] [] tt
abbrev qq5:=@e9 [] {2,.p (.n 0) .a,.a} [1] [1] tt
abbrev qq6:=@fG [{2,.p .a (.p .b (.n 1)),.c}] {1,.a,.c} [1,1] [] tt
abbrev qq7:=@bY [.l V3 (.v 0) (.n 100),.k V3 (.v 1) (.v 0)] (.k V6 (.z (.v 1)) (.n 9223372036854775808)) [[1,1,1]] tt
abbrev qq8:=@dX [{1,.a,.b},{2,.a,.b}] {5,.n 0,.n 0} [1,1,0,1] [] tt
abbrev qq9:=@bY [.l V3 (.p (.w (.v 0) (.v 1)) (.n 1)) (.v 2)] (.e V3 (.v 2) (.p (.s (.v 2) (.n 1)) (.n 1))) [[0,1],[0,1],[0,1],[0,1],[0,1,0,1],[0,1,0,1],[1,1],[1,1]] tt
abbrev A0:=@bY [] (.k V6 (.n 1) (.n 9223372036854775808)) [[1]] tt
abbrev TM:=@bY [.l V3 (.v 0) (.v 1),.k V3 (.v 1) (.v 2),.k V3 (.v 2) (.v 3),.k V3 (.v 3) (.v 4),.e V3 (.v 5) (.v 4),.e V3 (.v 6) (.v 5),.e V3 (.v 7) (.v 8),.l V3 (.v 7) (.v 9),.l V3 (.v 6) (.v 8)] (.l V3 (.v 0) (.v 9)) [[1,1,1,1,1,0,1,0,1,0,1,1,1]] tt
abbrev AZ:=@dX [{2,.p .a (.n 0),.b}] {2,.a,.b} [1,1] [1,0,1] tt
abbrev C6:=@bY [] (.k V6 (.n 0) (.n 9223372036854775808)) [[1]] tt
abbrev Ox:=@bY [.N (.k V3 (.v 0) (.v 1)),.e V3 (.s (.v 0) (.v 1)) (.n 0)] (.e V3 (.v 0) (.v 1)) [[1,1],[1,1],[1,0,0,1],[1,0,1]] tt
abbrev Ow:=@bY [.l V3 (.p (.v 0) (.n 1)) (.v 1)] (.e V3 (.v 1) (.p (.s (.v 1) (.n 1)) (.n 1))) [[0,1],[0,1],[0,1,1],[1,1]] tt
abbrev K5:=@bY [.N (.e V3 (.v 0) (.v 1))] (.N (.e V6 (.z (.v 0)) (.z (.v 1)))) [[0,1,1],[1,0,1]] tt
abbrev C5:=@fG [{2,.a,.b},{1,.c,.b}] {1,.c,.a} [1,0,1,1] [] tt
abbrev TL:=@bY [.k V3 (.v 0) (.v 1),.k V3 (.v 1) (.v 2),.e V3 (.v 3) (.v 2),.e V3 (.v 4) (.v 3),.e V3 (.v 5) (.v 6),.l V3 (.v 5) (.v 7),.l V3 (.v 4) (.v 6)] (.N (.e V3 (.v 7) (.v 0))) [[1,0,1,1,0,1,0,1,0,1,1,1]] tt
abbrev Ov:=@bY [.l V3 (.p (.w (.v 0) (.v 1)) (.n 1)) (.p (.v 2) (.n 1))] (.l V3 (.v 0) (.v 2)) [[1,1,1],[1,0,1]] tt
abbrev Ou:=@bY [.l V3 (.p (.w (.v 0) (.v 1)) (.n 1)) (.p (.v 2) (.n 1))] (.l V3 (.v 1) (.v 2)) [[1,0,1],[1,1,1]] tt
abbrev TJ:=@bY [.l V3 (.v 0) (.v 1),.k V3 (.v 1) (.v 2),.k V3 (.v 2) (.v 3),.k V3 (.v 3) (.v 4),.e V3 (.v 5) (.v 4),.e V3 (.v 6) (.v 5),.l V3 (.v 6) (.v 7)] (.l V3 (.v 0) (.v 7)) [[1,1,1,1,1,0,1,0,1,1]] tt
abbrev Ot:=@bY [.l V3 (.n 1) (.v 0)] (.e V3 (.v 0) (.p (.s (.v 0) (.n 1)) (.n 1))) [[0,1],[0,1],[0,1,1],[1,1]] tt
abbrev Oq:=@A4 [{0,.p .a (.p (.p .b .c) (.n 1)),.n 100},{0,.d,.p .a .b},{0,.e,.p .d .c}] {1,.e,.n 100} [1,1,1,1] [] tt
abbrev Ez:=@fG [{1,.a,.b},{2,.c,.b}] {1,.a,.c} [1,1,0,1] [] tt
abbrev Ey:=@fG [{2,.a,.b},{1,.c,.a}] {1,.c,.b} [1,1,0,1] [] tt
abbrev Gf:=@e9 [{2,.a,.n 16777216}] {0,.n 1,.a} [16777216,0,1] [] tt
abbrev Ex:=@fG [{1,.a,.b},{2,.b,.c}] {1,.a,.c} [1,1,1] [] tt
abbrev Oo:=@fG [{0,.a,.n 1000},{2,.b,.a},{2,.c,.n 16777216}] {0,.b,.c} [2097152,2097152,2097152,0,0,125] [] tt
abbrev K4:=@dX [{0,.a,.n 1000},{2,.b,.n 16777216}] {0,.a,.b} [2097152,2097152,0,125] [] tt
abbrev AY:=@bY [] (.l V6 (.n 0) (.n 1)) [[1]] tt
abbrev Ew:=@e9 [{0,.a,.n 100}] {0,.a,.n 1000} [1,1] [] tt
abbrev C4:=@bY [] (.l V6 (.n 0) (.n 0)) [[1]] tt
abbrev Om:=@bY [.k V3 (.v 0) (.v 1),.k V3 (.v 1) (.v 2)] (.k V3 (.v 0) (.v 2)) [[1,1,1]] tt
abbrev TH:=@bY [.k V3 (.v 0) (.v 1),.k V3 (.v 1) (.v 2),.e V3 (.v 3) (.v 2),.e V3 (.v 4) (.v 3),.l V3 (.v 4) (.v 5)] (.N (.e V3 (.v 5) (.v 0))) [[1,0,1,1,0,1,0,1,1]] tt
abbrev TG:=@bY [.e V3 (.v 0) (.v 1),.N (.k V3 (.v 2) (.v 0)),.e V3 (.s (.v 2) (.v 0)) (.n 0)] (.e V3 (.v 2) (.v 1)) [[1,0,1,1],[1,0,1,1],[1,1,0,0,0,1],[1,1,0,0,1]] tt
abbrev Ol:=@dX [{2,.a,.n 16777216},{0,.b,.n 1000000}] {0,.b,.a} [262144,0,15625,262144] [] tt
abbrev Oj:=@fG [{0,.p .a (.p .b (.n 1)),.n 100},{0,.c,.p .a .b}] {1,.c,.n 100} [1,1,1] [] tt
abbrev K3:=@e9 [{0,.a,.n 1000}] {1,.a,.n 9223372036854775808} [1,1] [] tt
abbrev TF:=@bY [.e V3 (.v 0) (.n 16777216),.l V3 (.p (.v 1) (.v 2)) (.n 1000000)] (.l V3 (.p (.v 1) (.u (.v 3) (.v 2))) (.v 0)) [[1,1,0,1,1],[0,1,0,1,1]] tt
abbrev RW:=@bY [.l V3 (.v 0) (.v 1),.N (.e V3 (.v 0) (.v 1))] (.k V3 (.v 0) (.v 1)) [[1,0,1],[0,1,1]] tt
abbrev RT:=@bY [.k V3 (.v 0) (.v 1),.e V3 (.v 2) (.v 0),.l V3 (.v 1) (.v 2)] .F [[1,1,0,1]] tt
abbrev K2:=@dX [{1,.a,.b},{2,.b,.a}] {5,.n 0,.n 0} [1,1,1] [] tt
abbrev RS:=@bY [.k V3 (.v 0) (.v 1),.e V3 (.v 1) (.v 2)] (.k V3 (.v 0) (.v 2)) [[1,1,1]] tt
abbrev RN:=@dX [{0,.a,.n 10},{2,.b,.n 16777216}] {0,.p (.n 1) .a,.b} [16777216,16777216,0,11] [] tt
abbrev RM:=@dX [{0,.a,.n 10},{2,.b,.n 16777216}] {0,.p .a (.n 1),.b} [16777216,16777216,0,11] [] tt
abbrev RK:=@dX [{1,.p (.p .a (.m 16 .b)) (.n 100),.n 9900}] {1,.p .a (.n 60),.n 9900} [1,1] [] tt
abbrev RJ:=@bY [.l V3 (.v 0) (.n 1000)] (.k V3 (.v 0) (.n 9223372036854775808)) [[1,1]] tt
abbrev TA:=@dX [{1,.p (.p .a (.m 16 (.p .b (.n 1)))) (.n 100),.n 9900}] {1,.p (.p (.p .a (.n 1)) (.m 16 .b)) (.n 100),.n 9900} [1,1] [] tt
abbrev RI:=@bY [] (.e V3 (.s (.p (.v 0) (.v 1)) (.v 0)) (.v 1)) [[0,1],[0,1],[1,1],[0,1]] tt
abbrev RH:=@bY [.l V3 (.v 0) (.n 3)] (.l V3 (.w (.v 0) (.n 1)) (.n 4)) [[0,1],[0,1,1]] tt
abbrev K1:=@fG [{1,.a,.b},{0,.c,.a}] {1,.c,.b} [1,1,1] [] tt
abbrev Tz:=@bY [.e V3 (.v 0) (.n 16777216),.l V3 (.v 1) (.n 2)] (.l V3 (.u (.v 2) (.v 1)) (.v 0)) [[1,1,0,1,1],[0,1,0,1,1]] tt
abbrev RG:=@dX [{0,.a,.n 1000000},{2,.b,.n 16777216}] {0,.a,.b} [262144,262144,0,15625] [] tt
abbrev K0:=@dX [{1,.a,.b}] {1,.a,.p .b (.n 1)} [1,1] [] tt
abbrev KZ:=@dX [{0,.a,.b}] {0,.a,.p .b (.n 1)} [1,1] [] tt
abbrev RE:=@fG [{0,.a,.n 1000000},{0,.b,.c},{0,.c,.a}] {0,.b,.n 1000000} [1,1,1,1] [] tt
abbrev Ge:=@dX [] {0,.a,.p .a .b} [1] [] tt
abbrev Jm:=@dX [{0,.a,.b}] {0,.a,.b} [1,1] [] tt
abbrev Tw:=@bY [.l V3 (.v 0) (.n 1000)] (.k V6 (.s (.z (.p (.v 0) (.n 1))) (.n 1)) (.n 9223372036854775808)) [[1,1]] tt
abbrev RD:=@bY [.k V3 (.v 0) (.v 1)] (.N (.e V6 (.z (.v 1)) (.n 0))) [[1,0,1]] tt
abbrev Tv:=@bY [.l V3 (.v 0) (.n 13),.k V3 (.v 1) (.v 0)] (.k V6 (.z (.v 1)) (.n 9223372036854775808)) [[1,1,1]] tt
abbrev KY:=@e9 [{0,.a,.n 13}] {0,.a,.n 100} [1,1] [] tt
abbrev Oi:=@dX [{2,.a,.b},{1,.a,.b}] {5,.n 0,.n 0} [1,0,1,1] [] tt
abbrev Oh:=@e9 [{0,.p .a (.n 1),.n 100}] {1,.a,.n 100} [1,1] [] tt
abbrev Tu:=@bY [.l V3 (.p (.v 0) (.v 1)) (.v 2),.l V3 (.v 2) (.n 100)] (.l V3 (.v 0) (.n 10000000)) [[1,1,1]] tt
abbrev Tt:=@OP [{0,.a,.p .b .c},{0,.d,.p .a .e},{0,.f,.p .d (.n 1)}] {0,.f,.p .b (.p (.p .c .e) (.n 1))} [1,1,1,1] [] tt
abbrev Tq:=@bY [.l V3 (.v 0) (.n 13),.e V3 (.v 1) (.v 0)] (.k V3 (.v 1) (.n 9223372036854775808)) [[1,1,1]] tt
abbrev RA:=@bY [.k V3 (.v 0) (.v 1)] (.N (.e V3 (.v 0) (.v 1))) [[0,1,1]] tt
abbrev Rz:=@bY [] (.N (.e V3 (.p (.v 0) (.n 1)) (.p (.v 0) (.n 2)))) [[0,1]] tt
abbrev To:=@A4 [{0,.p .a .b,.n 15000000},{0,.c,.b},{2,.c,.p .d .e}] {0,.p (.p .a .d) .e,.n 15000000} [1,1,1,0,1] [] tt
abbrev Tn:=@A4 [{0,.a,.b},{0,.p (.p .c .d) .b,.n 15000000},{0,.e,.a}] {0,.p (.p .c .d) .e,.n 15000000} [1,1,1,1] [] tt
abbrev Tj:=@bY [] (.I (.e V6 (.z (.v 0)) (.z (.v 1))) (.e V3 (.v 0) (.v 1))) [[0,1,1],[1,0,1],[1,0,1],[1,1]] tt
abbrev Og:=@bY [] (.l V3 (.v 0) (.p (.v 0) (.n 1))) [[1]] tt
abbrev Ti:=@bY [.k V3 (.v 0) (.n 9223372036854775808)] (.k V6 (.z (.v 0)) (.n 9223372036854775808)) [[1,1]] tt
abbrev Ry:=@bY [] (.N (.e V3 (.p (.v 0) (.n 4)) (.p (.v 0) (.n 1)))) [[1]] tt
abbrev Rw:=@bY [] (.N (.e V3 (.p (.v 0) (.n 4)) (.p (.v 0) (.n 2)))) [[1]] tt
abbrev Th:=@bY [.N (.l V3 (.p (.v 0) (.n 1)) (.v 1))] (.k V6 (.z (.v 1)) (.p (.z (.v 0)) (.n 1))) [[1,1]] tt
abbrev Rv:=@fG [{0,.a,.b},{1,.c,.a},{2,.c,.b}] {5,.n 0,.n 0} [1,1,1,0,1] [] tt
abbrev Tf:=@bY [.N (.e V3 (.v 0) (.v 1)),.l V3 (.v 0) (.v 1)] (.k V3 (.v 0) (.v 1)) [[1,1],[0,1,1]] tt
abbrev Te:=@bY [.O (.e V3 (.v 0) (.n 2)) (.e V3 (.v 0) (.n 3))] (.l V3 (.v 0) (.n 3)) [[1,1],[1,1]] tt
abbrev Of:=@fG [{0,.a,.b},{1,.c,.a}] {1,.c,.b} [1,1,1] [] tt
abbrev Td:=@ir [{0,.a,.n 900000},{0,.b,.n 13},{1,.c,.b},{2,.d,.p .a .c}] {0,.d,.n 1000000} [1,1,1,1,1] [] tt
abbrev Tc:=@bY [.l V3 (.p (.v 0) (.n 1)) (.v 1)] (.l V6 (.p (.z (.v 0)) (.n 1)) (.z (.v 1))) [[1,1]] tt
abbrev S9:=@fG [{0,.a,.n 10},{2,.b,.n 16777216},{1,.c,.a}] {0,.c,.b} [16777216,16777216,0,9,16777216] [] tt
abbrev S8:=@ir [{0,.a,.n 15000000},{0,.b,.n 100},{0,.p .c .d,.p .b .a}] {1,.c,.n 16000000} [1,1,1,1] [] tt
abbrev S7:=@ir [{0,.p .a (.p (.p .b .c) (.n 1)),.n 100},{0,.d,.p .a .b}] {0,.p .d .c,.n 100} [1,1,1] [] tt
abbrev Oe:=@dX [{0,.p .a (.n 1),.b}] {1,.a,.b} [1,1] [] tt
abbrev S6:=@bY [.l V3 (.v 0) (.n 100),.e V3 (.v 1) (.v 0)] (.l V3 (.v 1) (.n 1000)) [[1,1,1]] tt
abbrev S5:=@bY [.e V3 (.v 0) (.v 1),.k V3 (.v 0) (.v 2),.e V3 (.v 1) (.v 2)] .F [[0,1,1,0,1]] tt
abbrev S4:=@ir [{2,.a,.p .b .c},{2,.d,.p .a (.n 1)}] {2,.d,.p .b (.p .c (.n 1))} [1,1,0,1] [1,0,1,0,1] tt
abbrev Od:=@e9 [{0,.a,.n 200}] {0,.a,.n 1000} [1,1] [] tt
abbrev Oc:=@e9 [{0,.a,.n 10}] {0,.a,.n 1000} [1,1] [] tt
abbrev Oa:=@e9 [{0,.a,.n 72}] {0,.a,.n 1000} [1,1] [] tt
abbrev N9:=@e9 [{0,.a,.n 10}] {0,.a,.n 100} [1,1] [] tt
abbrev Ru:=@fG [{1,.a,.b},{2,.p .b .c,.a}] {5,.n 0,.n 0} [1,1,1] [] tt
abbrev S3:=@bY [.l V3 (.v 0) (.n 1000000)] (.k V3 (.v 0) (.n 9223372036854775808)) [[1,1]] tt
abbrev Rt:=@dX [{0,.p .a (.n 1),.p .b (.n 1)}] {0,.a,.b} [1,1] [] tt
abbrev SY:=@bY [.k V3 (.v 0) (.n 5)] (.k V6 (.z (.v 0)) (.n 9223372036854775808)) [[1,1]] tt
abbrev N8:=@e9 [{2,.a,.n 0}] {2,.a,.n 0} [1,1] [1] tt
abbrev QK:=@ir [{2,.p .a (.n 1),.b},{0,.p .c .b,.d}] {0,.p (.p .c (.n 1)) .a,.d} [1,1,0,1] [] tt
abbrev HM:=@e9 [{0,.a,.n 5}] {0,.a,.n 10} [1,1] [] tt
abbrev Lf:=@e9 [{2,.a,.n 16777216}] {0,.n 2,.a} [8388608,0,1] [] tt
abbrev QJ:=@dX [{1,.p .a (.p .b (.n 1)),.n 1000}] {1,.p (.p .a (.n 1)) .b,.n 1000} [1,1] [] tt
abbrev QI:=@dX [{2,.a,.n 16777216},{0,.b,.n 10000000}] {0,.b,.a} [131072,0,78125,131072] [] tt
abbrev QH:=@ir [{0,.a,.p .b .c},{0,.d,.p .a (.n 1)}] {0,.d,.p .b (.p .c (.n 1))} [1,1,1] [] tt
abbrev QG:=@bY [.k V3 (.v 0) (.v 1)] (.N (.e V3 (.p (.v 1) (.v 2)) (.v 0))) [[1,0,1]] tt
abbrev HL:=@e9 [{0,.a,.n 3}] {0,.a,.n 5} [1,1] [] tt
abbrev QF:=@bY [] (.e V6 (.p (.z (.v 0)) (.z (.v 1))) (.z (.p (.v 0) (.v 1)))) [[1],[1]] tt
abbrev QE:=@bY [.e V6 (.z (.v 0)) (.z (.v 1))] (.e V3 (.v 0) (.v 1)) [[1,0,1],[1,1]] tt
abbrev QD:=@dX [{2,.a,.n 16777216},{0,.b,.n 1000}] {0,.b,.a} [2097152,0,125,2097152] [] tt
abbrev QC:=@ir [{0,.a,.b},{0,.b,.c},{1,.d,.a},{2,.d,.c}] {5,.n 0,.n 0} [1,1,1,1,0,1] [] tt
abbrev QB:=@fG [{0,.a,.b},{2,.b,.n 373248},{0,.c,.a}] {0,.c,.n 1000000} [1,1,1,0,1] [] tt
abbrev QA:=@fG [{0,.p .a (.p (.p .b .c) (.n 1)),.n 100}] {0,.p .a .b,.n 100} [1,1] [] tt
abbrev Qz:=@bY [] (.e V6 (.p (.z (.v 0)) (.n 1)) (.z (.p (.v 0) (.n 1)))) [[1],[1]] tt
abbrev Qy:=@A4 [{0,.a,.b},{0,.c,.a}] {0,.p (.p .d .e) .c,.p (.p .d .e) .b} [1,1,1] [] tt
abbrev Qx:=@bY [.l V3 (.p (.v 0) (.n 1)) (.v 1)] (.k V3 (.v 0) (.v 1)) [[1,1]] tt
abbrev Qw:=@bY [.e V3 (.v 0) (.v 1)] (.k V3 (.v 0) (.p (.v 1) (.n 1))) [[1,1]] tt
abbrev Qv:=@bY [.k V3 (.v 0) (.v 1)] (.k V3 (.v 0) (.p (.v 1) (.n 1))) [[1,1]] tt
abbrev Qu:=@dX [{2,.a,.n 16777216},{0,.b,.n 3}] {0,.b,.a} [16777216,0,3,16777216] [] tt
abbrev Ld:=@e9 [{0,.a,.n 900}] {0,.a,.n 15000000} [1,1] [] tt
abbrev Qt:=@A4 [{0,.p .a .b,.c},{2,.d,.a},{2,.e,.b}] {0,.p .d .e,.c} [1,1,1,0,1] [] tt
abbrev Lc:=@fG [{0,.a,.b},{2,.c,.a}] {0,.c,.b} [1,1,1] [] tt
abbrev HK:=@e9 [] {0,.a,.p .a (.n 1)} [1] [] tt
abbrev Lb:=@e9 [{0,.a,.n 13}] {0,.a,.n 1000000} [1,1] [] tt
abbrev Qq:=@e9 [{0,.a,.n 1000}] {1,.p .a (.n 1),.n 9223372036854775808} [1,1] [] tt
abbrev Qp:=@fG [{0,.p .a .b,.c}] {0,.p .a (.p .b (.n 1)),.p .c (.n 1)} [1,1] [] tt
abbrev Qo:=@bY [.k V3 (.v 0) (.n 0)] (.e V3 (.v 1) (.v 2)) [[0,1],[0,1]] tt
abbrev Qm:=@dX [{0,.p .a (.p .b (.n 1)),.n 100}] {0,.p .a .b,.n 100} [1,1] [] tt
abbrev Ql:=@ir [{2,.a,.b},{2,.p .c (.p .d (.n 1)),.b}] {1,.c,.a} [1,0,1,1] [] tt
abbrev Qk:=@bY [] (.l V6 (.n 0) (.s (.z (.p (.v 0) (.n 1))) (.n 1))) [[1]] tt
abbrev Qj:=@bY [] (.l V6 (.o (.n 4611686018427387904)) (.z (.v 0))) [[1]] tt
abbrev La:=@e9 [{0,.a,.n 2}] {0,.a,.n 1000} [1,1] [] tt
abbrev Qi:=@dX [{3,.n 60,.a},{0,.b,.p .a (.n 12)}] {0,.b,.n 72} [1,1,1] [] tt
abbrev Qh:=@fG [{0,.a,.b},{1,.c,.a},{2,.b,.c}] {5,.n 0,.n 0} [1,1,1,1] [] tt
abbrev Qg:=@dX [{0,.a,.n 1000000},{0,.b,.a}] {0,.b,.n 1000000} [1,1,1] [] tt
abbrev K9:=@e9 [{3,.n 60,.a}] {0,.a,.n 60} [1,1] [] tt
abbrev K8:=@e9 [{0,.a,.n 10}] {0,.a,.n 10} [1,1] [] tt
abbrev Qf:=@bY [.k V3 (.v 0) (.v 1)] (.k V3 (.n 0) (.v 1)) [[1,1]] tt
abbrev Qe:=@bY [.k V3 (.v 0) (.v 1)] (.l V3 (.n 1) (.v 1)) [[1,1]] tt
abbrev Qd:=@dX [{0,.a,.b},{2,.b,.n 373248}] {0,.a,.n 1000000} [1,1,1] [] tt
abbrev K7:=@e9 [{0,.a,.n 5}] {0,.a,.n 12} [1,1] [] tt
abbrev Qc:=@dX [{0,.p (.p .a .b) (.n 1),.n 500}] {0,.a,.n 500} [1,1] [] tt
abbrev Qa:=@ir [{2,.a,.b},{1,.c,.d},{0,.d,.b}] {1,.c,.a} [1,0,1,1,1] [] tt
abbrev P9:=@bY [] (.l V6 (.o (.n 4611686018427387904)) (.n 0)) [[1]] tt
abbrev P8:=@dX [{0,.p .a .b,.n 15000000}] {0,.a,.n 15000000} [1,1] [] tt
abbrev P7:=@dX [{0,.a,.n 13},{2,.b,.a}] {0,.b,.n 16777216} [1,1,1] [] tt
abbrev HJ:=@o6 [] {1,.n 0,.n 2} [1] [] tt
abbrev P6:=@bY [] (.l V3 (.u (.v 0) (.v 1)) (.v 1)) [[1,1],[0,1]] tt
abbrev P5:=@dX [{0,.a,.n 100},{2,.b,.a}] {0,.b,.n 1000} [1,1,1] [] tt
abbrev P4:=@bY [] (.k V6 (.n 0) (.n 4611686018427387904)) [[1]] tt
abbrev P1:=@e9 [{2,.a,.n 16777216}] {0,.n 3,.a} [16777216,0,3] [] tt
abbrev P0:=@dX [{0,.a,.b}] {0,.p .a (.n 1),.p .b (.n 1)} [1,1] [] tt
abbrev PZ:=@ir [{0,.p .a (.p .b .c),.d}] {0,.p .a .c,.d} [1,1] [] tt
abbrev PY:=@bY [] (.k V6 (.n 0) (.z (.p (.v 0) (.n 1)))) [[1]] tt
abbrev PX:=@e9 [{0,.p .a (.n 1),.n 500}] {0,.a,.n 1000} [1,1] [] tt
abbrev PW:=@e9 [{0,.a,.n 900}] {0,.p .a (.n 1),.n 1000} [1,1] [] tt
abbrev PV:=@fG [] {2,.p (.p .a .b) .c,.p .a (.p .b .c)} [1] [1] tt
abbrev PU:=@e9 [{0,.p .a (.n 1),.n 500}] {0,.a,.n 500} [1,1] [] tt
abbrev K6:=@e9 [] {1,.a,.p .a (.n 1)} [1] [] tt
abbrev PT:=@dX [{0,.n 1,.a},{0,.a,.b}] {0,.n 1,.b} [1,1,1] [] tt
abbrev PS:=@e9 [{0,.a,.n 1000}] {0,.a,.n 1000000} [1,1] [] tt
abbrev PR:=@dX [{0,.p .a .b,.n 12}] {0,.b,.n 100} [1,1] [] tt
abbrev PO:=@bY [] (.N (.k V6 (.z (.v 0)) (.n 0))) [[1]] tt
abbrev PN:=@fG [{0,.a,.b},{0,.c,.a}] {0,.c,.b} [1,1,1] [] tt
abbrev PM:=@e9 [{0,.a,.n 100}] {0,.a,.n 1000000} [1,1] [] tt
abbrev PL:=@dX [{1,.a,.b}] {0,.p .a (.n 1),.b} [1,1] [] tt
abbrev PK:=@e9 [{0,.a,.n 900}] {0,.a,.n 1000} [1,1] [] tt
abbrev PJ:=@e9 [{0,.a,.n 100}] {0,.a,.n 500} [1,1] [] tt
abbrev PG:=@e9 [{0,.a,.n 3}] {0,.a,.n 1000} [1,1] [] tt
abbrev PF:=@e9 [{1,.a,.n 0}] {5,.n 0,.n 0} [1,1] [] tt
abbrev PE:=@e9 [{0,.a,.n 2}] {0,.a,.n 10} [1,1] [] tt
abbrev PD:=@e9 [{0,.a,.n 3}] {0,.a,.n 3} [1,1] [] tt
set_option genInjectivity true in
set_option genCtorIdx true in
inductive V where
 |V8|WW (b:VS)|Vl (i:Vo)|str (s:Vm)|VG (a:V9)|Vj (xs:V2 V)|lit (v:VE)|Xb (lo hi:Vo)
set_option genCtorIdx true in
inductive It where
 |VF (a i:V9)|Vj (xs:V2 V) (i:V9)|Y8 (a b t:V9)|enum (a i:V9)|pair|dead|view (d:V9)
set_option genInjectivity true in
set_option genCtorIdx true in
inductive O where
 |VF (xs:V2 V)|WD (es:V2 (V×V))|ns (fs:V2 (Vm×V))|YH (C:Vc) (d:V9)|it (k:It)|Wb (xs:V2 V)
nonrec abbrev WC:=V2 O
nonrec abbrev iP (VL:VW VE) (n:V9):Obj:={Z9:=.W5 "tuple",Xu:=.seq VL n}
nonrec abbrev kr (VL:VW VE) (n:V9):Obj:={Z9:=.W5 "list",Xu:=.seq VL n}
nonrec abbrev Ao (es:VW XF) (n:V9):Obj:={Z9:=.W5 "dict",Xu:=.WD es n}
end
mutual
noncomputable def Rep (ι:List Addr) (h:Heap):V->Value->Prop
 | .none,v=>v=.none
 | .bool b,v=>v=.bool b
 | .int i,v=>∃t,v=.int i t
 | .str s,v=>∃t,v=.str s t
 | .ref a,v=>∃c,ι[a]?=some c/\v=.ref c
 | .tup xs,v=>∃c items n,v=.ref c/\c∉ι/\h.get? c=some (iP items n)/\cT ι h xs items.toList
 | .lit u,v=>v=u
 | .range lo hi,v=>∃c t u w,v=.ref c/\c∉ι/\IsRange h c lo hi 1 t u w
noncomputable def cT (ι:List Addr) (h:Heap):List V->List Value->Prop
 |[],vs=>vs=[]
 |x::xs,vs=>∃v r,vs=v::r/\Rep ι h x v/\cT ι h xs r
end
mutual open Nat
def ku {h:WH}:h.VT h.VJ.VA=V8:=by
 cases q:h.VT h.VJ.VA with
 |V8=>rfl
 |V1 o=>show Vy (bM q) (e8 _)
def wX {h:WH} {c:Vc} (l:h.VJ.VA<=c):h.VT c=V8:=by
 cases q:h.VT c with
 |V8=>rfl
 |V1 o=>show Vy (bM q) (iI.WO l)
structure WQ (F:V2 Vc) (ι:V2 Vc) (h:WH) (ι':V2 Vc) (h':WH):Prop where
 inc:∃e,ι'=ι++e/\∀c∈e,c∉ι/\h.VJ.VA<=c
 VA:h.VJ.VA<=h'.VJ.VA
 ext:∀b o,h.VT b=V1 o->b∉ι->b∉F->h'.VT b=V1 o
abbrev nK (o:Obj):VS:=Data.Wc (Y1:=λ_=>VS) o.Xu V3 (λ_=>V3) (λ_ _=>o.Z9==.W5 "tuple") (λ_ _=>V3) (λ_ _ _=>V3) (λ_ _=>V3) (λ_=>V3) (λ_=>V3) (λ_=>V3) (λ_=>o.Z9==.W5 "range") V3
abbrev i7 (U:V2 Vc) (h:WH):Prop:=∀c∈U,∀o,h.VT c=V1 o->nK o=V3
def WQ.Vt {F ι h}:WQ F ι h ι h:={{[],by show(cJ _).Vh,by simp},aM _,λ_ _ e _ _=>e}
def WQ.W9 {F G ι h ι' h'} (s:WQ F ι h ι' h') (hs:∀b∈F,b∈G):WQ G ι h ι' h':={s.inc,s.VA,λb o e n k=>s.ext b o e n λq=>k (hs b q)}
def WQ.Ya {F ι h ι' h'} (s:WQ F ι h ι' h') {b:Vc} {o:Obj} (g:h.VT b=V1 o) (n:b∉ι):b∉ι':=by
 let(e,VC,a):=s.inc;intro q;rcases aW.mp q with q|q
 .show n q
 .show Vy (bM g) (iI.WO (a b q).2)
def WQ.V7 {F ι h ι' h' ι'' h''} (s:WQ F ι h ι' h') (t:WQ F ι' h' ι'' h''):WQ F ι h ι'' h'':=by
 have Ya:=λb o=>s.Ya (b:=b) (o:=o);let(e,VC,a):=s.inc;let(d,VC,f):=t.inc;apply{(aV (e++d) (by show(aR ..)) λc g=>?_),aG s.VA t.VA,λb o i n k=>t.ext b o (s.ext b o i n k) (Ya b o i n) k};rcases aW.mp g with q|q
 .show a c q
 .show{λz=>(f c q).1 (cU _ z),aG s.VA (f c q).2}
def WQ.XV {F G ι h ι' h'} (s:WQ F ι h ι' h') (hs:∀b∈F,b∈G\/h.VT b=V8):WQ G ι h ι' h':=
 ⟨s.inc,s.VA,λb o e n k=>s.ext b o e n λq=>(hs b q).W2 k λq=>by rw[q] at e;cases e⟩
def WQ.ZN {F ι h ι' h'} (s:WQ F ι h ι' h') {a:V9} {c:Vc} (e:ι[a]?=V1 c):ι'[a]?=V1 c:=by let(x,VC,_):=s.inc;let(h,_):=aB.mp e;rw[bV h];show e
structure Carry (fE ι ι':V2 Vc) (h h':WH):Prop where
 VG:∀(a:V9) (c c':Vc),fE[a]?=V1 c'->ι[a]?=V1 c->ι'[a]?=V1 c
 imm:∀(c:Vc) (o:Obj),nK o=V6->c∉ι->h.VT c=V1 o->c∉ι'/\h'.VT c=V1 o
def WQ.carry {F ι h ι' h'} (s:WQ F ι h ι' h') (a:i7 F h):Carry ι ι ι' h h':=
 ⟨λ_ _ _ _ e=>s.ZN e,λc o i no g=>⟨s.Ya g no,s.ext c o g no λq=>aO ((a c q o g).Vh.V7 i)⟩⟩
def WV.VP {d ι f:V2 Vc} {i h h':WH} (C:Carry d ι f h h') {x:V}:∀{u v:VE},WV d i x u->WV ι h x v->WV f h' x v:=by
 apply V.rec (WP:=λx=>∀{u v:VE},WV d i x u->WV ι h x v->WV f h' x v) (Yg:=λxs=>∀{us vs:V2 VE},cT d i xs us->cT ι h xs vs->cT f h' xs vs)
  (λ_ r=>r) (λ_ _ _ _ r=>r) (λ_ _ _ _ r=>r) (λ_ _ _ _ r=>r) (λa u v q r=>?_) (λxs j u v q r=>?_) (λ_ _ _ _ r=>r) (λlo hi u v _ r=>?_) (λ_ r=>r) (λx xs m o us vs q r=>?_) x
 .let(s,q,_):=q;let(c,r,e):=r;show{c,C.VG a c s q r,e}
 .let(_,_,_,_,_,_,q):=q;let(c,VL,n,e,no,g,l):=r;have k:=C.imm c _ rfl no g;show{c,VL,n,e,k.1,k.2,j q l}
 .let(c,t,u,w,e,no,g):=r;have k:=C.imm c _ rfl no g;show{c,t,u,w,e,k.1,k.2}
 .let(_,_,_,y,z):=q;let(v,p,e,a,b):=r;show{v,p,e,m y a,o z b}
def cT.VP {c ι d:V2 Vc} {f h h':WH} (C:Carry c ι d h h') {xs:V2 V}:∀{us vs:V2 VE},cT c f xs us->cT ι h xs vs->cT d h' xs vs:=by
 induction xs with
 |VH=>show λ_ r=>r
 |V4 x xs g=>
  intro us vs q r;let(_,_,_,i,j):=q;let(v,p,e,a,b):=r;show{v,p,e,i.VP C a,g j b}
def WV.WL {F ι h ι' h'} (s:WQ F ι h ι' h') (a:i7 F h) {x:V} {v:VE} (r:WV ι h x v):WV ι' h' x v:=r.VP (s.carry a) r
def cT.WL {F ι h ι' h'} (s:WQ F ι h ι' h') (a:i7 F h) {xs:V2 V} {vs:V2 VE} (r:cT ι h xs vs):cT ι' h' xs vs:=r.VP (s.carry a) r
def cT.V0 {ι h}:∀{xs:V2 V} {vs:V2 VE},cT ι h xs vs->vs.V0=xs.V0:=by
 intro a
 induction a with
 |VH=>
  intro _ r;rw[r];rfl
 |V4 x xs c=>
  intro vs r;let(v,q,VC,_,b):=r;simp[c b]
def cT.ZN {ι h}:∀{xs:V2 V} {vs:V2 VE},cT ι h xs vs->∀{i:V9} {x:V},xs[i]?=V1 x->∃v,vs[i]?=V1 v/\WV ι h x v:=by
 intro c
 induction c with
 |VH=>
  intro _ _ _ _ e;cases e
 |V4 y xs d=>
  intro vs r i x e;let(v,q,VC,a,b):=r;cases i with
  |WM=>simp only[l0,iE] at e;subst e;show aV v (by show rfl) a
  |Wh i=>simp only[g8] at e⊢;show d b e
def cT.getR {ι h}:∀{xs:V2 V} {vs:V2 VE},cT ι h xs vs->∀{i:V9} {v:VE},vs[i]?=V1 v->∃x,xs[i]?=V1 x/\WV ι h x v:=by
 intro c
 induction c with
 |VH=>
  intro _ r _ _ e;cases r;cases e
 |V4 y xs d=>
  intro vs r i x e;let(v,q,VC,a,b):=r;cases i with
  |WM=>simp only[l0,iE] at e;subst e;show aV y (by show rfl) a
  |Wh i=>simp only[g8] at e⊢;show d b e
def cT.WX {ι h}:∀{xs ys:V2 V} {vs us:V2 VE},cT ι h xs vs->cT ι h ys us->cT ι h (xs++ys) (vs++us):=by
 intro c
 induction c with
 |VH=>
  intro _ _ _ r q;rw[r];show q
 |V4 x xs d=>
  intro ys vs us r q;let(v,w,VC,a,b):=r;show{v,w++us,VC,a,d b q}
def cT.VH {ι h}:cT ι h [] []:=rfl
def cT.V4 {ι h x v xs vs} (a:WV ι h x v) (b:cT ι h xs vs):cT ι h (x::xs) (v::vs):=by show{v,vs,VC,a,b}
def cT.Ws {ι h x v} (a:WV ι h x v):cT ι h [x] [v]:=.V4 a .VH
def cT.two {ι h x v y u} (a:WV ι h x v) (b:WV ι h y u):cT ι h [x,y] [v,u]:=.V4 a (.Ws b)
def cT.WU {ι h}:∀{xs:V2 V} {vs:V2 VE} (n:V9),cT ι h xs vs->cT ι h (xs.WU n) (vs.WU n):=λ{xs}=>by
 induction xs with
 |VH=>intro vs n r;rw[r];simp;rfl
 |V4 x xs c=>
  intro vs n r;cases n with
  |WM=>show rfl
  |Wh n=>
   let(v,w,VC,a,b):=r;show .V4 a (c n b)
def cT.XV {ι h}:∀{xs:V2 V} {vs:V2 VE} (n:V9),cT ι h xs vs->cT ι h (xs.XV n) (vs.XV n)
 |[],_,n,r=>by rw[r];simp;rfl
 |x::xs,vs,0,r=>r
 |x::xs,vs,n+1,r=>by let(v,w,VC,a,b):=r;show cT.XV n b
def cT.Wb {ι h}:∀{xs:V2 V} {vs:V2 VE} (n:V9) {x:V} {v:VE},cT ι h xs vs->WV ι h x v->cT ι h (xs.Wb n x) (vs.Wb n v):=λ{xs}=>by
 induction xs with
 |VH=>intro vs n _ _ r _;rw[r];show rfl
 |V4 x xs c=>
  intro vs n _ _ r q;let(v,w,VC,a,b):=r;cases n with
  |WM=>show .V4 q b
  |Wh n=>show .V4 a (c n b q)
def cT.Zb {ι h x vs} (r:cT ι h [x] vs):∃v,vs=[v]/\WV ι h x v:=by let(v,q,VC,a,VC):=r;show aV v rfl a
def cT.inv2 {ι h x y vs} (r:cT ι h [x,y] vs):∃v u,vs=[v,u]/\WV ι h x v/\WV ι h y u:=by let(v,q,VC,a,u,r,VC,b,VC):=r;show qs v u rfl a b
def cT.inv3 {ι h x y z vs} (r:cT ι h [x,y,z] vs):∃v u t,vs=[v,u,t]/\WV ι h x v/\WV ι h y u/\WV ι h z t:=by let(v,q,VC,a,u,r,VC,b,t,d,VC,c,VC):=r;show T4 v u t rfl a b c
end
section
mutual
/-- the hash of a key -/
noncomputable def hv (w:World):V->Int
 | .int i=>hashInt i
 | .str s=>hashStr w s
 | .tup xs=>reduceHash (Builtin.Tuple.tupleHashOf (hvL w xs))
 | .none=>0
 | .bool _=>0
 | .ref _=>0
 | .lit _=>0
 | .range _ _=>0
noncomputable def hvL (w:World):List V->List Int
 |[]=>[]
 |x::xs=>hv w x::hvL w xs
end
mutual
/-- what may be a key -/
noncomputable def f6:V->Bool
 | .int _=>true
 | .str _=>true
 | .tup xs=>eU xs
 | .none=>false
 | .bool _=>false
 | .ref _=>false
 | .lit _=>false
 | .range _ _=>false
noncomputable def eU:List V->Bool
 |[]=>true
 |x::xs=>f6 x&&eU xs
end
mutual open Nat
abbrev v7 (w:XA) (ι:V2 Vc) (h:WH):V2 (V×V)->V2 XF->Prop
 |[],l=>l=[]
 |(k,x)::r,l=>∃e a,l=e::a/\e.hash=hv w k/\WV ι h k e.Yh/\WV ι h x e.YM/\v7 w ι h r a
abbrev qZ (ι:V2 Vc) (h:WH):V2 (Vm×V)->V2 XF->Prop
 |[],l=>l=[]
 |(k,x)::r,l=>∃e a t,l=e::a/\e.Yh=.Vn k t/\WV ι h x e.YM/\qZ ι h r a
abbrev Hr (ι:V2 Vc) (h:WH):It->Vc->Prop
 | .VF a i,c=>∃l,ι[a]?=V1 l/\h.IsListIter c l i
 | .Vj xs i,c=>∃t,WV ι h (.Vj xs) (.VG t)/\XE h c t i
 | .Y8 a b t,c=>∃e f g j,ι[a]?=V1 e/\ι[b]?=V1 f/\ι[t]?=V1 g/\j∉ι/\ZQ h j (.VG e) (.VG f)/\IsZip h c j g .V8
 | .enum a i,c=>∃l k,ι[a]?=V1 l/\IsEnum h c l i k
 | .pair,c=>∃a b,ZQ h c a b
 | .dead,c=>∃o,h.VT c=V1 o
 | .view d,c=>∃m,ι[d]?=V1 m/\h.IsItemsView c m
abbrev pY (w:XA) (es:VW (Vo×VE)) (t:Vr):Prop:=t.XI.VA=es.VA/\t.fill<=t.YD/\yj t.XI=V6/\(w.X1.Xi "set-order"=V3->t.led=V6)
abbrev kD (w:XA) (ι:V2 Vc) (h:WH):O->Vc->Prop
 | .VF xs,c=>∃VL n,h.VT c=V1 (kr VL n)/\cT ι h xs VL.VD
 | .WD es,c=>∃a n,h.VT c=V1 (Ao a n)/\v7 w ι h es a.VD/\(es.VP (·.1)).WF/\∀e∈es,f6 e.1=V6
 | .ns fs,c=>∃a n,h.VT c=V1 (Ao a n)/\qZ ι h fs a.VD
 | .YH C d,c=>∃b,ι[d]?=V1 b/\h.VT c=V1 (UO C b)
 | .it k,c=>Hr ι h k c
 | .Wb xs,c=>∃es f t,h.VT c=V1 {Z9:=.W5 "set",WD:=V8,Xu:=.Wb es f t}/\cT ι h xs (es.VD.VP (·.2))/\pY w es t/\eU xs=V6
end
section
variable {fE ι ι':List Addr} {fy h h':Heap} (C:Carry fE ι ι' h h')
mutual open Nat
include C
def v7.VP {w} {xs:V2 (V×V)}:∀{us vs:V2 XF},v7 w fE fy xs us->v7 w ι h xs vs->v7 w ι' h' xs vs:=by
 induction xs with
 |VH=>show λ_ r=>r
 |V4 x xs c=>
  intro us vs q r;let(_,_,_,_,d,e,g):=q;let(f,p,i,j,a,b,r):=r;show{f,p,i,j,d.VP C a,e.VP C b,c g r}
def qZ.VP {xs:V2 (Vm×V)}:∀{us vs:V2 XF},qZ fE fy xs us->qZ ι h xs vs->qZ ι' h' xs vs:=by
 induction xs with
 |VH=>show λ_ r=>r
 |V4 x xs a=>
  intro us vs q r;let(_,_,_,_,_,c,d):=q;let(f,p,t,e,g,b,r):=r;show{f,p,t,e,g,c.VP C b,a d r}
def Hr.VP {k:It} {d c:Vc} (e:∀o,h.VT c=V1 o->h'.VT c=V1 o) (q:Hr fE fy k d) (r:Hr ι h k c):Hr ι' h' k c:=by
 cases k with
 |VF a i=>let(_,q,_):=q;let(l,i,o,f,r):=r;show{l,C.VG _ _ _ q i,o,e _ f,r}
 |Vj xs i=>let(_,q,_):=q;let(t,r,o,f,z):=r;show{t,WV.VP (x:=.Vj xs) C q r,o,e _ f,z}
 |Y8 a b t=>
  let(_,_,_,_,g,j,m,_):=q;let(n,p,s,u,v,w,y,no,A,r):=r;have k:=C.imm u _ rfl no A;show{n,p,s,u,C.VG _ _ _ g v,C.VG _ _ _ j w,C.VG _ _ _ m y,k.1,k.2,e _ r}
 |enum a i=>let(_,_,q,_):=q;let(l,B,i,r):=r;show{l,B,C.VG _ _ _ q i,e _ r}
 |pair=>let(a,b,r):=r;show{a,b,e _ r}
 |dead=>let(o,r):=r;show{o,e _ r}
 |view d=>let(_,q,_):=q;let(D,i,o,r,z):=r;show{D,C.VG _ _ _ q i,o,e _ r,z}
def kD.VP {w o} {d c:Vc} (e:∀o,h.VT c=V1 o->h'.VT c=V1 o) (q:kD w fE fy o d) (r:kD w ι h o c):kD w ι' h' o c:=by
 cases o with
 |VF xs=>let(_,_,_,q):=q;let(i,n,g,l):=r;show{i,n,e _ g,q.VP C l}
 |WD es=>let(_,_,_,q,_):=q;let(i,n,g,l,k):=r;show{i,n,e _ g,q.VP C l,k}
 |ns fs=>let(_,_,_,q):=q;let(i,n,g,l):=r;show{i,n,e _ g,q.VP C l}
 |YH a d=>let(_,q,_):=q;let(b,i,g):=r;show{b,C.VG _ _ _ q i,e _ g}
 |it k=>show Hr.VP C e q r
 |Wb xs=>let(_,_,_,_,q,_):=q;let(es,f,t,g,l,k):=r;show{es,f,t,e _ g,q.VP C l,k}
end
end
mutual open Nat
def v7.WL {w F ι h ι' h'} (s:WQ F ι h ι' h') (a:i7 F h) {xs:V2 (V×V)} {vs:V2 XF} (r:v7 w ι h xs vs):v7 w ι' h' xs vs:=r.VP (s.carry a) r
def qZ.WL {F ι h ι' h'} (s:WQ F ι h ι' h') (a:i7 F h) {xs:V2 (Vm×V)} {vs:V2 XF} (r:qZ ι h xs vs):qZ ι' h' xs vs:=r.VP (s.carry a) r
def kD.WL {w F ι h ι' h' o} {c:Vc} (s:WQ F ι h ι' h') (a:i7 F h) (e:∀o,h.VT c=V1 o->h'.VT c=V1 o) (r:kD w ι h o c):kD w ι' h' o c:=r.VP (s.carry a) e r
def kD.live {w ι h o} {c:Vc} (r:kD w ι h o c):∃ob,h.VT c=V1 ob:=by
 cases o with
 |VF xs=>let(i,n,g,_):=r;show{_,g}
 |WD es=>let(i,n,g,_):=r;show{_,g}
 |ns fs=>let(i,n,g,_):=r;show{_,g}
 |YH C d=>let(e,i,g):=r;show{_,g}
 |Wb xs=>let(es,f,t,g,_):=r;show{_,g}
 |it k=>
  cases k with
  |VF a i=>let(l,_,o,g,_):=r;show{_,g}
  |Vj xs i=>let(l,_,o,g,_):=r;show{_,g}
  |Y8 a b t=>let(j,m,p,q,_,_,_,_,_,g):=r;show{_,g}
  |enum a i=>let(l,s,_,g):=r;show{_,g}
  |pair=>let(a,b,g):=r;show{_,g}
  |dead=>show r
  |view d=>let(_,_,o,g,_):=r;show{_,g}
structure W6 (w:XA) (B:WH) (ι:V2 Vc) (M:WC) (h:WH):Prop where
 X5:∀b o,B.VT b=V1 o->h.VT b=V1 o
 Zv:∀c∈ι,B.VT c=V8
 Wz:ι.V0=M.V0
 nd:ι.WF
 lt:∀c∈ι,c<h.VJ.VA
 VJ:∀(a:V9) o,M[a]?=V1 o->∃c,ι[a]?=V1 c/\kD w ι h o c
def W6.at {w B ι M h} (G:W6 w B ι M h) {a:V9} {c:Vc} (e:ι[a]?=V1 c):∃o,M[a]?=V1 o/\kD w ι h o c:=by let(l,_):=aB.mp e;rw[G.Wz] at l;let(b,d,r):=G.VJ a M[a] (by show aI ‹_›);rw[e] at d;cases d;show aV (M[a]) (by show aI ‹_›) r
def W6.mem {w B ι M h} (G:W6 w B ι M h) {c:Vc} (e:c∈ι):∃(a:V9) (o:O),ι[a]?=V1 c/\M[a]?=V1 o/\kD w ι h o c:=by let(a,q):=eT.mp e;let(o,m,r):=G.at q;show qs a o q m r
def W6.new2 {w B ι M} {h h':WH} (G:W6 w B ι M h) (k:∀b o,h.VT b=V1 o->h'.VT b=V1 o):h'.VJ.VA∉ι:=λq=>by let(a,o,_,_,r):=G.mem q;let(ob,e):=r.live;show Vy (bM (k _ _ e)) (e8 _)
def W6.new {w B ι M h} (G:W6 w B ι M h) {c:Vc} (a:h.VJ.VA<=c):c∉ι:=λq=>e8 _ (aY (G.lt c q) a)
def W6.frame {w B ι M h h'} {F:V2 Vc} (G:W6 w B ι M h) (ks:h.VJ.VA<=h'.VJ.VA) (k:∀b o,h.VT b=V1 o->b∉F->h'.VT b=V1 o)
    (d:∀b∈F,b∉ι) (f:∀b∈F,B.VT b=V8) (g:i7 F h):WQ F ι h ι h'/\W6 w B ι M h':=by
 letI st:WQ F ι h ι h':={{[],by show(cJ _).Vh,by simp},ks,λb o e _ n=>k b o e n};apply{st,{λb o e=>k b o (G.X5 b o e) λq=>?_,G.Zv,G.Wz,G.nd,λc j=>aY (G.lt c j) ks,λa o e=>?_}}
 .rw[f b q] at e;cases e
 .let(c,i,r):=G.VJ a o e;show aV c i (r.WL st g λo q=>k c o q λz=>d c z (aF i))
def W6.YG {w B ι M h h'} (G:W6 w B ι M h) (ks:h.VJ.VA<=h'.VJ.VA) (k:∀b o,h.VT b=V1 o->h'.VT b=V1 o):WQ [] ι h ι h'/\W6 w B ι M h':=
 G.frame ks (λb o e _=>k b o e) (λ_ q=>nomatch q) (λ_ q=>nomatch q) (λ_ q=>nomatch q)
def W6.YA {w B ι M h h'} {a:V9} {c:Vc} {o':O} (G:W6 w B ι M h) (e:ι[a]?=V1 c) (ks:h.VJ.VA<=h'.VJ.VA) (k:∀b o,h.VT b=V1 o->b≠c->h'.VT b=V1 o)
    (d:WQ [] ι h ι h'->kD w ι h' o' c):WQ [] ι h ι h'/\W6 w B ι (M.Wb a o') h':=by
 have f:c∈ι:=aF e;letI st:WQ [] ι h ι h':={{[],by show(cJ _).Vh,by simp},ks,λb o g n _=>k b o g (λq=>n (q▸f))};apply{st,{λb o g=>k b o (G.X5 b o g) λq=>?_,G.Zv,by simp[G.Wz],G.nd,λc f=>aY (G.lt c f) ks,λj o g=>?_}}
 .rw[q,G.Zv c f] at g;cases g
 .rw[qJ] at g;clear f;split at g
  .rename_i q;subst q
   split at g
   .cases g;show aV c e (d st)
   .cases g
  .rename_i q
   clear d o';let(l,i,r):=G.VJ j o g;apply aV l i (r.WL st (λ_ q=>nomatch q) λo z=>k l o z λy=>q ?_);clear k;subst y;show(yp (aB.mp e).1 G.nd).mp (e.V7 i.Vh)
def W6.Wb {w B ι M h h'} {a:V9} {c:Vc} {o':O} (G:W6 w B ι M h) (e:ι[a]?=V1 c) (hs:WH.Xm c h h') (d:WQ [] ι h ι h'->kD w ι h' o' c):WQ [] ι h ι h'/\W6 w B ι (M.Wb a o') h':=
 G.YA e (bX hs.1.Vh) (λb o g n=>(hs.2 b n).V7 g) d
def W6.Vp {w B ι M h h'} {c:Vc} {o':O} (G:W6 w B ι M h) (d:h.VJ.VA<=c) (e:c<h'.VJ.VA) (k:∀b o,h.VT b=V1 o->h'.VT b=V1 o)
    (f:WQ [] ι h (ι++[c]) h'->kD w (ι++[c]) h' o' c):WQ [] ι h (ι++[c]) h'/\W6 w B (ι++[c]) (M++[o']) h':=by
 have nc:c∉ι:=G.new d;have ks:h.VJ.VA<=h'.VJ.VA:=bZ (dW d e);letI st:WQ [] ι h (ι++[c]) h':={(aV [c] rfl λb q=>by rw[aC.mp q];show{nc,d}),ks,λb o g _ _=>k b o g};have f:=f st;apply{st,{λb o g=>k b o (G.X5 b o g),λb q=>?_,by simp[G.Wz],?_,λb q=>?_,λa o g=>?_}}
 .clear f st nc e;clear f o';rcases aW.mp q with q|q
  .show G.Zv b q
  .obtain rfl:=aC.mp q;cases z:B.VT b with
   |V8=>rfl
   |V1 o=>have:=G.X5 b o z;rw[wX d] at this;cases this
 .show fL.WO (fq G.nd (by show W1 rfl) λx j y l z=>nc (by rw[<-aC.mp l,<-z];show j))
 .rcases aW.mp q with q|q
  .show aY (G.lt b q) ks
  .rw[aC.mp q];show e
 .rw[fS] at g;split at g
  .let(n,i,r):=G.VJ a o g;show aV n (st.ZN i) (r.WL st (λ_ q=>nomatch q) λo q=>k _ _ q)
  .rename_i q
   have:a-M.V0=0:=by
    cases z:a-M.V0 with
    |WM=>rfl
    |Wh m=>rw[z] at g;cases g
   rw[this] at g;simp only[l0,iE] at g;subst g;apply aV c ?_ f;have z:a=ι.V0:=by rw[G.Wz];show Ox [_,_] [] q this
   rw[z];show eK
def kK {h:WH} {o:Obj}:h.VJ.VA<(h.Vp o).VJ.VA:=by rw[dH];show cC _
def W6.push1 {w B ι M h} {ob:Obj} {o':O} (G:W6 w B ι M h) (a:WQ [] ι h (ι++[h.VJ.VA]) (h.Vp ob)->kD w (ι++[h.VJ.VA]) (h.Vp ob) o' h.VJ.VA):
    WQ [] ι h (ι++[h.VJ.VA]) (h.Vp ob)/\W6 w B (ι++[h.VJ.VA]) (M++[o']) (h.Vp ob):=
 G.Vp (aM _) kK (λ_ _ e=>aJ _ e) a
structure YT (s s':VI):Prop where
 Xq:s'.Xq=s.Xq
 os:s'.os=s.os
def YT.Vt {s}:YT s s:={VC,VC}
def YT.V7 {s s' s''} (a:YT s s') (b:YT s' s''):YT s s'':={b.Xq.V7 a.Xq,b.os.V7 a.os}
def YT.of {s:VI} {h':WH} {a:V9}:YT s {s with V5:=h',WJ:=a}:={VC,VC}
end
end
mutual open Nat
structure Cx where
 VM:Wj
 w:XA
 K:Zq
 mg:Vm->VK VE
 mb:Vm->VK VE
 B:WH
 inK:K.In B
 g:B.Ns lB mg
 b:B.Ns AN mb
 nolimit:B.NoLimit
 nodigits:∃mc,B.Ns cStatics mc/\mc "sys.int_max_str_digits"=V8
 blt:∀x:Vm,x≠"__name__"->mb x=CB x
 nosys:B.VT rt≠V8
nonrec abbrev Cx.M (c:Cx):Model:=Vg c.VM c.w
nonrec abbrev Cx.W6 (c:Cx) (ι:V2 Vc) (M:WC) (h:WH):Prop:=Lake.W6 c.w c.B ι M h
def Cx.K_in {c:Cx} {ι M h} (G:c.W6 ι M h):c.K.In h:=c.inK.YG G.X5
structure Xl (A:W8) (n:V9):Prop where
 hd:A.YO=V8
 dep:A.depth+n<1000
 uni:A.Xz+16*n+100<9900
def Xl.le {A n m} (r:Xl A n) (h:m<=n):Xl A m:={r.hd,by have:=r.dep;show fG [{0,.a,.b},{1,.p .c .b,.n 1000}] {1,.p .c .a,.n 1000} [1,1,1] [] tt h this,by have:=r.uni;show fG [{0,.a,.b},{1,.p (.p .c (.m 16 .b)) (.n 100),.n 9900}] {1,.p (.p .c (.m 16 .a)) (.n 100),.n 9900} [1,16,1] [] tt h this}
def Xl.Z8 {A n} (r:Xl A (n+1)):Xl A.Z8 n:={r.hd,by have:=r.dep;simp only[W8.in1_depth];show dX [{1,.p .a (.p .b (.n 1)),.n 1000}] {1,.p .a .b,.n 1000} [1,1] [] tt this,by have:=r.uni;simp only[W8.in1_units];show TA this}
def Xl.deeper {A n Vb} (r:Xl A (n+1)):Xl (A.deeper Vb) n:={r.hd,by have:=r.dep;change A.depth+1+n<1000;show QJ this,by have:=r.uni;change A.Xz+3+16*n+100<9900;show dX [{1,.p (.p .a (.m 16 (.p .b (.n 1)))) (.n 100),.n 9900}] {1,.p (.p (.p .a (.n 3)) (.m 16 .b)) (.n 100),.n 9900} [1,1] [] tt this}
def Xl.cl {A n} (r:Xl A n):A.Xz<cLine:=by have:=r.uni;change A.Xz<9900;show dX [{1,.p (.p .a (.m 16 .b)) (.n 100),.n 9900}] {1,.a,.n 9900} [1,1] [] tt this
def Xl.lim {A n} (r:Xl A n):A.depth<recursionLimit:=by have:=r.dep;change A.depth<1000;show dX [{1,.p .a .b,.n 1000}] {1,.a,.n 1000} [1,1] [] tt this
def Xl.mark {A n} (r:Xl A n):A.mark V8=A:=by let(h,d,f,g,u):=A;rfl
abbrev GoD {b:Type} (c:Cx) (A:W8) (t:ZD b) (ι:V2 Vc) (s:VI) (F:V2 Vc) (R:V2 Vc->VI->b->Prop) (M':WC):Prop:=
 ∀(Q:b->VI->Prop) (E:VE->VI->Prop),(∀d s' a,WQ F ι s.V5 d s'.V5->c.W6 d M' s'.V5->YT s s'->R d s' a->Q a s')->VO c.M A t Q E s
abbrev Go {b:Type} (c:Cx) (A:W8) (t:ZD b) (ι:V2 Vc) (s:VI) (F:V2 Vc) (R:V2 Vc->VI->b->WC->Prop):Prop:=
 ∀(Q:b->VI->Prop) (E:VE->VI->Prop),(∀d s' a M',WQ F ι s.V5 d s'.V5->c.W6 d M' s'.V5->YT s s'->R d s' a M'->Q a s')->VO c.M A t Q E s
nonrec abbrev RV (v:V):V2 Vc->VI->VE->Prop:=λι s rv=>WV ι s.V5 v rv
nonrec abbrev RB (b:VS):V2 Vc->VI->VS->Prop:=λ_ _ r=>r=b
nonrec abbrev RU:V2 Vc->VI->Yn->Prop:=λ_ _ _=>True
nonrec abbrev dQ:=V->WC->Prop
nonrec abbrev RP (P:dQ):V2 Vc->VI->VE->WC->Prop:=λι s rv M=>∃v,WV ι s.V5 v rv/\P v M
def GoD.go {α c A ι s F R M'} {t:ZD α} {b:V2 Vc->VI->α->WC->Prop} (h:GoD c A t ι s F R M') (k:∀d s' a,R d s' a->b d s' a M'):Go c A t ι s F b:=
 λQ E q=>h Q E λd s' a st G e r=>q d s' a M' st G e (k d s' a r)
def GoD.YM {c A ι s F v M'} {t:ZD VE} {P:dQ} (h:GoD c A t ι s F (RV v) M') (k:P v M'):Go c A t ι s F (RP P):=h.go λ_ _ _ r=>aV v r k
def Go.W9 {α c A ι s F R R'} {t:ZD α} (h:Go c A t ι s F R) (k:∀b s' a M',R b s' a M'->R' b s' a M'):Go c A t ι s F R':=
 λQ E q=>h Q E λb s' a M' st G d r=>q b s' a M' st G d (k b s' a M' r)
abbrev aQ (c:Cx) (n:V9) (a:VE) (vs:V2 V) (M:WC) (P:dQ):Prop:=
 ∀(A:W8) ι s rvs,Xl A n->c.W6 ι M s.V5->cT ι s.V5 vs rvs->Go c A (Vu a rvs) ι s [] (RP P)
abbrev Yj (c:Cx) (n:V9) (f:VE->VE->ZD VE) (a b:V) (M:WC) (P:dQ):Prop:=
 ∀(A:W8) ι s ra rb,Xl A n->c.W6 ι M s.V5->WV ι s.V5 a ra->WV ι s.V5 b rb->Go c A (f ra rb) ι s [] (RP P)
abbrev uJ (c:Cx) (n:V9) (f:VE->VE->VE->ZD Yn) (a b d:V) (M:WC) (P:WC->Prop):Prop:=
 ∀(A:W8) ι s ra rb rd,Xl A n->c.W6 ι M s.V5->WV ι s.V5 a ra->WV ι s.V5 b rb->WV ι s.V5 d rd->Go c A (f ra rb rd) ι s [] (λ_ _ _ M'=>P M')
abbrev pO (c:Cx) (n:V9) (a:V) (M:WC) (b:VS):Prop:=
 ∀(A:W8) ι s ra,Xl A n->c.W6 ι M s.V5->WV ι s.V5 a ra->GoD c A (UJ ra) ι s [] (RB b) M
def aQ.W9 {c n f vs M} {P P':dQ} (h:aQ c n f vs M P) (k:∀v M',P v M'->P' v M'):aQ c n f vs M P':=
 λA ι s d e G r=>(h A ι s d e G r).W9 λ_ _ _ M' g=>by let(v,a,b):=g;show aV v a (k v M' b)
def aQ.le {c n m f vs M} {P:dQ} (h:aQ c n f vs M P) (l:n<=m):aQ c m f vs M P:=λA ι s a b=>h A ι s a (b.le l)
abbrev dK (Vb:Env):V2 Vc:=Vb.Yv::Vb.X0.VP (·.2)
nonrec abbrev Rho:=V2 (Vm×V)
structure Yu (c:Cx) (ι:V2 Vc) (h:WH) (Vb:Env) (ρ:Rho):Prop where
 Y2:Vb.VU.Y2=.ZE
 Xo:Vb.globals=lB
 blt:Vb.builtins=AN
 ns:∃m,h.Ns Vb.Yv m/\∀x v,ρ.VY x=V1 v->Vb.XL x=V1 .Zk->∃rv,m x=V1 rv/\WV ι h v rv
 Yx:∀x v,ρ.VY x=V1 v->Vb.XL x≠V1 .Zk->Vb.XL x=V1 .Yx/\∃a rv,Vb.X0.VY x=V1 a/\h.IsCell a (V1 rv)/\WV ι h v rv
 Zv:∀b∈dK Vb,b∉ι/\c.B.VT b=V8
 X0:∀p∈Vb.X0,∃v,h.IsCell p.2 v
 apart:(dK Vb).WF
 Wp:∀x,Vb.XL x=V1 .Yx->∃a,Vb.X0.VY x=V1 a
def vK {h:WH} {a v} (x:h.IsCell a v):∀o,h.VT a=V1 o->nK o=V3:=by let(o,e,d):=x;intro o' q;rw[e] at q;cases q;unfold nK;rw[d]
def EF {h:WH} {a m} (x:h.Ns a m):∀o,h.VT a=V1 o->nK o=V3:=by let(o,es,b,e,d,_):=x;intro o' q;rw[e] at q;cases q;unfold nK;rw[d]
def Yu.Zw {c ι h Vb ρ} (L:Yu c ι h Vb ρ):i7 (dK Vb) h:=by
 intro b a;rcases aU.mp a with rfl|a
 .let(m,n,_):=L.ns;show EF n
 .let(p,d,VC):=aK.mp a;let(v,q):=L.X0 p d;show vK q
def Yu.live {c ι h Vb ρ} (L:Yu c ι h Vb ρ) {b} (a:b∈dK Vb):∃o,h.VT b=V1 o:=by
 rcases aU.mp a with rfl|a
 .let(m,(o,es,ep,e,_),_):=L.ns;show{o,e}
 .let(p,d,VC):=aK.mp a;let(v,o,e,_):=L.X0 p d;show{o,e}
def Yu.WL {c ι h Vb ρ ι' h' F} (L:Yu c ι h Vb ρ) (s:WQ F ι h ι' h') (f:∀b∈F,b∉dK Vb) (g:i7 F h):Yu c ι' h' Vb ρ:=by
 letI i:∀b∈dK Vb,∀o,h.VT b=V1 o->h'.VT b=V1 o:=λb j o e=>s.ext b o e (L.Zv b j).1 λq=>f b q j;apply{L.Y2,L.Xo,L.blt,?_,λx v e k=>?_,λb j=>{?_,(L.Zv b j).2},λp l=>?_,L.apart,L.Wp}
 .let(m,(o,es,ep,e,r),hm):=L.ns;apply aV m {o,es,ep,i _ (cP ..) _ e,r} λx v q k=>?_;let(rv,a,b):=hm x v q k;show aV rv a (b.WL s g)
 .let(k,a,rv,q,(o,e,d),b):=L.Yx x v e k;have ha:a∈dK Vb:=bN _ (aK.WO (aV (x,a) (Wq q) rfl));show{k,a,rv,q,{o,i a ha _ e,d},b.WL s g}
 .let(o,z):=L.live j;show s.Ya z (L.Zv b j).1
 .let(v,o,e,d):=L.X0 p l;show{v,o,i p.2 (bN _ (aK.WO (aV p l rfl))) _ e,d}
where
 Wq {x:Vm} {a:Vc}:∀{l:V2 (Vm×Vc)},l.VY x=V1 a->(x,a)∈l
  |[],e=>by simp at e
  |(y,b)::r,e=>by
   rw[bH] at e;split at e
   .rename_i q;cases e;rw[VV.mp q];show .WI _
   .show .XW _ (Wq e)
def Yu.XU {c ι h Vb ρ ι' h'} (L:Yu c ι h Vb ρ) (s:WQ [] ι h ι' h'):Yu c ι' h' Vb ρ:=L.WL s (λ_ q=>nomatch q) (λ_ q=>nomatch q)
def WV.up {ι h ι' h' x v} (r:WV ι h x v) (s:WQ [] ι h ι' h'):WV ι' h' x v:=r.WL s (λ_ q=>nomatch q)
def cT.up {ι h ι' h' x v} (r:cT ι h x v) (s:WQ [] ι h ι' h'):cT ι' h' x v:=r.WL s (λ_ q=>nomatch q)
def Yu.weak {c ι h Vb ρ ρ'} (L:Yu c ι h Vb ρ) (k:∀x v,ρ'.VY x=V1 v->ρ.VY x=V1 v):Yu c ι h Vb ρ':=
 ⟨L.Y2,L.Xo,L.blt,by let(m,a,b):=L.ns;show aV m a λx v e=>b x v (k x v e),λx v e=>L.Yx x v (k x v e),L.Zv,L.X0,L.apart,L.Wp⟩
abbrev dZ (c:Cx) (n:V9) (sc:X6) (e:Vi) (ρ:Rho) (M:WC) (P:dQ):Prop:=
 ∀(A:W8) (Vb:Env) ι s,Xl A n->Vb.VU=sc->Yu c ι s.V5 Vb ρ->c.W6 ι M s.V5->Go c A (eval e Vb) ι s [] (RP P)
abbrev kZ (c:Cx) (n:V9) (sc:X6) (e:Vi) (ρ:Rho) (M:WC) (P:VS->WC->Prop):Prop:=
 ∀(A:W8) (Vb:Env) ι s,Xl A n->Vb.VU=sc->Yu c ι s.V5 Vb ρ->c.W6 ι M s.V5->Go c A (Im e Vb (eval e Vb)) ι s [] (λ_ _ b M'=>P b M')
abbrev ig (e:Vi):VS:= !g9 e.VZ 22
abbrev lX (c:Cx) (n:V9) (sc:X6) (es:V2 Vi) (ρ:Rho) (M:WC) (P:V2 V->WC->Prop):Prop:=
 ∀(A:W8) (Vb:Env) ι s WS,Xl A n->Vb.VU=sc->Yu c ι s.V5 Vb ρ->c.W6 ι M s.V5->
  Go c A (spliced (ND WS (tV es Vb))) ι s [] (λa s' b M'=>∃vs,cT a s'.V5 vs b/\P vs M')
variable {c:Cx} {n:V9} {sc:X6} {ρ:Rho} {M aT bQ cI:WC} {P P':dQ}
def dZ.W9 {e:Vi} (h:dZ c n sc e ρ M P) (k:∀v M',P v M'->P' v M'):dZ c n sc e ρ M P':=λA Vb ι s d hs L G=>(h A Vb ι s d hs L G).W9 λ_ _ _ M' f=>by let(v,a,b):=f;show aV v a (k v M' b)
def dZ.Vl {i:Vo} {k WS} (p:P (.Vl i) M):dZ c n sc (.YJ (.Vl i) k WS) ρ M P:=λA Vb ι s a hs L G Q E q=>by
 focus change VO _ _ (mkInt i) _ _ _
 apply r4 (q ι _ _ M .Vt G {VC,VC} (aV _ ?_ p));show{_,VC}
def dZ.Vn {i:Vm} {k WS} (p:P (.Vn i) M):dZ c n sc (.YJ (.Vn i) k WS) ρ M P:=λA Vb ι s a hs L G Q E q=>by
 focus change VO _ _ (SG i) _ _ _
 apply qF (q ι _ _ M .Vt G {VC,VC} (aV _ ?_ p));show{_,VC}
def dZ.V8 {k WS} (p:P .V8 M):dZ c n sc (.YJ .V8 k WS) ρ M P:=λA Vb ι s a hs L G Q E q=>by change VO _ _ (X3 gb) _ _ _;apply aD (q ι _ _ M .Vt G .Vt (aV _ ?_ p));show rfl
def dZ.WW {b k WS} (p:P (.WW b) M):dZ c n sc (.YJ (.WW b) k WS) ρ M P:=λA Vb ι s a hs L G Q E q=>by change VO _ _ (X3 (VE.WW b)) _ _ _;apply aD (q ι _ _ M .Vt G .Vt (aV _ ?_ p));show rfl
def dZ.name {x:Vm} {WS v} (h:ρ.VY x=V1 v) (p:P v M) (b:(x==("__debug__":Vm))=V3:=by kernel_rfl):dZ c n sc (.Name x WS) ρ M P:=λA Vb ι s d hs L G Q E q=>by
 by_cases k:Vb.XL x=V1 .Zk
 .let(m,f,g):=L.ns;let(rv,e,r):=g x v h k;show wpAny_Name (wpAny_loadName_local L.Y2 k f e (q ι s _ M .Vt G .Vt (aV v r p))) b
 .let(k',a,rv,e,i,r):=L.Yx x v h k;show wpAny_Name (wpAny_loadName_cell L.Y2 k' e i (q ι s _ M .Vt G .Vt (aV v r p))) b
def dZ.Xo {x:Vm} {WS v rv} (a:sc.Vv.VY x=V1 .globalImplicit) (b:nsIn c.K lB x=V1 (V1 rv)) (d:∀ι M h,c.W6 ι M h->WV ι h v rv) (p:P v M)
    (f:(x==("__debug__":Vm))=V3:=by kernel_rfl):dZ c n sc (.Name x WS) ρ M P:=λA Vb ι s i hs L G Q E q=>by have e:c.mg x=V1 rv:=mg_of c.inK c.g b;apply Name_function_global L.Y2 (by rw[<-hs] at a;show a) (loadGlobal_global (by rw[L.Xo];show c.g.YG G.X5) e (q ι s _ M .Vt G .Vt (aV v (d ι M _ G) p))) f
def dZ.blt {x:Vm} {WS rv} (a:sc.Vv.VY x=V1 .globalImplicit) (d:nsIn c.K lB x=V1 cQ) (f:CB x=V1 rv) (p:P (.lit rv) M) (h:(x==("__name__":Vm))=V3:=by kernel_rfl)
    (i:(x==("__debug__":Vm))=V3:=by kernel_rfl):dZ c n sc (.Name x WS) ρ M P:=λA Vb ι s j hs L G Q E q=>by
 have e:c.mg x=cQ:=mg_none_of c.inK c.g d;apply Name_function_global L.Y2 (by rw[<-hs] at a;show a) (loadGlobal_builtin (by rw[L.Xo];show c.g.YG G.X5) e (by rw[L.blt];show c.b.YG G.X5) ((c.blt x λz=>?_).V7 f) (q ι s _ M .Vt G .Vt (aV _ ?_ p))) i
 .rw[z] at h;simp at h
 .show rfl
variable {B:VS->WC->Prop}
def dZ.Yq {l r:Vi} {op:Operator} {WS} (h:dZ c n sc l ρ M λa aT=>dZ c n sc r ρ aT λb bQ=>Yj c n (mF op) a b bQ P):dZ c n sc (.BinOp l op r WS) ρ M P:=
 λA Vb ι s d hs L G Q E q=>
  wpAny_BinOp (h A Vb ι s d hs L G _ _ λe f g aT st i j k=>Xs k λa m o=>o A Vb e f d hs (L.XU st) i _ _ λp t u bQ v w x k=>Xs k λb y z=>
   z A p t g u d w (m.up v) y _ _ λC D rv cI F H I J=>q C D rv cI ((st.V7 v).V7 F) H ((j.V7 x).V7 I) J)
def dZ.Ye {l r:Vi} {op:CmpOp} {WS} (h:dZ c n sc l ρ M λa aT=>dZ c n sc r ρ aT λb bQ=>Yj c n (eS op) a b bQ P)
    (d:Aw op r=V3:=by kernel_rfl):dZ c n sc (.Compare l [op] [r] WS) ρ M P:=
 λA Vb ι s e hs L G Q E q=>
  wpAny_Compare1 (h A Vb ι s e hs L G _ _ λf g i aT st j k m=>Xs m λa o p=>p A Vb f g e hs (L.XU st) j _ _ λt u v bQ w x y m=>Xs m λb z C=>
   C A t u i v e x (o.up w) z _ _ λD F rv cI H I J K=>q D F rv cI ((st.V7 w).V7 H) I ((k.V7 y).V7 J) K) d
def pO.WW {b}:pO c n (.WW b) M b:=λA ι s a d G r Q E q=>by rw[r];show nH (q ι s b .Vt G .Vt rfl)
def kZ.plain {e:Vi} (h:dZ c n sc e ρ M λv aT=>∃b,pO c n v aT b/\B b aT) (a:∀Vb d,Im e Vb d=(do let v <-d;uT e.WS;GS [v] (UJ v)):=by intro _ _;rfl):kZ c n sc e ρ M B:=
 λA Vb ι s f hs L G Q E q=>isTrue_plain (h A Vb ι s f hs L G _ _ λg i j aT st k l m=>Xs m λv o m=>Xs m λb t p=>t A g i j f k o _ _ λr u w x y z C=>by
  clear t;cases C;show q r u _ aT (st.V7 x) y (l.V7 z) p) (a Vb _)
def kZ.YM {e:Vi} (h:dZ c n sc e ρ M λv aT=>∃b,v=.WW b/\B b aT) (a:∀Vb d,Im e Vb d=(do let v <-d;uT e.WS;GS [v] (UJ v)):=by intro _ _;rfl):kZ c n sc e ρ M B:=
 .plain (h.W9 λv M' f=>by let(b,e,p):=f;show aV b ((rwt pO.WW e)) p) a
def kZ.Ye {l r:Vi} {op:CmpOp} {WS} (h:dZ c n sc l ρ M λa aT=>dZ c n sc r ρ aT λb bQ=>Yj c n (eS op) a b bQ λv cI=>∃t,v=.WW t/\B t cI)
    (d:Aw op r=V3:=by kernel_rfl):kZ c n sc (.Compare l [op] [r] WS) ρ M B:=
 λA Vb ι s f hs L G Q E q=>
  wpAny_isTrue_Compare1 (h A Vb ι s f hs L G _ _ λg i j aT st k m o=>Xs o λa u w=>w A Vb g i f hs (L.XU st) k _ _ λx y z bQ C D F o=>Xs o λb H I=>
   I A x y j z f D (u.up C) H _ _ λJ K rv cI N R S o=>by
    let(v,T,t,e,p):=o;subst e;cases T;show nH (q J K t cI ((st.V7 C).V7 N) R ((m.V7 F).V7 S) p)) d
def kZ.not {x:Vi} {WS} (h:kZ c n sc x ρ M λb aT=>B (!b) aT):kZ c n sc (.UnaryOp .Not x WS) ρ M B:=
 λA Vb ι s a hs L G Q E q=>isTrue_not (h A Vb ι s a hs L G _ _ λd f r aT st g i e=>q d f _ aT st g i e)
def qq {op vs WS Vb U4 w₂}:Im (.YX op vs WS) Vb U4=Im (.YX op vs WS) Vb w₂:=rfl
def kZ.andNil {WS} (p:B V6 M):kZ c n sc (.YX .And [] WS) ρ M B:=λA Vb ι s a hs L G Q E q=>isTrue_and_nil (q ι s V6 M .Vt G .Vt p)
def kZ.orNil {WS} (p:B V3 M):kZ c n sc (.YX .Or [] WS) ρ M B:=λA Vb ι s a hs L G Q E q=>isTrue_or_nil (q ι s V3 M .Vt G .Vt p)
def kZ.and {x:Vi} {rest WS} (h:kZ c n sc x ρ M λb aT=>if b then kZ c n sc (.YX .And rest WS) ρ aT B else B V3 aT):kZ c n sc (.YX .And (x::rest) WS) ρ M B:=
 λA Vb ι s a hs L G Q E q=>isTrue_and (h A Vb ι s a hs L G _ _ λd f r aT st g i k=>by
  cases r with
  |V3=>show q d f _ aT st g i k
  |V6=>
   focus rw[qq (w₂:=eval (.YX .And rest WS) Vb)]
   show k A Vb d f a hs (L.XU st) g Q E λj l m bQ o p t e=>q j l m bQ (st.V7 o) p (i.V7 t) e)
def kZ.or {x:Vi} {rest WS} (h:kZ c n sc x ρ M λb aT=>if b then B V6 aT else kZ c n sc (.YX .Or rest WS) ρ aT B):kZ c n sc (.YX .Or (x::rest) WS) ρ M B:=
 λA Vb ι s a hs L G Q E q=>isTrue_or (h A Vb ι s a hs L G _ _ λd f r aT st g i k=>by
  cases r with
  |V6=>show q d f _ aT st g i k
  |V3=>
   focus rw[qq (w₂:=eval (.YX .Or rest WS) Vb)]
   show k A Vb d f a hs (L.XU st) g Q E λj l m bQ o p t e=>q j l m bQ (st.V7 o) p (i.V7 t) e)
def dZ.if {t b o:Vi} {WS} (h:kZ c n sc t ρ M λr aT=>if r then dZ c n sc b ρ aT P else dZ c n sc o ρ aT P):dZ c n sc (.IfExp t b o WS) ρ M P:=
 λA Vb ι s a hs L G Q E q=>wpAny_IfExp (h A Vb ι s a hs L G _ _ λd f r aT st g i k=>by
  cases r with
  |V6=>show k A Vb d f a hs (L.XU st) g Q E λj l m bQ p u v e=>q j l m bQ (st.V7 p) u (i.V7 v) e
  |V3=>show k A Vb d f a hs (L.XU st) g Q E λj l m bQ p u v e=>q j l m bQ (st.V7 p) u (i.V7 v) e)
def pS {e:Vi} {es:V2 Vi} {Vb:Env} (h:ig e=V6):tV (e::es) Vb=(V3,eval e Vb)::tV es Vb:=by cases e<;>first|rfl|cases h
def LO {Vb:Env} {WS:Pos}:∀{es:V2 Vi},es.Z4 ig=V6->(ND WS (tV es Vb)).any (·.1)=V3:=by
 intro a
 induction a with
 |VH=>
  intro _;show rfl
 |V4 e es b=>
  intro h;simp only[jE,aN] at h;rw[pS h.1]
  focus change(V3||(ND WS (tV es Vb)).any (·.1))=V3
  rw[VS.false_or];show b h.2
def lX.VH {R:V2 V->WC->Prop} (p:R [] M):lX c n sc [] ρ M R:=λA Vb ι s WS a hs L G Q E q=>spliced_none (q ι s [] M .Vt G .Vt (aV [] .VH p))
def lX.V4 {e:Vi} {es:V2 Vi} {R:V2 V->WC->Prop} (h:dZ c n sc e ρ M λv aT=>lX c n sc es ρ aT λvs bQ=>R (v::vs) bQ) (a:ig e=V6:=by rfl):lX c n sc (e::es) ρ M R:=
 λA Vb ι s WS b hs L G Q E q=>
  spliced_more (h A Vb ι s b hs L G _ _ λd f g aT st i j l=>Xs l λv m k=>k A Vb d f WS b hs (L.XU st) i _ _ λo r t bQ u w x l=>Xs l λvs y p=>
   q o r _ bQ (st.V7 u) w (j.V7 x) (aV (v::vs) (.V4 (m.up u) y) p)) (pS a)
def O5 {A ι s rvs} {xs:V2 V} (G:c.W6 ι M s.V5) (r:cT ι s.V5 xs rvs) (hz:xs.V0<=cE):GoD c A (newTuple rvs) ι s [] (RV (.Vj xs)) M:=λQ E q=>by have k:∀b o,s.V5.VT b=V1 o->(s.V5.Vp (iP rvs.WE 0)).VT b=V1 o:=λb o e=>aJ _ e;let(st,a):=G.YG (bZ kK) k;apply e7 (q ι _ _ st a {VC,VC} ?_) (by change rvs.WE.VA<=cE;rw[qH,r.V0];show hz);show{_,rvs.WE,0,VC,G.new (aM _),aP _ rfl,r.up st}
def fX {ι:V2 Vc} {M:WC} {a:Vc} (e:ι.V0=M.V0):(ι++[a])[M.V0]?=V1 a:=by rw[<-e];show eK
def Sm {A ι s rvs} {xs:V2 V} (G:c.W6 ι M s.V5) (r:cT ι s.V5 xs rvs) (hz:xs.V0<=cE):GoD c A (TR rvs) ι s [] (RV (.VG M.V0)) (M++[.VF xs]):=λQ E q=>by let(st,a):=G.push1 (ob:=kr rvs.WE 0) (o':=.VF xs) λst=>{rvs.WE,0,aP _ rfl,r.up st};apply e7 (q _ _ _ st a {VC,VC} ?_) (by change rvs.WE.VA<=cE;rw[qH,r.V0];show hz);show{_,fX G.Wz,VC}
def dZ.tuple {es:V2 Vi} {k WS} (h:lX c n sc es ρ M λvs aT=>vs.V0<=cE/\P (.Vj vs) aT):dZ c n sc (.Yl es k WS) ρ M P:=
 λA Vb ι s a hs L G Q E q=>Tuple_ (h A Vb ι s WS a hs L G _ _ λb d e aT st f g i=>by let(vs,r,hz,p):=i;show O5 f r hz _ _ λj l rv m o t u=>q j l rv aT (st.V7 m) o (g.V7 t) (aV _ u p))
def dZ.VF {es:V2 Vi} {WS} (h:lX c n sc es ρ M λvs aT=>vs.V0<=cE/\P (.VG aT.V0) (aT++[.VF vs])):dZ c n sc (.V2 es WS) ρ M P:=
 λA Vb ι s a hs L G Q E q=>List_ (h A Vb ι s WS a hs L G _ _ λb d e aT st f g i=>by let(vs,r,hz,p):=i;show Sm f r hz _ _ λj k rv l m o t=>q j k rv _ (st.V7 l) m (g.V7 o) (aV _ t p))
abbrev qv (b:Zq) (f:VE):VS:=VE.Wc (Y1:=λ_=>VS) f V3 V3 V3 (λ_=>V3) (λ_ _=>V3) (λ_ _=>V3) (λ_ _=>V3) (λ_ _=>V3) (λ_=>V6) (λ_=>V6) λa=>keepIn b (.VG a)
def DA {b:Zq} {f:VE} {M:Model} {h:WH} (e:qv b f=V6) (d:b.In h):∃k,(k=Keeper.frame\/k=Keeper.machine\/k=Keeper.boundFrame)/\Looks M h (keeperOf f) k:=by
 cases f with
 |VG a=>show keeps_K (show keepIn b (.VG a)=V6 from e) h d
 |Va i=>show aV .machine (.Wt (.XB rfl)) (Looks.of_pure rfl)
 |W5 i=>show aV .machine (.Wt (.XB rfl)) (Looks.of_pure rfl)
 |_=>cases e
def Ab {A Vb ι s WS} {f:VE} {a:V2 V} {b:V2 VE} {es:V2 Vi} (d:Xl A n) (hs:Vb.VU=sc) (L:Yu c ι s.V5 Vb ρ) (G:c.W6 ι M s.V5) (g:qv c.K f=V6) (i:es.Z4 ig=V6) (r:cT ι s.V5 a b)
    (h:lX c n sc es ρ M λvs aT=>aQ c n f (a++vs) aT P):Go c A (callWith WS f b (ND WS (tV es Vb)) []) ι s [] (RP P):=λQ E q=>by
 apply callWith_of (P:=λh=>c.K.In h) (by rw[LO i];rfl) (λh j=>DA g j) ?_
 letI l:=h A Vb ι s WS d hs L G (λm o=>(Cx.K c).In o.V5/\VO c.M A (Vu f (b++m)) Q E o) E λp o m aT st t u v=>Xs v λvs w k=>
  ⟨Cx.K_in t,k A p o _ d t ((r.up st).WX w) Q E λy z rv bQ C D F H=>q y z rv bQ (st.V7 C) D (u.V7 F) H⟩
 clear h;cases es with
 |VH=>
  focus unfold evalArgs
  focus change VO _ A (spliced []>>=_) _ E s
  show aA (eN l (λvs s' h'=>aA (aD (dz (aA (aD (aA (aD (aD h')))))))) λ_ _ x=>x)
 |V4 e es=>
  simp only[jE,aN] at i;rw[pS i.1] at l⊢;show evalArgs_plain l
def dZ.Vu {x:Vm} {xp WS} {es:V2 Vi} (a:dZ c n sc (.Name x xp) ρ M λv aT=>∃f,v=.lit f/\qv c.K f=V6/\lX c n sc es ρ aT λvs bQ=>aQ c n f vs bQ P) (b:es.Z4 ig=V6:=by rfl):
    dZ c n sc (.Call (.Name x xp) es [] WS) ρ M P:=
 λA Vb ι s d hs L G Q E q=>Call_ (a A Vb ι s d hs L G _ _ λg i rf aT st j k l=>by
  let(v,r,f,e,m,h):=l;subst e;rw[r];show Ab d hs (L.XU st) j m b .VH (by simpa using h) Q E λo p rv bQ t u w y=>q o p rv bQ (st.V7 t) u (k.V7 w) y) rfl
abbrev vE (e:Vi):VS:=if h:e.VZ=16 then @Vi.Call.W2 (λ_=>VS) e h λ_ a ks _=> !(a.WN&&ks.WN) else V6
def Ax {o:Vi} {name:Vm} {Vb:Env} {t:ZD VE} (h:vE o=V6):attributeBase o name Vb t=t:=by
 cases o with
 |Call f d ks p=>
  letI z:d=[]->ks=[]->WY:=λa b=>by rw[a,b] at h;show nomatch (show V3=V6 from h)
  clear h;cases f with
  |Name id q=>
   cases d with
   |VH=>
    cases ks with
    |VH=>show(z rfl rfl).W2
    |V4 k ks=>rfl
   |V4 a d=>rfl
  |_=>rfl
 |_=>rfl
abbrev sM (c:Cx) (n:V9) (a:V) (name:Vm) (M:WC) (f:VE):Prop:=
 ∀(A:W8) ι s rov pl,Xl A n->c.W6 ι M s.V5->WV ι s.V5 a rov->GoD c A (getMethod rov name pl) ι s [] (λ_ _ r=>r=(f,[rov])) M
def dZ.W3 {o:Vi} {name:Vm} {apos WS} {es:V2 Vi} (b:dZ c n sc o ρ M λd aT=>∃f,sM c n d name aT f/\qv c.K f=V6/\lX c n sc es ρ aT λvs bQ=>aQ c n f (d::vs) bQ P)
    (g:vE o=V6:=by rfl) (i:(apos.endLine==WS.line)=V6:=by rfl) (j:es.V0<29:=by show aS rfl) (k:es.Z4 ig=V6:=by rfl):
    dZ c n sc (.Call (.Attribute o name apos) es [] WS) ρ M P:=
 λA Vb ι s l hs L G Q E q=>by
  change VO _ _ (attributeBase o name Vb (eval o Vb)>>=λd=>uT _>>=λ_=>methodCall _ _ _ _ _ d (es.V0+0) _ _) _ _ _;rw[Ax g];apply aA (b A Vb ι s l hs L G _ _ λm t u aT st v w y=>Xs y λd r y=>o1_3 y λf z C h=>aA (gx ?_))
  focus unfold methodCall
  have few:methodCallForm (es.V0+0) (ND WS (tV es Vb)) (backToKw WS (keywordEach [] Vb))=V6:=by
   focus unfold methodCallForm
   have a:(ND WS (tV es Vb)).Z4 (λx=> !x.1)=V6:=by
    have:=LO (WS:=WS) (Vb:=Vb) k;rw[V2.any_eq_false] at this;rw[ek];intro x D;have:=this x D
    simpa using this
   rw[a];have:backToKw WS (keywordEach [] Vb)=[]:=rfl
   focus rw[this]
   simp only[V2.all_nil,V2.isEmpty_nil,if_true,SN,wu,decide_eq_true_eq];show e9 [{1,.a,.n 29}] {1,.p (.p .a (.n 0)) (.n 0),.n 30} [1,1] [] tt j
  rw[few];apply aA (dz ?_)
  focus change VO _ _ (getMethod u name _) _ _ _
  apply z A m t u _ l v r _ _ λF H I J N R e=>?_;rw[e];apply aA ?_
  focus unfold methodCallPos
  rw[Vw (by rw[i];rfl)];apply aD ?_;have AO:=(L.XU st).XU J;show Ab l hs AO N C k (.Ws (r.up J)) h Q E λS T rv cI U W X Y=>q S T rv cI ((st.V7 J).V7 U) W ((w.V7 R).V7 X) Y
end
section
mutual open Nat
def qZ.find {ι h}:∀{fs:V2 (Vm×V)} {l:V2 XF},qZ ι h fs l->∀name:Vm,
    (∀v,fs.VY name=V1 v->∃e,l.ZS (·.Yh.Zl name)=V1 e/\WV ι h v e.YM)/\(fs.VY name=V8->l.ZS (·.Yh.Zl name)=V8)/\l.any (·.refKey)=V3:=by
 intro a
 induction a with
 |VH=>
  intro l r name;cases r;show fq (nofun) (λ_=>rfl) rfl
 |V4 d fs f=>
  let(k,x):=d;intro l r name;let(e,g,t,VC,i,b,q):=r;let(d,j,m):=f q name
  letI o:(e.Yh.Zl name)=(name==k):=by rw[i];change(k==name)=_;show oS.WO {λh=>VV.WO (VV.mp h).Vh,λh=>VV.WO (VV.mp h).Vh}
  apply fq (λv hv=>?_) (λp=>?_) ?_
  .rw[bH] at hv;rw[dj,o];cases z:name==k with
   |V6=>rw[z] at hv;cases hv;show aV e rfl b
   |V3=>rw[z] at hv;show d v hv
  .rw[bH] at p;rw[dj,o];cases z:name==k with
   |V6=>rw[z] at p;cases p
   |V3=>rw[z] at p;show j p
  .rw[V2.any_cons,m,VS.or_false]
   focus unfold XF.refKey
   rw[i]
abbrev xN (v:V):VS:=V.Wc (WP:=λ_=>VS) v V3 (λ_=>V3) (λ_=>V3) (λ_=>V3) (λ_=>V3) (λ_=>V3) (λ_=>V6) (λ_ _=>V3)
def WV.handed {ι h v rv} (r:WV ι h v rv) (d:xN v=V3):handedIn rv=V6:=by
 cases v with
 |V8=>cases r;rfl
 |WW b=>cases r;rfl
 |Vl i=>let(t,VC):=r;rfl
 |str i=>let(t,VC):=r;rfl
 |VG a=>let(t,_,VC):=r;rfl
 |Vj xs=>let(t,_,_,VC,_):=r;rfl
 |lit u=>cases d
 |Xb lo hi=>let(t,_,_,_,VC,_):=r;rfl
abbrev Hj (b:Zq) (C:Vc) (name:Vm):VS:=plainGet b C name&&hasDictIn b C&&(match UL b (.VG C) name with|V1 a=>noGet b a|V8=>V3)
abbrev Gv (a:Zq) (C:Vc) (name:Vm) (f:Vc):VS:=plainGet a C name&&(UL a (.VG C) name==V1 (V1 (.VG f)))&&isFn a (.VG f)
def GR {ι:V2 Vc} {h:WH} {a d:V9} {C:Vc} {fs:V2 (Vm×V)} (G:c.W6 ι M h) (ha:M[a]?=V1 (.YH C d)) (b:M[d]?=V1 (.ns fs)):
    ∃x e f m,ι[a]?=V1 x/\ι[d]?=V1 e/\InstAt h x (UO C e) C (V1 (Ao f m))/\h.VT e=V1 (Ao f m)/\qZ ι h fs f.VD:=by let(x,g,e,i,j):=G.VJ a _ ha;let(k,l,f,m,o,p):=G.VJ d _ b;rw[i] at l;cases l;show Sj x e f m g i ⟨j,VC,VC,o⟩ o p
def JF {name:Vm} {a:VW XF} {m:V9} {e:XF} (h:a.VD.ZS (·.Yh.Zl name)=V1 e):SH name (Ao a m)=V1 (V1 e.YM):=by unfold SH;dsimp only;rw[h]
def JG {name:Vm} {a:VW XF} {m:V9} (h:a.VD.ZS (·.Yh.Zl name)=V8) (k:a.VD.any (·.refKey)=V3):SH name (Ao a m)=V1 V8:=by unfold SH;dsimp only;rw[h];rw[k];rfl
abbrev Sx (c:Cx) (o:V) (name:Vm) (v:V) (M:WC):Prop:=
 ∃a d C fs,o=.VG a/\M[a]?=V1 (O.YH C d)/\M[d]?=V1 (.ns fs)/\fs.VY name=V1 v/\Hj c.K C name=V6/\xN v=V3
def dZ.attr {e:Vi} {name:Vm} {WS} (b:dZ c n sc e ρ M λo aT=>∃v,Sx c o name v aT/\P v aT) (f:vE e=V6:=by rfl):dZ c n sc (.Attribute e name WS) ρ M P:=
 λA Vb ι s g hs L G Q E q=>by
  apply Attribute_any_ (b A Vb ι s g hs L G _ _ λh i j aT st k l t=>Xs t λo r t=>Xs t λv t p=>o4_6 t λa d C fs u ha w hv y z=>?_) ?_
  .clear t;clear t;clear t;subst u;let(x,B,VC):=r;let(D,F,H,m,J,K,I,N,R):=GR k ha w;rw[B] at J;cases J;let(S,T,U):=(R.find name).1 v hv;unfold Hj at y;simp only[aN] at y;let((k1,k2),k3):=y;split at k3
   .rename_i X8 hat
    show get_value (Cx.K_in k) I (QL k1).1 (findObj_own k2 hat k3 (JF T)) (U.handed z) (q h _ _ aT st k (l.V7 {VC,VC}) (aV v U p))
   .cases k3
  .show VN (·>>=_) (Ax f)
def sM.XG {a d:V9} {C f:Vc} {name:Vm} {fs:V2 (Vm×V)} (ha:M[a]?=V1 (.YH C d)) (b:M[d]?=V1 (.ns fs)) (e:fs.VY name=V8) (g:Gv c.K C name f=V6):sM c n (.VG a) name M (.VG f):=
 λA ι s h pl i G r Q E q=>by let(x,j,VC):=r;let(k,l,o,m,p,t,I,u,v):=GR G ha b;rw[j] at p;cases p;unfold Gv at g;simp only[aN,VV] at g;let((k1,k2),k3):=g;let(_,w,y):=v.find name;show method_fn (Cx.K_in G) I (QL k1).1 (QL k1).2 k2 (VV.mp k3) (by change(SH name _).VP _=_;rw[JG (w e) y];rfl) (q ι s _ .Vt G .Vt rfl)
set_option genCtorIdx true in
inductive Fl where
 |next|brk|cont|XC (v:V)
abbrev Sw (ι:V2 Vc) (h:WH):Fl->Flow->Prop
 | .Wo,f=>f=.Wo
 | .brk,f=>f=.brk
 | .cont,f=>f=.cont
 | .XC v,f=>∃rv,f=.XC rv/\WV ι h v rv
nonrec abbrev mG:=Fl->Rho->WC->Prop
abbrev GoF (c:Cx) (A:W8) (t:ZD Flow) (Vb:Env) (ι:V2 Vc) (s:VI) (P:mG):Prop:=
 ∀(Q:Flow->VI->Prop) (E:VE->VI->Prop),(∀a s' f b d M',WQ (dK Vb) ι s.V5 a s'.V5->c.W6 a M' s'.V5->YT s s'->Yu c a s'.V5 Vb d->Sw a s'.V5 b f->P b d M'->Q f s')->VO c.M A t Q E s
abbrev Yy (c:Cx) (n:V9) (sc:X6) (st:Y7) (ρ:Rho) (M:WC) (P:mG):Prop:=
 ∀(A:W8) (Vb:Env) ι s,Xl A n->Vb.VU=sc->Yu c ι s.V5 Vb ρ->c.W6 ι M s.V5->GoF c A (exec st Vb) Vb ι s P
abbrev uN (c:Cx) (n:V9) (sc:X6) (a:V2 Y7) (ρ:Rho) (M:WC) (P:mG):Prop:=
 ∀(A:W8) (Vb:Env) ι s,Xl A n->Vb.VU=sc->Yu c ι s.V5 Vb ρ->c.W6 ι M s.V5->GoF c A (execs a Vb) Vb ι s P
variable {cM cX:Rho} {F F':mG}
def GoF.W9 {A t Vb ι s} (h:GoF c A t Vb ι s F) (k:∀a ρ M,F a ρ M->F' a ρ M):GoF c A t Vb ι s F':=
 λQ E q=>h Q E λb s' f a d M' st G e L r p=>q b s' f a d M' st G e L r (k _ _ _ p)
def Yy.W9 {st} (h:Yy c n sc st ρ M F) (k:∀a ρ M,F a ρ M->F' a ρ M):Yy c n sc st ρ M F':=λA Vb ι s b hs L G=>(h A Vb ι s b hs L G).W9 k
def uN.W9 {ss} (h:uN c n sc ss ρ M F) (k:∀a ρ M,F a ρ M->F' a ρ M):uN c n sc ss ρ M F':=λA Vb ι s b hs L G=>(h A Vb ι s b hs L G).W9 k
def uN.VH (p:F .Wo ρ M):uN c n sc [] ρ M F:=λA Vb ι s a hs L G Q E q=>aD (q ι s .Wo .Wo ρ M .Vt G .Vt L rfl p)
abbrev Un (c:Cx) (n:V9) (sc:X6) (a:V2 Y7) (F:mG):mG:=λb ρ M=>match b with
 | .Wo=>uN c n sc a ρ M F
 |b=>F b ρ M
def uN.V4 {st ss} (h:Yy c n sc st ρ M (Un c n sc ss F)):uN c n sc (st::ss) ρ M F:=
 λA Vb ι s a hs L G Q E q=>wpAny_execs_cons (h A Vb ι s a hs L G _ _ λb d f e cM aT st g i j r p=>by
  cases e with
  |next=>
   cases r;show p A Vb b d a hs j g Q E λk l m o cX bQ t u w x y B=>q k l m o cX bQ (st.V7 t) u (i.V7 w) x y B
  |brk=>
   have z:=q b d f .brk cM aT st g i j r p;cases r;show z
  |cont=>
   have z:=q b d f .cont cM aT st g i j r p;cases r;show z
  |XC v=>
   have z:=q b d f (.XC v) cM aT st g i j r p;let(rv,VC,_):=r;show z)
def Go.YE {α A Vb ι s R} {t:ZD α} {Q:α->VI->Prop} {E:VE->VI->Prop} (L:Yu c ι s.V5 Vb ρ) (h:Go c A t ι s [] R)
    (k:∀b s' a M',WQ (dK Vb) ι s.V5 b s'.V5->c.W6 b M' s'.V5->YT s s'->Yu c b s'.V5 Vb ρ->R b s' a M'->Q a s'):VO c.M A t Q E s:=
 h Q E λb s' a M' st d e r=>k b s' a M' (st.W9 λ_ q=>(by cases q)) d e (L.XU st) r
def Yy.XC {e:Vi} {WS} (h:dZ c n sc e ρ M λv aT=>F (.XC v) ρ aT):Yy c n sc (.Return (V1 e) WS) ρ M F:=
 λA Vb ι s a hs L G Q E q=>by change VO _ _ (uT _>>=λ_=>eval e Vb>>=_) _ _ _;apply aA (gx (aA (Go.YE L (h A Vb ι s a hs L G) λb s' rv aT st d f g i=>by let(v,r,p):=i;show aD (q b s' _ (.XC v) ρ aT st d f g ⟨rv,VC,r⟩ p))))
def Yy.if {t:Vi} {b o WS} (h:kZ c n sc t ρ M λr aT=>if r then uN c n sc b ρ aT F else uN c n sc o ρ aT F):Yy c n sc (.If t b o WS) ρ M F:=
 λA Vb ι s a hs L G Q E q=>wpAny_If (Go.YE L (h A Vb ι s a hs L G) λd e r aT st f g i k=>by
  cases r with
  |V6=>show k A Vb d e a hs i f Q E λj l m p cX bQ u v w x y z=>q j l m p cX bQ (st.V7 u) v (g.V7 w) x y z
  |V3=>show k A Vb d e a hs i f Q E λj l m p cX bQ u v w x y z=>q j l m p cX bQ (st.V7 u) v (g.V7 w) x y z)
def H8 {d:Type} {l:V2 d} (h:l.V0=2):∃a b,l=[a,b]:=by
 rcases l with _|⟨a,_|⟨b,_|_⟩⟩
 .cases h
 .cases h
 .show tR a b rfl
 .cases h
end
end
section
variable {cM cX:Rho} {F:mG}
mutual open Nat
def HE {x y:Vm} {a:Vc}:∀{l:V2 (Vm×Vc)},(l.VP (·.2)).WF->(x,a)∈l->(y,a)∈l->x=y:=by
 intro b
 induction b with
 |VH=>
  intro _ h _;show nomatch h
 |V4 p l d=>
  intro f h k;rw[bT,dJ] at f;letI no:∀{z},(z,a)∈l->p.2≠a:=λq e=>f.1 (e▸aK.WO (aV _ q rfl));rcases aU.mp h with q|h<;>rcases aU.mp k with r|k
  .rw[<-q] at r;clear q h d;cases r;rfl
  .show Vy (by show VN _ (q).Vh) (no k)
  .show Vy (by show VN _ (r).Vh) (no h)
  .show d f.2 h k
def xQ {h:WH} {a v} (x:h.IsCell a v):i7 [a] h:=λb d=>by rw[aC.mp d];show vK x
def mK {h:WH} {a m} (x:h.Ns a m):i7 [a] h:=λb d=>by rw[aC.mp d];show EF x
abbrev kq (sc:X6) (x:Vm):VS:=sc.Vv.VY x==V1 .Zk||sc.Vv.VY x==V1 .Yx
def Dv {A Vb ι s x v rv} (hs:Vb.VU=sc) (L:Yu c ι s.V5 Vb ρ) (G:c.W6 ι M s.V5) (r:WV ι s.V5 v rv) (f:kq sc x=V6) {Q:Yn->VI->Prop} {E:VE->VI->Prop}
    (q:∀g s',WQ (dK Vb) ι s.V5 g s'.V5->c.W6 g M s'.V5->YT s s'->Yu c g s'.V5 Vb ((x,v)::ρ)->Q () s'):VO c.M A (storeName Vb x rv) Q E s:=by
 have kk:Vb.XL x=V1 .Zk\/Vb.XL x=V1 .Yx:=by unfold kq at f;simp only[gM,VV] at f;rw[<-hs] at f;show f
 letI h:=L.apart;unfold dK at h;rw[dJ] at h;let(m,i,j):=L.ns;letI l:∀{y a},Vb.X0.VY y=V1 a->a∈dK Vb:=λe=>bN _ (aK.WO (aV _ (Yu.WL.Wq e) rfl));rcases kk with kl|kc
 .apply wpAny_storeName_local kl i (λh' t B=>?_) (by rw[L.Y2];rfl);have Za:∀b o,s.V5.VT b=V1 o->b∉[Vb.Yv]->h'.VT b=V1 o:=λb o e z=>(B.2 b λy=>z (by simp[y])).V7 e;have lv:∃o,h'.VT Vb.Yv=V1 o:=by let(o,_,_,e,_):=t;show{o,e}
  let(st,C):=G.frame (F:=[Vb.Yv]) (bX B.1.Vh) Za (λb z=>by rw[aC.mp z];show(L.Zv _ (.WI _)).1)
   (λb z=>by rw[aC.mp z];show(L.Zv _ (.WI _)).2) (mK i)
  letI D:∀{y w},WV ι s.V5 y w->WV ι h' y w:=λz=>z.WL st (mK i);apply q ι _ (st.W9 λb z=>by rw[aC.mp z];show .WI _) C {VC,VC} {L.Y2,L.Xo,L.blt,(aV _ t λy u e k=>?_),λy u e k=>?_,L.Zv,λp H=>?_,L.apart,L.Wp}
  .rw[bH] at e;split at e
   .rename_i z;cases e;show aV rv (by simp[VV.mp z]) (D r)
   .rename_i z
    let(I,J,K):=j y u e k;show aV I (by rw[Vd (by simpa using z)];show J) (D K)
  .rw[bH] at e;split at e
   .rename_i z;rw[VV.mp z] at k;show Vy kl k
   .let(k',a,I,J,(o,K,e3),e4):=L.Yx y u e k;apply{k',a,I,J,{o,(B.2 a λz=>h.1 ?_).V7 K,e3},D e4};show z▸(aK.WO (aV _ (Yu.WL.Wq J) rfl))
  .let(v,o,e,d):=L.X0 p H;show{v,o,(B.2 _ λz=>h.1 (z▸aK.WO (aV p H rfl))).V7 e,d}
 .let(a,ha):=L.Wp x kc;letI N:=Yu.WL.Wq ha;let(R,S):=L.X0 _ N;apply wpAny_storeName_cell L.Y2 kc ha S λh' T B=>?_;have hne:Vb.Yv≠a:=λz=>h.1 (z▸aK.WO (aV _ N rfl));have Za:∀b o,s.V5.VT b=V1 o->b∉[a]->h'.VT b=V1 o:=λb o e z=>(B.2 b λy=>z (by simp[y])).V7 e;have lv:∃o,h'.VT a=V1 o:=by let(o,e,_):=T;show{o,e}
  clear lv;let(st,C):=G.frame (F:=[a]) (bX B.1.Vh) Za (λb z=>by rw[aC.mp z];show(L.Zv _ (l ha)).1)
   (λb z=>by rw[aC.mp z];show(L.Zv _ (l ha)).2) (xQ S)
  letI D:∀{y w},WV ι s.V5 y w->WV ι h' y w:=λz=>z.WL st (xQ S);apply q ι _ (st.W9 λb z=>by rw[aC.mp z];show l ha) C {VC,VC} {L.Y2,L.Xo,L.blt,(aV m (i.sameBut B hne) λy u e k=>?_),λy u e k=>?_,L.Zv,λp H=>?_,L.apart,L.Wp}
  .rw[bH] at e;split at e
   .rename_i z;rw[VV.mp z,kc] at k;cases k
   .let(I,J,K):=j y u e k;show aV I J (D K)
  .rw[bH] at e;clear st Za hne S R;split at e
   .rename_i z;cases e;rw[VV.mp z];show{kc,a,rv,ha,T,D r}
   .rename_i z
    clear T ha;let(k',b,I,J,(o,K,e3),e4):=L.Yx y u e k;apply{k',b,I,J,{o,(B.2 b λw=>?_).V7 K,e3},D e4};clear B;subst w;have:=HE h.2 (Yu.WL.Wq J) N;rw[this] at z;simp at z
  .let(v,o,e,d):=L.X0 p H;by_cases w:p.2=a
   .rw[w];show{_,T}
   .show{v,o,(B.2 _ w).V7 e,d}
def JH {A:W8} {s:VI} {Q:VE->VI->Prop} {E:VE->VI->Prop} (h:Q .V8 s):VO (Vg c.VM c.w) A (runValue (.Va "proto.let_go" {})) Q E s:=
 xx (fJ entry_let_go (show VO _ _ (XC .V8) _ _ s from aD h))
abbrev lP (e:Vi):VS:= !(IW 8 e.VZ&&IW e.VZ 10)
abbrev Mt (e:Vi):VS:=g9 e.VZ 16
def m8 {e:Vi} {t:VK Vi} {l Vb} (h:lP e=V6):DS e t l Vb=X3 V3:=by cases e<;>first|rfl|cases h
def Yy.assign {x:Vm} {xp WS} {e:Vi} (h:dZ c n sc e ρ M λv aT=>F .Wo ((x,v)::ρ) aT) (a:kq sc x=V6:=by kernel_rfl) (b:lP e=V6:=by rfl):Yy c n sc (.Assign [.Name x xp] e WS) ρ M F:=
 λA Vb ι s d hs L G Q E q=>wpAny_Assign_Name (Go.YE L (h A Vb ι s d hs L G) λf g rv aT st i j k l=>Xs l λv r p=>
  Dv hs k i r a λm o t u w y=>q m o _ .Wo _ aT (st.V7 t) u (j.V7 w) y rfl p) (m8 b)
def Yy.Xt {e:Vi} {WS} (h:dZ c n sc e ρ M λ_ aT=>F .Wo ρ aT) (b:Mt e=V6):Yy c n sc (.Vi e WS) ρ M F:=by
 revert h;apply @Vi.Call.W2 (λe=>dZ c n sc e ρ M (λ_ aT=>F .Wo ρ aT)->Yy c n sc (.Vi e WS) ρ M F) e (gS b) λf d ks p h A Vb ι s g hs L G Q E q=>?_
 .clear b e;letI hi:QW Vb=V3:=by unfold QW;rw[L.Y2];rfl
  change VO _ _ (uT WS>>=λ_=>if QW Vb then _ else _) _ _ _;rw[hi];apply aA (gx ?_)
  focus rw[Vd (by show aO)]
  focus apply aA (aD ?_)
  focus rw[Vd (by show aO)]
  apply aA (Go.YE L (h A Vb ι s g hs L G) λi j rv aT st k l m o=>?_);clear h;let(v,r,p):=o;letI XR:=q i j .Wo .Wo ρ aT st k l m rfl p;clear r hi;cases rv with
  |VG a=>show aA (gx (aA (JH (aD XR))))
  |_=>show aD XR
end
end
section
variable {cM cX:Rho}
mutual open Nat
structure Fn (K:Zq) (f:Vc) (Vv:V2 Vm) (sc:X6) (WK:V2 Y7):Prop where
 X8:∃oc od fd sl,K.VY f=V1 ⟨oc,od,.func fd,sl⟩/\fd.WK=.stmts WK/\fd.VU=sc/\fd.closure=[]/\fd.globals=lB/\fd.builtins=AN/\codeIn K fd.code fd.qualname=V6/\
  ∀vals:V2 VE,vals.V0=Vv.V0->bindArgs fd ⟨vals,[]⟩=X3 (Vv.Y8 vals)
abbrev kT:V2 Vm->VS
 |[]=>V6
 |x::r=> !r.contains x&&kT r
def oA:∀{l:V2 Vm},kT l=V6->l.WF:=by
 intro a
 induction a with
 |VH=>
  intro _;show j5
 |V4 x r b=>
  intro h;letI h:=(aN _ _).mp h;show dJ.WO {λq=>by rw[V2.contains_iff_mem.WO q] at h;show(nomatch h.1),b h.2}
abbrev yC (sc:X6) (Vv:V2 Vm):VS:=
 kT Vv&&kT ((Nf 0 sc.Vv []).VP (·.1))&&Vv.Z4 (kq sc)&& !sc.isCoroutine&& !sc.isGenerator&&sc.Y2==.ZE
def wZ {x:Vm} (l:V2 (Vm×YU)):∀(n:V9) (a:V2 (Vm×Vc)),(a.VY x).XZ=V6\/l.VY x=V1 .Yx->((Nf n l a).VY x).XZ=V6:=by
 induction l with
 |VH=>show λn a h=>h.W2 id λh=>(by cases h)
 |V4 p r d=>
  intro n a h;have hc:∀{b:VS} {l m:V2 (Vm×Vc)},(b=V6->(l.VY x).XZ=V6)->(b=V3->(m.VY x).XZ=V6)->((if b=V6 then l else m).VY x).XZ=V6:=λ{b _ _} f g=>by cases b;show g rfl;show f rfl
  apply hc (b:=p.2==.Yx) (λe=>d _ _ ?_) λe=>d _ _ (h.imp id λh=>?_)
  .rw[bH];rw[bH] at h;cases z:x==p.1 with
   |V6=>show .XB rfl
   |V3=>rw[z] at h;show h
  .rw[bH] at h;cases z:x==p.1 with
   |V6=>rw[z] at h;rw[cG h] at e;cases e
   |V3=>rw[z] at h;show h
end
section
variable {x:Str} {b:List (Str×Value)->(Str->Option Value)->Str->Option Value} (h0:∀m,b [] m=m) (h1:∀n v r m,∃m',b ((n,v)::r) m=b r m'/\(x≠n->m' x=m x)/\(x=n->m' x=some v))
mutual open Nat
include h0 h1
def Nh {l:V2 (Vm×VE)}:∀{m:Vm->VK VE},x∉l.VP (·.1)->b l m x=m x:=by
 induction l with
 |VH=>intro m _;rw[h0]
 |V4 p r a=>
  intro m h;let(m',d,e,_):=h1 p.1 p.2 r m;show(congrFun d x).V7 ((a λz=>h (.XW _ z)).V7 (e λz=>h (z▸.WI _)))
def IM {ι h} {v:V} {Vv:V2 Vm}:∀{vs:V2 V} {d:V2 VE} (m:Vm->VK VE),Vv.WF->cT ι h vs d->(Vv.Y8 vs).VY x=V1 v->
    ∃rv,b (Vv.Y8 d) m x=V1 rv/\WV ι h v rv:=by
 induction Vv with
 |VH=>intro _ _ _ _ _ e;cases e
 |V4 y Vv f=>
  intro vs d m nd r e;cases vs with
  |VH=>cases e
  |V4 u vs=>
   let(rv,q,VC,a,c):=r;letI nd:=dJ.mp nd;let(m',g,_,i):=h1 y rv (Vv.Y8 q) m;have g:b ((y::Vv).Y8 (rv::q)) m=_:=g;rw[g];rw[gv,bH] at e;cases z:x==y with
   |V6=>
    rw[z] at e;cases cG e;apply aV rv ((Nh h0 h1 λw=>?_).V7 (i (VV.mp z))) a;let(p,j,VC):=aK.mp w;show nd.1 (VV.mp z▸(Br j).1)
   |V3=>
    rw[z] at e;show f m' nd.2 c e
end
end
mutual open Nat
def Ni {kd:Vm->VK YU} {ι h} {x:Vm} {v:V} (a:kd x=V1 .Zk) {Vv:V2 Vm} {vs:V2 V} {d:V2 VE} (m:Vm->VK VE) (nd:Vv.WF) (r:cT ι h vs d) (e:(Vv.Y8 vs).VY x=V1 v):
    ∃rv,bindL kd (Vv.Y8 d) m x=V1 rv/\WV ι h v rv:=
 IM (b:=bindL kd) (λ_=>rfl) (λn w r m=>g6 _ rfl (λf=>by split;show Vd f;rfl) λe=>by subst e;rw[Vw a];show Vw rfl) m nd r e
def Nj {kd:Vm->VK YU} {ι h} {x:Vm} {v:V} (a:kd x≠V1 .Zk) {Vv:V2 Vm} {vs:V2 V} {d:V2 VE} (m:Vm->VK VE) (nd:Vv.WF) (r:cT ι h vs d) (e:(Vv.Y8 vs).VY x=V1 v):
    ∃rv,bindC kd (Vv.Y8 d) m x=V1 rv/\WV ι h v rv:=
 IM (b:=bindC kd) (λ_=>rfl) (λn w r m=>g6 _ rfl (λf=>by split;rfl;show Vd f) λe=>by subst e;rw[Vd a];show Vw rfl) m nd r e
def GB {x:Vm} {v:V} {l:V2 (Vm×V)} (e:l.VY x=V1 v):x∈l.VP (·.1):=by
 induction l with
 |VH=>cases e
 |V4 p l a=>
  rw[bH] at e;cases z:x==p.1 with
  |V6=>rw[VV.mp z];show .WI _
  |V3=>rw[z] at e;show .XW _ (a e)
def yY {x:Vm} {v:V} {Vv:V2 Vm} {vs:V2 V} (e:(Vv.Y8 vs).VY x=V1 v):x∈Vv:=by let(p,a,VC):=aK.mp (GB e);show(Br a).1
abbrev mE:Fl->V
 | .XC v=>v
 |_=>.V8
abbrev ju (c:Cx) (n:V9) (a:VE) (vs:V2 V) (M:WC) (P:dQ):Prop:=
 ∀(A:W8) ι s rvs,Xl A n->c.W6 ι M s.V5->cT ι s.V5 vs rvs->∀(R:Result->VI->Prop),(∀b s' rv v M',WQ [] ι s.V5 b s'.V5->c.W6 b M' s'.V5->YT s s'->WV b s'.V5 v rv->P v M'->R (.ok (.XC rv)) s')->
  jq c.M A (.Vu a ⟨rvs,[]⟩) R s
def ju.Vu {a:VE} {vs:V2 V} (h:ju c n a vs M P):aQ c n a vs M P:=λA ι s b d G r Q E q=>
 Sz (h A ι s b d G r _ λe s' rv v M' st f g i p=>q e s' rv M' st f g (aV v i p))
def ju.le {m fv vs} (h:ju c n fv vs M P) (l:n<=m):ju c m fv vs M P:=λA ι s a b=>h A ι s a (b.le l)
def ju.fn {f:Vc} {Vv:V2 Vm} {WK:V2 Y7} {vs:V2 V} (F:Fn c.K f Vv sc WK) (d:yC sc Vv=V6) (g:vs.V0=Vv.V0)
    (i:uN c n sc WK (Vv.Y8 vs) M λj _ M'=>P (mE j) M'):ju c (n+1) (.VG f) vs M P:=λA ι s l m G r R q=>by
 let(t,u,fd,w,y,C,D,E,H,J,N,Q):=F.X8;unfold yC at d;clear F;simp only[aN,ek,dh,VV] at d;let(((((h1,h2),h3),h4),h5),h6):=d;have nd:=oA h1
 have ndc:∀k,((Nf k sc.Vv []).VP (·.1)).WF:=λk=>by rw[cellsFrom_names sc.Vv k 0 [] [] rfl];show oA h2
 have X:=Cx.K_in G;have bd:=Q l (r.V0.V7 g)
 have kinds:∀x∈Vv,sc.Vv.VY x=V1 .Zk\/sc.Vv.VY x=V1 .Yx:=λx S=>by
  have:=h3 x S;unfold kq at this
  simpa using this
 clear h3 h2;subst D;apply codeAny_call_cells (fd:=fd) (binds:=Vv.Y8 l) m.lim (X _ _ y) rfl (c.nolimit.YG G.X5) (codeRec_of X N) C bd E (λx S=>?_) (λT I=>?_) h4 h5 h6
 .rcases kinds x.1 (Br S).1 with k|k
  .show .XB k
  .show .Wt {k,wZ _ _ _ (.Wt k)}
 .let(h',U,VC,W):=I.YS
  letI ks:s.V5.VJ.VA<=h'.VJ.VA:=by let(o,_,_,e,_):=I.toInCall.ns;show bZ (dW I.toInCall.Y0 (bM e))
  let(st,Y):=G.YG ks W;generalize Z:callEnvC fd s.V5.VJ.VA f=Vb at I⊢;letI a0:Vb.VU=fd.VU:=by rw[<-Z];rfl
  have e2:Vb.globals=lB:=by rw[<-Z];show H
  have e3:Vb.builtins=AN:=by rw[<-Z];show J
  letI a1:Vb.X0=Nf (s.V5.VJ.VA+1) fd.VU.Vv []:=by rw[<-Z];rfl
  letI a2:Vb.Yv=s.V5.VJ.VA:=by rw[<-Z];rfl
  letI a3:∀b∈dK Vb,s.V5.VJ.VA<=b:=λb i=>by
   rcases aU.mp i with rfl|i
   .rw[a2];show aM _
   .let(p,a4,VC):=aK.mp i;have:=I.Yr p.1 p.2 a4;rw[a2] at this;show bZ this
  have Y0:∀b∈dK Vb,s.V5.VT b=cQ:=λb i=>wX (a3 b i)
  have isIn:∀p∈Vb.X0,Vb.X0.VY p.1=V1 p.2:=λp a4=>by apply lookup_of_mem_nodup ?_ a4;rw[a1];show ndc _
  have L:Yu c ι h' Vb (Vv.Y8 vs):=by
   apply{by rw[a0];show h6,e2,e3,(aV _ I.toInCall.ns λx v e k=>?_),λx v e k=>?_,λb i=>{?_,?_},λp a4=>{_,I.Yx p.1 p.2 (isIn p a4)},?_,λx k=>?_}
   .show Ni k _ nd (r.up st) e
   .letI S:=yY e
    letI a5:Vb.XL x=V1 .Yx:=by
     rcases kinds x S with z|z
     .show Vy (by rw[<-a0] at z;show z) k
     .rw[<-a0] at z;show z
    let(rv,a,b):=Nj k (λ_=>cQ) nd (r.up st) e;have:(Vb.X0.VY x).XZ=V6:=by rw[a1];show wZ _ _ _ (.Wt (by rw[<-a0];show a5))
    let(ad,ha):=gX.mp this;show{a5,ad,rv,ha,a▸I.Yx x ad ha,b}
   .show G.new (a3 b i)
   .cases z:c.B.VT b with
    |V8=>rfl
    |V1 o=>have:=G.X5 b o z;rw[Y0 b i] at this;cases this
   .apply dJ.WO {λz=>?_,?_}
    .let(p,a4,z):=aK.mp z;show Vy (I.Yr p.1 p.2 a4) (by rw[z];show e8 _)
    .rw[iG,iR];show I.apart
   .have:(Vb.X0.VY x).XZ=V6:=by rw[a1];show wZ _ _ _ (.Wt (by rw[<-a0];show k))
    show gX.mp this
  apply eN (i (A.deeper Vb) Vb ι _ m.deeper a0 L Y (λf s'=>R (.ok (.XC (match f with| .XC v=>v|_=>.V8))) s') (λ_ _=>WY) λa6 s' f j a7 M' a8 a9 aa ab rf p=>?_) (λ_ _ h=>h) (λ_ _ h=>h.W2);apply q a6 s' _ (mE j) M' (((st.W9 (G:=dK Vb) λb i=>(by cases i)).V7 a8).XV λb i=>.Wt (Y0 b i)) a9 {aa.Xq,aa.os} ?_ p;clear p;cases j with
  |XC v=>
   let(rv,VC,rf):=rf;show rf
  |_=>
   cases rf;show rfl
def aQ.fn {f:Vc} {Vv:V2 Vm} {WK:V2 Y7} {vs:V2 V} (F:Fn c.K f Vv sc WK) (a:yC sc Vv=V6) (b:vs.V0=Vv.V0)
    (d:uN c n sc WK (Vv.Y8 vs) M λe _ M'=>P (mE e) M'):aQ c (n+1) (.VG f) vs M P:=(ju.fn F a b d).Vu
def Xl.typeCall {A:W8} {C:Vc} {a:V2 VE} (r:Xl A (n+1)):Xl (A.under (.Va "type.__call__" {.VG C::a,[]})) n:=by
 have h2:(Code.Va "type.__call__" {.VG C::a,[]}).cUnits=1:=by kernel_rfl
 apply{r.hd,?_,?_}
 .have:=r.dep;rw[depth_under_make];show QJ this
 .have:=r.uni;change A.Xz+_+16*n+100<9900;rw[h2];show TA this
abbrev Fd (a:Zq) (C b:Vc):VS:=makesIn a C&&(UL a (.VG C) "__init__"==V1 (V1 (.VG b)))&&(typeIn a (.VG b)==V1 (.W5 "function"))
def aQ.make {C a:Vc} {vs:V2 V} (b:Fd c.K C a=V6) (h:ju c n (.VG a) (.VG (M.V0+1)::vs) (M++[.ns [],.YH C M.V0]) λv M'=>v=.V8/\P (.VG (M.V0+1)) M'):aQ c (n+1) (.VG C) vs M P:=
 λA ι s f i G r Q E q=>by
  unfold Fd at b;simp only[aN,VV] at b;let((k1,k2),k3):=b;have X:=Cx.K_in G;let(j,g,d,t,os):=s;apply Sz (make_core (makes_of X k1) (looks_findIn X k2) (λk=>bind_fn X k k3) (.XB rfl) ?_);let(l,m):=G.push1 (ob:=emptyDict) (o':=.ns []) λst=>{#[],_,aP _ rfl,VC};let(o,u):=m.push1 (ob:=UO C j.VJ.VA) (o':=.YH C M.V0) λst=>{j.VJ.VA,st.ZN (fX G.Wz),aP _ rfl};have e:(M++[O.ns []])++[.YH C M.V0]=M++[.ns [],.YH C M.V0]:=by show(aR ..)
  rw[e] at u
  letI w:(ι++[j.VJ.VA]++[(j.Vp emptyDict).VJ.VA])[M.V0+1]?=V1 (j.VJ.VA+1):=by rw[<-G.Wz,dH];show apa
  have r':=(r.up l).up o;apply h _ _ _ (.VG (j.VJ.VA+1)::f) i.typeCall u (.V4 ({_,w,VC}) r') _ λx s' rv v M' st y z B p=>?_;let(rfl,p):=p;subst B;apply{VC,q x s' _ M' ((l.V7 o).V7 st) y {z.Xq,z.os} (aV _ ?_ p)};show{_,st.ZN w,VC}
end
end
mutual open Nat
def wG {M:Model} {a:Ctx} {p:Pos} {t:ZD Fin} {fs:V2 Frame} {s s':VI} {e:End} (h:Runs M a p t fs s e s'):s.V5.VJ.VA<=s'.V5.VJ.VA:=by
 induction h<;>(try simp only[VI.setGen,dH,WH.size_after_update] at *)<;>first|show aM _|assumption|show aG ‹_› ‹_›|show aG (aG ‹_› ‹_›) ‹_›|show m5 ‹_›
def FZ {M:Model} {a:Ctx} {p:Pos} {g:V9} {r:Resume} {s s':VI} {b:GenResult} (h:Wakes M a p g r s b s'):s.V5.VJ.VA<=s'.V5.VJ.VA:=by
 revert h
 delta Wakes
 cases s.Xq[g]? with
 |V8=>show λh=>h.W2
 |V1 x=>
  cases x with
  |Y0 c=>
   cases r with
   |throw x=>show λh=>by rw[h.2];show aM _
   |send v=>cases v with
    |V8=>show λh=>by let(d,e,f,_,_,VC):=h;show(wG f:(s.setGen g .running).V5.VJ.VA<=e.V5.VJ.VA)
    |_=>show λh=>by rw[h.2];show aM _
  |suspended=>show λh=>by let(d,e,f,_,_,VC):=h;show(wG f:(s.setGen g .running).V5.VJ.VA<=e.V5.VJ.VA)
  |_=>show λh=>by rw[h.2];show aM _
def NI {b:Type} (M:Model) (d:Ctx) (n:V9) (t:ZD b):∀(Q:b->Pos->VI->Prop) (E:VE->Pos->VI->Prop) (p:Pos) (s:VI),n<=s.V5.VJ.VA->ZD.wp M d t Q E p s->
    ZD.wp M d t (λa i s'=>n<=s'.V5.VJ.VA/\Q a i s') (λe i s'=>n<=s'.V5.VJ.VA/\E e i s') p s:=by
 induction t with
 |X3 a=>show λQ E p s j h=>{j,h}
 |raise e=>show λQ E p s j h=>{j,h}
 |unsupported _=>show λQ E p s _ h=>h
 |finish _=>show λQ E p s _ h=>h
 |rule _ k l=>show λQ E p s j h=>l () Q E p s j h
 |«at» i k l=>show λQ E p s j h=>l () Q E i s j h
 |load a _ k l=>show λQ E p s j u=>by let(o,v,h):=u;show{o,v,l o Q E p s j h}
 |XY a _ f k l=>show λQ E p s j h=>{h.1,l () Q E p _ (by simp only[WH.size_after_update];show j) h.2}
 |loadIfAlive a k l=>show λQ E p s j h=>l _ Q E p s j h
 |point _ k l=>show λQ E p s j h=>l () Q E p s j h
 |register _ _=>show λQ E p s _ h=>h
 |alloc o k l=>show λQ E p s j h=>l _ Q E p _ (by simp only[dH];show V9.le_succ_of_le j) h
 |Y0 k l=>show λQ E p s j h=>l _ Q E p _ j h
 |ask k l=>show λQ E p s j h=>l _ Q E p s j h
 |choose w m k l=>show λQ E p s j h=>{h.1,l _ Q E p _ j h.2}
 |os q _ k l=>show λQ E p s j h=>l _ Q E p _ j h
 |Vu c x _ _ k l=>show λQ E p s j y=>by let(r,s',z,h):=y;show{r,s',z,l r Q E p s' (aG j (wG z)) h}
 |YO A k l=>show λQ E p s j h=>l _ Q E p s j h
 |genState g k l=>show λQ E p s j B=>by let(st,hs,h):=B;show{st,hs,l _ Q E p s j h}
 |newGen c k l=>show λQ E p s j h=>l _ Q E p _ j h
 |resume g r _ k l=>show λQ E p s j C=>by let(D,s',F,h):=C;show{D,s',F,l D Q E p s' (aG j (FZ F)) h}
 |yield _ _ _ _=>show λQ E p s _ h=>h
 |stack k l=>show λQ E p s j h=>l _ Q E p s j h
 |fork _ _=>show λQ E p s _ h=>h
 |thread k l=>show λQ E p s j h=>l _ Q E p s j h
 |await _ _ _ _ _=>show λQ E p s _ h=>h
def NX {b:Type} {M:Model} {A:W8} {s:VI} {t:ZD b} {Q:b->VI->Prop} {E:VE->VI->Prop} {n:V9} (c:n<=s.V5.VJ.VA) (h:VO M A t Q E s):
    VO M A t (λa s'=>n<=s'.V5.VJ.VA/\Q a s') (λe s'=>n<=s'.V5.VJ.VA/\E e s') s:=λd p f=>NI M d n t _ _ p s c (h d p f)
def eV {b:Type} {M:Model} {A:W8} {s:VI} {t:ZD b} {Q:b->VI->Prop} {E:VE->VI->Prop}
    (h:VO M A t (λa s'=>s.V5.VJ.VA<=s'.V5.VJ.VA->Q a s') E s):VO M A t Q E s:=
 eN (NX (aM _) h) (λ_ _ x=>x.2 x.1) (λ_ _ x=>x.2)
variable {cM cX:Rho}
abbrev rC:V2 (Vm×V)->Vm->V->V2 (Vm×V)
 |[],k,v=>[(k,v)]
 |(x,u)::r,k,v=>if x=k then (x,v)::r else (x,u)::rC r k v
def qZ.YA {ι h name v rv e} (d:e.Yh=.Vn name (0:V9)\/∃t,e.Yh=.Vn name t) (f:e.YM=rv) (r:WV ι h v rv) {fs:V2 (Vm×V)}:∀{l:V2 XF},qZ ι h fs l->
    qZ ι h (rC fs name v) (match l.findIdx? (·.Yh.Zl name) with|V1 i=>l.modify i λe=>{e with YM:=rv}|V8=>l++[e]):=by
 induction fs with
 |VH=>
  intro l q;rw[q];obtain⟨t,d⟩:∃t,e.Yh=.Vn name t:=d.W2 (λh=>{_,h}) id;show{e,[],t,VC,d,(rwt r f),VC}
 |V4 p fs g=>
  intro l q;let(a,j,t,VC,k,b,q):=q;have g:=g q;have hk:(a.Yh.Zl name)=(p.1==name):=by rw[k];rfl
  rw[V2.findIdx?_cons,hk];clear d f hk;cases z:p.1==name with
  |V6=>
   rw[show rC (p::fs) name v=_ from Vw (VV.mp z)];show{_,j,t,VC,k,r,q}
  |V3=>
   rw[show rC (p::fs) name v=_ from Vd (Vz.mp z)];cases w:j.findIdx? (·.Yh.Zl name) with
   |V8=>rw[w] at g;show{a,_,t,VC,k,b,g}
   |V1 i=>rw[w] at g;show{a,_,t,VC,k,b,g}
def Jy {k:Vm} {v:V} (fs:V2 (Vm×V)):(rC fs k v).V0<=fs.V0+1:=by
 induction fs with
 |VH=>show aM _
 |V4 p r a=>
  change(if p.1=k then (p.1,v)::r else p::rC r k v).V0<=_;split
  .show dg _
  .show nN a
def qZ.V0 {ι h} {fs:V2 (Vm×V)}:∀{l:V2 XF},qZ ι h fs l->l.V0=fs.V0:=by
 induction fs with
 |VH=>intro l q;rw[q];rfl
 |V4 p fs d=>
  intro l q;let(a,e,t,VC,f,b,q):=q;show VN V9.Wh (d q)
abbrev KP (a:Zq) (C:Vc) (name:Vm):VS:=(UL a (.VG C) "__setattr__"==V1 (V1 (.Va "object.__setattr__")))&&plainOver a C&&(takerIn a C name==V1 V8)&&(clsIn a C).any (·.hasDict)
def JQ {A ι s} {a d:V9} {C x:Vc} {fs name v rv} (G:c.W6 ι M s.V5) (f:ι[a]?=V1 x) (ha:M[a]?=V1 (O.YH C d)) (g:M[d]?=V1 (.ns fs)) (r:WV ι s.V5 v rv) (j:KP c.K C name=V6) (hz:fs.V0<1000):
    GoD c A (setAttr (.VG x) name rv) ι s [] RU (M.Wb d (.ns (rC fs name v))):=λQ E q=>by
 let(l,o,u,m,y,B,I,D,F):=GR G ha g;rw[f] at y;cases y;apply ba4 j λH J L N=>?_;have H:=Xa H;have L:=Xa L;letI P:=Cx.K_in G;apply set_plain P I H ?_;obtain⟨R,e0⟩:∃R:VI,R={s with WJ:=s.WJ+1}:={_,VC};letI h0:R.V5=s.V5:=by show(VN _ (e0)).V7 rfl
 have sm:YT s R:=by rw[e0];show{VC,VC}
 rw[<-e0];rw[<-h0] at P I D F G r;have q:∀h' t,WQ [] ι R.V5 ι h'->c.W6 ι (M.Wb d (.ns (rC fs name v))) h'->Q () {R with V5:=h',WJ:=t}:=λh' t st S=>q ι {R with V5:=h',WJ:=t} () ((rwt st h0.Vh)) S {sm.Xq,sm.os} trivial;clear e0 h0;apply osa_open P I J L λb=>?_;let(T,U,W):=any_some N;apply aA (aD (aA (aA (wpAny_loadPart I.X8 (aA ((looks_clsIn P U).here ?_))))));rw[W];apply aD (a:=V1 o) (aA (aD (aA ?_)));apply aA (aA (jw (aD (aA (qF (aA (wpAny_loadPart D ?_)))))))
 letI X:aRefKeyMayBeTheName name u=V3:=by
  have z:u.any (·.refKey)=V3:=by rw[<-VW.any_toList];show(F.find name).2.2
  rw[aRefKeyMayBeTheName_at,z,VS.and_false]
 focus dsimp only
 rw[X,Vd (by show aO)];apply wpAny_updatePart D ?_
 clear X I;obtain⟨Y,Z,e1,e2⟩:∃Y Z,Bo name (mq c.w.X1 name) (.Vn name R.WJ) rv (Ao u m)=Ao Y Z/\
     Y.VD=(match u.VD.findIdx? (·.Yh.Zl name) with|V1 i=>u.VD.modify i λe=>{e with YM:=rv}|V8=>u.VD++[⟨mq c.w.X1 name,.Vn name R.WJ,rv⟩]):=by
  rw[Obj.putName_eq]
  focus unfold Obj.putNameByArray
  focus dsimp only
  have z:u.findIdx? (λe=>e.Yh.Zl name)=u.VD.findIdx? (λe=>e.Yh.Zl name):=by clear D F m;cases u;simp
  rw[z];cases w:u.VD.findIdx? (λe=>e.Yh.Zl name) with
  |V8=>show{_,_,VC,by simp}
  |V1 i=>show{_,_,VC,by simp}
 have hf:(Bo name (mq c.w.X1 name) (.Vn name R.WJ) rv (Ao u m)).isFreed=V3:=by rw[e1];rfl
 letI a0:=gn (h:=R.V5) (a:=o) (Bo name (mq c.w.X1 name) (.Vn name R.WJ) rv) D hf;rw[e1] at a0
 letI a1:∀{a2 h'},WQ [] ι R.V5 a2 h'->qZ a2 h' (rC fs name v) Y.VD:=λst=>by rw[e2];show qZ.YA (e:={mq c.w.X1 name,.Vn name R.WJ,rv}) (rv:=rv) (.Wt {_,VC}) rfl (r.up st) (F.WL st (λ_ q=>nomatch q))
 let(st,S):=G.Wb (o':=.ns (rC fs name v)) B (dN R.V5 o (Bo name (mq c.w.X1 name) (.Vn name R.WJ) rv)) λst=>{Y,Z,a0,a1 st}
 have hlen:Y.VA<1002:=by have h1:=(a1 st).V0;have h2:=Jy (k:=name) (v:=v) fs;rw[cA] at h1;show fG [{1,.a,.n 1000},{2,.b,.c},{0,.c,.p .a (.n 1)}] {1,.b,.n 1002} [1,1,1,0,1] [] tt hz h1 h2
 apply aA (wpAny_lookBehind a0 (pastItsLine_dict (by rw[bJ];show e9 [{1,.a,.n 1002}] {0,.a,.p (.n 16777216) (.n 1)} [1,1] [] tt hlen)) ?_);show aD (q _ _ st S)
set_option genCtorIdx true in
inductive Src where
 |VF (a i:V9)|Vj (xs:V2 V) (i:V9)|Xb (x left:Vo)|str (x:Vm) (i:V9)|XG (a:V9)
abbrev Src.mine:Src->VS
 | .XG _=>V6
 |_=>V3
abbrev xT (ι:V2 Vc) (h:WH):Src->Vc->Prop
 | .VF a i,I=>∃l,ι[a]?=V1 l/\h.IsListIter I l i
 | .Vj xs i,I=>∃t,WV ι h (.Vj xs) (.VG t)/\XE h I t i
 | .Xb x left,I=>IsRangeIter h I x left 1
 | .Vn x i,I=>∃t,h.IsStrIter I (pC x) x t i
 | .XG a,I=>ι[a]?=V1 I
structure Yo (c:Cx) (ι:V2 Vc) (h:WH) (k:Src) (I:Vc):Prop where
 X8:xT ι h k I
 YB:k.mine=V3->I∉ι/\c.B.VT I=V8/\∃o,h.VT I=V1 o
nonrec abbrev RO (v:VK V):V2 Vc->VI->VK VE->Prop:=λι s r=>match v,r with
 |V8,V8=>True
 |V1 v,V1 rv=>WV ι s.V5 v rv
 |_,_=>WY
def xT.noImm {ι h k I} (r:xT ι h k I) (m:k.mine=V3):i7 [I] h:=λb d o e=>by
 rw[aC.mp d] at e;cases k with
 |VF a i=>let(l,_,o',f,g,j):=r;rw[f] at e;cases e;unfold nK;rw[j,g];rfl
 |Vj xs i=>let(t,_,o',f,g,j):=r;rw[f] at e;cases e;unfold nK;rw[j,g];rfl
 |Xb x left=>have r:h.VT I=_:=r;rw[r] at e;cases e;rfl
 |str x i=>
  let(t,o',f,g,j):=r;rw[f] at e;cases e;unfold nK;rw[j];dsimp only;rw[g];unfold pC;split<;>rfl
 |XG a=>cases m
def xT.WL {F ι h ι' h' k I} (r:xT ι h k I) (s:WQ F ι h ι' h') (b:i7 F h) (e:k.mine=V3->∀o,h.VT I=V1 o->h'.VT I=V1 o):xT ι' h' k I:=by
 cases k with
 |VF a i=>let(l,d,o',f,g):=r;show{l,s.ZN d,o',e rfl _ f,g}
 |Vj xs i=>let(t,d,o',f,g):=r;show{t,d.WL s b,o',e rfl _ f,g}
 |Xb x left=>show e rfl _ r
 |str x i=>let(t,o',f,g):=r;show{t,o',e rfl _ f,g}
 |XG a=>show s.ZN r
def Yo.WL {F ι h ι' h' k I} (r:Yo c ι h k I) (s:WQ F ι h ι' h') (d:i7 F h) (no:k.mine=V3->I∉F):Yo c ι' h' k I:=
 ⟨r.X8.WL s d λm o e=>s.ext _ o e (r.YB m).1 (no m),λm=>by let(a,b,o,e):=r.YB m;show(fq (s.Ya e a) b ⟨o,s.ext _ o e a (no m)⟩)⟩
def Yo.thin {F ι h ι' h' k I} (r:Yo c ι h k I) (s:WQ (I::F) ι h ι' h') (d:i7 F h):∃G,WQ G ι h ι' h'/\i7 G h/\∀b∈G,b∈F\/b=I/\k.mine=V3:=by
 cases m:k.mine with
 |V6=>
  have hI:I∈ι:=by
   cases k with
   |XG a=>show aF r.X8
   |_=>cases m
  show g6 F {s.inc,s.VA,λb o e n k=>s.ext b o e n λq=>(aU.mp q).W2 (λz=>n ((rwt hI z))) k} d λb f=>.XB f
 |V3=>show g6 (I::F) s (λb f=>(aU.mp f).W2 (λz=>r.X8.noImm m b (by rw[z];show .WI _)) (d b)) λb f=>(aU.mp f).W2 (λz=>.Wt {z,VC}) .XB
def j4 {h:WH}:i7 [] h:=λ_ q=>(by cases q)
def Yo.rep {ι h ι' h' k I v rv} (r:Yo c ι h k I) (s:WQ [I] ι h ι' h') (x:WV ι h v rv):WV ι' h' v rv:=by let(_,a,b,_):=r.thin s j4;show x.WL a b
def Yo.YE {ι h ι' h' k I Vb} (r:Yo c ι h k I) (s:WQ [I] ι h ι' h') (L:Yu c ι h Vb ρ) (no:I∉dK Vb):Yu c ι' h' Vb ρ:=by
 let(G,a,b,d):=r.thin s j4;apply L.WL a (λx e=>?_) b;clear s r;rcases d x e with z|⟨VC,_⟩
 .cases z
 .show no
abbrev iy (c:Cx) (n:V9) (k:Src) (M:WC) (v:VK V) (k':Src) (M':WC):Prop:=
 ∀(A:W8) ι s I,Xl A n->c.W6 ι M s.V5->Yo c ι s.V5 k I->∀(Q:VK VE->VI->Prop) (E:VE->VI->Prop),
  (∀a s' r,WQ [I] ι s.V5 a s'.V5->c.W6 a M' s'.V5->YT s s'->RO v a s' r->(r.XZ=V6->Yo c a s'.V5 k' I)->Q r s')->VO c.M A (kg (.VG I)) Q E s
abbrev iz (c:Cx) (n:V9) (v:V) (M:WC) (k:Src) (M':WC):Prop:=
 ∀(A:W8) ι s ra,Xl A n->c.W6 ι M s.V5->WV ι s.V5 v ra->∀(Q:VE->VI->Prop) (E:VE->VI->Prop),
  (∀a s' I,WQ [] ι s.V5 a s'.V5->c.W6 a M' s'.V5->YT s s'->Yo c a s'.V5 k I->(k.mine=V3->s.V5.VT I=V8)->Q (.VG I) s')->VO c.M A (DT ra) Q E s
def gH {ι:V2 Vc} {h:WH} {a:V9} {xs:V2 V} (G:c.W6 ι M h) (ha:M[a]?=V1 (.VF xs)):∃x VL k,ι[a]?=V1 x/\h.VT x=V1 (kr VL k)/\cT ι h xs VL.VD:=by let(x,b,VL,k,d,e):=G.VJ a _ ha;show T5 x VL k b d e
def eG {h:WH} {x:Vc} {VL k} (e:h.VT x=V1 (kr VL k)):h.Zi x VL:={_,e,VC,k,VC}
def gg {h:WH} {x:Vc} {VL k} (e:h.VT x=V1 (iP VL k)):Zg h x VL:={_,e,VC,k,VC}
def wW {ι:V2 Vc} {h:WH} {a:V9} {I:Vc} {k:It} (G:c.W6 ι M h) (b:ι[a]?=V1 I) (ha:M[a]?=V1 (.it k)):Hr ι h k I:=by let(x,d,r):=G.VJ a _ ha;rw[b] at d;cases d;show r
def Yo.Zt {ι:V2 Vc} {h h':WH} {k k':Src} {I:Vc} (G:c.W6 ι M h) (H:Yo c ι h k I) (m:k.mine=V3) (ks:h.VJ.VA<=h'.VJ.VA) (hs:WH.ExtBut I h h'):
    WQ [I] ι h ι h'/\c.W6 ι M h':=G.frame ks (λb o e n=>hs b o (λz=>n (by simp[z])) e) (λb a=>by rw[aC.mp a];show(H.YB m).1) (λb a=>by rw[aC.mp a];show(H.YB m).2.1) (H.X8.noImm m)
def Yo.go {ι:V2 Vc} {h h':WH} {k k':Src} {I:Vc} (H:Yo c ι h k I) (m:k.mine=V3) (r:xT ι h' k' I) {o:Obj} (e:h'.VT I=V1 o):Yo c ι h' k' I:={r,λ_=>(fq (H.YB m).1 (H.YB m).2.1 {o,e})}
def iy.Zx {b i:V9} {xs:V2 V} {v:V} (a:M[b]?=V1 (.VF xs)) (hv:xs[i]?=V1 v):iy c n (.VF b i) M (V1 v) (.VF b (i+1)) M:=
 λA ι s I d G H Q E q=>by let(l,f,g):=H.X8;let(x,VL,k,j,m,p):=gH G a;rw[f] at j;cases j;let(rv,e,r):=p.ZN hv;apply wpAny_pyNext_list_item g (eG m) (by rw[<-aZ];show e) λh' t hs=>?_;let(st,u):=H.Zt (k':=.VF b (i+1)) G rfl (bX hs.1.Vh) hs.WT;let(o,w,_):=id t;show q _ _ _ st u ⟨VC,VC⟩ (H.rep st r) λ_=>H.go (h:=s.V5) rfl ⟨l,f,t⟩ w
def iy.listEnd {b i:V9} {xs:V2 V} {k'} (a:M[b]?=V1 (.VF xs)) (hv:xs[i]?=V8):iy c n (.VF b i) M V8 k' M:=
 λA ι s I d G H Q E q=>by
  let(l,e,f):=H.X8;let(x,VL,k,g,h,j):=gH G a;rw[e] at g;cases g;apply eV (wpAny_pyNext_list_end d.hd f (eG h) ?_ λh' hs ks=>?_)
  .rw[<-aZ,fC,j.V0];show fC.mp hv
  let(st,m):=H.Zt (k':=k') G rfl ks hs;show q _ _ _ st m {VC,VC} trivial (λz=>(by cases z))
def iy.tupItem {i:V9} {xs:V2 V} {v:V} (hv:xs[i]?=V1 v):iy c n (.Vj xs i) M (V1 v) (.Vj xs (i+1)) M:=
 λA ι s I a G H Q E q=>by let(t,b,d):=H.X8;have ht':=b;let(x,VL,k,e,no,f,g):=b;clear no;cases e;let(rv,e,r):=g.ZN hv;apply next_tuple_item d (gg f) (by rw[<-aZ];show e) λh' j hs=>?_;let(st,l):=H.Zt (k':=.Vj xs (i+1)) G rfl (bX hs.1.Vh) hs.WT;let(o,m,_):=id j;show q _ _ _ st l ⟨VC,VC⟩ (H.rep st r) λ_=>H.go (h:=s.V5) rfl ⟨t,H.rep st ht',j⟩ m
def iy.tupEnd {i:V9} {xs:V2 V} {k'} (hv:xs[i]?=V8):iy c n (.Vj xs i) M V8 k' M:=
 λA ι s I a G H Q E q=>by
  let(t,b,d):=H.X8;let(x,VL,k,e,no,f,g):=b;clear no;cases e;apply eV (next_tuple_end a.hd d (gg f) ?_ λh' hs ks=>?_)
  .rw[<-aZ,fC,g.V0];show fC.mp hv
  let(st,h):=H.Zt (k':=k') G rfl ks hs;show q _ _ _ st h {VC,VC} trivial (λz=>(by cases z))
def iy.rangeItem {x left:Vo} (hv:0<left):iy c n (.Xb x left) M (V1 (.Vl x)) (.Xb (x+1) (left-1)) M:=
 λA ι s I a G H Q E q=>by have it:IsRangeIter s.V5 I x left 1:=H.X8;apply wpAny_pyNext_range_item it hv λh' b hs=>?_;let(st,d):=H.Zt (k':=.Xb (x+1) (left-1)) G rfl (bX hs.1.Vh) hs.WT;show q _ _ _ st d ⟨VC,VC⟩ (show WV ι h' (.Vl x) (.Vl x s.WJ) by show⟨_,VC⟩) λ_=>H.go (h:=s.V5) rfl b b
def iy.rangeEnd {x left:Vo} {k'} (hv:left<=0):iy c n (.Xb x left) M V8 k' M:=
 λA ι s I a G H Q E q=>by have it:IsRangeIter s.V5 I x left 1:=H.X8;apply eV (wpAny_pyNext_range_end a.hd it hv λh' hs ks=>?_);let(st,b):=H.Zt (k':=k') G rfl ks hs;show q _ _ _ st b ⟨VC,VC⟩ trivial (λz=>(by cases z))
def iy.strItem {x:Vm} {i k:V9} (hv:x.cps[i]?=V1 k):iy c n (.Vn x i) M (V1 (.Vn {#[k]})) (.Vn x (i+1)) M:=
 λA ι s I a G H Q E q=>by
  let(t,b):=H.X8
  have XR:∀h',h'.IsStrIter I (pC x) x t (i+1)->WH.Xm I s.V5 h'->Q (V1 (.Vn {#[k]} s.WJ)) {s with V5:=h',WJ:=s.WJ+1}:=λh' d hs=>by let(st,e):=H.Zt (k':=.Vn x (i+1)) G rfl (bX hs.1.Vh) hs.WT;let(o,f,_):=id d;show q _ _ _ st e {VC,VC} (show WV ι h' (.Vn {#[k]}) (.Vn {#[k]} s.WJ) by show{_,VC}) λ_=>H.go (h:=s.V5) rfl {t,d} f
  unfold pC at b XR;split at b
  .rename_i z;rw[Vw z] at XR;show wpAny_pyNext_ascii_item b hv XR
  .rename_i z;rw[Vd z] at XR;show wpAny_pyNext_wide_item b hv XR
def iy.strEnd {x:Vm} {i:V9} {k'} (hv:x.cps[i]?=V8):iy c n (.Vn x i) M V8 k' M:=
 λA ι s I a G H Q E q=>by
  let(t,b):=H.X8;apply eV ?_
  have XR:∀h',WH.ExtBut I s.V5 h'->s.V5.VJ.VA<=h'.VJ.VA->Q V8 {s with V5:=h'}:=λh' hs ks=>by let(st,d):=H.Zt (k':=k') G rfl ks hs;show q _ _ _ st d {VC,VC} trivial (λz=>(by cases z))
  unfold pC at b;split at b
  .show wpAny_pyNext_ascii_end a.hd b hv XR
  .show wpAny_pyNext_wide_end a.hd b hv XR
def Yo.new {ι:V2 Vc} {h:WH} {k:Src} {ob:Obj} (G:c.W6 ι M h) (r:WQ [] ι h ι (h.Vp ob)->xT ι (h.Vp ob) k h.VJ.VA) (a:ob.isFreed=V3):
    WQ [] ι h ι (h.Vp ob)/\c.W6 ι M (h.Vp ob)/\Yo c ι (h.Vp ob) k h.VJ.VA:=by
 let(st,d):=G.YG (h':=h.Vp ob) (bZ kK) λb o e=>aJ _ e;apply fq st d {r st,λ_=>(fq (G.new (aM _)) ?_ {ob,aP _ a})};cases z:c.B.VT h.VJ.VA with
 |V8=>rfl
 |V1 o=>have:=G.X5 _ o z;rw[ku] at this;rw[this]
def iz.VF {a:V9} {xs:V2 V} (ha:M[a]?=V1 (.VF xs)):iz c n (.VG a) M (.VF a 0) M:=λA ι s b d G r Q E q=>by let(x,e,VC):=r;let(f,VL,k,g,h,i):=gH G ha;rw[e] at g;cases g;apply wpAny_pyIter_list (eG h) ?_;let(st,j,H):=Yo.new (k:=.VF a 0) (ob:={Z9:=.W5 "list_iterator",Xu:=.WG #[.VG x,.Vl 0 0]}) G (λst=>{x,st.ZN e,_,aP _ rfl,VC,VC}) rfl;show q _ _ _ st j {VC,VC} H λ_=>ku
def iz.Vj {xs:V2 V}:iz c n (.Vj xs) M (.Vj xs 0) M:=λA ι s a b G r Q E q=>by have r':=r;let(x,VL,k,VC,no,d,e):=r;apply wpAny_pyIter_tuple (gg d) ?_;let(st,f,H):=Yo.new (k:=.Vj xs 0) (ob:={Z9:=.W5 "tuple_iterator",Xu:=.WG #[.VG x,.Vl 0 0]}) G (λst=>{x,r'.up st,_,aP _ rfl,VC,VC}) rfl;show q _ _ _ st f {VC,VC} H λ_=>ku
def iz.Xb {lo hi:Vo} (hs:WA.Range.small lo hi 1=V6):iz c n (.Xb lo hi) M (.Xb lo (iN lo hi 1)) M:=λA ι s a b G r Q E q=>by let(x,t,u,v,VC,no,d):=r;apply wpAny_pyIter_range d hs ?_;let(st,e,H):=Yo.new (k:=.Xb lo (iN lo hi 1)) (ob:={Z9:=.W5 "range_iterator",Xu:=.WG #[jK lo,jK (iN lo hi 1),jK 1]}) G (λst=>aP _ rfl) rfl;show q _ _ _ st e {VC,VC} H λ_=>ku
def iz.Vn {x:Vm}:iz c n (.Vn x) M (.Vn x 0) M:=λA ι s a b G r Q E q=>by let(t,VC):=r;apply wpAny_pyIter_strU ?_;let(st,d,H):=Yo.new (k:=.Vn x 0) (ob:={Z9:=.W5 (pC x),Xu:=.WG #[.Vn x t,.Vl 0 0]}) G (λst=>{t,_,aP _ rfl,VC,VC}) rfl;show q _ _ _ st d {VC,VC} H λ_=>ku
def HG {k:Src} {A ι s I} (b:Xl A n) (H:Yo c ι s.V5 k I) (m:k.mine=V3) {Q:VE->VI->Prop} {E:VE->VI->Prop} (q:Q (.VG I) s):VO c.M A (DT (.VG I)) Q E s:=by
 cases k with
 |VF a i=>let(l,_,d):=H.X8;show wpAny_pyIter_listiter d q
 |Vj xs i=>let(t,_,d):=H.X8;show wpAny_pyIter_tupleiter d q
 |Xb x left=>have d:IsRangeIter s.V5 I x left 1:=H.X8;show wpAny_pyIter_rangeiter d q
 |str x i=>
  let(t,d):=H.X8;unfold pC at d;split at d
  .show wpAny_pyIter_striter_ascii d q
  .show wpAny_pyIter_striter_wide d q
 |XG a=>cases m
variable {UT:Rho} {cy:WC}
abbrev Hz (YE:VS) (Vb:Env):V2 Vc:=if YE then [Vb.Yv] else dK Vb
def wC {YE Vb}:∀b∈Hz YE Vb,b∈dK Vb:=by
 intro b a;unfold Hz at a;split at a
 .rw[aC.mp a];show .WI _
 .show a
abbrev GoU (c:Cx) (A:W8) (t:ZD Yn) (YE:VS) (Vb:Env) (ι:V2 Vc) (s:VI) (a:Rho) (M':WC):Prop:=
 ∀(Q:Yn->VI->Prop) (E:VE->VI->Prop),(∀b s',WQ (Hz YE Vb) ι s.V5 b s'.V5->c.W6 b M' s'.V5->YT s s'->Yu c b s'.V5 Vb a->Q () s')->VO c.M A t Q E s
abbrev xw (c:Cx) (n:V9) (sc:X6) (YE:VS) (t:Vi) (v:V) (ρ:Rho) (M:WC) (a:Rho) (M':WC):Prop:=
 ∀(A:W8) (Vb:Env) ι s rv,Xl A n->Vb.VU=sc->Yu c ι s.V5 Vb ρ->c.W6 ι M s.V5->WV ι s.V5 v rv->GoU c A (assign t Vb rv) YE Vb ι s a M'
abbrev AM (c:Cx) (n:V9) (sc:X6) (YE:VS) (ts:V2 Vi) (vs:V2 V) (ρ:Rho) (M:WC) (a:Rho) (M':WC):Prop:=
 ts.Z4 ig=V6/\ts.V0=vs.V0/\∀(A:W8) (Vb:Env) ι s rvs,Xl A n->Vb.VU=sc->Yu c ι s.V5 Vb ρ->c.W6 ι M s.V5->cT ι s.V5 vs rvs->GoU c A (Ay ((mX ts Vb).VP (·.2)) rvs) YE Vb ι s a M'
abbrev n5 (YE:VS) (sc:X6) (x:Vm):VS:=if YE then sc.Vv.VY x==V1 .Zk else kq sc x
def MC {A Vb ι s x v rv} (hs:Vb.VU=sc) (L:Yu c ι s.V5 Vb ρ) (G:c.W6 ι M s.V5) (r:WV ι s.V5 v rv) (f:sc.Vv.VY x=V1 .Zk) {Q:Yn->VI->Prop} {E:VE->VI->Prop}
    (q:∀g s',WQ [Vb.Yv] ι s.V5 g s'.V5->c.W6 g M s'.V5->YT s s'->Yu c g s'.V5 Vb ((x,v)::ρ)->Q () s'):VO c.M A (storeName Vb x rv) Q E s:=by
 letI h:Vb.XL x=V1 .Zk:=by rw[<-hs] at f;show f
 have hap:=L.apart;unfold dK at hap;rw[dJ] at hap;let(m,i,j):=L.ns;apply wpAny_storeName_local h i (λh' l t=>?_) (by rw[L.Y2];rfl);have Za:∀b o,s.V5.VT b=V1 o->b∉[Vb.Yv]->h'.VT b=V1 o:=λb o e z=>(t.2 b λy=>z (by simp[y])).V7 e
 let(st,B):=G.frame (F:=[Vb.Yv]) (bX t.1.Vh) Za (λb z=>by rw[aC.mp z];show(L.Zv _ (.WI _)).1)
  (λb z=>by rw[aC.mp z];show(L.Zv _ (.WI _)).2) (mK i)
 letI C:∀{y w},WV ι s.V5 y w->WV ι h' y w:=λz=>z.WL st (mK i);apply q ι _ st B {VC,VC} {L.Y2,L.Xo,L.blt,(aV _ l λy u e k=>?_),λy u e k=>?_,L.Zv,λp D=>?_,L.apart,L.Wp}
 .rw[bH] at e;split at e
  .rename_i z;cases e;show aV rv (by simp[VV.mp z]) (C r)
  .rename_i z
   let(H,I,J):=j y u e k;show aV H (by rw[Vd (by simpa using z)];show I) (C J)
 .rw[bH] at e;split at e
  .rename_i z;rw[VV.mp z] at k;show Vy h k
  .let(k',a,H,I,(o,J,e3),e4):=L.Yx y u e k;apply{k',a,H,I,{o,(t.2 a λz=>hap.1 ?_).V7 J,e3},C e4};show z▸(aK.WO (aV _ (Yu.WL.Wq I) rfl))
 .let(v,o,e,d):=L.X0 p D;show{v,o,(t.2 _ λz=>hap.1 (z▸aK.WO (aV p D rfl))).V7 e,d}
def Iw {A Vb ι s x v rv} {YE:VS} (hs:Vb.VU=sc) (L:Yu c ι s.V5 Vb ρ) (G:c.W6 ι M s.V5) (r:WV ι s.V5 v rv) (a:n5 YE sc x=V6):GoU c A (IP Vb x rv) YE Vb ι s ((x,v)::ρ) M:=λQ E q=>by
 apply aA (dz (Pw (aA ?_)));cases YE with
 |V6=>
  simp only[n5,if_true,VV] at a;show MC hs L G r a λb s' st d e f=>Pw (q b s' st d e f)
 |V3=>
  show Dv hs L G r a λb s' st d e f=>Pw (q b s' st d e f)
def xw.name {x:Vm} {WS v} {YE:VS} (a:n5 YE sc x=V6:=by kernel_rfl):xw c n sc YE (.Name x WS) v ρ M ((x,v)::ρ) M:=λA Vb ι s rv b hs L G r Q E q=>by change VO _ _ (uT _>>=λ_=>IP Vb x rv) _ _ _;show aA (gx (Iw hs L G r a Q E q))
def AM.VH {YE:VS}:AM c n sc YE [] [] ρ M ρ M:={VC,VC,λA Vb ι s a b hs L G r Q E q=>aD (q ι s .Vt G .Vt L)}
def Yu.noTupT {c:Cx} {ι h Vb ρ} (L:Yu c ι h Vb ρ) {YE:VS}:i7 (Hz YE Vb) h:=λb a=>L.Zw b (wC b a)
def AM.V4 {YE:VS} {t:Vi} {ts:V2 Vi} {v:V} {vs:V2 V} (h:xw c n sc YE t v ρ M cM aT) (k:AM c n sc YE ts vs cM aT cX bQ) (d:ig t=V6:=by rfl):AM c n sc YE (t::ts) (v::vs) ρ M cX bQ:=
 ⟨by simp only[jE,d,k.1,SN],by simp[k.2.1],λA Vb ι s f g hs L G r Q E q=>by
  let(rv,i,VC,a,b):=r;have e:mX (t::ts) Vb=(V3,assign t Vb)::mX ts Vb:=by clear h;cases t<;>first|rfl|cases d
  rw[e];change VO _ _ (GS i (assign t Vb rv)>>=λ_=>Ay ((mX ts Vb).VP (·.2)) i) _ _ _;apply aA (dz (h A Vb ι s rv g hs L G a _ _ λj l st m o p=>k.2.2 A Vb j l i g hs p m (b.WL st L.noTupT) Q E λu w x y z B=>q u w (st.V7 x) y (o.V7 z) B))⟩
abbrev qx (c:Cx) (n:V9) (v:V) (M:WC) (vs:V2 V) (M':WC):Prop:=
 ∀(A:W8) ι s rv,Xl A n->c.W6 ι M s.V5->WV ι s.V5 v rv->GoD c A (unpackItems rv vs.V0 V8) ι s [] (λa s' b=>cT a s'.V5 vs b) M'
def qx.Vj {vs:V2 V}:qx c n (.Vj vs) M vs M:=λA ι s rv a G r Q E q=>by
 let(x,VL,k,VC,no,d,f):=r;have e:vs.V0=VL.VA:=by rw[<-f.V0];simp
 rw[e];apply eV (unpackItems_tuple a.hd (gg d) λh' hs ks=>?_);have Za:∀b o,s.V5.VT b=V1 o->h'.VT b=V1 o:=λb o e=>hs b o (cK (bM e)) e;let(st,g):=G.YG ks Za;show q _ _ _ st g {VC,VC} (f.up st)
def qx.list2 {a:V9} {x y:V} (ha:M[a]?=V1 (.VF [x,y])):qx c n (.VG a) M [x,y] M:=λA ι s rv d G r Q E q=>by
 letI e:=r;let(l,f,VC):=r;let(g,VL,k,h,i,j):=gH G ha;rw[f] at h;cases h
 focus change VO _ _ (unpackItems (.VG l) 2 V8) _ _ _
 have N1:iy c n (.VF a 0) M (V1 x) (.VF a 1) M:=.Zx ha rfl;have N2:iy c n (.VF a 1) M (V1 y) (.VF a 2) M:=.Zx ha rfl;have N3:iy c n (.VF a 2) M V8 (.VF a 2) M:=.listEnd ha rfl;apply aA ?_;apply aA (mH (T:="list") (eG i).Yf F.slot_list_iter.VY ?_);apply aD ?_;apply aA (dz (iz.VF (n:=n) ha A ι s _ d G e _ _ λm s1 I o p t u w=>?_));apply aA (dz ?_);apply aA (N1 A m s1 I d p u _ _ λB C D H J K L N=>?_);cases D with
 |V8=>show L.W2
 |V1 P=>
 apply aA (dz (aA (N2 A B C I d J (N rfl) _ _ λR S U W X Y Z a0=>?_)));cases U with
 |V8=>show Z.W2
 |V1 a1=>
 apply aA (dz (aD (aD (aD ?_))))
 focus rw[Vd (by show e8 _)]
 apply aA (dz (N3 A R S I d X (a0 rfl) _ _ λa2 a3 a4 a5 a6 a7 a8 _=>?_));cases a4 with
 |V1 v=>show a8.W2
 |V8=>
 apply aD (q a2 a3 _ (((((o.W9 (G:=[I]) λ_ z=>(by cases z)).V7 H).V7 W).V7 a5).XV λb a9=>.Wt ?_) a6 (((t.V7 K).V7 Y).V7 a7) (.two ((a0 rfl).rep a5 ((N rfl).rep W (show WV B C.V5 x P from L))) ((a0 rfl).rep a5 (show WV R S.V5 y a1 from Z))));rw[aC.mp a9];show w rfl
def yi {t:Vi} {ts:V2 Vi} {Vb:Env} (h:ig t=V6):mX (t::ts) Vb=(V3,assign t Vb)::mX ts Vb:=by cases t<;>first|rfl|cases h
def xw.tuple {YE:VS} {ts:V2 Vi} {k WS} {v:V} {vs:V2 V} (a:qx c n v M vs aT) (h:AM c n sc YE ts vs ρ aT cX bQ):xw c n sc YE (.Yl ts k WS) v ρ M cX bQ:=λA Vb ι s rv b hs L G r Q E q=>by
 change VO _ _ (uT _>>=λ_=>unpack rv (mX ts Vb)) _ _ _;apply aA (gx ?_)
 focus unfold unpack
 have ef:∀ts:V2 Vi,ts.Z4 ig=V6->(mX ts Vb).findIdx? (·.1)=V8/\(mX ts Vb).V0=ts.V0:=λts h=>by
  induction ts with
  |VH=>show{VC,VC}
  |V4 t ts d=>
   simp only[jE,aN] at h;rw[yi h.1,V2.findIdx?_cons,(d h.2).1];show{VC,by simp[(d h.2).2]}
 rw[(ef ts h.1).1,(ef ts h.1).2,h.2.1];apply aA (dz (a A ι s rv b G r _ _ λe f g st i j l=>?_));show h.2.2 A Vb e f g b hs (L.XU st) i l Q E λm o p u w x=>q m o ((st.W9 λ_ q=>(by cases q)).V7 p) u (j.V7 w) x
end
section
variable {ρ':Rho} {M':Mem} {F:mG}
mutual open Nat
def O6 {A Vb} (hs:Vb.VU=sc):∀(Vv:V2 Vm) (vs:V2 V) (d:V2 VE) (ρ:Rho) ι s,Vv.Z4 (kq sc)=V6->Vv.V0=vs.V0->Yu c ι s.V5 Vb ρ->c.W6 ι M s.V5->cT ι s.V5 vs d->
    GoU c A (Ay (Vv.VP λx=>IP Vb x) d) V3 Vb ι s ((Vv.Y8 vs).Y5++ρ) M
 :=by
 intro Vv
 induction Vv with
 |VH=>
  intro vs d ρ ι s _ e L G r Q E q;clear r;obtain rfl:vs=[]:=dm e.Vh;show aD (q ι s .Vt G .Vt L)
 |V4 x Vv f=>
  intro vs d ρ ι s g e L G r Q E q
  obtain⟨v,vs,VC⟩:∃v h,vs=v::h:=by
   clear q Q r d;cases vs with
   |VH=>cases e
   |V4 v h=>show tR v h rfl
  let(rv,i,VC,a,b):=r;rw[jE,aN] at g;change VO _ _ (GS i (IP Vb x rv)>>=λ_=>Ay (Vv.VP λx=>IP Vb x) i) _ _ _;apply aA (dz (Iw (YE:=V3) hs L G a (by simpa[n5] using g.1) _ _ λj k st l m o=>?_));apply f vs i _ j k g.2 (by show gR (e)) o l (b.WL st L.noTupT) Q E λp t u w y z=>q p t (st.V7 u) w (m.V7 y) ?_
  simpa using z
def cT.Y5 {ι h} {xs:V2 V} {vs:V2 VE} (r:cT ι h xs vs):cT ι h xs.Y5 vs.Y5:=by
 induction xs generalizing vs with
 |VH=>rw[r];show .VH
 |V4 x xs d=>
  let(v,w,VC,a,b):=r;simp only[jL];show(d b).WX (.Ws a)
def NG {a b:Type}:∀{xs:V2 a} {ys:V2 b},xs.V0=ys.V0->xs.Y5.Y8 ys.Y5=(xs.Y8 ys).Y5:=λ{xs}=>by
 induction xs with
 |VH=>show λ_=>by rw[V2.reverse_nil,V2.zip_nil_left,V2.zip_nil_left];rfl
 |V4 x xs d=>
  intro ys h;cases ys with
  |VH=>cases h
  |V4 y ys=>
   have h':xs.V0=ys.V0:=by show gR (h)
   rw[jL,jL,V2.zip_append (by simpa using h'),d h'];simp
def Yy.assignTupleAt {ts:V2 Vi} {k tpos WS} {e:Vi} {Vb:Env} (h:dZ c n sc e ρ M λv aT=>∃cM bQ,xw c n sc V3 (.Yl ts k tpos) v ρ aT cM bQ/\F .Wo cM bQ)
    (a:lP e=V6) {z:jX [.Yl ts k tpos] e Vb=X3 V8} (A:W8) (b:Env) (ι s) (d:Xl A n) (hs:b.VU=sc) (f:b=Vb) (L:Yu c ι s.V5 b ρ) (G:c.W6 ι M s.V5):GoF c A (exec (.Assign [.Yl ts k tpos] e WS) b) b ι s F:=
 λQ E q=>by
  subst f
  show Assign_Tuple (Go.YE L (h A b ι s d hs L G) λg i rv aT st j l m o=>Xs o λv r o=>o2_2 o λcM bQ ha p=>
   ha A b g i rv d hs m j r _ _ λt u w x y B=>q t u _ .Wo cM bQ (st.V7 w) x (l.V7 y) B rfl p) ((show swapsWithSole [.Yl ts k tpos] e WS.line b=DS e (V1 (.Yl ts k tpos)) WS.line b from rfl).V7 (m8 a)) z
def Yy.assignSwapAt {ts:V2 Vi} {k tpos WS} {e:Vi} {Vv:V2 Vm} {Vb:Env} (h:dZ c n sc e ρ M λv aT=>∃vs,v=.Vj vs/\Vv.V0=vs.V0/\F .Wo (Vv.Y8 vs++ρ) aT)
    (a:Vv.Z4 (kq sc)=V6) (b:lP e=V6) {z:jX [.Yl ts k tpos] e Vb=X3 (V1 Vv)} (A:W8) (d:Env) (ι s) (f:Xl A n) (hs:d.VU=sc) (g:d=Vb) (L:Yu c ι s.V5 d ρ) (G:c.W6 ι M s.V5):GoF c A (exec (.Assign [.Yl ts k tpos] e WS) d) d ι s F:=
 λQ E q=>by
  subst g
  show Assign_Tuple_swapped (Vv:=Vv) (Go.YE L (h A d ι s f hs L G) λi j rv aT st l m o t=>by
   let(v,r,vs,u,w,p):=t;subst u;rw[w];apply qx.Vj (n:=n) A i j rv f l r _ _ λx y B C D H I=>?_;have AO:=o.XU C;apply O6 hs Vv.Y5 vs.Y5 B.Y5 ρ x y (by simpa using a) (by simpa using w) AO D I.Y5 _ _ λJ K N R S T=>?_;apply q J K _ .Wo _ aT ((st.V7 (C.W9 λ_ q=>nomatch q)).V7 N) R ((m.V7 H).V7 S) ?_ rfl p;rw[NG w,V2.reverse_reverse] at T;show T) ((show swapsWithSole [.Yl ts k tpos] e WS.line d=DS e (V1 (.Yl ts k tpos)) WS.line d from rfl).V7 (m8 b)) z
def Yy.assignAttr {o e:Vi} {name:Vm} {apos WS} (h:dZ c n sc e ρ M λv aT=>dZ c n sc o ρ aT λb bQ=>∃a d C fs,b=.VG a/\bQ[a]?=V1 (O.YH C d)/\bQ[d]?=V1 (.ns fs)/\KP c.K C name=V6/\fs.V0<1000/\F .Wo ρ (bQ.Wb d (.ns (rC fs name v))))
    (f:lP e=V6:=by rfl):Yy c n sc (.Assign [.Attribute o name apos] e WS) ρ M F:=
 λA Vb ι s g hs L G Q E q=>plainObj_wpAny_Assign_Attribute (Go.YE L (h A Vb ι s g hs L G) λi j rv aT st k l m t=>Xs t λv r u=>
  Go.YE m (u A Vb i j g hs m k) λw y z bQ B D H I t=>Xs t λb J t=>o4_6 t λa d C fs N ha R S hz p=>by
   clear t;clear t;subst N;let(x,T,VC):=J;have r2:WV w y.V5 v rv:=WV.WL B m.Zw r;show JQ D T ha R r2 S hz _ _ λU W _ X Y Z _=>q U W _ .Wo ρ _ ((st.V7 B).V7 (X.W9 λ_ q=>nomatch q)) Y ((l.V7 H).V7 Z) (I.XU X) rfl p) (m8 f)
def Yy.assignItem {o i e:Vi} {ipos WS} (h:dZ c n sc e ρ M λv aT=>dZ c n sc o ρ aT λa bQ=>dZ c n sc i ρ bQ λb cI=>uJ c n sd a b v cI (F .Wo ρ))
    (d:lP e=V6:=by rfl):Yy c n sc (.Assign [.Subscript o i ipos] e WS) ρ M F:=
 λA Vb ι s f hs L G Q E q=>wpAny_Assign_Subscript (Go.YE L (h A Vb ι s f hs L G) λg j rv aT st k l m t=>Xs t λv r u=>
  Go.YE m (u A Vb g j f hs m k) λw x y bQ z B C D t=>Xs t λa H hi=>
   Go.YE D (hi A Vb w x f hs D B) λI J K cI N R S T t=>Xs t λb U W=>
    Go.YE T (W A I J y K rv f R (WV.WL N D.Zw H) U (WV.WL N D.Zw (WV.WL z m.Zw r))) λX Y _ cy Z a0 a1 a2 p=>
     q X Y _ .Wo ρ cy (((st.V7 z).V7 N).V7 Z) a0 (((l.V7 C).V7 S).V7 a1) a2 rfl p) (m8 d)
abbrev qD (c:Cx) (n:V9) (t:Vi) (k:Src) (M:WC) (v:VK V) (k':Src) (M':WC):Prop:=
 ∀(A:W8) ι s I,Xl A n->c.W6 ι M s.V5->Yo c ι s.V5 k I->∀(Qn:VI->Prop) (Qs:VE->VI->Prop) (E E':VE->VI->Prop),
  (∀a s' r,WQ [I] ι s.V5 a s'.V5->c.W6 a M' s'.V5->YT s s'->RO v a s' r->(r.XZ=V6->Yo c a s'.V5 k' I)->match r with|V8=>Qn s'|V1 rv=>Qs rv s')->
  VO c.M A (kg (.VG I)) (λr b=>match r with|V8=>Qn b|V1 rv=>VO c.M A (FP t (.VG I) rv) (λ_ d=>Qs rv d) E' b) E s
def qD.use {t:Vi} {k k':Src} {v:VK V} (h:qD c n t k M v k' M') {A:W8} {ι s I} (a:Xl A n) (G:c.W6 ι M s.V5) (H:Yo c ι s.V5 k I) {P:VK VE->VI->Prop} {Qn:VI->Prop} {Qs:VE->VI->Prop} {E E':VE->VI->Prop}
    (b:∀d,Qn d->P V8 d) (hs:∀rv d,VO c.M A (FP t (.VG I) rv) (λ_ e=>Qs rv e) E' d->P (V1 rv) d)
    (q:∀f s' r,WQ [I] ι s.V5 f s'.V5->c.W6 f M' s'.V5->YT s s'->RO v f s' r->(r.XZ=V6->Yo c f s'.V5 k' I)->match r with|V8=>Qn s'|V1 rv=>Qs rv s'):VO c.M A (kg (.VG I)) P E s:=
 eN (h A ι s I a G H Qn Qs E E' q) (λr d z=>by cases r with|V8=>show b d z|V1 rv=>show hs rv d z) (λ_ _ z=>z)
def qD.name {x:Vm} {WS} {k k'} {v} (h:iy c n k M v k' M'):qD c n (.Name x WS) k M v k' M':=λA ι s I a G H Qn Qs E E' q=>
 h A ι s I a G H _ _ λb d r st e f g H'=>by
  have:=q _ _ _ st e f g H';clear H' g;cases r with
  |V8=>show this
  |V1 rv=>show aD this
def qD.V8 {t:Vi} {k k'} (h:iy c n k M V8 k' M'):qD c n t k M V8 k' M':=λA ι s I a G H Qn Qs E E' q=>
 h A ι s I a G H _ _ λb d r st e f g H'=>by
  cases r with
  |V8=>show q _ _ _ st e f g H'
  |V1 rv=>show g.W2
def qD.tupL {ts:V2 Vi} {x WS} {k:Src} {b i:V9} {v:V} (h:iy c n k M (V1 v) (.VF b i) M'):qD c n (.Yl ts x WS) k M (V1 v) (.VF b i) M':=λA ι s I a G H Qn Qs E E' q=>
 h A ι s I a G H _ _ λd e r st f g j H'=>by
  cases r with
  |V8=>show j.W2
  |V1 rv=>
   letI XR:=q _ _ _ st f g j H';clear j;let(l,m,o):=(H' rfl).X8;clear H';cases rv with
   |VG T=>show wpAny_letOwnedTupleGo_listiter o XR
   |_=>show aD XR
abbrev x7 (c:Cx) (n:V9) (sc:X6) (t:Vi) (WK:V2 Y7) (k:Src) (ρ:Rho) (M:WC) (F:mG):Prop:=
 ∀(A:W8) (Vb:Env) ι s I,Xl A n->Vb.VU=sc->Yu c ι s.V5 Vb ρ->c.W6 ι M s.V5->Yo c ι s.V5 k I->I∉dK Vb->∀(R:Result->VI->Prop),
  (∀a s' f b ρ' M',WQ (I::dK Vb) ι s.V5 a s'.V5->c.W6 a M' s'.V5->YT s s'->Yu c a s'.V5 Vb ρ'->Sw a s'.V5 b f->F b ρ' M'->R (.ok f) s')->jq c.M A (.forLoop t (.VG I) WK [] Vb) R s
def Af {A:W8} {t:Vi} {a:VE} {WK:V2 Y7} {Vb:Env} {R:Result->VI->Prop} {s:VI}
    (h:VO c.M A (kg a) (λr b=>match r with
     |V8=>VO c.M A (execs [] Vb) (λf d=>R (.ok f) d) (BY c.M A Vb λe s'=>R (.error e) s') b
     |V1 v=>VO c.M A (FP t a v) (λ_ g=>
        VO c.M A (xU t Vb v) (λ_ i=>VO c.M A (execs WK Vb) (λf d=>match f with
         | .Wo| .cont=>jq c.M A (.forLoop t a WK [] Vb) R d
         | .brk=>R (.ok .Wo) d
         | .XC v=>R (.ok (.XC v)) d) (BY c.M A Vb λe s'=>R (.error e) s') i) (BY c.M A Vb λe s'=>R (.error e) s') g) (BY c.M A Vb λe s'=>R (.error e) s') b) (BY c.M A Vb λe s'=>R (.error e) s') s):
    jq c.M A (.forLoop t a WK [] Vb) R s:=by
 apply jT ?_
 focus rw[show A.under (.forLoop t a WK [] Vb)=A from mD rfl]
 change VO _ A ((forTurn t a WK [] Vb).onRaise (λx=>do DV x Vb;u6 x)) _ _ s;apply D3 ?_;apply aA (gx (aA (yZ (eN h (λr b j=>?_) λ_ _ h'=>gx h'))));cases r with
 |V8=>show aD {VC,codeAny_block j}
 |V1 v=>
  apply aA (eN j (λ_ g k=>?_) λ_ _ h'=>h');apply aA (eN k (λ_ i l=>aA (eN l (λf d m=>?_) λ_ _ h'=>h')) λ_ _ h'=>h');cases f with
  |next=>show aD {VC,m}
  |cont=>show aD {VC,m}
  |brk=>show aD m
  |XC v=>show aD m
def x7.YS {t:Vi} {WK:V2 Y7} {k k':Src} (a:qD c n t k M V8 k' M') (p:F .Wo ρ M'):x7 c n sc t WK k ρ M F:=λA Vb ι s I d hs L G H no R q=>
 Af (a.use d G H (λe z=>z) (λrv e z=>z) λf g r h i j l _=>by
  cases r with
  |V1 rv=>show l.W2
  |V8=>show aD (q f g .Wo .Wo ρ M' (h.W9 λb z=>by rw[aC.mp z];show .WI _) i j (H.YE h L no) rfl p))
abbrev SS (c:Cx) (n:V9) (sc:X6) (t:Vi) (WK:V2 Y7) (k:Src) (F:mG):mG:=λa ρ M=>match a with
 | .Wo=>x7 c n sc t WK k ρ M F
 | .cont=>x7 c n sc t WK k ρ M F
 | .brk=>F .Wo ρ M
 | .XC v=>F (.XC v) ρ M
def x7.WL {t:Vi} {WK:V2 Y7} {k k':Src} {v:V} (a:qD c n t k M (V1 v) k' aT) (ha:xw c n sc V3 t v ρ aT cM bQ) (d:uN c n sc WK cM bQ (SS c n sc t WK k' F)):x7 c n sc t WK k ρ M F:=λA Vb ι s I e hs L G H no R q=>
 Af (a.use e G H (λf z=>z) (λrv f z=>z) λg h r i j l m o=>by
  cases r with
  |V8=>show m.W2
  |V1 rv=>
   letI u:=H.YE i L no;apply ha A Vb g h rv e hs u j m _ _ λw x y B C D=>d A Vb w x e hs D B _ _ λE J K N Q S T U W X rf p=>?_;have H5:=(((o rfl).WL (y.W9 wC) u.Zw λ_=>no).WL T D.Zw λ_=>no);letI st:WQ (I::dK Vb) ι s.V5 E J.V5:=((i.W9 (G:=I::dK Vb) λb z=>by rw[aC.mp z];show .WI _).V7 (y.W9 λb z=>.XW _ (wC b z))).V7 (T.W9 λb z=>.XW _ z);letI Y:=(l.V7 C).V7 W;cases N with
   |next=>rw[rf];show p A Vb E J I e hs X U H5 no R λZ a0 a1 a2 a3 a4 a5 a6 a7 a8 a9 aa=>q Z a0 a1 a2 a3 a4 (st.V7 a5) a6 (Y.V7 a7) a8 a9 aa
   |cont=>rw[rf];show p A Vb E J I e hs X U H5 no R λZ a0 a1 a2 a3 a4 a5 a6 a7 a8 a9 aa=>q Z a0 a1 a2 a3 a4 (st.V7 a5) a6 (Y.V7 a7) a8 a9 aa
   |brk=>rw[rf];show q E J .Wo .Wo Q S st U Y X rfl p
   |XC v=>
    have rf':=rf;let(rv,VC,_):=rf;show q E J _ (.XC v) Q S st U Y X rf' p)
def Yo.Zv {ι h k I Vb} (H:Yo c ι h k I) (L:Yu c ι h Vb ρ) (d:k.mine=V3->∀b∈dK Vb,b≠I):I∉dK Vb:=λz=>by
 cases m:k.mine with
 |V3=>show d m I z rfl
 |V6=>
  clear d;cases k with
  |XG a=>show(L.Zv I z).1 (aF H.X8)
  |_=>cases m
def Yy.for {t d:Vi} {WK:V2 Y7} {WS} (h:dZ c n sc d ρ M λx aT=>∃k bQ,iz c n x aT k bQ/\x7 c n sc t WK k ρ bQ F)
    (g:∀Vb x,sy d Vb x=X3 x:=by intro _ _;rfl):Yy c n sc (.For t d WK [] WS) ρ M F:=
 λA Vb ι s i hs L G Q E q=>wpAny_For (Go.YE L (h A Vb ι s i hs L G) λj l u aT st v y B C=>Xs C λx r C=>o2_2 C λk bQ hi ZH=>
  hi A j l u i v r _ _ λD J I K N R H S=>by
   have no:I∉dK Vb:=H.Zv (B.XU K) λm b T z=>by let(o,e):=B.live T;rw[z,S m] at e;cases e
   apply ZH A Vb D J I i hs (B.XU K) N H no _ λU W f X Y Z a0 a1 a2 a3 a4 p=>q U W f X Y Z (st.V7 ?_) a1 ((y.V7 R).V7 a2) a3 a4 p;clear ZH hi;cases m:k.mine with
   |V3=>show((K.W9 (G:=I::dK Vb) λ_ q=>nomatch q).V7 a0).XV λb T=>(aU.mp T).W2 (λz=>.Wt (z▸S m)) .XB
   |V6=>
    have hI:I∈D:=by
     clear S;cases k with
     |XG a=>show aF H.X8
     |_=>cases m
    show(K.W9 (G:=dK Vb) λ_ q=>nomatch q).V7 {a0.inc,a0.VA,λb o e n k=>a0.ext b o e n λz=>(aU.mp z).W2 (λw=>n ((rwt hI w))) k}) (g Vb)
abbrev tH (c:Cx) (n:V9) (sc:X6) (t:Vi) (WK:V2 Y7) (ρ:Rho) (M:WC) (F:mG):Prop:=
 ∀(A:W8) (Vb:Env) ι s,Xl A n->Vb.VU=sc->Yu c ι s.V5 Vb ρ->c.W6 ι M s.V5->∀(R:Result->VI->Prop),
  (∀a s' f b ρ' M',WQ (dK Vb) ι s.V5 a s'.V5->c.W6 a M' s'.V5->YT s s'->Yu c a s'.V5 Vb ρ'->Sw a s'.V5 b f->F b ρ' M'->R (.ok f) s')->jq c.M A (.whileLoop t WK [] Vb) R s
abbrev Rd (c:Cx) (n:V9) (sc:X6) (t:Vi) (WK:V2 Y7) (F:mG):mG:=λa ρ M=>match a with
 | .Wo=>tH c n sc t WK ρ M F
 | .cont=>tH c n sc t WK ρ M F
 | .brk=>F .Wo ρ M
 | .XC v=>F (.XC v) ρ M
def tH.Zt {t:Vi} {WK:V2 Y7} (h:kZ c n sc t ρ M λb aT=>if b then uN c n sc WK ρ aT (Rd c n sc t WK F) else F .Wo ρ aT):tH c n sc t WK ρ M F:=λA Vb ι s a hs L G R q=>by
 apply jT ?_
 focus rw[show A.under (.whileLoop t WK [] Vb)=A from mD rfl]
 change VO _ A ((whileTurn t WK [] Vb).onRaise (λx=>do DV x Vb;u6 x)) _ _ s;apply D3 ?_;apply aA (Go.YE L (h A Vb ι s a hs L G) λd e b aT f g i j k=>?_);cases b with
 |V3=>
  show aA (aD (aD (q d e .Wo .Wo ρ aT f g i j rfl k)))
 |V6=>
  apply aA (k A Vb d e a hs j g _ _ λl m o r u w y z B C rf p=>?_);letI st:=f.V7 y;letI D:=i.V7 B;cases r with
  |next=>rw[rf];show aD (p7 rfl (p A Vb l m a hs C z R λE H I J K N Q S T U W X=>q E H I J K N (st.V7 Q) S (D.V7 T) U W X))
  |cont=>rw[rf];show aD (p7 rfl (p A Vb l m a hs C z R λE H I J K N Q S T U W X=>q E H I J K N (st.V7 Q) S (D.V7 T) U W X))
  |brk=>rw[rf];show aD (q l m .Wo .Wo u w st z D C rfl p)
  |XC v=>
   have rf':=rf;let(rv,VC,_):=rf;show aD (q l m _ (.XC v) u w st z D C rf' p)
def Yy.while {t:Vi} {WK:V2 Y7} {WS} (h:tH c n sc t WK ρ M F):Yy c n sc (.While t WK [] WS) ρ M F:=
 λA Vb ι s a hs L G Q E q=>wpAny_While (h A Vb ι s a hs L G _ λb d f e g i j k l m o p=>q b d f e g i j k l m o p)
end
end
section
variable {ρ':Rho} {M':Mem} {F:mG}
mutual open Nat
def vV {ι:V2 Vc} {c l:Vc} (h:c∉ι) (k:c≠l):c∉ι++[l]:=λq=>(aW.mp q).W2 h λq=>k (aC.mp q)
def mW {ι:V2 Vc} {a:V9} {c l:Vc} (e:ι[a]?=V1 c):(ι++[l])[a]?=V1 c:=by let(h,_):=aB.mp e;rw[bV h];show e
end
section
variable {ι:List Addr} {h:Heap} {l:Addr} {ob:Obj} (hl:h.get? l=some ob) (im:nK ob=false)
mutual open Nat
include hl im
def Si {c:Vc} {o:Obj} (g:h.VT c=V1 o) (i:nK o=V6):c≠l:=λz=>by rw[z,hl] at g;cases g;rw[im] at i;cases i
def Cy:Carry ι ι (ι++[l]) h h:={λ_ _ _ _ e=>mW e,λ_ _ i no g=>{vV no (Si hl im g i),g}}
def cT.Zd {xs:V2 V} {vs:V2 VE} (r:cT ι h xs vs):cT (ι++[l]) h xs vs:=r.VP (Cy hl im) r
def kD.Zd {w o} {c:Vc} (r:kD w ι h o c):kD w (ι++[l]) h o c:=r.VP (Cy hl im) (λ_ g=>g) r
def W6.Zd {o:O} (G:c.W6 ι M h) (no:l∉ι) (d:c.B.VT l=V8) (r:kD c.w ι h o l):c.W6 (ι++[l]) (M++[o]) h:=by
 apply{G.X5,λb f=>(aW.mp f).W2 (G.Zv b) λz=>by rw[aC.mp z];show d,by simp[G.Wz],?_,λb f=>(aW.mp f).W2 (G.lt b) λz=>by rw[aC.mp z];show bM hl,λa o' g=>?_}
 .apply fL.WO (fq G.nd (by show W1 rfl) λa ha b f e=>no ?_);rw[aC.mp f] at e;show(rwt ha e.Vh)
 .rw[fS] at g;split at g
  .let(x,i,q):=G.VJ a o' g;show aV x (mW i) (q.Zd hl im)
  .have:a-M.V0=0:=by
     cases z:a-M.V0 with
     |WM=>rfl
     |Wh m=>rw[z] at g;cases g
   rw[this] at g;simp only[l0,iE] at g;subst g;apply aV l ?_ (r.Zd hl im);have z:a=ι.V0:=by rw[G.Wz];show Ox [_,_] [] (by assumption) this
   rw[z];show eK
end
end
mutual open Nat
def WQ.Zd {F ι h ι' h'} {l:Vc} (s:WQ F ι h ι' h') (no:l∉ι') (a:h.VJ.VA<=l):WQ F ι h (ι'++[l]) h':=by let(e,VC,b):=s.inc;apply{(aV (e++[l]) (by show(aR ..)) λc d=>(aW.mp d).W2 (b c) λz=>?_),s.VA,s.ext};rw[aC.mp z];show{λq=>no (cU _ q),a}
structure Acc (c:Cx) (ι:V2 Vc) (h:WH) (ys:V2 V) (l:Vc):Prop where
 no:l∉ι
 Zv:c.B.VT l=V8
 X8:∃VL k,h.VT l=V1 (kr VL k)/\cT ι h ys VL.VD
def Acc.Zw {ι h ys l} (a:Acc c ι h ys l):i7 [l] h:=λb d o e=>by let(VL,k,g,_):=a.X8;rw[aC.mp d,g] at e;cases e;rfl
def Acc.WL {F ι h ι' h' ys l} (a:Acc c ι h ys l) (s:WQ F ι h ι' h') (b:i7 F h) (no:l∉F):Acc c ι' h' ys l:=by let(VL,k,g,r):=a.X8;show{s.Ya g a.no,a.Zv,VL,k,s.ext _ _ g a.no no,r.WL s b}
def JR {A ι s} {l:Vc} {xs:V2 V} {v:V} {rv:VE} (G:c.W6 ι M s.V5) (a:Acc c ι s.V5 xs l) (r:WV ι s.V5 v rv) (hz:xs.V0<=cE) {Q:VE->VI->Prop} {E:VE->VI->Prop}
    (q:∀s',WQ [l] ι s.V5 ι s'.V5->c.W6 ι M s'.V5->YT s s'->Acc c ι s'.V5 (xs++[v]) l->Q .V8 s'):VO c.M A (Vu (.Va "list.append") [.VG l,rv]) Q E s:=by let(VL,k,d,f):=a.X8;apply wpAny_list_append_plain ⟨k,d⟩ (λh' g hs=>o1_1 g λk' h=>?_) (by rw[<-cA,f.V0];show hz);let(st,i):=G.frame (F:=[l]) (bX hs.1.Vh) (λb o e z=>(hs.2 b λy=>z (by simp[y])).V7 e) (λb j=>by rw[aC.mp j];show a.no) (λb j=>by rw[aC.mp j];show a.Zv) a.Zw;show q _ st i ⟨VC,VC⟩ ⟨a.no,a.Zv,_,k',h,by rw[eL];show(f.WL st a.Zw).WX (.Ws (r.WL st a.Zw))⟩
def ME {A ι s} {a:V9} {l:Vc} {xs:V2 V} {v:V} {rv:VE} (G:c.W6 ι M s.V5) (b:ι[a]?=V1 l) (ha:M[a]?=V1 (.VF xs)) (r:WV ι s.V5 v rv) (hz:xs.V0<=cE):
    GoD c A (Vu (.Va "list.append") [.VG l,rv]) ι s [] (RV .V8) (M.Wb a (.VF (xs++[v]))):=λQ E q=>by let(x,VL,k,d,e,f):=gH G ha;rw[b] at d;cases d;apply wpAny_list_append_plain ⟨k,e⟩ (λh' g hs=>o1_1 g λk' h=>?_) (by rw[<-cA,f.V0];show hz);let(st,i):=G.Wb (o':=.VF (xs++[v])) b hs λst=>⟨_,k',h,by rw[eL];show(f.up st).WX (.Ws (r.up st))⟩;show q _ _ _ st i ⟨VC,VC⟩ rfl
abbrev CF (c:Cx) (n:V9) (sc:X6) (a:V2 Vi) (ρ:Rho) (M:WC) (d:VS->WC->Prop):Prop:=
 ∀(A:W8) (Vb:Env) ι s,Xl A n->Vb.VU=sc->Yu c ι s.V5 Vb ρ->c.W6 ι M s.V5->
  Go c A (forIn a V6 λc r=>if r=V6 then do let e <-Im c Vb (eval c Vb);X3 (Y4.yield e) else X3 (Y4.yield r)) ι s [] (λ_ _ b M'=>d b M')
def CF.VH {a:VS->WC->Prop} (p:a V6 M):CF c n sc [] ρ M a:=λA Vb ι s b hs L G Q E q=>by rw[pZ];show aD (q ι s V6 M .Vt G .Vt p)
def CF.Ws {e:Vi} {a:VS->WC->Prop} (h:kZ c n sc e ρ M a):CF c n sc [e] ρ M a:=λA Vb ι s b hs L G Q E q=>by
 focus rw[Bu]
 apply aA ?_
 focus rw[Vw rfl]
 apply aA (h A Vb ι s b hs L G _ _ λd f r aT st g i e=>aD ?_)
 focus dsimp only
 focus rw[pZ]
 show aD (q d f r aT st g i e)
nonrec abbrev IV:=V2 V->Rho->WC->Prop
nonrec abbrev t8 (Vb:Env) (I l:Vc):V2 Vc:=[Vb.Yv,I,l]
abbrev lu (c:Cx) (n:V9) (sc:X6) (a:Vi) (b:V2 WR) (VU:X6) (WS:Pos) (d:V9) (k:Src) (ys:V2 V) (ρ:Rho) (M:WC) (C:IV):Prop:=
 ∀(A:W8) (e:Env) ι s I l,Xl A n->e.VU=sc->Yu c ι s.V5 e ρ->c.W6 ι M s.V5->Yo c ι s.V5 k I->Acc c ι s.V5 ys l->I∉dK e->l∉dK e->l≠I->∀(R:Result->VI->Prop),
  (∀f s' ρ' M' g,WQ (t8 e I l) ι s.V5 f s'.V5->c.W6 f M' s'.V5->YT s s'->Yu c f s'.V5 e ρ'->Acc c f s'.V5 g l->C g ρ' M'->R (.ok .Wo) s')->jq c.M A (.compLoop (.XS a b VU WS) d (.VG I) (.VG l) e) R s
def xw.use {t:Vi} {v:V} (h:xw c n sc V6 t v ρ M ρ' M') {A Vb ι s rv} (a:Xl A n) (hs:Vb.VU=sc) (L:Yu c ι s.V5 Vb ρ) (G:c.W6 ι M s.V5) (r:WV ι s.V5 v rv) {Q:Yn->VI->Prop} {E:VE->VI->Prop}
    (q:∀b s',WQ [Vb.Yv] ι s.V5 b s'.V5->c.W6 b M' s'.V5->YT s s'->Yu c b s'.V5 Vb ρ'->Q () s'):VO c.M A (xU t Vb rv) Q E s:=h A Vb ι s rv a hs L G r Q E q
variable {ZI:Vi} {Xq:V2 WR} {VU:X6} {WS:Pos} {d:V9} {C:IV}
def zc {A:W8} {d:V9} {a b:VE} {Vb:Env}:A.under (.compLoop (.XS ZI Xq VU WS) d a b Vb)=A:=mD rfl
def D8 {A:W8} {d:V9} {a b:VE} {Vb:Env}:A.under (.compStart (.XS ZI Xq VU WS) d a b Vb)=A:=mD rfl
def Z8 {Vb:Env} {I l:Vc}:∀b∈[I],b∈t8 Vb I l:=λb z=>by rw[aC.mp z];show .XW _ (.WI _)
def inL {Vb:Env} {I l:Vc}:∀b∈[Vb.Yv],b∈t8 Vb I l:=λb z=>by rw[aC.mp z];show .WI _
def inA {Vb:Env} {I l:Vc}:∀b∈[l],b∈t8 Vb I l:=λb z=>by rw[aC.mp z];show .XW _ (.XW _ (.WI _))
def in0 {F:V2 Vc}:∀b∈([]:V2 Vc),b∈F:=λ_ z=>nomatch z
def qT {ι h Vb} (L:Yu c ι h Vb ρ):i7 [Vb.Yv] h:=λb a=>L.Zw b (by rw[aC.mp a];show .WI _)
def B7 {Vb:Env} {I:Vc} (no:I∉dK Vb):I∉[Vb.Yv]:=λz=>no (by rw[aC.mp z];show .WI _)
def lu.YS {g:WR} {k k':Src} {ys:V2 V} (a:Xq[d]?=V1 g) (ha:g.Zy=0) (b:qD c n g.target k M V8 k' M') (p:C ys ρ M'):lu c n sc ZI Xq VU WS d k ys ρ M C:=by
 intro A e ι s I l h hs L G H i j m o R q;apply jT ?_;change VO _ _ ((Q7 (.XS ZI Xq VU WS) d (.VG I) (.VG l) e).onRaise (λx=>do DV x e;u6 x)) _ _ s
 focus rw[zc]
 apply D3 ?_;let(t,u,v,w):=g;cases ha
 focus unfold Q7
 focus dsimp only
 rw[a];apply aA (gx (aA ?_));apply b.use h G H (Qn:=λs=>_) (Qs:=λrv s=>WY) (E':=λ_ _=>WY) (λy z=>aD z) (λrv y z=>aA (eN z (λ_ _ f=>f.W2) λ_ _ f=>f.W2)) λB s1 r D E J K _=>?_;cases r with
 |V1 rv=>show K.W2
 |V8=>
  let(F,N,Q,S):=H.thin D j4;show q B s1 ρ M' ys (D.W9 Z8) E J (H.YE D L j) (i.WL N Q λz=>(S l z).W2 (λz=>nomatch z) λz=>o z.1) p
def lu.WL {g:WR} {k k':Src} {ys:V2 V} {v:V} (a:Xq[d]?=V1 g) (ha:g.Zy=0) (h:qD c n g.target k M (V1 v) k' aT) (j:xw c n sc V6 g.target v ρ aT cM bQ) (hz:ys.V0<=cE)
    (hi:CF c n sc g.ifs cM bQ λb cI=>if b then (match Xq[d+1]? with
     |V8=>dZ c n sc ZI cM cI λu cy=>lu c n sc ZI Xq VU WS d k' (ys++[u]) cM cy C
     |V1 p=>p.Zy=0/\(∀Vb x,sy p.iter Vb x=X3 x)/\dZ c n sc p.iter cM cI λx cy=>∃b t,b.mine=V3/\iz c n x cy b t/\
        lu c n sc ZI Xq VU WS (d+1) b ys cM t λw cX y=>lu c n sc ZI Xq VU WS d k' w cX y C)
     else lu c n sc ZI Xq VU WS d k' ys cM cI C):lu c n sc ZI Xq VU WS d k ys ρ M C:=by
 intro A B ι s I l D hs L G H E K N Q R q;apply jT ?_;change VO _ _ ((Q7 (.XS ZI Xq VU WS) d (.VG I) (.VG l) B).onRaise (λx=>do DV x B;u6 x)) _ _ s
 focus rw[zc]
 apply D3 ?_;let(S,T,U,W):=g;cases ha
 focus unfold Q7
 focus dsimp only
 rw[a];apply aA (gx (aA ?_));apply h.use D G H (Qn:=λs=>WY) (λX z=>z.W2) (λrv X z=>aA z) λY s1 r Z a0 a1 a2 a3=>?_;cases r with
 |V8=>show a2.W2
 |V1 rv=>
  let(F,a4,a5,a6):=H.thin Z j4;have acc1:Acc c Y s1.V5 ys l:=E.WL a4 a5 λz=>(a6 l z).W2 (λz=>nomatch z) λz=>Q z.1;letI a7:=H.YE Z L K;apply aA (j A B Y s1 rv D hs a7 a0 a2 _ _ λa8 a9 aa ab ac ad=>aA (hi A B a8 a9 D hs ad ab _ _ λae af b cI ag ah ai aj=>?_));have aa:WQ [B.Yv] Y s1.V5 a8 a9.V5:=aa;dsimp only at aj;have ak:=ad.XU ag;letI al:=((a3 rfl).WL aa (qT a7) λ_=>B7 K).WL ag j4 λ_ z=>nomatch z
  letI am:=(acc1.WL aa (qT a7) (B7 N)).WL ag j4 λz=>nomatch z
  letI an:WQ (t8 B I l) ι s.V5 ae af.V5:=((Z.W9 Z8).V7 (aa.W9 inL)).V7 (ag.W9 in0);letI ao:=(a1.V7 ac).V7 ai;cases b with
  |V3=>
   rw[Vd (by(first|show aO|decide))] at aj⊢;apply aD (p7 rfl (aj A B ae af I l D hs ak ah al am K N Q R λap aq ar as au av aw ax ay az b0=>?_));show q ap aq ar as au (an.V7 av) aw (ao.V7 ax) ay az b0
  |V6=>
   rw[Vw rfl] at aj⊢;cases hd:Xq[d+1]? with
   |V8=>
    rw[hd] at aj;apply aA (aA (aj A B ae af D hs ak ah _ _ λap aq b1 cy av aw ax b2=>Xs b2 λu b3 b4=>aA (JR aw (am.WL av j4 λz=>nomatch z) b3 hz λb5 b6 b7 b8 b9=>aD ?_)));have ba:i7 [l] aq.V5:=(am.WL av j4 λz=>nomatch z).Zw;letI bb:∀b∈[l],b∉dK B:=λb bc=>by rw[aC.mp bc];show N
    letI bd:I∉[l]:=λz=>Q (aC.mp z).Vh;apply aD (p7 rfl (b4 A B ap b5 I l D hs ((ak.XU av).WL b6 bb ba) b7 ((al.WL av j4 λ_ z=>nomatch z).WL b6 ba λ_=>bd) b9 K N Q R λbe bf bg bh bi bj bk bl bm bn bo=>?_));show q be bf bg bh bi (an.V7 (((av.W9 in0).V7 (b6.W9 inA)).V7 bj)) bk (ao.V7 ((ax.V7 b8).V7 bl)) bm bn bo
   |V1 p=>
    rw[hd] at aj;let(bp,bq,br):=aj;apply aA (br A B ae af D hs ak ah _ _ λap aq b1 cy av aw ax b2=>Xs b2 λx b3 b2=>o2_3 b2 λb t bs bt bu=>aA (gx ?_));letI bv:(p.Zy !=0)=V3:=by rw[bp];rfl
    simp only[bv,lW,if_false];rw[bq B b1];apply aA (aD (aA (dz (bt A ap aq b1 D aw b3 _ _ λbw b5 J b6 b7 b8 bx bz=>?_))));letI ay:=ak.XU av;letI c0:=ay.XU b6;letI c1:=am.WL av j4 λz=>nomatch z
    letI c2:=c1.WL b6 j4 λz=>nomatch z
    letI c3:=al.WL av j4 λ_ z=>nomatch z
    have HI5:=c3.WL b6 j4 λ_ z=>nomatch z
    have noJ:J∉dK B:=λz=>by let(o,e):=ay.live z;rw[bz bs] at e;cases e
    have neJ:l≠J:=λz=>by let(i,k,g,_):=c1.X8;rw[z,bz bs] at g;cases g
    letI c4:k'.mine=V3->I≠J:=λm z=>by let(_,_,o,e):=c3.YB m;rw[z,bz bs] at e;cases e
    apply aA (wpAny_runOwn ?_)
    focus rw[D.mark]
    letI c5:jq c.M A (.compLoop (.XS ZI Xq VU WS) (d+1) (.VG J) (.VG l) B) (λr s'=>match r with
      | .ok f=>VO c.M A (again (.compLoop (.XS ZI Xq VU WS) d (.VG I) (.VG l) B)) (λXR s'=>match XR with| .YS f=>R (.ok f) s'| .again c6=>c6.quiet=V6/\jq c.M A c6 R s') (BY c.M A B λe s'=>R (.error e) s') s'
      | .error e=>WY) b5:=by
     apply bu A B bw b5 J l D hs c0 b7 bx c2 noJ N neJ _ λc7 c8 c9 ca cb cc cd ce cf cg ch=>?_
     have nT:i7 (t8 B J l) b5.V5:=λb bc=>by
      clear cc c4 neJ noJ bz;rcases aU.mp bc with rfl|bc
      .show qT c0 _ (.WI _)
      rcases aU.mp bc with rfl|bc
      .show bx.X8.noImm bs _ (.WI _)
      .show c2.Zw b bc
     have ci:=HI5.WL cc nT λm z=>by
      rcases aU.mp z with z|z
      .show K (z▸.WI _)
      rcases aU.mp z with z|z
      .show c4 m z
      .show Q (aC.mp z).Vh
     apply aD (p7 rfl (ch A B c7 c8 I l D hs cf cd ci cg K N Q R λcj ck cl cm co cp cq cr cs ct cu=>?_))
     have st57:WQ (t8 B I l) ap aq.V5 c7 c8.V5:=(((b6.W9 (G:=J::t8 B I l) in0).V7 (cc.W9 λb bc=>by
      clear nT bx;clear cc c4 neJ noJ bz;rcases aU.mp bc with rfl|bc
      .show .XW _ (.WI _)
      rcases aU.mp bc with rfl|bc
      .show .WI _
      .rw[aC.mp bc];simp))).XV λb bc=>(aU.mp bc).W2 (λz=>.Wt (z▸bz bs)) .XB
     show q cj ck cl cm co (an.V7 (((av.W9 in0).V7 st57).V7 cp)) cq (ao.V7 (((ax.V7 b8).V7 ce).V7 cr)) cs ct cu
    apply uV (R:=λr s'=>match r with
        | .ok f=>VO c.M A (again (.compLoop (.XS ZI Xq VU WS) d (.VG I) (.VG l) B)) (λXR s'=>match XR with| .YS f=>R (.ok f) s'| .again c6=>c6.quiet=V6/\jq c.M A c6 R s') (BY c.M A B λe s'=>R (.error e) s') s'
        | .error e=>WY) ?_ λr s' z=>by cases r with|ok f=>show z|error e=>show z.W2
    apply jT ?_;change VO _ _ ((compStart (.XS ZI Xq VU WS) (d+1) (.VG J) (.VG l) B).onRaise (λx=>do DV x B;uT theWindowsPlace)) _ _ _
    focus rw[D8]
    apply wpAny_notedAt ?_
    focus unfold compStart
    have k1:((clausesOf (.XS ZI Xq VU WS))[d+1]?).W2 V3 (·.Zy !=0)=V3:=by
     focus change(Xq[d+1]?).W2 V3 _=V3
     rw[hd];show bv
    rw[k1,Vd (by show aO)];apply aA (jw (wpAny_ite ?_));split
    .first
       |show aA (aD (aD (p7 rfl c5)))
       |show aD (p7 rfl c5)
    .have e2:(clausesOf (.XS ZI Xq VU WS))[d+1]?=V1 p:=hd;rw[e2];show aA (g5 (aA (gx (aA (HG D bx bs (aD (p7 rfl c5)))))))
end
end
variable {ρ':Rho} {M':Mem}
mutual open Nat
abbrev lC (X0:V2 (Vm×Vc)) (l:V2 (Vm×YU)):V2 (Vm×Vc):=((l.X2 λx=>x.2==.Yd).VP λx=>(x.1,(X0.VY x.1).Wn 0)).Y5
def GW {X0:V2 (Vm×Vc)} {f:Vm×YU->V2 (Vm×Vc)->ZD (Y4 (V2 (Vm×Vc)))} {l:V2 (Vm×YU)}:∀{a:V2 (Vm×Vc)},
    (∀x∈l,∀r,f x r=X3 (.yield (if (x.2==.Yd)=V6 then (x.1,(X0.VY x.1).Wn 0)::r else r)))->forIn l a f=X3 (lC X0 l++a):=by
 induction l with
 |VH=>intro a _;rw[pZ];rfl
 |V4 x l b=>
  intro a h;rw[Bu,h x (.WI _),pure_bind];apply(b λy d=>h y (.XW _ d)).V7 (VN X3 ?_);unfold lC;cases hk:x.2==.Yd with
  |V6=>rw[l6 (p:=λx:Vm×YU=>x.2==.Yd) hk,bT,jL,aR];rfl
  |V3=>rw[l7 (p:=λx:Vm×YU=>x.2==.Yd) (hk▸aO)];rfl
def Au {VU:X6} {Vb:Env} (h:∀x∈VU.Vv,x.2=.Yd->(Vb.X0.VY x.1).XZ=V6):IJ VU Vb=X3 (lC Vb.X0 VU.Vv):=by
 focus unfold IJ
 apply(VN (λt:ZD (V2 (Vm×Vc))=>t>>=X3) (GW (X0:=Vb.X0) λx b r=>?_)).V7 (by rw[pure_bind,cJ]);cases hk:x.2==.Yd with
 |V6=>
  let(a,ha):=gX.mp (h x b (VV.mp hk));rw[Vw rfl,ha];have e:cellOf Vb x.1=X3 a:=by unfold cellOf;rw[ha]
  show(Vw hk).V7 (by rw[e];rfl)
 |V3=>show Vd (hk▸aO)
def Cw {X0:V2 (Vm×Vc)} {l:V2 (Vm×YU)} {p:Vm×Vc} (h:p∈lC X0 l):(p.1,.Yd)∈l/\p.2=(X0.VY p.1).Wn 0:=by let(x,a,VC):=aK.mp (V2.mem_reverse.mp h);let(m,k):=oQ.mp a;show{by rw[<-VV.mp k];show m,VC}
def xP {X0:V2 (Vm×Vc)} {l:V2 (Vm×YU)}:(lC X0 l).VP (·.1)=((l.X2 λx=>x.2==.Yd).VP (·.1)).Y5:=by unfold lC;rw[V2.map_reverse,cB];rfl
abbrev nh (VU sc:X6):X6:={VU with Vv:=VU.Vv.VP λ(n,k)=>if (k==.Yd&&sc.Y2==.ZE&&sc.Vv.VY n==V1 .Yx) then (n,.Yx) else (n,k)}
abbrev wY (VU sc:X6):VS:=
 VU.Y2==.ZE&&kT (VU.Vv.VP (·.1))&&VU.Vv.Z4 (λx=>x.2 !=.Yx)&&VU.Vv.Z4 (λx=>x.2 !=.Yd||sc.Vv.VY x.1==V1 .Yx)
abbrev pM (VU:X6) (ρ:Rho):Rho:=ρ.X2 λp=>VU.Vv.VY p.1==V1 .Yd
def pI {d f:Type} [BEq d] [LawfulBEq d] {x:d} {a:f}:∀{l:V2 (d×f)},l.VY x=V1 a->(x,a)∈l:=by
 intro g
 induction g with
 |VH=>
  intro e;simp at e
 |V4 h r i=>
  have y:=h.1;have b:=h.2;intro e;rw[bH] at e;split at e
  .rename_i q;clear i;cases e;rw[VV.mp q];show .WI _
  .show .XW _ (i e)
def rG {a:Type} {cs:V2 (Vm×a)} {n:Vm} {c:a} (b:(cs.VP (·.1)).WF) (d:(n,c)∈cs):cs.VY n=V1 c:=by
 induction cs with
 |VH=>cases d
 |V4 p cs f=>
  have b:=dJ.mp b;rw[bH];rcases aU.mp d with e|d
  .rw[<-e,Wk]
  .rw[Vz.WO λ(e:n=p.1)=>b.1 (aK.WO (aV (n,c) d e))];show f b.2 d
def yf {f:Vm->YU->YU} {x:Vm} (l:V2 (Vm×YU)):(l.VP λ(p:Vm×YU)=>(p.1,f p.1 p.2)).VY x=(l.VY x).VP (f x):=by
 induction l with
 |VH=>rfl
 |V4 p r a=>
  rw[bT,bH,bH,a];cases h:x==p.1 with
  |V6=>rw[VV.mp h];rfl
  |V3=>rfl
def ou {VU sc:X6} {x:Vm}:(nh VU sc).Vv.VY x=(VU.Vv.VY x).VP λk=>if (k==.Yd&&sc.Y2==.ZE&&sc.Vv.VY x==V1 .Yx) then .Yx else k:=by
 have:=yf (f:=λn k=>if (k==.Yd&&sc.Y2==.ZE&&sc.Vv.VY n==V1 .Yx) then .Yx else k) (x:=x) VU.Vv;rw[<-this]
 focus unfold nh
 focus dsimp only
 congr 1
 apply cL λp _=>?_;let(n,k):=p
 focus dsimp only
 split<;>rfl
def sD {VU:X6} {x:Vm} {v:V}:∀{ρ:Rho},(pM VU ρ).VY x=V1 v->ρ.VY x=V1 v/\VU.Vv.VY x=V1 .Yd:=by
 intro d
 induction d with
 |VH=>
  intro e;simp[pM] at e
 |V4 f r g=>
  let(y,u):=f;intro e;unfold pM at e;rw[bH];cases hk:VU.Vv.VY y==V1 .Yd with
  |V6=>
   rw[l6 (p:=λp:Vm×V=>VU.Vv.VY p.1==V1 .Yd) hk,bH] at e;cases q:x==y with
   |V6=>
    rw[q] at e;show{e,VV.mp (VV.mp q▸hk)}
   |V3=>rw[q] at e;show g e
  |V3=>
   rw[l7 (p:=λp:Vm×V=>VU.Vv.VY p.1==V1 .Yd) (hk▸aO)] at e;let(a,b):=g e;apply{?_,b};rw[Vz.WO λ(q:x=y)=>Vz.mp hk (q▸b)];show a
def Pf {VU:X6} {Vb:Env} {ι h C} (hs:Vb.VU=sc) (L:Yu c ι h Vb ρ) (d:wY VU sc=V6) (f:h.Ns C λ_=>V8) (g:C∉ι) (i:c.B.VT C=V8) (j:C∉dK Vb):
    IJ VU Vb=X3 (lC Vb.X0 VU.Vv)/\Yu c ι h (Ct VU (lC Vb.X0 VU.Vv) C Vb) (pM VU ρ):=by
 unfold wY at d;simp only[aN,ek,VV,bne_iff_ne,gM,ne_eq] at d;let(((k1,k2),k3),k4):=d;have nd:=oA k2
 letI l:∀x∈VU.Vv,x.2=.Yd->(Vb.X0.VY x.1).XZ=V6:=λx o r=>by
  rcases k4 x o with z|z
  .show Vy r (by simpa using z)
  .let(a,ha):=L.Wp x.1 (by rw[<-hs] at z;show z);rw[ha];rfl
 letI s:∀p∈lC Vb.X0 VU.Vv,(p.1,.Yd)∈VU.Vv/\Vb.X0.VY p.1=V1 p.2:=λp t=>by let(q,e):=Cw t;let(a,ha):=gX.mp (l _ q rfl);rw[ha] at e;show{q,by rw[ha,e];rfl}
 letI u:((lC Vb.X0 VU.Vv).VP (·.1)).WF:=by rw[xP];have z:((VU.Vv.X2 λx=>x.2==.Yd).VP (·.1)).WF:=(V2.Sublist.VP _ V2.filter_sublist).nodup nd;rw[iG,V2.pairwise_reverse];show(iG.mp z).imp λh=>fP h
 letI w:∀x,VU.Vv.VY x=V1 .Yd->∃a,(lC Vb.X0 VU.Vv).VY x=V1 a/\Vb.X0.VY x=V1 a:=λx o=>by
  have m:=pI o
  letI:x∈(lC Vb.X0 VU.Vv).VP (·.1):=by rw[xP];show V2.mem_reverse.WO<|aK.WO (aV (x,.Yd) (oQ.WO {m,VC}) rfl)
  clear m o;let(p,t,VC):=aK.mp this;show aV p.2 (rG u t) (s p t).2
 letI y:∀p∈lC Vb.X0 VU.Vv,p.2∈dK Vb:=λp t=>bN _ (aK.WO (aV _ (Yu.WL.Wq (s p t).2) rfl));have hap:=L.apart;unfold dK at hap;rw[dJ] at hap;apply{Au l,{k1,L.Xo,L.blt,(aV _ f λx v e k=>?_),λx v e k=>?_,λb A=>?_,λp t=>?_,?_,λx k=>?_}}
 .let(D,E):=sD e;exfalso;have k:(nh VU Vb.VU).Vv.VY x=V1 .Zk:=k;rw[ou,E] at k;simp only[iM,iE] at k;split at k<;>cases k
 .let(D,E):=sD e
  letI F:sc.Vv.VY x=V1 .Yx:=by
   rcases k4 _ (pI E) with z|z
   .show Vy rfl z
   .show z
  have hsc':Vb.XL x=V1 .Yx:=by rw[<-hs] at F;show F
  let(_,a,rv,G,H,I):=L.Yx x v D (by rw[hsc'];decide);let(J,K,N):=w x E;rw[G] at N;cases N;apply{?_,a,rv,K,H,I}
  focus change(nh VU Vb.VU).Vv.VY x=V1 .Yx
  rw[ou,E];letI P:Vb.VU.Y2=.ZE:=L.Y2;simp only[iM,iE];rw[Vw];rw[P,hs,F];rfl
 .clear j f;rcases aU.mp A with rfl|A
  .show{g,i}
  .let(p,t,VC):=aK.mp A;show L.Zv _ (y p t)
 .show L.X0 _ (Yu.WL.Wq (s p t).2)
 .apply dJ.WO {λz=>?_,?_}
  .let(p,t,z):=aK.mp z;show j ((show p.2=C from z)▸y p t)
  .focus change((lC Vb.X0 VU.Vv).VP (·.2)).WF
   rw[iG,iR];apply V2.Pairwise.imp_of_mem ?_ (iR.mp (iG.mp u));intro p q t Q R e;apply R (HE hap.2 (Yu.WL.Wq (s p t).2) ?_);rw[e];show Yu.WL.Wq (s q Q).2
 .letI k:(nh VU Vb.VU).Vv.VY x=V1 .Yx:=k;rw[ou] at k;let(kd,D,E):=fz.mp k
  letI r:kd=.Yd:=by
   split at E
   .rename_i z
    simp only[aN,VV] at z;show z.1.1
   .subst E;show Vy rfl (k3 _ (pI D))
  clear E;subst r;let(a,G,_):=w x D;show{a,G}
abbrev qA (c:Cx) (n:V9) (k:Src) (M:WC):Prop:=∀(A:W8) ι s I,Xl A n->c.W6 ι M s.V5->Yo c ι s.V5 k I->∀(Q:VE->VI->Prop) (E:VE->VI->Prop),Q (.VG I) s->VO c.M A (DT (.VG I)) Q E s
def qA.YB {k:Src} (m:k.mine=V3):qA c n k M:=λA ι s I a G H Q E q=>HG a H m q
def EZ {a:Vi} {g:WR} {b:V2 WR} {VU:X6} {WS:Pos} {k:Src} {ys:V2 V} {A:W8} {d:Env} {ι s I l} {C:IV} (ZH:lu c n sc a (g::b) VU WS 0 k ys ρ M C) (ha:g.Zy=0) (e:qA c n k M)
    (f:Xl A n) (hs:d.VU=sc) (L:Yu c ι s.V5 d ρ) (G:c.W6 ι M s.V5) (H:Yo c ι s.V5 k I) (h:Acc c ι s.V5 ys l) (i:I∉dK d) (j:l∉dK d) (m:l≠I) (R:Result->VI->Prop)
    (q:∀o s' ρ' M' p,WQ (t8 d I l) ι s.V5 o s'.V5->c.W6 o M' s'.V5->YT s s'->Yu c o s'.V5 d ρ'->Acc c o s'.V5 p l->C p ρ' M'->R (.ok .Wo) s'):
    jq c.M A (.compStart (.XS a (g::b) VU WS) 0 (.VG I) (.VG l) d) R s:=by let(t,r,u,v):=g;subst ha;show codeAny_compStart_list (ZH A d ι s I l f hs L G H h i j m R q) (e A ι s I f G H _ _ (ZH A d ι s I l f hs L G H h i j m R q))
abbrev uO (c:Cx) (n:V9) (sc:X6) (a:Vi) (g:WR) (b:V2 WR) (VU:X6) (WS:Pos) (ρ:Rho) (M:WC) (P:dQ):Prop:=
 g.Zy=0/\(∀Vb x,sy g.iter Vb x=X3 x)/\wY VU sc=V6/\dZ c n sc g.iter ρ M λx aT=>∃k bQ,iz c n x aT k bQ/\qA c n k bQ/\
  lu c n (nh VU sc) a (g::b) VU WS 0 k [] (pM VU ρ) bQ λys _ M'=>P (.VG M'.V0) (M'++[.VF ys])
def MD {d:Vi} {g:WR} {f:V2 WR} {VU:X6} {WS:Pos} {A:W8} {Vb:Env} {ι s} {use:VK (VE->ZD Yn)} {Q:VE->VI->Prop} {E:VE->VI->Prop}
    (i:uO c n sc d g f VU WS ρ M P)
    (j:Xl A n) (hs:Vb.VU=sc) (L:Yu c ι s.V5 Vb ρ) (G:c.W6 ι M s.V5)
    (q:∀l s' C a r m M',WQ [C] ι s.V5 l s'.V5->s.V5.VT C=V8->C∉l->c.B.VT C=V8->C∉dK Vb->c.W6 l M' s'.V5->YT s s'->l[a]?=V1 r->P (.VG a) M'->s'.V5.Ns C m->compPost c.M A E use Q (.VG r) C (.ok .Wo) s'):
    VO c.M A (comprehension (.XS d (g::f) VU WS) VU Vb (firstIterPos (g::f) WS) (TR []) V3 (eval g.iter Vb) use) Q E s:=by
 let(ha,t,u,h):=i;have hk':=u;unfold wY at u;simp only[aN,ek,VV,bne_iff_ne,gM,ne_eq] at u;let(((k1,k2),k3),k4):=u
 have hclos:IJ VU Vb=X3 (lC Vb.X0 VU.Vv):=Au λy v t=>by
  rcases k4 y v with z|z
  .show Vy t (by simpa using z)
  .let(a,ha):=L.Wp y.1 (by rw[<-hs] at z;show z);rw[ha];rfl
 apply wpAny_comprehension_free rfl (t Vb) hclos k1 (λy v e=>rG (oA k2) (by rw[<-e];show v)) ?_;apply h A Vb ι s j hs L G _ _ λD s1 F aT H J K N=>Xs N λx R N=>o2_3 N λk bQ hi S ZH=>hi A D s1 F j J R _ _ λT U I W X Y Z a0=>?_;have kp:∀b o,U.V5.VT b=V1 o->(U.V5.Vp (kr #[] 0)).VT b=V1 o:=λb o e=>aJ _ e;clear hi;let(a1,a2):=X.YG (bZ kK) kp;apply e7 ?_ (dP _)
 have a3:Acc c T (U.V5.Vp (kr #[] 0)) [] U.V5.VJ.VA:=by
  apply{X.new (aM _),?_,#[],0,aP _ rfl,.VH};cases z:c.B.VT U.V5.VJ.VA with
  |V8=>rfl
  |V1 o=>have:=X.X5 _ o z;rw[ku] at this;cases this
 letI a5:=Z.WL a1 j4 λ_ z=>nomatch z
 have L2:=(L.XU H).XU W;obtain⟨a6,e3⟩:∃a6:VI,a6={U with V5:=U.V5.Vp (kr #[] 0)}:={_,VC};letI a7:a6.V5=U.V5.Vp (kr #[] 0):=by show VN _ (e3)
 have sm3:YT U a6:=by rw[e3];show{VC,VC}
 focus change VO c.M A _ _ _ {U with V5:=U.V5.Vp (kr #[] 0)}
 rw[<-e3];rw[<-a7] at a1 a2 a3 a5;apply wpAny_newFunctionEnv (λy v=>by simpa using k3 y v) (by intro y v;show(fY v).W2) (λa8 a9 aa=>?_) k1;have a9:a8.Ns a6.V5.VJ.VA (λ_=>V8):=a9;letI ab:=L2.XU a1;letI ac:∀b o,a6.V5.VT b=V1 o->a8.VT b=V1 o:=λb o e=>aa.WT b o (cK (bM e)) (aJ _ e);have ks:a6.V5.VJ.VA<=a8.VJ.VA:=by have:=aa.1;rw[dH] at this;show dX [{2,.a,.p .b (.n 1)}] {0,.b,.a} [1,0,1] [] tt this
 let(ad,ae):=a2.YG ks ac;have L4:=ab.XU ad
 letI lt4:∀b∈dK Vb,b<a6.V5.VJ.VA:=λb af=>by let(o,e):=ab.live af;show bM e
 have lv2:∀b∈dK Vb,∃o,s1.V5.VT b=V1 o:=λb af=>(L.XU H).live af;have hCι:a6.V5.VJ.VA∉T:=a2.new (aM _)
 letI ag:c.B.VT a6.V5.VJ.VA=V8:=by
  cases z:c.B.VT a6.V5.VJ.VA with
  |V8=>rfl
  |V1 o=>have:=a2.X5 _ o z;rw[ku] at this;cases this
 have hCf:a6.V5.VJ.VA∉dK Vb:=λz=>e8 _ (lt4 _ z);let(_,ah):=Pf (VU:=VU) (C:=a6.V5.VJ.VA) hs L4 hk' a9 hCι ag hCf;have hsC:(Ct VU (lC Vb.X0 VU.Vv) a6.V5.VJ.VA Vb).VU=nh VU sc:=by rw[<-hs];rfl
 have hl3:U.V5.VJ.VA<a6.V5.VJ.VA:=by rw[a7];show kK
 have inF:∀b∈dK (Ct VU (lC Vb.X0 VU.Vv) a6.V5.VJ.VA Vb),b=a6.V5.VJ.VA\/b∈dK Vb:=λb af=>by
  rcases aU.mp af with rfl|af
  .show .XB rfl
  .let(p,ai,VC):=aK.mp af;let(z,e):=Cw ai;right;have hz:=k4 _ z;rcases hz with hz|hz
   .show Vy rfl hz
   .let(a,ha):=L.Wp p.1 (by rw[<-hs] at hz;show hz);rw[ha] at e;rw[e];show bN _ (aK.WO (aV _ (Yu.WL.Wq ha) rfl))
 have noI0:I∉dK Vb:=Z.Zv L2 λm b af z=>by let(o,e):=lv2 b af;rw[z,a0 m] at e;cases e
 have ltI:I<a6.V5.VJ.VA:=by
  clear a0 Z ZH S;cases m:k.mine with
  |V3=>let(_,_,o,e):=a5.YB m;show bM e
  |V6=>
   cases k with
   |XG a=>show a2.lt I (aF a5.X8)
   |_=>cases m
 have noI:I∉dK (Ct VU (lC Vb.X0 VU.Vv) a6.V5.VJ.VA Vb):=λz=>(inF I z).W2 (λz=>e8 _ (z▸ltI)) noI0
 have nol0:U.V5.VJ.VA∉dK Vb:=λz=>by let(o,e):=L2.live z;show Vy (bM e) (e8 _)
 have nol:U.V5.VJ.VA∉dK (Ct VU (lC Vb.X0 VU.Vv) a6.V5.VJ.VA Vb):=λz=>(inF _ z).W2 (λz=>e8 _ (z▸hl3)) nol0
 have ne:U.V5.VJ.VA≠I:=λz=>by
  clear a5;clear a0 ZH S;cases m:k.mine with
  |V3=>let(_,_,o,e):=Z.YB m;rw[<-z] at e;show Vy (bM e) (e8 _)
  |V6=>
   cases k with
   |XG a=>show X.new (aM _) (z▸aF Z.X8)
   |_=>cases m
 have H4:=a5.WL ad j4 λ_ z=>nomatch z
 have a4:=a3.WL ad j4 λz=>nomatch z
 have XR:=EZ (A:=A) (s:={a6 with V5:=a8,WJ:=a6.WJ+([]:V2 (Vm×VE)).V0}) ZH ha S j hsC ah ae H4 a4 noI nol ne;apply XR _ λaj ak al am an ao ap aq ar as au=>?_;clear XR H4 ne noI ltI noI0;clear a5;clear ZH S;let(m,av,_):=ar.ns;letI aw:s.V5.VJ.VA<=U.V5.VJ.VA:=aG H.VA W.VA;let(VL,ax,ay,az):=as.X8;have hC5:a6.V5.VJ.VA∉aj:=(ar.Zv _ (.WI _)).1;have neC:a6.V5.VJ.VA≠U.V5.VJ.VA:=kN hl3
 have st:WQ [a6.V5.VJ.VA] ι s.V5 aj ak.V5:=by
  have z:=(((H.V7 W).V7 a1).V7 ad|>.W9 (G:=t8 (Ct VU (lC Vb.X0 VU.Vv) a6.V5.VJ.VA Vb) I U.V5.VJ.VA) λ_ q=>nomatch q).V7 ao;cases m:k.mine with
  |V3=>
   apply z.XV λb af=>?_;clear z ao;rcases aU.mp af with rfl|af
   .show .XB (.WI _)
   rcases aU.mp af with rfl|af
   .apply .Wt ?_;cases w:s.V5.VT b with
    |V8=>rfl
    |V1 o=>have w1:=a0 m;obtain⟨_,z⟩:∃o,s1.V5.VT b=V1 o:=by
               by_cases q:b∈ι
               .let(x,b0):=eT.mp q;show Vy (aF (W.ZN (H.ZN b0))) (Z.YB m).1
               .show{o,H.ext _ _ w q λq=>nomatch q}
           rw[z] at w1;cases w1
   .rw[aC.mp af];show .Wt (wX aw)
  |V6=>
   have hI:I∈T:=by
    clear a0;cases k with
    |XG a=>show aF Z.X8
    |_=>cases m
   have z2:WQ [a6.V5.VJ.VA,U.V5.VJ.VA] T a8 aj ak.V5:=⟨ao.inc,ao.VA,λb o e n b1=>ao.ext b o e n λq=>by
    clear e o;clear z ao Z;rcases aU.mp q with rfl|q
    .show b1 (.WI _)
    rcases aU.mp q with rfl|q
    .show n hI
    .show b1 (.XW _ q)⟩
   apply((((H.V7 W).V7 a1).V7 ad|>.W9 (G:=[a6.V5.VJ.VA,U.V5.VJ.VA]) λ_ q=>nomatch q).V7 z2).XV λb af=>?_;rcases aU.mp af with rfl|af
   .show .XB (.WI _)
   .rw[aC.mp af];show .Wt (wX aw)
 apply q (aj++[U.V5.VJ.VA]) ak a6.V5.VJ.VA am.V0 U.V5.VJ.VA m _ (st.Zd as.no aw) (wX (aG aw (bZ hl3))) (vV hC5 neC) ag hCf (ap.Zd (o:=.VF an) ay rfl as.no as.Zv {VL,ax,ay,az}) ((K.V7 Y).V7 (sm3.V7 {aq.Xq,aq.os})) (fX ap.Wz) au av
def dZ.YQ {a:Vi} {g:WR} {d:V2 WR} {VU:X6} {WS:Pos} (h:uO c n sc a g d VU WS ρ M P):dZ c n sc (.XS a (g::d) VU WS) ρ M P:=λA Vb ι s f hs L G Q E q=>by
 have ha:=h.1
 focus rw[eval_ListComp]
 have e1:SK (g::d)=V3:=by let(t,i,j,k):=g;clear h WS VU a;subst ha;rfl
 have e2:Um (g::d) Vb=eval g.iter Vb:=by let(t,i,j,k):=g;rfl
 rw[e1,e2];apply MD h f hs L G λr s1 C l u m M' v w x B D H I J p K=>?_;apply{m,K,λh' N=>?_};let(R,S):=H.frame (F:=[C]) (bX N.1.Vh) (λb o e z=>(N.2 b λy=>z (by simp[y])).V7 e) (λb z=>by rw[aC.mp z];show x) (λb z=>by rw[aC.mp z];show B) (mK K);apply q r {s1 with V5:=h'} _ M' ((v.V7 R).XV λb z=>.Wt (by rw[aC.mp z];show w)) S (I.V7 {VC,VC}) (aV _ ?_ p);show{u,J,VC}
end
section
variable {F:mG}
mutual open Nat
abbrev HB (sc:X6) (t:Vm) (a pl:V9) (VU:X6):VS:=
 sc.Vv.VY t==V1 .Zk&&a==pl&& !(VU.Vv.any λ(n,k)=>n==t&&(k==.Zk||k==.Yx))
def zf {Vb:Env} {a:Vi} {b:V2 WR} {VU:X6} {p:Pos} {t:Vm} {d:Pos} {f:V9} (hs:Vb.VU=sc) (g:Vb.VU.Y2=.ZE):
    DS (.XS a b VU p) (V1 (.Name t d)) f Vb=X3 (HB sc t d.line p.line VU):=by
 have e:DS (.XS a b VU p) (V1 (.Name t d)) f Vb=X3 (Vb.blockKind==.ZE&&Vb.XL t==V1 .Zk&&d.line==p.line
     && !(VU.Vv.any λ(n,k)=>n==t&&(k==.Zk||k==.Yx))):=rfl
 have e1:(Vb.blockKind==.ZE)=V6:=by unfold Env.blockKind;rw[g];rfl
 rw[e,e1,wu];rw[<-hs];rfl
def Yy.assignComp0 {x:Vm} {xp WS p} {a:Vi} {b:V2 WR} {VU:X6} (h:dZ c n sc (.XS a b VU p) ρ M λv aT=>F .Wo ((x,v)::ρ) aT) (d:HB sc x xp.line p.line VU=V3:=by kernel_rfl) (e:kq sc x=V6:=by kernel_rfl):
    Yy c n sc (.Assign [.Name x xp] (.XS a b VU p) WS) ρ M F:=
 λA Vb ι s f hs L G Q E q=>wpAny_Assign_Name (Go.YE L (h A Vb ι s f hs L G) λg i rv aT st j k l m=>Xs m λv r p=>
  Dv hs l j r e λo t u w y z=>q o t _ .Wo _ aT (st.V7 u) w (k.V7 y) z rfl p) ((zf hs L.Y2).V7 (by show VN _ (d)))
def Yy.assignComp1 {y:Vm} {a WS p:Pos} {d:Vi} {g:WR} {f:V2 WR} {VU:X6}
    (h:uO c n sc d g f VU p ρ M λv aT=>F .Wo ((y,v)::ρ) aT) (i:HB sc y a.line p.line VU=V6:=by kernel_rfl) (j:kq sc y=V6:=by kernel_rfl):Yy c n sc (.Assign [.Name y a] (.XS d (g::f) VU p) WS) ρ M F:=λA Vb ι s k hs L G Q E q=>by
 have ha:=h.1;have e1:SK (g::f)=V3:=by let(t,r,u,w):=g;clear h d;subst ha;rfl
 have e2:Um (g::f) Vb=eval g.iter Vb:=by let(t,r,u,w):=g;rfl
 rw[exec_Assign_Name_used _ _ _ _ ((zf hs L.Y2).V7 (by show VN _ (i)))];apply aA (gx (aA ?_))
 focus change VO _ A (comprehension _ _ _ _ _ (SK (g::f)) (Um (g::f) Vb) _>>=_) _ _ s
 rw[e1,e2];apply aA (eN (MD (use:=V1 (xU (.Name y a) Vb)) (WS:=p) (Q:=λ_ s'=>Q .Wo s') (E:=E) h k hs L G λx s1 C l B m M' D H I J K N R S T U=>?_) (λ_ _ z=>aD (aD z)) (λ_ _ z=>z));have st1':WQ [C] ι s.V5 x s1.V5:=D;have L1:Yu c x s1.V5 Vb ρ:=L.WL (st1'.XV (G:=[]) λb z=>.Wt (by rw[aC.mp z];show H)) (λ_ q=>(by cases q)) (λ_ q=>(by cases q))
 focus change VO _ _ (xU (.Name y a) Vb (.VG B)) _ _ _
 apply xw.name (c:=c) (n:=n) (YE:=V3) (by assumption) A Vb x s1 (.VG B) k hs L1 N (show WV x s1.V5 (.VG l) (.VG B) by show{B,S,VC}) _ _ λW X Y Z a0 a1=>?_;letI a2:X.V5.Ns C m:=U.at' λo e=>Y.ext C o e I K;apply aV m a2 λh' a3=>?_
 clear st1';let(a4,a5):=Z.frame (F:=[C]) (bX a3.1.Vh) (λb o e z=>(a3.2 b λy=>z (by simp[y])).V7 e) (λb z=>by
  rw[aC.mp z];let(o,_,_,e,_):=U;show Y.Ya e I) (λb z=>by rw[aC.mp z];show J) (mK a2)
 have L3:=a1.WL a4 (λb z=>by rw[aC.mp z];show K) (mK a2)
 have fr:∀b∈C::dK Vb,b∈dK Vb\/s.V5.VT b=V8:=λb i=>by
  clear a4 a3 a2 U K J I D m;rcases aU.mp i with rfl|i
  .show .Wt H
  .show .XB i
 apply q W {X with V5:=h'} _ .Wo _ M' ((((D.W9 (G:=C::dK Vb) λb z=>by rw[aC.mp z];show .WI _).V7 (Y.W9 λb z=>.XW _ z)).V7 (a4.W9 λb z=>by rw[aC.mp z];show .WI _)).XV fr) a5 ((R.V7 a0).V7 {VC,VC}) L3 rfl T
end
end
section
variable {F:mG}
mutual open Nat
abbrev j8 (c:Cx) (n:V9) (a b:V) (M:WC) (P:dQ):Prop:=
 ∀(A:W8) ι s ro ri,Xl A n->c.W6 ι M s.V5->WV ι s.V5 a ro->WV ι s.V5 b ri->
  (∃T id,s.Xj ro T/\uR (.W5 T) "__getitem__"=X3 (V1 (.Va id)))/\Go c A (UP ro ri) ι s [] (RP P)
def NU (a:Vi) (o i:VE):∃b,subscripted a V3 o i=operate b (UP o i):=by
 cases a with
 |Slice l u st p=>cases st<;>show{_,VC}
 |_=>show{_,VC}
def tD {a b:Vi} {A:W8} {s:VI} {o i:VE} {T id:Zf} {Q:VE->VI->Prop} {E:VE->VI->Prop} (d:s.Xj o T) (f:uR (.W5 T) "__getitem__"=X3 (V1 (.Va id))) (h:VO c.M A (UP o i) Q E s):
    VO c.M A (subscriptTail a b o i) Q E s:=by
 apply aA ?_
 focus rw[getitemInPython_of_ne d.not_modules]
 apply aA (mH d f ?_)
 have XR:VO c.M A (subscripted b V3 o i) (λr g=>VO c.M A (letTemporaryGo a o r>>=λ_=>X3 r) Q E g) E s:=by let(j,e):=NU b o i;rw[e];show wpAny_operating (eN h (λr g k=>aA (wpAny_letTemporaryGo (aD k))) λ_ _ x=>x)
 first
  |show aD (aA XR)
  |show aA (aD (aA XR))
  |show aA XR
def dZ.sub {o i:Vi} {WS} (h:dZ c n sc o ρ M λa aT=>dZ c n sc i ρ aT λb bQ=>j8 c n a b bQ P):dZ c n sc (.Subscript o i WS) ρ M P:=λA Vb ι s d hs L G Q E q=>
 Subscript_ (h A Vb ι s d hs L G _ _ λe s1 f aT g j k l=>Xs l λa m hi=>hi A Vb e s1 d hs (L.XU g) j _ _ λp r t bQ u v w l=>Xs l λb x h=>by
  let((T,id,hT,hl),go):=h A p r f t d v (m.up u) x;show tD hT hl (go _ _ λy z rv cI B C D H=>q y z rv cI ((g.V7 u).V7 B) C ((k.V7 w).V7 D) H))
def xA {i:Vo} {a:V9} (h0:0<=i) (b:i<(a:Vo)):Uj i a=V1 i.Xd:=by have h2:¬i<0:=bY [.l V6 (.n 0) (.i 0)] (.N (.k V6 (.i 0) (.n 0))) [[1,1]] tt [] [_] h0;simp[Uj,h2,h0,b]
def j8.VF {a:V9} {xs:V2 V} {i:Vo} {v:V} (ha:M[a]?=V1 (.VF xs)) (h0:0<=i) (b:i<2^63) (hv:xs[i.Xd]?=V1 v) (p:P v M):j8 c n (.VG a) (.Vl i) M P:=λA ι s d f g G h j=>by let(l,m,VC):=h;let(t,VC):=j;let(o,VL,k,u,w,x):=gH G ha;rw[m] at u;cases u;let(rv,e,r):=x.ZN hv;show{(kW "list" "list.__getitem__" (eG w).Yf Pq.VY),λQ E q=>wpAny_getItem_list (eG w) h0 b (by rw[<-aZ];show e) (q _ _ _ M .Vt G .Vt (aV v r p))}
def j8.Vj {xs:V2 V} {i:Vo} {v:V} (h0:0<=i) (a:i<2^63) (hv:xs[i.Xd]?=V1 v) (p:P v M):j8 c n (.Vj xs) (.Vl i) M P:=λA ι s b d f G g h=>by
 let(l,VL,k,VC,no,m,u):=g;let(t,VC):=h;let(rv,e,r):=u.ZN hv;have hlt:i.Xd<xs.V0:=(aB.mp hv).1;have hz:xs.V0=VL.VA:=by rw[<-u.V0];simp
 apply{(kW "tuple" "tuple.__getitem__" (gg m).Yf slot_tuple_getitem.VY),λQ E q=>Xw.Rows.getItem_tuple (j:=i.Xd) (gg m) (bY [.l V6 (.n 0) (.i 0)] (.l V6 (.o (.n 9223372036854775808)) (.i 0)) [[1,1]] tt [] [_] h0) a ?_ (by rw[<-aZ];show e) (q _ _ _ M .Vt G .Vt (aV v r p))};show xA h0 (by rw[<-hz];show(Vo.toNat_lt h0).mp hlt)
def j8.Vn {x:Vm} {i:Vo} {k:V9} (h0:0<=i) (a:i<2^63) (hv:x.cps[i.Xd]?=V1 k) (p:P (.Vn {#[k]}) M):j8 c n (.Vn x) (.Vl i) M P:=λA ι s b d e G f g=>by let(t,VC):=f;let(u,VC):=g;letI h:i.Xd<x.cps.VA:=(fR.mp hv).1;apply{(kW "str" "str.__getitem__" (SA s _ _) F.slot_str_getitem.VY),λQ E q=>Xw.Rows.getItem_str (by simp;show bY [.l V6 (.n 0) (.i 0),.k V6 (.i 0) (.n 9223372036854775808)] (.K (.l V6 (.o (.n 9223372036854775808)) (.i 0)) (.k V6 (.i 0) (.n 9223372036854775808))) [[1,1],[1,0,1]] tt [] [_] h0 a) ?_ (q _ {s with WJ:=s.WJ+1} _ M .Vt G {VC,VC} (aV _ (by show{_,VC}) p))};rw[show Uj i x.V0=V1 i.Xd from xA h0 (by change i<(x.cps.VA:Vo);show(Vo.toNat_lt h0).mp h)];show hv
def dZ.from {o:Vi} {a k:V9} {p1 p WS} (d:dZ c n sc o ρ M λv aT=>∃xs,v=.Vj xs/\1<=a/\a<=xs.V0/\xs.V0<=cE/\P (.Vj (xs.XV a)) aT):dZ c n sc (.Subscript o (.Slice (V1 (.YJ (.Vl a) k p1)) cQ cQ p) WS) ρ M P:=
 λA Vb ι s f hs L G Q E q=>Subscript_ (d A Vb ι s f hs L G _ _ λg s1 h aT i j m r=>Xs r λv t r=>o1_5 r λxs u w ha hz p=>Pz (by
  clear r;clear r;subst u
  focus change VO _ _ (mkInt (a:Vo)) _ _ _
  apply r4 (aD (aD ?_));let(x,y):=j.YG (h':=s1.V5.Vp {Z9:=.W5 "slice",Xu:=.WG #[.Vl a s1.WJ,.V8,.V8]}) (bZ kK) λb o e=>aJ _ e;have r2:=t.up x;clear t;let(l,VL,k,VC,no,z,B):=r2;have hsz:xs.V0=VL.VA:=by rw[<-B.V0];simp
  apply tD (T:="tuple") (gg z).Yf slot_tuple_getitem.VY (Xw.Rows.getItem_tuple_from (gg z) {_,aP _ rfl,VC,VC} w (fG [{0,.a,.b},{2,.b,.c}] {0,.a,.c} [1,1,1] [] tt ha hsz) ?_ (fG [{0,.a,.b},{2,.a,.c}] {0,.c,.b} [1,1,0,1] [] tt hz hsz));let(C,D):=y.YG (h':=(s1.V5.Vp {Z9:=.W5 "slice",Xu:=.WG #[.Vl a s1.WJ,.V8,.V8]}).Vp (iP (VL.VD.XV a).WE 0)) (bZ kK) λb o e=>aJ _ e;apply q g _ _ aT ((i.V7 x).V7 C) D (m.V7 {VC,VC}) (aV _ ?_ p);show{_,_,0,VC,y.new (aM _),aP _ rfl,(B.XV a).up C}))
def dZ.strTo {o:Vi} {k p1 p WS} (a:dZ c n sc o ρ M λv aT=>∃x y,v=.Vn x/\(∀t u,(oV x t cQ (V1 (1,u)) cQ=.YM (.Vn x t)/\y=x)\/(oV x t cQ (V1 (1,u)) cQ=.Vn y/\y.V0<=cE))/\P (.Vn y) aT):
    dZ c n sc (.Subscript o (.Slice cQ (V1 (.YJ (.Vl 1) k p1)) cQ p) WS) ρ M P:=
 λA Vb ι s d hs L G Q E q=>Subscript_ (a A Vb ι s d hs L G _ _ λf s1 g aT h i j m=>Xs m λv r m=>o2_3 m λx y w z p=>Pz (aD (by
  clear m;clear m;subst w
  focus change VO _ _ (mkInt 1) _ _ _
  apply r4 (aD ?_);let(B,C):=i.YG (h':=s1.V5.Vp {Z9:=.W5 "slice",Xu:=.WG #[.V8,.Vl 1 s1.WJ,.V8]}) (bZ kK) λb o e=>aJ _ e;let(t,VC):=r;apply tD (T:="str") (SA _ _ _) F.slot_str_getitem.VY (wpAny_getItem_str_slice (l:=cQ) (u:=V1 (1,s1.WJ)) (st:=cQ) {_,aP _ rfl,VC,VC} rfl ?_);rcases z t s1.WJ with⟨e,VC⟩|⟨e,hz⟩
  .rw[e];show q f _ _ aT (h.V7 B) C (j.V7 {VC,VC}) (aV _ (by show{_,VC}) p)
  .rw[e];show{hz,q f {s1 with V5:=_,WJ:=s1.WJ+1+1} _ aT (h.V7 B) C (j.V7 {VC,VC}) (aV _ (by show{_,VC}) p)})))
def dZ.and {a d:Vi} {rest WS} (h:dZ c n sc a ρ M λv aT=>∃b,pO c n v aT b/\if b then dZ c n sc (.YX .And (d::rest) WS) ρ aT P else P v aT):dZ c n sc (.YX .And (a::d::rest) WS) ρ M P:=λA Vb ι s f hs L G Q E q=>
 BoolOp_and (h A Vb ι s f hs L G _ _ λg s1 rv aT i j l m=>Xs m λv o m=>Xs m λb t k=>t A g s1 rv f j o _ _ λp r b u w x e=>by
  clear t;cases e;cases b with
  |V3=>show q p r rv aT (i.V7 u) w (l.V7 x) (aV v (o.up u) k)
  |V6=>show k A Vb p r f hs ((L.XU i).XU u) w Q E λy z B cI C D H I=>q y z B cI ((i.V7 u).V7 C) D ((l.V7 x).V7 H) I)
def dZ.or {a d:Vi} {rest WS} (h:dZ c n sc a ρ M λv aT=>∃b,pO c n v aT b/\if b then P v aT else dZ c n sc (.YX .Or (d::rest) WS) ρ aT P):dZ c n sc (.YX .Or (a::d::rest) WS) ρ M P:=λA Vb ι s f hs L G Q E q=>
 BoolOp_or (h A Vb ι s f hs L G _ _ λg s1 rv aT i j l m=>Xs m λv o m=>Xs m λb t k=>t A g s1 rv f j o _ _ λp r b u w x e=>by
  clear t;cases e;cases b with
  |V6=>show q p r rv aT (i.V7 u) w (l.V7 x) {v,o.up u,k}
  |V3=>show k A Vb p r f hs ((L.XU i).XU u) w Q E λy z B cI C D H I=>q y z B cI ((i.V7 u).V7 C) D ((l.V7 x).V7 H) I)
def dZ.boolOne {op} {e:Vi} {WS} (h:dZ c n sc e ρ M P):dZ c n sc (.YX op [e] WS) ρ M P:=λA Vb ι s a hs L G Q E q=>BoolOp_one (h A Vb ι s a hs L G Q E q)
def kZ.ZT {l e f:Vi} {g i:CmpOp} {WS} {j:VS->WC->Prop} (h:dZ c n sc l ρ M λa aT=>dZ c n sc e ρ aT λb bQ=>Yj c n (eS g) a b bQ λv cI=>∃t,v=.WW t/\
      if t then dZ c n sc f ρ cI λd cy=>Yj c n (eS i) b d cy λv m=>∃t,v=.WW t/\j t m else j V3 cI) (o:lastMarks [g,i] [e,f]=V3:=by with_unfolding_all rfl):kZ c n sc (.Compare l [g,i] [e,f] WS) ρ M j:=
 λA Vb ι s r hs L G Q E q=>by
  apply isTrue_chain (h A Vb ι s r hs L G _ _ λu s1 w aT x y z B=>Xs B λa C D=>?_) o;apply test_link (D A Vb u s1 r hs (L.XU x) y _ _ λH I J bQ K N R B=>Xs B λb S T=>?_);apply T A H I w J r N (C.up K) S _ _ λU W X cI Y Z a0 B=>Xs B λv a1 B=>Xs B λt a2 k=>?_;clear B;clear B;subst a2;cases a1;apply nH ?_;cases t with
  |V3=>show q U W _ cI ((x.V7 K).V7 Y) Z ((z.V7 R).V7 a0) k
  |V6=>
   rw[Vw rfl] at k;apply test_last (k A Vb U W r hs (((L.XU x).XU K).XU Y) Z _ _ λa3 a4 a5 cy a6 a7 a8 B=>Xs B λd a9 aa=>aa A a3 a4 J a5 r a7 ((S.up Y).up a6) a9 _ _ λab ac X m ad ae af B=>Xs B λv ag B=>Xs B λt a2 p=>?_);clear B;subst a2;rw[ag];show nH (q ab ac _ m ((((x.V7 K).V7 Y).V7 a6).V7 ad) ae ((((z.V7 R).V7 a0).V7 a8).V7 af) p)
def dZ.dict0 {WS} (p:P (.VG M.V0) (M++[.WD []])):dZ c n sc (.Dict [] [] WS) ρ M P:=λA Vb ι s a hs L G Q E q=>by apply wpAny_Dict_empty ?_;let(st,b):=G.push1 (ob:={Z9:=.W5 "dict",Xu:=.WD #[]}) (o':=.WD []) λst=>{#[],_,aP _ rfl,VC,.VH,λ_ h=>(fY h).W2};show q _ _ _ _ st b {VC,VC} (aV _ (by show{_,fX G.Wz,VC}) p)
def dZ.join {e:Vi} {y:Vm} {p1 p2 WS} {k} (h:dZ c n sc e ρ M λv aT=>∃x,v=.Vn x/\(x++y).V0<=cE/\P (.Vn (x++y)) aT):dZ c n sc (.JoinedStr [.FormattedValue e (-1) cQ p1,.YJ (.Vn y) k p2] WS) ρ M P:=λA Vb ι s f hs L G Q E q=>by
 apply wpAny_JoinedStr ?_;apply wpAny_FormattedValue_plain (h A Vb ι s f hs L G _ _ λg s1 rv aT i j l m=>?_);let(v,o,x,r,hz,p):=m;subst r
 letI u:x.V0<=cE:=by have:(x++y).V0=x.V0+y.V0:=strLen_append ..;show ir [{0,.a,.b},{2,.a,.p .c .d}] {0,.c,.b} [1,1,0,1] [] tt hz this
 have e0:(Vm.Zm++x)=x:=Vm.empty_append x
 have XR:∀t,Joins c.M A E [eval (.YJ (.Vn y) k p2) Vb] x (λWf w=>Wf.V0<=cE/\Q (.Vn Wf w.WJ) {w with WJ:=w.WJ+1}) {s1 with WJ:=t}:=λt=>by
  focus change VO _ _ (SG y) _ _ _
  apply qF (qs y _ rfl hz {hz,?_});show q g {s1 with WJ:=t+1+1} _ aT i j (l.V7 {VC,VC}) (aV _ (by show{_,VC}) p)
 let(t,VC):=o;apply wpAny_formatField_str (qs x t rfl (by rw[e0];show u) ?_) (qs x _ rfl (by rw[e0];show u) ?_) u
 .rw[e0];show XR s1.WJ
 .rw[e0];show XR (s1.WJ+1)
end
end
mutual open Nat
def C1 {ι h i t}:WV ι h (.Vl i) (.Vl i t):=by show{_,VC}
def Uo {ι h i t}:WV ι h (.Vn i) (.Vn i t):=by show{_,VC}
def o5 {ι h b}:WV ι h (.WW b) (.WW b):=rfl
def Uq {ι h}:WV ι h .V8 .V8:=rfl
def Yj.Zj {a b:Vo} (p:P (.Vl (a+b)) M):Yj c n (mF .Add) (.Vl a) (.Vl b) M P:=λA ι s d e f G g h Q E q=>by let(t,VC):=g;let(u,VC):=h;show Xw.Rows.add_int (q ι {s with WJ:=s.WJ+1} _ M .Vt G {VC,VC} (aV _ C1 p))
def Yj.subI {a b:Vo} (p:P (.Vl (a-b)) M):Yj c n (mF .Sub) (.Vl a) (.Vl b) M P:=λA ι s d e f G g h Q E q=>by let(t,VC):=g;let(u,VC):=h;show Xw.Rows.sub_int (q ι {s with WJ:=s.WJ+1} _ M .Vt G {VC,VC} (aV _ C1 p))
def Yj.mulI {a b:Vo} (d:IntMulOk a b) (p:P (.Vl (a*b)) M):Yj c n (mF .Mult) (.Vl a) (.Vl b) M P:=λA ι s e f g G h i Q E q=>by let(t,VC):=h;let(u,VC):=i;show Xw.Rows.mul_int (q ι {s with WJ:=s.WJ+1} _ M .Vt G {VC,VC} (aV _ C1 p)) d
def Yj.modI {a b:Vo} (d:b≠0) (p:P (.Vl (a.fmod b)) M):Yj c n (mF .Mod) (.Vl a) (.Vl b) M P:=λA ι s e f g G h i Q E q=>by let(t,VC):=h;let(u,VC):=i;show Xw.Rows.mod_int d (q ι {s with WJ:=s.WJ+1} _ M .Vt G {VC,VC} (aV _ C1 p))
def Yj.divI {a b:Vo} (d:b≠0) (e:nQ a b=V3) (p:P (.Vl (a.fdiv b)) M):Yj c n (mF .FloorDiv) (.Vl a) (.Vl b) M P:=λA ι s f g h G i j Q E q=>by let(t,VC):=i;let(u,VC):=j;show Xw.Rows.floordiv_int d (q ι {s with WJ:=s.WJ+1} _ M .Vt G {VC,VC} (aV _ C1 p)) (.XB e)
def Yj.eqI {a b:Vo} (p:P (.WW (a==b)) M):Yj c n (eS .Eq) (.Vl a) (.Vl b) M P:=λA ι s d e f G g h Q E q=>by let(t,VC):=g;let(u,VC):=h;show Xw.Rows.eq_int (q ι s _ M .Vt G .Vt (aV _ o5 p))
def Yj.neI {a b:Vo} (p:P (.WW (a !=b)) M):Yj c n (eS .NotEq) (.Vl a) (.Vl b) M P:=λA ι s d e f G g h Q E q=>by let(t,VC):=g;let(u,VC):=h;show Xw.Rows.ne_int (q ι s _ M .Vt G .Vt (aV _ o5 p))
def Yj.ltI {a b:Vo} (p:P (.WW (decide (a<b))) M):Yj c n (eS .Lt) (.Vl a) (.Vl b) M P:=λA ι s d e f G g h Q E q=>by let(t,VC):=g;let(u,VC):=h;show Xw.Rows.lt_int (q ι s _ M .Vt G .Vt (aV _ o5 p))
def Yj.gtI {a b:Vo} (p:P (.WW (decide (b<a))) M):Yj c n (eS .Gt) (.Vl a) (.Vl b) M P:=λA ι s d e f G g h Q E q=>by let(t,VC):=g;let(u,VC):=h;show Xw.Rows.gt_int (q ι s _ M .Vt G .Vt (aV _ o5 p))
def Yj.leI {a b:Vo} (p:P (.WW (decide (a<=b))) M):Yj c n (eS .LtE) (.Vl a) (.Vl b) M P:=λA ι s d e f G g h Q E q=>by let(t,VC):=g;let(u,VC):=h;show Xw.Rows.le_int (q ι s _ M .Vt G .Vt (aV _ o5 p))
def Yj.geI {a b:Vo} (p:P (.WW (decide (b<=a))) M):Yj c n (eS .GtE) (.Vl a) (.Vl b) M P:=λA ι s d e f G g h Q E q=>by let(t,VC):=g;let(u,VC):=h;show Xw.Rows.ge_int (q ι s _ M .Vt G .Vt (aV _ o5 p))
def Yj.eqS {a b:Vm} (p:P (.WW (a==b)) M):Yj c n (eS .Eq) (.Vn a) (.Vn b) M P:=λA ι s d e f G g h Q E q=>by let(t,VC):=g;let(u,VC):=h;show Xw.Rows.eq_str (q ι s _ M .Vt G .Vt (aV _ o5 p))
def Yj.neS {a b:Vm} (p:P (.WW (a !=b)) M):Yj c n (eS .NotEq) (.Vn a) (.Vn b) M P:=λA ι s d e f G g h Q E q=>by let(t,VC):=g;let(u,VC):=h;show Xw.Rows.ne_str (q ι s _ M .Vt G .Vt (aV _ o5 p))
def Yj.inS {a b:Vm} (p:P (.WW (!(kG b a 0 b.V0 1).WN)) M):Yj c n (eS .In) (.Vn a) (.Vn b) M P:=λA ι s d e f G g h Q E q=>by let(t,VC):=g;let(u,VC):=h;show Ve.P.in_str (q ι s _ M .Vt G .Vt (aV _ o5 p))
abbrev XQ (v:V):VS:=V.Wc (WP:=λ_=>VS) v V6 (λ_=>V3) (λ_=>V3) (λ_=>V3) (λ_=>V3) (λ_=>V3) (λv=>v==.V8) (λ_ _=>V3)
def WV.XQ {ι h v rv} (r:WV ι h v rv):(rv==gb)=XQ v:=by
 cases v with
 |V8=>cases r;rfl
 |WW b=>cases r;rfl
 |Vl i=>let(t,VC):=r;rfl
 |str i=>let(t,VC):=r;rfl
 |VG a=>let(t,_,VC):=r;rfl
 |Vj xs=>let(t,_,_,VC,_):=r;rfl
 |lit u=>cases r;rfl
 |Xb lo hi=>let(t,_,_,_,VC,_):=r;rfl
def Yj.XQ {v:V} (p:P (.WW (Lake.XQ v)) M):Yj c n (eS .Is) v .V8 M P:=λA ι s a b d G e f Q E q=>by cases f;apply Ve.is_none ?_;rw[WV.XQ e];show q ι s _ M .Vt G .Vt (aV _ o5 p)
def Yj.notNone {v:V} (p:P (.WW (!Lake.XQ v)) M):Yj c n (eS .IsNot) v .V8 M P:=λA ι s a b d G e f Q E q=>by cases f;apply Ve.isNot_none ?_;rw[WV.XQ e];show q ι s _ M .Vt G .Vt (aV _ o5 p)
def gF {xs:V2 V} {VL:VW VE} {ι h} (r:cT ι h xs VL.VD):VL.VA=xs.V0:=by rw[<-r.V0];simp
def Yj.addL {a b:V9} {xs ys:V2 V} (ha:M[a]?=V1 (.VF xs)) (d:M[b]?=V1 (.VF ys)) (hz:xs.V0+ys.V0<=cE) (p:P (.VG M.V0) (M++[.VF (xs++ys)])):Yj c n (mF .Add) (.VG a) (.VG b) M P:=λA ι s e f g G h i Q E q=>by let(x,j,VC):=h;let(y,k,VC):=i;let(l,m,o,r,t,u):=gH G ha;let(v,w,z,B,C,D):=gH G d;rw[j] at r;cases r;rw[k] at B;cases B;letI F:=gF u;letI H:=gF D;apply Ve.P.add_list t C ?_ (Qt hz F H);let(st,I):=G.push1 (ob:=kr (m++w) 0) (o':=.VF (xs++ys)) λst=>{_,_,aP _ rfl,by rw[cH];show(u.up st).WX (D.up st)};show q _ _ _ _ st I {VC,VC} (aV _ (by show{_,fX G.Wz,VC}) p)
def Eo {ι:V2 Vc} {h:WH} {xs:V2 V} {VL:VW VE} (G:c.W6 ι M h) (r:cT ι h xs VL.VD):WQ [] ι h ι (h.Vp (iP VL 0))/\c.W6 ι M (h.Vp (iP VL 0))/\WV ι (h.Vp (iP VL 0)) (.Vj xs) (.VG h.VJ.VA):=by let(st,a):=G.YG (h':=h.Vp (iP VL 0)) (bZ kK) λb o e=>aJ _ e;apply fq st a ?_;show{_,VL,0,VC,G.new (aM _),aP _ rfl,r.up st}
def Yj.addT {xs ys:V2 V} (hz:xs.V0+ys.V0<=cE) (p:P (.Vj (xs++ys)) M):Yj c n (mF .Add) (.Vj xs) (.Vj ys) M P:=λA ι s a b d G e f Q E q=>by
 letI g:=e;letI h:=f;let(x,i,j,VC,k,l,m):=e;let(y,o,t,VC,u,v,w):=f;letI z:=gF m;letI B:=gF w;by_cases z1:i.WN=V6
 .letI:xs=[]:=dm (by rw[<-z];show W1 ‹_›);clear z m g hz;subst this;show concat_meets (s:=s) {_,l,VC} {_,v,VC} noFill_tuple_add seq_tuple_add F.slot_tuple_add F.entry_tuple_add (F.args_tuple_add_2 _ _) (AutoSeq1.tuple___add___tuple_tuple_0 x i j y o t z1) (fq l v (q ι s _ M .Vt G .Vt (aV _ h p)))
 .by_cases z2:o.WN=V6
  .have:ys=[]:=dm (by rw[<-B];show W1 ‹_›);clear B w h;clear hz;subst this;rw[cJ] at p;show concat_meets (s:=s) {_,l,VC} {_,v,VC} noFill_tuple_add seq_tuple_add F.slot_tuple_add F.entry_tuple_add (F.args_tuple_add_2 _ _) (AutoSeq1.tuple___add___tuple_tuple_1 x i j y o t z1 z2) (fq l v (q ι s _ M .Vt G .Vt (aV _ g p)))
  .apply Ve.P.add_tuple l v z1 z2 ?_ (Qt hz z B);let(st,C,r):=Eo (VL:=i++o) G (by rw[cH];show m.WX w);show q _ _ _ _ st C {VC,VC} (aV _ r p)
def E2 {VL:VW VE}:∀(k:V9) (a:VW VE),(Nv (λb d=>b++d) a (eF k VL)).VD=a.VD++(eF k VL.VD).ZW
 |0,a=>by show(cJ _).Vh
 |k+1,a=>by rw[k9,tO,E2 k,k9,qK,cH,aR]
def cT.times {ι h} {xs:V2 V} {vs:V2 VE} (r:cT ι h xs vs):∀k:V9,cT ι h (eF k xs).ZW (eF k vs).ZW
 |0=>.VH
 |k+1=>by rw[k9,qK,k9,qK];show r.WX (r.times k)
set_option maxRecDepth 100000 in
def Yj.mulL {a:V9} {xs:V2 V} {k:V9} (ha:M[a]?=V1 (.VF xs)) (h0:xs≠[]) (hz:xs.V0*k<=2^24) (p:P (.VG M.V0) (M++[.VF (eF k xs).ZW])):Yj c n (mF .Mult) (.VG a) (.Vl k) M P:=λA ι s b d f G g h Q E q=>by
 let(x,j,VC):=g;let(u,VC):=h;let(m,VL,r,t,w,y):=gH G ha;rw[j] at t;cases t;have e1:=gF y;have h1':1<=xs.V0:=V2.length_pos_iff.WO h0;have hk:k<=2^24:=aG (by rw[V9.mul_comm];show V9.le_mul_of_pos_right k h1') hz
 have hne:VL.WN=V3:=by
  cases z:VL.WN with
  |V3=>rfl
  |V6=>show Vy (dm (by rw[<-e1];show W1 ‹_›)) h0
 have hsz:VL.VA*((k:Vo).Xd)<=2^24:=by rw[e1];simpa using hz
 suffices hzk:∀z:Vo,z=(k:Vo)->VO c.M A (mF .Mult (.VG x) (.Vl z u)) Q E s from hzk _ rfl
 intro z B;rw[<-B] at hsz
 have c1:¬(!Builtin.V2.listFitsIndex z)=V6:=by have y:(-(9223372036854775808:Vo)<=z):=bY [.e V6 (.i 0) (.z (.v 0))] (.l V6 (.o (.n 9223372036854775808)) (.i 0)) [[1,0,1]] tt [_] [_] B;have h2:z<9223372036854775808:=bY [.l V3 (.v 0) (.n 16777216),.e V6 (.i 0) (.z (.v 0))] (.k V6 (.i 0) (.n 9223372036854775808)) [[1,1,1]] tt [_] [_] hk B;simp[WA.V2.listFitsIndex,y,h2]
 have c2:¬VL.VA*z.Xd>(2^63-1)/8:=iI.WO (aG hsz (aS rfl))
 have c3:¬oR (VL.VA*z.Xd)=V6:=by
  focus unfold oR
  rw[Vk (iI.WO (aG hsz (by rw[bJ];show aS rfl)))];show aO
 apply rX (T:="list") (U:="int") (by show rfl) {_,w,VC} (λs'=>uS s' z u) noFill_list_mul DY mC repeat_list CH.VY
  (lD mC (uS s z u) CI (AR _ _) (int___rmul___int_list z u x VL r)
   (Dt w rfl ⟨_,w,VC⟩ (lD F.slot_list_mul ⟨_,w,VC⟩ F.entry_list_mul (F.args_list_mul_2 _ _)
    (AutoListH.list___mul___list_int_3 x VL r z u c1 c2 c3) ⟨w,?_⟩)))
 rw[hne];have ez:z.Xd=k:=by rw[B];rfl
 let(st,C):=G.push1 (ob:=kr (Nv (λD H=>D++H) #[] (eF z.Xd VL)) 0) (o':=.VF (eF k xs).ZW) λst=>⟨_,_,aP _ rfl,by
  have e2:(Nv (λD H=>D++H) #[] (eF z.Xd VL)).VD=(eF k VL.VD).ZW:=by rw[E2,ez];rfl
  rw[e2];show(y.up st).times k⟩
 show q _ _ _ _ st C {VC,VC} (aV _ (by show{_,fX G.Wz,VC}) p)
def aQ.lenL {a:V9} {xs:V2 V} (ha:M[a]?=V1 (.VF xs)) (hz:xs.V0<2^63) (p:P (.Vl xs.V0) M):aQ c n (.Va "len") [.VG a] M P:=λA ι s b d G r Q E q=>by let(v,VC,e):=r.Zb;clear r;let(x,f,VC):=e;let(g,VL,h,i,j,k):=gH G ha;rw[f] at i;cases i;have e1:=gF k;apply Xw.Rows.len_list (eG j) (by rw[e1];show Ti [_] [] hz) ?_;rw[e1];show q ι {s with WJ:=s.WJ+1+1} _ M .Vt G {VC,VC} (aV _ C1 p)
def aQ.lenT {xs:V2 V} (hz:xs.V0<2^63) (p:P (.Vl xs.V0) M):aQ c n (.Va "len") [.Vj xs] M P:=λA ι s a b G r Q E q=>by let(v,VC,d):=r.Zb;clear r;let(x,VL,e,VC,no,f,g):=d;have e1:=gF g;apply Xw.Rows.len_tuple (gg f) (by rw[e1];show Ti [_] [] hz) ?_;rw[e1];show q ι {s with WJ:=s.WJ+1+1} _ M .Vt G {VC,VC} (aV _ C1 p)
def sM.VF {a:V9} {xs:V2 V} {name:Vm} {id:Zf} (b:Slot "list" name id) (d:DR (.Va id)=X3 (.W5 "method_descriptor")) (ha:M[a]?=V1 (.VF xs)):sM c n (.VG a) name M (.Va id):=λA ι s e pl f G r Q E q=>by let(x,g,VC):=r;let(h,VL,i,j,k,l):=gH G ha;rw[g] at j;cases j;show getMethod_list_of b d (eG k) {_,k,VC} (q ι s _ .Vt G .Vt rfl)
def aQ.WX {a:V9} {xs:V2 V} {v:V} (ha:M[a]?=V1 (.VF xs)) (hz:xs.V0<=cE) (p:P .V8 (M.Wb a (.VF (xs++[v])))):aQ c n (.Va "list.append") [.VG a,v] M P:=λA ι s b d G r Q E q=>by let(e,rv,VC,f,g):=r.inv2;clear r;let(x,h,VC):=f;show ME G h ha g hz Q E λi s' j st k l m=>q i s' j _ st k l (aV _ m p)
def aQ.Zc {a b:V9} {xs ys:V2 V} (ha:M[a]?=V1 (.VF xs)) (d:M[b]?=V1 (.VF ys)) (hz:xs.V0+ys.V0<=2^24) (p:P .V8 (M.Wb a (.VF (xs++ys)))):aQ c n (.Va "list.extend") [.VG a,.VG b] M P:=λA ι s f g G r Q E q=>by
 let(h,rv,VC,i,j):=r.inv2;clear r;let(x,k,VC):=i;let(y,m,VC):=j;let(o,t,u,w,z,B):=gH G ha;let(C,D,H,I,J,K):=gH G d;rw[k] at w;cases w;rw[m] at I;cases I;letI L:=gF B;letI N:=gF K;apply lD F.slot_list_extend {_,z,VC} F.entry_list_extend (F.args_list_extend_2 _ _) (AutoSeq1.list_extend_list_list_0 x t u y D H ?_ ?_ ?_) (fq z J ?_)
 .simp[oR,cE];intro _;show bY [.l V3 (.p (.v 0) (.v 1)) (.n 16777216),.e V3 (.v 2) (.v 0),.e V3 (.v 3) (.v 1)] (.l V3 (.p (.v 2) (.v 3)) (.n 16777216)) [[1,1,1,0,1]] tt [_,_,_,_] [] hz L N
 .rw[bJ];show bY [.l V3 (.p (.v 0) (.v 1)) (.n 16777216),.e V3 (.v 2) (.v 0)] (.l V3 (.v 2) (.n 16777216)) [[1,1,1]] tt [_,_,_] [] hz L
 .rw[bJ];show bY [.l V3 (.p (.v 0) (.v 1)) (.n 16777216),.e V3 (.v 2) (.v 0),.e V3 (.v 3) (.v 1)] (.l V3 (.p (.v 2) (.v 3)) (.p (.n 16777216) (.n 1))) [[1,1,1,0,1]] tt [_,_,_,_] [] hz L N
 .let(st,R):=G.Wb (o':=.VF (xs++ys)) k (dN s.V5 x (eE λxs=>xs++D)) λst=>{t++D,_,gn _ z rfl,by rw[cH];show(B.up st).WX (K.up st)};show q ι _ _ _ st R {VC,VC} (aV _ Uq p)
def aQ.pop {a:V9} {xs:V2 V} {v:V} (ha:M[a]?=V1 (.VF (xs++[v]))) (hz:xs.V0<cE) (p:P v (M.Wb a (.VF xs))):aQ c n (.Va "list.pop") [.VG a] M P:=λA ι s b d G r Q E q=>by
 let(f,VC,g):=r.Zb;clear r;let(x,h,VC):=g;let(j,k,l,m,o,t):=gH G ha;rw[h] at m;cases m;have e1:=gF t;rw[aH] at e1;let(rv,e,u):=t.ZN (i:=xs.V0) (x:=v) (by show eK);have hlast:k.VA-1=xs.V0:=by rw[e1];show rfl
 apply lD F.slot_list_pop {_,o,VC} F.entry_list_pop (F.args_list_pop_1 _) (MeetsSeq.list_pop_last x k l rv ?_ ?_) {o,?_}
 .rw[hlast,<-aZ];show e
 .rw[e1];simp;show PL hz
 .let(st,w):=G.Wb (o':=.VF xs) h (dN s.V5 x (eE λxs=>xs.YP (k.VA-1))) λst=>⟨k.YP (k.VA-1),_,gn _ o rfl,by
    letI z:(k.YP (k.VA-1)).VD=k.VD.WU xs.V0:=by rw[hlast,VW.toList_eraseIdxIfInBounds,V2.eraseIdx_eq_take_drop_succ,V2.drop_eq_nil_of_le (by rw[cA,e1];show aM _),cJ]
    rw[z];have:=(t.up st).WU xs.V0
    simpa using this⟩
  show q ι _ _ _ st w {VC,VC} (aV _ (u.up st) p)
end
section
open PySem.SeqAt (EqAt RcAt)
mutual open Nat
abbrev V.go (v:V) (i:Vo->VS) (s:Vm->VS) (t:V2 V->VS):VS:=v.Wc V3 (λ_=>V3) i s (λ_=>V3) t (λ_=>V3) λ_ _=>V3
@[elab_as_elim] def Co {P:V->Prop} {y:V} {i s t} (h:y.go i s t=V6) (a:∀b,i b=V6->P (.Vl b)) (d:∀b,s b=V6->P (.Vn b)) (e:∀b,t b=V6->P (.Vj b)):P y:=by
 cases y with
 |Vl b=>show a b h
 |str b=>show d b h
 |Vj b=>show e b h
 |_=>cases h
nonrec abbrev nay {a:Type} (_:a):VS:=V3
end
mutual
noncomputable def gc:V->V->Bool
 | .int a,y=>y.go (λb=>a==b) nay nay
 | .str a,y=>y.go nay (λb=>a==b) nay
 | .tup xs,y=>y.go nay nay λys=>nC xs ys
 | .none,_=>false
 | .bool _,_=>false
 | .ref _,_=>false
 | .lit _,_=>false
 | .range _ _,_=>false
noncomputable def nC:List V->List V->Bool
 |[],ys=>ys.isEmpty
 |x::xs,ys=>ys.casesOn false λy ys=>gc x y&&nC xs ys
end
mutual
/-- of one make,as far as they go side by side -/
noncomputable def AV:V->V->Bool
 | .int _,y=>y.go (λ_=>true) nay nay
 | .str _,y=>y.go nay (λ_=>true) nay
 | .tup xs,y=>y.go nay nay λys=>wF xs ys
 | .none,_=>false
 | .bool _,_=>false
 | .ref _,_=>false
 | .lit _,_=>false
 | .range _ _,_=>false
noncomputable def wF:List V->List V->Bool
 |[],_=>true
 |x::xs,ys=>ys.casesOn true λy ys=>AV x y&&wF xs ys
end
mutual
noncomputable def dep:V->Nat
 | .tup xs=>pX xs+1
 | .none=>0
 | .bool _=>0
 | .ref _=>0
 | .lit _=>0
 | .range _ _=>0
 | .int _=>0
 | .str _=>0
noncomputable def pX:List V->Nat
 |[]=>0
 |x::xs=>max (dep x) (pX xs)
end
mutual open Nat
def ES {x:V}:∀{y:V},gc x y=V6->x=y:=by
 apply V.rec (WP:=λx=>∀{y:V},gc x y=V6->x=y) (Yg:=λxs=>∀{ys:V2 V},nC xs ys=V6->xs=ys)
  (λh=>(by cases h)) (λ_ _ h=>(by cases h)) (λa y h=>Co h (λb h=>VN V.Vl (Xa h)) (λ_ h=>(by cases h)) λ_ h=>(by cases h))
  (λa y h=>Co h (λ_ h=>(by cases h)) (λb h=>VN V.Vn (Xa h)) λ_ h=>(by cases h)) (λ_ _ h=>(by cases h))
  (λa c y h=>Co h (λ_ h=>(by cases h)) (λ_ h=>(by cases h)) λb h=>VN V.Vj (c h)) (λ_ _ h=>(by cases h)) (λ_ _ _ h=>(by cases h)) ?_ (λx xs d e ys h=>?_) x
 .intro ys h;show(bU.mp h).Vh
 .cases ys with
  |VH=>cases h
  |V4 y ys=>have h:=(aN _ _).mp h;rw[d h.1,e h.2]
def zX {x:V}:f6 x=V6->gc x x=V6:=by
 apply V.rec (WP:=λx=>f6 x=V6->gc x x=V6) (Yg:=λxs=>eU xs=V6->nC xs xs=V6)
  (λh=>(by cases h)) (λ_ h=>(by cases h)) (λa _=>Wk a) (λa _=>Wk a) (λ_ h=>(by cases h)) (λxs b h=>b h) (λ_ h=>(by cases h)) (λ_ _ h=>(by cases h))
  (λ_=>rfl) (λx xs c d h=>?_) x
 have h:=(aN _ _).mp h;show(aN _ _).WO {c h.1,d h.2}
def jj {x y:V} (h:f6 x=V6):gc x y=V6↔x=y:={ES,λe=>e▸zX h}
def zY {xs ys:V2 V} (h:eU xs=V6):nC xs ys=V6↔xs=ys:={λe=>V.Vj.inj (ES (x:=.Vj xs) (y:=.Vj ys) e),λe=>e▸zX (x:=.Vj xs) h}
def Fv {x:V} {xs:V2 V}:(eU (x::xs)=V6)=(f6 x=V6/\eU xs=V6):=aN _ _
def gW:∀{xs:V2 V},eU xs=V6->∀x∈xs,f6 x=V6:=by
 intro a
 induction a with
 |VH=>
  intro _ _ h;show(by cases h)
 |V4 y xs b=>
  intro h x c;have h:=(aN _ _).mp h;rcases aU.mp c with rfl|c
  .show h.1
  .show b h.2 x c
def sC:∀{xs:V2 V},∀x∈xs,dep x<=pX xs:=by
 intro a
 induction a with
 |VH=>
  intro _ h;show(by cases h)
 |V4 y xs b=>
  intro x c;rcases aU.mp c with rfl|c
  .show V9.le_max_left _ (pX xs)
  .show aG (b x c) (AQ (dep y) _)
def Eg {xs:V2 V}:∀{ys:V2 V},wF xs ys=V6->∀{i:V9} {x y:V},xs[i]?=V1 x->ys[i]?=V1 y->AV x y=V6:=by
 induction xs with
 |VH=>intro _ _ _ _ _ h;cases h
 |V4 a xs c=>
  intro ys h i x y d e;cases ys with
  |VH=>cases e
  |V4 b ys=>
   letI h:=(aN _ _).mp h;cases i with
   |WM=>cases cG d;cases cG e;show h.1
   |Wh i=>show c h.2 d e
def zZ {xs:V2 V}:∀{ys:V2 V},nC xs ys=((cD (min xs.V0 ys.V0)).Z4 (λi=>gc (xs.Wn i .V8) (ys.Wn i .V8))&&(xs.V0==ys.V0)):=by
 induction xs with
 |VH=>intro ys;cases ys<;>rfl
 |V4 x xs a=>
  intro ys;cases ys with
  |VH=>rfl
  |V4 y ys=>
   focus change(gc x y&&nC xs ys)=_
   rw[a,cW,cW,V9.add_min_add_right,V2.range_succ_eq_map,jE,V2.all_map,VS.and_assoc];show VN (λb=>gc x y&&(_&&b)) (by rw[oS,VV,VV,V9.add_right_cancel_iff])
def Eh {P:V->V->Prop} {x y:V} (h:AV x y=V6) (c:∀a b,P (.Vl a) (.Vl b)) (d:∀a b,P (.Vn a) (.Vn b)) (e:∀xs ys,wF xs ys=V6->P (.Vj xs) (.Vj ys)):P x y:=by
 cases x with
 |Vl a=>show Co h (λb _=>c a b) (λ_ h=>(by cases h)) λ_ h=>(by cases h)
 |str a=>show Co h (λ_ h=>(by cases h)) (λb _=>d a b) λ_ h=>(by cases h)
 |Vj a=>show Co h (λ_ h=>(by cases h)) (λ_ h=>(by cases h)) λb h=>e a b h
 |_=>cases h
def nU {P:V->Prop} {x:V} (h:f6 x=V6) (b:∀a,P (.Vl a)) (c:∀a,P (.Vn a)) (d:∀xs,eU xs=V6->P (.Vj xs)):P x:=by
 cases x with
 |Vl a=>show b a
 |str a=>show c a
 |Vj a=>show d a h
 |_=>cases h
def WV.inj {ι h} {x:V}:∀{y:V} {rv:VE},f6 x=V6->f6 y=V6->WV ι h x rv->WV ι h y rv->x=y:=by
 apply V.rec (WP:=λx=>∀{y:V} {rv:VE},f6 x=V6->f6 y=V6->WV ι h x rv->WV ι h y rv->x=y)
  (Yg:=λxs=>∀{ys:V2 V} {c:V2 VE},eU xs=V6->eU ys=V6->cT ι h xs c->cT ι h ys c->xs=ys)
  (λk=>(by cases k)) (λ_ _ _ k=>(by cases k)) (λi y rv _ k r q=>?_) (λi y rv _ k r q=>?_) (λ_ _ _ k=>(by cases k)) (λxs d y rv f k r q=>?_) (λ_ _ _ k=>(by cases k)) (λ_ _ _ _ k=>(by cases k)) (λ{ys c} _ k r q=>?_) (λx xs g j ys c f l r q=>?_) x
 .let(t,VC):=r;apply nU (P:=λy=>WV ι h y _->V.Vl i=y) k (λa q=>?_) (λa q=>?_) (λa _ q=>?_) q
  .let(u,e):=q;cases e;rfl
  .let(u,e):=q;cases e
  .let(_,_,_,e,_):=q;cases e
 .let(t,VC):=r;apply nU (P:=λy=>WV ι h y _->V.Vn i=y) k (λa q=>?_) (λa q=>?_) (λa _ q=>?_) q
  .let(u,e):=q;cases e
  .let(u,e):=q;cases e;rfl
  .let(_,_,_,e,_):=q;cases e
 .let(a,m,n,VC,no,o,p):=r;apply nU (P:=λy=>WV ι h y _->V.Vj xs=y) k (λa q=>?_) (λa q=>?_) (λys l q=>?_) q
  .let(u,e):=q;cases e
  .let(u,e):=q;cases e
  .let(b,s,z,e,A,B,C):=q;clear A;cases e;cases o.Vh.V7 B;show VN _ (d f l p C)
 .clear k;cases r;cases ys with
  |VH=>rfl
  |V4 y ys=>let(v,w,e,_):=q;cases e
 .let(v,w,VC,a,b):=r;cases ys with
  |VH=>cases q
  |V4 y ys=>
   let(D,E,e,F,G):=q;cases e;rw[Fv] at f l;rw[g f.1 l.1 a F,j f.2 l.2 b G]
def MR {ι s A} {xs ys:V2 V} {c d:VE} (f:A.Xz<cLine) (g:eU xs=V6) (h:eU ys=V6)
    (i:∀(j:V9) (x y:V),xs[j]?=V1 x->ys[j]?=V1 y->∀rv rw,WV ι s.V5 x rv->WV ι s.V5 y rw->EqAt A.Z8 s rv rw (gc x y))
    (r:WV ι s.V5 (.Vj xs) c) (q:WV ι s.V5 (.Vj ys) d):EqAt A s c d (nC xs ys):=by
 have e0:=λe:c=d=>WV.inj (x:=.Vj xs) (y:=.Vj ys) g h r (e▸q);let(a,k,l,VC,m,n,o):=r;let(b,p,t,VC,u,v,w):=q;by_cases hab:a=b
 .clear v u t;subst hab;rw[show nC xs ys=V6 from(zY g).WO (V.Vj.inj (e0 rfl))];show EqAt.same _
 letI z:=gF o;have e2:=gF w;rw[zZ,<-z,<-e2];apply EqAt.of_refs hab (RcAt.tuples {_,n,VC,l,VC} {_,v,VC,t,VC} f λj B C=>?_);letI D:xs[j]?=V1 (xs.Wn j .V8):=by rw[dU,aI (z▸B)];rfl
 letI E:ys[j]?=V1 (ys.Wn j .V8):=by rw[dU,aI (e2▸C)];rfl
 let(rv,F,G):=o.ZN D;let(H,I,J):=w.ZN E;rw[aZ,gP B] at F;rw[aZ,gP C] at I;cases F;cases I;show i j _ _ D E _ _ G J
def O9 {ι s} (d:V9):∀{A:W8} {x y:V} {c e:VE},dep x<=d->A.Xz+d<9900->f6 x=V6->f6 y=V6->AV x y=V6->WV ι s.V5 x c->WV ι s.V5 y e->EqAt A s c e (gc x y):=by
 induction d with
 |WM=>
  intro A x y c e f g h i hs r q;apply Eh (P:=λx y=>dep x<=0->WV ι s.V5 x c->WV ι s.V5 y e->EqAt A s c e (gc x y)) hs (λa b _ r q=>?_) (λa b _ r q=>?_) (λxs ys _ f _ _=>(by cases f)) f r q
  .let(t,VC):=r;let(u,VC):=q;show(MeetsSeq.EqGives.Vl a _ t u).at A s
  .let(t,VC):=r;let(u,VC):=q;show(eqGives_str a _ t u).at A s
 |Wh d k=>
  intro A x y c e f g h i hs r q;apply Eh (P:=λx y=>dep x<=d+1->f6 x=V6->f6 y=V6->WV ι s.V5 x c->WV ι s.V5 y e->EqAt A s c e (gc x y)) hs (λa b _ _ _ r q=>?_) (λa b _ _ _ r q=>?_) (λxs ys hs f h i r q=>?_) f h i r q
  .let(t,VC):=r;let(u,VC):=q;show(MeetsSeq.EqGives.Vl a _ t u).at A s
  .let(t,VC):=r;let(u,VC):=q;show(eqGives_str a _ t u).at A s
  .apply MR (dW (cR ..) g) h i (λj x y l m rv rw a b=>?_) r q;have mx:=aF l;show k (aG (sC _ mx) (jz f)) (by change A.Xz+1+d<9900;rw[gq,kP 1];show g) (gW h _ mx) (gW i _ (aF m)) (Eg hs l m) a b
end
end
section
open PySem.SeqAt (EqAt RcAt RcNeAt)
mutual open Nat
def OX {ι s} {A:W8} {d:V9} {xs ys:V2 V} {e f:VW VE} (g:A.Xz+d+1<9900) (h:pX xs<=d) (i:eU xs=V6) (k:eU ys=V6) (hs:wF xs ys=V6) (l:cT ι s.V5 xs e.VD) (m:cT ι s.V5 ys f.VD):
    ∀j (_:j<e.VA) (_:j<f.VA),EqAt A.Z8 s e[j] f[j] (gc (xs.Wn j .V8) (ys.Wn j .V8)):=λj o q=>by
 letI r:=gF l;letI t:=gF m;letI u:xs[j]?=V1 (xs[j]'(Ex o r)):=aI _;letI v:ys[j]?=V1 (ys[j]'(Ex q t)):=aI _;let(rv,w,z):=l.ZN u;let(B,C,D):=m.ZN v
 letI E:e[j]=rv:=by
  letI:e.VD[j]?=V1 e[j]:=by rw[aZ];simp[o]
  rw[this] at w;show cG w
 letI F:f[j]=B:=by
  letI:f.VD[j]?=V1 f[j]:=by rw[aZ];simp[q]
  rw[this] at C;show cG C
 rw[E,F];letI G:xs.Wn j .V8=xs[j]'(Ex o r):=by simp[V2.Wn,u]
 letI H:ys.Wn j .V8=ys[j]'(Ex q t):=by simp[V2.Wn,v]
 rw[G,H];apply O9 d (x:=xs[j]'(Ex o r)) (y:=ys[j]'(Ex q t)) ?_ ?_ (gW i _ (rT _)) (gW k _ (rT _)) (Eg hs u v) z D
 .show aG (sC _ (rT _)) h
 .show dX [{1,.p (.p .a .b) (.n 1),.n 9900}] {1,.p (.p .a (.n 1)) .b,.n 9900} [1,1] [] tt g
def Yj.neT {xs ys:V2 V} (e:eU xs=V6) (f:eU ys=V6) (hs:wF xs ys=V6) (g:pX xs<=50) (p:P (.WW (!nC xs ys)) M):Yj c n (eS .NotEq) (.Vj xs) (.Vj ys) M P:=λA ι s h i j G k l Q E q=>by let(a,o,r,VC,t,u,v):=k;let(b,x,y,VC,z,B,C):=l;letI D:=j.uni;apply RcNeAt.tuples {_,u,VC,r,VC} {_,B,VC,y,VC} j.cl (OX (d:=50) (dX [{1,.p (.p .a (.m 16 .b)) (.n 100),.n 9900}] {1,.p (.p .a (.n 50)) (.n 1),.n 9900} [1,1] [] tt D) g e f hs v C) c.VM c.w E Q ?_;rw[gF v,gF C,<-zZ];show q ι s _ M .Vt G .Vt (aV _ o5 p)
def Yj.eqL0 {a b:V9} {xs:V2 V} (ha:M[a]?=V1 (.VF xs)) (d:M[b]?=V1 (.VF [])) (p:P (.WW xs.WN) M):Yj c n (eS .Eq) (.VG a) (.VG b) M P:=λA ι s f g h G i k Q E q=>by
 let(x,l,VC):=i;let(y,m,VC):=k;let(o,r,t,u,w,z):=gH G ha;clear ha;let(B,C,D,F,H,I):=gH G d;rw[l] at u;cases u;rw[m] at F;cases F;letI J:=gF z;letI K:=gF I;clear z;cases xs with
 |VH=>
  apply Ve.SeqAt.eq_listAt (e:=λ_=>V6) (eG w) (eG H) (J.V7 K.Vh) h.cl (λj L N=>Vy L (by rw[J];simp)) ?_;rw[J];show q ι s _ M .Vt G .Vt (aV _ o5 p)
 |V4 v vs=>
  apply Ve.SeqAt.eq_list_lengthsAt (eG w) (eG H) (by rw[J,K];simp) h.cl ?_;show q ι s _ M .Vt G .Vt (aV _ o5 p)
def Yj.neL0 {a b:V9} {xs:V2 V} (ha:M[a]?=V1 (.VF xs)) (d:M[b]?=V1 (.VF [])) (p:P (.WW (!xs.WN)) M):Yj c n (eS .NotEq) (.VG a) (.VG b) M P:=λA ι s f g h G i k Q E q=>by
 let(x,l,VC):=i;let(y,m,VC):=k;let(o,r,t,u,z,B):=gH G ha;clear ha;let(C,D,F,H,I,J):=gH G d;rw[l] at u;cases u;rw[m] at H;cases H;letI K:=gF B;letI L:=gF J;clear B;cases xs with
 |VH=>
  apply RcNeAt.lists (e:=λ_=>V6) (eG z) (eG I) (K.V7 L.Vh) h.cl (λj N R=>Vy N (by rw[K];simp)) c.VM c.w E Q ?_;rw[K];show q ι s _ M .Vt G .Vt (aV _ o5 p)
 |V4 v vs=>
  apply RcNeAt.lists_lengths (eG z) (eG I) (by rw[K,L];simp) h.cl c.VM c.w E Q ?_;show q ι s _ M .Vt G .Vt (aV _ o5 p)
def Nr {ι s} {A:W8} {x:V} {b:VE} {xs:V2 V} {VL:VW VE} (d:A.Xz+60<9900) (f:f6 x=V6) (g:eU xs=V6) (hs:∀y∈xs,AV y x=V6) (h:pX xs<=50) (r:WV ι s.V5 x b) (j:cT ι s.V5 xs VL.VD):
    ∃e:VE->VS,(∀y,y∈VL->EqAt A.Z8 s y b (e y))/\VL.any e=xs.any (λy=>gc y x)/\∀(i:V9) v y,xs[i]?=V1 v->VL[i]?=V1 y->e y=gc v x:=by
 classical
 letI l:∀(i:V9) v y,xs[i]?=V1 v->VL[i]?=V1 y->decide (∃v,v∈xs/\WV ι s.V5 v y/\gc v x=V6)=gc v x:=λi v y hv m=>by
  letI o:=aF hv;let(q,e,rv):=j.ZN hv;rw[aZ,m] at e;cases e;by_cases z:gc v x=V6
  .rw[z];show Vs (g6 v o rv z)
  .rw[rW] at z;rw[z];apply Vk λt=>?_;let(u,w,B,C):=t;rw[WV.inj (gW g u w) (gW g v o) B rv,z] at C;cases C
 apply g6 (λy=>decide (∃v,v∈xs/\WV ι s.V5 v y/\gc v x=V6)) (λy m=>?_) ?_ l
 .let(i,hi):=eT.mp (uo.WO m);let(v,hv,rv):=j.getR hi;letI o:=aF hv
  focus change EqAt A.Z8 s y b (decide (∃v,v∈xs/\WV ι s.V5 v y/\gc v x=V6))
  rw[l i v y hv (by rw[<-aZ];show hi)];show O9 50 (aG (sC v o) h) (by show e9 [{1,.p .a (.n 60),.n 9900}] {1,.p (.p .a (.n 1)) (.n 50),.n 9900} [1,1] [] tt d) (gW g v o) f (hs v o) rv r
 .rw[<-VW.any_toList,oS,iC,iC];constructor
  .rintro⟨y,m,k⟩;let(v,hv,rv,D):=W1 k;show aV v hv D
  .rintro⟨v,hv,D⟩;let(i,hi):=eT.mp hv;let(y,m,E):=j.ZN hi;show aV y (aF m) (Vs (g6 v hv E D))
def Yj.notInL {a:V9} {x:V} {xs:V2 V} (ha:M[a]?=V1 (.VF xs)) (b:f6 x=V6) (d:eU xs=V6) (hs:∀y∈xs,AV y x=V6) (f:pX xs<=50) (p:P (.WW (!xs.any λy=>gc y x)) M):Yj c n (eS .NotIn) x (.VG a) M P:=λA ι s g h i G j k Q E q=>by let(y,l,VC):=k;let(m,o,r,t,u,v):=gH G ha;rw[l] at t;cases t;letI w:=i.uni;let(e,z,B,_):=Nr (A:=A) (RK w) b d hs f j v;apply Ve.SeqAt.notIn_listAt e (eG u) z ?_;rw[B];show q ι s _ M .Vt G .Vt (aV _ o5 p)
def Yj.notInT {x:V} {xs:V2 V} (a:f6 x=V6) (b:eU xs=V6) (hs:∀y∈xs,AV y x=V6) (d:pX xs<=50) (p:P (.WW (!xs.any λy=>gc y x)) M):Yj c n (eS .NotIn) x (.Vj xs) M P:=λA ι s f g h G i j Q E q=>by let(y,k,l,VC,no,m,o):=j;letI r:=h.uni;let(e,t,u,_):=Nr (A:=A) (RK r) a b hs d i o;apply Ve.SeqAt.notIn_tupleAt e {_,m,VC,l,VC} t ?_;rw[u];show q ι s _ M .Vt G .Vt (aV _ o5 p)
end
end
mutual open Nat
structure SI (κ:ZF) (a₀:VW WB) (pd:VW (V9×V9×V9)) (st:W7):Prop where
 YW:(YL st).X7 a₀
 Y2:XL st=κ
 ZO:nL st=V8
 pend:gi st=pd
variable {VM:Wj} {w:XA} {A:W8} {E:VE->VI->Prop} {s:VI} {κ:ZF} {a₀:VW WB} {pd:VW (V9×V9×V9)} {st:W7}
def SI.VA (h:SI κ a₀ pd st):(YL st).VA=a₀.VA:=h.YW.size_eq
def SI.mem (h:SI κ a₀ pd st) {i:V9} (hi:i<a₀.VA):∃x,(YL st)[i]?=V1 x/\x∈a₀.VD:=by
 have hi':i<(YL st).VA:=by rw[h.VA];show hi
 show aV ((YL st)[i]) (Wr _ i hi') ((jW.mp h.YW).X9.mp (by simp))
def SI.arr (h:SI κ a₀ pd st) {xs:VW WB} (a:xs.X7 (YL st)):SI κ a₀ pd (setArr st xs):={a.V7 h.YW,h.Y2,h.ZO,h.pend}
abbrev qE (VM:Wj) (w:XA) (A:W8) (s:VI) (κ:ZF) (a₀:VW WB):Prop:=
 ∀p q,p∈a₀.VD->q∈a₀.VD->∀(Q:VS->VI->Prop) (E:VE->VI->Prop),(∀b,Q b s)->VO (Vg VM w) A (keyLt' κ p.1 q.1) Q E s
def CM (L:qE VM w A s κ a₀) (a:XL st=κ) {x y:WB} (c:x∈a₀.VD) (d:y∈a₀.VD) {Q:VK VS->W7->Prop} (h:∀b,Q (V1 b) st):Yz (Vg VM w) A E s (lt' x y) Q st:=by
 focus rw[lt'_eq]
 apply cN (uQ ?_);rw[a];apply cN (wpS_lift (oY (L x y c d _ _ λb=>{VC,?_})));show bO (h b)
def wA {arr:VW WB} {i:V9} {x:WB} (hi:arr[i]?=V1 x) {Q:WB->W7->Prop} (h:Q x st):Yz (Vg VM w) A E s (elem' arr i) Q st:=by rw[elem'_eq,hi];show bO h
def qM (L:qE VM w A s κ a₀) (a:SI κ a₀ pd st) {i j:V9} (hi:i<a₀.VA) (c:j<a₀.VA) {Q:VK VS->W7->Prop} (h:∀b,Q (V1 b) st):Yz (Vg VM w) A E s (ltAt' i j) Q st:=by
 focus rw[ltAt'_eq]
 apply cN (uQ ?_);let(x,d,e):=a.mem hi;let(y,f,g):=a.mem c;show cN (wA d (cN (wA f (CM L a.Y2 e g h))))
def yw {i j:V9} (a:SI κ a₀ pd st) {Q:Yn->W7->Prop} (h:∀b,SI κ a₀ pd b->Q () b):Yz (Vg VM w) A E s (reverseSlice' i j) Q st:=by rw[reverseSlice'_eq];show rj (h _ (a.arr (mirror_perm _ _ _ _)))
def Kh {i j:V9} (a:SI κ a₀ pd st) {Q:Yn->W7->Prop} (h:∀b,SI κ a₀ pd b->Q () b):Yz (Vg VM w) A E s (moveDown' i j) Q st:=by rw[moveDown'_eq];show rj (h _ (a.arr (bubble_perm _ _ _)))
def BA {x:Zf} {Q:Yn->W7->Prop} (h:Q () st):Yz (Vg VM w) A E s (liftM (rule x):Y3 W7 ZD Yn) Q st:=wpS_lift (g5 {VC,h})
def bE {a:Type} {arr:VW WB} {i:V9} {x:WB} (hi:arr[i]?=V1 x) {f:WB->Y3 W7 ZD a} {Q:a->W7->Prop} (h:Yz (Vg VM w) A E s (f x) Q st):Yz (Vg VM w) A E s (elem' arr i>>=f) Q st:=cN (wA hi h)
def bL {a:Type} (L:qE VM w A s κ a₀) (c:XL st=κ) {x y:WB} (d:x∈a₀.VD) (e:y∈a₀.VD) {f:VK VS->Y3 W7 ZD a} {Q:a->W7->Prop} (h:∀b,Yz (Vg VM w) A E s (f (V1 b)) Q st):Yz (Vg VM w) A E s (lt' x y>>=f) Q st:=cN (CM L c d e h)
def bG {a:Type} {f:W7->Y3 W7 ZD a} {Q:a->W7->Prop} (h:Yz (Vg VM w) A E s (f st) Q st):Yz (Vg VM w) A E s (ZN>>=f) Q st:=cN (uQ h)
def bR {a:Type} {x:Zf} {f:Yn->Y3 W7 ZD a} {Q:a->W7->Prop} (h:Yz (Vg VM w) A E s (f ()) Q st):Yz (Vg VM w) A E s ((liftM (rule x):Y3 W7 ZD Yn)>>=f) Q st:=cN (BA h)
def bI {a:Type} {c:Prop} [Yk c] {b d:Y3 W7 ZD a} {Q:a->W7->Prop} (e:c->Yz (Vg VM w) A E s b Q st) (f:¬c->Yz (Vg VM w) A E s d Q st):Yz (Vg VM w) A E s (if c then b else d) Q st:=if q:c then by rw[Vw q];show e q else by rw[Vd q];show f q
def m7 {σ d:Type} {M:Model} {a b:V9} {f:V9->d->Y3 σ ZD (Y4 d)} (I:d->σ->Prop) {Q:d->σ->Prop} {c:d} {st:σ} (h:I c st)
    (hs:∀i c st,a<=i->i<b->I c st->Yz M A E s (f i c) (λr e=>match r with| .YS g=>Q g e| .yield g=>I g e) st) (j:∀c st,I c st->Q c st):Yz M A E s (forIn [a:b] c f) Q st:=
 iZ (I:=λ_=>I) hs j h
def LV {l r:V9} (h:¬l>=r):(l+r)/2<=r:=V9.div_le_of_le_mul (by rw[V9.two_mul];show gE (V9.le_of_not_le h) r)
def qW {lo m i z:V9} (a:lo+m<=z) (h:i<m):lo+i<z:=aY (wj h lo) a
def tC {lo m i z:V9} (a:lo+m<=z) (h:i<m):lo+i-1<z:=dW (nO _ _) (qW a h)
def Pe (L:qE VM w A s κ a₀) (d:SI κ a₀ pd st) {lo m:V9} (g:1<=m) (o:lo+m<=a₀.VA) {Q:VK V9->W7->Prop} (h:∀k t,SI κ a₀ pd t->1<=k->k<=m->Q (V1 k) t):
    Yz (Vg VM w) A E s (countRun' lo m) Q st:=by
 letI y:∀{n:V9} {st:W7} {f:V9->VK (VK V9)×V9->Y3 W7 ZD (Y4 (VK (VK V9)×V9))} {r:VK (VK V9)×V9->Y3 W7 ZD (VK V9)},(∀k (st:W7),SI κ a₀ pd st->1<=k->k<=m->Yz (Vg VM w) A E s (r (V8,k)) Q st)->
   (∀i (st:W7) R,SI κ a₀ pd st->i<m->(∀b:VS,R (if b then .YS (V8,i) else .yield (V8,i+1)) st)->Yz (Vg VM w) A E s (f i (V8,i)) R st)->SI κ a₀ pd st->1<=n->n<=m->
   Yz (Vg VM w) A E s (reverseSlice' lo (lo+n)>>=λ_=>forIn [n:m] ((V8,n):VK (VK V9)×V9) f>>=r) Q st:=by
  intro n st f r z B d C D;apply cN (yw d λst d=>cN (iZ (I:=λx c t=>c=(V8,x)/\SI κ a₀ pd t) ?_ ?_ {VC,d}))
  .rintro i c t hi F ⟨VC,d⟩;apply B i t _ d F λb=>?_;cases b
   .show{VC,d}
   .show z _ _ d (aG C hi) (bZ F)
  .rintro c t ⟨VC,d⟩;show z _ _ d (bY [.l V3 (.n 1) (.v 0)] (.l V3 (.n 1) (.w (.v 1) (.v 0))) [[0,1,1],[1,1,1]] tt [_,_] [] g) (bY [.l V3 (.v 0) (.v 1)] (.l V3 (.w (.v 0) (.v 1)) (.v 1)) [[0,1],[0,1,1]] tt [_,_] [] D)
 focus rw[countRun'_eq]
 apply cN (gZ (iZ (I:=λx c t=>c=(V8,x)/\SI κ a₀ pd t) (Q:=λc t=>(∃x,c=(V8,x)/\1<=x/\x<=m)/\SI κ a₀ pd t) ?_ ?_ {VC,d}) ?_)
 .rintro i c t hi F ⟨VC,d⟩;apply cN (qM L d (qW o F) (tC o F) λb=>?_);cases b
  .show bO {VC,d}
  .show bO {{_,VC,hi,bZ F},d}
 .rintro c t ⟨VC,d⟩;show{{_,VC,bY [] (.l V3 (.n 1) (.w (.n 1) (.v 0))) [[1,1],[0,1]] tt [_] [],bY [.l V3 (.n 1) (.v 0)] (.l V3 (.w (.n 1) (.v 0)) (.v 0)) [[0,1],[0,1,1]] tt [_] [] g},d}
 rintro c st ⟨⟨n,VC,C,D⟩,d⟩;extract_lets r n' m' q' j
 focus change Yz _ _ _ _ (if (n'==m)=V6 then _ else _) Q _
 split
 .show bO (h n st d C D)
 rename_i G
 letI G:n≠m:=by simpa using G
 letI H:∀u (st:W7),SI κ a₀ pd st->Yz (Vg VM w) A E s (j u) Q st:=by
  intro u st d;apply(bR ?_);apply cN (gZ (iZ (I:=λx c t=>(∃q,c=(V8,x,q))/\SI κ a₀ pd t) (Q:=λc t=>(∃x q,c=(V8,x,q)/\1<=x/\x<=m)/\SI κ a₀ pd t) ?_ ?_ {{_,VC},d}) ?_)
  .rintro i c t hi F ⟨⟨q,VC⟩,d⟩;letI hi:n+1<=i:=hi;apply cN (qM L d (qW o F) (tC o F) λb=>?_);cases b
   .apply cN (qM L d (tC o F) (qW o F) λb=>?_);cases b
    .show bO {{_,VC},d}
    .show bO {{_,_,VC,aG (nN (dP _)) hi,bZ F},d}
   .focus change Yz _ _ _ _ (if q>0 then _ else _) _ _
    split
    .show cN (yw d λt d=>bO {{_,VC},d})
    .show bO {{_,VC},d}
  .rintro c t ⟨⟨q,VC⟩,d⟩;have e:max (n+1) m=m:=bY [.l V3 (.v 0) (.v 1),.N (.e V3 (.v 0) (.v 1))] (.e V3 (.w (.p (.v 0) (.n 1)) (.v 1)) (.v 1)) [[0,1],[0,1],[0,1],[0,1],[1,1],[1,1],[0,1,0,1],[0,0,1,1]] tt [_,_] [] D G;show{{_,q,VC,by change 1<=max (n+1) m;show dX [{0,.n 1,.a},{2,.b,.a}] {0,.n 1,.b} [1,1,0,1] [] tt g e,by change max (n+1) m<=m;show dX [{2,.a,.b}] {0,.a,.b} [1,1] [] tt e},d}
  rintro c st ⟨⟨n,q,VC,C,D⟩,d⟩
  focus change Yz _ _ _ _ (if q>0 then _ else _) Q _
  split
  .show cN (yw d λst d=>y (λk st d g o=>bO (h k st d g o)) (λi st R d F h=>cN (qM L d (qW o F) (tC o F) λb=>by cases b;show bO (h V3);show bO (h V6))) d C D)
  .show y (λk st d g o=>bO (h k st d g o)) (λi st R d F h=>cN (qM L d (qW o F) (tC o F) λb=>by cases b;show bO (h V3);show bO (h V6))) d C D
 clear_value j;split
 .apply cN (qM L d (qW (i:=0) o g) (tC o (fT D G)) λb=>?_);cases b
  .show cN (yw d λst d=>H _ _ d)
  .show bO (h n st d C D)
 .show H _ _ d
def Ud (L:qE VM w A s κ a₀) (a:SI κ a₀ pd st) {lo m d:V9} (e:lo+m<=a₀.VA) {Q:VS->W7->Prop} (h:∀f,SI κ a₀ pd f->Q V6 f):
    Yz (Vg VM w) A E s (binarySort' lo m d) Q st:=by
 focus rw[binarySort'_eq]
 apply cN (gZ (iZ (I:=λx c f=>c=(V8,())/\SI κ a₀ pd f) (Q:=λc f=>c=(V8,())/\SI κ a₀ pd f) ?_ (λ_ _ h=>h) {VC,a}) ?_)
 .rintro k c f hi hm ⟨VC,a⟩;apply cN (gZ (iZ (I:=λx c f=>(∃l r,c=(V8,l,r)/\r<=k)/\SI κ a₀ pd f) (Q:=λc f=>(∃l r,c=(V8,l,r))/\SI κ a₀ pd f) ?_ (λ_ _ h=>?_) {(kW _ _ rfl (aM _)),a}) ?_)
  .rintro i c f _ _ ⟨⟨l,r,VC,hr⟩,a⟩
   focus change Yz _ _ _ _ (if l>=r then _ else _) _ _
   split
   .show bO {(tR _ _ rfl),a}
   .apply cN (qM L a (qW e hm) (qW e (dW (aG (LV ‹_›) hr) hm)) λb=>?_);cases b
    .show bO {(kW _ _ rfl hr),a}
    .show bO {(kW _ _ rfl (aG (LV ‹_›) hr)),a}
  .let((l,r,VC,_),a):=h;show{(tR _ _ rfl),a}
  .rintro c f ⟨⟨l,r,VC⟩,a⟩;show cN (Kh a λf a=>bO {VC,a})
 .rintro c f ⟨VC,a⟩;show bO (h _ a)
abbrev Iz:VS->WB->VW WB->V9->V9->V9->Y3 W7 ZD (VK V9):=sortPriv% Ve.WA.gallop
def O4 {l r n:V9} (h:¬l>=r) (k:r<=n):l+(r-l)/2<n:=
 have h:=AP h
 aY (qe (wj (V9.div_lt_self (iU h) (cC 1)) l) (fH (bZ h))) k
def gk (L:qE VM w A s κ a₀) (a:XL st=κ) {x c:WB} (d:x∈a₀.VD) (mk:c∈a₀.VD) (left:VS) {Q:VK VS->W7->Prop} (h:∀b,Q (V1 b) st):Yz (Vg VM w) A E s (if left=V6 then lt' x c else (lt' c x>>=λb=>X3 (b.VP λb=> !b))) Q st:=by
 cases left
 .show(bL L a mk d λb=>bO (h _))
 .show CM L a d mk h
def bB {a:Type} {arr:VW WB} {i:V9} {c:WB->Y3 W7 ZD (VK VS)} {f:VK VS->Y3 W7 ZD a} {Q:a->W7->Prop} (hi:i<arr.VA)
    (d:∀x∈arr.VD,∀e:VK VS->W7->Prop,(∀b,e (V1 b) st)->Yz (Vg VM w) A E s (c x) e st) (h:∀b,Yz (Vg VM w) A E s (f (V1 b)) Q st):Yz (Vg VM w) A E s ((elem' arr i>>=c)>>=f) Q st:=
 cN (bE (Wr arr i hi) (d _ (by simp) _ h))
def MF (L:qE VM w A s κ a₀) (f:XL st=κ) {left:VS} {g:WB} {arr:VW WB} {X5 n j:V9} (mk:g∈a₀.VD) (m:∀x,x∈arr.VD->x∈a₀.VD) (o:X5+n<=arr.VA) (q:j<n) {Q:VK V9->W7->Prop} (h:∀k,k<=n->Q (V1 k) st):
    Yz (Vg VM w) A E s (Iz left g arr X5 n j) Q st:=by
 letI hz:∀{i},i<n->X5+i<arr.VA:=λhi=>ir [{0,.p .a .b,.c},{1,.d,.b}] {1,.p .a .d,.c} [1,1,1] [] tt o hi;apply bB (hz q) (λx t y h'=>gk L f (m _ t) mk left h') λb=>?_;dsimp -zeta only;extract_lets jp m1 m2
 letI z:∀u a b lo hi,hi<=n->Yz (Vg VM w) A E s (jp u a b lo hi) Q st:=by
  intro u _ _ lo hi B;apply cN (gZ (m7 (I:=λc C=>(∃l r,c=(V8,l,r)/\r<=n)/\C=st) (Q:=λc C=>(∃l r,c=(V8,l,r)/\r<=n)/\C=st) {(kW _ _ rfl B),VC} ?_ (λ_ _ h=>h)) ?_)
  .rintro i c C _ _ ⟨⟨l,r,VC,hr⟩,VC⟩;apply bI (λ_=>bO {(kW _ _ rfl hr),VC}) λD=>?_;have e:=O4 D hr;apply bB (hz e) (λx t y h'=>gk L f (m _ t) mk left h') λb=>?_;show bI (λ_=>bO {(kW _ _ rfl hr),VC}) λ_=>bO {(kW _ _ rfl (bZ e)),VC}
  .rintro c C ⟨⟨l,r,VC,hr⟩,VC⟩;show bO (h _ hr)
 clear_value jp;apply bI (λ_=>?_) λ_=>?_
 rotate_left
 .apply cN (gZ (m7 (I:=λc C=>(∃l r,c=(V8,l,r))/\C=st) (Q:=λc C=>(∃l r,c=(V8,l,r))/\C=st) {(tR _ _ rfl),VC} ?_ (λ_ _ h=>h)) ?_)
  .rintro i c C _ _ ⟨⟨l,r,VC⟩,VC⟩;apply bI (λ_=>bO {(tR _ _ rfl),VC}) λ_=>?_;apply bB (hz (dW (nO _ _) q)) (λx t y h'=>gk L f (m _ t) mk left h') λb=>?_;show bI (λ_=>bO {(tR _ _ rfl),VC}) λ_=>bO {(tR _ _ rfl),VC}
  .rintro c C ⟨⟨l,r,VC⟩,VC⟩;show z _ _ _ _ _ (aG (nO _ _) (bZ q))
 .apply cN (gZ (m7 (I:=λc C=>(∃l r,c=(V8,l,r))/\C=st) (Q:=λc C=>(∃l r,c=(V8,l,r))/\C=st) {(tR _ _ rfl),VC} ?_ (λ_ _ h=>h)) ?_)
  .rintro i c C _ _ ⟨⟨l,r,VC⟩,VC⟩;apply bI (λ_=>bO {(tR _ _ rfl),VC}) λD=>?_;apply bB (hz (bY [.N (.l V3 (.s (.v 0) (.v 1)) (.v 2))] (.k V3 (.p (.v 1) (.v 2)) (.v 0)) [[1,0,1],[0,0,1]] tt [_,_,_] [] D)) (λx t y h'=>gk L f (m _ t) mk left h') λb=>?_;show bI (λ_=>bO {(tR _ _ rfl),VC}) λ_=>bO {(tR _ _ rfl),VC}
  .rintro c C ⟨⟨l,r,VC⟩,VC⟩;show z _ _ _ _ _ (by change j+min r (n-j)<=n;show bY [.k V3 (.v 0) (.v 1)] (.l V3 (.p (.v 0) (.u (.v 2) (.s (.v 1) (.v 0)))) (.v 1)) [[0,1,1],[0,0,1],[1,0,0,1],[0,0,1,1]] tt [_,_,_] [] q)
def bW {a:Type} (L:qE VM w A s κ a₀) (b:XL st=κ) {left:VS} {c:WB} {arr:VW WB} {X5 n d:V9} (mk:c∈a₀.VD) (e:∀x,x∈arr.VD->x∈a₀.VD) (g:X5+n<=arr.VA) (i:d<n) {f:VK V9->Y3 W7 ZD a} {Q:a->W7->Prop} (h:∀k,k<=n->Yz (Vg VM w) A E s (f (V1 k)) Q st):
    Yz (Vg VM w) A E s (Iz left c arr X5 n d>>=f) Q st:=cN (MF L b mk e g i h)
end
section
mutual open Nat
abbrev tW:V9->Y3 W7 ZD Yn:=sortPriv% Ve.WA.setMinGallop
structure Kp (st st':W7):Prop where
 Y2:XL st'=XL st
 arr:YL st'=YL st
 pend:gi st'=gi st
 ZO:nL st'=nL st
def Kp.Vt:Kp st st:={VC,VC,VC,VC}
def Kg {a:W7} (k:Kp a st) {g:V9} {Q:Yn->W7->Prop} (h:∀b,Kp a b->Q () b):Yz (Vg VM w) A E s (tW g) Q st:=by show rj (h _ {k.Y2,k.arr,k.pend,k.ZO})
def bS {a:Type} {b:W7} (k:Kp b st) {g:V9} {f:Yn->Y3 W7 ZD a} {Q:a->W7->Prop} (h:∀c,Kp b c->Yz (Vg VM w) A E s (f ()) Q c):Yz (Vg VM w) A E s (tW g>>=f) Q st:=cN (Kg k h)
structure MP (As Bs Wf:V2 WB) (i j:V9):Prop where
 YW:Wf.X7 (As.WU i++Bs.WU j)
 la:i<=As.V0
 lb:j<=Bs.V0
def MP.YS {As Bs Wf i j} (m:MP As Bs Wf i j):(Wf++As.XV i++Bs.XV j).X7 (As++Bs):=by
 have h:(Wf++As.XV i++Bs.XV j).X7 ((As.WU i++Bs.WU j)++As.XV i++Bs.XV j):=(m.YW.YR _).YR _;apply h.V7 ?_;have e:As++Bs=(As.WU i++As.XV i)++(Bs.WU j++Bs.XV j):=by rw[gm,gm]
 rw[e];simp only[aR];apply f9 _ ?_;rw[<-aR,<-aR];show qL _ fc
def MP.done2 {As Bs Wf i j} (m:MP As Bs Wf i j):(Wf++Bs.XV j++As.XV i).X7 (As++Bs):=by apply q7 ?_ m.YS;simp only[aR];show f9 _ fc
def MP.moreA {As Bs Wf i j k} (m:MP As Bs Wf i j) (h:i+k<=As.V0):MP As Bs (Wf++(As.XV i).WU k) (i+k) j:=by apply{?_,h,m.lb};apply(m.YW.YR _).V7 ?_;rw[V2.take_add];simp only[aR];show f9 _ fc
def MP.moreB {As Bs Wf i j k} (m:MP As Bs Wf i j) (h:j+k<=Bs.V0):MP As Bs (Wf++(Bs.XV j).WU k) i (j+k):=by apply{?_,m.la,h};apply(m.YW.YR _).V7 ?_;rw[V2.take_add];simp only[aR];show oq _
def MP.pushA {As Bs Wf i j} {x:WB} (m:MP As Bs Wf i j) (h:As[i]?=V1 x):MP As Bs (Wf++[x]) (i+1) j:=by
 have l:=(aB.mp h).1;have:=m.moreA (k:=1) l
 rwa[show(As.XV i).WU 1=[x] by rw[V2.take_one,V2.head?_drop,h];rfl] at this
def MP.pushB {As Bs Wf i j} {x:WB} (m:MP As Bs Wf i j) (h:Bs[j]?=V1 x):MP As Bs (Wf++[x]) i (j+1):=by
 have l:=(aB.mp h).1;have:=m.moreB (k:=1) l
 rwa[show(Bs.XV j).WU 1=[x] by rw[V2.take_one,V2.head?_drop,h];rfl] at this
def MP.WM {As Bs}:MP As Bs [] 0 0:={oq _,dP _,dP _}
abbrev LX:VW WB->VW WB->Y3 W7 ZD (VW WB):=sortPriv% Ve.WA.mergeLo
def yN {a:VW WB} {i:V9}:(a.Xg i a.VA).VD=a.VD.XV i:=by rw[eY,dY];show jt (by simp)
def Q2 {a:VW WB} {i k:V9}:(a.Xg i (i+k)).VD=(a.VD.XV i).WU k:=by rw[eY,dY,ic]
def Q3 {a:VW WB} {k:V9}:(a.Xg 0 k).VD=a.VD.WU k:=by rw[eY,dY];rfl
def Sv {a:VW WB} {i:V9} (h:i<a.VA):∃x,a[i]?=V1 x/\a.VD[i]?=V1 x/\x∈a.VD:={a[i],Wr a _ h,by show aI ‹_›,by simp}
structure LI (a b Wf:VW WB) (i j:V9):Prop where
 mp:MP a.VD b.VD Wf.VD i j
 la:i+1<a.VA
 lb:j<b.VA
abbrev Fi (a b r:VW WB):Prop:=r.VD.X7 (a.VD++b.VD)
variable {a b Wf:VW WB} {i j k:V9} {x:WB}
def MP.XR (m:MP a.VD b.VD Wf.VD i j):Fi a b (Wf++a.Xg i a.VA++b.Xg j b.VA):=by unfold Fi;rw[cH,cH,yN,yN];show m.YS
def MP.fin2 (m:MP a.VD b.VD Wf.VD i j):Fi a b (Wf++b.Xg j b.VA++a.Xg i a.VA):=by unfold Fi;rw[cH,cH,yN,yN];show m.done2
def MP.pA (m:MP a.VD b.VD Wf.VD i j) (h:a.VD[i]?=V1 x):MP a.VD b.VD (Wf.Vp x).VD (i+1) j:=by rw[eL];show m.pushA h
def MP.pB (m:MP a.VD b.VD Wf.VD i j) (h:b.VD[j]?=V1 x):MP a.VD b.VD (Wf.Vp x).VD i (j+1):=by rw[eL];show m.pushB h
def MP.mA (m:MP a.VD b.VD Wf.VD i j) (h:i+k<=a.VA):MP a.VD b.VD (Wf++a.Xg i (i+k)).VD (i+k) j:=by rw[cH,Q2];show m.moreA h
def MP.mB (m:MP a.VD b.VD Wf.VD i j) (h:j+k<=b.VA):MP a.VD b.VD (Wf++b.Xg j (j+k)).VD i (j+k):=by rw[cH,Q2];show m.moreB h
def LI.pB (m:LI a b Wf i j) (h:b.VD[j]?=V1 x) (c:¬(j+1==b.VA)=V6):LI a b (Wf.Vp x) i (j+1):=
 ⟨m.mp.pB h,m.la,fT m.lb (by simpa using c)⟩
def LI.pA (m:LI a b Wf i j) (h:a.VD[i]?=V1 x) (c:¬(i+1+1==a.VA)=V6):LI a b (Wf.Vp x) (i+1) j:=
 ⟨m.mp.pA h,fT m.la (by simpa using c),m.lb⟩
nonrec abbrev LS (a:Type):=VK (VW WB)×VW WB×V9×V9×a
abbrev LT {d:Type} (a b:VW WB) (k:V9) (c:LS d):Prop:=∃Wf i j g,c=(V8,Wf,i,j,g)/\LI a b Wf i j/\k<=i+j
abbrev LQ {d:Type} (a b:VW WB) (k:V9) (c:LS d):Prop:=LT a b k c\/∃r x,c=(V1 r,x)/\Fi a b r
def LT.mk {c:Type} {a b Wf:VW WB} {k i j:V9} {g:c} (m:LI a b Wf i j) (h:k<=i+j):LT a b k (V8,Wf,i,j,g):={_,_,_,_,VC,m,h}
def LQ.XR {c:Type} {a b r:VW WB} {k:V9} {x:VW WB×V9×V9×c} (h:Fi a b r):LQ a b k (V1 r,x):=.Wt (kW _ _ rfl h)
def LQ.mk {c:Type} {a b Wf:VW WB} {k i j:V9} {g:c} (m:LI a b Wf i j) (h:k<=i+j):LQ a b k (V8,Wf,i,j,g):=.XB (.mk m h)
nonrec abbrev GQ (a b:VW WB) (y z:V9) (st:W7):Y4 (LS (V9×V9×V9))->W7->Prop:=λr c=>match r with
 | .YS d=>LQ a b (1+y+1) d/\Kp st c
 | .yield d=>LT a b (1+y+(z+1)) d/\Kp st c
def bA {a:Type} {arr:VW WB} {i:V9} (hi:i<arr.VA) {f:WB->Y3 W7 ZD a} {Q:a->W7->Prop} (h:∀x,arr[i]?=V1 x->arr.VD[i]?=V1 x->x∈arr.VD->Yz (Vg VM w) A E s (f x) Q st):Yz (Vg VM w) A E s (elem' arr i>>=f) Q st:=by let(x,b,c,d):=Sv hi;show bE b (h x b c d)
@[elab_as_elim] def LT.W2 {d:Type} {a b:VW WB} {k:V9} {P:LS d->Prop} {c:LS d} (h:LT a b k c) (m:∀Wf i j g,LI a b Wf i j->k<=i+j->P (V8,Wf,i,j,g)):P c:=by let(Wf,i,j,g,e,f,l):=h;show e▸m Wf i j g f l
@[elab_as_elim] def LQ.W2 {d:Type} {a b:VW WB} {k:V9} {P:LS d->Prop} {c:LS d} (h:LQ a b k c) (f:∀r x,Fi a b r->P (V1 r,x)) (m:∀Wf i j g,LI a b Wf i j->k<=i+j->P (V8,Wf,i,j,g)):P c:=
 Or.W2 h (λh=>h.W2 m) λl=>by let(r,x,e,n):=l;show e▸f r x n
def JC (L:qE VM w A s κ a₀) (f:XL st=κ) {a b:VW WB} (l:∀x,x∈a.VD->x∈a₀.VD) (m:∀x,x∈b.VD->x∈a₀.VD) (ha:1<=a.VA) (o:1<=b.VA) {Q:VW WB->W7->Prop} (h:∀r t,Kp st t->Fi a b r->Q r t):
    Yz (Vg VM w) A E s (LX a b) Q st:=by
 apply(bR ?_);apply bA o λx B C D=>?_;have m0:MP a.VD b.VD (#[x]:VW WB).VD 0 1:=(MP.WM (As:=a.VD) (Bs:=b.VD)).pushB C;apply bI (λ_=>bO (h _ _ .Vt m0.XR)) λF=>bI (λ_=>bO (h _ _ .Vt m0.fin2)) λG=>bG ?_;letI H:LI a b #[x] 0 1:={m0,fT ha (λq=>G (VV.WO q)),fT o (λq=>F (VV.WO q))};letI J:1<=a.VA+b.VA:=aG ha (cR _ _);apply cN (gZ (iZ (I:=λy c t=>LT a b (1+y) c/\Kp st t) (Q:=λc t=>(∃r x,c=(V1 r,x)/\Fi a b r)/\Kp st t) ?_ ?_ {(.mk H (aM _)),.Vt}) ?_)
 case refine_2=>
  intro c t K;exfalso;let((Wf,i,j,g,VC,M,N),P):=K;rw[iF (dP _)] at N;show kj _ (aG (kP 1 (a.VA+b.VA)▸N:a.VA+b.VA+1<=i+j) (V9.add_le_add (m5 (bZ M.la)) (bZ M.lb)))
 case refine_3=>
  intro c t K;let((r,x,e,R),P):=K;show e▸bO (h _ _ P R)
 intro y c t _ _ K;letI P:=K.2;apply K.1.W2 λWf i j g M N=>?_;apply cN (gZ (m7 (I:=λc t=>LT a b (1+y) c/\Kp st t) (Q:=λc t=>LQ a b (1+y) c/\Kp st t) {(.mk M N),P} ?_ (λ_ _ h=>{.XB h.1,h.2})) ?_)
 .intro _ c t _ _ K;have P:=K.2;apply K.1.W2 λWf i j g M N=>?_;apply(bA M.lb λu S T U=>(bA (fM M.la) λv W X Y=>((bL L (P.Y2.V7 f) (m _ U) (l _ Y) λw=>?_))));cases w
  .apply(bE W ?_);apply bI (λ_=>bO {(.XR ((M.mp.pA X).fin2)),P}) λZ=>?_;letI a0:1+y<=i+1+j:=fG [{0,.p (.n 1) .a,.p .b .c}] {0,.p (.n 1) .a,.p (.p .b (.n 1)) .c} [1,1] [] tt N;show bI (λ_=>bO {(.mk (M.pA X Z) a0),P}) λ_=>bO {(.mk (M.pA X Z) a0),P}
  .apply(bE S ?_);apply bI (λ_=>bO {(.XR ((M.mp.pB T).XR)),P}) λZ=>?_;letI a0:1+y<=i+(j+1):=aG N (dg _);show bI (λ_=>bO {(.mk (M.pB T Z) a0),P}) λ_=>bO {(.mk (M.pB T Z) a0),P}
 intro c t K;letI P:=K.2;apply K.1.W2 (λr x R=>bO {(kW _ _ rfl R),P}) λWf i j g M N=>?_;apply(bR ?_);apply cN (gZ (iZ (I:=λz c t=>LT a b (1+y+z) c/\Kp st t) (Q:=λc t=>LQ a b (1+y+1) c/\Kp st t) ?_ ?_ {(.mk M N),P}) ?_)
 case refine_2=>
  intro c t K;have P:=K.2;apply K.1.W2 λWf i j g M N=>?_;rw[iF (dP _)] at N;show{(.mk M (aG (dO J _) N)),P}
 case refine_3=>
  intro c t K;have P:=K.2;show K.1.W2 (λr x R=>bO {(kW _ _ rfl R),P}) λWf i j g M N=>bS P λt P=>bO {(.mk M N),P}
 intro z c t _ _ a1;have P:=a1.2;apply a1.1.W2 λWf i j g M N=>?_;extract_lets s1 o' s2 i' s3 j' s4 g' s5 ac' bc' j1' jp g1'
 have hj:∀u a2,Yz (Vg VM w) A E s (jp u a2) (GQ a b y z st) t:=by
  intro u a2;apply(bS P λt P=>?_);apply(bA M.lb λu S T U=>((bW L (P.Y2.V7 f) (m _ U) l (bX (fH M.mp.la)) (iU (fM M.la)) λk a3=>?_)));dsimp -zeta only;extract_lets ac2 jp2
  letI a4:∀u Wf i,LI a b Wf i j->1+y+z<=i+j->Yz (Vg VM w) A E s (jp2 u Wf i) (GQ a b y z st) t:=by
   intro a5 Wf i M N;apply(bE S ?_);apply bI (λ_=>bO {(.XR ((M.mp.pB T).XR)),P}) λZ=>?_;letI M:=M.pB T Z;apply(bA (fM M.la) λv W X Y=>((bW L (P.Y2.V7 f) (l _ Y) m (bX (fH M.mp.lb)) (iU M.lb) λk a3=>?_)));dsimp -zeta only;extract_lets bc2 i2 jp3
   letI a6:∀a5 Wf j,LI a b Wf i j->1+y+z<=i+j->Yz (Vg VM w) A E s (jp3 a5 Wf j) (GQ a b y z st) t:=by intro a5 Wf j M N;apply(bE W ?_);letI a7:1+y+(z+1)<=i+1+j:=ir [{0,.p (.p (.n 1) .a) .b,.p .c .d}] {0,.p (.p (.n 1) .a) (.p .b (.n 1)),.p (.p .c (.n 1)) .d} [1,1] [] tt N;apply bI (λ_=>bO {(.XR ((M.mp.pA X).fin2)),P}) λZ=>?_;show bI (λ_=>bO {(.mk (M.pA X Z) (aG (dO (CE _ _) _) a7)),P}) λ_=>bO {(.mk (M.pA X Z) a7),P}
   clear_value jp3;split
   .have lk:j+1+k<=b.VA:=aG (dO a3 _) (bX (fH M.mp.lb));apply bI (λ_=>bO {(.XR ((M.mp.mB lk).XR)),P}) λZ=>?_;show a6 _ _ _ {M.mp.mB lk,M.la,fT lk (λq=>Z (VV.WO q))} (aG N (dO (aG (dg _) (cR _ _)) _))
   .show a6 _ _ _ M (aG N (dO (dg _) _))
  clear_value jp2;split
  .have lk:i+k<=a.VA:=aG (dO a3 _) (bX (fH M.mp.la));apply bI (λ_=>bO {(.XR ((M.mp.mA lk).fin2)),P}) λa8=>?_;apply bI (λ_=>bO {(.XR ((M.mp.mA lk).XR)),P}) λa9=>?_;show a4 _ _ _ {M.mp.mA lk,fT (fT lk (λq=>a9 (VV.WO q))) (λq=>a8 (VV.WO q)),M.lb} (aG N (gE (cR _ _) _))
  .show a4 _ _ _ M N
 clear_value jp;split<;>show gZ (hj _ _) λr _ h=>by cases r<;>show h
end
end
section
mutual open Nat
abbrev LY:VW WB->VW WB->Y3 W7 ZD (VW WB):=sortPriv% Ve.WA.mergeHi
def Q0 {a:VW WB} {i k:V9} (h:i<=k):(a.Xg i k).VD=(a.VD.XV i).WU (k-i):=by show eZ (eY) (dY)
structure MH (As Bs Wf:V2 WB) (i j:V9):Prop where
 YW:Wf.X7 (As.XV i++Bs.XV j)
 la:i<=As.V0
 lb:j<=Bs.V0
variable {As Bs:V2 WB} {a b Wf:VW WB} {i j k:V9} {x:WB}
def vO (h:k<=i):As.XV k=(As.XV k).WU (i-k)++As.XV i:=by
 have:=(gm (i-k) (As.XV k)).Vh
 rwa[V2.drop_drop,fH h] at this
def MH.XR (m:MH a.VD b.VD Wf.VD i j):Fi a b (a.Xg 0 i++b.Xg 0 j++Wf.Y5):=by
 unfold Fi;rw[cH,cH,Q3,Q3,um];apply((ym _).V7 m.YW).append_left _|>.V7 ?_
 have e:a.VD++b.VD=(a.VD.WU i++a.VD.XV i)++(b.VD.WU j++b.VD.XV j):=by rw[gm,gm]
 rw[e];simp only[aR];apply f9 _ ?_;rw[<-aR,<-aR];show qL _ fc
def MH.fin2 (m:MH a.VD b.VD Wf.VD i j):Fi a b (b.Xg 0 j++a.Xg 0 i++Wf.Y5):=by have:=m.XR;apply q7 ?_ this;rw[cH,cH,cH,cH];show qL _ fc
def MH.mA (m:MH a.VD b.VD Wf.VD i j) (h:k<=i):MH a.VD b.VD (Wf++(a.Xg k i).Y5).VD k j:=by apply{?_,aG h m.la,m.lb};rw[cH,um,Q0 h];apply(m.YW.WX (ym _)).V7 ?_;apply q7 ?_ (kE (VN (·++ _) (vO (As:=a.VD) h).Vh));show fc.V7 (kE (aR _ _ _).Vh)
def MH.mB (m:MH a.VD b.VD Wf.VD i j) (h:k<=j):MH a.VD b.VD (Wf++(b.Xg k j).Y5).VD i k:=by apply{?_,m.la,aG h m.lb};rw[cH,um,Q0 h];apply(m.YW.WX (ym _)).V7 ?_;apply q7 ?_ (kE (VN (_++·) (vO (As:=b.VD) h).Vh));rw[aR];show f9 _ fc
def MH.pA (m:MH a.VD b.VD Wf.VD (i+1) j) (h:a.VD[i]?=V1 x):MH a.VD b.VD (Wf.Vp x).VD i j:=by apply{?_,m5 m.la,m.lb};rw[eL];let(l,e):=aB.mp h;rw[kQ l,e];show(m.YW.YR _).V7 fc
def MH.pB (m:MH a.VD b.VD Wf.VD i (j+1)) (h:b.VD[j]?=V1 x):MH a.VD b.VD (Wf.Vp x).VD i j:=by apply{?_,m.la,m5 m.lb};rw[eL];let(l,e):=aB.mp h;rw[kQ l,e];apply(m.YW.YR _).V7 ?_;rw[aR];show f9 _ fc
structure HI (a b Wf:VW WB) (i j:V9):Prop where
 mp:MH a.VD b.VD Wf.VD i j
 la:1<=i
 lb:2<=j
def MH.start (ha:1<=a.VA) (h:a.VD[a.VA-1]?=V1 x):MH a.VD b.VD (#[x]:VW WB).VD (a.VA-1) b.VA:=by have e:=lY ha;show MH.pA (Wf:=#[]) {by rw[e,sN (bX cA),sN (bX cA)];show .Vt _,bX (e.V7 cA.Vh),bX cA.Vh} h
def HI.jb (M:HI a b Wf i j):1<=j:=m5 M.lb
def HI.sa (M:HI a b Wf i j):i<=a.VA:=aG M.mp.la (bX cA)
def HI.sb (M:HI a b Wf i j):j<=b.VA:=aG M.mp.lb (bX cA)
def HI.ia (M:HI a b Wf i j):i-1<a.VA:=aY (tK M.la n9) M.sa
def HI.ib (M:HI a b Wf i j):j-1<b.VA:=aY (tK M.jb n9) M.sb
def HI.pA (M:HI a b Wf i j) (h:a.VD[i-1]?=V1 x):MH a.VD b.VD (Wf.Vp x).VD (i-1) j:=by have m:=M.mp;rw[<-lY M.la] at m;show m.pA h
def HI.pB (M:HI a b Wf i j) (h:b.VD[j-1]?=V1 x):MH a.VD b.VD (Wf.Vp x).VD i (j-1):=by have m:=M.mp;rw[<-lY M.jb] at m;show m.pB h
def HI.nA (m:MH a.VD b.VD Wf.VD i j) (c:¬(i==0)=V6) (d:2<=j):HI a b Wf i j:={m,lZ λe=>c (VV.WO e),d}
def BH (l:1<=j) (c:¬(j==1)=V6):2<=j:=fT l λe=>c (VV.WO e.Vh)
def HI.nB (m:MH a.VD b.VD Wf.VD i j) (c:1<=i) (l:1<=j) (d:¬(j==1)=V6):HI a b Wf i j:={m,c,BH l d}
def HI.j1 (M:HI a b Wf i j):1<=j-1:=V9.le_sub_of_add_le M.lb
def dA (h:k+(i+j)<=n):k+(i-1+j)<=n:=aG (dO (gE (nO _ _) _) _) h
def dB (h:k+(i+j)<=n):k+(i+(j-1))<=n:=aG (dO (dO (nO _ _) _) _) h
def dB1 (h:k+(i+j)<=n) (l:1<=j):k+1+(i+(j-1))<=n:=by rw[gq,V9.add_left_comm 1,kP 1,lY l];show h
nonrec abbrev HS' (a:Type):=VK (VW WB)×V9×V9×VW WB×a
abbrev HT {d:Type} (a b:VW WB) (k:V9) (c:HS' d):Prop:=∃Wf i j g,c=(V8,i,j,Wf,g)/\HI a b Wf i j/\k+(i+j)<=a.VA+b.VA
abbrev HQ {d:Type} (a b:VW WB) (k:V9) (c:HS' d):Prop:=HT a b k c\/∃r x,c=(V1 r,x)/\Fi a b r
def HT.mk {c:Type} {a b Wf:VW WB} {k i j:V9} {g:c} (m:HI a b Wf i j) (h:k+(i+j)<=a.VA+b.VA):HT a b k (V8,i,j,Wf,g):={_,_,_,_,VC,m,h}
def HQ.XR {c:Type} {a b r:VW WB} {k:V9} {x:V9×V9×VW WB×c} (h:Fi a b r):HQ a b k (V1 r,x):=.Wt (kW _ _ rfl h)
def HQ.mk {c:Type} {a b Wf:VW WB} {k i j:V9} {g:c} (m:HI a b Wf i j) (h:k+(i+j)<=a.VA+b.VA):HQ a b k (V8,i,j,Wf,g):=.XB (.mk m h)
nonrec abbrev GH (a b:VW WB) (y z:V9) (st:W7):Y4 (HS' (V9×V9×V9))->W7->Prop:=λr c=>match r with
 | .YS d=>HQ a b (1+y+1) d/\Kp st c
 | .yield d=>HT a b (1+y+(z+1)) d/\Kp st c
@[elab_as_elim] def HT.W2 {d:Type} {a b:VW WB} {k:V9} {P:HS' d->Prop} {c:HS' d} (h:HT a b k c) (m:∀Wf i j g,HI a b Wf i j->k+(i+j)<=a.VA+b.VA->P (V8,i,j,Wf,g)):P c:=by let(Wf,i,j,g,e,f,l):=h;show e▸m Wf i j g f l
@[elab_as_elim] def HQ.W2 {d:Type} {a b:VW WB} {k:V9} {P:HS' d->Prop} {c:HS' d} (h:HQ a b k c) (f:∀r x,Fi a b r->P (V1 r,x)) (m:∀Wf i j g,HI a b Wf i j->k+(i+j)<=a.VA+b.VA->P (V8,i,j,Wf,g)):P c:=
 Or.W2 h (λh=>h.W2 m) λl=>by let(r,x,e,n):=l;show e▸f r x n
def JD (L:qE VM w A s κ a₀) (d:XL st=κ) {a b:VW WB} (f:∀x,x∈a.VD->x∈a₀.VD) (l:∀x,x∈b.VD->x∈a₀.VD) (ha:1<=a.VA) (o:1<=b.VA) {Q:VW WB->W7->Prop} (h:∀r p,Kp st p->Fi a b r->Q r p):
    Yz (Vg VM w) A E s (LY a b) Q st:=by
 apply(bR ?_);apply bA (arr:=a) (i:=a.VA-1) (tK ha n9) λx q t B=>?_;have m0:=MH.start (b:=b) ha t;apply bI (λ_=>bO (h _ _ .Vt m0.XR)) λC=>bI (λ_=>bO (h _ _ .Vt m0.fin2)) λD=>bG ?_;have M0:=HI.nA (Wf:=#[x]) m0 C (BH o D);apply cN (gZ (iZ (I:=λy c p=>HT a b (1+y) c/\Kp st p) (Q:=λc p=>(∃r x,c=(V1 r,x)/\Fi a b r)/\Kp st p) ?_ ?_ {.mk M0 (by rw[yV,<-gq,kP 1,lY ha];show aM _),.Vt}) ?_)
 case refine_2=>
  intro c p F;show F.1.W2 λWf i j g M G=>Vy (aG (dO (cR _ _) 1) (aG (by rw[iF (dP _)] at G;show(gq 1 _ _▸G:1+(a.VA+b.VA+(i+j))<=_)) (aM _))) (by rw[kP 1];show kj _)
 case refine_3=>
  intro c p F;let((r,x,e,H),J):=F;show e▸bO (h _ _ J H)
 intro y c p _ _ F;letI J:=F.2;apply F.1.W2 λWf i j g M G=>?_;apply cN (gZ (m7 (I:=λc p=>HT a b (1+y) c/\Kp st p) (Q:=λc p=>HQ a b (1+y) c/\Kp st p) {.mk M G,J} ?_ (λ_ _ h=>{.XB h.1,h.2})) ?_)
 .intro _ c p _ _ F;have J:=F.2;apply F.1.W2 λWf i j g M G=>?_;apply bA (arr:=b) (i:=j-1) M.ib λu K N P=>bA (arr:=a) (i:=i-1) M.ia λv R S T=>bL L (J.Y2.V7 d) (l _ P) (f _ T) λw=>?_;cases w
  .apply bE K (bI (λ_=>bO {.XR (M.pB N).fin2,J}) λU=>?_);letI M:=HI.nB (M.pB N) M.la M.j1 U;show bI (λ_=>bO {.mk M (dB G),J}) λ_=>bO {.mk M (dB G),J}
  .apply bE R (bI (λ_=>bO {.XR (M.pA S).XR,J}) λU=>?_);letI M:=HI.nA (M.pA S) U M.lb;show bI (λ_=>bO {.mk M (dA G),J}) λ_=>bO {.mk M (dA G),J}
 intro c p F;letI J:=F.2;apply F.1.W2 (λr x H=>bO {(kW _ _ rfl H),J}) λWf i j g M G=>?_;apply(bR ?_);apply cN (gZ (iZ (I:=λz c p=>HT a b (1+y+z) c/\Kp st p) (Q:=λc p=>HQ a b (1+y+1) c/\Kp st p) ?_ ?_ {.mk M G,J}) ?_)
 case refine_2=>
  intro c p F;have J:=F.2;show F.1.W2 λWf i j g M G=>{.mk M (aG (gE (dO (aG (aG ha (cR _ _)) (AQ 0 _)) _) _) G),J}
 case refine_3=>
  intro c p F;letI J:=F.2;show F.1.W2 (λr x H=>bO {(kW _ _ rfl H),J}) λWf i j g M G=>bS J λp J=>bO {.mk M G,J}
 intro z c p _ _ W;have J:=W.2;apply W.1.W2 λWf i j g M G=>?_;extract_lets s1 n' s2 m' s3 o' s4 g' s5 ac' bc' nb1 jp g1'
 letI X:∀u Y,Yz (Vg VM w) A E s (jp u Y) (GH a b y z st) p:=by
  intro u Y;apply(bS J λp J=>?_);apply(bA (arr:=b) (i:=j-1) M.ib λu K N P=>(bW L (J.Y2.V7 d) (l _ P) f (X5:=0) (n:=i) (aG (bX (fj _)) M.sa) (tK M.la n9) λk Z=>?_));dsimp -zeta only;extract_lets k2 ac2 jp2
  letI a0:∀u i Wf,HI a b Wf i j->1+y+z+(i+j)<=a.VA+b.VA->Yz (Vg VM w) A E s (jp2 u i Wf) (GH a b y z st) p:=by
   intro a1 i Wf M G;apply bE K (bI (λ_=>bO {.XR (M.pB N).fin2,J}) λU=>?_);have G:=dB1 G M.jb;letI M:=HI.nB (M.pB N) M.la M.j1 U;apply(bA (arr:=a) (i:=i-1) M.ia λv R S T=>(bW L (J.Y2.V7 d) (f _ T) l (X5:=0) (n:=j-1) (aG (bX (fj _)) M.sb) (tK M.jb n9) λk Z=>?_));dsimp -zeta only;extract_lets k3 bc2 na2 jp3
   letI a2:∀a1 j Wf,HI a b Wf i j->1+y+z+1+(i+j)<=a.VA+b.VA->Yz (Vg VM w) A E s (jp3 a1 j Wf) (GH a b y z st) p:=by intro a1 j Wf M G;apply bE R (bI (λ_=>bO {.XR (M.pA S).XR,J}) λU=>?_);have G:=dA G;have M:=HI.nA (M.pA S) U M.lb;show bI (λ_=>bO {.mk M (aG (gE (gE (cR _ _) 1) _) G),J}) λ_=>bO {.mk M G,J}
   clear_value jp3;apply bI (λ_=>?_) λ_=>?_
   .have m:=M.mp.mB Z;show bI (λ_=>bO {.XR m.fin2,J}) λa3=>bI (λ_=>bO {.XR m.XR,J}) λa4=>a2 _ _ _ (.nB m M.la (lZ λe=>a4 (VV.WO e)) a3) (aG (dO (dO Z _) _) G)
   .show a2 _ _ _ M G
  clear_value jp2;apply bI (λ_=>?_) λ_=>?_
  .have m:=M.mp.mA Z;show bI (λ_=>bO {.XR m.XR,J}) λa3=>a0 _ _ _ (.nA m a3 M.lb) (aG (dO (gE Z _) _) G)
  .show a0 _ _ _ M G
 clear_value jp;apply gZ (bI (λ_=>X _ _) λ_=>X _ _) λr _ h=>by cases r<;>show h
end
end
mutual open Nat
abbrev ZT:V9->V2 (V9×V9×V9)->V9->Prop
 |x,[],y=>x=y
 |x,r::p,y=>r.1=x/\1<=r.2.1/\ZT (x+r.2.1) p y
def Nc {p:V2 (V9×V9×V9)}:∀{x y:V9},ZT x p y->x<=y:=by
 induction p with
 |VH=>intro x y h;show bX h
 |V4 r p a=>intro x y h;show aG (cR _ _) (a h.2.2)
def G5 {n v:V9} (a:1<=n) {p:V2 (V9×V9×V9)}:∀{x y:V9},ZT x p y->ZT x (p++[(y,n,v)]) (y+n):=by
 induction p with
 |VH=>intro x y h;show{h.Vh,a,by rw[show x=y from h];show rfl}
 |V4 r p b=>intro x y h;show{h.1,h.2.1,b h.2.2}
def JZ {f:V9×V9×V9->V9×V9×V9} (a:∀r,(f r).1=r.1/\(f r).2.1=r.2.1) {p:V2 (V9×V9×V9)}:∀{x y:V9} (i:V9),ZT x p y->ZT x (p.modify i f) y:=by
 induction p with
 |VH=>intro x y i h;cases i<;>show h
 |V4 r p b=>
  intro x y i h;cases i with
  |WM=>rw[V2.modify_zero_cons];show{(a r).1.V7 h.1,by rw[(a r).2];show h.2.1,by rw[(a r).2];show h.2.2}
  |Wh i=>rw[V2.modify_succ_cons];show{h.1,h.2.1,b i h.2.2}
def Nd {a f v g j k:V9} {p:V2 (V9×V9×V9)}:∀{x y:V9} {i:V9},ZT x p y->p[i]?=V1 (a,f,v)->p[i+1]?=V1 (g,j,k)->
    (g=a+f/\1<=f/\1<=j/\g+j<=y)/\ZT x ((p.Wb i (a,f+j,v)).eraseIdx (i+1)) y:=by
 induction p with
 |VH=>intro x y i h l;cases l
 |V4 r p m=>
  intro x y i h l n;cases i with
  |WM=>
   clear m;cases l;cases p with
   |VH=>cases n
   |V4 o p=>
    cases n;let(rfl,b,c,d,e):=h;show{{c,b,d,by rw[show g=_ from c];show Nc e},VC,aG b (cR _ _),by rw[gq] at e;show e}
  |Wh i=>
   have:=m (i:=i) h.2.2 l n;show{this.1,h.1,h.2.1,this.2}
def vN {b:Type} {a:VW b} {i j:V9} (h:j<=a.VA):(a.Xg i j).VA=j-i:=by rw[VW.size_extract,iQ h]
def NV {n:V9} (h:n>1):n-2+1<n:=bY [.k V3 (.n 1) (.v 0)] (.k V3 (.p (.s (.v 0) (.n 2)) (.n 1)) (.v 0)) [[0,1],[0,1,1]] tt [_] [] h
structure SP (κ:ZF) (a₀:VW WB) (lo:V9) (st:W7):Prop where
 si:SI κ a₀ (gi st) st
 ch:ZT 0 (gi st).VD lo
def Oz {e:Type} (m:V2 e):∀(a:VW e) (f d:V9),f+d+m.V0<=a.VA->(m.zipIdx d).foldl (λ(a:VW e) (x:e×V9)=>a.YV (f+x.2) x.1) a=(a.Xg 0 (f+d))++m.WE++a.Xg (f+d+m.V0) a.VA:=by
 induction m with
 |VH=>intro a f d h;apply J9 ?_;simp[eY,dY];show(jt (AQ _ _)).Vh
 |V4 x m g=>
  intro a f d h;rw[rR,tO,g _ _ _ (by rw[lG];show ir [{0,.p (.p .a .b) (.p .c (.n 1)),.d}] {0,.p (.p .a (.p .b (.n 1))) .c,.d} [1,1] [] tt h)];apply J9 ?_;have l:f+d<a.VD.V0:=by rw[cA];show ir [{0,.p (.p .a .b) (.p .c (.n 1)),.d}] {1,.p .a .b,.d} [1,1] [] tt h
  simp only[cH,eY,dY,jV,lG,V2.drop_zero,V9.sub_zero,cW];rw[<-gq,V2.take_succ_eq_append_getElem (by rw[eB];show l),V2.getElem_set_self,V2.take_set_of_le (aM _),V2.drop_set_of_lt (by show fG [] {1,.p .a .b,.p (.p (.p .a .b) (.n 1)) .c} [1] [] tt)];simp[show f+d+1+m.V0=f+d+(m.V0+1) by show fG [] {2,.p (.p (.p .a .b) (.n 1)) .c,.p (.p .a .b) (.p .c (.n 1))} [1] [1] tt]
def mrg {a:Type} {c:Prop} [Yk c] {b d:Y3 W7 ZD (VW WB)} {k:VW WB->Y3 W7 ZD a} {Q:a->W7->Prop} {R:VW WB->W7->Prop}
    (e:∀{f:VW WB->W7->Prop},(∀r g,R r g->f r g)->Yz (Vg VM w) A E s b f st) (h:∀{f:VW WB->W7->Prop},(∀r g,R r g->f r g)->Yz (Vg VM w) A E s d f st)
    (XR:∀r g,R r g->Yz (Vg VM w) A E s (k r) Q g):Yz (Vg VM w) A E s (if c then b>>=k else d>>=k) Q st:=bI (λ_=>cN (e XR)) λ_=>cN (h XR)
def B9 (L:qE VM w A s κ a₀) {lo i:V9} (a:SP κ a₀ lo st) (b:lo<=a₀.VA) (hi:i+1<(gi st).VA) {Q:VS->W7->Prop} (h:∀c,SP κ a₀ lo c->Q V6 c):
    Yz (Vg VM w) A E s (mergeAt' i) Q st:=by
 apply cN (uQ ?_);obtain⟨⟨sa,na,v⟩,e1⟩:∃r,(gi st)[i]?=V1 r:={_,Wr (gi st) i (fM hi)};obtain⟨⟨sb,nb,v'⟩,e2⟩:∃r,(gi st)[i+1]?=V1 r:={_,Wr (gi st) (i+1) hi};let((h1,h2,h3,h4),ch):=Nd a.ch (by rw[aZ];show e1) (by rw[aZ];show e2);rw[e1,e2];have sz:=a.si.VA;letI d:∀x,x∈(YL st).VD->x∈a₀.VD:=λx m=>(jW.mp a.si.YW).X9.mp m
 letI EN:∀(arr:VW WB) g,arr.X7 a₀->SP κ a₀ lo (J4 (XL st) arr (((gi st).YV i (sa,na+nb,v)).YP (i+1)) g (nL st)):=λarr g n=>
  ⟨⟨n,a.si.Y2,a.si.ZO,VC⟩,by
   change ZT 0 (((gi st).YV i (sa,na+nb,v)).YP (i+1)).VD lo;rw[VW.YP,dif_pos (by rw[lG];show hi),VW.toList_eraseIdx,jV];show ch⟩
 letI o:=EN (YL st) (gallopOf st) a.si.YW;letI p:sb+nb<=(YL st).VA:=sz▸aG h4 b;letI q:sb<(YL st).VA:=aY (mw h3) p;apply cN (rj (f:=λ_=>_) ?_);apply bA q λx t u B=>bW L o.si.Y2 (d _ B) d (aG (bX h1.Vh) (bZ q)) h2 λk C=>?_;apply bI (λ_=>bO (h _ o)) λn0=>?_;have n0:1<=na-k:=lZ λe=>n0 (VV.WO e);have e5:sa+k+(na-k)=sb:=by rw[gq,fH C,h1]
 letI ks:sa+k<sb:=h1▸wj (V9.lt_of_sub_pos n0) sa;have e6:sa+k+(sb-(sa+k))=sb:=fH (bZ ks);apply bA (i:=sa+k+(na-k)-1) (by rw[e5];show dW (nO ..) q) λy D F G=>bW L o.si.Y2 (d _ G) d p (tK h3 n9) λH I=>?_;apply bI (λ_=>bO (h _ o)) λJ=>?_;have J:1<=H:=lZ λe=>J (VV.WO e)
 have mx:∀{i j:V9} x,x∈((YL st).Xg i j).VD->x∈a₀.VD:=λx m=>d _ (by
  rw[eY,dY] at m;show V2.mem_of_mem_drop (nX m))
 letI K:sb+H<=(YL st).VA:=aG (dO I sb) p;have s1:1<=((YL st).Xg (sa+k) sb).VA:=by rw[vN (bZ q)];show iU ks
 have s2:1<=((YL st).Xg sb (sb+H)).VA:=by rw[vN K,ic];show J
 extract_lets xa ya;apply mrg (R:=λr c=>Kp _ c/\Fi _ _ r) (λh=>JC L o.si.Y2 mx mx s1 s2 λr c M N=>h r c ⟨M,N⟩) (λh=>JD L o.si.Y2 mx mx s1 s2 λr c M N=>h r c ⟨M,N⟩) λr c z=>?_;have M:=z.1;have N:=z.2
 letI P:r.VD.V0=(sb-(sa+k))+H:=by have:=N.WZ;rw[this,aH,cA,cA,vN (bZ q),vN K,ic]
 apply cN (rj (cN (uQ ?_)));have e:nL c=V8:=M.ZO.V7 a.si.ZO;change Yz _ _ _ _ (X3 (nL c).XQ) _ _;rw[show(nL c).XQ=V6 by rw[e];rfl];apply bO (h _ ?_);change SP κ a₀ lo (J4 (XL c) (r.VD.zipIdx.foldl _ (YL c)) (gi c) (gallopOf c) (nL c));rw[M.Y2,M.pend,M.ZO,M.arr];apply EN _ _ ?_;apply VW.X7.V7 ?_ a.si.YW;apply jW.WO ?_;have pr:=Oz r.VD (YL st) (sa+k) 0 (by rw[P,yV,<-gq,e6];show K);apply(kE (VN VW.VD pr)).V7 ?_;simp only[cH,eY,dY,V2.drop_zero,V9.sub_zero,yV];unfold Fi at N;simp only[cH,eY,dY] at N;apply((N.append_left _).YR _).V7 (kE ?_);have e3:(YL st).VD.XV (sa+k)=((YL st).VD.XV (sa+k)).WU (sb-(sa+k))++(YL st).VD.XV sb:=vO (bZ ks);have e4:(YL st).VD.XV sb=((YL st).VD.XV sb).WU (sb+H-sb)++(YL st).VD.XV (sb+H):=vO (cR ..);rw[P,show sa+k+(sb-(sa+k)+H)=sb+H by rw[<-gq,e6],jt (l:=(YL st).VD.XV (sb+H)) (by simp)];rw[aR,aR,<-e4,<-e3,gm]
nonrec abbrev RQ (κ:ZF) (a₀:VW WB):Y4 (VK Yn×V9)->W7->Prop:=λr a=>match r with
 | .YS b=>∃lo,b=(V8,lo)/\lo<=a₀.VA/\SP κ a₀ lo a
 | .yield b=>∃lo,b=(V8,lo)/\lo<=a₀.VA/\SP κ a₀ lo a
def Rl (L:qE VM w A s κ a₀) (f:SI κ a₀ #[] st) {Q:Yn->W7->Prop} (h:∀g,(YL g).X7 a₀->nL g=V8->Q () g):
    Yz (Vg VM w) A E s sortRuns' Q st:=by
 rw[sortRuns'_eq];apply cN (uQ ?_);rw[f.VA];dsimp -zeta only;extract_lets mr mr' lo0;apply cN (gZ (m7 (I:=λc g=>∃lo,c=(V8,lo)/\lo<=a₀.VA/\SP κ a₀ lo g) (Q:=λc g=>∃lo,c=(V8,lo)/\lo<=a₀.VA/\SP κ a₀ lo g) (g6 0 rfl (dP _) {{f.YW,f.Y2,f.ZO,VC},by rw[f.pend];show rfl}) ?_ (λ_ _ h=>h)) ?_)
 .rintro _ c g _ _ ⟨lo,VC,hl,f⟩;change Yz _ _ _ _ (if lo>=a₀.VA then _ else _) _ _;split
  .show bO (g6 _ rfl hl f)
  rename_i lt
  have lt:lo<a₀.VA:=AP lt;have lz:lo+(a₀.VA-lo)<=a₀.VA:=bX (fH hl);apply cN (Pe L f.si (iU lt) lz λk i j m o=>?_);letI t:SP κ a₀ lo i:={{j.YW,j.Y2,j.ZO,VC},by rw[j.pend];show f.ch};dsimp -zeta only;extract_lets n1 jp force n2
  letI y:∀u n i,SP κ a₀ lo i->1<=n->lo+n<=a₀.VA->Yz (Vg VM w) A E s (jp u n) (RQ κ a₀) i:=by
   intro u n i t z B;apply cN (uQ ?_);extract_lets lo2 jp2
   letI C:∀u i,SP κ a₀ lo i->Yz (Vg VM w) A E s (jp2 u) (RQ κ a₀) i:=by intro u i t;apply cN (rj (bO (g6 (lo+n) rfl B {{t.si.YW,t.si.Y2,t.si.ZO,VC},?_})));change ZT 0 ((gi i).Vp (lo,n,0)).VD _;rw[eL];show G5 z t.ch
   clear_value jp2;split
   .apply cN (gZ (m7 (I:=λc g=>c=(V8,())/\SP κ a₀ lo g) (Q:=λc g=>c=(V8,())/\SP κ a₀ lo g) {VC,t} ?_ (λ_ _ h=>h)) ?_)
    .rintro _ c g _ _ ⟨VC,f⟩;apply cN (uQ ?_);change Yz _ _ _ _ (match (if (gi g).VA>1 then (gi g)[(gi g).VA-2]? else V8) with|V1 (_,_,older)=>_|x=>_) _ _;by_cases hs:(gi g).VA>1
     .rw[Vw hs];split
      .change Yz _ _ _ _ (if _<=_ then _ else _) _ _;split
       .show bO {VC,f}
       .show cN (B9 L f hl (NV hs) λD F=>bO {VC,F})
      .show bO {VC,f}
     .rw[Vd hs];show bO {VC,f}
    .rintro c g ⟨VC,f⟩;apply cN (rj (C _ _ {{f.si.YW,f.si.Y2,f.si.ZO,VC},?_}));change ZT 0 (VW.modify _ _ _).VD _;rw[VW.toList_modify];apply JZ (λr=>?_) _ f.ch;show{VC,VC}
   .show C _ _ t
  clear_value jp
  have G:1<=force/\lo+force<=a₀.VA\/n1>=mr':=by
   rcases tL n1 mr' with q|q
   .have q:k<mr':=q;apply .XB {?_,?_}
    .change 1<=min (a₀.VA-lo) mr';show bY [.l V3 (.n 1) (.v 0),.l V3 (.v 0) (.s (.v 1) (.v 2)),.k V3 (.v 3) (.v 4)] (.l V3 (.n 1) (.u (.s (.v 1) (.v 2)) (.v 4))) [[0,0,1,1,0,1],[0,0,0,1,0,1],[0,0,1,0,0,0,1],[0,0,0,1,0,1],[1,0,0,1,0,1],[0,0,0,1,0,1],[1,0,0,1,0,1],[0,0,0,1,0,1]] tt [_,_,_,_,_] [] m o (by assumption)
    .change lo+min (a₀.VA-lo) mr'<=a₀.VA;show bY [.l V3 (.p (.v 0) (.s (.v 1) (.v 0))) (.v 1)] (.l V3 (.p (.v 0) (.u (.s (.v 1) (.v 0)) (.v 2))) (.v 1)) [[0,0,1],[0,0,1],[0,1,1],[0,1,1],[0,0,1,1],[0,0,1,0,1],[0,1,1,1],[0,1,1,0,1]] tt [_,_,_] [] lz
   .show .Wt q
  split
  .rename_i q
   letI G:=G.resolve_right (NF.WO q);apply cN (BA (cN (Ud L t.si G.2 λD F=>?_)));show gZ (y () force _ {{F.YW,F.Y2,F.ZO,VC},by rw[F.pend];show t.ch} G.1 G.2) λr _ h=>by cases r<;>show h
  .show gZ (y () k _ t m (ir [{0,.p .a .b,.c},{0,.d,.b}] {0,.p .a .d,.c} [1,1,1] [] tt lz o)) λr _ h=>by cases r<;>show h
 rintro c g ⟨lo,VC,hl,f⟩;apply cN (gZ (m7 (I:=λc g=>c=(V8,())/\SP κ a₀ lo g) (Q:=λc g=>c=(V8,())/\SP κ a₀ lo g) {VC,f} ?_ (λ_ _ h=>h)) ?_)
 .rintro _ c g _ _ ⟨VC,f⟩;apply cN (uQ ?_);extract_lets p i0 bf i1;split
  .show bO {VC,f}
  .rename_i np
   have hi:i1+1<(gi g).VA:=by
    have np:¬(gi g).VA<=1:=np
    letI e:i1<=(gi g).VA-2:=by
     change(if _ then _-1 else _)<=_;split
     .show nO _ _
     .show aM _
    show bY [.N (.l V3 (.v 0) (.n 1)),.l V3 (.v 1) (.s (.v 0) (.n 2))] (.k V3 (.p (.v 1) (.n 1)) (.v 0)) [[1,0,0,1],[1,1,0,1]] tt [_,_] [] np e
   show cN (B9 L f hl hi λD F=>bO {VC,F})
 .rintro c g ⟨VC,f⟩;show bO (h _ f.si.YW f.si.ZO)
end
section
open PySem.SeqAt (EqAt RcAt RcNeAt)
mutual
/-- the marks that a key's hash draws -/
noncomputable def drw:V->Nat
 | .tup xs=>MW xs+1
 | .none=>1
 | .bool _=>1
 | .int _=>1
 | .str _=>1
 | .ref _=>1
 | .lit _=>1
 | .range _ _=>1
noncomputable def MW:List V->Nat
 |[]=>0
 |x::xs=>drw x+MW xs
end
mutual open Nat
def Ii {P:V->Prop} {Q:V2 V->Prop} (b:∀a,P (.Vl a)) (c:∀a,P (.Vn a)) (d:∀xs,eU xs=V6->Q xs->P (.Vj xs)) (e:Q []) (f:∀x xs,f6 x=V6->P x->Q xs->Q (x::xs)) {v:V} (k:f6 v=V6):P v:=
 V.rec (WP:=λv=>f6 v=V6->P v) (Yg:=λxs=>eU xs=V6->Q xs) (λh=>(by cases h)) (λ_ h=>(by cases h)) (λa _=>b a) (λa _=>c a) (λ_ h=>(by cases h)) (λxs g h=>d xs h (g h)) (λ_ h=>(by cases h)) (λ_ _ h=>(by cases h)) (λ_=>e)
  (λx xs i j h=>have h:=(aN _ _).mp h;f x xs h.1 (i h.1) (j h.2)) v k
def MA {VM:Wj} {w:XA} {ι} {E:VE->VI->Prop} (v:V) (rv:VE) (A:W8) (s:VI) (Q:Vo->VI->Prop) (k:f6 v=V6) (r:WV ι s.V5 v rv) (d:A.Xz+dep v<cLine)
    (h:Q (hv w v) {s with WJ:=s.WJ+drw v}):VO (Vg VM w) A (pyHash rv) Q E s:=by
 apply Ii (P:=λv=>∀{rv:VE} {A:W8} {s:VI} {Q:Vo->VI->Prop},WV ι s.V5 v rv->A.Xz+dep v<cLine->Q (hv w v) {s with WJ:=s.WJ+drw v}->VO (Vg VM w) A (pyHash rv) Q E s)
  (Q:=λxs=>∀{vs:V2 VE} {A:W8} {s:VI} {b:VW Vo} {Q:VW Vo->VI->Prop} {f:VE->VW Vo->ZD (Y4 (VW Vo))},
   (∀x r s P,VO (Vg VM w) A (pyHash x) (λh=>P (.yield (r.Vp h))) E s->VO (Vg VM w) A (f x r) P E s)->cT ι s.V5 xs vs->A.Xz+pX xs<cLine->
   (∀e,e.VD=b.VD++hvL w xs->Q e {s with WJ:=s.WJ+MW xs})->VO (Vg VM w) A (forIn vs b f) Q E s)
  (λi rv A s Q r d h=>?_) (λi rv A s Q r d h=>?_) (λxs g j rv A s Q r d h=>?_) ?_ (λx xs g l m vs A s b Q f o r d h=>?_) k r d h
 .let(t,VC):=r;show wpAny_pyHash_int h
 .let(t,VC):=r;show wpAny_pyHash_str h
 .let(a,VL,k,VC,no,u,y):=r
  focus change VO _ _ (pyHashByItsType (.VG a)) _ _ _
  have d:A.Xz+(pX xs+1)<cLine:=d;apply pyHash_slot (T:="tuple") {_,u,VC} F.slot_tuple_hash F.entry_tuple_hash (F.args_tuple_hash_1 _) (beq_builtin_none _) (.Wt (fG [{1,.p .a (.p .b (.n 1)),.c}] {1,.a,.c} [1,1] [] tt d)) ?_
  focus change VO _ _ (WA.Yl.tupleItemsOf (.VG a)>>=_) _ _ s
  apply aA (wpAny_tupleItemsOf u rfl ?_);apply aA ?_;rw[<-pR];apply j (λx r s P h=>aA (eN h (λ_ _ q=>aA (aD (aD q))) λ_ _ q=>q)) y (by rw[W8.in1_units];show fG [{1,.p .a (.p .b (.n 1)),.c}] {1,.p (.p .a (.n 1)) .b,.c} [1,1] [] tt d) λb z=>?_
  focus change VO _ _ (retInt (WA.Yl.tupleHashOf b.VD)) _ _ _
  rw[z];apply aA (r4 (aD (kW _ _ rfl h)))
 .intro vs A s b Q f _ r d h;cases r
  focus rw[pZ]
  show aD (h b (cJ _).Vh)
 .let(v,B,VC,C,D):=r;have d:A.Xz+max (dep x) (pX xs)<cLine:=d;rw[Bu];apply aA (o _ _ _ _ (l C (bY [.k V3 (.p (.v 0) (.w (.v 1) (.v 2))) (.v 3)] (.k V3 (.p (.v 0) (.v 1)) (.v 3)) [[1,1,1],[1,0,1]] tt [_,_,_,_] [] d) ?_));apply m o D (bY [.k V3 (.p (.v 0) (.w (.v 1) (.v 2))) (.v 3)] (.k V3 (.p (.v 0) (.v 2)) (.v 3)) [[1,0,1],[1,1,1]] tt [_,_,_,_] [] d) λe z=>?_;have:=h e (by rw[z,eL,aR];rfl);rw[show s.WJ+MW (x::xs)=s.WJ+drw x+MW xs from(gq ..).Vh] at this;show this
def WV.ofI {ι h} {x:V} {rv:VE} (k:f6 x=V6) (r:WV ι h x rv):WV [] h x rv:=
 Ii (P:=λx=>∀{rv:VE},WV ι h x rv->WV [] h x rv) (Q:=λxs=>∀{vs:V2 VE},cT ι h xs vs->cT [] h xs vs) (λ_ _ r=>r) (λ_ _ r=>r)
  (λxs k c rv d=>o3_4 d λa VL n e no g l=>⟨a,VL,n,e,fY,g,c l⟩) (λr=>r) (λx xs k f i vs d=>o2_3 d λv w e a b=>⟨v,w,e,f a,i b⟩) k r
def BL {VM:Wj} {w:XA} {A:W8} {E:VE->VI->Prop} {s:VI} {VL:V2 VE} {f:VE->VK VS×Yn->ZD (Y4 (VK VS×Yn))} {Q:VK VS×Yn->VI->Prop}
    (a:∀x∈VL,∀r,VO (Vg VM w) A (f x r) (λy s'=>y=.yield (V8,())/\s'=s) E s) (h:Q (V8,()) s):VO (Vg VM w) A (forIn VL (V8,()) f) Q E s:=by
 apply oU _ (λb r s'=>r=(V8,())/\s'=s/\∀v∈b,v∈VL) _ (λv b r s'=>?_) (λr s'=>?_) _ _ (fq rfl rfl λv hv=>hv)
 .rintro⟨VC,VC,g⟩;show eN (a v (g v cP) _) (by rintro _ _ ⟨VC,VC⟩;show fq rfl rfl λu c=>g u (bN _ c)) λ_ _ h=>h
 .rintro⟨VC,VC,_⟩;show h
def C3 {VM:Wj} {w:XA} {ι} {A:W8} {E:VE->VI->Prop} {s:VI} (d:V9):∀(v:V) (rv:VE) (Q:VS->VI->Prop),dep v<=d->f6 v=V6->WV ι s.V5 v rv->Q V6 s->VO (Vg VM w) A (MQ d rv) Q E s:=by
 induction d with
 |WM=>
  intro v rv Q b c r h;apply nU (P:=λv=>dep v<=0->WV ι s.V5 v rv->VO (Vg VM w) A (MQ 0 rv) Q E s) c (λi _ r=>?_) (λi _ r=>?_) (λxs _ b _=>(by cases b)) b r
  .let(t,VC):=r;rw[sA _ rfl];show aD h
  .let(t,VC):=r;rw[sA _ rfl];show aD h
 |Wh d e=>
  intro v rv Q b c r h;apply nU (P:=λv=>dep v<=d+1->WV ι s.V5 v rv->VO (Vg VM w) A (MQ (d+1) rv) Q E s) c (λi _ r=>?_) (λi _ r=>?_) (λxs c b r=>?_) b r
  .let(t,VC):=r;rw[sA _ rfl];show aD h
  .let(t,VC):=r;rw[sA _ rfl];show aD h
  .let(a,VL,k,VC,no,f,g):=r;have hT:s.Xj (.VG a) "tuple":={_,f,VC};unfold MQ;apply aA (mH hT F.slot_tuple_eq.VY ?_)
   focus change VO _ _ (isInstance (.VG a) (.W5 "tuple")>>=_) _ _ s
   apply aA (lH hT isSubtype_tuple_tuple ?_);apply aA (gA f rfl ?_);apply aA ?_
   focus change VO _ _ (forIn VL _ _) _ _ s
   rw[<-pR];apply BL (λv hv _=>?_) (aD h);let(i,hi):=eT.mp hv;let(x,j,l):=g.getR hi;have j:=aF j;show aA (e x v _ (aG (sC x j) (jz b)) (gW c x j) l (uZ rfl (aD {VC,VC})))
structure ZG (q:V->VS):Prop where
 Yh:∀v,q v=V6->f6 v=V6
 Vj:∀v,q v=V6->∃xs,v=.Vj xs
 dep:∀v,q v=V6->Lake.dep v<=8
 sim:∀v u,q v=V6->q u=V6->AV v u=V6
nonrec abbrev gK (q:V->VS):={v:V // q v=V6}
nonrec abbrev gV (q:V->VS):Wy (gK q):=λa b=>Classical.propDecidable (a=b)
abbrev XL (VM:Wj) (w:XA) {q:V->VS} (m:ZG q):@HeapKind VM w (gK q) (gV q):=
 @HeapKind.mk VM w (gK q) (gV q) (λh k a=>WV [] h k.1 (.VG a)) (λk=>hv w k.1) (λk=>drw k.1) (λA=>A.Xz+30<cLine)
  (λ{h a x y} r s=>FQ (WV.inj (m.Yh _ x.2) (m.Yh _ y.2) r s))
  (λ{h h' k a d o es c} r f g hs=>by
   have st:WQ [d] [] h [] h':={(aV [] rfl λ_ q=>(by cases q)),bX hs.1.Vh,λb o e _ z=>(hs.2 b λy=>z (by simp[y])).V7 e};apply r.WL st λb i o' e=>?_;rw[aC.mp i,f] at e;cases e;unfold nK;rw[g])
  (λ{A E s k a Q} j r t=>MA k.1 (.VG a) A s Q (m.Yh _ k.2) r (by have:=m.dep _ k.2;have:A.Xz+30<cLine:=j;show bY [.k V3 (.p (.v 0) (.n 30)) (.v 1),.l V3 (.v 2) (.n 8)] (.k V3 (.p (.v 0) (.v 2)) (.v 1)) [[1,1,1]] tt [_,_,_] [] j (by assumption)) t)
  (λ{A E s x y a b Q} j u B t=>by
   have hu':A.Xz+30<9900:=j;apply O9 8 (m.dep _ x.2) (e9 [{1,.p .a (.n 30),.n 9900}] {1,.p .a (.n 8),.n 9900} [1,1] [] tt hu') (m.Yh _ x.2) (m.Yh _ y.2) (m.sim _ _ x.2 y.2) u B VM w E Q ?_
   have e:@decide (x=y) (gV q x y)=gc x.1 y.1:=by
    by_cases z:x=y
    .show eZ (@Vs (x=y) (gV q x y) z) ((jj (m.Yh _ x.2)).WO (VN _ z)).Vh
    .rw[@Vk (x=y) (gV q x y) z];symm;rw[<-rW];show λk=>z (FQ ((jj (m.Yh _ x.2)).mp k))
   rw[e] at t;show t)
  (λ{A E s k a Q} r t=>C3 8 k.1 (.VG a) Q (m.dep _ k.2) (m.Yh _ k.2) r t)
end
end
section
variable {q:V->Bool}
mutual open Nat
abbrev DM (ι:V2 Vc) (h:WH):V2 (V×V)->V2 (gK q×Vc×VE)->Prop
 |[],xs=>xs=[]
 |(k,x)::es,xs=>∃k' a v r,xs=(k',a,v)::r/\k'.1=k/\WV ι h k (.VG a)/\WV ι h x v/\DM ι h es r
def DM.of {w:XA} {VM:Wj} (m:ZG q) {ι h}:∀{es:V2 (V×V)} {l:V2 XF},v7 w ι h es l->(∀e∈es,q e.1=V6)->∃xs:V2 (gK q×Vc×VE),DM ι h es xs/\l=xs.VP (@SM VM w (gK q) (gV q) (XL VM w m)):=by
 intro b
 induction b with
 |VH=>
  intro l r _;cases r;show aV [] rfl rfl
 |V4 d es f=>
  let(k,x):=d;intro l r g;let(e,i,VC,j,o,p,r):=r;let(xs,s,t):=f r λe u=>g e (.XW _ u);letI v:=g _ (.WI _);let(ys,y):=m.Vj k v;have e2':=o;rw[y] at o;let(a,VL,n,z,_):=o;apply aV (({k,v},a,e.YM)::xs) {{k,v},a,e.YM,xs,VC,VC,z▸e2',p,s} ?_;rw[bT,t]
  congr 1
  let(A,B,C):=e;clear e2' p;subst j z;rfl
def DM.to {w:XA} {VM:Wj} (m:ZG q) {ι h}:∀{es:V2 (V×V)} {xs:V2 (gK q×Vc×VE)},DM ι h es xs->v7 w ι h es (xs.VP (@SM VM w (gK q) (gV q) (XL VM w m))):=by
 intro b
 induction b with
 |VH=>
  intro xs r;cases r;rfl
 |V4 d es e=>
  let(k,x):=d;intro xs r;let(k',a,v,f,VC,g,i,j,r):=r;subst g;show{_,_,VC,VC,i,j,e r}
def DM.keys {ι h}:∀{es:V2 (V×V)} {xs:V2 (gK q×Vc×VE)},DM ι h es xs->xs.VP (·.1.1)=es.VP (·.1):=by
 intro b
 induction b with
 |VH=>
  intro xs r;cases r;rfl
 |V4 d es e=>
  let(k,x):=d;intro xs r;let(k',a,v,f,VC,g,i,j,r):=r;simp[e r,g]
def DM.Wz {ι h} {es:V2 (V×V)} {xs:V2 (gK q×Vc×VE)} (r:DM ι h es xs):xs.V0=es.V0:=by
 have:=VN j7 r.keys
 simpa using this
def DM.mem {ι h}:∀{es:V2 (V×V)} {xs:V2 (gK q×Vc×VE)},DM ι h es xs->∀x∈xs,WV ι h x.1.1 (.VG x.2.1):=by
 intro b
 induction b with
 |VH=>
  intro xs r;cases r;intro x d;cases d
 |V4 e es f=>
  let(k,x):=e;intro xs r;let(k',a,v,g,VC,i,j,l,r):=r;intro y m;rcases aU.mp m with rfl|m
  .subst i;show j
  .show f r y m
def DM.WL {F ι h ι' h'} (s:WQ F ι h ι' h') (b:i7 F h):∀{es:V2 (V×V)} {xs:V2 (gK q×Vc×VE)},DM ι h es xs->DM ι' h' es xs:=by
 intro d
 induction d with
 |VH=>
  intro xs r;show r
 |V4 f es g=>
  have k:=f.1;have x:=f.2;intro xs r;let(k',a,v,i,e,j,l,m,r):=r;show{k',a,v,i,e,j,l.WL s b,m.WL s b,g r}
abbrev oG:V2 (V×V)->V->VK V
 |[],_=>V8
 |(k,x)::es,u=>if gc k u then V1 x else oG es u
abbrev mQ:V2 (V×V)->V->V->V2 (V×V)
 |[],u,y=>[(u,y)]
 |(k,x)::es,u,y=>if gc k u then (k,y)::es else (k,x)::mQ es u y
def tw (m:ZG q) {a b:gK q}:gc a.1 b.1=V6↔a=b:=by rw[jj (m.Yh _ a.2)];show{λz=>FQ z,λz=>z▸rfl}
def Ss {k x u es} (h:gc k u=V6):oG ((k,x)::es) u=V1 x:=Vw h
def Su {k x u es} (h:gc k u=V3):oG ((k,x)::es) u=oG es u:=Vd (h▸aO)
end
section
variable (m:Make q) {k k':gK q} {a:Addr} {v:Value} {r:List (gK q×Addr×Value)}
mutual open Nat
include m
def IS (h:gc k'.1 k.1=V6):@lT (gK q) (gV q) ((k',a,v)::r) k=V1 (a,v):=by
 focus unfold lT
 rw[dj,@Vs (k'=k) (gV q k' k) ((tw m).mp h)];rfl
def IT (h:gc k'.1 k.1=V3):@lT (gK q) (gV q) ((k',a,v)::r) k=@lT (gK q) (gV q) r k:=by
 focus unfold lT
 rw[dj,@Vk (k'=k) (gV q k' k) λz=>aO (h.Vh.V7 ((tw m).WO z))]
end
end
mutual open Nat
def DM.atKey (m:ZG q) {ι h} {k:gK q} {es:V2 (V×V)}:∀{xs:V2 (gK q×Vc×VE)},DM ι h es xs->
    (oG es k.1=V8->@lT (gK q) (gV q) xs k=V8)/\(∀x,oG es k.1=V1 x->∃a v,@lT (gK q) (gV q) xs k=V1 (a,v)/\WV ι h x v):=by
 induction es with
 |VH=>intro xs r;cases r;show{λ_=>rfl,λx e=>(by cases e)}
 |V4 p es b=>
  intro xs r;let(k',a,v,d,VC,f,_,g,r):=r;let(i,x):=p;cases f;cases z:gc k'.1 k.1 with
  |V6=>
   rw[Ss z,IS m z];show{nofun,λy e=>(kW a v rfl (cG e▸g))}
  |V3=>
   rw[Su z,IT m z];show b r
def DM.YA (m:ZG q) {ι h} {k:gK q} {a:Vc} {y:V} {b:VE} (d:WV ι h k.1 (.VG a)) (g:WV ι h y b) {es:V2 (V×V)}:∀{xs:V2 (gK q×Vc×VE)},DM ι h es xs->(es.VP (·.1)).WF->
    DM ι h (mQ es k.1 y) (@SW (gK q) (gV q) xs k a b):=by
 induction es with
 |VH=>
  intro xs r _;cases r;show{k,a,b,[],VC,VC,d,g,VC}
 |V4 p es i=>
  intro xs r j;let(k',l,v,o,VC,s,t,u,r):=r;let(A,x):=p;cases s;have j:=dJ.mp j;cases z:gc k'.1 k.1 with
  |V6=>
   have e:k'=k:=(tw m).mp z
   have nm:k∉o.VP (·.1):=λB=>j.1 (by
    let(w,C,f):=aK.mp B;rw[<-r.keys];show aK.WO {w,C,by change w.1.1=k'.1;show eZ (VN _ (f)) (VN _ (e)).Vh})
   rw[@storedH_old (gK q) (gV q) _ _ _ (IS m z),bT,@map_putAt_of_not_mem (gK q) (gV q) o k b nm,show mQ ((k'.1,x)::es) k.1 y=_ from Vw z];show{k',l,b,o,by rw[show @putAt (gK q) (gV q) k b (k',l,v)=_ from Vw e],VC,t,g,r}
  |V3=>
   rw[show mQ ((k'.1,x)::es) k.1 y=_ from Vd (z▸aO)];apply{k',l,v,_,?_,VC,t,u,i r j.2}
   focus unfold SW
   rw[IT m z];split
   .rw[bT,show @putAt (gK q) (gV q) k b (k',l,v)=_ from Vd λe=>aO (z.Vh.V7 ((tw m).WO e))]
   .rfl
def IE (m:ZG q) {ι h} {a:V9} {es:V2 (V×V)} (G:c.W6 ι M h) (ha:M[a]?=V1 (.WD es)) (f:∀e∈es,q e.1=V6):
    ∃d xs,ι[a]?=V1 d/\@WH.DictOfH c.VM c.w (gK q) (gV q) (XL c.VM c.w m) h d xs/\DM ι h es xs:=by
 let(d,g,i,k,j,l,o,p):=G.VJ a _ ha;let(xs,r,s):=DM.of (VM:=c.VM) m l f;apply qs d xs g {_,i,k,j,?_,VC,s,λx t=>?_,?_} r
 .show{VC,VC,VC}
 .show WV.ofI (m.Yh _ x.1.2) (r.mem x t)
 .have e:=r.keys;rw[<-e] at o;show V2.Pairwise.of_map (S:=(·≠·)) (λx=>x.1) (λa b h z=>h (VN Subtype.YM z)) (by rw[cB];show o)
end
end
variable {q:V->Bool}
mutual open Nat
def C0 {A:W8} (d:Xl A n):A.Z8.Xz+30<cLine:=by
 have:=d.uni
 focus change A.Xz+1+30<9900
 show dX [{1,.p (.p .a (.m 16 .b)) (.n 100),.n 9900}] {1,.p (.p .a (.n 1)) (.n 30),.n 9900} [1,1] [] tt this
def oz {ι h} {d:Vc} (G:c.W6 ι M h) (a:d∈ι):(d==rt)=V3:=by rw[Vz];rintro rfl;show c.nosys (G.Zv _ a)
def Dn (m:ZG q) {ι h} {k:V} {b:VE} (d:q k=V6) (r:WV ι h k b):∃a,b=.VG a/\WV ι h k (.VG a):=by let(ys,e):=m.Vj k d;have r':=r;rw[e] at r;let(a,_,_,VC,_):=r;show aV a rfl r'
def Yj.inD (m:ZG q) {a:V9} {k:V} {es:V2 (V×V)} (ha:M[a]?=V1 (.WD es)) (b:∀e∈es,q e.1=V6) (f:q k=V6) (p:P (.WW (oG es k).XZ) M):Yj c n (eS .In) k (.VG a) M P:=λA ι s g h i G j l Q E o=>by
 let(d,r,VC):=l;let(t,xs,u,y,B):=IE m G ha b;rw[r] at u;cases u;let(C,VC,D):=Dn m f j;apply @wpAny_in_heap c.VM c.w (gK q) (gV q) (XL c.VM c.w m) A E s d C {k,f} xs Q (C0 i) (WV.ofI (m.Yh _ f) D) (oz G (aF r)) y ?_
 have e:(@lT (gK q) (gV q) xs {k,f}).XZ=(oG es k).XZ:=by
  let(F,H):=DM.atKey m B (k:={k,f});cases z:oG es k with
  |V8=>rw[F z];rfl
  |V1 x=>let(a,v,e,_):=H x z;rw[e];rfl
 rw[e];show o ι _ _ M .Vt G {VC,VC} (aV _ o5 p)
def j8.dictT (m:ZG q) {a:V9} {k x:V} {es:V2 (V×V)} (ha:M[a]?=V1 (.WD es)) (b:∀e∈es,q e.1=V6) (f:q k=V6) (g:oG es k=V1 x) (p:P x M):j8 c n (.VG a) k M P:=λA ι s h i j G l r=>by
 let(d,t,VC):=l;let(u,xs,y,z,B):=IE m G ha b;rw[t] at y;cases y;let(C,VC,D):=Dn m f r;let(F,v,e,H):=(DM.atKey m B (k:={k,f})).2 x g;have hT:s.Xj (.VG d) "dict":=by let(o,es,I,J,K,_):=z;show{o,J,K.1}
 apply{(kW "dict" "dict.__getitem__" hT slot_dict_getitem.VY),λQ E L=>?_};show @wpAny_getItem_heap c.VM c.w (gK q) (gV q) (XL c.VM c.w m) A E s d C {k,f} xs (F,v) Q (C0 j) (WV.ofI (m.Yh _ f) D) z e (L ι _ _ M .Vt G {VC,VC} (aV _ H p))
def tE {u y:V}:∀{es:V2 (V×V)},(mQ es u y).VP (·.1)=es.VP (·.1)\/((mQ es u y).VP (·.1)=es.VP (·.1)++[u]/\∀e∈es,gc e.1 u=V3):=by
 intro a
 induction a with
 |VH=>
  show .Wt {VC,λ_ h=>(by cases h)}
 |V4 b es d=>
  let(k,x):=b;cases hz:gc k u with
  |V6=>rw[show mQ ((k,x)::es) u y=_ from Vw hz];show .XB rfl
  |V3=>
   rw[show mQ ((k,x)::es) u y=_ from Vd (hz▸aO)];rcases d with h|⟨h,g⟩
   .show .XB (VN (k::·) h)
   .apply .Wt {by show VN _ ‹_›,λe f=>?_};rcases aU.mp f with rfl|f
    .show rW _▸hz
    .show g e f
def An {u y:V} {es:V2 (V×V)} (d:(es.VP (·.1)).WF) (f:∀e∈es,f6 e.1=V6):((mQ es u y).VP (·.1)).WF:=by
 rcases tE (u:=u) (y:=y) (es:=es) with h|⟨h,g⟩
 .rw[h];show d
 .rw[h];apply fL.WO (fq d (by show dJ.WO {fY,j5}) λa ha b i e=>?_);rw[aC.mp i] at e;let(w,j,VC):=aK.mp ha;have:=g w j;rw[(jj (f w j)).WO e] at this;cases this
def E8 {u y:V} {es:V2 (V×V)}:∀e∈mQ es u y,e.1=u\/∃a∈es,a.1=e.1:=by
 intro e b;have:e.1∈(mQ es u y).VP (·.1):=aK.WO (aV e b rfl);rcases tE (u:=u) (y:=y) (es:=es) with h|⟨h,g⟩
 .rw[h] at this;let(w,d,e):=aK.mp this;show .Wt (aV w d e)
 .rw[h] at this;rcases aW.mp this with z|z
  .let(w,d,e):=aK.mp z;show .Wt (aV w d e)
  .show .XB (aC.mp z)
def E9 {u y:V} {es:V2 (V×V)} (a:∀e∈es,f6 e.1=V6) (b:f6 u=V6):∀e∈mQ es u y,f6 e.1=V6:=λe d=>by
 rcases E8 e d with h|⟨w,hw,h⟩
 .rw[h];show b
 .rw[<-h];show a w hw
def Fb {ι h} {a:V9} {es:V2 (V×V)} (G:c.W6 ι M h) (ha:M[a]?=V1 (.WD es)):(es.VP (·.1)).WF/\∀e∈es,f6 e.1=V6:=by let(d,b,f,k,g,i,j,l):=G.VJ a _ ha;show{j,l}
def Fc (m:ZG q) {ι h h'} {a:V9} {d:Vc} {b:V2 (V×V)} {f:V2 (gK q×Vc×VE)} (G:c.W6 ι M h) (g:ι[a]?=V1 d) (hs:WH.Xm d h h')
    (i:@WH.DictOfH c.VM c.w (gK q) (gV q) (XL c.VM c.w m) h' d f) (j:DM ι h b f) (k:(b.VP (·.1)).WF) (l:∀e∈b,f6 e.1=V6):
    WQ [] ι h ι h'/\c.W6 ι (M.Wb a (.WD b)) h':=by apply G.Wb g hs λst=>?_;let(o,ents,ep,h1,(h2,h3,h4),h5,h6,_):=i;let(p,r,s,t):=o;dsimp only at h2 h3 h4 h5;subst h2 h3 h4 h5;show⟨ents,ep,h1,by rw[h6];show DM.to m (j.WL st λ_ q=>(by cases q)),k,l⟩
def uJ.dictT (m:ZG q) {a:V9} {k y:V} {es:V2 (V×V)} {R:WC->Prop} (ha:M[a]?=V1 (.WD es)) (b:∀e∈es,q e.1=V6) (f:q k=V6) (hz:es.V0<=cE) (p:R (M.Wb a (.WD (mQ es k y)))):uJ c n sd (.VG a) k y M R:=λA ι s g h i j G l o r Q E t=>by let(d,u,VC):=l;let(v,xs,x,z,B):=IE m G ha b;rw[u] at x;cases x;let(C,VC,D):=Dn m f o;let(F,H):=Fb G ha;apply @wpAny_setItem_heap c.VM c.w (gK q) (gV q) (XL c.VM c.w m) A E s d C {k,f} xs i Q (C0 j) (WV.ofI (m.Yh _ f) D) z (λh' I hs=>?_) (by rw[B.Wz];show hz);let(st,J):=Fc m G u hs I (DM.YA m D r B F) (An F H) (E9 H (m.Yh _ f));show t ι _ _ _ st J {VC,VC} p
def sM.WD {a:V9} {es:V2 (V×V)} {name:Vm} {id:Zf} (d:Slot "dict" name id) (e:DR (.Va id)=X3 (.W5 "method_descriptor")) (ha:M[a]?=V1 (.WD es)):sM c n (.VG a) name M (.Va id):=λA ι s f pl g G r Q E q=>by let(x,h,VC):=r;let(i,j,l,k,m,_):=G.VJ a _ ha;rw[h] at j;cases j;show getMethod_builtin (T:="dict") {_,m,VC} F.plainAttrs_dict d e (λb o=>by cases o;show aV _ m rfl) (q ι s _ .Vt G .Vt rfl)
def Ek {VM:Wj} {w:XA} {b:Type} [Wy b] {Xk:HeapKind VM w b} {A:W8} {E:VE->VI->Prop} {s:VI} {d a:Vc} {xs:V2 (b×Vc×VE)} {k:b} {v:VE} {Q:VE->VI->Prop} (f:Xk.room A) (g:Xk.is s.V5 k a) (h:s.V5.DictOfH Xk d xs)
    (i:∀p,atKey xs k=V1 p->Q p.2 {s with WJ:=s.WJ+Xk.draws k})
    (l:atKey xs k=V8->∀h',h'.DictOfH Xk d (SW xs k a v)->WH.Xm d s.V5 h'->Q v {s with V5:=h',WJ:=s.WJ+Xk.draws k}) (m:xs.V0<=cE):
    VO (Vg VM w) A (dictSetDefault d (.VG a) v) Q E s:=by
 let(o,es,r,t,u,B,C,D,F):=h;apply dz ?_;apply aA (Xk.pyHash f g ?_);apply aA (wpAny_dictFind_heap (s:={s with WJ:=s.WJ+Xk.draws k}) f g t B C D F ?_ ?_)
 .intro G;have hnot:k∉xs.VP (·.1):=not_mem_keys_of_get G
  apply aA (g5 (aA (wpAny_updateDictKeys (hz:=by have e:=size_of_entries C;show Lc m e) (s:={s with WJ:=s.WJ+Xk.draws k}) t B (aD (l (sF G) _ ⟨_,_,r+1,gn _ t (Obj.isFreed_of_dict (Obj.data_mapDictKeys B _)),
   u.mapDictKeys _,Obj.data_mapDictKeys B _,?_,?_,?_⟩ (dN ..))))))
  .rw[PB (sF G)];simp[C,SM]
  .rw[PB (sF G)];intro x H;rcases aW.mp H with H|H
   .show Xk.YG (D x H) t B (dN ..)
   .simp only[aC] at H;subst H;show Xk.YG g t B (dN ..)
  .rw[PB (sF G),bD,bT,yo];show fL.WO (fq F (by show W1 rfl) λx H y I e=>hnot (by have:=aC.mp I;rw[<-e] at this;have z:x=k:=this;show z▸H))
 .intro j p J;apply aA (BC (s:={s with WJ:=s.WJ+Xk.draws k}) t B ?_);rw[entry_at C j,J];show aA (g5 (aD (i p (atKey_of_get F J))))
def vH {VM:Wj} {w:XA} {b:Type} [Wy b] (Xk:HeapKind VM w b) (d a:Vc) (e:(d==rt)=V3) (dflt:VE):
    MeetsIn VM w (WA.«dict.setdefault» ⟨[.VG d,.VG a,dflt],[]⟩) (λA R s=>Xk.room A.Z8/\∃k xs,Xk.is s.V5 k a/\s.V5.DictOfH Xk d xs/\xs.V0<=cE/\
     (∀p,atKey xs k=V1 p->R (.ok (.XC p.2)) {s with WJ:=s.WJ+Xk.draws k})/\
     (atKey xs k=V8->∀h',h'.DictOfH Xk d (SW xs k a dflt)->WH.Xm d s.V5 h'->R (.ok (.XC dflt)) {s with V5:=h',WJ:=s.WJ+Xk.draws k})):=
 .of_wp λA R s f=>by
  let(g,k,xs,h,i,hz,j,l):=f;have hT:s.Xj (.VG d) "dict":=i.Yf
  focus unfold WA.«dict.setdefault»
  apply aA ?_;apply aA (wh hT ?_)
  focus change VO _ _ (X3 (d,ki a,V1 dflt)) _ _ s
  apply aD ?_
  focus change VO _ _ (if (d==rt)=V6 then _ else (dictSetDefault d (.VG a) dflt>>=_)) _ _ s
  rw[Vd (by rw[e];show aO)];show aA (Ek g h i (λp m=>aD (aV p.2 rfl (j p m))) (λo h' r t=>aD (aV dflt rfl (l o h' r t))) hz)
def aQ.setdefaultT (m:ZG q) {a:V9} {k y:V} {es:V2 (V×V)} (ha:M[a]?=V1 (.WD es)) (b:∀e∈es,q e.1=V6) (f:q k=V6) (hz:es.V0<=cE)
    (g:∀x,oG es k=V1 x->P x M) (h:oG es k=V8->P y (M.Wb a (.WD (mQ es k y)))):aQ c n (.Va "dict.setdefault") [.VG a,k,y] M P:=λA ι s i j G r Q E l=>by
 let(t,u,B,VC,C,D,H):=r.inv3;clear r;let(d,I,VC):=C;let(J,xs,K,L,N):=IE m G ha b;rw[I] at K;cases K;let(R,VC,u):=Dn m f D;let(S,T):=Fb G ha;have hT:s.Xj (.VG d) "dict":=by let(o,es,U,W,X,_):=L;show{o,W,X.1}
 let(Y,Z):=DM.atKey m N (k:={k,f});apply CA F.slot_dict_setdefault hT F.entry_dict_setdefault (F.args_dict_setdefault_3 _ _ _) (@vH c.VM c.w (gK q) (gV q) (XL c.VM c.w m) d R (oz G (aF I)) B) {C0 j,{k,f},xs,WV.ofI (m.Yh _ f) u,L,by rw[N.Wz];show hz,λp a0=>?_,λa0 h' a1 hs=>?_}
 .cases z:oG es k with
  |V8=>rw[Y z] at a0;cases a0
  |V1 x=>
   let(a2,v,e,a3):=Z x z;rw[e] at a0;cases a0;show l ι _ _ M .Vt G {VC,VC} (aV _ a3 (g x z))
 .cases z:oG es k with
  |V1 x=>
   let(a2,v,e,a3):=Z x z;rw[e] at a0;cases a0
  |V8=>
   let(st,a4):=Fc m G I hs a1 (DM.YA m u H N S) (An S T) (E9 T (m.Yh _ f));show l ι _ _ _ st a4 {VC,VC} (aV _ (H.up st) (h z))
def W6.kept {ι:V2 Vc} {h h':WH} (G:c.W6 ι M h) (k:∀b o,h.VT b=V1 o->h'.VT b=V1 o) (ks:h.VJ.VA<=h'.VJ.VA):WQ [] ι h ι h'/\c.W6 ι M h':=G.YG ks k
def PC {ι h a rv} (r:WV ι h (.VG a) rv):∃x,ι[a]?=V1 x/\rv=.VG x:=by show r
def pU {ι h} {a:V9} {rv:VE} {xs:V2 V} (G:c.W6 ι M h) (ha:M[a]?=V1 (.VF xs)) (r:WV ι h (.VG a) rv):∃x VL k,rv=.VG x/\ι[a]?=V1 x/\h.VT x=V1 (kr VL k)/\cT ι h xs VL.VD:=by let(x,b,VC):=PC r;let(d,VL,k,e,f,g):=gH G ha;rw[b] at e;cases e;show T4 x VL k rfl b f g
def aQ.tupleL {a:V9} {xs:V2 V} (ha:M[a]?=V1 (.VF xs)) (hz:xs.V0<=cE) (p:P (.Vj xs) M):aQ c n (.W5 "tuple") [.VG a] M P:=λA ι s d f G r Q E q=>by let(rv,VC,g):=r.Zb;clear r;let(x,VL,k,VC,h,i,j):=pU G ha g;apply eV (call_tuple_list (eG i) (λh' l ks=>?_) (by rw[gF j];show hz));have k2:∀b o,s.V5.VT b=V1 o->(h'.Vp {Z9:=.W5 "tuple",Xu:=.seq VL}).VT b=V1 o:=λb o e=>aJ _ (l b o e);let(st,m):=G.YG ks k2;apply q ι _ _ M st m {VC,VC} (aV _ ?_ p);show{_,VL,0,VC,G.new2 l,aP _ rfl,j.up st}
def aQ.tupleT {xs:V2 V} (p:P (.Vj xs) M):aQ c n (.W5 "tuple") [.Vj xs] M P:=λA ι s a b G r Q E q=>by let(rv,VC,d):=r.Zb;have r1':=d;clear r;let(x,VL,k,VC,no,e,f):=d;show call_tuple_tup (gg e) (q ι s _ M .Vt G .Vt (aV _ r1' p))
def EY {A ι s} {x:Vc} {T:Zf} {VL:VW VE} {k:V9} {xs:V2 V} (G:c.W6 ι M s.V5) (a:T="list"\/T="tuple") (b:s.V5.VT x=V1 {Z9:=.W5 T,Xu:=.seq VL k}) (d:cT ι s.V5 xs VL.VD) (hz:xs.V0<=cE)
    (p:P (.VG M.V0) (M++[.VF xs])):Go c A (Vu (.W5 "list") [.VG x]) ι s [] (RP P):=λQ E q=>by apply eV (call_list_seq x a b rfl rfl (λh' e f g ks=>?_) (by rw[gF d];show hz));let(st,h):=G.Vp (o':=.VF xs) (aM _) (bM g) f λst=>⟨VL,e,g,d.up st⟩;show q _ _ _ _ st h ⟨VC,VC⟩ (aV _ (by show⟨_,fX G.Wz,VC⟩) p)
def aQ.listL {a:V9} {xs:V2 V} (ha:M[a]?=V1 (.VF xs)) (hz:xs.V0<=cE) (p:P (.VG M.V0) (M++[.VF xs])):aQ c n (.W5 "list") [.VG a] M P:=λA ι s b d G r=>by let(rv,VC,e):=r.Zb;clear r;let(x,VL,k,VC,f,g,h):=pU G ha e;show EY G (.XB rfl) g h hz p
def aQ.listT {xs:V2 V} (hz:xs.V0<=cE) (p:P (.VG M.V0) (M++[.VF xs])):aQ c n (.W5 "list") [.Vj xs] M P:=λA ι s a b G r=>by let(rv,VC,d):=r.Zb;clear r;let(x,VL,k,VC,no,e,f):=d;show EY G (.Wt rfl) e f hz p
def aQ.Xb {i:Vo} (p:P (.Xb 0 i) M):aQ c n (.W5 "range") [.Vl i] M P:=λA ι s a d G r Q E q=>by let(rv,VC,f):=r.Zb;clear r;let(t,VC):=f;apply call_range_1 ?_;let(st,g):=G.YG (h':=s.V5.Vp {Z9:=.W5 "range",Xu:=.WG #[.Vl 0 s.WJ,.Vl i t,.Vl 1 (s.WJ+1)]}) (bZ kK) λb o e=>aJ _ e;apply q ι _ _ M st g {VC,VC} (aV _ ?_ p);show{_,_,_,_,VC,G.new (aM _),aP _ rfl}
def cT.ints {ι h}:∀{ns:V2 Vo} {vs:V2 VE},cT ι h (ns.VP V.Vl) vs->∃a:V2 (Vo×Tok),vs=a.VP (λp=>VE.Vl p.1 p.2)/\a.VP (·.1)=ns:=by
 intro b
 induction b with
 |VH=>
  intro vs r;show{[],r,VC}
 |V4 x ns d=>
  intro vs r;let(v,q,VC,(t,VC),r2):=r;let(a,e,f):=d r2;show{(x,t)::a,by rw[e];rfl,by show VN _ ‹_›}
def z0 {ι h} {ns:V2 Vo} {VL:VW VE} (r:cT ι h (ns.VP V.Vl) VL.VD):∃a:VW (Vo×Tok),VL=intItems a/\a.VD.VP (·.1)=ns:=by let(a,e,b):=r.ints;apply{a.WE,?_,by simpa using b};rw[<-VW.toList_inj,e,intItems];simp
def EB {a:VW (Vo×Tok)}:UK (numAt a) a.VA=(a.VD.VP (·.1)).sum:=by
 have:∀k,k<=a.VA->UK (numAt a) k=((a.VD.VP (·.1)).WU k).sum:=by
  intro k
  induction k with
  |WM=>intro _;simp[UK]
  |Wh k b=>
   intro h;have hk:k<(a.VD.VP (·.1)).V0:=by simp;show Qx [_,_] [] h
   rw[UK,b (by show bY [.l V3 (.p (.v 0) (.n 1)) (.v 1)] (.l V3 (.v 0) (.v 1)) [[1,1]] tt [_,_] [] h),V2.take_succ,V2.sum_append,aI hk];simp[numAt,gP (by show Qx [_,_] [] h:k<a.VA)]
 show eZ (this _ (aM _)) (VN _ (jt (by simp)))
def aQ.sum {a:V9} {ns:V2 Vo} (ha:M[a]?=V1 (.VF (ns.VP .Vl))) (p:P (.Vl ns.sum) M):aQ c n (.Va "sum") [.VG a] M P:=λA ι s b d G r Q E q=>by let(rv,VC,e):=r.Zb;clear r;let(x,VL,k,VC,f,g,h):=pU G ha e;let(i,VC,j):=z0 h;apply eV (sum_intListG d.hd (eG g) λh' l t' m ks=>?_);let(st,o):=G.YG ks m;apply q ι {s with V5:=h',WJ:=l} _ M st o {VC,VC} (aV _ ?_ p);show{t',by rw[EB,j]}
def aQ.max {a:V9} {ns:V2 Vo} (ha:M[a]?=V1 (.VF (ns.VP .Vl))) (h0:ns≠[]) (p:∀i,P (.Vl i) M):aQ c n (.Va "max") [.VG a] M P:=λA ι s b d G r Q E q=>by
 let(rv,VC,e):=r.Zb;clear r;let(x,VL,k,VC,f,g,h):=pU G ha e;let(j,VC,m):=z0 h;apply eV (max_intList d.hd (eG g) ?_ λv h' o hv u ks=>?_)
 .clear h g k;cases j with
  |mk l=>cases l with
   |VH=>show Vy (by show ‹_=_›.Vh) h0
   |V4 _ _=>show di _
 let(st,w):=G.YG ks u;let(t,VC):=intItems_at hv;show q ι {s with V5:=h',WJ:=o} _ M st w {VC,VC} (aV _ (by show{t,VC}) (p _))
def aQ.abs {i:Vo} (p:P (.Vl (if i<0 then -i else i)) M):aQ c n (.Va "abs") [.Vl i] M P:=λA ι s a b G r Q E q=>by let(rv,VC,d):=r.Zb;clear r;let(t,VC):=d;show call_abs_int λu e=>q ι {s with WJ:=e} _ M .Vt G {VC,VC} (aV _ C1 p)
def aQ.strI {i:Vo} (h:i.natAbs.log2<1920) (p:P (.Vn (aX (toString i))) M):aQ c n (.W5 "str") [.Vl i] M P:=λA ι s a b G r Q E q=>by let(rv,VC,d):=r.Zb;clear r;let(t,VC):=d;show Ve.P.str_of_int h (q ι {s with WJ:=s.WJ+1} _ M .Vt G {VC,VC} (aV _ Uo p))
def aQ.intS {x:Vm} {i:Vo} (h:Ve.intText? x=V1 i) (a:x.V0<=640) (p:P (.Vl i) M):aQ c n (.W5 "int") [.Vn x] M P:=λA ι s b d G r Q E q=>by let(rv,VC,e):=r.Zb;clear r;let(t,VC):=e;show Ve.W.KIN.call_text h a (q ι {s with WJ:=s.WJ+1} _ M .Vt G {VC,VC} (aV _ C1 p))
def aQ.isspaceS {x:Vm} (p:P (.WW (Txt.isspace x)) M):aQ c n (.Va "str.isspace") [.Vn x] M P:=λA ι s a b G r Q E q=>by let(rv,VC,d):=r.Zb;clear r;let(t,VC):=d;show Ve.SC.isspace (q ι s _ M .Vt G .Vt (aV _ o5 p))
def uJ.Z6 {a:V9} {xs:V2 V} {i:Vo} {v:V} {R:WC->Prop} (ha:M[a]?=V1 (.VF xs)) (h0:0<=i) (hi:i<xs.V0) (b:i<2^63) (p:R (M.Wb a (.VF (xs.Wb i.Xd v)))):uJ c n sd (.VG a) (.Vl i) v M R:=λA ι s d e f g G h m o Q E q=>by
 let(l,VL,k,VC,u,w,x):=pU G ha h;let(t,VC):=m;have hl:=eG w;have hsz:=gF x
 focus unfold sd
 try with_reducible apply dz ?_
 first|apply aA (aD ?_)|skip
 apply aA (wpAny_sequenceKey hl.Yf (by show rfl) ?_)
 apply aA (fV (name:=aX "__setitem__") hl.Yf slot_list_setitem
  (gh slot_list_setitem hl.Yf entry_list_setitem ?_ (args_list_setitem _ _ _)))
 focus change VO _ _ (WA.V2.listSubscript? (.Vl i t)>>=_) _ _ s
 apply aA (wpAny_listSubscript_int (fitsIndex_of h0 b) ?_);clear b;let(j,VC):=rY h0;have hj:j<VL.VA:=by rw[hsz];show bY [.k V6 (.z (.v 0)) (.z (.v 1))] (.k V3 (.v 0) (.v 1)) [[1,1]] tt [_,_] [] hi
 have hx':VL[j]?=V1 VL[j]:=gP hj
 focus change VO _ _ ((seqItemAt l j>>=λr=>X3 (r.VP (j,·)))>>=_) _ _ s
 apply aA (aA (wpAny_seqItemAt w rfl (aD ?_)));rw[hx']
 focus change VO _ _ (setSeqItemAt l j f>>=_) _ _ s
 apply aA (wpAny_setSeqItemAt w rfl ?_)
 let(st,y):=G.Wb (o':=.VF (xs.Wb j v)) u (dN s.V5 l (eE (·.YV j f))) λst=>⟨VL.YV j f,_,gn _ w rfl,by
  rw[jV];show(x.up st).Wb j (o.up st)⟩
 show aD (aV _ rfl (aD (q ι _ _ _ st y {VC,VC} p)))
end
section
mutual open Nat
abbrev UI {VM:Wj} {w:XA} {d:Type} [Wy d] (a:Zn VM w d) (b:d->V):Prop:=
 (∀ι h k v,WV ι h (b k) v->a.is k v=V6)/\(∀ι h k v,a.is k v=V6->WV ι h (b k) v)/\(∀k,a.hash k=hv w (b k))/\(∀k,f6 (b k)=V6)/\(∀x y,b x=b y->x=y)/\∀k v,a.is k v=V6->(keyPart v).XZ=V6
abbrev Kd (VM:Wj) (w:XA) (a:Type) [Wy a]:Type:={p:Zn VM w a×(a->V) // UI p.1 p.2}
nonrec abbrev Kd.Xk {VM:Wj} {w:XA} {a:Type} [Wy a] (q:Kd VM w a):Zn VM w a:=q.1.1
nonrec abbrev Kd.enc {VM:Wj} {w:XA} {a:Type} [Wy a] (q:Kd VM w a):a->V:=q.1.2
def Kd.is_of {VM:Wj} {w:XA} {a:Type} [Wy a] (q:Kd VM w a) {ι h k v} (r:WV ι h (q.enc k) v):q.Xk.is k v=V6:=q.2.1 _ _ _ _ r
def Kd.rep {VM:Wj} {w:XA} {a:Type} [Wy a] (q:Kd VM w a) {ι h k v} (r:q.Xk.is k v=V6):WV ι h (q.enc k) v:=q.2.2.1 _ _ _ _ r
def Kd.hash {VM:Wj} {w:XA} {a:Type} [Wy a] (q:Kd VM w a) (k:a):q.Xk.hash k=hv w (q.enc k):=q.2.2.2.1 k
def Kd.Yh {VM:Wj} {w:XA} {a:Type} [Wy a] (q:Kd VM w a) (k:a):f6 (q.enc k)=V6:=q.2.2.2.2.1 k
def Kd.inj {VM:Wj} {w:XA} {d:Type} [Wy d] (q:Kd VM w d) (a b:d):q.enc a=q.enc b->a=b:=q.2.2.2.2.2.1 a b
def Kd.part {VM:Wj} {w:XA} {a:Type} [Wy a] (q:Kd VM w a) {k:a} {v} (r:q.Xk.is k v=V6):(keyPart v).XZ=V6:=q.2.2.2.2.2.2 _ _ r
abbrev kdI (VM:Wj) (w:XA):Kd VM w Vo:=
 Subtype.mk (Ve.intKind VM w,V.Vl) (T7 (λι h k v r=>by let(t,VC):=r;show Wk k) (λι h k v r=>by let(t,VC):=xS r;show⟨t,VC⟩) (λk=>rfl) (λk=>rfl) (λa b h=>by cases h;rfl) λk v h=>by let(t,VC):=xS h;rfl)
abbrev kdS (VM:Wj) (w:XA):Kd VM w Vm:=
 Subtype.mk (iS VM w,V.Vn) (T7 (λι h k v r=>by let(t,VC):=r;show Wk k) (λι h k v r=>by let(t,VC):=oK r;show⟨t,VC⟩) (λk=>rfl) (λk=>rfl) (λa b h=>by cases h;rfl) λk v h=>by let(t,VC):=oK h;rfl)
end
section
variable {K:Type} [DecidableEq K] {kd:Kd c.prog c.w K}
mutual open Nat
abbrev fO {VM w} (kd:Kd VM w K) (Vf:V2 (K×V)):V2 (V×V):=Vf.VP λr=>(kd.enc r.1,r.2)
def F8 {ι h}:∀{Vf:V2 (K×V)} {l:V2 XF},v7 c.w ι h (fO kd Vf) l->∃g:V2 (K×VE),Pairs kd.Xk l g/\(∀e∈l,∃k,kd.Xk.is k e.Yh=V6/\e.hash=kd.Xk.hash k)/\g.VP (·.1)=Vf.VP (·.1)/\cT ι h (Vf.VP (·.2)) (g.VP (·.2)):=by
 intro i
 induction i with
 |VH=>
  intro l r;rw[r];show{[],.VH,λ_ h=>(fY h).W2,VC,.VH}
 |V4 j Vf m=>
  let(k,x):=j;intro l r;let(e,q,VC,o,p,s,t):=r;let(g,a,b,d,f):=m t;apply Sl ((k,e.YM)::g) (.V4 (kd.is_of p) rfl a) (λy u=>?_) (VN (k::·) d) (.V4 s f);clear s;rcases aU.mp u with rfl|u
  .show{k,kd.is_of p,by rw[o,kd.hash]}
  .show b y u
def uw {ι h}:∀{d:V2 (K×VE)} {l:V2 XF} {Vf:V2 (K×V)},Pairs kd.Xk l d->(∀e∈l,∃k,kd.Xk.is k e.Yh=V6/\e.hash=kd.Xk.hash k)->d.VP (·.1)=Vf.VP (·.1)->cT ι h (Vf.VP (·.2)) (d.VP (·.2))->v7 c.w ι h (fO kd Vf) l:=by
 intro d l Vf p
 induction p generalizing Vf with
 |VH=>
  intro _ a _;cases Vf with
  |VH=>rfl
  |V4 _ _=>cases a
 |@V4 e f es d g i j m=>
  intro b a r;cases Vf with
  |VH=>cases a
  |V4 y Vf=>
   have a:=tU a;let(v,q,o,s,t):=r;cases o;let(k,u,x):=b e cP;have:k=f.1:=kd.Xk.inj _ _ _ u g;subst this;rw[show f.1=y.1 from a.1] at g x;show{e,es,VC,by rw[x,kd.hash],kd.rep g,(rwt s i),m (λy z=>b y (bN _ z)) a.2 t}
def MT {Vf:V2 (K×V)}:(fO kd Vf).VP (·.1)=(Vf.VP (·.1)).VP kd.enc:=by unfold fO;rw[cB,cB];rfl
def tu {Vf:V2 (K×V)}:((fO kd Vf).VP (·.1)).WF↔(Vf.VP (·.1)).WF:=by
 rw[MT];constructor
 .intro h;show(iR.mp h).imp λa b=>a (by show VN _ (b))
 .intro h;show iR.WO (h.imp λa b=>a (kd.inj _ _ b))
def uB {ι h} {a:V9} {rv:VE} {Vf:V2 (K×V)} (G:c.W6 ι M h) (ha:M[a]?=V1 (.WD (fO kd Vf))) (r:WV ι h (.VG a) rv):
    ∃d b,rv=.VG d/\ι[a]?=V1 d/\h.DictOf kd.Xk d b/\b.VP (·.1)=Vf.VP (·.1)/\cT ι h (Vf.VP (·.2)) (b.VP (·.2)):=by let(x,f,VC):=PC r;let(g,i,j,m,k,l,o,p):=G.VJ a _ ha;rw[f] at i;cases i;let(b,q,s,t,u):=F8 l;show Sk x b rfl f ⟨_,j,m,k,⟨VC,VC,VC⟩,VC,λe v=>s e (by simpa using v),q,by rw[t];show tu.mp o⟩ t u
def ID {ι h h'} {a:V9} {d:Vc} {b:V2 (K×VE)} {Vf:V2 (K×V)} (G:c.W6 ι M h) (f:ι[a]?=V1 d) (hs:WH.Xm d h h') (g:h'.DictOf kd.Xk d b) (i:b.VP (·.1)=Vf.VP (·.1)) (j:cT ι h (Vf.VP (·.2)) (b.VP (·.2))):
    WQ [] ι h ι h'/\c.W6 ι (M.Wb a (.WD (fO kd Vf))) h':=by apply G.Wb f hs λst=>?_;let(o,ents,ep,h1,(h2,h3,h4),h5,h6,h7,h8):=g;let(k,l,m,p):=o;dsimp only at h2 h3 h4 h5;subst h2 h3 h4 h5;apply⟨ents,ep,h1,uw h7 (λe q=>h6 e (by simpa using q)) i (j.up st),by rw[tu,<-i];show h8,λe q=>?_⟩;let(y,_,VC):=aK.mp q;show kd.Yh _
abbrev oZ (Vf:V2 (K×V)) (k:K):VK V:=(Vf.ZS λr=>r.1=k).VP (·.2)
abbrev zm (Vf:V2 (K×V)) (k:K) (v:V):V2 (K×V):=if Vf.any (λr=>r.1=k) then Vf.VP (λr=>if r.1=k then (r.1,v) else r) else Vf++[(k,v)]
def GJ {ι h} {P:V2 (K×V)->V2 (K×VE)->Prop} (h0:P [] []) (b:∀k x v Vf d,WV ι h x v->P Vf d->P ((k,x)::Vf) ((k,v)::d)) {Vf:V2 (K×V)}:∀{d:V2 (K×VE)},d.VP (·.1)=Vf.VP (·.1)->cT ι h (Vf.VP (·.2)) (d.VP (·.2))->P Vf d:=by
 induction Vf with
 |VH=>
  intro d a _;cases d with
  |VH=>show h0
  |V4 _ _=>cases a
 |V4 p Vf f=>
  intro d a r;cases d with
  |VH=>cases a
  |V4 u d=>
   let(v,q,e,g,i):=r;have a:=tU a;have e:=tU e;rw[<-e.2] at i;rw[<-(e.1:u.2=v)] at g;rw[show u=(p.1,u.2) from J6 a.1 rfl];show b p.1 p.2 u.2 Vf d g (f a.2 i)
def qP {ι h} {k:K} {Vf:V2 (K×V)} {a:V2 (K×VE)}:a.VP (·.1)=Vf.VP (·.1)->cT ι h (Vf.VP (·.2)) (a.VP (·.2))->
    (∀x,oZ Vf k=V1 x->∃v,F0 a k=V1 v/\WV ι h x v)/\(oZ Vf k=V8->F0 a k=V8):=by
 apply GJ (P:=λ(Vf:V2 (K×V)) (a:V2 (K×VE))=>(∀x,oZ Vf k=V1 x->∃v,F0 a k=V1 v/\WV ι h x v)/\(oZ Vf k=V8->F0 a k=V8)) {λ_ h=>(by cases h),λ_=>rfl} λk' x v Vf a r b=>?_;unfold oZ F0 at *;rw[dj,dj];cases decide (k'=k) with
 |V6=>show{λx e=>aV _ rfl (cG e▸r),nofun}
 |V3=>show b
def Np {k:K} {b d:Type} {l:V2 (K×b)} {m:V2 (K×d)} (h:l.VP (·.1)=m.VP (·.1)):l.any (λr=>decide (r.1=k))=m.any (λr=>decide (r.1=k)):=by
 have:=VN (λl=>V2.any l λa=>decide (a=k)) h
 rwa[yr,yr] at this
def cT.mapIf {ι h} {k:K} {v:VE} {y:V} (rv:WV ι h y v) {Vf:V2 (K×V)} {a:V2 (K×VE)}:a.VP (·.1)=Vf.VP (·.1)->cT ι h (Vf.VP (·.2)) (a.VP (·.2))->
    cT ι h ((Vf.VP λr=>if r.1=k then (r.1,y) else r).VP (·.2)) ((a.VP λr=>if r.1=k then (r.1,v) else r).VP (·.2)):=by
 apply GJ (P:=λ(Vf:V2 (K×V)) (a:V2 (K×VE))=>cT ι h ((Vf.VP λr:K×V=>if r.1=k then (r.1,y) else r).VP yk) ((a.VP λr:K×VE=>if r.1=k then (r.1,v) else r).VP yk)) .VH λk' x b Vf a r d=>.V4 ?_ d;change WV ι h (if k'=k then (k',y) else (k',x)).2 (if k'=k then (k',v) else (k',b)).2;by_cases z:k'=k
 .rw[Vw z,Vw z];show rv
 .rw[Vd z,Vd z];show r
def CO {ι h} {k:K} {Vf:V2 (K×V)} {a:V2 (K×VE)}:a.VP (·.1)=Vf.VP (·.1)->cT ι h (Vf.VP (·.2)) (a.VP (·.2))->
    (Nx a k).VP (·.1)=(Vf.X2 λr=> ! decide (r.1=k)).VP (·.1)/\cT ι h ((Vf.X2 λr=> ! decide (r.1=k)).VP (·.2)) ((Nx a k).VP (·.2)):=by
 apply GJ (P:=λ(Vf:V2 (K×V)) (a:V2 (K×VE))=>(Nx a k).VP (·.1)=(Vf.X2 λr=> ! decide (r.1=k)).VP (·.1)/\cT ι h ((Vf.X2 λr=> ! decide (r.1=k)).VP (·.2)) ((Nx a k).VP (·.2))) {VC,.VH} λk' x v Vf a r b=>?_;unfold Nx at b⊢;by_cases w:k'=k
 .rw[l7 (p:=λd:K×VE=>decide (d.1≠k)) (λe=>(W1 e:k'≠k) w),l7 (p:=λr:K×V=> !decide (r.1=k)) (λe=>of_decide_eq_false ((dh _).mp e) w)];show b
 .rw[l6 (p:=λd:K×VE=>decide (d.1≠k)) (Vs w),l6 (p:=λr:K×V=> !decide (r.1=k)) ((dh _).WO (Vk w))];show{VN (k'::·) b.1,.V4 r b.2}
def Ed {ι h} {k:K} {v:VE} {y:V} (rv:WV ι h y v) {Vf:V2 (K×V)} {b:V2 (K×VE)} (a:b.VP (·.1)=Vf.VP (·.1)) (r:cT ι h (Vf.VP (·.2)) (b.VP (·.2))):
    (FT b k v).VP (·.1)=(zm Vf k y).VP (·.1)/\cT ι h ((zm Vf k y).VP (·.2)) ((FT b k v).VP (·.2)):=by
 focus unfold FT zm
 rw[Np a];split
 .constructor
  .rw[cB,cB];have e1:(λd:K×VE=>((if d.1=k then (d.1,v) else d):K×VE).1)=(·.1):=by funext d;split<;>rfl
   have e2:(λd:K×V=>((if d.1=k then (d.1,y) else d):K×V).1)=(·.1):=by funext d;split<;>rfl
   focus change b.VP (λd:K×VE=>((if d.1=k then (d.1,v) else d):K×VE).1)=Vf.VP (λd:K×V=>((if d.1=k then (d.1,y) else d):K×V).1)
   rw[e1,e2];show a
  .show cT.mapIf rv a r
 .simp only[bD,bT,yo];show{by rw[a],r.WX (.Ws rv)}
def j8.dictK {a:V9} {k:K} {x:V} {Vf:V2 (K×V)} (ha:M[a]?=V1 (.WD (fO kd Vf))) (b:oZ Vf k=V1 x) (p:P x M):j8 c n (.VG a) (kd.enc k) M P:=λA ι s f g h G i j=>by let(d,l,VC,m,o,q,r):=uB G ha i;let(v,e,t):=(qP q r).1 x b;apply{(kW "dict" "dict.__getitem__" o.Yf slot_dict_getitem.VY),λQ E u=>?_};show wpAny_getItem_of (kd.is_of j) o.mapOf e (u ι {s with WJ:=s.WJ+1} _ M .Vt G {VC,VC} (aV _ t p))
def uJ.dictK {a:V9} {k:K} {y:V} {Vf:V2 (K×V)} {R:WC->Prop} (ha:M[a]?=V1 (.WD (fO kd Vf))) (hz:Vf.V0<=cE) (p:R (M.Wb a (.WD (fO kd (zm Vf k y))))):uJ c n sd (.VG a) (kd.enc k) y M R:=λA ι s b e f g G h i j Q E l=>by let(d,m,VC,o,q,r,t):=uB G ha h;apply wpAny_setItem_pairs (kd.is_of i) q (λh' u hs=>?_) (by have:=VN j7 r;simp at this;show Lc hz this);let(v,x):=Ed (k:=k) j r t;let(st,z):=ID G o hs u v x;show l ι {s with V5:=h',WJ:=s.WJ+1} _ _ st z {VC,VC} p
def aQ.getK {a:V9} {k:K} {y:V} {Vf:V2 (K×V)} (ha:M[a]?=V1 (.WD (fO kd Vf))) (p:P ((oZ Vf k).Wn y) M):aQ c n (.Va "dict.get") [.VG a,kd.enc k,y] M P:=λA ι s b f G r Q E g=>by
 let(h,i,j,VC,l,m,o):=r.inv3;clear r;let(d,q,VC,t,u,B,C):=uB G ha l
 have ns:(d==rt)=V3:=by rw[Vz];clear u l;rintro rfl;show c.nosys (G.Zv _ (aF t))
 apply CA F.slot_dict_get u.Yf F.entry_dict_get (F.args_dict_get_3 _ _ _) (meets_dict_get_default kd.Xk d (kd.is_of m) ns j) (aV _ u.mapOf ?_);let(D,H):=qP (k:=k) B C
 have e:∃rv,(F0 q k).Wn j=rv/\WV ι s.V5 ((oZ Vf k).Wn y) rv:=by
  cases z:oZ Vf k with
  |V8=>rw[H z];show aV _ rfl o
  |V1 x=>let(v,e,I):=D x z;rw[e];show aV _ rfl I
 let(rv,e,J):=e;rw[e];show g ι {s with WJ:=s.WJ+1} _ M .Vt G {VC,VC} (aV _ J p)
def aQ.popK {a:V9} {k:K} {x:V} {Vf:V2 (K×V)} (ha:M[a]?=V1 (.WD (fO kd Vf))) (hz:Vf.V0<=cE) (b:oZ Vf k=V1 x) (p:P x (M.Wb a (.WD (fO kd (Vf.X2 λr=> ! decide (r.1=k)))))):aQ c n (.Va "dict.pop") [.VG a,kd.enc k] M P:=λA ι s g h G r Q E i=>by let(j,l,VC,m,o):=r.inv2;clear r;let(d,q,VC,t,u,y,z):=uB G ha m;let(v,e,B):=(qP (k:=k) y z).1 x b;apply CA F.slot_dict_pop u.Yf F.entry_dict_pop (F.args_dict_pop_2 _ _) (meets_dict_pop_there kd.Xk d (kd.is_of o) [] (.XB rfl) (kd.part (kd.is_of o))) (Mw q v u (by letI:=VN j7 y;simp at this;show Lc hz this) e λh' C hs=>?_);have f:=CO (k:=k) y z;let(st,D):=ID G t hs C f.1 f.2;show i ι {s with V5:=h',WJ:=s.WJ+1} _ _ st D {VC,VC} (aV _ (B.up st) p)
end
end
end
section
mutual
/-- no reference within -/
noncomputable def nJ:V->Bool
 | .ref _=>false
 | .tup xs=>jo xs
 | .none=>true
 | .bool _=>true
 | .int _=>true
 | .str _=>true
 | .lit _=>true
 | .range _ _=>true
noncomputable def jo:List V->Bool
 |[]=>true
 |x::xs=>nJ x&&jo xs
end
mutual open Nat
def T8 {ι e:V2 Vc} {a:V9} {x y:Vc} (h:ι[a]?=V1 x) (k:(ι++e)[a]?=V1 y):ι[a]?=V1 y:=by let(l,_):=aB.mp h;rw[bV l] at k;show k
def Sd {ι e:V2 Vc} {x:Vc} (h:x∉ι++e):x∉ι:=λq=>h (cU _ q)
variable {ι e:V2 Vc} {h':WH}
def WV.thin {x:V} {v:VE} (k:nJ x=V6) (r:WV (ι++e) h' x v):WV ι h' x v:=by
 revert v
 apply V.rec (WP:=λx=>nJ x=V6->∀{v:VE},WV (ι++e) h' x v->WV ι h' x v) (Yg:=λxs=>jo xs=V6->∀{vs:V2 VE},cT (ι++e) h' xs vs->cT ι h' xs vs)
  (λ_ _ r=>r) (λ_ _ _ r=>r) (λ_ _ _ r=>r) (λ_ _ _ r=>r) (λ_ k=>nomatch k) (λxs d k v r=>?_) (λ_ _ _ r=>r) (λlo hi _ v r=>?_) (λ_ _ r=>r) (λx xs f h k vs r=>?_) x k
 .let(c,VL,n,e,no,g,l):=r;show{c,VL,n,e,Sd no,g,d k l}
 .let(c,t,u,w,e,no,g):=r;show{c,t,u,w,e,Sd no,g}
 .have k:=(aN _ _).mp k;let(v,q,e,a,b):=r;show{v,q,e,f k.1 a,h k.2 b}
def cT.thin {xs:V2 V}:∀{vs:V2 VE},jo xs=V6->cT (ι++e) h' xs vs->cT ι h' xs vs:=by
 induction xs with
 |VH=>show λ_ r=>r
 |V4 x xs c=>
  intro vs k r;have k:=(aN _ _).mp k;let(v,q,e,a,b):=r;show{v,q,e,a.thin k.1,c k.2 b}
variable {h:WH}
def kD.shrink {w o} {d x:Vc} (q:kD w ι h o d) (r:kD w (ι++e) h' o x):kD w ι h' o x:=q.VP {λ_ _ _ q r=>T8 q r,λ_ _ _ no g=>{Sd no,g}} (λ_ g=>g) r
def W6.cut {ι b:V2 Vc} {h h':WH} {G:WC} (d:c.W6 ι M h) (st:WQ [] ι h b h') (f:c.W6 b (M++G) h'):c.W6 ι M h'/\WQ [] ι h ι h':=by let(e,VC,g):=st.inc;apply{{f.X5,λx i=>f.Zv x (cU _ i),d.Wz,d.nd,λx i=>f.lt x (cU _ i),λa o ha=>?_},{{[],by show(cJ _).Vh,by simp},st.VA,st.ext}};let(x,i,j):=d.VJ a o ha;let(y,k,l):=f.VJ a o (by rw[bV (aB.mp ha).1];show ha);show aV y (T8 i k) (j.shrink l)
def aQ.tidy {f:VE} {vs:V2 V} (h:aQ c n f vs M λv M'=>∃G,M'=M++G/\nJ v=V6/\P v M):aQ c n f vs M P:=λA ι s a b d r Q E q=>
 h A ι s a b d r Q E λg s' rv M' st i j k=>by let(v,l,G,e,m,p):=k;subst e;let(o,t):=W6.cut d st i;clear i G;let(e,VC,_):=st.inc;show q ι s' rv M t o j (aV v (l.thin m) p)
def aQ.tidyL {f:VE} {vs:V2 V} (h:aQ c n f vs M λv M'=>∃G a ys,M'=M++G/\v=.VG a/\M.V0<=a/\M'[a]?=V1 (.VF ys)/\jo ys=V6/\P (.VG M.V0) (M++[.VF ys])):aQ c n f vs M P:=λA ι s b d g r Q E q=>
 h A ι s b d g r Q E λj s' rv M' st m t u=>by
  let(v,w,G,a,ys,e,y,z,B,C,p):=u;subst e y;let(x,VL,k,D,H,I):=gH m B;let(J,K,VC):=w;rw[D] at K;cases K;let(L,N):=W6.cut g st m
  letI R:x∉ι:=λq=>by let(i,hi):=eT.mp q;letI S:=st.ZN hi;have l1:=(aB.mp D).1;have l2:=(aB.mp S).1;have:a=i:=(yp l1 m.nd).mp (by show eZ (D) (S).Vh);have:=(aB.mp hi).1;rw[g.Wz] at this;show bY [.l V3 (.v 0) (.v 1),.e V3 (.v 1) (.v 2),.k V3 (.v 2) (.v 0)] .F [[1,1,0,1]] tt [_,_,_] [] z (by assumption) this
  have new:s.V5.VJ.VA<=x:=by
   clear I m;let(e,VC,T):=st.inc;rcases aW.mp (aF D) with q|q
   .show Vy q R
   .show(T x q).2
  have hr2:cT ι s'.V5 ys VL.VD:=by clear D;clear m;let(e,VC,_):=st.inc;show I.thin C
  apply q (ι++[x]) s' (.VG x) _ (N.Zd R new) (L.Zd (o:=.VF ys) H rfl R (m.Zv x (aF D)) {VL,k,H,hr2}) t (aV _ ?_ p);show{x,fX L.Wz,VC}
end
end
section
mutual open Nat
def fZ {h h':WH} {a b t:Vc} {i:V9} (x:XE h a t i) (e:WH.ExtBut b h h') (n:a≠b):XE h' a t i:=by let(o,g,r):=x;show{o,e _ _ n g,r}
def qp {h h':WH} {a b:Vc} {l} (x:Zg h a l) (e:WH.ExtBut b h h') (n:a≠b):Zg h' a l:=by let(o,g,r):=x;show{o,e _ _ n g,r}
def sq {a t:Vc} {i:V9} {VL} {x:VE} {Q:VE->VI->Prop} (b:XE s.V5 a t i) (c:Zg s.V5 t VL) (d:VL[i]?=V1 x)
    (e:∀h',XE h' a t (i+1)->WH.Xm a s.V5 h'->Q x {s with V5:=h'}):VO (Vg VM w) A (g7 (.VG a)) Q E s:=by
 let(o,f,g,h):=id b;let(j,k,_,l,m):=c;apply aA (fV (name:=aX "__next__") b.Yf qh (gh qh b.Yf entry_tupleiter_next ?_ (args_tupleiter_next _)))
 focus change VO _ _ (field (.VG a) 0>>=_) _ _ s
 apply aA (fN f h (x:=.VG t) rfl ?_)
 focus change VO _ _ (if (ki t==gb)=V6 then _ else _) _ _ s
 focus rw[Vd (show ¬((ki t==gb)=V6) from aO)]
 focus change VO _ _ (field (.VG a) 1>>=_) _ _ s
 apply aA (fN f h (x:=.Vl i 0) rfl ?_)
 focus change VO _ _ (Ui (.VG t)>>=_) _ _ s
 apply aA (gA k m ?_);simp only[gJ,d];apply aA (rq f h (by show cC _) (aD (aV x rfl (aD (e _ ?_ (dN ..))))));show{_,gn _ f (Obj.isFreed_of_fields (xV h _)),(Obj.cls_mapFields ..).V7 g,by rw[xV h];show rfl}
def zO {b t:Vc} {i:V9} {VL} {Q:VE->VI->Prop} (c:A.YO=V8) (d:XE s.V5 b t i) (f:Zg s.V5 t VL) (g:VL[i]?=V8)
    (h:∀h' e,WH.ExtBut b s.V5 h'->(∃o,h'.VT e=V1 o/\o.Z9=.W5 "StopIteration")->(∃o,h'.VT b=V1 o)->E (.VG e) {s with V5:=h'}):VO (Vg VM w) A (g7 (.VG b)) Q E s:=by
 let(o,j,k,l):=id d;let(n,p,_,q,r):=f;apply aA (fV (name:=aX "__next__") d.Yf qh (gh qh d.Yf entry_tupleiter_next ?_ (args_tupleiter_next _)))
 focus change VO _ _ (field (.VG b) 0>>=_) _ _ s
 apply aA (fN j l (x:=.VG t) rfl ?_)
 focus change VO _ _ (if (ki t==gb)=V6 then _ else _) _ _ s
 focus rw[Vd (show ¬((ki t==gb)=V6) from aO)]
 focus change VO _ _ (field (.VG b) 1>>=_) _ _ s
 apply aA (fN j l (x:=.Vl i 0) rfl ?_)
 focus change VO _ _ (Ui (.VG t)>>=_) _ _ s
 apply aA (gA p r ?_);simp only[gJ,g];apply aA (g5 (aA (rq j l (by show dg _) ?_)))
 focus change VO _ _ (newExc (.W5 "StopIteration") []>>=_) _ _ _
 apply aA ?_;apply aA (e7 ?_ (by size_fits));apply aA (m:=firstArgMember _ _) (Px (a:=gb) (by first|rfl|(rfl)) ?_);apply e7 ?_ (by size_fits);apply aA (wpAny_handled ?_)
 first|rw[show A.Z8.YO=V8 from c]|rw[c]
 apply aA (aD (wpAny_throw ?_));show h _ _ (((dN ..).WT.Vp _).Vp _) (aV _ (aP _ rfl) rfl) {_,aJ _ (aJ _ (gn _ j (Obj.isFreed_of_fields (xV l _))))}
end
end
section
open AutoSeq1 (wpAny_loadPart')
mutual open Nat
nonrec abbrev eO (t:Vc):Obj:={Z9:=.W5 "tuple_iterator",Xu:=.WG #[.VG t,.Vl 0 0]}
nonrec abbrev IB (a:Vc):Obj:={Z9:=.W5 "enumerate",Xu:=.WG #[.V8,.WW V3,.VG a,jK 0,.V8,.V8]}
def Lg {a:Type} {VM:Wj} {w:XA} {A:W8} {Q:a->VI->Prop} {E:VE->VI->Prop} {s:VI} {x:a} (h:∀b,Q b s):VO (Vg VM w) A (X3 x) Q E s:=aD (h x)
set_option maxRecDepth 100000 in
def EL (t:Vc) (VL:VW VE) (n:V9):
    Meets (WA.«enumerate.__new__» ⟨[.W5 "enumerate",.VG t],[]⟩) (λ_ R s=>s.V5.VT t=V1 (iP VL n)/\
     R (.ok (.XC (.VG (s.V5.Vp (eO t)).VJ.VA))) {s with V5:=(s.V5.Vp (eO t)).Vp (IB s.V5.VJ.VA)}):=
 .of_wp λVM w A R s h=>by
  let(a,g,d,c,os):=s;have hl:=h.1;have h:=h.2;have hsub:=sub_enumerate;have hL:Zg (Hq {a,g,d,c,os}) t VL:=gg hl
  wp_walk using ZJ hl
  apply wpAny_stack_any λst=>Lg λb=>?_;cases b
  .wp_walk using ZJ hl,Ik hL
   show aV _ rfl h
  .wp_walk using ZJ hl,Ik hL
   show aV _ rfl h
def G7 {t:Vc} {VL:VW VE} {n:V9} {Q:VE->VI->Prop} (a:s.V5.VT t=V1 (iP VL n))
    (h:Q (.VG (s.V5.VJ.VA+1)) {s with V5:=(s.V5.Vp (eO t)).Vp (IB s.V5.VJ.VA)}):VO (Vg VM w) A (Vu (.W5 "enumerate") [.VG t]) Q E s:=by
 apply NC F.called_enumerate (by show rfl) (F.typeCall_enumerate_1 _) (F.newCall_enumerate_1 _) (λZA=>F.args_object_init_2 ZA _) F.entry_enumerate_new (EL t VL n) {a,?_};have hz:(s.V5.Vp (eO t)).VJ.VA=s.V5.VJ.VA+1:=dH ..
 focus change _/\_
 rw[hz];have he:=aP (s.V5.Vp (eO t)) (o:=IB s.V5.VJ.VA) rfl;rw[hz] at he;show{{_,he,VC},h}
def JV {e a l:Vc} {i:V9} {VL:VW VE} {x c:VE} {Q:VK VE->VI->Prop} (f:IsEnum s.V5 e a i c) (h:XE s.V5 a l i) (j:Zg s.V5 l VL) (k:VL[i]?=V1 x) (m:e≠a)
    (p:∀h',IsEnumOut h' e a ((i:Vo)+1) x s.V5.VJ.VA->XE h' a l (i+1)->h'.VT s.V5.VJ.VA=V1 {Z9:=.W5 "tuple",Xu:=.seq #[.Vl i s.WJ,x]}->h'.VJ.VA=s.V5.VJ.VA+1->
     (∀b o,b≠e->b≠a->s.V5.VT b=V1 o->h'.VT b=V1 o)->Q (V1 (.VG s.V5.VJ.VA)) {s with V5:=h',WJ:=s.WJ+1}):
    VO (Vg VM w) A (kg (.VG e)) Q E s:=by
 letI q:s.Xj (.VG e) "enumerate":={_,f,VC};apply aA (oY (fV (name:=aX "__next__") q nY (gh nY q F.entry_enumerate_next ?_ (F.args_enumerate_next_1 _))));let(t,g,d,u,os):=s
 focus change VO _ _ (field (.VG e) 2>>=_) _ _ _
 apply aA (fN f rfl (x:=.VG a) rfl ?_);apply aA (sq h j k λv y B=>?_);have qG:IsEnum v e a i c:=(B.2 e m).V7 f
 focus change VO _ _ (field (.VG e) 3>>=_) _ _ {v,g,d,u,os}
 apply aA (fN qG rfl (x:=jK i) rfl ?_)
 focus change VO _ _ (field (.VG e) 4>>=_) _ _ {v,g,d,u,os}
 apply aA (fN qG rfl (x:=.V8) rfl ?_)
 focus change VO _ _ (mkInt i>>=_) _ _ {v,g,d,u,os}
 apply aA (r4 ?_)
 focus change VO _ _ (rB (.VG e) 3 (jK ((i:Vo)+1))>>=_) _ _ {v,g,d,u+1,os}
 apply aA (d7 qG (by show aS rfl) λC D G=>?_);replace D:IsEnum C e a ((i:Vo)+1) c:=D
 focus change VO _ _ (rB (.VG e) 4 .V8>>=_) _ _ {C,g,d,u+1,os}
 apply aA (d7 D (by show dg _) λH I J=>?_);replace I:IsEnum H e a ((i:Vo)+1) c:=I
 focus change VO _ _ (newTuple [.Vl i u,x]>>=_) _ _ {H,g,d,u+1,os}
 apply aA (xy ?_);have t6:IsEnum (H.Vp {Z9:=.W5 "tuple",Xu:=.seq #[.Vl i u,x]}) e a ((i:Vo)+1) c:=aJ _ I;generalize K:H.Vp {Z9:=.W5 "tuple",Xu:=.seq #[.Vl i u,x]}=fF at t6;letI L:H.VJ.VA=t.VJ.VA:=by rw[J.1,G.1];show B.1
 have hel:e<t.VJ.VA:=bM f;have U5:fF.VT t.VJ.VA=V1 {Z9:=.W5 "tuple",Xu:=.seq #[.Vl i u,x]}:=by rw[<-K,<-L];show aP _ rfl
 have U6:fF.VJ.VA=t.VJ.VA+1:=by rw[<-K,dH,L]
 have U7:∀b o,b≠e->b≠a->t.VT b=V1 o->fF.VT b=V1 o:=λb o M N P=>by rw[<-K];show aJ _ (J.WT b o M (G.WT b o M (B.WT b o N P)))
 have U8:XE fF a l (i+1):=by rw[<-K];let(o,R,r):=fZ (fZ y G.WT m.Vh) J.WT m.Vh;show{o,aJ _ R,r}
 focus change VO _ _ (jv (.VG e)>>=_) _ _ {fF,g,d,u+1,os}
 rw[L];clear K I J D G qG B y L H C v;apply aA ?_;apply aA (fN t6 rfl (x:=.V8) rfl (aD ?_))
 focus apply aA (g5 ?_)
 apply aA (fN t6 rfl (x:=c) rfl ?_);apply aA (d7 t6 (by show cC _) λS T U=>?_);replace T:IsEnum S e a ((i:Vo)+1) x:=T
 focus change VO _ _ (WA.SmallTypes.ownedTupleHandOut (.VG e) (.VG t.VJ.VA)>>=_) _ _ {S,g,d,u+1,os}
 apply aA ?_;apply aA (d7 T (by show di _) λW X Y=>?_);replace X:IsEnumOut W e a ((i:Vo)+1) x t.VJ.VA:=X;apply d7 X (by show aS rfl) λZ a0 a1=>?_;replace a0:IsEnumOut Z e a ((i:Vo)+1) x t.VJ.VA:=a0;letI a2:∀b o,b≠e->fF.VT b=V1 o->Z.VT b=V1 o:=λb o n z=>a1.WT b o n (Y.WT b o n (U.WT b o n z));apply aA (Py (aD (aV _ rfl (aD (p Z a0 ?_ (a2 _ _ (kN hel) U5) (by rw[a1.1,Y.1,U.1,U6]) λb o M N P=>a2 b o M (U7 b o M N P))))));let(o,R,r):=U8;show{o,a2 _ _ m.Vh R,r}
def MS {e a l:Vc} {i:V9} {VL:VW VE} {c:VE} {Q:VK VE->VI->Prop} (d:A.YO=V8) (f:IsEnum s.V5 e a i c) (g:XE s.V5 a l i) (h:Zg s.V5 l VL) (j:VL[i]?=V8)
    (k:∀h',WH.ExtBut a s.V5 h'->(∃o,h'.VT a=V1 o)->Q V8 {s with V5:=h'}):VO (Vg VM w) A (kg (.VG e)) Q E s:=by
 have hT:s.Xj (.VG e) "enumerate":={_,f,VC};apply aA (oY (fV (name:=aX "__next__") hT nY (gh nY hT F.entry_enumerate_next ?_ (F.args_enumerate_next_1 _))))
 focus change VO _ _ (field (.VG e) 2>>=_) _ _ _
 apply aA (fN f rfl (x:=.VG a) rfl ?_);apply aA (zO d g h j λh' x m n p=>?_);let(o,q,r):=n;apply aA (lH (T:="StopIteration") (b:=V6) {o,q,r} Iq ?_);show aD (k _ m p)
end
end
section
mutual open Nat
nonrec abbrev lO (a b:VE):Obj:={Z9:=.W5 "tuple",Xu:=.seq #[a,b]}
nonrec abbrev Rb (a b:Vc):Obj:={Z9:=.W5 "zip",Xu:=.WG #[.V8,.WW V3,.WW V3,.VG a,.VG b]}
nonrec abbrev Ke (h:WH) (a b:Vc):WH:=((((h.Vp (eO a)).Vp (eO b)).Vp (lO (.VG h.VJ.VA) (.VG (h.VJ.VA+1)))).Vp (lO .V8 .V8)).Vp (Rb (h.VJ.VA+2) (h.VJ.VA+3))
def Gy (a b:Vc) (xs ys:VW VE):
    Meets (WA.«zip.__new__» ⟨[.W5 "zip",.VG a,.VG b],[]⟩) (λ_ R s=>Zg s.V5 a xs/\Zg s.V5 b ys/\R (.ok (.XC (.VG (s.V5.VJ.VA+4)))) {s with V5:=Ke s.V5 a b}):=
 .of_wp λVM w A R s h=>by
  let(c,g,d,f,os):=s;have hl1:=h.1;have hl2:=h.2.1;have h:=h.2.2;have hsub:=sub_zip;have hL1:Zg (Hq {c,g,d,f,os}) a xs:=hl1;have hL2:Zg (Hq {c.Vp (eO a),g,d,f,os}) b ys:=let {o,e,r}:=hl2;{o,aJ _ e,r};have z1:(c.Vp (eO a)).VJ.VA=c.VJ.VA+1:=dH ..;have z2:((c.Vp (eO a)).Vp (eO b)).VJ.VA=c.VJ.VA+2:=by rw[dH,z1]
  have z3:(((c.Vp (eO a)).Vp (eO b)).Vp (lO (.VG c.VJ.VA) (.VG (c.VJ.VA+1)))).VJ.VA=c.VJ.VA+3:=by rw[dH,z2]
  have z4:((((c.Vp (eO a)).Vp (eO b)).Vp (lO (.VG c.VJ.VA) (.VG (c.VJ.VA+1)))).Vp (lO .V8 .V8)).VJ.VA=c.VJ.VA+4:=by rw[dH,z3]
  have h':R (.ok (.XC (.VG ((((c.Vp (eO a)).Vp (eO b)).Vp (lO (.VG c.VJ.VA) (.VG (c.Vp (eO a)).VJ.VA))).Vp (lO .V8 .V8)).VJ.VA)))
      ⟨((((c.Vp (eO a)).Vp (eO b)).Vp (lO (.VG c.VJ.VA) (.VG (c.Vp (eO a)).VJ.VA))).Vp (lO .V8 .V8)).Vp (Rb ((c.Vp (eO a)).Vp (eO b)).VJ.VA (((c.Vp (eO a)).Vp (eO b)).Vp (lO (.VG c.VJ.VA) (.VG (c.Vp (eO a)).VJ.VA))).VJ.VA),g,d,f,os⟩:=by rw[z2,z1,z4,z3];show h
  wp_walk using Ik hL1,Ik hL2
  show aV _ rfl h'
structure ZipNew (h:WH) (t1 t2:Vc) (h':WH):Prop where
 z:IsZip h' (h.VJ.VA+4) (h.VJ.VA+2) (h.VJ.VA+3) .V8
 ti:ZQ h' (h.VJ.VA+2) (.VG h.VJ.VA) (.VG (h.VJ.VA+1))
 to:ZQ h' (h.VJ.VA+3) .V8 .V8
 i1:XE h' h.VJ.VA t1 0
 i2:XE h' (h.VJ.VA+1) t2 0
 VA:h'.VJ.VA=h.VJ.VA+5
 k:∀b o,h.VT b=V1 o->h'.VT b=V1 o
def Rc {h:WH} {a c:Vc}:ZipNew h a c (Ke h a c):=by
 have z1:(h.Vp (eO a)).VJ.VA=h.VJ.VA+1:=dH ..;have z2:((h.Vp (eO a)).Vp (eO c)).VJ.VA=h.VJ.VA+2:=by rw[dH,z1]
 have z3:(((h.Vp (eO a)).Vp (eO c)).Vp (lO (.VG h.VJ.VA) (.VG (h.VJ.VA+1)))).VJ.VA=h.VJ.VA+3:=by rw[dH,z2]
 have z4:((((h.Vp (eO a)).Vp (eO c)).Vp (lO (.VG h.VJ.VA) (.VG (h.VJ.VA+1)))).Vp (lO .V8 .V8)).VJ.VA=h.VJ.VA+4:=by rw[dH,z3]
 have up:∀{h:WH} {b o o'},h.VT b=V1 o->(h.Vp o').VT b=V1 o:=λe=>aJ _ e;have X8:∀{h:WH} {o:Obj} {n:V9},h.VJ.VA=n->o.isFreed=V3->(h.Vp o).VT n=V1 o:=λe l=>by rw[<-e];show aP _ l
 show{X8 z4 rfl,up (up (X8 z2 rfl)),up (X8 z3 rfl),{_,up (up (up (up (X8 rfl rfl)))),VC,VC},{_,up (up (up (X8 z1 rfl))),VC,VC},by rw[dH,z4],λb o e=>up (up (up (up (up e))))}
def J0 {a b:Vc} {xs ys:VW VE} {Q:VE->VI->Prop} (c:Zg s.V5 a xs) (d:Zg s.V5 b ys)
    (h:Q (.VG (s.V5.VJ.VA+4)) {s with V5:=Ke s.V5 a b}):VO (Vg VM w) A (Vu (.W5 "zip") [.VG a,.VG b]) Q E s:=
 NC F.called_zip (by show rfl) (F.typeCall_zip_2 _ _) (F.newCall_zip_2 _ _) (λZA=>F.args_object_init_3 ZA _ _) F.entry_zip_new (Gy a b xs ys) (Dt c d ⟨_,Rc.z,VC⟩ h)
end
end
section
mutual open Nat
nonrec abbrev Pr (z a c d:Vc) (h h':WH):Prop:=∀b o,b≠z->b≠a->b≠c->b≠d->h.VT b=V1 o->h'.VT b=V1 o
def Ka {z d f g h i j:Vc} {k l:V9} {xs ys:VW VE} {x y a b:VE} {Q:VK VE->VI->Prop} (m:ZipApart z d f g h i j)
    (hz:IsZip s.V5 z d f .V8) (n:ZQ s.V5 d (.VG g) (.VG h)) (p:ZQ s.V5 f a b) (q:XE s.V5 g i k) (t:XE s.V5 h j l) (u:Zg s.V5 i xs) (v:Zg s.V5 j ys) (B:xs[k]?=V1 x) (C:ys[l]?=V1 y)
    (D:∀h',IsZip h' z d f (jK s.V5.VJ.VA)->ZQ h' f x y->XE h' g i (k+1)->XE h' h j (l+1)->ZQ h' s.V5.VJ.VA x y->h'.VJ.VA=s.V5.VJ.VA+1->Pr z f g h s.V5 h'->Q (V1 (.VG s.V5.VJ.VA)) {s with V5:=h'}):
    VO (Vg VM w) A (kg (.VG z)) Q E s:=by
 have hT:s.Xj (.VG z) "zip":={_,hz,VC};apply aA (oY (fV (name:=aX "__next__") hT uM (gh uM hT F.entry_zip_next ?_ (F.args_zip_next_1 _))))
 focus change VO _ _ (field (.VG z) 2>>=_) _ _ _
 apply aA (fN hz rfl (x:=.WW V3) rfl ?_)
 focus change VO _ _ (field (.VG z) 3>>=_) _ _ _
 apply aA (fN hz rfl (x:=.VG d) rfl ?_);apply aA (gA n rfl ?_)
 focus change VO _ _ (jv (.VG z)>>=_) _ _ _
 apply aA ?_;apply aA (fN hz rfl (x:=.V8) rfl (aD ?_))
 focus apply aA (g5 ?_)
 apply aA (fN hz rfl (x:=.VG f) rfl ?_);apply aA (d7 hz (by show di _) λG H I=>?_);replace H:IsZip G z d f .ellipsis:=H;apply aA ?_;apply aA (aA (yZ ?_))
 focus change VO _ _ (g7 (.VG g)>>=_) _ _ _
 apply aA (sq (fZ q I.WT m.i1z) (qp u I.WT m.l1z) B λJ K L=>aD ?_);have Ck:ZQ J f a b:=L.WT _ _ m.TOi1 (I.WT _ _ m.TOz p);apply aA (gA Ck rfl ?_);apply aA (wpAny_updateSeq_pair Ck λM N P=>?_);replace N:ZQ M f x b:=N;apply aA (Py (aD ?_));apply aA (aA (yZ ?_))
 focus change VO _ _ (g7 (.VG h)>>=_) _ _ _
 apply aA (sq (fZ (fZ (fZ t I.WT m.i2z) L.WT m.i12.Vh) P.WT m.TOi2.Vh)
  (qp (qp (qp v I.WT m.l2z) L.WT m.l2i1) P.WT m.l2TO) C λR S T=>aD ?_)
 have Cs:ZQ R f x b:=T.WT _ _ m.TOi2 N;apply aA (gA Cs rfl ?_);apply aA (wpAny_updateSeq_pair Cs λU W X=>?_);replace W:ZQ U f x y:=W;apply aA (Py (aD (aD ?_)));apply aA (gA W rfl ?_);apply aA (xy ?_);have hsz:U.VJ.VA=s.V5.VJ.VA:=by rw[X.1,T.1,P.1,L.1,I.1]
 have Nz:IsZip U z d f .ellipsis:=X.WT _ _ m.TOz.Vh (T.WT _ _ m.i2z.Vh (P.WT _ _ m.TOz.Vh (L.WT _ _ m.i1z.Vh H)));have U9:XE U g i (k+1):=fZ (fZ (fZ K P.WT m.TOi1.Vh) T.WT m.i12) X.WT m.TOi1.Vh;have UQ:XE U h j (l+1):=fZ S X.WT m.TOi2.Vh;have hzlt:z<U.VJ.VA:=bM Nz
 focus change VO _ _ (WA.SmallTypes.ownedTupleHandOut (.VG z) (.VG U.VJ.VA)>>=_) _ _ _
 apply aA ?_;have US:IsZip (U.Vp (lO x y)) z d f .ellipsis:=aJ _ Nz;apply aA (d7 US (by show di _) λY Z a0=>?_);replace Z:IsZip Y z d f (jK U.VJ.VA):=Z;apply d7 Z (by show aS rfl) λa1 a2 a3=>?_;replace a2:IsZip a1 z d f (jK U.VJ.VA):=a2;letI a4:∀c o,c≠z->U.VT c=V1 o->a1.VT c=V1 o:=λc o a5 e=>a3.WT _ _ a5 (a0.WT _ _ a5 (aJ _ e));have U0:ZQ a1 U.VJ.VA x y:=a3.WT _ _ (kN hzlt) (a0.WT _ _ (kN hzlt) (aP _ rfl));have hz8:a1.VJ.VA=U.VJ.VA+1:=by rw[a3.1,a0.1,dH]
 rw[hsz] at a2 U0 hz8;apply aD (aV _ rfl (aD ?_));rw[hsz]
 show D a1 a2 (a4 _ _ m.TOz W) (by let(o,e,r):=U9;show{o,a4 _ _ m.i1z e,r}) (by let(o,e,r):=UQ;show{o,a4 _ _ m.i2z e,r}) U0 hz8 λc o a5 a6 a7 a8 e=>
  a4 c o a5 (X.WT _ _ a6 (T.WT _ _ a8 (P.WT _ _ a6 (L.WT _ _ a7 (I.WT _ _ a5 e)))))
def NH {z a d f h i:Vc} {j:V9} {xs:VW VE} {Q:VK VE->VI->Prop} (k:A.YO=V8) (l:f≠z) (m:i≠z)
    (hz:IsZip s.V5 z a d .V8) (n:ZQ s.V5 a (.VG f) (.VG h)) (p:XE s.V5 f i j) (q:Zg s.V5 i xs) (r:xs[j]?=V8)
    (t:∀h',(∀b o,b≠z->b≠f->s.V5.VT b=V1 o->h'.VT b=V1 o)->IsZip h' z a d .V8->(∃o,h'.VT f=V1 o)->Q V8 {s with V5:=h'}):VO (Vg VM w) A (kg (.VG z)) Q E s:=by
 have hT:s.Xj (.VG z) "zip":={_,hz,VC};apply aA (oY (fV (name:=aX "__next__") hT uM (gh uM hT F.entry_zip_next ?_ (F.args_zip_next_1 _))))
 focus change VO _ _ (field (.VG z) 2>>=_) _ _ _
 apply aA (fN hz rfl (x:=.WW V3) rfl ?_)
 focus change VO _ _ (field (.VG z) 3>>=_) _ _ _
 apply aA (fN hz rfl (x:=.VG a) rfl ?_);apply aA (gA n rfl ?_)
 focus change VO _ _ (jv (.VG z)>>=_) _ _ _
 apply aA ?_;apply aA (fN hz rfl (x:=.V8) rfl (aD ?_))
 focus apply aA (g5 ?_)
 apply aA (fN hz rfl (x:=.VG d) rfl ?_);apply aA (d7 hz (by show di _) λu v y=>?_);replace v:IsZip u z a d .ellipsis:=v;apply aA ?_;apply aA (aA (yZ ?_))
 focus change VO _ _ (g7 (.VG f)>>=_) _ _ _
 apply aA (zO k (fZ p y.WT l) (qp q y.WT m) r λB e C D G=>?_);clear hT hz m;let(H,I,J):=D;letI K:IsZip B z a d .ellipsis:=C _ _ l.Vh v;have hez:e≠z:=λx=>by clear v y t l Q;subst x;rw[K] at I;cases I;cases J
 apply d7 K (by show di _) λL M N=>?_;apply aA (lH (T:="StopIteration") (b:=V6) {H,N.WT _ _ hez I,J} Iq ?_);show aD (t _ (λc o P R x=>N.WT _ _ P (C _ _ R (y.WT _ _ P x))) M (by let(o,g):=G;show{o,N.WT _ _ l g}))
end
end
section
set_option maxRecDepth 100000
mutual open Nat
def sj:fillsNumberSlot (.W5 "tuple") "mul"=X3 V3:=
 Ve.fillsNumberSlot_seq (id:="tuple.__mul__") (r:=V1 (.Va "tuple.__rmul__")) tP.VY (by decide +kernel) F.slot_tuple_rmul.VY (by decide +kernel)
def zu:seqRepeat? (.W5 "tuple")=X3 (V1 (.Va "tuple.__mul__")):=by
 focus unfold seqRepeat?
 focus rw[Ve.seqSlot_of (T:="tuple") (name:="__mul__") (id:="tuple.__mul__") tP.VY (by decide +kernel),Ve.seqSlot_of (T:="tuple") (name:="__rmul__") (id:="tuple.__rmul__") F.slot_tuple_rmul.VY (by decide +kernel)]
 rfl
def vd (a:Vo) (t:Tok) (l:Vc) (VL:VW VE) (n:V9):
    Meets (WA.«int.__rmul__» ⟨[.Vl a t,.VG l],[]⟩) (λ_ R s=>s.V5.VT l=V1 (iP VL n)/\R (.ok (.XC VE.notImplemented)) s):=
 .of_wp λVM w A R s h=>by let(b,g,d,c,os):=s;have hl:=h.1;have h:=h.2;wp_walk;show aV _ rfl h
def LR (l:Vc) (y:VE) (n:V9) (u:Tok):
    Meets (WA.«tuple.__mul__» ⟨[.VG l,.Vl 2 u],[]⟩) (λ_ R s=>s.V5.VT l=V1 (iP #[y] n)/\R (.ok (.XC (ki s.V5.VJ.VA))) {s with V5:=s.V5.Vp (iP #[y,y] 0)}):=
 .of_wp λVM w A R s h=>by
  let(a,g,d,b,os):=s;have hl:=h.1;have h:=h.2
  wp_walk
  show aV _ rfl h
def LP (l:Vc) (y:VE) (n:V9) (u:Tok):
    Meets (WA.«tuple.__mul__» ⟨[.VG l,.Vl 3 u],[]⟩) (λ_ R s=>s.V5.VT l=V1 (iP #[y] n)/\R (.ok (.XC (ki s.V5.VJ.VA))) {s with V5:=s.V5.Vp (iP #[y,y,y] 0)}):=
 .of_wp λVM w A R s h=>by
  let(a,g,d,b,os):=s;have hl:=h.1;have h:=h.2
  wp_walk
  show aV _ rfl h
def Yj.mulT {y:V} {k:Vo} (a:k=2\/k=3) (p:P (.Vj (eF k.Xd y)) M):Yj c n (mF .Mult) (.Vj [y]) (.Vl k) M P:=λA ι s b d f G g h Q E q=>by
 let(x,VL,i,VC,no,j,l):=g;let(u,VC):=h;let(v,r,e,hv,VC):=l;have ei:VL=#[v]:=by show eZ (VW.toArray_toList (xs:=VL)).Vh (VN _ (e))
 clear e;subst ei
 letI m:∀(vs:VW VE) (ys:V2 V),cT ι s.V5 ys vs.VD->P (.Vj ys) M->Q (.VG s.V5.VJ.VA) {s with V5:=s.V5.Vp (iP vs 0)}:=λvs ys o p=>by let(st,t,r):=Eo G o;show q _ _ _ M st t {VC,VC} (aV _ r p)
 rcases a with rfl|rfl
 .apply rX (T:="tuple") (U:="int") (by show rfl) {_,j,VC} (λs'=>uS s' 2 u) sj DY mC zu CH.VY
    (lD mC (uS s 2 u) CI (AR _ _) (vd 2 u x #[v] i)
     (Dt j rfl ⟨_,j,VC⟩ (lD tP ⟨_,j,VC⟩ F.entry_tuple_mul (F.args_tuple_mul_2 _ _) (LR x v i u) ⟨j,m #[v,v] [y,y] (.two hv hv) p⟩)))
 .apply rX (T:="tuple") (U:="int") (by show rfl) {_,j,VC} (λs'=>uS s' 3 u) sj DY mC zu CH.VY
    (lD mC (uS s 3 u) CI (AR _ _) (vd 3 u x #[v] i)
     (Dt j rfl ⟨_,j,VC⟩ (lD tP ⟨_,j,VC⟩ F.entry_tuple_mul (F.args_tuple_mul_2 _ _) (LP x v i u) ⟨j,m #[v,v,v] [y,y,y] (.V4 hv (.two hv hv)) p⟩)))
end
end
mutual open Nat
def W6.dictNew {ι h h'} {d:Vc} {a:V2 (Vm×VE)} {Vf:V2 (Vm×V)} (G:c.W6 ι M h) (no:d∉ι) (f:c.B.VT d=V8) (g:h.VT d=V1 {Z9:=.W5 "dict",Xu:=.WD #[]}) (hs:WH.Xm d h h') (i:h'.DictOf (strKind c.VM c.w) d a) (j:a.VP (·.1)=Vf.VP (·.1)) (k:cT ι h (Vf.VP (·.2)) (a.VP (·.2))):
    WQ [d] ι h ι h'/\c.W6 (ι++[d]) (M++[.WD (fO (kdS c.VM c.w) Vf)]) h':=by
 letI l:i7 [d] h:=λb m o e=>by rw[aC.mp m,g] at e;cases e;rfl
 let(st,p):=G.frame (F:=[d]) (bX hs.1.Vh) (λb o e z=>(hs.2 b λy=>z (by simp[y])).V7 e) (λb m=>by rw[aC.mp m];show no) (λb m=>by rw[aC.mp m];show f) l;let(o,ents,ep,h1,(h2,h3,h4),h5,h6,h7,h8):=i;let(q,r,s,t):=o;dsimp only at h2 h3 h4 h5;subst h2 h3 h4 h5;apply{st,p.Zd h1 rfl no f ?_};apply{ents,ep,h1,uw (kd:=kdS c.VM c.w) h7 (λe u=>h6 e (by simpa using u)) j (k.WL st l),by rw[tu,<-j];show h8,λe u=>?_};let(y,_,VC):=aK.mp u;show(kdS c.VM c.w).Yh _
def dZ.dic3 {a d f:Vm} {g i j:Vi} {u1 u2 u3 p1 p2 p3 WS} (k:[a,d,f].WF) (h:dZ c n sc g ρ M λl m=>dZ c n sc i ρ m λr t=>dZ c n sc j ρ t λu v=>P (.VG v.V0) (v++[.WD [(.Vn a,l),(.Vn d,r),(.Vn f,u)]])):
    dZ c n sc (.Dict [V1 (.YJ (.Vn a) u1 p1),V1 (.YJ (.Vn d) u2 p2),V1 (.YJ (.Vn f) u3 p3)] [g,i,j] WS) ρ M P:=
 λA Vb ι s x hs L G Q E q=>by
  apply wpAny_Dict_walk (Xk:=strKind c.VM c.w) rfl rfl (by show W1 rfl) (by show aS rfl) ?_;let(y,C):=G.YG (h':=s.V5.Vp {Z9:=.W5 "dict",Xu:=.WD #[]}) (bZ kK) λb o e=>aJ _ e;have d0:(s.V5.Vp {Z9:=.W5 "dict",Xu:=.WD #[]}).VT s.V5.VJ.VA=V1 {Z9:=.W5 "dict",Xu:=.WD #[]}:=aP _ rfl;have nd:s.V5.VJ.VA∉ι:=G.new (aM _)
  have hB:c.B.VT s.V5.VJ.VA=cQ:=by
   cases z:c.B.VT s.V5.VJ.VA with
   |V8=>rfl
   |V1 o=>have:=G.X5 _ o z;rw[ku] at this;cases this
  have L0:=L.XU y;apply yF ?_
  focus change VO _ _ (SG a) _ _ _
  apply qF ?_;apply h A Vb ι {_,s.Xq,s.drawn,s.WJ+1,s.os} x hs L0 C _ _ λD s1 F m H I J K=>?_;let(l,N,R):=K;apply yF ?_
  focus change VO _ _ (SG d) _ _ _
  apply qF ?_;apply R A Vb D {_,s1.Xq,s1.drawn,s1.WJ+1,s1.os} x hs (L0.XU H) I _ _ λS T U t W X Y K=>?_;let(r,Z,a0):=K;apply yF ?_
  focus change VO _ _ (SG f) _ _ _
  apply qF ?_;apply a0 A Vb S {_,T.Xq,T.drawn,T.WJ+1,T.os} x hs ((L0.XU H).XU W) X _ _ λa1 a2 a3 v a4 a5 a6 K=>?_;let(u,a7,p):=K;apply pairTrees_nil_walk ?_;have st13:=(H.V7 W).V7 a4;have nd3:s.V5.VJ.VA∉a1:=st13.Ya d0 nd;have d3:=st13.ext _ _ d0 nd (λz=>(by cases z));apply display_done_str rfl k {_,#[],0,d3,{VC,VC,VC},VC,λe a8=>by simp at a8,.VH,j5} λh' a9 aa=>?_;let(ab,ac):=W6.dictNew (Vf:=[(a,l),(d,r),(f,u)]) a5 nd3 hB d3 aa a9 rfl (.V4 ((N.up W).up a4) (.two (Z.up a4) a7));have st:WQ [] ι s.V5 a1 h':=((y.V7 st13).W9 (G:=[s.V5.VJ.VA]) (λ_ z=>(by cases z))).V7 ab|>.XV λb ad=>.Wt (by rw[aC.mp ad];show ku)
  apply q (a1++[s.V5.VJ.VA]) _ _ _ (st.Zd nd3 (aM _)) ac {((a6.Xq.V7 Y.Xq).V7 J.Xq),((a6.os.V7 Y.os).V7 J.os)} (aV _ ?_ p);show{_,fX a5.Wz,VC}
end
section
open PySem.SeqAt (EqAt RcAt RcNeAt)
mutual open Nat
def Yj.neB {x:Vc} {VL:VW VE} {b:V9} (a:c.B.Zi x VL) (d:M[b]?=V1 (.VF [])) (p:P (.WW (!items.WN)) M):Yj c n (eS .NotEq) (.lit (.VG x)) (.VG b) M P:=λA ι s f g h G i k Q E q=>by
 subst i;let(y,l,VC):=k;let(m,t,u,v,z,C):=gH G d;rw[l] at v;cases v;have e2:=gF C;have g1:s.V5.Zi x VL:=by let(o,e,r):=a;show{o,G.X5 _ _ e,r}
 cases hz:VL.WN with
 |V6=>
  letI D:VL.VA=0:=by simpa using hz
  apply RcNeAt.lists (e:=λ_=>V6) g1 (eG z) (D.V7 e2.Vh) h.cl (λj F H=>Vy F (by rw[D];simp)) c.VM c.w E Q ?_;rw[D];rw[hz] at p;show q ι s _ M .Vt G .Vt (aV _ o5 p)
 |V3=>
  letI D:VL.VA≠0:=λe=>by rw[VW.isEmpty_iff_size_eq_zero.WO e] at hz;cases hz
  apply RcNeAt.lists_lengths g1 (eG z) (by rw[e2];show bne_iff_ne.WO D) h.cl c.VM c.w E Q ?_;rw[hz] at p;show q ι s _ M .Vt G .Vt (aV _ o5 p)
def dZ.listToB {o:Vi} {a k:V9} {p1 p WS} (d:dZ c n sc o ρ M λv f=>∃x VL xs,v=.lit (.VG x)/\c.B.Zi x VL/\VL.VA<=cE/\(∀ι h,cT ι h xs VL.VD)/\P (.VG f.V0) (f++[.VF (xs.WU a)])):dZ c n sc (.Subscript o (.Slice cQ (V1 (.YJ (.Vl a) k p1)) cQ p) WS) ρ M P:=
 λA Vb ι s g hs L G Q E q=>Subscript_ (d A Vb ι s g hs L G _ _ λi s1 j f l m t u=>Xs u λv w u=>o3_5 u λx VL xs y z hz C p=>Pz (aD (by
  clear u;clear u;subst y;subst w;change VO _ _ (mkInt (a:Vo)) _ _ _;apply r4 (aD ?_);let(D,H):=m.YG (h':=s1.V5.Vp {Z9:=.W5 "slice",Xu:=.WG #[.V8,.Vl a s1.WJ,.V8]}) (bZ kK) λb o e=>aJ _ e;have g1:(s1.V5.Vp {Z9:=.W5 "slice",Xu:=.WG #[.V8,.Vl a s1.WJ,.V8]}).Zi x VL:=by let(o,e,r):=z;show{o,H.X5 _ _ e,r}
  apply tD (T:="list") g1.Yf Pq.VY (wpAny_getItem_list_slice g1 (lo:=cQ) (hi:=V1 (a:Vo)) (st:=cQ) {_,aP _ rfl,VC,VC} .V8 (.Vl _ _) .V8 (by simp) ?_ (Jm hz))
  have hpick:(slicePick VL cQ (V1 (a:Vo)) cQ).VD=VL.VD.WU a:=by rw[slicePick_upto']
  let(I,J):=H.push1 (ob:={Z9:=.W5 "list",Xu:=.seq (slicePick VL cQ (V1 (a:Vo)) cQ)}) (o':=.VF (xs.WU a)) λst=>{_,_,aP _ rfl,by rw[hpick];show(C _ _).WU a};apply q _ _ _ _ ((l.V7 D).V7 I) J (t.V7 {VC,VC}) (aV _ ?_ p);show{_,fX H.Wz,VC})))
end
end
section
open PySem.SeqAt (EqAt RcAt RcNeAt)
mutual open Nat
abbrev uK (A:W8) (s:VI) (y x:VE):Prop:=∀(VM:Wj) (w:XA) (E:VE->VI->Prop) (Q:VE->VI->Prop),(∀b,Q (.WW b) s)->VO (Vg VM w) A (richCompare .Lt y x) Q E s
def uK.Vl {A s} {a b:Vo} {t u:Tok}:uK A s (.Vl a t) (.Vl b u):=λVM w E Q h=>Xw.Rows.lt_int (h _)
def uK.Vn {A s} {a b:Vm} {t u:Tok}:uK A s (.Vn a t) (.Vn b u):=λVM w E Q h=>Xw.Rows.lt_str (h _)
def F2 (l b:Vc) (VL a:VW VE) (n c:V9) (f k:VK Vc) (m o:VW (VK VE)) (e:V9->VS):
    Meets (WA.«tuple.__lt__» ⟨[.VG l,.VG b],[]⟩)
     (λA R s=>s.V5.VT l=V1 {Z9:=.W5 "tuple",WD:=f,Xu:=.seq VL n,Z5:=m}/\s.V5.VT b=V1 {Z9:=.W5 "tuple",WD:=k,Xu:=.seq a c,Z5:=o}/\
      (∀j (p:j<VL.VA) (q:j<a.VA),EqAt A.Z8 s VL[j] a[j] (e j)/\uK A.Z8 s VL[j] a[j])/\
      ∀b,R (.ok (.XC (.WW b))) s):=
 .of_wp λVM w A R s h=>by
  let(r,g,d,t,os):=s;let(u,v,z,h):=h;have f2:=AutoSeq1.sub_tuple_tuple;have hZ:(VL.VD.Y8 a.VD).V0=min VL.VA a.VA:=by simp
  wp_walk using AutoSeq1.ZJ u,AutoSeq1.ZJ v,oU _ (λB b s'=>b.1=V8/\s'=⟨r,g,d,t,os⟩/\∃i,B=(VL.VD.Y8 a.VD).XV i) _
  case Zt=>
   rintro⟨y,x⟩ B b s' ⟨hb',VC,i,hz⟩
   letI C:i<(VL.VD.Y8 a.VD).V0:=by
    rcases tL i (VL.VD.Y8 a.VD).V0 with h'|h'
    .show h'
    .rw[sN h'] at hz;cases hz
   letI D:i<min VL.VA a.VA:=hZ▸C;letI p:i<VL.VA:=aY D (CD _ _);letI q:i<a.VA:=aY D (V9.min_le_right _ _);rw[kQ C] at hz;injection hz with hyx hrest
   have hy:y=VL[i]:=by have:=VN Prod.fst hyx;simpa using this
   letI E:x=a[i]:=by letI:=VN yk hyx;simpa using this
   clear hyx C;subst hy E;apply aA ((z i p q).1 VM w _ _ ?_);cases hy:e i with
   |V6=>
    wp_walk
    show fq rfl rfl {i+1,hrest}
   |V3=>
    apply aA (g5 (aA ((z i p q).2 VM w _ _ λb=>?_)))
    wp_walk
    show aV _ rfl (h _)
  case XR=>
   rintro⟨b1,b2⟩ s' ⟨hb',VC,i,hz⟩;subst hb'
   wp_walk
   show aV _ rfl (h _)
  case h=>show fq rfl rfl ⟨0,VC⟩
end
end
mutual open Nat
abbrev Up (l:V2 V9):Prop:=l.Pairwise (·<·)
def ve {xs:VW V9} (h:Up xs.VD):yj xs=V6:=by
 apply ek.WO λi hi=>Vs ?_;have hi:=gG.mp hi;letI l:i+1<xs.VD.V0:=V9.add_lt_of_lt_sub hi;have:=fB.mp h i (i+1) (fM l) l (cC i)
 simpa[wz,show i<xs.VA from fM l,show i+1<xs.VA from l] using this
def CR {xs:VW V9} (h:yj xs=V6):Up xs.VD:=by
 letI s:∀i (l:i+1<xs.VA),xs[i]<xs[i+1]:=λi l=>by
  have:=W1 (ek.mp h i (gG.WO (V9.lt_sub_of_add_lt l)))
  simpa[wz,fM l,l] using this
 have t:∀d i (l:i+d+1<xs.VA),xs[i]<xs[i+d+1]:=λd=>by
  induction d with
  |WM=>show λi l=>s i l
  |Wh d a=>show λi l=>jy (a i (fM l)) (s (i+d+1) l)
 apply fB.WO λi j hi b c=>?_;obtain⟨d,VC⟩:∃d,j=i+d+1:={j-i-1,bY [.k V3 (.v 0) (.v 1)] (.e V3 (.v 1) (.p (.p (.v 0) (.s (.s (.v 1) (.v 0)) (.n 1))) (.n 1))) [[0,0,1],[0,0,1],[0,0,1,1],[0,1,1],[0,1],[0,1],[1,0,0,1],[1,0,1]] tt [_,_] [] c}
 simpa using t d i b
def Nk {xs:VW V9} {j:V9} (h:Up xs.VD):∀Xe lo hi,hi<=lo+Xe->lo<=hi->hi<=xs.VA->(∀i (l:i<xs.VA),i<lo->xs[i]<j)->(∀i (l:i<xs.VA),hi<=i->j<=xs[i])->
    nM xs j Xe lo hi<=xs.VA/\(∀i (l:i<xs.VA),i<nM xs j Xe lo hi->xs[i]<j)/\(∀i (l:i<xs.VA),nM xs j Xe lo hi<=i->j<=xs[i]):=λXe=>by
 letI f:∀i k (l:k<xs.VA) (q:i<=k),xs[i]'(dW q l)<=xs[k]:=λi k l q=>by
  rcases V9.lt_or_eq_of_le q with z|z
  .show bZ (by simpa using fB.mp h i k (dW q l) l z)
  .subst z;show aM _
 induction Xe with
 |WM=>
  intro lo hi a b c d e;have:lo=hi:=tS b a;clear b a;subst this;show fq c d e
 |Wh Xe g=>
  intro lo hi a b c d e
  focus rewrite [show nM xs j (Xe+1) lo hi=@ZK _ _ _ _ _ from rfl]
  split
  .rename_i lt
   letI m:lo<=(lo+hi)/2/\(lo+hi)/2<hi:={(V9.le_div_iff_mul_le (by decide)).WO (by rw[V9.mul_two];show dO (bZ lt) lo),V9.div_lt_of_lt_mul (by rw[V9.two_mul];show V9.add_lt_add_right lt hi)};letI o:(lo+hi)/2<xs.VA:=aY m.2 c;dsimp only;rw[show xs.Wn ((lo+hi)/2) j=xs[(lo+hi)/2] by simp[wz,o]];split
   .rename_i q
    show g _ _ (by clear g d e f h q;show ir [{0,.a,.p .b (.p .c (.n 1))},{0,.b,.d}] {0,.a,.p (.p .d (.n 1)) .c} [1,1,1] [] tt a m.1) m.2 c (λi l r=>dW (f i _ o (gj r)) q) e
   .rename_i q
    show g _ _ (by clear g d e f h q;show ir [{0,.a,.p .b (.p .c (.n 1))},{1,.d,.a}] {0,.d,.p .b .c} [1,1,1] [] tt a m.2) m.1 (bZ o) d λi l r=>aG (V9.le_of_not_lt q) (f _ i l r)
  .rename_i ge
   have:lo=hi:=tS b (V9.le_of_not_lt ge);clear ge;clear b a;subst this;show fq c d e
def uC {xs:VW V9} (h:Up xs.VD) (j:V9):dD xs j<=xs.VA/\(∀i (l:i<xs.VA),i<dD xs j->xs[i]<j)/\(∀i (l:i<xs.VA),dD xs j<=i->j<=xs[i]):=
 Nk h _ _ _ (bX (fj _).Vh) (dP _) (aM _) (λ_ _ l=>Vy l (lU _)) λ_ l g=>Vy l (iI.WO g)
def Hh {xs:VW V9} (h:Up xs.VD):dD xs 0=0:=by
 let(a,b,_):=uC h 0;rcases V9.eq_zero_or_pos (dD xs 0) with z|z
 .show z
 .show Vy (b 0 (aY z a) z) (lU _)
def Hi {xs:VW V9} (h:Up xs.VD) {i:V9} (l:i<xs.VA):dD xs (xs[i]+1)=i+1:=by
 let(a,b,c):=uC h (xs[i]+1);rcases V9.lt_trichotomy (dD xs (xs[i]+1)) (i+1) with z|z|z
 .show Vy (c i l (gj z)) (kj _)
 .show z
 .have l':=aY z a;have:=fB.mp h i (i+1) l l' (cC i);show Vy (b (i+1) l' z) (iI.WO (V9.succ_le_of_lt (by simpa using this)))
def BG {xs:VW V9} (h:Up xs.VD) {j:V9} (no:xs[dD xs j]?≠V1 j):Up (lS xs (dD xs j) j).VD:=by
 let(a,b,c):=uC h j;generalize dD xs j=p at *
 have e:(lS xs p j).VD=xs.VD.WU p++j::xs.VD.XV p:=by
  focus unfold lS
  rw[cH,eL,eY,eY,dY,dY,aR,jt (l:=xs.VD.XV p) (by simp)];rfl
 rw[e];apply V2.pairwise_append.WO (fq (h.sublist (V2.take_sublist _ _)) (xq.WO {λy d=>?_,h.sublist (V2.drop_sublist _ _)}) λx f y d=>?_)
 .let(k,g,VC):=j6.mp d;rw[V2.length_drop,cA] at g;letI m:p+k<xs.VA:=V9.add_lt_of_lt_sub' g;rw[V2.getElem_drop,gC];apply fT (c _ m (cR _ _)) λq=>?_;clear d g;rcases V9.eq_zero_or_pos k with z|z
  .subst z;show no (by rw[Wr xs p m,q];rfl)
  .have:=fB.mp h p (p+k) (dW (cR _ _) m) m (mw z);have lp:=c p (dW (cR _ _) m) (aM _);rw[gC,gC,<-q] at this;show Vy lp (NF.WO this)
 .clear e no;let(k,g,VC):=j6.mp f;rw[dF,cA] at g;have k1:k<p:=aY g (CD _ _);letI n:k<xs.VA:=aY g (V9.min_le_right _ _);rw[V2.getElem_take,gC];letI o:=b k n k1;clear b;rcases aU.mp d with rfl|d
  .show o
  .let(i,r,VC):=j6.mp d;rw[V2.length_drop,cA] at r;rw[V2.getElem_drop,gC];show aY o (c _ (V9.add_lt_of_lt_sub' r) (cR _ _))
def Ja {t:Vr} {j:V9} (h:∀i,t.ZU j≠.live i):t.XI[dD t.XI j]?≠V1 j:=λe=>by
 apply h (dD t.XI j) ?_
 focus unfold Vr.ZU
 simp[e]
def HP {t:Vr} {ha:V9->Vo} {h:Vo} {k:V9} {p:Vr.Probe} (q:t.ZU p.j=.Zm):fQ t ha h (k+1) p=V1 (.Zm p.j p.dummy):=by
 conv=>lhs;whnf
 rw[q]
def OA {t:Vr} {ha:V9->Vo} {h:Vo} {k:V9} {p:Vr.Probe} (q:t.ZU p.j=.dummy):fQ t ha h (k+1) p=fQ t ha h k (t.advance {p with dummy:=V1 p.j}):=by
 conv=>lhs;whnf
 rw[q]
def HO {t:Vr} {ha:V9->Vo} {h:Vo} {k i:V9} {p:Vr.Probe} (q:t.ZU p.j=.live i):fQ t ha h (k+1) p=V1 (.candidate p.j i (t.advance p))\/fQ t ha h (k+1) p=fQ t ha h k (t.advance p):=by
 conv=>arg 1;lhs;whnf
 conv=>arg 2;lhs;whnf
 rw[q];show if w:ha i==h then .XB (Vw w) else .Wt (Vd w)
def Gg {t:Vr} {ha:V9->Vo} {h:Vo} {j:V9} {d:VK V9}:∀Xe (p:Vr.Probe),(∀k,p.dummy=V1 k->∀i,t.ZU k≠.live i)->fQ t ha h Xe p=V1 (.Zm j d)->∀i,t.ZU (d.Wn j)≠.live i:=λXe=>by
 letI a:∀p:Vr.Probe,(t.advance p).dummy=p.dummy:=λp=>by unfold xj;split<;>rfl
 induction Xe with
 |WM=>intro p _ e;cases e
 |Wh Xe b=>
  intro p c e;cases q:t.ZU p.j with
  |Zm=>
   rw[HP q] at e;cases e;cases hd:p.dummy with
   |V8=>intro i z;rw[VK.getD_none,q] at z;cases z
   |V1 k=>show c k hd
  |dummy=>
   rw[OA q] at e;apply b _ (λk f i z=>?_) e;rw[a] at f;cases f;rw[q] at z;cases z
  |live i=>
   rcases HO (ha:=ha) (h:=h) (k:=Xe) q with w|w
   .rw[w] at e;cases e
   .rw[w] at e;show b _ (by rw[a];show c) e
def JS {t:Vr} {h:Vo} {j:V9} {b:VS} (e:t.freeSlot h=V1 (j,b)):t.XI[dD t.XI j]?≠V1 j:=by
 revert e
 delta Vr.freeSlot
 cases q:t.probe (λ_=>h+1) h (t.probeStart h) with
 |V8=>show λe=>by cases e
 |V1 m=>
  cases m with
  |Zm a d=>
   intro e;cases (show V1 (d.Wn a,d.XZ)=V1 (j,b) from e);show Ja (Gg _ _ (λk c=>by cases c) q)
  |candidate=>show λe=>by cases e
def Kq (n:V9):Up (VW.Xb n).VD:=by rw[VW.toList_range];show V2.pairwise_lt_range
structure Ze (w:XA) (t:Vr):Prop where
 up:Up t.XI.VD
 led:w.X1.Xi "set-order"=V3->t.led=V6
def Ze.standIn {w:XA} {t:Vr} (h:Ze w t) (n:V9):Ze w (t.standIn n):={Kq n,h.led}
def Ze.layNew {w:XA} {t:Vr} (T:Ze w t) (es:VW (Vo×VE)) (h:Vo) (x:VE):Ze w (layNew t es h x).2.1:=by
 focus unfold Ve.layNew
 split
 .rename_i ZU b e
  focus dsimp only
  focus unfold Vr.orStandIn
  have:Ze w (t.YA ZU).1:={BG T.up (JS e),T.led};split
  .show this
  .show this.standIn _
 .show T.standIn _
def Ie {YD f m:V9} {l p:VS} {hs:VW Vo} {t:Vr} {o:VW V9} (e:ue YD f m l p hs=V1 (t,o)):Up t.XI.VD/\t.led=l:=by
 unfold ue at e;cases q:v5 YD hs with
 |V8=>rw[q] at e;cases e
 |V1 c=>
  rw[q] at e;cases e;apply{?_,VC}
  focus change Up ((DO _ _).VP _)
  focus unfold Up
  rw[iR];apply V2.Pairwise.Wx _ (λa b d=>?_) V2.pairwise_lt_range;intro x g y h;cases ha:c.Wn a V8<;>rw[ha] at g<;>cases g;cases hb:c.Wn b V8<;>rw[hb] at h<;>cases h;show d
def Ze.relay {w:XA} {t:Vr} (T:Ze w t) (es:VW (Vo×VE)) (n:V9):Ze w (HH t es n).2.1:=by
 focus unfold HH
 split
 .rename_i t' o e
  focus dsimp only
  let(u,l):=Ie e;split
  .show{u,λq=>l.V7 (T.led q)}
  .show T.standIn _
 .show T.standIn _
end
section
section
variable {prog:Program} {w:World} {K:Type} [DecidableEq K] {knd:KeyKind prog w K} {A:Around} {E:Value->Shared->Prop} {s:Shared}
mutual open Nat
nonrec abbrev jO (es:VW (Vo×VE)) (a:V9) (t:Vr):Obj:={Z9:=.W5 "set",WD:=V8,Xu:=.Wb es a t}
abbrev J5 (Xk:Zn VM w K) (h:WH) (a:Vc) (vs:V2 VE):Prop:=
 ∃es b t,h.VT a=V1 (jO es b t)/\ElemsOf Xk es.VD/\(es.VD.VP (·.2)).X7 vs/\es.VA<yd/\t.fits es.VA=V6/\Ze w t
def ML {t:Vr} {n:V9} (h:t.fits n=V6) (b:VS):(if b=V6 then t else {t with plain:=V3}:Vr).fits n=V6:=by cases b<;>show h
def Ze.Zv {t:Vr} (h:Ze w t) (b:VS):Ze w (if b=V6 then t else {t with plain:=V3}:Vr):=by cases b<;>show{h.up,h.led}
def yE {h:WH} {a:Vc} {es b:VW (Vo×VE)} {c:V9} {t t':Vr} (g:h.VT a=V1 (jO es c t)):(h.XY a (qc b t')).VT a=V1 (jO b (c+1) t'):=
 gn (qc b t') g rfl
def Ec {f:Yn->ZD (VK VS)} {a:Vc} {es c:VW (Vo×VE)} {d:V9} {t e:Vr} (g:s.V5.VT a=V1 (jO es d t))
    (i:ElemsOf Xk c.VD) (j:c.VA<yd) (k:e.fits c.VA=V6) (T:Ze w e) {b:VS} {R:VK VS->VI->Prop} (h0:b=V3->f ()=X3 (V1 V6))
    (l:b=V6->∀m,VO (Vg VM w) A (storeSet a (HH e c (iw c.VA)).1 (HH e c (iw c.VA)).2.1) (λ_=>R (V1 V6)) E m->VO (Vg VM w) A (f ()) R E m)
    (h:∀h',WH.Xm a s.V5 h'->J5 Xk h' a (c.VD.VP (·.2))->R (V1 V6) {s with V5:=h'}):VO (Vg VM w) A (storeSet a c e>>=f) R E s:=by
 apply aA (rZ g rfl ?_ (fits_of_scanBound j));have ho1:(s.V5.XY a (qc c e)).VT a=V1 (jO c (d+1) e):=yE g;have sb:=dN s.V5 a (qc c e);cases b with
 |V6=>
  apply l rfl _ ?_;have hp:=relayAll_perm e c (iw c.VA);have hfr:=relayAll_fits e c (iw c.VA);have Tr:=T.relay c (iw c.VA);generalize HH e c (iw c.VA)=R3 at hp hfr Tr⊢;let(n,o,p):=R3;have hz:n.VA=c.VA:=hp.WZ;have hb2:n.VA<yd:=by rw[hz];show j
  show rZ ho1 rfl (h _ (sb.V7 (dN _ a _)) {n,_,o,yE ho1,i.YW hp,hp.VP _,hb2,hfr,Tr}) (fits_of_scanBound hb2)
 |V3=>
  rw[h0 rfl];show aD (h _ sb {c,_,e,ho1,i,oq _,j,k,T})
def Ae {b:VS} {a:VI} {c:Yn->VI->Prop} (d:c () a):VO (Vg VM w) A (match b with|V6=>rule "set.scan.the-table-gave-way"|V3=>X3 ()) c E a:=by
 cases b
 .show aD d
 .show g5 d
def Po {a:Vc} {vs:V2 VE} {k:K} {x:VE} {Q:VS->VI->Prop} (c:Xk.is k x=V6) (d:x.scannable=V6) (f:J5 Xk s.V5 a vs) (g:vs.V0+1<yd)
    (h:∀b h',WH.Xm a s.V5 h'->((∃v∈vs,Xk.is k v=V6)->J5 Xk h' a vs)->((∀v∈vs,Xk.is k v=V3)->J5 Xk h' a (vs++[x]))->Q b {s with V5:=h'}):
    VO (Vg VM w) A (setAddHashed a x (Xk.hash k)) Q E s:=by
 have hS0:=f;let(es,i,t,l,m,n,o,p,T):=f;have hn:es.VA=vs.V0:=by rw[<-n.WZ,aE];rfl
 apply dz (aA (BB l rfl p ?_))
 focus dsimp only
 rw[byScan_of d o m]
 focus simp only[↓reduceIte]
 apply aA (aA (g5 (aA (wpAny_setScan_of c l rfl p m ?_))));cases hr:V2.findIdx? (λe=>Xk.is k e.2) es.VD with
 |V1 j=>
  let(r,u,_):=V2.findIdx?_eq_some_iff_getElem.mp hr;apply aD (aD ?_);have yes:∃v∈vs,Xk.is k v=V6:=aV es.VD[j].2 (n.X9.mp (V2.mem_map_of_mem (rT r))) u;apply h _ s.V5 (WH.Xm.Vt a s.V5) (λ_=>hS0) λno=>?_;let(v,hv,q):=yes;rw[no v hv] at q;cases q
 |V8=>
  have no:¬∃v∈vs,Xk.is k v=V6:=λB=>by let(v,hv,q):=B;let(e,C,VC):=aK.mp (n.X9.WO hv);have:=V2.findIdx?_eq_none_iff.mp hr e C;rw[q] at this;cases this
  have hp:=layNew_perm t es (Xk.hash k) x;have hfits:=layNew_fits t es (Xk.hash k) x;have T1:=T.layNew es (Xk.hash k) x;generalize layNew t es (Xk.hash k) x=L at hp hfits T1⊢;let(D,F,G,H):=L;rw[eL] at hp;have el1:ElemsOf Xk D.VD:=(m.Vp c d).YW hp;have hz:D.VA=es.VA+1:=by rw[<-cA,hp.WZ,aH];rfl
  have hb1:D.VA<yd:=by rw[hz,hn];show g
  letI I:(D.VD.VP (·.2)).X7 (vs++[x]):=(hp.VP _).V7 (by rw[bD];show n.YR _)
  have XR:∀h',WH.Xm a s.V5 h'->J5 Xk h' a (D.VD.VP (·.2))->Q V6 {s with V5:=h'}:=λh' J B=>o3_4 B λM N P R U W X=>
   h _ h' J (λy=>Vy y no) λ_=>⟨M,N,P,R,U,W.V7 I,X⟩
  apply aA (Ae ?_);split
  .apply aA ?_;rw[hashByValue_scannable 8 d];apply aD (Ec l el1 hb1 (ML hfits _) (T1.Zv _) (λe=>Vd λz=>aO (e.Vh.V7 z)) (λe Y h=>by rw[Vw e];show aA (Ae (aA (eN h (λ_ _ q=>aD q) λ_ _ q=>q)))) λh' J S=>?_);show aD (XR h' J S)
  .focus apply aA (aD ?_)
   focus simp only[↓reduceIte]
   apply Ec l el1 hb1 hfits T1 (λe=>Vd λz=>aO (e.Vh.V7 z)) (λe Y h=>by rw[Vw e];show aA (Ae (aA (eN h (λ_ _ q=>aD q) λ_ _ q=>q)))) λh' J S=>?_;show aD (XR h' J S)
end
end
end
section
section
variable {prog:Program} {w:World} {K:Type} [DecidableEq K] {knd:KeyKind prog w K}
mutual open Nat
inductive Are (Xk:Zn VM w K):V2 K->V2 VE->Prop
 |VH:Are Xk [] []
 |V4 {k v ks vs}:Xk.is k v=V6->v.scannable=V6->Are Xk ks vs->Are Xk (k::ks) (v::vs)
def Are.Wz {ks vs} (h:Are Xk ks vs):vs.V0=ks.V0:=by
 induction h with
 |VH=>rfl
 |V4 _ _ _ a=>rw[cW,cW,a]
def Are.snoc {ks vs k v} (h:Are Xk ks vs) (a:Xk.is k v=V6) (b:v.scannable=V6):Are Xk (ks++[k]) (vs++[v]):=by
 induction h with
 |VH=>show .V4 a b .VH
 |V4 p q _ c=>show .V4 p q c
def Are.has {ks vs k} (h:Are Xk ks vs):k∈ks↔∃v∈vs,Xk.is k v=V6:=by
 induction h with
 |VH=>show{λh=>(nomatch h),λc=>by let(_,h,_):=c;show nomatch h}
 |V4 p q _ d=>
  constructor
  .intro h;rcases aU.mp h with rfl|h
   .show aV _ (.WI _) p
   .let(v,a,b):=d.mp h;show aV v (.XW _ a) b
  .clear q;rintro⟨v,hv,a⟩;rcases aU.mp hv with rfl|hv
   .show aU.WO (.XB (Xk.inj _ _ _ a p))
   .show .XW _ (d.WO (aV v hv a))
def Are.X8 {ks vs} (h:Are Xk ks vs):∀{i:V9} {v},vs[i]?=V1 v->∃k,ks[i]?=V1 k/\Xk.is k v=V6/\v.scannable=V6:=by
 induction h with
 |VH=>intro i v e;cases e
 |V4 p q _ a=>
  intro i v e;cases i with
  |WM=>cases e;show g6 _ rfl p q
  |Wh i=>show a e
def Are.YW {vs e:V2 VE} (p:e.X7 vs):∀{ks},Are Xk ks vs->∃f,Are Xk f e/\f.X7 ks:=by
 induction p with
 |VH=>intro ks h;show aV _ h (.Vt _)
 |V4 x _ g=>
  intro ks h;cases h with
  |V4 a b h=>let(k',h',p):=g h;show aV _ (.V4 a b h') (p.V4 _)
 |swap x y l=>
  intro ks h;cases h with
  |V4 a b h=>cases h with
   |V4 c d h=>show aV _ (.V4 c d (.V4 a b h)) (.swap _ _ _)
 |V7 _ _ i j=>
  intro ks h;let(k,m,n):=j h;let(o,q,r):=i m;show aV o q (r.V7 n)
abbrev A9 (a:V2 K) (k:K):V2 K:=if k∈a then a else a++[k]
abbrev ded (l:V2 K):V2 K:=l.foldl A9 []
def Nb (l:V2 K) (k:K):ded (l++[k])=A9 (ded l) k:=by unfold ded;rw[V2.foldl_append];rfl
def Pd (l:V2 K):∀k,k∈ded l↔k∈l:=by
 letI:∀(l a:V2 K) k,k∈l.foldl A9 a↔k∈a\/k∈l:=λl=>by
  induction l with
  |VH=>simp
  |V4 x l b=>
   intro a k;rw[tO,b]
   focus unfold A9
   split
   .rename_i h
    constructor
    .rintro(q|q)
     .show .XB q
     .show .Wt (.XW _ q)
    .rintro(q|q)
     .show .XB q
     .rcases aU.mp q with rfl|q
      .show .XB h
      .show .Wt q
   .rw[aW,aC,aU,or_assoc]
 intro k;show(this l [] k).V7 {λh=>h.Xc (λh=>nomatch h),.Wt}
def JY (l:V2 K):(ded l).WF:=by
 letI:∀(l a:V2 K),a.WF->(l.foldl A9 a).WF:=λl=>by
  induction l with
  |VH=>show λa h=>h
  |V4 x l c=>
   intro a h;apply c _ ?_
   focus unfold A9
   split
   .show h
   .rename_i n
    show fL.WO (fq h (.V4 (λ_ h=>nomatch h) .VH) λa ha b d e=>n (by rw[aC.mp d] at e;rw[<-e];show ha))
 show this l [] .VH
def IF (l:V2 K):(ded l).V0<=l.V0:=by
 have:∀(l a:V2 K),(l.foldl A9 a).V0<=a.V0+l.V0:=λl=>by
  induction l with
  |VH=>show λa=>aM _
  |V4 x l b=>
   intro a;apply aG (b _) ?_
   have:(A9 a x).V0<=a.V0+1:=by
    focus unfold A9
    split
    .show dg _
    .rw[aH];show aM _
   rw[cW,kP l.V0 1,<-gq];show gE this _
 show aG (this l []) (bX (fj _))
abbrev DG (Xk:Zn VM w K) (h:WH) (a:Vc) (ks:V2 K):Prop:=∃vs,J5 Xk h a vs/\Are Xk ks vs
def DG.W9 {h h':WH} {a:Vc} {ks:V2 K} (b:DG Xk h a ks) (e:∀o,h.VT a=V1 o->h'.VT a=V1 o):DG Xk h' a ks:=by let(vs,(es,ep,t,g,r),m):=b;show{vs,{es,ep,t,e _ g,r},m}
variable {R:Result->VI->Prop} {I:Vc} {fp wr:V2 Vc} {G:VW GenState->VW GenState->Prop} {P:V9->VE->Prop} {St:V9->VI->Prop}
abbrev Sy (VM:Wj) (w:XA) (A:W8) (S:Vc) (wr:V2 Vc) (G:VW GenState->VW GenState->Prop) (n:V9) (P:V9->VE->Prop) (St J:V9->VI->Prop):Prop:=
 ∀i v s s',i<n->P i v->St i s->J i s->Moved wr G s s'->s.V5.VJ.VA<=s'.V5.VJ.VA->∀(Q:VS->VI->Prop) (E:VE->VI->Prop),
  (∀b h' a,WH.Xm S s'.V5 h'->J (i+1) {s' with V5:=h',WJ:=a}->s'.WJ<=a->Q b {s' with V5:=h',WJ:=a})->VO (Vg VM w) A (setAdd S v) Q E s'
def KN {J:V9->VI->Prop} (W:WalksS VM w A.Z8 I fp wr G n P St) (S:Vc) (a:S∉fp) (c:Sy VM w A.Z8 S wr G n P St J):
    ∀(m i:V9) (s:VI),i+m=n->St i s->J i s->(∀s1 s',Moved (S::wr) G s s'->St n s1->J n s1->Moved wr G s1 s'->s1.V5.VJ.VA<=s'.V5.VJ.VA->R (.ok (.XC .V8)) s')->
     jq (Vg VM w) A (.Va "set.update.loop" ⟨[.VG S,.VG I],[]⟩) R s:=by
 have hsub:∀b∈wr,b∈S::wr:=λb d=>bN _ d;intro m
 induction m with
 |WM=>
  intro i s hi f g j;letI hi:i=n:=hi;clear c;subst hi;apply fJ F.entry_set_update_loop ?_
  focus rw[eX tQ _]
  focus change VO _ A.Z8 (kg (.VG I)>>=_) _ _ s
  apply aA (eV (W.YS s _ _ f λs' k l=>?_))
  focus change VO _ A.Z8 (XC gb) _ _ s'
  show aD (j s s' (k.W9 hsub) f g k l)
 |Wh m p=>
  intro i s hi f g j;have hlt:i<n:=qq6 hi;apply fJ F.entry_set_update_loop ?_
  focus rw[eX tQ _]
  focus change VO _ A.Z8 (kg (.VG I)>>=_) _ _ s
  apply aA (eV (W.We i s _ _ hlt f λv s' hv q k l=>?_))
  focus change VO _ A.Z8 (GS [v] (setAdd S v)>>=_) _ _ s'
  apply aA (dz (c i v s s' hlt hv f g k l _ _ λb h' r t u x=>?_));apply aD {j3 tQ _,p (i+1) _ (qq3 hi) (W.frame _ s' _ _ q x λb d o e=>?_) u λs1 y z h0 B C D=>?_}
  .rw[t.2 b (λh:b=S=>a (by rw[<-h];show d))];show e
  .apply j s1 y (Moved.V7 W.gtrans ((k.W9 hsub).then_heap x λb o d e=>?_) z) h0 B C D;rw[t.2 b (λh:b=S=>d (by rw[h];show cP))];show e
def J3 {ks:V2 K} {S:Vc} (c:S∉wr) (hz:ks.V0=n) (d:∀i v,P i v->∃k,ks[i]?=V1 k/\Xk.is k v=V6/\v.scannable=V6) (f:n+1<yd):
    Sy VM w A S wr G n P St λi s=>DG Xk s.V5 S (ded (ks.WU i)):=λi v s s' g hv _ h j _ Q E q=>by
 let(k,m,a,b):=d i v hv;let(vs,r,t):=h.W9 λo e=>j.V5 S _ c e;apply dz ?_;have Wz:=IF (ks.WU i);rw[dF] at Wz;apply aA (Xk.pyHash a (Po (Xk:=Xk) (s:={s' with WJ:=s'.WJ+1}) a b r (by rw[t.Wz];show bY [.k V3 (.p (.v 0) (.n 1)) (.v 1),.k V3 (.v 2) (.v 0),.l V3 (.v 3) (.u (.v 2) (.v 4))] (.k V3 (.p (.v 3) (.n 1)) (.v 1)) [[1,1,1,0,1],[1,1,1,1,1]] tt [_,_,_,_,_] [] f g Wz) λx h' y B C=>q x h' _ y ?_ (dg _)))
 focus change DG Xk h' S (ded (ks.WU (i+1)))
 rw[V2.take_succ,m]
 focus change DG Xk h' S (ded (ks.WU i++[k]))
 rw[Nb]
 focus unfold A9
 split
 .rename_i q;show{vs,B (t.has.mp q),t}
 .rename_i q
  show{_,C λv hv=>jN.WO λz=>q (t.has.WO (aV v hv z)),t.snoc a b}
end
end
end
section
mutual open Nat
def OJ (a:VE) {Q₁:VE->VI->Prop}
    (h:∀b:VS,(w.X1.Xi "set-order"=V3->b=V6)->Q₁ (.VG s.V5.VJ.VA) {s with V5:=s.V5.Vp (jO #[] 0 (.Y0 0 0 b))}):
    jq (Vg VM w) A (.Vu (.Va "set.__new__") ⟨[.W5 "set",a],[]⟩) (wants Q₁ E) s:=by
 apply jT ?_;change VO _ A.Z8 (_>>=λ_=>again _) _ _ s;apply aA (Px (F.newCall_set_1 a) (aD {j3 F.plain_set_new _,fJ F.entry_set_new ?_}));rw[eX F.plain_set_new _];unfold WA.«set.__new__» WA.Frozenset.newClass;have hsub:=sub_set_self;let(c,g,d,f,os):=s
 wp_walk
 apply jw (aD ?_);apply aA (wpAny_alloc (aD ?_));show aD (h _ λe=>by change(!w.X1.Xi "set-order")=V6;rw[e];rfl)
set_option maxRecDepth 100000 in
set_option maxHeartbeats 3200000 in
def Ng {T a b:Zf} {d:V2 VE} {Q Q₁:VE->VI->Prop} (f:TypeCalled T a b) (g:checkTypeCall T {d,[]}=X3 ())
    (h:jq (Vg VM w) A.Z8 (.Vu (.Va a) ⟨.W5 T::d,[]⟩) (wants Q₁ E) s)
    (i:∀ZA j,Q₁ ZA j->j.Xj ZA T/\jq (Vg VM w) A.Z8 (.Vu (.Va b) ⟨ZA::d,[]⟩) (wants (λr k=>r=.V8/\Q ZA k) E) j):VO (Vg VM w) A (Vu (.W5 T) d) Q E s:=by
 let(c,l,m):=f.mro;have hmade:=f.made;have hsub:=f.sub;apply Sz (jT ?_);change VO _ _ (callAny (.W5 T) _) _ _ _;apply aD {Code.quiet_builtin _ (by decide +kernel),fJ F.entry_type_call ?_};rw[W8.under_plain (weight_type_call_type T d []) rfl];have h1:=f.notType;have h2:=f.canCreate
 repeat (any_goals (first|assumption|wp_step))
 apply uV h λr j n=>?_;cases r with
 |error e=>show n
 |ok o=>
  cases o with
  |XC ZA=>
   let(p,hi):=i _ _ n;have hli:=f.init.VY;have hbi:=f.init.bind ZA
   repeat (any_goals (first|assumption|wp_step))
   apply uV hi λq k t=>?_;cases q with
   |error e=>show t
   |ok u=>
    cases u with
    |XC r=>
     let(rfl,v):=t
     repeat (any_goals (first|assumption|wp_step))
    |_=>show t.W2
  |_=>show n.W2
def KO {S l:Vc} {VL:VW VE} {a:VS} {R:Result->VI->Prop} (b:s.V5.VT S=V1 (jO #[] 0 (.Y0 0 0 a))) (c:s.V5.Zi l VL)
    (h:jq (Vg VM w) A.Z8 (.Va "set.update.loop" ⟨[.VG S,.VG s.V5.VJ.VA],[]⟩) (λr s'=>r=.ok (.XC .V8)/\R (.ok (.XC .V8)) s') {s with V5:=s.V5.Vp {Z9:=.W5 "list_iterator",Xu:=.WG #[.VG l,.Vl 0 0]}}):
    VO (Vg VM w) A.Z8 (WA.«set.__init__» ⟨[.VG S,.VG l],[]⟩) (λXR s'=>match XR with| .YS f=>R (.ok f) s'| .again d=>d.quiet=V6/\jq (Vg VM w) A d R s') (λe s'=>R (.error e) s') s:=by
 have hT:s.Xj (.VG S) "set":={_,b,VC};let(g,i,j,k,m):=c;have hsls:=F.sub_list_set;have hslf:=F.sub_list_frozenset;letI n:(VE.W5 "list"==VE.W5 "dict")=V3:=by show rfl
 have c:s.V5.Zi l VL:={_,i,j,k,m};have hTl:s.Xj (.VG l) "list":={_,i,j};unfold WA.«set.__init__» noKeywords WA.Frozenset.updateFrom;generalize o:DT=PI
 wp_walk
 subst o;apply wpAny_pyIter_list c (aA (xx (uV h λr s' q=>?_)));have e:=q.1;have q:=q.2;rw[e];show aD (aD q)
def Cz {l:Vc} {VL:VW VE} {J:V9->VI->Prop} {Q:VE->VI->Prop} (c:A.YO=V8) (d:s.V5.Zi l VL)
    (f:∀I,s.V5.VJ.VA<I->Sy VM w A.Z8.Z8.Z8 s.V5.VJ.VA [I] (λa b=>b=a) VL.VA (λi v=>VL[i]?=V1 v) (λi u=>u.V5.IsListIter I l i/\u.V5.Zi l VL) J)
    (h0:∀g j,(w.X1.Xi "set-order"=V3->g=V6)->j.VT s.V5.VJ.VA=V1 (jO #[] 0 (.Y0 0 0 g))->(∀b o,s.V5.VT b=V1 o->j.VT b=V1 o)->s.V5.VJ.VA<j.VJ.VA->J 0 {s with V5:=j})
    (h:∀I (s1:VI) (h':WH) (k:V9),s.V5.VJ.VA<I->s1.V5.IsListIter I l VL.VA->J VL.VA s1->Moved [I] (λa b=>b=a) s1 {s with V5:=h',WJ:=k}->s1.V5.VJ.VA<=h'.VJ.VA->(∀b o,b<s.V5.VJ.VA->s.V5.VT b=V1 o->h'.VT b=V1 o)->Q (.VG s.V5.VJ.VA) {s with V5:=h',WJ:=k}):
    VO (Vg VM w) A (Vu (.W5 "set") [.VG l]) Q E s:=by
 apply Ng F.called_set (F.typeCall_set_1 (.VG l)) (OJ (.VG l) (E:=E) (Q₁:=λZA m=>∃g:VS,(w.X1.Xi "set-order"=V3->g=V6)/\ZA=.VG s.V5.VJ.VA/\m={s with V5:=s.V5.Vp (jO #[] 0 (.Y0 0 0 g))}) λt a=>g6 t a rfl rfl) λZA m n=>?_;let(g,T,VC,VC):=n;have hS:(s.V5.Vp (jO #[] 0 (.Y0 0 0 g))).VT s.V5.VJ.VA=V1 (jO #[] 0 (.Y0 0 0 g)):=aP _ rfl;have hT:VI.Xj {s with V5:=s.V5.Vp (jO #[] 0 (.Y0 0 0 g))} (.VG s.V5.VJ.VA) "set":={_,hS,VC};apply{hT,codeAny_call_builtin F.called_set.init.plain F.entry_set_init (check_set_init_1 hT ?_)};have hl1:=d.Vp (jO #[] 0 (.Y0 0 0 g));apply KO hS hl1 ?_;have hlS:l<s.V5.VJ.VA:=d.W2 λ_ q=>bM q.1;have hh3:A.Z8.Z8.Z8.YO=V8:=c;have sz:(s.V5.Vp (jO #[] 0 (.Y0 0 0 g))).VJ.VA=s.V5.VJ.VA+1:=dH ..;have hneI:l≠(s.V5.Vp (jO #[] 0 (.Y0 0 0 g))).VJ.VA:=by rw[sz];show cK (q6 hlS)
 have hSf:s.V5.VJ.VA∉[(s.V5.Vp (jO #[] 0 (.Y0 0 0 g))).VJ.VA,l]:=λq=>by
  rcases aU.mp q with q|q
  .rw[sz] at q;show Vy q (cK (cC _))
  .show Vy (aC.mp q) (kN hlS)
 have szI:s.V5.VJ.VA<(s.V5.Vp (jO #[] 0 (.Y0 0 0 g))).VJ.VA:=by rw[sz];show cC _
 apply KN (J:=J) ((Walks.VF hh3 _ l hneI VL).toS) s.V5.VJ.VA hSf (f _ szI) VL.VA 0 _ (fj _)
  ⟨⟨_,aP _ rfl,VC,VC⟩,(hl1.Vp _)⟩ (h0 g _ T (aJ _ hS) (λb o e=>aJ _ (aJ _ e)) (by rw[dH];show q6 szI)) λs1 s' p r x y z=>?_
 let(h',B,C,D,G):=s';have eg:B=s.Xq:=p.Xq;have ed:C=s.drawn:=p.drawn;have eo:G=s.os:=p.os;subst eg;subst ed;subst eo;apply fq rfl rfl (h _ s1 _ _ szI r.1 x y z λb o H e=>p.V5 b o (λq=>?_) (aJ _ (aJ _ e)));rcases aU.mp q with q|q
 .show Vy q (cK H)
 .rw[aC,sz] at q;show Vy q (cK (q6 H))
end
end
section
section
variable {ι:List Addr} {h:Heap}
mutual open Nat
structure KV {K:Type} [Wy K] (Xk:Ve.Zn VM w K) (kv:K->V):Prop where
 to:∀{ι h k v},WV ι h (kv k) v->Xk.is k v=V6/\v.scannable=V6
 of:∀{ι h k v},Xk.is k v=V6->WV ι h (kv k) v
 Yh:∀k,f6 (kv k)=V6
 inj:∀{a b},kv a=kv b->a=b
def kvI:KV (Ve.intKind VM w) V.Vl where
 to h:=by let(t,VC):=h;show⟨intKind_is _ _ _ _,VC⟩
 of h:=by show xS h
 Yh _:=rfl
 inj h:=V.Vl.inj h
def kvS:KV (iS VM w) V.Vn where
 to h:=by let(t,VC):=h;show⟨strKind_is _ _ _ _,VC⟩
 of h:=by show oK h
 Yh _:=rfl
 inj h:=V.Vn.inj h
variable {K:Type} [Wy K] {Xk:Ve.Zn VM w K} {kv:K->V}
def KV.are (c:KV Xk kv):∀{ks:V2 K} {vs},cT ι h (ks.VP kv) vs->Are Xk ks vs:=λ{ks}=>by
 induction ks with
 |VH=>intro vs r;cases r;show .VH
 |V4 k ks d=>
  intro vs r;let(v,q,VC,a,b):=r;show .V4 (c.to a).1 (c.to a).2 (d b)
def KV.rep (b:KV Xk kv) {ks:V2 K} {vs} (a:Are Xk ks vs):cT ι h (ks.VP kv) vs:=by
 induction a with
 |VH=>show .VH
 |V4 a _ _ c=>show .V4 (b.of a) c
def KV.keys (a:KV Xk kv) (ks:V2 K):eU (ks.VP kv)=V6:=by
 induction ks with
 |VH=>rfl
 |V4 k ks b=>change(f6 (kv k)&&eU (ks.VP kv))=V6;rw[a.Yh k,b];rfl
def KV.Wb (b:KV Xk kv) {ks:V2 K} {a:Vc} (S:DG Xk h a ks):∃c:V2 K,c.X7 ks/\kD w ι h (.Wb (c.VP kv)) a:=by let(vs,(es,ep,t,g,el,pm,hb,hf,T),ar):=S;let(c,d,p):=ar.YW pm;simp only[uf,aN,VV,decide_eq_true_eq] at hf;show aV c p {es,ep,t,g,b.rep d,{hf.1,hf.2,ve T.up,T.led},b.keys _}
end
end
mutual open Nat
def aQ.setKV {d:Type} [Wy d] {Xk:Ve.Zn c.VM c.w d} {f:d->V} (j:KV Xk f) {a:V9} {ks:V2 d} (ha:M[a]?=V1 (.VF (ks.VP f))) (hz:ks.V0<=100) (p:∀l:V2 d,(∀k,k∈l↔k∈ks)->l.V0<=ks.V0->l.WF->P (.VG M.V0) (M++[.Wb (l.VP f)])):
    aQ c n (.W5 "set") [.VG a] M P:=λA ι s m y G r Q E q=>by
 let(rv,VC,z):=r.Zb;clear r;let(x,VL,k,VC,B,C,D):=pU G ha z;have Wz:=gF D;rw[aE] at Wz;have ak:=j.are D
 apply eV (Cz (J:=λi u=>DG Xk u.V5 s.V5.VJ.VA (ded (ks.WU i))) y.hd (eG C) (λI F=>J3 (λq=>Vy (aC.mp q) (cK F)) Wz.Vh (λi v hv=>ak.X8 (by rw[aZ];show hv)) (by rw[Wz];show dW (nN hz) (by decide)))
  (λH K L N _ _=>⟨[],⟨#[],0,.Y0 0 0 H,N,(λe (h:e∈([]:V2 (Vo×VE)))=>nomatch h),oq _,by show V9.zero_lt_succ _,VC,⟨.VH,L⟩⟩,.VH⟩) λI s1 h' R F _ T U _ W X=>?_)
 letI S:DG Xk h' s.V5.VJ.VA (ded ks):=by rw[Wz,cV] at T;show T.W9 λo e=>U.V5 _ _ (λq=>Vy (aC.mp q) (cK F)) e
 let(vs,Y,_):=id S;let(es,Z,t,g,_):=Y;have k2:∀b o,s.V5.VT b=V1 o->h'.VT b=V1 o:=λb o e=>W b o (bM e) e;let(l,a0,a1):=j.Wb (ι:=ι++[s.V5.VJ.VA]) S;have pm2:=a0.V7 (oq (ded ks));let(st,a2):=G.Vp (c:=s.V5.VJ.VA) (o':=.Wb (l.VP f)) (aM _) (bM g) k2 λ_=>a1;apply q _ _ _ _ st a2 {VC,VC} (aV _ ?_ (p l (λk=>a0.X9.V7 (Pd ks k)) (aG (bX a0.WZ) (IF ks)) (a0.nodup_iff.WO (JY ks))));show{_,fX G.Wz,VC}
def all_map {a:Type} {b:a->V} {xs:V2 V} (h:∀x∈xs,∃i,x=b i):∃ks:V2 a,xs=ks.VP b:=by
 induction xs with
 |VH=>show{[],VC}
 |V4 x xs d=>
  let(k,VC):=h x (.WI _);let(ks,VC):=d λx e=>h x (.XW _ e);show{k::ks,VC}
def aQ.setL1 {d:Type} [Wy d] {Xk:Ve.Zn c.VM c.w d} {f:d->V} (g:KV Xk f) {a:V9} {xs:V2 V} (ha:M[a]?=V1 (.VF xs)) (hs:∀x∈xs,∃i,x=f i) (hz:xs.V0<=100) (p:∀ys,(∀x,x∈ys↔x∈xs)->ys.V0<=xs.V0->ys.WF->P (.VG M.V0) (M++[.Wb ys])):aQ c n (.W5 "set") [.VG a] M P:=by let(ks,VC):=all_map hs;apply .setKV g ha (by rw[aE] at hz;show hz) λj m l nd=>p _ (λx=>?_) (by rw[aE,aE];show l) (iR.WO (nd.imp λ{a b} o e=>o (g.inj e)));rw[aK,aK];show{λq=>by let(k,h,e):=q;show aV k ((m k).mp h) e,λr=>by let(k,h,e):=r;show(aV k ((m k).WO h) e)}
def aQ.setL {a:V9} {xs:V2 V} (ha:M[a]?=V1 (.VF xs)) (hs:(∀x∈xs,∃i,x=.Vl i)\/(∀x∈xs,∃i,x=.Vn i)) (hz:xs.V0<=100) (p:∀ys,(∀x,x∈ys↔x∈xs)->ys.V0<=xs.V0->ys.WF->P (.VG M.V0) (M++[.Wb ys])):aQ c n (.W5 "set") [.VG a] M P:=by
 rcases hs with h|h
 .show .setL1 kvI ha h hz p
 .show .setL1 kvS ha h hz p
def aQ.lenSet {a:V9} {xs:V2 V} (ha:M[a]?=V1 (.Wb xs)) (hz:xs.V0<=1000) (p:P (.Vl xs.V0) M):aQ c n (.Va "len") [.VG a] M P:=λA ι s b d G r Q E q=>by
 let(rv,VC,e):=r.Zb;clear r;let(x,f,VC):=e;let(x',hx',es,ep,t,g,l,(f1,f2,_),_):=G.VJ a _ ha;rw[f] at hx';cases hx';have Wz:es.VA=xs.V0:=by rw[<-l.V0,aE];rfl
 apply call_len_set g {VC,VC,VC} rfl (by unfold uf;rw[f1,Wk,Vs f2];rfl) (by rw[Wz];show bY [.l V3 (.v 0) (.n 1000)] (.k V6 (.z (.v 0)) (.n 9223372036854775808)) [[1,1]] tt [_] [] hz) ?_;rw[Wz];show q ι _ _ M .Vt G YT.of (aV _ (by show{_,VC}) p)
end
end
section
mutual open Nat
abbrev oN (VM:Wj) (w:XA) (h:WH) (vs:V2 VE):Prop:=
 vs.V0<2\/∃κ,∀(A:W8) (s:VI),A.Xz+80<9900->(∀b o,h.VT b=V1 o->s.V5.VT b=V1 o)->
  (∀(Q:ZF->VI->Prop) (E:VE->VI->Prop),Q κ s->VO (Vg VM w) A (keyKind' vs.WE) Q E s)/\qE VM w A s κ (Gh vs)
def Lm {vs:V2 VE} {xs:VW WB} (a:xs.X7 (Gh vs)):(xs.VP (·.2)).VD.X7 vs:=by rw[VW.toList_map];apply((jW.mp a).VP _).V7 (kE ?_);rw[pairsOf_toList,V2.map_snd_zip (aM _)]
def F4 {a:Type} {c:Prop} [Yk c] {b:ZF} {d:ZD ZF} {f:Y3 W7 ZD Yn} {i:ZF->W7} {T:Yn×W7->ZD a} {R:W7->Prop} {Q:a->VI->Prop}
    (g:c->R (i b)) (j:¬c->∀l:Yn×W7->VI->Prop,(∀m,R m->l ((),m) s)->VO (Vg VM w) A d (λk s'=>VO (Vg VM w) A (f.ZH (i k)) l E s') E s)
    (XR:∀m,R m->VO (Vg VM w) A (T ((),m)) Q E s):
    VO (Vg VM w) A (if c then (X3 b>>=λk=>(if c then X3 () else f:Y3 W7 ZD Yn).ZH (i k)>>=T) else (d>>=λk=>(if c then X3 () else f:Y3 W7 ZD Yn).ZH (i k)>>=T)) Q E s:=by
 by_cases q:c
 .rw[Vw q,Vw q];show aA (aD (aA (aD (XR _ (g q)))))
 .rw[Vd q,Vd q];show aA (eN (j q (λr s'=>VO (Vg VM w) A (T r) Q E s') XR) (λ_ _ h=>aA h) λ_ _ e=>e)
def I9 {a:Vc} {vs:V2 VE} {n:V9} {P:Fin->VI->Prop} (c:s.V5.VT a=V1 (j9 "list" vs.WE n)) (d:A.Xz+80<9900) (hz:vs.V0<=1000000)
    (hs:oN VM w (s.V5.XY a (eE λ_=>#[])) vs) (h:∀Wf:VW VE,Wf.VD.X7 vs->P (.YS (.XC .V8)) {s with V5:=rA s.V5 a vs Wf}):
    VO (Vg VM w) A (WA.«list.sort» ⟨[.VG a],[]⟩) P E s:=by
 have z7:=bJ
 focus rw[list_sort_plain]
 have ha:a<s.V5.VJ.VA:=bM c;apply aA (Cb c rfl (aA (listUpdate_at c rfl ?_ (by simp;show RG hz z7))));obtain⟨f,ho1⟩:∃f,(s.V5.XY a (eE λ_=>#[])).VT a=V1 (j9 "list" #[] f):={_,mP c (λ_=>#[])};apply aA (seqEpoch_at ho1 rfl (aA (xy (aA (wpAny_newList (dz ?_))))))
 have up:∀b o,(s.V5.XY a (eE λ_=>#[])).VT b=V1 o->(((s.V5.XY a (eE λ_=>#[])).Vp (j9 "tuple" vs.WE 0)).Vp (j9 "list" #[] 0)).VT b=V1 o:=
  λb o e=>aJ _ (aJ _ e)
 have ho6:=up _ _ ho1;have sz:vs.WE.VA=vs.V0:=by show rfl
 apply F4 (R:=λg=>(YL g).X7 (Gh vs)/\nL g=V8) (λ_=>{VW.X7.Vt _,VC}) (λi j k=>?_) (λg z=>?_)
 .let(κ,l):=hs.Xc (by rw[<-sz];show i);let(m,L):=l A {s with V5:=((s.V5.XY a (eE λ_=>#[])).Vp (j9 "tuple" vs.WE 0)).Vp (j9 "list" #[] 0)} d up;apply m _ _ ?_;apply eN (Rl (a₀:=Gh vs) (κ:=κ) (st:=J4 κ (vs.WE.Y8 vs.WE) #[] 7 V8) (Q:=λ_ g=>(YL g).X7 (Gh vs)/\nL g=V8) L {VW.X7.Vt _,VC,VC,VC} λg a b=>{a,b}) ?_ λ_ _ e=>e;rintro⟨⟨⟩,g⟩ s' ⟨VC,q,hf⟩;show k g {q,hf}
 .letI q:=z.1;have hf:=z.2;apply aA (seqEpoch_at ho6 rfl ?_);apply aA (listUpdate_at ho6 rfl ?_ (hsz2:=by rw[CK,q.size_eq,pairsOf_size];show dX [{0,.a,.n 1000000},{2,.b,.n 16777216}] {0,.a,.p .b (.n 1)} [16777216,16777216,0,999999] [] tt hz z7));rw[hf];simp only[bne_self_eq_false,lW,if_false];show aD (h _ (Lm q))
def I8 {x:VE} {Q:VE->VI->Prop} (c:A.Xz+90<9900)
    (d:VO (Vg VM w) A.Z8 (NB x) (λvs s1=>vs.V0<=1000000/\oN VM w s1.V5 vs/\
     ∀Wf:VW VE,Wf.VD.X7 vs->Q (.VG s1.V5.VJ.VA) {s1 with V5:=rA (s1.V5.Vp (j9 "list" vs.WE 0)) s1.V5.VJ.VA vs Wf}) E s):
    VO (Vg VM w) A (Vu (.Va "sorted") [x]) Q E s:=by
 apply Calls.call_function_entry kind_sorted plain_sorted entry_sorted (args_sorted1 _) ?_
 focus unfold WA.«sorted»
 apply aA (m:=checkCount "sorted" 1 1 _) (aD ?_);apply aA (eN d (λvs s1 f=>o0_3 f λhz S f=>?_) λ_ _ e=>e);apply aA (wpAny_newList ?_);have hoL:(s1.V5.Vp (j9 "list" vs.WE 0)).VT s1.V5.VJ.VA=V1 (j9 "list" vs.WE 0):=aP _ rfl
 have S':oN VM w ((s1.V5.Vp (j9 "list" vs.WE 0)).XY s1.V5.VJ.VA (eE λ_=>#[])) vs:=S.imp id λf=>o1_1 f λκ k=>⟨κ,λA s u e=>k A s u λb o q=>e b o (by
  rw[oX _ _ _ _ (cK (bM q))];show aJ _ q)⟩
 apply aA (dz (gh slot_list_sort {_,hoL,VC} entry_list_sort (I9 hoL (by show e9 [{1,.p .a (.n 90),.n 9900}] {1,.p (.p (.p .a (.n 1)) (.n 1)) (.n 80),.n 9900} [1,1] [] tt c) hz S' λWf g=>aV _ rfl ?_) (args_list_sort _)));show aD (aV _ rfl (f Wf g))
end
end
section
open PySem.SeqAt (EqAt RcAt RcNeAt)
mutual open Nat
def n6 {vs:V2 VE} {p:WB} (h:p∈(Gh vs).VD):p.1∈vs:=by rw[pairsOf_toList] at h;show(mem_zip_self h).2
def Kv {vs:V2 VE} (h:¬vs.V0<2):∃a b r,vs=a::b::r:=by
 cases vs with
 |VH=>show Vy (by show dg _) h
 |V4 a vs=>
 cases vs with
 |VH=>show Vy (by show cC _) h
 |V4 b r=>show Uy a b r rfl
def oN.ints {h:WH} {vs:V2 VE} {ns:V2 Vo} (c:IntsAre vs ns):oN VM w h vs:=by
 by_cases l:vs.V0<2
 .show .XB l
 apply .Wt {oneType',λA s _ _=>{λQ E q=>?_,λp q d e Q E k=>?_}}
 .let(a,b,r,VC):=Kv l;rw[keyKind_ints c];show aD q
 .let(n,t,f):=c.Z4 _ (n6 d);let(m,u,g):=c.Z4 _ (n6 e);rw[f,g,keyLt'_oneType];show oneLt_int (k _)
def oN.strs {h:WH} {vs:V2 VE} {ns:V2 Vm} (c:StrsAre vs ns):oN VM w h vs:=by
 by_cases l:vs.V0<2
 .show .XB l
 apply .Wt {oneType',λA s _ _=>{λQ E q=>?_,λp q d e Q E k=>?_}}
 .let(a,b,r,VC):=Kv l;rw[keyKind_strs c];show aD q
 .let(n,t,f):=c.Z4 _ (n6 d);let(m,u,g):=c.Z4 _ (n6 e);rw[f,g,keyLt'_oneType];show oneLt_str (k _)
abbrev One (A:W8) (s:VI) (f:VS) (p q:VE):Prop:=(∃e,EqAt A s p q e)/\∀(VM:Wj) (w:XA) (E:VE->VI->Prop) (Q:VS->VI->Prop),(∀b,Q b s)->VO (Vg VM w) A (oneLt' f p q) Q E s
def Gi {p q:VE} (h:uK A s p q) {Q:VS->VI->Prop} (a:∀b,Q b s):VO (Vg VM w) A (oneLt' V3 p q) Q E s:=by
 focus rw[oneLt'_eq]
 show aA (h VM w _ _ λb=>nH (a b))
def One.Vl {f:VS} {a b:Vo} {t u:Tok}:One A s f (.Vl a t) (.Vl b u):=⟨{_,λVM w E Q h=>wpAny_eqBool_int h},λVM w E Q h=>by
 cases f
 .show Gi uK.Vl h
 .show oneLt_int (h _)⟩
def One.Vn {f:VS} {a b:Vm} {t u:Tok}:One A s f (.Vn a t) (.Vn b u):=⟨{_,λVM w E Q h=>wpAny_eqBool_str h},λVM w E Q h=>by
 cases f
 .show Gi uK.Vn h
 .show oneLt_str (h _)⟩
def uK.tuples {l b:Vc} {a c:VW VE} {d f:V9} {e:V9->VS} (g:s.V5.VT l=V1 (iP a d)) (i:s.V5.VT b=V1 (iP c f)) (k:A.Xz<cLine)
    (m:∀j (n:j<a.VA) (o:j<c.VA),EqAt A.Z8 s a[j] c[j] (e j)/\uK A.Z8 s a[j] c[j]):uK A s (.VG l) (.VG b):=λVM w E Q h=>
 richCompare_meets_room (op:=.Lt) ⟨_,g,VC⟩ ⟨_,i,VC⟩ F.slot_tuple_lt F.entry_tuple_lt (F.args_tuple_lt_2 _ _) (F2 l b a c d f V8 V8 #[] #[] e)
  (Dt g i m λb=>show VE.WW b≠VE.notImplemented/\Q (.WW b) s from⟨(λx=>nomatch x),h b⟩) k
def Rh {b:VS} {x y:Vc} {a d:VW VE} {f g:V9} {Q:VS->VI->Prop} (k:s.V5.VT x=V1 (iP a f)) (l:s.V5.VT y=V1 (iP d g))
    (h:∀(j:V9) p q,a[j]?=V1 p->d[j]?=V1 q->One A s (b&&j==0) p q) (m:∀b,Q b s):VO (Vg VM w) A (keyLt' (UN b) (.VG x) (.VG y)) Q E s:=by
 apply aA (Cb k rfl (aA (Cb l rfl ?_)));apply aA (eN (oU _ (λ(n:V2 ((VE×VE)×V9)) (c:VK VS×Yn) s'=>c=(V8,())/\s'=s/\∀e∈n,One A s (b&&e.2==0) e.1.1 e.1.2) (λc s'=>s'=s/\(c=(V8,())\/∃r,c=(V1 r,()))) ?_ (λc s' x=>{x.2.1,.XB x.1}) _ _ (fq rfl rfl λe o=>?_)) ?_ λ_ _ x=>x)
 .clear m h l k Q g f d a y x;rintro⟨⟨p,q⟩,i⟩ n c s' ⟨VC,VC,ho⟩;let((e,eq),lt):=ho _ (.WI _);apply aA (eq VM w _ _ ?_);clear eq;cases e with
  |V6=>
   show aD (fq rfl rfl λe o=>ho e (.XW _ o))
  |V3=>
   show aA (lt VM w _ _ λb=>aD {VC,.Wt {_,VC}})
 .let((p,q),i):=e;have e1:=V2.mem_zipIdx_iff_getElem?.mp o;rw[V2.getElem?_zip_eq_some] at e1;show h i p q (by rw[<-aZ];show e1.1) (by rw[<-aZ];show e1.2)
 .clear h l k g f y x b;rintro c s' ⟨VC,VC|⟨r,VC⟩⟩
  .show aD (m _)
  .show aD (m _)
def MM {a:Vc} {VL:VW VE} {n:V9} {f:VE} {Q:VK VE->VI->Prop} (g:s.V5.VT a=V1 (iP VL n)) (b:VL[0]?=V1 f) (h:Q (V1 f) s):VO (Vg VM w) A (firstOfTuple' (.VG a)) Q E s:=by apply aA (i6 (T:="tuple") {_,g,VC} ?_);change VO _ _ (if _ then _ else _) _ _ _;rw[Vd (by show aO)];show aA (Cb g rfl (aD (by rw[b];show h)))
def HZ {c:Type} {f:VE->ZD c} {vs:V2 VE}:∀{rs:V2 c} {Q:V2 c->VI->Prop},vs.V0=rs.V0->(∀(i:V9) v r,vs[i]?=V1 v->rs[i]?=V1 r->∀Q,Q r s->VO (Vg VM w) A (f v) Q E s)->Q rs s->VO (Vg VM w) A (vs.mapM f) Q E s:=by
 induction vs with
 |VH=>intro rs Q e _ h;cases rs with
  |VH=>rw[V2.mapM_nil];show aD h
  |V4 _ _=>cases e
 |V4 v vs d=>
  intro rs Q e g h;cases rs with
  |VH=>cases e
  |V4 r rs=>
   rw[V2.mapM_cons];show aA (g 0 v r rfl rfl _ (aA (d (gR e) (λi v r a b=>g (i+1) v r a b) (aD h))))
def JM {vs fs:V2 VE} {T:VE} {Q:ZF->VI->Prop} (b:0<fs.V0) (hz:vs.V0=fs.V0) (hv:∀(i:V9) v f,vs[i]?=V1 v->fs[i]?=V1 f->∃a VL n,v=.VG a/\s.V5.VT a=V1 (iP VL n)/\VL[0]?=V1 f)
    (c:∀f∈fs,∀Q:VE->VI->Prop,Q T s->VO (Vg VM w) A (DR f) Q E s) (d:(T==T)=V6) (h:Q (UN (T !=.W5 "tuple")) s):VO (Vg VM w) A (keyKind' vs.WE) Q E s:=by
 rw[keyKind'_eq,V2.mapM_toArray,map_eq_pure_bind];apply aA (aA (HZ (rs:=fs.VP V1) (by rw[aE];show hz) (λi v r e j Q k=>?_) (aD ?_)))
 .rw[bC] at j;cases e3:fs[i]? with
  |V8=>rw[e3] at j;cases j
  |V1 f=>
   rw[e3] at j;cases j;let(a,VL,n,VC,g,z):=hv i v f e e3;show MM g z k
 rw[Vw (by simp)]
 focus apply aA (g5 ?_)
 rw[show((fs.VP V1).WE.Wx id)=fs.WE by simp,oneTypeOnly'_eq,V2.mapM_toArray,map_eq_pure_bind];apply aA (aA (aA (HZ (rs:=fs.VP λ_=>T) (by rw[aE]) (λi v r e j Q k=>?_) (aD ?_))))
 .rw[bC,e] at j;cases j;show c v (aF e) Q k
 have h0:(fs.VP λ_=>T).WE[0]?=V1 T:=by
  clear c hv hz vs;cases fs with
  |VH=>cases b
  |V4 f fs=>rfl
 rw[h0];have ha:((fs.VP λ_=>T).WE.Z4 λx=>x==T)=V6:=by simp[d]
 focus dsimp only
 rw[Vw ha];show aD (aD h)
end
end
section
open PySem.SeqAt (EqAt RcAt RcNeAt)
variable {ι:List Addr} {h:Heap}
mutual open Nat
def EU {ns:V2 Vo}:∀{vs},cT ι h (ns.VP .Vl) vs->IntsAre vs ns:=by
 induction ns with
 |VH=>intro vs r;cases r;show .VH
 |V4 n ns a=>
  intro vs r;let(v,q,VC,(t,VC),b):=r;show .V4 n t (a b)
def KH {ns:V2 Vm}:∀{vs},cT ι h (ns.VP .Vn) vs->StrsAre vs ns:=by
 induction ns with
 |VH=>intro vs r;cases r;show .VH
 |V4 n ns a=>
  intro vs r;let(v,q,VC,(t,VC),b):=r;show .V4 n t (a b)
abbrev xC (p:Vm×Vo):V:=.Vj [.Vn p.1,.Vl p.2]
abbrev uq (a:V2 (Vm×Vo)):V:=.Vj (a.VP xC)
def vh {p:Vm×Vo} {v:VE} (r:WV ι h (xC p) v):∃c n t u,v=.VG c/\h.VT c=V1 (iP #[.Vn p.1 t,.Vl p.2 u] n):=by let(c,VL,n,VC,_,g,r):=r;let(a,b,e,d,f):=r.inv2;let(t,VC):=d;let(u,VC):=f;apply T3 c n t u rfl ?_;rw[g];show VN (λz=>V1 (iP z n)) (J9 e)
@[elab_as_elim] def Ku {P:(r:V9)->r<2->Prop} {r:V9} (h:r<2) (a:P 0 V9.zero_lt_two) (b:P 1 V9.one_lt_two):P r h:=by
 cases r with
 |WM=>show a
 |Wh r=>cases V9.lt_one_iff.mp (f5 h);show b
def Lp (k:∀b o,h.VT b=V1 o->s.V5.VT b=V1 o) (c:A.Xz+20<9900) {p q:Vm×Vo} {v u:VE} (d:WV ι h (xC p) v) (f:WV ι h (xC q) u):One A s V3 v u:=by
 let(g,i,l,m,VC,r):=vh d;let(t,x,y,z,VC,B):=vh f;have r:=k _ _ r;letI B:=k _ _ B;letI C:A.Xz<cLine:=by show e9 [{1,.p .a (.n 20),.n 9900}] {1,.a,.n 9900} [1,1] [] tt c
 letI D:∀j (F:j<2) (G:j<2),EqAt A.Z8 s (#[Ff p.1 l,.Vl p.2 m])[j] (#[Ff q.1 y,.Vl q.2 z])[j] ((λj=>if j=0 then decide (p.1=q.1) else p.2==q.2) j)/\uK A.Z8 s (#[Ff p.1 l,.Vl p.2 m])[j] (#[Ff q.1 y,.Vl q.2 z])[j]:=by intro j F;show Ku F (λG=>{λVM w E Q h=>wpAny_eqBool_str h,uK.Vn}) λG=>{λVM w E Q h=>wpAny_eqBool_int h,uK.Vl}
 apply{?_,λVM w E Q h=>Gi (uK.tuples r B C D) h};by_cases e:g=t
 .clear B f;clear B x;subst e;show{_,EqAt.same _}
 .show{_,EqAt.of_refs e (RcAt.tuples {_,r,VC,_,VC} {_,B,VC,_,VC} C λj F G=>(D j F G).1)}
def Mz {Ty:V->Prop} {xs:V2 V}:∀{vs},cT ι h xs vs->(∀x∈xs,∃y ys,x=.Vj (y::ys)/\Ty y)->
    ∃fs:V2 VE,vs.V0=fs.V0/\(∀(i:V9) v f,vs[i]?=V1 v->fs[i]?=V1 f->∃a VL n,v=.VG a/\h.VT a=V1 (iP VL n)/\VL[0]?=V1 f)/\∀f∈fs,∃y,Ty y/\WV ι h y f:=by
 induction xs with
 |VH=>intro vs r _;cases r;show{[],VC,λi v f e=>(by cases e),λ_ h=>nomatch h}
 |V4 x xs d=>
  intro vs r j;let(v,q,VC,a,b):=r;let(fs,l,k,m):=d b λx o=>j x (.XW _ o);let(y,ys,VC,p):=j x (.WI _);let(c,VL,n,VC,_,g,r):=a;let(f,t,e,rf,_):=r;apply{f::fs,VN (·+ 1) l,λi v u z B=>?_,λu C=>?_}
  .cases i with
   |WM=>cases z;cases B;show{c,VL,n,VC,g,by rw[<-aZ,e];rfl}
   |Wh i=>show k i v u z B
  .clear e;rcases aU.mp C with rfl|C
   .show aV y p rf
   .show m u C
def Kz {xs:V2 V} {vs:V2 VE} (r:cT ι h xs vs) {v:VE} (hv:v∈vs) {Ty:V->Prop} (a:∀x∈xs,∃y ys,x=.Vj (y::ys)/\Ty y):∃ys c VL n,.Vj ys∈xs/\v=.VG c/\h.VT c=V1 (iP VL n)/\cT ι h ys VL.VD:=by let(i,e):=eT.mp hv;clear hv;let(x,b,d):=r.getR e;clear e;let(y,ys,VC,_):=a x (aF b);let(c,VL,n,VC,_,g,r):=d;show Uw _ c VL n (aF b) rfl g r
def oN.tups {b:VS} {T:VE} {Ty:V->Prop} {xs:V2 V} {vs:V2 VE} (r:cT ι h xs vs) (c:∀x∈xs,∃y ys,x=.Vj (y::ys)/\Ty y) (d:(T==T)=V6) (e:(T !=.W5 "tuple")=b)
    (g:∀(A:W8) (s:VI) (y:V) f,(∀b o,h.VT b=V1 o->s.V5.VT b=V1 o)->Ty y->WV ι h y f->∀(E:VE->VI->Prop) (Q:VE->VI->Prop),Q T s->VO (Vg VM w) A (DR f) Q E s)
    (m:∀(A:W8) (s:VI),A.Xz+80<9900->(∀b o,h.VT b=V1 o->s.V5.VT b=V1 o)->∀ys t,.Vj ys∈xs->.Vj t∈xs->∀(j:V9) y z v u,ys[j]?=V1 y->t[j]?=V1 z->WV ι h y v->WV ι h z u->One A s (b&&j==0) v u):oN VM w h vs:=by
 by_cases l:vs.V0<2
 .show .XB l
 let(fs,B,C,D):=Mz r c;apply .Wt {UN b,λA s F k=>{λQ E q=>JM (fs:=fs) (T:=T) (dX [{3,.a,.n 2},{2,.a,.b}] {1,.n 0,.b} [2,1,1] [] tt l B) B (λi v f a b=>?_) (λf G Q H=>?_) d (by rw[e];show q),λp q I J Q E K=>?_}}
 .let(a,VL,n,L,M,N):=C i v f a b;show T5 a VL n L (k _ _ M) N
 .let(y,P,R):=D f G;show g A s y f k P R E Q H
 .let(ys,S,U,W,X,Y,Z,a0):=Kz r (n6 I) c;let(t,a1,a2,a3,a4,a5,a6,a7):=Kz r (n6 J) c;rw[Y,a5];apply Rh (k _ _ Z) (k _ _ a6) (λj v u a b=>?_) K;let(y,a8,R):=a0.getR (by rw[aZ];show a);let(z,a9,aa):=a7.getR (by rw[aZ];show b);show m A s F k ys t X a4 j y z v u a8 a9 R aa
abbrev ndV (p:Vm×V2 Vo):V:=.Vj (.Vn p.1::p.2.VP .Vl)
def oN.VB {c:V2 (Vm×V2 Vo)} {vs:V2 VE} (r:cT ι h (c.VP ndV) vs):oN VM w h vs:=
 .tups (b:=V6) (T:=.W5 "str") (Ty:=λy=>∃x,y=.Vn x) r (λx d=>by let(p,_,VC):=aK.mp d;show kW _ _ rfl ⟨_,VC⟩) rfl (by show rfl)
  (λA s y f k d rf E Q q=>by let(x,e):=d;subst e;let(t,VC):=rf;show aD q)
  λA s g k ys i l m j y z v u a b n o=>by
   let(p,_,B):=aK.mp l;clear l;let(q,_,C):=aK.mp m;clear m;cases B;cases C;cases j with
   |WM=>
    cases a;cases b;let(t,VC):=n;let(t',VC):=o;show One.Vn
   |Wh j=>
    rw[g8,bC] at a b;let(D,_,VC):=fz.mp a;let(F,_,VC):=fz.mp b;let(t,VC):=n;let(t',VC):=o;show One.Vl
def oN.substs {d:V2 (V2 (Vm×Vo))} {vs:V2 VE} (r:cT ι h (d.VP uq) vs) (i:∀l∈d,l≠[]):oN VM w h vs:=
 .tups (b:=V3) (T:=.W5 "tuple") (Ty:=λy=>∃p,y=xC p) r (λx m=>by
     let(l,o,VC):=aK.mp m;clear m;cases l with
     |VH=>show Vy rfl (i _ o)
     |V4 p l=>show kW _ _ rfl {_,VC}) rfl (by show rfl)
  (λA s y f k m rf E Q q=>by let(x,e):=m;subst e;let(c,n,t,u,VC,g):=vh rf;show i6 (T:="tuple") ⟨_,k _ _ g,VC⟩ q)
  λA s B k ys C D F j y z v u a b G H=>by let(p,_,I):=aK.mp D;clear D;let(q,_,J):=aK.mp F;clear F;cases I;cases J;rw[bC] at a b;let(K,_,VC):=fz.mp a;let(L,_,VC):=fz.mp b;show Lp k (e9 [⟨1,.p .a (.n 80),.n 9900⟩] ⟨1,.p .a (.n 20),.n 9900⟩ [1,1] [] tt B) G H
end
end
mutual open Nat
def cT.YW {ι h} {us vs:V2 VE} (p:us.X7 vs):∀{xs},cT ι h xs vs->∃ys,ys.X7 xs/\cT ι h ys us:=by
 induction p with
 |VH=>intro xs r;show aV xs (.Vt _) r
 |V4 x _ d=>
  intro xs r;cases xs with
  |VH=>cases r
  |V4 y xs=>
   let(v,q,e,a,b):=r;cases e;let(ys,p,r):=d b;show aV (y::ys) (p.V4 _) (.V4 a r)
 |swap x y l=>
  intro xs r;cases xs with
  |VH=>cases r
  |V4 a xs=>
   let(v,q,e,f,r):=r;cases e;cases xs with
   |VH=>cases r
   |V4 b xs=>
    let(v,q,e,g,r):=r;cases e;show aV (b::a::xs) (.swap _ _ _) (.V4 g (.V4 f r))
 |V7 _ _ i j=>
  intro xs r;let(k,m,o):=j r;let(s,t,u):=i o;show aV s (t.V7 m) u
def AU {h:WH} {a:Vc} {vs:V2 VE} {Wf:VW VE} {n:V9} (g:h.VT a=V1 (j9 "list" vs.WE n)):
    (∃d,(rA h a vs Wf).VT a=V1 (kr Wf d))/\(∀b o,b≠a->h.VT b=V1 o->(rA h a vs Wf).VT b=V1 o):=by
 obtain⟨f,g1⟩:∃f,(h.XY a (eE λ_=>#[])).VT a=V1 (j9 "list" #[] f):={_,mP g (λ_=>#[])};apply{{_,mP (aJ _ (aJ _ g1)) (λ_=>Wf)},λb o i e=>?_}
 focus unfold rA
 rw[oX _ _ _ _ i];show aJ _ (aJ _ (by rw[oX _ _ _ _ i];show e))
abbrev AJ (c:Cx) (v:V) (xs:V2 V) (M:WC):Prop:=
 ∀(A:W8) ι s rv,A.YO=V8->A.Xz+90<9900->c.W6 ι M s.V5->WV ι s.V5 v rv->∀(Q:V2 VE->VI->Prop) (E:VE->VI->Prop),
  (∀s' vs a,a.X7 xs->(∀b o,s.V5.VT b=V1 o->s'.V5.VT b=V1 o)->s.V5.VJ.VA<=s'.V5.VJ.VA->YT s s'->cT ι s'.V5 a vs->Q vs s')->VO c.M A (NB rv) Q E s
def aQ.sorted_end {ι:V2 Vc} {s s1:VI} {vs:V2 VE} {ys:V2 V} {Wf:VW VE} (G:c.W6 ι M s.V5) (d:∀b o,s.V5.VT b=V1 o->s1.V5.VT b=V1 o) (f:s.V5.VJ.VA<=s1.V5.VJ.VA) (g:YT s s1) (i:cT ι s1.V5 ys Wf.VD) (p:P (.VG M.V0) (M++[.VF ys]))
    {Q:VE->VI->Prop} (q:∀j s' a M',WQ [] ι s.V5 j s'.V5->c.W6 j M' s'.V5->YT s s'->RP P j s' a M'->Q a s'):
    Q (.VG s1.V5.VJ.VA) {s1 with V5:=rA (s1.V5.Vp (j9 "list" vs.WE 0)) s1.V5.VJ.VA vs Wf}:=by
 have g0:(s1.V5.Vp (j9 "list" vs.WE 0)).VT s1.V5.VJ.VA=V1 (j9 "list" vs.WE 0):=aP _ rfl;let((n',g1),k2):=AU (Wf:=Wf) g0
 have k:∀b o,s.V5.VT b=V1 o->(rA (s1.V5.Vp (j9 "list" vs.WE 0)) s1.V5.VJ.VA vs Wf).VT b=V1 o:=λb o e=>
  k2 b o (cK (bM (d _ _ e))) (aJ _ (d _ _ e))
 have nf:i7 ([]:V2 Vc) s1.V5:=λ_ q=>(by cases q)
 let(st,l):=G.Vp (c:=s1.V5.VJ.VA) (o':=.VF ys) f (bM g1) k λst=>by
  apply{Wf,n',g1,cT.WL (ι:=ι) (h:=s1.V5) (F:=[]) {(aV [s1.V5.VJ.VA] rfl λb m=>?_),?_,λb o e _ _=>k2 b o (cK (bM e)) (aJ _ e)} nf i}
  .rw[aC.mp m];show{G.new f,aM _}
  .show bZ (bM g1)
 apply q _ _ _ _ st l (g.V7 {VC,VC}) (aV _ ?_ p);show{_,fX G.Wz,VC}
def aQ.sortedC {v:V} {xs:V2 V} (d:AJ c v xs M) (e:∀vs f ι h,V2.X7 f xs->cT ι h f vs->oN c.VM c.w h vs) (hz:xs.V0<=1000000) (p:∀ys,ys.X7 xs->P (.VG M.V0) (M++[.VF ys])):aQ c n (.Va "sorted") [v] M P:=λA ι s g i G r Q E q=>by let(rv,VC,j):=r.Zb;have hu:=i.uni;apply I8 (dX [{1,.p (.p .a (.m 16 .b)) (.n 100),.n 9900}] {1,.p .a (.n 90),.n 9900} [1,1] [] tt hu) (d A.Z8 ι s rv i.hd (by show dX [{1,.p (.p .a (.m 16 .b)) (.n 100),.n 9900}] {1,.p (.p .a (.n 1)) (.n 90),.n 9900} [1,1] [] tt hu) G j _ _ λs1 vs f k l o t u=>fq (by rw[u.V0,k.WZ];show hz) (e _ _ _ _ k u) λWf x=>?_);let(ys,y,z):=u.YW x;show aQ.sorted_end G l o t z (p ys (y.V7 k)) q
def Cv {h:WH} {vs:V2 VE}:(∀b o,h.VT b=V1 o->((h.Vp (j9 "list" #[] 0)).XY h.VJ.VA (eE (·++ vs.WE))).VT b=V1 o)/\((h.Vp (j9 "list" #[] 0)).XY h.VJ.VA (eE (·++ vs.WE))).VJ.VA=h.VJ.VA+1:=
 ⟨λb o e=>by rw[oX _ _ _ _ (cK (bM e))];show aJ _ e,by rw[rU,uU]⟩
def Ub {a:V9} {xs:V2 V} (ha:M[a]?=V1 (.VF xs)) (hz:xs.V0<=1000000):AJ c (.VG a) xs M:=λA ι s rv _ _ G r Q E q=>by let(x,VL,k,VC,b,d,e):=pU G ha r;have z7:=bJ;let(f,g):=Cv (h:=s.V5) (vs:=VL.VD);have sz:=bZ (qe (cC _) g.Vh);apply collect_list (vs:=VL.VD) (by simpa using eG d) (q _ _ _ (.Vt _) f sz {VC,VC} (e.up (G.YG sz f).1)) (by rw[cA,gF e];show RG hz z7)
abbrev lR (xs:V2 V):Prop:=(∀x∈xs,∃i,x=.Vl i)\/(∀x∈xs,∃i,x=.Vn i)\/(∃a:V2 (Vm×V2 Vo),xs=a.VP ndV)\/(∃b:V2 (V2 (Vm×Vo)),xs=b.VP uq/\((∀a∈b,a≠[])\/xs.V0<2))
def EC {a:Type} {b:a->V} {ys:V2 V} {ks:V2 a} (p:ys.X7 (ks.VP b)):∃d:V2 a,ys=d.VP b/\∀k∈d,k∈ks:=by
 have:∀y∈ys,∃k∈ks,y=b k:=λy f=>by let(k,g,e):=aK.mp (p.X9.mp f);show aV k g e.Vh
 clear p
 induction ys with
 |VH=>show aV [] rfl λ_ h=>(by cases h)
 |V4 y ys i=>
  let(k,g,VC):=this _ (.WI _);let(d,VC,h):=i λy f=>this y (.XW _ f);show aV (k::d) rfl λx j=>by clear this;rcases aU.mp j with rfl|j;show g;show h x j
def lR.YW {xs ys:V2 V} (p:V2.X7 ys xs) (h:lR xs):lR ys:=by
 rcases h with h|h|⟨ps,VC⟩|⟨pss,VC,h⟩
 .show .XB λy a=>h y (p.X9.mp a)
 .show .Wt (.XB λy a=>h y (p.X9.mp a))
 .let(ks,e,_):=EC p;show .Wt (.Wt (.XB {ks,e}))
 .let(ks,e,b):=EC p;show .Wt (.Wt (.Wt (aV ks e (h.imp (λh k d=>h k (b k d)) λh=>by rw[p.WZ];show h))))
def lR.sorts {VM w} {xs:V2 V} (h:lR xs) (vs:V2 VE) (a:V2 V) (ι:V2 Vc) (b:WH) (d:V2.X7 a xs) (r:cT ι b a vs):oN VM w b vs:=by
 replace h:=h.YW d;clear d xs;rcases h with h|h|⟨ps,VC⟩|⟨pss,VC,h|h⟩
 .let(ks,VC):=all_map h;show .ints (EU r)
 .let(ks,VC):=all_map h;show .strs (KH r)
 .show .VB r
 .show .substs r h
 .show .XB (by rw[r.V0];show h)
def aQ.sortedL {a:V9} {xs:V2 V} (ha:M[a]?=V1 (.VF xs)) (hs:lR xs) (hz:xs.V0<=1000000) (p:∀ys,ys.X7 xs->P (.VG M.V0) (M++[.VF ys])):aQ c n (.Va "sorted") [.VG a] M P:=
 .sortedC (Ub ha hz) hs.sorts hz p
def aQ.sorted2 {a:V9} {i j:Vo} (ha:M[a]?=V1 (.VF [.Vl i,.Vl j])) (p:P (.VG M.V0) (M++[.VF [.Vl (gu i j),.Vl (gI i j)]])):aQ c n (.Va "sorted") [.VG a] M P:=λA ι s b d G r Q E q=>by
 let(rv,VC,f):=r.Zb;clear r;let(x,VL,k,VC,g,m,o):=pU G ha f;have I:IntsAre VL.VD [i,j]:=EU (ns:=[i,j]) o;apply sorted_ints (vs:=VL.VD) (by simpa using eG m) I (by rw[o.V0];show(by decide:2<64)) λWf v w z B=>?_;clear I o ha;let(C,D):=Cv (h:=s.V5) (vs:=VL.VD)
 have e:v=[gu i j,gI i j]:=by
  clear w Wf p;let(x,y,VC):=H8 z.WZ;letI l:x<=y:=(xq.mp B).1 y (.WI _);clear B;rcases aU.mp (z.X9.WO (cP (a:=i))) with q|q
  .subst q;cases V2.perm_singleton.mp z.cons_inv;rw[Vo.min_eq_left l,Vo.max_eq_right l]
  .cases aC.mp q;cases V2.perm_singleton.mp ((V2.X7.swap _ _ _).V7 z).cons_inv;rw[Vo.min_eq_right l,Vo.max_eq_left l]
 clear z;clear B;subst e
 have ry:∀ι h,cT ι h [.Vl (gu i j),.Vl (gI i j)] Wf.VD:=λι h=>by
  generalize Wf.VD=os at w;cases w with
  |V4 n t w=>cases w with
   |V4 n u w=>cases w;show .two (by show{_,VC}) (by show{_,VC})
 have:=aQ.sorted_end (c:=c) (P:=P) (s1:={s with V5:=(s.V5.Vp (j9 "list" #[] 0)).XY s.V5.VJ.VA (eE (·++ VL.VD.WE))}) (vs:=VL.VD) (Wf:=Wf) G C (bZ (qe (cC _) D.Vh)) {VC,VC} (ry _ _) p q;rw[D] at this;show this
abbrev Ht (h h':WH):Prop:=∀b o,h.VT b=V1 o->h'.VT b=V1 o
abbrev IZ (I:Vc) (s s':VI):Prop:=(∀b o,b≠I->s.V5.VT b=V1 o->s'.V5.VT b=V1 o)/\s.V5.VJ.VA<=s'.V5.VJ.VA/\YT s s'
abbrev Q9 (c:Cx) (A:W8) (ι:V2 Vc) (h0:WH) (I S:Vc) (a:V9->Obj->Prop) (xs:V2 V):Prop:=
 (∀(i:V9) x s o,xs[i]?=V1 x->(∀b o,b≠I->b≠S->h0.VT b=V1 o->s.V5.VT b=V1 o)->s.V5.VT I=V1 o->a i o->∀(Q:VK VE->VI->Prop) (E:VE->VI->Prop),
  (∀v s' o',IZ I s s'->s'.V5.VT I=V1 o'->a (i+1) o'->WV ι s'.V5 x v->Q (V1 v) s')->VO c.M A (kg (.VG I)) Q E s)/\
 (∀s o,(∀b o,b≠I->b≠S->h0.VT b=V1 o->s.V5.VT b=V1 o)->s.V5.VT I=V1 o->a xs.V0 o->∀(Q:VK VE->VI->Prop) (E:VE->VI->Prop),(∀s',IZ I s s'->Q V8 s')->VO c.M A (kg (.VG I)) Q E s)/\
 ∀i o,a i o->nK o=V3
def MO {A:W8} {ι:V2 Vc} {h0:WH} {I S:Vc} {d:V9->Obj->Prop} {xs:V2 V} {R:Result->VI->Prop} (f:Q9 c A.Z8 ι h0 I S d xs) (hz:xs.V0<=1000000) (SI:S≠I) (g:I∉ι) (h:S∉ι):
    ∀(m i:V9) (s:VI) (o:Obj) (j:VW VE) (k:V9),i+m=xs.V0->(∀b o,b≠I->b≠S->h0.VT b=V1 o->s.V5.VT b=V1 o)->s.V5.VT I=V1 o->d i o->s.V5.VT S=V1 (kr j k)->cT ι s.V5 (xs.WU i) j.VD->
    (∀s' t k',(∀b o,b≠I->b≠S->s.V5.VT b=V1 o->s'.V5.VT b=V1 o)->s.V5.VJ.VA<=s'.V5.VJ.VA->YT s s'->s'.V5.VT S=V1 (kr t k')->cT ι s'.V5 xs t.VD->R (.ok (.XC (.VG S))) s')->
    jq c.M A (.Va "list.extend.loop" ⟨[.VG S,.VG I,.VG S],[]⟩) R s:=by
 have z7:=bJ
 letI w:∀{s s':VI} {k:V9} {j:VW VE} {o:Obj} {i:V9} {ys:V2 V} {vs:V2 VE},s.V5.VT S=V1 (kr j k)->s.V5.VT I=V1 o->d i o->(∀b o,b≠I->b≠S->s.V5.VT b=V1 o->s'.V5.VT b=V1 o)->s.V5.VJ.VA<=s'.V5.VJ.VA->cT ι s.V5 ys vs->cT ι s'.V5 ys vs:=
  λx y hi kb z r=>cT.WL (F:=[I,S]) ⟨(aV [] (by show(cJ _).Vh) λ_ q=>nomatch q),z,λb o e _ n=>kb b o (λq=>n (q▸.WI _)) (λq=>n (q▸.XW _ (.WI _))) e⟩ (λb B o e=>by
   clear kb g SI;rcases aU.mp B with rfl|B
   .rw[y] at e;cases e;show f.2.2 _ _ hi
   .rw[aC.mp B,x] at e;cases e;rfl) r
 intro m
 induction m with
 |WM=>
  intro i s o j k hi C D E G r H;letI hi:i=xs.V0:=hi;subst hi;apply fJ F.entry_extend_loop ?_
  focus rw[eX p6 _]
  focus change VO _ A.Z8 (kg (.VG I)>>=_) _ _ s
  apply aA (f.2.1 s o C D E _ _ λs' kb=>?_);rw[cV] at r;show aD (H s' j k (λb o n _ e=>kb.1 b o n e) kb.2.1 kb.2.2 (kb.1 _ _ SI G) (w G D E (λb o n _ e=>kb.1 b o n e) kb.2.1 r))
 |Wh m J=>
  intro i s o j k hi C D E G r H;letI K:i<xs.V0:=qq6 hi;letI L:xs[i]?=V1 xs[i]:=aI K;apply fJ F.entry_extend_loop ?_
  focus rw[eX p6 _]
  focus change VO _ A.Z8 (kg (.VG I)>>=_) _ _ s
  apply aA (f.1 i _ s o L C D E _ _ λv s' o' kb N Q rv=>?_);letI T:=kb.1 _ _ SI G
  have az:j.VA<=1000000:=by have:=r.V0;rw[cA,dF] at this;show bY [.l V3 (.v 0) (.n 1000000),.e V3 (.v 1) (.u (.v 2) (.v 0))] (.l V3 (.v 1) (.n 1000000)) [[1,1,1,1],[1,1,0,1]] tt [_,_,_] [] hz this
  have r':=w G D E (λb o n _ e=>kb.1 b o n e) kb.2.1 r
  focus change VO _ A.Z8 (Uh S (·.Vp v)>>=_) _ _ _
  letI U:∀b o,b≠S->s'.V5.VT b=V1 o->(s'.V5.XY S (eE (·.Vp v))).VT b=V1 o:=λb o n e=>(sS _ _ (fP n)).V7 e;letI z:s'.V5.VJ.VA<=(s'.V5.XY S (eE (·.Vp v))).VJ.VA:=bX (rU ..).Vh;have W:∃X,(s'.V5.XY S (eE (·.Vp v))).VT S=V1 (kr (j.Vp v) X):={_,mP T (·.Vp v)};let(X,W):=W;apply aA (FO T rfl (aD {j3 p6 _,J (i+1) _ o' (j.Vp v) X (qq3 hi) (λb o n m e=>?_) (U _ _ (fP SI) N) Q W ?_ λY t k' Z a0 a1 a2 a3=>?_}) (Ol z7 az) (by rw[VW.size_push];show dX [{2,.a,.n 16777216},{0,.b,.n 1000000}] {0,.p .b (.n 1),.p .a (.n 1)} [262144,0,15625,262144] [] tt z7 az))
  .show U _ _ m (kb.1 _ _ n (C _ _ n m e))
  .rw[cF,L,eL];show w T N Q (λb o _ n e=>U b o n e) z (r'.WX (.Ws rv))
  .show H Y t k' (λb o a4 a5 e=>Z b o a4 a5 (U _ _ a5 (kb.1 _ _ a4 e))) (aG kb.2.1 (aG z a0)) (kb.2.2.V7 {a1.Xq,a1.os}) a2 a3
end
section
mutual open Nat
def Mc:uR (.W5 "dict") "__len__"=X3 (V1 (.Va "dict.__len__")):=by rw[p8,kh];kernel_rfl
def OQ:uR (.W5 "set") "__len__"=X3 (V1 (.Va "set.__len__")):=by rw[p8,kh];kernel_rfl
def SJ:uR (.W5 "dict_items") "__len__"=X3 (V1 (.Va "dict_items.__len__")):=by rw[p8,kh];kernel_rfl
def KG:isSubtype (.W5 "dict") (.W5 "dict")=X3 V6:=by rw[Io];kernel_rfl
def SD:isSubtype (.W5 "dict_items") (.W5 "dict_items")=X3 V6:=by rw[Io];kernel_rfl
nonrec abbrev O7 (S:Vc) (a:VE):ZD Fin:=WA.V2.listTouch (.VG S)>>=λ_=>again (.Va "list.extend.loop" {[.VG S,a,.VG S],[]})
abbrev DQ (T:Zf):Prop:=∀{VM:Wj} {w:XA} {A:W8} {E:VE->VI->Prop} {s:VI} {S a:Vc} {Q:Fin->VI->Prop},S≠a->s.Xj (.VG a) T->
 VO (Vg VM w) A (DT (.VG a)) (λb s'=>s'.Xj (.VG a) T/\VO (Vg VM w) A (O7 S b) Q E s') E s->VO (Vg VM w) A (ny (.VG S) (.VG a) (.VG S)) Q E s
def GY:DQ "dict":=λ{_ _ _ _ _ S a _} b c h=>by
 apply aA (i6 c ?_);rw[Vd (by rw[show WA.V2.listSameRef (.VG S) (.VG a)=V3 from Vz.WO b];show aO)];apply aA (eN h (λd s' f=>o0_2 f λT h=>?_) λ_ _ e=>e);apply aA (dz ?_);apply aA (mH T Mc ?_)
 focus dsimp only
 focus rw[show splitId "dict.__len__"=V1 ("dict","__len__") from by kernel_rfl]
 apply aA (lH T KG ?_)
 focus rw[Vd (by show aO)]
 apply gT (λ_=>?_) λn=>(n (by kernel_rfl)).W2;apply aA (i6 T (aD ?_));apply gT (λ_=>aA (g5 h)) λn=>(n (by kernel_rfl)).W2
def JU:DQ "set":=λ{_ _ _ _ _ S a _} b c h=>by
 apply aA (i6 c ?_);rw[Vd (by rw[show WA.V2.listSameRef (.VG S) (.VG a)=V3 from Vz.WO b];show aO)];apply aA (eN h (λd s' f=>o0_2 f λT h=>?_) λ_ _ e=>e);apply aA (dz ?_);apply aA (mH T OQ ?_)
 focus dsimp only
 focus rw[show splitId "set.__len__"=V1 ("set","__len__") from by kernel_rfl]
 apply aA (lH T sub_set_self ?_)
 focus rw[Vd (by show aO)]
 apply gT (λ_=>?_) λn=>(n (by kernel_rfl)).W2;apply aA (i6 T (aD ?_));apply gT (λ_=>aA (g5 h)) λn=>(n (by kernel_rfl)).W2
def Cu {T:Zf} (W:DQ T) {A:W8} {ι:V2 Vc} {s:VI} {a:Vc} {xs:V2 V} {Q:V2 VE->VI->Prop} {E:VE->VI->Prop} (hz:xs.V0<=1000000) (G:c.W6 ι M s.V5) (d:s.Xj (.VG a) T)
    (hi:∀s1:VI,Ht s.V5 s1.V5->s.V5.VJ.VA<s1.V5.VJ.VA->∀f:VE->VI->Prop,
     (∀I g o h i,V2.X7 i xs->s1.V5.VJ.VA<=I->Ht s1.V5 h.V5->s1.V5.VJ.VA<=h.V5.VJ.VA->YT s1 h->h.V5.VT I=V1 o->g 0 o->Q9 c A.Z8 ι h.V5 I s.V5.VJ.VA g i->f (.VG I) h)->VO c.M A.Z8 (DT (.VG a)) f E s1)
    (q:∀s' vs i,V2.X7 i xs->Ht s.V5 s'.V5->s.V5.VJ.VA<=s'.V5.VJ.VA->YT s s'->cT ι s'.V5 i vs->Q vs s'):VO c.M A (NB (.VG a)) Q E s:=by
 have la:a<s.V5.VJ.VA:=by let(o,j,_):=d;show bM j
 have hSa:s.V5.VJ.VA≠a:=kN la;apply aA (xx (fJ F.entry_proto_collect ?_))
 focus rw[eX F.plain_proto_collect _]
 focus change VO _ A.Z8 (TR []>>=λl=>again (.Va "list.__iadd__" {[l,.VG a],[]})) _ _ s
 apply aA (e7 ?_);apply aD {j3 rV _,fJ F.entry_list_iadd ?_}
 focus rw[eX rV _]
 have up:Ht s.V5 (s.V5.Vp (kr #[] 0)):=λb o e=>aJ _ e;have sz:(s.V5.Vp (kr #[] 0)).VJ.VA=s.V5.VJ.VA+1:=uU ..;have g1:(s.V5.Vp (kr #[] 0)).VT s.V5.VJ.VA=V1 (kr #[] 0):=aP _ rfl;have T1:VI.Xj {s with V5:=s.V5.Vp (kr #[] 0)} (.VG a) T:=by let(o,j,p):=d;show{o,up _ _ j,p}
 focus change VO _ A.Z8 (ny (.VG s.V5.VJ.VA) (.VG a) (.VG s.V5.VJ.VA)) _ _ {s with V5:=s.V5.Vp (kr #[] 0)}
 apply W hSa T1 (hi {s with V5:=s.V5.Vp (kr #[] 0)} up (by change _<(s.V5.Vp (kr #[] 0)).VJ.VA;rw[sz];show cC _) _ λI g o h i t u v w x y z B=>?_);apply{by let(o,j,p):=T1;show{o,v _ _ j,p},?_};have g2:=v _ _ g1;have hSI:s.V5.VJ.VA≠I:=λe=>by rw[<-e] at u;have:=aG (bX sz.Vh) u;show Vy this (kj _)
 apply aA ?_
 focus change VO _ A.Z8 (Uh s.V5.VJ.VA (·.Vp .V8)>>=λ_=>Uh s.V5.VJ.VA (·.pop)) _ _ _
 apply aA (FO g2 rfl ?_);obtain⟨k3,g3⟩:∃k,(h.V5.XY s.V5.VJ.VA (eE (·.Vp gb))).VT s.V5.VJ.VA=V1 (j9 "list" #[.V8] k):={_,mP g2 (·.Vp gb)};apply FO g3 rfl ?_;obtain⟨k4,g4⟩:∃k,((h.V5.XY s.V5.VJ.VA (eE (·.Vp gb))).XY s.V5.VJ.VA (eE (·.pop))).VT s.V5.VJ.VA=V1 (kr #[] k):={_,mP g3 (·.pop)}
 letI C:∀b o,b≠s.V5.VJ.VA->h.V5.VT b=V1 o->((h.V5.XY s.V5.VJ.VA (eE (·.Vp gb))).XY s.V5.VJ.VA (eE (·.pop))).VT b=V1 o:=
  λb o D e=>(sS _ _ (fP D)).V7 ((sS _ _ (fP D)).V7 e)
 have Ya:Ht s.V5 ((h.V5.XY s.V5.VJ.VA (eE (·.Vp gb))).XY s.V5.VJ.VA (eE (·.pop))):=λb o e=>C b o (cK (bM e)) (v _ _ (up _ _ e));have szz:((h.V5.XY s.V5.VJ.VA (eE (·.Vp gb))).XY s.V5.VJ.VA (eE (·.pop))).VJ.VA=h.V5.VJ.VA:=by rw[rU,rU]
 letI H:s.V5.VJ.VA<=I:=aG (aG (dg _) (bX sz.Vh)) u;apply aD {j3 p6 _,MO B (by rw[t.WZ];show hz) hSI (G.new H) (G.new (aM _)) i.V0 0 {h with V5:=(h.V5.XY s.V5.VJ.VA (eE (·.Vp gb))).XY s.V5.VJ.VA (eE (·.pop))} o #[] k4 (fj _) (λb o _ m e=>C b o m e) (C _ _ (fP hSI) y) z g4 .VH λs' J k' kb K L N r=>?_}
 focus change VO _ A (load s.V5.VJ.VA>>=_) _ _ s'
 apply aA (wpAny_load N (aD (q s' _ i t (λb o e=>kb b o (cK (aY (bM e) H)) (cK (bM e)) (Ya b o e)) ?_ {L.Xq.V7 x.Xq,L.os.V7 x.os} r)));apply aG ?_ K;apply aG ?_ (bX szz.Vh);show aG (aG (dg _) (bX sz.Vh)) w
end
end
mutual open Nat
def cT.of_get {ι h} {xs:V2 V}:∀{vs:V2 VE},xs.V0=vs.V0->(∀(i:V9) x v,xs[i]?=V1 x->vs[i]?=V1 v->WV ι h x v)->cT ι h xs vs:=by
 induction xs with
 |VH=>intro vs l _;cases vs with
  |VH=>show .VH
  |V4 _ _=>cases l
 |V4 x xs d=>
  intro vs l f;cases vs with
  |VH=>cases l
  |V4 v vs=>show .V4 (f 0 x v rfl rfl) (d (gR l) λi x v a b=>f (i+1) x v a b)
def aQ.itemsD {a:V9} {Vf:V2 (Vm×V)} (ha:M[a]?=V1 (.WD (fO (kdS c.VM c.w) Vf))) (p:P (.VG M.V0) (M++[.it (.view a)])):aQ c n (.Va "dict.items") [.VG a] M P:=λA ι s b e G r Q E q=>by let(rv,VC,f):=r.Zb;clear r;let(d,g,VC,h,i,_,_):=uB G ha f;apply CA Ve.F.slot_dict_items i.Yf Ve.F.entry_dict_items (Ve.F.args_dict_items_1 _) (meets_dict_items (iS c.VM c.w) d (oz G (aF h))) {{g,i},?_};let(st,j):=G.push1 (ob:={Z9:=.W5 "dict_items",Xu:=.WG #[.VG d]}) (o':=.it (.view a)) λst=>{d,mW h,_,aP _ rfl,VC,VC};apply q _ _ _ _ st j {VC,VC} (aV _ ?_ p);show{_,fX G.Wz,VC}
def T9 {a d:V9} {Vf:V2 (Vm×V)} (ha:M[a]?=V1 (.it (.view d))) (b:M[d]?=V1 (.WD (fO (kdS c.VM c.w) Vf))) (hz:Vf.V0<=1000):AJ c (.VG a) (Vf.VP λr=>.Vj [.Vn r.1,r.2]) M:=λA ι s rv f j G r Q E q=>by
 let(x,m,VC):=r;let(o,p,u,y,hv):=G.VJ a _ ha;rw[m] at p;cases p;let(z,B,e,C,D,F,H):=uB G b (rv:=.VG u) (by show{u,y,VC});clear C;cases e;let(I,J):=D.dictAt;letI K:B.V0=Vf.V0:=by have:=VN j7 F;simpa using this
 have z7:=bJ;apply eV (kdx_collect f hv J (Oo hz K z7) λh' L N k l g R=>?_);apply q _ _ _ (.Vt _) k R {VC,VC} ?_;have st:=(G.YG R k).1;apply cT.of_get (by rw[aE,aE,l,K]) λi x v S T=>?_;rw[bC] at S T;let(U,W,VC):=fz.mp S;let(t,X,VC):=fz.mp T;let(Y,Z,x,a0,a1,a2):=g.pairs i t X
 have q1:Z=U.1:=by have:=VN (λl:V2 Vm=>l[i]?) F;simp only[bC,a0,W] at this;show cG this
 subst q1;let(a3,a4,a5):=H.ZN (i:=i) (x:=U.2) (by rw[bC,W];rfl);rw[bC,a0] at a4;cases a4;apply{t,_,0,VC,λh=>?_,a2,.two ?_ (a5.up st)}
 .show Vy (G.lt _ h) (iI.WO (bZ (g.Yr t (aF X))))
 .show oK a1
def aQ.sortedV {a d:V9} {Vf:V2 (Vm×Vo)} (ha:M[a]?=V1 (.it (.view d))) (b:M[d]?=V1 (.WD (fO (kdS c.VM c.w) (Vf.VP λr=>(r.1,.Vl r.2))))) (hz:Vf.V0<=1000) (p:∀ys,ys.X7 (Vf.VP xC)->P (.VG M.V0) (M++[.VF ys])):aQ c n (.Va "sorted") [.VG a] M P:=
 have C:=T9 (c:=c) ha b (by rw[aE];show hz);have e:(Vf.VP λr=>(r.1,V.Vl r.2)).VP (λr=>V.Vj [.Vn r.1,r.2])=Vf.VP xC:=by rw[cB];rfl
 .sortedC (e▸C) (lR.sorts (.Wt (.Wt (.XB ⟨Vf.VP λr=>(r.1,[r.2]),by rw[cB];rfl⟩)))) (by rw[aE];show aG hz (by decide)) p
end
section
mutual open Nat
nonrec abbrev wV (d:Vc) (i n a:V9):Obj:={Z9:=.W5 "dict_keyiterator",Xu:=.WG #[.VG d,.Vl i 0,.Vl n 0,.Vl a 0]}
def JN {d:Vc} {es:VW XF} {a:V9} {Q:VE->VI->Prop} (b:(d==rt)=V3) (g:s.V5.VT d=V1 (Ao es a))
    (c:Q (.VG s.V5.VJ.VA) {s with V5:=s.V5.Vp (wV d 0 es.VA a)}):VO (Vg VM w) A (DT (.VG d)) Q E s:=by
 have hT:s.Xj (.VG d) "dict":={_,g,VC};apply wpAny_pyIter_slot hT F.slot_dict_iter (gh F.slot_dict_iter hT F.entry_dict_iter ?_ (F.args_dict_iter_1 _))
 focus unfold WA.«dict.__iter__»
 apply aA ?_;apply aA (wh hT ?_)
 focus change VO _ _ (X3 (ki d)) _ _ s
 apply aD ?_
 focus change VO _ _ (WA.Dict.showsAll d>>=_) _ _ s
 focus unfold WA.Dict.showsAll
 rw[Vd (by rw[b];show aO)];apply aA (aD (aA (BC g rfl (aA (wpAny_dictEpoch g rfl ?_)))));show aA (e7 (aD (aV _ rfl {"dict_keyiterator",_,{_,aP _ rfl,VC},F.slot_dict_keyiterator_next.VY,c})))
def Dh {T id:Zf} {a:WA} {c:Vc} {Q:VK VE->VI->Prop} (d:Slot T "__next__" id) (f:Q4 table id=V1 a) (g:argsOk id {[.VG c],[]}) (h:s.Xj (.VG c) T)
    (i:VO (Vg VM w) A.Z8 (a ⟨[.VG c],[]⟩) (λXR s'=>∃v,XR=.YS (.XC v)/\Q (V1 v) s') (λe s'=>s'.Xj e "StopIteration"/\Q V8 s') s):VO (Vg VM w) A (kg (.VG c)) Q E s:=by
 apply aA (oY (fV (name:=aX "__next__") h d (gh d h f (eN i (λXR s' j=>Xs j λv e q=>aV v e ?_) λe s' j=>o0_2 j λt q=>?_) g)))
 .show aD q
 .show aA (lH (T:="StopIteration") (b:=V6) t Iq (aD q))
def ur {c:Type} {R:c->VI->Prop} {Q:VK VE->VI->Prop} (d:A.YO=V8) (h:∀h',(∀b o,s.V5.VT b=V1 o->h'.VT b=V1 o)->Q V8 {s with V5:=h'}):
    VO (Vg VM w) A (WA.SmallTypes.stopIteration:ZD c) R (λe s'=>s'.Xj e "StopIteration"/\Q V8 s') s:=by apply aA ?_;apply aA (e7 ?_ (by size_fits));apply aA (m:=firstArgMember _ _) (Px (a:=gb) (by first|rfl|(rfl)) ?_);apply e7 ?_ (by size_fits);apply aA (wpAny_handled ?_);rw[d];show aA (aD (wpAny_throw ⟨⟨_,aP _ rfl,VC⟩,h _ λb o e=>aJ _ (aJ _ e)⟩))
def B6 {a d:Vc} {i c:V9} {es:VW XF} {Q:VK VE->VI->Prop} (f:s.V5.VT a=V1 (wV d i es.VA c)) (g:s.V5.VT d=V1 (Ao es c)) (h:A.YO=V8)
    (j:∀e h',es[i]?=V1 e->WH.Xm a s.V5 h'->h'.VT a=V1 (wV d (i+1) es.VA c)->Q (V1 e.Yh) {s with V5:=h'})
    (l:∀h',es[i]?=V8->WH.ExtBut a s.V5 h'->Q V8 {s with V5:=h'}):VO (Vg VM w) A (kg (.VG a)) Q E s:=by
 letI m:s.Xj (.VG a) "dict_keyiterator":={_,f,VC};apply Dh F.slot_dict_keyiterator_next F.entry_dict_keyiterator_next (F.args_dict_keyiterator_next_1 _) m ?_;apply aA (aD (aA (aA ?_)))
 first|apply aA (pg m (aD ?_))|apply aA (sV m (aD ?_))
 apply aA (Hy f rfl ?_);have hown:WA.Dict_items.ownsTuple "dict_keyiterator"=V3:=by show rfl
 focus rw[Vd (show ¬(WA.Dict_items.ownsTuple "dict_keyiterator"=V6) from hown▸aO)]
 focus change VO _ _ (if (ki d==gb)=V6 then _ else _) _ _ s
 focus rw[Vd (show ¬((ki d==gb)=V6) from aO)]
 apply aA (aD (aA (BC g rfl ?_)));rw[Vd (by simp)];apply aA (aD (aA (wpAny_dictEpoch g rfl ?_)));rw[Vd (by simp)];apply aD ?_
 focus simp only[show ¬((i:Vo)<0) from PO [_] [],if_false,gJ]
 cases hx:es[i]? with
 |V1 e=>
  apply aA ?_
  first|apply aA (pg m (aD ?_))|apply aA (sV m (aD ?_))
  apply aA (wpAny_isOneOf_keyiter m ?_)
  focus change VO _ _ (rB (.VG a) 1 (jK ((i:Vo)+1))>>=_) _ _ s
  apply aA (d7 f (by show aS rfl) λp q r=>?_);have he:p.VT a=V1 (wV d (i+1) es.VA c):=q;apply aA (dz (aA (wpAny_isOneOf_keyiter (s:={s with V5:=p}) {_,he,VC} ?_)))
  focus change VO _ _ (X3 e.Yh) _ _ _
  show aD (aD (aV _ rfl (j e p hx r he)))
 |V8=>
  apply aA ?_
  first|apply aA (pg m (aD ?_))|apply aA (sV m (aD ?_))
  focus change VO _ _ (rB (.VG a) 0 .V8>>=_) _ _ s
  apply aA (rq f rfl (by show di _) ?_);show ur h λh' k=>l _ hx λb o n e=>k _ _ (((dN ..).2 b n).V7 e)
def Jh {w:XA} {ι h} {es:V2 (V×V)}:∀{d:V2 XF},v7 w ι h es d->cT ι h (es.VP (·.1)) (d.VP (·.Yh)):=by
 induction es with
 |VH=>intro d r;cases r;show .VH
 |V4 e es f=>
  intro d r;have k:=e.1;have x:=e.2;let(e,l,VC,_,a,_,b):=r;show .V4 a (f b)
def Uc {a:V9} {es:V2 (V×V)} (ha:M[a]?=V1 (.WD es)) (hz:es.V0<=1000000):AJ c (.VG a) (es.VP (·.1)) M:=λA ι s rv f h G r Q E q=>by
 let(d,j,VC):=r;let(k,l,m,p,g,t,_,_):=G.VJ a _ ha;rw[j] at l;cases l;have rk:=Jh t;have Wz:m.VA=es.V0:=by have:=rk.V0;simpa using this
 apply Cu GY (by rw[aE];show hz) G {_,g,VC} (λs1 w y z B=>?_) q;letI C:=w _ _ g;apply JN (oz G (aF j)) C (B s1.V5.VJ.VA (λi o=>o=wV d i m.VA p) _ _ _ (.Vt _) (aM _) (λb o e=>aJ _ e) (by change _<=(s1.V5.Vp _).VJ.VA;rw[uU];show dg _) {VC,VC} (aP _ rfl) rfl {λi x u o D H I J Q E q=>?_,λu o H I J Q E q=>?_,λi o e=>by subst e;rfl})
 all_goals have dI:d≠s1.V5.VJ.VA:=cK (bM C)
 all_goals have dS:d≠s.V5.VJ.VA:=cK (bM g)
 all_goals letI K:∀b o,s1.V5.VT b=V1 o->(s1.V5.Vp (wV d 0 m.VA p)).VT b=V1 o:=λb o e=>aJ _ e
 .subst J;let(v,L,rv):=rk.ZN D;rw[bC,aZ] at L;apply eV (B6 I (H _ _ dI dS (K _ _ C)) f (λe h' N R S T=>?_) λh' N _ _=>?_)
  .rw[N] at L;cases L;apply q _ _ _ {λb o n e=>(R.2 b n).V7 e,T,{VC,VC}} S rfl ?_;have lI:s.V5.VJ.VA<=h'.VJ.VA:=aG (bZ y) (aG (bZ (bM I)) T);show rv.WL (F:=[]) (ι:=ι) {(aV [] (by show(cJ _).Vh) λ_ q=>(by cases q)),lI,λb o e _ _=>(R.2 b (cK (jy (bM e) y))).V7 (H b o (cK (jy (bM e) y)) (cK (bM e)) (K _ _ (w _ _ e)))} λ_ q=>(by cases q)
  .rw[N] at L;cases L
 .subst J;apply eV (B6 I (H _ _ dI dS (K _ _ C)) f (λe h' N _ _ _=>?_) λh' N U T=>q _ {λb o n e=>U b o n e,T,{VC,VC}});rw[aE,<-Wz,ZV m _ (e8 _)] at N;cases N
def aQ.sortedD {a:V9} {es:V2 (V×V)} (ha:M[a]?=V1 (.WD es)) (hs:∃b:V2 (V2 (Vm×Vo)),es.VP (·.1)=b.VP uq/\((∀d∈b,d≠[])\/∀d∈b,d=[])) (hz:es.V0<=1000000) (p:∀ys,ys.X7 (es.VP (·.1))->P (.VG M.V0) (M++[.VF ys])):aQ c n (.Va "sorted") [.VG a] M P:=λA ι s f g G=>by
 apply aQ.sortedC (Uc ha hz) (lR.sorts ?_) (by rw[aE];show hz) p A ι s f g G;let(b,e,h):=hs;apply .Wt (.Wt (.Wt (aV b e (h.imp id λh=>?_))));let(_,_,_,_,_,_,nd,_):=G.VJ a _ ha;rw[e] at nd⊢;rw[aE];cases b with
 |VH=>show V9.zero_lt_succ _
 |V4 x r=>
 cases r with
 |VH=>show cC _
 |V4 y r=>show Vy (by show eZ (VN _ (h x (.WI _))) (VN _ (h y (.XW _ (.WI _)))).Vh) ((xq.mp nd).1 (uq y) (.WI _))
end
end
section
mutual open Nat
def kH:Slot "set_iterator" "__next__" "set_iterator.__next__":=
 .of (owner:="set_iterator") (n:="__next__") (by rw[p8,kh];kernel_rfl) (by decide +kernel) (by decide +kernel) (by decide +kernel)
  (by first|show .XB (by decide +kernel)|show .Wt (by decide +kernel)) (by rw[Io];kernel_rfl)
def qu:Q4 table "set_iterator.__next__"=V1 WA.«set_iterator.__next__»:=entryFor_of_tree (by kernel_rfl)
def rK (a:VE):argsOk "set_iterator.__next__" {[a],[]}:=by kernel_rfl
def Al:Q4 table "set.__iter__"=V1 WA.«frozenset.__iter__»:=entryFor_alias (id':="frozenset.__iter__") (by kernel_rfl) rfl (by decide +kernel) (by kernel_rfl)
def Ak {a:Type} {l:V2 a}:∀{i:V9} (h:i<l.V0),(l[i]::l.eraseIdx i).X7 l:=by
 induction l with
 |VH=>intro i h;show Vy h (lU _)
 |V4 x l b=>
  intro i h;cases i with
  |WM=>show .Vt _
  |Wh i=>show(V2.X7.swap _ _ _).V7 ((b (f5 h)).V4 x)
def Jq {a:Type} (f:V9->V9):∀Xe k (l:V2 a) (Wf:VW a),l.V0=Xe->(DU.go f Xe k l Wf).VD.X7 (Wf.VD++l):=λXe=>by
 induction Xe with
 |WM=>intro k l Wf e;rw[dm e,cJ];show .Vt _
 |Wh Xe b=>
  intro k l Wf e
  focus conv in (occs:=*) DU.go .. =>all_goals whnf
  have lt:f k % l.V0<l.V0:=qd _ (by rw[e];show di _);rw[aI lt];apply(b (k+1) _ _ (by rw[V2.length_eraseIdx,Vw lt,e];rfl)).V7 ?_;rw[eL,aR];show f9 _ (Ak lt)
def Li {a:Type} (f:V9->V9) (xs:VW a):(DU f xs).VD.X7 xs.VD:=
 Jq f xs.VA 0 xs.VD #[] (by simp)
def CN {a:Source} {k:V9} {Q:V9->VI->Prop} (b:k≠0) (h:∀i c,i<k->Q i {s with drawn:=c}):VO (Vg VM w) A (choose a k) Q E s:=λd p e=>by
 focus unfold choose
 focus rw[ZD.wp_choose]
 show{b,h _ _ (qd _ (lZ b))}
def JW {a:Type}:∀k (xs:V2 a) {s:VI} {Q:V2 a->VI->Prop},xs.V0=k->(∀ys b,ys.X7 xs->Q ys {s with drawn:=b})->VO (Vg VM w) A (drawOrder k xs) Q E s:=λk=>by
 induction k with
 |WM=>
  intro xs s Q e h
  focus rw[dm e]
  show aD (h [] s.drawn (by rw[dm e]))
 |Wh k c=>
  intro xs s Q e h;cases xs with
  |VH=>cases e
  |V4 x xs=>
   apply aA (CN (by rw[e];show V9.succ_ne_zero _) λi b d=>?_);rw[aI d];apply aA (c _ (by rw[V2.length_eraseIdx,Vw d,e];rfl) λys f g=>aD (h _ f ?_));show(g.V4 _).V7 (Ak d)
nonrec abbrev jY (f:VE) (i:V9) (a:Vc) (k b:V9):Obj:={Z9:=.W5 "set_iterator",Xu:=.WG #[f,.Vl i 0,.VG a,.Vl k 0,.Vl b 0]}
def m9 {a:Vc} {es:VW (Vo×VE)} {b:V9} {t:Vr} {Q:(VW (Vo×VE)×V9×Vr)->VI->Prop} (g:s.V5.VT a=V1 (jO es b t)) (c:pY w es t) (h:Q (es,b,t) s):VO (Vg VM w) A (setState a) Q E s:=
 BB g rfl (by unfold uf;rw[c.1,Wk,Vs c.2.1];rfl) h
def Mn {a:Vc} {es:VW (Vo×VE)} {b:V9} {t:Vr} {Q:VE->VI->Prop} (g:s.V5.VT a=V1 (jO es b t)) (c:pY w es t) (hz:es.VA<=1000)
    (d:(w.X1.Xi "set-order"=V6\/t.plain=V6\/es.VA<=1)->Q (.VG s.V5.VJ.VA) {s with V5:=s.V5.Vp (jY (.Vl 0 0) 0 a es.VA b)})
    (e:∀(f:V2 V9) j,f.X7 (cD es.VA)->Q (.VG (s.V5.VJ.VA+1)) {s with V5:=(s.V5.Vp (iP (f.VP λ(i:V9)=>jK i).WE 0)).Vp (jY (.VG s.V5.VJ.VA) 0 a es.VA b),drawn:=j}):
    VO (Vg VM w) A (DT (.VG a)) Q E s:=by
 have hT:s.Xj (.VG a) "set":={_,g,VC};apply wpAny_pyIter_slot hT F.slot_set_iter (gh F.slot_set_iter hT Al ?_ (F.args_set_iter_1 _))
 focus unfold WA.«frozenset.__iter__» WA.Frozenset.slot0 slotArgs
 focus simp only[V2.isEmpty_nil,FF,lW,↓reduceIte,bind_assoc,V2.length_nil,bne_self_eq_false]
 focus apply aA (aD ?_)
 try dsimp only
 focus apply aA (aD ?_)
 apply aA (aA (aA (m9 g c (aD (aD ?_)))));apply aA (aA (m9 g c (aA (aA (jw (aD (aD ?_)))))))
 letI k:∀{s:VI} {R:V9->VI->Prop},s.V5.VT a=V1 (jO es b t)->R b s->VO (Vg VM w) A.Z8 (setEpoch a) R E s:=λg h=>by show aA (m9 g c (aD h))
 cases hb:(!w.X1.Xi "set-order"&&(!t.plain&&decide (es.VA>1))) with
 |V6=>
  apply gT (λ_=>?_) λn=>(n hb).W2;apply aA (JW _ _ (by show jM) λf j l=>aA (xy (aA (k (aJ _ g) ?_)) (by rw[aE,l.WZ,jM,bJ];show e9 [{0,.a,.n 1000}] {0,.a,.n 16777216} [1,1] [] tt hz)));apply aA (e7 (aD (aV _ rfl {"set_iterator",_,{_,aP _ rfl,VC},kH.VY,?_})));have:=e f j l
  focus change Q (.VG (s.V5.Vp _).VJ.VA) _
  rw[uU];show this
 |V3=>
  apply gT (λy=>(aO (hb.Vh.V7 y)).W2) λ_=>?_;apply aA (aD (aA (k g ?_)));apply aA (e7 (aD (aV _ rfl {"set_iterator",_,{_,aP _ rfl,VC},kH.VY,?_})));apply d ?_;cases q1:w.X1.Xi "set-order" with
  |V6=>show .XB rfl
  |V3=>
   cases q2:t.plain with
   |V6=>show .Wt (.XB rfl)
   |V3=>
    rw[q1,q2] at hb;show .Wt (.Wt (by simpa using hb))
end
end
section
mutual open Nat
def E6 {a:Vc} {es:VW (Vo×VE)} {b:V9} {t:Vr} {Q:VW (Vo×VE)->VI->Prop} {E:VE->VI->Prop} (g:s.V5.VT a=V1 (jO es b t)) (c:pY w es t) (h:Q es s):VO (Vg VM w) A (SE a) Q E s:=by show aA (m9 g c (aD h))
def B5 {c a:Vc} {i d f:V9} {es:VW (Vo×VE)} {t:Vr} {r:VK (VE×V9)} {Q:VK VE->VI->Prop} {E:VE->VI->Prop} (h:s.V5.VT c=V1 (jY (.Vl d 0) i a es.VA f)) (g:s.V5.VT a=V1 (jO es f t)) (j:pY w es t) (l:A.YO=V8)
    (m:∀(A:W8) (q:VK (VE×V9)->VI->Prop) (E':VE->VI->Prop),q r s->VO (Vg VM w) A (Ny a d i f) q E' s)
    (u:∀x next h',r=V1 (x,next)->WH.Xm c s.V5 h'->h'.VT c=V1 (jY (.Vl next 0) (i+1) a es.VA f)->Q (V1 x) {s with V5:=h'})
    (v:∀h',r=V8->WH.ExtBut c s.V5 h'->Q V8 {s with V5:=h'}):VO (Vg VM w) A (kg (.VG c)) Q E s:=by
 apply Dh kH qu (rK _) {_,h,VC} ?_;apply aA (aD (aA (Hy h rfl ?_)))
 focus change VO _ _ (SE a>>=_) _ _ _
 apply aA (E6 g j ?_);rw[Vd (by simp)]
 focus change VO _ _ (Ny a (d:Vo).Xd (i:Vo).Xd (f:Vo).Xd>>=_) _ _ _
 apply aA (m _ _ _ ?_);cases r with
 |V1 p=>
  let(x,next):=p
  focus change VO _ _ (rB (.VG c) 0 (jK next)>>=_) _ _ _
  apply aA (d7 h (by show di _) λy z B=>?_);have z:y.VT c=V1 (jY (.Vl next 0) i a es.VA f):=z;apply aA (d7 z (by show aS rfl) λC D F=>?_);show aD (aV _ rfl (u x next C rfl (WH.Xm.V7 B F) D))
 |V8=>
  focus change VO _ _ (rB (.VG c) 2 .V8>>=_) _ _ _
  apply aA (rq h rfl (by show aS rfl) ?_);show ur l λh' k=>v _ rfl λb o n e=>k _ _ (((dN ..).2 b n).V7 e)
def B4 {c a d:Vc} {i f h:V9} {j:V2 V9} {es:VW (Vo×VE)} {t:Vr} {Q:VK VE->VI->Prop} {E:VE->VI->Prop} (l:s.V5.VT c=V1 (jY (.VG d) i a es.VA f)) (g:s.V5.VT a=V1 (jO es f t)) (m:pY w es t) (q:A.YO=V8)
    (r:s.V5.VT d=V1 (iP (j.VP λ(i:V9)=>jK i).WE h))
    (u:∀p e h',j[i]?=V1 p->es[p]?=V1 e->WH.Xm c s.V5 h'->h'.VT c=V1 (jY (.VG d) (i+1) a es.VA f)->Q (V1 e.2) {s with V5:=h'}) (v:∀p∈j,p<es.VA)
    (x:∀h',j[i]?=V8->WH.ExtBut c s.V5 h'->Q V8 {s with V5:=h'}):VO (Vg VM w) A (kg (.VG c)) Q E s:=by
 apply Dh kH qu (rK _) {_,l,VC} ?_;apply aA (aD (aA (Hy l rfl ?_)))
 focus change VO _ _ (SE a>>=_) _ _ _
 apply aA (E6 g m ?_);rw[Vd (by simp)]
 focus change VO _ _ (Ui (.VG d)>>=_) _ _ _
 apply aA (gA r rfl ?_)
 focus change VO _ _ (match (rS (λ(i:V9)=>jK i) j).WE[i]? with|V1 (.Vl XI _)=>_|V1 _=>_|V8=>_) _ _ _
 rw[V2.getElem?_toArray,bC];cases hx:j[i]? with
 |V1 p=>
  letI y:=v p (aF hx);have he:es[p]?=V1 es[p]:=Wr es p y
  focus change VO _ _ (setNextDrawn a p f>>=_) _ _ _
  apply aA (aA (m9 g m ?_))
  focus dsimp only
  rw[Vd (by simp),he];apply aD ?_
  focus change VO _ _ (rB (.VG c) 1 (jK (i+1))>>=_) _ _ _
  apply aA (d7 l (by show aS rfl) λz B C=>?_);show aD (aV _ rfl (u p _ z hx he C B))
 |V8=>
  focus change VO _ _ (rB (.VG c) 0 (jK 0)>>=_) _ _ _
  apply aA (d7 l (by show di _) λz B C=>?_);have B:z.VT c=V1 (jY (.Vl 0 0) i a es.VA f):=B
  focus change VO _ _ (rB (.VG c) 2 .V8>>=_) _ _ _
  apply aA (rq B rfl (by show aS rfl) ?_);show ur q λh' k=>x _ hx λb o n e=>k _ _ (((dN ..).2 b n).V7 ((C.2 b n).V7 e))
def CY {a:Vc} {es:VW (Vo×VE)} {b i c:V9} {t:Vr} {Q:VK (VE×V9)->VI->Prop} {E:VE->VI->Prop} (g:s.V5.VT a=V1 (jO es c t)) (d:pY w es t) (f:w.X1.Xi "set-order"=V6)
    (h:Q (((DU (w.X1.setOrder a c) es)[i]?).VP λe=>(e.2,b)) s):VO (Vg VM w) A (Ny a b i c) Q E s:=by
 letI j:∀{s:VI} {R:VS->VI->Prop},R V6 s->VO (Vg VM w) A setsByText R E s:=λh=>by apply aA (jw (aD ?_));rw[show(Vg VM w).w.X1.Xi "set-order"=V6 from f];show h
 apply aA (m9 g d ?_);apply aA (j ?_);rw[Vw rfl,Vd (by simp)];apply aA (aA (m9 g d ?_));apply aA (j ?_)
 focus rw[Vw rfl]
 show aA (jw (aD (aD h)))
def AW {a:Vc} {es:VW (Vo×VE)} {b i c:V9} {t:Vr} {Q:VK (VE×V9)->VI->Prop} {E:VE->VI->Prop} (g:s.V5.VT a=V1 (jO es c t)) (d:pY w es t) (f:w.X1.Xi "set-order"=V3) (k:t.plain=V6\/es.VA<=1)
    (h:Q (match es[dD t.XI b]?,t.XI[dD t.XI b]? with|V1 (_,x),V1 j=>V1 (x,j+1)|_,_=>V8) s):VO (Vg VM w) A (Ny a b i c) Q E s:=by
 apply aA (m9 g d ?_);apply aA ?_;apply aA (jw (aD ?_));rw[show(Vg VM w).w.X1.Xi "set-order"=V3 from f,Vd (by show aO)]
 have hd:(!t.plain&&decide (es.VA>1))=V3:=by
  rcases k with e|e
  .rw[e];rfl
  .rw[Vk (iI.WO e),VS.and_false]
 apply gT (λy=>(aO (hd.Vh.V7 y)).W2) λ_=>?_;apply aA ?_;have hl:=d.2.2.2 f;apply gT (λy=>?_) λ_=>aD (aD h);rw[hl] at y;cases y
def Ua {a:V9} {xs:V2 V} (ha:M[a]?=V1 (.Wb xs)) (hz:xs.V0<=1000):AJ c (.VG a) xs M:=λA ι s rv d f G r Q E q=>by
 let(x,j,VC):=r;let(k,z,es,B,t,g,C,D,_):=G.VJ a _ ha;rw[j] at z;cases z;have Wz:es.VA=xs.V0:=by rw[<-C.V0,aE];rfl
 letI H:=CR D.2.2.1;apply Cu JU (aG hz (by decide)) G {_,g,VC} (λs1 J K L N=>?_) q;have g1:=J _ _ g;letI R:x≠s.V5.VJ.VA:=cK (bM g)
 have YF:∀{I:Vc} {u:VI} {h':WH} {y:V} {v:VE},s1.V5.VJ.VA<=I->(∀b o,b≠I->b≠s.V5.VJ.VA->s1.V5.VT b=V1 o->u.V5.VT b=V1 o)->I<u.V5.VJ.VA->u.V5.VJ.VA<=h'.VJ.VA->(∀b o,b≠I->u.V5.VT b=V1 o->h'.VT b=V1 o)->WV ι s.V5 y v->WV ι h' y v:=
  λS T U W X rv=>rv.WL (F:=[]) (ι:=ι) ⟨(aV [] (by show(cJ _).Vh) λ_ q=>(by cases q)),aG (bZ (aY K S)) (aG (bZ U) W),λb o e _ _=>by
   have lb:=bM e;have bI:=cK (aY (jy lb K) S);show X b o bI (T b o bI (cK lb) (J _ _ e))⟩ λ_ q=>(by cases q)
 letI Y:∀{I:Vc},s1.V5.VJ.VA<=I->x≠I:=λl=>cK (aY (bM g1) l)
 letI Z:∀(a0:V2 V) (a1:V2 VE) (a2:V9->V9->Prop),V2.X7 a0 xs->cT ι s.V5 a0 a1->a2 0 0->(∀(i a3:V9),a2 i a3->∃r:VK (VE×V9),(∀(A:W8) (u:VI) (a4:VK (VE×V9)->VI->Prop) (E':VE->VI->Prop),u.V5.VT x=V1 (jO es B t)->a4 r u->VO c.M A (Ny x a3 i B) a4 E' u)/\r.VP (·.1)=a1[i]?/\∀v a5,r=V1 (v,a5)->a2 (i+1) a5)->
   L (.VG s1.V5.VJ.VA) {s1 with V5:=s1.V5.Vp (jY (.Vl 0 0) 0 x es.VA B)}:=λa0 a1 a2 a6 a7 a8 a9=>by
  letI aa:∀b o,s1.V5.VT b=V1 o->(s1.V5.Vp (jY (.Vl 0 0) 0 x es.VA B)).VT b=V1 o:=λb o e=>aJ _ e;apply N _ (λi o=>∃a3:V9,o=jY (.Vl a3 0) i x es.VA B/\a2 i a3) _ _ a0 a6 (aM _) aa (by change _<=(s1.V5.Vp _).VJ.VA;rw[uU];show dg _) {VC,VC} (aP _ rfl) (aV 0 rfl a8) {λi y u o ab T ac ad Q E q=>?_,λu o T ac ad Q E q=>?_,λi o {_,e,_}=>by subst e;rfl}
  all_goals let(a3,VC,hs):=ad
  all_goals let(r,ae,af,ag):=a9 _ a3 hs
  all_goals letI ah:=T _ _ (Y (aM _)) R (aa _ _ g1)
  .let(v,ai,rv):=a7.ZN ab;rw[ai] at af;apply eV (B5 ac ah D d (λA a4 E'=>ae A u a4 E' ah) (λaj a5 h' e X ak W=>?_) λh' e _ _=>by rw[e] at af;cases af);rw[e] at af;clear ai;cases af;show q _ _ _ {λb o n e=>(X.2 b n).V7 e,W,{VC,VC}} ak (aV a5 rfl (ag _ _ e)) (YF (aM _) (λb o n m e=>T b o n m (aa _ _ e)) (bM ac) W (λb o n e=>(X.2 b n).V7 e) rv)
  .rw[fh (by rw[a7.V0];show aM _)] at af;apply eV (B5 ac ah D d (λA a4 E'=>ae A u a4 E' ah) (λaj a5 h' e _ _ _=>by rw[e] at af;cases af) λh' _ al W=>?_);show q _ {λb o n e=>al b o n e,W,{VC,VC}}
 apply Mn g1 D (dX [{0,.a,.n 1000},{2,.b,.a}] {0,.b,.n 1000} [1,1,1] [] tt hz Wz) (λam=>?_) λan ao ap=>?_
 .cases ht:c.w.X1.Xi "set-order" with
  |V6=>
   let(a0,a6,a7):=C.YW ((Li (c.w.X1.setOrder x B) es).VP (·.2));apply Z a0 _ (λ_ _=>True) a6 a7 trivial λi a3 _=>g6 (((DU (c.w.X1.setOrder x B) es)[i]?).VP λe=>(e.2,a3)) (λA u a4 E' ah h=>CY ah D ht h) ?_ λ_ _ _=>trivial;rw[VK.map_map,bC,aZ];rfl
  |V3=>
   have pl:=am.Xc λe=>by rw[ht] at e;cases e
   apply Z xs _ (λi a3=>dD t.XI a3=i) (.Vt _) C (Hh H) λi a3 e=>g6 _ (λA u a4 E' ah h=>AW ah D ht pl h) ?_ ?_
   all_goals rw[e]
   .rw[bC,aZ];by_cases l:i<es.VA
    .rw[Wr es i l,Wr t.XI i (by rw[D.1];show l)];rfl
    .rw[ZV es i l];rfl
   .intro v a5 aq;by_cases l:i<es.VA
    .rw[Wr es i l,Wr t.XI i (by rw[D.1];show l)] at aq;cases aq;show Hi H _
    .rw[ZV es i l] at aq;cases aq
 .letI ar:∀p∈an,p<es.VA:=λp h=>gG.mp (ap.X9.mp h)
  letI ai:((cD es.VA).VP λp=>((es.VD.VP (·.2)).Wn p .V8))=es.VD.VP (·.2):=by apply V2.ext_getElem (by simp) λi as au=>?_;simp at as au;simp[as]
  let(a0,a6,a7):=C.YW (us:=an.VP λp=>((es.VD.VP (·.2)).Wn p .V8)) ((ap.VP _).V7 (.of_eq ai));letI aa:∀b o,s1.V5.VT b=V1 o->((s1.V5.Vp (iP (an.VP λ(i:V9)=>jK i).WE 0)).Vp (jY (.VG s1.V5.VJ.VA) 0 x es.VA B)).VT b=V1 o:=λb o e=>aJ _ (aJ _ e);letI av:(s1.V5.Vp (iP (an.VP λ(i:V9)=>jK i).WE 0)).VJ.VA=s1.V5.VJ.VA+1:=uU ..;letI aw:((s1.V5.Vp (iP (an.VP λ(i:V9)=>jK i).WE 0)).Vp (jY (.VG s1.V5.VJ.VA) 0 x es.VA B)).VT s1.V5.VJ.VA=V1 (iP (an.VP λ(i:V9)=>jK i).WE 0):=aJ _ (aP _ rfl);letI ax:((s1.V5.Vp (iP (an.VP λ(i:V9)=>jK i).WE 0)).Vp (jY (.VG s1.V5.VJ.VA) 0 x es.VA B)).VT (s1.V5.VJ.VA+1)=V1 (jY (.VG s1.V5.VJ.VA) 0 x es.VA B):=by rw[<-av];show aP _ rfl
  apply N _ (λi o=>o=jY (.VG s1.V5.VJ.VA) i x es.VA B) _ _ a0 a6 (dg _) aa (bZ (fM (bM ax))) {VC,VC} ax rfl {λi y u o ab T ac ad Q E q=>?_,λu o T ac ad Q E q=>?_,λi o e=>by subst e;rfl}
  all_goals subst ad
  all_goals letI ah:=T _ _ (Y (dg _)) R (aa _ _ g1)
  all_goals letI ay:=T _ _ (cK (cC _)) (kN K) aw
  .let(v,ai,rv):=a7.ZN ab;apply eV (B4 ac ah D d ay (λp e h' B az X ak W=>?_) ar λh' e _ _=>by rw[bC,e] at ai;cases ai);rw[bC,B] at ai
   letI:v=e.2:=by rw[<-cG ai];simp[az]
   clear ai;subst this;show q _ _ _ {λb o n e=>(X.2 b n).V7 e,W,{VC,VC}} ak rfl (YF (dg _) (λb o n m e=>T b o n m (aa _ _ e)) (bM ac) W (λb o n e=>(X.2 b n).V7 e) rv)
  .apply eV (B4 ac ah D d ay (λp e h' B _ _ _ _=>?_) ar λh' _ al W=>?_)
   .have:=(aB.mp B).1;have l:=a7.V0;rw[aE] at l;show Vy this (iI.WO (bX l))
   .show q _ {λb o n e=>al b o n e,W,{VC,VC}}
def aQ.sortedS {a:V9} {xs:V2 V} (ha:M[a]?=V1 (.Wb xs)) (hs:lR xs) (hz:xs.V0<=1000) (p:∀ys,ys.X7 xs->P (.VG M.V0) (M++[.VF ys])):aQ c n (.Va "sorted") [.VG a] M P:=
 .sortedC (Ua ha hz) hs.sorts (aG hz (by decide)) p
end
end
section
mutual open Nat
def Em {ι h} {d:Vc} {a:V2 (Vm×VE)} {Vf:V2 (Vm×V)} (b:h.DictOf (iS c.VM c.w) d a) (f:a.VP (·.1)=Vf.VP (·.1)) (g:cT ι h (Vf.VP (·.2)) (a.VP (·.2))):kD c.w ι h (.WD (fO (kdS c.VM c.w) Vf)) d:=by let(o,ents,ep,h1,(h2,h3,h4),h5,h6,h7,h8):=b;let(i,j,k,l):=o;dsimp only at h2 h3 h4 h5;subst h2 h3 h4 h5;apply{ents,ep,h1,uw (kd:=kdS c.VM c.w) h7 (λe m=>h6 e (by simpa using m)) f g,by rw[tu,<-f];show h8,λe m=>?_};let(y,_,VC):=aK.mp m;show(kdS c.VM c.w).Yh _
def aQ.dictD {a:V9} {Vf:V2 (Vm×V)} (ha:M[a]?=V1 (.WD (fO (kdS c.VM c.w) Vf))) (hz:Vf.V0<=1000) (p:P (.VG M.V0) (M++[.WD (fO (kdS c.VM c.w) Vf)])):aQ c n (.W5 "dict") [.VG a] M P:=λA ι s f g G r Q E q=>by
 let(rv,VC,h):=r.Zb;clear r;let(d,i,VC,j,l,m,t):=uB G ha h;letI u:=bJ;letI v:i.V0=Vf.V0:=by letI:=VN j7 m;simpa using this
 apply eV (kt_call_dict (oz G (aF j)) l (fG [{0,.a,.n 1000},{2,.b,.n 16777216},{2,.c,.a}] {0,.c,.b} [2097152,2097152,0,125,2097152] [] tt hz u v) λh' x y z=>?_);letI k:∀b o,s.V5.VT b=V1 o->h'.VT b=V1 o:=λb o e=>(y.2 b (cK (bM e))).V7 (aJ _ e);let(o,B,C,D,_):=id x;let(st,F):=G.Vp (c:=s.V5.VJ.VA) (aM _) (bM D) k λst=>Em x m (t.up st);apply q _ _ _ _ st F {VC,VC} (aV _ ?_ p);show{_,fX G.Wz,VC}
def A1:uR (.W5 "tuple") "keys"=X3 V8:=by rw[p8,kh];kernel_rfl
set_option maxRecDepth 8000 in
def AS {a:Vc} {xs:VW VE} {k:V9} {Q:VK VE->VI->Prop} (f:s.V5.VT a=V1 (iP xs k)) (i:A.YO=V8)
    (h:∀h' j,(∀b o,s.V5.VT b=V1 o->h'.VT b=V1 o)->Q V8 {s with V5:=h',WJ:=j}):VO (Vg VM w) A (getAttr? (.VG a) "keys") Q E s:=by
 let(l,g,d,j,os):=s;letI m:∀p,({l,g,d,p,os}:VI).Xj (.VG a) "tuple":=λ_=>{_,f,VC};letI q:=sub_AttributeError;letI r:=rN.VY;letI t:=rN.bind (.VG a);letI u:=am_tuple_getattr_none
 focus unfold getAttr? getAttrBy? getAttrBy
 repeat (any_goals (first|assumption|show m _|((with_reducible change VO _ _ (Vu (VE.Va "tuple.__getattribute__") _ _) _ _ _);apply lD rN (m _) am_entry_tuple_getattribute (F.args_tuple_getattribute_2 _ _) (meets_getattribute_miss_tuple a xs k _ _ _ A1 (by show rfl) (by rw[bJ];decide)) {f,i,λh' p e v=>?_})|wp_step))
 let(t',x,y):=v.there
 focus change VO _ _ (getattributeRaised _ _ _ _ _ _ _) _ _ _
 focus unfold getattributeRaised
 repeat (any_goals (first|assumption|wp_step))
 show h _ _ v.YG
def rJ:Q4 table "dict.update.loop"=V1 WA.«dict.update.loop»:=entryFor_of_tree (by kernel_rfl)
def kL:plainId "dict.update.loop"=V6:=by decide +kernel
def JX {T I d:Vc} {VL:VW VE} {xs:V2 (Vm×Vo)} {h0:WH} {n0:V9} {R:Result->VI->Prop} (f:A.YO=V8) (l:d≠I) (v:h0.VT T=V1 (iP VL n0)) (z:(xs.VP (·.1)).WF) (hz:xs.V0<=1000)
    (hi:∀(i:V9) x,xs[i]?=V1 x->∃B C t u,VL[i]?=V1 (.VG B)/\h0.VT B=V1 (iP #[.Vn x.1 t,.Vl x.2 u] C)) (D:VL.VA=xs.V0):
    ∀(m i:V9) (s:VI) (F:V2 (Vm×VE)),i+m=xs.V0->(∀b o,b≠I->b≠d->h0.VT b=V1 o->s.V5.VT b=V1 o)->h0.VT I=V8->h0.VT d=V8->s.V5.IsTupleIter I T i->s.V5.DictOf (iS VM w) d F->
     F.VP (·.1)=(xs.WU i).VP (·.1)->(∀ι h,cT ι h ((xs.WU i).VP λx=>.Vl x.2) (F.VP (·.2)))->
     (∀s' G,(∀b o,b≠I->b≠d->s.V5.VT b=V1 o->s'.V5.VT b=V1 o)->YT s s'->s'.V5.DictOf (iS VM w) d G->G.VP (·.1)=xs.VP (·.1)->(∀ι h,cT ι h (xs.VP λx=>.Vl x.2) (G.VP (·.2)))->R (.ok (.XC .V8)) s')->
     ∀j:Vo,jq (Vg VM w) A (.Va "dict.update.loop" ⟨[.VG d,.VG I,.Vl j 0,.V8],[]⟩) R s:=by
 intro m
 induction m with
 |WM=>
  intro i s F H J K L N Q S U W j;letI H:i=xs.V0:=H;subst H;letI X:T≠I:=λe=>by rw[e,K] at v;cases v
  letI Y:T≠d:=λe=>by rw[e,L] at v;cases v
  apply fJ rJ ?_
  focus rw[eX kL _]
  focus change VO _ A.Z8 (kg (.VG I)>>=_) _ _ s
  apply aA (wpAny_pyNext_tuple_end f N (gg (J _ _ X Y v)) (ZV _ _ (by rw[D];show e8 _)) λh' Z=>?_);rw[cV] at S U;apply aA (aD (aD (W _ F (λb o a0 a1 e=>Z b o a0 e) {VC,VC} ?_ S U)));let(o,es,a2,g,r):=Q;show{o,es,a2,Z _ _ l g,r}
 |Wh m a3=>
  intro i s F H J K L N Q S U W j;letI a4:i<xs.V0:=qq6 H;letI X:T≠I:=λe=>by rw[e,K] at v;cases v
  letI Y:T≠d:=λe=>by rw[e,L] at v;cases v
  letI a5:xs[i]?=V1 xs[i]:=aI a4;let(B,C,t,u,a6,a7):=hi i _ a5;letI a8:B≠I:=λe=>by rw[e,K] at a7;cases a7
  letI a9:B≠d:=λe=>by rw[e,L] at a7;cases a7
  apply fJ rJ ?_
  focus rw[eX kL _]
  focus change VO _ A.Z8 (kg (.VG I)>>=_) _ _ s
  apply aA (wpAny_pyNext_tuple_item N (gg (J _ _ X Y v)) a6 λh' aa ab=>?_)
  letI ac:h'.DictOf (iS VM w) d F:=by let(o,es,a2,g,r):=Q;show{o,es,a2,(ab.2 _ l).V7 g,r}
  letI ad:h'.VT B=V1 (iP #[.Vn xs[i].1 t,.Vl xs[i].2 u] C):=(ab.2 _ a8).V7 (J _ _ a8 a9 a7)
  letI ae:F.V0=i:=by letI:=VN j7 S;rw[aE,aE,dF,iQ (bZ a4)] at this;show this
  letI Y0:xs[i].1∉F.VP (·.1):=λq=>by rw[S] at q;let(y,af,ag):=aK.mp q;let(k,ah,VC):=j6.mp af;rw[dF,iQ (bZ a4)] at ah;rw[V2.getElem_take] at ag;letI:=fB.mp z k i (by rw[aE];show ir [{2,.p .a (.p .b (.n 1)),.c},{1,.d,.a}] {1,.d,.c} [1,1,0,1] [] tt H ah) (by rw[aE];show a4) ah;rw[V2.getElem_map,V2.getElem_map] at this;show this ag
  apply aA (dz (aA (wpAny_tryCatch ?_)))
  focus unfold WA.Dict.pairItems
  apply aA (i6 (T:="tuple") {_,ad,VC} ?_)
  focus rw[Vw (by show rfl)]
  apply aA (gA ad rfl (aD (dz ?_)));letI ai:=bJ;apply wpAny_dictSet_pairs (Xk:=iS VM w) (strKind_is VM w xs[i].1 t) ac (λaj ak al=>?_) (A4 [{0,.a,.n 1000},{2,.p .b (.p .c (.n 1)),.a},{2,.d,.b},{2,.e,.n 16777216}] {0,.d,.e} [16777216,16777216,16777216,0,16777216,0,0,999] [] tt hz H ae ai);rw[stored_absent (valueAt_none_of_not_mem Y0)] at ak;letI am:aj.IsTupleIter I T (i+1):=by let(o,g,r):=aa;show{o,(al.2 _ (fP l)).V7 g,r}
  apply aD {j3 kL _,a3 (i+1) {s with V5:=aj,WJ:=s.WJ+1} _ (qq3 H) (λb o a0 a1 e=>(al.2 _ a1).V7 ((ab.2 _ a0).V7 (J b o a0 a1 e))) K L am ak ?_ (λι h=>?_) (λs' G an ao ap aq ar=>W s' G (λb o a0 a1 e=>an b o a0 a1 ((al.2 _ a1).V7 ((ab.2 _ a0).V7 e))) {ao.Xq,ao.os} ap aq ar) _}
  .rw[cF,a5,bD,bD,S];rfl
  .rw[cF,a5,bD,bD];show(U ι h).WX (.Ws {_,VC})
def aQ.dictP {xs:V2 (Vm×Vo)} (a:(xs.VP (·.1)).WF) (hz:xs.V0<=100) (p:P (.VG M.V0) (M++[.WD (fO (kdS c.VM c.w) (xs.VP λx=>(x.1,V.Vl x.2)))])):aQ c n (.W5 "dict") [.Vj (xs.VP λx=>.Vj [.Vn x.1,.Vl x.2])] M P:=λA ι s d f G r Q E q=>by
 let(rv,VC,h):=r.Zb;clear r;let(T,VL,n0,VC,no,j,l):=h;apply eV (callType_codes (Q₁:=λZA m=>ZA=.VG s.V5.VJ.VA/\m={s with V5:=s.V5.Vp {Z9:=.W5 "dict",Xu:=.WD #[]}}) F.kt_called_dict (F.kt_typeCall_dict_1 _) F.entry_dict_init (kt_code_dict_new _ {VC,VC}) ?_);rintro ZA m ⟨VC,VC⟩;letI y:(s.V5.Vp {Z9:=.W5 "dict",Xu:=.WD #[]}).DictOf (iS c.VM c.w) s.V5.VJ.VA []:=WH.DictOf.new s.V5;apply fq y.Yf (F.args_dict_init_2 _ _) ?_
 focus unfold WA.«dict.__init__»
 apply aA ?_
 focus unfold WA.Dict.selfAndRest
 apply aA (wh y.Yf ?_)
 focus change VO _ _ (X3 (s.V5.VJ.VA,[ki T])) _ _ _
 apply aD ?_
 focus change VO _ _ (WA.Dict.updateFrom "dict.__init__" s.V5.VJ.VA (.VG T) [] .V8) _ _ _
 focus unfold WA.Dict.updateFrom
 letI up1:∀b o,s.V5.VT b=V1 o->(s.V5.Vp {Z9:=.W5 "dict",Xu:=.WD #[]}).VT b=V1 o:=λb o e=>aJ _ e;apply aA (i6 (T:="tuple") {_,up1 _ _ j,VC} ?_)
 focus rw[Vw (by show rfl)]
 apply aA (AS (up1 _ _ j) f.hd λz B C=>?_)
 focus rw[Vw (by rfl)]
 apply aA (g5 (aA (wpAny_pyIter_tuple (gg (C _ _ (up1 _ _ j))) (aD {j3 kL _,?_}))));letI D:s.V5.VT s.V5.VJ.VA=V8:=ku
 letI H:s.V5.VJ.VA<z.VJ.VA:=by let(o,_,_,g,_):=y;show bM (C _ _ g)
 letI I:∀(i:V9) x,xs[i]?=V1 x->∃J K t u,VL[i]?=V1 (.VG J)/\s.V5.VT J=V1 (iP #[.Vn x.1 t,.Vl x.2 u] K):=λi x L=>by let(v,N,rv):=l.ZN (i:=i) (x:=.Vj [.Vn x.1,.Vl x.2]) (by rw[bC,L];rfl);let(J,K,t,u,VC,g):=vh (p:=x) rv;show T3 J K t u (by rw[<-aZ];show N) g
 letI R:VL.VA=xs.V0:=by letI:=l.V0;rw[aE,cA] at this;show this
 apply JX (VM:=c.VM) (w:=c.w) (A:=A.Z8) (T:=T) (h0:=s.V5) (n0:=n0) f.hd (cK H) j a (aG hz (by decide)) I R xs.V0 0 {s with V5:=z.Vp {Z9:=.W5 "tuple_iterator",Xu:=.WG #[.VG T,.Vl 0 0]},WJ:=B} [] (fj _) (λb o _ _ e=>aJ _ (C _ _ (up1 _ _ e))) ?_ D {{Z9:=.W5 "tuple_iterator",Xu:=.WG #[.VG T,.Vl 0 0]},aP _ rfl,VC,VC} ?_ rfl (λ_ _=>.VH) (λs' S U W X Y Z=>?_) 0
 .show wX (bZ H)
 .let(o,es,a0,g,r):=y;show{o,es,a0,aJ _ (C _ _ g),r}
 apply{VC,λa1=>?_};letI k:∀b o,s.V5.VT b=V1 o->s'.V5.VT b=V1 o:=λb o e=>U b o (cK (jy (bM e) H)) (cK (bM e)) (aJ _ (C _ _ (up1 _ _ e)));let(o,a2,a0,g,_):=id X;let(st,a3):=G.Vp (c:=s.V5.VJ.VA) (aM _) (bM g) k λst=>Em (Vf:=xs.VP λx=>(x.1,V.Vl x.2)) X (by rw[Y,cB];rfl) (by rw[cB];show Z _ _);apply q _ _ _ _ st a3 {W.Xq,W.os} (aV _ ?_ p);show{_,fX G.Wz,VC}
end
end
mutual open Nat
abbrev itf (N:V9):V9->V9->V9
 |0,x=>x
 |k+1,x=>itf N k ((x*5+1) % N)
def Dq {N:V9}:∀a b x,itf N (a+b) x=itf N b (itf N a x):=λa=>by
 induction a with
 |WM=>intro b x;rw[fj];rfl
 |Wh a c=>intro b x;rw[V9.succ_add];show c b _
abbrev NY (N:V9):V9->V9->V9->V9×V9
 |0,x,acc=>(x,acc)
 |k+1,x,acc=>NY N k ((x*5+1) % N) (acc|||2^x)
def Rn {N:V9}:∀k x a,(NY N k x a).1=itf N k x:=λk=>by
 induction k with
 |WM=>show λ_ _=>rfl
 |Wh k b=>show λx a=>b _ _
def Rm {N:V9}:∀k x a t,(NY N k x a).2.testBit t=V6->a.testBit t=V6\/∃m,m<k/\itf N m x=t:=λk=>by
 induction k with
 |WM=>show λ_ _ _ h=>.XB h
 |Wh k b=>
  intro x a t h;rcases b _ _ t h with h|⟨m,h1,h2⟩
  .rw[V9.testBit_or,gM] at h;apply h.imp id λh=>aV 0 (di _) ?_;rw[V9.testBit_two_pow] at h;show W1 h
  .show .Wt (aV (m+1) (V9.succ_lt_succ h1) h2)
abbrev uh:V2 V9:=[7,15,31,63,127,255,511]
def N4:∀m∈uh,NY (m+1) (m+1) 0 0=(0,2^(m+1)-1):=by decide +kernel
def OW {M:V9} (d:M∈uh) {i t:V9} (hi:i<=M) (f:t<=M):∃m,m<=M/\itf (M+1) m i=t:=by
 have h:=N4 M d;have z:itf (M+1) (M+1) 0=0:=by show eZ (Rn (M+1) 0 0).Vh (VN _ (h))
 letI c:∀{t},t<=M->∃m,m<=M/\itf (M+1) m 0=t:=λ{t} f=>by have:=Rm (N:=M+1) (M+1) 0 0 t (by rw[h,V9.testBit_two_pow_sub_one];show Vs (V9.lt_succ_of_le f));rw[V9.zero_testBit] at this;let(m,a,b):=this.Xc (λe=>nomatch e);show{m,gj a,b}
 let(a,g,j):=c hi;let(b,k,o):=c f;rcases kO a b with q|q
 .show{b-a,aG (nO _ _) k,by rw[<-j,<-Dq,fH q,o]}
 .by_cases e:a=b
  .show{0,dP _,by rw[<-o,<-e,j];rfl}
  apply aV (M+1+b-a) (bY [.l V3 (.v 0) (.v 1),.N (.e V3 (.v 1) (.v 0))] (.l V3 (.s (.p (.p (.v 2) (.n 1)) (.v 0)) (.v 1)) (.v 2)) [[0,0,1,1],[0,1,0,1],[0,1],[0,1]] tt [_,_,_] [] q e) ?_;rw[<-j,<-Dq,show a+(M+1+b-a)=M+1+b by show bY [.l V3 (.v 0) (.v 1)] (.e V3 (.p (.v 0) (.s (.p (.p (.v 1) (.n 1)) (.v 2)) (.v 0))) (.p (.p (.v 1) (.n 1)) (.v 2))) [[0,1],[0,1],[1,1],[0,1,1]] tt [_,_,_] [] g,Dq,z,o]
abbrev qo (M:V9):V9->V9×V9->V9×V9
 |0,p=>p
 |k+1,p=>qo M k (ud M p.1 p.2)
def Cd {M:V9}:∀a b p,qo M (a+b) p=qo M b (qo M a p):=λa=>by
 induction a with
 |WM=>intro b x;rw[fj];rfl
 |Wh a c=>intro b x;rw[V9.succ_add];show c b _
def JJ {M:V9}:∀k p,(qo M k p).2=p.2/32^k:=λk=>by
 induction k with
 |WM=>intro p;show(V9.div_one _).Vh
 |Wh k a=>intro p;show(a _).V7 (by rw[V9.pow_succ',<-V9.div_div_eq_div_mul];rfl)
def GD {M:V9}:∀k i,qo M k (i,0)=(itf (M+1) k i,0):=λk=>by
 induction k with
 |WM=>show λ_=>rfl
 |Wh k a=>
  intro i
  focus change qo M k (ud M i 0)=_
  focus unfold ud
  focus rw[V9.zero_div,yV]
  show a _
def H9 {M i p:V9}:(ud M i p).1<=M:=gj (qd _ (di _))
def Cc {M:V9} (c:M∈uh) {i p t:V9} (d:p<2^64) (f:t<=M):∃m,m<=M+13/\(qo M m (i,p)).1=t:=by
 have e:qo M 13 (i,p)=((qo M 13 (i,p)).1,0):=J6 rfl (by
  rw[JJ];show V9.div_eq_of_lt (jy d (by decide)))
 have l:(qo M 13 (i,p)).1<=M:=by rw[show 13=12+1 from rfl,Cd];show H9
 let(m,g,h):=OW c l f;show{13+m,dX [{0,.a,.b}] {0,.p (.n 13) .a,.p .b (.n 13)} [1,1] [] tt g,by rw[Cd,e,GD];show h}
abbrev nt (t:Vr):V9->Vr.Probe->Prop
 |0,p=>p.j<=t.YD/\t.ZU p.j=.Zm
 |k+1,p=>p.j<=t.YD/\(t.ZU p.j=.Zm\/nt t k (t.advance p))
def nt.le {t:Vr} {k:V9} {p} (h:nt t k p):p.j<=t.YD:=by cases k<;>show h.1
def nt.ZH {t:Vr} {k:V9}:∀(m:V9) (p:Vr.Probe),p.more=m->p.j+m<=t.YD->nt t k (t.advance {p with j:=p.j+m,more:=0})->nt t (k+m+1) p:=λm=>by
 induction m with
 |WM=>
  intro p e l h;let(j,m,i,u,d):=p;cases e;show{l,.Wt h}
 |Wh m c=>
  intro p e l h;apply{aG (cR _ _) l,.Wt ?_}
  have q:t.advance p={p with j:=p.j+1,more:=m}:=by
   focus unfold xj
   rw[Vw (by rw[e];show di _),e];rfl
  have z:p.j+(m+1)=p.j+1+m:=dX [] {2,.p .a (.p .b (.n 1)),.p (.p .a (.n 1)) .b} [1] [1] tt;rw[q];rw[z] at h l;show c _ rfl l h
def nt.W9 {t:Vr}:∀{k m:V9} {p},nt t k p->k<=m->nt t m p:=λ{k}=>by
 induction k with
 |WM=>intro m p h _;cases m with
  |WM=>show h
  |Wh m=>show{h.1,.XB h.2}
 |Wh k a=>
  intro m p h l;cases m with
  |WM=>show Vy l (V9.not_succ_le_zero _)
  |Wh m=>show{h.1,h.2.imp id λh=>a h (jz l)}
abbrev Q8 (M:V9) (p:V9×V9):Vr.Probe:={j:=p.1,more:=iH M p.1-p.1,i:=p.1,perturb:=p.2,dummy:=V8}
def Rp {M i:V9}:iH M i-i<=9:=by
 unfold iH;split
 .rw[ic];show aM _
 .rw[iA];show dP _
def NZ {M i:V9} (h:i<=M):i+(iH M i-i)<=M:=by
 unfold iH;split
 .rw[ic];assumption
 .rw[iA];show h
def Es {t:Vr}:∀(m:V9) (p:V9×V9),p.1<=t.YD->t.ZU (qo t.YD m p).1=.Zm->nt t (10*m) (Q8 t.YD p):=λm=>by
 induction m with
 |WM=>show λp l h=>{l,h}
 |Wh m c=>
  intro p l h;show nt.W9 (nt.ZH (k:=10*m) (iH t.YD p.1-p.1) (Q8 t.YD p) rfl (NZ l) (c _ H9 h)) (by have:=Rp (M:=t.YD) (i:=p.1);show dX [{0,.a,.n 9}] {0,.p (.p (.m 10 .b) .a) (.n 1),.m 10 (.p .b (.n 1))} [1,1] [] tt this)
def yy {t:Vr} (nd:t.dummies=#[]) (j:V9):(t.XI[dD t.XI j]?=V1 j/\t.ZU j=.live (dD t.XI j))\/(t.XI[dD t.XI j]?≠V1 j/\t.ZU j=.Zm):=by
 focus unfold Vr.ZU
 rw[nd];by_cases h:t.XI[dD t.XI j]?=V1 j
 .show .XB {h,Vw (VV.WO h)}
 .apply .Wt {h,?_}
  focus change(if _ then _ else if _ then _ else _)=_
  rw[Vd (λq=>h (VV.mp q))];rfl
def EA {t:Vr} {ha:V9->Vo} {h:Vo} (nd:t.dummies=#[]):∀(Xe k:V9) (p:Vr.Probe),k<Xe->p.dummy=V8->nt t k p->
    (∃j,fQ t ha h Xe p=V1 (.Zm j V8)/\t.ZU j=.Zm/\j<=t.YD)\/
    ∃j i next k',fQ t ha h Xe p=V1 (.candidate j i next)/\t.ZU j=.live i/\next.dummy=V8/\k'<k/\nt t k' next:=λXe=>by
 have adv:∀p:Vr.Probe,(t.advance p).dummy=p.dummy:=λp=>by unfold xj;split<;>rfl
 induction Xe with
 |WM=>intro k p l;show Vy l (lU _)
 |Wh Xe g=>
  intro k p l m R;cases e:t.ZU p.j with
  |Zm=>
   show .XB (g6 p.j (by rw[HP e,m]) e R.le)
  |dummy=>rcases yy nd p.j with h|h<;>rw[h.2] at e<;>cases e
  |live i=>
   cases k with
   |WM=>rw[R.2] at e;cases e
   |Wh k=>
    have R':nt t k (t.advance p):=R.2.Xc λq=>by rw[q] at e;cases e
    rcases HO (ha:=ha) (h:=h) (k:=Xe) e with w|w
    .show .Wt (Sj p.j i _ k w e ((adv p).V7 m) (cC _) R')
    .rw[w];rcases g k _ (f5 l) ((adv p).V7 m) R' with h|⟨j,i,nx,k',a,b,c,d,f⟩
     .show .XB h
     .show .Wt (Sj j i nx k' a b c (q6 d) f)
def SR {xs:VW V9} (h:Up xs.VD):∀i (l:i<xs.VA),i<=xs[i]:=λi=>by
 induction i with
 |WM=>show λ_=>dP _
 |Wh i a=>
  intro l;have:=fB.mp h i (i+1) (fM l) l (cC i);show dW (a (fM l)) (by simpa using this)
def E7 {t:Vr} (a:Up t.XI.VD) (nd:t.dummies=#[]):∃j,j<=t.XI.VA/\t.ZU j=.Zm:=by
 have ex:∃k,k<=t.XI.VA/\t.XI[k]?≠V1 k:={_,aM _,by rw[ZV t.XI _ (e8 _)];show λe=>(by cases e)};let(k,b):=ex
 induction k using jD with
 |ind k c=>
  by_cases z:∃m,m<k/\m<=t.XI.VA/\t.XI[m]?≠V1 m
  .let(m,d,f):=z;show c m d f
  .have lo:∀m,m<k->t.XI[m]?=V1 m:=λm d=>fU λq=>z (g6 m d (aG (bZ d) b.1) q);apply aV k b.1 ((yy nd k).W2 (λh=>?_) λh=>h.2);exfalso;clear z c;generalize dD t.XI k=p at h;let(g,e):=fR.mp h.1;rcases V9.lt_trichotomy p k with q|q|q
   .rw[lo p q] at h;show Vy (cG h.1) (cK q)
   .clear e g lo;subst q;show b.2 h.1
   .have:=fB.mp a k p (jy q g) g q;rw[gC,gC,e] at this;show Vy this (iI.WO (SR a k (jy q g)))
structure OwnOK (M:V9) (o:VW (VK V9)) (k:V9):Prop where
 VA:o.VA=M+1
 YW:(o.VD.Wx id).X7 (cD k)
def MK {l:V2 (VK V9)} (h:∀x∈l,x≠V8):(l.Wx id).V0=l.V0:=by
 induction l with
 |VH=>rfl
 |V4 x l a=>
  cases x with
  |V8=>show Vy rfl (h _ (.WI _))
  |V1 x=>rw[V2.filterMap_cons_some (f:=id) (b:=x) rfl,cW,cW,a λy c=>h y (.XW _ c)]
def OwnOK.Yd {M o k} (h:OwnOK M o k) (c:k<=M):∃j,j<=M/\o[j]?=V1 V8:=by
 apply fU λno=>?_
 have:∀x∈o.VD,x≠V8:=λx d e=>by let(j,f,g):=j6.mp d;have hj':j<o.VA:=f;apply no (aV j (by rw[h.VA] at hj';show gj hj') ?_);rw[Wr o j hj'];rw[gC] at g;rw[g,e]
 have l:=h.YW.WZ;rw[MK this,cA,h.VA,jM] at l;show dX [{0,.a,.b},{2,.p .b (.n 1),.a}] {5,.n 0,.n 0} [1,1,1] [] tt c l
def getD_none {o:VW (VK V9)} {j:V9}:(o.Wn j (V1 0)).XQ=V6↔o[j]?=V1 V8:=by
 unfold wz;split
 .rename_i l
  rw[Wr o j l];constructor
  .intro e;show VN V1 (dG.mp e)
  .intro e;show dG.WO (cG e)
 .rename_i l
  rw[ZV o j l];show{λe=>(by cases e),λe=>(by cases e)}
def free_ok {M:V9} {o:VW (VK V9)}:∀(Xe m i p:V9),m<Xe->o[(qo M m (i,p)).1]?=V1 V8->∃j,iL M o Xe i p=V1 j/\o[j]?=V1 V8:=λXe=>by
 induction Xe with
 |WM=>show λm _ _ l=>Vy l (lU _)
 |Wh Xe a=>
  intro m i p l h
  focus conv in (occs:=*) iL .. =>all_goals whnf
  cases e:(cD (iH M i+1-i)).ZS λk=>(o.Wn (i+k) (V1 0)).XQ with
  |V1 k=>show aV (i+k) rfl (getD_none.mp (Bv (p:=λk=>(o.Wn (i+k) (V1 0)).XQ) e))
  |V8=>
   cases m with
   |WM=>
    exfalso
    have:=xr.mp e 0 (gG.WO (by
     unfold iH;split
     .show iU (V9.lt_succ_of_le (cR i 9))
     .show iU (cC i)))
    show this (getD_none.WO h)
   |Wh m=>show a m _ _ (f5 l) h
def KL {l:V2 (VK V9)} {j k:V9} (h:l[j]?=V1 V8):((l.Wb j (V1 k)).Wx id).X7 (l.Wx id++[k]):=by
 let(a,e):=aB.mp h
 have s:l=l.WU j++V8::l.XV (j+1):=by
  have:=(gm j l).Vh
  rwa[kQ a,e] at this
 rw[V2.set_eq_take_append_cons_drop,Vw a]
 conv=>rhs;rw[s]
 rw[V2.filterMap_append,V2.filterMap_append,V2.filterMap_cons_some (f:=id) (b:=k) rfl,V2.filterMap_cons_none (f:=id) rfl,aR];show f9 _ (fc (l₁:=[k]))
def IL (h:Vo):gQ h<2^64:=(Vo.toNat_lt (Vo.emod_nonneg _ (by decide))).WO (Vo.emod_lt_of_pos _ (by decide))
def Mf {M:V9} (d:M∈uh) {f:VK (VW (VK V9)×V9)->Vo->VK (VW (VK V9)×V9)}
    (e:∀o k x j,iL M o (jH M) (gQ x % (M+1)) (gQ x)=V1 j->f (V1 (o,k)) x=V1 (o.YV j (V1 k),k+1)) (l:V2 Vo):∀(o:VW (VK V9)) (k:V9),OwnOK M o k->k+l.V0<=M->
    ∃o',l.foldl f (V1 (o,k))=V1 (o',k+l.V0)/\OwnOK M o' (k+l.V0):=by
 induction l with
 |VH=>show λo k h _=>{o,VC,h}
 |V4 x l g=>
  intro o k h q;rw[cW] at q;let(t,r,s):=h.Yd (fG [{0,.p .a (.p .b (.n 1)),.c}] {0,.a,.c} [1,1] [] tt q);let(m,u,v):=Cc d (i:=gQ x % (M+1)) (IL x) r;let(j,w,y):=free_ok (jH M) m _ _ (by show dX [{0,.a,.p .b (.n 13)}] {1,.a,.p .b (.n 15)} [1,1] [] tt u) (by rw[v];show s)
  let(o',a,b):=g (o.YV j (V1 k)) (k+1) ⟨by rw[lG];show h.VA,by
   rw[jV,jB];show(KL (by rw[aZ];show y)).V7 (h.YW.YR _)⟩ (fG [{0,.p .a (.p .b (.n 1)),.c}] {0,.p (.p .a (.n 1)) .b,.c} [1,1] [] tt q)
  apply{o',?_,by rw[cW,kP l.V0,<-gq];show b};rw[tO,e _ _ _ _ w];rw[cW,kP l.V0,<-gq];show a
def OR {M:V9} (c:M∈uh) {f:VK (VW (VK V9)×V9)->Vo->VK (VW (VK V9)×V9)} {g:VW (VK V9)×V9->VW (VK V9)}
    (d:∀o k x j,iL M o (jH M) (gQ x % (M+1)) (gQ x)=V1 j->f (V1 (o,k)) x=V1 (o.YV j (V1 k),k+1)) (e:∀p,g p=p.1) {l:V2 Vo} {o:VW (VK V9)} (h:OwnOK M o 0) (i:l.V0<=M):
    ∃o',v8 g (l.foldl f (V1 (o,0)))=V1 o'/\OwnOK M o' l.V0:=by let(o',a,b):=Mf c d l o 0 h (by rw[fj];show i);rw[fj] at b;show aV o' (by rw[a];show VN V1 (e _)) b
def Gb {o:VW (VK V9)} {n:V9} (h:o.VA=n):(cD n).VP (λj=>o.Wn j V8)=o.VD:=by apply V2.ext_getElem (by simp[h]) λi a b=>?_;simp at a b;simp[wz,b]
def OV {M f m:V9} {ld pl:VS} (a:M∈uh) {hs:VW Vo} (hz:hs.VA<=M):∃t o,ue M f m ld pl hs=V1 (t,o)/\t.YD=M/\t.dummies=#[]/\t.led=ld/\t.XI.VA=hs.VA/\(∀p∈t.XI.VD,p<=M)/\o.VD.X7 (cD hs.VA):=by
 obtain⟨o',c,b⟩:∃o',v5 M hs=V1 o'/\OwnOK M o' hs.VD.V0:=by
  focus unfold v5
  rw[<-VW.foldl_toList];show OR a (λo k x j e=>by show(VN (λq=>VK.bind q _) e:VK.bind (iL M o (jH M) (gQ x % (M+1)) (gQ x)) _=_)) (λ_=>rfl) {by show V2.length_replicate,by simp} (by show hz)
 have e2:((cD (M+1)).Wx λj=>(o'.Wn j V8).VP (j,·)).VP (·.2)=o'.VD.Wx id:=by
  rw[<-Gb b.VA,V2.filterMap_map,V2.map_filterMap];apply VN (λf=>DO f _) (funext λj=>?_)
  focus change v8 _ (v8 _ (o'.Wn j V8))=o'.Wn j V8
  cases o'.Wn j V8<;>rfl
 have e3:=VN j7 e2;rw[aE,b.YW.WZ,jM] at e3;apply Uz _ _ (by unfold ue;rw[c];rfl) rfl rfl rfl ?_ (λp d=>?_) ?_
 .focus change(rS _ _).WE.VA=_
  rw[qH,aE];show e3
 .have d:p∈rS (·.1) ((cD (M+1)).Wx λj=>(o'.Wn j V8).VP (j,·)):=d;let(q,g,VC):=aK.mp d;clear d;clear d pl ld m f;let(j,h,e):=V2.mem_filterMap.mp g;clear g;let(x,_,VC):=fz.mp e;show gj (gG.mp h)
 .focus change(rS _ _).X7 _
  rw[e2];show b.YW
def F5:∀n∈cD 512,uD n-1∈uh/\n<uD n:=by decide +kernel
end
section
open PySem.SeqAt (EqAt RcAt RcNeAt)
mutual open Nat
structure TabN (w:XA) (t:Vr) (n:V9):Prop where
 tab:Ze w t
 YD:t.YD∈uh
 nd:t.dummies=#[]
 le:∀p∈t.XI.VD,p<=t.YD
 VA:t.XI.VA=n
 room:n<=t.YD
def zS:∀m∈uh,(m % 2==0)=V3/\7<=m/\m<=511:=by decide
def TabN.fill {w t n} (h:TabN w t n):t.fill=n:=by unfold Vr.fill;rw[h.nd,h.VA];rfl
def TabN.fit {w t n} {es:VW (Vo×VE)} (h:TabN w t n) (e:es.VA=n):pY w es t:={h.VA.V7 e.Vh,by rw[h.fill];show h.room,ve h.tab.up,h.tab.led}
variable {ι:V2 Vc}
def zI:∀(d:V9) (v:V) (rv:VE) (Q:VS->VI->Prop),dep v<=d->f6 v=V6->WV ι s.V5 v rv->Q V3 s->VO (Vg VM w) A (BX d rv) Q E s:=λd=>by
 induction d with
 |WM=>
  intro v rv Q b c r h;apply nU (P:=λv=>dep v<=0->WV ι s.V5 v rv->VO (Vg VM w) A (BX 0 rv) Q E s) c (λi _ r=>?_) (λi _ r=>?_) (λxs _ b _=>nomatch b) b r
  .let(t,VC):=r;show(aD h:VO _ _ (X3 V3) _ _ _)
  .let(t,VC):=r;show(aD h:VO _ _ (X3 V3) _ _ _)
 |Wh d e=>
  intro v rv Q b c r h;apply nU (P:=λv=>dep v<=d+1->WV ι s.V5 v rv->VO (Vg VM w) A (BX d.Wh rv) Q E s) c (λi _ r=>?_) (λi _ r=>?_) (λxs c b r=>?_) b r
  .let(t,VC):=r;show(aD h:VO _ _ (X3 V3) _ _ _)
  .let(t,VC):=r;show(aD h:VO _ _ (X3 V3) _ _ _)
  .let(a,VL,k,VC,no,f,g):=r
   set_option smartUnfolding false in focus change VO _ _ (DR (.VG a)>>=_) _ _ _
   apply aA (i6 (T:="tuple") {_,f,VC} (wpAny_ite_true rfl (aA (aD (uZ rfl (aA (gA f rfl (aA ?_))))))))
   focus change VO _ _ (forIn VL _ _) _ _ s
   rw[<-pR];apply BL (λv hv _=>?_) (aD h);let(i,hi):=eT.mp hv;let(x,j,l):=g.getR hi;have j:=aF j
   set_option smartUnfolding false in
   show aA (e x v _ (aG (sC x j) (jz b)) (gW c x j) l (uZ rfl (aD {VC,VC})))
def KQ {VL:V2 VE} {f:VE->VK VS×Yn->ZD (Y4 (VK VS×Yn))} {Q:VK VS×Yn->VI->Prop}
    (a:∀x∈VL,∀r,VO (Vg VM w) A (f x r) (λ_ s'=>s'=s) E s) (h:∀r,Q r s):VO (Vg VM w) A (forIn VL (V8,()) f) Q E s:=by apply eN (oU _ (λb r s'=>s'=s/\∀v∈b,v∈VL) (λ_ s'=>s'=s) (λv b r s'=>?_) (λr s' h=>h.1) _ _ ⟨VC,λv hv=>hv⟩) (λr s' e=>e▸h r) λ_ _ h=>h;rintro⟨VC,g⟩;show eN (a v (g v cP) _) (by rintro y _ rfl;cases y;show rfl;show⟨VC,λu c=>g u (bN _ c)⟩) λ_ _ h=>h
def J1:∀(d:V9) (v:V) (rv:VE) (Q:VS->VI->Prop),f6 v=V6->WV ι s.V5 v rv->(∀b,Q b s)->VO (Vg VM w) A (QY d rv) Q E s:=λd=>by
 induction d with
 |WM=>
  intro v rv Q c r h;apply nU (P:=λv=>WV ι s.V5 v rv->VO (Vg VM w) A (QY 0 rv) Q E s) c (λi r=>?_) (λi r=>?_) (λxs _ r=>?_) r
  .let(t,VC):=r;show aD (h _)
  .let(t,VC):=r;show aD (h _)
  .let(a,VL,k,VC,_):=r;show aD (h _)
 |Wh d e=>
  intro v rv Q c r h;apply nU (P:=λv=>WV ι s.V5 v rv->VO (Vg VM w) A (QY (d+1) rv) Q E s) c (λi r=>?_) (λi r=>?_) (λxs c r=>?_) r
  .let(t,VC):=r;show aD (h _)
  .let(t,VC):=r;show aD (h _)
  .let(a,VL,k,VC,no,f,g):=r;apply aA (mH (T:="tuple") {_,f,VC} F.slot_tuple_hash.VY ?_);apply aA (gA f rfl (aA ?_))
   focus change VO _ _ (forIn VL _ _) _ _ s
   rw[<-pR];apply KQ (λv hv _=>?_) (λr=>?_)
   .let(i,hi):=eT.mp hv;let(x,j,l):=g.getR hi;apply aA (e x v _ (gW c x (aF j)) l λb=>?_);cases b<;>show aD rfl
   .let(m,_):=r;cases m<;>show aD (h _)
def Rk (m:ZG q) {x:V} {d:VE} (f:q x=V6) (r:WV ι s.V5 x d) {Q:VS->VI->Prop} (h:Q V3 s):∀l:V2 VE,(∀v∈l,∃y,q y=V6/\WV ι s.V5 y v)->VO (Vg VM w) A (searchCouldBeSeen d l) Q E s:=λl g=>by
 apply aA (eN (oU _ (λi (r:VK VS×Yn) s'=>r=(V8,())/\s'=s/\∀v∈i,∃y,q y=V6/\WV ι s.V5 y v) (λr s'=>r=(V8,())/\s'=s) ?_ (λ_ _ h=>{h.1,h.2.1}) _ _ (fq rfl rfl g)) ?_ λ_ _ e=>e)
 .clear g l h Q;rintro v i c s' ⟨VC,VC,hall⟩;let(y,j,k):=hall v (.WI _);let(xs,n):=m.Vj x f;let(ys,o):=m.Vj y j;have r':=r;have ry':=k;rw[n] at r';rw[o] at ry';let(a,_,_,VC,_):=r';let(b,_,_,VC,_):=ry';apply gT (λ_=>aD (fq rfl rfl λv hv=>hall v (.XW _ hv))) λ_=>?_;apply aA (C3 8 x _ _ (m.dep x f) (m.Yh x f) r ?_)
  focus rw[Vd (by decide)]
  apply aA (C3 8 y _ _ (m.dep y j) (m.Yh y j) k ?_)
  focus rw[Vd (by decide)]
  apply aA (zI 8 x _ _ (m.dep x f) (m.Yh x f) r ?_)
  focus rw[Vd (by decide)]
  apply aA (zI 8 y _ _ (m.dep y j) (m.Yh y j) k ?_)
  focus rw[Vd (by decide)]
  show aD (fq rfl rfl λv hv=>hall v (.XW _ hv))
 .clear r d;clear g l;rintro c s' ⟨VC,VC⟩;show aD h
end
end
section
open PySem.SeqAt (EqAt RcAt RcNeAt)
variable {ι:List Addr} {a:Addr} {es:Array (Int×Value)} {ep:Nat} {t:SetTable} {ys:List V} {x:V} {rx:Value}
mutual open Nat
def r9 {Q:(VW (Vo×VE)×V9×Vr)->VI->Prop} (g:s.V5.VT a=V1 (jO es ep t)) (b:pY w es t) (h:Q (es,ep,t) s):VO (Vg VM w) A (setState a) Q E s:=
 BB g rfl (by unfold uf;rw[b.1,Wk,Vs b.2.1];rfl) h
def Je {v:VE} {Q:VS->VI->Prop} (hv:∃b,v=.VG b) (h:Q V6 s):VO (Vg VM w) A (isSame v v) Q E s:=by let(b,VC):=hv;show wpAny_isSame_ref_self h
def ZG.ref_ (m:ZG q) (c:q x=V6) (r:WV ι s.V5 x rx):∃b,rx=.VG b:=by let(xs,VC):=m.Vj x c;let(b,_,_,e,_):=r;show{b,e}
def So (m:ZG q) {y:V} {c:VE} (d:q y=V6) (f:q x=V6) (g:WV ι s.V5 y c) (i:WV ι s.V5 x rx) (j:A.Xz+60<9900) {Q:VS->VI->Prop} (h:∀b,(b=V6->y=x)->Q b s):VO (Vg VM w) A (eqBool c rx) Q E s:=
 O9 8 (m.dep y d) (e9 [⟨1,.p .a (.n 60),.n 9900⟩] ⟨1,.p .a (.n 8),.n 9900⟩ [1,1] [] tt j) (m.Yh y d) (m.Yh x f) (m.sim y x d f) g i VM w E Q (h _ λe=>(jj (m.Yh y d)).mp e)
def MB {d:Type} {c:Prop} [Yk c] {m:ZD VS} {u k:ZD d} {Q:d->VI->Prop} (e:∀f:VS->VI->Prop,f V3 s->VO (Vg VM w) A m f E s) (g:VO (Vg VM w) A k Q E s):
    VO (Vg VM w) A (if c then m>>=λb=>if b=V6 then u else k else k) Q E s:=by
 split
 .show aA (e _ (by rw[Vd aO];show g))
 .show g
def Jd (m:ZG q) (g:s.V5.VT a=V1 (jO es ep t)) (c:TabN w t es.VA) (d:cT ι s.V5 ys (es.VD.VP (·.2))) (f:∀y∈ys,q y=V6) (o:q x=V6) (r:WV ι s.V5 x rx) (u:A.Xz+60<9900) {h:Vo} {Q:SetFound->VI->Prop}
    (B:x∈ys->Q (.there V8) s) (C:∀j,j<=t.YD->t.ZU j=.Zm->Q (.Yd j V3) s):∀(Xe k:V9) (st:VK Vr.Probe),k<Xe->k<=10*(t.YD+13)->(st.Wn (t.probeStart h)).dummy=V8->nt t k (st.Wn (t.probeStart h))->
     VO (Vg VM w) A (setSearchFrom a rx h V6 Xe st) Q E s:=λXe=>by
 have hs:=c.fit rfl
 induction Xe with
 |WM=>intro k _ l;show Vy l (lU _)
 |Wh Xe D=>
  intro k st l F G R;apply aA (r9 g hs ?_);apply uZ (by unfold Vr.gaveWay;rw[(zS _ c.YD).1];show rfl) ?_;change VO _ _ (match fQ t (λi=>(es[i]?.VP (·.1)).Wn 0) h (10*jH t.YD) (st.Wn (t.probeStart h)) with|V1 H=>_|x=>_) _ _ _;rcases EA (ha:=λi=>(es[i]?.VP (·.1)).Wn 0) (h:=h) c.nd (10*jH t.YD) k _ (by unfold jH;show dX [{0,.a,.m 10 (.p .b (.n 13))}] {1,.a,.m 10 (.p .b (.n 15))} [1,1] [] tt F) G R with⟨j,e1,e2,e3⟩|⟨j,i,nx,k',e1,e2,e3,e4,e5⟩
  .rw[e1];show aD (C j e3 e2)
  .rw[e1]
   have li:t.XI[i]?=V1 j:=by
    clear e1;rcases yy c.nd j with z|z
    .rw[z.2] at e2;cases e2;show z.1
    .rw[z.2] at e2;cases e2
   letI I:i<es.VA:=by rw[<-c.VA];show(fR.mp li).1
   let(y,J,K):=d.getR (i:=i) (v:=es[i].2) (by rw[bC,aZ,Wr es i I];rfl);have hym:=aF J
   focus dsimp only
   apply MB (λL h0=>Rk m o r h0 _ λv hv=>?_) ?_
   .let(e,M,VC):=aK.mp hv;letI M:=(VW.mem_filter.mp (uo.mp M)).1;let(i,hi):=eT.mp (uo.WO M);let(y,J,K):=d.getR (i:=i) (v:=e.2) (by rw[bC,hi];rfl);show aV y (f y (aF J)) K
   .rw[Wr es i I];apply aA (dz (So m (f y hym) o K r u λb N=>?_));apply aA (r9 g hs ?_);cases b with
    |V6=>show aD (B (N rfl▸hym))
    |V3=>
     focus dsimp only
     rw[Vd (by show aO),show t.sameMemory t.moves t.YD=V1 V6 by unfold Vr.sameMemory;show Vw (Wk _)]
     focus dsimp only
     rw[Vw rfl,e2]
     focus dsimp only
     rw[Wr es i I];apply aA (Je (m.ref_ (f y hym) K) ?_);apply aA (aD ?_);rw[Vw rfl]
     focus dsimp only
     rw[Vd (by show aO)];show D k' (V1 nx) (aY e4 (gj l)) (aG (bZ e4) F) e3 e5
end
end
section
variable {ι:List Addr} {a:Addr} {es:Array (Int×Value)} {ep:Nat} {t:SetTable} {ys:List V} {x:V} {rx:Value}
mutual open Nat
abbrev Pp (w:XA) (ι:V2 Vc) (h:WH) (a:Vc) (ys:V2 V):Prop:=∃es ep t,h.VT a=V1 (jO es ep t)/\cT ι h ys (es.VD.VP (·.2))/\TabN w t es.VA/\es.VA*5<t.YD*3
def Ep {n:V9} (c:TabN w t n) (h:Vo):∃k,k<=10*(t.YD+13)/\nt t k (t.probeStart h):=by let(j,d,e):=E7 c.tab.up c.nd;rw[c.VA] at d;let(m,f,g):=Cc c.YD (i:=gQ h % (t.YD+1)) (IL h) (aG d c.room);show aV (10*m) (dX [{0,.a,.p .b (.n 13)}] {0,.m 10 .a,.m 10 (.p .b (.n 13))} [1,10] [] tt f) (Es m (gQ h % (t.YD+1),gQ h) (gj (qd _ (di _))) (by rw[g];show e))
def KJ {h h':WH} (g:h.VT a=V1 (jO es ep t)) (c:WH.Xm a h h') {d:V2 V} {vs:V2 VE} (r:cT ι h d vs):cT ι h' d vs:=
 r.WL (F:=[a]) ⟨(aV [] (by show(cJ _).Vh) λ_ q=>nomatch q),bX c.1.Vh,λb o e _ n=>(c.2 b λy=>n (by rw[y];show .WI _)).V7 e⟩ λb f o e=>by rw[aC.mp f,g] at e;cases e;rfl
def RX {n j:V9} (c:TabN w t n) (d:n+1<=t.YD) (f:j<=t.YD) (g:t.ZU j=.Zm) (b:VS):TabN w (if b=V6 then (t.YA j).1 else {(t.YA j).1 with plain:=V3}:Vr) (n+1):=by
 have nl:t.XI[dD t.XI j]?≠V1 j:=by
  rcases yy c.nd j with z|z
  .rw[z.2] at g;cases g
  .show z.1
 have pm:=Vr.insertAt_perm t.XI (dD t.XI j) j
 have Yh:∀t':Vr,t'.XI=lS t.XI (dD t.XI j) j->t'.dummies=#[]->t'.YD=t.YD->t'.led=t.led->TabN w t' (n+1):=λt' h i k l=>
  ⟨⟨by rw[h];show BG c.tab.up nl,by rw[l];show c.tab.led⟩,by rw[k];show c.YD,i,λp m=>by
   rw[k];rw[h] at m;rw[pm.X9,eL,aW,aC] at m;show m.W2 (c.le p) λe=>by rw[e];show f,by
   rw[h];have:=pm.WZ;rw[cA,cA,VW.size_push,c.VA] at this;show this,by rw[k];show d⟩
 have nd:(t.YA j).1.dummies=#[]:=by change(if Vr.has t.dummies j=V6 then _ else _)=_;rw[c.nd];rfl
 cases b
 .show Yh _ rfl nd rfl rfl
 .show Yh _ rfl nd rfl rfl
def KX {n:V9} (b:1<=n/\n<=101) (g:s.V5.VT a=V1 (jO es ep t)) (c:TabN w t n) (hz:es.VA=n) {Q:Yn->VI->Prop}
    (h:∀d t',d.VD.X7 es.VD->TabN w t' n->n*5<t'.YD*3->Q () {s with V5:=s.V5.XY a (qc d t')}):VO (Vg VM w) A (setRelay a (iw n)) Q E s:=by
 have gw:iw n=n*4:=by unfold iw;show Vd (by show e9 [{0,.a,.n 101}] {3,.n 50000,.a} [1,1] [] tt b.2)
 rw[gw];let(i,j):=F5 (n*4) (gG.WO (e9 [{0,.a,.n 101}] {1,.q .a 4,.n 512} [1,4] [] tt b.2));have m3:=zS _ i;apply aA (r9 g (c.fit hz) ?_);dsimp only;rw[Vd (by rw[bJ];show iI.WO (aG (V9.sub_le_iff_le_add.mp m3.2.2) (aS rfl)))];let(t',o,e,r,u,y,z,B,C):=OV (f:=t.finger) (m:=t.movedTo (uD (n*4)-1)) (ld:=t.led) (pl:=t.plain) i (hs:=es.VP (·.1)) (by rw[CK];show bY [.e V3 (.v 0) (.v 1),.k V3 (.q (.v 1) 4) (.v 2)] (.l V3 (.v 0) (.s (.v 2) (.n 1))) [[3,4,4,0,1],[1,4,4,0,1]] tt [_,_,_] [] hz j);rw[CK] at z C
 have pe:(o.Wx (es[·]?)).VD.X7 es.VD:=by rw[VW.toList_filterMap];show(C.Wx _).V7 (.of_eq (filterMap_getElem?_range es))
 apply aA ?_;rw[show t.relaid (es.VP (·.1)) (n*4)=V1 (t',o) from e];change VO _ _ (if _ then _ else _) _ _ _;rw[Vd (by rw[show(o.Wx (es[·]?)).VA=es.VA from pe.WZ];simp)];apply aD ?_;have tn:TabN w t' n:={{(Ie e).1,by rw[y];show c.tab.led},by rw[r];show i,u,λp D=>by rw[r];show B p D,z.V7 hz,by rw[r];show bY [.k V3 (.q (.v 0) 4) (.v 1)] (.l V3 (.v 0) (.s (.v 1) (.n 1))) [[3,4,1],[1,4,1]] tt [_,_] [] j};show rZ g rfl (h _ _ pe tn (by rw[r];show bY [.K (.l V3 (.n 1) (.v 0)) (.l V3 (.v 0) (.n 101)),.k V3 (.q (.v 0) 4) (.v 1)] (.k V3 (.q (.v 0) 5) (.q (.s (.v 1) (.n 1)) 3)) [[0,1,7,0,3],[1,0,4,0,1]] tt [_,_] [] b j)) (by rw[show(o.Wx (es[·]?)).VA=es.VA from pe.WZ,hz,bJ];show e9 [{0,.a,.n 101}] {0,.a,.n 16777216} [1,1] [] tt b.2)
end
end
section
variable {ι:List Addr} {a:Addr} {ys:List V} {x:V} {rx:Value}
mutual open Nat
abbrev UH (ys:V2 V) (x:V) (b:V2 V):Prop:=(∀z,z∈b↔z∈ys\/z=x)/\b.V0<=ys.V0+1
def Nt (m:ZG q) (S:Pp w ι s.V5 a ys) (c:∀y∈ys,q y=V6) (d:q x=V6) (r:WV ι s.V5 x rx) (f:A.Xz+60<9900) (hz:ys.V0<=100) {h:Vo} {Q:VS->VI->Prop}
    (i:∀b h' o,WH.Xm a s.V5 h'->Pp w ι h' a o->UH ys x o->Q b {s with V5:=h'}):VO (Vg VM w) A (setAddHashed a rx h) Q E s:=by
 have S0:=S;let(es,u,t,g,B,C,D):=S;letI F:es.VA=ys.V0:=by have:=B.V0;rw[aE,cA] at this;show this
 letI hs:=C.fit rfl;have mz:=zS _ C.YD;let(G,H):=m.ref_ d r;apply dz (aA (r9 g hs ?_))
 focus dsimp only
 rw[Vd (by rw[H];show aO)];let(k,I,J):=Ep C h;apply aA (Jd m g C B c d r f (λL=>?_) (λj M N=>?_) 100000 k V8 (dX [{0,.a,.n 511},{0,.b,.m 10 (.p .a (.n 13))}] {1,.b,.n 100000} [1,10,1] [] tt mz.2.2 I) I rfl J)
 .show aD (i _ s.V5 ys (WH.Xm.Vt a s.V5) S0 {λz=>{.XB,λh=>h.W2 id λe=>e▸L},dg _})
 apply aA (r9 g hs ?_);apply(λ(XR:∀b:VS,_)=>gT (λ_=>aA (J1 8 x rx _ (m.Yh x d) r λb=>XR b)) λ_=>aA (aD (XR V6))) λb=>?_;letI P:=RX C (bY [.k V3 (.q (.v 0) 5) (.q (.v 1) 3)] (.l V3 (.p (.v 0) (.n 1)) (.v 1)) [[3,1]] tt [_,_] [] D) M N b;generalize (if b=V6 then (t.YA j).1 else {(t.YA j).1 with plain:=V3}:Vr)=t1 at P⊢;have pm:=Vr.insertAt_perm es (t.YA j).2 (h,rx);generalize lS es (t.YA j).2 (h,rx)=es1 at pm⊢;rw[eL] at pm;letI R:es1.VA=es.VA+1:=by have:=pm.WZ;rw[aH] at this;show this
 have rl1:cT ι s.V5 (ys++[x]) ((es.VD++[(h,rx)]).VP (·.2)):=by rw[bD];show B.WX (.Ws r)
 have sb1:=dN s.V5 a (qc es1 t1);have g1:(s.V5.XY a (qc es1 t1)).VT a=V1 (jO es1 (u+1) t1):=yE g
 letI T:∀(U:VW (Vo×VE)) W h' X,U.VD.X7 es1.VD->WH.Xm a s.V5 h'->h'.VT a=V1 (jO U X W)->TabN w W (es.VA+1)->(es.VA+1)*5<W.YD*3->Q V6 {s with V5:=h'}:=λU W h' X Y Z a0 a1 a2=>by have sz2:U.VA=es.VA+1:=(show U.VA=es1.VA from Y.WZ).V7 R;let(o,a3,a4):=rl1.YW ((Y.V7 pm).VP (·.2));apply i V6 h' o Z {U,X,W,a0,KJ g Z a4,by rw[sz2];show a1,by rw[sz2];show a2} {λz=>?_,bX (by rw[a3.WZ,aH];rfl)};rw[a3.X9,aW,aC]
 apply aA (rZ g rfl ?_ (by rw[R,bJ];show dX [{0,.a,.n 100},{2,.b,.a}] {0,.p .b (.n 1),.n 16777216} [1,1,1] [] tt hz F))
 focus rw[uP,wu]
 by_cases tf:t1.tooFull=V6
 .rw[Vw tf];apply aA (KX (bY [.l V3 (.v 0) (.n 100),.e V3 (.v 1) (.v 0)] (.K (.l V3 (.n 1) (.p (.v 1) (.n 1))) (.l V3 (.p (.v 1) (.n 1)) (.n 101))) [[1],[1,1,1]] tt [_,_] [] hz F) g1 P R λU W Y a1 a2=>?_);show aD (T U W _ _ Y (sb1.V7 (dN _ a _)) (yE g1) a1 a2)
 .rw[Vd tf];apply aD (T es1 t1 _ _ (.Vt _) sb1 g1 P ?_);unfold Vr.tooFull at tf;rw[P.fill] at tf;show AP λq=>tf (Vs q)
end
end
mutual open Nat
def Mk {ys:V2 V} (h:∀y∈ys,f6 y=V6):eU ys=V6:=by
 induction ys with
 |VH=>rfl
 |V4 y ys a=>change(f6 y&&eU ys)=V6;rw[h y (.WI _),a λz hz=>h z (.XW _ hz)];rfl
def ET {I:Vc} {ι:V2 Vc} {s s':VI} {G:VW GenState->VW GenState->Prop} {xs:V2 V} {vs:V2 VE} (a:Moved [I] G s s') (d:s.V5.VJ.VA<=s'.V5.VJ.VA) (f:∀o,s.V5.VT I=V1 o->nK o=V3) (r:cT ι s.V5 xs vs):cT ι s'.V5 xs vs:=
 r.WL (F:=[I]) ⟨(aV [] (by show(cJ _).Vh) λ_ q=>(by cases q)),d,λb o e _ n=>a.V5 b o n e⟩ λb g o e=>f o (by rw[aC.mp g] at e;show e)
def aQ.setT (m:ZG q) {a:V9} {xs:V2 V} (ha:M[a]?=V1 (.VF xs)) (f:∀x∈xs,q x=V6) (hz:xs.V0<=100) (p:∀ys,(∀x,x∈ys↔x∈xs)->ys.V0<=xs.V0->P (.VG M.V0) (M++[.Wb ys])):
    aQ c n (.W5 "set") [.VG a] M P:=λA ι s j l G r Q E B=>by
 let(rv,VC,C):=r.Zb;clear r;let(x,VL,k,VC,D,H,K):=pU G ha C;have Wz:=gF K;have hu:=l.uni;have h0:∀{b:Vc} {o:Obj},s.V5.VT b=V1 o->b≠s.V5.VJ.VA:=λe=>cK (bM e)
 have immI:∀{I i:V9} {u:VI},u.V5.IsListIter I x i->∀o,u.V5.VT I=V1 o->nK o=V3:=λL o e=>o1_3 L λo' N R T=>by rw[N] at e;cases e;unfold nK;rw[T,R];rfl
 apply eV (Cz (J:=λi u=>Ht s.V5 u.V5/\s.V5.VJ.VA<=u.V5.VJ.VA/\∃ys,Pp c.w ι u.V5 s.V5.VJ.VA ys/\(∀z,z∈ys↔z∈xs.WU i)/\ys.V0<=i) l.hd (eG H) (λI U i v u W hi hv st X Y Z Q E q=>?_) (λa0 a1 a2 a3 a4 a5=>?_) λI s1 h' a6 U st X Y Z a7 _=>?_)
 .let(a4,a5,ys,S,a8,a9):=X;have kI:∀{b:Vc} {o:Obj},s.V5.VT b=V1 o->b∉[I]:=λe q=>Vy (aC.mp q) (cK (jy (bM e) U));have k2:Ht s.V5 W.V5:=λb o e=>Y.V5 b o (kI e) (a4 b o e);have z2:=aG a5 Z;let(y,aa,ab):=K.getR (i:=i) (by rw[aZ];show hv);have ab:WV ι W.V5 y v:=ab.WL (F:=[]) {(aV [] (by show(cJ _).Vh) λ_ q=>(by cases q)),z2,λb o e _ _=>k2 b o e} λ_ q=>(by cases q);let(es,ac,t,g,ad,r):=S;have S':Pp c.w ι W.V5 s.V5.VJ.VA ys:={es,ac,t,Y.V5 _ _ (λq=>Vy (aC.mp q) (cK U)) g,ET Y Z (immI st.1) ad,r};apply dz (aA (MA y v A.Z8.Z8.Z8 W _ (m.Yh y (f y (aF aa))) ab (by have:=m.dep y (f y (aF aa));show fG [{1,.p (.p .a (.m 16 .b)) (.n 100),.n 9900},{0,.c,.n 8}] {1,.p (.p (.p (.p .a (.n 1)) (.n 1)) (.n 1)) .c,.n 9900} [1,1,1] [] tt hu this) ?_));apply Nt (A:=A.Z8.Z8.Z8) (s:={W with WJ:=W.WJ+drw y}) m S' (λz hz=>f z (nX ((a8 z).mp hz))) (f y (aF aa)) ab (by change A.Xz+1+1+1+60<9900;show dX [{1,.p (.p .a (.m 16 .b)) (.n 100),.n 9900}] {1,.p (.p (.p (.p .a (.n 1)) (.n 1)) (.n 1)) (.n 60),.n 9900} [1,1] [] tt hu) (ir [{0,.a,.n 100},{2,.b,.a},{1,.c,.b},{0,.d,.c}] {0,.d,.n 100} [1,1,1,0,1,1] [] tt hz Wz hi a9) λb h' ae af ag O=>q b h' _ af (fq (λb o e=>(af.2 b (h0 e)).V7 (k2 b o e)) (aG z2 (bX af.1.Vh)) {ae,ag,λz=>?_,aG O.2 (nN a9)}) (cR _ _);rw[O.1,a8,cF,aa];change _↔z∈xs.WU i++[y];rw[aW,aC]
 .show fq a4 (bZ a5) {[],{#[],0,.Y0 0 0 a0,a3,.VH,{{.VH,a2},(show(7:V9)∈uh by decide),VC,λ_ h=>(by cases h),VC,dP _},(show 0*5<7*3 by show di _)},λz=>by show I0,dP _}
 .let(a4,a5,ys,(es,ac,t,g,ad,tn,room),a8,a9):=X;rw[Wz,cV] at a8;have g2:h'.VT s.V5.VJ.VA=V1 (jO es ac t):=Y.V5 _ _ (λq=>Vy (aC.mp q) (cK U)) g;have k2:∀b o,s.V5.VT b=V1 o->h'.VT b=V1 o:=λb o e=>a7 b o (bM e) e;have keys:eU ys=V6:=Mk λy aa=>m.Yh y (f y ((a8 y).mp aa));have rl2:=ET (s':={s with V5:=h',WJ:=a6}) Y Z (immI st) ad;let(ah,ai):=G.Vp (c:=s.V5.VJ.VA) (o':=.Wb ys) (aM _) (bM g2) k2 λst=>{es,ac,t,g2,rl2.Zd g2 rfl,tn.fit rfl,keys};apply B _ _ _ _ ah ai {VC,VC} (aV _ ?_ (p ys a8 (aG a9 (bX Wz))));show{_,fX G.Wz,VC}
def fu {c:Prop} [Yk c] {f:c->VS} {G:Prop} (h:(Ym c f λ_=>V3)=V6) (g:∀i,f i=V6->G):G:=by
 by_cases i:c
 .rw[dif_pos i] at h;show g i h
 .rw[dif_neg i] at h;cases h
abbrev wL (e:Ve.Vi) (k:YX->V2 Ve.Vi->Pos->VS):VS:=Ym (e.VZ=0) (λh=>n8 e h k) λ_=>V3
@[elab_as_elim] def s8 {P:Ve.Vi->Prop} {e:Ve.Vi} {k} (h:wL e k=V6) (g:∀a b p,k a b p=V6->P (.YX a b p)):P e:=fu h λi q=>n8 (WP:=λe=>∀i:e.VZ=0,n8 e i k=V6->P e) e i (λa b p _ q=>g a b p q) i q
abbrev QU (e:Ve.Vi) (k:Ve.Vi->Operator->Ve.Vi->Pos->VS):VS:=Ym (e.VZ=2) (λh=>o9 e h k) λ_=>V3
@[elab_as_elim] def LB {P:Ve.Vi->Prop} {e:Ve.Vi} {k} (h:QU e k=V6) (g:∀a b c p,k a b c p=V6->P (.BinOp a b c p)):P e:=fu h λi q=>o9 (WP:=λe=>∀i:e.VZ=2,o9 e i k=V6->P e) e i (λa b c p _ q=>g a b c p q) i q
abbrev R8 (e:Ve.Vi) (k:UnaryOp->Ve.Vi->Pos->VS):VS:=Ym (e.VZ=3) (λh=>nE e h k) λ_=>V3
@[elab_as_elim] def OC {P:Ve.Vi->Prop} {e:Ve.Vi} {k} (h:R8 e k=V6) (g:∀a b p,k a b p=V6->P (.UnaryOp a b p)):P e:=fu h λi q=>nE (WP:=λe=>∀i:e.VZ=3,nE e i k=V6->P e) e i (λa b p _ q=>g a b p q) i q
abbrev R9 (e:Ve.Vi) (k:Ve.Vi->Ve.Vi->Ve.Vi->Pos->VS):VS:=Ym (e.VZ=5) (λh=>o8 e h k) λ_=>V3
@[elab_as_elim] def OD {P:Ve.Vi->Prop} {e:Ve.Vi} {k} (h:R9 e k=V6) (g:∀a b c p,k a b c p=V6->P (.IfExp a b c p)):P e:=fu h λi q=>o8 (WP:=λe=>∀i:e.VZ=5,o8 e i k=V6->P e) e i (λa b c p _ q=>g a b c p q) i q
abbrev Gk (e:Ve.Vi) (k:V2 (VK Ve.Vi)->V2 Ve.Vi->Pos->VS):VS:=Ym (e.VZ=6) (λh=>qa e h k) λ_=>V3
@[elab_as_elim] def BR {P:Ve.Vi->Prop} {e:Ve.Vi} {k} (h:Gk e k=V6) (g:∀a b p,k a b p=V6->P (.Dict a b p)):P e:=fu h λi q=>qa (WP:=λe=>∀i:e.VZ=6,qa e i k=V6->P e) e i (λa b p _ q=>g a b p q) i q
abbrev Gm (e:Ve.Vi) (k:Ve.Vi->V2 WR->X6->Pos->VS):VS:=Ym (e.VZ=8) (λh=>mY e h k) λ_=>V3
@[elab_as_elim] def BS {P:Ve.Vi->Prop} {e:Ve.Vi} {k} (h:Gm e k=V6) (g:∀a b c p,k a b c p=V6->P (.XS a b c p)):P e:=fu h λi q=>mY (WP:=λe=>∀i:e.VZ=8,mY e i k=V6->P e) e i (λa b c p _ q=>g a b c p q) i q
abbrev BU (e:Ve.Vi) (k:Ve.Vi->V2 CmpOp->V2 Ve.Vi->Pos->VS):VS:=Ym (e.VZ=15) (λh=>nF e h k) λ_=>V3
@[elab_as_elim] def vo {P:Ve.Vi->Prop} {e:Ve.Vi} {k} (h:BU e k=V6) (g:∀a b c p,k a b c p=V6->P (.Compare a b c p)):P e:=fu h λi q=>nF (WP:=λe=>∀i:e.VZ=15,nF e i k=V6->P e) e i (λa b c p _ q=>g a b c p q) i q
abbrev Gn (e:Ve.Vi) (k:Ve.Vi->V2 Ve.Vi->V2 Keyword->Pos->VS):VS:=Ym (e.VZ=16) (λh=>qb e h k) λ_=>V3
@[elab_as_elim] def BV {P:Ve.Vi->Prop} {e:Ve.Vi} {k} (h:Gn e k=V6) (g:∀a b c p,k a b c p=V6->P (.Call a b c p)):P e:=fu h λi q=>qb (WP:=λe=>∀i:e.VZ=16,qb e i k=V6->P e) e i (λa b c p _ q=>g a b c p q) i q
abbrev QT (e:Ve.Vi) (k:Ve.Vi->Vo->VK Ve.Vi->Pos->VS):VS:=Ym (e.VZ=17) (λh=>jC e h k) λ_=>V3
@[elab_as_elim] def Lz {P:Ve.Vi->Prop} {e:Ve.Vi} {k} (h:QT e k=V6) (g:∀a b c p,k a b c p=V6->P (.FormattedValue a b c p)):P e:=fu h λi q=>jC (WP:=λe=>∀i:e.VZ=17,jC e i k=V6->P e) e i (λa b c p _ q=>g a b c p q) i q
abbrev Lw (e:Ve.Vi) (k:V2 Ve.Vi->Pos->VS):VS:=Ym (e.VZ=18) (λh=>mh e h k) λ_=>V3
@[elab_as_elim] def Jv {P:Ve.Vi->Prop} {e:Ve.Vi} {k} (h:Lw e k=V6) (g:∀a p,k a p=V6->P (.JoinedStr a p)):P e:=fu h λi q=>mh (WP:=λe=>∀i:e.VZ=18,mh e i k=V6->P e) e i (λa p _ q=>g a p q) i q
abbrev HW (e:Ve.Vi) (k:Const->V9->Pos->VS):VS:=Ym (e.VZ=19) (λh=>mZ e h k) λ_=>V3
@[elab_as_elim] def Gl {P:Ve.Vi->Prop} {e:Ve.Vi} {k} (h:HW e k=V6) (g:∀a b p,k a b p=V6->P (.YJ a b p)):P e:=fu h λi q=>mZ (WP:=λe=>∀i:e.VZ=19,mZ e i k=V6->P e) e i (λa b p _ q=>g a b p q) i q
abbrev De (e:Ve.Vi) (k:Ve.Vi->Vm->Pos->VS):VS:=Ym (e.VZ=20) (λh=>mj e h k) λ_=>V3
@[elab_as_elim] def wM {P:Ve.Vi->Prop} {e:Ve.Vi} {k} (h:De e k=V6) (g:∀a b p,k a b p=V6->P (.Attribute a b p)):P e:=fu h λi q=>mj (WP:=λe=>∀i:e.VZ=20,mj e i k=V6->P e) e i (λa b p _ q=>g a b p q) i q
abbrev BQ (e:Ve.Vi) (k:Ve.Vi->Ve.Vi->Pos->VS):VS:=Ym (e.VZ=21) (λh=>l9 e h k) λ_=>V3
@[elab_as_elim] def se {P:Ve.Vi->Prop} {e:Ve.Vi} {k} (h:BQ e k=V6) (g:∀a b p,k a b p=V6->P (.Subscript a b p)):P e:=fu h λi q=>l9 (WP:=λe=>∀i:e.VZ=21,l9 e i k=V6->P e) e i (λa b p _ q=>g a b p q) i q
abbrev yG (e:Ve.Vi) (k:VK Ve.Vi->VK Ve.Vi->VK Ve.Vi->Pos->VS):VS:=Ym (e.VZ=26) (λh=>o7 e h k) λ_=>V3
@[elab_as_elim] def ux {P:Ve.Vi->Prop} {e:Ve.Vi} {k} (h:yG e k=V6) (g:∀a b c p,k a b c p=V6->P (.Slice a b c p)):P e:=fu h λi q=>o7 (WP:=λe=>∀i:e.VZ=26,o7 e i k=V6->P e) e i (λa b c p _ q=>g a b c p q) i q
abbrev zF (e:Ve.Vi) (k:Vm->Pos->VS):VS:=Ym (e.VZ=23) (λh=>lJ e h k) λ_=>V3
@[elab_as_elim] def jh {P:Ve.Vi->Prop} {e:Ve.Vi} {k} (h:zF e k=V6) (g:∀a p,k a p=V6->P (.Name a p)):P e:=fu h λi q=>lJ (WP:=λe=>∀i:e.VZ=23,lJ e i k=V6->P e) e i (λa p _ q=>g a p q) i q
abbrev Lv (e:Ve.Vi) (k:V2 Ve.Vi->Pos->VS):VS:=Ym (e.VZ=24) (λh=>p9 e h k) λ_=>V3
@[elab_as_elim] def Ju {P:Ve.Vi->Prop} {e:Ve.Vi} {k} (h:Lv e k=V6) (g:∀a p,k a p=V6->P (.V2 a p)):P e:=fu h λi q=>p9 (WP:=λe=>∀i:e.VZ=24,p9 e i k=V6->P e) e i (λa p _ q=>g a p q) i q
abbrev BP (e:Ve.Vi) (k:V2 Ve.Vi->V9->Pos->VS):VS:=Ym (e.VZ=25) (λh=>iY e h k) λ_=>V3
@[elab_as_elim] def ow {P:Ve.Vi->Prop} {e:Ve.Vi} {k} (h:BP e k=V6) (g:∀a b p,k a b p=V6->P (.Yl a b p)):P e:=fu h λi q=>iY (WP:=λe=>∀i:e.VZ=25,iY e i k=V6->P e) e i (λa b p _ q=>g a b p q) i q
abbrev QN (e:Y7) (k:VK Ve.Vi->Pos->VS):VS:=Ym (e.VZ=3) (λh=>uW e h k) λ_=>V3
@[elab_as_elim] def Lu {P:Y7->Prop} {e:Y7} {k} (h:QN e k=V6) (g:∀a p,k a p=V6->P (.Return a p)):P e:=fu h λi q=>uW (Yg:=λe=>∀i:e.VZ=3,uW e i k=V6->P e) e i (λa p _ q=>g a p q) i q
abbrev zG (e:Y7) (k:V2 Ve.Vi->Ve.Vi->Pos->VS):VS:=Ym (e.VZ=5) (λh=>uX e h k) λ_=>V3
@[elab_as_elim] def qk {P:Y7->Prop} {e:Y7} {k} (h:zG e k=V6) (g:∀a b p,k a b p=V6->P (.Assign a b p)):P e:=fu h λi q=>uX (Yg:=λe=>∀i:e.VZ=5,uX e i k=V6->P e) e i (λa b p _ q=>g a b p q) i q
abbrev QS (e:Y7) (k:Ve.Vi->Ve.Vi->V2 Y7->V2 Y7->Pos->VS):VS:=Ym (e.VZ=9) (λh=>Bj e h k) λ_=>V3
@[elab_as_elim] def Ly {P:Y7->Prop} {e:Y7} {k} (h:QS e k=V6) (g:∀a b c d p,k a b c d p=V6->P (.For a b c d p)):P e:=fu h λi q=>Bj (Yg:=λe=>∀i:e.VZ=9,Bj e i k=V6->P e) e i (λa b c d p _ q=>g a b c d p q) i q
abbrev HV (e:Y7) (k:Ve.Vi->V2 Y7->V2 Y7->Pos->VS):VS:=Ym (e.VZ=11) (λh=>xh e h k) λ_=>V3
@[elab_as_elim] def Gj {P:Y7->Prop} {e:Y7} {k} (h:HV e k=V6) (g:∀a b c p,k a b c p=V6->P (.While a b c p)):P e:=fu h λi q=>xh (Yg:=λe=>∀i:e.VZ=11,xh e i k=V6->P e) e i (λa b c p _ q=>g a b c p q) i q
abbrev QO (e:Y7) (k:Ve.Vi->V2 Y7->V2 Y7->Pos->VS):VS:=Ym (e.VZ=12) (λh=>DW e h k) λ_=>V3
@[elab_as_elim] def Lx {P:Y7->Prop} {e:Y7} {k} (h:QO e k=V6) (g:∀a b c p,k a b c p=V6->P (.If a b c p)):P e:=fu h λi q=>DW (Yg:=λe=>∀i:e.VZ=12,DW e i k=V6->P e) e i (λa b c p _ q=>g a b c p q) i q
abbrev LA (e:Y7) (k:Ve.Vi->Pos->VS):VS:=Ym (e.VZ=24) (λh=>yS e h k) λ_=>V3
@[elab_as_elim] def Jw {P:Y7->Prop} {e:Y7} {k} (h:LA e k=V6) (g:∀a p,k a p=V6->P (.Vi a p)):P e:=fu h λi q=>yS (Yg:=λe=>∀i:e.VZ=24,yS e i k=V6->P e) e i (λa p _ q=>g a p q) i q
abbrev onRaise (e:Y7) (k:VK Ve.Vi->VK Ve.Vi->Pos->VS):VS:=Ym (e.VZ=16) (λh=>Y7.Raise.W2 e h k) λ_=>V3
end
section
mutual open Nat
abbrev WG (C:V9):V2 Vm:=
 if C=198 then ["nodes","numbers","weights","depths"] else if C=236 then ["heap"] else if C=263 then ["name","left","right","needs"] else if C=301 then ["heap"]
 else if C=356 then ["heap","rules","options","walker","placer","history","rounds","rests","wakes"] else if C=405 then ["n"] else if C=487 then ["above","lots","merged"]
 else if C=617 then ["bank","unions","edges","forest","known","above","waiting","backs"] else []
structure En where
 sc:X6
 XT:V2 (VK Vm)
nonrec abbrev YY:=V2 (VK V)
nonrec abbrev iD:=Fl->YY->WC->Prop
abbrev XP:YY->V9->VK V
 |[],_=>V8
 |x::_,0=>x
 |_::σ,k+1=>XP σ k
abbrev YA:YY->V9->V->YY
 |[],_,_=>[]
 |_::σ,0,v=>V1 v::σ
 |x::σ,k+1,v=>x::YA σ k v
abbrev cat:V2 (VK Vm)->V9->VK Vm
 |[],_=>V8
 |x::_,0=>x
 |_::σ,k+1=>cat σ k
abbrev Sim (XT:V2 (VK Vm)) (σ:YY) (ρ:Rho):Prop:=∀k x v,cat XT k=V1 x->XP σ k=V1 v->ρ.VY x=V1 v
abbrev EN (E:En) (F:iD):mG:=λa ρ M=>∃σ,Sim E.XT σ ρ/\F a σ M
structure Xp where
 Wm:Zq->En->Ve.Vi->VS
 wp:Cx->V9->YY->WC->dQ->Prop
 ok:∀{c n E e σ M P ρ},Wm c.K E e=V6->Sim E.XT σ ρ->wp c n σ M P->dZ c n E.sc e ρ M P
structure Tp where
 Wm:Zq->En->Ve.Vi->VS
 wp:Cx->V9->YY->WC->(VS->WC->Prop)->Prop
 ok:∀{c n E e σ M B ρ},Wm c.K E e=V6->Sim E.XT σ ρ->wp c n σ M B->kZ c n E.sc e ρ M B
structure Ap where
 Wm:Zq->En->V2 Ve.Vi->VS
 wp:Cx->V9->YY->WC->(V2 V->WC->Prop)->Prop
 un:∀{K E es},Wm K E es=V6->es.Z4 ig=V6
 ok:∀{c n E es σ M R ρ},Wm c.K E es=V6->Sim E.XT σ ρ->wp c n σ M R->lX c n E.sc es ρ M (λvs M'=>vs.V0=es.V0/\R vs M')
structure Sp where
 Wm:Zq->En->Y7->VS
 wp:Cx->V9->YY->WC->iD->Prop
 ok:∀{c n E s σ M F ρ},Wm c.K E s=V6->Sim E.XT σ ρ->wp c n σ M F->Yy c n E.sc s ρ M (EN E F)
structure Bp where
 Wm:Zq->En->V2 Y7->VS
 wp:Cx->V9->YY->WC->iD->Prop
 ok:∀{c n E s σ M F ρ},Wm c.K E s=V6->Sim E.XT σ ρ->wp c n σ M F->uN c n E.sc s ρ M (EN E F)
def lX.W9 {c n sc es ρ M} {R d:V2 V->WC->Prop} (h:lX c n sc es ρ M R) (k:∀v M',R v M'->d v M'):lX c n sc es ρ M d:=λA Vb ι s WS e hs L G=>(h A Vb ι s WS e hs L G).W9 λ_ _ _ M' f=>Xs f λv a b=>aV v a (k v M' b)
def kZ.W9 {c n sc e ρ M} {a d:VS->WC->Prop} (h:kZ c n sc e ρ M a) (k:∀v M',a v M'->d v M'):kZ c n sc e ρ M d:=λA Vb ι s f hs L G=>(h A Vb ι s f hs L G).W9 λ_ _ _ M' b=>k _ M' b
variable {E:En} {e:Ve.Vi} {σ:YY}
abbrev Gu (E:En) (k:V9) (x:Vm):VS:=(cat E.XT k==V1 x)&& !(x==("__debug__":Vm))
def qm {k x} (h:Gu E k x=V6):cat E.XT k=V1 x/\(x==("__debug__":Vm))=V3:=by show ba2 h λa b=>{VV.mp a,(dh _).mp b}
abbrev vQ (e:Ve.Vi) (c:Const):VS:=HW e λk _ _=>decide (k=c)
@[elab_as_elim] def jd {c:Const} {P:Ve.Vi->Prop} {e} (h:vQ e c=V6) (g:∀k p,P (.YJ c k p)):P e:=Gl h λ_ i p h=>W1 h▸g i p
nonrec abbrev Iu (e:Ve.Vi) (a:Vo):VS:=vQ e (.Vl a)
nonrec abbrev Zl (e:Ve.Vi) (a:Vm):VS:=vQ e (.Vn a)
abbrev Xp.Vl (i:Vo):Xp where
 Wm _ _ e:=Iu e i
 wp _ _ _ M P:=P (.Vl i) M
 ok h _ w:=jd h λk p=>.Vl w
abbrev Xp.Vn (i:Vm):Xp where
 Wm _ _ e:=Zl e i
 wp _ _ _ M P:=P (.Vn i) M
 ok h _ w:=jd h λk p=>.Vn w
abbrev Xp.V8:Xp where
 Wm _ _ e:=vQ e .V8
 wp _ _ _ M P:=P .V8 M
 ok h _ w:=jd h λk p=>.V8 w
abbrev Xp.WW (b:VS):Xp where
 Wm _ _ e:=vQ e (.WW b)
 wp _ _ _ M P:=P (.WW b) M
 ok h _ w:=jd h λk p=>.WW w
@[elab_as_elim] def Hg {d:Type} [BEq d] [LawfulBEq d] {a b:d} {P:d->Prop} (h:(a==b)=V6) (g:P b):P a:=VV.mp h▸g
abbrev Xp.VQ (k:V9):Xp where
 Wm _ E e:=zF e (λx _=>Gu E k x)
 wp _ _ σ M P:=match XP σ k with|V1 v=>P v M|V8=>WY
 ok {c n E e σ M P ρ} h s w:=by
  apply jh h λx p h=>?_;let(a,b):=qm h;cases hv:XP σ k with
  |V8=>rw[hv] at w;show w.W2
  |V1 v=>rw[hv] at w;show .name (s k x v a hv) w b
abbrev Rg (v:VE) (k:Vo->VS):VS:=Ym (v.VZ=4) (λh=>yR v h λi _=>k i) λ_=>V3
abbrev Rf (v:VE) (k:Vm->VS):VS:=Ym (v.VZ=6) (λh=>yP v h λi _=>k i) λ_=>V3
abbrev SQ (v:VE) (k:Vc->VS):VS:=Ym (v.VZ=10) (λh=>yQ v h k) λ_=>V3
@[elab_as_elim] def NQ {P:VE->Prop} {v k} (h:Rg v k=V6) (g:∀i t,k i=V6->P (.Vl i t)):P v:=fu h λi q=>yR (Y1:=λv=>∀i:v.VZ=4,yR v i (λi _=>k i)=V6->P v) v i (λa t _ q=>g a t q) i q
@[elab_as_elim] def NL {P:VE->Prop} {v k} (h:Rf v k=V6) (g:∀i t,k i=V6->P (.Vn i t)):P v:=fu h λi q=>yP (Y1:=λv=>∀i:v.VZ=6,yP v i (λi _=>k i)=V6->P v) v i (λa t _ q=>g a t q) i q
@[elab_as_elim] def NP {P:VE->Prop} {v k} (h:SQ v k=V6) (g:∀a,k a=V6->P (.VG a)):P v:=fu h λi q=>yQ (Y1:=λv=>∀i:v.VZ=10,yQ v i k=V6->P v) v i (λa _ q=>g a q) i q
abbrev NO (v:Data) (k:VW VE->VS):VS:=Ym (v.VZ=2) (λh=>By v h λi _=>k i) λ_=>V3
@[elab_as_elim] def NN {P:Data->Prop} {v k} (h:NO v k=V6) (g:∀i n,k i=V6->P (.seq i n)):P v:=fu h λi q=>By (Y1:=λv=>∀i:v.VZ=2,By v i (λi _=>k i)=V6->P v) v i (λa n _ q=>g a n q) i q
abbrev Ko (b:Zq) (v:VE) (k:V2 VE->VS):VS:=SQ v λa=>(b.VY a).any λo=>NO o.Xu λVL=>k VL.VD&&o.Z9==.W5 "tuple"&&o.WD.XQ&&o.Z5.WN
def Nq {a:Type} {P:VK a->Prop} {o:VK a} {k:a->VS} (h:o.any k=V6) (g:∀x,k x=V6->P (V1 x)):P o:=by
 cases o with
 |V8=>cases h
 |V1 x=>show g x h
def Ri {o:Obj} {k:V2 VE->VS} (h:(NO o.Xu λVL=>k VL.VD&&o.Z9==.W5 "tuple"&&o.WD.XQ&&o.Z5.WN)=V6) {P:Obj->Prop} (g:∀VL n,k VL.VD=V6->P (iP VL n)):P o:=by let(Z9,WD,Xu,Z5):=o;have h:(NO Xu λVL=>k VL.VD&&Z9==.W5 "tuple"&&WD.XQ&&Z5.WN)=V6:=h;apply NN h λVL n h=>ba4 h λa b d f=>?_;rw[VV.mp b,dG.mp d,VW.isEmpty_iff.mp f];show g _ _ a
@[elab_as_elim] def Kn {P:VE->Prop} {K v k} (h:Ko K v k=V6) (g:∀a VL n,K.VY a=V1 (iP VL n)->k VL.VD=V6->P (.VG a)):P v:=
 NP h λa h=>Nq (P:=λo=>K.VY a=o->P (.VG a)) h (λ_ h=>Ri h (P:=λo=>K.VY a=V1 o->P (.VG a)) λVL n h e=>g a VL n e h) rfl
end
mutual
/-- a value of the text's own,that the call never turns -/
noncomputable def Ir (a:Frag):V->Value->Bool
 | .int i,v=>Rg v (i==·)
 | .str s,v=>Rf v (s==·)
 | .lit u,v=>u==v
 | .tup xs,v=>Ko a v (DC a xs)
 | .none,_=>false
 | .bool _,_=>false
 | .ref _,_=>false
 | .range _ _,_=>false
noncomputable def DC (a:Frag):List V->List Value->Bool
 |[],vs=>vs.isEmpty
 |x::xs,vs=>vs.casesOn false λv vs=>Ir a x v&&DC a xs vs
end
mutual open Nat
def Mr {ι h} (G:c.W6 ι M h) {v:V}:∀{rv:VE},Ir c.K v rv=V6->WV ι h v rv:=by
 apply V.rec (WP:=λv=>∀{rv:VE},Ir c.K v rv=V6->WV ι h v rv) (Yg:=λxs=>∀{vs:V2 VE},DC c.K xs vs=V6->cT ι h xs vs)
  (λe=>(by cases e)) (λ_ _ e=>(by cases e)) (λi rv e=>?_) (λi rv e=>?_) (λ_ _ e=>(by cases e)) (λxs b rv e=>?_) (λu v e=>(VV.mp (show(u==v)=V6 from e)).Vh) (λ_ _ _ e=>(by cases e)) (λe=>?_) (λx xs d f vs e=>?_) v
 .have e:Rg rv (i==·)=V6:=e;apply NQ e λj t e=>?_;show{t,by rw[VV.mp e]}
 .have e:Rf rv (i==·)=V6:=e;apply NL e λj t e=>?_;show{t,by rw[VV.mp e]}
 .have e:Ko c.K rv (DC c.K xs)=V6:=e;apply Kn e λa VL n g k=>?_;show{a,VL,n,VC,(λz=>by have:=G.Zv a z;rw[c.inK _ _ g] at this;cases this),Cx.K_in G _ _ g,b k}
 .show bU.mp e
 .cases vs with
  |VH=>cases e
  |V4 v vs=>
   have e:=(aN _ _).mp e;show .V4 (d e.1) (f e.2)
abbrev Ms (v:V) (u:VE):VS:=Ym (v.VZ=6) (λh=>V.lit.W2 v h λw=>w==u) λ_=>V3
def JO {P:V->Prop} {v u} (h:Ms v u=V6) (g:P (.lit u)):P v:=fu h λi q=>V.lit.W2 (WP:=λv=>∀i:v.VZ=6,V.lit.W2 v i (λw=>w==u)=V6->P v) v i (λa _ q=>VV.mp q▸g) i q
abbrev GV (a:Zq) (sc:X6) (x:Vm) (v:V):VS:=sc.Vv.VY x==V1 .globalImplicit&& !(x==("__debug__":Vm))&&
 (nsIn a lB x).any λo=>o.W2 (!(x==("__name__":Vm))&&(CB x).any λu=>Ms v u) λrv=>Ir a v rv
def Cq {x v p} (h:GV c.K E.sc x v=V6) (q:P v M):dZ c n E.sc (.Name x p) ρ M P:=ba3 h λa b d=>by
 letI a:=VV.mp a;letI b:=(dh _).mp b;cases hg:nsIn c.K lB x with
 |V8=>rw[hg] at d;cases d
 |V1 o=>
  rw[hg] at d;cases o with
  |V1 rv=>show .Xo a hg (λι M h G=>Mr G d) q b
  |V8=>
   apply ba2 d λd e=>?_;cases hb:CB x with
   |V8=>rw[hb] at e;cases e
   |V1 u=>
    rw[hb] at e;show JO (P:=λv=>P v M->dZ c n E.sc (.Name x p) ρ M P) e (λq=>.blt a hg hb q ((dh _).mp d) b) q
abbrev Xp.Xo (v:V):Xp where
 Wm K E e:=zF e (λx _=>GV K E.sc x v)
 wp _ _ _ M P:=P v M
 ok h _ w:=by apply jh h λx p h=>?_;show Cq h w
abbrev Ap.VH:Ap where
 Wm _ _ es:=es.WN
 wp _ _ _ M R:=R [] M
 un {K E es} h:=by
  cases es with
  |VH=>rfl
  |V4 _ _=>cases h
 ok {c n E es σ M R ρ} h _ w:=by
  cases es with
  |VH=>show .VH {VC,w}
  |V4 _ _=>cases h
abbrev Ap.V4 (x:Xp) (xs:Ap):Ap where
 Wm K E es:=match es with|e::es=>ig e&&x.Wm K E e&&xs.Wm K E es|[]=>V3
 wp c n σ M R:=x.wp c n σ M λv a=>xs.wp c n σ a λvs b=>R (v::vs) b
 un {K E es} h:=by
  cases es with
  |VH=>cases h
  |V4 e es=>
   show ba3 h λd f g=>by rw[jE,d,xs.un g];rfl
 ok {c n E es σ M R ρ} h s w:=by
  cases es with
  |VH=>cases h
  |V4 e es=>
   apply ba3 h λd f g=>?_;show .V4 (x.ok f s w|>.W9 λv a w=>(xs.ok g s w).W9 λvs b w=>{by simp[w.1],w.2}) d
def zj {k m:V9} (h:decide (m<1000)=V6) (e:k=m):k<=cE:=by have:=W1 h;rw[bJ];show dX [{2,.a,.b},{1,.b,.n 1000}] {0,.a,.n 16777216} [1,1,0,1] [] tt e this
abbrev Xp.Vj (xs:Ap):Xp where
 Wm K E e:=BP e λes _ _=>xs.Wm K E es&&decide (es.V0<1000)
 wp c n σ M P:=xs.wp c n σ M λvs a=>P (.Vj vs) a
 ok h s w:=by apply ow h λes k p b=>?_;show ba2 b λb d=>.tuple ((xs.ok b s w).W9 λvs a w=>⟨zj d w.1,w.2⟩)
abbrev Xp.ZZ (xs:Ap):Xp where
 Wm K E e:=Lv e λes _=>xs.Wm K E es&&decide (es.V0<1000)
 wp c n σ M P:=xs.wp c n σ M λvs a=>P (.VG a.V0) (a++[.VF vs])
 ok h s w:=by apply Ju h λes p b=>?_;show ba2 b λb d=>.VF ((xs.ok b s w).W9 λvs a w=>⟨zj d w.1,w.2⟩)
abbrev Xp.dic0:Xp where
 Wm K E e:=Gk e λks vs _=>ks.WN&&vs.WN
 wp c n σ M P:=P (.VG M.V0) (M++[.WD []])
 ok h s w:=by apply BR h λks vs p a=>?_;apply ba2 a λa b=>?_;rw[bU.mp a,bU.mp b];show .dict0 w
abbrev Ob (M:WC) (a C:V9) (vs:V2 V):Prop:=∃d,M[a]?=V1 (.YH C d)/\M[d]?=V1 (.ns ((WG C).Y8 vs))
abbrev gB (v:V) (k:Vo->Prop):Prop:=V.Wc (WP:=λ_=>Prop) v WY (λ_=>WY) k (λ_=>WY) (λ_=>WY) (λ_=>WY) (λ_=>WY) (λ_ _=>WY)
abbrev oH (v:V) (k:Vm->Prop):Prop:=V.Wc (WP:=λ_=>Prop) v WY (λ_=>WY) (λ_=>WY) k (λ_=>WY) (λ_=>WY) (λ_=>WY) (λ_ _=>WY)
abbrev sH (v:V) (k:VS->Prop):Prop:=V.Wc (WP:=λ_=>Prop) v WY k (λ_=>WY) (λ_=>WY) (λ_=>WY) (λ_=>WY) (λ_=>WY) (λ_ _=>WY)
abbrev lE (v:V) (k:V2 V->Prop):Prop:=V.Wc (WP:=λ_=>Prop) v WY (λ_=>WY) (λ_=>WY) (λ_=>WY) (λ_=>WY) k (λ_=>WY) (λ_ _=>WY)
abbrev t9 (v:V) (k:V9->Prop):Prop:=V.Wc (WP:=λ_=>Prop) v WY (λ_=>WY) (λ_=>WY) (λ_=>WY) k (λ_=>WY) (λ_=>WY) (λ_ _=>WY)
@[elab_as_elim] def iK {P:V->Prop} {v k} (h:gB v k) (g:∀i,k i->P (.Vl i)):P v:=by cases v<;>first|show g _ h|show wo h
@[elab_as_elim] def sG {P:V->Prop} {v k} (h:oH v k) (g:∀i,k i->P (.Vn i)):P v:=by cases v<;>first|show g _ h|show wo h
@[elab_as_elim] def w4 {P:V->Prop} {v k} (h:sH v k) (g:∀i,k i->P (.WW i)):P v:=by cases v<;>first|show g _ h|show wo h
@[elab_as_elim] def kC {P:V->Prop} {v k} (h:lE v k) (g:∀i,k i->P (.Vj i)):P v:=by cases v<;>first|show g _ h|show wo h
@[elab_as_elim] def qw {P:V->Prop} {v k} (h:t9 v k) (g:∀i,k i->P (.VG i)):P v:=by cases v<;>first|show g _ h|show wo h
abbrev eu (M:WC) (v:V) (k:V9->V2 V->Prop):Prop:=t9 v λa=>∃xs,M[a]?=V1 (.VF xs)/\k a xs
@[elab_as_elim] def jQ {P:V->Prop} {v k} (h:eu M v k) (g:∀a xs,M[a]?=V1 (.VF xs)->k a xs->P (.VG a)):P v:=qw h λa b=>Xs b λxs c d=>g a xs c d
abbrev two {c:Type} (es:V2 c) (k:c->c->VS):VS:=V2.Wc (Y1:=λ_=>VS) es V3 λa es=>V2.Wc (Y1:=λ_=>VS) es V3 λb es=>V2.Wc (Y1:=λ_=>VS) es (k a b) λ_ _=>V3
@[elab_as_elim] def zd {c:Type} {P:V2 c->Prop} {es:V2 c} {k} (h:two es k=V6) (g:∀a b,k a b=V6->P [a,b]):P es:=by rcases es with _|⟨a,_|⟨b,_|_⟩⟩<;>first|show g _ _ h|cases h
abbrev only {b:Type} (es:V2 b) (k:b->VS):VS:=V2.Wc (Y1:=λ_=>VS) es V3 λa es=>V2.Wc (Y1:=λ_=>VS) es (k a) λ_ _=>V3
@[elab_as_elim] def mV {b:Type} {P:V2 b->Prop} {es:V2 b} {k} (h:only es k=V6) (g:∀a,k a=V6->P [a]):P es:=by rcases es with _|⟨a,_|_⟩<;>first|show g _ h|cases h
structure YK where
 op:Operator
 wp:V->V->WC->dQ->Prop
 ok:∀{c n a b M P},wp a b M P->Yj c n (mF op) a b M P
abbrev YK.Zj:YK where
 op:=.Add
 wp a b M P:=gB a λi=>gB b λj=>P (.Vl (i+j)) M
 ok w:=iK w λi c=>iK c λj d=>.Zj d
abbrev YK.subI:YK where
 op:=.Sub
 wp a b M P:=gB a λi=>gB b λj=>P (.Vl (i-j)) M
 ok w:=iK w λi c=>iK c λj d=>.subI d
abbrev YK.mulI:YK where
 op:=.Mult
 wp a b M P:=gB a λi=>gB b λj=>IntMulOk i j/\P (.Vl (i*j)) M
 ok w:=iK w λi c=>iK c λj d=>.mulI d.1 d.2
abbrev YK.modI:YK where
 op:=.Mod
 wp a b M P:=gB a λi=>gB b λj=>j≠0/\P (.Vl (i.fmod j)) M
 ok w:=iK w λi c=>iK c λj d=>.modI d.1 d.2
abbrev YK.divI:YK where
 op:=.FloorDiv
 wp a b M P:=gB a λi=>gB b λj=>j≠0/\nQ i j=V3/\P (.Vl (i.fdiv j)) M
 ok w:=iK w λi c=>iK c λj d=>.divI d.1 d.2.1 d.2.2
abbrev YK.addT:YK where
 op:=.Add
 wp a b M P:=lE a λxs=>lE b λys=>xs.V0+ys.V0<=cE/\P (.Vj (xs++ys)) M
 ok w:=kC w λi c=>kC c λj d=>.addT d.1 d.2
abbrev YK.addL:YK where
 op:=.Add
 wp a b M P:=eu M a λ_ xs=>eu M b λ_ ys=>xs.V0+ys.V0<=cE/\P (.VG M.V0) (M++[.VF (xs++ys)])
 ok w:=jQ w λa xs c d=>jQ d λb ys e f=>.addL c e f.1 f.2
abbrev YK.mulL:YK where
 op:=.Mult
 wp a b M P:=eu M a λ_ xs=>gB b λk=>xs≠[]/\0<=k/\xs.V0*k.Xd<=2^24/\P (.VG M.V0) (M++[.VF (eF k.Xd xs).ZW])
 ok w:=by apply jQ w λa xs c w=>?_;apply iK w λk w=>?_;let(d,e,f,g):=w;let(m,VC):=rY e;show .mulL c d f g
abbrev Xp.Yq (op:YK) (l r:Xp):Xp where
 Wm K E e:=QU e λd o f _=>o==op.op&&l.Wm K E d&&r.Wm K E f
 wp c n σ M P:=l.wp c n σ M λa g=>r.wp c n σ g λb i=>op.wp a b i P
 ok h s w:=by apply LB h λd o f p j=>?_;apply ba3 j λj k m=>Hg j ?_;show .Yq ((l.ok k s w).W9 λa g w=>(r.ok m s w).W9 λb i w=>op.ok w)
structure Wl where
 op:CmpOp
 wp:V->V->WC->(VS->Prop)->Prop
 ok:∀{c n a b M B},wp a b M B->Yj c n (eS op) a b M λv M'=>∃t,v=.WW t/\B t/\M'=M
abbrev Wl.ofI (op:CmpOp) (f:Vo->Vo->VS) (h:∀{c n M P i j},P (.WW (f i j)) M->Yj c n (eS op) (.Vl i) (.Vl j) M P):Wl where
 op:=op
 wp a b M B:=gB a λi=>gB b λj=>B (f i j)
 ok w:=iK w λi d=>iK d λj e=>h ⟨_,VC,e,VC⟩
abbrev Wl.eqI:Wl:=.ofI .Eq (·==·) .eqI
abbrev Wl.neI:Wl:=.ofI .NotEq (·!=·) .neI
abbrev Wl.ltI:Wl:=.ofI .Lt (λi j=>decide (i<j)) .ltI
abbrev Wl.gtI:Wl:=.ofI .Gt (λi j=>decide (j<i)) .gtI
abbrev Wl.leI:Wl:=.ofI .LtE (λi j=>decide (i<=j)) .leI
abbrev Wl.geI:Wl:=.ofI .GtE (λi j=>decide (j<=i)) .geI
abbrev Wl.ofS (op:CmpOp) (f:Vm->Vm->VS) (h:∀{c n M P i j},P (.WW (f i j)) M->Yj c n (eS op) (.Vn i) (.Vn j) M P):Wl where
 op:=op
 wp a b M B:=oH a λi=>oH b λj=>B (f i j)
 ok w:=sG w λi d=>sG d λj e=>h (g6 _ rfl e rfl)
abbrev Wl.eqS:Wl:=.ofS .Eq (·==·) .eqS
abbrev Wl.neS:Wl:=.ofS .NotEq (·!=·) .neS
abbrev Wl.inS:Wl:=.ofS .In (λi j=> !(kG j i 0 j.V0 1).WN) .inS
abbrev Ih (xs ys:V2 V):Prop:=eU xs=V6/\eU ys=V6/\wF xs ys=V6/\pX xs<=50
abbrev Wl.neT:Wl where
 op:=.NotEq
 wp a b M B:=lE a λxs=>lE b λys=>Ih xs ys/\B (!nC xs ys)
 ok w:=kC w λi c=>kC c λj d=>by let((h1,h2,h3,h4),w2):=d;show .neT h1 h2 h3 h4 (g6 _ rfl w2 rfl)
abbrev Wl.eqL0:Wl where
 op:=.Eq
 wp a b M B:=eu M a λ_ xs=>eu M b λ_ ys=>ys=[]/\B xs.WN
 ok w:=jQ w λa xs c d=>jQ d λb ys f g=>o0_2 g λe h=>.eqL0 c (e▸f) (g6 _ rfl h rfl)
abbrev Wl.neL0:Wl where
 op:=.NotEq
 wp a b M B:=eu M a λ_ xs=>eu M b λ_ ys=>ys=[]/\B (!xs.WN)
 ok w:=jQ w λa xs c d=>jQ d λb ys f g=>o0_2 g λe h=>.neL0 c (e▸f) (g6 _ rfl h rfl)
abbrev Wl.isN:Wl where
 op:=.Is
 wp a b M B:=b=.V8/\B (XQ a)
 ok w:=by let(rfl,w):=w;show .XQ (g6 _ rfl w rfl)
abbrev Wl.notN:Wl where
 op:=.IsNot
 wp a b M B:=b=.V8/\B (!isNone a)
 ok w:=by let(rfl,w):=w;show .notNone (g6 _ rfl w rfl)
abbrev qU (x:V) (xs:V2 V):Prop:=f6 x=V6/\eU xs=V6/\(∀y∈xs,AV y x=V6)/\pX xs<=50
abbrev Wl.notInL:Wl where
 op:=.NotIn
 wp a b M B:=eu M b λ_ xs=>qU a xs/\B (!xs.any λy=>gc y a)
 ok w:=jQ w λa xs c d=>by let((h2,h3,h4,h5),w1):=d;show .notInL c h2 h3 h4 h5 (g6 _ rfl w1 rfl)
abbrev Wl.notInT:Wl where
 op:=.NotIn
 wp a b M B:=lE b λxs=>qU a xs/\B (!xs.any λy=>gc y a)
 ok w:=kC w λxs c=>by let((h2,h3,h4,h5),w1):=c;show .notInT h2 h3 h4 h5 (g6 _ rfl w1 rfl)
abbrev Wl.inD:Wl where
 op:=.In
 wp a b M B:=t9 b λd=>∃q es,ZG q/\M[d]?=V1 (.WD es)/\(∀e∈es,q e.1=V6)/\q a=V6/\B (oG es a).XZ
 ok w:=qw w λa w=>by let(q,es,m,c,f,g,h):=w;show .inD m c f g (g6 _ rfl h rfl)
def Yj.W9 {f a b} {P P':dQ} (h:Yj c n f a b M P) (k:∀v M',P v M'->P' v M'):Yj c n f a b M P':=λA ι s d e g G i j=>(h A ι s d e g G i j).W9 λ_ _ _ M' l=>Xs l λv a b=>aV v a (k v M' b)
def Wl.use (o:Wl) {a b} {P:dQ} (w:o.wp a b M λt=>P (.WW t) M):Yj c n (eS o.op) a b M P:=(o.ok w).W9 λv M' d=>o1_3 d λt e p m=>by rw[e,m];show p
def Wl.useB (o:Wl) {a b} {d:VS->WC->Prop} (w:o.wp a b M λt=>d t M):Yj c n (eS o.op) a b M λv M'=>∃t,v=.WW t/\d t M':=(o.ok w).W9 λv M' f=>o1_3 f λt e p m=>by rw[m];show aV t e p
abbrev IG (op:CmpOp) (os:V2 CmpOp) (rs:V2 Ve.Vi) (k:Ve.Vi->VS):VS:=only os λo=>only rs λr=>o==op&& !Aw o r&&k r
@[elab_as_elim] def Ar {P:V2 CmpOp->V2 Ve.Vi->Prop} {op os rs k} (h:IG op os rs k=V6) (g:∀r,Aw op r=V3->k r=V6->P [op] [r]):P os rs:=
 mV h λo h=>mV h λr h=>ba3 h λa b c=>(λe:o=op=>e▸g r (e▸(dh _).mp b) c) (VV.mp a)
abbrev Xp.Ye (op:Wl) (l r:Xp):Xp where
 Wm K E e:=BU e λd os rs _=>IG op.op os rs (r.Wm K E)&&l.Wm K E d
 wp c n σ M P:=l.wp c n σ M λa f=>r.wp c n σ f λb g=>op.wp a b g λt=>P (.WW t) g
 ok h s w:=by apply vo h λd os rs p i=>?_;apply ba2 i λi j=>Ar i λk m o=>?_;show .Ye ((l.ok j s w).W9 λa f w=>(r.ok o s w).W9 λb g w=>op.use w) m
abbrev Av (op:YX) (o:YX) (es:V2 Ve.Vi) (k:Ve.Vi->Ve.Vi->VS):VS:=o==op&&two es k
@[elab_as_elim] def tF {P:YX->V2 Ve.Vi->Prop} {op o es k} (h:Av op o es k=V6) (g:∀l r,k l r=V6->P op [l,r]):P o es:=ba2 h λa b=>Hg a (zd b g)
abbrev Xp.and (l r:Xp):Xp where
 Wm K E e:=wL e λo es _=>Av .And o es λd f=>l.Wm K E d&&r.Wm K E f
 wp c n σ M P:=l.wp c n σ M λa g=>sH a λb=>if b then r.wp c n σ g P else P (.WW V3) g
 ok h s w:=by
  apply s8 h λo es p i=>?_;apply tF i λd f j=>ba2 j λj k=>?_;apply .and ((l.ok j s w).W9 λa g w=>?_);apply w4 w λb w=>aV b pO.WW ?_;cases b with
  |V6=>show .boolOne (r.ok k s w)
  |V3=>show w
abbrev Xp.or (l r:Xp):Xp where
 Wm K E e:=wL e λo es _=>Av .Or o es λd f=>l.Wm K E d&&r.Wm K E f
 wp c n σ M P:=l.wp c n σ M λa g=>sH a λb=>if b then P (.WW V6) g else r.wp c n σ g P
 ok h s w:=by
  apply s8 h λo es p i=>?_;apply tF i λd f j=>ba2 j λj k=>?_;apply .or ((l.ok j s w).W9 λa g w=>?_);apply w4 w λb w=>aV b pO.WW ?_;cases b with
  |V6=>show w
  |V3=>show .boolOne (r.ok k s w)
abbrev Lh (e:Ve.Vi):VS:= !wL e (λ_ _ _=>V6)&& !BU e (λ_ _ _ _=>V6)&& !R8 e (λ_ _ _=>V6)&& !R9 e (λ_ _ _ _=>V6)
def Jo {Vb whole} (h:Lh e=V6):Im e Vb whole=(do let v <-whole;uT e.WS;GS [v] (UJ v)):=by cases e<;>first|rfl|(cases h;done)
abbrev Tp.YM (x:Xp):Tp where
 Wm K E e:=Lh e&&x.Wm K E e
 wp c n σ M B:=x.wp c n σ M λv a=>sH v λb=>B b a
 ok h s w:=by rw[aN] at h;show .YM ((x.ok h.2 s w).W9 λv a w=>w4 w λb w=>aV b rfl w) λVb d=>Jo h.1
abbrev Tp.not (t:Tp):Tp where
 Wm K E e:=R8 e λo x _=>o==.Not&&t.Wm K E x
 wp c n σ M B:=t.wp c n σ M λb a=>B (!b) a
 ok h s w:=by apply OC h λo x p d=>?_;show ba2 d λd f=>Hg d (.not (t.ok f s w))
abbrev Tp.and (l r:Tp):Tp where
 Wm K E e:=wL e λo es _=>Av .And o es λa d=>l.Wm K E a&&r.Wm K E d
 wp c n σ M B:=l.wp c n σ M λb f=>if b then r.wp c n σ f B else B V3 f
 ok h s w:=by
  apply s8 h λo es p g=>?_;apply tF g λa d i=>ba2 i λi j=>?_;apply .and ((l.ok i s w).W9 λb f w=>?_);cases b with
  |V6=>show .and ((r.ok j s w).W9 λb k w=>by cases b with|V6=>show .andNil w|V3=>show w)
  |V3=>show w
abbrev Tp.or (l r:Tp):Tp where
 Wm K E e:=wL e λo es _=>Av .Or o es λa d=>l.Wm K E a&&r.Wm K E d
 wp c n σ M B:=l.wp c n σ M λb f=>if b then B V6 f else r.wp c n σ f B
 ok h s w:=by
  apply s8 h λo es p g=>?_;apply tF g λa d i=>ba2 i λi j=>?_;apply .or ((l.ok i s w).W9 λb f w=>?_);cases b with
  |V6=>show w
  |V3=>show .or ((r.ok j s w).W9 λb k w=>by cases b with|V6=>show w|V3=>show .orNil w)
abbrev Tp.Ye (op:Wl) (l r:Xp):Tp where
 Wm K E e:=BU e λd os rs _=>IG op.op os rs (r.Wm K E)&&l.Wm K E d
 wp c n σ M B:=l.wp c n σ M λa f=>r.wp c n σ f λb g=>op.wp a b g λt=>B t g
 ok h s w:=by apply vo h λd os rs p i=>?_;apply ba2 i λi j=>Ar i λk m o=>?_;show .Ye ((l.ok j s w).W9 λa f w=>(r.ok o s w).W9 λb g w=>op.useB w) m
abbrev Tp.ZT (f g:Wl) (x y z:Xp):Tp where
 Wm K E e:=BU e λi os rs _=>two os λp q=>two rs λj k=>p==f.op&&q==g.op&& !lastMarks [p,q] [j,k]&&x.Wm K E i&&y.Wm K E j&&z.Wm K E k
 wp c n σ M B:=x.wp c n σ M λa l=>y.wp c n σ l λb o=>f.wp a b o λt=>if t then z.wp c n σ o λd r=>g.wp b d r λt=>B t r else B V3 o
 ok h s w:=by
  apply vo h λu os rs p A=>?_;apply zd A λC D A=>zd A λj k A=>ba6 A λF G H I J L=>?_;have H:=(dh _).mp H;apply(λ(F:C=f.op) (G:D=g.op)=>?_) (VV.mp F) (VV.mp G);rw[F,G] at H⊢;apply .ZT ((x.ok I s w).W9 λa l w=>(y.ok J s w).W9 λb o w=>(f.ok w).W9 λv M' N=>o1_3 N λt e w m=>aV t e ?_) H;rw[m];clear e;cases t with
  |V6=>show(z.ok L s w).W9 λd r w=>g.useB w
  |V3=>show w
abbrev Xp.ZK (t:Tp) (x y:Xp):Xp where
 Wm K E e:=R9 e λt' a d _=>t.Wm K E t'&&x.Wm K E a&&y.Wm K E d
 wp c n σ M P:=t.wp c n σ M λb f=>if b then x.wp c n σ f P else y.wp c n σ f P
 ok h s w:=by
  apply OD h λt' a d p g=>?_;apply ba3 g λg i j=>.if ((t.ok g s w).W9 λb f w=>?_);cases b with
  |V6=>show x.ok i s w
  |V3=>show y.ok j s w
end
end
variable {E:En} {e:PySem.Expr} {σ:Sig}
mutual open Nat
abbrev Xp.Vu (f:VE) (xs:Ap):Xp where
 Wm K E e:=Gn e λg es ks _=>ks.WN&&zF g (λx _=>GV K E.sc x (.lit f))&&qv K f&&xs.Wm K E es
 wp c n σ M P:=xs.wp c n σ M λvs a=>aQ c n f vs a P
 ok h s w:=by apply BV h λg es ks p b=>?_;apply ba4 b λe d i j=>?_;rw[bU.mp e];apply jh d λx k d=>?_;show .Vu (Cq d (g6 f rfl i ((xs.ok j s w).W9 λvs a w=>w.2))) (xs.un j)
structure Mp where
 f:VE
 Wm:Zq->Vm->VS
 pre:V->WC->Prop
 ok:∀{c n ov M name},Wm c.K name=V6->pre ov M->sM c n ov name M f
abbrev Xp.W3 (m:Mp) (o:Xp) (xs:Ap):Xp where
 Wm K E e:=Gn e λg es ks p=>ks.WN&&qv K m.f&&xs.Wm K E es&&decide (es.V0<29)&&De g λo' name a=>vE o'&&a.endLine==p.line&&m.Wm K name&&o.Wm K E o'
 wp c n σ M P:=o.wp c n σ M λb d=>m.pre b d/\xs.wp c n σ d λvs i=>aQ c n m.f (b::vs) i P
 ok h s w:=by apply BV h λg es ks p j=>?_;apply ba5 j λe k l q r=>?_;rw[bU.mp e];letI q:=W1 q;apply wM r λo' name a t=>ba4 t λt u v x=>?_;show .W3 ((o.ok x s w).W9 λb d w=>g6 m.f (m.ok v w.1) k ((xs.ok l s w.2).W9 λvs i w=>w.2)) t u q (xs.un l)
def rF {x:Vm}:∀{ns:V2 Vm} {vs:V2 V},ns.contains x=V3->(ns.Y8 vs).VY x=V8
 |[],_,_=>by simp
 |_::_,[],_=>by show rfl
 |y::ns,v::vs,h=>by simp only[V2.contains_cons,VS.or_eq_false_iff] at h;rw[gv,bH,h.1];show rF h.2
def rE {x:Vm} {v:V}:∀{ns:V2 Vm} {vs:V2 V} {i:V9},kT ns=V6->ns[i]?=V1 x->vs[i]?=V1 v->(ns.Y8 vs).VY x=V1 v:=λ{ns}=>by
 induction ns with
 |VH=>show λ_ h _=>by cases h
 |V4 y ns a=>
  intro vs i nd h k;cases vs with
  |VH=>cases k
  |V4 u vs=>
  cases i with
  |WM=>
   cases h;cases k;rw[gv,bH];simp
  |Wh i=>
   simp only[g8] at h k;have nd:=(aN _ _).mp nd
   focus rw[gv,bH]
   letI b:(x==y)=V3:=by rw[Vz];rintro rfl;have:=(dh _).mp nd.1;rw[uL,decide_eq_false_iff_not] at this;show this (aF h)
   rw[b];show a nd.2 h k
abbrev Mp.XG (C f:V9):Mp where
 f:=.VG f
 Wm K name:=Gv K C name f&& !(WG C).contains name
 pre ov M:=t9 ov λa=>∃vs,Ob M a C vs
 ok {c n ov M name} h w:=by rw[aN,dh] at h;apply qw w λa w=>?_;let(vs,d,b,g):=w;show .XG b g (rF h.2) h.1
abbrev Mp.ZZ (id:Zf) (name:Vm) (b:Slot "list" name id) (d:DR (.Va id)=X3 (.W5 "method_descriptor")):Mp where
 f:=.Va id
 Wm _ x:=x==name
 pre ov M:=t9 ov λa=>∃xs,M[a]?=V1 (.VF xs)
 ok {c n ov M x} h w:=by obtain rfl:=VV.mp h;apply qw w λa w=>?_;let(xs,w):=w;show .VF b d w
abbrev Mp.dic (id:Zf) (name:Vm) (b:Slot "dict" name id) (d:DR (.Va id)=X3 (.W5 "method_descriptor")):Mp where
 f:=.Va id
 Wm _ x:=x==name
 pre ov M:=t9 ov λa=>∃xs,M[a]?=V1 (.WD xs)
 ok {c n ov M x} h w:=by obtain rfl:=VV.mp h;apply qw w λa w=>?_;let(xs,w):=w;show .WD b d w
abbrev Mp.WX:Mp:=.ZZ _ _ F.slot_list_append F.type_list_append
abbrev Mp.Zc:Mp:=.ZZ _ _ F.slot_list_extend F.type_list_extend
abbrev Mp.pop:Mp:=.ZZ _ _ F.slot_list_pop F.type_list_pop
abbrev Mp.index:Mp:=.ZZ _ _ F.slot_list_index F.type_list_index
abbrev Mp.ZN:Mp:=.dic _ _ F.slot_dict_get F.type_dict_get
abbrev Mp.setdefault:Mp:=.dic _ _ F.slot_dict_setdefault F.type_dict_setdefault
abbrev Mp.dpop:Mp:=.dic _ _ F.slot_dict_pop F.type_dict_pop
abbrev Mp.VL:Mp:=.dic _ _ F.slot_dict_items F.type_dict_items
set_option maxRecDepth 20000 in
abbrev Mp.text (id:Zf) (name:Vm) (b:Slot "str" name id) (d:DR (.Va id)=X3 (.W5 "method_descriptor")):Mp where
 f:=.Va id
 Wm _ x:=x==name
 pre ov M:=oH ov λ_=>True
 ok {c n ov M x} h w:=by apply sG w λy _=>?_;obtain rfl:=VV.mp h;intro A ι s g pl i G r Q E q;let(t,VC):=r;have hT:s.Xj (.Vn y t) "str":=SA s y t;apply getMethod_builtin hT F.plainAttrs_str b d (λa h=>by cases h) ?_;show q ι s _ .Vt G .Vt rfl
abbrev Mp.isspace:Mp:=.text _ _ F.slot_str_isspace F.type_str_isspace
abbrev Xp.Wv (o:Xp) (C i:V9):Xp where
 Wm K E e:=De e λo' name _=>vE o'&&o.Wm K E o'&&(WG C)[i]?==V1 name&&kT (WG C)&&Hj K C name
 wp c n σ M P:=o.wp c n σ M λb f=>∃a vs v,b=.VG a/\Ob f a C vs/\vs[i]?=V1 v/\xN v=V3/\P v f
 ok h s w:=by apply wM h λo' name p g=>?_;apply ba5 g λg j k l m=>?_;apply .attr ((o.ok j s w).W9 λb f w=>?_) g;let(a,vs,v,e,(d,k1,k2),k3,k4,k5):=w;show aV v ⟨a,d,C,_,e,k1,k2,rE l (VV.mp k) k3,m,k4⟩ k5
abbrev Xp.We (o i:Xp):Xp where
 Wm K E e:=BQ e λo' d _=>o.Wm K E o'&&i.Wm K E d
 wp c n σ M P:=o.wp c n σ M λa f=>i.wp c n σ f λb g=>j8 c n a b g P
 ok h s w:=by apply se h λo' d p j=>?_;show ba2 j λj k=>.sub ((o.ok j s w).W9 λa f w=>i.ok k s w)
abbrev Xp.from (o:Xp) (k:V9):Xp where
 Wm K E e:=BQ e λo' f _=>yG f (λa b d _=>b.XQ&&d.XQ&&decide (1<=k)&&match a with|V1 a=>Iu a k|V8=>V3)&&o.Wm K E o'
 wp c n σ M P:=o.wp c n σ M λv g=>lE v λxs=>k<=xs.V0/\xs.V0<=cE/\P (.Vj (xs.XV k)) g
 ok h s w:=by
  apply se h λo' f p i=>?_;apply ba2 i λi j=>ux i λa b d l m=>ba4 m λq r t u=>?_;rw[dG.mp q,dG.mp r];have t:=W1 t;clear m;cases a with
  |V8=>show(aO u).W2
  |V1 a=>
   apply jd u λk' x=>?_;show .from ((o.ok j s w).W9 λv g w=>kC w λxs w=>UA xs rfl t w.1 w.2.1 w.2.2)
abbrev Xp.WI (o:Xp):Xp where
 Wm K E e:=BQ e λo' f _=>yG f (λa b d _=>a.XQ&&d.XQ&&match b with|V1 a=>Iu a 1|V8=>V3)&&o.Wm K E o'
 wp c n σ M P:=o.wp c n σ M λv g=>oH v λx=>∃y,(∀t u,(oV x t cQ (V1 (1,u)) cQ=.YM (.Vn x t)/\y=x)\/(oV x t cQ (V1 (1,u)) cQ=.Vn y/\y.V0<=cE))/\P (.Vn y) g
 ok h s w:=by
  apply se h λo' f p i=>?_;apply ba2 i λi j=>ux i λa b d k l=>ba3 l λm q r=>?_;rw[dG.mp m,dG.mp q];clear l;cases b with
  |V8=>show(aO r).W2
  |V1 a=>
   apply jd r λk' z=>?_;show .strTo ((o.ok j s w).W9 λv g w=>sG w λx w=>w.W2 λy w=>qs x y rfl w.1 w.2)
abbrev Xp.join (o:Xp) (y:Vm):Xp where
 Wm K E e:=Lw e λes _=>two es λa b=>QT a (λx i d _=>i==-1&&d.XQ&&o.Wm K E x)&&Zl b y
 wp c n σ M P:=o.wp c n σ M λv f=>oH v λx=>(x++y).V0<=cE/\P (.Vn (x++y)) f
 ok h s w:=by apply Jv h λes p g=>?_;apply zd g λa b j=>?_;apply ba2 j λg l=>Lz g λx i d m q=>jd l λk r=>ba3 q λt u z=>?_;rw[VV.mp t,dG.mp u];show .join ((o.ok z s w).W9 λv f w=>sG w λx w=>aV x rfl w)
end
section
variable {σ':Sig} {F F':iD}
mutual open Nat
abbrev t7 (XT:V2 (VK Vm)):VS:=kT (XT.Wx id)
def IK {x:Vm} {XT:V2 (VK Vm)}:∀{k:V9},cat XT k=V1 x->x∈XT.Wx id:=by
 induction XT with
 |VH=>intro _ h;cases h
 |V4 y XT a=>
  intro k h;cases k with
  |WM=>cases (show y=V1 x from h);show .WI _
  |Wh k=>
   letI:=a (k:=k) h;clear h k;cases y with
   |V8=>show this
   |V1 y=>show bN _ this
def Pg {x:Vm}:∀{XT:V2 (VK Vm)} {j k:V9},t7 XT=V6->cat XT j=V1 x->cat XT k=V1 x->j=k:=by
 intro a
 induction a with
 |VH=>
  intro _ _ _ h _;cases h
 |V4 y XT b=>
  intro j k nd h g
  have nd2:∀z,y=V1 z->z∉XT.Wx id:=λz e=>by clear g h k j;subst e;letI h:=((aN _ _).mp (show(!(XT.Wx id).contains z&&kT (XT.Wx id))=V6 from nd)).1;rw[dh,uL,decide_eq_false_iff_not] at h;show h
  have nd3:t7 XT=V6:=by
   clear nd2;clear g h k j;cases y with
   |V8=>show nd
   |V1 z=>show((aN _ _).mp (show(!(XT.Wx id).contains z&&kT (XT.Wx id))=V6 from nd)).2
  cases j with
  |WM=>
   cases k with
   |WM=>rfl
   |Wh k=>show Vy (IK (XT:=XT) (k:=k) g) (nd2 x h)
  |Wh j=>
   cases k with
   |WM=>show Vy (IK (XT:=XT) (k:=j) h) (nd2 x g)
   |Wh k=>show VN _ (b nd3 (j:=j) (k:=k) h g)
def L8 {v u:V} {σ:YY}:∀{k j:V9},XP (YA σ k v) j=V1 u->(j=k/\u=v)\/(j≠k/\XP σ j=V1 u):=by
 induction σ with
 |VH=>intro _ _ h;cases h
 |V4 x σ b=>
  intro k j h;cases k with
  |WM=>
   cases j with
   |WM=>show .XB {VC,(cG h).Vh}
   |Wh j=>show .Wt {nofun,h}
  |Wh k=>
   cases j with
   |WM=>show .Wt {nofun,h}
   |Wh j=>show(b (k:=k) (j:=j) h).W2 (λa=>.XB {VN _ a.1,a.2}) λa=>.Wt {λe=>a.1 (gR e),a.2}
def Sim.YA {XT:V2 (VK Vm)} {k x v} (nd:t7 XT=V6) (a:cat XT k=V1 x) (s:Sim XT σ ρ):Sim XT (YA σ k v) ((x,v)::ρ):=λj y u b d=>by
 rcases L8 d with⟨VC,VC⟩|⟨ne,d⟩
 .rw[a] at b;cases b;simp
 .rw[bH,Vz.WO λz=>ne (Pg nd b (by rw[z];show a))];show s j y u b d
abbrev Le:YY->YY->Prop
 |[],_=>True
 |V8::σ,σ'=>Le σ σ'.XW
 |V1 v::σ,σ'=>σ'.head?=V1 (V1 v)/\Le σ σ'.XW
def Le.XP {σ:YY}:∀{σ':YY} {k:V9} {v:V},Le σ σ'->Lake.XP σ k=V1 v->Lake.XP σ' k=V1 v:=by
 induction σ with
 |VH=>intro _ _ _ _ h;cases h
 |V4 x σ a=>
  intro σ' k v l h;letI b:Le σ σ'.XW:=by cases x with|V8=>show l|V1 u=>show l.2
  cases k with
  |WM=>
   cases (show x=V1 v from h);cases σ' with
   |VH=>cases l.1
   |V4 y σ'=>show cG l.1
  |Wh k=>
   letI:=a (k:=k) b h;cases σ' with
   |VH=>rw[this]
   |V4 y σ'=>show this
def Le.Vt {σ:YY}:Le σ σ:=by
 induction σ with
 |VH=>trivial
 |V4 x σ a=>cases x with|V8=>show a|V1 v=>show{VC,a}
def Sim.weak {XT} (s:Sim XT σ' ρ) (l:Le σ σ'):Sim XT σ ρ:=λk x v a hv=>s k x v a (l.XP hv)
set_option genCtorIdx true in
inductive Tg where
 |Ws (k:V9)|Xn (ks:V2 V9)
abbrev zQ (YE:VS) (E:En) (k:V9) (e:Ve.Vi):VS:=zF e λx _=>Gu E k x&&n5 YE E.sc x
abbrev qS (YE:VS) (E:En):V2 V9->V2 Ve.Vi->VS
 |[],es=>es.WN
 |k::ks,es=>es.Wc V3 λe es=>zQ YE E k e&&qS YE E ks es
abbrev Tg.Wm (YE:VS) (E:En) (t:Tg) (e:Ve.Vi):VS:=t7 E.XT&&match t with
 | .Ws k=>zQ YE E k e
 | .Xn ks=>BP e λes _ _=>qS YE E ks es
abbrev ye:YY->V2 V9->V2 V->YY
 |σ,k::ks,v::vs=>ye (YA σ k v) ks vs
 |σ,_,_=>σ
abbrev Tg.bind (t:Tg) (v:V) (σ:YY) (a:YY->Prop):Prop:=match t with
 | .Ws k=>a (YA σ k v)
 | .Xn ks=>lE v λvs=>vs.V0=ks.V0/\a (ye σ ks vs)
def B8 {YE k v} (nd:t7 E.XT=V6) (h:zQ YE E k e=V6) (s:Sim E.XT σ ρ):ig e=V6/\∃x,xw c n E.sc YE e v ρ M ((x,v)::ρ) M/\Sim E.XT (YA σ k v) ((x,v)::ρ):=by apply jh h λx p a=>?_;rw[aN] at a;show{VC,x,.name a.2,s.YA nd (qm a.1).1}
def uy {YE} (nd:t7 E.XT=V6):∀{ks:V2 V9} {es:V2 Ve.Vi} {vs:V2 V} {σ:YY} {ρ:Rho},qS YE E ks es=V6->vs.V0=ks.V0->Sim E.XT σ ρ->
    ∃d,AM c n E.sc YE es vs ρ M d M/\Sim E.XT (ye σ ks vs) d:=by
 intro f
 induction f with
 |VH=>
  intro es vs σ ρ h l s;obtain rfl:=bU.mp h;obtain rfl:=dm l;show aV ρ .VH s
 |V4 k ks g=>
  intro es vs σ ρ h l s;cases es with
  |VH=>cases h
  |V4 e es=>
   cases vs with
   |VH=>cases l
   |V4 v vs=>
    have h:=(aN _ _).mp h;let(u,x,a,s1):=B8 (c:=c) (n:=n) (M:=M) (v:=v) nd h.1 s;let(d,b,i):=g (vs:=vs) h.2 (by show gR (l)) s1;show aV d (.V4 a b u) i
def Tg.ok {t:Tg} {YE v K} (h:t.Wm YE E e=V6) (s:Sim E.XT σ ρ) (w:t.bind v σ K):∃d,xw c n E.sc YE e v ρ M d M/\∃σ',Sim E.XT σ' d/\K σ':=by
 unfold Tg.Wm at h;rw[aN] at h;cases t with
 |Ws k=>
  let(_,x,a,s1):=B8 (c:=c) (n:=n) (M:=M) (v:=v) h.1 h.2 s;show aV _ a {_,s1,w}
 |Xn ks=>
  apply ow h.2 λes k p f=>?_;apply kC w λvs w=>?_;have l:=w.1;have w:=w.2;let(d,b,g):=uy (c:=c) (n:=n) (M:=M) (vs:=vs) h.1 f l s;show aV d (.tuple .Vj b) {_,g,w}
abbrev Sp.Yt (k:V9) (x:Xp):Sp where
 Wm K E s:=zG s λts e _=>only ts λt=>t7 E.XT&&zQ V3 E k t&&lP e&&x.Wm K E e
 wp c n σ M F:=x.wp c n σ M λv aT=>F .Wo (YA σ k v) aT
 ok h s w:=by apply qk h λts e p a=>?_;apply mV a λt b=>?_;simp only[aN] at b;let(((nd,h3),h4),h5):=b;apply jh h3 λy d f=>?_;rw[aN] at f;show .assign ((x.ok h5 s w).W9 λv aT w=>⟨_,s.YA nd (qm f.1).1,w⟩) f.2 h4
abbrev wB (t:Ve.Vi):Vm:=Ym (t.VZ=23) (λh=>lJ t h λa _=>a) λ_=>{#[]}
abbrev F3 (e:Ve.Vi):VS:= !BP e λvs _ _=> !vs.Z4 (foldedForSure 8)&&vs.Z4 (constantsAlone 8)
def A8 {d i:Type} {g:d->VK i} {f:d->i}:∀{l:V2 d},(∀a∈l,∀b,g a=V1 b->f a=b)->(l.Wx g).V0=l.V0->l.Wx g=l.VP f:=by
 intro j
 induction j with
 |VH=>
  intro _ _;show rfl
 |V4 a l k=>
  intro m h;rw[wc] at h⊢;cases z:g a with
  |V8=>
   rw[z] at h;letI:=V2.length_filterMap_le g l;rw[cW] at h;show Vy ((rwt this h.Vh):l.V0+1<=l.V0) (kj _)
  |V1 b=>
   rw[z] at h;rw[bT,m a cP b z,k (λa h=>m a (bN _ h)) (gR h)]
def O0 {x b:Vm} (c:VS) (h:(if c=V6 then V1 x else V8)=V1 b):x=b:=by
 cases c with
 |V6=>show cG h
 |V3=>show(by cases h)
def Iv {d:Type} {P:d->Prop} {c:Prop} [Yk c] {a b:d} (f:P a) (g:¬c->P b):P (if c then a else b):=by
 by_cases z:c
 .rw[Vw z];show f
 .rw[Vd z];show g z
def I5 {ts:V2 Ve.Vi} {k p} {Vb:Env} (e:Ve.Vi):e.VZ=25\/jX [.Yl ts k p] e Vb=X3 V8:=by cases e<;>first|show .Wt rfl|show .XB rfl
def NR {ts:V2 Ve.Vi} {k p} {e:Ve.Vi} {Vb:Env} (d:∀t∈ts,∃x q,t=.Name x q) (h:F3 e=V6):
    jX [.Yl ts k p] e Vb=X3 V8\/jX [.Yl ts k p] e Vb=X3 (V1 (ts.VP wB)):=by
 rcases I5 (ts:=ts) (k:=k) (p:=p) (Vb:=Vb) e with i|i
 .revert h;apply @iY (λe=>F3 e=V6->jX [.Yl ts k p] e Vb=X3 V8\/jX [.Yl ts k p] e Vb=X3 (V1 (ts.VP wB))) e i λvs k' g h=>?_;have h:(!(!vs.Z4 (foldedForSure 8)&&vs.Z4 (constantsAlone 8)))=V6:=h;clear i e;apply Iv (P:=λx=>x=X3 V8\/x=X3 (V1 (ts.VP wB))) (.XB rfl) λ_=>Iv (P:=λx=>x=X3 V8\/x=X3 (V1 (ts.VP wB))) (.XB rfl) λ_=>Iv (P:=λx=>x=X3 V8\/x=X3 (V1 (ts.VP wB))) (.XB rfl) λj=>Iv (P:=λx=>x=X3 V8\/x=X3 (V1 (ts.VP wB))) (.XB rfl) λl=>?_;rw[jN.WO l,uP,wu,dh] at h;rw[h];have h5:=(VS.or_eq_false_iff.mp (jN.WO j)).1;apply .Wt (VN (λx=>X3 (V1 x)) (A8 (f:=wB) (λa m b o=>?_) (Yk.not_not.mp (mt bne_iff_ne.WO (jN.mp h5)))));let(x,q,VC):=d a m;show O0 _ o
 .show .XB i
def EI {YE}:∀{ks:V2 V9} {es:V2 Ve.Vi},qS YE E ks es=V6->(es.VP wB).Z4 (n5 YE E.sc)=V6/\es.V0=ks.V0:=by
 intro d
 induction d with
 |VH=>
  intro es h;obtain rfl:=bU.mp h;show{VC,VC}
 |V4 k ks f=>
  intro es h;cases es with
  |VH=>cases h
  |V4 e es=>
   have h:=(aN _ _).mp h;apply jh h.1 λx p g=>?_;rw[aN] at g;let(a,b):=f h.2;show{by rw[bT,jE,a,VS.and_true];show g.2,by show VN _ ‹_›}
def Di {YE}:∀{ks:V2 V9} {es:V2 Ve.Vi},qS YE E ks es=V6->∀t∈es,∃x q,t=.Name x q:=by
 intro a
 induction a with
 |VH=>
  intro es h t m;rw[bU.mp h] at m;cases m
 |V4 k ks b=>
  intro es h;cases es with
  |VH=>cases h
  |V4 e es=>
   letI h:=(aN _ _).mp h;apply jh h.1 λx p d t m=>?_;rcases aU.mp m with m|m
   .show tR x p m
   .show b h.2 t m
def EH {YE} (nd:t7 E.XT=V6):∀{ks:V2 V9} {es:V2 Ve.Vi} {vs:V2 V} {σ:YY} {ρ:Rho},qS YE E ks es=V6->vs.V0=ks.V0->Sim E.XT σ ρ->Sim E.XT (ye σ ks vs) (((es.VP wB).Y8 vs).Y5++ρ):=by
 intro a
 induction a with
 |VH=>
  intro es vs σ ρ h l s;obtain rfl:=bU.mp h;obtain rfl:=dm l;show s
 |V4 k ks b=>
  intro es vs σ ρ h l s;cases es with
  |VH=>cases h
  |V4 e es=>
   cases vs with
   |VH=>cases l
   |V4 v vs=>
    have h:=(aN _ _).mp h;apply jh h.1 λx p d=>?_;rw[aN] at d;have:=b (vs:=vs) h.2 (by show gR (l)) (s.YA (v:=v) nd (qm d.1).1);rw[bT,gv,jL,aR];show this
def GA {x:Vm} {v:V} {ρ:Rho} {l:V2 (Vm×V)}:(l.VP (·.1)).WF->(l.Y5++ρ).VY x=V1 v->(l++ρ).VY x=V1 v:=by
 revert ρ;induction l with
 |VH=>show λ_ h=>h
 |V4 b l d=>
  intro ρ nd h;let(y,u):=b;rw[bT,dJ] at nd;rw[jL,aR] at h;have d:=d (ρ:=(y,u)::ρ) nd.2 h
  focus rw[AE,bH]
  rw[V2.lookup_append] at d⊢;clear h;cases z:x==y with
  |V3=>
   rw[bH,z] at d;show d
  |V6=>
   have:=VV.mp z;subst this
   have no:l.VY x=V8:=by
    cases w:l.VY x with
    |V8=>rfl
    |V1 a=>show Vy (aK.WO (aV _ (pI w) rfl)) nd.1
   rw[no,bH,z] at d;assumption
def DZ:∀{ns:V2 Vm} {vs:V2 V},ns.V0=vs.V0->(ns.Y8 vs).VP (·.1)=ns
 |[],_,_=>by show rfl
 |x::ns,[],h=>by cases h
 |x::ns,v::vs,h=>by rw[gv,bT,DZ (by show gR (h))]
abbrev Sp.asgs (ks:V2 V9) (x:Xp):Sp where
 Wm K E s:=zG s λts e _=>only ts λt=>BP t λes _ _=>t7 E.XT&&qS V3 E ks es&&kT (es.VP wB)&&lP e&&F3 e&&x.Wm K E e
 wp c n σ M F:=x.wp c n σ M λv aT=>lE v λvs=>vs.V0=ks.V0/\F .Wo (ye σ ks vs) aT
 ok {c n E st σ M F ρ} h s w:=by
  apply qk h λts e p a=>?_;apply mV a λt d=>?_;apply ow d λes k q f=>?_;simp only[aN] at f;let(((((nd,f),h4),h5),h6),h7):=f;let(g,i):=EI f;intro A Vb ι s' m hs L G;rcases NR (ts:=es) (k:=k) (p:=q) (Vb:=Vb) (Di f) h6 with z|z
  .apply Lake.Yy.assignTupleAt (z:=z) ?_ h5 A Vb ι s' m hs rfl L G
   show(x.ok h7 s w).W9 λv aT w=>by apply kC w λvs w=>?_;have l:=w.1;have w:=w.2;let(o,b,r):=uy (c:=c) (n:=n) (M:=aT) (vs:=vs) nd f l s;show kW o aT (.tuple .Vj b) {_,r,w}
  .apply Lake.Yy.assignSwapAt (z:=z) ?_ g h5 A Vb ι s' m hs rfl L G
   show(x.ok h7 s w).W9 λv aT w=>by
    apply kC w λvs w=>?_;have l:=w.1;have w:=w.2;letI B:(es.VP wB).V0=vs.V0:=by rw[aE,i,l]
    apply g6 vs rfl B {_,?_,w};intro j y u C D;show GA (by rw[DZ B];show oA h4) (EH nd f l s j y u C D)
end
end
section
variable {σ':Sig} {F F':iD}
mutual open Nat
abbrev Sp.asg2 (j k:V9) (x:Xp):Sp where
 Wm K E s:=zG s λts e _=>only ts λt=>(Tg.Xn [j,k]).Wm V3 E t&&lP e&& !BP e (λ_ _ _=>V6)&&x.Wm K E e
 wp c n σ M F:=x.wp c n σ M λv aT=>eu aT v λ_ xs=>∃a b,xs=[a,b]/\F .Wo (YA (YA σ j a) k b) aT
 ok {c n E st σ M F ρ} h s w:=by
  apply qk h λts e p d=>?_;apply mV d λt f=>?_;apply ba4 f λg i m o=>?_
  try simp only[dh] at g
  try simp only[dh] at i
  try simp only[dh] at m
  try simp only[dh] at o
  unfold Tg.Wm at g;rw[aN] at g;clear f d ts;let(nd,g):=g;apply ow g λes k' q g=>?_;intro A Vb ι s' r hs L G
  have z:jX [.Yl es k' q] e Vb=X3 V8:=by
   clear o i;cases e with
   |Yl vs k p=>cases m
   |_=>rfl
  apply Yy.assignTupleAt (z:=z) ?_ i A Vb ι s' r hs rfl L G
  show(x.ok o s w).W9 λv aT w=>by apply jQ w λl xs u w=>?_;let(a,b,VC,w):=w;let(y,B,C):=uy (c:=c) (n:=n) (M:=aT) (vs:=[a,b]) nd g rfl s;show kW y aT (.tuple (.list2 u) B) {_,C,w}
abbrev Sp.Xt (x:Xp):Sp where
 Wm K E s:=LA s λe _=>Mt e&&x.Wm K E e
 wp c n σ M F:=x.wp c n σ M λ_ aT=>F .Wo σ aT
 ok h s w:=by apply Jw h λe p a=>?_;rw[aN] at a;show .Xt ((x.ok a.2 s w).W9 λv aT w=>⟨_,s,w⟩) a.1
abbrev Sp.XC (x:Xp):Sp where
 Wm K E s:=QN s λe _=>match e with|V1 e=>x.Wm K E e|V8=>V3
 wp c n σ M F:=x.wp c n σ M λv aT=>F (.XC v) σ aT
 ok h s w:=by
  apply Lu h λe p a=>?_;cases e with
  |V8=>cases a
  |V1 e=>show .XC ((x.ok a s w).W9 λv aT w=>{_,s,w})
abbrev Sp.dead:Sp where
 Wm K E s:=V6
 wp c n σ M F:=WY
 ok h s w:=w.W2
def su {d:Type} {c:Prop} [Yk c] {a b:V2 d} {n:V9} (f:a.V0<n) (g:b.V0<n):(if c then a else b).V0<n:=if h:c then by rw[Vw h];show f else by rw[Vd h];show g
def JT (C:V9):(WG C).V0<1000:=
 have z:∀{n:V9},IW n 999=V6->n<1000:=λh=>V9.lt_succ_of_le (aS h)
 su (z rfl) (su (z rfl) (su (z rfl) (su (z rfl) (su (z rfl) (su (z rfl) (su (z rfl) (su (z rfl) (z rfl))))))))
def Jx {name:Vm} {v:V} {ns:V2 Vm}:∀{vs:V2 V} {i:V9},kT ns=V6->ns[i]?=V1 name->i<=vs.V0->rC (ns.Y8 vs) name v=ns.Y8 (if i<vs.V0 then vs.Wb i v else vs++[v]):=by
 induction ns with
 |VH=>intro vs i _ h;cases h
 |V4 y ns a=>
  intro vs i nd h l;let(b,d):=nZ.mp nd;cases vs with
  |VH=>
   clear a;cases V9.eq_zero_of_le_zero l;cases h;show VN (UM (y,v)) V2.zip_nil_right.Vh
  |V4 u vs=>
   cases i with
   |WM=>clear a;cases h;show Vw rfl
   |Wh i=>
    have ne:¬y=name:=λe=>by rw[e,dh,uL,decide_eq_false_iff_not] at b;show b (aF h)
    apply(Vd ne).V7 ((VN (UM (y,u)) (a (vs:=vs) d h (jz l))).V7 ?_);by_cases q:i<vs.V0
    .rw[Vw q,Vw (show i+1<(u::vs).V0 from V9.succ_lt_succ q)];rfl
    .rw[Vd q,Vd (show ¬i+1<(u::vs).V0 from λz=>q (f5 z))];rfl
abbrev Sp.Wv (o:Xp) (C i:V9) (x:Xp):Sp where
 Wm K E s:=zG s λts e _=>only ts λt=>De t λo' name _=>lP e&&x.Wm K E e&&o.Wm K E o'&&(WG C)[i]?==V1 name&&kT (WG C)&&KP K C name
 wp c n σ M F:=x.wp c n σ M λv aT=>o.wp c n σ aT λb f=>t9 b λa=>∃d vs,f[a]?=V1 (.YH C d)/\f[d]?=V1 (.ns ((WG C).Y8 vs))/\i<=vs.V0/\F .Wo σ (f.Wb d (.ns ((WG C).Y8 (if i<vs.V0 then vs.Wb i v else vs++[v]))))
 ok {c n E st σ M F ρ} h s w:=by
  apply qk h λts e p g=>?_;apply mV g λt j=>?_;apply wM j λo' name q k=>?_;apply ba6 k λk l m r u y=>?_
  try simp only[VV] at k
  try simp only[VV] at l
  try simp only[VV] at m
  try simp only[VV] at r
  try simp only[VV] at u
  try simp only[VV] at y
  apply .assignAttr ((x.ok l s w).W9 λv aT w=>(o.ok m s w).W9 λb f w=>?_) k;apply qw w λa w=>?_;let(d,vs,z,A,B,w):=w;have hz:((WG C).Y8 vs).V0<1000:=by rw[Bt];show dW (CD ..) (JT C)
  apply Uv a d C _ rfl z A y hz {σ,s,?_};rw[Jx u r B];show w
abbrev Sp.We (o i x:Xp):Sp where
 Wm K E s:=zG s λts e _=>only ts λt=>BQ t λo' a _=>lP e&&x.Wm K E e&&o.Wm K E o'&&i.Wm K E a
 wp c n σ M F:=x.wp c n σ M λv aT=>o.wp c n σ aT λb d=>i.wp c n σ d λf g=>uJ c n sd b f v g (F .Wo σ)
 ok {c n E st σ M F ρ} h s w:=by apply qk h λts e p j=>?_;apply mV j λt k=>?_;apply se k λo' a q l=>?_;apply ba4 l λl m r u=>?_;show .assignItem ((x.ok m s w).W9 λv aT w=>(o.ok r s w).W9 λb d w=>(i.ok u s w).W9 λf g w A ι s' y z B C G D H I=>(w A ι s' y z B C G D H I).W9 λ_ _ _ M' w=>⟨_,s,w⟩) l
abbrev AX (w:YY->WC->iD->Prop) (F:iD):iD:=λa σ M=>match a with
 | .Wo=>w σ M F
 | .brk=>F .brk σ M
 | .cont=>F .cont σ M
 | .XC v=>F (.XC v) σ M
abbrev Bp.VH:Bp where
 Wm _ _ ss:=ss.WN
 wp c n σ M F:=F .Wo σ M
 ok h s w:=by obtain rfl:=bU.mp h;show .VH ⟨_,s,w⟩
abbrev Bp.V4 (x:Sp) (xs:Bp):Bp where
 Wm K E a:=match a with|s::a=>x.Wm K E s&&xs.Wm K E a|[]=>V3
 wp c n σ M F:=x.wp c n σ M (AX (xs.wp c n) F)
 ok {c n E a σ M F ρ} h s w:=by
  cases a with
  |VH=>cases h
  |V4 st a=>
   simp only[aN] at h;apply .V4 ((x.ok h.1 s w).W9 λb d M' f=>?_);let(σ',s',w):=f;cases b with
   |next=>show xs.ok h.2 s' w
   |brk=>show{σ',s',w}
   |cont=>show{σ',s',w}
   |XC v=>show{σ',s',w}
abbrev Bp.of:V2 Sp->Bp
 |[]=>.VH
 |x::xs=>.V4 x (.of xs)
abbrev Sp.ZK (t:Tp) (x y:Bp):Sp where
 Wm K E s:=QO s λt' a d _=>t.Wm K E t'&&x.Wm K E a&&y.Wm K E d
 wp c n σ M F:=t.wp c n σ M λb aT=>if b then x.wp c n σ aT F else y.wp c n σ aT F
 ok h s w:=by
  apply Lx h λt' a d p f=>?_;simp only[aN] at f;apply .if ((t.ok f.1.1 s w).W9 λb aT w=>?_);cases b with
  |V6=>show x.ok f.1.2 s w
  |V3=>show y.ok f.2 s w
abbrev jS (c:Cx) (n:V9) (t:Tg) (WK:Bp) (k:Src) (σ:YY) (M:WC) (F:iD):Prop:=
 ∀E t' a,t.Wm V3 E t'=V6->WK.Wm c.K E a=V6->∀ρ,Sim E.XT σ ρ->x7 c n E.sc t' a k ρ M (EN E F)
abbrev lF (c:Cx) (n:V9) (t:Tg) (k:Src) (M:WC) (v:VK V) (k':Src) (M':WC):Prop:=∀YE E e,t.Wm YE E e=V6->qD c n e k M v k' M'
def lF.Ws {j:V9} {k k' v} (h:iy c n k M v k' M'):lF c n (.Ws j) k M v k' M':=λYE E e z=>by unfold Tg.Wm at z;rw[aN] at z;apply jh z.2 λx p _=>?_;show .name h
def lF.V8 {t:Tg} {k k'} (h:iy c n k M V8 k' M'):lF c n t k M V8 k' M':=λYE E e z=>.V8 h
def lF.VF {t:Tg} {k b i v} (h:iy c n k M (V1 v) (.VF b i) M'):lF c n t k M (V1 v) (.VF b i) M':=λYE E e z=>by
 cases t with
 |Ws j=>show lF.Ws h YE E e z
 |Xn ks=>
  unfold Tg.Wm at z;rw[aN] at z;apply ow z.2 λes x p _=>?_;show .tupL h
abbrev u5 (a:YY->WC->Prop) (F:iD):iD:=λb σ M=>match b with
 | .Wo=>a σ M
 | .cont=>a σ M
 | .brk=>F .Wo σ M
 | .XC v=>F (.XC v) σ M
abbrev Ky (w:YY->WC->iD->Prop) (F:iD):iD:=λa σ M=>match a with
 | .Wo=>w σ M F
 | .cont=>w σ M F
 | .brk=>F .Wo σ M
 | .XC v=>F (.XC v) σ M
nonrec abbrev wkS (a:YY->WC->Prop):YY->WC->Prop:=λσ M=>∃b,Le b σ/\a b M
def jS.YS {t:Tg} {WK:Bp} {k k':Src} (a:lF c n t k M V8 k' M') (p:F .Wo σ M'):jS c n t WK k σ M F:=λE t' b d f ρ s=>.YS (a V3 E t' d) {σ,s,p}
def jS.stepW {t:Tg} {WK:Bp} {k k':Src} {v:V} (b:lF c n t k M (V1 v) k' aT) (d:t.bind v σ λσ'=>WK.wp c n σ' aT (u5 (wkS λσ M=>jS c n t WK k' σ M F) F)):jS c n t WK k σ M F:=λE t' f g h ρ s=>by
 let(i,a,σ',s',w):=t.ok (c:=c) (n:=n) (M:=aT) g s d;apply .WL (b V3 E t' g) a ((WK.ok h s' w).W9 λj m o p=>?_);let(q,r,u):=p;cases j with
 |next=>let(x,l,u):=u;show u E t' f g h m (r.weak l)
 |cont=>let(x,l,u):=u;show u E t' f g h m (r.weak l)
 |brk=>show{q,r,u}
 |XC v=>show{q,r,u}
abbrev wO (e:Ve.Vi):VS:= !g9 e.VZ 7
def tg (h:wO e=V6) (Vb x):sy e Vb x=X3 x:=by cases e<;>first|rfl|(cases h;done)
abbrev Sp.for (t:Tg) (a:Xp) (WK:Bp):Sp where
 Wm K E s:=QS s λt' b d o' _=>o'.WN&&wO b&&t.Wm V3 E t'&&a.Wm K E b&&WK.Wm K E d
 wp c n σ M F:=a.wp c n σ M λv aT=>∃k f,iz c n v aT k f/\jS c n t WK k σ f F
 ok h s w:=by
  apply Ly h λt' b d o' p g=>?_;apply ba5 g λi j l m o=>?_
  try simp only[bU] at i
  clear g;rw[i]
  try simp only[bU] at j
  try simp only[bU] at l
  try simp only[bU] at m
  try simp only[bU] at o
  show .for ((a.ok m s w).W9 λv aT q=>o2_2 q λk f r u=>kW k f r (u _ t' d l o _ s)) (tg j)
abbrev oJ (c:Cx) (n:V9) (t:Tp) (WK:Bp) (σ:YY) (M:WC) (F:iD):Prop:=
 ∀E t' a,t.Wm c.K E t'=V6->WK.Wm c.K E a=V6->∀ρ,Sim E.XT σ ρ->tH c n E.sc t' a ρ M (EN E F)
def oJ.Zt {t:Tp} {WK:Bp} (h:t.wp c n σ M λb aT=>if b then WK.wp c n σ aT (Ky (oJ c n t WK) F) else F .Wo σ aT):oJ c n t WK σ M F:=λE t' a d f ρ s=>by
 apply .Zt ((t.ok d s h).W9 λb aT w=>?_);cases b with
 |V3=>show{σ,s,w}
 |V6=>
  apply(WK.ok f s w).W9 λg i j k=>?_;let(l,m,o):=k;cases g with
  |next=>show o E t' a d f i m
  |cont=>show o E t' a d f i m
  |brk=>show{l,m,o}
  |XC v=>show{l,m,o}
def oJ.weak {t:Tp} {WK:Bp} (l:Le σ σ') (h:oJ c n t WK σ M F):oJ c n t WK σ' M F:=λE t' a b d ρ s=>h E t' a b d ρ (s.weak l)
abbrev Sp.while (t:Tp) (WK:Bp):Sp where
 Wm K E s:=HV s λt' a o' _=>o'.WN&&t.Wm K E t'&&WK.Wm K E a
 wp c n σ M F:=oJ c n t WK σ M F
 ok h s w:=by
  apply Gj h λt' a o' p b=>?_;apply ba3 b λd f g=>?_
  try simp only[bU] at d
  clear b;rw[d]
  try simp only[bU] at f
  try simp only[bU] at g
  show .while (w _ t' a f g _ s)
end
end
section
variable {σ':Sig} {F F':iD}
mutual open Nat
structure Ip where
 Wm:Zq->En->V2 Ve.Vi->VS
 wp:Cx->V9->YY->WC->(VS->WC->Prop)->Prop
 ok:∀{c n E es σ M B ρ},Wm c.K E es=V6->Sim E.XT σ ρ->wp c n σ M B->CF c n E.sc es ρ M B
abbrev Ip.VH:Ip where
 Wm _ _ es:=es.WN
 wp c n σ M B:=B V6 M
 ok h s w:=by obtain rfl:=bU.mp h;show .VH w
abbrev Ip.Ws (t:Tp):Ip where
 Wm K E es:=only es λe=>t.Wm K E e
 wp c n σ M B:=t.wp c n σ M B
 ok h s w:=by apply mV h λe a=>?_;show .Ws (t.ok a s w)
abbrev Tg.Z5:Tg->V2 V9
 | .Ws k=>[k]
 | .Xn ks=>ks
abbrev Tg.Yd (t:Tg) (σ:YY):Prop:=match t with
 | .Ws k=>XP σ k=V8
 | .Xn ks=>ks.Z4 (λk=>(XP σ k).XQ)=V6
def Tg.free_ok {t:Tg} (h:t.Yd σ):∀k∈t.Z5,XP σ k=V8:=λk a=>by
 cases t with
 |Ws j=>rw[aC.mp a];show h
 |Xn ks=>show dG.mp (ek.mp h k a)
abbrev fk (c:Cx) (n:V9) (a:Xp) (t:Tg) (b:Ip) (k:Src) (ys:V2 V) (σ:YY) (M:WC) (C:V2 V->WC->Prop):Prop:=
 ∀E f g d t' h i VU WS,g[d]?=V1 (⟨t',h,i,0⟩:WR)->g[d+1]?=V8->a.Wm c.K E f=V6->t.Wm V6 E t'=V6->b.Wm c.K E i=V6->∀ρ,Sim E.XT σ ρ->
  lu c n E.sc f g VU WS d k ys ρ M λj l M'=>Sim E.XT σ l/\C j M'
def fk.YS {ZI t is k k' ys} {C:V2 V->WC->Prop} (a:lF c n t k M V8 k' M') (p:C ys M'):fk c n ZI t is k ys σ M C:=
 λE b f d t' g h VU WS i j l m o ρ s=>.YS i rfl (a V6 E t' m) ⟨s,p⟩
def fk.WL {ZI t is k k' ys} {v:V} {C:V2 V->WC->Prop} (f:lF c n t k M (V1 v) k' aT) (hz:ys.V0<=cE)
    (g:t.bind v σ λσ'=>Le σ σ'/\is.wp c n σ' aT λb h=>if b then ZI.wp c n σ' h λu i=>fk c n ZI t is k' (ys++[u]) σ i C else fk c n ZI t is k' ys σ h C):fk c n ZI t is k ys σ M C:=
 λE j m d t' o p VU WS q r x y B ρ s=>by
  let(D,a,σ',s',l,w):=t.ok (c:=c) (n:=n) (M:=aT) y s g;apply .WL q rfl (f V6 E t' y) a hz ?_;letI z:=is.ok B s' w;intro A Vb ι H I hs L G;apply(z A Vb ι H I hs L G).W9 λ_ _ b h w=>?_;cases b with
  |V3=>
   rw[Vd (by(first|show aO|decide))] at w⊢;show w E j m d t' o p VU WS q r x y B D (s'.weak l)
  |V6=>
   rw[Vw rfl] at w⊢;rw[r];show(ZI.ok x s' w).W9 λu i w=>w E j m d t' o p VU WS q r x y B D (s'.weak l)
abbrev sU (c:Cx) (n:V9) (a:Xp) (t:Tg) (b:Tg) (d:Xp) (k:Src) (ys:V2 V) (σ:YY) (M:WC) (C:V2 V->WC->Prop):Prop:=
 ∀E f t' g h i VU WS,a.Wm c.K E f=V6->t.Wm V6 E t'=V6->b.Wm V6 E h=V6->d.Wm c.K E i=V6->wO i=V6->∀ρ,Sim E.XT σ ρ->
  lu c n E.sc f [⟨t',g,[],0⟩,⟨h,i,[],0⟩] VU WS 0 k ys ρ M λj l M'=>Sim E.XT σ l/\C j M'
def sU.YS {ZI t t2 it2 k k' ys} {C:V2 V->WC->Prop} (a:lF c n t k M V8 k' M') (p:C ys M'):sU c n ZI t t2 it2 k ys σ M C:=
 λE b t' d f g VU WS h i j l m ρ s=>.YS rfl rfl (a V6 E t' i) ⟨s,p⟩
def lu.W9 {ZI Xq VU WS d k ys sc} {C f:IV} (h:lu c n sc ZI Xq VU WS d k ys ρ M C) (k':∀y r m,C y r m->f y r m):lu c n sc ZI Xq VU WS d k ys ρ M f:=
 λA g ι s I l i hs L G H j a b d R q=>h A g ι s I l i hs L G H j a b d R λo s' t M' u st v w x z p=>q o s' t M' u st v w x z (k' _ _ _ p)
def sU.WL {ZI t t2 it2 k k' ys} {v:V} {C:V2 V->WC->Prop} (d:lF c n t k M (V1 v) k' aT) (hz:ys.V0<=cE)
    (f:t.bind v σ λσ'=>Le σ σ'/\it2.wp c n σ' aT λx g=>∃b h,b.mine=V3/\iz c n x g b h/\fk c n ZI t2 .VH b ys σ' h λi M'=>sU c n ZI t t2 it2 k' i σ M' C):sU c n ZI t t2 it2 k ys σ M C:=
 λE j t' o p q VU WS u z A B D ρ s=>by let(G,a,σ',s',l,w):=t.ok (c:=c) (n:=n) (M:=aT) z s f;apply .WL rfl rfl (d V6 E t' z) a hz (.VH ?_);rw[Vw rfl];apply⟨VC,tg D,(it2.ok B s' w).W9 λx g H=>o2_3 H λb h I hi w=>(qs b h I hi ?_)⟩;show(w E j [⟨t',o,[],0⟩,⟨p,q,[],0⟩] 1 p q [] VU WS rfl rfl u A rfl G s').W9 λy r m H=>o0_2 H λJ w=>w E j t' o p q VU WS u z A B D r (J.weak l)
abbrev G1:V2 (VK Vm)->V2 V9->V2 Vm->V2 (VK Vm)
 |XT,k::ks,x::xs=>G1 (XT.Wb k (V1 x)) ks xs
 |XT,_,_=>XT
abbrev YD (VU:X6) (XT:V2 (VK Vm)):V2 (VK Vm):=XT.VP λo=>o.X2 λx=>VU.Vv.VY x==V1 .Yd
abbrev r7 (e:Ve.Vi):V2 Vm:=Ym (e.VZ=25) (λh=>iY e h λa _ _=>a.VP wB) λ_=>[wB e]
abbrev sE (E:En) (VU:X6) (ks:V2 V9) (xs:V2 Vm):En:={nh VU E.sc,G1 (YD VU E.XT) ks xs}
def yO:∀{XT:V2 (VK Vm)} {k:V9},cat XT k=(XT[k]?).join
 |[],_=>by show rfl
 |x::XT,0=>by show rfl
 |x::XT,k+1=>by rw[g8];show yO (XT:=XT) (k:=k)
def G0 {x:Vm} {k:V9}:∀{ks:V2 V9} {xs:V2 Vm} {XT:V2 (VK Vm)},cat (G1 XT ks xs) k=V1 x->k∈ks\/cat XT k=V1 x:=λ{ks}=>by
 induction ks with
 |VH=>show λ{xs} _ h=>.Wt (by cases xs<;>show h)
 |V4 j ks a=>
  intro xs XT h;cases xs with
  |VH=>show .Wt h
  |V4 y xs=>
   rcases a (xs:=xs) (XT:=XT.Wb j (V1 y)) h with z|z
   .show .XB (bN _ z)
   .by_cases q:k=j
    .show .XB ((rwt cP q))
    .right;rw[yO,aL (fP q),<-yO] at z;show z
def L5 {VU:X6} {x:Vm} {XT:V2 (VK Vm)} {k:V9} (h:cat (YD VU XT) k=V1 x):cat XT k=V1 x/\VU.Vv.VY x=V1 .Yd:=by
 rw[yO] at h⊢;unfold YD at h;rw[bC] at h;cases z:XT[k]? with
 |V8=>rw[z] at h;cases h
 |V1 o=>
  rw[z] at h;clear z k XT;cases o with
  |V8=>cases h
  |V1 y=>
   simp only[iM,VK.join_some] at h⊢;rw[VK.filter_eq_some_iff] at h;show{h.1,VV.mp h.2}
def G2 {VU:X6} {x:Vm} (h:VU.Vv.VY x=V1 .Yd):∀{ρ:Rho},(pM VU ρ).VY x=ρ.VY x:=by
 intro a
 induction a with
 |VH=>
  show rfl
 |V4 b ρ d=>
  let(y,u):=b;unfold pM;rw[gY,bH];have d:=d;cases z:x==y with
  |V6=>
   have:=VV.mp z;subst this;rw[Vw (by simpa using h),bH,z]
  |V3=>
   split
   .rw[bH,z];show d
   .show d
def Sim.YQ {VU:X6} {ks:V2 V9} {xs:V2 Vm} (s:Sim E.XT σ ρ) (d:∀k∈ks,XP σ k=V8):Sim (sE E VU ks xs).XT σ (pM VU ρ):=λk x v f hv=>by
 rcases G0 f with z|z
 .rw[d k z] at hv;cases hv
 .let(a,b):=L5 z;rw[G2 b];show s k x v a hv
structure Cp where
 Wm:Zq->En->Ve.Vi->VS
 wp:Cx->V9->YY->WC->dQ->Prop
 ok:∀{c n E e σ M P ρ},Wm c.K E e=V6->Sim E.XT σ ρ->wp c n σ M P->∃ZI g gs VU WS,e=.XS ZI (g::gs) VU WS/\uO c n E.sc ZI g gs VU WS ρ M P
abbrev E0 (g:WR) (k:Ve.Vi->Ve.Vi->V2 Ve.Vi->VS):VS:=g.Zy==0&&k g.target g.iter g.ifs
def Ac {g k} (h:E0 g k=V6):∃t b d,g={t,b,d,0}/\k t b d=V6:=by let(t,b,d,a):=g;unfold E0 at h;rw[aN,VV] at h;let(rfl,h):=h;show Ux t b d rfl h
abbrev Cp.Ws (a:Xp) (t:Tg) (b:Xp) (d:Ip):Cp where
 Wm K E e:=Gm e λf i VU _=>wY VU E.sc&&only i λg=>E0 g λt' j l=>wO j&&b.Wm K E j&&a.Wm K (sE E VU t.Z5 (r7 t')) f&&
  t.Wm V6 (sE E VU t.Z5 (r7 t')) t'&&d.Wm K (sE E VU t.Z5 (r7 t')) l
 wp c n σ M P:=t.Yd σ/\b.wp c n σ M λv aT=>∃k o,iz c n v aT k o/\qA c n k o/\fk c n a t d k [] σ o λys M'=>P (.VG M'.V0) (M'++[.VF ys])
 ok h s w:=by apply BS h λf i VU p u=>?_;rw[aN] at u;apply mV u.2 λg x=>?_;let(t',j,l,VC,z):=Ac x;apply ba5 z λz A B C D=>?_;apply TZ f _ [] VU p rfl ⟨VC,tg z,u.1,(b.ok A s w.2).W9 λv aT G=>o2_3 G λk o hi hs H=>(qs k o hi hs ?_)⟩;show(H _ f [⟨t',j,l,0⟩] 0 t' j l VU p rfl rfl B C D _ (s.YQ (Tg.free_ok w.1))).W9 λy r m q=>q.2
abbrev Cp.two (a:Xp) (t:Tg) (b:Xp) (d:Tg) (f:Xp):Cp where
 Wm K E e:=Gm e λi j VU _=>wY VU E.sc&&Lake.two j λg l=>E0 g λt' o u=>E0 l λx z A=>u.WN&&A.WN&&wO o&&wO z&&b.Wm K E o&&
  f.Wm K (sE E VU (t.Z5++d.Z5) (r7 t'++r7 x)) z&&a.Wm K (sE E VU (t.Z5++d.Z5) (r7 t'++r7 x)) i&&
  t.Wm V6 (sE E VU (t.Z5++d.Z5) (r7 t'++r7 x)) t'&&d.Wm V6 (sE E VU (t.Z5++d.Z5) (r7 t'++r7 x)) x
 wp c n σ M P:=t.Yd σ/\d.Yd σ/\b.wp c n σ M λv aT=>∃k B,iz c n v aT k B/\qA c n k B/\sU c n a t d f k [] σ B λys M'=>P (.VG M'.V0) (M'++[.VF ys])
 ok h s w:=by
  apply BS h λi j VU p C=>?_;rw[aN] at C;apply zd C.2 λg l D=>?_;let(t',o,u,VC,G):=Ac D;clear D;let(x,z,A,VC,H):=Ac G;apply ba9 H λI J L N Q R S T U=>?_
  try simp only[bU] at I
  clear H G;rw[I]
  try simp only[bU] at J
  rw[J]
  try simp only[bU] at L
  try simp only[bU] at N
  try simp only[bU] at Q
  try simp only[bU] at R
  try simp only[bU] at S
  try simp only[bU] at T
  try simp only[bU] at U
  apply TZ i _ _ VU p rfl {VC,tg L,C.1,(b.ok Q s w.2.2).W9 λv aT W=>o2_3 W λk B hi hs X=>(qs k B hi hs ?_)};show(X _ i t' o x z VU p S T U R N _ (s.YQ λk Y=>(aW.mp Y).W2 (Tg.free_ok w.1 k) (Tg.free_ok w.2.1 k))).W9 λy r m q=>q.2
def uO.W9 {sc ZI g gs VU WS} {P':dQ} (h:uO c n sc ZI g gs VU WS ρ M P) (k:∀v M',P v M'->P' v M'):uO c n sc ZI g gs VU WS ρ M P':=by have a:=h.1;have b:=h.2.1;have d:=h.2.2.1;have q:=h.2.2.2;show{a,b,d,q.W9 λv aT f=>o2_3 f λi j l o p=>(qs i j l o (p.W9 λy r m w=>k _ _ w))}
abbrev Xp.YQ (x:Cp):Xp where
 Wm:=x.Wm
 wp:=x.wp
 ok h s w:=by let(a,g,b,VU,WS,VC,z):=x.ok h s w;show .YQ z
abbrev Sp.asgC (k:V9) (x:Cp):Sp where
 Wm K E s:=zG s λts e _=>only ts λt=>t7 E.XT&&zQ V3 E k t&&x.Wm K E e
 wp c n σ M F:=x.wp c n σ M λv aT=>F .Wo (YA σ k v) aT
 ok h s w:=by
  apply qk h λts e p a=>?_;apply mV a λt b=>?_;apply ba3 b λnd d f=>?_;apply jh d λy i j=>?_;rw[aN] at j;clear b a ts;let(l,g,m,VU,WS,VC,z):=x.ok f s w;letI o:=z.W9 (P':=λv aT=>EN _ _ .Wo ((y,v)::_) aT) λv aT w=>{_,s.YA nd (qm j.1).1,w};cases hb:HB _ y i.line WS.line VU with
  |V6=>show .assignComp1 o hb j.2
  |V3=>show .assignComp0 (.YQ o) hb j.2
def Ag {m:Type->Type} [Monad m] [LawfulMonad m] {a d g:Type} {l:V2 a} (h:l=[]) {b:d} {f:a->d->m (Y4 d)} {k:d->m g}:(forIn l b f>>=k)=k b:=by rw[h];rw[pZ,pure_bind]
def Gz {ns:V2 Vm}:∀{vs:V2 VE},vs.V0=ns.V0->∀x∈ns,((ns.Y8 vs).VY x).XQ=V3:=by
 induction ns with
 |VH=>intro vs _ x h;cases h
 |V4 y ns a=>
  intro vs b x h;cases vs with
  |VH=>cases b
  |V4 w vs=>
   rw[gv,bH];cases z:x==y with
   |V6=>rfl
   |V3=>show a (gR b) x ((aU.mp h).Xc λq=>aO (z.Vh.V7 (VV.WO q)))
def Dg {ns:V2 Vm} {vs:V2 VE} (a:vs.V0=ns.V0) (k:V9):¬(!((ns.WU k).X2 λn=>((ns.Y8 vs).VY n).XQ).WN)=V6:=by rw[V2.filter_eq_nil_iff.WO λx b=>by rw[Gz a x (nX b)];show aO];show aO
def LL {a d g:Type} {h:V2 a} {i:V2 d} {f:d->g} {b:VS} (j:h.V0=i.V0):¬(decide (h.V0>(([]:V2 g)++i.VP f).V0)&&b)=V6:=by rw[tN,aE,j,Vk (e8 _)];show aO
def Ai {ns:V2 Vm}:∀{vs:V2 VE} (L:V2 (Vm×VE)),vs.V0=ns.V0->(∀x∈ns,(L++ns.Y8 vs).VY x=(ns.Y8 vs).VY x)->ns.WF->(ns.Wx λn=>((L++ns.Y8 vs).VY n).VP (n,·))=ns.Y8 vs:=by
 induction ns with
 |VH=>intro vs L _ _ _;rfl
 |V4 x ns a=>
  intro vs L b h nd;cases vs with
  |VH=>cases b
  |V4 u vs=>
   rw[dJ] at nd;rw[wc,h x (.WI _),gv,bH,Wk];have:=a (vs:=vs) (L++[(x,u)]) (gR b) (λy d=>?_) nd.2
   .rw[aR] at this;show VN _ this
   .have:=h y (.XW _ d);rw[aR];apply this.V7 ?_;rw[gv,bH,Vz.WO λz=>nd.1 (Eq.subst (Y1:=(·∈ns)) z d)]
def G9 {m:Type->Type} [Monad m] [LawfulMonad m] {a d:Prop} [Yk a] [Yk d] {g h i j o:Type} {A p:m o} {l:V2 g} {q:i->V2 h} {b:i} {s:i->j} {f:g->i->m (Y4 i)} {t:i->h->j->m (Y4 j)} {k:i->j->m o} {r:m o}
    (u:¬a) (v:¬d) (w:l=[]) (y:q b=[]) (z:k b (s b)=r):(if a then A else if d then p else (forIn l b f>>=λx=>forIn (q x) (s x) (t x)>>=k x))=r:=by rw[Vd u,Vd v,Ag w,Ag y,z]
def Hf {fd:FuncData} {a:V2 Ve.Arg} (b:fd.X1.posonlyargs=[]) (d:fd.X1.args=a) (f:fd.X1.vararg=V8) (g:fd.X1.kwonlyargs=[]) (h:fd.X1.kwarg=V8) (i:fd.defaults=.V8)
    (nd:(a.VP (·.arg)).WF) {j:V2 VE} (k:j.V0=a.V0):bindArgs fd ⟨j,[]⟩=X3 ((a.VP (·.arg)).Y8 j):=by
 let(nm,qn,(po,ps',va,ko,kd,kw,df),bd,sc,gl,cl,dfl,kwd,dc,pm,an,cd,ct,bi):=fd;cases b;cases d;cases f;cases g;cases h;cases i;have hl':j.V0=(ps'.VP (·.arg)).V0:=k.V7 (aE ..).Vh;apply G9 (LL k) (Dg hl' _) ?_ rfl (VN X3 ?_)
 .change V2.Y8 _ (V2.XV _ [])=[];show eZ (VN _ (V2.drop_nil)) (V2.zip_nil_right)
 .show(VN _ (cJ _)).V7 (Ai [] hl' (λ_ _=>rfl) nd)
abbrev xR:V9->YY
 |0=>[]
 |k+1=>V8::xR k
abbrev TP (d:Data) (k:FuncData->VS):VS:=Ym (d.VZ=7) (λh=>yW d h k) λ_=>V3
def OE {P:Data->Prop} {d k} (h:TP d k=V6) (g:∀fd,k fd=V6->P (.func fd)):P d:=fu h λi q=>yW (Y1:=λd=>∀i:d.VZ=7,yW d i k=V6->P d) d i (λa _ q=>g a q) i q
abbrev QM (d:FuncBody) (k:V2 Ve.Y7->VS):VS:=Ym (d.VZ=0) (λh=>q9 d h k) λ_=>V3
def Lq {P:FuncBody->Prop} {d k} (h:QM d k=V6) (g:∀b,k b=V6->P (.stmts b)):P d:=fu h λi q=>q9 (Y1:=λd=>∀i:d.VZ=0,q9 d i k=V6->P d) d i (λa _ q=>g a q) i q
abbrev Ah (a:Zq) (f d:V9) (XT:V2 (VK Vm)) (WK:Bp):VS:=(a.VY f).any λo=>TP o.Xu λfd=>QM fd.WK λb=>
 fd.X1.posonlyargs.WN&&fd.X1.vararg.XQ&&fd.X1.kwonlyargs.WN&&fd.X1.kwarg.XQ&&fd.defaults==.V8&&fd.closure.WN&&fd.globals==lB&&fd.builtins==AN&&codeIn a fd.code fd.qualname&&
  (fd.X1.args.VP (·.arg)).VP V1==XT.WU d&&(fd.X1.args.V0==d)&&yC fd.VU (fd.X1.args.VP (·.arg))&&WK.Wm a ⟨fd.VU,XT⟩ b
def JE {ns:V2 Vm} {ρ:Rho}:∀{XT:V2 (VK Vm)} {vs:V2 V} {k:V9} {x v} {m:V9},ns.VP V1=XT.WU ns.V0->vs.V0=ns.V0->cat XT k=V1 x->XP (vs.VP V1++xR m) k=V1 v->ns[k]?=V1 x/\vs[k]?=V1 v:=by
 induction ns with
 |VH=>
  intro XT vs k x v m h l a hv;obtain rfl:=dm l;exfalso
  have:∀m k,XP (xR m) k=V8:=λm=>by
   induction m with
   |WM=>intro k;rfl
   |Wh m b=>intro k;cases k with|WM=>rfl|Wh k=>show b k
  rw[yo,tN,this] at hv;cases hv
 |V4 y ns b=>
  intro XT vs k x v m h l a hv;cases vs with
  |VH=>cases l
  |V4 w vs=>
   cases XT with
   |VH=>cases h
   |V4 z XT=>
    have h:=tU (show V1 y::ns.VP V1=z::XT.WU ns.V0 from h);cases k with
    |WM=>show{h.1.V7 a,hv}
    |Wh k=>show b (k:=k) h.2 (gR l) a hv
def ju.fnI {f g:V9} {XT:V2 (VK Vm)} {WK:Bp} {vs:V2 V} (h:Ah c.K f g XT WK=V6) (i:vs.V0=g) (w:WK.wp c n (vs.VP V1++xR (XT.V0-g)) M λj _ M'=>P (mE j) M'):ju c (n+1) (.VG f) vs M P:=by
 apply Nq (P:=λo=>c.K.VY f=o->ju c (n+1) (.VG f) vs M P) h (λo h l=>?_) rfl;let(Z9,WD,Xu,Z5):=o;apply OE (P:=λd=>c.K.VY f=V1 {Z9,WD,d,Z5}->ju c (n+1) (.VG f) vs M P) h (λfd h l=>?_) l;apply Lq (P:=λd=>fd.WK=d->ju c (n+1) (.VG f) vs M P) h (λb h m=>?_) rfl;apply UC h λp q r s t u y z A B C D G=>?_;letI H:kT (fd.X1.args.VP (·.arg))=V6:=ba6 D λh _ _ _ _ _=>h;have C:=Xa C;letI I:vs.V0=(fd.X1.args.VP (·.arg)).V0:=by rw[aE,C];show i
 apply ju.fn (Vv:=fd.X1.args.VP (·.arg)) (WK:=b) (sc:=fd.VU) {_,_,fd,_,l,m,VC,bU.mp u,Xa y,Xa z,A,λJ hv=>Hf (bU.mp p) rfl (dG.mp q) (bU.mp r) (dG.mp s) (Xa t) (oA H) (hv.V7 (aE ..))} D I ?_;apply(WK.ok G (λk x v L hv=>?_) w).W9 λj ρ M N=>Xs N λ_ _ w=>w;let(a,b):=JE (ρ:=[]) ((Xa B).V7 (by rw[aE,C])) I L hv;show rE H a b
def aQ.fnI {f a:V9} {XT:V2 (VK Vm)} {WK:Bp} {vs:V2 V} (h:Ah c.K f a XT WK=V6) (b:vs.V0=a) (w:WK.wp c n (vs.VP V1++xR (XT.V0-a)) M λd _ M'=>P (mE d) M'):aQ c (n+1) (.VG f) vs M P:=(ju.fnI h b w).Vu
end
end
mutual open Nat
abbrev YK.mulT:YK where
 op:=.Mult
 wp a b M P:=lE a λxs=>gB b λk=>∃y,xs=[y]/\(k=2\/k=3)/\P (.Vj (eF k.Xd y)) M
 ok w:=by apply kC w λxs w=>?_;apply iK w λk w=>?_;let(y,VC,c,p):=w;show .mulT c p
abbrev three {c:Type} (es:V2 c) (k:c->c->c->VS):VS:=V2.Wc (Y1:=λ_=>VS) es V3 λa es=>V2.Wc (Y1:=λ_=>VS) es V3 λb es=>V2.Wc (Y1:=λ_=>VS) es V3 λd es=>V2.Wc (Y1:=λ_=>VS) es (k a b d) λ_ _=>V3
@[elab_as_elim] def D9 {c:Type} {P:V2 c->Prop} {es:V2 c} {k} (h:three es k=V6) (g:∀a b d,k a b d=V6->P [a,b,d]):P es:=by rcases es with _|⟨a,_|⟨b,_|⟨d,_|_⟩⟩⟩<;>first|show g _ _ _ h|show(aO h).W2
abbrev C8 (o:VK Ve.Vi) (a:Vm):VS:=match o with|V1 e=>Zl e a|V8=>V3
def wJ {P:VK Ve.Vi->Prop} {o} {a:Vm} (h:C8 o a=V6) (g:∀k p,P (V1 (.YJ (.Vn a) k p))):P o:=by
 cases o with
 |V8=>show(aO h).W2
 |V1 e=>show jd h g
abbrev Xp.dic3 (f g i:Vm) (j k l:Xp):Xp where
 Wm K E e:=Gk e λks vs _=>kT [f,g,i]&&three ks (λa b d=>C8 a f&&C8 b g&&C8 d i)&&three vs λa b d=>j.Wm K E a&&k.Wm K E b&&l.Wm K E d
 wp c n σ M P:=j.wp c n σ M λm o=>k.wp c n σ o λq r=>l.wp c n σ r λt u=>P (.VG u.V0) (u++[.WD [(.Vn f,m),(.Vn g,q),(.Vn i,t)]])
 ok h s w:=by apply BR h λks vs p v=>?_;apply ba3 v λA B C=>D9 B λa b d B=>D9 C λx y z C=>ba3 B λD F G=>ba3 C λH I J=>?_;apply wJ (P:=λa=>dZ _ _ _ (.Dict [a,_,_] _ _) _ _ _) D λ_ _=>?_;apply wJ (P:=λa=>dZ _ _ _ (.Dict [_,a,_] _ _) _ _ _) F λ_ _=>?_;apply wJ (P:=λa=>dZ _ _ _ (.Dict [_,_,a] _ _) _ _ _) G λ_ _=>?_;show .dic3 (oA A) ((j.ok H s w).W9 λm o w=>(k.ok I s w).W9 λq r w=>l.ok J s w)
abbrev Tp.cmpW (op:CmpOp) (l r:Xp):Tp where
 Wm K E e:=BU e λd os rs _=>IG op os rs (r.Wm K E)&&l.Wm K E d
 wp c n σ M B:=l.wp c n σ M λa f=>r.wp c n σ f λb g=>Yj c n (eS op) a b g λv i=>∃t,v=.WW t/\B t i
 ok h s w:=by apply vo h λd os rs p j=>?_;apply ba2 j λj k=>Ar j λm o q=>?_;show .Ye ((l.ok k s w).W9 λa f w=>(r.ok q s w).W9 λb g w=>w) o
abbrev Xp.uptoB (o:Xp) (k:V9):Xp where
 Wm K E e:=BQ e λo' f _=>yG f (λa b d _=>a.XQ&&d.XQ&&match b with|V1 a=>Iu a k|V8=>V3)&&o.Wm K E o'
 wp c n σ M P:=o.wp c n σ M λv g=>∃x VL xs,v=.lit (.VG x)/\c.B.Zi x VL/\VL.VA<=cE/\(∀ι h,cT ι h xs VL.VD)/\P (.VG g.V0) (g++[.VF (xs.WU k)])
 ok h s w:=by
  apply se h λo' f p i=>?_;apply ba2 i λi j=>ux i λa b d l m=>ba3 m λq r t=>?_;rw[dG.mp q,dG.mp r];clear m;cases b with
  |V8=>show(aO t).W2
  |V1 a=>
   apply jd t λk' u=>?_;show .listToB (o.ok j s w)
end
section
variable {σ':Sig} {F:iD}
mutual open Nat
nonrec abbrev CC (c:Cx) (n:V9) (a:Xp) (t:Tg) (d:Ip) (v:V) (ys:V2 V) (σ:YY) (M:WC) (e:V2 V->WC->Prop):Prop:=
 t.bind v σ λσ'=>Le σ σ'/\d.wp c n σ' M λb f=>if b then a.wp c n σ' f λu g=>e (ys++[u]) g else e ys f
variable {ZI:Xp} {t:Tg} {is:Ip} {C:V2 V->WC->Prop}
def fk.Z6 {a:V9} {xs:V2 V} (I:V9->V2 V->WC->Prop)
    (h:∀i v ys M b,xs[i]?=V1 v->I i ys M->(∀ys M,I (i+1) ys M->b ys M)->M[a]?=V1 (.VF xs)/\ys.V0<=cE/\CC c n ZI t is v ys σ M b)
    (e:∀ys M,I xs.V0 ys M->M[a]?=V1 (.VF xs)/\C ys M):∀(k i:V9) ys M,i+k=xs.V0->I i ys M->fk c n ZI t is (.VF a i) ys σ M C:=λk=>by
 induction k with
 |WM=>
  intro i ys M d hi;obtain rfl:i=xs.V0:=AZ d;let(f,g):=e ys M hi;show .YS (.V8 (.listEnd (k':=.VF a 0) f (by show fh (aM _)))) g
 |Wh k j=>
  intro i ys M d hi;obtain⟨v,hv⟩:∃v,xs[i]?=V1 v:={_,aI (qq6 d)};let(f,g,l):=h i v ys M (λys M=>fk c n ZI t is (.VF a (i+1)) ys σ M C) hv hi λys M w=>j (i+1) ys M (qq3 d) w;show .WL (.VF (.Zx f hv)) g l
def fk.tupI {j:V9} {xs:V2 V} (I:V9->V2 V->WC->Prop)
    (h:∀i v ys M a,xs[i]?=V1 v->I i ys M->(∀ys M,I (i+1) ys M->a ys M)->ys.V0<=cE/\CC c n ZI (.Ws j) is v ys σ M a)
    (e:∀ys M,I xs.V0 ys M->C ys M):∀(k i:V9) ys M,i+k=xs.V0->I i ys M->fk c n ZI (.Ws j) is (.Vj xs i) ys σ M C:=λk=>by
 induction k with
 |WM=>
  intro i ys M b hi;obtain rfl:i=xs.V0:=AZ b;show .YS (.V8 (.tupEnd (k':=.VF 0 0) (by show fh (aM _)))) (e ys M hi)
 |Wh k d=>
  intro i ys M b hi;obtain⟨v,hv⟩:∃v,xs[i]?=V1 v:={_,aI (qq6 b)};let(f,g):=h i v ys M (λys M=>fk c n ZI (.Ws j) is (.Vj xs (i+1)) ys σ M C) hv hi λys M w=>d (i+1) ys M (qq3 b) w;show .WL (.Ws (.tupItem hv)) f g
def fk.strI {j:V9} {x:Vm} (I:V9->V2 V->WC->Prop)
    (h:∀i v ys M a,x.cps[i]?=V1 v->I i ys M->(∀ys M,I (i+1) ys M->a ys M)->ys.V0<=cE/\CC c n ZI (.Ws j) is (.Vn ⟨#[v]⟩) ys σ M a)
    (e:∀ys M,I x.cps.VA ys M->C ys M):∀(k i:V9) ys M,i+k=x.cps.VA->I i ys M->fk c n ZI (.Ws j) is (.Vn x i) ys σ M C:=λk=>by
 induction k with
 |WM=>
  intro i ys M b hi;obtain rfl:i=x.cps.VA:=AZ b;show .YS (.V8 (.strEnd (k':=.VF 0 0) (by simp))) (e ys M hi)
 |Wh k d=>
  intro i ys M b hi;obtain⟨v,hv⟩:∃v,x.cps[i]?=V1 v:={_,gP (qq6 b)};let(f,g):=h i v ys M (λys M=>fk c n ZI (.Ws j) is (.Vn x (i+1)) ys σ M C) hv hi λys M w=>d (i+1) ys M (qq3 b) w;show .WL (.Ws (.strItem hv)) f g
def fk.rangeI {j N:V9} (I:V9->V2 V->WC->Prop)
    (h:∀(i:V9) ys M K,i<N->I i ys M->(∀ys M,I (i+1) ys M->K ys M)->ys.V0<=cE/\CC c n ZI (.Ws j) is (.Vl i) ys σ M K)
    (e:∀ys M,I N ys M->C ys M):∀(k i:V9) ys M,i+k=N->I i ys M->fk c n ZI (.Ws j) is (.Xb i k) ys σ M C:=λk=>by
 induction k with
 |WM=>
  intro i ys M a hi;clear h;obtain rfl:i=N:=AZ a;show .YS (.V8 (.rangeEnd (k':=.VF 0 0) (by simp))) (e ys M hi)
 |Wh k b=>
  intro i ys M a hi;let(d,f):=h i ys M (λys M=>fk c n ZI (.Ws j) is (.Xb (i+1:V9) k) ys σ M C) (qq6 a) hi λys M w=>b (i+1) ys M (qq3 a) w;apply .WL (v:=.Vl i) (k':=.Xb (i+1:V9) k) (.Ws ?_) d f;have:=iy.rangeItem (c:=c) (n:=n) (M:=M) (x:=(i:Vo)) (left:=((k+1:V9):Vo)) (by show PY [_] []);rw[show((k+1:V9):Vo)-1=(k:Vo) from Vo.add_sub_cancel (k:Vo) 1] at this;show this
variable {WK:Bp}
def jS.Z6 {a:V9} {xs:V2 V} (I:V9->YY->WC->Prop)
    (h:∀i v σ M (b:YY->WC->Prop),xs[i]?=V1 v->I i σ M->(∀σ M,I (i+1) σ M->b σ M)->M[a]?=V1 (.VF xs)/\t.bind v σ λσ'=>WK.wp c n σ' M (u5 (wkS b) F))
    (e:∀σ M,I xs.V0 σ M->M[a]?=V1 (.VF xs)/\F .Wo σ M):∀(k i:V9) σ M,i+k=xs.V0->I i σ M->jS c n t WK (.VF a i) σ M F:=λk=>by
 induction k with
 |WM=>
  intro i σ M d hi;obtain rfl:i=xs.V0:=AZ d;let(f,g):=e σ M hi;show .YS (.V8 (.listEnd (k':=.VF a 0) f (by show fh (aM _)))) g
 |Wh k j=>
  intro i σ M d hi;obtain⟨v,hv⟩:∃v,xs[i]?=V1 v:={_,aI (qq6 d)};let(f,l):=h i v σ M (λσ M=>jS c n t WK (.VF a (i+1)) σ M F) hv hi λσ M w=>j (i+1) σ M (qq3 d) w;apply .stepW (.VF (.Zx f hv)) l
def jS.tupI {j:V9} {xs:V2 V} (I:V9->YY->WC->Prop)
    (h:∀i v σ M (a:YY->WC->Prop),xs[i]?=V1 v->I i σ M->(∀σ M,I (i+1) σ M->a σ M)->WK.wp c n (YA σ j v) M (u5 (wkS a) F))
    (e:∀σ M,I xs.V0 σ M->F .Wo σ M):∀(k i:V9) σ M,i+k=xs.V0->I i σ M->jS c n (.Ws j) WK (.Vj xs i) σ M F:=λk=>by
 induction k with
 |WM=>
  intro i σ M b hi;obtain rfl:i=xs.V0:=AZ b;show .YS (.V8 (.tupEnd (k':=.VF 0 0) (by show fh (aM _)))) (e σ M hi)
 |Wh k d=>
  intro i σ M b hi;obtain⟨v,hv⟩:∃v,xs[i]?=V1 v:={_,aI (qq6 b)};show .stepW (.Ws (.tupItem hv)) (h i v σ M (λσ M=>jS c n (.Ws j) WK (.Vj xs (i+1)) σ M F) hv hi λσ M w=>d (i+1) σ M (qq3 b) w)
def jS.rangeI {j N:V9} (I:V9->YY->WC->Prop)
    (h:∀(i:V9) σ M (a:YY->WC->Prop),i<N->I i σ M->(∀σ M,I (i+1) σ M->a σ M)->WK.wp c n (YA σ j (.Vl i)) M (u5 (wkS a) F))
    (e:∀σ M,I N σ M->F .Wo σ M):∀(k i:V9) σ M,i+k=N->I i σ M->jS c n (.Ws j) WK (.Xb i k) σ M F:=λk=>by
 induction k with
 |WM=>
  intro i σ M b hi;clear h;obtain rfl:i=N:=AZ b;show .YS (.V8 (.rangeEnd (k':=.VF 0 0) (by simp))) (e σ M hi)
 |Wh k d=>
  intro i σ M b hi;apply .stepW (v:=.Vl i) (k':=.Xb (i+1:V9) k) (.Ws ?_) (h i σ M (λσ M=>jS c n (.Ws j) WK (.Xb (i+1:V9) k) σ M F) (qq6 b) hi λσ M w=>d (i+1) σ M (qq3 b) w);have:=iy.rangeItem (c:=c) (n:=n) (M:=M) (x:=(i:Vo)) (left:=((k+1:V9):Vo)) (by show PY [_] []);rw[show((k+1:V9):Vo)-1=(k:Vo) from Vo.add_sub_cancel (k:Vo) 1] at this;show this
def iz.range0 {N:V9} (h:N<=1000000):iz c n (.Xb 0 N) M (.Xb (0:V9) N) M:=by
 have e:iN 0 (N:Vo) 1=(N:Vo):=by
  rw[rangeSize_one];split
  .show Vo.sub_zero _
  .show Vo.le_antisymm (Vo.natCast_nonneg _) (Vo.not_lt.mp ‹_›)
 have:=iz.Xb (c:=c) (n:=n) (M:=M) (lo:=0) (hi:=(N:Vo)) (small_one (P9 [] []) (P4 [] []) (Qj [_] []) (bY [.l V3 (.v 0) (.n 1000000)] (.k V6 (.z (.v 0)) (.n 4611686018427387904)) [[1,1]] tt [_] [] h));rw[e] at this;show this
end
end
mutual open Nat
def W6.Xn {ι:V2 Vc} {M':WC} {h h':WH} {F:V2 Vc} (G:c.W6 ι M h) (d:M'.V0=M.V0) (ks:h.VJ.VA<=h'.VJ.VA) (k:∀b o,h.VT b=V1 o->b∉F->h'.VT b=V1 o) (e:∀b∈F,b∈ι)
    (r:WQ [] ι h ι h'->∀(a:V9) o x,M'[a]?=V1 o->ι[a]?=V1 x->(x∈F/\kD c.w ι h' o x)\/(x∉F/\M[a]?=V1 o)):WQ [] ι h ι h'/\c.W6 ι M' h':=by
 letI st:WQ [] ι h ι h':={{[],by simp,by simp},ks,λb o g no _=>k b o g λq=>no (e b q)};apply{st,{λb o g=>k b o (G.X5 b o g) λq=>?_,G.Zv,by rw[G.Wz,d],G.nd,λx f=>aY (G.lt x f) ks,λa o g=>?_}}
 .rw[G.Zv b (e b q)] at g;cases g
 .letI i:a<ι.V0:=by rw[G.Wz,<-d];show(aB.mp g).1
  letI f:ι[a]?=V1 ι[a]:=by simp[i]
  apply aV _ f ?_;rcases r st a o _ g f with⟨_,r⟩|⟨no,g'⟩
  .show r
  .let(y,j,r):=G.VJ a o g';rw[f] at j;cases j;show r.WL st (λ_ q=>(by cases q)) λob z=>k _ ob z no
def jP {ι:V2 Vc} {a:V9} {x:Vc} (h:ι[a]?=V1 x):x∈ι:=aF h
def ql {ι:V2 Vc} {a b:V9} {x y:Vc} (nd:ι.WF) (ha:ι[a]?=V1 x) (d:ι[b]?=V1 y) (n:a≠b):x≠y:=λe=>n<|by subst e;show(yp (aB.mp ha).1 nd).mp (ha.V7 d.Vh)
def W6.two {ι:V2 Vc} {h h':WH} {i j:V9} {x y:Vc} {oi oj:O} (G:c.W6 ι M h) (a:ι[i]?=V1 x) (d:ι[j]?=V1 y) (f:i≠j) (ks:h.VJ.VA<=h'.VJ.VA) (k:∀b o,h.VT b=V1 o->b≠x->b≠y->h'.VT b=V1 o)
    (r:WQ [] ι h ι h'->kD c.w ι h' oi x/\kD c.w ι h' oj y):WQ [] ι h ι h'/\c.W6 ι ((M.Wb i oi).Wb j oj) h':=by
 letI l:∀{b:V9} {w:Vc},ι[b]?=V1 w->b<M.V0:=λe=>G.Wz▸(aB.mp e).1;apply W6.Xn (F:=[x,y]) G (by rw[eB,eB]) ks (λb o g n=>k b o g (λe=>n (e▸.WI _)) λe=>n (e▸.XW _ (.WI _))) (λb m=>?_) λst b o w p q=>?_
 .rcases aU.mp m with e|e
  .show e▸jP a
  .show aC.mp e▸jP d
 .letI s:=r st;by_cases bj:b=j
  .rw[bj] at p q;have e1:=cG ((bK (by rw[eB];show l d)).Vh.V7 p);letI t:=cG (d.Vh.V7 q);show .XB {t▸.XW _ (.WI _),e1▸t▸s.2}
  .replace p:=(aL (fP bj)).Vh.V7 p;by_cases bi:b=i
   .rw[bi] at p q;have e1:=cG ((bK (l a)).Vh.V7 p);letI t:=cG (a.Vh.V7 q);show .XB {t▸.WI _,e1▸t▸s.1}
   .replace p:=(aL (fP bi)).Vh.V7 p;apply .Wt {λu=>?_,p};rcases aU.mp u with e|e
    .show ql G.nd q a bi e
    .show ql G.nd q d bj (aC.mp e)
def W6.three {ι:V2 Vc} {h h':WH} {i j t:V9} {x y z:Vc} {oi oj a:O} (G:c.W6 ι M h) (d:ι[i]?=V1 x) (f:ι[j]?=V1 y) (l:ι[t]?=V1 z) (m:i≠j) (mt:M[t]?=V1 a) (ks:h.VJ.VA<=h'.VJ.VA) (k:∀b o,h.VT b=V1 o->b≠z->b≠x->b≠y->h'.VT b=V1 o)
    (r:WQ [] ι h ι h'->kD c.w ι h' oi x/\kD c.w ι h' oj y/\kD c.w ι h' a z):WQ [] ι h ι h'/\c.W6 ι ((M.Wb i oi).Wb j oj) h':=by
 letI p:∀{b:V9} {w:Vc},ι[b]?=V1 w->b<M.V0:=λe=>G.Wz▸(aB.mp e).1;apply W6.Xn (F:=[z,x,y]) G (by rw[eB,eB]) ks (λb o g n=>k b o g (λe=>n (e▸.WI _)) (λe=>n (e▸.XW _ (.WI _))) λe=>n (e▸.XW _ (.XW _ (.WI _)))) (λb q=>?_) λst b o w s u=>?_
 .rcases aU.mp q with e|e
  .show e▸jP l
  .rcases aU.mp e with e|e
   .show e▸jP d
   .show aC.mp e▸jP f
 .have rr:=r st;by_cases bj:b=j
  .rw[bj] at s u;letI v:=cG ((bK (by rw[eB];show p f)).Vh.V7 s);letI A:=cG (f.Vh.V7 u);show .XB {A▸.XW _ (.XW _ (.WI _)),v▸A▸rr.2.1}
  .replace s:=(aL (fP bj)).Vh.V7 s;by_cases bi:b=i
   .rw[bi] at s u;have v:=cG ((bK (p d)).Vh.V7 s);have A:=cG (d.Vh.V7 u);show .XB {A▸.XW _ (.WI _),v▸A▸rr.1}
   .replace s:=(aL (fP bi)).Vh.V7 s;by_cases bt:b=t
    .rw[bt] at s u;have v:=cG (mt.Vh.V7 s);have A:=cG (l.Vh.V7 u);show .XB {A▸.WI _,v▸A▸rr.2.2}
    .apply .Wt {λB=>?_,s};rcases aU.mp B with e|e
     .show ql G.nd u l bt e
     .rcases aU.mp e with e|e
      .show ql G.nd u d bi e
      .show ql G.nd u f bj (aC.mp e)
def zP {a b:V9} {o o':O} (ha:M[a]?=V1 o) (d:M[b]?=V1 o') (h:o≠o'):a≠b:=λe=>h (cG (ha.Vh.V7 ((rwt d e))))
def aQ.zipT {xs ys:V2 V} (p:P (.VG (M.V0+3)) (M++[.it (.Vj xs 0),.it (.Vj ys 0),.it .pair,.it (.Y8 M.V0 (M.V0+1) (M.V0+2))])):aQ c n (.W5 "zip") [.Vj xs,.Vj ys] M P:=λA ι s d f G r Q E q=>by
 let(g,i,VC,j,k):=r.inv2;have h1':=j;have h2':=k;clear r;let(m,t,u,VC,v,w,_):=j;let(x,y,z,VC,B,C,_):=k;apply J0 (gg w) (gg C) ?_;have z1:(s.V5.Vp (eO m)).VJ.VA=s.V5.VJ.VA+1:=dH ..;letI D:((s.V5.Vp (eO m)).Vp (eO x)).VJ.VA=s.V5.VJ.VA+2:=by rw[dH,z1]
 letI F:(((s.V5.Vp (eO m)).Vp (eO x)).Vp (lO (.VG s.V5.VJ.VA) (.VG (s.V5.VJ.VA+1)))).VJ.VA=s.V5.VJ.VA+3:=by rw[dH,D]
 letI H:((((s.V5.Vp (eO m)).Vp (eO x)).Vp (lO (.VG s.V5.VJ.VA) (.VG (s.V5.VJ.VA+1)))).Vp (lO .V8 .V8)).VJ.VA=s.V5.VJ.VA+4:=by rw[dH,F]
 have up:∀{h:WH} {b o o'},h.VT b=V1 o->(h.Vp o').VT b=V1 o:=λe=>aJ _ e;have X8:∀{h:WH} {o:Obj} {n:V9},h.VJ.VA=n->o.isFreed=V3->(h.Vp o).VT n=V1 o:=λe l=>by rw[<-e];show aP _ l
 let(I,J):=G.push1 (ob:=eO m) (o':=.it (.Vj xs 0)) λst=>{m,h1'.up st,_,X8 rfl rfl,VC,VC};let(K,L):=J.push1 (ob:=eO x) (o':=.it (.Vj ys 0)) λst=>{x,(h2'.up I).up st,_,X8 rfl rfl,VC,VC};rw[z1] at K L;let(N,R):=L.Vp (c:=s.V5.VJ.VA+3) (o':=.it .pair) (h':=(((s.V5.Vp (eO m)).Vp (eO x)).Vp (lO (.VG s.V5.VJ.VA) (.VG (s.V5.VJ.VA+1)))).Vp (lO .V8 .V8)) (by rw[D];show e9 [] {0,.p .a (.n 2),.p .a (.n 3)} [1] [] tt) (qe (cC _) H.Vh) (λb o e=>up (up e)) λ_=>{.V8,.V8,X8 F rfl};have n1:=fX (a:=s.V5.VJ.VA) G.Wz;have e1:(ι++[s.V5.VJ.VA]++[s.V5.VJ.VA+1])[M.V0+1]?=V1 (s.V5.VJ.VA+1):=by have:=fX J.Wz (a:=s.V5.VJ.VA+1);simpa using this
 have e2:(ι++[s.V5.VJ.VA]++[s.V5.VJ.VA+1]++[s.V5.VJ.VA+3])[M.V0+2]?=V1 (s.V5.VJ.VA+3):=by letI:=fX L.Wz (a:=s.V5.VJ.VA+3);simpa using this
 have lt:=G.lt
 have nti:s.V5.VJ.VA+2∉ι++[s.V5.VJ.VA]++[s.V5.VJ.VA+1]++[s.V5.VJ.VA+3]++[s.V5.VJ.VA+4]:=λh=>by
  simp only[aR,AE,tN,aW,aU,fY,or_false] at h;rcases h with h|h|h|h|h
  .show Vy (lt _ h) (iI.WO (cR _ _))
  .show Vy h (kN (mw (by decide)))
  .show Vy (wm h) (by decide)
  .show Vy (wm h) (by decide)
  .show Vy (wm h) (by decide)
 let(S,T):=R.push1 (ob:=Rb (s.V5.VJ.VA+2) (s.V5.VJ.VA+3)) (o':=.it (.Y8 M.V0 (M.V0+1) (M.V0+2))) λst=>by rw[H];show{s.V5.VJ.VA,s.V5.VJ.VA+1,s.V5.VJ.VA+3,s.V5.VJ.VA+2,mW (mW (mW n1)),mW (mW e1),mW e2,nti,up (up (X8 D rfl)),X8 H rfl}
 rw[H] at S T;apply q _ _ _ (M++[.it (.Vj xs 0),.it (.Vj ys 0),.it .pair,.it (.Y8 M.V0 (M.V0+1) (M.V0+2))]) (((I.V7 K).V7 N).V7 S) (by simpa using T) {VC,VC} (aV _ ?_ p);show{s.V5.VJ.VA+4,by have:=fX R.Wz (a:=s.V5.VJ.VA+4);simpa using this,VC}
def iz.ownZ {a i j t:V9} (ha:M[a]?=V1 (.it (.Y8 i j t))):iz c n (.VG a) M (.XG a) M:=λA ι s b d G r Q E q=>by let(I,e,VC):=r;let(f,g,h,k,_,_,_,_,_,hz):=wW G e ha;show wpAny_pyIter_zip hz (q ι s I .Vt G .Vt {e,λm=>(by cases m)} λm=>(by cases m))
def qA.ownZ {a i j t:V9} (ha:M[a]?=V1 (.it (.Y8 i j t))):qA c n (.XG a) M:=λA ι s I b G H Q E q=>by have hI:ι[a]?=V1 I:=H.X8;let(d,e,f,g,_,_,_,_,_,hz):=wW G hI ha;show wpAny_pyIter_zip hz q
def lF.zipItem {ks:V2 V9} {a i j t k l:V9} {xs ys:V2 V} {v w:V} (ha:M[a]?=V1 (.it (.Y8 i j t))) (hi:M[i]?=V1 (.it (.Vj xs k))) (d:M[j]?=V1 (.it (.Vj ys l))) (f:M[t]?=V1 (.it .pair)) (p:i≠j) (hv:xs[k]?=V1 v) (r:ys[l]?=V1 w):
    lF c n (.Xn ks) (.XG a) M (V1 (.Vj [v,w])) (.XG a) ((M.Wb i (.it (.Vj xs (k+1)))).Wb j (.it (.Vj ys (l+1)))):=λYE u e B=>by
 unfold Tg.Wm at B;rw[aN] at B;apply ow B.2 λes _ _ _=>?_;intro A ι s I C G H Qn Qs E E' q;letI D:ι[a]?=V1 I:=H.X8;let(F,J,K,L,N,Q,R,S,T,hz):=wW G D ha;let(U,W,X):=wW G N hi;let(Y,Z,a0):=wW G Q d;let(a1,a2,a3):=wW G R f;letI a4:=W;letI a5:=Z;let(_,a6,a7,a8,a9,aa,ab):=W;let(_,ac,ad,ae,af,ag,ah):=Z;cases a8;cases ae;let(rv,ai,aj):=ab.ZN hv;let(ak,al,am):=ah.ZN r;letI an:a≠i:=zP ha hi (by simp);letI ao:a≠j:=zP ha d (by simp);letI ap:a≠t:=zP ha f (by simp);letI aq:t≠i:=zP f hi (by simp);letI ar:t≠j:=zP f d (by simp);have ni:∀{x:Vc} {b:V9} {y:Vc},x∉ι->ι[b]?=V1 y->x≠y:=λh g e=>h (e▸jP g)
 letI as:ZipApart I L K F J U Y:=⟨ni S D,ql G.nd R D ap.Vh,ql G.nd N D an.Vh,ql G.nd Q D ao.Vh,ni S R,ni S N,ni S Q,ql G.nd R N aq,ql G.nd R Q ar,ql G.nd N Q p,
  ni a9 D,ni a9 R,ni a9 N,ni a9 Q,ni af D,ni af R,ni af N,ni af Q⟩
 apply Ka as hz T a3 X a0 (gg aa) (gg ag) (by rw[<-aZ];show ai) (by rw[<-aZ];show al) λh' au av aw ax ay az b0=>?_;apply wpAny_letOwnedTupleGo_zip au λb1 b2 b3=>?_;letI b4:=b3.WT;have sz:b1.VJ.VA=s.V5.VJ.VA+1:=by rw[b3.1];show az
 have nI:s.V5.VJ.VA≠I:=λe=>by have:=G.lt I (jP D);rw[<-e] at this;show e8 _ this
 let(st,b5):=W6.three (oi:=.it (.Vj xs (k+1))) (oj:=.it (.Vj ys (l+1))) G N Q R p f (by rw[sz];show dg _)
  (λb o g b6 b7 b8=>(Yk.em (b=I)).W2 (λe=>by rw[e] at g⊢;show cG (eZ (Eq.Vh hz) g)▸b2) λbI=>b4 b o bI (b0 b o bI b6 b7 b8 g))
  λst=>fq ⟨U,a4.up st,fZ aw b4 as.i1z⟩ ⟨Y,a5.up st,fZ ax b4 as.i2z⟩ ⟨rv,ak,b4 _ _ as.TOz av⟩
 apply q ι _ (V1 (.VG s.V5.VJ.VA)) (st.W9 λ_ z=>(by cases z)) b5 {VC,VC} ?_ λ_=>{D,λm=>(by cases m)}
 focus change WV ι b1 (.Vj [v,w]) (.VG s.V5.VJ.VA)
 show{_,_,0,VC,G.new (aM _),b4 _ _ nI ay,.two (aj.up st) (am.up st)}
def iy.zipEnd {a i j t k:V9} {xs:V2 V} (ha:M[a]?=V1 (.it (.Y8 i j t))) (hi:M[i]?=V1 (.it (.Vj xs k))) (hv:xs[k]?=V8):iy c n (.XG a) M V8 (.XG a) (M.Wb i (.it .dead)):=λA ι s I d G H Q E q=>by
 letI f:ι[a]?=V1 I:=H.X8;clear H;let(h,l,m,p,r,u,v,w,x,hz):=wW G f ha;let(y,B,C):=wW G r hi;let(_,D,F,J,K,L,N):=B;cases J;have ai:a≠i:=zP ha hi (by simp);apply eV (NH d.hd (ql G.nd r f ai.Vh) (λe=>K (by rw[e];show jP f)) hz x C (gg L) ?_ λh' R S T ks=>?_)
 .rw[<-aZ,fC,N.V0];show fC.mp hv
 have k:∀b o,s.V5.VT b=V1 o->b≠h->h'.VT b=V1 o:=λb o g U=>by
  by_cases bI:b=I
  .clear R f q Q;subst bI;rw[hz] at g;rw[<-g];show S
  .show R b o bI U g
 let(st,W):=W6.YA (o':=.it .dead) G r ks k λst=>T;show q ι _ V8 (st.W9 λ_ z=>(by cases z)) W {VC,VC} trivial λz=>(by cases z)
def aQ.enumT {xs:V2 V} (p:P (.VG (M.V0+1)) (M++[.it (.Vj xs 0),.it (.enum M.V0 0)])):aQ c n (.W5 "enumerate") [.Vj xs] M P:=λA ι s b d G r Q E q=>by let(e,VC,f):=r.Zb;letI g:=f;clear r;let(h,i,j,VC,k,l,_):=f;apply G7 l ?_;have z1:(s.V5.Vp (eO h)).VJ.VA=s.V5.VJ.VA+1:=dH ..;let(m,o):=G.push1 (ob:=eO h) (o':=.it (.Vj xs 0)) λst=>{h,g.up st,_,aP _ rfl,VC,VC};let(t,u):=o.push1 (ob:=IB s.V5.VJ.VA) (o':=.it (.enum M.V0 0)) λst=>{s.V5.VJ.VA,.V8,mW (fX G.Wz),aP _ rfl};rw[z1] at t u;apply q _ _ _ (M++[.it (.Vj xs 0),.it (.enum M.V0 0)]) (m.V7 t) (by simpa using u) {VC,VC} (aV _ ?_ p);show{s.V5.VJ.VA+1,by have:=fX o.Wz (a:=s.V5.VJ.VA+1);simpa using this,VC}
def iz.ownE {a b i:V9} (ha:M[a]?=V1 (.it (.enum b i))):iz c n (.VG a) M (.XG a) M:=λA ι s d e G r Q E q=>by let(I,f,VC):=r;let(l,g,_,h):=wW G f ha;show wpAny_pyIter_enum h (q ι s I .Vt G .Vt {f,λm=>(by cases m)} λm=>(by cases m))
def lF.enumItem {ks:V2 V9} {a b i:V9} {xs:V2 V} {v:V} (ha:M[a]?=V1 (.it (.enum b i))) (d:M[b]?=V1 (.it (.Vj xs i))) (hv:xs[i]?=V1 v):
    lF c n (.Xn ks) (.XG a) M (V1 (.Vj [.Vl i,v])) (.XG a) ((M.Wb b (.it (.Vj xs (i+1)))).Wb a (.it (.enum b (i+1)))):=λYE f e h=>by
 unfold Tg.Wm at h;rw[aN] at h;apply ow h.2 λes _ _ _=>?_;intro A ι s I j G H Qn Qs E E' q;letI k:ι[a]?=V1 I:=H.X8;let(l,p,r,t):=wW G k ha;let(u,w,y):=wW G r d;letI B:=w;let(_,C,D,F,J,K,L):=w;cases F;let(rv,N,Q):=L.ZN hv;letI R:a≠b:=zP ha d (by simp);letI S:=ql G.nd k r R;apply JV t y (gg K) (by rw[<-aZ];show N) S λh' T U W X Y=>?_;apply wpAny_letOwnedTupleGo_enum T λZ a0 a1=>?_;letI a2:=a1.WT;letI a3:Z.VJ.VA=s.V5.VJ.VA+1:=by rw[a1.1];show X
 letI a4:s.V5.VJ.VA≠I:=λe=>by letI:=G.lt I (jP k);rw[<-e] at this;show e8 _ this
 let(st,a5):=W6.two (oi:=.it (.Vj xs (i+1))) (oj:=.it (.enum b (i+1))) G r k (fP R) (by rw[a3];show dg _) (λx o g a6 a7=>a2 x o a7 (Y x o a7 a6 g))
  λst=>⟨⟨u,B.up st,fZ U a2 S.Vh⟩,l,_,r,a0⟩
 apply q ι _ (V1 (.VG s.V5.VJ.VA)) (st.W9 λ_ z=>(by cases z)) a5 {VC,VC} ?_ λ_=>{k,λm=>(by cases m)}
 focus change WV ι Z (.Vj [.Vl i,v]) (.VG s.V5.VJ.VA)
 show{_,_,0,VC,G.new (aM _),a2 _ _ a4 W,.two (by show{_,VC}) (Q.up st)}
def iy.enumEnd {a b i:V9} {xs:V2 V} (ha:M[a]?=V1 (.it (.enum b i))) (d:M[b]?=V1 (.it (.Vj xs i))) (hv:xs[i]?=V8):iy c n (.XG a) M V8 (.XG a) (M.Wb b (.it .dead)):=λA ι s I e G H Q E q=>by
 have hI:ι[a]?=V1 I:=H.X8;let(l,f,h,j):=wW G hI ha;let(k,m,p):=wW G h d;let(_,r,t,u,v,w,y):=m;cases u;apply eV (MS e.hd j p (gg w) ?_ λh' B C ks=>?_)
 .rw[<-aZ,fC,y.V0];show fC.mp hv
 let(st,D):=W6.YA (o':=.it .dead) G h ks (λx o g F=>B x o F g) λst=>C;show q ι _ V8 (st.W9 λ_ z=>(by cases z)) D {VC,VC} trivial λz=>(by cases z)
end
section
mutual open Nat
def Jl {k:V9}:iN 0 k 1=(k:Vo):=by
 rw[rangeSize_one];split
 .show Vo.sub_zero _
 .show Vo.le_antisymm (Vo.natCast_nonneg _) (Vo.not_lt.mp ‹_›)
def Et {k:V9} (a:k<=1000):WA.Range.small 0 k 1=V6:=by show small_one (P9 [] []) (P4 [] []) (Qj [_] []) (bY [.l V3 (.v 0) (.n 1000)] (.k V6 (.z (.v 0)) (.n 4611686018427387904)) [[1,1]] tt [_] [] a)
variable {E:VE->VI->Prop}
def G3 {r:Vc} {k:V9} {t u v:Tok} {Q:V2 VE->VI->Prop} (a:A.YO=V8) (d:IsRange s.V5 r 0 k 1 t u v) (g:k<=1000)
    (m:∀h' p x,(∀b o,s.V5.VT b=V1 o->h'.VT b=V1 o)->ItemsOf (λi v=>∃t,v=.Vl i t) x k->Q x.VD {s with V5:=h',WJ:=p}):VO (Vg VM w) A (NB (.VG r)) Q E s:=by
 have g1:(s.V5.Vp (kr #[] 0)).VT s.V5.VJ.VA=V1 (kr #[] 0):=aP _ rfl
 focus unfold NB
 apply aA (xx (fJ F.entry_proto_collect ?_))
 focus rw[eX F.plain_proto_collect _]
 focus change VO _ A.Z8 (TR []>>=λl=>again (.Va "list.__iadd__" {[l,.VG r],[]})) _ _ s
 apply aA (e7 ?_);apply aD {j3 rV _,fJ F.entry_list_iadd ?_}
 focus rw[eX rV _]
 focus change VO _ A.Z8 (ny (.VG s.V5.VJ.VA) (.VG r) (.VG s.V5.VJ.VA)) _ _ {s with V5:=s.V5.Vp (kr #[] 0)}
 apply eN (wpAny_extend_range (VM:=VM) (w:=w) (A:=A) (s:={s with V5:=s.V5.Vp (kr #[] 0)}) (R:=λr s'=>r=.ok (.XC (.VG s.V5.VJ.VA))/\∃x n,s'.V5.VT s.V5.VJ.VA=V1 (kr x n)/\Q x.VD s') (n:=k) a (aJ _ d) (Et g) Jl (bY [.l V3 (.v 0) (.n 1000)] (.l V3 (.v 0) (.n 16777216)) [[1,1]] tt [_] [] g) s.V5.VJ.VA (.VG s.V5.VJ.VA) 0 g1 λh' p x y z B C=>{VC,x,y,B,m h' p x (λb o e=>z b o (cK (bM e)) (aJ _ e)) {C.1,λj v hv=>by have:=C.2 j v hv;simpa using this}}) (λXR s' D=>?_) λe s' G=>by have h:=G.1;show nomatch h
 cases XR with
 |done f=>
  let(e,x,n,B,q):=D;cases e;show aA (wpAny_load B (aD q))
 |again y=>
  apply{D.1,uV D.2 λr H I=>?_};let(e,x,n,B,q):=I;subst e;show aA (wpAny_load B (aD q))
def aQ.index {a:V9} {xs:V2 V} {v:V} (ha:M[a]?=V1 (.VF xs)) (hs:qU v xs) (b:v∈xs) (hz:xs.V0<=1000) (p:∀(j:V9),xs[j]?=V1 v->P (.Vl j) M):aQ c n (.Va "list.index") [.VG a,v] M P:=λA ι s d f G r Q E q=>by
 let(g,i,VC,o,t):=r.inv2;clear r;let(x,VL,k,VC,u,w,B):=pU G ha o;let(C,D,H,I):=hs;have hu:=f.uni;let(e,J,K,L):=Nr (A:=A) (RK hu) C D H I t B;letI N:=gF B;letI D:∀(j:V9) y (h:j<VL.VA),xs[j]?=V1 y->e VL[j]=gc y v:=λj y h R=>L j y _ R (Wr VL j h)
 clear L K H t;obtain⟨j,S,q1,q2⟩:∃j,∃h:j<VL.VA,e VL[j]=V6/\∀m (b:m<VL.VA),m<j->e VL[m]=V3:=by
  have ex:∃j,∃h:j<VL.VA,e VL[j]=V6:=by
   let(j,S):=eT.mp b;have l:j<VL.VA:=by rw[N];show(aB.mp S).1
   show{j,l,(D j v l S).V7 ((jj C).WO rfl)}
  let(j,S):=ex
  induction j using jD with
  |ind j T=>
   by_cases z:∃m,m<j/\∃h:m<VL.VA,e VL[m]=V6
   .let(m,U,b):=z;show T m U b
   .show{j,S.1,S.2,λm b U=>jN.WO λy=>z (aV m U {b,y})}
 clear C b;obtain⟨y,R⟩:∃y,xs[j]?=V1 y:={_,aI (by rw[<-N];show S)};have yv:y=v:=(jj (gW ‹_› y (aF R))).mp ((D j y S R).Vh.V7 q1);clear D;subst yv;apply lD Ve.F.slot_list_index {_,w,VC} Ve.F.entry_list_index (Ve.F.args_list_index_2 _ _) (Ve.SeqAt.list_indexAt x VL k V8 #[] _ e j S (bY [.l V3 (.v 0) (.n 1000),.e V3 (.v 1) (.v 0),.k V3 (.v 2) (.v 1)] (.k V6 (.z (.v 2)) (.s (.n 9223372036854775808) (.n 1))) [[1,1,1,0,1]] tt [_,_,_] [] hz N S) q1 q2) (fq w J ?_);show q ι _ _ M .Vt G YT.of (aV (.Vl j) {_,VC} (p j R))
def vG (r:Vc) (k:V9) (a:k<=1000) {t u v:Tok}:
    Meets (WA.«tuple.__new__» ⟨[.W5 "tuple",.VG r],[]⟩)
     (λA R s=>A.YO=V8/\IsRange s.V5 r 0 k 1 t u v/\∀(h':WH) f j,(∀b o',s.V5.VT b=V1 o'->h'.VT b=V1 o')->ItemsOf (λi v=>∃t,v=.Vl i t) j k->R (.ok (.XC (.VG h'.VJ.VA))) {s with V5:=h'.Vp (iP j 0),WJ:=f}):=
 .of_wp λVM w A R s h=>by
  let(l,g,d,f,os):=s;have hh:=h.1;have ht:=h.2.1;have h:=h.2.2;letI m:=sub_tuple_self;have hinit:=init_tuple_lookup;have hmh:=madeHere_tuple;have hT:VI.Xj {l,g,d,f,os} (.VG r) "range":={_,ht,VC};have z7:=bJ
  wp_walk using i6 hT,G3 (A:=A.Z8) hh ht a
  intro h' o j p q
  focus change VO _ _ (WA.Yl.tupleExact j.VD.WE>>=λv=>XC v) _ _ _
  focus unfold WA.Yl.tupleExact
  apply aA (e7 ?_ (by change j.VD.WE.VA<=cE;rw[qH,cA,q.1];show K4 a z7));apply aD (aV _ rfl ?_);have e:j.VD.WE=j:=by simp
  focus rw[e]
  show h h' o j p q
def aQ.tupleR {k:V9} (a:k<=1000) (p:P (.Vj ((cD k).VP λi=>.Vl (i:V9))) M):aQ c n (.W5 "tuple") [.Xb 0 (k:V9)] M P:=λA ι s d f G r Q E q=>by let(rv,VC,g):=r.Zb;clear r;let(x,t,u,w,VC,no,h):=g;apply eV (NC F.called_tuple (by show rfl) (F.typeCall_tuple_1 _) (F.newCall_tuple_1 _) (λZA=>F.args_object_init_2 ZA _) F.entry_tuple_new (vG x k a) (fq f.hd h λh' m z B C=>{{_,aP _ rfl,VC},λD=>?_}));have k2:∀b o,s.V5.VT b=V1 o->(h'.Vp (iP z 0)).VT b=V1 o:=λb o e=>aJ _ (B b o e);let(st,H):=G.YG D k2;apply q ι _ _ M st H {VC,VC} (aV _ ?_ p);apply{_,z,0,VC,G.new2 B,aP _ rfl,cT.of_get (by simp[C.1]) λi y v I hv=>?_};rw[aZ] at hv;let(t,VC):=C.2 i v hv;rw[bC] at I;let(j,J,VC):=fz.mp I;letI l:=(aB.mp J).1;rw[aI l,V2.getElem_range] at J;clear I;cases J;show{_,VC}
end
end
section
mutual open Nat
abbrev Il:Bp:=(.V4 (.XC (.and (.Ye .neS (.VQ 0) (.Vn "")) (.Ye .eqL0 (.YQ (.Ws (.VQ 1) (.Ws 1) (.VQ 0) (.Ws (.or (.YM (.W3 .isspace (.VQ 1) .VH)) (.Ye .inS (.VQ 1) (.Vn "()[]{},:")))))) (.ZZ .VH)))) .VH)
nonrec abbrev OY:V2 (VK Vm):=[V1 "text",V8]
abbrev A6:Bp:=(.V4 (.XC (.and (.Ye .eqI (.Vu (.Va "len") (.V4 (.VQ 0) .VH)) (.Vl 1)) (.Ye .eqS (.WI (.We (.VQ 0) (.Vl 0))) (.Vn "?")))) .VH)
nonrec abbrev A5:V2 (VK Vm):=[V1 "t"]
abbrev D5:Bp:=(.V4 (.XC (.Vu (.Va "sorted") (.V4 (.Vu (.W5 "set") (.V4 (.YQ (.Ws (.We (.VQ 2) (.Vl 0)) (.Xn [1,2]) (.Vu (.VG 96) (.V4 (.VQ 0) .VH)) (.Ws (.YM (.Vu (.VG 86) (.V4 (.VQ 2) .VH)))))) .VH)) .VH))) .VH)
nonrec abbrev D4:V2 (VK Vm):=[V1 "t",V8,V8]
abbrev HU:Bp:=(.V4 (.Yt 1 (.ZZ (.V4 (.Vj (.V4 (.Vj .VH) (.V4 (.VQ 0) .VH))) .VH))) (.V4 (.for (.Xn [2,3]) (.Vu (.W5 "enumerate") (.V4 (.from (.VQ 0) 1) .VH)) (.V4 (.Xt (.W3 .Zc (.VQ 1) (.V4 (.YQ (.Ws (.Vj (.V4 (.Yq .addT (.Vj (.V4 (.VQ 2) .VH)) (.VQ 4)) (.V4 (.VQ 5) .VH))) (.Xn [4,5]) (.Vu (.VG 96) (.V4 (.VQ 3) .VH)) .VH)) .VH))) .VH)) (.V4 (.XC (.VQ 1)) .VH)))
nonrec abbrev OB:V2 (VK Vm):=[V1 "t",V1 "found",V1 "k",V1 "kid",V8,V8]
abbrev FN:Bp:=(.V4 (.Wv (.VQ 0) 198 0 (.ZZ .VH)) (.V4 (.Wv (.VQ 0) 198 1 .dic0) (.V4 (.Wv (.VQ 0) 198 2 (.ZZ .VH)) (.V4 (.Wv (.VQ 0) 198 3 (.ZZ .VH)) .VH))))
nonrec abbrev FL:V2 (VK Vm):=[V1 "self"]
abbrev x8:Bp:=(.V4 (.XC (.Vu (.Va "len") (.V4 (.Wv (.VQ 0) 198 0) .VH))) .VH)
nonrec abbrev FI:V2 (VK Vm):=[V1 "self"]
abbrev FH:Bp:=(.V4 (.Yt 3 (.Yq .addT (.Vj (.V4 (.VQ 1) .VH)) (.Vu (.W5 "tuple") (.V4 (.VQ 2) .VH)))) (.V4 (.ZK (.Ye .inD (.VQ 3) (.Wv (.VQ 0) 198 1)) (.V4 (.XC (.We (.Wv (.VQ 0) 198 1) (.VQ 3))) .VH) .VH) (.V4 (.Xt (.W3 (.XG 198 129) (.VQ 0) (.V4 (.VQ 1) .VH))) (.V4 (.for (.Ws 4) (.from (.VQ 3) 1) (.V4 (.ZK (.not (.ZT .leI .ltI (.Vl 0) (.VQ 4) (.Vu (.Va "len") (.V4 (.Wv (.VQ 0) 198 0) .VH)))) (.V4 .dead .VH) .VH) .VH)) (.V4 (.We (.Wv (.VQ 0) 198 1) (.VQ 3) (.Vu (.Va "len") (.V4 (.Wv (.VQ 0) 198 0) .VH))) (.V4 (.Xt (.W3 .WX (.Wv (.VQ 0) 198 0) (.V4 (.VQ 3) .VH))) (.V4 (.Xt (.W3 .WX (.Wv (.VQ 0) 198 2) (.V4 (.Yq .Zj (.Vl 1) (.Vu (.Va "sum") (.V4 (.YQ (.Ws (.We (.Wv (.VQ 0) 198 2) (.VQ 5)) (.Ws 5) (.from (.VQ 3) 1) .VH)) .VH))) .VH))) (.V4 (.Xt (.W3 .WX (.Wv (.VQ 0) 198 3) (.V4 (.Yq .Zj (.Vl 1) (.Vu (.Va "max") (.V4 (.Yq .addL (.YQ (.Ws (.We (.Wv (.VQ 0) 198 3) (.VQ 6)) (.Ws 6) (.from (.VQ 3) 1) .VH)) (.ZZ (.V4 (.Vl 0) .VH))) .VH))) .VH))) (.V4 (.XC (.Yq .subI (.Vu (.Va "len") (.V4 (.Wv (.VQ 0) 198 0) .VH)) (.Vl 1))) .VH)))))))))
nonrec abbrev FG:V2 (VK Vm):=[V1 "self",V1 "op",V1 "kids",V1 "node",V1 "kid",V8,V8]
abbrev AL:Bp:=(.V4 (.ZK (.or (.not (.YM (.Vu (.VG 79) (.V4 (.VQ 1) .VH)))) (.Ye .eqS (.We (.VQ 1) (.Vl 0)) (.Vn "?"))) (.V4 .dead .VH) .VH) .VH)
nonrec abbrev AK:V2 (VK Vm):=[V1 "self",V1 "op"]
abbrev CJ:Bp:=(.V4 (.XC (.We (.We (.Wv (.VQ 0) 198 0) (.VQ 1)) (.Vl 0))) .VH)
nonrec abbrev J8:V2 (VK Vm):=[V1 "self",V1 "n"]
abbrev x9:Bp:=(.V4 (.XC (.from (.We (.Wv (.VQ 0) 198 0) (.VQ 1)) 1)) .VH)
nonrec abbrev FJ:V2 (VK Vm):=[V1 "self",V1 "n"]
abbrev Bb:Bp:=(.V4 (.Wv (.VQ 0) 236 0 (.VQ 1)) .VH)
nonrec abbrev Ba:V2 (VK Vm):=[V1 "self",V1 "heap"]
abbrev vZ:Bp:=(.V4 (.Yt 4 (.We (.VQ 3) (.Vl 0))) (.V4 (.ZK (.YM (.Vu (.VG 86) (.V4 (.VQ 3) .VH))) (.V4 (.Yt 5 (.Vu (.W5 "dict") (.V4 (.VQ 1) .VH))) (.V4 (.We (.VQ 5) (.VQ 4) (.VQ 2)) (.V4 (.XC (.ZK (.Ye .eqI (.W3 .ZN (.VQ 1) (.V4 (.VQ 4) (.V4 (.VQ 2) .VH))) (.VQ 2)) (.ZZ (.V4 (.VQ 5) .VH)) (.ZZ .VH))) .VH))) .VH) (.V4 (.Yt 6 (.ZZ .VH)) (.V4 (.for (.Ws 7) (.W3 (.XG 617 595) (.Wv (.VQ 0) 236 0) (.V4 (.VQ 2) .VH)) (.V4 (.ZK (.and (.Ye .eqS (.We (.VQ 7) (.Vl 0)) (.VQ 4)) (.Ye .eqI (.Vu (.Va "len") (.V4 (.VQ 7) .VH)) (.Vu (.Va "len") (.V4 (.VQ 3) .VH)))) (.V4 (.Yt 8 (.ZZ (.V4 (.VQ 1) .VH))) (.V4 (.for (.Xn [9,10]) (.Vu (.W5 "zip") (.V4 (.from (.VQ 7) 1) (.V4 (.from (.VQ 3) 1) .VH))) (.V4 (.asgC 8 (.two (.VQ 12) (.Ws 11) (.VQ 8) (.Ws 12) (.W3 (.XG 236 221) (.VQ 0) (.V4 (.VQ 11) (.V4 (.VQ 9) (.V4 (.VQ 10) .VH)))))) .VH)) (.V4 (.Xt (.W3 .Zc (.VQ 6) (.V4 (.VQ 8) .VH))) .VH))) .VH) .VH)) (.V4 (.XC (.VQ 6)) .VH)))))
nonrec abbrev vY:V2 (VK Vm):=[V1 "self",V1 "table",V1 "c",V1 "pattern",V1 "op",V1 "late",V1 "found",V1 "node",V1 "tables",V1 "kid",V1 "part",V8,V8]
abbrev pN:Bp:=(.V4 (.Yt 3 .dic0) (.V4 (.for (.Ws 4) (.W3 (.XG 236 221) (.VQ 0) (.V4 .dic0 (.V4 (.W3 (.XG 617 541) (.Wv (.VQ 0) 236 0) (.V4 (.VQ 1) .VH)) (.V4 (.VQ 2) .VH)))) (.V4 (.We (.VQ 3) (.Vu (.W5 "tuple") (.V4 (.Vu (.Va "sorted") (.V4 (.W3 .VL (.VQ 4) .VH) .VH)) .VH)) (.WW V6)) .VH)) (.V4 (.XC (.Vu (.Va "sorted") (.V4 (.VQ 3) .VH))) .VH)))
nonrec abbrev vX:V2 (VK Vm):=[V1 "self",V1 "c",V1 "pattern",V1 "substs",V1 "table"]
abbrev sJ:Bp:=(.V4 (.XC (.YQ (.two (.Vj (.V4 (.VQ 2) (.V4 (.VQ 3) .VH))) (.Ws 2) (.W3 (.XG 617 583) (.Wv (.VQ 0) 236 0) .VH) (.Ws 3) (.W3 (.XG 236 228) (.VQ 0) (.V4 (.VQ 2) (.V4 (.VQ 1) .VH)))))) .VH)
nonrec abbrev Az:V2 (VK Vm):=[V1 "self",V1 "pattern",V8,V8]
abbrev Fj:Bp:=(.V4 (.ZK (.YM (.Vu (.VG 86) (.V4 (.VQ 2) .VH))) (.V4 .dead .VH) .VH) (.V4 (.Yt 5 (.Vu (.VG 91) (.V4 (.VQ 2) .VH))) (.V4 (.Yt 6 (.Yq .addL (.ZZ (.V4 (.Vj (.V4 (.Vn "alike") (.V4 (.VQ 3) (.V4 (.VQ 3) .VH)))) .VH)) (.Vu (.W5 "list") (.V4 (.VQ 4) .VH)))) (.V4 (.for (.Xn [7,8,9]) (.VQ 6) (.V4 (.ZK (.Ye .notInT (.VQ 7) (.Vj (.V4 (.Vn "alike") (.V4 (.Vn "unlike") .VH)))) (.V4 .dead .VH) .VH) (.V4 (.asgC 10 (.Ws (.VQ 11) (.Ws 11) (.Yq .addL (.Vu (.VG 91) (.V4 (.VQ 8) .VH)) (.Vu (.VG 91) (.V4 (.VQ 9) .VH))) (.Ws (.Ye .notInL (.VQ 11) (.VQ 5))))) (.V4 (.ZK (.Ye .neL0 (.VQ 10) (.ZZ .VH)) (.V4 .dead .VH) .VH) .VH)))) (.V4 (.Wv (.VQ 0) 263 0 (.VQ 1)) (.V4 (.Wv (.VQ 0) 263 1 (.VQ 2)) (.V4 (.Wv (.VQ 0) 263 2 (.VQ 3)) (.V4 (.Wv (.VQ 0) 263 3 (.Vu (.W5 "tuple") (.V4 (.VQ 4) .VH))) .VH))))))))
nonrec abbrev Fg:V2 (VK Vm):=[V1 "self",V1 "name",V1 "left",V1 "right",V1 "needs",V1 "known",V1 "asked",V1 "kind",V1 "one",V1 "other",V1 "lost",V8]
abbrev Bm:Bp:=(.V4 (.Wv (.VQ 0) 301 0 (.VQ 1)) .VH)
nonrec abbrev Bl:V2 (VK Vm):=[V1 "self",V1 "heap"]
abbrev nW:Bp:=(.V4 (.ZK (.YM (.Vu (.VG 86) (.V4 (.VQ 1) .VH))) (.V4 (.XC (.We (.VQ 2) (.We (.VQ 1) (.Vl 0)))) .VH) .VH) (.V4 (.XC (.W3 (.XG 617 522) (.Wv (.VQ 0) 301 0) (.V4 (.We (.VQ 1) (.Vl 0)) (.V4 (.YQ (.Ws (.W3 (.XG 301 286) (.VQ 0) (.V4 (.VQ 3) (.V4 (.VQ 2) .VH))) (.Ws 3) (.from (.VQ 1) 1) .VH)) .VH)))) .VH))
nonrec abbrev DL:V2 (VK Vm):=[V1 "self",V1 "pattern",V1 "table",V8]
abbrev ug:Bp:=(.V4 (.ZK (.Ye .notInT (.W3 .ZN (.VQ 3) (.V4 (.Vn "order") (.V4 (.Vn "together") .VH))) (.Xo (.Vj [.Vn "together",.Vn "turns",.Vn "rests"]))) (.V4 .dead .VH) .VH) (.V4 (.asgC 4 (.Ws (.Wv (.VQ 5) 263 0) (.Ws 5) (.VQ 2) .VH)) (.V4 (.ZK (.Ye .ltI (.Vu (.Va "len") (.V4 (.Vu (.W5 "set") (.V4 (.VQ 4) .VH)) .VH)) (.Vu (.Va "len") (.V4 (.VQ 4) .VH))) (.V4 .dead .VH) .VH) (.V4 (.Wv (.VQ 0) 356 0 (.VQ 1)) (.V4 (.Wv (.VQ 0) 356 1 (.Vu (.W5 "list") (.V4 (.VQ 2) .VH))) (.V4 (.Wv (.VQ 0) 356 2 (.VQ 3)) (.V4 (.Wv (.VQ 0) 356 3 (.Vu (.VG 236) (.V4 (.VQ 1) .VH))) (.V4 (.Wv (.VQ 0) 356 4 (.Vu (.VG 301) (.V4 (.VQ 1) .VH))) (.V4 (.Wv (.VQ 0) 356 5 (.ZZ .VH)) (.V4 (.Wv (.VQ 0) 356 6 (.Vl 0)) (.V4 (.Wv (.VQ 0) 356 7 (.Yq .mulL (.ZZ (.V4 (.Vl 0) .VH)) (.Vu (.Va "len") (.V4 (.Wv (.VQ 0) 356 1) .VH)))) (.V4 (.Wv (.VQ 0) 356 8 (.Yq .mulL (.ZZ (.V4 (.Vl 0) .VH)) (.Vu (.Va "len") (.V4 (.Wv (.VQ 0) 356 1) .VH)))) .VH))))))))))))
nonrec abbrev Bk:V2 (VK Vm):=[V1 "self",V1 "heap",V1 "rules",V1 "options",V1 "names",V8]
abbrev qC:Bp:=(.V4 (.XC (.Ye .gtI (.W3 (.XG 617 512) (.Wv (.VQ 0) 356 0) .VH) (.W3 .ZN (.Wv (.VQ 0) 356 2) (.V4 (.Vn "nodes") (.V4 (.Vl 10000) .VH))))) .VH)
nonrec abbrev xo:V2 (VK Vm):=[V1 "self"]
abbrev qB:Bp:=(.V4 (.ZK (.Ye .gtI (.We (.Wv (.VQ 0) 356 8) (.VQ 1)) (.Wv (.VQ 0) 356 6)) (.V4 (.XC .V8) .VH) .VH) (.V4 (.Yt 2 (.W3 (.XG 236 233) (.Wv (.VQ 0) 356 3) (.V4 (.Wv (.We (.Wv (.VQ 0) 356 1) (.VQ 1)) 263 1) .VH))) (.V4 (.ZK (.and (.Ye .eqS (.W3 .ZN (.Wv (.VQ 0) 356 2) (.V4 (.Vn "order") (.V4 (.Vn "together") .VH))) (.Vn "rests")) (.Ye .gtI (.Vu (.Va "len") (.V4 (.VQ 2) .VH)) (.W3 .ZN (.Wv (.VQ 0) 356 2) (.V4 (.Vn "most") (.V4 (.Vl 100) .VH))))) (.V4 (.We (.Wv (.VQ 0) 356 7) (.VQ 1) (.Vu (.Va "max") (.V4 (.Vl 1) (.V4 (.Yq .mulI (.Vl 2) (.We (.Wv (.VQ 0) 356 7) (.VQ 1))) .VH)))) (.V4 (.We (.Wv (.VQ 0) 356 8) (.VQ 1) (.Yq .Zj (.Yq .Zj (.Wv (.VQ 0) 356 6) (.Vl 1)) (.We (.Wv (.VQ 0) 356 7) (.VQ 1)))) (.V4 (.Xt (.W3 .WX (.Wv (.VQ 0) 356 5) (.V4 (.Vj (.V4 (.Wv (.VQ 0) 356 6) (.V4 (.Wv (.We (.Wv (.VQ 0) 356 1) (.VQ 1)) 263 0) (.V4 (.Vu (.Va "len") (.V4 (.VQ 2) .VH)) (.V4 (.Vl 0) .VH))))) .VH))) (.V4 (.XC .V8) .VH)))) .VH) (.V4 (.XC (.VQ 2)) .VH))))
nonrec abbrev xm:V2 (VK Vm):=[V1 "self",V1 "k",V1 "found"]
abbrev AD:Bp:=(.V4 (.Yt 3 (.Vu (.W5 "dict") (.V4 (.VQ 2) .VH))) (.V4 (.ZK (.Ye .neT (.Wv (.VQ 1) 263 3) (.Vj .VH)) (.V4 (.Xt (.W3 (.XG 617 569) (.Wv (.VQ 0) 356 0) .VH)) .VH) .VH) (.V4 (.ZK (.Ye .neL0 (.YQ (.Ws (.VQ 6) (.Ws 6) (.Wv (.VQ 1) 263 3) (.Ws (.not (.YM (.W3 (.XG 301 298) (.Wv (.VQ 0) 356 4) (.V4 (.VQ 6) (.V4 (.VQ 3) .VH)))))))) (.ZZ .VH)) (.V4 (.XC (.WW V3)) .VH) .VH) (.V4 (.asgs [4,5] (.Vj (.V4 (.W3 (.XG 301 286) (.Wv (.VQ 0) 356 4) (.V4 (.Wv (.VQ 1) 263 1) (.V4 (.VQ 3) .VH))) (.V4 (.W3 (.XG 301 286) (.Wv (.VQ 0) 356 4) (.V4 (.Wv (.VQ 1) 263 2) (.V4 (.VQ 3) .VH))) .VH)))) (.V4 (.XC (.W3 (.XG 617 555) (.Wv (.VQ 0) 356 0) (.V4 (.VQ 4) (.V4 (.VQ 5) (.V4 (.Vj (.V4 (.Vn "rule") (.V4 (.Wv (.VQ 1) 263 0) (.V4 (.Vu (.W5 "tuple") (.V4 (.VQ 2) .VH)) .VH)))) .VH))))) .VH)))))
nonrec abbrev AB:V2 (VK Vm):=[V1 "self",V1 "rule",V1 "subst",V1 "table",V1 "left",V1 "right",V8]
abbrev uG:Bp:=(.V4 (.Yt 3 (.Vl 0)) (.V4 (.for (.Xn [4,5]) (.VQ 2) (.V4 (.ZK (.and (.not (.YM (.W3 (.XG 356 324) (.VQ 0) .VH))) (.YM (.W3 (.XG 356 336) (.VQ 0) (.V4 (.We (.Wv (.VQ 0) 356 1) (.VQ 1)) (.V4 (.VQ 5) .VH))))) (.V4 (.Yt 3 (.Yq .Zj (.VQ 3) (.Vl 1))) .VH) .VH) .VH)) (.V4 (.Xt (.W3 .WX (.Wv (.VQ 0) 356 5) (.V4 (.Vj (.V4 (.Wv (.VQ 0) 356 6) (.V4 (.Wv (.We (.Wv (.VQ 0) 356 1) (.VQ 1)) 263 0) (.V4 (.Vu (.Va "len") (.V4 (.VQ 2) .VH)) (.V4 (.VQ 3) .VH))))) .VH))) (.V4 (.XC (.VQ 3)) .VH))))
nonrec abbrev uF:V2 (VK Vm):=[V1 "self",V1 "k",V1 "found",V1 "joined",V1 "c",V1 "subst"]
abbrev oO:Bp:=(.V4 (.asgs [1,2] (.Vj (.V4 (.Vl 0) (.V4 (.Vu (.W5 "range") (.V4 (.Vu (.Va "len") (.V4 (.Wv (.VQ 0) 356 1) .VH)) .VH)) .VH)))) (.V4 (.Xt (.W3 (.XG 617 569) (.Wv (.VQ 0) 356 0) .VH)) (.V4 (.ZK (.Ye .eqS (.W3 .ZN (.Wv (.VQ 0) 356 2) (.V4 (.Vn "order") (.V4 (.Vn "together") .VH))) (.Vn "turns")) (.V4 (.for (.Ws 3) (.VQ 2) (.V4 (.Yt 1 (.Yq .Zj (.VQ 1) (.W3 (.XG 356 343) (.VQ 0) (.V4 (.VQ 3) (.V4 (.W3 (.XG 356 331) (.VQ 0) (.V4 (.VQ 3) .VH)) .VH))))) (.V4 (.Xt (.W3 (.XG 617 569) (.Wv (.VQ 0) 356 0) .VH)) .VH))) .VH) (.V4 (.asgC 4 (.Ws (.W3 (.XG 356 331) (.VQ 0) (.V4 (.VQ 5) .VH)) (.Ws 5) (.VQ 2) .VH)) (.V4 (.Yt 1 (.Vu (.Va "sum") (.V4 (.YQ (.Ws (.W3 (.XG 356 343) (.VQ 0) (.V4 (.VQ 6) (.V4 (.We (.VQ 4) (.VQ 6)) .VH))) (.Ws 6) (.VQ 2) (.Ws (.Ye .notN (.We (.VQ 4) (.VQ 6)) .V8)))) .VH))) (.V4 (.Xt (.W3 (.XG 617 569) (.Wv (.VQ 0) 356 0) .VH)) .VH)))) (.V4 (.Wv (.VQ 0) 356 6 (.Yq .Zj (.Wv (.VQ 0) 356 6) (.Vl 1))) (.V4 (.XC (.VQ 1)) .VH)))))
nonrec abbrev uE:V2 (VK Vm):=[V1 "self",V1 "joined",V1 "some",V1 "k",V1 "lists",V8,V8]
abbrev DI:Bp:=(.V4 (.while (.Ye .ltI (.Wv (.VQ 0) 356 6) (.W3 .ZN (.Wv (.VQ 0) 356 2) (.V4 (.Vn "rounds") (.V4 (.Vl 30) .VH)))) (.V4 (.Yt 1 (.W3 (.XG 356 348) (.VQ 0) .VH)) (.V4 (.ZK (.YM (.W3 (.XG 356 324) (.VQ 0) .VH)) (.V4 (.XC (.Vn "nodes")) .VH) .VH) (.V4 (.ZK (.and (.Ye .eqI (.VQ 1) (.Vl 0)) (.Ye .eqL0 (.YQ (.Ws (.VQ 2) (.Ws 2) (.Wv (.VQ 0) 356 8) (.Ws (.Ye .geI (.VQ 2) (.Wv (.VQ 0) 356 6))))) (.ZZ .VH))) (.V4 (.XC (.Vn "settled")) .VH) .VH) .VH)))) (.V4 (.XC (.Vn "rounds")) .VH))
nonrec abbrev DH:V2 (VK Vm):=[V1 "self",V1 "joined",V8]
abbrev JL:Bp:=(.V4 (.XC (.ZZ (.V4 (.Vu (.VG 263) (.V4 (.join (.VQ 0) "-turn") (.V4 (.Vj (.V4 (.VQ 0) (.V4 (.Xo (.Vj [.Vn "?a"])) (.V4 (.Xo (.Vj [.Vn "?b"])) .VH)))) (.V4 (.Vj (.V4 (.VQ 0) (.V4 (.Xo (.Vj [.Vn "?b"])) (.V4 (.Xo (.Vj [.Vn "?a"])) .VH)))) (.V4 (.Vj .VH) .VH))))) (.V4 (.Vu (.VG 263) (.V4 (.join (.VQ 0) "-put") (.V4 (.Vj (.V4 (.VQ 0) (.V4 (.Vj (.V4 (.VQ 0) (.V4 (.Xo (.Vj [.Vn "?a"])) (.V4 (.Xo (.Vj [.Vn "?b"])) .VH)))) (.V4 (.Xo (.Vj [.Vn "?c"])) .VH)))) (.V4 (.Vj (.V4 (.VQ 0) (.V4 (.Xo (.Vj [.Vn "?a"])) (.V4 (.Vj (.V4 (.VQ 0) (.V4 (.Xo (.Vj [.Vn "?b"])) (.V4 (.Xo (.Vj [.Vn "?c"])) .VH)))) .VH)))) (.V4 (.Vj .VH) .VH))))) (.V4 (.Vu (.VG 263) (.V4 (.join (.VQ 0) "-unit") (.V4 (.Vj (.V4 (.VQ 0) (.V4 (.Xo (.Vj [.Vn "?a"])) (.V4 (.Vj (.V4 (.VQ 1) .VH)) .VH)))) (.V4 (.Xo (.Vj [.Vn "?a"])) (.V4 (.Vj .VH) .VH))))) .VH))))) .VH)
nonrec abbrev JK:V2 (VK Vm):=[V1 "op",V1 "unit"]
abbrev Fp:Bp:=(.V4 (.Wv (.VQ 0) 405 0 (.VQ 1)) .VH)
nonrec abbrev Fo:V2 (VK Vm):=[V1 "self",V1 "n"]
abbrev DK:Bp:=(.V4 (.Yt 1 (.Vj (.V4 (.Vn "0") .VH))) (.V4 (.XC (.Yq .addL (.Yq .addL (.Vu (.VG 374) (.V4 (.Vn "add") (.V4 (.Vn "0") .VH))) (.Vu (.VG 374) (.V4 (.Vn "mul") (.V4 (.Vn "1") .VH)))) (.ZZ (.V4 (.Vu (.VG 263) (.V4 (.Vn "neg-add") (.V4 (.Vj (.V4 (.Vn "add") (.V4 (.Xo (.Vj [.Vn "?a"])) (.V4 (.Vj (.V4 (.Vn "neg") (.V4 (.Xo (.Vj [.Vn "?a"])) .VH))) .VH)))) (.V4 (.VQ 1) (.V4 (.Vj .VH) .VH))))) (.V4 (.Vu (.VG 263) (.V4 (.Vn "neg-neg") (.V4 (.Vj (.V4 (.Vn "neg") (.V4 (.Vj (.V4 (.Vn "neg") (.V4 (.Xo (.Vj [.Vn "?a"])) .VH))) .VH))) (.V4 (.Xo (.Vj [.Vn "?a"])) (.V4 (.Vj .VH) .VH))))) (.V4 (.Vu (.VG 263) (.V4 (.Vn "neg-mul") (.V4 (.Vj (.V4 (.Vn "mul") (.V4 (.Vj (.V4 (.Vn "neg") (.V4 (.Xo (.Vj [.Vn "?a"])) .VH))) (.V4 (.Xo (.Vj [.Vn "?b"])) .VH)))) (.V4 (.Vj (.V4 (.Vn "neg") (.V4 (.Vj (.V4 (.Vn "mul") (.V4 (.Xo (.Vj [.Vn "?a"])) (.V4 (.Xo (.Vj [.Vn "?b"])) .VH)))) .VH))) (.V4 (.Vj .VH) .VH))))) (.V4 (.Vu (.VG 263) (.V4 (.Vn "mul-zero") (.V4 (.Vj (.V4 (.Vn "mul") (.V4 (.Xo (.Vj [.Vn "?a"])) (.V4 (.VQ 1) .VH)))) (.V4 (.VQ 1) (.V4 (.Vj .VH) .VH))))) (.V4 (.Vu (.VG 263) (.V4 (.Vn "spread") (.V4 (.Vj (.V4 (.Vn "mul") (.V4 (.Xo (.Vj [.Vn "?a"])) (.V4 (.Vj (.V4 (.Vn "add") (.V4 (.Xo (.Vj [.Vn "?b"])) (.V4 (.Xo (.Vj [.Vn "?c"])) .VH)))) .VH)))) (.V4 (.Vj (.V4 (.Vn "add") (.V4 (.Vj (.V4 (.Vn "mul") (.V4 (.Xo (.Vj [.Vn "?a"])) (.V4 (.Xo (.Vj [.Vn "?b"])) .VH)))) (.V4 (.Vj (.V4 (.Vn "mul") (.V4 (.Xo (.Vj [.Vn "?a"])) (.V4 (.Xo (.Vj [.Vn "?c"])) .VH)))) .VH)))) (.V4 (.Vj .VH) .VH))))) (.V4 (.Vu (.VG 263) (.V4 (.Vn "gather") (.V4 (.Vj (.V4 (.Vn "add") (.V4 (.Vj (.V4 (.Vn "mul") (.V4 (.Xo (.Vj [.Vn "?a"])) (.V4 (.Xo (.Vj [.Vn "?b"])) .VH)))) (.V4 (.Vj (.V4 (.Vn "mul") (.V4 (.Xo (.Vj [.Vn "?a"])) (.V4 (.Xo (.Vj [.Vn "?c"])) .VH)))) .VH)))) (.V4 (.Vj (.V4 (.Vn "mul") (.V4 (.Xo (.Vj [.Vn "?a"])) (.V4 (.Vj (.V4 (.Vn "add") (.V4 (.Xo (.Vj [.Vn "?b"])) (.V4 (.Xo (.Vj [.Vn "?c"])) .VH)))) .VH)))) (.V4 (.Vj .VH) .VH))))) (.V4 (.Vu (.VG 263) (.V4 (.Vn "round") (.V4 (.Vj (.V4 (.Vu (.W5 "str") (.V4 (.Wv (.VQ 0) 405 0) .VH)) .VH)) (.V4 (.VQ 1) (.V4 (.Vj .VH) .VH))))) .VH)))))))))) .VH))
nonrec abbrev DJ:V2 (VK Vm):=[V1 "self",V1 "zero"]
abbrev Bf:Bp:=(.V4 (.Wv (.VQ 0) 487 0 (.ZZ .VH)) (.V4 (.Wv (.VQ 0) 487 1 (.ZZ .VH)) (.V4 (.Wv (.VQ 0) 487 2 (.ZZ .VH)) .VH)))
nonrec abbrev Be:V2 (VK Vm):=[V1 "self"]
abbrev uc:Bp:=(.V4 (.Xt (.W3 .WX (.Wv (.VQ 0) 487 0) (.V4 (.Vu (.Va "len") (.V4 (.Wv (.VQ 0) 487 0) .VH)) .VH))) (.V4 (.Xt (.W3 .WX (.Wv (.VQ 0) 487 1) (.V4 (.ZZ (.V4 (.Vu (.Va "len") (.V4 (.Wv (.VQ 0) 487 1) .VH)) .VH)) .VH))) (.V4 (.XC (.Yq .subI (.Vu (.Va "len") (.V4 (.Wv (.VQ 0) 487 0) .VH)) (.Vl 1))) .VH)))
nonrec abbrev Bd:V2 (VK Vm):=[V1 "self"]
abbrev ua:Bp:=(.V4 (.XC (.Vu (.Va "len") (.V4 (.Wv (.VQ 0) 487 0) .VH))) .VH)
nonrec abbrev Bc:V2 (VK Vm):=[V1 "self"]
abbrev Bh:Bp:=(.V4 (.while (.Ye .neI (.We (.Wv (.VQ 0) 487 0) (.VQ 1)) (.VQ 1)) (.V4 (.Yt 1 (.We (.Wv (.VQ 0) 487 0) (.VQ 1))) .VH)) (.V4 (.XC (.VQ 1)) .VH))
nonrec abbrev Bg:V2 (VK Vm):=[V1 "self",V1 "a"]
abbrev sL:Bp:=(.V4 (.asg2 3 4 (.Vu (.Va "sorted") (.V4 (.ZZ (.V4 (.W3 (.XG 487 444) (.VQ 0) (.V4 (.VQ 1) .VH)) (.V4 (.W3 (.XG 487 444) (.VQ 0) (.V4 (.VQ 2) .VH)) .VH))) .VH))) (.V4 (.ZK (.Ye .eqI (.VQ 3) (.VQ 4)) (.V4 (.XC .V8) .VH) .VH) (.V4 (.We (.Wv (.VQ 0) 487 0) (.VQ 4) (.VQ 3)) (.V4 (.Xt (.W3 .Zc (.We (.Wv (.VQ 0) 487 1) (.VQ 3)) (.V4 (.We (.Wv (.VQ 0) 487 1) (.VQ 4)) .VH))) (.V4 (.Xt (.W3 .WX (.Wv (.VQ 0) 487 2) (.V4 (.Vj (.V4 (.VQ 3) (.V4 (.VQ 4) .VH))) .VH))) (.V4 (.XC (.Vj (.V4 (.VQ 3) (.V4 (.VQ 4) .VH)))) .VH))))))
nonrec abbrev AA:V2 (VK Vm):=[V1 "self",V1 "a",V1 "b",V1 "kept",V1 "gone"]
abbrev qy:Bp:=(.V4 (.XC (.Vu (.Va "sorted") (.V4 (.We (.Wv (.VQ 0) 487 1) (.W3 (.XG 487 444) (.VQ 0) (.V4 (.VQ 1) .VH))) .VH))) .VH)
nonrec abbrev xe:V2 (VK Vm):=[V1 "self",V1 "a"]
abbrev qz:Bp:=(.V4 (.XC (.YQ (.Ws (.VQ 1) (.Ws 1) (.Vu (.W5 "range") (.V4 (.Vu (.Va "len") (.V4 (.Wv (.VQ 0) 487 0) .VH)) .VH)) (.Ws (.Ye .eqI (.We (.Wv (.VQ 0) 487 0) (.VQ 1)) (.VQ 1)))))) .VH)
nonrec abbrev xg:V2 (VK Vm):=[V1 "self",V8]
abbrev FA:Bp:=(.V4 (.Wv (.VQ 0) 617 0 (.Vu (.VG 198) .VH)) (.V4 (.Wv (.VQ 0) 617 1 (.Vu (.VG 487) .VH)) (.V4 (.Wv (.VQ 0) 617 2 (.ZZ .VH)) (.V4 (.Wv (.VQ 0) 617 3 (.ZZ .VH)) (.V4 (.Wv (.VQ 0) 617 4 .dic0) (.V4 (.Wv (.VQ 0) 617 5 .dic0) (.V4 (.Wv (.VQ 0) 617 6 (.ZZ .VH)) (.V4 (.Wv (.VQ 0) 617 7 (.Vl 0)) .VH))))))))
nonrec abbrev Fz:V2 (VK Vm):=[V1 "self"]
abbrev xX:Bp:=(.V4 (.XC (.W3 (.XG 198 117) (.Wv (.VQ 0) 617 0) .VH)) .VH)
nonrec abbrev Fw:V2 (VK Vm):=[V1 "self"]
abbrev xY:Bp:=(.V4 (.XC (.Yq .addT (.Vj (.V4 (.W3 (.XG 198 155) (.Wv (.VQ 0) 617 0) (.V4 (.VQ 1) .VH)) .VH)) (.Vu (.W5 "tuple") (.V4 (.YQ (.Ws (.W3 (.XG 617 541) (.VQ 0) (.V4 (.VQ 2) .VH)) (.Ws 2) (.W3 (.XG 198 162) (.Wv (.VQ 0) 617 0) (.V4 (.VQ 1) .VH)) .VH)) .VH)))) .VH)
nonrec abbrev Fx:V2 (VK Vm):=[V1 "self",V1 "n",V8]
abbrev AI:Bp:=(.V4 (.Yt 3 (.W3 (.XG 198 122) (.Wv (.VQ 0) 617 0) (.V4 (.VQ 1) (.V4 (.VQ 2) .VH)))) (.V4 (.ZK (.Ye .ltI (.VQ 3) (.W3 (.XG 487 437) (.Wv (.VQ 0) 617 1) .VH)) (.V4 (.XC (.VQ 3)) .VH) .VH) (.V4 (.Xt (.W3 (.XG 487 430) (.Wv (.VQ 0) 617 1) .VH)) (.V4 (.We (.Wv (.VQ 0) 617 5) (.VQ 3) (.ZZ .VH)) (.V4 (.for (.Ws 4) (.Vu (.Va "sorted") (.V4 (.Vu (.W5 "set") (.V4 (.YQ (.Ws (.W3 (.XG 617 541) (.VQ 0) (.V4 (.VQ 5) .VH)) (.Ws 5) (.VQ 2) .VH)) .VH)) .VH)) (.V4 (.Xt (.W3 .WX (.We (.Wv (.VQ 0) 617 5) (.VQ 4)) (.V4 (.VQ 3) .VH))) .VH)) (.V4 (.Xt (.W3 (.XG 617 534) (.VQ 0) (.V4 (.VQ 3) .VH))) (.V4 (.XC (.VQ 3)) .VH)))))))
nonrec abbrev Hv:V2 (VK Vm):=[V1 "self",V1 "op",V1 "numbers",V1 "n",V1 "c",V8]
abbrev q8:Bp:=(.V4 (.XC (.W3 (.XG 617 522) (.VQ 0) (.V4 (.We (.VQ 1) (.Vl 0)) (.V4 (.Vu (.W5 "tuple") (.V4 (.YQ (.Ws (.W3 (.XG 617 527) (.VQ 0) (.V4 (.VQ 2) .VH)) (.Ws 2) (.from (.VQ 1) 1) .VH)) .VH)) .VH)))) .VH)
nonrec abbrev Hu:V2 (VK Vm):=[V1 "self",V1 "term",V8]
abbrev sQ:Bp:=(.V4 (.Yt 2 (.W3 .setdefault (.Wv (.VQ 0) 617 4) (.V4 (.W3 (.XG 617 517) (.VQ 0) (.V4 (.VQ 1) .VH)) (.V4 (.VQ 1) .VH)))) (.V4 (.ZK (.Ye .neI (.W3 (.XG 617 541) (.VQ 0) (.V4 (.VQ 2) .VH)) (.W3 (.XG 617 541) (.VQ 0) (.V4 (.VQ 1) .VH))) (.V4 (.Xt (.W3 (.XG 617 562) (.VQ 0) (.V4 (.VQ 2) (.V4 (.VQ 1) (.V4 (.Vj (.V4 (.Vn "like") .VH)) .VH))))) .VH) .VH) .VH))
nonrec abbrev AG:V2 (VK Vm):=[V1 "self",V1 "n",V1 "other"]
abbrev x6:Bp:=(.V4 (.XC (.W3 (.XG 487 444) (.Wv (.VQ 0) 617 1) (.V4 (.VQ 1) .VH))) .VH)
nonrec abbrev FD:V2 (VK Vm):=[V1 "self",V1 "n"]
abbrev rM:Bp:=(.V4 (.XC (.Ye .eqI (.W3 (.XG 617 541) (.VQ 0) (.V4 (.VQ 1) .VH)) (.W3 (.XG 617 541) (.VQ 0) (.V4 (.VQ 2) .VH)))) .VH)
nonrec abbrev yu:V2 (VK Vm):=[V1 "self",V1 "a",V1 "b"]
abbrev we:Bp:=(.V4 (.XC (.W3 (.XG 617 562) (.VQ 0) (.V4 (.VQ 1) (.V4 (.VQ 2) (.V4 (.VQ 3) .VH))))) .VH)
nonrec abbrev DP:V2 (VK Vm):=[V1 "self",V1 "a",V1 "b",V1 "reason"]
abbrev xZ:Bp:=(.V4 (.Xt (.W3 .WX (.Wv (.VQ 0) 617 2) (.V4 (.Vj (.V4 (.VQ 1) (.V4 (.VQ 2) (.V4 (.VQ 3) .VH)))) .VH))) (.V4 (.Yt 4 (.W3 (.XG 487 451) (.Wv (.VQ 0) 617 1) (.V4 (.VQ 1) (.V4 (.VQ 2) .VH)))) (.V4 (.ZK (.Ye .isN (.VQ 4) .V8) (.V4 (.XC (.WW V3)) .VH) .VH) (.V4 (.asgs [5,6] (.VQ 4)) (.V4 (.Xt (.W3 .WX (.Wv (.VQ 0) 617 3) (.V4 (.Yq .subI (.Vu (.Va "len") (.V4 (.Wv (.VQ 0) 617 2) .VH)) (.Vl 1)) .VH))) (.V4 (.Xt (.W3 .Zc (.Wv (.VQ 0) 617 6) (.V4 (.We (.Wv (.VQ 0) 617 5) (.VQ 6)) .VH))) (.V4 (.We (.Wv (.VQ 0) 617 5) (.VQ 5) (.Yq .addL (.We (.Wv (.VQ 0) 617 5) (.VQ 5)) (.W3 .dpop (.Wv (.VQ 0) 617 5) (.V4 (.VQ 6) .VH)))) (.V4 (.XC (.WW V6)) .VH))))))))
nonrec abbrev Fy:V2 (VK Vm):=[V1 "self",V1 "a",V1 "b",V1 "reason",V1 "merged",V1 "kept",V1 "gone"]
abbrev Bx:Bp:=(.V4 (.while (.Ye .gtI (.Vu (.Va "len") (.V4 (.Wv (.VQ 0) 617 6) .VH)) (.Vl 0)) (.V4 (.Xt (.W3 (.XG 617 534) (.VQ 0) (.V4 (.W3 .pop (.Wv (.VQ 0) 617 6) .VH) .VH))) .VH)) .VH)
nonrec abbrev Bw:V2 (VK Vm):=[V1 "self"]
abbrev pQ:Bp:=(.V4 (.XC (.Ye .eqI (.Vu (.Va "len") (.V4 (.Wv (.VQ 0) 617 6) .VH)) (.Vl 0))) .VH)
nonrec abbrev wg:V2 (VK Vm):=[V1 "self"]
abbrev sR:Bp:=(.V4 (.XC (.W3 (.XG 487 463) (.Wv (.VQ 0) 617 1) .VH)) .VH)
nonrec abbrev AH:V2 (VK Vm):=[V1 "self"]
abbrev sP:Bp:=(.V4 (.XC (.W3 (.XG 487 458) (.Wv (.VQ 0) 617 1) (.V4 (.VQ 1) .VH))) .VH)
nonrec abbrev AF:V2 (VK Vm):=[V1 "self",V1 "c"]
abbrev rL:Bp:=(.V4 (.XC (.Vu (.Va "sorted") (.V4 (.Vu (.W5 "set") (.V4 (.YQ (.Ws (.W3 (.XG 617 517) (.VQ 0) (.V4 (.VQ 2) .VH)) (.Ws 2) (.W3 (.XG 617 590) (.VQ 0) (.V4 (.VQ 1) .VH)) .VH)) .VH)) .VH))) .VH)
nonrec abbrev yt:V2 (VK Vm):=[V1 "self",V1 "c",V8]
abbrev vJ:Bp:=(.V4 (.We (.VQ 0) (.Vl 1) (.Yq .Zj (.We (.VQ 0) (.Vl 1)) (.Vl 1))) (.V4 (.XC (.Yq .modI (.ZK (.Ye .leI (.We (.VQ 0) (.Vl 1)) (.Vu (.Va "len") (.V4 (.We (.VQ 0) (.Vl 0)) .VH))) (.We (.We (.VQ 0) (.Vl 0)) (.Yq .subI (.We (.VQ 0) (.Vl 1)) (.Vl 1))) (.Yq .Zj (.Yq .mulI (.Vl 3) (.We (.VQ 0) (.Vl 1))) (.Yq .divI (.We (.VQ 0) (.Vl 1)) (.Vl 4)))) (.VQ 1))) .VH))
nonrec abbrev Dl:V2 (VK Vm):=[V1 "store",V1 "many"]
abbrev zW:Bp:=(.V4 (.XC (.We (.ZZ (.V4 (.Vj (.V4 (.Vn "x") .VH)) (.V4 (.Vj (.V4 (.Vn "0") .VH)) (.V4 (.Vj (.V4 (.Vn "1") .VH)) (.V4 (.Vj (.V4 (.Vu (.W5 "str") (.V4 (.VQ 1) .VH)) .VH)) .VH))))) (.Vu (.VG 629) (.V4 (.VQ 0) (.V4 (.Vl 4) .VH))))) .VH)
nonrec abbrev GG:V2 (VK Vm):=[V1 "store",V1 "n"]
abbrev xJ:Bp:=(.V4 (.asgs [2,3,4] (.Vj (.V4 (.Vu (.VG 629) (.V4 (.VQ 0) (.V4 (.Vl 4) .VH))) (.V4 (.Vu (.VG 636) (.V4 (.VQ 0) (.V4 (.VQ 1) .VH))) (.V4 (.Vu (.VG 636) (.V4 (.VQ 0) (.V4 (.VQ 1) .VH))) .VH))))) (.V4 (.ZK (.Ye .ltI (.VQ 2) (.Vl 2)) (.V4 (.XC (.Vj (.V4 (.We (.Vj (.V4 (.Vn "add") (.V4 (.Vn "mul") .VH))) (.VQ 2)) (.V4 (.VQ 3) (.V4 (.VQ 4) .VH))))) .VH) .VH) (.V4 (.XC (.ZK (.Ye .eqI (.VQ 2) (.Vl 2)) (.Vj (.V4 (.Vn "mul") (.V4 (.Vj (.V4 (.Vn "neg") (.V4 (.VQ 3) .VH))) (.V4 (.Vj (.V4 (.Vn "neg") (.V4 (.VQ 4) .VH))) .VH)))) (.Vj (.V4 (.Vn "neg") (.V4 (.VQ 3) .VH))))) .VH)))
nonrec abbrev EP:V2 (VK Vm):=[V1 "store",V1 "n",V1 "way",V1 "one",V1 "other"]
abbrev zV:Bp:=(.V4 (.Yt 2 (.Vj (.V4 (.Vn "0") .VH))) (.V4 (.Yt 3 (.ZZ (.V4 (.Vj (.V4 (.Vj (.V4 (.Vn "add") (.V4 (.VQ 1) (.V4 (.VQ 2) .VH)))) (.V4 (.VQ 1) .VH))) (.V4 (.Vj (.V4 (.Vj (.V4 (.Vn "neg") (.V4 (.Vj (.V4 (.Vn "neg") (.V4 (.VQ 1) .VH))) .VH))) (.V4 (.VQ 1) .VH))) (.V4 (.Vj (.V4 (.Vj (.V4 (.Vn "mul") (.V4 (.VQ 1) (.V4 (.Vj (.V4 (.Vn "1") .VH)) .VH)))) (.V4 (.VQ 1) .VH))) .VH))))) (.V4 (.XC (.Yq .addL (.VQ 3) (.ZZ (.V4 (.Vj (.V4 (.Vj (.V4 (.Vn "mul") (.V4 (.VQ 1) (.V4 (.VQ 2) .VH)))) (.V4 (.VQ 2) .VH))) (.V4 (.Vj (.V4 (.Vj (.V4 (.Vn "add") (.V4 (.VQ 1) (.V4 (.Vj (.V4 (.Vn "neg") (.V4 (.VQ 1) .VH))) .VH)))) (.V4 (.VQ 2) .VH))) .VH))))) .VH)))
nonrec abbrev GF:V2 (VK Vm):=[V1 "n",V1 "t",V1 "zero",V1 "found"]
abbrev vI:Bp:=(.V4 (.Yt 2 (.ZZ .VH)) (.V4 (.for (.Ws 3) (.Vu (.W5 "range") (.V4 (.W3 (.XG 617 512) (.VQ 0) .VH) .VH)) (.V4 (.asgs [4,5] (.Vj (.V4 (.W3 (.XG 198 155) (.Wv (.VQ 0) 617 0) (.V4 (.VQ 3) .VH)) (.V4 (.YQ (.Ws (.We (.VQ 2) (.VQ 7)) (.Ws 7) (.W3 (.XG 198 162) (.Wv (.VQ 0) 617 0) (.V4 (.VQ 3) .VH)) .VH)) .VH)))) (.V4 (.ZK (.Ye .eqS (.VQ 4) (.Vn "x")) (.V4 (.Xt (.W3 .WX (.VQ 2) (.V4 (.Vu (.W5 "tuple") (.V4 (.Vu (.W5 "range") (.V4 (.VQ 1) .VH)) .VH)) .VH))) .VH) (.V4 (.ZK (.Ye .eqL0 (.VQ 5) (.ZZ .VH)) (.V4 (.Xt (.W3 .WX (.VQ 2) (.V4 (.Yq .mulT (.Vj (.V4 (.Yq .modI (.Vu (.W5 "int") (.V4 (.VQ 4) .VH)) (.VQ 1)) .VH)) (.VQ 1)) .VH))) .VH) (.V4 (.ZK (.Ye .eqS (.VQ 4) (.Vn "neg")) (.V4 (.Xt (.W3 .WX (.VQ 2) (.V4 (.Vu (.W5 "tuple") (.V4 (.YQ (.Ws (.Yq .modI (.Yq .subI (.VQ 1) (.VQ 8)) (.VQ 1)) (.Ws 8) (.We (.VQ 5) (.Vl 0)) .VH)) .VH)) .VH))) .VH) (.V4 (.Yt 6 (.Vu (.W5 "zip") (.V4 (.We (.VQ 5) (.Vl 0)) (.V4 (.We (.VQ 5) (.Vl 1)) .VH)))) (.V4 (.Xt (.W3 .WX (.VQ 2) (.V4 (.Vu (.W5 "tuple") (.V4 (.YQ (.Ws (.Yq .modI (.ZK (.Ye .eqS (.VQ 4) (.Vn "add")) (.Yq .Zj (.VQ 9) (.VQ 10)) (.Yq .mulI (.VQ 9) (.VQ 10))) (.VQ 1)) (.Xn [9,10]) (.VQ 6) .VH)) .VH)) .VH))) .VH))) .VH)) .VH)) .VH))) (.V4 (.XC (.VQ 2)) .VH)))
nonrec abbrev Dk:V2 (VK Vm):=[V1 "heap",V1 "n",V1 "found",V1 "number",V1 "op",V1 "kids",V1 "pairs",V8,V8,V8,V8]
abbrev rH:Bp:=(.V4 (.asgs [2,3] (.Vj (.V4 (.Vu (.VG 655) (.V4 (.VQ 0) (.V4 (.VQ 1) .VH))) (.V4 .dic0 .VH)))) (.V4 (.for (.Ws 4) (.Vu (.W5 "range") (.V4 (.W3 (.XG 617 512) (.VQ 0) .VH) .VH)) (.V4 (.Yt 5 (.W3 (.XG 617 541) (.VQ 0) (.V4 (.VQ 4) .VH))) (.V4 (.Yt 6 (.Yq .addT (.Vj (.V4 (.W3 (.XG 198 155) (.Wv (.VQ 0) 617 0) (.V4 (.VQ 4) .VH)) .VH)) (.Vu (.W5 "tuple") (.V4 (.YQ (.Ws (.W3 (.XG 617 541) (.VQ 0) (.V4 (.VQ 7) .VH)) (.Ws 7) (.W3 (.XG 198 162) (.Wv (.VQ 0) 617 0) (.V4 (.VQ 4) .VH)) .VH)) .VH)))) (.V4 (.ZK (.or (.Ye .neT (.We (.VQ 2) (.VQ 4)) (.We (.VQ 2) (.VQ 5))) (.Ye .neI (.W3 .setdefault (.VQ 3) (.V4 (.VQ 6) (.V4 (.VQ 5) .VH))) (.VQ 5))) (.V4 (.XC (.WW V3)) .VH) .VH) .VH)))) (.V4 (.XC (.WW V6)) .VH)))
nonrec abbrev yg:V2 (VK Vm):=[V1 "heap",V1 "n",V1 "worths",V1 "homes",V1 "number",V1 "home",V1 "node",V8]
abbrev QV:Bp:=(.V4 (.Yt 1 (.ZZ (.V4 (.ZK (.cmpW .NotEq (.VQ 0) (.ZZ .VH)) (.YQ (.Ws (.Yq .modI (.Vu (.Va "abs") (.V4 (.VQ 12) .VH)) (.Vl 10007)) (.Ws 12) (.uptoB (.VQ 0) 40) .VH)) (.Xo (.Vj [.Vl 0,.Vl 1,.Vl 0,.Vl 2,.Vl 0,.Vl 1,.Vl 4,.Vl 1,.Vl 2,.Vl 0,.Vl 0]))) (.V4 (.Vl 0) .VH)))) (.V4 (.asgs [2,3] (.Vj (.V4 (.Yq .Zj (.Vl 2) (.Vu (.VG 629) (.V4 (.VQ 1) (.V4 (.Vl 2) .VH)))) (.V4 (.Vu (.VG 617) .VH) .VH)))) (.V4 (.Yt 4 (.Vu (.VG 643) (.V4 (.VQ 1) (.V4 (.VQ 2) .VH)))) (.V4 (.Xt (.W3 (.XG 617 527) (.VQ 3) (.V4 (.VQ 4) .VH))) (.V4 (.Yt 5 (.Vu (.VG 650) (.V4 (.VQ 2) (.V4 (.VQ 4) .VH)))) (.V4 (.Yt 6 (.Vu (.Va "sorted") (.V4 (.Vu (.W5 "set") (.V4 (.YQ (.Ws (.Vu (.VG 629) (.V4 (.VQ 1) (.V4 (.Vl 5) .VH))) (.Ws 13) (.Vu (.W5 "range") (.V4 (.Vl 3) .VH)) .VH)) .VH)) .VH))) (.V4 (.asgC 7 (.Ws (.Vj (.V4 (.W3 (.XG 617 527) (.VQ 3) (.V4 (.We (.We (.VQ 5) (.VQ 14)) (.Vl 0)) .VH)) (.V4 (.W3 (.XG 617 527) (.VQ 3) (.V4 (.We (.We (.VQ 5) (.VQ 14)) (.Vl 1)) .VH)) .VH))) (.Ws 14) (.VQ 6) .VH)) (.V4 (.ZK (.Ye .eqI (.Vu (.VG 629) (.V4 (.VQ 1) (.V4 (.Vl 2) .VH))) (.Vl 1)) (.V4 (.Yt 8 (.Vu (.VG 655) (.V4 (.VQ 3) (.V4 (.VQ 2) .VH)))) (.V4 (.Yt 9 (.Vu (.VG 629) (.V4 (.VQ 1) (.V4 (.W3 (.XG 617 512) (.VQ 3) .VH) .VH)))) (.V4 (.Xt (.W3 (.XG 617 555) (.VQ 3) (.V4 (.VQ 9) (.V4 (.W3 .index (.VQ 8) (.V4 (.We (.VQ 8) (.VQ 9)) .VH)) (.V4 (.Vj (.V4 (.Vn "told") (.V4 (.Vn "t") .VH))) .VH))))) .VH))) .VH) (.V4 (.Yt 10 (.dic3 "order" "nodes" "rounds" (.We (.Vj (.V4 (.Vn "together") (.V4 (.Vn "turns") .VH))) (.Vu (.VG 629) (.V4 (.VQ 1) (.V4 (.Vl 2) .VH)))) (.Vl 60) (.Yq .Zj (.Vl 1) (.Vu (.VG 629) (.V4 (.VQ 1) (.V4 (.Vl 2) .VH)))))) (.V4 (.Yt 11 (.W3 (.XG 356 353) (.Vu (.VG 356) (.V4 (.VQ 3) (.V4 (.W3 (.XG 405 395) (.Vu (.VG 405) (.V4 (.VQ 2) .VH)) .VH) (.V4 (.VQ 10) .VH)))) .VH)) (.V4 (.ZK (.or (.not (.YM (.W3 (.XG 617 576) (.VQ 3) .VH))) (.not (.YM (.Vu (.VG 660) (.V4 (.VQ 3) (.V4 (.VQ 2) .VH)))))) (.V4 (.XC (.WW V3)) .VH) .VH) (.V4 (.XC (.or (.Ye .eqS (.VQ 11) (.Vn "nodes")) (.Ye .eqL0 (.YQ (.Ws (.VQ 15) (.Ws 15) (.VQ 7) (.Ws (.not (.YM (.W3 (.XG 617 548) (.VQ 3) (.V4 (.We (.VQ 15) (.Vl 0)) (.V4 (.We (.VQ 15) (.Vl 1)) .VH)))))))) (.ZZ .VH)))) .VH))))))))))))
nonrec abbrev TU:V2 (VK Vm):=[V1 "script",V1 "store",V1 "n",V1 "heap",V1 "t",V1 "some",V1 "picks",V1 "rows",V1 "worths",V1 "first",V1 "options",V1 "word",V8,V8,V8,V8]
abbrev MJ:V2 (V9×V9×V2 (VK Vm)×Bp):=[(79,1,OY,Il),
 (86,1,A5,A6),
 (91,1,D4,D5),
 (96,1,OB,HU),
 (110,1,FL,FN),
 (117,1,FI,x8),
 (122,3,FG,FH),
 (129,2,AK,AL),
 (155,2,J8,CJ),
 (162,2,FJ,x9),
 (216,2,Ba,Bb),
 (221,4,vY,vZ),
 (228,3,vX,pN),
 (233,2,Az,sJ),
 (253,5,Fg,Fj),
 (281,2,Bl,Bm),
 (286,3,DL,nW),
 (317,4,Bk,ug),
 (324,1,xo,qC),
 (331,2,xm,qB),
 (336,3,AB,AD),
 (343,3,uF,uG),
 (348,1,uE,oO),
 (353,1,DH,DI),
 (374,2,JK,JL),
 (388,2,Fo,Fp),
 (395,1,DJ,DK),
 (423,1,Be,Bf),
 (430,1,Bd,uc),
 (437,1,Bc,ua),
 (444,2,Bg,Bh),
 (451,3,AA,sL),
 (458,2,xe,qy),
 (463,1,xg,qz),
 (505,1,Fz,FA),
 (512,1,Fw,xX),
 (517,2,Fx,xY),
 (522,3,Hv,AI),
 (527,2,Hu,q8),
 (534,2,AG,sQ),
 (541,2,FD,x6),
 (548,3,yu,rM),
 (555,4,DP,we),
 (562,4,Fy,xZ),
 (569,1,Bw,Bx),
 (576,1,wg,pQ),
 (583,1,AH,sR),
 (590,2,AF,sP),
 (595,2,yt,rL),
 (629,2,Dl,vJ),
 (636,2,GG,zW),
 (643,2,EP,xJ),
 (650,2,GF,zV),
 (655,2,Dk,vI),
 (660,2,yg,rH),
 (665,1,TU,QV)]
abbrev II:V2 (V9×V9):=[(198,110),(236,216),(263,253),(301,281),(356,317),(405,388),(487,423),(617,505)]
abbrev dR (a:Zq):Prop:=(MJ.Z4 λx=>Ah a x.1 x.2.1 x.2.2.1 x.2.2.2)=V6/\(II.Z4 λx=>Fd a x.1 x.2)=V6
def dR.fn {a:Zq} (F:dR a) (i:V9) {f np XT b} (e:MJ[i]?=V1 (f,np,XT,b):=by rfl):Ah a f np XT b=V6:=ek.mp F.1 _ (aF e)
def dR.Z9 {a:Zq} (F:dR a) (i:V9) {C f} (e:II[i]?=V1 (C,f):=by rfl):Fd a C f=V6:=ek.mp F.2 _ (aF e)
end
end
mutual open Nat
nonrec abbrev fK:=Vm×V2 V9
structure HS where
 VB:V2 fK
 ZY:V2 (fK×V9)
 VR:V2 V9
 Wd:V2 (V2 V9)
 Wp:V2 (fK×V9)
 Xy:V2 (V9×V2 V9)
 W0:V2 V9
 XK:V2 Vo
 YI:V2 Vo
 XO:V2 V
 XM:V2 V
 XJ:V2 V
nonrec abbrev iV (k:V9):V:=.Vl (k:Vo)
abbrev XX (l:V2 V9):V2 V:=l.VP iV
abbrev rD (v:V):V9:=V.Wc (WP:=λ_=>V9) v 0 (λ_=>0) (λi=>i.Xd) (λ_=>0) (λ_=>0) (λ_=>0) (λ_=>0) (λ_ _=>0)
def zH {l:V2 V} (h:∀y∈l,∃k:V9,y=iV k):l=XX (l.VP rD):=by
 focus unfold XX
 rw[cB]
 conv=>lhs;rw[<-qI l]
 apply cL λy a=>?_;let(k,VC):=h y a;rfl
def wU {l:V2 V9}:(XX l).VP rD=l:=by
 focus unfold XX
 rw[cB]
 conv=>rhs;rw[<-qI l]
 show cL λx _=>rfl
abbrev iu (nd:fK):V:=.Vj (.Vn nd.1::XX nd.2)
abbrev lK (l:V2 (fK×V9)):V2 (V×V):=l.VP λr=>(iu r.1,iV r.2)
set_option genCtorIdx true in
inductive Nm where
 |V5|heapNs|bank|bankNs|Y9|Zs|VB|Ys|XK|YI|VR|Wd|XO|XM|XJ|Wp|Yr|W0|lot (i:V9)|Xy (i:V9)
nonrec abbrev Ad:=Nm->V9
abbrev jR (H:HS) (A:Ad):V2 (Vo×V):=H.Xy.VP λr=>((r.1:Vo),.VG (A (.Xy r.1)))
nonrec abbrev Aa (A:Ad):V2 V:=[.VG (A .bank),.VG (A .Y9),.VG (A .XM),.VG (A .XJ),.VG (A .Wp),.VG (A .Yr),.VG (A .W0),.Vl 0]
abbrev ZA (w:XA) (VM:Wj) (H:HS) (A:Ad):Nm->VK O
 | .V5=>V1 (.YH 617 (A .heapNs))
 | .heapNs=>V1 (.ns ((WG 617).Y8 (Aa A)))
 | .bank=>V1 (.YH 198 (A .bankNs))
 | .bankNs=>V1 (.ns ((WG 198).Y8 [.VG (A .VB),.VG (A .Ys),.VG (A .XK),.VG (A .YI)]))
 | .Y9=>V1 (.YH 487 (A .Zs))
 | .Zs=>V1 (.ns ((WG 487).Y8 [.VG (A .VR),.VG (A .Wd),.VG (A .XO)]))
 | .VB=>V1 (.VF (H.VB.VP iu))
 | .Ys=>V1 (.WD (lK H.ZY))
 | .XK=>V1 (.VF (H.XK.VP .Vl))
 | .YI=>V1 (.VF (H.YI.VP .Vl))
 | .VR=>V1 (.VF (XX H.VR))
 | .Wd=>V1 (.VF ((cD H.Wd.V0).VP λi=>.VG (A (.lot i))))
 | .XO=>V1 (.VF H.XO)
 | .XM=>V1 (.VF H.XM)
 | .XJ=>V1 (.VF H.XJ)
 | .Wp=>V1 (.WD (lK H.Wp))
 | .Yr=>V1 (.WD (fO (kdI VM w) (jR H A)))
 | .W0=>V1 (.VF (XX H.W0))
 | .lot i=>H.Wd[i]?.VP λl=>.VF (XX l)
 | .Xy i=>(H.Xy.ZS λr=>r.1=i).VP λr=>.VF (XX r.2)
abbrev HN (w:XA) (VM:Wj) (H:HS) (A:Ad) (n:V9):V2 O:=
 [.YH 617 (A .heapNs),.ns ((WG 617).Y8 (Aa A)),
  .YH 198 (A .bankNs),.ns ((WG 198).Y8 [.VG (A .VB),.VG (A .Ys),.VG (A .XK),.VG (A .YI)]),
  .YH 487 (A .Zs),.ns ((WG 487).Y8 [.VG (A .VR),.VG (A .Wd),.VG (A .XO)]),
  .VF (H.VB.VP iu),.WD (lK H.ZY),.VF (H.XK.VP .Vl),.VF (H.YI.VP .Vl),.VF (XX H.VR),.VF ((cD n).VP λi=>.VG (A (.lot i))),
  .VF H.XO,.VF H.XM,.VF H.XJ,.WD (lK H.Wp),.WD (fO (kdI VM w) (jR H A)),.VF (XX H.W0)]
abbrev C7 (w:XA) (VM:Wj) (H:HS) (A:Ad):V2 O:=HN w VM H A H.Wd.V0
def vt {w VM H A i}:ZA w VM H A (.lot i)=H.Wd[i]?.VP λl=>.VF (XX l):=rfl
def Dy {b:VS} {p:Prop} (h:cond b p True) (e:b=V6):p:=by rw[e] at h;show h
def s9 {w VM H A} (y:Nm) (h:y.VZ<18):ZA w VM H A y=(C7 w VM H A)[y.VZ]?:=
 Dy (b:=DN y.VZ 18) (Nm.Wc (Y1:=λy=>cond (DN y.VZ 18) (ZA w VM H A y=(C7 w VM H A)[y.VZ]?) True) y rfl rfl rfl rfl rfl rfl rfl rfl rfl rfl rfl rfl rfl rfl rfl rfl rfl rfl (λ_=>trivial) λ_=>trivial) (V9.ble_eq_true_of_le h)
abbrev Sb (k:V9):Nm:=([.V5,.heapNs,.bank,.bankNs,.Y9,.Zs,.VB,.Ys,.XK,.YI,.VR,.Wd,.XO,.XM,.XJ,.Wp,.Yr]:V2 Nm).Wn k .W0
def HX (y:Nm) (h:y.VZ<18):Sb y.VZ=y:=
 Dy (b:=DN y.VZ 18) (Nm.Wc (Y1:=λy=>cond (DN y.VZ 18) (Sb y.VZ=y) True) y rfl rfl rfl rfl rfl rfl rfl rfl rfl rfl rfl rfl rfl rfl rfl rfl rfl rfl (λ_=>trivial) λ_=>trivial) (V9.ble_eq_true_of_le h)
abbrev Nm.arg (y:Nm):V9:=Nm.Wc y 0 0 0 0 0 0 0 0 0 0 0 0 0 0 0 0 0 0 (λi=>i) λi=>i
abbrev of2 (k i:V9):Nm:=cond (IW 18 k) (cond (g9 18 k) (.lot i) (.Xy i)) (Sb k)
def LK (y:Nm):of2 y.VZ y.arg=y:=Nm.Wc y rfl rfl rfl rfl rfl rfl rfl rfl rfl rfl rfl rfl rfl rfl rfl rfl rfl rfl (λ_=>rfl) λ_=>rfl
def TX (y:Nm):y.VZ<20:=aS (Nm.Wc (Y1:=λy=>DN y.VZ 20=V6) y rfl rfl rfl rfl rfl rfl rfl rfl rfl rfl rfl rfl rfl rfl rfl rfl rfl rfl (λ_=>rfl) λ_=>rfl)
def B3 {P:Prop} (y:Nm) (a:∀i,y=.lot i->P) (ha:∀i,y=.Xy i->P) (b:y.VZ<18->P):P:=
 (tL y.VZ 18).W2 b λh=>(V9.lt_or_eq_of_le (gj (TX y))).W2 (λg=>Nm.lot.W2 (Y1:=λz=>y=z->P) y (tS (gj g) h) a rfl) λg=>Nm.Xy.W2 (Y1:=λz=>y=z->P) y g ha rfl
def EE {w VM H H' A A'} {y:Nm} (h:y.VZ<18) (a:C7 w VM H' A'=C7 w VM H A):ZA w VM H' A' y=ZA w VM H A y:=
 (s9 y h).V7 ((VN (λr:V2 O=>r[y.VZ]?) a).V7 (s9 y h).Vh)
def OG {w VM H H' A} {y:Nm} (a:H'.Wd.V0=H.Wd.V0) (b:HN w VM H' A=HN w VM H A) (h:y.VZ<18):ZA w VM H' A y=ZA w VM H A y:=
 EE h ((congrFun b _).V7 (VN _ a))
def yH {w VM H H' A A'} {v:O} {x y:Nm} (h:y.VZ<18) (a:x.VZ<18) (b:y≠x) (c:C7 w VM H' A'=(C7 w VM H A).Wb x.VZ v):ZA w VM H' A' y=ZA w VM H A y:=
 (s9 y h).V7 ((VN (λr:V2 O=>r[y.VZ]?) c).V7 ((aL λe=>b (by rw[<-HX y h,<-e,HX x a])).V7 (s9 y h).Vh))
def kM {w VM H H' A} {v:O} {x y:Nm} (a:C7 w VM H' A=(C7 w VM H A).Wb x.VZ v) (b:∀i,ZA w VM H' A (.lot i)=ZA w VM H A (.lot i)) (ha:∀i,ZA w VM H' A (.Xy i)=ZA w VM H A (.Xy i)) (c:x.VZ<18) (d:y≠x):
    ZA w VM H' A y=ZA w VM H A y:=B3 y (λi e=>e▸b i) (λi e=>e▸ha i) λh=>yH h c d a
structure W4 (c:Cx) (M:WC) (A:Ad) (H:HS):Prop where
 X8:∀x o,ZA c.w c.VM H A x=V1 o->M[A x]?=V1 o
 inj:∀x y,(ZA c.w c.VM H A x).XZ->(ZA c.w c.VM H A y).XZ->A x=A y->x=y
abbrev xB (VR:V2 V9):V9->V9->V9
 |0,a=>a
 |k+1,a=>if VR.Wn a a=a then a else xB VR k (VR.Wn a a)
abbrev VX (VR:V2 V9) (a:V9):V9:=xB VR (a+1) a
abbrev jI (VR:V2 V9):Prop:=∀(a p:V9),VR[a]?=V1 p->p<=a
def CZ {VR:V2 V9} (h:jI VR):∀(k a:V9),a<k->xB VR k a=xB VR (k+1) a:=by
 intro k
 induction k with
 |WM=>intro a h;show Qo [_,_,_] [] h
 |Wh k b=>
  intro a ha
  focus change(if VR.Wn a a=a then a else xB VR k (VR.Wn a a))=(if VR.Wn a a=a then a else xB VR (k+1) (VR.Wn a a))
  split
  .rfl
  .rename_i ne
   have:VR.Wn a a<=a:=by
    focus rw[dU]
    cases z:VR[a]? with
    |V8=>show aM _
    |V1 p=>show h a p z
   show b _ (bY [.k V3 (.v 0) (.p (.v 1) (.n 1)),.N (.e V3 (.v 2) (.v 0)),.l V3 (.v 2) (.v 0)] (.k V3 (.v 2) (.v 1)) [[1,1,1],[0,0,1,1]] tt [_,_,_] [] ha ne this)
def KW {VR:V2 V9} (h:jI VR) {a:V9}:∀(k:V9),a<k->xB VR k a=VX VR a:=by
 intro k
 induction k with
 |WM=>intro h;show Qo [_,_,_] [] h
 |Wh k c=>
  intro ha;rcases tL a k with z|z
  .rw[<-CZ h k a z];show c z
  .have:k=a:=dX [{1,.a,.p .b (.n 1)},{0,.b,.a}] {2,.b,.a} [1,0,1] [1,1] tt ha z;rw[this];rfl
def jg {VR:V2 V9} (h:jI VR) {a p:V9} (ha:VR[a]?=V1 p):VX VR a=if p=a then a else VX VR p:=by
 have e:VR.Wn a a=p:=by rw[dU,ha];rfl
 focus change(if VR.Wn a a=a then a else xB VR a (VR.Wn a a))=_
 rw[e];split
 .rfl
 .rename_i ne
  have:=h a p ha;show KW h _ (Tf [_,_] [] ne this)
variable {bF:WC} {A A' cS U1:Ad} {H H' cZ U3:HS}
abbrev QZ (x:Nm):VS:=DN x.VZ 18
nonrec abbrev mT (c:Cx) (H:HS) (A:Ad) (x:Nm):Prop:=(ZA c.w c.VM H A x).XZ=V6
structure Y6 (c:Cx) (bF:WC) (cS:Ad) (cZ:HS) (M:WC) (A:Ad) (H:HS):Prop where
 XD:W4 c M A H
 Wz:bF.V0<=M.V0
 Za:∀a,a<bF.V0->(∀x,mT c cZ cS x->cS x≠a)->M[a]?=bF[a]?
 Y0:∀x,mT c H A x->(∃y,mT c cZ cS y/\A x=cS y)\/bF.V0<=A x
 fix:∀x,QZ x=V6->A x=cS x
def W4.lt (h:W4 c M A H) {x:Nm} (l:mT c H A x):A x<M.V0:=by let(o,e):=gX.mp l;show(aB.mp (h.X8 x o e)).1
def Y6.Vt (h:W4 c M A H):Y6 c M A H M A H:={h,aM _,λ_ _ _=>rfl,λx l=>.XB (aV x l rfl),λ_ _=>rfl}
def Y6.V7 (s:Y6 c bF cS cZ aT U1 U3) (t:Y6 c aT U1 U3 M A H):Y6 c bF cS cZ M A H:=by
 apply{t.XD,aG s.Wz t.Wz,λa d g=>?_,λx l=>?_,λx f=>(t.fix x f).V7 (s.fix x f)}
 .rw[t.Za a (aY d s.Wz) (λx l e=>?_),s.Za a d g];rcases s.Y0 x l with⟨y,ly,ey⟩|z
  .show g y ly (ey▸e)
  .show RT [_,_,_] [] d e z
 .rcases t.Y0 x l with⟨y,ly,ey⟩|z
  .rcases s.Y0 y ly with⟨w,lw,ew⟩|z
   .show .XB (aV w lw (ey.V7 ew))
   .show .Wt (fG [{2,.a,.b},{0,.c,.b}] {0,.c,.a} [1,0,1,1] [] tt ey z)
  .show .Wt (aG s.Wz z)
def Y6.ZN (s:Y6 c bF cS cZ M A H) {a:V9} {o:O} (b:∀x,mT c cZ cS x->cS x≠a) (h:bF[a]?=V1 o):M[a]?=V1 o:=(s.Za a (aB.mp h).1 b).V7 h
def Y6.Zv (s:Y6 c bF cS cZ M A H) {a:V9} (d:a<bF.V0) (f:∀x,mT c cZ cS x->cS x≠a):∀x,mT c H A x->A x≠a:=λx l e=>by
 rcases s.Y0 x l with⟨y,ly,ey⟩|z
 .show f y ly (ey▸e)
 .show fG [{1,.a,.b},{2,.c,.a},{0,.b,.c}] {5,.n 0,.n 0} [1,1,1,0,1] [] tt d e z
def Y6.Yw (s:Y6 c bF cS cZ M A H) (G:WC):Y6 c bF cS cZ (M++G) A H:=by
 apply{{λx o e=>?_,s.XD.inj},by have:=s.Wz;simp;show fG [{0,.a,.b}] {0,.a,.p .b .c} [1,1] [] tt this,λa d f=>?_,s.Y0,s.fix}
 .have:=s.XD.X8 x o e;rw[bV (aB.mp this).1];show this
 .rw[bV (aY d s.Wz)];show s.Za a d f
def Y6.upd (s:Y6 c bF cS cZ M A H) {x:Nm} {o:O} (l:mT c H A x) (b:ZA c.w c.VM H' A x=V1 o) (d:∀y,y≠x->ZA c.w c.VM H' A y=ZA c.w c.VM H A y):Y6 c bF cS cZ (M.Wb (A x) o) A H':=by
 letI f:∀y,mT c H' A y->mT c H A y:=λy g=>by
  by_cases e:y=x
  .show e▸l
  .have h1:=d y e;simp only[mT,h1] at g⊢;show g
 have hlt:=s.XD.lt l;apply{{λy o' e=>?_,λy z g h e=>s.XD.inj y z (f y g) (f z h) e},by simpa using s.Wz,λa i j=>?_,λy g=>s.Y0 y (f y g),s.fix}
 .by_cases q:y=x
  .clear d l;subst q;rw[b] at e;cases e;show bK hlt
  .rw[d y q] at e;rw[aL (λz=>q (s.XD.inj y x (by simp only[mT,e];rfl) l z.Vh)),s.XD.X8 y o' e]
 .rw[aL,s.Za a i j];intro z;rcases s.Y0 x l with⟨w,lw,ew⟩|w
  .show j w lw (ew▸z)
  .show RT [_,_,_] [] i z w
def Y6.Zd (s:Y6 c bF cS cZ M A H) {x z:Nm} {o ob:O} {b:V9} (d:M[b]?=V1 ob) (g:bF.V0<=b) (h:∀y,mT c H A y->A y≠b) (l:mT c H A x) (i:x≠z) (j:QZ z=V3)
    (m:∀y,y≠z->A' y=A y) (hz:A' z=b) (n:ZA c.w c.VM H' A' x=V1 o) (p:ZA c.w c.VM H' A' z=V1 ob)
    (u:∀y,y≠x->y≠z->ZA c.w c.VM H' A' y=ZA c.w c.VM H A y\/ZA c.w c.VM H' A' y=V8):Y6 c bF cS cZ (M.Wb (A x) o) A' H':=by
 letI v:∀y,y≠z->mT c H' A' y->mT c H A y:=λy B C=>by
  by_cases e:y=x
  .show e▸l
  .rcases u y e B with q|q
   .simp only[mT,q] at C⊢;show C
   .rw[mT,q] at C;cases C
 have hlt:=s.XD.lt l;have hbx:A x≠b:=h x l;apply{{λy o' e=>?_,λy w C D e=>?_},by simpa using s.Wz,λa E F=>?_,λy C=>?_,λy f=>?_}
 .by_cases q:y=x
  .clear hbx u l;subst q;rw[n] at e;cases e;show eZ (VN _ (m y i)) (bK hlt)
  .by_cases r:y=z
   .clear v m j i;clear u;subst r;rw[p] at e;cases e;rw[hz,aL hbx];show d
   .rcases u y q r with k|k
    .rw[k] at e;rw[m y r,aL (λt=>q (s.XD.inj y x (by simp only[mT,e];rfl) l t.Vh)),s.XD.X8 y o' e]
    .rw[k] at e;cases e
 .by_cases q:y=z
  .by_cases r:w=z
   .show eZ (q) (r).Vh
   .rw[q,hz,m w r] at e;show Vy e.Vh (h w (v w r D))
  .by_cases r:w=z
   .rw[r,hz,m y q] at e;show Vy e (h y (v y q C))
   .rw[m y q,m w r] at e;show s.XD.inj y w (v y q C) (v w r D) e
 .rw[aL,s.Za a E F];intro t;rcases s.Y0 x l with⟨w,D,ew⟩|w
  .show F w D (ew▸t)
  .show RT [_,_,_] [] E t w
 .by_cases q:y=z
  .rw[q,hz];show .Wt g
  .rw[m y q];show s.Y0 y (v y q C)
 .have:y≠z:=λq=>by rw[q,j] at f;cases f
  show eZ (m y this) (s.fix y f)
abbrev GO (v:V):VS:=g9 v.VZ 2
abbrev GL (v:V):VS:=g9 v.VZ 3
abbrev Dd (v:V) (k:V2 V->VS):VS:=Ym (v.VZ=5) (λh=>@V.Vj.W2 (λ_=>VS) v h k) λ_=>V3
@[elab_as_elim] def wK {P:V->Prop} {v:V} {k} (h:Dd v k=V6) (g:∀a,k a=V6->P (.Vj a)):P v:=fu h λi q=>@V.Vj.W2 (λe=>∀i:e.VZ=5,@V.Vj.W2 (λ_=>VS) e i k=V6->P e) v i (λa _ q=>g a q) i q
abbrev qV (v:V):VS:=Dd v λxs=>xs.Wc V3 λx ks=>GL x&&ks.Z4 GO
def Cg {v:V} (h:GL v=V6):∃i,v=.Vn i:=by cases v<;>first|show{_,VC}|cases h
def Ci {v:V} (h:GO v=V6):∃i,v=.Vl i:=by cases v<;>first|show{_,VC}|cases h
def oE {v:V} (h:qV v=V6):∃x ks,v=.Vj (.Vn x::ks)/\∀k∈ks,∃i,k=.Vl i:=by
 apply wK h λxs h=>?_;cases xs with
 |VH=>cases h
 |V4 x ks=>
  letI h:=(aN _ _).mp h;let(x,VC):=Cg h.1;show kW x ks rfl λk a=>Ci (ek.mp h.2 k a)
def vS {ks:V2 V} (h:∀k∈ks,∃i,k=V.Vl i):eU ks=V6/\pX ks=0:=by
 induction ks with
 |VH=>show{VC,VC}
 |V4 k ks c=>
  let(a,b):=c λx d=>h x (bN _ d);let(i,VC):=h k cP;show{a,(V9.zero_max _).V7 b}
def Jb {ks:V2 V}:∀{a:V2 V},(∀k∈ks,∃i,k=V.Vl i)->(∀k∈a,∃i,k=V.Vl i)->wF ks a=V6:=by
 induction ks with
 |VH=>intro _ _ _;rfl
 |V4 k ks b=>
  intro a h g;cases a with
  |VH=>rfl
  |V4 j a=>
   letI r:=b (λx c=>h x (bN _ c)) λx c=>g x (bN _ c);let(i,VC):=h k cP;let(i,VC):=g j cP;show r
def xG:ZG qV where
 Yh v h:=by let(x,ks,VC,g):=oE h;show(vS g).1
 Vj v h:=by let(x,ks,VC,g):=oE h;show⟨_,VC⟩
 dep v h:=by let(x,ks,VC,g):=oE h;show(show max 0 (pX ks)+1<=_ by rw[(vS g).2];show di _)
 sim v u h k:=by let(x,ks,VC,g):=oE h;let(y,a,VC,b):=oE k;show(Jb g b:wF ks a=V6)
def jc {nd:fK}:qV (iu nd)=V6:=by apply ek.WO λx m=>?_;let(i,_,VC):=aK.mp m;rfl
def OI {a b:V2 V9} (h:XX a=XX b):a=b:=by
 have:=VN (rS rD) h
 rwa[wU,wU] at this
def Am {a b:fK} (h:iu a=iu b):a=b:=by unfold iu at h;simp only[V.Vj.injEq,xW,V.Vn.injEq] at h;show J6 h.1 (OI h.2)
def uz {a b:fK}:gc (iu a) (iu b)=decide (a=b):=by
 have:=jj (xG.Yh _ (jc (nd:=a))) (y:=iu b);by_cases h:a=b
 .rw[Vs h,this,h]
 .rw[Vk h,<-rW,this];show λz=>h (Am z)
def sW {l:V2 (fK×V9)}:∀e∈lK l,qV e.1=V6:=λe a=>by let(r,_,VC):=aK.mp a;show jc
def mR {nd:fK} {l:V2 (fK×V9)}:oG (lK l) (iu nd)=(l.VY nd).VP iV:=by
 induction l with
 |VH=>rfl
 |V4 p l a=>
  rw[bH];by_cases h:p.1=nd
  .rw[h,Wk];show Vw (uz.V7 (Vs h))
  .rw[Vz.WO (fP h)];show(Vd λz=>h (W1 (uz.Vh.V7 z))).V7 a
def uA {nd:fK} {m:V9} {l:V2 (fK×V9)} (h:l.VY nd=V8):mQ (lK l) (iu nd) (iV m)=lK (l++[(nd,m)]):=by
 induction l with
 |VH=>rfl
 |V4 p l a=>
  rw[bH] at h;by_cases e:p.1=nd
  .rw[e,Wk] at h;cases h
  .rw[Vz.WO (fP e)] at h;show(Vd λz=>e (W1 (uz.Vh.V7 z))).V7 (VN _ (a h))
def kU {nd:fK}:∀{l:V2 fK} {k:V9},nd∉l->(l.zipIdx k).VY nd=V8
 |[],_,_=>rfl
 |x::l,k,h=>by rw[rR,bH,Vz.WO λ(e:nd=x)=>h (by rw[e];show cP)];show kU λz=>h (bN _ z)
def pT {nd:fK}:∀{l:V2 fK} {k i:V9},l.WF->l[i]?=V1 nd->(l.zipIdx k).VY nd=V1 (i+k):=λ{l}=>by
 induction l with
 |VH=>show λ_ h=>by cases h
 |V4 x l a=>
  intro k i b h;cases i with
  |WM=>
   cases h;rw[rR,bH];simp
  |Wh i=>
   rw[dJ] at b;simp only[g8] at h;letI c:nd≠x:=λe=>b.1 (e▸aF h);rw[rR,bH,Vz.WO c,a b.2 h,show i+(k+1)=i+1+k by show bY [] (.e V3 (.p (.v 0) (.p (.v 1) (.n 1))) (.p (.p (.v 0) (.n 1)) (.v 1))) [[1],[1]] tt [_,_] []]
def zipIdx_append {l:V2 fK} {nd:fK}:(l++[nd]).zipIdx=l.zipIdx++[(nd,l.V0)]:=by rw[V2.zipIdx_append];simp
def aQ.ZC {c:Cx} {n:V9} {M:WC} {P:dQ} {f a:V9} {XT:V2 (VK Vm)} {WK:Bp} {vs:V2 V} (h:Ah c.K f a XT WK=V6) (b:vs.V0=a) (σ:YY) (d:vs.VP V1++xR (XT.V0-a)=σ) (w:WK.wp c n σ M λe _ M'=>P (mE e) M'):aQ c (n+1) (.VG f) vs M P:=.fnI h b (d▸w)
def ju.ZC {c:Cx} {n:V9} {M:WC} {P:dQ} {f a:V9} {XT:V2 (VK Vm)} {WK:Bp} {vs:V2 V} (h:Ah c.K f a XT WK=V6) (b:vs.V0=a) (σ:YY) (d:vs.VP V1++xR (XT.V0-a)=σ) (w:WK.wp c n σ M λe _ M'=>P (mE e) M'):ju c (n+1) (.VG f) vs M P:=.fnI h b (d▸w)
def Xp.int_i {i:Vo} {x0 x1 x2 M P} (h:(P (.Vl i) M)):(Xp.Vl i).wp x0 x1 x2 M P:=h
def Xp.str_i {i:Vm} {x0 x1 x2 M P} (h:(P (.Vn i) M)):(Xp.Vn i).wp x0 x1 x2 M P:=h
def Xp.none_i {x0 x1 x2 M P} (h:(P .V8 M)):(Xp.V8).wp x0 x1 x2 M P:=h
def Xp.bool_i {b:VS} {x0 x1 x2 M P} (h:(P (.WW b) M)):(Xp.WW b).wp x0 x1 x2 M P:=h
def Xp.glob_i {v:V} {x0 x1 x2 M P} (h:(P v M)):(Xp.Xo v).wp x0 x1 x2 M P:=h
def Ap.ZR {x0 x1 x2 M R} (h:(R [] M)):(Ap.VH).wp x0 x1 x2 M R:=h
def Ap.ZP {x:Xp} {xs:Ap} {c n σ M R} (h:(x.wp c n σ M λv a=>xs.wp c n σ a λvs b=>R (v::vs) b)):(Ap.V4 x xs).wp c n σ M R:=h
def Xp.tup_i {xs:Ap} {c n σ M P} (h:(xs.wp c n σ M λvs a=>P (.Vj vs) a)):(Xp.Vj xs).wp c n σ M P:=h
def Xp.lst_i {xs:Ap} {c n σ M P} (h:(xs.wp c n σ M λvs a=>P (.VG a.V0) (a++[.VF vs]))):(Xp.ZZ xs).wp c n σ M P:=h
def Xp.dic0_i {c n σ M P} (h:(P (.VG M.V0) (M++[.WD []]))):(Xp.dic0).wp c n σ M P:=h
def YK.addI_i {a b M P} (h:(gB a λi=>gB b λj=>P (.Vl (i+j)) M)):(YK.Zj).wp a b M P:=h
def YK.subI_i {a b M P} (h:(gB a λi=>gB b λj=>P (.Vl (i-j)) M)):(YK.subI).wp a b M P:=h
def YK.mulI_i {a b M P} (h:(gB a λi=>gB b λj=>IntMulOk i j/\P (.Vl (i*j)) M)):(YK.mulI).wp a b M P:=h
def YK.modI_i {a b M P} (h:(gB a λi=>gB b λj=>j≠0/\P (.Vl (i.fmod j)) M)):(YK.modI).wp a b M P:=h
def YK.divI_i {a b M P} (h:(gB a λi=>gB b λj=>j≠0/\nQ i j=V3/\P (.Vl (i.fdiv j)) M)):(YK.divI).wp a b M P:=h
def YK.addT_i {a b M P} (h:(lE a λxs=>lE b λys=>xs.V0+ys.V0<=cE/\P (.Vj (xs++ys)) M)):(YK.addT).wp a b M P:=h
def YK.addL_i {a b M P} (h:(eu M a λ_ xs=>eu M b λ_ ys=>xs.V0+ys.V0<=cE/\P (.VG M.V0) (M++[.VF (xs++ys)]))):(YK.addL).wp a b M P:=h
def YK.mulL_i {a b M P} (h:(eu M a λ_ xs=>gB b λk=>xs≠[]/\0<=k/\xs.V0*k.Xd<=2^24/\P (.VG M.V0) (M++[.VF (eF k.Xd xs).ZW]))):(YK.mulL).wp a b M P:=h
def Xp.bin_i {op:YK} {l r:Xp} {c n σ M P} (h:(l.wp c n σ M λa d=>r.wp c n σ d λb e=>op.wp a b e P)):(Xp.Yq op l r).wp c n σ M P:=h
def Wl.neT_i {a b M B} (h:(lE a λxs=>lE b λys=>Ih xs ys/\B (!nC xs ys))):(Wl.neT).wp a b M B:=h
def Wl.eqL0_i {a b M B} (h:(eu M a λ_ xs=>eu M b λ_ ys=>ys=[]/\B xs.WN)):(Wl.eqL0).wp a b M B:=h
def Wl.neL0_i {a b M B} (h:(eu M a λ_ xs=>eu M b λ_ ys=>ys=[]/\B (!xs.WN))):(Wl.neL0).wp a b M B:=h
def Wl.isN_i {a b M B} (h:(b=.V8/\B (XQ a))):(Wl.isN).wp a b M B:=h
def Wl.notN_i {a b M B} (h:(b=.V8/\B (!isNone a))):(Wl.notN).wp a b M B:=h
def Wl.notInL_i {a b M B} (h:(eu M b λ_ xs=>qU a xs/\B (!xs.any λy=>gc y a))):(Wl.notInL).wp a b M B:=h
def Wl.notInT_i {a b M B} (h:(lE b λxs=>qU a xs/\B (!xs.any λy=>gc y a))):(Wl.notInT).wp a b M B:=h
def Wl.inD_i {a b M B} (h:(t9 b λd=>∃q es,ZG q/\M[d]?=V1 (.WD es)/\(∀e∈es,q e.1=V6)/\q a=V6/\B (oG es a).XZ)):(Wl.inD).wp a b M B:=h
def Xp.cmp_i {op:Wl} {l r:Xp} {c n σ M P} (h:(l.wp c n σ M λa d=>r.wp c n σ d λb e=>op.wp a b e λt=>P (.WW t) e)):(Xp.Ye op l r).wp c n σ M P:=h
def Xp.and_i {l r:Xp} {c n σ M P} (h:(l.wp c n σ M λa d=>sH a λb=>if b then r.wp c n σ d P else P (.WW V3) d)):(Xp.and l r).wp c n σ M P:=h
def Xp.or_i {l r:Xp} {c n σ M P} (h:(l.wp c n σ M λa d=>sH a λb=>if b then P (.WW V6) d else r.wp c n σ d P)):(Xp.or l r).wp c n σ M P:=h
def Tp.val_i {x:Xp} {c n σ M B} (h:(x.wp c n σ M λv a=>sH v λb=>B b a)):(Tp.YM x).wp c n σ M B:=h
def Tp.not_i {t:Tp} {c n σ M B} (h:(t.wp c n σ M λb a=>B (!b) a)):(Tp.not t).wp c n σ M B:=h
def Tp.and_i {l r:Tp} {c n σ M B} (h:(l.wp c n σ M λb a=>if b then r.wp c n σ a B else B V3 a)):(Tp.and l r).wp c n σ M B:=h
def Tp.or_i {l r:Tp} {c n σ M B} (h:(l.wp c n σ M λb a=>if b then B V6 a else r.wp c n σ a B)):(Tp.or l r).wp c n σ M B:=h
def Tp.cmp_i {op:Wl} {l r:Xp} {c n σ M B} (h:(l.wp c n σ M λa d=>r.wp c n σ d λb e=>op.wp a b e λt=>B t e)):(Tp.Ye op l r).wp c n σ M B:=h
def Tp.chain_i {e f:Wl} {x y z:Xp} {c n σ M B} (h:(x.wp c n σ M λa g=>y.wp c n σ g λb i=>e.wp a b i λt=>if t then z.wp c n σ i λd j=>f.wp b d j λt=>B t j else B V3 i)):(Tp.ZT e f x y z).wp c n σ M B:=h
def Xp.ite_i {t:Tp} {x y:Xp} {c n σ M P} (h:(t.wp c n σ M λb a=>if b then x.wp c n σ a P else y.wp c n σ a P)):(Xp.ZK t x y).wp c n σ M P:=h
def Xp.call_i {f:VE} {xs:Ap} {c n σ M P} (h:(xs.wp c n σ M λvs a=>aQ c n f vs a P)):(Xp.Vu f xs).wp c n σ M P:=h
def Xp.fld_i {o:Xp} {C i:V9} {c n σ M P} (h:(o.wp c n σ M λb d=>∃a vs v,b=.VG a/\Ob d a C vs/\vs[i]?=V1 v/\xN v=V3/\P v d)):(Xp.Wv o C i).wp c n σ M P:=h
def Xp.item_i {o i:Xp} {c n σ M P} (h:(o.wp c n σ M λa d=>i.wp c n σ d λb e=>j8 c n a b e P)):(Xp.We o i).wp c n σ M P:=h
def Xp.from_i {o:Xp} {k:V9} {c n σ M P} (h:(o.wp c n σ M λv a=>lE v λxs=>k<=xs.V0/\xs.V0<=cE/\P (.Vj (xs.XV k)) a)):(Xp.from o k).wp c n σ M P:=h
def Xp.head_i {o:Xp} {c n σ M P} (h:(o.wp c n σ M λv a=>oH v λx=>∃y,(∀t u,(oV x t cQ (V1 (1,u)) cQ=.YM (.Vn x t)/\y=x)\/(oV x t cQ (V1 (1,u)) cQ=.Vn y/\y.V0<=cE))/\P (.Vn y) a)):(Xp.WI o).wp c n σ M P:=h
def Xp.join_i {o:Xp} {y:Vm} {c n σ M P} (h:(o.wp c n σ M λv a=>oH v λx=>(x++y).V0<=cE/\P (.Vn (x++y)) a)):(Xp.join o y).wp c n σ M P:=h
def Sp.asg_i {k:V9} {x:Xp} {c n σ M F} (h:(x.wp c n σ M λv a=>F .Wo (YA σ k v) a)):(Sp.Yt k x).wp c n σ M F:=h
def Sp.asgs_i {ks:V2 V9} {x:Xp} {c n σ M F} (h:(x.wp c n σ M λv a=>lE v λvs=>vs.V0=ks.V0/\F .Wo (ye σ ks vs) a)):(Sp.asgs ks x).wp c n σ M F:=h
def Sp.asg2_i {j k:V9} {x:Xp} {c n σ M F} (h:(x.wp c n σ M λv d=>eu d v λ_ xs=>∃a b,xs=[a,b]/\F .Wo (YA (YA σ j a) k b) d)):(Sp.asg2 j k x).wp c n σ M F:=h
def Sp.expr_i {x:Xp} {c n σ M F} (h:(x.wp c n σ M λ_ a=>F .Wo σ a)):(Sp.Xt x).wp c n σ M F:=h
def Sp.ret_i {x:Xp} {c n σ M F} (h:(x.wp c n σ M λv a=>F (.XC v) σ a)):(Sp.XC x).wp c n σ M F:=h
def Sp.fld_i {o:Xp} {C i:V9} {x:Xp} {c n σ M F} (h:(x.wp c n σ M λv b=>o.wp c n σ b λe f=>t9 e λa=>∃d vs,f[a]?=V1 (.YH C d)/\f[d]?=V1 (.ns ((WG C).Y8 vs))/\i<=vs.V0/\F .Wo σ (f.Wb d (.ns ((WG C).Y8 (if i<vs.V0 then vs.Wb i v else vs++[v])))))):(Sp.Wv o C i x).wp c n σ M F:=h
def Sp.item_i {o i x:Xp} {c n σ M F} (h:(x.wp c n σ M λv a=>o.wp c n σ a λb d=>i.wp c n σ d λe f=>uJ c n sd b e v f (F .Wo σ))):(Sp.We o i x).wp c n σ M F:=h
def Bp.ZR {c n σ M F} (h:(F .Wo σ M)):(Bp.VH).wp c n σ M F:=h
def Bp.ZP {x:Sp} {xs:Bp} {c n σ M F} (h:(x.wp c n σ M (AX (xs.wp c n) F))):(Bp.V4 x xs).wp c n σ M F:=h
abbrev Ug (a F:iD):Prop:=∀b σ M,a b σ M->F b σ M
def use_i {a F:iD} {fl σ M} (h:Ug a F) (w:a fl σ M):F fl σ M:=h _ _ _ w
def Bp.abs {x:Bp} {c n σ M F} (h:∀a,Ug F a->x.wp c n σ M a):x.wp c n σ M F:=h _ λ_ _ _ w=>w
def Sp.ite_i {t:Tp} {x y:Bp} {c n σ M F} (h:(t.wp c n σ M λb a=>if b then x.wp c n σ a F else y.wp c n σ a F)):(Sp.ZK t x y).wp c n σ M F:=h
def Sp.for_i {t:Tg} {a:Xp} {WK:Bp} {c n σ M F} (h:(a.wp c n σ M λv b=>∃k d,iz c n v b k d/\jS c n t WK k σ d F)):(Sp.for t a WK).wp c n σ M F:=h
def Sp.while_i {t:Tp} {WK:Bp} {c n σ M F} (h:(oJ c n t WK σ M F)):(Sp.while t WK).wp c n σ M F:=h
def Ip.ZR {c n σ M B} (h:(B V6 M)):(Ip.VH).wp c n σ M B:=h
def Ip.one_i {t:Tp} {c n σ M B} (h:(t.wp c n σ M B)):(Ip.Ws t).wp c n σ M B:=h
def Cp.one_i {a:Xp} {t:Tg} {b:Xp} {d:Ip} {c n σ M P} (h:(t.Yd σ/\b.wp c n σ M λv e=>∃k f,iz c n v e k f/\qA c n k f/\fk c n a t d k [] σ f λys M'=>P (.VG M'.V0) (M'++[.VF ys]))):(Cp.Ws a t b d).wp c n σ M P:=h
def Cp.two_i {a:Xp} {t:Tg} {b:Xp} {d:Tg} {e:Xp} {c n σ M P} (h:(t.Yd σ/\d.Yd σ/\b.wp c n σ M λv f=>∃k g,iz c n v f k g/\qA c n k g/\sU c n a t d e k [] σ g λys M'=>P (.VG M'.V0) (M'++[.VF ys]))):(Cp.two a t b d e).wp c n σ M P:=h
def Xp.comp_i {x:Cp} {c n σ M P} (h:(x.wp c n σ M P)):(Xp.YQ x).wp c n σ M P:=h
def Sp.asgC_i {k:V9} {x:Cp} {c n σ M F} (h:(x.wp c n σ M λv a=>F .Wo (YA σ k v) a)):(Sp.asgC k x).wp c n σ M F:=h
def YK.mulT_i {a b M P} (h:(lE a λxs=>gB b λk=>∃y,xs=[y]/\(k=2\/k=3)/\P (.Vj (eF k.Xd y)) M)):(YK.mulT).wp a b M P:=h
def Xp.dic3_i {a b d:Vm} {e f g:Xp} {c n σ M P} (h:e.wp c n σ M λi j=>f.wp c n σ j λk l=>g.wp c n σ l λm o=>P (.VG o.V0) (o++[.WD [(.Vn a,i),(.Vn b,k),(.Vn d,m)]])):(Xp.dic3 a b d e f g).wp c n σ M P:=h
def Tp.cmpW_i {op:CmpOp} {l r:Xp} {c n σ M B} (h:l.wp c n σ M λa d=>r.wp c n σ d λb e=>Yj c n (eS op) a b e λv f=>∃t,v=.WW t/\B t f):(Tp.cmpW op l r).wp c n σ M B:=h
def Xp.uptoB_i {o:Xp} {k:V9} {c n σ M P} (h:o.wp c n σ M λv a=>∃x VL xs,v=.lit (.VG x)/\c.B.Zi x VL/\VL.VA<=cE/\(∀ι h,cT ι h xs VL.VD)/\P (.VG a.V0) (a++[.VF (xs.WU k)])):(Xp.uptoB o k).wp c n σ M P:=h
def Wl.eqI_i {a b M B} (h:(gB a λi=>gB b λj=>B (i==j))):Wl.eqI.wp a b M B:=h
def Wl.neI_i {a b M B} (h:(gB a λi=>gB b λj=>B (i !=j))):Wl.neI.wp a b M B:=h
def Wl.ltI_i {a b M B} (h:(gB a λi=>gB b λj=>B (decide (i<j)))):Wl.ltI.wp a b M B:=h
def Wl.gtI_i {a b M B} (h:(gB a λi=>gB b λj=>B (decide (j<i)))):Wl.gtI.wp a b M B:=h
def Wl.leI_i {a b M B} (h:(gB a λi=>gB b λj=>B (decide (i<=j)))):Wl.leI.wp a b M B:=h
def Wl.geI_i {a b M B} (h:(gB a λi=>gB b λj=>B (decide (j<=i)))):Wl.geI.wp a b M B:=h
def Wl.eqS_i {a b M B} (h:(oH a λi=>oH b λj=>B (i==j))):Wl.eqS.wp a b M B:=h
def Wl.neS_i {a b M B} (h:(oH a λi=>oH b λj=>B (i !=j))):Wl.neS.wp a b M B:=h
def Wl.inS_i {a b M B} (h:(oH a λi=>oH b λj=>B (!(kG j i 0 j.V0 1).WN))):Wl.inS.wp a b M B:=h
def asInt_i {i k} (h:k i):gB (.Vl i) k:=h
def asStr_i {i k} (h:k i):oH (.Vn i) k:=h
def asBool_i {i k} (h:k i):sH (.WW i) k:=h
def ZX {i k} (h:k i):lE (.Vj i) k:=h
def asRef_i {i k} (h:k i):t9 (.VG i) k:=h
def YN {K F σ M} (h:K σ M F):AX K F .Wo σ M:=h
def seqR_i {K F σ M v} (h:F (.XC v) σ M):AX K F (.XC v) σ M:=h
def seqB_i {K F σ M} (h:F .brk σ M):AX K F .brk σ M:=h
def seqC_i {K F σ M} (h:F .cont σ M):AX K F .cont σ M:=h
def turnN_i {K F σ M} (h:K σ M):u5 K F .Wo σ M:=h
def turnWN_i {K F σ M} (h:K σ M F):Ky K F .Wo σ M:=h
def turnWR_i {K F σ M v} (h:F (.XC v) σ M):Ky K F (.XC v) σ M:=h
def turnR_i {K F σ M v} (h:F (.XC v) σ M):u5 K F (.XC v) σ M:=h
def bindO_i {k v σ K} (h:K (YA σ k v)):(Tg.Ws k).bind v σ K:=h
def bindM_i {ks v σ K} (h:lE v λvs=>vs.V0=ks.V0/\K (ye σ ks vs)):(Tg.Xn ks).bind v σ K:=h
def Xp.var_i {k:V9} {x0 x1} {σ:YY} {M P v} (h:XP σ k=V1 v) (p:P v M):(Xp.VQ k).wp x0 x1 σ M P:=by
 focus change(match XP σ k with|V1 v=>P v M|V8=>WY)
 rw[h];show p
def Xp.wp.Xf {k C i:V9} {c n} {σ:YY} {M P a vs v} (h:XP σ k=V1 (.VG a)) (o:Ob M a C vs) (e:vs[i]?=V1 v) (l:xN v=V3) (p:P v M):(Xp.Wv (.VQ k) C i).wp c n σ M P:=
 Xp.fld_i (Xp.var_i h (Mv _ _ _ rfl o e l p))
def Xp.meth_i {m:Mp} {o:Xp} {xs:Ap} {c n σ M P} (h:o.wp c n σ M λa b=>m.pre a b/\xs.wp c n σ b λvs d=>aQ c n m.f (a::vs) d P):(Xp.W3 m o xs).wp c n σ M P:=h
def Xp.wp.Wg {m:Mp} {k:V9} {xs:Ap} {c n} {σ:YY} {M P v} (h:XP σ k=V1 v) (o:m.pre v M) (p:xs.wp c n σ M λvs a=>aQ c n m.f (v::vs) a P):(Xp.W3 m (.VQ k) xs).wp c n σ M P:=Xp.meth_i (Xp.var_i h {o,p})
def Xp.wp.X4 {m:Mp} {k C i:V9} {xs:Ap} {c n} {σ:YY} {M P a vs v} (h:XP σ k=V1 (.VG a)) (ob:Ob M a C vs) (e:vs[i]?=V1 v) (l:xN v=V3) (o:m.pre v M) (p:xs.wp c n σ M λvs b=>aQ c n m.f (v::vs) b P):(Xp.W3 m (.Wv (.VQ k) C i) xs).wp c n σ M P:=Xp.meth_i (Xp.wp.Xf h ob e l {o,p})
def fm {C f a vs} {M:WC} (h:Ob M a C vs):(Mp.XG C f).pre (.VG a) M:={vs,h}
def qQ {id name ZU hty a xs} {M:WC} (h:M[a]?=V1 (.VF xs)):(Mp.ZZ id name ZU hty).pre (.VG a) M:={xs,h}
def zx {id name ZU hty a xs} {M:WC} (h:M[a]?=V1 (.WD xs)):(Mp.dic id name ZU hty).pre (.VG a) M:={xs,h}
def ja {v:V} {σ:YY}:∀{k:V9},XP σ k=V8->Le σ (YA σ k v):=by
 induction σ with
 |VH=>intro k _;trivial
 |V4 x σ a=>
  intro k h;cases x with
  |V8=>
   cases k with
   |WM=>show Le.Vt (σ:=σ)
   |Wh k=>show a (k:=k) h
  |V1 x=>
   cases k with
   |WM=>cases h
   |Wh k=>show{VC,a (k:=k) h}
def Le.V7 {σ:YY}:∀{σ' σ'':YY},Le σ σ'->Le σ' σ''->Le σ σ'':=by
 induction σ with
 |VH=>intro _ _ _ _;trivial
 |V4 x σ a=>
  intro σ' σ'' h g;cases x with
  |V8=>
   cases σ' with
   |VH=>show a (σ':=[]) (σ'':=σ''.XW) h trivial
   |V4 y σ'=>cases y with
    |V8=>show a (σ':=σ') (σ'':=σ''.XW) h g
    |V1 y=>show a (σ':=σ') (σ'':=σ''.XW) h g.2
  |V1 x=>
   cases σ' with
   |VH=>cases h.1
   |V4 y σ'=>
    cases h.1;show{g.1,a (σ':=σ') (σ'':=σ''.XW) h.2 g.2}
def sZ {v:V} {σ:YY}:∀{k:V9},(YA σ k v).V0=σ.V0:=by
 induction σ with
 |VH=>intro k;rfl
 |V4 x σ a=>
  intro k;cases k with
  |WM=>rfl
  |Wh k=>show VN (·+ 1) a
def pJ {v:V} {σ:YY}:∀{k j:V9},j≠k->XP (YA σ k v) j=XP σ j:=by
 induction σ with
 |VH=>intro k j _;rfl
 |V4 x σ a=>
  intro k j h;cases k with
  |WM=>
   cases j with
   |WM=>show Vy rfl h
   |Wh j=>rfl
  |Wh k=>
   cases j with
   |WM=>rfl
   |Wh j=>show a λe=>h (by show VN _ (e))
def pK {v:V} {σ:YY}:∀{k:V9},k<σ.V0->XP (YA σ k v) k=V1 v:=by
 induction σ with
 |VH=>intro k h;cases h
 |V4 x σ a=>
  intro k h;cases k with
  |WM=>rfl
  |Wh k=>show a (f5 h)
def le_i {v:V} {σ:YY} {k:V9} {Q:Prop} (h:XP σ k=V8) (q:Q):Le σ (YA σ k v)/\Q:={ja h,q}
def le_i2 {v w:V} {σ:YY} {k j:V9} {Q:Prop} (h:XP σ k=V8) (g:XP (YA σ k v) j=V8) (q:Q):Le σ (ye σ [k,j] [v,w])/\Q:={Le.V7 (ja h) (ja g),q}
def ifT {P Q:Prop} (h:P):if V6=V6 then P else Q:=h
def ifF {P Q:Prop} (h:Q):if V3=V6 then P else Q:=h
def ifY {b:VS} {P Q:Prop} (e:b=V6) (h:P):if b=V6 then P else Q:=by subst e;show h
def ZL {b:VS} {P Q:Prop} (e:b=V3) (h:Q):if b=V6 then P else Q:=by subst e;show h
def flV_i {P:dQ} {v M} (h:P v M):P (mE (.XC v)) M:=h
def flN_i {P:dQ} {M} (h:P .V8 M):P (mE .Wo) M:=h
def iJ {c:Cx} {n:V9} {v:V} {a b:WC} {k:Src} {R:Src->WC->Prop} (d:iz c n v a k b) (e:qA c n k b) (h:R k b):∃k b,iz c n v a k b/\qA c n k b/\R k b:=qs _ _ d e h
def sr {c:Cx} {n:V9} {v:V} {a b:WC} {k:Src} {R:Src->WC->Prop} (d:iz c n v a k b) (h:R k b):∃k b,iz c n v a k b/\R k b:=kW _ _ d h
end
local macro_rules (kind := PyProof.Rows.tacticWalk_at_)
 | s =>
  let f := "{!withReducible with_reducible @ {!first first { ^ {!refine refine {?app `Xp.var_i { `rfl # } } } ~ ^ {!refine refine {?app `" ++ " { # } } } ~ ^ {!refine refine {?app `".intercalate ("ifT ifF Bp.cons_i Xp.call_i Ap.cons_i Ap.nil_i seqN_i Sp.asg_i Sp.expr_i Sp.ret_i Sp.ite_i Xp.int_i asInt_i asTup_i asRef_i asBool_i asStr_i Xp.str_i Xp.none_i Xp.bool_i Xp.glob_i Xp.tup_i Xp.lst_i Xp.dic0_i Binp.addI_i Binp.subI_i Binp.mulI_i Binp.modI_i Binp.divI_i Binp.addT_i Binp.addL_i Binp.mulL_i Xp.bin_i Cmpp.neT_i Cmpp.eqL0_i Cmpp.neL0_i Cmpp.isN_i Cmpp.notN_i Cmpp.notInL_i Cmpp.notInT_i Cmpp.inD_i Xp.cmp_i Xp.and_i Xp.or_i Tp.val_i Tp.not_i Tp.and_i Tp.or_i Tp.cmp_i Tp.chain_i Xp.ite_i Xp.item_i Xp.from_i Xp.head_i Xp.join_i Sp.asgs_i Sp.asg2_i Sp.fld_i Sp.item_i Bp.nil_i Sp.for_i Ip.nil_i Ip.one_i Cp.one_i Cp.two_i Xp.comp_i Sp.asgC_i Binp.mulT_i Xp.dic3_i Tp.cmpW_i Xp.uptoB_i Cmpp.eqI_i Cmpp.neI_i Cmpp.ltI_i Cmpp.gtI_i Cmpp.leI_i Cmpp.geI_i Cmpp.eqS_i Cmpp.neS_i Cmpp.inS_i seqR_i seqB_i seqC_i turnN_i turnR_i turnWN_i turnWR_i bindO_i bindM_i flV_i flN_i".splitOn " ") ++ " { # } } } ~ } } & }"
  let g s := "^ {!withReducible with_reducible @ {!refine refine {?app `" ++ s ++ " # } } } & } ~ "
  if s[1].isStrLit? == some "er" then Lake.mk s "3" "0" ("{!tacticUnhygienic_ unhygienic @ " ++ f ++ " ; {!tacticRepeat_ repeat @ " ++ f ++ " & } & }") else if s[1].isStrLit?.getD "wp" == "wp" then
  Lake.mk s "3" "0" ("{!tacticRepeat_ repeat @ {!first first { " ++ g "le_i { `rfl" ++ g "le_i2 { `rfl `rfl" ++ "^ {PyProof.Rows.tacticWalk_at_ walk_at {str \"er\" } } ~ " ++ g "use_i { {?byTactic by @ {!assumption assumption } & }" ++ "} } & }") else Lean.Macro.throwUnsupported
mutual open Nat
def W4.Wi (h:W4 c M A H):Ob M (A .Y9) 487 [.VG (A .VR),.VG (A .Wd),.VG (A .XO)]:={_,h.X8 .Y9 _ rfl,h.X8 .Zs _ rfl}
def Df {l:V2 V9} {a p:V9} (h:l[a]?=V1 p):(XX l)[a]?=V1 (iV p):=by simp[XX,h]
def yM (F:dR c.K) (h:W4 c M A H) (d:jI H.VR) {a:V9} (ha:a<H.VR.V0) (hz:H.VR.V0<=1000) (p:P (iV (VX H.VR a)) M):aQ c (n+1) (.VG 444) [.VG (A .Y9),iV a] M P:=by
 apply .ZC (F.fn 30) rfl [V1 (.VG (A .Y9)),V1 (iV a)] rfl ?_;lk;generalize f:a+1=k;replace f:a<k:=dX [{2,.p .a (.n 1),.b}] {1,.a,.b} [1,1] [] tt f
 induction k generalizing a with
 |WM=>show(PF f).W2
 |Wh k g=>
  obtain⟨q,hq⟩:∃q,H.VR[a]?=V1 q:={_,aI ha};have hqa:=d a q hq;apply .Zt ?_;lk;apply .Xf rfl h.Wi rfl rfl ?_;lk;apply .VF (h.X8 .VR _ rfl) (qq1 [_] []) (qq2 [_,_] [] hz ha) (Df hq) ?_;lk;split
  .rename_i ne
   have hne:q≠a:=by clear hqa hq f p ha;rintro rfl;simp at ne
   lk;apply .Xf rfl h.Wi rfl rfl ?_;lk;apply .VF (h.X8 .VR _ rfl) (qq1 [_] []) (qq2 [_,_] [] hz ha) (Df hq) ?_;rw[jg d hq,Vd hne] at p;show g (K1 ha hqa) p (bY [.k V3 (.v 0) (.p (.v 1) (.n 1)),.l V3 (.v 2) (.v 0),.N (.e V3 (.v 2) (.v 0))] (.k V3 (.v 2) (.v 1)) [[1,1,0,1],[0,0,1,1]] tt [_,_,_] [] f hqa hne)
  .rename_i e
   have hne:q=a:=by simp at e;show QE [_,_] [] e
   rw[jg d hq,Vw hne] at p;show p
abbrev HS.make (H:HS):HS:={H with VR:=H.VR++[H.VR.V0],Wd:=H.Wd++[[H.Wd.V0]]}
def cY {l:V2 V9}:(XX l).V0=l.V0:=by show aE ..
def nS {l m:V2 V9}:XX (l++m)=XX l++XX m:=by show bD
def Ul {k:V9}:XX [k]=[iV k]:=rfl
abbrev upA (A:Ad) (z:Nm) (b:V9):Ad:=λy=>cond (g9 y.VZ z.VZ&&g9 y.arg z.arg) b (A y)
def qf {z b}:upA A z b z=b:=by change cond (g9 z.VZ z.VZ&&g9 z.arg z.arg) b (A z)=b;rw[IX,IX];rfl
def r6 {y z b} (h:y≠z):upA A z b y=A y:=by
 change cond (g9 y.VZ z.VZ&&g9 y.arg z.arg) b (A y)=A y;cases e:g9 y.VZ z.VZ&&g9 y.arg z.arg with
 |V3=>rfl
 |V6=>
  have e:=(aN _ _).mp e;show(h (by rw[<-LK y,gS e.1,gS e.2,LK])).W2
def L7 {l:V2 (V2 V9)} {x:V2 V9} {i:V9} (h:i≠l.V0):(l++[x])[i]?=l[i]?:=by
 rcases tL i l.V0 with q|q
 .show bV q
 .rw[dw q,fh q];have:i-l.V0≠0:=bY [.N (.e V3 (.v 0) (.v 1)),.l V3 (.v 1) (.v 0)] (.N (.e V3 (.s (.v 0) (.v 1)) (.n 0))) [[1,0,0,1],[0,1,0,1],[0,0,0,1,1],[1,0,0,1]] tt [_,_] [] h q;cases w:i-l.V0 with
  |WM=>show(bY [.N (.e V3 (.s (.v 0) (.v 1)) (.n 0)),.e V3 (.s (.v 0) (.v 1)) (.n 0)] .F [[1,1],[1,1],[0,1,0,1],[0,1,1],[0,1],[0,1],[0,1],[0,1]] tt [_,_] [] this w).W2
  |Wh k=>show rfl
def HF (F:dR c.K) (h:W4 c M A H) (hz:H.VR.V0<=1000) (p:P (iV H.VR.V0) M):aQ c (n+1) (.VG 437) [.VG (A .Y9)] M P:=by
 apply .ZC (F.fn 29) rfl [V1 (.VG (A .Y9))] rfl ?_
 focus unfold ua
 lk;apply .Xf rfl h.Wi rfl rfl ?_;lk;apply .lenL (h.X8 .VR _ rfl) (by rw[cY];show RJ [_] [] hz) ?_;rw[cY];show p
def ON (F:dR c.K) (h:W4 c M A H) (hz:H.VR.V0<=1000) (d:H.Wd.V0=H.VR.V0) (p:∀M' A',Y6 c M A H M' A' H.make->(∀x,x≠.lot H.VR.V0->A' x=A x)->P (iV H.VR.V0) M'):aQ c (n+1) (.VG 430) [.VG (A .Y9)] M P:=by
 have h7:=bJ;apply .ZC (F.fn 28) rfl [V1 (.VG (A .Y9))] rfl ?_;unfold uc;lk;apply .X4 rfl h.Wi rfl rfl (qQ (h.X8 .VR _ rfl)) ?_;lk;apply .Xf rfl h.Wi rfl rfl ?_;lk;apply .lenL (h.X8 .VR _ rfl) (by rw[cY];show RJ [_] [] hz) (.WX (h.X8 .VR _ rfl) (by rw[cY];show K4 hz h7) ?_);rw[cY]
 letI s1:Y6 c M A H (M.Wb (A .VR) (.VF (XX H.VR++[iV H.VR.V0]))) A {H with VR:=H.VR++[H.VR.V0]}:=
  (Y6.Vt h).upd rfl (VN (λl=>V1 (O.VF l)) nS) λy f=>kM rfl (λ_=>rfl) (λ_=>rfl) (aS rfl) f
 lk;apply .X4 rfl s1.XD.Wi rfl rfl (qQ (s1.XD.X8 .Wd _ rfl)) ?_;lk;apply .Xf rfl s1.XD.Wi rfl rfl ?_;lk;apply .lenL (s1.XD.X8 .Wd _ rfl) (by simp;show dX [⟨0,.a,.n 1000⟩,⟨2,.b,.a⟩] ⟨1,.b,.n 9223372036854775808⟩ [1,1,1] [] tt hz d) (.WX ((s1.Yw _).XD.X8 .Wd _ rfl) (by simp;show Oo hz d h7) ?_);lk;have s2:=(s1.Yw [O.VF [V.Vl ↑(rS (λi=>V.VG (A (Nm.lot i))) (cD H.Wd.V0)).V0]]);have hlen:(V2.Wb M (A Nm.VR) (O.VF (XX H.VR++[V.Vl ↑H.VR.V0]))).V0=M.V0:=by show eB
 have s3:=s2.Zd (x:=.Wd) (z:=.lot H.VR.V0) (A':=upA A (.lot H.VR.V0) M.V0) (H':=H.make) (b:=M.V0) (o:=.VF ((cD H.make.Wd.V0).VP λi=>.VG (upA A (.lot H.VR.V0) M.V0 (.lot i)))) (ob:=.VF [iV H.Wd.V0])
  (by rw[dw (by show bX ‹_›)];simp) (aM _) (λy g e=>by have:=s1.XD.lt g;rw[hlen] at this;show Oi e this) rfl (λe=>by cases e) rfl (λy f=>r6 f) qf rfl
  (by rw[vt,<-d];change(H.Wd++[[H.Wd.V0]])[H.Wd.V0]?.VP _=_;rw[eK];rfl)
  (λy j k=>.XB (B3 y (λi e=>by subst e;show VN (v8 _) (L7 λq=>k (by show eZ (VN _ (q)) (VN _ (d))))) (λi e=>by subst e;rfl) λh=>yH h (aS rfl) j rfl))
 have hL:(cD H.make.Wd.V0).VP (λi=>V.VG (upA A (.lot H.VR.V0) M.V0 (.lot i)))=(cD H.Wd.V0).VP (λi=>V.VG (A (.lot i)))++[.VG M.V0]:=by
  have e:H.make.Wd.V0=H.Wd.V0+1:=by show aH
  rw[e,jB,bD]
  congr 1
  .apply cL λi hi=>?_;have:=gG.mp hi;rw[r6 (by intro q;clear hi;cases q;show dX [{2,.a,.b},{1,.b,.a}] {5,.n 0,.n 0} [1,1,0,1] [] tt d this)]
  .simp[d,qf]
 rw[hL] at s3;rw[hlen];lk;apply .Xf rfl s3.XD.Wi rfl rfl ?_;lk;apply .lenL (s3.XD.X8 .VR _ rfl) (by rw[cY];simp[HS.make];show Qq hz) ?_;lk;rw[cY];have e:((H.make.VR.V0:V9):Vo)-1=(H.VR.V0:Vo):=by simp[HS.make]
 rw[e];show p _ _ s3 λx m=>r6 m
structure Small (H:HS):Prop where
 n:H.VR.V0<=1000
 Wd:H.Wd.V0=H.VR.V0
 VR:jI H.VR
 lotz:∀(i:V9) l,H.Wd[i]?=V1 l->l.V0<=1000
 XM:H.XM.V0<=16000000
 XJ:H.XJ.V0<=10000000
 XO:H.XO.V0<=10000000
 W0:H.W0.V0<=5000000
 abvn:H.Xy.V0<=1000
 abvz:∀r∈H.Xy,r.2.V0<=1000
def yD {VR:V2 V9} (h:jI VR) (a:V9):VX VR a<=a:=by
 induction a using jD with
 |ind a b=>
  cases z:VR[a]? with
  |V8=>
   have e:VR.Wn a a=a:=by rw[dU,z];rfl
   focus unfold VX
   focus change(if VR.Wn a a=a then a else _)<=a
   rw[Vw e];show aM _
  |V1 p=>
   rw[jg h z];split
   .show aM _
   .have:=h a p z;show aG (b p (Tf [_,_] [] (by assumption) this)) this
def bP {M:WC} {o:O}:(M++[o])[M.V0]?=V1 o:=by show eK
abbrev HS.union (H:HS) (a b:V9):HS:={H with VR:=H.VR.Wb b a,Wd:=H.Wd.Wb a (H.Wd.Wn a []++H.Wd.Wn b []),XO:=H.XO++[.Vj [iV a,iV b]]}
def OH {l:V2 V9} {k v:V9}:XX (l.Wb k v)=(XX l).Wb k (iV v):=by simp[XX]
def Dj {H:HS} {A:Ad} {k:V9} (h:k<H.Wd.V0):((cD H.Wd.V0).VP λi=>V.VG (A (.lot i)))[k]?=V1 (.VG (A (.lot k))):=by simp[h]
def LW (F:dR c.K) (h:W4 c M A H) (S:Small H) {a b:V9} (ha:a<H.VR.V0) (d:b<H.VR.V0)
    (f:VX H.VR a=VX H.VR b->∀M',Y6 c M A H M' A H->P .V8 M')
    (j:VX H.VR a≠VX H.VR b->∀M',Y6 c M A H M' A (H.union (min (VX H.VR a) (VX H.VR b)) (max (VX H.VR a) (VX H.VR b)))->P (.Vj [iV (min (VX H.VR a) (VX H.VR b)),iV (max (VX H.VR a) (VX H.VR b))]) M'):
    aQ c (n+2) (.VG 451) [.VG (A .Y9),iV a,iV b] M P:=by
 have h7:=bJ;have hn:=S.n;have la:=yD S.VR a;have lb:=yD S.VR b;apply .ZC (F.fn 31) rfl [V1 (.VG (A .Y9)),V1 (iV a),V1 (iV b),V8,V8] rfl ?_
 focus unfold sL
 lk;apply⟨⟨_,h.Wi⟩,yM F h S.VR ha hn ⟨⟨_,h.Wi⟩,yM F h S.VR d hn ?_⟩⟩;generalize m:VX H.VR a=o at *;generalize r:VX H.VR b=rb at *;apply aQ.sorted2 bP ?_;have s0:Y6 c M A H (M++[.VF [iV o,iV rb]]++[.VF [V.Vl (gu (o:Vo) rb),V.Vl (gI (o:Vo) rb)]]) A H:=((Y6.Vt h).Yw _).Yw _;apply⟨_,bP,?_⟩;apply kW _ _ rfl ?_;clear r;generalize M++[O.VF [iV o,iV rb]]++[O.VF [V.Vl (gu (o:Vo) rb),V.Vl (gI (o:Vo) rb)]]=s at *;have e1:gu (o:Vo) rb=((gu o rb:V9):Vo):=bY [] (.e V6 (.u (.z (.v 0)) (.z (.v 1))) (.z (.u (.v 0) (.v 1)))) [[0,0,1],[0,0,1],[0,1,1],[1,0,1],[0,1,1],[1,0,1],[0,0,1],[0,0,1]] tt [_,_] [];have e2:gI (o:Vo) rb=((gI o rb:V9):Vo):=bY [] (.e V6 (.w (.z (.v 0)) (.z (.v 1))) (.z (.w (.v 0) (.v 1)))) [[0,0,1],[0,0,1],[1,0,1],[0,1,1],[1,0,1],[0,1,1],[0,0,1],[0,0,1]] tt [_,_] [];rw[e1,e2];lk;clear e2 e1;split
 .rename_i q
  show f (by simp at q;show bY [.e V6 (.z (.u (.v 0) (.v 1))) (.z (.w (.v 0) (.v 1)))] (.e V3 (.v 0) (.v 1)) [[1,0,0,0,1],[1,0,1],[1,1],[1,1],[1,1],[1,1],[1,0,1],[1,0,0,0,1]] tt [_,_] [] q) _ s0
 rename_i q
 have ne:o≠rb:=by clear j f lb;rintro rfl;simp at q
 replace j:=j ne;have hk:gu o rb<H.VR.V0:=bY [.k V3 (.v 0) (.v 1),.l V3 (.v 2) (.v 0)] (.k V3 (.u (.v 3) (.v 2)) (.v 1)) [[1,1,1,1],[0,1,1,1]] tt [_,_,_,_] [] d lb;have hg:gI o rb<H.VR.V0:=bY [.k V3 (.v 0) (.v 1),.k V3 (.v 2) (.v 1),.l V3 (.v 3) (.v 0),.l V3 (.v 4) (.v 2)] (.k V3 (.w (.v 3) (.v 4)) (.v 1)) [[0,1,0,1,0,1],[0,1,1,0,1]] tt [_,_,_,_,_] [] ha d la lb;have hkg:gu o rb≠gI o rb:=bY [.N (.e V3 (.v 0) (.v 1))] (.N (.e V3 (.u (.v 0) (.v 1)) (.w (.v 0) (.v 1)))) [[0,0,0,1,1],[1,0,0,0,1],[0,1,0,0,1],[1,0,0,0,1],[1,0,0,0,1],[0,1,0,0,1],[1,0,0,0,1],[0,0,0,1,1]] tt [_,_] [] ne;generalize gu o rb=k at *;generalize gI o rb=g at *;lk;apply .Xf rfl s0.XD.Wi rfl rfl ?_;lk;apply .Z6 (s0.XD.X8 .VR _ rfl) (qq1 [_] []) (by rw[cY];show bY [.k V3 (.v 0) (.v 1)] (.k V6 (.z (.v 0)) (.z (.v 1))) [[1,1]] tt [_,_] [] hg) (qq2 [_,_] [] hn hg) ?_;lk
 have s1:Y6 c M A H (s.Wb (A .VR) (.VF ((XX H.VR).Wb (g:Vo).Xd (iV k)))) A {H with VR:=H.VR.Wb g k}:=
  s0.upd rfl (VN (λl=>V1 (O.VF l)) OH) λy t=>kM rfl (λ_=>rfl) (λ_=>rfl) (aS rfl) t
 generalize s.Wb (A .VR) (.VF ((XX H.VR).Wb (g:Vo).Xd (iV k)))=M2 at *;have hk':k<H.Wd.V0:=by rw[S.Wd];show hk
 have hg':g<H.Wd.V0:=by rw[S.Wd];show hg
 obtain⟨lk,hlk⟩:∃l,H.Wd[k]?=V1 l:={_,aI hk'};obtain⟨lg,hlg⟩:∃l,H.Wd[g]?=V1 l:={_,aI hg'};have ok:ZA c.w c.VM {H with VR:=H.VR.Wb g k} A (.lot k)=V1 (.VF (XX lk)):=by rw[vt];change H.Wd[k]?.VP _=_;rw[hlk];rfl
 have og:ZA c.w c.VM {H with VR:=H.VR.Wb g k} A (.lot g)=V1 (.VF (XX lg)):=by rw[vt];change H.Wd[g]?.VP _=_;rw[hlg];rfl
 have zk:=S.lotz k lk hlk;have zg:=S.lotz g lg hlg;lk;apply Xp.meth_i ?_;lk;apply .Xf rfl s1.XD.Wi rfl rfl ?_;lk;apply .VF (s1.XD.X8 .Wd _ rfl) (qq1 [_] []) (qq2 [_,_] [] hn hk) (Dj hk') {{_,s1.XD.X8 (.lot k) _ ok},?_};lk;apply .Xf rfl s1.XD.Wi rfl rfl ?_;lk;apply .VF (s1.XD.X8 .Wd _ rfl) (qq1 [_] []) (qq2 [_,_] [] hn hg) (Dj hg') (.Zc (s1.XD.X8 (.lot k) _ ok) (s1.XD.X8 (.lot g) _ og) (by rw[cY,cY];show bY [.l V3 (.v 0) (.n 1000),.l V3 (.v 1) (.n 1000)] (.l V3 (.p (.v 0) (.v 1)) (.n 16777216)) [[1,1,1]] tt [_,_] [] zk zg) ?_);lk
 have s2:Y6 c M A H (M2.Wb (A (.lot k)) (.VF (XX lk++XX lg))) A {H with VR:=H.VR.Wb g k,Wd:=H.Wd.Wb k (lk++lg)}:=
  s1.upd (by rw[mT,ok];rfl) (by rw[vt];change(H.Wd.Wb k (lk++lg))[k]?.VP _=_;rw[bK hk',<-nS];rfl) λy t=>
   B3 y (λi e=>by subst e;show VN (v8 _) (aL λz=>t (by show VN _ (z).Vh))) (λi e=>by subst e;rfl) λh=>OG eB rfl h
 lk;apply .X4 rfl s2.XD.Wi rfl rfl (qQ (s2.XD.X8 .XO _ rfl)) ?_;lk;apply .WX (s2.XD.X8 .XO _ rfl) (by have:=S.XO;simp only;show QI h7 this) ?_;lk;apply j _ ?_
 have hu:H.union k g={H with VR:=H.VR.Wb g k,Wd:=H.Wd.Wb k (lk++lg),XO:=H.XO++[.Vj [iV k,iV g]]}:=by unfold HS.union;rw[dU,dU,hlk,hlg];rfl
 rw[hu];show s2.upd rfl rfl λy t=>kM rfl (λ_=>rfl) (λ_=>rfl) (aS rfl) t
def Lj {ys:V2 V} {l:V2 V9} (h:ys.X7 (XX l)):∃a,ys=XX a/\a.X7 l:=by
 apply aV (ys.VP rD) (zH λy b=>?_) ?_
 .let(k,_,VC):=aK.mp (h.X9.mp b);show{k,VC}
 .have:=h.VP rD;rw[wU] at this;show this
abbrev kJ (VR:V2 V9):V2 V9:=(cD VR.V0).X2 λa=>VR[a]?==V1 a
def vc {VR:V2 V9} {k:V9}:((cD (k+1)).X2 λa=>VR[a]?==V1 a)=((cD k).X2 λa=>VR[a]?==V1 a)++(if VR[k]?==V1 k then [k] else []):=by
 rw[jB,V2.filter_append]
 congr 1
 rw[gY];split<;>rfl
def GX {p:V9->VS} {k:V9}:((cD k).X2 p).V0<=k:=by have:=tT p (cD k);simpa using this
def G4 (F:dR c.K) (h:W4 c M A H) (hz:H.VR.V0<=1000) (p:P (.VG M.V0) (M++[.VF (XX (kJ H.VR))])):aQ c (n+1) (.VG 463) [.VG (A .Y9)] M P:=by
 have h7:=bJ;apply .ZC (F.fn 33) rfl [V1 (.VG (A .Y9)),V8] rfl ?_
 focus unfold qz
 lk;apply⟨VC,?_⟩;lk;apply .Xf rfl h.Wi rfl rfl ?_;lk;apply .lenL (h.X8 .VR _ rfl) (by rw[cY];show RJ [_] [] hz) ?_;lk;apply .Xb (qs _ _ (.range0 (by rw[cY];show PS hz)) (.YB rfl) ?_);rw[cY];apply fk.rangeI (N:=H.VR.V0) (λi ys M'=>M'=M/\ys=XX ((cD i).X2 λa=>H.VR[a]?==V1 a)) (λi ys M' f hi g j=>?_) (λys M' g=>?_) H.VR.V0 0 [] M (qq5) ⟨VC,VC⟩
 .clear p;let(rfl,VC):=g;obtain⟨q,hq⟩:∃q,H.VR[i]?=V1 q:={_,aI hi};apply{by rw[cY];have:=GX (p:=λa=>H.VR[a]?==V1 a) (k:=i);show ir [{0,.a,.n 1000},{2,.b,.n 16777216},{1,.c,.a},{0,.d,.c}] {0,.d,.b} [16777216,16777216,0,999,16777216,16777216] [] tt hz h7 hi this,?_};lk;apply .Xf rfl h.Wi rfl rfl ?_;lk;apply .VF (h.X8 .VR _ rfl) (qq1 [_] []) (qq2 [_,_] [] hz hi) (Df hq) ?_;lk;clear hi;split
  .rename_i e
   apply j _ _ {VC,?_};have:q=i:=by simp at e;show QE [_,_] [] e
   clear e j f;subst this;rw[vc,hq];simp[XX]
  .rename_i e
   apply j _ _ {VC,?_};have:q≠i:=by clear hq;clear j f;rintro rfl;simp at e
   rw[vc,hq];simp[XX,this]
 .clear h;let(rfl,VC):=g;show p
def Gx (F:dR c.K) (h:W4 c M A H) (S:Small H) {a:V9} (ha:a<H.VR.V0) {l:V2 V9} (b:H.Wd[VX H.VR a]?=V1 l) (p:∀ys,ys.X7 l->P (.VG M.V0) (M++[.VF (XX ys)])):aQ c (n+2) (.VG 458) [.VG (A .Y9),iV a] M P:=by
 have hn:=S.n;have la:=yD S.VR a;have hz:=S.lotz _ l b;apply .ZC (F.fn 32) rfl [V1 (.VG (A .Y9)),V1 (iV a)] rfl ?_
 focus unfold qy
 lk;apply .Xf rfl h.Wi rfl rfl ?_;lk;apply .Wg rfl (fm h.Wi) ?_;lk;apply yM F h S.VR ha hn ?_;have hr:VX H.VR a<H.Wd.V0:=by rw[S.Wd];show K1 ha la
 lk;apply .VF (h.X8 .Wd _ rfl) (qq1 [_] []) (bY [.k V3 (.v 0) (.v 1),.l V3 (.v 1) (.n 1000),.l V3 (.v 2) (.v 0)] (.k V6 (.z (.v 2)) (.n 9223372036854775808)) [[1,1,1,1]] tt [_,_,_] [] ha hn la) (Dj hr) ?_;lk;apply .sortedL (h.X8 (.lot (VX H.VR a)) _ (by rw[vt,b];rfl)) (.XB λx d=>?_) (by rw[cY];show PS hz) λys e=>?_
 .let(k,_,VC):=aK.mp d;show{_,VC}
 .let(f,VC,hz):=Lj e;lk;show p f hz
abbrev zE (x:Vm):VS:= !(x==(aX ""))&&x.cps.VD.Z4 λk=> !(Txt.isspace {#[k]})&&(kG (aX "()[]{},:") {#[k]} 0 (aX "()[]{},:").V0 1).WN
def Mq (F:dR c.K) {x:Vm} (a:zE x=V6) (p:P (.WW V6) M):aQ c (n+1) (.VG 79) [.Vn x] M P:=by
 unfold zE at a;simp only[aN,dh,ek] at a;let(h0,b):=a;apply .tidy (.ZC (F.fn 0) rfl [V1 (.Vn x),V8] rfl ?_)
 focus unfold Il
 lk;have h0':(x !=aX "")=V6:=by show VN _ ‹_›
 rw[Vw h0'];lk;apply{VC,?_};lk;apply iJ .Vn (.YB rfl) ?_;apply fk.strI (λ_ ys M'=>ys=[]/\M'=M) (λi k ys M' d e f g=>?_) (λys M' f=>?_) x.cps.VA 0 [] M (qq5) {VC,VC}
 .clear p;let(rfl,VC):=f;let(h,j):=b k (aF (by rw[aZ];show e));apply{dP _,?_};lk;apply .Wg rfl trivial ?_;lk;apply .isspaceS ?_;rw[h];lk;rw[j];show g _ _ {VC,VC}
 .let(rfl,VC):=f;lk;apply{_,by rw[bV (by(rw[aH];show cC _))];show bP,[],bP,VC,{_,by rw[aR],VC,?_}};show p
def Eu:aX "?"={#[63]}:=by decide +kernel
def F9 (F:dR c.K) {x:Vm} (a:zE x=V6) {k:V9} (b:x.cps[0]?=V1 k) (d:k≠63) (p:P .V8 M):aQ c (n+2) (.VG 129) [.VG (A .bank),.Vn x] M P:=by
 apply .ZC (F.fn 7) rfl [V1 (.VG (A .bank)),V1 (.Vn x)] rfl ?_;lk;apply Mq F a ?_;lk;apply .Vn (C4 [] []) (C6 [] []) b ?_;lk;apply ZL (Vz.WO λe=>d ?_) ?_
 .rw[Eu] at e;have:=VN Vm.cps e
  simpa using this
 .lk;show p
def W4.XN (h:W4 c M A H):Ob M (A .bank) 198 [.VG (A .VB),.VG (A .Ys),.VG (A .XK),.VG (A .YI)]:={_,h.X8 .bank _ rfl,h.X8 .bankNs _ rfl}
abbrev Ft (M:WC) (v:V) (ks:V2 V9):Prop:=v=.Vj (XX ks)\/∃a,v=.VG a/\M[a]?=V1 (.VF (XX ks))
def Ft.tuple {v:V} {ks:V2 V9} (h:Ft M v ks) (hz:ks.V0<=1000) (p:P (.Vj (XX ks)) M):aQ c n (.W5 "tuple") [v] M P:=by
 have:=bJ;rcases h with rfl|⟨a,VC,ha⟩
 .show .tupleT p
 .show .tupleL ha (by rw[cY];show K4 hz this) p
def DB (F:dR c.K) (h:W4 c M A H) (hz:H.VB.V0<=1000) (p:P (iV H.VB.V0) M):aQ c (n+1) (.VG 117) [.VG (A .bank)] M P:=by
 apply .ZC (F.fn 5) rfl [V1 (.VG (A .bank))] rfl ?_
 focus unfold x8
 lk;apply .Xf rfl h.XN rfl rfl ?_;lk;apply .lenL (h.X8 .VB _ rfl) (by simp;show K3 hz) ?_;lk
 (rw[aE];assumption)
def BZ {nd:fK} {i:V9} (h:H.VB[i]?=V1 nd):(H.VB.VP iu)[i]?=V1 (iu nd):=by simp[h]
def Lo (F:dR c.K) (h:W4 c M A H) {i:V9} {nd:fK} (hz:H.VB.V0<=1000) (hi:H.VB[i]?=V1 nd) (p:P (.Vn nd.1) M):aQ c (n+1) (.VG 155) [.VG (A .bank),iV i] M P:=by
 letI a:=(aB.mp hi).1;apply .ZC (F.fn 8) rfl [V1 (.VG (A .bank)),V1 (iV i)] rfl ?_
 focus unfold CJ
 lk;apply .Xf rfl h.XN rfl rfl ?_;lk;apply .VF (h.X8 .VB _ rfl) (qq1 [_] []) (qq2 [_,_] [] hz a) (BZ hi) ?_;lk;apply .Vj (C4 [] []) (C6 [] []) rfl ?_;lk;show p
def Dm (F:dR c.K) (h:W4 c M A H) {i:V9} {nd:fK} (hz:H.VB.V0<=1000) (d:nd.2.V0<=1000) (hi:H.VB[i]?=V1 nd) (p:P (.Vj (XX nd.2)) M):aQ c (n+1) (.VG 162) [.VG (A .bank),iV i] M P:=by
 letI e:=bJ;letI f:=(aB.mp hi).1;apply .ZC (F.fn 9) rfl [V1 (.VG (A .bank)),V1 (iV i)] rfl ?_
 focus unfold x9
 lk;apply .Xf rfl h.XN rfl rfl ?_;lk;apply .VF (h.X8 .VB _ rfl) (qq1 [_] []) (qq2 [_,_] [] hz f) (BZ hi) ?_;lk;apply⟨by show di _,by simp[cY];show dX [⟨0,.a,.n 1000⟩,⟨2,.b,.n 16777216⟩] ⟨0,.p .a (.n 1),.b⟩ [16777216,16777216,0,1001] [] tt d e,?_⟩;lk;show p
abbrev HS.taken (H:HS) (nd:fK) (w d:Vo):HS:={H with VB:=H.VB++[nd],ZY:=H.ZY++[(nd,H.VB.V0)],XK:=H.XK++[w],YI:=H.YI++[d]}
abbrev q4 (x:Vm):Prop:=zE x=V6/\∃k,x.cps[0]?=V1 k/\k≠63
def Ea (F:dR c.K) (h:W4 c M A H) {a:V} {nd:fK} {i:V9} (b:H.ZY=H.VB.zipIdx) (d:H.VB.WF) (e:Ft M a nd.2) (hz:H.VB.V0<=1000) (f:nd.2.V0<=10) (hi:H.VB[i]?=V1 nd) (p:P (iV i) M):
    aQ c (n+3) (.VG 122) [.VG (A .bank),.Vn nd.1,a] M P:=by
 have h7:=bJ;have hd:oG (lK H.ZY) (iu nd)=V1 (iV i):=by rw[b,mR,pT d hi];rfl
 apply .ZC (F.fn 6) rfl [V1 (.VG (A .bank)),V1 (.Vn nd.1),V1 a,V8,V8,V8,V8] rfl ?_;lk;apply e.tuple (Oc f) ?_;lk;apply{by simp[cY];show RN f h7,?_};lk;apply .Xf rfl h.XN rfl rfl ?_;lk;apply Sk qV _ xG (h.X8 .Ys _ rfl) sW (jc (nd:=nd)) ?_;apply ifY (VN VK.XZ hd) ?_;lk;apply .Xf rfl h.XN rfl rfl ?_;lk;apply .dictT xG (h.X8 .Ys _ rfl) sW (jc (nd:=nd)) hd ?_;lk;show p
def Eb (F:dR c.K) (h:W4 c M A H) {f:V} {nd:fK} (g:H.ZY=H.VB.zipIdx) (j:Ft M f nd.2) (hz:H.VB.V0<=1000) (m:H.XK.V0=H.VB.V0) (o:H.YI.V0=H.VB.V0) (q:nd.2.V0<=10) (hi:nd∉H.VB) (r:q4 nd.1) (s:∀k∈nd.2,k<H.VB.V0)
    (p:∀M' w d,Y6 c M A H M' A (H.taken nd w d)->P (iV H.VB.V0) M'):
    aQ c (n+3) (.VG 122) [.VG (A .bank),.Vn nd.1,f] M P:=by
 have h7:=bJ;have hd:oG (lK H.ZY) (iu nd)=V8:=by rw[g,mR,kU hi];rfl
 let(t,u,z,B):=r;apply .ZC (F.fn 6) rfl [V1 (.VG (A .bank)),V1 (.Vn nd.1),V1 f,V8,V8,V8,V8] rfl ?_;lk;apply j.tuple (Oc q) ?_;lk;apply{by simp[cY];show RN q h7,?_};lk;apply .Xf rfl h.XN rfl rfl ?_;lk;apply Sk qV _ xG (h.X8 .Ys _ rfl) sW (jc (nd:=nd)) ?_;apply ZL (VN VK.XZ hd) ?_;lk;apply .Wg rfl (fm h.XN) ?_;lk;apply F9 F t z B ?_;lk;apply fq (by simp) (by simp[cY];show RM q h7) ?_;lk;apply sr .Vj ?_;have hdrop:V2.XV 1 ([V.Vn nd.1]++XX nd.2)=XX nd.2:=rfl
 focus rw[hdrop]
 apply jS.tupI (λ_ σ M'=>σ=[V1 (V.VG (A .bank)),V1 (.Vn nd.1),V1 f,V1 (.Vj ([V.Vn nd.1]++XX nd.2)),V8,V8,V8]/\M'=M) (λi v σ M' C hv D E=>?_) (λσ M' D=>?_) (XX nd.2).V0 0 _ M (qq5) {VC,VC}
 .clear p j;let(rfl,VC):=D;let(k,G,VC):=aK.mp (aF hv);have:=s k G;lk
  focus rw[Vs (by show qq1 [_] []:(0:Vo)<=(k:Vo))]
  lk;apply .Xf rfl h.XN rfl rfl ?_;lk;apply .lenL (h.X8 .VB _ rfl) (by simp;show K3 hz) ?_;lk;rw[Vs (by simp;show dX [⟨1,.a,.b⟩] ⟨1,.a,.b⟩ [1,1] [] tt this)];lk;show⟨_,ja rfl,E _ _ ⟨VC,VC⟩⟩
 clear j;let(rfl,VC):=D;apply YN ?_;lk;apply .Xf rfl h.XN rfl rfl ?_;lk;apply .lenL (h.X8 .VB _ rfl) (by simp;show K3 hz) ?_;lk;apply .Xf rfl h.XN rfl rfl ?_;lk;apply .dictT xG (h.X8 .Ys _ rfl) sW (jc (nd:=nd)) (by simp[lK,g];show K4 hz h7) ?_;lk;have hnl:(H.VB.VP iu).V0=H.VB.V0:=by show aE ..
 rw[hnl];have hlk:H.ZY.VY nd=V8:=by rw[g];show kU hi
 letI s1:Y6 c M' A H (M'.Wb (A .Ys) (.WD (mQ (lK H.ZY) (.Vj ([V.Vn nd.1]++XX nd.2)) (.Vl H.VB.V0)))) A {H with ZY:=H.ZY++[(nd,H.VB.V0)]}:=
  (Y6.Vt h).upd rfl (VN (λl=>V1 (O.WD l)) (uA hlk).Vh) λy I=>kM rfl (λ_=>rfl) (λ_=>rfl) (aS rfl) I
 generalize M'.Wb (A .Ys) (.WD (mQ (lK H.ZY) (.Vj ([V.Vn nd.1]++XX nd.2)) (.Vl H.VB.V0)))=J at *;apply .X4 rfl s1.XD.XN rfl rfl (qQ (s1.XD.X8 .VB _ rfl)) ?_;lk;apply .WX (s1.XD.X8 .VB _ rfl) (by rw[hnl];show K4 hz h7) ?_;lk
 letI K:Y6 c M' A H (J.Wb (A .VB) (.VF (H.VB.VP iu++[.Vj ([V.Vn nd.1]++XX nd.2)]))) A {H with ZY:=H.ZY++[(nd,H.VB.V0)],VB:=H.VB++[nd]}:=
  s1.upd rfl (VN (λl=>V1 (O.VF l)) bD) λy I=>kM rfl (λ_=>rfl) (λ_=>rfl) (aS rfl) I
 generalize J.Wb (A .VB) (.VF (H.VB.VP iu++[.Vj ([V.Vn nd.1]++XX nd.2)]))=M2 at *;apply .X4 rfl K.XD.XN rfl rfl (qQ (K.XD.X8 .XK _ rfl)) ?_;lk;apply{VC,?_};lk;apply fq (by simp) (by simp[cY];show RM q h7) ?_;lk;apply iJ .Vj (.YB rfl) ?_
 focus rw[hdrop]
 apply fk.tupI (λi ys M'=>∃L:V2 Vo,ys=L.VP .Vl/\L.V0=i/\M'=M2) (λi v ys M' C hv D E=>?_) (λys M' D=>?_) (XX nd.2).V0 0 [] M2 (qq5) (g6 [] rfl rfl rfl)
 .let(L,VC,VC,VC):=D;let(k,G,VC):=aK.mp (aF hv);have hkl:=s k G;have hlen:=(aB.mp hv).1;rw[cY] at hlen;obtain⟨x,hx⟩:∃x,H.XK[k]?=V1 x:={_,aI (C5 m hkl)};apply{by simp;show S9 q h7 hlen,?_};lk;apply .Xf rfl K.XD.XN rfl rfl ?_;lk;apply .VF (K.XD.X8 .XK _ rfl) (qq1 [_] []) (qq2 [_,_] [] hz hkl) (by simp[hx];rfl) ?_;show E _ _ (g6 (L++[x]) (by simp) (by show aH) rfl)
 let(L,VC,_,VC):=D;lk;apply .sum bP ?_;lk;generalize 1+L.sum=w;have s3:=K.Yw [.VF (L.VP V.Vl)];generalize M'++[O.VF (L.VP V.Vl)]=N at *;apply .WX (s3.XD.X8 .XK _ rfl) (by simp;show Oo hz m h7) ?_
 letI Q:Y6 c _ A H (N.Wb (A .XK) (.VF (H.XK.VP V.Vl++[.Vl w]))) A {H with ZY:=H.ZY++[(nd,H.VB.V0)],VB:=H.VB++[nd],XK:=H.XK++[w]}:=
  s3.upd rfl (VN (λl=>V1 (O.VF l)) bD) λy I=>kM rfl (λ_=>rfl) (λ_=>rfl) (aS rfl) I
 generalize N.Wb (A .XK) (.VF (H.XK.VP V.Vl++[.Vl w]))=M4 at *;lk;apply .X4 rfl Q.XD.XN rfl rfl (qQ (Q.XD.X8 .YI _ rfl)) ?_;lk;apply{VC,?_};lk;apply fq (by simp) (by simp[cY];show RM q h7) ?_;lk;apply iJ .Vj (.YB rfl) ?_
 focus rw[hdrop]
 apply fk.tupI (λi ys M'=>∃L:V2 Vo,ys=L.VP .Vl/\L.V0=i/\M'=M4) (λi v ys M' C hv D E=>?_) (λys M' D=>?_) (XX nd.2).V0 0 [] M4 (qq5) (g6 [] rfl rfl rfl)
 .let(L,VC,VC,VC):=D;let(k,G,VC):=aK.mp (aF hv);have hkl:=s k G;have hlen:=(aB.mp hv).1;rw[cY] at hlen;obtain⟨x,hx⟩:∃x,H.YI[k]?=V1 x:={_,aI (C5 o hkl)};apply{by simp;show S9 q h7 hlen,?_};lk;apply .Xf rfl Q.XD.XN rfl rfl ?_;lk;apply .VF (Q.XD.X8 .YI _ rfl) (qq1 [_] []) (qq2 [_,_] [] hz hkl) (by simp[hx];rfl) ?_;show E _ _ (g6 (L++[x]) (by simp) (by show aH) rfl)
 let(R,VC,S,VC):=D;rw[cY] at S;apply{_,(by rw[bV (by(rw[aH];show cC _))];show bP),_,bP,by simp;show fG [{0,.a,.n 10},{2,.b,.n 16777216},{2,.c,.a}] {0,.p .c (.n 1),.b} [16777216,16777216,0,11,16777216] [] tt q h7 S,?_};letI T:R.VP V.Vl++[V.Vl 0]=(R++[0]).VP V.Vl:=by simp
 rw[T];apply .max bP (by simp) λU=>?_;lk;have s5:=((Q.Yw [.VF (R.VP V.Vl)]).Yw [.VF [V.Vl 0]]).Yw [.VF ((R++[0]).VP V.Vl)];generalize M'++[O.VF (R.VP V.Vl)]++[O.VF [V.Vl 0]]++[.VF ((R++[0]).VP V.Vl)]=M5 at *;generalize 1+U=d;apply .WX (s5.XD.X8 .YI _ rfl) (by simp;show Oo hz o h7) ?_
 have s6:Y6 c _ A H (M5.Wb (A .YI) (.VF (H.YI.VP V.Vl++[.Vl d]))) A (H.taken nd w d):=
  s5.upd rfl (VN (λl=>V1 (O.VF l)) bD) λy I=>kM rfl (λ_=>rfl) (λ_=>rfl) (aS rfl) I
 lk;apply .Xf rfl s6.XD.XN rfl rfl ?_;lk;apply .lenL (s6.XD.X8 .VB _ rfl) (by simp[HS.taken];show Qq hz) ?_;lk;have e:((((H.taken nd w d).VB.VP iu).V0:V9):Vo)-1=(H.VB.V0:Vo):=by simp[HS.taken]
 rw[e];show p _ _ _ s6
def W4.Vq (h:W4 c M A H):Ob M (A .V5) 617 (Aa A):={_,h.X8 .V5 _ rfl,h.X8 .heapNs _ rfl}
def vL (F:dR c.K) (h:W4 c M A H) (hz:H.VB.V0<=1000) (p:P (iV H.VB.V0) M):aQ c (n+2) (.VG 512) [.VG (A .V5)] M P:=by
 apply .ZC (F.fn 35) rfl [V1 (.VG (A .V5))] rfl ?_
 focus unfold xX
 lk;apply .X4 rfl h.Vq rfl rfl (fm h.XN) ?_;lk;show DB F h hz p
def jF (F:dR c.K) (h:W4 c M A H) (b:jI H.VR) {a:V9} (ha:a<H.VR.V0) (hz:H.VR.V0<=1000) (p:P (iV (VX H.VR a)) M):aQ c (n+2) (.VG 541) [.VG (A .V5),iV a] M P:=by
 apply .ZC (F.fn 40) rfl [V1 (.VG (A .V5)),V1 (iV a)] rfl ?_
 focus unfold x6
 lk;apply .X4 rfl h.Vq rfl rfl (fm h.Wi) ?_;lk;show yM F h b ha hz p
def Fe (F:dR c.K) (h:W4 c M A H) (d:jI H.VR) {a b:V9} (ha:a<H.VR.V0) (f:b<H.VR.V0) (hz:H.VR.V0<=1000) (p:P (.WW (decide (VX H.VR a=VX H.VR b))) M):aQ c (n+3) (.VG 548) [.VG (A .V5),iV a,iV b] M P:=by
 apply .ZC (F.fn 41) rfl [V1 (.VG (A .V5)),V1 (iV a),V1 (iV b)] rfl ?_
 focus unfold rM
 lk;apply .Wg rfl (fm h.Vq) ?_;lk;apply jF F h d ha hz ?_;lk;apply .Wg rfl (fm h.Vq) ?_;lk;apply jF F h d f hz ?_;lk
 have e:((VX H.VR a:Vo)==(VX H.VR b:Vo))=decide (VX H.VR a=VX H.VR b):=by rw[oS];simp;show Tj [_,_] []
 rw[e];show p
def A7 (F:dR c.K) (h:W4 c M A H) (hz:H.W0.V0<=1000000) (p:P (.WW (H.W0.WN)) M):aQ c (n+2) (.VG 576) [.VG (A .V5)] M P:=by
 apply .ZC (F.fn 45) rfl [V1 (.VG (A .V5))] rfl ?_
 focus unfold pQ
 lk;apply .Xf rfl h.Vq rfl rfl ?_;lk;apply .lenL (h.X8 .W0 _ rfl) (by rw[cY];show S3 [_] [] hz) ?_;lk
 have e:(((XX H.W0).V0:Vo)==(0:Vo))=H.W0.WN:=by rw[cY];cases H.W0<;>rfl
 rw[e];show p
def EW (F:dR c.K) (h:W4 c M A H) (hz:H.VR.V0<=1000) (p:P (.VG M.V0) (M++[.VF (XX (kJ H.VR))])):aQ c (n+2) (.VG 583) [.VG (A .V5)] M P:=by
 apply .ZC (F.fn 46) rfl [V1 (.VG (A .V5))] rfl ?_
 focus unfold sR
 lk;apply .X4 rfl h.Vq rfl rfl (fm h.Wi) ?_;lk;show G4 F h hz p
def EV (F:dR c.K) (h:W4 c M A H) (S:Small H) {a:V9} (ha:a<H.VR.V0) {l:V2 V9} (b:H.Wd[VX H.VR a]?=V1 l) (p:∀ys,ys.X7 l->P (.VG M.V0) (M++[.VF (XX ys)])):aQ c (n+3) (.VG 590) [.VG (A .V5),iV a] M P:=by
 apply .ZC (F.fn 47) rfl [V1 (.VG (A .V5)),V1 (iV a)] rfl ?_
 focus unfold sP
 lk;apply .X4 rfl h.Vq rfl rfl (fm h.Wi) ?_;lk;apply Gx F h S ha b λys d=>?_;lk;show p ys d
abbrev eW (VR:V2 V9) (nd:fK):fK:=(nd.1,nd.2.VP (VX VR))
def pG {l:V2 V9} {i:V9} {v:V} (h:(XX l)[i]?=V1 v):∃k,l[i]?=V1 k/\v=iV k:=by
 unfold XX at h;rw[bC] at h;cases e:l[i]? with
 |V8=>rw[e] at h;cases h
 |V1 k=>rw[e] at h;cases h;show aV k rfl rfl
def B0:∀{l:V2 V9},jo (XX l)=V6
 |[]=>rfl
 |_::l=>B0 (l:=l)
def zN {nd:fK}:nJ (iu nd)=V6:=B0 (l:=nd.2)
def HY (F:dR c.K) (h:W4 c M A H) (d:jI H.VR) {i:V9} {nd:fK} (hz:H.VR.V0<=1000) (f:H.VB.V0<=1000) (g:nd.2.V0<=10) (j:∀k∈nd.2,k<H.VR.V0) (hi:H.VB[i]?=V1 nd) (p:P (iu (eW H.VR nd)) M):
    aQ c (n+3) (.VG 517) [.VG (A .V5),iV i] M P:=by
 apply aQ.tidy ?_;apply .ZC (F.fn 36) rfl [V1 (.VG (A .V5)),V1 (iV i),V8] rfl ?_
 focus unfold xY
 lk;apply .X4 rfl h.Vq rfl rfl (fm h.XN) ?_;lk;apply Lo F h f hi ?_;lk;apply⟨VC,?_⟩;apply .X4 rfl h.Vq rfl rfl (fm h.XN) ?_;lk;apply Dm F h f (Oc g) hi ?_;apply iJ .Vj (.YB rfl) ?_;apply fk.tupI (λi ys M'=>ys=XX ((nd.2.WU i).VP (VX H.VR))/\M'=M) (λi v ys M' m hv o q=>?_) (λys M' o=>?_) nd.2.V0 0 [] M (by rw[cY];show qq5) ⟨VC,VC⟩
 .clear p;let(rfl,VC):=o;let(k,r,VC):=pG hv;letI s:=j k (aF r);apply{by have:=bJ;rw[cY,aE,dF];show bY [.l V3 (.v 0) (.n 10),.e V3 (.v 1) (.n 16777216)] (.l V3 (.u (.v 2) (.v 0)) (.v 1)) [[1,1,1,0,1],[0,1,1,0,1]] tt [_,_,_] [] g this,?_};lk;apply .Wg rfl (fm h.Vq) ?_;lk;apply jF F h d s hz (q _ _ {?_,VC});rw[cF,r,bD,nS];rfl
 clear h;let(rfl,VC):=o;lk;letI e:nd.2.WU (XX nd.2).V0=nd.2:=by rw[cY];show cV
 rw[e];letI t:=bJ;apply .tupleL bP (by rw[cY,aE];show dX [{0,.a,.n 10},{2,.b,.n 16777216}] {0,.a,.b} [8388608,8388608,0,5] [] tt g t) ?_;lk;apply{by rw[cY,aE];simp;show RN g t,?_};lk;show g6 _ rfl (zN (nd:=eW H.VR nd)) p
def GN {l:V2 fK}:∀x∈l.VP iu,qV x=V6:=λx a=>by let(nd,_,VC):=aK.mp a;show jc
def Cr {ys:V2 V} {l:V2 fK} (h:∀x,x∈ys->x∈l.VP iu):∃a:V2 fK,ys=a.VP iu/\∀z∈a,z∈l:=by
 induction ys with
 |VH=>show aV [] rfl λ_ h=>by cases h
 |V4 y ys b=>
  let(a,e,k):=b λx d=>h x (bN _ d);let(z,hz,VC):=aK.mp (h y cP)
  show aV (z::a) (by rw[e];rfl) λw f=>by
   clear h;rcases aU.mp f with rfl|f
   .show hz
   .show k w f
def zL:∀{l:V2 fK},jo (l.VP iu)=V6
 |[]=>rfl
 |nd::l=>by
  focus change(nJ (iu nd)&&jo (l.VP iu))=V6
  rw[zN,zL (l:=l)];rfl
def EG (F:dR c.K) (h:W4 c M A H) (S:Small H) {a:V9} (ha:a<H.VR.V0) {l:V2 V9} (g:H.Wd[VX H.VR a]?=V1 l) (j:l.V0<=100) (m:H.VB.V0<=1000)
    (o:∀i∈l,∃nd,H.VB[i]?=V1 nd/\nd.2.V0<=10/\∀k∈nd.2,k<H.VR.V0)
    (p:∀ys:V2 fK,(∀x,x∈ys↔∃i nd,i∈l/\H.VB[i]?=V1 nd/\x=eW H.VR nd)->ys.V0<=l.V0->P (.VG M.V0) (M++[.VF (ys.VP iu)])):
    aQ c (n+4) (.VG 595) [.VG (A .V5),iV a] M P:=by
 have h7:=bJ;apply aQ.tidyL ?_;apply .ZC (F.fn 48) rfl [V1 (.VG (A .V5)),V1 (iV a),V8] rfl ?_
 focus unfold rL
 lk;apply⟨VC,?_⟩;apply .Wg rfl (fm h.Vq) ?_;lk;apply EV F h S ha g λr s=>?_;letI h0:=((Y6.Vt h).Yw [.VF (XX r)]).XD;have mem:∀i,i∈r↔i∈l:=λi=>s.X9;have msl:r.V0=l.V0:=s.WZ
 have nodeAt:∀(i:V9) v,(XX r)[i]?=V1 v->∃k nd,r[i]?=V1 k/\v=iV k/\H.VB[k]?=V1 nd/\nd.2.V0<=10/\∀k∈nd.2,k<H.VR.V0:=λi v hv=>by let(k,t,w):=pG hv;let(nd,q):=o k ((mem k).mp (aF t));show qs k nd t w q
 let f:V9->fK:=λk=>eW H.VR (H.VB.Wn k default)
 apply iJ (.VF bP) (.YB rfl) ?_;apply fk.Z6 (xs:=XX r) (λi ys M'=>ys=((r.WU i).VP f).VP iu/\M'=M++[.VF (XX r)]) (λi v ys M' z hv B C=>?_) (λys M' B=>?_) r.V0 0 [] _ (by rw[cY];show qq5) {VC,VC}
 .let(rfl,VC):=B;let(k,nd,t,VC,w,D,E):=nodeAt i v hv;apply fq bP (by rw[aE,aE,dF];show bY [.l V3 (.v 0) (.n 100),.e V3 (.v 1) (.n 16777216),.e V3 (.v 2) (.v 0)] (.l V3 (.u (.v 3) (.v 2)) (.v 1)) [[1,1,1,0,1,1],[0,1,1,0,1,1]] tt [_,_,_,_] [] j h7 msl) ?_;lk;apply .Wg rfl (fm h0.Vq) ?_;lk;apply HY F h0 S.VR S.n m D E w (C _ _ {?_,VC});rw[cF,t,bD,bD]
  focus change _=_++[iu (eW H.VR (H.VB.Wn k default))]
  rw[dU,w];rfl
 let(rfl,VC):=B;apply{bP,?_};rw[cY,cV];apply .setT xG bP GN (by simp;show dX [{0,.a,.n 100},{2,.b,.a}] {0,.b,.n 100} [1,1,1] [] tt j msl) λG I J=>?_;let(ys,VC,K):=Cr λx L=>(I x).mp L;apply .sortedS bP (.Wt (.Wt (.XB {ys.VP λn=>(n.1,n.2.VP λ(k:V9)=>(k:Vo)),by rw[cB];show cL λn _=>by change iu n=ndV _;unfold iu XX ndV;rw[cB];rfl}))) (by simp at J⊢;show fG [{0,.a,.n 100},{2,.b,.a},{0,.c,.b}] {0,.c,.n 1000} [1,1,1,0,1] [] tt j msl J) λN Q=>?_;let(us,VC,R):=Cr (l:=ys) λx L=>Q.X9.mp L;lk;have hp:us.VP iu|>.X7 (ys.VP iu):=Q
 apply O2 _ _ (us.VP iu) (by rw[aR,aR,aR]) rfl (by show ly2) bP zL (p us (λx=>?_) ?_)
 .have t:x∈us↔iu x∈us.VP iu:={λq=>aK.WO (aV x q rfl),λq=>by let(y,K,e):=aK.mp q;rwa[<-Am e]};rw[t,hp.X9,I,cB,aK];constructor
  .rintro⟨k,hk,e⟩;let(nd,T,U,W):=o k ((mem k).mp hk);apply qs k nd ((mem k).mp hk) T ?_;have:=Am e;rw[<-this]
   focus change eW H.VR (H.VB.Wn k default)=_
   rw[dU,T];rfl
  .clear t;rintro⟨k,nd,hk,T,VC⟩;apply aV k ((mem k).WO hk) ?_
   focus change iu (eW H.VR (H.VB.Wn k default))=_
   rw[dU,T];rfl
 .letI:=hp.WZ;simp at this J;show ir [{2,.a,.b},{2,.c,.d},{0,.d,.a}] {0,.c,.b} [1,1,0,1,0,1] [] tt msl this J
def Y6.updE {M':WC} {bF:WC} {a:Ad} {b H':HS} {x:Nm} {o:O} (s:Y6 c bF a b M A H) (e:M'=M.Wb (A x) o) (l:mT c H A x) (d:ZA c.w c.VM H' A x=V1 o) (f:∀y,y≠x->ZA c.w c.VM H' A y=ZA c.w c.VM H A y):Y6 c bF a b M' A H':=by subst e;show s.upd l d f
def aQ.appendE {a:V9} {xs:V2 V} {v:V} (ha:M[a]?=V1 (.VF xs)) (hz:xs.V0<=cE) (p:∀M',M'=M.Wb a (.VF (xs++[v]))->P .V8 M'):aQ c n (.Va "list.append") [.VG a,v] M P:=.WX ha hz (p _ rfl)
def aQ.extendE {a b:V9} {xs ys:V2 V} (ha:M[a]?=V1 (.VF xs)) (d:M[b]?=V1 (.VF ys)) (hz:xs.V0+ys.V0<=2^24) (p:∀M',M'=M.Wb a (.VF (xs++ys))->P .V8 M'):aQ c n (.Va "list.extend") [.VG a,.VG b] M P:=.Zc ha d hz (p _ rfl)
def aQ.popE {a:V9} {xs:V2 V} {v:V} (ha:M[a]?=V1 (.VF (xs++[v]))) (hz:xs.V0<cE) (p:∀M',M'=M.Wb a (.VF xs)->P v M'):aQ c n (.Va "list.pop") [.VG a] M P:=.pop ha hz (p _ rfl)
def uJ.listIE {a:V9} {xs:V2 V} {i:Vo} {v:V} {R:WC->Prop} (ha:M[a]?=V1 (.VF xs)) (h0:0<=i) (hi:i<xs.V0) (b:i<2^63) (p:∀M',M'=M.Wb a (.VF (xs.Wb i.Xd v))->R M'):uJ c n sd (.VG a) (.Vl i) v M R:=.Z6 ha h0 hi b (p _ rfl)
def uJ.dictIE {a:V9} {k:Vo} {y:V} {Vf:V2 (Vo×V)} {R:WC->Prop} (ha:M[a]?=V1 (.WD (fO (kdI c.VM c.w) Vf))) (hz:Vf.V0<=cE) (p:∀M',M'=M.Wb a (.WD (fO (kdI c.VM c.w) (zm Vf k y)))->R M'):uJ c n sd (.VG a) (.Vl k) y M R:=.dictK (kd:=kdI c.VM c.w) ha hz (p _ rfl)
def aQ.popIE {a:V9} {k:Vo} {x:V} {Vf:V2 (Vo×V)} (ha:M[a]?=V1 (.WD (fO (kdI c.VM c.w) Vf))) (hz:Vf.V0<=cE) (b:oZ Vf k=V1 x) (p:∀M',M'=M.Wb a (.WD (fO (kdI c.VM c.w) (Vf.X2 λr=> ! decide (r.1=k))))->P x M'):aQ c n (.Va "dict.pop") [.VG a,.Vl k] M P:=.popK (kd:=kdI c.VM c.w) ha hz b (p _ rfl)
def j8.dictI {a:V9} {k:Vo} {x:V} {Vf:V2 (Vo×V)} (ha:M[a]?=V1 (.WD (fO (kdI c.VM c.w) Vf))) (b:oZ Vf k=V1 x) (p:P x M):j8 c n (.VG a) (.Vl k) M P:=.dictK (kd:=kdI c.VM c.w) ha b p
def uJ.dictTE {q:V->VS} (m:ZG q) {a:V9} {k y:V} {es:V2 (V×V)} {R:WC->Prop} (ha:M[a]?=V1 (.WD es)) (b:∀e∈es,q e.1=V6) (d:q k=V6) (hz:es.V0<=cE) (p:∀M',M'=M.Wb a (.WD (mQ es k y))->R M'):uJ c n sd (.VG a) k y M R:=.dictT m ha b d hz (p _ rfl)
def eu.i {M:WC} {a:V9} {xs:V2 V} {k:V9->V2 V->Prop} (h:M[a]?=V1 (.VF xs)) (p:k a xs):eu M (.VG a) k:={xs,h,p}
def aQ.setdefaultE {q:V->VS} (m:ZG q) {a:V9} {k y:V} {es:V2 (V×V)} (ha:M[a]?=V1 (.WD es)) (b:∀e∈es,q e.1=V6) (d:q k=V6) (hz:es.V0<=cE)
    (f:∀x,oG es k=V1 x->P x M) (g:oG es k=V8->∀M',M'=M.Wb a (.WD (mQ es k y))->P y M'):aQ c n (.Va "dict.setdefault") [.VG a,k,y] M P:=.setdefaultT m ha b d hz f λe=>g e _ rfl
abbrev fD (l:V2 (V9×V2 V9)) (k:V9):VK (V2 V9):=(l.ZS λr=>r.1=k).VP (·.2)
abbrev qY (l:V2 (V9×V2 V9)) (k g:V9):V2 (V9×V2 V9):=
 (l.X2 λr=> ! decide (r.1=g)).VP λr=>if r.1=k then (k,(fD l k).Wn []++(fD l g).Wn []) else r
abbrev HS.told (H:HS) (v:V):HS:={H with XM:=H.XM++[v]}
abbrev HS.Xh (H:HS) (k g:V9) (v:V):HS:=
 {(H.told v).union k g with XJ:=H.XJ++[iV H.XM.V0],W0:=H.W0++(fD H.Xy g).Wn [],Xy:=qY H.Xy k g}
def MN {l:V2 (V9×V2 V9)} {A:Ad} {k:V9}:((l.VP λr=>((r.1:Vo),V.VG (A (.Xy r.1)))).ZS λr=>decide (r.1=(k:Vo))).VP (·.2)=(fD l k).VP λ_=>V.VG (A (.Xy k)):=by
 focus unfold fD
 induction l with
 |VH=>rfl
 |V4 r l a=>
  focus rw[bT,dj,dj]
  by_cases e:r.1=k
  .clear a;rw[e];simp
  .have e':¬((r.1:Vo)=(k:Vo)):=K5 [_,_] [] e;rw[Vk e,Vk e'];show a
def vf {k:V9} {l:V2 V9} (h:fD H.Xy k=V1 l):oZ (jR H A) (k:Vo)=V1 (.VG (A (.Xy k))):=by have:=MN (l:=H.Xy) (A:=A) (k:=k);rw[h] at this;show this
def vv {w VM} {k:V9} {l:V2 V9} (h:fD H.Xy k=V1 l):ZA w VM H A (.Xy k)=V1 (.VF (XX l)):=by
 unfold fD at h
 focus change(H.Xy.ZS λr=>r.1=k).VP _=_
 cases e:H.Xy.ZS λr=>decide (r.1=k) with
 |V8=>rw[e] at h;cases h
 |V1 r=>rw[e] at h;cases h;rfl
def i9 {w VM} {k:V9}:ZA w VM H A (.Xy k)=(fD H.Xy k).VP λl=>.VF (XX l):=by
 focus change(H.Xy.ZS λr=>r.1=k).VP _=_
 focus unfold fD
 cases H.Xy.ZS λr=>decide (r.1=k)<;>rfl
def Ho {l:V2 (V9×V2 V9)} {k g j:V9} (a:k≠g):fD (qY l k g) j=if j=g then V8 else if j=k then (fD l k).VP λx=>x++(fD l g).Wn [] else fD l j:=by
 focus unfold qY
 generalize b:(fD l k).Wn []++(fD l g).Wn []=x
 letI d:∀m:V2 (V9×V2 V9),fD ((m.X2 λr=> ! decide (r.1=g)).VP λr=>if r.1=k then (k,x) else r) j=if j=g then V8 else if j=k then (fD m k).VP λ_=>x else fD m j:=by
  intro m
  focus unfold fD
  clear b l;induction m with
  |VH=>simp
  |V4 r m f=>
   rw[gY];by_cases e:r.1=g
   .rw[Vs e]
    focus simp only[FF,lW,if_false]
    rw[f];by_cases q:j=g
    .simp[q]
    .rw[Vd q,Vd q,dj,dj,Vk (λz=>a (z.Vh.V7 e)),Vk (λz=>q (z.Vh.V7 e))]
   .rw[Vk e]
    focus simp only[uP,if_true,bT]
    focus rw[dj,dj,dj]
    by_cases q:r.1=k
    .rw[Vw q,Vs q];by_cases jk:j=k
     .rw[jk];simp[a,q]
     .rw[Vk (λz=>jk z.Vh),f];simp only[jk,if_false];rw[Vk (λz=>jk (z.Vh.V7 q))]
    .rw[Vd q,Vk q];by_cases jr:r.1=j
     .clear f;rw[<-jr];simp[e,q]
     .rw[Vk jr,f]
 rw[d];clear d;split
 .rfl
 .split
  .subst b;cases fD l k with
   |V8=>rfl
   |V1 y=>rfl
  .rfl
def Rr {l:V2 (V9×V2 V9)} {A:Ad} {k g b:V9} (a:k≠g) (d:(fD l k).XZ):
    zm ((l.VP λr=>((r.1:Vo),V.VG (A (.Xy r.1)))).X2 λr=> ! decide (r.1=(g:Vo))) (k:Vo) (.VG b)=(qY l k g).VP λr=>((r.1:Vo),V.VG (upA A (.Xy k) b (.Xy r.1))):=by
 have e1:((l.VP λr=>((r.1:Vo),V.VG (A (.Xy r.1)))).X2 λr=> ! decide (r.1=(g:Vo)))=(l.X2 λr=> ! decide (r.1=g)).VP λr=>((r.1:Vo),V.VG (A (.Xy r.1))):=by
  rw[V2.filter_map]
  congr 1
  apply yq λr _=>?_
  focus simp only[kF]
  congr 1
  simp;show Tj [_,_] []
 rw[e1]
 focus unfold zm
 have e2:((l.X2 λr=> ! decide (r.1=g)).VP λr=>((r.1:Vo),V.VG (A (.Xy r.1)))).any (λr=>decide (r.1=(k:Vo)))=V6:=by
  let(x,f):=gX.mp d;unfold fD at f;cases e:l.ZS λr=>decide (r.1=k) with
  |V8=>rw[e] at f;cases f
  |V1 r=>
   have m:=V2.mem_of_find?_eq_some e;have t:=Bv e;simp at t;rw[yr,iC];show{r,oQ.WO {m,by rw[Vk (by rw[t];show a)];rfl},by simp[t]}
 rw[Vw e2]
 focus unfold qY
 rw[cB,cB];apply cL λr _=>?_
 focus simp only[kF]
 by_cases q:r.1=k
 .rw[Vw (by show VN _ (q)),Vw q,q,qf]
 .rw[Vd (by show K5 [_,_] [] q),Vd q,r6 (λz=>q (by clear q e2 d a;cases z;rfl))]
def Ej {M:WC} {a:V9} {x y:O} {G:WC} (h:a<M.V0):(M.Wb a x++G).Wb a y=(M++G).Wb a y:=by rw[V2.set_append_left _ _ (by simpa using h),V2.set_append_left _ _ h,V2.set_set]
def Ob.Wb {M:WC} {a b C vs} {o:O} {es} (h:Ob M a C vs) (f:M[b]?=V1 (.WD es)):Ob (M.Wb b o) a C vs:=by
 let(d,g,i):=h;apply{d,?_,?_}
 .rw[aL (λe=>by rw[e] at f;rw[f] at g;cases g)];show g
 .rw[aL (λe=>by rw[e] at f;rw[f] at i;cases i)];show i
def Ob.Ww {M:WC} {a C vs} (h:Ob M a C vs) (G:WC):Ob (M++G) a C vs:=by
 let(d,b,e):=h;apply{d,?_,?_}
 .rw[bV (aB.mp b).1];show b
 .rw[bV (aB.mp e).1];show e
def Ij (F:dR c.K) (h:W4 c M A H) (S:Small H) {a b:V9} {v:V} (ha:a<H.VR.V0) (d:b<H.VR.V0) {f j:V2 V9}
    (m:fD H.Xy (min (VX H.VR a) (VX H.VR b))=V1 f) (o:fD H.Xy (max (VX H.VR a) (VX H.VR b))=V1 j) (s:f.V0<=1000) (t:j.V0<=1000) (B:H.XM.V0<16000000)
    (C:VX H.VR a=VX H.VR b->∀M',Y6 c M A H M' A (H.told (.Vj [iV a,iV b,v]))->P (.WW V3) M')
    (D:VX H.VR a≠VX H.VR b->∀M' A',Y6 c M A H M' A' (H.Xh (min (VX H.VR a) (VX H.VR b)) (max (VX H.VR a) (VX H.VR b)) (.Vj [iV a,iV b,v]))->P (.WW V6) M'):
    aQ c (n+3) (.VG 562) [.VG (A .V5),iV a,iV b,v] M P:=by
 have h7:=bJ;have hez:=S.XM;apply .ZC (F.fn 43) rfl [V1 (.VG (A .V5)),V1 (iV a),V1 (iV b),V1 v,V8,V8,V8] rfl ?_
 focus unfold xZ
 lk;apply .X4 rfl h.Vq rfl rfl (qQ (h.X8 .XM _ rfl)) ?_;lk;apply .appendE (h.X8 .XM _ rfl) (dX [⟨1,.a,.n 16000000⟩,⟨2,.b,.n 16777216⟩] ⟨0,.a,.b⟩ [16777216,16777216,0,15999999] [] tt B h7) λE G=>?_;lk;letI s1:Y6 c M A H E A (H.told (.Vj [iV a,iV b,v])):=(Y6.Vt h).updE G rfl rfl λy I=>kM rfl (λ_=>rfl) (λ_=>rfl) (aS rfl) I;clear G
 have S1:Small (H.told (.Vj [iV a,iV b,v])):=by show{S.n,S.Wd,S.VR,S.lotz,by simp[HS.told];show e9 [{1,.a,.n 16000000}] {0,.a,.n 15999999} [1,1] [] tt B,S.XJ,S.XO,S.W0,S.abvn,S.abvz}
 apply .X4 rfl s1.XD.Vq rfl rfl (fm s1.XD.Wi) ?_;lk;have hkg:VX H.VR a≠VX H.VR b->gu (VX H.VR a) (VX H.VR b)≠gI (VX H.VR a) (VX H.VR b):=bY [] (.M (.N (.e V3 (.v 0) (.v 1))) (.N (.e V3 (.u (.v 0) (.v 1)) (.w (.v 0) (.v 1))))) [[1,0,0,0,1],[1,0,1],[1,1],[1,1],[1,1],[1,1],[1,0,1],[1,0,0,0,1]] tt [_,_] []
 have mk:∀P':dQ,(VX H.VR a=VX H.VR b->∀M',Y6 c E A (H.told (.Vj [iV a,iV b,v])) M' A (H.told (.Vj [iV a,iV b,v]))->P' .V8 M')->
     (VX H.VR a≠VX H.VR b->∀M',Y6 c E A (H.told (.Vj [iV a,iV b,v])) M' A ((H.told (.Vj [iV a,iV b,v])).union (gu (VX H.VR a) (VX H.VR b)) (gI (VX H.VR a) (VX H.VR b)))->P' (.Vj [iV (gu (VX H.VR a) (VX H.VR b)),iV (gI (VX H.VR a) (VX H.VR b))]) M')->
     aQ c (n+2) (.VG 451) [.VG (A .Y9),iV a,iV b] E P':=λP' J L=>LW F s1.XD S1 ha d J L
 generalize gu (VX H.VR a) (VX H.VR b)=k at *;generalize gI (VX H.VR a) (VX H.VR b)=g at *;apply mk _ (λq Q R=>?_) (λq Q R=>?_)
 .lk;apply{VC,ifT ?_};lk;show C q _ (s1.V7 R)
 replace D:=D q;replace hkg:=hkg q;clear mk;have s3:=s1.V7 R;clear R;lk;apply{VC,ifF ?_};lk;apply{VC,?_};lk;apply .X4 rfl s3.XD.Vq rfl rfl (qQ (s3.XD.X8 .XJ _ rfl)) ?_;lk;apply .Xf rfl s3.XD.Vq rfl rfl ?_;lk;apply .lenL (s3.XD.X8 .XM _ rfl) (by simp[HS.union,HS.told];show e9 [{1,.a,.n 16000000}] {1,.p .a (.n 1),.n 9223372036854775808} [1,1] [] tt B) ?_;lk;apply .appendE (s3.XD.X8 .XJ _ rfl) (by have:=S.XJ;change H.XJ.V0<=_;show QI h7 this) λT U=>?_;lk;have ee:V.Vl ((((H.told (.Vj [iV a,iV b,v])).union k g).XM.V0:Vo)-1)=iV H.XM.V0:=by simp[HS.union,HS.told]
 letI W:Y6 c M A H T A {(H.told (.Vj [iV a,iV b,v])).union k g with XJ:=H.XJ++[iV H.XM.V0]}:=
  s3.updE U rfl (by rw[ee];rfl) λy I=>kM rfl (λ_=>rfl) (λ_=>rfl) (aS rfl) I
 clear U;apply .X4 rfl W.XD.Vq rfl rfl (qQ (W.XD.X8 .W0 _ rfl)) ?_;lk;apply .Xf rfl W.XD.Vq rfl rfl ?_;lk;apply .dictI (W.XD.X8 .Yr _ rfl) (vf o) ?_;lk;apply .extendE (W.XD.X8 .W0 _ rfl) (W.XD.X8 (.Xy g) _ (vv o)) (by have:=S.W0;rw[cY,cY];change H.W0.V0+_<=_;show bY [.l V3 (.v 0) (.n 1000),.l V3 (.v 1) (.n 5000000)] (.l V3 (.p (.v 1) (.v 0)) (.n 16777216)) [[1,1,1]] tt [_,_] [] t this) λX Y=>?_;lk
 letI Z:Y6 c M A H X A {(H.told (.Vj [iV a,iV b,v])).union k g with XJ:=H.XJ++[iV H.XM.V0],W0:=H.W0++j}:=
  W.updE Y rfl (by rw[<-nS];rfl) λy I=>kM rfl (λ_=>rfl) (λ_=>rfl) (aS rfl) I
 clear Y;apply .Xf rfl Z.XD.Vq rfl rfl ?_;lk;apply .dictI (Z.XD.X8 .Yr _ rfl) (vf m) ?_;lk;apply .X4 rfl Z.XD.Vq rfl rfl (zx (Z.XD.X8 .Yr _ rfl)) ?_;lk;have hal:(jR H A).V0<=1000:=by unfold jR;rw[aE];show S.abvn
 apply .popIE (Z.XD.X8 .Yr _ rfl) (by change(jR H A).V0<=_;show QD h7 hal) (vf o) λa0 a1=>?_;have ok:=Z.XD.X8 (.Xy k) _ (vv m);have og:=Z.XD.X8 (.Xy g) _ (vv o);have oa:=Z.XD.X8 .Yr _ rfl;have nk:A .Yr≠A (.Xy k):=λe=>by rw[e] at oa;rw[ok] at oa;cases oa
 have ng:A .Yr≠A (.Xy g):=λe=>by rw[e] at oa;rw[og] at oa;cases oa
 lk;have ok':a0[A (.Xy k)]?=V1 (.VF (XX f)):=by rw[a1,aL nk];show ok
 have og':a0[A (.Xy g)]?=V1 (.VF (XX j)):=by rw[a1,aL ng];show og
 apply eu.i ok' (eu.i og' {by rw[cY,cY];show fG [{0,.a,.n 1000},{0,.b,.n 1000},{2,.c,.n 16777216}] {0,.p .a .b,.c} [1048576,1048576,1048576,0,125] [] tt s t h7,?_});lk;have ob:Ob a0 _ _ _:=a1▸Z.XD.Vq.Wb oa;apply .Xf rfl (ob.Ww _) rfl rfl ?_;lk;letI a2:=(aB.mp oa).1;have l5:a0.V0=X.V0:=by show eZ (VN _ (a1)) (eB)
 apply .dictIE (Vf:=(jR H A).X2 λr=> ! decide (r.1=(g:Vo))) (by rw[bV (by show Ez a2 l5),a1,bK a2];rfl) (by have:=tT (λr:Vo×V=> ! decide (r.1=(g:Vo))) (jR H A);show fG [{2,.a,.n 16777216},{0,.b,.n 1000},{0,.c,.b}] {0,.c,.a} [2097152,0,125,2097152,2097152] [] tt h7 hal this) λa3 a4=>?_;lk;rw[a1,Ej a2,eB] at a4;rw[a4];apply D _ (upA A (.Xy k) X.V0) ((Z.Yw _).Zd (x:=.Yr) (z:=.Xy k) (b:=X.V0) bP Z.Wz (λy a5 e=>by have:=Z.XD.lt a5;show Oi e this) rfl (λe=>by cases e) rfl (λy I=>r6 I) qf ?_ ?_ λy a6 a7=>?_)
 .show VN (λl=>V1 (O.WD (fO _ l))) (Rr hkg (by rw[m];rfl)).Vh
 .rw[i9]
  focus change(fD (qY H.Xy k g) k).VP _=_
  rw[Ho hkg,Vd hkg,Vw rfl,m,o,<-nS];rfl
 .apply B3 y (λi e=>?_) (λi e=>?_) λh=>.XB (yH h (x:=.Yr) (aS rfl) a6 (by unfold HS.Xh;rw[o];rfl))
  .subst e;show .XB rfl
  .subst e;rw[i9,i9]
   focus change(fD (qY H.Xy k g) i).VP _=(fD H.Xy i).VP _\/(fD (qY H.Xy k g) i).VP _=_
   rw[Ho hkg];by_cases e:i=g
   .rw[Vw e];show .Wt rfl
   .rw[Vd e,Vd (λq=>a7 (by show VN _ (q)))];show .XB rfl
variable {VR:V2 V9}
def qj (h:jI VR) {r:V9} (e:VR[r]?=V1 r):VX VR r=r:=by show eZ (jg h e) (Vw rfl)
def lN (h:jI VR):∀(a:V9),a<VR.V0->VR[VX VR a]?=V1 (VX VR a):=by
 intro a
 induction a using jD with
 |ind a b=>
  intro l;obtain⟨p,z⟩:∃p,VR[a]?=V1 p:={_,aI l};rw[jg h z];have:=h a p z;split
  .rename_i e;show eZ (z) (VN _ (e))
  .show b p (RW [_,_] [] this (by assumption)) (K1 l this)
def sY (h:jI VR) {a:V9} (l:a<VR.V0):VX VR a<VR.V0:=dW (yD h a) l
def BN (h:jI VR) {a:V9} (l:a<VR.V0):VX VR (VX VR a)=VX VR a:=qj h (lN h a l)
def BO (h:jI VR) {k g:V9} (b:k<g):jI (VR.Wb g k):=λa p e=>by
 rw[qJ] at e;split at e
 .split at e
  .cases e;show bY [.k V3 (.v 0) (.v 1),.e V3 (.v 1) (.v 2)] (.l V3 (.v 0) (.v 2)) [[1,1,1]] tt [_,_,_] [] b (by assumption)
  .cases e
 .show h a p e
def mJ (h:jI VR) {k g:V9} (b:k<g) (c:VR[k]?=V1 k) (d:VR[g]?=V1 g):∀a,a<VR.V0->VX (VR.Wb g k) a=if VX VR a=g then k else VX VR a:=by
 intro a;letI h':=BO h b;letI f:=(aB.mp d).1;have hk':(VR.Wb g k)[k]?=V1 k:=by rw[aL (by show λe=>K2 b e)];show c
 induction a using jD with
 |ind a i=>
  intro l;obtain⟨p,z⟩:∃p,VR[a]?=V1 p:={_,aI l};by_cases ag:a=g
  .clear i;subst ag;have e:(VR.Wb a k)[a]?=V1 k:=bK f;rw[jg h' e,Vd (by show RA [_,_] [] b),qj h' hk',qj h d,Vw rfl]
  .have e:(VR.Wb g k)[a]?=V1 p:=by rw[aL (λq=>ag q.Vh)];show z
   rw[jg h' e,jg h z];have:=h a p z;by_cases pa:p=a
   .rw[Vw pa,Vw pa,Vd ag]
   .rw[Vd pa,Vd pa];show i p (RW [_,_] [] this pa) (K1 l this)
def vn (h:jI VR):jI (VR++[VR.V0]):=λa p e=>by
 rw[fS] at e;split at e
 .show h a p e
 .have:=(aB.mp e).1;simp at this;have q:a-VR.V0=0:=N8 this;rw[q] at e;simp at e;show bY [.N (.k V3 (.v 0) (.v 1)),.e V3 (.v 1) (.v 2)] (.l V3 (.v 2) (.v 0)) [[1,1,0,1]] tt [_,_,_] [] (by assumption) e
def qi (h:jI VR):∀a,a<VR.V0->VX (VR++[VR.V0]) a=VX VR a:=by
 intro a;have h':=vn h
 induction a using jD with
 |ind a b=>
  intro l;obtain⟨p,z⟩:∃p,VR[a]?=V1 p:={_,aI l};have e:(VR++[VR.V0])[a]?=V1 p:=by rw[bV l];show z
  rw[jg h' e,jg h z];have:=h a p z;split
  .rfl
  .show b p (RW [_,_] [] this (by assumption)) (K1 l this)
def tY (h:jI VR):VX (VR++[VR.V0]) VR.V0=VR.V0:=qj (vn h) (by show eK)
def E4 {p q:V9->VS} {g:V9}:∀{l:V2 V9},l.WF->g∈l->p g=V6->q g=V3->(∀a,a≠g->q a=p a)->(l.X2 q).V0+1=(l.X2 p).V0:=λ{l}=>by
 induction l with
 |VH=>show λ_ h _ _ _=>by cases h
 |V4 x l b=>
  intro nd c d f i;rw[dJ] at nd;by_cases e:x=g
  .clear c;subst e;have:l.X2 q=l.X2 p:=yq λa ha=>i a λz=>nd.1 (z▸ha);rw[gY,gY,d,f,this];rfl
  .have b:=b nd.2 ((aU.mp c).Xc λz=>e z.Vh) d f i;rw[gY,gY,i x e];split
   .rw[cW,cW,b]
   .show b
abbrev gO (VR:V2 V9):V9:=(kJ VR).V0
def vD {k g:V9} (b:k≠g) (c:VR[g]?=V1 g):gO (VR.Wb g k)+1=gO VR:=by
 have lg:=(aB.mp c).1
 focus unfold gO kJ
 rw[eB];apply E4 (g:=g) V2.nodup_range (gG.WO lg) (by show VV.WO ‹_›) (by rw[bK lg];show Vd ‹_›) λa ha=>by rw[aL (λq=>ha q.Vh)]
def pH:gO (VR++[VR.V0])=gO VR+1:=by
 unfold gO kJ;rw[aH,jJ,jB,V2.filter_append,aH]
 congr 1
 .congr 1
  apply yq λa ha=>?_;rw[bV (gG.mp ha)]
 .simp
def Ca {r:V9}:r∈kJ VR↔VR[r]?=V1 r:=by
 focus unfold kJ
 rw[oQ,gG];constructor
 .rintro⟨_,h⟩;show Xa ‹_›
 .intro h;show{(aB.mp h).1,by show VV.WO ‹_›}
variable {t e:V9}
structure Wu (t e:V9) (H:HS):Prop where
 n:H.VB.V0<=100
 Xx:H.VR.V0=H.VB.V0
 lotn:H.Wd.V0=H.VB.V0
 wts:H.XK.V0=H.VB.V0
 dps:H.YI.V0=H.VB.V0
 ZY:H.ZY=H.VB.zipIdx
 nodup:H.VB.WF
 VR:jI H.VR
 Yb:∀(i:V9) nd,H.VB[i]?=V1 nd->nd.2.V0<=2/\(∀k∈nd.2,k<i)/\q4 nd.1
 lotz:∀(i:V9) l,H.Wd[i]?=V1 l->l.V0<=100/\∀j∈l,j<H.VB.V0
 lotm:∀(r:V9) l,H.VR[r]?=V1 r->H.Wd[r]?=V1 l->∀i,i<H.VB.V0->(i∈l↔VX H.VR i=r)
 lotd:∀(r:V9) l,H.VR[r]?=V1 r->H.Wd[r]?=V1 l->l.WF
 abvr:∀r:V9,H.VR[r]?=V1 r->∃l,fD H.Xy r=V1 l
 abvm:∀(i:V9) nd k,H.VB[i]?=V1 nd->k∈nd.2->∃l,fD H.Xy (VX H.VR k)=V1 l/\i∈l
 abvl:∀r∈H.Xy,r.1<H.VB.V0/\∀i∈r.2,i<H.VB.V0
 abvk:(H.Xy.VP (·.1)).WF
 abvs:(H.Xy.VP (·.2.V0)).sum<=2*H.VB.V0
 abvn:H.Xy.V0<=H.VB.V0
 wait:∀i∈H.W0,i<H.VB.V0
 knw:∀r∈H.Wp,r.2<H.VB.V0
 Xe:H.W0.V0+200*gO H.VR+H.Wp.V0+e<=201*H.VB.V0
 XM:H.XM.V0+gO H.VR<=H.VB.V0+t
 XJ:H.XJ.V0+gO H.VR<=H.VB.V0
 XO:H.XO.V0+gO H.VR<=H.VB.V0
def zJ:∀{N:V9} {l:V2 V9},l.WF->(∀x∈l,x<N)->l.V0<=N:=λ{N}=>by
 induction N with
 |WM=>
  intro l _ h;cases l with
  |VH=>show aM _
  |V4 x l=>show Vy (h x cP) (e9 [] {3,.a,.n 0} [1] [] tt)
 |Wh N b=>
  intro l nd h
  letI h0:=b (l:=l.erase N) (nd.erase N) λx c=>by
   have h1:=h x (V2.mem_of_mem_erase c);have h2:x≠N:=λq=>by clear h1 h;subst q;show(nd.not_mem_erase) c
   show qq0 [_,_] [] h1 h2
  have:=V2.length_erase (a:=N) (l:=l);split at this
  .rw[this] at h0;show V9.sub_le_iff_le_add.mp h0
  .rw[this] at h0;show V9.le_succ_of_le h0
def sI {l:V2 (V9×V2 V9)} {k:V9} {x:V2 V9} (h:fD l k=V1 x):(k,x)∈l:=by
 unfold fD at h;cases z:l.ZS λr=>decide (r.1=k) with
 |V8=>rw[z] at h;cases h
 |V1 r=>
  rw[z] at h;cases h;have m:=V2.mem_of_find?_eq_some z;have e:=Bv z;simp at e;rw[<-e];show m
def CW {l:V2 (V9×V2 V9)} {r:V9×V2 V9} (h:r∈l):r.2.V0<=(l.VP (·.2.V0)).sum:=by
 induction l with
 |VH=>cases h
 |V4 s l d=>
  focus rw[bT,iB]
  rcases aU.mp h with rfl|h
  .show Ge
  .have:=d h;show fG [{0,.a,.b}] {0,.a,.p .c .b} [1,1] [] tt this
def tG (a:Wu t e H) {k:V9} {x:V2 V9} (h:fD H.Xy k=V1 x):x.V0<=200:=by have:=CW (sI h);have:=a.abvs;have:=a.n;have e:(k,x).2.V0=x.V0:=rfl;show bY [.l V3 (.v 0) (.v 1),.l V3 (.v 1) (.m 2 (.v 2)),.l V3 (.v 2) (.n 100),.e V3 (.v 0) (.v 3)] (.l V3 (.v 3) (.n 200)) [[1,1,1,2,0,1]] tt [_,_,_,_] [] (by assumption) (by assumption) this e
def Wu.small (a:Wu t e H) (b:t<=15000000):Small H where
 n:=by have:=a.n;have:=a.Xx;show S6 [_,_] [] (by assumption) this
 Wd:=by show eZ (a.lotn) (a.Xx).Vh
 VR:=a.VR
 lotz i l h:=by have:=(a.lotz i l h).1;show Ew this
 XM:=by have:=a.XM;have:=a.n;show bY [.l V3 (.v 0) (.n 15000000),.l V3 (.p (.v 1) (.v 2)) (.p (.v 3) (.v 0)),.l V3 (.v 3) (.n 100)] (.l V3 (.v 1) (.n 16000000)) [[1,1,1,1]] tt [_,_,_,_] [] b (by assumption) this
 XJ:=by have:=a.XJ;have:=a.n;show Tu [_,_,_] [] (by assumption) this
 XO:=by have:=a.XO;have:=a.n;show Tu [_,_,_] [] (by assumption) this
 W0:=by have:=a.Xe;have:=a.n;show bY [.l V3 (.p (.p (.p (.v 0) (.m 200 (.v 1))) (.v 2)) (.v 3)) (.m 201 (.v 4)),.l V3 (.v 4) (.n 100)] (.l V3 (.v 0) (.n 5000000)) [[1,1,201]] tt [_,_,_,_,_] [] (by assumption) this
 abvn:=by have:=a.abvn;have:=a.n;show bY [.l V3 (.v 0) (.v 1),.l V3 (.v 1) (.n 100)] (.l V3 (.v 0) (.n 1000)) [[1,1,1]] tt [_,_] [] (by assumption) this
 abvz r h:=by have:=CW h;have:=a.abvs;have:=a.n;show bY [.l V3 (.v 0) (.v 1),.l V3 (.v 1) (.m 2 (.v 2)),.l V3 (.v 2) (.n 100)] (.l V3 (.v 0) (.n 1000)) [[1,1,1,2]] tt [_,_,_] [] (by assumption) (by assumption) this
def HC {l m:V2 (V9×V2 V9)}:((l++m).VP (·.2.V0)).sum=(l.VP (·.2.V0)).sum+(m.VP (·.2.V0)).sum:=by simp
def KC {g:V9} {y:V2 V9}:∀{l:V2 (V9×V2 V9)},(l.VP (·.1)).WF->fD l g=V1 y->((l.X2 λr=> ! decide (r.1=g)).VP (·.2.V0)).sum+y.V0=(l.VP (·.2.V0)).sum:=λ{l}=>by
 induction l with
 |VH=>show λ_ h=>by cases h
 |V4 r l f=>
  intro nd h;rw[bT,dJ] at nd;unfold fD at h;rw[dj] at h;rw[gY];by_cases q:r.1=g
  .rw[Vs q] at h⊢;simp only[iM,iE] at h
   have:l.X2 (λr=> ! decide (r.1=g))=l:=V2.filter_eq_self.WO λs hs=>by have:s.1≠g:=λz=>nd.1 (by rw[q,<-z];show aK.WO (aV s hs rfl));show bne_iff_ne.WO ‹_›
   simp only[FF,lW,if_false,this,bT,iB,h];show dX [] {2,.p .a .b,.p .b .a} [1] [1] tt
  .rw[Vk q] at h⊢;have f:=f nd.2 h;show ir [{2,.p .a .b,.c}] {2,.p (.p .d .a) .b,.p .d .c} [1,1] [1,0,1] tt f
def NT {k:V9} {x y:V2 V9}:∀{l:V2 (V9×V2 V9)},(l.VP (·.1)).WF->(∀z,fD l k=V1 z->z=x)->((l.VP λr=>if r.1=k then (k,y) else r).VP (·.2.V0)).sum<=(l.VP (·.2.V0)).sum+(y.V0-x.V0):=λ{l}=>by
 induction l with
 |VH=>show λ_ h=>dP _
 |V4 r l f=>
  intro nd h;rw[bT,dJ] at nd;unfold fD at h;rw[dj] at h;by_cases q:r.1=k
  .rw[Vs q] at h;have hx:=h _ rfl
   have:(l.VP λr=>if r.1=k then (k,y) else r)=l:=by
    conv=>rhs;rw[<-qI l]
    apply cL λs hs=>?_;have:s.1≠k:=λz=>nd.1 (by rw[q,<-z];show aK.WO (aV s hs rfl));rw[Vd this];rfl
   rw[bT,Vw q,this,bT,bT,iB,iB];rw[<-hx];show bY [] (.l V3 (.p (.v 0) (.v 1)) (.p (.p (.v 2) (.v 1)) (.s (.v 0) (.v 2)))) [[0,1],[1,1]] tt [_,_,_] []
  .rw[Vk q] at h;have f:=f nd.2 h;rw[bT,Vd q,bT,bT,iB,iB];show ir [{0,.a,.p .b .c}] {0,.p .d .a,.p (.p .d .b) .c} [1,1] [] tt f
def Mj {k:V9} {y:V2 V9} {l:V2 (V9×V2 V9)}:(l.VP λr=>if r.1=k then (k,y) else r).VP (·.1)=l.VP (·.1):=by
 rw[cB];apply cL λr _=>?_
 focus simp only[kF]
 split
 .rename_i q;show q.Vh
 .rfl
def J2 {k g:V9} (a:k≠g) {l:V2 (V9×V2 V9)}:fD (l.X2 λr=> ! decide (r.1=g)) k=fD l k:=by
 focus unfold fD
 congr 1
 induction l with
 |VH=>rfl
 |V4 r l b=>
  rw[gY,dj];by_cases q:r.1=g
  .rw[Vs q,Vk (λz=>a (z.Vh.V7 q))];show b
  .rw[Vk q]
   focus simp only[uP,if_true]
   rw[dj,b]
def Ce {g:V9} {l:V2 (V9×V2 V9)}:(l.X2 λr=> ! decide (r.1=g)).VP (·.1)=(l.VP (·.1)).X2 λx=> ! decide (x=g):=by rw[V2.filter_map];rfl
def Sg {k g:V9} {l:V2 (V9×V2 V9)}:(qY l k g).VP (·.1)=(l.VP (·.1)).X2 λx=> ! decide (x=g):=by show eZ (Mj) (Ce)
def SV {k g:V9} {l:V2 (V9×V2 V9)} {x y:V2 V9} (a:k≠g) (nd:(l.VP (·.1)).WF) (b:fD l k=V1 x) (c:fD l g=V1 y):((qY l k g).VP (·.2.V0)).sum<=(l.VP (·.2.V0)).sum:=by
 focus unfold qY
 rw[b,c];have h1:=KC nd c;have h2:=NT (k:=k) (x:=x) (y:=x++y) (l:=l.X2 λr=> ! decide (r.1=g)) (by rw[Ce];show nd.X2 _) (λz hz=>by rw[J2 a,b] at hz;cases hz;rfl);simp only[VK.getD_some,aH] at h2⊢;show bY [.e V3 (.p (.v 0) (.v 1)) (.v 2),.l V3 (.v 3) (.p (.v 0) (.s (.p (.v 4) (.v 1)) (.v 4)))] (.l V3 (.v 3) (.v 2)) [[1,1,0,0,1],[1,1,0,0,1]] tt [_,_,_,_,_] [] h1 h2
variable {v:V} {k g:V9}
def Wu.told (f:Wu t e H):Wu (t+1) e (H.told v):=
 {f with XM:=by have:=f.XM;change(H.XM++[v]).V0+gO H.VR<=H.VB.V0+(t+1);simp;show ir [⟨0,.p .a .b,.p .c .d⟩] ⟨0,.p (.p .a (.n 1)) .b,.p .c (.p .d (.n 1))⟩ [1,1] [] tt this}
def Wu.le {t':V9} (f:Wu t e H) (h:t<=t'):Wu t' e H:={f with XM:=by have:=f.XM;show A4 [{0,.a,.b},{0,.p .c .d,.p .e .a}] {0,.p .c .d,.p .e .b} [1,1,1] [] tt h this}
def yJ (a:Wu t e H) {r:V9} (h:r<H.VB.V0):∃l,H.Wd[r]?=V1 l:={_,aI (by rw[a.lotn];show h)}
def yL {l:V2 (V2 V9)} {r:V9} {x:V2 V9} (h:l[r]?=V1 x):l.Wn r []=x:=by rw[dU,h];rfl
def Wu.Xh (o:Wu t e H) (u:k<g) (w:H.VR[k]?=V1 k) (x:H.VR[g]?=V1 g):Wu t e (H.Xh k g v):=by
 letI y:=(aB.mp w).1;letI A:=(aB.mp x).1;letI B:=o.Xx;let(C,D):=yJ o (r:=k) (Ex y B);let(E,F):=yJ o (r:=g) (Ex A B);let(G,I):=o.abvr k w;let(J,K):=o.abvr g x;have ag2:=tG o K;have ru:=mJ o.VR u w x;have nu:=vD (k:=k) (λe=>qq8 u e) x;have mk:=o.lotm k C w D;have mg:=o.lotm g E x F;letI L:=(o.lotz k C D).2;letI M:=(o.lotz g E F).2
 letI nd:(C++E).WF:=by rw[fL];apply fq (o.lotd k C w D) (o.lotd g E x F) λa ha b N q=>?_;subst q;have P:=(mk a (L a ha)).mp ha;have Q:=(mg a (M a N)).mp N;show fG [{1,.a,.b},{2,.c,.a},{2,.c,.b}] {5,.n 0,.n 0} [1,1,1,0,0,1] [] tt u P Q
 letI R:∀j∈C++E,j<H.VB.V0:=λj S=>by
  rcases aW.mp S with h|h
  .show L j h
  .show M j h
 letI T:(H.Xh k g v).Wd=H.Wd.Wb k (C++E):=by change H.Wd.Wb k (H.Wd.Wn k []++H.Wd.Wn g [])=_;rw[yL D,yL F]
 letI U:(H.Xh k g v).W0=H.W0++J:=by change H.W0++(fD H.Xy g).Wn []=_;rw[K];rfl
 letI W:∀r:V9,(H.VR.Wb g k)[r]?=V1 r->r≠g/\H.VR[r]?=V1 r:=λr h=>by
  rw[qJ] at h;split at h
  .rename_i q
   first
   |(simp at h;show(fG [{1,.a,.b},{2,.b,.c},{2,.a,.c}] {5,.n 0,.n 0} [1,1,1,0,0,1] [] tt u q h).W2)
   |(split at h
     .simp at h;omega
     .cases h)
  .rename_i q;show{λz=>q z.Vh,h}
 letI X:∀j,fD (qY H.Xy k g) j=if j=g then V8 else if j=k then V1 (G++J) else fD H.Xy j:=λj=>by rw[Ho (by show λe=>qq8 u e),I,K];rfl
 apply{o with Xx:=?_,lotn:=?_,VR:=BO o.VR u,lotz:=?_,lotm:=?_,lotd:=?_,abvr:=?_,abvm:=?_,abvl:=?_,abvk:=?_,abvs:=?_,abvn:=?_,wait:=?_,Xe:=?_,XM:=?_,XJ:=?_,XO:=?_}
 .change(H.VR.Wb g k).V0=_;rw[eB];show o.Xx
 .rw[T,eB];show o.lotn
 .intro i l h;rw[T,qJ] at h;split at h
  .split at h
   .cases h;have:=zJ nd R;have:=o.n;show{bY [.l V3 (.v 0) (.v 1),.l V3 (.v 1) (.n 100)] (.l V3 (.v 0) (.n 100)) [[1,1,1]] tt [_,_] [] (by assumption) this,R}
   .cases h
  .show o.lotz i l h
 .intro r l P Q i hi;clear X U nu I G D w;let(Y,Z):=W r P;change _↔VX (H.VR.Wb g k) i=r;rw[ru i (by rw[o.Xx];show hi)];rw[T] at Q;by_cases rk:r=k
  .clear P W T ru;subst rk;rw[bK (by rw[o.lotn];show Ey B y)] at Q;cases Q;rw[aW,mk i hi,mg i hi];split
   .show{λ_=>rfl,λ_=>.Wt ‹_›}
   .show{λh=>h.resolve_right ‹_›,.XB}
  .rw[aL (λq=>rk q.Vh)] at Q;rw[o.lotm r l Z Q i hi];split
   .rename_i q;show{λe=>Vy (e.Vh.V7 q) Y,λe=>Vy e.Vh rk}
   .show I0
 .intro r l P Q;clear mk u;clear X U nu ru I G D w;let(Y,Z):=W r P;rw[T] at Q;by_cases rk:r=k
  .clear P W T;subst rk;rw[bK (by rw[o.lotn];show Ey B y)] at Q;cases Q;show nd
  .rw[aL (λq=>rk q.Vh)] at Q;show o.lotd r l Z Q
 .intro r h;let(Y,Z):=W r h;change ∃l,fD (qY H.Xy k g) r=V1 l;rw[X,Vd Y];split
  .show{_,VC}
  .show o.abvr r Z
 .intro i nd j P Q;have P:H.VB[i]?=V1 nd:=P;let(l,Z,a0):=o.abvm i nd j P Q
  have S:j<H.VB.V0:=by have:=(o.Yb i nd P).2.1 j Q;have:=(aB.mp P).1;show Om [_,_,_] [] (by assumption) this
  change ∃l,fD (qY H.Xy k g) (VX (H.VR.Wb g k) j)=V1 l/\i∈l;rw[ru j (by rw[o.Xx];show S),X];by_cases q:VX H.VR j=g
  .rw[Vw q,Vd (by show RA [_,_] [] u),Vw rfl];rw[q,K] at Z;cases Z;show aV _ rfl (dM _ a0)
  .rw[Vd q,Vd q];split
   .rename_i q2
    rw[q2,I] at Z;cases Z;show aV _ rfl (cU _ a0)
   .show aV l Z a0
 .intro r a1;have a1:r∈qY H.Xy k g:=a1;unfold qY at a1;rw[I,K] at a1;let(s,hs,VC):=aK.mp a1;have hs:=(oQ.mp hs).1;have P:=o.abvl s hs;have Q:=o.abvl _ (sI I);have Z:=o.abvl _ (sI K);change(if s.1=k then (k,G++J) else s).1<H.VB.V0/\∀i∈(if s.1=k then (k,G++J) else s).2,i<H.VB.V0;split
  .apply{Q.1,λi hi=>?_};rcases aW.mp hi with h|h
   .show Q.2 i h
   .show Z.2 i h
  .show P
 .change((qY H.Xy k g).VP (·.1)).WF;rw[Sg];show o.abvk.X2 _
 .show aG (SV (λe=>qq8 u e) o.abvk I K) o.abvs
 .apply aG ?_ o.abvn;change(qY H.Xy k g).V0<=_;unfold qY;rw[aE];show tT _ _
 .intro i hi;rw[U] at hi;rcases aW.mp hi with h|h
  .show o.wait i h
  .show(o.abvl _ (sI K)).2 i h
 .rw[U];change(H.W0++J).V0+200*gO (H.VR.Wb g k)+H.Wp.V0+e<=201*H.VB.V0;have:=o.Xe;rw[aH];show Ut [{0,.a,.n 200},{2,.p .b (.n 1),.c},{0,.p (.p (.p .d (.m 200 .c)) .e) .f,.m 201 .g}] {0,.p (.p (.p (.p .d .a) (.m 200 .b)) .e) .f,.m 201 .g} [1,1,200,0,1] [] tt ag2 nu this
 .change(H.XM++[v]).V0+gO (H.VR.Wb g k)<=H.VB.V0+t;have:=o.XM;simp;show A4 [{2,.p .a (.n 1),.b},{0,.p .c .b,.p .d .e}] {0,.p (.p .c (.n 1)) .a,.p .d .e} [1,1,0,1] [] tt nu this
 .change(H.XJ++[iV H.XM.V0]).V0+gO (H.VR.Wb g k)<=H.VB.V0;have:=o.XJ;simp;show QK nu this
 .change(H.XO++[V.Vj [iV k,iV g]]).V0+gO (H.VR.Wb g k)<=H.VB.V0;have:=o.XO;simp;show QK nu this
abbrev lV (e:V9->Prop) (H:HS):Prop:=∀i nd,H.VB[i]?=V1 nd->e i\/i∈H.W0\/∃m,H.Wp.VY (eW H.VR nd)=V1 m/\VX H.VR m=VX H.VR i
def Wq {l:V2 (fK×V9)} {nd:fK} {m:V9} (h:l.VY nd=V1 m):(nd,m)∈l:=by
 induction l with
 |VH=>cases h
 |V4 r l a=>
  rw[bH] at h;split at h
  .rename_i q
   clear a;simp at q h;subst q h;show cP
  .show bN _ (a h)
def lV.Xh {E:V9->Prop} (a:Wu t e H) (C:lV E H) (b:k<g) (d:H.VR[k]?=V1 k) (f:H.VR[g]?=V1 g):lV E (H.Xh k g v):=by
 intro i nd h;have h:H.VB[i]?=V1 nd:=h;have ru:=mJ a.VR b d f;have li:=(aB.mp h).1;rcases C i nd h with c|c|⟨m,c1,c2⟩
 .show .XB c
 .show .Wt (.XB (cU _ c))
 by_cases q:∃j∈nd.2,VX H.VR j=g
 .let(j,n,o):=q;let(l,p,r):=a.abvm i nd j h n;rw[o] at p;apply .Wt (.XB (dM _ ?_));rw[p];show r
 .have ce:eW (H.VR.Wb g k) nd=eW H.VR nd:=by
    focus unfold eW
    congr 1
    apply cL λj s=>?_;have:=(a.Yb i nd h).2.1 j s;rw[ru j (by rw[a.Xx];show qq4 li this),Vd λz=>q (aV j s z)]
  apply .Wt (.Wt (aV m ?_ ?_))
  .focus change H.Wp.VY (eW (H.VR.Wb g k) nd)=V1 m
   rw[ce];show c1
  .focus change VX (H.VR.Wb g k) m=VX (H.VR.Wb g k) i
   have:=a.knw _ (Wq c1);rw[ru m (by rw[a.Xx];show this),ru i (by rw[a.Xx];show li),c2]
structure Xr (H H':HS):Prop where
 VB:∃l,H'.VB=H.VB++l
 like:∀a b,a<H.VB.V0->b<H.VB.V0->VX H.VR a=VX H.VR b->VX H'.VR a=VX H'.VR b
def Xr.Vt:Xr H H:={{[],by show(cJ _).Vh},λ_ _ _ _ h=>h}
def Xr.ZN (G:Xr H H') {i:V9} {nd:fK} (h:H.VB[i]?=V1 nd):H'.VB[i]?=V1 nd:=by let(l,e):=G.VB;rw[e,bV (aB.mp h).1];show h
def Xr.Wz (G:Xr H H'):H.VB.V0<=H'.VB.V0:=by let(l,e):=G.VB;rw[e,aH];show Ge
def Xr.V7 {c:HS} (G:Xr H H') (d:Xr H' c):Xr H c:=by apply{?_,λa b f i h=>d.like a b (aY f G.Wz) (aY i G.Wz) (G.like a b f i h)};let(l,e):=G.VB;let(m,j):=d.VB;show{l++m,by rw[j,e,aR]}
def Xr.Xh (c:Wu t e H) (d:k<g) (f:H.VR[k]?=V1 k) (i:H.VR[g]?=V1 g):Xr H (H.Xh k g v):=
 ⟨⟨[],by rw[cJ];rfl⟩,λa b j l h=>by
  have ru:=mJ c.VR d f i
  focus change VX (H.VR.Wb g k) a=VX (H.VR.Wb g k) b
  rw[ru a (by rw[c.Xx];show j),ru b (by rw[c.Xx];show l),h]⟩
variable {i:V9}
abbrev HS.noted (H:HS) (nd:fK) (i:V9):HS:={H with Wp:=H.Wp++[(nd,i)]}
abbrev HS.YC (H:HS) (w:V2 V9):HS:={H with W0:=w}
abbrev J7 (H:HS) (i:V9) (H':HS):Prop:=
 ∃nd,H.VB[i]?=V1 nd/\
  ((H.Wp.VY (eW H.VR nd)=V8/\H'=H.noted (eW H.VR nd) i)\/
   ∃m,H.Wp.VY (eW H.VR nd)=V1 m/\
    ((VX H.VR m=VX H.VR i/\H'=H)\/
     (VX H.VR m≠VX H.VR i/\∃v,H'=H.Xh (gu (VX H.VR m) (VX H.VR i)) (gI (VX H.VR m) (VX H.VR i)) v)))
abbrev mu (H:HS):V9:=H.W0.V0+200*gO H.VR
def zT {l:V2 (fK×V9)} {nd x:fK} {i:V9}:(l++[(nd,i)]).VY x=(l.VY x).or (if x=nd then V1 i else V8):=by
 induction l with
 |VH=>
  focus rw[tN,bH]
  by_cases q:x=nd
  .subst q;simp
  .rw[Vz.WO q,Vd q];rfl
 |V4 r l a=>
  focus rw[AE,bH,bH]
  split
  .rfl
  .show a
def Wu.noted (f:Wu t 1 H) {nd:fK} (hi:i<H.VB.V0):Wu t 0 (H.noted nd i):=
 {f with
  knw:=λr j=>by
   rcases aW.mp j with h|h
   .show f.knw r h
   .rw[aC.mp h];show hi
  Xe:=by
   have:=f.Xe
   focus change H.W0.V0+200*gO H.VR+(H.Wp++[(nd,i)]).V0+0<=201*H.VB.V0
   simp;show ir [{0,.p (.p (.p .a (.m 200 .b)) .c) (.n 1),.m 201 .d}] {0,.p (.p .a (.m 200 .b)) (.p .c (.n 1)),.m 201 .d} [1,1] [] tt this}
def Wu.less (f:Wu t 1 H):Wu t 0 H:={f with Xe:=by have:=f.Xe;show ir [{0,.p (.p (.p .a (.m 200 .b)) .c) (.n 1),.m 201 .d}] {0,.p (.p (.p .a (.m 200 .b)) .c) (.n 0),.m 201 .d} [1,1] [] tt this}
def Wu.YC (f:Wu t 0 H) {w:V2 V9} (h:H.W0=w++[i]):Wu t 1 (H.YC w):=
 {f with
  wait:=λj l=>f.wait j (by rw[h];show cU _ l)
  Xe:=by
   have:=f.Xe;rw[h,aH] at this
   focus change w.V0+200*gO H.VR+H.Wp.V0+1<=201*H.VB.V0
   simp at this;show ir [{0,.p (.p (.p .a (.n 1)) (.m 200 .b)) .c,.m 201 .d}] {0,.p (.p (.p .a (.m 200 .b)) .c) (.n 1),.m 201 .d} [1,1] [] tt this}
def lV.YC (C:lV (λ_=>WY) H) {w:V2 V9} (h:H.W0=w++[i]):lV (λj=>j=i) (H.YC w):=λj nd a=>by
 rcases C j nd a with c|c|c
 .show c.W2
 .rw[h] at c;rcases aW.mp c with c|c
  .show .Wt (.XB c)
  .show .XB (aC.mp c)
 .show .Wt (.Wt c)
def ji (a:Wu t e H) {m:V9} (b:m<H.VB.V0) (hi:i<H.VB.V0) (c:VX H.VR m≠VX H.VR i):
    gu (VX H.VR m) (VX H.VR i)<gI (VX H.VR m) (VX H.VR i)/\H.VR[gu (VX H.VR m) (VX H.VR i)]?=V1 (gu (VX H.VR m) (VX H.VR i))/\H.VR[gI (VX H.VR m) (VX H.VR i)]?=V1 (gI (VX H.VR m) (VX H.VR i)):=by
 have h1:=lN a.VR m (by rw[a.Xx];show b);have h2:=lN a.VR i (by rw[a.Xx];show hi);apply fq (bY [.N (.e V3 (.v 0) (.v 1))] (.k V3 (.u (.v 0) (.v 1)) (.w (.v 0) (.v 1))) [[0,0,1,1],[1,0,0,1],[0,1,0,1],[1,0,0,1],[1,0,0,1],[0,1,0,1],[1,0,0,1],[0,0,1,1]] tt [_,_] [] c) ?_ ?_
 .rcases kO (VX H.VR m) (VX H.VR i) with q|q
  .rw[iQ q];show h1
  .rw[nP q];show h2
 .rcases kO (VX H.VR m) (VX H.VR i) with q|q
  .rw[iF q];show h2
  .rw[oW q];show h1
def xK (a:Wu t e H) {m:V9} (b:m<H.VB.V0) (hi:i<H.VB.V0) (c:VX H.VR m≠VX H.VR i):
    VX (H.Xh (gu (VX H.VR m) (VX H.VR i)) (gI (VX H.VR m) (VX H.VR i)) v).VR m=VX (H.Xh (gu (VX H.VR m) (VX H.VR i)) (gI (VX H.VR m) (VX H.VR i)) v).VR i:=by
 let(d,f,h):=ji a b hi c;have ru:=mJ a.VR d f h
 focus change VX (H.VR.Wb _ _) m=VX (H.VR.Wb _ _) i
 rw[ru m (by rw[a.Xx];show b),ru i (by rw[a.Xx];show hi)];rcases kO (VX H.VR m) (VX H.VR i) with q|q
 .rw[iF q,iQ q,Vd c,Vw rfl]
 .rw[oW q,nP q,Vw rfl,Vd (fP c)]
def JA (a:Wu t e H) (b:k<g) (c:H.VR[k]?=V1 k) (d:H.VR[g]?=V1 g):mu (H.Xh k g v)<=mu H:=by
 let(f,h):=a.abvr g d;have:=tG a h;have:=vD (k:=k) (by show λe=>qq8 b e) d
 focus change(H.W0++(fD H.Xy g).Wn []).V0+200*gO (H.VR.Wb g k)<=H.W0.V0+200*gO H.VR
 rw[h,aH];show bY [.l V3 (.v 0) (.n 200),.e V3 (.p (.v 1) (.n 1)) (.v 2)] (.l V3 (.p (.p (.v 3) (.v 0)) (.m 200 (.v 1))) (.p (.v 3) (.m 200 (.v 2)))) [[1,1,200]] tt [_,_,_,_] [] (by assumption) this
def n7 (b:Wu t 1 H) (C:lV (λj=>j=i) H) (L:J7 H i H'):Wu t 0 H'/\lV (λ_=>WY) H'/\Xr H H'/\mu H'<=mu H/\H'.VB=H.VB:=by
 let(nd,hi,h):=L;letI d:=(aB.mp hi).1;rcases h with⟨h1,VC⟩|⟨m,h1,h⟩
 .apply yh (b.noted d) (λj x f=>?_) {{[],by show(cJ _).Vh},λ_ _ _ _ h=>h} (aM _) rfl
  change H.VB[j]?=V1 x at f
  focus change _\/j∈H.W0\/∃m,(H.Wp++[(eW H.VR nd,i)]).VY (eW H.VR x)=V1 m/\VX H.VR m=VX H.VR j
  clear h d;rcases C j x f with c|c|⟨m,c1,c2⟩
  .clear C;subst c;rw[hi] at f;cases f;show .Wt (.Wt (aV j (by rw[zT,h1,Vw rfl];rfl) rfl))
  .show .Wt (.XB c)
  .show .Wt (.Wt (aV m (by rw[zT,c1];rfl) c2))
 letI n:=b.knw _ (Wq h1);rcases h with⟨h2,VC⟩|⟨h2,v,VC⟩
 .apply yh b.less (λj x f=>?_) .Vt (aM _) rfl;clear h d;clear h;rcases C j x f with c|c|c
  .clear C;subst c;rw[hi] at f;cases f;show .Wt (.Wt (aV m h1 h2))
  .show .Wt (.XB c)
  .show .Wt (.Wt c)
 .let(o,p,r):=ji b n d h2;apply yh (b.Xh o p r).less (λj x f=>?_) (Xr.Xh b o p r) (JA b o p r) rfl;have C':lV (λj=>j=i) (H.Xh _ _ v):=C.Xh b o p r;by_cases q:j=i
  .clear C';clear C;subst q
   change H.VB[j]?=V1 x at f
   rw[hi] at f;cases f;have ru:=mJ b.VR o p r;by_cases w:∃a∈nd.2,VX H.VR a=gI (VX H.VR m) (VX H.VR j)
   .let(a,s,u):=w;let(l,y,A):=b.abvm j nd a hi s;rw[u] at y;apply .Wt (.XB (dM _ ?_));rw[y];show A
   .have ce:eW (H.VR.Wb (gI (VX H.VR m) (VX H.VR j)) (gu (VX H.VR m) (VX H.VR j))) nd=eW H.VR nd:=by
      focus unfold eW
      congr 1
      apply cL λa ha=>?_;have:=(b.Yb j nd hi).2.1 a ha;rw[ru a (by rw[b.Xx];show qq4 d this),Vd λz=>w (aV a ha z)]
    apply .Wt (.Wt (aV m ?_ (xK b n d h2)))
    focus change H.Wp.VY (eW (H.VR.Wb _ _) nd)=V1 m
    rw[ce];show h1
  .rcases C' j x f with c|c|c
   .show Vy c q
   .show .Wt (.XB c)
   .show .Wt (.Wt c)
def Wu.kidlt (a:Wu t e H) {i:V9} {nd:fK} (h:H.VB[i]?=V1 nd):nd.2.V0<=10/\∀k∈nd.2,k<H.VR.V0:=by have:=a.Yb i nd h;have:=(aB.mp h).1;have:=a.Xx;show{aG (a.Yb i nd h).1 (aS rfl),λk b=>by have:=(a.Yb i nd h).2.1 k b;show bY [.k V3 (.v 0) (.v 1),.e V3 (.v 2) (.v 1),.k V3 (.v 3) (.v 0)] (.k V3 (.v 3) (.v 2)) [[1,1,0,1,1]] tt [_,_,_,_] [] (by assumption) (by assumption) this}
def Wu.nz (a:Wu t e H):H.VB.V0<=1000:=by have:=a.n;show Ew this
def Wu.pz (a:Wu t e H):H.VR.V0<=1000:=by have:=a.n;have:=a.Xx;show S6 [_,_] [] (by assumption) this
def zU (F:dR c.K) (h:W4 c M A H) (f:Wu t 1 H) (g:t<=15000000) (hi:i<H.VB.V0) (p:∀M' A' H',Y6 c M A H M' A' H'->J7 H i H'->P .V8 M'):
    aQ c (n+4) (.VG 534) [.VG (A .V5),iV i] M P:=by
 have h7:=bJ;have S:=f.small g;have hkn:=f.Xe;have hn:=f.n;letI j:=f.Xx;obtain⟨nd,hnd⟩:∃nd,H.VB[i]?=V1 nd:={_,aI hi};let(k,l):=f.kidlt hnd;apply .ZC (F.fn 39) rfl [V1 (.VG (A .V5)),V1 (iV i),V8] rfl ?_
 focus unfold sQ
 lk;apply .X4 rfl h.Vq rfl rfl (zx (h.X8 .Wp _ rfl)) ?_;lk;apply .Wg rfl (fm h.Vq) ?_;lk;apply HY F h f.VR f.pz f.nz k l hnd ?_;lk;have hil:i<H.VR.V0:=Ez hi j;apply .setdefaultE xG (h.X8 .Wp _ rfl) sW (jc (nd:=eW H.VR nd)) (by unfold lK;rw[aE];show A4 [⟨2,.a,.n 16777216⟩,⟨0,.p (.p (.p .b (.m 200 .c)) .d) (.n 1),.m 201 .e⟩,⟨0,.e,.n 100⟩] ⟨0,.d,.a⟩ [16777216,0,20099,16777216,3372220416] [] tt h7 hkn hn) (λx o=>?_) λo u v=>?_
 .rw[mR] at o;cases w:H.Wp.VY (eW H.VR nd) with
  |V8=>rw[w] at o;cases o
  |V1 m=>
  rw[w] at o;cases o;letI z:m<H.VR.V0:=by rw[j];show f.knw _ (Wq w)
  lk;apply .Wg rfl (fm h.Vq) ?_;lk;apply jF F h f.VR z f.pz ?_;lk;apply .Wg rfl (fm h.Vq) ?_;lk;apply jF F h f.VR hil f.pz ?_;lk;by_cases q:VX H.VR m=VX H.VR i
  .apply ZL (by rw[q];simp) ?_;lk;show p M A H (Y6.Vt h) {nd,hnd,.Wt (aV m w (.XB {q,VC}))}
  .apply ifY (by simp;show K5 [_,_] [] q) ?_;lk;apply .Wg rfl (fm h.Vq) ?_;lk;let(B,C,D):=ji f (Ey j z) hi q;let(E,G):=f.abvr _ C;let(I,J):=f.abvr _ D;have z1:=tG f G;have z2:=tG f J;apply Ij F h S z hil G J (Od z1) (Od z2) (by have:=f.XM;show S8 g hn this) (λr=>Vy r q) λ_ M' A' s=>?_;lk;show p _ _ _ s {nd,hnd,.Wt (aV m w (.Wt {q,_,VC}))}
 .rw[mR] at o
  letI w:H.Wp.VY (eW H.VR nd)=V8:=by
   cases w:H.Wp.VY (eW H.VR nd) with
   |V8=>rfl
   |V1 m=>rw[w] at o;cases o
  letI s1:Y6 c M A H u A (H.noted (eW H.VR nd) i):=(Y6.Vt h).updE v rfl (by rw[uA w];rfl) λy L=>kM rfl (λ_=>rfl) (λ_=>rfl) (aS rfl) L;lk;apply .Wg rfl (fm s1.XD.Vq) ?_;lk;apply jF F s1.XD f.VR hil f.pz ?_;lk;apply .Wg rfl (fm s1.XD.Vq) ?_;lk;apply jF F s1.XD f.VR hil f.pz ?_;lk;apply ZL (by simp) ?_;lk;show p _ _ _ s1 {nd,hnd,.XB {w,VC}}
inductive Settle:HS->HS->Prop where
 |done {H:HS}:H.W0=[]->Settle H H
 |Zt {H H' H'':HS} {i:V9} {w:V2 V9}:H.W0=w++[i]->J7 (H.YC w) i H'->Settle H' H''->Settle H H''
def EX {H:HS} {w:V2 V9}:Xr H (H.YC w):={{[],(cJ _).Vh},λ_ _ _ _ h=>h}
def Ei {H H':HS} (S:Settle H H'):Wu t 0 H->lV (λ_=>WY) H->Wu t 0 H'/\lV (λ_=>WY) H'/\Xr H H'/\H'.VB=H.VB/\H'.W0=[]:=by
 induction S with
 |done a=>show λb C=>yh b C .Vt rfl a
 |Zt a L _ d=>
  intro b C;let(f,g,h,_,j):=n7 (b.YC a) (C.YC a) L;let(k,l,m,o,p):=d f g;show yh k l ((EX.V7 h).V7 m) (o.V7 j) p
def Jc (F:dR c.K) (h:W4 c M A H) (g:Wu t 0 H) (C:lV (λ_=>WY) H) (j:t<=15000000) (p:∀M' A' H',Y6 c M A H M' A' H'->Settle H H'->P .V8 M'):
    aQ c (n+5) (.VG 569) [.VG (A .V5)] M P:=by
 have h7:=bJ;apply .ZC (F.fn 44) rfl [V1 (.VG (A .V5))] rfl ?_;lk;apply Sp.while_i ?_
 suffices X:∀k o r u,mu u<k->Y6 c M A H o r u->Wu t 0 u->lV (λ_=>WY) u->(∀z,Settle u z->Settle H z)->
     oJ c (n+4) (Tp.Ye Wl.gtI (Xp.Vu (VE.Va "len") (Ap.V4 ((Xp.VQ 0).Wv 617 6) Ap.VH)) (Xp.Vl 0)) (Bp.V4 (Sp.Xt (Xp.W3 (Mp.XG 617 534) (Xp.VQ 0) (Ap.V4 (Xp.W3 Mp.pop ((Xp.VQ 0).Wv 617 6) Ap.VH) Ap.VH))) Bp.VH)
      [V1 (.VG (r .V5))] o (AX (Bp.VH.wp c (n+4)) λB _ M'=>P (mE B) M') from
  X (mu H+1) M A H (K6) (Y6.Vt h) g C λ_ x=>x
 intro k
 induction k with
 |WM=>intro _ _ _ q;show(PF q).W2
 |Wh k D=>
  intro o r u E s G I T;have hwz:=G.Xe;have hn1:=G.n;apply .Zt ?_;lk;apply .Xf rfl s.XD.Vq rfl rfl ?_;lk;apply .lenL (s.XD.X8 .W0 _ rfl) (by rw[cY];show bY [.l V3 (.p (.p (.p (.v 0) (.m 200 (.v 1))) (.v 2)) (.n 0)) (.m 201 (.v 3)),.l V3 (.v 3) (.n 100)] (.k V3 (.v 0) (.n 9223372036854775808)) [[1,1,201]] tt [_,_,_,_] [] hwz hn1) ?_;lk;rcases V2.eq_nil_or_concat u.W0 with hw|⟨w,i,hw⟩
  .apply ZL (by rw[hw];rfl) ?_;lk;show p _ _ _ s (T _ (.YS hw))
  .rw[V2.concat_eq_append] at hw;apply ifY (by rw[hw,cY];simp) ?_;lk;apply .Wg rfl (fm s.XD.Vq) ?_;lk;have aw:=s.XD.X8 .W0 _ rfl;apply .X4 rfl s.XD.Vq rfl rfl (qQ aw) ?_;lk;rw[hw,nS] at aw;apply .popE aw (by rw[hw,aH] at hwz;rw[cY];show OP [{2,.a,.n 16777216},{0,.b,.n 100},{0,.p (.p (.p (.p .c .d) (.m 200 .e)) .f) (.n 0),.m 201 .b}] {1,.c,.a} [16777216,0,20101,3372220416,16777216] [] tt h7 hn1 hwz) λJ N=>?_;lk;letI Q:Y6 c M A H J r (u.YC w):=s.updE N rfl rfl λy R=>kM rfl (λ_=>rfl) (λ_=>rfl) (aS rfl) R;have B2:=G.YC hw;have C2:=I.YC hw;apply zU F Q.XD B2 j (by show G.wait i (by rw[hw];show dM _ (.WI _))) λS U W Y L=>?_;lk;let(Z,a0,a1,a2,a3):=n7 B2 C2 L
   have hm:mu (u.YC w)<mu u:=by
    focus change w.V0+200*gO u.VR<u.W0.V0+200*gO u.VR
    rw[hw,aH];simp
   have:=D S U W (ir [{1,.a,.p .b (.n 1)},{0,.c,.d},{1,.d,.a}] {1,.c,.b} [1,1,1,1] [] tt E a2 hm) (Q.V7 Y) Z a0 λz x=>T z (.Zt hw L x);rw[Y.fix .V5 rfl] at this;show this
variable {a b:V9}
abbrev IY (H:HS) (a b:V9) (H':HS):Prop:=
 (VX H.VR a=VX H.VR b/\∃v,H'=H.told v)\/(VX H.VR a≠VX H.VR b/\∃v,H'=H.Xh (gu (VX H.VR a) (VX H.VR b)) (gI (VX H.VR a) (VX H.VR b)) v)
def Gw {E:V9->Prop} (M:IY H a b H') (c:Wu t e H) (C:lV E H) (ha:a<H.VB.V0) (d:b<H.VB.V0):Wu (t+1) e H'/\lV E H'/\Xr H H'/\H'.VB=H.VB/\VX H'.VR a=VX H'.VR b:=by
 rcases M with⟨q,v,VC⟩|⟨q,v,VC⟩
 .show yh c.told C {{[],(cJ _).Vh},λ_ _ _ _ h=>h} rfl q
 .let(f,g,i):=ji c ha d q;show yh ((c.Xh f g i).le (HK)) (C.Xh c f g i) (Xr.Xh c f g i) rfl (xK c ha d q)
abbrev rQ (l:V2 (V9×V2 V9)) (c x:V9):V2 (V9×V2 V9):=l.VP λr=>if r.1=c then (r.1,r.2++[x]) else r
abbrev kY (l:V2 (V9×V2 V9)) (cs:V2 V9) (x:V9):V2 (V9×V2 V9):=cs.foldl (λl c=>rQ l c x) l
abbrev HS.ZB (H:HS) (nd:fK) (w d:Vo) (cs:V2 V9):HS:={(H.taken nd w d).make with Xy:=kY (H.Xy++[(H.VB.V0,[])]) cs H.VB.V0}
def w7 {l:V2 (V9×V2 V9)} {c x j:V9}:fD (rQ l c x) j=(fD l j).VP λy=>if j=c then y++[x] else y:=by
 focus unfold fD rQ
 induction l with
 |VH=>rfl
 |V4 r l d=>
  focus rw[bT,dj,dj]
  have e:(if r.1=c then (r.1,r.2++[x]) else r).1=r.1:=by split<;>rfl
  rw[e];by_cases q:r.1=j
  .rw[Vs q];clear d;subst q
   focus simp only[iM]
   split<;>rfl
  .rw[Vk q];show d
def Cf {l:V2 (V9×V2 V9)} {c x:V9}:(rQ l c x).VP (·.1)=l.VP (·.1):=by
 focus unfold rQ
 rw[cB];apply cL λr _=>?_;simp only[kF];split<;>rfl
def Me {l:V2 (V9×V2 V9)} {c x:V9}:(rQ l c x).V0=l.V0:=by unfold rQ;rw[aE]
def KD {c x:V9}:∀{l:V2 (V9×V2 V9)},(l.VP (·.1)).WF->((rQ l c x).VP (·.2.V0)).sum<=(l.VP (·.2.V0)).sum+1:=λ{l}=>by
 induction l with
 |VH=>show λ_=>dg _
 |V4 r l d=>
  intro nd;rw[bT,dJ] at nd;have d:=d nd.2;unfold rQ at d⊢;by_cases q:r.1=c
  .have:(l.VP λr=>if r.1=c then (r.1,r.2++[x]) else r)=l:=by
     conv=>rhs;rw[<-qI l]
     apply cL λs hs=>?_;have:s.1≠c:=λz=>nd.1 (by rw[q,<-z];show aK.WO (aV s hs rfl));rw[Vd this];rfl
   rw[bT,this,Vw q,bT,bT,iB,iB];simp only[aH,jJ];show dX [] {0,.p (.p .a (.n 1)) .b,.p (.p .a .b) (.n 1)} [1] [] tt
  .rw[bT,Vd q,bT,bT,iB,iB];show fG [{0,.a,.p .b (.n 1)}] {0,.p .c .a,.p (.p .c .b) (.n 1)} [1,1] [] tt d
def LZ {l:V2 (V9×V2 V9)} {c x:V9} {r:V9×V2 V9} (h:r∈rQ l c x):∃s∈l,r.1=s.1/\∀y∈r.2,y=x\/y∈s.2:=by
 let(s,hs,VC):=aK.mp h;apply g6 s hs (by split<;>rfl) λy d=>?_;split at d
 .rcases aW.mp d with h|h
  .show .Wt h
  .show .XB (aC.mp h)
 .show .Wt d
def vW {x N:V9}:∀{cs:V2 V9} {l:V2 (V9×V2 V9)},(l.VP (·.1)).WF->
    ((kY l cs x).VP (·.1)=l.VP (·.1))/\(kY l cs x).V0=l.V0/\((kY l cs x).VP (·.2.V0)).sum<=(l.VP (·.2.V0)).sum+cs.V0/\
    (∀r∈kY l cs x,∃s∈l,r.1=s.1/\∀y∈r.2,y=x\/y∈s.2)/\
    (∀j y,fD l j=V1 y->∃z,fD (kY l cs x) j=V1 z/\(∀u∈y,u∈z)/\(j∈cs->x∈z)):=λ{cs}=>by
 induction cs with
 |VH=>show λ{l} nd=>yh rfl rfl (by show aM _) (λr f=>g6 r f rfl λy g=>.Wt g) λj y h=>(g6 y h (λ_ h=>h) λh=>by cases h)
 |V4 c cs i=>
  intro l nd;let(k,m,o,q,w):=i (l:=rQ l c x) (by rw[Cf];show nd);clear i;have h6:=KD (c:=c) (x:=x) nd;apply yh (k.V7 Cf) (m.V7 Me) ?_ (λr f=>?_) λj y g=>?_
  .rw[cW];change((kY (rQ l c x) cs x).VP (·.2.V0)).sum<=_;show ir [{0,.a,.p .b .c},{0,.b,.p .d (.n 1)}] {0,.a,.p .d (.p .c (.n 1))} [1,1,1] [] tt o h6
  .let(s,hs,A,B):=q r f;let(u,C,D,E):=LZ hs;apply g6 u C (A.V7 D) λy g=>?_;rcases B y g with h|h
   .show .XB h
   .show E y h
  .let(z,F,G,I):=w j (if j=c then y++[x] else y) (by rw[w7,g];rfl);apply g6 z F (λu C=>G u ?_) λJ=>?_
   .split
    .show cU _ C
    .show C
   .rcases aU.mp J with h|h
    .show G x (by rw[Vw h];show dM _ (.WI _))
    .show I h
def jG {l m:V2 (V9×V2 V9)} {j:V9}:fD (l++m) j=(fD l j).or (fD m j):=by unfold fD;rw[V2.find?_append];cases l.ZS λr=>decide (r.1=j)<;>rfl
def w6 {l:V2 (V9×V2 V9)} {j:V9} (h:∀r∈l,r.1≠j):fD l j=V8:=by
 focus unfold fD
 rw[xr.WO λr c=>by simp[h r c]];rfl
def Wu.ZB (f:Wu t 0 H) {nd:fK} {w d:Vo} {cs:V2 V9} (g:H.VB.V0<100) (o:nd∉H.VB) (u:q4 nd.1) (y:nd.2.V0<=2) (A:∀k∈nd.2,k<H.VB.V0)
    (B:cs.V0<=2) (C:∀k∈nd.2,VX H.VR k∈cs):Wu t 1 (H.ZB nd w d cs):=by
 letI D:=f.Xx
 letI E:((H.Xy++[(H.VB.V0,([]:V2 V9))]).VP (·.1)).WF:=by rw[bD,fL];apply fq f.abvk (by show W1 rfl) λa ha b F q=>?_;let(r,G,VC):=aK.mp ha;letI:=(f.abvl r G).1;simp at F;show S5 [_,_,_] [] q this F
 let(I,J,K,L,M):=vW (N:=0) (cs:=cs) (x:=H.VB.V0) E;letI P:(H.ZB nd w d cs).VB.V0=H.VB.V0+1:=by change(H.VB++[nd]).V0=_;show aH
 letI Q:∀(i:V9) x,(H.VB++[nd])[i]?=V1 x->H.VB[i]?=V1 x\/(i=H.VB.V0/\x=nd):=λi x h=>by
  rw[fS] at h;split at h
  .show .XB h
  .rename_i q
   letI:=(aB.mp h).1;simp at this;have e:i-H.VB.V0=0:=N8 this;rw[e] at h;simp at h;show .Wt {Ox [_,_] [] q this,h.Vh}
 letI R:∀a,a<H.VB.V0->VX (H.VR++[H.VR.V0]) a=VX H.VR a:=λa h=>qi f.VR a (by rw[f.Xx];show h);have rn:VX (H.VR++[H.VR.V0]) H.VB.V0=H.VB.V0:=by rw[<-D];show tY f.VR
 letI S:∀r:V9,(H.VR++[H.VR.V0])[r]?=V1 r->H.VR[r]?=V1 r\/r=H.VB.V0:=λr h=>by
  rw[fS] at h;split at h
  .show .XB h
  .have:=(aB.mp h).1;simp at this;show .Wt (TG [_,_,_] [] D (by assumption) this)
 have plt:∀r:V9,H.VR[r]?=V1 r->r<H.VB.V0:=λr h=>by letI:=(aB.mp h).1;show Ey D this
 have rlt:∀i,i<H.VB.V0->VX H.VR i<H.VB.V0:=λi hi=>by have:=sY f.VR (a:=i) (C5 D hi);show Ey D this
 letI T:∀(r:V9) l,(H.Wd++[[H.Wd.V0]])[r]?=V1 l->H.Wd[r]?=V1 l\/(r=H.VB.V0/\l=[H.VB.V0]):=λr l h=>by
  rw[fS] at h;split at h
  .show .XB h
  .letI:=(aB.mp h).1;simp at this;have ln:=f.lotn;have e:r-H.Wd.V0=0:=N8 this;rw[e] at h;simp at h;show .Wt {bY [.N (.k V3 (.v 0) (.v 1)),.e V3 (.s (.v 0) (.v 1)) (.n 0),.e V3 (.v 1) (.v 2)] (.e V3 (.v 0) (.v 2)) [[1,1,0,0,0,0,1],[1,1,0,0,0,0,1],[1,0,0,1,0,1],[1,0,1,0,0,1]] tt [_,_,_] [] (by assumption) this ln,by rw[<-h,ln]}
 letI U:∀(r:V9) l,H.Wd[r]?=V1 l->r<H.VB.V0:=λr l h=>by letI:=(aB.mp h).1;have:=f.lotn;show RS [_,_,_] [] (by assumption) this
 show{
  n:=by rw[P];show e9 [⟨1,.a,.n 100⟩] ⟨0,.p .a (.n 1),.n 100⟩ [1,1] [] tt g
  Xx:=by rw[P];change(H.VR++[H.VR.V0]).V0=_;simp[D]
  lotn:=by rw[P];change(H.Wd++[[H.Wd.V0]]).V0=_;simp[f.lotn]
  wts:=by rw[P];change(H.XK++[w]).V0=_;simp[f.wts]
  dps:=by rw[P];change(H.YI++[d]).V0=_;simp[f.dps]
  ZY:=by change H.ZY++[(nd,H.VB.V0)]=(H.VB++[nd]).zipIdx;rw[zipIdx_append,f.ZY]
  nodup:=by
   focus change(H.VB++[nd]).WF
   rw[fL];show fq f.nodup (by show dJ.WO {fY,j5}) λa ha b F q=>o (by rw[<-aC.mp F,<-q];show ha)
  VR:=vn f.VR
  Yb:=λi x h=>by
   clear P C o;rcases Q i x h with h|⟨VC,VC⟩
   .show f.Yb i x h
   .show fq y A u
  lotz:=λi l h=>by
   rw[P];rcases T i l h with h|⟨VC,VC⟩
   .have:=f.lotz i l h;show{this.1,λj W=>by have:=this.2 j W;show K0 this}
   .show{by show di _,λj W=>by rw[aC.mp W];show K6}
  lotm:=λr l X Y i hi=>by
   rw[P] at hi
   focus change i∈l↔VX (H.VR++[H.VR.V0]) i=r
   rcases T r l Y with Y|⟨VC,VC⟩
   .have lr:=U r l Y;rcases S r X with X|X
    .by_cases q:i=H.VB.V0
     .clear hi;subst q;rw[rn];show{λh=>by have:=(f.lotz r l Y).2 _ h;show bY [.k V3 (.v 0) (.v 0)] (.e V3 (.v 0) (.v 1)) [[0,1],[0,1]] tt [_,_] [] this,λh=>(K2 lr h).W2}
     .rw[R i (qq0 [_,_] [] hi q)];show f.lotm r l X Y i (qq0 [_,_] [] hi q)
    .show(qq8 lr X).W2
   .rw[aC];by_cases q:i=H.VB.V0
    .clear hi;subst q;show{λ_=>rn,λ_=>rfl}
    .rw[R i (qq0 [_,_] [] hi q)];letI:=rlt i (qq0 [_,_] [] hi q);show{λh=>Vy h q,λh=>bY [.k V3 (.v 0) (.v 1),.e V3 (.v 0) (.v 1)] (.e V3 (.v 2) (.v 1)) [[0,1,0,1],[0,1,0,1]] tt [_,_,_] [] this h}
  lotd:=λr l X Y=>by
   rcases T r l Y with Y|⟨VC,VC⟩
   .have lr:=U r l Y;rcases S r X with X|X
    .show f.lotd r l X Y
    .show(qq8 lr X).W2
   .show W1 rfl
  abvr:=λr h=>by
   rcases S r h with h|rfl
   .let(l,Z):=f.abvr r h;let(z,a0,_):=M r l (by rw[jG,Z];rfl);show{z,a0}
   .let(z,a0,_):=M H.VB.V0 [] (by rw[jG,w6 (λr G=>by have:=(f.abvl r G).1;show λe=>qq8 this e)];simp[fD]);show{z,a0}
  abvm:=λi x k X Y=>by
   focus change ∃l,fD (kY _ _ _) (VX (H.VR++[H.VR.V0]) k)=V1 l/\i∈l
   clear y u;clear P o;rcases Q i x X with X|⟨VC,VC⟩
   .letI a1:=(aB.mp X).1;have:=(f.Yb i x X).2.1 k Y;let(l,a2,a3):=f.abvm i x k X Y;rw[R k (qq4 a1 this)];let(z,a0,a4,_):=M _ l (by rw[jG,a2];rfl);show aV z a0 (a4 i a3)
   .have hk':=A k Y;rw[R k hk'];let(l,Z):=f.abvr _ (lN f.VR k (C5 D hk'));let(z,a0,_,a5):=M _ l (by rw[jG,Z];rfl);show aV z a0 (a5 (C k Y))
  abvl:=λr G=>by
   rw[P];let(s,hs,a6,a7):=L r G;rcases aW.mp hs with hs|hs
   .have:=f.abvl s hs;apply{fG [{2,.a,.b},{1,.b,.c}] {1,.a,.p .c (.n 1)} [1,1,0,1] [] tt a6 this.1,λi hi=>?_};rcases a7 i hi with h|h
    .show Qw [_,_] [] h
    .have:=this.2 i h;show Qv [_,_] [] this
   .rw[aC.mp hs] at a6 a7;apply{by simp at a6;show dX [{2,.a,.b}] {1,.a,.p .b (.n 1)} [1,1] [] tt a6,λi hi=>?_};rcases a7 i hi with h|h
    .show Qw [_,_] [] h
    .cases h
  abvk:=by
   focus change((kY _ _ _).VP (·.1)).WF
   rw[I];show E
  abvs:=by
   rw[P];have:=f.abvs;rw[HC] at K
   focus change((kY _ _ _).VP (·.2.V0)).sum<=_
   simp at K this⊢;show ir [{0,.a,.n 2},{0,.b,.m 2 .c},{0,.d,.p .b .a}] {0,.d,.m 2 (.p .c (.n 1))} [1,1,1,1] [] tt B this K
  abvn:=by
   rw[P];have:=f.abvn
   focus change(kY _ _ _).V0<=_
   rw[J,aH];simp;show Jm this
  wait:=λi hi=>by rw[P];have:=f.wait i hi;show K0 this
  knw:=λr G=>by rw[P];have:=f.knw r G;show K0 this
  Xe:=by
   rw[P];have:=f.Xe
   focus change H.W0.V0+200*gO (H.VR++[H.VR.V0])+H.Wp.V0+1<=_
   rw[pH];show ir [{0,.p (.p (.p .a (.m 200 .b)) .c) (.n 0),.m 201 .d}] {0,.p (.p (.p .a (.m 200 (.p .b (.n 1)))) .c) (.n 1),.m 201 (.p .d (.n 1))} [1,1] [] tt this
  XM:=by
   rw[P];have:=f.XM
   focus change H.XM.V0+gO (H.VR++[H.VR.V0])<=_
   rw[pH];show ir [{0,.p .a .b,.p .c .d}] {0,.p .a (.p .b (.n 1)),.p (.p .c (.n 1)) .d} [1,1] [] tt this
  XJ:=by
   rw[P];have:=f.XJ
   focus change H.XJ.V0+gO (H.VR++[H.VR.V0])<=_
   rw[pH];show Qp this
  XO:=by
   rw[P];have:=f.XO
   focus change H.XO.V0+gO (H.VR++[H.VR.V0])<=_
   rw[pH];show Qp this}
def lV.ZB (f:Wu t 0 H) (C:lV (λ_=>WY) H) {nd:fK} {w d:Vo} {cs:V2 V9}:lV (λj=>j=H.VB.V0) (H.ZB nd w d cs):=λi x h=>by
 change (H.VB++[nd])[i]?=V1 x at h
 have rm:∀a,a<H.VB.V0->VX (H.VR++[H.VR.V0]) a=VX H.VR a:=λa h=>qi f.VR a (by rw[f.Xx];show h);rw[fS] at h;split at h
 .rename_i li
  letI g:eW (H.VR++[H.VR.V0]) x=eW H.VR x:=by
   focus unfold eW
   congr 1
   apply cL λk l=>?_;have:=(f.Yb i x h).2.1 k l;show rm k (qq4 li this)
  rcases C i x h with c|c|⟨m,c1,c2⟩
  .show c.W2
  .show .Wt (.XB c)
  .apply .Wt (.Wt {m,?_,?_})
   .focus change H.Wp.VY (eW (H.VR++[H.VR.V0]) x)=V1 m
    rw[g];show c1
   .change VX (H.VR++[H.VR.V0]) m=VX (H.VR++[H.VR.V0]) i;have:=f.knw _ (Wq c1);rw[rm m this,rm i li,c2]
 .have:=(aB.mp h).1;simp at this;show .XB (tS (V9.sub_eq_zero_iff_le.mp this) (iI.mp ‹¬i<H.VB.V0›))
def Xr.ZB (c:Wu t e H) {nd:fK} {w d:Vo} {cs:V2 V9}:Xr H (H.ZB nd w d cs):=
 ⟨⟨[nd],VC⟩,λa b f g h=>by
  have rm:∀a,a<H.VB.V0->VX (H.VR++[H.VR.V0]) a=VX H.VR a:=λa h=>qi c.VR a (by rw[c.Xx];show h);change VX (H.VR++[H.VR.V0]) a=VX (H.VR++[H.VR.V0]) b;rw[rm a f,rm b g,h]⟩
def Cm (F:dR c.K) (h:W4 c M A H) (d:Wu t e H) (f:t<=15000000) {a b:V9} {v:V} (ha:a<H.VB.V0) (g:b<H.VB.V0) (p:∀M' A' H' r,Y6 c M A H M' A' H'->IY H a b H'->P (.WW r) M'):
    aQ c (n+4) (.VG 555) [.VG (A .V5),iV a,iV b,v] M P:=by
 have pn:=d.Xx;have hn:=d.n;have S:=d.small f;have la:a<H.VR.V0:=Ez ha pn;have lb:b<H.VR.V0:=Ez g pn
 let(j,k):=d.abvr (gu (VX H.VR a) (VX H.VR b)) (by
  rcases kO (VX H.VR a) (VX H.VR b) with q|q
  .rw[iQ q];show lN d.VR a la
  .rw[nP q];show lN d.VR b lb)
 let(l,m):=d.abvr (gI (VX H.VR a) (VX H.VR b)) (by
  rcases kO (VX H.VR a) (VX H.VR b) with q|q
  .rw[iF q];show lN d.VR b lb
  .rw[oW q];show lN d.VR a la)
 have z1:=tG d k;have z2:=tG d m;apply .ZC (F.fn 42) rfl [V1 (.VG (A .V5)),V1 (iV a),V1 (iV b),V1 v] rfl ?_
 focus unfold we
 lk;apply .Wg rfl (fm h.Vq) ?_;lk;apply Ij F h S la lb k m (Od z1) (Od z2) (by have:=d.XM;show S8 f hn this) (λq M' s=>?_) λq M' A' s=>?_
 .lk;show p _ _ _ _ s (.XB {q,_,VC})
 .lk;show p _ _ _ _ s (.Wt {q,_,VC})
abbrev xu (c:Cx) (M:WC) (A:Ad) (H:HS) (v:V) (ks:V2 V9):Prop:=v=.Vj (XX ks)\/∃a,v=.VG a/\M[a]?=V1 (.VF (XX ks))/\∀x,mT c H A x->A x≠a
def xu.Yb {v:V} {ks:V2 V9} (h:xu c M A H v ks):Ft M v ks:=by
 rcases h with h|⟨a,h1,h2,_⟩
 .show .XB h
 .show .Wt (aV a h1 h2)
def xu.YF {M':WC} {A':Ad} {H':HS} {v:V} {ks:V2 V9} (h:xu c M A H v ks) (s:Y6 c M A H M' A' H'):xu c M' A' H' v ks:=by
 rcases h with h|⟨a,h1,h2,h3⟩
 .show .XB h
 .show .Wt (g6 a h1 (s.ZN h3 h2) (s.Zv (aB.mp h2).1 h3))
def Ft.YQ {v:V} {ks:V2 V9} {b:Xp} {j:V9} {σ:YY} {C:V2 V->WC->Prop} (h:Ft M v ks) (f:V9->V) (d:ks.V0<=1000)
    (WL:∀k (ys:V2 V) (g:V2 V->WC->Prop),k∈ks->g (ys++[f k]) M->CC c n b (.Ws j) .VH (iV k) ys σ M g) (XR:C (ks.VP f) M):
    ∃k m,iz c n v M k m/\qA c n k m/\fk c n b (.Ws j) .VH k [] σ m C:=by
 have h7:=bJ;letI o:∀(i:V9),((ks.WU i).VP f).V0<=cE:=λi=>by rw[aE,dF];show bY [.l V3 (.v 0) (.n 1000),.e V3 (.v 1) (.n 16777216)] (.l V3 (.u (.v 2) (.v 0)) (.v 1)) [[1,1,1,0,1],[0,1,1,0,1]] tt [_,_,_] [] d h7
 letI p:∀(i k:V9),ks[i]?=V1 k->(ks.WU (i+1)).VP f=(ks.WU i).VP f++[f k]:=λi k h=>by rw[cF,h,bD];rfl
 letI q:ks.WU (XX ks).V0=ks:=by rw[cY];show cV
 rcases h with rfl|⟨a,VC,ha⟩
 .apply iJ .Vj (.YB rfl) (fk.tupI (λi ys M'=>ys=(ks.WU i).VP f/\M'=M) (λi v ys M' g hv r s=>?_) (λys M' r=>?_) ks.V0 0 [] M (by rw[cY];show qq5) {VC,VC})
  .clear h XR C;let(rfl,VC):=r;let(k,w,VC):=pG hv;show{o i,WL k _ g (aF w) (s _ _ {(p i k w).Vh,VC})}
  .clear WL σ j b;clear h;let(rfl,VC):=r;rw[q];show XR
 .apply iJ (.VF ha) (.YB rfl) (fk.Z6 (xs:=XX ks) (λi ys M'=>ys=(ks.WU i).VP f/\M'=M) (λi v ys M' g hv r s=>?_) (λys M' r=>?_) ks.V0 0 [] M (by rw[cY];show qq5) {VC,VC})
  .clear XR C;clear h;let(rfl,VC):=r;let(k,w,VC):=pG hv;show fq ha (o i) (WL k _ g (aF w) (s _ _ {(p i k w).Vh,VC}))
  .clear WL σ j b;let(rfl,VC):=r;apply{ha,?_};rw[q];show XR
abbrev Add (H:HS) (nd:fK) (H':HS) (r:V9):Prop:=
 (H'=H/\H.VB[r]?=V1 nd)\/(nd∉H.VB/\r=H.VB.V0/\∃w d cs,cs.V0<=2/\(∀k∈nd.2,VX H.VR k∈cs)/\J7 (H.ZB nd w d cs) H.VB.V0 H')
def Nu {nd:fK} {H':HS} {r:V9} (a:Add H nd H' r) (b:Wu t 0 H) (C:lV (λ_=>WY) H) (f:H.VB.V0<100) (g:q4 nd.1) (j:nd.2.V0<=2) (l:∀k∈nd.2,k<H.VB.V0):
    Wu t 0 H'/\lV (λ_=>WY) H'/\Xr H H'/\H'.VB[r]?=V1 nd/\H'.VB.V0<=H.VB.V0+1:=by
 rcases a with⟨VC,h⟩|⟨hn,VC,w,d,cs,cz,hc,L⟩
 .show yh b C .Vt h (HK)
 .let(m,o,p,_,q):=n7 (b.ZB f hn g j l cz hc) (lV.ZB b C) L;apply yh m o ((Xr.ZB b).V7 p) ?_ ?_
  .rw[q];change(H.VB++[nd])[H.VB.V0]?=_;show eK
  .rw[q];change(H.VB++[nd]).V0<=_;(rw[aH];show cC _)
def DE {l:V2 (V9×V2 V9)} {k x j:V9} (h:j≠k):fD (rQ l k x) j=fD l j:=by
 rw[w7];cases fD l j with
 |V8=>rfl
 |V1 y=>rw[iM,Vd h]
def Ji {l:V2 (V9×V2 V9)} {k x:V9} {A:Ad}:((rQ l k x).VP λr=>((r.1:Vo),V.VG (A (.Xy r.1))))=l.VP λr=>((r.1:Vo),V.VG (A (.Xy r.1))):=by
 focus unfold rQ
 rw[cB];apply cL λr _=>?_;simp only[kF];split<;>rfl
def w9 (F:dR c.K) (h:W4 c M A H) (f:Wu t 0 H) (C:lV (λ_=>WY) H) (g:t<=15000000) {op:Vm} {ks:V2 V9} {v:V} (hv:xu c M A H v ks) (j:H.VB.V0<100) (o:q4 op) (s:ks.V0<=2) (B:∀k∈ks,k<H.VB.V0)
    (p:∀M' A' H' r,Y6 c M A H M' A' H'->Add H (op,ks) H' r->P (iV r) M'):
    aQ c (n+5) (.VG 522) [.VG (A .V5),.Vn op,v] M P:=by
 have h7:=bJ;have pn:=f.Xx;have hn:=f.n;apply .ZC (F.fn 37) rfl [V1 (.VG (A .V5)),V1 (.Vn op),V1 v,V8,V8,V8] rfl ?_
 focus unfold AI
 lk;apply .X4 rfl h.Vq rfl rfl (fm h.XN) ?_;lk;by_cases hin:(op,ks)∈H.VB
 .let(r,D,E):=V2.getElem_of_mem hin;letI E:H.VB[r]?=V1 (op,ks):=by rw[aI D,E]
  apply Ea (n:=n+1) (nd:=(op,ks)) F h f.ZY f.nodup hv.Yb f.nz (by change ks.V0<=10;show PE s) E ?_;lk;apply .X4 rfl h.Vq rfl rfl (fm h.Wi) ?_;lk;apply HF F h f.pz ?_;lk;apply ifY (Vs (Vo.ofNat_lt.WO (by rw[pn];show D))) ?_;lk;show p _ _ _ _ (Y6.Vt h) (.XB {VC,E})
 .apply Eb (n:=n+1) (nd:=(op,ks)) F h f.ZY hv.Yb f.nz f.wts f.dps (by change ks.V0<=10;show PE s) hin o B λG w d s1=>?_;letI I:(H.taken (op,ks) w d).VR.V0<=1000:=f.pz;lk;apply .X4 rfl s1.XD.Vq rfl rfl (fm s1.XD.Wi) ?_;lk;apply HF F s1.XD I ?_;lk;apply ZL (Vk (by change ¬((H.VB.V0:Vo)<(H.VR.V0:Vo));show bY [.e V3 (.v 0) (.v 1)] (.N (.k V6 (.z (.v 1)) (.z (.v 0)))) [[1,1]] tt [_,_] [] pn)) ?_;lk;apply .X4 rfl s1.XD.Vq rfl rfl (fm s1.XD.Wi) ?_;lk;apply ON F s1.XD I (by change H.Wd.V0=H.VR.V0;show eZ (f.lotn) (pn).Vh) λJ K Q _=>?_;lk;letI R:=s1.V7 Q;clear s1 Q;have eh:=R.fix .V5 rfl;rw[<-eh];letI S:=R.Yw [.VF []];apply .Xf rfl S.XD.Vq rfl rfl ?_;lk
  have rn:zm (jR H K) (H.VB.V0:Vo) (.VG J.V0)=jR H K++[((H.VB.V0:Vo),.VG J.V0)]:=by unfold zm;rw[Vd];rw[iC];rintro⟨r,E,q⟩;let(x,T,VC):=aK.mp E;have:=(f.abvl x T).1;simp at q;show bY [.k V3 (.v 0) (.v 1),.e V6 (.z (.v 0)) (.z (.v 1))] .F [[1,0,1]] tt [_,_] [] this q
  apply .dictIE (Vf:=jR H K) (k:=(H.VB.V0:Vo)) (S.XD.X8 .Yr _ rfl) (by unfold jR;rw[aE];have:=f.abvn;show fG [{1,.a,.n 100},{2,.b,.n 16777216},{0,.c,.a}] {0,.c,.b} [16777216,16777216,0,99,16777216] [] tt j h7 this) λU W=>?_;lk;rw[rn] at W;have hnone:fD H.Xy H.VB.V0=V8:=w6 λr E=>by have:=(f.abvl r E).1;show λe=>qq8 this e
  letI X:Y6 c M A H U (upA K (.Xy H.VB.V0) J.V0) {(H.taken (op,ks) w d).make with Xy:=H.Xy++[(H.VB.V0,[])]}:=by
   rw[W];apply S.Zd (x:=.Yr) (z:=.Xy H.VB.V0) (b:=J.V0) bP R.Wz (λy Y e=>by have:=R.XD.lt Y;show Oi e this) rfl (λe=>by cases e) rfl (λy Z=>r6 Z) qf ?_ ?_ λy a0 a1=>?_
   .apply VN (λl=>V1 (O.WD (fO _ l))) (?_:rS _ (H.Xy++[(H.VB.V0,[])])=_);rw[bD];apply congr (VN _ (cL λr E=>VN (λa=>((r.1:Vo),V.VG a)) (r6 λq=>?_))) (VN (λa=>[((H.VB.V0:Vo),V.VG a)]) qf);letI:=(f.abvl r E).1;injection q with q
    show qq8 this q
   .rw[i9]
    focus change(fD (H.Xy++[(H.VB.V0,[])]) H.VB.V0).VP _=_
    rw[jG,hnone];simp[fD,XX]
   .apply .XB (B3 y (λi e=>?_) (λi e=>?_) λh=>yH h (x:=.Yr) (aS rfl) a0 rfl)
    .subst e;rfl
    .subst e;rw[i9,i9]
     focus change(fD (H.Xy++[(H.VB.V0,[])]) i).VP _=(fD H.Xy i).VP _
     letI a2:i≠H.VB.V0:=λq=>a1 (by rw[q]);rw[jG];have:fD [(H.VB.V0,([]:V2 V9))] i=V8:=w6 λr E=>by rw[aC.mp E];show fP a2
     rw[this];cases fD H.Xy i<;>rfl
  clear W S;have e23:K .V5=upA K (.Xy H.VB.V0) J.V0 .V5:=(r6 (by intro q;cases q)).Vh
  focus rw[e23]
  generalize upA K (.Xy H.VB.V0) J.V0=A3 at *;clear e23 eh rn R;have rm:∀a,a<H.VB.V0->VX (H.VR++[H.VR.V0]) a=VX H.VR a:=λa h=>qi f.VR a (by rw[f.Xx];show h);have p3:jI (H.VR++[H.VR.V0]):=vn f.VR;have l3:(H.VR++[H.VR.V0]).V0=H.VB.V0+1:=by simp[pn]
  apply{VC,?_};lk;apply Ft.YQ (hv.YF X).Yb (λk=>iV (VX H.VR k)) (La s) (λk ys a3 a4 a5=>?_) ?_
  .lk;apply .Wg rfl (fm X.XD.Vq) ?_;lk;have:=B k a4;apply jF F X.XD p3 (by change k<(H.VR++[H.VR.V0]).V0;show fG [{2,.a,.p .b (.n 1)},{1,.c,.b}] {1,.c,.a} [1,0,1,1] [] tt l3 this) (by change(H.VR++[H.VR.V0]).V0<=_;show dX [{1,.a,.n 100},{2,.b,.p .a (.n 1)}] {0,.b,.n 1000} [1,1,1] [] tt j l3) ?_
   focus change a3 (ys++[iV (VX (H.VR++[H.VR.V0]) k)]) U
   rw[rm k this];show a5
  lk
  have hint:∀x∈ks.VP λk=>iV (VX H.VR k),∃i,x=.Vl i:=λx T=>by let(k,_,VC):=aK.mp T;show{_,VC}
  apply .setL bP (.XB hint) (by rw[aE];show e9 [{0,.a,.n 2}] {0,.a,.n 100} [1,1] [] tt s) λa6 a7 a8 _=>?_;lk;apply .sortedS bP (.XB λx T=>hint x ((a7 x).mp T)) (by rw[aE] at a8;show dX [{0,.a,.n 2},{0,.b,.a}] {0,.b,.n 1000} [1,1,1] [] tt s a8) λa9 aa=>?_
  have hwn:a9=XX (a9.VP rD):=zH λy Z=>by let(k,_,VC):=aK.mp ((a7 y).mp (aa.X9.mp Z));show{_,VC}
  letI ab:∀x,x∈a9.VP rD↔∃k∈ks,x=VX H.VR k:=λx=>by
   rw[aK];constructor
   .rintro⟨y,Z,VC⟩;let(k,a4,VC):=aK.mp ((a7 y).mp (aa.X9.mp Z));show aV k a4 rfl
   .rintro⟨k,a4,VC⟩;show aV (iV (VX H.VR k)) (aa.X9.WO ((a7 _).WO (aK.WO (aV k a4 rfl)))) rfl
  letI ac:(a9.VP rD).V0<=2:=by rw[aE,aa.WZ];rw[aE] at a8;show dX [{0,.a,.n 2},{0,.b,.a}] {0,.b,.n 2} [1,1,1] [] tt s a8
  rw[hwn];generalize a9.VP rD=cs at *;clear hwn aa;lk;apply sr (.VF bP) ?_;have s4:=((X.Yw [.VF (ks.VP λk=>iV (VX H.VR k))]).Yw [.Wb a6]).Yw [.VF (XX cs)]
  letI ad:∀x,mT c {(H.taken (op,ks) w d).make with Xy:=H.Xy++[(H.VB.V0,[])]} A3 x->A3 x≠(U++[O.VF (ks.VP λk=>iV (VX H.VR k))]++[O.Wb a6]).V0:=λx ae q=>by have:=X.XD.lt ae;rw[q] at this;simp at this;show e9 [{1,.p .a (.n 2),.a}] {5,.n 0,.n 0} [3,1] [] tt this
  apply jS.Z6 (xs:=XX cs) (λi σ M'=>σ=_/\Y6 c _ A3 {(H.taken (op,ks) w d).make with Xy:=H.Xy++[(H.VB.V0,[])]} M' A3 {(H.taken (op,ks) w d).make with Xy:=kY (H.Xy++[(H.VB.V0,[])]) (cs.WU i) H.VB.V0})
   (λi v σ M' a3 hv af a5=>?_) (λσ M' af=>?_) cs.V0 0 _ _ (by rw[cY];show qq5) ⟨VC,Y6.Vt s4.XD⟩
  .let(rfl,ag):=af;apply{ag.ZN ad bP,?_};let(q,ah,VC):=pG hv;letI ai:q∈cs:=aF ah;clear hv;let(k,a4,VC):=(ab q).mp ai;letI aj:=B k a4;let(l,ak):=f.abvr _ (lN f.VR k (C5 pn aj))
   have nodup0:((H.Xy++[(H.VB.V0,([]:V2 V9))]).VP (·.1)).WF:=by rw[bD,fL];apply fq f.abvk (by show W1 rfl) λa ha b al q=>?_;let(r,E,VC):=aK.mp ha;have:=(f.abvl r E).1;simp at al;show S5 [_,_,_] [] q this al
   let(am,an,ao,_,ap):=vW (N:=0) (cs:=cs.WU i) (x:=H.VB.V0) nodup0;let(z,hz,_):=ap (VX H.VR k) l (by rw[jG,ak];rfl)
   have zz:z.V0<=1000:=by have a0:=CW (sI hz);have a1:=f.abvs;rw[HC] at ao;rw[dF] at ao;have h4:(VX H.VR k,z).2.V0=z.V0:=rfl;have h5:([(H.VB.V0,([]:V2 V9))].VP (·.2.V0)).sum=0:=rfl;show bY [.k V3 (.v 0) (.n 100),.l V3 (.v 1) (.n 2),.l V3 (.v 2) (.p (.p (.v 3) (.v 4)) (.u (.v 5) (.v 1))),.l V3 (.v 6) (.v 2),.l V3 (.v 3) (.m 2 (.v 0)),.e V3 (.v 6) (.v 7),.e V3 (.v 4) (.n 0)] (.l V3 (.v 7) (.n 1000)) [[1,2,1,1,1,1,1,0,1,1],[1,2,1,0,1,1,1,0,1,1]] tt [_,_,_,_,_,_,_,_] [] j ac ao a0 a1 h4 h5
   lk;apply Xp.meth_i ?_;lk;apply .Xf rfl ag.XD.Vq rfl rfl ?_;lk;apply .dictI (ag.XD.X8 .Yr _ rfl) (vf hz) ?_;have az:=ag.XD.X8 (.Xy (VX H.VR k)) _ (vv hz);apply⟨qQ az,?_⟩;lk;apply .appendE az (by rw[cY];show QD h7 zz) λaq ar=>?_;lk;apply aV _ (ja rfl) (a5 _ _ ⟨VC,?_⟩)
   have et:kY (H.Xy++[(H.VB.V0,[])]) (cs.WU (i+1)) H.VB.V0=rQ (kY (H.Xy++[(H.VB.V0,[])]) (cs.WU i) H.VB.V0) (VX H.VR k) H.VB.V0:=by
    focus unfold kY
    rw[cF,ah,V2.foldl_append];rfl
   rw[et];apply ag.updE (x:=.Xy (VX H.VR k)) ar (by simp only[mT];rw[vv hz];rfl) ?_ λy Z=>?_
   .rw[i9]
    focus change(fD (rQ _ _ _) _).VP _=_
    rw[w7,hz,iM,Vw rfl];change V1 (O.VF (XX (z++[H.VB.V0])))=_;rw[nS];rfl
   .apply B3 y (λi e=>?_) (λi e=>?_) λh=>EE h ?_
    .subst e;rfl
    .subst e;rw[i9,i9]
     focus change(fD (rQ _ _ _) i).VP _=(fD _ i).VP _
     show VN _ (DE λq=>Z (by rw[q]))
    .unfold C7 HN jR;rw[Ji]
  .let(rfl,ag):=af;apply{ag.ZN ad bP,?_};rw[cY,cV] at ag;lk;apply .Wg rfl (fm ag.XD.Vq) ?_;lk;have hc:∀k∈ks,VX H.VR k∈cs:=λk a4=>(ab _).WO (aV k a4 rfl);apply zU F ag.XD (f.ZB (nd:=(op,ks)) j hin o s B ac hc) g (by change _<(H.VB++[_]).V0;(rw[aH];show cC _)) λas au av aw L=>?_;lk;show p _ _ _ _ ((s4.V7 ag).V7 aw) (.Wt (fq hin rfl {w,d,cs,ac,hc,L}))
end
section
variable {q x:Nat} {V:Nat->Nat}
mutual open Nat
nonrec abbrev sX:Vm:=aX "x"
nonrec abbrev s0':Vm:=aX "0"
nonrec abbrev s1':Vm:=aX "1"
nonrec abbrev s2':Vm:=aX "2"
nonrec abbrev s3':Vm:=aX "3"
nonrec abbrev kR:Vm:=aX "neg"
nonrec abbrev l8:Vm:=aX "add"
nonrec abbrev jZ:Vm:=aX "mul"
abbrev yc (q:V9):Vm:=if q=2 then s2' else s3'
abbrev nG (q:V9) (nd:fK):Prop:=
 (nd.2=[]/\(nd.1=sX\/nd.1=s0'\/nd.1=s1'\/nd.1=yc q))\/(∃a,nd=(kR,[a]))\/(∃a b,nd=(l8,[a,b]))\/(∃a b,nd=(jZ,[a,b]))
abbrev Ma (x:Vm):V9:=if x=s0' then 0 else if x=s1' then 1 else if x=s2' then 2 else 3
abbrev sf (q x:V9) (V:V9->V9) (nd:fK):V9:=
 if nd.1=sX then x else match nd.2 with
  |[]=>Ma nd.1 % q
  |[a]=>(q-V a) % q
  |a::b::_=>if nd.1=l8 then (V a+V b) % q else (V a*V b) % q
def yI {W:V9->V9} {nd:fK} (h:∀k∈nd.2,V k=W k):sf q x V nd=sf q x W nd:=by
 let(o,ks):=nd;unfold sf;simp only at h⊢;split
 .rfl
 .match ks,h with
  |[],_=>rfl
  |[a],h=>simp only;show(h a (by show cO _))▸rfl
  |a::b::r,h=>simp only;rw[h a (by show .WI _),h b (by show .XW _ (.WI _))]
def Gq {VR:V2 V9} {nd:fK} (h:∀k∈nd.2,V (VX VR k)=V k):sf q x V (eW VR nd)=sf q x V nd:=by
 let(o,ks):=nd
 focus unfold sf eW
 simp only at h⊢;split
 .rfl
 .match ks,h with
  |[],_=>rfl
  |[a],h=>simp only[bT,yo];show(h a (by show cO _))▸rfl
  |a::b::r,h=>simp only[bT];rw[h a (by show .WI _),h b (by show .XW _ (.WI _))]
structure XH (q x:V9) (H:HS) (V:V9->V9):Prop where
 YM:∀(i:V9) nd,H.VB[i]?=V1 nd->V i=sf q x V nd
 like:∀i j,i<H.VB.V0->j<H.VB.V0->VX H.VR i=VX H.VR j->V i=V j
 Wp:∀r∈H.Wp,sf q x V r.1=V r.2
def XH.VX (S:XH q x H V) (c:Wu t e H) {k:V9} (h:k<H.VB.V0):V (Lake.VX H.VR k)=V k:=by have pn:=c.Xx;have h1:=sY c.VR (a:=k) (Ez h pn);show S.like _ _ (Ey pn h1) h (BN c.VR (Ez h pn))
def XH.Xh (S:XH q x H V) (c:Wu t e H) {k g:V9} (d:k<g) (f:H.VR[k]?=V1 k) (l:H.VR[g]?=V1 g) (hv:V k=V g):XH q x (H.Xh k g v) V where
 YM:=S.YM
 Wp:=S.Wp
 like i j hi hj h:=by
  change i<H.VB.V0 at hi
  change j<H.VB.V0 at hj
  have pn:=c.Xx;have ru:=mJ c.VR d f l
  change Lake.VX (H.VR.Wb g k) i=Lake.VX (H.VR.Wb g k) j at h
  rw[ru i (Ez hi pn),ru j (Ez hj pn)] at h;have vi:=S.VX c hi;have vj:=S.VX c hj;split at h<;>split at h
  .rename_i e1 e2
   rw[<-vi,<-vj,e1,e2]
  .rename_i e1 e2
   rw[<-vi,<-vj,e1,<-h,hv]
  .rename_i e1 e2
   rw[<-vi,<-vj,e2,h,hv]
  .rw[<-vi,<-vj,h]
def XH.min_max (S:XH q x H V) (c:Wu t e H) {a b:V9} (ha:a<H.VB.V0) (d:b<H.VB.V0) (hv:V a=V b):V (gu (Lake.VX H.VR a) (Lake.VX H.VR b))=V (gI (Lake.VX H.VR a) (Lake.VX H.VR b)):=by
 have h1:=S.VX c ha;have h2:=S.VX c d;rcases kO (Lake.VX H.VR a) (Lake.VX H.VR b) with w|w
 .rw[iQ w,iF w,h1,h2,hv]
 .rw[nP w,oW w,h1,h2,hv]
def XH.XP {i:V9} (S:XH q x H V) (c:Wu t e H) (L:J7 H i H'):XH q x H' V:=by
 let(nd,hi,h):=L;letI d:=(aB.mp hi).1
 letI f:sf q x V (eW H.VR nd)=V i:=by rw[S.YM i nd hi];show Gq λk g=>S.VX c (by letI:=(c.Yb i nd hi).2.1 k g;show qq4 d this)
 clear hi;rcases h with⟨h1,VC⟩|⟨m,h1,h⟩
 .show⟨S.YM,S.like,λr j=>by
    rcases aW.mp j with h|h
    .show S.Wp r h
    .rw[aC.mp h];show f⟩
 .letI l:=c.knw _ (Wq h1);letI hv:V m=V i:=by rw[<-f];show(S.Wp _ (Wq h1)).Vh
  clear h1 f;rcases h with⟨_,VC⟩|⟨h2,v,VC⟩
  .show S
  .let(n,g,o):=ji c l d h2;show S.Xh c n g o (S.min_max c l d hv)
def XH.YC {w:V2 V9} (S:XH q x H V):XH q x (H.YC w) V:={S.YM,S.like,S.Wp}
def XH.settle (S:XH q x H V) (c:Wu t 0 H) (C:lV (λ_=>WY) H) (T:Settle H H'):XH q x H' V:=by
 induction T with
 |done _=>show S
 |Zt d L _ f=>
  let(g,h,_):=n7 (c.YC d) (C.YC d) L;show f (S.YC.XP (c.YC d) L) g h
def XH.merge (S:XH q x H V) (c:Wu t e H) (T:IY H a b H') (ha:a<H.VB.V0) (d:b<H.VB.V0) (hv:V a=V b):XH q x H' V:=by
 rcases T with⟨_,v,VC⟩|⟨h2,v,VC⟩
 .show{S.YM,S.like,S.Wp}
 .let(f,g,h):=ji c ha d h2;show S.Xh c f g h (S.min_max c ha d hv)
def XH.lt (S:XH q x H V) (c:x<q) {i:V9} (hi:i<H.VB.V0):V i<q:=by
 obtain⟨nd,h⟩:∃nd,H.VB[i]?=V1 nd:={_,aI hi};rw[S.YM i nd h]
 focus unfold sf
 have:=qd (Ma nd.1) (show 0<q by show Qf [_,_] [] c);split
 .show c
 .split
  .show this
  .show qd _ (by show dX [{1,.a,.b}] {1,.n 0,.b} [1,1] [] tt this)
  .split<;>show qd _ (by show Qf [_,_] [] this)
def XH.ZB (S:XH q x H V) (c:Wu t e H) {nd:fK} {w d:Vo} {cs:V2 V9} (f:∀k∈nd.2,k<H.VB.V0) (g:∀r∈H.Wp,∀k∈r.1.2,k<H.VB.V0):
    XH q x (H.ZB nd w d cs) (λj=>if j=H.VB.V0 then sf q x V nd else V j):=by
 letI l:∀j,j<H.VB.V0->(λj=>if j=H.VB.V0 then sf q x V nd else V j) j=V j:=λj m=>Vd (RA [_,_] [] m);have rm:∀a,a<H.VB.V0->Lake.VX (H.VR++[H.VR.V0]) a=Lake.VX H.VR a:=λa h=>qi c.VR a (by rw[c.Xx];show h);have rn:Lake.VX (H.VR++[H.VR.V0]) H.VB.V0=H.VB.V0:=by rw[<-c.Xx];show tY c.VR
 have rl:∀a,a<H.VB.V0->Lake.VX H.VR a<H.VB.V0:=λa h=>by have:=sY c.VR (a:=a) (by rw[c.Xx];show h);rw[c.Xx] at this;show this
 apply{λi y h=>?_,λi j hi m h=>?_,λr n=>?_}
 .change (H.VB++[nd])[i]?=V1 y at h
  rw[fS] at h;split at h
  .rename_i li
   simp only[l i li];rw[S.YM i y h];show yI λk f=>(l k (by letI:=(c.Yb i y h).2.1 k f;show qq4 li this)).Vh
  .have:=(aB.mp h).1;simp at this;have e:i=H.VB.V0:=Ox [_,_] [] (by assumption) this;clear this;subst e;simp at h;subst h;simp only[if_true];show yI λk o=>(l k (f k o)).Vh
 .change i<(H.VB++[nd]).V0 at hi
  change j<(H.VB++[nd]).V0 at m
  change Lake.VX (H.VR++[H.VR.V0]) i=Lake.VX (H.VR++[H.VR.V0]) j at h
  simp at hi m;by_cases e1:i=H.VB.V0<;>by_cases e2:j=H.VB.V0
  .rw[e1,e2]
  .rw[e1,rn,rm j (qq0 [_,_] [] m e2)] at h;have:=rl j (qq0 [_,_] [] m e2);show bY [.e V3 (.v 0) (.v 1),.k V3 (.v 1) (.v 0)] (.e V3 (.v 2) (.v 3)) [[0,1,0,1],[0,1,0,1]] tt [_,_,_,_] [] h this
  .rw[e2,rn,rm i (qq0 [_,_] [] hi e1)] at h;have:=rl i (qq0 [_,_] [] hi e1);show bY [.e V3 (.v 0) (.v 1),.k V3 (.v 0) (.v 1)] (.e V3 (.v 2) (.v 3)) [[0,0,1,1],[0,0,1,1]] tt [_,_,_,_] [] h this
  .rw[rm i (qq0 [_,_] [] hi e1),rm j (qq0 [_,_] [] m e2)] at h;simp only[Vd e1,Vd e2];show S.like i j (qq0 [_,_] [] hi e1) (qq0 [_,_] [] m e2) h
 .simp only[l r.2 (c.knw r n)];rw[<-S.Wp r n];show yI λk o=>l k (g r n k o)
end
end
section
variable {q x:Nat} {V:Nat->Nat}
mutual open Nat
structure Inv (q t:V9) (H:HS):Prop where
 X5:Wu t 0 H
 cong:lV (λ_=>WY) H
 kn:∀r∈H.Wp,∀k∈r.1.2,k<H.VB.V0
 ok:∀nd∈H.VB,nG q nd
 sound:∀x,x<q->∃V,XH q x H V
def pF {x:Vm} (h:(zE x&&(match x.cps[0]? with|V1 k=>k !=63|V8=>V3))=V6):q4 x:=by
 rw[aN] at h;apply{h.1,?_};have h2:=h.2;split at h2
 .rename_i k hk
  show{k,hk,by simpa using h2}
 .cases h2
def RY:q4 sX:=pF (by decide +kernel)
def R4:q4 s0':=pF (by decide +kernel)
def R2:q4 s1':=pF (by decide +kernel)
def R1:q4 s2':=pF (by decide +kernel)
def R0:q4 s3':=pF (by decide +kernel)
def zB:q4 kR:=pF (by decide +kernel)
def zD:q4 l8:=pF (by decide +kernel)
def zC:q4 jZ:=pF (by decide +kernel)
def RZ:q4 (yc q):=by unfold yc;split;show R1;show R0
def nG.op {nd:fK} (h:nG q nd):q4 nd.1/\nd.2.V0<=2:=by
 rcases h with⟨h1,h|h|h|h⟩|⟨a,VC⟩|⟨a,b,VC⟩|⟨a,b,VC⟩
 .rw[h,h1];show{RY,by simp}
 .rw[h,h1];show{R4,by simp}
 .rw[h,h1];show{R2,by simp}
 .rw[h,h1];show{RZ,by simp}
 .show{zB,by show dg _}
 .show{zD,by show aM _}
 .show{zC,by show aM _}
def Ig {i:V9} (c:Wu t e H) (L:J7 H i H') (d:∀r∈H.Wp,∀k∈r.1.2,k<H.VB.V0):∀r∈H'.Wp,∀k∈r.1.2,k<H'.VB.V0:=by
 let(nd,hi,h):=L;letI f:=(aB.mp hi).1;rcases h with⟨h1,VC⟩|⟨m,h1,⟨_,VC⟩|⟨_,v,VC⟩⟩
 .intro r g k l;rcases aW.mp g with h|h
  .show d r h k l
  .rw[aC.mp h] at l;let(j,n,VC):=aK.mp l;have h1:=(c.Yb i nd hi).2.1 j n;have h2:=sY c.VR (a:=j) (by rw[c.Xx];show qq4 f h1);rw[c.Xx] at h2;show h2
 .show d
 .show d
def tB {nd:fK} {r:V9} (I:Inv q t H) (c:Add H nd H' r) (f:H.VB.V0<100) (g:nG q nd) (i:∀k∈nd.2,k<H.VB.V0):
    Inv q t H'/\Xr H H'/\H'.VB[r]?=V1 nd/\H'.VB.V0<=H.VB.V0+1:=by
 let(j,C,G,l,m):=Nu c I.X5 I.cong f g.op.1 g.op.2 i;apply Dt {j,C,?_,?_,?_} G l m
 .rcases c with⟨VC,_⟩|⟨hn,VC,w,d,cs,cz,hc,L⟩
  .show I.kn
  .apply Ig (I.X5.ZB f hn g.op.1 g.op.2 i cz hc) L λr n k i=>?_;have:=I.kn r n k i
   focus change k<(H.VB++[nd]).V0
   simp;show Qv [_,_] [] this
 .rcases c with⟨VC,_⟩|⟨hn,VC,w,d,cs,cz,hc,L⟩
  .show I.ok
  .let(_,_,_,_,o):=n7 (I.X5.ZB f hn g.op.1 g.op.2 i cz hc) (lV.ZB I.X5 I.cong) L;rw[o];intro y p;rcases aW.mp (show y∈H.VB++[nd] from p) with h|h
   .show I.ok y h
   .rw[aC.mp h];show g
 .intro x s;let(V,S):=I.sound x s;rcases c with⟨VC,_⟩|⟨hn,VC,w,d,cs,cz,hc,L⟩
  .show{V,S}
  .show{_,(S.ZB I.X5 i I.kn).XP (I.X5.ZB f hn g.op.1 g.op.2 i cz hc) L}
def Cj (I:Inv q t H) (c:IY H a b H') (ha:a<H.VB.V0) (d:b<H.VB.V0) (hv:∀x V,x<q->XH q x H V->V a=V b):
    Inv q (t+1) H'/\Xr H H'/\H'.VB=H.VB/\VX H'.VR a=VX H'.VR b:=by
 let(f,C,G,g,h):=Gw c I.X5 I.cong ha d;apply Dt {f,C,?_,?_,λx i=>?_} G g h
 .rcases c with⟨_,v,VC⟩|⟨_,v,VC⟩<;>show I.kn
 .rw[g];show I.ok
 .let(V,S):=I.sound x i;show{V,S.merge I.X5 c ha d (hv x V i S)}
def GP (I:Inv q t H) (c:Settle H H'):Inv q t H'/\Xr H H'/\H'.VB=H.VB/\H'.W0=[]:=by
 let(d,C,G,f,g):=Ei c I.X5 I.cong;apply Dt {d,C,?_,by rw[f];show I.ok,λx i=>?_} G f g
 .have:∀{H H':HS},Settle H H'->Wu t 0 H->lV (λ_=>WY) H->(∀r∈H.Wp,∀k∈r.1.2,k<H.VB.V0)->∀r∈H'.Wp,∀k∈r.1.2,k<H'.VB.V0:=by
    intro H H' c
    induction c with
    |done _=>show λ_ _ h=>h
    |Zt j L _ l=>
     intro d C m;let(n,o,_):=n7 (d.YC j) (C.YC j) L;show l n o (Ig (d.YC j) L m)
  show this c I.X5 I.cong I.kn
 .let(V,S):=I.sound x i;show{V,S.settle I.X5 I.cong c}
def Inv.le {t':V9} (I:Inv q t H) (h:t<=t'):Inv q t' H:={I with X5:=I.X5.le h}
set_option genCtorIdx true in
inductive Tm where
 |c (x:Vm)
 |u (x:Vm) (a:Tm)
 |b (x:Vm) (a b:Tm)
abbrev eH:Tm->Lake.V
 | .c x=>.Vj [.Vn x]
 | .u x a=>.Vj [.Vn x,eH a]
 | .b x a b=>.Vj [.Vn x,eH a,eH b]
abbrev Tm.VA:Tm->V9
 | .c _=>1
 | .u _ a=>a.VA+1
 | .b _ a b=>a.VA+b.VA+1
abbrev Tm.Yi:Tm->V9
 | .c _=>1
 | .u _ a=>a.Yi+1
 | .b _ a b=>max a.Yi b.Yi+1
abbrev gr (x:Vm):VS:=match x.cps[0]? with|V1 k=>k==63|V8=>V3
abbrev f7 (H:HS) (s:Vm->V9):Tm->V9->Prop
 | .c x,r=>if gr x then r=s x else H.VB[r]?=V1 (x,[])
 | .u x a,r=>∃i,H.VB[r]?=V1 (x,[i])/\f7 H s a i
 | .b x a b,r=>∃i j,H.VB[r]?=V1 (x,[i,j])/\f7 H s a i/\f7 H s b j
def f7.VQ {s:Vm->V9} {x:Vm} {r:V9} (e:gr x=V6):f7 H s (.c x) r=(r=s x):=Vw e
def f7.con {s:Vm->V9} {x:Vm} {r:V9} (e:gr x=V3):f7 H s (.c x) r=(H.VB[r]?=V1 (x,[])):=Vd (e▸aO)
def f7.Yc {s:Vm->V9} (G:Xr H H'):∀{p:Tm} {r:V9},f7 H s p r->f7 H' s p r:=by
 intro p
 induction p with
 |c x=>
  intro r h;cases e:gr x with
  |V6=>rw[f7.VQ e] at h⊢;show h
  |V3=>rw[f7.con e] at h⊢;show G.ZN h
 |u x a d=>
  intro r f;let(i,g,k):=f;show{i,G.ZN g,d k}
 |b x a b l m=>
  intro r f;let(i,j,g,k,n):=f;show{i,j,G.ZN g,l k,m n}
abbrev rO (q x:V9) (W:Vm->V9):Tm->V9
 | .c y=>if gr y then W y else sf q x (λ_=>0) (y,[])
 | .u y a=>sf q x (λ_=>rO q x W a) (y,[0])
 | .b y a b=>sf q x (λk=>if k=0 then rO q x W a else rO q x W b) (y,[0,1])
def Ur {q x:V9} {W:Vm->V9} {y:Vm} (e:gr y=V6):rO q x W (.c y)=W y:=Vw e
def TN {q x:V9} {W:Vm->V9} {y:Vm} (e:gr y=V3):rO q x W (.c y)=sf q x (λ_=>0) (y,[]):=Vd (e▸aO)
def f7.YM {s:Vm->V9} (S:XH q x H V):∀{p:Tm} {r:V9},f7 H s p r->V r=rO q x (λy=>V (s y)) p:=by
 intro p
 induction p with
 |c y=>
  intro r h;cases e:gr y with
  |V6=>rw[f7.VQ e] at h;rw[Ur e,h]
  |V3=>rw[f7.con e] at h;rw[TN e,S.YM r _ h];rfl
 |u y a d=>
  intro r f;let(i,g,k):=f;rw[S.YM r _ g];change(if y=sX then x else (q-V i) % q)=if y=sX then x else (q-rO q x _ a) % q
  rw[d k]
 |b y a b l m=>
  intro r f;let(i,j,g,k,n):=f;rw[S.YM r _ g];change(if y=sX then x else if y=l8 then (V i+V j) % q else (V i*V j) % q)=if y=sX then x else if y=l8 then (rO q x _ a+rO q x _ b) % q else (rO q x _ a*rO q x _ b) % q
  rw[l k,m n]
abbrev mS (q:V9):Tm->Prop
 | .c x=>gr x=V6\/nG q (x,[])
 | .u x a=>x=kR/\mS q a
 | .b x a b=>(x=l8\/x=jZ)/\mS q a/\mS q b
end
end
mutual open Nat
def O3 {x:Vm} {k:V9} (h:x.cps[0]?=V1 k) (t:Tok) (u:Tok):(oV x t cQ (V1 (1,u)) cQ=.YM (.Vn x t)/\({#[k]}:Vm)=x)\/(oV x t cQ (V1 (1,u)) cQ=.Vn {#[k]}/\({#[k]}:Vm).V0<=cE):=by
 have hl:1<=x.V0:=(fR.mp h).1
 letI a:slicePicked x cQ (V1 (1,u)) cQ=[0]:=by
  have e:(max 0 (min (1:Vo) (x.V0:Vo)))=1:=bY [.l V3 (.n 1) (.v 0)] (.e V6 (.w (.n 0) (.u (.n 1) (.z (.v 0)))) (.n 1)) [[0,0,1],[0,0,1],[0,1],[0,1],[0,0,1,1],[1,0,1],[0,1,0,1],[0,0,1]] tt [_] [] hl
  focus change sliceRange 0 (max 0 (min (if (1:Vo)<0 then 1+(x.V0:Vo) else 1) (x.V0:Vo))) 1=[0]
  rw[Vd (by show bY [] (.N (.k V6 (.n 1) (.n 0))) [[1]] tt [] []),e];decide +kernel
 focus unfold oV
 rw[a];by_cases q:x.V0=1
 .left;rw[Vw (by rw[q];rfl)];apply{VC,?_};obtain⟨b⟩:=x;have hs:b.VA=1:=q
  congr 1
  apply VW.ext ?_ ?_
  .show hs.Vh
  .intro i d f;have:i=0:=by simp at d;show N8 d
   subst this;have:=(fR.mp h).2;simp;show this.Vh
 .right;rw[Vd (by simp;show bY [.N (.e V3 (.v 0) (.n 1))] (.N (.e V3 (.n 1) (.v 0))) [[1,0,1],[0,1,1]] tt [_] [] q)];apply{?_,by have:=bJ;change 1<=cE;show Gf this}
  focus change Made.Vn {((DO (λi=>x.cps[i]?) [0])).WE}=_
  rw[wc,h];rfl
abbrev iW:Tm->VS
 | .c x=>gr x
 |_=>V3
def iX (F:dR c.K) {p:Tm} (d:∀x,p=.c x->1<=x.V0) (q:P (.WW (iW p)) M):aQ c (n+1) (.VG 86) [eH p] M P:=by
 apply .ZC (F.fn 1) rfl [V1 (eH p)] rfl ?_;lk;cases p with
 |u x a=>
  apply .lenT (by show aS rfl) ?_;lk;apply ZL (by rfl) ?_;lk;show q
 |b x a b=>
  apply .lenT (by show aS rfl) ?_;lk;apply ZL (by rfl) ?_;lk;show q
 |c x=>
  have h1:=d x rfl;obtain⟨k,hk⟩:∃k,x.cps[0]?=V1 k:={_,gP h1};apply .lenT (by show aS rfl) ?_;lk;apply ifY (by rfl) ?_;lk;apply .Vj (by simp) (by simp) (v:=.Vn x) rfl ?_;lk;apply aV _ (λt u=>O3 hk t u) ?_;lk
  have e:(({#[k]}:Vm)==aX "?")=iW (.c x):=by
   focus change _=gr x
   focus unfold gr
   rw[hk,Eu]
   focus change decide (({#[k]}:Vm)={#[63]})=(k==63)
   rw[oS];simp
  rw[e];show q
variable {q:V9}
def fk.tupS {a:Xp} {j i:V9} {b:Ip} {xs ys:V2 V} {σ:YY} {C:V2 V->WC->Prop} {v:V} (hv:xs[i]?=V1 v) (hz:ys.V0<=cE) (h:CC c n a (.Ws j) b v ys σ M λys M=>fk c n a (.Ws j) b (.Vj xs (i+1)) ys σ M C):fk c n a (.Ws j) b (.Vj xs i) ys σ M C:=.WL (.Ws (.tupItem hv)) hz h
def fk.tupE {a:Xp} {j i:V9} {b:Ip} {xs ys:V2 V} {σ:YY} {C:V2 V->WC->Prop} (hi:xs.V0<=i) (h:C ys M):fk c n a (.Ws j) b (.Vj xs i) ys σ M C:=.YS (.V8 (.tupEnd (k':=.VF 0 0) (fh hi))) h
def lQ {f:VE} {a b:V9} {vs:V2 V} (e:b=a) (h:aQ c n f (.VG b::vs) M P):aQ c n f (.VG a::vs) M P:=e▸h
def Y6.Vq {bF:WC} {a:Ad} {b:HS} (s:Y6 c bF a b M A H):Ob M (a .V5) 617 (Aa a):=by
 have h:=s.XD.Vq;unfold Aa at h⊢
 rwa[s.fix .V5 rfl,s.fix .bank rfl,s.fix .Y9 rfl,s.fix .XM rfl,s.fix .XJ rfl,s.fix .Wp rfl,s.fix .Yr rfl,s.fix .W0 rfl] at h
abbrev gp:Tm->VS
 | .c x=> !gr x
 | .u _ a=>gp a
 | .b _ a b=>gp a&&gp b
def nG.neg {a:V9}:nG q (kR,[a]):=.Wt (.XB {a,VC})
def nG.two {x:Vm} {a b:V9} (h:x=l8\/x=jZ):nG q (x,[a,b]):=by
 rcases h with rfl|rfl
 .show .Wt (.Wt (.XB (tR a b rfl)))
 .show .Wt (.Wt (.Wt (tR a b rfl)))
def pV {H:HS} {r:V9} {nd:fK} (h:H.VB[r]?=V1 nd):r<H.VB.V0:=(aB.mp h).1
def Du (F:dR c.K) (s:Vm->V9) (d:t<=15000000):∀(p:Tm) {m:V9} {M:WC} {A:Ad} {H:HS} {P:dQ} (h:W4 c M A H) (I:Inv q t H) (f:mS q p) (g:gp p=V6) (i:p.Yi<=m) (j:H.VB.V0+p.VA<=100)
    (l:∀M' A' H' r,Y6 c M A H M' A' H'->Inv q t H'->Xr H H'->f7 H' s p r->H'.VB.V0<=H.VB.V0+p.VA->r<H'.VB.V0->P (iV r) M'),
    aQ c (n+m+5) (.VG 527) [.VG (A .V5),eH p] M P:=by
 have h7:=bJ;intro p
 induction p with
 |c x=>
  intro m M A H P h I f g i j l;obtain⟨m,VC⟩:∃k,m=k+1:={m-1,by show Ot [_] [] i};letI hv:gr x=V3:=(dh _).mp g;letI o:nG q (x,[]):=by rcases f with h|h;(rw[hv] at h;cases h);show h
  apply .ZC (F.fn 38) rfl [V1 (.VG (A .V5)),V1 (eH (.c x)),V8] rfl ?_
  focus unfold q8
  lk;apply .Wg rfl (fm h.Vq) ?_;lk;apply .Vj (by simp) (by simp) (v:=.Vn x) rfl ?_;lk;apply⟨VC,?_⟩;lk;apply⟨by show aM _,by simp;show Gf h7,?_⟩;lk;apply iJ .Vj (.YB rfl) (.tupE (by show aM _) ?_);apply .tupleL bP (by simp) ?_;lk;have s1:=(Y6.Vt h).Yw [.VF []];apply w9 F s1.XD I.X5 I.cong d (ks:=[]) (.XB rfl) (Oh j) o.op.1 (by simp) (λk w=>by cases w) λM' A' H' r y z=>?_;lk;let(B,G,C,D):=tB I z (Oh j) o λk w=>by cases w
  show l _ _ _ _ (s1.V7 y) B G (by rw[f7.con hv];show C) D (pV C)
 |u x a E=>
  intro m M A H P h I f g i j l;obtain⟨m,VC⟩:∃k,m=k+1:={m-1,by show Ow [_,_] [] i};let(rfl,J):=f;apply .ZC (F.fn 38) rfl [V1 (.VG (A .V5)),V1 (eH (.u kR a)),V8] rfl ?_
  focus unfold q8
  lk;apply .Wg rfl (fm h.Vq) ?_;lk;apply .Vj (by simp) (by simp) (v:=.Vn kR) rfl ?_;lk;apply⟨VC,?_⟩;lk;apply⟨by show dg _,by simp;show Lf h7,?_⟩;lk;apply iJ .Vj (.YB rfl) (.tupS (v:=eH a) rfl (by simp) ?_);lk;apply .Wg rfl (fm h.Vq) ?_;lk;apply E h I J g (by show Rt i) (Qm j) λL N Q R s1 S T U W X=>?_;apply .tupE (by show aM _) ?_;apply .tupleL bP (by simp;show Gf h7) ?_;lk;have s1':=s1.Yw [.VF [iV R]];apply lQ (s1.fix .V5 rfl) ?_;apply w9 F s1'.XD S.X5 S.cong d (ks:=[R]) (.XB rfl) (Oj j W) zB (by show dg _) (λk w=>by rw[aC.mp w];show X) λM' A' H' r y z=>?_;lk;let(B,G,C,D):=tB S z (Oj j W) .neg λk w=>by rw[aC.mp w];show X
  show l _ _ _ _ (s1'.V7 y) B (T.V7 G) {R,C,U.Yc G} (QH W D) (pV C)
 |b x a b Y Z=>
  intro m M A H P h I f g i j l;obtain⟨m,VC⟩:∃k,m=k+1:={m-1,by show qq9 [_,_,_] [] i};have hx:=f.1;have J:=f.2.1;have hpb:=f.2.2;have g:=(aN (gp _) (gp _)).mp g;apply .ZC (F.fn 38) rfl [V1 (.VG (A .V5)),V1 (eH (.b x a b)),V8] rfl ?_
  focus unfold q8
  lk;apply .Wg rfl (fm h.Vq) ?_;lk;apply .Vj (by simp) (by simp) (v:=.Vn x) rfl ?_;lk;apply⟨VC,?_⟩;lk;apply⟨by show di _,by simp;show P1 h7,?_⟩;lk;apply iJ .Vj (.YB rfl) (.tupS (v:=eH a) rfl (by simp) ?_);lk;apply .Wg rfl (fm h.Vq) ?_;lk;apply Y h I J g.1 (Ov [_,_,_] [] i) (QA j) λL N Q R s1 S T U W X=>?_;apply .tupS (v:=eH b) rfl (by simp;show Gf h7) ?_;lk;apply .Wg rfl (fm s1.Vq) ?_;lk;apply lQ (s1.fix .V5 rfl) ?_;apply Z s1.XD S hpb g.2 (Ou [_,_,_] [] i) (S7 j W) λa0 a1 a2 a3 y a4 a5 a6 a7 a8=>?_;have s12:=s1.V7 y;apply .tupE (by show aM _) ?_;apply .tupleL bP (by simp;show Lf h7) ?_;lk;have s1':=s12.Yw [.VF [iV R,iV a3]];apply lQ (s12.fix .V5 rfl) ?_;have ho:q4 x:=by clear l P;rcases hx with rfl|rfl;show zD;show zC
  letI w:∀k∈[R,a3],k<a2.VB.V0:=λk w=>by
   have:=a5.Wz;clear s1' U;rcases aU.mp w with rfl|w
   .show Of this X
   .rw[aC.mp w];show a8
  apply w9 F s1'.XD a4.X5 a4.cong d (ks:=[R,a3]) (.XB rfl) (Oq j W a7) ho (by show aM _) w λM' A' H' r a9 z=>?_;lk;let(B,G,C,D):=tB a4 z (Oq j W a7) (.two hx) w;show l _ _ _ _ (s1'.V7 a9) B ((T.V7 a5).V7 G) {R,a3,C,(U.Yc a5).Yc G,a6.Yc G} (Tt W a7 D) (pV C)
abbrev Off (c:Cx) (H:HS) (A:Ad) (a:V9):Prop:=∀x,mT c H A x->A x≠a
def Y6.Zp {bF:WC} {b:Ad} {d:HS} {o:O} {a:V9} (s:Y6 c bF b d M A H) (h:bF[a]?=V1 o) (f:Off c d b a):M[a]?=V1 o/\Off c H A a:={s.ZN f h,s.Zv (aB.mp h).1 f}
abbrev pP (c:Cx) (M:WC) (A:Ad) (H:HS) (a C:V9) (vs:V2 V):Prop:=∃d,M[a]?=V1 (.YH C d)/\M[d]?=V1 (.ns ((WG C).Y8 vs))/\Off c H A a/\Off c H A d
def pP.ob {a C:V9} {vs:V2 V} (h:pP c M A H a C vs):Ob M a C vs:=by let(d,b,f,_):=h;show{d,b,f}
def pP.YF {bF:WC} {b:Ad} {f:HS} {a C:V9} {vs:V2 V} (h:pP c bF b f a C vs) (s:Y6 c bF b f M A H):pP c M A H a C vs:=by let(d,g,i,j,k):=h;let(l,m):=s.Zp g j;let(o,p):=s.Zp i k;show{d,l,o,m,p}
abbrev gD:Tm->V2 Vm
 | .c x=>if gr x then [x] else []
 | .u _ a=>gD a
 | .b _ a b=>gD a++gD b
def CP {x:Vm} (e:gr x=V6):gD (.c x)=[x]:=Vw e
def Km {x:Vm} (e:gr x=V3):gD (.c x)=[]:=Vd (e▸aO)
abbrev Tab (c:Cx) (M:WC) (A:Ad) (H:HS) (a:V9) (s:Vm->V9) (vs:V2 Vm):Prop:=
 ∃Vf,M[a]?=V1 (.WD (fO (kdS c.VM c.w) Vf))/\Off c H A a/\∀x∈vs,oZ Vf x=V1 (iV (s x))/\s x<H.VB.V0
def Tab.YF {bF:WC} {b:Ad} {d:HS} {a:V9} {s:Vm->V9} {vs:V2 Vm} (h:Tab c bF b d a s vs) (x:Y6 c bF b d M A H) (G:Xr d H):Tab c M A H a s vs:=by let(Vf,f,g,i):=h;let(j,k):=x.Zp f g;show{Vf,j,k,λy l=>{(i y l).1,aY (i y l).2 G.Wz}}
def Tab.part {a:V9} {s:Vm->V9} {vs b:V2 Vm} (h:Tab c M A H a s vs) (k:∀x∈b,x∈vs):Tab c M A H a s b:=by let(Vf,d,f,g):=h;show{Vf,d,f,λx i=>g x (k x i)}
def NJ {x:Vm} (h:gr x=V6):1<=x.V0:=by
 unfold gr at h;split at h
 .rename_i k hk;show(fR.mp hk).1
 .cases h
def R6 {x:Vm} (h:q4 x):1<=x.V0:=by let(_,k,a,_):=h;show(fR.mp a).1
def ze {p:Tm} (h:mS q p):∀x,p=.c x->1<=x.V0:=by
 rintro x rfl;rcases h with h|h
 .show NJ h
 .show R6 h.op.1
def qt (h:W4 c M A H):Off c H A M.V0:=λx l e=>by have:=h.lt l;show Oi e this
def HR (F:dR c.K) (s:Vm->V9) (d:t<=15000000) {pl tb:V9}:∀(p:Tm) {m:V9} {M:WC} {A:Ad} {H:HS} {P:dQ} (h:W4 c M A H) (I:Inv q t H) (f:mS q p) (g:pP c M A H pl 301 [.VG (A .V5)]) (i:Tab c M A H tb s (gD p)) (j:p.Yi<=m) (l:H.VB.V0+p.VA<=100)
    (o:∀M' A' H' r,Y6 c M A H M' A' H'->Inv q t H'->Xr H H'->f7 H' s p r->H'.VB.V0<=H.VB.V0+p.VA->r<H'.VB.V0->P (iV r) M'),
    aQ c (n+m+5) (.VG 286) [.VG pl,eH p,.VG tb] M P:=by
 have h7:=bJ;intro p
 induction p with
 |c x=>
  intro m M A H P h I f g i j l o;obtain⟨m,VC⟩:∃k,m=k+1:={m-1,by show Ot [_] [] j};apply .ZC (F.fn 16) rfl [V1 (.VG pl),V1 (eH (.c x)),V1 (.VG tb),V8] rfl ?_
  focus unfold nW
  lk;apply iX (n:=n+m+4) F (ze f) ?_;lk;by_cases hv:gr x=V6
  .apply ifY hv ?_;lk;apply .Vj (by simp) (by simp) (v:=.Vn x) rfl ?_;let(Vf,y,z,B):=i;let(C,D):=B x (by rw[CP hv];show cO _);apply .dictK (kd:=kdS c.VM c.w) y C ?_;lk;show o _ _ _ _ (Y6.Vt h) I .Vt (by rw[f7.VQ hv]) (HK) D
  .have hv:gr x=V3:=by simpa using hv
   have hok:nG q (x,[]):=by rcases f with h|h;(rw[hv] at h;cases h);show h
   apply ZL hv ?_;lk;apply .X4 rfl g.ob rfl rfl (fm h.Vq) ?_;lk;apply .Vj (by simp) (by simp) (v:=.Vn x) rfl ?_;lk;apply{VC,?_};lk;apply{by show aM _,by simp;show Gf h7,?_};lk;apply iJ .Vj (.YB rfl) (.tupE (by show aM _) ?_);have s1:=(Y6.Vt h).Yw [.VF []];apply w9 F s1.XD I.X5 I.cong d (ks:=[]) (.Wt (g6 _ rfl bP (qt h))) (Oh l) hok.op.1 (by simp) (λk E=>by cases E) λM' A' H' r J L=>?_;lk;let(N,G,Q,R):=tB I L (Oh l) hok λk E=>by cases E
   show o _ _ _ _ (s1.V7 J) N G (by rw[f7.con hv];show Q) R (pV Q)
 |u x a S=>
  intro m M A H P h I f g i j l o;obtain⟨m,VC⟩:∃k,m=k+1:={m-1,by show Ow [_,_] [] j};let(rfl,T):=f;apply .ZC (F.fn 16) rfl [V1 (.VG pl),V1 (eH (.u kR a)),V1 (.VG tb),V8] rfl ?_
  focus unfold nW
  lk;apply iX (n:=n+m+4) F (λx e=>by cases e) ?_;lk;apply ZL rfl ?_;lk;apply .X4 rfl g.ob rfl rfl (fm h.Vq) ?_;lk;apply .Vj (by simp) (by simp) (v:=.Vn kR) rfl ?_;lk;apply⟨VC,?_⟩;lk;apply⟨by show dg _,by simp;show Lf h7,?_⟩;lk;apply iJ .Vj (.YB rfl) (.tupS (v:=eH a) rfl (by simp) ?_);lk;apply .Wg rfl (fm g.ob) ?_;lk;apply S h I T g i (by show Rt j) (Qm l) λU W X Y s1 Z a0 a1 a2 a3=>?_;apply .tupE (by show aM _) ?_;have s1':=s1.Yw [.VF [iV Y]];apply lQ (s1.fix .V5 rfl) ?_;apply w9 F s1'.XD Z.X5 Z.cong d (ks:=[Y]) (.Wt (g6 _ rfl bP (qt s1.XD))) (Oj l a2) zB (by show dg _) (λk E=>by rw[aC.mp E];show a3) λM' A' H' r J L=>?_;lk;let(N,G,Q,R):=tB Z L (Oj l a2) .neg λk E=>by rw[aC.mp E];show a3
  show o _ _ _ _ (s1'.V7 J) N (a0.V7 G) {Y,Q,a1.Yc G} (QH a2 R) (pV Q)
 |b x a b a4 a5=>
  intro m M A H P h I f g i j l o;obtain⟨m,VC⟩:∃k,m=k+1:={m-1,by show qq9 [_,_,_] [] j};let(a6,T,a7):=f;apply .ZC (F.fn 16) rfl [V1 (.VG pl),V1 (eH (.b x a b)),V1 (.VG tb),V8] rfl ?_
  focus unfold nW
  lk;apply iX (n:=n+m+4) F (λx e=>by cases e) ?_;lk;apply ZL rfl ?_;lk;apply .X4 rfl g.ob rfl rfl (fm h.Vq) ?_;lk;apply .Vj (by simp) (by simp) (v:=.Vn x) rfl ?_;lk;apply⟨VC,?_⟩;lk;apply⟨by show di _,by simp;show P1 h7,?_⟩;lk;apply iJ .Vj (.YB rfl) (.tupS (v:=eH a) rfl (by simp) ?_);lk;apply .Wg rfl (fm g.ob) ?_;lk;apply a4 h I T g (i.part λx a6=>cU _ a6) (Ov [_,_,_] [] j) (QA l) λU W X Y s1 Z a0 a1 a2 a3=>?_;have ho1:=g.YF s1;have hb1:=i.YF s1 a0;apply .tupS (v:=eH b) rfl (by simp;show Gf h7) ?_;lk;apply .Wg rfl (fm ho1.ob) ?_;lk;apply a5 s1.XD Z a7 (by rw[s1.fix .V5 rfl];show ho1) (hb1.part λx a6=>dM _ a6) (Ou [_,_,_] [] j) (S7 l a2) λa8 a9 aa ab J ac ad ae af ag=>?_;have s12:=s1.V7 J;apply .tupE (by show aM _) ?_;have s1':=s12.Yw [.VF [iV Y,iV ab]];apply lQ (s12.fix .V5 rfl) ?_;have hx':q4 x:=by clear hb1 o i P;rcases a6 with rfl|rfl;show zD;show zC
  have E:∀k∈[Y,ab],k<aa.VB.V0:=λk E=>by
   have:=ad.Wz;clear s1' a1;rcases aU.mp E with rfl|E
   .show Of this a3
   .rw[aC.mp E];show ag
  apply w9 F s1'.XD ac.X5 ac.cong d (ks:=[Y,ab]) (.Wt (g6 _ rfl bP (qt J.XD))) (Oq l a2 af) hx' (by show aM _) E λM' A' H' r ah L=>?_;lk;let(N,G,Q,R):=tB ac L (Oq l a2 af) (.two a6) E;show o _ _ _ _ (s1'.V7 ah) N ((a0.V7 ad).V7 G) {Y,ab,Q,(a1.Yc ad).Yc G,ae.Yc G} (Tt a2 af R) (pV Q)
nonrec abbrev Tb:=V2 (Vm×V9)
abbrev r5 (r:Tb):V2 (Vm×V):=r.VP λx=>(x.1,iV x.2)
abbrev jm (r:Tb) (x:Vm):VK V9:=(r.ZS λy=>decide (y.1=x)).VP (·.2)
abbrev yb (r:Tb) (x:Vm) (v:V9):Tb:=if r.any (λy=>decide (y.1=x)) then r.VP (λy=>if y.1=x then (y.1,v) else y) else r++[(x,v)]
def zq {x:Vm}:∀{r:Tb},oZ (r5 r) x=(jm r x).VP iV:=λ{r}=>by
 induction r with
 |VH=>rfl
 |V4 y r a=>
  unfold oZ jm r5 at *
  focus rw[bT,dj,dj]
  by_cases q:y.1=x
  .rw[Vs q];rfl
  .rw[Vk q];show a
def F7 {x:Vm} {v:V9} {r:Tb}:zm (r5 r) x (iV v)=r5 (yb r x v):=by
 focus unfold zm yb r5
 have e:(r.VP λx=>(x.1,iV x.2)).any (λy=>decide (y.1=x))=r.any λy=>decide (y.1=x):=by rw[yr];rfl
 rw[e];split
 .rw[cB,cB];apply cL λy _=>?_
  focus simp only[kF]
  split<;>rfl
 .rw[bD];rfl
def u7 {r:Tb} {x y:Vm} {v:V9}:jm (yb r x v) y=if y=x then V1 v else jm r y:=by
 focus unfold yb
 by_cases h:r.any (λz=>decide (z.1=x))=V6
 .rw[Vw h]
  focus unfold jm
  induction r with
  |VH=>cases h
  |V4 z r a=>
   focus rw[bT,dj,dj]
   have e:(if z.1=x then (z.1,v) else z).1=z.1:=by split<;>rfl
   rw[e];by_cases q:z.1=y
   .rw[Vs q];clear a;subst q
    focus simp only[iM]
    split<;>rfl
   .rw[Vk q]
    focus simp only
    rw[V2.any_cons,gM] at h;rcases h with h|h
    .have hx:z.1=x:=by simpa using h
     by_cases h2:r.any (λz=>decide (z.1=x))=V6
     .show a h2
     .rw[Vd (λw=>q (by show eZ (hx) (w).Vh))]
      congr 1
      congr 1
      conv=>rhs;rw[<-qI r]
      apply cL λw b=>?_;rw[Vd];rfl;intro c;show h2 (iC.WO {w,b,by show Vs ‹_›})
    .show a h
 .rw[Vd h]
  focus unfold jm
  rw[V2.find?_append];have hn:∀z∈r,z.1≠x:=λz hz e=>h (iC.WO {z,hz,by simp[e]});by_cases q:y=x
  .clear h;subst q;rw[xr.WO λz hz=>by simp[hn z hz],Vw rfl];simp
  .rw[Vd q];cases r.ZS λz=>decide (z.1=y) with
   |V1 w=>rfl
   |V8=>simp[fP q]
def KA {r:Tb} {x:Vm} {v:V9}:(yb r x v).V0<=r.V0+1:=by unfold yb;split<;>(first|(rw[aH];show cC _)|simp)
def I3 {r:Tb} {x:Vm} {v:V9} (h:(r.VP (·.1)).WF):((yb r x v).VP (·.1)).WF:=by
 unfold yb;split
 .have e:(r.VP λy=>if y.1=x then (y.1,v) else y).VP (·.1)=r.VP (·.1):=by rw[cB];apply cL λy _=>?_;simp only[kF];split<;>rfl
  rw[e];show h
 .rename_i hn
  rw[bD,fL];apply fq h (by show W1 rfl) λa ha b c q=>hn ?_;let(y,d,VC):=aK.mp ha;simp at c;show iC.WO {y,d,by simp[q,c]}
structure Gd (N:V9) (p:Tm) (Vf r:Tb):Prop where
 ext:∀x v,jm Vf x=V1 v->jm r x=V1 v
 cov:∀x∈gD p,∃v,jm r x=V1 v
 new:∀x v,jm r x=V1 v->jm Vf x=V1 v\/(x∈gD p/\v<N)
 keys:(Vf.VP (·.1)).WF->(r.VP (·.1)).WF
 Wz:r.V0<=Vf.V0+(gD p).V0
abbrev Agr (H:HS) (s:Vm->V9) (r:Tb):Prop:=∀x v,jm r x=V1 v->v=VX H.VR (s x)
abbrev kb (N:V9):Tm->V9
 | .c _=>1
 | .u _ a=>(if iW a then 1 else N*kb N a)
 | .b _ a b=>(if iW a then 1 else N*kb N a)*(if iW b then 1 else N*kb N b)
abbrev cn (N:V9) (p:Tm):V9:=if iW p then 1 else N*kb N p
def Gd.VH {N:V9} {p:Tm} {Vf:Tb} (h:gD p=[]):Gd N p Vf Vf:={λ_ _ h=>h,by rw[h];show λ_ h=>by(cases h),λ_ _ h=>.XB h,λh=>h,Ge}
def Gd.cat {N:V9} {p a b:Tm} {Vf r c:Tb} (h:gD p=gD a++gD b) (d:Gd N a Vf r) (e:Gd N b r c):Gd N p Vf c where
 ext x v hx:=e.ext x v (d.ext x v hx)
 cov x hx:=by
  rw[h] at hx;rcases aW.mp hx with hx|hx
  .let(v,hv):=d.cov x hx;show{v,e.ext x v hv}
  .show e.cov x hx
 new x v hx:=by
  rw[h];rcases e.new x v hx with h2|⟨h2,h3⟩
  .rcases d.new x v h2 with h4|⟨h4,h5⟩
   .show .XB h4
   .show .Wt {cU _ h4,h5}
  .show .Wt {dM _ h2,h3}
 keys hk:=e.keys (d.keys hk)
 Wz:=by have:=d.Wz;have:=e.Wz;rw[h,aH];show bY [.l V3 (.v 0) (.p (.v 1) (.v 2)),.l V3 (.v 3) (.p (.v 0) (.v 4))] (.l V3 (.v 3) (.p (.v 1) (.p (.v 2) (.v 4)))) [[1,1,1]] tt [_,_,_,_,_] [] (by assumption) this
def Gd.same {N:V9} {p a:Tm} {Vf r:Tb} (h:gD p=gD a) (g:Gd N a Vf r):Gd N p Vf r:={g.ext,by rw[h];show g.cov,by rw[h];show g.new,g.keys,by rw[h];show g.Wz}
structure Spec (H:HS) (p:Tm) (k:V9) (Vf:Tb) (L:V2 Tb) (bound:V9):Prop where
 Yp:∀r∈L,Gd H.VB.V0 p Vf r
 Z4:∀s i,i<H.VB.V0->VX H.VR i=k->f7 H s p i->Agr H s Vf->∃r∈L,Agr H s r
 cnt:L.V0<=bound
abbrev Wa (M M':WC):Prop:=∀(a:V9) o,M[a]?=V1 o->M'[a]?=V1 o
def Wa.Vt:Wa M M:=λ_ _ h=>h
def Wa.V7 {M' b:WC} (h:Wa M M') (g:Wa M' b):Wa M b:=λa o e=>g a o (h a o e)
def Wa.Ww (G:WC):Wa M (M++G):=λa o h=>by rw[bV (aB.mp h).1];show h
def Wa.Wz {M':WC} (h:Wa M M'):M.V0<=M'.V0:=by
 cases q:M.V0 with
 |WM=>show e9 [] {0,.n 0,.a} [1] [] tt
 |Wh k=>
  have:=h k _ (aI (dX [{2,.a,.p .b (.n 1)}] {1,.b,.a} [1,0,1] [] tt q));have:=(aB.mp this).1;show PL this
def W4.Ya {M':WC} (h:W4 c M A H) (g:Wa M M'):W4 c M' A H:={λx o e=>g _ _ (h.X8 x o e),h.inj}
def Ob.Ya {M':WC} {a C vs} (h:Ob M a C vs) (g:Wa M M'):Ob M' a C vs:=by let(d,b,e):=h;show{d,g _ _ b,g _ _ e}
nonrec abbrev dT (c:Cx) (r:Tb):O:=.WD (fO (kdS c.VM c.w) (r5 r))
abbrev iO (c:Cx) (b:V9) (M:WC) (Ls:V2 (V9×Tb)):Prop:=∀x∈Ls,b<=x.1/\M[x.1]?=V1 (dT c x.2)
nonrec abbrev ie (Ls:V2 (V9×Tb)):V2 V:=Ls.VP λx=>.VG x.1
def iO.Ya {M':WC} {b:V9} {Ls} (h:iO c b M Ls) (g:Wa M M'):iO c b M' Ls:=λx a=>{(h x a).1,g _ _ (h x a).2}
abbrev I1 (c:Cx) (m:V9) (A:Ad) (H:HS) (wk:V9) (p:Tm):Prop:=
 ∀(b:V9) (M:WC) (tb:V9) (Vf:Tb) (k:V9) (P:dQ),W4 c M A H->Ob M wk 236 [.VG (A .V5)]->M[tb]?=V1 (dT c Vf)->(Vf.VP (·.1)).WF->Vf.V0+(gD p).V0<=100->H.VR[k]?=V1 k->b<=tb->b<=M.V0->
  (∀M' a Ls,Wa M M'->M.V0<=a->M'[a]?=V1 (.VF (ie Ls))->iO c b M' Ls->Spec H p k Vf (Ls.VP (·.2)) (cn H.VB.V0 p)->(iW p=V3->Ls.V0<=(H.Wd.Wn k []).V0*kb H.VB.V0 p)->P (.VG a) M')->aQ c m (.VG 221) [.VG wk,.VG tb,iV k,eH p] M P
structure TSpec (H:HS) (p:Tm) (k:V9) (Ls Ls':V2 Tb):Prop where
 Yp:∀r'∈Ls',∃r∈Ls,Gd H.VB.V0 p r r'
 Z4:∀s i,i<H.VB.V0->VX H.VR i=k->f7 H s p i->(∃r∈Ls,Agr H s r)->∃r∈Ls',Agr H s r
 cnt:Ls'.V0<=Ls.V0*cn H.VB.V0 p
def TSpec.snoc {p:Tm} {k:V9} {Ls a L:V2 Tb} {r:Tb} (T:TSpec H p k Ls a) (S:Spec H p k r L (cn H.VB.V0 p)):TSpec H p k (Ls++[r]) (a++L) where
 Yp r' h:=by
  rcases aW.mp h with h|h
  .let(x,b,d):=T.Yp r' h;show aV x (cU _ b) d
  .show aV r (by show dM _ (.WI _)) (S.Yp r' h)
 Z4 s i hi hr hp:=by
  rintro⟨x,hx,ha⟩;rcases aW.mp hx with hx|hx
  .let(y,b,d):=T.Z4 s i hi hr hp (aV x hx ha);show aV y (cU _ b) d
  .rw[aC.mp hx] at ha;let(y,b,d):=S.Z4 s i hi hr hp ha;show aV y (dM _ b) d
 cnt:=by rw[aH,aH,jJ,om];show V9.add_le_add T.cnt (aG S.cnt (bX (oh _).Vh))
def I4 {m wk k f b:V9} {a:Tm} {σ:YY} {Ls:V2 (V9×Tb)} {C:V2 V->WC->Prop} {bF:WC} (E:I1 c m A H wk a) (h:W4 c bF A H) (g:Ob bF wk 236 [.VG (A .V5)]) (q:∀x∈Ls,(x.2.VP (·.1)).WF/\x.2.V0+(gD a).V0<=100) (s:H.VR[k]?=V1 k)
    (t:bF[f]?=V1 (.VF (ie Ls))) (T:iO c b bF Ls) (w:b<=bF.V0) (z:Ls.V0*cn H.VB.V0 a<=1000000)
    (B:XP σ 0=V1 (.VG wk)) (D:XP σ 9=V1 (iV k)) (F:XP σ 10=V1 (eH a)) (G:XP σ 11=V8) (I:XP σ 12=V8) (J:σ.V0=13)
    (XR:∀M' K,Wa bF M'->iO c b M' K->TSpec H a k (Ls.VP (·.2)) (K.VP (·.2))->C (ie K) M'):
    sU c m (.VQ 12) (.Ws 11) (.Ws 12) (.W3 (.XG 236 221) (.VQ 0) (.V4 (.VQ 11) (.V4 (.VQ 9) (.V4 (.VQ 10) .VH)))) (.VF f 0) [] σ bF C:=by
 have h7:=bJ
 suffices X:∀(L i:V9) (M:WC) (N:V2 (V9×Tb)),i+L=Ls.V0->Wa bF M->iO c b M N->TSpec H a k ((Ls.WU i).VP (·.2)) (N.VP (·.2))->
     sU c m (.VQ 12) (.Ws 11) (.Ws 12) (.W3 (.XG 236 221) (.VQ 0) (.V4 (.VQ 11) (.V4 (.VQ 9) (.V4 (.VQ 10) .VH)))) (.VF f i) (ie N) σ M C from
  X Ls.V0 0 bF [] (qq5) .Vt (λx Q=>by cases Q) ⟨λ_ h=>(by cases h),λ_ _ _ _ _ R=>by let(_,h,_):=R;show(by cases h),by show dP _⟩
 intro L
 induction L with
 |WM=>
  intro i M N hi o U ts;have e:i=Ls.V0:=AZ hi;clear hi;subst e;rw[cV] at ts;show .YS (.V8 (.listEnd (k':=.VF f 0) (o _ _ t) (by simp))) (XR M N o U ts)
 |Wh L W=>
  intro i M N hi o U ts;obtain⟨⟨d,r⟩,Q⟩:∃x,Ls[i]?=V1 x:={_,aI (qq6 hi)};have hm:=aF Q
  have accz:N.V0<=1000000:=by have:=ts.cnt;rw[aE,aE,dF] at this;have h2:gu i Ls.V0*cn H.VB.V0 a<=Ls.V0*cn H.VB.V0 a:=d9 _ (P6 [_,_] []);show RE z this h2
  apply .WL (.VF (.Zx (o _ _ t) (v:=.VG d) (by simp[ie,Q]))) (by rw[aE];show Ol h7 accz) ?_;apply bindO_i (le_i G ?_);have look_ne:∀(j:V9) v,j≠11->XP σ j=V1 v->XP (YA σ 11 (.VG d)) j=V1 v:=λj v Y e=>(ja G).XP e;apply .Wg (look_ne 0 _ (λe=>o6 [{2,.n 0,.n 11}] {5,.n 0,.n 0} [11,0,1] [] tt e) B) (fm (g.Ya o)) ?_;have l11':XP (YA σ 11 (V.VG d)) 11=V1 (.VG d):=pK (by rw[J];decide);apply Ap.ZP (Xp.var_i l11' (Ap.ZP (Xp.var_i (look_ne 9 _ (λe=>o6 [{2,.n 9,.n 11}] {5,.n 0,.n 0} [2,0,1] [] tt e) D) (Ap.ZP (Xp.var_i (look_ne 10 _ (λe=>o6 [{2,.n 10,.n 11}] {5,.n 0,.n 0} [1,0,1] [] tt e) F) (Ap.ZR ?_))))));apply E b M d r k _ (h.Ya o) (g.Ya o) ((T.Ya o) _ hm).2 (q _ hm).1 (q _ hm).2 s (T _ hm).1 (aG w o.Wz) λM' Z a0 a1 a2 ha a3 S _=>?_;apply qs _ _ rfl (.VF ha) ?_;have l12':XP (YA σ 11 (V.VG d)) 12=V8:=(pJ (by decide)).V7 I;have l12v:∀v,XP (YA (YA σ 11 (V.VG d)) 12 v) 12=V1 v:=λv=>pK (by rw[sZ,J];decide)
  letI a4:TSpec H a k ((Ls.WU (i+1)).VP (·.2)) ((N++a0).VP (·.2)):=by rw[cF,Q,bD,bD];show ts.snoc S
  letI a5:(N++a0).V0<=1000000:=by have:=a4.cnt;rw[aE,aE,dF] at this;have h2:gu (i+1) Ls.V0*cn H.VB.V0 a<=Ls.V0*cn H.VB.V0 a:=d9 _ (bY [] (.l V3 (.u (.p (.v 0) (.n 1)) (.v 1)) (.v 1)) [[1,1],[0,1]] tt [_,_] []);show RE z this h2
  rw[aH] at a5;apply fk.Z6 (xs:=ie a0) (λj ys a6=>ys=ie N++ie (a0.WU j)/\a6=M') (λj v ys a6 a7 hv a8 a9=>?_) (λys a6 a8=>?_) a0.V0 0 _ _ (by simp[ie]) {by show(cJ _).Vh,VC}
  .clear a3 a1;let(rfl,VC):=a8;apply fq ha (by simp only[aH,aE,dF];show TF [_,_,_,_] [] h7 a5) ?_;apply bindO_i (le_i l12' (Ip.ZR (ifT (Xp.var_i (l12v v) (a9 _ _ {?_,VC})))));unfold ie at hv⊢;rw[bC] at hv;cases e:a0[j]? with
   |V8=>rw[e] at hv;cases hv
   |V1 y=>
    rw[e] at hv;cases hv;rw[cF,e,bD,aR];rfl
  .let(rfl,VC):=a8;apply{ha,?_}
   have e:ie N++ie (a0.WU (ie a0).V0)=ie (N++a0):=by unfold ie;rw[aE,cV,bD]
   rw[e]
   show W (i+1) _ (N++a0) (qq3 hi) (o.V7 a1) (λx Q=>by
    rcases aW.mp Q with Q|Q
    .show U.Ya a1 x Q
    .show a3 x Q) a4
def EO {v:V} {σ:YY}:∀{τ:YY} {k:V9},k<τ.V0->Le σ τ->Le (YA σ k v) (YA τ k v):=by
 induction σ with
 |VH=>intro τ k _ _;trivial
 |V4 x σ a=>
  intro τ k q h;cases τ with
  |VH=>cases q
  |V4 y τ=>
   cases x with
   |V8=>
    cases k with
    |WM=>show{VC,h}
    |Wh k=>show a (τ:=τ) (k:=k) (f5 q) h
   |V1 x=>
    cases k with
    |WM=>show{VC,h.2}
    |Wh k=>show{h.1,a (τ:=τ) (k:=k) (f5 q) h.2}
nonrec abbrev vm:Bp:=.V4 (.asgC 8 (.two (.VQ 12) (.Ws 11) (.VQ 8) (.Ws 12) (.W3 (.XG 236 221) (.VQ 0) (.V4 (.VQ 11) (.V4 (.VQ 9) (.V4 (.VQ 10) .VH)))))) .VH
def yX {m wk k d f i j t l b:V9} {a:Tm} {σ:YY} {Ls:V2 (V9×Tb)} {F:iD} {xs ys:V2 V} {bF:WC} (E:I1 c m A H wk a) (h:W4 c bF A H) (g:Ob bF wk 236 [.VG (A .V5)]) (p:∀x∈Ls,(x.2.VP (·.1)).WF/\x.2.V0+(gD a).V0<=100) (r:H.VR[k]?=V1 k)
    (o:Wa bF M) (u:bF.V0<=i) (v:bF.V0<=j) (w:i≠j)
    (hz:M[f]?=V1 (.it (.Y8 i j t))) (hi:M[i]?=V1 (.it (.Vj xs l))) (y:M[j]?=V1 (.it (.Vj ys l))) (B:M[t]?=V1 (.it .pair)) (C:xs[l]?=V1 (iV k)) (D:ys[l]?=V1 (eH a))
    (G:M[d]?=V1 (.VF (ie Ls))) (T:iO c b M Ls) (I:b<=bF.V0) (z:Ls.V0*cn H.VB.V0 a<=1000000)
    (J:XP σ 0=V1 (.VG wk)) (K:XP σ 8=V1 (.VG d)) (L:XP σ 9=V8) (N:XP σ 10=V8) (Q:XP σ 11=V8) (R:XP σ 12=V8) (S:σ.V0=13)
    (next:∀M' U W,Wa bF M'->(∀b o,b≠i->b≠j->M[b]?=V1 o->M'[b]?=V1 o)->M'[i]?=V1 (.it (.Vj xs (l+1)))->M'[j]?=V1 (.it (.Vj ys (l+1)))->M'[W]?=V1 (.VF (ie U))->iO c b M' U->TSpec H a k (Ls.VP (·.2)) (U.VP (·.2))->
     jS c m (.Xn [9,10]) vm (.XG f) (YA σ 8 (.VG W)) M' F):
    jS c m (.Xn [9,10]) vm (.XG f) σ M F:=by
 letI X:=(aB.mp hi).1;have hjl:=(aB.mp y).1;apply .stepW (lF.zipItem hz hi y B w C D) ?_;generalize Y:(M.Wb i (.it (.Vj xs (l+1)))).Wb j (.it (.Vj ys (l+1)))=M1
 letI Z:∀b o,b≠i->b≠j->M[b]?=V1 o->M1[b]?=V1 o:=λb o a0 a1 e=>by rw[<-Y,aL (fP a1),aL (fP a0)];show e
 have i1:M1[i]?=V1 (.it (.Vj xs (l+1))):=by rw[<-Y,aL (fP w),bK X]
 have j1:M1[j]?=V1 (.it (.Vj ys (l+1))):=by rw[<-Y,bK (by simpa using hjl)]
 letI a2:Wa bF M1:=λb o' e=>by have lb:=(aB.mp e).1;show Z b o' (λe=>Rv u lb e) (λe=>Rv v lb e) (o b o' e)
 have kindL:∀b a3,M[b]?=V1 (O.VF a3)->M1[b]?=V1 (O.VF a3):=λb a3 e=>Z b _ (λq=>by rw[q,hi] at e;cases e) (λq=>by rw[q,y] at e;cases e) e;have kindD:∀b es,M[b]?=V1 (O.WD es)->M1[b]?=V1 (O.WD es):=λb es e=>Z b _ (λq=>by rw[q,hi] at e;cases e) (λq=>by rw[q,y] at e;cases e) e;letI a4:iO c b M1 Ls:=λx C=>{(T x C).1,kindD _ _ (T x C).2};apply bindM_i (ZX {VC,?_})
 letI a5:∀s,XP (ye σ [9,10] [iV k,eH a]) s=if s=10 then V1 (eH a) else if s=9 then V1 (iV k) else XP σ s:=λs=>by
  focus change XP (YA (YA σ 9 (iV k)) 10 (eH a)) s=_
  by_cases q:s=10
  .subst q;rw[Vw rfl,pK (by rw[sZ,S];show o6 [] {1,.n 10,.n 13} [1] [] tt)]
  .rw[Vd q,pJ q];by_cases q2:s=9
   .clear q;subst q2;rw[Vw rfl,pK (by rw[S];show o6 [] {1,.n 9,.n 13} [1] [] tt)]
   .show eZ (Vd q2).Vh (VN _ (pJ q2))
 apply Bp.ZP (Sp.asgC_i (Cp.two_i (fq (by change XP _ 11=V8;rw[a5];show Q) (by change XP _ 12=V8;rw[a5];show R) (Xp.var_i (by rw[a5];show K) (qs _ _ (.VF (kindL _ _ G)) (.YB rfl) ?_)))));apply I4 E (h.Ya a2) (g.Ya a2) p r (kindL _ _ G) a4 (aG I a2.Wz) z (by rw[a5];show J) (by rw[a5];rfl) (by rw[a5];rfl) (by rw[a5];show Q) (by rw[a5];show R) (by change(YA (YA σ 9 _) 10 _).V0=13;rw[sZ,sZ,S]) λM' U a6 a7 ts=>?_;apply YN (Bp.ZR ?_)
 focus change ∃a8,Le a8 _/\jS _ _ _ _ _ a8 _ _
 apply aV (YA σ 8 (.VG M'.V0)) (EO ?_ ?_) (next _ U _ ((a2.V7 a6).V7 (Wa.Ww _)) (λb o a0 a1 e=>(a6.V7 (Wa.Ww _)) _ _ (Z b o a0 a1 e)) ((a6.V7 (Wa.Ww _)) _ _ i1) ((a6.V7 (Wa.Ww _)) _ _ j1) bP (a7.Ya (Wa.Ww _)) ts)
 .change 8<(YA (YA σ 9 _) 10 _).V0;rw[sZ,sZ,S];show o6 [] {1,.n 8,.n 13} [1] [] tt
 .show Le.V7 (ja L) (ja (by rw[pJ (by show λe=>o6 [{2,.n 10,.n 9}] {5,.n 0,.n 0} [1,1] [] tt e)];show N))
structure NSpec (H:HS) (p:Tm) (Vf:Tb) (nd:fK) (L:V2 Tb):Prop where
 Yp:∀r∈L,Gd H.VB.V0 p Vf r
 Z4:∀s i nd0,H.VB[i]?=V1 nd0->eW H.VR nd0=nd->f7 H s p i->Agr H s Vf->∃r∈L,Agr H s r
 cnt:L.V0<=kb H.VB.V0 p
structure LSpec (H:HS) (p:Tm) (Vf:Tb) (nds:V2 fK) (L:V2 Tb):Prop where
 Yp:∀r∈L,Gd H.VB.V0 p Vf r
 Z4:∀nd∈nds,∀s i nd0,H.VB[i]?=V1 nd0->eW H.VR nd0=nd->f7 H s p i->Agr H s Vf->∃r∈L,Agr H s r
 cnt:L.V0<=nds.V0*kb H.VB.V0 p
def LSpec.snoc {p:Tm} {Vf:Tb} {a:V2 fK} {nd:fK} {L b:V2 Tb} (S:LSpec H p Vf a L) (T:NSpec H p Vf nd b):LSpec H p Vf (a++[nd]) (L++b) where
 Yp r h:=by
  rcases aW.mp h with h|h
  .show S.Yp r h
  .show T.Yp r h
 Z4 x hx s i nd0 h1 h2 h3 h4:=by
  rcases aW.mp hx with hx|hx
  .let(r,d,ha):=S.Z4 x hx s i nd0 h1 h2 h3 h4;show aV r (cU _ d) ha
  .rw[aC.mp hx] at h2;let(r,d,ha):=T.Z4 s i nd0 h1 h2 h3 h4;show aV r (dM _ d) ha
 cnt:=by rw[aH,aH,jJ,om];show V9.add_le_add S.cnt (aG T.cnt (bX (oh _).Vh))
def Gs {m b:V9} {p:Tm} {Vf:Tb} {σ:YY} {ys:V2 fK} {WK:Bp} {F:iD}
    (z:ys.V0*kb H.VB.V0 p<=1000000)
    (WL:∀nd∈ys,∀(M':WC) (d:V2 (V9×Tb)) (f:YY->WC->Prop),Wa M M'->M.V0+2<=M'.V0->M'[M.V0]?=V1 (.VF (ie d))->iO c b M' d->d.V0<=1000000->
     (∀g L,Wa M g->M'.V0<=g.V0->g[M.V0]?=V1 (.VF (ie (d++L)))->(∀j k,M'[j]?=V1 (.VF k)->j≠M.V0->g[j]?=V1 (.VF k))->iO c b g (d++L)->NSpec H p Vf nd (L.VP (·.2))->f σ g)->
     WK.wp c m (YA σ 7 (iu nd)) M' (u5 (wkS f) F))
    (XR:∀M' d,Wa M M'->M'[M.V0]?=V1 (.VF (ie d))->iO c b M' d->LSpec H p Vf ys (d.VP (·.2))->F .Wo σ M'):
    jS c m (.Ws 7) WK (.VF (M.V0+1) 0) σ (M++[.VF []]++[.VF (ys.VP iu)]) F:=by
 apply jS.Z6 (xs:=ys.VP iu) (λi σ' M'=>σ'=σ/\∃d,Wa M M'/\M.V0+2<=M'.V0/\M'[M.V0]?=V1 (.VF (ie d))/\M'[M.V0+1]?=V1 (.VF (ys.VP iu))/\iO c b M' d/\LSpec H p Vf (ys.WU i) (d.VP (·.2)))
  (λi v σ' M' f hv q r=>?_) (λσ' M' q=>?_) ys.V0 0 σ _ (by simp) ⟨VC,[],(Wa.Ww _).V7 (Wa.Ww _),by simp,?_,by show apa,λx s=>(by cases s),⟨λ_ h=>(by cases h),λ_ h=>(by cases h),by show dP _⟩⟩
 .clear XR;let(rfl,d,o,l,u,w,t,S):=q;apply{w,?_};rw[bC] at hv;cases e:ys[i]? with
  |V8=>rw[e] at hv;cases hv
  |V1 nd=>
   rw[e] at hv;cases hv;have hc:=S.cnt;rw[aE,dF] at hc;have h3:gu i ys.V0*kb H.VB.V0 p<=ys.V0*kb H.VB.V0 p:=d9 _ (P6 [_,_] []);apply bindO_i (WL nd (aF e) M' d f o l u t (RE z hc h3) λg L y B C D E G=>r _ _ {VC,d++L,y,fG [{0,.p .a (.n 2),.b},{0,.b,.c}] {0,.p .a (.n 2),.c} [1,1,1] [] tt l B,C,D _ _ w (λe=>e9 [{2,.p .a (.n 1),.a}] {5,.n 0,.n 0} [1,1] [] tt e),E,?_});rw[cF,e,bD];show S.snoc G
 .clear WL WK m;let(rfl,d,o,l,u,w,t,S):=q;rw[aE,cV] at S;show{w,XR M' d o u t S}
 .rw[bV (by(rw[aH];show cC _))];show eK
nonrec abbrev IA:Bp:=(.V4 (.ZK (.and (.Ye .eqS (.We (.VQ 7) (.Vl 0)) (.VQ 4)) (.Ye .eqI (.Vu (.Va "len") (.V4 (.VQ 7) .VH)) (.Vu (.Va "len") (.V4 (.VQ 3) .VH)))) (.V4 (.Yt 8 (.ZZ (.V4 (.VQ 1) .VH))) (.V4 (.for (.Xn [9,10]) (.Vu (.W5 "zip") (.V4 (.from (.VQ 7) 1) (.V4 (.from (.VQ 3) 1) .VH))) vm) (.V4 (.Xt (.W3 .Zc (.VQ 6) (.V4 (.VQ 8) .VH))) .VH))) .VH) .VH)
nonrec abbrev qX (wk tb k:V9) (x:Vm) (vs:V2 V) (a:V9):YY:=[V1 (.VG wk),V1 (.VG tb),V1 (iV k),V1 (.Vj (.Vn x::vs)),V1 (.Vn x),V8,V1 (.VG a),V8,V8,V8,V8,V8,V8]
abbrev Fq (c:Cx) (m:V9) (A:Ad) (H:HS) (wk:V9) (p:Tm) (x:Vm) (vs:V2 V):Prop:=
 ∀(b:V9) (M:WC) (tb k:V9) (Vf:Tb) (a:V9) (M':WC) (d:V2 (V9×Tb)) (f:YY->WC->Prop) (F:iD) (i:V9) (nd:fK),W4 c M A H->Ob M wk 236 [.VG (A .V5)]->M[tb]?=V1 (dT c Vf)->(Vf.VP (·.1)).WF->Vf.V0+(gD p).V0<=100->b<=tb->b<=M.V0->
  H.VB[i]?=V1 nd->M.V0<=a->Wa M M'->M'[a]?=V1 (.VF (ie d))->iO c b M' d->d.V0<=1000000->
  (∀g L,Wa M g->M'.V0<=g.V0->g[a]?=V1 (.VF (ie (d++L)))->(∀h j,M'[h]?=V1 (.VF j)->h≠a->g[h]?=V1 (.VF j))->iO c b g (d++L)->NSpec H p Vf (eW H.VR nd) (L.VP (·.2))->f (qX wk tb k x vs a) g)->
  IA.wp c m (YA (qX wk tb k x vs a) 7 (iu (eW H.VR nd))) M' (u5 (wkS f) F)
def Se (a:Wu t e H) {k:V9} {l:V2 V9} (b:H.VR[k]?=V1 k) (d:H.Wd[k]?=V1 l):l.V0<=H.VB.V0:=zJ (a.lotd k l b d) (a.lotz k l d).2
def rI (F:dR c.K) {p:Tm} {v:V} (e:eH p=v) (a:∀x,p=.c x->1<=x.V0) (q:P (.WW (iW p)) M):aQ c (n+1) (.VG 86) [v] M P:=e▸iX F a q
def Aj (F:dR c.K) (d:Wu t e H) (f:t<=15000000) {wk m:V9} {p:Tm} {x:Vm} {vs:V2 V} (g:eH p=.Vj (.Vn x::vs)) (j:mS q p) (hv:iW p=V3) (z:cn H.VB.V0 p<=1000000)
    (WL:Fq c (n+m+5) A H wk p x vs):I1 c (n+m+5+1) A H wk p:=by
 intro b M tb Vf k P h u w y hs B C D E;have pn:=d.Xx;letI G:=(aB.mp B).1;let(l,I):=yJ d (r:=k) (Ey pn G);have rk:=qj d.VR B;have zl:=(d.lotz k l I).1;letI J:=Se d B I;have hcn:cn H.VB.V0 p=H.VB.V0*kb H.VB.V0 p:=by unfold cn;rw[hv];rfl
 rw[g];apply .ZC (F.fn 11) rfl [V1 (.VG wk),V1 (.VG tb),V1 (iV k),V1 (.Vj (.Vn x::vs)),V8,V8,V8,V8,V8,V8,V8,V8,V8] rfl ?_;lk;apply .Vj (by simp) (by simp) (v:=.Vn x) rfl ?_;lk;apply rI (n:=n+m+4) F g (ze j) ?_;lk;apply ZL hv ?_;lk;apply .X4 rfl (u.Ya (Wa.Ww _)) rfl rfl (fm (h.Ya (Wa.Ww _)).Vq) ?_;lk;apply EG (n:=n+m+1) F (h.Ya (Wa.Ww _)) (d.small f) G (by rw[rk];show I) zl d.nz (λi hi=>?_) λys K L=>?_
 .have:=(d.lotz k l I).2 i hi;obtain⟨nd,N⟩:∃nd,H.VB[i]?=V1 nd:={_,aI this};show aV nd N (d.kidlt N)
 have e1:(M++[O.VF []]).V0=M.V0+1:=by show aH
 rw[e1];apply sr (.VF (by rw[<-e1];show bP)) ?_;have zy:ys.V0*kb H.VB.V0 p<=H.VB.V0*kb H.VB.V0 p:=d9 _ (PN J L);apply Gs (H:=H) (b:=b) (p:=p) (Vf:=Vf) (σ:=qX wk tb k x vs M.V0) (fG [{0,.a,.n 1000000},{2,.a,.b},{0,.c,.b}] {0,.c,.n 1000000} [1,1,0,1,1] [] tt z hcn zy) (λnd N M' Q R o l T t U W=>?_) λM' Q o T t S=>?_
 .let(i,X,hi,Y,VC):=(K nd).mp N;show WL b M tb k Vf M.V0 M' Q R _ i X h u w y hs C D Y (aM _) o T t U W
 .apply YN ?_;lk;apply E M' M.V0 Q o (aM _) T t {S.Yp,λs i hi Z j ha=>?_,by have:=S.cnt;rw[hcn];show PN zy this} (λ_=>?_)
  .obtain⟨X,Y⟩:∃nd,H.VB[i]?=V1 nd:={_,aI hi};show S.Z4 (eW H.VR X) ((K _).WO (qs i X ((d.lotm k l B I i hi).WO Z) Y rfl)) s i X Y rfl j ha
  .have T:=S.cnt;rw[aE] at T;rw[yL I];show aG T (d9 _ (Jm L))
def Hl {G:WC} (j:V9):(M++G)[M.V0+j]?=G[j]?:=by rw[dw (by show Ge)];congr 1;show RI [_,_] []
def Wa.Wb {M':WC} {i:V9} {o:O} (h:Wa M M') (l:M.V0<=i):Wa M (M'.Wb i o):=λa o' e=>by have:=(aB.mp e).1;rw[aL (by show λe=>Qh l this e)];show h a o' e
def LN {m wk tb k a d b:V9} {x:Vm} {vs:V2 V} {bF M':WC} {f L:V2 (V9×Tb)} {g:YY->WC->Prop} {F:iD} {p:Tm} {Vf:Tb} {nd:fK} {σ:YY}
    (i:XP σ 6=V1 (.VG a)) (j:XP σ 8=V1 (.VG d)) (r:Le (qX wk tb k x vs a) σ) (s:Wa bF M') (u:bF.V0<=a) (o:Wa M' M) (w:M'[a]?=V1 (.VF (ie f))) (T:iO c b M' f) (z:f.V0<=1000000) (B:L.V0<=1000000)
    (C:M[d]?=V1 (.VF (ie L))) (D:iO c b M L) (S:NSpec H p Vf nd (L.VP (·.2)))
    (E:∀G L,Wa bF G->M'.V0<=G.V0->G[a]?=V1 (.VF (ie (f++L)))->(∀I J,M'[I]?=V1 (.VF J)->I≠a->G[I]?=V1 (.VF J))->iO c b G (f++L)->NSpec H p Vf nd (L.VP (·.2))->g (qX wk tb k x vs a) G):
    (Bp.V4 (.Xt (.W3 .Zc (.VQ 6) (.V4 (.VQ 8) .VH))) .VH).wp c m σ M (u5 (wkS g) F):=by
 have f1:=o _ _ w;letI K:=(aB.mp f1).1;apply Bp.ZP (Sp.expr_i (.Wg i (qQ f1) (Ap.ZP (Xp.var_i j (Ap.ZR ?_)))));apply .Zc f1 C (by rw[aE,aE];show bY [.l V3 (.v 0) (.n 1000000),.l V3 (.v 1) (.n 1000000)] (.l V3 (.p (.v 0) (.v 1)) (.n 16777216)) [[1,1,1]] tt [_,_] [] z B) (YN (Bp.ZR (turnN_i (aV _ r (E _ L ?_ ?_ ?_ ?_ ?_ S)))))
 .show(s.V7 o).Wb u
 .rw[eB];show o.Wz
 .rw[bK K];unfold ie;rw[bD]
 .intro I J e N;rw[aL (fP N)];show o _ _ e
 .intro y Q
  obtain⟨hb,hd⟩:b<=y.1/\M[y.1]?=V1 (dT c y.2):=by
   rcases aW.mp Q with h|h
   .show{(T y h).1,o _ _ (T y h).2}
   .show D y h
  apply{hb,?_};rw[aL (λq=>by rw[q] at f1;rw[f1] at hd;cases hd)];show hd
def NSpec.V8 {p:Tm} {Vf:Tb} {x:Vm} {a:V9} {nd:fK} (h:∀s (i:V9) nd0,H.VB[i]?=V1 nd0->f7 H s p i->nd0.1=x/\nd0.2.V0=a) (b:nd.1=x->nd.2.V0=a->WY):NSpec H p Vf (eW H.VR nd) [] where
 Yp _ h:=by cases h
 Z4 s i nd0 h1 h2 h3 _:=by
  let(d,f):=h s i nd0 h1 h3;have e3:(eW H.VR nd0).1=(eW H.VR nd).1:=by show VN _ (h2)
  have e4:nd0.2.V0=nd.2.V0:=by
   have:(nd0.2.VP (VX H.VR)).V0=(nd.2.VP (VX H.VR)).V0:=by have:=VN yk h2;show VN j7 (show nd0.2.VP (VX H.VR)=nd.2.VP (VX H.VR) from this)
   simpa using this
  show(b (e3.Vh.V7 d) (e4.Vh.V7 f)).W2
 cnt:=dP _
def wQ {m wk:V9} {p:Tm} {x:Vm} {vs:V2 V} (d:Wu t e H) (f:vs.V0<=2) (g:∀s (i:V9) nd0,H.VB[i]?=V1 nd0->f7 H s p i->nd0.1=x/\nd0.2.V0=vs.V0)
    (r:∀(b:V9) (bF:WC) (tb k:V9) (Vf:Tb) (u:V9) (M':WC) (F:iD) (ks:V2 V9) (w:V2 (V9×Tb)),W4 c bF A H->Ob bF wk 236 [.VG (A .V5)]->bF[tb]?=V1 (dT c Vf)->(Vf.VP (·.1)).WF->Vf.V0+(gD p).V0<=100->b<=tb->b<=bF.V0->ks.V0=vs.V0->(∀k∈ks,H.VR[k]?=V1 k)->
     (∃(i:V9) (nd:fK),H.VB[i]?=V1 nd/\eW H.VR nd=(x,ks))->Wa bF M'->∀(XR:∀M σ z L,Wa M' M->Le (qX wk tb k x vs u) σ->XP σ 6=V1 (.VG u)->XP σ 8=V1 (.VG z)->M[z]?=V1 (.VF (ie L))->iO c b M L->L.V0<=1000000->NSpec H p Vf (x,ks) (L.VP (·.2))->F .Wo σ M),
     jS c m (.Xn [9,10]) vm (.XG (M'.V0+4)) (YA (YA (qX wk tb k x vs u) 7 (iu (x,ks))) 8 (.VG M'.V0)) (M'++[.VF [.VG tb]]++[.it (.Vj (XX ks) 0),.it (.Vj vs 0),.it .pair,.it (.Y8 (M'.V0+1) (M'.V0+2) (M'.V0+3))]) F):
    Fq c m A H wk p x vs:=by
 intro b M tb k Vf u M' w B F i nd h C D E hs I J K N o Q T R U;have h7:=bJ;let(W,X):=d.kidlt K;let(op,ks):=nd;have kl:(XX (ks.VP (VX H.VR))).V0=ks.V0:=by rw[cY,aE]
 focus change IA.wp c m (YA (qX wk tb k x vs u) 7 (.Vj (.Vn op::XX (ks.VP (VX H.VR))))) M' _
 have stop:¬(op=x/\ks.V0=vs.V0)->B (qX wk tb k x vs u) M':=λY=>
  U M' [] o (aM _) (by rw[cJ];show Q) (λ_ _ h _=>h) (by rw[cJ];show T) (NSpec.V8 g λZ a0=>Y ⟨Z,a0⟩)
 lk;apply .Vj (by simp) (by simp) (v:=.Vn op) rfl ?_;lk;by_cases ho:op=x
 .clear g;subst ho;apply ifY (by show Wk _) ?_;lk;apply .lenT (by rw[cW,kl];show bY [.l V3 (.v 0) (.n 10)] (.k V3 (.p (.v 0) (.n 1)) (.n 9223372036854775808)) [[1,1]] tt [_] [] W) ?_;lk;apply .lenT (by rw[cW];show bY [.l V3 (.v 0) (.n 2)] (.k V3 (.p (.v 0) (.n 1)) (.n 9223372036854775808)) [[1,1]] tt [_] [] f) ?_;lk;by_cases hl:ks.V0=vs.V0
  .apply ifY (by rw[cW,cW,kl,hl];show Vw rfl) ?_;lk;apply fq (by show di _) (by rw[cW,kl];show fG [{0,.a,.n 2},{2,.b,.n 16777216},{2,.c,.a}] {0,.p .c (.n 1),.b} [16777216,16777216,0,3,16777216] [] tt f h7 hl) ?_;lk;apply fq (by show di _) (by rw[cW];show dX [{0,.a,.n 2},{2,.b,.n 16777216}] {0,.p .a (.n 1),.b} [16777216,16777216,0,3] [] tt f h7) ?_;lk;apply .zipT ?_;have l1:(M'++[O.VF [V.VG tb]]).V0=M'.V0+1:=by show aH
   rw[l1];apply sr (.ownZ (i:=M'.V0+1) (j:=M'.V0+2) (t:=M'.V0+3) (by have:=Hl (M:=M'++[O.VF [V.VG tb]]) (G:=[.it (.Vj (XX (ks.VP (VX H.VR))) 0),.it (.Vj vs 0),.it .pair,.it (.Y8 (M'.V0+1) (M'.V0+2) (M'.V0+3))]) 3;rw[l1] at this;show this)) ?_;apply r b M tb k Vf u M' _ (ks.VP (VX H.VR)) w h C D E hs I J (by rw[aE];show hl) (λj a1=>?_) (kW i _ K rfl) o λa2 σ z L a3 a4 a5 a6 a7 a8 a9 S=>?_
   .let(y,aa,VC):=aK.mp a1;show lN d.VR y (X y aa)
   .apply YN ?_;show LN a5 a6 a4 o N a3 Q T R a9 a7 a8 S U
  .apply ZL (by rw[cW,cW,kl];simp;show K5 [_,_] [] hl) ?_;lk;show aV _ (ja rfl) (stop λq=>hl q.2)
 .apply ZL (by show Vd ‹_›) ?_;lk;show aV _ (ja rfl) (stop λq=>ho q.1)
def NSpec.tip {p:Tm} {Vf:Tb} {nd:fK} (hv:gD p=[]) (a:1<=kb H.VB.V0 p):NSpec H p Vf nd [Vf] where
 Yp r h:=by rw[aC.mp h];show .VH hv
 Z4 _ _ _ _ _ _ ha:=aV Vf (by show cO _) ha
 cnt:=a
def E5 (F:dR c.K) (d:Wu t e H) (f:t<=15000000) {wk:V9}:∀(p:Tm) {m:V9},mS q p->p.Yi<=m->cn H.VB.V0 p<=1000000->I1 c (n+m+5) A H wk p:=by
 have zipAt:∀{M':WC} {tb:V9} {xs vs:V2 V},let B:=M'++[O.VF [V.VG tb]]++[.it (.Vj xs 0),.it (.Vj vs 0),.it .pair,.it (.Y8 (M'.V0+1) (M'.V0+2) (M'.V0+3))]
     B[M'.V0]?=V1 (O.VF [V.VG tb])/\B[M'.V0+1]?=V1 (O.it (.Vj xs 0))/\B[M'.V0+2]?=V1 (O.it (.Vj vs 0))/\B[M'.V0+3]?=V1 (O.it .pair)/\B[M'.V0+4]?=V1 (O.it (.Y8 (M'.V0+1) (M'.V0+2) (M'.V0+3))):=by
  intro M' tb xs vs B;have l1:(M'++[O.VF [V.VG tb]]).V0=M'.V0+1:=by show aH
  have X8:=λj=>Hl (M:=M'++[O.VF [V.VG tb]]) (G:=[.it (.Vj xs 0),.it (.Vj vs 0),.it .pair,.it (.Y8 (M'.V0+1) (M'.V0+2) (M'.V0+3))]) j;rw[l1] at X8;apply yh ?_ (X8 0) (X8 1) (X8 2) (X8 3)
  focus change(_++_:WC)[_]?=_
  rw[bV (by show bY [.e V3 (.v 0) (.p (.v 1) (.n 1))] (.k V3 (.v 1) (.v 0)) [[1,0,1]] tt [_,_] [] l1)];show bP
 intro p
 induction p with
 |c x=>
  intro m C D z;obtain⟨m,VC⟩:∃k,m=k+1:={m-1,by show Ot [_] [] D};by_cases hv:gr x=V6
  .intro b M tb Vf k P h E I J hs L Q R S;have hvars:gD (.c x)=[x]:=CP hv;rw[hvars] at hs;clear D z;simp at hs;apply .ZC (F.fn 11) rfl [V1 (.VG wk),V1 (.VG tb),V1 (iV k),V1 (.Vj [.Vn x]),V8,V8,V8,V8,V8,V8,V8,V8,V8] rfl ?_;lk;apply .Vj (by simp) (by simp) (v:=.Vn x) rfl ?_;lk;apply rI (n:=n+m+4) (p:=.c x) F rfl (ze C) ?_;lk;apply ifY hv ?_;lk;apply .dictD I (by unfold r5;rw[aE];show bY [.l V3 (.v 0) (.n 99)] (.l V3 (.v 0) (.n 1000)) [[1,1]] tt [_] [] hs) ?_;lk;have h7:=bJ;apply .dictK (kd:=kdS c.VM c.w) (k:=x) (Vf:=r5 Vf) bP (by unfold r5;rw[aE];show bY [.l V3 (.v 0) (.n 99),.e V3 (.v 1) (.n 16777216)] (.l V3 (.v 0) (.v 1)) [[1,1,0,1]] tt [_,_] [] hs h7) ?_;rw[F7,V2.set_append_right _ _ (aM _)];clear C;simp only[iA,V2.set_cons_zero];have hd1:=Wa.Ww [dT c (yb Vf x k)] _ _ I;lk;apply .Wg rfl (zx hd1) ?_;lk;apply .getK (kd:=kdS c.VM c.w) (k:=x) hd1 ?_;rw[zq]
   have gd:(∀v,jm Vf x=V1 v->v=k)->Gd H.VB.V0 (.c x) Vf (yb Vf x k):=λT=>{
    ext:=λy v U=>by
     rw[u7];clear hd1 hvars S P hv m;split
     .rename_i e;subst e;show VN _ (T v U).Vh
     .show U
    cov:=λy U=>⟨k,by rw[hvars] at U;rw[aC.mp U,u7,Vw rfl]⟩
    new:=λy v U=>by
     rw[u7] at U;split at U
     .rename_i e
      cases U;right;show{by rw[hvars,e];show cO _,by have:=(aB.mp L).1;have:=d.Xx;show RS [_,_,_] [] (by assumption) this}
     .show .XB U
    keys:=I3
    Wz:=by have:=KA (r:=Vf) (x:=x) (v:=k);rw[hvars];assumption}
   by_cases T:∀v,jm Vf x=V1 v->v=k
   .have e1:((jm Vf x).VP iV).Wn (iV k)=iV k:=by
      cases hg:jm Vf x with
      |V8=>rfl
      |V1 v=>rw[T v hg];rfl
    rw[e1];lk;apply ifY (by show Vw rfl) ?_;lk;apply S _ _ [(M.V0,yb Vf x k)] ((Wa.Ww _).V7 (Wa.Ww _)) (by(rw[aH];show cR _ _)) bP (λy U=>?_) {λr W=>?_,λs i hi W X ha=>aV (yb Vf x k) (by show cO _) λy v U=>?_,?_} (λe=>Vy (hv.Vh.V7 e) (by show aO.Vh))
    .rw[aC.mp U];show{R,Wa.Ww _ _ _ bP}
    .simp at W;rw[W];show gd T
    .rw[u7] at U;rw[f7.VQ hv] at X;split at U
     .rename_i e;cases U;rw[e,<-X,W]
     .show ha y v U
    .focus change 1<=cn H.VB.V0 (.c x)
     unfold cn iW;rw[Vw hv];show aM _
   .obtain⟨v,hv1,hv2⟩:∃v,jm Vf x=V1 v/\v≠k:=by
      cases hg:jm Vf x with
      |V8=>show Vy (λv h=>by rw[hg] at h;cases h) T
      |V1 v=>show aV v rfl λe=>T λw Y=>by rw[hg] at Y;cases Y;show e
    rw[hv1];lk;apply ZL (by simp;show K5 [_,_] [] hv2) ?_;lk;apply S _ _ [] ((Wa.Ww _).V7 (Wa.Ww _)) (by(rw[aH];show cR _ _)) bP (λy U=>by cases U) {λr W=>(by cases W),λs i hi W X ha=>?_,dP _} (λ_=>dP _);rw[f7.VQ hv] at X;have:=ha x v hv1;rw[<-X,W] at this;show Vy this hv2
  .letI hv:gr x=V3:=by simpa using hv
   have hvars:gD (.c x)=[]:=Km hv;apply Aj (n:=n) (m:=m) F d f rfl C hv z (wQ d (by simp) (λs i Z a0 a1=>?_) λa2 bF tb k Vf a3 M' a4 ks a5 h E I J hs Q R a6 a7 _ o XR=>?_)
   .rw[f7.con hv] at a1;rw[a0] at a1;clear a0;cases a1;show{VC,VC}
   .clear a7;obtain rfl:ks=[]:=V2.length_eq_zero_iff.mp a6;let(a8,a9,aa,ab,ac):=zipAt (M':=M') (tb:=tb) (xs:=XX []) (vs:=[]);apply .YS (.V8 (.zipEnd ac a9 rfl)) (XR _ _ M'.V0 [(tb,Vf)] (((Wa.Ww _).V7 (Wa.Ww _)).Wb (by show Og [_] [])) (Le.V7 (ja rfl) (ja rfl)) rfl rfl ?_ (λy U=>?_) (by show di _) (.tip hvars (aM _)))
    .rw[aL (by show bY [] (.N (.e V3 (.p (.v 0) (.n 1)) (.v 0))) [[1]] tt [_] [])];show a8
    .rw[aC.mp U];show{Q,(((Wa.Ww _).V7 (Wa.Ww _)).Wb (by show Og [_] [])) _ _ (o _ _ I)}
 |u x a ad=>
  intro m C D z;obtain⟨m,VC⟩:∃k,m=k+1:={m-1,by show Ow [_,_] [] D};let(ae,af):=C;have N1:cn H.VB.V0 (.u x a)=H.VB.V0*cn H.VB.V0 a:=rfl;apply Aj (n:=n) (m:=m) F d f rfl (q:=q) {ae,af} rfl z (wQ d (by show dg _) (λs i Z a0 a1=>?_) λa2 bF tb k Vf a3 M' a4 ks a5 h E I J hs Q R a6 a7 ag o XR=>?_)
  .let(j,a1,_):=a1;rw[a0] at a1;clear a0 i;cases a1;show{VC,VC}
  .let(ah,VC):=V2.length_eq_one_iff.mp a6;let(a8,a9,aa,ab,ac):=zipAt (M':=M') (tb:=tb) (xs:=XX [ah]) (vs:=[eH a]);let(ai,Z,aj,ak):=ag;letI al:1<=H.VB.V0:=by have:=pV aj;show Qe [_,_] [] this
   have za:cn H.VB.V0 a<=1000000:=aG (tM _ al) (N1▸z);have oM:=o.V7 (Wa.Ww [.VF [.VG tb]]);apply yX (k:=ah) (Ls:=[(tb,Vf)]) (bF:=M'++[.VF [.VG tb]]) (ad af (by show bY [.l V3 (.p (.v 0) (.n 1)) (.p (.v 1) (.n 1))] (.l V3 (.v 0) (.v 1)) [[1,1]] tt [_,_] [] D) za) (h.Ya oM) (E.Ya oM) (λy U=>?_) (a7 ah (by show cO _)) (Wa.Ww _) (by(rw[aH];show cC _)) (by simp) (by show Rz [_] []) ac a9 aa ab rfl rfl a8 (λy U=>?_) (aG R oM.Wz) (by simpa using za) rfl rfl rfl rfl rfl rfl rfl λam an ao ap aq ar as au av aw=>?_
   .rw[aC.mp U];show{J,hs}
   .rw[aC.mp U];show{Q,(oM.V7 (Wa.Ww _)) _ _ I}
   .have z45:=aq _ _ (by show Ry [_] []) (by show Rw [_] []) ac;apply .YS (.V8 (.zipEnd z45 ar rfl)) (XR _ _ ao an (((Wa.Ww _).V7 ap).Wb (by show Og [_] [])) ?_ rfl rfl ?_ (λy U=>?_) (by have:=aw.cnt;simp at this;show bY [.l V3 (.v 0) (.n 1000000),.l V3 (.v 1) (.v 0)] (.l V3 (.v 1) (.n 1000000)) [[1,1,1]] tt [_,_] [] za this) {λr W=>?_,λs i nd a0 a1 ax ha=>?_,by have:=aw.cnt;rw[aE,aE,jJ,oh] at this;rw[aE];show this})
    .show{VC,VC,VC,VC,VC,VC,trivial}
    .rw[aL (λe=>by rw[e] at ar;rw[ar] at au;cases au)];show au
    .let(ay,this):=av y U;apply{ay,?_};rw[aL (λe=>by rw[e] at ar;rw[ar] at this;cases this)];show this
    .clear XR hs J I a4 a3 k;let(az,b0,g):=aw.Yp r W;clear aw;simp at b0;subst b0;show Gd.same (p:=.u x a) (a:=a) rfl g
    .let(j,b1,b2):=ax;rw[a0] at b1;cases b1
     have hj:VX H.VR j=ah:=by
      have:=VN yk a1
      simpa[eW] using this
     have:=(d.Yb i _ a0).2.1 j (by show cO _);have:=pV a0;show aw.Z4 s j (by show Om [_,_,_] [] (by assumption) this) hj b2 (aV Vf (by show cO _) ha)
 |b x a b b3 b4=>
  intro m C D z;obtain⟨m,VC⟩:∃k,m=k+1:={m-1,by show qq9 [_,_,_] [] D};let(ae,af,b5):=C;have N1:cn H.VB.V0 (.b x a b)=H.VB.V0*(cn H.VB.V0 a*cn H.VB.V0 b):=rfl;apply Aj (n:=n) (m:=m) F d f rfl (q:=q) {ae,af,b5} rfl z (wQ d (by show aM _) (λs i Z a0 a1=>?_) λa2 bF tb k Vf a3 M' a4 ks a5 h E I J hs Q R a6 a7 ag o XR=>?_)
  .let(j,b6,a1,_):=a1;rw[a0] at a1;clear a0 i;cases a1;show{VC,VC}
  .let(ah,b7,VC):=H8 a6;let(a8,a9,aa,ab,ac):=zipAt (M':=M') (tb:=tb) (xs:=XX [ah,b7]) (vs:=[eH a,eH b]);let(ai,Z,aj,ak):=ag;have al:1<=H.VB.V0:=by have:=pV aj;show Qe [_,_] [] this
   have WS:∀p,1<=cn H.VB.V0 p:=λp=>by
    letI b8:∀p,1<=kb H.VB.V0 p:=by
     intro p
     induction p with
     |c x=>show aM _
     |u x a ad=>change _<=(if iW a=V6 then 1 else _*kb _ a);split;show aM _;show Bq al ad
     |b x a b b9 ba=>change _<=(if iW a=V6 then 1 else _*kb _ a)*(if iW b=V6 then 1 else _*kb _ b);apply Bq ?_ ?_<;>split<;>first|show aM _|show Bq al (by assumption)
    unfold cn;split;show aM _;show Bq al (b8 p)
   have zab:cn H.VB.V0 a*cn H.VB.V0 b<=1000000:=aG (tM _ al) (N1▸z);have za:cn H.VB.V0 a<=1000000:=aG (V9.le_mul_of_pos_right _ (WS b)) zab;have zb:cn H.VB.V0 b<=1000000:=aG (tM _ (WS a)) zab;have oM:=o.V7 (Wa.Ww [.VF [.VG tb]]);have hva:gD (.b x a b)=gD a++gD b:=rfl;rw[hva,aH] at hs;apply yX (k:=ah) (Ls:=[(tb,Vf)]) (bF:=M'++[.VF [.VG tb]]) (b3 af (by show Ov [_,_,_] [] D) za) (h.Ya oM) (E.Ya oM) (λy U=>?_) (a7 ah (by show .WI _)) (Wa.Ww _) (by(rw[aH];show cC _)) (by simp) (by show Rz [_] []) ac a9 aa ab rfl rfl a8 (λy U=>?_) (aG R oM.Wz) (by simpa using za) rfl rfl rfl rfl rfl rfl rfl λam an ao ap aq ar as au av aw=>?_
   .rw[aC.mp U];show{J,by show bY [.l V3 (.p (.v 0) (.p (.v 1) (.v 2))) (.n 100)] (.l V3 (.p (.v 0) (.v 1)) (.n 100)) [[1,1]] tt [_,_,_] [] hs}
   .rw[aC.mp U];show{Q,(oM.V7 (Wa.Ww _)) _ _ I}
   have z45:=aq _ _ (by show Ry [_] []) (by show Rw [_] []) ac;have z35:=aq _ _ (by show bY [] (.N (.e V3 (.p (.v 0) (.n 3)) (.p (.v 0) (.n 1)))) [[1]] tt [_] []) (by show bY [] (.N (.e V3 (.p (.v 0) (.n 3)) (.p (.v 0) (.n 2)))) [[1]] tt [_] []) ab;letI bb:an.V0<=cn H.VB.V0 a:=by have:=aw.cnt;simpa using this
   apply yX (k:=b7) (Ls:=an) (bF:=M'++[.VF [.VG tb]]) (b4 b5 (by show Ou [_,_,_] [] D) zb) (h.Ya oM) (E.Ya oM) (λy U=>?_) (a7 b7 (by show .XW _ (.WI _))) ap (by(rw[aH];show cC _)) (by simp) (by show Rz [_] []) z45 ar as z35 rfl rfl au av (aG R oM.Wz) (aG (d9 _ bb) zab) rfl rfl rfl rfl rfl rfl rfl λbc bd be bf bg bh bi bj bk bl=>?_
   .clear XR I a4 a3 k;let(az,b0,g):=aw.Yp y.2 (aK.WO (aV y U rfl));clear aw;simp at b0;subst b0;show{g.keys J,by have:=g.Wz;show bY [.l V3 (.p (.v 0) (.p (.v 1) (.v 2))) (.n 100),.l V3 (.v 3) (.p (.v 0) (.v 1))] (.l V3 (.p (.v 3) (.v 2)) (.n 100)) [[1,1,1]] tt [_,_,_,_] [] hs this}
   have z46:=bg _ _ (by show Ry [_] []) (by show Rw [_] []) z45
   letI bm:bd.V0<=cn H.VB.V0 a*cn H.VB.V0 b:=by have:=bl.cnt;rw[aE,aE] at this;show aG this (d9 _ bb)
   apply .YS (.V8 (.zipEnd z46 bh rfl)) (XR _ _ be bd (((Wa.Ww _).V7 bf).Wb (by show Og [_] [])) ?_ rfl rfl ?_ (λy U=>?_) (aG bm zab) {λr W=>?_,λs i nd a0 a1 ax ha=>?_,by rw[aE];show bm})
   .show{VC,VC,VC,VC,VC,VC,trivial}
   .rw[aL (λe=>by rw[e] at bh;rw[bh] at bj;cases bj)];show bj
   .let(ay,this):=bk y U;apply{ay,?_};rw[aL (λe=>by rw[e] at bh;rw[bh] at this;cases this)];show this
   .clear hs J;clear XR I a4 a3 k;let(bn,bo,bp):=bl.Yp r W;let(az,b0,bq):=aw.Yp bn bo;clear aw;simp at b0;subst b0;show .cat hva bq bp
   .let(j,b6,b1,b2,br):=ax;rw[a0] at b1;cases b1
    have hj:VX H.VR j=ah/\VX H.VR b6=b7:=by
     have:=VN yk a1
     simpa[eW] using this
    have l1:=(d.Yb i _ a0).2.1 j (by show .WI _);have l2:=(d.Yb i _ a0).2.1 b6 (by show .XW _ (.WI _));have:=pV a0;show bl.Z4 s b6 (by show Om [_,_,_] [] l2 this) hj.2 br (aw.Z4 s j (by show Om [_,_,_] [] l1 this) hj.1 b2 (aV Vf (by show cO _) ha))
abbrev Dw (x:Vm×V9):V:=.Vj [.Vn x.1,iV x.2]
abbrev kB (r:Tb):V:=.Vj (r.VP Dw)
abbrev pL (v:V):VS:=Dd v λxs=>xs.Wc V3 λx ys=>ys.Wc V3 λy a=>a.WN&&(GL x&&GO y)
abbrev yK (v:V):VS:=Dd v λxs=>xs.Z4 pL
def mL {v:V} (h:pL v=V6):∃x i,v=.Vj [.Vn x,.Vl i]:=by
 apply wK h λxs h=>?_;cases xs with
 |VH=>cases h
 |V4 x ys=>
  cases ys with
  |VH=>cases h
  |V4 y a=>
   have h:=(aN _ _).mp h;letI k:=(aN _ _).mp h.2;obtain rfl:=bU.mp h.1;let(x,VC):=Cg k.1;let(y,VC):=Ci k.2;show tR x y rfl
def TS:ZG pL where
 Yh v h:=by let(x,i,VC):=mL h;rfl
 Vj v h:=by let(x,i,VC):=mL h;show⟨_,VC⟩
 dep v h:=by let(x,i,VC):=mL h;show(by show di _:1<=8)
 sim v u h k:=by let(x,i,VC):=mL h;let(y,j,VC):=mL k;rfl
def zA {xs:V2 V} (h:∀x∈xs,pL x=V6):eU xs=V6/\pX xs<=1:=by
 induction xs with
 |VH=>show{VC,dP _}
 |V4 x xs c=>
  let(a,b):=c λy d=>h y (bN _ d);let(y,i,VC):=mL (h x cP);show{a,V9.max_le.WO {aM 1,b}}
def Jr {xs:V2 V}:∀{ys:V2 V},(∀x∈xs,pL x=V6)->(∀x∈ys,pL x=V6)->wF xs ys=V6:=by
 induction xs with
 |VH=>intro _ _ _;rfl
 |V4 x xs a=>
  intro ys h k;cases ys with
  |VH=>rfl
  |V4 y ys=>show(aN _ _).WO {TS.sim x y (h x cP) (k y cP),a (λz hz=>h z (bN _ hz)) λz hz=>k z (bN _ hz)}
def oB {v:V} (h:yK v=V6):∃xs,v=.Vj xs/\∀x∈xs,pL x=V6:=by apply wK h λxs h=>aV _ rfl (ek.mp h)
def makeS:ZG yK where
 Yh v h:=by let(xs,VC,k):=oB h;show(zA k).1
 Vj v h:=by let(xs,VC,k):=oB h;show⟨_,VC⟩
 dep v h:=by let(xs,VC,k):=oB h;show aG (nN (zA k).2) (by decide)
 sim v u h k:=by let(xs,VC,a):=oB h;let(ys,VC,b):=oB k;show Jr a b
def xM {r:Tb}:yK (kB r)=V6:=by
 focus change(r.VP Dw).Z4 pL=V6
 rw[V2.all_map,ek];intro x _;rfl
def MV {a b:Vm×V9} (h:Dw a=Dw b):a=b:=by unfold Dw at h;simp only[V.Vj.injEq,xW,V.Vn.injEq,V.Vl.injEq,and_true] at h;show J6 h.1 (Vo.ofNat_inj.mp h.2)
def MU {a b:Tb} (h:kB a=kB b):a=b:=by
 unfold kB at h;simp only[V.Vj.injEq] at h
 induction a generalizing b with
 |VH=>cases b with
  |VH=>rfl
  |V4 _ _=>cases h
 |V4 x a c=>cases b with
  |VH=>cases h
  |V4 y b=>
   rw[bT,bT,xW] at h;rw[MV h.1,c h.2]
def zM {r:Tb}:nJ (kB r)=V6:=by
 focus change jo (r.VP Dw)=V6
 induction r with
 |VH=>rfl
 |V4 x r a=>show a
def xE:∀{L:V2 Tb},jo (L.VP kB)=V6
 |[]=>rfl
 |r::L=>by
  focus change(nJ (kB r)&&jo (L.VP kB))=V6
  rw[zM,xE (L:=L)];rfl
def Lk {b:Type} {f:b->V}:∀{ys:V2 V} {l:V2 b},ys.X7 (l.VP f)->∃c:V2 b,ys=c.VP f/\c.X7 l:=by
 intro ys l h
 induction l generalizing ys with
 |VH=>show aV [] (V2.perm_nil.mp h) (.Vt _)
 |V4 a l d=>
  rw[bT] at h;letI g:f a∈ys:=h.X9.WO cP;let(s,t,VC):=V2.append_of_mem g
  letI i:(s++t).X7 (l.VP f):=by have:=(V2.perm_middle (a:=f a) (l₁:=s) (l₂:=t)).Vh.V7 h;show V2.X7.cons_inv this
  clear g h;let(c,e,p):=d i;clear i;let(s',t',VC,VC,VC):=V2.append_eq_map_iff.mp e;show aV (s'++a::t') (by simp) (V2.perm_middle.V7 (p.V4 a))
def u9 {x:Vm} {v:V9}:∀{r:Tb},(r.VP (·.1)).WF->(jm r x=V1 v↔(x,v)∈r):=λ{r}=>by
 induction r with
 |VH=>show λ_=>by simp[jm]
 |V4 y r a=>
  intro nd;rw[bT,dJ] at nd;have a:=a nd.2;unfold jm at a⊢;rw[dj,aU];by_cases q:y.1=x
  .rw[Vs q];constructor
   .intro h;clear a;cases h;left;show(q)▸rfl
   .rintro(h|h)
    .rw[<-h];rfl
    .show Vy (aK.WO (aV _ h rfl)) (by rw[<-q] at *;show nd.1)
  .rw[Vk q,a];show{.Wt,λh=>h.Xc λe=>q (by show VN _ (e).Vh)}
def BI {r a:Tb} (p:a.X7 r) (nd:(r.VP (·.1)).WF) {x:Vm}:jm a x=jm r x:=by
 letI b:(a.VP (·.1)).WF:=(p.VP _).nodup_iff.WO nd;cases h:jm r x with
 |V1 v=>show(u9 b).WO (p.X9.WO ((u9 nd).mp h))
 |V8=>
  cases h':jm a x with
  |V8=>rfl
  |V1 v=>
   have:=(u9 nd).WO (p.X9.mp ((u9 b).mp h'));rw[h] at this;cases this
structure FSpec (H:HS) (p:Tm) (k:V9) (L:V2 Tb):Prop where
 Yp:∀r∈L,(∀x∈gD p,∃v,jm r x=V1 v)/\(∀x v,jm r x=V1 v->v<H.VB.V0)/\(r.VP (·.1)).WF/\r.V0<=(gD p).V0
 Z4:∀s i,i<H.VB.V0->VX H.VR i=k->f7 H s p i->∃r∈L,Agr H s r
 cnt:L.V0<=(H.Wd.Wn k []).V0*kb H.VB.V0 p
def Wa.split {M':WC} (h:Wa M M'):∃G,M'=M++G:=by
 have hl:=h.Wz;apply{M'.XV M.V0,?_}
 have e:M'.WU M.V0=M:=by
  apply V2.ext_getElem? λi=>?_;rw[V2.getElem?_take];split
  .rename_i hi
   show eZ (h i _ (aI hi)) (aI hi).Vh
  .rw[fh (by show bY [.N (.k V3 (.v 0) (.v 1))] (.l V3 (.v 1) (.v 0)) [[1,1]] tt [_,_] [] (by assumption))]
 conv=>lhs;rw[<-gm M.V0 M',e]
def EK {k y:V}:∀{es:V2 (V×V)},(∀e∈es,f6 e.1=V6)->k∈(mQ es k y).VP (·.1)
 |[],_=>by show .WI _
 |(a,b)::es,h=>by
  focus change k∈rS _ (@ZK _ _ _ _ _)
  split
  .rename_i q
   have:=(jj (h (a,b) cP)).mp q;simp only at this;rw[this];show .WI _
  .rw[bT];show bN _ (EK λe d=>h e (bN _ d))
def MY {k y:V} {es:V2 (V×V)}:(mQ es k y).V0<=es.V0+1:=by
 have h1:((mQ es k y).VP (·.1)).V0=(mQ es k y).V0:=aE _;rcases tE (u:=k) (y:=y) (es:=es) with h|⟨h,_⟩
 .rw[h,aE] at h1;show dX [{2,.a,.b}] {0,.b,.p .a (.n 1)} [1,0,1] [] tt h1
 .rw[h,aH,aE] at h1;simp at h1;show dX [{2,.p .a (.n 1),.b}] {0,.b,.p .a (.n 1)} [1,0,1] [] tt h1
def MX {k y x:V} {es:V2 (V×V)} (h:x∈es.VP (·.1)):x∈(mQ es k y).VP (·.1):=by
 rcases tE (u:=k) (y:=y) (es:=es) with g|⟨g,_⟩<;>rw[g]
 .show h
 .show cU _ h
structure SInv (Ls:V2 Tb) (es:V2 (V×V)):Prop where
 Yh:∀x∈es,∃r∈Ls,∃r',r'.X7 r/\x.1=kB r'
 Z4:∀r∈Ls,∃r',r'.X7 r/\kB r'∈es.VP (·.1)
 cnt:es.V0<=Ls.V0
def SInv.isS {Ls es} (S:SInv Ls es):∀e∈es,yK e.1=V6:=λe a=>by let(_,_,b,_,h):=S.Yh e a;rw[h];show xM
def SInv.tabs {Ls es} (S:SInv Ls es):∃L:V2 Tb,es.VP (·.1)=L.VP kB/\∀a∈L,∃r∈Ls,a.X7 r:=by
 have h:=S.Yh;clear S
 induction es with
 |VH=>show aV [] rfl λ_ h=>nomatch h
 |V4 e es b=>
  let(L,d,k):=b λx f=>h x (.XW _ f);let(r,g,a,i,j):=h e (.WI _);apply aV (a::L) (by rw[bT,bT,d,j]) λy l=>?_;clear j;rcases aU.mp l with rfl|l
  .show aV r g i
  .show k y l
def GZ {r:Tb}:kB r=uq (r.VP λx=>(x.1,(x.2:Vo))):=by
 focus unfold kB uq
 rw[cB];rfl
def SInv.YA {Ls es} {r a:Tb} (S:SInv Ls es) (h:a.X7 r):SInv (Ls++[r]) (mQ es (kB a) (.WW V6)) where
 Yh x hx:=by
  rcases E8 x hx with b|⟨e',b,h3⟩
  .show aV r (by show dM _ (.WI _)) {a,h,b}
  .let(d,f,g,i,j):=S.Yh e' b;show aV d (cU _ f) {g,i,by rw[<-h3];show j}
 Z4 d hr:=by
  rcases aW.mp hr with hr|hr
  .let(g,m,b):=S.Z4 d hr;show aV g m (MX b)
  .rw[aC.mp hr];show aV a h (EK λe o=>makeS.Yh _ (S.isS e o))
 cnt:=by have:=S.cnt;have:=MY (k:=kB a) (y:=.WW V6) (es:=es);rw[aH];simp;show bY [.l V3 (.v 0) (.v 1),.l V3 (.v 2) (.p (.v 0) (.n 1))] (.l V3 (.v 2) (.p (.v 1) (.n 1))) [[1,1,1]] tt [_,_,_] [] (by assumption) this
def E1 (F:dR c.K) (f:Wu t e H) (j:t<=15000000) (h:W4 c M A H) {wk m k:V9} (w:Ob M wk 236 [.VG (A .V5)]) {p:Tm} (B:mS q p) (hv:iW p=V3) (hz:cn H.VB.V0 p<=1000000) (C:H.VR[k]?=V1 k) (D:p.Yi<=m) (E:(gD p).V0<=10)
    (I:∀L,FSpec H p k L->P (.VG M.V0) (M++[.VF (L.VP kB)])):aQ c (n+m+6) (.VG 228) [.VG wk,iV k,eH p] M P:=by
 have h7:=bJ;have pn:=f.Xx;have hkl:=(aB.mp C).1;apply aQ.tidyL ?_;apply .ZC (F.fn 12) rfl [V1 (.VG wk),V1 (iV k),V1 (eH p),V8,V8] rfl ?_;unfold pN;lk;have o2:Wa M (M++[.WD []]++[.WD []]):=(Wa.Ww _).V7 (Wa.Ww _);apply .Wg rfl (fm (w.Ya (Wa.Ww _))) ?_;lk;apply .X4 rfl (w.Ya o2) rfl rfl (fm (h.Ya o2).Vq) ?_;lk;apply jF (n:=n+m+3) F (h.Ya o2) f.VR hkl f.pz ?_;lk;rw[qj f.VR C];have l1:(M++[O.WD []]).V0=M.V0+1:=by show aH
 have l2:(M++[O.WD []]++[O.WD []]).V0=M.V0+2:=by(rw[aH,aH];rfl)
 rw[l1];apply E5 (n:=n) F f j (wk:=wk) p B D hz (M.V0+1) _ (M.V0+1) [] k _ (h.Ya o2) (w.Ya o2) (by have:=Hl (M:=M++[O.WD []]) (G:=[O.WD []]) 0;rw[l1] at this;show this) (by show j5) (by simp;show N9 E) C (aM _) (dX [{2,.a,.p .b (.n 2)}] {0,.p .b (.n 1),.a} [1,0,1] [] tt l2) λJ a Ls K N ha T S Q=>?_;rw[l2] at N;apply sr (.VF ha) ?_;have lz:Ls.V0<=1000000:=by have:=S.cnt;rw[aE] at this;show Qg hz this
 apply jS.Z6 (xs:=ie Ls) (λi σ' M'=>σ'=_/\∃es,Wa M M'/\M'[M.V0]?=V1 (.WD es)/\M'[a]?=V1 (.VF (ie Ls))/\iO c (M.V0+1) M' Ls/\SInv ((Ls.VP (·.2)).WU i) es)
  (λi v σ' M' R U W X=>?_) (λσ' M' W=>?_) Ls.V0 0 _ J (by simp) ⟨VC,[],o2.V7 K,K _ _ ((Wa.Ww _) _ _ bP),ha,T,⟨λ_ h=>(by cases h),λ_ h=>(by cases h),dP _⟩⟩
 .let(rfl,es,Y,hs,Z,a0,SI):=W;apply{Z,?_};rw[bC] at U;cases a1:Ls[i]? with
  |V8=>rw[a1] at U;cases U
  |V1 x=>
  rw[a1] at U;cases U;have hm2:=aF a1;let(dl,a2):=a0 x hm2;let(d,r):=x;letI a3:=S.Yp r (aK.WO (aV _ hm2 rfl));letI a4:r.V0<=10:=by have:=a3.Wz;simp at this;show dX [{0,.a,.n 10},{0,.b,.a}] {0,.b,.n 10} [1,1,1] [] tt E this
  lk;apply .Wg rfl (zx a2) ?_;lk;apply .itemsD a2 ?_;lk
  have hrow:r5 r=(r.VP λx=>(x.1,(x.2:Vo))).VP λx=>(x.1,V.Vl x.2):=by rw[cB];rfl
  have hmap:(r.VP λx=>(x.1,(x.2:Vo))).VP xC=r.VP Dw:=by rw[cB];rfl
  apply .sortedV (Vf:=r.VP λx=>(x.1,(x.2:Vo))) bP (by rw[<-hrow];show(Wa.Ww _) _ _ a2) (by rw[aE];show Oc a4) λys a5=>?_;rw[hmap] at a5;let(a6,VC,a7):=Lk a5;lk;apply .tupleL bP (by rw[aE,a7.WZ];show dX [{2,.a,.n 16777216},{0,.b,.n 10}] {0,.b,.a} [8388608,0,5,8388608] [] tt h7 a4) ?_;lk;letI a8:Wa M' (M'++[O.it (.view d)]++[O.VF (a6.VP Dw)]):=(Wa.Ww _).V7 (Wa.Ww _);letI a9:es.V0<=1000000:=by have:=SI.cnt;rw[dF,aE] at this;show bY [.l V3 (.v 0) (.n 1000000),.l V3 (.v 1) (.u (.v 2) (.v 0))] (.l V3 (.v 1) (.n 1000000)) [[1,1,1,1],[1,1,0,1]] tt [_,_,_] [] lz this
  apply .dictTE makeS (a8 _ _ hs) SI.isS (xM (r:=a6)) (Ol h7 a9) λaa ab=>?_;lk
  have lM:M.V0<(M'++[O.it (.view d)]++[O.VF (a6.VP Dw)]).V0:=by have:=(aB.mp (a8 _ _ hs)).1;show this
  letI ac:∀b o,b≠M.V0->M'[b]?=V1 o->aa[b]?=V1 o:=λb o ad ae=>by rw[ab,aL (fP ad)];show a8 _ _ ae
  apply{_,ja rfl,X _ _ {VC,mQ es (kB a6) (.WW V6),?_,?_,ac _ _ (λe=>dX [{0,.p .a (.n 2),.b},{2,.b,.a}] {5,.n 0,.n 0} [2,1,1] [] tt N e) Z,λy af=>?_,?_}}
  .intro b o ae;have:=(aB.mp ae).1;show ac b o (λe=>qq8 this e) (Y _ _ ae)
  .rw[ab,bK lM];rfl
  .let(ag,ah):=a0 y af;show{ag,ac _ _ (λe=>dX [{0,.p .a (.n 1),.b},{2,.b,.a}] {5,.n 0,.n 0} [1,1,1] [] tt ag e) ah}
  .rw[cF,bC,a1];show SI.YA a7
 .let(rfl,es,Y,hs,Z,a0,SI):=W;apply{Z,?_}
  letI ai:(Ls.VP (·.2)).WU (ie Ls).V0=Ls.VP (·.2):=by
   have:(ie Ls).V0=(Ls.VP (·.2)).V0:=by show(aE ..).V7 (aE ..).Vh
   rw[this,cV]
  rw[ai] at SI;apply YN ?_;lk;have a9:es.V0<=1000000:=by have:=SI.cnt;rw[aE] at this;show Qg lz this
  have sortS:∃aj:V2 (V2 (Vm×Vo)),es.VP (·.1)=aj.VP uq/\((∀ak∈aj,ak≠[])\/∀ak∈aj,ak=[]):=by
   let(L,e,al):=SI.tabs;apply aV (L.VP λr=>r.VP λx=>(x.1,(x.2:Vo))) (by rw[e,cB];show cL λr _=>GZ) ?_
   letI am:∀a6∈L,∃r,a6.X7 r/\Gd H.VB.V0 p [] r:=λa6 h=>by let(r,an,ao):=al a6 h;show aV r ao (S.Yp r an)
   cases U:gD p with
   |VH=>
    apply .Wt λak B=>?_;let(a6,h,VC):=aK.mp B;let(r,an,g):=am a6 h;have:=g.Wz;rw[U] at this;have:a6=[]:=dm (by rw[an.WZ];show V9.le_zero.mp this);rw[this];rfl
   |V4 x xs=>
    apply .XB λak B ap=>?_;let(a6,h,VC):=aK.mp B;clear B;let(r,an,g):=am a6 h;clear h;let(v,a1):=g.cov x (by rw[U];show .WI _);rw[V2.map_eq_nil_iff] at ap;clear g;subst ap;have:r=[]:=dm an.WZ.Vh;clear an;subst this;cases a1
  apply .sortedD hs sortS a9 λys a5=>?_;lk
  have hch:∃L:V2 Tb,ys=L.VP kB/\∀r∈L,∃aq∈Ls.VP (·.2),r.X7 aq:=by
   have h0:∀y∈ys,∃aq∈Ls.VP (·.2),∃r,r.X7 aq/\y=kB r:=λy af=>by let(x,a1,VC):=aK.mp (a5.X9.mp af);show SI.Yh x a1
   clear a5
   induction ys with
   |VH=>show aV [] rfl λ_ h=>by cases h
   |V4 y ys ar=>
    let(L,ap,as):=ar λz hz=>h0 z (bN _ hz);let(aq,an,r,ao,VC):=h0 y cP
    show aV (r::L) (by rw[ap];rfl) λz hz=>by
     clear h0;rcases aU.mp hz with rfl|hz
     .show aV aq an ao
     .show as z hz
  let(L,VC,al):=hch;let(G,au):=Y.split;apply{G++[.VF (L.VP kB)],_,L.VP kB,by rw[au,aR],VC,by rw[au];show ly0,bP,xE,I L {λr av=>?_,λs i hi av aw=>?_,?_}}
  .let(aq,an,ao):=al r av;letI g:=S.Yp aq an;letI ax:=g.keys (by show j5);have tp:∀x,jm r x=jm aq x:=λx=>BI ao ax;apply{λx a1=>by rw[tp];show g.cov x a1,λx v a1=>?_,(ao.VP _).nodup_iff.WO ax,by have:=g.Wz;rw[ao.WZ];simpa using this};rw[tp] at a1;rcases g.new x v a1 with ay|⟨_,ay⟩
   .cases ay
   .show ay
  .let(aq,an,ao):=S.Z4 s i hi av aw λx v ay=>by cases ay
   let(a6,ay,az):=SI.Z4 aq an;have hm3:kB a6∈L.VP kB:=a5.X9.WO az;clear az;let(b0,b1,b2):=aK.mp hm3;have:=MU b2;clear b2 hm3;subst this;apply aV b0 b1 λx v a1=>ao x v ?_;rw[<-BI ay ((S.Yp aq an).keys (by show j5))];show a1
  .have an:=a5.WZ;have ao:=SI.cnt;have ay:=Q hv;rw[aE,aE] at an;rw[aE] at ao;show ir [{2,.a,.b},{0,.b,.c},{0,.c,.d}] {0,.a,.d} [1,1,0,1,1] [] tt an ao ay
abbrev pW (x:V9×Tb):V:=.Vj [iV x.1,kB x.2]
def xF:∀{L:V2 (V9×Tb)},jo (L.VP pW)=V6
 |[]=>rfl
 |r::L=>by
  focus change(nJ (pW r)&&jo (L.VP pW))=V6
  have:nJ (pW r)=V6:=by
   focus change(V6&&(nJ (kB r.2)&&V6))=V6
   rw[zM];rfl
  rw[this,xF (L:=L)];rfl
structure MSpec (H:HS) (p:Tm) (X:V2 (V9×Tb)):Prop where
 Yp:∀x∈X,(∀y∈gD p,∃v,jm x.2 y=V1 v)/\(∀y v,jm x.2 y=V1 v->v<H.VB.V0)/\(x.2.VP (·.1)).WF/\x.2.V0<=(gD p).V0
 Z4:∀s i,i<H.VB.V0->f7 H s p i->∃x∈X,Agr H s x.2
 cnt:X.V0<=H.VB.V0*kb H.VB.V0 p
def EM (d:Wu t e H) {R:V2 V9} (nd:R.WF) (f:∀k∈R,H.VR[k]?=V1 k):(R.VP λk=>(H.Wd.Wn k []).V0).sum<=H.VB.V0:=by
 letI g:∀k∈R,∃l,H.Wd[k]?=V1 l/\H.Wd.Wn k []=l:=λk h=>by let(l,i):=yJ d (r:=k) (by letI:=(aB.mp (f k h)).1;letI:=d.Xx;show RS [_,_,_] [] (by assumption) this);show aV l i (yL i)
 letI j:(R.flatMap λk=>H.Wd.Wn k []).WF:=by
  induction R with
  |VH=>assumption
  |V4 a R m=>
   rw[dJ] at nd;rw[V2.flatMap_cons,fL];let(l,j,o):=g a (by show .WI _);apply fq (by rw[o];show d.lotd a l (f a (by show .WI _)) j) (m nd.2 (λk h=>f k (bN _ h)) λk h=>g k (bN _ h)) λx p y s e=>?_;subst e;let(b,u,s):=V2.mem_flatMap.mp s;let(v,w,z):=g b (bN _ u);rw[o] at p;rw[z] at s;letI B:=(d.lotz a l j).2 x p;letI C:=(d.lotm a l (f a (by show .WI _)) j x B).mp p;letI D:=(d.lotm b v (f b (bN _ u)) w x B).mp s;show nd.1 (by rw[<-C,D];show u)
 letI o:=zJ j λx p=>by let(k,h,p):=V2.mem_flatMap.mp p;let(l,w,z):=g k h;rw[z] at p;show(d.lotz k l w).2 x p
 rw[V2.length_flatMap] at o;show o
structure RSpec (H:HS) (p:Tm) (R:V2 V9) (X:V2 (V9×Tb)):Prop where
 Yp:∀x∈X,(∀y∈gD p,∃v,jm x.2 y=V1 v)/\(∀y v,jm x.2 y=V1 v->v<H.VB.V0)/\(x.2.VP (·.1)).WF/\x.2.V0<=(gD p).V0
 Z4:∀k∈R,∀s j,j<H.VB.V0->VX H.VR j=k->f7 H s p j->∃x∈X,Agr H s x.2
 cnt:X.V0<=((R.VP λk=>(H.Wd.Wn k []).V0).sum)*kb H.VB.V0 p
def RSpec.snoc {p:Tm} {R:V2 V9} {a:V2 (V9×Tb)} {k:V9} {L:V2 Tb} (S:RSpec H p R a) (T:FSpec H p k L):RSpec H p (R++[k]) (a++L.VP λr=>(k,r)) where
 Yp x hx:=by
  rcases aW.mp hx with hx|hx
  .show S.Yp x hx
  .let(r,b,VC):=aK.mp hx;show T.Yp r b
 Z4 k' hk s j hj b hp:=by
  rcases aW.mp hk with hk|hk
  .let(x,d,f):=S.Z4 k' hk s j hj b hp;show aV x (cU _ d) f
  .rw[aC.mp hk] at b;let(r,d,f):=T.Z4 s j hj b hp;show aV (k,r) (dM _ (aK.WO (aV r d rfl))) f
 cnt:=by
  have:=S.cnt;have:=T.cnt;rw[aH,aE,bD,V2.sum_append,om];have e1:(([k].VP λk=>(H.Wd.Wn k []).V0).sum)=(H.Wd.Wn k []).V0:=by show rfl
  rw[e1];show V9.add_le_add S.cnt T.cnt
def MI (F:dR c.K) (f:Wu t e H) (g:t<=15000000) {bF:WC} (h:W4 c bF A H) {wk m l:V9} (s:Ob bF wk 236 [.VG (A .V5)]) {p:Tm} (u:mS q p) (hv:iW p=V3) (hz:cn H.VB.V0 p<=1000000) (w:p.Yi<=m) (x:(gD p).V0<=10)
    {R:V2 V9} (y:∀k∈R,H.VR[k]?=V1 k) (z:R.WF) (B:bF[l]?=V1 (.VF (XX R))) {C:V2 V->WC->Prop} (XR:∀M' D,Wa bF M'->RSpec H p R D->C (D.VP pW) M'):
    sU c (n+m+6) (.Vj (.V4 (.VQ 2) (.V4 (.VQ 3) .VH))) (.Ws 2) (.Ws 3) (.W3 (.XG 236 228) (.VQ 0) (.V4 (.VQ 2) (.V4 (.VQ 1) .VH))) (.VF l 0) [] [V1 (.VG wk),V1 (eH p),V8,V8] bF C:=by
 letI E:=bJ;letI G:cn H.VB.V0 p=H.VB.V0*kb H.VB.V0 p:=by unfold cn;rw[hv];rfl
 suffices D:∀(I i:V9) (M:WC) (J:V2 (V9×Tb)),i+I=R.V0->Wa bF M->RSpec H p (R.WU i) J->
     sU c (n+m+6) (.Vj (.V4 (.VQ 2) (.V4 (.VQ 3) .VH))) (.Ws 2) (.Ws 3) (.W3 (.XG 236 228) (.VQ 0) (.V4 (.VQ 2) (.V4 (.VQ 1) .VH))) (.VF l i) (J.VP pW) [V1 (.VG wk),V1 (eH p),V8,V8] M C from
  D R.V0 0 bF [] (qq5) .Vt ⟨λ_ h=>(by cases h),λ_ h=>(by cases h),by show dP _⟩
 intro I
 induction I with
 |WM=>
  intro i M J hi o S;letI e:i=R.V0:=AZ hi;clear hi;subst e;rw[cV] at S;show .YS (.V8 (.listEnd (k':=.VF l 0) (o _ _ B) (by rw[fh];rw[cY];show e9 [] {0,.a,.a} [1] [] tt))) (XR M J o S)
 |Wh I K=>
  intro i M J hi o S;obtain⟨k,hx⟩:∃k,R[i]?=V1 k:={_,aI (qq6 hi)};letI N:=y k (aF hx)
  letI Q:∀(j:V9) (D:V2 (V9×Tb)),RSpec H p (R.WU j) D->D.V0<=1000000:=λj D S=>by letI U:=EM f (R:=R.WU j) (z.sublist (V2.take_sublist _ _)) λk N=>y k (nX N);have h2:=d9 (kb H.VB.V0 p) U;have:=S.cnt;show ir [{0,.a,.n 1000000},{2,.a,.b},{0,.c,.b},{0,.d,.c}] {0,.d,.n 1000000} [1,1,0,1,1,1] [] tt hz G h2 this
  have az:=Q i J S;apply .WL (.VF (.Zx (o _ _ B) (v:=iV k) (by rw[XX,bC,hx];rfl))) (by rw[aE];show Ol E az) ?_;lk;apply .Wg rfl (fm (s.Ya o)) ?_;lk;apply E1 (n:=n) F f g (h.Ya o) (s.Ya o) u hv hz N w x λL T=>?_;apply qs _ _ rfl (.VF bP) ?_
  letI W:RSpec H p (R.WU (i+1)) (J++L.VP λr=>(k,r)):=by rw[cF,hx];show S.snoc T
  letI X:=Q _ _ W;rw[aH,aE] at X;apply fk.Z6 (xs:=L.VP kB) (λj ys Y=>ys=J.VP pW++(L.WU j).VP (λr=>pW (k,r))/\Y=M++[.VF (L.VP kB)]) (λj v ys Y Z hv a0 a1=>?_) (λys Y a0=>?_) L.V0 0 _ _ (by simp) {by show(cJ _).Vh,VC}
  .let(rfl,VC):=a0;rw[bC] at hv;cases e:L[j]? with
   |V8=>rw[e] at hv;cases hv
   |V1 r=>
    rw[e] at hv;cases hv;apply fq bP (by simp only[aH,aE,dF];show TF [_,_,_,_] [] E X) ?_;lk;apply a1 _ _ {?_,VC};rw[cF,e,bD,aR];rfl
  .let(rfl,VC):=a0;apply{bP,?_}
   have e:J.VP pW++(L.WU (L.VP kB).V0).VP (λr=>pW (k,r))=(J++L.VP λr=>(k,r)).VP pW:=by rw[aE,cV,bD,cB];rfl
   rw[e];show K (i+1) _ _ (qq3 hi) (o.V7 (Wa.Ww _)) W
def MG (F:dR c.K) (a:Wu t e H) (b:t<=15000000) (h:W4 c M A H) {wk m:V9} (d:Ob M wk 236 [.VG (A .V5)]) {p:Tm} (f:mS q p) (hv:iW p=V3) (hz:cn H.VB.V0 p<=1000000) (g:p.Yi<=m) (l:(gD p).V0<=10)
    (r:∀u,MSpec H p u->P (.VG M.V0) (M++[.VF (u.VP pW)])):aQ c (n+m+7) (.VG 233) [.VG wk,eH p] M P:=by
 have h7:=bJ;have pn:=a.Xx;have hcn:cn H.VB.V0 p=H.VB.V0*kb H.VB.V0 p:=by unfold cn;rw[hv];rfl
 apply aQ.tidyL ?_;apply .ZC (F.fn 13) rfl [V1 (.VG wk),V1 (eH p),V8,V8] rfl ?_
 focus unfold sJ
 lk;apply fq rfl rfl ?_;apply .X4 rfl d rfl rfl (fm h.Vq) ?_;lk;apply EW (n:=n+m+4) F h a.pz ?_;apply qs _ _ (.VF bP) (.YB rfl) ?_;letI v:∀k∈kJ H.VR,H.VR[k]?=V1 k:=λk w=>Ca.mp w;letI x:(kJ H.VR).WF:=V2.nodup_range.X2 _;have rall:∀j,j<H.VB.V0->VX H.VR j∈kJ H.VR:=λj y=>Ca.WO (lN a.VR j (C5 pn y));generalize kJ H.VR=R at *;have sumz:=EM a x v;apply MI F a b (h.Ya (Wa.Ww _)) (d.Ya (Wa.Ww _)) f hv hz g l v x bP λM' u o S=>?_;lk;let(G,z):=((Wa.Ww [O.VF (XX R)]).V7 o).split;apply O2 (G++[.VF (u.VP pW)]) _ (u.VP pW) (by rw[z,aR]) rfl (by rw[z];show ly0) bP xF (r u ⟨S.Yp,λs i hi B=>S.Z4 _ (rall i hi) s i hi rfl B,?_⟩);show aG S.cnt (d9 _ sumz)
structure RC where
 rn:V9
 ns:V9
 wk:V9
 pl:V9
 rl:V9
 op:V9
 ul:V9
 lg:V9
 re:V9
 rs:V2 (V9×Vm×Tm×Tm)
 turns:VS
 Zo:V9
abbrev Jt (a:RC):V2 (Vm×V):=[("order",.Vn (if a.turns then "turns" else "together")),("nodes",.Vl 60),("rounds",.Vl a.Zo)]
abbrev KR (r:V9×Vm×Tm×Tm):V2 V:=[.Vn r.2.1,eH r.2.2.1,eH r.2.2.2,.Vj []]
nonrec abbrev tX (a:V9) (b:RC) (d:V9):V2 V:=[.VG a,.VG b.rl,.VG b.op,.VG b.wk,.VG b.pl,.VG b.lg,.Vl d,.VG b.re,.VG b.ul]
structure Z7 (c:Cx) (M:WC) (A:Ad) (H:HS) (rc:RC) (rnd:V9) (log:V2 V):Prop where
 rn:M[rc.rn]?=V1 (.YH 356 rc.ns)/\Off c H A rc.rn
 ns:M[rc.ns]?=V1 (.ns ((WG 356).Y8 (tX (A .V5) rc rnd)))/\Off c H A rc.ns
 wk:pP c M A H rc.wk 236 [.VG (A .V5)]
 pl:pP c M A H rc.pl 301 [.VG (A .V5)]
 rl:M[rc.rl]?=V1 (.VF (rc.rs.VP λr=>.VG r.1))/\Off c H A rc.rl
 rs:∀r∈rc.rs,pP c M A H r.1 263 (KR r)
 op:M[rc.op]?=V1 (.WD (fO (kdS c.VM c.w) (Jt rc)))/\Off c H A rc.op
 ul:M[rc.ul]?=V1 (.VF (rc.rs.VP λ_=>.Vl 0))/\Off c H A rc.ul
 lg:M[rc.lg]?=V1 (.VF log)/\Off c H A rc.lg
def Z7.ob {a:RC} {rnd log} (R:Z7 c M A H a rnd log):Ob M a.rn 356 (tX (A .V5) a rnd):={_,R.rn.1,R.ns.1}
def Z7.YF {bF:WC} {a:Ad} {b:HS} {d:RC} {rnd log} (R:Z7 c bF a b d rnd log) (s:Y6 c bF a b M A H):Z7 c M A H d rnd log:=by have eh:=s.fix .V5 rfl;show{s.Zp R.rn.1 R.rn.2,by rw[eh];show s.Zp R.ns.1 R.ns.2,by rw[eh];show R.wk.YF s,by rw[eh];show R.pl.YF s,s.Zp R.rl.1 R.rl.2,λr f=>(R.rs r f).YF s,s.Zp R.op.1 R.op.2,s.Zp R.ul.1 R.ul.2,s.Zp R.lg.1 R.lg.2}
def z8 (F:dR c.K) (h:W4 c M A H) {a:RC} {rnd log} (R:Z7 c M A H a rnd log) (hz:H.VB.V0<=1000) (p:P (.WW (decide (60<H.VB.V0))) M):aQ c (n+3) (.VG 324) [.VG a.rn] M P:=by
 apply .ZC (F.fn 18) rfl [V1 (.VG a.rn)] rfl ?_
 focus unfold qC
 lk;apply .X4 rfl R.ob rfl rfl (fm h.Vq) ?_;lk;apply vL F h hz ?_;lk;apply .X4 rfl R.ob rfl rfl (zx R.op.1) ?_;lk;apply .getK (kd:=kdS c.VM c.w) (k:="nodes") R.op.1 ?_;have e:(oZ (Jt a) "nodes").Wn (.Vl 10000)=.Vl 60:=rfl
 focus rw[e]
 lk
 have e2:decide ((60:Vo)<(H.VB.V0:Vo))=decide (60<H.VB.V0):=by rw[decide_eq_decide];show bY [] (.I (.k V6 (.n 60) (.z (.v 0))) (.k V3 (.n 60) (.v 0))) [[1,1],[1,1]] tt [_] []
 rw[e2];show p
def Ln {a:RC}:((if a.turns then "turns" else "together":Vm)==("rests":Vm))=V3:=by cases a.turns<;>decide +kernel
def zR (F:dR c.K) (h:W4 c M A H) (a:Wu t e H) (b:t<=15000000) {d:RC} {rnd log} (R:Z7 c M A H d rnd log) {k m:V9} {r:V9×Vm×Tm×Tm} (f:d.rs[k]?=V1 r) (g:d.rs.V0<=100) (i:mS q r.2.2.1) (hv:iW r.2.2.1=V3) (hz:cn H.VB.V0 r.2.2.1<=1000000) (j:r.2.2.1.Yi<=m) (l:(gD r.2.2.1).V0<=10)
    (o:∀p,MSpec H r.2.2.1 p->P (.VG M.V0) (M++[.VF (p.VP pW)])):aQ c (n+m+8) (.VG 331) [.VG d.rn,iV k] M P:=by
 have kl:=(aB.mp f).1;apply .ZC (F.fn 19) rfl [V1 (.VG d.rn),V1 (iV k),V8] rfl ?_
 focus unfold qB
 lk;apply .Xf rfl R.ob rfl rfl ?_;lk;apply .VF R.ul.1 (qq1 [_] []) (qq7 [_,_] [] g kl) (v:=.Vl 0) (by simp[f]) ?_;lk;apply .Xf rfl R.ob rfl rfl ?_;lk;apply ZL (Vk (PO [_] [])) ?_;lk;apply .X4 rfl R.ob rfl rfl (fm R.wk.ob) ?_;lk;apply Xp.fld_i ?_;lk;apply .Xf rfl R.ob rfl rfl ?_;lk;apply .VF R.rl.1 (qq1 [_] []) (qq7 [_,_] [] g kl) (v:=.VG r.1) (by simp[f]) ?_;apply Mv _ _ _ rfl (R.rs r (aF f)).ob rfl (by cases r.2.2.1<;>rfl) ?_;lk;apply MG (n:=n) F a b h R.wk.ob i hv hz j l λp S=>?_;lk;have R':=R.YF ((Y6.Vt h).Yw [.VF (p.VP pW)]);apply .X4 rfl R'.ob rfl rfl (zx R'.op.1) ?_;lk;apply .getK (kd:=kdS c.VM c.w) (k:="order") R'.op.1 ?_;have e1:(oZ (Jt d) "order").Wn (.Vn "together")=.Vn (if d.turns then "turns" else "together"):=rfl
 focus rw[e1]
 lk;apply ZL Ln ?_;lk;show o p S
def aQ.dictS {r:Tb} (a:(r.VP (·.1)).WF) (hz:r.V0<=100) (p:P (.VG M.V0) (M++[dT c r])):aQ c n (.W5 "dict") [kB r] M P:=by have:=aQ.dictP (c:=c) (n:=n) (M:=M) (P:=P) (xs:=r.VP λx=>(x.1,(x.2:Vo))) (by rw[cB];show a) (by rw[aE];show hz);rw[cB,cB] at this;show this p
structure RuleOK (q:V9) (l r:Tm):Prop where
 okl:mS q l
 okr:mS q r
 nv:iW l=V3
 sub:∀x∈gD r,x∈gD l
 YM:∀x W,x<q->(∀y,W y<q)->rO q x W l=rO q x W r
 vz:(gD l).V0<=10
 dl:l.Yi<=10
 dr:r.Yi<=10
 VA:l.VA+r.VA<=12
 kbz:∀N,1<=N->kb N l<=N*N
structure RowOK (H:HS) (l:Tm) (r:Tb):Prop where
 cov:∀x∈gD l,∃v,jm r x=V1 v
 lt:∀x v,jm r x=V1 v->v<H.VB.V0
 keys:(r.VP (·.1)).WF
 Wz:r.V0<=(gD l).V0
abbrev Yt (r:Tb) (x:Vm):V9:=(jm r x).Wn 0
def Nn (F:dR c.K) (h:W4 c M A H) (I:Inv q t H) (f:t<=15000000) {g:RC} {rnd log} (R:Z7 c M A H g rnd log) {o:V9×Vm×Tm×Tm} (s:o∈g.rs) (u:RuleOK q o.2.2.1 o.2.2.2) {r:Tb} (T:RowOK H o.2.2.1 r) (w:H.VB.V0<=88) (n0:1<=H.VB.V0)
    (z:∀M' A' H' b i j,Y6 c M A H M' A' H'->Inv q (t+1) H'->Xr H H'->H'.VB.V0<=H.VB.V0+12->f7 H' (Yt r) o.2.2.1 i->f7 H' (Yt r) o.2.2.2 j->i<H'.VB.V0->j<H'.VB.V0->VX H'.VR i=VX H'.VR j->P (.WW b) M'):
    aQ c (n+16) (.VG 336) [.VG g.rn,.VG o.1,kB r] M P:=by
 have h7:=bJ;have rz:=T.Wz;have vz:=u.vz;let(B,C,D,E):=o;simp only at u T z rz vz;have ksz:=u.VA;letI G:=R.rs _ s;clear s;simp only[KR] at G;letI J:xN (eH D)=V3/\xN (eH E)=V3:={by clear G ksz vz rz z T u E C B r;cases D<;>rfl,by clear G ksz z u C B;cases E<;>rfl};apply .ZC (F.fn 20) rfl [V1 (.VG g.rn),V1 (.VG B),V1 (kB r),V8,V8,V8,V8] rfl ?_;lk;apply .dictS T.keys (dX [{0,.a,.b},{0,.b,.n 10}] {0,.a,.n 100} [1,1,1] [] tt rz vz) ?_;lk;letI s1:=(Y6.Vt h).Yw [dT c r];have ro1:=G.YF s1;apply .Xf rfl ro1.ob rfl rfl ?_;lk;apply{by trivial,?_};apply ZL rfl ?_;lk;apply{VC,?_};apply .Xf rfl ro1.ob rfl rfl ?_;apply iJ .Vj (.YB rfl) (.tupE (by show aM _) ?_);lk;apply eu.i (xs:=[]) (by rw[bV (by show lx0)];show bP) (eu.i bP {VC,?_});apply ZL rfl ?_;lk;letI K:=(s1.Yw [.VF []]).Yw [.VF []];letI L:=R.YF K;letI N:=G.YF K
 letI tb:Tab c (M++[dT c r]++[O.VF []]++[O.VF []]) A H M.V0 (Yt r) (gD D):=by
  apply{r5 r,((Wa.Ww _).V7 (Wa.Ww _)) _ _ bP,qt h,λx Q=>?_};let(v,hv):=T.cov x Q;have e:Yt r x=v:=by unfold Yt;rw[hv];rfl
  rw[zq,hv,e];show{VC,T.lt x v hv}
 apply .X4 rfl L.ob rfl rfl (fm L.pl.ob) ?_;lk;apply .Xf rfl N.ob rfl J.1 ?_;lk;apply HR (n:=n) (m:=10) F (Yt r) f D K.XD I u.okl L.pl tb u.dl (fG [{0,.a,.n 88},{0,.p .b .c,.n 12}] {0,.p .a .b,.n 100} [1,1,1] [] tt w ksz) λU W X i Y Z a0 a1 a2 a3=>?_;lk;have R5:=L.YF Y;have ro5:=N.YF Y;have tb5:=(tb.YF Y a0).part u.sub;apply .X4 rfl R5.ob rfl rfl (fm R5.pl.ob) ?_;lk;apply .Xf rfl ro5.ob rfl J.2 ?_;lk;apply HR (n:=n) (m:=10) F (Yt r) f E Y.XD Z u.okr R5.pl tb5 u.dr (ir [{0,.a,.n 88},{0,.p .b .c,.n 12},{0,.d,.p .a .b}] {0,.p .d .c,.n 100} [1,1,1,1] [] tt w ksz a2) λa4 a5 a6 j a7 a8 a9 aa ab ac=>?_;lk;apply{VC,?_};lk;have R7:=R5.YF a7;have ro7:=ro5.YF a7;apply .X4 rfl R7.ob rfl rfl (fm a7.XD.Vq) ?_;lk;apply .Xf rfl ro7.ob rfl rfl ?_;lk;apply .tupleT ?_;lk;have RL:=a1.Yc a9;apply Cm (n:=n+11) F a7.XD a8.X5 f (aY a3 a9.Wz) ac λad ae af b ag ah=>?_;lk
 have hv:∀x V,x<q->XH q x a6 V->V i=V j:=λx V Q S=>by
  rw[RL.YM S,aa.YM S];apply u.YM x _ Q λy=>S.lt Q ?_;have:=a0.Wz;letI:=a9.Wz
  focus unfold Yt
  cases hg:jm r y with
  |V8=>change 0<_;show dX [{1,.a,.b}] {1,.n 0,.b} [1,1] [] tt ac
  |V1 v=>have:=T.lt y v hg;change v<_;show bY [.l V3 (.v 0) (.v 1),.l V3 (.v 1) (.v 2),.k V3 (.v 3) (.v 0)] (.k V3 (.v 3) (.v 2)) [[1,1,1,1]] tt [_,_,_,_] [] (by assumption) (by assumption) this
 let(ai,aj,ak,al):=Cj a8 ah (aY a3 a9.Wz) ac hv;letI am:=aj.Wz;have gl6:=a9.Wz;show z _ _ _ b i j (((K.V7 Y).V7 a7).V7 ag) ai ((a0.V7 a9).V7 aj) (by rw[ak];show A4 [{0,.p .a .b,.n 12},{0,.c,.p .d .a},{0,.e,.p .c .b}] {0,.e,.p .d (.n 12)} [1,1,1,1] [] tt ksz a2 ab) (RL.Yc aj) (aa.Yc aj) (ir [{1,.a,.b},{0,.c,.d},{0,.b,.c}] {1,.a,.d} [1,1,1,1] [] tt a3 am gl6) (fG [{1,.a,.b},{0,.b,.c}] {1,.a,.c} [1,1,1] [] tt ac am) al
structure YZ (c:Cx) (rc:RC) (M:WC) (A:Ad) (H:HS) (M':WC) (A':Ad) (H':HS):Prop where
 V5:A' .V5=A .V5
 Za:∀(a:V9) o,M[a]?=V1 o->Off c H A a->a≠rc.ns->a≠rc.lg->M'[a]?=V1 o/\Off c H' A' a
 Wz:M.V0<=M'.V0
def YZ.ofExt {b:RC} {M':WC} {A':Ad} {H':HS} (s:Y6 c M A H M' A' H'):YZ c b M A H M' A' H':={s.fix .V5 rfl,λa o h f _ _=>s.Zp h f,s.Wz}
def YZ.V7 {b:RC} {M' d:WC} {A' g:Ad} {H' i:HS} (k:YZ c b M A H M' A' H') (l:YZ c b M' A' H' d g i):YZ c b M A H d g i:=
 ⟨l.V5.V7 k.V5,λa o h f j m=>by let(p,r):=k.Za a o h f j m;show l.Za a o p r j m,aG k.Wz l.Wz⟩
def W4.wild (h:W4 c M A H) {a:V9} {o:O} (f:Off c H A a):W4 c (M.Wb a o) A H:=⟨λx ob e=>by
 rw[aL (λq=>f x (by simp only[mT,e];rfl) q.Vh)];show h.X8 x ob e,h.inj⟩
def YZ.log {b:RC} {o:O}:YZ c b M A H (M.Wb b.lg o) A H:={VC,λa ob h f d g=>{by rw[aL (fP g)];show h,f},by simp}
def YZ.ns {b:RC} {o:O}:YZ c b M A H (M.Wb b.ns o) A H:={VC,λa ob h f d g=>{by rw[aL (fP d)];show h,f},by simp}
abbrev FE (H:HS) (l r:Tm) (tb:Tb):Prop:=∃i j,f7 H (Yt tb) l i/\f7 H (Yt tb) r j/\i<H.VB.V0/\j<H.VB.V0/\VX H.VR i=VX H.VR j
def FE.Yc {H H':HS} {l r:Tm} {tb:Tb} (a:FE H l r tb) (G:Xr H H'):FE H' l r tb:=by let(i,j,b,d,f,g,h):=a;show{i,j,b.Yc G,d.Yc G,aY f G.Wz,aY g G.Wz,G.like i j f g h}
def Z7.setLog {b:RC} {rnd log log'} (R:Z7 c M A H b rnd log) (f:b.rl≠b.lg) (g:b.ul≠b.lg):Z7 c (M.Wb b.lg (.VF log')) A H b rnd log':=by
 have lgl:=(aB.mp R.lg.1).1
 letI i:∀(a:V9) o,M[a]?=V1 o->(∀xs,o≠.VF xs)->(M.Wb b.lg (.VF log'))[a]?=V1 o:=λa o h no=>by rw[aL (λq=>by rw[<-q,R.lg.1] at h;cases h;show no _ rfl)];show h
 letI ob:∀{a C vs},pP c M A H a C vs->pP c (M.Wb b.lg (.VF log')) A H a C vs:=λj=>o1_4 j λd k l m p=>
  ⟨d,i _ _ k (λ_ e=>by cases e),i _ _ l (λ_ e=>by cases e),m,p⟩
 show{{i _ _ R.rn.1 λ_ e=>(by cases e),R.rn.2},{i _ _ R.ns.1 λ_ e=>(by cases e),R.ns.2},ob R.wk,ob R.pl,{by rw[aL (fP f)];show R.rl.1,R.rl.2},λr s=>ob (R.rs r s),{i _ _ R.op.1 λ_ e=>(by cases e),R.op.2},{by rw[aL (fP g)];show R.ul.1,R.ul.2},{bK lgl,R.lg.2}}
def RowOK.Yc {H H':HS} {l:Tm} {r:Tb} (T:RowOK H l r) (G:Xr H H'):RowOK H' l r:={T.cov,λx v h=>aY (T.lt x v h) G.Wz,T.keys,T.Wz}
def vU (F:dR c.K) (h:W4 c M A H) (I:Inv q t H) {d:RC} {rnd log} (R:Z7 c M A H d rnd log) (f:d.rl≠d.lg) (g:d.ul≠d.lg) (l:d.rs.V0<=100) (m:log.V0<=1000000) {k o:V9} {r:V9×Vm×Tm×Tm} (u:d.rs[k]?=V1 r) (w:RuleOK q r.2.2.1 r.2.2.2)
    {y:V2 (V9×Tb)} (B:∀x∈y,RowOK H r.2.2.1 x.2) (C:M[o]?=V1 (.VF (y.VP pW))/\Off c H A o) (D:y.V0<=1000000) (E:t+y.V0<=15000000) (J:H.VB.V0<=72) (n0:1<=H.VB.V0)
    (K:∀M' A' H' L (j:V9),W4 c M' A' H'->YZ c d M A H M' A' H'->Z7 c M' A' H' d rnd L->L.V0=log.V0+1->Inv q (t+y.V0) H'->Xr H H'->H'.VB.V0<=72->(H'.VB.V0<=60->∀x∈y,FE H' r.2.2.1 r.2.2.2 x.2)->P (.Vl j) M'):
    aQ c (n+17) (.VG 343) [.VG d.rn,iV k,.VG o] M P:=by
 have h7:=bJ;letI N:=(aB.mp u).1;have hm:=aF u;apply .ZC (F.fn 21) rfl [V1 (.VG d.rn),V1 (iV k),V1 (.VG o),V8,V8,V8] rfl ?_;lk;apply sr (.VF C.1) ?_
 apply jS.Z6 (xs:=y.VP pW) (λi σ M'=>∃(j:V9) (A':Ad) (H':HS),σ=[V1 (.VG d.rn),V1 (iV k),V1 (.VG o),V1 (iV j),V8,V8]/\j<=i/\Y6 c M A H M' A' H'/\Inv q (t+i) H'/\Xr H H'/\H'.VB.V0<=72/\(H'.VB.V0<=60->∀x∈y.WU i,FE H' r.2.2.1 r.2.2.2 x.2))
  (λi v σ M' Q hv S T=>?_) (λσ M' S=>?_) y.V0 0 _ M (by simp) (JP 0 A H rfl (aM _) (Y6.Vt h) I .Vt J λ_ _ h=>(by cases h))
 .let(j,A',H',VC,U,s,W,G,z,X):=S;have R':=R.YF s;apply{s.ZN C.2 C.1,?_};rw[bC] at hv;cases hx:y[i]? with
  |V8=>rw[hx] at hv;cases hv
  |V1 x=>
  rw[hx] at hv;cases hv;have hxm:=aF hx;have il:=(aB.mp hx).1;let(Y,tb):=x;have lb:∀{v:V},Le [V1 (V.VG d.rn),V1 (iV k),V1 (V.VG o),V1 (iV j),V8,V8] (ye [V1 (V.VG d.rn),V1 (iV k),V1 (V.VG o),V1 (iV j),V8,V8] [4,5] [iV Y,v]):=Le.V7 (ja rfl) (ja rfl);apply bindM_i (ZX (i:=[iV Y,kB tb]) {VC,?_});lk;apply .Wg rfl (fm R'.ob) ?_;lk;apply z8 (n:=n+13) F s.XD R' (Oa z) ?_;lk;by_cases full:60<H'.VB.V0
  .apply ZL (by simp[full]) ?_;lk;show aV _ lb (T _ _ (JP j A' H' rfl (KZ U) s (W.le (dX [] {0,.p .a .b,.p .a (.p .b (.n 1))} [1] [] tt)) G z λh=>(e9 [{1,.n 60,.a},{0,.a,.n 60}] {5,.n 0,.n 0} [1,1,1] [] tt full h).W2))
  .apply ifY (by simp[full]) ?_;lk;apply .Wg rfl (fm R'.ob) ?_;lk;apply .Xf rfl R'.ob rfl rfl ?_;lk;apply .VF R'.rl.1 (qq1 [_] []) (qq7 [_,_] [] l N) (v:=.VG r.1) (by simp[u]) ?_;lk;apply Nn F s.XD W (fG [{0,.p .a .b,.n 15000000},{1,.c,.b}] {0,.p .a .c,.n 15000000} [15000000,15000001,15000000] [] tt E il) R' hm w ((B _ hxm).Yc G) (e9 [{0,.a,.n 72}] {0,.a,.n 88} [1,1] [] tt z) (by have:=G.Wz;show PT n0 this) λZ a0 a1 b a2 a3 a4 a5 a6 a7 a8 a9 aa ab ac=>?_;lk
   have D2:a1.VB.V0<=60->∀x∈y.WU (i+1),FE a1 r.2.2.1 r.2.2.2 x.2:=λhz x ad=>by
    rw[cF,hx] at ad;rcases aW.mp ad with h1|h1
    .show(X (K9 full) x h1).Yc a6
    .clear ad;simp at h1;subst h1;show{a2,a3,a8,a9,aa,ab,ac}
   cases b with
   |V6=>
    lk;show aV [V1 (.VG d.rn),V1 (iV k),V1 (.VG o),V1 (iV (j+1:V9)),V8,V8] ⟨VC,VC,VC,VC,trivial⟩ (T _ _ (JP (j+1) a0 a1 rfl (P0 U) (s.V7 a4) a5 (G.V7 a6) (Qi full a7) D2))
   |V3=>
    lk;show aV _ lb (T _ _ (JP j a0 a1 rfl (KZ U) (s.V7 a4) a5 (G.V7 a6) (Qi full a7) D2))
 .let(j,A',H',VC,U,s,W,G,z,X):=S;rw[aE] at W X;rw[cV] at X;have R':=R.YF s;apply{s.ZN C.2 C.1,?_};apply YN ?_;lk;apply .X4 rfl R'.ob rfl rfl (qQ R'.lg.1) ?_;lk;apply .Xf rfl R'.ob rfl rfl ?_;lk;apply Xp.fld_i ?_;lk;apply .Xf rfl R'.ob rfl rfl ?_;lk;apply .VF R'.rl.1 (qq1 [_] []) (qq7 [_,_] [] l N) (v:=.VG r.1) (by simp[u]) ?_;apply Mv _ _ _ rfl (R'.rs r hm).ob rfl rfl ?_;lk;apply .lenL (s.ZN C.2 C.1) (by rw[aE];show S3 [_] [] D) ?_;lk;apply .WX R'.lg.1 (RG m h7) ?_;lk;show K _ A' H' _ j (s.XD.wild R'.lg.2) ((YZ.ofExt s).V7 .log) (R'.setLog f g) (by show aH) W G z X
def f7.lt {s:Vm->V9}:∀{p:Tm} {r:V9},Wu t e H->r<H.VB.V0->f7 H s p r->∀x∈gD p,s x<H.VB.V0:=by
 intro p
 induction p with
 |c x=>
  intro r d f h y g;cases e:gr x with
  |V6=>
   rw[f7.VQ e] at h;rw[CP e] at g;rw[aC.mp g,<-h];show f
  |V3=>rw[Km e] at g;cases g
 |u x a k=>
  intro r d f l y g;let(i,m,n):=l;show k d (by have:=(d.Yb r _ m).2.1 i (by show cO _);show qq4 f this) n y g
 |b x a b o v=>
  intro r d f l y g;let(i,j,m,n,w):=l;have hi:=(d.Yb r _ m).2.1 i (by show .WI _);have hj:=(d.Yb r _ m).2.1 j (by show .XW _ (.WI _));rcases aW.mp g with g|g
  .show o d (qq4 f hi) n y g
  .show v d (qq4 f hj) w y g
abbrev CG (H:HS) (l r:Tm) (s:Vm->V9):Prop:=∃tb,FE H l r tb/\∀x∈gD l,Yt tb x<H.VB.V0/\s x<H.VB.V0/\VX H.VR (Yt tb x)=VX H.VR (s x)
def CG.Yc {l r:Tm} {s:Vm->V9} (c:CG H l r s) (G:Xr H H'):CG H' l r s:=by let(tb,f,g):=c;apply{tb,f.Yc G,λx h=>?_};let(a,b,d):=g x h;show fq (aY a G.Wz) (aY b G.Wz) (G.like _ _ a b d)
def El (f:Wu t e H) (C:lV (λ_=>WY) H) (w:H.W0=[]) {s s':Vm->V9}:∀{p:Tm} {i j:V9},f7 H s p i->f7 H s' p j->(∀x∈gD p,VX H.VR (s x)=VX H.VR (s' x))->i<H.VB.V0->j<H.VB.V0->VX H.VR i=VX H.VR j:=by
 letI g:∀(i j:V9) nd h,H.VB[i]?=V1 nd->H.VB[j]?=V1 h->eW H.VR nd=eW H.VR h->VX H.VR i=VX H.VR j:=λi j nd h k l n=>by
  rcases C i nd k with c|c|⟨m,c1,c2⟩
  .show c.W2
  .rw[w] at c;cases c
  .rcases C j h l with d|d|⟨m',d1,d2⟩
   .show d.W2
   .rw[w] at d;cases d
   .rw[n,d1] at c1;cases c1;show eZ (c2).Vh (d2)
 intro p
 induction p with
 |c x=>
  intro i j k l n o r;cases e:gr x with
  |V6=>
   rw[f7.VQ e] at k l;rw[k,l];show n x (by rw[CP e];show cO _)
  |V3=>
   rw[f7.con e] at k l;show g i j _ _ k l rfl
 |u x a v=>
  rintro i j ⟨i1,k,l⟩ ⟨j1,n,h4⟩ h5 o r;have:=v l h4 h5 (by have:=(f.Yb i _ k).2.1 i1 (by show cO _);show qq4 o this) (by have:=(f.Yb j _ n).2.1 j1 (by show cO _);show qq4 r this);show g i j _ _ k n (by unfold eW;simp[this])
 |b x a b y z=>
  rintro i j ⟨i1,i2,k,l,n⟩ ⟨j1,j2,h4,h5,h6⟩ h7 o r;letI A:=y l h5 (λx B=>h7 x (cU _ B)) (by letI:=(f.Yb i _ k).2.1 i1 (by show .WI _);show qq4 o this) (by letI:=(f.Yb j _ h4).2.1 j1 (by show .WI _);show qq4 r this);have e2:=z n h6 (λx B=>h7 x (dM _ B)) (by have:=(f.Yb i _ k).2.1 i2 (by show .XW _ (.WI _));show qq4 o this) (by have:=(f.Yb j _ h4).2.1 j2 (by show .XW _ (.WI _));show qq4 r this);show g i j _ _ k h4 (by unfold eW;simp[A,e2])
def Jg {a:RC} {b:V9}:((WG 356).Y8 (tX (A .V5) a b)).V0=9:=by rw[Bt];rfl
def Z7.setRnd {b:RC} {rnd log} (R:Z7 c M A H b rnd log) (f:V9):Z7 c (M.Wb b.ns (.ns ((WG 356).Y8 (tX (A .V5) b f)))) A H b f log:=by
 have nl:=(aB.mp R.ns.1).1
 letI g:∀(a:V9) o,M[a]?=V1 o->(∀fs,o=.ns fs->fs.V0<9)->(M.Wb b.ns (.ns ((WG 356).Y8 (tX (A .V5) b f))))[a]?=V1 o:=λa o h no=>by
  rw[aL (λq=>by
   rw[<-q,R.ns.1] at h;cases h;have:=no _ rfl;rw[Jg] at this;show o6 [{1,.n 9,.n 9}] {5,.n 0,.n 0} [1,1] [] tt this)];show h
 letI ob:∀{a C vs},vs.V0<9->pP c M A H a C vs->pP c (M.Wb b.ns (.ns ((WG 356).Y8 (tX (A .V5) b f)))) A H a C vs:=λi j=>o1_4 j λd l m p s=>
  ⟨d,g _ _ l (λ_ e=>by cases e),g _ _ m (λ_ e=>by cases e;rw[Bt];show bY [.k V3 (.v 0) (.n 9)] (.k V3 (.u (.v 1) (.v 0)) (.n 9)) [[1,1,1],[0,1,1]] tt [_,_] [] i),p,s⟩
 show{{g _ _ R.rn.1 λ_ e=>(by cases e),R.rn.2},{bK nl,R.ns.2},ob (by show aS rfl) R.wk,ob (by show aS rfl) R.pl,{g _ _ R.rl.1 λ_ e=>(by cases e),R.rl.2},λr w=>ob (by show aS rfl) (R.rs r w),{g _ _ R.op.1 λ_ e=>(by cases e),R.op.2},{g _ _ R.ul.1 λ_ e=>(by cases e),R.ul.2},{g _ _ R.lg.1 λ_ e=>(by cases e),R.lg.2}}
structure RSt (c:Cx) (q t:V9) (rc:RC) (rnd:V9) (M:WC) (A:Ad) (H:HS) (log:V2 V):Prop where
 h:W4 c M A H
 inv:Inv q t H
 ZH:Z7 c M A H rc rnd log
 n72:H.VB.V0<=72
 n1:1<=H.VB.V0
structure RFix (q:V9) (rc:RC):Prop where
 n1:rc.rl≠rc.lg
 n2:rc.ul≠rc.lg
 n3:rc.rl≠rc.ns
 rz:rc.rs.V0<=13
 ok:∀r∈rc.rs,RuleOK q r.2.2.1 r.2.2.2
def Ml {H:HS} {l r:Tm} (a:RuleOK q l r) (b:1<=H.VB.V0) (d:H.VB.V0<=72):H.VB.V0*kb H.VB.V0 l<=373248:=by
 have:=a.kbz _ b
 calc H.VB.V0*kb H.VB.V0 l<=72*(72*72):=DX d (aG this (DX d d))
  _=373248:=rfl
def HA {H:HS} {l:Tm} {a:V2 (V9×Tb)} (S:MSpec H l a):∀x∈a,RowOK H l x.2:=λx b=>{(S.Yp x b).1,(S.Yp x b).2.1,(S.Yp x b).2.2.1,(S.Yp x b).2.2.2}
def E3 {b H':HS} {l r:Tm} {d:V2 (V9×Tb)} (f:Wu t e b) (S:MSpec b l d) (G:Xr b H') (g:∀x∈d,FE H' l r x.2):∀s i,i<b.VB.V0->f7 b s l i->CG H' l r s:=λs i hi h=>by
 let(x,j,ha):=S.Z4 s i hi h;apply{x.2,g x j,λy k=>?_};let(v,hv):=(S.Yp x j).1 y k;have e:Yt x.2 y=v:=by unfold Yt;rw[hv];rfl
 have l1:=(S.Yp x j).2.1 y v hv;have l2:=h.lt f hi y k;have l3:=sY f.VR (a:=s y) (by rw[f.Xx];show l2);rw[f.Xx] at l3;have ev:=ha y v hv;rw[e];apply fq (aY l1 G.Wz) (aY l2 G.Wz) ?_;rw[ev];show G.like _ _ l3 l2 (BN f.VR (by rw[f.Xx];show l2))
def zo {m a:V9} {b:RC} {d:V2 V} {σ:YY} {v:V} (R:Z7 c M A H b a d) (f:XP σ 0=V1 (.VG b.rn)) (g:XP σ 1=V1 v)
    (p:∀M',YZ c b M A H M' A H->Z7 c M' A H b (a+1) d->(W4 c M A H->W4 c M' A H)->P v M'):
    (Bp.V4 (.Wv (.VQ 0) 356 6 (.Yq .Zj (.Wv (.VQ 0) 356 6) (.Vl 1))) (.V4 (.XC (.VQ 1)) .VH)).wp c m σ M (λi _ M'=>P (mE i) M'):=by
 apply Bp.ZP (Sp.fld_i (Xp.bin_i (.Xf f R.ob rfl rfl ?_)));lk;apply Xp.var_i f (asRef_i (Mw _ _ R.rn.1 R.ns.1 (by show aS rfl) ?_));have e:((a:Vo)+1)=((a+1:V9):Vo):=Qz [_] []
 focus rw[e]
 have ev:(if 6<(tX (A .V5) b a).V0 then (tX (A .V5) b a).Wb 6 (.Vl ((a+1:V9):Vo)) else tX (A .V5) b a++[.Vl ((a+1:V9):Vo)])=tX (A .V5) b (a+1):=rfl
 focus rw[ev]
 apply YN (Bp.ZP (Sp.ret_i (Xp.var_i g (seqR_i ?_))));show p _ .ns (R.setRnd _) λh=>h.wild R.ns.2
def uu (F:dR c.K) {m a:V9} {b:RC} {d:V2 V} (S:RSt c q t b a M A H d) (f:t<=15000000)
    (p:∀M' A' H',YZ c b M A H M' A' H'->RSt c q t b a M' A' H' d->Xr H H'->H'.VB.V0=H.VB.V0->H'.W0=[]->P .V8 M'):aQ c (n+5) (.VG 569) [.VG (A .V5)] M P:=by apply Jc F S.h S.inv.X5 S.inv.cong f λM' A' H' s g=>?_;let(I,G,i,j):=GP S.inv g;show p M' A' H' (.ofExt s) ⟨s.XD,I,S.ZH.YF s,by rw[i];show S.n72,by rw[i];show S.n1⟩ G (by show VN _ (i)) j
abbrev Zr:V9:=72*(72*72)
def Dz:Zr=373248:=rfl
abbrev Did (a H:HS) (rs:V2 (V9×Vm×Tm×Tm)):Prop:=H.VB.V0<=60->∀b∈rs,∀s i,i<a.VB.V0->f7 a s b.2.2.1 i->CG H b.2.2.1 b.2.2.2 s
def Did.Yc {a H H':HS} {rs} (b:Did a H rs) (G:Xr H H'):Did a H' rs:=λz d f s i hi g=>(b (aG G.Wz z) d f s i hi g).Yc G
def Kw (F:dR c.K) {d:RC} (f:RFix q d) {k:V9} {l:V2 V} {o:iD} {u:V} (S:RSt c q t d k M A H l) (v:t+d.rs.V0*Zr<=15000000) (x:l.V0<=900000)
    (XR:∀M' A' H' y (j:V9),YZ c d M A H M' A' H'->RSt c q (t+d.rs.V0*Zr) d k M' A' H' y->y.V0=l.V0+d.rs.V0->Xr H H'->(H.W0=[]->H'.W0=[])->Did H H' d.rs->o .Wo [V1 (.VG d.rn),V1 (iV j),V1 u,V8,V8,V8,V8] M'):
    jS c (n+18) (.Ws 3) (.V4 (.Yt 1 (.Yq .Zj (.VQ 1) (.W3 (.XG 356 343) (.VQ 0) (.V4 (.VQ 3) (.V4 (.W3 (.XG 356 331) (.VQ 0) (.V4 (.VQ 3) .VH)) .VH))))) (.V4 (.Xt (.W3 (.XG 617 569) (.Wv (.VQ 0) 356 0) .VH)) .VH)) (.Xb (0:V9) d.rs.V0) [V1 (.VG d.rn),V1 (iV 0),V1 u,V8,V8,V8,V8] M o:=by
 have rz:=f.rz
 apply jS.rangeI (N:=d.rs.V0) (λi σ M'=>∃(j:V9) (A':Ad) (H':HS) (y:V2 V),σ=[V1 (.VG d.rn),V1 (iV j),V1 u,V8,V8,V8,V8]/\YZ c d M A H M' A' H'/\RSt c q (t+i*Zr) d k M' A' H' y/\y.V0=l.V0+i/\Xr H H'/\(H.W0=[]->H'.W0=[])/\Did H H' (d.rs.WU i))
  (λi σ M' z hi B C=>?_) (λσ M' B=>?_) d.rs.V0 0 _ M (qq5) (O1 0 A H l rfl (.ofExt (Y6.Vt S.h)) (by assumption) rfl .Vt id λ_ _ h=>(by cases h))
 .let(j,D,E,I,VC,J,K,L,G,w,Q):=B;obtain⟨ru,hr⟩:∃r,d.rs[i]?=V1 r:={_,aI hi};letI R:=f.ok ru (aF hr);letI U:E.VB.V0*kb E.VB.V0 ru.2.2.1<=Zr:=Ml R K.n1 K.n72;letI W:=Dz;have hcn:cn E.VB.V0 ru.2.2.1=E.VB.V0*kb E.VB.V0 ru.2.2.1:=by unfold cn;rw[R.nv];rfl
  letI X:t+i*Zr+Zr<=15000000:=by have h1:(i+1)*Zr<=d.rs.V0*Zr:=d9 _ hi;have h2:(i+1)*Zr=i*Zr+Zr:=V9.succ_mul i Zr;show To v h1 h2
  have t1:t+i*Zr<=15000000:=fG [{0,.p (.p .a .b) .c,.n 15000000}] {0,.p .a .b,.n 15000000} [1,1] [] tt X;have c1:cn E.VB.V0 ru.2.2.1<=1000000:=by rw[hcn];show Qd U W
  lk;apply .Wg rfl (fm K.ZH.ob) ?_;lk;apply .Wg rfl (fm K.ZH.ob) ?_;lk;apply zR (n:=n) (m:=10) F K.h K.inv.X5 t1 K.ZH hr (KY rz) R.okl R.nv c1 R.dl R.vz λY T=>?_;lk;have yz:=T.cnt;have s2:=(Y6.Vt K.h).Yw [.VF (Y.VP pW)];apply vU (n:=n+1) F s2.XD K.inv (K.ZH.YF s2) f.n1 f.n2 (KY rz) (Td x rz hi L) hr R (HA T) ⟨bP,qt K.h⟩ (QB U W yz) (Tn U X yz) K.n72 K.n1 λZ a0 a1 a2 a3 a4 a5 a6 a7 a8 a9 aa ab=>?_;lk;apply .X4 rfl a6.ob rfl rfl (fm a4.Vq) ?_;lk;apply uu (n:=n+13) (m:=0) F ⟨a4,a8.le (t':=t+i*Zr+Zr) (Qy U yz),a6,aa,aG K.n1 a9.Wz⟩ X λac ad ae af ag ah ai aj=>?_;lk;have ej:((j:Vo)+(a3:Vo))=((j+a3:V9):Vo):=QF [_,_] [];apply aV [V1 (.VG d.rn),V1 (iV (j+a3:V9)),V1 u,V8,V8,V8,V8] ?_ (C _ _ (O1 (j+a3) ad ae a2 rfl ((J.V7 (YZ.ofExt s2)).V7 (a5.V7 af)) ?_ (S4 L a7) ((G.V7 a9).V7 ah) (λ_=>aj) λak al am s an ao ap=>?_))
  .rw[ej];show{VC,VC,VC,trivial}
  .have:t+i*Zr+Zr=t+(i+1)*Zr:=by rw[om,oh];show PV
   rw[<-this];show ag
  .rw[cF,hr] at am;clear yz c1 hcn U R hr;rcases aW.mp am with h1|h1
   .have g:=a9.V7 ah;show(Q (aG g.Wz ak) al h1 s an ao ap).Yc g
   .clear am;simp at h1;subst h1;show(E3 K.inv.X5 T a9 (ab (dX [{2,.a,.b},{0,.a,.n 60}] {0,.b,.n 60} [1,0,1,1] [] tt ai ak)) s an (aY ao G.Wz) (ap.Yc G)).Yc ah
 .let(j,D,E,I,VC,J,K,L,G,w,Q):=B;rw[cV] at Q;show XR _ _ _ _ j J K L G w Q
abbrev lsV (b i:V9):V2 V:=(cD i).VP λj=>V.VG (b+j)
abbrev lsM (a:V2 (V2 (V9×Tb))):WC:=a.VP λb=>O.VF (b.VP pW)
def L6 {b i:V9}:lsV b (i+1)=lsV b i++[.VG (b+i)]:=by unfold lsV;rw[jB,bD];rfl
def OO {b i:V9}:(lsV b i).V0=i:=by show(aE ..).V7 jM
def H7 {b i k:V9} (h:k<i):(lsV b i)[k]?=V1 (.VG (b+k)):=by unfold lsV;rw[bC,i8 h];rfl
def gU (h:W4 c M A H) {a:V9} (l:M.V0<=a):Off c H A a:=λx m e=>by have:=h.lt m;show fG [{0,.a,.b},{2,.c,.b},{1,.c,.a}] {5,.n 0,.n 0} [1,1,0,1,1] [] tt l e this
abbrev Hs (H:HS) (rs:V2 (V9×Vm×Tm×Tm)) (i:V9) (a:V2 (V2 (V9×Tb))):Prop:=a.V0=i/\∀(j:V9) X ru,a[j]?=V1 X->rs[j]?=V1 ru->MSpec H ru.2.2.1 X
def Mb (F:dR c.K) {d:RC} (f:RFix q d) {g:V9} {k:V2 V} {l o:V} (S:RSt c q t d g M A H k) (p:t<=15000000) {C:V2 V->WC->Prop}
    (XR:∀u,Hs H d.rs d.rs.V0 u->C (lsV M.V0 d.rs.V0) (M++lsM u)):
    fk c (n+18) (.W3 (.XG 356 331) (.VQ 0) (.V4 (.VQ 5) .VH)) (.Ws 5) .VH (.Xb (0:V9) d.rs.V0) [] [V1 (.VG d.rn),V1 o,V1 l,V8,V8,V8,V8] M C:=by
 have h7:=bJ;have rz:=f.rz;apply fk.rangeI (N:=d.rs.V0) (λi ys M'=>∃u,ys=lsV M.V0 i/\M'=M++lsM u/\Hs H d.rs i u) (λi ys M' v hi w x=>?_) (λys M' w=>?_) d.rs.V0 0 [] M (qq5) (g6 [] rfl (by show(cJ _).Vh) {VC,λj f y h=>by cases h})
 .let(u,VC,VC,z,B):=w;obtain⟨y,hr⟩:∃r,d.rs[i]?=V1 r:={_,aI hi};letI D:=f.ok y (aF hr);have kz:H.VB.V0*kb H.VB.V0 y.2.2.1<=Zr:=Ml D S.n1 S.n72;letI E:=Dz;have hcn:cn H.VB.V0 y.2.2.1=H.VB.V0*kb H.VB.V0 y.2.2.1:=by unfold cn;rw[D.nv];rfl
  have c1:cn H.VB.V0 y.2.2.1<=1000000:=by rw[hcn];show Qd kz E
  apply{by rw[OO];show fG [{2,.a,.n 16777216},{0,.b,.n 13},{1,.c,.b}] {0,.c,.a} [4194304,0,3,4194304,4194304] [] tt h7 rz hi,?_};lk;have s:=(Y6.Vt S.h).Yw (lsM u);have R':=S.ZH.YF s;apply .Wg rfl (fm R'.ob) ?_;lk;apply zR (n:=n) (m:=10) F s.XD S.inv.X5 p R' hr (KY rz) D.okl D.nv c1 D.dl D.vz λG T=>?_;apply x _ _ (g6 (u++[G]) ?_ ?_ {by simp[z],λj I J K L=>?_})
  .rw[L6,aH,show(lsM u).V0=i by rw[lsM,aE,z]]
  .rw[aR];unfold lsM;rw[bD];rfl
  .rw[fS] at K;clear x hi v;split at K
   .show B j I J K L
   .rename_i hj
    have:=(aB.mp K).1;simp at this;have e:j=i:=TG [_,_,_] [] z hj this;subst e;rw[hr] at L;cases L;rw[z] at K;simp at K;subst K;show T
 .let(u,VC,VC,h):=w;show XR u h
def Mm (F:dR c.K) {f:RC} (g:RFix q f) {j:V9} {k:V2 V} {l m:V} (S:RSt c q t f j M A H k) (o:t+f.rs.V0*Zr<=15000000) (p:k.V0<=900000) {u:V2 (V2 (V9×Tb))} (w:Hs H f.rs f.rs.V0 u) {y:WC} (z:y=M++lsM u++[.VF (lsV M.V0 f.rs.V0)]) {C:V2 V->WC->Prop}
    (XR:∀M' A' H' B (D:V2 Vo),YZ c f M A H M' A' H'->RSt c q (t+f.rs.V0*Zr) f j M' A' H' B->B.V0=k.V0+f.rs.V0->Xr H H'->Did H H' f.rs->C (D.VP .Vl) M'):
    fk c (n+18) (.W3 (.XG 356 343) (.VQ 0) (.V4 (.VQ 6) (.V4 (.We (.VQ 4) (.VQ 6)) .VH))) (.Ws 6) (.Ws (.Ye .notN (.We (.VQ 4) (.VQ 6)) .V8)) (.Xb (0:V9) f.rs.V0) [] [V1 (.VG f.rn),V1 l,V1 m,V8,V1 (.VG (M++lsM u).V0),V8,V8] y C:=by
 have h7:=bJ;have rz:=g.rz;letI E:Y6 c M A H y A H:=by subst z;show((Y6.Vt S.h).Yw _).Yw _
 have hlM:(lsM u).V0=f.rs.V0:=by rw[lsM,aE,w.1]
 letI I:=(aB.mp S.ZH.ns.1).1;letI J:=(aB.mp S.ZH.lg.1).1
 letI K:∀M' A' H',YZ c f y A H M' A' H'->(M'[(M++lsM u).V0]?=V1 (.VF (lsV M.V0 f.rs.V0)))/\∀(i:V9) L,u[i]?=V1 L->M'[M.V0+i]?=V1 (.VF (L.VP pW))/\Off c H' A' (M.V0+i):=λM' A' H' Q=>by apply{(Q.Za _ _ (by clear Q H' A' M' E;subst z;show bP) (gU S.h (by show ly0)) (by simp;show QG [_,_,_] [] I) (by simp;show QG [_,_,_] [] J)).1,λi L R=>Q.Za _ _ ?_ (gU S.h (Ge)) (λe=>Ru I e) (λe=>Ru J e)};have il:=(aB.mp R).1;have:=w.1;rw[z,bV (by simp;show ir [{2,.a,.b},{1,.c,.d},{2,.d,.b}] {1,.c,.a} [1,0,1,1,1] [] tt hlM il this),dw (by show Ge),show M.V0+i-M.V0=i by show RI [_,_] [],lsM,bC,R];rfl
 apply fk.rangeI (N:=f.rs.V0) (λi ys M'=>∃(D:V2 Vo) (A':Ad) (H':HS) (B:V2 V),ys=D.VP .Vl/\D.V0=i/\YZ c f y A H M' A' H'/\RSt c q (t+i*Zr) f j M' A' H' B/\B.V0=k.V0+i/\Xr H H'/\Did H H' (f.rs.WU i))
  (λi ys M' U hi W X=>?_) (λys M' W=>?_) f.rs.V0 0 [] y (qq5) (O1 [] A H k rfl rfl (.ofExt (Y6.Vt E.XD)) (by rw[yT];show⟨E.XD,S.inv,S.ZH.YF E,S.n72,S.n1⟩) rfl .Vt λ_ _ h=>(by cases h))
 .let(D,Y,Z,a0,VC,a1,Q,a2,a3,G,a4):=W;obtain⟨ru,hr⟩:∃r,f.rs[i]?=V1 r:={_,aI hi};letI a5:=g.ok ru (aF hr);letI a6:H.VB.V0*kb H.VB.V0 ru.2.2.1<=Zr:=Ml a5 S.n1 S.n72;have ce:=Dz
  have ti:t+i*Zr+Zr<=15000000:=by have h1:(i+1)*Zr<=f.rs.V0*Zr:=d9 _ hi;have h2:(i+1)*Zr=i*Zr+Zr:=V9.succ_mul i Zr;show To o h1 h2
  obtain⟨L,R⟩:∃L,u[i]?=V1 L:={_,aI (by rw[w.1];show hi)};letI T:=w.2 i L ru R hr;have yz:=T.cnt;let(a7,a8):=K _ _ _ Q;apply{by rw[aE];show ir [{2,.a,.n 16777216},{0,.b,.n 13},{1,.c,.b},{2,.d,.c}] {0,.d,.a} [4194304,0,3,4194304,4194304,4194304] [] tt h7 rz hi a1,?_};lk;apply .VF a7 (by show qq1 [_] []) (by show Tv [_,_] [] rz hi) (v:=.VG (M.V0+i)) (by simpa using H7 hi) ?_;lk;apply{VC,?_}
  focus apply ifT ?_
  apply .Wg rfl (fm a2.ZH.ob) ?_;lk;apply .VF a7 (by show qq1 [_] []) (by show Tv [_,_] [] rz hi) (v:=.VG (M.V0+i)) (by simpa using H7 hi) ?_;lk;apply vU (n:=n+1) F a2.h a2.inv a2.ZH g.n1 g.n2 (KY rz) (Td p rz hi a3) hr a5 (λx a9=>(HA T x a9).Yc G) (a8 i L R) (QB a6 ce yz) (Tn a6 ti yz) a2.n72 a2.n1 λaa ab ac ad ae af ag ah ai aj ak al am=>?_;apply X _ _ (O1 (D++[(ae:Vo)]) ab ac ad (by simp) (by simp[a1]) (Q.V7 ag) ?_ (S4 a3 ai) (G.V7 ak) λan ao ap s aq ar as=>?_)
  .have e:t+i*Zr+Zr=t+(i+1)*Zr:=by rw[om,oh];show PV
   rw[<-e];show{af,aj.le (Qy a6 yz),ah,al,aG a2.n1 ak.Wz}
  .rw[cF,hr] at ap;clear yz a6 a5 hr;rcases aW.mp ap with h1|h1
   .show(a4 (aG ak.Wz an) ao h1 s aq ar as).Yc ak
   .clear ap;simp at h1;subst h1;show E3 S.inv.X5 T (G.V7 ak) (am an) s aq ar as
 .let(D,Y,Z,a0,VC,a1,Q,a2,a3,G,a4):=W;rw[cV] at a4;show XR _ _ _ _ D ((YZ.ofExt E).V7 Q) a2 a3 G a4
def Js {a:RC}:((if a.turns then "turns" else "together":Vm)==("turns":Vm))=a.turns:=by cases a.turns<;>decide +kernel
def Dc (F:dR c.K) {a:RC} (b:RFix q a) {d:V9} {f:V2 V} (S:RSt c q t a d M A H f) (g:t+a.rs.V0*Zr<=15000000) (o:f.V0<=900000)
    (p:∀M' A' H' r (j:Vo),YZ c a M A H M' A' H'->RSt c q (t+a.rs.V0*Zr) a (d+1) M' A' H' r->r.V0=f.V0+a.rs.V0->Xr H H'->H'.W0=[]->Did H H' a.rs->P (.Vl j) M'):
    aQ c (n+19) (.VG 348) [.VG a.rn] M P:=by
 letI u:=b.rz;apply .ZC (F.fn 22) rfl [V1 (.VG a.rn),V8,V8,V8,V8,V8,V8] rfl ?_
 focus unfold oO
 lk;apply .Xf rfl S.ZH.ob rfl rfl ?_;lk;apply .lenL S.ZH.rl.1 (by rw[aE];show bY [.l V3 (.v 0) (.n 13)] (.k V3 (.v 0) (.n 9223372036854775808)) [[1,1]] tt [_] [] u) ?_;lk;apply .Xb ?_;lk;apply⟨VC,?_⟩;lk;apply .X4 rfl S.ZH.ob rfl rfl (fm S.h.Vq) ?_;lk;rw[aE];apply uu (n:=n+13) (m:=0) F S (P8 g) λx y B C D E G I=>?_;letI J:∀{H':HS},Did B H' a.rs->Did H H' a.rs:=λL z N Q s i hi R=>L z N Q s i (C5 G hi) (R.Yc E);lk;apply .X4 rfl D.ZH.ob rfl rfl (zx D.ZH.op.1) ?_;lk;apply .getK (kd:=kdS c.VM c.w) (k:="order") D.ZH.op.1 ?_;have e1:(oZ (Jt a) "order").Wn (.Vn "together")=.Vn (if a.turns then "turns" else "together"):=rfl
 focus rw[e1]
 lk;rw[Js];cases a.turns with
 |V6=>
  lk;apply sr (.range0 (Lb u)) ?_;apply Kw F b D g o λT U W X j Y Z a0 a1 a2 a3=>?_;apply YN (Bp.ZR (YN ?_));apply zo Z.ZH (by show rfl) (by show rfl) λa4 a5 a6 a7=>?_;show p _ _ _ X j ((C.V7 Y).V7 a5) ⟨a7 Z.h,Z.inv,a6,Z.n72,Z.n1⟩ a0 (E.V7 a1) (a2 I) (J a3)
 |V3=>
  lk;apply⟨VC,?_⟩;lk;apply iJ (.range0 (Lb u)) (.YB rfl) ?_;apply Mb F b D (P8 g) λa8 a9=>?_;lk;apply⟨VC,?_⟩;lk;apply iJ (.range0 (Lb u)) (.YB rfl) ?_;apply Mm F b D g o a9 rfl λT U W X aa Y Z a0 a1 a3=>?_;have s2:=(Y6.Vt Z.h).Yw [.VF (aa.VP .Vl)];have S2':RSt c q (t+a.rs.V0*Zr) a d (T++[.VF (aa.VP .Vl)]) U W X:=⟨s2.XD,Z.inv,Z.ZH.YF s2,Z.n72,Z.n1⟩;lk;apply .sum bP ?_;lk;apply .X4 rfl S2'.ZH.ob rfl rfl (fm S2'.h.Vq) ?_;lk;apply uu (n:=n+13) (m:=0) F S2' g λa4 ab ac a5 ad ae af ag=>?_;apply YN (Bp.ZR (YN ?_));apply zo ad.ZH (by show rfl) (by show rfl) λah ai aj ak=>?_;show p _ _ _ X _ ((((C.V7 Y).V7 (.ofExt s2)).V7 a5).V7 ai) ⟨ak ad.h,ad.inv,aj,ad.n72,ad.n1⟩ a0 ((E.V7 a1).V7 ae) ag (J (a3.Yc ae))
def Did.start {a H H':HS} {rs} (G:Xr a H) (b:Did H H' rs):Did a H' rs:=λz d f s i hi g=>b z d f s i (aY hi G.Wz) (g.Yc G)
def ED {a k:V9}:decide ((a:Vo)<(k:Vo))=decide (a<k):=by rw[decide_eq_decide];show bY [] (.I (.k V6 (.z (.v 0)) (.z (.v 1))) (.k V3 (.v 0) (.v 1))) [[1,1],[1,1]] tt [_,_] []
structure RunEnd (H0 H:HS) (rc:RC) (word:Vm):Prop where
 w:H.W0=[]
 n:H.VB.V0<=72
 g:Xr H0 H
 full:word="nodes"\/(word≠"nodes"/\H.VB.V0<=60/\Did H0 H rc.rs)
def Rq (F:dR c.K) {f:RC} (g:RFix q f) (o:1<=f.Zo/\f.Zo<=2) {r:WC} {u:Ad} {y:HS} {T:V9} (B:T<=15000000)
    (C:∀M' A' H' D,W4 c M' A' H'->YZ c f r u y M' A' H'->Inv q T H'->RunEnd y H' f D->P (.Vn D) M'):
    ∀(k E t:V9) (M:WC) (A:Ad) (H:HS) (I:V2 V),E+k=f.Zo->RSt c q t f E M A H I->t+k*(f.rs.V0*Zr)<=T->I.V0+k*13<=900000->YZ c f r u y M A H->Xr y H->(1<=E->H.W0=[]/\H.VB.V0<=60/\Did y H f.rs)->
    oJ c (n+19) (.Ye .ltI (.Wv (.VQ 0) 356 6) (.W3 .ZN (.Wv (.VQ 0) 356 2) (.V4 (.Vn "rounds") (.V4 (.Vl 30) .VH)))) (.V4 (.Yt 1 (.W3 (.XG 356 348) (.VQ 0) .VH)) (.V4 (.ZK (.YM (.W3 (.XG 356 324) (.VQ 0) .VH)) (.V4 (.XC (.Vn "nodes")) .VH) .VH) (.V4 (.ZK (.and (.Ye .eqI (.VQ 1) (.Vl 0)) (.Ye .eqL0 (.YQ (.Ws (.VQ 2) (.Ws 2) (.Wv (.VQ 0) 356 8) (.Ws (.Ye .geI (.VQ 2) (.Wv (.VQ 0) 356 6))))) (.ZZ .VH))) (.V4 (.XC (.Vn "settled")) .VH) .VH) .VH))) [V1 (.VG f.rn),V8,V8] M
     (AX ((Bp.V4 (.XC (.Vn "rounds")) .VH).wp c (n+19)) λJ _ M'=>P (mE J) M'):=by
 have h7:=bJ;have rz:=g.rz;intro k
 induction k with
 |WM=>
  intro E t M A H I K S L Q R G U;let(w,W,X):=U (dX [{0,.n 1,.a},{2,.p .b (.n 0),.a}] {0,.n 1,.b} [1,1,0,1] [] tt o.1 K);apply .Zt ?_;lk;apply .Xf rfl S.ZH.ob rfl rfl ?_;lk;apply .X4 rfl S.ZH.ob rfl rfl (zx S.ZH.op.1) ?_;lk;apply .getK (kd:=kdS c.VM c.w) (k:="rounds") S.ZH.op.1 ?_
  focus rw[show(oZ (Jt f) "rounds").Wn (.Vl 30)=.Vl f.Zo from rfl]
  lk;rw[ED];apply ZL (Vk (dX [⟨2,.p .a (.n 0),.b⟩] ⟨3,.a,.b⟩ [1,0,1] [] tt K)) ?_;lk;show C _ _ _ _ S.h R (S.inv.le (fG [⟨0,.p .a (.m 0 .b),.c⟩] ⟨0,.a,.c⟩ [1,1] [] tt L)) ⟨w,S.n72,G,.Wt (fq (by decide +kernel) (e9 [⟨0,.a,.n 60⟩] ⟨0,.a,.n 60⟩ [1,1] [] tt W) X)⟩
 |Wh k Y=>
  intro E t M A H I K S L Q R G U;rw[om,oh] at L;apply .Zt ?_;lk;apply .Xf rfl S.ZH.ob rfl rfl ?_;lk;apply .X4 rfl S.ZH.ob rfl rfl (zx S.ZH.op.1) ?_;lk;apply .getK (kd:=kdS c.VM c.w) (k:="rounds") S.ZH.op.1 ?_
  focus rw[show(oZ (Jt f) "rounds").Wn (.Vl 30)=.Vl f.Zo from rfl]
  lk;rw[ED];apply ifY (Vs (qq6 K)) ?_;lk;apply .Wg rfl (fm S.ZH.ob) ?_;lk;apply Dc (n:=n) F g S (ir [⟨0,.a,.n 15000000⟩,⟨0,.p .b (.p .c .d),.a⟩] ⟨0,.p .b .d,.n 15000000⟩ [1,1,1] [] tt B L) (dX [⟨0,.p .a (.q (.p .b (.n 1)) 13),.n 900000⟩] ⟨0,.a,.n 900000⟩ [1,1] [] tt Q) λZ a0 a1 a2 j a3 a4 a5 a6 a7 a8=>?_;have X:=a8.start G;lk;apply .Wg rfl (fm a4.ZH.ob) ?_;lk;apply z8 (n:=n+16) F a4.h a4.ZH (by letI:=a4.n72;show Oa this) ?_;lk;by_cases full:60<a1.VB.V0
  .apply ifY (Vs full) ?_;lk;show C _ _ _ _ a4.h (R.V7 a3) (a4.inv.le (PZ L)) {a7,a4.n72,G.V7 a6,.XB rfl}
  .apply ZL (Vk full) ?_;lk;by_cases j0:j=0
   .apply ifY (by show Vw ‹_›) ?_;lk;apply{VC,?_};apply .Xf rfl a4.ZH.ob rfl rfl ?_;apply iJ (.VF a4.ZH.ul.1) (.YB rfl) ?_;apply fk.Z6 (xs:=f.rs.VP λ_=>V.Vl 0) (λi ys M'=>ys=[]/\M'=Z) (λi v ys M' a9 hv aa ab=>?_) (λys M' aa=>?_) (f.rs.VP λ_=>V.Vl 0).V0 0 [] Z (qq5) {VC,VC}
    .clear a3;let(rfl,VC):=aa;rw[bC] at hv;cases hx:f.rs[i]? with
     |V8=>rw[hx] at hv;cases hv
     |V1 x=>
      rw[hx] at hv;cases hv;apply fq a4.ZH.ul.1 (by simp) ?_;lk;apply .Xf rfl a4.ZH.ob rfl rfl ?_;lk;apply ZL (Vk (bY [] (.N (.l V6 (.z (.p (.v 0) (.n 1))) (.n 0))) [[1]] tt [_] [])) ?_;show ab _ _ {VC,VC}
    .let(rfl,VC):=aa;apply{a4.ZH.ul.1,?_};lk;apply eu.i (xs:=[]) (by rw[bV (by(rw[aH];show cC _))];show bP) (eu.i bP {VC,?_});apply ifY rfl ?_;lk;have s:=((Y6.Vt a4.h).Yw [.VF []]).Yw [.VF []];show C _ _ _ _ s.XD ((R.V7 a3).V7 (.ofExt s)) (a4.inv.le (PZ L)) {a7,a4.n72,G.V7 a6,.Wt (fq (by decide +kernel) (K9 full) X)}
   .apply ZL (by show Vd ‹_›) ?_;apply ZL rfl ?_;lk;apply oJ.weak (σ:=[V1 (.VG f.rn),V8,V8]) {VC,trivial} ?_;show Y (E+1) _ Z a0 a1 a2 (qq3 K) a4 (ir [{0,.p .a (.p .b .c),.d}] {0,.p (.p .a .c) .b,.d} [1,1] [] tt L) (ir [{0,.a,.n 13},{0,.p .b (.q (.p .c (.n 1)) 13),.n 900000},{2,.d,.p .b .a}] {0,.p .d (.q .c 13),.n 900000} [1,1,1,1] [] tt rz Q a5) (R.V7 a3) (G.V7 a6) λ_=>fq a7 (K9 full) X
def Ro (F:dR c.K) {d:RC} (f:RFix q d) (g:1<=d.Zo/\d.Zo<=2) (S:RSt c q t d 0 M A H []) (i:t<=1000)
    (j:∀M' A' H' k,W4 c M' A' H'->YZ c d M A H M' A' H'->Inv q 15000000 H'->RunEnd H H' d k->P (.Vn k) M'):aQ c (n+20) (.VG 353) [.VG d.rn] M P:=by have rz:=f.rz;have ce:=Dz;apply .ZC (F.fn 23) rfl [V1 (.VG d.rn),V8,V8] rfl ?_;lk;apply Sp.while_i ?_;have h1:d.rs.V0*Zr<=13*Zr:=d9 _ rz;have h2:d.Zo*(d.rs.V0*Zr)<=2*(13*Zr):=DX g.2 h1;apply Rq F f g (aM _) j d.Zo 0 t M A H [] (qq5) S (fG [⟨0,.a,.n 1000⟩,⟨2,.b,.n 373248⟩,⟨0,.c,.m 2 (.m 13 .b)⟩] ⟨0,.p .a .c,.n 15000000⟩ [1,1,26,0,1] [] tt i ce h2) (by simp;show e9 [⟨0,.a,.n 2⟩] ⟨0,.q .a 13,.n 900000⟩ [1,13] [] tt g.2) (.ofExt (Y6.Vt S.h)) .Vt (λh=>(o6 [⟨0,.n 1,.n 0⟩] ⟨5,.n 0,.n 0⟩ [1,1] [] tt h).W2)
abbrev Zu:Tm->V2 Tm
 | .c x=>[.c x]
 | .u x a=>.u x a::Zu a
 | .b x a b=>.b x a b::(Zu a++Zu b)
def qg:∀{p:Tm},(Zu p).V0=p.VA
 | .c x=>rfl
 | .u x a=>by have:=qg (p:=a);show dX [{2,.a,.b}] {2,.p .a (.n 1),.p .b (.n 1)} [1,1] [1,0,1] tt this
 | .b x a b=>by have:=qg (p:=a);have:=qg (p:=b);change(Zu a++Zu b).V0+1=a.VA+b.VA+1;rw[aH];show bY [.e V3 (.v 0) (.v 1),.e V3 (.v 2) (.v 3)] (.e V3 (.p (.p (.v 0) (.v 2)) (.n 1)) (.p (.p (.v 1) (.v 3)) (.n 1))) [[1,0,1,0,1],[1,1,0,1]] tt [_,_,_,_] [] (by assumption) this
abbrev je (r:V2 V9×Tm):V:=.Vj [.Vj (XX r.1),eH r.2]
def zK:∀{l:V2 V9},jo (XX l)=V6
 |[]=>rfl
 |x::l=>zK (l:=l)
def qR:∀{p:Tm},nJ (eH p)=V6
 | .c x=>rfl
 | .u x a=>by change(V6&&(nJ (eH a)&&V6))=V6;rw[qR];rfl
 | .b x a b=>by change(V6&&(nJ (eH a)&&(nJ (eH b)&&V6)))=V6;rw[qR,qR];rfl
def vF:∀{L:V2 (V2 V9×Tm)},jo (L.VP je)=V6
 |[]=>rfl
 |r::L=>by
  focus change((jo (XX r.1)&&(nJ (eH r.2)&&V6))&&jo (L.VP je))=V6
  rw[zK,qR,vF (L:=L)];rfl
structure PtsOK (p:Tm) (L:V2 (V2 V9×Tm)):Prop where
 Zu:L.VP (·.2)=Zu p
 path:∀r∈L,r.1.V0<=p.Yi
nonrec abbrev s7:Bp:=.V4 (.Xt (.W3 .Zc (.VQ 1) (.V4 (.YQ (.Ws (.Vj (.V4 (.Yq .addT (.Vj (.V4 (.VQ 2) .VH)) (.VQ 4)) (.V4 (.VQ 5) .VH))) (.Xn [4,5]) (.Vu (.VG 96) (.V4 (.VQ 3) .VH)) .VH)) .VH))) .VH
def uv {m d g k i:V9} {kid:Tm} {xs:V2 V} {s:V} {w:V2 (V2 V9×Tm)} {x:iD} {bF:WC} (y:kid.Yi<=1000) (hs:kid.VA<=1000)
    (z:∀{M:WC} {P:dQ},(∀L,PtsOK kid L->P (.VG M.V0) (M++[.VF (L.VP je)]))->aQ c m (.VG 96) [eH kid] M P)
    (o:Wa bF M) (B:bF.V0<=d) (C:bF.V0<=g) (D:bF.V0<=k) (E:M[d]?=V1 (.VF (w.VP je))) (F:M[g]?=V1 (.it (.enum k i))) (hi:M[k]?=V1 (.it (.Vj xs i))) (G:xs[i]?=V1 (eH kid)) (hz:w.V0<=1000)
    (next:∀M' L,Wa bF M'->PtsOK kid L->M'[d]?=V1 (.VF ((w++L.VP λr=>(i::r.1,r.2)).VP je))->M'[g]?=V1 (.it (.enum k (i+1)))->M'[k]?=V1 (.it (.Vj xs (i+1)))->
     jS c m (.Xn [2,3]) s7 (.XG g) [V1 s,V1 (.VG d),V8,V8,V8,V8] M' x):
    jS c m (.Xn [2,3]) s7 (.XG g) [V1 s,V1 (.VG d),V8,V8,V8,V8] M x:=by
 have h7:=bJ;have hfl:=(aB.mp E).1;have hel:=(aB.mp F).1;have hil:=(aB.mp hi).1;have ne:g≠k:=λq=>by rw[q,hi] at F;cases F
 have n1:d≠g:=λq=>by rw[q,F] at E;cases E
 have n2:d≠k:=λq=>by rw[q,hi] at E;cases E
 apply .stepW (lF.enumItem F hi G) ?_;generalize I:(M.Wb k (.it (.Vj xs (i+1)))).Wb g (.it (.enum k (i+1)))=M1;have f1:M1[d]?=V1 (.VF (w.VP je)):=by rw[<-I,aL n1.Vh,aL n2.Vh];show E
 have e1:M1[g]?=V1 (.it (.enum k (i+1))):=by rw[<-I,bK (by simpa using hel)]
 have i1:M1[k]?=V1 (.it (.Vj xs (i+1))):=by rw[<-I,aL ne,bK hil]
 have o1:Wa bF M1:=by rw[<-I];show(o.Wb D).Wb C
 apply bindM_i (ZX {VC,?_});lk;apply .Wg rfl (qQ f1) ?_;lk;apply{VC,?_};lk;apply z λL T=>?_;apply iJ (.VF bP) (.YB rfl) ?_;letI J:L.V0<=1000:=by have:=T.Zu;rw[<-aE (f:=(·.2)),this,qg];show hs
 apply fk.Z6 (xs:=L.VP je) (λj ys K=>ys=(L.WU j).VP (λr=>je (i::r.1,r.2))/\K=M1++[.VF (L.VP je)]) (λj v ys K N hv Q R=>?_) (λys K Q=>?_) (L.VP je).V0 0 [] _ (by show fj _) {VC,VC}
 .let(rfl,VC):=Q;rw[bC] at hv;cases hr:L[j]? with
  |V8=>rw[hr] at hv;cases hv
  |V1 r=>
   rw[hr] at hv;cases hv;have hp:=T.path r (aF hr);apply fq bP (by rw[aE,dF];show bY [.e V3 (.v 0) (.n 16777216),.l V3 (.v 1) (.n 1000)] (.l V3 (.u (.v 2) (.v 1)) (.v 0)) [[1,1,0,1,1],[0,1,0,1,1]] tt [_,_,_] [] h7 J) ?_;apply bindM_i (ZX (i:=[.Vj (XX r.1),eH r.2]) {VC,?_});lk;apply{by simp[XX];show fG [{0,.a,.n 1000},{2,.b,.n 16777216},{0,.c,.a}] {0,.p (.n 1) .c,.b} [16777216,16777216,0,1001,16777216] [] tt y h7 hp,?_};lk;apply R _ _ {?_,VC};rw[cF,hr,bD];rfl
 .let(rfl,VC):=Q;apply{bP,?_};rw[aE,cV];lk;apply .Zc (xs:=w.VP je) (ys:=L.VP λr=>je (i::r.1,r.2)) ((Wa.Ww _).V7 (Wa.Ww _) _ _ f1) bP (by simp;show dX [{0,.a,.n 1000},{0,.b,.n 1000}] {0,.p .a .b,.n 16777216} [1,1,1] [] tt hz J) ?_;lk;apply aV _ (Le.V7 (ja rfl) (ja rfl)) ?_
  have Za:∀(b:V9) ob,b≠d->M1[b]?=V1 ob->((M1++[O.VF (L.VP je)]++[O.VF (L.VP λr=>je (i::r.1,r.2))]).Wb d (.VF (w.VP je++L.VP λr=>je (i::r.1,r.2))))[b]?=V1 ob:=λb ob S h=>by rw[aL (fP S)];show(Wa.Ww _).V7 (Wa.Ww _) _ _ h
  apply next _ L ((o1.V7 ((Wa.Ww _).V7 (Wa.Ww _))).Wb B) T ?_ (Za _ _ n1.Vh e1) (Za _ _ n2.Vh i1);have:=(aB.mp f1).1;rw[bK (by simp;show dX [{1,.a,.b}] {1,.a,.p .b (.n 2)} [1,1] [] tt this),bD,cB];rfl
def wH {m a b d i:V9} {xs:V2 V} {f:V} {g:iD} (h:M[b]?=V1 (.it (.enum d i))) (hi:M[d]?=V1 (.it (.Vj xs i))) (j:xs[i]?=V8) (p:g .Wo [V1 f,V1 (.VG a),V8,V8,V8,V8] (M.Wb d (.it .dead))):
    jS c m (.Xn [2,3]) s7 (.XG b) [V1 f,V1 (.VG a),V8,V8,V8,V8] M g:=.YS (.V8 (.enumEnd h hi j)) p
def IQ {o o':O}:(M++[o,o'])[M.V0+1]?=V1 o':=by(rw[dw (dg _),yU (aM _),iA];rfl)
def Ph {o o':O}:(M++[o,o'])[M.V0]?=V1 o:=by(rw[dw (aM _),iA];rfl)
def Ll (F:dR c.K):∀(p:Tm) {m:V9} {M:WC} {P:dQ},p.Yi<=m->p.Yi<=500->p.VA<=500->(∀L,PtsOK p L->P (.VG M.V0) (M++[.VF (L.VP je)]))->aQ c (n+m) (.VG 96) [eH p] M P:=by
 have h7:=bJ;intro p
 letI start:∀(p:Tm) {m:V9} {M:WC} {P:dQ} {xs:V2 V} {x:Vm},eH p=.Vj (.Vn x::xs)->xs.V0<=2->
   (∀{d:iD} {g:WC} (j s z:V9),Wa M g->M.V0<=j->M.V0<=s->M.V0<=z->g[j]?=V1 (.VF ([([],p)].VP je))->g[s]?=V1 (.it (.enum z 0))->g[z]?=V1 (.it (.Vj xs 0))->
    (∀M' L B,Wa M M'->PtsOK p L->M.V0<=B->j≠B->M'[j]?=V1 (.VF (L.VP je))->d .Wo [V1 (eH p),V1 (.VG j),V8,V8,V8,V8] (M'.Wb B (.it .dead)))->jS c (n+m) (.Xn [2,3]) s7 (.XG s) [V1 (eH p),V1 (.VG j),V8,V8,V8,V8] g d)->
   (∀L,PtsOK p L->P (.VG M.V0) (M++[.VF (L.VP je)]))->aQ c (n+(m+1)) (.VG 96) [eH p] M P:=by
  intro p m M P xs x C D E I;apply aQ.tidyL ?_;apply .ZC (F.fn 3) rfl [V1 (eH p),V8,V8,V8,V8,V8] rfl ?_
  focus unfold HU
  lk;rw[C];apply ZX (fq (by show di _) (by simp;show dX [⟨2,.a,.n 16777216⟩,⟨0,.b,.n 2⟩] ⟨0,.p .b (.n 1),.a⟩ [16777216,0,3,16777216] [] tt h7 D) ?_);lk;apply .enumT ?_;apply sr (.ownE IQ) ?_;rw[<-C];apply E M.V0 _ _ ((Wa.Ww _).V7 (Wa.Ww _)) (aM _) (by simp;show e9 [] ⟨0,.a,.p (.p .a (.n 1)) (.n 1)⟩ [1] [] tt) (by(rw[aH];show cR _ _)) ((Wa.Ww _) _ _ bP) IQ Ph λM' L B o T J N Q=>?_
  .lk;let(G,R):=(o.Wb (i:=B) (o:=.it .dead) J).split;apply O2 G M.V0 (L.VP je) R rfl (aM _) ?_ vF (I L T);rw[aL N.Vh];show Q
 have ne:∀{M':WC} {j z:V9} {xs ys:V2 V} {i:V9},M'[j]?=V1 (.VF xs)->M'[z]?=V1 (.it (.Vj ys i))->j≠z:=λS U q=>by rw[q,U] at S;cases S
 induction p with
 |c x=>
  intro m M P W X hz I;obtain⟨m,VC⟩:∃k,m=k+1:={m-1,by show Ot [_] [] W};apply start (.c x) rfl (by simp) (λj s z o Y Z a0 a1 a2 hi XR=>?_) I;show wH a2 hi rfl (XR _ _ _ o {VC,λr a3=>by rw[aC.mp a3];simp} a0 (ne a1 hi) a1)
 |u x a a4=>
  intro m M P W X hz I;obtain⟨m,VC⟩:∃k,m=k+1:={m-1,Ow [_,_] [] W};apply start (.u x a) rfl (by show dg _) (λj s z o Y Z a0 a1 a2 hi XR=>?_) I;apply uv (kid:=a) (PX X) (PX hz) (a4 (Rt W) (PU X) (PU hz)) o Y Z a0 a1 a2 hi rfl (by show di _) λM' L o' T a5 a6 a7=>?_;apply wH a6 a7 rfl (XR _ _ _ o' {?_,λr a3=>?_} a0 (ne a5 a7) a5)
  .rw[bD,cB];change Tm.u x a::L.VP (·.2)=_;rw[T.Zu];rfl
  .rcases aW.mp a3 with h|h
   .rw[aC.mp h];simp
   .clear a3;let(y,a8,VC):=aK.mp h;have:=T.path y a8;show P0 this
 |b x a b a4 a9=>
  intro m M P W X hz I;obtain⟨m,VC⟩:∃k,m=k+1:={m-1,qq9 [_,_,_] [] W};apply start (.b x a b) rfl (by show aM _) (λj s z o Y Z a0 a1 a2 hi XR=>?_) I;apply uv (kid:=a) (bY [.l V3 (.p (.w (.v 0) (.v 1)) (.n 1)) (.n 500)] (.l V3 (.v 0) (.n 1000)) [[1,1,1],[1,0,1]] tt [_,_] [] X) (dX [{0,.p (.p .a .b) (.n 1),.n 500}] {0,.a,.n 1000} [1,1] [] tt hz) (a4 (Ov [_,_,_] [] W) (bY [.l V3 (.p (.w (.v 0) (.v 1)) (.n 1)) (.n 500)] (.l V3 (.v 0) (.n 500)) [[1,1,1],[1,0,1]] tt [_,_] [] X) (Qc hz)) o Y Z a0 a1 a2 hi rfl (by show di _) λM' L o' T a5 a6 a7=>?_;have ll:L.V0<=500:=by rw[<-aE (f:=(·.2)),T.Zu,qg];show Qc hz
  apply uv (kid:=b) (bY [.l V3 (.p (.w (.v 0) (.v 1)) (.n 1)) (.n 500)] (.l V3 (.v 1) (.n 1000)) [[1,0,1],[1,1,1]] tt [_,_] [] X) (dX [{0,.p (.p .a .b) (.n 1),.n 500}] {0,.b,.n 1000} [1,1] [] tt hz) (a9 (Ou [_,_,_] [] W) (bY [.l V3 (.p (.w (.v 0) (.v 1)) (.n 1)) (.n 500)] (.l V3 (.v 1) (.n 500)) [[1,0,1],[1,1,1]] tt [_,_] [] X) (dX [{0,.p (.p .a .b) (.n 1),.n 500}] {0,.b,.n 500} [1,1] [] tt hz)) o' Y Z a0 a5 a6 a7 rfl (by simp;show e9 [{0,.a,.n 500}] {0,.a,.n 999} [1,1] [] tt ll) λaa ab ac ad ae af ag=>?_;apply wH af ag rfl (XR _ _ _ ac {?_,λr a3=>?_} a0 (ne ae ag) ae)
  .rw[bD,bD,cB,cB];change Tm.b x a b::(L.VP (·.2)++ab.VP (·.2))=_;rw[T.Zu,ad.Zu];rfl
  .rcases aW.mp a3 with h|h
   .clear a3;rcases aW.mp h with h|h
    .rw[aC.mp h];simp
    .let(y,a8,VC):=aK.mp h;have:=T.path y a8;show bY [.l V3 (.v 0) (.v 1)] (.l V3 (.p (.v 0) (.n 1)) (.p (.w (.v 1) (.v 2)) (.n 1))) [[1,1,1],[0,1,1]] tt [_,_,_] [] this
   .clear a3;let(y,a8,VC):=aK.mp h;letI:=ad.path y a8;show bY [.l V3 (.v 0) (.v 1)] (.l V3 (.p (.v 0) (.n 1)) (.p (.w (.v 2) (.v 1)) (.n 1))) [[0,1,1],[1,1,1]] tt [_,_,_] [] this
def aQ.makeS {C a b:V9} {XT:V2 (VK Vm)} {WK:Bp} {vs:V2 V} (d:Fd c.K C a=V6) (h:Ah c.K a b XT WK=V6) (f:vs.V0+1=b) (σ:YY) (g:(V.VG (M.V0+1)::vs).VP V1++xR (XT.V0-b)=σ)
    (w:WK.wp c n σ (M++[.ns [],.YH C M.V0]) λi _ M'=>mE i=.V8/\P (.VG (M.V0+1)) M'):aQ c (n+2) (.VG C) vs M P:=.make d (.ZC h f σ g w)
structure New (bF M:WC) (a d C:V9) (vs:V2 V):Prop where
 i:M[a]?=V1 (.YH C d)
 f:M[d]?=V1 (.ns ((WG C).Y8 vs))
 la:bF.V0<=a
 ld:bF.V0<=d
 o:Wa bF M
def New.start {C:V9}:New M (M++[.ns [],.YH C M.V0]) (M.V0+1) M.V0 C []:={by(rw[dw (dg _),yU (aM _),iA];rfl),by simp,HK,e9 [] {0,.a,.a} [1] [] tt,Wa.Ww _}
def New.Ya {bF M':WC} {a d C:V9} {vs:V2 V} (h:New bF M a d C vs) (o:Wa M M'):New bF M' a d C vs:={o _ _ h.i,o _ _ h.f,h.la,h.ld,h.o.V7 o}
def New.Ww {bF:WC} {G:WC} {a d C:V9} {vs:V2 V} (h:New bF M a d C vs):New bF (M++G) a d C vs:=h.Ya (Wa.Ww _)
def New.ob {bF:WC} {a d C:V9} {vs:V2 V} (h:New bF M a d C vs):Ob M a C vs:={_,h.i,h.f}
def New.YA {bF:WC} {a d C i:V9} {vs:V2 V} {v:V} {Q:WC->Prop} (h:New bF M a d C vs) (hi:vs.V0=i) (q:∀M',New bF M' a d C (vs++[v])->(∀(b:V9) o,b≠d->M[b]?=V1 o->M'[b]?=V1 o)->M'.V0=M.V0->Q M'):
    ∃d g,M[a]?=V1 (.YH C d)/\M[d]?=V1 (.ns ((WG C).Y8 g))/\i<=g.V0/\Q (M.Wb d (.ns ((WG C).Y8 (if i<g.V0 then g.Wb i v else g++[v])))):=by
 have ld:=(aB.mp h.f).1;have ne:a≠d:=λe=>by have h1:=h.i;have h2:=h.f;rw[e,h2] at h1;cases h1
 apply Mw d vs h.i h.f (dX [{2,.a,.b}] {0,.b,.a} [1,0,1] [] tt hi) ?_;rw[Vd (by show dX [{2,.a,.b}] {3,.b,.a} [1,1] [] tt hi)];show q _ {by rw[aL ne.Vh];show h.i,bK ld,h.la,h.ld,h.o.Wb h.ld} (λb o j e=>by rw[aL j.Vh];show e) (by show eB)
abbrev BF:Tm->V2 Vm
 | .c x=>if gr x then [x] else []
 | .u _ _=>[]
 | .b _ _ _=>[]
def qN:∀{p:Tm},(Zu p).flatMap BF=gD p
 | .c x=>by show cJ _
 | .u x a=>by have:=qN (p:=a);assumption
 | .b x a b=>by have h1:=qN (p:=a);have h2:=qN (p:=b);change(Zu a++Zu b).flatMap BF=gD a++gD b;rw[v9,h1,h2]
def yx:∀{p s:Tm},mS q p->s∈Zu p->mS q s
 | .c x,s,h,hs=>by rw[aC.mp hs];show h
 | .u x a,s,h,hs=>by
  rcases aU.mp hs with rfl|hs
  .show h
  .show yx (p:=a) h.2 hs
 | .b x a b,s,h,hs=>by
  rcases aU.mp hs with rfl|hs
  .show h
  .rcases aW.mp hs with hs|hs
   .show yx (p:=a) h.2.1 hs
   .show yx (p:=b) h.2.2 hs
abbrev PA (v:V):Vm:=V.Wc (WP:=λ_=>Vm) v {#[]} (λ_=>{#[]}) (λ_=>{#[]}) (λx=>x) (λ_=>{#[]}) (λ_=>{#[]}) (λ_=>{#[]}) (λ_ _=>{#[]})
def BJ {l:V2 V} (h:∀y∈l,∃x,y=.Vn x):l=(l.VP PA).VP .Vn:=by
 rw[cB]
 conv=>lhs;rw[<-qI l]
 show cL λy a=>by let(x,VC):=h y a;rfl
def xD:∀{l:V2 Vm},jo (l.VP V.Vn)=V6
 |[]=>rfl
 |_::l=>xD (l:=l)
def qO (F:dR c.K) {p:Tm} {m:V9} (g:mS q p) (h:p.Yi<=m) (k:p.Yi<=100) (l:p.VA<=100) (o:∀u:V2 Vm,(∀x,x∈u↔x∈gD p)->u.V0<=100->P (.VG M.V0) (M++[.VF (u.VP .Vn)])):aQ c (n+m+2) (.VG 91) [eH p] M P:=by
 have h7:=bJ;apply aQ.tidyL ?_;apply .ZC (F.fn 2) rfl [V1 (eH p),V8,V8] rfl ?_;lk;apply{VC,?_};lk;apply Ll (n:=n) (m:=m+1) F p (KZ h) (PJ k) (PJ l) λL T=>?_;apply iJ (.VF bP) (.YB rfl) ?_;letI B:L.V0<=100:=by rw[<-aE (f:=(·.2)),T.Zu,qg];show l
 apply fk.Z6 (xs:=L.VP je) (λj ys C=>ys=((L.WU j).flatMap λr=>BF r.2).VP .Vn/\ys.V0<=j/\C=M++[.VF (L.VP je)]) (λj v ys C D hv E G=>?_) (λys C E=>?_) (L.VP je).V0 0 [] _ (by show fj _) (fq rfl (aM _) rfl)
 .let(rfl,I,VC):=E;rw[bC] at hv;cases hr:L[j]? with
  |V8=>rw[hr] at hv;cases hv
  |V1 r=>
   rw[hr] at hv;cases hv;have jl:=(aB.mp hr).1;have hs:r.2∈Zu p:=by rw[<-T.Zu];show aK.WO (aV r (aF hr) rfl)
   apply fq bP (ir [{2,.a,.n 16777216},{0,.b,.n 100},{0,.c,.d},{1,.d,.b}] {0,.c,.a} [16777216,0,99,16777216,16777216,16777216] [] tt h7 B I jl) ?_;apply bindM_i (ZX (i:=[.Vj (XX r.1),eH r.2]) {VC,?_});lk;apply iX (n:=n+m) F (ze (yx g hs)) ?_;lk;let(J,s):=r;clear hs;cases hv:iW s with
   |V6=>
    obtain⟨x,VC⟩:∃x,s=.c x:=by clear hr J;cases s<;>first|show{_,VC}|cases hv
    lk;apply .Vj (by simp) (by simp) (v:=.Vn x) rfl ?_;apply G _ _ (fq ?_ (by simp at I⊢;show Jm I) rfl);rw[cF,hr,v9,bD];have:gr x=V6:=hv;simp[BF,this]
   |V3=>
    lk;apply G _ _ (fq ?_ (KZ I) rfl);rw[cF,hr,v9,bD];have:BF s=[]:=by clear hr J;cases s<;>first|rfl|show Vd λw=>by rw[show gr _=V3 from hv] at w;cases w
    simp[this]
 .let(rfl,I,VC):=E;rw[aE] at I
  letI e:((L.WU (L.VP je).V0).flatMap λr=>BF r.2)=gD p:=by rw[aE,cV,<-qN,<-T.Zu,V2.flatMap_map]
  rw[e] at I⊢;apply{bP,?_};letI st:∀y∈(gD p).VP V.Vn,∃i,y=.Vn i:=λy K=>by let(x,_,VC):=aK.mp K;show{x,VC}
  lk;apply .setL bP (.Wt st) (by simp at I⊢;show dX [⟨0,.a,.n 100⟩,⟨0,.b,.a⟩] ⟨0,.b,.n 100⟩ [1,1,1] [] tt B I) λys N Q R=>?_;lk;letI S:∀y∈ys,∃i,y=.Vn i:=λy K=>st y ((N y).mp K);apply .sortedS bP (.Wt (.XB S)) (by simp at I Q;show fG [⟨0,.a,.n 100⟩,⟨0,.b,.a⟩,⟨0,.c,.b⟩] ⟨0,.c,.n 1000⟩ [1,1,1,1] [] tt B I Q) λu hz=>?_;lk;letI U:∀y∈u,∃i,y=.Vn i:=λy K=>S y (hz.X9.mp K);apply O2 _ _ u (by simp only[aR];rfl) rfl (by show ly2) bP (by rw[BJ U];show xD) ?_;rw[BJ U];apply o _ (λx=>?_) (by rw[aE,hz.WZ];simp at I Q;show fG [⟨0,.a,.n 100⟩,⟨0,.b,.a⟩,⟨0,.c,.b⟩] ⟨0,.c,.n 100⟩ [1,1,1,1] [] tt B I Q);rw[aK];constructor
  .rintro⟨y,K,VC⟩;let(z,VC):=U y K;let(w,W,e):=aK.mp ((N _).mp (hz.X9.mp K));clear K;rw[<-e];show W
  .intro X;show aV (.Vn x) (hz.X9.WO ((N _).WO (aK.WO (aV x X rfl)))) rfl
def GK {x:V} (h:f6 x=V6):gc x x=V6:=(jj h).WO rfl
def Pj {x:Vm} {l:V2 Vm} (h:x∈l):((l.VP V.Vn).any λy=>gc y (.Vn x))=V6:=
 iC.WO (aV (.Vn x) (aK.WO (aV x h rfl)) (GK rfl))
def wD:∀{l:V2 Vm},eU (l.VP V.Vn)=V6/\pX (l.VP V.Vn)=0
 |[]=>{VC,VC}
 |x::l=>by let(a,b):=wD (l:=l);show{by assumption,by assumption}
def I6 {x:Vm} {l:V2 Vm}:qU (.Vn x) (l.VP .Vn):=
 ⟨VC,wD.1,λy a=>by let(z,_,VC):=aK.mp a;rfl,by rw[wD.2];show o6 [] ⟨0,.n 0,.n 50⟩ [1] [] tt⟩
structure RuleT (q:V9) (l r:Tm):Prop where
 okl:mS q l
 okr:mS q r
 nv:iW l=V3
 sub:∀x∈gD r,x∈gD l
 dl:l.Yi<=10
 dr:r.Yi<=10
 VA:l.VA+r.VA<=12
def N5 (F:dR c.K) {name:Vm} {l r:Tm} (R:RuleT q l r) (f:∀M' a d,New M M' a d 263 [.Vn name,eH l,eH r,.Vj []]->P (.VG a) M'):aQ c (n+14) (.VG 263) [.Vn name,eH l,eH r,.Vj []] M P:=by
 have h7:=bJ;have dl:=R.dl;have dr:=R.dr;have sz:=R.VA;apply .makeS (F.Z9 2) (F.fn 14) rfl [V1 (.VG (M.V0+1)),V1 (.Vn name),V1 (eH l),V1 (eH r),V1 (.Vj []),V8,V8,V8,V8,V8,V8,V8] rfl ?_;have N0:New M (M++[.ns [],.YH 263 M.V0]) (M.V0+1) M.V0 263 []:=.start;lk;apply iX (n:=n+11) F (ze R.okl) ?_;lk;apply ZL R.nv ?_;lk;apply qO (n:=n) (m:=10) F R.okl (K8 dl) (N9 dl) (dX [{0,.p .a .b,.n 12}] {0,.a,.n 100} [1,1] [] tt sz) λg hz k=>?_;lk;apply .listT (by simp) ?_;lk;apply eu.i (xs:=[.Vj [.Vn "alike",eH r,eH r]]) ((Wa.Ww _) _ _ bP) (eu.i bP {by simp;show Gf h7,?_});lk;apply sr (.VF bP) ?_;have N1:=(((N0.Ww (G:=[.VF (g.VP .Vn)])).Ww (G:=[.VF [.Vj [.Vn "alike",eH r,eH r]]])).Ww (G:=[.VF []])).Ww (G:=[.VF ([.Vj [.Vn "alike",eH r,eH r]]++[])])
 have hk:(M++[.ns [],.YH 263 M.V0]++[O.VF (g.VP .Vn)]++[O.VF [.Vj [.Vn "alike",eH r,eH r]]]++[O.VF []]++[O.VF ([.Vj [.Vn "alike",eH r,eH r]]++[])])[(M++[O.ns [],O.YH 263 M.V0]).V0]?=V1 (.VF (g.VP .Vn)):=
  (((Wa.Ww _).V7 (Wa.Ww _)).V7 (Wa.Ww _)) _ _ bP
 generalize o:(M++[.ns [],.YH 263 M.V0]++[O.VF (g.VP .Vn)]++[O.VF [.Vj [.Vn "alike",eH r,eH r]]]++[O.VF []])=M1 at *;apply .stepW (.VF (.Zx (v:=.Vj [.Vn "alike",eH r,eH r]) bP (by rfl))) ?_;apply bindM_i (ZX {VC,?_});lk;apply{{VC,VC,λy s=>by simp at s;rcases s with rfl|rfl<;>rfl,by(first|show dP _|decide)},?_};apply ZL (by decide +kernel) ?_;lk;apply{VC,?_};lk;apply qO (n:=n) (m:=10) F R.okr (K8 dr) (N9 dr) (PR sz) λu w z=>?_;lk;apply qO (n:=n) (m:=10) F R.okr (K8 dr) (N9 dr) (PR sz) λB C D=>?_;lk;apply eu.i ((Wa.Ww _) _ _ bP) (eu.i bP {by simp;show fG [{2,.a,.n 16777216},{0,.b,.n 100},{0,.c,.n 100}] {0,.p .b .c,.a} [2097152,0,25,2097152,2097152] [] tt h7 z D,?_});apply iJ (.VF bP) (.YB rfl) ?_;have N2:=((N1.Ww (G:=[.VF (u.VP .Vn)])).Ww (G:=[.VF (B.VP .Vn)])).Ww (G:=[.VF (u.VP V.Vn++B.VP V.Vn)]);have hk2:=((Wa.Ww [.VF (u.VP .Vn)]).V7 ((Wa.Ww [.VF (B.VP .Vn)]).V7 (Wa.Ww [.VF (u.VP V.Vn++B.VP V.Vn)]))) _ _ hk;have hl2:∀{M':WC},(M'++[O.VF (u.VP V.Vn++B.VP V.Vn)])[M'.V0]?=V1 (.VF (u.VP V.Vn++B.VP V.Vn)):=bP;have hk5:(M1++[O.VF ([.Vj [.Vn "alike",eH r,eH r]]++[])]++[O.VF (u.VP V.Vn)]++[O.VF (B.VP V.Vn)])[M1.V0]?=V1 (.VF ([.Vj [.Vn "alike",eH r,eH r]]++[])):=((Wa.Ww _).V7 (Wa.Ww _)) _ _ bP;generalize E:(M1++[O.VF ([.Vj [.Vn "alike",eH r,eH r]]++[])]++[O.VF (u.VP V.Vn)]++[O.VF (B.VP V.Vn)])=M2 at *;apply fk.Z6 (xs:=u.VP V.Vn++B.VP V.Vn) (λj ys I=>ys=[]/\I=M2++[.VF (u.VP V.Vn++B.VP V.Vn)]) (λj v ys I J hv K L=>?_) (λys I K=>?_) (u.VP V.Vn++B.VP V.Vn).V0 0 [] _ (by show fj _) {VC,VC}
 .let(rfl,VC):=K
  obtain⟨x,N,VC⟩:∃x,x∈gD r/\v=.Vn x:=by
   rcases aW.mp (aF hv) with h|h
   .let(x,N,VC):=aK.mp h;show aV x ((w x).mp N) rfl
   .let(x,N,VC):=aK.mp h;show aV x ((C x).mp N) rfl
  apply fq bP (by simp) ?_;lk;apply eu.i hk2 {I6,?_};apply ZL (by rw[Pj ((hz x).WO (R.sub x N))];rfl) ?_;show L _ _ {VC,VC}
 .let(rfl,VC):=K;apply{bP,?_};lk;apply eu.i (xs:=[]) ((Wa.Ww _) _ _ bP) (eu.i bP {VC,?_});apply ZL rfl ?_;lk;have N3:=(N2.Ww (G:=[.VF []])).Ww (G:=[.VF []]);apply aV [V1 (.VG (M.V0+1)),V1 (.Vn name),V1 (eH l),V1 (eH r),V1 (.Vj []),V8,V8,V8,V8,V8,V8,V8] {VC,VC,VC,VC,VC,trivial} ?_;have hk6:=((Wa.Ww [O.VF (u.VP V.Vn++B.VP V.Vn)]).V7 ((Wa.Ww [O.VF []]).V7 (Wa.Ww [O.VF []]))) _ _ hk5;generalize (M2++[O.VF (u.VP V.Vn++B.VP V.Vn)]++[O.VF []]++[O.VF []])=M3 at *;apply .YS (.V8 (.listEnd (k':=.VF 0 0) hk6 (by rfl))) ?_;lk;apply N3.YA rfl λQ S _ _=>?_;lk;apply S.YA rfl λT U _ _=>?_;lk;apply U.YA rfl λW X _ _=>?_;lk;apply .tupleT ?_;lk;apply X.YA rfl λY Z _ _=>?_;lk;show{VC,f _ _ _ Z}
variable {x:V9}
nonrec abbrev vA:Tm:=.c (aX "?a")
nonrec abbrev vB:Tm:=.c (aX "?b")
nonrec abbrev vC:Tm:=.c (aX "?c")
nonrec abbrev tZ:Tm:=.c s0'
nonrec abbrev jU:=Vm×Tm×Tm
abbrev CX (op u:Vm):V2 jU:=[(op++aX "-turn",.b op vA vB,.b op vB vA),(op++aX "-put",.b op (.b op vA vB) vC,.b op vA (.b op vB vC)),(op++aX "-unit",.b op vA (.c u),vA)]
abbrev KI (q:V9):V2 jU:=[(aX "neg-add",.b l8 vA (.u kR vA),tZ),(aX "neg-neg",.u kR (.u kR vA),vA),(aX "neg-mul",.b jZ (.u kR vA) vB,.u kR (.b jZ vA vB)),(aX "mul-zero",.b jZ vA tZ,tZ),
 (aX "spread",.b jZ vA (.b l8 vB vC),.b l8 (.b jZ vA vB) (.b jZ vA vC)),(aX "gather",.b l8 (.b jZ vA vB) (.b jZ vA vC),.b jZ vA (.b l8 vB vC)),(aX "round",.c (yc q),tZ)]
abbrev pD (q:V9):V2 jU:=CX l8 s0'++CX jZ s1'++KI q
def Ds:gr s0'=V3:=by decide +kernel
def Dr:gr s1'=V3:=by decide +kernel
def OZ:gr (yc q)=V3:=by unfold yc;split<;>decide +kernel
def Us {W:Vm->V9} {y:Vm} (h:gr y=V3) (n:y≠sX):rO q x W (.c y)=Ma y % q:=(TN h).V7 (Vd n)
set_option synthInstance.maxSize 4000 in
set_option synthInstance.maxHeartbeats 400000 in
def LU (Q:q=2\/q=3):∀a,a<q->∀b,b<q->∀c,c<q->(a+b) % q=(b+a) % q/\((a+b) % q+c) % q=(a+(b+c) % q) % q/\(a+0) % q=a/\(a*b) % q=(b*a) % q/\((a*b) % q*c) % q=(a*((b*c) % q)) % q/\(a*(1 % q)) % q=a/\
    (a+(q-a) % q) % q=0/\(q-(q-a) % q) % q=a/\((q-a) % q*b) % q=(q-(a*b) % q) % q/\(a*0) % q=0/\(a*((b+c) % q)) % q=((a*b) % q+(a*c) % q) % q:=by rcases Q with rfl|rfl<;>decide
def I7 (Q:q=2\/q=3):∀s∈pD q,∀x W,x<q->(∀y,W y<q)->rO q x W s.2.1=rO q x W s.2.2:=by intro s hs x W d e;let(f,g,i,j,k,l,m,o,p,r,t):=LU Q (W (aX "?a")) (e _) (W (aX "?b")) (e _) (W (aX "?c")) (e _);revert s;rcases Q with rfl|rfl<;>show d8.WO {f,d8.WO {g,d8.WO {i,d8.WO {j,d8.WO {k,d8.WO {l,d8.WO {m,d8.WO {o,d8.WO {p,d8.WO {r,d8.WO {t,d8.WO {t.Vh,d8.WO {VC,λ_ h=>(fY h).W2}}}}}}}}}}}}}
abbrev tmB (q:V9):Tm->VS
 | .c x=>gr x||x==sX||x==s0'||x==s1'||x==yc q
 | .u x a=>x==kR&&tmB q a
 | .b x a b=>(x==l8||x==jZ)&&tmB q a&&tmB q b
def CS {p:Tm} (h:tmB q p=V6):mS q p:=by
 induction p with
 |c x=>
  rcases(gM _ _).mp h with h|h
  .rcases(gM _ _).mp h with h|h
   .rcases(gM _ _).mp h with h|h
    .rcases(gM _ _).mp h with h|h
     .show .XB h
     .show .Wt (.XB {VC,.XB (Xa h)})
    .show .Wt (.XB {VC,.Wt (.XB (Xa h))})
   .show .Wt (.XB {VC,.Wt (.Wt (.XB (Xa h)))})
  .show .Wt (.XB {VC,.Wt (.Wt (.Wt (Xa h)))})
 |u x a d=>show ba2 h λh k=>{Xa h,d k}
 |b x a b e f=>show ba3 h λh k l=>{((gM _ _).mp h).imp Xa Xa,e k,f l}
abbrev kd:Tm->V9
 | .c _=>0
 | .u _ a=>if iW a then 0 else kd a+1
 | .b _ a b=>(if iW a then 0 else kd a+1)+(if iW b then 0 else kd b+1)
def Dp {N:V9} {a:Tm} (h:kb N a=N^kd a):(if iW a=V6 then 1 else N*kb N a)=N^(if iW a=V6 then 0 else kd a+1):=by
 cases iW a with
 |V6=>rfl
 |V3=>change N*kb N a=N^(kd a+1);rw[h,V9.pow_succ,V9.mul_comm]
def Sh {N:V9} {p:Tm}:kb N p=N^kd p:=by
 induction p with
 |c _=>rfl
 |u _ a d=>show Dp d
 |b _ a b e f=>show(congr (VN HMul.hMul (Dp e)) (Dp f)).V7 (V9.pow_add ..).Vh
abbrev KU (q:V9) (l r:Tm):VS:=tmB q l&&tmB q r&& !iW l&&(gD r).Z4 (λx=>(gD l).contains x)&&decide ((gD l).V0<=10)&&decide (l.Yi<=10)&&decide (r.Yi<=10)&&decide (l.VA+r.VA<=12)&&decide (kd l<=2)
def KS {l r:Tm} (h:KU q l r=V6) (hv:∀x W,x<q->(∀y,W y<q)->rO q x W l=rO q x W r):RuleOK q l r/\RuleT q l r:=by unfold KU at h;simp only[aN,decide_eq_true_eq,dh,ek,V2.contains_iff_mem] at h;let((((((((h1,h2),h3),h4),h5),h6),h7),h8),h9):=h;apply{{CS h1,CS h2,h3,h4,hv,h5,h6,h7,h8,λN a=>?_},{CS h1,CS h2,h3,h4,h6,h7,h8}};rw[Sh];show aG (V9.pow_le_pow_right a h9) (by rw[V9.pow_two];show aM _)
def NW (Q:q=2\/q=3):((pD q).Z4 λs=>KU q s.2.1 s.2.2)=V6:=by rcases Q with rfl|rfl<;>decide +kernel
def zh (Q:q=2\/q=3):∀s∈pD q,RuleOK q s.2.1 s.2.2/\RuleT q s.2.1 s.2.2:=λs hs=>KS (ek.mp (NW Q) s hs) (I7 Q s hs)
def Ef (Q:q=2\/q=3):((pD q).VP (·.1)).WF:=by rcases Q with rfl|rfl<;>decide +kernel
def BK:(pD q).V0=13:=rfl
abbrev uH (bF M:WC) (r:V9×jU):Prop:=∃d,New bF M r.1 d 263 (KR r)
def uH.Ya {bF M':WC} {r:V9×jU} (h:uH bF M r) (o:Wa M M'):uH bF M' r:=by let(d,N):=h;show{d,N.Ya o}
def uH.X5 {bF a:WC} {r:V9×jU} (h:uH a M r) (o:Wa bF a):uH bF M r:=by let(d,N):=h;show{d,N.i,N.f,aG o.Wz N.la,aG o.Wz N.ld,o.V7 N.o}
abbrev fW (rs:V2 (V9×jU)):V2 V:=rs.VP λr=>.VG r.1
structure Made (bF M:WC) (rs:V2 (V9×jU)) (L:V2 jU):Prop where
 o:Wa bF M
 e:rs.VP (·.2)=L
 k:∀r∈rs,uH bF M r
def Made.VH {bF:WC} (o:Wa bF M):Made bF M [] []:={o,VC,λ_ h=>by cases h}
def Made.cat {bF a:WC} {rs b:V2 (V9×jU)} {L d:V2 jU} (h:Made bF M rs L) (g:Made M a b d):Made bF a (rs++b) (L++d):=
 ⟨h.o.V7 g.o,by rw[bD,h.e,g.e],λr f=>(aW.mp f).W2 (λz=>(h.k r z).Ya g.o) λz=>(g.k r z).X5 h.o⟩
def Made.Ya {bF a:WC} {rs:V2 (V9×jU)} {L:V2 jU} (h:Made bF M rs L) (o:Wa M a):Made bF a rs L:={h.o.V7 o,h.e,λr b=>(h.k r b).Ya o}
def Made.Wz {bF:WC} {rs:V2 (V9×jU)} {L:V2 jU} (h:Made bF M rs L):(fW rs).V0=L.V0:=by unfold fW;rw[aE,<-h.e,aE]
def jf (F:dR c.K) {σ:YY} {bF:WC} {rs:V2 (V9×jU)} {L:V2 jU} {xs b:Ap} {R:V2 V->WC->Prop} (m:Made bF M rs L) (s:jU) (f:RuleT q s.2.1 s.2.2) (g:∀{R:V2 V->WC->Prop},R [.Vn s.1,eH s.2.1,eH s.2.2,.Vj []] M->xs.wp c (n+14) σ M R)
    (p:∀h r,Made bF h (rs++[r]) (L++[s])->b.wp c (n+14) σ h λvs i=>R (.VG r.1::vs) i):(Ap.V4 (.Vu (.VG 263) xs) b).wp c (n+14) σ M R:=by apply Ap.ZP (Xp.call_i (g ?_));apply N5 F f λh a d N=>p h (a,s) (m.cat ⟨N.o,VC,λr j=>?_⟩);rw[aC.mp j];show⟨d,N⟩
def Ib (F:dR c.K) {op u:Vm} (hs:∀s∈CX op u,RuleT q s.2.1 s.2.2) (hz:op.V0<=100) (f:∀M' rs,Made M M' rs (CX op u)->P (.VG M'.V0) (M'++[.VF (fW rs)])):aQ c (n+15) (.VG 374) [.Vn op,.Vn u] M P:=by
 have h7:=bJ
 letI g:∀(y:Vm),y.V0<=100->(op++y).V0<=cE:=λy j=>by
  have:(op++y).V0=op.V0+y.V0:=by change(op.cps++y.cps).VA=_;rw[VW.size_append];rfl
  show ir [{0,.a,.n 100},{2,.b,.n 16777216},{0,.c,.n 100},{2,.d,.p .a .c}] {0,.d,.b} [2097152,2097152,0,25,2097152,2097152] [] tt hz h7 j this
 apply .ZC (F.fn 24) rfl [V1 (.Vn op),V1 (.Vn u)] rfl ?_;apply Bp.ZP (Sp.ret_i (Xp.lst_i ?_));apply jf F (.VH .Vt) (op++aX "-turn",.b op vA vB,.b op vB vA) (hs _ (aF (i:=0) rfl)) (λh=>?_) λk l m=>?_
 .lk;apply{g _ (by decide +kernel),?_};lk;show h
 apply jf F m (op++aX "-put",.b op (.b op vA vB) vC,.b op vA (.b op vB vC)) (hs _ (aF (i:=1) rfl)) (λh=>?_) λo r v=>?_
 .lk;apply{g _ (by decide +kernel),?_};lk;show h
 apply jf F v (op++aX "-unit",.b op vA (.c u),vA) (hs _ (aF (i:=2) rfl)) (λh=>?_) λw x z=>?_
 .lk;apply{g _ (by decide +kernel),?_};lk;show h
 lk;show f w _ z
def HD (Q:q=2\/q=3):aX (toString (q:Vo))=yc q:=by rcases Q with rfl|rfl<;>decide +kernel
def F6 (F:dR c.K) (Q:q=2\/q=3) {a:V9} (ob:Ob M a 405 [.Vl q]) (f:∀M' rs,Made M M' rs (pD q)->P (.VG M'.V0) (M'++[.VF (fW rs)])):aQ c (n+16) (.VG 395) [.VG a] M P:=by
 have h7:=bJ;letI T:∀s∈pD q,RuleT q s.2.1 s.2.2:=λs hs=>(zh Q s hs).2;letI g:∀s∈KI q,RuleT q s.2.1 s.2.2:=λs hs=>T s (dM _ hs);apply .ZC (F.fn 26) rfl [V1 (.VG a),V8] rfl ?_;lk;apply Ib (n:=n) F (λs hs=>T s (by simp only[pD,aW];show .XB (.XB hs))) (by decide +kernel) λj k l=>?_;lk;apply Ib (n:=n) F (λs hs=>T s (by simp only[pD,aW];show .XB (.Wt hs))) (by decide +kernel) λm p r=>?_;lk;have hl1:(m++[O.VF (fW p)])[j.V0]?=V1 (O.VF (fW k)):=(r.o.V7 (Wa.Ww _)) _ _ bP;apply eu.i hl1 (eu.i bP {by rw[l.Wz,r.Wz];change 6<=cE;show e9 [{2,.a,.n 16777216}] {0,.n 6,.a} [8388608,0,3] [] tt h7,?_});letI v:=(((l.Ya (Wa.Ww [O.VF (fW k)])).cat r).Ya (Wa.Ww [O.VF (fW p)])).Ya (Wa.Ww [O.VF (fW k++fW p)]);have hl:(m++[O.VF (fW p)]++[O.VF (fW k++fW p)])[(m++[O.VF (fW p)]).V0]?=V1 (O.VF (fW k++fW p)):=bP;clear T;generalize m++[O.VF (fW p)]++[O.VF (fW k++fW p)]=M3 at *;apply Xp.lst_i ?_;apply jf F (.VH .Vt) (aX "neg-add",.b l8 vA (.u kR vA),tZ) (g _ (aF (i:=0) rfl)) (λh=>?_) λw s1 x=>?_
 .lk;show h
 apply jf F x (aX "neg-neg",.u kR (.u kR vA),vA) (g _ (aF (i:=1) rfl)) (λh=>?_) λy z B=>?_
 .lk;show h
 apply jf F B (aX "neg-mul",.b jZ (.u kR vA) vB,.u kR (.b jZ vA vB)) (g _ (aF (i:=2) rfl)) (λh=>?_) λC D E=>?_
 .lk;show h
 apply jf F E (aX "mul-zero",.b jZ vA tZ,tZ) (g _ (aF (i:=3) rfl)) (λh=>?_) λG I J=>?_
 .lk;show h
 apply jf F J (aX "spread",.b jZ vA (.b l8 vB vC),.b l8 (.b jZ vA vB) (.b jZ vA vC)) (g _ (aF (i:=4) rfl)) (λh=>?_) λL N R=>?_
 .lk;show h
 apply jf F R (aX "gather",.b l8 (.b jZ vA vB) (.b jZ vA vC),.b jZ vA (.b l8 vB vC)) (g _ (aF (i:=5) rfl)) (λh=>?_) λS U W=>?_
 .lk;show h
 apply jf F W (aX "round",.c (yc q),tZ) (g _ (aF (i:=6) rfl)) (λh=>?_) λX Y Z=>?_
 .lk;clear g f;let(d,a0,a1):=ob;letI o:=v.o.V7 W.o;apply .Xf rfl {d,o _ _ a0,o _ _ a1} rfl rfl ?_;lk;apply .strI (by clear a1 h;rcases Q with rfl|rfl<;>(first|show aS rfl|decide)) ?_;rw[HD Q];lk;show h
 apply Ap.ZR ?_;lk;apply eu.i (xs:=fW k++fW p) ((Z.o.V7 (Wa.Ww _)) _ _ hl) (eu.i bP {by rw[aH,l.Wz,r.Wz];change 13<=cE;show e9 [{2,.a,.n 16777216}] {0,.n 13,.a} [16777216,0,13] [] tt h7,?_});lk;have e:fW (k++p++[s1,z,D,I,N,U,Y])=fW k++fW p++fW [s1,z,D,I,N,U,Y]:=by unfold fW;rw[bD,bD]
 have:=f _ (k++p++[s1,z,D,I,N,U,Y]) ((v.cat Z).Ya (Wa.Ww [O.VF (fW [s1,z,D,I,N,U,Y])]));rw[e] at this;show this
def I2 (F:dR c.K) {b:V9} (f:∀M' a d,New M M' a d 236 [.VG b]->P (.VG a) M'):aQ c (n+2) (.VG 236) [.VG b] M P:=by apply .makeS (F.Z9 1) (F.fn 10) rfl [V1 (.VG (M.V0+1)),V1 (.VG b)] rfl ?_;lk;apply New.start.YA rfl λg h _ _=>?_;lk;show{VC,f _ _ _ h}
def Jp (F:dR c.K) {b:V9} (f:∀M' a d,New M M' a d 301 [.VG b]->P (.VG a) M'):aQ c (n+2) (.VG 301) [.VG b] M P:=by apply .makeS (F.Z9 3) (F.fn 15) rfl [V1 (.VG (M.V0+1)),V1 (.VG b)] rfl ?_;lk;apply New.start.YA rfl λg h _ _=>?_;lk;show{VC,f _ _ _ h}
def N6 (F:dR c.K) {i:Vo} (b:∀M' a d,New M M' a d 405 [.Vl i]->P (.VG a) M'):aQ c (n+2) (.VG 405) [.Vl i] M P:=by apply .makeS (F.Z9 5) (F.fn 25) rfl [V1 (.VG (M.V0+1)),V1 (.Vl i)] rfl ?_;lk;apply New.start.YA rfl λf g _ _=>?_;lk;show{VC,b _ _ _ g}
def LM {a:Type} [Wy a]:∀{xs ys:V2 a},xs.WF->(∀x∈xs,x∈ys)->xs.V0<=ys.V0:=λ{xs}=>by
 induction xs with
 |VH=>show λ_ _=>dP _
 |V4 x xs b=>
  intro ys nd h;rw[dJ] at nd;have hx:=h x cP;have b:=b (ys:=ys.erase x) nd.2 λy d=>(V2.mem_erase_of_ne λe=>nd.1 (by rw[<-e];show d)).WO (h y (bN _ d));rw[V2.length_erase_of_mem hx] at b;have:=V2.length_pos_of_mem hx;rw[cW];show bY [.l V3 (.v 0) (.s (.v 1) (.n 1)),.k V3 (.n 0) (.v 1)] (.l V3 (.p (.v 0) (.n 1)) (.v 1)) [[1,0,1],[1,0,1,1]] tt [_,_] [] b this
def Jz {xs:V2 Vm} {ys:V2 V} (nd:xs.WF) (h:∀x,x∈ys↔x∈xs.VP V.Vn):xs.V0<=ys.V0:=by
 have:=LM (xs:=xs) (ys:=ys.VP PA) nd λx a=>aK.WO (aV (.Vn x) ((h _).WO (aK.WO (aV x a rfl))) rfl)
 rwa[aE] at this
def Pu {k:V9}:(eF k [V.Vl 0]).ZW=eF k (V.Vl 0):=by
 induction k with
 |WM=>rfl
 |Wh k a=>rw[k9,qK,a];rfl
abbrev lq (d:V9) (M M':WC):Prop:=∀(b:V9) o,b≠d->M[b]?=V1 o->M'[b]?=V1 o
def lq.V7 {d:V9} {M' a:WC} (h:lq d M M') (g:lq d M' a):lq d M a:=λb o n e=>g b o n (h b o n e)
def Wa.ZM {d:V9} {M':WC} (h:Wa M M'):lq d M M':=λb o _ e=>h b o e
def Jf (F:dR c.K) {bF:WC} (h:W4 c bF A H) {rs:V2 (V9×jU)} {L:V2 jU} (m:Made bF M rs L) (g:(L.VP (·.1)).WF) (hz:L.V0<=13) {s op B:V9} {D:VS} (E:M[s]?=V1 (.VF (fW rs)))
    (I:M[op]?=V1 (.WD (fO (kdS c.VM c.w) [("order",.Vn (if D then "turns" else "together")),("nodes",.Vl 60),("rounds",.Vl B)]))) (lo:bF.V0<=op)
    (J:∀M' K,Wa M M'->Z7 c M' A H K 0 []->K.rs=rs->K.turns=D->K.Zo=B->K.rl≠K.lg/\K.ul≠K.lg/\K.rl≠K.ns->M.V0<=K.ns->M.V0<=K.lg->P (.VG K.rn) M'):aQ c (n+4) (.VG 356) [.VG (A .V5),.VG s,.VG op] M P:=by
 have h7:=bJ;letI Q:rs.V0=L.V0:=by rw[<-m.e,aE]
 letI R:(fW rs).V0=L.V0:=by unfold fW;rw[aE,Q]
 have nm:rs.VP (λr=>r.2.1)=L.VP (·.1):=by rw[<-m.e,cB];rfl
 have rll:=(aB.mp E).1;letI S:=(aB.mp I).1;apply .makeS (F.Z9 4) (F.fn 17) rfl [V1 (.VG (M.V0+1)),V1 (.VG (A .V5)),V1 (.VG s),V1 (.VG op),V8,V8] rfl ?_;have N0:New M (M++[.ns [],.YH 356 M.V0]) (M.V0+1) M.V0 356 []:=.start;generalize M++[.ns [],.YH 356 M.V0]=M1 at *
 focus unfold ug
 lk;apply .Wg rfl (zx (N0.o _ _ I)) ?_;lk;apply .getK (kd:=kdS c.VM c.w) (k:="order") (N0.o _ _ I) ?_
 focus rw[show(oZ [((("order":Vm),V.Vn (if D then "turns" else "together"))),("nodes",.Vl 60),("rounds",.Vl B)] "order").Wn (.Vn "together")=.Vn (if D then "turns" else "together") from rfl]
 lk;apply⟨⟨VC,VC,λy T=>by simp at T;rcases T with rfl|rfl|rfl<;>rfl,by decide⟩,?_⟩;apply ZL (by clear J I B;cases D<;>decide +kernel) ?_;lk;apply⟨VC,?_⟩;lk;apply iJ (.VF (N0.o _ _ E)) (.YB rfl) ?_;apply fk.Z6 (xs:=fW rs) (λj ys U=>ys=((rs.WU j).VP λr=>.Vn r.2.1)/\U=M1) (λj v ys U X hv Y Z=>?_) (λys U Y=>?_) (fW rs).V0 0 [] _ (by simp) ⟨VC,VC⟩
 .let(rfl,VC):=Y;unfold fW at hv;rw[bC] at hv;cases hx:rs[j]? with
  |V8=>rw[hx] at hv;cases hv
  |V1 r=>
   rw[hx] at hv;cases hv;apply{N0.o _ _ E,by rw[aE,dF];show bY [.l V3 (.v 0) (.n 13),.e V3 (.v 1) (.n 16777216),.e V3 (.v 2) (.v 0)] (.l V3 (.u (.v 3) (.v 2)) (.v 1)) [[1,1,1,0,1,1],[0,1,1,0,1,1]] tt [_,_,_,_] [] hz h7 Q,?_};lk;let(d,N):=m.k r (aF hx);apply .Xf rfl (N.Ya N0.o).ob rfl rfl ?_;apply Z _ _ {?_,VC};rw[cF,hx,bD];rfl
 .let(rfl,VC):=Y;apply{N0.o _ _ E,?_}
  have e:((rs.WU (fW rs).V0).VP λr=>V.Vn r.2.1)=(L.VP (·.1)).VP .Vn:=by rw[R,<-Q,cV,<-nm,cB];rfl
  rw[e];have N1:=N0.Ww (G:=[.VF ((L.VP (·.1)).VP .Vn)]);lk;have st:∀y∈(L.VP (·.1)).VP V.Vn,∃i,y=.Vn i:=λy T=>by let(x,_,VC):=aK.mp T;show{x,VC}
  apply .setL bP (.Wt st) (by simp;show KY hz) λys a0 a1 a2=>?_;have yl:=Jz g a0;lk;apply .lenSet bP (by simp at a1;show dX [{0,.a,.n 13},{0,.b,.a}] {0,.b,.n 1000} [1,1,1] [] tt hz a1) ?_;lk;apply .lenL ((Wa.Ww _) _ _ bP) (by simp;show e9 [{0,.a,.n 13}] {1,.a,.n 9223372036854775808} [1,1] [] tt hz) ?_;lk;apply ZL (Vk (by rw[aE] at a1⊢;show bY [.l V3 (.v 0) (.v 1)] (.N (.k V6 (.z (.v 1)) (.z (.v 0)))) [[1,1]] tt [_,_] [] yl)) ?_;lk;have N2:=N1.Ww (G:=[.Wb ys]);have k2:Wa M _:=N2.o;generalize U++[O.VF ((L.VP (·.1)).VP .Vn)]++[.Wb ys]=M2 at *;apply N2.YA rfl λa3 a4 _ _=>?_;lk;apply .listL (a4.o _ _ E) (fG [{0,.a,.n 13},{2,.b,.n 16777216},{2,.c,.a}] {0,.c,.b} [16777216,16777216,0,13,16777216] [] tt hz h7 R) ?_;lk;letI dl:M.V0<a3.V0:=(aB.mp a4.f).1;have f1:(a3++[O.VF (fW rs)])[a3.V0]?=V1 (O.VF (fW rs)):=bP;have N3':=a4.Ww (G:=[O.VF (fW rs)]);letI a5:a3.V0<(a3++[O.VF (fW rs)]).V0:=by simp
  generalize a3++[O.VF (fW rs)]=M3' at *;apply N3'.YA rfl λa6 a7 a8 a9=>?_;lk;apply a7.YA rfl λaa ab ac ad=>?_;lk;apply I2 (n:=n) F λae wk af W=>?_;have wla:=W.la;have wld:=W.ld;lk;apply(ab.Ya W.o).YA rfl λag ah ai aj=>?_;lk;apply Jp (n:=n) F λak pl al am=>?_;have bla:=am.la;have bld:=am.ld;have ol6:=W.o.Wz;have ol8:=am.o.Wz;lk;apply(ah.Ya am.o).YA rfl λan ao ap aq=>?_;lk;apply ao.Ww.YA rfl λar as au av=>?_;simp at av;lk;apply as.YA rfl λaw ax ay az=>?_;letI b0:lq M.V0 M3' aw:=((((((lq.V7 a8 ac).V7 W.o.ZM).V7 ai).V7 am.o.ZM).V7 ap).V7 (Wa.Ww _).ZM).V7 (lq.V7 au ay);have c6:lq M.V0 ae aw:=(((lq.V7 ai am.o.ZM).V7 ap).V7 (Wa.Ww _).ZM).V7 (lq.V7 au ay);have c8:lq M.V0 ak aw:=(lq.V7 ap (Wa.Ww _).ZM).V7 (lq.V7 au ay);have c9:lq M.V0 (an++[O.VF []]) aw:=lq.V7 au ay;letI b1:=b0 _ _ (λe=>K2 dl e) f1;letI b2:(fW rs).V0=rs.V0:=by rw[R,Q]
  lk;apply .Xf rfl ax.Ww.ob rfl rfl ?_;lk;apply .lenL ((Wa.Ww _) _ _ b1) (Tq [_,_] [] hz R) ?_;lk;apply eu.i bP (asInt_i ⟨by simp,qq1 [_] [],by simp;show P7 hz R,?_⟩);rw[Pu,b2,gJ];lk;apply(ax.Ww.Ww).YA rfl λb3 b4 b5 b6=>?_;simp at b6;lk;apply .Xf rfl b4.Ww.ob rfl rfl ?_;have c11:lq M.V0 aw b3:=((Wa.Ww _).V7 (Wa.Ww _)).ZM.V7 b5;lk;apply .lenL ((Wa.Ww _) _ _ (c11 _ _ (λe=>K2 dl e) b1)) (Tq [_,_] [] hz R) ?_;lk;apply eu.i bP (asInt_i ⟨by simp,qq1 [_] [],by simp;show P7 hz R,?_⟩);rw[Pu,b2,gJ];lk;apply(b4.Ww.Ww).YA rfl λb7 b8 b9 ba=>?_;lk;have c12:lq M.V0 (b3++[O.VF [.Vl 0]]++[O.VF (eF rs.V0 (.Vl 0))]) b7:=b9;have c13:lq M.V0 aw b7:=c11.V7 ((((Wa.Ww _).V7 (Wa.Ww _)).ZM).V7 b9);letI bb:=m.o.Wz;have ob:∀{C a d vs},M[a]?=V1 (.YH C d)->M[d]?=V1 (.ns ((WG C).Y8 vs))->bF.V0<=a->bF.V0<=d->pP c b7 A H a C vs:=λbc bd be bf=>⟨_,b8.o _ _ bc,b8.o _ _ bd,gU h be,gU h bf⟩;have ez:(rs.VP λ_=>V.Vl 0)=eF rs.V0 (V.Vl 0):=V2.map_const' ..;have u1:bF.V0<=(b3++[O.VF [.Vl 0]]).V0:=by simp;show bY [.l V3 (.v 0) (.v 1),.k V3 (.v 1) (.v 2),.k V3 (.v 2) (.v 3),.k V3 (.v 3) (.v 4),.e V3 (.v 5) (.v 4),.e V3 (.v 6) (.v 5),.e V3 (.v 7) (.v 8),.l V3 (.v 6) (.v 8),.l V3 (.v 7) (.v 9),.e V3 (.v 10) (.v 9),.e V3 (.v 11) (.p (.v 10) (.n 1)),.e V3 (.v 12) (.v 11),.e V3 (.v 13) (.p (.v 12) (.n 2))] (.l V3 (.v 0) (.p (.v 13) (.n 1))) [[1,1,1,1,1,0,1,0,1,0,1,1,1,0,1,0,1,0,1,0,1]] tt [_,_,_,_,_,_,_,_,_,_,_,_,_,_] [] lo S dl a5 a9 ad aj ol6 ol8 aq av az b6
  have z:bF.V0<=M.V0+1/\bF.V0<=wk/\bF.V0<=af/\bF.V0<=pl/\bF.V0<=al/\bF.V0<=a3.V0/\bF.V0<=an.V0:=by clear u1;show{by show bY [.l V3 (.v 0) (.v 1)] (.l V3 (.v 0) (.p (.v 1) (.n 1))) [[1,1]] tt [_,_] [] bb,by show TJ [_,_,_,_,_,_,_,_] [] lo S dl a5 a9 ad wla,by show TJ [_,_,_,_,_,_,_,_] [] lo S dl a5 a9 ad wld,by show TM [_,_,_,_,_,_,_,_,_,_] [] lo S dl a5 a9 ad aj bla ol6,by show TM [_,_,_,_,_,_,_,_,_,_] [] lo S dl a5 a9 ad aj bld ol6,by show bY [.l V3 (.v 0) (.v 1),.k V3 (.v 1) (.v 2),.k V3 (.v 2) (.v 3)] (.l V3 (.v 0) (.v 3)) [[1,1,1,1]] tt [_,_,_,_] [] lo S dl,by show bY [.l V3 (.v 0) (.v 1),.k V3 (.v 1) (.v 2),.k V3 (.v 2) (.v 3),.k V3 (.v 3) (.v 4),.e V3 (.v 5) (.v 4),.e V3 (.v 6) (.v 5),.e V3 (.v 7) (.v 8),.l V3 (.v 6) (.v 8),.l V3 (.v 7) (.v 9),.e V3 (.v 10) (.v 9)] (.l V3 (.v 0) (.v 10)) [[1,1,1,1,1,0,1,0,1,0,1,1,1,0,1]] tt [_,_,_,_,_,_,_,_,_,_,_] [] lo S dl a5 a9 ad aj ol6 ol8 aq}
  have y:wk≠M.V0/\af≠M.V0/\pl≠M.V0/\al≠M.V0/\a3.V0≠M.V0/\an.V0≠M.V0/\(b3++[O.VF [V.Vl 0]]).V0≠M.V0/\a3.V0≠an.V0/\(b3++[O.VF [V.Vl 0]]).V0≠an.V0/\M.V0<=an.V0:=by simp;show{by show TH [_,_,_,_,_,_] [] dl a5 a9 ad wla,by show TH [_,_,_,_,_,_] [] dl a5 a9 ad wld,by show TL [_,_,_,_,_,_,_,_] [] dl a5 a9 ad aj bla ol6,by show TL [_,_,_,_,_,_,_,_] [] dl a5 a9 ad aj bld ol6,by show bY [.k V3 (.v 0) (.v 1)] (.N (.e V3 (.v 1) (.v 0))) [[1,0,1]] tt [_,_] [] dl,by show bY [.k V3 (.v 0) (.v 1),.k V3 (.v 1) (.v 2),.e V3 (.v 3) (.v 2),.e V3 (.v 4) (.v 3),.e V3 (.v 5) (.v 6),.l V3 (.v 4) (.v 6),.l V3 (.v 5) (.v 7),.e V3 (.v 8) (.v 7)] (.N (.e V3 (.v 8) (.v 0))) [[1,0,1,1,0,1,0,1,0,1,1,1,0,1]] tt [_,_,_,_,_,_,_,_,_] [] dl a5 a9 ad aj ol6 ol8 aq,by show bY [.k V3 (.v 0) (.v 1),.k V3 (.v 1) (.v 2),.e V3 (.v 3) (.v 2),.e V3 (.v 4) (.v 3),.e V3 (.v 5) (.v 6),.l V3 (.v 4) (.v 6),.l V3 (.v 5) (.v 7),.e V3 (.v 8) (.v 7),.e V3 (.v 9) (.p (.v 8) (.n 1)),.e V3 (.v 10) (.v 9),.e V3 (.v 11) (.p (.v 10) (.n 2))] (.N (.e V3 (.p (.v 11) (.n 1)) (.v 0))) [[1,0,1,1,0,1,0,1,0,1,1,1,0,1,0,1,0,1,0,1]] tt [_,_,_,_,_,_,_,_,_,_,_,_] [] dl a5 a9 ad aj ol6 ol8 aq av az b6,by show bY [.k V3 (.v 0) (.v 1),.e V3 (.v 2) (.v 1),.e V3 (.v 3) (.v 2),.e V3 (.v 4) (.v 5),.l V3 (.v 3) (.v 5),.l V3 (.v 4) (.v 6),.e V3 (.v 7) (.v 6)] (.N (.e V3 (.v 0) (.v 7))) [[0,1,1,0,1,0,1,0,1,1,1,0,1]] tt [_,_,_,_,_,_,_,_] [] a5 a9 ad aj ol6 ol8 aq,by show bY [.e V3 (.v 0) (.p (.v 1) (.n 1)),.e V3 (.v 2) (.v 0),.e V3 (.v 3) (.p (.v 2) (.n 2))] (.N (.e V3 (.p (.v 3) (.n 1)) (.v 1))) [[1,0,0,1,0,1,0,1]] tt [_,_,_,_] [] av az b6,by show bY [.k V3 (.v 0) (.v 1),.k V3 (.v 1) (.v 2),.e V3 (.v 3) (.v 2),.e V3 (.v 4) (.v 3),.e V3 (.v 5) (.v 6),.l V3 (.v 4) (.v 6),.l V3 (.v 5) (.v 7),.e V3 (.v 8) (.v 7)] (.l V3 (.v 0) (.v 8)) [[1,1,1,0,1,0,1,0,1,1,1,0,1]] tt [_,_,_,_,_,_,_,_,_] [] dl a5 a9 ad aj ol6 ol8 aq}
  have y1:=y.1;have y2:=y.2.1;have y3:=y.2.2.1;have y4:=y.2.2.2.1;have y5:=y.2.2.2.2.1;have y6:=y.2.2.2.2.2.1;have y7:=y.2.2.2.2.2.2.1;have y8:=y.2.2.2.2.2.2.2.1;have y9:=y.2.2.2.2.2.2.2.2.1;have y10:=y.2.2.2.2.2.2.2.2.2;have z1:=z.1;have z2:=z.2.1;have z3:=z.2.2.1;have z4:=z.2.2.2.1;have z5:=z.2.2.2.2.1;have z6:=z.2.2.2.2.2.1;have z7:=z.2.2.2.2.2.2
  apply⟨VC,J b7 {M.V0+1,M.V0,wk,pl,a3.V0,op,(b3++[O.VF [.Vl 0]]).V0,an.V0,(aw++[O.VF [.Vl 0]]).V0,rs,D,B} b8.o
   ⟨⟨b8.i,gU h z1⟩,⟨b8.f,gU h bb⟩,⟨af,c13 _ _ y1 (c6 _ _ y1 W.i),c13 _ _ y2 (c6 _ _ y2 W.f),gU h z2,gU h z3⟩,
    ⟨al,c13 _ _ y3 (c8 _ _ y3 am.i),c13 _ _ y4 (c8 _ _ y4 am.f),gU h z4,gU h z5⟩,⟨c13 _ _ y5 b1,gU h z6⟩,
    λr E=>?_,⟨b8.o _ _ I,gU h lo⟩,⟨?_,gU h u1⟩,⟨c13 _ _ y6 (c9 _ _ y6 bP),gU h z7⟩⟩ rfl rfl rfl (fq y8 y9 y5) (aM _) y10⟩
  .let(d,N):=m.k r E;show ob N.i N.f N.la N.ld
  .focus change b7[(b3++[O.VF [.Vl 0]]).V0]?=_
   rw[ez];show c12 _ _ y7 bP
def kX {a T:WC} {C i:V9} {vs:V2 V} {v:V} (b:V) {Q:WC->Prop} (f:a=M++(.ns ((WG C).Y8 vs)::.YH C M.V0::T)) (hi:vs.V0=i) (hv:v=b) (q:Q (M++(.ns ((WG C).Y8 (vs++[b]))::.YH C M.V0::T))):
    ∃d g,a[M.V0+1]?=V1 (.YH C d)/\a[d]?=V1 (.ns ((WG C).Y8 g))/\i<=g.V0/\Q (a.Wb d (.ns ((WG C).Y8 (if i<g.V0 then g.Wb i v else g++[v])))):=by
 apply Mw M.V0 vs ?_ ?_ (bX hi.Vh) ?_
 .rw[f,dw (dg _),yU (aM _),iA];rfl
 .rw[f,dw (aM _),iA];rfl
 .rw[Vd (hi▸e8 _),f,hv,V2.set_append_right _ _ (aM _),iA];show q
abbrev vR (b:V9):WC:=[.ns ((WG 198).Y8 [.VG (b+2),.VG (b+3),.VG (b+4),.VG (b+5)]),.YH 198 b,.VF [],.WD [],.VF [],.VF []]
abbrev pq (b:V9):WC:=[.ns ((WG 487).Y8 [.VG (b+2),.VG (b+3),.VG (b+4)]),.YH 487 b,.VF [],.VF [],.VF []]
def Nl (F:dR c.K) (a:P (.VG (M.V0+1)) (M++vR M.V0)):aQ c (n+2) (.VG 198) [] M P:=by apply .makeS (F.Z9 0) (F.fn 4) rfl [V1 (.VG (M.V0+1))] rfl ?_;lk;apply kX (vs:=[]) (T:=[.VF []]) (.VG (M.V0+2)) (aR ..) rfl (VN V.VG aH) ?_;lk;apply kX (vs:=[.VG (M.V0+2)]) (T:=[.VF [],.WD []]) (.VG (M.V0+3)) (aR ..) rfl (VN V.VG aH) ?_;lk;apply kX (vs:=[.VG (M.V0+2),.VG (M.V0+3)]) (T:=[.VF [],.WD [],.VF []]) (.VG (M.V0+4)) (aR ..) rfl (VN V.VG aH) ?_;lk;apply kX (vs:=[.VG (M.V0+2),.VG (M.V0+3),.VG (M.V0+4)]) (T:=[.VF [],.WD [],.VF [],.VF []]) (.VG (M.V0+5)) (aR ..) rfl (VN V.VG aH) ?_;lk;show{VC,a}
def F1 (F:dR c.K) (a:P (.VG (M.V0+1)) (M++pq M.V0)):aQ c (n+2) (.VG 487) [] M P:=by apply .makeS (F.Z9 6) (F.fn 27) rfl [V1 (.VG (M.V0+1))] rfl ?_;lk;apply kX (vs:=[]) (T:=[.VF []]) (.VG (M.V0+2)) (aR ..) rfl (VN V.VG aH) ?_;lk;apply kX (vs:=[.VG (M.V0+2)]) (T:=[.VF [],.VF []]) (.VG (M.V0+3)) (aR ..) rfl (VN V.VG aH) ?_;lk;apply kX (vs:=[.VG (M.V0+2),.VG (M.V0+3)]) (T:=[.VF [],.VF [],.VF []]) (.VG (M.V0+4)) (aR ..) rfl (VN V.VG aH) ?_;lk;show{VC,a}
abbrev rP:Nm->V9
 | .heapNs=>0| .V5=>1| .bankNs=>2| .bank=>3| .VB=>4| .Ys=>5| .XK=>6| .YI=>7
 | .Zs=>8| .Y9=>9| .VR=>10| .Wd=>11| .XO=>12| .XM=>13| .XJ=>14| .Wp=>15| .Yr=>16| .W0=>17| .lot _=>18| .Xy _=>18
abbrev ad0 (b:V9):Ad:=λx=>b+rP x
abbrev HS0:HS:={[],[],[],[],[],[],[],[],[],[],[],[]}
abbrev nq (b:V9):WC:=[.ns ((WG 617).Y8 [.VG (b+3),.VG (b+9),.VG (b+13),.VG (b+14),.VG (b+15),.VG (b+16),.VG (b+17),.Vl 0]),.YH 617 b,
 .ns ((WG 198).Y8 [.VG (b+4),.VG (b+5),.VG (b+6),.VG (b+7)]),.YH 198 (b+2),.VF [],.WD [],.VF [],.VF [],.ns ((WG 487).Y8 [.VG (b+10),.VG (b+11),.VG (b+12)]),.YH 487 (b+8),.VF [],.VF [],.VF [],
 .VF [],.VF [],.WD [],.WD [],.VF []]
def BW (x:Nm):cond (g9 (rP x) 18) True (([.heapNs,.V5,.bankNs,.bank,.VB,.Ys,.XK,.YI,.Zs,.Y9,.VR,.Wd,.XO,.XM,.XJ,.Wp,.Yr,.W0]:V2 Nm).Wn (rP x) .V5=x):=Nm.Wc x rfl rfl rfl rfl rfl rfl rfl rfl rfl rfl rfl rfl rfl rfl rfl rfl rfl rfl (λ_=>trivial) λ_=>trivial
def LJ {x y:Nm} (d:rP x≠18) (h:rP x=rP y):x=y:=by have a:=BW x;have b:=BW y;rw[<-h] at b;rw[show g9 (rP x) 18=V3 from jN.WO λe=>d (gS e)] at a b;show eZ a.Vh b
def Cn {w:XA} {VM:Wj} {x:Nm} {b:V9}:cond (ZA w VM HS0 (ad0 b) x).XZ (g9 (rP x) 18=V3/\(nq b)[rP x]?=ZA w VM HS0 (ad0 b) x) True:=
 Nm.Wc (Y1:=λx=>cond (ZA w VM HS0 (ad0 b) x).XZ (g9 (rP x) 18=V3/\(nq b)[rP x]?=ZA w VM HS0 (ad0 b) x) True) x ⟨VC,VC⟩ ⟨VC,VC⟩ ⟨VC,VC⟩ ⟨VC,VC⟩ ⟨VC,VC⟩ ⟨VC,VC⟩ ⟨VC,VC⟩ ⟨VC,VC⟩ ⟨VC,VC⟩ ⟨VC,VC⟩ ⟨VC,VC⟩ ⟨VC,VC⟩ ⟨VC,VC⟩ ⟨VC,VC⟩ ⟨VC,VC⟩ ⟨VC,VC⟩ ⟨VC,VC⟩ ⟨VC,VC⟩ (λ_=>trivial) λ_=>trivial
def GU {w:XA} {VM:Wj} {x:Nm} {b:V9} (h:(ZA w VM HS0 (ad0 b) x).XZ=V6):rP x≠18:=λe=>aO ((Dy Cn h).1.Vh.V7 (e▸IX 18))
def My:W4 c (M++nq M.V0) (ad0 M.V0) HS0 where
 X8 x o e:=by
  focus change(M++nq M.V0)[M.V0+rP x]?=V1 o
  rw[dw (by show Ge),show M.V0+rP x-M.V0=rP x by show RI [_,_] []];show(Dy Cn (by rw[e];rfl)).2.V7 e
 inj x y hx hy h:=LJ (GU hx) (by have:M.V0+rP x=M.V0+rP y:=h;show fG [⟨2,.p .a .b,.p .a .c⟩] ⟨2,.b,.c⟩ [1,1] [1,0,1] tt this)
def Uu:Inv q 0 HS0 where
 X5:=by constructor<;>simp[HS0,jI,gO,kJ]
 cong:=by intro i nd h;simp[HS0] at h
 kn:=by simp[HS0]
 ok:=by simp[HS0]
 sound x hx:=⟨λ_=>0,by simp[HS0],by simp[HS0],by simp[HS0]⟩
def IU {M G:WC} {f:V9->WC}:M++G++f (M++G).V0=M++(G++f (M.V0+G.V0)):=by rw[aH,aR]
def Mx (F:dR c.K) (a:W4 c (M++nq M.V0) (ad0 M.V0) HS0->P (.VG (ad0 M.V0 .V5)) (M++nq M.V0)):aQ c (n+4) (.VG 617) [] M P:=by apply .makeS (F.Z9 7) (F.fn 34) rfl [V1 (.VG (M.V0+1))] rfl ?_;lk;apply Nl (n:=n) F ?_;lk;apply kX (vs:=[]) (T:=vR (M.V0+2)) (.VG (M.V0+3)) IU rfl (VN (λk=>V.VG (k+1)) aH) ?_;lk;apply F1 (n:=n) F ?_;lk;apply kX (vs:=[.VG (M.V0+3)]) (T:=vR (M.V0+2)++pq (M.V0+8)) (.VG (M.V0+9)) IU rfl (VN (λk=>V.VG (k+1)) aH) ?_;lk;apply kX (vs:=[.VG (M.V0+3),.VG (M.V0+9)]) (T:=vR (M.V0+2)++pq (M.V0+8)++[.VF []]) (.VG (M.V0+13)) (aR ..) rfl (VN V.VG aH) ?_;lk;apply kX (vs:=[.VG (M.V0+3),.VG (M.V0+9),.VG (M.V0+13)]) (T:=vR (M.V0+2)++pq (M.V0+8)++[.VF [],.VF []]) (.VG (M.V0+14)) (aR ..) rfl (VN V.VG aH) ?_;lk;apply kX (vs:=[.VG (M.V0+3),.VG (M.V0+9),.VG (M.V0+13),.VG (M.V0+14)]) (T:=vR (M.V0+2)++pq (M.V0+8)++[.VF [],.VF [],.WD []]) (.VG (M.V0+15)) (aR ..) rfl (VN V.VG aH) ?_;lk;apply kX (vs:=[.VG (M.V0+3),.VG (M.V0+9),.VG (M.V0+13),.VG (M.V0+14),.VG (M.V0+15)]) (T:=vR (M.V0+2)++pq (M.V0+8)++[.VF [],.VF [],.WD [],.WD []]) (.VG (M.V0+16)) (aR ..) rfl (VN V.VG aH) ?_;lk;apply kX (vs:=[.VG (M.V0+3),.VG (M.V0+9),.VG (M.V0+13),.VG (M.V0+14),.VG (M.V0+15),.VG (M.V0+16)]) (T:=vR (M.V0+2)++pq (M.V0+8)++[.VF [],.VF [],.WD [],.WD [],.VF []]) (.VG (M.V0+17)) (aR ..) rfl (VN V.VG aH) ?_;lk;apply kX (vs:=[.VG (M.V0+3),.VG (M.V0+9),.VG (M.V0+13),.VG (M.V0+14),.VG (M.V0+15),.VG (M.V0+16),.VG (M.V0+17)]) (T:=vR (M.V0+2)++pq (M.V0+8)++[.VF [],.VF [],.WD [],.WD [],.VF []]) (.Vl 0) rfl rfl rfl ?_;lk;show{VC,a My}
structure Xv (M:WC) (st:V9) (x0:V) (ns:V2 Vo) (k:V9):Prop where
 l:M[st]?=V1 (.VF [x0,.Vl (k:V9)])
 s:x0=.Vj (ns.VP .Vl)\/∃sl,x0=.VG sl/\sl≠st/\M[sl]?=V1 (.VF (ns.VP .Vl))
def Xv.Ya {M':WC} {st:V9} {a:V} {ns:V2 Vo} {k:V9} (S:Xv M st a ns k) (o:Wa M M'):Xv M' st a ns k:={o _ _ S.l,S.s.imp id λb=>by let(d,f,g,h):=b;show(g6 d f g (o _ _ h))}
def lA (F:dR c.K) {st k Xn:V9} {a:V} {ns:V2 Vo} (S:Xv M st a ns k) (d:k<=1000) (f:ns.V0<=1000) (g:0<Xn) (j:∀(r:V9) M',r<Xn->Xv M' st a ns (k+1)->lq st M M'->M'.V0=M.V0->P (iV r) M'):aQ c (n+1) (.VG 629) [.VG st,iV Xn] M P:=by
 have ll:=(aB.mp S.l).1;apply .ZC (F.fn 49) rfl [V1 (.VG st),V1 (iV Xn)] rfl ?_;unfold vJ;lk;apply .VF S.l (by show AY [] []) (by show A0 [] []) (v:=.Vl (k:V9)) rfl ?_;lk;rw[show((k:Vo)+1)=((k+1:V9):Vo) by show Qz [_] []];apply .listIE S.l (by show AY [] []) (by show W1 rfl) (by show A0 [] []) λm u=>?_;letI s1:Xv m st a ns (k+1):={by rw[u,bK ll];rfl,S.s.imp id λw=>o1_3 w λx y B C=>{x,y,B,by rw[u,aL B.Vh];show C}};letI D:lq st M m:=λb o E h=>by rw[u,aL E.Vh];show h
 have ln:m.V0=M.V0:=by rw[u];show eB
 lk;apply .VF s1.l (by show AY [] []) (by show A0 [] []) (v:=.Vl (k+1:V9)) rfl ?_;lk;apply .VF s1.l (by show C4 [] []) (by show C6 [] []) (v:=a) rfl ?_
 letI XR:∀{i:Vo},(Xn:Vo)≠0/\P (.Vl (i.fmod Xn)) m:=λ{i}=>by
  letI h0:(0:Vo)<Xn:=by show bY [.k V3 (.n 0) (.v 0)] (.k V6 (.n 0) (.z (.v 0))) [[1,1]] tt [_] [] g
  letI y:=Vo.fmod_nonneg_of_pos i h0;letI B:=Vo.fmod_lt_of_pos i h0;apply{by show bY [.k V3 (.n 0) (.v 0)] (.N (.e V6 (.z (.v 0)) (.n 0))) [[1,0,1]] tt [_] [] g,?_};let(r,G):=rY y;rw[G];show j r m (by show bY [.k V6 (.i 0) (.z (.v 0)),.e V6 (.i 0) (.z (.v 1))] (.k V3 (.v 1) (.v 0)) [[1,1,0,1]] tt [_,_] [_] B G) s1 D ln
 letI I:∀{P:dQ} {σ:YY},XP σ 0=V1 (.VG st)->(∀i:Vo,P (.Vl i) m)->(Xp.Yq YK.Zj (Xp.Yq YK.mulI (Xp.Vl 3) ((Xp.VQ 0).We (Xp.Vl 1))) (Xp.Yq YK.divI ((Xp.VQ 0).We (Xp.Vl 1)) (Xp.Vl 4))).wp c n σ m P:=λh0 p=>by apply Xp.bin_i (Xp.bin_i (Xp.int_i (Xp.item_i (Xp.var_i h0 (Xp.int_i ?_)))));apply .VF s1.l (by show AY [] []) (by show A0 [] []) (v:=.Vl (k+1:V9)) rfl ?_;lk;apply{.of_left (by decide),?_};apply Xp.bin_i (Xp.item_i (Xp.var_i h0 (Xp.int_i ?_)));apply .VF s1.l (by show AY [] []) (by show A0 [] []) (v:=.Vl (k+1:V9)) rfl ?_;lk;apply fq (by decide) rfl ?_;lk;show p _
 clear u j;rcases S.s with rfl|⟨x,VC,B,_⟩
 .apply Ap.ZR ?_;apply .lenT (by simp;show K3 f) ?_;lk;by_cases z:k+1<=ns.V0
  .apply ifY (Vs (by simp;show Tc [_,_] [] z)) ?_;lk;apply .VF s1.l (by show C4 [] []) (by show C6 [] []) (v:=.Vj (ns.VP .Vl)) rfl ?_;lk;apply .VF s1.l (by show AY [] []) (by show A0 [] []) (v:=.Vl (k+1:V9)) rfl ?_;lk;apply .Vj (by show Qk [_] []) (by show Tw [_] [] d) (v:=.Vl (ns[k]'(Oe z))) ?_ ?_
   .rw[bC,show(((k+1:V9):Vo)-1).Xd=k from VN Vo.Xd (Vo.add_sub_cancel (k:Vo) 1),aI (by show Oe z)];rfl
   lk;show XR
  .apply ZL (Vk (by simp;show Th [_,_] [] z)) ?_;apply I rfl λi=>?_;lk;show XR
 .letI C:=(s1.s.Xc λe=>by cases e);let(J,L,_,C):=C;cases L;apply Ap.ZR ?_;apply .lenL C (by simp;show K3 f) ?_;lk;by_cases z:k+1<=ns.V0
  .apply ifY (Vs (by simp;show Tc [_,_] [] z)) ?_;lk;apply .VF s1.l (by show C4 [] []) (by show C6 [] []) (v:=.VG x) rfl ?_;lk;apply .VF s1.l (by show AY [] []) (by show A0 [] []) (v:=.Vl (k+1:V9)) rfl ?_;lk;apply .VF C (by show Qk [_] []) (by show Tw [_] [] d) (v:=.Vl (ns[k]'(Oe z))) ?_ ?_
   .rw[bC,show(((k+1:V9):Vo)-1).Xd=k from VN Vo.Xd (Vo.add_sub_cancel (k:Vo) 1),aI (by show Oe z)];rfl
   lk;show XR
  .apply ZL (Vk (by simp;show Th [_,_] [] z)) ?_;apply I rfl λi=>?_;lk;show XR
abbrev sO (q:V9) (y:Vm):Prop:=y=sX\/y=s0'\/y=s1'\/y=yc q
@[elab_as_elim] def lt4 {P:V9->Prop} {r:V9} (h:r<4) (h0:P 0) (a:P 1) (b:P 2) (d:P 3):P r:=by
 rcases r with _|_|_|_|r
 .show h0
 .show a
 .show b
 .show d
 .show Vy h (V9.not_lt_of_le (CE 4 r))
def Ia (F:dR c.K) (Q:q=2\/q=3) {st k:V9} {a:V} {ns:V2 Vo} (S:Xv M st a ns k) (b:k<=1000) (d:ns.V0<=1000) (f:∀(y:Vm) M',sO q y->Xv M' st a ns (k+1)->lq st M M'->P (eH (.c y)) M'):aQ c (n+2) (.VG 636) [.VG st,iV q] M P:=by
 apply .ZC (F.fn 50) rfl [V1 (.VG st),V1 (iV q)] rfl ?_
 focus unfold zW
 lk;apply .strI (by clear f;rcases Q with rfl|rfl<;>(first|show aS rfl|decide)) ?_;rw[HD Q];lk;apply lA (n:=n) (Xn:=4) F (S.Ya (Wa.Ww _)) b d (o6 [] ⟨1,.n 0,.n 4⟩ [1] [] tt) λr g h i j m=>?_;have sl:=(aB.mp S.l).1;have hi:=j _ _ (λe=>K2 sl e) bP;have hd:lq st M g:=(Wa.Ww _).ZM.V7 j;have o:∀y,sO q y->[V.Vj [.Vn sX],.Vj [.Vn s0'],.Vj [.Vn s1'],.Vj [.Vn (yc q)]][(r:Vo).Xd]?=V1 (.Vj [.Vn y])->j8 c (n+1) (.VG M.V0) (iV r) g _:=λy p e=>.VF hi (qq1 [_] []) (bY [.k V3 (.v 0) (.n 4)] (.k V6 (.z (.v 0)) (.n 9223372036854775808)) [[1,1]] tt [_] [] h) e (f y g p i hd);revert o;show lt4 h (λo=>o sX (.XB rfl) rfl) (λo=>o s0' (.Wt (.XB rfl)) rfl) (λo=>o s1' (.Wt (.Wt (.XB rfl))) rfl) (λo=>o (yc q) (.Wt (.Wt (.Wt rfl))) rfl)
structure WholeOK (q:V9) (w:Tm):Prop where
 ok:mS q w
 g:gp w=V6
 VA:w.VA<=5
 Yi:w.Yi<=3
def CV {x:Vm} {a b:Tm}:Tm.VA (.b x a b)=a.VA+b.VA+1:=rfl
def CT {x:Vm} {a:Tm}:Tm.VA (.u x a)=a.VA+1:=rfl
def CU {x:Vm}:Tm.VA (.c x)=1:=rfl
def M8 {x:Vm} {a b:Tm}:Tm.Yi (.b x a b)=max a.Yi b.Yi+1:=rfl
def MZ {x:Vm} {a:Tm}:Tm.Yi (.u x a)=a.Yi+1:=rfl
def M7 {x:Vm}:Tm.Yi (.c x)=1:=rfl
def sO.tm {y:Vm} (h:sO q y):mS q (.c y):=.Wt (.XB {VC,h})
def sO.nov {y:Vm} (h:sO q y):gr y=V3:=by
 rcases h with rfl|rfl|rfl|rfl
 .decide +kernel
 .show Ds
 .show Dr
 .show OZ
def sO.g' {y:Vm} (h:sO q y):gp (.c y)=V6:=by change(!gr y)=V6;rw[h.nov];rfl
def Kl (F:dR c.K) (Q:q=2\/q=3) {st k:V9} {f:V} {ns:V2 Vo} (S:Xv M st f ns k) (g:k<=900) (h:ns.V0<=1000) (i:∀(w:Tm) M',WholeOK q w->Xv M' st f ns (k+3)->lq st M M'->P (eH w) M'):aQ c (n+3) (.VG 643) [.VG st,iV q] M P:=by
 apply .ZC (F.fn 51) rfl [V1 (.VG st),V1 (iV q),V8,V8,V8] rfl ?_
 focus unfold xJ
 lk;apply lA (n:=n+1) (Xn:=4) F S (PK g) h (o6 [] ⟨1,.n 0,.n 4⟩ [1] [] tt) λr j m o s _=>?_;lk;apply Ia (n:=n) F Q o (PW g) h λy x B C D=>?_;lk;apply Ia (n:=n) F Q C (e9 [⟨0,.a,.n 900⟩] ⟨0,.p (.p .a (.n 1)) (.n 1),.n 1000⟩ [1,1] [] tt g) h λz E hz G I=>?_;have hd:=(s.V7 D).V7 I;lk;apply⟨VC,?_⟩;have gy:=B.g';have gz:=hz.g';have done:∀(w:Tm),mS q w->gp w=V6->w.VA<=5->w.Yi<=3->P (eH w) E:=λw a b d e=>i w E ⟨a,b,d,e⟩ G hd;apply lt4 m ?_ ?_ ?_ ?_
 .lk;apply ifY rfl ?_;lk;apply .Vj (bY [] (.l V6 (.n 0) (.z (.n 0))) [[1]] tt [] []) (bY [] (.k V6 (.z (.n 0)) (.n 9223372036854775808)) [[1]] tt [] []) (v:=.Vn l8) rfl ?_;lk;show done (.b l8 (.c y) (.c z)) {.XB rfl,B.tm,hz.tm} (by change(gp _&&gp _)=V6;rw[gy,gz];rfl) (by simp[CV,CT,CU]) (by show dg _)
 .lk;apply ifY rfl ?_;lk;apply .Vj (bY [] (.l V6 (.n 0) (.z (.n 1))) [[1]] tt [] []) (bY [] (.k V6 (.z (.n 1)) (.n 9223372036854775808)) [[1]] tt [] []) (v:=.Vn jZ) rfl ?_;lk;show done (.b jZ (.c y) (.c z)) {.Wt rfl,B.tm,hz.tm} (by change(gp _&&gp _)=V6;rw[gy,gz];rfl) (by simp[CV,CT,CU]) (by show dg _)
 .lk;apply ZL rfl ?_;lk;apply ifY rfl ?_;lk;show done (.b jZ (.u kR (.c y)) (.u kR (.c z))) {.Wt rfl,{VC,B.tm},{VC,hz.tm}} (by change(gp (.c y)&&gp (.c z))=V6;rw[gy,gz];rfl) (by show aM _) (by show aM _)
 .lk;apply ZL rfl ?_;lk;apply ZL rfl ?_;lk;show done (.u kR (.c y)) {VC,B.tm} gy (by simp[CV,CT,CU]) (by show dg _)
abbrev more (w:Tm):V2 (Tm×Tm):=[(.b l8 w tZ,w),(.u kR (.u kR w),w),(.b jZ w (.c s1'),w),(.b jZ w tZ,tZ),(.b l8 w (.u kR w),tZ)]
abbrev Pa (r:Tm×Tm):V:=.Vj [eH r.1,eH r.2]
def OM (F:dR c.K) {v:V} {w:Tm} (b:∀M' a,Wa M M'->M.V0<=a->M'[a]?=V1 (.VF ((more w).VP Pa))->P (.VG a) M'):aQ c (n+1) (.VG 650) [v,eH w] M P:=by
 have h7:=bJ;apply .ZC (F.fn 52) rfl [V1 v,V1 (eH w),V8,V8] rfl ?_
 focus unfold zV
 lk;apply eu.i ((Wa.Ww _) _ _ bP) (eu.i bP ⟨by simp;show e9 [⟨2,.a,.n 16777216⟩] ⟨0,.n 5,.a⟩ [16777216,0,5] [] tt h7,?_⟩);lk;show b _ _ (((Wa.Ww _).V7 (Wa.Ww _)).V7 (Wa.Ww _)) (by(rw[aH,aH];show aG (cR _ _) (cR _ _))) bP
def OL {w:Tm} (W:WholeOK q w):∀r∈more w,(mS q r.1/\gp r.1=V6/\r.1.VA<=12/\r.1.Yi<=5)/\mS q r.2/\gp r.2=V6/\r.2.VA<=12/\r.2.Yi<=5:=by
 let(d,f,i,j):=W;letI z:mS q tZ:=.Wt (.XB {VC,.Wt (.XB rfl)});have o:mS q (.c s1'):=.Wt (.XB {VC,.Wt (.Wt (.XB rfl))});have gz:gp tZ=V6:=by change(!gr s0')=V6;rw[Ds];rfl
 have g1:gp (.c s1')=V6:=by change(!gr s1')=V6;rw[Dr];rfl
 have g2:∀{x a b},gp a=V6->gp b=V6->gp (.b x a b)=V6:=λh g=>by change(gp _&&gp _)=V6;rw[h,g];rfl
 have zs:(tZ.VA<=12/\tZ.Yi<=5):={by show di _,by show di _};intro r k;simp only[more,aU,fY,or_false] at k;rcases k with rfl|rfl|rfl|rfl|rfl
 .show{{{.XB rfl,d,z},g2 f gz,by simp[CV,CT,CU];show HM i,by simp[M8,MZ,M7];show RH [_] [] j},d,f,by simp;show K7 i,by simp;show HL j}
 .show{{{VC,VC,d},f,by simp[CV,CT,CU];show HM i,by simp[M8,MZ,M7];show PD j},d,f,by simp;show K7 i,by simp;show HL j}
 .show{{{.Wt rfl,d,o},g2 f g1,by simp[CV,CT,CU];show HM i,by simp[M8,MZ,M7];show RH [_] [] j},d,f,by simp;show K7 i,by simp;show HL j}
 .show{{{.Wt rfl,d,z},g2 f gz,by simp[CV,CT,CU];show HM i,by simp[M8,MZ,M7];show RH [_] [] j},z,gz,zs}
 .show Dt {{.XB rfl,d,VC,d},g2 f f,by simp[CV,CT,CU];show e9 [{0,.a,.n 5}] {0,.p .a (.p .a (.n 1)),.n 11} [1,2] [] tt i,by simp[M8,MZ,M7];show PD j} z gz zs
def Kc {a:Xp} {σ:YY} {s1 d z i j t:V9} {xs ys Wf:V2 V} {C:V2 V->WC->Prop} (f:ys.V0=xs.V0) (g:Wf.V0=xs.V0) (hz:xs.V0<=1000) (m:∀{v w:V},Le σ (ye σ [s1,d] [v,w])) (p:i≠j)
    (r:∀(k:V9) v w u (M:WC) (s:dQ),xs[k]?=V1 v->ys[k]?=V1 w->Wf[k]?=V1 u->s u M->a.wp c n (ye σ [s1,d] [v,w]) M s):
    ∀(x k:V9) (M:WC),k+x=xs.V0->M[z]?=V1 (.it (.Y8 i j t))->M[i]?=V1 (.it (.Vj xs k))->M[j]?=V1 (.it (.Vj ys k))->M[t]?=V1 (.it .pair)->
     (∀M',(∀(b:V9) o,b≠i->b≠j->M[b]?=V1 o->M'[b]?=V1 o)->C Wf M')->fk c n a (.Xn [s1,d]) .VH (.XG z) (Wf.WU k) σ M C:=by
 have h7:=bJ;intro x
 induction x with
 |WM=>
  intro k M y B D E F XR;letI e:k=xs.V0:=AZ y;clear E y;subst e;rw[<-g,cV];show .YS (.V8 (.zipEnd B D (fh (aM _)))) (XR _ λb o G I e=>by rw[aL (fP G)];show e)
 |Wh x J=>
  intro k M y B D E F XR;have hxl:k<xs.V0:=qq6 y;obtain⟨v,hv⟩:∃v,xs[k]?=V1 v:={_,aI hxl};obtain⟨w,hw⟩:∃w,ys[k]?=V1 w:={_,aI (Ql f y)};obtain⟨u,hu⟩:∃u,Wf[k]?=V1 u:={_,aI (Ql g y)};apply .WL (lF.zipItem B D E F p hv hw) (by rw[dF];show bY [.e V3 (.v 0) (.v 1),.l V3 (.v 1) (.n 1000),.e V3 (.v 2) (.n 16777216)] (.l V3 (.u (.v 3) (.v 0)) (.v 2)) [[1,1,1,0,1,0,1],[0,1,1,0,1,0,1]] tt [_,_,_,_] [] g hz h7) ?_;apply bindM_i (ZX (fq rfl m (Ip.ZR ?_)));apply ifT (r k v w u _ _ hv hw hu ?_);have z1:z≠i:=λq=>by rw[q,D] at B;cases B
  have z2:z≠j:=λq=>by rw[q,E] at B;cases B
  have il:=(aB.mp D).1;have jl:=(aB.mp E).1;have e:Wf.WU k++[u]=Wf.WU (k+1):=by rw[cF,hu];rfl
  rw[e];apply J (k+1) _ (qq3 y) (by rw[aL z2.Vh,aL z1.Vh];show B) (by show eZ (aL p.Vh) (bK il)) (by show bK (by simpa using jl)) (by rw[aL (λq=>by rw[<-q,E] at F;cases F),aL (λq=>by rw[<-q,D] at F;cases F)];show F) λM' h=>XR M' λb o G I e=>h b o G I ?_;rw[aL (fP I),aL (fP G)];show e
abbrev wt (q:V9) (W:V9->V9->V9) (i:V9):V:=.Vj ((cD q).VP λx=>iV (W x i))
structure WOK (q:V9) (H:HS) (W:V9->V9->V9):Prop where
 YM:∀x,x<q->∀(i:V9) nd,H.VB[i]?=V1 nd->W x i=sf q x (W x) nd
 lt:∀x,x<q->∀i,i<H.VB.V0->W x i<q
def vM {a b:V9}:((a:Vo)).fmod (b:Vo)=((a % b:V9):Vo):=by rw[Vo.fmod_eq_emod_of_nonneg _ (by show qq1 [_] [])];rfl
def CL {W:V9->V9->V9} {x i:V9} (h:x<q):((cD q).VP λx=>iV (W x i))[x]?=V1 (iV (W x i)):=by rw[bC,i8 h];rfl
def Hx {W:V9->V9->V9} {i:V9} {f:V9->V9} (h:∀x,x<q->W x i=f x):wt q W i=.Vj ((cD q).VP λx=>iV (f x)):=by
 focus unfold wt
 congr 1
 show cL λx a=>by show VN _ (h x (gG.mp a))
nonrec abbrev FW:Bp:=(.V4 (.asgs [4,5] (.Vj (.V4 (.W3 (.XG 198 155) (.Wv (.VQ 0) 617 0) (.V4 (.VQ 3) .VH)) (.V4 (.YQ (.Ws (.We (.VQ 2) (.VQ 7)) (.Ws 7) (.W3 (.XG 198 162) (.Wv (.VQ 0) 617 0) (.V4 (.VQ 3) .VH)) .VH)) .VH)))) (.V4 (.ZK (.Ye .eqS (.VQ 4) (.Vn "x")) (.V4 (.Xt (.W3 .WX (.VQ 2) (.V4 (.Vu (.W5 "tuple") (.V4 (.Vu (.W5 "range") (.V4 (.VQ 1) .VH)) .VH)) .VH))) .VH) (.V4 (.ZK (.Ye .eqL0 (.VQ 5) (.ZZ .VH)) (.V4 (.Xt (.W3 .WX (.VQ 2) (.V4 (.Yq .mulT (.Vj (.V4 (.Yq .modI (.Vu (.W5 "int") (.V4 (.VQ 4) .VH)) (.VQ 1)) .VH)) (.VQ 1)) .VH))) .VH) (.V4 (.ZK (.Ye .eqS (.VQ 4) (.Vn "neg")) (.V4 (.Xt (.W3 .WX (.VQ 2) (.V4 (.Vu (.W5 "tuple") (.V4 (.YQ (.Ws (.Yq .modI (.Yq .subI (.VQ 1) (.VQ 8)) (.VQ 1)) (.Ws 8) (.We (.VQ 5) (.Vl 0)) .VH)) .VH)) .VH))) .VH) (.V4 (.Yt 6 (.Vu (.W5 "zip") (.V4 (.We (.VQ 5) (.Vl 0)) (.V4 (.We (.VQ 5) (.Vl 1)) .VH)))) (.V4 (.Xt (.W3 .WX (.VQ 2) (.V4 (.Vu (.W5 "tuple") (.V4 (.YQ (.Ws (.Yq .modI (.ZK (.Ye .eqS (.VQ 4) (.Vn "add")) (.Yq .Zj (.VQ 9) (.VQ 10)) (.Yq .mulI (.VQ 9) (.VQ 10))) (.VQ 1)) (.Xn [9,10]) (.VQ 6) .VH)) .VH)) .VH))) .VH))) .VH)) .VH)) .VH))
def G8 {a:V9} (h:a<3):WA.Vo.intBits (a:Vo)<=64:=by
 rcases a with _|_|_|a
 .show dP _
 .show di _
 .decide
 .show Vy h (V9.not_lt_of_le (CE 3 a))
def BE (F:dR c.K) (Q:q=2\/q=3) {bF:WC} {W:V9->V9->V9} (f:WOK q H W) {i h j a b:V9} {op:Vm} {l:V} (m:i<H.VB.V0) (hi:H.VB[i]?=V1 (op,[a,b])) (r:op=l8\/op=jZ) (s:a<i) (y:b<i) {z:iD}
    (B:bF.V0<=M.V0) (C:lq h bF M) (D:M[h]?=V1 (.VF ((cD i).VP (wt q W)))) (E:M[j]?=V1 (.VF ([a,b].VP (wt q W))))
    (G:∀{I:WC} {v:V} {a b d},lq h bF I->I[h]?=V1 (.VF ((cD i).VP (wt q W)))->v=wt q W i->aQ c (n+2) (.Va "list.append") [.VG h,v] I λ_ M'=>z .Wo [V1 l,V1 (iV q),V1 (.VG h),V1 (iV i),a,b,d,V8,V8,V8,V8] M'):
    (if (op==aX "x")=V6 then (Bp.V4 (.Xt (.W3 .WX (.VQ 2) (.V4 (.Vu (.W5 "tuple") (.V4 (.Vu (.W5 "range") (.V4 (.VQ 1) .VH)) .VH)) .VH))) .VH).wp c (n+2) [V1 l,V1 (iV q),V1 (.VG h),V1 (iV i),V1 (.Vn op),V1 (.VG j),V8,V8,V8,V8,V8] M (AX (Bp.VH.wp c (n+2)) z) else (Bp.V4 (.ZK (.Ye .eqL0 (.VQ 5) (.ZZ .VH)) (.V4 (.Xt (.W3 .WX (.VQ 2) (.V4 (.Yq .mulT (.Vj (.V4 (.Yq .modI (.Vu (.W5 "int") (.V4 (.VQ 4) .VH)) (.VQ 1)) .VH)) (.VQ 1)) .VH))) .VH) (.V4 (.ZK (.Ye .eqS (.VQ 4) (.Vn "neg")) (.V4 (.Xt (.W3 .WX (.VQ 2) (.V4 (.Vu (.W5 "tuple") (.V4 (.YQ (.Ws (.Yq .modI (.Yq .subI (.VQ 1) (.VQ 8)) (.VQ 1)) (.Ws 8) (.We (.VQ 5) (.Vl 0)) .VH)) .VH)) .VH))) .VH) (.V4 (.Yt 6 (.Vu (.W5 "zip") (.V4 (.We (.VQ 5) (.Vl 0)) (.V4 (.We (.VQ 5) (.Vl 1)) .VH)))) (.V4 (.Xt (.W3 .WX (.VQ 2) (.V4 (.Vu (.W5 "tuple") (.V4 (.YQ (.Ws (.Yq .modI (.ZK (.Ye .eqS (.VQ 4) (.Vn "add")) (.Yq .Zj (.VQ 9) (.VQ 10)) (.Yq .mulI (.VQ 9) (.VQ 10))) (.VQ 1)) (.Xn [9,10]) (.VQ 6) .VH)) .VH)) .VH))) .VH))) .VH)) .VH).wp c (n+2) [V1 l,V1 (iV q),V1 (.VG h),V1 (iV i),V1 (.Vn op),V1 (.VG j),V8,V8,V8,V8,V8] M (AX (Bp.VH.wp c (n+2)) z)):=by
 have h7:=bJ;have q3:q<=3:=by show Te [_] [] Q
 have n0:op≠sX:=by clear hi;rcases r with rfl|rfl<;>decide +kernel
 have n1:(op==aX "x")=V3:=by clear n0;clear hi;rcases r with rfl|rfl<;>decide +kernel
 have n2:(op==aX "neg")=V3:=by clear n1;clear n0;clear hi;rcases r with rfl|rfl<;>decide +kernel
 apply ZL n1 ?_;lk;apply eu.i ((Wa.Ww _) _ _ E) (eu.i bP {VC,?_});apply ZL rfl ?_;lk;apply ZL n2 ?_;lk;have B:=aG B (Wa.Ww (M:=M) [O.VF []]).Wz;have f2:=(Wa.Ww [O.VF []]) _ _ D;have k2:=(Wa.Ww [O.VF []]) _ _ E;have d2:=C.V7 (Wa.Ww [O.VF []]).ZM (d:=h);clear n2;clear n0;generalize M++[O.VF []]=M2 at *;apply .VF k2 (by show C4 [] []) (by show C6 [] []) (v:=.Vj ((cD q).VP λx=>iV (W x a))) rfl ?_;lk;apply .VF k2 (by show AY [] []) (by show A0 [] []) (v:=.Vj ((cD q).VP λx=>iV (W x b))) rfl ?_;lk;apply .zipT ?_;lk;generalize J:M2++[O.it (.Vj ((cD q).VP λx=>iV (W x a)) 0),.it (.Vj ((cD q).VP λx=>iV (W x b)) 0),.it .pair,.it (.Y8 M2.V0 (M2.V0+1) (M2.V0+2))]=M3;have f3:M3[h]?=V1 (.VF ((cD i).VP (wt q W))):=by rw[<-J];show(Wa.Ww _) _ _ f2
 have d3:lq h bF M3:=by rw[<-J];show d2.V7 (Wa.Ww _).ZM
 have z1:M3[M2.V0+3]?=V1 (.it (.Y8 M2.V0 (M2.V0+1) (M2.V0+2))):=by rw[<-J];show apn
 have z2:M3[M2.V0]?=V1 (.it (.Vj ((cD q).VP λx=>iV (W x a)) 0)):=by rw[<-J];(rw[dw (aM _),iA];rfl)
 have z3:M3[M2.V0+1]?=V1 (.it (.Vj ((cD q).VP λx=>iV (W x b)) 0)):=by rw[<-J];(rw[dw (dg _),yU (aM _),iA];rfl)
 have z4:M3[M2.V0+2]?=V1 (.it .pair):=by rw[<-J];show apn
 apply .Wg rfl (qQ f3) ?_;lk;apply{VC,?_};lk;apply iJ (.ownZ z1) (.ownZ z1) ?_
 have g:∀x,x<q->W x i=if op=l8 then (W x a+W x b) % q else (W x a*W x b) % q:=λx K=>by rw[f.YM x K i _ hi];show Vd (Vz.mp n1)
 have hm2:bF.V0<=M2.V0:=Jm B;have fl2:h<M2.V0:=(aB.mp f2).1;apply Kc (Wf:=(cD q).VP λx=>iV (W x i)) (by show(aE ..).V7 (aE ..).Vh) (by show(aE ..).V7 (aE ..).Vh) (by simp;show PG q3) (Le.V7 (ja rfl) (ja rfl)) (λe=>e9 [{2,.a,.p .a (.n 1)}] {5,.n 0,.n 0} [1,0,1] [] tt e) (λk v w u M' L hv N R p=>?_) q 0 M3 (by simp) z1 z2 z3 z4 λS T=>?_
 .letI j:k<q:=by have:=(aB.mp hv).1;simpa using this
  rw[CL j] at hv N R;clear n1;cases hv;cases N;cases R;letI U:=f.lt k j a (qq4 m s);have wb:=f.lt k j b (qq4 m y);rw[g k j] at p;lk;clear g;rcases r with rfl|rfl
  .apply ifY (by decide +kernel) ?_;lk;apply{by show RD [_,_] [] j,?_};rw[Vw rfl] at p;rw[show((W k a:Vo)+(W k b:Vo))=((W k a+W k b:V9):Vo) by show QF [_,_] [],vM];show p
  .apply ZL (by decide +kernel) ?_;lk;apply{.of_left (G8 (dX [{0,.a,.n 3},{1,.b,.a}] {1,.b,.n 3} [1,1,1] [] tt q3 U)),?_};lk;apply{by show RD [_,_] [] j,?_};rw[Vd (by decide +kernel)] at p;rw[show((W k a:Vo)*(W k b:Vo))=((W k a*W k b:V9):Vo) by show rfl,vM];show p
 .have f4:=T _ _ (λe=>qq8 fl2 e) (λe=>dX [{1,.a,.b},{2,.a,.p .b (.n 1)}] {5,.n 0,.n 0} [2,1,0,1] [] tt fl2 e) f3;lk;apply .tupleL bP (by simp;show Qu h7 q3) ?_;lk;show G (lq.V7 (λb o X e=>T b o (by have:=(aB.mp e).1;show λe=>Rv B this e) (by have:=(aB.mp e).1;show λe=>fG [{0,.a,.b},{1,.c,.a},{2,.c,.p .b (.n 1)}] {5,.n 0,.n 0} [2,1,1,0,1] [] tt B this e) (d3 b o X e)) (Wa.Ww _).ZM) ((Wa.Ww _) _ _ f4) rfl
def FY (F:dR c.K) (h:W4 c M A H) (Q:q=2\/q=3) {W:V9->V9->V9} (m:WOK q H W) {i p:V9} {nd:fK} (hi:H.VB[i]?=V1 nd) (r:nG q nd) (ks:∀k∈nd.2,k<i) (u:H.VB.V0<=100) (w:M[p]?=V1 (.VF ((cD i).VP (wt q W)))) {y:iD}
    (B:∀M',(∀(b:V9) o,b≠p->M[b]?=V1 o->M'[b]?=V1 o)->M'[p]?=V1 (.VF ((cD (i+1)).VP (wt q W)))->∀a b d,y .Wo [V1 (.VG (A .V5)),V1 (iV q),V1 (.VG p),V1 (iV i),a,b,d,V8,V8,V8,V8] M'):
    FW.wp c (n+2) [V1 (.VG (A .V5)),V1 (iV q),V1 (.VG p),V1 (iV i),V8,V8,V8,V8,V8,V8,V8] M y:=by
 have h7:=bJ;letI C:i<H.VB.V0:=(aB.mp hi).1;have q3:q<=3:=by show Te [_] [] Q
 letI D:nd.2.V0<=2:=r.op.2;have fll:=(aB.mp w).1
 have Ww:∀{E:WC} {v:V} {a b d},lq p M E->E[p]?=V1 (.VF ((cD i).VP (wt q W)))->v=wt q W i->aQ c (n+2) (.Va "list.append") [.VG p,v] E λ_ M'=>y .Wo [V1 (.VG (A .V5)),V1 (iV q),V1 (.VG p),V1 (iV i),a,b,d,V8,V8,V8,V8] M':=λ{E v a b d} G I e=>by
  apply .WX I (by simp;show fG [{0,.a,.n 100},{2,.b,.n 16777216},{1,.c,.a}] {0,.c,.b} [16777216,16777216,0,99,16777216] [] tt u h7 C) (B _ (λb o J g=>?_) ?_ a b d)
  .rw[aL J.Vh];show G b o J g
  .rw[bK (aB.mp I).1,e,jB,bD];rfl
 lk;apply .X4 rfl h.Vq rfl rfl (fm h.XN) ?_;lk;apply Lo (n:=n+1) F h (Ew u) hi ?_;lk;apply⟨VC,?_⟩;apply .X4 rfl h.Vq rfl rfl (fm h.XN) ?_;lk;apply Dm (n:=n+1) F h (Ew u) (La D) hi ?_;apply iJ .Vj (.YB rfl) ?_;apply fk.tupI (λj ys M'=>ys=(nd.2.WU j).VP (wt q W)/\M'=M) (λj v ys M' K hv L R=>?_) (λys M' L=>?_) nd.2.V0 0 [] M (by rw[cY];show qq5) ⟨VC,VC⟩
 .clear Ww fll B y h;let(rfl,VC):=L;let(k,S,VC):=pG hv;have hkl:=ks k (aF S);apply{by rw[aE,dF];show Tz [_,_,_] [] h7 D,?_};lk;apply .VF w (by show qq1 [_] []) (by show bY [.l V3 (.v 0) (.n 100),.k V3 (.v 1) (.v 0),.k V3 (.v 2) (.v 1)] (.k V6 (.z (.v 2)) (.n 9223372036854775808)) [[1,1,1,1]] tt [_,_,_] [] u C hkl) (v:=wt q W k) (by rw[gJ,bC,i8 hkl];rfl) (R _ _ {?_,VC});rw[cF,S,bD];rfl
 clear fll B h;let(rfl,VC):=L;rw[cY,cV];have I:=Wa.Ww (M:=M') [O.VF (nd.2.VP (wt q W))];have hk:=bP (M:=M') (o:=O.VF (nd.2.VP (wt q W)));have f1:=I _ _ w;clear w;generalize T:M'++[O.VF (nd.2.VP (wt q W))]=E at *;lk;apply{VC,?_};lk;rcases r with⟨e2,e1⟩|⟨a,VC⟩|⟨a,b,VC⟩|⟨a,b,VC⟩
 rotate_left 2
 .show BE F Q m C hi (.XB rfl) (ks a (by show .WI _)) (ks b (by show .XW _ (.WI _))) I.Wz I.ZM f1 hk Ww
 .show BE F Q m C hi (.Wt rfl) (ks a (by show .WI _)) (ks b (by show .XW _ (.WI _))) I.Wz I.ZM f1 hk Ww
 .let(op,U):=nd;clear T D ks;simp only at e2 e1;subst e2;by_cases ex:op=sX
  .clear hk e1;subst ex;apply ifY (by decide +kernel) ?_;lk;apply .Wg rfl (qQ f1) ?_;lk;apply .Xb ?_;lk;apply .tupleR (PG q3) ?_;lk;show Ww I.ZM f1 (Hx λx X=>(m.YM x X i _ hi).V7 (Vw rfl)).Vh
  .letI Y:(op==("x":Vm))=V3:=Vz.WO ex;apply ZL Y ?_;lk;apply eu.i ((Wa.Ww _) _ _ hk) (eu.i bP {VC,?_});apply ifY rfl ?_;lk;have f2:=(Wa.Ww [O.VF []]) _ _ f1;apply .Wg rfl (qQ f2) ?_;lk
   have hl:Ve.intText? op=V1 (Ma op)/\op.V0<=640:=by
    clear f2 Y hk hi f1 Ww q3 y m W n;rcases e1 with e|rfl|rfl|rfl
    .show Vy e ex
    .show{by decide +kernel,by decide +kernel}
    .show{by decide +kernel,by decide +kernel}
    .clear ex;rcases Q with rfl|rfl<;>show{by decide +kernel,by decide +kernel}
   apply .intS hl.1 hl.2 ?_;lk;apply{by show bY [.O (.e V3 (.v 0) (.n 2)) (.e V3 (.v 0) (.n 3))] (.N (.e V6 (.z (.v 0)) (.n 0))) [[1,0,0,1],[1,0,0,1]] tt [_] [] Q,?_};lk;apply g6 _ rfl (by show bY [.O (.e V3 (.v 0) (.n 2)) (.e V3 (.v 0) (.n 3))] (.O (.e V6 (.z (.v 0)) (.n 2)) (.e V6 (.z (.v 0)) (.n 3))) [[1,0,0,1],[1,0,0,1],[1,1],[1,1],[1,1],[1,1],[0,1,1],[0,1,1]] tt [_] [] Q) ?_;lk;apply Ww (I.ZM.V7 (Wa.Ww _).ZM) f2 ?_;rw[Hx (f:=λ_=>Ma op % q) λx X=>(m.YM x X i _ hi).V7 (Vd ex),vM];clear e1;clear f2 hk f1 Ww q3 y p m W A n;rcases Q with rfl|rfl<;>rfl
 .apply ZL (show(kR==aX "x")=V3 by decide +kernel) ?_;lk;apply eu.i ((Wa.Ww _) _ _ hk) (eu.i bP {VC,?_});apply ZL rfl ?_;lk;apply ifY (show(kR==aX "neg")=V6 by decide +kernel) ?_;lk;have f2:=(Wa.Ww [O.VF []]) _ _ f1;have k2:=(Wa.Ww [O.VF []]) _ _ hk;have al:=ks a (by show cO _);apply .Wg rfl (qQ f2) ?_;lk;apply{VC,?_};lk;apply .VF k2 (by show C4 [] []) (by show C6 [] []) (v:=.Vj ((cD q).VP λx=>iV (W x a))) rfl ?_;apply iJ .Vj (.YB rfl) ?_;have d2:=I.ZM.V7 (Wa.Ww [O.VF []]).ZM (d:=p);clear k2;generalize E++[O.VF []]=M2 at *;apply fk.tupI (λj ys M'=>ys=(cD j).VP (λx=>iV ((q-W x a) % q))/\M'=M2) (λj v ys M' K hv L R=>?_) (λys M' L=>?_) q 0 [] M2 (by simp) {VC,VC}
  .clear d2;let(rfl,VC):=L;letI Z:j<q:=by have:=(aB.mp hv).1;simpa using this
   rw[CL Z] at hv;cases hv;have wl:=m.lt j Z a (qq4 C al);apply{by simp;show fG [{2,.a,.n 16777216},{0,.b,.n 3},{1,.c,.b}] {0,.c,.a} [8388608,0,1,8388608,8388608] [] tt h7 q3 Z,?_};lk;apply{by show RD [_,_] [] wl,R _ _ {?_,VC}};rw[jB,bD,show((q:Vo)-(W j a:Vo))=((q-W j a:V9):Vo) by show bY [.k V3 (.v 0) (.v 1)] (.e V6 (.s (.z (.v 1)) (.z (.v 0))) (.z (.s (.v 1) (.v 0)))) [[0,1],[0,1],[0,1,1],[1,1]] tt [_,_] [] wl,vM];rfl
  .let(rfl,VC):=L;lk;apply .tupleL bP (by simp;show Qu h7 q3) ?_;lk;apply Ww (d2.V7 (Wa.Ww _).ZM) ((Wa.Ww _) _ _ f2) ?_;rw[aE,jM,Hx λx X=>(m.YM x X i _ hi).V7 (Vd (show ¬kR=sX by decide +kernel))]
def BD (F:dR c.K) (h:W4 c M A H) (I:Inv q t H) (Q:q=2\/q=3) {W:V9->V9->V9} (g:WOK q H W) (j:∀M',Wa M M'->M'[M.V0]?=V1 (.VF ((cD H.VB.V0).VP (wt q W)))->P (.VG M.V0) M'):aQ c (n+3) (.VG 655) [.VG (A .V5),iV q] M P:=by
 have hN:=I.X5.n;apply .ZC (F.fn 53) rfl [V1 (.VG (A .V5)),V1 (iV q),V8,V8,V8,V8,V8,V8,V8,V8,V8] rfl ?_
 focus unfold vI
 lk;apply .Wg rfl (fm (h.Ya (Wa.Ww [O.VF []])).Vq) ?_;lk;apply vL (n:=n) F (h.Ya (Wa.Ww [O.VF []])) (Ew hN) ?_;lk;apply .Xb ?_;apply sr (.range0 (PM hN)) ?_
 apply jS.rangeI (N:=H.VB.V0) (λi σ M'=>σ=[V1 (.VG (A .V5)),V1 (iV q),V1 (.VG M.V0),V8,V8,V8,V8,V8,V8,V8,V8]/\Wa M M'/\M'[M.V0]?=V1 (.VF ((cD i).VP (wt q W))))
  (λi σ M' k hi l m=>?_) (λσ M' l=>?_) H.VB.V0 0 _ _ (qq5) (fq rfl (Wa.Ww _) bP)
 .let(rfl,o,f):=l;obtain⟨nd,hnd⟩:∃nd,H.VB[i]?=V1 nd:={_,aI hi};apply FY (n:=n) F (h.Ya o) Q g hnd (I.ok nd (aF hnd)) (I.X5.Yb i nd hnd).2.1 hN f λp r s a b d=>?_;lk;show aV [V1 (.VG (A .V5)),V1 (iV q),V1 (.VG M.V0),V8,V8,V8,V8,V8,V8,V8,V8] {VC,VC,VC,trivial} (m _ _ (fq rfl (λb o' e=>r b o' (by have:=(aB.mp e).1;show λe=>qq8 this e) (o b o' e)) s))
 .let(rfl,o,f):=l;lk;show j _ o f
abbrev Wof (q:V9) (H:HS) (I:∀x,x<q->∃V,XH q x H V) (x:V9):V9->V9:=if h:x<q then Classical.choose (I x h) else λ_=>0
def xd {I:∀x,x<q->∃V,XH q x H V} {x:V9} (h:x<q):XH q x H (Wof q H I x):=by unfold Wof;rw[dif_pos h];show Classical.choose_spec (I x h)
def Hp {I:∀x,x<q->∃V,XH q x H V}:WOK q H (Wof q H I):={λx a i nd hi=>(xd a).YM i nd hi,λx a i hi=>(xd a).lt a hi}
def G6 (C:lV (λ_=>WY) H) (w:H.W0=[]) {i j:V9} {nd a:fK} (b:H.VB[i]?=V1 nd) (f:H.VB[j]?=V1 a) (g:eW H.VR nd=eW H.VR a):VX H.VR i=VX H.VR j:=by
 rcases C i nd b with c|c|⟨m,c1,c2⟩
 .show c.W2
 .rw[w] at c;cases c
 .rcases C j a f with d|d|⟨m',d1,d2⟩
  .show d.W2
  .rw[w] at d;cases d
  .rw[g,d1] at c1;cases c1;show eZ (c2).Vh (d2)
def mO {d:Type} {f:d->V9}:∀{l:V2 d},eU (l.VP λx=>iV (f x))=V6/\pX (l.VP λx=>iV (f x))=0
 |[]=>{VC,VC}
 |x::l=>by let(a,b):=mO (f:=f) (l:=l);show{by assumption,by assumption}
def z9 {a:Type} {f g:a->V9}:∀{l:V2 a},wF (l.VP λx=>iV (f x)) (l.VP λx=>iV (g x))=V6
 |[]=>rfl
 |x::l=>by
  focus change(V6&&wF _ _)=V6
  rw[z9 (l:=l)];rfl
abbrev Ue (H:HS) (i:V9) (L:V2 (fK×V9)):Prop:=∀r∈L,∃j nd,j<i/\H.VB[j]?=V1 nd/\eW H.VR nd=r.1/\VX H.VR j=r.2
def C9 (F:dR c.K) (h:W4 c M A H) (I:Inv q t H) (Q:q=2\/q=3) (w:H.W0=[]) (f:∀M',Wa M M'->P (.WW V6) M'):aQ c (n+4) (.VG 660) [.VG (A .V5),iV q] M P:=by
 have h7:=bJ;letI g:=I.X5;have hN:=g.n;have pn:=g.Xx;apply .ZC (F.fn 54) rfl [V1 (.VG (A .V5)),V1 (iV q),V8,V8,V8,V8,V8,V8] rfl ?_
 focus unfold rH
 lk;apply BD (n:=n) F h I Q (Hp (I:=I.sound)) λl s u=>?_;lk;apply⟨VC,?_⟩;have f2:=(Wa.Ww [O.WD []]) _ _ u;have o2:=s.V7 (Wa.Ww [O.WD []]);have wl:M.V0<l.V0:=(aB.mp u).1;lk;apply .Wg rfl (fm (h.Ya o2).Vq) ?_;lk;apply vL (n:=n+1) F (h.Ya o2) (Ew hN) ?_;lk;apply .Xb ?_;apply sr (.range0 (PM hN)) ?_
 apply jS.rangeI (N:=H.VB.V0) (λi σ M'=>σ=[V1 (.VG (A .V5)),V1 (iV q),V1 (.VG M.V0),V1 (.VG l.V0),V8,V8,V8,V8]/\Wa l M'/\∃L,M'[l.V0]?=V1 (.WD (lK L))/\L.V0<=i/\Ue H i L)
  (λi σ M' y hi B C=>?_) (λσ M' B=>?_) H.VB.V0 0 _ _ (qq5) (fq rfl (Wa.Ww _) ⟨[],bP,aM _,λ_ D=>by cases D⟩)
 .let(rfl,o,L,E,G,J):=B;obtain⟨nd,hnd⟩:∃nd,H.VB[i]?=V1 nd:={_,aI hi};have h3:=h.Ya (s.V7 o);have D:VX H.VR i<H.VB.V0:=by have:=sY g.VR (a:=i) (C5 pn hi);show Ey pn this
  have Yb:=(g.Yb i nd hnd).2.1;letI K:=(g.Yb i nd hnd).1;lk;apply .Wg rfl (fm h3.Vq) ?_;lk;apply jF (n:=n+1) F h3 g.VR (C5 pn hi) (P5 hN pn) ?_;lk;apply .X4 rfl h3.Vq rfl rfl (fm h3.XN) ?_;lk;apply Lo (n:=n+2) F h3 (Ew hN) hnd ?_;lk;apply{VC,?_};apply .X4 rfl h3.Vq rfl rfl (fm h3.XN) ?_;lk;apply Dm (n:=n+2) F h3 (Ew hN) (La K) hnd ?_;apply iJ .Vj (.YB rfl) ?_;apply fk.tupI (λj ys R=>ys=XX ((nd.2.WU j).VP (VX H.VR))/\R=M') (λj v ys R y hv B C=>?_) (λys R B=>?_) nd.2.V0 0 [] M' (by rw[cY];show qq5) {VC,VC}
  .clear E o;let(rfl,VC):=B;let(k,S,VC):=pG hv;letI T:=Yb k (aF S);apply{by rw[cY,aE,dF];show Tz [_,_,_] [] h7 K,?_};lk;apply .Wg rfl (fm h3.Vq) ?_;lk;apply jF (n:=n+1) F h3 g.VR (ir [{2,.a,.b},{1,.c,.b},{1,.d,.c}] {1,.d,.a} [1,0,1,1,1] [] tt pn hi T) (P5 hN pn) (C _ _ {?_,VC});rw[cF,S,bD,nS];rfl
  clear h3;let(rfl,VC):=B;lk;have e:nd.2.WU (XX nd.2).V0=nd.2:=by rw[cY];show cV
  rw[e];apply .tupleL bP (by rw[cY,aE];show dX [{2,.a,.n 16777216},{0,.b,.n 2}] {0,.b,.a} [8388608,0,1,8388608] [] tt h7 K) ?_;lk;apply{by rw[cY,aE];simp;show dX [{2,.a,.n 16777216},{0,.b,.n 2}] {0,.p (.n 1) .b,.a} [16777216,0,3,16777216] [] tt h7 K,?_};lk;have o4:=o.V7 (Wa.Ww [O.VF (XX (nd.2.VP (VX H.VR)))]);have d4:=(Wa.Ww [O.VF (XX (nd.2.VP (VX H.VR)))]) _ _ E;generalize R++[O.VF (XX (nd.2.VP (VX H.VR)))]=M4 at *;have gw:∀j,j<H.VB.V0->((cD H.VB.V0).VP (wt q (Wof q H I.sound)))[(j:Vo).Xd]?=V1 (wt q (Wof q H I.sound) j):=λj U=>by rw[gJ,bC,i8 U];rfl
  apply .VF (o4 _ _ u) (qq1 [_] []) (qq7 [_,_] [] hN hi) (gw i hi) ?_;lk;apply .VF (o4 _ _ u) (qq1 [_] []) (qq7 [_,_] [] hN D) (gw _ D) ?_;have ew:wt q (Wof q H I.sound) (VX H.VR i)=wt q (Wof q H I.sound) i:=Hx λx W=>(xd W).VX g hi;rw[ew];apply Wl.neT_i (ZX (ZX {{mO.1,mO.1,z9,by rw[mO.2];show o6 [] {0,.n 0,.n 50} [1] [] tt},?_}));rw[(zY mO.1).WO rfl];apply ZL rfl ?_;lk;apply .Wg rfl (zx d4) ?_;lk;apply .setdefaultE xG d4 sW (jc (nd:=eW H.VR nd)) (by unfold lK;rw[aE];show ir [{2,.a,.n 16777216},{0,.b,.n 100},{1,.c,.b},{0,.d,.c}] {0,.d,.a} [16777216,0,99,16777216,16777216,16777216] [] tt h7 hN hi G) (λx W=>?_) λW X Y=>?_
  .have hx':oG (lK L) (iu (eW H.VR nd))=V1 x:=W;rw[mR] at hx';clear W;cases hl:L.VY (eW H.VR nd) with
   |V8=>rw[hl] at hx';cases hx'
   |V1 m=>
    rw[hl] at hx';cases hx';let(j,Z,U,a0,a1,a2):=J _ (Wq hl);have em:VX H.VR i=m:=(G6 I.cong w hnd a0 a1.Vh).V7 a2;rw[em];lk;apply ZL (by simp) ?_;lk;apply aV [V1 (.VG (A .V5)),V1 (iV q),V1 (.VG M.V0),V1 (.VG l.V0),V8,V8,V8,V8] {VC,VC,VC,VC,trivial} (C _ _ (fq rfl o4 {L,d4,KZ G,λr D=>?_}));let(j,Z,U,z):=J r D;show kW j Z (K0 U) z
  .have hx':oG (lK L) (iu (eW H.VR nd))=V8:=W;rw[mR] at hx'
   have hl:L.VY (eW H.VR nd)=V8:=by
    cases hl:L.VY (eW H.VR nd) with
    |V8=>rfl
    |V1 m=>rw[hl] at hx';cases hx'
   lk;apply ZL (by simp) ?_;lk;have dl:=(aB.mp d4).1;apply aV [V1 (.VG (A .V5)),V1 (iV q),V1 (.VG M.V0),V1 (.VG l.V0),V8,V8,V8,V8] ⟨VC,VC,VC,VC,trivial⟩ (C _ _ (fq rfl (by rw[Y];show o4.Wb (aM _)) ⟨L++[(eW H.VR nd,VX H.VR i)],?_,by simp;show Jm G,λr D=>?_⟩))
   .have:mQ (lK L) (iu (eW H.VR nd)) (iV (VX H.VR i))=_:=uA hl;rw[Y,bK dl,<-this];rfl
   .rcases aW.mp D with D|D
    .let(j,Z,U,z):=J r D;show kW j Z (K0 U) z
    .rw[aC.mp D];show Mw i nd (K6) hnd rfl rfl
 .let(rfl,o,L,E,G,J):=B;lk;show f _ (s.V7 o)
end
section
variable {H0:HS} {V:Nat->Nat}
mutual open Nat
def D7 {W:V9->V9->V9} (a:Wu t e H) (S:XH q x H V) (b:x<q) (d:WOK q H W):∀i,i<H.VB.V0->V i=W x i:=by
 intro i
 induction i using jD with
 |ind i f=>
  intro hi;obtain⟨nd,hn⟩:∃nd,H.VB[i]?=V1 nd:={_,aI hi};rw[S.YM i nd hn,d.YM x b i nd hn];show yI λk g=>f k ((a.Yb i nd hn).2.1 k g) (by have:=(a.Yb i nd hn).2.1 k g;show qq4 hi this)
def wR (b:Wu t e H) {i j:V9} {nd:fK} (d:H.VB[i]?=V1 nd) (f:H.VB[j]?=V1 nd):i=j:=by
 have a:=pT (k:=0) b.nodup d;rw[pT (k:=0) b.nodup f] at a
 simpa using a.Vh
def vg (d:Wu t e H) {s:Vm->V9}:∀{p:Tm} {i j:V9},f7 H s p i->f7 H s p j->i=j:=by
 intro p
 induction p with
 |c x=>
  intro i j f g;cases e:gr x with
  |V6=>rw[f7.VQ e] at f g;show f.V7 g.Vh
  |V3=>rw[f7.con e] at f g;show wR d f g
 |u x a h=>
  intro i j m o;let(k,f,g):=m;let(l,r,v):=o;rw[h g v] at f;show wR d f r
 |b x a b w y=>
  intro i j m o;let(k,l,f,g,r):=m;let(k',z,v,B,C):=o;rw[w g B,y r C] at f;show wR d f v
def zw {s s':Vm->V9}:∀{p:Tm} {i:V9},gp p=V6->f7 H s p i->f7 H s' p i:=by
 intro p
 induction p with
 |c x=>
  intro i g h;have g':gr x=V3:=(dh _).mp g;rw[f7.con g'] at h⊢;show h
 |u x a d=>
  intro i g f;let(k,j,m):=f;show{k,j,d g m}
 |b x a b o r=>
  intro i g f;let(k,l,j,m,v):=f;have g':(gp a&&gp b)=V6:=g;rw[aN] at g';show{k,l,j,o g'.1 m,r g'.2 v}
def UB (a:Wu t e H) (C:lV (λ_=>WY) H) (w:H.W0=[]) {l r:Tm} {s:Vm->V9} {i j:V9} (b:CG H l r s) (sub:∀x∈gD r,x∈gD l) (d:f7 H s l i) (f:f7 H s r j) (g:i<H.VB.V0) (h:j<H.VB.V0):VX H.VR i=VX H.VR j:=by let(tb,(i',j',r1,r2,l1,l2,e),hv):=b;rw[El a C w d r1 (λx k=>(hv x k).2.2.Vh) g l1,e];show El a C w r2 f (λx k=>(hv x (sub x k)).2.2) l2 h
def nR {i:V9}:f7 H (λ_=>i) vA i:=(rfl:i=i)
def Jj {o:V9} (I:Inv q t H) (Q:q=2\/q=3) (w:H.W0=[]) (G:Xr H0 H) (p:Wu o e H0) {rs:V2 (V9×jU)} (hs:rs.VP (·.2)=pD q) (v:H.VB.V0<=60) (y:Did H0 H rs) {z:Tm} (g:gp z=V6) {r:Tm×Tm} (D:r∈more z) {s:Vm->V9} {i j:V9}
    (E:f7 H0 s r.1 i) (F:f7 H0 s r.2 j) (J:i<H0.VB.V0) (K:j<H0.VB.V0):VX H.VR i=VX H.VR j:=by
 have B:=I.X5;have C:=I.cong;have Wz:=G.Wz;letI kid:∀{a:V9} {nd:fK} {k:V9},H0.VB[a]?=V1 nd->a<H0.VB.V0->k∈nd.2->k<H0.VB.V0:=λh L N=>by have:=(p.Yb _ _ h).2.1 _ N;show qq4 L this
 letI R:∀(S:jU) {s':Vm->V9} {i j:V9},S∈pD q->f7 H0 s' S.2.1 i->f7 H0 s' S.2.2 j->i<H0.VB.V0->j<H0.VB.V0->VX H.VR i=VX H.VR j:=λS s' i j T a b L U=>by
  obtain⟨W,hru,e⟩:∃W∈rs,W.2=S:=by rw[<-hs] at T;show aK.mp T
  have:=y v W hru s' i L (by rw[e];show a);rw[e] at this;show UB B C w this (zh Q S T).1.sub (a.Yc G) (b.Yc G) (Of Wz L) (Of Wz U)
 letI X:∀{s s':Vm->V9} {k:V9},f7 H0 s tZ k->f7 H0 s' tZ k:=λh=>zw (by change(!gr s0')=V6;rw[Ds];rfl) h;have z1:∀{s s':Vm->V9} {k:V9},f7 H0 s (.c s1') k->f7 H0 s' (.c s1') k:=λh=>zw (by change(!gr s1')=V6;rw[Dr];rfl) h;simp only[more,aU,fY,or_false] at D;rcases D with rfl|rfl|rfl|rfl|rfl
 .let(k,l,a,b,d):=E;rw[<-vg p b F];show R (l8++aX "-unit",.b l8 vA (.c s0'),vA) (s':=λ_=>k) (aF (i:=2) rfl) {k,l,a,nR,X d} nR J (kid a J (by show .WI _))
 .let(k,a,l,b,d):=E;rw[<-vg p d F];have lk:=kid a J (by show cO _:k∈[k]);show R (aX "neg-neg",.u kR (.u kR vA),vA) (s':=λ_=>l) (aF (i:=7) rfl) {k,a,l,b,nR} nR J (kid b lk (by show cO _))
 .let(k,l,a,b,d):=E;rw[<-vg p b F];show R (jZ++aX "-unit",.b jZ vA (.c s1'),vA) (s':=λ_=>k) (aF (i:=5) rfl) {k,l,a,nR,z1 d} nR J (kid a J (by show .WI _))
 .let(k,l,a,b,d):=E;show R (aX "mul-zero",.b jZ vA tZ,tZ) (s':=λ_=>k) (aF (i:=9) rfl) {k,l,a,nR,X d} (X F) J K
 .let(k,l,a,b,m,d,f):=E;have:m=k:=vg p f b;clear b;subst this;show R (aX "neg-add",.b l8 vA (.u kR vA),tZ) (s':=λ_=>m) (aF (i:=6) rfl) {m,l,a,nR,m,d,nR} (X F) J K
def JB {w:Tm} (h:w.VA<=5):∀r∈more w,r.1.VA+r.2.VA<=13:=by intro r a;simp only[more,aU,fY,or_false] at a;rcases a with rfl|rfl|rfl|rfl|rfl<;>simp[CV,CT,CU]<;>omega
end
end
mutual open Nat
abbrev uI (H:HS) (a:Tm) (b:V2 (V9×V9)):Prop:=∀p∈b,∃r∈more a,(∃s,f7 H s r.1 p.1/\f7 H s r.2 p.2)/\p.1<H.VB.V0/\p.2<H.VB.V0
def uI.Yc {H':HS} {d:Tm} {f:V2 (V9×V9)} (R:uI H d f) (G:Xr H H'):uI H' d f:=λp g=>by let(r,hr,(s,a,b),l1,l2):=R p g;show Sl r hr (aV s (a.Yc G) (b.Yc G)) (aY l1 G.Wz) (aY l2 G.Wz)
abbrev xO (p:V9×V9):V:=.Vj [iV p.1,iV p.2]
def W4.ZM {M':WC} {d:V9} (h:W4 c M A H) (f:Off c H A d) (a:lq d M M'):W4 c M' A H:={λx o e=>a _ _ (f x (by simp only[mT,e];rfl)) (h.X8 x o e),h.inj}
nonrec abbrev GI:Bp:=.V4 (.ZK (.or (.not (.YM (.W3 (.XG 617 576) (.VQ 3) .VH))) (.not (.YM (.Vu (.VG 660) (.V4 (.VQ 3) (.V4 (.VQ 2) .VH)))))) (.V4 (.XC (.WW V3)) .VH) .VH) (.V4 (.XC (.or (.Ye .eqS (.VQ 11) (.Vn "nodes")) (.Ye .eqL0 (.YQ (.Ws (.VQ 15) (.Ws 15) (.VQ 7) (.Ws (.not (.YM (.W3 (.XG 617 548) (.VQ 3) (.V4 (.We (.VQ 15) (.Vl 0)) (.V4 (.We (.VQ 15) (.Vl 1)) .VH)))))))) (.ZZ .VH)))) .VH)
def OT (F:dR c.K) (Q:q=2\/q=3) {d:HS} {f:RC} {j rw:V9} {k:Vm} {l:V2 (V9×V9)} {m:Tm} {o u x y z B C G:VK V} (h:W4 c M A H) (I:Inv q t H) (J:Wu e 0 d) (E:RunEnd d H f k) (K:f.rs.VP (·.2)=pD q) (L:A .V5=j) (g:gp m=V6) (N:uI d m l) (R:M[rw]?=V1 (.VF (l.VP xO))):
    GI.wp c (n+21) [o,u,V1 (iV q),V1 (.VG j),x,y,z,V1 (.VG rw),B,C,G,V1 (.Vn k),V8,V8,V8,V8] M (λS _ _=>mE S=.WW V6):=by
 have hN:=E.n;have pn:=I.X5.Xx;lk;apply .Wg rfl (L▸fm h.Vq) ?_;lk;apply lQ L (A7 (n:=n+19) F h (by rw[E.w];simp) ?_);rw[E.w];lk;apply ZL rfl ?_;apply lQ L (C9 (n:=n+17) F h I Q E.w λT U=>?_);lk;apply ZL rfl ?_;lk;have h1:=h.Ya U;have r1:=U _ _ R;clear U;rcases E.full with rfl|⟨ne,n60,D⟩
 .apply ifY (by decide +kernel) ?_;lk;rfl
 .apply ZL (Vz.WO ne) ?_;lk;apply{VC,?_};lk;apply iJ (.VF r1) (.YB rfl) ?_;apply fk.Z6 (xs:=l.VP xO) (λi ys M'=>ys=[]/\M'=T) (λi v ys M' W hv X Y=>?_) (λys M' X=>?_) (l.VP xO).V0 0 [] T (qq5) {VC,VC}
  .let(rfl,VC):=X;rw[bC] at hv;cases hx:l[i]? with
   |V8=>rw[hx] at hv;cases hv
   |V1 p=>
    rw[hx] at hv;cases hv;let(r,hrm,(s,ra,rb),la,lb):=N p (aF hx);have Wz:=E.g.Wz;apply fq r1 (by simp) ?_;lk;apply .Wg rfl (L▸fm h1.Vq) ?_;lk;apply .Vj (C4 [] []) (C6 [] []) (v:=iV p.1) rfl ?_;lk;apply .Vj (AY [] []) (A0 [] []) (v:=iV p.2) rfl ?_;lk;apply lQ L (Fe (n:=n+18) F h1 I.X5.VR (Qa pn la Wz) (Qa pn lb Wz) (dX [{0,.a,.n 72},{2,.b,.a}] {0,.b,.n 1000} [1,1,1] [] tt hN pn) ?_);rw[Vs (Jj I Q E.w E.g J K n60 D g hrm ra rb la lb)];lk;apply ZL rfl ?_;show Y _ _ {VC,VC}
  .clear h1;let(rfl,VC):=X;apply{r1,?_};lk;apply eu.i (xs:=[]) ((Wa.Ww _) _ _ bP) (eu.i bP {VC,?_});rfl
def ER (F:dR c.K) (Q:q=2\/q=3) {st k b rw:V9} {d:V} {ns:V2 Vo} {f:V2 (V9×V9)} {i:Tm} {j m s u x y:VK V} (h:W4 c M A H) (I:Inv q t H) (B:t<=1000) (C:1<=H.VB.V0) (D:H.VB.V0<=72) (S:Xv M st d ns k) (E:k<=500) (G:ns.V0<=1000) (fs:Off c H A st)
    (J:M[rw]?=V1 (.VF (f.VP xO))) (L:Off c H A rw) (N:rw≠st) (R:uI H i f) (g:gp i=V6) (T:A .V5=b):
    (Bp.V4 (.Yt 10 (.dic3 "order" "nodes" "rounds" (.We (.Vj (.V4 (.Vn "together") (.V4 (.Vn "turns") .VH))) (.Vu (.VG 629) (.V4 (.VQ 1) (.V4 (.Vl 2) .VH)))) (.Vl 60) (.Yq .Zj (.Vl 1) (.Vu (.VG 629) (.V4 (.VQ 1) (.V4 (.Vl 2) .VH)))))) (.V4 (.Yt 11 (.W3 (.XG 356 353) (.Vu (.VG 356) (.V4 (.VQ 3) (.V4 (.W3 (.XG 405 395) (.Vu (.VG 405) (.V4 (.VQ 2) .VH)) .VH) (.V4 (.VQ 10) .VH)))) .VH)) GI)).wp c (n+21)
     [j,V1 (.VG st),V1 (iV q),V1 (.VG b),m,s,u,V1 (.VG rw),x,y,V8,V8,V8,V8,V8,V8] M (λU _ _=>mE U=.WW V6):=by
 lk;apply lA (n:=n+20) (Xn:=2) F S (e9 [⟨0,.a,.n 500⟩] ⟨0,.a,.n 1000⟩ [1,1] [] tt E) G (HJ) λr W X Y Z a0=>?_;apply .Vj (by show qq1 [_] []) (by show bY [.k V3 (.v 0) (.n 2)] (.k V6 (.z (.v 0)) (.n 9223372036854775808)) [[1,1]] tt [_] [] X) (v:=.Vn (if decide (r=1) then "turns" else "together")) (by show Ku X rfl rfl) ?_;lk;apply lA (n:=n+20) (Xn:=2) F Y (e9 [⟨0,.a,.n 500⟩] ⟨0,.p .a (.n 1),.n 1000⟩ [1,1] [] tt E) G (HJ) λa1 a2 a3 a4 a5 a6=>?_;lk;letI a7:=h.ZM fs (Z.V7 a5);have rw2:=(Z.V7 a5) _ _ N J;rw[show((1:Vo)+(a1:Vo))=((1+a1:V9):Vo) by show bY [] (.e V6 (.p (.n 1) (.z (.v 0))) (.z (.p (.n 1) (.v 0)))) [[1],[1]] tt [_] []];have ho:(a2++[O.WD ([(V.Vn (aX "order"),V.Vn (if decide (r=1) then "turns" else "together")),(V.Vn (aX "nodes"),V.Vl 60),(V.Vn (aX "rounds"),iV (1+a1))])])[a2.V0]?=V1 (.WD (fO (kdS c.VM c.w) [("order",.Vn (if decide (r=1) then "turns" else "together")),("nodes",.Vl 60),("rounds",.Vl (1+a1:V9))])):=bP;letI a8:Wa a2 (a2++[O.WD ([(V.Vn (aX "order"),V.Vn (if decide (r=1) then "turns" else "together")),(V.Vn (aX "nodes"),V.Vl 60),(V.Vn (aX "rounds"),iV (1+a1))])]):=Wa.Ww _;generalize a2++[O.WD ([(V.Vn (aX "order"),V.Vn (if decide (r=1) then "turns" else "together")),(V.Vn (aX "nodes"),V.Vl 60),(V.Vn (aX "rounds"),iV (1+a1))])]=M3 at *;apply Xp.meth_i ?_;lk;apply Xp.meth_i ?_;lk;apply N6 (n:=n+19) F λa9 aa ab ac=>?_;apply⟨fm ac.ob,?_⟩;lk;apply F6 (n:=n+5) F Q ac.ob λad rs ae=>?_;lk;letI af:=a8.V7 ac.o;letI ag:Made a2 (ad++[O.VF (fW rs)]) rs (pD q):=((Made.VH af).cat ae).Ya (Wa.Ww _);letI ah:=(ac.o.V7 (ae.o.V7 (Wa.Ww [O.VF (fW rs)]))) _ _ ho;letI ai:(ad++[O.VF (fW rs)])[ad.V0]?=V1 (.VF (fW rs)):=bP;letI aj:=ag.o.Wz;generalize ad++[O.VF (fW rs)]=M6 at *;apply lQ (a:=b) T (Jf (n:=n+17) F a7 ag (Ef Q) (bX BK) ai ah (aM _) λak al am RO an ao ap aq ar as=>?_);have d2:=aq.2.1;have d3:=aq.2.2;have aq:=aq.1;apply⟨fm RO.ob,?_⟩;lk;letI au:al.rs.VP (·.2)=pD q:=by rw[an];show ag.e
 letI av:RFix q al:={aq,d2,d3,by have:=VN j7 au;rw[aE,BK] at this;show e9 [{2,.a,.n 13}] {0,.a,.n 13} [1,1] [] tt this,λr J=>(zh Q r.2 (by rw[<-au];show aK.WO (aV r J rfl))).1};apply Ro (n:=n+1) F av (by rw[ap];show bY [.k V3 (.v 0) (.n 2)] (.K (.l V3 (.n 1) (.p (.n 1) (.v 0))) (.l V3 (.p (.n 1) (.v 0)) (.n 2))) [[1],[1,1]] tt [_] [] a3) {a7.Ya (ag.o.V7 am),I,RO,D,C} B λaw ax ay az b0 b1 b2 b3=>?_;have rl:=(aB.mp rw2).1;have r8:=(b1.Za rw _ ((ag.o.V7 am) _ _ rw2) L (λe=>QC aj ar rl e) (λe=>QC aj as rl e)).1;apply YN ?_;show OT F Q b0 b2 I.X5 b3 au (b1.V5.V7 T) g R r8
def Xv.ext {M':WC} {A':Ad} {H':HS} {st k:V9} {a:V} {ns:V2 Vo} (S:Xv M st a ns k) (s:Y6 c M A H M' A' H') (f:Off c H A st) (g:∀b,a=.VG b->Off c H A b):Xv M' st a ns k:={(s.Zp S.l f).1,S.s.imp id λd=>by let(b,h,i,j):=d;show(g6 b h i (s.Zp j (g b h)).1)}
nonrec abbrev OU:Bp:=.V4 (.Yt 10 (.dic3 "order" "nodes" "rounds" (.We (.Vj (.V4 (.Vn "together") (.V4 (.Vn "turns") .VH))) (.Vu (.VG 629) (.V4 (.VQ 1) (.V4 (.Vl 2) .VH)))) (.Vl 60) (.Yq .Zj (.Vl 1) (.Vu (.VG 629) (.V4 (.VQ 1) (.V4 (.Vl 2) .VH)))))) (.V4 (.Yt 11 (.W3 (.XG 356 353) (.Vu (.VG 356) (.V4 (.VQ 3) (.V4 (.W3 (.XG 405 395) (.Vu (.VG 405) (.V4 (.VQ 2) .VH)) .VH) (.V4 (.VQ 10) .VH)))) .VH)) GI)
nonrec abbrev Mi:Bp:=.V4 (.ZK (.Ye .eqI (.Vu (.VG 629) (.V4 (.VQ 1) (.V4 (.Vl 2) .VH))) (.Vl 1)) (.V4 (.Yt 8 (.Vu (.VG 655) (.V4 (.VQ 3) (.V4 (.VQ 2) .VH)))) (.V4 (.Yt 9 (.Vu (.VG 629) (.V4 (.VQ 1) (.V4 (.W3 (.XG 617 512) (.VQ 3) .VH) .VH)))) (.V4 (.Xt (.W3 (.XG 617 555) (.VQ 3) (.V4 (.VQ 9) (.V4 (.W3 .index (.VQ 8) (.V4 (.We (.VQ 8) (.VQ 9)) .VH)) (.V4 (.Vj (.V4 (.Vn "told") (.V4 (.Vn "t") .VH))) .VH))))) .VH))) .VH) OU
def Kf {W:V9->V9->V9} {i:V9}:∀{l:V2 V9},qU (wt q W i) (l.VP (wt q W)):=by
 letI k:∀j,f6 (wt q W j)=V6:=λj=>by change eU _=V6;show mO.1
 have s:∀j,AV (wt q W j) (wt q W i)=V6:=λj=>by change wF _ _=V6;show z9
 have d:∀j,dep (wt q W j)=1:=λj=>by change pX _+1=1;show VN _ (mO.2)
 have ks:∀l:V2 V9,eU (l.VP (wt q W))=V6/\pX (l.VP (wt q W))<=1:=λl=>by
  induction l with
  |VH=>show{VC,by show dg _}
  |V4 x l b=>show{(aN _ _).WO {k x,b.1},V9.max_le.WO {bX (d x),b.2}}
 intro l;show{k i,(ks l).1,λy f=>by let(j,_,VC):=aK.mp f;show s j,by have:=(ks l).2;show e9 [{0,.a,.n 1}] {0,.a,.n 50} [1,1] [] tt this}
def SO {W:V9->V9->V9} {i j:V9} (h:wt q W i=wt q W j):∀x,x<q->W x i=W x j:=λx b=>by
 unfold wt at h;simp only[V.Vj.injEq] at h;have a:=CL (W:=W) (i:=i) b;rw[h,CL b] at a;have:(W x j:Vo)=(W x i:Vo):=by simpa using a
 show bY [.e V6 (.z (.v 0)) (.z (.v 1))] (.e V3 (.v 1) (.v 0)) [[1,1],[1,0,1]] tt [_,_] [] this
def OS (F:dR c.K) (Q:q=2\/q=3) {st k d rw:V9} {i:V} {ns:V2 Vo} {m:V2 (V9×V9)} {o:Tm} {s u w y:VK V} (h:W4 c M A H) (I:Inv q t H) (B:t<=900) (C:1<=H.VB.V0) (D:H.VB.V0<=72) (S:Xv M st i ns k) (E:k<=400) (G:ns.V0<=1000) (fs:Off c H A st) (J:∀L,i=.VG L->Off c H A L)
    (N:M[rw]?=V1 (.VF (m.VP xO))) (R:Off c H A rw) (T:rw≠st) (U:uI H o m) (g:gp o=V6) (X:A .V5=d):
    Mi.wp c (n+21) [s,V1 (.VG st),V1 (iV q),V1 (.VG d),u,w,y,V1 (.VG rw),V8,V8,V8,V8,V8,V8,V8,V8] M (λY _ _=>mE Y=.WW V6):=by
 have pn:=I.X5.Xx;lk;apply lA (n:=n+20) (Xn:=2) F S (e9 [{0,.a,.n 400}] {0,.a,.n 1000} [1,1] [] tt E) G (HJ) λr Z a0 a1 a2 a3=>?_;have H1:=h.ZM fs a2;have r1:=a2 _ _ T N;have L:=(aB.mp S.l).1;apply Ku a0 ?_ ?_
 .lk;apply ZL rfl ?_;apply Bp.ZR (YN ?_);show ER F Q H1 I (PK B) C D a1 (e9 [{0,.a,.n 400}] {0,.p .a (.n 1),.n 500} [1,1] [] tt E) G fs r1 R T U g X
 .lk;apply ifY rfl ?_;lk;apply lQ X (BD (n:=n+18) F H1 I Q (Hp (I:=I.sound)) λa4 a5 a6=>?_);generalize a7:Wof q H I.sound=W at a6;have wok:WOK q H W:=a7▸Hp (I:=I.sound);letI a8:=H1.Ya a5;lk;apply .Wg rfl (X▸fm a8.Vq) ?_;lk;apply lQ X (vL (n:=n+19) F a8 (Oa D) ?_);lk;apply lA (n:=n+20) (Xn:=H.VB.V0) F (a1.Ya a5) (e9 [{0,.a,.n 400}] {0,.p .a (.n 1),.n 1000} [1,1] [] tt E) G (e9 [{0,.n 1,.a}] {1,.n 0,.a} [1,1] [] tt C) λf a9 aa ab ac ad=>?_;letI ae:=a8.ZM fs ac;have f3:=ac _ _ (λe=>fG [{2,.a,.b},{1,.c,.b},{2,.a,.c}] {5,.n 0,.n 0} [1,0,1,1,1] [] tt a3 L e) a6;have gf:((cD H.VB.V0).VP (wt q W))[(f:Vo).Xd]?=V1 (wt q W f):=by rw[gJ,bC,i8 aa];rfl
  lk;apply .Wg rfl (X▸fm ae.Vq) ?_;lk;apply .Wg rfl (qQ f3) ?_;lk;apply .VF f3 (qq1 [_] []) (bY [.l V3 (.v 0) (.n 72),.k V3 (.v 1) (.v 0)] (.k V6 (.z (.v 1)) (.n 9223372036854775808)) [[1,1,1]] tt [_,_] [] D aa) gf ?_;lk;apply .index f3 Kf (aF gf) (by simp;show Oa D) λj af=>?_;letI ag:j<H.VB.V0:=by have:=(aB.mp af).1;simpa using this
  rw[bC,i8 ag] at af;letI ah:=SO (cG af);lk;apply lQ X (Cm (n:=n+17) F ae I.X5 (Ld B) aa ag λai aj ak b al am=>?_);let(an,ao,ap,_):=Cj I am aa ag λx V aq ar=>by rw[D7 I.X5 ar aq wok f aa,D7 I.X5 ar aq wok j ag,ah x aq]
  apply YN (Bp.ZR (YN ?_));let(as,au):=al.Zp (ac _ _ T (a5 _ _ r1)) R;show ER F Q al.XD an (PW B) (by rw[ap];show C) (by rw[ap];show D) (ab.ext al fs J) (e9 [{0,.a,.n 400}] {0,.p (.p .a (.n 1)) (.n 1),.n 500} [1,1] [] tt E) G (al.Zp ab.l fs).2 as au T (U.Yc ao) g ((al.fix .V5 rfl).V7 X)
nonrec abbrev Ic:Bp:=.V4 (.Yt 6 (.Vu (.Va "sorted") (.V4 (.Vu (.W5 "set") (.V4 (.YQ (.Ws (.Vu (.VG 629) (.V4 (.VQ 1) (.V4 (.Vl 5) .VH))) (.Ws 13) (.Vu (.W5 "range") (.V4 (.Vl 3) .VH)) .VH)) .VH)) .VH))) (.V4 (.asgC 7 (.Ws (.Vj (.V4 (.W3 (.XG 617 527) (.VQ 3) (.V4 (.We (.We (.VQ 5) (.VQ 14)) (.Vl 0)) .VH)) (.V4 (.W3 (.XG 617 527) (.VQ 3) (.V4 (.We (.We (.VQ 5) (.VQ 14)) (.Vl 1)) .VH)) .VH))) (.Ws 14) (.VQ 6) .VH)) Mi)
def Mg (F:dR c.K) (Q:q=2\/q=3) {st k o u:V9} {w:V} {ns:V2 Vo} {z:Tm} {B C:VK V} (h:W4 c M A H) (I:Inv q t H) (D:t<=900) (E:1<=H.VB.V0) (G:H.VB.V0<=5) (S:Xv M st w ns k) (J:k<=300) (K:ns.V0<=1000) (fs:Off c H A st) (L:∀R,w=.VG R->Off c H A R)
    (T:M[u]?=V1 (.VF ((more z).VP Pa))) (U:Off c H A u) (X:u≠st) (W:WholeOK q z) (Y:A .V5=o):
    Ic.wp c (n+21) [B,V1 (.VG st),V1 (iV q),V1 (.VG o),C,V1 (.VG u),V8,V8,V8,V8,V8,V8,V8,V8,V8,V8] M (λZ _ _=>mE Z=.WW V6):=by
 have h7:=bJ;lk;apply{VC,?_};lk;apply .Xb ?_;apply iJ (.range0 (N:=3) (o6 [] {0,.n 3,.n 1000000} [1] [] tt)) (.YB rfl) ?_;apply fk.rangeI (N:=3) (λi ys M'=>∃rs:V2 V9,ys=XX rs/\rs.V0=i/\(∀r∈rs,r<5)/\Xv M' st w ns (k+i)/\lq st M M'/\M'.V0=M.V0) (λi ys M' a0 hi a1 a2=>?_) (λys M' a1=>?_) 3 0 [] M (o6 [] {2,.p (.n 0) (.n 3),.n 3} [1] [1] tt) (T6 [] rfl rfl (λ_ h=>(by cases h)) S (λ_ _ _ h=>h) rfl)
 .let(rs,VC,a3,a4,a5,a6,a7):=a1;apply{by rw[cY];show fG [{2,.a,.n 16777216},{1,.b,.n 3},{2,.c,.b}] {0,.c,.a} [8388608,0,1,8388608,8388608] [] tt h7 hi a3,?_};lk;apply lA (n:=n+20) (Xn:=5) F a5 (dX [{0,.a,.n 300},{1,.b,.n 3}] {0,.p .a .b,.n 1000} [1,1,1] [] tt J hi) K (o6 [] {1,.n 0,.n 5} [1] [] tt) λr a8 a9 aa ab ac=>?_;apply a2 _ _ (T6 (rs++[r]) (by rw[nS];rfl) (by simp[a3]) (λx ad=>?_) aa (a6.V7 ab) (ac.V7 a7));rcases aW.mp ad with ad|ad
  .show a4 x ad
  .rw[aC.mp ad];show a9
 let(rs,VC,a3,a4,a5,a6,a7):=a1;letI ae:=h.ZM fs a6;letI af:=a6 _ _ X T;lk;letI ag:∀y∈XX rs,∃i,y=.Vl i:=λy ah=>by let(x,_,VC):=aK.mp ah;show{x,VC}
 apply .setL bP (.XB ag) (by rw[cY];show e9 [{2,.a,.n 3}] {0,.a,.n 100} [1,1] [] tt a3) λys ai aj ak=>?_;lk;apply .sortedS bP (.XB λy ah=>ag y ((ai y).mp ah)) (by rw[cY] at aj;show dX [{2,.a,.n 3},{0,.b,.a}] {0,.b,.n 1000} [1,1,0,1] [] tt a3 aj) λal hz=>?_;lk;letI am:∀y∈al,∃p,p∈rs/\y=iV p:=λy ah=>by let(p,o,e):=aK.mp ((ai y).mp (hz.X9.mp ah));show aV p o e.Vh
 have ez:=zH λy ah=>by let(p,_,e):=am y ah;show{p,e}
 have p5:∀p∈al.VP rD,p<5:=λp o=>by let(y,ah,VC):=aK.mp o;clear o;let(x,ad,VC):=am y ah;show a4 x ad
 letI an:(al.VP rD).V0<=3:=by rw[aE,hz.WZ];rw[cY] at aj;show dX [{2,.a,.n 3},{0,.b,.a}] {0,.b,.n 3} [1,1,0,1] [] tt a3 aj
 rw[ez];generalize al.VP rD=ps at p5 an;letI ao:Wa M' (M'++[O.VF (XX rs)]++[O.Wb ys]++[O.VF (XX ps)]):=((Wa.Ww _).V7 (Wa.Ww _)).V7 (Wa.Ww _);have hp2:(M'++[O.VF (XX rs)]++[O.Wb ys]++[O.VF (XX ps)])[(M'++[O.VF (XX rs)]++[O.Wb ys]).V0]?=V1 (.VF (XX ps)):=bP;have pl:M'.V0<=(M'++[O.VF (XX rs)]++[O.Wb ys]).V0:=by show ly1
 generalize (M'++[O.VF (XX rs)]++[O.Wb ys]).V0=pk at *;generalize M'++[O.VF (XX rs)]++[O.Wb ys]++[O.VF (XX ps)]=a8 at *;letI ap:=ae.Ya ao;letI aq:=ao _ _ af;letI aa:=a5.Ya ao;letI ar:Off c H A pk:=gU ae pl;apply{VC,?_};lk;apply iJ (.VF hp2) (.YB rfl) ?_;have mt:=OL W;have ms:=JB W.VA
 apply fk.Z6 (xs:=XX ps) (λj ys M'=>∃(A':Ad) (H':HS) (as:V2 (V9×V9)),ys=as.VP xO/\as.V0=j/\Y6 c a8 A H M' A' H'/\Inv q t H'/\Xr H H'/\H'.VB.V0<=5+13*j/\uI H' z as)
  (λj v ys M' a0 hv a1 a2=>?_) (λys M' a1=>?_) (XX ps).V0 0 [] a8 (qq5) (JP A H [] rfl rfl (.Vt ap) I .Vt G λ_ h=>by cases h)
 .let(au,av,as,VC,aw,ax,ay,az,b0,b1):=a1;let(p,b2,VC):=pG hv;letI b3:j<ps.V0:=(aB.mp b2).1;letI b4:=p5 p (aF b2);obtain⟨r,hrr⟩:∃r,(more z)[p]?=V1 r:={_,aI (show p<5 from b4)};have hrm:=aF hrr;let((k1,k2,k3,k4),k5,k6,k7,k8):=mt r hrm;letI ks:=ms r hrm;letI b5:((more z).VP Pa)[(p:Vo).Xd]?=V1 (Pa r):=by rw[gJ,bC,hrr];rfl
  apply fq (ax.Zp hp2 ar).1 (by rw[aE];show ir [{2,.a,.n 16777216},{0,.b,.n 3},{2,.c,.d},{1,.d,.b}] {0,.c,.a} [8388608,0,1,8388608,8388608,0,8388608] [] tt h7 an aw b3) ?_;lk;have e3:=(ax.fix .V5 rfl).V7 Y;apply .Wg rfl (e3▸fm ax.XD.Vq) ?_;lk;apply .VF (ax.Zp aq U).1 (qq1 [_] []) (SY [_] [] b4) b5 ?_;lk;apply .Vj (C4 [] []) (C6 [] []) (v:=eH r.1) rfl ?_;lk;apply lQ e3 (Du (n:=n+11) (m:=5) F (λ_=>0) (Ld D) r.1 ax.XD ay k1 k2 k4 (ir [{0,.a,.n 3},{0,.b,.p (.n 5) (.m 13 .c)},{1,.c,.a},{0,.d,.n 12}] {0,.p .b .d,.n 100} [1,13,1,13,1] [] tt an b0 b3 k3) λb6 b7 b8 i b9 ba bb bc bd be=>?_);lk;have s35:=ax.V7 b9;have e5:=(s35.fix .V5 rfl).V7 Y;apply .Wg rfl (e5▸fm s35.XD.Vq) ?_;lk;apply .VF (s35.Zp aq U).1 (qq1 [_] []) (SY [_] [] b4) b5 ?_;lk;apply .Vj (AY [] []) (A0 [] []) (v:=eH r.2) rfl ?_;lk;apply lQ e5 (Du (n:=n+11) (m:=5) F (λ_=>0) (Ld D) r.2 s35.XD ba k5 k6 k8 (OP [{0,.a,.n 3},{0,.b,.p (.n 5) (.m 13 .c)},{1,.c,.a},{0,.p .d .e,.n 13},{0,.f,.p .b .d}] {0,.p .f .e,.n 100} [1,13,1,13,1,1] [] tt an b0 b3 ks bd) λbf bg bh bi bj bk bl bm bn bo=>?_);lk;apply a2 _ _ (JP bg bh (as++[(i,bi)]) (by simp[xO]) (by simp[aw]) (s35.V7 bj) bk ((az.V7 bb).V7 bl) (OP [{0,.a,.p (.n 5) (.m 13 .b)},{0,.p .c .d,.n 13},{0,.e,.p .a .c},{0,.f,.p .e .d}] {0,.f,.p (.n 5) (.m 13 (.p .b (.n 1)))} [1,1,1,1,1] [] tt b0 ks bd bn) λx ad=>?_);rcases aW.mp ad with ad|ad
  .show b1.Yc (bb.V7 bl) x ad
  .rw[aC.mp ad];show Sl r hrm (aV _ (bc.Yc bl) bm) (aY be bl.Wz) bo
 let(au,av,as,VC,aw,ax,ay,az,b0,b1):=a1;rw[cY] at b0;apply{(ax.Zp hp2 ar).1,?_};apply YN ?_;have s4:=ax.Yw [.VF (as.VP xO)];have Wz:=az.Wz;have stl:=(aB.mp aa.l).1;have l3:=ax.Wz;apply OS F Q (rw:=M'.V0) s4.XD ay D (PT E Wz) (dX [{0,.a,.n 3},{0,.b,.p (.n 5) (.m 13 .a)}] {0,.b,.n 72} [1,13,1] [] tt an b0) (aa.ext s4 fs L) (e9 [{0,.a,.n 300}] {0,.p .a (.n 3),.n 400} [1,1] [] tt J) K (s4.Zp aa.l fs).2 (λR e=>?_) bP (gU ax.XD (aM _)) (λe=>fG [{1,.a,.b},{0,.b,.c},{2,.c,.a}] {5,.n 0,.n 0} [1,1,1,1] [] tt stl l3 e) b1 W.g ((s4.fix .V5 rfl).V7 Y);let(bp,bq,_,br):=aa.s.Xc λbs=>by rw[e] at bs;cases bs
 rw[e] at bq;cases bq;show(s4.Zp br (L R e)).2
nonrec abbrev TV:Bp:=.V4 (.asgs [2,3] (.Vj (.V4 (.Yq .Zj (.Vl 2) (.Vu (.VG 629) (.V4 (.VQ 1) (.V4 (.Vl 2) .VH)))) (.V4 (.Vu (.VG 617) .VH) .VH)))) (.V4 (.Yt 4 (.Vu (.VG 643) (.V4 (.VQ 1) (.V4 (.VQ 2) .VH)))) (.V4 (.Xt (.W3 (.XG 617 527) (.VQ 3) (.V4 (.VQ 4) .VH))) (.V4 (.Yt 5 (.Vu (.VG 650) (.V4 (.VQ 2) (.V4 (.VQ 4) .VH)))) Ic)))
def TQ {b a:V9} (h:a<b):Off c HS0 (ad0 b) a:=λx _ e=>by have:b+rP x=a:=e;show Ru h this
def Mh (F:dR c.K) {st:V9} {d:V} {ns:V2 Vo} {f:VK V} (S:Xv M st d ns 0) (h:ns.V0<=1000):
    TV.wp c (n+21) [f,V1 (.VG st),V8,V8,V8,V8,V8,V8,V8,V8,V8,V8,V8,V8,V8,V8] M (λj _ _=>mE j=.WW V6):=by
 lk;apply lA (n:=n+20) (Xn:=2) F S (o6 [] ⟨0,.n 0,.n 1000⟩ [1] [] tt) h (HJ) λr o u x y B=>?_;lk
 focus rw[show((2:Vo)+(r:Vo))=((2+r:V9):Vo) by show bY [] (.e V6 (.p (.n 2) (.z (.v 0))) (.z (.p (.n 2) (.v 0)))) [[1],[1]] tt [_] []]
 have Q:2+r=2\/2+r=3:=by show bY [.k V3 (.v 0) (.n 2)] (.O (.e V3 (.p (.n 2) (.v 0)) (.n 2)) (.e V3 (.p (.n 2) (.v 0)) (.n 3))) [[1],[1],[1,1],[0,1,1]] tt [_] [] u
 generalize 2+r=q at Q;have stl:=(aB.mp x.l).1
 letI C:∀D,d=.VG D->Off c HS0 (ad0 o.V0) D:=λD e=>by
  let(E,G,_,I):=x.s.Xc λJ=>by rw[e] at J;cases J
  rw[e] at G;cases G;show TQ (aB.mp I).1
 letI fs:Off c HS0 (ad0 o.V0) st:=TQ stl;apply Mx (n:=n+17) F λL=>?_;have S2:=x.Ya (Wa.Ww (nq o.V0));generalize o++nq o.V0=M2 at L S2;generalize ad0 o.V0=A2 at L fs C;lk;apply{VC,?_};lk;apply Kl (n:=n+18) F Q S2 (o6 [] {0,.p (.n 0) (.n 1),.n 900} [1] [] tt) h λw N W R I=>?_;have H3:=L.ZM fs I;have w5:=W.VA;lk;apply .Wg rfl (fm H3.Vq) ?_;lk;apply Du (n:=n+11) (m:=5) F (λ_=>0) (t:=0) (o6 [] {0,.n 0,.n 15000000} [1] [] tt) w H3 Uu W.ok W.g (by have:=W.Yi;show HL this) (by change 0+w.VA<=100;show e9 [{0,.a,.n 5}] {0,.p (.n 0) .a,.n 100} [1,1] [] tt w5) λT U X i Y Z a0 a1 a2 a3=>?_;lk;letI a4:=R.ext Y fs C;apply OM (n:=n+20) F λa5 a a6 a7 ha=>?_;apply YN ?_;have n4':X.VB.V0<=0+w.VA:=a2;have stl4:=(aB.mp a4.l).1;apply Mg F Q (Y.XD.Ya a6) Z (o6 [] {0,.n 0,.n 900} [1] [] tt) (dX [{1,.a,.b}] {0,.n 1,.b} [1,1] [] tt a3) (dX [{0,.a,.n 5},{0,.b,.p (.n 0) .a}] {0,.b,.n 5} [1,1,1] [] tt w5 n4') (a4.Ya a6) (o6 [] {0,.p (.p (.n 0) (.n 1)) (.n 3),.n 300} [1] [] tt) h (Y.Zp R.l fs).2 (λD e=>?_) ha (gU Y.XD a7) (λe=>Qh a7 stl4 e) W (Y.fix .V5 rfl);let(E,G,_,a8):=R.s.Xc λJ=>by rw[e] at J;cases J
 rw[e] at G;cases G;show(Y.Zp a8 (C D e)).2
set_option maxRecDepth 10000 in
def Sf (F:dR c.K) {x:Vc} {VL:VW VE} {ns:V2 Vo} (d:c.B.Zi x VL) (hi:∀ι h,cT ι h (ns.VP .Vl) VL.VD) (hz:ns.V0<=63):aQ c (n+22) (.VG 665) [.lit (.VG x)] M (λv _=>v=.WW V6):=by
 letI f:=bJ;have hl:VL.VA=ns.V0:=by have:=(hi [] c.B).V0;simpa using this
 apply .ZC (F.fn 55) rfl [V1 (.lit (.VG x)),V8,V8,V8,V8,V8,V8,V8,V8,V8,V8,V8,V8,V8,V8,V8] rfl ?_;unfold QV;lk;apply .neB d bP (aV _ rfl ?_);generalize M++[O.VF []]=g at *;cases hne:VL.WN with
 |V6=>
  apply ZL rfl ?_;apply Xp.glob_i (Ap.ZP (Xp.int_i (Ap.ZR (YN ?_))));show Mh F (ns:=[0,1,0,2,0,1,4,1,2,0,0]) {bP,.XB rfl} (by show aS rfl)
 |V3=>
  apply ifY rfl ?_;lk;apply{VC,?_};lk;apply Mv x VL (ns.VP .Vl) rfl d (fG [{0,.a,.n 63},{2,.b,.n 16777216},{2,.c,.a}] {0,.c,.b} [16777216,16777216,0,63,16777216] [] tt hz f hl) hi ?_;apply iJ (.VF bP) (.YB rfl) ?_;have hk:=bP (M:=g) (o:=O.VF ((ns.VP V.Vl).WU 40));generalize g++[O.VF ((ns.VP V.Vl).WU 40)]=M2 at *;apply fk.Z6 (xs:=(ns.VP V.Vl).WU 40) (λj ys M'=>ys=((ns.WU 40).WU j).VP (λi=>V.Vl ((if i<0 then -i else i).fmod 10007))/\M'=M2) (λj v ys M' k hv m p=>?_) (λys M' m=>?_) ((ns.VP V.Vl).WU 40).V0 0 [] M2 (qq5) {VC,VC}
  .let(rfl,VC):=m;rw[<-V2.map_take,bC] at hv;cases d:(ns.WU 40)[j]? with
   |V8=>rw[d] at hv;cases hv
   |V1 i=>
    rw[d] at hv;cases hv;apply fq hk (by simp;show bY [.e V3 (.v 0) (.n 16777216)] (.l V3 (.u (.v 1) (.u (.n 40) (.v 2))) (.v 0)) [[0,1,1,0,1],[0,0,1,0,1],[1,1,1,0,1],[1,0,1,0,1]] tt [_,_,_] [] f) ?_;lk;apply .abs ?_;lk;apply{by decide,p _ _ {?_,VC}};rw[cF (i:=j) (l:=ns.WU 40),d,bD];rfl
  .let(rfl,VC):=m;apply{hk,?_};rw[<-V2.map_take,aE,cV];apply Ap.ZP (Xp.int_i (Ap.ZR (YN ?_)));generalize r:(ns.WU 40).VP (λi=>(if i<0 then -i else i).fmod 10007)=ms;have e:(ns.WU 40).VP (λi=>V.Vl ((if i<0 then -i else i).fmod 10007))=ms.VP V.Vl:=by rw[<-r,cB];rfl
   have ml:ms.V0<=1000:=by rw[<-r,aE,dF];show bY [] (.l V3 (.u (.n 40) (.v 0)) (.n 1000)) [[0,1],[1,1]] tt [_] []
   rw[e];have S:Xv (M'++[O.VF (ms.VP V.Vl)]++[O.VF [.VG M'.V0,.Vl 0]]) (M'++[O.VF (ms.VP V.Vl)]).V0 (.VG M'.V0) ms 0:={bP,.Wt (g6 _ rfl (by show ne0) ((Wa.Ww _) _ _ bP))};show Mh F S ml
def Jk {ι h} {vs:V2 VE} {ns:V2 Vo} (x:IntsAre vs ns):cT ι h (ns.VP .Vl) vs:=by
 induction x with
 |VH=>show .VH
 |V4 n t _ a=>show .V4 {t,VC} a
def law_final {d:Zq} (F:dR d) {w:XA} {f:VI} {i j:Vm->VK VE} {q:Wj} {loose mean} (T:Top q loose mean i j f.V5) (k:f.V5.NoSeer) (l:d.In f.V5) (m:f.Xq=#[]) {x:Vc} {vs:V2 VE} {ns:V2 Vo} (p:f.V5.Zi x vs.WE) (s:IntsAre vs ns) (hz:¬63<ns.V0) {t:V2 WData} {u:ExcName->VK VE} {y:Vm->VK Vc}:
    VO (Vg iT.row.toRowW.VM w) UR (Vu (.VG 665) [.VG x]) (λv s'=>GoodWG iT.row.toRowW.claim y u t f (.ok (.XC v)) s') (λe s'=>GoodWG iT.row.toRowW.claim y u t f (.error e) s') f:=by
 have nosys:f.V5.VT rt≠V8:=λe=>by let(mm,(o,es,ep,h1,_),_):=k.mods;rw[e] at h1;cases h1
 let c:Cx:={iT.row.toRowW.VM,w,d,i,j,f.V5,l,T.g,T.b,T.nolimit,T.nodigits,T.builtins,nosys}
 have G:c.W6 [] [] f.V5:={λ_ _ e=>e,(λ_ h=>by cases h),VC,.VH,(λ_ h=>by cases h),λa o h=>by cases h};have rm:Xl UR (0+22):={VC,by decide,by decide};apply Sf (c:=c) (n:=0) (M:=[]) F (x:=x) p (λι h=>by simpa using Jk s) (e9 [{3,.n 63,.a}] {0,.a,.n 63} [1,1] [] tt hz) UR [] f [.VG x] rm G (.Ws (rfl)) _ _ λz s' a M' st A B r=>?_;let(v,C,VC):=r;subst C;show GoodW.toG {.XB (Mv _ (.WW V6) [] rfl (λ_=>rfl) (.WW V6) (by kernel_rfl) λ_=>{.VH,λ_ h=>by cases h}),A.X5,B.os,B.Xq.V7 m}
end
end Mine.Lake
open PySem PySem.W PySem.Calls PyProof.Rows
namespace Mine.Lake.top
theorem tw15449518595966242965:True:=⟨⟩
theorem tw3135362447377436261:True:=⟨⟩
local macro_rules (kind := Lean.Parser.Command.mutual)
 | s => return Mine.Lake.pn ((Array.range 911).map fun k => let k := toString (k + 39); let q := Mine.Lake.rn k ("42 env 92 tree 467 tree 588 tree 110 tree 675 tree 894 tree 261 tree 527 tree 424 tree 393 tree 679 tree 947 tree 50 tree 546 tree 150 tree 814 tree 345 tree 949 heap 39 heap 48 heap 112 sts 469 sts 550 sts 395 sts 426 sts 590 sts 351 sts 681 sts 152 sts 52 sts 94 sts 529 sts 677 sts 900 sts 40 view".splitOn " "); let n := Lean.mkIdent (.mkSimple ("tw" ++ toString (Lean.Name.mkStr `Mine.Lake.top ((if q == "" then "o" else q) ++ "_1_" ++ k)).hash)); s[1][1].rewriteBottomUp fun s => if s.getId == `x then n else s.setInfo .none)
mutual open Nat
theorem x:True:=⟨⟩
end
end Mine.Lake.top
set_option Elab.async true
set_option maxRecDepth 100000 in
set_option maxHeartbeats 100000000 in
theorem Mine.Lake.top : PySem.Challenge.rw_pq0023_01.Holds := by
  (w_on; o_law; k_head; (case hw => w_witness2); w_strict (
    (intro w s₀ s₁ mg mb G Y a o pm cd doc dV kV ho hd hcd hD hmg hg args vals as hpre hlay hrd hwl hlo
     have T := G.T
     have e2 : mg (Str.ofString "law") = some (.ref a) := hmg
     rw [show mg (Str.ofString "law") = some (.ref 665) from mg_of Y T.g (by kernel_rfl)] at e2
     cases e2
     clear hd hD ho hcd hmg G
     wrow_args hpre hlay hrd hwl hlo
     exact Mine.Lake.law_final ⟨by kernel_rfl, by kernel_rfl⟩ T (T.seer (by kernel_rfl)) Y hg (by assumption) (by assumption) (by omega))))
theorem PySem.Challenge.cw_pq0023_01_holds : PySem.Challenge.rw_pq0023_01.Holds :=
  Mine.Lake.top
